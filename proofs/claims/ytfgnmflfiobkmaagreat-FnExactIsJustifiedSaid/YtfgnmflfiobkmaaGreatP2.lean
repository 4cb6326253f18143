/-
  What is proved: for every number and every replacement, the program's IsJustified returns what the reference's returns, and the arguments read as before. Conditions: none.
-/
import Derived.Test.YtfgnmflfiobkmaaGreatP1
set_option maxRecDepth 4000
namespace Go.Proofs.YtfgnmflfiobkmaaGreat
open Go.RowKit
theorem F241 (w0 : World) (n : Int) : Ret Tryz.prog 241 [.int .i64 n] w0 (fun v w => v = .bool (inR n (-1000000000) 1000000000) ∧ w0 = w) := by
 refine enter Tryz.func241 rfl 5 rfl rfl ?_
 intro a hf
 have hW : Below w0.heap.size w0 w0 := Below.refl _ _
 refine wp_seq_k ?_; intro K1 hK1
 refine wp_region_lit ?_
 refine l_ev hf trivial rfl rfl (ev_assign hf rfl) ?_; intro a hf
 refine wpList_nil ?_
 refine hK1 _ _ ?_; try clear hK1 K1
 refine wp_seq_k ?_; intro K2 hK2
 refine wp_region_lit ?_
 refine l_ev hf trivial rfl rfl (ev_move hf rfl) ?_; intro a hf
 refine l_eff hf trivial rfl rfl (ef_call (vs := [.int .i64 n, .int .i64 (-1000000000), .int .i64 1000000000]) hf rfl ff_91 (F91 _ n (-1000000000) 1000000000)) ?_; rintro a _ _ ⟨rfl, rfl⟩ hf
 refine l_ev hf trivial rfl rfl (ev_assign hf rfl) ?_; intro a hf
 refine wpList_nil ?_
 refine hK2 _ _ ?_; try clear hK2 K2
 refine wp_ret ?_
 refine c_ret hf (res1 hf rfl rfl) ?_
 exact ⟨rfl, rfl⟩
theorem F225 (w0 : World) (x : Rg) : Ret Tryz.prog 225 [.agg #[.int .i64 x.a, .int .i64 x.b, .int .i64 x.c, .int .i64 x.d]] w0 (fun v w => v = .bool (rOk x) ∧ Below w0.heap.size w0 w) := by
 refine enter Tryz.func225 rfl 21 rfl rfl ?_
 intro a hf
 have hW : Below w0.heap.size w0 w0 := Below.refl _ _
 refine wp_seq_k ?_; intro K1 hK1
 refine wp_region_lit ?_
 refine l_eff hf trivial rfl rfl (ef_box (zs := [.int .i64 x.a, .int .i64 x.b, .int .i64 x.c, .int .i64 x.d]) hf rfl rfl) ?_; rintro a _ w1 ⟨b2, rfl, hl2, hE, hB2⟩ hf
 have hlo2 := Nat.le_trans hW.size hl2
 replace hW := hW.trans (hE.mono hW.size)
 clear hE
 refine l_ev hf trivial rfl rfl (ev_assign hf rfl) ?_; intro a hf
 refine wpList_nil ?_
 refine hK1 _ _ ?_; try clear hK1 K1
 refine wp_seq_k ?_; intro K3 hK3
 refine c_cut (fun a w => Fr a 21 [(2, .bool ((((inR x.a (-1000000000) 1000000000) && (inR x.b (-1000000000) 1000000000)) && (inR x.c (-1000000000) 1000000000)) && (inR x.d (-1000000000) 1000000000)))] ∧ w1 = w) ?_ ?_
 ·refine wp_region_lit ?_
  refine l_ev hf trivial rfl rfl (ev_fieldB hf rfl fd_187_0 (m := 0) rfl) ?_; intro a hf
  refine l_ev hf trivial rfl rfl (ev_load1 hf rfl t1_3 (hB2.at 0)) ?_; intro a hf
  refine l_eff hf trivial rfl rfl (ef_call (vs := [.int .i64 x.a]) hf rfl ff_241 (F241 _ x.a)) ?_; rintro a _ _ ⟨rfl, rfl⟩ hf
  refine l_ev hf trivial rfl rfl (ev_move hf rfl) ?_; intro a hf
  refine g_split hf (t := 6) rfl (fun hg4 => ?_) (fun hg4 => ?_)
  ·refine l_ev hf ⟨_, _, rfl, rfl, hg4⟩ rfl rfl (ev_fieldB hf rfl fd_187_1 (m := 1) rfl) ?_; intro a hf
   refine l_ev hf ⟨_, _, rfl, rfl, hg4⟩ rfl rfl (ev_load1 hf rfl t1_3 (hB2.at 1)) ?_; intro a hf
   refine l_eff hf ⟨_, _, rfl, rfl, hg4⟩ rfl rfl (ef_call (vs := [.int .i64 x.b]) hf rfl ff_241 (F241 _ x.b)) ?_; rintro a _ _ ⟨rfl, rfl⟩ hf
   refine l_ev hf trivial rfl rfl (ev_pickT hf rfl hg4 rfl) ?_; intro a hf
   refine l_ev hf trivial rfl rfl (ev_move hf rfl) ?_; intro a hf
   refine g_split hf (t := 11) rfl (fun hg5 => ?_) (fun hg5 => ?_)
   ·refine l_ev hf ⟨_, _, rfl, rfl, hg5⟩ rfl rfl (ev_fieldB hf rfl fd_187_2 (m := 2) rfl) ?_; intro a hf
    refine l_ev hf ⟨_, _, rfl, rfl, hg5⟩ rfl rfl (ev_load1 hf rfl t1_3 (hB2.at 2)) ?_; intro a hf
    refine l_eff hf ⟨_, _, rfl, rfl, hg5⟩ rfl rfl (ef_call (vs := [.int .i64 x.c]) hf rfl ff_241 (F241 _ x.c)) ?_; rintro a _ _ ⟨rfl, rfl⟩ hf
    refine l_ev hf trivial rfl rfl (ev_pickT hf rfl hg5 rfl) ?_; intro a hf
    refine l_ev hf trivial rfl rfl (ev_move hf rfl) ?_; intro a hf
    refine g_split hf (t := 16) rfl (fun hg6 => ?_) (fun hg6 => ?_)
    ·refine l_ev hf ⟨_, _, rfl, rfl, hg6⟩ rfl rfl (ev_fieldB hf rfl fd_187_3 (m := 3) rfl) ?_; intro a hf
     refine l_ev hf ⟨_, _, rfl, rfl, hg6⟩ rfl rfl (ev_load1 hf rfl t1_3 (hB2.at 3)) ?_; intro a hf
     refine l_eff hf ⟨_, _, rfl, rfl, hg6⟩ rfl rfl (ef_call (vs := [.int .i64 x.d]) hf rfl ff_241 (F241 _ x.d)) ?_; rintro a _ _ ⟨rfl, rfl⟩ hf
     refine l_ev hf trivial rfl rfl (ev_pickT hf rfl hg6 rfl) ?_; intro a hf
     refine l_ev hf trivial rfl rfl (ev_assign hf rfl) ?_; intro a hf
     refine wpList_nil ?_
     exact ⟨hf.sub ⟨look_bool rfl (by first | rfl | simp [hg4, hg5, hg6]), trivial⟩, rfl⟩
    ·refine l_pass hf ⟨_, _, rfl, rfl, hg6⟩ rfl rfl ?_; intro a hf
     refine l_pass hf ⟨_, _, rfl, rfl, hg6⟩ rfl rfl ?_; intro a hf
     refine l_pass hf ⟨_, _, rfl, rfl, hg6⟩ rfl rfl ?_; intro a hf
     refine l_ev hf trivial rfl rfl (ev_pickF hf rfl hg6 rfl) ?_; intro a hf
     refine l_ev hf trivial rfl rfl (ev_assign hf rfl) ?_; intro a hf
     refine wpList_nil ?_
     exact ⟨hf.sub ⟨look_bool rfl (by first | rfl | simp [hg4, hg5, hg6]), trivial⟩, rfl⟩
   ·refine l_pass hf ⟨_, _, rfl, rfl, hg5⟩ rfl rfl ?_; intro a hf
    refine l_pass hf ⟨_, _, rfl, rfl, hg5⟩ rfl rfl ?_; intro a hf
    refine l_pass hf ⟨_, _, rfl, rfl, hg5⟩ rfl rfl ?_; intro a hf
    refine l_ev hf trivial rfl rfl (ev_pickF hf rfl hg5 rfl) ?_; intro a hf
    refine l_ev hf trivial rfl rfl (ev_move hf rfl) ?_; intro a hf
    refine l_pass hf ⟨_, _, rfl, rfl, rfl⟩ rfl rfl ?_; intro a hf
    refine l_pass hf ⟨_, _, rfl, rfl, rfl⟩ rfl rfl ?_; intro a hf
    refine l_pass hf ⟨_, _, rfl, rfl, rfl⟩ rfl rfl ?_; intro a hf
    refine l_ev hf trivial rfl rfl (ev_pickF hf rfl rfl rfl) ?_; intro a hf
    refine l_ev hf trivial rfl rfl (ev_assign hf rfl) ?_; intro a hf
    refine wpList_nil ?_
    exact ⟨hf.sub ⟨look_bool rfl (by first | rfl | simp [hg4, hg5]), trivial⟩, rfl⟩
  ·refine l_pass hf ⟨_, _, rfl, rfl, hg4⟩ rfl rfl ?_; intro a hf
   refine l_pass hf ⟨_, _, rfl, rfl, hg4⟩ rfl rfl ?_; intro a hf
   refine l_pass hf ⟨_, _, rfl, rfl, hg4⟩ rfl rfl ?_; intro a hf
   refine l_ev hf trivial rfl rfl (ev_pickF hf rfl hg4 rfl) ?_; intro a hf
   refine l_ev hf trivial rfl rfl (ev_move hf rfl) ?_; intro a hf
   refine l_pass hf ⟨_, _, rfl, rfl, rfl⟩ rfl rfl ?_; intro a hf
   refine l_pass hf ⟨_, _, rfl, rfl, rfl⟩ rfl rfl ?_; intro a hf
   refine l_pass hf ⟨_, _, rfl, rfl, rfl⟩ rfl rfl ?_; intro a hf
   refine l_ev hf trivial rfl rfl (ev_pickF hf rfl rfl rfl) ?_; intro a hf
   refine l_ev hf trivial rfl rfl (ev_move hf rfl) ?_; intro a hf
   refine l_pass hf ⟨_, _, rfl, rfl, rfl⟩ rfl rfl ?_; intro a hf
   refine l_pass hf ⟨_, _, rfl, rfl, rfl⟩ rfl rfl ?_; intro a hf
   refine l_pass hf ⟨_, _, rfl, rfl, rfl⟩ rfl rfl ?_; intro a hf
   refine l_ev hf trivial rfl rfl (ev_pickF hf rfl rfl rfl) ?_; intro a hf
   refine l_ev hf trivial rfl rfl (ev_assign hf rfl) ?_; intro a hf
   refine wpList_nil ?_
   exact ⟨hf.sub ⟨look_bool rfl (by first | rfl | simp [hg4]), trivial⟩, rfl⟩
 rintro a _ ⟨hf, rfl⟩
 refine hK3 _ _ ?_; try clear hK3 K3
 refine wp_ret ?_
 refine c_ret hf (res1 hf rfl rfl) ?_
 exact ⟨by simp [rOk, *], hW⟩
theorem F209 (w0 : World) (k : Int) : Ret Tryz.prog 209 [.int .i64 k] w0 (fun v w => v = dV (dPow k) ∧ Below w0.heap.size w0 w) := by
 refine enter Tryz.func209 rfl 7 rfl rfl ?_
 intro a hf
 have hW : Below w0.heap.size w0 w0 := Below.refl _ _
 refine wp_seq_k ?_; intro K1 hK1
 refine wp_region_lit ?_
 refine l_eff hf trivial rfl rfl (ef_alloc (zs := [.int .i64 0, .int .i64 0, .int .i64 0, .int .i64 0, .int .i64 0]) z_189 rfl) ?_; rintro a _ w1 ⟨b2, rfl, hl2, hE, hB2⟩ hf
 have hlo2 := Nat.le_trans hW.size hl2
 replace hW := hW.trans (hE.mono hW.size)
 clear hE
 refine wpList_nil ?_
 refine hK1 _ _ ?_; try clear hK1 K1
 refine wp_seq_k ?_; intro K3 hK3
 refine wp_region_lit ?_
 refine l_ev hf trivial rfl rfl (ev_build (ps := [(0, .int .i64 1)]) (cs := [.int .i64 1, .int .i64 0, .int .i64 0, .int .i64 0]) hf rfl (fun _ => by first | rfl | kernel_rfl)) ?_; intro a hf
 refine l_ev hf trivial rfl rfl (ev_move hf rfl) ?_; intro a hf
 refine l_eff hf trivial rfl rfl (ef_call (vs := [.agg #[.int .i64 1, .int .i64 0, .int .i64 0, .int .i64 0], .int .i64 k]) hf rfl ff_210 (F210 _ (⟨1, 0, 0, 0⟩ : Rg) k)) ?_; rintro a _ w2 ⟨rfl, hE⟩ hf
 replace hB2 := hB2.below hE
 replace hW := hW.trans (hE.mono hW.size)
 clear hE
 refine l_ev hf trivial rfl rfl (ev_build (ps := [(0, .agg #[.int .i64 ((rTurn (⟨1, 0, 0, 0⟩ : Rg) k).a), .int .i64 ((rTurn (⟨1, 0, 0, 0⟩ : Rg) k).b), .int .i64 ((rTurn (⟨1, 0, 0, 0⟩ : Rg) k).c), .int .i64 ((rTurn (⟨1, 0, 0, 0⟩ : Rg) k).d)])]) (cs := [.int .i64 ((rTurn (⟨1, 0, 0, 0⟩ : Rg) k).a), .int .i64 ((rTurn (⟨1, 0, 0, 0⟩ : Rg) k).b), .int .i64 ((rTurn (⟨1, 0, 0, 0⟩ : Rg) k).c), .int .i64 ((rTurn (⟨1, 0, 0, 0⟩ : Rg) k).d), .int .i64 0]) hf rfl (fun _ => by first | rfl | kernel_rfl)) ?_; intro a hf
 refine l_eff0 hf trivial rfl (ef_store (vs := [.int .i64 ((rTurn (⟨1, 0, 0, 0⟩ : Rg) k).a), .int .i64 ((rTurn (⟨1, 0, 0, 0⟩ : Rg) k).b), .int .i64 ((rTurn (⟨1, 0, 0, 0⟩ : Rg) k).c), .int .i64 ((rTurn (⟨1, 0, 0, 0⟩ : Rg) k).d), .int .i64 0]) (l' := [.int .i64 ((rTurn (⟨1, 0, 0, 0⟩ : Rg) k).a), .int .i64 ((rTurn (⟨1, 0, 0, 0⟩ : Rg) k).b), .int .i64 ((rTurn (⟨1, 0, 0, 0⟩ : Rg) k).c), .int .i64 ((rTurn (⟨1, 0, 0, 0⟩ : Rg) k).d), .int .i64 0]) hf rfl rfl sz_189 hB2 rfl rfl rfl rfl rfl) ?_; rintro a _ w3 ⟨ho, hb⟩ hf
 have hold := hB2
 replace hW := Below.only hW ho hlo2
 clear hold
 have hB2 := hb
 clear hb ho
 refine wpList_nil ?_
 refine hK3 _ _ ?_; try clear hK3 K3
 refine wp_ret ?_
 refine c_ret hf (res1 hf rfl (ResV.cellN (l := [.int .i64 ((rTurn (⟨1, 0, 0, 0⟩ : Rg) k).a), .int .i64 ((rTurn (⟨1, 0, 0, 0⟩ : Rg) k).b), .int .i64 ((rTurn (⟨1, 0, 0, 0⟩ : Rg) k).c), .int .i64 ((rTurn (⟨1, 0, 0, 0⟩ : Rg) k).d), .int .i64 0]) rfl tN_189 (hB2.at 0) rfl)) ?_
 exact ⟨rfl, hW⟩
theorem F244 (w0 : World) (x : Dy) : Ret Tryz.prog 244 [.agg #[.int .i64 x.num.a, .int .i64 x.num.b, .int .i64 x.num.c, .int .i64 x.num.d, .int .i64 x.exp]] w0 (fun v w => v = dV (dNeg x) ∧ Below w0.heap.size w0 w) := by
 refine enter Tryz.func244 rfl 9 rfl rfl ?_
 intro a hf
 have hW : Below w0.heap.size w0 w0 := Below.refl _ _
 refine wp_seq_k ?_; intro K1 hK1
 refine wp_region_lit ?_
 refine l_eff hf trivial rfl rfl (ef_box (zs := [.int .i64 x.num.a, .int .i64 x.num.b, .int .i64 x.num.c, .int .i64 x.num.d, .int .i64 x.exp]) hf rfl rfl) ?_; rintro a _ w1 ⟨b2, rfl, hl2, hE, hB2⟩ hf
 have hlo2 := Nat.le_trans hW.size hl2
 replace hW := hW.trans (hE.mono hW.size)
 clear hE
 refine l_eff hf trivial rfl rfl (ef_alloc (zs := [.int .i64 0, .int .i64 0, .int .i64 0, .int .i64 0, .int .i64 0]) z_189 rfl) ?_; rintro a _ w2 ⟨b3, rfl, hl3, hE, hB3⟩ hf
 have hne2_3 : b2 ≠ b3 := by have := hB2.lt; omega
 have hlo3 := Nat.le_trans hW.size hl3
 replace hB2 := hB2.below hE
 replace hW := hW.trans (hE.mono hW.size)
 clear hE
 refine wpList_nil ?_
 refine hK1 _ _ ?_; try clear hK1 K1
 refine wp_seq_k ?_; intro K4 hK4
 refine wp_draw none (fun j => [6].contains j) mixed ?_
 intro w3 hE
 replace hB2 := hB2.below hE
 replace hB3 := hB3.below hE
 replace hW := hW.trans (hE.mono hW.size)
 clear hE
 refine s_ev0 0 rfl (by kernel_rfl) hf trivial rfl rfl (fun _ => ev_fieldB hf rfl fd_189_0 (m := 0) rfl) ?_; intro a hf
 refine s_ev 1 rfl (by kernel_rfl) (by kernel_rfl) hf trivial rfl rfl (ev_loadN (l := [.int .i64 x.num.a, .int .i64 x.num.b, .int .i64 x.num.c, .int .i64 x.num.d]) hf rfl tN_187 ((hB2.at 0).take 4) rfl) ?_; intro a hf
 refine s_ev0 3 rfl (by kernel_rfl) hf trivial rfl rfl (fun _ => ev_fieldB hf rfl fd_189_1 (m := 4) rfl) ?_; intro a hf
 refine s_ev 4 rfl (by kernel_rfl) (by kernel_rfl) hf trivial rfl rfl (ev_load1 hf rfl t1_3 (hB2.at 4)) ?_; intro a hf
 refine s_one 2 (by kernel_rfl) ?_
 refine p_eff rfl hf trivial rfl rfl (Ef.mono (ef_call (vs := [.agg #[.int .i64 x.num.a, .int .i64 x.num.b, .int .i64 x.num.c, .int .i64 x.num.d]]) hf rfl ff_250 (F250 _ x.num)) (fun _ _ h => ⟨fun _ => by obtain ⟨rfl, hE⟩ := h; exact hE, h⟩)) ?_; rintro a _ w4 ⟨rfl, hE⟩ hf
 replace hB2 := hB2.below hE
 replace hB3 := hB3.below hE
 replace hW := hW.trans (hE.mono hW.size)
 clear hE
 refine s_ev0 5 rfl (by kernel_rfl) hf trivial rfl rfl (fun _ => ev_build (ps := [(0, .agg #[.int .i64 ((rNeg x.num).a), .int .i64 ((rNeg x.num).b), .int .i64 ((rNeg x.num).c), .int .i64 ((rNeg x.num).d)]), (1, .int .i64 x.exp)]) (cs := [.int .i64 ((rNeg x.num).a), .int .i64 ((rNeg x.num).b), .int .i64 ((rNeg x.num).c), .int .i64 ((rNeg x.num).d), .int .i64 x.exp]) hf rfl (fun _ => by first | rfl | kernel_rfl)) ?_; intro a hf
 refine s_one 6 (by kernel_rfl) ?_
 refine p_eff0 rfl hf trivial rfl (Ef.mono (ef_store (vs := [.int .i64 ((rNeg x.num).a), .int .i64 ((rNeg x.num).b), .int .i64 ((rNeg x.num).c), .int .i64 ((rNeg x.num).d), .int .i64 x.exp]) (l' := [.int .i64 ((rNeg x.num).a), .int .i64 ((rNeg x.num).b), .int .i64 ((rNeg x.num).c), .int .i64 ((rNeg x.num).d), .int .i64 x.exp]) hf rfl rfl sz_189 hB3 rfl rfl rfl rfl rfl) (fun _ _ h => ⟨fun h0 => absurd h0 (by decide), h⟩)) ?_; rintro a _ w5 ⟨ho, hb⟩ hf
 have hold := hB3
 replace hB2 := hB2.only ho (by omega)
 replace hW := Below.only hW ho hlo3
 clear hold
 have hB3 := hb
 clear hb ho
 refine s_done (by kernel_rfl) ?_
 refine hK4 _ _ ?_; try clear hK4 K4
 refine wp_ret ?_
 refine c_ret hf (res1 hf rfl (ResV.cellN (l := [.int .i64 ((rNeg x.num).a), .int .i64 ((rNeg x.num).b), .int .i64 ((rNeg x.num).c), .int .i64 ((rNeg x.num).d), .int .i64 x.exp]) rfl tN_189 (hB3.at 0) rfl)) ?_
 exact ⟨rfl, hW⟩
theorem F59 (w0 : World) (b : Bool) : Ret Tryz.prog 59 [.bool b] w0 (fun v w => v = .int .i64 (if b = true then 1 else 0) ∧ w0 = w) := by
 refine enter Tryz.func59 rfl 4 rfl rfl ?_
 intro a hf
 have hW : Below w0.heap.size w0 w0 := Below.refl _ _
 refine wp_seq_k ?_; intro K1 hK1
 refine wp_region_lit ?_
 refine l_ev hf trivial rfl rfl (ev_assign hf rfl) ?_; intro a hf
 refine wpList_nil ?_
 refine hK1 _ _ ?_; try clear hK1 K1
 refine wp_seq_k ?_; intro K2 hK2
 refine wp_seq_k ?_; intro K3 hK3
 refine wp_region_lit ?_
 refine l_ev hf trivial rfl rfl (ev_move hf rfl) ?_; intro a hf
 refine wpList_nil ?_
 refine hK3 _ _ ?_; try clear hK3 K3
 refine c_if hf rfl (fun hc4 => ?_) (fun hc4 => ?_)
 ·have hc4b := hc4
  refine wp_seq_k ?_; intro K5 hK5
  refine wp_region_lit ?_
  refine l_ev hf trivial rfl rfl (ev_assign hf rfl) ?_; intro a hf
  refine wpList_nil ?_
  refine hK5 _ _ ?_; try clear hK5 K5
  refine wp_ret ?_
  refine x_retS ?_
  refine c_ret hf (res1 hf rfl rfl) ?_
  exact ⟨by simp [*], rfl⟩
 ·have hc4b := hc4
  refine wp_skip ?_
  refine hK2 _ _ ?_; try clear hK2 K2
  refine wp_seq_k ?_; intro K6 hK6
  refine wp_region_lit ?_
  refine l_ev hf trivial rfl rfl (ev_assign hf rfl) ?_; intro a hf
  refine wpList_nil ?_
  refine hK6 _ _ ?_; try clear hK6 K6
  refine wp_ret ?_
  refine c_ret hf (res1 hf rfl rfl) ?_
  exact ⟨by simp [*], rfl⟩
theorem F187 (w0 : World) (n : Int) : Ret Tryz.prog 187 [.int .i64 n] w0 (fun v w => v = dV (⟨⟨n, 0, 0, 0⟩, 0⟩ : Dy) ∧ Below w0.heap.size w0 w) := by
 refine enter Tryz.func187 rfl 6 rfl rfl ?_
 intro a hf
 have hW : Below w0.heap.size w0 w0 := Below.refl _ _
 refine wp_seq_k ?_; intro K1 hK1
 refine wp_region_lit ?_
 refine l_eff hf trivial rfl rfl (ef_alloc (zs := [.int .i64 0, .int .i64 0, .int .i64 0, .int .i64 0, .int .i64 0]) z_189 rfl) ?_; rintro a _ w1 ⟨b2, rfl, hl2, hE, hB2⟩ hf
 have hlo2 := Nat.le_trans hW.size hl2
 replace hW := hW.trans (hE.mono hW.size)
 clear hE
 refine wpList_nil ?_
 refine hK1 _ _ ?_; try clear hK1 K1
 refine wp_seq_k ?_; intro K3 hK3
 refine wp_region_lit ?_
 refine l_ev hf trivial rfl rfl (ev_move hf rfl) ?_; intro a hf
 refine l_ev hf trivial rfl rfl (ev_build (ps := [(0, .int .i64 n)]) (cs := [.int .i64 n, .int .i64 0, .int .i64 0, .int .i64 0]) hf rfl (fun _ => by first | rfl | kernel_rfl)) ?_; intro a hf
 refine l_ev hf trivial rfl rfl (ev_build (ps := [(0, .agg #[.int .i64 n, .int .i64 0, .int .i64 0, .int .i64 0])]) (cs := [.int .i64 n, .int .i64 0, .int .i64 0, .int .i64 0, .int .i64 0]) hf rfl (fun _ => by first | rfl | kernel_rfl)) ?_; intro a hf
 refine l_eff0 hf trivial rfl (ef_store (vs := [.int .i64 n, .int .i64 0, .int .i64 0, .int .i64 0, .int .i64 0]) (l' := [.int .i64 n, .int .i64 0, .int .i64 0, .int .i64 0, .int .i64 0]) hf rfl rfl sz_189 hB2 rfl rfl rfl rfl rfl) ?_; rintro a _ w2 ⟨ho, hb⟩ hf
 have hold := hB2
 replace hW := Below.only hW ho hlo2
 clear hold
 have hB2 := hb
 clear hb ho
 refine wpList_nil ?_
 refine hK3 _ _ ?_; try clear hK3 K3
 refine wp_ret ?_
 refine c_ret hf (res1 hf rfl (ResV.cellN (l := [.int .i64 n, .int .i64 0, .int .i64 0, .int .i64 0, .int .i64 0]) rfl tN_189 (hB2.at 0) rfl)) ?_
 exact ⟨rfl, hW⟩
theorem F242 (w0 : World) (x : Rg) (Al : Option Addr) (cl : Nat) (l : List Rg) (hr_l : Rd w0 w0.heap.size 187 encR Al l) (hc : cl = l.length) (hl0 : l ≠ []) (hln : l.length ≤ 1000) : Ret Tryz.prog 242 [.agg #[.int .i64 x.a, .int .i64 x.b, .int .i64 x.c, .int .i64 x.d], .slice Al l.length cl] w0 (fun v w => v = .tuple #[rV (rIf1 x l), .bool (rIf2 x l)] ∧ Below w0.heap.size w0 w) := by
 refine enter Tryz.func242 rfl 23 rfl rfl ?_
 intro a hf
 have hW : Below w0.heap.size w0 w0 := Below.refl _ _
 refine wp_seq_k ?_; intro K2 hK2
 refine wp_region_lit ?_
 refine l_eff hf trivial rfl rfl (ef_box (zs := [.int .i64 x.a, .int .i64 x.b, .int .i64 x.c, .int .i64 x.d]) hf rfl rfl) ?_; rintro a _ w1 ⟨b3, rfl, hl3, hE, hB3⟩ hf
 have hlo3 := Nat.le_trans hW.size hl3
 have haw1_3 := hr_l.away hl3
 replace hr_l := hr_l.below hE
 replace hW := hW.trans (hE.mono hW.size)
 clear hE
 refine l_eff hf trivial rfl rfl (ef_alloc (zs := [.int .i64 0, .int .i64 0, .int .i64 0, .int .i64 0]) z_187 rfl) ?_; rintro a _ w2 ⟨b4, rfl, hl4, hE, hB4⟩ hf
 have hne3_4 : b3 ≠ b4 := by have := hB3.lt; omega
 have hlo4 := Nat.le_trans hW.size hl4
 have haw1_4 := hr_l.away hl4
 replace hB3 := hB3.below hE
 replace hr_l := hr_l.below hE
 replace hW := hW.trans (hE.mono hW.size)
 clear hE
 refine l_ev hf trivial rfl rfl (ev_assign hf rfl) ?_; intro a hf
 refine wpList_nil ?_
 refine hK2 _ _ ?_; try clear hK2 K2
 refine wp_seq_k ?_; intro K5 hK5
 refine wp_seq_k ?_; intro K6 hK6
 refine wp_region_lit ?_
 refine l_ev hf trivial rfl rfl (ev_move hf rfl) ?_; intro a hf
 refine l_ev hf trivial rfl rfl (ev_loadN (l := [.int .i64 x.a, .int .i64 x.b, .int .i64 x.c, .int .i64 x.d]) hf rfl tN_187 (hB3.at 0) rfl) ?_; intro a hf
 refine l_eff hf trivial rfl rfl (ef_buildSlice (k := 1) (vs := [.agg #[.int .i64 x.a, .int .i64 x.b, .int .i64 x.c, .int .i64 x.d]]) (zs := [.int .i64 x.a, .int .i64 x.b, .int .i64 x.c, .int .i64 x.d]) hf rfl sl_278 inf_187 rfl rfl) ?_; rintro a _ w3 ⟨b7, rfl, hl7, hE, hB7⟩ hf
 have hne3_7 : b3 ≠ b7 := by have := hB3.lt; omega
 have hne4_7 : b4 ≠ b7 := by have := hB4.lt; omega
 have hlo7 := Nat.le_trans hW.size hl7
 have haw1_7 := hr_l.away hl7
 replace hB3 := hB3.below hE
 replace hB4 := hB4.below hE
 replace hr_l := hr_l.below hE
 replace hW := hW.trans (hE.mono hW.size)
 clear hE
 refine l_eff hf trivial rfl rfl (ef_appendFull (enc := encR) (l := (l)) (l2 := ([x])) hf rfl rfl sl_278 inf_187 encR_len hr_l (Rd.of_blk hB7 rfl _ hB7.lt) hc hl0 (by simp) (by simp only [maxLen]; simp; omega) (by simp; omega)) ?_; rintro a _ w4 ⟨A9, c9, rfl, ho9, hE⟩ hf
 have haw9_3 := ho9.awayNew hB3.lt
 have haw9_4 := ho9.awayNew hB4.lt
 have haw9_7 := ho9.awayNew hB7.lt
 replace ho9 := ho9.lower hW.size
 replace hB3 := hB3.below hE
 replace hB4 := hB4.below hE
 replace hB7 := hB7.below hE
 replace hr_l := hr_l.below hE
 replace hW := hW.trans (hE.mono hW.size)
 clear hE
 refine l_ev hf trivial rfl rfl (ev_len hf rfl sl_278) ?_; intro a hf
 refine l_ev hf trivial rfl rfl (ev_move hf rfl) ?_; intro a hf
 refine wpList_nil ?_
 refine hK6 _ _ ?_; try clear hK6 K6
 refine wp_block ?_
 have hlen : (l ++ [x]).length ≤ 1001 := by simp; omega
 refine c_loop (σ := Nat) (fun (k : Nat) (a : Act) (w : World) => Fr a 23 [(2, .pointer (some ⟨b3, 0, none⟩)), (4, .pointer (some ⟨b4, 0, none⟩)), (11, .slice A9 (l ++ ([x])).length c9), (12, .int .i64 ((l ++ ([x])).length : Int)), (13, .int .i64 (k : Int))] ∧ (k ≤ (l ++ [x]).length) ∧ (((l ++ [x]).take k).all rOk = true) ∧ Blk w b3 187 [.int .i64 x.a, .int .i64 x.b, .int .i64 x.c, .int .i64 x.d] ∧ Blk w b4 187 [.int .i64 0, .int .i64 0, .int .i64 0, .int .i64 0] ∧ Blk w b7 187 [.int .i64 x.a, .int .i64 x.b, .int .i64 x.c, .int .i64 x.d] ∧ Rd w w0.heap.size 187 encR Al l ∧ Own w w0.heap.size 187 4 encR A9 c9 (l ++ ([x])) ∧ Below w0.heap.size w0 w) (fun (k : Nat) => (l ++ [x]).length + 1 - k) 0 ?_ ?_
 · exact ⟨hf.sub ⟨rfl, rfl, rfl, rfl, rfl, trivial⟩, (Nat.zero_le _), (by simp), hB3, hB4, hB7, hr_l, ho9, hW⟩
 rintro k a w5 ⟨hf, hk, hpre, hB3, hB4, hB7, hr_l, ho9, hW⟩
 refine wp_seq_k ?_; intro K10 hK10
 refine wp_region_lit ?_
 refine l_ev hf trivial rfl rfl (ev_lss hf rfl rfl) ?_; intro a hf
 refine wpList_nil ?_
 refine hK10 _ _ ?_; try clear hK10 K10
 refine wp_seq_k ?_; intro K11 hK11
 refine c_if hf rfl (fun hc12 => ?_) (fun hc12 => ?_)
 ·have hc12b := hc12
  have hc12 := of_decide_eq_true hc12
  obtain ⟨u13, hu13⟩ := getElem_ex (l := (l ++ ([x]))) (k := k) (by omega)
  refine wp_skip ?_
  refine hK11 _ _ ?_; try clear hK11 K11
  refine wp_seq_k ?_; intro K14 hK14
  refine wp_block ?_
  refine wp_seq_k ?_; intro K15 hK15
  refine wp_region_lit ?_
  refine l_index (k := k) (u := u13) (enc := encR) (l := l ++ ([x])) hf trivial rfl rfl rfl sl_278 sz_187 encR_len ho9.rd hu13 rfl ?_; intro a p17 hat16 hf
  refine l_ev hf trivial rfl rfl (ev_loadN (l := [.int .i64 u13.a, .int .i64 u13.b, .int .i64 u13.c, .int .i64 u13.d]) hf rfl tN_187 hat16 rfl) ?_; intro a hf
  refine l_eff hf trivial rfl rfl (ef_alloc (zs := [.int .i64 0, .int .i64 0, .int .i64 0, .int .i64 0]) z_187 rfl) ?_; rintro a _ w6 ⟨b18, rfl, hl18, hE, hB18⟩ hf
  have hne3_18 : b3 ≠ b18 := by have := hB3.lt; omega
  have hne4_18 : b4 ≠ b18 := by have := hB4.lt; omega
  have hne7_18 : b7 ≠ b18 := by have := hB7.lt; omega
  have hlo18 := Nat.le_trans hW.size hl18
  have haw1_18 := hr_l.away hl18
  have haw9_18 := ho9.away hl18
  replace hB3 := hB3.below hE
  replace hB4 := hB4.below hE
  replace hB7 := hB7.below hE
  replace hr_l := hr_l.below hE
  replace ho9 := ho9.below hE
  replace hW := hW.trans (hE.mono hW.size)
  clear hE
  refine l_eff0 hf trivial rfl (ef_store (vs := [.int .i64 u13.a, .int .i64 u13.b, .int .i64 u13.c, .int .i64 u13.d]) (l' := [.int .i64 u13.a, .int .i64 u13.b, .int .i64 u13.c, .int .i64 u13.d]) hf rfl rfl sz_187 hB18 rfl rfl rfl rfl rfl) ?_; rintro a _ w7 ⟨ho, hb⟩ hf
  have hold := hB18
  replace hB3 := hB3.only ho (by omega)
  replace hB4 := hB4.only ho (by omega)
  replace hB7 := hB7.only ho (by omega)
  replace hr_l := hr_l.only ho hlo18
  replace ho9 := ho9.onlyA ho haw9_18
  replace hW := Below.only hW ho hlo18
  clear hold
  have hB18 := hb
  clear hb ho
  refine wpList_nil ?_
  refine hK15 _ _ ?_; try clear hK15 K15
  refine wp_seq_k ?_; intro K19 hK19
  refine wp_region_lit ?_
  refine l_ev hf trivial rfl rfl (ev_loadN (l := [.int .i64 u13.a, .int .i64 u13.b, .int .i64 u13.c, .int .i64 u13.d]) hf rfl tN_187 (hB18.at 0) rfl) ?_; intro a hf
  refine l_eff hf trivial rfl rfl (ef_call (vs := [.agg #[.int .i64 u13.a, .int .i64 u13.b, .int .i64 u13.c, .int .i64 u13.d]]) hf rfl ff_225 (F225 _ u13)) ?_; rintro a _ w8 ⟨rfl, hE⟩ hf
  replace hB3 := hB3.below hE
  replace hB4 := hB4.below hE
  replace hB7 := hB7.below hE
  replace hB18 := hB18.below hE
  replace hr_l := hr_l.below hE
  replace ho9 := ho9.below hE
  replace hW := hW.trans (hE.mono hW.size)
  clear hE
  refine l_ev hf trivial rfl rfl (ev_not hf rfl) ?_; intro a hf
  refine wpList_nil ?_
  refine hK19 _ _ ?_; try clear hK19 K19
  refine c_if hf rfl (fun hc20 => ?_) (fun hc20 => ?_)
  ·have hc20b := hc20
   have hb2 : rIf2 x l = false := all_false hu13 (by simpa using hc20)
   refine wp_seq_k ?_; intro K21 hK21
   refine wp_region_lit ?_
   refine l_ev hf trivial rfl rfl (ev_build (ps := []) (cs := [.int .i64 0, .int .i64 0, .int .i64 0, .int .i64 0]) hf rfl (fun _ => by first | rfl | kernel_rfl)) ?_; intro a hf
   refine l_eff0 hf trivial rfl (ef_store (vs := [.int .i64 0, .int .i64 0, .int .i64 0, .int .i64 0]) (l' := [.int .i64 0, .int .i64 0, .int .i64 0, .int .i64 0]) hf rfl rfl sz_187 hB4 rfl rfl rfl rfl rfl) ?_; rintro a _ w9 ⟨ho, hb⟩ hf
   have hold := hB4
   replace hB3 := hB3.only ho (by omega)
   replace hB7 := hB7.only ho (by omega)
   replace hB18 := hB18.only ho (by omega)
   replace hr_l := hr_l.only ho hlo4
   replace ho9 := ho9.onlyA ho haw9_4
   replace hW := Below.only hW ho hlo4
   clear hold
   have hB4 := hb
   clear hb ho
   refine l_ev hf trivial rfl rfl (ev_assign hf rfl) ?_; intro a hf
   refine wpList_nil ?_
   refine hK21 _ _ ?_; try clear hK21 K21
   refine wp_ret ?_
   refine x_retB ?_
   refine x_retS ?_
   refine x_retS ?_
   refine x_retB ?_
   refine x_retS ?_
   refine c_ret hf (res2 hf rfl (ResV.cellN (l := [.int .i64 0, .int .i64 0, .int .i64 0, .int .i64 0]) rfl tN_187 (hB4.at 0) rfl) rfl) ?_
   exact ⟨by simp [rIf1, hb2], hW⟩
  ·have hc20b := hc20
   have hok : rOk u13 = true := by simpa using hc20
   refine wp_skip ?_
   refine x_norm ?_
   refine hK14 _ _ ?_; try clear hK14 K14
   refine wp_region_lit ?_
   refine l_ev hf trivial rfl rfl (ev_addx hf rfl rfl (by omega) (by omega)) ?_; intro a hf
   refine l_ev hf trivial rfl rfl (ev_move hf rfl) ?_; intro a hf
   refine wpList_nil ?_
   refine x_thenN ?_
   exact ⟨k + 1, ⟨hf.sub ⟨rfl, rfl, rfl, rfl, rfl, trivial⟩, (by omega), (take_all hpre hu13 hok), hB3, hB4, hB7, hr_l, ho9, hW⟩, (by omega)⟩
 ·have hc12b := hc12
  have hc12 := of_decide_eq_false hc12
  refine wp_exit ?_
  refine x_exS ?_
  refine x_exS ?_
  refine x_exit ?_
  refine hK5 _ _ ?_; try clear hK5 K5
  refine wp_seq_k ?_; intro K22 hK22
  refine wp_region_lit ?_
  refine l_ev hf trivial rfl rfl (ev_loadN (l := [.int .i64 x.a, .int .i64 x.b, .int .i64 x.c, .int .i64 x.d]) hf rfl tN_187 (hB3.at 0) rfl) ?_; intro a hf
  refine l_eff0 hf trivial rfl (ef_store (vs := [.int .i64 x.a, .int .i64 x.b, .int .i64 x.c, .int .i64 x.d]) (l' := [.int .i64 x.a, .int .i64 x.b, .int .i64 x.c, .int .i64 x.d]) hf rfl rfl sz_187 hB4 rfl rfl rfl rfl rfl) ?_; rintro a _ w10 ⟨ho, hb⟩ hf
  have hold := hB4
  replace hB3 := hB3.only ho (by omega)
  replace hB7 := hB7.only ho (by omega)
  replace hr_l := hr_l.only ho hlo4
  replace ho9 := ho9.onlyA ho haw9_4
  replace hW := Below.only hW ho hlo4
  clear hold
  have hB4 := hb
  clear hb ho
  refine l_ev hf trivial rfl rfl (ev_assign hf rfl) ?_; intro a hf
  refine wpList_nil ?_
  refine hK22 _ _ ?_; try clear hK22 K22
  refine wp_ret ?_
  refine c_ret hf (res2 hf rfl (ResV.cellN (l := [.int .i64 x.a, .int .i64 x.b, .int .i64 x.c, .int .i64 x.d]) rfl tN_187 (hB4.at 0) rfl) rfl) ?_
  have hb2 : rIf2 x l = true := take_full hpre (by omega)
  exact ⟨by simp [rIf1, hb2], hW⟩
theorem F227 (w0 : World) (x : Rg) (y : Rg) : Ret Tryz.prog 227 [.agg #[.int .i64 x.a, .int .i64 x.b, .int .i64 x.c, .int .i64 x.d], .agg #[.int .i64 y.a, .int .i64 y.b, .int .i64 y.c, .int .i64 y.d]] w0 (fun v w => v = .tuple #[rV (rIf1 (rMul x y) [x, y]), .bool (rIf2 (rMul x y) [x, y])] ∧ Below w0.heap.size w0 w) := by
 refine enter Tryz.func227 rfl 105 rfl rfl ?_
 intro a hf
 have hW : Below w0.heap.size w0 w0 := Below.refl _ _
 refine wp_seq_k ?_; intro K1 hK1
 refine wp_region_lit ?_
 refine l_eff hf trivial rfl rfl (ef_box (zs := [.int .i64 x.a, .int .i64 x.b, .int .i64 x.c, .int .i64 x.d]) hf rfl rfl) ?_; rintro a _ w1 ⟨b2, rfl, hl2, hE, hB2⟩ hf
 have hlo2 := Nat.le_trans hW.size hl2
 replace hW := hW.trans (hE.mono hW.size)
 clear hE
 refine l_eff hf trivial rfl rfl (ef_box (zs := [.int .i64 y.a, .int .i64 y.b, .int .i64 y.c, .int .i64 y.d]) hf rfl rfl) ?_; rintro a _ w2 ⟨b3, rfl, hl3, hE, hB3⟩ hf
 have hne2_3 : b2 ≠ b3 := by have := hB2.lt; omega
 have hlo3 := Nat.le_trans hW.size hl3
 replace hB2 := hB2.below hE
 replace hW := hW.trans (hE.mono hW.size)
 clear hE
 refine l_eff hf trivial rfl rfl (ef_alloc (zs := [.int .i64 0, .int .i64 0, .int .i64 0, .int .i64 0]) z_187 rfl) ?_; rintro a _ w3 ⟨b4, rfl, hl4, hE, hB4⟩ hf
 have hne2_4 : b2 ≠ b4 := by have := hB2.lt; omega
 have hne3_4 : b3 ≠ b4 := by have := hB3.lt; omega
 have hlo4 := Nat.le_trans hW.size hl4
 replace hB2 := hB2.below hE
 replace hB3 := hB3.below hE
 replace hW := hW.trans (hE.mono hW.size)
 clear hE
 refine l_ev hf trivial rfl rfl (ev_assign hf rfl) ?_; intro a hf
 refine wpList_nil ?_
 refine hK1 _ _ ?_; try clear hK1 K1
 refine wp_seq_k ?_; intro K5 hK5
 refine wp_region_lit ?_
 refine l_ev hf trivial rfl rfl (ev_fieldB hf rfl fd_187_0 (m := 0) rfl) ?_; intro a hf
 refine l_ev hf trivial rfl rfl (ev_load1 hf rfl t1_3 (hB2.at 0)) ?_; intro a hf
 refine l_ev hf trivial rfl rfl (ev_fieldB hf rfl fd_187_0 (m := 0) rfl) ?_; intro a hf
 refine l_ev hf trivial rfl rfl (ev_load1 hf rfl t1_3 (hB3.at 0)) ?_; intro a hf
 refine l_ev hf trivial rfl rfl (ev_mul hf rfl rfl) ?_; intro a hf
 refine l_ev hf trivial rfl rfl (ev_fieldB hf rfl fd_187_1 (m := 1) rfl) ?_; intro a hf
 refine l_ev hf trivial rfl rfl (ev_load1 hf rfl t1_3 (hB2.at 1)) ?_; intro a hf
 refine l_ev hf trivial rfl rfl (ev_fieldB hf rfl fd_187_3 (m := 3) rfl) ?_; intro a hf
 refine l_ev hf trivial rfl rfl (ev_load1 hf rfl t1_3 (hB3.at 3)) ?_; intro a hf
 refine l_ev hf trivial rfl rfl (ev_mul hf rfl rfl) ?_; intro a hf
 refine l_ev hf trivial rfl rfl (ev_sub hf rfl rfl) ?_; intro a hf
 refine l_ev hf trivial rfl rfl (ev_fieldB hf rfl fd_187_2 (m := 2) rfl) ?_; intro a hf
 refine l_ev hf trivial rfl rfl (ev_load1 hf rfl t1_3 (hB2.at 2)) ?_; intro a hf
 refine l_ev hf trivial rfl rfl (ev_fieldB hf rfl fd_187_2 (m := 2) rfl) ?_; intro a hf
 refine l_ev hf trivial rfl rfl (ev_load1 hf rfl t1_3 (hB3.at 2)) ?_; intro a hf
 refine l_ev hf trivial rfl rfl (ev_mul hf rfl rfl) ?_; intro a hf
 refine l_ev hf trivial rfl rfl (ev_sub hf rfl rfl) ?_; intro a hf
 refine l_ev hf trivial rfl rfl (ev_fieldB hf rfl fd_187_3 (m := 3) rfl) ?_; intro a hf
 refine l_ev hf trivial rfl rfl (ev_load1 hf rfl t1_3 (hB2.at 3)) ?_; intro a hf
 refine l_ev hf trivial rfl rfl (ev_fieldB hf rfl fd_187_1 (m := 1) rfl) ?_; intro a hf
 refine l_ev hf trivial rfl rfl (ev_load1 hf rfl t1_3 (hB3.at 1)) ?_; intro a hf
 refine l_ev hf trivial rfl rfl (ev_mul hf rfl rfl) ?_; intro a hf
 refine l_ev hf trivial rfl rfl (ev_sub hf rfl rfl) ?_; intro a hf
 refine l_ev hf trivial rfl rfl (ev_fieldB hf rfl fd_187_0 (m := 0) rfl) ?_; intro a hf
 refine l_ev hf trivial rfl rfl (ev_load1 hf rfl t1_3 (hB2.at 0)) ?_; intro a hf
 refine l_ev hf trivial rfl rfl (ev_fieldB hf rfl fd_187_1 (m := 1) rfl) ?_; intro a hf
 refine l_ev hf trivial rfl rfl (ev_load1 hf rfl t1_3 (hB3.at 1)) ?_; intro a hf
 refine l_ev hf trivial rfl rfl (ev_mul hf rfl rfl) ?_; intro a hf
 refine l_ev hf trivial rfl rfl (ev_fieldB hf rfl fd_187_1 (m := 1) rfl) ?_; intro a hf
 refine l_ev hf trivial rfl rfl (ev_load1 hf rfl t1_3 (hB2.at 1)) ?_; intro a hf
 refine l_ev hf trivial rfl rfl (ev_fieldB hf rfl fd_187_0 (m := 0) rfl) ?_; intro a hf
 refine l_ev hf trivial rfl rfl (ev_load1 hf rfl t1_3 (hB3.at 0)) ?_; intro a hf
 refine l_ev hf trivial rfl rfl (ev_mul hf rfl rfl) ?_; intro a hf
 refine l_ev hf trivial rfl rfl (ev_add hf rfl rfl) ?_; intro a hf
 refine l_ev hf trivial rfl rfl (ev_fieldB hf rfl fd_187_2 (m := 2) rfl) ?_; intro a hf
 refine l_ev hf trivial rfl rfl (ev_load1 hf rfl t1_3 (hB2.at 2)) ?_; intro a hf
 refine l_ev hf trivial rfl rfl (ev_fieldB hf rfl fd_187_3 (m := 3) rfl) ?_; intro a hf
 refine l_ev hf trivial rfl rfl (ev_load1 hf rfl t1_3 (hB3.at 3)) ?_; intro a hf
 refine l_ev hf trivial rfl rfl (ev_mul hf rfl rfl) ?_; intro a hf
 refine l_ev hf trivial rfl rfl (ev_sub hf rfl rfl) ?_; intro a hf
 refine l_ev hf trivial rfl rfl (ev_fieldB hf rfl fd_187_3 (m := 3) rfl) ?_; intro a hf
 refine l_ev hf trivial rfl rfl (ev_load1 hf rfl t1_3 (hB2.at 3)) ?_; intro a hf
 refine l_ev hf trivial rfl rfl (ev_fieldB hf rfl fd_187_2 (m := 2) rfl) ?_; intro a hf
 refine l_ev hf trivial rfl rfl (ev_load1 hf rfl t1_3 (hB3.at 2)) ?_; intro a hf
 refine l_ev hf trivial rfl rfl (ev_mul hf rfl rfl) ?_; intro a hf
 refine l_ev hf trivial rfl rfl (ev_sub hf rfl rfl) ?_; intro a hf
 refine l_ev hf trivial rfl rfl (ev_fieldB hf rfl fd_187_0 (m := 0) rfl) ?_; intro a hf
 refine l_ev hf trivial rfl rfl (ev_load1 hf rfl t1_3 (hB2.at 0)) ?_; intro a hf
 refine l_ev hf trivial rfl rfl (ev_fieldB hf rfl fd_187_2 (m := 2) rfl) ?_; intro a hf
 refine l_ev hf trivial rfl rfl (ev_load1 hf rfl t1_3 (hB3.at 2)) ?_; intro a hf
 refine l_ev hf trivial rfl rfl (ev_mul hf rfl rfl) ?_; intro a hf
 refine l_ev hf trivial rfl rfl (ev_fieldB hf rfl fd_187_1 (m := 1) rfl) ?_; intro a hf
 refine l_ev hf trivial rfl rfl (ev_load1 hf rfl t1_3 (hB2.at 1)) ?_; intro a hf
 refine l_ev hf trivial rfl rfl (ev_fieldB hf rfl fd_187_1 (m := 1) rfl) ?_; intro a hf
 refine l_ev hf trivial rfl rfl (ev_load1 hf rfl t1_3 (hB3.at 1)) ?_; intro a hf
 refine l_ev hf trivial rfl rfl (ev_mul hf rfl rfl) ?_; intro a hf
 refine l_ev hf trivial rfl rfl (ev_add hf rfl rfl) ?_; intro a hf
 refine l_ev hf trivial rfl rfl (ev_fieldB hf rfl fd_187_2 (m := 2) rfl) ?_; intro a hf
 refine l_ev hf trivial rfl rfl (ev_load1 hf rfl t1_3 (hB2.at 2)) ?_; intro a hf
 refine l_ev hf trivial rfl rfl (ev_fieldB hf rfl fd_187_0 (m := 0) rfl) ?_; intro a hf
 refine l_ev hf trivial rfl rfl (ev_load1 hf rfl t1_3 (hB3.at 0)) ?_; intro a hf
 refine l_ev hf trivial rfl rfl (ev_mul hf rfl rfl) ?_; intro a hf
 refine l_ev hf trivial rfl rfl (ev_add hf rfl rfl) ?_; intro a hf
 refine l_ev hf trivial rfl rfl (ev_fieldB hf rfl fd_187_3 (m := 3) rfl) ?_; intro a hf
 refine l_ev hf trivial rfl rfl (ev_load1 hf rfl t1_3 (hB2.at 3)) ?_; intro a hf
 refine l_ev hf trivial rfl rfl (ev_fieldB hf rfl fd_187_3 (m := 3) rfl) ?_; intro a hf
 refine l_ev hf trivial rfl rfl (ev_load1 hf rfl t1_3 (hB3.at 3)) ?_; intro a hf
 refine l_ev hf trivial rfl rfl (ev_mul hf rfl rfl) ?_; intro a hf
 refine l_ev hf trivial rfl rfl (ev_sub hf rfl rfl) ?_; intro a hf
 refine l_ev hf trivial rfl rfl (ev_fieldB hf rfl fd_187_0 (m := 0) rfl) ?_; intro a hf
 refine l_ev hf trivial rfl rfl (ev_load1 hf rfl t1_3 (hB2.at 0)) ?_; intro a hf
 refine l_ev hf trivial rfl rfl (ev_fieldB hf rfl fd_187_3 (m := 3) rfl) ?_; intro a hf
 refine l_ev hf trivial rfl rfl (ev_load1 hf rfl t1_3 (hB3.at 3)) ?_; intro a hf
 refine l_ev hf trivial rfl rfl (ev_mul hf rfl rfl) ?_; intro a hf
 refine l_ev hf trivial rfl rfl (ev_fieldB hf rfl fd_187_1 (m := 1) rfl) ?_; intro a hf
 refine l_ev hf trivial rfl rfl (ev_load1 hf rfl t1_3 (hB2.at 1)) ?_; intro a hf
 refine l_ev hf trivial rfl rfl (ev_fieldB hf rfl fd_187_2 (m := 2) rfl) ?_; intro a hf
 refine l_ev hf trivial rfl rfl (ev_load1 hf rfl t1_3 (hB3.at 2)) ?_; intro a hf
 refine l_ev hf trivial rfl rfl (ev_mul hf rfl rfl) ?_; intro a hf
 refine l_ev hf trivial rfl rfl (ev_add hf rfl rfl) ?_; intro a hf
 refine l_ev hf trivial rfl rfl (ev_fieldB hf rfl fd_187_2 (m := 2) rfl) ?_; intro a hf
 refine l_ev hf trivial rfl rfl (ev_load1 hf rfl t1_3 (hB2.at 2)) ?_; intro a hf
 refine l_ev hf trivial rfl rfl (ev_fieldB hf rfl fd_187_1 (m := 1) rfl) ?_; intro a hf
 refine l_ev hf trivial rfl rfl (ev_load1 hf rfl t1_3 (hB3.at 1)) ?_; intro a hf
 refine l_ev hf trivial rfl rfl (ev_mul hf rfl rfl) ?_; intro a hf
 refine l_ev hf trivial rfl rfl (ev_add hf rfl rfl) ?_; intro a hf
 refine l_ev hf trivial rfl rfl (ev_fieldB hf rfl fd_187_3 (m := 3) rfl) ?_; intro a hf
 refine l_ev hf trivial rfl rfl (ev_load1 hf rfl t1_3 (hB2.at 3)) ?_; intro a hf
 refine l_ev hf trivial rfl rfl (ev_fieldB hf rfl fd_187_0 (m := 0) rfl) ?_; intro a hf
 refine l_ev hf trivial rfl rfl (ev_load1 hf rfl t1_3 (hB3.at 0)) ?_; intro a hf
 refine l_ev hf trivial rfl rfl (ev_mul hf rfl rfl) ?_; intro a hf
 refine l_ev hf trivial rfl rfl (ev_add hf rfl rfl) ?_; intro a hf
 refine l_ev hf trivial rfl rfl (ev_build (ps := [(0, .int .i64 (IntKind.i64.wrap ((IntKind.i64.wrap ((IntKind.i64.wrap ((IntKind.i64.wrap (x.a * y.a)) - (IntKind.i64.wrap (x.b * y.d)))) - (IntKind.i64.wrap (x.c * y.c)))) - (IntKind.i64.wrap (x.d * y.b))))), (1, .int .i64 (IntKind.i64.wrap ((IntKind.i64.wrap ((IntKind.i64.wrap ((IntKind.i64.wrap (x.a * y.b)) + (IntKind.i64.wrap (x.b * y.a)))) - (IntKind.i64.wrap (x.c * y.d)))) - (IntKind.i64.wrap (x.d * y.c))))), (2, .int .i64 (IntKind.i64.wrap ((IntKind.i64.wrap ((IntKind.i64.wrap ((IntKind.i64.wrap (x.a * y.c)) + (IntKind.i64.wrap (x.b * y.b)))) + (IntKind.i64.wrap (x.c * y.a)))) - (IntKind.i64.wrap (x.d * y.d))))), (3, .int .i64 (IntKind.i64.wrap ((IntKind.i64.wrap ((IntKind.i64.wrap ((IntKind.i64.wrap (x.a * y.d)) + (IntKind.i64.wrap (x.b * y.c)))) + (IntKind.i64.wrap (x.c * y.b)))) + (IntKind.i64.wrap (x.d * y.a)))))]) (cs := [.int .i64 (IntKind.i64.wrap ((IntKind.i64.wrap ((IntKind.i64.wrap ((IntKind.i64.wrap (x.a * y.a)) - (IntKind.i64.wrap (x.b * y.d)))) - (IntKind.i64.wrap (x.c * y.c)))) - (IntKind.i64.wrap (x.d * y.b)))), .int .i64 (IntKind.i64.wrap ((IntKind.i64.wrap ((IntKind.i64.wrap ((IntKind.i64.wrap (x.a * y.b)) + (IntKind.i64.wrap (x.b * y.a)))) - (IntKind.i64.wrap (x.c * y.d)))) - (IntKind.i64.wrap (x.d * y.c)))), .int .i64 (IntKind.i64.wrap ((IntKind.i64.wrap ((IntKind.i64.wrap ((IntKind.i64.wrap (x.a * y.c)) + (IntKind.i64.wrap (x.b * y.b)))) + (IntKind.i64.wrap (x.c * y.a)))) - (IntKind.i64.wrap (x.d * y.d)))), .int .i64 (IntKind.i64.wrap ((IntKind.i64.wrap ((IntKind.i64.wrap ((IntKind.i64.wrap (x.a * y.d)) + (IntKind.i64.wrap (x.b * y.c)))) + (IntKind.i64.wrap (x.c * y.b)))) + (IntKind.i64.wrap (x.d * y.a))))]) hf rfl (fun _ => by first | rfl | kernel_rfl)) ?_; intro a hf
 refine l_ev hf trivial rfl rfl (ev_loadN (l := [.int .i64 x.a, .int .i64 x.b, .int .i64 x.c, .int .i64 x.d]) hf rfl tN_187 (hB2.at 0) rfl) ?_; intro a hf
 refine l_ev hf trivial rfl rfl (ev_loadN (l := [.int .i64 y.a, .int .i64 y.b, .int .i64 y.c, .int .i64 y.d]) hf rfl tN_187 (hB3.at 0) rfl) ?_; intro a hf
 refine l_eff hf trivial rfl rfl (ef_buildSlice (k := 2) (vs := [.agg #[.int .i64 x.a, .int .i64 x.b, .int .i64 x.c, .int .i64 x.d], .agg #[.int .i64 y.a, .int .i64 y.b, .int .i64 y.c, .int .i64 y.d]]) (zs := [.int .i64 x.a, .int .i64 x.b, .int .i64 x.c, .int .i64 x.d, .int .i64 y.a, .int .i64 y.b, .int .i64 y.c, .int .i64 y.d]) hf rfl sl_278 inf_187 rfl rfl) ?_; rintro a _ w4 ⟨b6, rfl, hl6, hE, hB6⟩ hf
 have hne2_6 : b2 ≠ b6 := by have := hB2.lt; omega
 have hne3_6 : b3 ≠ b6 := by have := hB3.lt; omega
 have hne4_6 : b4 ≠ b6 := by have := hB4.lt; omega
 have hlo6 := Nat.le_trans hW.size hl6
 replace hB2 := hB2.below hE
 replace hB3 := hB3.below hE
 replace hB4 := hB4.below hE
 replace hW := hW.trans (hE.mono hW.size)
 clear hE
 refine l_eff hf trivial rfl rfl (ef_call (vs := [.agg #[.int .i64 (IntKind.i64.wrap ((IntKind.i64.wrap ((IntKind.i64.wrap ((IntKind.i64.wrap (x.a * y.a)) - (IntKind.i64.wrap (x.b * y.d)))) - (IntKind.i64.wrap (x.c * y.c)))) - (IntKind.i64.wrap (x.d * y.b)))), .int .i64 (IntKind.i64.wrap ((IntKind.i64.wrap ((IntKind.i64.wrap ((IntKind.i64.wrap (x.a * y.b)) + (IntKind.i64.wrap (x.b * y.a)))) - (IntKind.i64.wrap (x.c * y.d)))) - (IntKind.i64.wrap (x.d * y.c)))), .int .i64 (IntKind.i64.wrap ((IntKind.i64.wrap ((IntKind.i64.wrap ((IntKind.i64.wrap (x.a * y.c)) + (IntKind.i64.wrap (x.b * y.b)))) + (IntKind.i64.wrap (x.c * y.a)))) - (IntKind.i64.wrap (x.d * y.d)))), .int .i64 (IntKind.i64.wrap ((IntKind.i64.wrap ((IntKind.i64.wrap ((IntKind.i64.wrap (x.a * y.d)) + (IntKind.i64.wrap (x.b * y.c)))) + (IntKind.i64.wrap (x.c * y.b)))) + (IntKind.i64.wrap (x.d * y.a))))], .slice (some ⟨b6, 0, none⟩) ([x, y]).length 2]) hf rfl ff_242 (F242 _ (⟨IntKind.i64.wrap ((IntKind.i64.wrap ((IntKind.i64.wrap ((IntKind.i64.wrap (x.a * y.a)) - (IntKind.i64.wrap (x.b * y.d)))) - (IntKind.i64.wrap (x.c * y.c)))) - (IntKind.i64.wrap (x.d * y.b))), IntKind.i64.wrap ((IntKind.i64.wrap ((IntKind.i64.wrap ((IntKind.i64.wrap (x.a * y.b)) + (IntKind.i64.wrap (x.b * y.a)))) - (IntKind.i64.wrap (x.c * y.d)))) - (IntKind.i64.wrap (x.d * y.c))), IntKind.i64.wrap ((IntKind.i64.wrap ((IntKind.i64.wrap ((IntKind.i64.wrap (x.a * y.c)) + (IntKind.i64.wrap (x.b * y.b)))) + (IntKind.i64.wrap (x.c * y.a)))) - (IntKind.i64.wrap (x.d * y.d))), IntKind.i64.wrap ((IntKind.i64.wrap ((IntKind.i64.wrap ((IntKind.i64.wrap (x.a * y.d)) + (IntKind.i64.wrap (x.b * y.c)))) + (IntKind.i64.wrap (x.c * y.b)))) + (IntKind.i64.wrap (x.d * y.a)))⟩ : Rg) (some ⟨b6, 0, none⟩) 2 ([x, y]) (Rd.of_blk hB6 rfl _ hB6.lt) rfl (by simp) (by simp))) ?_; rintro a _ w5 ⟨rfl, hE⟩ hf
 replace hB2 := hB2.below hE
 replace hB3 := hB3.below hE
 replace hB4 := hB4.below hE
 replace hB6 := hB6.below hE
 replace hW := hW.trans (hE.mono hW.size)
 clear hE
 refine l_ev hf trivial rfl rfl (ev_extract (vs := [.agg #[.int .i64 ((rIf1 (⟨IntKind.i64.wrap ((IntKind.i64.wrap ((IntKind.i64.wrap ((IntKind.i64.wrap (x.a * y.a)) - (IntKind.i64.wrap (x.b * y.d)))) - (IntKind.i64.wrap (x.c * y.c)))) - (IntKind.i64.wrap (x.d * y.b))), IntKind.i64.wrap ((IntKind.i64.wrap ((IntKind.i64.wrap ((IntKind.i64.wrap (x.a * y.b)) + (IntKind.i64.wrap (x.b * y.a)))) - (IntKind.i64.wrap (x.c * y.d)))) - (IntKind.i64.wrap (x.d * y.c))), IntKind.i64.wrap ((IntKind.i64.wrap ((IntKind.i64.wrap ((IntKind.i64.wrap (x.a * y.c)) + (IntKind.i64.wrap (x.b * y.b)))) + (IntKind.i64.wrap (x.c * y.a)))) - (IntKind.i64.wrap (x.d * y.d))), IntKind.i64.wrap ((IntKind.i64.wrap ((IntKind.i64.wrap ((IntKind.i64.wrap (x.a * y.d)) + (IntKind.i64.wrap (x.b * y.c)))) + (IntKind.i64.wrap (x.c * y.b)))) + (IntKind.i64.wrap (x.d * y.a)))⟩ : Rg) ([x, y])).a), .int .i64 ((rIf1 (⟨IntKind.i64.wrap ((IntKind.i64.wrap ((IntKind.i64.wrap ((IntKind.i64.wrap (x.a * y.a)) - (IntKind.i64.wrap (x.b * y.d)))) - (IntKind.i64.wrap (x.c * y.c)))) - (IntKind.i64.wrap (x.d * y.b))), IntKind.i64.wrap ((IntKind.i64.wrap ((IntKind.i64.wrap ((IntKind.i64.wrap (x.a * y.b)) + (IntKind.i64.wrap (x.b * y.a)))) - (IntKind.i64.wrap (x.c * y.d)))) - (IntKind.i64.wrap (x.d * y.c))), IntKind.i64.wrap ((IntKind.i64.wrap ((IntKind.i64.wrap ((IntKind.i64.wrap (x.a * y.c)) + (IntKind.i64.wrap (x.b * y.b)))) + (IntKind.i64.wrap (x.c * y.a)))) - (IntKind.i64.wrap (x.d * y.d))), IntKind.i64.wrap ((IntKind.i64.wrap ((IntKind.i64.wrap ((IntKind.i64.wrap (x.a * y.d)) + (IntKind.i64.wrap (x.b * y.c)))) + (IntKind.i64.wrap (x.c * y.b)))) + (IntKind.i64.wrap (x.d * y.a)))⟩ : Rg) ([x, y])).b), .int .i64 ((rIf1 (⟨IntKind.i64.wrap ((IntKind.i64.wrap ((IntKind.i64.wrap ((IntKind.i64.wrap (x.a * y.a)) - (IntKind.i64.wrap (x.b * y.d)))) - (IntKind.i64.wrap (x.c * y.c)))) - (IntKind.i64.wrap (x.d * y.b))), IntKind.i64.wrap ((IntKind.i64.wrap ((IntKind.i64.wrap ((IntKind.i64.wrap (x.a * y.b)) + (IntKind.i64.wrap (x.b * y.a)))) - (IntKind.i64.wrap (x.c * y.d)))) - (IntKind.i64.wrap (x.d * y.c))), IntKind.i64.wrap ((IntKind.i64.wrap ((IntKind.i64.wrap ((IntKind.i64.wrap (x.a * y.c)) + (IntKind.i64.wrap (x.b * y.b)))) + (IntKind.i64.wrap (x.c * y.a)))) - (IntKind.i64.wrap (x.d * y.d))), IntKind.i64.wrap ((IntKind.i64.wrap ((IntKind.i64.wrap ((IntKind.i64.wrap (x.a * y.d)) + (IntKind.i64.wrap (x.b * y.c)))) + (IntKind.i64.wrap (x.c * y.b)))) + (IntKind.i64.wrap (x.d * y.a)))⟩ : Rg) ([x, y])).c), .int .i64 ((rIf1 (⟨IntKind.i64.wrap ((IntKind.i64.wrap ((IntKind.i64.wrap ((IntKind.i64.wrap (x.a * y.a)) - (IntKind.i64.wrap (x.b * y.d)))) - (IntKind.i64.wrap (x.c * y.c)))) - (IntKind.i64.wrap (x.d * y.b))), IntKind.i64.wrap ((IntKind.i64.wrap ((IntKind.i64.wrap ((IntKind.i64.wrap (x.a * y.b)) + (IntKind.i64.wrap (x.b * y.a)))) - (IntKind.i64.wrap (x.c * y.d)))) - (IntKind.i64.wrap (x.d * y.c))), IntKind.i64.wrap ((IntKind.i64.wrap ((IntKind.i64.wrap ((IntKind.i64.wrap (x.a * y.c)) + (IntKind.i64.wrap (x.b * y.b)))) + (IntKind.i64.wrap (x.c * y.a)))) - (IntKind.i64.wrap (x.d * y.d))), IntKind.i64.wrap ((IntKind.i64.wrap ((IntKind.i64.wrap ((IntKind.i64.wrap (x.a * y.d)) + (IntKind.i64.wrap (x.b * y.c)))) + (IntKind.i64.wrap (x.c * y.b)))) + (IntKind.i64.wrap (x.d * y.a)))⟩ : Rg) ([x, y])).d)], .bool (rIf2 (⟨IntKind.i64.wrap ((IntKind.i64.wrap ((IntKind.i64.wrap ((IntKind.i64.wrap (x.a * y.a)) - (IntKind.i64.wrap (x.b * y.d)))) - (IntKind.i64.wrap (x.c * y.c)))) - (IntKind.i64.wrap (x.d * y.b))), IntKind.i64.wrap ((IntKind.i64.wrap ((IntKind.i64.wrap ((IntKind.i64.wrap (x.a * y.b)) + (IntKind.i64.wrap (x.b * y.a)))) - (IntKind.i64.wrap (x.c * y.d)))) - (IntKind.i64.wrap (x.d * y.c))), IntKind.i64.wrap ((IntKind.i64.wrap ((IntKind.i64.wrap ((IntKind.i64.wrap (x.a * y.c)) + (IntKind.i64.wrap (x.b * y.b)))) + (IntKind.i64.wrap (x.c * y.a)))) - (IntKind.i64.wrap (x.d * y.d))), IntKind.i64.wrap ((IntKind.i64.wrap ((IntKind.i64.wrap ((IntKind.i64.wrap (x.a * y.d)) + (IntKind.i64.wrap (x.b * y.c)))) + (IntKind.i64.wrap (x.c * y.b)))) + (IntKind.i64.wrap (x.d * y.a)))⟩ : Rg) ([x, y]))]) hf rfl rfl) ?_; intro a hf
 refine l_ev hf trivial rfl rfl (ev_extract (vs := [.agg #[.int .i64 ((rIf1 (⟨IntKind.i64.wrap ((IntKind.i64.wrap ((IntKind.i64.wrap ((IntKind.i64.wrap (x.a * y.a)) - (IntKind.i64.wrap (x.b * y.d)))) - (IntKind.i64.wrap (x.c * y.c)))) - (IntKind.i64.wrap (x.d * y.b))), IntKind.i64.wrap ((IntKind.i64.wrap ((IntKind.i64.wrap ((IntKind.i64.wrap (x.a * y.b)) + (IntKind.i64.wrap (x.b * y.a)))) - (IntKind.i64.wrap (x.c * y.d)))) - (IntKind.i64.wrap (x.d * y.c))), IntKind.i64.wrap ((IntKind.i64.wrap ((IntKind.i64.wrap ((IntKind.i64.wrap (x.a * y.c)) + (IntKind.i64.wrap (x.b * y.b)))) + (IntKind.i64.wrap (x.c * y.a)))) - (IntKind.i64.wrap (x.d * y.d))), IntKind.i64.wrap ((IntKind.i64.wrap ((IntKind.i64.wrap ((IntKind.i64.wrap (x.a * y.d)) + (IntKind.i64.wrap (x.b * y.c)))) + (IntKind.i64.wrap (x.c * y.b)))) + (IntKind.i64.wrap (x.d * y.a)))⟩ : Rg) ([x, y])).a), .int .i64 ((rIf1 (⟨IntKind.i64.wrap ((IntKind.i64.wrap ((IntKind.i64.wrap ((IntKind.i64.wrap (x.a * y.a)) - (IntKind.i64.wrap (x.b * y.d)))) - (IntKind.i64.wrap (x.c * y.c)))) - (IntKind.i64.wrap (x.d * y.b))), IntKind.i64.wrap ((IntKind.i64.wrap ((IntKind.i64.wrap ((IntKind.i64.wrap (x.a * y.b)) + (IntKind.i64.wrap (x.b * y.a)))) - (IntKind.i64.wrap (x.c * y.d)))) - (IntKind.i64.wrap (x.d * y.c))), IntKind.i64.wrap ((IntKind.i64.wrap ((IntKind.i64.wrap ((IntKind.i64.wrap (x.a * y.c)) + (IntKind.i64.wrap (x.b * y.b)))) + (IntKind.i64.wrap (x.c * y.a)))) - (IntKind.i64.wrap (x.d * y.d))), IntKind.i64.wrap ((IntKind.i64.wrap ((IntKind.i64.wrap ((IntKind.i64.wrap (x.a * y.d)) + (IntKind.i64.wrap (x.b * y.c)))) + (IntKind.i64.wrap (x.c * y.b)))) + (IntKind.i64.wrap (x.d * y.a)))⟩ : Rg) ([x, y])).b), .int .i64 ((rIf1 (⟨IntKind.i64.wrap ((IntKind.i64.wrap ((IntKind.i64.wrap ((IntKind.i64.wrap (x.a * y.a)) - (IntKind.i64.wrap (x.b * y.d)))) - (IntKind.i64.wrap (x.c * y.c)))) - (IntKind.i64.wrap (x.d * y.b))), IntKind.i64.wrap ((IntKind.i64.wrap ((IntKind.i64.wrap ((IntKind.i64.wrap (x.a * y.b)) + (IntKind.i64.wrap (x.b * y.a)))) - (IntKind.i64.wrap (x.c * y.d)))) - (IntKind.i64.wrap (x.d * y.c))), IntKind.i64.wrap ((IntKind.i64.wrap ((IntKind.i64.wrap ((IntKind.i64.wrap (x.a * y.c)) + (IntKind.i64.wrap (x.b * y.b)))) + (IntKind.i64.wrap (x.c * y.a)))) - (IntKind.i64.wrap (x.d * y.d))), IntKind.i64.wrap ((IntKind.i64.wrap ((IntKind.i64.wrap ((IntKind.i64.wrap (x.a * y.d)) + (IntKind.i64.wrap (x.b * y.c)))) + (IntKind.i64.wrap (x.c * y.b)))) + (IntKind.i64.wrap (x.d * y.a)))⟩ : Rg) ([x, y])).c), .int .i64 ((rIf1 (⟨IntKind.i64.wrap ((IntKind.i64.wrap ((IntKind.i64.wrap ((IntKind.i64.wrap (x.a * y.a)) - (IntKind.i64.wrap (x.b * y.d)))) - (IntKind.i64.wrap (x.c * y.c)))) - (IntKind.i64.wrap (x.d * y.b))), IntKind.i64.wrap ((IntKind.i64.wrap ((IntKind.i64.wrap ((IntKind.i64.wrap (x.a * y.b)) + (IntKind.i64.wrap (x.b * y.a)))) - (IntKind.i64.wrap (x.c * y.d)))) - (IntKind.i64.wrap (x.d * y.c))), IntKind.i64.wrap ((IntKind.i64.wrap ((IntKind.i64.wrap ((IntKind.i64.wrap (x.a * y.c)) + (IntKind.i64.wrap (x.b * y.b)))) + (IntKind.i64.wrap (x.c * y.a)))) - (IntKind.i64.wrap (x.d * y.d))), IntKind.i64.wrap ((IntKind.i64.wrap ((IntKind.i64.wrap ((IntKind.i64.wrap (x.a * y.d)) + (IntKind.i64.wrap (x.b * y.c)))) + (IntKind.i64.wrap (x.c * y.b)))) + (IntKind.i64.wrap (x.d * y.a)))⟩ : Rg) ([x, y])).d)], .bool (rIf2 (⟨IntKind.i64.wrap ((IntKind.i64.wrap ((IntKind.i64.wrap ((IntKind.i64.wrap (x.a * y.a)) - (IntKind.i64.wrap (x.b * y.d)))) - (IntKind.i64.wrap (x.c * y.c)))) - (IntKind.i64.wrap (x.d * y.b))), IntKind.i64.wrap ((IntKind.i64.wrap ((IntKind.i64.wrap ((IntKind.i64.wrap (x.a * y.b)) + (IntKind.i64.wrap (x.b * y.a)))) - (IntKind.i64.wrap (x.c * y.d)))) - (IntKind.i64.wrap (x.d * y.c))), IntKind.i64.wrap ((IntKind.i64.wrap ((IntKind.i64.wrap ((IntKind.i64.wrap (x.a * y.c)) + (IntKind.i64.wrap (x.b * y.b)))) + (IntKind.i64.wrap (x.c * y.a)))) - (IntKind.i64.wrap (x.d * y.d))), IntKind.i64.wrap ((IntKind.i64.wrap ((IntKind.i64.wrap ((IntKind.i64.wrap (x.a * y.d)) + (IntKind.i64.wrap (x.b * y.c)))) + (IntKind.i64.wrap (x.c * y.b)))) + (IntKind.i64.wrap (x.d * y.a)))⟩ : Rg) ([x, y]))]) hf rfl rfl) ?_; intro a hf
 refine l_eff0 hf trivial rfl (ef_store (vs := [.int .i64 ((rIf1 (⟨IntKind.i64.wrap ((IntKind.i64.wrap ((IntKind.i64.wrap ((IntKind.i64.wrap (x.a * y.a)) - (IntKind.i64.wrap (x.b * y.d)))) - (IntKind.i64.wrap (x.c * y.c)))) - (IntKind.i64.wrap (x.d * y.b))), IntKind.i64.wrap ((IntKind.i64.wrap ((IntKind.i64.wrap ((IntKind.i64.wrap (x.a * y.b)) + (IntKind.i64.wrap (x.b * y.a)))) - (IntKind.i64.wrap (x.c * y.d)))) - (IntKind.i64.wrap (x.d * y.c))), IntKind.i64.wrap ((IntKind.i64.wrap ((IntKind.i64.wrap ((IntKind.i64.wrap (x.a * y.c)) + (IntKind.i64.wrap (x.b * y.b)))) + (IntKind.i64.wrap (x.c * y.a)))) - (IntKind.i64.wrap (x.d * y.d))), IntKind.i64.wrap ((IntKind.i64.wrap ((IntKind.i64.wrap ((IntKind.i64.wrap (x.a * y.d)) + (IntKind.i64.wrap (x.b * y.c)))) + (IntKind.i64.wrap (x.c * y.b)))) + (IntKind.i64.wrap (x.d * y.a)))⟩ : Rg) ([x, y])).a), .int .i64 ((rIf1 (⟨IntKind.i64.wrap ((IntKind.i64.wrap ((IntKind.i64.wrap ((IntKind.i64.wrap (x.a * y.a)) - (IntKind.i64.wrap (x.b * y.d)))) - (IntKind.i64.wrap (x.c * y.c)))) - (IntKind.i64.wrap (x.d * y.b))), IntKind.i64.wrap ((IntKind.i64.wrap ((IntKind.i64.wrap ((IntKind.i64.wrap (x.a * y.b)) + (IntKind.i64.wrap (x.b * y.a)))) - (IntKind.i64.wrap (x.c * y.d)))) - (IntKind.i64.wrap (x.d * y.c))), IntKind.i64.wrap ((IntKind.i64.wrap ((IntKind.i64.wrap ((IntKind.i64.wrap (x.a * y.c)) + (IntKind.i64.wrap (x.b * y.b)))) + (IntKind.i64.wrap (x.c * y.a)))) - (IntKind.i64.wrap (x.d * y.d))), IntKind.i64.wrap ((IntKind.i64.wrap ((IntKind.i64.wrap ((IntKind.i64.wrap (x.a * y.d)) + (IntKind.i64.wrap (x.b * y.c)))) + (IntKind.i64.wrap (x.c * y.b)))) + (IntKind.i64.wrap (x.d * y.a)))⟩ : Rg) ([x, y])).b), .int .i64 ((rIf1 (⟨IntKind.i64.wrap ((IntKind.i64.wrap ((IntKind.i64.wrap ((IntKind.i64.wrap (x.a * y.a)) - (IntKind.i64.wrap (x.b * y.d)))) - (IntKind.i64.wrap (x.c * y.c)))) - (IntKind.i64.wrap (x.d * y.b))), IntKind.i64.wrap ((IntKind.i64.wrap ((IntKind.i64.wrap ((IntKind.i64.wrap (x.a * y.b)) + (IntKind.i64.wrap (x.b * y.a)))) - (IntKind.i64.wrap (x.c * y.d)))) - (IntKind.i64.wrap (x.d * y.c))), IntKind.i64.wrap ((IntKind.i64.wrap ((IntKind.i64.wrap ((IntKind.i64.wrap (x.a * y.c)) + (IntKind.i64.wrap (x.b * y.b)))) + (IntKind.i64.wrap (x.c * y.a)))) - (IntKind.i64.wrap (x.d * y.d))), IntKind.i64.wrap ((IntKind.i64.wrap ((IntKind.i64.wrap ((IntKind.i64.wrap (x.a * y.d)) + (IntKind.i64.wrap (x.b * y.c)))) + (IntKind.i64.wrap (x.c * y.b)))) + (IntKind.i64.wrap (x.d * y.a)))⟩ : Rg) ([x, y])).c), .int .i64 ((rIf1 (⟨IntKind.i64.wrap ((IntKind.i64.wrap ((IntKind.i64.wrap ((IntKind.i64.wrap (x.a * y.a)) - (IntKind.i64.wrap (x.b * y.d)))) - (IntKind.i64.wrap (x.c * y.c)))) - (IntKind.i64.wrap (x.d * y.b))), IntKind.i64.wrap ((IntKind.i64.wrap ((IntKind.i64.wrap ((IntKind.i64.wrap (x.a * y.b)) + (IntKind.i64.wrap (x.b * y.a)))) - (IntKind.i64.wrap (x.c * y.d)))) - (IntKind.i64.wrap (x.d * y.c))), IntKind.i64.wrap ((IntKind.i64.wrap ((IntKind.i64.wrap ((IntKind.i64.wrap (x.a * y.c)) + (IntKind.i64.wrap (x.b * y.b)))) + (IntKind.i64.wrap (x.c * y.a)))) - (IntKind.i64.wrap (x.d * y.d))), IntKind.i64.wrap ((IntKind.i64.wrap ((IntKind.i64.wrap ((IntKind.i64.wrap (x.a * y.d)) + (IntKind.i64.wrap (x.b * y.c)))) + (IntKind.i64.wrap (x.c * y.b)))) + (IntKind.i64.wrap (x.d * y.a)))⟩ : Rg) ([x, y])).d)]) (l' := [.int .i64 ((rIf1 (⟨IntKind.i64.wrap ((IntKind.i64.wrap ((IntKind.i64.wrap ((IntKind.i64.wrap (x.a * y.a)) - (IntKind.i64.wrap (x.b * y.d)))) - (IntKind.i64.wrap (x.c * y.c)))) - (IntKind.i64.wrap (x.d * y.b))), IntKind.i64.wrap ((IntKind.i64.wrap ((IntKind.i64.wrap ((IntKind.i64.wrap (x.a * y.b)) + (IntKind.i64.wrap (x.b * y.a)))) - (IntKind.i64.wrap (x.c * y.d)))) - (IntKind.i64.wrap (x.d * y.c))), IntKind.i64.wrap ((IntKind.i64.wrap ((IntKind.i64.wrap ((IntKind.i64.wrap (x.a * y.c)) + (IntKind.i64.wrap (x.b * y.b)))) + (IntKind.i64.wrap (x.c * y.a)))) - (IntKind.i64.wrap (x.d * y.d))), IntKind.i64.wrap ((IntKind.i64.wrap ((IntKind.i64.wrap ((IntKind.i64.wrap (x.a * y.d)) + (IntKind.i64.wrap (x.b * y.c)))) + (IntKind.i64.wrap (x.c * y.b)))) + (IntKind.i64.wrap (x.d * y.a)))⟩ : Rg) ([x, y])).a), .int .i64 ((rIf1 (⟨IntKind.i64.wrap ((IntKind.i64.wrap ((IntKind.i64.wrap ((IntKind.i64.wrap (x.a * y.a)) - (IntKind.i64.wrap (x.b * y.d)))) - (IntKind.i64.wrap (x.c * y.c)))) - (IntKind.i64.wrap (x.d * y.b))), IntKind.i64.wrap ((IntKind.i64.wrap ((IntKind.i64.wrap ((IntKind.i64.wrap (x.a * y.b)) + (IntKind.i64.wrap (x.b * y.a)))) - (IntKind.i64.wrap (x.c * y.d)))) - (IntKind.i64.wrap (x.d * y.c))), IntKind.i64.wrap ((IntKind.i64.wrap ((IntKind.i64.wrap ((IntKind.i64.wrap (x.a * y.c)) + (IntKind.i64.wrap (x.b * y.b)))) + (IntKind.i64.wrap (x.c * y.a)))) - (IntKind.i64.wrap (x.d * y.d))), IntKind.i64.wrap ((IntKind.i64.wrap ((IntKind.i64.wrap ((IntKind.i64.wrap (x.a * y.d)) + (IntKind.i64.wrap (x.b * y.c)))) + (IntKind.i64.wrap (x.c * y.b)))) + (IntKind.i64.wrap (x.d * y.a)))⟩ : Rg) ([x, y])).b), .int .i64 ((rIf1 (⟨IntKind.i64.wrap ((IntKind.i64.wrap ((IntKind.i64.wrap ((IntKind.i64.wrap (x.a * y.a)) - (IntKind.i64.wrap (x.b * y.d)))) - (IntKind.i64.wrap (x.c * y.c)))) - (IntKind.i64.wrap (x.d * y.b))), IntKind.i64.wrap ((IntKind.i64.wrap ((IntKind.i64.wrap ((IntKind.i64.wrap (x.a * y.b)) + (IntKind.i64.wrap (x.b * y.a)))) - (IntKind.i64.wrap (x.c * y.d)))) - (IntKind.i64.wrap (x.d * y.c))), IntKind.i64.wrap ((IntKind.i64.wrap ((IntKind.i64.wrap ((IntKind.i64.wrap (x.a * y.c)) + (IntKind.i64.wrap (x.b * y.b)))) + (IntKind.i64.wrap (x.c * y.a)))) - (IntKind.i64.wrap (x.d * y.d))), IntKind.i64.wrap ((IntKind.i64.wrap ((IntKind.i64.wrap ((IntKind.i64.wrap (x.a * y.d)) + (IntKind.i64.wrap (x.b * y.c)))) + (IntKind.i64.wrap (x.c * y.b)))) + (IntKind.i64.wrap (x.d * y.a)))⟩ : Rg) ([x, y])).c), .int .i64 ((rIf1 (⟨IntKind.i64.wrap ((IntKind.i64.wrap ((IntKind.i64.wrap ((IntKind.i64.wrap (x.a * y.a)) - (IntKind.i64.wrap (x.b * y.d)))) - (IntKind.i64.wrap (x.c * y.c)))) - (IntKind.i64.wrap (x.d * y.b))), IntKind.i64.wrap ((IntKind.i64.wrap ((IntKind.i64.wrap ((IntKind.i64.wrap (x.a * y.b)) + (IntKind.i64.wrap (x.b * y.a)))) - (IntKind.i64.wrap (x.c * y.d)))) - (IntKind.i64.wrap (x.d * y.c))), IntKind.i64.wrap ((IntKind.i64.wrap ((IntKind.i64.wrap ((IntKind.i64.wrap (x.a * y.c)) + (IntKind.i64.wrap (x.b * y.b)))) + (IntKind.i64.wrap (x.c * y.a)))) - (IntKind.i64.wrap (x.d * y.d))), IntKind.i64.wrap ((IntKind.i64.wrap ((IntKind.i64.wrap ((IntKind.i64.wrap (x.a * y.d)) + (IntKind.i64.wrap (x.b * y.c)))) + (IntKind.i64.wrap (x.c * y.b)))) + (IntKind.i64.wrap (x.d * y.a)))⟩ : Rg) ([x, y])).d)]) hf rfl rfl sz_187 hB4 rfl rfl rfl rfl rfl) ?_; rintro a _ w6 ⟨ho, hb⟩ hf
 have hold := hB4
 replace hB2 := hB2.only ho (by omega)
 replace hB3 := hB3.only ho (by omega)
 replace hB6 := hB6.only ho (by omega)
 replace hW := Below.only hW ho hlo4
 clear hold
 have hB4 := hb
 clear hb ho
 refine l_ev hf trivial rfl rfl (ev_assign hf rfl) ?_; intro a hf
 refine wpList_nil ?_
 refine hK5 _ _ ?_; try clear hK5 K5
 refine wp_ret ?_
 refine c_ret hf (res2 hf rfl (ResV.cellN (l := [.int .i64 ((rIf1 (⟨IntKind.i64.wrap ((IntKind.i64.wrap ((IntKind.i64.wrap ((IntKind.i64.wrap (x.a * y.a)) - (IntKind.i64.wrap (x.b * y.d)))) - (IntKind.i64.wrap (x.c * y.c)))) - (IntKind.i64.wrap (x.d * y.b))), IntKind.i64.wrap ((IntKind.i64.wrap ((IntKind.i64.wrap ((IntKind.i64.wrap (x.a * y.b)) + (IntKind.i64.wrap (x.b * y.a)))) - (IntKind.i64.wrap (x.c * y.d)))) - (IntKind.i64.wrap (x.d * y.c))), IntKind.i64.wrap ((IntKind.i64.wrap ((IntKind.i64.wrap ((IntKind.i64.wrap (x.a * y.c)) + (IntKind.i64.wrap (x.b * y.b)))) + (IntKind.i64.wrap (x.c * y.a)))) - (IntKind.i64.wrap (x.d * y.d))), IntKind.i64.wrap ((IntKind.i64.wrap ((IntKind.i64.wrap ((IntKind.i64.wrap (x.a * y.d)) + (IntKind.i64.wrap (x.b * y.c)))) + (IntKind.i64.wrap (x.c * y.b)))) + (IntKind.i64.wrap (x.d * y.a)))⟩ : Rg) ([x, y])).a), .int .i64 ((rIf1 (⟨IntKind.i64.wrap ((IntKind.i64.wrap ((IntKind.i64.wrap ((IntKind.i64.wrap (x.a * y.a)) - (IntKind.i64.wrap (x.b * y.d)))) - (IntKind.i64.wrap (x.c * y.c)))) - (IntKind.i64.wrap (x.d * y.b))), IntKind.i64.wrap ((IntKind.i64.wrap ((IntKind.i64.wrap ((IntKind.i64.wrap (x.a * y.b)) + (IntKind.i64.wrap (x.b * y.a)))) - (IntKind.i64.wrap (x.c * y.d)))) - (IntKind.i64.wrap (x.d * y.c))), IntKind.i64.wrap ((IntKind.i64.wrap ((IntKind.i64.wrap ((IntKind.i64.wrap (x.a * y.c)) + (IntKind.i64.wrap (x.b * y.b)))) + (IntKind.i64.wrap (x.c * y.a)))) - (IntKind.i64.wrap (x.d * y.d))), IntKind.i64.wrap ((IntKind.i64.wrap ((IntKind.i64.wrap ((IntKind.i64.wrap (x.a * y.d)) + (IntKind.i64.wrap (x.b * y.c)))) + (IntKind.i64.wrap (x.c * y.b)))) + (IntKind.i64.wrap (x.d * y.a)))⟩ : Rg) ([x, y])).b), .int .i64 ((rIf1 (⟨IntKind.i64.wrap ((IntKind.i64.wrap ((IntKind.i64.wrap ((IntKind.i64.wrap (x.a * y.a)) - (IntKind.i64.wrap (x.b * y.d)))) - (IntKind.i64.wrap (x.c * y.c)))) - (IntKind.i64.wrap (x.d * y.b))), IntKind.i64.wrap ((IntKind.i64.wrap ((IntKind.i64.wrap ((IntKind.i64.wrap (x.a * y.b)) + (IntKind.i64.wrap (x.b * y.a)))) - (IntKind.i64.wrap (x.c * y.d)))) - (IntKind.i64.wrap (x.d * y.c))), IntKind.i64.wrap ((IntKind.i64.wrap ((IntKind.i64.wrap ((IntKind.i64.wrap (x.a * y.c)) + (IntKind.i64.wrap (x.b * y.b)))) + (IntKind.i64.wrap (x.c * y.a)))) - (IntKind.i64.wrap (x.d * y.d))), IntKind.i64.wrap ((IntKind.i64.wrap ((IntKind.i64.wrap ((IntKind.i64.wrap (x.a * y.d)) + (IntKind.i64.wrap (x.b * y.c)))) + (IntKind.i64.wrap (x.c * y.b)))) + (IntKind.i64.wrap (x.d * y.a)))⟩ : Rg) ([x, y])).c), .int .i64 ((rIf1 (⟨IntKind.i64.wrap ((IntKind.i64.wrap ((IntKind.i64.wrap ((IntKind.i64.wrap (x.a * y.a)) - (IntKind.i64.wrap (x.b * y.d)))) - (IntKind.i64.wrap (x.c * y.c)))) - (IntKind.i64.wrap (x.d * y.b))), IntKind.i64.wrap ((IntKind.i64.wrap ((IntKind.i64.wrap ((IntKind.i64.wrap (x.a * y.b)) + (IntKind.i64.wrap (x.b * y.a)))) - (IntKind.i64.wrap (x.c * y.d)))) - (IntKind.i64.wrap (x.d * y.c))), IntKind.i64.wrap ((IntKind.i64.wrap ((IntKind.i64.wrap ((IntKind.i64.wrap (x.a * y.c)) + (IntKind.i64.wrap (x.b * y.b)))) + (IntKind.i64.wrap (x.c * y.a)))) - (IntKind.i64.wrap (x.d * y.d))), IntKind.i64.wrap ((IntKind.i64.wrap ((IntKind.i64.wrap ((IntKind.i64.wrap (x.a * y.d)) + (IntKind.i64.wrap (x.b * y.c)))) + (IntKind.i64.wrap (x.c * y.b)))) + (IntKind.i64.wrap (x.d * y.a)))⟩ : Rg) ([x, y])).d)]) rfl tN_187 (hB4.at 0) rfl) rfl) ?_
 exact ⟨rfl, hW⟩
theorem F240 (w0 : World) (x : Rg) (y : Rg) : Ret Tryz.prog 240 [.agg #[.int .i64 x.a, .int .i64 x.b, .int .i64 x.c, .int .i64 x.d], .agg #[.int .i64 y.a, .int .i64 y.b, .int .i64 y.c, .int .i64 y.d]] w0 (fun v w => v = .tuple #[rV (rIf1 (rAdd x y) [x, y]), .bool (rIf2 (rAdd x y) [x, y])] ∧ Below w0.heap.size w0 w) := by
 refine enter Tryz.func240 rfl 33 rfl rfl ?_
 intro a hf
 have hW : Below w0.heap.size w0 w0 := Below.refl _ _
 refine wp_seq_k ?_; intro K1 hK1
 refine wp_region_lit ?_
 refine l_eff hf trivial rfl rfl (ef_box (zs := [.int .i64 x.a, .int .i64 x.b, .int .i64 x.c, .int .i64 x.d]) hf rfl rfl) ?_; rintro a _ w1 ⟨b2, rfl, hl2, hE, hB2⟩ hf
 have hlo2 := Nat.le_trans hW.size hl2
 replace hW := hW.trans (hE.mono hW.size)
 clear hE
 refine l_eff hf trivial rfl rfl (ef_box (zs := [.int .i64 y.a, .int .i64 y.b, .int .i64 y.c, .int .i64 y.d]) hf rfl rfl) ?_; rintro a _ w2 ⟨b3, rfl, hl3, hE, hB3⟩ hf
 have hne2_3 : b2 ≠ b3 := by have := hB2.lt; omega
 have hlo3 := Nat.le_trans hW.size hl3
 replace hB2 := hB2.below hE
 replace hW := hW.trans (hE.mono hW.size)
 clear hE
 refine l_eff hf trivial rfl rfl (ef_alloc (zs := [.int .i64 0, .int .i64 0, .int .i64 0, .int .i64 0]) z_187 rfl) ?_; rintro a _ w3 ⟨b4, rfl, hl4, hE, hB4⟩ hf
 have hne2_4 : b2 ≠ b4 := by have := hB2.lt; omega
 have hne3_4 : b3 ≠ b4 := by have := hB3.lt; omega
 have hlo4 := Nat.le_trans hW.size hl4
 replace hB2 := hB2.below hE
 replace hB3 := hB3.below hE
 replace hW := hW.trans (hE.mono hW.size)
 clear hE
 refine l_ev hf trivial rfl rfl (ev_assign hf rfl) ?_; intro a hf
 refine wpList_nil ?_
 refine hK1 _ _ ?_; try clear hK1 K1
 refine wp_seq_k ?_; intro K5 hK5
 refine wp_region_lit ?_
 refine l_ev hf trivial rfl rfl (ev_fieldB hf rfl fd_187_0 (m := 0) rfl) ?_; intro a hf
 refine l_ev hf trivial rfl rfl (ev_load1 hf rfl t1_3 (hB2.at 0)) ?_; intro a hf
 refine l_ev hf trivial rfl rfl (ev_fieldB hf rfl fd_187_0 (m := 0) rfl) ?_; intro a hf
 refine l_ev hf trivial rfl rfl (ev_load1 hf rfl t1_3 (hB3.at 0)) ?_; intro a hf
 refine l_ev hf trivial rfl rfl (ev_add hf rfl rfl) ?_; intro a hf
 refine l_ev hf trivial rfl rfl (ev_fieldB hf rfl fd_187_1 (m := 1) rfl) ?_; intro a hf
 refine l_ev hf trivial rfl rfl (ev_load1 hf rfl t1_3 (hB2.at 1)) ?_; intro a hf
 refine l_ev hf trivial rfl rfl (ev_fieldB hf rfl fd_187_1 (m := 1) rfl) ?_; intro a hf
 refine l_ev hf trivial rfl rfl (ev_load1 hf rfl t1_3 (hB3.at 1)) ?_; intro a hf
 refine l_ev hf trivial rfl rfl (ev_add hf rfl rfl) ?_; intro a hf
 refine l_ev hf trivial rfl rfl (ev_fieldB hf rfl fd_187_2 (m := 2) rfl) ?_; intro a hf
 refine l_ev hf trivial rfl rfl (ev_load1 hf rfl t1_3 (hB2.at 2)) ?_; intro a hf
 refine l_ev hf trivial rfl rfl (ev_fieldB hf rfl fd_187_2 (m := 2) rfl) ?_; intro a hf
 refine l_ev hf trivial rfl rfl (ev_load1 hf rfl t1_3 (hB3.at 2)) ?_; intro a hf
 refine l_ev hf trivial rfl rfl (ev_add hf rfl rfl) ?_; intro a hf
 refine l_ev hf trivial rfl rfl (ev_fieldB hf rfl fd_187_3 (m := 3) rfl) ?_; intro a hf
 refine l_ev hf trivial rfl rfl (ev_load1 hf rfl t1_3 (hB2.at 3)) ?_; intro a hf
 refine l_ev hf trivial rfl rfl (ev_fieldB hf rfl fd_187_3 (m := 3) rfl) ?_; intro a hf
 refine l_ev hf trivial rfl rfl (ev_load1 hf rfl t1_3 (hB3.at 3)) ?_; intro a hf
 refine l_ev hf trivial rfl rfl (ev_add hf rfl rfl) ?_; intro a hf
 refine l_ev hf trivial rfl rfl (ev_build (ps := [(0, .int .i64 (IntKind.i64.wrap (x.a + y.a))), (1, .int .i64 (IntKind.i64.wrap (x.b + y.b))), (2, .int .i64 (IntKind.i64.wrap (x.c + y.c))), (3, .int .i64 (IntKind.i64.wrap (x.d + y.d)))]) (cs := [.int .i64 (IntKind.i64.wrap (x.a + y.a)), .int .i64 (IntKind.i64.wrap (x.b + y.b)), .int .i64 (IntKind.i64.wrap (x.c + y.c)), .int .i64 (IntKind.i64.wrap (x.d + y.d))]) hf rfl (fun _ => by first | rfl | kernel_rfl)) ?_; intro a hf
 refine l_ev hf trivial rfl rfl (ev_loadN (l := [.int .i64 x.a, .int .i64 x.b, .int .i64 x.c, .int .i64 x.d]) hf rfl tN_187 (hB2.at 0) rfl) ?_; intro a hf
 refine l_ev hf trivial rfl rfl (ev_loadN (l := [.int .i64 y.a, .int .i64 y.b, .int .i64 y.c, .int .i64 y.d]) hf rfl tN_187 (hB3.at 0) rfl) ?_; intro a hf
 refine l_eff hf trivial rfl rfl (ef_buildSlice (k := 2) (vs := [.agg #[.int .i64 x.a, .int .i64 x.b, .int .i64 x.c, .int .i64 x.d], .agg #[.int .i64 y.a, .int .i64 y.b, .int .i64 y.c, .int .i64 y.d]]) (zs := [.int .i64 x.a, .int .i64 x.b, .int .i64 x.c, .int .i64 x.d, .int .i64 y.a, .int .i64 y.b, .int .i64 y.c, .int .i64 y.d]) hf rfl sl_278 inf_187 rfl rfl) ?_; rintro a _ w4 ⟨b6, rfl, hl6, hE, hB6⟩ hf
 have hne2_6 : b2 ≠ b6 := by have := hB2.lt; omega
 have hne3_6 : b3 ≠ b6 := by have := hB3.lt; omega
 have hne4_6 : b4 ≠ b6 := by have := hB4.lt; omega
 have hlo6 := Nat.le_trans hW.size hl6
 replace hB2 := hB2.below hE
 replace hB3 := hB3.below hE
 replace hB4 := hB4.below hE
 replace hW := hW.trans (hE.mono hW.size)
 clear hE
 refine l_eff hf trivial rfl rfl (ef_call (vs := [.agg #[.int .i64 (IntKind.i64.wrap (x.a + y.a)), .int .i64 (IntKind.i64.wrap (x.b + y.b)), .int .i64 (IntKind.i64.wrap (x.c + y.c)), .int .i64 (IntKind.i64.wrap (x.d + y.d))], .slice (some ⟨b6, 0, none⟩) ([x, y]).length 2]) hf rfl ff_242 (F242 _ (⟨IntKind.i64.wrap (x.a + y.a), IntKind.i64.wrap (x.b + y.b), IntKind.i64.wrap (x.c + y.c), IntKind.i64.wrap (x.d + y.d)⟩ : Rg) (some ⟨b6, 0, none⟩) 2 ([x, y]) (Rd.of_blk hB6 rfl _ hB6.lt) rfl (by simp) (by simp))) ?_; rintro a _ w5 ⟨rfl, hE⟩ hf
 replace hB2 := hB2.below hE
 replace hB3 := hB3.below hE
 replace hB4 := hB4.below hE
 replace hB6 := hB6.below hE
 replace hW := hW.trans (hE.mono hW.size)
 clear hE
 refine l_ev hf trivial rfl rfl (ev_extract (vs := [.agg #[.int .i64 ((rIf1 (⟨IntKind.i64.wrap (x.a + y.a), IntKind.i64.wrap (x.b + y.b), IntKind.i64.wrap (x.c + y.c), IntKind.i64.wrap (x.d + y.d)⟩ : Rg) ([x, y])).a), .int .i64 ((rIf1 (⟨IntKind.i64.wrap (x.a + y.a), IntKind.i64.wrap (x.b + y.b), IntKind.i64.wrap (x.c + y.c), IntKind.i64.wrap (x.d + y.d)⟩ : Rg) ([x, y])).b), .int .i64 ((rIf1 (⟨IntKind.i64.wrap (x.a + y.a), IntKind.i64.wrap (x.b + y.b), IntKind.i64.wrap (x.c + y.c), IntKind.i64.wrap (x.d + y.d)⟩ : Rg) ([x, y])).c), .int .i64 ((rIf1 (⟨IntKind.i64.wrap (x.a + y.a), IntKind.i64.wrap (x.b + y.b), IntKind.i64.wrap (x.c + y.c), IntKind.i64.wrap (x.d + y.d)⟩ : Rg) ([x, y])).d)], .bool (rIf2 (⟨IntKind.i64.wrap (x.a + y.a), IntKind.i64.wrap (x.b + y.b), IntKind.i64.wrap (x.c + y.c), IntKind.i64.wrap (x.d + y.d)⟩ : Rg) ([x, y]))]) hf rfl rfl) ?_; intro a hf
 refine l_ev hf trivial rfl rfl (ev_extract (vs := [.agg #[.int .i64 ((rIf1 (⟨IntKind.i64.wrap (x.a + y.a), IntKind.i64.wrap (x.b + y.b), IntKind.i64.wrap (x.c + y.c), IntKind.i64.wrap (x.d + y.d)⟩ : Rg) ([x, y])).a), .int .i64 ((rIf1 (⟨IntKind.i64.wrap (x.a + y.a), IntKind.i64.wrap (x.b + y.b), IntKind.i64.wrap (x.c + y.c), IntKind.i64.wrap (x.d + y.d)⟩ : Rg) ([x, y])).b), .int .i64 ((rIf1 (⟨IntKind.i64.wrap (x.a + y.a), IntKind.i64.wrap (x.b + y.b), IntKind.i64.wrap (x.c + y.c), IntKind.i64.wrap (x.d + y.d)⟩ : Rg) ([x, y])).c), .int .i64 ((rIf1 (⟨IntKind.i64.wrap (x.a + y.a), IntKind.i64.wrap (x.b + y.b), IntKind.i64.wrap (x.c + y.c), IntKind.i64.wrap (x.d + y.d)⟩ : Rg) ([x, y])).d)], .bool (rIf2 (⟨IntKind.i64.wrap (x.a + y.a), IntKind.i64.wrap (x.b + y.b), IntKind.i64.wrap (x.c + y.c), IntKind.i64.wrap (x.d + y.d)⟩ : Rg) ([x, y]))]) hf rfl rfl) ?_; intro a hf
 refine l_eff0 hf trivial rfl (ef_store (vs := [.int .i64 ((rIf1 (⟨IntKind.i64.wrap (x.a + y.a), IntKind.i64.wrap (x.b + y.b), IntKind.i64.wrap (x.c + y.c), IntKind.i64.wrap (x.d + y.d)⟩ : Rg) ([x, y])).a), .int .i64 ((rIf1 (⟨IntKind.i64.wrap (x.a + y.a), IntKind.i64.wrap (x.b + y.b), IntKind.i64.wrap (x.c + y.c), IntKind.i64.wrap (x.d + y.d)⟩ : Rg) ([x, y])).b), .int .i64 ((rIf1 (⟨IntKind.i64.wrap (x.a + y.a), IntKind.i64.wrap (x.b + y.b), IntKind.i64.wrap (x.c + y.c), IntKind.i64.wrap (x.d + y.d)⟩ : Rg) ([x, y])).c), .int .i64 ((rIf1 (⟨IntKind.i64.wrap (x.a + y.a), IntKind.i64.wrap (x.b + y.b), IntKind.i64.wrap (x.c + y.c), IntKind.i64.wrap (x.d + y.d)⟩ : Rg) ([x, y])).d)]) (l' := [.int .i64 ((rIf1 (⟨IntKind.i64.wrap (x.a + y.a), IntKind.i64.wrap (x.b + y.b), IntKind.i64.wrap (x.c + y.c), IntKind.i64.wrap (x.d + y.d)⟩ : Rg) ([x, y])).a), .int .i64 ((rIf1 (⟨IntKind.i64.wrap (x.a + y.a), IntKind.i64.wrap (x.b + y.b), IntKind.i64.wrap (x.c + y.c), IntKind.i64.wrap (x.d + y.d)⟩ : Rg) ([x, y])).b), .int .i64 ((rIf1 (⟨IntKind.i64.wrap (x.a + y.a), IntKind.i64.wrap (x.b + y.b), IntKind.i64.wrap (x.c + y.c), IntKind.i64.wrap (x.d + y.d)⟩ : Rg) ([x, y])).c), .int .i64 ((rIf1 (⟨IntKind.i64.wrap (x.a + y.a), IntKind.i64.wrap (x.b + y.b), IntKind.i64.wrap (x.c + y.c), IntKind.i64.wrap (x.d + y.d)⟩ : Rg) ([x, y])).d)]) hf rfl rfl sz_187 hB4 rfl rfl rfl rfl rfl) ?_; rintro a _ w6 ⟨ho, hb⟩ hf
 have hold := hB4
 replace hB2 := hB2.only ho (by omega)
 replace hB3 := hB3.only ho (by omega)
 replace hB6 := hB6.only ho (by omega)
 replace hW := Below.only hW ho hlo4
 clear hold
 have hB4 := hb
 clear hb ho
 refine l_ev hf trivial rfl rfl (ev_assign hf rfl) ?_; intro a hf
 refine wpList_nil ?_
 refine hK5 _ _ ?_; try clear hK5 K5
 refine wp_ret ?_
 refine c_ret hf (res2 hf rfl (ResV.cellN (l := [.int .i64 ((rIf1 (⟨IntKind.i64.wrap (x.a + y.a), IntKind.i64.wrap (x.b + y.b), IntKind.i64.wrap (x.c + y.c), IntKind.i64.wrap (x.d + y.d)⟩ : Rg) ([x, y])).a), .int .i64 ((rIf1 (⟨IntKind.i64.wrap (x.a + y.a), IntKind.i64.wrap (x.b + y.b), IntKind.i64.wrap (x.c + y.c), IntKind.i64.wrap (x.d + y.d)⟩ : Rg) ([x, y])).b), .int .i64 ((rIf1 (⟨IntKind.i64.wrap (x.a + y.a), IntKind.i64.wrap (x.b + y.b), IntKind.i64.wrap (x.c + y.c), IntKind.i64.wrap (x.d + y.d)⟩ : Rg) ([x, y])).c), .int .i64 ((rIf1 (⟨IntKind.i64.wrap (x.a + y.a), IntKind.i64.wrap (x.b + y.b), IntKind.i64.wrap (x.c + y.c), IntKind.i64.wrap (x.d + y.d)⟩ : Rg) ([x, y])).d)]) rfl tN_187 (hB4.at 0) rfl) rfl) ?_
 exact ⟨rfl, hW⟩
theorem F252 (w0 : World) (x : Rg) : Ret Tryz.prog 252 [.agg #[.int .i64 x.a, .int .i64 x.b, .int .i64 x.c, .int .i64 x.d]] w0 (fun v w => v = .tuple #[rV (rIf1 (rRoot x) [x]), .bool (rIf2 (rRoot x) [x])] ∧ Below w0.heap.size w0 w) := by
 refine enter Tryz.func252 rfl 30 rfl rfl ?_
 intro a hf
 have hW : Below w0.heap.size w0 w0 := Below.refl _ _
 refine wp_seq_k ?_; intro K1 hK1
 refine wp_region_lit ?_
 refine l_eff hf trivial rfl rfl (ef_box (zs := [.int .i64 x.a, .int .i64 x.b, .int .i64 x.c, .int .i64 x.d]) hf rfl rfl) ?_; rintro a _ w1 ⟨b2, rfl, hl2, hE, hB2⟩ hf
 have hlo2 := Nat.le_trans hW.size hl2
 replace hW := hW.trans (hE.mono hW.size)
 clear hE
 refine l_eff hf trivial rfl rfl (ef_alloc (zs := [.int .i64 0, .int .i64 0, .int .i64 0, .int .i64 0]) z_187 rfl) ?_; rintro a _ w2 ⟨b3, rfl, hl3, hE, hB3⟩ hf
 have hne2_3 : b2 ≠ b3 := by have := hB2.lt; omega
 have hlo3 := Nat.le_trans hW.size hl3
 replace hB2 := hB2.below hE
 replace hW := hW.trans (hE.mono hW.size)
 clear hE
 refine l_ev hf trivial rfl rfl (ev_assign hf rfl) ?_; intro a hf
 refine wpList_nil ?_
 refine hK1 _ _ ?_; try clear hK1 K1
 refine wp_seq_k ?_; intro K4 hK4
 refine wp_region_lit ?_
 refine l_ev hf trivial rfl rfl (ev_fieldB hf rfl fd_187_1 (m := 1) rfl) ?_; intro a hf
 refine l_ev hf trivial rfl rfl (ev_load1 hf rfl t1_3 (hB2.at 1)) ?_; intro a hf
 refine l_ev hf trivial rfl rfl (ev_fieldB hf rfl fd_187_3 (m := 3) rfl) ?_; intro a hf
 refine l_ev hf trivial rfl rfl (ev_load1 hf rfl t1_3 (hB2.at 3)) ?_; intro a hf
 refine l_ev hf trivial rfl rfl (ev_sub hf rfl rfl) ?_; intro a hf
 refine l_ev hf trivial rfl rfl (ev_fieldB hf rfl fd_187_0 (m := 0) rfl) ?_; intro a hf
 refine l_ev hf trivial rfl rfl (ev_load1 hf rfl t1_3 (hB2.at 0)) ?_; intro a hf
 refine l_ev hf trivial rfl rfl (ev_fieldB hf rfl fd_187_2 (m := 2) rfl) ?_; intro a hf
 refine l_ev hf trivial rfl rfl (ev_load1 hf rfl t1_3 (hB2.at 2)) ?_; intro a hf
 refine l_ev hf trivial rfl rfl (ev_add hf rfl rfl) ?_; intro a hf
 refine l_ev hf trivial rfl rfl (ev_fieldB hf rfl fd_187_1 (m := 1) rfl) ?_; intro a hf
 refine l_ev hf trivial rfl rfl (ev_load1 hf rfl t1_3 (hB2.at 1)) ?_; intro a hf
 refine l_ev hf trivial rfl rfl (ev_fieldB hf rfl fd_187_3 (m := 3) rfl) ?_; intro a hf
 refine l_ev hf trivial rfl rfl (ev_load1 hf rfl t1_3 (hB2.at 3)) ?_; intro a hf
 refine l_ev hf trivial rfl rfl (ev_add hf rfl rfl) ?_; intro a hf
 refine l_ev hf trivial rfl rfl (ev_fieldB hf rfl fd_187_2 (m := 2) rfl) ?_; intro a hf
 refine l_ev hf trivial rfl rfl (ev_load1 hf rfl t1_3 (hB2.at 2)) ?_; intro a hf
 refine l_ev hf trivial rfl rfl (ev_fieldB hf rfl fd_187_0 (m := 0) rfl) ?_; intro a hf
 refine l_ev hf trivial rfl rfl (ev_load1 hf rfl t1_3 (hB2.at 0)) ?_; intro a hf
 refine l_ev hf trivial rfl rfl (ev_sub hf rfl rfl) ?_; intro a hf
 refine l_ev hf trivial rfl rfl (ev_build (ps := [(0, .int .i64 (IntKind.i64.wrap (x.b - x.d))), (1, .int .i64 (IntKind.i64.wrap (x.a + x.c))), (2, .int .i64 (IntKind.i64.wrap (x.b + x.d))), (3, .int .i64 (IntKind.i64.wrap (x.c - x.a)))]) (cs := [.int .i64 (IntKind.i64.wrap (x.b - x.d)), .int .i64 (IntKind.i64.wrap (x.a + x.c)), .int .i64 (IntKind.i64.wrap (x.b + x.d)), .int .i64 (IntKind.i64.wrap (x.c - x.a))]) hf rfl (fun _ => by first | rfl | kernel_rfl)) ?_; intro a hf
 refine l_ev hf trivial rfl rfl (ev_loadN (l := [.int .i64 x.a, .int .i64 x.b, .int .i64 x.c, .int .i64 x.d]) hf rfl tN_187 (hB2.at 0) rfl) ?_; intro a hf
 refine l_eff hf trivial rfl rfl (ef_buildSlice (k := 1) (vs := [.agg #[.int .i64 x.a, .int .i64 x.b, .int .i64 x.c, .int .i64 x.d]]) (zs := [.int .i64 x.a, .int .i64 x.b, .int .i64 x.c, .int .i64 x.d]) hf rfl sl_278 inf_187 rfl rfl) ?_; rintro a _ w3 ⟨b5, rfl, hl5, hE, hB5⟩ hf
 have hne2_5 : b2 ≠ b5 := by have := hB2.lt; omega
 have hne3_5 : b3 ≠ b5 := by have := hB3.lt; omega
 have hlo5 := Nat.le_trans hW.size hl5
 replace hB2 := hB2.below hE
 replace hB3 := hB3.below hE
 replace hW := hW.trans (hE.mono hW.size)
 clear hE
 refine l_eff hf trivial rfl rfl (ef_call (vs := [.agg #[.int .i64 (IntKind.i64.wrap (x.b - x.d)), .int .i64 (IntKind.i64.wrap (x.a + x.c)), .int .i64 (IntKind.i64.wrap (x.b + x.d)), .int .i64 (IntKind.i64.wrap (x.c - x.a))], .slice (some ⟨b5, 0, none⟩) ([x]).length 1]) hf rfl ff_242 (F242 _ (⟨IntKind.i64.wrap (x.b - x.d), IntKind.i64.wrap (x.a + x.c), IntKind.i64.wrap (x.b + x.d), IntKind.i64.wrap (x.c - x.a)⟩ : Rg) (some ⟨b5, 0, none⟩) 1 ([x]) (Rd.of_blk hB5 rfl _ hB5.lt) rfl (by simp) (by simp))) ?_; rintro a _ w4 ⟨rfl, hE⟩ hf
 replace hB2 := hB2.below hE
 replace hB3 := hB3.below hE
 replace hB5 := hB5.below hE
 replace hW := hW.trans (hE.mono hW.size)
 clear hE
 refine l_ev hf trivial rfl rfl (ev_extract (vs := [.agg #[.int .i64 ((rIf1 (⟨IntKind.i64.wrap (x.b - x.d), IntKind.i64.wrap (x.a + x.c), IntKind.i64.wrap (x.b + x.d), IntKind.i64.wrap (x.c - x.a)⟩ : Rg) ([x])).a), .int .i64 ((rIf1 (⟨IntKind.i64.wrap (x.b - x.d), IntKind.i64.wrap (x.a + x.c), IntKind.i64.wrap (x.b + x.d), IntKind.i64.wrap (x.c - x.a)⟩ : Rg) ([x])).b), .int .i64 ((rIf1 (⟨IntKind.i64.wrap (x.b - x.d), IntKind.i64.wrap (x.a + x.c), IntKind.i64.wrap (x.b + x.d), IntKind.i64.wrap (x.c - x.a)⟩ : Rg) ([x])).c), .int .i64 ((rIf1 (⟨IntKind.i64.wrap (x.b - x.d), IntKind.i64.wrap (x.a + x.c), IntKind.i64.wrap (x.b + x.d), IntKind.i64.wrap (x.c - x.a)⟩ : Rg) ([x])).d)], .bool (rIf2 (⟨IntKind.i64.wrap (x.b - x.d), IntKind.i64.wrap (x.a + x.c), IntKind.i64.wrap (x.b + x.d), IntKind.i64.wrap (x.c - x.a)⟩ : Rg) ([x]))]) hf rfl rfl) ?_; intro a hf
 refine l_ev hf trivial rfl rfl (ev_extract (vs := [.agg #[.int .i64 ((rIf1 (⟨IntKind.i64.wrap (x.b - x.d), IntKind.i64.wrap (x.a + x.c), IntKind.i64.wrap (x.b + x.d), IntKind.i64.wrap (x.c - x.a)⟩ : Rg) ([x])).a), .int .i64 ((rIf1 (⟨IntKind.i64.wrap (x.b - x.d), IntKind.i64.wrap (x.a + x.c), IntKind.i64.wrap (x.b + x.d), IntKind.i64.wrap (x.c - x.a)⟩ : Rg) ([x])).b), .int .i64 ((rIf1 (⟨IntKind.i64.wrap (x.b - x.d), IntKind.i64.wrap (x.a + x.c), IntKind.i64.wrap (x.b + x.d), IntKind.i64.wrap (x.c - x.a)⟩ : Rg) ([x])).c), .int .i64 ((rIf1 (⟨IntKind.i64.wrap (x.b - x.d), IntKind.i64.wrap (x.a + x.c), IntKind.i64.wrap (x.b + x.d), IntKind.i64.wrap (x.c - x.a)⟩ : Rg) ([x])).d)], .bool (rIf2 (⟨IntKind.i64.wrap (x.b - x.d), IntKind.i64.wrap (x.a + x.c), IntKind.i64.wrap (x.b + x.d), IntKind.i64.wrap (x.c - x.a)⟩ : Rg) ([x]))]) hf rfl rfl) ?_; intro a hf
 refine l_eff0 hf trivial rfl (ef_store (vs := [.int .i64 ((rIf1 (⟨IntKind.i64.wrap (x.b - x.d), IntKind.i64.wrap (x.a + x.c), IntKind.i64.wrap (x.b + x.d), IntKind.i64.wrap (x.c - x.a)⟩ : Rg) ([x])).a), .int .i64 ((rIf1 (⟨IntKind.i64.wrap (x.b - x.d), IntKind.i64.wrap (x.a + x.c), IntKind.i64.wrap (x.b + x.d), IntKind.i64.wrap (x.c - x.a)⟩ : Rg) ([x])).b), .int .i64 ((rIf1 (⟨IntKind.i64.wrap (x.b - x.d), IntKind.i64.wrap (x.a + x.c), IntKind.i64.wrap (x.b + x.d), IntKind.i64.wrap (x.c - x.a)⟩ : Rg) ([x])).c), .int .i64 ((rIf1 (⟨IntKind.i64.wrap (x.b - x.d), IntKind.i64.wrap (x.a + x.c), IntKind.i64.wrap (x.b + x.d), IntKind.i64.wrap (x.c - x.a)⟩ : Rg) ([x])).d)]) (l' := [.int .i64 ((rIf1 (⟨IntKind.i64.wrap (x.b - x.d), IntKind.i64.wrap (x.a + x.c), IntKind.i64.wrap (x.b + x.d), IntKind.i64.wrap (x.c - x.a)⟩ : Rg) ([x])).a), .int .i64 ((rIf1 (⟨IntKind.i64.wrap (x.b - x.d), IntKind.i64.wrap (x.a + x.c), IntKind.i64.wrap (x.b + x.d), IntKind.i64.wrap (x.c - x.a)⟩ : Rg) ([x])).b), .int .i64 ((rIf1 (⟨IntKind.i64.wrap (x.b - x.d), IntKind.i64.wrap (x.a + x.c), IntKind.i64.wrap (x.b + x.d), IntKind.i64.wrap (x.c - x.a)⟩ : Rg) ([x])).c), .int .i64 ((rIf1 (⟨IntKind.i64.wrap (x.b - x.d), IntKind.i64.wrap (x.a + x.c), IntKind.i64.wrap (x.b + x.d), IntKind.i64.wrap (x.c - x.a)⟩ : Rg) ([x])).d)]) hf rfl rfl sz_187 hB3 rfl rfl rfl rfl rfl) ?_; rintro a _ w5 ⟨ho, hb⟩ hf
 have hold := hB3
 replace hB2 := hB2.only ho (by omega)
 replace hB5 := hB5.only ho (by omega)
 replace hW := Below.only hW ho hlo3
 clear hold
 have hB3 := hb
 clear hb ho
 refine l_ev hf trivial rfl rfl (ev_assign hf rfl) ?_; intro a hf
 refine wpList_nil ?_
 refine hK4 _ _ ?_; try clear hK4 K4
 refine wp_ret ?_
 refine c_ret hf (res2 hf rfl (ResV.cellN (l := [.int .i64 ((rIf1 (⟨IntKind.i64.wrap (x.b - x.d), IntKind.i64.wrap (x.a + x.c), IntKind.i64.wrap (x.b + x.d), IntKind.i64.wrap (x.c - x.a)⟩ : Rg) ([x])).a), .int .i64 ((rIf1 (⟨IntKind.i64.wrap (x.b - x.d), IntKind.i64.wrap (x.a + x.c), IntKind.i64.wrap (x.b + x.d), IntKind.i64.wrap (x.c - x.a)⟩ : Rg) ([x])).b), .int .i64 ((rIf1 (⟨IntKind.i64.wrap (x.b - x.d), IntKind.i64.wrap (x.a + x.c), IntKind.i64.wrap (x.b + x.d), IntKind.i64.wrap (x.c - x.a)⟩ : Rg) ([x])).c), .int .i64 ((rIf1 (⟨IntKind.i64.wrap (x.b - x.d), IntKind.i64.wrap (x.a + x.c), IntKind.i64.wrap (x.b + x.d), IntKind.i64.wrap (x.c - x.a)⟩ : Rg) ([x])).d)]) rfl tN_187 (hB3.at 0) rfl) rfl) ?_
 exact ⟨rfl, hW⟩
end Go.Proofs.YtfgnmflfiobkmaaGreat
set_option maxRecDepth 4000
namespace Go.Proofs.YtfgnmflfiobkmaaGreat
open Go.RowKit
theorem F233 (w0 : World) (x : Rg) (m : Int) (hm : m ≤ 1000) : Ret Tryz.prog 233 [.agg #[.int .i64 x.a, .int .i64 x.b, .int .i64 x.c, .int .i64 x.d], .int .i64 m] w0 (fun v w => v = dV (dLow x m) ∧ Below w0.heap.size w0 w) := by
 refine enter Tryz.func233 rfl 18 rfl rfl ?_
 intro a hf
 have hW : Below w0.heap.size w0 w0 := Below.refl _ _
 refine wp_seq_k ?_; intro K1 hK1
 refine wp_region_lit ?_
 refine l_eff hf trivial rfl rfl (ef_box (zs := [.int .i64 x.a, .int .i64 x.b, .int .i64 x.c, .int .i64 x.d]) hf rfl rfl) ?_; rintro a _ w1 ⟨b2, rfl, hl2, hE, hB2⟩ hf
 have hlo2 := Nat.le_trans hW.size hl2
 replace hW := hW.trans (hE.mono hW.size)
 clear hE
 refine l_eff hf trivial rfl rfl (ef_alloc (zs := [.int .i64 0, .int .i64 0, .int .i64 0, .int .i64 0, .int .i64 0]) z_189 rfl) ?_; rintro a _ w2 ⟨b3, rfl, hl3, hE, hB3⟩ hf
 have hlo3 := Nat.le_trans hW.size hl3
 replace hB2 := hB2.below hE
 replace hW := hW.trans (hE.mono hW.size)
 clear hE
 refine wpList_nil ?_
 refine hK1 _ _ ?_; try clear hK1 K1
 refine wp_seq_k ?_; intro K4 hK4
 refine wp_block ?_
 refine c_loop (σ := Rg × Int) (fun (s : Rg × Int) (a : Act) (w : World) => match s with | (y, j) => Fr a 18 [(1, .int .i64 j), (2, .pointer (some ⟨b2, 0, none⟩)), (4, .pointer (some ⟨b3, 0, none⟩))] ∧ (dLow y j = dLow x m) ∧ (j ≤ 1000) ∧ Blk w b2 187 [.int .i64 y.a, .int .i64 y.b, .int .i64 y.c, .int .i64 y.d] ∧ Blk w b3 189 [.int .i64 0, .int .i64 0, .int .i64 0, .int .i64 0, .int .i64 0] ∧ Below w0.heap.size w0 w) (fun (s : Rg × Int) => match s with | (y, j) => j.toNat) (x, m) ?_ ?_
 · exact ⟨hf.sub ⟨rfl, rfl, rfl, trivial⟩, rfl, hm, hB2, hB3, hW⟩
 rintro ⟨y, j⟩ a w3 ⟨hf, hinv, hjm, hB2, hB3, hW⟩
 refine wp_seq_k ?_; intro K5 hK5
 refine wp_seq_k ?_; intro K6 hK6
 refine c_cut (fun a w => Fr a 18 [(1, .int .i64 j), (2, .pointer (some ⟨b2, 0, none⟩)), (4, .pointer (some ⟨b3, 0, none⟩)), (10, .bool ((decide (0 < j)) && (rEven y)))] ∧ Below w3.heap.size w3 w) ?_ ?_
 ·have hEc : Below w3.heap.size w3 w3 := Below.refl _ _
  refine wp_region_lit ?_
  refine l_ev hf trivial rfl rfl (ev_move hf rfl) ?_; intro a hf
  refine l_ev hf trivial rfl rfl (ev_gtr hf rfl rfl) ?_; intro a hf
  refine l_ev hf trivial rfl rfl (ev_move hf rfl) ?_; intro a hf
  refine g_split hf (t := 7) rfl (fun hg7 => ?_) (fun hg7 => ?_)
  ·refine l_ev hf ⟨_, _, rfl, rfl, hg7⟩ rfl rfl (ev_loadN (l := [.int .i64 y.a, .int .i64 y.b, .int .i64 y.c, .int .i64 y.d]) hf rfl tN_187 (hB2.at 0) rfl) ?_; intro a hf
   refine l_eff hf ⟨_, _, rfl, rfl, hg7⟩ rfl rfl (ef_call (vs := [.agg #[.int .i64 y.a, .int .i64 y.b, .int .i64 y.c, .int .i64 y.d]]) hf rfl ff_246 (F246 _ y)) ?_; rintro a _ w4 ⟨rfl, hE⟩ hf
   replace hB2 := hB2.below hE
   replace hB3 := hB3.below hE
   replace hW := hW.trans (hE.mono hW.size)
   replace hEc := hEc.trans (hE.mono hEc.size)
   clear hE
   refine l_ev hf trivial rfl rfl (ev_pickT hf rfl hg7 rfl) ?_; intro a hf
   refine wpList_nil ?_
   have hEE : Below w3.heap.size w3 w4 := hEc
   exact ⟨hf.sub ⟨rfl, rfl, rfl, look_bool rfl (by first | rfl | simp [hg7]), trivial⟩, hEE⟩
  ·refine l_pass hf ⟨_, _, rfl, rfl, hg7⟩ rfl rfl ?_; intro a hf
   refine l_pass hf ⟨_, _, rfl, rfl, hg7⟩ rfl rfl ?_; intro a hf
   refine l_ev hf trivial rfl rfl (ev_pickF hf rfl hg7 rfl) ?_; intro a hf
   refine wpList_nil ?_
   have hEE : Below w3.heap.size w3 w3 := hEc
   exact ⟨hf.sub ⟨rfl, rfl, rfl, look_bool rfl (by first | rfl | simp [hg7]), trivial⟩, hEE⟩
 rintro a w5 ⟨hf, hE⟩
 replace hB2 := hB2.below hE
 replace hB3 := hB3.below hE
 replace hW := hW.trans (hE.mono hW.size)
 clear hE
 refine hK6 _ _ ?_; try clear hK6 K6
 refine c_if hf rfl (fun hc8 => ?_) (fun hc8 => ?_)
 ·have hc8b := hc8
  have hj0 : 0 < j := by revert hc8; simp; omega
  have hev : rEven y = true := by revert hc8; cases rEven y <;> simp
  refine wp_skip ?_
  refine hK5 _ _ ?_; try clear hK5 K5
  refine wp_block ?_
  refine wp_seq_k ?_; intro K9 hK9
  refine wp_region_lit ?_
  refine l_ev hf trivial rfl rfl (ev_loadN (l := [.int .i64 y.a, .int .i64 y.b, .int .i64 y.c, .int .i64 y.d]) hf rfl tN_187 (hB2.at 0) rfl) ?_; intro a hf
  refine l_eff hf trivial rfl rfl (ef_call (vs := [.agg #[.int .i64 y.a, .int .i64 y.b, .int .i64 y.c, .int .i64 y.d]]) hf rfl ff_247 (F247 _ y)) ?_; rintro a _ w6 ⟨rfl, hE⟩ hf
  replace hB2 := hB2.below hE
  replace hB3 := hB3.below hE
  replace hW := hW.trans (hE.mono hW.size)
  clear hE
  refine l_eff0 hf trivial rfl (ef_store (vs := [.int .i64 ((rHalf y).a), .int .i64 ((rHalf y).b), .int .i64 ((rHalf y).c), .int .i64 ((rHalf y).d)]) (l' := [.int .i64 ((rHalf y).a), .int .i64 ((rHalf y).b), .int .i64 ((rHalf y).c), .int .i64 ((rHalf y).d)]) hf rfl rfl sz_187 hB2 rfl rfl rfl rfl rfl) ?_; rintro a _ w7 ⟨ho, hb⟩ hf
  have hold := hB2
  replace hB3 := hB3.only ho (Blk.ne hB3 hold rfl)
  replace hW := Below.only hW ho hlo2
  clear hold
  have hB2 := hb
  clear hb ho
  refine wpList_nil ?_
  refine hK9 _ _ ?_; try clear hK9 K9
  refine wp_region_lit ?_
  refine l_ev hf trivial rfl rfl (ev_move hf rfl) ?_; intro a hf
  refine l_ev hf trivial rfl rfl (ev_subx hf rfl rfl (by omega) (by omega)) ?_; intro a hf
  refine l_ev hf trivial rfl rfl (ev_assign hf rfl) ?_; intro a hf
  refine wpList_nil ?_
  refine x_norm ?_
  refine x_thenN ?_
  exact ⟨(rHalf y, j - 1), ⟨hf.sub ⟨rfl, rfl, rfl, trivial⟩, (by rw [← hinv]; exact (dLow_step (by omega) hev).symm), (by omega), hB2, hB3, hW⟩, (by first | omega | (dsimp only; omega))⟩
 ·have hc8b := hc8
  have hst : dLow y j = ⟨y, j⟩ := dLow_stop (by intro h0; revert hc8; simp [h0])
  refine wp_exit ?_
  refine x_exS ?_
  refine x_exS ?_
  refine x_exit ?_
  refine hK4 _ _ ?_; try clear hK4 K4
  refine wp_seq_k ?_; intro K10 hK10
  refine wp_region_lit ?_
  refine l_ev hf trivial rfl rfl (ev_loadN (l := [.int .i64 y.a, .int .i64 y.b, .int .i64 y.c, .int .i64 y.d]) hf rfl tN_187 (hB2.at 0) rfl) ?_; intro a hf
  refine l_ev hf trivial rfl rfl (ev_move hf rfl) ?_; intro a hf
  refine l_ev hf trivial rfl rfl (ev_build (ps := [(0, .agg #[.int .i64 y.a, .int .i64 y.b, .int .i64 y.c, .int .i64 y.d]), (1, .int .i64 j)]) (cs := [.int .i64 y.a, .int .i64 y.b, .int .i64 y.c, .int .i64 y.d, .int .i64 j]) hf rfl (fun _ => by first | rfl | kernel_rfl)) ?_; intro a hf
  refine l_eff0 hf trivial rfl (ef_store (vs := [.int .i64 y.a, .int .i64 y.b, .int .i64 y.c, .int .i64 y.d, .int .i64 j]) (l' := [.int .i64 y.a, .int .i64 y.b, .int .i64 y.c, .int .i64 y.d, .int .i64 j]) hf rfl rfl sz_189 hB3 rfl rfl rfl rfl rfl) ?_; rintro a _ w8 ⟨ho, hb⟩ hf
  have hold := hB3
  replace hB2 := hB2.only ho (Blk.ne hB2 hold rfl)
  replace hW := Below.only hW ho hlo3
  clear hold
  have hB3 := hb
  clear hb ho
  refine wpList_nil ?_
  refine hK10 _ _ ?_; try clear hK10 K10
  refine wp_ret ?_
  refine c_ret hf (res1 hf rfl (ResV.cellN (l := [.int .i64 y.a, .int .i64 y.b, .int .i64 y.c, .int .i64 y.d, .int .i64 j]) rfl tN_189 (hB3.at 0) rfl)) ?_
  refine ⟨?_, hW⟩
  rw [← hinv, hst]
theorem F243 (w0 : World) (x : Rg) : Ret Tryz.prog 243 [.agg #[.int .i64 x.a, .int .i64 x.b, .int .i64 x.c, .int .i64 x.d]] w0 (fun v w => v = .tuple #[rV (rDiv1 x), .bool (rDiv2 x)] ∧ Below w0.heap.size w0 w) := by
 refine enter Tryz.func243 rfl 43 rfl rfl ?_
 intro a hf
 have hW : Below w0.heap.size w0 w0 := Below.refl _ _
 refine wp_seq_k ?_; intro K1 hK1
 refine wp_region_lit ?_
 refine l_eff hf trivial rfl rfl (ef_box (zs := [.int .i64 x.a, .int .i64 x.b, .int .i64 x.c, .int .i64 x.d]) hf rfl rfl) ?_; rintro a _ w1 ⟨b2, rfl, hl2, hE, hB2⟩ hf
 have hlo2 := Nat.le_trans hW.size hl2
 replace hW := hW.trans (hE.mono hW.size)
 clear hE
 refine l_eff hf trivial rfl rfl (ef_alloc (zs := [.int .i64 0, .int .i64 0, .int .i64 0, .int .i64 0]) z_187 rfl) ?_; rintro a _ w2 ⟨b3, rfl, hl3, hE, hB3⟩ hf
 have hne2_3 : b2 ≠ b3 := by have := hB2.lt; omega
 have hlo3 := Nat.le_trans hW.size hl3
 replace hB2 := hB2.below hE
 replace hW := hW.trans (hE.mono hW.size)
 clear hE
 refine l_ev hf trivial rfl rfl (ev_assign hf rfl) ?_; intro a hf
 refine wpList_nil ?_
 refine hK1 _ _ ?_; try clear hK1 K1
 refine wp_seq_k ?_; intro K4 hK4
 refine wp_seq_k ?_; intro K5 hK5
 refine c_cut (fun a w => Fr a 43 [(1, .pointer (some ⟨b2, 0, none⟩)), (2, .pointer (some ⟨b3, 0, none⟩)), (11, .bool ((!(rOk x)) || (!(rEven x))))] ∧ Below w2.heap.size w2 w) ?_ ?_
 ·have hEc : Below w2.heap.size w2 w2 := Below.refl _ _
  refine wp_region_lit ?_
  refine l_ev hf trivial rfl rfl (ev_loadN (l := [.int .i64 x.a, .int .i64 x.b, .int .i64 x.c, .int .i64 x.d]) hf rfl tN_187 (hB2.at 0) rfl) ?_; intro a hf
  refine l_eff hf trivial rfl rfl (ef_call (vs := [.agg #[.int .i64 x.a, .int .i64 x.b, .int .i64 x.c, .int .i64 x.d]]) hf rfl ff_225 (F225 _ x)) ?_; rintro a _ w3 ⟨rfl, hE⟩ hf
  replace hB2 := hB2.below hE
  replace hB3 := hB3.below hE
  replace hW := hW.trans (hE.mono hW.size)
  replace hEc := hEc.trans (hE.mono hEc.size)
  clear hE
  refine l_ev hf trivial rfl rfl (ev_not hf rfl) ?_; intro a hf
  refine l_ev hf trivial rfl rfl (ev_move hf rfl) ?_; intro a hf
  refine g_split hf (t := 7) rfl (fun hg6 => ?_) (fun hg6 => ?_)
  ·refine l_pass hf ⟨_, _, rfl, rfl, hg6⟩ rfl rfl ?_; intro a hf
   refine l_pass hf ⟨_, _, rfl, rfl, hg6⟩ rfl rfl ?_; intro a hf
   refine l_pass hf ⟨_, _, rfl, rfl, hg6⟩ rfl rfl ?_; intro a hf
   refine l_ev hf trivial rfl rfl (ev_pickT hf rfl hg6 rfl) ?_; intro a hf
   refine wpList_nil ?_
   have hEE : Below w2.heap.size w2 w3 := hEc
   exact ⟨hf.sub ⟨rfl, rfl, look_bool rfl (by first | rfl | simp [hg6]), trivial⟩, hEE⟩
  ·refine l_ev hf ⟨_, _, rfl, rfl, hg6⟩ rfl rfl (ev_loadN (l := [.int .i64 x.a, .int .i64 x.b, .int .i64 x.c, .int .i64 x.d]) hf rfl tN_187 (hB2.at 0) rfl) ?_; intro a hf
   refine l_eff hf ⟨_, _, rfl, rfl, hg6⟩ rfl rfl (ef_call (vs := [.agg #[.int .i64 x.a, .int .i64 x.b, .int .i64 x.c, .int .i64 x.d]]) hf rfl ff_226 (F226 _ x)) ?_; rintro a _ w4 ⟨rfl, hE⟩ hf
   replace hB2 := hB2.below hE
   replace hB3 := hB3.below hE
   replace hW := hW.trans (hE.mono hW.size)
   replace hEc := hEc.trans (hE.mono hEc.size)
   clear hE
   refine l_ev hf ⟨_, _, rfl, rfl, hg6⟩ rfl rfl (ev_not hf rfl) ?_; intro a hf
   refine l_ev hf trivial rfl rfl (ev_pickF hf rfl hg6 rfl) ?_; intro a hf
   refine wpList_nil ?_
   have hEE : Below w2.heap.size w2 w4 := hEc
   exact ⟨hf.sub ⟨rfl, rfl, look_bool rfl (by first | rfl | simp [hg6]), trivial⟩, hEE⟩
 rintro a w5 ⟨hf, hE⟩
 replace hB2 := hB2.below hE
 replace hB3 := hB3.below hE
 replace hW := hW.trans (hE.mono hW.size)
 clear hE
 refine hK5 _ _ ?_; try clear hK5 K5
 refine c_if hf rfl (fun hc7 => ?_) (fun hc7 => ?_)
 ·have hc7b := hc7
  have hn : rDiv2 x = false := by unfold rDiv2; revert hc7; cases rOk x <;> cases rEven x <;> simp
  refine wp_seq_k ?_; intro K8 hK8
  refine wp_region_lit ?_
  refine l_ev hf trivial rfl rfl (ev_build (ps := []) (cs := [.int .i64 0, .int .i64 0, .int .i64 0, .int .i64 0]) hf rfl (fun _ => by first | rfl | kernel_rfl)) ?_; intro a hf
  refine l_eff0 hf trivial rfl (ef_store (vs := [.int .i64 0, .int .i64 0, .int .i64 0, .int .i64 0]) (l' := [.int .i64 0, .int .i64 0, .int .i64 0, .int .i64 0]) hf rfl rfl sz_187 hB3 rfl rfl rfl rfl rfl) ?_; rintro a _ w6 ⟨ho, hb⟩ hf
  have hold := hB3
  replace hB2 := hB2.only ho (by omega)
  replace hW := Below.only hW ho hlo3
  clear hold
  have hB3 := hb
  clear hb ho
  refine l_ev hf trivial rfl rfl (ev_assign hf rfl) ?_; intro a hf
  refine wpList_nil ?_
  refine hK8 _ _ ?_; try clear hK8 K8
  refine wp_ret ?_
  refine x_retS ?_
  refine c_ret hf (res2 hf rfl (ResV.cellN (l := [.int .i64 0, .int .i64 0, .int .i64 0, .int .i64 0]) rfl tN_187 (hB3.at 0) rfl) rfl) ?_
  exact ⟨by simp [rDiv1, hn], hW⟩
 ·have hc7b := hc7
  have hy : (rOk x && rEven x) = true := by revert hc7; cases rOk x <;> cases rEven x <;> simp
  have hok : rOk x = true := by revert hy; cases rOk x <;> simp
  refine wp_skip ?_
  refine hK4 _ _ ?_; try clear hK4 K4
  refine wp_seq_k ?_; intro K9 hK9
  refine wp_region_lit ?_
  refine l_ev hf trivial rfl rfl (ev_fieldB hf rfl fd_187_1 (m := 1) rfl) ?_; intro a hf
  refine l_ev hf trivial rfl rfl (ev_load1 hf rfl t1_3 (hB2.at 1)) ?_; intro a hf
  refine l_ev hf trivial rfl rfl (ev_fieldB hf rfl fd_187_3 (m := 3) rfl) ?_; intro a hf
  refine l_ev hf trivial rfl rfl (ev_load1 hf rfl t1_3 (hB2.at 3)) ?_; intro a hf
  refine l_ev hf trivial rfl rfl (ev_sub hf rfl rfl) ?_; intro a hf
  refine l_ev hf trivial rfl rfl (ev_quo hf rfl rfl rfl) ?_; intro a hf
  refine l_ev hf trivial rfl rfl (ev_fieldB hf rfl fd_187_0 (m := 0) rfl) ?_; intro a hf
  refine l_ev hf trivial rfl rfl (ev_load1 hf rfl t1_3 (hB2.at 0)) ?_; intro a hf
  refine l_ev hf trivial rfl rfl (ev_fieldB hf rfl fd_187_2 (m := 2) rfl) ?_; intro a hf
  refine l_ev hf trivial rfl rfl (ev_load1 hf rfl t1_3 (hB2.at 2)) ?_; intro a hf
  refine l_ev hf trivial rfl rfl (ev_add hf rfl rfl) ?_; intro a hf
  refine l_ev hf trivial rfl rfl (ev_quo hf rfl rfl rfl) ?_; intro a hf
  refine l_ev hf trivial rfl rfl (ev_fieldB hf rfl fd_187_1 (m := 1) rfl) ?_; intro a hf
  refine l_ev hf trivial rfl rfl (ev_load1 hf rfl t1_3 (hB2.at 1)) ?_; intro a hf
  refine l_ev hf trivial rfl rfl (ev_fieldB hf rfl fd_187_3 (m := 3) rfl) ?_; intro a hf
  refine l_ev hf trivial rfl rfl (ev_load1 hf rfl t1_3 (hB2.at 3)) ?_; intro a hf
  refine l_ev hf trivial rfl rfl (ev_add hf rfl rfl) ?_; intro a hf
  refine l_ev hf trivial rfl rfl (ev_quo hf rfl rfl rfl) ?_; intro a hf
  refine l_ev hf trivial rfl rfl (ev_fieldB hf rfl fd_187_2 (m := 2) rfl) ?_; intro a hf
  refine l_ev hf trivial rfl rfl (ev_load1 hf rfl t1_3 (hB2.at 2)) ?_; intro a hf
  refine l_ev hf trivial rfl rfl (ev_fieldB hf rfl fd_187_0 (m := 0) rfl) ?_; intro a hf
  refine l_ev hf trivial rfl rfl (ev_load1 hf rfl t1_3 (hB2.at 0)) ?_; intro a hf
  refine l_ev hf trivial rfl rfl (ev_sub hf rfl rfl) ?_; intro a hf
  refine l_ev hf trivial rfl rfl (ev_quo hf rfl rfl rfl) ?_; intro a hf
  refine l_ev hf trivial rfl rfl (ev_build (ps := [(0, .int .i64 (IntKind.i64.wrap ((IntKind.i64.wrap (x.b - x.d)).tdiv 2))), (1, .int .i64 (IntKind.i64.wrap ((IntKind.i64.wrap (x.a + x.c)).tdiv 2))), (2, .int .i64 (IntKind.i64.wrap ((IntKind.i64.wrap (x.b + x.d)).tdiv 2))), (3, .int .i64 (IntKind.i64.wrap ((IntKind.i64.wrap (x.c - x.a)).tdiv 2)))]) (cs := [.int .i64 (IntKind.i64.wrap ((IntKind.i64.wrap (x.b - x.d)).tdiv 2)), .int .i64 (IntKind.i64.wrap ((IntKind.i64.wrap (x.a + x.c)).tdiv 2)), .int .i64 (IntKind.i64.wrap ((IntKind.i64.wrap (x.b + x.d)).tdiv 2)), .int .i64 (IntKind.i64.wrap ((IntKind.i64.wrap (x.c - x.a)).tdiv 2))]) hf rfl (fun _ => by first | rfl | kernel_rfl)) ?_; intro a hf
  refine l_ev hf trivial rfl rfl (ev_loadN (l := [.int .i64 x.a, .int .i64 x.b, .int .i64 x.c, .int .i64 x.d]) hf rfl tN_187 (hB2.at 0) rfl) ?_; intro a hf
  refine l_eff hf trivial rfl rfl (ef_buildSlice (k := 1) (vs := [.agg #[.int .i64 x.a, .int .i64 x.b, .int .i64 x.c, .int .i64 x.d]]) (zs := [.int .i64 x.a, .int .i64 x.b, .int .i64 x.c, .int .i64 x.d]) hf rfl sl_278 inf_187 rfl rfl) ?_; rintro a _ w7 ⟨b10, rfl, hl10, hE, hB10⟩ hf
  have hne2_10 : b2 ≠ b10 := by have := hB2.lt; omega
  have hne3_10 : b3 ≠ b10 := by have := hB3.lt; omega
  have hlo10 := Nat.le_trans hW.size hl10
  replace hB2 := hB2.below hE
  replace hB3 := hB3.below hE
  replace hW := hW.trans (hE.mono hW.size)
  clear hE
  refine l_eff hf trivial rfl rfl (ef_call (vs := [.agg #[.int .i64 (IntKind.i64.wrap ((IntKind.i64.wrap (x.b - x.d)).tdiv 2)), .int .i64 (IntKind.i64.wrap ((IntKind.i64.wrap (x.a + x.c)).tdiv 2)), .int .i64 (IntKind.i64.wrap ((IntKind.i64.wrap (x.b + x.d)).tdiv 2)), .int .i64 (IntKind.i64.wrap ((IntKind.i64.wrap (x.c - x.a)).tdiv 2))], .slice (some ⟨b10, 0, none⟩) ([x]).length 1]) hf rfl ff_242 (F242 _ (⟨IntKind.i64.wrap ((IntKind.i64.wrap (x.b - x.d)).tdiv 2), IntKind.i64.wrap ((IntKind.i64.wrap (x.a + x.c)).tdiv 2), IntKind.i64.wrap ((IntKind.i64.wrap (x.b + x.d)).tdiv 2), IntKind.i64.wrap ((IntKind.i64.wrap (x.c - x.a)).tdiv 2)⟩ : Rg) (some ⟨b10, 0, none⟩) 1 ([x]) (Rd.of_blk hB10 rfl _ hB10.lt) rfl (by simp) (by simp))) ?_; rintro a _ w8 ⟨rfl, hE⟩ hf
  replace hB2 := hB2.below hE
  replace hB3 := hB3.below hE
  replace hB10 := hB10.below hE
  replace hW := hW.trans (hE.mono hW.size)
  clear hE
  refine l_ev hf trivial rfl rfl (ev_extract (vs := [.agg #[.int .i64 ((rIf1 (⟨IntKind.i64.wrap ((IntKind.i64.wrap (x.b - x.d)).tdiv 2), IntKind.i64.wrap ((IntKind.i64.wrap (x.a + x.c)).tdiv 2), IntKind.i64.wrap ((IntKind.i64.wrap (x.b + x.d)).tdiv 2), IntKind.i64.wrap ((IntKind.i64.wrap (x.c - x.a)).tdiv 2)⟩ : Rg) ([x])).a), .int .i64 ((rIf1 (⟨IntKind.i64.wrap ((IntKind.i64.wrap (x.b - x.d)).tdiv 2), IntKind.i64.wrap ((IntKind.i64.wrap (x.a + x.c)).tdiv 2), IntKind.i64.wrap ((IntKind.i64.wrap (x.b + x.d)).tdiv 2), IntKind.i64.wrap ((IntKind.i64.wrap (x.c - x.a)).tdiv 2)⟩ : Rg) ([x])).b), .int .i64 ((rIf1 (⟨IntKind.i64.wrap ((IntKind.i64.wrap (x.b - x.d)).tdiv 2), IntKind.i64.wrap ((IntKind.i64.wrap (x.a + x.c)).tdiv 2), IntKind.i64.wrap ((IntKind.i64.wrap (x.b + x.d)).tdiv 2), IntKind.i64.wrap ((IntKind.i64.wrap (x.c - x.a)).tdiv 2)⟩ : Rg) ([x])).c), .int .i64 ((rIf1 (⟨IntKind.i64.wrap ((IntKind.i64.wrap (x.b - x.d)).tdiv 2), IntKind.i64.wrap ((IntKind.i64.wrap (x.a + x.c)).tdiv 2), IntKind.i64.wrap ((IntKind.i64.wrap (x.b + x.d)).tdiv 2), IntKind.i64.wrap ((IntKind.i64.wrap (x.c - x.a)).tdiv 2)⟩ : Rg) ([x])).d)], .bool (rIf2 (⟨IntKind.i64.wrap ((IntKind.i64.wrap (x.b - x.d)).tdiv 2), IntKind.i64.wrap ((IntKind.i64.wrap (x.a + x.c)).tdiv 2), IntKind.i64.wrap ((IntKind.i64.wrap (x.b + x.d)).tdiv 2), IntKind.i64.wrap ((IntKind.i64.wrap (x.c - x.a)).tdiv 2)⟩ : Rg) ([x]))]) hf rfl rfl) ?_; intro a hf
  refine l_ev hf trivial rfl rfl (ev_extract (vs := [.agg #[.int .i64 ((rIf1 (⟨IntKind.i64.wrap ((IntKind.i64.wrap (x.b - x.d)).tdiv 2), IntKind.i64.wrap ((IntKind.i64.wrap (x.a + x.c)).tdiv 2), IntKind.i64.wrap ((IntKind.i64.wrap (x.b + x.d)).tdiv 2), IntKind.i64.wrap ((IntKind.i64.wrap (x.c - x.a)).tdiv 2)⟩ : Rg) ([x])).a), .int .i64 ((rIf1 (⟨IntKind.i64.wrap ((IntKind.i64.wrap (x.b - x.d)).tdiv 2), IntKind.i64.wrap ((IntKind.i64.wrap (x.a + x.c)).tdiv 2), IntKind.i64.wrap ((IntKind.i64.wrap (x.b + x.d)).tdiv 2), IntKind.i64.wrap ((IntKind.i64.wrap (x.c - x.a)).tdiv 2)⟩ : Rg) ([x])).b), .int .i64 ((rIf1 (⟨IntKind.i64.wrap ((IntKind.i64.wrap (x.b - x.d)).tdiv 2), IntKind.i64.wrap ((IntKind.i64.wrap (x.a + x.c)).tdiv 2), IntKind.i64.wrap ((IntKind.i64.wrap (x.b + x.d)).tdiv 2), IntKind.i64.wrap ((IntKind.i64.wrap (x.c - x.a)).tdiv 2)⟩ : Rg) ([x])).c), .int .i64 ((rIf1 (⟨IntKind.i64.wrap ((IntKind.i64.wrap (x.b - x.d)).tdiv 2), IntKind.i64.wrap ((IntKind.i64.wrap (x.a + x.c)).tdiv 2), IntKind.i64.wrap ((IntKind.i64.wrap (x.b + x.d)).tdiv 2), IntKind.i64.wrap ((IntKind.i64.wrap (x.c - x.a)).tdiv 2)⟩ : Rg) ([x])).d)], .bool (rIf2 (⟨IntKind.i64.wrap ((IntKind.i64.wrap (x.b - x.d)).tdiv 2), IntKind.i64.wrap ((IntKind.i64.wrap (x.a + x.c)).tdiv 2), IntKind.i64.wrap ((IntKind.i64.wrap (x.b + x.d)).tdiv 2), IntKind.i64.wrap ((IntKind.i64.wrap (x.c - x.a)).tdiv 2)⟩ : Rg) ([x]))]) hf rfl rfl) ?_; intro a hf
  refine l_eff0 hf trivial rfl (ef_store (vs := [.int .i64 ((rIf1 (⟨IntKind.i64.wrap ((IntKind.i64.wrap (x.b - x.d)).tdiv 2), IntKind.i64.wrap ((IntKind.i64.wrap (x.a + x.c)).tdiv 2), IntKind.i64.wrap ((IntKind.i64.wrap (x.b + x.d)).tdiv 2), IntKind.i64.wrap ((IntKind.i64.wrap (x.c - x.a)).tdiv 2)⟩ : Rg) ([x])).a), .int .i64 ((rIf1 (⟨IntKind.i64.wrap ((IntKind.i64.wrap (x.b - x.d)).tdiv 2), IntKind.i64.wrap ((IntKind.i64.wrap (x.a + x.c)).tdiv 2), IntKind.i64.wrap ((IntKind.i64.wrap (x.b + x.d)).tdiv 2), IntKind.i64.wrap ((IntKind.i64.wrap (x.c - x.a)).tdiv 2)⟩ : Rg) ([x])).b), .int .i64 ((rIf1 (⟨IntKind.i64.wrap ((IntKind.i64.wrap (x.b - x.d)).tdiv 2), IntKind.i64.wrap ((IntKind.i64.wrap (x.a + x.c)).tdiv 2), IntKind.i64.wrap ((IntKind.i64.wrap (x.b + x.d)).tdiv 2), IntKind.i64.wrap ((IntKind.i64.wrap (x.c - x.a)).tdiv 2)⟩ : Rg) ([x])).c), .int .i64 ((rIf1 (⟨IntKind.i64.wrap ((IntKind.i64.wrap (x.b - x.d)).tdiv 2), IntKind.i64.wrap ((IntKind.i64.wrap (x.a + x.c)).tdiv 2), IntKind.i64.wrap ((IntKind.i64.wrap (x.b + x.d)).tdiv 2), IntKind.i64.wrap ((IntKind.i64.wrap (x.c - x.a)).tdiv 2)⟩ : Rg) ([x])).d)]) (l' := [.int .i64 ((rIf1 (⟨IntKind.i64.wrap ((IntKind.i64.wrap (x.b - x.d)).tdiv 2), IntKind.i64.wrap ((IntKind.i64.wrap (x.a + x.c)).tdiv 2), IntKind.i64.wrap ((IntKind.i64.wrap (x.b + x.d)).tdiv 2), IntKind.i64.wrap ((IntKind.i64.wrap (x.c - x.a)).tdiv 2)⟩ : Rg) ([x])).a), .int .i64 ((rIf1 (⟨IntKind.i64.wrap ((IntKind.i64.wrap (x.b - x.d)).tdiv 2), IntKind.i64.wrap ((IntKind.i64.wrap (x.a + x.c)).tdiv 2), IntKind.i64.wrap ((IntKind.i64.wrap (x.b + x.d)).tdiv 2), IntKind.i64.wrap ((IntKind.i64.wrap (x.c - x.a)).tdiv 2)⟩ : Rg) ([x])).b), .int .i64 ((rIf1 (⟨IntKind.i64.wrap ((IntKind.i64.wrap (x.b - x.d)).tdiv 2), IntKind.i64.wrap ((IntKind.i64.wrap (x.a + x.c)).tdiv 2), IntKind.i64.wrap ((IntKind.i64.wrap (x.b + x.d)).tdiv 2), IntKind.i64.wrap ((IntKind.i64.wrap (x.c - x.a)).tdiv 2)⟩ : Rg) ([x])).c), .int .i64 ((rIf1 (⟨IntKind.i64.wrap ((IntKind.i64.wrap (x.b - x.d)).tdiv 2), IntKind.i64.wrap ((IntKind.i64.wrap (x.a + x.c)).tdiv 2), IntKind.i64.wrap ((IntKind.i64.wrap (x.b + x.d)).tdiv 2), IntKind.i64.wrap ((IntKind.i64.wrap (x.c - x.a)).tdiv 2)⟩ : Rg) ([x])).d)]) hf rfl rfl sz_187 hB3 rfl rfl rfl rfl rfl) ?_; rintro a _ w9 ⟨ho, hb⟩ hf
  have hold := hB3
  replace hB2 := hB2.only ho (by omega)
  replace hB10 := hB10.only ho (by omega)
  replace hW := Below.only hW ho hlo3
  clear hold
  have hB3 := hb
  clear hb ho
  refine l_ev hf trivial rfl rfl (ev_assign hf rfl) ?_; intro a hf
  refine wpList_nil ?_
  refine hK9 _ _ ?_; try clear hK9 K9
  refine wp_ret ?_
  refine c_ret hf (res2 hf rfl (ResV.cellN (l := [.int .i64 ((rIf1 (⟨IntKind.i64.wrap ((IntKind.i64.wrap (x.b - x.d)).tdiv 2), IntKind.i64.wrap ((IntKind.i64.wrap (x.a + x.c)).tdiv 2), IntKind.i64.wrap ((IntKind.i64.wrap (x.b + x.d)).tdiv 2), IntKind.i64.wrap ((IntKind.i64.wrap (x.c - x.a)).tdiv 2)⟩ : Rg) ([x])).a), .int .i64 ((rIf1 (⟨IntKind.i64.wrap ((IntKind.i64.wrap (x.b - x.d)).tdiv 2), IntKind.i64.wrap ((IntKind.i64.wrap (x.a + x.c)).tdiv 2), IntKind.i64.wrap ((IntKind.i64.wrap (x.b + x.d)).tdiv 2), IntKind.i64.wrap ((IntKind.i64.wrap (x.c - x.a)).tdiv 2)⟩ : Rg) ([x])).b), .int .i64 ((rIf1 (⟨IntKind.i64.wrap ((IntKind.i64.wrap (x.b - x.d)).tdiv 2), IntKind.i64.wrap ((IntKind.i64.wrap (x.a + x.c)).tdiv 2), IntKind.i64.wrap ((IntKind.i64.wrap (x.b + x.d)).tdiv 2), IntKind.i64.wrap ((IntKind.i64.wrap (x.c - x.a)).tdiv 2)⟩ : Rg) ([x])).c), .int .i64 ((rIf1 (⟨IntKind.i64.wrap ((IntKind.i64.wrap (x.b - x.d)).tdiv 2), IntKind.i64.wrap ((IntKind.i64.wrap (x.a + x.c)).tdiv 2), IntKind.i64.wrap ((IntKind.i64.wrap (x.b + x.d)).tdiv 2), IntKind.i64.wrap ((IntKind.i64.wrap (x.c - x.a)).tdiv 2)⟩ : Rg) ([x])).d)]) rfl tN_187 (hB3.at 0) rfl) rfl) ?_
  refine ⟨?_, hW⟩
  have hd : rDiv2 x = true := hy
  have h2 := rIf_half hok
  show Value.tuple #[rV (rIf1 (rHalf x) [x]), .bool (rIf2 (rHalf x) [x])] = _
  rw [rIf1, h2, rDiv1, hd]
theorem F197 (w0 : World) (x : Rg) (k : Int) : Ret Tryz.prog 197 [.agg #[.int .i64 x.a, .int .i64 x.b, .int .i64 x.c, .int .i64 x.d], .int .i64 k] w0 (fun v w => v = .tuple #[rV (mulOm1 x k), .bool (mulOm2 x k)] ∧ Below w0.heap.size w0 w) := by
 refine enter Tryz.func197 rfl 33 rfl rfl ?_
 intro a hf
 have hW : Below w0.heap.size w0 w0 := Below.refl _ _
 refine wp_seq_k ?_; intro K1 hK1
 refine wp_region_lit ?_
 refine l_eff hf trivial rfl rfl (ef_box (zs := [.int .i64 x.a, .int .i64 x.b, .int .i64 x.c, .int .i64 x.d]) hf rfl rfl) ?_; rintro a _ w1 ⟨b2, rfl, hl2, hE, hB2⟩ hf
 have hlo2 := Nat.le_trans hW.size hl2
 replace hW := hW.trans (hE.mono hW.size)
 clear hE
 refine l_eff hf trivial rfl rfl (ef_alloc (zs := [.int .i64 0, .int .i64 0, .int .i64 0, .int .i64 0]) z_187 rfl) ?_; rintro a _ w2 ⟨b3, rfl, hl3, hE, hB3⟩ hf
 have hne2_3 : b2 ≠ b3 := by have := hB2.lt; omega
 have hlo3 := Nat.le_trans hW.size hl3
 replace hB2 := hB2.below hE
 replace hW := hW.trans (hE.mono hW.size)
 clear hE
 refine l_ev hf trivial rfl rfl (ev_assign hf rfl) ?_; intro a hf
 refine wpList_nil ?_
 refine hK1 _ _ ?_; try clear hK1 K1
 refine wp_seq_k ?_; intro K4 hK4
 refine wp_seq_k ?_; intro K5 hK5
 refine c_cut (fun a w => Fr a 33 [(1, .int .i64 k), (2, .pointer (some ⟨b2, 0, none⟩)), (4, .pointer (some ⟨b3, 0, none⟩)), (13, .bool ((!(inR k (-1000) 1000)) || (!(rOk x))))] ∧ Below w2.heap.size w2 w) ?_ ?_
 ·have hEc : Below w2.heap.size w2 w2 := Below.refl _ _
  refine wp_region_lit ?_
  refine l_ev hf trivial rfl rfl (ev_move hf rfl) ?_; intro a hf
  refine l_eff hf trivial rfl rfl (ef_call (vs := [.int .i64 k, .int .i64 (-1000), .int .i64 1000]) hf rfl ff_91 (F91 _ k (-1000) 1000)) ?_; rintro a _ _ ⟨rfl, rfl⟩ hf
  refine l_ev hf trivial rfl rfl (ev_not hf rfl) ?_; intro a hf
  refine l_ev hf trivial rfl rfl (ev_move hf rfl) ?_; intro a hf
  refine g_split hf (t := 9) rfl (fun hg6 => ?_) (fun hg6 => ?_)
  ·refine l_pass hf ⟨_, _, rfl, rfl, hg6⟩ rfl rfl ?_; intro a hf
   refine l_pass hf ⟨_, _, rfl, rfl, hg6⟩ rfl rfl ?_; intro a hf
   refine l_pass hf ⟨_, _, rfl, rfl, hg6⟩ rfl rfl ?_; intro a hf
   refine l_ev hf trivial rfl rfl (ev_pickT hf rfl hg6 rfl) ?_; intro a hf
   refine wpList_nil ?_
   have hEE : Below w2.heap.size w2 w2 := hEc
   exact ⟨hf.sub ⟨rfl, rfl, rfl, look_bool rfl (by first | rfl | simp [hg6]), trivial⟩, hEE⟩
  ·refine l_ev hf ⟨_, _, rfl, rfl, hg6⟩ rfl rfl (ev_loadN (l := [.int .i64 x.a, .int .i64 x.b, .int .i64 x.c, .int .i64 x.d]) hf rfl tN_187 (hB2.at 0) rfl) ?_; intro a hf
   refine l_eff hf ⟨_, _, rfl, rfl, hg6⟩ rfl rfl (ef_call (vs := [.agg #[.int .i64 x.a, .int .i64 x.b, .int .i64 x.c, .int .i64 x.d]]) hf rfl ff_225 (F225 _ x)) ?_; rintro a _ w3 ⟨rfl, hE⟩ hf
   replace hB2 := hB2.below hE
   replace hB3 := hB3.below hE
   replace hW := hW.trans (hE.mono hW.size)
   replace hEc := hEc.trans (hE.mono hEc.size)
   clear hE
   refine l_ev hf ⟨_, _, rfl, rfl, hg6⟩ rfl rfl (ev_not hf rfl) ?_; intro a hf
   refine l_ev hf trivial rfl rfl (ev_pickF hf rfl hg6 rfl) ?_; intro a hf
   refine wpList_nil ?_
   have hEE : Below w2.heap.size w2 w3 := hEc
   exact ⟨hf.sub ⟨rfl, rfl, rfl, look_bool rfl (by first | rfl | simp [hg6]), trivial⟩, hEE⟩
 rintro a w4 ⟨hf, hE⟩
 replace hB2 := hB2.below hE
 replace hB3 := hB3.below hE
 replace hW := hW.trans (hE.mono hW.size)
 clear hE
 refine hK5 _ _ ?_; try clear hK5 K5
 refine c_if hf rfl (fun hc7 => ?_) (fun hc7 => ?_)
 ·have hc7b := hc7
  have hn : mulOm2 x k = false := by unfold mulOm2; revert hc7; cases inR k (-1000) 1000 <;> cases rOk x <;> simp
  refine wp_seq_k ?_; intro K8 hK8
  refine wp_region_lit ?_
  refine l_ev hf trivial rfl rfl (ev_build (ps := []) (cs := [.int .i64 0, .int .i64 0, .int .i64 0, .int .i64 0]) hf rfl (fun _ => by first | rfl | kernel_rfl)) ?_; intro a hf
  refine l_eff0 hf trivial rfl (ef_store (vs := [.int .i64 0, .int .i64 0, .int .i64 0, .int .i64 0]) (l' := [.int .i64 0, .int .i64 0, .int .i64 0, .int .i64 0]) hf rfl rfl sz_187 hB3 rfl rfl rfl rfl rfl) ?_; rintro a _ w5 ⟨ho, hb⟩ hf
  have hold := hB3
  replace hB2 := hB2.only ho (by omega)
  replace hW := Below.only hW ho hlo3
  clear hold
  have hB3 := hb
  clear hb ho
  refine l_ev hf trivial rfl rfl (ev_assign hf rfl) ?_; intro a hf
  refine wpList_nil ?_
  refine hK8 _ _ ?_; try clear hK8 K8
  refine wp_ret ?_
  refine x_retS ?_
  refine c_ret hf (res2 hf rfl (ResV.cellN (l := [.int .i64 0, .int .i64 0, .int .i64 0, .int .i64 0]) rfl tN_187 (hB3.at 0) rfl) rfl) ?_
  exact ⟨by simp [mulOm1, hn], hW⟩
 ·have hc7b := hc7
  have hy : mulOm2 x k = true := by unfold mulOm2; revert hc7; cases inR k (-1000) 1000 <;> cases rOk x <;> simp
  refine wp_skip ?_
  refine hK4 _ _ ?_; try clear hK4 K4
  refine wp_seq_k ?_; intro K9 hK9
  refine wp_seq_k ?_; intro K10 hK10
  refine wp_region_lit ?_
  refine l_ev hf trivial rfl rfl (ev_move hf rfl) ?_; intro a hf
  refine l_ev hf trivial rfl rfl (ev_rem hf rfl rfl rfl) ?_; intro a hf
  refine l_ev hf trivial rfl rfl (ev_add hf rfl rfl) ?_; intro a hf
  refine l_ev hf trivial rfl rfl (ev_rem hf rfl rfl rfl) ?_; intro a hf
  refine l_ev hf trivial rfl rfl (ev_move hf rfl) ?_; intro a hf
  refine wpList_nil ?_
  refine hK10 _ _ ?_; try clear hK10 K10
  refine wp_block ?_
  have hj : turns k = ((turns k).toNat : Int) := by have := turns_bound k; omega
  have hj8 := (turns_bound k).2
  refine c_loop (σ := Rg × Nat) (fun (s : Rg × Nat) (a : Act) (w : World) => match s with | (y, j) => Fr a 33 [(2, .pointer (some ⟨b2, 0, none⟩)), (4, .pointer (some ⟨b3, 0, none⟩)), (18, .int .i64 ((IntKind.i64.wrap ((k.tmod 8) + 8)).tmod 8)), (19, .int .i64 (j : Int))] ∧ (rTurnN ((turns k).toNat - j) y = rTurn x k) ∧ (j ≤ (turns k).toNat) ∧ Blk w b2 187 [.int .i64 y.a, .int .i64 y.b, .int .i64 y.c, .int .i64 y.d] ∧ Blk w b3 187 [.int .i64 0, .int .i64 0, .int .i64 0, .int .i64 0] ∧ Below w0.heap.size w0 w) (fun (s : Rg × Nat) => match s with | (y, j) => (turns k).toNat - j) (x, 0) ?_ ?_
  · exact ⟨hf.sub ⟨rfl, rfl, rfl, rfl, trivial⟩, rfl, (Nat.zero_le _), hB2, hB3, hW⟩
  rintro ⟨y, j⟩ a w6 ⟨hf, hinv, hj8, hB2, hB3, hW⟩
  refine wp_seq_k ?_; intro K11 hK11
  refine wp_region_lit ?_
  refine l_ev hf trivial rfl rfl (ev_lss hf rfl rfl) ?_; intro a hf
  refine wpList_nil ?_
  refine hK11 _ _ ?_; try clear hK11 K11
  refine wp_seq_k ?_; intro K12 hK12
  refine c_if hf rfl (fun hc13 => ?_) (fun hc13 => ?_)
  ·have hc13b := hc13
   have hc13 := of_decide_eq_true hc13
   have hj1 : (j : Int) < turns k := hc13
   refine wp_skip ?_
   refine hK12 _ _ ?_; try clear hK12 K12
   refine wp_seq_k ?_; intro K14 hK14
   refine wp_block ?_
   refine wp_region_lit ?_
   refine l_ev hf trivial rfl rfl (ev_fieldB hf rfl fd_187_3 (m := 3) rfl) ?_; intro a hf
   refine l_ev hf trivial rfl rfl (ev_load1 hf rfl t1_3 (hB2.at 3)) ?_; intro a hf
   refine l_ev hf trivial rfl rfl (ev_neg hf rfl) ?_; intro a hf
   refine l_ev hf trivial rfl rfl (ev_fieldB hf rfl fd_187_0 (m := 0) rfl) ?_; intro a hf
   refine l_ev hf trivial rfl rfl (ev_load1 hf rfl t1_3 (hB2.at 0)) ?_; intro a hf
   refine l_ev hf trivial rfl rfl (ev_fieldB hf rfl fd_187_1 (m := 1) rfl) ?_; intro a hf
   refine l_ev hf trivial rfl rfl (ev_load1 hf rfl t1_3 (hB2.at 1)) ?_; intro a hf
   refine l_ev hf trivial rfl rfl (ev_fieldB hf rfl fd_187_2 (m := 2) rfl) ?_; intro a hf
   refine l_ev hf trivial rfl rfl (ev_load1 hf rfl t1_3 (hB2.at 2)) ?_; intro a hf
   refine l_ev hf trivial rfl rfl (ev_build (ps := [(0, .int .i64 (IntKind.i64.wrap (-y.d))), (1, .int .i64 y.a), (2, .int .i64 y.b), (3, .int .i64 y.c)]) (cs := [.int .i64 (IntKind.i64.wrap (-y.d)), .int .i64 y.a, .int .i64 y.b, .int .i64 y.c]) hf rfl (fun _ => by first | rfl | kernel_rfl)) ?_; intro a hf
   refine l_eff0 hf trivial rfl (ef_store (vs := [.int .i64 (IntKind.i64.wrap (-y.d)), .int .i64 y.a, .int .i64 y.b, .int .i64 y.c]) (l' := [.int .i64 (IntKind.i64.wrap (-y.d)), .int .i64 y.a, .int .i64 y.b, .int .i64 y.c]) hf rfl rfl sz_187 hB2 rfl rfl rfl rfl rfl) ?_; rintro a _ w7 ⟨ho, hb⟩ hf
   have hold := hB2
   replace hB3 := hB3.only ho (by omega)
   replace hW := Below.only hW ho hlo2
   clear hold
   have hB2 := hb
   clear hb ho
   refine wpList_nil ?_
   refine x_norm ?_
   refine hK14 _ _ ?_; try clear hK14 K14
   refine wp_region_lit ?_
   refine l_ev hf trivial rfl rfl (ev_addx hf rfl rfl (by omega) (by omega)) ?_; intro a hf
   refine l_ev hf trivial rfl rfl (ev_move hf rfl) ?_; intro a hf
   refine wpList_nil ?_
   refine x_thenN ?_
   exact ⟨(rOm y, j + 1), ⟨hf.sub ⟨rfl, rfl, rfl, rfl, trivial⟩, (by rw [← hinv]; obtain ⟨m, hm⟩ : ∃ m, (turns k).toNat - j = m + 1 := ⟨(turns k).toNat - j - 1, by omega⟩; rw [hm, show (turns k).toNat - (j + 1) = m from by omega]; rfl), (by omega), hB2, hB3, hW⟩, (by first | omega | (dsimp only; omega))⟩
  ·have hc13b := hc13
   have hc13 := of_decide_eq_false hc13
   have hj1 : ¬ (j : Int) < turns k := hc13
   refine wp_exit ?_
   refine x_exS ?_
   refine x_exS ?_
   refine x_exit ?_
   refine hK9 _ _ ?_; try clear hK9 K9
   refine wp_seq_k ?_; intro K15 hK15
   refine wp_region_lit ?_
   refine l_ev hf trivial rfl rfl (ev_loadN (l := [.int .i64 y.a, .int .i64 y.b, .int .i64 y.c, .int .i64 y.d]) hf rfl tN_187 (hB2.at 0) rfl) ?_; intro a hf
   refine l_eff0 hf trivial rfl (ef_store (vs := [.int .i64 y.a, .int .i64 y.b, .int .i64 y.c, .int .i64 y.d]) (l' := [.int .i64 y.a, .int .i64 y.b, .int .i64 y.c, .int .i64 y.d]) hf rfl rfl sz_187 hB3 rfl rfl rfl rfl rfl) ?_; rintro a _ w8 ⟨ho, hb⟩ hf
   have hold := hB3
   replace hB2 := hB2.only ho (by omega)
   replace hW := Below.only hW ho hlo3
   clear hold
   have hB3 := hb
   clear hb ho
   refine l_ev hf trivial rfl rfl (ev_assign hf rfl) ?_; intro a hf
   refine wpList_nil ?_
   refine hK15 _ _ ?_; try clear hK15 K15
   refine wp_ret ?_
   refine c_ret hf (res2 hf rfl (ResV.cellN (l := [.int .i64 y.a, .int .i64 y.b, .int .i64 y.c, .int .i64 y.d]) rfl tN_187 (hB3.at 0) rfl) rfl) ?_
   have hj0 : (turns k).toNat - j = 0 := by omega
   rw [hj0] at hinv
   refine ⟨?_, hW⟩
   rw [mulOm1, hy, if_pos rfl, ← hinv]; rfl
theorem F140 (w0 : World) (k : Int) (hk : inR k (-1000) 1000 = true) : Ret Tryz.prog 140 [.int .i64 k] w0 (fun v w => v = dV (dPow k) ∧ Below w0.heap.size w0 w) := by
 refine enter Tryz.func140 rfl 13 rfl rfl ?_
 intro a hf
 have hW : Below w0.heap.size w0 w0 := Below.refl _ _
 refine wp_seq_k ?_; intro K1 hK1
 refine wp_region_lit ?_
 refine l_eff hf trivial rfl rfl (ef_alloc (zs := [.int .i64 0, .int .i64 0, .int .i64 0, .int .i64 0, .int .i64 0]) z_189 rfl) ?_; rintro a _ w1 ⟨b2, rfl, hl2, hE, hB2⟩ hf
 have hlo2 := Nat.le_trans hW.size hl2
 replace hW := hW.trans (hE.mono hW.size)
 clear hE
 refine wpList_nil ?_
 refine hK1 _ _ ?_; try clear hK1 K1
 refine wp_seq_k ?_; intro K3 hK3
 refine wp_region_lit ?_
 refine l_ev hf trivial rfl rfl (ev_build (ps := [(0, .int .i64 1)]) (cs := [.int .i64 1, .int .i64 0, .int .i64 0, .int .i64 0]) hf rfl (fun _ => by first | rfl | kernel_rfl)) ?_; intro a hf
 refine l_ev hf trivial rfl rfl (ev_move hf rfl) ?_; intro a hf
 refine l_eff hf trivial rfl rfl (ef_call (vs := [.agg #[.int .i64 1, .int .i64 0, .int .i64 0, .int .i64 0], .int .i64 k]) hf rfl ff_197 (F197 _ (⟨1, 0, 0, 0⟩ : Rg) k)) ?_; rintro a _ w2 ⟨rfl, hE⟩ hf
 replace hB2 := hB2.below hE
 replace hW := hW.trans (hE.mono hW.size)
 clear hE
 refine l_ev hf trivial rfl rfl (ev_move hf rfl) ?_; intro a hf
 refine l_ev hf trivial rfl rfl (ev_extract (vs := [.agg #[.int .i64 ((mulOm1 (⟨1, 0, 0, 0⟩ : Rg) k).a), .int .i64 ((mulOm1 (⟨1, 0, 0, 0⟩ : Rg) k).b), .int .i64 ((mulOm1 (⟨1, 0, 0, 0⟩ : Rg) k).c), .int .i64 ((mulOm1 (⟨1, 0, 0, 0⟩ : Rg) k).d)], .bool (mulOm2 (⟨1, 0, 0, 0⟩ : Rg) k)]) hf rfl rfl) ?_; intro a hf
 refine l_ev hf trivial rfl rfl (ev_extract (vs := [.agg #[.int .i64 ((mulOm1 (⟨1, 0, 0, 0⟩ : Rg) k).a), .int .i64 ((mulOm1 (⟨1, 0, 0, 0⟩ : Rg) k).b), .int .i64 ((mulOm1 (⟨1, 0, 0, 0⟩ : Rg) k).c), .int .i64 ((mulOm1 (⟨1, 0, 0, 0⟩ : Rg) k).d)], .bool (mulOm2 (⟨1, 0, 0, 0⟩ : Rg) k)]) hf rfl rfl) ?_; intro a hf
 refine l_eff hf trivial rfl rfl (ef_alloc (zs := [.int .i64 0, .int .i64 0, .int .i64 0, .int .i64 0]) z_187 rfl) ?_; rintro a _ w3 ⟨b4, rfl, hl4, hE, hB4⟩ hf
 have hlo4 := Nat.le_trans hW.size hl4
 replace hB2 := hB2.below hE
 replace hW := hW.trans (hE.mono hW.size)
 clear hE
 refine l_eff0 hf trivial rfl (ef_store (vs := [.int .i64 ((mulOm1 (⟨1, 0, 0, 0⟩ : Rg) k).a), .int .i64 ((mulOm1 (⟨1, 0, 0, 0⟩ : Rg) k).b), .int .i64 ((mulOm1 (⟨1, 0, 0, 0⟩ : Rg) k).c), .int .i64 ((mulOm1 (⟨1, 0, 0, 0⟩ : Rg) k).d)]) (l' := [.int .i64 ((mulOm1 (⟨1, 0, 0, 0⟩ : Rg) k).a), .int .i64 ((mulOm1 (⟨1, 0, 0, 0⟩ : Rg) k).b), .int .i64 ((mulOm1 (⟨1, 0, 0, 0⟩ : Rg) k).c), .int .i64 ((mulOm1 (⟨1, 0, 0, 0⟩ : Rg) k).d)]) hf rfl rfl sz_187 hB4 rfl rfl rfl rfl rfl) ?_; rintro a _ w4 ⟨ho, hb⟩ hf
 have hold := hB4
 replace hB2 := hB2.only ho (Blk.ne hB2 hold rfl)
 replace hW := Below.only hW ho hlo4
 clear hold
 have hB4 := hb
 clear hb ho
 refine l_ev hf trivial rfl rfl (ev_assign hf rfl) ?_; intro a hf
 refine wpList_nil ?_
 refine hK3 _ _ ?_; try clear hK3 K3
 refine wp_seq_k ?_; intro K5 hK5
 refine wp_region_lit ?_
 refine l_ev hf trivial rfl rfl (ev_loadN (l := [.int .i64 ((mulOm1 (⟨1, 0, 0, 0⟩ : Rg) k).a), .int .i64 ((mulOm1 (⟨1, 0, 0, 0⟩ : Rg) k).b), .int .i64 ((mulOm1 (⟨1, 0, 0, 0⟩ : Rg) k).c), .int .i64 ((mulOm1 (⟨1, 0, 0, 0⟩ : Rg) k).d)]) hf rfl tN_187 (hB4.at 0) rfl) ?_; intro a hf
 refine l_ev hf trivial rfl rfl (ev_build (ps := [(0, .agg #[.int .i64 ((mulOm1 (⟨1, 0, 0, 0⟩ : Rg) k).a), .int .i64 ((mulOm1 (⟨1, 0, 0, 0⟩ : Rg) k).b), .int .i64 ((mulOm1 (⟨1, 0, 0, 0⟩ : Rg) k).c), .int .i64 ((mulOm1 (⟨1, 0, 0, 0⟩ : Rg) k).d)])]) (cs := [.int .i64 ((mulOm1 (⟨1, 0, 0, 0⟩ : Rg) k).a), .int .i64 ((mulOm1 (⟨1, 0, 0, 0⟩ : Rg) k).b), .int .i64 ((mulOm1 (⟨1, 0, 0, 0⟩ : Rg) k).c), .int .i64 ((mulOm1 (⟨1, 0, 0, 0⟩ : Rg) k).d), .int .i64 0]) hf rfl (fun _ => by first | rfl | kernel_rfl)) ?_; intro a hf
 refine l_eff0 hf trivial rfl (ef_store (vs := [.int .i64 ((mulOm1 (⟨1, 0, 0, 0⟩ : Rg) k).a), .int .i64 ((mulOm1 (⟨1, 0, 0, 0⟩ : Rg) k).b), .int .i64 ((mulOm1 (⟨1, 0, 0, 0⟩ : Rg) k).c), .int .i64 ((mulOm1 (⟨1, 0, 0, 0⟩ : Rg) k).d), .int .i64 0]) (l' := [.int .i64 ((mulOm1 (⟨1, 0, 0, 0⟩ : Rg) k).a), .int .i64 ((mulOm1 (⟨1, 0, 0, 0⟩ : Rg) k).b), .int .i64 ((mulOm1 (⟨1, 0, 0, 0⟩ : Rg) k).c), .int .i64 ((mulOm1 (⟨1, 0, 0, 0⟩ : Rg) k).d), .int .i64 0]) hf rfl rfl sz_189 hB2 rfl rfl rfl rfl rfl) ?_; rintro a _ w5 ⟨ho, hb⟩ hf
 have hold := hB2
 replace hB4 := hB4.only ho (Blk.ne hB4 hold rfl)
 replace hW := Below.only hW ho hlo2
 clear hold
 have hB2 := hb
 clear hb ho
 refine wpList_nil ?_
 refine hK5 _ _ ?_; try clear hK5 K5
 refine wp_ret ?_
 refine c_ret hf (res1 hf rfl (ResV.cellN (l := [.int .i64 ((mulOm1 (⟨1, 0, 0, 0⟩ : Rg) k).a), .int .i64 ((mulOm1 (⟨1, 0, 0, 0⟩ : Rg) k).b), .int .i64 ((mulOm1 (⟨1, 0, 0, 0⟩ : Rg) k).c), .int .i64 ((mulOm1 (⟨1, 0, 0, 0⟩ : Rg) k).d), .int .i64 0]) rfl tN_189 (hB2.at 0) rfl)) ?_
 refine ⟨?_, hW⟩
 have h2 : mulOm2 ⟨1, 0, 0, 0⟩ k = true := by simp only [mulOm2, hk, Bool.true_and]; rfl
 rw [mulOm1, h2]; rfl
theorem F193 (w0 : World) (x : Dy) : Ret Tryz.prog 193 [.agg #[.int .i64 x.num.a, .int .i64 x.num.b, .int .i64 x.num.c, .int .i64 x.num.d, .int .i64 x.exp]] w0 (fun v w => v = .bool (dOk x) ∧ Below w0.heap.size w0 w) := by
 refine enter Tryz.func193 rfl 22 rfl rfl ?_
 intro a hf
 have hW : Below w0.heap.size w0 w0 := Below.refl _ _
 refine wp_seq_k ?_; intro K1 hK1
 refine wp_region_lit ?_
 refine l_eff hf trivial rfl rfl (ef_box (zs := [.int .i64 x.num.a, .int .i64 x.num.b, .int .i64 x.num.c, .int .i64 x.num.d, .int .i64 x.exp]) hf rfl rfl) ?_; rintro a _ w1 ⟨b2, rfl, hl2, hE, hB2⟩ hf
 have hlo2 := Nat.le_trans hW.size hl2
 replace hW := hW.trans (hE.mono hW.size)
 clear hE
 refine l_ev hf trivial rfl rfl (ev_assign hf rfl) ?_; intro a hf
 refine wpList_nil ?_
 refine hK1 _ _ ?_; try clear hK1 K1
 refine wp_seq_k ?_; intro K3 hK3
 refine c_cut (fun a w => Fr a 22 [(2, .bool (((rOk x.num) && (inR x.exp 0 60)) && ((x.exp == 0) || (!(rEven x.num)))))] ∧ Below w1.heap.size w1 w) ?_ ?_
 ·have hEc : Below w1.heap.size w1 w1 := Below.refl _ _
  refine wp_region_lit ?_
  refine l_ev hf trivial rfl rfl (ev_fieldB hf rfl fd_189_0 (m := 0) rfl) ?_; intro a hf
  refine l_ev hf trivial rfl rfl (ev_loadN (l := [.int .i64 x.num.a, .int .i64 x.num.b, .int .i64 x.num.c, .int .i64 x.num.d]) hf rfl tN_187 ((hB2.at 0).take 4) rfl) ?_; intro a hf
  refine l_eff hf trivial rfl rfl (ef_call (vs := [.agg #[.int .i64 x.num.a, .int .i64 x.num.b, .int .i64 x.num.c, .int .i64 x.num.d]]) hf rfl ff_225 (F225 _ x.num)) ?_; rintro a _ w2 ⟨rfl, hE⟩ hf
  replace hB2 := hB2.below hE
  replace hW := hW.trans (hE.mono hW.size)
  replace hEc := hEc.trans (hE.mono hEc.size)
  clear hE
  refine l_ev hf trivial rfl rfl (ev_move hf rfl) ?_; intro a hf
  refine g_split hf (t := 6) rfl (fun hg4 => ?_) (fun hg4 => ?_)
  ·refine l_ev hf ⟨_, _, rfl, rfl, hg4⟩ rfl rfl (ev_fieldB hf rfl fd_189_1 (m := 4) rfl) ?_; intro a hf
   refine l_ev hf ⟨_, _, rfl, rfl, hg4⟩ rfl rfl (ev_load1 hf rfl t1_3 (hB2.at 4)) ?_; intro a hf
   refine l_eff hf ⟨_, _, rfl, rfl, hg4⟩ rfl rfl (ef_call (vs := [.int .i64 x.exp, .int .i64 0, .int .i64 60]) hf rfl ff_91 (F91 _ x.exp 0 60)) ?_; rintro a _ _ ⟨rfl, rfl⟩ hf
   refine l_ev hf trivial rfl rfl (ev_pickT hf rfl hg4 rfl) ?_; intro a hf
   refine l_ev hf trivial rfl rfl (ev_move hf rfl) ?_; intro a hf
   refine g_split hf (t := 11) rfl (fun hg5 => ?_) (fun hg5 => ?_)
   ·refine l_ev hf ⟨_, _, rfl, rfl, hg5⟩ rfl rfl (ev_fieldB hf rfl fd_189_1 (m := 4) rfl) ?_; intro a hf
    refine l_ev hf ⟨_, _, rfl, rfl, hg5⟩ rfl rfl (ev_load1 hf rfl t1_3 (hB2.at 4)) ?_; intro a hf
    refine l_ev hf ⟨_, _, rfl, rfl, hg5⟩ rfl rfl (ev_eql hf rfl rfl) ?_; intro a hf
    refine l_ev hf ⟨_, _, rfl, rfl, hg5⟩ rfl rfl (ev_move hf rfl) ?_; intro a hf
    refine g_split hf (t := 15) rfl (fun hg6 => ?_) (fun hg6 => ?_)
    ·refine l_pass hf ⟨_, _, rfl, rfl, hg6⟩ rfl rfl ?_; intro a hf
     refine l_pass hf ⟨_, _, rfl, rfl, hg6⟩ rfl rfl ?_; intro a hf
     refine l_pass hf ⟨_, _, rfl, rfl, hg6⟩ rfl rfl ?_; intro a hf
     refine l_pass hf ⟨_, _, rfl, rfl, hg6⟩ rfl rfl ?_; intro a hf
     refine l_ev hf ⟨_, _, rfl, rfl, hg5⟩ rfl rfl (ev_pickT hf rfl hg6 rfl) ?_; intro a hf
     refine l_ev hf trivial rfl rfl (ev_pickT hf rfl hg5 rfl) ?_; intro a hf
     refine l_ev hf trivial rfl rfl (ev_assign hf rfl) ?_; intro a hf
     refine wpList_nil ?_
     have hEE : Below w1.heap.size w1 w2 := hEc
     exact ⟨hf.sub ⟨look_bool rfl (by first | rfl | simp [hg4, hg5, hg6]), trivial⟩, hEE⟩
    ·refine l_ev hf ⟨_, _, rfl, rfl, hg6⟩ rfl rfl (ev_fieldB hf rfl fd_189_0 (m := 0) rfl) ?_; intro a hf
     refine l_ev hf ⟨_, _, rfl, rfl, hg6⟩ rfl rfl (ev_loadN (l := [.int .i64 x.num.a, .int .i64 x.num.b, .int .i64 x.num.c, .int .i64 x.num.d]) hf rfl tN_187 ((hB2.at 0).take 4) rfl) ?_; intro a hf
     refine l_eff hf ⟨_, _, rfl, rfl, hg6⟩ rfl rfl (ef_call (vs := [.agg #[.int .i64 x.num.a, .int .i64 x.num.b, .int .i64 x.num.c, .int .i64 x.num.d]]) hf rfl ff_226 (F226 _ x.num)) ?_; rintro a _ w3 ⟨rfl, hE⟩ hf
     replace hB2 := hB2.below hE
     replace hW := hW.trans (hE.mono hW.size)
     replace hEc := hEc.trans (hE.mono hEc.size)
     clear hE
     refine l_ev hf ⟨_, _, rfl, rfl, hg6⟩ rfl rfl (ev_not hf rfl) ?_; intro a hf
     refine l_ev hf ⟨_, _, rfl, rfl, hg5⟩ rfl rfl (ev_pickF hf rfl hg6 rfl) ?_; intro a hf
     refine l_ev hf trivial rfl rfl (ev_pickT hf rfl hg5 rfl) ?_; intro a hf
     refine l_ev hf trivial rfl rfl (ev_assign hf rfl) ?_; intro a hf
     refine wpList_nil ?_
     have hEE : Below w1.heap.size w1 w3 := hEc
     exact ⟨hf.sub ⟨look_bool rfl (by first | rfl | simp [hg4, hg5, hg6]), trivial⟩, hEE⟩
   ·refine l_pass hf ⟨_, _, rfl, rfl, hg5⟩ rfl rfl ?_; intro a hf
    refine l_pass hf ⟨_, _, rfl, rfl, hg5⟩ rfl rfl ?_; intro a hf
    refine l_pass hf ⟨_, _, rfl, rfl, hg5⟩ rfl rfl ?_; intro a hf
    refine l_pass hf ⟨_, _, rfl, rfl, hg5⟩ rfl rfl ?_; intro a hf
    refine l_pass hf ⟨_, _, rfl, rfl, trivial⟩ rfl rfl ?_; intro a hf
    refine l_pass hf ⟨_, _, rfl, rfl, trivial⟩ rfl rfl ?_; intro a hf
    refine l_pass hf ⟨_, _, rfl, rfl, trivial⟩ rfl rfl ?_; intro a hf
    refine l_pass hf ⟨_, _, rfl, rfl, trivial⟩ rfl rfl ?_; intro a hf
    refine l_pass hf ⟨_, _, rfl, rfl, hg5⟩ rfl rfl ?_; intro a hf
    refine l_ev hf trivial rfl rfl (ev_pickF hf rfl hg5 rfl) ?_; intro a hf
    refine l_ev hf trivial rfl rfl (ev_assign hf rfl) ?_; intro a hf
    refine wpList_nil ?_
    have hEE : Below w1.heap.size w1 w2 := hEc
    exact ⟨hf.sub ⟨look_bool rfl (by first | rfl | simp [hg4, hg5]), trivial⟩, hEE⟩
  ·refine l_pass hf ⟨_, _, rfl, rfl, hg4⟩ rfl rfl ?_; intro a hf
   refine l_pass hf ⟨_, _, rfl, rfl, hg4⟩ rfl rfl ?_; intro a hf
   refine l_pass hf ⟨_, _, rfl, rfl, hg4⟩ rfl rfl ?_; intro a hf
   refine l_ev hf trivial rfl rfl (ev_pickF hf rfl hg4 rfl) ?_; intro a hf
   refine l_ev hf trivial rfl rfl (ev_move hf rfl) ?_; intro a hf
   refine l_pass hf ⟨_, _, rfl, rfl, rfl⟩ rfl rfl ?_; intro a hf
   refine l_pass hf ⟨_, _, rfl, rfl, rfl⟩ rfl rfl ?_; intro a hf
   refine l_pass hf ⟨_, _, rfl, rfl, rfl⟩ rfl rfl ?_; intro a hf
   refine l_pass hf ⟨_, _, rfl, rfl, rfl⟩ rfl rfl ?_; intro a hf
   refine l_pass hf ⟨_, _, rfl, rfl, trivial⟩ rfl rfl ?_; intro a hf
   refine l_pass hf ⟨_, _, rfl, rfl, trivial⟩ rfl rfl ?_; intro a hf
   refine l_pass hf ⟨_, _, rfl, rfl, trivial⟩ rfl rfl ?_; intro a hf
   refine l_pass hf ⟨_, _, rfl, rfl, trivial⟩ rfl rfl ?_; intro a hf
   refine l_pass hf ⟨_, _, rfl, rfl, rfl⟩ rfl rfl ?_; intro a hf
   refine l_ev hf trivial rfl rfl (ev_pickF hf rfl rfl rfl) ?_; intro a hf
   refine l_ev hf trivial rfl rfl (ev_assign hf rfl) ?_; intro a hf
   refine wpList_nil ?_
   have hEE : Below w1.heap.size w1 w2 := hEc
   exact ⟨hf.sub ⟨look_bool rfl (by first | rfl | simp [hg4]), trivial⟩, hEE⟩
 rintro a w4 ⟨hf, hE⟩
 replace hB2 := hB2.below hE
 replace hW := hW.trans (hE.mono hW.size)
 clear hE
 refine hK3 _ _ ?_; try clear hK3 K3
 refine wp_ret ?_
 refine c_ret hf (res1 hf rfl rfl) ?_
 exact ⟨by simp [dOk, *], hW⟩
theorem F228 (w0 : World) (x : Rg) (m : Int) : Ret Tryz.prog 228 [.agg #[.int .i64 x.a, .int .i64 x.b, .int .i64 x.c, .int .i64 x.d], .int .i64 m] w0 (fun v w => v = .tuple #[dV ((dOf x m).getD dZ), .bool ((dOf x m).isSome)] ∧ Below w0.heap.size w0 w) := by
 refine enter Tryz.func228 rfl 31 rfl rfl ?_
 intro a hf
 have hW : Below w0.heap.size w0 w0 := Below.refl _ _
 refine wp_seq_k ?_; intro K1 hK1
 refine wp_region_lit ?_
 refine l_eff hf trivial rfl rfl (ef_box (zs := [.int .i64 x.a, .int .i64 x.b, .int .i64 x.c, .int .i64 x.d]) hf rfl rfl) ?_; rintro a _ w1 ⟨b2, rfl, hl2, hE, hB2⟩ hf
 have hlo2 := Nat.le_trans hW.size hl2
 replace hW := hW.trans (hE.mono hW.size)
 clear hE
 refine l_eff hf trivial rfl rfl (ef_alloc (zs := [.int .i64 0, .int .i64 0, .int .i64 0, .int .i64 0, .int .i64 0]) z_189 rfl) ?_; rintro a _ w2 ⟨b3, rfl, hl3, hE, hB3⟩ hf
 have hlo3 := Nat.le_trans hW.size hl3
 replace hB2 := hB2.below hE
 replace hW := hW.trans (hE.mono hW.size)
 clear hE
 refine l_ev hf trivial rfl rfl (ev_assign hf rfl) ?_; intro a hf
 refine wpList_nil ?_
 refine hK1 _ _ ?_; try clear hK1 K1
 refine wp_seq_k ?_; intro K4 hK4
 refine wp_seq_k ?_; intro K5 hK5
 refine c_cut (fun a w => Fr a 31 [(1, .int .i64 m), (2, .pointer (some ⟨b2, 0, none⟩)), (4, .pointer (some ⟨b3, 0, none⟩)), (13, .bool ((!(rOk x)) || (!(inR m 0 60))))] ∧ Below w2.heap.size w2 w) ?_ ?_
 ·have hEc : Below w2.heap.size w2 w2 := Below.refl _ _
  refine wp_region_lit ?_
  refine l_ev hf trivial rfl rfl (ev_loadN (l := [.int .i64 x.a, .int .i64 x.b, .int .i64 x.c, .int .i64 x.d]) hf rfl tN_187 (hB2.at 0) rfl) ?_; intro a hf
  refine l_eff hf trivial rfl rfl (ef_call (vs := [.agg #[.int .i64 x.a, .int .i64 x.b, .int .i64 x.c, .int .i64 x.d]]) hf rfl ff_225 (F225 _ x)) ?_; rintro a _ w3 ⟨rfl, hE⟩ hf
  replace hB2 := hB2.below hE
  replace hB3 := hB3.below hE
  replace hW := hW.trans (hE.mono hW.size)
  replace hEc := hEc.trans (hE.mono hEc.size)
  clear hE
  refine l_ev hf trivial rfl rfl (ev_not hf rfl) ?_; intro a hf
  refine l_ev hf trivial rfl rfl (ev_move hf rfl) ?_; intro a hf
  refine g_split hf (t := 9) rfl (fun hg6 => ?_) (fun hg6 => ?_)
  ·refine l_pass hf ⟨_, _, rfl, rfl, hg6⟩ rfl rfl ?_; intro a hf
   refine l_pass hf ⟨_, _, rfl, rfl, hg6⟩ rfl rfl ?_; intro a hf
   refine l_pass hf ⟨_, _, rfl, rfl, hg6⟩ rfl rfl ?_; intro a hf
   refine l_ev hf trivial rfl rfl (ev_pickT hf rfl hg6 rfl) ?_; intro a hf
   refine wpList_nil ?_
   have hEE : Below w2.heap.size w2 w3 := hEc
   exact ⟨hf.sub ⟨rfl, rfl, rfl, look_bool rfl (by first | rfl | simp [hg6]), trivial⟩, hEE⟩
  ·refine l_ev hf ⟨_, _, rfl, rfl, hg6⟩ rfl rfl (ev_move hf rfl) ?_; intro a hf
   refine l_eff hf ⟨_, _, rfl, rfl, hg6⟩ rfl rfl (ef_call (vs := [.int .i64 m, .int .i64 0, .int .i64 60]) hf rfl ff_91 (F91 _ m 0 60)) ?_; rintro a _ _ ⟨rfl, rfl⟩ hf
   refine l_ev hf ⟨_, _, rfl, rfl, hg6⟩ rfl rfl (ev_not hf rfl) ?_; intro a hf
   refine l_ev hf trivial rfl rfl (ev_pickF hf rfl hg6 rfl) ?_; intro a hf
   refine wpList_nil ?_
   have hEE : Below w2.heap.size w2 w3 := hEc
   exact ⟨hf.sub ⟨rfl, rfl, rfl, look_bool rfl (by first | rfl | simp [hg6]), trivial⟩, hEE⟩
 rintro a w4 ⟨hf, hE⟩
 replace hB2 := hB2.below hE
 replace hB3 := hB3.below hE
 replace hW := hW.trans (hE.mono hW.size)
 clear hE
 refine hK5 _ _ ?_; try clear hK5 K5
 refine c_if hf rfl (fun hc7 => ?_) (fun hc7 => ?_)
 ·have hc7b := hc7
  have hn : (rOk x && inR m 0 60) = false := by revert hc7; cases rOk x <;> cases inR m 0 60 <;> simp
  refine wp_seq_k ?_; intro K8 hK8
  refine wp_region_lit ?_
  refine l_ev hf trivial rfl rfl (ev_build (ps := []) (cs := [.int .i64 0, .int .i64 0, .int .i64 0, .int .i64 0, .int .i64 0]) hf rfl (fun _ => by first | rfl | kernel_rfl)) ?_; intro a hf
  refine l_eff0 hf trivial rfl (ef_store (vs := [.int .i64 0, .int .i64 0, .int .i64 0, .int .i64 0, .int .i64 0]) (l' := [.int .i64 0, .int .i64 0, .int .i64 0, .int .i64 0, .int .i64 0]) hf rfl rfl sz_189 hB3 rfl rfl rfl rfl rfl) ?_; rintro a _ w5 ⟨ho, hb⟩ hf
  have hold := hB3
  replace hB2 := hB2.only ho (Blk.ne hB2 hold rfl)
  replace hW := Below.only hW ho hlo3
  clear hold
  have hB3 := hb
  clear hb ho
  refine l_ev hf trivial rfl rfl (ev_assign hf rfl) ?_; intro a hf
  refine wpList_nil ?_
  refine hK8 _ _ ?_; try clear hK8 K8
  refine wp_ret ?_
  refine x_retS ?_
  refine c_ret hf (res2 hf rfl (ResV.cellN (l := [.int .i64 0, .int .i64 0, .int .i64 0, .int .i64 0, .int .i64 0]) rfl tN_189 (hB3.at 0) rfl) rfl) ?_
  exact ⟨by simp [dOf, hn, dZ], hW⟩
 ·have hc7b := hc7
  have hy : (rOk x && inR m 0 60) = true := by revert hc7; cases rOk x <;> cases inR m 0 60 <;> simp
  have hy2 := (Bool.and_eq_true _ _ ▸ hy : rOk x = true ∧ inR m 0 60 = true)
  have hm := inR_iff.1 hy2.2
  refine wp_skip ?_
  refine hK4 _ _ ?_; try clear hK4 K4
  refine wp_seq_k ?_; intro K9 hK9
  refine wp_block ?_
  refine c_loop (σ := Rg × Int) (fun (s : Rg × Int) (a : Act) (w : World) => match s with | (y, j) => Fr a 31 [(1, .int .i64 j), (2, .pointer (some ⟨b2, 0, none⟩)), (4, .pointer (some ⟨b3, 0, none⟩))] ∧ (dLow y j = dLow x m) ∧ (rOk y = true) ∧ (j ≤ 60) ∧ Blk w b2 187 [.int .i64 y.a, .int .i64 y.b, .int .i64 y.c, .int .i64 y.d] ∧ Blk w b3 189 [.int .i64 0, .int .i64 0, .int .i64 0, .int .i64 0, .int .i64 0] ∧ Below w0.heap.size w0 w) (fun (s : Rg × Int) => match s with | (y, j) => j.toNat) (x, m) ?_ ?_
  · exact ⟨hf.sub ⟨rfl, rfl, rfl, trivial⟩, rfl, hy2.1, hm.2, hB2, hB3, hW⟩
  rintro ⟨y, j⟩ a w6 ⟨hf, hinv, hok, hjm, hB2, hB3, hW⟩
  refine wp_seq_k ?_; intro K10 hK10
  refine wp_seq_k ?_; intro K11 hK11
  refine c_cut (fun a w => Fr a 31 [(1, .int .i64 j), (2, .pointer (some ⟨b2, 0, none⟩)), (4, .pointer (some ⟨b3, 0, none⟩)), (20, .bool ((decide (0 < j)) && (rEven y)))] ∧ Below w6.heap.size w6 w) ?_ ?_
  ·have hEc : Below w6.heap.size w6 w6 := Below.refl _ _
   refine wp_region_lit ?_
   refine l_ev hf trivial rfl rfl (ev_move hf rfl) ?_; intro a hf
   refine l_ev hf trivial rfl rfl (ev_gtr hf rfl rfl) ?_; intro a hf
   refine l_ev hf trivial rfl rfl (ev_move hf rfl) ?_; intro a hf
   refine g_split hf (t := 17) rfl (fun hg12 => ?_) (fun hg12 => ?_)
   ·refine l_ev hf ⟨_, _, rfl, rfl, hg12⟩ rfl rfl (ev_loadN (l := [.int .i64 y.a, .int .i64 y.b, .int .i64 y.c, .int .i64 y.d]) hf rfl tN_187 (hB2.at 0) rfl) ?_; intro a hf
    refine l_eff hf ⟨_, _, rfl, rfl, hg12⟩ rfl rfl (ef_call (vs := [.agg #[.int .i64 y.a, .int .i64 y.b, .int .i64 y.c, .int .i64 y.d]]) hf rfl ff_226 (F226 _ y)) ?_; rintro a _ w7 ⟨rfl, hE⟩ hf
    replace hB2 := hB2.below hE
    replace hB3 := hB3.below hE
    replace hW := hW.trans (hE.mono hW.size)
    replace hEc := hEc.trans (hE.mono hEc.size)
    clear hE
    refine l_ev hf trivial rfl rfl (ev_pickT hf rfl hg12 rfl) ?_; intro a hf
    refine wpList_nil ?_
    have hEE : Below w6.heap.size w6 w7 := hEc
    exact ⟨hf.sub ⟨rfl, rfl, rfl, look_bool rfl (by first | rfl | simp [hc7b, hg12]), trivial⟩, hEE⟩
   ·refine l_pass hf ⟨_, _, rfl, rfl, hg12⟩ rfl rfl ?_; intro a hf
    refine l_pass hf ⟨_, _, rfl, rfl, hg12⟩ rfl rfl ?_; intro a hf
    refine l_ev hf trivial rfl rfl (ev_pickF hf rfl hg12 rfl) ?_; intro a hf
    refine wpList_nil ?_
    have hEE : Below w6.heap.size w6 w6 := hEc
    exact ⟨hf.sub ⟨rfl, rfl, rfl, look_bool rfl (by first | rfl | simp [hc7b, hg12]), trivial⟩, hEE⟩
  rintro a w8 ⟨hf, hE⟩
  replace hB2 := hB2.below hE
  replace hB3 := hB3.below hE
  replace hW := hW.trans (hE.mono hW.size)
  clear hE
  refine hK11 _ _ ?_; try clear hK11 K11
  refine c_if hf rfl (fun hc13 => ?_) (fun hc13 => ?_)
  ·have hc13b := hc13
   have hj0 : 0 < j := by revert hc13; simp; omega
   have hev : rEven y = true := by revert hc13; cases rEven y <;> simp
   refine wp_skip ?_
   refine hK10 _ _ ?_; try clear hK10 K10
   refine wp_block ?_
   refine wp_seq_k ?_; intro K14 hK14
   refine wp_region_lit ?_
   refine l_ev hf trivial rfl rfl (ev_loadN (l := [.int .i64 y.a, .int .i64 y.b, .int .i64 y.c, .int .i64 y.d]) hf rfl tN_187 (hB2.at 0) rfl) ?_; intro a hf
   refine l_eff hf trivial rfl rfl (ef_call (vs := [.agg #[.int .i64 y.a, .int .i64 y.b, .int .i64 y.c, .int .i64 y.d]]) hf rfl ff_243 (F243 _ y)) ?_; rintro a _ w9 ⟨rfl, hE⟩ hf
   replace hB2 := hB2.below hE
   replace hB3 := hB3.below hE
   replace hW := hW.trans (hE.mono hW.size)
   clear hE
   refine l_ev hf trivial rfl rfl (ev_move hf rfl) ?_; intro a hf
   refine l_ev hf trivial rfl rfl (ev_extract (vs := [.agg #[.int .i64 ((rDiv1 y).a), .int .i64 ((rDiv1 y).b), .int .i64 ((rDiv1 y).c), .int .i64 ((rDiv1 y).d)], .bool (rDiv2 y)]) hf rfl rfl) ?_; intro a hf
   refine l_ev hf trivial rfl rfl (ev_extract (vs := [.agg #[.int .i64 ((rDiv1 y).a), .int .i64 ((rDiv1 y).b), .int .i64 ((rDiv1 y).c), .int .i64 ((rDiv1 y).d)], .bool (rDiv2 y)]) hf rfl rfl) ?_; intro a hf
   refine l_eff0 hf trivial rfl (ef_store (vs := [.int .i64 ((rDiv1 y).a), .int .i64 ((rDiv1 y).b), .int .i64 ((rDiv1 y).c), .int .i64 ((rDiv1 y).d)]) (l' := [.int .i64 ((rDiv1 y).a), .int .i64 ((rDiv1 y).b), .int .i64 ((rDiv1 y).c), .int .i64 ((rDiv1 y).d)]) hf rfl rfl sz_187 hB2 rfl rfl rfl rfl rfl) ?_; rintro a _ w10 ⟨ho, hb⟩ hf
   have hold := hB2
   replace hB3 := hB3.only ho (Blk.ne hB3 hold rfl)
   replace hW := Below.only hW ho hlo2
   clear hold
   have hB2 := hb
   clear hb ho
   refine wpList_nil ?_
   refine hK14 _ _ ?_; try clear hK14 K14
   refine wp_region_lit ?_
   refine l_ev hf trivial rfl rfl (ev_move hf rfl) ?_; intro a hf
   refine l_ev hf trivial rfl rfl (ev_subx hf rfl rfl (by omega) (by omega)) ?_; intro a hf
   refine l_ev hf trivial rfl rfl (ev_assign hf rfl) ?_; intro a hf
   refine wpList_nil ?_
   refine x_norm ?_
   rw [rDiv1, rDiv2, hok, hev, Bool.and_self, if_pos rfl] at hB2
   refine x_thenN ?_
   exact ⟨(rHalf y, j - 1), ⟨hf.sub ⟨rfl, rfl, rfl, trivial⟩, (by rw [← hinv]; exact (dLow_step (by omega) hev).symm), (rHalf_ok hok), (by omega), hB2, hB3, hW⟩, (by first | omega | (dsimp only; omega))⟩
  ·have hc13b := hc13
   have hst : dLow y j = ⟨y, j⟩ := dLow_stop (by intro h0; revert hc13; simp [h0])
   refine wp_exit ?_
   refine x_exS ?_
   refine x_exS ?_
   refine x_exit ?_
   refine hK9 _ _ ?_; try clear hK9 K9
   refine wp_seq_k ?_; intro K15 hK15
   refine wp_region_lit ?_
   refine l_ev hf trivial rfl rfl (ev_loadN (l := [.int .i64 y.a, .int .i64 y.b, .int .i64 y.c, .int .i64 y.d]) hf rfl tN_187 (hB2.at 0) rfl) ?_; intro a hf
   refine l_ev hf trivial rfl rfl (ev_move hf rfl) ?_; intro a hf
   refine l_ev hf trivial rfl rfl (ev_build (ps := [(0, .agg #[.int .i64 y.a, .int .i64 y.b, .int .i64 y.c, .int .i64 y.d]), (1, .int .i64 j)]) (cs := [.int .i64 y.a, .int .i64 y.b, .int .i64 y.c, .int .i64 y.d, .int .i64 j]) hf rfl (fun _ => by first | rfl | kernel_rfl)) ?_; intro a hf
   refine l_eff0 hf trivial rfl (ef_store (vs := [.int .i64 y.a, .int .i64 y.b, .int .i64 y.c, .int .i64 y.d, .int .i64 j]) (l' := [.int .i64 y.a, .int .i64 y.b, .int .i64 y.c, .int .i64 y.d, .int .i64 j]) hf rfl rfl sz_189 hB3 rfl rfl rfl rfl rfl) ?_; rintro a _ w11 ⟨ho, hb⟩ hf
   have hold := hB3
   replace hB2 := hB2.only ho (Blk.ne hB2 hold rfl)
   replace hW := Below.only hW ho hlo3
   clear hold
   have hB3 := hb
   clear hb ho
   refine l_ev hf trivial rfl rfl (ev_assign hf rfl) ?_; intro a hf
   refine wpList_nil ?_
   refine hK15 _ _ ?_; try clear hK15 K15
   refine wp_ret ?_
   refine c_ret hf (res2 hf rfl (ResV.cellN (l := [.int .i64 y.a, .int .i64 y.b, .int .i64 y.c, .int .i64 y.d, .int .i64 j]) rfl tN_189 (hB3.at 0) rfl) rfl) ?_
   refine ⟨?_, hW⟩
   have he : dOf x m = some ⟨y, j⟩ := by rw [dOf, if_pos hy, ← hinv, hst]
   rw [he]; rfl
theorem F249 (w0 : World) (x : Dy) (m : Int) (h0 : 0 ≤ x.exp) (hm : m ≤ 60) (hxm : x.exp ≤ m) : Ret Tryz.prog 249 [.agg #[.int .i64 x.num.a, .int .i64 x.num.b, .int .i64 x.num.c, .int .i64 x.num.d, .int .i64 x.exp], .int .i64 m] w0 (fun v w => v = .tuple #[rV ((dRaise x m).1), .bool ((dRaise x m).2)] ∧ Below w0.heap.size w0 w) := by
 refine enter Tryz.func249 rfl 28 rfl rfl ?_
 intro a hf
 have hW : Below w0.heap.size w0 w0 := Below.refl _ _
 refine wp_seq_k ?_; intro K1 hK1
 refine wp_region_lit ?_
 refine l_eff hf trivial rfl rfl (ef_box (zs := [.int .i64 x.num.a, .int .i64 x.num.b, .int .i64 x.num.c, .int .i64 x.num.d, .int .i64 x.exp]) hf rfl rfl) ?_; rintro a _ w1 ⟨b2, rfl, hl2, hE, hB2⟩ hf
 have hlo2 := Nat.le_trans hW.size hl2
 replace hW := hW.trans (hE.mono hW.size)
 clear hE
 refine l_eff hf trivial rfl rfl (ef_alloc (zs := [.int .i64 0, .int .i64 0, .int .i64 0, .int .i64 0]) z_187 rfl) ?_; rintro a _ w2 ⟨b3, rfl, hl3, hE, hB3⟩ hf
 have hlo3 := Nat.le_trans hW.size hl3
 replace hB2 := hB2.below hE
 replace hW := hW.trans (hE.mono hW.size)
 clear hE
 refine l_ev hf trivial rfl rfl (ev_assign hf rfl) ?_; intro a hf
 refine wpList_nil ?_
 refine hK1 _ _ ?_; try clear hK1 K1
 refine wp_seq_k ?_; intro K4 hK4
 refine wp_region_lit ?_
 refine l_ev hf trivial rfl rfl (ev_fieldB hf rfl fd_189_0 (m := 0) rfl) ?_; intro a hf
 refine l_ev hf trivial rfl rfl (ev_loadN (l := [.int .i64 x.num.a, .int .i64 x.num.b, .int .i64 x.num.c, .int .i64 x.num.d]) hf rfl tN_187 ((hB2.at 0).take 4) rfl) ?_; intro a hf
 refine l_eff hf trivial rfl rfl (ef_alloc (zs := [.int .i64 0, .int .i64 0, .int .i64 0, .int .i64 0]) z_187 rfl) ?_; rintro a _ w3 ⟨b5, rfl, hl5, hE, hB5⟩ hf
 have hne3_5 : b3 ≠ b5 := by have := hB3.lt; omega
 have hlo5 := Nat.le_trans hW.size hl5
 replace hB2 := hB2.below hE
 replace hB3 := hB3.below hE
 replace hW := hW.trans (hE.mono hW.size)
 clear hE
 refine l_eff0 hf trivial rfl (ef_store (vs := [.int .i64 x.num.a, .int .i64 x.num.b, .int .i64 x.num.c, .int .i64 x.num.d]) (l' := [.int .i64 x.num.a, .int .i64 x.num.b, .int .i64 x.num.c, .int .i64 x.num.d]) hf rfl rfl sz_187 hB5 rfl rfl rfl rfl rfl) ?_; rintro a _ w4 ⟨ho, hb⟩ hf
 have hold := hB5
 replace hB2 := hB2.only ho (Blk.ne hB2 hold rfl)
 replace hB3 := hB3.only ho (by omega)
 replace hW := Below.only hW ho hlo5
 clear hold
 have hB5 := hb
 clear hb ho
 refine l_ev hf trivial rfl rfl (ev_assign hf rfl) ?_; intro a hf
 refine wpList_nil ?_
 refine hK4 _ _ ?_; try clear hK4 K4
 refine wp_seq_k ?_; intro K6 hK6
 refine wp_seq_k ?_; intro K7 hK7
 refine wp_region_lit ?_
 refine l_ev hf trivial rfl rfl (ev_fieldB hf rfl fd_189_1 (m := 4) rfl) ?_; intro a hf
 refine l_ev hf trivial rfl rfl (ev_load1 hf rfl t1_3 (hB2.at 4)) ?_; intro a hf
 refine l_ev hf trivial rfl rfl (ev_assign hf rfl) ?_; intro a hf
 refine wpList_nil ?_
 refine hK7 _ _ ?_; try clear hK7 K7
 refine wp_block ?_
 refine c_loop (σ := Rg × Bool × Int) (fun (s : Rg × Bool × Int) (a : Act) (w : World) => match s with | (y, b, j) => Fr a 28 [(1, .int .i64 m), (4, .pointer (some ⟨b3, 0, none⟩)), (6, .pointer (some ⟨b5, 0, none⟩)), (7, .bool b), (8, .int .i64 j)] ∧ ((if b = true then raiseI (m - j).toNat y else (y, false)) = dRaise x m) ∧ (b = true → j ≤ m) ∧ (0 ≤ j ∧ j ≤ 61) ∧ Blk w b2 189 [.int .i64 x.num.a, .int .i64 x.num.b, .int .i64 x.num.c, .int .i64 x.num.d, .int .i64 x.exp] ∧ Blk w b3 187 [.int .i64 0, .int .i64 0, .int .i64 0, .int .i64 0] ∧ Blk w b5 187 [.int .i64 y.a, .int .i64 y.b, .int .i64 y.c, .int .i64 y.d] ∧ Below w0.heap.size w0 w) (fun (s : Rg × Bool × Int) => match s with | (y, b, j) => (62 - j).toNat) (x.num, true, x.exp) ?_ ?_
 · exact ⟨hf.sub ⟨rfl, rfl, rfl, rfl, rfl, trivial⟩, rfl, (fun _ => hxm), (by omega), hB2, hB3, hB5, hW⟩
 rintro ⟨y, b, j⟩ a w5 ⟨hf, hinv, hjm, hj60, hB2, hB3, hB5, hW⟩
 refine wp_seq_k ?_; intro K8 hK8
 refine wp_seq_k ?_; intro K9 hK9
 refine c_cut (fun a w => Fr a 28 [(1, .int .i64 m), (4, .pointer (some ⟨b3, 0, none⟩)), (6, .pointer (some ⟨b5, 0, none⟩)), (7, .bool b), (8, .int .i64 j), (18, .bool ((decide (j < m)) && b))] ∧ w5 = w) ?_ ?_
 ·refine wp_region_lit ?_
  refine l_ev hf trivial rfl rfl (ev_move hf rfl) ?_; intro a hf
  refine l_ev hf trivial rfl rfl (ev_move hf rfl) ?_; intro a hf
  refine l_ev hf trivial rfl rfl (ev_lss hf rfl rfl) ?_; intro a hf
  refine l_ev hf trivial rfl rfl (ev_move hf rfl) ?_; intro a hf
  refine g_split hf (t := 16) rfl (fun hg10 => ?_) (fun hg10 => ?_)
  ·refine l_ev hf ⟨_, _, rfl, rfl, hg10⟩ rfl rfl (ev_move hf rfl) ?_; intro a hf
   refine l_ev hf trivial rfl rfl (ev_pickT hf rfl hg10 rfl) ?_; intro a hf
   refine wpList_nil ?_
   exact ⟨hf.sub ⟨rfl, rfl, rfl, rfl, rfl, look_bool rfl (by first | rfl | simp [hg10]), trivial⟩, rfl⟩
  ·refine l_pass hf ⟨_, _, rfl, rfl, hg10⟩ rfl rfl ?_; intro a hf
   refine l_ev hf trivial rfl rfl (ev_pickF hf rfl hg10 rfl) ?_; intro a hf
   refine wpList_nil ?_
   exact ⟨hf.sub ⟨rfl, rfl, rfl, rfl, rfl, look_bool rfl (by first | rfl | simp [hg10]), trivial⟩, rfl⟩
 rintro a _ ⟨hf, rfl⟩
 refine hK9 _ _ ?_; try clear hK9 K9
 refine c_if hf rfl (fun hc11 => ?_) (fun hc11 => ?_)
 ·have hc11b := hc11
  have hj0 : j < m := by revert hc11; simp; omega
  have hb : b = true := by revert hc11; cases b <;> simp
  refine wp_skip ?_
  refine hK8 _ _ ?_; try clear hK8 K8
  refine wp_seq_k ?_; intro K12 hK12
  refine wp_block ?_
  refine wp_region_lit ?_
  refine l_ev hf trivial rfl rfl (ev_loadN (l := [.int .i64 y.a, .int .i64 y.b, .int .i64 y.c, .int .i64 y.d]) hf rfl tN_187 (hB5.at 0) rfl) ?_; intro a hf
  refine l_eff hf trivial rfl rfl (ef_call (vs := [.agg #[.int .i64 y.a, .int .i64 y.b, .int .i64 y.c, .int .i64 y.d]]) hf rfl ff_252 (F252 _ y)) ?_; rintro a _ w6 ⟨rfl, hE⟩ hf
  replace hB2 := hB2.below hE
  replace hB3 := hB3.below hE
  replace hB5 := hB5.below hE
  replace hW := hW.trans (hE.mono hW.size)
  clear hE
  refine l_ev hf trivial rfl rfl (ev_move hf rfl) ?_; intro a hf
  refine l_ev hf trivial rfl rfl (ev_extract (vs := [.agg #[.int .i64 ((rIf1 (rRoot y) [y]).a), .int .i64 ((rIf1 (rRoot y) [y]).b), .int .i64 ((rIf1 (rRoot y) [y]).c), .int .i64 ((rIf1 (rRoot y) [y]).d)], .bool (rIf2 (rRoot y) [y])]) hf rfl rfl) ?_; intro a hf
  refine l_ev hf trivial rfl rfl (ev_extract (vs := [.agg #[.int .i64 ((rIf1 (rRoot y) [y]).a), .int .i64 ((rIf1 (rRoot y) [y]).b), .int .i64 ((rIf1 (rRoot y) [y]).c), .int .i64 ((rIf1 (rRoot y) [y]).d)], .bool (rIf2 (rRoot y) [y])]) hf rfl rfl) ?_; intro a hf
  refine l_eff0 hf trivial rfl (ef_store (vs := [.int .i64 ((rIf1 (rRoot y) [y]).a), .int .i64 ((rIf1 (rRoot y) [y]).b), .int .i64 ((rIf1 (rRoot y) [y]).c), .int .i64 ((rIf1 (rRoot y) [y]).d)]) (l' := [.int .i64 ((rIf1 (rRoot y) [y]).a), .int .i64 ((rIf1 (rRoot y) [y]).b), .int .i64 ((rIf1 (rRoot y) [y]).c), .int .i64 ((rIf1 (rRoot y) [y]).d)]) hf rfl rfl sz_187 hB5 rfl rfl rfl rfl rfl) ?_; rintro a _ w7 ⟨ho, hb⟩ hf
  have hold := hB5
  replace hB2 := hB2.only ho (Blk.ne hB2 hold rfl)
  replace hB3 := hB3.only ho (by omega)
  replace hW := Below.only hW ho hlo5
  clear hold
  have hB5 := hb
  clear hb ho
  refine l_ev hf trivial rfl rfl (ev_assign hf rfl) ?_; intro a hf
  refine wpList_nil ?_
  refine x_norm ?_
  refine hK12 _ _ ?_; try clear hK12 K12
  refine wp_region_lit ?_
  refine l_ev hf trivial rfl rfl (ev_move hf rfl) ?_; intro a hf
  refine l_ev hf trivial rfl rfl (ev_addx hf rfl rfl (by omega) (by omega)) ?_; intro a hf
  refine l_ev hf trivial rfl rfl (ev_assign hf rfl) ?_; intro a hf
  refine wpList_nil ?_
  refine x_thenN ?_
  exact ⟨(rIf1 (rRoot y) [y], rIf2 (rRoot y) [y], j + 1), ⟨hf.sub ⟨rfl, rfl, rfl, rfl, rfl, trivial⟩, (raise_step hinv hb hj0), (by intro _; omega), (by omega), hB2, hB3, hB5, hW⟩, (by first | omega | (dsimp only; omega))⟩
 ·have hc11b := hc11
  have hst : b = true → m ≤ j := by intro h0; subst h0; revert hc11; simp
  refine wp_exit ?_
  refine x_exS ?_
  refine x_exS ?_
  refine x_exit ?_
  refine hK6 _ _ ?_; try clear hK6 K6
  refine wp_seq_k ?_; intro K13 hK13
  refine wp_region_lit ?_
  refine l_ev hf trivial rfl rfl (ev_loadN (l := [.int .i64 y.a, .int .i64 y.b, .int .i64 y.c, .int .i64 y.d]) hf rfl tN_187 (hB5.at 0) rfl) ?_; intro a hf
  refine l_ev hf trivial rfl rfl (ev_move hf rfl) ?_; intro a hf
  refine l_eff0 hf trivial rfl (ef_store (vs := [.int .i64 y.a, .int .i64 y.b, .int .i64 y.c, .int .i64 y.d]) (l' := [.int .i64 y.a, .int .i64 y.b, .int .i64 y.c, .int .i64 y.d]) hf rfl rfl sz_187 hB3 rfl rfl rfl rfl rfl) ?_; rintro a _ w8 ⟨ho, hb⟩ hf
  have hold := hB3
  replace hB2 := hB2.only ho (Blk.ne hB2 hold rfl)
  replace hB5 := hB5.only ho (by omega)
  replace hW := Below.only hW ho hlo3
  clear hold
  have hB3 := hb
  clear hb ho
  refine l_ev hf trivial rfl rfl (ev_assign hf rfl) ?_; intro a hf
  refine wpList_nil ?_
  refine hK13 _ _ ?_; try clear hK13 K13
  refine wp_ret ?_
  refine c_ret hf (res2 hf rfl (ResV.cellN (l := [.int .i64 y.a, .int .i64 y.b, .int .i64 y.c, .int .i64 y.d]) rfl tN_187 (hB3.at 0) rfl) rfl) ?_
  refine ⟨?_, hW⟩
  have he : dRaise x m = (y, b) := by rw [← hinv]; cases b with
   | false => rfl
   | true => rw [if_pos rfl, show (m - j).toNat = 0 from by have := hst rfl; omega]; rfl
  rw [he]
end Go.Proofs.YtfgnmflfiobkmaaGreat
set_option maxRecDepth 4000
namespace Go.Proofs.YtfgnmflfiobkmaaGreat
open Go.RowKit
theorem F239 (w0 : World) (x : Dy) (y : Dy) : Ret Tryz.prog 239 [.agg #[.int .i64 x.num.a, .int .i64 x.num.b, .int .i64 x.num.c, .int .i64 x.num.d, .int .i64 x.exp], .agg #[.int .i64 y.num.a, .int .i64 y.num.b, .int .i64 y.num.c, .int .i64 y.num.d, .int .i64 y.exp], .func (.func 240) #[] #[]] w0 (fun v w => v = .tuple #[dV ((dAddI x y).getD dZ), .bool ((dAddI x y).isSome)] ∧ Below w0.heap.size w0 w) := by
 refine enter Tryz.func239 rfl 64 rfl rfl ?_
 intro a hf
 have hW : Below w0.heap.size w0 w0 := Below.refl _ _
 refine wp_seq_k ?_; intro K1 hK1
 refine wp_region_lit ?_
 refine l_eff hf trivial rfl rfl (ef_box (zs := [.int .i64 x.num.a, .int .i64 x.num.b, .int .i64 x.num.c, .int .i64 x.num.d, .int .i64 x.exp]) hf rfl rfl) ?_; rintro a _ w1 ⟨b2, rfl, hl2, hE, hB2⟩ hf
 have hlo2 := Nat.le_trans hW.size hl2
 replace hW := hW.trans (hE.mono hW.size)
 clear hE
 refine l_eff hf trivial rfl rfl (ef_box (zs := [.int .i64 y.num.a, .int .i64 y.num.b, .int .i64 y.num.c, .int .i64 y.num.d, .int .i64 y.exp]) hf rfl rfl) ?_; rintro a _ w2 ⟨b3, rfl, hl3, hE, hB3⟩ hf
 have hne2_3 : b2 ≠ b3 := by have := hB2.lt; omega
 have hlo3 := Nat.le_trans hW.size hl3
 replace hB2 := hB2.below hE
 replace hW := hW.trans (hE.mono hW.size)
 clear hE
 refine l_eff hf trivial rfl rfl (ef_alloc (zs := [.int .i64 0, .int .i64 0, .int .i64 0, .int .i64 0, .int .i64 0]) z_189 rfl) ?_; rintro a _ w3 ⟨b4, rfl, hl4, hE, hB4⟩ hf
 have hne2_4 : b2 ≠ b4 := by have := hB2.lt; omega
 have hne3_4 : b3 ≠ b4 := by have := hB3.lt; omega
 have hlo4 := Nat.le_trans hW.size hl4
 replace hB2 := hB2.below hE
 replace hB3 := hB3.below hE
 replace hW := hW.trans (hE.mono hW.size)
 clear hE
 refine l_ev hf trivial rfl rfl (ev_assign hf rfl) ?_; intro a hf
 refine wpList_nil ?_
 refine hK1 _ _ ?_; try clear hK1 K1
 refine wp_seq_k ?_; intro K5 hK5
 refine wp_seq_k ?_; intro K6 hK6
 refine c_cut (fun a w => Fr a 64 [(2, .func (.func 240) #[] #[]), (3, .pointer (some ⟨b2, 0, none⟩)), (4, .pointer (some ⟨b3, 0, none⟩)), (6, .pointer (some ⟨b4, 0, none⟩)), (22, .bool ((!(dOk x)) || (!(dOk y))))] ∧ Below w3.heap.size w3 w) ?_ ?_
 ·have hEc : Below w3.heap.size w3 w3 := Below.refl _ _
  refine wp_region_lit ?_
  refine l_ev hf trivial rfl rfl (ev_loadN (l := [.int .i64 x.num.a, .int .i64 x.num.b, .int .i64 x.num.c, .int .i64 x.num.d, .int .i64 x.exp]) hf rfl tN_189 (hB2.at 0) rfl) ?_; intro a hf
  refine l_eff hf trivial rfl rfl (ef_call (vs := [.agg #[.int .i64 x.num.a, .int .i64 x.num.b, .int .i64 x.num.c, .int .i64 x.num.d, .int .i64 x.exp]]) hf rfl ff_193 (F193 _ x)) ?_; rintro a _ w4 ⟨rfl, hE⟩ hf
  replace hB2 := hB2.below hE
  replace hB3 := hB3.below hE
  replace hB4 := hB4.below hE
  replace hW := hW.trans (hE.mono hW.size)
  replace hEc := hEc.trans (hE.mono hEc.size)
  clear hE
  refine l_ev hf trivial rfl rfl (ev_not hf rfl) ?_; intro a hf
  refine l_ev hf trivial rfl rfl (ev_move hf rfl) ?_; intro a hf
  refine g_split hf (t := 18) rfl (fun hg7 => ?_) (fun hg7 => ?_)
  ·refine l_pass hf ⟨_, _, rfl, rfl, hg7⟩ rfl rfl ?_; intro a hf
   refine l_pass hf ⟨_, _, rfl, rfl, hg7⟩ rfl rfl ?_; intro a hf
   refine l_pass hf ⟨_, _, rfl, rfl, hg7⟩ rfl rfl ?_; intro a hf
   refine l_ev hf trivial rfl rfl (ev_pickT hf rfl hg7 rfl) ?_; intro a hf
   refine wpList_nil ?_
   have hEE : Below w3.heap.size w3 w4 := hEc
   exact ⟨hf.sub ⟨rfl, rfl, rfl, rfl, look_bool rfl (by first | rfl | simp [hg7]), trivial⟩, hEE⟩
  ·refine l_ev hf ⟨_, _, rfl, rfl, hg7⟩ rfl rfl (ev_loadN (l := [.int .i64 y.num.a, .int .i64 y.num.b, .int .i64 y.num.c, .int .i64 y.num.d, .int .i64 y.exp]) hf rfl tN_189 (hB3.at 0) rfl) ?_; intro a hf
   refine l_eff hf ⟨_, _, rfl, rfl, hg7⟩ rfl rfl (ef_call (vs := [.agg #[.int .i64 y.num.a, .int .i64 y.num.b, .int .i64 y.num.c, .int .i64 y.num.d, .int .i64 y.exp]]) hf rfl ff_193 (F193 _ y)) ?_; rintro a _ w5 ⟨rfl, hE⟩ hf
   replace hB2 := hB2.below hE
   replace hB3 := hB3.below hE
   replace hB4 := hB4.below hE
   replace hW := hW.trans (hE.mono hW.size)
   replace hEc := hEc.trans (hE.mono hEc.size)
   clear hE
   refine l_ev hf ⟨_, _, rfl, rfl, hg7⟩ rfl rfl (ev_not hf rfl) ?_; intro a hf
   refine l_ev hf trivial rfl rfl (ev_pickF hf rfl hg7 rfl) ?_; intro a hf
   refine wpList_nil ?_
   have hEE : Below w3.heap.size w3 w5 := hEc
   exact ⟨hf.sub ⟨rfl, rfl, rfl, rfl, look_bool rfl (by first | rfl | simp [hg7]), trivial⟩, hEE⟩
 rintro a w6 ⟨hf, hE⟩
 replace hB2 := hB2.below hE
 replace hB3 := hB3.below hE
 replace hB4 := hB4.below hE
 replace hW := hW.trans (hE.mono hW.size)
 clear hE
 refine hK6 _ _ ?_; try clear hK6 K6
 refine c_if hf rfl (fun hc8 => ?_) (fun hc8 => ?_)
 ·have hc8b := hc8
  have hn : (dOk x && dOk y) = false := by revert hc8; cases dOk x <;> cases dOk y <;> simp
  refine wp_seq_k ?_; intro K9 hK9
  refine wp_region_lit ?_
  refine l_ev hf trivial rfl rfl (ev_build (ps := []) (cs := [.int .i64 0, .int .i64 0, .int .i64 0, .int .i64 0, .int .i64 0]) hf rfl (fun _ => by first | rfl | kernel_rfl)) ?_; intro a hf
  refine l_eff0 hf trivial rfl (ef_store (vs := [.int .i64 0, .int .i64 0, .int .i64 0, .int .i64 0, .int .i64 0]) (l' := [.int .i64 0, .int .i64 0, .int .i64 0, .int .i64 0, .int .i64 0]) hf rfl rfl sz_189 hB4 rfl rfl rfl rfl rfl) ?_; rintro a _ w7 ⟨ho, hb⟩ hf
  have hold := hB4
  replace hB2 := hB2.only ho (by omega)
  replace hB3 := hB3.only ho (by omega)
  replace hW := Below.only hW ho hlo4
  clear hold
  have hB4 := hb
  clear hb ho
  refine l_ev hf trivial rfl rfl (ev_assign hf rfl) ?_; intro a hf
  refine wpList_nil ?_
  refine hK9 _ _ ?_; try clear hK9 K9
  refine wp_ret ?_
  refine x_retS ?_
  refine c_ret hf (res2 hf rfl (ResV.cellN (l := [.int .i64 0, .int .i64 0, .int .i64 0, .int .i64 0, .int .i64 0]) rfl tN_189 (hB4.at 0) rfl) rfl) ?_
  exact ⟨by rw [dAddI, hn]; rfl, hW⟩
 ·have hc8b := hc8
  have hy : (dOk x && dOk y) = true := by revert hc8; cases dOk x <;> cases dOk y <;> simp
  have hx := dOk_exp (Bool.and_eq_true _ _ ▸ hy : dOk x = true ∧ dOk y = true).1
  have hz := dOk_exp (Bool.and_eq_true _ _ ▸ hy : dOk x = true ∧ dOk y = true).2
  refine wp_skip ?_
  refine hK5 _ _ ?_; try clear hK5 K5
  refine wp_seq_k ?_; intro K10 hK10
  refine wp_region_lit ?_
  refine l_ev hf trivial rfl rfl (ev_fieldB hf rfl fd_189_1 (m := 4) rfl) ?_; intro a hf
  refine l_ev hf trivial rfl rfl (ev_load1 hf rfl t1_3 (hB2.at 4)) ?_; intro a hf
  refine l_ev hf trivial rfl rfl (ev_fieldB hf rfl fd_189_1 (m := 4) rfl) ?_; intro a hf
  refine l_ev hf trivial rfl rfl (ev_load1 hf rfl t1_3 (hB3.at 4)) ?_; intro a hf
  refine l_ev hf trivial rfl rfl (ev_max hf rfl rfl) ?_; intro a hf
  refine l_ev hf trivial rfl rfl (ev_assign hf rfl) ?_; intro a hf
  refine wpList_nil ?_
  refine hK10 _ _ ?_; try clear hK10 K10
  refine wp_seq_k ?_; intro K11 hK11
  refine wp_region_lit ?_
  refine l_ev hf trivial rfl rfl (ev_loadN (l := [.int .i64 x.num.a, .int .i64 x.num.b, .int .i64 x.num.c, .int .i64 x.num.d, .int .i64 x.exp]) hf rfl tN_189 (hB2.at 0) rfl) ?_; intro a hf
  refine l_ev hf trivial rfl rfl (ev_move hf rfl) ?_; intro a hf
  refine l_eff hf trivial rfl rfl (ef_call (vs := [.agg #[.int .i64 x.num.a, .int .i64 x.num.b, .int .i64 x.num.c, .int .i64 x.num.d, .int .i64 x.exp], .int .i64 (max x.exp y.exp)]) hf rfl ff_249 (F249 _ x (max x.exp y.exp) (by omega) (by omega) (by omega))) ?_; rintro a _ w8 ⟨rfl, hE⟩ hf
  replace hB2 := hB2.below hE
  replace hB3 := hB3.below hE
  replace hB4 := hB4.below hE
  replace hW := hW.trans (hE.mono hW.size)
  clear hE
  refine l_ev hf trivial rfl rfl (ev_move hf rfl) ?_; intro a hf
  refine l_ev hf trivial rfl rfl (ev_extract (vs := [.agg #[.int .i64 (((dRaise x (max x.exp y.exp)).1).a), .int .i64 (((dRaise x (max x.exp y.exp)).1).b), .int .i64 (((dRaise x (max x.exp y.exp)).1).c), .int .i64 (((dRaise x (max x.exp y.exp)).1).d)], .bool ((dRaise x (max x.exp y.exp)).2)]) hf rfl rfl) ?_; intro a hf
  refine l_ev hf trivial rfl rfl (ev_extract (vs := [.agg #[.int .i64 (((dRaise x (max x.exp y.exp)).1).a), .int .i64 (((dRaise x (max x.exp y.exp)).1).b), .int .i64 (((dRaise x (max x.exp y.exp)).1).c), .int .i64 (((dRaise x (max x.exp y.exp)).1).d)], .bool ((dRaise x (max x.exp y.exp)).2)]) hf rfl rfl) ?_; intro a hf
  refine l_eff hf trivial rfl rfl (ef_alloc (zs := [.int .i64 0, .int .i64 0, .int .i64 0, .int .i64 0]) z_187 rfl) ?_; rintro a _ w9 ⟨b12, rfl, hl12, hE, hB12⟩ hf
  have hlo12 := Nat.le_trans hW.size hl12
  replace hB2 := hB2.below hE
  replace hB3 := hB3.below hE
  replace hB4 := hB4.below hE
  replace hW := hW.trans (hE.mono hW.size)
  clear hE
  refine l_eff0 hf trivial rfl (ef_store (vs := [.int .i64 (((dRaise x (max x.exp y.exp)).1).a), .int .i64 (((dRaise x (max x.exp y.exp)).1).b), .int .i64 (((dRaise x (max x.exp y.exp)).1).c), .int .i64 (((dRaise x (max x.exp y.exp)).1).d)]) (l' := [.int .i64 (((dRaise x (max x.exp y.exp)).1).a), .int .i64 (((dRaise x (max x.exp y.exp)).1).b), .int .i64 (((dRaise x (max x.exp y.exp)).1).c), .int .i64 (((dRaise x (max x.exp y.exp)).1).d)]) hf rfl rfl sz_187 hB12 rfl rfl rfl rfl rfl) ?_; rintro a _ w10 ⟨ho, hb⟩ hf
  have hold := hB12
  replace hB2 := hB2.only ho (Blk.ne hB2 hold rfl)
  replace hB3 := hB3.only ho (Blk.ne hB3 hold rfl)
  replace hB4 := hB4.only ho (Blk.ne hB4 hold rfl)
  replace hW := Below.only hW ho hlo12
  clear hold
  have hB12 := hb
  clear hb ho
  refine l_ev hf trivial rfl rfl (ev_assign hf rfl) ?_; intro a hf
  refine wpList_nil ?_
  refine hK11 _ _ ?_; try clear hK11 K11
  refine wp_seq_k ?_; intro K13 hK13
  refine wp_region_lit ?_
  refine l_ev hf trivial rfl rfl (ev_loadN (l := [.int .i64 y.num.a, .int .i64 y.num.b, .int .i64 y.num.c, .int .i64 y.num.d, .int .i64 y.exp]) hf rfl tN_189 (hB3.at 0) rfl) ?_; intro a hf
  refine l_ev hf trivial rfl rfl (ev_move hf rfl) ?_; intro a hf
  refine l_eff hf trivial rfl rfl (ef_call (vs := [.agg #[.int .i64 y.num.a, .int .i64 y.num.b, .int .i64 y.num.c, .int .i64 y.num.d, .int .i64 y.exp], .int .i64 (max x.exp y.exp)]) hf rfl ff_249 (F249 _ y (max x.exp y.exp) (by omega) (by omega) (by omega))) ?_; rintro a _ w11 ⟨rfl, hE⟩ hf
  replace hB2 := hB2.below hE
  replace hB3 := hB3.below hE
  replace hB4 := hB4.below hE
  replace hB12 := hB12.below hE
  replace hW := hW.trans (hE.mono hW.size)
  clear hE
  refine l_ev hf trivial rfl rfl (ev_move hf rfl) ?_; intro a hf
  refine l_ev hf trivial rfl rfl (ev_extract (vs := [.agg #[.int .i64 (((dRaise y (max x.exp y.exp)).1).a), .int .i64 (((dRaise y (max x.exp y.exp)).1).b), .int .i64 (((dRaise y (max x.exp y.exp)).1).c), .int .i64 (((dRaise y (max x.exp y.exp)).1).d)], .bool ((dRaise y (max x.exp y.exp)).2)]) hf rfl rfl) ?_; intro a hf
  refine l_ev hf trivial rfl rfl (ev_extract (vs := [.agg #[.int .i64 (((dRaise y (max x.exp y.exp)).1).a), .int .i64 (((dRaise y (max x.exp y.exp)).1).b), .int .i64 (((dRaise y (max x.exp y.exp)).1).c), .int .i64 (((dRaise y (max x.exp y.exp)).1).d)], .bool ((dRaise y (max x.exp y.exp)).2)]) hf rfl rfl) ?_; intro a hf
  refine l_eff hf trivial rfl rfl (ef_alloc (zs := [.int .i64 0, .int .i64 0, .int .i64 0, .int .i64 0]) z_187 rfl) ?_; rintro a _ w12 ⟨b14, rfl, hl14, hE, hB14⟩ hf
  have hne12_14 : b12 ≠ b14 := by have := hB12.lt; omega
  have hlo14 := Nat.le_trans hW.size hl14
  replace hB2 := hB2.below hE
  replace hB3 := hB3.below hE
  replace hB4 := hB4.below hE
  replace hB12 := hB12.below hE
  replace hW := hW.trans (hE.mono hW.size)
  clear hE
  refine l_eff0 hf trivial rfl (ef_store (vs := [.int .i64 (((dRaise y (max x.exp y.exp)).1).a), .int .i64 (((dRaise y (max x.exp y.exp)).1).b), .int .i64 (((dRaise y (max x.exp y.exp)).1).c), .int .i64 (((dRaise y (max x.exp y.exp)).1).d)]) (l' := [.int .i64 (((dRaise y (max x.exp y.exp)).1).a), .int .i64 (((dRaise y (max x.exp y.exp)).1).b), .int .i64 (((dRaise y (max x.exp y.exp)).1).c), .int .i64 (((dRaise y (max x.exp y.exp)).1).d)]) hf rfl rfl sz_187 hB14 rfl rfl rfl rfl rfl) ?_; rintro a _ w13 ⟨ho, hb⟩ hf
  have hold := hB14
  replace hB2 := hB2.only ho (Blk.ne hB2 hold rfl)
  replace hB3 := hB3.only ho (Blk.ne hB3 hold rfl)
  replace hB4 := hB4.only ho (Blk.ne hB4 hold rfl)
  replace hB12 := hB12.only ho (by omega)
  replace hW := Below.only hW ho hlo14
  clear hold
  have hB14 := hb
  clear hb ho
  refine l_ev hf trivial rfl rfl (ev_assign hf rfl) ?_; intro a hf
  refine wpList_nil ?_
  refine hK13 _ _ ?_; try clear hK13 K13
  refine wp_seq_k ?_; intro K15 hK15
  refine wp_region_lit ?_
  refine l_ev hf trivial rfl rfl (ev_move hf rfl) ?_; intro a hf
  refine l_ev hf trivial rfl rfl (ev_loadN (l := [.int .i64 (((dRaise x (max x.exp y.exp)).1).a), .int .i64 (((dRaise x (max x.exp y.exp)).1).b), .int .i64 (((dRaise x (max x.exp y.exp)).1).c), .int .i64 (((dRaise x (max x.exp y.exp)).1).d)]) hf rfl tN_187 (hB12.at 0) rfl) ?_; intro a hf
  refine l_ev hf trivial rfl rfl (ev_loadN (l := [.int .i64 (((dRaise y (max x.exp y.exp)).1).a), .int .i64 (((dRaise y (max x.exp y.exp)).1).b), .int .i64 (((dRaise y (max x.exp y.exp)).1).c), .int .i64 (((dRaise y (max x.exp y.exp)).1).d)]) hf rfl tN_187 (hB14.at 0) rfl) ?_; intro a hf
  refine l_eff hf trivial rfl rfl (ef_callv (cs := []) (vs := [.agg #[.int .i64 (((dRaise x (max x.exp y.exp)).1).a), .int .i64 (((dRaise x (max x.exp y.exp)).1).b), .int .i64 (((dRaise x (max x.exp y.exp)).1).c), .int .i64 (((dRaise x (max x.exp y.exp)).1).d)], .agg #[.int .i64 (((dRaise y (max x.exp y.exp)).1).a), .int .i64 (((dRaise y (max x.exp y.exp)).1).b), .int .i64 (((dRaise y (max x.exp y.exp)).1).c), .int .i64 (((dRaise y (max x.exp y.exp)).1).d)]]) hf rfl rfl ff_240 (F240 _ ((dRaise x (max x.exp y.exp)).1) ((dRaise y (max x.exp y.exp)).1))) ?_; rintro a _ w14 ⟨rfl, hE⟩ hf
  replace hB2 := hB2.below hE
  replace hB3 := hB3.below hE
  replace hB4 := hB4.below hE
  replace hB12 := hB12.below hE
  replace hB14 := hB14.below hE
  replace hW := hW.trans (hE.mono hW.size)
  clear hE
  refine l_ev hf trivial rfl rfl (ev_move hf rfl) ?_; intro a hf
  refine l_ev hf trivial rfl rfl (ev_extract (vs := [.agg #[.int .i64 ((rIf1 (rAdd ((dRaise x (max x.exp y.exp)).1) ((dRaise y (max x.exp y.exp)).1)) [((dRaise x (max x.exp y.exp)).1), ((dRaise y (max x.exp y.exp)).1)]).a), .int .i64 ((rIf1 (rAdd ((dRaise x (max x.exp y.exp)).1) ((dRaise y (max x.exp y.exp)).1)) [((dRaise x (max x.exp y.exp)).1), ((dRaise y (max x.exp y.exp)).1)]).b), .int .i64 ((rIf1 (rAdd ((dRaise x (max x.exp y.exp)).1) ((dRaise y (max x.exp y.exp)).1)) [((dRaise x (max x.exp y.exp)).1), ((dRaise y (max x.exp y.exp)).1)]).c), .int .i64 ((rIf1 (rAdd ((dRaise x (max x.exp y.exp)).1) ((dRaise y (max x.exp y.exp)).1)) [((dRaise x (max x.exp y.exp)).1), ((dRaise y (max x.exp y.exp)).1)]).d)], .bool (rIf2 (rAdd ((dRaise x (max x.exp y.exp)).1) ((dRaise y (max x.exp y.exp)).1)) [((dRaise x (max x.exp y.exp)).1), ((dRaise y (max x.exp y.exp)).1)])]) hf rfl rfl) ?_; intro a hf
  refine l_ev hf trivial rfl rfl (ev_extract (vs := [.agg #[.int .i64 ((rIf1 (rAdd ((dRaise x (max x.exp y.exp)).1) ((dRaise y (max x.exp y.exp)).1)) [((dRaise x (max x.exp y.exp)).1), ((dRaise y (max x.exp y.exp)).1)]).a), .int .i64 ((rIf1 (rAdd ((dRaise x (max x.exp y.exp)).1) ((dRaise y (max x.exp y.exp)).1)) [((dRaise x (max x.exp y.exp)).1), ((dRaise y (max x.exp y.exp)).1)]).b), .int .i64 ((rIf1 (rAdd ((dRaise x (max x.exp y.exp)).1) ((dRaise y (max x.exp y.exp)).1)) [((dRaise x (max x.exp y.exp)).1), ((dRaise y (max x.exp y.exp)).1)]).c), .int .i64 ((rIf1 (rAdd ((dRaise x (max x.exp y.exp)).1) ((dRaise y (max x.exp y.exp)).1)) [((dRaise x (max x.exp y.exp)).1), ((dRaise y (max x.exp y.exp)).1)]).d)], .bool (rIf2 (rAdd ((dRaise x (max x.exp y.exp)).1) ((dRaise y (max x.exp y.exp)).1)) [((dRaise x (max x.exp y.exp)).1), ((dRaise y (max x.exp y.exp)).1)])]) hf rfl rfl) ?_; intro a hf
  refine l_eff hf trivial rfl rfl (ef_alloc (zs := [.int .i64 0, .int .i64 0, .int .i64 0, .int .i64 0]) z_187 rfl) ?_; rintro a _ w15 ⟨b16, rfl, hl16, hE, hB16⟩ hf
  have hne12_16 : b12 ≠ b16 := by have := hB12.lt; omega
  have hne14_16 : b14 ≠ b16 := by have := hB14.lt; omega
  have hlo16 := Nat.le_trans hW.size hl16
  replace hB2 := hB2.below hE
  replace hB3 := hB3.below hE
  replace hB4 := hB4.below hE
  replace hB12 := hB12.below hE
  replace hB14 := hB14.below hE
  replace hW := hW.trans (hE.mono hW.size)
  clear hE
  refine l_eff0 hf trivial rfl (ef_store (vs := [.int .i64 ((rIf1 (rAdd ((dRaise x (max x.exp y.exp)).1) ((dRaise y (max x.exp y.exp)).1)) [((dRaise x (max x.exp y.exp)).1), ((dRaise y (max x.exp y.exp)).1)]).a), .int .i64 ((rIf1 (rAdd ((dRaise x (max x.exp y.exp)).1) ((dRaise y (max x.exp y.exp)).1)) [((dRaise x (max x.exp y.exp)).1), ((dRaise y (max x.exp y.exp)).1)]).b), .int .i64 ((rIf1 (rAdd ((dRaise x (max x.exp y.exp)).1) ((dRaise y (max x.exp y.exp)).1)) [((dRaise x (max x.exp y.exp)).1), ((dRaise y (max x.exp y.exp)).1)]).c), .int .i64 ((rIf1 (rAdd ((dRaise x (max x.exp y.exp)).1) ((dRaise y (max x.exp y.exp)).1)) [((dRaise x (max x.exp y.exp)).1), ((dRaise y (max x.exp y.exp)).1)]).d)]) (l' := [.int .i64 ((rIf1 (rAdd ((dRaise x (max x.exp y.exp)).1) ((dRaise y (max x.exp y.exp)).1)) [((dRaise x (max x.exp y.exp)).1), ((dRaise y (max x.exp y.exp)).1)]).a), .int .i64 ((rIf1 (rAdd ((dRaise x (max x.exp y.exp)).1) ((dRaise y (max x.exp y.exp)).1)) [((dRaise x (max x.exp y.exp)).1), ((dRaise y (max x.exp y.exp)).1)]).b), .int .i64 ((rIf1 (rAdd ((dRaise x (max x.exp y.exp)).1) ((dRaise y (max x.exp y.exp)).1)) [((dRaise x (max x.exp y.exp)).1), ((dRaise y (max x.exp y.exp)).1)]).c), .int .i64 ((rIf1 (rAdd ((dRaise x (max x.exp y.exp)).1) ((dRaise y (max x.exp y.exp)).1)) [((dRaise x (max x.exp y.exp)).1), ((dRaise y (max x.exp y.exp)).1)]).d)]) hf rfl rfl sz_187 hB16 rfl rfl rfl rfl rfl) ?_; rintro a _ w16 ⟨ho, hb⟩ hf
  have hold := hB16
  replace hB2 := hB2.only ho (Blk.ne hB2 hold rfl)
  replace hB3 := hB3.only ho (Blk.ne hB3 hold rfl)
  replace hB4 := hB4.only ho (Blk.ne hB4 hold rfl)
  replace hB12 := hB12.only ho (by omega)
  replace hB14 := hB14.only ho (by omega)
  replace hW := Below.only hW ho hlo16
  clear hold
  have hB16 := hb
  clear hb ho
  refine l_ev hf trivial rfl rfl (ev_assign hf rfl) ?_; intro a hf
  refine wpList_nil ?_
  refine hK15 _ _ ?_; try clear hK15 K15
  refine wp_seq_k ?_; intro K17 hK17
  refine wp_seq_k ?_; intro K18 hK18
  refine c_cut (fun a w => Fr a 64 [(6, .pointer (some ⟨b4, 0, none⟩)), (8, .int .i64 (max x.exp y.exp)), (13, .pointer (some ⟨b16, 0, none⟩)), (57, .bool (((!((dRaise x (max x.exp y.exp)).2)) || (!((dRaise y (max x.exp y.exp)).2))) || (!(rIf2 (rAdd ((dRaise x (max x.exp y.exp)).1) ((dRaise y (max x.exp y.exp)).1)) [((dRaise x (max x.exp y.exp)).1), ((dRaise y (max x.exp y.exp)).1)]))))] ∧ w16 = w) ?_ ?_
  ·refine wp_region_lit ?_
   refine l_ev hf trivial rfl rfl (ev_move hf rfl) ?_; intro a hf
   refine l_ev hf trivial rfl rfl (ev_not hf rfl) ?_; intro a hf
   refine l_ev hf trivial rfl rfl (ev_move hf rfl) ?_; intro a hf
   refine g_split hf (t := 50) rfl (fun hg19 => ?_) (fun hg19 => ?_)
   ·refine l_pass hf ⟨_, _, rfl, rfl, hg19⟩ rfl rfl ?_; intro a hf
    refine l_pass hf ⟨_, _, rfl, rfl, hg19⟩ rfl rfl ?_; intro a hf
    refine l_ev hf trivial rfl rfl (ev_pickT hf rfl hg19 rfl) ?_; intro a hf
    refine l_ev hf trivial rfl rfl (ev_move hf rfl) ?_; intro a hf
    refine l_pass hf ⟨_, _, rfl, rfl, rfl⟩ rfl rfl ?_; intro a hf
    refine l_pass hf ⟨_, _, rfl, rfl, rfl⟩ rfl rfl ?_; intro a hf
    refine l_ev hf trivial rfl rfl (ev_pickT hf rfl rfl rfl) ?_; intro a hf
    refine wpList_nil ?_
    exact ⟨hf.sub ⟨rfl, rfl, rfl, look_bool rfl (by first | rfl | simp [hc8b, hg19]), trivial⟩, rfl⟩
   ·refine l_ev hf ⟨_, _, rfl, rfl, hg19⟩ rfl rfl (ev_move hf rfl) ?_; intro a hf
    refine l_ev hf ⟨_, _, rfl, rfl, hg19⟩ rfl rfl (ev_not hf rfl) ?_; intro a hf
    refine l_ev hf trivial rfl rfl (ev_pickF hf rfl hg19 rfl) ?_; intro a hf
    refine l_ev hf trivial rfl rfl (ev_move hf rfl) ?_; intro a hf
    refine g_split hf (t := 54) rfl (fun hg20 => ?_) (fun hg20 => ?_)
    ·refine l_pass hf ⟨_, _, rfl, rfl, hg20⟩ rfl rfl ?_; intro a hf
     refine l_pass hf ⟨_, _, rfl, rfl, hg20⟩ rfl rfl ?_; intro a hf
     refine l_ev hf trivial rfl rfl (ev_pickT hf rfl hg20 rfl) ?_; intro a hf
     refine wpList_nil ?_
     exact ⟨hf.sub ⟨rfl, rfl, rfl, look_bool rfl (by first | rfl | simp [hc8b, hg19, hg20]), trivial⟩, rfl⟩
    ·refine l_ev hf ⟨_, _, rfl, rfl, hg20⟩ rfl rfl (ev_move hf rfl) ?_; intro a hf
     refine l_ev hf ⟨_, _, rfl, rfl, hg20⟩ rfl rfl (ev_not hf rfl) ?_; intro a hf
     refine l_ev hf trivial rfl rfl (ev_pickF hf rfl hg20 rfl) ?_; intro a hf
     refine wpList_nil ?_
     exact ⟨hf.sub ⟨rfl, rfl, rfl, look_bool rfl (by first | rfl | simp [hc8b, hg19, hg20]), trivial⟩, rfl⟩
  rintro a _ ⟨hf, rfl⟩
  refine hK18 _ _ ?_; try clear hK18 K18
  refine c_if hf rfl (fun hc21 => ?_) (fun hc21 => ?_)
  ·have hc21b := hc21
   have hn2 := or3_false hc21
   refine wp_seq_k ?_; intro K22 hK22
   refine wp_region_lit ?_
   refine l_ev hf trivial rfl rfl (ev_build (ps := []) (cs := [.int .i64 0, .int .i64 0, .int .i64 0, .int .i64 0, .int .i64 0]) hf rfl (fun _ => by first | rfl | kernel_rfl)) ?_; intro a hf
   refine l_eff0 hf trivial rfl (ef_store (vs := [.int .i64 0, .int .i64 0, .int .i64 0, .int .i64 0, .int .i64 0]) (l' := [.int .i64 0, .int .i64 0, .int .i64 0, .int .i64 0, .int .i64 0]) hf rfl rfl sz_189 hB4 rfl rfl rfl rfl rfl) ?_; rintro a _ w17 ⟨ho, hb⟩ hf
   have hold := hB4
   replace hB2 := hB2.only ho (by omega)
   replace hB3 := hB3.only ho (by omega)
   replace hB12 := hB12.only ho (Blk.ne hB12 hold rfl)
   replace hB14 := hB14.only ho (Blk.ne hB14 hold rfl)
   replace hB16 := hB16.only ho (Blk.ne hB16 hold rfl)
   replace hW := Below.only hW ho hlo4
   clear hold
   have hB4 := hb
   clear hb ho
   refine l_ev hf trivial rfl rfl (ev_assign hf rfl) ?_; intro a hf
   refine wpList_nil ?_
   refine hK22 _ _ ?_; try clear hK22 K22
   refine wp_ret ?_
   refine x_retS ?_
   refine c_ret hf (res2 hf rfl (ResV.cellN (l := [.int .i64 0, .int .i64 0, .int .i64 0, .int .i64 0, .int .i64 0]) rfl tN_189 (hB4.at 0) rfl) rfl) ?_
   exact ⟨by rw [dAddI, if_pos hy, hn2]; rfl, hW⟩
  ·have hc21b := hc21
   have hy2 := or3_true hc21
   refine wp_skip ?_
   refine hK17 _ _ ?_; try clear hK17 K17
   refine wp_seq_k ?_; intro K23 hK23
   refine wp_region_lit ?_
   refine l_ev hf trivial rfl rfl (ev_loadN (l := [.int .i64 ((rIf1 (rAdd ((dRaise x (max x.exp y.exp)).1) ((dRaise y (max x.exp y.exp)).1)) [((dRaise x (max x.exp y.exp)).1), ((dRaise y (max x.exp y.exp)).1)]).a), .int .i64 ((rIf1 (rAdd ((dRaise x (max x.exp y.exp)).1) ((dRaise y (max x.exp y.exp)).1)) [((dRaise x (max x.exp y.exp)).1), ((dRaise y (max x.exp y.exp)).1)]).b), .int .i64 ((rIf1 (rAdd ((dRaise x (max x.exp y.exp)).1) ((dRaise y (max x.exp y.exp)).1)) [((dRaise x (max x.exp y.exp)).1), ((dRaise y (max x.exp y.exp)).1)]).c), .int .i64 ((rIf1 (rAdd ((dRaise x (max x.exp y.exp)).1) ((dRaise y (max x.exp y.exp)).1)) [((dRaise x (max x.exp y.exp)).1), ((dRaise y (max x.exp y.exp)).1)]).d)]) hf rfl tN_187 (hB16.at 0) rfl) ?_; intro a hf
   refine l_ev hf trivial rfl rfl (ev_move hf rfl) ?_; intro a hf
   refine l_eff hf trivial rfl rfl (ef_call (vs := [.agg #[.int .i64 ((rIf1 (rAdd ((dRaise x (max x.exp y.exp)).1) ((dRaise y (max x.exp y.exp)).1)) [((dRaise x (max x.exp y.exp)).1), ((dRaise y (max x.exp y.exp)).1)]).a), .int .i64 ((rIf1 (rAdd ((dRaise x (max x.exp y.exp)).1) ((dRaise y (max x.exp y.exp)).1)) [((dRaise x (max x.exp y.exp)).1), ((dRaise y (max x.exp y.exp)).1)]).b), .int .i64 ((rIf1 (rAdd ((dRaise x (max x.exp y.exp)).1) ((dRaise y (max x.exp y.exp)).1)) [((dRaise x (max x.exp y.exp)).1), ((dRaise y (max x.exp y.exp)).1)]).c), .int .i64 ((rIf1 (rAdd ((dRaise x (max x.exp y.exp)).1) ((dRaise y (max x.exp y.exp)).1)) [((dRaise x (max x.exp y.exp)).1), ((dRaise y (max x.exp y.exp)).1)]).d)], .int .i64 (max x.exp y.exp)]) hf rfl ff_228 (F228 _ (rIf1 (rAdd ((dRaise x (max x.exp y.exp)).1) ((dRaise y (max x.exp y.exp)).1)) [((dRaise x (max x.exp y.exp)).1), ((dRaise y (max x.exp y.exp)).1)]) (max x.exp y.exp))) ?_; rintro a _ w18 ⟨rfl, hE⟩ hf
   replace hB2 := hB2.below hE
   replace hB3 := hB3.below hE
   replace hB4 := hB4.below hE
   replace hB12 := hB12.below hE
   replace hB14 := hB14.below hE
   replace hB16 := hB16.below hE
   replace hW := hW.trans (hE.mono hW.size)
   clear hE
   refine l_ev hf trivial rfl rfl (ev_extract (vs := [.agg #[.int .i64 (((dOf (rIf1 (rAdd ((dRaise x (max x.exp y.exp)).1) ((dRaise y (max x.exp y.exp)).1)) [((dRaise x (max x.exp y.exp)).1), ((dRaise y (max x.exp y.exp)).1)]) (max x.exp y.exp)).getD dZ).num.a), .int .i64 (((dOf (rIf1 (rAdd ((dRaise x (max x.exp y.exp)).1) ((dRaise y (max x.exp y.exp)).1)) [((dRaise x (max x.exp y.exp)).1), ((dRaise y (max x.exp y.exp)).1)]) (max x.exp y.exp)).getD dZ).num.b), .int .i64 (((dOf (rIf1 (rAdd ((dRaise x (max x.exp y.exp)).1) ((dRaise y (max x.exp y.exp)).1)) [((dRaise x (max x.exp y.exp)).1), ((dRaise y (max x.exp y.exp)).1)]) (max x.exp y.exp)).getD dZ).num.c), .int .i64 (((dOf (rIf1 (rAdd ((dRaise x (max x.exp y.exp)).1) ((dRaise y (max x.exp y.exp)).1)) [((dRaise x (max x.exp y.exp)).1), ((dRaise y (max x.exp y.exp)).1)]) (max x.exp y.exp)).getD dZ).num.d), .int .i64 (((dOf (rIf1 (rAdd ((dRaise x (max x.exp y.exp)).1) ((dRaise y (max x.exp y.exp)).1)) [((dRaise x (max x.exp y.exp)).1), ((dRaise y (max x.exp y.exp)).1)]) (max x.exp y.exp)).getD dZ).exp)], .bool ((dOf (rIf1 (rAdd ((dRaise x (max x.exp y.exp)).1) ((dRaise y (max x.exp y.exp)).1)) [((dRaise x (max x.exp y.exp)).1), ((dRaise y (max x.exp y.exp)).1)]) (max x.exp y.exp)).isSome)]) hf rfl rfl) ?_; intro a hf
   refine l_ev hf trivial rfl rfl (ev_extract (vs := [.agg #[.int .i64 (((dOf (rIf1 (rAdd ((dRaise x (max x.exp y.exp)).1) ((dRaise y (max x.exp y.exp)).1)) [((dRaise x (max x.exp y.exp)).1), ((dRaise y (max x.exp y.exp)).1)]) (max x.exp y.exp)).getD dZ).num.a), .int .i64 (((dOf (rIf1 (rAdd ((dRaise x (max x.exp y.exp)).1) ((dRaise y (max x.exp y.exp)).1)) [((dRaise x (max x.exp y.exp)).1), ((dRaise y (max x.exp y.exp)).1)]) (max x.exp y.exp)).getD dZ).num.b), .int .i64 (((dOf (rIf1 (rAdd ((dRaise x (max x.exp y.exp)).1) ((dRaise y (max x.exp y.exp)).1)) [((dRaise x (max x.exp y.exp)).1), ((dRaise y (max x.exp y.exp)).1)]) (max x.exp y.exp)).getD dZ).num.c), .int .i64 (((dOf (rIf1 (rAdd ((dRaise x (max x.exp y.exp)).1) ((dRaise y (max x.exp y.exp)).1)) [((dRaise x (max x.exp y.exp)).1), ((dRaise y (max x.exp y.exp)).1)]) (max x.exp y.exp)).getD dZ).num.d), .int .i64 (((dOf (rIf1 (rAdd ((dRaise x (max x.exp y.exp)).1) ((dRaise y (max x.exp y.exp)).1)) [((dRaise x (max x.exp y.exp)).1), ((dRaise y (max x.exp y.exp)).1)]) (max x.exp y.exp)).getD dZ).exp)], .bool ((dOf (rIf1 (rAdd ((dRaise x (max x.exp y.exp)).1) ((dRaise y (max x.exp y.exp)).1)) [((dRaise x (max x.exp y.exp)).1), ((dRaise y (max x.exp y.exp)).1)]) (max x.exp y.exp)).isSome)]) hf rfl rfl) ?_; intro a hf
   refine l_eff0 hf trivial rfl (ef_store (vs := [.int .i64 (((dOf (rIf1 (rAdd ((dRaise x (max x.exp y.exp)).1) ((dRaise y (max x.exp y.exp)).1)) [((dRaise x (max x.exp y.exp)).1), ((dRaise y (max x.exp y.exp)).1)]) (max x.exp y.exp)).getD dZ).num.a), .int .i64 (((dOf (rIf1 (rAdd ((dRaise x (max x.exp y.exp)).1) ((dRaise y (max x.exp y.exp)).1)) [((dRaise x (max x.exp y.exp)).1), ((dRaise y (max x.exp y.exp)).1)]) (max x.exp y.exp)).getD dZ).num.b), .int .i64 (((dOf (rIf1 (rAdd ((dRaise x (max x.exp y.exp)).1) ((dRaise y (max x.exp y.exp)).1)) [((dRaise x (max x.exp y.exp)).1), ((dRaise y (max x.exp y.exp)).1)]) (max x.exp y.exp)).getD dZ).num.c), .int .i64 (((dOf (rIf1 (rAdd ((dRaise x (max x.exp y.exp)).1) ((dRaise y (max x.exp y.exp)).1)) [((dRaise x (max x.exp y.exp)).1), ((dRaise y (max x.exp y.exp)).1)]) (max x.exp y.exp)).getD dZ).num.d), .int .i64 (((dOf (rIf1 (rAdd ((dRaise x (max x.exp y.exp)).1) ((dRaise y (max x.exp y.exp)).1)) [((dRaise x (max x.exp y.exp)).1), ((dRaise y (max x.exp y.exp)).1)]) (max x.exp y.exp)).getD dZ).exp)]) (l' := [.int .i64 (((dOf (rIf1 (rAdd ((dRaise x (max x.exp y.exp)).1) ((dRaise y (max x.exp y.exp)).1)) [((dRaise x (max x.exp y.exp)).1), ((dRaise y (max x.exp y.exp)).1)]) (max x.exp y.exp)).getD dZ).num.a), .int .i64 (((dOf (rIf1 (rAdd ((dRaise x (max x.exp y.exp)).1) ((dRaise y (max x.exp y.exp)).1)) [((dRaise x (max x.exp y.exp)).1), ((dRaise y (max x.exp y.exp)).1)]) (max x.exp y.exp)).getD dZ).num.b), .int .i64 (((dOf (rIf1 (rAdd ((dRaise x (max x.exp y.exp)).1) ((dRaise y (max x.exp y.exp)).1)) [((dRaise x (max x.exp y.exp)).1), ((dRaise y (max x.exp y.exp)).1)]) (max x.exp y.exp)).getD dZ).num.c), .int .i64 (((dOf (rIf1 (rAdd ((dRaise x (max x.exp y.exp)).1) ((dRaise y (max x.exp y.exp)).1)) [((dRaise x (max x.exp y.exp)).1), ((dRaise y (max x.exp y.exp)).1)]) (max x.exp y.exp)).getD dZ).num.d), .int .i64 (((dOf (rIf1 (rAdd ((dRaise x (max x.exp y.exp)).1) ((dRaise y (max x.exp y.exp)).1)) [((dRaise x (max x.exp y.exp)).1), ((dRaise y (max x.exp y.exp)).1)]) (max x.exp y.exp)).getD dZ).exp)]) hf rfl rfl sz_189 hB4 rfl rfl rfl rfl rfl) ?_; rintro a _ w19 ⟨ho, hb⟩ hf
   have hold := hB4
   replace hB2 := hB2.only ho (by omega)
   replace hB3 := hB3.only ho (by omega)
   replace hB12 := hB12.only ho (Blk.ne hB12 hold rfl)
   replace hB14 := hB14.only ho (Blk.ne hB14 hold rfl)
   replace hB16 := hB16.only ho (Blk.ne hB16 hold rfl)
   replace hW := Below.only hW ho hlo4
   clear hold
   have hB4 := hb
   clear hb ho
   refine l_ev hf trivial rfl rfl (ev_assign hf rfl) ?_; intro a hf
   refine wpList_nil ?_
   refine hK23 _ _ ?_; try clear hK23 K23
   refine wp_ret ?_
   refine c_ret hf (res2 hf rfl (ResV.cellN (l := [.int .i64 (((dOf (rIf1 (rAdd ((dRaise x (max x.exp y.exp)).1) ((dRaise y (max x.exp y.exp)).1)) [((dRaise x (max x.exp y.exp)).1), ((dRaise y (max x.exp y.exp)).1)]) (max x.exp y.exp)).getD dZ).num.a), .int .i64 (((dOf (rIf1 (rAdd ((dRaise x (max x.exp y.exp)).1) ((dRaise y (max x.exp y.exp)).1)) [((dRaise x (max x.exp y.exp)).1), ((dRaise y (max x.exp y.exp)).1)]) (max x.exp y.exp)).getD dZ).num.b), .int .i64 (((dOf (rIf1 (rAdd ((dRaise x (max x.exp y.exp)).1) ((dRaise y (max x.exp y.exp)).1)) [((dRaise x (max x.exp y.exp)).1), ((dRaise y (max x.exp y.exp)).1)]) (max x.exp y.exp)).getD dZ).num.c), .int .i64 (((dOf (rIf1 (rAdd ((dRaise x (max x.exp y.exp)).1) ((dRaise y (max x.exp y.exp)).1)) [((dRaise x (max x.exp y.exp)).1), ((dRaise y (max x.exp y.exp)).1)]) (max x.exp y.exp)).getD dZ).num.d), .int .i64 (((dOf (rIf1 (rAdd ((dRaise x (max x.exp y.exp)).1) ((dRaise y (max x.exp y.exp)).1)) [((dRaise x (max x.exp y.exp)).1), ((dRaise y (max x.exp y.exp)).1)]) (max x.exp y.exp)).getD dZ).exp)]) rfl tN_189 (hB4.at 0) rfl) rfl) ?_
   exact ⟨by rw [dAddI, if_pos hy, hy2]; rfl, hW⟩
theorem F223 (w0 : World) (x : Dy) (y : Dy) : Ret Tryz.prog 223 [.agg #[.int .i64 x.num.a, .int .i64 x.num.b, .int .i64 x.num.c, .int .i64 x.num.d, .int .i64 x.exp], .agg #[.int .i64 y.num.a, .int .i64 y.num.b, .int .i64 y.num.c, .int .i64 y.num.d, .int .i64 y.exp]] w0 (fun v w => v = .tuple #[dV ((dAddI x y).getD dZ), .bool ((dAddI x y).isSome)] ∧ Below w0.heap.size w0 w) := by
 refine enter Tryz.func223 rfl 11 rfl rfl ?_
 intro a hf
 have hW : Below w0.heap.size w0 w0 := Below.refl _ _
 refine wp_seq_k ?_; intro K1 hK1
 refine wp_region_lit ?_
 refine l_eff hf trivial rfl rfl (ef_box (zs := [.int .i64 x.num.a, .int .i64 x.num.b, .int .i64 x.num.c, .int .i64 x.num.d, .int .i64 x.exp]) hf rfl rfl) ?_; rintro a _ w1 ⟨b2, rfl, hl2, hE, hB2⟩ hf
 have hlo2 := Nat.le_trans hW.size hl2
 replace hW := hW.trans (hE.mono hW.size)
 clear hE
 refine l_eff hf trivial rfl rfl (ef_box (zs := [.int .i64 y.num.a, .int .i64 y.num.b, .int .i64 y.num.c, .int .i64 y.num.d, .int .i64 y.exp]) hf rfl rfl) ?_; rintro a _ w2 ⟨b3, rfl, hl3, hE, hB3⟩ hf
 have hne2_3 : b2 ≠ b3 := by have := hB2.lt; omega
 have hlo3 := Nat.le_trans hW.size hl3
 replace hB2 := hB2.below hE
 replace hW := hW.trans (hE.mono hW.size)
 clear hE
 refine l_eff hf trivial rfl rfl (ef_alloc (zs := [.int .i64 0, .int .i64 0, .int .i64 0, .int .i64 0, .int .i64 0]) z_189 rfl) ?_; rintro a _ w3 ⟨b4, rfl, hl4, hE, hB4⟩ hf
 have hne2_4 : b2 ≠ b4 := by have := hB2.lt; omega
 have hne3_4 : b3 ≠ b4 := by have := hB3.lt; omega
 have hlo4 := Nat.le_trans hW.size hl4
 replace hB2 := hB2.below hE
 replace hB3 := hB3.below hE
 replace hW := hW.trans (hE.mono hW.size)
 clear hE
 refine l_ev hf trivial rfl rfl (ev_assign hf rfl) ?_; intro a hf
 refine wpList_nil ?_
 refine hK1 _ _ ?_; try clear hK1 K1
 refine wp_seq_k ?_; intro K5 hK5
 refine wp_region_lit ?_
 refine l_ev hf trivial rfl rfl (ev_loadN (l := [.int .i64 x.num.a, .int .i64 x.num.b, .int .i64 x.num.c, .int .i64 x.num.d, .int .i64 x.exp]) hf rfl tN_189 (hB2.at 0) rfl) ?_; intro a hf
 refine l_ev hf trivial rfl rfl (ev_loadN (l := [.int .i64 y.num.a, .int .i64 y.num.b, .int .i64 y.num.c, .int .i64 y.num.d, .int .i64 y.exp]) hf rfl tN_189 (hB3.at 0) rfl) ?_; intro a hf
 refine l_eff hf trivial rfl rfl (ef_call (vs := [.agg #[.int .i64 x.num.a, .int .i64 x.num.b, .int .i64 x.num.c, .int .i64 x.num.d, .int .i64 x.exp], .agg #[.int .i64 y.num.a, .int .i64 y.num.b, .int .i64 y.num.c, .int .i64 y.num.d, .int .i64 y.exp], .func (.func 240) #[] #[]]) hf rfl ff_239 (F239 _ x y)) ?_; rintro a _ w4 ⟨rfl, hE⟩ hf
 replace hB2 := hB2.below hE
 replace hB3 := hB3.below hE
 replace hB4 := hB4.below hE
 replace hW := hW.trans (hE.mono hW.size)
 clear hE
 refine l_ev hf trivial rfl rfl (ev_extract (vs := [.agg #[.int .i64 (((dAddI x y).getD dZ).num.a), .int .i64 (((dAddI x y).getD dZ).num.b), .int .i64 (((dAddI x y).getD dZ).num.c), .int .i64 (((dAddI x y).getD dZ).num.d), .int .i64 (((dAddI x y).getD dZ).exp)], .bool ((dAddI x y).isSome)]) hf rfl rfl) ?_; intro a hf
 refine l_ev hf trivial rfl rfl (ev_extract (vs := [.agg #[.int .i64 (((dAddI x y).getD dZ).num.a), .int .i64 (((dAddI x y).getD dZ).num.b), .int .i64 (((dAddI x y).getD dZ).num.c), .int .i64 (((dAddI x y).getD dZ).num.d), .int .i64 (((dAddI x y).getD dZ).exp)], .bool ((dAddI x y).isSome)]) hf rfl rfl) ?_; intro a hf
 refine l_eff0 hf trivial rfl (ef_store (vs := [.int .i64 (((dAddI x y).getD dZ).num.a), .int .i64 (((dAddI x y).getD dZ).num.b), .int .i64 (((dAddI x y).getD dZ).num.c), .int .i64 (((dAddI x y).getD dZ).num.d), .int .i64 (((dAddI x y).getD dZ).exp)]) (l' := [.int .i64 (((dAddI x y).getD dZ).num.a), .int .i64 (((dAddI x y).getD dZ).num.b), .int .i64 (((dAddI x y).getD dZ).num.c), .int .i64 (((dAddI x y).getD dZ).num.d), .int .i64 (((dAddI x y).getD dZ).exp)]) hf rfl rfl sz_189 hB4 rfl rfl rfl rfl rfl) ?_; rintro a _ w5 ⟨ho, hb⟩ hf
 have hold := hB4
 replace hB2 := hB2.only ho (by omega)
 replace hB3 := hB3.only ho (by omega)
 replace hW := Below.only hW ho hlo4
 clear hold
 have hB4 := hb
 clear hb ho
 refine l_ev hf trivial rfl rfl (ev_assign hf rfl) ?_; intro a hf
 refine wpList_nil ?_
 refine hK5 _ _ ?_; try clear hK5 K5
 refine wp_ret ?_
 refine c_ret hf (res2 hf rfl (ResV.cellN (l := [.int .i64 (((dAddI x y).getD dZ).num.a), .int .i64 (((dAddI x y).getD dZ).num.b), .int .i64 (((dAddI x y).getD dZ).num.c), .int .i64 (((dAddI x y).getD dZ).num.d), .int .i64 (((dAddI x y).getD dZ).exp)]) rfl tN_189 (hB4.at 0) rfl) rfl) ?_
 exact ⟨rfl, hW⟩
theorem F195 (w0 : World) (x : Dy) (y : Dy) : Ret Tryz.prog 195 [.agg #[.int .i64 x.num.a, .int .i64 x.num.b, .int .i64 x.num.c, .int .i64 x.num.d, .int .i64 x.exp], .agg #[.int .i64 y.num.a, .int .i64 y.num.b, .int .i64 y.num.c, .int .i64 y.num.d, .int .i64 y.exp]] w0 (fun v w => v = .tuple #[dV ((dMulI x y).getD dZ), .bool ((dMulI x y).isSome)] ∧ Below w0.heap.size w0 w) := by
 refine enter Tryz.func195 rfl 38 rfl rfl ?_
 intro a hf
 have hW : Below w0.heap.size w0 w0 := Below.refl _ _
 refine wp_seq_k ?_; intro K1 hK1
 refine wp_region_lit ?_
 refine l_eff hf trivial rfl rfl (ef_box (zs := [.int .i64 x.num.a, .int .i64 x.num.b, .int .i64 x.num.c, .int .i64 x.num.d, .int .i64 x.exp]) hf rfl rfl) ?_; rintro a _ w1 ⟨b2, rfl, hl2, hE, hB2⟩ hf
 have hlo2 := Nat.le_trans hW.size hl2
 replace hW := hW.trans (hE.mono hW.size)
 clear hE
 refine l_eff hf trivial rfl rfl (ef_box (zs := [.int .i64 y.num.a, .int .i64 y.num.b, .int .i64 y.num.c, .int .i64 y.num.d, .int .i64 y.exp]) hf rfl rfl) ?_; rintro a _ w2 ⟨b3, rfl, hl3, hE, hB3⟩ hf
 have hne2_3 : b2 ≠ b3 := by have := hB2.lt; omega
 have hlo3 := Nat.le_trans hW.size hl3
 replace hB2 := hB2.below hE
 replace hW := hW.trans (hE.mono hW.size)
 clear hE
 refine l_eff hf trivial rfl rfl (ef_alloc (zs := [.int .i64 0, .int .i64 0, .int .i64 0, .int .i64 0, .int .i64 0]) z_189 rfl) ?_; rintro a _ w3 ⟨b4, rfl, hl4, hE, hB4⟩ hf
 have hne2_4 : b2 ≠ b4 := by have := hB2.lt; omega
 have hne3_4 : b3 ≠ b4 := by have := hB3.lt; omega
 have hlo4 := Nat.le_trans hW.size hl4
 replace hB2 := hB2.below hE
 replace hB3 := hB3.below hE
 replace hW := hW.trans (hE.mono hW.size)
 clear hE
 refine l_ev hf trivial rfl rfl (ev_assign hf rfl) ?_; intro a hf
 refine wpList_nil ?_
 refine hK1 _ _ ?_; try clear hK1 K1
 refine wp_seq_k ?_; intro K5 hK5
 refine wp_region_lit ?_
 refine l_ev hf trivial rfl rfl (ev_fieldB hf rfl fd_189_0 (m := 0) rfl) ?_; intro a hf
 refine l_ev hf trivial rfl rfl (ev_loadN (l := [.int .i64 x.num.a, .int .i64 x.num.b, .int .i64 x.num.c, .int .i64 x.num.d]) hf rfl tN_187 ((hB2.at 0).take 4) rfl) ?_; intro a hf
 refine l_ev hf trivial rfl rfl (ev_fieldB hf rfl fd_189_0 (m := 0) rfl) ?_; intro a hf
 refine l_ev hf trivial rfl rfl (ev_loadN (l := [.int .i64 y.num.a, .int .i64 y.num.b, .int .i64 y.num.c, .int .i64 y.num.d]) hf rfl tN_187 ((hB3.at 0).take 4) rfl) ?_; intro a hf
 refine l_eff hf trivial rfl rfl (ef_call (vs := [.agg #[.int .i64 x.num.a, .int .i64 x.num.b, .int .i64 x.num.c, .int .i64 x.num.d], .agg #[.int .i64 y.num.a, .int .i64 y.num.b, .int .i64 y.num.c, .int .i64 y.num.d]]) hf rfl ff_227 (F227 _ x.num y.num)) ?_; rintro a _ w4 ⟨rfl, hE⟩ hf
 replace hB2 := hB2.below hE
 replace hB3 := hB3.below hE
 replace hB4 := hB4.below hE
 replace hW := hW.trans (hE.mono hW.size)
 clear hE
 refine l_ev hf trivial rfl rfl (ev_move hf rfl) ?_; intro a hf
 refine l_ev hf trivial rfl rfl (ev_extract (vs := [.agg #[.int .i64 ((rIf1 (rMul x.num y.num) [x.num, y.num]).a), .int .i64 ((rIf1 (rMul x.num y.num) [x.num, y.num]).b), .int .i64 ((rIf1 (rMul x.num y.num) [x.num, y.num]).c), .int .i64 ((rIf1 (rMul x.num y.num) [x.num, y.num]).d)], .bool (rIf2 (rMul x.num y.num) [x.num, y.num])]) hf rfl rfl) ?_; intro a hf
 refine l_ev hf trivial rfl rfl (ev_extract (vs := [.agg #[.int .i64 ((rIf1 (rMul x.num y.num) [x.num, y.num]).a), .int .i64 ((rIf1 (rMul x.num y.num) [x.num, y.num]).b), .int .i64 ((rIf1 (rMul x.num y.num) [x.num, y.num]).c), .int .i64 ((rIf1 (rMul x.num y.num) [x.num, y.num]).d)], .bool (rIf2 (rMul x.num y.num) [x.num, y.num])]) hf rfl rfl) ?_; intro a hf
 refine l_eff hf trivial rfl rfl (ef_alloc (zs := [.int .i64 0, .int .i64 0, .int .i64 0, .int .i64 0]) z_187 rfl) ?_; rintro a _ w5 ⟨b6, rfl, hl6, hE, hB6⟩ hf
 have hlo6 := Nat.le_trans hW.size hl6
 replace hB2 := hB2.below hE
 replace hB3 := hB3.below hE
 replace hB4 := hB4.below hE
 replace hW := hW.trans (hE.mono hW.size)
 clear hE
 refine l_eff0 hf trivial rfl (ef_store (vs := [.int .i64 ((rIf1 (rMul x.num y.num) [x.num, y.num]).a), .int .i64 ((rIf1 (rMul x.num y.num) [x.num, y.num]).b), .int .i64 ((rIf1 (rMul x.num y.num) [x.num, y.num]).c), .int .i64 ((rIf1 (rMul x.num y.num) [x.num, y.num]).d)]) (l' := [.int .i64 ((rIf1 (rMul x.num y.num) [x.num, y.num]).a), .int .i64 ((rIf1 (rMul x.num y.num) [x.num, y.num]).b), .int .i64 ((rIf1 (rMul x.num y.num) [x.num, y.num]).c), .int .i64 ((rIf1 (rMul x.num y.num) [x.num, y.num]).d)]) hf rfl rfl sz_187 hB6 rfl rfl rfl rfl rfl) ?_; rintro a _ w6 ⟨ho, hb⟩ hf
 have hold := hB6
 replace hB2 := hB2.only ho (Blk.ne hB2 hold rfl)
 replace hB3 := hB3.only ho (Blk.ne hB3 hold rfl)
 replace hB4 := hB4.only ho (Blk.ne hB4 hold rfl)
 replace hW := Below.only hW ho hlo6
 clear hold
 have hB6 := hb
 clear hb ho
 refine l_ev hf trivial rfl rfl (ev_assign hf rfl) ?_; intro a hf
 refine wpList_nil ?_
 refine hK5 _ _ ?_; try clear hK5 K5
 refine wp_seq_k ?_; intro K7 hK7
 refine wp_seq_k ?_; intro K8 hK8
 refine c_cut (fun a w => Fr a 38 [(2, .pointer (some ⟨b2, 0, none⟩)), (3, .pointer (some ⟨b3, 0, none⟩)), (4, .pointer (some ⟨b4, 0, none⟩)), (6, .pointer (some ⟨b6, 0, none⟩)), (27, .bool (((!(dOk x)) || (!(dOk y))) || (!(rIf2 (rMul x.num y.num) [x.num, y.num]))))] ∧ Below w6.heap.size w6 w) ?_ ?_
 ·have hEc : Below w6.heap.size w6 w6 := Below.refl _ _
  refine wp_region_lit ?_
  refine l_ev hf trivial rfl rfl (ev_loadN (l := [.int .i64 x.num.a, .int .i64 x.num.b, .int .i64 x.num.c, .int .i64 x.num.d, .int .i64 x.exp]) hf rfl tN_189 (hB2.at 0) rfl) ?_; intro a hf
  refine l_eff hf trivial rfl rfl (ef_call (vs := [.agg #[.int .i64 x.num.a, .int .i64 x.num.b, .int .i64 x.num.c, .int .i64 x.num.d, .int .i64 x.exp]]) hf rfl ff_193 (F193 _ x)) ?_; rintro a _ w7 ⟨rfl, hE⟩ hf
  replace hB2 := hB2.below hE
  replace hB3 := hB3.below hE
  replace hB4 := hB4.below hE
  replace hB6 := hB6.below hE
  replace hW := hW.trans (hE.mono hW.size)
  replace hEc := hEc.trans (hE.mono hEc.size)
  clear hE
  refine l_ev hf trivial rfl rfl (ev_not hf rfl) ?_; intro a hf
  refine l_ev hf trivial rfl rfl (ev_move hf rfl) ?_; intro a hf
  refine g_split hf (t := 19) rfl (fun hg9 => ?_) (fun hg9 => ?_)
  ·refine l_pass hf ⟨_, _, rfl, rfl, hg9⟩ rfl rfl ?_; intro a hf
   refine l_pass hf ⟨_, _, rfl, rfl, hg9⟩ rfl rfl ?_; intro a hf
   refine l_pass hf ⟨_, _, rfl, rfl, hg9⟩ rfl rfl ?_; intro a hf
   refine l_ev hf trivial rfl rfl (ev_pickT hf rfl hg9 rfl) ?_; intro a hf
   refine l_ev hf trivial rfl rfl (ev_move hf rfl) ?_; intro a hf
   refine l_pass hf ⟨_, _, rfl, rfl, rfl⟩ rfl rfl ?_; intro a hf
   refine l_pass hf ⟨_, _, rfl, rfl, rfl⟩ rfl rfl ?_; intro a hf
   refine l_ev hf trivial rfl rfl (ev_pickT hf rfl rfl rfl) ?_; intro a hf
   refine wpList_nil ?_
   have hEE : Below w6.heap.size w6 w7 := hEc
   exact ⟨hf.sub ⟨rfl, rfl, rfl, rfl, look_bool rfl (by first | rfl | simp [hg9]), trivial⟩, hEE⟩
  ·refine l_ev hf ⟨_, _, rfl, rfl, hg9⟩ rfl rfl (ev_loadN (l := [.int .i64 y.num.a, .int .i64 y.num.b, .int .i64 y.num.c, .int .i64 y.num.d, .int .i64 y.exp]) hf rfl tN_189 (hB3.at 0) rfl) ?_; intro a hf
   refine l_eff hf ⟨_, _, rfl, rfl, hg9⟩ rfl rfl (ef_call (vs := [.agg #[.int .i64 y.num.a, .int .i64 y.num.b, .int .i64 y.num.c, .int .i64 y.num.d, .int .i64 y.exp]]) hf rfl ff_193 (F193 _ y)) ?_; rintro a _ w8 ⟨rfl, hE⟩ hf
   replace hB2 := hB2.below hE
   replace hB3 := hB3.below hE
   replace hB4 := hB4.below hE
   replace hB6 := hB6.below hE
   replace hW := hW.trans (hE.mono hW.size)
   replace hEc := hEc.trans (hE.mono hEc.size)
   clear hE
   refine l_ev hf ⟨_, _, rfl, rfl, hg9⟩ rfl rfl (ev_not hf rfl) ?_; intro a hf
   refine l_ev hf trivial rfl rfl (ev_pickF hf rfl hg9 rfl) ?_; intro a hf
   refine l_ev hf trivial rfl rfl (ev_move hf rfl) ?_; intro a hf
   refine g_split hf (t := 24) rfl (fun hg10 => ?_) (fun hg10 => ?_)
   ·refine l_pass hf ⟨_, _, rfl, rfl, hg10⟩ rfl rfl ?_; intro a hf
    refine l_pass hf ⟨_, _, rfl, rfl, hg10⟩ rfl rfl ?_; intro a hf
    refine l_ev hf trivial rfl rfl (ev_pickT hf rfl hg10 rfl) ?_; intro a hf
    refine wpList_nil ?_
    have hEE : Below w6.heap.size w6 w8 := hEc
    exact ⟨hf.sub ⟨rfl, rfl, rfl, rfl, look_bool rfl (by first | rfl | simp [hg9, hg10]), trivial⟩, hEE⟩
   ·refine l_ev hf ⟨_, _, rfl, rfl, hg10⟩ rfl rfl (ev_move hf rfl) ?_; intro a hf
    refine l_ev hf ⟨_, _, rfl, rfl, hg10⟩ rfl rfl (ev_not hf rfl) ?_; intro a hf
    refine l_ev hf trivial rfl rfl (ev_pickF hf rfl hg10 rfl) ?_; intro a hf
    refine wpList_nil ?_
    have hEE : Below w6.heap.size w6 w8 := hEc
    exact ⟨hf.sub ⟨rfl, rfl, rfl, rfl, look_bool rfl (by first | rfl | simp [hg9, hg10]), trivial⟩, hEE⟩
 rintro a w9 ⟨hf, hE⟩
 replace hB2 := hB2.below hE
 replace hB3 := hB3.below hE
 replace hB4 := hB4.below hE
 replace hB6 := hB6.below hE
 replace hW := hW.trans (hE.mono hW.size)
 clear hE
 refine hK8 _ _ ?_; try clear hK8 K8
 refine c_if hf rfl (fun hc11 => ?_) (fun hc11 => ?_)
 ·have hc11b := hc11
  have hn := or3_false hc11
  refine wp_seq_k ?_; intro K12 hK12
  refine wp_region_lit ?_
  refine l_ev hf trivial rfl rfl (ev_build (ps := []) (cs := [.int .i64 0, .int .i64 0, .int .i64 0, .int .i64 0, .int .i64 0]) hf rfl (fun _ => by first | rfl | kernel_rfl)) ?_; intro a hf
  refine l_eff0 hf trivial rfl (ef_store (vs := [.int .i64 0, .int .i64 0, .int .i64 0, .int .i64 0, .int .i64 0]) (l' := [.int .i64 0, .int .i64 0, .int .i64 0, .int .i64 0, .int .i64 0]) hf rfl rfl sz_189 hB4 rfl rfl rfl rfl rfl) ?_; rintro a _ w10 ⟨ho, hb⟩ hf
  have hold := hB4
  replace hB2 := hB2.only ho (by omega)
  replace hB3 := hB3.only ho (by omega)
  replace hB6 := hB6.only ho (Blk.ne hB6 hold rfl)
  replace hW := Below.only hW ho hlo4
  clear hold
  have hB4 := hb
  clear hb ho
  refine l_ev hf trivial rfl rfl (ev_assign hf rfl) ?_; intro a hf
  refine wpList_nil ?_
  refine hK12 _ _ ?_; try clear hK12 K12
  refine wp_ret ?_
  refine x_retS ?_
  refine c_ret hf (res2 hf rfl (ResV.cellN (l := [.int .i64 0, .int .i64 0, .int .i64 0, .int .i64 0, .int .i64 0]) rfl tN_189 (hB4.at 0) rfl) rfl) ?_
  exact ⟨by rw [dMulI, hn]; rfl, hW⟩
 ·have hc11b := hc11
  have hy := or3_true hc11
  have hy3 := and3 hy
  have hx := dOk_exp hy3.1
  have hz := dOk_exp hy3.2.1
  refine wp_skip ?_
  refine hK7 _ _ ?_; try clear hK7 K7
  refine wp_seq_k ?_; intro K13 hK13
  refine wp_region_lit ?_
  refine l_ev hf trivial rfl rfl (ev_loadN (l := [.int .i64 ((rIf1 (rMul x.num y.num) [x.num, y.num]).a), .int .i64 ((rIf1 (rMul x.num y.num) [x.num, y.num]).b), .int .i64 ((rIf1 (rMul x.num y.num) [x.num, y.num]).c), .int .i64 ((rIf1 (rMul x.num y.num) [x.num, y.num]).d)]) hf rfl tN_187 (hB6.at 0) rfl) ?_; intro a hf
  refine l_ev hf trivial rfl rfl (ev_fieldB hf rfl fd_189_1 (m := 4) rfl) ?_; intro a hf
  refine l_ev hf trivial rfl rfl (ev_load1 hf rfl t1_3 (hB2.at 4)) ?_; intro a hf
  refine l_ev hf trivial rfl rfl (ev_fieldB hf rfl fd_189_1 (m := 4) rfl) ?_; intro a hf
  refine l_ev hf trivial rfl rfl (ev_load1 hf rfl t1_3 (hB3.at 4)) ?_; intro a hf
  refine l_ev hf trivial rfl rfl (ev_addx hf rfl rfl (by omega) (by omega)) ?_; intro a hf
  refine l_eff hf trivial rfl rfl (ef_call (vs := [.agg #[.int .i64 ((rIf1 (rMul x.num y.num) [x.num, y.num]).a), .int .i64 ((rIf1 (rMul x.num y.num) [x.num, y.num]).b), .int .i64 ((rIf1 (rMul x.num y.num) [x.num, y.num]).c), .int .i64 ((rIf1 (rMul x.num y.num) [x.num, y.num]).d)], .int .i64 (x.exp + y.exp)]) hf rfl ff_228 (F228 _ (rIf1 (rMul x.num y.num) [x.num, y.num]) (x.exp + y.exp))) ?_; rintro a _ w11 ⟨rfl, hE⟩ hf
  replace hB2 := hB2.below hE
  replace hB3 := hB3.below hE
  replace hB4 := hB4.below hE
  replace hB6 := hB6.below hE
  replace hW := hW.trans (hE.mono hW.size)
  clear hE
  refine l_ev hf trivial rfl rfl (ev_extract (vs := [.agg #[.int .i64 (((dOf (rIf1 (rMul x.num y.num) [x.num, y.num]) (x.exp + y.exp)).getD dZ).num.a), .int .i64 (((dOf (rIf1 (rMul x.num y.num) [x.num, y.num]) (x.exp + y.exp)).getD dZ).num.b), .int .i64 (((dOf (rIf1 (rMul x.num y.num) [x.num, y.num]) (x.exp + y.exp)).getD dZ).num.c), .int .i64 (((dOf (rIf1 (rMul x.num y.num) [x.num, y.num]) (x.exp + y.exp)).getD dZ).num.d), .int .i64 (((dOf (rIf1 (rMul x.num y.num) [x.num, y.num]) (x.exp + y.exp)).getD dZ).exp)], .bool ((dOf (rIf1 (rMul x.num y.num) [x.num, y.num]) (x.exp + y.exp)).isSome)]) hf rfl rfl) ?_; intro a hf
  refine l_ev hf trivial rfl rfl (ev_extract (vs := [.agg #[.int .i64 (((dOf (rIf1 (rMul x.num y.num) [x.num, y.num]) (x.exp + y.exp)).getD dZ).num.a), .int .i64 (((dOf (rIf1 (rMul x.num y.num) [x.num, y.num]) (x.exp + y.exp)).getD dZ).num.b), .int .i64 (((dOf (rIf1 (rMul x.num y.num) [x.num, y.num]) (x.exp + y.exp)).getD dZ).num.c), .int .i64 (((dOf (rIf1 (rMul x.num y.num) [x.num, y.num]) (x.exp + y.exp)).getD dZ).num.d), .int .i64 (((dOf (rIf1 (rMul x.num y.num) [x.num, y.num]) (x.exp + y.exp)).getD dZ).exp)], .bool ((dOf (rIf1 (rMul x.num y.num) [x.num, y.num]) (x.exp + y.exp)).isSome)]) hf rfl rfl) ?_; intro a hf
  refine l_eff0 hf trivial rfl (ef_store (vs := [.int .i64 (((dOf (rIf1 (rMul x.num y.num) [x.num, y.num]) (x.exp + y.exp)).getD dZ).num.a), .int .i64 (((dOf (rIf1 (rMul x.num y.num) [x.num, y.num]) (x.exp + y.exp)).getD dZ).num.b), .int .i64 (((dOf (rIf1 (rMul x.num y.num) [x.num, y.num]) (x.exp + y.exp)).getD dZ).num.c), .int .i64 (((dOf (rIf1 (rMul x.num y.num) [x.num, y.num]) (x.exp + y.exp)).getD dZ).num.d), .int .i64 (((dOf (rIf1 (rMul x.num y.num) [x.num, y.num]) (x.exp + y.exp)).getD dZ).exp)]) (l' := [.int .i64 (((dOf (rIf1 (rMul x.num y.num) [x.num, y.num]) (x.exp + y.exp)).getD dZ).num.a), .int .i64 (((dOf (rIf1 (rMul x.num y.num) [x.num, y.num]) (x.exp + y.exp)).getD dZ).num.b), .int .i64 (((dOf (rIf1 (rMul x.num y.num) [x.num, y.num]) (x.exp + y.exp)).getD dZ).num.c), .int .i64 (((dOf (rIf1 (rMul x.num y.num) [x.num, y.num]) (x.exp + y.exp)).getD dZ).num.d), .int .i64 (((dOf (rIf1 (rMul x.num y.num) [x.num, y.num]) (x.exp + y.exp)).getD dZ).exp)]) hf rfl rfl sz_189 hB4 rfl rfl rfl rfl rfl) ?_; rintro a _ w12 ⟨ho, hb⟩ hf
  have hold := hB4
  replace hB2 := hB2.only ho (by omega)
  replace hB3 := hB3.only ho (by omega)
  replace hB6 := hB6.only ho (Blk.ne hB6 hold rfl)
  replace hW := Below.only hW ho hlo4
  clear hold
  have hB4 := hb
  clear hb ho
  refine l_ev hf trivial rfl rfl (ev_assign hf rfl) ?_; intro a hf
  refine wpList_nil ?_
  refine hK13 _ _ ?_; try clear hK13 K13
  refine wp_ret ?_
  refine c_ret hf (res2 hf rfl (ResV.cellN (l := [.int .i64 (((dOf (rIf1 (rMul x.num y.num) [x.num, y.num]) (x.exp + y.exp)).getD dZ).num.a), .int .i64 (((dOf (rIf1 (rMul x.num y.num) [x.num, y.num]) (x.exp + y.exp)).getD dZ).num.b), .int .i64 (((dOf (rIf1 (rMul x.num y.num) [x.num, y.num]) (x.exp + y.exp)).getD dZ).num.c), .int .i64 (((dOf (rIf1 (rMul x.num y.num) [x.num, y.num]) (x.exp + y.exp)).getD dZ).num.d), .int .i64 (((dOf (rIf1 (rMul x.num y.num) [x.num, y.num]) (x.exp + y.exp)).getD dZ).exp)]) rfl tN_189 (hB4.at 0) rfl) rfl) ?_
  exact ⟨by rw [dMulI, if_pos hy], hW⟩
end Go.Proofs.YtfgnmflfiobkmaaGreat
set_option maxRecDepth 4000
namespace Go.Proofs.YtfgnmflfiobkmaaGreat
open Go.RowKit
theorem F190 (w0 : World) (n : Int) : Ret Tryz.prog 190 [.int .i64 n] w0 (fun v w => v = .bool (isDimB n) ∧ w0 = w) := by
 refine enter Tryz.func190 rfl 12 rfl rfl ?_
 intro a hf
 have hW : Below w0.heap.size w0 w0 := Below.refl _ _
 refine wp_seq_k ?_; intro K1 hK1
 refine wp_region_lit ?_
 refine l_ev hf trivial rfl rfl (ev_assign hf rfl) ?_; intro a hf
 refine wpList_nil ?_
 refine hK1 _ _ ?_; try clear hK1 K1
 refine wp_seq_k ?_; intro K2 hK2
 refine c_cut (fun a w => Fr a 12 [(2, .bool ((inR n 1 32) && ((bits .and .i64 n (IntKind.i64.wrap (n - 1))) == 0)))] ∧ w0 = w) ?_ ?_
 ·refine wp_region_lit ?_
  refine l_ev hf trivial rfl rfl (ev_move hf rfl) ?_; intro a hf
  refine l_eff hf trivial rfl rfl (ef_call (vs := [.int .i64 n, .int .i64 1, .int .i64 32]) hf rfl ff_91 (F91 _ n 1 32)) ?_; rintro a _ _ ⟨rfl, rfl⟩ hf
  refine l_ev hf trivial rfl rfl (ev_move hf rfl) ?_; intro a hf
  refine g_split hf (t := 5) rfl (fun hg3 => ?_) (fun hg3 => ?_)
  ·refine l_ev hf ⟨_, _, rfl, rfl, hg3⟩ rfl rfl (ev_move hf rfl) ?_; intro a hf
   refine l_ev hf ⟨_, _, rfl, rfl, hg3⟩ rfl rfl (ev_move hf rfl) ?_; intro a hf
   refine l_ev hf ⟨_, _, rfl, rfl, hg3⟩ rfl rfl (ev_sub hf rfl rfl) ?_; intro a hf
   refine l_ev hf ⟨_, _, rfl, rfl, hg3⟩ rfl rfl (ev_and hf rfl rfl) ?_; intro a hf
   refine l_ev hf ⟨_, _, rfl, rfl, hg3⟩ rfl rfl (ev_eql hf rfl rfl) ?_; intro a hf
   refine l_ev hf trivial rfl rfl (ev_pickT hf rfl hg3 rfl) ?_; intro a hf
   refine l_ev hf trivial rfl rfl (ev_assign hf rfl) ?_; intro a hf
   refine wpList_nil ?_
   exact ⟨hf.sub ⟨look_bool rfl (by first | rfl | simp [hg3]), trivial⟩, rfl⟩
  ·refine l_pass hf ⟨_, _, rfl, rfl, hg3⟩ rfl rfl ?_; intro a hf
   refine l_pass hf ⟨_, _, rfl, rfl, hg3⟩ rfl rfl ?_; intro a hf
   refine l_pass hf ⟨_, _, rfl, rfl, hg3⟩ rfl rfl ?_; intro a hf
   refine l_pass hf ⟨_, _, rfl, rfl, hg3⟩ rfl rfl ?_; intro a hf
   refine l_pass hf ⟨_, _, rfl, rfl, hg3⟩ rfl rfl ?_; intro a hf
   refine l_ev hf trivial rfl rfl (ev_pickF hf rfl hg3 rfl) ?_; intro a hf
   refine l_ev hf trivial rfl rfl (ev_assign hf rfl) ?_; intro a hf
   refine wpList_nil ?_
   exact ⟨hf.sub ⟨look_bool rfl (by first | rfl | simp [hg3]), trivial⟩, rfl⟩
 rintro a _ ⟨hf, rfl⟩
 refine hK2 _ _ ?_; try clear hK2 K2
 refine wp_ret ?_
 refine c_ret hf (res1 hf rfl rfl) ?_
 exact ⟨by simp [isDimB, *], rfl⟩
theorem F192 (w0 : World) (x : Dy) : Ret Tryz.prog 192 [.agg #[.int .i64 x.num.a, .int .i64 x.num.b, .int .i64 x.num.c, .int .i64 x.num.d, .int .i64 x.exp]] w0 (fun v w => v = .bool (!dOk x) ∧ Below w0.heap.size w0 w) := by
 refine enter Tryz.func192 rfl 6 rfl rfl ?_
 intro a hf
 have hW : Below w0.heap.size w0 w0 := Below.refl _ _
 refine wp_seq_k ?_; intro K1 hK1
 refine wp_region_lit ?_
 refine l_eff hf trivial rfl rfl (ef_box (zs := [.int .i64 x.num.a, .int .i64 x.num.b, .int .i64 x.num.c, .int .i64 x.num.d, .int .i64 x.exp]) hf rfl rfl) ?_; rintro a _ w1 ⟨b2, rfl, hl2, hE, hB2⟩ hf
 have hlo2 := Nat.le_trans hW.size hl2
 replace hW := hW.trans (hE.mono hW.size)
 clear hE
 refine l_ev hf trivial rfl rfl (ev_assign hf rfl) ?_; intro a hf
 refine wpList_nil ?_
 refine hK1 _ _ ?_; try clear hK1 K1
 refine wp_seq_k ?_; intro K3 hK3
 refine wp_region_lit ?_
 refine l_ev hf trivial rfl rfl (ev_loadN (l := [.int .i64 x.num.a, .int .i64 x.num.b, .int .i64 x.num.c, .int .i64 x.num.d, .int .i64 x.exp]) hf rfl tN_189 (hB2.at 0) rfl) ?_; intro a hf
 refine l_eff hf trivial rfl rfl (ef_call (vs := [.agg #[.int .i64 x.num.a, .int .i64 x.num.b, .int .i64 x.num.c, .int .i64 x.num.d, .int .i64 x.exp]]) hf rfl ff_193 (F193 _ x)) ?_; rintro a _ w2 ⟨rfl, hE⟩ hf
 replace hB2 := hB2.below hE
 replace hW := hW.trans (hE.mono hW.size)
 clear hE
 refine l_ev hf trivial rfl rfl (ev_not hf rfl) ?_; intro a hf
 refine l_ev hf trivial rfl rfl (ev_assign hf rfl) ?_; intro a hf
 refine wpList_nil ?_
 refine hK3 _ _ ?_; try clear hK3 K3
 refine wp_ret ?_
 refine c_ret hf (res1 hf rfl rfl) ?_
 exact ⟨rfl, hW⟩
theorem F224 (w0 : World) (Al : Option Addr) (cl : Nat) (l : List Dy) (hr_l : Rd w0 w0.heap.size 189 encD Al l) (kq : FuncId) (pq : List Value) (Fq : FuncF Tryz.prog kq) (q : Dy → Bool) (hq : ∀ x w, Below w0.heap.size w0 w → Ret Tryz.prog kq ([dV x] ++ pq) w (fun v w' => v = .bool (q x) ∧ Below w.heap.size w w')) (hln : l.length ≤ 2305843009213693951) : Ret Tryz.prog 224 [.slice Al l.length cl, .func (.func kq) #[] pq.toArray] w0 (fun v w => ∃ i : Int, v = .int .i64 i ∧ decide (0 ≤ i) = l.any q ∧ Below w0.heap.size w0 w) := by
 refine enter Tryz.func224 rfl 19 rfl rfl ?_
 intro a hf
 have hW : Below w0.heap.size w0 w0 := Below.refl _ _
 refine wp_seq_k ?_; intro K2 hK2
 refine wp_region_lit ?_
 refine l_ev hf trivial rfl rfl (ev_assign hf rfl) ?_; intro a hf
 refine wpList_nil ?_
 refine hK2 _ _ ?_; try clear hK2 K2
 refine wp_seq_k ?_; intro K3 hK3
 refine wp_seq_k ?_; intro K4 hK4
 refine wp_region_lit ?_
 refine l_ev hf trivial rfl rfl (ev_move hf rfl) ?_; intro a hf
 refine l_ev hf trivial rfl rfl (ev_len hf rfl sl_139) ?_; intro a hf
 refine l_ev hf trivial rfl rfl (ev_move hf rfl) ?_; intro a hf
 refine wpList_nil ?_
 refine hK4 _ _ ?_; try clear hK4 K4
 refine wp_block ?_
 refine c_loop (σ := Nat) (fun (k : Nat) (a : Act) (w : World) => Fr a 19 [(0, .slice Al l.length cl), (1, .func (.func kq) #[] pq.toArray), (7, .int .i64 (l.length : Int)), (8, .int .i64 (k : Int))] ∧ (k ≤ l.length) ∧ ((l.take k).all (fun x => !q x) = true) ∧ Rd w w0.heap.size 189 encD Al l ∧ Below w0.heap.size w0 w) (fun (k : Nat) => l.length + 1 - k) 0 ?_ ?_
 · exact ⟨hf.sub ⟨rfl, rfl, rfl, rfl, trivial⟩, (Nat.zero_le _), (by simp), hr_l, hW⟩
 rintro k a w1 ⟨hf, hk, hpre, hr_l, hW⟩
 refine wp_seq_k ?_; intro K5 hK5
 refine wp_region_lit ?_
 refine l_ev hf trivial rfl rfl (ev_lss hf rfl rfl) ?_; intro a hf
 refine wpList_nil ?_
 refine hK5 _ _ ?_; try clear hK5 K5
 refine wp_seq_k ?_; intro K6 hK6
 refine c_if hf rfl (fun hc7 => ?_) (fun hc7 => ?_)
 ·have hc7b := hc7
  have hc7 := of_decide_eq_true hc7
  obtain ⟨u8, hu8⟩ := getElem_ex (l := l) (k := k) (by omega)
  refine wp_skip ?_
  refine hK6 _ _ ?_; try clear hK6 K6
  refine wp_seq_k ?_; intro K9 hK9
  refine wp_block ?_
  refine wp_seq_k ?_; intro K10 hK10
  refine wp_region_lit ?_
  refine l_ev hf trivial rfl rfl (ev_move hf rfl) ?_; intro a hf
  refine l_ev hf trivial rfl rfl (ev_assign hf rfl) ?_; intro a hf
  refine wpList_nil ?_
  refine hK10 _ _ ?_; try clear hK10 K10
  refine wp_seq_k ?_; intro K11 hK11
  refine wp_region_lit ?_
  refine l_ev hf trivial rfl rfl (ev_move hf rfl) ?_; intro a hf
  refine l_ev hf trivial rfl rfl (ev_move hf rfl) ?_; intro a hf
  refine l_ev hf trivial rfl rfl (ev_move hf rfl) ?_; intro a hf
  refine l_index (k := k) (u := u8) (enc := encD) (l := l) hf trivial rfl rfl rfl sl_139 sz_189 encD_len hr_l hu8 rfl ?_; intro a p13 hat12 hf
  refine l_ev hf trivial rfl rfl (ev_loadN (l := [.int .i64 u8.num.a, .int .i64 u8.num.b, .int .i64 u8.num.c, .int .i64 u8.num.d, .int .i64 u8.exp]) hf rfl tN_189 hat12 rfl) ?_; intro a hf
  refine l_eff hf trivial rfl rfl (ef_callv (cs := pq) (vs := [.agg #[.int .i64 u8.num.a, .int .i64 u8.num.b, .int .i64 u8.num.c, .int .i64 u8.num.d, .int .i64 u8.exp]]) hf rfl rfl Fq (hq u8 _ hW)) ?_; rintro a _ w2 ⟨rfl, hE⟩ hf
  replace hr_l := hr_l.below hE
  replace hW := hW.trans (hE.mono hW.size)
  clear hE
  refine wpList_nil ?_
  refine hK11 _ _ ?_; try clear hK11 K11
  refine c_if hf rfl (fun hc14 => ?_) (fun hc14 => ?_)
  ·have hc14b := hc14
   have hb2 : l.any q = true := any_true hu8 hc14
   refine wp_seq_k ?_; intro K15 hK15
   refine wp_region_lit ?_
   refine l_ev hf trivial rfl rfl (ev_move hf rfl) ?_; intro a hf
   refine l_ev hf trivial rfl rfl (ev_assign hf rfl) ?_; intro a hf
   refine wpList_nil ?_
   refine hK15 _ _ ?_; try clear hK15 K15
   refine wp_ret ?_
   refine x_retB ?_
   refine x_retS ?_
   refine x_retS ?_
   refine x_retB ?_
   refine x_retS ?_
   refine c_ret hf (res1 hf rfl rfl) ?_
   exact ⟨_, rfl, by rw [hb2]; simp, hW⟩
  ·have hc14b := hc14
   have hok : (!q u8) = true := by revert hc14; cases q u8 <;> simp
   refine wp_skip ?_
   refine x_norm ?_
   refine hK9 _ _ ?_; try clear hK9 K9
   refine wp_region_lit ?_
   refine l_ev hf trivial rfl rfl (ev_addx hf rfl rfl (by omega) (by omega)) ?_; intro a hf
   refine l_ev hf trivial rfl rfl (ev_move hf rfl) ?_; intro a hf
   refine wpList_nil ?_
   refine x_thenN ?_
   exact ⟨k + 1, ⟨hf.sub ⟨rfl, rfl, rfl, rfl, trivial⟩, (by omega), (take_all hpre hu8 hok), hr_l, hW⟩, (by omega)⟩
 ·have hc7b := hc7
  have hc7 := of_decide_eq_false hc7
  refine wp_exit ?_
  refine x_exS ?_
  refine x_exS ?_
  refine x_exit ?_
  refine hK3 _ _ ?_; try clear hK3 K3
  refine wp_seq_k ?_; intro K16 hK16
  refine wp_region_lit ?_
  refine l_ev hf trivial rfl rfl (ev_assign hf rfl) ?_; intro a hf
  refine wpList_nil ?_
  refine hK16 _ _ ?_; try clear hK16 K16
  refine wp_ret ?_
  refine c_ret hf (res1 hf rfl rfl) ?_
  have hb2 : l.any q = false := any_false (take_full hpre (by omega))
  exact ⟨_, rfl, by rw [hb2]; rfl, hW⟩
theorem F191 (w0 : World) (Al : Option Addr) (cl : Nat) (l : List Dy) (hr_l : Rd w0 w0.heap.size 189 encD Al l) (kq : FuncId) (pq : List Value) (Fq : FuncF Tryz.prog kq) (q : Dy → Bool) (hq : ∀ x w, Below w0.heap.size w0 w → Ret Tryz.prog kq ([dV x] ++ pq) w (fun v w' => v = .bool (q x) ∧ Below w.heap.size w w')) (hln : l.length ≤ 2305843009213693951) : Ret Tryz.prog 191 [.slice Al l.length cl, .func (.func kq) #[] pq.toArray] w0 (fun v w => v = .bool (l.any q) ∧ Below w0.heap.size w0 w) := by
 refine enter Tryz.func191 rfl 9 rfl rfl ?_
 intro a hf
 have hW : Below w0.heap.size w0 w0 := Below.refl _ _
 refine wp_seq_k ?_; intro K2 hK2
 refine wp_region_lit ?_
 refine l_ev hf trivial rfl rfl (ev_assign hf rfl) ?_; intro a hf
 refine wpList_nil ?_
 refine hK2 _ _ ?_; try clear hK2 K2
 refine wp_seq_k ?_; intro K3 hK3
 refine wp_region_lit ?_
 refine l_ev hf trivial rfl rfl (ev_move hf rfl) ?_; intro a hf
 refine l_ev hf trivial rfl rfl (ev_move hf rfl) ?_; intro a hf
 refine l_eff hf trivial rfl rfl (ef_call (vs := [.slice Al l.length cl, .func (.func kq) #[] pq.toArray]) hf rfl ff_224 (F224 _ Al cl l hr_l.top kq pq Fq q (fun x w' hE' => hq x w' (hW.trans (hE'.mono hW.size))) hln)) ?_; rintro a _ w1 ⟨ix, rfl, hix, hE⟩ hf
 replace hr_l := hr_l.below hE
 replace hW := hW.trans (hE.mono hW.size)
 clear hE
 refine l_ev hf trivial rfl rfl (ev_geq hf rfl rfl) ?_; intro a hf
 refine l_ev hf trivial rfl rfl (ev_assign hf rfl) ?_; intro a hf
 refine wpList_nil ?_
 refine hK3 _ _ ?_; try clear hK3 K3
 refine wp_ret ?_
 refine c_ret hf (res1 hf rfl rfl) ?_
 exact ⟨by rw [← hix], hW⟩
theorem F138 (w0 : World) (m : Mx) (Am : Option Addr) (cm : Nat) (hr_m : Rd w0 w0.heap.size 189 encD Am m.cells) (hln : m.cells.length ≤ 2305843009213693951) : Ret Tryz.prog 138 [.agg #[.int .i64 m.rows, .int .i64 m.cols, .slice Am m.cells.length cm]] w0 (fun v w => v = .bool (mOk m) ∧ Below w0.heap.size w0 w) := by
 refine enter Tryz.func138 rfl 28 rfl rfl ?_
 intro a hf
 have hW : Below w0.heap.size w0 w0 := Below.refl _ _
 refine wp_seq_k ?_; intro K2 hK2
 refine wp_region_lit ?_
 refine l_eff hf trivial rfl rfl (ef_box (zs := [.int .i64 m.rows, .int .i64 m.cols, .slice Am m.cells.length cm]) hf rfl rfl) ?_; rintro a _ w1 ⟨b3, rfl, hl3, hE, hB3⟩ hf
 have hlo3 := Nat.le_trans hW.size hl3
 replace hr_m := hr_m.below hE
 replace hW := hW.trans (hE.mono hW.size)
 clear hE
 refine l_ev hf trivial rfl rfl (ev_assign hf rfl) ?_; intro a hf
 refine wpList_nil ?_
 refine hK2 _ _ ?_; try clear hK2 K2
 refine wp_seq_k ?_; intro K4 hK4
 refine c_cut (fun a w => Fr a 28 [(2, .bool ((((isDimB m.rows) && (isDimB m.cols)) && ((m.cells.length : Int) == (IntKind.i64.wrap (m.rows * m.cols)))) && (!(m.cells.any (fun x => !dOk x)))))] ∧ Below w1.heap.size w1 w) ?_ ?_
 ·have hEc : Below w1.heap.size w1 w1 := Below.refl _ _
  refine wp_region_lit ?_
  refine l_ev hf trivial rfl rfl (ev_fieldB hf rfl fd_141_0 (m := 0) rfl) ?_; intro a hf
  refine l_ev hf trivial rfl rfl (ev_load1 hf rfl t1_3 (hB3.at 0)) ?_; intro a hf
  refine l_eff hf trivial rfl rfl (ef_call (vs := [.int .i64 m.rows]) hf rfl ff_190 (F190 _ m.rows)) ?_; rintro a _ _ ⟨rfl, rfl⟩ hf
  refine l_ev hf trivial rfl rfl (ev_move hf rfl) ?_; intro a hf
  refine g_split hf (t := 6) rfl (fun hg5 => ?_) (fun hg5 => ?_)
  ·refine l_ev hf ⟨_, _, rfl, rfl, hg5⟩ rfl rfl (ev_fieldB hf rfl fd_141_1 (m := 1) rfl) ?_; intro a hf
   refine l_ev hf ⟨_, _, rfl, rfl, hg5⟩ rfl rfl (ev_load1 hf rfl t1_3 (hB3.at 1)) ?_; intro a hf
   refine l_eff hf ⟨_, _, rfl, rfl, hg5⟩ rfl rfl (ef_call (vs := [.int .i64 m.cols]) hf rfl ff_190 (F190 _ m.cols)) ?_; rintro a _ _ ⟨rfl, rfl⟩ hf
   refine l_ev hf trivial rfl rfl (ev_pickT hf rfl hg5 rfl) ?_; intro a hf
   refine l_ev hf trivial rfl rfl (ev_move hf rfl) ?_; intro a hf
   refine g_split hf (t := 11) rfl (fun hg6 => ?_) (fun hg6 => ?_)
   ·refine l_ev hf ⟨_, _, rfl, rfl, hg6⟩ rfl rfl (ev_fieldB hf rfl fd_141_2 (m := 2) rfl) ?_; intro a hf
    refine l_ev hf ⟨_, _, rfl, rfl, hg6⟩ rfl rfl (ev_load1 hf rfl t1_139 (hB3.at 2)) ?_; intro a hf
    refine l_ev hf ⟨_, _, rfl, rfl, hg6⟩ rfl rfl (ev_len hf rfl sl_139) ?_; intro a hf
    refine l_ev hf ⟨_, _, rfl, rfl, hg6⟩ rfl rfl (ev_fieldB hf rfl fd_141_0 (m := 0) rfl) ?_; intro a hf
    refine l_ev hf ⟨_, _, rfl, rfl, hg6⟩ rfl rfl (ev_load1 hf rfl t1_3 (hB3.at 0)) ?_; intro a hf
    refine l_ev hf ⟨_, _, rfl, rfl, hg6⟩ rfl rfl (ev_fieldB hf rfl fd_141_1 (m := 1) rfl) ?_; intro a hf
    refine l_ev hf ⟨_, _, rfl, rfl, hg6⟩ rfl rfl (ev_load1 hf rfl t1_3 (hB3.at 1)) ?_; intro a hf
    refine l_ev hf ⟨_, _, rfl, rfl, hg6⟩ rfl rfl (ev_mul hf rfl rfl) ?_; intro a hf
    refine l_ev hf ⟨_, _, rfl, rfl, hg6⟩ rfl rfl (ev_eql hf rfl rfl) ?_; intro a hf
    refine l_ev hf trivial rfl rfl (ev_pickT hf rfl hg6 rfl) ?_; intro a hf
    refine l_ev hf trivial rfl rfl (ev_move hf rfl) ?_; intro a hf
    refine g_split hf (t := 22) rfl (fun hg7 => ?_) (fun hg7 => ?_)
    ·refine l_ev hf ⟨_, _, rfl, rfl, hg7⟩ rfl rfl (ev_fieldB hf rfl fd_141_2 (m := 2) rfl) ?_; intro a hf
     refine l_ev hf ⟨_, _, rfl, rfl, hg7⟩ rfl rfl (ev_load1 hf rfl t1_139 (hB3.at 2)) ?_; intro a hf
     refine l_eff hf ⟨_, _, rfl, rfl, hg7⟩ rfl rfl (ef_call (vs := [.slice Am m.cells.length cm, .func (.func 192) #[] #[]]) hf rfl ff_191 (F191 _ Am cm m.cells hr_m.top 192 [] ff_192 (fun x => !dOk x) (fun x w' hE' => F192 w' x) hln)) ?_; rintro a _ w2 ⟨rfl, hE⟩ hf
     replace hB3 := hB3.below hE
     replace hr_m := hr_m.below hE
     replace hW := hW.trans (hE.mono hW.size)
     replace hEc := hEc.trans (hE.mono hEc.size)
     clear hE
     refine l_ev hf ⟨_, _, rfl, rfl, hg7⟩ rfl rfl (ev_not hf rfl) ?_; intro a hf
     refine l_ev hf trivial rfl rfl (ev_pickT hf rfl hg7 rfl) ?_; intro a hf
     refine l_ev hf trivial rfl rfl (ev_assign hf rfl) ?_; intro a hf
     refine wpList_nil ?_
     have hEE : Below w1.heap.size w1 w2 := hEc
     exact ⟨hf.sub ⟨look_bool rfl (by first | rfl | simp [hg5, hg6, hg7]), trivial⟩, hEE⟩
    ·refine l_pass hf ⟨_, _, rfl, rfl, hg7⟩ rfl rfl ?_; intro a hf
     refine l_pass hf ⟨_, _, rfl, rfl, hg7⟩ rfl rfl ?_; intro a hf
     refine l_pass hf ⟨_, _, rfl, rfl, hg7⟩ rfl rfl ?_; intro a hf
     refine l_pass hf ⟨_, _, rfl, rfl, hg7⟩ rfl rfl ?_; intro a hf
     refine l_ev hf trivial rfl rfl (ev_pickF hf rfl hg7 rfl) ?_; intro a hf
     refine l_ev hf trivial rfl rfl (ev_assign hf rfl) ?_; intro a hf
     refine wpList_nil ?_
     have hEE : Below w1.heap.size w1 w1 := hEc
     exact ⟨hf.sub ⟨look_bool rfl (by first | rfl | simp [hg5, hg6, hg7]), trivial⟩, hEE⟩
   ·refine l_pass hf ⟨_, _, rfl, rfl, hg6⟩ rfl rfl ?_; intro a hf
    refine l_pass hf ⟨_, _, rfl, rfl, hg6⟩ rfl rfl ?_; intro a hf
    refine l_pass hf ⟨_, _, rfl, rfl, hg6⟩ rfl rfl ?_; intro a hf
    refine l_pass hf ⟨_, _, rfl, rfl, hg6⟩ rfl rfl ?_; intro a hf
    refine l_pass hf ⟨_, _, rfl, rfl, hg6⟩ rfl rfl ?_; intro a hf
    refine l_pass hf ⟨_, _, rfl, rfl, hg6⟩ rfl rfl ?_; intro a hf
    refine l_pass hf ⟨_, _, rfl, rfl, hg6⟩ rfl rfl ?_; intro a hf
    refine l_pass hf ⟨_, _, rfl, rfl, hg6⟩ rfl rfl ?_; intro a hf
    refine l_pass hf ⟨_, _, rfl, rfl, hg6⟩ rfl rfl ?_; intro a hf
    refine l_ev hf trivial rfl rfl (ev_pickF hf rfl hg6 rfl) ?_; intro a hf
    refine l_ev hf trivial rfl rfl (ev_move hf rfl) ?_; intro a hf
    refine l_pass hf ⟨_, _, rfl, rfl, rfl⟩ rfl rfl ?_; intro a hf
    refine l_pass hf ⟨_, _, rfl, rfl, rfl⟩ rfl rfl ?_; intro a hf
    refine l_pass hf ⟨_, _, rfl, rfl, rfl⟩ rfl rfl ?_; intro a hf
    refine l_pass hf ⟨_, _, rfl, rfl, rfl⟩ rfl rfl ?_; intro a hf
    refine l_ev hf trivial rfl rfl (ev_pickF hf rfl rfl rfl) ?_; intro a hf
    refine l_ev hf trivial rfl rfl (ev_assign hf rfl) ?_; intro a hf
    refine wpList_nil ?_
    have hEE : Below w1.heap.size w1 w1 := hEc
    exact ⟨hf.sub ⟨look_bool rfl (by first | rfl | simp [hg5, hg6]), trivial⟩, hEE⟩
  ·refine l_pass hf ⟨_, _, rfl, rfl, hg5⟩ rfl rfl ?_; intro a hf
   refine l_pass hf ⟨_, _, rfl, rfl, hg5⟩ rfl rfl ?_; intro a hf
   refine l_pass hf ⟨_, _, rfl, rfl, hg5⟩ rfl rfl ?_; intro a hf
   refine l_ev hf trivial rfl rfl (ev_pickF hf rfl hg5 rfl) ?_; intro a hf
   refine l_ev hf trivial rfl rfl (ev_move hf rfl) ?_; intro a hf
   refine l_pass hf ⟨_, _, rfl, rfl, rfl⟩ rfl rfl ?_; intro a hf
   refine l_pass hf ⟨_, _, rfl, rfl, rfl⟩ rfl rfl ?_; intro a hf
   refine l_pass hf ⟨_, _, rfl, rfl, rfl⟩ rfl rfl ?_; intro a hf
   refine l_pass hf ⟨_, _, rfl, rfl, rfl⟩ rfl rfl ?_; intro a hf
   refine l_pass hf ⟨_, _, rfl, rfl, rfl⟩ rfl rfl ?_; intro a hf
   refine l_pass hf ⟨_, _, rfl, rfl, rfl⟩ rfl rfl ?_; intro a hf
   refine l_pass hf ⟨_, _, rfl, rfl, rfl⟩ rfl rfl ?_; intro a hf
   refine l_pass hf ⟨_, _, rfl, rfl, rfl⟩ rfl rfl ?_; intro a hf
   refine l_pass hf ⟨_, _, rfl, rfl, rfl⟩ rfl rfl ?_; intro a hf
   refine l_ev hf trivial rfl rfl (ev_pickF hf rfl rfl rfl) ?_; intro a hf
   refine l_ev hf trivial rfl rfl (ev_move hf rfl) ?_; intro a hf
   refine l_pass hf ⟨_, _, rfl, rfl, rfl⟩ rfl rfl ?_; intro a hf
   refine l_pass hf ⟨_, _, rfl, rfl, rfl⟩ rfl rfl ?_; intro a hf
   refine l_pass hf ⟨_, _, rfl, rfl, rfl⟩ rfl rfl ?_; intro a hf
   refine l_pass hf ⟨_, _, rfl, rfl, rfl⟩ rfl rfl ?_; intro a hf
   refine l_ev hf trivial rfl rfl (ev_pickF hf rfl rfl rfl) ?_; intro a hf
   refine l_ev hf trivial rfl rfl (ev_assign hf rfl) ?_; intro a hf
   refine wpList_nil ?_
   have hEE : Below w1.heap.size w1 w1 := hEc
   exact ⟨hf.sub ⟨look_bool rfl (by first | rfl | simp [hg5]), trivial⟩, hEE⟩
 rintro a w3 ⟨hf, hE⟩
 replace hB3 := hB3.below hE
 replace hr_m := hr_m.below hE
 replace hW := hW.trans (hE.mono hW.size)
 clear hE
 refine hK4 _ _ ?_; try clear hK4 K4
 refine wp_ret ?_
 refine c_ret hf (res1 hf rfl rfl) ?_
 exact ⟨by simp [mOk, *], hW⟩
end Go.Proofs.YtfgnmflfiobkmaaGreat
set_option maxRecDepth 4000
namespace Go.Proofs.YtfgnmflfiobkmaaGreat
open Go.RowKit
theorem F196 (w0 : World) (m : Mx) (Am : Option Addr) (cm : Nat) (hm : Rd w0 w0.heap.size 189 encD Am m.cells) (i j : Nat) (hmo : mOk m = true) (hi : (i : Int) < m.rows) (hj : (j : Int) < m.cols) : Ret Tryz.prog 196 [.agg #[.int .i64 m.rows, .int .i64 m.cols, .slice Am m.cells.length cm], .int .i64 (i : Int), .int .i64 (j : Int)] w0 (fun v w => v = dV (m.at i j) ∧ Below w0.heap.size w0 w) := by
 have hml := mOk_len hmo
 have hlt : i * m.cols.toNat + j < m.cells.length := by rw [hml.2.2]; exact grid_lt (by omega) (by omega)
 have hub : m.cells.length ≤ 1024 := by rw [hml.2.2]; exact Nat.le_trans (Nat.mul_le_mul (show m.rows.toNat ≤ 32 by omega) (show m.cols.toNat ≤ 32 by omega)) (by decide)
 have hat0 := Mx.at_get hlt
 have hcc : m.cols = (m.cols.toNat : Int) := by omega
 suffices hgoal : Ret Tryz.prog 196 [.agg #[.int .i64 m.rows, .int .i64 (m.cols.toNat : Int), .slice Am m.cells.length cm], .int .i64 (i : Int), .int .i64 (j : Int)] w0 (fun v w => v = dV (m.at i j) ∧ Below w0.heap.size w0 w) by rw [← hcc] at hgoal; exact hgoal
 refine enter Tryz.func196 rfl 17 rfl rfl ?_
 intro a hf
 have hW : Below w0.heap.size w0 w0 := Below.refl _ _
 refine wp_seq_k ?_; intro K2 hK2
 refine wp_region_lit ?_
 refine l_eff hf trivial rfl rfl (ef_box (zs := [.int .i64 m.rows, .int .i64 (m.cols.toNat : Int), .slice Am m.cells.length cm]) hf rfl rfl) ?_; rintro a _ w1 ⟨b3, rfl, hl3, hE, hB3⟩ hf
 have hlo3 := Nat.le_trans hW.size hl3
 replace hm := hm.below hE
 replace hW := hW.trans (hE.mono hW.size)
 clear hE
 refine l_eff hf trivial rfl rfl (ef_alloc (zs := [.int .i64 0, .int .i64 0, .int .i64 0, .int .i64 0, .int .i64 0]) z_189 rfl) ?_; rintro a _ w2 ⟨b4, rfl, hl4, hE, hB4⟩ hf
 have hlo4 := Nat.le_trans hW.size hl4
 have haw1_4 := hm.away hl4
 replace hB3 := hB3.below hE
 replace hm := hm.below hE
 replace hW := hW.trans (hE.mono hW.size)
 clear hE
 refine wpList_nil ?_
 refine hK2 _ _ ?_; try clear hK2 K2
 refine wp_seq_k ?_; intro K5 hK5
 refine wp_region_lit ?_
 refine l_ev hf trivial rfl rfl (ev_fieldB hf rfl fd_141_2 (m := 2) rfl) ?_; intro a hf
 refine l_ev hf trivial rfl rfl (ev_load1 hf rfl t1_139 (hB3.at 2)) ?_; intro a hf
 refine l_ev hf trivial rfl rfl (ev_move hf rfl) ?_; intro a hf
 refine l_ev hf trivial rfl rfl (ev_fieldB hf rfl fd_141_1 (m := 1) rfl) ?_; intro a hf
 refine l_ev hf trivial rfl rfl (ev_load1 hf rfl t1_3 (hB3.at 1)) ?_; intro a hf
 refine l_ev hf trivial rfl rfl (ev_mulN (m := i) (k := m.cols.toNat) hf rfl rfl (by omega)) ?_; intro a hf
 refine l_ev hf trivial rfl rfl (ev_move hf rfl) ?_; intro a hf
 refine l_ev hf trivial rfl rfl (ev_addx hf rfl rfl (by omega) (by omega)) ?_; intro a hf
 refine l_index (k := (i * m.cols.toNat + j)) (u := (m.at i j)) (enc := encD) (l := m.cells) hf trivial rfl rfl rfl sl_139 sz_189 encD_len hm hat0 (by omega) ?_; intro a p7 hat6 hf
 refine l_ev hf trivial rfl rfl (ev_loadN (l := [.int .i64 ((m.at i j).num.a), .int .i64 ((m.at i j).num.b), .int .i64 ((m.at i j).num.c), .int .i64 ((m.at i j).num.d), .int .i64 ((m.at i j).exp)]) hf rfl tN_189 hat6 rfl) ?_; intro a hf
 refine l_eff0 hf trivial rfl (ef_store (vs := [.int .i64 ((m.at i j).num.a), .int .i64 ((m.at i j).num.b), .int .i64 ((m.at i j).num.c), .int .i64 ((m.at i j).num.d), .int .i64 ((m.at i j).exp)]) (l' := [.int .i64 ((m.at i j).num.a), .int .i64 ((m.at i j).num.b), .int .i64 ((m.at i j).num.c), .int .i64 ((m.at i j).num.d), .int .i64 ((m.at i j).exp)]) hf rfl rfl sz_189 hB4 rfl rfl rfl rfl rfl) ?_; rintro a _ w3 ⟨ho, hb⟩ hf
 have hold := hB4
 replace hB3 := hB3.only ho (Blk.ne hB3 hold rfl)
 replace hm := hm.only ho hlo4
 replace hW := Below.only hW ho hlo4
 clear hold
 have hB4 := hb
 clear hb ho
 refine wpList_nil ?_
 refine hK5 _ _ ?_; try clear hK5 K5
 refine wp_ret ?_
 refine c_ret hf (res1 hf rfl (ResV.cellN (l := [.int .i64 ((m.at i j).num.a), .int .i64 ((m.at i j).num.b), .int .i64 ((m.at i j).num.c), .int .i64 ((m.at i j).num.d), .int .i64 ((m.at i j).exp)]) rfl tN_189 (hB4.at 0) rfl)) ?_
 exact ⟨rfl, hW⟩
theorem F185 (w0 : World) (R C : Int) (k : FuncId) (caps : List Value) (hF : FuncF Tryz.prog k) (f : Nat → Nat → Option Dy) (hcell : ∀ (i j : Nat) w, (i : Int) < R → (j : Int) < C → Below w0.heap.size w0 w → Ret Tryz.prog k ([.int .i64 (i : Int), .int .i64 (j : Int)] ++ caps) w (fun v w' => v = .tuple #[dV ((f i j).getD dZ), .bool (f i j).isSome] ∧ Below w.heap.size w w')) : Ret Tryz.prog 185 [.int .i64 R, .int .i64 C, .func (.func k) #[] caps.toArray] w0 (fun v w => ∃ A c, v = .tuple #[mV A c ((matOf R C f).getD mZ), .bool (matOf R C f).isSome] ∧ Own w w0.heap.size 189 5 encD A c ((matOf R C f).getD mZ).cells ∧ Below w0.heap.size w0 w) := by
 refine enter Tryz.func185 rfl 52 rfl rfl ?_
 intro a hf
 have hW : Below w0.heap.size w0 w0 := Below.refl _ _
 refine wp_seq_k ?_; intro K1 hK1
 refine wp_region_lit ?_
 refine l_eff hf trivial rfl rfl (ef_alloc (zs := [.int .i64 0, .int .i64 0, .slice none 0 0]) z_141 rfl) ?_; rintro a _ w1 ⟨b3, rfl, hl3, hE, hB3⟩ hf
 have hlo3 := Nat.le_trans hW.size hl3
 replace hW := hW.trans (hE.mono hW.size)
 clear hE
 refine l_ev hf trivial rfl rfl (ev_assign hf rfl) ?_; intro a hf
 refine wpList_nil ?_
 refine hK1 _ _ ?_; try clear hK1 K1
 refine wp_seq_k ?_; intro K4 hK4
 refine wp_region_lit ?_
 refine l_ev hf trivial rfl rfl (ev_move hf rfl) ?_; intro a hf
 refine l_ev hf trivial rfl rfl (ev_move hf rfl) ?_; intro a hf
 refine l_ev hf trivial rfl rfl (ev_build (ps := [(0, .int .i64 R), (1, .int .i64 C)]) (cs := [.int .i64 R, .int .i64 C, .slice none 0 0]) hf rfl (fun _ => by first | rfl | kernel_rfl)) ?_; intro a hf
 refine l_eff hf trivial rfl rfl (ef_alloc (zs := [.int .i64 0, .int .i64 0, .slice none 0 0]) z_141 rfl) ?_; rintro a _ w2 ⟨b7, rfl, hl7, hE, hB7⟩ hf
 have hne3_7 : b3 ≠ b7 := by have := hB3.lt; omega
 have hlo7 := Nat.le_trans hW.size hl7
 replace hB3 := hB3.below hE
 replace hW := hW.trans (hE.mono hW.size)
 clear hE
 refine l_eff0 hf trivial rfl (ef_store (vs := [.int .i64 R, .int .i64 C, .slice none 0 0]) (l' := [.int .i64 R, .int .i64 C, .slice none 0 0]) hf rfl rfl sz_141 hB7 rfl rfl rfl rfl rfl) ?_; rintro a _ w3 ⟨ho, hb⟩ hf
 have hold := hB7
 replace hB3 := hB3.only ho (by omega)
 replace hW := Below.only hW ho hlo7
 clear hold
 have hB7 := hb
 clear hb ho
 refine wpList_nil ?_
 refine hK4 _ _ ?_; try clear hK4 K4
 refine wp_seq_k ?_; intro K8 hK8
 refine wp_seq_k ?_; intro K9 hK9
 refine c_cut (fun a w => Fr a 52 [(0, .int .i64 R), (1, .int .i64 C), (2, .func (.func k) #[] caps.toArray), (6, .pointer (some ⟨b3, 0, none⟩)), (8, .pointer (some ⟨b7, 0, none⟩)), (23, .bool ((!(isDimB R)) || (!(isDimB C))))] ∧ w3 = w) ?_ ?_
 ·refine wp_region_lit ?_
  refine l_ev hf trivial rfl rfl (ev_move hf rfl) ?_; intro a hf
  refine l_eff hf trivial rfl rfl (ef_call (vs := [.int .i64 R]) hf rfl ff_190 (F190 _ R)) ?_; rintro a _ _ ⟨rfl, rfl⟩ hf
  refine l_ev hf trivial rfl rfl (ev_not hf rfl) ?_; intro a hf
  refine l_ev hf trivial rfl rfl (ev_move hf rfl) ?_; intro a hf
  refine g_split hf (t := 19) rfl (fun hg10 => ?_) (fun hg10 => ?_)
  ·refine l_pass hf ⟨_, _, rfl, rfl, hg10⟩ rfl rfl ?_; intro a hf
   refine l_pass hf ⟨_, _, rfl, rfl, hg10⟩ rfl rfl ?_; intro a hf
   refine l_pass hf ⟨_, _, rfl, rfl, hg10⟩ rfl rfl ?_; intro a hf
   refine l_ev hf trivial rfl rfl (ev_pickT hf rfl hg10 rfl) ?_; intro a hf
   refine wpList_nil ?_
   exact ⟨hf.sub ⟨rfl, rfl, rfl, rfl, rfl, look_bool rfl (by first | rfl | simp [hg10]), trivial⟩, rfl⟩
  ·refine l_ev hf ⟨_, _, rfl, rfl, hg10⟩ rfl rfl (ev_move hf rfl) ?_; intro a hf
   refine l_eff hf ⟨_, _, rfl, rfl, hg10⟩ rfl rfl (ef_call (vs := [.int .i64 C]) hf rfl ff_190 (F190 _ C)) ?_; rintro a _ _ ⟨rfl, rfl⟩ hf
   refine l_ev hf ⟨_, _, rfl, rfl, hg10⟩ rfl rfl (ev_not hf rfl) ?_; intro a hf
   refine l_ev hf trivial rfl rfl (ev_pickF hf rfl hg10 rfl) ?_; intro a hf
   refine wpList_nil ?_
   exact ⟨hf.sub ⟨rfl, rfl, rfl, rfl, rfl, look_bool rfl (by first | rfl | simp [hg10]), trivial⟩, rfl⟩
 rintro a _ ⟨hf, rfl⟩
 refine hK9 _ _ ?_; try clear hK9 K9
 refine c_if hf rfl (fun hc11 => ?_) (fun hc11 => ?_)
 ·have hc11b := hc11
  have hn := or2_false hc11
  refine wp_seq_k ?_; intro K12 hK12
  refine wp_region_lit ?_
  refine l_ev hf trivial rfl rfl (ev_build (ps := []) (cs := [.int .i64 0, .int .i64 0, .slice none 0 0]) hf rfl (fun _ => by first | rfl | kernel_rfl)) ?_; intro a hf
  refine l_eff0 hf trivial rfl (ef_store (vs := [.int .i64 0, .int .i64 0, .slice none 0 0]) (l' := [.int .i64 0, .int .i64 0, .slice none 0 0]) hf rfl rfl sz_141 hB3 rfl rfl rfl rfl rfl) ?_; rintro a _ w4 ⟨ho, hb⟩ hf
  have hold := hB3
  replace hB7 := hB7.only ho (by omega)
  replace hW := Below.only hW ho hlo3
  clear hold
  have hB3 := hb
  clear hb ho
  refine l_ev hf trivial rfl rfl (ev_assign hf rfl) ?_; intro a hf
  refine wpList_nil ?_
  refine hK12 _ _ ?_; try clear hK12 K12
  refine wp_ret ?_
  refine x_retS ?_
  refine c_ret hf (res2 hf rfl (ResV.cellN (l := [.int .i64 0, .int .i64 0, .slice none 0 0]) rfl tN_141 (hB3.at 0) rfl) rfl) ?_
  have he : matOf R C f = none := by rw [matOf, hn]; rfl
  rw [he]
  exact ⟨none, 0, rfl, (Own.nil _ _ _ _ _), hW⟩
 ·have hc11b := hc11
  have hy := or2_true hc11
  have hy2 := (Bool.and_eq_true _ _ ▸ hy : isDimB R = true ∧ isDimB C = true)
  have hR := isDimB_iff hy2.1
  have hC := isDimB_iff hy2.2
  refine wp_skip ?_
  refine hK8 _ _ ?_; try clear hK8 K8
  refine wp_seq_k ?_; intro K14 hK14
  refine wp_seq_k ?_; intro K15 hK15
  refine wp_region_lit ?_
  refine l_ev hf trivial rfl rfl (ev_move hf rfl) ?_; intro a hf
  refine l_ev hf trivial rfl rfl (ev_move hf rfl) ?_; intro a hf
  refine wpList_nil ?_
  refine hK15 _ _ ?_; try clear hK15 K15
  refine wp_block ?_
  refine c_loop (σ := Nat × (List Dy)) (fun (s : Nat × (List Dy)) (a : Act) (w : World) => match s with | (i, l) => ∃ A16 c16, Fr a 52 [(1, .int .i64 C), (2, .func (.func k) #[] caps.toArray), (6, .pointer (some ⟨b3, 0, none⟩)), (8, .pointer (some ⟨b7, 0, none⟩)), (25, .int .i64 R), (26, .int .i64 (i : Int))] ∧ ((i : Int) ≤ R) ∧ (seqO (gridG f C.toNat) (i * C.toNat) = some l) ∧ Blk w b3 141 [.int .i64 0, .int .i64 0, .slice none 0 0] ∧ Blk w b7 141 [.int .i64 R, .int .i64 C, .slice A16 l.length c16] ∧ Own w w0.heap.size 189 5 encD A16 c16 l ∧ Below w0.heap.size w0 w) (fun (s : Nat × (List Dy)) => match s with | (i, l) => (R - i).toNat) (0, []) ?_ ?_
  · exact ⟨none, 0, hf.sub ⟨rfl, rfl, rfl, rfl, rfl, rfl, trivial⟩, (by omega), (by rw [Nat.zero_mul]; rfl), hB3, hB7, (Own.nil _ _ _ _ _), hW⟩
  rintro ⟨i, l⟩ a w5 ⟨A16, c16, hf, hiR, hl, hB3, hB7, ho16, hW⟩
  refine wp_seq_k ?_; intro K17 hK17
  refine wp_region_lit ?_
  refine l_ev hf trivial rfl rfl (ev_lss hf rfl rfl) ?_; intro a hf
  refine wpList_nil ?_
  refine hK17 _ _ ?_; try clear hK17 K17
  refine wp_seq_k ?_; intro K18 hK18
  refine c_if hf rfl (fun hc19 => ?_) (fun hc19 => ?_)
  ·have hc19b := hc19
   have hc19 := of_decide_eq_true hc19
   have hi1 : (i : Int) < R := hc19
   have hb1 : i * C.toNat ≤ 1024 := Nat.le_trans (Nat.mul_le_mul (show i ≤ 32 by omega) (show C.toNat ≤ 32 by omega)) (by decide)
   refine wp_skip ?_
   refine hK18 _ _ ?_; try clear hK18 K18
   refine wp_seq_k ?_; intro K20 hK20
   refine wp_block ?_
   refine wp_seq_k ?_; intro K21 hK21
   refine wp_region_lit ?_
   refine l_ev hf trivial rfl rfl (ev_move hf rfl) ?_; intro a hf
   refine l_ev hf trivial rfl rfl (ev_assign hf rfl) ?_; intro a hf
   refine wpList_nil ?_
   refine hK21 _ _ ?_; try clear hK21 K21
   refine wp_seq_k ?_; intro K22 hK22
   refine wp_region_lit ?_
   refine l_ev hf trivial rfl rfl (ev_move hf rfl) ?_; intro a hf
   refine l_ev hf trivial rfl rfl (ev_move hf rfl) ?_; intro a hf
   refine wpList_nil ?_
   refine hK22 _ _ ?_; try clear hK22 K22
   refine wp_block ?_
   refine c_loop (σ := Nat × (List Dy)) (fun (s : Nat × (List Dy)) (a : Act) (w : World) => match s with | (j, l2) => ∃ A23 c23, Fr a 52 [(1, .int .i64 C), (2, .func (.func k) #[] caps.toArray), (6, .pointer (some ⟨b3, 0, none⟩)), (8, .pointer (some ⟨b7, 0, none⟩)), (9, .int .i64 (i : Int)), (25, .int .i64 R), (26, .int .i64 (i : Int)), (29, .int .i64 C), (30, .int .i64 (j : Int))] ∧ ((j : Int) ≤ C) ∧ (seqO (gridG f C.toNat) (i * C.toNat + j) = some l2) ∧ Blk w b3 141 [.int .i64 0, .int .i64 0, .slice none 0 0] ∧ Blk w b7 141 [.int .i64 R, .int .i64 C, .slice A23 l2.length c23] ∧ Own w w0.heap.size 189 5 encD A23 c23 l2 ∧ Below w0.heap.size w0 w) (fun (s : Nat × (List Dy)) => match s with | (j, l2) => (C - j).toNat) (0, l) ?_ ?_
   · exact ⟨A16, c16, hf.sub ⟨rfl, rfl, rfl, rfl, rfl, rfl, rfl, rfl, rfl, trivial⟩, (by omega), hl, hB3, hB7, ho16, hW⟩
   rintro ⟨j, l2⟩ a w6 ⟨A23, c23, hf, hjC, hl2, hB3, hB7, ho23, hW⟩
   refine wp_seq_k ?_; intro K24 hK24
   refine wp_region_lit ?_
   refine l_ev hf trivial rfl rfl (ev_lss hf rfl rfl) ?_; intro a hf
   refine wpList_nil ?_
   refine hK24 _ _ ?_; try clear hK24 K24
   refine wp_seq_k ?_; intro K25 hK25
   refine c_if hf rfl (fun hc26 => ?_) (fun hc26 => ?_)
   ·have hc26b := hc26
    have hc26 := of_decide_eq_true hc26
    have hj1 : (j : Int) < C := hc26
    have hlen := seqO_len hl2
    refine wp_skip ?_
    refine hK25 _ _ ?_; try clear hK25 K25
    refine wp_seq_k ?_; intro K27 hK27
    refine wp_block ?_
    refine wp_seq_k ?_; intro K28 hK28
    refine wp_region_lit ?_
    refine l_ev hf trivial rfl rfl (ev_move hf rfl) ?_; intro a hf
    refine l_ev hf trivial rfl rfl (ev_assign hf rfl) ?_; intro a hf
    refine wpList_nil ?_
    refine hK28 _ _ ?_; try clear hK28 K28
    refine wp_seq_k ?_; intro K29 hK29
    refine wp_region_lit ?_
    refine l_ev hf trivial rfl rfl (ev_move hf rfl) ?_; intro a hf
    refine l_ev hf trivial rfl rfl (ev_move hf rfl) ?_; intro a hf
    refine l_ev hf trivial rfl rfl (ev_move hf rfl) ?_; intro a hf
    refine l_eff hf trivial rfl rfl (ef_callv (cs := caps) (vs := [.int .i64 (i : Int), .int .i64 (j : Int)]) hf rfl rfl hF (hcell i j _ hi1 hj1 hW)) ?_; rintro a _ w7 ⟨rfl, hE⟩ hf
    replace hB3 := hB3.below hE
    replace hB7 := hB7.below hE
    replace ho23 := ho23.below hE
    replace hW := hW.trans (hE.mono hW.size)
    clear hE
    refine l_ev hf trivial rfl rfl (ev_move hf rfl) ?_; intro a hf
    refine l_ev hf trivial rfl rfl (ev_extract (vs := [.agg #[.int .i64 (((f i j).getD dZ).num.a), .int .i64 (((f i j).getD dZ).num.b), .int .i64 (((f i j).getD dZ).num.c), .int .i64 (((f i j).getD dZ).num.d), .int .i64 (((f i j).getD dZ).exp)], .bool ((f i j).isSome)]) hf rfl rfl) ?_; intro a hf
    refine l_ev hf trivial rfl rfl (ev_extract (vs := [.agg #[.int .i64 (((f i j).getD dZ).num.a), .int .i64 (((f i j).getD dZ).num.b), .int .i64 (((f i j).getD dZ).num.c), .int .i64 (((f i j).getD dZ).num.d), .int .i64 (((f i j).getD dZ).exp)], .bool ((f i j).isSome)]) hf rfl rfl) ?_; intro a hf
    refine l_eff hf trivial rfl rfl (ef_alloc (zs := [.int .i64 0, .int .i64 0, .int .i64 0, .int .i64 0, .int .i64 0]) z_189 rfl) ?_; rintro a _ w8 ⟨b30, rfl, hl30, hE, hB30⟩ hf
    have hlo30 := Nat.le_trans hW.size hl30
    have haw23_30 := ho23.away hl30
    replace hB3 := hB3.below hE
    replace hB7 := hB7.below hE
    replace ho23 := ho23.below hE
    replace hW := hW.trans (hE.mono hW.size)
    clear hE
    refine l_eff0 hf trivial rfl (ef_store (vs := [.int .i64 (((f i j).getD dZ).num.a), .int .i64 (((f i j).getD dZ).num.b), .int .i64 (((f i j).getD dZ).num.c), .int .i64 (((f i j).getD dZ).num.d), .int .i64 (((f i j).getD dZ).exp)]) (l' := [.int .i64 (((f i j).getD dZ).num.a), .int .i64 (((f i j).getD dZ).num.b), .int .i64 (((f i j).getD dZ).num.c), .int .i64 (((f i j).getD dZ).num.d), .int .i64 (((f i j).getD dZ).exp)]) hf rfl rfl sz_189 hB30 rfl rfl rfl rfl rfl) ?_; rintro a _ w9 ⟨ho, hb⟩ hf
    have hold := hB30
    replace hB3 := hB3.only ho (Blk.ne hB3 hold rfl)
    replace hB7 := hB7.only ho (Blk.ne hB7 hold rfl)
    replace ho23 := ho23.onlyA ho haw23_30
    replace hW := Below.only hW ho hlo30
    clear hold
    have hB30 := hb
    clear hb ho
    refine l_ev hf trivial rfl rfl (ev_assign hf rfl) ?_; intro a hf
    refine wpList_nil ?_
    refine hK29 _ _ ?_; try clear hK29 K29
    refine wp_seq_k ?_; intro K31 hK31
    refine wp_seq_k ?_; intro K32 hK32
    refine wp_region_lit ?_
    refine l_ev hf trivial rfl rfl (ev_move hf rfl) ?_; intro a hf
    refine l_ev hf trivial rfl rfl (ev_not hf rfl) ?_; intro a hf
    refine wpList_nil ?_
    refine hK32 _ _ ?_; try clear hK32 K32
    refine c_if hf rfl (fun hc33 => ?_) (fun hc33 => ?_)
    ·have hc33b := hc33
     have hn : gridG f C.toNat (i * C.toNat + j) = none := by rw [gridG_at (by omega)]; revert hc33; cases f i j <;> simp
     refine wp_seq_k ?_; intro K34 hK34
     refine wp_region_lit ?_
     refine l_ev hf trivial rfl rfl (ev_build (ps := []) (cs := [.int .i64 0, .int .i64 0, .slice none 0 0]) hf rfl (fun _ => by first | rfl | kernel_rfl)) ?_; intro a hf
     refine l_eff0 hf trivial rfl (ef_store (vs := [.int .i64 0, .int .i64 0, .slice none 0 0]) (l' := [.int .i64 0, .int .i64 0, .slice none 0 0]) hf rfl rfl sz_141 hB3 rfl rfl rfl rfl rfl) ?_; rintro a _ w10 ⟨ho, hb⟩ hf
     have hold := hB3
     replace hB7 := hB7.only ho (by omega)
     replace hB30 := hB30.only ho (Blk.ne hB30 hold rfl)
     replace ho23 := ho23.onlyT ho hold rfl
     replace hW := Below.only hW ho hlo3
     clear hold
     have hB3 := hb
     clear hb ho
     refine l_ev hf trivial rfl rfl (ev_assign hf rfl) ?_; intro a hf
     refine wpList_nil ?_
     refine hK34 _ _ ?_; try clear hK34 K34
     refine wp_ret ?_
     refine x_retS ?_
     refine x_retB ?_
     refine x_retS ?_
     refine x_retS ?_
     refine x_retB ?_
     refine x_retB ?_
     refine x_retS ?_
     refine x_retS ?_
     refine x_retB ?_
     refine x_retS ?_
     refine c_ret hf (res2 hf rfl (ResV.cellN (l := [.int .i64 0, .int .i64 0, .slice none 0 0]) rfl tN_141 (hB3.at 0) rfl) rfl) ?_
     have he : matOf R C f = none := by rw [matOf, if_pos hy, seqO_none hn _ (grid_lt (by omega) (by omega))]; rfl
     rw [he]
     exact ⟨none, 0, rfl, (Own.nil _ _ _ _ _), hW⟩
    ·have hc33b := hc33
     have hx : gridG f C.toNat (i * C.toNat + j) = some ((f i j).getD dZ) := by rw [gridG_at (by omega)]; revert hc33; cases f i j <;> simp
     refine wp_skip ?_
     refine hK31 _ _ ?_; try clear hK31 K31
     refine wp_region_lit ?_
     refine l_ev hf trivial rfl rfl (ev_fieldB hf rfl fd_141_2 (m := 2) rfl) ?_; intro a hf
     refine l_ev hf trivial rfl rfl (ev_load1 hf rfl t1_139 (hB7.at 2)) ?_; intro a hf
     refine l_ev hf trivial rfl rfl (ev_loadN (l := [.int .i64 (((f i j).getD dZ).num.a), .int .i64 (((f i j).getD dZ).num.b), .int .i64 (((f i j).getD dZ).num.c), .int .i64 (((f i j).getD dZ).num.d), .int .i64 (((f i j).getD dZ).exp)]) hf rfl tN_189 (hB30.at 0) rfl) ?_; intro a hf
     refine l_eff hf trivial rfl rfl (ef_buildSlice (k := 1) (vs := [.agg #[.int .i64 (((f i j).getD dZ).num.a), .int .i64 (((f i j).getD dZ).num.b), .int .i64 (((f i j).getD dZ).num.c), .int .i64 (((f i j).getD dZ).num.d), .int .i64 (((f i j).getD dZ).exp)]]) (zs := [.int .i64 (((f i j).getD dZ).num.a), .int .i64 (((f i j).getD dZ).num.b), .int .i64 (((f i j).getD dZ).num.c), .int .i64 (((f i j).getD dZ).num.d), .int .i64 (((f i j).getD dZ).exp)]) hf rfl sl_139 inf_189 rfl rfl) ?_; rintro a _ w11 ⟨b36, rfl, hl36, hE, hB36⟩ hf
     have hne30_36 : b30 ≠ b36 := by have := hB30.lt; omega
     have hlo36 := Nat.le_trans hW.size hl36
     have haw23_36 := ho23.away hl36
     replace hB3 := hB3.below hE
     replace hB7 := hB7.below hE
     replace hB30 := hB30.below hE
     replace ho23 := ho23.below hE
     replace hW := hW.trans (hE.mono hW.size)
     clear hE
     refine l_eff hf trivial rfl rfl (ef_append (enc := encD) (l := (l2)) (l2 := ([((f i j).getD dZ)])) (B0 := w0.heap.size) hf rfl rfl sl_139 inf_189 encD_len encD_one ho23 (Rd.of_blk hB36 rfl _ hB36.lt) (by simp only [maxLen]; simp; omega) (by simp; omega) hW.size) ?_; rintro a _ w12 ⟨A38, c38, rfl, ho38, hg, hat⟩ hf
     have hown : Own _ w0.heap.size 189 5 encD _ _ (l2) := ho23
     have haw38_30 := hat _ hB30.lt haw23_30
     have haw38_36 := hat _ hB36.lt haw23_36
     clear hat
     replace hB3 := hB3.appT hown hg rfl
     replace hB7 := hB7.appT hown hg rfl
     replace hB30 := hB30.appA hg haw23_30
     replace hW := Below.app hW hown hg (Nat.le_refl _) hW.size
     clear hown hg
     refine l_ev hf trivial rfl rfl (ev_fieldB hf rfl fd_141_2 (m := 2) rfl) ?_; intro a hf
     refine l_eff0 hf trivial rfl (ef_store (vs := [.slice A38 (l2 ++ ([((f i j).getD dZ)])).length c38]) (l' := [.int .i64 R, .int .i64 C, .slice A38 (l2 ++ ([((f i j).getD dZ)])).length c38]) hf rfl rfl sz_139 hB7 rfl rfl rfl rfl rfl) ?_; rintro a _ w13 ⟨ho, hb⟩ hf
     have hold := hB7
     replace hB3 := hB3.only ho (by omega)
     replace hB30 := hB30.only ho (Blk.ne hB30 hold rfl)
     replace ho38 := ho38.onlyT ho hold rfl
     replace hW := Below.only hW ho hlo7
     clear hold
     have hB7 := hb
     clear hb ho
     refine wpList_nil ?_
     refine x_norm ?_
     refine hK27 _ _ ?_; try clear hK27 K27
     refine wp_region_lit ?_
     refine l_ev hf trivial rfl rfl (ev_addx hf rfl rfl (by omega) (by omega)) ?_; intro a hf
     refine l_ev hf trivial rfl rfl (ev_move hf rfl) ?_; intro a hf
     refine wpList_nil ?_
     refine x_thenN ?_
     exact ⟨(j + 1, l2 ++ [((f i j).getD dZ)]), ⟨A38, c38, hf.sub ⟨rfl, rfl, rfl, rfl, rfl, rfl, rfl, rfl, rfl, trivial⟩, (by omega), (seqO_step hl2 hx), hB3, hB7, ho38, hW⟩, (by first | omega | (dsimp only; omega))⟩
   ·have hc26b := hc26
    have hc26 := of_decide_eq_false hc26
    have hj1 : j = C.toNat := by omega
    refine wp_exit ?_
    refine x_exS ?_
    refine x_exS ?_
    refine x_exit ?_
    refine x_norm ?_
    refine hK20 _ _ ?_; try clear hK20 K20
    refine wp_region_lit ?_
    refine l_ev hf trivial rfl rfl (ev_addx hf rfl rfl (by omega) (by omega)) ?_; intro a hf
    refine l_ev hf trivial rfl rfl (ev_move hf rfl) ?_; intro a hf
    refine wpList_nil ?_
    refine x_thenN ?_
    exact ⟨(i + 1, l2), ⟨A23, c23, hf.sub ⟨rfl, rfl, rfl, rfl, rfl, rfl, trivial⟩, (by omega), (by rw [Nat.add_mul, Nat.one_mul, ← hj1]; rw [← hj1] at hl2; exact hl2), hB3, hB7, ho23, hW⟩, (by first | omega | (dsimp only; omega))⟩
  ·have hc19b := hc19
   have hc19 := of_decide_eq_false hc19
   have hi1 : i = R.toNat := by omega
   refine wp_exit ?_
   refine x_exS ?_
   refine x_exS ?_
   refine x_exit ?_
   refine hK14 _ _ ?_; try clear hK14 K14
   refine wp_seq_k ?_; intro K39 hK39
   refine wp_region_lit ?_
   refine l_ev hf trivial rfl rfl (ev_loadN (l := [.int .i64 R, .int .i64 C, .slice A16 l.length c16]) hf rfl tN_141 (hB7.at 0) rfl) ?_; intro a hf
   refine l_eff0 hf trivial rfl (ef_store (vs := [.int .i64 R, .int .i64 C, .slice A16 l.length c16]) (l' := [.int .i64 R, .int .i64 C, .slice A16 l.length c16]) hf rfl rfl sz_141 hB3 rfl rfl rfl rfl rfl) ?_; rintro a _ w14 ⟨ho, hb⟩ hf
   have hold := hB3
   replace hB7 := hB7.only ho (by omega)
   replace ho16 := ho16.onlyT ho hold rfl
   replace hW := Below.only hW ho hlo3
   clear hold
   have hB3 := hb
   clear hb ho
   refine l_ev hf trivial rfl rfl (ev_assign hf rfl) ?_; intro a hf
   refine wpList_nil ?_
   refine hK39 _ _ ?_; try clear hK39 K39
   refine wp_ret ?_
   refine c_ret hf (res2 hf rfl (ResV.cellN (l := [.int .i64 R, .int .i64 C, .slice A16 l.length c16]) rfl tN_141 (hB3.at 0) rfl) rfl) ?_
   have he : matOf R C f = some ⟨R, C, l⟩ := by rw [matOf, if_pos hy, ← hi1, hl]; rfl
   rw [he]
   exact ⟨A16, c16, rfl, ho16, hW⟩
end Go.Proofs.YtfgnmflfiobkmaaGreat
