/-
  What is proved: for every certificate, the program's CheckCertificate answers as the reference's does and leaves the certificate as it was. Conditions: none.
-/
import Derived.Test.YtfgnmflfiobkmaaGreatQ2
import Derived.Test.YtfgnmflfiobkmaaGreatQ1
import Derived.MapKept
set_option linter.unusedVariables false
set_option linter.unusedSimpArgs false
set_option maxRecDepth 4000
namespace Go.Proofs.YtfgnmflfiobkmaaGreat
open Go.RowKit
theorem F98 (w0 : World) (p : Mx) (Ap : Option Addr) (cp : Nat) (hr_p : Rd w0 w0.heap.size 189 encD Ap p.cells) (q : Mx) (Aq : Option Addr) (cq : Nat) (hr_q : Rd w0 w0.heap.size 189 encD Aq q.cells) (hla : p.cells.length ≤ 2305843009213693951) (hlb : q.cells.length ≤ 2305843009213693951) : Ret Tryz.prog 98 [.agg #[.int .i64 p.rows, .int .i64 p.cols, .slice Ap p.cells.length cp], .agg #[.int .i64 q.rows, .int .i64 q.cols, .slice Aq q.cells.length cq]] w0 (fun v w => ∃ i : Int, v = .tuple #[.int .i64 i, .bool (mOk p && mOk q && eqPh p q), .bool (mOk p && mOk q)] ∧ Below w0.heap.size w0 w) := by
 refine enter Tryz.func98 rfl 36 rfl rfl ?_
 intro a hf
 have hW : Below w0.heap.size w0 w0 := Below.refl _ _
 refine wp_seq_k ?_; intro K3 hK3
 refine wp_region_lit ?_
 refine l_f hf rfl (ef_box (zs := [.int .i64 p.rows, .int .i64 p.cols, .slice Ap p.cells.length cp]) hf rfl rfl) ?_; rintro a _ w1 ⟨b4, rfl, hl4, hE, hB4⟩ hf
 have hlo4 := Nat.le_trans hW.size hl4
 replace hr_p := hr_p.below hE
 replace hr_q := hr_q.below hE
 replace hW := btr hW hE
 clear hE
 refine l_f hf rfl (ef_box (zs := [.int .i64 q.rows, .int .i64 q.cols, .slice Aq q.cells.length cq]) hf rfl rfl) ?_; rintro a _ w2 ⟨b5, rfl, hl5, hE, hB5⟩ hf
 have hne4_5 : b4 ≠ b5 := by have := hB4.lt; omega
 have hlo5 := Nat.le_trans hW.size hl5
 replace hB4 := hB4.below hE
 replace hr_p := hr_p.below hE
 replace hr_q := hr_q.below hE
 replace hW := btr hW hE
 clear hE
 refine l_as hf rfl rfl ?_; intro a hf
 refine l_as hf rfl rfl ?_; intro a hf
 refine l_as hf rfl rfl ?_; intro a hf
 refine wpList_nil ?_
 refine hK3 _ _ ?_; try clear hK3 K3
 refine wp_seq_k ?_; intro K6 hK6
 refine wp_seq_k ?_; intro K7 hK7
 refine c_cut (fun a w => Fr a 36 [(2, .pointer (some ⟨b4, 0, none⟩)), (3, .pointer (some ⟨b5, 0, none⟩)), (17, .bool ((!(mOk p)) || (!(mOk q))))] ∧ Below w2.heap.size w2 w) ?_ ?_
 ·have hEc : Below w2.heap.size w2 w2 := Below.refl _ _
  refine wp_region_lit ?_
  refine l_e hf rfl (ev_loadN (l := [.int .i64 p.rows, .int .i64 p.cols, .slice Ap p.cells.length cp]) hf rfl tN_141 (hB4.at 0) rfl) ?_; intro a hf
  refine l_f hf rfl (ef_call (vs := [.agg #[.int .i64 p.rows, .int .i64 p.cols, .slice Ap p.cells.length cp]]) hf rfl ff_138 (F138 _ p Ap cp hr_p.top hla)) ?_; rintro a _ w3 ⟨rfl, hE⟩ hf
  replace hB4 := hB4.below hE
  replace hB5 := hB5.below hE
  replace hr_p := hr_p.below hE
  replace hr_q := hr_q.below hE
  replace hW := btr hW hE
  replace hEc := btr hEc hE
  clear hE
  refine l_e hf rfl (ev_not hf rfl) ?_; intro a hf
  refine l_mv hf rfl rfl ?_; intro a hf
  refine g_split hf (t := 13) rfl (fun hg8 => ?_) (fun hg8 => ?_)
  ·refine l_pass hf ⟨_, _, rfl, rfl, hg8⟩ rfl rfl ?_; intro a hf
   refine l_pass hf ⟨_, _, rfl, rfl, hg8⟩ rfl rfl ?_; intro a hf
   refine l_pass hf ⟨_, _, rfl, rfl, hg8⟩ rfl rfl ?_; intro a hf
   refine l_e hf rfl (ev_pickT hf rfl hg8 rfl) ?_; intro a hf
   refine wpList_nil ?_
   have hEE : Below w2.heap.size w2 w3 := hEc
   exact ⟨hf.sub ⟨rfl, rfl, look_bool rfl (by first | rfl | (simp only [hg8, Bool.true_and, Bool.false_and, Bool.true_or, Bool.false_or]; done) | simp [hg8]), trivial⟩, hEE⟩
  ·refine l_ev hf ⟨_, _, rfl, rfl, hg8⟩ rfl rfl (ev_loadN (l := [.int .i64 q.rows, .int .i64 q.cols, .slice Aq q.cells.length cq]) hf rfl tN_141 (hB5.at 0) rfl) ?_; intro a hf
   refine l_eff hf ⟨_, _, rfl, rfl, hg8⟩ rfl rfl (ef_call (vs := [.agg #[.int .i64 q.rows, .int .i64 q.cols, .slice Aq q.cells.length cq]]) hf rfl ff_138 (F138 _ q Aq cq hr_q.top hlb)) ?_; rintro a _ w4 ⟨rfl, hE⟩ hf
   replace hB4 := hB4.below hE
   replace hB5 := hB5.below hE
   replace hr_p := hr_p.below hE
   replace hr_q := hr_q.below hE
   replace hW := btr hW hE
   replace hEc := btr hEc hE
   clear hE
   refine l_ev hf ⟨_, _, rfl, rfl, hg8⟩ rfl rfl (ev_not hf rfl) ?_; intro a hf
   refine l_e hf rfl (ev_pickF hf rfl hg8 rfl) ?_; intro a hf
   refine wpList_nil ?_
   have hEE : Below w2.heap.size w2 w4 := hEc
   exact ⟨hf.sub ⟨rfl, rfl, look_bool rfl (by first | rfl | (simp only [hg8, Bool.true_and, Bool.false_and, Bool.true_or, Bool.false_or]; done) | simp [hg8]), trivial⟩, hEE⟩
 rintro a w5 ⟨hf, hE⟩
 replace hB4 := hB4.below hE
 replace hB5 := hB5.below hE
 replace hr_p := hr_p.below hE
 replace hr_q := hr_q.below hE
 replace hW := btr hW hE
 clear hE
 refine hK7 _ _ ?_; try clear hK7 K7
 refine c_if hf rfl (fun hc9 => ?_) (fun hc9 => ?_)
 ·have hc9b := hc9
  have hn := or2_false hc9
  refine wp_seq_k ?_; intro K10 hK10
  refine wp_region_lit ?_
  refine l_as hf rfl rfl ?_; intro a hf
  refine l_as hf rfl rfl ?_; intro a hf
  refine l_as hf rfl rfl ?_; intro a hf
  refine wpList_nil ?_
  refine hK10 _ _ ?_; try clear hK10 K10
  refine wp_ret ?_
  refine x_retS ?_
  refine c_ret hf (res3 hf rfl rfl rfl rfl) ?_
  exact ⟨_, by rw [hn]; rfl, hW⟩
 ·have hc9b := hc9
  have hy := or2_true hc9
  refine wp_skip ?_
  refine hK6 _ _ ?_; try clear hK6 K6
  refine wp_seq_k ?_; intro K11 hK11
  refine wp_seq_k ?_; intro K12 hK12
  refine wp_region_lit ?_
  refine l_mv hf rfl rfl ?_; intro a hf
  refine wpList_nil ?_
  refine hK12 _ _ ?_; try clear hK12 K12
  refine wp_block ?_
  refine c_loop (σ := Nat) (fun (k : Nat) (a : Act) (w : World) => Fr a 36 [(2, .pointer (some ⟨b4, 0, none⟩)), (3, .pointer (some ⟨b5, 0, none⟩)), (18, .int .i64 (k : Int))] ∧ (k ≤ 8) ∧ (∀ j < k, eqPhT p q j = false) ∧ Blk w b4 141 [.int .i64 p.rows, .int .i64 p.cols, .slice Ap p.cells.length cp] ∧ Blk w b5 141 [.int .i64 q.rows, .int .i64 q.cols, .slice Aq q.cells.length cq] ∧ Rd w w0.heap.size 189 encD Ap p.cells ∧ Rd w w0.heap.size 189 encD Aq q.cells ∧ Below w0.heap.size w0 w) (fun (k : Nat) => 8 - k) 0 ?_ ?_
  · exact ⟨hf.sub ⟨rfl, rfl, rfl, trivial⟩, (by omega), (fun j hj => by omega), hB4, hB5, hr_p, hr_q, hW⟩
  rintro k a w6 ⟨hf, hk, hall, hB4, hB5, hr_p, hr_q, hW⟩
  refine wp_seq_k ?_; intro K13 hK13
  refine wp_region_lit ?_
  refine l_e hf rfl (ev_lss hf rfl rfl) ?_; intro a hf
  refine wpList_nil ?_
  refine hK13 _ _ ?_; try clear hK13 K13
  refine wp_seq_k ?_; intro K14 hK14
  refine c_if hf rfl (fun hc15 => ?_) (fun hc15 => ?_)
  ·have hc15b := hc15
   have hc15 := of_decide_eq_true hc15
   have hk8 : (k : Int) < 8 := hc15
   refine wp_skip ?_
   refine hK14 _ _ ?_; try clear hK14 K14
   refine wp_seq_k ?_; intro K16 hK16
   refine wp_block ?_
   refine wp_seq_k ?_; intro K17 hK17
   refine wp_region_lit ?_
   refine l_mv hf rfl rfl ?_; intro a hf
   refine l_as hf rfl rfl ?_; intro a hf
   refine wpList_nil ?_
   refine hK17 _ _ ?_; try clear hK17 K17
   refine wp_seq_k ?_; intro K18 hK18
   refine c_cut (fun a w => ∃ b21 A19 c19, Fr a 36 [(2, .pointer (some ⟨b4, 0, none⟩)), (3, .pointer (some ⟨b5, 0, none⟩)), (7, .int .i64 (k : Int)), (8, .pointer (some ⟨b21, 0, none⟩)), (9, .bool ((scaleI q (dPow (k : Int))).isSome)), (18, .int .i64 (k : Int))] ∧ w0.heap.size ≤ b21 ∧ Blk w b21 141 [.int .i64 (((scaleI q (dPow (k : Int))).getD mZ).rows), .int .i64 (((scaleI q (dPow (k : Int))).getD mZ).cols), .slice A19 (((scaleI q (dPow (k : Int))).getD mZ).cells).length c19] ∧ b4 ≠ b21 ∧ b5 ≠ b21 ∧ Own w w0.heap.size 189 5 encD A19 c19 (((scaleI q (dPow (k : Int))).getD mZ).cells) ∧ Below w6.heap.size w6 w) ?_ ?_
   ·have hEc : Below w6.heap.size w6 w6 := Below.refl _ _
    refine wp_draw none (fun j => [8].contains j) mixed ?_
    intro w7 hE
    replace hB4 := hB4.below hE
    replace hB5 := hB5.below hE
    replace hr_p := hr_p.below hE
    replace hr_q := hr_q.below hE
    replace hW := btr hW hE
    replace hEc := btr hEc hE
    clear hE
    refine s_e 0 rfl (by kernel_rfl) (by kernel_rfl) hf rfl (ev_loadN (l := [.int .i64 q.rows, .int .i64 q.cols, .slice Aq q.cells.length cq]) hf rfl tN_141 (hB5.at 0) rfl) ?_; intro a hf
    refine s_e0 1 rfl (by kernel_rfl) hf rfl (fun _ => ev_move hf rfl) ?_; intro a hf
    refine s_two 2 7 (by kernel_rfl) ?_ ?_
    ·refine p_eff rfl hf trivial rfl rfl (Ef.mono (ef_call (vs := [.int .i64 (k : Int)]) hf rfl ff_140 (F140 _ (k : Int) (inR_iff.2 ⟨by omega, by omega⟩))) (fun _ _ h => ⟨fun _ => by obtain ⟨rfl, hE⟩ := h; exact hE, h⟩)) ?_; rintro a _ w8 ⟨rfl, hE⟩ hf
     replace hB4 := hB4.below hE
     replace hB5 := hB5.below hE
     replace hr_p := hr_p.below hE
     replace hr_q := hr_q.below hE
     replace hW := btr hW hE
     replace hEc := btr hEc hE
     clear hE
     refine s_two 3 7 (by kernel_rfl) ?_ ?_
     ·refine p_eff rfl hf trivial rfl rfl (Ef.mono (ef_call (vs := [.agg #[.int .i64 q.rows, .int .i64 q.cols, .slice Aq q.cells.length cq], .agg #[.int .i64 ((dPow (k : Int)).num.a), .int .i64 ((dPow (k : Int)).num.b), .int .i64 ((dPow (k : Int)).num.c), .int .i64 ((dPow (k : Int)).num.d), .int .i64 ((dPow (k : Int)).exp)]]) hf rfl ff_139 (F139 _ q Aq cq hr_q.top (dPow (k : Int)) hlb)) (fun _ _ h => ⟨fun _ => by obtain ⟨A19, c19, rfl, ho19, hE⟩ := h; exact hE, h⟩)) ?_; rintro a _ w9 ⟨A19, c19, rfl, ho19, hE⟩ hf
      replace ho19 := ho19.lower hW.size
      replace hB4 := hB4.below hE
      replace hB5 := hB5.below hE
      replace hr_p := hr_p.below hE
      replace hr_q := hr_q.below hE
      replace hW := btr hW hE
      replace hEc := btr hEc hE
      clear hE
      refine s_e0 4 rfl (by kernel_rfl) hf rfl (fun _ => ev_move hf rfl) ?_; intro a hf
      refine s_e0 5 rfl (by kernel_rfl) hf rfl (fun _ => ev_extract (vs := [.agg #[.int .i64 (((scaleI q (dPow (k : Int))).getD mZ).rows), .int .i64 (((scaleI q (dPow (k : Int))).getD mZ).cols), .slice A19 (((scaleI q (dPow (k : Int))).getD mZ).cells).length c19], .bool ((scaleI q (dPow (k : Int))).isSome)]) hf rfl rfl) ?_; intro a hf
      refine s_e0 6 rfl (by kernel_rfl) hf rfl (fun _ => ev_extract (vs := [.agg #[.int .i64 (((scaleI q (dPow (k : Int))).getD mZ).rows), .int .i64 (((scaleI q (dPow (k : Int))).getD mZ).cols), .slice A19 (((scaleI q (dPow (k : Int))).getD mZ).cells).length c19], .bool ((scaleI q (dPow (k : Int))).isSome)]) hf rfl rfl) ?_; intro a hf
      refine s_one 7 (by kernel_rfl) ?_
      refine p_eff rfl hf trivial rfl rfl (Ef.mono (ef_alloc (zs := [.int .i64 0, .int .i64 0, .slice none 0 0]) z_141 rfl) (fun _ _ h => ⟨fun _ => by obtain ⟨_, _, _, hE, _⟩ := h; exact hE, h⟩)) ?_; rintro a _ w10 ⟨b21, rfl, hl21, hE, hB21⟩ hf
      have hne4_21 : b4 ≠ b21 := by have := hB4.lt; omega
      have hne5_21 : b5 ≠ b21 := by have := hB5.lt; omega
      have hlo21 := Nat.le_trans hW.size hl21
      have hlc21 := Nat.le_trans hEc.size hl21
      replace hB4 := hB4.below hE
      replace hB5 := hB5.below hE
      replace hr_p := hr_p.below hE
      replace hr_q := hr_q.below hE
      replace ho19 := ho19.below hE
      replace hW := btr hW hE
      replace hEc := btr hEc hE
      clear hE
      refine s_one 8 (by kernel_rfl) ?_
      refine p_eff0 rfl hf trivial rfl (Ef.mono (ef_store (vs := [.int .i64 (((scaleI q (dPow (k : Int))).getD mZ).rows), .int .i64 (((scaleI q (dPow (k : Int))).getD mZ).cols), .slice A19 (((scaleI q (dPow (k : Int))).getD mZ).cells).length c19]) (l' := [.int .i64 (((scaleI q (dPow (k : Int))).getD mZ).rows), .int .i64 (((scaleI q (dPow (k : Int))).getD mZ).cols), .slice A19 (((scaleI q (dPow (k : Int))).getD mZ).cells).length c19]) hf rfl rfl sz_141 hB21 rfl rfl rfl rfl rfl) (fun _ _ h => ⟨fun h0 => absurd h0 (by decide), h⟩)) ?_; rintro a _ w11 ⟨ho, hb⟩ hf
      have hold := hB21
      replace hB4 := hB4.only ho (by omega)
      replace hB5 := hB5.only ho (by omega)
      replace hr_p := hr_p.onlyT ho hold rfl
      replace hr_q := hr_q.onlyT ho hold rfl
      replace ho19 := ho19.onlyT ho hold rfl
      replace hEc := Below.only hEc ho hlc21
      replace hW := Below.only hW ho hlo21
      clear hold
      have hB21 := hb
      clear hb ho
      refine s_e0 9 rfl (by kernel_rfl) hf rfl (fun _ => ev_assign hf rfl) ?_; intro a hf
      refine s_done (by kernel_rfl) ?_
      have hEE : Below w6.heap.size w6 w11 := hEc
      exact ⟨b21, A19, c19, hf.sub ⟨rfl, rfl, rfl, rfl, rfl, rfl, trivial⟩, hlo21, hB21, hne4_21, hne5_21, ho19, hEE⟩
     ·refine p_eff rfl hf trivial rfl rfl (Ef.mono (ef_alloc (zs := [.int .i64 0, .int .i64 0, .slice none 0 0]) z_141 rfl) (fun _ _ h => ⟨fun _ => by obtain ⟨_, _, _, hE, _⟩ := h; exact hE, h⟩)) ?_; rintro a _ w12 ⟨b23, rfl, hl23, hE, hB23⟩ hf
      have hne4_23 : b4 ≠ b23 := by have := hB4.lt; omega
      have hne5_23 : b5 ≠ b23 := by have := hB5.lt; omega
      have hlo23 := Nat.le_trans hW.size hl23
      have hlc23 := Nat.le_trans hEc.size hl23
      replace hB4 := hB4.below hE
      replace hB5 := hB5.below hE
      replace hr_p := hr_p.below hE
      replace hr_q := hr_q.below hE
      replace hW := btr hW hE
      replace hEc := btr hEc hE
      clear hE
      refine s_one 3 (by kernel_rfl) ?_
      refine p_eff rfl hf trivial rfl rfl (Ef.mono (ef_call (vs := [.agg #[.int .i64 q.rows, .int .i64 q.cols, .slice Aq q.cells.length cq], .agg #[.int .i64 ((dPow (k : Int)).num.a), .int .i64 ((dPow (k : Int)).num.b), .int .i64 ((dPow (k : Int)).num.c), .int .i64 ((dPow (k : Int)).num.d), .int .i64 ((dPow (k : Int)).exp)]]) hf rfl ff_139 (F139 _ q Aq cq hr_q.top (dPow (k : Int)) hlb)) (fun _ _ h => ⟨fun _ => by obtain ⟨A24, c24, rfl, ho24, hE⟩ := h; exact hE, h⟩)) ?_; rintro a _ w13 ⟨A24, c24, rfl, ho24, hE⟩ hf
      replace ho24 := ho24.lower hW.size
      replace hB4 := hB4.below hE
      replace hB5 := hB5.below hE
      replace hB23 := hB23.below hE
      replace hr_p := hr_p.below hE
      replace hr_q := hr_q.below hE
      replace hW := btr hW hE
      replace hEc := btr hEc hE
      clear hE
      refine s_e0 4 rfl (by kernel_rfl) hf rfl (fun _ => ev_move hf rfl) ?_; intro a hf
      refine s_e0 5 rfl (by kernel_rfl) hf rfl (fun _ => ev_extract (vs := [.agg #[.int .i64 (((scaleI q (dPow (k : Int))).getD mZ).rows), .int .i64 (((scaleI q (dPow (k : Int))).getD mZ).cols), .slice A24 (((scaleI q (dPow (k : Int))).getD mZ).cells).length c24], .bool ((scaleI q (dPow (k : Int))).isSome)]) hf rfl rfl) ?_; intro a hf
      refine s_e0 6 rfl (by kernel_rfl) hf rfl (fun _ => ev_extract (vs := [.agg #[.int .i64 (((scaleI q (dPow (k : Int))).getD mZ).rows), .int .i64 (((scaleI q (dPow (k : Int))).getD mZ).cols), .slice A24 (((scaleI q (dPow (k : Int))).getD mZ).cells).length c24], .bool ((scaleI q (dPow (k : Int))).isSome)]) hf rfl rfl) ?_; intro a hf
      refine s_one 8 (by kernel_rfl) ?_
      refine p_eff0 rfl hf trivial rfl (Ef.mono (ef_store (vs := [.int .i64 (((scaleI q (dPow (k : Int))).getD mZ).rows), .int .i64 (((scaleI q (dPow (k : Int))).getD mZ).cols), .slice A24 (((scaleI q (dPow (k : Int))).getD mZ).cells).length c24]) (l' := [.int .i64 (((scaleI q (dPow (k : Int))).getD mZ).rows), .int .i64 (((scaleI q (dPow (k : Int))).getD mZ).cols), .slice A24 (((scaleI q (dPow (k : Int))).getD mZ).cells).length c24]) hf rfl rfl sz_141 hB23 rfl rfl rfl rfl rfl) (fun _ _ h => ⟨fun h0 => absurd h0 (by decide), h⟩)) ?_; rintro a _ w14 ⟨ho, hb⟩ hf
      have hold := hB23
      replace hB4 := hB4.only ho (by omega)
      replace hB5 := hB5.only ho (by omega)
      replace hr_p := hr_p.onlyT ho hold rfl
      replace hr_q := hr_q.onlyT ho hold rfl
      replace ho24 := ho24.onlyT ho hold rfl
      replace hEc := Below.only hEc ho hlc23
      replace hW := Below.only hW ho hlo23
      clear hold
      have hB23 := hb
      clear hb ho
      refine s_e0 9 rfl (by kernel_rfl) hf rfl (fun _ => ev_assign hf rfl) ?_; intro a hf
      refine s_done (by kernel_rfl) ?_
      have hEE : Below w6.heap.size w6 w14 := hEc
      exact ⟨b23, A24, c24, hf.sub ⟨rfl, rfl, rfl, (by first | rfl | (simp [look, hc9b, hc15b])), rfl, rfl, trivial⟩, hlo23, hB23, hne4_23, hne5_23, ho24, hEE⟩
    ·refine p_eff rfl hf trivial rfl rfl (Ef.mono (ef_alloc (zs := [.int .i64 0, .int .i64 0, .slice none 0 0]) z_141 rfl) (fun _ _ h => ⟨fun _ => by obtain ⟨_, _, _, hE, _⟩ := h; exact hE, h⟩)) ?_; rintro a _ w15 ⟨b26, rfl, hl26, hE, hB26⟩ hf
     have hne4_26 : b4 ≠ b26 := by have := hB4.lt; omega
     have hne5_26 : b5 ≠ b26 := by have := hB5.lt; omega
     have hlo26 := Nat.le_trans hW.size hl26
     have hlc26 := Nat.le_trans hEc.size hl26
     replace hB4 := hB4.below hE
     replace hB5 := hB5.below hE
     replace hr_p := hr_p.below hE
     replace hr_q := hr_q.below hE
     replace hW := btr hW hE
     replace hEc := btr hEc hE
     clear hE
     refine s_one 2 (by kernel_rfl) ?_
     refine p_eff rfl hf trivial rfl rfl (Ef.mono (ef_call (vs := [.int .i64 (k : Int)]) hf rfl ff_140 (F140 _ (k : Int) (inR_iff.2 ⟨by omega, by omega⟩))) (fun _ _ h => ⟨fun _ => by obtain ⟨rfl, hE⟩ := h; exact hE, h⟩)) ?_; rintro a _ w16 ⟨rfl, hE⟩ hf
     replace hB4 := hB4.below hE
     replace hB5 := hB5.below hE
     replace hB26 := hB26.below hE
     replace hr_p := hr_p.below hE
     replace hr_q := hr_q.below hE
     replace hW := btr hW hE
     replace hEc := btr hEc hE
     clear hE
     refine s_one 3 (by kernel_rfl) ?_
     refine p_eff rfl hf trivial rfl rfl (Ef.mono (ef_call (vs := [.agg #[.int .i64 q.rows, .int .i64 q.cols, .slice Aq q.cells.length cq], .agg #[.int .i64 ((dPow (k : Int)).num.a), .int .i64 ((dPow (k : Int)).num.b), .int .i64 ((dPow (k : Int)).num.c), .int .i64 ((dPow (k : Int)).num.d), .int .i64 ((dPow (k : Int)).exp)]]) hf rfl ff_139 (F139 _ q Aq cq hr_q.top (dPow (k : Int)) hlb)) (fun _ _ h => ⟨fun _ => by obtain ⟨A27, c27, rfl, ho27, hE⟩ := h; exact hE, h⟩)) ?_; rintro a _ w17 ⟨A27, c27, rfl, ho27, hE⟩ hf
     replace ho27 := ho27.lower hW.size
     replace hB4 := hB4.below hE
     replace hB5 := hB5.below hE
     replace hB26 := hB26.below hE
     replace hr_p := hr_p.below hE
     replace hr_q := hr_q.below hE
     replace hW := btr hW hE
     replace hEc := btr hEc hE
     clear hE
     refine s_e0 4 rfl (by kernel_rfl) hf rfl (fun _ => ev_move hf rfl) ?_; intro a hf
     refine s_e0 5 rfl (by kernel_rfl) hf rfl (fun _ => ev_extract (vs := [.agg #[.int .i64 (((scaleI q (dPow (k : Int))).getD mZ).rows), .int .i64 (((scaleI q (dPow (k : Int))).getD mZ).cols), .slice A27 (((scaleI q (dPow (k : Int))).getD mZ).cells).length c27], .bool ((scaleI q (dPow (k : Int))).isSome)]) hf rfl rfl) ?_; intro a hf
     refine s_e0 6 rfl (by kernel_rfl) hf rfl (fun _ => ev_extract (vs := [.agg #[.int .i64 (((scaleI q (dPow (k : Int))).getD mZ).rows), .int .i64 (((scaleI q (dPow (k : Int))).getD mZ).cols), .slice A27 (((scaleI q (dPow (k : Int))).getD mZ).cells).length c27], .bool ((scaleI q (dPow (k : Int))).isSome)]) hf rfl rfl) ?_; intro a hf
     refine s_one 8 (by kernel_rfl) ?_
     refine p_eff0 rfl hf trivial rfl (Ef.mono (ef_store (vs := [.int .i64 (((scaleI q (dPow (k : Int))).getD mZ).rows), .int .i64 (((scaleI q (dPow (k : Int))).getD mZ).cols), .slice A27 (((scaleI q (dPow (k : Int))).getD mZ).cells).length c27]) (l' := [.int .i64 (((scaleI q (dPow (k : Int))).getD mZ).rows), .int .i64 (((scaleI q (dPow (k : Int))).getD mZ).cols), .slice A27 (((scaleI q (dPow (k : Int))).getD mZ).cells).length c27]) hf rfl rfl sz_141 hB26 rfl rfl rfl rfl rfl) (fun _ _ h => ⟨fun h0 => absurd h0 (by decide), h⟩)) ?_; rintro a _ w18 ⟨ho, hb⟩ hf
     have hold := hB26
     replace hB4 := hB4.only ho (by omega)
     replace hB5 := hB5.only ho (by omega)
     replace hr_p := hr_p.onlyT ho hold rfl
     replace hr_q := hr_q.onlyT ho hold rfl
     replace ho27 := ho27.onlyT ho hold rfl
     replace hEc := Below.only hEc ho hlc26
     replace hW := Below.only hW ho hlo26
     clear hold
     have hB26 := hb
     clear hb ho
     refine s_e0 9 rfl (by kernel_rfl) hf rfl (fun _ => ev_assign hf rfl) ?_; intro a hf
     refine s_done (by kernel_rfl) ?_
     have hEE : Below w6.heap.size w6 w18 := hEc
     exact ⟨b26, A27, c27, hf.sub ⟨rfl, rfl, rfl, (by first | rfl | (simp [look, hc9b, hc15b])), rfl, rfl, trivial⟩, hlo26, hB26, hne4_26, hne5_26, ho27, hEE⟩
   rintro a w19 ⟨b21, A19, c19, hf, hlo21, hB21, hne4_21, hne5_21, ho19, hE⟩
   replace hB4 := hB4.below hE
   replace hB5 := hB5.below hE
   replace hr_p := hr_p.below hE
   replace hr_q := hr_q.below hE
   replace hW := btr hW hE
   clear hE
   refine hK18 _ _ ?_; try clear hK18 K18
   refine wp_seq_k ?_; intro K28 hK28
   refine c_cut (fun a w => Fr a 36 [(2, .pointer (some ⟨b4, 0, none⟩)), (3, .pointer (some ⟨b5, 0, none⟩)), (7, .int .i64 (k : Int)), (18, .int .i64 (k : Int)), (33, .bool (((scaleI q (dPow (k : Int))).isSome) && (decide (p.rows = ((scaleI q (dPow (k : Int))).getD mZ).rows) && decide (p.cols = ((scaleI q (dPow (k : Int))).getD mZ).cols) && decide (p.cells = ((scaleI q (dPow (k : Int))).getD mZ).cells))))] ∧ Below w19.heap.size w19 w) ?_ ?_
   ·have hEc : Below w19.heap.size w19 w19 := Below.refl _ _
    refine wp_region_lit ?_
    refine l_mv hf rfl rfl ?_; intro a hf
    refine l_mv hf rfl rfl ?_; intro a hf
    refine g_split hf (t := 29) rfl (fun hg29 => ?_) (fun hg29 => ?_)
    ·refine l_ev hf ⟨_, _, rfl, rfl, hg29⟩ rfl rfl (ev_loadN (l := [.int .i64 p.rows, .int .i64 p.cols, .slice Ap p.cells.length cp]) hf rfl tN_141 (hB4.at 0) rfl) ?_; intro a hf
     refine l_ev hf ⟨_, _, rfl, rfl, hg29⟩ rfl rfl (ev_loadN (l := [.int .i64 (((scaleI q (dPow (k : Int))).getD mZ).rows), .int .i64 (((scaleI q (dPow (k : Int))).getD mZ).cols), .slice A19 (((scaleI q (dPow (k : Int))).getD mZ).cells).length c19]) hf rfl tN_141 (hB21.at 0) rfl) ?_; intro a hf
     refine l_eff hf ⟨_, _, rfl, rfl, hg29⟩ rfl rfl (ef_call (vs := [.agg #[.int .i64 p.rows, .int .i64 p.cols, .slice Ap p.cells.length cp], .agg #[.int .i64 (((scaleI q (dPow (k : Int))).getD mZ).rows), .int .i64 (((scaleI q (dPow (k : Int))).getD mZ).cols), .slice A19 (((scaleI q (dPow (k : Int))).getD mZ).cells).length c19]]) hf rfl ff_141 (F141 _ p Ap cp hr_p.top ((scaleI q (dPow (k : Int))).getD mZ) A19 c19 ho19.rd.top hla)) ?_; rintro a _ w20 ⟨rfl, hE⟩ hf
     replace hB4 := hB4.below hE
     replace hB5 := hB5.below hE
     replace hB21 := hB21.below hE
     replace hr_p := hr_p.below hE
     replace hr_q := hr_q.below hE
     replace ho19 := ho19.below hE
     replace hW := btr hW hE
     replace hEc := btr hEc hE
     clear hE
     refine l_e hf rfl (ev_pickT hf rfl hg29 rfl) ?_; intro a hf
     refine wpList_nil ?_
     have hEE : Below w19.heap.size w19 w20 := hEc
     exact ⟨hf.sub ⟨rfl, rfl, rfl, rfl, look_bool rfl (by first | rfl | (simp only [hc9b, hc15b, hg29, Bool.true_and, Bool.false_and, Bool.true_or, Bool.false_or]; done) | simp [hc9b, hc15b, hg29]), trivial⟩, hEE⟩
    ·refine l_pass hf ⟨_, _, rfl, rfl, hg29⟩ rfl rfl ?_; intro a hf
     refine l_pass hf ⟨_, _, rfl, rfl, hg29⟩ rfl rfl ?_; intro a hf
     refine l_pass hf ⟨_, _, rfl, rfl, hg29⟩ rfl rfl ?_; intro a hf
     refine l_e hf rfl (ev_pickF hf rfl hg29 rfl) ?_; intro a hf
     refine wpList_nil ?_
     have hEE : Below w19.heap.size w19 w19 := hEc
     exact ⟨hf.sub ⟨rfl, rfl, rfl, rfl, look_bool rfl (by first | rfl | (simp only [hc9b, hc15b, hg29, Bool.true_and, Bool.false_and, Bool.true_or, Bool.false_or]; done) | simp [hc9b, hc15b, hg29]), trivial⟩, hEE⟩
   rintro a w21 ⟨hf, hE⟩
   replace hB4 := hB4.below hE
   replace hB5 := hB5.below hE
   replace hB21 := hB21.below hE
   replace hr_p := hr_p.below hE
   replace hr_q := hr_q.below hE
   replace ho19 := ho19.below hE
   replace hW := btr hW hE
   clear hE
   refine hK28 _ _ ?_; try clear hK28 K28
   refine c_if hf rfl (fun hc30 => ?_) (fun hc30 => ?_)
   ·have hc30b := hc30
    have hT : eqPhT p q k = true := hc30
    refine wp_seq_k ?_; intro K31 hK31
    refine wp_region_lit ?_
    refine l_mv hf rfl rfl ?_; intro a hf
    refine l_as hf rfl rfl ?_; intro a hf
    refine l_as hf rfl rfl ?_; intro a hf
    refine l_as hf rfl rfl ?_; intro a hf
    refine wpList_nil ?_
    refine hK31 _ _ ?_; try clear hK31 K31
    refine wp_ret ?_
    refine x_retB ?_
    refine x_retS ?_
    refine x_retS ?_
    refine x_retB ?_
    refine x_retS ?_
    refine c_ret hf (res3 hf rfl rfl rfl rfl) ?_
    exact ⟨_, by rw [hy, Bool.true_and, eqPh, range_any (by omega) hT], hW⟩
   ·have hc30b := hc30
    have hT : eqPhT p q k = false := hc30
    refine wp_skip ?_
    refine x_norm ?_
    refine hK16 _ _ ?_; try clear hK16 K16
    refine wp_region_lit ?_
    refine l_e hf rfl (ev_addx hf rfl rfl (by omega) (by omega)) ?_; intro a hf
    refine l_mv hf rfl rfl ?_; intro a hf
    refine wpList_nil ?_
    refine x_thenN ?_
    exact ⟨k + 1, ⟨hf.sub ⟨rfl, rfl, rfl, trivial⟩, (by omega), (fun j hj => by rcases Nat.lt_or_ge j k with h9 | h9; exact hall j h9; obtain rfl : j = k := (by omega); exact hT), hB4, hB5, hr_p, hr_q, hW⟩, (by omega)⟩
  ·have hc15b := hc15
   have hc15 := of_decide_eq_false hc15
   refine wp_exit ?_
   refine x_exS ?_
   refine x_exS ?_
   refine x_exit ?_
   refine hK11 _ _ ?_; try clear hK11 K11
   refine wp_seq_k ?_; intro K32 hK32
   refine wp_region_lit ?_
   refine l_as hf rfl rfl ?_; intro a hf
   refine l_as hf rfl rfl ?_; intro a hf
   refine l_as hf rfl rfl ?_; intro a hf
   refine wpList_nil ?_
   refine hK32 _ _ ?_; try clear hK32 K32
   refine wp_ret ?_
   refine c_ret hf (res3 hf rfl rfl rfl rfl) ?_
   exact ⟨_, by rw [hy, Bool.true_and, eqPh, range_none (fun j hj => hall j (by omega))], hW⟩
end Go.Proofs.YtfgnmflfiobkmaaGreat
set_option maxRecDepth 4000
namespace Go.Proofs.YtfgnmflfiobkmaaGreat
open Go.RowKit
theorem F231 (w0 : World) (bV : Nat) (f : Bool) (hBV : Blk w0 bV 194 [.bool f]) (x : Rg) : Ret Tryz.prog 231 [.pointer (some ⟨bV, 0, none⟩), .agg #[.int .i64 x.a, .int .i64 x.b, .int .i64 x.c, .int .i64 x.d]] w0 (fun v w => v = rV (sRing x) ∧ Kept bV w0.heap.size w0 w ∧ Blk w bV 194 [.bool (f || !rOk x)]) := by
 have hltV := hBV.lt
 refine enter Tryz.func231 rfl 13 rfl rfl ?_
 intro a hf
 have hW : Kept bV w0.heap.size w0 w0 := Kept.refl _ _ _
 refine wp_seq_k ?_; intro K1 hK1
 refine wp_region_lit ?_
 refine l_f hf rfl (ef_box (zs := [.int .i64 x.a, .int .i64 x.b, .int .i64 x.c, .int .i64 x.d]) hf rfl rfl) ?_; rintro a _ w1 ⟨b2, rfl, hl2, hE, hB2⟩ hf
 have hlo2 := Nat.le_trans hW.size hl2
 replace hBV := hBV.below hE
 replace hW := ktr hW hE
 clear hE
 refine l_f hf rfl (ef_alloc (zs := [.int .i64 0, .int .i64 0, .int .i64 0, .int .i64 0]) z_187 rfl) ?_; rintro a _ w2 ⟨b3, rfl, hl3, hE, hB3⟩ hf
 have hne2_3 : b2 ≠ b3 := by have := hB2.lt; omega
 have hlo3 := Nat.le_trans hW.size hl3
 replace hBV := hBV.below hE
 replace hB2 := hB2.below hE
 replace hW := ktr hW hE
 clear hE
 refine wpList_nil ?_
 refine hK1 _ _ ?_; try clear hK1 K1
 refine wp_seq_k ?_; intro K4 hK4
 refine wp_seq_k ?_; intro K5 hK5
 refine wp_region_lit ?_
 refine l_e hf rfl (ev_loadN (l := [.int .i64 x.a, .int .i64 x.b, .int .i64 x.c, .int .i64 x.d]) hf rfl tN_187 (hB2.at 0) rfl) ?_; intro a hf
 refine l_f hf rfl (ef_call (vs := [.agg #[.int .i64 x.a, .int .i64 x.b, .int .i64 x.c, .int .i64 x.d]]) hf rfl ff_245 (F245 _ x)) ?_; rintro a _ w3 ⟨rfl, hE⟩ hf
 replace hBV := hBV.below hE
 replace hB2 := hB2.below hE
 replace hB3 := hB3.below hE
 replace hW := ktr hW hE
 clear hE
 refine l_e hf rfl (ev_not hf rfl) ?_; intro a hf
 refine wpList_nil ?_
 refine hK5 _ _ ?_; try clear hK5 K5
 refine c_if hf rfl (fun hc6 => ?_) (fun hc6 => ?_)
 ·have hc6b := hc6
  have ho : rOk x = false := by revert hc6; cases rOk x <;> simp
  refine wp_seq_k ?_; intro K7 hK7
  refine wp_region_lit ?_
  refine l_mv hf rfl rfl ?_; intro a hf
  refine l_e hf rfl (ev_nil hf rfl) ?_; intro a hf
  refine l_e hf rfl (ev_fieldB hf rfl fd_194_0 (m := 0) rfl) ?_; intro a hf
  refine l_f0 hf (ef_store (vs := [.bool true]) (l' := [.bool true]) hf rfl rfl sz_4 hBV rfl rfl rfl rfl rfl) ?_; rintro a _ w4 ⟨ho, hb⟩ hf
  have hold := hBV
  replace hB2 := hB2.only ho (Blk.ne hB2 hold rfl)
  replace hB3 := hB3.only ho (Blk.ne hB3 hold rfl)
  replace hW := hW.self ho
  clear hold
  have hBV := hb
  clear hb ho
  refine wpList_nil ?_
  refine hK7 _ _ ?_; try clear hK7 K7
  refine wp_seq_k ?_; intro K8 hK8
  refine wp_region_lit ?_
  refine l_e hf rfl (ev_build (ps := []) (cs := [.int .i64 0, .int .i64 0, .int .i64 0, .int .i64 0]) hf rfl (fun _ => by first | rfl | kernel_rfl)) ?_; intro a hf
  refine l_f0 hf (ef_store (vs := [.int .i64 0, .int .i64 0, .int .i64 0, .int .i64 0]) (l' := [.int .i64 0, .int .i64 0, .int .i64 0, .int .i64 0]) hf rfl rfl sz_187 hB3 rfl rfl rfl rfl rfl) ?_; rintro a _ w5 ⟨ho, hb⟩ hf
  have hold := hB3
  replace hBV := hBV.only ho (Blk.ne hBV hold rfl)
  replace hB2 := hB2.only ho (by omega)
  replace hW := Kept.only hW ho hlo3
  clear hold
  have hB3 := hb
  clear hb ho
  refine wpList_nil ?_
  refine hK8 _ _ ?_; try clear hK8 K8
  refine wp_ret ?_
  refine x_retS ?_
  refine c_ret hf (res1 hf rfl (ResV.cellN (l := [.int .i64 0, .int .i64 0, .int .i64 0, .int .i64 0]) rfl tN_187 (hB3.at 0) rfl)) ?_
  exact ⟨by simp [sRing, ho], hW, by simpa [ho] using hBV⟩
 ·have hc6b := hc6
  have ho : rOk x = true := by revert hc6; cases rOk x <;> simp
  refine wp_skip ?_
  refine hK4 _ _ ?_; try clear hK4 K4
  refine wp_seq_k ?_; intro K9 hK9
  refine wp_region_lit ?_
  refine l_e hf rfl (ev_loadN (l := [.int .i64 x.a, .int .i64 x.b, .int .i64 x.c, .int .i64 x.d]) hf rfl tN_187 (hB2.at 0) rfl) ?_; intro a hf
  refine l_f0 hf (ef_store (vs := [.int .i64 x.a, .int .i64 x.b, .int .i64 x.c, .int .i64 x.d]) (l' := [.int .i64 x.a, .int .i64 x.b, .int .i64 x.c, .int .i64 x.d]) hf rfl rfl sz_187 hB3 rfl rfl rfl rfl rfl) ?_; rintro a _ w6 ⟨ho, hb⟩ hf
  have hold := hB3
  replace hBV := hBV.only ho (Blk.ne hBV hold rfl)
  replace hB2 := hB2.only ho (by omega)
  replace hW := Kept.only hW ho hlo3
  clear hold
  have hB3 := hb
  clear hb ho
  refine wpList_nil ?_
  refine hK9 _ _ ?_; try clear hK9 K9
  refine wp_ret ?_
  refine c_ret hf (res1 hf rfl (ResV.cellN (l := [.int .i64 x.a, .int .i64 x.b, .int .i64 x.c, .int .i64 x.d]) rfl tN_187 (hB3.at 0) rfl)) ?_
  exact ⟨by simp [sRing, ho], hW, by simpa [ho] using hBV⟩
theorem F202 (w0 : World) (bV : Nat) (f : Bool) (hBV : Blk w0 bV 194 [.bool f]) (x : Dy) (y : Dy) (hx : 0 ≤ x.exp ∧ x.exp ≤ 60) (hy : 0 ≤ y.exp ∧ y.exp ≤ 60) : Ret Tryz.prog 202 [.pointer (some ⟨bV, 0, none⟩), .agg #[.int .i64 x.num.a, .int .i64 x.num.b, .int .i64 x.num.c, .int .i64 x.num.d, .int .i64 x.exp], .agg #[.int .i64 y.num.a, .int .i64 y.num.b, .int .i64 y.num.c, .int .i64 y.num.d, .int .i64 y.exp]] w0 (fun v w => v = dV ((sMul f x y).2) ∧ Kept bV w0.heap.size w0 w ∧ Blk w bV 194 [.bool ((sMul f x y).1)]) := by
 have hltV := hBV.lt
 refine enter Tryz.func202 rfl 30 rfl rfl ?_
 intro a hf
 have hW : Kept bV w0.heap.size w0 w0 := Kept.refl _ _ _
 refine wp_seq_k ?_; intro K1 hK1
 refine wp_region_lit ?_
 refine l_f hf rfl (ef_box (zs := [.int .i64 x.num.a, .int .i64 x.num.b, .int .i64 x.num.c, .int .i64 x.num.d, .int .i64 x.exp]) hf rfl rfl) ?_; rintro a _ w1 ⟨b2, rfl, hl2, hE, hB2⟩ hf
 have hlo2 := Nat.le_trans hW.size hl2
 replace hBV := hBV.below hE
 replace hW := ktr hW hE
 clear hE
 refine l_f hf rfl (ef_box (zs := [.int .i64 y.num.a, .int .i64 y.num.b, .int .i64 y.num.c, .int .i64 y.num.d, .int .i64 y.exp]) hf rfl rfl) ?_; rintro a _ w2 ⟨b3, rfl, hl3, hE, hB3⟩ hf
 have hne2_3 : b2 ≠ b3 := by have := hB2.lt; omega
 have hlo3 := Nat.le_trans hW.size hl3
 replace hBV := hBV.below hE
 replace hB2 := hB2.below hE
 replace hW := ktr hW hE
 clear hE
 refine l_f hf rfl (ef_alloc (zs := [.int .i64 0, .int .i64 0, .int .i64 0, .int .i64 0, .int .i64 0]) z_189 rfl) ?_; rintro a _ w3 ⟨b4, rfl, hl4, hE, hB4⟩ hf
 have hne2_4 : b2 ≠ b4 := by have := hB2.lt; omega
 have hne3_4 : b3 ≠ b4 := by have := hB3.lt; omega
 have hlo4 := Nat.le_trans hW.size hl4
 replace hBV := hBV.below hE
 replace hB2 := hB2.below hE
 replace hB3 := hB3.below hE
 replace hW := ktr hW hE
 clear hE
 refine wpList_nil ?_
 refine hK1 _ _ ?_; try clear hK1 K1
 refine wp_seq_k ?_; intro K5 hK5
 refine wp_seq_k ?_; intro K6 hK6
 refine wp_region_lit ?_
 refine l_e hf rfl (ev_fieldB hf rfl fd_189_1 (m := 4) rfl) ?_; intro a hf
 refine l_e hf rfl (ev_load1 hf rfl t1_3 (hB2.at 4)) ?_; intro a hf
 refine l_e hf rfl (ev_fieldB hf rfl fd_189_1 (m := 4) rfl) ?_; intro a hf
 refine l_e hf rfl (ev_load1 hf rfl t1_3 (hB3.at 4)) ?_; intro a hf
 refine l_e hf rfl (ev_addx hf rfl rfl (by omega) (by omega)) ?_; intro a hf
 refine l_e hf rfl (ev_gtr hf rfl rfl) ?_; intro a hf
 refine wpList_nil ?_
 refine hK6 _ _ ?_; try clear hK6 K6
 refine c_if hf rfl (fun hc7 => ?_) (fun hc7 => ?_)
 ·have hc7b := hc7
  have hc7 := of_decide_eq_true hc7
  have hm : 60 < x.exp + y.exp := hc7
  refine wp_seq_k ?_; intro K8 hK8
  refine wp_region_lit ?_
  refine l_mv hf rfl rfl ?_; intro a hf
  refine l_e hf rfl (ev_nil hf rfl) ?_; intro a hf
  refine l_e hf rfl (ev_fieldB hf rfl fd_194_0 (m := 0) rfl) ?_; intro a hf
  refine l_f0 hf (ef_store (vs := [.bool true]) (l' := [.bool true]) hf rfl rfl sz_4 hBV rfl rfl rfl rfl rfl) ?_; rintro a _ w4 ⟨ho, hb⟩ hf
  have hold := hBV
  replace hB2 := hB2.only ho (Blk.ne hB2 hold rfl)
  replace hB3 := hB3.only ho (Blk.ne hB3 hold rfl)
  replace hB4 := hB4.only ho (Blk.ne hB4 hold rfl)
  replace hW := hW.self ho
  clear hold
  have hBV := hb
  clear hb ho
  refine wpList_nil ?_
  refine hK8 _ _ ?_; try clear hK8 K8
  refine wp_seq_k ?_; intro K9 hK9
  refine wp_region_lit ?_
  refine l_e hf rfl (ev_build (ps := []) (cs := [.int .i64 0, .int .i64 0, .int .i64 0, .int .i64 0, .int .i64 0]) hf rfl (fun _ => by first | rfl | kernel_rfl)) ?_; intro a hf
  refine l_f0 hf (ef_store (vs := [.int .i64 0, .int .i64 0, .int .i64 0, .int .i64 0, .int .i64 0]) (l' := [.int .i64 0, .int .i64 0, .int .i64 0, .int .i64 0, .int .i64 0]) hf rfl rfl sz_189 hB4 rfl rfl rfl rfl rfl) ?_; rintro a _ w5 ⟨ho, hb⟩ hf
  have hold := hB4
  replace hBV := hBV.only ho (Blk.ne hBV hold rfl)
  replace hB2 := hB2.only ho (by omega)
  replace hB3 := hB3.only ho (by omega)
  replace hW := Kept.only hW ho hlo4
  clear hold
  have hB4 := hb
  clear hb ho
  refine wpList_nil ?_
  refine hK9 _ _ ?_; try clear hK9 K9
  refine wp_ret ?_
  refine x_retS ?_
  refine c_ret hf (res1 hf rfl (ResV.cellN (l := [.int .i64 0, .int .i64 0, .int .i64 0, .int .i64 0, .int .i64 0]) rfl tN_189 (hB4.at 0) rfl)) ?_
  exact ⟨by rw [sMul, if_pos hm]; rfl, hW, by rw [sMul, if_pos hm]; exact hBV⟩
 ·have hc7b := hc7
  have hc7 := of_decide_eq_false hc7
  have hm : ¬ 60 < x.exp + y.exp := hc7
  refine wp_skip ?_
  refine hK5 _ _ ?_; try clear hK5 K5
  refine wp_seq_k ?_; intro K10 hK10
  refine wp_draw (some bV) (fun j => [13].contains j) mixed ?_
  intro w6 hE
  replace hBV := hBV.below hE
  replace hB2 := hB2.below hE
  replace hB3 := hB3.below hE
  replace hB4 := hB4.below hE
  replace hW := ktr hW hE
  clear hE
  refine s_e0 0 rfl (by kernel_rfl) hf rfl (fun _ => ev_move hf rfl) ?_; intro a hf
  refine s_e0 1 rfl (by kernel_rfl) hf rfl (fun _ => ev_fieldB hf rfl fd_189_0 (m := 0) rfl) ?_; intro a hf
  refine s_evV 2 rfl (by kernel_rfl) (by kernel_rfl) hf trivial rfl rfl (fun w1 h1 => ev_loadN (l := [.int .i64 x.num.a, .int .i64 x.num.b, .int .i64 x.num.c, .int .i64 x.num.d]) hf rfl tN_187 (((hB2.only h1 (Blk.ne hB2 hBV rfl)).at 0).take 4) rfl) ?_; intro a hf
  refine s_e0 3 rfl (by kernel_rfl) hf rfl (fun _ => ev_fieldB hf rfl fd_189_0 (m := 0) rfl) ?_; intro a hf
  refine s_evV 4 rfl (by kernel_rfl) (by kernel_rfl) hf trivial rfl rfl (fun w1 h1 => ev_loadN (l := [.int .i64 y.num.a, .int .i64 y.num.b, .int .i64 y.num.c, .int .i64 y.num.d]) hf rfl tN_187 (((hB3.only h1 (Blk.ne hB3 hBV rfl)).at 0).take 4) rfl) ?_; intro a hf
  refine s_e0 7 rfl (by kernel_rfl) hf rfl (fun _ => ev_fieldB hf rfl fd_189_1 (m := 4) rfl) ?_; intro a hf
  refine s_evV 8 rfl (by kernel_rfl) (by kernel_rfl) hf trivial rfl rfl (fun w1 h1 => ev_load1 hf rfl t1_3 ((hB2.only h1 (Blk.ne hB2 hBV rfl)).at 4)) ?_; intro a hf
  refine s_e0 9 rfl (by kernel_rfl) hf rfl (fun _ => ev_fieldB hf rfl fd_189_1 (m := 4) rfl) ?_; intro a hf
  refine s_evV 10 rfl (by kernel_rfl) (by kernel_rfl) hf trivial rfl rfl (fun w1 h1 => ev_load1 hf rfl t1_3 ((hB3.only h1 (Blk.ne hB3 hBV rfl)).at 4)) ?_; intro a hf
  refine s_e0 11 rfl (by kernel_rfl) hf rfl (fun _ => ev_addx hf rfl rfl (by omega) (by omega)) ?_; intro a hf
  refine s_one 5 (by kernel_rfl) ?_
  refine p_eff rfl hf trivial rfl rfl (Ef.mono (ef_call (vs := [.agg #[.int .i64 x.num.a, .int .i64 x.num.b, .int .i64 x.num.c, .int .i64 x.num.d], .agg #[.int .i64 y.num.a, .int .i64 y.num.b, .int .i64 y.num.c, .int .i64 y.num.d]]) hf rfl ff_235 (F235 _ x.num y.num)) (fun _ _ h => ⟨fun _ => by obtain ⟨rfl, hE⟩ := h; exact Keep.of_below hE, h⟩)) ?_; rintro a _ w7 ⟨rfl, hE⟩ hf
  replace hBV := hBV.below hE
  replace hB2 := hB2.below hE
  replace hB3 := hB3.below hE
  replace hB4 := hB4.below hE
  replace hW := ktr hW hE
  clear hE
  refine s_one 6 (by kernel_rfl) ?_
  refine p_eff rfl hf trivial rfl rfl (Ef.mono (ef_call (vs := [.pointer (some ⟨bV, 0, none⟩), .agg #[.int .i64 ((rMul x.num y.num).a), .int .i64 ((rMul x.num y.num).b), .int .i64 ((rMul x.num y.num).c), .int .i64 ((rMul x.num y.num).d)]]) hf rfl ff_231 (F231 _ bV f hBV (rMul x.num y.num))) (fun _ _ h => ⟨fun _ => by obtain ⟨rfl, hK, hbn⟩ := h; exact hK.keep, h⟩)) ?_; rintro a _ w8 ⟨rfl, hK, hbn⟩ hf
  obtain ⟨wm, hO, hm, hE⟩ := hK.mid; clear hm
  have hold := hBV
  replace hB2 := hB2.only hO (Blk.ne hB2 hold rfl)
  replace hB3 := hB3.only hO (Blk.ne hB3 hold rfl)
  replace hB4 := hB4.only hO (Blk.ne hB4 hold rfl)
  replace hW := hW.self hO
  replace hB2 := hB2.below hE
  replace hB3 := hB3.below hE
  replace hB4 := hB4.below hE
  replace hW := ktr hW hE
  clear hold hE hO hK; replace hBV := hbn; clear hbn
  refine s_one 12 (by kernel_rfl) ?_
  refine p_eff rfl hf trivial rfl rfl (Ef.mono (ef_call (vs := [.agg #[.int .i64 ((sRing (rMul x.num y.num)).a), .int .i64 ((sRing (rMul x.num y.num)).b), .int .i64 ((sRing (rMul x.num y.num)).c), .int .i64 ((sRing (rMul x.num y.num)).d)], .int .i64 (x.exp + y.exp)]) hf rfl ff_233 (F233 _ (sRing (rMul x.num y.num)) (x.exp + y.exp) (by omega))) (fun _ _ h => ⟨fun _ => by obtain ⟨rfl, hE⟩ := h; exact Keep.of_below hE, h⟩)) ?_; rintro a _ w9 ⟨rfl, hE⟩ hf
  replace hBV := hBV.below hE
  replace hB2 := hB2.below hE
  replace hB3 := hB3.below hE
  replace hB4 := hB4.below hE
  replace hW := ktr hW hE
  clear hE
  refine s_one 13 (by kernel_rfl) ?_
  refine p_eff0 rfl hf trivial rfl (Ef.mono (ef_store (vs := [.int .i64 ((dLow (sRing (rMul x.num y.num)) (x.exp + y.exp)).num.a), .int .i64 ((dLow (sRing (rMul x.num y.num)) (x.exp + y.exp)).num.b), .int .i64 ((dLow (sRing (rMul x.num y.num)) (x.exp + y.exp)).num.c), .int .i64 ((dLow (sRing (rMul x.num y.num)) (x.exp + y.exp)).num.d), .int .i64 ((dLow (sRing (rMul x.num y.num)) (x.exp + y.exp)).exp)]) (l' := [.int .i64 ((dLow (sRing (rMul x.num y.num)) (x.exp + y.exp)).num.a), .int .i64 ((dLow (sRing (rMul x.num y.num)) (x.exp + y.exp)).num.b), .int .i64 ((dLow (sRing (rMul x.num y.num)) (x.exp + y.exp)).num.c), .int .i64 ((dLow (sRing (rMul x.num y.num)) (x.exp + y.exp)).num.d), .int .i64 ((dLow (sRing (rMul x.num y.num)) (x.exp + y.exp)).exp)]) hf rfl rfl sz_189 hB4 rfl rfl rfl rfl rfl) (fun _ _ h => ⟨fun h0 => absurd h0 (by decide), h⟩)) ?_; rintro a _ w10 ⟨ho, hb⟩ hf
  have hold := hB4
  replace hBV := hBV.only ho (Blk.ne hBV hold rfl)
  replace hB2 := hB2.only ho (by omega)
  replace hB3 := hB3.only ho (by omega)
  replace hW := Kept.only hW ho hlo4
  clear hold
  have hB4 := hb
  clear hb ho
  refine s_done (by kernel_rfl) ?_
  refine hK10 _ _ ?_; try clear hK10 K10
  refine wp_ret ?_
  refine c_ret hf (res1 hf rfl (ResV.cellN (l := [.int .i64 ((dLow (sRing (rMul x.num y.num)) (x.exp + y.exp)).num.a), .int .i64 ((dLow (sRing (rMul x.num y.num)) (x.exp + y.exp)).num.b), .int .i64 ((dLow (sRing (rMul x.num y.num)) (x.exp + y.exp)).num.c), .int .i64 ((dLow (sRing (rMul x.num y.num)) (x.exp + y.exp)).num.d), .int .i64 ((dLow (sRing (rMul x.num y.num)) (x.exp + y.exp)).exp)]) rfl tN_189 (hB4.at 0) rfl)) ?_
  exact ⟨by rw [sMul, if_neg hm], hW, by rw [sMul, if_neg hm]; exact hBV⟩
theorem F201 (w0 : World) (bV : Nat) (f : Bool) (hBV : Blk w0 bV 194 [.bool f]) (x : Dy) (y : Dy) (hx : 0 ≤ x.exp ∧ x.exp ≤ 60) (hy : 0 ≤ y.exp ∧ y.exp ≤ 60) : Ret Tryz.prog 201 [.pointer (some ⟨bV, 0, none⟩), .agg #[.int .i64 x.num.a, .int .i64 x.num.b, .int .i64 x.num.c, .int .i64 x.num.d, .int .i64 x.exp], .agg #[.int .i64 y.num.a, .int .i64 y.num.b, .int .i64 y.num.c, .int .i64 y.num.d, .int .i64 y.exp]] w0 (fun v w => v = dV ((sAdd f x y).2) ∧ Kept bV w0.heap.size w0 w ∧ Blk w bV 194 [.bool ((sAdd f x y).1)]) := by
 have hltV := hBV.lt
 refine enter Tryz.func201 rfl 45 rfl rfl ?_
 intro a hf
 have hW : Kept bV w0.heap.size w0 w0 := Kept.refl _ _ _
 refine wp_seq_k ?_; intro K1 hK1
 refine wp_region_lit ?_
 refine l_f hf rfl (ef_box (zs := [.int .i64 x.num.a, .int .i64 x.num.b, .int .i64 x.num.c, .int .i64 x.num.d, .int .i64 x.exp]) hf rfl rfl) ?_; rintro a _ w1 ⟨b2, rfl, hl2, hE, hB2⟩ hf
 have hlo2 := Nat.le_trans hW.size hl2
 replace hBV := hBV.below hE
 replace hW := ktr hW hE
 clear hE
 refine l_f hf rfl (ef_box (zs := [.int .i64 y.num.a, .int .i64 y.num.b, .int .i64 y.num.c, .int .i64 y.num.d, .int .i64 y.exp]) hf rfl rfl) ?_; rintro a _ w2 ⟨b3, rfl, hl3, hE, hB3⟩ hf
 have hne2_3 : b2 ≠ b3 := by have := hB2.lt; omega
 have hlo3 := Nat.le_trans hW.size hl3
 replace hBV := hBV.below hE
 replace hB2 := hB2.below hE
 replace hW := ktr hW hE
 clear hE
 refine l_f hf rfl (ef_alloc (zs := [.int .i64 0, .int .i64 0, .int .i64 0, .int .i64 0, .int .i64 0]) z_189 rfl) ?_; rintro a _ w3 ⟨b4, rfl, hl4, hE, hB4⟩ hf
 have hne2_4 : b2 ≠ b4 := by have := hB2.lt; omega
 have hne3_4 : b3 ≠ b4 := by have := hB3.lt; omega
 have hlo4 := Nat.le_trans hW.size hl4
 replace hBV := hBV.below hE
 replace hB2 := hB2.below hE
 replace hB3 := hB3.below hE
 replace hW := ktr hW hE
 clear hE
 refine wpList_nil ?_
 refine hK1 _ _ ?_; try clear hK1 K1
 refine wp_seq_k ?_; intro K5 hK5
 refine wp_block ?_
 refine c_loop (σ := Bool × Dy) (fun (s : Bool × Dy) (a : Act) (w : World) => match s with | (f1, x1) => Fr a 45 [(0, .pointer (some ⟨bV, 0, none⟩)), (4, .pointer (some ⟨b2, 0, none⟩)), (5, .pointer (some ⟨b3, 0, none⟩)), (6, .pointer (some ⟨b4, 0, none⟩))] ∧ (sRaiseN (y.exp - x1.exp).toNat f1 x1 = sRaiseN (y.exp - x.exp).toNat f x) ∧ (0 ≤ x1.exp ∧ x1.exp ≤ 60) ∧ Blk w bV 194 [.bool f1] ∧ Blk w b2 189 [.int .i64 x1.num.a, .int .i64 x1.num.b, .int .i64 x1.num.c, .int .i64 x1.num.d, .int .i64 x1.exp] ∧ Blk w b3 189 [.int .i64 y.num.a, .int .i64 y.num.b, .int .i64 y.num.c, .int .i64 y.num.d, .int .i64 y.exp] ∧ Blk w b4 189 [.int .i64 0, .int .i64 0, .int .i64 0, .int .i64 0, .int .i64 0] ∧ Kept bV w0.heap.size w0 w) (fun (s : Bool × Dy) => match s with | (f1, x1) => (y.exp - x1.exp).toNat) (f, x) ?_ ?_
 · exact ⟨hf.sub ⟨rfl, rfl, rfl, rfl, trivial⟩, rfl, hx, hBV, hB2, hB3, hB4, hW⟩
 rintro ⟨f1, x1⟩ a w4 ⟨hf, hinv, hx60, hBV, hB2, hB3, hB4, hW⟩
 refine wp_seq_k ?_; intro K6 hK6
 refine wp_seq_k ?_; intro K7 hK7
 refine wp_region_lit ?_
 refine l_e hf rfl (ev_fieldB hf rfl fd_189_1 (m := 4) rfl) ?_; intro a hf
 refine l_e hf rfl (ev_load1 hf rfl t1_3 (hB2.at 4)) ?_; intro a hf
 refine l_e hf rfl (ev_fieldB hf rfl fd_189_1 (m := 4) rfl) ?_; intro a hf
 refine l_e hf rfl (ev_load1 hf rfl t1_3 (hB3.at 4)) ?_; intro a hf
 refine l_e hf rfl (ev_lss hf rfl rfl) ?_; intro a hf
 refine wpList_nil ?_
 refine hK7 _ _ ?_; try clear hK7 K7
 refine c_if hf rfl (fun hc8 => ?_) (fun hc8 => ?_)
 ·have hc8b := hc8
  have hc8 := of_decide_eq_true hc8
  have hlt : x1.exp < y.exp := hc8
  refine wp_skip ?_
  refine hK6 _ _ ?_; try clear hK6 K6
  refine wp_block ?_
  refine wp_draw (some bV) (fun j => [9].contains j) mixed ?_
  intro w5 hE
  replace hBV := hBV.below hE
  replace hB2 := hB2.below hE
  replace hB3 := hB3.below hE
  replace hB4 := hB4.below hE
  replace hW := ktr hW hE
  clear hE
  refine s_e0 0 rfl (by kernel_rfl) hf rfl (fun _ => ev_move hf rfl) ?_; intro a hf
  refine s_e0 1 rfl (by kernel_rfl) hf rfl (fun _ => ev_fieldB hf rfl fd_189_0 (m := 0) rfl) ?_; intro a hf
  refine s_evV 2 rfl (by kernel_rfl) (by kernel_rfl) hf trivial rfl rfl (fun w1 h1 => ev_loadN (l := [.int .i64 x1.num.a, .int .i64 x1.num.b, .int .i64 x1.num.c, .int .i64 x1.num.d]) hf rfl tN_187 (((hB2.only h1 (Blk.ne hB2 hBV rfl)).at 0).take 4) rfl) ?_; intro a hf
  refine s_e0 5 rfl (by kernel_rfl) hf rfl (fun _ => ev_fieldB hf rfl fd_189_1 (m := 4) rfl) ?_; intro a hf
  refine s_evV 6 rfl (by kernel_rfl) (by kernel_rfl) hf trivial rfl rfl (fun w1 h1 => ev_load1 hf rfl t1_3 ((hB2.only h1 (Blk.ne hB2 hBV rfl)).at 4)) ?_; intro a hf
  refine s_e0 7 rfl (by kernel_rfl) hf rfl (fun _ => ev_addx hf rfl rfl (by omega) (by omega)) ?_; intro a hf
  refine s_one 3 (by kernel_rfl) ?_
  refine p_eff rfl hf trivial rfl rfl (Ef.mono (ef_call (vs := [.agg #[.int .i64 x1.num.a, .int .i64 x1.num.b, .int .i64 x1.num.c, .int .i64 x1.num.d]]) hf rfl ff_232 (F232 _ x1.num)) (fun _ _ h => ⟨fun _ => by obtain ⟨rfl, hE⟩ := h; exact Keep.of_below hE, h⟩)) ?_; rintro a _ w6 ⟨rfl, hE⟩ hf
  replace hBV := hBV.below hE
  replace hB2 := hB2.below hE
  replace hB3 := hB3.below hE
  replace hB4 := hB4.below hE
  replace hW := ktr hW hE
  clear hE
  refine s_one 4 (by kernel_rfl) ?_
  refine p_eff rfl hf trivial rfl rfl (Ef.mono (ef_call (vs := [.pointer (some ⟨bV, 0, none⟩), .agg #[.int .i64 ((rRoot x1.num).a), .int .i64 ((rRoot x1.num).b), .int .i64 ((rRoot x1.num).c), .int .i64 ((rRoot x1.num).d)]]) hf rfl ff_231 (F231 _ bV f1 hBV (rRoot x1.num))) (fun _ _ h => ⟨fun _ => by obtain ⟨rfl, hK, hbn⟩ := h; exact hK.keep, h⟩)) ?_; rintro a _ w7 ⟨rfl, hK, hbn⟩ hf
  obtain ⟨wm, hO, hm, hE⟩ := hK.mid; clear hm
  have hold := hBV
  replace hB2 := hB2.only hO (Blk.ne hB2 hold rfl)
  replace hB3 := hB3.only hO (Blk.ne hB3 hold rfl)
  replace hB4 := hB4.only hO (Blk.ne hB4 hold rfl)
  replace hW := hW.self hO
  replace hB2 := hB2.below hE
  replace hB3 := hB3.below hE
  replace hB4 := hB4.below hE
  replace hW := ktr hW hE
  clear hold hE hO hK; replace hBV := hbn; clear hbn
  refine s_e0 8 rfl (by kernel_rfl) hf rfl (fun _ => ev_build (ps := [(0, .agg #[.int .i64 ((sRing (rRoot x1.num)).a), .int .i64 ((sRing (rRoot x1.num)).b), .int .i64 ((sRing (rRoot x1.num)).c), .int .i64 ((sRing (rRoot x1.num)).d)]), (1, .int .i64 (x1.exp + 1))]) (cs := [.int .i64 ((sRing (rRoot x1.num)).a), .int .i64 ((sRing (rRoot x1.num)).b), .int .i64 ((sRing (rRoot x1.num)).c), .int .i64 ((sRing (rRoot x1.num)).d), .int .i64 (x1.exp + 1)]) hf rfl (fun _ => by first | rfl | kernel_rfl)) ?_; intro a hf
  refine s_one 9 (by kernel_rfl) ?_
  refine p_eff0 rfl hf trivial rfl (Ef.mono (ef_store (vs := [.int .i64 ((sRing (rRoot x1.num)).a), .int .i64 ((sRing (rRoot x1.num)).b), .int .i64 ((sRing (rRoot x1.num)).c), .int .i64 ((sRing (rRoot x1.num)).d), .int .i64 (x1.exp + 1)]) (l' := [.int .i64 ((sRing (rRoot x1.num)).a), .int .i64 ((sRing (rRoot x1.num)).b), .int .i64 ((sRing (rRoot x1.num)).c), .int .i64 ((sRing (rRoot x1.num)).d), .int .i64 (x1.exp + 1)]) hf rfl rfl sz_189 hB2 rfl rfl rfl rfl rfl) (fun _ _ h => ⟨fun h0 => absurd h0 (by decide), h⟩)) ?_; rintro a _ w8 ⟨ho, hb⟩ hf
  have hold := hB2
  replace hBV := hBV.only ho (Blk.ne hBV hold rfl)
  replace hB3 := hB3.only ho (by omega)
  replace hB4 := hB4.only ho (by omega)
  replace hW := Kept.only hW ho hlo2
  clear hold
  have hB2 := hb
  clear hb ho
  refine s_done (by kernel_rfl) ?_
  refine x_norm ?_
  refine x_thenN ?_
  exact ⟨(f1 || !rOk (rRoot x1.num), ⟨sRing (rRoot x1.num), x1.exp + 1⟩), ⟨hf.sub ⟨rfl, rfl, rfl, rfl, trivial⟩, (sRaise_step hinv hlt), (by dsimp only; omega), hBV, hB2, hB3, hB4, hW⟩, (by first | omega | (dsimp only; omega))⟩
 ·have hc8b := hc8
  have hc8 := of_decide_eq_false hc8
  have hx1 := sRaise_done hinv hc8
  refine wp_exit ?_
  refine x_exS ?_
  refine x_exS ?_
  refine x_exit ?_
  refine hK5 _ _ ?_; try clear hK5 K5
  refine wp_seq_k ?_; intro K9 hK9
  refine wp_block ?_
  refine c_loop (σ := Bool × Dy) (fun (s : Bool × Dy) (a : Act) (w : World) => match s with | (f2, y1) => Fr a 45 [(0, .pointer (some ⟨bV, 0, none⟩)), (4, .pointer (some ⟨b2, 0, none⟩)), (5, .pointer (some ⟨b3, 0, none⟩)), (6, .pointer (some ⟨b4, 0, none⟩))] ∧ (sRaiseN (x1.exp - y1.exp).toNat f2 y1 = sRaiseN (x1.exp - y.exp).toNat f1 y) ∧ (0 ≤ y1.exp ∧ y1.exp ≤ 60) ∧ Blk w bV 194 [.bool f2] ∧ Blk w b2 189 [.int .i64 x1.num.a, .int .i64 x1.num.b, .int .i64 x1.num.c, .int .i64 x1.num.d, .int .i64 x1.exp] ∧ Blk w b3 189 [.int .i64 y1.num.a, .int .i64 y1.num.b, .int .i64 y1.num.c, .int .i64 y1.num.d, .int .i64 y1.exp] ∧ Blk w b4 189 [.int .i64 0, .int .i64 0, .int .i64 0, .int .i64 0, .int .i64 0] ∧ Kept bV w0.heap.size w0 w) (fun (s : Bool × Dy) => match s with | (f2, y1) => (x1.exp - y1.exp).toNat) (f1, y) ?_ ?_
  · exact ⟨hf.sub ⟨rfl, rfl, rfl, rfl, trivial⟩, rfl, hy, hBV, hB2, hB3, hB4, hW⟩
  rintro ⟨f2, y1⟩ a w9 ⟨hf, hinv2, hy60, hBV, hB2, hB3, hB4, hW⟩
  refine wp_seq_k ?_; intro K10 hK10
  refine wp_seq_k ?_; intro K11 hK11
  refine wp_region_lit ?_
  refine l_e hf rfl (ev_fieldB hf rfl fd_189_1 (m := 4) rfl) ?_; intro a hf
  refine l_e hf rfl (ev_load1 hf rfl t1_3 (hB3.at 4)) ?_; intro a hf
  refine l_e hf rfl (ev_fieldB hf rfl fd_189_1 (m := 4) rfl) ?_; intro a hf
  refine l_e hf rfl (ev_load1 hf rfl t1_3 (hB2.at 4)) ?_; intro a hf
  refine l_e hf rfl (ev_lss hf rfl rfl) ?_; intro a hf
  refine wpList_nil ?_
  refine hK11 _ _ ?_; try clear hK11 K11
  refine c_if hf rfl (fun hc12 => ?_) (fun hc12 => ?_)
  ·have hc12b := hc12
   have hc12 := of_decide_eq_true hc12
   have hlt : y1.exp < x1.exp := hc12
   refine wp_skip ?_
   refine hK10 _ _ ?_; try clear hK10 K10
   refine wp_block ?_
   refine wp_draw (some bV) (fun j => [9].contains j) mixed ?_
   intro w10 hE
   replace hBV := hBV.below hE
   replace hB2 := hB2.below hE
   replace hB3 := hB3.below hE
   replace hB4 := hB4.below hE
   replace hW := ktr hW hE
   clear hE
   refine s_e0 0 rfl (by kernel_rfl) hf rfl (fun _ => ev_move hf rfl) ?_; intro a hf
   refine s_e0 1 rfl (by kernel_rfl) hf rfl (fun _ => ev_fieldB hf rfl fd_189_0 (m := 0) rfl) ?_; intro a hf
   refine s_evV 2 rfl (by kernel_rfl) (by kernel_rfl) hf trivial rfl rfl (fun w1 h1 => ev_loadN (l := [.int .i64 y1.num.a, .int .i64 y1.num.b, .int .i64 y1.num.c, .int .i64 y1.num.d]) hf rfl tN_187 (((hB3.only h1 (Blk.ne hB3 hBV rfl)).at 0).take 4) rfl) ?_; intro a hf
   refine s_e0 5 rfl (by kernel_rfl) hf rfl (fun _ => ev_fieldB hf rfl fd_189_1 (m := 4) rfl) ?_; intro a hf
   refine s_evV 6 rfl (by kernel_rfl) (by kernel_rfl) hf trivial rfl rfl (fun w1 h1 => ev_load1 hf rfl t1_3 ((hB3.only h1 (Blk.ne hB3 hBV rfl)).at 4)) ?_; intro a hf
   refine s_e0 7 rfl (by kernel_rfl) hf rfl (fun _ => ev_addx hf rfl rfl (by omega) (by omega)) ?_; intro a hf
   refine s_one 3 (by kernel_rfl) ?_
   refine p_eff rfl hf trivial rfl rfl (Ef.mono (ef_call (vs := [.agg #[.int .i64 y1.num.a, .int .i64 y1.num.b, .int .i64 y1.num.c, .int .i64 y1.num.d]]) hf rfl ff_232 (F232 _ y1.num)) (fun _ _ h => ⟨fun _ => by obtain ⟨rfl, hE⟩ := h; exact Keep.of_below hE, h⟩)) ?_; rintro a _ w11 ⟨rfl, hE⟩ hf
   replace hBV := hBV.below hE
   replace hB2 := hB2.below hE
   replace hB3 := hB3.below hE
   replace hB4 := hB4.below hE
   replace hW := ktr hW hE
   clear hE
   refine s_one 4 (by kernel_rfl) ?_
   refine p_eff rfl hf trivial rfl rfl (Ef.mono (ef_call (vs := [.pointer (some ⟨bV, 0, none⟩), .agg #[.int .i64 ((rRoot y1.num).a), .int .i64 ((rRoot y1.num).b), .int .i64 ((rRoot y1.num).c), .int .i64 ((rRoot y1.num).d)]]) hf rfl ff_231 (F231 _ bV f2 hBV (rRoot y1.num))) (fun _ _ h => ⟨fun _ => by obtain ⟨rfl, hK, hbn⟩ := h; exact hK.keep, h⟩)) ?_; rintro a _ w12 ⟨rfl, hK, hbn⟩ hf
   obtain ⟨wm, hO, hm, hE⟩ := hK.mid; clear hm
   have hold := hBV
   replace hB2 := hB2.only hO (Blk.ne hB2 hold rfl)
   replace hB3 := hB3.only hO (Blk.ne hB3 hold rfl)
   replace hB4 := hB4.only hO (Blk.ne hB4 hold rfl)
   replace hW := hW.self hO
   replace hB2 := hB2.below hE
   replace hB3 := hB3.below hE
   replace hB4 := hB4.below hE
   replace hW := ktr hW hE
   clear hold hE hO hK; replace hBV := hbn; clear hbn
   refine s_e0 8 rfl (by kernel_rfl) hf rfl (fun _ => ev_build (ps := [(0, .agg #[.int .i64 ((sRing (rRoot y1.num)).a), .int .i64 ((sRing (rRoot y1.num)).b), .int .i64 ((sRing (rRoot y1.num)).c), .int .i64 ((sRing (rRoot y1.num)).d)]), (1, .int .i64 (y1.exp + 1))]) (cs := [.int .i64 ((sRing (rRoot y1.num)).a), .int .i64 ((sRing (rRoot y1.num)).b), .int .i64 ((sRing (rRoot y1.num)).c), .int .i64 ((sRing (rRoot y1.num)).d), .int .i64 (y1.exp + 1)]) hf rfl (fun _ => by first | rfl | kernel_rfl)) ?_; intro a hf
   refine s_one 9 (by kernel_rfl) ?_
   refine p_eff0 rfl hf trivial rfl (Ef.mono (ef_store (vs := [.int .i64 ((sRing (rRoot y1.num)).a), .int .i64 ((sRing (rRoot y1.num)).b), .int .i64 ((sRing (rRoot y1.num)).c), .int .i64 ((sRing (rRoot y1.num)).d), .int .i64 (y1.exp + 1)]) (l' := [.int .i64 ((sRing (rRoot y1.num)).a), .int .i64 ((sRing (rRoot y1.num)).b), .int .i64 ((sRing (rRoot y1.num)).c), .int .i64 ((sRing (rRoot y1.num)).d), .int .i64 (y1.exp + 1)]) hf rfl rfl sz_189 hB3 rfl rfl rfl rfl rfl) (fun _ _ h => ⟨fun h0 => absurd h0 (by decide), h⟩)) ?_; rintro a _ w13 ⟨ho, hb⟩ hf
   have hold := hB3
   replace hBV := hBV.only ho (Blk.ne hBV hold rfl)
   replace hB2 := hB2.only ho (by omega)
   replace hB4 := hB4.only ho (by omega)
   replace hW := Kept.only hW ho hlo3
   clear hold
   have hB3 := hb
   clear hb ho
   refine s_done (by kernel_rfl) ?_
   refine x_norm ?_
   refine x_thenN ?_
   exact ⟨(f2 || !rOk (rRoot y1.num), ⟨sRing (rRoot y1.num), y1.exp + 1⟩), ⟨hf.sub ⟨rfl, rfl, rfl, rfl, trivial⟩, (sRaise_step hinv2 hlt), (by dsimp only; omega), hBV, hB2, hB3, hB4, hW⟩, (by first | omega | (dsimp only; omega))⟩
  ·have hc12b := hc12
   have hc12 := of_decide_eq_false hc12
   have hy1 := sRaise_done hinv2 hc12
   refine wp_exit ?_
   refine x_exS ?_
   refine x_exS ?_
   refine x_exit ?_
   refine hK9 _ _ ?_; try clear hK9 K9
   refine wp_seq_k ?_; intro K13 hK13
   refine wp_draw (some bV) (fun j => [10].contains j) mixed ?_
   intro w14 hE
   replace hBV := hBV.below hE
   replace hB2 := hB2.below hE
   replace hB3 := hB3.below hE
   replace hB4 := hB4.below hE
   replace hW := ktr hW hE
   clear hE
   refine s_e0 0 rfl (by kernel_rfl) hf rfl (fun _ => ev_move hf rfl) ?_; intro a hf
   refine s_e0 1 rfl (by kernel_rfl) hf rfl (fun _ => ev_fieldB hf rfl fd_189_0 (m := 0) rfl) ?_; intro a hf
   refine s_evV 2 rfl (by kernel_rfl) (by kernel_rfl) hf trivial rfl rfl (fun w1 h1 => ev_loadN (l := [.int .i64 x1.num.a, .int .i64 x1.num.b, .int .i64 x1.num.c, .int .i64 x1.num.d]) hf rfl tN_187 (((hB2.only h1 (Blk.ne hB2 hBV rfl)).at 0).take 4) rfl) ?_; intro a hf
   refine s_e0 3 rfl (by kernel_rfl) hf rfl (fun _ => ev_fieldB hf rfl fd_189_0 (m := 0) rfl) ?_; intro a hf
   refine s_evV 4 rfl (by kernel_rfl) (by kernel_rfl) hf trivial rfl rfl (fun w1 h1 => ev_loadN (l := [.int .i64 y1.num.a, .int .i64 y1.num.b, .int .i64 y1.num.c, .int .i64 y1.num.d]) hf rfl tN_187 (((hB3.only h1 (Blk.ne hB3 hBV rfl)).at 0).take 4) rfl) ?_; intro a hf
   refine s_e0 7 rfl (by kernel_rfl) hf rfl (fun _ => ev_fieldB hf rfl fd_189_1 (m := 4) rfl) ?_; intro a hf
   refine s_evV 8 rfl (by kernel_rfl) (by kernel_rfl) hf trivial rfl rfl (fun w1 h1 => ev_load1 hf rfl t1_3 ((hB2.only h1 (Blk.ne hB2 hBV rfl)).at 4)) ?_; intro a hf
   refine s_one 5 (by kernel_rfl) ?_
   refine p_eff rfl hf trivial rfl rfl (Ef.mono (ef_call (vs := [.agg #[.int .i64 x1.num.a, .int .i64 x1.num.b, .int .i64 x1.num.c, .int .i64 x1.num.d], .agg #[.int .i64 y1.num.a, .int .i64 y1.num.b, .int .i64 y1.num.c, .int .i64 y1.num.d]]) hf rfl ff_234 (F234 _ x1.num y1.num)) (fun _ _ h => ⟨fun _ => by obtain ⟨rfl, hE⟩ := h; exact Keep.of_below hE, h⟩)) ?_; rintro a _ w15 ⟨rfl, hE⟩ hf
   replace hBV := hBV.below hE
   replace hB2 := hB2.below hE
   replace hB3 := hB3.below hE
   replace hB4 := hB4.below hE
   replace hW := ktr hW hE
   clear hE
   refine s_one 6 (by kernel_rfl) ?_
   refine p_eff rfl hf trivial rfl rfl (Ef.mono (ef_call (vs := [.pointer (some ⟨bV, 0, none⟩), .agg #[.int .i64 ((rAdd x1.num y1.num).a), .int .i64 ((rAdd x1.num y1.num).b), .int .i64 ((rAdd x1.num y1.num).c), .int .i64 ((rAdd x1.num y1.num).d)]]) hf rfl ff_231 (F231 _ bV f2 hBV (rAdd x1.num y1.num))) (fun _ _ h => ⟨fun _ => by obtain ⟨rfl, hK, hbn⟩ := h; exact hK.keep, h⟩)) ?_; rintro a _ w16 ⟨rfl, hK, hbn⟩ hf
   obtain ⟨wm, hO, hm, hE⟩ := hK.mid; clear hm
   have hold := hBV
   replace hB2 := hB2.only hO (Blk.ne hB2 hold rfl)
   replace hB3 := hB3.only hO (Blk.ne hB3 hold rfl)
   replace hB4 := hB4.only hO (Blk.ne hB4 hold rfl)
   replace hW := hW.self hO
   replace hB2 := hB2.below hE
   replace hB3 := hB3.below hE
   replace hB4 := hB4.below hE
   replace hW := ktr hW hE
   clear hold hE hO hK; replace hBV := hbn; clear hbn
   refine s_one 9 (by kernel_rfl) ?_
   refine p_eff rfl hf trivial rfl rfl (Ef.mono (ef_call (vs := [.agg #[.int .i64 ((sRing (rAdd x1.num y1.num)).a), .int .i64 ((sRing (rAdd x1.num y1.num)).b), .int .i64 ((sRing (rAdd x1.num y1.num)).c), .int .i64 ((sRing (rAdd x1.num y1.num)).d)], .int .i64 x1.exp]) hf rfl ff_233 (F233 _ (sRing (rAdd x1.num y1.num)) x1.exp (by omega))) (fun _ _ h => ⟨fun _ => by obtain ⟨rfl, hE⟩ := h; exact Keep.of_below hE, h⟩)) ?_; rintro a _ w17 ⟨rfl, hE⟩ hf
   replace hBV := hBV.below hE
   replace hB2 := hB2.below hE
   replace hB3 := hB3.below hE
   replace hB4 := hB4.below hE
   replace hW := ktr hW hE
   clear hE
   refine s_one 10 (by kernel_rfl) ?_
   refine p_eff0 rfl hf trivial rfl (Ef.mono (ef_store (vs := [.int .i64 ((dLow (sRing (rAdd x1.num y1.num)) x1.exp).num.a), .int .i64 ((dLow (sRing (rAdd x1.num y1.num)) x1.exp).num.b), .int .i64 ((dLow (sRing (rAdd x1.num y1.num)) x1.exp).num.c), .int .i64 ((dLow (sRing (rAdd x1.num y1.num)) x1.exp).num.d), .int .i64 ((dLow (sRing (rAdd x1.num y1.num)) x1.exp).exp)]) (l' := [.int .i64 ((dLow (sRing (rAdd x1.num y1.num)) x1.exp).num.a), .int .i64 ((dLow (sRing (rAdd x1.num y1.num)) x1.exp).num.b), .int .i64 ((dLow (sRing (rAdd x1.num y1.num)) x1.exp).num.c), .int .i64 ((dLow (sRing (rAdd x1.num y1.num)) x1.exp).num.d), .int .i64 ((dLow (sRing (rAdd x1.num y1.num)) x1.exp).exp)]) hf rfl rfl sz_189 hB4 rfl rfl rfl rfl rfl) (fun _ _ h => ⟨fun h0 => absurd h0 (by decide), h⟩)) ?_; rintro a _ w18 ⟨ho, hb⟩ hf
   have hold := hB4
   replace hBV := hBV.only ho (Blk.ne hBV hold rfl)
   replace hB2 := hB2.only ho (by omega)
   replace hB3 := hB3.only ho (by omega)
   replace hW := Kept.only hW ho hlo4
   clear hold
   have hB4 := hb
   clear hb ho
   refine s_done (by kernel_rfl) ?_
   refine hK13 _ _ ?_; try clear hK13 K13
   refine wp_ret ?_
   refine c_ret hf (res1 hf rfl (ResV.cellN (l := [.int .i64 ((dLow (sRing (rAdd x1.num y1.num)) x1.exp).num.a), .int .i64 ((dLow (sRing (rAdd x1.num y1.num)) x1.exp).num.b), .int .i64 ((dLow (sRing (rAdd x1.num y1.num)) x1.exp).num.c), .int .i64 ((dLow (sRing (rAdd x1.num y1.num)) x1.exp).num.d), .int .i64 ((dLow (sRing (rAdd x1.num y1.num)) x1.exp).exp)]) rfl tN_189 (hB4.at 0) rfl)) ?_
   exact ⟨by rw [sAdd, hx1]; dsimp only; rw [hy1], hW, by rw [sAdd, hx1]; dsimp only; rw [hy1]; exact hBV⟩
end Go.Proofs.YtfgnmflfiobkmaaGreat
set_option maxRecDepth 4000
namespace Go.Proofs.YtfgnmflfiobkmaaGreat
open Go.RowKit
theorem F219 (w0 : World) (n : Int) (s : Int) (q : Int) (h0 : 0 ≤ q) (h1 : q < n) (h2 : n ≤ 5) : Ret Tryz.prog 219 [.int .i64 n, .int .i64 s, .int .i64 q] w0 (fun v w => v = .int .i64 (bitF n s q) ∧ w0 = w) := by
 refine enter Tryz.func219 rfl 14 rfl rfl ?_
 intro a hf
 have hW : Below w0.heap.size w0 w0 := Below.refl _ _
 refine wp_seq_k ?_; intro K1 hK1
 refine wp_region_lit ?_
 refine l_as hf rfl rfl ?_; intro a hf
 refine wpList_nil ?_
 refine hK1 _ _ ?_; try clear hK1 K1
 refine wp_seq_k ?_; intro K2 hK2
 refine wp_region_lit ?_
 refine l_mv hf rfl rfl ?_; intro a hf
 refine l_mv hf rfl rfl ?_; intro a hf
 refine l_e hf rfl (ev_subx hf rfl rfl (by omega) (by omega)) ?_; intro a hf
 refine l_mv hf rfl rfl ?_; intro a hf
 refine l_e hf rfl (ev_subx hf rfl rfl (by omega) (by omega)) ?_; intro a hf
 refine l_e hf rfl (ev_shr (m := (n - 1 - q).toNat) hf rfl rfl (by omega) (by omega)) ?_; intro a hf
 refine l_e hf rfl (ev_and hf rfl rfl) ?_; intro a hf
 refine l_as hf rfl rfl ?_; intro a hf
 refine wpList_nil ?_
 refine hK2 _ _ ?_; try clear hK2 K2
 refine wp_ret ?_
 refine c_ret hf (res1 hf rfl rfl) ?_
 exact ⟨rfl, rfl⟩
theorem F220 (w0 : World) (n : Int) (s : Int) (q : Int) (h0 : 0 ≤ q) (h1 : q < n) (h2 : n ≤ 5) : Ret Tryz.prog 220 [.int .i64 n, .int .i64 s, .int .i64 q] w0 (fun v w => v = .int .i64 (flipF n s q) ∧ w0 = w) := by
 refine enter Tryz.func220 rfl 14 rfl rfl ?_
 intro a hf
 have hW : Below w0.heap.size w0 w0 := Below.refl _ _
 refine wp_seq_k ?_; intro K1 hK1
 refine wp_region_lit ?_
 refine l_as hf rfl rfl ?_; intro a hf
 refine wpList_nil ?_
 refine hK1 _ _ ?_; try clear hK1 K1
 refine wp_seq_k ?_; intro K2 hK2
 refine wp_region_lit ?_
 refine l_mv hf rfl rfl ?_; intro a hf
 refine l_mv hf rfl rfl ?_; intro a hf
 refine l_e hf rfl (ev_subx hf rfl rfl (by omega) (by omega)) ?_; intro a hf
 refine l_mv hf rfl rfl ?_; intro a hf
 refine l_e hf rfl (ev_subx hf rfl rfl (by omega) (by omega)) ?_; intro a hf
 refine l_e hf rfl (ev_shl (m := (n - 1 - q).toNat) hf rfl rfl (by omega) (by omega)) ?_; intro a hf
 refine l_e hf rfl (ev_xor hf rfl rfl) ?_; intro a hf
 refine l_as hf rfl rfl ?_; intro a hf
 refine wpList_nil ?_
 refine hK2 _ _ ?_; try clear hK2 K2
 refine wp_ret ?_
 refine c_ret hf (res1 hf rfl rfl) ?_
 exact ⟨rfl, rfl⟩
theorem F229 (w0 : World) (n : Int) (s : Int) (q : Int) (h0 : 0 ≤ q) (h1 : q < n) (h2 : n ≤ 5) : Ret Tryz.prog 229 [.int .i64 n, .int .i64 s, .int .i64 q] w0 (fun v w => v = .int .i64 (bitF n s q) ∧ w0 = w) := by
 refine enter Tryz.func229 rfl 15 rfl rfl ?_
 intro a hf
 have hW : Below w0.heap.size w0 w0 := Below.refl _ _
 refine wp_seq_k ?_; intro K1 hK1
 refine wp_region_lit ?_
 refine l_as hf rfl rfl ?_; intro a hf
 refine wpList_nil ?_
 refine hK1 _ _ ?_; try clear hK1 K1
 refine wp_seq_k ?_; intro K2 hK2
 refine wp_region_lit ?_
 refine l_mv hf rfl rfl ?_; intro a hf
 refine l_mv hf rfl rfl ?_; intro a hf
 refine l_e hf rfl (ev_subx hf rfl rfl (by omega) (by omega)) ?_; intro a hf
 refine l_mv hf rfl rfl ?_; intro a hf
 refine l_e hf rfl (ev_subx hf rfl rfl (by omega) (by omega)) ?_; intro a hf
 refine l_e hf rfl (ev_toU (m := (n - 1 - q).toNat) Tryz.underlying3 Tryz.underlying181 hf rfl (by omega) (by omega)) ?_; intro a hf
 refine l_e hf rfl (ev_shr (m := (n - 1 - q).toNat) hf rfl rfl rfl (by omega)) ?_; intro a hf
 refine l_e hf rfl (ev_and hf rfl rfl) ?_; intro a hf
 refine l_as hf rfl rfl ?_; intro a hf
 refine wpList_nil ?_
 refine hK2 _ _ ?_; try clear hK2 K2
 refine wp_ret ?_
 refine c_ret hf (res1 hf rfl rfl) ?_
 exact ⟨rfl, rfl⟩
theorem F230 (w0 : World) (k : Int) (hk : 1 ≤ k ∧ k ≤ 8) : Ret Tryz.prog 230 [.int .i64 k] w0 (fun v w => ∃ A c, v = .slice A (oneL k).length c ∧ Own w w0.heap.size 189 5 encD A c (oneL k) ∧ Below w0.heap.size w0 w) := by
 refine enter Tryz.func230 rfl 43 rfl rfl ?_
 intro a hf
 have hW : Below w0.heap.size w0 w0 := Below.refl _ _
 refine wp_seq_k ?_; intro K1 hK1
 refine wp_region_lit ?_
 refine l_as hf rfl rfl ?_; intro a hf
 refine wpList_nil ?_
 refine hK1 _ _ ?_; try clear hK1 K1
 refine wp_seq_k ?_; intro K3 hK3
 refine wp_region_lit ?_
 refine l_f hf rfl (ef_call (vs := [.int .i64 0]) hf rfl ff_209 (F209 _ 0)) ?_; rintro a _ w1 ⟨rfl, hE⟩ hf
 replace hW := btr hW hE
 clear hE
 refine l_e hf rfl (ev_build (ps := []) (cs := [.int .i64 0, .int .i64 0, .int .i64 0, .int .i64 0, .int .i64 0]) hf rfl (fun _ => by first | rfl | kernel_rfl)) ?_; intro a hf
 refine l_f hf rfl (ef_alloc (zs := [.int .i64 0, .int .i64 0, .int .i64 0, .int .i64 0, .int .i64 0]) z_189 rfl) ?_; rintro a _ w2 ⟨b4, rfl, hl4, hE, hB4⟩ hf
 have hlo4 := Nat.le_trans hW.size hl4
 replace hW := btr hW hE
 clear hE
 refine l_f hf rfl (ef_alloc (zs := [.int .i64 0, .int .i64 0, .int .i64 0, .int .i64 0, .int .i64 0]) z_189 rfl) ?_; rintro a _ w3 ⟨b5, rfl, hl5, hE, hB5⟩ hf
 have hne4_5 : b4 ≠ b5 := by have := hB4.lt; omega
 have hlo5 := Nat.le_trans hW.size hl5
 replace hB4 := hB4.below hE
 replace hW := btr hW hE
 clear hE
 refine l_f0 hf (ef_store (vs := [.int .i64 ((dPow 0).num.a), .int .i64 ((dPow 0).num.b), .int .i64 ((dPow 0).num.c), .int .i64 ((dPow 0).num.d), .int .i64 ((dPow 0).exp)]) (l' := [.int .i64 ((dPow 0).num.a), .int .i64 ((dPow 0).num.b), .int .i64 ((dPow 0).num.c), .int .i64 ((dPow 0).num.d), .int .i64 ((dPow 0).exp)]) hf rfl rfl sz_189 hB4 rfl rfl rfl rfl rfl) ?_; rintro a _ w4 ⟨ho, hb⟩ hf
 have hold := hB4
 replace hB5 := hB5.only ho (by omega)
 replace hW := Below.only hW ho hlo4
 clear hold
 have hB4 := hb
 clear hb ho
 refine l_f0 hf (ef_store (vs := [.int .i64 0, .int .i64 0, .int .i64 0, .int .i64 0, .int .i64 0]) (l' := [.int .i64 0, .int .i64 0, .int .i64 0, .int .i64 0, .int .i64 0]) hf rfl rfl sz_189 hB5 rfl rfl rfl rfl rfl) ?_; rintro a _ w5 ⟨ho, hb⟩ hf
 have hold := hB5
 replace hB4 := hB4.only ho (by omega)
 replace hW := Below.only hW ho hlo5
 clear hold
 have hB5 := hb
 clear hb ho
 refine wpList_nil ?_
 refine hK3 _ _ ?_; try clear hK3 K3
 refine wp_seq_k ?_; intro K6 hK6
 refine wp_region_lit ?_
 refine l_e hf rfl (ev_build (ps := [(0, .int .i64 1)]) (cs := [.int .i64 1, .int .i64 0, .int .i64 0, .int .i64 0]) hf rfl (fun _ => by first | rfl | kernel_rfl)) ?_; intro a hf
 refine l_e hf rfl (ev_build (ps := [(0, .agg #[.int .i64 1, .int .i64 0, .int .i64 0, .int .i64 0]), (1, .int .i64 1)]) (cs := [.int .i64 1, .int .i64 0, .int .i64 0, .int .i64 0, .int .i64 1]) hf rfl (fun _ => by first | rfl | kernel_rfl)) ?_; intro a hf
 refine l_f hf rfl (ef_alloc (zs := [.int .i64 0, .int .i64 0, .int .i64 0, .int .i64 0, .int .i64 0]) z_189 rfl) ?_; rintro a _ w6 ⟨b7, rfl, hl7, hE, hB7⟩ hf
 have hne4_7 : b4 ≠ b7 := by have := hB4.lt; omega
 have hne5_7 : b5 ≠ b7 := by have := hB5.lt; omega
 have hlo7 := Nat.le_trans hW.size hl7
 replace hB4 := hB4.below hE
 replace hB5 := hB5.below hE
 replace hW := btr hW hE
 clear hE
 refine l_f0 hf (ef_store (vs := [.int .i64 1, .int .i64 0, .int .i64 0, .int .i64 0, .int .i64 1]) (l' := [.int .i64 1, .int .i64 0, .int .i64 0, .int .i64 0, .int .i64 1]) hf rfl rfl sz_189 hB7 rfl rfl rfl rfl rfl) ?_; rintro a _ w7 ⟨ho, hb⟩ hf
 have hold := hB7
 replace hB4 := hB4.only ho (by omega)
 replace hB5 := hB5.only ho (by omega)
 replace hW := Below.only hW ho hlo7
 clear hold
 have hB7 := hb
 clear hb ho
 refine wpList_nil ?_
 refine hK6 _ _ ?_; try clear hK6 K6
 refine wp_seq_k ?_; intro K8 hK8
 refine wp_seq_k ?_; intro K9 hK9
 refine wp_region_lit ?_
 refine l_mv hf rfl rfl ?_; intro a hf
 refine wpList_nil ?_
 refine hK9 _ _ ?_; try clear hK9 K9
 refine wp_block ?_
 refine wp_seq_k ?_; intro K10 hK10
 refine wp_region_lit ?_
 refine l_e hf rfl (ev_eql hf rfl rfl) ?_; intro a hf
 refine l_as hf rfl rfl ?_; intro a hf
 refine wpList_nil ?_
 refine hK10 _ _ ?_; try clear hK10 K10
 refine c_if hf rfl (fun hc11 => ?_) (fun hc11 => ?_)
 ·have hc11b := hc11
  have e1 : k = 1 := by simpa using hc11
  refine wp_seq_k ?_; intro K12 hK12
  refine wp_draw none (fun _ => false) mixed ?_
  intro w8 hE
  replace hB4 := hB4.below hE
  replace hB5 := hB5.below hE
  replace hB7 := hB7.below hE
  replace hW := btr hW hE
  clear hE
  refine s_e 0 rfl (by kernel_rfl) (by kernel_rfl) hf rfl (ev_loadN (l := [.int .i64 1, .int .i64 0, .int .i64 0, .int .i64 0, .int .i64 1]) hf rfl tN_189 (hB7.at 0) rfl) ?_; intro a hf
  refine s_e 1 rfl (by kernel_rfl) (by kernel_rfl) hf rfl (ev_loadN (l := [.int .i64 1, .int .i64 0, .int .i64 0, .int .i64 0, .int .i64 1]) hf rfl tN_189 (hB7.at 0) rfl) ?_; intro a hf
  refine s_e 2 rfl (by kernel_rfl) (by kernel_rfl) hf rfl (ev_loadN (l := [.int .i64 1, .int .i64 0, .int .i64 0, .int .i64 0, .int .i64 1]) hf rfl tN_189 (hB7.at 0) rfl) ?_; intro a hf
  refine s_e 3 rfl (by kernel_rfl) (by kernel_rfl) hf rfl (ev_loadN (l := [.int .i64 1, .int .i64 0, .int .i64 0, .int .i64 0, .int .i64 1]) hf rfl tN_189 (hB7.at 0) rfl) ?_; intro a hf
  refine s_one 4 (by kernel_rfl) ?_
  refine p_eff rfl hf trivial rfl rfl (Ef.mono (ef_call (vs := [.agg #[.int .i64 1, .int .i64 0, .int .i64 0, .int .i64 0, .int .i64 1]]) hf rfl ff_244 (F244 _ (⟨(⟨1, 0, 0, 0⟩ : Rg), 1⟩ : Dy))) (fun _ _ h => ⟨fun _ => by obtain ⟨rfl, hE⟩ := h; exact hE, h⟩)) ?_; rintro a _ w9 ⟨rfl, hE⟩ hf
  replace hB4 := hB4.below hE
  replace hB5 := hB5.below hE
  replace hB7 := hB7.below hE
  replace hW := btr hW hE
  clear hE
  refine s_one 5 (by kernel_rfl) ?_
  refine p_eff rfl hf trivial rfl rfl (Ef.mono (ef_buildSlice (k := 4) (vs := [.agg #[.int .i64 1, .int .i64 0, .int .i64 0, .int .i64 0, .int .i64 1], .agg #[.int .i64 1, .int .i64 0, .int .i64 0, .int .i64 0, .int .i64 1], .agg #[.int .i64 1, .int .i64 0, .int .i64 0, .int .i64 0, .int .i64 1], .agg #[.int .i64 ((dNeg (⟨(⟨1, 0, 0, 0⟩ : Rg), 1⟩ : Dy)).num.a), .int .i64 ((dNeg (⟨(⟨1, 0, 0, 0⟩ : Rg), 1⟩ : Dy)).num.b), .int .i64 ((dNeg (⟨(⟨1, 0, 0, 0⟩ : Rg), 1⟩ : Dy)).num.c), .int .i64 ((dNeg (⟨(⟨1, 0, 0, 0⟩ : Rg), 1⟩ : Dy)).num.d), .int .i64 ((dNeg (⟨(⟨1, 0, 0, 0⟩ : Rg), 1⟩ : Dy)).exp)]]) (zs := [.int .i64 1, .int .i64 0, .int .i64 0, .int .i64 0, .int .i64 1, .int .i64 1, .int .i64 0, .int .i64 0, .int .i64 0, .int .i64 1, .int .i64 1, .int .i64 0, .int .i64 0, .int .i64 0, .int .i64 1, .int .i64 ((dNeg (⟨(⟨1, 0, 0, 0⟩ : Rg), 1⟩ : Dy)).num.a), .int .i64 ((dNeg (⟨(⟨1, 0, 0, 0⟩ : Rg), 1⟩ : Dy)).num.b), .int .i64 ((dNeg (⟨(⟨1, 0, 0, 0⟩ : Rg), 1⟩ : Dy)).num.c), .int .i64 ((dNeg (⟨(⟨1, 0, 0, 0⟩ : Rg), 1⟩ : Dy)).num.d), .int .i64 ((dNeg (⟨(⟨1, 0, 0, 0⟩ : Rg), 1⟩ : Dy)).exp)]) hf rfl sl_139 inf_189 rfl rfl) (fun _ _ h => ⟨fun _ => by obtain ⟨_, _, _, hE, _⟩ := h; exact hE, h⟩)) ?_; rintro a _ w10 ⟨b13, rfl, hl13, hE, hB13⟩ hf
  have hne4_13 : b4 ≠ b13 := by have := hB4.lt; omega
  have hne5_13 : b5 ≠ b13 := by have := hB5.lt; omega
  have hne7_13 : b7 ≠ b13 := by have := hB7.lt; omega
  have hlo13 := Nat.le_trans hW.size hl13
  replace hB4 := hB4.below hE
  replace hB5 := hB5.below hE
  replace hB7 := hB7.below hE
  replace hW := btr hW hE
  clear hE
  refine s_e0 6 rfl (by kernel_rfl) hf rfl (fun _ => ev_assign hf rfl) ?_; intro a hf
  refine s_done (by kernel_rfl) ?_
  refine hK12 _ _ ?_; try clear hK12 K12
  refine wp_ret ?_
  refine x_retB ?_
  refine x_retS ?_
  refine c_ret hf (res1 hf rfl rfl) ?_
  exact ⟨(some ⟨b13, 0, none⟩), 4, by rw [oneL, if_pos e1]; rfl, by rw [oneL, if_pos e1]; exact (Own.of_blkL encD_len hB13 hlo13 rfl rfl (by decide)), hW⟩
 ·have hc11b := hc11
  have e1 : ¬ k = 1 := by simpa using hc11
  refine wp_seq_k ?_; intro K15 hK15
  refine wp_region_lit ?_
  refine l_e hf rfl (ev_eql hf rfl rfl) ?_; intro a hf
  refine l_as hf rfl rfl ?_; intro a hf
  refine wpList_nil ?_
  refine hK15 _ _ ?_; try clear hK15 K15
  refine c_if hf rfl (fun hc16 => ?_) (fun hc16 => ?_)
  ·have hc16b := hc16
   have e2 : k = 2 := by simpa using hc16
   refine wp_seq_k ?_; intro K17 hK17
   refine wp_region_lit ?_
   refine l_e hf rfl (ev_loadN (l := [.int .i64 0, .int .i64 0, .int .i64 0, .int .i64 0, .int .i64 0]) hf rfl tN_189 (hB5.at 0) rfl) ?_; intro a hf
   refine l_e hf rfl (ev_loadN (l := [.int .i64 ((dPow 0).num.a), .int .i64 ((dPow 0).num.b), .int .i64 ((dPow 0).num.c), .int .i64 ((dPow 0).num.d), .int .i64 ((dPow 0).exp)]) hf rfl tN_189 (hB4.at 0) rfl) ?_; intro a hf
   refine l_e hf rfl (ev_loadN (l := [.int .i64 ((dPow 0).num.a), .int .i64 ((dPow 0).num.b), .int .i64 ((dPow 0).num.c), .int .i64 ((dPow 0).num.d), .int .i64 ((dPow 0).exp)]) hf rfl tN_189 (hB4.at 0) rfl) ?_; intro a hf
   refine l_e hf rfl (ev_loadN (l := [.int .i64 0, .int .i64 0, .int .i64 0, .int .i64 0, .int .i64 0]) hf rfl tN_189 (hB5.at 0) rfl) ?_; intro a hf
   refine l_f hf rfl (ef_buildSlice (k := 4) (vs := [.agg #[.int .i64 0, .int .i64 0, .int .i64 0, .int .i64 0, .int .i64 0], .agg #[.int .i64 ((dPow 0).num.a), .int .i64 ((dPow 0).num.b), .int .i64 ((dPow 0).num.c), .int .i64 ((dPow 0).num.d), .int .i64 ((dPow 0).exp)], .agg #[.int .i64 ((dPow 0).num.a), .int .i64 ((dPow 0).num.b), .int .i64 ((dPow 0).num.c), .int .i64 ((dPow 0).num.d), .int .i64 ((dPow 0).exp)], .agg #[.int .i64 0, .int .i64 0, .int .i64 0, .int .i64 0, .int .i64 0]]) (zs := [.int .i64 0, .int .i64 0, .int .i64 0, .int .i64 0, .int .i64 0, .int .i64 ((dPow 0).num.a), .int .i64 ((dPow 0).num.b), .int .i64 ((dPow 0).num.c), .int .i64 ((dPow 0).num.d), .int .i64 ((dPow 0).exp), .int .i64 ((dPow 0).num.a), .int .i64 ((dPow 0).num.b), .int .i64 ((dPow 0).num.c), .int .i64 ((dPow 0).num.d), .int .i64 ((dPow 0).exp), .int .i64 0, .int .i64 0, .int .i64 0, .int .i64 0, .int .i64 0]) hf rfl sl_139 inf_189 rfl rfl) ?_; rintro a _ w11 ⟨b18, rfl, hl18, hE, hB18⟩ hf
   have hne4_18 : b4 ≠ b18 := by have := hB4.lt; omega
   have hne5_18 : b5 ≠ b18 := by have := hB5.lt; omega
   have hne7_18 : b7 ≠ b18 := by have := hB7.lt; omega
   have hlo18 := Nat.le_trans hW.size hl18
   replace hB4 := hB4.below hE
   replace hB5 := hB5.below hE
   replace hB7 := hB7.below hE
   replace hW := btr hW hE
   clear hE
   refine l_as hf rfl rfl ?_; intro a hf
   refine wpList_nil ?_
   refine hK17 _ _ ?_; try clear hK17 K17
   refine wp_ret ?_
   refine x_retB ?_
   refine x_retS ?_
   refine c_ret hf (res1 hf rfl rfl) ?_
   exact ⟨(some ⟨b18, 0, none⟩), 4, by rw [oneL, if_neg e1, if_pos e2]; rfl, by rw [oneL, if_neg e1, if_pos e2]; exact (Own.of_blkL encD_len hB18 hlo18 rfl rfl (by decide)), hW⟩
  ·have hc16b := hc16
   have e2 : ¬ k = 2 := by simpa using hc16
   refine wp_seq_k ?_; intro K20 hK20
   refine wp_region_lit ?_
   refine l_e hf rfl (ev_eql hf rfl rfl) ?_; intro a hf
   refine l_as hf rfl rfl ?_; intro a hf
   refine wpList_nil ?_
   refine hK20 _ _ ?_; try clear hK20 K20
   refine c_if hf rfl (fun hc21 => ?_) (fun hc21 => ?_)
   ·have hc21b := hc21
    have e3 : k = 3 := by simpa using hc21
    refine wp_seq_k ?_; intro K22 hK22
    refine wp_draw none (fun _ => false) mixed ?_
    intro w12 hE
    replace hB4 := hB4.below hE
    replace hB5 := hB5.below hE
    replace hB7 := hB7.below hE
    replace hW := btr hW hE
    clear hE
    refine s_e 0 rfl (by kernel_rfl) (by kernel_rfl) hf rfl (ev_loadN (l := [.int .i64 0, .int .i64 0, .int .i64 0, .int .i64 0, .int .i64 0]) hf rfl tN_189 (hB5.at 0) rfl) ?_; intro a hf
    refine s_e 3 rfl (by kernel_rfl) (by kernel_rfl) hf rfl (ev_loadN (l := [.int .i64 0, .int .i64 0, .int .i64 0, .int .i64 0, .int .i64 0]) hf rfl tN_189 (hB5.at 0) rfl) ?_; intro a hf
    refine s_one 1 (by kernel_rfl) ?_
    refine p_eff rfl hf trivial rfl rfl (Ef.mono (ef_call (vs := [.int .i64 6]) hf rfl ff_209 (F209 _ 6)) (fun _ _ h => ⟨fun _ => by obtain ⟨rfl, hE⟩ := h; exact hE, h⟩)) ?_; rintro a _ w13 ⟨rfl, hE⟩ hf
    replace hB4 := hB4.below hE
    replace hB5 := hB5.below hE
    replace hB7 := hB7.below hE
    replace hW := btr hW hE
    clear hE
    refine s_one 2 (by kernel_rfl) ?_
    refine p_eff rfl hf trivial rfl rfl (Ef.mono (ef_call (vs := [.int .i64 2]) hf rfl ff_209 (F209 _ 2)) (fun _ _ h => ⟨fun _ => by obtain ⟨rfl, hE⟩ := h; exact hE, h⟩)) ?_; rintro a _ w14 ⟨rfl, hE⟩ hf
    replace hB4 := hB4.below hE
    replace hB5 := hB5.below hE
    replace hB7 := hB7.below hE
    replace hW := btr hW hE
    clear hE
    refine s_one 4 (by kernel_rfl) ?_
    refine p_eff rfl hf trivial rfl rfl (Ef.mono (ef_buildSlice (k := 4) (vs := [.agg #[.int .i64 0, .int .i64 0, .int .i64 0, .int .i64 0, .int .i64 0], .agg #[.int .i64 ((dPow 6).num.a), .int .i64 ((dPow 6).num.b), .int .i64 ((dPow 6).num.c), .int .i64 ((dPow 6).num.d), .int .i64 ((dPow 6).exp)], .agg #[.int .i64 ((dPow 2).num.a), .int .i64 ((dPow 2).num.b), .int .i64 ((dPow 2).num.c), .int .i64 ((dPow 2).num.d), .int .i64 ((dPow 2).exp)], .agg #[.int .i64 0, .int .i64 0, .int .i64 0, .int .i64 0, .int .i64 0]]) (zs := [.int .i64 0, .int .i64 0, .int .i64 0, .int .i64 0, .int .i64 0, .int .i64 ((dPow 6).num.a), .int .i64 ((dPow 6).num.b), .int .i64 ((dPow 6).num.c), .int .i64 ((dPow 6).num.d), .int .i64 ((dPow 6).exp), .int .i64 ((dPow 2).num.a), .int .i64 ((dPow 2).num.b), .int .i64 ((dPow 2).num.c), .int .i64 ((dPow 2).num.d), .int .i64 ((dPow 2).exp), .int .i64 0, .int .i64 0, .int .i64 0, .int .i64 0, .int .i64 0]) hf rfl sl_139 inf_189 rfl rfl) (fun _ _ h => ⟨fun _ => by obtain ⟨_, _, _, hE, _⟩ := h; exact hE, h⟩)) ?_; rintro a _ w15 ⟨b23, rfl, hl23, hE, hB23⟩ hf
    have hne4_23 : b4 ≠ b23 := by have := hB4.lt; omega
    have hne5_23 : b5 ≠ b23 := by have := hB5.lt; omega
    have hne7_23 : b7 ≠ b23 := by have := hB7.lt; omega
    have hlo23 := Nat.le_trans hW.size hl23
    replace hB4 := hB4.below hE
    replace hB5 := hB5.below hE
    replace hB7 := hB7.below hE
    replace hW := btr hW hE
    clear hE
    refine s_e0 5 rfl (by kernel_rfl) hf rfl (fun _ => ev_assign hf rfl) ?_; intro a hf
    refine s_done (by kernel_rfl) ?_
    refine hK22 _ _ ?_; try clear hK22 K22
    refine wp_ret ?_
    refine x_retB ?_
    refine x_retS ?_
    refine c_ret hf (res1 hf rfl rfl) ?_
    exact ⟨(some ⟨b23, 0, none⟩), 4, by rw [oneL, if_neg e1, if_neg e2, if_pos e3]; rfl, by rw [oneL, if_neg e1, if_neg e2, if_pos e3]; exact (Own.of_blkL encD_len hB23 hlo23 rfl rfl (by decide)), hW⟩
   ·have hc21b := hc21
    have e3 : ¬ k = 3 := by simpa using hc21
    refine wp_skip ?_
    refine x_norm ?_
    refine hK8 _ _ ?_; try clear hK8 K8
    refine wp_seq_k ?_; intro K25 hK25
    refine wp_draw none (fun _ => false) mixed ?_
    intro w16 hE
    replace hB4 := hB4.below hE
    replace hB5 := hB5.below hE
    replace hB7 := hB7.below hE
    replace hW := btr hW hE
    clear hE
    refine s_e 0 rfl (by kernel_rfl) (by kernel_rfl) hf rfl (ev_loadN (l := [.int .i64 ((dPow 0).num.a), .int .i64 ((dPow 0).num.b), .int .i64 ((dPow 0).num.c), .int .i64 ((dPow 0).num.d), .int .i64 ((dPow 0).exp)]) hf rfl tN_189 (hB4.at 0) rfl) ?_; intro a hf
    refine s_e 1 rfl (by kernel_rfl) (by kernel_rfl) hf rfl (ev_loadN (l := [.int .i64 0, .int .i64 0, .int .i64 0, .int .i64 0, .int .i64 0]) hf rfl tN_189 (hB5.at 0) rfl) ?_; intro a hf
    refine s_e 2 rfl (by kernel_rfl) (by kernel_rfl) hf rfl (ev_loadN (l := [.int .i64 0, .int .i64 0, .int .i64 0, .int .i64 0, .int .i64 0]) hf rfl tN_189 (hB5.at 0) rfl) ?_; intro a hf
    refine s_e0 4 rfl (by kernel_rfl) hf rfl (fun _ => ev_move hf rfl) ?_; intro a hf
    refine s_e0 5 rfl (by kernel_rfl) hf rfl (fun _ => ev_subx hf rfl rfl (by omega) (by omega)) ?_; intro a hf
    refine s_one 3 (by kernel_rfl) ?_
    refine p_eff rfl hf trivial rfl rfl (Ef.mono (ef_buildSlice (k := 5) (vs := [.int .i64 4, .int .i64 2, .int .i64 6, .int .i64 1, .int .i64 7]) (zs := [.int .i64 4, .int .i64 2, .int .i64 6, .int .i64 1, .int .i64 7]) hf rfl sl_36 inf_3 rfl rfl) (fun _ _ h => ⟨fun _ => by obtain ⟨_, _, _, hE, _⟩ := h; exact hE, h⟩)) ?_; rintro a _ w17 ⟨b26, rfl, hl26, hE, hB26⟩ hf
    have hlo26 := Nat.le_trans hW.size hl26
    replace hB4 := hB4.below hE
    replace hB5 := hB5.below hE
    replace hB7 := hB7.below hE
    replace hW := btr hW hE
    clear hE
    refine s_index (k := (k - 4).toNat) (u := (turnOf k)) (enc := encI) (l := [4, 2, 6, 1, 7]) 6 rfl (by kernel_rfl) (by kernel_rfl) hf trivial rfl rfl rfl sl_36 sz_3 encI_len (Rd.of_blk hB26 rfl _ hB26.lt) (turn_get (by omega) (by omega)) (by omega) ?_; intro a p29 hat28 hf
    refine s_e 7 rfl (by kernel_rfl) (by kernel_rfl) hf rfl (ev_load1 hf rfl t1_3 hat28) ?_; intro a hf
    refine s_one 8 (by kernel_rfl) ?_
    refine p_eff rfl hf trivial rfl rfl (Ef.mono (ef_call (vs := [.int .i64 (turnOf k)]) hf rfl ff_209 (F209 _ (turnOf k))) (fun _ _ h => ⟨fun _ => by obtain ⟨rfl, hE⟩ := h; exact hE, h⟩)) ?_; rintro a _ w18 ⟨rfl, hE⟩ hf
    replace hB4 := hB4.below hE
    replace hB5 := hB5.below hE
    replace hB7 := hB7.below hE
    replace hB26 := hB26.below hE
    replace hW := btr hW hE
    clear hE
    refine s_one 9 (by kernel_rfl) ?_
    refine p_eff rfl hf trivial rfl rfl (Ef.mono (ef_buildSlice (k := 4) (vs := [.agg #[.int .i64 ((dPow 0).num.a), .int .i64 ((dPow 0).num.b), .int .i64 ((dPow 0).num.c), .int .i64 ((dPow 0).num.d), .int .i64 ((dPow 0).exp)], .agg #[.int .i64 0, .int .i64 0, .int .i64 0, .int .i64 0, .int .i64 0], .agg #[.int .i64 0, .int .i64 0, .int .i64 0, .int .i64 0, .int .i64 0], .agg #[.int .i64 ((dPow (turnOf k)).num.a), .int .i64 ((dPow (turnOf k)).num.b), .int .i64 ((dPow (turnOf k)).num.c), .int .i64 ((dPow (turnOf k)).num.d), .int .i64 ((dPow (turnOf k)).exp)]]) (zs := [.int .i64 ((dPow 0).num.a), .int .i64 ((dPow 0).num.b), .int .i64 ((dPow 0).num.c), .int .i64 ((dPow 0).num.d), .int .i64 ((dPow 0).exp), .int .i64 0, .int .i64 0, .int .i64 0, .int .i64 0, .int .i64 0, .int .i64 0, .int .i64 0, .int .i64 0, .int .i64 0, .int .i64 0, .int .i64 ((dPow (turnOf k)).num.a), .int .i64 ((dPow (turnOf k)).num.b), .int .i64 ((dPow (turnOf k)).num.c), .int .i64 ((dPow (turnOf k)).num.d), .int .i64 ((dPow (turnOf k)).exp)]) hf rfl sl_139 inf_189 rfl rfl) (fun _ _ h => ⟨fun _ => by obtain ⟨_, _, _, hE, _⟩ := h; exact hE, h⟩)) ?_; rintro a _ w19 ⟨b30, rfl, hl30, hE, hB30⟩ hf
    have hne4_30 : b4 ≠ b30 := by have := hB4.lt; omega
    have hne5_30 : b5 ≠ b30 := by have := hB5.lt; omega
    have hne7_30 : b7 ≠ b30 := by have := hB7.lt; omega
    have hlo30 := Nat.le_trans hW.size hl30
    replace hB4 := hB4.below hE
    replace hB5 := hB5.below hE
    replace hB7 := hB7.below hE
    replace hB26 := hB26.below hE
    replace hW := btr hW hE
    clear hE
    refine s_e0 10 rfl (by kernel_rfl) hf rfl (fun _ => ev_assign hf rfl) ?_; intro a hf
    refine s_done (by kernel_rfl) ?_
    refine hK25 _ _ ?_; try clear hK25 K25
    refine wp_ret ?_
    refine c_ret hf (res1 hf rfl rfl) ?_
    exact ⟨(some ⟨b30, 0, none⟩), 4, by rw [oneL, if_neg e1, if_neg e2, if_neg e3]; rfl, by rw [oneL, if_neg e1, if_neg e2, if_neg e3]; exact (Own.of_blkL encD_len hB30 hlo30 rfl rfl (by decide)), hW⟩
end Go.Proofs.YtfgnmflfiobkmaaGreat
set_option maxRecDepth 4000
namespace Go.Proofs.YtfgnmflfiobkmaaGreat
open Go.RowKit
theorem F199 (w0 : World) (n : Int) (g : Gt) (row : Int) (col : Int) (hg : gOk n g = true) : Ret Tryz.prog 199 [.int .i64 n, .agg #[.int .i64 g.k, .int .i64 g.a, .int .i64 g.b], .int .i64 row, .int .i64 col] w0 (fun v w => v = dV (cellS n g row col) ∧ Below w0.heap.size w0 w) := by
 have hg2 := gOk_spec hg
 have hb1 := bitF_01 n row g.a
 have hb2 := bitF_01 n col g.a
 refine enter Tryz.func199 rfl 119 rfl rfl ?_
 intro a hf
 have hW : Below w0.heap.size w0 w0 := Below.refl _ _
 refine wp_seq_k ?_; intro K1 hK1
 refine wp_region_lit ?_
 refine l_f hf rfl (ef_box (zs := [.int .i64 g.k, .int .i64 g.a, .int .i64 g.b]) hf rfl rfl) ?_; rintro a _ w1 ⟨b2, rfl, hl2, hE, hB2⟩ hf
 have hlo2 := Nat.le_trans hW.size hl2
 replace hW := btr hW hE
 clear hE
 refine l_f hf rfl (ef_alloc (zs := [.int .i64 0, .int .i64 0, .int .i64 0, .int .i64 0, .int .i64 0]) z_189 rfl) ?_; rintro a _ w2 ⟨b3, rfl, hl3, hE, hB3⟩ hf
 have hlo3 := Nat.le_trans hW.size hl3
 replace hB2 := hB2.below hE
 replace hW := btr hW hE
 clear hE
 refine wpList_nil ?_
 refine hK1 _ _ ?_; try clear hK1 K1
 refine wp_seq_k ?_; intro K4 hK4
 refine wp_region_lit ?_
 refine l_f hf rfl (ef_call (vs := [.int .i64 0]) hf rfl ff_209 (F209 _ 0)) ?_; rintro a _ w3 ⟨rfl, hE⟩ hf
 replace hB2 := hB2.below hE
 replace hB3 := hB3.below hE
 replace hW := btr hW hE
 clear hE
 refine l_e hf rfl (ev_build (ps := []) (cs := [.int .i64 0, .int .i64 0, .int .i64 0, .int .i64 0, .int .i64 0]) hf rfl (fun _ => by first | rfl | kernel_rfl)) ?_; intro a hf
 refine l_f hf rfl (ef_alloc (zs := [.int .i64 0, .int .i64 0, .int .i64 0, .int .i64 0, .int .i64 0]) z_189 rfl) ?_; rintro a _ w4 ⟨b5, rfl, hl5, hE, hB5⟩ hf
 have hne3_5 : b3 ≠ b5 := by have := hB3.lt; omega
 have hlo5 := Nat.le_trans hW.size hl5
 replace hB2 := hB2.below hE
 replace hB3 := hB3.below hE
 replace hW := btr hW hE
 clear hE
 refine l_f hf rfl (ef_alloc (zs := [.int .i64 0, .int .i64 0, .int .i64 0, .int .i64 0, .int .i64 0]) z_189 rfl) ?_; rintro a _ w5 ⟨b6, rfl, hl6, hE, hB6⟩ hf
 have hne3_6 : b3 ≠ b6 := by have := hB3.lt; omega
 have hne5_6 : b5 ≠ b6 := by have := hB5.lt; omega
 have hlo6 := Nat.le_trans hW.size hl6
 replace hB2 := hB2.below hE
 replace hB3 := hB3.below hE
 replace hB5 := hB5.below hE
 replace hW := btr hW hE
 clear hE
 refine l_f0 hf (ef_store (vs := [.int .i64 ((dPow 0).num.a), .int .i64 ((dPow 0).num.b), .int .i64 ((dPow 0).num.c), .int .i64 ((dPow 0).num.d), .int .i64 ((dPow 0).exp)]) (l' := [.int .i64 ((dPow 0).num.a), .int .i64 ((dPow 0).num.b), .int .i64 ((dPow 0).num.c), .int .i64 ((dPow 0).num.d), .int .i64 ((dPow 0).exp)]) hf rfl rfl sz_189 hB5 rfl rfl rfl rfl rfl) ?_; rintro a _ w6 ⟨ho, hb⟩ hf
 have hold := hB5
 replace hB2 := hB2.only ho (Blk.ne hB2 hold rfl)
 replace hB3 := hB3.only ho (by omega)
 replace hB6 := hB6.only ho (by omega)
 replace hW := Below.only hW ho hlo5
 clear hold
 have hB5 := hb
 clear hb ho
 refine l_f0 hf (ef_store (vs := [.int .i64 0, .int .i64 0, .int .i64 0, .int .i64 0, .int .i64 0]) (l' := [.int .i64 0, .int .i64 0, .int .i64 0, .int .i64 0, .int .i64 0]) hf rfl rfl sz_189 hB6 rfl rfl rfl rfl rfl) ?_; rintro a _ w7 ⟨ho, hb⟩ hf
 have hold := hB6
 replace hB2 := hB2.only ho (Blk.ne hB2 hold rfl)
 replace hB3 := hB3.only ho (by omega)
 replace hB5 := hB5.only ho (by omega)
 replace hW := Below.only hW ho hlo6
 clear hold
 have hB6 := hb
 clear hb ho
 refine wpList_nil ?_
 refine hK4 _ _ ?_; try clear hK4 K4
 refine wp_seq_k ?_; intro K7 hK7
 refine wp_region_lit ?_
 refine l_mv hf rfl rfl ?_; intro a hf
 refine l_as hf rfl rfl ?_; intro a hf
 refine wpList_nil ?_
 refine hK7 _ _ ?_; try clear hK7 K7
 refine wp_seq_k ?_; intro K8 hK8
 refine wp_seq_k ?_; intro K9 hK9
 refine wp_region_lit ?_
 refine l_e hf rfl (ev_fieldB hf rfl fd_107_0 (m := 0) rfl) ?_; intro a hf
 refine l_e hf rfl (ev_load1 hf rfl t1_3 (hB2.at 0)) ?_; intro a hf
 refine wpList_nil ?_
 refine hK9 _ _ ?_; try clear hK9 K9
 refine wp_block ?_
 refine wp_seq_k ?_; intro K10 hK10
 refine wp_region_lit ?_
 refine l_e hf rfl (ev_eql hf rfl rfl) ?_; intro a hf
 refine l_as hf rfl rfl ?_; intro a hf
 refine wpList_nil ?_
 refine hK10 _ _ ?_; try clear hK10 K10
 refine c_if hf rfl (fun hc11 => ?_) (fun hc11 => ?_)
 ·have hc11b := hc11
  have hk := eq_of_beq hc11
  have h8 : ¬ g.k ≤ 8 := by omega
  have hto : toS n g col = col := by simp [toS, hk]
  have hv : valS n g col = dPow 1 := by simp [valS, hk]
  refine wp_region_lit ?_
  refine l_f hf rfl (ef_call (vs := [.int .i64 1]) hf rfl ff_209 (F209 _ 1)) ?_; rintro a _ w8 ⟨rfl, hE⟩ hf
  replace hB2 := hB2.below hE
  replace hB3 := hB3.below hE
  replace hB5 := hB5.below hE
  replace hB6 := hB6.below hE
  replace hW := btr hW hE
  clear hE
  refine l_f0 hf (ef_store (vs := [.int .i64 ((dPow 1).num.a), .int .i64 ((dPow 1).num.b), .int .i64 ((dPow 1).num.c), .int .i64 ((dPow 1).num.d), .int .i64 ((dPow 1).exp)]) (l' := [.int .i64 ((dPow 1).num.a), .int .i64 ((dPow 1).num.b), .int .i64 ((dPow 1).num.c), .int .i64 ((dPow 1).num.d), .int .i64 ((dPow 1).exp)]) hf rfl rfl sz_189 hB5 rfl rfl rfl rfl rfl) ?_; rintro a _ w9 ⟨ho, hb⟩ hf
  have hold := hB5
  replace hB2 := hB2.only ho (Blk.ne hB2 hold rfl)
  replace hB3 := hB3.only ho (by omega)
  replace hB6 := hB6.only ho (by omega)
  replace hW := Below.only hW ho hlo5
  clear hold
  have hB5 := hb
  clear hb ho
  refine wpList_nil ?_
  refine x_norm ?_
  refine hK8 _ _ ?_; try clear hK8 K8
  refine wp_seq_k ?_; intro K12 hK12
  refine wp_seq_k ?_; intro K13 hK13
  refine wp_region_lit ?_
  refine l_mv hf rfl rfl ?_; intro a hf
  refine l_mv hf rfl rfl ?_; intro a hf
  refine l_e hf rfl (ev_eql hf rfl rfl) ?_; intro a hf
  refine wpList_nil ?_
  refine hK13 _ _ ?_; try clear hK13 K13
  refine c_if hf rfl (fun hc14 => ?_) (fun hc14 => ?_)
  ·have hc14b := hc14
   have hfin : cellS n g row col = valS n g col := by rw [cellS, if_neg h8, if_pos ((eq_of_beq hc14).trans hto.symm)]
   rw [hv] at hfin
   refine wp_seq_k ?_; intro K15 hK15
   refine wp_region_lit ?_
   refine l_e hf rfl (ev_loadN (l := [.int .i64 ((dPow 1).num.a), .int .i64 ((dPow 1).num.b), .int .i64 ((dPow 1).num.c), .int .i64 ((dPow 1).num.d), .int .i64 ((dPow 1).exp)]) hf rfl tN_189 (hB5.at 0) rfl) ?_; intro a hf
   refine l_f0 hf (ef_store (vs := [.int .i64 ((dPow 1).num.a), .int .i64 ((dPow 1).num.b), .int .i64 ((dPow 1).num.c), .int .i64 ((dPow 1).num.d), .int .i64 ((dPow 1).exp)]) (l' := [.int .i64 ((dPow 1).num.a), .int .i64 ((dPow 1).num.b), .int .i64 ((dPow 1).num.c), .int .i64 ((dPow 1).num.d), .int .i64 ((dPow 1).exp)]) hf rfl rfl sz_189 hB3 rfl rfl rfl rfl rfl) ?_; rintro a _ w10 ⟨ho, hb⟩ hf
   have hold := hB3
   replace hB2 := hB2.only ho (Blk.ne hB2 hold rfl)
   replace hB5 := hB5.only ho (by omega)
   replace hB6 := hB6.only ho (by omega)
   replace hW := Below.only hW ho hlo3
   clear hold
   have hB3 := hb
   clear hb ho
   refine wpList_nil ?_
   refine hK15 _ _ ?_; try clear hK15 K15
   refine wp_ret ?_
   refine x_retS ?_
   refine c_ret hf (res1 hf rfl (ResV.cellN (l := [.int .i64 ((dPow 1).num.a), .int .i64 ((dPow 1).num.b), .int .i64 ((dPow 1).num.c), .int .i64 ((dPow 1).num.d), .int .i64 ((dPow 1).exp)]) rfl tN_189 (hB3.at 0) rfl)) ?_
   exact ⟨(by rw [hfin]; try rfl), hW⟩
  ·have hc14b := hc14
   have hfin : cellS n g row col = dZ := by rw [cellS, if_neg h8, if_neg (fun e9 => ne_of_beqF hc14 (e9.trans hto))]
   refine wp_skip ?_
   refine hK12 _ _ ?_; try clear hK12 K12
   refine wp_seq_k ?_; intro K16 hK16
   refine wp_region_lit ?_
   refine l_e hf rfl (ev_loadN (l := [.int .i64 0, .int .i64 0, .int .i64 0, .int .i64 0, .int .i64 0]) hf rfl tN_189 (hB6.at 0) rfl) ?_; intro a hf
   refine l_f0 hf (ef_store (vs := [.int .i64 0, .int .i64 0, .int .i64 0, .int .i64 0, .int .i64 0]) (l' := [.int .i64 0, .int .i64 0, .int .i64 0, .int .i64 0, .int .i64 0]) hf rfl rfl sz_189 hB3 rfl rfl rfl rfl rfl) ?_; rintro a _ w11 ⟨ho, hb⟩ hf
   have hold := hB3
   replace hB2 := hB2.only ho (Blk.ne hB2 hold rfl)
   replace hB5 := hB5.only ho (by omega)
   replace hB6 := hB6.only ho (by omega)
   replace hW := Below.only hW ho hlo3
   clear hold
   have hB3 := hb
   clear hb ho
   refine wpList_nil ?_
   refine hK16 _ _ ?_; try clear hK16 K16
   refine wp_ret ?_
   refine c_ret hf (res1 hf rfl (ResV.cellN (l := [.int .i64 0, .int .i64 0, .int .i64 0, .int .i64 0, .int .i64 0]) rfl tN_189 (hB3.at 0) rfl)) ?_
   exact ⟨(by rw [hfin]; try rfl), hW⟩
 ·have hc11b := hc11
  have h12 := ne_of_beqF hc11
  refine wp_seq_k ?_; intro K17 hK17
  refine wp_region_lit ?_
  refine l_e hf rfl (ev_eql hf rfl rfl) ?_; intro a hf
  refine l_as hf rfl rfl ?_; intro a hf
  refine wpList_nil ?_
  refine hK17 _ _ ?_; try clear hK17 K17
  refine c_if hf rfl (fun hc18 => ?_) (fun hc18 => ?_)
  ·have hc18b := hc18
   have hk := eq_of_beq hc18
   have h8 : ¬ g.k ≤ 8 := by omega
   have hv : valS n g col = dPow 0 := by simp [valS, hk]
   refine wp_seq_k ?_; intro K19 hK19
   refine wp_region_lit ?_
   refine l_mv hf rfl rfl ?_; intro a hf
   refine l_mv hf rfl rfl ?_; intro a hf
   refine l_e hf rfl (ev_fieldB hf rfl fd_107_1 (m := 1) rfl) ?_; intro a hf
   refine l_e hf rfl (ev_load1 hf rfl t1_3 (hB2.at 1)) ?_; intro a hf
   refine l_f hf rfl (ef_call (vs := [.int .i64 n, .int .i64 col, .int .i64 g.a]) hf rfl ff_229 (F229 _ n col g.a (by omega) (by omega) (by omega))) ?_; rintro a _ _ ⟨rfl, rfl⟩ hf
   refine l_e hf rfl (ev_eql hf rfl rfl) ?_; intro a hf
   refine wpList_nil ?_
   refine hK19 _ _ ?_; try clear hK19 K19
   refine c_if hf rfl (fun hc20 => ?_) (fun hc20 => ?_)
   ·have hc20b := hc20
    have hto : toS n g col = flipF n col g.b := by rw [toS, if_pos hk, if_pos (eq_of_beq hc20)]
    refine wp_region_lit ?_
    refine l_mv hf rfl rfl ?_; intro a hf
    refine l_mv hf rfl rfl ?_; intro a hf
    refine l_e hf rfl (ev_subx hf rfl rfl (by omega) (by omega)) ?_; intro a hf
    refine l_e hf rfl (ev_fieldB hf rfl fd_107_2 (m := 2) rfl) ?_; intro a hf
    refine l_e hf rfl (ev_load1 hf rfl t1_3 (hB2.at 2)) ?_; intro a hf
    refine l_e hf rfl (ev_subx hf rfl rfl (by omega) (by omega)) ?_; intro a hf
    refine l_e hf rfl (ev_toU (m := (n - 1 - g.b).toNat) Tryz.underlying3 Tryz.underlying181 hf rfl (by omega) (by omega)) ?_; intro a hf
    refine l_e hf rfl (ev_shl (m := (n - 1 - g.b).toNat) hf rfl rfl rfl (by omega)) ?_; intro a hf
    refine l_e hf rfl (ev_xor hf rfl rfl) ?_; intro a hf
    refine l_as hf rfl rfl ?_; intro a hf
    refine wpList_nil ?_
    refine x_norm ?_
    refine hK8 _ _ ?_; try clear hK8 K8
    refine wp_seq_k ?_; intro K21 hK21
    refine wp_seq_k ?_; intro K22 hK22
    refine wp_region_lit ?_
    refine l_mv hf rfl rfl ?_; intro a hf
    refine l_mv hf rfl rfl ?_; intro a hf
    refine l_e hf rfl (ev_eql hf rfl rfl) ?_; intro a hf
    refine wpList_nil ?_
    refine hK22 _ _ ?_; try clear hK22 K22
    refine c_if hf rfl (fun hc23 => ?_) (fun hc23 => ?_)
    ·have hc23b := hc23
     have hfin : cellS n g row col = valS n g col := by rw [cellS, if_neg h8, if_pos ((eq_of_beq hc23).trans hto.symm)]
     rw [hv] at hfin
     refine wp_seq_k ?_; intro K24 hK24
     refine wp_region_lit ?_
     refine l_e hf rfl (ev_loadN (l := [.int .i64 ((dPow 0).num.a), .int .i64 ((dPow 0).num.b), .int .i64 ((dPow 0).num.c), .int .i64 ((dPow 0).num.d), .int .i64 ((dPow 0).exp)]) hf rfl tN_189 (hB5.at 0) rfl) ?_; intro a hf
     refine l_f0 hf (ef_store (vs := [.int .i64 ((dPow 0).num.a), .int .i64 ((dPow 0).num.b), .int .i64 ((dPow 0).num.c), .int .i64 ((dPow 0).num.d), .int .i64 ((dPow 0).exp)]) (l' := [.int .i64 ((dPow 0).num.a), .int .i64 ((dPow 0).num.b), .int .i64 ((dPow 0).num.c), .int .i64 ((dPow 0).num.d), .int .i64 ((dPow 0).exp)]) hf rfl rfl sz_189 hB3 rfl rfl rfl rfl rfl) ?_; rintro a _ w12 ⟨ho, hb⟩ hf
     have hold := hB3
     replace hB2 := hB2.only ho (Blk.ne hB2 hold rfl)
     replace hB5 := hB5.only ho (by omega)
     replace hB6 := hB6.only ho (by omega)
     replace hW := Below.only hW ho hlo3
     clear hold
     have hB3 := hb
     clear hb ho
     refine wpList_nil ?_
     refine hK24 _ _ ?_; try clear hK24 K24
     refine wp_ret ?_
     refine x_retS ?_
     refine c_ret hf (res1 hf rfl (ResV.cellN (l := [.int .i64 ((dPow 0).num.a), .int .i64 ((dPow 0).num.b), .int .i64 ((dPow 0).num.c), .int .i64 ((dPow 0).num.d), .int .i64 ((dPow 0).exp)]) rfl tN_189 (hB3.at 0) rfl)) ?_
     exact ⟨(by rw [hfin]; try rfl), hW⟩
    ·have hc23b := hc23
     have hfin : cellS n g row col = dZ := by rw [cellS, if_neg h8, if_neg (fun e9 => ne_of_beqF hc23 (e9.trans hto))]
     refine wp_skip ?_
     refine hK21 _ _ ?_; try clear hK21 K21
     refine wp_seq_k ?_; intro K25 hK25
     refine wp_region_lit ?_
     refine l_e hf rfl (ev_loadN (l := [.int .i64 0, .int .i64 0, .int .i64 0, .int .i64 0, .int .i64 0]) hf rfl tN_189 (hB6.at 0) rfl) ?_; intro a hf
     refine l_f0 hf (ef_store (vs := [.int .i64 0, .int .i64 0, .int .i64 0, .int .i64 0, .int .i64 0]) (l' := [.int .i64 0, .int .i64 0, .int .i64 0, .int .i64 0, .int .i64 0]) hf rfl rfl sz_189 hB3 rfl rfl rfl rfl rfl) ?_; rintro a _ w13 ⟨ho, hb⟩ hf
     have hold := hB3
     replace hB2 := hB2.only ho (Blk.ne hB2 hold rfl)
     replace hB5 := hB5.only ho (by omega)
     replace hB6 := hB6.only ho (by omega)
     replace hW := Below.only hW ho hlo3
     clear hold
     have hB3 := hb
     clear hb ho
     refine wpList_nil ?_
     refine hK25 _ _ ?_; try clear hK25 K25
     refine wp_ret ?_
     refine c_ret hf (res1 hf rfl (ResV.cellN (l := [.int .i64 0, .int .i64 0, .int .i64 0, .int .i64 0, .int .i64 0]) rfl tN_189 (hB3.at 0) rfl)) ?_
     exact ⟨(by rw [hfin]; try rfl), hW⟩
   ·have hc20b := hc20
    have hto : toS n g col = col := by rw [toS, if_pos hk, if_neg (ne_of_beqF hc20)]
    refine wp_skip ?_
    refine x_norm ?_
    refine hK8 _ _ ?_; try clear hK8 K8
    refine wp_seq_k ?_; intro K26 hK26
    refine wp_seq_k ?_; intro K27 hK27
    refine wp_region_lit ?_
    refine l_mv hf rfl rfl ?_; intro a hf
    refine l_mv hf rfl rfl ?_; intro a hf
    refine l_e hf rfl (ev_eql hf rfl rfl) ?_; intro a hf
    refine wpList_nil ?_
    refine hK27 _ _ ?_; try clear hK27 K27
    refine c_if hf rfl (fun hc28 => ?_) (fun hc28 => ?_)
    ·have hc28b := hc28
     have hfin : cellS n g row col = valS n g col := by rw [cellS, if_neg h8, if_pos ((eq_of_beq hc28).trans hto.symm)]
     rw [hv] at hfin
     refine wp_seq_k ?_; intro K29 hK29
     refine wp_region_lit ?_
     refine l_e hf rfl (ev_loadN (l := [.int .i64 ((dPow 0).num.a), .int .i64 ((dPow 0).num.b), .int .i64 ((dPow 0).num.c), .int .i64 ((dPow 0).num.d), .int .i64 ((dPow 0).exp)]) hf rfl tN_189 (hB5.at 0) rfl) ?_; intro a hf
     refine l_f0 hf (ef_store (vs := [.int .i64 ((dPow 0).num.a), .int .i64 ((dPow 0).num.b), .int .i64 ((dPow 0).num.c), .int .i64 ((dPow 0).num.d), .int .i64 ((dPow 0).exp)]) (l' := [.int .i64 ((dPow 0).num.a), .int .i64 ((dPow 0).num.b), .int .i64 ((dPow 0).num.c), .int .i64 ((dPow 0).num.d), .int .i64 ((dPow 0).exp)]) hf rfl rfl sz_189 hB3 rfl rfl rfl rfl rfl) ?_; rintro a _ w14 ⟨ho, hb⟩ hf
     have hold := hB3
     replace hB2 := hB2.only ho (Blk.ne hB2 hold rfl)
     replace hB5 := hB5.only ho (by omega)
     replace hB6 := hB6.only ho (by omega)
     replace hW := Below.only hW ho hlo3
     clear hold
     have hB3 := hb
     clear hb ho
     refine wpList_nil ?_
     refine hK29 _ _ ?_; try clear hK29 K29
     refine wp_ret ?_
     refine x_retS ?_
     refine c_ret hf (res1 hf rfl (ResV.cellN (l := [.int .i64 ((dPow 0).num.a), .int .i64 ((dPow 0).num.b), .int .i64 ((dPow 0).num.c), .int .i64 ((dPow 0).num.d), .int .i64 ((dPow 0).exp)]) rfl tN_189 (hB3.at 0) rfl)) ?_
     exact ⟨(by rw [hfin]; try rfl), hW⟩
    ·have hc28b := hc28
     have hfin : cellS n g row col = dZ := by rw [cellS, if_neg h8, if_neg (fun e9 => ne_of_beqF hc28 (e9.trans hto))]
     refine wp_skip ?_
     refine hK26 _ _ ?_; try clear hK26 K26
     refine wp_seq_k ?_; intro K30 hK30
     refine wp_region_lit ?_
     refine l_e hf rfl (ev_loadN (l := [.int .i64 0, .int .i64 0, .int .i64 0, .int .i64 0, .int .i64 0]) hf rfl tN_189 (hB6.at 0) rfl) ?_; intro a hf
     refine l_f0 hf (ef_store (vs := [.int .i64 0, .int .i64 0, .int .i64 0, .int .i64 0, .int .i64 0]) (l' := [.int .i64 0, .int .i64 0, .int .i64 0, .int .i64 0, .int .i64 0]) hf rfl rfl sz_189 hB3 rfl rfl rfl rfl rfl) ?_; rintro a _ w15 ⟨ho, hb⟩ hf
     have hold := hB3
     replace hB2 := hB2.only ho (Blk.ne hB2 hold rfl)
     replace hB5 := hB5.only ho (by omega)
     replace hB6 := hB6.only ho (by omega)
     replace hW := Below.only hW ho hlo3
     clear hold
     have hB3 := hb
     clear hb ho
     refine wpList_nil ?_
     refine hK30 _ _ ?_; try clear hK30 K30
     refine wp_ret ?_
     refine c_ret hf (res1 hf rfl (ResV.cellN (l := [.int .i64 0, .int .i64 0, .int .i64 0, .int .i64 0, .int .i64 0]) rfl tN_189 (hB3.at 0) rfl)) ?_
     exact ⟨(by rw [hfin]; try rfl), hW⟩
  ·have hc18b := hc18
   have h9 := ne_of_beqF hc18
   refine wp_seq_k ?_; intro K31 hK31
   refine wp_region_lit ?_
   refine l_e hf rfl (ev_eql hf rfl rfl) ?_; intro a hf
   refine l_as hf rfl rfl ?_; intro a hf
   refine wpList_nil ?_
   refine hK31 _ _ ?_; try clear hK31 K31
   refine c_if hf rfl (fun hc32 => ?_) (fun hc32 => ?_)
   ·have hc32b := hc32
    have hk := eq_of_beq hc32
    have h8 : ¬ g.k ≤ 8 := by omega
    have hto : toS n g col = col := by simp [toS, hk]
    refine wp_seq_k ?_; intro K33 hK33
    refine c_cut (fun a w => Fr a 119 [(2, .int .i64 row), (8, .pointer (some ⟨b3, 0, none⟩)), (9, .pointer (some ⟨b5, 0, none⟩)), (10, .pointer (some ⟨b6, 0, none⟩)), (11, .int .i64 col), (82, .bool (((bitF n col g.a) == 1) && ((bitF n col g.b) == 1)))] ∧ w7 = w) ?_ ?_
    ·refine wp_region_lit ?_
     refine l_mv hf rfl rfl ?_; intro a hf
     refine l_mv hf rfl rfl ?_; intro a hf
     refine l_e hf rfl (ev_fieldB hf rfl fd_107_1 (m := 1) rfl) ?_; intro a hf
     refine l_e hf rfl (ev_load1 hf rfl t1_3 (hB2.at 1)) ?_; intro a hf
     refine l_f hf rfl (ef_call (vs := [.int .i64 n, .int .i64 col, .int .i64 g.a]) hf rfl ff_229 (F229 _ n col g.a (by omega) (by omega) (by omega))) ?_; rintro a _ _ ⟨rfl, rfl⟩ hf
     refine l_e hf rfl (ev_eql hf rfl rfl) ?_; intro a hf
     refine l_mv hf rfl rfl ?_; intro a hf
     refine g_split hf (t := 75) rfl (fun hg34 => ?_) (fun hg34 => ?_)
     ·refine l_ev hf ⟨_, _, rfl, rfl, hg34⟩ rfl rfl (ev_move hf rfl) ?_; intro a hf
      refine l_ev hf ⟨_, _, rfl, rfl, hg34⟩ rfl rfl (ev_move hf rfl) ?_; intro a hf
      refine l_ev hf ⟨_, _, rfl, rfl, hg34⟩ rfl rfl (ev_fieldB hf rfl fd_107_2 (m := 2) rfl) ?_; intro a hf
      refine l_ev hf ⟨_, _, rfl, rfl, hg34⟩ rfl rfl (ev_load1 hf rfl t1_3 (hB2.at 2)) ?_; intro a hf
      refine l_eff hf ⟨_, _, rfl, rfl, hg34⟩ rfl rfl (ef_call (vs := [.int .i64 n, .int .i64 col, .int .i64 g.b]) hf rfl ff_229 (F229 _ n col g.b (by omega) (by omega) (by omega))) ?_; rintro a _ _ ⟨rfl, rfl⟩ hf
      refine l_ev hf ⟨_, _, rfl, rfl, hg34⟩ rfl rfl (ev_eql hf rfl rfl) ?_; intro a hf
      refine l_e hf rfl (ev_pickT hf rfl hg34 rfl) ?_; intro a hf
      refine wpList_nil ?_
      exact ⟨hf.sub ⟨rfl, rfl, rfl, rfl, rfl, look_bool rfl (by first | rfl | (simp only [hc11b, hc18b, hc32b, hg34, Bool.true_and, Bool.false_and, Bool.true_or, Bool.false_or]; done) | simp [hc11b, hc18b, hc32b, hg34]), trivial⟩, rfl⟩
     ·refine l_pass hf ⟨_, _, rfl, rfl, hg34⟩ rfl rfl ?_; intro a hf
      refine l_pass hf ⟨_, _, rfl, rfl, hg34⟩ rfl rfl ?_; intro a hf
      refine l_pass hf ⟨_, _, rfl, rfl, hg34⟩ rfl rfl ?_; intro a hf
      refine l_pass hf ⟨_, _, rfl, rfl, hg34⟩ rfl rfl ?_; intro a hf
      refine l_pass hf ⟨_, _, rfl, rfl, hg34⟩ rfl rfl ?_; intro a hf
      refine l_pass hf ⟨_, _, rfl, rfl, hg34⟩ rfl rfl ?_; intro a hf
      refine l_e hf rfl (ev_pickF hf rfl hg34 rfl) ?_; intro a hf
      refine wpList_nil ?_
      exact ⟨hf.sub ⟨rfl, rfl, rfl, rfl, rfl, look_bool rfl (by first | rfl | (simp only [hc11b, hc18b, hc32b, hg34, Bool.true_and, Bool.false_and, Bool.true_or, Bool.false_or]; done) | simp [hc11b, hc18b, hc32b, hg34]), trivial⟩, rfl⟩
    rintro a _ ⟨hf, rfl⟩
    refine hK33 _ _ ?_; try clear hK33 K33
    refine c_if hf rfl (fun hc35 => ?_) (fun hc35 => ?_)
    ·have hc35b := hc35
     have hv : valS n g col = dPow 4 := by have h9 : bitF n col g.a = 1 ∧ bitF n col g.b = 1 := (by simpa using hc35); simp [valS, hk, h9]
     refine wp_region_lit ?_
     refine l_f hf rfl (ef_call (vs := [.int .i64 4]) hf rfl ff_209 (F209 _ 4)) ?_; rintro a _ w16 ⟨rfl, hE⟩ hf
     replace hB2 := hB2.below hE
     replace hB3 := hB3.below hE
     replace hB5 := hB5.below hE
     replace hB6 := hB6.below hE
     replace hW := btr hW hE
     clear hE
     refine l_f0 hf (ef_store (vs := [.int .i64 ((dPow 4).num.a), .int .i64 ((dPow 4).num.b), .int .i64 ((dPow 4).num.c), .int .i64 ((dPow 4).num.d), .int .i64 ((dPow 4).exp)]) (l' := [.int .i64 ((dPow 4).num.a), .int .i64 ((dPow 4).num.b), .int .i64 ((dPow 4).num.c), .int .i64 ((dPow 4).num.d), .int .i64 ((dPow 4).exp)]) hf rfl rfl sz_189 hB5 rfl rfl rfl rfl rfl) ?_; rintro a _ w17 ⟨ho, hb⟩ hf
     have hold := hB5
     replace hB2 := hB2.only ho (Blk.ne hB2 hold rfl)
     replace hB3 := hB3.only ho (by omega)
     replace hB6 := hB6.only ho (by omega)
     replace hW := Below.only hW ho hlo5
     clear hold
     have hB5 := hb
     clear hb ho
     refine wpList_nil ?_
     refine x_norm ?_
     refine hK8 _ _ ?_; try clear hK8 K8
     refine wp_seq_k ?_; intro K36 hK36
     refine wp_seq_k ?_; intro K37 hK37
     refine wp_region_lit ?_
     refine l_mv hf rfl rfl ?_; intro a hf
     refine l_mv hf rfl rfl ?_; intro a hf
     refine l_e hf rfl (ev_eql hf rfl rfl) ?_; intro a hf
     refine wpList_nil ?_
     refine hK37 _ _ ?_; try clear hK37 K37
     refine c_if hf rfl (fun hc38 => ?_) (fun hc38 => ?_)
     ·have hc38b := hc38
      have hfin : cellS n g row col = valS n g col := by rw [cellS, if_neg h8, if_pos ((eq_of_beq hc38).trans hto.symm)]
      rw [hv] at hfin
      refine wp_seq_k ?_; intro K39 hK39
      refine wp_region_lit ?_
      refine l_e hf rfl (ev_loadN (l := [.int .i64 ((dPow 4).num.a), .int .i64 ((dPow 4).num.b), .int .i64 ((dPow 4).num.c), .int .i64 ((dPow 4).num.d), .int .i64 ((dPow 4).exp)]) hf rfl tN_189 (hB5.at 0) rfl) ?_; intro a hf
      refine l_f0 hf (ef_store (vs := [.int .i64 ((dPow 4).num.a), .int .i64 ((dPow 4).num.b), .int .i64 ((dPow 4).num.c), .int .i64 ((dPow 4).num.d), .int .i64 ((dPow 4).exp)]) (l' := [.int .i64 ((dPow 4).num.a), .int .i64 ((dPow 4).num.b), .int .i64 ((dPow 4).num.c), .int .i64 ((dPow 4).num.d), .int .i64 ((dPow 4).exp)]) hf rfl rfl sz_189 hB3 rfl rfl rfl rfl rfl) ?_; rintro a _ w18 ⟨ho, hb⟩ hf
      have hold := hB3
      replace hB2 := hB2.only ho (Blk.ne hB2 hold rfl)
      replace hB5 := hB5.only ho (by omega)
      replace hB6 := hB6.only ho (by omega)
      replace hW := Below.only hW ho hlo3
      clear hold
      have hB3 := hb
      clear hb ho
      refine wpList_nil ?_
      refine hK39 _ _ ?_; try clear hK39 K39
      refine wp_ret ?_
      refine x_retS ?_
      refine c_ret hf (res1 hf rfl (ResV.cellN (l := [.int .i64 ((dPow 4).num.a), .int .i64 ((dPow 4).num.b), .int .i64 ((dPow 4).num.c), .int .i64 ((dPow 4).num.d), .int .i64 ((dPow 4).exp)]) rfl tN_189 (hB3.at 0) rfl)) ?_
      exact ⟨(by rw [hfin]; try rfl), hW⟩
     ·have hc38b := hc38
      have hfin : cellS n g row col = dZ := by rw [cellS, if_neg h8, if_neg (fun e9 => ne_of_beqF hc38 (e9.trans hto))]
      refine wp_skip ?_
      refine hK36 _ _ ?_; try clear hK36 K36
      refine wp_seq_k ?_; intro K40 hK40
      refine wp_region_lit ?_
      refine l_e hf rfl (ev_loadN (l := [.int .i64 0, .int .i64 0, .int .i64 0, .int .i64 0, .int .i64 0]) hf rfl tN_189 (hB6.at 0) rfl) ?_; intro a hf
      refine l_f0 hf (ef_store (vs := [.int .i64 0, .int .i64 0, .int .i64 0, .int .i64 0, .int .i64 0]) (l' := [.int .i64 0, .int .i64 0, .int .i64 0, .int .i64 0, .int .i64 0]) hf rfl rfl sz_189 hB3 rfl rfl rfl rfl rfl) ?_; rintro a _ w19 ⟨ho, hb⟩ hf
      have hold := hB3
      replace hB2 := hB2.only ho (Blk.ne hB2 hold rfl)
      replace hB5 := hB5.only ho (by omega)
      replace hB6 := hB6.only ho (by omega)
      replace hW := Below.only hW ho hlo3
      clear hold
      have hB3 := hb
      clear hb ho
      refine wpList_nil ?_
      refine hK40 _ _ ?_; try clear hK40 K40
      refine wp_ret ?_
      refine c_ret hf (res1 hf rfl (ResV.cellN (l := [.int .i64 0, .int .i64 0, .int .i64 0, .int .i64 0, .int .i64 0]) rfl tN_189 (hB3.at 0) rfl)) ?_
      exact ⟨(by rw [hfin]; try rfl), hW⟩
    ·have hc35b := hc35
     have hv : valS n g col = dPow 0 := by have h9 : ¬ (bitF n col g.a = 1 ∧ bitF n col g.b = 1) := (by simpa using hc35); simp only [valS, hk, h9]; simp
     refine wp_skip ?_
     refine x_norm ?_
     refine hK8 _ _ ?_; try clear hK8 K8
     refine wp_seq_k ?_; intro K41 hK41
     refine wp_seq_k ?_; intro K42 hK42
     refine wp_region_lit ?_
     refine l_mv hf rfl rfl ?_; intro a hf
     refine l_mv hf rfl rfl ?_; intro a hf
     refine l_e hf rfl (ev_eql hf rfl rfl) ?_; intro a hf
     refine wpList_nil ?_
     refine hK42 _ _ ?_; try clear hK42 K42
     refine c_if hf rfl (fun hc43 => ?_) (fun hc43 => ?_)
     ·have hc43b := hc43
      have hfin : cellS n g row col = valS n g col := by rw [cellS, if_neg h8, if_pos ((eq_of_beq hc43).trans hto.symm)]
      rw [hv] at hfin
      refine wp_seq_k ?_; intro K44 hK44
      refine wp_region_lit ?_
      refine l_e hf rfl (ev_loadN (l := [.int .i64 ((dPow 0).num.a), .int .i64 ((dPow 0).num.b), .int .i64 ((dPow 0).num.c), .int .i64 ((dPow 0).num.d), .int .i64 ((dPow 0).exp)]) hf rfl tN_189 (hB5.at 0) rfl) ?_; intro a hf
      refine l_f0 hf (ef_store (vs := [.int .i64 ((dPow 0).num.a), .int .i64 ((dPow 0).num.b), .int .i64 ((dPow 0).num.c), .int .i64 ((dPow 0).num.d), .int .i64 ((dPow 0).exp)]) (l' := [.int .i64 ((dPow 0).num.a), .int .i64 ((dPow 0).num.b), .int .i64 ((dPow 0).num.c), .int .i64 ((dPow 0).num.d), .int .i64 ((dPow 0).exp)]) hf rfl rfl sz_189 hB3 rfl rfl rfl rfl rfl) ?_; rintro a _ w20 ⟨ho, hb⟩ hf
      have hold := hB3
      replace hB2 := hB2.only ho (Blk.ne hB2 hold rfl)
      replace hB5 := hB5.only ho (by omega)
      replace hB6 := hB6.only ho (by omega)
      replace hW := Below.only hW ho hlo3
      clear hold
      have hB3 := hb
      clear hb ho
      refine wpList_nil ?_
      refine hK44 _ _ ?_; try clear hK44 K44
      refine wp_ret ?_
      refine x_retS ?_
      refine c_ret hf (res1 hf rfl (ResV.cellN (l := [.int .i64 ((dPow 0).num.a), .int .i64 ((dPow 0).num.b), .int .i64 ((dPow 0).num.c), .int .i64 ((dPow 0).num.d), .int .i64 ((dPow 0).exp)]) rfl tN_189 (hB3.at 0) rfl)) ?_
      exact ⟨(by rw [hfin]; try rfl), hW⟩
     ·have hc43b := hc43
      have hfin : cellS n g row col = dZ := by rw [cellS, if_neg h8, if_neg (fun e9 => ne_of_beqF hc43 (e9.trans hto))]
      refine wp_skip ?_
      refine hK41 _ _ ?_; try clear hK41 K41
      refine wp_seq_k ?_; intro K45 hK45
      refine wp_region_lit ?_
      refine l_e hf rfl (ev_loadN (l := [.int .i64 0, .int .i64 0, .int .i64 0, .int .i64 0, .int .i64 0]) hf rfl tN_189 (hB6.at 0) rfl) ?_; intro a hf
      refine l_f0 hf (ef_store (vs := [.int .i64 0, .int .i64 0, .int .i64 0, .int .i64 0, .int .i64 0]) (l' := [.int .i64 0, .int .i64 0, .int .i64 0, .int .i64 0, .int .i64 0]) hf rfl rfl sz_189 hB3 rfl rfl rfl rfl rfl) ?_; rintro a _ w21 ⟨ho, hb⟩ hf
      have hold := hB3
      replace hB2 := hB2.only ho (Blk.ne hB2 hold rfl)
      replace hB5 := hB5.only ho (by omega)
      replace hB6 := hB6.only ho (by omega)
      replace hW := Below.only hW ho hlo3
      clear hold
      have hB3 := hb
      clear hb ho
      refine wpList_nil ?_
      refine hK45 _ _ ?_; try clear hK45 K45
      refine wp_ret ?_
      refine c_ret hf (res1 hf rfl (ResV.cellN (l := [.int .i64 0, .int .i64 0, .int .i64 0, .int .i64 0, .int .i64 0]) rfl tN_189 (hB3.at 0) rfl)) ?_
      exact ⟨(by rw [hfin]; try rfl), hW⟩
   ·have hc32b := hc32
    have h10 := ne_of_beqF hc32
    refine wp_seq_k ?_; intro K46 hK46
    refine wp_region_lit ?_
    refine l_e hf rfl (ev_eql hf rfl rfl) ?_; intro a hf
    refine l_as hf rfl rfl ?_; intro a hf
    refine wpList_nil ?_
    refine hK46 _ _ ?_; try clear hK46 K46
    refine c_if hf rfl (fun hc47 => ?_) (fun hc47 => ?_)
    ·have hc47b := hc47
     have hk := eq_of_beq hc47
     have h8 : ¬ g.k ≤ 8 := by omega
     have hv : valS n g col = dPow 0 := by simp [valS, hk]
     refine wp_seq_k ?_; intro K48 hK48
     refine wp_draw none (fun _ => false) mixed ?_
     intro w22 hE
     replace hB2 := hB2.below hE
     replace hB3 := hB3.below hE
     replace hB5 := hB5.below hE
     replace hB6 := hB6.below hE
     replace hW := btr hW hE
     clear hE
     refine s_e0 0 rfl (by kernel_rfl) hf rfl (fun _ => ev_move hf rfl) ?_; intro a hf
     refine s_e0 1 rfl (by kernel_rfl) hf rfl (fun _ => ev_move hf rfl) ?_; intro a hf
     refine s_e0 2 rfl (by kernel_rfl) hf rfl (fun _ => ev_fieldB hf rfl fd_107_1 (m := 1) rfl) ?_; intro a hf
     refine s_e 3 rfl (by kernel_rfl) (by kernel_rfl) hf rfl (ev_load1 hf rfl t1_3 (hB2.at 1)) ?_; intro a hf
     refine s_e0 5 rfl (by kernel_rfl) hf rfl (fun _ => ev_move hf rfl) ?_; intro a hf
     refine s_e0 6 rfl (by kernel_rfl) hf rfl (fun _ => ev_move hf rfl) ?_; intro a hf
     refine s_e0 7 rfl (by kernel_rfl) hf rfl (fun _ => ev_fieldB hf rfl fd_107_2 (m := 2) rfl) ?_; intro a hf
     refine s_e 8 rfl (by kernel_rfl) (by kernel_rfl) hf rfl (ev_load1 hf rfl t1_3 (hB2.at 2)) ?_; intro a hf
     refine s_one 4 (by kernel_rfl) ?_
     refine p_eff rfl hf trivial rfl rfl (Ef.mono (ef_call (vs := [.int .i64 n, .int .i64 col, .int .i64 g.a]) hf rfl ff_229 (F229 _ n col g.a (by omega) (by omega) (by omega))) (fun _ _ h => ⟨fun _ => by rw [← h.2]; exact Below.refl _ _, h⟩)) ?_; rintro a _ _ ⟨rfl, rfl⟩ hf
     refine s_one 9 (by kernel_rfl) ?_
     refine p_eff rfl hf trivial rfl rfl (Ef.mono (ef_call (vs := [.int .i64 n, .int .i64 col, .int .i64 g.b]) hf rfl ff_229 (F229 _ n col g.b (by omega) (by omega) (by omega))) (fun _ _ h => ⟨fun _ => by rw [← h.2]; exact Below.refl _ _, h⟩)) ?_; rintro a _ _ ⟨rfl, rfl⟩ hf
     refine s_e0 10 rfl (by kernel_rfl) hf rfl (fun _ => ev_neq hf rfl rfl) ?_; intro a hf
     refine s_done (by kernel_rfl) ?_
     refine hK48 _ _ ?_; try clear hK48 K48
     refine c_if hf rfl (fun hc49 => ?_) (fun hc49 => ?_)
     ·have hc49b := hc49
      have hto : toS n g col = flipF n (flipF n col g.a) g.b := by have h9 : bitF n col g.a ≠ bitF n col g.b := (by simpa using hc49); simp [toS, hk, h9]
      refine wp_region_lit ?_
      refine l_mv hf rfl rfl ?_; intro a hf
      refine l_mv hf rfl rfl ?_; intro a hf
      refine l_e hf rfl (ev_subx hf rfl rfl (by omega) (by omega)) ?_; intro a hf
      refine l_e hf rfl (ev_fieldB hf rfl fd_107_1 (m := 1) rfl) ?_; intro a hf
      refine l_e hf rfl (ev_load1 hf rfl t1_3 (hB2.at 1)) ?_; intro a hf
      refine l_e hf rfl (ev_subx hf rfl rfl (by omega) (by omega)) ?_; intro a hf
      refine l_e hf rfl (ev_toU (m := (n - 1 - g.a).toNat) Tryz.underlying3 Tryz.underlying181 hf rfl (by omega) (by omega)) ?_; intro a hf
      refine l_e hf rfl (ev_shl (m := (n - 1 - g.a).toNat) hf rfl rfl rfl (by omega)) ?_; intro a hf
      refine l_e hf rfl (ev_xor hf rfl rfl) ?_; intro a hf
      refine l_mv hf rfl rfl ?_; intro a hf
      refine l_e hf rfl (ev_subx hf rfl rfl (by omega) (by omega)) ?_; intro a hf
      refine l_e hf rfl (ev_fieldB hf rfl fd_107_2 (m := 2) rfl) ?_; intro a hf
      refine l_e hf rfl (ev_load1 hf rfl t1_3 (hB2.at 2)) ?_; intro a hf
      refine l_e hf rfl (ev_subx hf rfl rfl (by omega) (by omega)) ?_; intro a hf
      refine l_e hf rfl (ev_toU (m := (n - 1 - g.b).toNat) Tryz.underlying3 Tryz.underlying181 hf rfl (by omega) (by omega)) ?_; intro a hf
      refine l_e hf rfl (ev_shl (m := (n - 1 - g.b).toNat) hf rfl rfl rfl (by omega)) ?_; intro a hf
      refine l_e hf rfl (ev_xor hf rfl rfl) ?_; intro a hf
      refine l_as hf rfl rfl ?_; intro a hf
      refine wpList_nil ?_
      refine x_norm ?_
      refine hK8 _ _ ?_; try clear hK8 K8
      refine wp_seq_k ?_; intro K50 hK50
      refine wp_seq_k ?_; intro K51 hK51
      refine wp_region_lit ?_
      refine l_mv hf rfl rfl ?_; intro a hf
      refine l_mv hf rfl rfl ?_; intro a hf
      refine l_e hf rfl (ev_eql hf rfl rfl) ?_; intro a hf
      refine wpList_nil ?_
      refine hK51 _ _ ?_; try clear hK51 K51
      refine c_if hf rfl (fun hc52 => ?_) (fun hc52 => ?_)
      ·have hc52b := hc52
       have hfin : cellS n g row col = valS n g col := by rw [cellS, if_neg h8, if_pos ((eq_of_beq hc52).trans hto.symm)]
       rw [hv] at hfin
       refine wp_seq_k ?_; intro K53 hK53
       refine wp_region_lit ?_
       refine l_e hf rfl (ev_loadN (l := [.int .i64 ((dPow 0).num.a), .int .i64 ((dPow 0).num.b), .int .i64 ((dPow 0).num.c), .int .i64 ((dPow 0).num.d), .int .i64 ((dPow 0).exp)]) hf rfl tN_189 (hB5.at 0) rfl) ?_; intro a hf
       refine l_f0 hf (ef_store (vs := [.int .i64 ((dPow 0).num.a), .int .i64 ((dPow 0).num.b), .int .i64 ((dPow 0).num.c), .int .i64 ((dPow 0).num.d), .int .i64 ((dPow 0).exp)]) (l' := [.int .i64 ((dPow 0).num.a), .int .i64 ((dPow 0).num.b), .int .i64 ((dPow 0).num.c), .int .i64 ((dPow 0).num.d), .int .i64 ((dPow 0).exp)]) hf rfl rfl sz_189 hB3 rfl rfl rfl rfl rfl) ?_; rintro a _ w23 ⟨ho, hb⟩ hf
       have hold := hB3
       replace hB2 := hB2.only ho (Blk.ne hB2 hold rfl)
       replace hB5 := hB5.only ho (by omega)
       replace hB6 := hB6.only ho (by omega)
       replace hW := Below.only hW ho hlo3
       clear hold
       have hB3 := hb
       clear hb ho
       refine wpList_nil ?_
       refine hK53 _ _ ?_; try clear hK53 K53
       refine wp_ret ?_
       refine x_retS ?_
       refine c_ret hf (res1 hf rfl (ResV.cellN (l := [.int .i64 ((dPow 0).num.a), .int .i64 ((dPow 0).num.b), .int .i64 ((dPow 0).num.c), .int .i64 ((dPow 0).num.d), .int .i64 ((dPow 0).exp)]) rfl tN_189 (hB3.at 0) rfl)) ?_
       exact ⟨(by rw [hfin]; try rfl), hW⟩
      ·have hc52b := hc52
       have hfin : cellS n g row col = dZ := by rw [cellS, if_neg h8, if_neg (fun e9 => ne_of_beqF hc52 (e9.trans hto))]
       refine wp_skip ?_
       refine hK50 _ _ ?_; try clear hK50 K50
       refine wp_seq_k ?_; intro K54 hK54
       refine wp_region_lit ?_
       refine l_e hf rfl (ev_loadN (l := [.int .i64 0, .int .i64 0, .int .i64 0, .int .i64 0, .int .i64 0]) hf rfl tN_189 (hB6.at 0) rfl) ?_; intro a hf
       refine l_f0 hf (ef_store (vs := [.int .i64 0, .int .i64 0, .int .i64 0, .int .i64 0, .int .i64 0]) (l' := [.int .i64 0, .int .i64 0, .int .i64 0, .int .i64 0, .int .i64 0]) hf rfl rfl sz_189 hB3 rfl rfl rfl rfl rfl) ?_; rintro a _ w24 ⟨ho, hb⟩ hf
       have hold := hB3
       replace hB2 := hB2.only ho (Blk.ne hB2 hold rfl)
       replace hB5 := hB5.only ho (by omega)
       replace hB6 := hB6.only ho (by omega)
       replace hW := Below.only hW ho hlo3
       clear hold
       have hB3 := hb
       clear hb ho
       refine wpList_nil ?_
       refine hK54 _ _ ?_; try clear hK54 K54
       refine wp_ret ?_
       refine c_ret hf (res1 hf rfl (ResV.cellN (l := [.int .i64 0, .int .i64 0, .int .i64 0, .int .i64 0, .int .i64 0]) rfl tN_189 (hB3.at 0) rfl)) ?_
       exact ⟨(by rw [hfin]; try rfl), hW⟩
     ·have hc49b := hc49
      have hto : toS n g col = col := by have h9 : bitF n col g.a = bitF n col g.b := (by simpa using hc49); simp [toS, hk, h9]
      refine wp_skip ?_
      refine x_norm ?_
      refine hK8 _ _ ?_; try clear hK8 K8
      refine wp_seq_k ?_; intro K55 hK55
      refine wp_seq_k ?_; intro K56 hK56
      refine wp_region_lit ?_
      refine l_mv hf rfl rfl ?_; intro a hf
      refine l_mv hf rfl rfl ?_; intro a hf
      refine l_e hf rfl (ev_eql hf rfl rfl) ?_; intro a hf
      refine wpList_nil ?_
      refine hK56 _ _ ?_; try clear hK56 K56
      refine c_if hf rfl (fun hc57 => ?_) (fun hc57 => ?_)
      ·have hc57b := hc57
       have hfin : cellS n g row col = valS n g col := by rw [cellS, if_neg h8, if_pos ((eq_of_beq hc57).trans hto.symm)]
       rw [hv] at hfin
       refine wp_seq_k ?_; intro K58 hK58
       refine wp_region_lit ?_
       refine l_e hf rfl (ev_loadN (l := [.int .i64 ((dPow 0).num.a), .int .i64 ((dPow 0).num.b), .int .i64 ((dPow 0).num.c), .int .i64 ((dPow 0).num.d), .int .i64 ((dPow 0).exp)]) hf rfl tN_189 (hB5.at 0) rfl) ?_; intro a hf
       refine l_f0 hf (ef_store (vs := [.int .i64 ((dPow 0).num.a), .int .i64 ((dPow 0).num.b), .int .i64 ((dPow 0).num.c), .int .i64 ((dPow 0).num.d), .int .i64 ((dPow 0).exp)]) (l' := [.int .i64 ((dPow 0).num.a), .int .i64 ((dPow 0).num.b), .int .i64 ((dPow 0).num.c), .int .i64 ((dPow 0).num.d), .int .i64 ((dPow 0).exp)]) hf rfl rfl sz_189 hB3 rfl rfl rfl rfl rfl) ?_; rintro a _ w25 ⟨ho, hb⟩ hf
       have hold := hB3
       replace hB2 := hB2.only ho (Blk.ne hB2 hold rfl)
       replace hB5 := hB5.only ho (by omega)
       replace hB6 := hB6.only ho (by omega)
       replace hW := Below.only hW ho hlo3
       clear hold
       have hB3 := hb
       clear hb ho
       refine wpList_nil ?_
       refine hK58 _ _ ?_; try clear hK58 K58
       refine wp_ret ?_
       refine x_retS ?_
       refine c_ret hf (res1 hf rfl (ResV.cellN (l := [.int .i64 ((dPow 0).num.a), .int .i64 ((dPow 0).num.b), .int .i64 ((dPow 0).num.c), .int .i64 ((dPow 0).num.d), .int .i64 ((dPow 0).exp)]) rfl tN_189 (hB3.at 0) rfl)) ?_
       exact ⟨(by rw [hfin]; try rfl), hW⟩
      ·have hc57b := hc57
       have hfin : cellS n g row col = dZ := by rw [cellS, if_neg h8, if_neg (fun e9 => ne_of_beqF hc57 (e9.trans hto))]
       refine wp_skip ?_
       refine hK55 _ _ ?_; try clear hK55 K55
       refine wp_seq_k ?_; intro K59 hK59
       refine wp_region_lit ?_
       refine l_e hf rfl (ev_loadN (l := [.int .i64 0, .int .i64 0, .int .i64 0, .int .i64 0, .int .i64 0]) hf rfl tN_189 (hB6.at 0) rfl) ?_; intro a hf
       refine l_f0 hf (ef_store (vs := [.int .i64 0, .int .i64 0, .int .i64 0, .int .i64 0, .int .i64 0]) (l' := [.int .i64 0, .int .i64 0, .int .i64 0, .int .i64 0, .int .i64 0]) hf rfl rfl sz_189 hB3 rfl rfl rfl rfl rfl) ?_; rintro a _ w26 ⟨ho, hb⟩ hf
       have hold := hB3
       replace hB2 := hB2.only ho (Blk.ne hB2 hold rfl)
       replace hB5 := hB5.only ho (by omega)
       replace hB6 := hB6.only ho (by omega)
       replace hW := Below.only hW ho hlo3
       clear hold
       have hB3 := hb
       clear hb ho
       refine wpList_nil ?_
       refine hK59 _ _ ?_; try clear hK59 K59
       refine wp_ret ?_
       refine c_ret hf (res1 hf rfl (ResV.cellN (l := [.int .i64 0, .int .i64 0, .int .i64 0, .int .i64 0, .int .i64 0]) rfl tN_189 (hB3.at 0) rfl)) ?_
       exact ⟨(by rw [hfin]; try rfl), hW⟩
    ·have hc47b := hc47
     have h11 := ne_of_beqF hc47
     have h8 : g.k ≤ 8 := by omega
     refine wp_seq_k ?_; intro K60 hK60
     refine wp_seq_k ?_; intro K61 hK61
     refine wp_region_lit ?_
     refine l_mv hf rfl rfl ?_; intro a hf
     refine l_mv hf rfl rfl ?_; intro a hf
     refine l_e hf rfl (ev_xor hf rfl rfl) ?_; intro a hf
     refine l_mv hf rfl rfl ?_; intro a hf
     refine l_e hf rfl (ev_subx hf rfl rfl (by omega) (by omega)) ?_; intro a hf
     refine l_e hf rfl (ev_fieldB hf rfl fd_107_1 (m := 1) rfl) ?_; intro a hf
     refine l_e hf rfl (ev_load1 hf rfl t1_3 (hB2.at 1)) ?_; intro a hf
     refine l_e hf rfl (ev_subx hf rfl rfl (by omega) (by omega)) ?_; intro a hf
     refine l_e hf rfl (ev_toU (m := (n - 1 - g.a).toNat) Tryz.underlying3 Tryz.underlying181 hf rfl (by omega) (by omega)) ?_; intro a hf
     refine l_e hf rfl (ev_shl (m := (n - 1 - g.a).toNat) hf rfl rfl rfl (by omega)) ?_; intro a hf
     refine l_e hf rfl (ev_andNot hf rfl rfl) ?_; intro a hf
     refine l_e hf rfl (ev_neq hf rfl rfl) ?_; intro a hf
     refine wpList_nil ?_
     refine hK61 _ _ ?_; try clear hK61 K61
     refine c_if hf rfl (fun hc62 => ?_) (fun hc62 => ?_)
     ·have hc62b := hc62
      have hfin : cellS n g row col = dZ := by rw [cellS, if_pos h8, if_pos (by simpa using hc62)]
      refine wp_seq_k ?_; intro K63 hK63
      refine wp_region_lit ?_
      refine l_e hf rfl (ev_loadN (l := [.int .i64 0, .int .i64 0, .int .i64 0, .int .i64 0, .int .i64 0]) hf rfl tN_189 (hB6.at 0) rfl) ?_; intro a hf
      refine l_f0 hf (ef_store (vs := [.int .i64 0, .int .i64 0, .int .i64 0, .int .i64 0, .int .i64 0]) (l' := [.int .i64 0, .int .i64 0, .int .i64 0, .int .i64 0, .int .i64 0]) hf rfl rfl sz_189 hB3 rfl rfl rfl rfl rfl) ?_; rintro a _ w27 ⟨ho, hb⟩ hf
      have hold := hB3
      replace hB2 := hB2.only ho (Blk.ne hB2 hold rfl)
      replace hB5 := hB5.only ho (by omega)
      replace hB6 := hB6.only ho (by omega)
      replace hW := Below.only hW ho hlo3
      clear hold
      have hB3 := hb
      clear hb ho
      refine wpList_nil ?_
      refine hK63 _ _ ?_; try clear hK63 K63
      refine wp_ret ?_
      refine x_retS ?_
      refine x_retB ?_
      refine x_retS ?_
      refine c_ret hf (res1 hf rfl (ResV.cellN (l := [.int .i64 0, .int .i64 0, .int .i64 0, .int .i64 0, .int .i64 0]) rfl tN_189 (hB3.at 0) rfl)) ?_
      exact ⟨(by rw [hfin]; try rfl), hW⟩
     ·have hc62b := hc62
      have hfin : cellS n g row col = (oneL g.k).getD (2 * bitF n row g.a + bitF n col g.a).toNat dZ := by rw [cellS, if_pos h8, if_neg (by simpa using hc62)]
      refine wp_skip ?_
      refine hK60 _ _ ?_; try clear hK60 K60
      refine wp_seq_k ?_; intro K64 hK64
      refine wp_draw none (fun j => [17].contains j) mixed ?_
      intro w28 hE
      replace hB2 := hB2.below hE
      replace hB3 := hB3.below hE
      replace hB5 := hB5.below hE
      replace hB6 := hB6.below hE
      replace hW := btr hW hE
      clear hE
      refine s_e0 0 rfl (by kernel_rfl) hf rfl (fun _ => ev_fieldB hf rfl fd_107_0 (m := 0) rfl) ?_; intro a hf
      refine s_e 1 rfl (by kernel_rfl) (by kernel_rfl) hf rfl (ev_load1 hf rfl t1_3 (hB2.at 0)) ?_; intro a hf
      refine s_e0 3 rfl (by kernel_rfl) hf rfl (fun _ => ev_move hf rfl) ?_; intro a hf
      refine s_e0 4 rfl (by kernel_rfl) hf rfl (fun _ => ev_move hf rfl) ?_; intro a hf
      refine s_e0 5 rfl (by kernel_rfl) hf rfl (fun _ => ev_fieldB hf rfl fd_107_1 (m := 1) rfl) ?_; intro a hf
      refine s_e 6 rfl (by kernel_rfl) (by kernel_rfl) hf rfl (ev_load1 hf rfl t1_3 (hB2.at 1)) ?_; intro a hf
      refine s_e0 9 rfl (by kernel_rfl) hf rfl (fun _ => ev_move hf rfl) ?_; intro a hf
      refine s_e0 10 rfl (by kernel_rfl) hf rfl (fun _ => ev_move hf rfl) ?_; intro a hf
      refine s_e0 11 rfl (by kernel_rfl) hf rfl (fun _ => ev_fieldB hf rfl fd_107_1 (m := 1) rfl) ?_; intro a hf
      refine s_e 12 rfl (by kernel_rfl) (by kernel_rfl) hf rfl (ev_load1 hf rfl t1_3 (hB2.at 1)) ?_; intro a hf
      refine s_one 2 (by kernel_rfl) ?_
      refine p_eff rfl hf trivial rfl rfl (Ef.mono (ef_call (vs := [.int .i64 g.k]) hf rfl ff_230 (F230 _ g.k (by omega))) (fun _ _ h => ⟨fun _ => by obtain ⟨A65, c65, rfl, ho65, hE⟩ := h; exact hE, h⟩)) ?_; rintro a _ w29 ⟨A65, c65, rfl, ho65, hE⟩ hf
      have haw65_3 := ho65.awayNew hB3.lt
      have haw65_5 := ho65.awayNew hB5.lt
      have haw65_6 := ho65.awayNew hB6.lt
      replace ho65 := ho65.lower hW.size
      replace hB2 := hB2.below hE
      replace hB3 := hB3.below hE
      replace hB5 := hB5.below hE
      replace hB6 := hB6.below hE
      replace hW := btr hW hE
      clear hE
      refine s_one 7 (by kernel_rfl) ?_
      refine p_eff rfl hf trivial rfl rfl (Ef.mono (ef_call (vs := [.int .i64 n, .int .i64 row, .int .i64 g.a]) hf rfl ff_229 (F229 _ n row g.a (by omega) (by omega) (by omega))) (fun _ _ h => ⟨fun _ => by rw [← h.2]; exact Below.refl _ _, h⟩)) ?_; rintro a _ _ ⟨rfl, rfl⟩ hf
      refine s_e0 8 rfl (by kernel_rfl) hf rfl (fun _ => ev_mulx hf rfl rfl (by omega) (by omega)) ?_; intro a hf
      refine s_one 13 (by kernel_rfl) ?_
      refine p_eff rfl hf trivial rfl rfl (Ef.mono (ef_call (vs := [.int .i64 n, .int .i64 col, .int .i64 g.a]) hf rfl ff_229 (F229 _ n col g.a (by omega) (by omega) (by omega))) (fun _ _ h => ⟨fun _ => by rw [← h.2]; exact Below.refl _ _, h⟩)) ?_; rintro a _ _ ⟨rfl, rfl⟩ hf
      refine s_e0 14 rfl (by kernel_rfl) hf rfl (fun _ => ev_addx hf rfl rfl (by omega) (by omega)) ?_; intro a hf
      refine s_index (k := (2 * bitF n row g.a + bitF n col g.a).toNat) (u := ((oneL g.k).getD (2 * bitF n row g.a + bitF n col g.a).toNat dZ)) (enc := encD) (l := (oneL g.k)) 15 rfl (by kernel_rfl) (by kernel_rfl) hf trivial rfl rfl rfl sl_139 sz_189 encD_len ho65.rd (oneL_get (by omega)) (by omega) ?_; intro a p67 hat66 hf
      refine s_e 16 rfl (by kernel_rfl) (by kernel_rfl) hf rfl (ev_loadN (l := [.int .i64 (((oneL g.k).getD (2 * bitF n row g.a + bitF n col g.a).toNat dZ).num.a), .int .i64 (((oneL g.k).getD (2 * bitF n row g.a + bitF n col g.a).toNat dZ).num.b), .int .i64 (((oneL g.k).getD (2 * bitF n row g.a + bitF n col g.a).toNat dZ).num.c), .int .i64 (((oneL g.k).getD (2 * bitF n row g.a + bitF n col g.a).toNat dZ).num.d), .int .i64 (((oneL g.k).getD (2 * bitF n row g.a + bitF n col g.a).toNat dZ).exp)]) hf rfl tN_189 hat66 rfl) ?_; intro a hf
      refine s_one 17 (by kernel_rfl) ?_
      refine p_eff0 rfl hf trivial rfl (Ef.mono (ef_store (vs := [.int .i64 (((oneL g.k).getD (2 * bitF n row g.a + bitF n col g.a).toNat dZ).num.a), .int .i64 (((oneL g.k).getD (2 * bitF n row g.a + bitF n col g.a).toNat dZ).num.b), .int .i64 (((oneL g.k).getD (2 * bitF n row g.a + bitF n col g.a).toNat dZ).num.c), .int .i64 (((oneL g.k).getD (2 * bitF n row g.a + bitF n col g.a).toNat dZ).num.d), .int .i64 (((oneL g.k).getD (2 * bitF n row g.a + bitF n col g.a).toNat dZ).exp)]) (l' := [.int .i64 (((oneL g.k).getD (2 * bitF n row g.a + bitF n col g.a).toNat dZ).num.a), .int .i64 (((oneL g.k).getD (2 * bitF n row g.a + bitF n col g.a).toNat dZ).num.b), .int .i64 (((oneL g.k).getD (2 * bitF n row g.a + bitF n col g.a).toNat dZ).num.c), .int .i64 (((oneL g.k).getD (2 * bitF n row g.a + bitF n col g.a).toNat dZ).num.d), .int .i64 (((oneL g.k).getD (2 * bitF n row g.a + bitF n col g.a).toNat dZ).exp)]) hf rfl rfl sz_189 hB3 rfl rfl rfl rfl rfl) (fun _ _ h => ⟨fun h0 => absurd h0 (by decide), h⟩)) ?_; rintro a _ w30 ⟨ho, hb⟩ hf
      have hold := hB3
      replace hB2 := hB2.only ho (Blk.ne hB2 hold rfl)
      replace hB5 := hB5.only ho (by omega)
      replace hB6 := hB6.only ho (by omega)
      replace ho65 := ho65.onlyA ho haw65_3
      replace hW := Below.only hW ho hlo3
      clear hold
      have hB3 := hb
      clear hb ho
      refine s_done (by kernel_rfl) ?_
      refine hK64 _ _ ?_; try clear hK64 K64
      refine wp_ret ?_
      refine x_retB ?_
      refine x_retS ?_
      refine c_ret hf (res1 hf rfl (ResV.cellN (l := [.int .i64 (((oneL g.k).getD (2 * bitF n row g.a + bitF n col g.a).toNat dZ).num.a), .int .i64 (((oneL g.k).getD (2 * bitF n row g.a + bitF n col g.a).toNat dZ).num.b), .int .i64 (((oneL g.k).getD (2 * bitF n row g.a + bitF n col g.a).toNat dZ).num.c), .int .i64 (((oneL g.k).getD (2 * bitF n row g.a + bitF n col g.a).toNat dZ).num.d), .int .i64 (((oneL g.k).getD (2 * bitF n row g.a + bitF n col g.a).toNat dZ).exp)]) rfl tN_189 (hB3.at 0) rfl)) ?_
      exact ⟨(by rw [hfin]; try rfl), hW⟩
end Go.Proofs.YtfgnmflfiobkmaaGreat
set_option maxRecDepth 4000
namespace Go.Proofs.YtfgnmflfiobkmaaGreat
open Go.RowKit
theorem F143 (w0 : World) (n : Int) (g : Gt) (hg : gOk n g = true) : Ret Tryz.prog 143 [.int .i64 n, .agg #[.int .i64 g.k, .int .i64 g.a, .int .i64 g.b]] w0 (fun v w => ∃ A c, v = mV A c (gateS n g) ∧ Own w w0.heap.size 189 5 encD A c (gateS n g).cells ∧ Below w0.heap.size w0 w) := by
 have hg2 := gOk_spec hg
 obtain ⟨d, hd⟩ : ∃ d : Nat, d = 2 ^ n.toNat := ⟨_, rfl⟩
 have hd32 : d ≤ 32 := by rw [hd]; exact pow_le32 hg2.1.2
 refine enter Tryz.func143 rfl 36 rfl rfl ?_
 intro a hf
 have hW : Below w0.heap.size w0 w0 := Below.refl _ _
 refine wp_seq_k ?_; intro K1 hK1
 refine wp_region_lit ?_
 refine l_f hf rfl (ef_box (zs := [.int .i64 g.k, .int .i64 g.a, .int .i64 g.b]) hf rfl rfl) ?_; rintro a _ w1 ⟨b2, rfl, hl2, hE, hB2⟩ hf
 have hlo2 := Nat.le_trans hW.size hl2
 replace hW := btr hW hE
 clear hE
 refine l_f hf rfl (ef_alloc (zs := [.int .i64 0, .int .i64 0, .slice none 0 0]) z_141 rfl) ?_; rintro a _ w2 ⟨b4, rfl, hl4, hE, hB4⟩ hf
 have hlo4 := Nat.le_trans hW.size hl4
 replace hB2 := hB2.below hE
 replace hW := btr hW hE
 clear hE
 refine wpList_nil ?_
 refine hK1 _ _ ?_; try clear hK1 K1
 refine wp_seq_k ?_; intro K5 hK5
 refine wp_region_lit ?_
 refine l_mv hf rfl rfl ?_; intro a hf
 refine l_e hf rfl (ev_toU (m := n.toNat) Tryz.underlying3 Tryz.underlying181 hf rfl (by omega) (by omega)) ?_; intro a hf
 refine l_e hf rfl (ev_shl1 (m := n.toNat) (D := d) hf rfl rfl rfl ⟨hd, by omega⟩) ?_; intro a hf
 refine l_as hf rfl rfl ?_; intro a hf
 refine wpList_nil ?_
 refine hK5 _ _ ?_; try clear hK5 K5
 refine wp_seq_k ?_; intro K6 hK6
 refine wp_region_lit ?_
 refine l_mv hf rfl rfl ?_; intro a hf
 refine l_mv hf rfl rfl ?_; intro a hf
 refine l_e hf rfl (ev_build (ps := [(0, .int .i64 (d : Int)), (1, .int .i64 (d : Int))]) (cs := [.int .i64 (d : Int), .int .i64 (d : Int), .slice none 0 0]) hf rfl (fun _ => by first | rfl | kernel_rfl)) ?_; intro a hf
 refine l_f hf rfl (ef_alloc (zs := [.int .i64 0, .int .i64 0, .slice none 0 0]) z_141 rfl) ?_; rintro a _ w3 ⟨b9, rfl, hl9, hE, hB9⟩ hf
 have hne4_9 : b4 ≠ b9 := by have := hB4.lt; omega
 have hlo9 := Nat.le_trans hW.size hl9
 replace hB2 := hB2.below hE
 replace hB4 := hB4.below hE
 replace hW := btr hW hE
 clear hE
 refine l_f0 hf (ef_store (vs := [.int .i64 (d : Int), .int .i64 (d : Int), .slice none 0 0]) (l' := [.int .i64 (d : Int), .int .i64 (d : Int), .slice none 0 0]) hf rfl rfl sz_141 hB9 rfl rfl rfl rfl rfl) ?_; rintro a _ w4 ⟨ho, hb⟩ hf
 have hold := hB9
 replace hB2 := hB2.only ho (Blk.ne hB2 hold rfl)
 replace hB4 := hB4.only ho (by omega)
 replace hW := Below.only hW ho hlo9
 clear hold
 have hB9 := hb
 clear hb ho
 refine wpList_nil ?_
 refine hK6 _ _ ?_; try clear hK6 K6
 refine wp_seq_k ?_; intro K10 hK10
 refine wp_seq_k ?_; intro K11 hK11
 refine wp_region_lit ?_
 refine l_as hf rfl rfl ?_; intro a hf
 refine wpList_nil ?_
 refine hK11 _ _ ?_; try clear hK11 K11
 refine wp_block ?_
 refine c_loop (σ := Nat × (List Dy)) (fun (s : Nat × (List Dy)) (a : Act) (w : World) => match s with | (i, l) => ∃ A12 c12, Fr a 36 [(0, .int .i64 n), (3, .pointer (some ⟨b2, 0, none⟩)), (4, .pointer (some ⟨b4, 0, none⟩)), (5, .int .i64 (d : Int)), (6, .pointer (some ⟨b9, 0, none⟩)), (7, .int .i64 (i : Int))] ∧ (i ≤ d) ∧ (gridL (fun i j => cellS n g (i : Int) (j : Int)) d (i * d) = l) ∧ Blk w b2 107 [.int .i64 g.k, .int .i64 g.a, .int .i64 g.b] ∧ Blk w b4 141 [.int .i64 0, .int .i64 0, .slice none 0 0] ∧ Blk w b9 141 [.int .i64 (d : Int), .int .i64 (d : Int), .slice A12 l.length c12] ∧ Own w w0.heap.size 189 5 encD A12 c12 l ∧ Below w0.heap.size w0 w) (fun (s : Nat × (List Dy)) => match s with | (i, l) => d - i) (0, []) ?_ ?_
 · exact ⟨none, 0, hf.sub ⟨rfl, rfl, rfl, rfl, rfl, rfl, trivial⟩, (Nat.zero_le _), (by rw [Nat.zero_mul]; rfl), hB2, hB4, hB9, (Own.nil _ _ _ _ _), hW⟩
 rintro ⟨i, l⟩ a w5 ⟨A12, c12, hf, hiR, hl, hB2, hB4, hB9, ho12, hW⟩
 refine wp_seq_k ?_; intro K13 hK13
 refine wp_seq_k ?_; intro K14 hK14
 refine wp_region_lit ?_
 refine l_mv hf rfl rfl ?_; intro a hf
 refine l_mv hf rfl rfl ?_; intro a hf
 refine l_e hf rfl (ev_lss hf rfl rfl) ?_; intro a hf
 refine wpList_nil ?_
 refine hK14 _ _ ?_; try clear hK14 K14
 refine c_if hf rfl (fun hc15 => ?_) (fun hc15 => ?_)
 ·have hc15b := hc15
  have hc15 := of_decide_eq_true hc15
  have hi1 : i < d := by have := hc15; omega
  have hb1 : i * d ≤ 1024 := Nat.le_trans (Nat.mul_le_mul (show i ≤ 32 by omega) hd32) (by decide)
  refine wp_skip ?_
  refine hK13 _ _ ?_; try clear hK13 K13
  refine wp_seq_k ?_; intro K16 hK16
  refine wp_block ?_
  refine wp_seq_k ?_; intro K17 hK17
  refine wp_region_lit ?_
  refine l_as hf rfl rfl ?_; intro a hf
  refine wpList_nil ?_
  refine hK17 _ _ ?_; try clear hK17 K17
  refine wp_block ?_
  refine c_loop (σ := Nat × (List Dy)) (fun (s : Nat × (List Dy)) (a : Act) (w : World) => match s with | (j, l2) => ∃ A18 c18, Fr a 36 [(0, .int .i64 n), (3, .pointer (some ⟨b2, 0, none⟩)), (4, .pointer (some ⟨b4, 0, none⟩)), (5, .int .i64 (d : Int)), (6, .pointer (some ⟨b9, 0, none⟩)), (7, .int .i64 (i : Int)), (8, .int .i64 (j : Int))] ∧ (j ≤ d) ∧ (gridL (fun i j => cellS n g (i : Int) (j : Int)) d (i * d + j) = l2) ∧ Blk w b2 107 [.int .i64 g.k, .int .i64 g.a, .int .i64 g.b] ∧ Blk w b4 141 [.int .i64 0, .int .i64 0, .slice none 0 0] ∧ Blk w b9 141 [.int .i64 (d : Int), .int .i64 (d : Int), .slice A18 l2.length c18] ∧ Own w w0.heap.size 189 5 encD A18 c18 l2 ∧ Below w0.heap.size w0 w) (fun (s : Nat × (List Dy)) => match s with | (j, l2) => d - j) (0, l) ?_ ?_
  · exact ⟨A12, c12, hf.sub ⟨rfl, rfl, rfl, rfl, rfl, rfl, rfl, trivial⟩, (Nat.zero_le _), hl, hB2, hB4, hB9, ho12, hW⟩
  rintro ⟨j, l2⟩ a w6 ⟨A18, c18, hf, hjC, hl2, hB2, hB4, hB9, ho18, hW⟩
  refine wp_seq_k ?_; intro K19 hK19
  refine wp_seq_k ?_; intro K20 hK20
  refine wp_region_lit ?_
  refine l_mv hf rfl rfl ?_; intro a hf
  refine l_mv hf rfl rfl ?_; intro a hf
  refine l_e hf rfl (ev_lss hf rfl rfl) ?_; intro a hf
  refine wpList_nil ?_
  refine hK20 _ _ ?_; try clear hK20 K20
  refine c_if hf rfl (fun hc21 => ?_) (fun hc21 => ?_)
  ·have hc21b := hc21
   have hc21 := of_decide_eq_true hc21
   have hj1 : j < d := by have := hc21; omega
   have hlen : l2.length = i * d + j := by rw [← hl2, gridL_len]
   refine wp_skip ?_
   refine hK19 _ _ ?_; try clear hK19 K19
   refine wp_seq_k ?_; intro K22 hK22
   refine wp_block ?_
   refine wp_draw none (fun j => [8, 10].contains j) mixed ?_
   intro w7 hE
   replace hB2 := hB2.below hE
   replace hB4 := hB4.below hE
   replace hB9 := hB9.below hE
   replace ho18 := ho18.below hE
   replace hW := btr hW hE
   clear hE
   refine s_e0 0 rfl (by kernel_rfl) hf rfl (fun _ => ev_fieldB hf rfl fd_141_2 (m := 2) rfl) ?_; intro a hf
   refine s_e 1 rfl (by kernel_rfl) (by kernel_rfl) hf rfl (ev_load1 hf rfl t1_139 (hB9.at 2)) ?_; intro a hf
   refine s_e0 2 rfl (by kernel_rfl) hf rfl (fun _ => ev_move hf rfl) ?_; intro a hf
   refine s_e 3 rfl (by kernel_rfl) (by kernel_rfl) hf rfl (ev_loadN (l := [.int .i64 g.k, .int .i64 g.a, .int .i64 g.b]) hf rfl tN_107 (hB2.at 0) rfl) ?_; intro a hf
   refine s_e0 4 rfl (by kernel_rfl) hf rfl (fun _ => ev_move hf rfl) ?_; intro a hf
   refine s_e0 5 rfl (by kernel_rfl) hf rfl (fun _ => ev_move hf rfl) ?_; intro a hf
   refine s_one 6 (by kernel_rfl) ?_
   refine p_eff rfl hf trivial rfl rfl (Ef.mono (ef_call (vs := [.int .i64 n, .agg #[.int .i64 g.k, .int .i64 g.a, .int .i64 g.b], .int .i64 (i : Int), .int .i64 (j : Int)]) hf rfl ff_199 (F199 _ n g (i : Int) (j : Int) hg)) (fun _ _ h => ⟨fun _ => by obtain ⟨rfl, hE⟩ := h; exact hE, h⟩)) ?_; rintro a _ w8 ⟨rfl, hE⟩ hf
   replace hB2 := hB2.below hE
   replace hB4 := hB4.below hE
   replace hB9 := hB9.below hE
   replace ho18 := ho18.below hE
   replace hW := btr hW hE
   clear hE
   refine s_one 7 (by kernel_rfl) ?_
   refine p_eff rfl hf trivial rfl rfl (Ef.mono (ef_buildSlice (k := 1) (vs := [.agg #[.int .i64 ((cellS n g (i : Int) (j : Int)).num.a), .int .i64 ((cellS n g (i : Int) (j : Int)).num.b), .int .i64 ((cellS n g (i : Int) (j : Int)).num.c), .int .i64 ((cellS n g (i : Int) (j : Int)).num.d), .int .i64 ((cellS n g (i : Int) (j : Int)).exp)]]) (zs := [.int .i64 ((cellS n g (i : Int) (j : Int)).num.a), .int .i64 ((cellS n g (i : Int) (j : Int)).num.b), .int .i64 ((cellS n g (i : Int) (j : Int)).num.c), .int .i64 ((cellS n g (i : Int) (j : Int)).num.d), .int .i64 ((cellS n g (i : Int) (j : Int)).exp)]) hf rfl sl_139 inf_189 rfl rfl) (fun _ _ h => ⟨fun _ => by obtain ⟨_, _, _, hE, _⟩ := h; exact hE, h⟩)) ?_; rintro a _ w9 ⟨b23, rfl, hl23, hE, hB23⟩ hf
   have hlo23 := Nat.le_trans hW.size hl23
   have haw18_23 := ho18.away hl23
   replace hB2 := hB2.below hE
   replace hB4 := hB4.below hE
   replace hB9 := hB9.below hE
   replace ho18 := ho18.below hE
   replace hW := btr hW hE
   clear hE
   refine s_one 8 (by kernel_rfl) ?_
   refine p_eff rfl hf trivial rfl rfl (Ef.mono (ef_append (enc := encD) (l := (l2)) (l2 := ([(cellS n g (i : Int) (j : Int))])) (B0 := w0.heap.size) hf rfl rfl sl_139 inf_189 encD_len encD_one ho18 (Rd.of_blk hB23 rfl _ hB23.lt) (by simp only [maxLen]; simp; omega) (by simp; omega) hW.size) (fun _ _ h => ⟨fun h0 => absurd h0 (by decide), h⟩)) ?_; rintro a _ w10 ⟨A25, c25, rfl, ho25, hg, hat⟩ hf
   have hown : Own _ w0.heap.size 189 5 encD _ _ (l2) := ho18
   have haw25_23 := hat _ hB23.lt haw18_23
   clear hat
   replace hB2 := hB2.appT hown hg rfl
   replace hB4 := hB4.appT hown hg rfl
   replace hB9 := hB9.appT hown hg rfl
   replace hW := Below.app hW hown hg (Nat.le_refl _) hW.size
   clear hown hg
   refine s_e0 9 rfl (by kernel_rfl) hf rfl (fun _ => ev_fieldB hf rfl fd_141_2 (m := 2) rfl) ?_; intro a hf
   refine s_one 10 (by kernel_rfl) ?_
   refine p_eff0 rfl hf trivial rfl (Ef.mono (ef_store (vs := [.slice A25 (l2 ++ ([(cellS n g (i : Int) (j : Int))])).length c25]) (l' := [.int .i64 (d : Int), .int .i64 (d : Int), .slice A25 (l2 ++ ([(cellS n g (i : Int) (j : Int))])).length c25]) hf rfl rfl sz_139 hB9 rfl rfl rfl rfl rfl) (fun _ _ h => ⟨fun h0 => absurd h0 (by decide), h⟩)) ?_; rintro a _ w11 ⟨ho, hb⟩ hf
   have hold := hB9
   replace hB2 := hB2.only ho (Blk.ne hB2 hold rfl)
   replace hB4 := hB4.only ho (by omega)
   replace ho25 := ho25.onlyT ho hold rfl
   replace hW := Below.only hW ho hlo9
   clear hold
   have hB9 := hb
   clear hb ho
   refine s_done (by kernel_rfl) ?_
   refine x_norm ?_
   refine hK22 _ _ ?_; try clear hK22 K22
   refine wp_region_lit ?_
   refine l_mv hf rfl rfl ?_; intro a hf
   refine l_e hf rfl (ev_addx hf rfl rfl (by omega) (by omega)) ?_; intro a hf
   refine l_as hf rfl rfl ?_; intro a hf
   refine wpList_nil ?_
   refine x_thenN ?_
   exact ⟨(j + 1, l2 ++ [(cellS n g (i : Int) (j : Int))]), ⟨A25, c25, hf.sub ⟨rfl, rfl, rfl, rfl, rfl, rfl, rfl, trivial⟩, (by omega), (by rw [gridL_step hj1, hl2]), hB2, hB4, hB9, ho25, hW⟩, (by first | omega | (dsimp only; omega))⟩
  ·have hc21b := hc21
   have hc21 := of_decide_eq_false hc21
   have hj1 : j = d := by have := hc21; omega
   refine wp_exit ?_
   refine x_exS ?_
   refine x_exS ?_
   refine x_exit ?_
   refine x_norm ?_
   refine hK16 _ _ ?_; try clear hK16 K16
   refine wp_region_lit ?_
   refine l_mv hf rfl rfl ?_; intro a hf
   refine l_e hf rfl (ev_addx hf rfl rfl (by omega) (by omega)) ?_; intro a hf
   refine l_as hf rfl rfl ?_; intro a hf
   refine wpList_nil ?_
   refine x_thenN ?_
   exact ⟨(i + 1, l2), ⟨A18, c18, hf.sub ⟨rfl, rfl, rfl, rfl, rfl, rfl, trivial⟩, (by omega), (by rw [Nat.add_mul, Nat.one_mul, ← hl2, hj1]), hB2, hB4, hB9, ho18, hW⟩, (by first | omega | (dsimp only; omega))⟩
 ·have hc15b := hc15
  have hc15 := of_decide_eq_false hc15
  have hi1 : i = d := by have := hc15; omega
  refine wp_exit ?_
  refine x_exS ?_
  refine x_exS ?_
  refine x_exit ?_
  refine hK10 _ _ ?_; try clear hK10 K10
  refine wp_seq_k ?_; intro K26 hK26
  refine wp_region_lit ?_
  refine l_e hf rfl (ev_loadN (l := [.int .i64 (d : Int), .int .i64 (d : Int), .slice A12 l.length c12]) hf rfl tN_141 (hB9.at 0) rfl) ?_; intro a hf
  refine l_f0 hf (ef_store (vs := [.int .i64 (d : Int), .int .i64 (d : Int), .slice A12 l.length c12]) (l' := [.int .i64 (d : Int), .int .i64 (d : Int), .slice A12 l.length c12]) hf rfl rfl sz_141 hB4 rfl rfl rfl rfl rfl) ?_; rintro a _ w12 ⟨ho, hb⟩ hf
  have hold := hB4
  replace hB2 := hB2.only ho (Blk.ne hB2 hold rfl)
  replace hB9 := hB9.only ho (by omega)
  replace ho12 := ho12.onlyT ho hold rfl
  replace hW := Below.only hW ho hlo4
  clear hold
  have hB4 := hb
  clear hb ho
  refine wpList_nil ?_
  refine hK26 _ _ ?_; try clear hK26 K26
  refine wp_ret ?_
  refine c_ret hf (res1 hf rfl (ResV.cellN (l := [.int .i64 (d : Int), .int .i64 (d : Int), .slice A12 l.length c12]) rfl tN_141 (hB4.at 0) rfl)) ?_
  have hfin : gateS n g = ⟨(d : Int), (d : Int), l⟩ := by rw [gateS, ← hl, hi1, hd]
  rw [hfin]
  exact ⟨A12, c12, rfl, ho12, hW⟩
end Go.Proofs.YtfgnmflfiobkmaaGreat
set_option maxRecDepth 4000
namespace Go.Proofs.YtfgnmflfiobkmaaGreat
open Go.RowKit
theorem F173 (w0 : World) (p : Mx) (Ap : Option Addr) (cp : Nat) (hr_p : Rd w0 w0.heap.size 189 encD Ap p.cells) (q : Mx) (Aq : Option Addr) (cq : Nat) (hr_q : Rd w0 w0.heap.size 189 encD Aq q.cells) (k : Int) (hpl : p.cells.length = q.cells.length) (hln : q.cells.length ≤ 2305843009213693951) : Ret Tryz.prog 173 [.agg #[.int .i64 p.rows, .int .i64 p.cols, .slice Ap p.cells.length cp], .agg #[.int .i64 q.rows, .int .i64 q.cols, .slice Aq q.cells.length cq], .int .i64 k] w0 (fun v w => v = .bool (turnedS p q k) ∧ Below w0.heap.size w0 w) := by
 refine enter Tryz.func173 rfl 42 rfl rfl ?_
 intro a hf
 have hW : Below w0.heap.size w0 w0 := Below.refl _ _
 refine wp_seq_k ?_; intro K3 hK3
 refine wp_region_lit ?_
 refine l_f hf rfl (ef_box (zs := [.int .i64 p.rows, .int .i64 p.cols, .slice Ap p.cells.length cp]) hf rfl rfl) ?_; rintro a _ w1 ⟨b4, rfl, hl4, hE, hB4⟩ hf
 have hlo4 := Nat.le_trans hW.size hl4
 replace hr_p := hr_p.below hE
 replace hr_q := hr_q.below hE
 replace hW := btr hW hE
 clear hE
 refine l_f hf rfl (ef_box (zs := [.int .i64 q.rows, .int .i64 q.cols, .slice Aq q.cells.length cq]) hf rfl rfl) ?_; rintro a _ w2 ⟨b5, rfl, hl5, hE, hB5⟩ hf
 have hne4_5 : b4 ≠ b5 := by have := hB4.lt; omega
 have hlo5 := Nat.le_trans hW.size hl5
 replace hB4 := hB4.below hE
 replace hr_p := hr_p.below hE
 replace hr_q := hr_q.below hE
 replace hW := btr hW hE
 clear hE
 refine l_as hf rfl rfl ?_; intro a hf
 refine wpList_nil ?_
 refine hK3 _ _ ?_; try clear hK3 K3
 refine wp_seq_k ?_; intro K6 hK6
 refine wp_seq_k ?_; intro K7 hK7
 refine c_cut (fun a w => Fr a 42 [(2, .int .i64 k), (3, .pointer (some ⟨b4, 0, none⟩)), (4, .pointer (some ⟨b5, 0, none⟩)), (20, .bool ((p.rows != q.rows) || (p.cols != q.cols)))] ∧ w2 = w) ?_ ?_
 ·refine wp_region_lit ?_
  refine l_e hf rfl (ev_fieldB hf rfl fd_141_0 (m := 0) rfl) ?_; intro a hf
  refine l_e hf rfl (ev_load1 hf rfl t1_3 (hB4.at 0)) ?_; intro a hf
  refine l_e hf rfl (ev_fieldB hf rfl fd_141_0 (m := 0) rfl) ?_; intro a hf
  refine l_e hf rfl (ev_load1 hf rfl t1_3 (hB5.at 0)) ?_; intro a hf
  refine l_e hf rfl (ev_neq hf rfl rfl) ?_; intro a hf
  refine l_mv hf rfl rfl ?_; intro a hf
  refine g_split hf (t := 14) rfl (fun hg8 => ?_) (fun hg8 => ?_)
  ·refine l_pass hf ⟨_, _, rfl, rfl, hg8⟩ rfl rfl ?_; intro a hf
   refine l_pass hf ⟨_, _, rfl, rfl, hg8⟩ rfl rfl ?_; intro a hf
   refine l_pass hf ⟨_, _, rfl, rfl, hg8⟩ rfl rfl ?_; intro a hf
   refine l_pass hf ⟨_, _, rfl, rfl, hg8⟩ rfl rfl ?_; intro a hf
   refine l_pass hf ⟨_, _, rfl, rfl, hg8⟩ rfl rfl ?_; intro a hf
   refine l_e hf rfl (ev_pickT hf rfl hg8 rfl) ?_; intro a hf
   refine wpList_nil ?_
   exact ⟨hf.sub ⟨rfl, rfl, rfl, look_bool rfl (by first | rfl | (simp only [hg8, Bool.true_and, Bool.false_and, Bool.true_or, Bool.false_or]; done) | simp [hg8]), trivial⟩, rfl⟩
  ·refine l_ev hf ⟨_, _, rfl, rfl, hg8⟩ rfl rfl (ev_fieldB hf rfl fd_141_1 (m := 1) rfl) ?_; intro a hf
   refine l_ev hf ⟨_, _, rfl, rfl, hg8⟩ rfl rfl (ev_load1 hf rfl t1_3 (hB4.at 1)) ?_; intro a hf
   refine l_ev hf ⟨_, _, rfl, rfl, hg8⟩ rfl rfl (ev_fieldB hf rfl fd_141_1 (m := 1) rfl) ?_; intro a hf
   refine l_ev hf ⟨_, _, rfl, rfl, hg8⟩ rfl rfl (ev_load1 hf rfl t1_3 (hB5.at 1)) ?_; intro a hf
   refine l_ev hf ⟨_, _, rfl, rfl, hg8⟩ rfl rfl (ev_neq hf rfl rfl) ?_; intro a hf
   refine l_e hf rfl (ev_pickF hf rfl hg8 rfl) ?_; intro a hf
   refine wpList_nil ?_
   exact ⟨hf.sub ⟨rfl, rfl, rfl, look_bool rfl (by first | rfl | (simp only [hg8, Bool.true_and, Bool.false_and, Bool.true_or, Bool.false_or]; done) | simp [hg8]), trivial⟩, rfl⟩
 rintro a _ ⟨hf, rfl⟩
 refine hK7 _ _ ?_; try clear hK7 K7
 refine c_if hf rfl (fun hc9 => ?_) (fun hc9 => ?_)
 ·have hc9b := hc9
  have hn : turnedS p q k = false := by have h9 : ¬ (p.rows = q.rows ∧ p.cols = q.cols) := (by intro h8; revert hc9; simp [h8.1, h8.2]); unfold turnedS; revert h9; by_cases e1 : p.rows = q.rows <;> by_cases e2 : p.cols = q.cols <;> simp [e1, e2]
  refine wp_seq_k ?_; intro K10 hK10
  refine wp_region_lit ?_
  refine l_as hf rfl rfl ?_; intro a hf
  refine wpList_nil ?_
  refine hK10 _ _ ?_; try clear hK10 K10
  refine wp_ret ?_
  refine x_retS ?_
  refine c_ret hf (res1 hf rfl rfl) ?_
  exact ⟨by rw [hn], hW⟩
 ·have hc9b := hc9
  have hrc : p.rows = q.rows ∧ p.cols = q.cols := by revert hc9; by_cases e1 : p.rows = q.rows <;> by_cases e2 : p.cols = q.cols <;> simp [e1, e2]
  refine wp_skip ?_
  refine hK6 _ _ ?_; try clear hK6 K6
  refine wp_seq_k ?_; intro K11 hK11
  refine wp_seq_k ?_; intro K12 hK12
  refine wp_region_lit ?_
  refine l_e hf rfl (ev_fieldB hf rfl fd_141_2 (m := 2) rfl) ?_; intro a hf
  refine l_e hf rfl (ev_load1 hf rfl t1_139 (hB5.at 2)) ?_; intro a hf
  refine l_e hf rfl (ev_len hf rfl sl_139) ?_; intro a hf
  refine l_mv hf rfl rfl ?_; intro a hf
  refine wpList_nil ?_
  refine hK12 _ _ ?_; try clear hK12 K12
  refine wp_block ?_
  refine c_loop (σ := Nat) (fun (i : Nat) (a : Act) (w : World) => Fr a 42 [(2, .int .i64 k), (3, .pointer (some ⟨b4, 0, none⟩)), (22, .slice Aq q.cells.length cq), (23, .int .i64 (q.cells.length : Int)), (24, .int .i64 (i : Int))] ∧ (i ≤ q.cells.length) ∧ (p.cells.take i = (q.cells.map (dTurn k)).take i) ∧ Blk w b4 141 [.int .i64 p.rows, .int .i64 p.cols, .slice Ap p.cells.length cp] ∧ Blk w b5 141 [.int .i64 q.rows, .int .i64 q.cols, .slice Aq q.cells.length cq] ∧ Rd w w0.heap.size 189 encD Ap p.cells ∧ Rd w w0.heap.size 189 encD Aq q.cells ∧ Below w0.heap.size w0 w) (fun (i : Nat) => q.cells.length - i) 0 ?_ ?_
  · exact ⟨hf.sub ⟨rfl, rfl, rfl, rfl, rfl, trivial⟩, (Nat.zero_le _), (by simp), hB4, hB5, hr_p, hr_q, hW⟩
  rintro i a w3 ⟨hf, hi, hpre, hB4, hB5, hr_p, hr_q, hW⟩
  refine wp_seq_k ?_; intro K13 hK13
  refine wp_region_lit ?_
  refine l_e hf rfl (ev_lss hf rfl rfl) ?_; intro a hf
  refine wpList_nil ?_
  refine hK13 _ _ ?_; try clear hK13 K13
  refine wp_seq_k ?_; intro K14 hK14
  refine c_if hf rfl (fun hc15 => ?_) (fun hc15 => ?_)
  ·have hc15b := hc15
   have hc15 := of_decide_eq_true hc15
   obtain ⟨u16, hu16⟩ := getElem_ex (l := q.cells) (k := i) (by omega)
   obtain ⟨v9, hv9⟩ := getElem_ex (l := p.cells) (k := i) (by omega)
   refine wp_skip ?_
   refine hK14 _ _ ?_; try clear hK14 K14
   refine wp_seq_k ?_; intro K17 hK17
   refine wp_block ?_
   refine wp_seq_k ?_; intro K18 hK18
   refine wp_region_lit ?_
   refine l_mv hf rfl rfl ?_; intro a hf
   refine l_index (k := i) (u := u16) (enc := encD) (l := q.cells) hf trivial rfl rfl rfl sl_139 sz_189 encD_len hr_q hu16 rfl ?_; intro a p20 hat19 hf
   refine l_e hf rfl (ev_loadN (l := [.int .i64 u16.num.a, .int .i64 u16.num.b, .int .i64 u16.num.c, .int .i64 u16.num.d, .int .i64 u16.exp]) hf rfl tN_189 hat19 rfl) ?_; intro a hf
   refine l_f hf rfl (ef_alloc (zs := [.int .i64 0, .int .i64 0, .int .i64 0, .int .i64 0, .int .i64 0]) z_189 rfl) ?_; rintro a _ w4 ⟨b21, rfl, hl21, hE, hB21⟩ hf
   have hlo21 := Nat.le_trans hW.size hl21
   have haw1_21 := hr_p.away hl21
   have haw2_21 := hr_q.away hl21
   replace hB4 := hB4.below hE
   replace hB5 := hB5.below hE
   replace hr_p := hr_p.below hE
   replace hr_q := hr_q.below hE
   replace hW := btr hW hE
   clear hE
   refine l_as hf rfl rfl ?_; intro a hf
   refine l_f0 hf (ef_store (vs := [.int .i64 u16.num.a, .int .i64 u16.num.b, .int .i64 u16.num.c, .int .i64 u16.num.d, .int .i64 u16.exp]) (l' := [.int .i64 u16.num.a, .int .i64 u16.num.b, .int .i64 u16.num.c, .int .i64 u16.num.d, .int .i64 u16.exp]) hf rfl rfl sz_189 hB21 rfl rfl rfl rfl rfl) ?_; rintro a _ w5 ⟨ho, hb⟩ hf
   have hold := hB21
   replace hB4 := hB4.only ho (Blk.ne hB4 hold rfl)
   replace hB5 := hB5.only ho (Blk.ne hB5 hold rfl)
   replace hr_p := hr_p.only ho hlo21
   replace hr_q := hr_q.only ho hlo21
   replace hW := Below.only hW ho hlo21
   clear hold
   have hB21 := hb
   clear hb ho
   refine wpList_nil ?_
   refine hK18 _ _ ?_; try clear hK18 K18
   refine wp_seq_k ?_; intro K22 hK22
   refine wp_region_lit ?_
   refine l_e hf rfl (ev_fieldB hf rfl fd_189_0 (m := 0) rfl) ?_; intro a hf
   refine l_e hf rfl (ev_loadN (l := [.int .i64 u16.num.a, .int .i64 u16.num.b, .int .i64 u16.num.c, .int .i64 u16.num.d]) hf rfl tN_187 ((hB21.at 0).take 4) rfl) ?_; intro a hf
   refine l_mv hf rfl rfl ?_; intro a hf
   refine l_f hf rfl (ef_call (vs := [.agg #[.int .i64 u16.num.a, .int .i64 u16.num.b, .int .i64 u16.num.c, .int .i64 u16.num.d], .int .i64 k]) hf rfl ff_210 (F210 _ u16.num k)) ?_; rintro a _ w6 ⟨rfl, hE⟩ hf
   replace hB4 := hB4.below hE
   replace hB5 := hB5.below hE
   replace hB21 := hB21.below hE
   replace hr_p := hr_p.below hE
   replace hr_q := hr_q.below hE
   replace hW := btr hW hE
   clear hE
   refine l_e hf rfl (ev_fieldB hf rfl fd_189_0 (m := 0) rfl) ?_; intro a hf
   refine l_f0 hf (ef_store (vs := [.int .i64 ((rTurn u16.num k).a), .int .i64 ((rTurn u16.num k).b), .int .i64 ((rTurn u16.num k).c), .int .i64 ((rTurn u16.num k).d)]) (l' := [.int .i64 ((rTurn u16.num k).a), .int .i64 ((rTurn u16.num k).b), .int .i64 ((rTurn u16.num k).c), .int .i64 ((rTurn u16.num k).d), .int .i64 u16.exp]) hf rfl rfl sz_187 hB21 rfl rfl rfl rfl rfl) ?_; rintro a _ w7 ⟨ho, hb⟩ hf
   have hold := hB21
   replace hB4 := hB4.only ho (Blk.ne hB4 hold rfl)
   replace hB5 := hB5.only ho (Blk.ne hB5 hold rfl)
   replace hr_p := hr_p.only ho hlo21
   replace hr_q := hr_q.only ho hlo21
   replace hW := Below.only hW ho hlo21
   clear hold
   have hB21 := hb
   clear hb ho
   refine wpList_nil ?_
   refine hK22 _ _ ?_; try clear hK22 K22
   refine wp_seq_k ?_; intro K23 hK23
   refine wp_draw none (fun _ => false) mixed ?_
   intro w8 hE
   replace hB4 := hB4.below hE
   replace hB5 := hB5.below hE
   replace hB21 := hB21.below hE
   replace hr_p := hr_p.below hE
   replace hr_q := hr_q.below hE
   replace hW := btr hW hE
   clear hE
   refine s_e0 0 rfl (by kernel_rfl) hf rfl (fun _ => ev_fieldB hf rfl fd_141_2 (m := 2) rfl) ?_; intro a hf
   refine s_e 1 rfl (by kernel_rfl) (by kernel_rfl) hf rfl (ev_load1 hf rfl t1_139 (hB4.at 2)) ?_; intro a hf
   refine s_e0 2 rfl (by kernel_rfl) hf rfl (fun _ => ev_move hf rfl) ?_; intro a hf
   refine s_index (k := i) (u := v9) (enc := encD) (l := p.cells) 3 rfl (by kernel_rfl) (by kernel_rfl) hf trivial rfl rfl rfl sl_139 sz_189 encD_len hr_p hv9 rfl ?_; intro a p25 hat24 hf
   refine s_e 4 rfl (by kernel_rfl) (by kernel_rfl) hf rfl (ev_loadN (l := [.int .i64 v9.num.a, .int .i64 v9.num.b, .int .i64 v9.num.c, .int .i64 v9.num.d, .int .i64 v9.exp]) hf rfl tN_189 hat24 rfl) ?_; intro a hf
   refine s_e 5 rfl (by kernel_rfl) (by kernel_rfl) hf rfl (ev_loadN (l := [.int .i64 ((rTurn u16.num k).a), .int .i64 ((rTurn u16.num k).b), .int .i64 ((rTurn u16.num k).c), .int .i64 ((rTurn u16.num k).d), .int .i64 u16.exp]) hf rfl tN_189 (hB21.at 0) rfl) ?_; intro a hf
   refine s_e0 6 rfl (by kernel_rfl) hf rfl (fun _ => ev_neqS hf rfl rfl gd_189 (fun w => eqD 9997 v9 (⟨(rTurn u16.num k), u16.exp⟩ : Dy) w)) ?_; intro a hf
   refine s_done (by kernel_rfl) ?_
   refine hK23 _ _ ?_; try clear hK23 K23
   refine c_if hf rfl (fun hc26 => ?_) (fun hc26 => ?_)
   ·have hc26b := hc26
    have hne : ¬ v9 = dTurn k u16 := by intro e9; revert hc26; rw [e9]; simp [dTurn]
    have hn : turnedS p q k = false := by have h8 : ¬ p.cells = q.cells.map (dTurn k) := (by intro e9; have h7 := map_get (f := dTurn k) hu16; rw [← e9, hv9] at h7; injection h7 with h7; exact hne h7); simp [turnedS, h8]
    refine wp_seq_k ?_; intro K27 hK27
    refine wp_region_lit ?_
    refine l_as hf rfl rfl ?_; intro a hf
    refine wpList_nil ?_
    refine hK27 _ _ ?_; try clear hK27 K27
    refine wp_ret ?_
    refine x_retB ?_
    refine x_retS ?_
    refine x_retS ?_
    refine x_retB ?_
    refine x_retS ?_
    refine c_ret hf (res1 hf rfl rfl) ?_
    exact ⟨by rw [hn], hW⟩
   ·have hc26b := hc26
    have he9 : v9 = dTurn k u16 := by simpa [dTurn] using hc26
    refine wp_skip ?_
    refine x_norm ?_
    refine hK17 _ _ ?_; try clear hK17 K17
    refine wp_region_lit ?_
    refine l_e hf rfl (ev_addx hf rfl rfl (by omega) (by omega)) ?_; intro a hf
    refine l_mv hf rfl rfl ?_; intro a hf
    refine wpList_nil ?_
    refine x_thenN ?_
    exact ⟨i + 1, ⟨hf.sub ⟨rfl, rfl, rfl, rfl, rfl, trivial⟩, (by omega), (take_eq hpre hv9 (map_get hu16) he9), hB4, hB5, hr_p, hr_q, hW⟩, (by omega)⟩
  ·have hc15b := hc15
   have hc15 := of_decide_eq_false hc15
   refine wp_exit ?_
   refine x_exS ?_
   refine x_exS ?_
   refine x_exit ?_
   refine hK11 _ _ ?_; try clear hK11 K11
   refine wp_seq_k ?_; intro K28 hK28
   refine wp_region_lit ?_
   refine l_as hf rfl rfl ?_; intro a hf
   refine wpList_nil ?_
   refine hK28 _ _ ?_; try clear hK28 K28
   refine wp_ret ?_
   refine c_ret hf (res1 hf rfl rfl) ?_
   have he : p.cells = q.cells.map (dTurn k) := by rw [List.take_of_length_le (by omega), List.take_of_length_le (by simp; omega)] at hpre; exact hpre
   exact ⟨by simp [turnedS, hrc.1, hrc.2, ← he], hW⟩
theorem F130 (w0 : World) (p : Mx) (Ap : Option Addr) (cp : Nat) (hr_p : Rd w0 w0.heap.size 189 encD Ap p.cells) (q : Mx) (Aq : Option Addr) (cq : Nat) (hr_q : Rd w0 w0.heap.size 189 encD Aq q.cells) (hpl : p.cells.length = q.cells.length) (hln : q.cells.length ≤ 2305843009213693951) : Ret Tryz.prog 130 [.agg #[.int .i64 p.rows, .int .i64 p.cols, .slice Ap p.cells.length cp], .agg #[.int .i64 q.rows, .int .i64 q.cols, .slice Aq q.cells.length cq]] w0 (fun v w => ∃ i : Int, v = .tuple #[.int .i64 i, .bool (phaseS p q)] ∧ Below w0.heap.size w0 w) := by
 refine enter Tryz.func130 rfl 16 rfl rfl ?_
 intro a hf
 have hW : Below w0.heap.size w0 w0 := Below.refl _ _
 refine wp_seq_k ?_; intro K3 hK3
 refine wp_region_lit ?_
 refine l_f hf rfl (ef_box (zs := [.int .i64 p.rows, .int .i64 p.cols, .slice Ap p.cells.length cp]) hf rfl rfl) ?_; rintro a _ w1 ⟨b4, rfl, hl4, hE, hB4⟩ hf
 have hlo4 := Nat.le_trans hW.size hl4
 replace hr_p := hr_p.below hE
 replace hr_q := hr_q.below hE
 replace hW := btr hW hE
 clear hE
 refine l_f hf rfl (ef_box (zs := [.int .i64 q.rows, .int .i64 q.cols, .slice Aq q.cells.length cq]) hf rfl rfl) ?_; rintro a _ w2 ⟨b5, rfl, hl5, hE, hB5⟩ hf
 have hne4_5 : b4 ≠ b5 := by have := hB4.lt; omega
 have hlo5 := Nat.le_trans hW.size hl5
 replace hB4 := hB4.below hE
 replace hr_p := hr_p.below hE
 replace hr_q := hr_q.below hE
 replace hW := btr hW hE
 clear hE
 refine l_as hf rfl rfl ?_; intro a hf
 refine l_as hf rfl rfl ?_; intro a hf
 refine wpList_nil ?_
 refine hK3 _ _ ?_; try clear hK3 K3
 refine wp_seq_k ?_; intro K6 hK6
 refine wp_seq_k ?_; intro K7 hK7
 refine wp_region_lit ?_
 refine l_as hf rfl rfl ?_; intro a hf
 refine wpList_nil ?_
 refine hK7 _ _ ?_; try clear hK7 K7
 refine wp_block ?_
 refine c_loop (σ := Nat) (fun (k : Nat) (a : Act) (w : World) => Fr a 16 [(2, .pointer (some ⟨b4, 0, none⟩)), (3, .pointer (some ⟨b5, 0, none⟩)), (6, .int .i64 (k : Int))] ∧ (k ≤ 8) ∧ (∀ j < k, turnedS p q ((j : Nat) : Int) = false) ∧ Blk w b4 141 [.int .i64 p.rows, .int .i64 p.cols, .slice Ap p.cells.length cp] ∧ Blk w b5 141 [.int .i64 q.rows, .int .i64 q.cols, .slice Aq q.cells.length cq] ∧ Rd w w0.heap.size 189 encD Ap p.cells ∧ Rd w w0.heap.size 189 encD Aq q.cells ∧ Below w0.heap.size w0 w) (fun (k : Nat) => 8 - k) 0 ?_ ?_
 · exact ⟨hf.sub ⟨rfl, rfl, rfl, trivial⟩, (by omega), (fun j hj => by omega), hB4, hB5, hr_p, hr_q, hW⟩
 rintro k a w3 ⟨hf, hk, hall, hB4, hB5, hr_p, hr_q, hW⟩
 refine wp_seq_k ?_; intro K8 hK8
 refine wp_seq_k ?_; intro K9 hK9
 refine wp_region_lit ?_
 refine l_mv hf rfl rfl ?_; intro a hf
 refine l_e hf rfl (ev_lss hf rfl rfl) ?_; intro a hf
 refine wpList_nil ?_
 refine hK9 _ _ ?_; try clear hK9 K9
 refine c_if hf rfl (fun hc10 => ?_) (fun hc10 => ?_)
 ·have hc10b := hc10
  have hc10 := of_decide_eq_true hc10
  have hk8 : (k : Int) < 8 := hc10
  refine wp_skip ?_
  refine hK8 _ _ ?_; try clear hK8 K8
  refine wp_seq_k ?_; intro K11 hK11
  refine wp_block ?_
  refine wp_seq_k ?_; intro K12 hK12
  refine wp_region_lit ?_
  refine l_e hf rfl (ev_loadN (l := [.int .i64 p.rows, .int .i64 p.cols, .slice Ap p.cells.length cp]) hf rfl tN_141 (hB4.at 0) rfl) ?_; intro a hf
  refine l_e hf rfl (ev_loadN (l := [.int .i64 q.rows, .int .i64 q.cols, .slice Aq q.cells.length cq]) hf rfl tN_141 (hB5.at 0) rfl) ?_; intro a hf
  refine l_mv hf rfl rfl ?_; intro a hf
  refine l_f hf rfl (ef_call (vs := [.agg #[.int .i64 p.rows, .int .i64 p.cols, .slice Ap p.cells.length cp], .agg #[.int .i64 q.rows, .int .i64 q.cols, .slice Aq q.cells.length cq], .int .i64 (k : Int)]) hf rfl ff_173 (F173 _ p Ap cp hr_p.top q Aq cq hr_q.top (k : Int) hpl hln)) ?_; rintro a _ w4 ⟨rfl, hE⟩ hf
  replace hB4 := hB4.below hE
  replace hB5 := hB5.below hE
  replace hr_p := hr_p.below hE
  replace hr_q := hr_q.below hE
  replace hW := btr hW hE
  clear hE
  refine wpList_nil ?_
  refine hK12 _ _ ?_; try clear hK12 K12
  refine c_if hf rfl (fun hc13 => ?_) (fun hc13 => ?_)
  ·have hc13b := hc13
   have hT : turnedS p q (k : Int) = true := hc13
   refine wp_seq_k ?_; intro K14 hK14
   refine wp_region_lit ?_
   refine l_mv hf rfl rfl ?_; intro a hf
   refine l_as hf rfl rfl ?_; intro a hf
   refine l_as hf rfl rfl ?_; intro a hf
   refine wpList_nil ?_
   refine hK14 _ _ ?_; try clear hK14 K14
   refine wp_ret ?_
   refine x_retB ?_
   refine x_retS ?_
   refine x_retS ?_
   refine x_retB ?_
   refine x_retS ?_
   refine c_ret hf (res2 hf rfl rfl rfl) ?_
   exact ⟨_, by rw [phaseS, range_any (f := fun k => turnedS p q ((k : Nat) : Int)) (k := k) (by omega) hT], hW⟩
  ·have hc13b := hc13
   have hT : turnedS p q (k : Int) = false := hc13
   refine wp_skip ?_
   refine x_norm ?_
   refine hK11 _ _ ?_; try clear hK11 K11
   refine wp_region_lit ?_
   refine l_mv hf rfl rfl ?_; intro a hf
   refine l_e hf rfl (ev_addx hf rfl rfl (by omega) (by omega)) ?_; intro a hf
   refine l_as hf rfl rfl ?_; intro a hf
   refine wpList_nil ?_
   refine x_thenN ?_
   exact ⟨k + 1, ⟨hf.sub ⟨rfl, rfl, rfl, trivial⟩, (by omega), (fun j hj => by rcases Nat.lt_or_ge j k with h9 | h9; exact hall j h9; obtain rfl : j = k := (by omega); exact hT), hB4, hB5, hr_p, hr_q, hW⟩, (by omega)⟩
 ·have hc10b := hc10
  have hc10 := of_decide_eq_false hc10
  refine wp_exit ?_
  refine x_exS ?_
  refine x_exS ?_
  refine x_exit ?_
  refine hK6 _ _ ?_; try clear hK6 K6
  refine wp_seq_k ?_; intro K15 hK15
  refine wp_region_lit ?_
  refine l_as hf rfl rfl ?_; intro a hf
  refine l_as hf rfl rfl ?_; intro a hf
  refine wpList_nil ?_
  refine hK15 _ _ ?_; try clear hK15 K15
  refine wp_ret ?_
  refine c_ret hf (res2 hf rfl rfl rfl) ?_
  exact ⟨_, by rw [phaseS, range_none (fun j hj => hall j (by omega))], hW⟩
end Go.Proofs.YtfgnmflfiobkmaaGreat
set_option maxRecDepth 4000
namespace Go.Proofs.YtfgnmflfiobkmaaGreat
open Go.RowKit
theorem F101 (w0 : World) (n : Int) (g : Gt) (hn : 1 ≤ n ∧ n ≤ 5) : Ret Tryz.prog 101 [.int .i64 n, .agg #[.int .i64 g.k, .int .i64 g.a, .int .i64 g.b]] w0 (fun v w => v = .bool (gOk n g) ∧ Below w0.heap.size w0 w) := by
 refine enter Tryz.func101 rfl 55 rfl rfl ?_
 intro a hf
 have hW : Below w0.heap.size w0 w0 := Below.refl _ _
 refine wp_seq_k ?_; intro K1 hK1
 refine wp_region_lit ?_
 refine l_f hf rfl (ef_box (zs := [.int .i64 g.k, .int .i64 g.a, .int .i64 g.b]) hf rfl rfl) ?_; rintro a _ w1 ⟨b2, rfl, hl2, hE, hB2⟩ hf
 have hlo2 := Nat.le_trans hW.size hl2
 replace hW := btr hW hE
 clear hE
 refine l_as hf rfl rfl ?_; intro a hf
 refine wpList_nil ?_
 refine hK1 _ _ ?_; try clear hK1 K1
 refine wp_seq_k ?_; intro K3 hK3
 refine wp_block ?_
 refine wp_seq_k ?_; intro K4 hK4
 refine wp_region_lit ?_
 refine l_e hf rfl (ev_fieldB hf rfl fd_107_0 (m := 0) rfl) ?_; intro a hf
 refine l_e hf rfl (ev_load1 hf rfl t1_3 (hB2.at 0)) ?_; intro a hf
 refine l_f hf rfl (ef_call (vs := [.int .i64 g.k, .int .i64 1, .int .i64 8]) hf rfl ff_85 (F85 _ g.k 1 8)) ?_; rintro a _ _ ⟨rfl, rfl⟩ hf
 refine l_as hf rfl rfl ?_; intro a hf
 refine wpList_nil ?_
 refine hK4 _ _ ?_; try clear hK4 K4
 refine c_if hf rfl (fun hc5 => ?_) (fun hc5 => ?_)
 ·have hc5b := hc5
  have hf0 := gOk1 hn hc5
  refine wp_seq_k ?_; intro K6 hK6
  refine c_cut (fun a w => Fr a 55 [(4, .bool ((inR g.a 0 (n - 1)) && (g.b == 0)))] ∧ w1 = w) ?_ ?_
  ·refine wp_region_lit ?_
   refine l_e hf rfl (ev_fieldB hf rfl fd_107_1 (m := 1) rfl) ?_; intro a hf
   refine l_e hf rfl (ev_load1 hf rfl t1_3 (hB2.at 1)) ?_; intro a hf
   refine l_mv hf rfl rfl ?_; intro a hf
   refine l_e hf rfl (ev_subx hf rfl rfl (by omega) (by omega)) ?_; intro a hf
   refine l_f hf rfl (ef_call (vs := [.int .i64 g.a, .int .i64 0, .int .i64 (n - 1)]) hf rfl ff_85 (F85 _ g.a 0 (n - 1))) ?_; rintro a _ _ ⟨rfl, rfl⟩ hf
   refine l_mv hf rfl rfl ?_; intro a hf
   refine g_split hf (t := 14) rfl (fun hg7 => ?_) (fun hg7 => ?_)
   ·refine l_ev hf ⟨_, _, rfl, rfl, hg7⟩ rfl rfl (ev_fieldB hf rfl fd_107_2 (m := 2) rfl) ?_; intro a hf
    refine l_ev hf ⟨_, _, rfl, rfl, hg7⟩ rfl rfl (ev_load1 hf rfl t1_3 (hB2.at 2)) ?_; intro a hf
    refine l_ev hf ⟨_, _, rfl, rfl, hg7⟩ rfl rfl (ev_eql hf rfl rfl) ?_; intro a hf
    refine l_e hf rfl (ev_pickT hf rfl hg7 rfl) ?_; intro a hf
    refine l_as hf rfl rfl ?_; intro a hf
    refine wpList_nil ?_
    exact ⟨hf.sub ⟨look_bool rfl (by first | rfl | (simp only [hc5b, hg7, Bool.true_and, Bool.false_and, Bool.true_or, Bool.false_or]; done) | simp [hc5b, hg7]), trivial⟩, rfl⟩
   ·refine l_pass hf ⟨_, _, rfl, rfl, hg7⟩ rfl rfl ?_; intro a hf
    refine l_pass hf ⟨_, _, rfl, rfl, hg7⟩ rfl rfl ?_; intro a hf
    refine l_pass hf ⟨_, _, rfl, rfl, hg7⟩ rfl rfl ?_; intro a hf
    refine l_e hf rfl (ev_pickF hf rfl hg7 rfl) ?_; intro a hf
    refine l_as hf rfl rfl ?_; intro a hf
    refine wpList_nil ?_
    exact ⟨hf.sub ⟨look_bool rfl (by first | rfl | (simp only [hc5b, hg7, Bool.true_and, Bool.false_and, Bool.true_or, Bool.false_or]; done) | simp [hc5b, hg7]), trivial⟩, rfl⟩
  rintro a _ ⟨hf, rfl⟩
  refine hK6 _ _ ?_; try clear hK6 K6
  refine wp_ret ?_
  refine x_retB ?_
  refine x_retS ?_
  refine c_ret hf (res1 hf rfl rfl) ?_
  exact ⟨by rw [hf0], hW⟩
 ·have hc5b := hc5
  have h18 := hc5
  refine wp_seq_k ?_; intro K8 hK8
  refine wp_region_lit ?_
  refine l_e hf rfl (ev_fieldB hf rfl fd_107_0 (m := 0) rfl) ?_; intro a hf
  refine l_e hf rfl (ev_load1 hf rfl t1_3 (hB2.at 0)) ?_; intro a hf
  refine l_f hf rfl (ef_call (vs := [.int .i64 g.k, .int .i64 9, .int .i64 11]) hf rfl ff_85 (F85 _ g.k 9 11)) ?_; rintro a _ _ ⟨rfl, rfl⟩ hf
  refine l_as hf rfl rfl ?_; intro a hf
  refine wpList_nil ?_
  refine hK8 _ _ ?_; try clear hK8 K8
  refine c_if hf rfl (fun hc9 => ?_) (fun hc9 => ?_)
  ·have hc9b := hc9
   have hf0 := gOk2 hn hc9
   refine wp_seq_k ?_; intro K10 hK10
   refine c_cut (fun a w => Fr a 55 [(4, .bool (((inR g.a 0 (n - 1)) && (inR g.b 0 (n - 1))) && (g.a != g.b)))] ∧ w1 = w) ?_ ?_
   ·refine wp_region_lit ?_
    refine l_e hf rfl (ev_fieldB hf rfl fd_107_1 (m := 1) rfl) ?_; intro a hf
    refine l_e hf rfl (ev_load1 hf rfl t1_3 (hB2.at 1)) ?_; intro a hf
    refine l_mv hf rfl rfl ?_; intro a hf
    refine l_e hf rfl (ev_subx hf rfl rfl (by omega) (by omega)) ?_; intro a hf
    refine l_f hf rfl (ef_call (vs := [.int .i64 g.a, .int .i64 0, .int .i64 (n - 1)]) hf rfl ff_85 (F85 _ g.a 0 (n - 1))) ?_; rintro a _ _ ⟨rfl, rfl⟩ hf
    refine l_mv hf rfl rfl ?_; intro a hf
    refine g_split hf (t := 28) rfl (fun hg11 => ?_) (fun hg11 => ?_)
    ·refine l_ev hf ⟨_, _, rfl, rfl, hg11⟩ rfl rfl (ev_fieldB hf rfl fd_107_2 (m := 2) rfl) ?_; intro a hf
     refine l_ev hf ⟨_, _, rfl, rfl, hg11⟩ rfl rfl (ev_load1 hf rfl t1_3 (hB2.at 2)) ?_; intro a hf
     refine l_ev hf ⟨_, _, rfl, rfl, hg11⟩ rfl rfl (ev_move hf rfl) ?_; intro a hf
     refine l_ev hf ⟨_, _, rfl, rfl, hg11⟩ rfl rfl (ev_subx hf rfl rfl (by omega) (by omega)) ?_; intro a hf
     refine l_eff hf ⟨_, _, rfl, rfl, hg11⟩ rfl rfl (ef_call (vs := [.int .i64 g.b, .int .i64 0, .int .i64 (n - 1)]) hf rfl ff_85 (F85 _ g.b 0 (n - 1))) ?_; rintro a _ _ ⟨rfl, rfl⟩ hf
     refine l_e hf rfl (ev_pickT hf rfl hg11 rfl) ?_; intro a hf
     refine l_mv hf rfl rfl ?_; intro a hf
     refine g_split hf (t := 35) rfl (fun hg12 => ?_) (fun hg12 => ?_)
     ·refine l_ev hf ⟨_, _, rfl, rfl, hg12⟩ rfl rfl (ev_fieldB hf rfl fd_107_1 (m := 1) rfl) ?_; intro a hf
      refine l_ev hf ⟨_, _, rfl, rfl, hg12⟩ rfl rfl (ev_load1 hf rfl t1_3 (hB2.at 1)) ?_; intro a hf
      refine l_ev hf ⟨_, _, rfl, rfl, hg12⟩ rfl rfl (ev_fieldB hf rfl fd_107_2 (m := 2) rfl) ?_; intro a hf
      refine l_ev hf ⟨_, _, rfl, rfl, hg12⟩ rfl rfl (ev_load1 hf rfl t1_3 (hB2.at 2)) ?_; intro a hf
      refine l_ev hf ⟨_, _, rfl, rfl, hg12⟩ rfl rfl (ev_neq hf rfl rfl) ?_; intro a hf
      refine l_e hf rfl (ev_pickT hf rfl hg12 rfl) ?_; intro a hf
      refine l_as hf rfl rfl ?_; intro a hf
      refine wpList_nil ?_
      exact ⟨hf.sub ⟨look_bool rfl (by first | rfl | (simp only [hc5b, hc9b, hg11, hg12, Bool.true_and, Bool.false_and, Bool.true_or, Bool.false_or]; done) | simp [hc5b, hc9b, hg11, hg12]), trivial⟩, rfl⟩
     ·refine l_pass hf ⟨_, _, rfl, rfl, hg12⟩ rfl rfl ?_; intro a hf
      refine l_pass hf ⟨_, _, rfl, rfl, hg12⟩ rfl rfl ?_; intro a hf
      refine l_pass hf ⟨_, _, rfl, rfl, hg12⟩ rfl rfl ?_; intro a hf
      refine l_pass hf ⟨_, _, rfl, rfl, hg12⟩ rfl rfl ?_; intro a hf
      refine l_pass hf ⟨_, _, rfl, rfl, hg12⟩ rfl rfl ?_; intro a hf
      refine l_e hf rfl (ev_pickF hf rfl hg12 rfl) ?_; intro a hf
      refine l_as hf rfl rfl ?_; intro a hf
      refine wpList_nil ?_
      exact ⟨hf.sub ⟨look_bool rfl (by first | rfl | (simp only [hc5b, hc9b, hg11, hg12, Bool.true_and, Bool.false_and, Bool.true_or, Bool.false_or]; done) | simp [hc5b, hc9b, hg11, hg12]), trivial⟩, rfl⟩
    ·refine l_pass hf ⟨_, _, rfl, rfl, hg11⟩ rfl rfl ?_; intro a hf
     refine l_pass hf ⟨_, _, rfl, rfl, hg11⟩ rfl rfl ?_; intro a hf
     refine l_pass hf ⟨_, _, rfl, rfl, hg11⟩ rfl rfl ?_; intro a hf
     refine l_pass hf ⟨_, _, rfl, rfl, hg11⟩ rfl rfl ?_; intro a hf
     refine l_pass hf ⟨_, _, rfl, rfl, hg11⟩ rfl rfl ?_; intro a hf
     refine l_e hf rfl (ev_pickF hf rfl hg11 rfl) ?_; intro a hf
     refine l_mv hf rfl rfl ?_; intro a hf
     refine l_pass hf ⟨_, _, rfl, rfl, rfl⟩ rfl rfl ?_; intro a hf
     refine l_pass hf ⟨_, _, rfl, rfl, rfl⟩ rfl rfl ?_; intro a hf
     refine l_pass hf ⟨_, _, rfl, rfl, rfl⟩ rfl rfl ?_; intro a hf
     refine l_pass hf ⟨_, _, rfl, rfl, rfl⟩ rfl rfl ?_; intro a hf
     refine l_pass hf ⟨_, _, rfl, rfl, rfl⟩ rfl rfl ?_; intro a hf
     refine l_e hf rfl (ev_pickF hf rfl rfl rfl) ?_; intro a hf
     refine l_as hf rfl rfl ?_; intro a hf
     refine wpList_nil ?_
     exact ⟨hf.sub ⟨look_bool rfl (by first | rfl | (simp only [hc5b, hc9b, hg11, Bool.true_and, Bool.false_and, Bool.true_or, Bool.false_or]; done) | simp [hc5b, hc9b, hg11]), trivial⟩, rfl⟩
   rintro a _ ⟨hf, rfl⟩
   refine hK10 _ _ ?_; try clear hK10 K10
   refine wp_ret ?_
   refine x_retB ?_
   refine x_retS ?_
   refine c_ret hf (res1 hf rfl rfl) ?_
   exact ⟨by rw [hf0], hW⟩
  ·have hc9b := hc9
   have hf0 := gOk3 hn h18 hc9
   refine wp_skip ?_
   refine x_norm ?_
   refine hK3 _ _ ?_; try clear hK3 K3
   refine wp_seq_k ?_; intro K13 hK13
   refine c_cut (fun a w => Fr a 55 [(4, .bool (((g.k == 12) && (g.a == 0)) && (g.b == 0)))] ∧ w1 = w) ?_ ?_
   ·refine wp_region_lit ?_
    refine l_e hf rfl (ev_fieldB hf rfl fd_107_0 (m := 0) rfl) ?_; intro a hf
    refine l_e hf rfl (ev_load1 hf rfl t1_3 (hB2.at 0)) ?_; intro a hf
    refine l_e hf rfl (ev_eql hf rfl rfl) ?_; intro a hf
    refine l_mv hf rfl rfl ?_; intro a hf
    refine g_split hf (t := 45) rfl (fun hg14 => ?_) (fun hg14 => ?_)
    ·refine l_ev hf ⟨_, _, rfl, rfl, hg14⟩ rfl rfl (ev_fieldB hf rfl fd_107_1 (m := 1) rfl) ?_; intro a hf
     refine l_ev hf ⟨_, _, rfl, rfl, hg14⟩ rfl rfl (ev_load1 hf rfl t1_3 (hB2.at 1)) ?_; intro a hf
     refine l_ev hf ⟨_, _, rfl, rfl, hg14⟩ rfl rfl (ev_eql hf rfl rfl) ?_; intro a hf
     refine l_e hf rfl (ev_pickT hf rfl hg14 rfl) ?_; intro a hf
     refine l_mv hf rfl rfl ?_; intro a hf
     refine g_split hf (t := 50) rfl (fun hg15 => ?_) (fun hg15 => ?_)
     ·refine l_ev hf ⟨_, _, rfl, rfl, hg15⟩ rfl rfl (ev_fieldB hf rfl fd_107_2 (m := 2) rfl) ?_; intro a hf
      refine l_ev hf ⟨_, _, rfl, rfl, hg15⟩ rfl rfl (ev_load1 hf rfl t1_3 (hB2.at 2)) ?_; intro a hf
      refine l_ev hf ⟨_, _, rfl, rfl, hg15⟩ rfl rfl (ev_eql hf rfl rfl) ?_; intro a hf
      refine l_e hf rfl (ev_pickT hf rfl hg15 rfl) ?_; intro a hf
      refine l_as hf rfl rfl ?_; intro a hf
      refine wpList_nil ?_
      exact ⟨hf.sub ⟨look_bool rfl (by first | rfl | (simp only [hc5b, hc9b, hg14, hg15, Bool.true_and, Bool.false_and, Bool.true_or, Bool.false_or]; done) | simp [hc5b, hc9b, hg14, hg15]), trivial⟩, rfl⟩
     ·refine l_pass hf ⟨_, _, rfl, rfl, hg15⟩ rfl rfl ?_; intro a hf
      refine l_pass hf ⟨_, _, rfl, rfl, hg15⟩ rfl rfl ?_; intro a hf
      refine l_pass hf ⟨_, _, rfl, rfl, hg15⟩ rfl rfl ?_; intro a hf
      refine l_e hf rfl (ev_pickF hf rfl hg15 rfl) ?_; intro a hf
      refine l_as hf rfl rfl ?_; intro a hf
      refine wpList_nil ?_
      exact ⟨hf.sub ⟨look_bool rfl (by first | rfl | (simp only [hc5b, hc9b, hg14, hg15, Bool.true_and, Bool.false_and, Bool.true_or, Bool.false_or]; done) | simp [hc5b, hc9b, hg14, hg15]), trivial⟩, rfl⟩
    ·refine l_pass hf ⟨_, _, rfl, rfl, hg14⟩ rfl rfl ?_; intro a hf
     refine l_pass hf ⟨_, _, rfl, rfl, hg14⟩ rfl rfl ?_; intro a hf
     refine l_pass hf ⟨_, _, rfl, rfl, hg14⟩ rfl rfl ?_; intro a hf
     refine l_e hf rfl (ev_pickF hf rfl hg14 rfl) ?_; intro a hf
     refine l_mv hf rfl rfl ?_; intro a hf
     refine l_pass hf ⟨_, _, rfl, rfl, rfl⟩ rfl rfl ?_; intro a hf
     refine l_pass hf ⟨_, _, rfl, rfl, rfl⟩ rfl rfl ?_; intro a hf
     refine l_pass hf ⟨_, _, rfl, rfl, rfl⟩ rfl rfl ?_; intro a hf
     refine l_e hf rfl (ev_pickF hf rfl rfl rfl) ?_; intro a hf
     refine l_as hf rfl rfl ?_; intro a hf
     refine wpList_nil ?_
     exact ⟨hf.sub ⟨look_bool rfl (by first | rfl | (simp only [hc5b, hc9b, hg14, Bool.true_and, Bool.false_and, Bool.true_or, Bool.false_or]; done) | simp [hc5b, hc9b, hg14]), trivial⟩, rfl⟩
   rintro a _ ⟨hf, rfl⟩
   refine hK13 _ _ ?_; try clear hK13 K13
   refine wp_ret ?_
   refine c_ret hf (res1 hf rfl rfl) ?_
   exact ⟨by rw [hf0], hW⟩
theorem F53 (w0 : World) (c : Cx) (Ac : Option Addr) (cc : Nat) (hr_c : Rd w0 w0.heap.size 107 encG Ac c.gs) : Ret Tryz.prog 53 [.agg #[.int .i64 c.n, .slice Ac c.gs.length cc]] w0 (fun v w => v = .bool (cOk c) ∧ Below w0.heap.size w0 w) := by
 refine enter Tryz.func53 rfl 28 rfl rfl ?_
 intro a hf
 have hW : Below w0.heap.size w0 w0 := Below.refl _ _
 refine wp_seq_k ?_; intro K2 hK2
 refine wp_region_lit ?_
 refine l_f hf rfl (ef_box (zs := [.int .i64 c.n, .slice Ac c.gs.length cc]) hf rfl rfl) ?_; rintro a _ w1 ⟨b3, rfl, hl3, hE, hB3⟩ hf
 have hlo3 := Nat.le_trans hW.size hl3
 replace hr_c := hr_c.below hE
 replace hW := btr hW hE
 clear hE
 refine l_as hf rfl rfl ?_; intro a hf
 refine wpList_nil ?_
 refine hK2 _ _ ?_; try clear hK2 K2
 refine wp_seq_k ?_; intro K4 hK4
 refine wp_seq_k ?_; intro K5 hK5
 refine c_cut (fun a w => Fr a 28 [(1, .pointer (some ⟨b3, 0, none⟩)), (14, .bool ((!(inR c.n 1 5)) || (decide (400 < (c.gs.length : Int)))))] ∧ w1 = w) ?_ ?_
 ·refine wp_region_lit ?_
  refine l_e hf rfl (ev_fieldB hf rfl fd_41_0 (m := 0) rfl) ?_; intro a hf
  refine l_e hf rfl (ev_load1 hf rfl t1_3 (hB3.at 0)) ?_; intro a hf
  refine l_f hf rfl (ef_call (vs := [.int .i64 c.n, .int .i64 1, .int .i64 5]) hf rfl ff_85 (F85 _ c.n 1 5)) ?_; rintro a _ _ ⟨rfl, rfl⟩ hf
  refine l_e hf rfl (ev_not hf rfl) ?_; intro a hf
  refine l_mv hf rfl rfl ?_; intro a hf
  refine g_split hf (t := 9) rfl (fun hg6 => ?_) (fun hg6 => ?_)
  ·refine l_pass hf ⟨_, _, rfl, rfl, hg6⟩ rfl rfl ?_; intro a hf
   refine l_pass hf ⟨_, _, rfl, rfl, hg6⟩ rfl rfl ?_; intro a hf
   refine l_pass hf ⟨_, _, rfl, rfl, hg6⟩ rfl rfl ?_; intro a hf
   refine l_pass hf ⟨_, _, rfl, rfl, hg6⟩ rfl rfl ?_; intro a hf
   refine l_e hf rfl (ev_pickT hf rfl hg6 rfl) ?_; intro a hf
   refine wpList_nil ?_
   exact ⟨hf.sub ⟨rfl, look_bool rfl (by first | rfl | (simp only [hg6, Bool.true_and, Bool.false_and, Bool.true_or, Bool.false_or]; done) | simp [hg6]), trivial⟩, rfl⟩
  ·refine l_ev hf ⟨_, _, rfl, rfl, hg6⟩ rfl rfl (ev_fieldB hf rfl fd_41_1 (m := 1) rfl) ?_; intro a hf
   refine l_ev hf ⟨_, _, rfl, rfl, hg6⟩ rfl rfl (ev_load1 hf rfl t1_28 (hB3.at 1)) ?_; intro a hf
   refine l_ev hf ⟨_, _, rfl, rfl, hg6⟩ rfl rfl (ev_len hf rfl sl_28) ?_; intro a hf
   refine l_ev hf ⟨_, _, rfl, rfl, hg6⟩ rfl rfl (ev_gtr hf rfl rfl) ?_; intro a hf
   refine l_e hf rfl (ev_pickF hf rfl hg6 rfl) ?_; intro a hf
   refine wpList_nil ?_
   exact ⟨hf.sub ⟨rfl, look_bool rfl (by first | rfl | (simp only [hg6, Bool.true_and, Bool.false_and, Bool.true_or, Bool.false_or]; done) | simp [hg6]), trivial⟩, rfl⟩
 rintro a _ ⟨hf, rfl⟩
 refine hK5 _ _ ?_; try clear hK5 K5
 refine c_if hf rfl (fun hc7 => ?_) (fun hc7 => ?_)
 ·have hc7b := hc7
  have hn : (inR c.n 1 5 && decide ((c.gs.length : Int) ≤ 400)) = false := by revert hc7; cases inR c.n 1 5 <;> simp
  refine wp_seq_k ?_; intro K8 hK8
  refine wp_region_lit ?_
  refine l_as hf rfl rfl ?_; intro a hf
  refine wpList_nil ?_
  refine hK8 _ _ ?_; try clear hK8 K8
  refine wp_ret ?_
  refine x_retS ?_
  refine c_ret hf (res1 hf rfl rfl) ?_
  exact ⟨by rw [cOk, hn]; rfl, hW⟩
 ·have hc7b := hc7
  have hy : (inR c.n 1 5 && decide ((c.gs.length : Int) ≤ 400)) = true := by revert hc7; cases inR c.n 1 5 <;> simp
  have hy2 := (Bool.and_eq_true _ _ ▸ hy : inR c.n 1 5 = true ∧ decide ((c.gs.length : Int) ≤ 400) = true)
  have hn := inR_iff.1 hy2.1
  have hlen := of_decide_eq_true hy2.2
  refine wp_skip ?_
  refine hK4 _ _ ?_; try clear hK4 K4
  refine wp_seq_k ?_; intro K9 hK9
  refine wp_seq_k ?_; intro K10 hK10
  refine wp_region_lit ?_
  refine l_e hf rfl (ev_fieldB hf rfl fd_41_1 (m := 1) rfl) ?_; intro a hf
  refine l_e hf rfl (ev_load1 hf rfl t1_28 (hB3.at 1)) ?_; intro a hf
  refine l_e hf rfl (ev_len hf rfl sl_28) ?_; intro a hf
  refine l_mv hf rfl rfl ?_; intro a hf
  refine wpList_nil ?_
  refine hK10 _ _ ?_; try clear hK10 K10
  refine wp_block ?_
  refine c_loop (σ := Nat) (fun (k : Nat) (a : Act) (w : World) => Fr a 28 [(1, .pointer (some ⟨b3, 0, none⟩)), (16, .slice Ac c.gs.length cc), (17, .int .i64 (c.gs.length : Int)), (18, .int .i64 (k : Int))] ∧ (k ≤ c.gs.length) ∧ ((c.gs.take k).all (fun x => gOk c.n x) = true) ∧ Blk w b3 41 [.int .i64 c.n, .slice Ac c.gs.length cc] ∧ Rd w w0.heap.size 107 encG Ac c.gs ∧ Below w0.heap.size w0 w) (fun (k : Nat) => c.gs.length + 1 - k) 0 ?_ ?_
  · exact ⟨hf.sub ⟨rfl, rfl, rfl, rfl, trivial⟩, (Nat.zero_le _), (by simp), hB3, hr_c, hW⟩
  rintro k a w2 ⟨hf, hk, hpre, hB3, hr_c, hW⟩
  refine wp_seq_k ?_; intro K11 hK11
  refine wp_region_lit ?_
  refine l_e hf rfl (ev_lss hf rfl rfl) ?_; intro a hf
  refine wpList_nil ?_
  refine hK11 _ _ ?_; try clear hK11 K11
  refine wp_seq_k ?_; intro K12 hK12
  refine c_if hf rfl (fun hc13 => ?_) (fun hc13 => ?_)
  ·have hc13b := hc13
   have hc13 := of_decide_eq_true hc13
   obtain ⟨u14, hu14⟩ := getElem_ex (l := c.gs) (k := k) (by omega)
   refine wp_skip ?_
   refine hK12 _ _ ?_; try clear hK12 K12
   refine wp_seq_k ?_; intro K15 hK15
   refine wp_block ?_
   refine wp_seq_k ?_; intro K16 hK16
   refine wp_region_lit ?_
   refine l_index (k := k) (u := u14) (enc := encG) (l := c.gs) hf trivial rfl rfl rfl sl_28 sz_107 encG_len hr_c hu14 rfl ?_; intro a p18 hat17 hf
   refine l_e hf rfl (ev_loadN (l := [.int .i64 u14.k, .int .i64 u14.a, .int .i64 u14.b]) hf rfl tN_107 hat17 rfl) ?_; intro a hf
   refine l_f hf rfl (ef_alloc (zs := [.int .i64 0, .int .i64 0, .int .i64 0]) z_107 rfl) ?_; rintro a _ w3 ⟨b19, rfl, hl19, hE, hB19⟩ hf
   have hlo19 := Nat.le_trans hW.size hl19
   have haw1_19 := hr_c.away hl19
   replace hB3 := hB3.below hE
   replace hr_c := hr_c.below hE
   replace hW := btr hW hE
   clear hE
   refine l_f0 hf (ef_store (vs := [.int .i64 u14.k, .int .i64 u14.a, .int .i64 u14.b]) (l' := [.int .i64 u14.k, .int .i64 u14.a, .int .i64 u14.b]) hf rfl rfl sz_107 hB19 rfl rfl rfl rfl rfl) ?_; rintro a _ w4 ⟨ho, hb⟩ hf
   have hold := hB19
   replace hB3 := hB3.only ho (Blk.ne hB3 hold rfl)
   replace hr_c := hr_c.only ho hlo19
   replace hW := Below.only hW ho hlo19
   clear hold
   have hB19 := hb
   clear hb ho
   refine wpList_nil ?_
   refine hK16 _ _ ?_; try clear hK16 K16
   refine wp_seq_k ?_; intro K20 hK20
   refine wp_region_lit ?_
   refine l_e hf rfl (ev_fieldB hf rfl fd_41_0 (m := 0) rfl) ?_; intro a hf
   refine l_e hf rfl (ev_load1 hf rfl t1_3 (hB3.at 0)) ?_; intro a hf
   refine l_e hf rfl (ev_loadN (l := [.int .i64 u14.k, .int .i64 u14.a, .int .i64 u14.b]) hf rfl tN_107 (hB19.at 0) rfl) ?_; intro a hf
   refine l_f hf rfl (ef_call (vs := [.int .i64 c.n, .agg #[.int .i64 u14.k, .int .i64 u14.a, .int .i64 u14.b]]) hf rfl ff_101 (F101 _ c.n u14 hn)) ?_; rintro a _ w5 ⟨rfl, hE⟩ hf
   replace hB3 := hB3.below hE
   replace hB19 := hB19.below hE
   replace hr_c := hr_c.below hE
   replace hW := btr hW hE
   clear hE
   refine l_e hf rfl (ev_not hf rfl) ?_; intro a hf
   refine wpList_nil ?_
   refine hK20 _ _ ?_; try clear hK20 K20
   refine c_if hf rfl (fun hc21 => ?_) (fun hc21 => ?_)
   ·have hc21b := hc21
    have hb2 : (c.gs.any fun x => !gOk c.n x) = true := any_true hu14 hc21
    refine wp_seq_k ?_; intro K22 hK22
    refine wp_region_lit ?_
    refine l_as hf rfl rfl ?_; intro a hf
    refine wpList_nil ?_
    refine hK22 _ _ ?_; try clear hK22 K22
    refine wp_ret ?_
    refine x_retB ?_
    refine x_retS ?_
    refine x_retS ?_
    refine x_retB ?_
    refine x_retS ?_
    refine c_ret hf (res1 hf rfl rfl) ?_
    exact ⟨by rw [cOk, hy, hb2]; rfl, hW⟩
   ·have hc21b := hc21
    have hok : gOk c.n u14 = true := by revert hc21; cases gOk c.n u14 <;> simp
    refine wp_skip ?_
    refine x_norm ?_
    refine hK15 _ _ ?_; try clear hK15 K15
    refine wp_region_lit ?_
    refine l_e hf rfl (ev_addx hf rfl rfl (by omega) (by omega)) ?_; intro a hf
    refine l_mv hf rfl rfl ?_; intro a hf
    refine wpList_nil ?_
    refine x_thenN ?_
    exact ⟨k + 1, ⟨hf.sub ⟨rfl, rfl, rfl, rfl, trivial⟩, (by omega), (take_all hpre hu14 hok), hB3, hr_c, hW⟩, (by omega)⟩
  ·have hc13b := hc13
   have hc13 := of_decide_eq_false hc13
   refine wp_exit ?_
   refine x_exS ?_
   refine x_exS ?_
   refine x_exit ?_
   refine hK9 _ _ ?_; try clear hK9 K9
   refine wp_seq_k ?_; intro K23 hK23
   refine wp_region_lit ?_
   refine l_as hf rfl rfl ?_; intro a hf
   refine wpList_nil ?_
   refine hK23 _ _ ?_; try clear hK23 K23
   refine wp_ret ?_
   refine c_ret hf (res1 hf rfl rfl) ?_
   have hb2 : (c.gs.any fun x => !gOk c.n x) = false := any_false (by simpa using take_full hpre (by omega))
   exact ⟨by rw [cOk, hy, hb2]; rfl, hW⟩
end Go.Proofs.YtfgnmflfiobkmaaGreat
set_option maxRecDepth 4000
namespace Go.Proofs.YtfgnmflfiobkmaaGreat
open Go.RowKit
theorem F86 (w0 : World) (n : Int) (Al : Option Addr) (cl : Nat) (l : List Gt) (hr_l : Rd w0 w0.heap.size 107 encG Al l) (m : Int) (hn : 1 ≤ n ∧ n ≤ 5) (hln : l.length ≤ 2305843009213693951) : Ret Tryz.prog 86 [.int .i64 n, .slice Al l.length cl, .int .i64 m] w0 (fun v w => v = .bool (!(l.any fun x => !gOk n x) && decide ((l.length : Int) ≤ m)) ∧ Below w0.heap.size w0 w) := by
 refine enter Tryz.func86 rfl 24 rfl rfl ?_
 intro a hf
 have hW : Below w0.heap.size w0 w0 := Below.refl _ _
 refine wp_seq_k ?_; intro K2 hK2
 refine wp_region_lit ?_
 refine l_as hf rfl rfl ?_; intro a hf
 refine wpList_nil ?_
 refine hK2 _ _ ?_; try clear hK2 K2
 refine wp_seq_k ?_; intro K3 hK3
 refine wp_seq_k ?_; intro K4 hK4
 refine wp_region_lit ?_
 refine l_mv hf rfl rfl ?_; intro a hf
 refine l_e hf rfl (ev_len hf rfl sl_28) ?_; intro a hf
 refine l_mv hf rfl rfl ?_; intro a hf
 refine wpList_nil ?_
 refine hK4 _ _ ?_; try clear hK4 K4
 refine wp_block ?_
 refine c_loop (σ := Nat) (fun (k : Nat) (a : Act) (w : World) => Fr a 24 [(0, .int .i64 n), (1, .slice Al l.length cl), (2, .int .i64 m), (9, .slice Al l.length cl), (10, .int .i64 (l.length : Int)), (11, .int .i64 (k : Int))] ∧ (k ≤ l.length) ∧ ((l.take k).all (fun x => gOk n x) = true) ∧ Rd w w0.heap.size 107 encG Al l ∧ Below w0.heap.size w0 w) (fun (k : Nat) => l.length + 1 - k) 0 ?_ ?_
 · exact ⟨hf.sub ⟨rfl, rfl, rfl, rfl, rfl, rfl, trivial⟩, (Nat.zero_le _), (by simp), hr_l, hW⟩
 rintro k a w1 ⟨hf, hk, hpre, hr_l, hW⟩
 refine wp_seq_k ?_; intro K5 hK5
 refine wp_region_lit ?_
 refine l_e hf rfl (ev_lss hf rfl rfl) ?_; intro a hf
 refine wpList_nil ?_
 refine hK5 _ _ ?_; try clear hK5 K5
 refine wp_seq_k ?_; intro K6 hK6
 refine c_if hf rfl (fun hc7 => ?_) (fun hc7 => ?_)
 ·have hc7b := hc7
  have hc7 := of_decide_eq_true hc7
  obtain ⟨u8, hu8⟩ := getElem_ex (l := l) (k := k) (by omega)
  refine wp_skip ?_
  refine hK6 _ _ ?_; try clear hK6 K6
  refine wp_seq_k ?_; intro K9 hK9
  refine wp_block ?_
  refine wp_seq_k ?_; intro K10 hK10
  refine wp_region_lit ?_
  refine l_index (k := k) (u := u8) (enc := encG) (l := l) hf trivial rfl rfl rfl sl_28 sz_107 encG_len hr_l hu8 rfl ?_; intro a p12 hat11 hf
  refine l_e hf rfl (ev_loadN (l := [.int .i64 u8.k, .int .i64 u8.a, .int .i64 u8.b]) hf rfl tN_107 hat11 rfl) ?_; intro a hf
  refine l_f hf rfl (ef_alloc (zs := [.int .i64 0, .int .i64 0, .int .i64 0]) z_107 rfl) ?_; rintro a _ w2 ⟨b13, rfl, hl13, hE, hB13⟩ hf
  have hlo13 := Nat.le_trans hW.size hl13
  have haw1_13 := hr_l.away hl13
  replace hr_l := hr_l.below hE
  replace hW := btr hW hE
  clear hE
  refine l_f0 hf (ef_store (vs := [.int .i64 u8.k, .int .i64 u8.a, .int .i64 u8.b]) (l' := [.int .i64 u8.k, .int .i64 u8.a, .int .i64 u8.b]) hf rfl rfl sz_107 hB13 rfl rfl rfl rfl rfl) ?_; rintro a _ w3 ⟨ho, hb⟩ hf
  have hold := hB13
  replace hr_l := hr_l.only ho hlo13
  replace hW := Below.only hW ho hlo13
  clear hold
  have hB13 := hb
  clear hb ho
  refine wpList_nil ?_
  refine hK10 _ _ ?_; try clear hK10 K10
  refine wp_seq_k ?_; intro K14 hK14
  refine wp_region_lit ?_
  refine l_mv hf rfl rfl ?_; intro a hf
  refine l_e hf rfl (ev_loadN (l := [.int .i64 u8.k, .int .i64 u8.a, .int .i64 u8.b]) hf rfl tN_107 (hB13.at 0) rfl) ?_; intro a hf
  refine l_f hf rfl (ef_call (vs := [.int .i64 n, .agg #[.int .i64 u8.k, .int .i64 u8.a, .int .i64 u8.b]]) hf rfl ff_101 (F101 _ n u8 hn)) ?_; rintro a _ w4 ⟨rfl, hE⟩ hf
  replace hB13 := hB13.below hE
  replace hr_l := hr_l.below hE
  replace hW := btr hW hE
  clear hE
  refine l_e hf rfl (ev_not hf rfl) ?_; intro a hf
  refine wpList_nil ?_
  refine hK14 _ _ ?_; try clear hK14 K14
  refine c_if hf rfl (fun hc15 => ?_) (fun hc15 => ?_)
  ·have hc15b := hc15
   have hb2 : (l.any fun x => !gOk n x) = true := any_true hu8 hc15
   refine wp_seq_k ?_; intro K16 hK16
   refine wp_region_lit ?_
   refine l_as hf rfl rfl ?_; intro a hf
   refine wpList_nil ?_
   refine hK16 _ _ ?_; try clear hK16 K16
   refine wp_ret ?_
   refine x_retB ?_
   refine x_retS ?_
   refine x_retS ?_
   refine x_retB ?_
   refine x_retS ?_
   refine c_ret hf (res1 hf rfl rfl) ?_
   exact ⟨by rw [hb2]; rfl, hW⟩
  ·have hc15b := hc15
   have hok : gOk n u8 = true := by revert hc15; cases gOk n u8 <;> simp
   refine wp_skip ?_
   refine x_norm ?_
   refine hK9 _ _ ?_; try clear hK9 K9
   refine wp_region_lit ?_
   refine l_e hf rfl (ev_addx hf rfl rfl (by omega) (by omega)) ?_; intro a hf
   refine l_mv hf rfl rfl ?_; intro a hf
   refine wpList_nil ?_
   refine x_thenN ?_
   exact ⟨k + 1, ⟨hf.sub ⟨rfl, rfl, rfl, rfl, rfl, rfl, trivial⟩, (by omega), (take_all hpre hu8 hok), hr_l, hW⟩, (by omega)⟩
 ·have hc7b := hc7
  have hc7 := of_decide_eq_false hc7
  refine wp_exit ?_
  refine x_exS ?_
  refine x_exS ?_
  refine x_exit ?_
  refine hK3 _ _ ?_; try clear hK3 K3
  refine wp_seq_k ?_; intro K17 hK17
  refine wp_region_lit ?_
  refine l_mv hf rfl rfl ?_; intro a hf
  refine l_e hf rfl (ev_len hf rfl sl_28) ?_; intro a hf
  refine l_mv hf rfl rfl ?_; intro a hf
  refine l_e hf rfl (ev_leq hf rfl rfl) ?_; intro a hf
  refine l_as hf rfl rfl ?_; intro a hf
  refine wpList_nil ?_
  refine hK17 _ _ ?_; try clear hK17 K17
  refine wp_ret ?_
  refine c_ret hf (res1 hf rfl rfl) ?_
  have hb2 : (l.any fun x => !gOk n x) = false := any_false (by simpa using take_full hpre (by omega))
  exact ⟨by rw [hb2]; rfl, hW⟩
theorem F100 (w0 : World) (x : Gt) (y : Gt) : Ret Tryz.prog 100 [.agg #[.int .i64 x.k, .int .i64 x.a, .int .i64 x.b], .agg #[.int .i64 y.k, .int .i64 y.a, .int .i64 y.b]] w0 (fun v w => v = .bool (decide (x = y)) ∧ Below w0.heap.size w0 w) := by
 refine enter Tryz.func100 rfl 20 rfl rfl ?_
 intro a hf
 have hW : Below w0.heap.size w0 w0 := Below.refl _ _
 refine wp_seq_k ?_; intro K1 hK1
 refine wp_region_lit ?_
 refine l_f hf rfl (ef_box (zs := [.int .i64 x.k, .int .i64 x.a, .int .i64 x.b]) hf rfl rfl) ?_; rintro a _ w1 ⟨b2, rfl, hl2, hE, hB2⟩ hf
 have hlo2 := Nat.le_trans hW.size hl2
 replace hW := btr hW hE
 clear hE
 refine l_f hf rfl (ef_box (zs := [.int .i64 y.k, .int .i64 y.a, .int .i64 y.b]) hf rfl rfl) ?_; rintro a _ w2 ⟨b3, rfl, hl3, hE, hB3⟩ hf
 have hne2_3 : b2 ≠ b3 := by have := hB2.lt; omega
 have hlo3 := Nat.le_trans hW.size hl3
 replace hB2 := hB2.below hE
 replace hW := btr hW hE
 clear hE
 refine l_as hf rfl rfl ?_; intro a hf
 refine wpList_nil ?_
 refine hK1 _ _ ?_; try clear hK1 K1
 refine wp_seq_k ?_; intro K4 hK4
 refine wp_seq_k ?_; intro K5 hK5
 refine wp_region_lit ?_
 refine l_e hf rfl (ev_fieldB hf rfl fd_107_0 (m := 0) rfl) ?_; intro a hf
 refine l_e hf rfl (ev_load1 hf rfl t1_3 (hB2.at 0)) ?_; intro a hf
 refine l_e hf rfl (ev_fieldB hf rfl fd_107_0 (m := 0) rfl) ?_; intro a hf
 refine l_e hf rfl (ev_load1 hf rfl t1_3 (hB3.at 0)) ?_; intro a hf
 refine l_e hf rfl (ev_neq hf rfl rfl) ?_; intro a hf
 refine wpList_nil ?_
 refine hK5 _ _ ?_; try clear hK5 K5
 refine c_if hf rfl (fun hc6 => ?_) (fun hc6 => ?_)
 ·have hc6b := hc6
  have hne : ¬ x = y := by rintro rfl; simp at hc6
  refine wp_seq_k ?_; intro K7 hK7
  refine wp_region_lit ?_
  refine l_as hf rfl rfl ?_; intro a hf
  refine wpList_nil ?_
  refine hK7 _ _ ?_; try clear hK7 K7
  refine wp_ret ?_
  refine x_retS ?_
  refine c_ret hf (res1 hf rfl rfl) ?_
  exact ⟨by simp [hne], hW⟩
 ·have hc6b := hc6
  have e1 : x.k = y.k := by simpa using hc6
  refine wp_skip ?_
  refine hK4 _ _ ?_; try clear hK4 K4
  refine wp_seq_k ?_; intro K8 hK8
  refine wp_seq_k ?_; intro K9 hK9
  refine wp_region_lit ?_
  refine l_e hf rfl (ev_fieldB hf rfl fd_107_1 (m := 1) rfl) ?_; intro a hf
  refine l_e hf rfl (ev_load1 hf rfl t1_3 (hB2.at 1)) ?_; intro a hf
  refine l_e hf rfl (ev_fieldB hf rfl fd_107_1 (m := 1) rfl) ?_; intro a hf
  refine l_e hf rfl (ev_load1 hf rfl t1_3 (hB3.at 1)) ?_; intro a hf
  refine l_e hf rfl (ev_neq hf rfl rfl) ?_; intro a hf
  refine wpList_nil ?_
  refine hK9 _ _ ?_; try clear hK9 K9
  refine c_if hf rfl (fun hc10 => ?_) (fun hc10 => ?_)
  ·have hc10b := hc10
   have hne : ¬ x = y := by rintro rfl; simp at hc10
   refine wp_seq_k ?_; intro K11 hK11
   refine wp_region_lit ?_
   refine l_as hf rfl rfl ?_; intro a hf
   refine wpList_nil ?_
   refine hK11 _ _ ?_; try clear hK11 K11
   refine wp_ret ?_
   refine x_retS ?_
   refine c_ret hf (res1 hf rfl rfl) ?_
   exact ⟨by simp [hne], hW⟩
  ·have hc10b := hc10
   have e2 : x.a = y.a := by simpa using hc10
   refine wp_skip ?_
   refine hK8 _ _ ?_; try clear hK8 K8
   refine wp_seq_k ?_; intro K12 hK12
   refine wp_seq_k ?_; intro K13 hK13
   refine wp_region_lit ?_
   refine l_e hf rfl (ev_fieldB hf rfl fd_107_2 (m := 2) rfl) ?_; intro a hf
   refine l_e hf rfl (ev_load1 hf rfl t1_3 (hB2.at 2)) ?_; intro a hf
   refine l_e hf rfl (ev_fieldB hf rfl fd_107_2 (m := 2) rfl) ?_; intro a hf
   refine l_e hf rfl (ev_load1 hf rfl t1_3 (hB3.at 2)) ?_; intro a hf
   refine l_e hf rfl (ev_neq hf rfl rfl) ?_; intro a hf
   refine wpList_nil ?_
   refine hK13 _ _ ?_; try clear hK13 K13
   refine c_if hf rfl (fun hc14 => ?_) (fun hc14 => ?_)
   ·have hc14b := hc14
    have hne : ¬ x = y := by rintro rfl; simp at hc14
    refine wp_seq_k ?_; intro K15 hK15
    refine wp_region_lit ?_
    refine l_as hf rfl rfl ?_; intro a hf
    refine wpList_nil ?_
    refine hK15 _ _ ?_; try clear hK15 K15
    refine wp_ret ?_
    refine x_retS ?_
    refine c_ret hf (res1 hf rfl rfl) ?_
    exact ⟨by simp [hne], hW⟩
   ·have hc14b := hc14
    have e3 : x.b = y.b := by simpa using hc14
    refine wp_skip ?_
    refine hK12 _ _ ?_; try clear hK12 K12
    refine wp_seq_k ?_; intro K16 hK16
    refine wp_region_lit ?_
    refine l_as hf rfl rfl ?_; intro a hf
    refine wpList_nil ?_
    refine hK16 _ _ ?_; try clear hK16 K16
    refine wp_ret ?_
    refine c_ret hf (res1 hf rfl rfl) ?_
    have he : x = y := by cases x; cases y; simp_all
    exact ⟨by simp [he], hW⟩
theorem F52 (w0 : World) (Ap : Option Addr) (cp : Nat) (p : List Gt) (hr_p : Rd w0 w0.heap.size 107 encG Ap p) (Aq : Option Addr) (cq : Nat) (q : List Gt) (hr_q : Rd w0 w0.heap.size 107 encG Aq q) (hln : p.length ≤ 2305843009213693951) : Ret Tryz.prog 52 [.slice Ap p.length cp, .slice Aq q.length cq] w0 (fun v w => v = .bool (decide (p = q)) ∧ Below w0.heap.size w0 w) := by
 refine enter Tryz.func52 rfl 27 rfl rfl ?_
 intro a hf
 have hW : Below w0.heap.size w0 w0 := Below.refl _ _
 refine wp_seq_k ?_; intro K3 hK3
 refine wp_region_lit ?_
 refine l_as hf rfl rfl ?_; intro a hf
 refine wpList_nil ?_
 refine hK3 _ _ ?_; try clear hK3 K3
 refine wp_seq_k ?_; intro K4 hK4
 refine wp_seq_k ?_; intro K5 hK5
 refine wp_region_lit ?_
 refine l_mv hf rfl rfl ?_; intro a hf
 refine l_e hf rfl (ev_len hf rfl sl_28) ?_; intro a hf
 refine l_mv hf rfl rfl ?_; intro a hf
 refine l_e hf rfl (ev_len hf rfl sl_28) ?_; intro a hf
 refine l_e hf rfl (ev_neq hf rfl rfl) ?_; intro a hf
 refine wpList_nil ?_
 refine hK5 _ _ ?_; try clear hK5 K5
 refine c_if hf rfl (fun hc6 => ?_) (fun hc6 => ?_)
 ·have hc6b := hc6
  have hne : ¬ p = q := by intro h9; rw [h9] at hc6; simp at hc6
  refine wp_seq_k ?_; intro K7 hK7
  refine wp_region_lit ?_
  refine l_as hf rfl rfl ?_; intro a hf
  refine wpList_nil ?_
  refine hK7 _ _ ?_; try clear hK7 K7
  refine wp_ret ?_
  refine x_retS ?_
  refine c_ret hf (res1 hf rfl rfl) ?_
  exact ⟨by simp [hne], hW⟩
 ·have hc6b := hc6
  have hll : p.length = q.length := by have h9 : (p.length : Int) = q.length := (by simpa using hc6); omega
  refine wp_skip ?_
  refine hK4 _ _ ?_; try clear hK4 K4
  refine wp_seq_k ?_; intro K8 hK8
  refine wp_seq_k ?_; intro K9 hK9
  refine wp_region_lit ?_
  refine l_as hf rfl rfl ?_; intro a hf
  refine wpList_nil ?_
  refine hK9 _ _ ?_; try clear hK9 K9
  refine wp_block ?_
  refine c_loop (σ := Nat) (fun (k : Nat) (a : Act) (w : World) => Fr a 27 [(0, .slice Ap p.length cp), (1, .slice Aq q.length cq), (5, .int .i64 (k : Int))] ∧ (k ≤ p.length) ∧ (p.take k = q.take k) ∧ Rd w w0.heap.size 107 encG Ap p ∧ Rd w w0.heap.size 107 encG Aq q ∧ Below w0.heap.size w0 w) (fun (k : Nat) => p.length - k) 0 ?_ ?_
  · exact ⟨hf.sub ⟨rfl, rfl, rfl, trivial⟩, (Nat.zero_le _), (by simp), hr_p, hr_q, hW⟩
  rintro k a w1 ⟨hf, hk, hpre, hr_p, hr_q, hW⟩
  refine wp_seq_k ?_; intro K10 hK10
  refine wp_seq_k ?_; intro K11 hK11
  refine wp_region_lit ?_
  refine l_mv hf rfl rfl ?_; intro a hf
  refine l_mv hf rfl rfl ?_; intro a hf
  refine l_e hf rfl (ev_len hf rfl sl_28) ?_; intro a hf
  refine l_e hf rfl (ev_lss hf rfl rfl) ?_; intro a hf
  refine wpList_nil ?_
  refine hK11 _ _ ?_; try clear hK11 K11
  refine c_if hf rfl (fun hc12 => ?_) (fun hc12 => ?_)
  ·have hc12b := hc12
   have hc12 := of_decide_eq_true hc12
   obtain ⟨u13, hu13⟩ := getElem_ex (l := p) (k := k) (by omega)
   obtain ⟨v9, hv9⟩ := getElem_ex (l := q) (k := k) (by omega)
   refine wp_skip ?_
   refine hK10 _ _ ?_; try clear hK10 K10
   refine wp_seq_k ?_; intro K14 hK14
   refine wp_block ?_
   refine wp_seq_k ?_; intro K15 hK15
   refine wp_draw none (fun _ => false) mixed ?_
   intro w2 hE
   replace hr_p := hr_p.below hE
   replace hr_q := hr_q.below hE
   replace hW := btr hW hE
   clear hE
   refine s_e0 0 rfl (by kernel_rfl) hf rfl (fun _ => ev_move hf rfl) ?_; intro a hf
   refine s_e0 1 rfl (by kernel_rfl) hf rfl (fun _ => ev_move hf rfl) ?_; intro a hf
   refine s_index (k := k) (u := u13) (enc := encG) (l := p) 2 rfl (by kernel_rfl) (by kernel_rfl) hf trivial rfl rfl rfl sl_28 sz_107 encG_len hr_p hu13 rfl ?_; intro a p17 hat16 hf
   refine s_e 3 rfl (by kernel_rfl) (by kernel_rfl) hf rfl (ev_loadN (l := [.int .i64 u13.k, .int .i64 u13.a, .int .i64 u13.b]) hf rfl tN_107 hat16 rfl) ?_; intro a hf
   refine s_e0 4 rfl (by kernel_rfl) hf rfl (fun _ => ev_move hf rfl) ?_; intro a hf
   refine s_e0 5 rfl (by kernel_rfl) hf rfl (fun _ => ev_move hf rfl) ?_; intro a hf
   refine s_index (k := k) (u := v9) (enc := encG) (l := q) 6 rfl (by kernel_rfl) (by kernel_rfl) hf trivial rfl rfl rfl sl_28 sz_107 encG_len hr_q hv9 rfl ?_; intro a p19 hat18 hf
   refine s_e 7 rfl (by kernel_rfl) (by kernel_rfl) hf rfl (ev_loadN (l := [.int .i64 v9.k, .int .i64 v9.a, .int .i64 v9.b]) hf rfl tN_107 hat18 rfl) ?_; intro a hf
   refine s_one 8 (by kernel_rfl) ?_
   refine p_eff rfl hf trivial rfl rfl (Ef.mono (ef_call (vs := [.agg #[.int .i64 u13.k, .int .i64 u13.a, .int .i64 u13.b], .agg #[.int .i64 v9.k, .int .i64 v9.a, .int .i64 v9.b]]) hf rfl ff_100 (F100 _ u13 v9)) (fun _ _ h => ⟨fun _ => by obtain ⟨rfl, hE⟩ := h; exact hE, h⟩)) ?_; rintro a _ w3 ⟨rfl, hE⟩ hf
   replace hr_p := hr_p.below hE
   replace hr_q := hr_q.below hE
   replace hW := btr hW hE
   clear hE
   refine s_e0 9 rfl (by kernel_rfl) hf rfl (fun _ => ev_not hf rfl) ?_; intro a hf
   refine s_done (by kernel_rfl) ?_
   refine hK15 _ _ ?_; try clear hK15 K15
   refine c_if hf rfl (fun hc20 => ?_) (fun hc20 => ?_)
   ·have hc20b := hc20
    have hne : ¬ p = q := by rintro rfl; rw [hu13] at hv9; injection hv9 with e9; revert hc20; simp [e9]
    refine wp_seq_k ?_; intro K21 hK21
    refine wp_region_lit ?_
    refine l_as hf rfl rfl ?_; intro a hf
    refine wpList_nil ?_
    refine hK21 _ _ ?_; try clear hK21 K21
    refine wp_ret ?_
    refine x_retB ?_
    refine x_retS ?_
    refine x_retS ?_
    refine x_retB ?_
    refine x_retS ?_
    refine c_ret hf (res1 hf rfl rfl) ?_
    exact ⟨by simp [hne], hW⟩
   ·have hc20b := hc20
    have he9 : u13 = v9 := by revert hc20; simp
    refine wp_skip ?_
    refine x_norm ?_
    refine hK14 _ _ ?_; try clear hK14 K14
    refine wp_region_lit ?_
    refine l_mv hf rfl rfl ?_; intro a hf
    refine l_e hf rfl (ev_addx hf rfl rfl (by omega) (by omega)) ?_; intro a hf
    refine l_as hf rfl rfl ?_; intro a hf
    refine wpList_nil ?_
    refine x_thenN ?_
    exact ⟨k + 1, ⟨hf.sub ⟨rfl, rfl, rfl, trivial⟩, (by omega), (take_eq hpre hu13 hv9 he9), hr_p, hr_q, hW⟩, (by omega)⟩
  ·have hc12b := hc12
   have hc12 := of_decide_eq_false hc12
   refine wp_exit ?_
   refine x_exS ?_
   refine x_exS ?_
   refine x_exit ?_
   refine hK8 _ _ ?_; try clear hK8 K8
   refine wp_seq_k ?_; intro K22 hK22
   refine wp_region_lit ?_
   refine l_as hf rfl rfl ?_; intro a hf
   refine wpList_nil ?_
   refine hK22 _ _ ?_; try clear hK22 K22
   refine wp_ret ?_
   refine c_ret hf (res1 hf rfl rfl) ?_
   have he : p = q := by rw [List.take_of_length_le (by omega), List.take_of_length_le (by omega)] at hpre; exact hpre
   exact ⟨by simp [he], hW⟩
end Go.Proofs.YtfgnmflfiobkmaaGreat
set_option maxRecDepth 4000
namespace Go.Proofs.YtfgnmflfiobkmaaGreat
open Go.RowKit
theorem F218 (w0 : World) (n : Int) (g : Gt) (s0 : Int) (hg : gOk n g = true) (hk2 : 9 ≤ g.k ∧ g.k ≤ 11) : Ret Tryz.prog 218 [.int .i64 n, .agg #[.int .i64 g.k, .int .i64 g.a, .int .i64 g.b], .int .i64 s0] w0 (fun v w => v = .int .i64 (toS n g s0) ∧ Below w0.heap.size w0 w) := by
 have hg2 := gOk_spec hg
 have hg3 := hg2.2.2.1 (by omega)
 have hg4 := hg2.2.2.2 hk2
 refine enter Tryz.func218 rfl 51 rfl rfl ?_
 intro a hf
 have hW : Below w0.heap.size w0 w0 := Below.refl _ _
 refine wp_seq_k ?_; intro K1 hK1
 refine wp_region_lit ?_
 refine l_f hf rfl (ef_box (zs := [.int .i64 g.k, .int .i64 g.a, .int .i64 g.b]) hf rfl rfl) ?_; rintro a _ w1 ⟨b2, rfl, hl2, hE, hB2⟩ hf
 have hlo2 := Nat.le_trans hW.size hl2
 replace hW := btr hW hE
 clear hE
 refine l_as hf rfl rfl ?_; intro a hf
 refine wpList_nil ?_
 refine hK1 _ _ ?_; try clear hK1 K1
 refine wp_seq_k ?_; intro K3 hK3
 refine wp_draw none (fun _ => false) mixed ?_
 intro w2 hE
 replace hB2 := hB2.below hE
 replace hW := btr hW hE
 clear hE
 refine s_e0 0 rfl (by kernel_rfl) hf rfl (fun _ => ev_move hf rfl) ?_; intro a hf
 refine s_e0 1 rfl (by kernel_rfl) hf rfl (fun _ => ev_move hf rfl) ?_; intro a hf
 refine s_e0 2 rfl (by kernel_rfl) hf rfl (fun _ => ev_fieldB hf rfl fd_107_1 (m := 1) rfl) ?_; intro a hf
 refine s_e 3 rfl (by kernel_rfl) (by kernel_rfl) hf rfl (ev_load1 hf rfl t1_3 (hB2.at 1)) ?_; intro a hf
 refine s_e0 5 rfl (by kernel_rfl) hf rfl (fun _ => ev_move hf rfl) ?_; intro a hf
 refine s_e0 6 rfl (by kernel_rfl) hf rfl (fun _ => ev_move hf rfl) ?_; intro a hf
 refine s_e0 7 rfl (by kernel_rfl) hf rfl (fun _ => ev_fieldB hf rfl fd_107_2 (m := 2) rfl) ?_; intro a hf
 refine s_e 8 rfl (by kernel_rfl) (by kernel_rfl) hf rfl (ev_load1 hf rfl t1_3 (hB2.at 2)) ?_; intro a hf
 refine s_one 4 (by kernel_rfl) ?_
 refine p_eff rfl hf trivial rfl rfl (Ef.mono (ef_call (vs := [.int .i64 n, .int .i64 s0, .int .i64 g.a]) hf rfl ff_219 (F219 _ n s0 g.a (by omega) (by omega) (by omega))) (fun _ _ h => ⟨fun _ => by rw [← h.2]; exact Below.refl _ _, h⟩)) ?_; rintro a _ _ ⟨rfl, rfl⟩ hf
 refine s_one 9 (by kernel_rfl) ?_
 refine p_eff rfl hf trivial rfl rfl (Ef.mono (ef_call (vs := [.int .i64 n, .int .i64 s0, .int .i64 g.b]) hf rfl ff_219 (F219 _ n s0 g.b (by omega) (by omega) (by omega))) (fun _ _ h => ⟨fun _ => by rw [← h.2]; exact Below.refl _ _, h⟩)) ?_; rintro a _ _ ⟨rfl, rfl⟩ hf
 refine s_e0 10 rfl (by kernel_rfl) hf rfl (fun _ => ev_assign hf rfl) ?_; intro a hf
 refine s_e0 11 rfl (by kernel_rfl) hf rfl (fun _ => ev_assign hf rfl) ?_; intro a hf
 refine s_done (by kernel_rfl) ?_
 refine hK3 _ _ ?_; try clear hK3 K3
 refine wp_seq_k ?_; intro K4 hK4
 refine wp_block ?_
 refine wp_seq_k ?_; intro K5 hK5
 refine c_cut (fun a w => Fr a 51 [(0, .int .i64 n), (2, .int .i64 s0), (4, .pointer (some ⟨b2, 0, none⟩)), (7, .int .i64 (bitF n s0 g.a)), (8, .int .i64 (bitF n s0 g.b)), (19, .bool ((g.k == 9) && ((bitF n s0 g.a) == 1)))] ∧ w2 = w) ?_ ?_
 ·refine wp_region_lit ?_
  refine l_e hf rfl (ev_fieldB hf rfl fd_107_0 (m := 0) rfl) ?_; intro a hf
  refine l_e hf rfl (ev_load1 hf rfl t1_3 (hB2.at 0)) ?_; intro a hf
  refine l_e hf rfl (ev_eql hf rfl rfl) ?_; intro a hf
  refine l_mv hf rfl rfl ?_; intro a hf
  refine g_split hf (t := 23) rfl (fun hg6 => ?_) (fun hg6 => ?_)
  ·refine l_ev hf ⟨_, _, rfl, rfl, hg6⟩ rfl rfl (ev_move hf rfl) ?_; intro a hf
   refine l_ev hf ⟨_, _, rfl, rfl, hg6⟩ rfl rfl (ev_eql hf rfl rfl) ?_; intro a hf
   refine l_e hf rfl (ev_pickT hf rfl hg6 rfl) ?_; intro a hf
   refine l_as hf rfl rfl ?_; intro a hf
   refine wpList_nil ?_
   exact ⟨hf.sub ⟨rfl, rfl, rfl, rfl, rfl, look_bool rfl (by first | rfl | (simp only [hg6, Bool.true_and, Bool.false_and, Bool.true_or, Bool.false_or]; done) | simp [hg6]), trivial⟩, rfl⟩
  ·refine l_pass hf ⟨_, _, rfl, rfl, hg6⟩ rfl rfl ?_; intro a hf
   refine l_pass hf ⟨_, _, rfl, rfl, hg6⟩ rfl rfl ?_; intro a hf
   refine l_e hf rfl (ev_pickF hf rfl hg6 rfl) ?_; intro a hf
   refine l_as hf rfl rfl ?_; intro a hf
   refine wpList_nil ?_
   exact ⟨hf.sub ⟨rfl, rfl, rfl, rfl, rfl, look_bool rfl (by first | rfl | (simp only [hg6, Bool.true_and, Bool.false_and, Bool.true_or, Bool.false_or]; done) | simp [hg6]), trivial⟩, rfl⟩
 rintro a _ ⟨hf, rfl⟩
 refine hK5 _ _ ?_; try clear hK5 K5
 refine c_if hf rfl (fun hc7 => ?_) (fun hc7 => ?_)
 ·have hc7b := hc7
  have h9 : g.k = 9 ∧ bitF n s0 g.a = 1 := by simpa using hc7
  refine wp_seq_k ?_; intro K8 hK8
  refine wp_region_lit ?_
  refine l_mv hf rfl rfl ?_; intro a hf
  refine l_mv hf rfl rfl ?_; intro a hf
  refine l_e hf rfl (ev_fieldB hf rfl fd_107_2 (m := 2) rfl) ?_; intro a hf
  refine l_e hf rfl (ev_load1 hf rfl t1_3 (hB2.at 2)) ?_; intro a hf
  refine l_f hf rfl (ef_call (vs := [.int .i64 n, .int .i64 s0, .int .i64 g.b]) hf rfl ff_220 (F220 _ n s0 g.b (by omega) (by omega) (by omega))) ?_; rintro a _ _ ⟨rfl, rfl⟩ hf
  refine l_as hf rfl rfl ?_; intro a hf
  refine wpList_nil ?_
  refine hK8 _ _ ?_; try clear hK8 K8
  refine wp_ret ?_
  refine x_retB ?_
  refine x_retS ?_
  refine c_ret hf (res1 hf rfl rfl) ?_
  exact ⟨by rw [toS, if_pos h9.1, if_pos h9.2], hW⟩
 ·have hc7b := hc7
  have h9 : g.k = 9 → ¬ bitF n s0 g.a = 1 := by simpa using hc7
  refine wp_seq_k ?_; intro K9 hK9
  refine c_cut (fun a w => Fr a 51 [(0, .int .i64 n), (2, .int .i64 s0), (4, .pointer (some ⟨b2, 0, none⟩)), (32, .bool ((g.k == 11) && ((bitF n s0 g.a) != (bitF n s0 g.b))))] ∧ w2 = w) ?_ ?_
  ·refine wp_region_lit ?_
   refine l_e hf rfl (ev_fieldB hf rfl fd_107_0 (m := 0) rfl) ?_; intro a hf
   refine l_e hf rfl (ev_load1 hf rfl t1_3 (hB2.at 0)) ?_; intro a hf
   refine l_e hf rfl (ev_eql hf rfl rfl) ?_; intro a hf
   refine l_mv hf rfl rfl ?_; intro a hf
   refine g_split hf (t := 36) rfl (fun hg10 => ?_) (fun hg10 => ?_)
   ·refine l_ev hf ⟨_, _, rfl, rfl, hg10⟩ rfl rfl (ev_move hf rfl) ?_; intro a hf
    refine l_ev hf ⟨_, _, rfl, rfl, hg10⟩ rfl rfl (ev_move hf rfl) ?_; intro a hf
    refine l_ev hf ⟨_, _, rfl, rfl, hg10⟩ rfl rfl (ev_neq hf rfl rfl) ?_; intro a hf
    refine l_e hf rfl (ev_pickT hf rfl hg10 rfl) ?_; intro a hf
    refine l_as hf rfl rfl ?_; intro a hf
    refine wpList_nil ?_
    exact ⟨hf.sub ⟨rfl, rfl, rfl, look_bool rfl (by first | rfl | (simp only [hc7b, hg10, Bool.true_and, Bool.false_and, Bool.true_or, Bool.false_or]; done) | simp [hc7b, hg10]), trivial⟩, rfl⟩
   ·refine l_pass hf ⟨_, _, rfl, rfl, hg10⟩ rfl rfl ?_; intro a hf
    refine l_pass hf ⟨_, _, rfl, rfl, hg10⟩ rfl rfl ?_; intro a hf
    refine l_pass hf ⟨_, _, rfl, rfl, hg10⟩ rfl rfl ?_; intro a hf
    refine l_e hf rfl (ev_pickF hf rfl hg10 rfl) ?_; intro a hf
    refine l_as hf rfl rfl ?_; intro a hf
    refine wpList_nil ?_
    exact ⟨hf.sub ⟨rfl, rfl, rfl, look_bool rfl (by first | rfl | (simp only [hc7b, hg10, Bool.true_and, Bool.false_and, Bool.true_or, Bool.false_or]; done) | simp [hc7b, hg10]), trivial⟩, rfl⟩
  rintro a _ ⟨hf, rfl⟩
  refine hK9 _ _ ?_; try clear hK9 K9
  refine c_if hf rfl (fun hc11 => ?_) (fun hc11 => ?_)
  ·have hc11b := hc11
   have h11 : g.k = 11 ∧ ¬ bitF n s0 g.a = bitF n s0 g.b := by simpa using hc11
   refine wp_seq_k ?_; intro K12 hK12
   refine wp_draw none (fun _ => false) mixed ?_
   intro w3 hE
   replace hB2 := hB2.below hE
   replace hW := btr hW hE
   clear hE
   refine s_e0 0 rfl (by kernel_rfl) hf rfl (fun _ => ev_move hf rfl) ?_; intro a hf
   refine s_e0 1 rfl (by kernel_rfl) hf rfl (fun _ => ev_move hf rfl) ?_; intro a hf
   refine s_e0 2 rfl (by kernel_rfl) hf rfl (fun _ => ev_move hf rfl) ?_; intro a hf
   refine s_e0 3 rfl (by kernel_rfl) hf rfl (fun _ => ev_fieldB hf rfl fd_107_1 (m := 1) rfl) ?_; intro a hf
   refine s_e 4 rfl (by kernel_rfl) (by kernel_rfl) hf rfl (ev_load1 hf rfl t1_3 (hB2.at 1)) ?_; intro a hf
   refine s_e0 6 rfl (by kernel_rfl) hf rfl (fun _ => ev_fieldB hf rfl fd_107_2 (m := 2) rfl) ?_; intro a hf
   refine s_e 7 rfl (by kernel_rfl) (by kernel_rfl) hf rfl (ev_load1 hf rfl t1_3 (hB2.at 2)) ?_; intro a hf
   refine s_one 5 (by kernel_rfl) ?_
   refine p_eff rfl hf trivial rfl rfl (Ef.mono (ef_call (vs := [.int .i64 n, .int .i64 s0, .int .i64 g.a]) hf rfl ff_220 (F220 _ n s0 g.a (by omega) (by omega) (by omega))) (fun _ _ h => ⟨fun _ => by rw [← h.2]; exact Below.refl _ _, h⟩)) ?_; rintro a _ _ ⟨rfl, rfl⟩ hf
   refine s_one 8 (by kernel_rfl) ?_
   refine p_eff rfl hf trivial rfl rfl (Ef.mono (ef_call (vs := [.int .i64 n, .int .i64 (flipF n s0 g.a), .int .i64 g.b]) hf rfl ff_220 (F220 _ n (flipF n s0 g.a) g.b (by omega) (by omega) (by omega))) (fun _ _ h => ⟨fun _ => by rw [← h.2]; exact Below.refl _ _, h⟩)) ?_; rintro a _ _ ⟨rfl, rfl⟩ hf
   refine s_e0 9 rfl (by kernel_rfl) hf rfl (fun _ => ev_assign hf rfl) ?_; intro a hf
   refine s_done (by kernel_rfl) ?_
   refine hK12 _ _ ?_; try clear hK12 K12
   refine wp_ret ?_
   refine x_retB ?_
   refine x_retS ?_
   refine c_ret hf (res1 hf rfl rfl) ?_
   exact ⟨by rw [toS, if_neg (by omega), if_pos h11.1, if_pos h11.2], hW⟩
  ·have hc11b := hc11
   have h11 : g.k = 11 → bitF n s0 g.a = bitF n s0 g.b := by simpa using hc11
   refine wp_skip ?_
   refine x_norm ?_
   refine hK4 _ _ ?_; try clear hK4 K4
   refine wp_seq_k ?_; intro K13 hK13
   refine wp_region_lit ?_
   refine l_mv hf rfl rfl ?_; intro a hf
   refine l_as hf rfl rfl ?_; intro a hf
   refine wpList_nil ?_
   refine hK13 _ _ ?_; try clear hK13 K13
   refine wp_ret ?_
   refine c_ret hf (res1 hf rfl rfl) ?_
   have hfin : toS n g s0 = s0 := by unfold toS; split; rw [if_neg (h9 (by assumption))]; split; rw [if_neg (by simpa using h11 (by assumption))]; rfl
   exact ⟨by rw [hfin], hW⟩
end Go.Proofs.YtfgnmflfiobkmaaGreat
namespace Go.Proofs.YtfgnmflfiobkmaaGreat
open Go.RowKit
def entI (p : Int × Int × Nat) : MapEntry := { key := .int .i64 p.1, val := .int .i64 p.2.1, born := p.2.2 }
def MapI (w : World) (b : Nat) (l : List (Int × Int × Nat)) (clock : Nat) : Prop := w.heap[b]? = some (.map (l.map entI).toArray clock)
theorem findNow_none {k : IntKind} {x : Int} : ∀ (l : List (Int × Int × Nat)) (i : Nat), (l.all fun p => p.1 != x) = true → Instr.findNow (.int k) (.int .i64 x) (l.map entI) i = some none
  | [], _, _ => rfl
  | p :: l, i, h => by
    simp only [List.all_cons, Bool.and_eq_true, bne_iff_ne] at h
    have h1 : (x == p.1) = false := by simpa using Ne.symm h.1
    simp only [List.map_cons, Instr.findNow, entI, Instr.sameNow, if_true, h1]
    exact findNow_none l (i + 1) h.2
theorem findNow_some {k : IntKind} {x v : Int} : ∀ (l : List (Int × Int × Nat)) (i : Nat), (l.find? fun p => p.1 == x).map (fun p => p.2.1) = some v → ∃ j, Instr.findNow (.int k) (.int .i64 x) (l.map entI) i = some (some (j, .int .i64 v))
  | [], _, h => by cases h
  | p :: l, i, h => by
    by_cases hx : p.1 = x
    · refine ⟨i, ?_⟩
      have h1 : (p.1 == x) = true := by simpa using hx
      simp only [List.find?_cons, h1, Option.map_some, Option.some.injEq] at h
      have h2 : (x == p.1) = true := by simpa using hx.symm
      simp only [List.map_cons, Instr.findNow, entI, Instr.sameNow, if_true, h2, h]
    · have h1 : (p.1 == x) = false := by simpa using hx
      simp only [List.find?_cons, h1] at h
      obtain ⟨j, hj⟩ := findNow_some (k := k) l (i + 1) h
      refine ⟨j, ?_⟩
      have h2 : (x == p.1) = false := by simpa using fun e => hx e.symm
      simp only [List.map_cons, Instr.findNow, entI, Instr.sameNow, if_true, h2]
      exact hj
theorem MapI.below {w w' : World} {b clock : Nat} {l : List (Int × Int × Nat)} (h : MapI w b l clock) (hb : Below w.heap.size w w') : MapI w' b l clock := by
  have hlt : b < w.heap.size := by
    rcases Nat.lt_or_ge b w.heap.size with h' | h'
    · exact h'
    · simp [MapI, Array.getElem?_eq_none h'] at h
  exact (hb.block b hlt).trans h
theorem MapI.only {w w' : World} {b b' clock : Nat} {l : List (Int × Int × Nat)} (h : MapI w b l clock) (ho : Only b' w w') (hne : b ≠ b') : MapI w' b l clock := (ho.block b hne).trans h
theorem MapI.ne {w : World} {b b' clock : Nat} {l : List (Int × Int × Nat)} {T : TypeId} {cs : List Value} (h : MapI w b l clock) (hb : Blk w b' T cs) : b ≠ b' := by
  rintro rfl
  unfold MapI at h
  unfold Blk at hb
  rw [h] at hb
  cases hb
section
variable {P : Program} {a : Act} {w : World} {n : Nat} {e : Env} {ty : TypeId} {pos : String} {af : Array Edge} {g : Option (Nat × Bool)} {d : Option Tmp}
theorem ef_makeMap {T : TypeId} : Ef P ⟨d, .makeMap T none, ty, pos, af, g⟩ a w (fun v w' => ∃ b, v = .map (some b) ∧ w.heap.size ≤ b ∧ Below w.heap.size w w' ∧ MapI w' b [] 0) := by
  refine (Ef.of_run (v := .map (some w.heap.size)) (w' := w.alloc (.map #[] 0)) ?_).mono fun v w' ⟨e1, e2⟩ => ?_
  · rfl
  · subst e1; subst e2
    exact ⟨_, rfl, Nat.le_refl _, (Below.refl _ _).alloc (Nat.le_refl _) _, heap_alloc_new w _⟩
theorem ef_insert {T K E : TypeId} {m x y : Operand} {b clock : Nat} {l : List (Int × Int × Nat)} {i j : Int} (hf : Fr a n e) (hm : ev e m = some (.map (some b))) (hx : ev e x = some (.int .i64 i)) (hy : ev e y = some (.int .i64 j)) (hT : P.underlying T = some (.map K E)) (hK : P.underlying K = some (.int .i64)) (hM : MapI w b l clock) (hnew : (l.all fun p => p.1 != i) = true) :
    Ef P ⟨d, .insert T m x y, ty, pos, af, g⟩ a w (fun _ w' => Only b w w' ∧ MapI w' b (l ++ [(i, j, clock)]) (clock + 1)) := by
  have hfind := findNow_none (k := .i64) l 0 hnew
  have hck : (Instr.checkKey false 10000 K (.int .i64 i)).run P w = .ok () w := MapKept.run_checkKey hK (show MapKept.IsKey (.int .i64) (.int .i64 i) from rfl) false 9999
  have hlt : b < w.heap.size := by
    rcases Nat.lt_or_ge b w.heap.size with h' | h'
    · exact h'
    · simp [MapI, Array.getElem?_eq_none h'] at hM
  unfold MapI at hM
  refine (Ef.of_skip (w' := { w with heap := w.heap.setIfInBounds b (.map ((l ++ [(i, j, clock)]).map entI).toArray (clock + 1)) }) ?_).mono fun v w' ⟨_, e2⟩ => ?_
  · simp [execOp, Instr.mapUpdate, hf.ev hm, hf.ev hx, hf.ev hy, run_under hT, getObj, hM, hck, Instr.findKey, run_under hK, hfind, setObj, Sem.run, entI]
  · subst e2
    refine ⟨⟨rfl, rfl, rfl, by simp, fun k hk => ?_⟩, ?_⟩
    · show (w.heap.setIfInBounds b _)[k]? = _
      rw [Array.getElem?_setIfInBounds_ne (Ne.symm hk)]
    · show (w.heap.setIfInBounds b _)[b]? = _
      simp [hlt]
theorem ev_lookup {T K E : TypeId} {m x : Operand} {b clock : Nat} {l : List (Int × Int × Nat)} {i v : Int} (hf : Fr a n e) (hm : ev e m = some (.map (some b))) (hx : ev e x = some (.int .i64 i)) (hT : P.underlying T = some (.map K E)) (hK : P.underlying K = some (.int .i64)) (hM : MapI w b l clock) (hv : (l.find? fun p => p.1 == i).map (fun p => p.2.1) = some v) :
    Ev P ⟨d, .lookup T m x false, ty, pos, af, g⟩ a w (.int .i64 v) := fun w' hw => by
  obtain ⟨j, hj⟩ := findNow_some (k := .i64) l 0 hv
  have hM' := hM.below hw
  have hck : ∀ em, (Instr.checkKey em 10000 K (.int .i64 i)).run P w' = .ok () w' := fun em => MapKept.run_checkKey hK (show MapKept.IsKey (.int .i64) (.int .i64 i) from rfl) em 9999
  unfold MapI at hM'
  simp [execOp, Instr.lookup, hf.ev hm, hf.ev hx, run_under hT, getObj, Sem.run, hM', hck, Instr.findKey, run_under hK, hj]
end
end Go.Proofs.YtfgnmflfiobkmaaGreat
set_option maxRecDepth 4000
namespace Go.Proofs.YtfgnmflfiobkmaaGreat
open Go.RowKit
theorem F221 (w0 : World) (k : Int) (i : Int) (j : Int) (hk : 1 ≤ k ∧ k ≤ 8) (hj : j = 0 ∨ j = 1) : Ret Tryz.prog 221 [.int .i64 k, .int .i64 i, .int .i64 j] w0 (fun v w => v = dV (entryI k i j) ∧ Below w0.heap.size w0 w) := by
 refine enter Tryz.func221 rfl 67 rfl rfl ?_
 intro a hf
 have hW : Below w0.heap.size w0 w0 := Below.refl _ _
 refine wp_seq_k ?_; intro K1 hK1
 refine wp_region_lit ?_
 refine l_f hf rfl (ef_alloc (zs := [.int .i64 0, .int .i64 0, .int .i64 0, .int .i64 0, .int .i64 0]) z_189 rfl) ?_; rintro a _ w1 ⟨b2, rfl, hl2, hE, hB2⟩ hf
 have hlo2 := Nat.le_trans hW.size hl2
 replace hW := btr hW hE
 clear hE
 refine wpList_nil ?_
 refine hK1 _ _ ?_; try clear hK1 K1
 refine wp_seq_k ?_; intro K3 hK3
 refine wp_region_lit ?_
 refine l_e hf rfl (ev_build (ps := [(0, .int .i64 1)]) (cs := [.int .i64 1, .int .i64 0, .int .i64 0, .int .i64 0]) hf rfl (fun _ => by first | rfl | kernel_rfl)) ?_; intro a hf
 refine l_e hf rfl (ev_build (ps := [(0, .agg #[.int .i64 1, .int .i64 0, .int .i64 0, .int .i64 0]), (1, .int .i64 1)]) (cs := [.int .i64 1, .int .i64 0, .int .i64 0, .int .i64 0, .int .i64 1]) hf rfl (fun _ => by first | rfl | kernel_rfl)) ?_; intro a hf
 refine l_f hf rfl (ef_alloc (zs := [.int .i64 0, .int .i64 0, .int .i64 0, .int .i64 0, .int .i64 0]) z_189 rfl) ?_; rintro a _ w2 ⟨b4, rfl, hl4, hE, hB4⟩ hf
 have hne2_4 : b2 ≠ b4 := by have := hB2.lt; omega
 have hlo4 := Nat.le_trans hW.size hl4
 replace hB2 := hB2.below hE
 replace hW := btr hW hE
 clear hE
 refine l_f0 hf (ef_store (vs := [.int .i64 1, .int .i64 0, .int .i64 0, .int .i64 0, .int .i64 1]) (l' := [.int .i64 1, .int .i64 0, .int .i64 0, .int .i64 0, .int .i64 1]) hf rfl rfl sz_189 hB4 rfl rfl rfl rfl rfl) ?_; rintro a _ w3 ⟨ho, hb⟩ hf
 have hold := hB4
 replace hB2 := hB2.only ho (by omega)
 replace hW := Below.only hW ho hlo4
 clear hold
 have hB4 := hb
 clear hb ho
 refine wpList_nil ?_
 refine hK3 _ _ ?_; try clear hK3 K3
 refine wp_seq_k ?_; intro K5 hK5
 refine wp_region_lit ?_
 refine l_f hf rfl (ef_makeMap) ?_; rintro a _ w4 ⟨b6, rfl, hl6, hE, hM6⟩ hf
 have hlo6 := Nat.le_trans hW.size hl6
 replace hB2 := hB2.below hE
 replace hB4 := hB4.below hE
 replace hW := btr hW hE
 clear hE
 refine l_f0 hf (ef_insert (l := []) (clock := 0) hf rfl rfl rfl Tryz.underlying272 Tryz.underlying3 hM6 rfl) ?_; rintro a _ w5 ⟨ho, hmap⟩ hf
 replace hB2 := hB2.only ho (Ne.symm (hM6.ne hB2))
 replace hB4 := hB4.only ho (Ne.symm (hM6.ne hB4))
 replace hW := Below.only hW ho hlo6
 replace hM6 := hmap; clear hmap ho
 refine l_f0 hf (ef_insert (l := [(4, 4, 0)]) (clock := 1) hf rfl rfl rfl Tryz.underlying272 Tryz.underlying3 hM6 rfl) ?_; rintro a _ w6 ⟨ho, hmap⟩ hf
 replace hB2 := hB2.only ho (Ne.symm (hM6.ne hB2))
 replace hB4 := hB4.only ho (Ne.symm (hM6.ne hB4))
 replace hW := Below.only hW ho hlo6
 replace hM6 := hmap; clear hmap ho
 refine l_f0 hf (ef_insert (l := [(4, 4, 0), (5, 2, 1)]) (clock := 2) hf rfl rfl rfl Tryz.underlying272 Tryz.underlying3 hM6 rfl) ?_; rintro a _ w7 ⟨ho, hmap⟩ hf
 replace hB2 := hB2.only ho (Ne.symm (hM6.ne hB2))
 replace hB4 := hB4.only ho (Ne.symm (hM6.ne hB4))
 replace hW := Below.only hW ho hlo6
 replace hM6 := hmap; clear hmap ho
 refine l_f0 hf (ef_insert (l := [(4, 4, 0), (5, 2, 1), (6, 6, 2)]) (clock := 3) hf rfl rfl rfl Tryz.underlying272 Tryz.underlying3 hM6 rfl) ?_; rintro a _ w8 ⟨ho, hmap⟩ hf
 replace hB2 := hB2.only ho (Ne.symm (hM6.ne hB2))
 replace hB4 := hB4.only ho (Ne.symm (hM6.ne hB4))
 replace hW := Below.only hW ho hlo6
 replace hM6 := hmap; clear hmap ho
 refine l_f0 hf (ef_insert (l := [(4, 4, 0), (5, 2, 1), (6, 6, 2), (7, 1, 3)]) (clock := 4) hf rfl rfl rfl Tryz.underlying272 Tryz.underlying3 hM6 rfl) ?_; rintro a _ w9 ⟨ho, hmap⟩ hf
 replace hB2 := hB2.only ho (Ne.symm (hM6.ne hB2))
 replace hB4 := hB4.only ho (Ne.symm (hM6.ne hB4))
 replace hW := Below.only hW ho hlo6
 replace hM6 := hmap; clear hmap ho
 refine l_mv hf rfl rfl ?_; intro a hf
 refine l_as hf rfl rfl ?_; intro a hf
 refine wpList_nil ?_
 refine hK5 _ _ ?_; try clear hK5 K5
 refine wp_seq_k ?_; intro K7 hK7
 refine wp_block ?_
 refine wp_seq_k ?_; intro K8 hK8
 refine wp_region_lit ?_
 refine l_mv hf rfl rfl ?_; intro a hf
 refine l_e hf rfl (ev_eql hf rfl rfl) ?_; intro a hf
 refine l_as hf rfl rfl ?_; intro a hf
 refine wpList_nil ?_
 refine hK8 _ _ ?_; try clear hK8 K8
 refine c_if hf rfl (fun hc9 => ?_) (fun hc9 => ?_)
 ·have hc9b := hc9
  have e1 : k = 1 := by simpa using hc9
  refine wp_seq_k ?_; intro K10 hK10
  refine wp_seq_k ?_; intro K11 hK11
  refine c_cut (fun a w => Fr a 67 [(6, .pointer (some ⟨b2, 0, none⟩)), (7, .pointer (some ⟨b4, 0, none⟩)), (21, .bool ((i == 1) && (j == 1)))] ∧ w9 = w) ?_ ?_
  ·refine wp_region_lit ?_
   refine l_mv hf rfl rfl ?_; intro a hf
   refine l_e hf rfl (ev_eql hf rfl rfl) ?_; intro a hf
   refine l_mv hf rfl rfl ?_; intro a hf
   refine g_split hf (t := 18) rfl (fun hg12 => ?_) (fun hg12 => ?_)
   ·refine l_ev hf ⟨_, _, rfl, rfl, hg12⟩ rfl rfl (ev_move hf rfl) ?_; intro a hf
    refine l_ev hf ⟨_, _, rfl, rfl, hg12⟩ rfl rfl (ev_eql hf rfl rfl) ?_; intro a hf
    refine l_e hf rfl (ev_pickT hf rfl hg12 rfl) ?_; intro a hf
    refine wpList_nil ?_
    exact ⟨hf.sub ⟨rfl, rfl, look_bool rfl (by first | rfl | (simp only [hc9b, hg12, Bool.true_and, Bool.false_and, Bool.true_or, Bool.false_or]; done) | simp [hc9b, hg12]), trivial⟩, rfl⟩
   ·refine l_pass hf ⟨_, _, rfl, rfl, hg12⟩ rfl rfl ?_; intro a hf
    refine l_pass hf ⟨_, _, rfl, rfl, hg12⟩ rfl rfl ?_; intro a hf
    refine l_e hf rfl (ev_pickF hf rfl hg12 rfl) ?_; intro a hf
    refine wpList_nil ?_
    exact ⟨hf.sub ⟨rfl, rfl, look_bool rfl (by first | rfl | (simp only [hc9b, hg12, Bool.true_and, Bool.false_and, Bool.true_or, Bool.false_or]; done) | simp [hc9b, hg12]), trivial⟩, rfl⟩
  rintro a _ ⟨hf, rfl⟩
  refine hK11 _ _ ?_; try clear hK11 K11
  refine c_if hf rfl (fun hc13 => ?_) (fun hc13 => ?_)
  ·have hc13b := hc13
   have hfin : entryI k i j = ⟨⟨-1, 0, 0, 0⟩, 1⟩ := by rw [entryI, if_pos e1, if_pos (by simpa using hc13)]
   refine wp_region_lit ?_
   refine l_e hf rfl (ev_fieldB hf rfl fd_189_0 (m := 0) rfl) ?_; intro a hf
   refine l_e hf rfl (ev_fieldB hf rfl fd_187_0 (m := 0) rfl) ?_; intro a hf
   refine l_f0 hf (ef_store (vs := [.int .i64 (-1)]) (l' := [.int .i64 (-1), .int .i64 0, .int .i64 0, .int .i64 0, .int .i64 1]) hf rfl rfl sz_3 hB4 rfl rfl rfl rfl rfl) ?_; rintro a _ w10 ⟨ho, hb⟩ hf
   have hold := hB4
   replace hB2 := hB2.only ho (by omega)
   replace hM6 := hM6.only ho (hM6.ne hold)
   replace hW := Below.only hW ho hlo4
   clear hold
   have hB4 := hb
   clear hb ho
   refine wpList_nil ?_
   refine hK10 _ _ ?_; try clear hK10 K10
   refine wp_seq_k ?_; intro K14 hK14
   refine wp_region_lit ?_
   refine l_e hf rfl (ev_loadN (l := [.int .i64 (-1), .int .i64 0, .int .i64 0, .int .i64 0, .int .i64 1]) hf rfl tN_189 (hB4.at 0) rfl) ?_; intro a hf
   refine l_f0 hf (ef_store (vs := [.int .i64 (-1), .int .i64 0, .int .i64 0, .int .i64 0, .int .i64 1]) (l' := [.int .i64 (-1), .int .i64 0, .int .i64 0, .int .i64 0, .int .i64 1]) hf rfl rfl sz_189 hB2 rfl rfl rfl rfl rfl) ?_; rintro a _ w11 ⟨ho, hb⟩ hf
   have hold := hB2
   replace hB4 := hB4.only ho (by omega)
   replace hM6 := hM6.only ho (hM6.ne hold)
   replace hW := Below.only hW ho hlo2
   clear hold
   have hB2 := hb
   clear hb ho
   refine wpList_nil ?_
   refine hK14 _ _ ?_; try clear hK14 K14
   refine wp_ret ?_
   refine x_retB ?_
   refine x_retS ?_
   refine c_ret hf (res1 hf rfl (ResV.cellN (l := [.int .i64 (-1), .int .i64 0, .int .i64 0, .int .i64 0, .int .i64 1]) rfl tN_189 (hB2.at 0) rfl)) ?_
   exact ⟨(by rw [hfin]; try rfl), hW⟩
  ·have hc13b := hc13
   have hfin : entryI k i j = dHalf := by rw [entryI, if_pos e1, if_neg (by simpa using hc13)]
   refine wp_skip ?_
   refine hK10 _ _ ?_; try clear hK10 K10
   refine wp_seq_k ?_; intro K15 hK15
   refine wp_region_lit ?_
   refine l_e hf rfl (ev_loadN (l := [.int .i64 1, .int .i64 0, .int .i64 0, .int .i64 0, .int .i64 1]) hf rfl tN_189 (hB4.at 0) rfl) ?_; intro a hf
   refine l_f0 hf (ef_store (vs := [.int .i64 1, .int .i64 0, .int .i64 0, .int .i64 0, .int .i64 1]) (l' := [.int .i64 1, .int .i64 0, .int .i64 0, .int .i64 0, .int .i64 1]) hf rfl rfl sz_189 hB2 rfl rfl rfl rfl rfl) ?_; rintro a _ w12 ⟨ho, hb⟩ hf
   have hold := hB2
   replace hB4 := hB4.only ho (by omega)
   replace hM6 := hM6.only ho (hM6.ne hold)
   replace hW := Below.only hW ho hlo2
   clear hold
   have hB2 := hb
   clear hb ho
   refine wpList_nil ?_
   refine hK15 _ _ ?_; try clear hK15 K15
   refine wp_ret ?_
   refine x_retB ?_
   refine x_retS ?_
   refine c_ret hf (res1 hf rfl (ResV.cellN (l := [.int .i64 1, .int .i64 0, .int .i64 0, .int .i64 0, .int .i64 1]) rfl tN_189 (hB2.at 0) rfl)) ?_
   exact ⟨(by rw [hfin]; try rfl), hW⟩
 ·have hc9b := hc9
  have e1 : ¬ k = 1 := by simpa using hc9
  refine wp_seq_k ?_; intro K16 hK16
  refine c_cut (fun a w => Fr a 67 [(0, .int .i64 k), (1, .int .i64 i), (2, .int .i64 j), (6, .pointer (some ⟨b2, 0, none⟩)), (8, .map (some b6)), (25, .bool ((k == 2) && (i != j)))] ∧ w9 = w) ?_ ?_
  ·refine wp_region_lit ?_
   refine l_mv hf rfl rfl ?_; intro a hf
   refine l_e hf rfl (ev_eql hf rfl rfl) ?_; intro a hf
   refine l_mv hf rfl rfl ?_; intro a hf
   refine g_split hf (t := 28) rfl (fun hg17 => ?_) (fun hg17 => ?_)
   ·refine l_ev hf ⟨_, _, rfl, rfl, hg17⟩ rfl rfl (ev_move hf rfl) ?_; intro a hf
    refine l_ev hf ⟨_, _, rfl, rfl, hg17⟩ rfl rfl (ev_move hf rfl) ?_; intro a hf
    refine l_ev hf ⟨_, _, rfl, rfl, hg17⟩ rfl rfl (ev_neq hf rfl rfl) ?_; intro a hf
    refine l_e hf rfl (ev_pickT hf rfl hg17 rfl) ?_; intro a hf
    refine l_as hf rfl rfl ?_; intro a hf
    refine wpList_nil ?_
    exact ⟨hf.sub ⟨rfl, rfl, rfl, rfl, rfl, look_bool rfl (by first | rfl | (simp only [hc9b, hg17, Bool.true_and, Bool.false_and, Bool.true_or, Bool.false_or]; done) | simp [hc9b, hg17]), trivial⟩, rfl⟩
   ·refine l_pass hf ⟨_, _, rfl, rfl, hg17⟩ rfl rfl ?_; intro a hf
    refine l_pass hf ⟨_, _, rfl, rfl, hg17⟩ rfl rfl ?_; intro a hf
    refine l_pass hf ⟨_, _, rfl, rfl, hg17⟩ rfl rfl ?_; intro a hf
    refine l_e hf rfl (ev_pickF hf rfl hg17 rfl) ?_; intro a hf
    refine l_as hf rfl rfl ?_; intro a hf
    refine wpList_nil ?_
    exact ⟨hf.sub ⟨rfl, rfl, rfl, rfl, rfl, look_bool rfl (by first | rfl | (simp only [hc9b, hg17, Bool.true_and, Bool.false_and, Bool.true_or, Bool.false_or]; done) | simp [hc9b, hg17]), trivial⟩, rfl⟩
  rintro a _ ⟨hf, rfl⟩
  refine hK16 _ _ ?_; try clear hK16 K16
  refine c_if hf rfl (fun hc18 => ?_) (fun hc18 => ?_)
  ·have hc18b := hc18
   have hfin : entryI k i j = ⟨⟨1, 0, 0, 0⟩, 0⟩ := by rw [entryI, if_neg e1, if_pos (by simpa using hc18)]
   refine wp_seq_k ?_; intro K19 hK19
   refine wp_region_lit ?_
   refine l_f hf rfl (ef_call (vs := [.int .i64 1]) hf rfl ff_187 (F187 _ 1)) ?_; rintro a _ w13 ⟨rfl, hE⟩ hf
   replace hB2 := hB2.below hE
   replace hB4 := hB4.below hE
   replace hM6 := hM6.below hE
   replace hW := btr hW hE
   clear hE
   refine l_f0 hf (ef_store (vs := [.int .i64 ((⟨⟨1, 0, 0, 0⟩, 0⟩ : Dy).num.a), .int .i64 ((⟨⟨1, 0, 0, 0⟩, 0⟩ : Dy).num.b), .int .i64 ((⟨⟨1, 0, 0, 0⟩, 0⟩ : Dy).num.c), .int .i64 ((⟨⟨1, 0, 0, 0⟩, 0⟩ : Dy).num.d), .int .i64 ((⟨⟨1, 0, 0, 0⟩, 0⟩ : Dy).exp)]) (l' := [.int .i64 ((⟨⟨1, 0, 0, 0⟩, 0⟩ : Dy).num.a), .int .i64 ((⟨⟨1, 0, 0, 0⟩, 0⟩ : Dy).num.b), .int .i64 ((⟨⟨1, 0, 0, 0⟩, 0⟩ : Dy).num.c), .int .i64 ((⟨⟨1, 0, 0, 0⟩, 0⟩ : Dy).num.d), .int .i64 ((⟨⟨1, 0, 0, 0⟩, 0⟩ : Dy).exp)]) hf rfl rfl sz_189 hB2 rfl rfl rfl rfl rfl) ?_; rintro a _ w14 ⟨ho, hb⟩ hf
   have hold := hB2
   replace hB4 := hB4.only ho (by omega)
   replace hM6 := hM6.only ho (hM6.ne hold)
   replace hW := Below.only hW ho hlo2
   clear hold
   have hB2 := hb
   clear hb ho
   refine wpList_nil ?_
   refine hK19 _ _ ?_; try clear hK19 K19
   refine wp_ret ?_
   refine x_retB ?_
   refine x_retS ?_
   refine c_ret hf (res1 hf rfl (ResV.cellN (l := [.int .i64 ((⟨⟨1, 0, 0, 0⟩, 0⟩ : Dy).num.a), .int .i64 ((⟨⟨1, 0, 0, 0⟩, 0⟩ : Dy).num.b), .int .i64 ((⟨⟨1, 0, 0, 0⟩, 0⟩ : Dy).num.c), .int .i64 ((⟨⟨1, 0, 0, 0⟩, 0⟩ : Dy).num.d), .int .i64 ((⟨⟨1, 0, 0, 0⟩, 0⟩ : Dy).exp)]) rfl tN_189 (hB2.at 0) rfl)) ?_
   exact ⟨(by rw [hfin]; try rfl), hW⟩
  ·have hc18b := hc18
   have e2 : ¬ (k = 2 ∧ i ≠ j) := by simpa using hc18
   refine wp_seq_k ?_; intro K20 hK20
   refine c_cut (fun a w => Fr a 67 [(0, .int .i64 k), (1, .int .i64 i), (2, .int .i64 j), (6, .pointer (some ⟨b2, 0, none⟩)), (8, .map (some b6)), (34, .bool ((k == 3) && (i != j)))] ∧ w9 = w) ?_ ?_
   ·refine wp_region_lit ?_
    refine l_mv hf rfl rfl ?_; intro a hf
    refine l_e hf rfl (ev_eql hf rfl rfl) ?_; intro a hf
    refine l_mv hf rfl rfl ?_; intro a hf
    refine g_split hf (t := 37) rfl (fun hg21 => ?_) (fun hg21 => ?_)
    ·refine l_ev hf ⟨_, _, rfl, rfl, hg21⟩ rfl rfl (ev_move hf rfl) ?_; intro a hf
     refine l_ev hf ⟨_, _, rfl, rfl, hg21⟩ rfl rfl (ev_move hf rfl) ?_; intro a hf
     refine l_ev hf ⟨_, _, rfl, rfl, hg21⟩ rfl rfl (ev_neq hf rfl rfl) ?_; intro a hf
     refine l_e hf rfl (ev_pickT hf rfl hg21 rfl) ?_; intro a hf
     refine l_as hf rfl rfl ?_; intro a hf
     refine wpList_nil ?_
     exact ⟨hf.sub ⟨rfl, rfl, rfl, rfl, rfl, look_bool rfl (by first | rfl | (simp only [hc9b, hc18b, hg21, Bool.true_and, Bool.false_and, Bool.true_or, Bool.false_or]; done) | simp [hc9b, hc18b, hg21]), trivial⟩, rfl⟩
    ·refine l_pass hf ⟨_, _, rfl, rfl, hg21⟩ rfl rfl ?_; intro a hf
     refine l_pass hf ⟨_, _, rfl, rfl, hg21⟩ rfl rfl ?_; intro a hf
     refine l_pass hf ⟨_, _, rfl, rfl, hg21⟩ rfl rfl ?_; intro a hf
     refine l_e hf rfl (ev_pickF hf rfl hg21 rfl) ?_; intro a hf
     refine l_as hf rfl rfl ?_; intro a hf
     refine wpList_nil ?_
     exact ⟨hf.sub ⟨rfl, rfl, rfl, rfl, rfl, look_bool rfl (by first | rfl | (simp only [hc9b, hc18b, hg21, Bool.true_and, Bool.false_and, Bool.true_or, Bool.false_or]; done) | simp [hc9b, hc18b, hg21]), trivial⟩, rfl⟩
   rintro a _ ⟨hf, rfl⟩
   refine hK20 _ _ ?_; try clear hK20 K20
   refine c_if hf rfl (fun hc22 => ?_) (fun hc22 => ?_)
   ·have hc22b := hc22
    have e33 : k = 3 ∧ i ≠ j := (by simpa using hc22)
    have hfin : entryI k i j = dPow (2 + 4 * j) := by rw [entryI, if_neg e1, if_neg e2, if_pos e33]
    refine wp_seq_k ?_; intro K23 hK23
    refine wp_region_lit ?_
    refine l_mv hf rfl rfl ?_; intro a hf
    refine l_e hf rfl (ev_mulx hf rfl rfl (by omega) (by omega)) ?_; intro a hf
    refine l_e hf rfl (ev_addx hf rfl rfl (by omega) (by omega)) ?_; intro a hf
    refine l_f hf rfl (ef_call (vs := [.int .i64 (2 + (4 * j))]) hf rfl ff_140 (F140 _ (2 + (4 * j)) (inR_iff.2 ⟨by omega, by omega⟩))) ?_; rintro a _ w15 ⟨rfl, hE⟩ hf
    replace hB2 := hB2.below hE
    replace hB4 := hB4.below hE
    replace hM6 := hM6.below hE
    replace hW := btr hW hE
    clear hE
    refine l_f0 hf (ef_store (vs := [.int .i64 ((dPow (2 + (4 * j))).num.a), .int .i64 ((dPow (2 + (4 * j))).num.b), .int .i64 ((dPow (2 + (4 * j))).num.c), .int .i64 ((dPow (2 + (4 * j))).num.d), .int .i64 ((dPow (2 + (4 * j))).exp)]) (l' := [.int .i64 ((dPow (2 + (4 * j))).num.a), .int .i64 ((dPow (2 + (4 * j))).num.b), .int .i64 ((dPow (2 + (4 * j))).num.c), .int .i64 ((dPow (2 + (4 * j))).num.d), .int .i64 ((dPow (2 + (4 * j))).exp)]) hf rfl rfl sz_189 hB2 rfl rfl rfl rfl rfl) ?_; rintro a _ w16 ⟨ho, hb⟩ hf
    have hold := hB2
    replace hB4 := hB4.only ho (by omega)
    replace hM6 := hM6.only ho (hM6.ne hold)
    replace hW := Below.only hW ho hlo2
    clear hold
    have hB2 := hb
    clear hb ho
    refine wpList_nil ?_
    refine hK23 _ _ ?_; try clear hK23 K23
    refine wp_ret ?_
    refine x_retB ?_
    refine x_retS ?_
    refine c_ret hf (res1 hf rfl (ResV.cellN (l := [.int .i64 ((dPow (2 + (4 * j))).num.a), .int .i64 ((dPow (2 + (4 * j))).num.b), .int .i64 ((dPow (2 + (4 * j))).num.c), .int .i64 ((dPow (2 + (4 * j))).num.d), .int .i64 ((dPow (2 + (4 * j))).exp)]) rfl tN_189 (hB2.at 0) rfl)) ?_
    exact ⟨(by rw [hfin]; try rfl), hW⟩
   ·have hc22b := hc22
    have e3 : ¬ (k = 3 ∧ i ≠ j) := by simpa using hc22
    refine wp_seq_k ?_; intro K24 hK24
    refine c_cut (fun a w => Fr a 67 [(0, .int .i64 k), (1, .int .i64 i), (6, .pointer (some ⟨b2, 0, none⟩)), (8, .map (some b6)), (46, .bool (((k == 2) || (k == 3)) || (i != j)))] ∧ w9 = w) ?_ ?_
    ·refine wp_region_lit ?_
     refine l_mv hf rfl rfl ?_; intro a hf
     refine l_e hf rfl (ev_eql hf rfl rfl) ?_; intro a hf
     refine l_mv hf rfl rfl ?_; intro a hf
     refine g_split hf (t := 49) rfl (fun hg25 => ?_) (fun hg25 => ?_)
     ·refine l_pass hf ⟨_, _, rfl, rfl, hg25⟩ rfl rfl ?_; intro a hf
      refine l_pass hf ⟨_, _, rfl, rfl, hg25⟩ rfl rfl ?_; intro a hf
      refine l_e hf rfl (ev_pickT hf rfl hg25 rfl) ?_; intro a hf
      refine l_mv hf rfl rfl ?_; intro a hf
      refine l_pass hf ⟨_, _, rfl, rfl, rfl⟩ rfl rfl ?_; intro a hf
      refine l_pass hf ⟨_, _, rfl, rfl, rfl⟩ rfl rfl ?_; intro a hf
      refine l_pass hf ⟨_, _, rfl, rfl, rfl⟩ rfl rfl ?_; intro a hf
      refine l_e hf rfl (ev_pickT hf rfl rfl rfl) ?_; intro a hf
      refine l_as hf rfl rfl ?_; intro a hf
      refine wpList_nil ?_
      exact ⟨hf.sub ⟨rfl, rfl, rfl, rfl, look_bool rfl (by first | rfl | (simp only [hc9b, hc18b, hc22b, hg25, Bool.true_and, Bool.false_and, Bool.true_or, Bool.false_or]; done) | simp [hc9b, hc18b, hc22b, hg25]), trivial⟩, rfl⟩
     ·refine l_ev hf ⟨_, _, rfl, rfl, hg25⟩ rfl rfl (ev_move hf rfl) ?_; intro a hf
      refine l_ev hf ⟨_, _, rfl, rfl, hg25⟩ rfl rfl (ev_eql hf rfl rfl) ?_; intro a hf
      refine l_e hf rfl (ev_pickF hf rfl hg25 rfl) ?_; intro a hf
      refine l_mv hf rfl rfl ?_; intro a hf
      refine g_split hf (t := 53) rfl (fun hg26 => ?_) (fun hg26 => ?_)
      ·refine l_pass hf ⟨_, _, rfl, rfl, hg26⟩ rfl rfl ?_; intro a hf
       refine l_pass hf ⟨_, _, rfl, rfl, hg26⟩ rfl rfl ?_; intro a hf
       refine l_pass hf ⟨_, _, rfl, rfl, hg26⟩ rfl rfl ?_; intro a hf
       refine l_e hf rfl (ev_pickT hf rfl hg26 rfl) ?_; intro a hf
       refine l_as hf rfl rfl ?_; intro a hf
       refine wpList_nil ?_
       exact ⟨hf.sub ⟨rfl, rfl, rfl, rfl, look_bool rfl (by first | rfl | (simp only [hc9b, hc18b, hc22b, hg25, hg26, Bool.true_and, Bool.false_and, Bool.true_or, Bool.false_or]; done) | simp [hc9b, hc18b, hc22b, hg25, hg26]), trivial⟩, rfl⟩
      ·refine l_ev hf ⟨_, _, rfl, rfl, hg26⟩ rfl rfl (ev_move hf rfl) ?_; intro a hf
       refine l_ev hf ⟨_, _, rfl, rfl, hg26⟩ rfl rfl (ev_move hf rfl) ?_; intro a hf
       refine l_ev hf ⟨_, _, rfl, rfl, hg26⟩ rfl rfl (ev_neq hf rfl rfl) ?_; intro a hf
       refine l_e hf rfl (ev_pickF hf rfl hg26 rfl) ?_; intro a hf
       refine l_as hf rfl rfl ?_; intro a hf
       refine wpList_nil ?_
       exact ⟨hf.sub ⟨rfl, rfl, rfl, rfl, look_bool rfl (by first | rfl | (simp only [hc9b, hc18b, hc22b, hg25, hg26, Bool.true_and, Bool.false_and, Bool.true_or, Bool.false_or]; done) | simp [hc9b, hc18b, hc22b, hg25, hg26]), trivial⟩, rfl⟩
    rintro a _ ⟨hf, rfl⟩
    refine hK24 _ _ ?_; try clear hK24 K24
    refine c_if hf rfl (fun hc27 => ?_) (fun hc27 => ?_)
    ·have hc27b := hc27
     have hfin : entryI k i j = dZ := by rw [entryI, if_neg e1, if_neg e2, if_neg e3, if_pos (by simpa [or_assoc] using hc27)]
     refine wp_seq_k ?_; intro K28 hK28
     refine wp_region_lit ?_
     refine l_e hf rfl (ev_build (ps := []) (cs := [.int .i64 0, .int .i64 0, .int .i64 0, .int .i64 0, .int .i64 0]) hf rfl (fun _ => by first | rfl | kernel_rfl)) ?_; intro a hf
     refine l_f0 hf (ef_store (vs := [.int .i64 0, .int .i64 0, .int .i64 0, .int .i64 0, .int .i64 0]) (l' := [.int .i64 0, .int .i64 0, .int .i64 0, .int .i64 0, .int .i64 0]) hf rfl rfl sz_189 hB2 rfl rfl rfl rfl rfl) ?_; rintro a _ w17 ⟨ho, hb⟩ hf
     have hold := hB2
     replace hB4 := hB4.only ho (by omega)
     replace hM6 := hM6.only ho (hM6.ne hold)
     replace hW := Below.only hW ho hlo2
     clear hold
     have hB2 := hb
     clear hb ho
     refine wpList_nil ?_
     refine hK28 _ _ ?_; try clear hK28 K28
     refine wp_ret ?_
     refine x_retB ?_
     refine x_retS ?_
     refine c_ret hf (res1 hf rfl (ResV.cellN (l := [.int .i64 0, .int .i64 0, .int .i64 0, .int .i64 0, .int .i64 0]) rfl tN_189 (hB2.at 0) rfl)) ?_
     exact ⟨(by rw [hfin]; try rfl), hW⟩
    ·have hc27b := hc27
     have e4 : ¬ (k = 2 ∨ k = 3 ∨ i ≠ j) := by simpa [not_or, and_assoc] using hc27
     refine wp_seq_k ?_; intro K29 hK29
     refine wp_region_lit ?_
     refine l_mv hf rfl rfl ?_; intro a hf
     refine l_e hf rfl (ev_eql hf rfl rfl) ?_; intro a hf
     refine l_as hf rfl rfl ?_; intro a hf
     refine wpList_nil ?_
     refine hK29 _ _ ?_; try clear hK29 K29
     refine c_if hf rfl (fun hc30 => ?_) (fun hc30 => ?_)
     ·have hc30b := hc30
      have hfin : entryI k i j = ⟨⟨1, 0, 0, 0⟩, 0⟩ := by rw [entryI, if_neg e1, if_neg e2, if_neg e3, if_neg e4, if_pos (by simpa using hc30)]
      refine wp_seq_k ?_; intro K31 hK31
      refine wp_region_lit ?_
      refine l_f hf rfl (ef_call (vs := [.int .i64 1]) hf rfl ff_187 (F187 _ 1)) ?_; rintro a _ w18 ⟨rfl, hE⟩ hf
      replace hB2 := hB2.below hE
      replace hB4 := hB4.below hE
      replace hM6 := hM6.below hE
      replace hW := btr hW hE
      clear hE
      refine l_f0 hf (ef_store (vs := [.int .i64 ((⟨⟨1, 0, 0, 0⟩, 0⟩ : Dy).num.a), .int .i64 ((⟨⟨1, 0, 0, 0⟩, 0⟩ : Dy).num.b), .int .i64 ((⟨⟨1, 0, 0, 0⟩, 0⟩ : Dy).num.c), .int .i64 ((⟨⟨1, 0, 0, 0⟩, 0⟩ : Dy).num.d), .int .i64 ((⟨⟨1, 0, 0, 0⟩, 0⟩ : Dy).exp)]) (l' := [.int .i64 ((⟨⟨1, 0, 0, 0⟩, 0⟩ : Dy).num.a), .int .i64 ((⟨⟨1, 0, 0, 0⟩, 0⟩ : Dy).num.b), .int .i64 ((⟨⟨1, 0, 0, 0⟩, 0⟩ : Dy).num.c), .int .i64 ((⟨⟨1, 0, 0, 0⟩, 0⟩ : Dy).num.d), .int .i64 ((⟨⟨1, 0, 0, 0⟩, 0⟩ : Dy).exp)]) hf rfl rfl sz_189 hB2 rfl rfl rfl rfl rfl) ?_; rintro a _ w19 ⟨ho, hb⟩ hf
      have hold := hB2
      replace hB4 := hB4.only ho (by omega)
      replace hM6 := hM6.only ho (hM6.ne hold)
      replace hW := Below.only hW ho hlo2
      clear hold
      have hB2 := hb
      clear hb ho
      refine wpList_nil ?_
      refine hK31 _ _ ?_; try clear hK31 K31
      refine wp_ret ?_
      refine x_retB ?_
      refine x_retS ?_
      refine c_ret hf (res1 hf rfl (ResV.cellN (l := [.int .i64 ((⟨⟨1, 0, 0, 0⟩, 0⟩ : Dy).num.a), .int .i64 ((⟨⟨1, 0, 0, 0⟩, 0⟩ : Dy).num.b), .int .i64 ((⟨⟨1, 0, 0, 0⟩, 0⟩ : Dy).num.c), .int .i64 ((⟨⟨1, 0, 0, 0⟩, 0⟩ : Dy).num.d), .int .i64 ((⟨⟨1, 0, 0, 0⟩, 0⟩ : Dy).exp)]) rfl tN_189 (hB2.at 0) rfl)) ?_
      exact ⟨(by rw [hfin]; try rfl), hW⟩
     ·have hc30b := hc30
      have hfin : entryI k i j = dPow (turnOf k) := by rw [entryI, if_neg e1, if_neg e2, if_neg e3, if_neg e4, if_neg (by simpa using hc30)]
      refine wp_skip ?_
      refine x_norm ?_
      refine hK7 _ _ ?_; try clear hK7 K7
      refine wp_seq_k ?_; intro K32 hK32
      refine wp_region_lit ?_
      refine l_mv hf rfl rfl ?_; intro a hf
      refine l_mv hf rfl rfl ?_; intro a hf
      refine l_e hf rfl (ev_lookup (v := (turnOf k)) hf rfl rfl Tryz.underlying272 Tryz.underlying3 hM6 (turn_find (by omega) (by omega))) ?_; intro a hf
      refine l_f hf rfl (ef_call (vs := [.int .i64 (turnOf k)]) hf rfl ff_140 (F140 _ (turnOf k) (turnOf_in k))) ?_; rintro a _ w20 ⟨rfl, hE⟩ hf
      replace hB2 := hB2.below hE
      replace hB4 := hB4.below hE
      replace hM6 := hM6.below hE
      replace hW := btr hW hE
      clear hE
      refine l_f0 hf (ef_store (vs := [.int .i64 ((dPow (turnOf k)).num.a), .int .i64 ((dPow (turnOf k)).num.b), .int .i64 ((dPow (turnOf k)).num.c), .int .i64 ((dPow (turnOf k)).num.d), .int .i64 ((dPow (turnOf k)).exp)]) (l' := [.int .i64 ((dPow (turnOf k)).num.a), .int .i64 ((dPow (turnOf k)).num.b), .int .i64 ((dPow (turnOf k)).num.c), .int .i64 ((dPow (turnOf k)).num.d), .int .i64 ((dPow (turnOf k)).exp)]) hf rfl rfl sz_189 hB2 rfl rfl rfl rfl rfl) ?_; rintro a _ w21 ⟨ho, hb⟩ hf
      have hold := hB2
      replace hB4 := hB4.only ho (by omega)
      replace hM6 := hM6.only ho (hM6.ne hold)
      replace hW := Below.only hW ho hlo2
      clear hold
      have hB2 := hb
      clear hb ho
      refine wpList_nil ?_
      refine hK32 _ _ ?_; try clear hK32 K32
      refine wp_ret ?_
      refine c_ret hf (res1 hf rfl (ResV.cellN (l := [.int .i64 ((dPow (turnOf k)).num.a), .int .i64 ((dPow (turnOf k)).num.b), .int .i64 ((dPow (turnOf k)).num.c), .int .i64 ((dPow (turnOf k)).num.d), .int .i64 ((dPow (turnOf k)).exp)]) rfl tN_189 (hB2.at 0) rfl)) ?_
      exact ⟨(by rw [hfin]; try rfl), hW⟩
end Go.Proofs.YtfgnmflfiobkmaaGreat
set_option maxRecDepth 4000
namespace Go.Proofs.YtfgnmflfiobkmaaGreat
open Go.RowKit
theorem F217 (w0 : World) (g : Gt) (n : Int) (ba bb : Nat) (hBa : Blk w0 ba 107 (encG g)) (hBb : Blk w0 bb 3 [.int .i64 n]) (hg : gOk n g = true) (i j : Int) : Ret Tryz.prog 217 [.int .i64 i, .int .i64 j, .pointer (some ⟨ba, 0, none⟩), .pointer (some ⟨bb, 0, none⟩)] w0 (fun v w => v = .tuple #[dV (cellI n g i j), .bool true] ∧ Below w0.heap.size w0 w) := by
 have hltba := hBa.lt
 have hltbb := hBb.lt
 unfold encG at hBa
 have hg2 := gOk_spec hg
 have hb01 := bitF_01 n j g.a
 refine enter Tryz.func217 rfl 75 rfl rfl ?_
 intro a hf
 have hW : Below w0.heap.size w0 w0 := Below.refl _ _
 refine wp_seq_k ?_; intro K1 hK1
 refine wp_region_lit ?_
 refine l_f hf rfl (ef_alloc (zs := [.int .i64 0, .int .i64 0, .int .i64 0, .int .i64 0, .int .i64 0]) z_189 rfl) ?_; rintro a _ w1 ⟨b2, rfl, hl2, hE, hB2⟩ hf
 have hlo2 := Nat.le_trans hW.size hl2
 replace hBa := hBa.below hE
 replace hBb := hBb.below hE
 replace hW := btr hW hE
 clear hE
 refine l_as hf rfl rfl ?_; intro a hf
 refine wpList_nil ?_
 refine hK1 _ _ ?_; try clear hK1 K1
 refine wp_seq_k ?_; intro K3 hK3
 refine wp_block ?_
 refine wp_seq_k ?_; intro K4 hK4
 refine wp_region_lit ?_
 refine l_e hf rfl (ev_fieldB hf rfl fd_107_0 (m := 0) rfl) ?_; intro a hf
 refine l_e hf rfl (ev_load1 hf rfl t1_3 (hBa.at 0)) ?_; intro a hf
 refine l_e hf rfl (ev_eql hf rfl rfl) ?_; intro a hf
 refine l_as hf rfl rfl ?_; intro a hf
 refine wpList_nil ?_
 refine hK4 _ _ ?_; try clear hK4 K4
 refine c_if hf rfl (fun hc5 => ?_) (fun hc5 => ?_)
 ·have hc5b := hc5
  have hk := eq_of_beq hc5
  refine wp_seq_k ?_; intro K6 hK6
  refine wp_region_lit ?_
  refine l_mv hf rfl rfl ?_; intro a hf
  refine l_mv hf rfl rfl ?_; intro a hf
  refine l_e hf rfl (ev_eql hf rfl rfl) ?_; intro a hf
  refine wpList_nil ?_
  refine hK6 _ _ ?_; try clear hK6 K6
  refine c_if hf rfl (fun hc7 => ?_) (fun hc7 => ?_)
  ·have hc7b := hc7
   have hfin : cellI n g i j = dPow 1 := by rw [cellI, if_pos hk, if_pos (eq_of_beq hc7)]
   refine wp_seq_k ?_; intro K8 hK8
   refine wp_region_lit ?_
   refine l_f hf rfl (ef_call (vs := [.int .i64 1]) hf rfl ff_140 (F140 _ 1 (by rfl))) ?_; rintro a _ w2 ⟨rfl, hE⟩ hf
   replace hBa := hBa.below hE
   replace hBb := hBb.below hE
   replace hB2 := hB2.below hE
   replace hW := btr hW hE
   clear hE
   refine l_f0 hf (ef_store (vs := [.int .i64 ((dPow 1).num.a), .int .i64 ((dPow 1).num.b), .int .i64 ((dPow 1).num.c), .int .i64 ((dPow 1).num.d), .int .i64 ((dPow 1).exp)]) (l' := [.int .i64 ((dPow 1).num.a), .int .i64 ((dPow 1).num.b), .int .i64 ((dPow 1).num.c), .int .i64 ((dPow 1).num.d), .int .i64 ((dPow 1).exp)]) hf rfl rfl sz_189 hB2 rfl rfl rfl rfl rfl) ?_; rintro a _ w3 ⟨ho, hb⟩ hf
   have hold := hB2
   replace hBa := hBa.only ho (Blk.ne hBa hold rfl)
   replace hBb := hBb.only ho (Blk.ne hBb hold rfl)
   replace hW := Below.only hW ho hlo2
   clear hold
   have hB2 := hb
   clear hb ho
   refine l_as hf rfl rfl ?_; intro a hf
   refine wpList_nil ?_
   refine hK8 _ _ ?_; try clear hK8 K8
   refine wp_ret ?_
   refine x_retB ?_
   refine x_retS ?_
   refine c_ret hf (res2 hf rfl (ResV.cellN (l := [.int .i64 ((dPow 1).num.a), .int .i64 ((dPow 1).num.b), .int .i64 ((dPow 1).num.c), .int .i64 ((dPow 1).num.d), .int .i64 ((dPow 1).exp)]) rfl tN_189 (hB2.at 0) rfl) rfl) ?_
   exact ⟨(by rw [hfin]; try rfl), hW⟩
  ·have hc7b := hc7
   have hfin : cellI n g i j = dZ := by rw [cellI, if_pos hk, if_neg (ne_of_beqF hc7)]
   refine wp_skip ?_
   refine x_norm ?_
   refine hK3 _ _ ?_; try clear hK3 K3
   refine wp_seq_k ?_; intro K9 hK9
   refine wp_region_lit ?_
   refine l_e hf rfl (ev_build (ps := []) (cs := [.int .i64 0, .int .i64 0, .int .i64 0, .int .i64 0, .int .i64 0]) hf rfl (fun _ => by first | rfl | kernel_rfl)) ?_; intro a hf
   refine l_f0 hf (ef_store (vs := [.int .i64 0, .int .i64 0, .int .i64 0, .int .i64 0, .int .i64 0]) (l' := [.int .i64 0, .int .i64 0, .int .i64 0, .int .i64 0, .int .i64 0]) hf rfl rfl sz_189 hB2 rfl rfl rfl rfl rfl) ?_; rintro a _ w4 ⟨ho, hb⟩ hf
   have hold := hB2
   replace hBa := hBa.only ho (Blk.ne hBa hold rfl)
   replace hBb := hBb.only ho (Blk.ne hBb hold rfl)
   replace hW := Below.only hW ho hlo2
   clear hold
   have hB2 := hb
   clear hb ho
   refine l_as hf rfl rfl ?_; intro a hf
   refine wpList_nil ?_
   refine hK9 _ _ ?_; try clear hK9 K9
   refine wp_ret ?_
   refine c_ret hf (res2 hf rfl (ResV.cellN (l := [.int .i64 0, .int .i64 0, .int .i64 0, .int .i64 0, .int .i64 0]) rfl tN_189 (hB2.at 0) rfl) rfl) ?_
   exact ⟨(by rw [hfin]; try rfl), hW⟩
 ·have hc5b := hc5
  have hk := ne_of_beqF hc5
  have hga := hg2.2.2.1 hk
  refine wp_seq_k ?_; intro K10 hK10
  refine wp_region_lit ?_
  refine l_e hf rfl (ev_fieldB hf rfl fd_107_0 (m := 0) rfl) ?_; intro a hf
  refine l_e hf rfl (ev_load1 hf rfl t1_3 (hBa.at 0)) ?_; intro a hf
  refine l_f hf rfl (ef_call (vs := [.int .i64 g.k]) hf rfl ff_99 (F99 _ g.k)) ?_; rintro a _ _ ⟨rfl, rfl⟩ hf
  refine l_as hf rfl rfl ?_; intro a hf
  refine wpList_nil ?_
  refine hK10 _ _ ?_; try clear hK10 K10
  refine c_if hf rfl (fun hc11 => ?_) (fun hc11 => ?_)
  ·have hc11b := hc11
   have hk2 := hc11
   have hgb := hg2.2.2.2 (inR_iff.1 hk2)
   refine wp_seq_k ?_; intro K12 hK12
   refine wp_region_lit ?_
   refine l_e hf rfl (ev_load1 hf rfl t1_3 (hBb.at 0)) ?_; intro a hf
   refine l_e hf rfl (ev_loadN (l := [.int .i64 g.k, .int .i64 g.a, .int .i64 g.b]) hf rfl tN_107 (hBa.at 0) rfl) ?_; intro a hf
   refine l_mv hf rfl rfl ?_; intro a hf
   refine l_f hf rfl (ef_call (vs := [.int .i64 n, .agg #[.int .i64 g.k, .int .i64 g.a, .int .i64 g.b], .int .i64 i]) hf rfl ff_218 (F218 _ n g i hg (inR_iff.1 hk2))) ?_; rintro a _ w5 ⟨rfl, hE⟩ hf
   replace hBa := hBa.below hE
   replace hBb := hBb.below hE
   replace hB2 := hB2.below hE
   replace hW := btr hW hE
   clear hE
   refine l_mv hf rfl rfl ?_; intro a hf
   refine l_e hf rfl (ev_eql hf rfl rfl) ?_; intro a hf
   refine wpList_nil ?_
   refine hK12 _ _ ?_; try clear hK12 K12
   refine c_if hf rfl (fun hc13 => ?_) (fun hc13 => ?_)
   ·have hc13b := hc13
    have hfin : cellI n g i j = dPow (4 * (if czI n g i = true then 1 else 0)) := by rw [cellI, if_neg hk, if_pos hk2, if_pos (eq_of_beq hc13)]
    refine wp_seq_k ?_; intro K14 hK14
    refine c_cut (fun a w => Fr a 75 [(6, .pointer (some ⟨b2, 0, none⟩)), (7, .bool true)] ∧ Blk w ba 107 [.int .i64 g.k, .int .i64 g.a, .int .i64 g.b] ∧ Blk w bb 3 [.int .i64 n] ∧ Blk w b2 189 [.int .i64 ((dPow (4 * (if (((g.k == 10) && ((bitF n i g.a) == 1)) && ((bitF n i g.b) == 1)) = true then 1 else 0))).num.a), .int .i64 ((dPow (4 * (if (((g.k == 10) && ((bitF n i g.a) == 1)) && ((bitF n i g.b) == 1)) = true then 1 else 0))).num.b), .int .i64 ((dPow (4 * (if (((g.k == 10) && ((bitF n i g.a) == 1)) && ((bitF n i g.b) == 1)) = true then 1 else 0))).num.c), .int .i64 ((dPow (4 * (if (((g.k == 10) && ((bitF n i g.a) == 1)) && ((bitF n i g.b) == 1)) = true then 1 else 0))).num.d), .int .i64 ((dPow (4 * (if (((g.k == 10) && ((bitF n i g.a) == 1)) && ((bitF n i g.b) == 1)) = true then 1 else 0))).exp)] ∧ Below w0.heap.size w0 w) ?_ ?_
    ·refine wp_region_lit ?_
     refine l_e hf rfl (ev_fieldB hf rfl fd_107_0 (m := 0) rfl) ?_; intro a hf
     refine l_e hf rfl (ev_load1 hf rfl t1_3 (hBa.at 0)) ?_; intro a hf
     refine l_e hf rfl (ev_eql hf rfl rfl) ?_; intro a hf
     refine l_mv hf rfl rfl ?_; intro a hf
     refine g_split hf (t := 29) rfl (fun hg15 => ?_) (fun hg15 => ?_)
     ·refine l_ev hf ⟨_, _, rfl, rfl, hg15⟩ rfl rfl (ev_load1 hf rfl t1_3 (hBb.at 0)) ?_; intro a hf
      refine l_ev hf ⟨_, _, rfl, rfl, hg15⟩ rfl rfl (ev_move hf rfl) ?_; intro a hf
      refine l_ev hf ⟨_, _, rfl, rfl, hg15⟩ rfl rfl (ev_fieldB hf rfl fd_107_1 (m := 1) rfl) ?_; intro a hf
      refine l_ev hf ⟨_, _, rfl, rfl, hg15⟩ rfl rfl (ev_load1 hf rfl t1_3 (hBa.at 1)) ?_; intro a hf
      refine l_eff hf ⟨_, _, rfl, rfl, hg15⟩ rfl rfl (ef_call (vs := [.int .i64 n, .int .i64 i, .int .i64 g.a]) hf rfl ff_219 (F219 _ n i g.a (by omega) (by omega) (by omega))) ?_; rintro a _ _ ⟨rfl, rfl⟩ hf
      refine l_ev hf ⟨_, _, rfl, rfl, hg15⟩ rfl rfl (ev_eql hf rfl rfl) ?_; intro a hf
      refine l_e hf rfl (ev_pickT hf rfl hg15 rfl) ?_; intro a hf
      refine l_mv hf rfl rfl ?_; intro a hf
      refine g_split hf (t := 37) rfl (fun hg16 => ?_) (fun hg16 => ?_)
      ·refine l_ev hf ⟨_, _, rfl, rfl, hg16⟩ rfl rfl (ev_load1 hf rfl t1_3 (hBb.at 0)) ?_; intro a hf
       refine l_ev hf ⟨_, _, rfl, rfl, hg16⟩ rfl rfl (ev_move hf rfl) ?_; intro a hf
       refine l_ev hf ⟨_, _, rfl, rfl, hg16⟩ rfl rfl (ev_fieldB hf rfl fd_107_2 (m := 2) rfl) ?_; intro a hf
       refine l_ev hf ⟨_, _, rfl, rfl, hg16⟩ rfl rfl (ev_load1 hf rfl t1_3 (hBa.at 2)) ?_; intro a hf
       refine l_eff hf ⟨_, _, rfl, rfl, hg16⟩ rfl rfl (ef_call (vs := [.int .i64 n, .int .i64 i, .int .i64 g.b]) hf rfl ff_219 (F219 _ n i g.b (by omega) (by omega) (by omega))) ?_; rintro a _ _ ⟨rfl, rfl⟩ hf
       refine l_ev hf ⟨_, _, rfl, rfl, hg16⟩ rfl rfl (ev_eql hf rfl rfl) ?_; intro a hf
       refine l_e hf rfl (ev_pickT hf rfl hg16 rfl) ?_; intro a hf
       refine l_f hf rfl (ef_call (vs := [.bool ((bitF n i g.b) == 1)]) hf rfl ff_59 (F59 _ ((bitF n i g.b) == 1))) ?_; rintro a _ _ ⟨rfl, rfl⟩ hf
       refine l_e hf rfl (ev_mulx hf rfl rfl (by split <;> decide) (by split <;> decide)) ?_; intro a hf
       refine l_f hf rfl (ef_call (vs := [.int .i64 (4 * (if ((bitF n i g.b) == 1) = true then 1 else 0))]) hf rfl ff_140 (F140 _ (4 * (if ((bitF n i g.b) == 1) = true then 1 else 0)) (by split <;> rfl))) ?_; rintro a _ w6 ⟨rfl, hE⟩ hf
       replace hBa := hBa.below hE
       replace hBb := hBb.below hE
       replace hB2 := hB2.below hE
       replace hW := btr hW hE
       clear hE
       refine l_f0 hf (ef_store (vs := [.int .i64 ((dPow (4 * (if ((bitF n i g.b) == 1) = true then 1 else 0))).num.a), .int .i64 ((dPow (4 * (if ((bitF n i g.b) == 1) = true then 1 else 0))).num.b), .int .i64 ((dPow (4 * (if ((bitF n i g.b) == 1) = true then 1 else 0))).num.c), .int .i64 ((dPow (4 * (if ((bitF n i g.b) == 1) = true then 1 else 0))).num.d), .int .i64 ((dPow (4 * (if ((bitF n i g.b) == 1) = true then 1 else 0))).exp)]) (l' := [.int .i64 ((dPow (4 * (if ((bitF n i g.b) == 1) = true then 1 else 0))).num.a), .int .i64 ((dPow (4 * (if ((bitF n i g.b) == 1) = true then 1 else 0))).num.b), .int .i64 ((dPow (4 * (if ((bitF n i g.b) == 1) = true then 1 else 0))).num.c), .int .i64 ((dPow (4 * (if ((bitF n i g.b) == 1) = true then 1 else 0))).num.d), .int .i64 ((dPow (4 * (if ((bitF n i g.b) == 1) = true then 1 else 0))).exp)]) hf rfl rfl sz_189 hB2 rfl rfl rfl rfl rfl) ?_; rintro a _ w7 ⟨ho, hb⟩ hf
       have hold := hB2
       replace hBa := hBa.only ho (Blk.ne hBa hold rfl)
       replace hBb := hBb.only ho (Blk.ne hBb hold rfl)
       replace hW := Below.only hW ho hlo2
       clear hold
       have hB2 := hb
       clear hb ho
       refine l_as hf rfl rfl ?_; intro a hf
       refine wpList_nil ?_
       have hz9 : (((g.k == 10) && ((bitF n i g.a) == 1)) && ((bitF n i g.b) == 1)) = ((bitF n i g.b) == 1) := by simp [hc5b, hc11b, hc13b, hg15, hg16]
       have hB2 : Blk w7 b2 189 [.int .i64 ((dPow (4 * (if (((g.k == 10) && ((bitF n i g.a) == 1)) && ((bitF n i g.b) == 1)) = true then 1 else 0))).num.a), .int .i64 ((dPow (4 * (if (((g.k == 10) && ((bitF n i g.a) == 1)) && ((bitF n i g.b) == 1)) = true then 1 else 0))).num.b), .int .i64 ((dPow (4 * (if (((g.k == 10) && ((bitF n i g.a) == 1)) && ((bitF n i g.b) == 1)) = true then 1 else 0))).num.c), .int .i64 ((dPow (4 * (if (((g.k == 10) && ((bitF n i g.a) == 1)) && ((bitF n i g.b) == 1)) = true then 1 else 0))).num.d), .int .i64 ((dPow (4 * (if (((g.k == 10) && ((bitF n i g.a) == 1)) && ((bitF n i g.b) == 1)) = true then 1 else 0))).exp)] := by rw [hz9]; exact hB2
       exact ⟨hf.sub ⟨rfl, rfl, trivial⟩, hBa, hBb, hB2, hW⟩
      ·refine l_pass hf ⟨_, _, rfl, rfl, hg16⟩ rfl rfl ?_; intro a hf
       refine l_pass hf ⟨_, _, rfl, rfl, hg16⟩ rfl rfl ?_; intro a hf
       refine l_pass hf ⟨_, _, rfl, rfl, hg16⟩ rfl rfl ?_; intro a hf
       refine l_pass hf ⟨_, _, rfl, rfl, hg16⟩ rfl rfl ?_; intro a hf
       refine l_pass hf ⟨_, _, rfl, rfl, hg16⟩ rfl rfl ?_; intro a hf
       refine l_pass hf ⟨_, _, rfl, rfl, hg16⟩ rfl rfl ?_; intro a hf
       refine l_e hf rfl (ev_pickF hf rfl hg16 rfl) ?_; intro a hf
       refine l_f hf rfl (ef_call (vs := [.bool false]) hf rfl ff_59 (F59 _ false)) ?_; rintro a _ _ ⟨rfl, rfl⟩ hf
       refine l_e hf rfl (ev_mulx hf rfl rfl (by split <;> decide) (by split <;> decide)) ?_; intro a hf
       refine l_f hf rfl (ef_call (vs := [.int .i64 (4 * (if false = true then 1 else 0))]) hf rfl ff_140 (F140 _ (4 * (if false = true then 1 else 0)) (by split <;> rfl))) ?_; rintro a _ w8 ⟨rfl, hE⟩ hf
       replace hBa := hBa.below hE
       replace hBb := hBb.below hE
       replace hB2 := hB2.below hE
       replace hW := btr hW hE
       clear hE
       refine l_f0 hf (ef_store (vs := [.int .i64 ((dPow (4 * (if false = true then 1 else 0))).num.a), .int .i64 ((dPow (4 * (if false = true then 1 else 0))).num.b), .int .i64 ((dPow (4 * (if false = true then 1 else 0))).num.c), .int .i64 ((dPow (4 * (if false = true then 1 else 0))).num.d), .int .i64 ((dPow (4 * (if false = true then 1 else 0))).exp)]) (l' := [.int .i64 ((dPow (4 * (if false = true then 1 else 0))).num.a), .int .i64 ((dPow (4 * (if false = true then 1 else 0))).num.b), .int .i64 ((dPow (4 * (if false = true then 1 else 0))).num.c), .int .i64 ((dPow (4 * (if false = true then 1 else 0))).num.d), .int .i64 ((dPow (4 * (if false = true then 1 else 0))).exp)]) hf rfl rfl sz_189 hB2 rfl rfl rfl rfl rfl) ?_; rintro a _ w9 ⟨ho, hb⟩ hf
       have hold := hB2
       replace hBa := hBa.only ho (Blk.ne hBa hold rfl)
       replace hBb := hBb.only ho (Blk.ne hBb hold rfl)
       replace hW := Below.only hW ho hlo2
       clear hold
       have hB2 := hb
       clear hb ho
       refine l_as hf rfl rfl ?_; intro a hf
       refine wpList_nil ?_
       have hz9 : (((g.k == 10) && ((bitF n i g.a) == 1)) && ((bitF n i g.b) == 1)) = (false) := by simp [hc5b, hc11b, hc13b, hg15, hg16]
       have hB2 : Blk w9 b2 189 [.int .i64 ((dPow (4 * (if (((g.k == 10) && ((bitF n i g.a) == 1)) && ((bitF n i g.b) == 1)) = true then 1 else 0))).num.a), .int .i64 ((dPow (4 * (if (((g.k == 10) && ((bitF n i g.a) == 1)) && ((bitF n i g.b) == 1)) = true then 1 else 0))).num.b), .int .i64 ((dPow (4 * (if (((g.k == 10) && ((bitF n i g.a) == 1)) && ((bitF n i g.b) == 1)) = true then 1 else 0))).num.c), .int .i64 ((dPow (4 * (if (((g.k == 10) && ((bitF n i g.a) == 1)) && ((bitF n i g.b) == 1)) = true then 1 else 0))).num.d), .int .i64 ((dPow (4 * (if (((g.k == 10) && ((bitF n i g.a) == 1)) && ((bitF n i g.b) == 1)) = true then 1 else 0))).exp)] := by rw [hz9]; exact hB2
       exact ⟨hf.sub ⟨rfl, rfl, trivial⟩, hBa, hBb, hB2, hW⟩
     ·refine l_pass hf ⟨_, _, rfl, rfl, hg15⟩ rfl rfl ?_; intro a hf
      refine l_pass hf ⟨_, _, rfl, rfl, hg15⟩ rfl rfl ?_; intro a hf
      refine l_pass hf ⟨_, _, rfl, rfl, hg15⟩ rfl rfl ?_; intro a hf
      refine l_pass hf ⟨_, _, rfl, rfl, hg15⟩ rfl rfl ?_; intro a hf
      refine l_pass hf ⟨_, _, rfl, rfl, hg15⟩ rfl rfl ?_; intro a hf
      refine l_pass hf ⟨_, _, rfl, rfl, hg15⟩ rfl rfl ?_; intro a hf
      refine l_e hf rfl (ev_pickF hf rfl hg15 rfl) ?_; intro a hf
      refine l_mv hf rfl rfl ?_; intro a hf
      refine l_pass hf ⟨_, _, rfl, rfl, rfl⟩ rfl rfl ?_; intro a hf
      refine l_pass hf ⟨_, _, rfl, rfl, rfl⟩ rfl rfl ?_; intro a hf
      refine l_pass hf ⟨_, _, rfl, rfl, rfl⟩ rfl rfl ?_; intro a hf
      refine l_pass hf ⟨_, _, rfl, rfl, rfl⟩ rfl rfl ?_; intro a hf
      refine l_pass hf ⟨_, _, rfl, rfl, rfl⟩ rfl rfl ?_; intro a hf
      refine l_pass hf ⟨_, _, rfl, rfl, rfl⟩ rfl rfl ?_; intro a hf
      refine l_e hf rfl (ev_pickF hf rfl rfl rfl) ?_; intro a hf
      refine l_f hf rfl (ef_call (vs := [.bool false]) hf rfl ff_59 (F59 _ false)) ?_; rintro a _ _ ⟨rfl, rfl⟩ hf
      refine l_e hf rfl (ev_mulx hf rfl rfl (by split <;> decide) (by split <;> decide)) ?_; intro a hf
      refine l_f hf rfl (ef_call (vs := [.int .i64 (4 * (if false = true then 1 else 0))]) hf rfl ff_140 (F140 _ (4 * (if false = true then 1 else 0)) (by split <;> rfl))) ?_; rintro a _ w10 ⟨rfl, hE⟩ hf
      replace hBa := hBa.below hE
      replace hBb := hBb.below hE
      replace hB2 := hB2.below hE
      replace hW := btr hW hE
      clear hE
      refine l_f0 hf (ef_store (vs := [.int .i64 ((dPow (4 * (if false = true then 1 else 0))).num.a), .int .i64 ((dPow (4 * (if false = true then 1 else 0))).num.b), .int .i64 ((dPow (4 * (if false = true then 1 else 0))).num.c), .int .i64 ((dPow (4 * (if false = true then 1 else 0))).num.d), .int .i64 ((dPow (4 * (if false = true then 1 else 0))).exp)]) (l' := [.int .i64 ((dPow (4 * (if false = true then 1 else 0))).num.a), .int .i64 ((dPow (4 * (if false = true then 1 else 0))).num.b), .int .i64 ((dPow (4 * (if false = true then 1 else 0))).num.c), .int .i64 ((dPow (4 * (if false = true then 1 else 0))).num.d), .int .i64 ((dPow (4 * (if false = true then 1 else 0))).exp)]) hf rfl rfl sz_189 hB2 rfl rfl rfl rfl rfl) ?_; rintro a _ w11 ⟨ho, hb⟩ hf
      have hold := hB2
      replace hBa := hBa.only ho (Blk.ne hBa hold rfl)
      replace hBb := hBb.only ho (Blk.ne hBb hold rfl)
      replace hW := Below.only hW ho hlo2
      clear hold
      have hB2 := hb
      clear hb ho
      refine l_as hf rfl rfl ?_; intro a hf
      refine wpList_nil ?_
      have hz9 : (((g.k == 10) && ((bitF n i g.a) == 1)) && ((bitF n i g.b) == 1)) = (false) := by simp [hc5b, hc11b, hc13b, hg15]
      have hB2 : Blk w11 b2 189 [.int .i64 ((dPow (4 * (if (((g.k == 10) && ((bitF n i g.a) == 1)) && ((bitF n i g.b) == 1)) = true then 1 else 0))).num.a), .int .i64 ((dPow (4 * (if (((g.k == 10) && ((bitF n i g.a) == 1)) && ((bitF n i g.b) == 1)) = true then 1 else 0))).num.b), .int .i64 ((dPow (4 * (if (((g.k == 10) && ((bitF n i g.a) == 1)) && ((bitF n i g.b) == 1)) = true then 1 else 0))).num.c), .int .i64 ((dPow (4 * (if (((g.k == 10) && ((bitF n i g.a) == 1)) && ((bitF n i g.b) == 1)) = true then 1 else 0))).num.d), .int .i64 ((dPow (4 * (if (((g.k == 10) && ((bitF n i g.a) == 1)) && ((bitF n i g.b) == 1)) = true then 1 else 0))).exp)] := by rw [hz9]; exact hB2
      exact ⟨hf.sub ⟨rfl, rfl, trivial⟩, hBa, hBb, hB2, hW⟩
    rintro a w12 ⟨hf, hBa, hBb, hB2, hW⟩
    refine hK14 _ _ ?_; try clear hK14 K14
    refine wp_ret ?_
    refine x_retB ?_
    refine x_retS ?_
    refine c_ret hf (res2 hf rfl (ResV.cellN (l := [.int .i64 ((dPow (4 * (if (((g.k == 10) && ((bitF n i g.a) == 1)) && ((bitF n i g.b) == 1)) = true then 1 else 0))).num.a), .int .i64 ((dPow (4 * (if (((g.k == 10) && ((bitF n i g.a) == 1)) && ((bitF n i g.b) == 1)) = true then 1 else 0))).num.b), .int .i64 ((dPow (4 * (if (((g.k == 10) && ((bitF n i g.a) == 1)) && ((bitF n i g.b) == 1)) = true then 1 else 0))).num.c), .int .i64 ((dPow (4 * (if (((g.k == 10) && ((bitF n i g.a) == 1)) && ((bitF n i g.b) == 1)) = true then 1 else 0))).num.d), .int .i64 ((dPow (4 * (if (((g.k == 10) && ((bitF n i g.a) == 1)) && ((bitF n i g.b) == 1)) = true then 1 else 0))).exp)]) rfl tN_189 (hB2.at 0) rfl) rfl) ?_
    exact ⟨(by rw [hfin]; try rfl), hW⟩
   ·have hc13b := hc13
    have hfin : cellI n g i j = dZ := by rw [cellI, if_neg hk, if_pos hk2, if_neg (ne_of_beqF hc13)]
    refine wp_skip ?_
    refine x_norm ?_
    refine hK3 _ _ ?_; try clear hK3 K3
    refine wp_seq_k ?_; intro K17 hK17
    refine wp_region_lit ?_
    refine l_e hf rfl (ev_build (ps := []) (cs := [.int .i64 0, .int .i64 0, .int .i64 0, .int .i64 0, .int .i64 0]) hf rfl (fun _ => by first | rfl | kernel_rfl)) ?_; intro a hf
    refine l_f0 hf (ef_store (vs := [.int .i64 0, .int .i64 0, .int .i64 0, .int .i64 0, .int .i64 0]) (l' := [.int .i64 0, .int .i64 0, .int .i64 0, .int .i64 0, .int .i64 0]) hf rfl rfl sz_189 hB2 rfl rfl rfl rfl rfl) ?_; rintro a _ w13 ⟨ho, hb⟩ hf
    have hold := hB2
    replace hBa := hBa.only ho (Blk.ne hBa hold rfl)
    replace hBb := hBb.only ho (Blk.ne hBb hold rfl)
    replace hW := Below.only hW ho hlo2
    clear hold
    have hB2 := hb
    clear hb ho
    refine l_as hf rfl rfl ?_; intro a hf
    refine wpList_nil ?_
    refine hK17 _ _ ?_; try clear hK17 K17
    refine wp_ret ?_
    refine c_ret hf (res2 hf rfl (ResV.cellN (l := [.int .i64 0, .int .i64 0, .int .i64 0, .int .i64 0, .int .i64 0]) rfl tN_189 (hB2.at 0) rfl) rfl) ?_
    exact ⟨(by rw [hfin]; try rfl), hW⟩
  ·have hc11b := hc11
   have hk2 : ¬ inR g.k 9 11 = true := by rw [hc11]; simp
   have hk8 : g.k ≤ 8 := by have h9 : ¬ (9 ≤ g.k ∧ g.k ≤ 11) := (fun h => hk2 (inR_iff.2 h)); omega
   refine wp_seq_k ?_; intro K18 hK18
   refine c_cut (fun a w => Fr a 75 [(0, .int .i64 i), (1, .int .i64 j), (2, .pointer (some ⟨ba, 0, none⟩)), (3, .pointer (some ⟨bb, 0, none⟩)), (6, .pointer (some ⟨b2, 0, none⟩)), (48, .bool ((i == j) || ((flipF n i g.a) == j)))] ∧ w1 = w) ?_ ?_
   ·refine wp_region_lit ?_
    refine l_mv hf rfl rfl ?_; intro a hf
    refine l_mv hf rfl rfl ?_; intro a hf
    refine l_e hf rfl (ev_eql hf rfl rfl) ?_; intro a hf
    refine l_mv hf rfl rfl ?_; intro a hf
    refine g_split hf (t := 52) rfl (fun hg19 => ?_) (fun hg19 => ?_)
    ·refine l_pass hf ⟨_, _, rfl, rfl, hg19⟩ rfl rfl ?_; intro a hf
     refine l_pass hf ⟨_, _, rfl, rfl, hg19⟩ rfl rfl ?_; intro a hf
     refine l_pass hf ⟨_, _, rfl, rfl, hg19⟩ rfl rfl ?_; intro a hf
     refine l_pass hf ⟨_, _, rfl, rfl, hg19⟩ rfl rfl ?_; intro a hf
     refine l_pass hf ⟨_, _, rfl, rfl, hg19⟩ rfl rfl ?_; intro a hf
     refine l_pass hf ⟨_, _, rfl, rfl, hg19⟩ rfl rfl ?_; intro a hf
     refine l_pass hf ⟨_, _, rfl, rfl, hg19⟩ rfl rfl ?_; intro a hf
     refine l_e hf rfl (ev_pickT hf rfl hg19 rfl) ?_; intro a hf
     refine l_as hf rfl rfl ?_; intro a hf
     refine wpList_nil ?_
     exact ⟨hf.sub ⟨rfl, rfl, rfl, rfl, rfl, look_bool rfl (by first | rfl | (simp only [hc5b, hc11b, hg19, Bool.true_and, Bool.false_and, Bool.true_or, Bool.false_or]; done) | simp [hc5b, hc11b, hg19]), trivial⟩, rfl⟩
    ·refine l_ev hf ⟨_, _, rfl, rfl, hg19⟩ rfl rfl (ev_load1 hf rfl t1_3 (hBb.at 0)) ?_; intro a hf
     refine l_ev hf ⟨_, _, rfl, rfl, hg19⟩ rfl rfl (ev_move hf rfl) ?_; intro a hf
     refine l_ev hf ⟨_, _, rfl, rfl, hg19⟩ rfl rfl (ev_fieldB hf rfl fd_107_1 (m := 1) rfl) ?_; intro a hf
     refine l_ev hf ⟨_, _, rfl, rfl, hg19⟩ rfl rfl (ev_load1 hf rfl t1_3 (hBa.at 1)) ?_; intro a hf
     refine l_eff hf ⟨_, _, rfl, rfl, hg19⟩ rfl rfl (ef_call (vs := [.int .i64 n, .int .i64 i, .int .i64 g.a]) hf rfl ff_220 (F220 _ n i g.a (by omega) (by omega) (by omega))) ?_; rintro a _ _ ⟨rfl, rfl⟩ hf
     refine l_ev hf ⟨_, _, rfl, rfl, hg19⟩ rfl rfl (ev_move hf rfl) ?_; intro a hf
     refine l_ev hf ⟨_, _, rfl, rfl, hg19⟩ rfl rfl (ev_eql hf rfl rfl) ?_; intro a hf
     refine l_e hf rfl (ev_pickF hf rfl hg19 rfl) ?_; intro a hf
     refine l_as hf rfl rfl ?_; intro a hf
     refine wpList_nil ?_
     exact ⟨hf.sub ⟨rfl, rfl, rfl, rfl, rfl, look_bool rfl (by first | rfl | (simp only [hc5b, hc11b, hg19, Bool.true_and, Bool.false_and, Bool.true_or, Bool.false_or]; done) | simp [hc5b, hc11b, hg19]), trivial⟩, rfl⟩
   rintro a _ ⟨hf, rfl⟩
   refine hK18 _ _ ?_; try clear hK18 K18
   refine c_if hf rfl (fun hc20 => ?_) (fun hc20 => ?_)
   ·have hc20b := hc20
    have hfin : cellI n g i j = entryI g.k (bitF n i g.a) (bitF n j g.a) := by rw [cellI, if_neg hk, if_neg hk2, if_pos (by simpa using hc20)]
    refine wp_seq_k ?_; intro K21 hK21
    refine wp_draw none (fun j => [13].contains j) mixed ?_
    intro w14 hE
    replace hBa := hBa.below hE
    replace hBb := hBb.below hE
    replace hB2 := hB2.below hE
    replace hW := btr hW hE
    clear hE
    refine s_e0 0 rfl (by kernel_rfl) hf rfl (fun _ => ev_fieldB hf rfl fd_107_0 (m := 0) rfl) ?_; intro a hf
    refine s_e 1 rfl (by kernel_rfl) (by kernel_rfl) hf rfl (ev_load1 hf rfl t1_3 (hBa.at 0)) ?_; intro a hf
    refine s_e 2 rfl (by kernel_rfl) (by kernel_rfl) hf rfl (ev_load1 hf rfl t1_3 (hBb.at 0)) ?_; intro a hf
    refine s_e0 3 rfl (by kernel_rfl) hf rfl (fun _ => ev_move hf rfl) ?_; intro a hf
    refine s_e0 4 rfl (by kernel_rfl) hf rfl (fun _ => ev_fieldB hf rfl fd_107_1 (m := 1) rfl) ?_; intro a hf
    refine s_e 5 rfl (by kernel_rfl) (by kernel_rfl) hf rfl (ev_load1 hf rfl t1_3 (hBa.at 1)) ?_; intro a hf
    refine s_e 7 rfl (by kernel_rfl) (by kernel_rfl) hf rfl (ev_load1 hf rfl t1_3 (hBb.at 0)) ?_; intro a hf
    refine s_e0 8 rfl (by kernel_rfl) hf rfl (fun _ => ev_move hf rfl) ?_; intro a hf
    refine s_e0 9 rfl (by kernel_rfl) hf rfl (fun _ => ev_fieldB hf rfl fd_107_1 (m := 1) rfl) ?_; intro a hf
    refine s_e 10 rfl (by kernel_rfl) (by kernel_rfl) hf rfl (ev_load1 hf rfl t1_3 (hBa.at 1)) ?_; intro a hf
    refine s_one 6 (by kernel_rfl) ?_
    refine p_eff rfl hf trivial rfl rfl (Ef.mono (ef_call (vs := [.int .i64 n, .int .i64 i, .int .i64 g.a]) hf rfl ff_219 (F219 _ n i g.a (by omega) (by omega) (by omega))) (fun _ _ h => ⟨fun _ => by rw [← h.2]; exact Below.refl _ _, h⟩)) ?_; rintro a _ _ ⟨rfl, rfl⟩ hf
    refine s_one 11 (by kernel_rfl) ?_
    refine p_eff rfl hf trivial rfl rfl (Ef.mono (ef_call (vs := [.int .i64 n, .int .i64 j, .int .i64 g.a]) hf rfl ff_219 (F219 _ n j g.a (by omega) (by omega) (by omega))) (fun _ _ h => ⟨fun _ => by rw [← h.2]; exact Below.refl _ _, h⟩)) ?_; rintro a _ _ ⟨rfl, rfl⟩ hf
    refine s_one 12 (by kernel_rfl) ?_
    refine p_eff rfl hf trivial rfl rfl (Ef.mono (ef_call (vs := [.int .i64 g.k, .int .i64 (bitF n i g.a), .int .i64 (bitF n j g.a)]) hf rfl ff_221 (F221 _ g.k (bitF n i g.a) (bitF n j g.a) (by omega) hb01)) (fun _ _ h => ⟨fun _ => by obtain ⟨rfl, hE⟩ := h; exact hE, h⟩)) ?_; rintro a _ w15 ⟨rfl, hE⟩ hf
    replace hBa := hBa.below hE
    replace hBb := hBb.below hE
    replace hB2 := hB2.below hE
    replace hW := btr hW hE
    clear hE
    refine s_one 13 (by kernel_rfl) ?_
    refine p_eff0 rfl hf trivial rfl (Ef.mono (ef_store (vs := [.int .i64 ((entryI g.k (bitF n i g.a) (bitF n j g.a)).num.a), .int .i64 ((entryI g.k (bitF n i g.a) (bitF n j g.a)).num.b), .int .i64 ((entryI g.k (bitF n i g.a) (bitF n j g.a)).num.c), .int .i64 ((entryI g.k (bitF n i g.a) (bitF n j g.a)).num.d), .int .i64 ((entryI g.k (bitF n i g.a) (bitF n j g.a)).exp)]) (l' := [.int .i64 ((entryI g.k (bitF n i g.a) (bitF n j g.a)).num.a), .int .i64 ((entryI g.k (bitF n i g.a) (bitF n j g.a)).num.b), .int .i64 ((entryI g.k (bitF n i g.a) (bitF n j g.a)).num.c), .int .i64 ((entryI g.k (bitF n i g.a) (bitF n j g.a)).num.d), .int .i64 ((entryI g.k (bitF n i g.a) (bitF n j g.a)).exp)]) hf rfl rfl sz_189 hB2 rfl rfl rfl rfl rfl) (fun _ _ h => ⟨fun h0 => absurd h0 (by decide), h⟩)) ?_; rintro a _ w16 ⟨ho, hb⟩ hf
    have hold := hB2
    replace hBa := hBa.only ho (Blk.ne hBa hold rfl)
    replace hBb := hBb.only ho (Blk.ne hBb hold rfl)
    replace hW := Below.only hW ho hlo2
    clear hold
    have hB2 := hb
    clear hb ho
    refine s_e0 14 rfl (by kernel_rfl) hf rfl (fun _ => ev_assign hf rfl) ?_; intro a hf
    refine s_done (by kernel_rfl) ?_
    refine hK21 _ _ ?_; try clear hK21 K21
    refine wp_ret ?_
    refine x_retB ?_
    refine x_retS ?_
    refine c_ret hf (res2 hf rfl (ResV.cellN (l := [.int .i64 ((entryI g.k (bitF n i g.a) (bitF n j g.a)).num.a), .int .i64 ((entryI g.k (bitF n i g.a) (bitF n j g.a)).num.b), .int .i64 ((entryI g.k (bitF n i g.a) (bitF n j g.a)).num.c), .int .i64 ((entryI g.k (bitF n i g.a) (bitF n j g.a)).num.d), .int .i64 ((entryI g.k (bitF n i g.a) (bitF n j g.a)).exp)]) rfl tN_189 (hB2.at 0) rfl) rfl) ?_
    exact ⟨(by rw [hfin]; try rfl), hW⟩
   ·have hc20b := hc20
    have hfin : cellI n g i j = dZ := by rw [cellI, if_neg hk, if_neg hk2, if_neg (by simpa using hc20)]
    refine wp_skip ?_
    refine x_norm ?_
    refine hK3 _ _ ?_; try clear hK3 K3
    refine wp_seq_k ?_; intro K22 hK22
    refine wp_region_lit ?_
    refine l_e hf rfl (ev_build (ps := []) (cs := [.int .i64 0, .int .i64 0, .int .i64 0, .int .i64 0, .int .i64 0]) hf rfl (fun _ => by first | rfl | kernel_rfl)) ?_; intro a hf
    refine l_f0 hf (ef_store (vs := [.int .i64 0, .int .i64 0, .int .i64 0, .int .i64 0, .int .i64 0]) (l' := [.int .i64 0, .int .i64 0, .int .i64 0, .int .i64 0, .int .i64 0]) hf rfl rfl sz_189 hB2 rfl rfl rfl rfl rfl) ?_; rintro a _ w17 ⟨ho, hb⟩ hf
    have hold := hB2
    replace hBa := hBa.only ho (Blk.ne hBa hold rfl)
    replace hBb := hBb.only ho (Blk.ne hBb hold rfl)
    replace hW := Below.only hW ho hlo2
    clear hold
    have hB2 := hb
    clear hb ho
    refine l_as hf rfl rfl ?_; intro a hf
    refine wpList_nil ?_
    refine hK22 _ _ ?_; try clear hK22 K22
    refine wp_ret ?_
    refine c_ret hf (res2 hf rfl (ResV.cellN (l := [.int .i64 0, .int .i64 0, .int .i64 0, .int .i64 0, .int .i64 0]) rfl tN_189 (hB2.at 0) rfl) rfl) ?_
    exact ⟨(by rw [hfin]; try rfl), hW⟩
end Go.Proofs.YtfgnmflfiobkmaaGreat
set_option maxRecDepth 4000
namespace Go.Proofs.YtfgnmflfiobkmaaGreat
open Go.RowKit
theorem F188 (w0 : World) (n : Int) (g : Gt) : Ret Tryz.prog 188 [.int .i64 n, .agg #[.int .i64 g.k, .int .i64 g.a, .int .i64 g.b]] w0 (fun v w => ∃ A c, v = .tuple #[mV A c ((gateI n g).getD mZ), .bool (gateI n g).isSome] ∧ Own w w0.heap.size 189 5 encD A c ((gateI n g).getD mZ).cells ∧ Below w0.heap.size w0 w) := by
 refine enter Tryz.func188 rfl 19 rfl rfl ?_
 intro a hf
 have hW : Below w0.heap.size w0 w0 := Below.refl _ _
 refine wp_seq_k ?_; intro K1 hK1
 refine wp_region_lit ?_
 refine l_f hf rfl (ef_box (zs := [.int .i64 n]) hf rfl rfl) ?_; rintro a _ w1 ⟨b2, rfl, hl2, hE, hB2⟩ hf
 have hlo2 := Nat.le_trans hW.size hl2
 replace hW := btr hW hE
 clear hE
 refine l_f hf rfl (ef_box (zs := [.int .i64 g.k, .int .i64 g.a, .int .i64 g.b]) hf rfl rfl) ?_; rintro a _ w2 ⟨b3, rfl, hl3, hE, hB3⟩ hf
 have hlo3 := Nat.le_trans hW.size hl3
 replace hB2 := hB2.below hE
 replace hW := btr hW hE
 clear hE
 refine l_f hf rfl (ef_alloc (zs := [.int .i64 0, .int .i64 0, .slice none 0 0]) z_141 rfl) ?_; rintro a _ w3 ⟨b5, rfl, hl5, hE, hB5⟩ hf
 have hlo5 := Nat.le_trans hW.size hl5
 replace hB2 := hB2.below hE
 replace hB3 := hB3.below hE
 replace hW := btr hW hE
 clear hE
 refine l_as hf rfl rfl ?_; intro a hf
 refine wpList_nil ?_
 refine hK1 _ _ ?_; try clear hK1 K1
 refine wp_seq_k ?_; intro K6 hK6
 refine wp_seq_k ?_; intro K7 hK7
 refine wp_region_lit ?_
 refine l_e hf rfl (ev_load1 hf rfl t1_3 (hB2.at 0)) ?_; intro a hf
 refine l_e hf rfl (ev_loadN (l := [.int .i64 g.k, .int .i64 g.a, .int .i64 g.b]) hf rfl tN_107 (hB3.at 0) rfl) ?_; intro a hf
 refine l_f hf rfl (ef_call (vs := [.int .i64 n, .agg #[.int .i64 g.k, .int .i64 g.a, .int .i64 g.b]]) hf rfl ff_106 (F106 _ n g)) ?_; rintro a _ w4 ⟨rfl, hE⟩ hf
 replace hB2 := hB2.below hE
 replace hB3 := hB3.below hE
 replace hB5 := hB5.below hE
 replace hW := btr hW hE
 clear hE
 refine l_e hf rfl (ev_not hf rfl) ?_; intro a hf
 refine wpList_nil ?_
 refine hK7 _ _ ?_; try clear hK7 K7
 refine c_if hf rfl (fun hc8 => ?_) (fun hc8 => ?_)
 ·have hc8b := hc8
  have hn : ¬ gOk n g = true := by revert hc8; cases gOk n g <;> simp
  refine wp_seq_k ?_; intro K9 hK9
  refine wp_region_lit ?_
  refine l_e hf rfl (ev_build (ps := []) (cs := [.int .i64 0, .int .i64 0, .slice none 0 0]) hf rfl (fun _ => by first | rfl | kernel_rfl)) ?_; intro a hf
  refine l_f0 hf (ef_store (vs := [.int .i64 0, .int .i64 0, .slice none 0 0]) (l' := [.int .i64 0, .int .i64 0, .slice none 0 0]) hf rfl rfl sz_141 hB5 rfl rfl rfl rfl rfl) ?_; rintro a _ w5 ⟨ho, hb⟩ hf
  have hold := hB5
  replace hB2 := hB2.only ho (Blk.ne hB2 hold rfl)
  replace hB3 := hB3.only ho (Blk.ne hB3 hold rfl)
  replace hW := Below.only hW ho hlo5
  clear hold
  have hB5 := hb
  clear hb ho
  refine l_as hf rfl rfl ?_; intro a hf
  refine wpList_nil ?_
  refine hK9 _ _ ?_; try clear hK9 K9
  refine wp_ret ?_
  refine x_retS ?_
  refine c_ret hf (res2 hf rfl (ResV.cellN (l := [.int .i64 0, .int .i64 0, .slice none 0 0]) rfl tN_141 (hB5.at 0) rfl) rfl) ?_
  exact ⟨none, 0, by rw [gateI, if_neg hn]; rfl, by rw [gateI, if_neg hn]; exact (Own.nil _ _ _ _ _), hW⟩
 ·have hc8b := hc8
  have hg : gOk n g = true := by revert hc8; cases gOk n g <;> simp
  have hg2 := gOk_spec hg
  obtain ⟨d, hd⟩ : ∃ d : Nat, d = 2 ^ n.toNat := ⟨_, rfl⟩
  refine wp_skip ?_
  refine hK6 _ _ ?_; try clear hK6 K6
  refine wp_seq_k ?_; intro K11 hK11
  refine wp_draw none (fun j => [8].contains j) mixed ?_
  intro w6 hE
  replace hB2 := hB2.below hE
  replace hB3 := hB3.below hE
  replace hB5 := hB5.below hE
  replace hW := btr hW hE
  clear hE
  refine s_e 0 rfl (by kernel_rfl) (by kernel_rfl) hf rfl (ev_load1 hf rfl t1_3 (hB2.at 0)) ?_; intro a hf
  refine s_e0 1 rfl (by kernel_rfl) hf rfl (fun _ => ev_shl1 (m := n.toNat) (D := d) hf rfl rfl (by omega) ⟨hd, by omega⟩) ?_; intro a hf
  refine s_e 2 rfl (by kernel_rfl) (by kernel_rfl) hf rfl (ev_load1 hf rfl t1_3 (hB2.at 0)) ?_; intro a hf
  refine s_e0 3 rfl (by kernel_rfl) hf rfl (fun _ => ev_shl1 (m := n.toNat) (D := d) hf rfl rfl (by omega) ⟨hd, by omega⟩) ?_; intro a hf
  refine s_e0 4 rfl (by kernel_rfl) hf rfl (fun _ => ev_makeFunc (vs := [.pointer (some ⟨b3, 0, none⟩), .pointer (some ⟨b2, 0, none⟩)]) hf rfl) ?_; intro a hf
  refine s_one 5 (by kernel_rfl) ?_
  refine p_eff rfl hf trivial rfl rfl (Ef.mono (ef_call (vs := [.int .i64 (d : Int), .int .i64 (d : Int), .func (.func 217) #[] #[.pointer (some ⟨b3, 0, none⟩), .pointer (some ⟨b2, 0, none⟩)]]) hf rfl ff_185 (F185 _ (d : Int) (d : Int) 217 [.pointer (some ⟨b3, 0, none⟩), .pointer (some ⟨b2, 0, none⟩)] ff_217 (fun i j => some (cellI n g i j)) (fun i j w' hi hj hE' => F217 w' g n _ _ (hB3.below hE') (hB2.below hE') hg i j))) (fun _ _ h => ⟨fun _ => by obtain ⟨A12, c12, rfl, ho12, hE⟩ := h; exact hE, h⟩)) ?_; rintro a _ w7 ⟨A12, c12, rfl, ho12, hE⟩ hf
  replace ho12 := ho12.lower hW.size
  replace hB2 := hB2.below hE
  replace hB3 := hB3.below hE
  replace hB5 := hB5.below hE
  replace hW := btr hW hE
  clear hE
  refine s_e0 6 rfl (by kernel_rfl) hf rfl (fun _ => ev_extract (vs := [.agg #[.int .i64 (((matOf (d : Int) (d : Int) (fun i j => some (cellI n g i j))).getD mZ).rows), .int .i64 (((matOf (d : Int) (d : Int) (fun i j => some (cellI n g i j))).getD mZ).cols), .slice A12 (((matOf (d : Int) (d : Int) (fun i j => some (cellI n g i j))).getD mZ).cells).length c12], .bool ((matOf (d : Int) (d : Int) (fun i j => some (cellI n g i j))).isSome)]) hf rfl rfl) ?_; intro a hf
  refine s_e0 7 rfl (by kernel_rfl) hf rfl (fun _ => ev_extract (vs := [.agg #[.int .i64 (((matOf (d : Int) (d : Int) (fun i j => some (cellI n g i j))).getD mZ).rows), .int .i64 (((matOf (d : Int) (d : Int) (fun i j => some (cellI n g i j))).getD mZ).cols), .slice A12 (((matOf (d : Int) (d : Int) (fun i j => some (cellI n g i j))).getD mZ).cells).length c12], .bool ((matOf (d : Int) (d : Int) (fun i j => some (cellI n g i j))).isSome)]) hf rfl rfl) ?_; intro a hf
  refine s_one 8 (by kernel_rfl) ?_
  refine p_eff0 rfl hf trivial rfl (Ef.mono (ef_store (vs := [.int .i64 (((matOf (d : Int) (d : Int) (fun i j => some (cellI n g i j))).getD mZ).rows), .int .i64 (((matOf (d : Int) (d : Int) (fun i j => some (cellI n g i j))).getD mZ).cols), .slice A12 (((matOf (d : Int) (d : Int) (fun i j => some (cellI n g i j))).getD mZ).cells).length c12]) (l' := [.int .i64 (((matOf (d : Int) (d : Int) (fun i j => some (cellI n g i j))).getD mZ).rows), .int .i64 (((matOf (d : Int) (d : Int) (fun i j => some (cellI n g i j))).getD mZ).cols), .slice A12 (((matOf (d : Int) (d : Int) (fun i j => some (cellI n g i j))).getD mZ).cells).length c12]) hf rfl rfl sz_141 hB5 rfl rfl rfl rfl rfl) (fun _ _ h => ⟨fun h0 => absurd h0 (by decide), h⟩)) ?_; rintro a _ w8 ⟨ho, hb⟩ hf
  have hold := hB5
  replace hB2 := hB2.only ho (Blk.ne hB2 hold rfl)
  replace hB3 := hB3.only ho (Blk.ne hB3 hold rfl)
  replace ho12 := ho12.onlyT ho hold rfl
  replace hW := Below.only hW ho hlo5
  clear hold
  have hB5 := hb
  clear hb ho
  refine s_e0 9 rfl (by kernel_rfl) hf rfl (fun _ => ev_assign hf rfl) ?_; intro a hf
  refine s_done (by kernel_rfl) ?_
  refine hK11 _ _ ?_; try clear hK11 K11
  refine wp_ret ?_
  refine c_ret hf (res2 hf rfl (ResV.cellN (l := [.int .i64 (((matOf (d : Int) (d : Int) (fun i j => some (cellI n g i j))).getD mZ).rows), .int .i64 (((matOf (d : Int) (d : Int) (fun i j => some (cellI n g i j))).getD mZ).cols), .slice A12 (((matOf (d : Int) (d : Int) (fun i j => some (cellI n g i j))).getD mZ).cells).length c12]) rfl tN_141 (hB5.at 0) rfl) rfl) ?_
  have hfin : gateI n g = matOf (d : Int) (d : Int) fun i j => some (cellI n g i j) := by rw [gateI, if_pos hg, hd]
  rw [hfin]
  exact ⟨A12, c12, rfl, ho12, hW⟩
end Go.Proofs.YtfgnmflfiobkmaaGreat
