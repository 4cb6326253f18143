/-
  What is proved: for every number and every replacement, the program's IsJustified returns what the reference's returns, and the arguments read as before. Conditions: none.
-/
import Derived.Test.YtfgnmflfiobkmaaGreatP1
import Derived.Test.YtfgnmflfiobkmaaGreatP2
set_option maxRecDepth 4000
namespace Go.Proofs.YtfgnmflfiobkmaaGreat
open Go.RowKit
theorem F186 (w0 : World) (i : Int) (j : Int) : Ret Tryz.prog 186 [.int .i64 i, .int .i64 j] w0 (fun v w => v = .tuple #[dV (if i = j then (⟨⟨1, 0, 0, 0⟩, 0⟩ : Dy) else dZ), .bool true] ∧ Below w0.heap.size w0 w) := by
 refine enter Tryz.func186 rfl 11 rfl rfl ?_
 intro a hf
 have hW : Below w0.heap.size w0 w0 := Below.refl _ _
 refine wp_seq_k ?_; intro K1 hK1
 refine wp_region_lit ?_
 refine l_eff hf trivial rfl rfl (ef_alloc (zs := [.int .i64 0, .int .i64 0, .int .i64 0, .int .i64 0, .int .i64 0]) z_189 rfl) ?_; rintro a _ w1 ⟨b2, rfl, hl2, hE, hB2⟩ hf
 have hlo2 := Nat.le_trans hW.size hl2
 replace hW := hW.trans (hE.mono hW.size)
 clear hE
 refine l_ev hf trivial rfl rfl (ev_assign hf rfl) ?_; intro a hf
 refine wpList_nil ?_
 refine hK1 _ _ ?_; try clear hK1 K1
 refine wp_seq_k ?_; intro K3 hK3
 refine wp_seq_k ?_; intro K4 hK4
 refine wp_region_lit ?_
 refine l_ev hf trivial rfl rfl (ev_move hf rfl) ?_; intro a hf
 refine l_ev hf trivial rfl rfl (ev_move hf rfl) ?_; intro a hf
 refine l_ev hf trivial rfl rfl (ev_eql hf rfl rfl) ?_; intro a hf
 refine wpList_nil ?_
 refine hK4 _ _ ?_; try clear hK4 K4
 refine c_if hf rfl (fun hc5 => ?_) (fun hc5 => ?_)
 ·have hc5b := hc5
  have hij : i = j := by revert hc5; simp
  refine wp_seq_k ?_; intro K6 hK6
  refine wp_region_lit ?_
  refine l_eff hf trivial rfl rfl (ef_call (vs := [.int .i64 1]) hf rfl ff_187 (F187 _ 1)) ?_; rintro a _ w2 ⟨rfl, hE⟩ hf
  replace hB2 := hB2.below hE
  replace hW := hW.trans (hE.mono hW.size)
  clear hE
  refine l_eff0 hf trivial rfl (ef_store (vs := [.int .i64 ((⟨⟨1, 0, 0, 0⟩, 0⟩ : Dy).num.a), .int .i64 ((⟨⟨1, 0, 0, 0⟩, 0⟩ : Dy).num.b), .int .i64 ((⟨⟨1, 0, 0, 0⟩, 0⟩ : Dy).num.c), .int .i64 ((⟨⟨1, 0, 0, 0⟩, 0⟩ : Dy).num.d), .int .i64 ((⟨⟨1, 0, 0, 0⟩, 0⟩ : Dy).exp)]) (l' := [.int .i64 ((⟨⟨1, 0, 0, 0⟩, 0⟩ : Dy).num.a), .int .i64 ((⟨⟨1, 0, 0, 0⟩, 0⟩ : Dy).num.b), .int .i64 ((⟨⟨1, 0, 0, 0⟩, 0⟩ : Dy).num.c), .int .i64 ((⟨⟨1, 0, 0, 0⟩, 0⟩ : Dy).num.d), .int .i64 ((⟨⟨1, 0, 0, 0⟩, 0⟩ : Dy).exp)]) hf rfl rfl sz_189 hB2 rfl rfl rfl rfl rfl) ?_; rintro a _ w3 ⟨ho, hb⟩ hf
  have hold := hB2
  replace hW := Below.only hW ho hlo2
  clear hold
  have hB2 := hb
  clear hb ho
  refine l_ev hf trivial rfl rfl (ev_assign hf rfl) ?_; intro a hf
  refine wpList_nil ?_
  refine hK6 _ _ ?_; try clear hK6 K6
  refine wp_ret ?_
  refine x_retS ?_
  refine c_ret hf (res2 hf rfl (ResV.cellN (l := [.int .i64 ((⟨⟨1, 0, 0, 0⟩, 0⟩ : Dy).num.a), .int .i64 ((⟨⟨1, 0, 0, 0⟩, 0⟩ : Dy).num.b), .int .i64 ((⟨⟨1, 0, 0, 0⟩, 0⟩ : Dy).num.c), .int .i64 ((⟨⟨1, 0, 0, 0⟩, 0⟩ : Dy).num.d), .int .i64 ((⟨⟨1, 0, 0, 0⟩, 0⟩ : Dy).exp)]) rfl tN_189 (hB2.at 0) rfl) rfl) ?_
  exact ⟨by rw [if_pos hij], hW⟩
 ·have hc5b := hc5
  have hij : ¬ i = j := by revert hc5; simp
  refine wp_skip ?_
  refine hK3 _ _ ?_; try clear hK3 K3
  refine wp_seq_k ?_; intro K7 hK7
  refine wp_region_lit ?_
  refine l_ev hf trivial rfl rfl (ev_build (ps := []) (cs := [.int .i64 0, .int .i64 0, .int .i64 0, .int .i64 0, .int .i64 0]) hf rfl (fun _ => by first | rfl | kernel_rfl)) ?_; intro a hf
  refine l_eff0 hf trivial rfl (ef_store (vs := [.int .i64 0, .int .i64 0, .int .i64 0, .int .i64 0, .int .i64 0]) (l' := [.int .i64 0, .int .i64 0, .int .i64 0, .int .i64 0, .int .i64 0]) hf rfl rfl sz_189 hB2 rfl rfl rfl rfl rfl) ?_; rintro a _ w4 ⟨ho, hb⟩ hf
  have hold := hB2
  replace hW := Below.only hW ho hlo2
  clear hold
  have hB2 := hb
  clear hb ho
  refine l_ev hf trivial rfl rfl (ev_assign hf rfl) ?_; intro a hf
  refine wpList_nil ?_
  refine hK7 _ _ ?_; try clear hK7 K7
  refine wp_ret ?_
  refine c_ret hf (res2 hf rfl (ResV.cellN (l := [.int .i64 0, .int .i64 0, .int .i64 0, .int .i64 0, .int .i64 0]) rfl tN_189 (hB2.at 0) rfl) rfl) ?_
  exact ⟨by rw [if_neg hij]; rfl, hW⟩
theorem F136 (w0 : World) (n : Int) : Ret Tryz.prog 136 [.int .i64 n] w0 (fun v w => ∃ A c, v = .tuple #[mV A c ((idI n).getD mZ), .bool (idI n).isSome] ∧ Own w w0.heap.size 189 5 encD A c ((idI n).getD mZ).cells ∧ Below w0.heap.size w0 w) := by
 refine enter Tryz.func136 rfl 9 rfl rfl ?_
 intro a hf
 have hW : Below w0.heap.size w0 w0 := Below.refl _ _
 refine wp_seq_k ?_; intro K1 hK1
 refine wp_region_lit ?_
 refine l_eff hf trivial rfl rfl (ef_alloc (zs := [.int .i64 0, .int .i64 0, .slice none 0 0]) z_141 rfl) ?_; rintro a _ w1 ⟨b3, rfl, hl3, hE, hB3⟩ hf
 have hlo3 := Nat.le_trans hW.size hl3
 replace hW := hW.trans (hE.mono hW.size)
 clear hE
 refine l_ev hf trivial rfl rfl (ev_assign hf rfl) ?_; intro a hf
 refine wpList_nil ?_
 refine hK1 _ _ ?_; try clear hK1 K1
 refine wp_seq_k ?_; intro K4 hK4
 refine wp_region_lit ?_
 refine l_ev hf trivial rfl rfl (ev_move hf rfl) ?_; intro a hf
 refine l_ev hf trivial rfl rfl (ev_move hf rfl) ?_; intro a hf
 refine l_eff hf trivial rfl rfl (ef_call (vs := [.int .i64 n, .int .i64 n, .func (.func 186) #[] #[]]) hf rfl ff_185 (F185 _ n n 186 [] ff_186 (fun i j => some (if i = j then ⟨⟨1, 0, 0, 0⟩, 0⟩ else dZ)) (fun i j w' hi hj hE' => (F186 w' (i : Int) (j : Int)).mono fun v w'' ⟨h1, h2⟩ => ⟨by rw [h1]; simp only [Int.natCast_inj]; rfl, h2⟩))) ?_; rintro a _ w2 ⟨A5, c5, rfl, ho5, hE⟩ hf
 replace ho5 := ho5.lower hW.size
 replace hB3 := hB3.below hE
 replace hW := hW.trans (hE.mono hW.size)
 clear hE
 refine l_ev hf trivial rfl rfl (ev_extract (vs := [.agg #[.int .i64 (((matOf n n (fun i j => some (if i = j then ⟨⟨1, 0, 0, 0⟩, 0⟩ else dZ))).getD mZ).rows), .int .i64 (((matOf n n (fun i j => some (if i = j then ⟨⟨1, 0, 0, 0⟩, 0⟩ else dZ))).getD mZ).cols), .slice A5 (((matOf n n (fun i j => some (if i = j then ⟨⟨1, 0, 0, 0⟩, 0⟩ else dZ))).getD mZ).cells).length c5], .bool ((matOf n n (fun i j => some (if i = j then ⟨⟨1, 0, 0, 0⟩, 0⟩ else dZ))).isSome)]) hf rfl rfl) ?_; intro a hf
 refine l_ev hf trivial rfl rfl (ev_extract (vs := [.agg #[.int .i64 (((matOf n n (fun i j => some (if i = j then ⟨⟨1, 0, 0, 0⟩, 0⟩ else dZ))).getD mZ).rows), .int .i64 (((matOf n n (fun i j => some (if i = j then ⟨⟨1, 0, 0, 0⟩, 0⟩ else dZ))).getD mZ).cols), .slice A5 (((matOf n n (fun i j => some (if i = j then ⟨⟨1, 0, 0, 0⟩, 0⟩ else dZ))).getD mZ).cells).length c5], .bool ((matOf n n (fun i j => some (if i = j then ⟨⟨1, 0, 0, 0⟩, 0⟩ else dZ))).isSome)]) hf rfl rfl) ?_; intro a hf
 refine l_eff0 hf trivial rfl (ef_store (vs := [.int .i64 (((matOf n n (fun i j => some (if i = j then ⟨⟨1, 0, 0, 0⟩, 0⟩ else dZ))).getD mZ).rows), .int .i64 (((matOf n n (fun i j => some (if i = j then ⟨⟨1, 0, 0, 0⟩, 0⟩ else dZ))).getD mZ).cols), .slice A5 (((matOf n n (fun i j => some (if i = j then ⟨⟨1, 0, 0, 0⟩, 0⟩ else dZ))).getD mZ).cells).length c5]) (l' := [.int .i64 (((matOf n n (fun i j => some (if i = j then ⟨⟨1, 0, 0, 0⟩, 0⟩ else dZ))).getD mZ).rows), .int .i64 (((matOf n n (fun i j => some (if i = j then ⟨⟨1, 0, 0, 0⟩, 0⟩ else dZ))).getD mZ).cols), .slice A5 (((matOf n n (fun i j => some (if i = j then ⟨⟨1, 0, 0, 0⟩, 0⟩ else dZ))).getD mZ).cells).length c5]) hf rfl rfl sz_141 hB3 rfl rfl rfl rfl rfl) ?_; rintro a _ w3 ⟨ho, hb⟩ hf
 have hold := hB3
 replace ho5 := ho5.onlyT ho hold rfl
 replace hW := Below.only hW ho hlo3
 clear hold
 have hB3 := hb
 clear hb ho
 refine l_ev hf trivial rfl rfl (ev_assign hf rfl) ?_; intro a hf
 refine wpList_nil ?_
 refine hK4 _ _ ?_; try clear hK4 K4
 refine wp_ret ?_
 refine c_ret hf (res2 hf rfl (ResV.cellN (l := [.int .i64 (((matOf n n (fun i j => some (if i = j then ⟨⟨1, 0, 0, 0⟩, 0⟩ else dZ))).getD mZ).rows), .int .i64 (((matOf n n (fun i j => some (if i = j then ⟨⟨1, 0, 0, 0⟩, 0⟩ else dZ))).getD mZ).cols), .slice A5 (((matOf n n (fun i j => some (if i = j then ⟨⟨1, 0, 0, 0⟩, 0⟩ else dZ))).getD mZ).cells).length c5]) rfl tN_141 (hB3.at 0) rfl) rfl) ?_
 exact ⟨A5, c5, rfl, ho5, hW⟩
theorem F222 (w0 : World) (p q : Mx) (Aa Ab : Option Addr) (ca cb : Nat) (ba bb : Nat) (hra : Rd w0 w0.heap.size 189 encD Aa p.cells) (hrb : Rd w0 w0.heap.size 189 encD Ab q.cells) (hBa : Blk w0 ba 141 [.int .i64 p.rows, .int .i64 p.cols, .slice Aa p.cells.length ca]) (hBb : Blk w0 bb 141 [.int .i64 q.rows, .int .i64 q.cols, .slice Ab q.cells.length cb]) (hao : mOk p = true) (hbo : mOk q = true) (hab : p.cols = q.rows) (i j : Nat) (hi : (i : Int) < p.rows) (hj : (j : Int) < q.cols) : Ret Tryz.prog 222 [.int .i64 (i : Int), .int .i64 (j : Int), .pointer (some ⟨ba, 0, none⟩), .pointer (some ⟨bb, 0, none⟩)] w0 (fun v w => v = .tuple #[dV ((dotI p q i j p.cols.toNat).getD dZ), .bool (dotI p q i j p.cols.toNat).isSome] ∧ Below w0.heap.size w0 w) := by
 have hal := mOk_len hao
 have hltba := hBa.lt
 have hltbb := hBb.lt
 have hcc : p.cols = (p.cols.toNat : Int) := by omega
 refine enter Tryz.func222 rfl 48 rfl rfl ?_
 intro a hf
 have hW : Below w0.heap.size w0 w0 := Below.refl _ _
 refine wp_seq_k ?_; intro K3 hK3
 refine wp_region_lit ?_
 refine l_eff hf trivial rfl rfl (ef_alloc (zs := [.int .i64 0, .int .i64 0, .int .i64 0, .int .i64 0, .int .i64 0]) z_189 rfl) ?_; rintro a _ w1 ⟨b4, rfl, hl4, hE, hB4⟩ hf
 have hlo4 := Nat.le_trans hW.size hl4
 have haw1_4 := hra.away hl4
 have haw2_4 := hrb.away hl4
 replace hBa := hBa.below hE
 replace hBb := hBb.below hE
 replace hra := hra.below hE
 replace hrb := hrb.below hE
 replace hW := hW.trans (hE.mono hW.size)
 clear hE
 refine l_ev hf trivial rfl rfl (ev_assign hf rfl) ?_; intro a hf
 refine wpList_nil ?_
 refine hK3 _ _ ?_; try clear hK3 K3
 refine wp_seq_k ?_; intro K5 hK5
 refine wp_region_lit ?_
 refine l_ev hf trivial rfl rfl (ev_build (ps := []) (cs := [.int .i64 0, .int .i64 0, .int .i64 0, .int .i64 0, .int .i64 0]) hf rfl (fun _ => by first | rfl | kernel_rfl)) ?_; intro a hf
 refine l_eff hf trivial rfl rfl (ef_alloc (zs := [.int .i64 0, .int .i64 0, .int .i64 0, .int .i64 0, .int .i64 0]) z_189 rfl) ?_; rintro a _ w2 ⟨b6, rfl, hl6, hE, hB6⟩ hf
 have hne4_6 : b4 ≠ b6 := by have := hB4.lt; omega
 have hlo6 := Nat.le_trans hW.size hl6
 have haw1_6 := hra.away hl6
 have haw2_6 := hrb.away hl6
 replace hBa := hBa.below hE
 replace hBb := hBb.below hE
 replace hB4 := hB4.below hE
 replace hra := hra.below hE
 replace hrb := hrb.below hE
 replace hW := hW.trans (hE.mono hW.size)
 clear hE
 refine l_eff0 hf trivial rfl (ef_store (vs := [.int .i64 0, .int .i64 0, .int .i64 0, .int .i64 0, .int .i64 0]) (l' := [.int .i64 0, .int .i64 0, .int .i64 0, .int .i64 0, .int .i64 0]) hf rfl rfl sz_189 hB6 rfl rfl rfl rfl rfl) ?_; rintro a _ w3 ⟨ho, hb⟩ hf
 have hold := hB6
 replace hBa := hBa.only ho (Blk.ne hBa hold rfl)
 replace hBb := hBb.only ho (Blk.ne hBb hold rfl)
 replace hB4 := hB4.only ho (by omega)
 replace hra := hra.only ho hlo6
 replace hrb := hrb.only ho hlo6
 replace hW := Below.only hW ho hlo6
 clear hold
 have hB6 := hb
 clear hb ho
 refine wpList_nil ?_
 refine hK5 _ _ ?_; try clear hK5 K5
 refine wp_seq_k ?_; intro K7 hK7
 refine wp_seq_k ?_; intro K8 hK8
 refine wp_region_lit ?_
 refine l_ev hf trivial rfl rfl (ev_fieldB hf rfl fd_141_1 (m := 1) rfl) ?_; intro a hf
 refine l_ev hf trivial rfl rfl (ev_load1 hf rfl t1_3 (hBa.at 1)) ?_; intro a hf
 refine l_ev hf trivial rfl rfl (ev_move hf rfl) ?_; intro a hf
 refine wpList_nil ?_
 refine hK8 _ _ ?_; try clear hK8 K8
 refine wp_block ?_
 refine c_loop (σ := Nat × Dy) (fun (s : Nat × Dy) (a : Act) (w : World) => match s with | (k, sum) => Fr a 48 [(0, .int .i64 (i : Int)), (1, .int .i64 (j : Int)), (2, .pointer (some ⟨ba, 0, none⟩)), (3, .pointer (some ⟨bb, 0, none⟩)), (6, .pointer (some ⟨b4, 0, none⟩)), (8, .pointer (some ⟨b6, 0, none⟩)), (16, .int .i64 p.cols), (17, .int .i64 (k : Int))] ∧ ((k : Int) ≤ p.cols) ∧ (dotI p q i j k = some sum) ∧ Blk w ba 141 [.int .i64 p.rows, .int .i64 p.cols, .slice Aa p.cells.length ca] ∧ Blk w bb 141 [.int .i64 q.rows, .int .i64 q.cols, .slice Ab q.cells.length cb] ∧ Blk w b4 189 [.int .i64 0, .int .i64 0, .int .i64 0, .int .i64 0, .int .i64 0] ∧ Blk w b6 189 [.int .i64 sum.num.a, .int .i64 sum.num.b, .int .i64 sum.num.c, .int .i64 sum.num.d, .int .i64 sum.exp] ∧ Rd w w0.heap.size 189 encD Aa p.cells ∧ Rd w w0.heap.size 189 encD Ab q.cells ∧ Below w0.heap.size w0 w) (fun (s : Nat × Dy) => match s with | (k, sum) => (p.cols - k).toNat) (0, dZ) ?_ ?_
 · exact ⟨hf.sub ⟨rfl, rfl, rfl, rfl, rfl, rfl, rfl, rfl, trivial⟩, (by omega), rfl, hBa, hBb, hB4, hB6, hra, hrb, hW⟩
 rintro ⟨k, sum⟩ a w4 ⟨hf, hk, hs, hBa, hBb, hB4, hB6, hra, hrb, hW⟩
 refine wp_seq_k ?_; intro K9 hK9
 refine wp_region_lit ?_
 refine l_ev hf trivial rfl rfl (ev_lss hf rfl rfl) ?_; intro a hf
 refine wpList_nil ?_
 refine hK9 _ _ ?_; try clear hK9 K9
 refine wp_seq_k ?_; intro K10 hK10
 refine c_if hf rfl (fun hc11 => ?_) (fun hc11 => ?_)
 ·have hc11b := hc11
  have hc11 := of_decide_eq_true hc11
  have hk1 : (k : Int) < p.cols := hc11
  refine wp_skip ?_
  refine hK10 _ _ ?_; try clear hK10 K10
  refine wp_seq_k ?_; intro K12 hK12
  refine wp_block ?_
  refine wp_seq_k ?_; intro K13 hK13
  refine wp_region_lit ?_
  refine l_ev hf trivial rfl rfl (ev_move hf rfl) ?_; intro a hf
  refine l_ev hf trivial rfl rfl (ev_assign hf rfl) ?_; intro a hf
  refine wpList_nil ?_
  refine hK13 _ _ ?_; try clear hK13 K13
  refine wp_seq_k ?_; intro K14 hK14
  refine c_cut (fun a w => ∃ b15, Fr a 48 [(0, .int .i64 (i : Int)), (1, .int .i64 (j : Int)), (2, .pointer (some ⟨ba, 0, none⟩)), (3, .pointer (some ⟨bb, 0, none⟩)), (6, .pointer (some ⟨b4, 0, none⟩)), (8, .pointer (some ⟨b6, 0, none⟩)), (10, .pointer (some ⟨b15, 0, none⟩)), (11, .bool ((dMulI (p.at i k) (q.at k j)).isSome)), (16, .int .i64 p.cols), (17, .int .i64 (k : Int))] ∧ w0.heap.size ≤ b15 ∧ Blk w b15 189 [.int .i64 (((dMulI (p.at i k) (q.at k j)).getD dZ).num.a), .int .i64 (((dMulI (p.at i k) (q.at k j)).getD dZ).num.b), .int .i64 (((dMulI (p.at i k) (q.at k j)).getD dZ).num.c), .int .i64 (((dMulI (p.at i k) (q.at k j)).getD dZ).num.d), .int .i64 (((dMulI (p.at i k) (q.at k j)).getD dZ).exp)] ∧ b4 ≠ b15 ∧ b6 ≠ b15 ∧ Below w4.heap.size w4 w) ?_ ?_
  ·have hEc : Below w4.heap.size w4 w4 := Below.refl _ _
   refine wp_draw none (fun j => [13].contains j) mixed ?_
   intro w5 hE
   replace hBa := hBa.below hE
   replace hBb := hBb.below hE
   replace hB4 := hB4.below hE
   replace hB6 := hB6.below hE
   replace hra := hra.below hE
   replace hrb := hrb.below hE
   replace hW := hW.trans (hE.mono hW.size)
   replace hEc := hEc.trans (hE.mono hEc.size)
   clear hE
   refine s_ev 0 rfl (by kernel_rfl) (by kernel_rfl) hf trivial rfl rfl (ev_loadN (l := [.int .i64 p.rows, .int .i64 p.cols, .slice Aa p.cells.length ca]) hf rfl tN_141 (hBa.at 0) rfl) ?_; intro a hf
   refine s_ev0 1 rfl (by kernel_rfl) hf trivial rfl rfl (fun _ => ev_move hf rfl) ?_; intro a hf
   refine s_ev0 2 rfl (by kernel_rfl) hf trivial rfl rfl (fun _ => ev_move hf rfl) ?_; intro a hf
   refine s_ev 4 rfl (by kernel_rfl) (by kernel_rfl) hf trivial rfl rfl (ev_loadN (l := [.int .i64 q.rows, .int .i64 q.cols, .slice Ab q.cells.length cb]) hf rfl tN_141 (hBb.at 0) rfl) ?_; intro a hf
   refine s_ev0 5 rfl (by kernel_rfl) hf trivial rfl rfl (fun _ => ev_move hf rfl) ?_; intro a hf
   refine s_ev0 6 rfl (by kernel_rfl) hf trivial rfl rfl (fun _ => ev_move hf rfl) ?_; intro a hf
   refine s_two 3 12 (by kernel_rfl) ?_ ?_
   ·refine p_eff rfl hf trivial rfl rfl (Ef.mono (ef_call (vs := [.agg #[.int .i64 p.rows, .int .i64 p.cols, .slice Aa p.cells.length ca], .int .i64 (i : Int), .int .i64 (k : Int)]) hf rfl ff_196 (F196 _ p Aa ca hra.top i k hao hi (by omega))) (fun _ _ h => ⟨fun _ => by obtain ⟨rfl, hE⟩ := h; exact hE, h⟩)) ?_; rintro a _ w6 ⟨rfl, hE⟩ hf
    replace hBa := hBa.below hE
    replace hBb := hBb.below hE
    replace hB4 := hB4.below hE
    replace hB6 := hB6.below hE
    replace hra := hra.below hE
    replace hrb := hrb.below hE
    replace hW := hW.trans (hE.mono hW.size)
    replace hEc := hEc.trans (hE.mono hEc.size)
    clear hE
    refine s_two 7 12 (by kernel_rfl) ?_ ?_
    ·refine p_eff rfl hf trivial rfl rfl (Ef.mono (ef_call (vs := [.agg #[.int .i64 q.rows, .int .i64 q.cols, .slice Ab q.cells.length cb], .int .i64 (k : Int), .int .i64 (j : Int)]) hf rfl ff_196 (F196 _ q Ab cb hrb.top k j hbo (by omega) hj)) (fun _ _ h => ⟨fun _ => by obtain ⟨rfl, hE⟩ := h; exact hE, h⟩)) ?_; rintro a _ w7 ⟨rfl, hE⟩ hf
     replace hBa := hBa.below hE
     replace hBb := hBb.below hE
     replace hB4 := hB4.below hE
     replace hB6 := hB6.below hE
     replace hra := hra.below hE
     replace hrb := hrb.below hE
     replace hW := hW.trans (hE.mono hW.size)
     replace hEc := hEc.trans (hE.mono hEc.size)
     clear hE
     refine s_two 8 12 (by kernel_rfl) ?_ ?_
     ·refine p_eff rfl hf trivial rfl rfl (Ef.mono (ef_call (vs := [.agg #[.int .i64 ((p.at i k).num.a), .int .i64 ((p.at i k).num.b), .int .i64 ((p.at i k).num.c), .int .i64 ((p.at i k).num.d), .int .i64 ((p.at i k).exp)], .agg #[.int .i64 ((q.at k j).num.a), .int .i64 ((q.at k j).num.b), .int .i64 ((q.at k j).num.c), .int .i64 ((q.at k j).num.d), .int .i64 ((q.at k j).exp)]]) hf rfl ff_195 (F195 _ (p.at i k) (q.at k j))) (fun _ _ h => ⟨fun _ => by obtain ⟨rfl, hE⟩ := h; exact hE, h⟩)) ?_; rintro a _ w8 ⟨rfl, hE⟩ hf
      replace hBa := hBa.below hE
      replace hBb := hBb.below hE
      replace hB4 := hB4.below hE
      replace hB6 := hB6.below hE
      replace hra := hra.below hE
      replace hrb := hrb.below hE
      replace hW := hW.trans (hE.mono hW.size)
      replace hEc := hEc.trans (hE.mono hEc.size)
      clear hE
      refine s_ev0 9 rfl (by kernel_rfl) hf trivial rfl rfl (fun _ => ev_move hf rfl) ?_; intro a hf
      refine s_ev0 10 rfl (by kernel_rfl) hf trivial rfl rfl (fun _ => ev_extract (vs := [.agg #[.int .i64 (((dMulI (p.at i k) (q.at k j)).getD dZ).num.a), .int .i64 (((dMulI (p.at i k) (q.at k j)).getD dZ).num.b), .int .i64 (((dMulI (p.at i k) (q.at k j)).getD dZ).num.c), .int .i64 (((dMulI (p.at i k) (q.at k j)).getD dZ).num.d), .int .i64 (((dMulI (p.at i k) (q.at k j)).getD dZ).exp)], .bool ((dMulI (p.at i k) (q.at k j)).isSome)]) hf rfl rfl) ?_; intro a hf
      refine s_ev0 11 rfl (by kernel_rfl) hf trivial rfl rfl (fun _ => ev_extract (vs := [.agg #[.int .i64 (((dMulI (p.at i k) (q.at k j)).getD dZ).num.a), .int .i64 (((dMulI (p.at i k) (q.at k j)).getD dZ).num.b), .int .i64 (((dMulI (p.at i k) (q.at k j)).getD dZ).num.c), .int .i64 (((dMulI (p.at i k) (q.at k j)).getD dZ).num.d), .int .i64 (((dMulI (p.at i k) (q.at k j)).getD dZ).exp)], .bool ((dMulI (p.at i k) (q.at k j)).isSome)]) hf rfl rfl) ?_; intro a hf
      refine s_one 12 (by kernel_rfl) ?_
      refine p_eff rfl hf trivial rfl rfl (Ef.mono (ef_alloc (zs := [.int .i64 0, .int .i64 0, .int .i64 0, .int .i64 0, .int .i64 0]) z_189 rfl) (fun _ _ h => ⟨fun _ => h.bel, h⟩)) ?_; rintro a _ w9 ⟨b15, rfl, hl15, hE, hB15⟩ hf
      have hne4_15 : b4 ≠ b15 := by have := hB4.lt; omega
      have hne6_15 : b6 ≠ b15 := by have := hB6.lt; omega
      have hlo15 := Nat.le_trans hW.size hl15
      have hlc15 := Nat.le_trans hEc.size hl15
      have haw1_15 := hra.away hl15
      have haw2_15 := hrb.away hl15
      replace hBa := hBa.below hE
      replace hBb := hBb.below hE
      replace hB4 := hB4.below hE
      replace hB6 := hB6.below hE
      replace hra := hra.below hE
      replace hrb := hrb.below hE
      replace hW := hW.trans (hE.mono hW.size)
      replace hEc := hEc.trans (hE.mono hEc.size)
      clear hE
      refine s_one 13 (by kernel_rfl) ?_
      refine p_eff0 rfl hf trivial rfl (Ef.mono (ef_store (vs := [.int .i64 (((dMulI (p.at i k) (q.at k j)).getD dZ).num.a), .int .i64 (((dMulI (p.at i k) (q.at k j)).getD dZ).num.b), .int .i64 (((dMulI (p.at i k) (q.at k j)).getD dZ).num.c), .int .i64 (((dMulI (p.at i k) (q.at k j)).getD dZ).num.d), .int .i64 (((dMulI (p.at i k) (q.at k j)).getD dZ).exp)]) (l' := [.int .i64 (((dMulI (p.at i k) (q.at k j)).getD dZ).num.a), .int .i64 (((dMulI (p.at i k) (q.at k j)).getD dZ).num.b), .int .i64 (((dMulI (p.at i k) (q.at k j)).getD dZ).num.c), .int .i64 (((dMulI (p.at i k) (q.at k j)).getD dZ).num.d), .int .i64 (((dMulI (p.at i k) (q.at k j)).getD dZ).exp)]) hf rfl rfl sz_189 hB15 rfl rfl rfl rfl rfl) (fun _ _ h => ⟨fun h0 => absurd h0 (by decide), h⟩)) ?_; rintro a _ w10 ⟨ho, hb⟩ hf
      have hold := hB15
      replace hBa := hBa.only ho (Blk.ne hBa hold rfl)
      replace hBb := hBb.only ho (Blk.ne hBb hold rfl)
      replace hB4 := hB4.only ho (by omega)
      replace hB6 := hB6.only ho (by omega)
      replace hra := hra.only ho hlo15
      replace hrb := hrb.only ho hlo15
      replace hEc := Below.only hEc ho hlc15
      replace hW := Below.only hW ho hlo15
      clear hold
      have hB15 := hb
      clear hb ho
      refine s_ev0 14 rfl (by kernel_rfl) hf trivial rfl rfl (fun _ => ev_assign hf rfl) ?_; intro a hf
      refine s_done (by kernel_rfl) ?_
      have hEE : Below w4.heap.size w4 w10 := hEc
      exact ⟨b15, hf.sub ⟨rfl, rfl, rfl, rfl, rfl, rfl, rfl, rfl, rfl, rfl, trivial⟩, hlo15, hB15, hne4_15, hne6_15, hEE⟩
     ·refine p_eff rfl hf trivial rfl rfl (Ef.mono (ef_alloc (zs := [.int .i64 0, .int .i64 0, .int .i64 0, .int .i64 0, .int .i64 0]) z_189 rfl) (fun _ _ h => ⟨fun _ => h.bel, h⟩)) ?_; rintro a _ w11 ⟨b16, rfl, hl16, hE, hB16⟩ hf
      have hne4_16 : b4 ≠ b16 := by have := hB4.lt; omega
      have hne6_16 : b6 ≠ b16 := by have := hB6.lt; omega
      have hlo16 := Nat.le_trans hW.size hl16
      have hlc16 := Nat.le_trans hEc.size hl16
      have haw1_16 := hra.away hl16
      have haw2_16 := hrb.away hl16
      replace hBa := hBa.below hE
      replace hBb := hBb.below hE
      replace hB4 := hB4.below hE
      replace hB6 := hB6.below hE
      replace hra := hra.below hE
      replace hrb := hrb.below hE
      replace hW := hW.trans (hE.mono hW.size)
      replace hEc := hEc.trans (hE.mono hEc.size)
      clear hE
      refine s_one 8 (by kernel_rfl) ?_
      refine p_eff rfl hf trivial rfl rfl (Ef.mono (ef_call (vs := [.agg #[.int .i64 ((p.at i k).num.a), .int .i64 ((p.at i k).num.b), .int .i64 ((p.at i k).num.c), .int .i64 ((p.at i k).num.d), .int .i64 ((p.at i k).exp)], .agg #[.int .i64 ((q.at k j).num.a), .int .i64 ((q.at k j).num.b), .int .i64 ((q.at k j).num.c), .int .i64 ((q.at k j).num.d), .int .i64 ((q.at k j).exp)]]) hf rfl ff_195 (F195 _ (p.at i k) (q.at k j))) (fun _ _ h => ⟨fun _ => by obtain ⟨rfl, hE⟩ := h; exact hE, h⟩)) ?_; rintro a _ w12 ⟨rfl, hE⟩ hf
      replace hBa := hBa.below hE
      replace hBb := hBb.below hE
      replace hB4 := hB4.below hE
      replace hB6 := hB6.below hE
      replace hB16 := hB16.below hE
      replace hra := hra.below hE
      replace hrb := hrb.below hE
      replace hW := hW.trans (hE.mono hW.size)
      replace hEc := hEc.trans (hE.mono hEc.size)
      clear hE
      refine s_ev0 9 rfl (by kernel_rfl) hf trivial rfl rfl (fun _ => ev_move hf rfl) ?_; intro a hf
      refine s_ev0 10 rfl (by kernel_rfl) hf trivial rfl rfl (fun _ => ev_extract (vs := [.agg #[.int .i64 (((dMulI (p.at i k) (q.at k j)).getD dZ).num.a), .int .i64 (((dMulI (p.at i k) (q.at k j)).getD dZ).num.b), .int .i64 (((dMulI (p.at i k) (q.at k j)).getD dZ).num.c), .int .i64 (((dMulI (p.at i k) (q.at k j)).getD dZ).num.d), .int .i64 (((dMulI (p.at i k) (q.at k j)).getD dZ).exp)], .bool ((dMulI (p.at i k) (q.at k j)).isSome)]) hf rfl rfl) ?_; intro a hf
      refine s_ev0 11 rfl (by kernel_rfl) hf trivial rfl rfl (fun _ => ev_extract (vs := [.agg #[.int .i64 (((dMulI (p.at i k) (q.at k j)).getD dZ).num.a), .int .i64 (((dMulI (p.at i k) (q.at k j)).getD dZ).num.b), .int .i64 (((dMulI (p.at i k) (q.at k j)).getD dZ).num.c), .int .i64 (((dMulI (p.at i k) (q.at k j)).getD dZ).num.d), .int .i64 (((dMulI (p.at i k) (q.at k j)).getD dZ).exp)], .bool ((dMulI (p.at i k) (q.at k j)).isSome)]) hf rfl rfl) ?_; intro a hf
      refine s_one 13 (by kernel_rfl) ?_
      refine p_eff0 rfl hf trivial rfl (Ef.mono (ef_store (vs := [.int .i64 (((dMulI (p.at i k) (q.at k j)).getD dZ).num.a), .int .i64 (((dMulI (p.at i k) (q.at k j)).getD dZ).num.b), .int .i64 (((dMulI (p.at i k) (q.at k j)).getD dZ).num.c), .int .i64 (((dMulI (p.at i k) (q.at k j)).getD dZ).num.d), .int .i64 (((dMulI (p.at i k) (q.at k j)).getD dZ).exp)]) (l' := [.int .i64 (((dMulI (p.at i k) (q.at k j)).getD dZ).num.a), .int .i64 (((dMulI (p.at i k) (q.at k j)).getD dZ).num.b), .int .i64 (((dMulI (p.at i k) (q.at k j)).getD dZ).num.c), .int .i64 (((dMulI (p.at i k) (q.at k j)).getD dZ).num.d), .int .i64 (((dMulI (p.at i k) (q.at k j)).getD dZ).exp)]) hf rfl rfl sz_189 hB16 rfl rfl rfl rfl rfl) (fun _ _ h => ⟨fun h0 => absurd h0 (by decide), h⟩)) ?_; rintro a _ w13 ⟨ho, hb⟩ hf
      have hold := hB16
      replace hBa := hBa.only ho (Blk.ne hBa hold rfl)
      replace hBb := hBb.only ho (Blk.ne hBb hold rfl)
      replace hB4 := hB4.only ho (by omega)
      replace hB6 := hB6.only ho (by omega)
      replace hra := hra.only ho hlo16
      replace hrb := hrb.only ho hlo16
      replace hEc := Below.only hEc ho hlc16
      replace hW := Below.only hW ho hlo16
      clear hold
      have hB16 := hb
      clear hb ho
      refine s_ev0 14 rfl (by kernel_rfl) hf trivial rfl rfl (fun _ => ev_assign hf rfl) ?_; intro a hf
      refine s_done (by kernel_rfl) ?_
      have hEE : Below w4.heap.size w4 w13 := hEc
      exact ⟨b16, hf.sub ⟨rfl, rfl, rfl, rfl, rfl, rfl, (by first | rfl | (simp [look, hc11b])), rfl, rfl, rfl, trivial⟩, hlo16, hB16, hne4_16, hne6_16, hEE⟩
    ·refine p_eff rfl hf trivial rfl rfl (Ef.mono (ef_alloc (zs := [.int .i64 0, .int .i64 0, .int .i64 0, .int .i64 0, .int .i64 0]) z_189 rfl) (fun _ _ h => ⟨fun _ => h.bel, h⟩)) ?_; rintro a _ w14 ⟨b17, rfl, hl17, hE, hB17⟩ hf
     have hne4_17 : b4 ≠ b17 := by have := hB4.lt; omega
     have hne6_17 : b6 ≠ b17 := by have := hB6.lt; omega
     have hlo17 := Nat.le_trans hW.size hl17
     have hlc17 := Nat.le_trans hEc.size hl17
     have haw1_17 := hra.away hl17
     have haw2_17 := hrb.away hl17
     replace hBa := hBa.below hE
     replace hBb := hBb.below hE
     replace hB4 := hB4.below hE
     replace hB6 := hB6.below hE
     replace hra := hra.below hE
     replace hrb := hrb.below hE
     replace hW := hW.trans (hE.mono hW.size)
     replace hEc := hEc.trans (hE.mono hEc.size)
     clear hE
     refine s_one 7 (by kernel_rfl) ?_
     refine p_eff rfl hf trivial rfl rfl (Ef.mono (ef_call (vs := [.agg #[.int .i64 q.rows, .int .i64 q.cols, .slice Ab q.cells.length cb], .int .i64 (k : Int), .int .i64 (j : Int)]) hf rfl ff_196 (F196 _ q Ab cb hrb.top k j hbo (by omega) hj)) (fun _ _ h => ⟨fun _ => by obtain ⟨rfl, hE⟩ := h; exact hE, h⟩)) ?_; rintro a _ w15 ⟨rfl, hE⟩ hf
     replace hBa := hBa.below hE
     replace hBb := hBb.below hE
     replace hB4 := hB4.below hE
     replace hB6 := hB6.below hE
     replace hB17 := hB17.below hE
     replace hra := hra.below hE
     replace hrb := hrb.below hE
     replace hW := hW.trans (hE.mono hW.size)
     replace hEc := hEc.trans (hE.mono hEc.size)
     clear hE
     refine s_one 8 (by kernel_rfl) ?_
     refine p_eff rfl hf trivial rfl rfl (Ef.mono (ef_call (vs := [.agg #[.int .i64 ((p.at i k).num.a), .int .i64 ((p.at i k).num.b), .int .i64 ((p.at i k).num.c), .int .i64 ((p.at i k).num.d), .int .i64 ((p.at i k).exp)], .agg #[.int .i64 ((q.at k j).num.a), .int .i64 ((q.at k j).num.b), .int .i64 ((q.at k j).num.c), .int .i64 ((q.at k j).num.d), .int .i64 ((q.at k j).exp)]]) hf rfl ff_195 (F195 _ (p.at i k) (q.at k j))) (fun _ _ h => ⟨fun _ => by obtain ⟨rfl, hE⟩ := h; exact hE, h⟩)) ?_; rintro a _ w16 ⟨rfl, hE⟩ hf
     replace hBa := hBa.below hE
     replace hBb := hBb.below hE
     replace hB4 := hB4.below hE
     replace hB6 := hB6.below hE
     replace hB17 := hB17.below hE
     replace hra := hra.below hE
     replace hrb := hrb.below hE
     replace hW := hW.trans (hE.mono hW.size)
     replace hEc := hEc.trans (hE.mono hEc.size)
     clear hE
     refine s_ev0 9 rfl (by kernel_rfl) hf trivial rfl rfl (fun _ => ev_move hf rfl) ?_; intro a hf
     refine s_ev0 10 rfl (by kernel_rfl) hf trivial rfl rfl (fun _ => ev_extract (vs := [.agg #[.int .i64 (((dMulI (p.at i k) (q.at k j)).getD dZ).num.a), .int .i64 (((dMulI (p.at i k) (q.at k j)).getD dZ).num.b), .int .i64 (((dMulI (p.at i k) (q.at k j)).getD dZ).num.c), .int .i64 (((dMulI (p.at i k) (q.at k j)).getD dZ).num.d), .int .i64 (((dMulI (p.at i k) (q.at k j)).getD dZ).exp)], .bool ((dMulI (p.at i k) (q.at k j)).isSome)]) hf rfl rfl) ?_; intro a hf
     refine s_ev0 11 rfl (by kernel_rfl) hf trivial rfl rfl (fun _ => ev_extract (vs := [.agg #[.int .i64 (((dMulI (p.at i k) (q.at k j)).getD dZ).num.a), .int .i64 (((dMulI (p.at i k) (q.at k j)).getD dZ).num.b), .int .i64 (((dMulI (p.at i k) (q.at k j)).getD dZ).num.c), .int .i64 (((dMulI (p.at i k) (q.at k j)).getD dZ).num.d), .int .i64 (((dMulI (p.at i k) (q.at k j)).getD dZ).exp)], .bool ((dMulI (p.at i k) (q.at k j)).isSome)]) hf rfl rfl) ?_; intro a hf
     refine s_one 13 (by kernel_rfl) ?_
     refine p_eff0 rfl hf trivial rfl (Ef.mono (ef_store (vs := [.int .i64 (((dMulI (p.at i k) (q.at k j)).getD dZ).num.a), .int .i64 (((dMulI (p.at i k) (q.at k j)).getD dZ).num.b), .int .i64 (((dMulI (p.at i k) (q.at k j)).getD dZ).num.c), .int .i64 (((dMulI (p.at i k) (q.at k j)).getD dZ).num.d), .int .i64 (((dMulI (p.at i k) (q.at k j)).getD dZ).exp)]) (l' := [.int .i64 (((dMulI (p.at i k) (q.at k j)).getD dZ).num.a), .int .i64 (((dMulI (p.at i k) (q.at k j)).getD dZ).num.b), .int .i64 (((dMulI (p.at i k) (q.at k j)).getD dZ).num.c), .int .i64 (((dMulI (p.at i k) (q.at k j)).getD dZ).num.d), .int .i64 (((dMulI (p.at i k) (q.at k j)).getD dZ).exp)]) hf rfl rfl sz_189 hB17 rfl rfl rfl rfl rfl) (fun _ _ h => ⟨fun h0 => absurd h0 (by decide), h⟩)) ?_; rintro a _ w17 ⟨ho, hb⟩ hf
     have hold := hB17
     replace hBa := hBa.only ho (Blk.ne hBa hold rfl)
     replace hBb := hBb.only ho (Blk.ne hBb hold rfl)
     replace hB4 := hB4.only ho (by omega)
     replace hB6 := hB6.only ho (by omega)
     replace hra := hra.only ho hlo17
     replace hrb := hrb.only ho hlo17
     replace hEc := Below.only hEc ho hlc17
     replace hW := Below.only hW ho hlo17
     clear hold
     have hB17 := hb
     clear hb ho
     refine s_ev0 14 rfl (by kernel_rfl) hf trivial rfl rfl (fun _ => ev_assign hf rfl) ?_; intro a hf
     refine s_done (by kernel_rfl) ?_
     have hEE : Below w4.heap.size w4 w17 := hEc
     exact ⟨b17, hf.sub ⟨rfl, rfl, rfl, rfl, rfl, rfl, (by first | rfl | (simp [look, hc11b])), rfl, rfl, rfl, trivial⟩, hlo17, hB17, hne4_17, hne6_17, hEE⟩
   ·refine p_eff rfl hf trivial rfl rfl (Ef.mono (ef_alloc (zs := [.int .i64 0, .int .i64 0, .int .i64 0, .int .i64 0, .int .i64 0]) z_189 rfl) (fun _ _ h => ⟨fun _ => h.bel, h⟩)) ?_; rintro a _ w18 ⟨b18, rfl, hl18, hE, hB18⟩ hf
    have hne4_18 : b4 ≠ b18 := by have := hB4.lt; omega
    have hne6_18 : b6 ≠ b18 := by have := hB6.lt; omega
    have hlo18 := Nat.le_trans hW.size hl18
    have hlc18 := Nat.le_trans hEc.size hl18
    have haw1_18 := hra.away hl18
    have haw2_18 := hrb.away hl18
    replace hBa := hBa.below hE
    replace hBb := hBb.below hE
    replace hB4 := hB4.below hE
    replace hB6 := hB6.below hE
    replace hra := hra.below hE
    replace hrb := hrb.below hE
    replace hW := hW.trans (hE.mono hW.size)
    replace hEc := hEc.trans (hE.mono hEc.size)
    clear hE
    refine s_one 3 (by kernel_rfl) ?_
    refine p_eff rfl hf trivial rfl rfl (Ef.mono (ef_call (vs := [.agg #[.int .i64 p.rows, .int .i64 p.cols, .slice Aa p.cells.length ca], .int .i64 (i : Int), .int .i64 (k : Int)]) hf rfl ff_196 (F196 _ p Aa ca hra.top i k hao hi (by omega))) (fun _ _ h => ⟨fun _ => by obtain ⟨rfl, hE⟩ := h; exact hE, h⟩)) ?_; rintro a _ w19 ⟨rfl, hE⟩ hf
    replace hBa := hBa.below hE
    replace hBb := hBb.below hE
    replace hB4 := hB4.below hE
    replace hB6 := hB6.below hE
    replace hB18 := hB18.below hE
    replace hra := hra.below hE
    replace hrb := hrb.below hE
    replace hW := hW.trans (hE.mono hW.size)
    replace hEc := hEc.trans (hE.mono hEc.size)
    clear hE
    refine s_one 7 (by kernel_rfl) ?_
    refine p_eff rfl hf trivial rfl rfl (Ef.mono (ef_call (vs := [.agg #[.int .i64 q.rows, .int .i64 q.cols, .slice Ab q.cells.length cb], .int .i64 (k : Int), .int .i64 (j : Int)]) hf rfl ff_196 (F196 _ q Ab cb hrb.top k j hbo (by omega) hj)) (fun _ _ h => ⟨fun _ => by obtain ⟨rfl, hE⟩ := h; exact hE, h⟩)) ?_; rintro a _ w20 ⟨rfl, hE⟩ hf
    replace hBa := hBa.below hE
    replace hBb := hBb.below hE
    replace hB4 := hB4.below hE
    replace hB6 := hB6.below hE
    replace hB18 := hB18.below hE
    replace hra := hra.below hE
    replace hrb := hrb.below hE
    replace hW := hW.trans (hE.mono hW.size)
    replace hEc := hEc.trans (hE.mono hEc.size)
    clear hE
    refine s_one 8 (by kernel_rfl) ?_
    refine p_eff rfl hf trivial rfl rfl (Ef.mono (ef_call (vs := [.agg #[.int .i64 ((p.at i k).num.a), .int .i64 ((p.at i k).num.b), .int .i64 ((p.at i k).num.c), .int .i64 ((p.at i k).num.d), .int .i64 ((p.at i k).exp)], .agg #[.int .i64 ((q.at k j).num.a), .int .i64 ((q.at k j).num.b), .int .i64 ((q.at k j).num.c), .int .i64 ((q.at k j).num.d), .int .i64 ((q.at k j).exp)]]) hf rfl ff_195 (F195 _ (p.at i k) (q.at k j))) (fun _ _ h => ⟨fun _ => by obtain ⟨rfl, hE⟩ := h; exact hE, h⟩)) ?_; rintro a _ w21 ⟨rfl, hE⟩ hf
    replace hBa := hBa.below hE
    replace hBb := hBb.below hE
    replace hB4 := hB4.below hE
    replace hB6 := hB6.below hE
    replace hB18 := hB18.below hE
    replace hra := hra.below hE
    replace hrb := hrb.below hE
    replace hW := hW.trans (hE.mono hW.size)
    replace hEc := hEc.trans (hE.mono hEc.size)
    clear hE
    refine s_ev0 9 rfl (by kernel_rfl) hf trivial rfl rfl (fun _ => ev_move hf rfl) ?_; intro a hf
    refine s_ev0 10 rfl (by kernel_rfl) hf trivial rfl rfl (fun _ => ev_extract (vs := [.agg #[.int .i64 (((dMulI (p.at i k) (q.at k j)).getD dZ).num.a), .int .i64 (((dMulI (p.at i k) (q.at k j)).getD dZ).num.b), .int .i64 (((dMulI (p.at i k) (q.at k j)).getD dZ).num.c), .int .i64 (((dMulI (p.at i k) (q.at k j)).getD dZ).num.d), .int .i64 (((dMulI (p.at i k) (q.at k j)).getD dZ).exp)], .bool ((dMulI (p.at i k) (q.at k j)).isSome)]) hf rfl rfl) ?_; intro a hf
    refine s_ev0 11 rfl (by kernel_rfl) hf trivial rfl rfl (fun _ => ev_extract (vs := [.agg #[.int .i64 (((dMulI (p.at i k) (q.at k j)).getD dZ).num.a), .int .i64 (((dMulI (p.at i k) (q.at k j)).getD dZ).num.b), .int .i64 (((dMulI (p.at i k) (q.at k j)).getD dZ).num.c), .int .i64 (((dMulI (p.at i k) (q.at k j)).getD dZ).num.d), .int .i64 (((dMulI (p.at i k) (q.at k j)).getD dZ).exp)], .bool ((dMulI (p.at i k) (q.at k j)).isSome)]) hf rfl rfl) ?_; intro a hf
    refine s_one 13 (by kernel_rfl) ?_
    refine p_eff0 rfl hf trivial rfl (Ef.mono (ef_store (vs := [.int .i64 (((dMulI (p.at i k) (q.at k j)).getD dZ).num.a), .int .i64 (((dMulI (p.at i k) (q.at k j)).getD dZ).num.b), .int .i64 (((dMulI (p.at i k) (q.at k j)).getD dZ).num.c), .int .i64 (((dMulI (p.at i k) (q.at k j)).getD dZ).num.d), .int .i64 (((dMulI (p.at i k) (q.at k j)).getD dZ).exp)]) (l' := [.int .i64 (((dMulI (p.at i k) (q.at k j)).getD dZ).num.a), .int .i64 (((dMulI (p.at i k) (q.at k j)).getD dZ).num.b), .int .i64 (((dMulI (p.at i k) (q.at k j)).getD dZ).num.c), .int .i64 (((dMulI (p.at i k) (q.at k j)).getD dZ).num.d), .int .i64 (((dMulI (p.at i k) (q.at k j)).getD dZ).exp)]) hf rfl rfl sz_189 hB18 rfl rfl rfl rfl rfl) (fun _ _ h => ⟨fun h0 => absurd h0 (by decide), h⟩)) ?_; rintro a _ w22 ⟨ho, hb⟩ hf
    have hold := hB18
    replace hBa := hBa.only ho (Blk.ne hBa hold rfl)
    replace hBb := hBb.only ho (Blk.ne hBb hold rfl)
    replace hB4 := hB4.only ho (by omega)
    replace hB6 := hB6.only ho (by omega)
    replace hra := hra.only ho hlo18
    replace hrb := hrb.only ho hlo18
    replace hEc := Below.only hEc ho hlc18
    replace hW := Below.only hW ho hlo18
    clear hold
    have hB18 := hb
    clear hb ho
    refine s_ev0 14 rfl (by kernel_rfl) hf trivial rfl rfl (fun _ => ev_assign hf rfl) ?_; intro a hf
    refine s_done (by kernel_rfl) ?_
    have hEE : Below w4.heap.size w4 w22 := hEc
    exact ⟨b18, hf.sub ⟨rfl, rfl, rfl, rfl, rfl, rfl, (by first | rfl | (simp [look, hc11b])), rfl, rfl, rfl, trivial⟩, hlo18, hB18, hne4_18, hne6_18, hEE⟩
  rintro a w23 ⟨b15, hf, hlo15, hB15, hne4_15, hne6_15, hE⟩
  replace hBa := hBa.below hE
  replace hBb := hBb.below hE
  replace hB4 := hB4.below hE
  replace hB6 := hB6.below hE
  replace hra := hra.below hE
  replace hrb := hrb.below hE
  replace hW := hW.trans (hE.mono hW.size)
  clear hE
  refine hK14 _ _ ?_; try clear hK14 K14
  refine wp_seq_k ?_; intro K19 hK19
  refine wp_region_lit ?_
  refine l_ev hf trivial rfl rfl (ev_loadN (l := [.int .i64 sum.num.a, .int .i64 sum.num.b, .int .i64 sum.num.c, .int .i64 sum.num.d, .int .i64 sum.exp]) hf rfl tN_189 (hB6.at 0) rfl) ?_; intro a hf
  refine l_ev hf trivial rfl rfl (ev_loadN (l := [.int .i64 (((dMulI (p.at i k) (q.at k j)).getD dZ).num.a), .int .i64 (((dMulI (p.at i k) (q.at k j)).getD dZ).num.b), .int .i64 (((dMulI (p.at i k) (q.at k j)).getD dZ).num.c), .int .i64 (((dMulI (p.at i k) (q.at k j)).getD dZ).num.d), .int .i64 (((dMulI (p.at i k) (q.at k j)).getD dZ).exp)]) hf rfl tN_189 (hB15.at 0) rfl) ?_; intro a hf
  refine l_eff hf trivial rfl rfl (ef_call (vs := [.agg #[.int .i64 sum.num.a, .int .i64 sum.num.b, .int .i64 sum.num.c, .int .i64 sum.num.d, .int .i64 sum.exp], .agg #[.int .i64 (((dMulI (p.at i k) (q.at k j)).getD dZ).num.a), .int .i64 (((dMulI (p.at i k) (q.at k j)).getD dZ).num.b), .int .i64 (((dMulI (p.at i k) (q.at k j)).getD dZ).num.c), .int .i64 (((dMulI (p.at i k) (q.at k j)).getD dZ).num.d), .int .i64 (((dMulI (p.at i k) (q.at k j)).getD dZ).exp)]]) hf rfl ff_223 (F223 _ sum ((dMulI (p.at i k) (q.at k j)).getD dZ))) ?_; rintro a _ w24 ⟨rfl, hE⟩ hf
  replace hBa := hBa.below hE
  replace hBb := hBb.below hE
  replace hB4 := hB4.below hE
  replace hB6 := hB6.below hE
  replace hB15 := hB15.below hE
  replace hra := hra.below hE
  replace hrb := hrb.below hE
  replace hW := hW.trans (hE.mono hW.size)
  clear hE
  refine l_ev hf trivial rfl rfl (ev_move hf rfl) ?_; intro a hf
  refine l_ev hf trivial rfl rfl (ev_extract (vs := [.agg #[.int .i64 (((dAddI sum ((dMulI (p.at i k) (q.at k j)).getD dZ)).getD dZ).num.a), .int .i64 (((dAddI sum ((dMulI (p.at i k) (q.at k j)).getD dZ)).getD dZ).num.b), .int .i64 (((dAddI sum ((dMulI (p.at i k) (q.at k j)).getD dZ)).getD dZ).num.c), .int .i64 (((dAddI sum ((dMulI (p.at i k) (q.at k j)).getD dZ)).getD dZ).num.d), .int .i64 (((dAddI sum ((dMulI (p.at i k) (q.at k j)).getD dZ)).getD dZ).exp)], .bool ((dAddI sum ((dMulI (p.at i k) (q.at k j)).getD dZ)).isSome)]) hf rfl rfl) ?_; intro a hf
  refine l_ev hf trivial rfl rfl (ev_extract (vs := [.agg #[.int .i64 (((dAddI sum ((dMulI (p.at i k) (q.at k j)).getD dZ)).getD dZ).num.a), .int .i64 (((dAddI sum ((dMulI (p.at i k) (q.at k j)).getD dZ)).getD dZ).num.b), .int .i64 (((dAddI sum ((dMulI (p.at i k) (q.at k j)).getD dZ)).getD dZ).num.c), .int .i64 (((dAddI sum ((dMulI (p.at i k) (q.at k j)).getD dZ)).getD dZ).num.d), .int .i64 (((dAddI sum ((dMulI (p.at i k) (q.at k j)).getD dZ)).getD dZ).exp)], .bool ((dAddI sum ((dMulI (p.at i k) (q.at k j)).getD dZ)).isSome)]) hf rfl rfl) ?_; intro a hf
  refine l_eff hf trivial rfl rfl (ef_alloc (zs := [.int .i64 0, .int .i64 0, .int .i64 0, .int .i64 0, .int .i64 0]) z_189 rfl) ?_; rintro a _ w25 ⟨b20, rfl, hl20, hE, hB20⟩ hf
  have hne4_20 : b4 ≠ b20 := by have := hB4.lt; omega
  have hne6_20 : b6 ≠ b20 := by have := hB6.lt; omega
  have hne15_20 : b15 ≠ b20 := by have := hB15.lt; omega
  have hlo20 := Nat.le_trans hW.size hl20
  have haw1_20 := hra.away hl20
  have haw2_20 := hrb.away hl20
  replace hBa := hBa.below hE
  replace hBb := hBb.below hE
  replace hB4 := hB4.below hE
  replace hB6 := hB6.below hE
  replace hB15 := hB15.below hE
  replace hra := hra.below hE
  replace hrb := hrb.below hE
  replace hW := hW.trans (hE.mono hW.size)
  clear hE
  refine l_eff0 hf trivial rfl (ef_store (vs := [.int .i64 (((dAddI sum ((dMulI (p.at i k) (q.at k j)).getD dZ)).getD dZ).num.a), .int .i64 (((dAddI sum ((dMulI (p.at i k) (q.at k j)).getD dZ)).getD dZ).num.b), .int .i64 (((dAddI sum ((dMulI (p.at i k) (q.at k j)).getD dZ)).getD dZ).num.c), .int .i64 (((dAddI sum ((dMulI (p.at i k) (q.at k j)).getD dZ)).getD dZ).num.d), .int .i64 (((dAddI sum ((dMulI (p.at i k) (q.at k j)).getD dZ)).getD dZ).exp)]) (l' := [.int .i64 (((dAddI sum ((dMulI (p.at i k) (q.at k j)).getD dZ)).getD dZ).num.a), .int .i64 (((dAddI sum ((dMulI (p.at i k) (q.at k j)).getD dZ)).getD dZ).num.b), .int .i64 (((dAddI sum ((dMulI (p.at i k) (q.at k j)).getD dZ)).getD dZ).num.c), .int .i64 (((dAddI sum ((dMulI (p.at i k) (q.at k j)).getD dZ)).getD dZ).num.d), .int .i64 (((dAddI sum ((dMulI (p.at i k) (q.at k j)).getD dZ)).getD dZ).exp)]) hf rfl rfl sz_189 hB20 rfl rfl rfl rfl rfl) ?_; rintro a _ w26 ⟨ho, hb⟩ hf
  have hold := hB20
  replace hBa := hBa.only ho (Blk.ne hBa hold rfl)
  replace hBb := hBb.only ho (Blk.ne hBb hold rfl)
  replace hB4 := hB4.only ho (by omega)
  replace hB6 := hB6.only ho (by omega)
  replace hB15 := hB15.only ho (by omega)
  replace hra := hra.only ho hlo20
  replace hrb := hrb.only ho hlo20
  replace hW := Below.only hW ho hlo20
  clear hold
  have hB20 := hb
  clear hb ho
  refine l_ev hf trivial rfl rfl (ev_assign hf rfl) ?_; intro a hf
  refine wpList_nil ?_
  refine hK19 _ _ ?_; try clear hK19 K19
  refine wp_seq_k ?_; intro K21 hK21
  refine wp_seq_k ?_; intro K22 hK22
  refine c_cut (fun a w => Fr a 48 [(0, .int .i64 (i : Int)), (1, .int .i64 (j : Int)), (2, .pointer (some ⟨ba, 0, none⟩)), (3, .pointer (some ⟨bb, 0, none⟩)), (6, .pointer (some ⟨b4, 0, none⟩)), (8, .pointer (some ⟨b6, 0, none⟩)), (12, .pointer (some ⟨b20, 0, none⟩)), (16, .int .i64 p.cols), (17, .int .i64 (k : Int)), (43, .bool ((!((dMulI (p.at i k) (q.at k j)).isSome)) || (!((dAddI sum ((dMulI (p.at i k) (q.at k j)).getD dZ)).isSome))))] ∧ w26 = w) ?_ ?_
  ·refine wp_region_lit ?_
   refine l_ev hf trivial rfl rfl (ev_move hf rfl) ?_; intro a hf
   refine l_ev hf trivial rfl rfl (ev_not hf rfl) ?_; intro a hf
   refine l_ev hf trivial rfl rfl (ev_move hf rfl) ?_; intro a hf
   refine g_split hf (t := 40) rfl (fun hg23 => ?_) (fun hg23 => ?_)
   ·refine l_pass hf ⟨_, _, rfl, rfl, hg23⟩ rfl rfl ?_; intro a hf
    refine l_pass hf ⟨_, _, rfl, rfl, hg23⟩ rfl rfl ?_; intro a hf
    refine l_ev hf trivial rfl rfl (ev_pickT hf rfl hg23 rfl) ?_; intro a hf
    refine wpList_nil ?_
    exact ⟨hf.sub ⟨rfl, rfl, rfl, rfl, rfl, rfl, rfl, rfl, rfl, look_bool rfl (by first | rfl | simp [hc11b, hg23]), trivial⟩, rfl⟩
   ·refine l_ev hf ⟨_, _, rfl, rfl, hg23⟩ rfl rfl (ev_move hf rfl) ?_; intro a hf
    refine l_ev hf ⟨_, _, rfl, rfl, hg23⟩ rfl rfl (ev_not hf rfl) ?_; intro a hf
    refine l_ev hf trivial rfl rfl (ev_pickF hf rfl hg23 rfl) ?_; intro a hf
    refine wpList_nil ?_
    exact ⟨hf.sub ⟨rfl, rfl, rfl, rfl, rfl, rfl, rfl, rfl, rfl, look_bool rfl (by first | rfl | simp [hc11b, hg23]), trivial⟩, rfl⟩
  rintro a _ ⟨hf, rfl⟩
  refine hK22 _ _ ?_; try clear hK22 K22
  refine c_if hf rfl (fun hc24 => ?_) (fun hc24 => ?_)
  ·have hc24b := hc24
   have hn := or2_false hc24
   have hn2 : dotI p q i j (k + 1) = none := by rw [dotI, hs]; simp only [Option.bind_some]; revert hn; cases dMulI (p.at i k) (q.at k j) <;> simp
   have hn3 := dotI_none hn2 p.cols.toNat (by omega)
   refine wp_seq_k ?_; intro K25 hK25
   refine wp_region_lit ?_
   refine l_ev hf trivial rfl rfl (ev_build (ps := []) (cs := [.int .i64 0, .int .i64 0, .int .i64 0, .int .i64 0, .int .i64 0]) hf rfl (fun _ => by first | rfl | kernel_rfl)) ?_; intro a hf
   refine l_eff0 hf trivial rfl (ef_store (vs := [.int .i64 0, .int .i64 0, .int .i64 0, .int .i64 0, .int .i64 0]) (l' := [.int .i64 0, .int .i64 0, .int .i64 0, .int .i64 0, .int .i64 0]) hf rfl rfl sz_189 hB4 rfl rfl rfl rfl rfl) ?_; rintro a _ w27 ⟨ho, hb⟩ hf
   have hold := hB4
   replace hBa := hBa.only ho (Blk.ne hBa hold rfl)
   replace hBb := hBb.only ho (Blk.ne hBb hold rfl)
   replace hB6 := hB6.only ho (by omega)
   replace hB15 := hB15.only ho (by omega)
   replace hB20 := hB20.only ho (by omega)
   replace hra := hra.only ho hlo4
   replace hrb := hrb.only ho hlo4
   replace hW := Below.only hW ho hlo4
   clear hold
   have hB4 := hb
   clear hb ho
   refine l_ev hf trivial rfl rfl (ev_assign hf rfl) ?_; intro a hf
   refine wpList_nil ?_
   refine hK25 _ _ ?_; try clear hK25 K25
   refine wp_ret ?_
   refine x_retS ?_
   refine x_retB ?_
   refine x_retS ?_
   refine x_retS ?_
   refine x_retB ?_
   refine x_retS ?_
   refine c_ret hf (res2 hf rfl (ResV.cellN (l := [.int .i64 0, .int .i64 0, .int .i64 0, .int .i64 0, .int .i64 0]) rfl tN_189 (hB4.at 0) rfl) rfl) ?_
   exact ⟨by rw [hn3]; rfl, hW⟩
  ·have hc24b := hc24
   have hy := or2_true hc24
   refine wp_skip ?_
   refine hK21 _ _ ?_; try clear hK21 K21
   refine wp_region_lit ?_
   refine l_ev hf trivial rfl rfl (ev_loadN (l := [.int .i64 (((dAddI sum ((dMulI (p.at i k) (q.at k j)).getD dZ)).getD dZ).num.a), .int .i64 (((dAddI sum ((dMulI (p.at i k) (q.at k j)).getD dZ)).getD dZ).num.b), .int .i64 (((dAddI sum ((dMulI (p.at i k) (q.at k j)).getD dZ)).getD dZ).num.c), .int .i64 (((dAddI sum ((dMulI (p.at i k) (q.at k j)).getD dZ)).getD dZ).num.d), .int .i64 (((dAddI sum ((dMulI (p.at i k) (q.at k j)).getD dZ)).getD dZ).exp)]) hf rfl tN_189 (hB20.at 0) rfl) ?_; intro a hf
   refine l_eff0 hf trivial rfl (ef_store (vs := [.int .i64 (((dAddI sum ((dMulI (p.at i k) (q.at k j)).getD dZ)).getD dZ).num.a), .int .i64 (((dAddI sum ((dMulI (p.at i k) (q.at k j)).getD dZ)).getD dZ).num.b), .int .i64 (((dAddI sum ((dMulI (p.at i k) (q.at k j)).getD dZ)).getD dZ).num.c), .int .i64 (((dAddI sum ((dMulI (p.at i k) (q.at k j)).getD dZ)).getD dZ).num.d), .int .i64 (((dAddI sum ((dMulI (p.at i k) (q.at k j)).getD dZ)).getD dZ).exp)]) (l' := [.int .i64 (((dAddI sum ((dMulI (p.at i k) (q.at k j)).getD dZ)).getD dZ).num.a), .int .i64 (((dAddI sum ((dMulI (p.at i k) (q.at k j)).getD dZ)).getD dZ).num.b), .int .i64 (((dAddI sum ((dMulI (p.at i k) (q.at k j)).getD dZ)).getD dZ).num.c), .int .i64 (((dAddI sum ((dMulI (p.at i k) (q.at k j)).getD dZ)).getD dZ).num.d), .int .i64 (((dAddI sum ((dMulI (p.at i k) (q.at k j)).getD dZ)).getD dZ).exp)]) hf rfl rfl sz_189 hB6 rfl rfl rfl rfl rfl) ?_; rintro a _ w28 ⟨ho, hb⟩ hf
   have hold := hB6
   replace hBa := hBa.only ho (Blk.ne hBa hold rfl)
   replace hBb := hBb.only ho (Blk.ne hBb hold rfl)
   replace hB4 := hB4.only ho (by omega)
   replace hB15 := hB15.only ho (by omega)
   replace hB20 := hB20.only ho (by omega)
   replace hra := hra.only ho hlo6
   replace hrb := hrb.only ho hlo6
   replace hW := Below.only hW ho hlo6
   clear hold
   have hB6 := hb
   clear hb ho
   refine wpList_nil ?_
   refine x_norm ?_
   refine hK12 _ _ ?_; try clear hK12 K12
   refine wp_region_lit ?_
   refine l_ev hf trivial rfl rfl (ev_addx hf rfl rfl (by omega) (by omega)) ?_; intro a hf
   refine l_ev hf trivial rfl rfl (ev_move hf rfl) ?_; intro a hf
   refine wpList_nil ?_
   refine x_thenN ?_
   exact ⟨(k + 1, ((dAddI sum ((dMulI (p.at i k) (q.at k j)).getD dZ)).getD dZ)), ⟨hf.sub ⟨rfl, rfl, rfl, rfl, rfl, rfl, rfl, rfl, trivial⟩, (by omega), (by rw [dotI, hs]; simp only [Option.bind_some]; revert hy; cases dMulI (p.at i k) (q.at k j) <;> simp; intro hy; revert hy; cases dAddI sum _ <;> simp), hBa, hBb, hB4, hB6, hra, hrb, hW⟩, (by first | omega | (dsimp only; omega))⟩
 ·have hc11b := hc11
  have hc11 := of_decide_eq_false hc11
  have hk1 : k = p.cols.toNat := by omega
  refine wp_exit ?_
  refine x_exS ?_
  refine x_exS ?_
  refine x_exit ?_
  refine hK7 _ _ ?_; try clear hK7 K7
  refine wp_seq_k ?_; intro K26 hK26
  refine wp_region_lit ?_
  refine l_ev hf trivial rfl rfl (ev_loadN (l := [.int .i64 sum.num.a, .int .i64 sum.num.b, .int .i64 sum.num.c, .int .i64 sum.num.d, .int .i64 sum.exp]) hf rfl tN_189 (hB6.at 0) rfl) ?_; intro a hf
  refine l_eff0 hf trivial rfl (ef_store (vs := [.int .i64 sum.num.a, .int .i64 sum.num.b, .int .i64 sum.num.c, .int .i64 sum.num.d, .int .i64 sum.exp]) (l' := [.int .i64 sum.num.a, .int .i64 sum.num.b, .int .i64 sum.num.c, .int .i64 sum.num.d, .int .i64 sum.exp]) hf rfl rfl sz_189 hB4 rfl rfl rfl rfl rfl) ?_; rintro a _ w29 ⟨ho, hb⟩ hf
  have hold := hB4
  replace hBa := hBa.only ho (Blk.ne hBa hold rfl)
  replace hBb := hBb.only ho (Blk.ne hBb hold rfl)
  replace hB6 := hB6.only ho (by omega)
  replace hra := hra.only ho hlo4
  replace hrb := hrb.only ho hlo4
  replace hW := Below.only hW ho hlo4
  clear hold
  have hB4 := hb
  clear hb ho
  refine l_ev hf trivial rfl rfl (ev_assign hf rfl) ?_; intro a hf
  refine wpList_nil ?_
  refine hK26 _ _ ?_; try clear hK26 K26
  refine wp_ret ?_
  refine c_ret hf (res2 hf rfl (ResV.cellN (l := [.int .i64 sum.num.a, .int .i64 sum.num.b, .int .i64 sum.num.c, .int .i64 sum.num.d, .int .i64 sum.exp]) rfl tN_189 (hB4.at 0) rfl) rfl) ?_
  exact ⟨by rw [← hk1, hs]; rfl, hW⟩
end Go.Proofs.YtfgnmflfiobkmaaGreat
set_option maxRecDepth 4000
namespace Go.Proofs.YtfgnmflfiobkmaaGreat
open Go.RowKit
theorem F189 (w0 : World) (p : Mx) (Ap : Option Addr) (cp : Nat) (hr_p : Rd w0 w0.heap.size 189 encD Ap p.cells) (q : Mx) (Aq : Option Addr) (cq : Nat) (hr_q : Rd w0 w0.heap.size 189 encD Aq q.cells) (hla : p.cells.length ≤ 2305843009213693951) (hlb : q.cells.length ≤ 2305843009213693951) : Ret Tryz.prog 189 [.agg #[.int .i64 p.rows, .int .i64 p.cols, .slice Ap p.cells.length cp], .agg #[.int .i64 q.rows, .int .i64 q.cols, .slice Aq q.cells.length cq]] w0 (fun v w => ∃ A c, v = .tuple #[mV A c ((mulI p q).getD mZ), .bool (mulI p q).isSome] ∧ Own w w0.heap.size 189 5 encD A c ((mulI p q).getD mZ).cells ∧ Below w0.heap.size w0 w) := by
 refine enter Tryz.func189 rfl 30 rfl rfl ?_
 intro a hf
 have hW : Below w0.heap.size w0 w0 := Below.refl _ _
 refine wp_seq_k ?_; intro K3 hK3
 refine wp_region_lit ?_
 refine l_eff hf trivial rfl rfl (ef_box (zs := [.int .i64 p.rows, .int .i64 p.cols, .slice Ap p.cells.length cp]) hf rfl rfl) ?_; rintro a _ w1 ⟨b4, rfl, hl4, hE, hB4⟩ hf
 have hlo4 := Nat.le_trans hW.size hl4
 replace hr_p := hr_p.below hE
 replace hr_q := hr_q.below hE
 replace hW := hW.trans (hE.mono hW.size)
 clear hE
 refine l_eff hf trivial rfl rfl (ef_box (zs := [.int .i64 q.rows, .int .i64 q.cols, .slice Aq q.cells.length cq]) hf rfl rfl) ?_; rintro a _ w2 ⟨b5, rfl, hl5, hE, hB5⟩ hf
 have hne4_5 : b4 ≠ b5 := by have := hB4.lt; omega
 have hlo5 := Nat.le_trans hW.size hl5
 replace hB4 := hB4.below hE
 replace hr_p := hr_p.below hE
 replace hr_q := hr_q.below hE
 replace hW := hW.trans (hE.mono hW.size)
 clear hE
 refine l_eff hf trivial rfl rfl (ef_alloc (zs := [.int .i64 0, .int .i64 0, .slice none 0 0]) z_141 rfl) ?_; rintro a _ w3 ⟨b7, rfl, hl7, hE, hB7⟩ hf
 have hne4_7 : b4 ≠ b7 := by have := hB4.lt; omega
 have hne5_7 : b5 ≠ b7 := by have := hB5.lt; omega
 have hlo7 := Nat.le_trans hW.size hl7
 replace hB4 := hB4.below hE
 replace hB5 := hB5.below hE
 replace hr_p := hr_p.below hE
 replace hr_q := hr_q.below hE
 replace hW := hW.trans (hE.mono hW.size)
 clear hE
 refine l_ev hf trivial rfl rfl (ev_assign hf rfl) ?_; intro a hf
 refine wpList_nil ?_
 refine hK3 _ _ ?_; try clear hK3 K3
 refine wp_seq_k ?_; intro K8 hK8
 refine wp_seq_k ?_; intro K9 hK9
 refine c_cut (fun a w => Fr a 30 [(2, .pointer (some ⟨b4, 0, none⟩)), (3, .pointer (some ⟨b5, 0, none⟩)), (4, .pointer (some ⟨b7, 0, none⟩)), (20, .bool (((!(mOk p)) || (!(mOk q))) || (p.cols != q.rows)))] ∧ Below w3.heap.size w3 w) ?_ ?_
 ·have hEc : Below w3.heap.size w3 w3 := Below.refl _ _
  refine wp_region_lit ?_
  refine l_ev hf trivial rfl rfl (ev_loadN (l := [.int .i64 p.rows, .int .i64 p.cols, .slice Ap p.cells.length cp]) hf rfl tN_141 (hB4.at 0) rfl) ?_; intro a hf
  refine l_eff hf trivial rfl rfl (ef_call (vs := [.agg #[.int .i64 p.rows, .int .i64 p.cols, .slice Ap p.cells.length cp]]) hf rfl ff_138 (F138 _ p Ap cp hr_p.top hla)) ?_; rintro a _ w4 ⟨rfl, hE⟩ hf
  replace hB4 := hB4.below hE
  replace hB5 := hB5.below hE
  replace hB7 := hB7.below hE
  replace hr_p := hr_p.below hE
  replace hr_q := hr_q.below hE
  replace hW := hW.trans (hE.mono hW.size)
  replace hEc := hEc.trans (hE.mono hEc.size)
  clear hE
  refine l_ev hf trivial rfl rfl (ev_not hf rfl) ?_; intro a hf
  refine l_ev hf trivial rfl rfl (ev_move hf rfl) ?_; intro a hf
  refine g_split hf (t := 9) rfl (fun hg10 => ?_) (fun hg10 => ?_)
  ·refine l_pass hf ⟨_, _, rfl, rfl, hg10⟩ rfl rfl ?_; intro a hf
   refine l_pass hf ⟨_, _, rfl, rfl, hg10⟩ rfl rfl ?_; intro a hf
   refine l_pass hf ⟨_, _, rfl, rfl, hg10⟩ rfl rfl ?_; intro a hf
   refine l_ev hf trivial rfl rfl (ev_pickT hf rfl hg10 rfl) ?_; intro a hf
   refine l_ev hf trivial rfl rfl (ev_move hf rfl) ?_; intro a hf
   refine l_pass hf ⟨_, _, rfl, rfl, rfl⟩ rfl rfl ?_; intro a hf
   refine l_pass hf ⟨_, _, rfl, rfl, rfl⟩ rfl rfl ?_; intro a hf
   refine l_pass hf ⟨_, _, rfl, rfl, rfl⟩ rfl rfl ?_; intro a hf
   refine l_pass hf ⟨_, _, rfl, rfl, rfl⟩ rfl rfl ?_; intro a hf
   refine l_pass hf ⟨_, _, rfl, rfl, rfl⟩ rfl rfl ?_; intro a hf
   refine l_ev hf trivial rfl rfl (ev_pickT hf rfl rfl rfl) ?_; intro a hf
   refine wpList_nil ?_
   have hEE : Below w3.heap.size w3 w4 := hEc
   exact ⟨hf.sub ⟨rfl, rfl, rfl, look_bool rfl (by first | rfl | simp [hg10]), trivial⟩, hEE⟩
  ·refine l_ev hf ⟨_, _, rfl, rfl, hg10⟩ rfl rfl (ev_loadN (l := [.int .i64 q.rows, .int .i64 q.cols, .slice Aq q.cells.length cq]) hf rfl tN_141 (hB5.at 0) rfl) ?_; intro a hf
   refine l_eff hf ⟨_, _, rfl, rfl, hg10⟩ rfl rfl (ef_call (vs := [.agg #[.int .i64 q.rows, .int .i64 q.cols, .slice Aq q.cells.length cq]]) hf rfl ff_138 (F138 _ q Aq cq hr_q.top hlb)) ?_; rintro a _ w5 ⟨rfl, hE⟩ hf
   replace hB4 := hB4.below hE
   replace hB5 := hB5.below hE
   replace hB7 := hB7.below hE
   replace hr_p := hr_p.below hE
   replace hr_q := hr_q.below hE
   replace hW := hW.trans (hE.mono hW.size)
   replace hEc := hEc.trans (hE.mono hEc.size)
   clear hE
   refine l_ev hf ⟨_, _, rfl, rfl, hg10⟩ rfl rfl (ev_not hf rfl) ?_; intro a hf
   refine l_ev hf trivial rfl rfl (ev_pickF hf rfl hg10 rfl) ?_; intro a hf
   refine l_ev hf trivial rfl rfl (ev_move hf rfl) ?_; intro a hf
   refine g_split hf (t := 14) rfl (fun hg11 => ?_) (fun hg11 => ?_)
   ·refine l_pass hf ⟨_, _, rfl, rfl, hg11⟩ rfl rfl ?_; intro a hf
    refine l_pass hf ⟨_, _, rfl, rfl, hg11⟩ rfl rfl ?_; intro a hf
    refine l_pass hf ⟨_, _, rfl, rfl, hg11⟩ rfl rfl ?_; intro a hf
    refine l_pass hf ⟨_, _, rfl, rfl, hg11⟩ rfl rfl ?_; intro a hf
    refine l_pass hf ⟨_, _, rfl, rfl, hg11⟩ rfl rfl ?_; intro a hf
    refine l_ev hf trivial rfl rfl (ev_pickT hf rfl hg11 rfl) ?_; intro a hf
    refine wpList_nil ?_
    have hEE : Below w3.heap.size w3 w5 := hEc
    exact ⟨hf.sub ⟨rfl, rfl, rfl, look_bool rfl (by first | rfl | simp [hg10, hg11]), trivial⟩, hEE⟩
   ·refine l_ev hf ⟨_, _, rfl, rfl, hg11⟩ rfl rfl (ev_fieldB hf rfl fd_141_1 (m := 1) rfl) ?_; intro a hf
    refine l_ev hf ⟨_, _, rfl, rfl, hg11⟩ rfl rfl (ev_load1 hf rfl t1_3 (hB4.at 1)) ?_; intro a hf
    refine l_ev hf ⟨_, _, rfl, rfl, hg11⟩ rfl rfl (ev_fieldB hf rfl fd_141_0 (m := 0) rfl) ?_; intro a hf
    refine l_ev hf ⟨_, _, rfl, rfl, hg11⟩ rfl rfl (ev_load1 hf rfl t1_3 (hB5.at 0)) ?_; intro a hf
    refine l_ev hf ⟨_, _, rfl, rfl, hg11⟩ rfl rfl (ev_neq hf rfl rfl) ?_; intro a hf
    refine l_ev hf trivial rfl rfl (ev_pickF hf rfl hg11 rfl) ?_; intro a hf
    refine wpList_nil ?_
    have hEE : Below w3.heap.size w3 w5 := hEc
    exact ⟨hf.sub ⟨rfl, rfl, rfl, look_bool rfl (by first | rfl | simp [hg10, hg11]), trivial⟩, hEE⟩
 rintro a w6 ⟨hf, hE⟩
 replace hB4 := hB4.below hE
 replace hB5 := hB5.below hE
 replace hB7 := hB7.below hE
 replace hr_p := hr_p.below hE
 replace hr_q := hr_q.below hE
 replace hW := hW.trans (hE.mono hW.size)
 clear hE
 refine hK9 _ _ ?_; try clear hK9 K9
 refine c_if hf rfl (fun hc12 => ?_) (fun hc12 => ?_)
 ·have hc12b := hc12
  have hn : (mOk p && mOk q && p.cols == q.rows) = false := by revert hc12; cases mOk p <;> cases mOk q <;> simp
  refine wp_seq_k ?_; intro K13 hK13
  refine wp_region_lit ?_
  refine l_ev hf trivial rfl rfl (ev_build (ps := []) (cs := [.int .i64 0, .int .i64 0, .slice none 0 0]) hf rfl (fun _ => by first | rfl | kernel_rfl)) ?_; intro a hf
  refine l_eff0 hf trivial rfl (ef_store (vs := [.int .i64 0, .int .i64 0, .slice none 0 0]) (l' := [.int .i64 0, .int .i64 0, .slice none 0 0]) hf rfl rfl sz_141 hB7 rfl rfl rfl rfl rfl) ?_; rintro a _ w7 ⟨ho, hb⟩ hf
  have hold := hB7
  replace hB4 := hB4.only ho (by omega)
  replace hB5 := hB5.only ho (by omega)
  replace hr_p := hr_p.onlyT ho hold rfl
  replace hr_q := hr_q.onlyT ho hold rfl
  replace hW := Below.only hW ho hlo7
  clear hold
  have hB7 := hb
  clear hb ho
  refine l_ev hf trivial rfl rfl (ev_assign hf rfl) ?_; intro a hf
  refine wpList_nil ?_
  refine hK13 _ _ ?_; try clear hK13 K13
  refine wp_ret ?_
  refine x_retS ?_
  refine c_ret hf (res2 hf rfl (ResV.cellN (l := [.int .i64 0, .int .i64 0, .slice none 0 0]) rfl tN_141 (hB7.at 0) rfl) rfl) ?_
  exact ⟨none, 0, by rw [mulI, hn]; rfl, by rw [mulI, hn]; exact (Own.nil _ _ _ _ _), hW⟩
 ·have hc12b := hc12
  have hy : (mOk p && mOk q && p.cols == q.rows) = true := by revert hc12; cases mOk p <;> cases mOk q <;> simp
  have hy3 := and3 hy
  have hab : p.cols = q.rows := by simpa using hy3.2.2
  refine wp_skip ?_
  refine hK8 _ _ ?_; try clear hK8 K8
  refine wp_seq_k ?_; intro K15 hK15
  refine wp_region_lit ?_
  refine l_ev hf trivial rfl rfl (ev_fieldB hf rfl fd_141_0 (m := 0) rfl) ?_; intro a hf
  refine l_ev hf trivial rfl rfl (ev_load1 hf rfl t1_3 (hB4.at 0)) ?_; intro a hf
  refine l_ev hf trivial rfl rfl (ev_fieldB hf rfl fd_141_1 (m := 1) rfl) ?_; intro a hf
  refine l_ev hf trivial rfl rfl (ev_load1 hf rfl t1_3 (hB5.at 1)) ?_; intro a hf
  refine l_ev hf trivial rfl rfl (ev_makeFunc (vs := [.pointer (some ⟨b4, 0, none⟩), .pointer (some ⟨b5, 0, none⟩)]) hf rfl) ?_; intro a hf
  refine l_eff hf trivial rfl rfl (ef_call (vs := [.int .i64 p.rows, .int .i64 q.cols, .func (.func 222) #[] #[.pointer (some ⟨b4, 0, none⟩), .pointer (some ⟨b5, 0, none⟩)]]) hf rfl ff_185 (F185 _ p.rows q.cols 222 [.pointer (some ⟨b4, 0, none⟩), .pointer (some ⟨b5, 0, none⟩)] ff_222 (fun i j => dotI p q i j p.cols.toNat) (fun i j w' hi hj hE' => F222 w' p q _ _ _ _ _ _ (hr_p.below hE').top (hr_q.below hE').top (hB4.below hE') (hB5.below hE') hy3.1 hy3.2.1 hab i j hi hj))) ?_; rintro a _ w8 ⟨A16, c16, rfl, ho16, hE⟩ hf
  replace ho16 := ho16.lower hW.size
  replace hB4 := hB4.below hE
  replace hB5 := hB5.below hE
  replace hB7 := hB7.below hE
  replace hr_p := hr_p.below hE
  replace hr_q := hr_q.below hE
  replace hW := hW.trans (hE.mono hW.size)
  clear hE
  refine l_ev hf trivial rfl rfl (ev_extract (vs := [.agg #[.int .i64 (((matOf p.rows q.cols (fun i j => dotI p q i j p.cols.toNat)).getD mZ).rows), .int .i64 (((matOf p.rows q.cols (fun i j => dotI p q i j p.cols.toNat)).getD mZ).cols), .slice A16 (((matOf p.rows q.cols (fun i j => dotI p q i j p.cols.toNat)).getD mZ).cells).length c16], .bool ((matOf p.rows q.cols (fun i j => dotI p q i j p.cols.toNat)).isSome)]) hf rfl rfl) ?_; intro a hf
  refine l_ev hf trivial rfl rfl (ev_extract (vs := [.agg #[.int .i64 (((matOf p.rows q.cols (fun i j => dotI p q i j p.cols.toNat)).getD mZ).rows), .int .i64 (((matOf p.rows q.cols (fun i j => dotI p q i j p.cols.toNat)).getD mZ).cols), .slice A16 (((matOf p.rows q.cols (fun i j => dotI p q i j p.cols.toNat)).getD mZ).cells).length c16], .bool ((matOf p.rows q.cols (fun i j => dotI p q i j p.cols.toNat)).isSome)]) hf rfl rfl) ?_; intro a hf
  refine l_eff0 hf trivial rfl (ef_store (vs := [.int .i64 (((matOf p.rows q.cols (fun i j => dotI p q i j p.cols.toNat)).getD mZ).rows), .int .i64 (((matOf p.rows q.cols (fun i j => dotI p q i j p.cols.toNat)).getD mZ).cols), .slice A16 (((matOf p.rows q.cols (fun i j => dotI p q i j p.cols.toNat)).getD mZ).cells).length c16]) (l' := [.int .i64 (((matOf p.rows q.cols (fun i j => dotI p q i j p.cols.toNat)).getD mZ).rows), .int .i64 (((matOf p.rows q.cols (fun i j => dotI p q i j p.cols.toNat)).getD mZ).cols), .slice A16 (((matOf p.rows q.cols (fun i j => dotI p q i j p.cols.toNat)).getD mZ).cells).length c16]) hf rfl rfl sz_141 hB7 rfl rfl rfl rfl rfl) ?_; rintro a _ w9 ⟨ho, hb⟩ hf
  have hold := hB7
  replace hB4 := hB4.only ho (by omega)
  replace hB5 := hB5.only ho (by omega)
  replace hr_p := hr_p.onlyT ho hold rfl
  replace hr_q := hr_q.onlyT ho hold rfl
  replace ho16 := ho16.onlyT ho hold rfl
  replace hW := Below.only hW ho hlo7
  clear hold
  have hB7 := hb
  clear hb ho
  refine l_ev hf trivial rfl rfl (ev_assign hf rfl) ?_; intro a hf
  refine wpList_nil ?_
  refine hK15 _ _ ?_; try clear hK15 K15
  refine wp_ret ?_
  refine c_ret hf (res2 hf rfl (ResV.cellN (l := [.int .i64 (((matOf p.rows q.cols (fun i j => dotI p q i j p.cols.toNat)).getD mZ).rows), .int .i64 (((matOf p.rows q.cols (fun i j => dotI p q i j p.cols.toNat)).getD mZ).cols), .slice A16 (((matOf p.rows q.cols (fun i j => dotI p q i j p.cols.toNat)).getD mZ).cells).length c16]) rfl tN_141 (hB7.at 0) rfl) rfl) ?_
  exact ⟨A16, c16, by rw [mulI, if_pos hy], by rw [mulI, if_pos hy]; exact ho16, hW⟩
theorem F194 (w0 : World) (p : Mx) (x : Dy) (Aa : Option Addr) (ca : Nat) (ba bb : Nat) (hra : Rd w0 w0.heap.size 189 encD Aa p.cells) (hBa : Blk w0 ba 141 [.int .i64 p.rows, .int .i64 p.cols, .slice Aa p.cells.length ca]) (hBb : Blk w0 bb 189 (encD x)) (hao : mOk p = true) (i j : Nat) (hi : (i : Int) < p.rows) (hj : (j : Int) < p.cols) : Ret Tryz.prog 194 [.int .i64 (i : Int), .int .i64 (j : Int), .pointer (some ⟨ba, 0, none⟩), .pointer (some ⟨bb, 0, none⟩)] w0 (fun v w => v = .tuple #[dV ((dMulI (p.at i j) x).getD dZ), .bool (dMulI (p.at i j) x).isSome] ∧ Below w0.heap.size w0 w) := by
 have hltba := hBa.lt
 have hltbb := hBb.lt
 unfold encD at hBb
 refine enter Tryz.func194 rfl 16 rfl rfl ?_
 intro a hf
 have hW : Below w0.heap.size w0 w0 := Below.refl _ _
 refine wp_seq_k ?_; intro K2 hK2
 refine wp_region_lit ?_
 refine l_eff hf trivial rfl rfl (ef_alloc (zs := [.int .i64 0, .int .i64 0, .int .i64 0, .int .i64 0, .int .i64 0]) z_189 rfl) ?_; rintro a _ w1 ⟨b3, rfl, hl3, hE, hB3⟩ hf
 have hneb_3 : bb ≠ b3 := by have := hBb.lt; omega
 have hlo3 := Nat.le_trans hW.size hl3
 have haw1_3 := hra.away hl3
 replace hBa := hBa.below hE
 replace hBb := hBb.below hE
 replace hra := hra.below hE
 replace hW := hW.trans (hE.mono hW.size)
 clear hE
 refine l_ev hf trivial rfl rfl (ev_assign hf rfl) ?_; intro a hf
 refine wpList_nil ?_
 refine hK2 _ _ ?_; try clear hK2 K2
 refine wp_seq_k ?_; intro K4 hK4
 refine wp_draw none (fun j => [8].contains j) mixed ?_
 intro w2 hE
 replace hBa := hBa.below hE
 replace hBb := hBb.below hE
 replace hB3 := hB3.below hE
 replace hra := hra.below hE
 replace hW := hW.trans (hE.mono hW.size)
 clear hE
 refine s_ev 0 rfl (by kernel_rfl) (by kernel_rfl) hf trivial rfl rfl (ev_loadN (l := [.int .i64 p.rows, .int .i64 p.cols, .slice Aa p.cells.length ca]) hf rfl tN_141 (hBa.at 0) rfl) ?_; intro a hf
 refine s_ev0 1 rfl (by kernel_rfl) hf trivial rfl rfl (fun _ => ev_move hf rfl) ?_; intro a hf
 refine s_ev0 2 rfl (by kernel_rfl) hf trivial rfl rfl (fun _ => ev_move hf rfl) ?_; intro a hf
 refine s_ev 4 rfl (by kernel_rfl) (by kernel_rfl) hf trivial rfl rfl (ev_loadN (l := [.int .i64 x.num.a, .int .i64 x.num.b, .int .i64 x.num.c, .int .i64 x.num.d, .int .i64 x.exp]) hf rfl tN_189 (hBb.at 0) rfl) ?_; intro a hf
 refine s_one 3 (by kernel_rfl) ?_
 refine p_eff rfl hf trivial rfl rfl (Ef.mono (ef_call (vs := [.agg #[.int .i64 p.rows, .int .i64 p.cols, .slice Aa p.cells.length ca], .int .i64 (i : Int), .int .i64 (j : Int)]) hf rfl ff_196 (F196 _ p Aa ca hra.top i j hao hi hj)) (fun _ _ h => ⟨fun _ => by obtain ⟨rfl, hE⟩ := h; exact hE, h⟩)) ?_; rintro a _ w3 ⟨rfl, hE⟩ hf
 replace hBa := hBa.below hE
 replace hBb := hBb.below hE
 replace hB3 := hB3.below hE
 replace hra := hra.below hE
 replace hW := hW.trans (hE.mono hW.size)
 clear hE
 refine s_one 5 (by kernel_rfl) ?_
 refine p_eff rfl hf trivial rfl rfl (Ef.mono (ef_call (vs := [.agg #[.int .i64 ((p.at i j).num.a), .int .i64 ((p.at i j).num.b), .int .i64 ((p.at i j).num.c), .int .i64 ((p.at i j).num.d), .int .i64 ((p.at i j).exp)], .agg #[.int .i64 x.num.a, .int .i64 x.num.b, .int .i64 x.num.c, .int .i64 x.num.d, .int .i64 x.exp]]) hf rfl ff_195 (F195 _ (p.at i j) x)) (fun _ _ h => ⟨fun _ => by obtain ⟨rfl, hE⟩ := h; exact hE, h⟩)) ?_; rintro a _ w4 ⟨rfl, hE⟩ hf
 replace hBa := hBa.below hE
 replace hBb := hBb.below hE
 replace hB3 := hB3.below hE
 replace hra := hra.below hE
 replace hW := hW.trans (hE.mono hW.size)
 clear hE
 refine s_ev0 6 rfl (by kernel_rfl) hf trivial rfl rfl (fun _ => ev_extract (vs := [.agg #[.int .i64 (((dMulI (p.at i j) x).getD dZ).num.a), .int .i64 (((dMulI (p.at i j) x).getD dZ).num.b), .int .i64 (((dMulI (p.at i j) x).getD dZ).num.c), .int .i64 (((dMulI (p.at i j) x).getD dZ).num.d), .int .i64 (((dMulI (p.at i j) x).getD dZ).exp)], .bool ((dMulI (p.at i j) x).isSome)]) hf rfl rfl) ?_; intro a hf
 refine s_ev0 7 rfl (by kernel_rfl) hf trivial rfl rfl (fun _ => ev_extract (vs := [.agg #[.int .i64 (((dMulI (p.at i j) x).getD dZ).num.a), .int .i64 (((dMulI (p.at i j) x).getD dZ).num.b), .int .i64 (((dMulI (p.at i j) x).getD dZ).num.c), .int .i64 (((dMulI (p.at i j) x).getD dZ).num.d), .int .i64 (((dMulI (p.at i j) x).getD dZ).exp)], .bool ((dMulI (p.at i j) x).isSome)]) hf rfl rfl) ?_; intro a hf
 refine s_one 8 (by kernel_rfl) ?_
 refine p_eff0 rfl hf trivial rfl (Ef.mono (ef_store (vs := [.int .i64 (((dMulI (p.at i j) x).getD dZ).num.a), .int .i64 (((dMulI (p.at i j) x).getD dZ).num.b), .int .i64 (((dMulI (p.at i j) x).getD dZ).num.c), .int .i64 (((dMulI (p.at i j) x).getD dZ).num.d), .int .i64 (((dMulI (p.at i j) x).getD dZ).exp)]) (l' := [.int .i64 (((dMulI (p.at i j) x).getD dZ).num.a), .int .i64 (((dMulI (p.at i j) x).getD dZ).num.b), .int .i64 (((dMulI (p.at i j) x).getD dZ).num.c), .int .i64 (((dMulI (p.at i j) x).getD dZ).num.d), .int .i64 (((dMulI (p.at i j) x).getD dZ).exp)]) hf rfl rfl sz_189 hB3 rfl rfl rfl rfl rfl) (fun _ _ h => ⟨fun h0 => absurd h0 (by decide), h⟩)) ?_; rintro a _ w5 ⟨ho, hb⟩ hf
 have hold := hB3
 replace hBa := hBa.only ho (Blk.ne hBa hold rfl)
 replace hBb := hBb.only ho (by omega)
 replace hra := hra.only ho hlo3
 replace hW := Below.only hW ho hlo3
 clear hold
 have hB3 := hb
 clear hb ho
 refine s_ev0 9 rfl (by kernel_rfl) hf trivial rfl rfl (fun _ => ev_assign hf rfl) ?_; intro a hf
 refine s_done (by kernel_rfl) ?_
 refine hK4 _ _ ?_; try clear hK4 K4
 refine wp_ret ?_
 refine c_ret hf (res2 hf rfl (ResV.cellN (l := [.int .i64 (((dMulI (p.at i j) x).getD dZ).num.a), .int .i64 (((dMulI (p.at i j) x).getD dZ).num.b), .int .i64 (((dMulI (p.at i j) x).getD dZ).num.c), .int .i64 (((dMulI (p.at i j) x).getD dZ).num.d), .int .i64 (((dMulI (p.at i j) x).getD dZ).exp)]) rfl tN_189 (hB3.at 0) rfl) rfl) ?_
 exact ⟨rfl, hW⟩
theorem F139 (w0 : World) (p : Mx) (Ap : Option Addr) (cp : Nat) (hr_p : Rd w0 w0.heap.size 189 encD Ap p.cells) (x : Dy) (hla : p.cells.length ≤ 2305843009213693951) : Ret Tryz.prog 139 [.agg #[.int .i64 p.rows, .int .i64 p.cols, .slice Ap p.cells.length cp], .agg #[.int .i64 x.num.a, .int .i64 x.num.b, .int .i64 x.num.c, .int .i64 x.num.d, .int .i64 x.exp]] w0 (fun v w => ∃ A c, v = .tuple #[mV A c ((scaleI p x).getD mZ), .bool (scaleI p x).isSome] ∧ Own w w0.heap.size 189 5 encD A c ((scaleI p x).getD mZ).cells ∧ Below w0.heap.size w0 w) := by
 refine enter Tryz.func139 rfl 23 rfl rfl ?_
 intro a hf
 have hW : Below w0.heap.size w0 w0 := Below.refl _ _
 refine wp_seq_k ?_; intro K2 hK2
 refine wp_region_lit ?_
 refine l_eff hf trivial rfl rfl (ef_box (zs := [.int .i64 p.rows, .int .i64 p.cols, .slice Ap p.cells.length cp]) hf rfl rfl) ?_; rintro a _ w1 ⟨b3, rfl, hl3, hE, hB3⟩ hf
 have hlo3 := Nat.le_trans hW.size hl3
 replace hr_p := hr_p.below hE
 replace hW := hW.trans (hE.mono hW.size)
 clear hE
 refine l_eff hf trivial rfl rfl (ef_box (zs := [.int .i64 x.num.a, .int .i64 x.num.b, .int .i64 x.num.c, .int .i64 x.num.d, .int .i64 x.exp]) hf rfl rfl) ?_; rintro a _ w2 ⟨b4, rfl, hl4, hE, hB4⟩ hf
 have hlo4 := Nat.le_trans hW.size hl4
 have haw1_4 := hr_p.away hl4
 replace hB3 := hB3.below hE
 replace hr_p := hr_p.below hE
 replace hW := hW.trans (hE.mono hW.size)
 clear hE
 refine l_eff hf trivial rfl rfl (ef_alloc (zs := [.int .i64 0, .int .i64 0, .slice none 0 0]) z_141 rfl) ?_; rintro a _ w3 ⟨b6, rfl, hl6, hE, hB6⟩ hf
 have hne3_6 : b3 ≠ b6 := by have := hB3.lt; omega
 have hlo6 := Nat.le_trans hW.size hl6
 replace hB3 := hB3.below hE
 replace hB4 := hB4.below hE
 replace hr_p := hr_p.below hE
 replace hW := hW.trans (hE.mono hW.size)
 clear hE
 refine l_ev hf trivial rfl rfl (ev_assign hf rfl) ?_; intro a hf
 refine wpList_nil ?_
 refine hK2 _ _ ?_; try clear hK2 K2
 refine wp_seq_k ?_; intro K7 hK7
 refine wp_seq_k ?_; intro K8 hK8
 refine c_cut (fun a w => Fr a 23 [(2, .pointer (some ⟨b3, 0, none⟩)), (3, .pointer (some ⟨b4, 0, none⟩)), (4, .pointer (some ⟨b6, 0, none⟩)), (13, .bool ((!(mOk p)) || (!(dOk x))))] ∧ Below w3.heap.size w3 w) ?_ ?_
 ·have hEc : Below w3.heap.size w3 w3 := Below.refl _ _
  refine wp_region_lit ?_
  refine l_ev hf trivial rfl rfl (ev_loadN (l := [.int .i64 p.rows, .int .i64 p.cols, .slice Ap p.cells.length cp]) hf rfl tN_141 (hB3.at 0) rfl) ?_; intro a hf
  refine l_eff hf trivial rfl rfl (ef_call (vs := [.agg #[.int .i64 p.rows, .int .i64 p.cols, .slice Ap p.cells.length cp]]) hf rfl ff_138 (F138 _ p Ap cp hr_p.top hla)) ?_; rintro a _ w4 ⟨rfl, hE⟩ hf
  replace hB3 := hB3.below hE
  replace hB4 := hB4.below hE
  replace hB6 := hB6.below hE
  replace hr_p := hr_p.below hE
  replace hW := hW.trans (hE.mono hW.size)
  replace hEc := hEc.trans (hE.mono hEc.size)
  clear hE
  refine l_ev hf trivial rfl rfl (ev_not hf rfl) ?_; intro a hf
  refine l_ev hf trivial rfl rfl (ev_move hf rfl) ?_; intro a hf
  refine g_split hf (t := 9) rfl (fun hg9 => ?_) (fun hg9 => ?_)
  ·refine l_pass hf ⟨_, _, rfl, rfl, hg9⟩ rfl rfl ?_; intro a hf
   refine l_pass hf ⟨_, _, rfl, rfl, hg9⟩ rfl rfl ?_; intro a hf
   refine l_pass hf ⟨_, _, rfl, rfl, hg9⟩ rfl rfl ?_; intro a hf
   refine l_ev hf trivial rfl rfl (ev_pickT hf rfl hg9 rfl) ?_; intro a hf
   refine wpList_nil ?_
   have hEE : Below w3.heap.size w3 w4 := hEc
   exact ⟨hf.sub ⟨rfl, rfl, rfl, look_bool rfl (by first | rfl | simp [hg9]), trivial⟩, hEE⟩
  ·refine l_ev hf ⟨_, _, rfl, rfl, hg9⟩ rfl rfl (ev_loadN (l := [.int .i64 x.num.a, .int .i64 x.num.b, .int .i64 x.num.c, .int .i64 x.num.d, .int .i64 x.exp]) hf rfl tN_189 (hB4.at 0) rfl) ?_; intro a hf
   refine l_eff hf ⟨_, _, rfl, rfl, hg9⟩ rfl rfl (ef_call (vs := [.agg #[.int .i64 x.num.a, .int .i64 x.num.b, .int .i64 x.num.c, .int .i64 x.num.d, .int .i64 x.exp]]) hf rfl ff_193 (F193 _ x)) ?_; rintro a _ w5 ⟨rfl, hE⟩ hf
   replace hB3 := hB3.below hE
   replace hB4 := hB4.below hE
   replace hB6 := hB6.below hE
   replace hr_p := hr_p.below hE
   replace hW := hW.trans (hE.mono hW.size)
   replace hEc := hEc.trans (hE.mono hEc.size)
   clear hE
   refine l_ev hf ⟨_, _, rfl, rfl, hg9⟩ rfl rfl (ev_not hf rfl) ?_; intro a hf
   refine l_ev hf trivial rfl rfl (ev_pickF hf rfl hg9 rfl) ?_; intro a hf
   refine wpList_nil ?_
   have hEE : Below w3.heap.size w3 w5 := hEc
   exact ⟨hf.sub ⟨rfl, rfl, rfl, look_bool rfl (by first | rfl | simp [hg9]), trivial⟩, hEE⟩
 rintro a w6 ⟨hf, hE⟩
 replace hB3 := hB3.below hE
 replace hB4 := hB4.below hE
 replace hB6 := hB6.below hE
 replace hr_p := hr_p.below hE
 replace hW := hW.trans (hE.mono hW.size)
 clear hE
 refine hK8 _ _ ?_; try clear hK8 K8
 refine c_if hf rfl (fun hc10 => ?_) (fun hc10 => ?_)
 ·have hc10b := hc10
  have hn : (mOk p && dOk x) = false := by revert hc10; cases mOk p <;> cases dOk x <;> simp
  refine wp_seq_k ?_; intro K11 hK11
  refine wp_region_lit ?_
  refine l_ev hf trivial rfl rfl (ev_build (ps := []) (cs := [.int .i64 0, .int .i64 0, .slice none 0 0]) hf rfl (fun _ => by first | rfl | kernel_rfl)) ?_; intro a hf
  refine l_eff0 hf trivial rfl (ef_store (vs := [.int .i64 0, .int .i64 0, .slice none 0 0]) (l' := [.int .i64 0, .int .i64 0, .slice none 0 0]) hf rfl rfl sz_141 hB6 rfl rfl rfl rfl rfl) ?_; rintro a _ w7 ⟨ho, hb⟩ hf
  have hold := hB6
  replace hB3 := hB3.only ho (by omega)
  replace hB4 := hB4.only ho (Blk.ne hB4 hold rfl)
  replace hr_p := hr_p.onlyT ho hold rfl
  replace hW := Below.only hW ho hlo6
  clear hold
  have hB6 := hb
  clear hb ho
  refine l_ev hf trivial rfl rfl (ev_assign hf rfl) ?_; intro a hf
  refine wpList_nil ?_
  refine hK11 _ _ ?_; try clear hK11 K11
  refine wp_ret ?_
  refine x_retS ?_
  refine c_ret hf (res2 hf rfl (ResV.cellN (l := [.int .i64 0, .int .i64 0, .slice none 0 0]) rfl tN_141 (hB6.at 0) rfl) rfl) ?_
  exact ⟨none, 0, by rw [scaleI, hn]; rfl, by rw [scaleI, hn]; exact (Own.nil _ _ _ _ _), hW⟩
 ·have hc10b := hc10
  have hy : (mOk p && dOk x) = true := by revert hc10; cases mOk p <;> cases dOk x <;> simp
  have hy3 := (Bool.and_eq_true _ _ ▸ hy : mOk p = true ∧ dOk x = true)
  refine wp_skip ?_
  refine hK7 _ _ ?_; try clear hK7 K7
  refine wp_seq_k ?_; intro K13 hK13
  refine wp_region_lit ?_
  refine l_ev hf trivial rfl rfl (ev_fieldB hf rfl fd_141_0 (m := 0) rfl) ?_; intro a hf
  refine l_ev hf trivial rfl rfl (ev_load1 hf rfl t1_3 (hB3.at 0)) ?_; intro a hf
  refine l_ev hf trivial rfl rfl (ev_fieldB hf rfl fd_141_1 (m := 1) rfl) ?_; intro a hf
  refine l_ev hf trivial rfl rfl (ev_load1 hf rfl t1_3 (hB3.at 1)) ?_; intro a hf
  refine l_ev hf trivial rfl rfl (ev_makeFunc (vs := [.pointer (some ⟨b3, 0, none⟩), .pointer (some ⟨b4, 0, none⟩)]) hf rfl) ?_; intro a hf
  refine l_eff hf trivial rfl rfl (ef_call (vs := [.int .i64 p.rows, .int .i64 p.cols, .func (.func 194) #[] #[.pointer (some ⟨b3, 0, none⟩), .pointer (some ⟨b4, 0, none⟩)]]) hf rfl ff_185 (F185 _ p.rows p.cols 194 [.pointer (some ⟨b3, 0, none⟩), .pointer (some ⟨b4, 0, none⟩)] ff_194 (fun i j => dMulI (p.at i j) x) (fun i j w' hi hj hE' => F194 w' p x _ _ _ _ (hr_p.below hE').top (hB3.below hE') (hB4.below hE') hy3.1 i j hi hj))) ?_; rintro a _ w8 ⟨A14, c14, rfl, ho14, hE⟩ hf
  have haw14_4 := ho14.awayNew hB4.lt
  replace ho14 := ho14.lower hW.size
  replace hB3 := hB3.below hE
  replace hB4 := hB4.below hE
  replace hB6 := hB6.below hE
  replace hr_p := hr_p.below hE
  replace hW := hW.trans (hE.mono hW.size)
  clear hE
  refine l_ev hf trivial rfl rfl (ev_extract (vs := [.agg #[.int .i64 (((matOf p.rows p.cols (fun i j => dMulI (p.at i j) x)).getD mZ).rows), .int .i64 (((matOf p.rows p.cols (fun i j => dMulI (p.at i j) x)).getD mZ).cols), .slice A14 (((matOf p.rows p.cols (fun i j => dMulI (p.at i j) x)).getD mZ).cells).length c14], .bool ((matOf p.rows p.cols (fun i j => dMulI (p.at i j) x)).isSome)]) hf rfl rfl) ?_; intro a hf
  refine l_ev hf trivial rfl rfl (ev_extract (vs := [.agg #[.int .i64 (((matOf p.rows p.cols (fun i j => dMulI (p.at i j) x)).getD mZ).rows), .int .i64 (((matOf p.rows p.cols (fun i j => dMulI (p.at i j) x)).getD mZ).cols), .slice A14 (((matOf p.rows p.cols (fun i j => dMulI (p.at i j) x)).getD mZ).cells).length c14], .bool ((matOf p.rows p.cols (fun i j => dMulI (p.at i j) x)).isSome)]) hf rfl rfl) ?_; intro a hf
  refine l_eff0 hf trivial rfl (ef_store (vs := [.int .i64 (((matOf p.rows p.cols (fun i j => dMulI (p.at i j) x)).getD mZ).rows), .int .i64 (((matOf p.rows p.cols (fun i j => dMulI (p.at i j) x)).getD mZ).cols), .slice A14 (((matOf p.rows p.cols (fun i j => dMulI (p.at i j) x)).getD mZ).cells).length c14]) (l' := [.int .i64 (((matOf p.rows p.cols (fun i j => dMulI (p.at i j) x)).getD mZ).rows), .int .i64 (((matOf p.rows p.cols (fun i j => dMulI (p.at i j) x)).getD mZ).cols), .slice A14 (((matOf p.rows p.cols (fun i j => dMulI (p.at i j) x)).getD mZ).cells).length c14]) hf rfl rfl sz_141 hB6 rfl rfl rfl rfl rfl) ?_; rintro a _ w9 ⟨ho, hb⟩ hf
  have hold := hB6
  replace hB3 := hB3.only ho (by omega)
  replace hB4 := hB4.only ho (Blk.ne hB4 hold rfl)
  replace hr_p := hr_p.onlyT ho hold rfl
  replace ho14 := ho14.onlyT ho hold rfl
  replace hW := Below.only hW ho hlo6
  clear hold
  have hB6 := hb
  clear hb ho
  refine l_ev hf trivial rfl rfl (ev_assign hf rfl) ?_; intro a hf
  refine wpList_nil ?_
  refine hK13 _ _ ?_; try clear hK13 K13
  refine wp_ret ?_
  refine c_ret hf (res2 hf rfl (ResV.cellN (l := [.int .i64 (((matOf p.rows p.cols (fun i j => dMulI (p.at i j) x)).getD mZ).rows), .int .i64 (((matOf p.rows p.cols (fun i j => dMulI (p.at i j) x)).getD mZ).cols), .slice A14 (((matOf p.rows p.cols (fun i j => dMulI (p.at i j) x)).getD mZ).cells).length c14]) rfl tN_141 (hB6.at 0) rfl) rfl) ?_
  exact ⟨A14, c14, by rw [scaleI, if_pos hy], by rw [scaleI, if_pos hy]; exact ho14, hW⟩
theorem F198 (w0 : World) (Ap : Option Addr) (cp : Nat) (p : List Dy) (hr_p : Rd w0 w0.heap.size 189 encD Ap p) (Aq : Option Addr) (cq : Nat) (q : List Dy) (hr_q : Rd w0 w0.heap.size 189 encD Aq q) (hln : p.length ≤ 2305843009213693951) : Ret Tryz.prog 198 [.slice Ap p.length cp, .slice Aq q.length cq] w0 (fun v w => v = .bool (decide (p = q)) ∧ Below w0.heap.size w0 w) := by
 refine enter Tryz.func198 rfl 26 rfl rfl ?_
 intro a hf
 have hW : Below w0.heap.size w0 w0 := Below.refl _ _
 refine wp_seq_k ?_; intro K3 hK3
 refine wp_region_lit ?_
 refine l_ev hf trivial rfl rfl (ev_assign hf rfl) ?_; intro a hf
 refine wpList_nil ?_
 refine hK3 _ _ ?_; try clear hK3 K3
 refine wp_seq_k ?_; intro K4 hK4
 refine wp_seq_k ?_; intro K5 hK5
 refine wp_region_lit ?_
 refine l_ev hf trivial rfl rfl (ev_move hf rfl) ?_; intro a hf
 refine l_ev hf trivial rfl rfl (ev_len hf rfl sl_139) ?_; intro a hf
 refine l_ev hf trivial rfl rfl (ev_move hf rfl) ?_; intro a hf
 refine l_ev hf trivial rfl rfl (ev_len hf rfl sl_139) ?_; intro a hf
 refine l_ev hf trivial rfl rfl (ev_neq hf rfl rfl) ?_; intro a hf
 refine wpList_nil ?_
 refine hK5 _ _ ?_; try clear hK5 K5
 refine c_if hf rfl (fun hc6 => ?_) (fun hc6 => ?_)
 ·have hc6b := hc6
  have hne : ¬ p = q := by intro h9; rw [h9] at hc6; simp at hc6
  refine wp_seq_k ?_; intro K7 hK7
  refine wp_region_lit ?_
  refine l_ev hf trivial rfl rfl (ev_assign hf rfl) ?_; intro a hf
  refine wpList_nil ?_
  refine hK7 _ _ ?_; try clear hK7 K7
  refine wp_ret ?_
  refine x_retS ?_
  refine c_ret hf (res1 hf rfl rfl) ?_
  exact ⟨by simp [hne], hW⟩
 ·have hc6b := hc6
  have hll : p.length = q.length := by have h9 : (p.length : Int) = q.length := (by simpa using hc6); omega
  refine wp_skip ?_
  refine hK4 _ _ ?_; try clear hK4 K4
  refine wp_seq_k ?_; intro K8 hK8
  refine wp_seq_k ?_; intro K9 hK9
  refine wp_region_lit ?_
  refine l_ev hf trivial rfl rfl (ev_move hf rfl) ?_; intro a hf
  refine l_ev hf trivial rfl rfl (ev_len hf rfl sl_139) ?_; intro a hf
  refine l_ev hf trivial rfl rfl (ev_move hf rfl) ?_; intro a hf
  refine wpList_nil ?_
  refine hK9 _ _ ?_; try clear hK9 K9
  refine wp_block ?_
  refine c_loop (σ := Nat) (fun (k : Nat) (a : Act) (w : World) => Fr a 26 [(0, .slice Ap p.length cp), (1, .slice Aq q.length cq), (12, .int .i64 (p.length : Int)), (13, .int .i64 (k : Int))] ∧ (k ≤ p.length) ∧ (p.take k = q.take k) ∧ Rd w w0.heap.size 189 encD Ap p ∧ Rd w w0.heap.size 189 encD Aq q ∧ Below w0.heap.size w0 w) (fun (k : Nat) => p.length - k) 0 ?_ ?_
  · exact ⟨hf.sub ⟨rfl, rfl, rfl, rfl, trivial⟩, (Nat.zero_le _), (by simp), hr_p, hr_q, hW⟩
  rintro k a w1 ⟨hf, hk, hpre, hr_p, hr_q, hW⟩
  refine wp_seq_k ?_; intro K10 hK10
  refine wp_region_lit ?_
  refine l_ev hf trivial rfl rfl (ev_lss hf rfl rfl) ?_; intro a hf
  refine wpList_nil ?_
  refine hK10 _ _ ?_; try clear hK10 K10
  refine wp_seq_k ?_; intro K11 hK11
  refine c_if hf rfl (fun hc12 => ?_) (fun hc12 => ?_)
  ·have hc12b := hc12
   have hc12 := of_decide_eq_true hc12
   obtain ⟨u13, hu13⟩ := getElem_ex (l := p) (k := k) (by omega)
   obtain ⟨v9, hv9⟩ := getElem_ex (l := q) (k := k) (by omega)
   refine wp_skip ?_
   refine hK11 _ _ ?_; try clear hK11 K11
   refine wp_seq_k ?_; intro K14 hK14
   refine wp_block ?_
   refine wp_seq_k ?_; intro K15 hK15
   refine wp_region_lit ?_
   refine l_ev hf trivial rfl rfl (ev_move hf rfl) ?_; intro a hf
   refine l_ev hf trivial rfl rfl (ev_assign hf rfl) ?_; intro a hf
   refine wpList_nil ?_
   refine hK15 _ _ ?_; try clear hK15 K15
   refine wp_seq_k ?_; intro K16 hK16
   refine wp_draw none (fun _ => false) mixed ?_
   intro w2 hE
   replace hr_p := hr_p.below hE
   replace hr_q := hr_q.below hE
   replace hW := hW.trans (hE.mono hW.size)
   clear hE
   refine s_ev0 0 rfl (by kernel_rfl) hf trivial rfl rfl (fun _ => ev_move hf rfl) ?_; intro a hf
   refine s_ev0 1 rfl (by kernel_rfl) hf trivial rfl rfl (fun _ => ev_move hf rfl) ?_; intro a hf
   refine s_index (k := k) (u := u13) (enc := encD) (l := p) 2 rfl (by kernel_rfl) (by kernel_rfl) hf trivial rfl rfl rfl sl_139 sz_189 encD_len hr_p hu13 rfl ?_; intro a p18 hat17 hf
   refine s_ev 3 rfl (by kernel_rfl) (by kernel_rfl) hf trivial rfl rfl (ev_loadN (l := [.int .i64 u13.num.a, .int .i64 u13.num.b, .int .i64 u13.num.c, .int .i64 u13.num.d, .int .i64 u13.exp]) hf rfl tN_189 hat17 rfl) ?_; intro a hf
   refine s_ev0 4 rfl (by kernel_rfl) hf trivial rfl rfl (fun _ => ev_move hf rfl) ?_; intro a hf
   refine s_ev0 5 rfl (by kernel_rfl) hf trivial rfl rfl (fun _ => ev_move hf rfl) ?_; intro a hf
   refine s_index (k := k) (u := v9) (enc := encD) (l := q) 6 rfl (by kernel_rfl) (by kernel_rfl) hf trivial rfl rfl rfl sl_139 sz_189 encD_len hr_q hv9 rfl ?_; intro a p20 hat19 hf
   refine s_ev 7 rfl (by kernel_rfl) (by kernel_rfl) hf trivial rfl rfl (ev_loadN (l := [.int .i64 v9.num.a, .int .i64 v9.num.b, .int .i64 v9.num.c, .int .i64 v9.num.d, .int .i64 v9.exp]) hf rfl tN_189 hat19 rfl) ?_; intro a hf
   refine s_ev0 8 rfl (by kernel_rfl) hf trivial rfl rfl (fun _ => ev_neqS hf rfl rfl gd_189 (fun w => eqD 9997 u13 v9 w)) ?_; intro a hf
   refine s_done (by kernel_rfl) ?_
   refine hK16 _ _ ?_; try clear hK16 K16
   refine c_if hf rfl (fun hc21 => ?_) (fun hc21 => ?_)
   ·have hc21b := hc21
    have hne : ¬ p = q := by rintro rfl; rw [hu13] at hv9; injection hv9 with e9; revert hc21; simp [e9]
    refine wp_seq_k ?_; intro K22 hK22
    refine wp_region_lit ?_
    refine l_ev hf trivial rfl rfl (ev_assign hf rfl) ?_; intro a hf
    refine wpList_nil ?_
    refine hK22 _ _ ?_; try clear hK22 K22
    refine wp_ret ?_
    refine x_retB ?_
    refine x_retS ?_
    refine x_retS ?_
    refine x_retB ?_
    refine x_retS ?_
    refine c_ret hf (res1 hf rfl rfl) ?_
    exact ⟨by simp [hne], hW⟩
   ·have hc21b := hc21
    have he9 : u13 = v9 := by revert hc21; simp
    refine wp_skip ?_
    refine x_norm ?_
    refine hK14 _ _ ?_; try clear hK14 K14
    refine wp_region_lit ?_
    refine l_ev hf trivial rfl rfl (ev_addx hf rfl rfl (by omega) (by omega)) ?_; intro a hf
    refine l_ev hf trivial rfl rfl (ev_move hf rfl) ?_; intro a hf
    refine wpList_nil ?_
    refine x_thenN ?_
    exact ⟨k + 1, ⟨hf.sub ⟨rfl, rfl, rfl, rfl, trivial⟩, (by omega), (take_eq hpre hu13 hv9 he9), hr_p, hr_q, hW⟩, (by omega)⟩
  ·have hc12b := hc12
   have hc12 := of_decide_eq_false hc12
   refine wp_exit ?_
   refine x_exS ?_
   refine x_exS ?_
   refine x_exit ?_
   refine hK8 _ _ ?_; try clear hK8 K8
   refine wp_seq_k ?_; intro K23 hK23
   refine wp_region_lit ?_
   refine l_ev hf trivial rfl rfl (ev_assign hf rfl) ?_; intro a hf
   refine wpList_nil ?_
   refine hK23 _ _ ?_; try clear hK23 K23
   refine wp_ret ?_
   refine c_ret hf (res1 hf rfl rfl) ?_
   have he : p = q := by rw [List.take_of_length_le (by omega), List.take_of_length_le (by omega)] at hpre; exact hpre
   exact ⟨by simp [he], hW⟩
theorem F141 (w0 : World) (p : Mx) (Ap : Option Addr) (cp : Nat) (hr_p : Rd w0 w0.heap.size 189 encD Ap p.cells) (q : Mx) (Aq : Option Addr) (cq : Nat) (hr_q : Rd w0 w0.heap.size 189 encD Aq q.cells) (hln : p.cells.length ≤ 2305843009213693951) : Ret Tryz.prog 141 [.agg #[.int .i64 p.rows, .int .i64 p.cols, .slice Ap p.cells.length cp], .agg #[.int .i64 q.rows, .int .i64 q.cols, .slice Aq q.cells.length cq]] w0 (fun v w => v = .bool (decide (p.rows = q.rows) && decide (p.cols = q.cols) && decide (p.cells = q.cells)) ∧ Below w0.heap.size w0 w) := by
 refine enter Tryz.func141 rfl 24 rfl rfl ?_
 intro a hf
 have hW : Below w0.heap.size w0 w0 := Below.refl _ _
 refine wp_seq_k ?_; intro K3 hK3
 refine wp_region_lit ?_
 refine l_eff hf trivial rfl rfl (ef_box (zs := [.int .i64 p.rows, .int .i64 p.cols, .slice Ap p.cells.length cp]) hf rfl rfl) ?_; rintro a _ w1 ⟨b4, rfl, hl4, hE, hB4⟩ hf
 have hlo4 := Nat.le_trans hW.size hl4
 replace hr_p := hr_p.below hE
 replace hr_q := hr_q.below hE
 replace hW := hW.trans (hE.mono hW.size)
 clear hE
 refine l_eff hf trivial rfl rfl (ef_box (zs := [.int .i64 q.rows, .int .i64 q.cols, .slice Aq q.cells.length cq]) hf rfl rfl) ?_; rintro a _ w2 ⟨b5, rfl, hl5, hE, hB5⟩ hf
 have hne4_5 : b4 ≠ b5 := by have := hB4.lt; omega
 have hlo5 := Nat.le_trans hW.size hl5
 replace hB4 := hB4.below hE
 replace hr_p := hr_p.below hE
 replace hr_q := hr_q.below hE
 replace hW := hW.trans (hE.mono hW.size)
 clear hE
 refine l_ev hf trivial rfl rfl (ev_assign hf rfl) ?_; intro a hf
 refine wpList_nil ?_
 refine hK3 _ _ ?_; try clear hK3 K3
 refine wp_seq_k ?_; intro K6 hK6
 refine c_cut (fun a w => Fr a 24 [(4, .bool (((p.rows == q.rows) && (p.cols == q.cols)) && (decide (p.cells = q.cells))))] ∧ Below w2.heap.size w2 w) ?_ ?_
 ·have hEc : Below w2.heap.size w2 w2 := Below.refl _ _
  refine wp_region_lit ?_
  refine l_ev hf trivial rfl rfl (ev_fieldB hf rfl fd_141_0 (m := 0) rfl) ?_; intro a hf
  refine l_ev hf trivial rfl rfl (ev_load1 hf rfl t1_3 (hB4.at 0)) ?_; intro a hf
  refine l_ev hf trivial rfl rfl (ev_fieldB hf rfl fd_141_0 (m := 0) rfl) ?_; intro a hf
  refine l_ev hf trivial rfl rfl (ev_load1 hf rfl t1_3 (hB5.at 0)) ?_; intro a hf
  refine l_ev hf trivial rfl rfl (ev_eql hf rfl rfl) ?_; intro a hf
  refine l_ev hf trivial rfl rfl (ev_move hf rfl) ?_; intro a hf
  refine g_split hf (t := 10) rfl (fun hg7 => ?_) (fun hg7 => ?_)
  ·refine l_ev hf ⟨_, _, rfl, rfl, hg7⟩ rfl rfl (ev_fieldB hf rfl fd_141_1 (m := 1) rfl) ?_; intro a hf
   refine l_ev hf ⟨_, _, rfl, rfl, hg7⟩ rfl rfl (ev_load1 hf rfl t1_3 (hB4.at 1)) ?_; intro a hf
   refine l_ev hf ⟨_, _, rfl, rfl, hg7⟩ rfl rfl (ev_fieldB hf rfl fd_141_1 (m := 1) rfl) ?_; intro a hf
   refine l_ev hf ⟨_, _, rfl, rfl, hg7⟩ rfl rfl (ev_load1 hf rfl t1_3 (hB5.at 1)) ?_; intro a hf
   refine l_ev hf ⟨_, _, rfl, rfl, hg7⟩ rfl rfl (ev_eql hf rfl rfl) ?_; intro a hf
   refine l_ev hf trivial rfl rfl (ev_pickT hf rfl hg7 rfl) ?_; intro a hf
   refine l_ev hf trivial rfl rfl (ev_move hf rfl) ?_; intro a hf
   refine g_split hf (t := 17) rfl (fun hg8 => ?_) (fun hg8 => ?_)
   ·refine l_ev hf ⟨_, _, rfl, rfl, hg8⟩ rfl rfl (ev_fieldB hf rfl fd_141_2 (m := 2) rfl) ?_; intro a hf
    refine l_ev hf ⟨_, _, rfl, rfl, hg8⟩ rfl rfl (ev_load1 hf rfl t1_139 (hB4.at 2)) ?_; intro a hf
    refine l_ev hf ⟨_, _, rfl, rfl, hg8⟩ rfl rfl (ev_fieldB hf rfl fd_141_2 (m := 2) rfl) ?_; intro a hf
    refine l_ev hf ⟨_, _, rfl, rfl, hg8⟩ rfl rfl (ev_load1 hf rfl t1_139 (hB5.at 2)) ?_; intro a hf
    refine l_eff hf ⟨_, _, rfl, rfl, hg8⟩ rfl rfl (ef_call (vs := [.slice Ap p.cells.length cp, .slice Aq q.cells.length cq]) hf rfl ff_198 (F198 _ Ap cp p.cells hr_p.top Aq cq q.cells hr_q.top (by assumption))) ?_; rintro a _ w3 ⟨rfl, hE⟩ hf
    replace hB4 := hB4.below hE
    replace hB5 := hB5.below hE
    replace hr_p := hr_p.below hE
    replace hr_q := hr_q.below hE
    replace hW := hW.trans (hE.mono hW.size)
    replace hEc := hEc.trans (hE.mono hEc.size)
    clear hE
    refine l_ev hf trivial rfl rfl (ev_pickT hf rfl hg8 rfl) ?_; intro a hf
    refine l_ev hf trivial rfl rfl (ev_assign hf rfl) ?_; intro a hf
    refine wpList_nil ?_
    have hEE : Below w2.heap.size w2 w3 := hEc
    exact ⟨hf.sub ⟨look_bool rfl (by first | rfl | simp [hg7, hg8]), trivial⟩, hEE⟩
   ·refine l_pass hf ⟨_, _, rfl, rfl, hg8⟩ rfl rfl ?_; intro a hf
    refine l_pass hf ⟨_, _, rfl, rfl, hg8⟩ rfl rfl ?_; intro a hf
    refine l_pass hf ⟨_, _, rfl, rfl, hg8⟩ rfl rfl ?_; intro a hf
    refine l_pass hf ⟨_, _, rfl, rfl, hg8⟩ rfl rfl ?_; intro a hf
    refine l_pass hf ⟨_, _, rfl, rfl, hg8⟩ rfl rfl ?_; intro a hf
    refine l_ev hf trivial rfl rfl (ev_pickF hf rfl hg8 rfl) ?_; intro a hf
    refine l_ev hf trivial rfl rfl (ev_assign hf rfl) ?_; intro a hf
    refine wpList_nil ?_
    have hEE : Below w2.heap.size w2 w2 := hEc
    exact ⟨hf.sub ⟨look_bool rfl (by first | rfl | simp [hg7, hg8]), trivial⟩, hEE⟩
  ·refine l_pass hf ⟨_, _, rfl, rfl, hg7⟩ rfl rfl ?_; intro a hf
   refine l_pass hf ⟨_, _, rfl, rfl, hg7⟩ rfl rfl ?_; intro a hf
   refine l_pass hf ⟨_, _, rfl, rfl, hg7⟩ rfl rfl ?_; intro a hf
   refine l_pass hf ⟨_, _, rfl, rfl, hg7⟩ rfl rfl ?_; intro a hf
   refine l_pass hf ⟨_, _, rfl, rfl, hg7⟩ rfl rfl ?_; intro a hf
   refine l_ev hf trivial rfl rfl (ev_pickF hf rfl hg7 rfl) ?_; intro a hf
   refine l_ev hf trivial rfl rfl (ev_move hf rfl) ?_; intro a hf
   refine l_pass hf ⟨_, _, rfl, rfl, rfl⟩ rfl rfl ?_; intro a hf
   refine l_pass hf ⟨_, _, rfl, rfl, rfl⟩ rfl rfl ?_; intro a hf
   refine l_pass hf ⟨_, _, rfl, rfl, rfl⟩ rfl rfl ?_; intro a hf
   refine l_pass hf ⟨_, _, rfl, rfl, rfl⟩ rfl rfl ?_; intro a hf
   refine l_pass hf ⟨_, _, rfl, rfl, rfl⟩ rfl rfl ?_; intro a hf
   refine l_ev hf trivial rfl rfl (ev_pickF hf rfl rfl rfl) ?_; intro a hf
   refine l_ev hf trivial rfl rfl (ev_assign hf rfl) ?_; intro a hf
   refine wpList_nil ?_
   have hEE : Below w2.heap.size w2 w2 := hEc
   exact ⟨hf.sub ⟨look_bool rfl (by first | rfl | simp [hg7]), trivial⟩, hEE⟩
 rintro a w4 ⟨hf, hE⟩
 replace hB4 := hB4.below hE
 replace hB5 := hB5.below hE
 replace hr_p := hr_p.below hE
 replace hr_q := hr_q.below hE
 replace hW := hW.trans (hE.mono hW.size)
 clear hE
 refine hK6 _ _ ?_; try clear hK6 K6
 refine wp_ret ?_
 refine c_ret hf (res1 hf rfl rfl) ?_
 exact ⟨rfl, hW⟩
end Go.Proofs.YtfgnmflfiobkmaaGreat
set_option maxRecDepth 4000
namespace Go.Proofs.YtfgnmflfiobkmaaGreat
open Go.RowKit
theorem F106 (w0 : World) (n : Int) (x : Gt) : Ret Tryz.prog 106 [.int .i64 n, .agg #[.int .i64 x.k, .int .i64 x.a, .int .i64 x.b]] w0 (fun v w => v = .bool (gOk n x) ∧ Below w0.heap.size w0 w) := by
 refine enter Tryz.func106 rfl 60 rfl rfl ?_
 intro a hf
 have hW : Below w0.heap.size w0 w0 := Below.refl _ _
 refine wp_seq_k ?_; intro K1 hK1
 refine wp_region_lit ?_
 refine l_eff hf trivial rfl rfl (ef_box (zs := [.int .i64 x.k, .int .i64 x.a, .int .i64 x.b]) hf rfl rfl) ?_; rintro a _ w1 ⟨b2, rfl, hl2, hE, hB2⟩ hf
 have hlo2 := Nat.le_trans hW.size hl2
 replace hW := hW.trans (hE.mono hW.size)
 clear hE
 refine l_ev hf trivial rfl rfl (ev_assign hf rfl) ?_; intro a hf
 refine wpList_nil ?_
 refine hK1 _ _ ?_; try clear hK1 K1
 refine wp_seq_k ?_; intro K3 hK3
 refine wp_block ?_
 refine wp_seq_k ?_; intro K4 hK4
 refine c_cut (fun a w => Fr a 60 [(0, .int .i64 n), (3, .pointer (some ⟨b2, 0, none⟩)), (5, .bool ((!(inR n 1 5)) || (!(inR x.k 1 12))))] ∧ w1 = w) ?_ ?_
 ·refine wp_region_lit ?_
  refine l_ev hf trivial rfl rfl (ev_move hf rfl) ?_; intro a hf
  refine l_eff hf trivial rfl rfl (ef_call (vs := [.int .i64 n, .int .i64 1, .int .i64 5]) hf rfl ff_91 (F91 _ n 1 5)) ?_; rintro a _ _ ⟨rfl, rfl⟩ hf
  refine l_ev hf trivial rfl rfl (ev_not hf rfl) ?_; intro a hf
  refine l_ev hf trivial rfl rfl (ev_move hf rfl) ?_; intro a hf
  refine g_split hf (t := 9) rfl (fun hg5 => ?_) (fun hg5 => ?_)
  ·refine l_pass hf ⟨_, _, rfl, rfl, hg5⟩ rfl rfl ?_; intro a hf
   refine l_pass hf ⟨_, _, rfl, rfl, hg5⟩ rfl rfl ?_; intro a hf
   refine l_pass hf ⟨_, _, rfl, rfl, hg5⟩ rfl rfl ?_; intro a hf
   refine l_pass hf ⟨_, _, rfl, rfl, hg5⟩ rfl rfl ?_; intro a hf
   refine l_ev hf trivial rfl rfl (ev_pickT hf rfl hg5 rfl) ?_; intro a hf
   refine l_ev hf trivial rfl rfl (ev_assign hf rfl) ?_; intro a hf
   refine wpList_nil ?_
   exact ⟨hf.sub ⟨rfl, rfl, look_bool rfl (by first | rfl | simp [hg5]), trivial⟩, rfl⟩
  ·refine l_ev hf ⟨_, _, rfl, rfl, hg5⟩ rfl rfl (ev_fieldB hf rfl fd_107_0 (m := 0) rfl) ?_; intro a hf
   refine l_ev hf ⟨_, _, rfl, rfl, hg5⟩ rfl rfl (ev_load1 hf rfl t1_3 (hB2.at 0)) ?_; intro a hf
   refine l_eff hf ⟨_, _, rfl, rfl, hg5⟩ rfl rfl (ef_call (vs := [.int .i64 x.k, .int .i64 1, .int .i64 12]) hf rfl ff_91 (F91 _ x.k 1 12)) ?_; rintro a _ _ ⟨rfl, rfl⟩ hf
   refine l_ev hf ⟨_, _, rfl, rfl, hg5⟩ rfl rfl (ev_not hf rfl) ?_; intro a hf
   refine l_ev hf trivial rfl rfl (ev_pickF hf rfl hg5 rfl) ?_; intro a hf
   refine l_ev hf trivial rfl rfl (ev_assign hf rfl) ?_; intro a hf
   refine wpList_nil ?_
   exact ⟨hf.sub ⟨rfl, rfl, look_bool rfl (by first | rfl | simp [hg5]), trivial⟩, rfl⟩
 rintro a _ ⟨hf, rfl⟩
 refine hK4 _ _ ?_; try clear hK4 K4
 refine c_if hf rfl (fun hc6 => ?_) (fun hc6 => ?_)
 ·have hc6b := hc6
  have hn := or2_false hc6
  refine wp_seq_k ?_; intro K7 hK7
  refine wp_region_lit ?_
  refine l_ev hf trivial rfl rfl (ev_assign hf rfl) ?_; intro a hf
  refine wpList_nil ?_
  refine hK7 _ _ ?_; try clear hK7 K7
  refine wp_ret ?_
  refine x_retB ?_
  refine x_retS ?_
  refine c_ret hf (res1 hf rfl rfl) ?_
  exact ⟨by rw [gOk, hn]; rfl, hW⟩
 ·have hc6b := hc6
  have hy := or2_true hc6
  have hy2 := (Bool.and_eq_true _ _ ▸ hy : inR n 1 5 = true ∧ inR x.k 1 12 = true)
  have hnn := inR_iff.1 hy2.1
  refine wp_seq_k ?_; intro K8 hK8
  refine wp_region_lit ?_
  refine l_ev hf trivial rfl rfl (ev_fieldB hf rfl fd_107_0 (m := 0) rfl) ?_; intro a hf
  refine l_ev hf trivial rfl rfl (ev_load1 hf rfl t1_3 (hB2.at 0)) ?_; intro a hf
  refine l_ev hf trivial rfl rfl (ev_eql hf rfl rfl) ?_; intro a hf
  refine l_ev hf trivial rfl rfl (ev_assign hf rfl) ?_; intro a hf
  refine wpList_nil ?_
  refine hK8 _ _ ?_; try clear hK8 K8
  refine c_if hf rfl (fun hc9 => ?_) (fun hc9 => ?_)
  ·have hc9b := hc9
   have hk : x.k = 12 := by simpa using hc9
   refine wp_seq_k ?_; intro K10 hK10
   refine c_cut (fun a w => Fr a 60 [(4, .bool ((x.a == 0) && (x.b == 0)))] ∧ w1 = w) ?_ ?_
   ·refine wp_region_lit ?_
    refine l_ev hf trivial rfl rfl (ev_fieldB hf rfl fd_107_1 (m := 1) rfl) ?_; intro a hf
    refine l_ev hf trivial rfl rfl (ev_load1 hf rfl t1_3 (hB2.at 1)) ?_; intro a hf
    refine l_ev hf trivial rfl rfl (ev_eql hf rfl rfl) ?_; intro a hf
    refine l_ev hf trivial rfl rfl (ev_move hf rfl) ?_; intro a hf
    refine g_split hf (t := 22) rfl (fun hg11 => ?_) (fun hg11 => ?_)
    ·refine l_ev hf ⟨_, _, rfl, rfl, hg11⟩ rfl rfl (ev_fieldB hf rfl fd_107_2 (m := 2) rfl) ?_; intro a hf
     refine l_ev hf ⟨_, _, rfl, rfl, hg11⟩ rfl rfl (ev_load1 hf rfl t1_3 (hB2.at 2)) ?_; intro a hf
     refine l_ev hf ⟨_, _, rfl, rfl, hg11⟩ rfl rfl (ev_eql hf rfl rfl) ?_; intro a hf
     refine l_ev hf trivial rfl rfl (ev_pickT hf rfl hg11 rfl) ?_; intro a hf
     refine l_ev hf trivial rfl rfl (ev_assign hf rfl) ?_; intro a hf
     refine wpList_nil ?_
     exact ⟨hf.sub ⟨look_bool rfl (by first | rfl | simp [hc6b, hc9b, hg11]), trivial⟩, rfl⟩
    ·refine l_pass hf ⟨_, _, rfl, rfl, hg11⟩ rfl rfl ?_; intro a hf
     refine l_pass hf ⟨_, _, rfl, rfl, hg11⟩ rfl rfl ?_; intro a hf
     refine l_pass hf ⟨_, _, rfl, rfl, hg11⟩ rfl rfl ?_; intro a hf
     refine l_ev hf trivial rfl rfl (ev_pickF hf rfl hg11 rfl) ?_; intro a hf
     refine l_ev hf trivial rfl rfl (ev_assign hf rfl) ?_; intro a hf
     refine wpList_nil ?_
     exact ⟨hf.sub ⟨look_bool rfl (by first | rfl | simp [hc6b, hc9b, hg11]), trivial⟩, rfl⟩
   rintro a _ ⟨hf, rfl⟩
   refine hK10 _ _ ?_; try clear hK10 K10
   refine wp_ret ?_
   refine x_retB ?_
   refine x_retS ?_
   refine c_ret hf (res1 hf rfl rfl) ?_
   exact ⟨by rw [gOk, hy, if_pos hk, Bool.true_and], hW⟩
  ·have hc9b := hc9
   have hk : ¬ x.k = 12 := by simpa using hc9
   refine wp_seq_k ?_; intro K12 hK12
   refine wp_region_lit ?_
   refine l_ev hf trivial rfl rfl (ev_fieldB hf rfl fd_107_0 (m := 0) rfl) ?_; intro a hf
   refine l_ev hf trivial rfl rfl (ev_load1 hf rfl t1_3 (hB2.at 0)) ?_; intro a hf
   refine l_eff hf trivial rfl rfl (ef_call (vs := [.int .i64 x.k]) hf rfl ff_99 (F99 _ x.k)) ?_; rintro a _ _ ⟨rfl, rfl⟩ hf
   refine l_ev hf trivial rfl rfl (ev_assign hf rfl) ?_; intro a hf
   refine wpList_nil ?_
   refine hK12 _ _ ?_; try clear hK12 K12
   refine c_if hf rfl (fun hc13 => ?_) (fun hc13 => ?_)
   ·have hc13b := hc13
    have hk2 := hc13
    refine wp_seq_k ?_; intro K14 hK14
    refine c_cut (fun a w => Fr a 60 [(4, .bool (((inR x.a 0 (n - 1)) && (inR x.b 0 (n - 1))) && (x.a != x.b)))] ∧ w1 = w) ?_ ?_
    ·refine wp_region_lit ?_
     refine l_ev hf trivial rfl rfl (ev_fieldB hf rfl fd_107_1 (m := 1) rfl) ?_; intro a hf
     refine l_ev hf trivial rfl rfl (ev_load1 hf rfl t1_3 (hB2.at 1)) ?_; intro a hf
     refine l_ev hf trivial rfl rfl (ev_move hf rfl) ?_; intro a hf
     refine l_ev hf trivial rfl rfl (ev_subx hf rfl rfl (by omega) (by omega)) ?_; intro a hf
     refine l_eff hf trivial rfl rfl (ef_call (vs := [.int .i64 x.a, .int .i64 0, .int .i64 (n - 1)]) hf rfl ff_91 (F91 _ x.a 0 (n - 1))) ?_; rintro a _ _ ⟨rfl, rfl⟩ hf
     refine l_ev hf trivial rfl rfl (ev_move hf rfl) ?_; intro a hf
     refine g_split hf (t := 36) rfl (fun hg15 => ?_) (fun hg15 => ?_)
     ·refine l_ev hf ⟨_, _, rfl, rfl, hg15⟩ rfl rfl (ev_fieldB hf rfl fd_107_2 (m := 2) rfl) ?_; intro a hf
      refine l_ev hf ⟨_, _, rfl, rfl, hg15⟩ rfl rfl (ev_load1 hf rfl t1_3 (hB2.at 2)) ?_; intro a hf
      refine l_ev hf ⟨_, _, rfl, rfl, hg15⟩ rfl rfl (ev_move hf rfl) ?_; intro a hf
      refine l_ev hf ⟨_, _, rfl, rfl, hg15⟩ rfl rfl (ev_subx hf rfl rfl (by omega) (by omega)) ?_; intro a hf
      refine l_eff hf ⟨_, _, rfl, rfl, hg15⟩ rfl rfl (ef_call (vs := [.int .i64 x.b, .int .i64 0, .int .i64 (n - 1)]) hf rfl ff_91 (F91 _ x.b 0 (n - 1))) ?_; rintro a _ _ ⟨rfl, rfl⟩ hf
      refine l_ev hf trivial rfl rfl (ev_pickT hf rfl hg15 rfl) ?_; intro a hf
      refine l_ev hf trivial rfl rfl (ev_move hf rfl) ?_; intro a hf
      refine g_split hf (t := 43) rfl (fun hg16 => ?_) (fun hg16 => ?_)
      ·refine l_ev hf ⟨_, _, rfl, rfl, hg16⟩ rfl rfl (ev_fieldB hf rfl fd_107_1 (m := 1) rfl) ?_; intro a hf
       refine l_ev hf ⟨_, _, rfl, rfl, hg16⟩ rfl rfl (ev_load1 hf rfl t1_3 (hB2.at 1)) ?_; intro a hf
       refine l_ev hf ⟨_, _, rfl, rfl, hg16⟩ rfl rfl (ev_fieldB hf rfl fd_107_2 (m := 2) rfl) ?_; intro a hf
       refine l_ev hf ⟨_, _, rfl, rfl, hg16⟩ rfl rfl (ev_load1 hf rfl t1_3 (hB2.at 2)) ?_; intro a hf
       refine l_ev hf ⟨_, _, rfl, rfl, hg16⟩ rfl rfl (ev_neq hf rfl rfl) ?_; intro a hf
       refine l_ev hf trivial rfl rfl (ev_pickT hf rfl hg16 rfl) ?_; intro a hf
       refine l_ev hf trivial rfl rfl (ev_assign hf rfl) ?_; intro a hf
       refine wpList_nil ?_
       exact ⟨hf.sub ⟨look_bool rfl (by first | rfl | simp [hc6b, hc9b, hc13b, hg15, hg16]), trivial⟩, rfl⟩
      ·refine l_pass hf ⟨_, _, rfl, rfl, hg16⟩ rfl rfl ?_; intro a hf
       refine l_pass hf ⟨_, _, rfl, rfl, hg16⟩ rfl rfl ?_; intro a hf
       refine l_pass hf ⟨_, _, rfl, rfl, hg16⟩ rfl rfl ?_; intro a hf
       refine l_pass hf ⟨_, _, rfl, rfl, hg16⟩ rfl rfl ?_; intro a hf
       refine l_pass hf ⟨_, _, rfl, rfl, hg16⟩ rfl rfl ?_; intro a hf
       refine l_ev hf trivial rfl rfl (ev_pickF hf rfl hg16 rfl) ?_; intro a hf
       refine l_ev hf trivial rfl rfl (ev_assign hf rfl) ?_; intro a hf
       refine wpList_nil ?_
       exact ⟨hf.sub ⟨look_bool rfl (by first | rfl | simp [hc6b, hc9b, hc13b, hg15, hg16]), trivial⟩, rfl⟩
     ·refine l_pass hf ⟨_, _, rfl, rfl, hg15⟩ rfl rfl ?_; intro a hf
      refine l_pass hf ⟨_, _, rfl, rfl, hg15⟩ rfl rfl ?_; intro a hf
      refine l_pass hf ⟨_, _, rfl, rfl, hg15⟩ rfl rfl ?_; intro a hf
      refine l_pass hf ⟨_, _, rfl, rfl, hg15⟩ rfl rfl ?_; intro a hf
      refine l_pass hf ⟨_, _, rfl, rfl, hg15⟩ rfl rfl ?_; intro a hf
      refine l_ev hf trivial rfl rfl (ev_pickF hf rfl hg15 rfl) ?_; intro a hf
      refine l_ev hf trivial rfl rfl (ev_move hf rfl) ?_; intro a hf
      refine l_pass hf ⟨_, _, rfl, rfl, rfl⟩ rfl rfl ?_; intro a hf
      refine l_pass hf ⟨_, _, rfl, rfl, rfl⟩ rfl rfl ?_; intro a hf
      refine l_pass hf ⟨_, _, rfl, rfl, rfl⟩ rfl rfl ?_; intro a hf
      refine l_pass hf ⟨_, _, rfl, rfl, rfl⟩ rfl rfl ?_; intro a hf
      refine l_pass hf ⟨_, _, rfl, rfl, rfl⟩ rfl rfl ?_; intro a hf
      refine l_ev hf trivial rfl rfl (ev_pickF hf rfl rfl rfl) ?_; intro a hf
      refine l_ev hf trivial rfl rfl (ev_assign hf rfl) ?_; intro a hf
      refine wpList_nil ?_
      exact ⟨hf.sub ⟨look_bool rfl (by first | rfl | simp [hc6b, hc9b, hc13b, hg15]), trivial⟩, rfl⟩
    rintro a _ ⟨hf, rfl⟩
    refine hK14 _ _ ?_; try clear hK14 K14
    refine wp_ret ?_
    refine x_retB ?_
    refine x_retS ?_
    refine c_ret hf (res1 hf rfl rfl) ?_
    exact ⟨by rw [gOk, hy, if_neg hk, if_pos hk2, Bool.true_and], hW⟩
   ·have hc13b := hc13
    have hk2 : ¬ inR x.k 9 11 = true := by rw [hc13]; simp
    refine wp_skip ?_
    refine x_norm ?_
    refine hK3 _ _ ?_; try clear hK3 K3
    refine wp_seq_k ?_; intro K17 hK17
    refine c_cut (fun a w => Fr a 60 [(4, .bool ((inR x.a 0 (n - 1)) && (x.b == 0)))] ∧ w1 = w) ?_ ?_
    ·refine wp_region_lit ?_
     refine l_ev hf trivial rfl rfl (ev_fieldB hf rfl fd_107_1 (m := 1) rfl) ?_; intro a hf
     refine l_ev hf trivial rfl rfl (ev_load1 hf rfl t1_3 (hB2.at 1)) ?_; intro a hf
     refine l_ev hf trivial rfl rfl (ev_move hf rfl) ?_; intro a hf
     refine l_ev hf trivial rfl rfl (ev_subx hf rfl rfl (by omega) (by omega)) ?_; intro a hf
     refine l_eff hf trivial rfl rfl (ef_call (vs := [.int .i64 x.a, .int .i64 0, .int .i64 (n - 1)]) hf rfl ff_91 (F91 _ x.a 0 (n - 1))) ?_; rintro a _ _ ⟨rfl, rfl⟩ hf
     refine l_ev hf trivial rfl rfl (ev_move hf rfl) ?_; intro a hf
     refine g_split hf (t := 55) rfl (fun hg18 => ?_) (fun hg18 => ?_)
     ·refine l_ev hf ⟨_, _, rfl, rfl, hg18⟩ rfl rfl (ev_fieldB hf rfl fd_107_2 (m := 2) rfl) ?_; intro a hf
      refine l_ev hf ⟨_, _, rfl, rfl, hg18⟩ rfl rfl (ev_load1 hf rfl t1_3 (hB2.at 2)) ?_; intro a hf
      refine l_ev hf ⟨_, _, rfl, rfl, hg18⟩ rfl rfl (ev_eql hf rfl rfl) ?_; intro a hf
      refine l_ev hf trivial rfl rfl (ev_pickT hf rfl hg18 rfl) ?_; intro a hf
      refine l_ev hf trivial rfl rfl (ev_assign hf rfl) ?_; intro a hf
      refine wpList_nil ?_
      exact ⟨hf.sub ⟨look_bool rfl (by first | rfl | simp [hc6b, hc9b, hc13b, hg18]), trivial⟩, rfl⟩
     ·refine l_pass hf ⟨_, _, rfl, rfl, hg18⟩ rfl rfl ?_; intro a hf
      refine l_pass hf ⟨_, _, rfl, rfl, hg18⟩ rfl rfl ?_; intro a hf
      refine l_pass hf ⟨_, _, rfl, rfl, hg18⟩ rfl rfl ?_; intro a hf
      refine l_ev hf trivial rfl rfl (ev_pickF hf rfl hg18 rfl) ?_; intro a hf
      refine l_ev hf trivial rfl rfl (ev_assign hf rfl) ?_; intro a hf
      refine wpList_nil ?_
      exact ⟨hf.sub ⟨look_bool rfl (by first | rfl | simp [hc6b, hc9b, hc13b, hg18]), trivial⟩, rfl⟩
    rintro a _ ⟨hf, rfl⟩
    refine hK17 _ _ ?_; try clear hK17 K17
    refine wp_ret ?_
    refine c_ret hf (res1 hf rfl rfl) ?_
    exact ⟨by rw [gOk, hy, if_neg hk, if_neg hk2, Bool.true_and], hW⟩
theorem F148 (w0 : World) (Al : Option Addr) (cl : Nat) (l : List Gt) (hr_l : Rd w0 w0.heap.size 107 encG Al l) (kq : FuncId) (pq : List Value) (Fq : FuncF Tryz.prog kq) (q : Gt → Bool) (hq : ∀ x w, Below w0.heap.size w0 w → Ret Tryz.prog kq ([gV x] ++ pq) w (fun v w' => v = .bool (q x) ∧ Below w.heap.size w w')) (hln : l.length ≤ 2305843009213693951) : Ret Tryz.prog 148 [.slice Al l.length cl, .func (.func kq) #[] pq.toArray] w0 (fun v w => ∃ i : Int, v = .int .i64 i ∧ decide (0 ≤ i) = l.any q ∧ Below w0.heap.size w0 w) := by
 refine enter Tryz.func148 rfl 19 rfl rfl ?_
 intro a hf
 have hW : Below w0.heap.size w0 w0 := Below.refl _ _
 refine wp_seq_k ?_; intro K2 hK2
 refine wp_region_lit ?_
 refine l_ev hf trivial rfl rfl (ev_assign hf rfl) ?_; intro a hf
 refine wpList_nil ?_
 refine hK2 _ _ ?_; try clear hK2 K2
 refine wp_seq_k ?_; intro K3 hK3
 refine wp_seq_k ?_; intro K4 hK4
 refine wp_region_lit ?_
 refine l_ev hf trivial rfl rfl (ev_move hf rfl) ?_; intro a hf
 refine l_ev hf trivial rfl rfl (ev_len hf rfl sl_28) ?_; intro a hf
 refine l_ev hf trivial rfl rfl (ev_move hf rfl) ?_; intro a hf
 refine wpList_nil ?_
 refine hK4 _ _ ?_; try clear hK4 K4
 refine wp_block ?_
 refine c_loop (σ := Nat) (fun (k : Nat) (a : Act) (w : World) => Fr a 19 [(0, .slice Al l.length cl), (1, .func (.func kq) #[] pq.toArray), (7, .int .i64 (l.length : Int)), (8, .int .i64 (k : Int))] ∧ (k ≤ l.length) ∧ ((l.take k).all (fun x => !q x) = true) ∧ Rd w w0.heap.size 107 encG Al l ∧ Below w0.heap.size w0 w) (fun (k : Nat) => l.length + 1 - k) 0 ?_ ?_
 · exact ⟨hf.sub ⟨rfl, rfl, rfl, rfl, trivial⟩, (Nat.zero_le _), (by simp), hr_l, hW⟩
 rintro k a w1 ⟨hf, hk, hpre, hr_l, hW⟩
 refine wp_seq_k ?_; intro K5 hK5
 refine wp_region_lit ?_
 refine l_ev hf trivial rfl rfl (ev_lss hf rfl rfl) ?_; intro a hf
 refine wpList_nil ?_
 refine hK5 _ _ ?_; try clear hK5 K5
 refine wp_seq_k ?_; intro K6 hK6
 refine c_if hf rfl (fun hc7 => ?_) (fun hc7 => ?_)
 ·have hc7b := hc7
  have hc7 := of_decide_eq_true hc7
  obtain ⟨u8, hu8⟩ := getElem_ex (l := l) (k := k) (by omega)
  refine wp_skip ?_
  refine hK6 _ _ ?_; try clear hK6 K6
  refine wp_seq_k ?_; intro K9 hK9
  refine wp_block ?_
  refine wp_seq_k ?_; intro K10 hK10
  refine wp_region_lit ?_
  refine l_ev hf trivial rfl rfl (ev_move hf rfl) ?_; intro a hf
  refine l_ev hf trivial rfl rfl (ev_assign hf rfl) ?_; intro a hf
  refine wpList_nil ?_
  refine hK10 _ _ ?_; try clear hK10 K10
  refine wp_seq_k ?_; intro K11 hK11
  refine wp_region_lit ?_
  refine l_ev hf trivial rfl rfl (ev_move hf rfl) ?_; intro a hf
  refine l_ev hf trivial rfl rfl (ev_move hf rfl) ?_; intro a hf
  refine l_ev hf trivial rfl rfl (ev_move hf rfl) ?_; intro a hf
  refine l_index (k := k) (u := u8) (enc := encG) (l := l) hf trivial rfl rfl rfl sl_28 sz_107 encG_len hr_l hu8 rfl ?_; intro a p13 hat12 hf
  refine l_ev hf trivial rfl rfl (ev_loadN (l := [.int .i64 u8.k, .int .i64 u8.a, .int .i64 u8.b]) hf rfl tN_107 hat12 rfl) ?_; intro a hf
  refine l_eff hf trivial rfl rfl (ef_callv (cs := pq) (vs := [.agg #[.int .i64 u8.k, .int .i64 u8.a, .int .i64 u8.b]]) hf rfl rfl Fq (hq u8 _ hW)) ?_; rintro a _ w2 ⟨rfl, hE⟩ hf
  replace hr_l := hr_l.below hE
  replace hW := hW.trans (hE.mono hW.size)
  clear hE
  refine wpList_nil ?_
  refine hK11 _ _ ?_; try clear hK11 K11
  refine c_if hf rfl (fun hc14 => ?_) (fun hc14 => ?_)
  ·have hc14b := hc14
   have hb2 : l.any q = true := any_true hu8 hc14
   refine wp_seq_k ?_; intro K15 hK15
   refine wp_region_lit ?_
   refine l_ev hf trivial rfl rfl (ev_move hf rfl) ?_; intro a hf
   refine l_ev hf trivial rfl rfl (ev_assign hf rfl) ?_; intro a hf
   refine wpList_nil ?_
   refine hK15 _ _ ?_; try clear hK15 K15
   refine wp_ret ?_
   refine x_retB ?_
   refine x_retS ?_
   refine x_retS ?_
   refine x_retB ?_
   refine x_retS ?_
   refine c_ret hf (res1 hf rfl rfl) ?_
   exact ⟨_, rfl, by rw [hb2]; simp, hW⟩
  ·have hc14b := hc14
   have hok : (!q u8) = true := by revert hc14; cases q u8 <;> simp
   refine wp_skip ?_
   refine x_norm ?_
   refine hK9 _ _ ?_; try clear hK9 K9
   refine wp_region_lit ?_
   refine l_ev hf trivial rfl rfl (ev_addx hf rfl rfl (by omega) (by omega)) ?_; intro a hf
   refine l_ev hf trivial rfl rfl (ev_move hf rfl) ?_; intro a hf
   refine wpList_nil ?_
   refine x_thenN ?_
   exact ⟨k + 1, ⟨hf.sub ⟨rfl, rfl, rfl, rfl, trivial⟩, (by omega), (take_all hpre hu8 hok), hr_l, hW⟩, (by omega)⟩
 ·have hc7b := hc7
  have hc7 := of_decide_eq_false hc7
  refine wp_exit ?_
  refine x_exS ?_
  refine x_exS ?_
  refine x_exit ?_
  refine hK3 _ _ ?_; try clear hK3 K3
  refine wp_seq_k ?_; intro K16 hK16
  refine wp_region_lit ?_
  refine l_ev hf trivial rfl rfl (ev_assign hf rfl) ?_; intro a hf
  refine wpList_nil ?_
  refine hK16 _ _ ?_; try clear hK16 K16
  refine wp_ret ?_
  refine c_ret hf (res1 hf rfl rfl) ?_
  have hb2 : l.any q = false := any_false (take_full hpre (by omega))
  exact ⟨_, rfl, by rw [hb2]; rfl, hW⟩
theorem F104 (w0 : World) (Al : Option Addr) (cl : Nat) (l : List Gt) (hr_l : Rd w0 w0.heap.size 107 encG Al l) (kq : FuncId) (pq : List Value) (Fq : FuncF Tryz.prog kq) (q : Gt → Bool) (hq : ∀ x w, Below w0.heap.size w0 w → Ret Tryz.prog kq ([gV x] ++ pq) w (fun v w' => v = .bool (q x) ∧ Below w.heap.size w w')) (hln : l.length ≤ 2305843009213693951) : Ret Tryz.prog 104 [.slice Al l.length cl, .func (.func kq) #[] pq.toArray] w0 (fun v w => v = .bool (l.any q) ∧ Below w0.heap.size w0 w) := by
 refine enter Tryz.func104 rfl 9 rfl rfl ?_
 intro a hf
 have hW : Below w0.heap.size w0 w0 := Below.refl _ _
 refine wp_seq_k ?_; intro K2 hK2
 refine wp_region_lit ?_
 refine l_ev hf trivial rfl rfl (ev_assign hf rfl) ?_; intro a hf
 refine wpList_nil ?_
 refine hK2 _ _ ?_; try clear hK2 K2
 refine wp_seq_k ?_; intro K3 hK3
 refine wp_region_lit ?_
 refine l_ev hf trivial rfl rfl (ev_move hf rfl) ?_; intro a hf
 refine l_ev hf trivial rfl rfl (ev_move hf rfl) ?_; intro a hf
 refine l_eff hf trivial rfl rfl (ef_call (vs := [.slice Al l.length cl, .func (.func kq) #[] pq.toArray]) hf rfl ff_148 (F148 _ Al cl l hr_l.top kq pq Fq q (fun x w' hE' => hq x w' (hW.trans (hE'.mono hW.size))) hln)) ?_; rintro a _ w1 ⟨ix, rfl, hix, hE⟩ hf
 replace hr_l := hr_l.below hE
 replace hW := hW.trans (hE.mono hW.size)
 clear hE
 refine l_ev hf trivial rfl rfl (ev_geq hf rfl rfl) ?_; intro a hf
 refine l_ev hf trivial rfl rfl (ev_assign hf rfl) ?_; intro a hf
 refine wpList_nil ?_
 refine hK3 _ _ ?_; try clear hK3 K3
 refine wp_ret ?_
 refine c_ret hf (res1 hf rfl rfl) ?_
 exact ⟨by rw [← hix], hW⟩
theorem F105 (w0 : World) (x : Gt) (n : Int) (ba : Nat) (v1 : Value) (hBa : Blk w0 ba 41 [.int .i64 n, v1]) : Ret Tryz.prog 105 [.agg #[.int .i64 x.k, .int .i64 x.a, .int .i64 x.b], .pointer (some ⟨ba, 0, none⟩)] w0 (fun v w => v = .bool (!gOk n x) ∧ Below w0.heap.size w0 w) := by
 have hltba := hBa.lt
 refine enter Tryz.func105 rfl 9 rfl rfl ?_
 intro a hf
 have hW : Below w0.heap.size w0 w0 := Below.refl _ _
 refine wp_seq_k ?_; intro K1 hK1
 refine wp_region_lit ?_
 refine l_eff hf trivial rfl rfl (ef_box (zs := [.int .i64 x.k, .int .i64 x.a, .int .i64 x.b]) hf rfl rfl) ?_; rintro a _ w1 ⟨b2, rfl, hl2, hE, hB2⟩ hf
 have hlo2 := Nat.le_trans hW.size hl2
 replace hBa := hBa.below hE
 replace hW := hW.trans (hE.mono hW.size)
 clear hE
 refine l_ev hf trivial rfl rfl (ev_assign hf rfl) ?_; intro a hf
 refine wpList_nil ?_
 refine hK1 _ _ ?_; try clear hK1 K1
 refine wp_seq_k ?_; intro K3 hK3
 refine wp_region_lit ?_
 refine l_ev hf trivial rfl rfl (ev_fieldB hf rfl fd_41_0 (m := 0) rfl) ?_; intro a hf
 refine l_ev hf trivial rfl rfl (ev_load1 hf rfl t1_3 (hBa.at 0)) ?_; intro a hf
 refine l_ev hf trivial rfl rfl (ev_loadN (l := [.int .i64 x.k, .int .i64 x.a, .int .i64 x.b]) hf rfl tN_107 (hB2.at 0) rfl) ?_; intro a hf
 refine l_eff hf trivial rfl rfl (ef_call (vs := [.int .i64 n, .agg #[.int .i64 x.k, .int .i64 x.a, .int .i64 x.b]]) hf rfl ff_106 (F106 _ n x)) ?_; rintro a _ w2 ⟨rfl, hE⟩ hf
 replace hBa := hBa.below hE
 replace hB2 := hB2.below hE
 replace hW := hW.trans (hE.mono hW.size)
 clear hE
 refine l_ev hf trivial rfl rfl (ev_not hf rfl) ?_; intro a hf
 refine l_ev hf trivial rfl rfl (ev_assign hf rfl) ?_; intro a hf
 refine wpList_nil ?_
 refine hK3 _ _ ?_; try clear hK3 K3
 refine wp_ret ?_
 refine c_ret hf (res1 hf rfl rfl) ?_
 exact ⟨rfl, hW⟩
theorem F132 (w0 : World) (x : Gt) (n : Int) (ba : Nat) (hBa : Blk w0 ba 3 [.int .i64 n]) : Ret Tryz.prog 132 [.agg #[.int .i64 x.k, .int .i64 x.a, .int .i64 x.b], .pointer (some ⟨ba, 0, none⟩)] w0 (fun v w => v = .bool (!gOk n x) ∧ Below w0.heap.size w0 w) := by
 have hltba := hBa.lt
 refine enter Tryz.func132 rfl 8 rfl rfl ?_
 intro a hf
 have hW : Below w0.heap.size w0 w0 := Below.refl _ _
 refine wp_seq_k ?_; intro K1 hK1
 refine wp_region_lit ?_
 refine l_eff hf trivial rfl rfl (ef_box (zs := [.int .i64 x.k, .int .i64 x.a, .int .i64 x.b]) hf rfl rfl) ?_; rintro a _ w1 ⟨b2, rfl, hl2, hE, hB2⟩ hf
 have hlo2 := Nat.le_trans hW.size hl2
 replace hBa := hBa.below hE
 replace hW := hW.trans (hE.mono hW.size)
 clear hE
 refine l_ev hf trivial rfl rfl (ev_assign hf rfl) ?_; intro a hf
 refine wpList_nil ?_
 refine hK1 _ _ ?_; try clear hK1 K1
 refine wp_seq_k ?_; intro K3 hK3
 refine wp_region_lit ?_
 refine l_ev hf trivial rfl rfl (ev_load1 hf rfl t1_3 (hBa.at 0)) ?_; intro a hf
 refine l_ev hf trivial rfl rfl (ev_loadN (l := [.int .i64 x.k, .int .i64 x.a, .int .i64 x.b]) hf rfl tN_107 (hB2.at 0) rfl) ?_; intro a hf
 refine l_eff hf trivial rfl rfl (ef_call (vs := [.int .i64 n, .agg #[.int .i64 x.k, .int .i64 x.a, .int .i64 x.b]]) hf rfl ff_106 (F106 _ n x)) ?_; rintro a _ w2 ⟨rfl, hE⟩ hf
 replace hBa := hBa.below hE
 replace hB2 := hB2.below hE
 replace hW := hW.trans (hE.mono hW.size)
 clear hE
 refine l_ev hf trivial rfl rfl (ev_not hf rfl) ?_; intro a hf
 refine l_ev hf trivial rfl rfl (ev_assign hf rfl) ?_; intro a hf
 refine wpList_nil ?_
 refine hK3 _ _ ?_; try clear hK3 K3
 refine wp_ret ?_
 refine c_ret hf (res1 hf rfl rfl) ?_
 exact ⟨rfl, hW⟩
theorem F92 (w0 : World) (n : Int) (Al : Option Addr) (cl : Nat) (l : List Gt) (hr_l : Rd w0 w0.heap.size 107 encG Al l) (hln : l.length ≤ 2305843009213693951) : Ret Tryz.prog 92 [.int .i64 n, .slice Al l.length cl] w0 (fun v w => v = .bool (!(l.any fun x => !gOk n x)) ∧ Below w0.heap.size w0 w) := by
 refine enter Tryz.func92 rfl 9 rfl rfl ?_
 intro a hf
 have hW : Below w0.heap.size w0 w0 := Below.refl _ _
 refine wp_seq_k ?_; intro K2 hK2
 refine wp_region_lit ?_
 refine l_eff hf trivial rfl rfl (ef_box (zs := [.int .i64 n]) hf rfl rfl) ?_; rintro a _ w1 ⟨b3, rfl, hl3, hE, hB3⟩ hf
 have hlo3 := Nat.le_trans hW.size hl3
 replace hr_l := hr_l.below hE
 replace hW := hW.trans (hE.mono hW.size)
 clear hE
 refine l_ev hf trivial rfl rfl (ev_assign hf rfl) ?_; intro a hf
 refine wpList_nil ?_
 refine hK2 _ _ ?_; try clear hK2 K2
 refine wp_seq_k ?_; intro K4 hK4
 refine wp_region_lit ?_
 refine l_ev hf trivial rfl rfl (ev_move hf rfl) ?_; intro a hf
 refine l_ev hf trivial rfl rfl (ev_makeFunc (vs := [.pointer (some ⟨b3, 0, none⟩)]) hf rfl) ?_; intro a hf
 refine l_eff hf trivial rfl rfl (ef_call (vs := [.slice Al l.length cl, .func (.func 132) #[] #[.pointer (some ⟨b3, 0, none⟩)]]) hf rfl ff_104 (F104 _ Al cl l hr_l.top 132 [.pointer (some ⟨b3, 0, none⟩)] ff_132 (fun x => !gOk n x) (fun x w' hE' => F132 w' x n _ (hB3.below hE')) hln)) ?_; rintro a _ w2 ⟨rfl, hE⟩ hf
 replace hB3 := hB3.below hE
 replace hr_l := hr_l.below hE
 replace hW := hW.trans (hE.mono hW.size)
 clear hE
 refine l_ev hf trivial rfl rfl (ev_not hf rfl) ?_; intro a hf
 refine l_ev hf trivial rfl rfl (ev_assign hf rfl) ?_; intro a hf
 refine wpList_nil ?_
 refine hK4 _ _ ?_; try clear hK4 K4
 refine wp_ret ?_
 refine c_ret hf (res1 hf rfl rfl) ?_
 exact ⟨rfl, hW⟩
theorem F55 (w0 : World) (c : Cx) (Ac : Option Addr) (cc : Nat) (hr_c : Rd w0 w0.heap.size 107 encG Ac c.gs) (hln : c.gs.length ≤ 2305843009213693951) : Ret Tryz.prog 55 [.agg #[.int .i64 c.n, .slice Ac c.gs.length cc]] w0 (fun v w => v = .bool (cOk c) ∧ Below w0.heap.size w0 w) := by
 refine enter Tryz.func55 rfl 19 rfl rfl ?_
 intro a hf
 have hW : Below w0.heap.size w0 w0 := Below.refl _ _
 refine wp_seq_k ?_; intro K2 hK2
 refine wp_region_lit ?_
 refine l_eff hf trivial rfl rfl (ef_box (zs := [.int .i64 c.n, .slice Ac c.gs.length cc]) hf rfl rfl) ?_; rintro a _ w1 ⟨b3, rfl, hl3, hE, hB3⟩ hf
 have hlo3 := Nat.le_trans hW.size hl3
 replace hr_c := hr_c.below hE
 replace hW := hW.trans (hE.mono hW.size)
 clear hE
 refine l_ev hf trivial rfl rfl (ev_assign hf rfl) ?_; intro a hf
 refine wpList_nil ?_
 refine hK2 _ _ ?_; try clear hK2 K2
 refine wp_seq_k ?_; intro K4 hK4
 refine c_cut (fun a w => Fr a 19 [(2, .bool (((inR c.n 1 5) && (decide ((c.gs.length : Int) ≤ 400))) && (!(c.gs.any (fun x => !gOk c.n x)))))] ∧ Below w1.heap.size w1 w) ?_ ?_
 ·have hEc : Below w1.heap.size w1 w1 := Below.refl _ _
  refine wp_region_lit ?_
  refine l_ev hf trivial rfl rfl (ev_fieldB hf rfl fd_41_0 (m := 0) rfl) ?_; intro a hf
  refine l_ev hf trivial rfl rfl (ev_load1 hf rfl t1_3 (hB3.at 0)) ?_; intro a hf
  refine l_eff hf trivial rfl rfl (ef_call (vs := [.int .i64 c.n, .int .i64 1, .int .i64 5]) hf rfl ff_91 (F91 _ c.n 1 5)) ?_; rintro a _ _ ⟨rfl, rfl⟩ hf
  refine l_ev hf trivial rfl rfl (ev_move hf rfl) ?_; intro a hf
  refine g_split hf (t := 6) rfl (fun hg5 => ?_) (fun hg5 => ?_)
  ·refine l_ev hf ⟨_, _, rfl, rfl, hg5⟩ rfl rfl (ev_fieldB hf rfl fd_41_1 (m := 1) rfl) ?_; intro a hf
   refine l_ev hf ⟨_, _, rfl, rfl, hg5⟩ rfl rfl (ev_load1 hf rfl t1_28 (hB3.at 1)) ?_; intro a hf
   refine l_ev hf ⟨_, _, rfl, rfl, hg5⟩ rfl rfl (ev_len hf rfl sl_28) ?_; intro a hf
   refine l_ev hf ⟨_, _, rfl, rfl, hg5⟩ rfl rfl (ev_leq hf rfl rfl) ?_; intro a hf
   refine l_ev hf trivial rfl rfl (ev_pickT hf rfl hg5 rfl) ?_; intro a hf
   refine l_ev hf trivial rfl rfl (ev_move hf rfl) ?_; intro a hf
   refine g_split hf (t := 12) rfl (fun hg6 => ?_) (fun hg6 => ?_)
   ·refine l_ev hf ⟨_, _, rfl, rfl, hg6⟩ rfl rfl (ev_fieldB hf rfl fd_41_1 (m := 1) rfl) ?_; intro a hf
    refine l_ev hf ⟨_, _, rfl, rfl, hg6⟩ rfl rfl (ev_load1 hf rfl t1_28 (hB3.at 1)) ?_; intro a hf
    refine l_ev hf ⟨_, _, rfl, rfl, hg6⟩ rfl rfl (ev_makeFunc (vs := [.pointer (some ⟨b3, 0, none⟩)]) hf rfl) ?_; intro a hf
    refine l_eff hf ⟨_, _, rfl, rfl, hg6⟩ rfl rfl (ef_call (vs := [.slice Ac c.gs.length cc, .func (.func 105) #[] #[.pointer (some ⟨b3, 0, none⟩)]]) hf rfl ff_104 (F104 _ Ac cc c.gs hr_c.top 105 [.pointer (some ⟨b3, 0, none⟩)] ff_105 (fun x => !gOk c.n x) (fun x w' hE' => F105 w' x c.n _ _ (hB3.below hE')) hln)) ?_; rintro a _ w2 ⟨rfl, hE⟩ hf
    replace hB3 := hB3.below hE
    replace hr_c := hr_c.below hE
    replace hW := hW.trans (hE.mono hW.size)
    replace hEc := hEc.trans (hE.mono hEc.size)
    clear hE
    refine l_ev hf ⟨_, _, rfl, rfl, hg6⟩ rfl rfl (ev_not hf rfl) ?_; intro a hf
    refine l_ev hf trivial rfl rfl (ev_pickT hf rfl hg6 rfl) ?_; intro a hf
    refine l_ev hf trivial rfl rfl (ev_assign hf rfl) ?_; intro a hf
    refine wpList_nil ?_
    have hEE : Below w1.heap.size w1 w2 := hEc
    exact ⟨hf.sub ⟨look_bool rfl (by first | rfl | simp [hg5, hg6]), trivial⟩, hEE⟩
   ·refine l_pass hf ⟨_, _, rfl, rfl, hg6⟩ rfl rfl ?_; intro a hf
    refine l_pass hf ⟨_, _, rfl, rfl, hg6⟩ rfl rfl ?_; intro a hf
    refine l_pass hf ⟨_, _, rfl, rfl, hg6⟩ rfl rfl ?_; intro a hf
    refine l_pass hf ⟨_, _, rfl, rfl, hg6⟩ rfl rfl ?_; intro a hf
    refine l_pass hf ⟨_, _, rfl, rfl, hg6⟩ rfl rfl ?_; intro a hf
    refine l_ev hf trivial rfl rfl (ev_pickF hf rfl hg6 rfl) ?_; intro a hf
    refine l_ev hf trivial rfl rfl (ev_assign hf rfl) ?_; intro a hf
    refine wpList_nil ?_
    have hEE : Below w1.heap.size w1 w1 := hEc
    exact ⟨hf.sub ⟨look_bool rfl (by first | rfl | simp [hg5, hg6]), trivial⟩, hEE⟩
  ·refine l_pass hf ⟨_, _, rfl, rfl, hg5⟩ rfl rfl ?_; intro a hf
   refine l_pass hf ⟨_, _, rfl, rfl, hg5⟩ rfl rfl ?_; intro a hf
   refine l_pass hf ⟨_, _, rfl, rfl, hg5⟩ rfl rfl ?_; intro a hf
   refine l_pass hf ⟨_, _, rfl, rfl, hg5⟩ rfl rfl ?_; intro a hf
   refine l_ev hf trivial rfl rfl (ev_pickF hf rfl hg5 rfl) ?_; intro a hf
   refine l_ev hf trivial rfl rfl (ev_move hf rfl) ?_; intro a hf
   refine l_pass hf ⟨_, _, rfl, rfl, rfl⟩ rfl rfl ?_; intro a hf
   refine l_pass hf ⟨_, _, rfl, rfl, rfl⟩ rfl rfl ?_; intro a hf
   refine l_pass hf ⟨_, _, rfl, rfl, rfl⟩ rfl rfl ?_; intro a hf
   refine l_pass hf ⟨_, _, rfl, rfl, rfl⟩ rfl rfl ?_; intro a hf
   refine l_pass hf ⟨_, _, rfl, rfl, rfl⟩ rfl rfl ?_; intro a hf
   refine l_ev hf trivial rfl rfl (ev_pickF hf rfl rfl rfl) ?_; intro a hf
   refine l_ev hf trivial rfl rfl (ev_assign hf rfl) ?_; intro a hf
   refine wpList_nil ?_
   have hEE : Below w1.heap.size w1 w1 := hEc
   exact ⟨hf.sub ⟨look_bool rfl (by first | rfl | simp [hg5]), trivial⟩, hEE⟩
 rintro a w3 ⟨hf, hE⟩
 replace hB3 := hB3.below hE
 replace hr_c := hr_c.below hE
 replace hW := hW.trans (hE.mono hW.size)
 clear hE
 refine hK4 _ _ ?_; try clear hK4 K4
 refine wp_ret ?_
 refine c_ret hf (res1 hf rfl rfl) ?_
 exact ⟨by simp [cOk, *], hW⟩
end Go.Proofs.YtfgnmflfiobkmaaGreat
set_option maxRecDepth 4000
namespace Go.Proofs.YtfgnmflfiobkmaaGreat
open Go.RowKit
theorem F98 (w0 : World) (p : Mx) (Ap : Option Addr) (cp : Nat) (hr_p : Rd w0 w0.heap.size 189 encD Ap p.cells) (q : Mx) (Aq : Option Addr) (cq : Nat) (hr_q : Rd w0 w0.heap.size 189 encD Aq q.cells) (hla : p.cells.length ≤ 2305843009213693951) (hlb : q.cells.length ≤ 2305843009213693951) : Ret Tryz.prog 98 [.agg #[.int .i64 p.rows, .int .i64 p.cols, .slice Ap p.cells.length cp], .agg #[.int .i64 q.rows, .int .i64 q.cols, .slice Aq q.cells.length cq]] w0 (fun v w => ∃ i : Int, v = .tuple #[.int .i64 i, .bool (mOk p && mOk q && eqPh p q), .bool (mOk p && mOk q)] ∧ Below w0.heap.size w0 w) := by
 refine enter Tryz.func98 rfl 36 rfl rfl ?_
 intro a hf
 have hW : Below w0.heap.size w0 w0 := Below.refl _ _
 refine wp_seq_k ?_; intro K3 hK3
 refine wp_region_lit ?_
 refine l_eff hf trivial rfl rfl (ef_box (zs := [.int .i64 p.rows, .int .i64 p.cols, .slice Ap p.cells.length cp]) hf rfl rfl) ?_; rintro a _ w1 ⟨b4, rfl, hl4, hE, hB4⟩ hf
 have hlo4 := Nat.le_trans hW.size hl4
 replace hr_p := hr_p.below hE
 replace hr_q := hr_q.below hE
 replace hW := hW.trans (hE.mono hW.size)
 clear hE
 refine l_eff hf trivial rfl rfl (ef_box (zs := [.int .i64 q.rows, .int .i64 q.cols, .slice Aq q.cells.length cq]) hf rfl rfl) ?_; rintro a _ w2 ⟨b5, rfl, hl5, hE, hB5⟩ hf
 have hne4_5 : b4 ≠ b5 := by have := hB4.lt; omega
 have hlo5 := Nat.le_trans hW.size hl5
 replace hB4 := hB4.below hE
 replace hr_p := hr_p.below hE
 replace hr_q := hr_q.below hE
 replace hW := hW.trans (hE.mono hW.size)
 clear hE
 refine l_ev hf trivial rfl rfl (ev_assign hf rfl) ?_; intro a hf
 refine l_ev hf trivial rfl rfl (ev_assign hf rfl) ?_; intro a hf
 refine l_ev hf trivial rfl rfl (ev_assign hf rfl) ?_; intro a hf
 refine wpList_nil ?_
 refine hK3 _ _ ?_; try clear hK3 K3
 refine wp_seq_k ?_; intro K6 hK6
 refine wp_seq_k ?_; intro K7 hK7
 refine c_cut (fun a w => Fr a 36 [(2, .pointer (some ⟨b4, 0, none⟩)), (3, .pointer (some ⟨b5, 0, none⟩)), (17, .bool ((!(mOk p)) || (!(mOk q))))] ∧ Below w2.heap.size w2 w) ?_ ?_
 ·have hEc : Below w2.heap.size w2 w2 := Below.refl _ _
  refine wp_region_lit ?_
  refine l_ev hf trivial rfl rfl (ev_loadN (l := [.int .i64 p.rows, .int .i64 p.cols, .slice Ap p.cells.length cp]) hf rfl tN_141 (hB4.at 0) rfl) ?_; intro a hf
  refine l_eff hf trivial rfl rfl (ef_call (vs := [.agg #[.int .i64 p.rows, .int .i64 p.cols, .slice Ap p.cells.length cp]]) hf rfl ff_138 (F138 _ p Ap cp hr_p.top hla)) ?_; rintro a _ w3 ⟨rfl, hE⟩ hf
  replace hB4 := hB4.below hE
  replace hB5 := hB5.below hE
  replace hr_p := hr_p.below hE
  replace hr_q := hr_q.below hE
  replace hW := hW.trans (hE.mono hW.size)
  replace hEc := hEc.trans (hE.mono hEc.size)
  clear hE
  refine l_ev hf trivial rfl rfl (ev_not hf rfl) ?_; intro a hf
  refine l_ev hf trivial rfl rfl (ev_move hf rfl) ?_; intro a hf
  refine g_split hf (t := 13) rfl (fun hg8 => ?_) (fun hg8 => ?_)
  ·refine l_pass hf ⟨_, _, rfl, rfl, hg8⟩ rfl rfl ?_; intro a hf
   refine l_pass hf ⟨_, _, rfl, rfl, hg8⟩ rfl rfl ?_; intro a hf
   refine l_pass hf ⟨_, _, rfl, rfl, hg8⟩ rfl rfl ?_; intro a hf
   refine l_ev hf trivial rfl rfl (ev_pickT hf rfl hg8 rfl) ?_; intro a hf
   refine wpList_nil ?_
   have hEE : Below w2.heap.size w2 w3 := hEc
   exact ⟨hf.sub ⟨rfl, rfl, look_bool rfl (by first | rfl | simp [hg8]), trivial⟩, hEE⟩
  ·refine l_ev hf ⟨_, _, rfl, rfl, hg8⟩ rfl rfl (ev_loadN (l := [.int .i64 q.rows, .int .i64 q.cols, .slice Aq q.cells.length cq]) hf rfl tN_141 (hB5.at 0) rfl) ?_; intro a hf
   refine l_eff hf ⟨_, _, rfl, rfl, hg8⟩ rfl rfl (ef_call (vs := [.agg #[.int .i64 q.rows, .int .i64 q.cols, .slice Aq q.cells.length cq]]) hf rfl ff_138 (F138 _ q Aq cq hr_q.top hlb)) ?_; rintro a _ w4 ⟨rfl, hE⟩ hf
   replace hB4 := hB4.below hE
   replace hB5 := hB5.below hE
   replace hr_p := hr_p.below hE
   replace hr_q := hr_q.below hE
   replace hW := hW.trans (hE.mono hW.size)
   replace hEc := hEc.trans (hE.mono hEc.size)
   clear hE
   refine l_ev hf ⟨_, _, rfl, rfl, hg8⟩ rfl rfl (ev_not hf rfl) ?_; intro a hf
   refine l_ev hf trivial rfl rfl (ev_pickF hf rfl hg8 rfl) ?_; intro a hf
   refine wpList_nil ?_
   have hEE : Below w2.heap.size w2 w4 := hEc
   exact ⟨hf.sub ⟨rfl, rfl, look_bool rfl (by first | rfl | simp [hg8]), trivial⟩, hEE⟩
 rintro a w5 ⟨hf, hE⟩
 replace hB4 := hB4.below hE
 replace hB5 := hB5.below hE
 replace hr_p := hr_p.below hE
 replace hr_q := hr_q.below hE
 replace hW := hW.trans (hE.mono hW.size)
 clear hE
 refine hK7 _ _ ?_; try clear hK7 K7
 refine c_if hf rfl (fun hc9 => ?_) (fun hc9 => ?_)
 ·have hc9b := hc9
  have hn := or2_false hc9
  refine wp_seq_k ?_; intro K10 hK10
  refine wp_region_lit ?_
  refine l_ev hf trivial rfl rfl (ev_assign hf rfl) ?_; intro a hf
  refine l_ev hf trivial rfl rfl (ev_assign hf rfl) ?_; intro a hf
  refine l_ev hf trivial rfl rfl (ev_assign hf rfl) ?_; intro a hf
  refine wpList_nil ?_
  refine hK10 _ _ ?_; try clear hK10 K10
  refine wp_ret ?_
  refine x_retS ?_
  refine c_ret hf (res3 hf rfl rfl rfl rfl) ?_
  exact ⟨_, by rw [hn]; rfl, hW⟩
 ·have hc9b := hc9
  have hy := or2_true hc9
  refine wp_skip ?_
  refine hK6 _ _ ?_; try clear hK6 K6
  refine wp_seq_k ?_; intro K11 hK11
  refine wp_seq_k ?_; intro K12 hK12
  refine wp_region_lit ?_
  refine l_ev hf trivial rfl rfl (ev_move hf rfl) ?_; intro a hf
  refine wpList_nil ?_
  refine hK12 _ _ ?_; try clear hK12 K12
  refine wp_block ?_
  refine c_loop (σ := Nat) (fun (k : Nat) (a : Act) (w : World) => Fr a 36 [(2, .pointer (some ⟨b4, 0, none⟩)), (3, .pointer (some ⟨b5, 0, none⟩)), (18, .int .i64 (k : Int))] ∧ (k ≤ 8) ∧ (∀ j < k, eqPhT p q j = false) ∧ Blk w b4 141 [.int .i64 p.rows, .int .i64 p.cols, .slice Ap p.cells.length cp] ∧ Blk w b5 141 [.int .i64 q.rows, .int .i64 q.cols, .slice Aq q.cells.length cq] ∧ Rd w w0.heap.size 189 encD Ap p.cells ∧ Rd w w0.heap.size 189 encD Aq q.cells ∧ Below w0.heap.size w0 w) (fun (k : Nat) => 8 - k) 0 ?_ ?_
  · exact ⟨hf.sub ⟨rfl, rfl, rfl, trivial⟩, (by omega), (fun j hj => by omega), hB4, hB5, hr_p, hr_q, hW⟩
  rintro k a w6 ⟨hf, hk, hall, hB4, hB5, hr_p, hr_q, hW⟩
  refine wp_seq_k ?_; intro K13 hK13
  refine wp_region_lit ?_
  refine l_ev hf trivial rfl rfl (ev_lss hf rfl rfl) ?_; intro a hf
  refine wpList_nil ?_
  refine hK13 _ _ ?_; try clear hK13 K13
  refine wp_seq_k ?_; intro K14 hK14
  refine c_if hf rfl (fun hc15 => ?_) (fun hc15 => ?_)
  ·have hc15b := hc15
   have hc15 := of_decide_eq_true hc15
   have hk8 : (k : Int) < 8 := hc15
   refine wp_skip ?_
   refine hK14 _ _ ?_; try clear hK14 K14
   refine wp_seq_k ?_; intro K16 hK16
   refine wp_block ?_
   refine wp_seq_k ?_; intro K17 hK17
   refine wp_region_lit ?_
   refine l_ev hf trivial rfl rfl (ev_move hf rfl) ?_; intro a hf
   refine l_ev hf trivial rfl rfl (ev_assign hf rfl) ?_; intro a hf
   refine wpList_nil ?_
   refine hK17 _ _ ?_; try clear hK17 K17
   refine wp_seq_k ?_; intro K18 hK18
   refine c_cut (fun a w => ∃ b21 A19 c19, Fr a 36 [(2, .pointer (some ⟨b4, 0, none⟩)), (3, .pointer (some ⟨b5, 0, none⟩)), (7, .int .i64 (k : Int)), (8, .pointer (some ⟨b21, 0, none⟩)), (9, .bool ((scaleI q (dPow (k : Int))).isSome)), (18, .int .i64 (k : Int))] ∧ w0.heap.size ≤ b21 ∧ Blk w b21 141 [.int .i64 (((scaleI q (dPow (k : Int))).getD mZ).rows), .int .i64 (((scaleI q (dPow (k : Int))).getD mZ).cols), .slice A19 (((scaleI q (dPow (k : Int))).getD mZ).cells).length c19] ∧ b4 ≠ b21 ∧ b5 ≠ b21 ∧ Own w w0.heap.size 189 5 encD A19 c19 (((scaleI q (dPow (k : Int))).getD mZ).cells) ∧ Below w6.heap.size w6 w) ?_ ?_
   ·have hEc : Below w6.heap.size w6 w6 := Below.refl _ _
    refine wp_draw none (fun j => [8].contains j) mixed ?_
    intro w7 hE
    replace hB4 := hB4.below hE
    replace hB5 := hB5.below hE
    replace hr_p := hr_p.below hE
    replace hr_q := hr_q.below hE
    replace hW := hW.trans (hE.mono hW.size)
    replace hEc := hEc.trans (hE.mono hEc.size)
    clear hE
    refine s_ev 0 rfl (by kernel_rfl) (by kernel_rfl) hf trivial rfl rfl (ev_loadN (l := [.int .i64 q.rows, .int .i64 q.cols, .slice Aq q.cells.length cq]) hf rfl tN_141 (hB5.at 0) rfl) ?_; intro a hf
    refine s_ev0 1 rfl (by kernel_rfl) hf trivial rfl rfl (fun _ => ev_move hf rfl) ?_; intro a hf
    refine s_two 2 7 (by kernel_rfl) ?_ ?_
    ·refine p_eff rfl hf trivial rfl rfl (Ef.mono (ef_call (vs := [.int .i64 (k : Int)]) hf rfl ff_140 (F140 _ (k : Int) (inR_iff.2 ⟨by omega, by omega⟩))) (fun _ _ h => ⟨fun _ => by obtain ⟨rfl, hE⟩ := h; exact hE, h⟩)) ?_; rintro a _ w8 ⟨rfl, hE⟩ hf
     replace hB4 := hB4.below hE
     replace hB5 := hB5.below hE
     replace hr_p := hr_p.below hE
     replace hr_q := hr_q.below hE
     replace hW := hW.trans (hE.mono hW.size)
     replace hEc := hEc.trans (hE.mono hEc.size)
     clear hE
     refine s_two 3 7 (by kernel_rfl) ?_ ?_
     ·refine p_eff rfl hf trivial rfl rfl (Ef.mono (ef_call (vs := [.agg #[.int .i64 q.rows, .int .i64 q.cols, .slice Aq q.cells.length cq], .agg #[.int .i64 ((dPow (k : Int)).num.a), .int .i64 ((dPow (k : Int)).num.b), .int .i64 ((dPow (k : Int)).num.c), .int .i64 ((dPow (k : Int)).num.d), .int .i64 ((dPow (k : Int)).exp)]]) hf rfl ff_139 (F139 _ q Aq cq hr_q.top (dPow (k : Int)) hlb)) (fun _ _ h => ⟨fun _ => by obtain ⟨A19, c19, rfl, ho19, hE⟩ := h; exact hE, h⟩)) ?_; rintro a _ w9 ⟨A19, c19, rfl, ho19, hE⟩ hf
      replace ho19 := ho19.lower hW.size
      replace hB4 := hB4.below hE
      replace hB5 := hB5.below hE
      replace hr_p := hr_p.below hE
      replace hr_q := hr_q.below hE
      replace hW := hW.trans (hE.mono hW.size)
      replace hEc := hEc.trans (hE.mono hEc.size)
      clear hE
      refine s_ev0 4 rfl (by kernel_rfl) hf trivial rfl rfl (fun _ => ev_move hf rfl) ?_; intro a hf
      refine s_ev0 5 rfl (by kernel_rfl) hf trivial rfl rfl (fun _ => ev_extract (vs := [.agg #[.int .i64 (((scaleI q (dPow (k : Int))).getD mZ).rows), .int .i64 (((scaleI q (dPow (k : Int))).getD mZ).cols), .slice A19 (((scaleI q (dPow (k : Int))).getD mZ).cells).length c19], .bool ((scaleI q (dPow (k : Int))).isSome)]) hf rfl rfl) ?_; intro a hf
      refine s_ev0 6 rfl (by kernel_rfl) hf trivial rfl rfl (fun _ => ev_extract (vs := [.agg #[.int .i64 (((scaleI q (dPow (k : Int))).getD mZ).rows), .int .i64 (((scaleI q (dPow (k : Int))).getD mZ).cols), .slice A19 (((scaleI q (dPow (k : Int))).getD mZ).cells).length c19], .bool ((scaleI q (dPow (k : Int))).isSome)]) hf rfl rfl) ?_; intro a hf
      refine s_one 7 (by kernel_rfl) ?_
      refine p_eff rfl hf trivial rfl rfl (Ef.mono (ef_alloc (zs := [.int .i64 0, .int .i64 0, .slice none 0 0]) z_141 rfl) (fun _ _ h => ⟨fun _ => h.bel, h⟩)) ?_; rintro a _ w10 ⟨b21, rfl, hl21, hE, hB21⟩ hf
      have hne4_21 : b4 ≠ b21 := by have := hB4.lt; omega
      have hne5_21 : b5 ≠ b21 := by have := hB5.lt; omega
      have hlo21 := Nat.le_trans hW.size hl21
      have hlc21 := Nat.le_trans hEc.size hl21
      replace hB4 := hB4.below hE
      replace hB5 := hB5.below hE
      replace hr_p := hr_p.below hE
      replace hr_q := hr_q.below hE
      replace ho19 := ho19.below hE
      replace hW := hW.trans (hE.mono hW.size)
      replace hEc := hEc.trans (hE.mono hEc.size)
      clear hE
      refine s_one 8 (by kernel_rfl) ?_
      refine p_eff0 rfl hf trivial rfl (Ef.mono (ef_store (vs := [.int .i64 (((scaleI q (dPow (k : Int))).getD mZ).rows), .int .i64 (((scaleI q (dPow (k : Int))).getD mZ).cols), .slice A19 (((scaleI q (dPow (k : Int))).getD mZ).cells).length c19]) (l' := [.int .i64 (((scaleI q (dPow (k : Int))).getD mZ).rows), .int .i64 (((scaleI q (dPow (k : Int))).getD mZ).cols), .slice A19 (((scaleI q (dPow (k : Int))).getD mZ).cells).length c19]) hf rfl rfl sz_141 hB21 rfl rfl rfl rfl rfl) (fun _ _ h => ⟨fun h0 => absurd h0 (by decide), h⟩)) ?_; rintro a _ w11 ⟨ho, hb⟩ hf
      have hold := hB21
      replace hB4 := hB4.only ho (by omega)
      replace hB5 := hB5.only ho (by omega)
      replace hr_p := hr_p.onlyT ho hold rfl
      replace hr_q := hr_q.onlyT ho hold rfl
      replace ho19 := ho19.onlyT ho hold rfl
      replace hEc := Below.only hEc ho hlc21
      replace hW := Below.only hW ho hlo21
      clear hold
      have hB21 := hb
      clear hb ho
      refine s_ev0 9 rfl (by kernel_rfl) hf trivial rfl rfl (fun _ => ev_assign hf rfl) ?_; intro a hf
      refine s_done (by kernel_rfl) ?_
      have hEE : Below w6.heap.size w6 w11 := hEc
      exact ⟨b21, A19, c19, hf.sub ⟨rfl, rfl, rfl, rfl, rfl, rfl, trivial⟩, hlo21, hB21, hne4_21, hne5_21, ho19, hEE⟩
     ·refine p_eff rfl hf trivial rfl rfl (Ef.mono (ef_alloc (zs := [.int .i64 0, .int .i64 0, .slice none 0 0]) z_141 rfl) (fun _ _ h => ⟨fun _ => h.bel, h⟩)) ?_; rintro a _ w12 ⟨b23, rfl, hl23, hE, hB23⟩ hf
      have hne4_23 : b4 ≠ b23 := by have := hB4.lt; omega
      have hne5_23 : b5 ≠ b23 := by have := hB5.lt; omega
      have hlo23 := Nat.le_trans hW.size hl23
      have hlc23 := Nat.le_trans hEc.size hl23
      replace hB4 := hB4.below hE
      replace hB5 := hB5.below hE
      replace hr_p := hr_p.below hE
      replace hr_q := hr_q.below hE
      replace hW := hW.trans (hE.mono hW.size)
      replace hEc := hEc.trans (hE.mono hEc.size)
      clear hE
      refine s_one 3 (by kernel_rfl) ?_
      refine p_eff rfl hf trivial rfl rfl (Ef.mono (ef_call (vs := [.agg #[.int .i64 q.rows, .int .i64 q.cols, .slice Aq q.cells.length cq], .agg #[.int .i64 ((dPow (k : Int)).num.a), .int .i64 ((dPow (k : Int)).num.b), .int .i64 ((dPow (k : Int)).num.c), .int .i64 ((dPow (k : Int)).num.d), .int .i64 ((dPow (k : Int)).exp)]]) hf rfl ff_139 (F139 _ q Aq cq hr_q.top (dPow (k : Int)) hlb)) (fun _ _ h => ⟨fun _ => by obtain ⟨A24, c24, rfl, ho24, hE⟩ := h; exact hE, h⟩)) ?_; rintro a _ w13 ⟨A24, c24, rfl, ho24, hE⟩ hf
      replace ho24 := ho24.lower hW.size
      replace hB4 := hB4.below hE
      replace hB5 := hB5.below hE
      replace hB23 := hB23.below hE
      replace hr_p := hr_p.below hE
      replace hr_q := hr_q.below hE
      replace hW := hW.trans (hE.mono hW.size)
      replace hEc := hEc.trans (hE.mono hEc.size)
      clear hE
      refine s_ev0 4 rfl (by kernel_rfl) hf trivial rfl rfl (fun _ => ev_move hf rfl) ?_; intro a hf
      refine s_ev0 5 rfl (by kernel_rfl) hf trivial rfl rfl (fun _ => ev_extract (vs := [.agg #[.int .i64 (((scaleI q (dPow (k : Int))).getD mZ).rows), .int .i64 (((scaleI q (dPow (k : Int))).getD mZ).cols), .slice A24 (((scaleI q (dPow (k : Int))).getD mZ).cells).length c24], .bool ((scaleI q (dPow (k : Int))).isSome)]) hf rfl rfl) ?_; intro a hf
      refine s_ev0 6 rfl (by kernel_rfl) hf trivial rfl rfl (fun _ => ev_extract (vs := [.agg #[.int .i64 (((scaleI q (dPow (k : Int))).getD mZ).rows), .int .i64 (((scaleI q (dPow (k : Int))).getD mZ).cols), .slice A24 (((scaleI q (dPow (k : Int))).getD mZ).cells).length c24], .bool ((scaleI q (dPow (k : Int))).isSome)]) hf rfl rfl) ?_; intro a hf
      refine s_one 8 (by kernel_rfl) ?_
      refine p_eff0 rfl hf trivial rfl (Ef.mono (ef_store (vs := [.int .i64 (((scaleI q (dPow (k : Int))).getD mZ).rows), .int .i64 (((scaleI q (dPow (k : Int))).getD mZ).cols), .slice A24 (((scaleI q (dPow (k : Int))).getD mZ).cells).length c24]) (l' := [.int .i64 (((scaleI q (dPow (k : Int))).getD mZ).rows), .int .i64 (((scaleI q (dPow (k : Int))).getD mZ).cols), .slice A24 (((scaleI q (dPow (k : Int))).getD mZ).cells).length c24]) hf rfl rfl sz_141 hB23 rfl rfl rfl rfl rfl) (fun _ _ h => ⟨fun h0 => absurd h0 (by decide), h⟩)) ?_; rintro a _ w14 ⟨ho, hb⟩ hf
      have hold := hB23
      replace hB4 := hB4.only ho (by omega)
      replace hB5 := hB5.only ho (by omega)
      replace hr_p := hr_p.onlyT ho hold rfl
      replace hr_q := hr_q.onlyT ho hold rfl
      replace ho24 := ho24.onlyT ho hold rfl
      replace hEc := Below.only hEc ho hlc23
      replace hW := Below.only hW ho hlo23
      clear hold
      have hB23 := hb
      clear hb ho
      refine s_ev0 9 rfl (by kernel_rfl) hf trivial rfl rfl (fun _ => ev_assign hf rfl) ?_; intro a hf
      refine s_done (by kernel_rfl) ?_
      have hEE : Below w6.heap.size w6 w14 := hEc
      exact ⟨b23, A24, c24, hf.sub ⟨rfl, rfl, rfl, (by first | rfl | (simp [look, hc9b, hc15b])), rfl, rfl, trivial⟩, hlo23, hB23, hne4_23, hne5_23, ho24, hEE⟩
    ·refine p_eff rfl hf trivial rfl rfl (Ef.mono (ef_alloc (zs := [.int .i64 0, .int .i64 0, .slice none 0 0]) z_141 rfl) (fun _ _ h => ⟨fun _ => h.bel, h⟩)) ?_; rintro a _ w15 ⟨b26, rfl, hl26, hE, hB26⟩ hf
     have hne4_26 : b4 ≠ b26 := by have := hB4.lt; omega
     have hne5_26 : b5 ≠ b26 := by have := hB5.lt; omega
     have hlo26 := Nat.le_trans hW.size hl26
     have hlc26 := Nat.le_trans hEc.size hl26
     replace hB4 := hB4.below hE
     replace hB5 := hB5.below hE
     replace hr_p := hr_p.below hE
     replace hr_q := hr_q.below hE
     replace hW := hW.trans (hE.mono hW.size)
     replace hEc := hEc.trans (hE.mono hEc.size)
     clear hE
     refine s_one 2 (by kernel_rfl) ?_
     refine p_eff rfl hf trivial rfl rfl (Ef.mono (ef_call (vs := [.int .i64 (k : Int)]) hf rfl ff_140 (F140 _ (k : Int) (inR_iff.2 ⟨by omega, by omega⟩))) (fun _ _ h => ⟨fun _ => by obtain ⟨rfl, hE⟩ := h; exact hE, h⟩)) ?_; rintro a _ w16 ⟨rfl, hE⟩ hf
     replace hB4 := hB4.below hE
     replace hB5 := hB5.below hE
     replace hB26 := hB26.below hE
     replace hr_p := hr_p.below hE
     replace hr_q := hr_q.below hE
     replace hW := hW.trans (hE.mono hW.size)
     replace hEc := hEc.trans (hE.mono hEc.size)
     clear hE
     refine s_one 3 (by kernel_rfl) ?_
     refine p_eff rfl hf trivial rfl rfl (Ef.mono (ef_call (vs := [.agg #[.int .i64 q.rows, .int .i64 q.cols, .slice Aq q.cells.length cq], .agg #[.int .i64 ((dPow (k : Int)).num.a), .int .i64 ((dPow (k : Int)).num.b), .int .i64 ((dPow (k : Int)).num.c), .int .i64 ((dPow (k : Int)).num.d), .int .i64 ((dPow (k : Int)).exp)]]) hf rfl ff_139 (F139 _ q Aq cq hr_q.top (dPow (k : Int)) hlb)) (fun _ _ h => ⟨fun _ => by obtain ⟨A27, c27, rfl, ho27, hE⟩ := h; exact hE, h⟩)) ?_; rintro a _ w17 ⟨A27, c27, rfl, ho27, hE⟩ hf
     replace ho27 := ho27.lower hW.size
     replace hB4 := hB4.below hE
     replace hB5 := hB5.below hE
     replace hB26 := hB26.below hE
     replace hr_p := hr_p.below hE
     replace hr_q := hr_q.below hE
     replace hW := hW.trans (hE.mono hW.size)
     replace hEc := hEc.trans (hE.mono hEc.size)
     clear hE
     refine s_ev0 4 rfl (by kernel_rfl) hf trivial rfl rfl (fun _ => ev_move hf rfl) ?_; intro a hf
     refine s_ev0 5 rfl (by kernel_rfl) hf trivial rfl rfl (fun _ => ev_extract (vs := [.agg #[.int .i64 (((scaleI q (dPow (k : Int))).getD mZ).rows), .int .i64 (((scaleI q (dPow (k : Int))).getD mZ).cols), .slice A27 (((scaleI q (dPow (k : Int))).getD mZ).cells).length c27], .bool ((scaleI q (dPow (k : Int))).isSome)]) hf rfl rfl) ?_; intro a hf
     refine s_ev0 6 rfl (by kernel_rfl) hf trivial rfl rfl (fun _ => ev_extract (vs := [.agg #[.int .i64 (((scaleI q (dPow (k : Int))).getD mZ).rows), .int .i64 (((scaleI q (dPow (k : Int))).getD mZ).cols), .slice A27 (((scaleI q (dPow (k : Int))).getD mZ).cells).length c27], .bool ((scaleI q (dPow (k : Int))).isSome)]) hf rfl rfl) ?_; intro a hf
     refine s_one 8 (by kernel_rfl) ?_
     refine p_eff0 rfl hf trivial rfl (Ef.mono (ef_store (vs := [.int .i64 (((scaleI q (dPow (k : Int))).getD mZ).rows), .int .i64 (((scaleI q (dPow (k : Int))).getD mZ).cols), .slice A27 (((scaleI q (dPow (k : Int))).getD mZ).cells).length c27]) (l' := [.int .i64 (((scaleI q (dPow (k : Int))).getD mZ).rows), .int .i64 (((scaleI q (dPow (k : Int))).getD mZ).cols), .slice A27 (((scaleI q (dPow (k : Int))).getD mZ).cells).length c27]) hf rfl rfl sz_141 hB26 rfl rfl rfl rfl rfl) (fun _ _ h => ⟨fun h0 => absurd h0 (by decide), h⟩)) ?_; rintro a _ w18 ⟨ho, hb⟩ hf
     have hold := hB26
     replace hB4 := hB4.only ho (by omega)
     replace hB5 := hB5.only ho (by omega)
     replace hr_p := hr_p.onlyT ho hold rfl
     replace hr_q := hr_q.onlyT ho hold rfl
     replace ho27 := ho27.onlyT ho hold rfl
     replace hEc := Below.only hEc ho hlc26
     replace hW := Below.only hW ho hlo26
     clear hold
     have hB26 := hb
     clear hb ho
     refine s_ev0 9 rfl (by kernel_rfl) hf trivial rfl rfl (fun _ => ev_assign hf rfl) ?_; intro a hf
     refine s_done (by kernel_rfl) ?_
     have hEE : Below w6.heap.size w6 w18 := hEc
     exact ⟨b26, A27, c27, hf.sub ⟨rfl, rfl, rfl, (by first | rfl | (simp [look, hc9b, hc15b])), rfl, rfl, trivial⟩, hlo26, hB26, hne4_26, hne5_26, ho27, hEE⟩
   rintro a w19 ⟨b21, A19, c19, hf, hlo21, hB21, hne4_21, hne5_21, ho19, hE⟩
   replace hB4 := hB4.below hE
   replace hB5 := hB5.below hE
   replace hr_p := hr_p.below hE
   replace hr_q := hr_q.below hE
   replace hW := hW.trans (hE.mono hW.size)
   clear hE
   refine hK18 _ _ ?_; try clear hK18 K18
   refine wp_seq_k ?_; intro K28 hK28
   refine c_cut (fun a w => Fr a 36 [(2, .pointer (some ⟨b4, 0, none⟩)), (3, .pointer (some ⟨b5, 0, none⟩)), (7, .int .i64 (k : Int)), (18, .int .i64 (k : Int)), (33, .bool (((scaleI q (dPow (k : Int))).isSome) && (decide (p.rows = ((scaleI q (dPow (k : Int))).getD mZ).rows) && decide (p.cols = ((scaleI q (dPow (k : Int))).getD mZ).cols) && decide (p.cells = ((scaleI q (dPow (k : Int))).getD mZ).cells))))] ∧ Below w19.heap.size w19 w) ?_ ?_
   ·have hEc : Below w19.heap.size w19 w19 := Below.refl _ _
    refine wp_region_lit ?_
    refine l_ev hf trivial rfl rfl (ev_move hf rfl) ?_; intro a hf
    refine l_ev hf trivial rfl rfl (ev_move hf rfl) ?_; intro a hf
    refine g_split hf (t := 29) rfl (fun hg29 => ?_) (fun hg29 => ?_)
    ·refine l_ev hf ⟨_, _, rfl, rfl, hg29⟩ rfl rfl (ev_loadN (l := [.int .i64 p.rows, .int .i64 p.cols, .slice Ap p.cells.length cp]) hf rfl tN_141 (hB4.at 0) rfl) ?_; intro a hf
     refine l_ev hf ⟨_, _, rfl, rfl, hg29⟩ rfl rfl (ev_loadN (l := [.int .i64 (((scaleI q (dPow (k : Int))).getD mZ).rows), .int .i64 (((scaleI q (dPow (k : Int))).getD mZ).cols), .slice A19 (((scaleI q (dPow (k : Int))).getD mZ).cells).length c19]) hf rfl tN_141 (hB21.at 0) rfl) ?_; intro a hf
     refine l_eff hf ⟨_, _, rfl, rfl, hg29⟩ rfl rfl (ef_call (vs := [.agg #[.int .i64 p.rows, .int .i64 p.cols, .slice Ap p.cells.length cp], .agg #[.int .i64 (((scaleI q (dPow (k : Int))).getD mZ).rows), .int .i64 (((scaleI q (dPow (k : Int))).getD mZ).cols), .slice A19 (((scaleI q (dPow (k : Int))).getD mZ).cells).length c19]]) hf rfl ff_141 (F141 _ p Ap cp hr_p.top ((scaleI q (dPow (k : Int))).getD mZ) A19 c19 ho19.rd.top hla)) ?_; rintro a _ w20 ⟨rfl, hE⟩ hf
     replace hB4 := hB4.below hE
     replace hB5 := hB5.below hE
     replace hB21 := hB21.below hE
     replace hr_p := hr_p.below hE
     replace hr_q := hr_q.below hE
     replace ho19 := ho19.below hE
     replace hW := hW.trans (hE.mono hW.size)
     replace hEc := hEc.trans (hE.mono hEc.size)
     clear hE
     refine l_ev hf trivial rfl rfl (ev_pickT hf rfl hg29 rfl) ?_; intro a hf
     refine wpList_nil ?_
     have hEE : Below w19.heap.size w19 w20 := hEc
     exact ⟨hf.sub ⟨rfl, rfl, rfl, rfl, look_bool rfl (by first | rfl | simp [hc9b, hc15b, hg29]), trivial⟩, hEE⟩
    ·refine l_pass hf ⟨_, _, rfl, rfl, hg29⟩ rfl rfl ?_; intro a hf
     refine l_pass hf ⟨_, _, rfl, rfl, hg29⟩ rfl rfl ?_; intro a hf
     refine l_pass hf ⟨_, _, rfl, rfl, hg29⟩ rfl rfl ?_; intro a hf
     refine l_ev hf trivial rfl rfl (ev_pickF hf rfl hg29 rfl) ?_; intro a hf
     refine wpList_nil ?_
     have hEE : Below w19.heap.size w19 w19 := hEc
     exact ⟨hf.sub ⟨rfl, rfl, rfl, rfl, look_bool rfl (by first | rfl | simp [hc9b, hc15b, hg29]), trivial⟩, hEE⟩
   rintro a w21 ⟨hf, hE⟩
   replace hB4 := hB4.below hE
   replace hB5 := hB5.below hE
   replace hB21 := hB21.below hE
   replace hr_p := hr_p.below hE
   replace hr_q := hr_q.below hE
   replace ho19 := ho19.below hE
   replace hW := hW.trans (hE.mono hW.size)
   clear hE
   refine hK28 _ _ ?_; try clear hK28 K28
   refine c_if hf rfl (fun hc30 => ?_) (fun hc30 => ?_)
   ·have hc30b := hc30
    have hT : eqPhT p q k = true := hc30
    refine wp_seq_k ?_; intro K31 hK31
    refine wp_region_lit ?_
    refine l_ev hf trivial rfl rfl (ev_move hf rfl) ?_; intro a hf
    refine l_ev hf trivial rfl rfl (ev_assign hf rfl) ?_; intro a hf
    refine l_ev hf trivial rfl rfl (ev_assign hf rfl) ?_; intro a hf
    refine l_ev hf trivial rfl rfl (ev_assign hf rfl) ?_; intro a hf
    refine wpList_nil ?_
    refine hK31 _ _ ?_; try clear hK31 K31
    refine wp_ret ?_
    refine x_retB ?_
    refine x_retS ?_
    refine x_retS ?_
    refine x_retB ?_
    refine x_retS ?_
    refine c_ret hf (res3 hf rfl rfl rfl rfl) ?_
    exact ⟨_, by rw [hy, Bool.true_and, eqPh, range_any (by omega) hT], hW⟩
   ·have hc30b := hc30
    have hT : eqPhT p q k = false := hc30
    refine wp_skip ?_
    refine x_norm ?_
    refine hK16 _ _ ?_; try clear hK16 K16
    refine wp_region_lit ?_
    refine l_ev hf trivial rfl rfl (ev_addx hf rfl rfl (by omega) (by omega)) ?_; intro a hf
    refine l_ev hf trivial rfl rfl (ev_move hf rfl) ?_; intro a hf
    refine wpList_nil ?_
    refine x_thenN ?_
    exact ⟨k + 1, ⟨hf.sub ⟨rfl, rfl, rfl, trivial⟩, (by omega), (fun j hj => by rcases Nat.lt_or_ge j k with h9 | h9; exact hall j h9; obtain rfl : j = k := (by omega); exact hT), hB4, hB5, hr_p, hr_q, hW⟩, (by omega)⟩
  ·have hc15b := hc15
   have hc15 := of_decide_eq_false hc15
   refine wp_exit ?_
   refine x_exS ?_
   refine x_exS ?_
   refine x_exit ?_
   refine hK11 _ _ ?_; try clear hK11 K11
   refine wp_seq_k ?_; intro K32 hK32
   refine wp_region_lit ?_
   refine l_ev hf trivial rfl rfl (ev_assign hf rfl) ?_; intro a hf
   refine l_ev hf trivial rfl rfl (ev_assign hf rfl) ?_; intro a hf
   refine l_ev hf trivial rfl rfl (ev_assign hf rfl) ?_; intro a hf
   refine wpList_nil ?_
   refine hK32 _ _ ?_; try clear hK32 K32
   refine wp_ret ?_
   refine c_ret hf (res3 hf rfl rfl rfl rfl) ?_
   exact ⟨_, by rw [hy, Bool.true_and, eqPh, range_none (fun j hj => hall j (by omega))], hW⟩
end Go.Proofs.YtfgnmflfiobkmaaGreat
set_option maxRecDepth 4000
namespace Go.Proofs.YtfgnmflfiobkmaaGreat
open Go.RowKit
theorem F231 (w0 : World) (bV : Nat) (f : Bool) (hBV : Blk w0 bV 194 [.bool f]) (x : Rg) : Ret Tryz.prog 231 [.pointer (some ⟨bV, 0, none⟩), .agg #[.int .i64 x.a, .int .i64 x.b, .int .i64 x.c, .int .i64 x.d]] w0 (fun v w => v = rV (sRing x) ∧ Kept bV w0.heap.size w0 w ∧ Blk w bV 194 [.bool (f || !rOk x)]) := by
 have hltV := hBV.lt
 refine enter Tryz.func231 rfl 13 rfl rfl ?_
 intro a hf
 have hW : Kept bV w0.heap.size w0 w0 := Kept.refl _ _ _
 refine wp_seq_k ?_; intro K1 hK1
 refine wp_region_lit ?_
 refine l_eff hf trivial rfl rfl (ef_box (zs := [.int .i64 x.a, .int .i64 x.b, .int .i64 x.c, .int .i64 x.d]) hf rfl rfl) ?_; rintro a _ w1 ⟨b2, rfl, hl2, hE, hB2⟩ hf
 have hlo2 := Nat.le_trans hW.size hl2
 replace hBV := hBV.below hE
 replace hW := hW.trans (hE.mono hW.size)
 clear hE
 refine l_eff hf trivial rfl rfl (ef_alloc (zs := [.int .i64 0, .int .i64 0, .int .i64 0, .int .i64 0]) z_187 rfl) ?_; rintro a _ w2 ⟨b3, rfl, hl3, hE, hB3⟩ hf
 have hne2_3 : b2 ≠ b3 := by have := hB2.lt; omega
 have hlo3 := Nat.le_trans hW.size hl3
 replace hBV := hBV.below hE
 replace hB2 := hB2.below hE
 replace hW := hW.trans (hE.mono hW.size)
 clear hE
 refine wpList_nil ?_
 refine hK1 _ _ ?_; try clear hK1 K1
 refine wp_seq_k ?_; intro K4 hK4
 refine wp_seq_k ?_; intro K5 hK5
 refine wp_region_lit ?_
 refine l_ev hf trivial rfl rfl (ev_loadN (l := [.int .i64 x.a, .int .i64 x.b, .int .i64 x.c, .int .i64 x.d]) hf rfl tN_187 (hB2.at 0) rfl) ?_; intro a hf
 refine l_eff hf trivial rfl rfl (ef_call (vs := [.agg #[.int .i64 x.a, .int .i64 x.b, .int .i64 x.c, .int .i64 x.d]]) hf rfl ff_245 (F245 _ x)) ?_; rintro a _ w3 ⟨rfl, hE⟩ hf
 replace hBV := hBV.below hE
 replace hB2 := hB2.below hE
 replace hB3 := hB3.below hE
 replace hW := hW.trans (hE.mono hW.size)
 clear hE
 refine l_ev hf trivial rfl rfl (ev_not hf rfl) ?_; intro a hf
 refine wpList_nil ?_
 refine hK5 _ _ ?_; try clear hK5 K5
 refine c_if hf rfl (fun hc6 => ?_) (fun hc6 => ?_)
 ·have hc6b := hc6
  have ho : rOk x = false := by revert hc6; cases rOk x <;> simp
  refine wp_seq_k ?_; intro K7 hK7
  refine wp_region_lit ?_
  refine l_ev hf trivial rfl rfl (ev_move hf rfl) ?_; intro a hf
  refine l_ev hf trivial rfl rfl (ev_nil hf rfl) ?_; intro a hf
  refine l_ev hf trivial rfl rfl (ev_fieldB hf rfl fd_194_0 (m := 0) rfl) ?_; intro a hf
  refine l_eff0 hf trivial rfl (ef_store (vs := [.bool true]) (l' := [.bool true]) hf rfl rfl sz_4 hBV rfl rfl rfl rfl rfl) ?_; rintro a _ w4 ⟨ho, hb⟩ hf
  have hold := hBV
  replace hB2 := hB2.only ho (Blk.ne hB2 hold rfl)
  replace hB3 := hB3.only ho (Blk.ne hB3 hold rfl)
  replace hW := hW.self ho
  clear hold
  have hBV := hb
  clear hb ho
  refine wpList_nil ?_
  refine hK7 _ _ ?_; try clear hK7 K7
  refine wp_seq_k ?_; intro K8 hK8
  refine wp_region_lit ?_
  refine l_ev hf trivial rfl rfl (ev_build (ps := []) (cs := [.int .i64 0, .int .i64 0, .int .i64 0, .int .i64 0]) hf rfl (fun _ => by first | rfl | kernel_rfl)) ?_; intro a hf
  refine l_eff0 hf trivial rfl (ef_store (vs := [.int .i64 0, .int .i64 0, .int .i64 0, .int .i64 0]) (l' := [.int .i64 0, .int .i64 0, .int .i64 0, .int .i64 0]) hf rfl rfl sz_187 hB3 rfl rfl rfl rfl rfl) ?_; rintro a _ w5 ⟨ho, hb⟩ hf
  have hold := hB3
  replace hBV := hBV.only ho (Blk.ne hBV hold rfl)
  replace hB2 := hB2.only ho (by omega)
  replace hW := Kept.only hW ho hlo3
  clear hold
  have hB3 := hb
  clear hb ho
  refine wpList_nil ?_
  refine hK8 _ _ ?_; try clear hK8 K8
  refine wp_ret ?_
  refine x_retS ?_
  refine c_ret hf (res1 hf rfl (ResV.cellN (l := [.int .i64 0, .int .i64 0, .int .i64 0, .int .i64 0]) rfl tN_187 (hB3.at 0) rfl)) ?_
  exact ⟨by simp [sRing, ho], hW, by simpa [ho] using hBV⟩
 ·have hc6b := hc6
  have ho : rOk x = true := by revert hc6; cases rOk x <;> simp
  refine wp_skip ?_
  refine hK4 _ _ ?_; try clear hK4 K4
  refine wp_seq_k ?_; intro K9 hK9
  refine wp_region_lit ?_
  refine l_ev hf trivial rfl rfl (ev_loadN (l := [.int .i64 x.a, .int .i64 x.b, .int .i64 x.c, .int .i64 x.d]) hf rfl tN_187 (hB2.at 0) rfl) ?_; intro a hf
  refine l_eff0 hf trivial rfl (ef_store (vs := [.int .i64 x.a, .int .i64 x.b, .int .i64 x.c, .int .i64 x.d]) (l' := [.int .i64 x.a, .int .i64 x.b, .int .i64 x.c, .int .i64 x.d]) hf rfl rfl sz_187 hB3 rfl rfl rfl rfl rfl) ?_; rintro a _ w6 ⟨ho, hb⟩ hf
  have hold := hB3
  replace hBV := hBV.only ho (Blk.ne hBV hold rfl)
  replace hB2 := hB2.only ho (by omega)
  replace hW := Kept.only hW ho hlo3
  clear hold
  have hB3 := hb
  clear hb ho
  refine wpList_nil ?_
  refine hK9 _ _ ?_; try clear hK9 K9
  refine wp_ret ?_
  refine c_ret hf (res1 hf rfl (ResV.cellN (l := [.int .i64 x.a, .int .i64 x.b, .int .i64 x.c, .int .i64 x.d]) rfl tN_187 (hB3.at 0) rfl)) ?_
  exact ⟨by simp [sRing, ho], hW, by simpa [ho] using hBV⟩
theorem F202 (w0 : World) (bV : Nat) (f : Bool) (hBV : Blk w0 bV 194 [.bool f]) (x : Dy) (y : Dy) (hx : 0 ≤ x.exp ∧ x.exp ≤ 60) (hy : 0 ≤ y.exp ∧ y.exp ≤ 60) : Ret Tryz.prog 202 [.pointer (some ⟨bV, 0, none⟩), .agg #[.int .i64 x.num.a, .int .i64 x.num.b, .int .i64 x.num.c, .int .i64 x.num.d, .int .i64 x.exp], .agg #[.int .i64 y.num.a, .int .i64 y.num.b, .int .i64 y.num.c, .int .i64 y.num.d, .int .i64 y.exp]] w0 (fun v w => v = dV ((sMul f x y).2) ∧ Kept bV w0.heap.size w0 w ∧ Blk w bV 194 [.bool ((sMul f x y).1)]) := by
 have hltV := hBV.lt
 refine enter Tryz.func202 rfl 30 rfl rfl ?_
 intro a hf
 have hW : Kept bV w0.heap.size w0 w0 := Kept.refl _ _ _
 refine wp_seq_k ?_; intro K1 hK1
 refine wp_region_lit ?_
 refine l_eff hf trivial rfl rfl (ef_box (zs := [.int .i64 x.num.a, .int .i64 x.num.b, .int .i64 x.num.c, .int .i64 x.num.d, .int .i64 x.exp]) hf rfl rfl) ?_; rintro a _ w1 ⟨b2, rfl, hl2, hE, hB2⟩ hf
 have hlo2 := Nat.le_trans hW.size hl2
 replace hBV := hBV.below hE
 replace hW := hW.trans (hE.mono hW.size)
 clear hE
 refine l_eff hf trivial rfl rfl (ef_box (zs := [.int .i64 y.num.a, .int .i64 y.num.b, .int .i64 y.num.c, .int .i64 y.num.d, .int .i64 y.exp]) hf rfl rfl) ?_; rintro a _ w2 ⟨b3, rfl, hl3, hE, hB3⟩ hf
 have hne2_3 : b2 ≠ b3 := by have := hB2.lt; omega
 have hlo3 := Nat.le_trans hW.size hl3
 replace hBV := hBV.below hE
 replace hB2 := hB2.below hE
 replace hW := hW.trans (hE.mono hW.size)
 clear hE
 refine l_eff hf trivial rfl rfl (ef_alloc (zs := [.int .i64 0, .int .i64 0, .int .i64 0, .int .i64 0, .int .i64 0]) z_189 rfl) ?_; rintro a _ w3 ⟨b4, rfl, hl4, hE, hB4⟩ hf
 have hne2_4 : b2 ≠ b4 := by have := hB2.lt; omega
 have hne3_4 : b3 ≠ b4 := by have := hB3.lt; omega
 have hlo4 := Nat.le_trans hW.size hl4
 replace hBV := hBV.below hE
 replace hB2 := hB2.below hE
 replace hB3 := hB3.below hE
 replace hW := hW.trans (hE.mono hW.size)
 clear hE
 refine wpList_nil ?_
 refine hK1 _ _ ?_; try clear hK1 K1
 refine wp_seq_k ?_; intro K5 hK5
 refine wp_seq_k ?_; intro K6 hK6
 refine wp_region_lit ?_
 refine l_ev hf trivial rfl rfl (ev_fieldB hf rfl fd_189_1 (m := 4) rfl) ?_; intro a hf
 refine l_ev hf trivial rfl rfl (ev_load1 hf rfl t1_3 (hB2.at 4)) ?_; intro a hf
 refine l_ev hf trivial rfl rfl (ev_fieldB hf rfl fd_189_1 (m := 4) rfl) ?_; intro a hf
 refine l_ev hf trivial rfl rfl (ev_load1 hf rfl t1_3 (hB3.at 4)) ?_; intro a hf
 refine l_ev hf trivial rfl rfl (ev_addx hf rfl rfl (by omega) (by omega)) ?_; intro a hf
 refine l_ev hf trivial rfl rfl (ev_gtr hf rfl rfl) ?_; intro a hf
 refine wpList_nil ?_
 refine hK6 _ _ ?_; try clear hK6 K6
 refine c_if hf rfl (fun hc7 => ?_) (fun hc7 => ?_)
 ·have hc7b := hc7
  have hc7 := of_decide_eq_true hc7
  have hm : 60 < x.exp + y.exp := hc7
  refine wp_seq_k ?_; intro K8 hK8
  refine wp_region_lit ?_
  refine l_ev hf trivial rfl rfl (ev_move hf rfl) ?_; intro a hf
  refine l_ev hf trivial rfl rfl (ev_nil hf rfl) ?_; intro a hf
  refine l_ev hf trivial rfl rfl (ev_fieldB hf rfl fd_194_0 (m := 0) rfl) ?_; intro a hf
  refine l_eff0 hf trivial rfl (ef_store (vs := [.bool true]) (l' := [.bool true]) hf rfl rfl sz_4 hBV rfl rfl rfl rfl rfl) ?_; rintro a _ w4 ⟨ho, hb⟩ hf
  have hold := hBV
  replace hB2 := hB2.only ho (Blk.ne hB2 hold rfl)
  replace hB3 := hB3.only ho (Blk.ne hB3 hold rfl)
  replace hB4 := hB4.only ho (Blk.ne hB4 hold rfl)
  replace hW := hW.self ho
  clear hold
  have hBV := hb
  clear hb ho
  refine wpList_nil ?_
  refine hK8 _ _ ?_; try clear hK8 K8
  refine wp_seq_k ?_; intro K9 hK9
  refine wp_region_lit ?_
  refine l_ev hf trivial rfl rfl (ev_build (ps := []) (cs := [.int .i64 0, .int .i64 0, .int .i64 0, .int .i64 0, .int .i64 0]) hf rfl (fun _ => by first | rfl | kernel_rfl)) ?_; intro a hf
  refine l_eff0 hf trivial rfl (ef_store (vs := [.int .i64 0, .int .i64 0, .int .i64 0, .int .i64 0, .int .i64 0]) (l' := [.int .i64 0, .int .i64 0, .int .i64 0, .int .i64 0, .int .i64 0]) hf rfl rfl sz_189 hB4 rfl rfl rfl rfl rfl) ?_; rintro a _ w5 ⟨ho, hb⟩ hf
  have hold := hB4
  replace hBV := hBV.only ho (Blk.ne hBV hold rfl)
  replace hB2 := hB2.only ho (by omega)
  replace hB3 := hB3.only ho (by omega)
  replace hW := Kept.only hW ho hlo4
  clear hold
  have hB4 := hb
  clear hb ho
  refine wpList_nil ?_
  refine hK9 _ _ ?_; try clear hK9 K9
  refine wp_ret ?_
  refine x_retS ?_
  refine c_ret hf (res1 hf rfl (ResV.cellN (l := [.int .i64 0, .int .i64 0, .int .i64 0, .int .i64 0, .int .i64 0]) rfl tN_189 (hB4.at 0) rfl)) ?_
  exact ⟨by rw [sMul, if_pos hm]; rfl, hW, by rw [sMul, if_pos hm]; exact hBV⟩
 ·have hc7b := hc7
  have hc7 := of_decide_eq_false hc7
  have hm : ¬ 60 < x.exp + y.exp := hc7
  refine wp_skip ?_
  refine hK5 _ _ ?_; try clear hK5 K5
  refine wp_seq_k ?_; intro K10 hK10
  refine wp_draw (some bV) (fun j => [13].contains j) mixed ?_
  intro w6 hE
  replace hBV := hBV.below hE
  replace hB2 := hB2.below hE
  replace hB3 := hB3.below hE
  replace hB4 := hB4.below hE
  replace hW := hW.trans (hE.mono hW.size)
  clear hE
  refine s_ev0 0 rfl (by kernel_rfl) hf trivial rfl rfl (fun _ => ev_move hf rfl) ?_; intro a hf
  refine s_ev0 1 rfl (by kernel_rfl) hf trivial rfl rfl (fun _ => ev_fieldB hf rfl fd_189_0 (m := 0) rfl) ?_; intro a hf
  refine s_evV 2 rfl (by kernel_rfl) (by kernel_rfl) hf trivial rfl rfl (fun w1 h1 => ev_loadN (l := [.int .i64 x.num.a, .int .i64 x.num.b, .int .i64 x.num.c, .int .i64 x.num.d]) hf rfl tN_187 (((hB2.only h1 (Blk.ne hB2 hBV rfl)).at 0).take 4) rfl) ?_; intro a hf
  refine s_ev0 3 rfl (by kernel_rfl) hf trivial rfl rfl (fun _ => ev_fieldB hf rfl fd_189_0 (m := 0) rfl) ?_; intro a hf
  refine s_evV 4 rfl (by kernel_rfl) (by kernel_rfl) hf trivial rfl rfl (fun w1 h1 => ev_loadN (l := [.int .i64 y.num.a, .int .i64 y.num.b, .int .i64 y.num.c, .int .i64 y.num.d]) hf rfl tN_187 (((hB3.only h1 (Blk.ne hB3 hBV rfl)).at 0).take 4) rfl) ?_; intro a hf
  refine s_ev0 7 rfl (by kernel_rfl) hf trivial rfl rfl (fun _ => ev_fieldB hf rfl fd_189_1 (m := 4) rfl) ?_; intro a hf
  refine s_evV 8 rfl (by kernel_rfl) (by kernel_rfl) hf trivial rfl rfl (fun w1 h1 => ev_load1 hf rfl t1_3 ((hB2.only h1 (Blk.ne hB2 hBV rfl)).at 4)) ?_; intro a hf
  refine s_ev0 9 rfl (by kernel_rfl) hf trivial rfl rfl (fun _ => ev_fieldB hf rfl fd_189_1 (m := 4) rfl) ?_; intro a hf
  refine s_evV 10 rfl (by kernel_rfl) (by kernel_rfl) hf trivial rfl rfl (fun w1 h1 => ev_load1 hf rfl t1_3 ((hB3.only h1 (Blk.ne hB3 hBV rfl)).at 4)) ?_; intro a hf
  refine s_ev0 11 rfl (by kernel_rfl) hf trivial rfl rfl (fun _ => ev_addx hf rfl rfl (by omega) (by omega)) ?_; intro a hf
  refine s_one 5 (by kernel_rfl) ?_
  refine p_eff rfl hf trivial rfl rfl (Ef.mono (ef_call (vs := [.agg #[.int .i64 x.num.a, .int .i64 x.num.b, .int .i64 x.num.c, .int .i64 x.num.d], .agg #[.int .i64 y.num.a, .int .i64 y.num.b, .int .i64 y.num.c, .int .i64 y.num.d]]) hf rfl ff_235 (F235 _ x.num y.num)) (fun _ _ h => ⟨fun _ => by obtain ⟨rfl, hE⟩ := h; exact Keep.of_below hE, h⟩)) ?_; rintro a _ w7 ⟨rfl, hE⟩ hf
  replace hBV := hBV.below hE
  replace hB2 := hB2.below hE
  replace hB3 := hB3.below hE
  replace hB4 := hB4.below hE
  replace hW := hW.trans (hE.mono hW.size)
  clear hE
  refine s_one 6 (by kernel_rfl) ?_
  refine p_eff rfl hf trivial rfl rfl (Ef.mono (ef_call (vs := [.pointer (some ⟨bV, 0, none⟩), .agg #[.int .i64 ((rMul x.num y.num).a), .int .i64 ((rMul x.num y.num).b), .int .i64 ((rMul x.num y.num).c), .int .i64 ((rMul x.num y.num).d)]]) hf rfl ff_231 (F231 _ bV f hBV (rMul x.num y.num))) (fun _ _ h => ⟨fun _ => by obtain ⟨rfl, hK, hbn⟩ := h; exact hK.keep, h⟩)) ?_; rintro a _ w8 ⟨rfl, hK, hbn⟩ hf
  obtain ⟨wm, hO, hm, hE⟩ := hK.mid; clear hm
  have hold := hBV
  replace hB2 := hB2.only hO (Blk.ne hB2 hold rfl)
  replace hB3 := hB3.only hO (Blk.ne hB3 hold rfl)
  replace hB4 := hB4.only hO (Blk.ne hB4 hold rfl)
  replace hW := hW.self hO
  replace hB2 := hB2.below hE
  replace hB3 := hB3.below hE
  replace hB4 := hB4.below hE
  replace hW := hW.trans (hE.mono hW.size)
  clear hold hE hO hK; replace hBV := hbn; clear hbn
  refine s_one 12 (by kernel_rfl) ?_
  refine p_eff rfl hf trivial rfl rfl (Ef.mono (ef_call (vs := [.agg #[.int .i64 ((sRing (rMul x.num y.num)).a), .int .i64 ((sRing (rMul x.num y.num)).b), .int .i64 ((sRing (rMul x.num y.num)).c), .int .i64 ((sRing (rMul x.num y.num)).d)], .int .i64 (x.exp + y.exp)]) hf rfl ff_233 (F233 _ (sRing (rMul x.num y.num)) (x.exp + y.exp) (by omega))) (fun _ _ h => ⟨fun _ => by obtain ⟨rfl, hE⟩ := h; exact Keep.of_below hE, h⟩)) ?_; rintro a _ w9 ⟨rfl, hE⟩ hf
  replace hBV := hBV.below hE
  replace hB2 := hB2.below hE
  replace hB3 := hB3.below hE
  replace hB4 := hB4.below hE
  replace hW := hW.trans (hE.mono hW.size)
  clear hE
  refine s_one 13 (by kernel_rfl) ?_
  refine p_eff0 rfl hf trivial rfl (Ef.mono (ef_store (vs := [.int .i64 ((dLow (sRing (rMul x.num y.num)) (x.exp + y.exp)).num.a), .int .i64 ((dLow (sRing (rMul x.num y.num)) (x.exp + y.exp)).num.b), .int .i64 ((dLow (sRing (rMul x.num y.num)) (x.exp + y.exp)).num.c), .int .i64 ((dLow (sRing (rMul x.num y.num)) (x.exp + y.exp)).num.d), .int .i64 ((dLow (sRing (rMul x.num y.num)) (x.exp + y.exp)).exp)]) (l' := [.int .i64 ((dLow (sRing (rMul x.num y.num)) (x.exp + y.exp)).num.a), .int .i64 ((dLow (sRing (rMul x.num y.num)) (x.exp + y.exp)).num.b), .int .i64 ((dLow (sRing (rMul x.num y.num)) (x.exp + y.exp)).num.c), .int .i64 ((dLow (sRing (rMul x.num y.num)) (x.exp + y.exp)).num.d), .int .i64 ((dLow (sRing (rMul x.num y.num)) (x.exp + y.exp)).exp)]) hf rfl rfl sz_189 hB4 rfl rfl rfl rfl rfl) (fun _ _ h => ⟨fun h0 => absurd h0 (by decide), h⟩)) ?_; rintro a _ w10 ⟨ho, hb⟩ hf
  have hold := hB4
  replace hBV := hBV.only ho (Blk.ne hBV hold rfl)
  replace hB2 := hB2.only ho (by omega)
  replace hB3 := hB3.only ho (by omega)
  replace hW := Kept.only hW ho hlo4
  clear hold
  have hB4 := hb
  clear hb ho
  refine s_done (by kernel_rfl) ?_
  refine hK10 _ _ ?_; try clear hK10 K10
  refine wp_ret ?_
  refine c_ret hf (res1 hf rfl (ResV.cellN (l := [.int .i64 ((dLow (sRing (rMul x.num y.num)) (x.exp + y.exp)).num.a), .int .i64 ((dLow (sRing (rMul x.num y.num)) (x.exp + y.exp)).num.b), .int .i64 ((dLow (sRing (rMul x.num y.num)) (x.exp + y.exp)).num.c), .int .i64 ((dLow (sRing (rMul x.num y.num)) (x.exp + y.exp)).num.d), .int .i64 ((dLow (sRing (rMul x.num y.num)) (x.exp + y.exp)).exp)]) rfl tN_189 (hB4.at 0) rfl)) ?_
  exact ⟨by rw [sMul, if_neg hm], hW, by rw [sMul, if_neg hm]; exact hBV⟩
theorem F201 (w0 : World) (bV : Nat) (f : Bool) (hBV : Blk w0 bV 194 [.bool f]) (x : Dy) (y : Dy) (hx : 0 ≤ x.exp ∧ x.exp ≤ 60) (hy : 0 ≤ y.exp ∧ y.exp ≤ 60) : Ret Tryz.prog 201 [.pointer (some ⟨bV, 0, none⟩), .agg #[.int .i64 x.num.a, .int .i64 x.num.b, .int .i64 x.num.c, .int .i64 x.num.d, .int .i64 x.exp], .agg #[.int .i64 y.num.a, .int .i64 y.num.b, .int .i64 y.num.c, .int .i64 y.num.d, .int .i64 y.exp]] w0 (fun v w => v = dV ((sAdd f x y).2) ∧ Kept bV w0.heap.size w0 w ∧ Blk w bV 194 [.bool ((sAdd f x y).1)]) := by
 have hltV := hBV.lt
 refine enter Tryz.func201 rfl 45 rfl rfl ?_
 intro a hf
 have hW : Kept bV w0.heap.size w0 w0 := Kept.refl _ _ _
 refine wp_seq_k ?_; intro K1 hK1
 refine wp_region_lit ?_
 refine l_eff hf trivial rfl rfl (ef_box (zs := [.int .i64 x.num.a, .int .i64 x.num.b, .int .i64 x.num.c, .int .i64 x.num.d, .int .i64 x.exp]) hf rfl rfl) ?_; rintro a _ w1 ⟨b2, rfl, hl2, hE, hB2⟩ hf
 have hlo2 := Nat.le_trans hW.size hl2
 replace hBV := hBV.below hE
 replace hW := hW.trans (hE.mono hW.size)
 clear hE
 refine l_eff hf trivial rfl rfl (ef_box (zs := [.int .i64 y.num.a, .int .i64 y.num.b, .int .i64 y.num.c, .int .i64 y.num.d, .int .i64 y.exp]) hf rfl rfl) ?_; rintro a _ w2 ⟨b3, rfl, hl3, hE, hB3⟩ hf
 have hne2_3 : b2 ≠ b3 := by have := hB2.lt; omega
 have hlo3 := Nat.le_trans hW.size hl3
 replace hBV := hBV.below hE
 replace hB2 := hB2.below hE
 replace hW := hW.trans (hE.mono hW.size)
 clear hE
 refine l_eff hf trivial rfl rfl (ef_alloc (zs := [.int .i64 0, .int .i64 0, .int .i64 0, .int .i64 0, .int .i64 0]) z_189 rfl) ?_; rintro a _ w3 ⟨b4, rfl, hl4, hE, hB4⟩ hf
 have hne2_4 : b2 ≠ b4 := by have := hB2.lt; omega
 have hne3_4 : b3 ≠ b4 := by have := hB3.lt; omega
 have hlo4 := Nat.le_trans hW.size hl4
 replace hBV := hBV.below hE
 replace hB2 := hB2.below hE
 replace hB3 := hB3.below hE
 replace hW := hW.trans (hE.mono hW.size)
 clear hE
 refine wpList_nil ?_
 refine hK1 _ _ ?_; try clear hK1 K1
 refine wp_seq_k ?_; intro K5 hK5
 refine wp_block ?_
 refine c_loop (σ := Bool × Dy) (fun (s : Bool × Dy) (a : Act) (w : World) => match s with | (f1, x1) => Fr a 45 [(0, .pointer (some ⟨bV, 0, none⟩)), (4, .pointer (some ⟨b2, 0, none⟩)), (5, .pointer (some ⟨b3, 0, none⟩)), (6, .pointer (some ⟨b4, 0, none⟩))] ∧ (sRaiseN (y.exp - x1.exp).toNat f1 x1 = sRaiseN (y.exp - x.exp).toNat f x) ∧ (0 ≤ x1.exp ∧ x1.exp ≤ 60) ∧ Blk w bV 194 [.bool f1] ∧ Blk w b2 189 [.int .i64 x1.num.a, .int .i64 x1.num.b, .int .i64 x1.num.c, .int .i64 x1.num.d, .int .i64 x1.exp] ∧ Blk w b3 189 [.int .i64 y.num.a, .int .i64 y.num.b, .int .i64 y.num.c, .int .i64 y.num.d, .int .i64 y.exp] ∧ Blk w b4 189 [.int .i64 0, .int .i64 0, .int .i64 0, .int .i64 0, .int .i64 0] ∧ Kept bV w0.heap.size w0 w) (fun (s : Bool × Dy) => match s with | (f1, x1) => (y.exp - x1.exp).toNat) (f, x) ?_ ?_
 · exact ⟨hf.sub ⟨rfl, rfl, rfl, rfl, trivial⟩, rfl, hx, hBV, hB2, hB3, hB4, hW⟩
 rintro ⟨f1, x1⟩ a w4 ⟨hf, hinv, hx60, hBV, hB2, hB3, hB4, hW⟩
 refine wp_seq_k ?_; intro K6 hK6
 refine wp_seq_k ?_; intro K7 hK7
 refine wp_region_lit ?_
 refine l_ev hf trivial rfl rfl (ev_fieldB hf rfl fd_189_1 (m := 4) rfl) ?_; intro a hf
 refine l_ev hf trivial rfl rfl (ev_load1 hf rfl t1_3 (hB2.at 4)) ?_; intro a hf
 refine l_ev hf trivial rfl rfl (ev_fieldB hf rfl fd_189_1 (m := 4) rfl) ?_; intro a hf
 refine l_ev hf trivial rfl rfl (ev_load1 hf rfl t1_3 (hB3.at 4)) ?_; intro a hf
 refine l_ev hf trivial rfl rfl (ev_lss hf rfl rfl) ?_; intro a hf
 refine wpList_nil ?_
 refine hK7 _ _ ?_; try clear hK7 K7
 refine c_if hf rfl (fun hc8 => ?_) (fun hc8 => ?_)
 ·have hc8b := hc8
  have hc8 := of_decide_eq_true hc8
  have hlt : x1.exp < y.exp := hc8
  refine wp_skip ?_
  refine hK6 _ _ ?_; try clear hK6 K6
  refine wp_block ?_
  refine wp_draw (some bV) (fun j => [9].contains j) mixed ?_
  intro w5 hE
  replace hBV := hBV.below hE
  replace hB2 := hB2.below hE
  replace hB3 := hB3.below hE
  replace hB4 := hB4.below hE
  replace hW := hW.trans (hE.mono hW.size)
  clear hE
  refine s_ev0 0 rfl (by kernel_rfl) hf trivial rfl rfl (fun _ => ev_move hf rfl) ?_; intro a hf
  refine s_ev0 1 rfl (by kernel_rfl) hf trivial rfl rfl (fun _ => ev_fieldB hf rfl fd_189_0 (m := 0) rfl) ?_; intro a hf
  refine s_evV 2 rfl (by kernel_rfl) (by kernel_rfl) hf trivial rfl rfl (fun w1 h1 => ev_loadN (l := [.int .i64 x1.num.a, .int .i64 x1.num.b, .int .i64 x1.num.c, .int .i64 x1.num.d]) hf rfl tN_187 (((hB2.only h1 (Blk.ne hB2 hBV rfl)).at 0).take 4) rfl) ?_; intro a hf
  refine s_ev0 5 rfl (by kernel_rfl) hf trivial rfl rfl (fun _ => ev_fieldB hf rfl fd_189_1 (m := 4) rfl) ?_; intro a hf
  refine s_evV 6 rfl (by kernel_rfl) (by kernel_rfl) hf trivial rfl rfl (fun w1 h1 => ev_load1 hf rfl t1_3 ((hB2.only h1 (Blk.ne hB2 hBV rfl)).at 4)) ?_; intro a hf
  refine s_ev0 7 rfl (by kernel_rfl) hf trivial rfl rfl (fun _ => ev_addx hf rfl rfl (by omega) (by omega)) ?_; intro a hf
  refine s_one 3 (by kernel_rfl) ?_
  refine p_eff rfl hf trivial rfl rfl (Ef.mono (ef_call (vs := [.agg #[.int .i64 x1.num.a, .int .i64 x1.num.b, .int .i64 x1.num.c, .int .i64 x1.num.d]]) hf rfl ff_232 (F232 _ x1.num)) (fun _ _ h => ⟨fun _ => by obtain ⟨rfl, hE⟩ := h; exact Keep.of_below hE, h⟩)) ?_; rintro a _ w6 ⟨rfl, hE⟩ hf
  replace hBV := hBV.below hE
  replace hB2 := hB2.below hE
  replace hB3 := hB3.below hE
  replace hB4 := hB4.below hE
  replace hW := hW.trans (hE.mono hW.size)
  clear hE
  refine s_one 4 (by kernel_rfl) ?_
  refine p_eff rfl hf trivial rfl rfl (Ef.mono (ef_call (vs := [.pointer (some ⟨bV, 0, none⟩), .agg #[.int .i64 ((rRoot x1.num).a), .int .i64 ((rRoot x1.num).b), .int .i64 ((rRoot x1.num).c), .int .i64 ((rRoot x1.num).d)]]) hf rfl ff_231 (F231 _ bV f1 hBV (rRoot x1.num))) (fun _ _ h => ⟨fun _ => by obtain ⟨rfl, hK, hbn⟩ := h; exact hK.keep, h⟩)) ?_; rintro a _ w7 ⟨rfl, hK, hbn⟩ hf
  obtain ⟨wm, hO, hm, hE⟩ := hK.mid; clear hm
  have hold := hBV
  replace hB2 := hB2.only hO (Blk.ne hB2 hold rfl)
  replace hB3 := hB3.only hO (Blk.ne hB3 hold rfl)
  replace hB4 := hB4.only hO (Blk.ne hB4 hold rfl)
  replace hW := hW.self hO
  replace hB2 := hB2.below hE
  replace hB3 := hB3.below hE
  replace hB4 := hB4.below hE
  replace hW := hW.trans (hE.mono hW.size)
  clear hold hE hO hK; replace hBV := hbn; clear hbn
  refine s_ev0 8 rfl (by kernel_rfl) hf trivial rfl rfl (fun _ => ev_build (ps := [(0, .agg #[.int .i64 ((sRing (rRoot x1.num)).a), .int .i64 ((sRing (rRoot x1.num)).b), .int .i64 ((sRing (rRoot x1.num)).c), .int .i64 ((sRing (rRoot x1.num)).d)]), (1, .int .i64 (x1.exp + 1))]) (cs := [.int .i64 ((sRing (rRoot x1.num)).a), .int .i64 ((sRing (rRoot x1.num)).b), .int .i64 ((sRing (rRoot x1.num)).c), .int .i64 ((sRing (rRoot x1.num)).d), .int .i64 (x1.exp + 1)]) hf rfl (fun _ => by first | rfl | kernel_rfl)) ?_; intro a hf
  refine s_one 9 (by kernel_rfl) ?_
  refine p_eff0 rfl hf trivial rfl (Ef.mono (ef_store (vs := [.int .i64 ((sRing (rRoot x1.num)).a), .int .i64 ((sRing (rRoot x1.num)).b), .int .i64 ((sRing (rRoot x1.num)).c), .int .i64 ((sRing (rRoot x1.num)).d), .int .i64 (x1.exp + 1)]) (l' := [.int .i64 ((sRing (rRoot x1.num)).a), .int .i64 ((sRing (rRoot x1.num)).b), .int .i64 ((sRing (rRoot x1.num)).c), .int .i64 ((sRing (rRoot x1.num)).d), .int .i64 (x1.exp + 1)]) hf rfl rfl sz_189 hB2 rfl rfl rfl rfl rfl) (fun _ _ h => ⟨fun h0 => absurd h0 (by decide), h⟩)) ?_; rintro a _ w8 ⟨ho, hb⟩ hf
  have hold := hB2
  replace hBV := hBV.only ho (Blk.ne hBV hold rfl)
  replace hB3 := hB3.only ho (by omega)
  replace hB4 := hB4.only ho (by omega)
  replace hW := Kept.only hW ho hlo2
  clear hold
  have hB2 := hb
  clear hb ho
  refine s_done (by kernel_rfl) ?_
  refine x_norm ?_
  refine x_thenN ?_
  exact ⟨(f1 || !rOk (rRoot x1.num), ⟨sRing (rRoot x1.num), x1.exp + 1⟩), ⟨hf.sub ⟨rfl, rfl, rfl, rfl, trivial⟩, (sRaise_step hinv hlt), (by dsimp only; omega), hBV, hB2, hB3, hB4, hW⟩, (by first | omega | (dsimp only; omega))⟩
 ·have hc8b := hc8
  have hc8 := of_decide_eq_false hc8
  have hx1 := sRaise_done hinv hc8
  refine wp_exit ?_
  refine x_exS ?_
  refine x_exS ?_
  refine x_exit ?_
  refine hK5 _ _ ?_; try clear hK5 K5
  refine wp_seq_k ?_; intro K9 hK9
  refine wp_block ?_
  refine c_loop (σ := Bool × Dy) (fun (s : Bool × Dy) (a : Act) (w : World) => match s with | (f2, y1) => Fr a 45 [(0, .pointer (some ⟨bV, 0, none⟩)), (4, .pointer (some ⟨b2, 0, none⟩)), (5, .pointer (some ⟨b3, 0, none⟩)), (6, .pointer (some ⟨b4, 0, none⟩))] ∧ (sRaiseN (x1.exp - y1.exp).toNat f2 y1 = sRaiseN (x1.exp - y.exp).toNat f1 y) ∧ (0 ≤ y1.exp ∧ y1.exp ≤ 60) ∧ Blk w bV 194 [.bool f2] ∧ Blk w b2 189 [.int .i64 x1.num.a, .int .i64 x1.num.b, .int .i64 x1.num.c, .int .i64 x1.num.d, .int .i64 x1.exp] ∧ Blk w b3 189 [.int .i64 y1.num.a, .int .i64 y1.num.b, .int .i64 y1.num.c, .int .i64 y1.num.d, .int .i64 y1.exp] ∧ Blk w b4 189 [.int .i64 0, .int .i64 0, .int .i64 0, .int .i64 0, .int .i64 0] ∧ Kept bV w0.heap.size w0 w) (fun (s : Bool × Dy) => match s with | (f2, y1) => (x1.exp - y1.exp).toNat) (f1, y) ?_ ?_
  · exact ⟨hf.sub ⟨rfl, rfl, rfl, rfl, trivial⟩, rfl, hy, hBV, hB2, hB3, hB4, hW⟩
  rintro ⟨f2, y1⟩ a w9 ⟨hf, hinv2, hy60, hBV, hB2, hB3, hB4, hW⟩
  refine wp_seq_k ?_; intro K10 hK10
  refine wp_seq_k ?_; intro K11 hK11
  refine wp_region_lit ?_
  refine l_ev hf trivial rfl rfl (ev_fieldB hf rfl fd_189_1 (m := 4) rfl) ?_; intro a hf
  refine l_ev hf trivial rfl rfl (ev_load1 hf rfl t1_3 (hB3.at 4)) ?_; intro a hf
  refine l_ev hf trivial rfl rfl (ev_fieldB hf rfl fd_189_1 (m := 4) rfl) ?_; intro a hf
  refine l_ev hf trivial rfl rfl (ev_load1 hf rfl t1_3 (hB2.at 4)) ?_; intro a hf
  refine l_ev hf trivial rfl rfl (ev_lss hf rfl rfl) ?_; intro a hf
  refine wpList_nil ?_
  refine hK11 _ _ ?_; try clear hK11 K11
  refine c_if hf rfl (fun hc12 => ?_) (fun hc12 => ?_)
  ·have hc12b := hc12
   have hc12 := of_decide_eq_true hc12
   have hlt : y1.exp < x1.exp := hc12
   refine wp_skip ?_
   refine hK10 _ _ ?_; try clear hK10 K10
   refine wp_block ?_
   refine wp_draw (some bV) (fun j => [9].contains j) mixed ?_
   intro w10 hE
   replace hBV := hBV.below hE
   replace hB2 := hB2.below hE
   replace hB3 := hB3.below hE
   replace hB4 := hB4.below hE
   replace hW := hW.trans (hE.mono hW.size)
   clear hE
   refine s_ev0 0 rfl (by kernel_rfl) hf trivial rfl rfl (fun _ => ev_move hf rfl) ?_; intro a hf
   refine s_ev0 1 rfl (by kernel_rfl) hf trivial rfl rfl (fun _ => ev_fieldB hf rfl fd_189_0 (m := 0) rfl) ?_; intro a hf
   refine s_evV 2 rfl (by kernel_rfl) (by kernel_rfl) hf trivial rfl rfl (fun w1 h1 => ev_loadN (l := [.int .i64 y1.num.a, .int .i64 y1.num.b, .int .i64 y1.num.c, .int .i64 y1.num.d]) hf rfl tN_187 (((hB3.only h1 (Blk.ne hB3 hBV rfl)).at 0).take 4) rfl) ?_; intro a hf
   refine s_ev0 5 rfl (by kernel_rfl) hf trivial rfl rfl (fun _ => ev_fieldB hf rfl fd_189_1 (m := 4) rfl) ?_; intro a hf
   refine s_evV 6 rfl (by kernel_rfl) (by kernel_rfl) hf trivial rfl rfl (fun w1 h1 => ev_load1 hf rfl t1_3 ((hB3.only h1 (Blk.ne hB3 hBV rfl)).at 4)) ?_; intro a hf
   refine s_ev0 7 rfl (by kernel_rfl) hf trivial rfl rfl (fun _ => ev_addx hf rfl rfl (by omega) (by omega)) ?_; intro a hf
   refine s_one 3 (by kernel_rfl) ?_
   refine p_eff rfl hf trivial rfl rfl (Ef.mono (ef_call (vs := [.agg #[.int .i64 y1.num.a, .int .i64 y1.num.b, .int .i64 y1.num.c, .int .i64 y1.num.d]]) hf rfl ff_232 (F232 _ y1.num)) (fun _ _ h => ⟨fun _ => by obtain ⟨rfl, hE⟩ := h; exact Keep.of_below hE, h⟩)) ?_; rintro a _ w11 ⟨rfl, hE⟩ hf
   replace hBV := hBV.below hE
   replace hB2 := hB2.below hE
   replace hB3 := hB3.below hE
   replace hB4 := hB4.below hE
   replace hW := hW.trans (hE.mono hW.size)
   clear hE
   refine s_one 4 (by kernel_rfl) ?_
   refine p_eff rfl hf trivial rfl rfl (Ef.mono (ef_call (vs := [.pointer (some ⟨bV, 0, none⟩), .agg #[.int .i64 ((rRoot y1.num).a), .int .i64 ((rRoot y1.num).b), .int .i64 ((rRoot y1.num).c), .int .i64 ((rRoot y1.num).d)]]) hf rfl ff_231 (F231 _ bV f2 hBV (rRoot y1.num))) (fun _ _ h => ⟨fun _ => by obtain ⟨rfl, hK, hbn⟩ := h; exact hK.keep, h⟩)) ?_; rintro a _ w12 ⟨rfl, hK, hbn⟩ hf
   obtain ⟨wm, hO, hm, hE⟩ := hK.mid; clear hm
   have hold := hBV
   replace hB2 := hB2.only hO (Blk.ne hB2 hold rfl)
   replace hB3 := hB3.only hO (Blk.ne hB3 hold rfl)
   replace hB4 := hB4.only hO (Blk.ne hB4 hold rfl)
   replace hW := hW.self hO
   replace hB2 := hB2.below hE
   replace hB3 := hB3.below hE
   replace hB4 := hB4.below hE
   replace hW := hW.trans (hE.mono hW.size)
   clear hold hE hO hK; replace hBV := hbn; clear hbn
   refine s_ev0 8 rfl (by kernel_rfl) hf trivial rfl rfl (fun _ => ev_build (ps := [(0, .agg #[.int .i64 ((sRing (rRoot y1.num)).a), .int .i64 ((sRing (rRoot y1.num)).b), .int .i64 ((sRing (rRoot y1.num)).c), .int .i64 ((sRing (rRoot y1.num)).d)]), (1, .int .i64 (y1.exp + 1))]) (cs := [.int .i64 ((sRing (rRoot y1.num)).a), .int .i64 ((sRing (rRoot y1.num)).b), .int .i64 ((sRing (rRoot y1.num)).c), .int .i64 ((sRing (rRoot y1.num)).d), .int .i64 (y1.exp + 1)]) hf rfl (fun _ => by first | rfl | kernel_rfl)) ?_; intro a hf
   refine s_one 9 (by kernel_rfl) ?_
   refine p_eff0 rfl hf trivial rfl (Ef.mono (ef_store (vs := [.int .i64 ((sRing (rRoot y1.num)).a), .int .i64 ((sRing (rRoot y1.num)).b), .int .i64 ((sRing (rRoot y1.num)).c), .int .i64 ((sRing (rRoot y1.num)).d), .int .i64 (y1.exp + 1)]) (l' := [.int .i64 ((sRing (rRoot y1.num)).a), .int .i64 ((sRing (rRoot y1.num)).b), .int .i64 ((sRing (rRoot y1.num)).c), .int .i64 ((sRing (rRoot y1.num)).d), .int .i64 (y1.exp + 1)]) hf rfl rfl sz_189 hB3 rfl rfl rfl rfl rfl) (fun _ _ h => ⟨fun h0 => absurd h0 (by decide), h⟩)) ?_; rintro a _ w13 ⟨ho, hb⟩ hf
   have hold := hB3
   replace hBV := hBV.only ho (Blk.ne hBV hold rfl)
   replace hB2 := hB2.only ho (by omega)
   replace hB4 := hB4.only ho (by omega)
   replace hW := Kept.only hW ho hlo3
   clear hold
   have hB3 := hb
   clear hb ho
   refine s_done (by kernel_rfl) ?_
   refine x_norm ?_
   refine x_thenN ?_
   exact ⟨(f2 || !rOk (rRoot y1.num), ⟨sRing (rRoot y1.num), y1.exp + 1⟩), ⟨hf.sub ⟨rfl, rfl, rfl, rfl, trivial⟩, (sRaise_step hinv2 hlt), (by dsimp only; omega), hBV, hB2, hB3, hB4, hW⟩, (by first | omega | (dsimp only; omega))⟩
  ·have hc12b := hc12
   have hc12 := of_decide_eq_false hc12
   have hy1 := sRaise_done hinv2 hc12
   refine wp_exit ?_
   refine x_exS ?_
   refine x_exS ?_
   refine x_exit ?_
   refine hK9 _ _ ?_; try clear hK9 K9
   refine wp_seq_k ?_; intro K13 hK13
   refine wp_draw (some bV) (fun j => [10].contains j) mixed ?_
   intro w14 hE
   replace hBV := hBV.below hE
   replace hB2 := hB2.below hE
   replace hB3 := hB3.below hE
   replace hB4 := hB4.below hE
   replace hW := hW.trans (hE.mono hW.size)
   clear hE
   refine s_ev0 0 rfl (by kernel_rfl) hf trivial rfl rfl (fun _ => ev_move hf rfl) ?_; intro a hf
   refine s_ev0 1 rfl (by kernel_rfl) hf trivial rfl rfl (fun _ => ev_fieldB hf rfl fd_189_0 (m := 0) rfl) ?_; intro a hf
   refine s_evV 2 rfl (by kernel_rfl) (by kernel_rfl) hf trivial rfl rfl (fun w1 h1 => ev_loadN (l := [.int .i64 x1.num.a, .int .i64 x1.num.b, .int .i64 x1.num.c, .int .i64 x1.num.d]) hf rfl tN_187 (((hB2.only h1 (Blk.ne hB2 hBV rfl)).at 0).take 4) rfl) ?_; intro a hf
   refine s_ev0 3 rfl (by kernel_rfl) hf trivial rfl rfl (fun _ => ev_fieldB hf rfl fd_189_0 (m := 0) rfl) ?_; intro a hf
   refine s_evV 4 rfl (by kernel_rfl) (by kernel_rfl) hf trivial rfl rfl (fun w1 h1 => ev_loadN (l := [.int .i64 y1.num.a, .int .i64 y1.num.b, .int .i64 y1.num.c, .int .i64 y1.num.d]) hf rfl tN_187 (((hB3.only h1 (Blk.ne hB3 hBV rfl)).at 0).take 4) rfl) ?_; intro a hf
   refine s_ev0 7 rfl (by kernel_rfl) hf trivial rfl rfl (fun _ => ev_fieldB hf rfl fd_189_1 (m := 4) rfl) ?_; intro a hf
   refine s_evV 8 rfl (by kernel_rfl) (by kernel_rfl) hf trivial rfl rfl (fun w1 h1 => ev_load1 hf rfl t1_3 ((hB2.only h1 (Blk.ne hB2 hBV rfl)).at 4)) ?_; intro a hf
   refine s_one 5 (by kernel_rfl) ?_
   refine p_eff rfl hf trivial rfl rfl (Ef.mono (ef_call (vs := [.agg #[.int .i64 x1.num.a, .int .i64 x1.num.b, .int .i64 x1.num.c, .int .i64 x1.num.d], .agg #[.int .i64 y1.num.a, .int .i64 y1.num.b, .int .i64 y1.num.c, .int .i64 y1.num.d]]) hf rfl ff_234 (F234 _ x1.num y1.num)) (fun _ _ h => ⟨fun _ => by obtain ⟨rfl, hE⟩ := h; exact Keep.of_below hE, h⟩)) ?_; rintro a _ w15 ⟨rfl, hE⟩ hf
   replace hBV := hBV.below hE
   replace hB2 := hB2.below hE
   replace hB3 := hB3.below hE
   replace hB4 := hB4.below hE
   replace hW := hW.trans (hE.mono hW.size)
   clear hE
   refine s_one 6 (by kernel_rfl) ?_
   refine p_eff rfl hf trivial rfl rfl (Ef.mono (ef_call (vs := [.pointer (some ⟨bV, 0, none⟩), .agg #[.int .i64 ((rAdd x1.num y1.num).a), .int .i64 ((rAdd x1.num y1.num).b), .int .i64 ((rAdd x1.num y1.num).c), .int .i64 ((rAdd x1.num y1.num).d)]]) hf rfl ff_231 (F231 _ bV f2 hBV (rAdd x1.num y1.num))) (fun _ _ h => ⟨fun _ => by obtain ⟨rfl, hK, hbn⟩ := h; exact hK.keep, h⟩)) ?_; rintro a _ w16 ⟨rfl, hK, hbn⟩ hf
   obtain ⟨wm, hO, hm, hE⟩ := hK.mid; clear hm
   have hold := hBV
   replace hB2 := hB2.only hO (Blk.ne hB2 hold rfl)
   replace hB3 := hB3.only hO (Blk.ne hB3 hold rfl)
   replace hB4 := hB4.only hO (Blk.ne hB4 hold rfl)
   replace hW := hW.self hO
   replace hB2 := hB2.below hE
   replace hB3 := hB3.below hE
   replace hB4 := hB4.below hE
   replace hW := hW.trans (hE.mono hW.size)
   clear hold hE hO hK; replace hBV := hbn; clear hbn
   refine s_one 9 (by kernel_rfl) ?_
   refine p_eff rfl hf trivial rfl rfl (Ef.mono (ef_call (vs := [.agg #[.int .i64 ((sRing (rAdd x1.num y1.num)).a), .int .i64 ((sRing (rAdd x1.num y1.num)).b), .int .i64 ((sRing (rAdd x1.num y1.num)).c), .int .i64 ((sRing (rAdd x1.num y1.num)).d)], .int .i64 x1.exp]) hf rfl ff_233 (F233 _ (sRing (rAdd x1.num y1.num)) x1.exp (by omega))) (fun _ _ h => ⟨fun _ => by obtain ⟨rfl, hE⟩ := h; exact Keep.of_below hE, h⟩)) ?_; rintro a _ w17 ⟨rfl, hE⟩ hf
   replace hBV := hBV.below hE
   replace hB2 := hB2.below hE
   replace hB3 := hB3.below hE
   replace hB4 := hB4.below hE
   replace hW := hW.trans (hE.mono hW.size)
   clear hE
   refine s_one 10 (by kernel_rfl) ?_
   refine p_eff0 rfl hf trivial rfl (Ef.mono (ef_store (vs := [.int .i64 ((dLow (sRing (rAdd x1.num y1.num)) x1.exp).num.a), .int .i64 ((dLow (sRing (rAdd x1.num y1.num)) x1.exp).num.b), .int .i64 ((dLow (sRing (rAdd x1.num y1.num)) x1.exp).num.c), .int .i64 ((dLow (sRing (rAdd x1.num y1.num)) x1.exp).num.d), .int .i64 ((dLow (sRing (rAdd x1.num y1.num)) x1.exp).exp)]) (l' := [.int .i64 ((dLow (sRing (rAdd x1.num y1.num)) x1.exp).num.a), .int .i64 ((dLow (sRing (rAdd x1.num y1.num)) x1.exp).num.b), .int .i64 ((dLow (sRing (rAdd x1.num y1.num)) x1.exp).num.c), .int .i64 ((dLow (sRing (rAdd x1.num y1.num)) x1.exp).num.d), .int .i64 ((dLow (sRing (rAdd x1.num y1.num)) x1.exp).exp)]) hf rfl rfl sz_189 hB4 rfl rfl rfl rfl rfl) (fun _ _ h => ⟨fun h0 => absurd h0 (by decide), h⟩)) ?_; rintro a _ w18 ⟨ho, hb⟩ hf
   have hold := hB4
   replace hBV := hBV.only ho (Blk.ne hBV hold rfl)
   replace hB2 := hB2.only ho (by omega)
   replace hB3 := hB3.only ho (by omega)
   replace hW := Kept.only hW ho hlo4
   clear hold
   have hB4 := hb
   clear hb ho
   refine s_done (by kernel_rfl) ?_
   refine hK13 _ _ ?_; try clear hK13 K13
   refine wp_ret ?_
   refine c_ret hf (res1 hf rfl (ResV.cellN (l := [.int .i64 ((dLow (sRing (rAdd x1.num y1.num)) x1.exp).num.a), .int .i64 ((dLow (sRing (rAdd x1.num y1.num)) x1.exp).num.b), .int .i64 ((dLow (sRing (rAdd x1.num y1.num)) x1.exp).num.c), .int .i64 ((dLow (sRing (rAdd x1.num y1.num)) x1.exp).num.d), .int .i64 ((dLow (sRing (rAdd x1.num y1.num)) x1.exp).exp)]) rfl tN_189 (hB4.at 0) rfl)) ?_
   exact ⟨by rw [sAdd, hx1]; dsimp only; rw [hy1], hW, by rw [sAdd, hx1]; dsimp only; rw [hy1]; exact hBV⟩
end Go.Proofs.YtfgnmflfiobkmaaGreat
set_option maxRecDepth 4000
namespace Go.Proofs.YtfgnmflfiobkmaaGreat
open Go.RowKit
theorem F219 (w0 : World) (n : Int) (s : Int) (q : Int) (h0 : 0 ≤ q) (h1 : q < n) (h2 : n ≤ 5) : Ret Tryz.prog 219 [.int .i64 n, .int .i64 s, .int .i64 q] w0 (fun v w => v = .int .i64 (bitF n s q) ∧ w0 = w) := by
 refine enter Tryz.func219 rfl 14 rfl rfl ?_
 intro a hf
 have hW : Below w0.heap.size w0 w0 := Below.refl _ _
 refine wp_seq_k ?_; intro K1 hK1
 refine wp_region_lit ?_
 refine l_ev hf trivial rfl rfl (ev_assign hf rfl) ?_; intro a hf
 refine wpList_nil ?_
 refine hK1 _ _ ?_; try clear hK1 K1
 refine wp_seq_k ?_; intro K2 hK2
 refine wp_region_lit ?_
 refine l_ev hf trivial rfl rfl (ev_move hf rfl) ?_; intro a hf
 refine l_ev hf trivial rfl rfl (ev_move hf rfl) ?_; intro a hf
 refine l_ev hf trivial rfl rfl (ev_subx hf rfl rfl (by omega) (by omega)) ?_; intro a hf
 refine l_ev hf trivial rfl rfl (ev_move hf rfl) ?_; intro a hf
 refine l_ev hf trivial rfl rfl (ev_subx hf rfl rfl (by omega) (by omega)) ?_; intro a hf
 refine l_ev hf trivial rfl rfl (ev_shr (m := (n - 1 - q).toNat) hf rfl rfl (by omega) (by omega)) ?_; intro a hf
 refine l_ev hf trivial rfl rfl (ev_and hf rfl rfl) ?_; intro a hf
 refine l_ev hf trivial rfl rfl (ev_assign hf rfl) ?_; intro a hf
 refine wpList_nil ?_
 refine hK2 _ _ ?_; try clear hK2 K2
 refine wp_ret ?_
 refine c_ret hf (res1 hf rfl rfl) ?_
 exact ⟨rfl, rfl⟩
theorem F220 (w0 : World) (n : Int) (s : Int) (q : Int) (h0 : 0 ≤ q) (h1 : q < n) (h2 : n ≤ 5) : Ret Tryz.prog 220 [.int .i64 n, .int .i64 s, .int .i64 q] w0 (fun v w => v = .int .i64 (flipF n s q) ∧ w0 = w) := by
 refine enter Tryz.func220 rfl 14 rfl rfl ?_
 intro a hf
 have hW : Below w0.heap.size w0 w0 := Below.refl _ _
 refine wp_seq_k ?_; intro K1 hK1
 refine wp_region_lit ?_
 refine l_ev hf trivial rfl rfl (ev_assign hf rfl) ?_; intro a hf
 refine wpList_nil ?_
 refine hK1 _ _ ?_; try clear hK1 K1
 refine wp_seq_k ?_; intro K2 hK2
 refine wp_region_lit ?_
 refine l_ev hf trivial rfl rfl (ev_move hf rfl) ?_; intro a hf
 refine l_ev hf trivial rfl rfl (ev_move hf rfl) ?_; intro a hf
 refine l_ev hf trivial rfl rfl (ev_subx hf rfl rfl (by omega) (by omega)) ?_; intro a hf
 refine l_ev hf trivial rfl rfl (ev_move hf rfl) ?_; intro a hf
 refine l_ev hf trivial rfl rfl (ev_subx hf rfl rfl (by omega) (by omega)) ?_; intro a hf
 refine l_ev hf trivial rfl rfl (ev_shl (m := (n - 1 - q).toNat) hf rfl rfl (by omega) (by omega)) ?_; intro a hf
 refine l_ev hf trivial rfl rfl (ev_xor hf rfl rfl) ?_; intro a hf
 refine l_ev hf trivial rfl rfl (ev_assign hf rfl) ?_; intro a hf
 refine wpList_nil ?_
 refine hK2 _ _ ?_; try clear hK2 K2
 refine wp_ret ?_
 refine c_ret hf (res1 hf rfl rfl) ?_
 exact ⟨rfl, rfl⟩
theorem F229 (w0 : World) (n : Int) (s : Int) (q : Int) (h0 : 0 ≤ q) (h1 : q < n) (h2 : n ≤ 5) : Ret Tryz.prog 229 [.int .i64 n, .int .i64 s, .int .i64 q] w0 (fun v w => v = .int .i64 (bitF n s q) ∧ w0 = w) := by
 refine enter Tryz.func229 rfl 15 rfl rfl ?_
 intro a hf
 have hW : Below w0.heap.size w0 w0 := Below.refl _ _
 refine wp_seq_k ?_; intro K1 hK1
 refine wp_region_lit ?_
 refine l_ev hf trivial rfl rfl (ev_assign hf rfl) ?_; intro a hf
 refine wpList_nil ?_
 refine hK1 _ _ ?_; try clear hK1 K1
 refine wp_seq_k ?_; intro K2 hK2
 refine wp_region_lit ?_
 refine l_ev hf trivial rfl rfl (ev_move hf rfl) ?_; intro a hf
 refine l_ev hf trivial rfl rfl (ev_move hf rfl) ?_; intro a hf
 refine l_ev hf trivial rfl rfl (ev_subx hf rfl rfl (by omega) (by omega)) ?_; intro a hf
 refine l_ev hf trivial rfl rfl (ev_move hf rfl) ?_; intro a hf
 refine l_ev hf trivial rfl rfl (ev_subx hf rfl rfl (by omega) (by omega)) ?_; intro a hf
 refine l_ev hf trivial rfl rfl (ev_toU (m := (n - 1 - q).toNat) Tryz.underlying3 Tryz.underlying181 hf rfl (by omega) (by omega)) ?_; intro a hf
 refine l_ev hf trivial rfl rfl (ev_shr (m := (n - 1 - q).toNat) hf rfl rfl rfl (by omega)) ?_; intro a hf
 refine l_ev hf trivial rfl rfl (ev_and hf rfl rfl) ?_; intro a hf
 refine l_ev hf trivial rfl rfl (ev_assign hf rfl) ?_; intro a hf
 refine wpList_nil ?_
 refine hK2 _ _ ?_; try clear hK2 K2
 refine wp_ret ?_
 refine c_ret hf (res1 hf rfl rfl) ?_
 exact ⟨rfl, rfl⟩
theorem F230 (w0 : World) (k : Int) (hk : 1 ≤ k ∧ k ≤ 8) : Ret Tryz.prog 230 [.int .i64 k] w0 (fun v w => ∃ A c, v = .slice A (oneL k).length c ∧ Own w w0.heap.size 189 5 encD A c (oneL k) ∧ Below w0.heap.size w0 w) := by
 refine enter Tryz.func230 rfl 43 rfl rfl ?_
 intro a hf
 have hW : Below w0.heap.size w0 w0 := Below.refl _ _
 refine wp_seq_k ?_; intro K1 hK1
 refine wp_region_lit ?_
 refine l_ev hf trivial rfl rfl (ev_assign hf rfl) ?_; intro a hf
 refine wpList_nil ?_
 refine hK1 _ _ ?_; try clear hK1 K1
 refine wp_seq_k ?_; intro K3 hK3
 refine wp_region_lit ?_
 refine l_eff hf trivial rfl rfl (ef_call (vs := [.int .i64 0]) hf rfl ff_209 (F209 _ 0)) ?_; rintro a _ w1 ⟨rfl, hE⟩ hf
 replace hW := hW.trans (hE.mono hW.size)
 clear hE
 refine l_ev hf trivial rfl rfl (ev_build (ps := []) (cs := [.int .i64 0, .int .i64 0, .int .i64 0, .int .i64 0, .int .i64 0]) hf rfl (fun _ => by first | rfl | kernel_rfl)) ?_; intro a hf
 refine l_eff hf trivial rfl rfl (ef_alloc (zs := [.int .i64 0, .int .i64 0, .int .i64 0, .int .i64 0, .int .i64 0]) z_189 rfl) ?_; rintro a _ w2 ⟨b4, rfl, hl4, hE, hB4⟩ hf
 have hlo4 := Nat.le_trans hW.size hl4
 replace hW := hW.trans (hE.mono hW.size)
 clear hE
 refine l_eff hf trivial rfl rfl (ef_alloc (zs := [.int .i64 0, .int .i64 0, .int .i64 0, .int .i64 0, .int .i64 0]) z_189 rfl) ?_; rintro a _ w3 ⟨b5, rfl, hl5, hE, hB5⟩ hf
 have hne4_5 : b4 ≠ b5 := by have := hB4.lt; omega
 have hlo5 := Nat.le_trans hW.size hl5
 replace hB4 := hB4.below hE
 replace hW := hW.trans (hE.mono hW.size)
 clear hE
 refine l_eff0 hf trivial rfl (ef_store (vs := [.int .i64 ((dPow 0).num.a), .int .i64 ((dPow 0).num.b), .int .i64 ((dPow 0).num.c), .int .i64 ((dPow 0).num.d), .int .i64 ((dPow 0).exp)]) (l' := [.int .i64 ((dPow 0).num.a), .int .i64 ((dPow 0).num.b), .int .i64 ((dPow 0).num.c), .int .i64 ((dPow 0).num.d), .int .i64 ((dPow 0).exp)]) hf rfl rfl sz_189 hB4 rfl rfl rfl rfl rfl) ?_; rintro a _ w4 ⟨ho, hb⟩ hf
 have hold := hB4
 replace hB5 := hB5.only ho (by omega)
 replace hW := Below.only hW ho hlo4
 clear hold
 have hB4 := hb
 clear hb ho
 refine l_eff0 hf trivial rfl (ef_store (vs := [.int .i64 0, .int .i64 0, .int .i64 0, .int .i64 0, .int .i64 0]) (l' := [.int .i64 0, .int .i64 0, .int .i64 0, .int .i64 0, .int .i64 0]) hf rfl rfl sz_189 hB5 rfl rfl rfl rfl rfl) ?_; rintro a _ w5 ⟨ho, hb⟩ hf
 have hold := hB5
 replace hB4 := hB4.only ho (by omega)
 replace hW := Below.only hW ho hlo5
 clear hold
 have hB5 := hb
 clear hb ho
 refine wpList_nil ?_
 refine hK3 _ _ ?_; try clear hK3 K3
 refine wp_seq_k ?_; intro K6 hK6
 refine wp_region_lit ?_
 refine l_ev hf trivial rfl rfl (ev_build (ps := [(0, .int .i64 1)]) (cs := [.int .i64 1, .int .i64 0, .int .i64 0, .int .i64 0]) hf rfl (fun _ => by first | rfl | kernel_rfl)) ?_; intro a hf
 refine l_ev hf trivial rfl rfl (ev_build (ps := [(0, .agg #[.int .i64 1, .int .i64 0, .int .i64 0, .int .i64 0]), (1, .int .i64 1)]) (cs := [.int .i64 1, .int .i64 0, .int .i64 0, .int .i64 0, .int .i64 1]) hf rfl (fun _ => by first | rfl | kernel_rfl)) ?_; intro a hf
 refine l_eff hf trivial rfl rfl (ef_alloc (zs := [.int .i64 0, .int .i64 0, .int .i64 0, .int .i64 0, .int .i64 0]) z_189 rfl) ?_; rintro a _ w6 ⟨b7, rfl, hl7, hE, hB7⟩ hf
 have hne4_7 : b4 ≠ b7 := by have := hB4.lt; omega
 have hne5_7 : b5 ≠ b7 := by have := hB5.lt; omega
 have hlo7 := Nat.le_trans hW.size hl7
 replace hB4 := hB4.below hE
 replace hB5 := hB5.below hE
 replace hW := hW.trans (hE.mono hW.size)
 clear hE
 refine l_eff0 hf trivial rfl (ef_store (vs := [.int .i64 1, .int .i64 0, .int .i64 0, .int .i64 0, .int .i64 1]) (l' := [.int .i64 1, .int .i64 0, .int .i64 0, .int .i64 0, .int .i64 1]) hf rfl rfl sz_189 hB7 rfl rfl rfl rfl rfl) ?_; rintro a _ w7 ⟨ho, hb⟩ hf
 have hold := hB7
 replace hB4 := hB4.only ho (by omega)
 replace hB5 := hB5.only ho (by omega)
 replace hW := Below.only hW ho hlo7
 clear hold
 have hB7 := hb
 clear hb ho
 refine wpList_nil ?_
 refine hK6 _ _ ?_; try clear hK6 K6
 refine wp_seq_k ?_; intro K8 hK8
 refine wp_seq_k ?_; intro K9 hK9
 refine wp_region_lit ?_
 refine l_ev hf trivial rfl rfl (ev_move hf rfl) ?_; intro a hf
 refine wpList_nil ?_
 refine hK9 _ _ ?_; try clear hK9 K9
 refine wp_block ?_
 refine wp_seq_k ?_; intro K10 hK10
 refine wp_region_lit ?_
 refine l_ev hf trivial rfl rfl (ev_eql hf rfl rfl) ?_; intro a hf
 refine l_ev hf trivial rfl rfl (ev_assign hf rfl) ?_; intro a hf
 refine wpList_nil ?_
 refine hK10 _ _ ?_; try clear hK10 K10
 refine c_if hf rfl (fun hc11 => ?_) (fun hc11 => ?_)
 ·have hc11b := hc11
  have e1 : k = 1 := by simpa using hc11
  refine wp_seq_k ?_; intro K12 hK12
  refine wp_draw none (fun _ => false) mixed ?_
  intro w8 hE
  replace hB4 := hB4.below hE
  replace hB5 := hB5.below hE
  replace hB7 := hB7.below hE
  replace hW := hW.trans (hE.mono hW.size)
  clear hE
  refine s_ev 0 rfl (by kernel_rfl) (by kernel_rfl) hf trivial rfl rfl (ev_loadN (l := [.int .i64 1, .int .i64 0, .int .i64 0, .int .i64 0, .int .i64 1]) hf rfl tN_189 (hB7.at 0) rfl) ?_; intro a hf
  refine s_ev 1 rfl (by kernel_rfl) (by kernel_rfl) hf trivial rfl rfl (ev_loadN (l := [.int .i64 1, .int .i64 0, .int .i64 0, .int .i64 0, .int .i64 1]) hf rfl tN_189 (hB7.at 0) rfl) ?_; intro a hf
  refine s_ev 2 rfl (by kernel_rfl) (by kernel_rfl) hf trivial rfl rfl (ev_loadN (l := [.int .i64 1, .int .i64 0, .int .i64 0, .int .i64 0, .int .i64 1]) hf rfl tN_189 (hB7.at 0) rfl) ?_; intro a hf
  refine s_ev 3 rfl (by kernel_rfl) (by kernel_rfl) hf trivial rfl rfl (ev_loadN (l := [.int .i64 1, .int .i64 0, .int .i64 0, .int .i64 0, .int .i64 1]) hf rfl tN_189 (hB7.at 0) rfl) ?_; intro a hf
  refine s_one 4 (by kernel_rfl) ?_
  refine p_eff rfl hf trivial rfl rfl (Ef.mono (ef_call (vs := [.agg #[.int .i64 1, .int .i64 0, .int .i64 0, .int .i64 0, .int .i64 1]]) hf rfl ff_244 (F244 _ (⟨(⟨1, 0, 0, 0⟩ : Rg), 1⟩ : Dy))) (fun _ _ h => ⟨fun _ => by obtain ⟨rfl, hE⟩ := h; exact hE, h⟩)) ?_; rintro a _ w9 ⟨rfl, hE⟩ hf
  replace hB4 := hB4.below hE
  replace hB5 := hB5.below hE
  replace hB7 := hB7.below hE
  replace hW := hW.trans (hE.mono hW.size)
  clear hE
  refine s_one 5 (by kernel_rfl) ?_
  refine p_eff rfl hf trivial rfl rfl (Ef.mono (ef_buildSlice (k := 4) (vs := [.agg #[.int .i64 1, .int .i64 0, .int .i64 0, .int .i64 0, .int .i64 1], .agg #[.int .i64 1, .int .i64 0, .int .i64 0, .int .i64 0, .int .i64 1], .agg #[.int .i64 1, .int .i64 0, .int .i64 0, .int .i64 0, .int .i64 1], .agg #[.int .i64 ((dNeg (⟨(⟨1, 0, 0, 0⟩ : Rg), 1⟩ : Dy)).num.a), .int .i64 ((dNeg (⟨(⟨1, 0, 0, 0⟩ : Rg), 1⟩ : Dy)).num.b), .int .i64 ((dNeg (⟨(⟨1, 0, 0, 0⟩ : Rg), 1⟩ : Dy)).num.c), .int .i64 ((dNeg (⟨(⟨1, 0, 0, 0⟩ : Rg), 1⟩ : Dy)).num.d), .int .i64 ((dNeg (⟨(⟨1, 0, 0, 0⟩ : Rg), 1⟩ : Dy)).exp)]]) (zs := [.int .i64 1, .int .i64 0, .int .i64 0, .int .i64 0, .int .i64 1, .int .i64 1, .int .i64 0, .int .i64 0, .int .i64 0, .int .i64 1, .int .i64 1, .int .i64 0, .int .i64 0, .int .i64 0, .int .i64 1, .int .i64 ((dNeg (⟨(⟨1, 0, 0, 0⟩ : Rg), 1⟩ : Dy)).num.a), .int .i64 ((dNeg (⟨(⟨1, 0, 0, 0⟩ : Rg), 1⟩ : Dy)).num.b), .int .i64 ((dNeg (⟨(⟨1, 0, 0, 0⟩ : Rg), 1⟩ : Dy)).num.c), .int .i64 ((dNeg (⟨(⟨1, 0, 0, 0⟩ : Rg), 1⟩ : Dy)).num.d), .int .i64 ((dNeg (⟨(⟨1, 0, 0, 0⟩ : Rg), 1⟩ : Dy)).exp)]) hf rfl sl_139 inf_189 rfl rfl) (fun _ _ h => ⟨fun _ => by obtain ⟨_, _, _, hE, _⟩ := h; exact hE, h⟩)) ?_; rintro a _ w10 ⟨b13, rfl, hl13, hE, hB13⟩ hf
  have hne4_13 : b4 ≠ b13 := by have := hB4.lt; omega
  have hne5_13 : b5 ≠ b13 := by have := hB5.lt; omega
  have hne7_13 : b7 ≠ b13 := by have := hB7.lt; omega
  have hlo13 := Nat.le_trans hW.size hl13
  replace hB4 := hB4.below hE
  replace hB5 := hB5.below hE
  replace hB7 := hB7.below hE
  replace hW := hW.trans (hE.mono hW.size)
  clear hE
  refine s_ev0 6 rfl (by kernel_rfl) hf trivial rfl rfl (fun _ => ev_assign hf rfl) ?_; intro a hf
  refine s_done (by kernel_rfl) ?_
  refine hK12 _ _ ?_; try clear hK12 K12
  refine wp_ret ?_
  refine x_retB ?_
  refine x_retS ?_
  refine c_ret hf (res1 hf rfl rfl) ?_
  exact ⟨(some ⟨b13, 0, none⟩), 4, by rw [oneL, if_pos e1]; rfl, by rw [oneL, if_pos e1]; exact (Own.of_blkL encD_len hB13 hlo13 rfl rfl (by decide)), hW⟩
 ·have hc11b := hc11
  have e1 : ¬ k = 1 := by simpa using hc11
  refine wp_seq_k ?_; intro K15 hK15
  refine wp_region_lit ?_
  refine l_ev hf trivial rfl rfl (ev_eql hf rfl rfl) ?_; intro a hf
  refine l_ev hf trivial rfl rfl (ev_assign hf rfl) ?_; intro a hf
  refine wpList_nil ?_
  refine hK15 _ _ ?_; try clear hK15 K15
  refine c_if hf rfl (fun hc16 => ?_) (fun hc16 => ?_)
  ·have hc16b := hc16
   have e2 : k = 2 := by simpa using hc16
   refine wp_seq_k ?_; intro K17 hK17
   refine wp_region_lit ?_
   refine l_ev hf trivial rfl rfl (ev_loadN (l := [.int .i64 0, .int .i64 0, .int .i64 0, .int .i64 0, .int .i64 0]) hf rfl tN_189 (hB5.at 0) rfl) ?_; intro a hf
   refine l_ev hf trivial rfl rfl (ev_loadN (l := [.int .i64 ((dPow 0).num.a), .int .i64 ((dPow 0).num.b), .int .i64 ((dPow 0).num.c), .int .i64 ((dPow 0).num.d), .int .i64 ((dPow 0).exp)]) hf rfl tN_189 (hB4.at 0) rfl) ?_; intro a hf
   refine l_ev hf trivial rfl rfl (ev_loadN (l := [.int .i64 ((dPow 0).num.a), .int .i64 ((dPow 0).num.b), .int .i64 ((dPow 0).num.c), .int .i64 ((dPow 0).num.d), .int .i64 ((dPow 0).exp)]) hf rfl tN_189 (hB4.at 0) rfl) ?_; intro a hf
   refine l_ev hf trivial rfl rfl (ev_loadN (l := [.int .i64 0, .int .i64 0, .int .i64 0, .int .i64 0, .int .i64 0]) hf rfl tN_189 (hB5.at 0) rfl) ?_; intro a hf
   refine l_eff hf trivial rfl rfl (ef_buildSlice (k := 4) (vs := [.agg #[.int .i64 0, .int .i64 0, .int .i64 0, .int .i64 0, .int .i64 0], .agg #[.int .i64 ((dPow 0).num.a), .int .i64 ((dPow 0).num.b), .int .i64 ((dPow 0).num.c), .int .i64 ((dPow 0).num.d), .int .i64 ((dPow 0).exp)], .agg #[.int .i64 ((dPow 0).num.a), .int .i64 ((dPow 0).num.b), .int .i64 ((dPow 0).num.c), .int .i64 ((dPow 0).num.d), .int .i64 ((dPow 0).exp)], .agg #[.int .i64 0, .int .i64 0, .int .i64 0, .int .i64 0, .int .i64 0]]) (zs := [.int .i64 0, .int .i64 0, .int .i64 0, .int .i64 0, .int .i64 0, .int .i64 ((dPow 0).num.a), .int .i64 ((dPow 0).num.b), .int .i64 ((dPow 0).num.c), .int .i64 ((dPow 0).num.d), .int .i64 ((dPow 0).exp), .int .i64 ((dPow 0).num.a), .int .i64 ((dPow 0).num.b), .int .i64 ((dPow 0).num.c), .int .i64 ((dPow 0).num.d), .int .i64 ((dPow 0).exp), .int .i64 0, .int .i64 0, .int .i64 0, .int .i64 0, .int .i64 0]) hf rfl sl_139 inf_189 rfl rfl) ?_; rintro a _ w11 ⟨b18, rfl, hl18, hE, hB18⟩ hf
   have hne4_18 : b4 ≠ b18 := by have := hB4.lt; omega
   have hne5_18 : b5 ≠ b18 := by have := hB5.lt; omega
   have hne7_18 : b7 ≠ b18 := by have := hB7.lt; omega
   have hlo18 := Nat.le_trans hW.size hl18
   replace hB4 := hB4.below hE
   replace hB5 := hB5.below hE
   replace hB7 := hB7.below hE
   replace hW := hW.trans (hE.mono hW.size)
   clear hE
   refine l_ev hf trivial rfl rfl (ev_assign hf rfl) ?_; intro a hf
   refine wpList_nil ?_
   refine hK17 _ _ ?_; try clear hK17 K17
   refine wp_ret ?_
   refine x_retB ?_
   refine x_retS ?_
   refine c_ret hf (res1 hf rfl rfl) ?_
   exact ⟨(some ⟨b18, 0, none⟩), 4, by rw [oneL, if_neg e1, if_pos e2]; rfl, by rw [oneL, if_neg e1, if_pos e2]; exact (Own.of_blkL encD_len hB18 hlo18 rfl rfl (by decide)), hW⟩
  ·have hc16b := hc16
   have e2 : ¬ k = 2 := by simpa using hc16
   refine wp_seq_k ?_; intro K20 hK20
   refine wp_region_lit ?_
   refine l_ev hf trivial rfl rfl (ev_eql hf rfl rfl) ?_; intro a hf
   refine l_ev hf trivial rfl rfl (ev_assign hf rfl) ?_; intro a hf
   refine wpList_nil ?_
   refine hK20 _ _ ?_; try clear hK20 K20
   refine c_if hf rfl (fun hc21 => ?_) (fun hc21 => ?_)
   ·have hc21b := hc21
    have e3 : k = 3 := by simpa using hc21
    refine wp_seq_k ?_; intro K22 hK22
    refine wp_draw none (fun _ => false) mixed ?_
    intro w12 hE
    replace hB4 := hB4.below hE
    replace hB5 := hB5.below hE
    replace hB7 := hB7.below hE
    replace hW := hW.trans (hE.mono hW.size)
    clear hE
    refine s_ev 0 rfl (by kernel_rfl) (by kernel_rfl) hf trivial rfl rfl (ev_loadN (l := [.int .i64 0, .int .i64 0, .int .i64 0, .int .i64 0, .int .i64 0]) hf rfl tN_189 (hB5.at 0) rfl) ?_; intro a hf
    refine s_ev 3 rfl (by kernel_rfl) (by kernel_rfl) hf trivial rfl rfl (ev_loadN (l := [.int .i64 0, .int .i64 0, .int .i64 0, .int .i64 0, .int .i64 0]) hf rfl tN_189 (hB5.at 0) rfl) ?_; intro a hf
    refine s_one 1 (by kernel_rfl) ?_
    refine p_eff rfl hf trivial rfl rfl (Ef.mono (ef_call (vs := [.int .i64 6]) hf rfl ff_209 (F209 _ 6)) (fun _ _ h => ⟨fun _ => by obtain ⟨rfl, hE⟩ := h; exact hE, h⟩)) ?_; rintro a _ w13 ⟨rfl, hE⟩ hf
    replace hB4 := hB4.below hE
    replace hB5 := hB5.below hE
    replace hB7 := hB7.below hE
    replace hW := hW.trans (hE.mono hW.size)
    clear hE
    refine s_one 2 (by kernel_rfl) ?_
    refine p_eff rfl hf trivial rfl rfl (Ef.mono (ef_call (vs := [.int .i64 2]) hf rfl ff_209 (F209 _ 2)) (fun _ _ h => ⟨fun _ => by obtain ⟨rfl, hE⟩ := h; exact hE, h⟩)) ?_; rintro a _ w14 ⟨rfl, hE⟩ hf
    replace hB4 := hB4.below hE
    replace hB5 := hB5.below hE
    replace hB7 := hB7.below hE
    replace hW := hW.trans (hE.mono hW.size)
    clear hE
    refine s_one 4 (by kernel_rfl) ?_
    refine p_eff rfl hf trivial rfl rfl (Ef.mono (ef_buildSlice (k := 4) (vs := [.agg #[.int .i64 0, .int .i64 0, .int .i64 0, .int .i64 0, .int .i64 0], .agg #[.int .i64 ((dPow 6).num.a), .int .i64 ((dPow 6).num.b), .int .i64 ((dPow 6).num.c), .int .i64 ((dPow 6).num.d), .int .i64 ((dPow 6).exp)], .agg #[.int .i64 ((dPow 2).num.a), .int .i64 ((dPow 2).num.b), .int .i64 ((dPow 2).num.c), .int .i64 ((dPow 2).num.d), .int .i64 ((dPow 2).exp)], .agg #[.int .i64 0, .int .i64 0, .int .i64 0, .int .i64 0, .int .i64 0]]) (zs := [.int .i64 0, .int .i64 0, .int .i64 0, .int .i64 0, .int .i64 0, .int .i64 ((dPow 6).num.a), .int .i64 ((dPow 6).num.b), .int .i64 ((dPow 6).num.c), .int .i64 ((dPow 6).num.d), .int .i64 ((dPow 6).exp), .int .i64 ((dPow 2).num.a), .int .i64 ((dPow 2).num.b), .int .i64 ((dPow 2).num.c), .int .i64 ((dPow 2).num.d), .int .i64 ((dPow 2).exp), .int .i64 0, .int .i64 0, .int .i64 0, .int .i64 0, .int .i64 0]) hf rfl sl_139 inf_189 rfl rfl) (fun _ _ h => ⟨fun _ => by obtain ⟨_, _, _, hE, _⟩ := h; exact hE, h⟩)) ?_; rintro a _ w15 ⟨b23, rfl, hl23, hE, hB23⟩ hf
    have hne4_23 : b4 ≠ b23 := by have := hB4.lt; omega
    have hne5_23 : b5 ≠ b23 := by have := hB5.lt; omega
    have hne7_23 : b7 ≠ b23 := by have := hB7.lt; omega
    have hlo23 := Nat.le_trans hW.size hl23
    replace hB4 := hB4.below hE
    replace hB5 := hB5.below hE
    replace hB7 := hB7.below hE
    replace hW := hW.trans (hE.mono hW.size)
    clear hE
    refine s_ev0 5 rfl (by kernel_rfl) hf trivial rfl rfl (fun _ => ev_assign hf rfl) ?_; intro a hf
    refine s_done (by kernel_rfl) ?_
    refine hK22 _ _ ?_; try clear hK22 K22
    refine wp_ret ?_
    refine x_retB ?_
    refine x_retS ?_
    refine c_ret hf (res1 hf rfl rfl) ?_
    exact ⟨(some ⟨b23, 0, none⟩), 4, by rw [oneL, if_neg e1, if_neg e2, if_pos e3]; rfl, by rw [oneL, if_neg e1, if_neg e2, if_pos e3]; exact (Own.of_blkL encD_len hB23 hlo23 rfl rfl (by decide)), hW⟩
   ·have hc21b := hc21
    have e3 : ¬ k = 3 := by simpa using hc21
    refine wp_skip ?_
    refine x_norm ?_
    refine hK8 _ _ ?_; try clear hK8 K8
    refine wp_seq_k ?_; intro K25 hK25
    refine wp_draw none (fun _ => false) mixed ?_
    intro w16 hE
    replace hB4 := hB4.below hE
    replace hB5 := hB5.below hE
    replace hB7 := hB7.below hE
    replace hW := hW.trans (hE.mono hW.size)
    clear hE
    refine s_ev 0 rfl (by kernel_rfl) (by kernel_rfl) hf trivial rfl rfl (ev_loadN (l := [.int .i64 ((dPow 0).num.a), .int .i64 ((dPow 0).num.b), .int .i64 ((dPow 0).num.c), .int .i64 ((dPow 0).num.d), .int .i64 ((dPow 0).exp)]) hf rfl tN_189 (hB4.at 0) rfl) ?_; intro a hf
    refine s_ev 1 rfl (by kernel_rfl) (by kernel_rfl) hf trivial rfl rfl (ev_loadN (l := [.int .i64 0, .int .i64 0, .int .i64 0, .int .i64 0, .int .i64 0]) hf rfl tN_189 (hB5.at 0) rfl) ?_; intro a hf
    refine s_ev 2 rfl (by kernel_rfl) (by kernel_rfl) hf trivial rfl rfl (ev_loadN (l := [.int .i64 0, .int .i64 0, .int .i64 0, .int .i64 0, .int .i64 0]) hf rfl tN_189 (hB5.at 0) rfl) ?_; intro a hf
    refine s_ev0 4 rfl (by kernel_rfl) hf trivial rfl rfl (fun _ => ev_move hf rfl) ?_; intro a hf
    refine s_ev0 5 rfl (by kernel_rfl) hf trivial rfl rfl (fun _ => ev_subx hf rfl rfl (by omega) (by omega)) ?_; intro a hf
    refine s_one 3 (by kernel_rfl) ?_
    refine p_eff rfl hf trivial rfl rfl (Ef.mono (ef_buildSlice (k := 5) (vs := [.int .i64 4, .int .i64 2, .int .i64 6, .int .i64 1, .int .i64 7]) (zs := [.int .i64 4, .int .i64 2, .int .i64 6, .int .i64 1, .int .i64 7]) hf rfl sl_36 inf_3 rfl rfl) (fun _ _ h => ⟨fun _ => by obtain ⟨_, _, _, hE, _⟩ := h; exact hE, h⟩)) ?_; rintro a _ w17 ⟨b26, rfl, hl26, hE, hB26⟩ hf
    have hlo26 := Nat.le_trans hW.size hl26
    replace hB4 := hB4.below hE
    replace hB5 := hB5.below hE
    replace hB7 := hB7.below hE
    replace hW := hW.trans (hE.mono hW.size)
    clear hE
    refine s_index (k := (k - 4).toNat) (u := (turnOf k)) (enc := encI) (l := [4, 2, 6, 1, 7]) 6 rfl (by kernel_rfl) (by kernel_rfl) hf trivial rfl rfl rfl sl_36 sz_3 encI_len (Rd.of_blk hB26 rfl _ hB26.lt) (turn_get (by omega) (by omega)) (by omega) ?_; intro a p29 hat28 hf
    refine s_ev 7 rfl (by kernel_rfl) (by kernel_rfl) hf trivial rfl rfl (ev_load1 hf rfl t1_3 hat28) ?_; intro a hf
    refine s_one 8 (by kernel_rfl) ?_
    refine p_eff rfl hf trivial rfl rfl (Ef.mono (ef_call (vs := [.int .i64 (turnOf k)]) hf rfl ff_209 (F209 _ (turnOf k))) (fun _ _ h => ⟨fun _ => by obtain ⟨rfl, hE⟩ := h; exact hE, h⟩)) ?_; rintro a _ w18 ⟨rfl, hE⟩ hf
    replace hB4 := hB4.below hE
    replace hB5 := hB5.below hE
    replace hB7 := hB7.below hE
    replace hB26 := hB26.below hE
    replace hW := hW.trans (hE.mono hW.size)
    clear hE
    refine s_one 9 (by kernel_rfl) ?_
    refine p_eff rfl hf trivial rfl rfl (Ef.mono (ef_buildSlice (k := 4) (vs := [.agg #[.int .i64 ((dPow 0).num.a), .int .i64 ((dPow 0).num.b), .int .i64 ((dPow 0).num.c), .int .i64 ((dPow 0).num.d), .int .i64 ((dPow 0).exp)], .agg #[.int .i64 0, .int .i64 0, .int .i64 0, .int .i64 0, .int .i64 0], .agg #[.int .i64 0, .int .i64 0, .int .i64 0, .int .i64 0, .int .i64 0], .agg #[.int .i64 ((dPow (turnOf k)).num.a), .int .i64 ((dPow (turnOf k)).num.b), .int .i64 ((dPow (turnOf k)).num.c), .int .i64 ((dPow (turnOf k)).num.d), .int .i64 ((dPow (turnOf k)).exp)]]) (zs := [.int .i64 ((dPow 0).num.a), .int .i64 ((dPow 0).num.b), .int .i64 ((dPow 0).num.c), .int .i64 ((dPow 0).num.d), .int .i64 ((dPow 0).exp), .int .i64 0, .int .i64 0, .int .i64 0, .int .i64 0, .int .i64 0, .int .i64 0, .int .i64 0, .int .i64 0, .int .i64 0, .int .i64 0, .int .i64 ((dPow (turnOf k)).num.a), .int .i64 ((dPow (turnOf k)).num.b), .int .i64 ((dPow (turnOf k)).num.c), .int .i64 ((dPow (turnOf k)).num.d), .int .i64 ((dPow (turnOf k)).exp)]) hf rfl sl_139 inf_189 rfl rfl) (fun _ _ h => ⟨fun _ => by obtain ⟨_, _, _, hE, _⟩ := h; exact hE, h⟩)) ?_; rintro a _ w19 ⟨b30, rfl, hl30, hE, hB30⟩ hf
    have hne4_30 : b4 ≠ b30 := by have := hB4.lt; omega
    have hne5_30 : b5 ≠ b30 := by have := hB5.lt; omega
    have hne7_30 : b7 ≠ b30 := by have := hB7.lt; omega
    have hlo30 := Nat.le_trans hW.size hl30
    replace hB4 := hB4.below hE
    replace hB5 := hB5.below hE
    replace hB7 := hB7.below hE
    replace hB26 := hB26.below hE
    replace hW := hW.trans (hE.mono hW.size)
    clear hE
    refine s_ev0 10 rfl (by kernel_rfl) hf trivial rfl rfl (fun _ => ev_assign hf rfl) ?_; intro a hf
    refine s_done (by kernel_rfl) ?_
    refine hK25 _ _ ?_; try clear hK25 K25
    refine wp_ret ?_
    refine c_ret hf (res1 hf rfl rfl) ?_
    exact ⟨(some ⟨b30, 0, none⟩), 4, by rw [oneL, if_neg e1, if_neg e2, if_neg e3]; rfl, by rw [oneL, if_neg e1, if_neg e2, if_neg e3]; exact (Own.of_blkL encD_len hB30 hlo30 rfl rfl (by decide)), hW⟩
end Go.Proofs.YtfgnmflfiobkmaaGreat
set_option maxRecDepth 4000
namespace Go.Proofs.YtfgnmflfiobkmaaGreat
open Go.RowKit
theorem F199 (w0 : World) (n : Int) (g : Gt) (row : Int) (col : Int) (hg : gOk n g = true) : Ret Tryz.prog 199 [.int .i64 n, .agg #[.int .i64 g.k, .int .i64 g.a, .int .i64 g.b], .int .i64 row, .int .i64 col] w0 (fun v w => v = dV (cellS n g row col) ∧ Below w0.heap.size w0 w) := by
 have hg2 := gOk_spec hg
 have hb1 := bitF_01 n row g.a
 have hb2 := bitF_01 n col g.a
 refine enter Tryz.func199 rfl 119 rfl rfl ?_
 intro a hf
 have hW : Below w0.heap.size w0 w0 := Below.refl _ _
 refine wp_seq_k ?_; intro K1 hK1
 refine wp_region_lit ?_
 refine l_eff hf trivial rfl rfl (ef_box (zs := [.int .i64 g.k, .int .i64 g.a, .int .i64 g.b]) hf rfl rfl) ?_; rintro a _ w1 ⟨b2, rfl, hl2, hE, hB2⟩ hf
 have hlo2 := Nat.le_trans hW.size hl2
 replace hW := hW.trans (hE.mono hW.size)
 clear hE
 refine l_eff hf trivial rfl rfl (ef_alloc (zs := [.int .i64 0, .int .i64 0, .int .i64 0, .int .i64 0, .int .i64 0]) z_189 rfl) ?_; rintro a _ w2 ⟨b3, rfl, hl3, hE, hB3⟩ hf
 have hlo3 := Nat.le_trans hW.size hl3
 replace hB2 := hB2.below hE
 replace hW := hW.trans (hE.mono hW.size)
 clear hE
 refine wpList_nil ?_
 refine hK1 _ _ ?_; try clear hK1 K1
 refine wp_seq_k ?_; intro K4 hK4
 refine wp_region_lit ?_
 refine l_eff hf trivial rfl rfl (ef_call (vs := [.int .i64 0]) hf rfl ff_209 (F209 _ 0)) ?_; rintro a _ w3 ⟨rfl, hE⟩ hf
 replace hB2 := hB2.below hE
 replace hB3 := hB3.below hE
 replace hW := hW.trans (hE.mono hW.size)
 clear hE
 refine l_ev hf trivial rfl rfl (ev_build (ps := []) (cs := [.int .i64 0, .int .i64 0, .int .i64 0, .int .i64 0, .int .i64 0]) hf rfl (fun _ => by first | rfl | kernel_rfl)) ?_; intro a hf
 refine l_eff hf trivial rfl rfl (ef_alloc (zs := [.int .i64 0, .int .i64 0, .int .i64 0, .int .i64 0, .int .i64 0]) z_189 rfl) ?_; rintro a _ w4 ⟨b5, rfl, hl5, hE, hB5⟩ hf
 have hne3_5 : b3 ≠ b5 := by have := hB3.lt; omega
 have hlo5 := Nat.le_trans hW.size hl5
 replace hB2 := hB2.below hE
 replace hB3 := hB3.below hE
 replace hW := hW.trans (hE.mono hW.size)
 clear hE
 refine l_eff hf trivial rfl rfl (ef_alloc (zs := [.int .i64 0, .int .i64 0, .int .i64 0, .int .i64 0, .int .i64 0]) z_189 rfl) ?_; rintro a _ w5 ⟨b6, rfl, hl6, hE, hB6⟩ hf
 have hne3_6 : b3 ≠ b6 := by have := hB3.lt; omega
 have hne5_6 : b5 ≠ b6 := by have := hB5.lt; omega
 have hlo6 := Nat.le_trans hW.size hl6
 replace hB2 := hB2.below hE
 replace hB3 := hB3.below hE
 replace hB5 := hB5.below hE
 replace hW := hW.trans (hE.mono hW.size)
 clear hE
 refine l_eff0 hf trivial rfl (ef_store (vs := [.int .i64 ((dPow 0).num.a), .int .i64 ((dPow 0).num.b), .int .i64 ((dPow 0).num.c), .int .i64 ((dPow 0).num.d), .int .i64 ((dPow 0).exp)]) (l' := [.int .i64 ((dPow 0).num.a), .int .i64 ((dPow 0).num.b), .int .i64 ((dPow 0).num.c), .int .i64 ((dPow 0).num.d), .int .i64 ((dPow 0).exp)]) hf rfl rfl sz_189 hB5 rfl rfl rfl rfl rfl) ?_; rintro a _ w6 ⟨ho, hb⟩ hf
 have hold := hB5
 replace hB2 := hB2.only ho (Blk.ne hB2 hold rfl)
 replace hB3 := hB3.only ho (by omega)
 replace hB6 := hB6.only ho (by omega)
 replace hW := Below.only hW ho hlo5
 clear hold
 have hB5 := hb
 clear hb ho
 refine l_eff0 hf trivial rfl (ef_store (vs := [.int .i64 0, .int .i64 0, .int .i64 0, .int .i64 0, .int .i64 0]) (l' := [.int .i64 0, .int .i64 0, .int .i64 0, .int .i64 0, .int .i64 0]) hf rfl rfl sz_189 hB6 rfl rfl rfl rfl rfl) ?_; rintro a _ w7 ⟨ho, hb⟩ hf
 have hold := hB6
 replace hB2 := hB2.only ho (Blk.ne hB2 hold rfl)
 replace hB3 := hB3.only ho (by omega)
 replace hB5 := hB5.only ho (by omega)
 replace hW := Below.only hW ho hlo6
 clear hold
 have hB6 := hb
 clear hb ho
 refine wpList_nil ?_
 refine hK4 _ _ ?_; try clear hK4 K4
 refine wp_seq_k ?_; intro K7 hK7
 refine wp_region_lit ?_
 refine l_ev hf trivial rfl rfl (ev_move hf rfl) ?_; intro a hf
 refine l_ev hf trivial rfl rfl (ev_assign hf rfl) ?_; intro a hf
 refine wpList_nil ?_
 refine hK7 _ _ ?_; try clear hK7 K7
 refine wp_seq_k ?_; intro K8 hK8
 refine wp_seq_k ?_; intro K9 hK9
 refine wp_region_lit ?_
 refine l_ev hf trivial rfl rfl (ev_fieldB hf rfl fd_107_0 (m := 0) rfl) ?_; intro a hf
 refine l_ev hf trivial rfl rfl (ev_load1 hf rfl t1_3 (hB2.at 0)) ?_; intro a hf
 refine wpList_nil ?_
 refine hK9 _ _ ?_; try clear hK9 K9
 refine wp_block ?_
 refine wp_seq_k ?_; intro K10 hK10
 refine wp_region_lit ?_
 refine l_ev hf trivial rfl rfl (ev_eql hf rfl rfl) ?_; intro a hf
 refine l_ev hf trivial rfl rfl (ev_assign hf rfl) ?_; intro a hf
 refine wpList_nil ?_
 refine hK10 _ _ ?_; try clear hK10 K10
 refine c_if hf rfl (fun hc11 => ?_) (fun hc11 => ?_)
 ·have hc11b := hc11
  have hk := eq_of_beq hc11
  have h8 : ¬ g.k ≤ 8 := by omega
  have hto : toS n g col = col := by simp [toS, hk]
  have hv : valS n g col = dPow 1 := by simp [valS, hk]
  refine wp_region_lit ?_
  refine l_eff hf trivial rfl rfl (ef_call (vs := [.int .i64 1]) hf rfl ff_209 (F209 _ 1)) ?_; rintro a _ w8 ⟨rfl, hE⟩ hf
  replace hB2 := hB2.below hE
  replace hB3 := hB3.below hE
  replace hB5 := hB5.below hE
  replace hB6 := hB6.below hE
  replace hW := hW.trans (hE.mono hW.size)
  clear hE
  refine l_eff0 hf trivial rfl (ef_store (vs := [.int .i64 ((dPow 1).num.a), .int .i64 ((dPow 1).num.b), .int .i64 ((dPow 1).num.c), .int .i64 ((dPow 1).num.d), .int .i64 ((dPow 1).exp)]) (l' := [.int .i64 ((dPow 1).num.a), .int .i64 ((dPow 1).num.b), .int .i64 ((dPow 1).num.c), .int .i64 ((dPow 1).num.d), .int .i64 ((dPow 1).exp)]) hf rfl rfl sz_189 hB5 rfl rfl rfl rfl rfl) ?_; rintro a _ w9 ⟨ho, hb⟩ hf
  have hold := hB5
  replace hB2 := hB2.only ho (Blk.ne hB2 hold rfl)
  replace hB3 := hB3.only ho (by omega)
  replace hB6 := hB6.only ho (by omega)
  replace hW := Below.only hW ho hlo5
  clear hold
  have hB5 := hb
  clear hb ho
  refine wpList_nil ?_
  refine x_norm ?_
  refine hK8 _ _ ?_; try clear hK8 K8
  refine wp_seq_k ?_; intro K12 hK12
  refine wp_seq_k ?_; intro K13 hK13
  refine wp_region_lit ?_
  refine l_ev hf trivial rfl rfl (ev_move hf rfl) ?_; intro a hf
  refine l_ev hf trivial rfl rfl (ev_move hf rfl) ?_; intro a hf
  refine l_ev hf trivial rfl rfl (ev_eql hf rfl rfl) ?_; intro a hf
  refine wpList_nil ?_
  refine hK13 _ _ ?_; try clear hK13 K13
  refine c_if hf rfl (fun hc14 => ?_) (fun hc14 => ?_)
  ·have hc14b := hc14
   have hfin : cellS n g row col = valS n g col := by rw [cellS, if_neg h8, if_pos ((eq_of_beq hc14).trans hto.symm)]
   rw [hv] at hfin
   refine wp_seq_k ?_; intro K15 hK15
   refine wp_region_lit ?_
   refine l_ev hf trivial rfl rfl (ev_loadN (l := [.int .i64 ((dPow 1).num.a), .int .i64 ((dPow 1).num.b), .int .i64 ((dPow 1).num.c), .int .i64 ((dPow 1).num.d), .int .i64 ((dPow 1).exp)]) hf rfl tN_189 (hB5.at 0) rfl) ?_; intro a hf
   refine l_eff0 hf trivial rfl (ef_store (vs := [.int .i64 ((dPow 1).num.a), .int .i64 ((dPow 1).num.b), .int .i64 ((dPow 1).num.c), .int .i64 ((dPow 1).num.d), .int .i64 ((dPow 1).exp)]) (l' := [.int .i64 ((dPow 1).num.a), .int .i64 ((dPow 1).num.b), .int .i64 ((dPow 1).num.c), .int .i64 ((dPow 1).num.d), .int .i64 ((dPow 1).exp)]) hf rfl rfl sz_189 hB3 rfl rfl rfl rfl rfl) ?_; rintro a _ w10 ⟨ho, hb⟩ hf
   have hold := hB3
   replace hB2 := hB2.only ho (Blk.ne hB2 hold rfl)
   replace hB5 := hB5.only ho (by omega)
   replace hB6 := hB6.only ho (by omega)
   replace hW := Below.only hW ho hlo3
   clear hold
   have hB3 := hb
   clear hb ho
   refine wpList_nil ?_
   refine hK15 _ _ ?_; try clear hK15 K15
   refine wp_ret ?_
   refine x_retS ?_
   refine c_ret hf (res1 hf rfl (ResV.cellN (l := [.int .i64 ((dPow 1).num.a), .int .i64 ((dPow 1).num.b), .int .i64 ((dPow 1).num.c), .int .i64 ((dPow 1).num.d), .int .i64 ((dPow 1).exp)]) rfl tN_189 (hB3.at 0) rfl)) ?_
   exact ⟨(by rw [hfin]; try rfl), hW⟩
  ·have hc14b := hc14
   have hfin : cellS n g row col = dZ := by rw [cellS, if_neg h8, if_neg (fun e9 => ne_of_beqF hc14 (e9.trans hto))]
   refine wp_skip ?_
   refine hK12 _ _ ?_; try clear hK12 K12
   refine wp_seq_k ?_; intro K16 hK16
   refine wp_region_lit ?_
   refine l_ev hf trivial rfl rfl (ev_loadN (l := [.int .i64 0, .int .i64 0, .int .i64 0, .int .i64 0, .int .i64 0]) hf rfl tN_189 (hB6.at 0) rfl) ?_; intro a hf
   refine l_eff0 hf trivial rfl (ef_store (vs := [.int .i64 0, .int .i64 0, .int .i64 0, .int .i64 0, .int .i64 0]) (l' := [.int .i64 0, .int .i64 0, .int .i64 0, .int .i64 0, .int .i64 0]) hf rfl rfl sz_189 hB3 rfl rfl rfl rfl rfl) ?_; rintro a _ w11 ⟨ho, hb⟩ hf
   have hold := hB3
   replace hB2 := hB2.only ho (Blk.ne hB2 hold rfl)
   replace hB5 := hB5.only ho (by omega)
   replace hB6 := hB6.only ho (by omega)
   replace hW := Below.only hW ho hlo3
   clear hold
   have hB3 := hb
   clear hb ho
   refine wpList_nil ?_
   refine hK16 _ _ ?_; try clear hK16 K16
   refine wp_ret ?_
   refine c_ret hf (res1 hf rfl (ResV.cellN (l := [.int .i64 0, .int .i64 0, .int .i64 0, .int .i64 0, .int .i64 0]) rfl tN_189 (hB3.at 0) rfl)) ?_
   exact ⟨(by rw [hfin]; try rfl), hW⟩
 ·have hc11b := hc11
  have h12 := ne_of_beqF hc11
  refine wp_seq_k ?_; intro K17 hK17
  refine wp_region_lit ?_
  refine l_ev hf trivial rfl rfl (ev_eql hf rfl rfl) ?_; intro a hf
  refine l_ev hf trivial rfl rfl (ev_assign hf rfl) ?_; intro a hf
  refine wpList_nil ?_
  refine hK17 _ _ ?_; try clear hK17 K17
  refine c_if hf rfl (fun hc18 => ?_) (fun hc18 => ?_)
  ·have hc18b := hc18
   have hk := eq_of_beq hc18
   have h8 : ¬ g.k ≤ 8 := by omega
   have hv : valS n g col = dPow 0 := by simp [valS, hk]
   refine wp_seq_k ?_; intro K19 hK19
   refine wp_region_lit ?_
   refine l_ev hf trivial rfl rfl (ev_move hf rfl) ?_; intro a hf
   refine l_ev hf trivial rfl rfl (ev_move hf rfl) ?_; intro a hf
   refine l_ev hf trivial rfl rfl (ev_fieldB hf rfl fd_107_1 (m := 1) rfl) ?_; intro a hf
   refine l_ev hf trivial rfl rfl (ev_load1 hf rfl t1_3 (hB2.at 1)) ?_; intro a hf
   refine l_eff hf trivial rfl rfl (ef_call (vs := [.int .i64 n, .int .i64 col, .int .i64 g.a]) hf rfl ff_229 (F229 _ n col g.a (by omega) (by omega) (by omega))) ?_; rintro a _ _ ⟨rfl, rfl⟩ hf
   refine l_ev hf trivial rfl rfl (ev_eql hf rfl rfl) ?_; intro a hf
   refine wpList_nil ?_
   refine hK19 _ _ ?_; try clear hK19 K19
   refine c_if hf rfl (fun hc20 => ?_) (fun hc20 => ?_)
   ·have hc20b := hc20
    have hto : toS n g col = flipF n col g.b := by rw [toS, if_pos hk, if_pos (eq_of_beq hc20)]
    refine wp_region_lit ?_
    refine l_ev hf trivial rfl rfl (ev_move hf rfl) ?_; intro a hf
    refine l_ev hf trivial rfl rfl (ev_move hf rfl) ?_; intro a hf
    refine l_ev hf trivial rfl rfl (ev_subx hf rfl rfl (by omega) (by omega)) ?_; intro a hf
    refine l_ev hf trivial rfl rfl (ev_fieldB hf rfl fd_107_2 (m := 2) rfl) ?_; intro a hf
    refine l_ev hf trivial rfl rfl (ev_load1 hf rfl t1_3 (hB2.at 2)) ?_; intro a hf
    refine l_ev hf trivial rfl rfl (ev_subx hf rfl rfl (by omega) (by omega)) ?_; intro a hf
    refine l_ev hf trivial rfl rfl (ev_toU (m := (n - 1 - g.b).toNat) Tryz.underlying3 Tryz.underlying181 hf rfl (by omega) (by omega)) ?_; intro a hf
    refine l_ev hf trivial rfl rfl (ev_shl (m := (n - 1 - g.b).toNat) hf rfl rfl rfl (by omega)) ?_; intro a hf
    refine l_ev hf trivial rfl rfl (ev_xor hf rfl rfl) ?_; intro a hf
    refine l_ev hf trivial rfl rfl (ev_assign hf rfl) ?_; intro a hf
    refine wpList_nil ?_
    refine x_norm ?_
    refine hK8 _ _ ?_; try clear hK8 K8
    refine wp_seq_k ?_; intro K21 hK21
    refine wp_seq_k ?_; intro K22 hK22
    refine wp_region_lit ?_
    refine l_ev hf trivial rfl rfl (ev_move hf rfl) ?_; intro a hf
    refine l_ev hf trivial rfl rfl (ev_move hf rfl) ?_; intro a hf
    refine l_ev hf trivial rfl rfl (ev_eql hf rfl rfl) ?_; intro a hf
    refine wpList_nil ?_
    refine hK22 _ _ ?_; try clear hK22 K22
    refine c_if hf rfl (fun hc23 => ?_) (fun hc23 => ?_)
    ·have hc23b := hc23
     have hfin : cellS n g row col = valS n g col := by rw [cellS, if_neg h8, if_pos ((eq_of_beq hc23).trans hto.symm)]
     rw [hv] at hfin
     refine wp_seq_k ?_; intro K24 hK24
     refine wp_region_lit ?_
     refine l_ev hf trivial rfl rfl (ev_loadN (l := [.int .i64 ((dPow 0).num.a), .int .i64 ((dPow 0).num.b), .int .i64 ((dPow 0).num.c), .int .i64 ((dPow 0).num.d), .int .i64 ((dPow 0).exp)]) hf rfl tN_189 (hB5.at 0) rfl) ?_; intro a hf
     refine l_eff0 hf trivial rfl (ef_store (vs := [.int .i64 ((dPow 0).num.a), .int .i64 ((dPow 0).num.b), .int .i64 ((dPow 0).num.c), .int .i64 ((dPow 0).num.d), .int .i64 ((dPow 0).exp)]) (l' := [.int .i64 ((dPow 0).num.a), .int .i64 ((dPow 0).num.b), .int .i64 ((dPow 0).num.c), .int .i64 ((dPow 0).num.d), .int .i64 ((dPow 0).exp)]) hf rfl rfl sz_189 hB3 rfl rfl rfl rfl rfl) ?_; rintro a _ w12 ⟨ho, hb⟩ hf
     have hold := hB3
     replace hB2 := hB2.only ho (Blk.ne hB2 hold rfl)
     replace hB5 := hB5.only ho (by omega)
     replace hB6 := hB6.only ho (by omega)
     replace hW := Below.only hW ho hlo3
     clear hold
     have hB3 := hb
     clear hb ho
     refine wpList_nil ?_
     refine hK24 _ _ ?_; try clear hK24 K24
     refine wp_ret ?_
     refine x_retS ?_
     refine c_ret hf (res1 hf rfl (ResV.cellN (l := [.int .i64 ((dPow 0).num.a), .int .i64 ((dPow 0).num.b), .int .i64 ((dPow 0).num.c), .int .i64 ((dPow 0).num.d), .int .i64 ((dPow 0).exp)]) rfl tN_189 (hB3.at 0) rfl)) ?_
     exact ⟨(by rw [hfin]; try rfl), hW⟩
    ·have hc23b := hc23
     have hfin : cellS n g row col = dZ := by rw [cellS, if_neg h8, if_neg (fun e9 => ne_of_beqF hc23 (e9.trans hto))]
     refine wp_skip ?_
     refine hK21 _ _ ?_; try clear hK21 K21
     refine wp_seq_k ?_; intro K25 hK25
     refine wp_region_lit ?_
     refine l_ev hf trivial rfl rfl (ev_loadN (l := [.int .i64 0, .int .i64 0, .int .i64 0, .int .i64 0, .int .i64 0]) hf rfl tN_189 (hB6.at 0) rfl) ?_; intro a hf
     refine l_eff0 hf trivial rfl (ef_store (vs := [.int .i64 0, .int .i64 0, .int .i64 0, .int .i64 0, .int .i64 0]) (l' := [.int .i64 0, .int .i64 0, .int .i64 0, .int .i64 0, .int .i64 0]) hf rfl rfl sz_189 hB3 rfl rfl rfl rfl rfl) ?_; rintro a _ w13 ⟨ho, hb⟩ hf
     have hold := hB3
     replace hB2 := hB2.only ho (Blk.ne hB2 hold rfl)
     replace hB5 := hB5.only ho (by omega)
     replace hB6 := hB6.only ho (by omega)
     replace hW := Below.only hW ho hlo3
     clear hold
     have hB3 := hb
     clear hb ho
     refine wpList_nil ?_
     refine hK25 _ _ ?_; try clear hK25 K25
     refine wp_ret ?_
     refine c_ret hf (res1 hf rfl (ResV.cellN (l := [.int .i64 0, .int .i64 0, .int .i64 0, .int .i64 0, .int .i64 0]) rfl tN_189 (hB3.at 0) rfl)) ?_
     exact ⟨(by rw [hfin]; try rfl), hW⟩
   ·have hc20b := hc20
    have hto : toS n g col = col := by rw [toS, if_pos hk, if_neg (ne_of_beqF hc20)]
    refine wp_skip ?_
    refine x_norm ?_
    refine hK8 _ _ ?_; try clear hK8 K8
    refine wp_seq_k ?_; intro K26 hK26
    refine wp_seq_k ?_; intro K27 hK27
    refine wp_region_lit ?_
    refine l_ev hf trivial rfl rfl (ev_move hf rfl) ?_; intro a hf
    refine l_ev hf trivial rfl rfl (ev_move hf rfl) ?_; intro a hf
    refine l_ev hf trivial rfl rfl (ev_eql hf rfl rfl) ?_; intro a hf
    refine wpList_nil ?_
    refine hK27 _ _ ?_; try clear hK27 K27
    refine c_if hf rfl (fun hc28 => ?_) (fun hc28 => ?_)
    ·have hc28b := hc28
     have hfin : cellS n g row col = valS n g col := by rw [cellS, if_neg h8, if_pos ((eq_of_beq hc28).trans hto.symm)]
     rw [hv] at hfin
     refine wp_seq_k ?_; intro K29 hK29
     refine wp_region_lit ?_
     refine l_ev hf trivial rfl rfl (ev_loadN (l := [.int .i64 ((dPow 0).num.a), .int .i64 ((dPow 0).num.b), .int .i64 ((dPow 0).num.c), .int .i64 ((dPow 0).num.d), .int .i64 ((dPow 0).exp)]) hf rfl tN_189 (hB5.at 0) rfl) ?_; intro a hf
     refine l_eff0 hf trivial rfl (ef_store (vs := [.int .i64 ((dPow 0).num.a), .int .i64 ((dPow 0).num.b), .int .i64 ((dPow 0).num.c), .int .i64 ((dPow 0).num.d), .int .i64 ((dPow 0).exp)]) (l' := [.int .i64 ((dPow 0).num.a), .int .i64 ((dPow 0).num.b), .int .i64 ((dPow 0).num.c), .int .i64 ((dPow 0).num.d), .int .i64 ((dPow 0).exp)]) hf rfl rfl sz_189 hB3 rfl rfl rfl rfl rfl) ?_; rintro a _ w14 ⟨ho, hb⟩ hf
     have hold := hB3
     replace hB2 := hB2.only ho (Blk.ne hB2 hold rfl)
     replace hB5 := hB5.only ho (by omega)
     replace hB6 := hB6.only ho (by omega)
     replace hW := Below.only hW ho hlo3
     clear hold
     have hB3 := hb
     clear hb ho
     refine wpList_nil ?_
     refine hK29 _ _ ?_; try clear hK29 K29
     refine wp_ret ?_
     refine x_retS ?_
     refine c_ret hf (res1 hf rfl (ResV.cellN (l := [.int .i64 ((dPow 0).num.a), .int .i64 ((dPow 0).num.b), .int .i64 ((dPow 0).num.c), .int .i64 ((dPow 0).num.d), .int .i64 ((dPow 0).exp)]) rfl tN_189 (hB3.at 0) rfl)) ?_
     exact ⟨(by rw [hfin]; try rfl), hW⟩
    ·have hc28b := hc28
     have hfin : cellS n g row col = dZ := by rw [cellS, if_neg h8, if_neg (fun e9 => ne_of_beqF hc28 (e9.trans hto))]
     refine wp_skip ?_
     refine hK26 _ _ ?_; try clear hK26 K26
     refine wp_seq_k ?_; intro K30 hK30
     refine wp_region_lit ?_
     refine l_ev hf trivial rfl rfl (ev_loadN (l := [.int .i64 0, .int .i64 0, .int .i64 0, .int .i64 0, .int .i64 0]) hf rfl tN_189 (hB6.at 0) rfl) ?_; intro a hf
     refine l_eff0 hf trivial rfl (ef_store (vs := [.int .i64 0, .int .i64 0, .int .i64 0, .int .i64 0, .int .i64 0]) (l' := [.int .i64 0, .int .i64 0, .int .i64 0, .int .i64 0, .int .i64 0]) hf rfl rfl sz_189 hB3 rfl rfl rfl rfl rfl) ?_; rintro a _ w15 ⟨ho, hb⟩ hf
     have hold := hB3
     replace hB2 := hB2.only ho (Blk.ne hB2 hold rfl)
     replace hB5 := hB5.only ho (by omega)
     replace hB6 := hB6.only ho (by omega)
     replace hW := Below.only hW ho hlo3
     clear hold
     have hB3 := hb
     clear hb ho
     refine wpList_nil ?_
     refine hK30 _ _ ?_; try clear hK30 K30
     refine wp_ret ?_
     refine c_ret hf (res1 hf rfl (ResV.cellN (l := [.int .i64 0, .int .i64 0, .int .i64 0, .int .i64 0, .int .i64 0]) rfl tN_189 (hB3.at 0) rfl)) ?_
     exact ⟨(by rw [hfin]; try rfl), hW⟩
  ·have hc18b := hc18
   have h9 := ne_of_beqF hc18
   refine wp_seq_k ?_; intro K31 hK31
   refine wp_region_lit ?_
   refine l_ev hf trivial rfl rfl (ev_eql hf rfl rfl) ?_; intro a hf
   refine l_ev hf trivial rfl rfl (ev_assign hf rfl) ?_; intro a hf
   refine wpList_nil ?_
   refine hK31 _ _ ?_; try clear hK31 K31
   refine c_if hf rfl (fun hc32 => ?_) (fun hc32 => ?_)
   ·have hc32b := hc32
    have hk := eq_of_beq hc32
    have h8 : ¬ g.k ≤ 8 := by omega
    have hto : toS n g col = col := by simp [toS, hk]
    refine wp_seq_k ?_; intro K33 hK33
    refine c_cut (fun a w => Fr a 119 [(2, .int .i64 row), (8, .pointer (some ⟨b3, 0, none⟩)), (9, .pointer (some ⟨b5, 0, none⟩)), (10, .pointer (some ⟨b6, 0, none⟩)), (11, .int .i64 col), (82, .bool (((bitF n col g.a) == 1) && ((bitF n col g.b) == 1)))] ∧ w7 = w) ?_ ?_
    ·refine wp_region_lit ?_
     refine l_ev hf trivial rfl rfl (ev_move hf rfl) ?_; intro a hf
     refine l_ev hf trivial rfl rfl (ev_move hf rfl) ?_; intro a hf
     refine l_ev hf trivial rfl rfl (ev_fieldB hf rfl fd_107_1 (m := 1) rfl) ?_; intro a hf
     refine l_ev hf trivial rfl rfl (ev_load1 hf rfl t1_3 (hB2.at 1)) ?_; intro a hf
     refine l_eff hf trivial rfl rfl (ef_call (vs := [.int .i64 n, .int .i64 col, .int .i64 g.a]) hf rfl ff_229 (F229 _ n col g.a (by omega) (by omega) (by omega))) ?_; rintro a _ _ ⟨rfl, rfl⟩ hf
     refine l_ev hf trivial rfl rfl (ev_eql hf rfl rfl) ?_; intro a hf
     refine l_ev hf trivial rfl rfl (ev_move hf rfl) ?_; intro a hf
     refine g_split hf (t := 75) rfl (fun hg34 => ?_) (fun hg34 => ?_)
     ·refine l_ev hf ⟨_, _, rfl, rfl, hg34⟩ rfl rfl (ev_move hf rfl) ?_; intro a hf
      refine l_ev hf ⟨_, _, rfl, rfl, hg34⟩ rfl rfl (ev_move hf rfl) ?_; intro a hf
      refine l_ev hf ⟨_, _, rfl, rfl, hg34⟩ rfl rfl (ev_fieldB hf rfl fd_107_2 (m := 2) rfl) ?_; intro a hf
      refine l_ev hf ⟨_, _, rfl, rfl, hg34⟩ rfl rfl (ev_load1 hf rfl t1_3 (hB2.at 2)) ?_; intro a hf
      refine l_eff hf ⟨_, _, rfl, rfl, hg34⟩ rfl rfl (ef_call (vs := [.int .i64 n, .int .i64 col, .int .i64 g.b]) hf rfl ff_229 (F229 _ n col g.b (by omega) (by omega) (by omega))) ?_; rintro a _ _ ⟨rfl, rfl⟩ hf
      refine l_ev hf ⟨_, _, rfl, rfl, hg34⟩ rfl rfl (ev_eql hf rfl rfl) ?_; intro a hf
      refine l_ev hf trivial rfl rfl (ev_pickT hf rfl hg34 rfl) ?_; intro a hf
      refine wpList_nil ?_
      exact ⟨hf.sub ⟨rfl, rfl, rfl, rfl, rfl, look_bool rfl (by first | rfl | simp [hc11b, hc18b, hc32b, hg34]), trivial⟩, rfl⟩
     ·refine l_pass hf ⟨_, _, rfl, rfl, hg34⟩ rfl rfl ?_; intro a hf
      refine l_pass hf ⟨_, _, rfl, rfl, hg34⟩ rfl rfl ?_; intro a hf
      refine l_pass hf ⟨_, _, rfl, rfl, hg34⟩ rfl rfl ?_; intro a hf
      refine l_pass hf ⟨_, _, rfl, rfl, hg34⟩ rfl rfl ?_; intro a hf
      refine l_pass hf ⟨_, _, rfl, rfl, hg34⟩ rfl rfl ?_; intro a hf
      refine l_pass hf ⟨_, _, rfl, rfl, hg34⟩ rfl rfl ?_; intro a hf
      refine l_ev hf trivial rfl rfl (ev_pickF hf rfl hg34 rfl) ?_; intro a hf
      refine wpList_nil ?_
      exact ⟨hf.sub ⟨rfl, rfl, rfl, rfl, rfl, look_bool rfl (by first | rfl | simp [hc11b, hc18b, hc32b, hg34]), trivial⟩, rfl⟩
    rintro a _ ⟨hf, rfl⟩
    refine hK33 _ _ ?_; try clear hK33 K33
    refine c_if hf rfl (fun hc35 => ?_) (fun hc35 => ?_)
    ·have hc35b := hc35
     have hv : valS n g col = dPow 4 := by have h9 : bitF n col g.a = 1 ∧ bitF n col g.b = 1 := (by simpa using hc35); simp [valS, hk, h9]
     refine wp_region_lit ?_
     refine l_eff hf trivial rfl rfl (ef_call (vs := [.int .i64 4]) hf rfl ff_209 (F209 _ 4)) ?_; rintro a _ w16 ⟨rfl, hE⟩ hf
     replace hB2 := hB2.below hE
     replace hB3 := hB3.below hE
     replace hB5 := hB5.below hE
     replace hB6 := hB6.below hE
     replace hW := hW.trans (hE.mono hW.size)
     clear hE
     refine l_eff0 hf trivial rfl (ef_store (vs := [.int .i64 ((dPow 4).num.a), .int .i64 ((dPow 4).num.b), .int .i64 ((dPow 4).num.c), .int .i64 ((dPow 4).num.d), .int .i64 ((dPow 4).exp)]) (l' := [.int .i64 ((dPow 4).num.a), .int .i64 ((dPow 4).num.b), .int .i64 ((dPow 4).num.c), .int .i64 ((dPow 4).num.d), .int .i64 ((dPow 4).exp)]) hf rfl rfl sz_189 hB5 rfl rfl rfl rfl rfl) ?_; rintro a _ w17 ⟨ho, hb⟩ hf
     have hold := hB5
     replace hB2 := hB2.only ho (Blk.ne hB2 hold rfl)
     replace hB3 := hB3.only ho (by omega)
     replace hB6 := hB6.only ho (by omega)
     replace hW := Below.only hW ho hlo5
     clear hold
     have hB5 := hb
     clear hb ho
     refine wpList_nil ?_
     refine x_norm ?_
     refine hK8 _ _ ?_; try clear hK8 K8
     refine wp_seq_k ?_; intro K36 hK36
     refine wp_seq_k ?_; intro K37 hK37
     refine wp_region_lit ?_
     refine l_ev hf trivial rfl rfl (ev_move hf rfl) ?_; intro a hf
     refine l_ev hf trivial rfl rfl (ev_move hf rfl) ?_; intro a hf
     refine l_ev hf trivial rfl rfl (ev_eql hf rfl rfl) ?_; intro a hf
     refine wpList_nil ?_
     refine hK37 _ _ ?_; try clear hK37 K37
     refine c_if hf rfl (fun hc38 => ?_) (fun hc38 => ?_)
     ·have hc38b := hc38
      have hfin : cellS n g row col = valS n g col := by rw [cellS, if_neg h8, if_pos ((eq_of_beq hc38).trans hto.symm)]
      rw [hv] at hfin
      refine wp_seq_k ?_; intro K39 hK39
      refine wp_region_lit ?_
      refine l_ev hf trivial rfl rfl (ev_loadN (l := [.int .i64 ((dPow 4).num.a), .int .i64 ((dPow 4).num.b), .int .i64 ((dPow 4).num.c), .int .i64 ((dPow 4).num.d), .int .i64 ((dPow 4).exp)]) hf rfl tN_189 (hB5.at 0) rfl) ?_; intro a hf
      refine l_eff0 hf trivial rfl (ef_store (vs := [.int .i64 ((dPow 4).num.a), .int .i64 ((dPow 4).num.b), .int .i64 ((dPow 4).num.c), .int .i64 ((dPow 4).num.d), .int .i64 ((dPow 4).exp)]) (l' := [.int .i64 ((dPow 4).num.a), .int .i64 ((dPow 4).num.b), .int .i64 ((dPow 4).num.c), .int .i64 ((dPow 4).num.d), .int .i64 ((dPow 4).exp)]) hf rfl rfl sz_189 hB3 rfl rfl rfl rfl rfl) ?_; rintro a _ w18 ⟨ho, hb⟩ hf
      have hold := hB3
      replace hB2 := hB2.only ho (Blk.ne hB2 hold rfl)
      replace hB5 := hB5.only ho (by omega)
      replace hB6 := hB6.only ho (by omega)
      replace hW := Below.only hW ho hlo3
      clear hold
      have hB3 := hb
      clear hb ho
      refine wpList_nil ?_
      refine hK39 _ _ ?_; try clear hK39 K39
      refine wp_ret ?_
      refine x_retS ?_
      refine c_ret hf (res1 hf rfl (ResV.cellN (l := [.int .i64 ((dPow 4).num.a), .int .i64 ((dPow 4).num.b), .int .i64 ((dPow 4).num.c), .int .i64 ((dPow 4).num.d), .int .i64 ((dPow 4).exp)]) rfl tN_189 (hB3.at 0) rfl)) ?_
      exact ⟨(by rw [hfin]; try rfl), hW⟩
     ·have hc38b := hc38
      have hfin : cellS n g row col = dZ := by rw [cellS, if_neg h8, if_neg (fun e9 => ne_of_beqF hc38 (e9.trans hto))]
      refine wp_skip ?_
      refine hK36 _ _ ?_; try clear hK36 K36
      refine wp_seq_k ?_; intro K40 hK40
      refine wp_region_lit ?_
      refine l_ev hf trivial rfl rfl (ev_loadN (l := [.int .i64 0, .int .i64 0, .int .i64 0, .int .i64 0, .int .i64 0]) hf rfl tN_189 (hB6.at 0) rfl) ?_; intro a hf
      refine l_eff0 hf trivial rfl (ef_store (vs := [.int .i64 0, .int .i64 0, .int .i64 0, .int .i64 0, .int .i64 0]) (l' := [.int .i64 0, .int .i64 0, .int .i64 0, .int .i64 0, .int .i64 0]) hf rfl rfl sz_189 hB3 rfl rfl rfl rfl rfl) ?_; rintro a _ w19 ⟨ho, hb⟩ hf
      have hold := hB3
      replace hB2 := hB2.only ho (Blk.ne hB2 hold rfl)
      replace hB5 := hB5.only ho (by omega)
      replace hB6 := hB6.only ho (by omega)
      replace hW := Below.only hW ho hlo3
      clear hold
      have hB3 := hb
      clear hb ho
      refine wpList_nil ?_
      refine hK40 _ _ ?_; try clear hK40 K40
      refine wp_ret ?_
      refine c_ret hf (res1 hf rfl (ResV.cellN (l := [.int .i64 0, .int .i64 0, .int .i64 0, .int .i64 0, .int .i64 0]) rfl tN_189 (hB3.at 0) rfl)) ?_
      exact ⟨(by rw [hfin]; try rfl), hW⟩
    ·have hc35b := hc35
     have hv : valS n g col = dPow 0 := by have h9 : ¬ (bitF n col g.a = 1 ∧ bitF n col g.b = 1) := (by simpa using hc35); simp only [valS, hk, h9]; simp
     refine wp_skip ?_
     refine x_norm ?_
     refine hK8 _ _ ?_; try clear hK8 K8
     refine wp_seq_k ?_; intro K41 hK41
     refine wp_seq_k ?_; intro K42 hK42
     refine wp_region_lit ?_
     refine l_ev hf trivial rfl rfl (ev_move hf rfl) ?_; intro a hf
     refine l_ev hf trivial rfl rfl (ev_move hf rfl) ?_; intro a hf
     refine l_ev hf trivial rfl rfl (ev_eql hf rfl rfl) ?_; intro a hf
     refine wpList_nil ?_
     refine hK42 _ _ ?_; try clear hK42 K42
     refine c_if hf rfl (fun hc43 => ?_) (fun hc43 => ?_)
     ·have hc43b := hc43
      have hfin : cellS n g row col = valS n g col := by rw [cellS, if_neg h8, if_pos ((eq_of_beq hc43).trans hto.symm)]
      rw [hv] at hfin
      refine wp_seq_k ?_; intro K44 hK44
      refine wp_region_lit ?_
      refine l_ev hf trivial rfl rfl (ev_loadN (l := [.int .i64 ((dPow 0).num.a), .int .i64 ((dPow 0).num.b), .int .i64 ((dPow 0).num.c), .int .i64 ((dPow 0).num.d), .int .i64 ((dPow 0).exp)]) hf rfl tN_189 (hB5.at 0) rfl) ?_; intro a hf
      refine l_eff0 hf trivial rfl (ef_store (vs := [.int .i64 ((dPow 0).num.a), .int .i64 ((dPow 0).num.b), .int .i64 ((dPow 0).num.c), .int .i64 ((dPow 0).num.d), .int .i64 ((dPow 0).exp)]) (l' := [.int .i64 ((dPow 0).num.a), .int .i64 ((dPow 0).num.b), .int .i64 ((dPow 0).num.c), .int .i64 ((dPow 0).num.d), .int .i64 ((dPow 0).exp)]) hf rfl rfl sz_189 hB3 rfl rfl rfl rfl rfl) ?_; rintro a _ w20 ⟨ho, hb⟩ hf
      have hold := hB3
      replace hB2 := hB2.only ho (Blk.ne hB2 hold rfl)
      replace hB5 := hB5.only ho (by omega)
      replace hB6 := hB6.only ho (by omega)
      replace hW := Below.only hW ho hlo3
      clear hold
      have hB3 := hb
      clear hb ho
      refine wpList_nil ?_
      refine hK44 _ _ ?_; try clear hK44 K44
      refine wp_ret ?_
      refine x_retS ?_
      refine c_ret hf (res1 hf rfl (ResV.cellN (l := [.int .i64 ((dPow 0).num.a), .int .i64 ((dPow 0).num.b), .int .i64 ((dPow 0).num.c), .int .i64 ((dPow 0).num.d), .int .i64 ((dPow 0).exp)]) rfl tN_189 (hB3.at 0) rfl)) ?_
      exact ⟨(by rw [hfin]; try rfl), hW⟩
     ·have hc43b := hc43
      have hfin : cellS n g row col = dZ := by rw [cellS, if_neg h8, if_neg (fun e9 => ne_of_beqF hc43 (e9.trans hto))]
      refine wp_skip ?_
      refine hK41 _ _ ?_; try clear hK41 K41
      refine wp_seq_k ?_; intro K45 hK45
      refine wp_region_lit ?_
      refine l_ev hf trivial rfl rfl (ev_loadN (l := [.int .i64 0, .int .i64 0, .int .i64 0, .int .i64 0, .int .i64 0]) hf rfl tN_189 (hB6.at 0) rfl) ?_; intro a hf
      refine l_eff0 hf trivial rfl (ef_store (vs := [.int .i64 0, .int .i64 0, .int .i64 0, .int .i64 0, .int .i64 0]) (l' := [.int .i64 0, .int .i64 0, .int .i64 0, .int .i64 0, .int .i64 0]) hf rfl rfl sz_189 hB3 rfl rfl rfl rfl rfl) ?_; rintro a _ w21 ⟨ho, hb⟩ hf
      have hold := hB3
      replace hB2 := hB2.only ho (Blk.ne hB2 hold rfl)
      replace hB5 := hB5.only ho (by omega)
      replace hB6 := hB6.only ho (by omega)
      replace hW := Below.only hW ho hlo3
      clear hold
      have hB3 := hb
      clear hb ho
      refine wpList_nil ?_
      refine hK45 _ _ ?_; try clear hK45 K45
      refine wp_ret ?_
      refine c_ret hf (res1 hf rfl (ResV.cellN (l := [.int .i64 0, .int .i64 0, .int .i64 0, .int .i64 0, .int .i64 0]) rfl tN_189 (hB3.at 0) rfl)) ?_
      exact ⟨(by rw [hfin]; try rfl), hW⟩
   ·have hc32b := hc32
    have h10 := ne_of_beqF hc32
    refine wp_seq_k ?_; intro K46 hK46
    refine wp_region_lit ?_
    refine l_ev hf trivial rfl rfl (ev_eql hf rfl rfl) ?_; intro a hf
    refine l_ev hf trivial rfl rfl (ev_assign hf rfl) ?_; intro a hf
    refine wpList_nil ?_
    refine hK46 _ _ ?_; try clear hK46 K46
    refine c_if hf rfl (fun hc47 => ?_) (fun hc47 => ?_)
    ·have hc47b := hc47
     have hk := eq_of_beq hc47
     have h8 : ¬ g.k ≤ 8 := by omega
     have hv : valS n g col = dPow 0 := by simp [valS, hk]
     refine wp_seq_k ?_; intro K48 hK48
     refine wp_draw none (fun _ => false) mixed ?_
     intro w22 hE
     replace hB2 := hB2.below hE
     replace hB3 := hB3.below hE
     replace hB5 := hB5.below hE
     replace hB6 := hB6.below hE
     replace hW := hW.trans (hE.mono hW.size)
     clear hE
     refine s_ev0 0 rfl (by kernel_rfl) hf trivial rfl rfl (fun _ => ev_move hf rfl) ?_; intro a hf
     refine s_ev0 1 rfl (by kernel_rfl) hf trivial rfl rfl (fun _ => ev_move hf rfl) ?_; intro a hf
     refine s_ev0 2 rfl (by kernel_rfl) hf trivial rfl rfl (fun _ => ev_fieldB hf rfl fd_107_1 (m := 1) rfl) ?_; intro a hf
     refine s_ev 3 rfl (by kernel_rfl) (by kernel_rfl) hf trivial rfl rfl (ev_load1 hf rfl t1_3 (hB2.at 1)) ?_; intro a hf
     refine s_ev0 5 rfl (by kernel_rfl) hf trivial rfl rfl (fun _ => ev_move hf rfl) ?_; intro a hf
     refine s_ev0 6 rfl (by kernel_rfl) hf trivial rfl rfl (fun _ => ev_move hf rfl) ?_; intro a hf
     refine s_ev0 7 rfl (by kernel_rfl) hf trivial rfl rfl (fun _ => ev_fieldB hf rfl fd_107_2 (m := 2) rfl) ?_; intro a hf
     refine s_ev 8 rfl (by kernel_rfl) (by kernel_rfl) hf trivial rfl rfl (ev_load1 hf rfl t1_3 (hB2.at 2)) ?_; intro a hf
     refine s_one 4 (by kernel_rfl) ?_
     refine p_eff rfl hf trivial rfl rfl (Ef.mono (ef_call (vs := [.int .i64 n, .int .i64 col, .int .i64 g.a]) hf rfl ff_229 (F229 _ n col g.a (by omega) (by omega) (by omega))) (fun _ _ h => ⟨fun _ => by rw [← h.2]; exact Below.refl _ _, h⟩)) ?_; rintro a _ _ ⟨rfl, rfl⟩ hf
     refine s_one 9 (by kernel_rfl) ?_
     refine p_eff rfl hf trivial rfl rfl (Ef.mono (ef_call (vs := [.int .i64 n, .int .i64 col, .int .i64 g.b]) hf rfl ff_229 (F229 _ n col g.b (by omega) (by omega) (by omega))) (fun _ _ h => ⟨fun _ => by rw [← h.2]; exact Below.refl _ _, h⟩)) ?_; rintro a _ _ ⟨rfl, rfl⟩ hf
     refine s_ev0 10 rfl (by kernel_rfl) hf trivial rfl rfl (fun _ => ev_neq hf rfl rfl) ?_; intro a hf
     refine s_done (by kernel_rfl) ?_
     refine hK48 _ _ ?_; try clear hK48 K48
     refine c_if hf rfl (fun hc49 => ?_) (fun hc49 => ?_)
     ·have hc49b := hc49
      have hto : toS n g col = flipF n (flipF n col g.a) g.b := by have h9 : bitF n col g.a ≠ bitF n col g.b := (by simpa using hc49); simp [toS, hk, h9]
      refine wp_region_lit ?_
      refine l_ev hf trivial rfl rfl (ev_move hf rfl) ?_; intro a hf
      refine l_ev hf trivial rfl rfl (ev_move hf rfl) ?_; intro a hf
      refine l_ev hf trivial rfl rfl (ev_subx hf rfl rfl (by omega) (by omega)) ?_; intro a hf
      refine l_ev hf trivial rfl rfl (ev_fieldB hf rfl fd_107_1 (m := 1) rfl) ?_; intro a hf
      refine l_ev hf trivial rfl rfl (ev_load1 hf rfl t1_3 (hB2.at 1)) ?_; intro a hf
      refine l_ev hf trivial rfl rfl (ev_subx hf rfl rfl (by omega) (by omega)) ?_; intro a hf
      refine l_ev hf trivial rfl rfl (ev_toU (m := (n - 1 - g.a).toNat) Tryz.underlying3 Tryz.underlying181 hf rfl (by omega) (by omega)) ?_; intro a hf
      refine l_ev hf trivial rfl rfl (ev_shl (m := (n - 1 - g.a).toNat) hf rfl rfl rfl (by omega)) ?_; intro a hf
      refine l_ev hf trivial rfl rfl (ev_xor hf rfl rfl) ?_; intro a hf
      refine l_ev hf trivial rfl rfl (ev_move hf rfl) ?_; intro a hf
      refine l_ev hf trivial rfl rfl (ev_subx hf rfl rfl (by omega) (by omega)) ?_; intro a hf
      refine l_ev hf trivial rfl rfl (ev_fieldB hf rfl fd_107_2 (m := 2) rfl) ?_; intro a hf
      refine l_ev hf trivial rfl rfl (ev_load1 hf rfl t1_3 (hB2.at 2)) ?_; intro a hf
      refine l_ev hf trivial rfl rfl (ev_subx hf rfl rfl (by omega) (by omega)) ?_; intro a hf
      refine l_ev hf trivial rfl rfl (ev_toU (m := (n - 1 - g.b).toNat) Tryz.underlying3 Tryz.underlying181 hf rfl (by omega) (by omega)) ?_; intro a hf
      refine l_ev hf trivial rfl rfl (ev_shl (m := (n - 1 - g.b).toNat) hf rfl rfl rfl (by omega)) ?_; intro a hf
      refine l_ev hf trivial rfl rfl (ev_xor hf rfl rfl) ?_; intro a hf
      refine l_ev hf trivial rfl rfl (ev_assign hf rfl) ?_; intro a hf
      refine wpList_nil ?_
      refine x_norm ?_
      refine hK8 _ _ ?_; try clear hK8 K8
      refine wp_seq_k ?_; intro K50 hK50
      refine wp_seq_k ?_; intro K51 hK51
      refine wp_region_lit ?_
      refine l_ev hf trivial rfl rfl (ev_move hf rfl) ?_; intro a hf
      refine l_ev hf trivial rfl rfl (ev_move hf rfl) ?_; intro a hf
      refine l_ev hf trivial rfl rfl (ev_eql hf rfl rfl) ?_; intro a hf
      refine wpList_nil ?_
      refine hK51 _ _ ?_; try clear hK51 K51
      refine c_if hf rfl (fun hc52 => ?_) (fun hc52 => ?_)
      ·have hc52b := hc52
       have hfin : cellS n g row col = valS n g col := by rw [cellS, if_neg h8, if_pos ((eq_of_beq hc52).trans hto.symm)]
       rw [hv] at hfin
       refine wp_seq_k ?_; intro K53 hK53
       refine wp_region_lit ?_
       refine l_ev hf trivial rfl rfl (ev_loadN (l := [.int .i64 ((dPow 0).num.a), .int .i64 ((dPow 0).num.b), .int .i64 ((dPow 0).num.c), .int .i64 ((dPow 0).num.d), .int .i64 ((dPow 0).exp)]) hf rfl tN_189 (hB5.at 0) rfl) ?_; intro a hf
       refine l_eff0 hf trivial rfl (ef_store (vs := [.int .i64 ((dPow 0).num.a), .int .i64 ((dPow 0).num.b), .int .i64 ((dPow 0).num.c), .int .i64 ((dPow 0).num.d), .int .i64 ((dPow 0).exp)]) (l' := [.int .i64 ((dPow 0).num.a), .int .i64 ((dPow 0).num.b), .int .i64 ((dPow 0).num.c), .int .i64 ((dPow 0).num.d), .int .i64 ((dPow 0).exp)]) hf rfl rfl sz_189 hB3 rfl rfl rfl rfl rfl) ?_; rintro a _ w23 ⟨ho, hb⟩ hf
       have hold := hB3
       replace hB2 := hB2.only ho (Blk.ne hB2 hold rfl)
       replace hB5 := hB5.only ho (by omega)
       replace hB6 := hB6.only ho (by omega)
       replace hW := Below.only hW ho hlo3
       clear hold
       have hB3 := hb
       clear hb ho
       refine wpList_nil ?_
       refine hK53 _ _ ?_; try clear hK53 K53
       refine wp_ret ?_
       refine x_retS ?_
       refine c_ret hf (res1 hf rfl (ResV.cellN (l := [.int .i64 ((dPow 0).num.a), .int .i64 ((dPow 0).num.b), .int .i64 ((dPow 0).num.c), .int .i64 ((dPow 0).num.d), .int .i64 ((dPow 0).exp)]) rfl tN_189 (hB3.at 0) rfl)) ?_
       exact ⟨(by rw [hfin]; try rfl), hW⟩
      ·have hc52b := hc52
       have hfin : cellS n g row col = dZ := by rw [cellS, if_neg h8, if_neg (fun e9 => ne_of_beqF hc52 (e9.trans hto))]
       refine wp_skip ?_
       refine hK50 _ _ ?_; try clear hK50 K50
       refine wp_seq_k ?_; intro K54 hK54
       refine wp_region_lit ?_
       refine l_ev hf trivial rfl rfl (ev_loadN (l := [.int .i64 0, .int .i64 0, .int .i64 0, .int .i64 0, .int .i64 0]) hf rfl tN_189 (hB6.at 0) rfl) ?_; intro a hf
       refine l_eff0 hf trivial rfl (ef_store (vs := [.int .i64 0, .int .i64 0, .int .i64 0, .int .i64 0, .int .i64 0]) (l' := [.int .i64 0, .int .i64 0, .int .i64 0, .int .i64 0, .int .i64 0]) hf rfl rfl sz_189 hB3 rfl rfl rfl rfl rfl) ?_; rintro a _ w24 ⟨ho, hb⟩ hf
       have hold := hB3
       replace hB2 := hB2.only ho (Blk.ne hB2 hold rfl)
       replace hB5 := hB5.only ho (by omega)
       replace hB6 := hB6.only ho (by omega)
       replace hW := Below.only hW ho hlo3
       clear hold
       have hB3 := hb
       clear hb ho
       refine wpList_nil ?_
       refine hK54 _ _ ?_; try clear hK54 K54
       refine wp_ret ?_
       refine c_ret hf (res1 hf rfl (ResV.cellN (l := [.int .i64 0, .int .i64 0, .int .i64 0, .int .i64 0, .int .i64 0]) rfl tN_189 (hB3.at 0) rfl)) ?_
       exact ⟨(by rw [hfin]; try rfl), hW⟩
     ·have hc49b := hc49
      have hto : toS n g col = col := by have h9 : bitF n col g.a = bitF n col g.b := (by simpa using hc49); simp [toS, hk, h9]
      refine wp_skip ?_
      refine x_norm ?_
      refine hK8 _ _ ?_; try clear hK8 K8
      refine wp_seq_k ?_; intro K55 hK55
      refine wp_seq_k ?_; intro K56 hK56
      refine wp_region_lit ?_
      refine l_ev hf trivial rfl rfl (ev_move hf rfl) ?_; intro a hf
      refine l_ev hf trivial rfl rfl (ev_move hf rfl) ?_; intro a hf
      refine l_ev hf trivial rfl rfl (ev_eql hf rfl rfl) ?_; intro a hf
      refine wpList_nil ?_
      refine hK56 _ _ ?_; try clear hK56 K56
      refine c_if hf rfl (fun hc57 => ?_) (fun hc57 => ?_)
      ·have hc57b := hc57
       have hfin : cellS n g row col = valS n g col := by rw [cellS, if_neg h8, if_pos ((eq_of_beq hc57).trans hto.symm)]
       rw [hv] at hfin
       refine wp_seq_k ?_; intro K58 hK58
       refine wp_region_lit ?_
       refine l_ev hf trivial rfl rfl (ev_loadN (l := [.int .i64 ((dPow 0).num.a), .int .i64 ((dPow 0).num.b), .int .i64 ((dPow 0).num.c), .int .i64 ((dPow 0).num.d), .int .i64 ((dPow 0).exp)]) hf rfl tN_189 (hB5.at 0) rfl) ?_; intro a hf
       refine l_eff0 hf trivial rfl (ef_store (vs := [.int .i64 ((dPow 0).num.a), .int .i64 ((dPow 0).num.b), .int .i64 ((dPow 0).num.c), .int .i64 ((dPow 0).num.d), .int .i64 ((dPow 0).exp)]) (l' := [.int .i64 ((dPow 0).num.a), .int .i64 ((dPow 0).num.b), .int .i64 ((dPow 0).num.c), .int .i64 ((dPow 0).num.d), .int .i64 ((dPow 0).exp)]) hf rfl rfl sz_189 hB3 rfl rfl rfl rfl rfl) ?_; rintro a _ w25 ⟨ho, hb⟩ hf
       have hold := hB3
       replace hB2 := hB2.only ho (Blk.ne hB2 hold rfl)
       replace hB5 := hB5.only ho (by omega)
       replace hB6 := hB6.only ho (by omega)
       replace hW := Below.only hW ho hlo3
       clear hold
       have hB3 := hb
       clear hb ho
       refine wpList_nil ?_
       refine hK58 _ _ ?_; try clear hK58 K58
       refine wp_ret ?_
       refine x_retS ?_
       refine c_ret hf (res1 hf rfl (ResV.cellN (l := [.int .i64 ((dPow 0).num.a), .int .i64 ((dPow 0).num.b), .int .i64 ((dPow 0).num.c), .int .i64 ((dPow 0).num.d), .int .i64 ((dPow 0).exp)]) rfl tN_189 (hB3.at 0) rfl)) ?_
       exact ⟨(by rw [hfin]; try rfl), hW⟩
      ·have hc57b := hc57
       have hfin : cellS n g row col = dZ := by rw [cellS, if_neg h8, if_neg (fun e9 => ne_of_beqF hc57 (e9.trans hto))]
       refine wp_skip ?_
       refine hK55 _ _ ?_; try clear hK55 K55
       refine wp_seq_k ?_; intro K59 hK59
       refine wp_region_lit ?_
       refine l_ev hf trivial rfl rfl (ev_loadN (l := [.int .i64 0, .int .i64 0, .int .i64 0, .int .i64 0, .int .i64 0]) hf rfl tN_189 (hB6.at 0) rfl) ?_; intro a hf
       refine l_eff0 hf trivial rfl (ef_store (vs := [.int .i64 0, .int .i64 0, .int .i64 0, .int .i64 0, .int .i64 0]) (l' := [.int .i64 0, .int .i64 0, .int .i64 0, .int .i64 0, .int .i64 0]) hf rfl rfl sz_189 hB3 rfl rfl rfl rfl rfl) ?_; rintro a _ w26 ⟨ho, hb⟩ hf
       have hold := hB3
       replace hB2 := hB2.only ho (Blk.ne hB2 hold rfl)
       replace hB5 := hB5.only ho (by omega)
       replace hB6 := hB6.only ho (by omega)
       replace hW := Below.only hW ho hlo3
       clear hold
       have hB3 := hb
       clear hb ho
       refine wpList_nil ?_
       refine hK59 _ _ ?_; try clear hK59 K59
       refine wp_ret ?_
       refine c_ret hf (res1 hf rfl (ResV.cellN (l := [.int .i64 0, .int .i64 0, .int .i64 0, .int .i64 0, .int .i64 0]) rfl tN_189 (hB3.at 0) rfl)) ?_
       exact ⟨(by rw [hfin]; try rfl), hW⟩
    ·have hc47b := hc47
     have h11 := ne_of_beqF hc47
     have h8 : g.k ≤ 8 := by omega
     refine wp_seq_k ?_; intro K60 hK60
     refine wp_seq_k ?_; intro K61 hK61
     refine wp_region_lit ?_
     refine l_ev hf trivial rfl rfl (ev_move hf rfl) ?_; intro a hf
     refine l_ev hf trivial rfl rfl (ev_move hf rfl) ?_; intro a hf
     refine l_ev hf trivial rfl rfl (ev_xor hf rfl rfl) ?_; intro a hf
     refine l_ev hf trivial rfl rfl (ev_move hf rfl) ?_; intro a hf
     refine l_ev hf trivial rfl rfl (ev_subx hf rfl rfl (by omega) (by omega)) ?_; intro a hf
     refine l_ev hf trivial rfl rfl (ev_fieldB hf rfl fd_107_1 (m := 1) rfl) ?_; intro a hf
     refine l_ev hf trivial rfl rfl (ev_load1 hf rfl t1_3 (hB2.at 1)) ?_; intro a hf
     refine l_ev hf trivial rfl rfl (ev_subx hf rfl rfl (by omega) (by omega)) ?_; intro a hf
     refine l_ev hf trivial rfl rfl (ev_toU (m := (n - 1 - g.a).toNat) Tryz.underlying3 Tryz.underlying181 hf rfl (by omega) (by omega)) ?_; intro a hf
     refine l_ev hf trivial rfl rfl (ev_shl (m := (n - 1 - g.a).toNat) hf rfl rfl rfl (by omega)) ?_; intro a hf
     refine l_ev hf trivial rfl rfl (ev_andNot hf rfl rfl) ?_; intro a hf
     refine l_ev hf trivial rfl rfl (ev_neq hf rfl rfl) ?_; intro a hf
     refine wpList_nil ?_
     refine hK61 _ _ ?_; try clear hK61 K61
     refine c_if hf rfl (fun hc62 => ?_) (fun hc62 => ?_)
     ·have hc62b := hc62
      have hfin : cellS n g row col = dZ := by rw [cellS, if_pos h8, if_pos (by simpa using hc62)]
      refine wp_seq_k ?_; intro K63 hK63
      refine wp_region_lit ?_
      refine l_ev hf trivial rfl rfl (ev_loadN (l := [.int .i64 0, .int .i64 0, .int .i64 0, .int .i64 0, .int .i64 0]) hf rfl tN_189 (hB6.at 0) rfl) ?_; intro a hf
      refine l_eff0 hf trivial rfl (ef_store (vs := [.int .i64 0, .int .i64 0, .int .i64 0, .int .i64 0, .int .i64 0]) (l' := [.int .i64 0, .int .i64 0, .int .i64 0, .int .i64 0, .int .i64 0]) hf rfl rfl sz_189 hB3 rfl rfl rfl rfl rfl) ?_; rintro a _ w27 ⟨ho, hb⟩ hf
      have hold := hB3
      replace hB2 := hB2.only ho (Blk.ne hB2 hold rfl)
      replace hB5 := hB5.only ho (by omega)
      replace hB6 := hB6.only ho (by omega)
      replace hW := Below.only hW ho hlo3
      clear hold
      have hB3 := hb
      clear hb ho
      refine wpList_nil ?_
      refine hK63 _ _ ?_; try clear hK63 K63
      refine wp_ret ?_
      refine x_retS ?_
      refine x_retB ?_
      refine x_retS ?_
      refine c_ret hf (res1 hf rfl (ResV.cellN (l := [.int .i64 0, .int .i64 0, .int .i64 0, .int .i64 0, .int .i64 0]) rfl tN_189 (hB3.at 0) rfl)) ?_
      exact ⟨(by rw [hfin]; try rfl), hW⟩
     ·have hc62b := hc62
      have hfin : cellS n g row col = (oneL g.k).getD (2 * bitF n row g.a + bitF n col g.a).toNat dZ := by rw [cellS, if_pos h8, if_neg (by simpa using hc62)]
      refine wp_skip ?_
      refine hK60 _ _ ?_; try clear hK60 K60
      refine wp_seq_k ?_; intro K64 hK64
      refine wp_draw none (fun j => [17].contains j) mixed ?_
      intro w28 hE
      replace hB2 := hB2.below hE
      replace hB3 := hB3.below hE
      replace hB5 := hB5.below hE
      replace hB6 := hB6.below hE
      replace hW := hW.trans (hE.mono hW.size)
      clear hE
      refine s_ev0 0 rfl (by kernel_rfl) hf trivial rfl rfl (fun _ => ev_fieldB hf rfl fd_107_0 (m := 0) rfl) ?_; intro a hf
      refine s_ev 1 rfl (by kernel_rfl) (by kernel_rfl) hf trivial rfl rfl (ev_load1 hf rfl t1_3 (hB2.at 0)) ?_; intro a hf
      refine s_ev0 3 rfl (by kernel_rfl) hf trivial rfl rfl (fun _ => ev_move hf rfl) ?_; intro a hf
      refine s_ev0 4 rfl (by kernel_rfl) hf trivial rfl rfl (fun _ => ev_move hf rfl) ?_; intro a hf
      refine s_ev0 5 rfl (by kernel_rfl) hf trivial rfl rfl (fun _ => ev_fieldB hf rfl fd_107_1 (m := 1) rfl) ?_; intro a hf
      refine s_ev 6 rfl (by kernel_rfl) (by kernel_rfl) hf trivial rfl rfl (ev_load1 hf rfl t1_3 (hB2.at 1)) ?_; intro a hf
      refine s_ev0 9 rfl (by kernel_rfl) hf trivial rfl rfl (fun _ => ev_move hf rfl) ?_; intro a hf
      refine s_ev0 10 rfl (by kernel_rfl) hf trivial rfl rfl (fun _ => ev_move hf rfl) ?_; intro a hf
      refine s_ev0 11 rfl (by kernel_rfl) hf trivial rfl rfl (fun _ => ev_fieldB hf rfl fd_107_1 (m := 1) rfl) ?_; intro a hf
      refine s_ev 12 rfl (by kernel_rfl) (by kernel_rfl) hf trivial rfl rfl (ev_load1 hf rfl t1_3 (hB2.at 1)) ?_; intro a hf
      refine s_one 2 (by kernel_rfl) ?_
      refine p_eff rfl hf trivial rfl rfl (Ef.mono (ef_call (vs := [.int .i64 g.k]) hf rfl ff_230 (F230 _ g.k (by omega))) (fun _ _ h => ⟨fun _ => by obtain ⟨A65, c65, rfl, ho65, hE⟩ := h; exact hE, h⟩)) ?_; rintro a _ w29 ⟨A65, c65, rfl, ho65, hE⟩ hf
      have haw65_3 := ho65.awayNew hB3.lt
      have haw65_5 := ho65.awayNew hB5.lt
      have haw65_6 := ho65.awayNew hB6.lt
      replace ho65 := ho65.lower hW.size
      replace hB2 := hB2.below hE
      replace hB3 := hB3.below hE
      replace hB5 := hB5.below hE
      replace hB6 := hB6.below hE
      replace hW := hW.trans (hE.mono hW.size)
      clear hE
      refine s_one 7 (by kernel_rfl) ?_
      refine p_eff rfl hf trivial rfl rfl (Ef.mono (ef_call (vs := [.int .i64 n, .int .i64 row, .int .i64 g.a]) hf rfl ff_229 (F229 _ n row g.a (by omega) (by omega) (by omega))) (fun _ _ h => ⟨fun _ => by rw [← h.2]; exact Below.refl _ _, h⟩)) ?_; rintro a _ _ ⟨rfl, rfl⟩ hf
      refine s_ev0 8 rfl (by kernel_rfl) hf trivial rfl rfl (fun _ => ev_mulx hf rfl rfl (by omega) (by omega)) ?_; intro a hf
      refine s_one 13 (by kernel_rfl) ?_
      refine p_eff rfl hf trivial rfl rfl (Ef.mono (ef_call (vs := [.int .i64 n, .int .i64 col, .int .i64 g.a]) hf rfl ff_229 (F229 _ n col g.a (by omega) (by omega) (by omega))) (fun _ _ h => ⟨fun _ => by rw [← h.2]; exact Below.refl _ _, h⟩)) ?_; rintro a _ _ ⟨rfl, rfl⟩ hf
      refine s_ev0 14 rfl (by kernel_rfl) hf trivial rfl rfl (fun _ => ev_addx hf rfl rfl (by omega) (by omega)) ?_; intro a hf
      refine s_index (k := (2 * bitF n row g.a + bitF n col g.a).toNat) (u := ((oneL g.k).getD (2 * bitF n row g.a + bitF n col g.a).toNat dZ)) (enc := encD) (l := (oneL g.k)) 15 rfl (by kernel_rfl) (by kernel_rfl) hf trivial rfl rfl rfl sl_139 sz_189 encD_len ho65.rd (oneL_get (by omega)) (by omega) ?_; intro a p67 hat66 hf
      refine s_ev 16 rfl (by kernel_rfl) (by kernel_rfl) hf trivial rfl rfl (ev_loadN (l := [.int .i64 (((oneL g.k).getD (2 * bitF n row g.a + bitF n col g.a).toNat dZ).num.a), .int .i64 (((oneL g.k).getD (2 * bitF n row g.a + bitF n col g.a).toNat dZ).num.b), .int .i64 (((oneL g.k).getD (2 * bitF n row g.a + bitF n col g.a).toNat dZ).num.c), .int .i64 (((oneL g.k).getD (2 * bitF n row g.a + bitF n col g.a).toNat dZ).num.d), .int .i64 (((oneL g.k).getD (2 * bitF n row g.a + bitF n col g.a).toNat dZ).exp)]) hf rfl tN_189 hat66 rfl) ?_; intro a hf
      refine s_one 17 (by kernel_rfl) ?_
      refine p_eff0 rfl hf trivial rfl (Ef.mono (ef_store (vs := [.int .i64 (((oneL g.k).getD (2 * bitF n row g.a + bitF n col g.a).toNat dZ).num.a), .int .i64 (((oneL g.k).getD (2 * bitF n row g.a + bitF n col g.a).toNat dZ).num.b), .int .i64 (((oneL g.k).getD (2 * bitF n row g.a + bitF n col g.a).toNat dZ).num.c), .int .i64 (((oneL g.k).getD (2 * bitF n row g.a + bitF n col g.a).toNat dZ).num.d), .int .i64 (((oneL g.k).getD (2 * bitF n row g.a + bitF n col g.a).toNat dZ).exp)]) (l' := [.int .i64 (((oneL g.k).getD (2 * bitF n row g.a + bitF n col g.a).toNat dZ).num.a), .int .i64 (((oneL g.k).getD (2 * bitF n row g.a + bitF n col g.a).toNat dZ).num.b), .int .i64 (((oneL g.k).getD (2 * bitF n row g.a + bitF n col g.a).toNat dZ).num.c), .int .i64 (((oneL g.k).getD (2 * bitF n row g.a + bitF n col g.a).toNat dZ).num.d), .int .i64 (((oneL g.k).getD (2 * bitF n row g.a + bitF n col g.a).toNat dZ).exp)]) hf rfl rfl sz_189 hB3 rfl rfl rfl rfl rfl) (fun _ _ h => ⟨fun h0 => absurd h0 (by decide), h⟩)) ?_; rintro a _ w30 ⟨ho, hb⟩ hf
      have hold := hB3
      replace hB2 := hB2.only ho (Blk.ne hB2 hold rfl)
      replace hB5 := hB5.only ho (by omega)
      replace hB6 := hB6.only ho (by omega)
      replace ho65 := ho65.onlyA ho haw65_3
      replace hW := Below.only hW ho hlo3
      clear hold
      have hB3 := hb
      clear hb ho
      refine s_done (by kernel_rfl) ?_
      refine hK64 _ _ ?_; try clear hK64 K64
      refine wp_ret ?_
      refine x_retB ?_
      refine x_retS ?_
      refine c_ret hf (res1 hf rfl (ResV.cellN (l := [.int .i64 (((oneL g.k).getD (2 * bitF n row g.a + bitF n col g.a).toNat dZ).num.a), .int .i64 (((oneL g.k).getD (2 * bitF n row g.a + bitF n col g.a).toNat dZ).num.b), .int .i64 (((oneL g.k).getD (2 * bitF n row g.a + bitF n col g.a).toNat dZ).num.c), .int .i64 (((oneL g.k).getD (2 * bitF n row g.a + bitF n col g.a).toNat dZ).num.d), .int .i64 (((oneL g.k).getD (2 * bitF n row g.a + bitF n col g.a).toNat dZ).exp)]) rfl tN_189 (hB3.at 0) rfl)) ?_
      exact ⟨(by rw [hfin]; try rfl), hW⟩
end Go.Proofs.YtfgnmflfiobkmaaGreat
set_option maxRecDepth 4000
namespace Go.Proofs.YtfgnmflfiobkmaaGreat
open Go.RowKit
theorem F143 (w0 : World) (n : Int) (g : Gt) (hg : gOk n g = true) : Ret Tryz.prog 143 [.int .i64 n, .agg #[.int .i64 g.k, .int .i64 g.a, .int .i64 g.b]] w0 (fun v w => ∃ A c, v = mV A c (gateS n g) ∧ Own w w0.heap.size 189 5 encD A c (gateS n g).cells ∧ Below w0.heap.size w0 w) := by
 have hg2 := gOk_spec hg
 obtain ⟨d, hd⟩ : ∃ d : Nat, d = 2 ^ n.toNat := ⟨_, rfl⟩
 have hd32 : d ≤ 32 := by rw [hd]; exact pow_le32 hg2.1.2
 refine enter Tryz.func143 rfl 36 rfl rfl ?_
 intro a hf
 have hW : Below w0.heap.size w0 w0 := Below.refl _ _
 refine wp_seq_k ?_; intro K1 hK1
 refine wp_region_lit ?_
 refine l_eff hf trivial rfl rfl (ef_box (zs := [.int .i64 g.k, .int .i64 g.a, .int .i64 g.b]) hf rfl rfl) ?_; rintro a _ w1 ⟨b2, rfl, hl2, hE, hB2⟩ hf
 have hlo2 := Nat.le_trans hW.size hl2
 replace hW := hW.trans (hE.mono hW.size)
 clear hE
 refine l_eff hf trivial rfl rfl (ef_alloc (zs := [.int .i64 0, .int .i64 0, .slice none 0 0]) z_141 rfl) ?_; rintro a _ w2 ⟨b4, rfl, hl4, hE, hB4⟩ hf
 have hlo4 := Nat.le_trans hW.size hl4
 replace hB2 := hB2.below hE
 replace hW := hW.trans (hE.mono hW.size)
 clear hE
 refine wpList_nil ?_
 refine hK1 _ _ ?_; try clear hK1 K1
 refine wp_seq_k ?_; intro K5 hK5
 refine wp_region_lit ?_
 refine l_ev hf trivial rfl rfl (ev_move hf rfl) ?_; intro a hf
 refine l_ev hf trivial rfl rfl (ev_toU (m := n.toNat) Tryz.underlying3 Tryz.underlying181 hf rfl (by omega) (by omega)) ?_; intro a hf
 refine l_ev hf trivial rfl rfl (ev_shl1 (m := n.toNat) (D := d) hf rfl rfl rfl ⟨hd, by omega⟩) ?_; intro a hf
 refine l_ev hf trivial rfl rfl (ev_assign hf rfl) ?_; intro a hf
 refine wpList_nil ?_
 refine hK5 _ _ ?_; try clear hK5 K5
 refine wp_seq_k ?_; intro K6 hK6
 refine wp_region_lit ?_
 refine l_ev hf trivial rfl rfl (ev_move hf rfl) ?_; intro a hf
 refine l_ev hf trivial rfl rfl (ev_move hf rfl) ?_; intro a hf
 refine l_ev hf trivial rfl rfl (ev_build (ps := [(0, .int .i64 (d : Int)), (1, .int .i64 (d : Int))]) (cs := [.int .i64 (d : Int), .int .i64 (d : Int), .slice none 0 0]) hf rfl (fun _ => by first | rfl | kernel_rfl)) ?_; intro a hf
 refine l_eff hf trivial rfl rfl (ef_alloc (zs := [.int .i64 0, .int .i64 0, .slice none 0 0]) z_141 rfl) ?_; rintro a _ w3 ⟨b9, rfl, hl9, hE, hB9⟩ hf
 have hne4_9 : b4 ≠ b9 := by have := hB4.lt; omega
 have hlo9 := Nat.le_trans hW.size hl9
 replace hB2 := hB2.below hE
 replace hB4 := hB4.below hE
 replace hW := hW.trans (hE.mono hW.size)
 clear hE
 refine l_eff0 hf trivial rfl (ef_store (vs := [.int .i64 (d : Int), .int .i64 (d : Int), .slice none 0 0]) (l' := [.int .i64 (d : Int), .int .i64 (d : Int), .slice none 0 0]) hf rfl rfl sz_141 hB9 rfl rfl rfl rfl rfl) ?_; rintro a _ w4 ⟨ho, hb⟩ hf
 have hold := hB9
 replace hB2 := hB2.only ho (Blk.ne hB2 hold rfl)
 replace hB4 := hB4.only ho (by omega)
 replace hW := Below.only hW ho hlo9
 clear hold
 have hB9 := hb
 clear hb ho
 refine wpList_nil ?_
 refine hK6 _ _ ?_; try clear hK6 K6
 refine wp_seq_k ?_; intro K10 hK10
 refine wp_seq_k ?_; intro K11 hK11
 refine wp_region_lit ?_
 refine l_ev hf trivial rfl rfl (ev_assign hf rfl) ?_; intro a hf
 refine wpList_nil ?_
 refine hK11 _ _ ?_; try clear hK11 K11
 refine wp_block ?_
 refine c_loop (σ := Nat × (List Dy)) (fun (s : Nat × (List Dy)) (a : Act) (w : World) => match s with | (i, l) => ∃ A12 c12, Fr a 36 [(0, .int .i64 n), (3, .pointer (some ⟨b2, 0, none⟩)), (4, .pointer (some ⟨b4, 0, none⟩)), (5, .int .i64 (d : Int)), (6, .pointer (some ⟨b9, 0, none⟩)), (7, .int .i64 (i : Int))] ∧ (i ≤ d) ∧ (gridL (fun i j => cellS n g (i : Int) (j : Int)) d (i * d) = l) ∧ Blk w b2 107 [.int .i64 g.k, .int .i64 g.a, .int .i64 g.b] ∧ Blk w b4 141 [.int .i64 0, .int .i64 0, .slice none 0 0] ∧ Blk w b9 141 [.int .i64 (d : Int), .int .i64 (d : Int), .slice A12 l.length c12] ∧ Own w w0.heap.size 189 5 encD A12 c12 l ∧ Below w0.heap.size w0 w) (fun (s : Nat × (List Dy)) => match s with | (i, l) => d - i) (0, []) ?_ ?_
 · exact ⟨none, 0, hf.sub ⟨rfl, rfl, rfl, rfl, rfl, rfl, trivial⟩, (Nat.zero_le _), (by rw [Nat.zero_mul]; rfl), hB2, hB4, hB9, (Own.nil _ _ _ _ _), hW⟩
 rintro ⟨i, l⟩ a w5 ⟨A12, c12, hf, hiR, hl, hB2, hB4, hB9, ho12, hW⟩
 refine wp_seq_k ?_; intro K13 hK13
 refine wp_seq_k ?_; intro K14 hK14
 refine wp_region_lit ?_
 refine l_ev hf trivial rfl rfl (ev_move hf rfl) ?_; intro a hf
 refine l_ev hf trivial rfl rfl (ev_move hf rfl) ?_; intro a hf
 refine l_ev hf trivial rfl rfl (ev_lss hf rfl rfl) ?_; intro a hf
 refine wpList_nil ?_
 refine hK14 _ _ ?_; try clear hK14 K14
 refine c_if hf rfl (fun hc15 => ?_) (fun hc15 => ?_)
 ·have hc15b := hc15
  have hc15 := of_decide_eq_true hc15
  have hi1 : i < d := by have := hc15; omega
  have hb1 : i * d ≤ 1024 := Nat.le_trans (Nat.mul_le_mul (show i ≤ 32 by omega) hd32) (by decide)
  refine wp_skip ?_
  refine hK13 _ _ ?_; try clear hK13 K13
  refine wp_seq_k ?_; intro K16 hK16
  refine wp_block ?_
  refine wp_seq_k ?_; intro K17 hK17
  refine wp_region_lit ?_
  refine l_ev hf trivial rfl rfl (ev_assign hf rfl) ?_; intro a hf
  refine wpList_nil ?_
  refine hK17 _ _ ?_; try clear hK17 K17
  refine wp_block ?_
  refine c_loop (σ := Nat × (List Dy)) (fun (s : Nat × (List Dy)) (a : Act) (w : World) => match s with | (j, l2) => ∃ A18 c18, Fr a 36 [(0, .int .i64 n), (3, .pointer (some ⟨b2, 0, none⟩)), (4, .pointer (some ⟨b4, 0, none⟩)), (5, .int .i64 (d : Int)), (6, .pointer (some ⟨b9, 0, none⟩)), (7, .int .i64 (i : Int)), (8, .int .i64 (j : Int))] ∧ (j ≤ d) ∧ (gridL (fun i j => cellS n g (i : Int) (j : Int)) d (i * d + j) = l2) ∧ Blk w b2 107 [.int .i64 g.k, .int .i64 g.a, .int .i64 g.b] ∧ Blk w b4 141 [.int .i64 0, .int .i64 0, .slice none 0 0] ∧ Blk w b9 141 [.int .i64 (d : Int), .int .i64 (d : Int), .slice A18 l2.length c18] ∧ Own w w0.heap.size 189 5 encD A18 c18 l2 ∧ Below w0.heap.size w0 w) (fun (s : Nat × (List Dy)) => match s with | (j, l2) => d - j) (0, l) ?_ ?_
  · exact ⟨A12, c12, hf.sub ⟨rfl, rfl, rfl, rfl, rfl, rfl, rfl, trivial⟩, (Nat.zero_le _), hl, hB2, hB4, hB9, ho12, hW⟩
  rintro ⟨j, l2⟩ a w6 ⟨A18, c18, hf, hjC, hl2, hB2, hB4, hB9, ho18, hW⟩
  refine wp_seq_k ?_; intro K19 hK19
  refine wp_seq_k ?_; intro K20 hK20
  refine wp_region_lit ?_
  refine l_ev hf trivial rfl rfl (ev_move hf rfl) ?_; intro a hf
  refine l_ev hf trivial rfl rfl (ev_move hf rfl) ?_; intro a hf
  refine l_ev hf trivial rfl rfl (ev_lss hf rfl rfl) ?_; intro a hf
  refine wpList_nil ?_
  refine hK20 _ _ ?_; try clear hK20 K20
  refine c_if hf rfl (fun hc21 => ?_) (fun hc21 => ?_)
  ·have hc21b := hc21
   have hc21 := of_decide_eq_true hc21
   have hj1 : j < d := by have := hc21; omega
   have hlen : l2.length = i * d + j := by rw [← hl2, gridL_len]
   refine wp_skip ?_
   refine hK19 _ _ ?_; try clear hK19 K19
   refine wp_seq_k ?_; intro K22 hK22
   refine wp_block ?_
   refine wp_draw none (fun j => [8, 10].contains j) mixed ?_
   intro w7 hE
   replace hB2 := hB2.below hE
   replace hB4 := hB4.below hE
   replace hB9 := hB9.below hE
   replace ho18 := ho18.below hE
   replace hW := hW.trans (hE.mono hW.size)
   clear hE
   refine s_ev0 0 rfl (by kernel_rfl) hf trivial rfl rfl (fun _ => ev_fieldB hf rfl fd_141_2 (m := 2) rfl) ?_; intro a hf
   refine s_ev 1 rfl (by kernel_rfl) (by kernel_rfl) hf trivial rfl rfl (ev_load1 hf rfl t1_139 (hB9.at 2)) ?_; intro a hf
   refine s_ev0 2 rfl (by kernel_rfl) hf trivial rfl rfl (fun _ => ev_move hf rfl) ?_; intro a hf
   refine s_ev 3 rfl (by kernel_rfl) (by kernel_rfl) hf trivial rfl rfl (ev_loadN (l := [.int .i64 g.k, .int .i64 g.a, .int .i64 g.b]) hf rfl tN_107 (hB2.at 0) rfl) ?_; intro a hf
   refine s_ev0 4 rfl (by kernel_rfl) hf trivial rfl rfl (fun _ => ev_move hf rfl) ?_; intro a hf
   refine s_ev0 5 rfl (by kernel_rfl) hf trivial rfl rfl (fun _ => ev_move hf rfl) ?_; intro a hf
   refine s_one 6 (by kernel_rfl) ?_
   refine p_eff rfl hf trivial rfl rfl (Ef.mono (ef_call (vs := [.int .i64 n, .agg #[.int .i64 g.k, .int .i64 g.a, .int .i64 g.b], .int .i64 (i : Int), .int .i64 (j : Int)]) hf rfl ff_199 (F199 _ n g (i : Int) (j : Int) hg)) (fun _ _ h => ⟨fun _ => by obtain ⟨rfl, hE⟩ := h; exact hE, h⟩)) ?_; rintro a _ w8 ⟨rfl, hE⟩ hf
   replace hB2 := hB2.below hE
   replace hB4 := hB4.below hE
   replace hB9 := hB9.below hE
   replace ho18 := ho18.below hE
   replace hW := hW.trans (hE.mono hW.size)
   clear hE
   refine s_one 7 (by kernel_rfl) ?_
   refine p_eff rfl hf trivial rfl rfl (Ef.mono (ef_buildSlice (k := 1) (vs := [.agg #[.int .i64 ((cellS n g (i : Int) (j : Int)).num.a), .int .i64 ((cellS n g (i : Int) (j : Int)).num.b), .int .i64 ((cellS n g (i : Int) (j : Int)).num.c), .int .i64 ((cellS n g (i : Int) (j : Int)).num.d), .int .i64 ((cellS n g (i : Int) (j : Int)).exp)]]) (zs := [.int .i64 ((cellS n g (i : Int) (j : Int)).num.a), .int .i64 ((cellS n g (i : Int) (j : Int)).num.b), .int .i64 ((cellS n g (i : Int) (j : Int)).num.c), .int .i64 ((cellS n g (i : Int) (j : Int)).num.d), .int .i64 ((cellS n g (i : Int) (j : Int)).exp)]) hf rfl sl_139 inf_189 rfl rfl) (fun _ _ h => ⟨fun _ => by obtain ⟨_, _, _, hE, _⟩ := h; exact hE, h⟩)) ?_; rintro a _ w9 ⟨b23, rfl, hl23, hE, hB23⟩ hf
   have hlo23 := Nat.le_trans hW.size hl23
   have haw18_23 := ho18.away hl23
   replace hB2 := hB2.below hE
   replace hB4 := hB4.below hE
   replace hB9 := hB9.below hE
   replace ho18 := ho18.below hE
   replace hW := hW.trans (hE.mono hW.size)
   clear hE
   refine s_one 8 (by kernel_rfl) ?_
   refine p_eff rfl hf trivial rfl rfl (Ef.mono (ef_append (enc := encD) (l := (l2)) (l2 := ([(cellS n g (i : Int) (j : Int))])) (B0 := w0.heap.size) hf rfl rfl sl_139 inf_189 encD_len encD_one ho18 (Rd.of_blk hB23 rfl _ hB23.lt) (by simp only [maxLen]; simp; omega) (by simp; omega) hW.size) (fun _ _ h => ⟨fun h0 => absurd h0 (by decide), h⟩)) ?_; rintro a _ w10 ⟨A25, c25, rfl, ho25, hg, hat⟩ hf
   have hown : Own _ w0.heap.size 189 5 encD _ _ (l2) := ho18
   have haw25_23 := hat _ hB23.lt haw18_23
   clear hat
   replace hB2 := hB2.appT hown hg rfl
   replace hB4 := hB4.appT hown hg rfl
   replace hB9 := hB9.appT hown hg rfl
   replace hW := Below.app hW hown hg (Nat.le_refl _) hW.size
   clear hown hg
   refine s_ev0 9 rfl (by kernel_rfl) hf trivial rfl rfl (fun _ => ev_fieldB hf rfl fd_141_2 (m := 2) rfl) ?_; intro a hf
   refine s_one 10 (by kernel_rfl) ?_
   refine p_eff0 rfl hf trivial rfl (Ef.mono (ef_store (vs := [.slice A25 (l2 ++ ([(cellS n g (i : Int) (j : Int))])).length c25]) (l' := [.int .i64 (d : Int), .int .i64 (d : Int), .slice A25 (l2 ++ ([(cellS n g (i : Int) (j : Int))])).length c25]) hf rfl rfl sz_139 hB9 rfl rfl rfl rfl rfl) (fun _ _ h => ⟨fun h0 => absurd h0 (by decide), h⟩)) ?_; rintro a _ w11 ⟨ho, hb⟩ hf
   have hold := hB9
   replace hB2 := hB2.only ho (Blk.ne hB2 hold rfl)
   replace hB4 := hB4.only ho (by omega)
   replace ho25 := ho25.onlyT ho hold rfl
   replace hW := Below.only hW ho hlo9
   clear hold
   have hB9 := hb
   clear hb ho
   refine s_done (by kernel_rfl) ?_
   refine x_norm ?_
   refine hK22 _ _ ?_; try clear hK22 K22
   refine wp_region_lit ?_
   refine l_ev hf trivial rfl rfl (ev_move hf rfl) ?_; intro a hf
   refine l_ev hf trivial rfl rfl (ev_addx hf rfl rfl (by omega) (by omega)) ?_; intro a hf
   refine l_ev hf trivial rfl rfl (ev_assign hf rfl) ?_; intro a hf
   refine wpList_nil ?_
   refine x_thenN ?_
   exact ⟨(j + 1, l2 ++ [(cellS n g (i : Int) (j : Int))]), ⟨A25, c25, hf.sub ⟨rfl, rfl, rfl, rfl, rfl, rfl, rfl, trivial⟩, (by omega), (by rw [gridL_step hj1, hl2]), hB2, hB4, hB9, ho25, hW⟩, (by first | omega | (dsimp only; omega))⟩
  ·have hc21b := hc21
   have hc21 := of_decide_eq_false hc21
   have hj1 : j = d := by have := hc21; omega
   refine wp_exit ?_
   refine x_exS ?_
   refine x_exS ?_
   refine x_exit ?_
   refine x_norm ?_
   refine hK16 _ _ ?_; try clear hK16 K16
   refine wp_region_lit ?_
   refine l_ev hf trivial rfl rfl (ev_move hf rfl) ?_; intro a hf
   refine l_ev hf trivial rfl rfl (ev_addx hf rfl rfl (by omega) (by omega)) ?_; intro a hf
   refine l_ev hf trivial rfl rfl (ev_assign hf rfl) ?_; intro a hf
   refine wpList_nil ?_
   refine x_thenN ?_
   exact ⟨(i + 1, l2), ⟨A18, c18, hf.sub ⟨rfl, rfl, rfl, rfl, rfl, rfl, trivial⟩, (by omega), (by rw [Nat.add_mul, Nat.one_mul, ← hl2, hj1]), hB2, hB4, hB9, ho18, hW⟩, (by first | omega | (dsimp only; omega))⟩
 ·have hc15b := hc15
  have hc15 := of_decide_eq_false hc15
  have hi1 : i = d := by have := hc15; omega
  refine wp_exit ?_
  refine x_exS ?_
  refine x_exS ?_
  refine x_exit ?_
  refine hK10 _ _ ?_; try clear hK10 K10
  refine wp_seq_k ?_; intro K26 hK26
  refine wp_region_lit ?_
  refine l_ev hf trivial rfl rfl (ev_loadN (l := [.int .i64 (d : Int), .int .i64 (d : Int), .slice A12 l.length c12]) hf rfl tN_141 (hB9.at 0) rfl) ?_; intro a hf
  refine l_eff0 hf trivial rfl (ef_store (vs := [.int .i64 (d : Int), .int .i64 (d : Int), .slice A12 l.length c12]) (l' := [.int .i64 (d : Int), .int .i64 (d : Int), .slice A12 l.length c12]) hf rfl rfl sz_141 hB4 rfl rfl rfl rfl rfl) ?_; rintro a _ w12 ⟨ho, hb⟩ hf
  have hold := hB4
  replace hB2 := hB2.only ho (Blk.ne hB2 hold rfl)
  replace hB9 := hB9.only ho (by omega)
  replace ho12 := ho12.onlyT ho hold rfl
  replace hW := Below.only hW ho hlo4
  clear hold
  have hB4 := hb
  clear hb ho
  refine wpList_nil ?_
  refine hK26 _ _ ?_; try clear hK26 K26
  refine wp_ret ?_
  refine c_ret hf (res1 hf rfl (ResV.cellN (l := [.int .i64 (d : Int), .int .i64 (d : Int), .slice A12 l.length c12]) rfl tN_141 (hB4.at 0) rfl)) ?_
  have hfin : gateS n g = ⟨(d : Int), (d : Int), l⟩ := by rw [gateS, ← hl, hi1, hd]
  rw [hfin]
  exact ⟨A12, c12, rfl, ho12, hW⟩
end Go.Proofs.YtfgnmflfiobkmaaGreat
