/-
  What is proved: for every circuit, the program's ScheduleOf answers as the reference's does, leaves its argument as it was, and returns memory of its own. Conditions: none.
-/
import Derived.Test.YtfgnmflfiobkmaaGreatS2
import Derived.Test.YtfgnmflfiobkmaaGreatS1
import Derived.MapKept
import Derived.Shelf.Sort.Plain
import Derived.Shelf.Slices.Turned
import Derived.Ground.Names2Prog
import Derived.Shelf.Slices.Clone
import Derived.Shelf.Slices.CompactI
import Derived.Shelf.Slices.Cells
import Derived.Test.YtfgnmflfiobkmaaGreatProg
import Derived.Shelf.Spec.SlicesGrow
import Derived.Laws.MakeOwn
import Derived.Laws.Slices
import Derived.Shelf.Slices.In.SortNone
set_option linter.unusedVariables false
set_option linter.unusedSimpArgs false
set_option maxRecDepth 4000
namespace Go.Proofs.YtfgnmflfiobkmaaGreat
open Go.RowKit
theorem F219 (w0 : World) (n : Int) (s : Int) (q : Int) (h0 : 0 ≤ q) (h1 : q < n) (h2 : n ≤ 5) : Ret Tryz.prog 219 [.int .i64 n, .int .i64 s, .int .i64 q] w0 (fun v w => v = .int .i64 (bitF n s q) ∧ w0 = w) := by
 refine enter Tryz.func219 rfl 14 rfl rfl ?_
 intro a hf
 have hW : Below w0.heap.size w0 w0 := Below.refl _ _
 refine wp_seq_k ?_; intro K1 hK1
 refine wp_region_lit ?_
 refine l_as hf rfl rfl ?_; intro a hf
 refine wpList_nil ?_
 refine hK1 _ _ ?_; try clear hK1 K1
 refine wp_seq_k ?_; intro K2 hK2
 refine wp_region_lit ?_
 refine l_mv hf rfl rfl ?_; intro a hf
 refine l_mv hf rfl rfl ?_; intro a hf
 refine l_e hf rfl (ev_subx hf rfl rfl (by omega) (by omega)) ?_; intro a hf
 refine l_mv hf rfl rfl ?_; intro a hf
 refine l_e hf rfl (ev_subx hf rfl rfl (by omega) (by omega)) ?_; intro a hf
 refine l_e hf rfl (ev_shr (m := (n - 1 - q).toNat) hf rfl rfl (by omega) (by omega)) ?_; intro a hf
 refine l_e hf rfl (ev_and hf rfl rfl) ?_; intro a hf
 refine l_as hf rfl rfl ?_; intro a hf
 refine wpList_nil ?_
 refine hK2 _ _ ?_; try clear hK2 K2
 refine wp_ret ?_
 refine c_ret hf (res1 hf rfl rfl) ?_
 exact ⟨rfl, rfl⟩
theorem F220 (w0 : World) (n : Int) (s : Int) (q : Int) (h0 : 0 ≤ q) (h1 : q < n) (h2 : n ≤ 5) : Ret Tryz.prog 220 [.int .i64 n, .int .i64 s, .int .i64 q] w0 (fun v w => v = .int .i64 (flipF n s q) ∧ w0 = w) := by
 refine enter Tryz.func220 rfl 14 rfl rfl ?_
 intro a hf
 have hW : Below w0.heap.size w0 w0 := Below.refl _ _
 refine wp_seq_k ?_; intro K1 hK1
 refine wp_region_lit ?_
 refine l_as hf rfl rfl ?_; intro a hf
 refine wpList_nil ?_
 refine hK1 _ _ ?_; try clear hK1 K1
 refine wp_seq_k ?_; intro K2 hK2
 refine wp_region_lit ?_
 refine l_mv hf rfl rfl ?_; intro a hf
 refine l_mv hf rfl rfl ?_; intro a hf
 refine l_e hf rfl (ev_subx hf rfl rfl (by omega) (by omega)) ?_; intro a hf
 refine l_mv hf rfl rfl ?_; intro a hf
 refine l_e hf rfl (ev_subx hf rfl rfl (by omega) (by omega)) ?_; intro a hf
 refine l_e hf rfl (ev_shl (m := (n - 1 - q).toNat) hf rfl rfl (by omega) (by omega)) ?_; intro a hf
 refine l_e hf rfl (ev_xor hf rfl rfl) ?_; intro a hf
 refine l_as hf rfl rfl ?_; intro a hf
 refine wpList_nil ?_
 refine hK2 _ _ ?_; try clear hK2 K2
 refine wp_ret ?_
 refine c_ret hf (res1 hf rfl rfl) ?_
 exact ⟨rfl, rfl⟩
theorem F229 (w0 : World) (n : Int) (s : Int) (q : Int) (h0 : 0 ≤ q) (h1 : q < n) (h2 : n ≤ 5) : Ret Tryz.prog 229 [.int .i64 n, .int .i64 s, .int .i64 q] w0 (fun v w => v = .int .i64 (bitF n s q) ∧ w0 = w) := by
 refine enter Tryz.func229 rfl 15 rfl rfl ?_
 intro a hf
 have hW : Below w0.heap.size w0 w0 := Below.refl _ _
 refine wp_seq_k ?_; intro K1 hK1
 refine wp_region_lit ?_
 refine l_as hf rfl rfl ?_; intro a hf
 refine wpList_nil ?_
 refine hK1 _ _ ?_; try clear hK1 K1
 refine wp_seq_k ?_; intro K2 hK2
 refine wp_region_lit ?_
 refine l_mv hf rfl rfl ?_; intro a hf
 refine l_mv hf rfl rfl ?_; intro a hf
 refine l_e hf rfl (ev_subx hf rfl rfl (by omega) (by omega)) ?_; intro a hf
 refine l_mv hf rfl rfl ?_; intro a hf
 refine l_e hf rfl (ev_subx hf rfl rfl (by omega) (by omega)) ?_; intro a hf
 refine l_e hf rfl (ev_toU (m := (n - 1 - q).toNat) Tryz.underlying3 Tryz.underlying181 hf rfl (by omega) (by omega)) ?_; intro a hf
 refine l_e hf rfl (ev_shr (m := (n - 1 - q).toNat) hf rfl rfl rfl (by omega)) ?_; intro a hf
 refine l_e hf rfl (ev_and hf rfl rfl) ?_; intro a hf
 refine l_as hf rfl rfl ?_; intro a hf
 refine wpList_nil ?_
 refine hK2 _ _ ?_; try clear hK2 K2
 refine wp_ret ?_
 refine c_ret hf (res1 hf rfl rfl) ?_
 exact ⟨rfl, rfl⟩
theorem F230 (w0 : World) (k : Int) (hk : 1 ≤ k ∧ k ≤ 8) : Ret Tryz.prog 230 [.int .i64 k] w0 (fun v w => ∃ A c, v = .slice A (oneL k).length c ∧ Own w w0.heap.size 189 5 encD A c (oneL k) ∧ Below w0.heap.size w0 w) := by
 refine enter Tryz.func230 rfl 43 rfl rfl ?_
 intro a hf
 have hW : Below w0.heap.size w0 w0 := Below.refl _ _
 refine wp_seq_k ?_; intro K1 hK1
 refine wp_region_lit ?_
 refine l_as hf rfl rfl ?_; intro a hf
 refine wpList_nil ?_
 refine hK1 _ _ ?_; try clear hK1 K1
 refine wp_seq_k ?_; intro K3 hK3
 refine wp_region_lit ?_
 refine l_f hf rfl (ef_call (vs := [.int .i64 0]) hf rfl ff_209 (F209 _ 0)) ?_; rintro a _ w1 ⟨rfl, hE⟩ hf
 replace hW := btr hW hE
 clear hE
 refine l_e hf rfl (ev_build (ps := []) (cs := [.int .i64 0, .int .i64 0, .int .i64 0, .int .i64 0, .int .i64 0]) hf rfl (fun _ => by first | rfl | kernel_rfl)) ?_; intro a hf
 refine l_f hf rfl (ef_alloc (zs := [.int .i64 0, .int .i64 0, .int .i64 0, .int .i64 0, .int .i64 0]) z_189 rfl) ?_; rintro a _ w2 ⟨b4, rfl, hl4, hE, hB4⟩ hf
 have hlo4 := Nat.le_trans hW.size hl4
 replace hW := btr hW hE
 clear hE
 refine l_f hf rfl (ef_alloc (zs := [.int .i64 0, .int .i64 0, .int .i64 0, .int .i64 0, .int .i64 0]) z_189 rfl) ?_; rintro a _ w3 ⟨b5, rfl, hl5, hE, hB5⟩ hf
 have hne4_5 : b4 ≠ b5 := by have := hB4.lt; omega
 have hlo5 := Nat.le_trans hW.size hl5
 replace hB4 := hB4.below hE
 replace hW := btr hW hE
 clear hE
 refine l_f0 hf (ef_store (vs := [.int .i64 ((dPow 0).num.a), .int .i64 ((dPow 0).num.b), .int .i64 ((dPow 0).num.c), .int .i64 ((dPow 0).num.d), .int .i64 ((dPow 0).exp)]) (l' := [.int .i64 ((dPow 0).num.a), .int .i64 ((dPow 0).num.b), .int .i64 ((dPow 0).num.c), .int .i64 ((dPow 0).num.d), .int .i64 ((dPow 0).exp)]) hf rfl rfl sz_189 hB4 rfl rfl rfl rfl rfl) ?_; rintro a _ w4 ⟨ho, hb⟩ hf
 have hold := hB4
 replace hB5 := hB5.only ho (by omega)
 replace hW := Below.only hW ho hlo4
 clear hold
 have hB4 := hb
 clear hb ho
 refine l_f0 hf (ef_store (vs := [.int .i64 0, .int .i64 0, .int .i64 0, .int .i64 0, .int .i64 0]) (l' := [.int .i64 0, .int .i64 0, .int .i64 0, .int .i64 0, .int .i64 0]) hf rfl rfl sz_189 hB5 rfl rfl rfl rfl rfl) ?_; rintro a _ w5 ⟨ho, hb⟩ hf
 have hold := hB5
 replace hB4 := hB4.only ho (by omega)
 replace hW := Below.only hW ho hlo5
 clear hold
 have hB5 := hb
 clear hb ho
 refine wpList_nil ?_
 refine hK3 _ _ ?_; try clear hK3 K3
 refine wp_seq_k ?_; intro K6 hK6
 refine wp_region_lit ?_
 refine l_e hf rfl (ev_build (ps := [(0, .int .i64 1)]) (cs := [.int .i64 1, .int .i64 0, .int .i64 0, .int .i64 0]) hf rfl (fun _ => by first | rfl | kernel_rfl)) ?_; intro a hf
 refine l_e hf rfl (ev_build (ps := [(0, .agg #[.int .i64 1, .int .i64 0, .int .i64 0, .int .i64 0]), (1, .int .i64 1)]) (cs := [.int .i64 1, .int .i64 0, .int .i64 0, .int .i64 0, .int .i64 1]) hf rfl (fun _ => by first | rfl | kernel_rfl)) ?_; intro a hf
 refine l_f hf rfl (ef_alloc (zs := [.int .i64 0, .int .i64 0, .int .i64 0, .int .i64 0, .int .i64 0]) z_189 rfl) ?_; rintro a _ w6 ⟨b7, rfl, hl7, hE, hB7⟩ hf
 have hne4_7 : b4 ≠ b7 := by have := hB4.lt; omega
 have hne5_7 : b5 ≠ b7 := by have := hB5.lt; omega
 have hlo7 := Nat.le_trans hW.size hl7
 replace hB4 := hB4.below hE
 replace hB5 := hB5.below hE
 replace hW := btr hW hE
 clear hE
 refine l_f0 hf (ef_store (vs := [.int .i64 1, .int .i64 0, .int .i64 0, .int .i64 0, .int .i64 1]) (l' := [.int .i64 1, .int .i64 0, .int .i64 0, .int .i64 0, .int .i64 1]) hf rfl rfl sz_189 hB7 rfl rfl rfl rfl rfl) ?_; rintro a _ w7 ⟨ho, hb⟩ hf
 have hold := hB7
 replace hB4 := hB4.only ho (by omega)
 replace hB5 := hB5.only ho (by omega)
 replace hW := Below.only hW ho hlo7
 clear hold
 have hB7 := hb
 clear hb ho
 refine wpList_nil ?_
 refine hK6 _ _ ?_; try clear hK6 K6
 refine wp_seq_k ?_; intro K8 hK8
 refine wp_seq_k ?_; intro K9 hK9
 refine wp_region_lit ?_
 refine l_mv hf rfl rfl ?_; intro a hf
 refine wpList_nil ?_
 refine hK9 _ _ ?_; try clear hK9 K9
 refine wp_block ?_
 refine wp_seq_k ?_; intro K10 hK10
 refine wp_region_lit ?_
 refine l_e hf rfl (ev_eql hf rfl rfl) ?_; intro a hf
 refine l_as hf rfl rfl ?_; intro a hf
 refine wpList_nil ?_
 refine hK10 _ _ ?_; try clear hK10 K10
 refine c_if hf rfl (fun hc11 => ?_) (fun hc11 => ?_)
 ·have hc11b := hc11
  have e1 : k = 1 := by simpa using hc11
  refine wp_seq_k ?_; intro K12 hK12
  refine wp_draw none (fun _ => false) mixed ?_
  intro w8 hE
  replace hB4 := hB4.below hE
  replace hB5 := hB5.below hE
  replace hB7 := hB7.below hE
  replace hW := btr hW hE
  clear hE
  refine s_e 0 rfl (by kernel_rfl) (by kernel_rfl) hf rfl (ev_loadN (l := [.int .i64 1, .int .i64 0, .int .i64 0, .int .i64 0, .int .i64 1]) hf rfl tN_189 (hB7.at 0) rfl) ?_; intro a hf
  refine s_e 1 rfl (by kernel_rfl) (by kernel_rfl) hf rfl (ev_loadN (l := [.int .i64 1, .int .i64 0, .int .i64 0, .int .i64 0, .int .i64 1]) hf rfl tN_189 (hB7.at 0) rfl) ?_; intro a hf
  refine s_e 2 rfl (by kernel_rfl) (by kernel_rfl) hf rfl (ev_loadN (l := [.int .i64 1, .int .i64 0, .int .i64 0, .int .i64 0, .int .i64 1]) hf rfl tN_189 (hB7.at 0) rfl) ?_; intro a hf
  refine s_e 3 rfl (by kernel_rfl) (by kernel_rfl) hf rfl (ev_loadN (l := [.int .i64 1, .int .i64 0, .int .i64 0, .int .i64 0, .int .i64 1]) hf rfl tN_189 (hB7.at 0) rfl) ?_; intro a hf
  refine s_one 4 (by kernel_rfl) ?_
  refine p_eff rfl hf trivial rfl rfl (Ef.mono (ef_call (vs := [.agg #[.int .i64 1, .int .i64 0, .int .i64 0, .int .i64 0, .int .i64 1]]) hf rfl ff_244 (F244 _ (⟨(⟨1, 0, 0, 0⟩ : Rg), 1⟩ : Dy))) (fun _ _ h => ⟨fun _ => by obtain ⟨rfl, hE⟩ := h; exact hE, h⟩)) ?_; rintro a _ w9 ⟨rfl, hE⟩ hf
  replace hB4 := hB4.below hE
  replace hB5 := hB5.below hE
  replace hB7 := hB7.below hE
  replace hW := btr hW hE
  clear hE
  refine s_one 5 (by kernel_rfl) ?_
  refine p_eff rfl hf trivial rfl rfl (Ef.mono (ef_buildSlice (k := 4) (vs := [.agg #[.int .i64 1, .int .i64 0, .int .i64 0, .int .i64 0, .int .i64 1], .agg #[.int .i64 1, .int .i64 0, .int .i64 0, .int .i64 0, .int .i64 1], .agg #[.int .i64 1, .int .i64 0, .int .i64 0, .int .i64 0, .int .i64 1], .agg #[.int .i64 ((dNeg (⟨(⟨1, 0, 0, 0⟩ : Rg), 1⟩ : Dy)).num.a), .int .i64 ((dNeg (⟨(⟨1, 0, 0, 0⟩ : Rg), 1⟩ : Dy)).num.b), .int .i64 ((dNeg (⟨(⟨1, 0, 0, 0⟩ : Rg), 1⟩ : Dy)).num.c), .int .i64 ((dNeg (⟨(⟨1, 0, 0, 0⟩ : Rg), 1⟩ : Dy)).num.d), .int .i64 ((dNeg (⟨(⟨1, 0, 0, 0⟩ : Rg), 1⟩ : Dy)).exp)]]) (zs := [.int .i64 1, .int .i64 0, .int .i64 0, .int .i64 0, .int .i64 1, .int .i64 1, .int .i64 0, .int .i64 0, .int .i64 0, .int .i64 1, .int .i64 1, .int .i64 0, .int .i64 0, .int .i64 0, .int .i64 1, .int .i64 ((dNeg (⟨(⟨1, 0, 0, 0⟩ : Rg), 1⟩ : Dy)).num.a), .int .i64 ((dNeg (⟨(⟨1, 0, 0, 0⟩ : Rg), 1⟩ : Dy)).num.b), .int .i64 ((dNeg (⟨(⟨1, 0, 0, 0⟩ : Rg), 1⟩ : Dy)).num.c), .int .i64 ((dNeg (⟨(⟨1, 0, 0, 0⟩ : Rg), 1⟩ : Dy)).num.d), .int .i64 ((dNeg (⟨(⟨1, 0, 0, 0⟩ : Rg), 1⟩ : Dy)).exp)]) hf rfl sl_139 inf_189 rfl rfl) (fun _ _ h => ⟨fun _ => by obtain ⟨_, _, _, hE, _⟩ := h; exact hE, h⟩)) ?_; rintro a _ w10 ⟨b13, rfl, hl13, hE, hB13⟩ hf
  have hne4_13 : b4 ≠ b13 := by have := hB4.lt; omega
  have hne5_13 : b5 ≠ b13 := by have := hB5.lt; omega
  have hne7_13 : b7 ≠ b13 := by have := hB7.lt; omega
  have hlo13 := Nat.le_trans hW.size hl13
  replace hB4 := hB4.below hE
  replace hB5 := hB5.below hE
  replace hB7 := hB7.below hE
  replace hW := btr hW hE
  clear hE
  refine s_e0 6 rfl (by kernel_rfl) hf rfl (fun _ => ev_assign hf rfl) ?_; intro a hf
  refine s_done (by kernel_rfl) ?_
  refine hK12 _ _ ?_; try clear hK12 K12
  refine wp_ret ?_
  refine x_retB ?_
  refine x_retS ?_
  refine c_ret hf (res1 hf rfl rfl) ?_
  exact ⟨(some ⟨b13, 0, none⟩), 4, by rw [oneL, if_pos e1]; rfl, by rw [oneL, if_pos e1]; exact (Own.of_blkL encD_len hB13 hlo13 rfl rfl (by decide)), hW⟩
 have hc11b := hc11
 have e1 : ¬ k = 1 := by simpa using hc11
 refine wp_seq_k ?_; intro K15 hK15
 refine wp_region_lit ?_
 refine l_e hf rfl (ev_eql hf rfl rfl) ?_; intro a hf
 refine l_as hf rfl rfl ?_; intro a hf
 refine wpList_nil ?_
 refine hK15 _ _ ?_; try clear hK15 K15
 refine c_if hf rfl (fun hc16 => ?_) (fun hc16 => ?_)
 ·have hc16b := hc16
  have e2 : k = 2 := by simpa using hc16
  refine wp_seq_k ?_; intro K17 hK17
  refine wp_region_lit ?_
  refine l_e hf rfl (ev_loadN (l := [.int .i64 0, .int .i64 0, .int .i64 0, .int .i64 0, .int .i64 0]) hf rfl tN_189 (hB5.at 0) rfl) ?_; intro a hf
  refine l_e hf rfl (ev_loadN (l := [.int .i64 ((dPow 0).num.a), .int .i64 ((dPow 0).num.b), .int .i64 ((dPow 0).num.c), .int .i64 ((dPow 0).num.d), .int .i64 ((dPow 0).exp)]) hf rfl tN_189 (hB4.at 0) rfl) ?_; intro a hf
  refine l_e hf rfl (ev_loadN (l := [.int .i64 ((dPow 0).num.a), .int .i64 ((dPow 0).num.b), .int .i64 ((dPow 0).num.c), .int .i64 ((dPow 0).num.d), .int .i64 ((dPow 0).exp)]) hf rfl tN_189 (hB4.at 0) rfl) ?_; intro a hf
  refine l_e hf rfl (ev_loadN (l := [.int .i64 0, .int .i64 0, .int .i64 0, .int .i64 0, .int .i64 0]) hf rfl tN_189 (hB5.at 0) rfl) ?_; intro a hf
  refine l_f hf rfl (ef_buildSlice (k := 4) (vs := [.agg #[.int .i64 0, .int .i64 0, .int .i64 0, .int .i64 0, .int .i64 0], .agg #[.int .i64 ((dPow 0).num.a), .int .i64 ((dPow 0).num.b), .int .i64 ((dPow 0).num.c), .int .i64 ((dPow 0).num.d), .int .i64 ((dPow 0).exp)], .agg #[.int .i64 ((dPow 0).num.a), .int .i64 ((dPow 0).num.b), .int .i64 ((dPow 0).num.c), .int .i64 ((dPow 0).num.d), .int .i64 ((dPow 0).exp)], .agg #[.int .i64 0, .int .i64 0, .int .i64 0, .int .i64 0, .int .i64 0]]) (zs := [.int .i64 0, .int .i64 0, .int .i64 0, .int .i64 0, .int .i64 0, .int .i64 ((dPow 0).num.a), .int .i64 ((dPow 0).num.b), .int .i64 ((dPow 0).num.c), .int .i64 ((dPow 0).num.d), .int .i64 ((dPow 0).exp), .int .i64 ((dPow 0).num.a), .int .i64 ((dPow 0).num.b), .int .i64 ((dPow 0).num.c), .int .i64 ((dPow 0).num.d), .int .i64 ((dPow 0).exp), .int .i64 0, .int .i64 0, .int .i64 0, .int .i64 0, .int .i64 0]) hf rfl sl_139 inf_189 rfl rfl) ?_; rintro a _ w11 ⟨b18, rfl, hl18, hE, hB18⟩ hf
  have hne4_18 : b4 ≠ b18 := by have := hB4.lt; omega
  have hne5_18 : b5 ≠ b18 := by have := hB5.lt; omega
  have hlo18 := Nat.le_trans hW.size hl18
  replace hB4 := hB4.below hE
  replace hB5 := hB5.below hE
  replace hW := btr hW hE
  clear hE
  refine l_as hf rfl rfl ?_; intro a hf
  refine wpList_nil ?_
  refine hK17 _ _ ?_; try clear hK17 K17
  refine wp_ret ?_
  refine x_retB ?_
  refine x_retS ?_
  refine c_ret hf (res1 hf rfl rfl) ?_
  exact ⟨(some ⟨b18, 0, none⟩), 4, by rw [oneL, if_neg e1, if_pos e2]; rfl, by rw [oneL, if_neg e1, if_pos e2]; exact (Own.of_blkL encD_len hB18 hlo18 rfl rfl (by decide)), hW⟩
 have hc16b := hc16
 have e2 : ¬ k = 2 := by simpa using hc16
 refine wp_seq_k ?_; intro K20 hK20
 refine wp_region_lit ?_
 refine l_e hf rfl (ev_eql hf rfl rfl) ?_; intro a hf
 refine l_as hf rfl rfl ?_; intro a hf
 refine wpList_nil ?_
 refine hK20 _ _ ?_; try clear hK20 K20
 refine c_if hf rfl (fun hc21 => ?_) (fun hc21 => ?_)
 ·have hc21b := hc21
  have e3 : k = 3 := by simpa using hc21
  refine wp_seq_k ?_; intro K22 hK22
  refine wp_draw none (fun _ => false) mixed ?_
  intro w12 hE
  replace hB4 := hB4.below hE
  replace hB5 := hB5.below hE
  replace hW := btr hW hE
  clear hE
  refine s_e 0 rfl (by kernel_rfl) (by kernel_rfl) hf rfl (ev_loadN (l := [.int .i64 0, .int .i64 0, .int .i64 0, .int .i64 0, .int .i64 0]) hf rfl tN_189 (hB5.at 0) rfl) ?_; intro a hf
  refine s_e 3 rfl (by kernel_rfl) (by kernel_rfl) hf rfl (ev_loadN (l := [.int .i64 0, .int .i64 0, .int .i64 0, .int .i64 0, .int .i64 0]) hf rfl tN_189 (hB5.at 0) rfl) ?_; intro a hf
  refine s_one 1 (by kernel_rfl) ?_
  refine p_eff rfl hf trivial rfl rfl (Ef.mono (ef_call (vs := [.int .i64 6]) hf rfl ff_209 (F209 _ 6)) (fun _ _ h => ⟨fun _ => by obtain ⟨rfl, hE⟩ := h; exact hE, h⟩)) ?_; rintro a _ w13 ⟨rfl, hE⟩ hf
  replace hB4 := hB4.below hE
  replace hB5 := hB5.below hE
  replace hW := btr hW hE
  clear hE
  refine s_one 2 (by kernel_rfl) ?_
  refine p_eff rfl hf trivial rfl rfl (Ef.mono (ef_call (vs := [.int .i64 2]) hf rfl ff_209 (F209 _ 2)) (fun _ _ h => ⟨fun _ => by obtain ⟨rfl, hE⟩ := h; exact hE, h⟩)) ?_; rintro a _ w14 ⟨rfl, hE⟩ hf
  replace hB4 := hB4.below hE
  replace hB5 := hB5.below hE
  replace hW := btr hW hE
  clear hE
  refine s_one 4 (by kernel_rfl) ?_
  refine p_eff rfl hf trivial rfl rfl (Ef.mono (ef_buildSlice (k := 4) (vs := [.agg #[.int .i64 0, .int .i64 0, .int .i64 0, .int .i64 0, .int .i64 0], .agg #[.int .i64 ((dPow 6).num.a), .int .i64 ((dPow 6).num.b), .int .i64 ((dPow 6).num.c), .int .i64 ((dPow 6).num.d), .int .i64 ((dPow 6).exp)], .agg #[.int .i64 ((dPow 2).num.a), .int .i64 ((dPow 2).num.b), .int .i64 ((dPow 2).num.c), .int .i64 ((dPow 2).num.d), .int .i64 ((dPow 2).exp)], .agg #[.int .i64 0, .int .i64 0, .int .i64 0, .int .i64 0, .int .i64 0]]) (zs := [.int .i64 0, .int .i64 0, .int .i64 0, .int .i64 0, .int .i64 0, .int .i64 ((dPow 6).num.a), .int .i64 ((dPow 6).num.b), .int .i64 ((dPow 6).num.c), .int .i64 ((dPow 6).num.d), .int .i64 ((dPow 6).exp), .int .i64 ((dPow 2).num.a), .int .i64 ((dPow 2).num.b), .int .i64 ((dPow 2).num.c), .int .i64 ((dPow 2).num.d), .int .i64 ((dPow 2).exp), .int .i64 0, .int .i64 0, .int .i64 0, .int .i64 0, .int .i64 0]) hf rfl sl_139 inf_189 rfl rfl) (fun _ _ h => ⟨fun _ => by obtain ⟨_, _, _, hE, _⟩ := h; exact hE, h⟩)) ?_; rintro a _ w15 ⟨b23, rfl, hl23, hE, hB23⟩ hf
  have hne4_23 : b4 ≠ b23 := by have := hB4.lt; omega
  have hne5_23 : b5 ≠ b23 := by have := hB5.lt; omega
  have hlo23 := Nat.le_trans hW.size hl23
  replace hB4 := hB4.below hE
  replace hB5 := hB5.below hE
  replace hW := btr hW hE
  clear hE
  refine s_e0 5 rfl (by kernel_rfl) hf rfl (fun _ => ev_assign hf rfl) ?_; intro a hf
  refine s_done (by kernel_rfl) ?_
  refine hK22 _ _ ?_; try clear hK22 K22
  refine wp_ret ?_
  refine x_retB ?_
  refine x_retS ?_
  refine c_ret hf (res1 hf rfl rfl) ?_
  exact ⟨(some ⟨b23, 0, none⟩), 4, by rw [oneL, if_neg e1, if_neg e2, if_pos e3]; rfl, by rw [oneL, if_neg e1, if_neg e2, if_pos e3]; exact (Own.of_blkL encD_len hB23 hlo23 rfl rfl (by decide)), hW⟩
 have hc21b := hc21
 have e3 : ¬ k = 3 := by simpa using hc21
 refine wp_skip ?_
 refine x_norm ?_
 refine hK8 _ _ ?_; try clear hK8 K8
 refine wp_seq_k ?_; intro K25 hK25
 refine wp_draw none (fun _ => false) mixed ?_
 intro w16 hE
 replace hB4 := hB4.below hE
 replace hB5 := hB5.below hE
 replace hW := btr hW hE
 clear hE
 refine s_e 0 rfl (by kernel_rfl) (by kernel_rfl) hf rfl (ev_loadN (l := [.int .i64 ((dPow 0).num.a), .int .i64 ((dPow 0).num.b), .int .i64 ((dPow 0).num.c), .int .i64 ((dPow 0).num.d), .int .i64 ((dPow 0).exp)]) hf rfl tN_189 (hB4.at 0) rfl) ?_; intro a hf
 refine s_e 1 rfl (by kernel_rfl) (by kernel_rfl) hf rfl (ev_loadN (l := [.int .i64 0, .int .i64 0, .int .i64 0, .int .i64 0, .int .i64 0]) hf rfl tN_189 (hB5.at 0) rfl) ?_; intro a hf
 refine s_e 2 rfl (by kernel_rfl) (by kernel_rfl) hf rfl (ev_loadN (l := [.int .i64 0, .int .i64 0, .int .i64 0, .int .i64 0, .int .i64 0]) hf rfl tN_189 (hB5.at 0) rfl) ?_; intro a hf
 refine s_e0 4 rfl (by kernel_rfl) hf rfl (fun _ => ev_move hf rfl) ?_; intro a hf
 refine s_e0 5 rfl (by kernel_rfl) hf rfl (fun _ => ev_subx hf rfl rfl (by omega) (by omega)) ?_; intro a hf
 refine s_one 3 (by kernel_rfl) ?_
 refine p_eff rfl hf trivial rfl rfl (Ef.mono (ef_buildSlice (k := 5) (vs := [.int .i64 4, .int .i64 2, .int .i64 6, .int .i64 1, .int .i64 7]) (zs := [.int .i64 4, .int .i64 2, .int .i64 6, .int .i64 1, .int .i64 7]) hf rfl sl_36 inf_3 rfl rfl) (fun _ _ h => ⟨fun _ => by obtain ⟨_, _, _, hE, _⟩ := h; exact hE, h⟩)) ?_; rintro a _ w17 ⟨b26, rfl, hl26, hE, hB26⟩ hf
 have hlo26 := Nat.le_trans hW.size hl26
 replace hB4 := hB4.below hE
 replace hB5 := hB5.below hE
 replace hW := btr hW hE
 clear hE
 refine s_index (k := (k - 4).toNat) (u := (turnOf k)) (enc := encI) (l := [4, 2, 6, 1, 7]) 6 rfl (by kernel_rfl) (by kernel_rfl) hf trivial rfl rfl rfl sl_36 sz_3 encI_len (Rd.of_blk hB26 rfl _ hB26.lt) (turn_get (by omega) (by omega)) (by omega) ?_; intro a p29 hat28 hf
 refine s_e 7 rfl (by kernel_rfl) (by kernel_rfl) hf rfl (ev_load1 hf rfl t1_3 hat28) ?_; intro a hf
 refine s_one 8 (by kernel_rfl) ?_
 refine p_eff rfl hf trivial rfl rfl (Ef.mono (ef_call (vs := [.int .i64 (turnOf k)]) hf rfl ff_209 (F209 _ (turnOf k))) (fun _ _ h => ⟨fun _ => by obtain ⟨rfl, hE⟩ := h; exact hE, h⟩)) ?_; rintro a _ w18 ⟨rfl, hE⟩ hf
 replace hB4 := hB4.below hE
 replace hB5 := hB5.below hE
 replace hB26 := hB26.below hE
 replace hW := btr hW hE
 clear hE
 refine s_one 9 (by kernel_rfl) ?_
 refine p_eff rfl hf trivial rfl rfl (Ef.mono (ef_buildSlice (k := 4) (vs := [.agg #[.int .i64 ((dPow 0).num.a), .int .i64 ((dPow 0).num.b), .int .i64 ((dPow 0).num.c), .int .i64 ((dPow 0).num.d), .int .i64 ((dPow 0).exp)], .agg #[.int .i64 0, .int .i64 0, .int .i64 0, .int .i64 0, .int .i64 0], .agg #[.int .i64 0, .int .i64 0, .int .i64 0, .int .i64 0, .int .i64 0], .agg #[.int .i64 ((dPow (turnOf k)).num.a), .int .i64 ((dPow (turnOf k)).num.b), .int .i64 ((dPow (turnOf k)).num.c), .int .i64 ((dPow (turnOf k)).num.d), .int .i64 ((dPow (turnOf k)).exp)]]) (zs := [.int .i64 ((dPow 0).num.a), .int .i64 ((dPow 0).num.b), .int .i64 ((dPow 0).num.c), .int .i64 ((dPow 0).num.d), .int .i64 ((dPow 0).exp), .int .i64 0, .int .i64 0, .int .i64 0, .int .i64 0, .int .i64 0, .int .i64 0, .int .i64 0, .int .i64 0, .int .i64 0, .int .i64 0, .int .i64 ((dPow (turnOf k)).num.a), .int .i64 ((dPow (turnOf k)).num.b), .int .i64 ((dPow (turnOf k)).num.c), .int .i64 ((dPow (turnOf k)).num.d), .int .i64 ((dPow (turnOf k)).exp)]) hf rfl sl_139 inf_189 rfl rfl) (fun _ _ h => ⟨fun _ => by obtain ⟨_, _, _, hE, _⟩ := h; exact hE, h⟩)) ?_; rintro a _ w19 ⟨b30, rfl, hl30, hE, hB30⟩ hf
 have hne4_30 : b4 ≠ b30 := by have := hB4.lt; omega
 have hne5_30 : b5 ≠ b30 := by have := hB5.lt; omega
 have hlo30 := Nat.le_trans hW.size hl30
 replace hB4 := hB4.below hE
 replace hB5 := hB5.below hE
 replace hB26 := hB26.below hE
 replace hW := btr hW hE
 clear hE
 refine s_e0 10 rfl (by kernel_rfl) hf rfl (fun _ => ev_assign hf rfl) ?_; intro a hf
 refine s_done (by kernel_rfl) ?_
 refine hK25 _ _ ?_; try clear hK25 K25
 refine wp_ret ?_
 refine c_ret hf (res1 hf rfl rfl) ?_
 exact ⟨(some ⟨b30, 0, none⟩), 4, by rw [oneL, if_neg e1, if_neg e2, if_neg e3]; rfl, by rw [oneL, if_neg e1, if_neg e2, if_neg e3]; exact (Own.of_blkL encD_len hB30 hlo30 rfl rfl (by decide)), hW⟩
end Go.Proofs.YtfgnmflfiobkmaaGreat
set_option maxRecDepth 4000
namespace Go.Proofs.YtfgnmflfiobkmaaGreat
open Go.RowKit
theorem F199 (w0 : World) (n : Int) (g : Gt) (row : Int) (col : Int) (hg : gOk n g = true) : Ret Tryz.prog 199 [.int .i64 n, .agg #[.int .i64 g.k, .int .i64 g.a, .int .i64 g.b], .int .i64 row, .int .i64 col] w0 (fun v w => v = dV (cellS n g row col) ∧ Below w0.heap.size w0 w) := by
 have hg2 := gOk_spec hg
 have hb1 := bitF_01 n row g.a
 have hb2 := bitF_01 n col g.a
 refine enter Tryz.func199 rfl 119 rfl rfl ?_
 intro a hf
 have hW : Below w0.heap.size w0 w0 := Below.refl _ _
 refine wp_seq_k ?_; intro K1 hK1
 refine wp_region_lit ?_
 refine l_f hf rfl (ef_box (zs := [.int .i64 g.k, .int .i64 g.a, .int .i64 g.b]) hf rfl rfl) ?_; rintro a _ w1 ⟨b2, rfl, hl2, hE, hB2⟩ hf
 have hlo2 := Nat.le_trans hW.size hl2
 replace hW := btr hW hE
 clear hE
 refine l_f hf rfl (ef_alloc (zs := [.int .i64 0, .int .i64 0, .int .i64 0, .int .i64 0, .int .i64 0]) z_189 rfl) ?_; rintro a _ w2 ⟨b3, rfl, hl3, hE, hB3⟩ hf
 have hlo3 := Nat.le_trans hW.size hl3
 replace hB2 := hB2.below hE
 replace hW := btr hW hE
 clear hE
 refine wpList_nil ?_
 refine hK1 _ _ ?_; try clear hK1 K1
 refine wp_seq_k ?_; intro K4 hK4
 refine wp_region_lit ?_
 refine l_f hf rfl (ef_call (vs := [.int .i64 0]) hf rfl ff_209 (F209 _ 0)) ?_; rintro a _ w3 ⟨rfl, hE⟩ hf
 replace hB2 := hB2.below hE
 replace hB3 := hB3.below hE
 replace hW := btr hW hE
 clear hE
 refine l_e hf rfl (ev_build (ps := []) (cs := [.int .i64 0, .int .i64 0, .int .i64 0, .int .i64 0, .int .i64 0]) hf rfl (fun _ => by first | rfl | kernel_rfl)) ?_; intro a hf
 refine l_f hf rfl (ef_alloc (zs := [.int .i64 0, .int .i64 0, .int .i64 0, .int .i64 0, .int .i64 0]) z_189 rfl) ?_; rintro a _ w4 ⟨b5, rfl, hl5, hE, hB5⟩ hf
 have hne3_5 : b3 ≠ b5 := by have := hB3.lt; omega
 have hlo5 := Nat.le_trans hW.size hl5
 replace hB2 := hB2.below hE
 replace hB3 := hB3.below hE
 replace hW := btr hW hE
 clear hE
 refine l_f hf rfl (ef_alloc (zs := [.int .i64 0, .int .i64 0, .int .i64 0, .int .i64 0, .int .i64 0]) z_189 rfl) ?_; rintro a _ w5 ⟨b6, rfl, hl6, hE, hB6⟩ hf
 have hne3_6 : b3 ≠ b6 := by have := hB3.lt; omega
 have hne5_6 : b5 ≠ b6 := by have := hB5.lt; omega
 have hlo6 := Nat.le_trans hW.size hl6
 replace hB2 := hB2.below hE
 replace hB3 := hB3.below hE
 replace hB5 := hB5.below hE
 replace hW := btr hW hE
 clear hE
 refine l_f0 hf (ef_store (vs := [.int .i64 ((dPow 0).num.a), .int .i64 ((dPow 0).num.b), .int .i64 ((dPow 0).num.c), .int .i64 ((dPow 0).num.d), .int .i64 ((dPow 0).exp)]) (l' := [.int .i64 ((dPow 0).num.a), .int .i64 ((dPow 0).num.b), .int .i64 ((dPow 0).num.c), .int .i64 ((dPow 0).num.d), .int .i64 ((dPow 0).exp)]) hf rfl rfl sz_189 hB5 rfl rfl rfl rfl rfl) ?_; rintro a _ w6 ⟨ho, hb⟩ hf
 have hold := hB5
 replace hB2 := hB2.only ho (Blk.ne hB2 hold rfl)
 replace hB3 := hB3.only ho (by omega)
 replace hB6 := hB6.only ho (by omega)
 replace hW := Below.only hW ho hlo5
 clear hold
 have hB5 := hb
 clear hb ho
 refine l_f0 hf (ef_store (vs := [.int .i64 0, .int .i64 0, .int .i64 0, .int .i64 0, .int .i64 0]) (l' := [.int .i64 0, .int .i64 0, .int .i64 0, .int .i64 0, .int .i64 0]) hf rfl rfl sz_189 hB6 rfl rfl rfl rfl rfl) ?_; rintro a _ w7 ⟨ho, hb⟩ hf
 have hold := hB6
 replace hB2 := hB2.only ho (Blk.ne hB2 hold rfl)
 replace hB3 := hB3.only ho (by omega)
 replace hB5 := hB5.only ho (by omega)
 replace hW := Below.only hW ho hlo6
 clear hold
 have hB6 := hb
 clear hb ho
 refine wpList_nil ?_
 refine hK4 _ _ ?_; try clear hK4 K4
 refine wp_seq_k ?_; intro K7 hK7
 refine wp_region_lit ?_
 refine l_mv hf rfl rfl ?_; intro a hf
 refine l_as hf rfl rfl ?_; intro a hf
 refine wpList_nil ?_
 refine hK7 _ _ ?_; try clear hK7 K7
 refine wp_seq_k ?_; intro K8 hK8
 refine wp_seq_k ?_; intro K9 hK9
 refine wp_region_lit ?_
 refine l_e hf rfl (ev_fieldB hf rfl fd_107_0 (m := 0) rfl) ?_; intro a hf
 refine l_e hf rfl (ev_load1 hf rfl t1_3 (hB2.at 0)) ?_; intro a hf
 refine wpList_nil ?_
 refine hK9 _ _ ?_; try clear hK9 K9
 refine wp_block ?_
 refine wp_seq_k ?_; intro K10 hK10
 refine wp_region_lit ?_
 refine l_e hf rfl (ev_eql hf rfl rfl) ?_; intro a hf
 refine l_as hf rfl rfl ?_; intro a hf
 refine wpList_nil ?_
 refine hK10 _ _ ?_; try clear hK10 K10
 refine c_if hf rfl (fun hc11 => ?_) (fun hc11 => ?_)
 ·have hc11b := hc11
  have hk := eq_of_beq hc11
  have h8 : ¬ g.k ≤ 8 := by omega
  have hto : toS n g col = col := by simp [toS, hk]
  have hv : valS n g col = dPow 1 := by simp [valS, hk]
  refine wp_region_lit ?_
  refine l_f hf rfl (ef_call (vs := [.int .i64 1]) hf rfl ff_209 (F209 _ 1)) ?_; rintro a _ w8 ⟨rfl, hE⟩ hf
  replace hB2 := hB2.below hE
  replace hB3 := hB3.below hE
  replace hB5 := hB5.below hE
  replace hB6 := hB6.below hE
  replace hW := btr hW hE
  clear hE
  refine l_f0 hf (ef_store (vs := [.int .i64 ((dPow 1).num.a), .int .i64 ((dPow 1).num.b), .int .i64 ((dPow 1).num.c), .int .i64 ((dPow 1).num.d), .int .i64 ((dPow 1).exp)]) (l' := [.int .i64 ((dPow 1).num.a), .int .i64 ((dPow 1).num.b), .int .i64 ((dPow 1).num.c), .int .i64 ((dPow 1).num.d), .int .i64 ((dPow 1).exp)]) hf rfl rfl sz_189 hB5 rfl rfl rfl rfl rfl) ?_; rintro a _ w9 ⟨ho, hb⟩ hf
  have hold := hB5
  replace hB2 := hB2.only ho (Blk.ne hB2 hold rfl)
  replace hB3 := hB3.only ho (by omega)
  replace hB6 := hB6.only ho (by omega)
  replace hW := Below.only hW ho hlo5
  clear hold
  have hB5 := hb
  clear hb ho
  refine wpList_nil ?_
  refine x_norm ?_
  refine hK8 _ _ ?_; try clear hK8 K8
  refine wp_seq_k ?_; intro K12 hK12
  refine wp_seq_k ?_; intro K13 hK13
  refine wp_region_lit ?_
  refine l_mv hf rfl rfl ?_; intro a hf
  refine l_mv hf rfl rfl ?_; intro a hf
  refine l_e hf rfl (ev_eql hf rfl rfl) ?_; intro a hf
  refine wpList_nil ?_
  refine hK13 _ _ ?_; try clear hK13 K13
  refine c_if hf rfl (fun hc14 => ?_) (fun hc14 => ?_)
  ·have hc14b := hc14
   have hfin : cellS n g row col = valS n g col := by rw [cellS, if_neg h8, if_pos ((eq_of_beq hc14).trans hto.symm)]
   rw [hv] at hfin
   refine wp_seq_k ?_; intro K15 hK15
   refine wp_region_lit ?_
   refine l_e hf rfl (ev_loadN (l := [.int .i64 ((dPow 1).num.a), .int .i64 ((dPow 1).num.b), .int .i64 ((dPow 1).num.c), .int .i64 ((dPow 1).num.d), .int .i64 ((dPow 1).exp)]) hf rfl tN_189 (hB5.at 0) rfl) ?_; intro a hf
   refine l_f0 hf (ef_store (vs := [.int .i64 ((dPow 1).num.a), .int .i64 ((dPow 1).num.b), .int .i64 ((dPow 1).num.c), .int .i64 ((dPow 1).num.d), .int .i64 ((dPow 1).exp)]) (l' := [.int .i64 ((dPow 1).num.a), .int .i64 ((dPow 1).num.b), .int .i64 ((dPow 1).num.c), .int .i64 ((dPow 1).num.d), .int .i64 ((dPow 1).exp)]) hf rfl rfl sz_189 hB3 rfl rfl rfl rfl rfl) ?_; rintro a _ w10 ⟨ho, hb⟩ hf
   have hold := hB3
   replace hB5 := hB5.only ho (by omega)
   replace hB6 := hB6.only ho (by omega)
   replace hW := Below.only hW ho hlo3
   clear hold
   have hB3 := hb
   clear hb ho
   refine wpList_nil ?_
   refine hK15 _ _ ?_; try clear hK15 K15
   refine wp_ret ?_
   refine x_retS ?_
   refine c_ret hf (res1 hf rfl (ResV.cellN (l := [.int .i64 ((dPow 1).num.a), .int .i64 ((dPow 1).num.b), .int .i64 ((dPow 1).num.c), .int .i64 ((dPow 1).num.d), .int .i64 ((dPow 1).exp)]) rfl tN_189 (hB3.at 0) rfl)) ?_
   exact ⟨(by rw [hfin]; try rfl), hW⟩
  have hc14b := hc14
  have hfin : cellS n g row col = dZ := by rw [cellS, if_neg h8, if_neg (fun e9 => ne_of_beqF hc14 (e9.trans hto))]
  refine wp_skip ?_
  refine hK12 _ _ ?_; try clear hK12 K12
  refine wp_seq_k ?_; intro K16 hK16
  refine wp_region_lit ?_
  refine l_e hf rfl (ev_loadN (l := [.int .i64 0, .int .i64 0, .int .i64 0, .int .i64 0, .int .i64 0]) hf rfl tN_189 (hB6.at 0) rfl) ?_; intro a hf
  refine l_f0 hf (ef_store (vs := [.int .i64 0, .int .i64 0, .int .i64 0, .int .i64 0, .int .i64 0]) (l' := [.int .i64 0, .int .i64 0, .int .i64 0, .int .i64 0, .int .i64 0]) hf rfl rfl sz_189 hB3 rfl rfl rfl rfl rfl) ?_; rintro a _ w11 ⟨ho, hb⟩ hf
  have hold := hB3
  replace hB5 := hB5.only ho (by omega)
  replace hB6 := hB6.only ho (by omega)
  replace hW := Below.only hW ho hlo3
  clear hold
  have hB3 := hb
  clear hb ho
  refine wpList_nil ?_
  refine hK16 _ _ ?_; try clear hK16 K16
  refine wp_ret ?_
  refine c_ret hf (res1 hf rfl (ResV.cellN (l := [.int .i64 0, .int .i64 0, .int .i64 0, .int .i64 0, .int .i64 0]) rfl tN_189 (hB3.at 0) rfl)) ?_
  exact ⟨(by rw [hfin]; try rfl), hW⟩
 have hc11b := hc11
 have h12 := ne_of_beqF hc11
 refine wp_seq_k ?_; intro K17 hK17
 refine wp_region_lit ?_
 refine l_e hf rfl (ev_eql hf rfl rfl) ?_; intro a hf
 refine l_as hf rfl rfl ?_; intro a hf
 refine wpList_nil ?_
 refine hK17 _ _ ?_; try clear hK17 K17
 refine c_if hf rfl (fun hc18 => ?_) (fun hc18 => ?_)
 ·have hc18b := hc18
  have hk := eq_of_beq hc18
  have h8 : ¬ g.k ≤ 8 := by omega
  have hv : valS n g col = dPow 0 := by simp [valS, hk]
  refine wp_seq_k ?_; intro K19 hK19
  refine wp_region_lit ?_
  refine l_mv hf rfl rfl ?_; intro a hf
  refine l_mv hf rfl rfl ?_; intro a hf
  refine l_e hf rfl (ev_fieldB hf rfl fd_107_1 (m := 1) rfl) ?_; intro a hf
  refine l_e hf rfl (ev_load1 hf rfl t1_3 (hB2.at 1)) ?_; intro a hf
  refine l_f hf rfl (ef_call (vs := [.int .i64 n, .int .i64 col, .int .i64 g.a]) hf rfl ff_229 (F229 _ n col g.a (by omega) (by omega) (by omega))) ?_; rintro a _ _ ⟨rfl, rfl⟩ hf
  refine l_e hf rfl (ev_eql hf rfl rfl) ?_; intro a hf
  refine wpList_nil ?_
  refine hK19 _ _ ?_; try clear hK19 K19
  refine c_if hf rfl (fun hc20 => ?_) (fun hc20 => ?_)
  ·have hc20b := hc20
   have hto : toS n g col = flipF n col g.b := by rw [toS, if_pos hk, if_pos (eq_of_beq hc20)]
   refine wp_region_lit ?_
   refine l_mv hf rfl rfl ?_; intro a hf
   refine l_mv hf rfl rfl ?_; intro a hf
   refine l_e hf rfl (ev_subx hf rfl rfl (by omega) (by omega)) ?_; intro a hf
   refine l_e hf rfl (ev_fieldB hf rfl fd_107_2 (m := 2) rfl) ?_; intro a hf
   refine l_e hf rfl (ev_load1 hf rfl t1_3 (hB2.at 2)) ?_; intro a hf
   refine l_e hf rfl (ev_subx hf rfl rfl (by omega) (by omega)) ?_; intro a hf
   refine l_e hf rfl (ev_toU (m := (n - 1 - g.b).toNat) Tryz.underlying3 Tryz.underlying181 hf rfl (by omega) (by omega)) ?_; intro a hf
   refine l_e hf rfl (ev_shl (m := (n - 1 - g.b).toNat) hf rfl rfl rfl (by omega)) ?_; intro a hf
   refine l_e hf rfl (ev_xor hf rfl rfl) ?_; intro a hf
   refine l_as hf rfl rfl ?_; intro a hf
   refine wpList_nil ?_
   refine x_norm ?_
   refine hK8 _ _ ?_; try clear hK8 K8
   refine wp_seq_k ?_; intro K21 hK21
   refine wp_seq_k ?_; intro K22 hK22
   refine wp_region_lit ?_
   refine l_mv hf rfl rfl ?_; intro a hf
   refine l_mv hf rfl rfl ?_; intro a hf
   refine l_e hf rfl (ev_eql hf rfl rfl) ?_; intro a hf
   refine wpList_nil ?_
   refine hK22 _ _ ?_; try clear hK22 K22
   refine c_if hf rfl (fun hc23 => ?_) (fun hc23 => ?_)
   ·have hc23b := hc23
    have hfin : cellS n g row col = valS n g col := by rw [cellS, if_neg h8, if_pos ((eq_of_beq hc23).trans hto.symm)]
    rw [hv] at hfin
    refine wp_seq_k ?_; intro K24 hK24
    refine wp_region_lit ?_
    refine l_e hf rfl (ev_loadN (l := [.int .i64 ((dPow 0).num.a), .int .i64 ((dPow 0).num.b), .int .i64 ((dPow 0).num.c), .int .i64 ((dPow 0).num.d), .int .i64 ((dPow 0).exp)]) hf rfl tN_189 (hB5.at 0) rfl) ?_; intro a hf
    refine l_f0 hf (ef_store (vs := [.int .i64 ((dPow 0).num.a), .int .i64 ((dPow 0).num.b), .int .i64 ((dPow 0).num.c), .int .i64 ((dPow 0).num.d), .int .i64 ((dPow 0).exp)]) (l' := [.int .i64 ((dPow 0).num.a), .int .i64 ((dPow 0).num.b), .int .i64 ((dPow 0).num.c), .int .i64 ((dPow 0).num.d), .int .i64 ((dPow 0).exp)]) hf rfl rfl sz_189 hB3 rfl rfl rfl rfl rfl) ?_; rintro a _ w12 ⟨ho, hb⟩ hf
    have hold := hB3
    replace hB5 := hB5.only ho (by omega)
    replace hB6 := hB6.only ho (by omega)
    replace hW := Below.only hW ho hlo3
    clear hold
    have hB3 := hb
    clear hb ho
    refine wpList_nil ?_
    refine hK24 _ _ ?_; try clear hK24 K24
    refine wp_ret ?_
    refine x_retS ?_
    refine c_ret hf (res1 hf rfl (ResV.cellN (l := [.int .i64 ((dPow 0).num.a), .int .i64 ((dPow 0).num.b), .int .i64 ((dPow 0).num.c), .int .i64 ((dPow 0).num.d), .int .i64 ((dPow 0).exp)]) rfl tN_189 (hB3.at 0) rfl)) ?_
    exact ⟨(by rw [hfin]; try rfl), hW⟩
   have hc23b := hc23
   have hfin : cellS n g row col = dZ := by rw [cellS, if_neg h8, if_neg (fun e9 => ne_of_beqF hc23 (e9.trans hto))]
   refine wp_skip ?_
   refine hK21 _ _ ?_; try clear hK21 K21
   refine wp_seq_k ?_; intro K25 hK25
   refine wp_region_lit ?_
   refine l_e hf rfl (ev_loadN (l := [.int .i64 0, .int .i64 0, .int .i64 0, .int .i64 0, .int .i64 0]) hf rfl tN_189 (hB6.at 0) rfl) ?_; intro a hf
   refine l_f0 hf (ef_store (vs := [.int .i64 0, .int .i64 0, .int .i64 0, .int .i64 0, .int .i64 0]) (l' := [.int .i64 0, .int .i64 0, .int .i64 0, .int .i64 0, .int .i64 0]) hf rfl rfl sz_189 hB3 rfl rfl rfl rfl rfl) ?_; rintro a _ w13 ⟨ho, hb⟩ hf
   have hold := hB3
   replace hB5 := hB5.only ho (by omega)
   replace hB6 := hB6.only ho (by omega)
   replace hW := Below.only hW ho hlo3
   clear hold
   have hB3 := hb
   clear hb ho
   refine wpList_nil ?_
   refine hK25 _ _ ?_; try clear hK25 K25
   refine wp_ret ?_
   refine c_ret hf (res1 hf rfl (ResV.cellN (l := [.int .i64 0, .int .i64 0, .int .i64 0, .int .i64 0, .int .i64 0]) rfl tN_189 (hB3.at 0) rfl)) ?_
   exact ⟨(by rw [hfin]; try rfl), hW⟩
  have hc20b := hc20
  have hto : toS n g col = col := by rw [toS, if_pos hk, if_neg (ne_of_beqF hc20)]
  refine wp_skip ?_
  refine x_norm ?_
  refine hK8 _ _ ?_; try clear hK8 K8
  refine wp_seq_k ?_; intro K26 hK26
  refine wp_seq_k ?_; intro K27 hK27
  refine wp_region_lit ?_
  refine l_mv hf rfl rfl ?_; intro a hf
  refine l_mv hf rfl rfl ?_; intro a hf
  refine l_e hf rfl (ev_eql hf rfl rfl) ?_; intro a hf
  refine wpList_nil ?_
  refine hK27 _ _ ?_; try clear hK27 K27
  refine c_if hf rfl (fun hc28 => ?_) (fun hc28 => ?_)
  ·have hc28b := hc28
   have hfin : cellS n g row col = valS n g col := by rw [cellS, if_neg h8, if_pos ((eq_of_beq hc28).trans hto.symm)]
   rw [hv] at hfin
   refine wp_seq_k ?_; intro K29 hK29
   refine wp_region_lit ?_
   refine l_e hf rfl (ev_loadN (l := [.int .i64 ((dPow 0).num.a), .int .i64 ((dPow 0).num.b), .int .i64 ((dPow 0).num.c), .int .i64 ((dPow 0).num.d), .int .i64 ((dPow 0).exp)]) hf rfl tN_189 (hB5.at 0) rfl) ?_; intro a hf
   refine l_f0 hf (ef_store (vs := [.int .i64 ((dPow 0).num.a), .int .i64 ((dPow 0).num.b), .int .i64 ((dPow 0).num.c), .int .i64 ((dPow 0).num.d), .int .i64 ((dPow 0).exp)]) (l' := [.int .i64 ((dPow 0).num.a), .int .i64 ((dPow 0).num.b), .int .i64 ((dPow 0).num.c), .int .i64 ((dPow 0).num.d), .int .i64 ((dPow 0).exp)]) hf rfl rfl sz_189 hB3 rfl rfl rfl rfl rfl) ?_; rintro a _ w14 ⟨ho, hb⟩ hf
   have hold := hB3
   replace hB5 := hB5.only ho (by omega)
   replace hB6 := hB6.only ho (by omega)
   replace hW := Below.only hW ho hlo3
   clear hold
   have hB3 := hb
   clear hb ho
   refine wpList_nil ?_
   refine hK29 _ _ ?_; try clear hK29 K29
   refine wp_ret ?_
   refine x_retS ?_
   refine c_ret hf (res1 hf rfl (ResV.cellN (l := [.int .i64 ((dPow 0).num.a), .int .i64 ((dPow 0).num.b), .int .i64 ((dPow 0).num.c), .int .i64 ((dPow 0).num.d), .int .i64 ((dPow 0).exp)]) rfl tN_189 (hB3.at 0) rfl)) ?_
   exact ⟨(by rw [hfin]; try rfl), hW⟩
  have hc28b := hc28
  have hfin : cellS n g row col = dZ := by rw [cellS, if_neg h8, if_neg (fun e9 => ne_of_beqF hc28 (e9.trans hto))]
  refine wp_skip ?_
  refine hK26 _ _ ?_; try clear hK26 K26
  refine wp_seq_k ?_; intro K30 hK30
  refine wp_region_lit ?_
  refine l_e hf rfl (ev_loadN (l := [.int .i64 0, .int .i64 0, .int .i64 0, .int .i64 0, .int .i64 0]) hf rfl tN_189 (hB6.at 0) rfl) ?_; intro a hf
  refine l_f0 hf (ef_store (vs := [.int .i64 0, .int .i64 0, .int .i64 0, .int .i64 0, .int .i64 0]) (l' := [.int .i64 0, .int .i64 0, .int .i64 0, .int .i64 0, .int .i64 0]) hf rfl rfl sz_189 hB3 rfl rfl rfl rfl rfl) ?_; rintro a _ w15 ⟨ho, hb⟩ hf
  have hold := hB3
  replace hB5 := hB5.only ho (by omega)
  replace hB6 := hB6.only ho (by omega)
  replace hW := Below.only hW ho hlo3
  clear hold
  have hB3 := hb
  clear hb ho
  refine wpList_nil ?_
  refine hK30 _ _ ?_; try clear hK30 K30
  refine wp_ret ?_
  refine c_ret hf (res1 hf rfl (ResV.cellN (l := [.int .i64 0, .int .i64 0, .int .i64 0, .int .i64 0, .int .i64 0]) rfl tN_189 (hB3.at 0) rfl)) ?_
  exact ⟨(by rw [hfin]; try rfl), hW⟩
 have hc18b := hc18
 have h9 := ne_of_beqF hc18
 refine wp_seq_k ?_; intro K31 hK31
 refine wp_region_lit ?_
 refine l_e hf rfl (ev_eql hf rfl rfl) ?_; intro a hf
 refine l_as hf rfl rfl ?_; intro a hf
 refine wpList_nil ?_
 refine hK31 _ _ ?_; try clear hK31 K31
 refine c_if hf rfl (fun hc32 => ?_) (fun hc32 => ?_)
 ·have hc32b := hc32
  have hk := eq_of_beq hc32
  have h8 : ¬ g.k ≤ 8 := by omega
  have hto : toS n g col = col := by simp [toS, hk]
  refine wp_seq_k ?_; intro K33 hK33
  refine c_cut (fun a w => Fr a 119 [(2, .int .i64 row), (8, .pointer (some ⟨b3, 0, none⟩)), (9, .pointer (some ⟨b5, 0, none⟩)), (10, .pointer (some ⟨b6, 0, none⟩)), (11, .int .i64 col), (82, .bool (((bitF n col g.a) == 1) && ((bitF n col g.b) == 1)))] ∧ w7 = w) ?_ ?_
  ·refine wp_region_lit ?_
   refine l_mv hf rfl rfl ?_; intro a hf
   refine l_mv hf rfl rfl ?_; intro a hf
   refine l_e hf rfl (ev_fieldB hf rfl fd_107_1 (m := 1) rfl) ?_; intro a hf
   refine l_e hf rfl (ev_load1 hf rfl t1_3 (hB2.at 1)) ?_; intro a hf
   refine l_f hf rfl (ef_call (vs := [.int .i64 n, .int .i64 col, .int .i64 g.a]) hf rfl ff_229 (F229 _ n col g.a (by omega) (by omega) (by omega))) ?_; rintro a _ _ ⟨rfl, rfl⟩ hf
   refine l_e hf rfl (ev_eql hf rfl rfl) ?_; intro a hf
   refine l_mv hf rfl rfl ?_; intro a hf
   refine g_split hf (t := 75) rfl (fun hg34 => ?_) (fun hg34 => ?_)
   ·refine l_ev hf ⟨_, _, rfl, rfl, hg34⟩ rfl rfl (ev_move hf rfl) ?_; intro a hf
    refine l_ev hf ⟨_, _, rfl, rfl, hg34⟩ rfl rfl (ev_move hf rfl) ?_; intro a hf
    refine l_ev hf ⟨_, _, rfl, rfl, hg34⟩ rfl rfl (ev_fieldB hf rfl fd_107_2 (m := 2) rfl) ?_; intro a hf
    refine l_ev hf ⟨_, _, rfl, rfl, hg34⟩ rfl rfl (ev_load1 hf rfl t1_3 (hB2.at 2)) ?_; intro a hf
    refine l_eff hf ⟨_, _, rfl, rfl, hg34⟩ rfl rfl (ef_call (vs := [.int .i64 n, .int .i64 col, .int .i64 g.b]) hf rfl ff_229 (F229 _ n col g.b (by omega) (by omega) (by omega))) ?_; rintro a _ _ ⟨rfl, rfl⟩ hf
    refine l_ev hf ⟨_, _, rfl, rfl, hg34⟩ rfl rfl (ev_eql hf rfl rfl) ?_; intro a hf
    refine l_e hf rfl (ev_pickT hf rfl hg34 rfl) ?_; intro a hf
    refine wpList_nil ?_
    exact ⟨hf.sub ⟨rfl, rfl, rfl, rfl, rfl, look_bool rfl (by first | rfl | (simp only [hc11b, hc18b, hc32b, hg34, Bool.true_and, Bool.false_and, Bool.true_or, Bool.false_or]; done) | simp [hc11b, hc18b, hc32b, hg34]), trivial⟩, rfl⟩
   refine l_pass hf ⟨_, _, rfl, rfl, hg34⟩ rfl rfl ?_; intro a hf
   refine l_pass hf ⟨_, _, rfl, rfl, hg34⟩ rfl rfl ?_; intro a hf
   refine l_pass hf ⟨_, _, rfl, rfl, hg34⟩ rfl rfl ?_; intro a hf
   refine l_pass hf ⟨_, _, rfl, rfl, hg34⟩ rfl rfl ?_; intro a hf
   refine l_pass hf ⟨_, _, rfl, rfl, hg34⟩ rfl rfl ?_; intro a hf
   refine l_pass hf ⟨_, _, rfl, rfl, hg34⟩ rfl rfl ?_; intro a hf
   refine l_e hf rfl (ev_pickF hf rfl hg34 rfl) ?_; intro a hf
   refine wpList_nil ?_
   exact ⟨hf.sub ⟨rfl, rfl, rfl, rfl, rfl, look_bool rfl (by first | rfl | (simp only [hc11b, hc18b, hc32b, hg34, Bool.true_and, Bool.false_and, Bool.true_or, Bool.false_or]; done) | simp [hc11b, hc18b, hc32b, hg34]), trivial⟩, rfl⟩
  rintro a _ ⟨hf, rfl⟩
  refine hK33 _ _ ?_; try clear hK33 K33
  refine c_if hf rfl (fun hc35 => ?_) (fun hc35 => ?_)
  ·have hc35b := hc35
   have hv : valS n g col = dPow 4 := by have h9 : bitF n col g.a = 1 ∧ bitF n col g.b = 1 := (by simpa using hc35); simp [valS, hk, h9]
   refine wp_region_lit ?_
   refine l_f hf rfl (ef_call (vs := [.int .i64 4]) hf rfl ff_209 (F209 _ 4)) ?_; rintro a _ w16 ⟨rfl, hE⟩ hf
   replace hB3 := hB3.below hE
   replace hB5 := hB5.below hE
   replace hB6 := hB6.below hE
   replace hW := btr hW hE
   clear hE
   refine l_f0 hf (ef_store (vs := [.int .i64 ((dPow 4).num.a), .int .i64 ((dPow 4).num.b), .int .i64 ((dPow 4).num.c), .int .i64 ((dPow 4).num.d), .int .i64 ((dPow 4).exp)]) (l' := [.int .i64 ((dPow 4).num.a), .int .i64 ((dPow 4).num.b), .int .i64 ((dPow 4).num.c), .int .i64 ((dPow 4).num.d), .int .i64 ((dPow 4).exp)]) hf rfl rfl sz_189 hB5 rfl rfl rfl rfl rfl) ?_; rintro a _ w17 ⟨ho, hb⟩ hf
   have hold := hB5
   replace hB3 := hB3.only ho (by omega)
   replace hB6 := hB6.only ho (by omega)
   replace hW := Below.only hW ho hlo5
   clear hold
   have hB5 := hb
   clear hb ho
   refine wpList_nil ?_
   refine x_norm ?_
   refine hK8 _ _ ?_; try clear hK8 K8
   refine wp_seq_k ?_; intro K36 hK36
   refine wp_seq_k ?_; intro K37 hK37
   refine wp_region_lit ?_
   refine l_mv hf rfl rfl ?_; intro a hf
   refine l_mv hf rfl rfl ?_; intro a hf
   refine l_e hf rfl (ev_eql hf rfl rfl) ?_; intro a hf
   refine wpList_nil ?_
   refine hK37 _ _ ?_; try clear hK37 K37
   refine c_if hf rfl (fun hc38 => ?_) (fun hc38 => ?_)
   ·have hc38b := hc38
    have hfin : cellS n g row col = valS n g col := by rw [cellS, if_neg h8, if_pos ((eq_of_beq hc38).trans hto.symm)]
    rw [hv] at hfin
    refine wp_seq_k ?_; intro K39 hK39
    refine wp_region_lit ?_
    refine l_e hf rfl (ev_loadN (l := [.int .i64 ((dPow 4).num.a), .int .i64 ((dPow 4).num.b), .int .i64 ((dPow 4).num.c), .int .i64 ((dPow 4).num.d), .int .i64 ((dPow 4).exp)]) hf rfl tN_189 (hB5.at 0) rfl) ?_; intro a hf
    refine l_f0 hf (ef_store (vs := [.int .i64 ((dPow 4).num.a), .int .i64 ((dPow 4).num.b), .int .i64 ((dPow 4).num.c), .int .i64 ((dPow 4).num.d), .int .i64 ((dPow 4).exp)]) (l' := [.int .i64 ((dPow 4).num.a), .int .i64 ((dPow 4).num.b), .int .i64 ((dPow 4).num.c), .int .i64 ((dPow 4).num.d), .int .i64 ((dPow 4).exp)]) hf rfl rfl sz_189 hB3 rfl rfl rfl rfl rfl) ?_; rintro a _ w18 ⟨ho, hb⟩ hf
    have hold := hB3
    replace hB5 := hB5.only ho (by omega)
    replace hB6 := hB6.only ho (by omega)
    replace hW := Below.only hW ho hlo3
    clear hold
    have hB3 := hb
    clear hb ho
    refine wpList_nil ?_
    refine hK39 _ _ ?_; try clear hK39 K39
    refine wp_ret ?_
    refine x_retS ?_
    refine c_ret hf (res1 hf rfl (ResV.cellN (l := [.int .i64 ((dPow 4).num.a), .int .i64 ((dPow 4).num.b), .int .i64 ((dPow 4).num.c), .int .i64 ((dPow 4).num.d), .int .i64 ((dPow 4).exp)]) rfl tN_189 (hB3.at 0) rfl)) ?_
    exact ⟨(by rw [hfin]; try rfl), hW⟩
   have hc38b := hc38
   have hfin : cellS n g row col = dZ := by rw [cellS, if_neg h8, if_neg (fun e9 => ne_of_beqF hc38 (e9.trans hto))]
   refine wp_skip ?_
   refine hK36 _ _ ?_; try clear hK36 K36
   refine wp_seq_k ?_; intro K40 hK40
   refine wp_region_lit ?_
   refine l_e hf rfl (ev_loadN (l := [.int .i64 0, .int .i64 0, .int .i64 0, .int .i64 0, .int .i64 0]) hf rfl tN_189 (hB6.at 0) rfl) ?_; intro a hf
   refine l_f0 hf (ef_store (vs := [.int .i64 0, .int .i64 0, .int .i64 0, .int .i64 0, .int .i64 0]) (l' := [.int .i64 0, .int .i64 0, .int .i64 0, .int .i64 0, .int .i64 0]) hf rfl rfl sz_189 hB3 rfl rfl rfl rfl rfl) ?_; rintro a _ w19 ⟨ho, hb⟩ hf
   have hold := hB3
   replace hB5 := hB5.only ho (by omega)
   replace hB6 := hB6.only ho (by omega)
   replace hW := Below.only hW ho hlo3
   clear hold
   have hB3 := hb
   clear hb ho
   refine wpList_nil ?_
   refine hK40 _ _ ?_; try clear hK40 K40
   refine wp_ret ?_
   refine c_ret hf (res1 hf rfl (ResV.cellN (l := [.int .i64 0, .int .i64 0, .int .i64 0, .int .i64 0, .int .i64 0]) rfl tN_189 (hB3.at 0) rfl)) ?_
   exact ⟨(by rw [hfin]; try rfl), hW⟩
  have hc35b := hc35
  have hv : valS n g col = dPow 0 := by have h9 : ¬ (bitF n col g.a = 1 ∧ bitF n col g.b = 1) := (by simpa using hc35); simp only [valS, hk, h9]; simp
  refine wp_skip ?_
  refine x_norm ?_
  refine hK8 _ _ ?_; try clear hK8 K8
  refine wp_seq_k ?_; intro K41 hK41
  refine wp_seq_k ?_; intro K42 hK42
  refine wp_region_lit ?_
  refine l_mv hf rfl rfl ?_; intro a hf
  refine l_mv hf rfl rfl ?_; intro a hf
  refine l_e hf rfl (ev_eql hf rfl rfl) ?_; intro a hf
  refine wpList_nil ?_
  refine hK42 _ _ ?_; try clear hK42 K42
  refine c_if hf rfl (fun hc43 => ?_) (fun hc43 => ?_)
  ·have hc43b := hc43
   have hfin : cellS n g row col = valS n g col := by rw [cellS, if_neg h8, if_pos ((eq_of_beq hc43).trans hto.symm)]
   rw [hv] at hfin
   refine wp_seq_k ?_; intro K44 hK44
   refine wp_region_lit ?_
   refine l_e hf rfl (ev_loadN (l := [.int .i64 ((dPow 0).num.a), .int .i64 ((dPow 0).num.b), .int .i64 ((dPow 0).num.c), .int .i64 ((dPow 0).num.d), .int .i64 ((dPow 0).exp)]) hf rfl tN_189 (hB5.at 0) rfl) ?_; intro a hf
   refine l_f0 hf (ef_store (vs := [.int .i64 ((dPow 0).num.a), .int .i64 ((dPow 0).num.b), .int .i64 ((dPow 0).num.c), .int .i64 ((dPow 0).num.d), .int .i64 ((dPow 0).exp)]) (l' := [.int .i64 ((dPow 0).num.a), .int .i64 ((dPow 0).num.b), .int .i64 ((dPow 0).num.c), .int .i64 ((dPow 0).num.d), .int .i64 ((dPow 0).exp)]) hf rfl rfl sz_189 hB3 rfl rfl rfl rfl rfl) ?_; rintro a _ w20 ⟨ho, hb⟩ hf
   have hold := hB3
   replace hB5 := hB5.only ho (by omega)
   replace hB6 := hB6.only ho (by omega)
   replace hW := Below.only hW ho hlo3
   clear hold
   have hB3 := hb
   clear hb ho
   refine wpList_nil ?_
   refine hK44 _ _ ?_; try clear hK44 K44
   refine wp_ret ?_
   refine x_retS ?_
   refine c_ret hf (res1 hf rfl (ResV.cellN (l := [.int .i64 ((dPow 0).num.a), .int .i64 ((dPow 0).num.b), .int .i64 ((dPow 0).num.c), .int .i64 ((dPow 0).num.d), .int .i64 ((dPow 0).exp)]) rfl tN_189 (hB3.at 0) rfl)) ?_
   exact ⟨(by rw [hfin]; try rfl), hW⟩
  have hc43b := hc43
  have hfin : cellS n g row col = dZ := by rw [cellS, if_neg h8, if_neg (fun e9 => ne_of_beqF hc43 (e9.trans hto))]
  refine wp_skip ?_
  refine hK41 _ _ ?_; try clear hK41 K41
  refine wp_seq_k ?_; intro K45 hK45
  refine wp_region_lit ?_
  refine l_e hf rfl (ev_loadN (l := [.int .i64 0, .int .i64 0, .int .i64 0, .int .i64 0, .int .i64 0]) hf rfl tN_189 (hB6.at 0) rfl) ?_; intro a hf
  refine l_f0 hf (ef_store (vs := [.int .i64 0, .int .i64 0, .int .i64 0, .int .i64 0, .int .i64 0]) (l' := [.int .i64 0, .int .i64 0, .int .i64 0, .int .i64 0, .int .i64 0]) hf rfl rfl sz_189 hB3 rfl rfl rfl rfl rfl) ?_; rintro a _ w21 ⟨ho, hb⟩ hf
  have hold := hB3
  replace hB5 := hB5.only ho (by omega)
  replace hB6 := hB6.only ho (by omega)
  replace hW := Below.only hW ho hlo3
  clear hold
  have hB3 := hb
  clear hb ho
  refine wpList_nil ?_
  refine hK45 _ _ ?_; try clear hK45 K45
  refine wp_ret ?_
  refine c_ret hf (res1 hf rfl (ResV.cellN (l := [.int .i64 0, .int .i64 0, .int .i64 0, .int .i64 0, .int .i64 0]) rfl tN_189 (hB3.at 0) rfl)) ?_
  exact ⟨(by rw [hfin]; try rfl), hW⟩
 have hc32b := hc32
 have h10 := ne_of_beqF hc32
 refine wp_seq_k ?_; intro K46 hK46
 refine wp_region_lit ?_
 refine l_e hf rfl (ev_eql hf rfl rfl) ?_; intro a hf
 refine l_as hf rfl rfl ?_; intro a hf
 refine wpList_nil ?_
 refine hK46 _ _ ?_; try clear hK46 K46
 refine c_if hf rfl (fun hc47 => ?_) (fun hc47 => ?_)
 ·have hc47b := hc47
  have hk := eq_of_beq hc47
  have h8 : ¬ g.k ≤ 8 := by omega
  have hv : valS n g col = dPow 0 := by simp [valS, hk]
  refine wp_seq_k ?_; intro K48 hK48
  refine wp_draw none (fun _ => false) mixed ?_
  intro w22 hE
  replace hB2 := hB2.below hE
  replace hB3 := hB3.below hE
  replace hB5 := hB5.below hE
  replace hB6 := hB6.below hE
  replace hW := btr hW hE
  clear hE
  refine s_e0 0 rfl (by kernel_rfl) hf rfl (fun _ => ev_move hf rfl) ?_; intro a hf
  refine s_e0 1 rfl (by kernel_rfl) hf rfl (fun _ => ev_move hf rfl) ?_; intro a hf
  refine s_e0 2 rfl (by kernel_rfl) hf rfl (fun _ => ev_fieldB hf rfl fd_107_1 (m := 1) rfl) ?_; intro a hf
  refine s_e 3 rfl (by kernel_rfl) (by kernel_rfl) hf rfl (ev_load1 hf rfl t1_3 (hB2.at 1)) ?_; intro a hf
  refine s_e0 5 rfl (by kernel_rfl) hf rfl (fun _ => ev_move hf rfl) ?_; intro a hf
  refine s_e0 6 rfl (by kernel_rfl) hf rfl (fun _ => ev_move hf rfl) ?_; intro a hf
  refine s_e0 7 rfl (by kernel_rfl) hf rfl (fun _ => ev_fieldB hf rfl fd_107_2 (m := 2) rfl) ?_; intro a hf
  refine s_e 8 rfl (by kernel_rfl) (by kernel_rfl) hf rfl (ev_load1 hf rfl t1_3 (hB2.at 2)) ?_; intro a hf
  refine s_one 4 (by kernel_rfl) ?_
  refine p_eff rfl hf trivial rfl rfl (Ef.mono (ef_call (vs := [.int .i64 n, .int .i64 col, .int .i64 g.a]) hf rfl ff_229 (F229 _ n col g.a (by omega) (by omega) (by omega))) (fun _ _ h => ⟨fun _ => by rw [← h.2]; exact Below.refl _ _, h⟩)) ?_; rintro a _ _ ⟨rfl, rfl⟩ hf
  refine s_one 9 (by kernel_rfl) ?_
  refine p_eff rfl hf trivial rfl rfl (Ef.mono (ef_call (vs := [.int .i64 n, .int .i64 col, .int .i64 g.b]) hf rfl ff_229 (F229 _ n col g.b (by omega) (by omega) (by omega))) (fun _ _ h => ⟨fun _ => by rw [← h.2]; exact Below.refl _ _, h⟩)) ?_; rintro a _ _ ⟨rfl, rfl⟩ hf
  refine s_e0 10 rfl (by kernel_rfl) hf rfl (fun _ => ev_neq hf rfl rfl) ?_; intro a hf
  refine s_done (by kernel_rfl) ?_
  refine hK48 _ _ ?_; try clear hK48 K48
  refine c_if hf rfl (fun hc49 => ?_) (fun hc49 => ?_)
  ·have hc49b := hc49
   have hto : toS n g col = flipF n (flipF n col g.a) g.b := by have h9 : bitF n col g.a ≠ bitF n col g.b := (by simpa using hc49); simp [toS, hk, h9]
   refine wp_region_lit ?_
   refine l_mv hf rfl rfl ?_; intro a hf
   refine l_mv hf rfl rfl ?_; intro a hf
   refine l_e hf rfl (ev_subx hf rfl rfl (by omega) (by omega)) ?_; intro a hf
   refine l_e hf rfl (ev_fieldB hf rfl fd_107_1 (m := 1) rfl) ?_; intro a hf
   refine l_e hf rfl (ev_load1 hf rfl t1_3 (hB2.at 1)) ?_; intro a hf
   refine l_e hf rfl (ev_subx hf rfl rfl (by omega) (by omega)) ?_; intro a hf
   refine l_e hf rfl (ev_toU (m := (n - 1 - g.a).toNat) Tryz.underlying3 Tryz.underlying181 hf rfl (by omega) (by omega)) ?_; intro a hf
   refine l_e hf rfl (ev_shl (m := (n - 1 - g.a).toNat) hf rfl rfl rfl (by omega)) ?_; intro a hf
   refine l_e hf rfl (ev_xor hf rfl rfl) ?_; intro a hf
   refine l_mv hf rfl rfl ?_; intro a hf
   refine l_e hf rfl (ev_subx hf rfl rfl (by omega) (by omega)) ?_; intro a hf
   refine l_e hf rfl (ev_fieldB hf rfl fd_107_2 (m := 2) rfl) ?_; intro a hf
   refine l_e hf rfl (ev_load1 hf rfl t1_3 (hB2.at 2)) ?_; intro a hf
   refine l_e hf rfl (ev_subx hf rfl rfl (by omega) (by omega)) ?_; intro a hf
   refine l_e hf rfl (ev_toU (m := (n - 1 - g.b).toNat) Tryz.underlying3 Tryz.underlying181 hf rfl (by omega) (by omega)) ?_; intro a hf
   refine l_e hf rfl (ev_shl (m := (n - 1 - g.b).toNat) hf rfl rfl rfl (by omega)) ?_; intro a hf
   refine l_e hf rfl (ev_xor hf rfl rfl) ?_; intro a hf
   refine l_as hf rfl rfl ?_; intro a hf
   refine wpList_nil ?_
   refine x_norm ?_
   refine hK8 _ _ ?_; try clear hK8 K8
   refine wp_seq_k ?_; intro K50 hK50
   refine wp_seq_k ?_; intro K51 hK51
   refine wp_region_lit ?_
   refine l_mv hf rfl rfl ?_; intro a hf
   refine l_mv hf rfl rfl ?_; intro a hf
   refine l_e hf rfl (ev_eql hf rfl rfl) ?_; intro a hf
   refine wpList_nil ?_
   refine hK51 _ _ ?_; try clear hK51 K51
   refine c_if hf rfl (fun hc52 => ?_) (fun hc52 => ?_)
   ·have hc52b := hc52
    have hfin : cellS n g row col = valS n g col := by rw [cellS, if_neg h8, if_pos ((eq_of_beq hc52).trans hto.symm)]
    rw [hv] at hfin
    refine wp_seq_k ?_; intro K53 hK53
    refine wp_region_lit ?_
    refine l_e hf rfl (ev_loadN (l := [.int .i64 ((dPow 0).num.a), .int .i64 ((dPow 0).num.b), .int .i64 ((dPow 0).num.c), .int .i64 ((dPow 0).num.d), .int .i64 ((dPow 0).exp)]) hf rfl tN_189 (hB5.at 0) rfl) ?_; intro a hf
    refine l_f0 hf (ef_store (vs := [.int .i64 ((dPow 0).num.a), .int .i64 ((dPow 0).num.b), .int .i64 ((dPow 0).num.c), .int .i64 ((dPow 0).num.d), .int .i64 ((dPow 0).exp)]) (l' := [.int .i64 ((dPow 0).num.a), .int .i64 ((dPow 0).num.b), .int .i64 ((dPow 0).num.c), .int .i64 ((dPow 0).num.d), .int .i64 ((dPow 0).exp)]) hf rfl rfl sz_189 hB3 rfl rfl rfl rfl rfl) ?_; rintro a _ w23 ⟨ho, hb⟩ hf
    have hold := hB3
    replace hB5 := hB5.only ho (by omega)
    replace hB6 := hB6.only ho (by omega)
    replace hW := Below.only hW ho hlo3
    clear hold
    have hB3 := hb
    clear hb ho
    refine wpList_nil ?_
    refine hK53 _ _ ?_; try clear hK53 K53
    refine wp_ret ?_
    refine x_retS ?_
    refine c_ret hf (res1 hf rfl (ResV.cellN (l := [.int .i64 ((dPow 0).num.a), .int .i64 ((dPow 0).num.b), .int .i64 ((dPow 0).num.c), .int .i64 ((dPow 0).num.d), .int .i64 ((dPow 0).exp)]) rfl tN_189 (hB3.at 0) rfl)) ?_
    exact ⟨(by rw [hfin]; try rfl), hW⟩
   have hc52b := hc52
   have hfin : cellS n g row col = dZ := by rw [cellS, if_neg h8, if_neg (fun e9 => ne_of_beqF hc52 (e9.trans hto))]
   refine wp_skip ?_
   refine hK50 _ _ ?_; try clear hK50 K50
   refine wp_seq_k ?_; intro K54 hK54
   refine wp_region_lit ?_
   refine l_e hf rfl (ev_loadN (l := [.int .i64 0, .int .i64 0, .int .i64 0, .int .i64 0, .int .i64 0]) hf rfl tN_189 (hB6.at 0) rfl) ?_; intro a hf
   refine l_f0 hf (ef_store (vs := [.int .i64 0, .int .i64 0, .int .i64 0, .int .i64 0, .int .i64 0]) (l' := [.int .i64 0, .int .i64 0, .int .i64 0, .int .i64 0, .int .i64 0]) hf rfl rfl sz_189 hB3 rfl rfl rfl rfl rfl) ?_; rintro a _ w24 ⟨ho, hb⟩ hf
   have hold := hB3
   replace hB5 := hB5.only ho (by omega)
   replace hB6 := hB6.only ho (by omega)
   replace hW := Below.only hW ho hlo3
   clear hold
   have hB3 := hb
   clear hb ho
   refine wpList_nil ?_
   refine hK54 _ _ ?_; try clear hK54 K54
   refine wp_ret ?_
   refine c_ret hf (res1 hf rfl (ResV.cellN (l := [.int .i64 0, .int .i64 0, .int .i64 0, .int .i64 0, .int .i64 0]) rfl tN_189 (hB3.at 0) rfl)) ?_
   exact ⟨(by rw [hfin]; try rfl), hW⟩
  have hc49b := hc49
  have hto : toS n g col = col := by have h9 : bitF n col g.a = bitF n col g.b := (by simpa using hc49); simp [toS, hk, h9]
  refine wp_skip ?_
  refine x_norm ?_
  refine hK8 _ _ ?_; try clear hK8 K8
  refine wp_seq_k ?_; intro K55 hK55
  refine wp_seq_k ?_; intro K56 hK56
  refine wp_region_lit ?_
  refine l_mv hf rfl rfl ?_; intro a hf
  refine l_mv hf rfl rfl ?_; intro a hf
  refine l_e hf rfl (ev_eql hf rfl rfl) ?_; intro a hf
  refine wpList_nil ?_
  refine hK56 _ _ ?_; try clear hK56 K56
  refine c_if hf rfl (fun hc57 => ?_) (fun hc57 => ?_)
  ·have hc57b := hc57
   have hfin : cellS n g row col = valS n g col := by rw [cellS, if_neg h8, if_pos ((eq_of_beq hc57).trans hto.symm)]
   rw [hv] at hfin
   refine wp_seq_k ?_; intro K58 hK58
   refine wp_region_lit ?_
   refine l_e hf rfl (ev_loadN (l := [.int .i64 ((dPow 0).num.a), .int .i64 ((dPow 0).num.b), .int .i64 ((dPow 0).num.c), .int .i64 ((dPow 0).num.d), .int .i64 ((dPow 0).exp)]) hf rfl tN_189 (hB5.at 0) rfl) ?_; intro a hf
   refine l_f0 hf (ef_store (vs := [.int .i64 ((dPow 0).num.a), .int .i64 ((dPow 0).num.b), .int .i64 ((dPow 0).num.c), .int .i64 ((dPow 0).num.d), .int .i64 ((dPow 0).exp)]) (l' := [.int .i64 ((dPow 0).num.a), .int .i64 ((dPow 0).num.b), .int .i64 ((dPow 0).num.c), .int .i64 ((dPow 0).num.d), .int .i64 ((dPow 0).exp)]) hf rfl rfl sz_189 hB3 rfl rfl rfl rfl rfl) ?_; rintro a _ w25 ⟨ho, hb⟩ hf
   have hold := hB3
   replace hB5 := hB5.only ho (by omega)
   replace hB6 := hB6.only ho (by omega)
   replace hW := Below.only hW ho hlo3
   clear hold
   have hB3 := hb
   clear hb ho
   refine wpList_nil ?_
   refine hK58 _ _ ?_; try clear hK58 K58
   refine wp_ret ?_
   refine x_retS ?_
   refine c_ret hf (res1 hf rfl (ResV.cellN (l := [.int .i64 ((dPow 0).num.a), .int .i64 ((dPow 0).num.b), .int .i64 ((dPow 0).num.c), .int .i64 ((dPow 0).num.d), .int .i64 ((dPow 0).exp)]) rfl tN_189 (hB3.at 0) rfl)) ?_
   exact ⟨(by rw [hfin]; try rfl), hW⟩
  have hc57b := hc57
  have hfin : cellS n g row col = dZ := by rw [cellS, if_neg h8, if_neg (fun e9 => ne_of_beqF hc57 (e9.trans hto))]
  refine wp_skip ?_
  refine hK55 _ _ ?_; try clear hK55 K55
  refine wp_seq_k ?_; intro K59 hK59
  refine wp_region_lit ?_
  refine l_e hf rfl (ev_loadN (l := [.int .i64 0, .int .i64 0, .int .i64 0, .int .i64 0, .int .i64 0]) hf rfl tN_189 (hB6.at 0) rfl) ?_; intro a hf
  refine l_f0 hf (ef_store (vs := [.int .i64 0, .int .i64 0, .int .i64 0, .int .i64 0, .int .i64 0]) (l' := [.int .i64 0, .int .i64 0, .int .i64 0, .int .i64 0, .int .i64 0]) hf rfl rfl sz_189 hB3 rfl rfl rfl rfl rfl) ?_; rintro a _ w26 ⟨ho, hb⟩ hf
  have hold := hB3
  replace hB5 := hB5.only ho (by omega)
  replace hB6 := hB6.only ho (by omega)
  replace hW := Below.only hW ho hlo3
  clear hold
  have hB3 := hb
  clear hb ho
  refine wpList_nil ?_
  refine hK59 _ _ ?_; try clear hK59 K59
  refine wp_ret ?_
  refine c_ret hf (res1 hf rfl (ResV.cellN (l := [.int .i64 0, .int .i64 0, .int .i64 0, .int .i64 0, .int .i64 0]) rfl tN_189 (hB3.at 0) rfl)) ?_
  exact ⟨(by rw [hfin]; try rfl), hW⟩
 have hc47b := hc47
 have h11 := ne_of_beqF hc47
 have h8 : g.k ≤ 8 := by omega
 refine wp_seq_k ?_; intro K60 hK60
 refine wp_seq_k ?_; intro K61 hK61
 refine wp_region_lit ?_
 refine l_mv hf rfl rfl ?_; intro a hf
 refine l_mv hf rfl rfl ?_; intro a hf
 refine l_e hf rfl (ev_xor hf rfl rfl) ?_; intro a hf
 refine l_mv hf rfl rfl ?_; intro a hf
 refine l_e hf rfl (ev_subx hf rfl rfl (by omega) (by omega)) ?_; intro a hf
 refine l_e hf rfl (ev_fieldB hf rfl fd_107_1 (m := 1) rfl) ?_; intro a hf
 refine l_e hf rfl (ev_load1 hf rfl t1_3 (hB2.at 1)) ?_; intro a hf
 refine l_e hf rfl (ev_subx hf rfl rfl (by omega) (by omega)) ?_; intro a hf
 refine l_e hf rfl (ev_toU (m := (n - 1 - g.a).toNat) Tryz.underlying3 Tryz.underlying181 hf rfl (by omega) (by omega)) ?_; intro a hf
 refine l_e hf rfl (ev_shl (m := (n - 1 - g.a).toNat) hf rfl rfl rfl (by omega)) ?_; intro a hf
 refine l_e hf rfl (ev_andNot hf rfl rfl) ?_; intro a hf
 refine l_e hf rfl (ev_neq hf rfl rfl) ?_; intro a hf
 refine wpList_nil ?_
 refine hK61 _ _ ?_; try clear hK61 K61
 refine c_if hf rfl (fun hc62 => ?_) (fun hc62 => ?_)
 ·have hc62b := hc62
  have hfin : cellS n g row col = dZ := by rw [cellS, if_pos h8, if_pos (by simpa using hc62)]
  refine wp_seq_k ?_; intro K63 hK63
  refine wp_region_lit ?_
  refine l_e hf rfl (ev_loadN (l := [.int .i64 0, .int .i64 0, .int .i64 0, .int .i64 0, .int .i64 0]) hf rfl tN_189 (hB6.at 0) rfl) ?_; intro a hf
  refine l_f0 hf (ef_store (vs := [.int .i64 0, .int .i64 0, .int .i64 0, .int .i64 0, .int .i64 0]) (l' := [.int .i64 0, .int .i64 0, .int .i64 0, .int .i64 0, .int .i64 0]) hf rfl rfl sz_189 hB3 rfl rfl rfl rfl rfl) ?_; rintro a _ w27 ⟨ho, hb⟩ hf
  have hold := hB3
  replace hB2 := hB2.only ho (Blk.ne hB2 hold rfl)
  replace hB6 := hB6.only ho (by omega)
  replace hW := Below.only hW ho hlo3
  clear hold
  have hB3 := hb
  clear hb ho
  refine wpList_nil ?_
  refine hK63 _ _ ?_; try clear hK63 K63
  refine wp_ret ?_
  refine x_retS ?_
  refine x_retB ?_
  refine x_retS ?_
  refine c_ret hf (res1 hf rfl (ResV.cellN (l := [.int .i64 0, .int .i64 0, .int .i64 0, .int .i64 0, .int .i64 0]) rfl tN_189 (hB3.at 0) rfl)) ?_
  exact ⟨(by rw [hfin]; try rfl), hW⟩
 have hc62b := hc62
 have hfin : cellS n g row col = (oneL g.k).getD (2 * bitF n row g.a + bitF n col g.a).toNat dZ := by rw [cellS, if_pos h8, if_neg (by simpa using hc62)]
 refine wp_skip ?_
 refine hK60 _ _ ?_; try clear hK60 K60
 refine wp_seq_k ?_; intro K64 hK64
 refine wp_draw none (fun j => [17].contains j) mixed ?_
 intro w28 hE
 replace hB2 := hB2.below hE
 replace hB3 := hB3.below hE
 replace hB6 := hB6.below hE
 replace hW := btr hW hE
 clear hE
 refine s_e0 0 rfl (by kernel_rfl) hf rfl (fun _ => ev_fieldB hf rfl fd_107_0 (m := 0) rfl) ?_; intro a hf
 refine s_e 1 rfl (by kernel_rfl) (by kernel_rfl) hf rfl (ev_load1 hf rfl t1_3 (hB2.at 0)) ?_; intro a hf
 refine s_e0 3 rfl (by kernel_rfl) hf rfl (fun _ => ev_move hf rfl) ?_; intro a hf
 refine s_e0 4 rfl (by kernel_rfl) hf rfl (fun _ => ev_move hf rfl) ?_; intro a hf
 refine s_e0 5 rfl (by kernel_rfl) hf rfl (fun _ => ev_fieldB hf rfl fd_107_1 (m := 1) rfl) ?_; intro a hf
 refine s_e 6 rfl (by kernel_rfl) (by kernel_rfl) hf rfl (ev_load1 hf rfl t1_3 (hB2.at 1)) ?_; intro a hf
 refine s_e0 9 rfl (by kernel_rfl) hf rfl (fun _ => ev_move hf rfl) ?_; intro a hf
 refine s_e0 10 rfl (by kernel_rfl) hf rfl (fun _ => ev_move hf rfl) ?_; intro a hf
 refine s_e0 11 rfl (by kernel_rfl) hf rfl (fun _ => ev_fieldB hf rfl fd_107_1 (m := 1) rfl) ?_; intro a hf
 refine s_e 12 rfl (by kernel_rfl) (by kernel_rfl) hf rfl (ev_load1 hf rfl t1_3 (hB2.at 1)) ?_; intro a hf
 refine s_one 2 (by kernel_rfl) ?_
 refine p_eff rfl hf trivial rfl rfl (Ef.mono (ef_call (vs := [.int .i64 g.k]) hf rfl ff_230 (F230 _ g.k (by omega))) (fun _ _ h => ⟨fun _ => by obtain ⟨A65, c65, rfl, ho65, hE⟩ := h; exact hE, h⟩)) ?_; rintro a _ w29 ⟨A65, c65, rfl, ho65, hE⟩ hf
 have haw65_3 := ho65.awayNew hB3.lt
 have haw65_6 := ho65.awayNew hB6.lt
 replace ho65 := ho65.lower hW.size
 replace hB2 := hB2.below hE
 replace hB3 := hB3.below hE
 replace hB6 := hB6.below hE
 replace hW := btr hW hE
 clear hE
 refine s_one 7 (by kernel_rfl) ?_
 refine p_eff rfl hf trivial rfl rfl (Ef.mono (ef_call (vs := [.int .i64 n, .int .i64 row, .int .i64 g.a]) hf rfl ff_229 (F229 _ n row g.a (by omega) (by omega) (by omega))) (fun _ _ h => ⟨fun _ => by rw [← h.2]; exact Below.refl _ _, h⟩)) ?_; rintro a _ _ ⟨rfl, rfl⟩ hf
 refine s_e0 8 rfl (by kernel_rfl) hf rfl (fun _ => ev_mulx hf rfl rfl (by omega) (by omega)) ?_; intro a hf
 refine s_one 13 (by kernel_rfl) ?_
 refine p_eff rfl hf trivial rfl rfl (Ef.mono (ef_call (vs := [.int .i64 n, .int .i64 col, .int .i64 g.a]) hf rfl ff_229 (F229 _ n col g.a (by omega) (by omega) (by omega))) (fun _ _ h => ⟨fun _ => by rw [← h.2]; exact Below.refl _ _, h⟩)) ?_; rintro a _ _ ⟨rfl, rfl⟩ hf
 refine s_e0 14 rfl (by kernel_rfl) hf rfl (fun _ => ev_addx hf rfl rfl (by omega) (by omega)) ?_; intro a hf
 refine s_index (k := (2 * bitF n row g.a + bitF n col g.a).toNat) (u := ((oneL g.k).getD (2 * bitF n row g.a + bitF n col g.a).toNat dZ)) (enc := encD) (l := (oneL g.k)) 15 rfl (by kernel_rfl) (by kernel_rfl) hf trivial rfl rfl rfl sl_139 sz_189 encD_len ho65.rd (oneL_get (by omega)) (by omega) ?_; intro a p67 hat66 hf
 refine s_e 16 rfl (by kernel_rfl) (by kernel_rfl) hf rfl (ev_loadN (l := [.int .i64 (((oneL g.k).getD (2 * bitF n row g.a + bitF n col g.a).toNat dZ).num.a), .int .i64 (((oneL g.k).getD (2 * bitF n row g.a + bitF n col g.a).toNat dZ).num.b), .int .i64 (((oneL g.k).getD (2 * bitF n row g.a + bitF n col g.a).toNat dZ).num.c), .int .i64 (((oneL g.k).getD (2 * bitF n row g.a + bitF n col g.a).toNat dZ).num.d), .int .i64 (((oneL g.k).getD (2 * bitF n row g.a + bitF n col g.a).toNat dZ).exp)]) hf rfl tN_189 hat66 rfl) ?_; intro a hf
 refine s_one 17 (by kernel_rfl) ?_
 refine p_eff0 rfl hf trivial rfl (Ef.mono (ef_store (vs := [.int .i64 (((oneL g.k).getD (2 * bitF n row g.a + bitF n col g.a).toNat dZ).num.a), .int .i64 (((oneL g.k).getD (2 * bitF n row g.a + bitF n col g.a).toNat dZ).num.b), .int .i64 (((oneL g.k).getD (2 * bitF n row g.a + bitF n col g.a).toNat dZ).num.c), .int .i64 (((oneL g.k).getD (2 * bitF n row g.a + bitF n col g.a).toNat dZ).num.d), .int .i64 (((oneL g.k).getD (2 * bitF n row g.a + bitF n col g.a).toNat dZ).exp)]) (l' := [.int .i64 (((oneL g.k).getD (2 * bitF n row g.a + bitF n col g.a).toNat dZ).num.a), .int .i64 (((oneL g.k).getD (2 * bitF n row g.a + bitF n col g.a).toNat dZ).num.b), .int .i64 (((oneL g.k).getD (2 * bitF n row g.a + bitF n col g.a).toNat dZ).num.c), .int .i64 (((oneL g.k).getD (2 * bitF n row g.a + bitF n col g.a).toNat dZ).num.d), .int .i64 (((oneL g.k).getD (2 * bitF n row g.a + bitF n col g.a).toNat dZ).exp)]) hf rfl rfl sz_189 hB3 rfl rfl rfl rfl rfl) (fun _ _ h => ⟨fun h0 => absurd h0 (by decide), h⟩)) ?_; rintro a _ w30 ⟨ho, hb⟩ hf
 have hold := hB3
 replace hB2 := hB2.only ho (Blk.ne hB2 hold rfl)
 replace hB6 := hB6.only ho (by omega)
 replace ho65 := ho65.onlyA ho haw65_3
 replace hW := Below.only hW ho hlo3
 clear hold
 have hB3 := hb
 clear hb ho
 refine s_done (by kernel_rfl) ?_
 refine hK64 _ _ ?_; try clear hK64 K64
 refine wp_ret ?_
 refine x_retB ?_
 refine x_retS ?_
 refine c_ret hf (res1 hf rfl (ResV.cellN (l := [.int .i64 (((oneL g.k).getD (2 * bitF n row g.a + bitF n col g.a).toNat dZ).num.a), .int .i64 (((oneL g.k).getD (2 * bitF n row g.a + bitF n col g.a).toNat dZ).num.b), .int .i64 (((oneL g.k).getD (2 * bitF n row g.a + bitF n col g.a).toNat dZ).num.c), .int .i64 (((oneL g.k).getD (2 * bitF n row g.a + bitF n col g.a).toNat dZ).num.d), .int .i64 (((oneL g.k).getD (2 * bitF n row g.a + bitF n col g.a).toNat dZ).exp)]) rfl tN_189 (hB3.at 0) rfl)) ?_
 exact ⟨(by rw [hfin]; try rfl), hW⟩
end Go.Proofs.YtfgnmflfiobkmaaGreat
set_option maxRecDepth 4000
namespace Go.Proofs.YtfgnmflfiobkmaaGreat
open Go.RowKit
theorem F143 (w0 : World) (n : Int) (g : Gt) (hg : gOk n g = true) : Ret Tryz.prog 143 [.int .i64 n, .agg #[.int .i64 g.k, .int .i64 g.a, .int .i64 g.b]] w0 (fun v w => ∃ A c, v = mV A c (gateS n g) ∧ Own w w0.heap.size 189 5 encD A c (gateS n g).cells ∧ Below w0.heap.size w0 w) := by
 have hg2 := gOk_spec hg
 obtain ⟨d, hd⟩ : ∃ d : Nat, d = 2 ^ n.toNat := ⟨_, rfl⟩
 have hd32 : d ≤ 32 := by rw [hd]; exact pow_le32 hg2.1.2
 refine enter Tryz.func143 rfl 36 rfl rfl ?_
 intro a hf
 have hW : Below w0.heap.size w0 w0 := Below.refl _ _
 refine wp_seq_k ?_; intro K1 hK1
 refine wp_region_lit ?_
 refine l_f hf rfl (ef_box (zs := [.int .i64 g.k, .int .i64 g.a, .int .i64 g.b]) hf rfl rfl) ?_; rintro a _ w1 ⟨b2, rfl, hl2, hE, hB2⟩ hf
 have hlo2 := Nat.le_trans hW.size hl2
 replace hW := btr hW hE
 clear hE
 refine l_f hf rfl (ef_alloc (zs := [.int .i64 0, .int .i64 0, .slice none 0 0]) z_141 rfl) ?_; rintro a _ w2 ⟨b4, rfl, hl4, hE, hB4⟩ hf
 have hlo4 := Nat.le_trans hW.size hl4
 replace hB2 := hB2.below hE
 replace hW := btr hW hE
 clear hE
 refine wpList_nil ?_
 refine hK1 _ _ ?_; try clear hK1 K1
 refine wp_seq_k ?_; intro K5 hK5
 refine wp_region_lit ?_
 refine l_mv hf rfl rfl ?_; intro a hf
 refine l_e hf rfl (ev_toU (m := n.toNat) Tryz.underlying3 Tryz.underlying181 hf rfl (by omega) (by omega)) ?_; intro a hf
 refine l_e hf rfl (ev_shl1 (m := n.toNat) (D := d) hf rfl rfl rfl ⟨hd, by omega⟩) ?_; intro a hf
 refine l_as hf rfl rfl ?_; intro a hf
 refine wpList_nil ?_
 refine hK5 _ _ ?_; try clear hK5 K5
 refine wp_seq_k ?_; intro K6 hK6
 refine wp_region_lit ?_
 refine l_mv hf rfl rfl ?_; intro a hf
 refine l_mv hf rfl rfl ?_; intro a hf
 refine l_e hf rfl (ev_build (ps := [(0, .int .i64 (d : Int)), (1, .int .i64 (d : Int))]) (cs := [.int .i64 (d : Int), .int .i64 (d : Int), .slice none 0 0]) hf rfl (fun _ => by first | rfl | kernel_rfl)) ?_; intro a hf
 refine l_f hf rfl (ef_alloc (zs := [.int .i64 0, .int .i64 0, .slice none 0 0]) z_141 rfl) ?_; rintro a _ w3 ⟨b9, rfl, hl9, hE, hB9⟩ hf
 have hne4_9 : b4 ≠ b9 := by have := hB4.lt; omega
 have hlo9 := Nat.le_trans hW.size hl9
 replace hB2 := hB2.below hE
 replace hB4 := hB4.below hE
 replace hW := btr hW hE
 clear hE
 refine l_f0 hf (ef_store (vs := [.int .i64 (d : Int), .int .i64 (d : Int), .slice none 0 0]) (l' := [.int .i64 (d : Int), .int .i64 (d : Int), .slice none 0 0]) hf rfl rfl sz_141 hB9 rfl rfl rfl rfl rfl) ?_; rintro a _ w4 ⟨ho, hb⟩ hf
 have hold := hB9
 replace hB2 := hB2.only ho (Blk.ne hB2 hold rfl)
 replace hB4 := hB4.only ho (by omega)
 replace hW := Below.only hW ho hlo9
 clear hold
 have hB9 := hb
 clear hb ho
 refine wpList_nil ?_
 refine hK6 _ _ ?_; try clear hK6 K6
 refine wp_seq_k ?_; intro K10 hK10
 refine wp_seq_k ?_; intro K11 hK11
 refine wp_region_lit ?_
 refine l_as hf rfl rfl ?_; intro a hf
 refine wpList_nil ?_
 refine hK11 _ _ ?_; try clear hK11 K11
 refine wp_block ?_
 refine c_loop (σ := Nat × (List Dy)) (fun (s : Nat × (List Dy)) (a : Act) (w : World) => match s with | (i, l) => ∃ A12 c12, Fr a 36 [(0, .int .i64 n), (3, .pointer (some ⟨b2, 0, none⟩)), (4, .pointer (some ⟨b4, 0, none⟩)), (5, .int .i64 (d : Int)), (6, .pointer (some ⟨b9, 0, none⟩)), (7, .int .i64 (i : Int))] ∧ (i ≤ d) ∧ (gridL (fun i j => cellS n g (i : Int) (j : Int)) d (i * d) = l) ∧ Blk w b2 107 [.int .i64 g.k, .int .i64 g.a, .int .i64 g.b] ∧ Blk w b4 141 [.int .i64 0, .int .i64 0, .slice none 0 0] ∧ Blk w b9 141 [.int .i64 (d : Int), .int .i64 (d : Int), .slice A12 l.length c12] ∧ Own w w0.heap.size 189 5 encD A12 c12 l ∧ Below w0.heap.size w0 w) (fun (s : Nat × (List Dy)) => match s with | (i, l) => d - i) (0, []) ?_ ?_
 · exact ⟨none, 0, hf.sub ⟨rfl, rfl, rfl, rfl, rfl, rfl, trivial⟩, (Nat.zero_le _), (by rw [Nat.zero_mul]; rfl), hB2, hB4, hB9, (Own.nil _ _ _ _ _), hW⟩
 rintro ⟨i, l⟩ a w5 ⟨A12, c12, hf, hiR, hl, hB2, hB4, hB9, ho12, hW⟩
 refine wp_seq_k ?_; intro K13 hK13
 refine wp_seq_k ?_; intro K14 hK14
 refine wp_region_lit ?_
 refine l_mv hf rfl rfl ?_; intro a hf
 refine l_mv hf rfl rfl ?_; intro a hf
 refine l_e hf rfl (ev_lss hf rfl rfl) ?_; intro a hf
 refine wpList_nil ?_
 refine hK14 _ _ ?_; try clear hK14 K14
 refine c_if hf rfl (fun hc15 => ?_) (fun hc15 => ?_)
 ·have hc15b := hc15
  have hc15 := of_decide_eq_true hc15
  have hi1 : i < d := by have := hc15; omega
  have hb1 : i * d ≤ 1024 := Nat.le_trans (Nat.mul_le_mul (show i ≤ 32 by omega) hd32) (by decide)
  refine wp_skip ?_
  refine hK13 _ _ ?_; try clear hK13 K13
  refine wp_seq_k ?_; intro K16 hK16
  refine wp_block ?_
  refine wp_seq_k ?_; intro K17 hK17
  refine wp_region_lit ?_
  refine l_as hf rfl rfl ?_; intro a hf
  refine wpList_nil ?_
  refine hK17 _ _ ?_; try clear hK17 K17
  refine wp_block ?_
  refine c_loop (σ := Nat × (List Dy)) (fun (s : Nat × (List Dy)) (a : Act) (w : World) => match s with | (j, l2) => ∃ A18 c18, Fr a 36 [(0, .int .i64 n), (3, .pointer (some ⟨b2, 0, none⟩)), (4, .pointer (some ⟨b4, 0, none⟩)), (5, .int .i64 (d : Int)), (6, .pointer (some ⟨b9, 0, none⟩)), (7, .int .i64 (i : Int)), (8, .int .i64 (j : Int))] ∧ (j ≤ d) ∧ (gridL (fun i j => cellS n g (i : Int) (j : Int)) d (i * d + j) = l2) ∧ Blk w b2 107 [.int .i64 g.k, .int .i64 g.a, .int .i64 g.b] ∧ Blk w b4 141 [.int .i64 0, .int .i64 0, .slice none 0 0] ∧ Blk w b9 141 [.int .i64 (d : Int), .int .i64 (d : Int), .slice A18 l2.length c18] ∧ Own w w0.heap.size 189 5 encD A18 c18 l2 ∧ Below w0.heap.size w0 w) (fun (s : Nat × (List Dy)) => match s with | (j, l2) => d - j) (0, l) ?_ ?_
  · exact ⟨A12, c12, hf.sub ⟨rfl, rfl, rfl, rfl, rfl, rfl, rfl, trivial⟩, (Nat.zero_le _), hl, hB2, hB4, hB9, ho12, hW⟩
  rintro ⟨j, l2⟩ a w6 ⟨A18, c18, hf, hjC, hl2, hB2, hB4, hB9, ho18, hW⟩
  refine wp_seq_k ?_; intro K19 hK19
  refine wp_seq_k ?_; intro K20 hK20
  refine wp_region_lit ?_
  refine l_mv hf rfl rfl ?_; intro a hf
  refine l_mv hf rfl rfl ?_; intro a hf
  refine l_e hf rfl (ev_lss hf rfl rfl) ?_; intro a hf
  refine wpList_nil ?_
  refine hK20 _ _ ?_; try clear hK20 K20
  refine c_if hf rfl (fun hc21 => ?_) (fun hc21 => ?_)
  ·have hc21b := hc21
   have hc21 := of_decide_eq_true hc21
   have hj1 : j < d := by have := hc21; omega
   have hlen : l2.length = i * d + j := by rw [← hl2, gridL_len]
   refine wp_skip ?_
   refine hK19 _ _ ?_; try clear hK19 K19
   refine wp_seq_k ?_; intro K22 hK22
   refine wp_block ?_
   refine wp_draw none (fun j => [8, 10].contains j) mixed ?_
   intro w7 hE
   replace hB2 := hB2.below hE
   replace hB4 := hB4.below hE
   replace hB9 := hB9.below hE
   replace ho18 := ho18.below hE
   replace hW := btr hW hE
   clear hE
   refine s_e0 0 rfl (by kernel_rfl) hf rfl (fun _ => ev_fieldB hf rfl fd_141_2 (m := 2) rfl) ?_; intro a hf
   refine s_e 1 rfl (by kernel_rfl) (by kernel_rfl) hf rfl (ev_load1 hf rfl t1_139 (hB9.at 2)) ?_; intro a hf
   refine s_e0 2 rfl (by kernel_rfl) hf rfl (fun _ => ev_move hf rfl) ?_; intro a hf
   refine s_e 3 rfl (by kernel_rfl) (by kernel_rfl) hf rfl (ev_loadN (l := [.int .i64 g.k, .int .i64 g.a, .int .i64 g.b]) hf rfl tN_107 (hB2.at 0) rfl) ?_; intro a hf
   refine s_e0 4 rfl (by kernel_rfl) hf rfl (fun _ => ev_move hf rfl) ?_; intro a hf
   refine s_e0 5 rfl (by kernel_rfl) hf rfl (fun _ => ev_move hf rfl) ?_; intro a hf
   refine s_one 6 (by kernel_rfl) ?_
   refine p_eff rfl hf trivial rfl rfl (Ef.mono (ef_call (vs := [.int .i64 n, .agg #[.int .i64 g.k, .int .i64 g.a, .int .i64 g.b], .int .i64 (i : Int), .int .i64 (j : Int)]) hf rfl ff_199 (F199 _ n g (i : Int) (j : Int) hg)) (fun _ _ h => ⟨fun _ => by obtain ⟨rfl, hE⟩ := h; exact hE, h⟩)) ?_; rintro a _ w8 ⟨rfl, hE⟩ hf
   replace hB2 := hB2.below hE
   replace hB4 := hB4.below hE
   replace hB9 := hB9.below hE
   replace ho18 := ho18.below hE
   replace hW := btr hW hE
   clear hE
   refine s_one 7 (by kernel_rfl) ?_
   refine p_eff rfl hf trivial rfl rfl (Ef.mono (ef_buildSlice (k := 1) (vs := [.agg #[.int .i64 ((cellS n g (i : Int) (j : Int)).num.a), .int .i64 ((cellS n g (i : Int) (j : Int)).num.b), .int .i64 ((cellS n g (i : Int) (j : Int)).num.c), .int .i64 ((cellS n g (i : Int) (j : Int)).num.d), .int .i64 ((cellS n g (i : Int) (j : Int)).exp)]]) (zs := [.int .i64 ((cellS n g (i : Int) (j : Int)).num.a), .int .i64 ((cellS n g (i : Int) (j : Int)).num.b), .int .i64 ((cellS n g (i : Int) (j : Int)).num.c), .int .i64 ((cellS n g (i : Int) (j : Int)).num.d), .int .i64 ((cellS n g (i : Int) (j : Int)).exp)]) hf rfl sl_139 inf_189 rfl rfl) (fun _ _ h => ⟨fun _ => by obtain ⟨_, _, _, hE, _⟩ := h; exact hE, h⟩)) ?_; rintro a _ w9 ⟨b23, rfl, hl23, hE, hB23⟩ hf
   have hlo23 := Nat.le_trans hW.size hl23
   have haw18_23 := ho18.away hl23
   replace hB2 := hB2.below hE
   replace hB4 := hB4.below hE
   replace hB9 := hB9.below hE
   replace ho18 := ho18.below hE
   replace hW := btr hW hE
   clear hE
   refine s_one 8 (by kernel_rfl) ?_
   refine p_eff rfl hf trivial rfl rfl (Ef.mono (ef_append (enc := encD) (l := (l2)) (l2 := ([(cellS n g (i : Int) (j : Int))])) (B0 := w0.heap.size) hf rfl rfl sl_139 inf_189 encD_len encD_one ho18 (Rd.of_blk hB23 rfl _ hB23.lt) (by simp only [maxLen]; simp; omega) (by simp; omega) hW.size) (fun _ _ h => ⟨fun h0 => absurd h0 (by decide), h⟩)) ?_; rintro a _ w10 ⟨A25, c25, rfl, ho25, hg, hat⟩ hf
   have hown : Own _ w0.heap.size 189 5 encD _ _ (l2) := ho18
   have haw25_23 := hat _ hB23.lt haw18_23
   clear hat
   replace hB2 := hB2.appT hown hg rfl
   replace hB4 := hB4.appT hown hg rfl
   replace hB9 := hB9.appT hown hg rfl
   replace hW := Below.app hW hown hg (Nat.le_refl _) hW.size
   clear hown hg
   refine s_e0 9 rfl (by kernel_rfl) hf rfl (fun _ => ev_fieldB hf rfl fd_141_2 (m := 2) rfl) ?_; intro a hf
   refine s_one 10 (by kernel_rfl) ?_
   refine p_eff0 rfl hf trivial rfl (Ef.mono (ef_store (vs := [.slice A25 (l2 ++ ([(cellS n g (i : Int) (j : Int))])).length c25]) (l' := [.int .i64 (d : Int), .int .i64 (d : Int), .slice A25 (l2 ++ ([(cellS n g (i : Int) (j : Int))])).length c25]) hf rfl rfl sz_139 hB9 rfl rfl rfl rfl rfl) (fun _ _ h => ⟨fun h0 => absurd h0 (by decide), h⟩)) ?_; rintro a _ w11 ⟨ho, hb⟩ hf
   have hold := hB9
   replace hB2 := hB2.only ho (Blk.ne hB2 hold rfl)
   replace hB4 := hB4.only ho (by omega)
   replace ho25 := ho25.onlyT ho hold rfl
   replace hW := Below.only hW ho hlo9
   clear hold
   have hB9 := hb
   clear hb ho
   refine s_done (by kernel_rfl) ?_
   refine x_norm ?_
   refine hK22 _ _ ?_; try clear hK22 K22
   refine wp_region_lit ?_
   refine l_mv hf rfl rfl ?_; intro a hf
   refine l_e hf rfl (ev_addx hf rfl rfl (by omega) (by omega)) ?_; intro a hf
   refine l_as hf rfl rfl ?_; intro a hf
   refine wpList_nil ?_
   refine x_thenN ?_
   exact ⟨(j + 1, l2 ++ [(cellS n g (i : Int) (j : Int))]), ⟨A25, c25, hf.sub ⟨rfl, rfl, rfl, rfl, rfl, rfl, rfl, trivial⟩, (by omega), (by rw [gridL_step hj1, hl2]), hB2, hB4, hB9, ho25, hW⟩, (by first | omega | (dsimp only; omega))⟩
  have hc21b := hc21
  have hc21 := of_decide_eq_false hc21
  have hj1 : j = d := by have := hc21; omega
  refine wp_exit ?_
  refine x_exS ?_
  refine x_exS ?_
  refine x_exit ?_
  refine x_norm ?_
  refine hK16 _ _ ?_; try clear hK16 K16
  refine wp_region_lit ?_
  refine l_mv hf rfl rfl ?_; intro a hf
  refine l_e hf rfl (ev_addx hf rfl rfl (by omega) (by omega)) ?_; intro a hf
  refine l_as hf rfl rfl ?_; intro a hf
  refine wpList_nil ?_
  refine x_thenN ?_
  exact ⟨(i + 1, l2), ⟨A18, c18, hf.sub ⟨rfl, rfl, rfl, rfl, rfl, rfl, trivial⟩, (by omega), (by rw [Nat.add_mul, Nat.one_mul, ← hl2, hj1]), hB2, hB4, hB9, ho18, hW⟩, (by first | omega | (dsimp only; omega))⟩
 have hc15b := hc15
 have hc15 := of_decide_eq_false hc15
 have hi1 : i = d := by have := hc15; omega
 refine wp_exit ?_
 refine x_exS ?_
 refine x_exS ?_
 refine x_exit ?_
 refine hK10 _ _ ?_; try clear hK10 K10
 refine wp_seq_k ?_; intro K26 hK26
 refine wp_region_lit ?_
 refine l_e hf rfl (ev_loadN (l := [.int .i64 (d : Int), .int .i64 (d : Int), .slice A12 l.length c12]) hf rfl tN_141 (hB9.at 0) rfl) ?_; intro a hf
 refine l_f0 hf (ef_store (vs := [.int .i64 (d : Int), .int .i64 (d : Int), .slice A12 l.length c12]) (l' := [.int .i64 (d : Int), .int .i64 (d : Int), .slice A12 l.length c12]) hf rfl rfl sz_141 hB4 rfl rfl rfl rfl rfl) ?_; rintro a _ w12 ⟨ho, hb⟩ hf
 have hold := hB4
 replace hB2 := hB2.only ho (Blk.ne hB2 hold rfl)
 replace hB9 := hB9.only ho (by omega)
 replace ho12 := ho12.onlyT ho hold rfl
 replace hW := Below.only hW ho hlo4
 clear hold
 have hB4 := hb
 clear hb ho
 refine wpList_nil ?_
 refine hK26 _ _ ?_; try clear hK26 K26
 refine wp_ret ?_
 refine c_ret hf (res1 hf rfl (ResV.cellN (l := [.int .i64 (d : Int), .int .i64 (d : Int), .slice A12 l.length c12]) rfl tN_141 (hB4.at 0) rfl)) ?_
 have hfin : gateS n g = ⟨(d : Int), (d : Int), l⟩ := by rw [gateS, ← hl, hi1, hd]
 rw [hfin]
 exact ⟨A12, c12, rfl, ho12, hW⟩
end Go.Proofs.YtfgnmflfiobkmaaGreat
set_option maxRecDepth 4000
namespace Go.Proofs.YtfgnmflfiobkmaaGreat
open Go.RowKit
end Go.Proofs.YtfgnmflfiobkmaaGreat
set_option maxRecDepth 4000
namespace Go.Proofs.YtfgnmflfiobkmaaGreat
open Go.RowKit
theorem F101 (w0 : World) (n : Int) (g : Gt) (hn : 1 ≤ n ∧ n ≤ 5) : Ret Tryz.prog 101 [.int .i64 n, .agg #[.int .i64 g.k, .int .i64 g.a, .int .i64 g.b]] w0 (fun v w => v = .bool (gOk n g) ∧ Below w0.heap.size w0 w) := by
 refine enter Tryz.func101 rfl 55 rfl rfl ?_
 intro a hf
 have hW : Below w0.heap.size w0 w0 := Below.refl _ _
 refine wp_seq_k ?_; intro K1 hK1
 refine wp_region_lit ?_
 refine l_f hf rfl (ef_box (zs := [.int .i64 g.k, .int .i64 g.a, .int .i64 g.b]) hf rfl rfl) ?_; rintro a _ w1 ⟨b2, rfl, hl2, hE, hB2⟩ hf
 have hlo2 := Nat.le_trans hW.size hl2
 replace hW := btr hW hE
 clear hE
 refine l_as hf rfl rfl ?_; intro a hf
 refine wpList_nil ?_
 refine hK1 _ _ ?_; try clear hK1 K1
 refine wp_seq_k ?_; intro K3 hK3
 refine wp_block ?_
 refine wp_seq_k ?_; intro K4 hK4
 refine wp_region_lit ?_
 refine l_e hf rfl (ev_fieldB hf rfl fd_107_0 (m := 0) rfl) ?_; intro a hf
 refine l_e hf rfl (ev_load1 hf rfl t1_3 (hB2.at 0)) ?_; intro a hf
 refine l_f hf rfl (ef_call (vs := [.int .i64 g.k, .int .i64 1, .int .i64 8]) hf rfl ff_85 (F85 _ g.k 1 8)) ?_; rintro a _ _ ⟨rfl, rfl⟩ hf
 refine l_as hf rfl rfl ?_; intro a hf
 refine wpList_nil ?_
 refine hK4 _ _ ?_; try clear hK4 K4
 refine c_if hf rfl (fun hc5 => ?_) (fun hc5 => ?_)
 ·have hc5b := hc5
  have hf0 := gOk1 hn hc5
  refine wp_seq_k ?_; intro K6 hK6
  refine c_cut (fun a w => Fr a 55 [(4, .bool ((inR g.a 0 (n - 1)) && (g.b == 0)))] ∧ w1 = w) ?_ ?_
  ·refine wp_region_lit ?_
   refine l_e hf rfl (ev_fieldB hf rfl fd_107_1 (m := 1) rfl) ?_; intro a hf
   refine l_e hf rfl (ev_load1 hf rfl t1_3 (hB2.at 1)) ?_; intro a hf
   refine l_mv hf rfl rfl ?_; intro a hf
   refine l_e hf rfl (ev_subx hf rfl rfl (by omega) (by omega)) ?_; intro a hf
   refine l_f hf rfl (ef_call (vs := [.int .i64 g.a, .int .i64 0, .int .i64 (n - 1)]) hf rfl ff_85 (F85 _ g.a 0 (n - 1))) ?_; rintro a _ _ ⟨rfl, rfl⟩ hf
   refine l_mv hf rfl rfl ?_; intro a hf
   refine g_split hf (t := 14) rfl (fun hg7 => ?_) (fun hg7 => ?_)
   ·refine l_ev hf ⟨_, _, rfl, rfl, hg7⟩ rfl rfl (ev_fieldB hf rfl fd_107_2 (m := 2) rfl) ?_; intro a hf
    refine l_ev hf ⟨_, _, rfl, rfl, hg7⟩ rfl rfl (ev_load1 hf rfl t1_3 (hB2.at 2)) ?_; intro a hf
    refine l_ev hf ⟨_, _, rfl, rfl, hg7⟩ rfl rfl (ev_eql hf rfl rfl) ?_; intro a hf
    refine l_e hf rfl (ev_pickT hf rfl hg7 rfl) ?_; intro a hf
    refine l_as hf rfl rfl ?_; intro a hf
    refine wpList_nil ?_
    exact ⟨hf.sub ⟨look_bool rfl (by first | rfl | (simp only [hc5b, hg7, Bool.true_and, Bool.false_and, Bool.true_or, Bool.false_or]; done) | simp [hc5b, hg7]), trivial⟩, rfl⟩
   refine l_pass hf ⟨_, _, rfl, rfl, hg7⟩ rfl rfl ?_; intro a hf
   refine l_pass hf ⟨_, _, rfl, rfl, hg7⟩ rfl rfl ?_; intro a hf
   refine l_pass hf ⟨_, _, rfl, rfl, hg7⟩ rfl rfl ?_; intro a hf
   refine l_e hf rfl (ev_pickF hf rfl hg7 rfl) ?_; intro a hf
   refine l_as hf rfl rfl ?_; intro a hf
   refine wpList_nil ?_
   exact ⟨hf.sub ⟨look_bool rfl (by first | rfl | (simp only [hc5b, hg7, Bool.true_and, Bool.false_and, Bool.true_or, Bool.false_or]; done) | simp [hc5b, hg7]), trivial⟩, rfl⟩
  rintro a _ ⟨hf, rfl⟩
  refine hK6 _ _ ?_; try clear hK6 K6
  refine wp_ret ?_
  refine x_retB ?_
  refine x_retS ?_
  refine c_ret hf (res1 hf rfl rfl) ?_
  exact ⟨by rw [hf0], hW⟩
 have hc5b := hc5
 have h18 := hc5
 refine wp_seq_k ?_; intro K8 hK8
 refine wp_region_lit ?_
 refine l_e hf rfl (ev_fieldB hf rfl fd_107_0 (m := 0) rfl) ?_; intro a hf
 refine l_e hf rfl (ev_load1 hf rfl t1_3 (hB2.at 0)) ?_; intro a hf
 refine l_f hf rfl (ef_call (vs := [.int .i64 g.k, .int .i64 9, .int .i64 11]) hf rfl ff_85 (F85 _ g.k 9 11)) ?_; rintro a _ _ ⟨rfl, rfl⟩ hf
 refine l_as hf rfl rfl ?_; intro a hf
 refine wpList_nil ?_
 refine hK8 _ _ ?_; try clear hK8 K8
 refine c_if hf rfl (fun hc9 => ?_) (fun hc9 => ?_)
 ·have hc9b := hc9
  have hf0 := gOk2 hn hc9
  refine wp_seq_k ?_; intro K10 hK10
  refine c_cut (fun a w => Fr a 55 [(4, .bool (((inR g.a 0 (n - 1)) && (inR g.b 0 (n - 1))) && (g.a != g.b)))] ∧ w1 = w) ?_ ?_
  ·refine wp_region_lit ?_
   refine l_e hf rfl (ev_fieldB hf rfl fd_107_1 (m := 1) rfl) ?_; intro a hf
   refine l_e hf rfl (ev_load1 hf rfl t1_3 (hB2.at 1)) ?_; intro a hf
   refine l_mv hf rfl rfl ?_; intro a hf
   refine l_e hf rfl (ev_subx hf rfl rfl (by omega) (by omega)) ?_; intro a hf
   refine l_f hf rfl (ef_call (vs := [.int .i64 g.a, .int .i64 0, .int .i64 (n - 1)]) hf rfl ff_85 (F85 _ g.a 0 (n - 1))) ?_; rintro a _ _ ⟨rfl, rfl⟩ hf
   refine l_mv hf rfl rfl ?_; intro a hf
   refine g_split hf (t := 28) rfl (fun hg11 => ?_) (fun hg11 => ?_)
   ·refine l_ev hf ⟨_, _, rfl, rfl, hg11⟩ rfl rfl (ev_fieldB hf rfl fd_107_2 (m := 2) rfl) ?_; intro a hf
    refine l_ev hf ⟨_, _, rfl, rfl, hg11⟩ rfl rfl (ev_load1 hf rfl t1_3 (hB2.at 2)) ?_; intro a hf
    refine l_ev hf ⟨_, _, rfl, rfl, hg11⟩ rfl rfl (ev_move hf rfl) ?_; intro a hf
    refine l_ev hf ⟨_, _, rfl, rfl, hg11⟩ rfl rfl (ev_subx hf rfl rfl (by omega) (by omega)) ?_; intro a hf
    refine l_eff hf ⟨_, _, rfl, rfl, hg11⟩ rfl rfl (ef_call (vs := [.int .i64 g.b, .int .i64 0, .int .i64 (n - 1)]) hf rfl ff_85 (F85 _ g.b 0 (n - 1))) ?_; rintro a _ _ ⟨rfl, rfl⟩ hf
    refine l_e hf rfl (ev_pickT hf rfl hg11 rfl) ?_; intro a hf
    refine l_mv hf rfl rfl ?_; intro a hf
    refine g_split hf (t := 35) rfl (fun hg12 => ?_) (fun hg12 => ?_)
    ·refine l_ev hf ⟨_, _, rfl, rfl, hg12⟩ rfl rfl (ev_fieldB hf rfl fd_107_1 (m := 1) rfl) ?_; intro a hf
     refine l_ev hf ⟨_, _, rfl, rfl, hg12⟩ rfl rfl (ev_load1 hf rfl t1_3 (hB2.at 1)) ?_; intro a hf
     refine l_ev hf ⟨_, _, rfl, rfl, hg12⟩ rfl rfl (ev_fieldB hf rfl fd_107_2 (m := 2) rfl) ?_; intro a hf
     refine l_ev hf ⟨_, _, rfl, rfl, hg12⟩ rfl rfl (ev_load1 hf rfl t1_3 (hB2.at 2)) ?_; intro a hf
     refine l_ev hf ⟨_, _, rfl, rfl, hg12⟩ rfl rfl (ev_neq hf rfl rfl) ?_; intro a hf
     refine l_e hf rfl (ev_pickT hf rfl hg12 rfl) ?_; intro a hf
     refine l_as hf rfl rfl ?_; intro a hf
     refine wpList_nil ?_
     exact ⟨hf.sub ⟨look_bool rfl (by first | rfl | (simp only [hc5b, hc9b, hg11, hg12, Bool.true_and, Bool.false_and, Bool.true_or, Bool.false_or]; done) | simp [hc5b, hc9b, hg11, hg12]), trivial⟩, rfl⟩
    refine l_pass hf ⟨_, _, rfl, rfl, hg12⟩ rfl rfl ?_; intro a hf
    refine l_pass hf ⟨_, _, rfl, rfl, hg12⟩ rfl rfl ?_; intro a hf
    refine l_pass hf ⟨_, _, rfl, rfl, hg12⟩ rfl rfl ?_; intro a hf
    refine l_pass hf ⟨_, _, rfl, rfl, hg12⟩ rfl rfl ?_; intro a hf
    refine l_pass hf ⟨_, _, rfl, rfl, hg12⟩ rfl rfl ?_; intro a hf
    refine l_e hf rfl (ev_pickF hf rfl hg12 rfl) ?_; intro a hf
    refine l_as hf rfl rfl ?_; intro a hf
    refine wpList_nil ?_
    exact ⟨hf.sub ⟨look_bool rfl (by first | rfl | (simp only [hc5b, hc9b, hg11, hg12, Bool.true_and, Bool.false_and, Bool.true_or, Bool.false_or]; done) | simp [hc5b, hc9b, hg11, hg12]), trivial⟩, rfl⟩
   refine l_pass hf ⟨_, _, rfl, rfl, hg11⟩ rfl rfl ?_; intro a hf
   refine l_pass hf ⟨_, _, rfl, rfl, hg11⟩ rfl rfl ?_; intro a hf
   refine l_pass hf ⟨_, _, rfl, rfl, hg11⟩ rfl rfl ?_; intro a hf
   refine l_pass hf ⟨_, _, rfl, rfl, hg11⟩ rfl rfl ?_; intro a hf
   refine l_pass hf ⟨_, _, rfl, rfl, hg11⟩ rfl rfl ?_; intro a hf
   refine l_e hf rfl (ev_pickF hf rfl hg11 rfl) ?_; intro a hf
   refine l_mv hf rfl rfl ?_; intro a hf
   refine l_pass hf ⟨_, _, rfl, rfl, rfl⟩ rfl rfl ?_; intro a hf
   refine l_pass hf ⟨_, _, rfl, rfl, rfl⟩ rfl rfl ?_; intro a hf
   refine l_pass hf ⟨_, _, rfl, rfl, rfl⟩ rfl rfl ?_; intro a hf
   refine l_pass hf ⟨_, _, rfl, rfl, rfl⟩ rfl rfl ?_; intro a hf
   refine l_pass hf ⟨_, _, rfl, rfl, rfl⟩ rfl rfl ?_; intro a hf
   refine l_e hf rfl (ev_pickF hf rfl rfl rfl) ?_; intro a hf
   refine l_as hf rfl rfl ?_; intro a hf
   refine wpList_nil ?_
   exact ⟨hf.sub ⟨look_bool rfl (by first | rfl | (simp only [hc5b, hc9b, hg11, Bool.true_and, Bool.false_and, Bool.true_or, Bool.false_or]; done) | simp [hc5b, hc9b, hg11]), trivial⟩, rfl⟩
  rintro a _ ⟨hf, rfl⟩
  refine hK10 _ _ ?_; try clear hK10 K10
  refine wp_ret ?_
  refine x_retB ?_
  refine x_retS ?_
  refine c_ret hf (res1 hf rfl rfl) ?_
  exact ⟨by rw [hf0], hW⟩
 have hc9b := hc9
 have hf0 := gOk3 hn h18 hc9
 refine wp_skip ?_
 refine x_norm ?_
 refine hK3 _ _ ?_; try clear hK3 K3
 refine wp_seq_k ?_; intro K13 hK13
 refine c_cut (fun a w => Fr a 55 [(4, .bool (((g.k == 12) && (g.a == 0)) && (g.b == 0)))] ∧ w1 = w) ?_ ?_
 ·refine wp_region_lit ?_
  refine l_e hf rfl (ev_fieldB hf rfl fd_107_0 (m := 0) rfl) ?_; intro a hf
  refine l_e hf rfl (ev_load1 hf rfl t1_3 (hB2.at 0)) ?_; intro a hf
  refine l_e hf rfl (ev_eql hf rfl rfl) ?_; intro a hf
  refine l_mv hf rfl rfl ?_; intro a hf
  refine g_split hf (t := 45) rfl (fun hg14 => ?_) (fun hg14 => ?_)
  ·refine l_ev hf ⟨_, _, rfl, rfl, hg14⟩ rfl rfl (ev_fieldB hf rfl fd_107_1 (m := 1) rfl) ?_; intro a hf
   refine l_ev hf ⟨_, _, rfl, rfl, hg14⟩ rfl rfl (ev_load1 hf rfl t1_3 (hB2.at 1)) ?_; intro a hf
   refine l_ev hf ⟨_, _, rfl, rfl, hg14⟩ rfl rfl (ev_eql hf rfl rfl) ?_; intro a hf
   refine l_e hf rfl (ev_pickT hf rfl hg14 rfl) ?_; intro a hf
   refine l_mv hf rfl rfl ?_; intro a hf
   refine g_split hf (t := 50) rfl (fun hg15 => ?_) (fun hg15 => ?_)
   ·refine l_ev hf ⟨_, _, rfl, rfl, hg15⟩ rfl rfl (ev_fieldB hf rfl fd_107_2 (m := 2) rfl) ?_; intro a hf
    refine l_ev hf ⟨_, _, rfl, rfl, hg15⟩ rfl rfl (ev_load1 hf rfl t1_3 (hB2.at 2)) ?_; intro a hf
    refine l_ev hf ⟨_, _, rfl, rfl, hg15⟩ rfl rfl (ev_eql hf rfl rfl) ?_; intro a hf
    refine l_e hf rfl (ev_pickT hf rfl hg15 rfl) ?_; intro a hf
    refine l_as hf rfl rfl ?_; intro a hf
    refine wpList_nil ?_
    exact ⟨hf.sub ⟨look_bool rfl (by first | rfl | (simp only [hc5b, hc9b, hg14, hg15, Bool.true_and, Bool.false_and, Bool.true_or, Bool.false_or]; done) | simp [hc5b, hc9b, hg14, hg15]), trivial⟩, rfl⟩
   refine l_pass hf ⟨_, _, rfl, rfl, hg15⟩ rfl rfl ?_; intro a hf
   refine l_pass hf ⟨_, _, rfl, rfl, hg15⟩ rfl rfl ?_; intro a hf
   refine l_pass hf ⟨_, _, rfl, rfl, hg15⟩ rfl rfl ?_; intro a hf
   refine l_e hf rfl (ev_pickF hf rfl hg15 rfl) ?_; intro a hf
   refine l_as hf rfl rfl ?_; intro a hf
   refine wpList_nil ?_
   exact ⟨hf.sub ⟨look_bool rfl (by first | rfl | (simp only [hc5b, hc9b, hg14, hg15, Bool.true_and, Bool.false_and, Bool.true_or, Bool.false_or]; done) | simp [hc5b, hc9b, hg14, hg15]), trivial⟩, rfl⟩
  refine l_pass hf ⟨_, _, rfl, rfl, hg14⟩ rfl rfl ?_; intro a hf
  refine l_pass hf ⟨_, _, rfl, rfl, hg14⟩ rfl rfl ?_; intro a hf
  refine l_pass hf ⟨_, _, rfl, rfl, hg14⟩ rfl rfl ?_; intro a hf
  refine l_e hf rfl (ev_pickF hf rfl hg14 rfl) ?_; intro a hf
  refine l_mv hf rfl rfl ?_; intro a hf
  refine l_pass hf ⟨_, _, rfl, rfl, rfl⟩ rfl rfl ?_; intro a hf
  refine l_pass hf ⟨_, _, rfl, rfl, rfl⟩ rfl rfl ?_; intro a hf
  refine l_pass hf ⟨_, _, rfl, rfl, rfl⟩ rfl rfl ?_; intro a hf
  refine l_e hf rfl (ev_pickF hf rfl rfl rfl) ?_; intro a hf
  refine l_as hf rfl rfl ?_; intro a hf
  refine wpList_nil ?_
  exact ⟨hf.sub ⟨look_bool rfl (by first | rfl | (simp only [hc5b, hc9b, hg14, Bool.true_and, Bool.false_and, Bool.true_or, Bool.false_or]; done) | simp [hc5b, hc9b, hg14]), trivial⟩, rfl⟩
 rintro a _ ⟨hf, rfl⟩
 refine hK13 _ _ ?_; try clear hK13 K13
 refine wp_ret ?_
 refine c_ret hf (res1 hf rfl rfl) ?_
 exact ⟨by rw [hf0], hW⟩
theorem F53 (w0 : World) (c : Cx) (Ac : Option Addr) (cc : Nat) (hr_c : Rd w0 w0.heap.size 107 encG Ac c.gs) : Ret Tryz.prog 53 [.agg #[.int .i64 c.n, .slice Ac c.gs.length cc]] w0 (fun v w => v = .bool (cOk c) ∧ Below w0.heap.size w0 w) := by
 refine enter Tryz.func53 rfl 28 rfl rfl ?_
 intro a hf
 have hW : Below w0.heap.size w0 w0 := Below.refl _ _
 refine wp_seq_k ?_; intro K2 hK2
 refine wp_region_lit ?_
 refine l_f hf rfl (ef_box (zs := [.int .i64 c.n, .slice Ac c.gs.length cc]) hf rfl rfl) ?_; rintro a _ w1 ⟨b3, rfl, hl3, hE, hB3⟩ hf
 have hlo3 := Nat.le_trans hW.size hl3
 replace hW := btr hW hE
 clear hE
 refine l_as hf rfl rfl ?_; intro a hf
 refine wpList_nil ?_
 refine hK2 _ _ ?_; try clear hK2 K2
 refine wp_seq_k ?_; intro K4 hK4
 refine wp_seq_k ?_; intro K5 hK5
 refine c_cut (fun a w => Fr a 28 [(1, .pointer (some ⟨b3, 0, none⟩)), (14, .bool ((!(inR c.n 1 5)) || (decide (400 < (c.gs.length : Int)))))] ∧ w1 = w) ?_ ?_
 ·refine wp_region_lit ?_
  refine l_e hf rfl (ev_fieldB hf rfl fd_41_0 (m := 0) rfl) ?_; intro a hf
  refine l_e hf rfl (ev_load1 hf rfl t1_3 (hB3.at 0)) ?_; intro a hf
  refine l_f hf rfl (ef_call (vs := [.int .i64 c.n, .int .i64 1, .int .i64 5]) hf rfl ff_85 (F85 _ c.n 1 5)) ?_; rintro a _ _ ⟨rfl, rfl⟩ hf
  refine l_e hf rfl (ev_not hf rfl) ?_; intro a hf
  refine l_mv hf rfl rfl ?_; intro a hf
  refine g_split hf (t := 9) rfl (fun hg6 => ?_) (fun hg6 => ?_)
  ·refine l_pass hf ⟨_, _, rfl, rfl, hg6⟩ rfl rfl ?_; intro a hf
   refine l_pass hf ⟨_, _, rfl, rfl, hg6⟩ rfl rfl ?_; intro a hf
   refine l_pass hf ⟨_, _, rfl, rfl, hg6⟩ rfl rfl ?_; intro a hf
   refine l_pass hf ⟨_, _, rfl, rfl, hg6⟩ rfl rfl ?_; intro a hf
   refine l_e hf rfl (ev_pickT hf rfl hg6 rfl) ?_; intro a hf
   refine wpList_nil ?_
   exact ⟨hf.sub ⟨rfl, look_bool rfl (by first | rfl | (simp only [hg6, Bool.true_and, Bool.false_and, Bool.true_or, Bool.false_or]; done) | simp [hg6]), trivial⟩, rfl⟩
  refine l_ev hf ⟨_, _, rfl, rfl, hg6⟩ rfl rfl (ev_fieldB hf rfl fd_41_1 (m := 1) rfl) ?_; intro a hf
  refine l_ev hf ⟨_, _, rfl, rfl, hg6⟩ rfl rfl (ev_load1 hf rfl t1_28 (hB3.at 1)) ?_; intro a hf
  refine l_ev hf ⟨_, _, rfl, rfl, hg6⟩ rfl rfl (ev_len hf rfl sl_28) ?_; intro a hf
  refine l_ev hf ⟨_, _, rfl, rfl, hg6⟩ rfl rfl (ev_gtr hf rfl rfl) ?_; intro a hf
  refine l_e hf rfl (ev_pickF hf rfl hg6 rfl) ?_; intro a hf
  refine wpList_nil ?_
  exact ⟨hf.sub ⟨rfl, look_bool rfl (by first | rfl | (simp only [hg6, Bool.true_and, Bool.false_and, Bool.true_or, Bool.false_or]; done) | simp [hg6]), trivial⟩, rfl⟩
 rintro a _ ⟨hf, rfl⟩
 refine hK5 _ _ ?_; try clear hK5 K5
 refine c_if hf rfl (fun hc7 => ?_) (fun hc7 => ?_)
 ·have hc7b := hc7
  have hn : (inR c.n 1 5 && decide ((c.gs.length : Int) ≤ 400)) = false := by revert hc7; cases inR c.n 1 5 <;> simp
  refine wp_seq_k ?_; intro K8 hK8
  refine wp_region_lit ?_
  refine l_as hf rfl rfl ?_; intro a hf
  refine wpList_nil ?_
  refine hK8 _ _ ?_; try clear hK8 K8
  refine wp_ret ?_
  refine x_retS ?_
  refine c_ret hf (res1 hf rfl rfl) ?_
  exact ⟨by rw [cOk, hn]; rfl, hW⟩
 have hc7b := hc7
 have hy : (inR c.n 1 5 && decide ((c.gs.length : Int) ≤ 400)) = true := by revert hc7; cases inR c.n 1 5 <;> simp
 have hy2 := (Bool.and_eq_true _ _ ▸ hy : inR c.n 1 5 = true ∧ decide ((c.gs.length : Int) ≤ 400) = true)
 have hn := inR_iff.1 hy2.1
 have hlen := of_decide_eq_true hy2.2
 refine wp_skip ?_
 refine hK4 _ _ ?_; try clear hK4 K4
 refine wp_seq_k ?_; intro K9 hK9
 refine wp_seq_k ?_; intro K10 hK10
 refine wp_region_lit ?_
 refine l_e hf rfl (ev_fieldB hf rfl fd_41_1 (m := 1) rfl) ?_; intro a hf
 refine l_e hf rfl (ev_load1 hf rfl t1_28 (hB3.at 1)) ?_; intro a hf
 refine l_e hf rfl (ev_len hf rfl sl_28) ?_; intro a hf
 refine l_mv hf rfl rfl ?_; intro a hf
 refine wpList_nil ?_
 refine hK10 _ _ ?_; try clear hK10 K10
 refine wp_block ?_
 refine c_loop (σ := Nat) (fun (k : Nat) (a : Act) (w : World) => Fr a 28 [(1, .pointer (some ⟨b3, 0, none⟩)), (16, .slice Ac c.gs.length cc), (17, .int .i64 (c.gs.length : Int)), (18, .int .i64 (k : Int))] ∧ (k ≤ c.gs.length) ∧ ((c.gs.take k).all (fun x => gOk c.n x) = true) ∧ Blk w b3 41 [.int .i64 c.n, .slice Ac c.gs.length cc] ∧ Below w0.heap.size w0 w) (fun (k : Nat) => c.gs.length + 1 - k) 0 ?_ ?_
 · exact ⟨hf.sub ⟨rfl, rfl, rfl, rfl, trivial⟩, (Nat.zero_le _), (by simp), hB3, hW⟩
 rintro k a w2 ⟨hf, hk, hpre, hB3, hW⟩
 refine wp_seq_k ?_; intro K11 hK11
 refine wp_region_lit ?_
 refine l_e hf rfl (ev_lss hf rfl rfl) ?_; intro a hf
 refine wpList_nil ?_
 refine hK11 _ _ ?_; try clear hK11 K11
 refine wp_seq_k ?_; intro K12 hK12
 refine c_if hf rfl (fun hc13 => ?_) (fun hc13 => ?_)
 ·have hc13b := hc13
  have hc13 := of_decide_eq_true hc13
  obtain ⟨u14, hu14⟩ := getElem_ex (l := c.gs) (k := k) (by omega)
  refine wp_skip ?_
  refine hK12 _ _ ?_; try clear hK12 K12
  refine wp_seq_k ?_; intro K15 hK15
  refine wp_block ?_
  refine wp_seq_k ?_; intro K16 hK16
  refine wp_region_lit ?_
  refine l_index (k := k) (u := u14) (enc := encG) (l := c.gs) hf trivial rfl rfl rfl sl_28 sz_107 encG_len (hr_c.below' hW) hu14 rfl ?_; intro a p18 hat17 hf
  refine l_e hf rfl (ev_loadN (l := [.int .i64 u14.k, .int .i64 u14.a, .int .i64 u14.b]) hf rfl tN_107 hat17 rfl) ?_; intro a hf
  refine l_f hf rfl (ef_alloc (zs := [.int .i64 0, .int .i64 0, .int .i64 0]) z_107 rfl) ?_; rintro a _ w3 ⟨b19, rfl, hl19, hE, hB19⟩ hf
  have hlo19 := Nat.le_trans hW.size hl19
  have haw1_19 := (hr_c.below' hW).away hl19
  replace hB3 := hB3.below hE
  replace hW := btr hW hE
  clear hE
  refine l_f0 hf (ef_store (vs := [.int .i64 u14.k, .int .i64 u14.a, .int .i64 u14.b]) (l' := [.int .i64 u14.k, .int .i64 u14.a, .int .i64 u14.b]) hf rfl rfl sz_107 hB19 rfl rfl rfl rfl rfl) ?_; rintro a _ w4 ⟨ho, hb⟩ hf
  have hold := hB19
  replace hB3 := hB3.only ho (Blk.ne hB3 hold rfl)
  replace hW := Below.only hW ho hlo19
  clear hold
  have hB19 := hb
  clear hb ho
  refine wpList_nil ?_
  refine hK16 _ _ ?_; try clear hK16 K16
  refine wp_seq_k ?_; intro K20 hK20
  refine wp_region_lit ?_
  refine l_e hf rfl (ev_fieldB hf rfl fd_41_0 (m := 0) rfl) ?_; intro a hf
  refine l_e hf rfl (ev_load1 hf rfl t1_3 (hB3.at 0)) ?_; intro a hf
  refine l_e hf rfl (ev_loadN (l := [.int .i64 u14.k, .int .i64 u14.a, .int .i64 u14.b]) hf rfl tN_107 (hB19.at 0) rfl) ?_; intro a hf
  refine l_f hf rfl (ef_call (vs := [.int .i64 c.n, .agg #[.int .i64 u14.k, .int .i64 u14.a, .int .i64 u14.b]]) hf rfl ff_101 (F101 _ c.n u14 hn)) ?_; rintro a _ w5 ⟨rfl, hE⟩ hf
  replace hB3 := hB3.below hE
  replace hB19 := hB19.below hE
  replace hW := btr hW hE
  clear hE
  refine l_e hf rfl (ev_not hf rfl) ?_; intro a hf
  refine wpList_nil ?_
  refine hK20 _ _ ?_; try clear hK20 K20
  refine c_if hf rfl (fun hc21 => ?_) (fun hc21 => ?_)
  ·have hc21b := hc21
   have hb2 : (c.gs.any fun x => !gOk c.n x) = true := any_true hu14 hc21
   refine wp_seq_k ?_; intro K22 hK22
   refine wp_region_lit ?_
   refine l_as hf rfl rfl ?_; intro a hf
   refine wpList_nil ?_
   refine hK22 _ _ ?_; try clear hK22 K22
   refine wp_ret ?_
   refine x_retB ?_
   refine x_retS ?_
   refine x_retS ?_
   refine x_retB ?_
   refine x_retS ?_
   refine c_ret hf (res1 hf rfl rfl) ?_
   exact ⟨by rw [cOk, hy, hb2]; rfl, hW⟩
  have hc21b := hc21
  have hok : gOk c.n u14 = true := by revert hc21; cases gOk c.n u14 <;> simp
  refine wp_skip ?_
  refine x_norm ?_
  refine hK15 _ _ ?_; try clear hK15 K15
  refine wp_region_lit ?_
  refine l_e hf rfl (ev_addx hf rfl rfl (by omega) (by omega)) ?_; intro a hf
  refine l_mv hf rfl rfl ?_; intro a hf
  refine wpList_nil ?_
  refine x_thenN ?_
  exact ⟨k + 1, ⟨hf.sub ⟨rfl, rfl, rfl, rfl, trivial⟩, (by omega), (take_all hpre hu14 hok), hB3, hW⟩, (by omega)⟩
 have hc13b := hc13
 have hc13 := of_decide_eq_false hc13
 refine wp_exit ?_
 refine x_exS ?_
 refine x_exS ?_
 refine x_exit ?_
 refine hK9 _ _ ?_; try clear hK9 K9
 refine wp_seq_k ?_; intro K23 hK23
 refine wp_region_lit ?_
 refine l_as hf rfl rfl ?_; intro a hf
 refine wpList_nil ?_
 refine hK23 _ _ ?_; try clear hK23 K23
 refine wp_ret ?_
 refine c_ret hf (res1 hf rfl rfl) ?_
 have hb2 : (c.gs.any fun x => !gOk c.n x) = false := any_false (by simpa using take_full hpre (by omega))
 exact ⟨by rw [cOk, hy, hb2]; rfl, hW⟩
end Go.Proofs.YtfgnmflfiobkmaaGreat
set_option maxRecDepth 4000
namespace Go.Proofs.YtfgnmflfiobkmaaGreat
open Go.RowKit
theorem F100 (w0 : World) (x : Gt) (y : Gt) : Ret Tryz.prog 100 [.agg #[.int .i64 x.k, .int .i64 x.a, .int .i64 x.b], .agg #[.int .i64 y.k, .int .i64 y.a, .int .i64 y.b]] w0 (fun v w => v = .bool (decide (x = y)) ∧ Below w0.heap.size w0 w) := by
 refine enter Tryz.func100 rfl 20 rfl rfl ?_
 intro a hf
 have hW : Below w0.heap.size w0 w0 := Below.refl _ _
 refine wp_seq_k ?_; intro K1 hK1
 refine wp_region_lit ?_
 refine l_f hf rfl (ef_box (zs := [.int .i64 x.k, .int .i64 x.a, .int .i64 x.b]) hf rfl rfl) ?_; rintro a _ w1 ⟨b2, rfl, hl2, hE, hB2⟩ hf
 have hlo2 := Nat.le_trans hW.size hl2
 replace hW := btr hW hE
 clear hE
 refine l_f hf rfl (ef_box (zs := [.int .i64 y.k, .int .i64 y.a, .int .i64 y.b]) hf rfl rfl) ?_; rintro a _ w2 ⟨b3, rfl, hl3, hE, hB3⟩ hf
 have hne2_3 : b2 ≠ b3 := by have := hB2.lt; omega
 have hlo3 := Nat.le_trans hW.size hl3
 replace hB2 := hB2.below hE
 replace hW := btr hW hE
 clear hE
 refine l_as hf rfl rfl ?_; intro a hf
 refine wpList_nil ?_
 refine hK1 _ _ ?_; try clear hK1 K1
 refine wp_seq_k ?_; intro K4 hK4
 refine wp_seq_k ?_; intro K5 hK5
 refine wp_region_lit ?_
 refine l_e hf rfl (ev_fieldB hf rfl fd_107_0 (m := 0) rfl) ?_; intro a hf
 refine l_e hf rfl (ev_load1 hf rfl t1_3 (hB2.at 0)) ?_; intro a hf
 refine l_e hf rfl (ev_fieldB hf rfl fd_107_0 (m := 0) rfl) ?_; intro a hf
 refine l_e hf rfl (ev_load1 hf rfl t1_3 (hB3.at 0)) ?_; intro a hf
 refine l_e hf rfl (ev_neq hf rfl rfl) ?_; intro a hf
 refine wpList_nil ?_
 refine hK5 _ _ ?_; try clear hK5 K5
 refine c_if hf rfl (fun hc6 => ?_) (fun hc6 => ?_)
 ·have hc6b := hc6
  have hne : ¬ x = y := by rintro rfl; simp at hc6
  refine wp_seq_k ?_; intro K7 hK7
  refine wp_region_lit ?_
  refine l_as hf rfl rfl ?_; intro a hf
  refine wpList_nil ?_
  refine hK7 _ _ ?_; try clear hK7 K7
  refine wp_ret ?_
  refine x_retS ?_
  refine c_ret hf (res1 hf rfl rfl) ?_
  exact ⟨by simp [hne], hW⟩
 have hc6b := hc6
 have e1 : x.k = y.k := by simpa using hc6
 refine wp_skip ?_
 refine hK4 _ _ ?_; try clear hK4 K4
 refine wp_seq_k ?_; intro K8 hK8
 refine wp_seq_k ?_; intro K9 hK9
 refine wp_region_lit ?_
 refine l_e hf rfl (ev_fieldB hf rfl fd_107_1 (m := 1) rfl) ?_; intro a hf
 refine l_e hf rfl (ev_load1 hf rfl t1_3 (hB2.at 1)) ?_; intro a hf
 refine l_e hf rfl (ev_fieldB hf rfl fd_107_1 (m := 1) rfl) ?_; intro a hf
 refine l_e hf rfl (ev_load1 hf rfl t1_3 (hB3.at 1)) ?_; intro a hf
 refine l_e hf rfl (ev_neq hf rfl rfl) ?_; intro a hf
 refine wpList_nil ?_
 refine hK9 _ _ ?_; try clear hK9 K9
 refine c_if hf rfl (fun hc10 => ?_) (fun hc10 => ?_)
 ·have hc10b := hc10
  have hne : ¬ x = y := by rintro rfl; simp at hc10
  refine wp_seq_k ?_; intro K11 hK11
  refine wp_region_lit ?_
  refine l_as hf rfl rfl ?_; intro a hf
  refine wpList_nil ?_
  refine hK11 _ _ ?_; try clear hK11 K11
  refine wp_ret ?_
  refine x_retS ?_
  refine c_ret hf (res1 hf rfl rfl) ?_
  exact ⟨by simp [hne], hW⟩
 have hc10b := hc10
 have e2 : x.a = y.a := by simpa using hc10
 refine wp_skip ?_
 refine hK8 _ _ ?_; try clear hK8 K8
 refine wp_seq_k ?_; intro K12 hK12
 refine wp_seq_k ?_; intro K13 hK13
 refine wp_region_lit ?_
 refine l_e hf rfl (ev_fieldB hf rfl fd_107_2 (m := 2) rfl) ?_; intro a hf
 refine l_e hf rfl (ev_load1 hf rfl t1_3 (hB2.at 2)) ?_; intro a hf
 refine l_e hf rfl (ev_fieldB hf rfl fd_107_2 (m := 2) rfl) ?_; intro a hf
 refine l_e hf rfl (ev_load1 hf rfl t1_3 (hB3.at 2)) ?_; intro a hf
 refine l_e hf rfl (ev_neq hf rfl rfl) ?_; intro a hf
 refine wpList_nil ?_
 refine hK13 _ _ ?_; try clear hK13 K13
 refine c_if hf rfl (fun hc14 => ?_) (fun hc14 => ?_)
 ·have hc14b := hc14
  have hne : ¬ x = y := by rintro rfl; simp at hc14
  refine wp_seq_k ?_; intro K15 hK15
  refine wp_region_lit ?_
  refine l_as hf rfl rfl ?_; intro a hf
  refine wpList_nil ?_
  refine hK15 _ _ ?_; try clear hK15 K15
  refine wp_ret ?_
  refine x_retS ?_
  refine c_ret hf (res1 hf rfl rfl) ?_
  exact ⟨by simp [hne], hW⟩
 have hc14b := hc14
 have e3 : x.b = y.b := by simpa using hc14
 refine wp_skip ?_
 refine hK12 _ _ ?_; try clear hK12 K12
 refine wp_seq_k ?_; intro K16 hK16
 refine wp_region_lit ?_
 refine l_as hf rfl rfl ?_; intro a hf
 refine wpList_nil ?_
 refine hK16 _ _ ?_; try clear hK16 K16
 refine wp_ret ?_
 refine c_ret hf (res1 hf rfl rfl) ?_
 have he : x = y := by cases x; cases y; simp_all
 exact ⟨by simp [he], hW⟩
theorem F52 (w0 : World) (Ap : Option Addr) (cp : Nat) (p : List Gt) (hr_p : Rd w0 w0.heap.size 107 encG Ap p) (Aq : Option Addr) (cq : Nat) (q : List Gt) (hr_q : Rd w0 w0.heap.size 107 encG Aq q) (hln : p.length ≤ 2305843009213693951) : Ret Tryz.prog 52 [.slice Ap p.length cp, .slice Aq q.length cq] w0 (fun v w => v = .bool (decide (p = q)) ∧ Below w0.heap.size w0 w) := by
 refine enter Tryz.func52 rfl 27 rfl rfl ?_
 intro a hf
 have hW : Below w0.heap.size w0 w0 := Below.refl _ _
 refine wp_seq_k ?_; intro K3 hK3
 refine wp_region_lit ?_
 refine l_as hf rfl rfl ?_; intro a hf
 refine wpList_nil ?_
 refine hK3 _ _ ?_; try clear hK3 K3
 refine wp_seq_k ?_; intro K4 hK4
 refine wp_seq_k ?_; intro K5 hK5
 refine wp_region_lit ?_
 refine l_mv hf rfl rfl ?_; intro a hf
 refine l_e hf rfl (ev_len hf rfl sl_28) ?_; intro a hf
 refine l_mv hf rfl rfl ?_; intro a hf
 refine l_e hf rfl (ev_len hf rfl sl_28) ?_; intro a hf
 refine l_e hf rfl (ev_neq hf rfl rfl) ?_; intro a hf
 refine wpList_nil ?_
 refine hK5 _ _ ?_; try clear hK5 K5
 refine c_if hf rfl (fun hc6 => ?_) (fun hc6 => ?_)
 ·have hc6b := hc6
  have hne : ¬ p = q := by intro h9; rw [h9] at hc6; simp at hc6
  refine wp_seq_k ?_; intro K7 hK7
  refine wp_region_lit ?_
  refine l_as hf rfl rfl ?_; intro a hf
  refine wpList_nil ?_
  refine hK7 _ _ ?_; try clear hK7 K7
  refine wp_ret ?_
  refine x_retS ?_
  refine c_ret hf (res1 hf rfl rfl) ?_
  exact ⟨by simp [hne], hW⟩
 have hc6b := hc6
 have hll : p.length = q.length := by have h9 : (p.length : Int) = q.length := (by simpa using hc6); omega
 refine wp_skip ?_
 refine hK4 _ _ ?_; try clear hK4 K4
 refine wp_seq_k ?_; intro K8 hK8
 refine wp_seq_k ?_; intro K9 hK9
 refine wp_region_lit ?_
 refine l_as hf rfl rfl ?_; intro a hf
 refine wpList_nil ?_
 refine hK9 _ _ ?_; try clear hK9 K9
 refine wp_block ?_
 refine c_loop (σ := Nat) (fun (k : Nat) (a : Act) (w : World) => Fr a 27 [(0, .slice Ap p.length cp), (1, .slice Aq q.length cq), (5, .int .i64 (k : Int))] ∧ (k ≤ p.length) ∧ (p.take k = q.take k) ∧ Below w0.heap.size w0 w) (fun (k : Nat) => p.length - k) 0 ?_ ?_
 · exact ⟨hf.sub ⟨rfl, rfl, rfl, trivial⟩, (Nat.zero_le _), (by simp), hW⟩
 rintro k a w1 ⟨hf, hk, hpre, hW⟩
 refine wp_seq_k ?_; intro K10 hK10
 refine wp_seq_k ?_; intro K11 hK11
 refine wp_region_lit ?_
 refine l_mv hf rfl rfl ?_; intro a hf
 refine l_mv hf rfl rfl ?_; intro a hf
 refine l_e hf rfl (ev_len hf rfl sl_28) ?_; intro a hf
 refine l_e hf rfl (ev_lss hf rfl rfl) ?_; intro a hf
 refine wpList_nil ?_
 refine hK11 _ _ ?_; try clear hK11 K11
 refine c_if hf rfl (fun hc12 => ?_) (fun hc12 => ?_)
 ·have hc12b := hc12
  have hc12 := of_decide_eq_true hc12
  obtain ⟨u13, hu13⟩ := getElem_ex (l := p) (k := k) (by omega)
  obtain ⟨v9, hv9⟩ := getElem_ex (l := q) (k := k) (by omega)
  refine wp_skip ?_
  refine hK10 _ _ ?_; try clear hK10 K10
  refine wp_seq_k ?_; intro K14 hK14
  refine wp_block ?_
  refine wp_seq_k ?_; intro K15 hK15
  refine wp_draw none (fun _ => false) mixed ?_
  intro w2 hE
  replace hW := btr hW hE
  clear hE
  refine s_e0 0 rfl (by kernel_rfl) hf rfl (fun _ => ev_move hf rfl) ?_; intro a hf
  refine s_e0 1 rfl (by kernel_rfl) hf rfl (fun _ => ev_move hf rfl) ?_; intro a hf
  refine s_index (k := k) (u := u13) (enc := encG) (l := p) 2 rfl (by kernel_rfl) (by kernel_rfl) hf trivial rfl rfl rfl sl_28 sz_107 encG_len (hr_p.below' hW) hu13 rfl ?_; intro a p17 hat16 hf
  refine s_e 3 rfl (by kernel_rfl) (by kernel_rfl) hf rfl (ev_loadN (l := [.int .i64 u13.k, .int .i64 u13.a, .int .i64 u13.b]) hf rfl tN_107 hat16 rfl) ?_; intro a hf
  refine s_e0 4 rfl (by kernel_rfl) hf rfl (fun _ => ev_move hf rfl) ?_; intro a hf
  refine s_e0 5 rfl (by kernel_rfl) hf rfl (fun _ => ev_move hf rfl) ?_; intro a hf
  refine s_index (k := k) (u := v9) (enc := encG) (l := q) 6 rfl (by kernel_rfl) (by kernel_rfl) hf trivial rfl rfl rfl sl_28 sz_107 encG_len (hr_q.below' hW) hv9 rfl ?_; intro a p19 hat18 hf
  refine s_e 7 rfl (by kernel_rfl) (by kernel_rfl) hf rfl (ev_loadN (l := [.int .i64 v9.k, .int .i64 v9.a, .int .i64 v9.b]) hf rfl tN_107 hat18 rfl) ?_; intro a hf
  refine s_one 8 (by kernel_rfl) ?_
  refine p_eff rfl hf trivial rfl rfl (Ef.mono (ef_call (vs := [.agg #[.int .i64 u13.k, .int .i64 u13.a, .int .i64 u13.b], .agg #[.int .i64 v9.k, .int .i64 v9.a, .int .i64 v9.b]]) hf rfl ff_100 (F100 _ u13 v9)) (fun _ _ h => ⟨fun _ => by obtain ⟨rfl, hE⟩ := h; exact hE, h⟩)) ?_; rintro a _ w3 ⟨rfl, hE⟩ hf
  replace hW := btr hW hE
  clear hE
  refine s_e0 9 rfl (by kernel_rfl) hf rfl (fun _ => ev_not hf rfl) ?_; intro a hf
  refine s_done (by kernel_rfl) ?_
  refine hK15 _ _ ?_; try clear hK15 K15
  refine c_if hf rfl (fun hc20 => ?_) (fun hc20 => ?_)
  ·have hc20b := hc20
   have hne : ¬ p = q := by rintro rfl; rw [hu13] at hv9; injection hv9 with e9; revert hc20; simp [e9]
   refine wp_seq_k ?_; intro K21 hK21
   refine wp_region_lit ?_
   refine l_as hf rfl rfl ?_; intro a hf
   refine wpList_nil ?_
   refine hK21 _ _ ?_; try clear hK21 K21
   refine wp_ret ?_
   refine x_retB ?_
   refine x_retS ?_
   refine x_retS ?_
   refine x_retB ?_
   refine x_retS ?_
   refine c_ret hf (res1 hf rfl rfl) ?_
   exact ⟨by simp [hne], hW⟩
  have hc20b := hc20
  have he9 : u13 = v9 := by revert hc20; simp
  refine wp_skip ?_
  refine x_norm ?_
  refine hK14 _ _ ?_; try clear hK14 K14
  refine wp_region_lit ?_
  refine l_mv hf rfl rfl ?_; intro a hf
  refine l_e hf rfl (ev_addx hf rfl rfl (by omega) (by omega)) ?_; intro a hf
  refine l_as hf rfl rfl ?_; intro a hf
  refine wpList_nil ?_
  refine x_thenN ?_
  exact ⟨k + 1, ⟨hf.sub ⟨rfl, rfl, rfl, trivial⟩, (by omega), (take_eq hpre hu13 hv9 he9), hW⟩, (by omega)⟩
 have hc12b := hc12
 have hc12 := of_decide_eq_false hc12
 refine wp_exit ?_
 refine x_exS ?_
 refine x_exS ?_
 refine x_exit ?_
 refine hK8 _ _ ?_; try clear hK8 K8
 refine wp_seq_k ?_; intro K22 hK22
 refine wp_region_lit ?_
 refine l_as hf rfl rfl ?_; intro a hf
 refine wpList_nil ?_
 refine hK22 _ _ ?_; try clear hK22 K22
 refine wp_ret ?_
 refine c_ret hf (res1 hf rfl rfl) ?_
 have he : p = q := by rw [List.take_of_length_le (by omega), List.take_of_length_le (by omega)] at hpre; exact hpre
 exact ⟨by simp [he], hW⟩
end Go.Proofs.YtfgnmflfiobkmaaGreat
set_option maxRecDepth 4000
namespace Go.Proofs.YtfgnmflfiobkmaaGreat
open Go.RowKit
theorem F218 (w0 : World) (n : Int) (g : Gt) (s0 : Int) (hg : gOk n g = true) (hk2 : 9 ≤ g.k ∧ g.k ≤ 11) : Ret Tryz.prog 218 [.int .i64 n, .agg #[.int .i64 g.k, .int .i64 g.a, .int .i64 g.b], .int .i64 s0] w0 (fun v w => v = .int .i64 (toS n g s0) ∧ Below w0.heap.size w0 w) := by
 have hg2 := gOk_spec hg
 have hg3 := hg2.2.2.1 (by omega)
 have hg4 := hg2.2.2.2 hk2
 refine enter Tryz.func218 rfl 51 rfl rfl ?_
 intro a hf
 have hW : Below w0.heap.size w0 w0 := Below.refl _ _
 refine wp_seq_k ?_; intro K1 hK1
 refine wp_region_lit ?_
 refine l_f hf rfl (ef_box (zs := [.int .i64 g.k, .int .i64 g.a, .int .i64 g.b]) hf rfl rfl) ?_; rintro a _ w1 ⟨b2, rfl, hl2, hE, hB2⟩ hf
 have hlo2 := Nat.le_trans hW.size hl2
 replace hW := btr hW hE
 clear hE
 refine l_as hf rfl rfl ?_; intro a hf
 refine wpList_nil ?_
 refine hK1 _ _ ?_; try clear hK1 K1
 refine wp_seq_k ?_; intro K3 hK3
 refine wp_draw none (fun _ => false) mixed ?_
 intro w2 hE
 replace hB2 := hB2.below hE
 replace hW := btr hW hE
 clear hE
 refine s_e0 0 rfl (by kernel_rfl) hf rfl (fun _ => ev_move hf rfl) ?_; intro a hf
 refine s_e0 1 rfl (by kernel_rfl) hf rfl (fun _ => ev_move hf rfl) ?_; intro a hf
 refine s_e0 2 rfl (by kernel_rfl) hf rfl (fun _ => ev_fieldB hf rfl fd_107_1 (m := 1) rfl) ?_; intro a hf
 refine s_e 3 rfl (by kernel_rfl) (by kernel_rfl) hf rfl (ev_load1 hf rfl t1_3 (hB2.at 1)) ?_; intro a hf
 refine s_e0 5 rfl (by kernel_rfl) hf rfl (fun _ => ev_move hf rfl) ?_; intro a hf
 refine s_e0 6 rfl (by kernel_rfl) hf rfl (fun _ => ev_move hf rfl) ?_; intro a hf
 refine s_e0 7 rfl (by kernel_rfl) hf rfl (fun _ => ev_fieldB hf rfl fd_107_2 (m := 2) rfl) ?_; intro a hf
 refine s_e 8 rfl (by kernel_rfl) (by kernel_rfl) hf rfl (ev_load1 hf rfl t1_3 (hB2.at 2)) ?_; intro a hf
 refine s_one 4 (by kernel_rfl) ?_
 refine p_eff rfl hf trivial rfl rfl (Ef.mono (ef_call (vs := [.int .i64 n, .int .i64 s0, .int .i64 g.a]) hf rfl ff_219 (F219 _ n s0 g.a (by omega) (by omega) (by omega))) (fun _ _ h => ⟨fun _ => by rw [← h.2]; exact Below.refl _ _, h⟩)) ?_; rintro a _ _ ⟨rfl, rfl⟩ hf
 refine s_one 9 (by kernel_rfl) ?_
 refine p_eff rfl hf trivial rfl rfl (Ef.mono (ef_call (vs := [.int .i64 n, .int .i64 s0, .int .i64 g.b]) hf rfl ff_219 (F219 _ n s0 g.b (by omega) (by omega) (by omega))) (fun _ _ h => ⟨fun _ => by rw [← h.2]; exact Below.refl _ _, h⟩)) ?_; rintro a _ _ ⟨rfl, rfl⟩ hf
 refine s_e0 10 rfl (by kernel_rfl) hf rfl (fun _ => ev_assign hf rfl) ?_; intro a hf
 refine s_e0 11 rfl (by kernel_rfl) hf rfl (fun _ => ev_assign hf rfl) ?_; intro a hf
 refine s_done (by kernel_rfl) ?_
 refine hK3 _ _ ?_; try clear hK3 K3
 refine wp_seq_k ?_; intro K4 hK4
 refine wp_block ?_
 refine wp_seq_k ?_; intro K5 hK5
 refine c_cut (fun a w => Fr a 51 [(0, .int .i64 n), (2, .int .i64 s0), (4, .pointer (some ⟨b2, 0, none⟩)), (7, .int .i64 (bitF n s0 g.a)), (8, .int .i64 (bitF n s0 g.b)), (19, .bool ((g.k == 9) && ((bitF n s0 g.a) == 1)))] ∧ w2 = w) ?_ ?_
 ·refine wp_region_lit ?_
  refine l_e hf rfl (ev_fieldB hf rfl fd_107_0 (m := 0) rfl) ?_; intro a hf
  refine l_e hf rfl (ev_load1 hf rfl t1_3 (hB2.at 0)) ?_; intro a hf
  refine l_e hf rfl (ev_eql hf rfl rfl) ?_; intro a hf
  refine l_mv hf rfl rfl ?_; intro a hf
  refine g_split hf (t := 23) rfl (fun hg6 => ?_) (fun hg6 => ?_)
  ·refine l_ev hf ⟨_, _, rfl, rfl, hg6⟩ rfl rfl (ev_move hf rfl) ?_; intro a hf
   refine l_ev hf ⟨_, _, rfl, rfl, hg6⟩ rfl rfl (ev_eql hf rfl rfl) ?_; intro a hf
   refine l_e hf rfl (ev_pickT hf rfl hg6 rfl) ?_; intro a hf
   refine l_as hf rfl rfl ?_; intro a hf
   refine wpList_nil ?_
   exact ⟨hf.sub ⟨rfl, rfl, rfl, rfl, rfl, look_bool rfl (by first | rfl | (simp only [hg6, Bool.true_and, Bool.false_and, Bool.true_or, Bool.false_or]; done) | simp [hg6]), trivial⟩, rfl⟩
  refine l_pass hf ⟨_, _, rfl, rfl, hg6⟩ rfl rfl ?_; intro a hf
  refine l_pass hf ⟨_, _, rfl, rfl, hg6⟩ rfl rfl ?_; intro a hf
  refine l_e hf rfl (ev_pickF hf rfl hg6 rfl) ?_; intro a hf
  refine l_as hf rfl rfl ?_; intro a hf
  refine wpList_nil ?_
  exact ⟨hf.sub ⟨rfl, rfl, rfl, rfl, rfl, look_bool rfl (by first | rfl | (simp only [hg6, Bool.true_and, Bool.false_and, Bool.true_or, Bool.false_or]; done) | simp [hg6]), trivial⟩, rfl⟩
 rintro a _ ⟨hf, rfl⟩
 refine hK5 _ _ ?_; try clear hK5 K5
 refine c_if hf rfl (fun hc7 => ?_) (fun hc7 => ?_)
 ·have hc7b := hc7
  have h9 : g.k = 9 ∧ bitF n s0 g.a = 1 := by simpa using hc7
  refine wp_seq_k ?_; intro K8 hK8
  refine wp_region_lit ?_
  refine l_mv hf rfl rfl ?_; intro a hf
  refine l_mv hf rfl rfl ?_; intro a hf
  refine l_e hf rfl (ev_fieldB hf rfl fd_107_2 (m := 2) rfl) ?_; intro a hf
  refine l_e hf rfl (ev_load1 hf rfl t1_3 (hB2.at 2)) ?_; intro a hf
  refine l_f hf rfl (ef_call (vs := [.int .i64 n, .int .i64 s0, .int .i64 g.b]) hf rfl ff_220 (F220 _ n s0 g.b (by omega) (by omega) (by omega))) ?_; rintro a _ _ ⟨rfl, rfl⟩ hf
  refine l_as hf rfl rfl ?_; intro a hf
  refine wpList_nil ?_
  refine hK8 _ _ ?_; try clear hK8 K8
  refine wp_ret ?_
  refine x_retB ?_
  refine x_retS ?_
  refine c_ret hf (res1 hf rfl rfl) ?_
  exact ⟨by rw [toS, if_pos h9.1, if_pos h9.2], hW⟩
 have hc7b := hc7
 have h9 : g.k = 9 → ¬ bitF n s0 g.a = 1 := by simpa using hc7
 refine wp_seq_k ?_; intro K9 hK9
 refine c_cut (fun a w => Fr a 51 [(0, .int .i64 n), (2, .int .i64 s0), (4, .pointer (some ⟨b2, 0, none⟩)), (32, .bool ((g.k == 11) && ((bitF n s0 g.a) != (bitF n s0 g.b))))] ∧ w2 = w) ?_ ?_
 ·refine wp_region_lit ?_
  refine l_e hf rfl (ev_fieldB hf rfl fd_107_0 (m := 0) rfl) ?_; intro a hf
  refine l_e hf rfl (ev_load1 hf rfl t1_3 (hB2.at 0)) ?_; intro a hf
  refine l_e hf rfl (ev_eql hf rfl rfl) ?_; intro a hf
  refine l_mv hf rfl rfl ?_; intro a hf
  refine g_split hf (t := 36) rfl (fun hg10 => ?_) (fun hg10 => ?_)
  ·refine l_ev hf ⟨_, _, rfl, rfl, hg10⟩ rfl rfl (ev_move hf rfl) ?_; intro a hf
   refine l_ev hf ⟨_, _, rfl, rfl, hg10⟩ rfl rfl (ev_move hf rfl) ?_; intro a hf
   refine l_ev hf ⟨_, _, rfl, rfl, hg10⟩ rfl rfl (ev_neq hf rfl rfl) ?_; intro a hf
   refine l_e hf rfl (ev_pickT hf rfl hg10 rfl) ?_; intro a hf
   refine l_as hf rfl rfl ?_; intro a hf
   refine wpList_nil ?_
   exact ⟨hf.sub ⟨rfl, rfl, rfl, look_bool rfl (by first | rfl | (simp only [hc7b, hg10, Bool.true_and, Bool.false_and, Bool.true_or, Bool.false_or]; done) | simp [hc7b, hg10]), trivial⟩, rfl⟩
  refine l_pass hf ⟨_, _, rfl, rfl, hg10⟩ rfl rfl ?_; intro a hf
  refine l_pass hf ⟨_, _, rfl, rfl, hg10⟩ rfl rfl ?_; intro a hf
  refine l_pass hf ⟨_, _, rfl, rfl, hg10⟩ rfl rfl ?_; intro a hf
  refine l_e hf rfl (ev_pickF hf rfl hg10 rfl) ?_; intro a hf
  refine l_as hf rfl rfl ?_; intro a hf
  refine wpList_nil ?_
  exact ⟨hf.sub ⟨rfl, rfl, rfl, look_bool rfl (by first | rfl | (simp only [hc7b, hg10, Bool.true_and, Bool.false_and, Bool.true_or, Bool.false_or]; done) | simp [hc7b, hg10]), trivial⟩, rfl⟩
 rintro a _ ⟨hf, rfl⟩
 refine hK9 _ _ ?_; try clear hK9 K9
 refine c_if hf rfl (fun hc11 => ?_) (fun hc11 => ?_)
 ·have hc11b := hc11
  have h11 : g.k = 11 ∧ ¬ bitF n s0 g.a = bitF n s0 g.b := by simpa using hc11
  refine wp_seq_k ?_; intro K12 hK12
  refine wp_draw none (fun _ => false) mixed ?_
  intro w3 hE
  replace hB2 := hB2.below hE
  replace hW := btr hW hE
  clear hE
  refine s_e0 0 rfl (by kernel_rfl) hf rfl (fun _ => ev_move hf rfl) ?_; intro a hf
  refine s_e0 1 rfl (by kernel_rfl) hf rfl (fun _ => ev_move hf rfl) ?_; intro a hf
  refine s_e0 2 rfl (by kernel_rfl) hf rfl (fun _ => ev_move hf rfl) ?_; intro a hf
  refine s_e0 3 rfl (by kernel_rfl) hf rfl (fun _ => ev_fieldB hf rfl fd_107_1 (m := 1) rfl) ?_; intro a hf
  refine s_e 4 rfl (by kernel_rfl) (by kernel_rfl) hf rfl (ev_load1 hf rfl t1_3 (hB2.at 1)) ?_; intro a hf
  refine s_e0 6 rfl (by kernel_rfl) hf rfl (fun _ => ev_fieldB hf rfl fd_107_2 (m := 2) rfl) ?_; intro a hf
  refine s_e 7 rfl (by kernel_rfl) (by kernel_rfl) hf rfl (ev_load1 hf rfl t1_3 (hB2.at 2)) ?_; intro a hf
  refine s_one 5 (by kernel_rfl) ?_
  refine p_eff rfl hf trivial rfl rfl (Ef.mono (ef_call (vs := [.int .i64 n, .int .i64 s0, .int .i64 g.a]) hf rfl ff_220 (F220 _ n s0 g.a (by omega) (by omega) (by omega))) (fun _ _ h => ⟨fun _ => by rw [← h.2]; exact Below.refl _ _, h⟩)) ?_; rintro a _ _ ⟨rfl, rfl⟩ hf
  refine s_one 8 (by kernel_rfl) ?_
  refine p_eff rfl hf trivial rfl rfl (Ef.mono (ef_call (vs := [.int .i64 n, .int .i64 (flipF n s0 g.a), .int .i64 g.b]) hf rfl ff_220 (F220 _ n (flipF n s0 g.a) g.b (by omega) (by omega) (by omega))) (fun _ _ h => ⟨fun _ => by rw [← h.2]; exact Below.refl _ _, h⟩)) ?_; rintro a _ _ ⟨rfl, rfl⟩ hf
  refine s_e0 9 rfl (by kernel_rfl) hf rfl (fun _ => ev_assign hf rfl) ?_; intro a hf
  refine s_done (by kernel_rfl) ?_
  refine hK12 _ _ ?_; try clear hK12 K12
  refine wp_ret ?_
  refine x_retB ?_
  refine x_retS ?_
  refine c_ret hf (res1 hf rfl rfl) ?_
  exact ⟨by rw [toS, if_neg (by omega), if_pos h11.1, if_pos h11.2], hW⟩
 have hc11b := hc11
 have h11 : g.k = 11 → bitF n s0 g.a = bitF n s0 g.b := by simpa using hc11
 refine wp_skip ?_
 refine x_norm ?_
 refine hK4 _ _ ?_; try clear hK4 K4
 refine wp_seq_k ?_; intro K13 hK13
 refine wp_region_lit ?_
 refine l_mv hf rfl rfl ?_; intro a hf
 refine l_as hf rfl rfl ?_; intro a hf
 refine wpList_nil ?_
 refine hK13 _ _ ?_; try clear hK13 K13
 refine wp_ret ?_
 refine c_ret hf (res1 hf rfl rfl) ?_
 have hfin : toS n g s0 = s0 := by unfold toS; split; rw [if_neg (h9 (by assumption))]; split; rw [if_neg (by simpa using h11 (by assumption))]; rfl
 exact ⟨by rw [hfin], hW⟩
end Go.Proofs.YtfgnmflfiobkmaaGreat
namespace Go.Proofs.YtfgnmflfiobkmaaGreat
open Go.RowKit
def entI (p : Int × Int × Nat) : MapEntry := { key := .int .i64 p.1, val := .int .i64 p.2.1, born := p.2.2 }
def MapI (w : World) (b : Nat) (l : List (Int × Int × Nat)) (clock : Nat) : Prop := w.heap[b]? = some (.map (l.map entI).toArray clock)
theorem findNow_none {k : IntKind} {x : Int} : ∀ (l : List (Int × Int × Nat)) (i : Nat), (l.all fun p => p.1 != x) = true → Instr.findNow (.int k) (.int .i64 x) (l.map entI) i = some none
  | [], _, _ => rfl
  | p :: l, i, h => by
    simp only [List.all_cons, Bool.and_eq_true, bne_iff_ne] at h
    have h1 : (x == p.1) = false := by simpa using Ne.symm h.1
    simp only [List.map_cons, Instr.findNow, entI, Instr.sameNow, if_true, h1]
    exact findNow_none l (i + 1) h.2
theorem findNow_some {k : IntKind} {x v : Int} : ∀ (l : List (Int × Int × Nat)) (i : Nat), (l.find? fun p => p.1 == x).map (fun p => p.2.1) = some v → ∃ j, Instr.findNow (.int k) (.int .i64 x) (l.map entI) i = some (some (j, .int .i64 v))
  | [], _, h => by cases h
  | p :: l, i, h => by
    by_cases hx : p.1 = x
    · refine ⟨i, ?_⟩
      have h1 : (p.1 == x) = true := by simpa using hx
      simp only [List.find?_cons, h1, Option.map_some, Option.some.injEq] at h
      have h2 : (x == p.1) = true := by simpa using hx.symm
      simp only [List.map_cons, Instr.findNow, entI, Instr.sameNow, if_true, h2, h]
    · have h1 : (p.1 == x) = false := by simpa using hx
      simp only [List.find?_cons, h1] at h
      obtain ⟨j, hj⟩ := findNow_some (k := k) l (i + 1) h
      refine ⟨j, ?_⟩
      have h2 : (x == p.1) = false := by simpa using fun e => hx e.symm
      simp only [List.map_cons, Instr.findNow, entI, Instr.sameNow, if_true, h2]
      exact hj
theorem MapI.below {w w' : World} {b clock : Nat} {l : List (Int × Int × Nat)} (h : MapI w b l clock) (hb : Below w.heap.size w w') : MapI w' b l clock := by
  have hlt : b < w.heap.size := by
    rcases Nat.lt_or_ge b w.heap.size with h' | h'
    · exact h'
    · simp [MapI, Array.getElem?_eq_none h'] at h
  exact (hb.block b hlt).trans h
theorem MapI.only {w w' : World} {b b' clock : Nat} {l : List (Int × Int × Nat)} (h : MapI w b l clock) (ho : Only b' w w') (hne : b ≠ b') : MapI w' b l clock := (ho.block b hne).trans h
theorem MapI.ne {w : World} {b b' clock : Nat} {l : List (Int × Int × Nat)} {T : TypeId} {cs : List Value} (h : MapI w b l clock) (hb : Blk w b' T cs) : b ≠ b' := by
  rintro rfl
  unfold MapI at h
  unfold Blk at hb
  rw [h] at hb
  cases hb
section
variable {P : Program} {a : Act} {w : World} {n : Nat} {e : Env} {ty : TypeId} {pos : String} {af : Array Edge} {g : Option (Nat × Bool)} {d : Option Tmp}
theorem ef_makeMap {T : TypeId} : Ef P ⟨d, .makeMap T none, ty, pos, af, g⟩ a w (fun v w' => ∃ b, v = .map (some b) ∧ w.heap.size ≤ b ∧ Below w.heap.size w w' ∧ MapI w' b [] 0) := by
  refine (Ef.of_run (v := .map (some w.heap.size)) (w' := w.alloc (.map #[] 0)) ?_).mono fun v w' ⟨e1, e2⟩ => ?_
  · rfl
  · subst e1; subst e2
    exact ⟨_, rfl, Nat.le_refl _, (Below.refl _ _).alloc (Nat.le_refl _) _, heap_alloc_new w _⟩
theorem ef_insert {T K E : TypeId} {m x y : Operand} {b clock : Nat} {l : List (Int × Int × Nat)} {i j : Int} (hf : Fr a n e) (hm : ev e m = some (.map (some b))) (hx : ev e x = some (.int .i64 i)) (hy : ev e y = some (.int .i64 j)) (hT : P.underlying T = some (.map K E)) (hK : P.underlying K = some (.int .i64)) (hM : MapI w b l clock) (hnew : (l.all fun p => p.1 != i) = true) :
    Ef P ⟨d, .insert T m x y, ty, pos, af, g⟩ a w (fun _ w' => Only b w w' ∧ MapI w' b (l ++ [(i, j, clock)]) (clock + 1)) := by
  have hfind := findNow_none (k := .i64) l 0 hnew
  have hck : (Instr.checkKey false 10000 K (.int .i64 i)).run P w = .ok () w := MapKept.run_checkKey hK (show MapKept.IsKey (.int .i64) (.int .i64 i) from rfl) false 9999
  have hlt : b < w.heap.size := by
    rcases Nat.lt_or_ge b w.heap.size with h' | h'
    · exact h'
    · simp [MapI, Array.getElem?_eq_none h'] at hM
  unfold MapI at hM
  refine (Ef.of_skip (w' := { w with heap := w.heap.setIfInBounds b (.map ((l ++ [(i, j, clock)]).map entI).toArray (clock + 1)) }) ?_).mono fun v w' ⟨_, e2⟩ => ?_
  · simp [execOp, Instr.mapUpdate, hf.ev hm, hf.ev hx, hf.ev hy, run_under hT, getObj, hM, hck, Instr.findKey, run_under hK, hfind, setObj, Sem.run, entI]
  · subst e2
    refine ⟨⟨rfl, rfl, rfl, by simp, fun k hk => ?_⟩, ?_⟩
    · show (w.heap.setIfInBounds b _)[k]? = _
      rw [Array.getElem?_setIfInBounds_ne (Ne.symm hk)]
    · show (w.heap.setIfInBounds b _)[b]? = _
      simp [hlt]
theorem ev_lookup {T K E : TypeId} {m x : Operand} {b clock : Nat} {l : List (Int × Int × Nat)} {i v : Int} (hf : Fr a n e) (hm : ev e m = some (.map (some b))) (hx : ev e x = some (.int .i64 i)) (hT : P.underlying T = some (.map K E)) (hK : P.underlying K = some (.int .i64)) (hM : MapI w b l clock) (hv : (l.find? fun p => p.1 == i).map (fun p => p.2.1) = some v) :
    Ev P ⟨d, .lookup T m x false, ty, pos, af, g⟩ a w (.int .i64 v) := fun w' hw => by
  obtain ⟨j, hj⟩ := findNow_some (k := .i64) l 0 hv
  have hM' := hM.below hw
  have hck : ∀ em, (Instr.checkKey em 10000 K (.int .i64 i)).run P w' = .ok () w' := fun em => MapKept.run_checkKey hK (show MapKept.IsKey (.int .i64) (.int .i64 i) from rfl) em 9999
  unfold MapI at hM'
  simp [execOp, Instr.lookup, hf.ev hm, hf.ev hx, run_under hT, getObj, Sem.run, hM', hck, Instr.findKey, run_under hK, hj]
end
end Go.Proofs.YtfgnmflfiobkmaaGreat
set_option maxRecDepth 4000
namespace Go.Proofs.YtfgnmflfiobkmaaGreat
open Go.RowKit
theorem F221 (w0 : World) (k : Int) (i : Int) (j : Int) (hk : 1 ≤ k ∧ k ≤ 8) (hj : j = 0 ∨ j = 1) : Ret Tryz.prog 221 [.int .i64 k, .int .i64 i, .int .i64 j] w0 (fun v w => v = dV (entryI k i j) ∧ Below w0.heap.size w0 w) := by
 refine enter Tryz.func221 rfl 67 rfl rfl ?_
 intro a hf
 have hW : Below w0.heap.size w0 w0 := Below.refl _ _
 refine wp_seq_k ?_; intro K1 hK1
 refine wp_region_lit ?_
 refine l_f hf rfl (ef_alloc (zs := [.int .i64 0, .int .i64 0, .int .i64 0, .int .i64 0, .int .i64 0]) z_189 rfl) ?_; rintro a _ w1 ⟨b2, rfl, hl2, hE, hB2⟩ hf
 have hlo2 := Nat.le_trans hW.size hl2
 replace hW := btr hW hE
 clear hE
 refine wpList_nil ?_
 refine hK1 _ _ ?_; try clear hK1 K1
 refine wp_seq_k ?_; intro K3 hK3
 refine wp_region_lit ?_
 refine l_e hf rfl (ev_build (ps := [(0, .int .i64 1)]) (cs := [.int .i64 1, .int .i64 0, .int .i64 0, .int .i64 0]) hf rfl (fun _ => by first | rfl | kernel_rfl)) ?_; intro a hf
 refine l_e hf rfl (ev_build (ps := [(0, .agg #[.int .i64 1, .int .i64 0, .int .i64 0, .int .i64 0]), (1, .int .i64 1)]) (cs := [.int .i64 1, .int .i64 0, .int .i64 0, .int .i64 0, .int .i64 1]) hf rfl (fun _ => by first | rfl | kernel_rfl)) ?_; intro a hf
 refine l_f hf rfl (ef_alloc (zs := [.int .i64 0, .int .i64 0, .int .i64 0, .int .i64 0, .int .i64 0]) z_189 rfl) ?_; rintro a _ w2 ⟨b4, rfl, hl4, hE, hB4⟩ hf
 have hne2_4 : b2 ≠ b4 := by have := hB2.lt; omega
 have hlo4 := Nat.le_trans hW.size hl4
 replace hB2 := hB2.below hE
 replace hW := btr hW hE
 clear hE
 refine l_f0 hf (ef_store (vs := [.int .i64 1, .int .i64 0, .int .i64 0, .int .i64 0, .int .i64 1]) (l' := [.int .i64 1, .int .i64 0, .int .i64 0, .int .i64 0, .int .i64 1]) hf rfl rfl sz_189 hB4 rfl rfl rfl rfl rfl) ?_; rintro a _ w3 ⟨ho, hb⟩ hf
 have hold := hB4
 replace hB2 := hB2.only ho (by omega)
 replace hW := Below.only hW ho hlo4
 clear hold
 have hB4 := hb
 clear hb ho
 refine wpList_nil ?_
 refine hK3 _ _ ?_; try clear hK3 K3
 refine wp_seq_k ?_; intro K5 hK5
 refine wp_region_lit ?_
 refine l_f hf rfl (ef_makeMap) ?_; rintro a _ w4 ⟨b6, rfl, hl6, hE, hM6⟩ hf
 have hlo6 := Nat.le_trans hW.size hl6
 replace hB2 := hB2.below hE
 replace hB4 := hB4.below hE
 replace hW := btr hW hE
 clear hE
 refine l_f0 hf (ef_insert (l := []) (clock := 0) hf rfl rfl rfl Tryz.underlying272 Tryz.underlying3 hM6 rfl) ?_; rintro a _ w5 ⟨ho, hmap⟩ hf
 replace hB2 := hB2.only ho (Ne.symm (hM6.ne hB2))
 replace hB4 := hB4.only ho (Ne.symm (hM6.ne hB4))
 replace hW := Below.only hW ho hlo6
 replace hM6 := hmap; clear hmap ho
 refine l_f0 hf (ef_insert (l := [(4, 4, 0)]) (clock := 1) hf rfl rfl rfl Tryz.underlying272 Tryz.underlying3 hM6 rfl) ?_; rintro a _ w6 ⟨ho, hmap⟩ hf
 replace hB2 := hB2.only ho (Ne.symm (hM6.ne hB2))
 replace hB4 := hB4.only ho (Ne.symm (hM6.ne hB4))
 replace hW := Below.only hW ho hlo6
 replace hM6 := hmap; clear hmap ho
 refine l_f0 hf (ef_insert (l := [(4, 4, 0), (5, 2, 1)]) (clock := 2) hf rfl rfl rfl Tryz.underlying272 Tryz.underlying3 hM6 rfl) ?_; rintro a _ w7 ⟨ho, hmap⟩ hf
 replace hB2 := hB2.only ho (Ne.symm (hM6.ne hB2))
 replace hB4 := hB4.only ho (Ne.symm (hM6.ne hB4))
 replace hW := Below.only hW ho hlo6
 replace hM6 := hmap; clear hmap ho
 refine l_f0 hf (ef_insert (l := [(4, 4, 0), (5, 2, 1), (6, 6, 2)]) (clock := 3) hf rfl rfl rfl Tryz.underlying272 Tryz.underlying3 hM6 rfl) ?_; rintro a _ w8 ⟨ho, hmap⟩ hf
 replace hB2 := hB2.only ho (Ne.symm (hM6.ne hB2))
 replace hB4 := hB4.only ho (Ne.symm (hM6.ne hB4))
 replace hW := Below.only hW ho hlo6
 replace hM6 := hmap; clear hmap ho
 refine l_f0 hf (ef_insert (l := [(4, 4, 0), (5, 2, 1), (6, 6, 2), (7, 1, 3)]) (clock := 4) hf rfl rfl rfl Tryz.underlying272 Tryz.underlying3 hM6 rfl) ?_; rintro a _ w9 ⟨ho, hmap⟩ hf
 replace hB2 := hB2.only ho (Ne.symm (hM6.ne hB2))
 replace hB4 := hB4.only ho (Ne.symm (hM6.ne hB4))
 replace hW := Below.only hW ho hlo6
 replace hM6 := hmap; clear hmap ho
 refine l_mv hf rfl rfl ?_; intro a hf
 refine l_as hf rfl rfl ?_; intro a hf
 refine wpList_nil ?_
 refine hK5 _ _ ?_; try clear hK5 K5
 refine wp_seq_k ?_; intro K7 hK7
 refine wp_block ?_
 refine wp_seq_k ?_; intro K8 hK8
 refine wp_region_lit ?_
 refine l_mv hf rfl rfl ?_; intro a hf
 refine l_e hf rfl (ev_eql hf rfl rfl) ?_; intro a hf
 refine l_as hf rfl rfl ?_; intro a hf
 refine wpList_nil ?_
 refine hK8 _ _ ?_; try clear hK8 K8
 refine c_if hf rfl (fun hc9 => ?_) (fun hc9 => ?_)
 ·have hc9b := hc9
  have e1 : k = 1 := by simpa using hc9
  refine wp_seq_k ?_; intro K10 hK10
  refine wp_seq_k ?_; intro K11 hK11
  refine c_cut (fun a w => Fr a 67 [(6, .pointer (some ⟨b2, 0, none⟩)), (7, .pointer (some ⟨b4, 0, none⟩)), (21, .bool ((i == 1) && (j == 1)))] ∧ w9 = w) ?_ ?_
  ·refine wp_region_lit ?_
   refine l_mv hf rfl rfl ?_; intro a hf
   refine l_e hf rfl (ev_eql hf rfl rfl) ?_; intro a hf
   refine l_mv hf rfl rfl ?_; intro a hf
   refine g_split hf (t := 18) rfl (fun hg12 => ?_) (fun hg12 => ?_)
   ·refine l_ev hf ⟨_, _, rfl, rfl, hg12⟩ rfl rfl (ev_move hf rfl) ?_; intro a hf
    refine l_ev hf ⟨_, _, rfl, rfl, hg12⟩ rfl rfl (ev_eql hf rfl rfl) ?_; intro a hf
    refine l_e hf rfl (ev_pickT hf rfl hg12 rfl) ?_; intro a hf
    refine wpList_nil ?_
    exact ⟨hf.sub ⟨rfl, rfl, look_bool rfl (by first | rfl | (simp only [hc9b, hg12, Bool.true_and, Bool.false_and, Bool.true_or, Bool.false_or]; done) | simp [hc9b, hg12]), trivial⟩, rfl⟩
   refine l_pass hf ⟨_, _, rfl, rfl, hg12⟩ rfl rfl ?_; intro a hf
   refine l_pass hf ⟨_, _, rfl, rfl, hg12⟩ rfl rfl ?_; intro a hf
   refine l_e hf rfl (ev_pickF hf rfl hg12 rfl) ?_; intro a hf
   refine wpList_nil ?_
   exact ⟨hf.sub ⟨rfl, rfl, look_bool rfl (by first | rfl | (simp only [hc9b, hg12, Bool.true_and, Bool.false_and, Bool.true_or, Bool.false_or]; done) | simp [hc9b, hg12]), trivial⟩, rfl⟩
  rintro a _ ⟨hf, rfl⟩
  refine hK11 _ _ ?_; try clear hK11 K11
  refine c_if hf rfl (fun hc13 => ?_) (fun hc13 => ?_)
  ·have hc13b := hc13
   have hfin : entryI k i j = ⟨⟨-1, 0, 0, 0⟩, 1⟩ := by rw [entryI, if_pos e1, if_pos (by simpa using hc13)]
   refine wp_region_lit ?_
   refine l_e hf rfl (ev_fieldB hf rfl fd_189_0 (m := 0) rfl) ?_; intro a hf
   refine l_e hf rfl (ev_fieldB hf rfl fd_187_0 (m := 0) rfl) ?_; intro a hf
   refine l_f0 hf (ef_store (vs := [.int .i64 (-1)]) (l' := [.int .i64 (-1), .int .i64 0, .int .i64 0, .int .i64 0, .int .i64 1]) hf rfl rfl sz_3 hB4 rfl rfl rfl rfl rfl) ?_; rintro a _ w10 ⟨ho, hb⟩ hf
   have hold := hB4
   replace hB2 := hB2.only ho (by omega)
   replace hM6 := hM6.only ho (hM6.ne hold)
   replace hW := Below.only hW ho hlo4
   clear hold
   have hB4 := hb
   clear hb ho
   refine wpList_nil ?_
   refine hK10 _ _ ?_; try clear hK10 K10
   refine wp_seq_k ?_; intro K14 hK14
   refine wp_region_lit ?_
   refine l_e hf rfl (ev_loadN (l := [.int .i64 (-1), .int .i64 0, .int .i64 0, .int .i64 0, .int .i64 1]) hf rfl tN_189 (hB4.at 0) rfl) ?_; intro a hf
   refine l_f0 hf (ef_store (vs := [.int .i64 (-1), .int .i64 0, .int .i64 0, .int .i64 0, .int .i64 1]) (l' := [.int .i64 (-1), .int .i64 0, .int .i64 0, .int .i64 0, .int .i64 1]) hf rfl rfl sz_189 hB2 rfl rfl rfl rfl rfl) ?_; rintro a _ w11 ⟨ho, hb⟩ hf
   have hold := hB2
   replace hB4 := hB4.only ho (by omega)
   replace hM6 := hM6.only ho (hM6.ne hold)
   replace hW := Below.only hW ho hlo2
   clear hold
   have hB2 := hb
   clear hb ho
   refine wpList_nil ?_
   refine hK14 _ _ ?_; try clear hK14 K14
   refine wp_ret ?_
   refine x_retB ?_
   refine x_retS ?_
   refine c_ret hf (res1 hf rfl (ResV.cellN (l := [.int .i64 (-1), .int .i64 0, .int .i64 0, .int .i64 0, .int .i64 1]) rfl tN_189 (hB2.at 0) rfl)) ?_
   exact ⟨(by rw [hfin]; try rfl), hW⟩
  have hc13b := hc13
  have hfin : entryI k i j = dHalf := by rw [entryI, if_pos e1, if_neg (by simpa using hc13)]
  refine wp_skip ?_
  refine hK10 _ _ ?_; try clear hK10 K10
  refine wp_seq_k ?_; intro K15 hK15
  refine wp_region_lit ?_
  refine l_e hf rfl (ev_loadN (l := [.int .i64 1, .int .i64 0, .int .i64 0, .int .i64 0, .int .i64 1]) hf rfl tN_189 (hB4.at 0) rfl) ?_; intro a hf
  refine l_f0 hf (ef_store (vs := [.int .i64 1, .int .i64 0, .int .i64 0, .int .i64 0, .int .i64 1]) (l' := [.int .i64 1, .int .i64 0, .int .i64 0, .int .i64 0, .int .i64 1]) hf rfl rfl sz_189 hB2 rfl rfl rfl rfl rfl) ?_; rintro a _ w12 ⟨ho, hb⟩ hf
  have hold := hB2
  replace hB4 := hB4.only ho (by omega)
  replace hM6 := hM6.only ho (hM6.ne hold)
  replace hW := Below.only hW ho hlo2
  clear hold
  have hB2 := hb
  clear hb ho
  refine wpList_nil ?_
  refine hK15 _ _ ?_; try clear hK15 K15
  refine wp_ret ?_
  refine x_retB ?_
  refine x_retS ?_
  refine c_ret hf (res1 hf rfl (ResV.cellN (l := [.int .i64 1, .int .i64 0, .int .i64 0, .int .i64 0, .int .i64 1]) rfl tN_189 (hB2.at 0) rfl)) ?_
  exact ⟨(by rw [hfin]; try rfl), hW⟩
 have hc9b := hc9
 have e1 : ¬ k = 1 := by simpa using hc9
 refine wp_seq_k ?_; intro K16 hK16
 refine c_cut (fun a w => Fr a 67 [(0, .int .i64 k), (1, .int .i64 i), (2, .int .i64 j), (6, .pointer (some ⟨b2, 0, none⟩)), (8, .map (some b6)), (25, .bool ((k == 2) && (i != j)))] ∧ w9 = w) ?_ ?_
 ·refine wp_region_lit ?_
  refine l_mv hf rfl rfl ?_; intro a hf
  refine l_e hf rfl (ev_eql hf rfl rfl) ?_; intro a hf
  refine l_mv hf rfl rfl ?_; intro a hf
  refine g_split hf (t := 28) rfl (fun hg17 => ?_) (fun hg17 => ?_)
  ·refine l_ev hf ⟨_, _, rfl, rfl, hg17⟩ rfl rfl (ev_move hf rfl) ?_; intro a hf
   refine l_ev hf ⟨_, _, rfl, rfl, hg17⟩ rfl rfl (ev_move hf rfl) ?_; intro a hf
   refine l_ev hf ⟨_, _, rfl, rfl, hg17⟩ rfl rfl (ev_neq hf rfl rfl) ?_; intro a hf
   refine l_e hf rfl (ev_pickT hf rfl hg17 rfl) ?_; intro a hf
   refine l_as hf rfl rfl ?_; intro a hf
   refine wpList_nil ?_
   exact ⟨hf.sub ⟨rfl, rfl, rfl, rfl, rfl, look_bool rfl (by first | rfl | (simp only [hc9b, hg17, Bool.true_and, Bool.false_and, Bool.true_or, Bool.false_or]; done) | simp [hc9b, hg17]), trivial⟩, rfl⟩
  refine l_pass hf ⟨_, _, rfl, rfl, hg17⟩ rfl rfl ?_; intro a hf
  refine l_pass hf ⟨_, _, rfl, rfl, hg17⟩ rfl rfl ?_; intro a hf
  refine l_pass hf ⟨_, _, rfl, rfl, hg17⟩ rfl rfl ?_; intro a hf
  refine l_e hf rfl (ev_pickF hf rfl hg17 rfl) ?_; intro a hf
  refine l_as hf rfl rfl ?_; intro a hf
  refine wpList_nil ?_
  exact ⟨hf.sub ⟨rfl, rfl, rfl, rfl, rfl, look_bool rfl (by first | rfl | (simp only [hc9b, hg17, Bool.true_and, Bool.false_and, Bool.true_or, Bool.false_or]; done) | simp [hc9b, hg17]), trivial⟩, rfl⟩
 rintro a _ ⟨hf, rfl⟩
 refine hK16 _ _ ?_; try clear hK16 K16
 refine c_if hf rfl (fun hc18 => ?_) (fun hc18 => ?_)
 ·have hc18b := hc18
  have hfin : entryI k i j = ⟨⟨1, 0, 0, 0⟩, 0⟩ := by rw [entryI, if_neg e1, if_pos (by simpa using hc18)]
  refine wp_seq_k ?_; intro K19 hK19
  refine wp_region_lit ?_
  refine l_f hf rfl (ef_call (vs := [.int .i64 1]) hf rfl ff_187 (F187 _ 1)) ?_; rintro a _ w13 ⟨rfl, hE⟩ hf
  replace hB2 := hB2.below hE
  replace hM6 := hM6.below hE
  replace hW := btr hW hE
  clear hE
  refine l_f0 hf (ef_store (vs := [.int .i64 ((⟨⟨1, 0, 0, 0⟩, 0⟩ : Dy).num.a), .int .i64 ((⟨⟨1, 0, 0, 0⟩, 0⟩ : Dy).num.b), .int .i64 ((⟨⟨1, 0, 0, 0⟩, 0⟩ : Dy).num.c), .int .i64 ((⟨⟨1, 0, 0, 0⟩, 0⟩ : Dy).num.d), .int .i64 ((⟨⟨1, 0, 0, 0⟩, 0⟩ : Dy).exp)]) (l' := [.int .i64 ((⟨⟨1, 0, 0, 0⟩, 0⟩ : Dy).num.a), .int .i64 ((⟨⟨1, 0, 0, 0⟩, 0⟩ : Dy).num.b), .int .i64 ((⟨⟨1, 0, 0, 0⟩, 0⟩ : Dy).num.c), .int .i64 ((⟨⟨1, 0, 0, 0⟩, 0⟩ : Dy).num.d), .int .i64 ((⟨⟨1, 0, 0, 0⟩, 0⟩ : Dy).exp)]) hf rfl rfl sz_189 hB2 rfl rfl rfl rfl rfl) ?_; rintro a _ w14 ⟨ho, hb⟩ hf
  have hold := hB2
  replace hM6 := hM6.only ho (hM6.ne hold)
  replace hW := Below.only hW ho hlo2
  clear hold
  have hB2 := hb
  clear hb ho
  refine wpList_nil ?_
  refine hK19 _ _ ?_; try clear hK19 K19
  refine wp_ret ?_
  refine x_retB ?_
  refine x_retS ?_
  refine c_ret hf (res1 hf rfl (ResV.cellN (l := [.int .i64 ((⟨⟨1, 0, 0, 0⟩, 0⟩ : Dy).num.a), .int .i64 ((⟨⟨1, 0, 0, 0⟩, 0⟩ : Dy).num.b), .int .i64 ((⟨⟨1, 0, 0, 0⟩, 0⟩ : Dy).num.c), .int .i64 ((⟨⟨1, 0, 0, 0⟩, 0⟩ : Dy).num.d), .int .i64 ((⟨⟨1, 0, 0, 0⟩, 0⟩ : Dy).exp)]) rfl tN_189 (hB2.at 0) rfl)) ?_
  exact ⟨(by rw [hfin]; try rfl), hW⟩
 have hc18b := hc18
 have e2 : ¬ (k = 2 ∧ i ≠ j) := by simpa using hc18
 refine wp_seq_k ?_; intro K20 hK20
 refine c_cut (fun a w => Fr a 67 [(0, .int .i64 k), (1, .int .i64 i), (2, .int .i64 j), (6, .pointer (some ⟨b2, 0, none⟩)), (8, .map (some b6)), (34, .bool ((k == 3) && (i != j)))] ∧ w9 = w) ?_ ?_
 ·refine wp_region_lit ?_
  refine l_mv hf rfl rfl ?_; intro a hf
  refine l_e hf rfl (ev_eql hf rfl rfl) ?_; intro a hf
  refine l_mv hf rfl rfl ?_; intro a hf
  refine g_split hf (t := 37) rfl (fun hg21 => ?_) (fun hg21 => ?_)
  ·refine l_ev hf ⟨_, _, rfl, rfl, hg21⟩ rfl rfl (ev_move hf rfl) ?_; intro a hf
   refine l_ev hf ⟨_, _, rfl, rfl, hg21⟩ rfl rfl (ev_move hf rfl) ?_; intro a hf
   refine l_ev hf ⟨_, _, rfl, rfl, hg21⟩ rfl rfl (ev_neq hf rfl rfl) ?_; intro a hf
   refine l_e hf rfl (ev_pickT hf rfl hg21 rfl) ?_; intro a hf
   refine l_as hf rfl rfl ?_; intro a hf
   refine wpList_nil ?_
   exact ⟨hf.sub ⟨rfl, rfl, rfl, rfl, rfl, look_bool rfl (by first | rfl | (simp only [hc9b, hc18b, hg21, Bool.true_and, Bool.false_and, Bool.true_or, Bool.false_or]; done) | simp [hc9b, hc18b, hg21]), trivial⟩, rfl⟩
  refine l_pass hf ⟨_, _, rfl, rfl, hg21⟩ rfl rfl ?_; intro a hf
  refine l_pass hf ⟨_, _, rfl, rfl, hg21⟩ rfl rfl ?_; intro a hf
  refine l_pass hf ⟨_, _, rfl, rfl, hg21⟩ rfl rfl ?_; intro a hf
  refine l_e hf rfl (ev_pickF hf rfl hg21 rfl) ?_; intro a hf
  refine l_as hf rfl rfl ?_; intro a hf
  refine wpList_nil ?_
  exact ⟨hf.sub ⟨rfl, rfl, rfl, rfl, rfl, look_bool rfl (by first | rfl | (simp only [hc9b, hc18b, hg21, Bool.true_and, Bool.false_and, Bool.true_or, Bool.false_or]; done) | simp [hc9b, hc18b, hg21]), trivial⟩, rfl⟩
 rintro a _ ⟨hf, rfl⟩
 refine hK20 _ _ ?_; try clear hK20 K20
 refine c_if hf rfl (fun hc22 => ?_) (fun hc22 => ?_)
 ·have hc22b := hc22
  have e33 : k = 3 ∧ i ≠ j := (by simpa using hc22)
  have hfin : entryI k i j = dPow (2 + 4 * j) := by rw [entryI, if_neg e1, if_neg e2, if_pos e33]
  refine wp_seq_k ?_; intro K23 hK23
  refine wp_region_lit ?_
  refine l_mv hf rfl rfl ?_; intro a hf
  refine l_e hf rfl (ev_mulx hf rfl rfl (by omega) (by omega)) ?_; intro a hf
  refine l_e hf rfl (ev_addx hf rfl rfl (by omega) (by omega)) ?_; intro a hf
  refine l_f hf rfl (ef_call (vs := [.int .i64 (2 + (4 * j))]) hf rfl ff_140 (F140 _ (2 + (4 * j)) (inR_iff.2 ⟨by omega, by omega⟩))) ?_; rintro a _ w15 ⟨rfl, hE⟩ hf
  replace hB2 := hB2.below hE
  replace hM6 := hM6.below hE
  replace hW := btr hW hE
  clear hE
  refine l_f0 hf (ef_store (vs := [.int .i64 ((dPow (2 + (4 * j))).num.a), .int .i64 ((dPow (2 + (4 * j))).num.b), .int .i64 ((dPow (2 + (4 * j))).num.c), .int .i64 ((dPow (2 + (4 * j))).num.d), .int .i64 ((dPow (2 + (4 * j))).exp)]) (l' := [.int .i64 ((dPow (2 + (4 * j))).num.a), .int .i64 ((dPow (2 + (4 * j))).num.b), .int .i64 ((dPow (2 + (4 * j))).num.c), .int .i64 ((dPow (2 + (4 * j))).num.d), .int .i64 ((dPow (2 + (4 * j))).exp)]) hf rfl rfl sz_189 hB2 rfl rfl rfl rfl rfl) ?_; rintro a _ w16 ⟨ho, hb⟩ hf
  have hold := hB2
  replace hM6 := hM6.only ho (hM6.ne hold)
  replace hW := Below.only hW ho hlo2
  clear hold
  have hB2 := hb
  clear hb ho
  refine wpList_nil ?_
  refine hK23 _ _ ?_; try clear hK23 K23
  refine wp_ret ?_
  refine x_retB ?_
  refine x_retS ?_
  refine c_ret hf (res1 hf rfl (ResV.cellN (l := [.int .i64 ((dPow (2 + (4 * j))).num.a), .int .i64 ((dPow (2 + (4 * j))).num.b), .int .i64 ((dPow (2 + (4 * j))).num.c), .int .i64 ((dPow (2 + (4 * j))).num.d), .int .i64 ((dPow (2 + (4 * j))).exp)]) rfl tN_189 (hB2.at 0) rfl)) ?_
  exact ⟨(by rw [hfin]; try rfl), hW⟩
 have hc22b := hc22
 have e3 : ¬ (k = 3 ∧ i ≠ j) := by simpa using hc22
 refine wp_seq_k ?_; intro K24 hK24
 refine c_cut (fun a w => Fr a 67 [(0, .int .i64 k), (1, .int .i64 i), (6, .pointer (some ⟨b2, 0, none⟩)), (8, .map (some b6)), (46, .bool (((k == 2) || (k == 3)) || (i != j)))] ∧ w9 = w) ?_ ?_
 ·refine wp_region_lit ?_
  refine l_mv hf rfl rfl ?_; intro a hf
  refine l_e hf rfl (ev_eql hf rfl rfl) ?_; intro a hf
  refine l_mv hf rfl rfl ?_; intro a hf
  refine g_split hf (t := 49) rfl (fun hg25 => ?_) (fun hg25 => ?_)
  ·refine l_pass hf ⟨_, _, rfl, rfl, hg25⟩ rfl rfl ?_; intro a hf
   refine l_pass hf ⟨_, _, rfl, rfl, hg25⟩ rfl rfl ?_; intro a hf
   refine l_e hf rfl (ev_pickT hf rfl hg25 rfl) ?_; intro a hf
   refine l_mv hf rfl rfl ?_; intro a hf
   refine l_pass hf ⟨_, _, rfl, rfl, rfl⟩ rfl rfl ?_; intro a hf
   refine l_pass hf ⟨_, _, rfl, rfl, rfl⟩ rfl rfl ?_; intro a hf
   refine l_pass hf ⟨_, _, rfl, rfl, rfl⟩ rfl rfl ?_; intro a hf
   refine l_e hf rfl (ev_pickT hf rfl rfl rfl) ?_; intro a hf
   refine l_as hf rfl rfl ?_; intro a hf
   refine wpList_nil ?_
   exact ⟨hf.sub ⟨rfl, rfl, rfl, rfl, look_bool rfl (by first | rfl | (simp only [hc9b, hc18b, hc22b, hg25, Bool.true_and, Bool.false_and, Bool.true_or, Bool.false_or]; done) | simp [hc9b, hc18b, hc22b, hg25]), trivial⟩, rfl⟩
  refine l_ev hf ⟨_, _, rfl, rfl, hg25⟩ rfl rfl (ev_move hf rfl) ?_; intro a hf
  refine l_ev hf ⟨_, _, rfl, rfl, hg25⟩ rfl rfl (ev_eql hf rfl rfl) ?_; intro a hf
  refine l_e hf rfl (ev_pickF hf rfl hg25 rfl) ?_; intro a hf
  refine l_mv hf rfl rfl ?_; intro a hf
  refine g_split hf (t := 53) rfl (fun hg26 => ?_) (fun hg26 => ?_)
  ·refine l_pass hf ⟨_, _, rfl, rfl, hg26⟩ rfl rfl ?_; intro a hf
   refine l_pass hf ⟨_, _, rfl, rfl, hg26⟩ rfl rfl ?_; intro a hf
   refine l_pass hf ⟨_, _, rfl, rfl, hg26⟩ rfl rfl ?_; intro a hf
   refine l_e hf rfl (ev_pickT hf rfl hg26 rfl) ?_; intro a hf
   refine l_as hf rfl rfl ?_; intro a hf
   refine wpList_nil ?_
   exact ⟨hf.sub ⟨rfl, rfl, rfl, rfl, look_bool rfl (by first | rfl | (simp only [hc9b, hc18b, hc22b, hg25, hg26, Bool.true_and, Bool.false_and, Bool.true_or, Bool.false_or]; done) | simp [hc9b, hc18b, hc22b, hg25, hg26]), trivial⟩, rfl⟩
  refine l_ev hf ⟨_, _, rfl, rfl, hg26⟩ rfl rfl (ev_move hf rfl) ?_; intro a hf
  refine l_ev hf ⟨_, _, rfl, rfl, hg26⟩ rfl rfl (ev_move hf rfl) ?_; intro a hf
  refine l_ev hf ⟨_, _, rfl, rfl, hg26⟩ rfl rfl (ev_neq hf rfl rfl) ?_; intro a hf
  refine l_e hf rfl (ev_pickF hf rfl hg26 rfl) ?_; intro a hf
  refine l_as hf rfl rfl ?_; intro a hf
  refine wpList_nil ?_
  exact ⟨hf.sub ⟨rfl, rfl, rfl, rfl, look_bool rfl (by first | rfl | (simp only [hc9b, hc18b, hc22b, hg25, hg26, Bool.true_and, Bool.false_and, Bool.true_or, Bool.false_or]; done) | simp [hc9b, hc18b, hc22b, hg25, hg26]), trivial⟩, rfl⟩
 rintro a _ ⟨hf, rfl⟩
 refine hK24 _ _ ?_; try clear hK24 K24
 refine c_if hf rfl (fun hc27 => ?_) (fun hc27 => ?_)
 ·have hc27b := hc27
  have hfin : entryI k i j = dZ := by rw [entryI, if_neg e1, if_neg e2, if_neg e3, if_pos (by simpa [or_assoc] using hc27)]
  refine wp_seq_k ?_; intro K28 hK28
  refine wp_region_lit ?_
  refine l_e hf rfl (ev_build (ps := []) (cs := [.int .i64 0, .int .i64 0, .int .i64 0, .int .i64 0, .int .i64 0]) hf rfl (fun _ => by first | rfl | kernel_rfl)) ?_; intro a hf
  refine l_f0 hf (ef_store (vs := [.int .i64 0, .int .i64 0, .int .i64 0, .int .i64 0, .int .i64 0]) (l' := [.int .i64 0, .int .i64 0, .int .i64 0, .int .i64 0, .int .i64 0]) hf rfl rfl sz_189 hB2 rfl rfl rfl rfl rfl) ?_; rintro a _ w17 ⟨ho, hb⟩ hf
  have hold := hB2
  replace hM6 := hM6.only ho (hM6.ne hold)
  replace hW := Below.only hW ho hlo2
  clear hold
  have hB2 := hb
  clear hb ho
  refine wpList_nil ?_
  refine hK28 _ _ ?_; try clear hK28 K28
  refine wp_ret ?_
  refine x_retB ?_
  refine x_retS ?_
  refine c_ret hf (res1 hf rfl (ResV.cellN (l := [.int .i64 0, .int .i64 0, .int .i64 0, .int .i64 0, .int .i64 0]) rfl tN_189 (hB2.at 0) rfl)) ?_
  exact ⟨(by rw [hfin]; try rfl), hW⟩
 have hc27b := hc27
 have e4 : ¬ (k = 2 ∨ k = 3 ∨ i ≠ j) := by simpa [not_or, and_assoc] using hc27
 refine wp_seq_k ?_; intro K29 hK29
 refine wp_region_lit ?_
 refine l_mv hf rfl rfl ?_; intro a hf
 refine l_e hf rfl (ev_eql hf rfl rfl) ?_; intro a hf
 refine l_as hf rfl rfl ?_; intro a hf
 refine wpList_nil ?_
 refine hK29 _ _ ?_; try clear hK29 K29
 refine c_if hf rfl (fun hc30 => ?_) (fun hc30 => ?_)
 ·have hc30b := hc30
  have hfin : entryI k i j = ⟨⟨1, 0, 0, 0⟩, 0⟩ := by rw [entryI, if_neg e1, if_neg e2, if_neg e3, if_neg e4, if_pos (by simpa using hc30)]
  refine wp_seq_k ?_; intro K31 hK31
  refine wp_region_lit ?_
  refine l_f hf rfl (ef_call (vs := [.int .i64 1]) hf rfl ff_187 (F187 _ 1)) ?_; rintro a _ w18 ⟨rfl, hE⟩ hf
  replace hB2 := hB2.below hE
  replace hM6 := hM6.below hE
  replace hW := btr hW hE
  clear hE
  refine l_f0 hf (ef_store (vs := [.int .i64 ((⟨⟨1, 0, 0, 0⟩, 0⟩ : Dy).num.a), .int .i64 ((⟨⟨1, 0, 0, 0⟩, 0⟩ : Dy).num.b), .int .i64 ((⟨⟨1, 0, 0, 0⟩, 0⟩ : Dy).num.c), .int .i64 ((⟨⟨1, 0, 0, 0⟩, 0⟩ : Dy).num.d), .int .i64 ((⟨⟨1, 0, 0, 0⟩, 0⟩ : Dy).exp)]) (l' := [.int .i64 ((⟨⟨1, 0, 0, 0⟩, 0⟩ : Dy).num.a), .int .i64 ((⟨⟨1, 0, 0, 0⟩, 0⟩ : Dy).num.b), .int .i64 ((⟨⟨1, 0, 0, 0⟩, 0⟩ : Dy).num.c), .int .i64 ((⟨⟨1, 0, 0, 0⟩, 0⟩ : Dy).num.d), .int .i64 ((⟨⟨1, 0, 0, 0⟩, 0⟩ : Dy).exp)]) hf rfl rfl sz_189 hB2 rfl rfl rfl rfl rfl) ?_; rintro a _ w19 ⟨ho, hb⟩ hf
  have hold := hB2
  replace hM6 := hM6.only ho (hM6.ne hold)
  replace hW := Below.only hW ho hlo2
  clear hold
  have hB2 := hb
  clear hb ho
  refine wpList_nil ?_
  refine hK31 _ _ ?_; try clear hK31 K31
  refine wp_ret ?_
  refine x_retB ?_
  refine x_retS ?_
  refine c_ret hf (res1 hf rfl (ResV.cellN (l := [.int .i64 ((⟨⟨1, 0, 0, 0⟩, 0⟩ : Dy).num.a), .int .i64 ((⟨⟨1, 0, 0, 0⟩, 0⟩ : Dy).num.b), .int .i64 ((⟨⟨1, 0, 0, 0⟩, 0⟩ : Dy).num.c), .int .i64 ((⟨⟨1, 0, 0, 0⟩, 0⟩ : Dy).num.d), .int .i64 ((⟨⟨1, 0, 0, 0⟩, 0⟩ : Dy).exp)]) rfl tN_189 (hB2.at 0) rfl)) ?_
  exact ⟨(by rw [hfin]; try rfl), hW⟩
 have hc30b := hc30
 have hfin : entryI k i j = dPow (turnOf k) := by rw [entryI, if_neg e1, if_neg e2, if_neg e3, if_neg e4, if_neg (by simpa using hc30)]
 refine wp_skip ?_
 refine x_norm ?_
 refine hK7 _ _ ?_; try clear hK7 K7
 refine wp_seq_k ?_; intro K32 hK32
 refine wp_region_lit ?_
 refine l_mv hf rfl rfl ?_; intro a hf
 refine l_mv hf rfl rfl ?_; intro a hf
 refine l_e hf rfl (ev_lookup (v := (turnOf k)) hf rfl rfl Tryz.underlying272 Tryz.underlying3 hM6 (turn_find (by omega) (by omega))) ?_; intro a hf
 refine l_f hf rfl (ef_call (vs := [.int .i64 (turnOf k)]) hf rfl ff_140 (F140 _ (turnOf k) (turnOf_in k))) ?_; rintro a _ w20 ⟨rfl, hE⟩ hf
 replace hB2 := hB2.below hE
 replace hM6 := hM6.below hE
 replace hW := btr hW hE
 clear hE
 refine l_f0 hf (ef_store (vs := [.int .i64 ((dPow (turnOf k)).num.a), .int .i64 ((dPow (turnOf k)).num.b), .int .i64 ((dPow (turnOf k)).num.c), .int .i64 ((dPow (turnOf k)).num.d), .int .i64 ((dPow (turnOf k)).exp)]) (l' := [.int .i64 ((dPow (turnOf k)).num.a), .int .i64 ((dPow (turnOf k)).num.b), .int .i64 ((dPow (turnOf k)).num.c), .int .i64 ((dPow (turnOf k)).num.d), .int .i64 ((dPow (turnOf k)).exp)]) hf rfl rfl sz_189 hB2 rfl rfl rfl rfl rfl) ?_; rintro a _ w21 ⟨ho, hb⟩ hf
 have hold := hB2
 replace hM6 := hM6.only ho (hM6.ne hold)
 replace hW := Below.only hW ho hlo2
 clear hold
 have hB2 := hb
 clear hb ho
 refine wpList_nil ?_
 refine hK32 _ _ ?_; try clear hK32 K32
 refine wp_ret ?_
 refine c_ret hf (res1 hf rfl (ResV.cellN (l := [.int .i64 ((dPow (turnOf k)).num.a), .int .i64 ((dPow (turnOf k)).num.b), .int .i64 ((dPow (turnOf k)).num.c), .int .i64 ((dPow (turnOf k)).num.d), .int .i64 ((dPow (turnOf k)).exp)]) rfl tN_189 (hB2.at 0) rfl)) ?_
 exact ⟨(by rw [hfin]; try rfl), hW⟩
end Go.Proofs.YtfgnmflfiobkmaaGreat
set_option maxRecDepth 4000
namespace Go.Proofs.YtfgnmflfiobkmaaGreat
open Go.RowKit
theorem F217 (w0 : World) (g : Gt) (n : Int) (ba bb : Nat) (hBa : Blk w0 ba 107 (encG g)) (hBb : Blk w0 bb 3 [.int .i64 n]) (hg : gOk n g = true) (i j : Int) : Ret Tryz.prog 217 [.int .i64 i, .int .i64 j, .pointer (some ⟨ba, 0, none⟩), .pointer (some ⟨bb, 0, none⟩)] w0 (fun v w => v = .tuple #[dV (cellI n g i j), .bool true] ∧ Below w0.heap.size w0 w) := by
 have hltba := hBa.lt
 have hltbb := hBb.lt
 unfold encG at hBa
 have hg2 := gOk_spec hg
 have hb01 := bitF_01 n j g.a
 refine enter Tryz.func217 rfl 75 rfl rfl ?_
 intro a hf
 have hW : Below w0.heap.size w0 w0 := Below.refl _ _
 refine wp_seq_k ?_; intro K1 hK1
 refine wp_region_lit ?_
 refine l_f hf rfl (ef_alloc (zs := [.int .i64 0, .int .i64 0, .int .i64 0, .int .i64 0, .int .i64 0]) z_189 rfl) ?_; rintro a _ w1 ⟨b2, rfl, hl2, hE, hB2⟩ hf
 have hlo2 := Nat.le_trans hW.size hl2
 replace hBa := hBa.below hE
 replace hBb := hBb.below hE
 replace hW := btr hW hE
 clear hE
 refine l_as hf rfl rfl ?_; intro a hf
 refine wpList_nil ?_
 refine hK1 _ _ ?_; try clear hK1 K1
 refine wp_seq_k ?_; intro K3 hK3
 refine wp_block ?_
 refine wp_seq_k ?_; intro K4 hK4
 refine wp_region_lit ?_
 refine l_e hf rfl (ev_fieldB hf rfl fd_107_0 (m := 0) rfl) ?_; intro a hf
 refine l_e hf rfl (ev_load1 hf rfl t1_3 (hBa.at 0)) ?_; intro a hf
 refine l_e hf rfl (ev_eql hf rfl rfl) ?_; intro a hf
 refine l_as hf rfl rfl ?_; intro a hf
 refine wpList_nil ?_
 refine hK4 _ _ ?_; try clear hK4 K4
 refine c_if hf rfl (fun hc5 => ?_) (fun hc5 => ?_)
 ·have hc5b := hc5
  have hk := eq_of_beq hc5
  refine wp_seq_k ?_; intro K6 hK6
  refine wp_region_lit ?_
  refine l_mv hf rfl rfl ?_; intro a hf
  refine l_mv hf rfl rfl ?_; intro a hf
  refine l_e hf rfl (ev_eql hf rfl rfl) ?_; intro a hf
  refine wpList_nil ?_
  refine hK6 _ _ ?_; try clear hK6 K6
  refine c_if hf rfl (fun hc7 => ?_) (fun hc7 => ?_)
  ·have hc7b := hc7
   have hfin : cellI n g i j = dPow 1 := by rw [cellI, if_pos hk, if_pos (eq_of_beq hc7)]
   refine wp_seq_k ?_; intro K8 hK8
   refine wp_region_lit ?_
   refine l_f hf rfl (ef_call (vs := [.int .i64 1]) hf rfl ff_140 (F140 _ 1 (by rfl))) ?_; rintro a _ w2 ⟨rfl, hE⟩ hf
   replace hBa := hBa.below hE
   replace hBb := hBb.below hE
   replace hB2 := hB2.below hE
   replace hW := btr hW hE
   clear hE
   refine l_f0 hf (ef_store (vs := [.int .i64 ((dPow 1).num.a), .int .i64 ((dPow 1).num.b), .int .i64 ((dPow 1).num.c), .int .i64 ((dPow 1).num.d), .int .i64 ((dPow 1).exp)]) (l' := [.int .i64 ((dPow 1).num.a), .int .i64 ((dPow 1).num.b), .int .i64 ((dPow 1).num.c), .int .i64 ((dPow 1).num.d), .int .i64 ((dPow 1).exp)]) hf rfl rfl sz_189 hB2 rfl rfl rfl rfl rfl) ?_; rintro a _ w3 ⟨ho, hb⟩ hf
   have hold := hB2
   replace hBa := hBa.only ho (Blk.ne hBa hold rfl)
   replace hBb := hBb.only ho (Blk.ne hBb hold rfl)
   replace hW := Below.only hW ho hlo2
   clear hold
   have hB2 := hb
   clear hb ho
   refine l_as hf rfl rfl ?_; intro a hf
   refine wpList_nil ?_
   refine hK8 _ _ ?_; try clear hK8 K8
   refine wp_ret ?_
   refine x_retB ?_
   refine x_retS ?_
   refine c_ret hf (res2 hf rfl (ResV.cellN (l := [.int .i64 ((dPow 1).num.a), .int .i64 ((dPow 1).num.b), .int .i64 ((dPow 1).num.c), .int .i64 ((dPow 1).num.d), .int .i64 ((dPow 1).exp)]) rfl tN_189 (hB2.at 0) rfl) rfl) ?_
   exact ⟨(by rw [hfin]; try rfl), hW⟩
  have hc7b := hc7
  have hfin : cellI n g i j = dZ := by rw [cellI, if_pos hk, if_neg (ne_of_beqF hc7)]
  refine wp_skip ?_
  refine x_norm ?_
  refine hK3 _ _ ?_; try clear hK3 K3
  refine wp_seq_k ?_; intro K9 hK9
  refine wp_region_lit ?_
  refine l_e hf rfl (ev_build (ps := []) (cs := [.int .i64 0, .int .i64 0, .int .i64 0, .int .i64 0, .int .i64 0]) hf rfl (fun _ => by first | rfl | kernel_rfl)) ?_; intro a hf
  refine l_f0 hf (ef_store (vs := [.int .i64 0, .int .i64 0, .int .i64 0, .int .i64 0, .int .i64 0]) (l' := [.int .i64 0, .int .i64 0, .int .i64 0, .int .i64 0, .int .i64 0]) hf rfl rfl sz_189 hB2 rfl rfl rfl rfl rfl) ?_; rintro a _ w4 ⟨ho, hb⟩ hf
  have hold := hB2
  replace hBa := hBa.only ho (Blk.ne hBa hold rfl)
  replace hBb := hBb.only ho (Blk.ne hBb hold rfl)
  replace hW := Below.only hW ho hlo2
  clear hold
  have hB2 := hb
  clear hb ho
  refine l_as hf rfl rfl ?_; intro a hf
  refine wpList_nil ?_
  refine hK9 _ _ ?_; try clear hK9 K9
  refine wp_ret ?_
  refine c_ret hf (res2 hf rfl (ResV.cellN (l := [.int .i64 0, .int .i64 0, .int .i64 0, .int .i64 0, .int .i64 0]) rfl tN_189 (hB2.at 0) rfl) rfl) ?_
  exact ⟨(by rw [hfin]; try rfl), hW⟩
 have hc5b := hc5
 have hk := ne_of_beqF hc5
 have hga := hg2.2.2.1 hk
 refine wp_seq_k ?_; intro K10 hK10
 refine wp_region_lit ?_
 refine l_e hf rfl (ev_fieldB hf rfl fd_107_0 (m := 0) rfl) ?_; intro a hf
 refine l_e hf rfl (ev_load1 hf rfl t1_3 (hBa.at 0)) ?_; intro a hf
 refine l_f hf rfl (ef_call (vs := [.int .i64 g.k]) hf rfl ff_99 (F99 _ g.k)) ?_; rintro a _ _ ⟨rfl, rfl⟩ hf
 refine l_as hf rfl rfl ?_; intro a hf
 refine wpList_nil ?_
 refine hK10 _ _ ?_; try clear hK10 K10
 refine c_if hf rfl (fun hc11 => ?_) (fun hc11 => ?_)
 ·have hc11b := hc11
  have hk2 := hc11
  have hgb := hg2.2.2.2 (inR_iff.1 hk2)
  refine wp_seq_k ?_; intro K12 hK12
  refine wp_region_lit ?_
  refine l_e hf rfl (ev_load1 hf rfl t1_3 (hBb.at 0)) ?_; intro a hf
  refine l_e hf rfl (ev_loadN (l := [.int .i64 g.k, .int .i64 g.a, .int .i64 g.b]) hf rfl tN_107 (hBa.at 0) rfl) ?_; intro a hf
  refine l_mv hf rfl rfl ?_; intro a hf
  refine l_f hf rfl (ef_call (vs := [.int .i64 n, .agg #[.int .i64 g.k, .int .i64 g.a, .int .i64 g.b], .int .i64 i]) hf rfl ff_218 (F218 _ n g i hg (inR_iff.1 hk2))) ?_; rintro a _ w5 ⟨rfl, hE⟩ hf
  replace hBa := hBa.below hE
  replace hBb := hBb.below hE
  replace hB2 := hB2.below hE
  replace hW := btr hW hE
  clear hE
  refine l_mv hf rfl rfl ?_; intro a hf
  refine l_e hf rfl (ev_eql hf rfl rfl) ?_; intro a hf
  refine wpList_nil ?_
  refine hK12 _ _ ?_; try clear hK12 K12
  refine c_if hf rfl (fun hc13 => ?_) (fun hc13 => ?_)
  ·have hc13b := hc13
   have hfin : cellI n g i j = dPow (4 * (if czI n g i = true then 1 else 0)) := by rw [cellI, if_neg hk, if_pos hk2, if_pos (eq_of_beq hc13)]
   refine wp_seq_k ?_; intro K14 hK14
   refine c_cut (fun a w => Fr a 75 [(6, .pointer (some ⟨b2, 0, none⟩)), (7, .bool true)] ∧ Blk w ba 107 [.int .i64 g.k, .int .i64 g.a, .int .i64 g.b] ∧ Blk w bb 3 [.int .i64 n] ∧ Blk w b2 189 [.int .i64 ((dPow (4 * (if (((g.k == 10) && ((bitF n i g.a) == 1)) && ((bitF n i g.b) == 1)) = true then 1 else 0))).num.a), .int .i64 ((dPow (4 * (if (((g.k == 10) && ((bitF n i g.a) == 1)) && ((bitF n i g.b) == 1)) = true then 1 else 0))).num.b), .int .i64 ((dPow (4 * (if (((g.k == 10) && ((bitF n i g.a) == 1)) && ((bitF n i g.b) == 1)) = true then 1 else 0))).num.c), .int .i64 ((dPow (4 * (if (((g.k == 10) && ((bitF n i g.a) == 1)) && ((bitF n i g.b) == 1)) = true then 1 else 0))).num.d), .int .i64 ((dPow (4 * (if (((g.k == 10) && ((bitF n i g.a) == 1)) && ((bitF n i g.b) == 1)) = true then 1 else 0))).exp)] ∧ Below w0.heap.size w0 w) ?_ ?_
   ·refine wp_region_lit ?_
    refine l_e hf rfl (ev_fieldB hf rfl fd_107_0 (m := 0) rfl) ?_; intro a hf
    refine l_e hf rfl (ev_load1 hf rfl t1_3 (hBa.at 0)) ?_; intro a hf
    refine l_e hf rfl (ev_eql hf rfl rfl) ?_; intro a hf
    refine l_mv hf rfl rfl ?_; intro a hf
    refine g_split hf (t := 29) rfl (fun hg15 => ?_) (fun hg15 => ?_)
    ·refine l_ev hf ⟨_, _, rfl, rfl, hg15⟩ rfl rfl (ev_load1 hf rfl t1_3 (hBb.at 0)) ?_; intro a hf
     refine l_ev hf ⟨_, _, rfl, rfl, hg15⟩ rfl rfl (ev_move hf rfl) ?_; intro a hf
     refine l_ev hf ⟨_, _, rfl, rfl, hg15⟩ rfl rfl (ev_fieldB hf rfl fd_107_1 (m := 1) rfl) ?_; intro a hf
     refine l_ev hf ⟨_, _, rfl, rfl, hg15⟩ rfl rfl (ev_load1 hf rfl t1_3 (hBa.at 1)) ?_; intro a hf
     refine l_eff hf ⟨_, _, rfl, rfl, hg15⟩ rfl rfl (ef_call (vs := [.int .i64 n, .int .i64 i, .int .i64 g.a]) hf rfl ff_219 (F219 _ n i g.a (by omega) (by omega) (by omega))) ?_; rintro a _ _ ⟨rfl, rfl⟩ hf
     refine l_ev hf ⟨_, _, rfl, rfl, hg15⟩ rfl rfl (ev_eql hf rfl rfl) ?_; intro a hf
     refine l_e hf rfl (ev_pickT hf rfl hg15 rfl) ?_; intro a hf
     refine l_mv hf rfl rfl ?_; intro a hf
     refine g_split hf (t := 37) rfl (fun hg16 => ?_) (fun hg16 => ?_)
     ·refine l_ev hf ⟨_, _, rfl, rfl, hg16⟩ rfl rfl (ev_load1 hf rfl t1_3 (hBb.at 0)) ?_; intro a hf
      refine l_ev hf ⟨_, _, rfl, rfl, hg16⟩ rfl rfl (ev_move hf rfl) ?_; intro a hf
      refine l_ev hf ⟨_, _, rfl, rfl, hg16⟩ rfl rfl (ev_fieldB hf rfl fd_107_2 (m := 2) rfl) ?_; intro a hf
      refine l_ev hf ⟨_, _, rfl, rfl, hg16⟩ rfl rfl (ev_load1 hf rfl t1_3 (hBa.at 2)) ?_; intro a hf
      refine l_eff hf ⟨_, _, rfl, rfl, hg16⟩ rfl rfl (ef_call (vs := [.int .i64 n, .int .i64 i, .int .i64 g.b]) hf rfl ff_219 (F219 _ n i g.b (by omega) (by omega) (by omega))) ?_; rintro a _ _ ⟨rfl, rfl⟩ hf
      refine l_ev hf ⟨_, _, rfl, rfl, hg16⟩ rfl rfl (ev_eql hf rfl rfl) ?_; intro a hf
      refine l_e hf rfl (ev_pickT hf rfl hg16 rfl) ?_; intro a hf
      refine l_f hf rfl (ef_call (vs := [.bool ((bitF n i g.b) == 1)]) hf rfl ff_59 (F59 _ ((bitF n i g.b) == 1))) ?_; rintro a _ _ ⟨rfl, rfl⟩ hf
      refine l_e hf rfl (ev_mulx hf rfl rfl (by split <;> decide) (by split <;> decide)) ?_; intro a hf
      refine l_f hf rfl (ef_call (vs := [.int .i64 (4 * (if ((bitF n i g.b) == 1) = true then 1 else 0))]) hf rfl ff_140 (F140 _ (4 * (if ((bitF n i g.b) == 1) = true then 1 else 0)) (by split <;> rfl))) ?_; rintro a _ w6 ⟨rfl, hE⟩ hf
      replace hBa := hBa.below hE
      replace hBb := hBb.below hE
      replace hB2 := hB2.below hE
      replace hW := btr hW hE
      clear hE
      refine l_f0 hf (ef_store (vs := [.int .i64 ((dPow (4 * (if ((bitF n i g.b) == 1) = true then 1 else 0))).num.a), .int .i64 ((dPow (4 * (if ((bitF n i g.b) == 1) = true then 1 else 0))).num.b), .int .i64 ((dPow (4 * (if ((bitF n i g.b) == 1) = true then 1 else 0))).num.c), .int .i64 ((dPow (4 * (if ((bitF n i g.b) == 1) = true then 1 else 0))).num.d), .int .i64 ((dPow (4 * (if ((bitF n i g.b) == 1) = true then 1 else 0))).exp)]) (l' := [.int .i64 ((dPow (4 * (if ((bitF n i g.b) == 1) = true then 1 else 0))).num.a), .int .i64 ((dPow (4 * (if ((bitF n i g.b) == 1) = true then 1 else 0))).num.b), .int .i64 ((dPow (4 * (if ((bitF n i g.b) == 1) = true then 1 else 0))).num.c), .int .i64 ((dPow (4 * (if ((bitF n i g.b) == 1) = true then 1 else 0))).num.d), .int .i64 ((dPow (4 * (if ((bitF n i g.b) == 1) = true then 1 else 0))).exp)]) hf rfl rfl sz_189 hB2 rfl rfl rfl rfl rfl) ?_; rintro a _ w7 ⟨ho, hb⟩ hf
      have hold := hB2
      replace hBa := hBa.only ho (Blk.ne hBa hold rfl)
      replace hBb := hBb.only ho (Blk.ne hBb hold rfl)
      replace hW := Below.only hW ho hlo2
      clear hold
      have hB2 := hb
      clear hb ho
      refine l_as hf rfl rfl ?_; intro a hf
      refine wpList_nil ?_
      have hz9 : (((g.k == 10) && ((bitF n i g.a) == 1)) && ((bitF n i g.b) == 1)) = ((bitF n i g.b) == 1) := by simp [hc5b, hc11b, hc13b, hg15, hg16]
      have hB2 : Blk w7 b2 189 [.int .i64 ((dPow (4 * (if (((g.k == 10) && ((bitF n i g.a) == 1)) && ((bitF n i g.b) == 1)) = true then 1 else 0))).num.a), .int .i64 ((dPow (4 * (if (((g.k == 10) && ((bitF n i g.a) == 1)) && ((bitF n i g.b) == 1)) = true then 1 else 0))).num.b), .int .i64 ((dPow (4 * (if (((g.k == 10) && ((bitF n i g.a) == 1)) && ((bitF n i g.b) == 1)) = true then 1 else 0))).num.c), .int .i64 ((dPow (4 * (if (((g.k == 10) && ((bitF n i g.a) == 1)) && ((bitF n i g.b) == 1)) = true then 1 else 0))).num.d), .int .i64 ((dPow (4 * (if (((g.k == 10) && ((bitF n i g.a) == 1)) && ((bitF n i g.b) == 1)) = true then 1 else 0))).exp)] := by rw [hz9]; exact hB2
      exact ⟨hf.sub ⟨rfl, rfl, trivial⟩, hBa, hBb, hB2, hW⟩
     refine l_pass hf ⟨_, _, rfl, rfl, hg16⟩ rfl rfl ?_; intro a hf
     refine l_pass hf ⟨_, _, rfl, rfl, hg16⟩ rfl rfl ?_; intro a hf
     refine l_pass hf ⟨_, _, rfl, rfl, hg16⟩ rfl rfl ?_; intro a hf
     refine l_pass hf ⟨_, _, rfl, rfl, hg16⟩ rfl rfl ?_; intro a hf
     refine l_pass hf ⟨_, _, rfl, rfl, hg16⟩ rfl rfl ?_; intro a hf
     refine l_pass hf ⟨_, _, rfl, rfl, hg16⟩ rfl rfl ?_; intro a hf
     refine l_e hf rfl (ev_pickF hf rfl hg16 rfl) ?_; intro a hf
     refine l_f hf rfl (ef_call (vs := [.bool false]) hf rfl ff_59 (F59 _ false)) ?_; rintro a _ _ ⟨rfl, rfl⟩ hf
     refine l_e hf rfl (ev_mulx hf rfl rfl (by split <;> decide) (by split <;> decide)) ?_; intro a hf
     refine l_f hf rfl (ef_call (vs := [.int .i64 (4 * (if false = true then 1 else 0))]) hf rfl ff_140 (F140 _ (4 * (if false = true then 1 else 0)) (by split <;> rfl))) ?_; rintro a _ w8 ⟨rfl, hE⟩ hf
     replace hBa := hBa.below hE
     replace hBb := hBb.below hE
     replace hB2 := hB2.below hE
     replace hW := btr hW hE
     clear hE
     refine l_f0 hf (ef_store (vs := [.int .i64 ((dPow (4 * (if false = true then 1 else 0))).num.a), .int .i64 ((dPow (4 * (if false = true then 1 else 0))).num.b), .int .i64 ((dPow (4 * (if false = true then 1 else 0))).num.c), .int .i64 ((dPow (4 * (if false = true then 1 else 0))).num.d), .int .i64 ((dPow (4 * (if false = true then 1 else 0))).exp)]) (l' := [.int .i64 ((dPow (4 * (if false = true then 1 else 0))).num.a), .int .i64 ((dPow (4 * (if false = true then 1 else 0))).num.b), .int .i64 ((dPow (4 * (if false = true then 1 else 0))).num.c), .int .i64 ((dPow (4 * (if false = true then 1 else 0))).num.d), .int .i64 ((dPow (4 * (if false = true then 1 else 0))).exp)]) hf rfl rfl sz_189 hB2 rfl rfl rfl rfl rfl) ?_; rintro a _ w9 ⟨ho, hb⟩ hf
     have hold := hB2
     replace hBa := hBa.only ho (Blk.ne hBa hold rfl)
     replace hBb := hBb.only ho (Blk.ne hBb hold rfl)
     replace hW := Below.only hW ho hlo2
     clear hold
     have hB2 := hb
     clear hb ho
     refine l_as hf rfl rfl ?_; intro a hf
     refine wpList_nil ?_
     have hz9 : (((g.k == 10) && ((bitF n i g.a) == 1)) && ((bitF n i g.b) == 1)) = (false) := by simp [hc5b, hc11b, hc13b, hg15, hg16]
     have hB2 : Blk w9 b2 189 [.int .i64 ((dPow (4 * (if (((g.k == 10) && ((bitF n i g.a) == 1)) && ((bitF n i g.b) == 1)) = true then 1 else 0))).num.a), .int .i64 ((dPow (4 * (if (((g.k == 10) && ((bitF n i g.a) == 1)) && ((bitF n i g.b) == 1)) = true then 1 else 0))).num.b), .int .i64 ((dPow (4 * (if (((g.k == 10) && ((bitF n i g.a) == 1)) && ((bitF n i g.b) == 1)) = true then 1 else 0))).num.c), .int .i64 ((dPow (4 * (if (((g.k == 10) && ((bitF n i g.a) == 1)) && ((bitF n i g.b) == 1)) = true then 1 else 0))).num.d), .int .i64 ((dPow (4 * (if (((g.k == 10) && ((bitF n i g.a) == 1)) && ((bitF n i g.b) == 1)) = true then 1 else 0))).exp)] := by rw [hz9]; exact hB2
     exact ⟨hf.sub ⟨rfl, rfl, trivial⟩, hBa, hBb, hB2, hW⟩
    refine l_pass hf ⟨_, _, rfl, rfl, hg15⟩ rfl rfl ?_; intro a hf
    refine l_pass hf ⟨_, _, rfl, rfl, hg15⟩ rfl rfl ?_; intro a hf
    refine l_pass hf ⟨_, _, rfl, rfl, hg15⟩ rfl rfl ?_; intro a hf
    refine l_pass hf ⟨_, _, rfl, rfl, hg15⟩ rfl rfl ?_; intro a hf
    refine l_pass hf ⟨_, _, rfl, rfl, hg15⟩ rfl rfl ?_; intro a hf
    refine l_pass hf ⟨_, _, rfl, rfl, hg15⟩ rfl rfl ?_; intro a hf
    refine l_e hf rfl (ev_pickF hf rfl hg15 rfl) ?_; intro a hf
    refine l_mv hf rfl rfl ?_; intro a hf
    refine l_pass hf ⟨_, _, rfl, rfl, rfl⟩ rfl rfl ?_; intro a hf
    refine l_pass hf ⟨_, _, rfl, rfl, rfl⟩ rfl rfl ?_; intro a hf
    refine l_pass hf ⟨_, _, rfl, rfl, rfl⟩ rfl rfl ?_; intro a hf
    refine l_pass hf ⟨_, _, rfl, rfl, rfl⟩ rfl rfl ?_; intro a hf
    refine l_pass hf ⟨_, _, rfl, rfl, rfl⟩ rfl rfl ?_; intro a hf
    refine l_pass hf ⟨_, _, rfl, rfl, rfl⟩ rfl rfl ?_; intro a hf
    refine l_e hf rfl (ev_pickF hf rfl rfl rfl) ?_; intro a hf
    refine l_f hf rfl (ef_call (vs := [.bool false]) hf rfl ff_59 (F59 _ false)) ?_; rintro a _ _ ⟨rfl, rfl⟩ hf
    refine l_e hf rfl (ev_mulx hf rfl rfl (by split <;> decide) (by split <;> decide)) ?_; intro a hf
    refine l_f hf rfl (ef_call (vs := [.int .i64 (4 * (if false = true then 1 else 0))]) hf rfl ff_140 (F140 _ (4 * (if false = true then 1 else 0)) (by split <;> rfl))) ?_; rintro a _ w10 ⟨rfl, hE⟩ hf
    replace hBa := hBa.below hE
    replace hBb := hBb.below hE
    replace hB2 := hB2.below hE
    replace hW := btr hW hE
    clear hE
    refine l_f0 hf (ef_store (vs := [.int .i64 ((dPow (4 * (if false = true then 1 else 0))).num.a), .int .i64 ((dPow (4 * (if false = true then 1 else 0))).num.b), .int .i64 ((dPow (4 * (if false = true then 1 else 0))).num.c), .int .i64 ((dPow (4 * (if false = true then 1 else 0))).num.d), .int .i64 ((dPow (4 * (if false = true then 1 else 0))).exp)]) (l' := [.int .i64 ((dPow (4 * (if false = true then 1 else 0))).num.a), .int .i64 ((dPow (4 * (if false = true then 1 else 0))).num.b), .int .i64 ((dPow (4 * (if false = true then 1 else 0))).num.c), .int .i64 ((dPow (4 * (if false = true then 1 else 0))).num.d), .int .i64 ((dPow (4 * (if false = true then 1 else 0))).exp)]) hf rfl rfl sz_189 hB2 rfl rfl rfl rfl rfl) ?_; rintro a _ w11 ⟨ho, hb⟩ hf
    have hold := hB2
    replace hBa := hBa.only ho (Blk.ne hBa hold rfl)
    replace hBb := hBb.only ho (Blk.ne hBb hold rfl)
    replace hW := Below.only hW ho hlo2
    clear hold
    have hB2 := hb
    clear hb ho
    refine l_as hf rfl rfl ?_; intro a hf
    refine wpList_nil ?_
    have hz9 : (((g.k == 10) && ((bitF n i g.a) == 1)) && ((bitF n i g.b) == 1)) = (false) := by simp [hc5b, hc11b, hc13b, hg15]
    have hB2 : Blk w11 b2 189 [.int .i64 ((dPow (4 * (if (((g.k == 10) && ((bitF n i g.a) == 1)) && ((bitF n i g.b) == 1)) = true then 1 else 0))).num.a), .int .i64 ((dPow (4 * (if (((g.k == 10) && ((bitF n i g.a) == 1)) && ((bitF n i g.b) == 1)) = true then 1 else 0))).num.b), .int .i64 ((dPow (4 * (if (((g.k == 10) && ((bitF n i g.a) == 1)) && ((bitF n i g.b) == 1)) = true then 1 else 0))).num.c), .int .i64 ((dPow (4 * (if (((g.k == 10) && ((bitF n i g.a) == 1)) && ((bitF n i g.b) == 1)) = true then 1 else 0))).num.d), .int .i64 ((dPow (4 * (if (((g.k == 10) && ((bitF n i g.a) == 1)) && ((bitF n i g.b) == 1)) = true then 1 else 0))).exp)] := by rw [hz9]; exact hB2
    exact ⟨hf.sub ⟨rfl, rfl, trivial⟩, hBa, hBb, hB2, hW⟩
   rintro a w12 ⟨hf, hBa, hBb, hB2, hW⟩
   refine hK14 _ _ ?_; try clear hK14 K14
   refine wp_ret ?_
   refine x_retB ?_
   refine x_retS ?_
   refine c_ret hf (res2 hf rfl (ResV.cellN (l := [.int .i64 ((dPow (4 * (if (((g.k == 10) && ((bitF n i g.a) == 1)) && ((bitF n i g.b) == 1)) = true then 1 else 0))).num.a), .int .i64 ((dPow (4 * (if (((g.k == 10) && ((bitF n i g.a) == 1)) && ((bitF n i g.b) == 1)) = true then 1 else 0))).num.b), .int .i64 ((dPow (4 * (if (((g.k == 10) && ((bitF n i g.a) == 1)) && ((bitF n i g.b) == 1)) = true then 1 else 0))).num.c), .int .i64 ((dPow (4 * (if (((g.k == 10) && ((bitF n i g.a) == 1)) && ((bitF n i g.b) == 1)) = true then 1 else 0))).num.d), .int .i64 ((dPow (4 * (if (((g.k == 10) && ((bitF n i g.a) == 1)) && ((bitF n i g.b) == 1)) = true then 1 else 0))).exp)]) rfl tN_189 (hB2.at 0) rfl) rfl) ?_
   exact ⟨(by rw [hfin]; try rfl), hW⟩
  have hc13b := hc13
  have hfin : cellI n g i j = dZ := by rw [cellI, if_neg hk, if_pos hk2, if_neg (ne_of_beqF hc13)]
  refine wp_skip ?_
  refine x_norm ?_
  refine hK3 _ _ ?_; try clear hK3 K3
  refine wp_seq_k ?_; intro K17 hK17
  refine wp_region_lit ?_
  refine l_e hf rfl (ev_build (ps := []) (cs := [.int .i64 0, .int .i64 0, .int .i64 0, .int .i64 0, .int .i64 0]) hf rfl (fun _ => by first | rfl | kernel_rfl)) ?_; intro a hf
  refine l_f0 hf (ef_store (vs := [.int .i64 0, .int .i64 0, .int .i64 0, .int .i64 0, .int .i64 0]) (l' := [.int .i64 0, .int .i64 0, .int .i64 0, .int .i64 0, .int .i64 0]) hf rfl rfl sz_189 hB2 rfl rfl rfl rfl rfl) ?_; rintro a _ w13 ⟨ho, hb⟩ hf
  have hold := hB2
  replace hBa := hBa.only ho (Blk.ne hBa hold rfl)
  replace hBb := hBb.only ho (Blk.ne hBb hold rfl)
  replace hW := Below.only hW ho hlo2
  clear hold
  have hB2 := hb
  clear hb ho
  refine l_as hf rfl rfl ?_; intro a hf
  refine wpList_nil ?_
  refine hK17 _ _ ?_; try clear hK17 K17
  refine wp_ret ?_
  refine c_ret hf (res2 hf rfl (ResV.cellN (l := [.int .i64 0, .int .i64 0, .int .i64 0, .int .i64 0, .int .i64 0]) rfl tN_189 (hB2.at 0) rfl) rfl) ?_
  exact ⟨(by rw [hfin]; try rfl), hW⟩
 have hc11b := hc11
 have hk2 : ¬ inR g.k 9 11 = true := by rw [hc11]; simp
 have hk8 : g.k ≤ 8 := by have h9 : ¬ (9 ≤ g.k ∧ g.k ≤ 11) := (fun h => hk2 (inR_iff.2 h)); omega
 refine wp_seq_k ?_; intro K18 hK18
 refine c_cut (fun a w => Fr a 75 [(0, .int .i64 i), (1, .int .i64 j), (2, .pointer (some ⟨ba, 0, none⟩)), (3, .pointer (some ⟨bb, 0, none⟩)), (6, .pointer (some ⟨b2, 0, none⟩)), (48, .bool ((i == j) || ((flipF n i g.a) == j)))] ∧ w1 = w) ?_ ?_
 ·refine wp_region_lit ?_
  refine l_mv hf rfl rfl ?_; intro a hf
  refine l_mv hf rfl rfl ?_; intro a hf
  refine l_e hf rfl (ev_eql hf rfl rfl) ?_; intro a hf
  refine l_mv hf rfl rfl ?_; intro a hf
  refine g_split hf (t := 52) rfl (fun hg19 => ?_) (fun hg19 => ?_)
  ·refine l_pass hf ⟨_, _, rfl, rfl, hg19⟩ rfl rfl ?_; intro a hf
   refine l_pass hf ⟨_, _, rfl, rfl, hg19⟩ rfl rfl ?_; intro a hf
   refine l_pass hf ⟨_, _, rfl, rfl, hg19⟩ rfl rfl ?_; intro a hf
   refine l_pass hf ⟨_, _, rfl, rfl, hg19⟩ rfl rfl ?_; intro a hf
   refine l_pass hf ⟨_, _, rfl, rfl, hg19⟩ rfl rfl ?_; intro a hf
   refine l_pass hf ⟨_, _, rfl, rfl, hg19⟩ rfl rfl ?_; intro a hf
   refine l_pass hf ⟨_, _, rfl, rfl, hg19⟩ rfl rfl ?_; intro a hf
   refine l_e hf rfl (ev_pickT hf rfl hg19 rfl) ?_; intro a hf
   refine l_as hf rfl rfl ?_; intro a hf
   refine wpList_nil ?_
   exact ⟨hf.sub ⟨rfl, rfl, rfl, rfl, rfl, look_bool rfl (by first | rfl | (simp only [hc5b, hc11b, hg19, Bool.true_and, Bool.false_and, Bool.true_or, Bool.false_or]; done) | simp [hc5b, hc11b, hg19]), trivial⟩, rfl⟩
  refine l_ev hf ⟨_, _, rfl, rfl, hg19⟩ rfl rfl (ev_load1 hf rfl t1_3 (hBb.at 0)) ?_; intro a hf
  refine l_ev hf ⟨_, _, rfl, rfl, hg19⟩ rfl rfl (ev_move hf rfl) ?_; intro a hf
  refine l_ev hf ⟨_, _, rfl, rfl, hg19⟩ rfl rfl (ev_fieldB hf rfl fd_107_1 (m := 1) rfl) ?_; intro a hf
  refine l_ev hf ⟨_, _, rfl, rfl, hg19⟩ rfl rfl (ev_load1 hf rfl t1_3 (hBa.at 1)) ?_; intro a hf
  refine l_eff hf ⟨_, _, rfl, rfl, hg19⟩ rfl rfl (ef_call (vs := [.int .i64 n, .int .i64 i, .int .i64 g.a]) hf rfl ff_220 (F220 _ n i g.a (by omega) (by omega) (by omega))) ?_; rintro a _ _ ⟨rfl, rfl⟩ hf
  refine l_ev hf ⟨_, _, rfl, rfl, hg19⟩ rfl rfl (ev_move hf rfl) ?_; intro a hf
  refine l_ev hf ⟨_, _, rfl, rfl, hg19⟩ rfl rfl (ev_eql hf rfl rfl) ?_; intro a hf
  refine l_e hf rfl (ev_pickF hf rfl hg19 rfl) ?_; intro a hf
  refine l_as hf rfl rfl ?_; intro a hf
  refine wpList_nil ?_
  exact ⟨hf.sub ⟨rfl, rfl, rfl, rfl, rfl, look_bool rfl (by first | rfl | (simp only [hc5b, hc11b, hg19, Bool.true_and, Bool.false_and, Bool.true_or, Bool.false_or]; done) | simp [hc5b, hc11b, hg19]), trivial⟩, rfl⟩
 rintro a _ ⟨hf, rfl⟩
 refine hK18 _ _ ?_; try clear hK18 K18
 refine c_if hf rfl (fun hc20 => ?_) (fun hc20 => ?_)
 ·have hc20b := hc20
  have hfin : cellI n g i j = entryI g.k (bitF n i g.a) (bitF n j g.a) := by rw [cellI, if_neg hk, if_neg hk2, if_pos (by simpa using hc20)]
  refine wp_seq_k ?_; intro K21 hK21
  refine wp_draw none (fun j => [13].contains j) mixed ?_
  intro w14 hE
  replace hBa := hBa.below hE
  replace hBb := hBb.below hE
  replace hB2 := hB2.below hE
  replace hW := btr hW hE
  clear hE
  refine s_e0 0 rfl (by kernel_rfl) hf rfl (fun _ => ev_fieldB hf rfl fd_107_0 (m := 0) rfl) ?_; intro a hf
  refine s_e 1 rfl (by kernel_rfl) (by kernel_rfl) hf rfl (ev_load1 hf rfl t1_3 (hBa.at 0)) ?_; intro a hf
  refine s_e 2 rfl (by kernel_rfl) (by kernel_rfl) hf rfl (ev_load1 hf rfl t1_3 (hBb.at 0)) ?_; intro a hf
  refine s_e0 3 rfl (by kernel_rfl) hf rfl (fun _ => ev_move hf rfl) ?_; intro a hf
  refine s_e0 4 rfl (by kernel_rfl) hf rfl (fun _ => ev_fieldB hf rfl fd_107_1 (m := 1) rfl) ?_; intro a hf
  refine s_e 5 rfl (by kernel_rfl) (by kernel_rfl) hf rfl (ev_load1 hf rfl t1_3 (hBa.at 1)) ?_; intro a hf
  refine s_e 7 rfl (by kernel_rfl) (by kernel_rfl) hf rfl (ev_load1 hf rfl t1_3 (hBb.at 0)) ?_; intro a hf
  refine s_e0 8 rfl (by kernel_rfl) hf rfl (fun _ => ev_move hf rfl) ?_; intro a hf
  refine s_e0 9 rfl (by kernel_rfl) hf rfl (fun _ => ev_fieldB hf rfl fd_107_1 (m := 1) rfl) ?_; intro a hf
  refine s_e 10 rfl (by kernel_rfl) (by kernel_rfl) hf rfl (ev_load1 hf rfl t1_3 (hBa.at 1)) ?_; intro a hf
  refine s_one 6 (by kernel_rfl) ?_
  refine p_eff rfl hf trivial rfl rfl (Ef.mono (ef_call (vs := [.int .i64 n, .int .i64 i, .int .i64 g.a]) hf rfl ff_219 (F219 _ n i g.a (by omega) (by omega) (by omega))) (fun _ _ h => ⟨fun _ => by rw [← h.2]; exact Below.refl _ _, h⟩)) ?_; rintro a _ _ ⟨rfl, rfl⟩ hf
  refine s_one 11 (by kernel_rfl) ?_
  refine p_eff rfl hf trivial rfl rfl (Ef.mono (ef_call (vs := [.int .i64 n, .int .i64 j, .int .i64 g.a]) hf rfl ff_219 (F219 _ n j g.a (by omega) (by omega) (by omega))) (fun _ _ h => ⟨fun _ => by rw [← h.2]; exact Below.refl _ _, h⟩)) ?_; rintro a _ _ ⟨rfl, rfl⟩ hf
  refine s_one 12 (by kernel_rfl) ?_
  refine p_eff rfl hf trivial rfl rfl (Ef.mono (ef_call (vs := [.int .i64 g.k, .int .i64 (bitF n i g.a), .int .i64 (bitF n j g.a)]) hf rfl ff_221 (F221 _ g.k (bitF n i g.a) (bitF n j g.a) (by omega) hb01)) (fun _ _ h => ⟨fun _ => by obtain ⟨rfl, hE⟩ := h; exact hE, h⟩)) ?_; rintro a _ w15 ⟨rfl, hE⟩ hf
  replace hBa := hBa.below hE
  replace hBb := hBb.below hE
  replace hB2 := hB2.below hE
  replace hW := btr hW hE
  clear hE
  refine s_one 13 (by kernel_rfl) ?_
  refine p_eff0 rfl hf trivial rfl (Ef.mono (ef_store (vs := [.int .i64 ((entryI g.k (bitF n i g.a) (bitF n j g.a)).num.a), .int .i64 ((entryI g.k (bitF n i g.a) (bitF n j g.a)).num.b), .int .i64 ((entryI g.k (bitF n i g.a) (bitF n j g.a)).num.c), .int .i64 ((entryI g.k (bitF n i g.a) (bitF n j g.a)).num.d), .int .i64 ((entryI g.k (bitF n i g.a) (bitF n j g.a)).exp)]) (l' := [.int .i64 ((entryI g.k (bitF n i g.a) (bitF n j g.a)).num.a), .int .i64 ((entryI g.k (bitF n i g.a) (bitF n j g.a)).num.b), .int .i64 ((entryI g.k (bitF n i g.a) (bitF n j g.a)).num.c), .int .i64 ((entryI g.k (bitF n i g.a) (bitF n j g.a)).num.d), .int .i64 ((entryI g.k (bitF n i g.a) (bitF n j g.a)).exp)]) hf rfl rfl sz_189 hB2 rfl rfl rfl rfl rfl) (fun _ _ h => ⟨fun h0 => absurd h0 (by decide), h⟩)) ?_; rintro a _ w16 ⟨ho, hb⟩ hf
  have hold := hB2
  replace hBa := hBa.only ho (Blk.ne hBa hold rfl)
  replace hBb := hBb.only ho (Blk.ne hBb hold rfl)
  replace hW := Below.only hW ho hlo2
  clear hold
  have hB2 := hb
  clear hb ho
  refine s_e0 14 rfl (by kernel_rfl) hf rfl (fun _ => ev_assign hf rfl) ?_; intro a hf
  refine s_done (by kernel_rfl) ?_
  refine hK21 _ _ ?_; try clear hK21 K21
  refine wp_ret ?_
  refine x_retB ?_
  refine x_retS ?_
  refine c_ret hf (res2 hf rfl (ResV.cellN (l := [.int .i64 ((entryI g.k (bitF n i g.a) (bitF n j g.a)).num.a), .int .i64 ((entryI g.k (bitF n i g.a) (bitF n j g.a)).num.b), .int .i64 ((entryI g.k (bitF n i g.a) (bitF n j g.a)).num.c), .int .i64 ((entryI g.k (bitF n i g.a) (bitF n j g.a)).num.d), .int .i64 ((entryI g.k (bitF n i g.a) (bitF n j g.a)).exp)]) rfl tN_189 (hB2.at 0) rfl) rfl) ?_
  exact ⟨(by rw [hfin]; try rfl), hW⟩
 have hc20b := hc20
 have hfin : cellI n g i j = dZ := by rw [cellI, if_neg hk, if_neg hk2, if_neg (by simpa using hc20)]
 refine wp_skip ?_
 refine x_norm ?_
 refine hK3 _ _ ?_; try clear hK3 K3
 refine wp_seq_k ?_; intro K22 hK22
 refine wp_region_lit ?_
 refine l_e hf rfl (ev_build (ps := []) (cs := [.int .i64 0, .int .i64 0, .int .i64 0, .int .i64 0, .int .i64 0]) hf rfl (fun _ => by first | rfl | kernel_rfl)) ?_; intro a hf
 refine l_f0 hf (ef_store (vs := [.int .i64 0, .int .i64 0, .int .i64 0, .int .i64 0, .int .i64 0]) (l' := [.int .i64 0, .int .i64 0, .int .i64 0, .int .i64 0, .int .i64 0]) hf rfl rfl sz_189 hB2 rfl rfl rfl rfl rfl) ?_; rintro a _ w17 ⟨ho, hb⟩ hf
 have hold := hB2
 replace hBa := hBa.only ho (Blk.ne hBa hold rfl)
 replace hBb := hBb.only ho (Blk.ne hBb hold rfl)
 replace hW := Below.only hW ho hlo2
 clear hold
 have hB2 := hb
 clear hb ho
 refine l_as hf rfl rfl ?_; intro a hf
 refine wpList_nil ?_
 refine hK22 _ _ ?_; try clear hK22 K22
 refine wp_ret ?_
 refine c_ret hf (res2 hf rfl (ResV.cellN (l := [.int .i64 0, .int .i64 0, .int .i64 0, .int .i64 0, .int .i64 0]) rfl tN_189 (hB2.at 0) rfl) rfl) ?_
 exact ⟨(by rw [hfin]; try rfl), hW⟩
end Go.Proofs.YtfgnmflfiobkmaaGreat
set_option maxRecDepth 4000
namespace Go.Proofs.YtfgnmflfiobkmaaGreat
open Go.RowKit
theorem F188 (w0 : World) (n : Int) (g : Gt) : Ret Tryz.prog 188 [.int .i64 n, .agg #[.int .i64 g.k, .int .i64 g.a, .int .i64 g.b]] w0 (fun v w => ∃ A c, v = .tuple #[mV A c ((gateI n g).getD mZ), .bool (gateI n g).isSome] ∧ Own w w0.heap.size 189 5 encD A c ((gateI n g).getD mZ).cells ∧ Below w0.heap.size w0 w) := by
 refine enter Tryz.func188 rfl 19 rfl rfl ?_
 intro a hf
 have hW : Below w0.heap.size w0 w0 := Below.refl _ _
 refine wp_seq_k ?_; intro K1 hK1
 refine wp_region_lit ?_
 refine l_f hf rfl (ef_box (zs := [.int .i64 n]) hf rfl rfl) ?_; rintro a _ w1 ⟨b2, rfl, hl2, hE, hB2⟩ hf
 have hlo2 := Nat.le_trans hW.size hl2
 replace hW := btr hW hE
 clear hE
 refine l_f hf rfl (ef_box (zs := [.int .i64 g.k, .int .i64 g.a, .int .i64 g.b]) hf rfl rfl) ?_; rintro a _ w2 ⟨b3, rfl, hl3, hE, hB3⟩ hf
 have hlo3 := Nat.le_trans hW.size hl3
 replace hB2 := hB2.below hE
 replace hW := btr hW hE
 clear hE
 refine l_f hf rfl (ef_alloc (zs := [.int .i64 0, .int .i64 0, .slice none 0 0]) z_141 rfl) ?_; rintro a _ w3 ⟨b5, rfl, hl5, hE, hB5⟩ hf
 have hlo5 := Nat.le_trans hW.size hl5
 replace hB2 := hB2.below hE
 replace hB3 := hB3.below hE
 replace hW := btr hW hE
 clear hE
 refine l_as hf rfl rfl ?_; intro a hf
 refine wpList_nil ?_
 refine hK1 _ _ ?_; try clear hK1 K1
 refine wp_seq_k ?_; intro K6 hK6
 refine wp_seq_k ?_; intro K7 hK7
 refine wp_region_lit ?_
 refine l_e hf rfl (ev_load1 hf rfl t1_3 (hB2.at 0)) ?_; intro a hf
 refine l_e hf rfl (ev_loadN (l := [.int .i64 g.k, .int .i64 g.a, .int .i64 g.b]) hf rfl tN_107 (hB3.at 0) rfl) ?_; intro a hf
 refine l_f hf rfl (ef_call (vs := [.int .i64 n, .agg #[.int .i64 g.k, .int .i64 g.a, .int .i64 g.b]]) hf rfl ff_106 (F106 _ n g)) ?_; rintro a _ w4 ⟨rfl, hE⟩ hf
 replace hB2 := hB2.below hE
 replace hB3 := hB3.below hE
 replace hB5 := hB5.below hE
 replace hW := btr hW hE
 clear hE
 refine l_e hf rfl (ev_not hf rfl) ?_; intro a hf
 refine wpList_nil ?_
 refine hK7 _ _ ?_; try clear hK7 K7
 refine c_if hf rfl (fun hc8 => ?_) (fun hc8 => ?_)
 ·have hc8b := hc8
  have hn : ¬ gOk n g = true := by revert hc8; cases gOk n g <;> simp
  refine wp_seq_k ?_; intro K9 hK9
  refine wp_region_lit ?_
  refine l_e hf rfl (ev_build (ps := []) (cs := [.int .i64 0, .int .i64 0, .slice none 0 0]) hf rfl (fun _ => by first | rfl | kernel_rfl)) ?_; intro a hf
  refine l_f0 hf (ef_store (vs := [.int .i64 0, .int .i64 0, .slice none 0 0]) (l' := [.int .i64 0, .int .i64 0, .slice none 0 0]) hf rfl rfl sz_141 hB5 rfl rfl rfl rfl rfl) ?_; rintro a _ w5 ⟨ho, hb⟩ hf
  have hold := hB5
  replace hB2 := hB2.only ho (Blk.ne hB2 hold rfl)
  replace hB3 := hB3.only ho (Blk.ne hB3 hold rfl)
  replace hW := Below.only hW ho hlo5
  clear hold
  have hB5 := hb
  clear hb ho
  refine l_as hf rfl rfl ?_; intro a hf
  refine wpList_nil ?_
  refine hK9 _ _ ?_; try clear hK9 K9
  refine wp_ret ?_
  refine x_retS ?_
  refine c_ret hf (res2 hf rfl (ResV.cellN (l := [.int .i64 0, .int .i64 0, .slice none 0 0]) rfl tN_141 (hB5.at 0) rfl) rfl) ?_
  exact ⟨none, 0, by rw [gateI, if_neg hn]; rfl, by rw [gateI, if_neg hn]; exact (Own.nil _ _ _ _ _), hW⟩
 have hc8b := hc8
 have hg : gOk n g = true := by revert hc8; cases gOk n g <;> simp
 have hg2 := gOk_spec hg
 obtain ⟨d, hd⟩ : ∃ d : Nat, d = 2 ^ n.toNat := ⟨_, rfl⟩
 refine wp_skip ?_
 refine hK6 _ _ ?_; try clear hK6 K6
 refine wp_seq_k ?_; intro K11 hK11
 refine wp_draw none (fun j => [8].contains j) mixed ?_
 intro w6 hE
 replace hB2 := hB2.below hE
 replace hB3 := hB3.below hE
 replace hB5 := hB5.below hE
 replace hW := btr hW hE
 clear hE
 refine s_e 0 rfl (by kernel_rfl) (by kernel_rfl) hf rfl (ev_load1 hf rfl t1_3 (hB2.at 0)) ?_; intro a hf
 refine s_e0 1 rfl (by kernel_rfl) hf rfl (fun _ => ev_shl1 (m := n.toNat) (D := d) hf rfl rfl (by omega) ⟨hd, by omega⟩) ?_; intro a hf
 refine s_e 2 rfl (by kernel_rfl) (by kernel_rfl) hf rfl (ev_load1 hf rfl t1_3 (hB2.at 0)) ?_; intro a hf
 refine s_e0 3 rfl (by kernel_rfl) hf rfl (fun _ => ev_shl1 (m := n.toNat) (D := d) hf rfl rfl (by omega) ⟨hd, by omega⟩) ?_; intro a hf
 refine s_e0 4 rfl (by kernel_rfl) hf rfl (fun _ => ev_makeFunc (vs := [.pointer (some ⟨b3, 0, none⟩), .pointer (some ⟨b2, 0, none⟩)]) hf rfl) ?_; intro a hf
 refine s_one 5 (by kernel_rfl) ?_
 refine p_eff rfl hf trivial rfl rfl (Ef.mono (ef_call (vs := [.int .i64 (d : Int), .int .i64 (d : Int), .func (.func 217) #[] #[.pointer (some ⟨b3, 0, none⟩), .pointer (some ⟨b2, 0, none⟩)]]) hf rfl ff_185 (F185 _ (d : Int) (d : Int) 217 [.pointer (some ⟨b3, 0, none⟩), .pointer (some ⟨b2, 0, none⟩)] ff_217 (fun i j => some (cellI n g i j)) (fun i j w' hi hj hE' => F217 w' g n _ _ (hB3.below hE') (hB2.below hE') hg i j))) (fun _ _ h => ⟨fun _ => by obtain ⟨A12, c12, rfl, ho12, hE⟩ := h; exact hE, h⟩)) ?_; rintro a _ w7 ⟨A12, c12, rfl, ho12, hE⟩ hf
 replace ho12 := ho12.lower hW.size
 replace hB2 := hB2.below hE
 replace hB3 := hB3.below hE
 replace hB5 := hB5.below hE
 replace hW := btr hW hE
 clear hE
 refine s_e0 6 rfl (by kernel_rfl) hf rfl (fun _ => ev_extract (vs := [.agg #[.int .i64 (((matOf (d : Int) (d : Int) (fun i j => some (cellI n g i j))).getD mZ).rows), .int .i64 (((matOf (d : Int) (d : Int) (fun i j => some (cellI n g i j))).getD mZ).cols), .slice A12 (((matOf (d : Int) (d : Int) (fun i j => some (cellI n g i j))).getD mZ).cells).length c12], .bool ((matOf (d : Int) (d : Int) (fun i j => some (cellI n g i j))).isSome)]) hf rfl rfl) ?_; intro a hf
 refine s_e0 7 rfl (by kernel_rfl) hf rfl (fun _ => ev_extract (vs := [.agg #[.int .i64 (((matOf (d : Int) (d : Int) (fun i j => some (cellI n g i j))).getD mZ).rows), .int .i64 (((matOf (d : Int) (d : Int) (fun i j => some (cellI n g i j))).getD mZ).cols), .slice A12 (((matOf (d : Int) (d : Int) (fun i j => some (cellI n g i j))).getD mZ).cells).length c12], .bool ((matOf (d : Int) (d : Int) (fun i j => some (cellI n g i j))).isSome)]) hf rfl rfl) ?_; intro a hf
 refine s_one 8 (by kernel_rfl) ?_
 refine p_eff0 rfl hf trivial rfl (Ef.mono (ef_store (vs := [.int .i64 (((matOf (d : Int) (d : Int) (fun i j => some (cellI n g i j))).getD mZ).rows), .int .i64 (((matOf (d : Int) (d : Int) (fun i j => some (cellI n g i j))).getD mZ).cols), .slice A12 (((matOf (d : Int) (d : Int) (fun i j => some (cellI n g i j))).getD mZ).cells).length c12]) (l' := [.int .i64 (((matOf (d : Int) (d : Int) (fun i j => some (cellI n g i j))).getD mZ).rows), .int .i64 (((matOf (d : Int) (d : Int) (fun i j => some (cellI n g i j))).getD mZ).cols), .slice A12 (((matOf (d : Int) (d : Int) (fun i j => some (cellI n g i j))).getD mZ).cells).length c12]) hf rfl rfl sz_141 hB5 rfl rfl rfl rfl rfl) (fun _ _ h => ⟨fun h0 => absurd h0 (by decide), h⟩)) ?_; rintro a _ w8 ⟨ho, hb⟩ hf
 have hold := hB5
 replace hB2 := hB2.only ho (Blk.ne hB2 hold rfl)
 replace hB3 := hB3.only ho (Blk.ne hB3 hold rfl)
 replace ho12 := ho12.onlyT ho hold rfl
 replace hW := Below.only hW ho hlo5
 clear hold
 have hB5 := hb
 clear hb ho
 refine s_e0 9 rfl (by kernel_rfl) hf rfl (fun _ => ev_assign hf rfl) ?_; intro a hf
 refine s_done (by kernel_rfl) ?_
 refine hK11 _ _ ?_; try clear hK11 K11
 refine wp_ret ?_
 refine c_ret hf (res2 hf rfl (ResV.cellN (l := [.int .i64 (((matOf (d : Int) (d : Int) (fun i j => some (cellI n g i j))).getD mZ).rows), .int .i64 (((matOf (d : Int) (d : Int) (fun i j => some (cellI n g i j))).getD mZ).cols), .slice A12 (((matOf (d : Int) (d : Int) (fun i j => some (cellI n g i j))).getD mZ).cells).length c12]) rfl tN_141 (hB5.at 0) rfl) rfl) ?_
 have hfin : gateI n g = matOf (d : Int) (d : Int) fun i j => some (cellI n g i j) := by rw [gateI, if_pos hg, hd]
 rw [hfin]
 exact ⟨A12, c12, rfl, ho12, hW⟩
end Go.Proofs.YtfgnmflfiobkmaaGreat
namespace Go.Proofs
open Go.Shelf
def Tryz.lays189_ren : Go.Shelf.Ren := ⟨fun | 189 => 94 | 125 => 135 | 257 => 134 | 128 => 183 | 129 => 184 | 294 => 174 | 295 => 175 | 296 => 176 | 297 => 177 | 298 => 178 | 299 => 179 | 216 => 180 | 300 => 181 | 301 => 182 | 328 => 211 | 329 => 212 | 330 => 213 | 331 => 214 | 332 => 215 | 215 => 216 | 343 => 238 | n => n, fun | 28 => 36 | 3 => 3 | 46 => 181 | 0 => 0 | 51 => 228 | 53 => 230 | 4 => 4 | 183 => 222 | 182 => 221 | 131 => 56 | 5 => 5 | 9 => 9 | 218 => 252 | 222 => 256 | 228 => 270 | 229 => 100 | n => n, fun | n => n⟩
theorem Tryz.lays189 : Go.Proofs.Lays.n189 Tryz.prog Tryz.lays189_ren := {
  mixed := by kernel_rfl
  f125 := Tryz.func135.trans (congrArg some (by kernel_rfl))
  f128 := Tryz.func183.trans (congrArg some (by kernel_rfl))
  f129 := Tryz.func184.trans (congrArg some (by kernel_rfl))
  f189 := Tryz.func94.trans (congrArg some (by kernel_rfl))
  f215 := Tryz.func216.trans (congrArg some (by kernel_rfl))
  f216 := Tryz.func180.trans (congrArg some (by kernel_rfl))
  f257 := Tryz.func134.trans (congrArg some (by kernel_rfl))
  f294 := Tryz.func174.trans (congrArg some (by kernel_rfl))
  f295 := Tryz.func175.trans (congrArg some (by kernel_rfl))
  f296 := Tryz.func176.trans (congrArg some (by kernel_rfl))
  f297 := Tryz.func177.trans (congrArg some (by kernel_rfl))
  f298 := Tryz.func178.trans (congrArg some (by kernel_rfl))
  f299 := Tryz.func179.trans (congrArg some (by kernel_rfl))
  f300 := Tryz.func181.trans (congrArg some (by kernel_rfl))
  f301 := Tryz.func182.trans (congrArg some (by kernel_rfl))
  f328 := Tryz.func211.trans (congrArg some (by kernel_rfl))
  f329 := Tryz.func212.trans (congrArg some (by kernel_rfl))
  f330 := Tryz.func213.trans (congrArg some (by kernel_rfl))
  f331 := Tryz.func214.trans (congrArg some (by kernel_rfl))
  f332 := Tryz.func215.trans (congrArg some (by kernel_rfl))
  f343 := Tryz.func238.trans (congrArg some (by kernel_rfl))
  t0 := Tryz.underlying0
  a0 := Tryz.isAgg0
  z0 := Tryz.sizeOf0
  v0 := Tryz.zeroValue0
  t3 := Tryz.underlying3
  a3 := Tryz.isAgg3
  z3 := Tryz.sizeOf3
  v3 := Tryz.zeroValue3
  t4 := Tryz.underlying4
  a4 := Tryz.isAgg4
  z4 := Tryz.sizeOf4
  v4 := Tryz.zeroValue4
  t5 := Tryz.underlying5
  a5 := Tryz.isAgg5
  z5 := Tryz.sizeOf5
  v5 := Tryz.zeroValue5
  t9 := Tryz.underlying9
  a9 := Tryz.isAgg9
  z9 := Tryz.sizeOf9
  v9 := Tryz.zeroValue9
  t28 := Tryz.underlying36
  a28 := Tryz.isAgg36
  z28 := Tryz.sizeOf36
  v28 := Tryz.zeroValue36
  t46 := Tryz.underlying181
  a46 := Tryz.isAgg181
  z46 := Tryz.sizeOf181
  v46 := Tryz.zeroValue181
  t51 := Tryz.underlying228
  a51 := Tryz.isAgg228
  z51 := Tryz.sizeOf228
  v51 := Tryz.zeroValue228
  t53 := Tryz.underlying230
  a53 := Tryz.isAgg230
  z53 := Tryz.sizeOf230
  v53 := Tryz.zeroValue230
  t131 := Tryz.underlying56
  a131 := Tryz.isAgg56
  z131 := Tryz.sizeOf56
  v131 := Tryz.zeroValue56
  t182 := Tryz.underlying221
  a182 := Tryz.isAgg221
  z182 := Tryz.sizeOf221
  v182 := Tryz.zeroValue221
  t183 := Tryz.underlying222
  a183 := Tryz.isAgg222
  z183 := Tryz.sizeOf222
  v183 := Tryz.zeroValue222
  t218 := Tryz.underlying252
  a218 := Tryz.isAgg252
  z218 := Tryz.sizeOf252
  v218 := Tryz.zeroValue252
  t222 := Tryz.underlying256
  a222 := Tryz.isAgg256
  z222 := Tryz.sizeOf256
  v222 := Tryz.zeroValue256
  t228 := Tryz.underlying270
  a228 := Tryz.isAgg270
  z228 := Tryz.sizeOf270
  v228 := Tryz.zeroValue270
  t229 := Tryz.underlying100
  a229 := Tryz.isAgg100
  z229 := Tryz.sizeOf100
  v229 := Tryz.zeroValue100 }
open Go.Sort Go.RowKit in
theorem Tryz.slices_Sort_int (blk off cap : Nat) (zs : List Int) (w : World) (hH : Holds (Value.int .i64) w blk off zs.toArray) (hblk : blk < w.heap.size) (hsz : zs.length < 4611686018427387904) :
    Calls Tryz.prog 94 #[.slice (some ⟨blk, off, none⟩) zs.length cap] w fun e w' =>
      e = .returned (.tuple #[]) ∧ ∃ n os, w' = grow (putRow (Value.int .i64) (Sort.ahead w n) blk off (zs.mergeSort fun x y => decide (x ≤ y)).toArray) os := Any.slices_Sort_int Tryz.lays189 blk off cap zs w hH hblk hsz
def Tryz.lays108_ren : Go.Shelf.Ren := ⟨fun | 108 => 204 | n => n, fun | 28 => 36 | 3 => 3 | 0 => 0 | 4 => 4 | n => n, fun | n => n⟩
def Tryz.lays107_ren : Go.Shelf.Ren := ⟨fun | 107 => 152 | 108 => 204 | n => n, fun | 28 => 36 | 3 => 3 | 4 => 4 | 0 => 0 | n => n, fun | n => n⟩
def Tryz.laysNm215_ren : Go.Shelf.Ren := ⟨fun | 15 => 164 | n => n, fun | 22 => 36 | 3 => 3 | 4 => 4 | n => n, fun | n => n⟩
def Tryz.laysNm220_ren : Go.Shelf.Ren := ⟨fun | 20 => 95 | n => n, fun | 22 => 36 | 3 => 3 | 4 => 4 | 0 => 0 | n => n, fun | n => n⟩
theorem Tryz.laysNm220 : Go.Proofs.Lays2.n20 Tryz.prog Tryz.laysNm220_ren := {
  mixed := by kernel_rfl
  f20 := Tryz.func95.trans (congrArg some (by kernel_rfl))
  t0 := Tryz.underlying0
  a0 := Tryz.isAgg0
  z0 := Tryz.sizeOf0
  v0 := Tryz.zeroValue0
  t3 := Tryz.underlying3
  a3 := Tryz.isAgg3
  z3 := Tryz.sizeOf3
  v3 := Tryz.zeroValue3
  t4 := Tryz.underlying4
  a4 := Tryz.isAgg4
  z4 := Tryz.sizeOf4
  v4 := Tryz.zeroValue4
  t22 := Tryz.underlying36
  a22 := Tryz.isAgg36
  z22 := Tryz.sizeOf36
  v22 := Tryz.zeroValue36
  i3 := by kernel_rfl }
open Go.RowKit Go.Lib Go.Sort in
theorem Tryz.slices_Compact_int (blk off cap : Nat) (zs : List Int) (w : World) (hH : Holds (Value.int .i64) w blk off zs.toArray) (hsz : zs.length ≤ 9223372036854775807) (hcap : zs.length ≤ cap) :
    Calls Tryz.prog 95 #[.slice (some ⟨blk, off, none⟩) zs.length cap] w fun e w' => e = .returned (.slice (some ⟨blk, off, none⟩) (Lib.compact zs).length cap) ∧ ∃ q, w' = putRow (Value.int .i64) (Sort.ahead w q) blk off (Lib.compact zs ++ List.replicate (zs.length - (Lib.compact zs).length) 0).toArray := Any.slices_Compact_int Tryz.laysNm220 blk off cap zs w hH hsz hcap
open Go.RowKit Go.Lib Go.Sort in
theorem Tryz.slices_Compact_int_empty (a : Option Addr) (cap : Nat) (w : World) :
    Calls Tryz.prog 95 #[.slice a 0 cap] w fun e w' => e = .returned (.slice a 0 cap) ∧ w' = w := Any.slices_Compact_int_empty Tryz.laysNm220 a cap w
end Go.Proofs
namespace Go.Proofs.YtfgnmflfiobkmaaGreat
open Go.RowKit
section
variable {α : Type}
theorem flatMap_idx {enc : α → List Value} {sz : Nat} (hsz : ∀ x, (enc x).length = sz) {l : List α} {j : Nat} (hj : j < l.length * sz) : ∃ x, l[j / sz]? = some x ∧ (l.flatMap enc)[j]? = (enc x)[j % sz]? := by
  have h0 : 0 < sz := by
    rcases Nat.eq_zero_or_pos sz with h | h
    · subst h; simp at hj
    · exact h
  have hk : j / sz < l.length := Nat.div_lt_of_lt_mul (by rw [Nat.mul_comm]; exact hj)
  refine ⟨l[j / sz], List.getElem?_eq_getElem hk, ?_⟩
  have hm : j % sz < (enc l[j / sz]).length := by rw [hsz]; exact Nat.mod_lt _ h0
  have h1 := flatMap_at hsz l (j / sz) _ (List.getElem?_eq_getElem hk) (j % sz) _ (List.getElem?_eq_getElem hm)
  rw [show j / sz * sz + j % sz = j from by rw [Nat.mul_comm]; exact Nat.div_add_mod j sz] at h1
  rw [h1, List.getElem?_eq_getElem hm]
theorem madeCells_enc {enc : α → List Value} {sz : Nat} (hsz : ∀ x, (enc x).length = sz) {z : Value} {z0 : α} (hz : z.cells.toList = enc z0) (n : Nat) : madeCells z.cells (n * sz) = ((List.replicate n z0).flatMap enc).toArray := by
  have hs : z.cells.size = sz := by rw [← hsz z0, ← hz]; simp
  apply Array.ext'
  apply List.ext_getElem?
  intro j
  by_cases hj : j < n * sz
  · obtain ⟨x, hx, h1⟩ := flatMap_idx hsz (l := List.replicate n z0) (j := j) (by simpa using hj)
    obtain rfl : x = z0 := (List.eq_of_mem_replicate (List.mem_of_getElem? hx))
    have h0 : 0 < sz := by
      rcases Nat.eq_zero_or_pos sz with h | h
      · subst h; simp at hj
      · exact h
    have hm : j % sz < z.cells.size := by rw [hs]; exact Nat.mod_lt _ h0
    rw [List.toList_toArray, h1, ← hz]
    simp only [madeCells, Array.getElem?_toList, Array.getElem?_map, Array.getElem?_range, hj, if_true, Option.map_some, hs]
    rw [getElem!_pos z.cells (j % sz) hm, Array.getElem?_eq_getElem hm]
  · rw [List.getElem?_eq_none (by simp [madeCells]; omega), List.toList_toArray, List.getElem?_eq_none (by rw [length_flatMap_enc hsz]; simp; omega)]
theorem splice_flat {enc : α → List Value} {sz : Nat} (hsz : ∀ x, (enc x).length = sz) : ∀ (l : List α) (k : Nat) (x : α), k < l.length → splice (l.flatMap enc) (k * sz) (enc x) = (l.set k x).flatMap enc
  | [], k, x, h => by simp at h
  | y :: l, 0, x, h => by
    simp only [splice, Nat.zero_mul, List.take_zero, List.nil_append, Nat.zero_add, List.flatMap_cons, List.set_cons_zero]
    rw [hsz, ← hsz y, List.drop_left]
  | y :: l, k + 1, x, h => by
    have ih := splice_flat hsz l k x (by simpa using h)
    unfold splice at ih ⊢
    have h1 : (k + 1) * sz = (enc y).length + k * sz := by rw [hsz, Nat.add_mul]; omega
    rw [h1]
    simp only [List.flatMap_cons, List.set_cons_succ]
    rw [List.take_length_add_append, show (enc y).length + k * sz + (enc x).length = (enc y).length + (k * sz + (enc x).length) from by omega, List.drop_length_add_append, List.append_assoc, List.append_assoc]
    rw [← ih, List.append_assoc]
end
section
variable {α : Type} {P : Program} {a : Act} {w : World} {n : Nat} {e : Env} {ty : TypeId} {pos : String} {af : Array Edge} {g : Option (Nat × Bool)} {d : Option Tmp}
theorem ef_makeSlice {T E sz bytes m : Nat} {x y : Operand} {enc : α → List Value} {z : Value} {z0 : α} (hf : Fr a n e) (hx : ev e x = some (.int .i64 (m : Int))) (hy : ev e y = some (.int .i64 (m : Int))) (hT : SliceT P T E) (hi : InfoT P E sz bytes) (hz : ZeroT P E z) (hz0 : z.cells.toList = enc z0) (hsz : ∀ x, (enc x).length = sz) (hb : bytes * m ≤ 281474976710656) (hm : m ≤ 4611686018427387904) :
    Ef P ⟨d, .makeSlice T x y, ty, pos, af, g⟩ a w (fun v w' => ∃ b, v = .slice (some ⟨b, 0, none⟩) m m ∧ w.heap.size ≤ b ∧ Below w.heap.size w w' ∧ Blk w' b E ((List.replicate m z0).flatMap enc)) := by
  obtain ⟨i, z1, hi1, hi2, hi3, hi4, hi5, hi6⟩ := hi
  obtain ⟨i', hi1', hz1⟩ := hz
  rw [hi1] at hi1'
  injection hi1' with hi1'
  subst hi1'
  rw [hi2] at hz1
  injection hz1 with hz1
  subst hz1
  have hb' : (i.bytes : Int) * (m : Int) ≤ 281474976710656 := by
    have h : ((i.bytes * m : Nat) : Int) ≤ 281474976710656 := by rw [hi4]; omega
    rwa [Int.natCast_mul] at h
  have hr := run_make (P := P) w T E i z1 hT hi1 hi2 .i64 .i64 m m (by omega) (Int.le_refl _) hb' (by omega)
  refine (Ef.of_run (v := .slice (some ⟨w.heap.size, 0, none⟩) m m) (w' := w.alloc (.cells ((List.replicate m z0).flatMap enc).toArray E)) ?_).mono fun v w' ⟨e1, e2⟩ => ?_
  · rw [hi3, Int.toNat_natCast, madeCells_enc hsz hz0] at hr
    simp [execOp, hf.ev hx, hf.ev hy, hr]
  · subst e1; subst e2
    exact ⟨_, rfl, Nat.le_refl _, (Below.refl _ _).alloc (Nat.le_refl _) _, blk_alloc w E _⟩
theorem ev_indexB {T E sz b m c k off : Nat} {x y : Operand} {i : Int} (hf : Fr a n e) (hx : ev e x = some (.slice (some ⟨b, 0, none⟩) m c)) (hy : ev e y = some (.int .i64 i)) (hT : SliceT P T E) (hs : SizeT P E sz) (hi : i = (k : Int)) (hk : k < m) (ho : k * sz = off) :
    Ev P ⟨d, .indexAddr T x y, ty, pos, af, g⟩ a w (.pointer (some ⟨b, off, none⟩)) := by
  have h := ev_index (P := P) (w := w) (d := d) (ty := ty) (pos := pos) (af := af) (g := g) hf hx hy hT hs hi hk
  rwa [addr_off, Nat.zero_add, ho] at h
theorem ef_storeF {t T b k sz : Nat} {x y : Operand} {v : Value} {enc : α → List Value} {l : List α} {u : α} (hf : Fr a n e) (hx : ev e x = some (.pointer (some ⟨b, k * sz, none⟩))) (hy : ev e y = some v) (hs : SizeT P t sz) (hb : Blk w b T (l.flatMap enc)) (hsz : ∀ x, (enc x).length = sz) (hone : ∀ x, (enc x).all one = true) (hv : v.cells.toList = enc u) (hk : k < l.length) :
    Ef P ⟨d, .store t x y, ty, pos, af, g⟩ a w (Stored w b T ((l.set k u).flatMap enc)) := by
  have hl : k * sz + sz ≤ (l.flatMap enc).length := by
    rw [length_flatMap_enc hsz]
    have := Nat.mul_le_mul_right sz (show k + 1 ≤ l.length by omega)
    rwa [Nat.add_mul, Nat.one_mul] at this
  exact ef_store (vs := enc u) hf hx hy hs hb hv (by rw [hsz]; simp) (hone u) (by rw [Nat.ble_eq]; exact hl) (splice_flat hsz l k u hk)
theorem ev_sliceTo {T E sz m c k : Nat} {x y : Operand} {A : Option Addr} {i : Int} (hf : Fr a n e) (hx : ev e x = some (.slice A m c)) (hy : ev e y = some (.int .i64 i)) (hT : SliceT P T E) (hs : SizeT P E sz) (hi : i = (k : Int)) (hk : k ≤ c) :
    Ev P ⟨d, .slice T x none (some y) none, ty, pos, af, g⟩ a w (.slice A k c) := fun w' _ => by
  subst hi
  have h0 : ∀ p : Addr, p.add 0 = p := fun p => by simp [Addr.add]
  simp [execOp, Instr.sliceAt, Instr.slice, Instr.sliceBounds, run_sliceBound, run_under hT, run_sizeOf' hs, hf.ev hx, hf.ev hy, hk, h0]
theorem ev_sliceFrom {T E sz m c k : Nat} {x y : Operand} {A : Option Addr} {i : Int} (hf : Fr a n e) (hx : ev e x = some (.slice A m c)) (hy : ev e y = some (.int .i64 i)) (hT : SliceT P T E) (hs : SizeT P E sz) (hi : i = (k : Int)) (hk : k ≤ m) :
    Ev P ⟨d, .slice T x (some y) none none, ty, pos, af, g⟩ a w (.slice (if c = k then A else A.map (·.add (k * sz))) (m - k) (c - k)) := fun w' _ => by
  subst hi
  simp [execOp, Instr.sliceAt, Instr.slice, Instr.sliceBounds, run_sliceBound, run_under hT, run_sizeOf' hs, hf.ev hx, hf.ev hy, hk]
end
section
variable {α : Type} {w : World} {B B0 : Nat} {E : TypeId} {sz : Nat} {enc : α → List Value} {A : Option Addr} {c : Nat} {l : List α}
theorem flatMap_take (hsz : ∀ x, (enc x).length = sz) (k : Nat) : (l.take k).flatMap enc = (l.flatMap enc).take (k * sz) := by
  conv => rhs; rw [← List.take_append_drop k l]
  rw [List.flatMap_append]
  by_cases hk : k ≤ l.length
  · have : ((l.take k).flatMap enc).length = k * sz := by rw [length_flatMap_enc hsz, List.length_take, Nat.min_eq_left hk]
    rw [← this, List.take_left]
  · rw [List.take_of_length_le (by omega), List.drop_of_length_le (by omega)]
    simp only [List.flatMap_nil, List.append_nil]
    rw [List.take_of_length_le (by rw [length_flatMap_enc hsz]; exact Nat.mul_le_mul_right _ (by omega))]
theorem flatMap_drop (hsz : ∀ x, (enc x).length = sz) (k : Nat) : (l.drop k).flatMap enc = (l.flatMap enc).drop (k * sz) := by
  conv => rhs; rw [← List.take_append_drop k l]
  rw [List.flatMap_append]
  by_cases hk : k ≤ l.length
  · have : ((l.take k).flatMap enc).length = k * sz := by rw [length_flatMap_enc hsz, List.length_take, Nat.min_eq_left hk]
    rw [← this, List.drop_left]
  · have h1 : l.drop k = [] := List.drop_of_length_le (by omega)
    rw [h1, List.flatMap_nil, List.append_nil, List.drop_of_length_le (by rw [length_flatMap_enc hsz, List.length_take]; exact Nat.mul_le_mul_right _ (by omega))]
theorem Rd.takeK (hsz : ∀ x, (enc x).length = sz) (h : Rd w B E enc A l) (k : Nat) : Rd w B E enc A (l.take k) := fun hl => by
  have hl' : l ≠ [] := by rintro rfl; simp at hl
  obtain ⟨b, off, cs, fz, h1, h2, h3, h4⟩ := h hl'
  refine ⟨b, off, cs, fz, h1, h2, h3, fun j v hj => h4 j v ?_⟩
  rw [flatMap_take hsz, List.getElem?_take] at hj
  split at hj
  · exact hj
  · cases hj
theorem Rd.dropK (hsz : ∀ x, (enc x).length = sz) (h : Rd w B E enc A l) (hc : l.length ≤ c) (k : Nat) : Rd w B E enc (if c = k then A else A.map (·.add (k * sz))) (l.drop k) := fun hl => by
  have hk : k < l.length := by
    rcases Nat.lt_or_ge k l.length with h' | h'
    · exact h'
    · exact absurd (List.drop_of_length_le h') hl
  have hl' : l ≠ [] := by rintro rfl; simp at hk
  obtain ⟨b, off, cs, fz, h1, h2, h3, h4⟩ := h hl'
  rw [if_neg (by omega), h1]
  refine ⟨b, off + k * sz, cs, fz, by rw [Option.map_some, addr_off], h2, h3, fun j v hj => ?_⟩
  rw [flatMap_drop hsz, List.getElem?_drop] at hj
  rw [Nat.add_assoc]
  exact h4 _ v hj
theorem ev_takeL {P : Program} {a : Act} {n : Nat} {e : Env} {ty : TypeId} {pos : String} {af : Array Edge} {g : Option (Nat × Bool)} {d : Option Tmp} {T k : Nat} {x y : Operand} {i : Int} (hf : Fr a n e) (hx : ev e x = some (.slice A l.length c)) (hy : ev e y = some (.int .i64 i)) (hT : SliceT P T E) (hs : SizeT P E sz) (hi : i = (k : Int)) (hk : k ≤ l.length) (hc : l.length ≤ c) :
    Ev P ⟨d, .slice T x none (some y) none, ty, pos, af, g⟩ a w (.slice A (l.take k).length c) := by
  rw [List.length_take, Nat.min_eq_left hk]
  exact ev_sliceTo hf hx hy hT hs hi (by omega)
theorem ev_dropL {P : Program} {a : Act} {n : Nat} {e : Env} {ty : TypeId} {pos : String} {af : Array Edge} {g : Option (Nat × Bool)} {d : Option Tmp} {T k : Nat} {x y : Operand} {i : Int} (hf : Fr a n e) (hx : ev e x = some (.slice A l.length c)) (hy : ev e y = some (.int .i64 i)) (hT : SliceT P T E) (hs : SizeT P E sz) (hi : i = (k : Int)) (hk : k ≤ l.length) :
    Ev P ⟨d, .slice T x (some y) none none, ty, pos, af, g⟩ a w (.slice (if c = k then A else A.map (·.add (k * sz))) (l.drop k).length (c - k)) := by
  rw [List.length_drop]
  exact ev_sliceFrom hf hx hy hT hs hi hk
theorem Own.cap (h : Own w B0 E sz enc A c l) : l.length ≤ c := by
  rcases h.2 with ⟨h1, h2⟩ | ⟨g, cap, cur, h1, h2, h3, h4, h5, h6⟩
  · omega
  · injection h1 with _ _ h1
    omega
theorem Own.of_flat (hsz : ∀ x, (enc x).length = sz) {b m : Nat} (h : Blk w b E (l.flatMap enc)) (hb : B0 ≤ b) (hl : l.length = m) (hk : m ≤ maxLen) : Own w B0 E sz enc (some ⟨b, 0, none⟩) m l := Own.of_blkL hsz h hb rfl hl hk
end
theorem Kept.app {α : Type} {b B B0 : Nat} {w0 w w' : World} {E : TypeId} {sz : Nat} {enc : α → List Value} {A : Option Addr} {c : Nat} {l : List α} (h : Kept b B w0 w) (ho : Own w B0 E sz enc A c l) (hg : w.grownBy w' (Value.slice A l.length c).ownBlock) (hB : B ≤ B0) (hs : B ≤ w.heap.size) : Kept b B w0 w' :=
  ⟨hg.os.trans h.os, hg.tape.trans h.tape, hg.output.trans h.output, Nat.le_trans h.size hg.size, fun k hk hne => (hg.block k (by omega) fun hk' => by have := (ho.block hk'.symm).1; omega).trans (h.block k hk hne)⟩
end Go.Proofs.YtfgnmflfiobkmaaGreat
namespace Go.Proofs.YtfgnmflfiobkmaaGreat
open Go.RowKit Go.Sort
theorem putWorld_heap {w : World} {g n : Nat} {os : Array Obj} {cur : Array Value} {e : TypeId} {fr : Nat × Nat} (d : Array Int) (hb : w.heap[g]? = some (.cells cur e fr)) :
    (grow (putRow (Value.int .i64) (Sort.ahead w n) g 0 d) os).heap[g]? = some (.cells (putCells (Value.int .i64) 0 d cur) e fr) := by
  have hg : g < w.heap.size := (Array.getElem?_eq_some_iff.1 hb).1
  rw [heap_grow_old _ _ (by simpa using hg)]
  simp [putRow, mapBlock, Sort.ahead, Array.getElem?_modify, hb, onCells]
theorem putWorld_grown {w : World} {g n : Nat} {os : Array Obj} (d : Array Int) : w.grownBy (grow (putRow (Value.int .i64) (Sort.ahead w n) g 0 d) os) (some g) := by
  refine ⟨rfl, rfl, rfl, by simp, fun k hk hne => ?_⟩
  rw [heap_grow_old _ _ (by simpa using hk)]
  have : g ≠ k := fun e => hne (by rw [e])
  simp [putRow, mapBlock, Sort.ahead, Array.getElem?_modify, this]
theorem flat_encI (l : List Int) : l.flatMap encI = l.map (Value.int .i64) := by
  induction l with
  | nil => rfl
  | cons x l ih => simp only [List.flatMap_cons, List.map_cons, ih]; rfl
theorem take_put (cur : Array Value) (d ts : List Int) (h : d.length ≤ cur.size) (ht : d.take ts.length = ts) : (putCells (Value.int .i64) 0 d.toArray cur).toList.take (ts.length * 1) = ts.flatMap encI := by
  have hl : ts.length ≤ d.length := by
    have := congrArg List.length ht
    rw [List.length_take] at this
    omega
  rw [flat_encI, Nat.mul_one]
  apply List.ext_getElem?
  intro j
  by_cases hj : j < ts.length
  · rw [List.getElem?_take_of_lt hj, Array.getElem?_toList]
    have h1 : ts[j]? = d[j]? := by
      conv => lhs; rw [← ht]
      rw [List.getElem?_take_of_lt hj]
    have h2 : j < d.length := by omega
    rw [List.getElem?_map, h1]
    simp [putCells, h2, show j < cur.size by omega]
  · rw [List.getElem?_take_eq_none (by omega), List.getElem?_eq_none (by simp; omega)]
theorem holds_own {w : World} {g : Nat} {cur : Array Value} {e : TypeId} {l : List Int} (hb : w.heap[g]? = some (.cells cur e (0, 0))) (ht : cur.toList.take (l.length * 1) = l.flatMap encI) : Holds (Value.int .i64) w g 0 l.toArray := by
  intro j hj
  have hj' : j < l.length := by simpa using hj
  refine ⟨?_, by simp [World.frozen?, hb]⟩
  rw [flat_encI, Nat.mul_one] at ht
  have h1 : (cur.toList.take l.length)[j]? = (l.map (Value.int .i64))[j]? := by rw [ht]
  rw [List.getElem?_take_of_lt hj'] at h1
  simp only [World.cell?, hb, Nat.zero_add]
  simp only [Option.isSome_none, Bool.false_eq_true, if_false]
  rw [← Array.getElem?_toList, h1]
  simp [hj']
def sortI (l : List Int) : List Int := l.mergeSort fun x y => decide (x ≤ y)
theorem F94 (w0 : World) (B0 : Nat) (A : Option Addr) (c : Nat) (l : List Int) (ho : Own w0 B0 3 1 encI A c l) (hl : l.length ≤ 1000000000) :
    Ret Tryz.prog 94 [.slice A l.length c] w0 (fun _ w => Own w B0 3 1 encI A c (sortI l) ∧ w0.grownBy w (Value.slice A l.length c).ownBlock) := by
  by_cases h0 : l = []
  · subst h0
    refine Calls.mono (Any.slices_Sort_int_none Tryz.lays189 A c w0) fun e w ⟨e1, e2⟩ => ⟨_, e1, ?_⟩
    subst e2
    exact ⟨by simpa [sortI] using ho, World.grownBy.refl w _⟩
  · rcases ho.2 with ⟨h1, h2⟩ | ⟨g, cap, cur, h1, h2, h3, h4, h5, h6, h7⟩
    · exact absurd (List.eq_nil_of_length_eq_zero h2) h0
    · injection h1 with h1 _ h1''
      subst h1; subst h1''
      have hs : (sortI l).length = l.length := by simp [sortI]
      refine Calls.mono (Tryz.slices_Sort_int g 0 c l w0 (holds_own h3 h7) (Array.getElem?_eq_some_iff.1 h3).1 (by omega)) fun e w ⟨e1, n, os, e2⟩ => ⟨_, e1, ?_⟩
      subst e2
      refine ⟨⟨length_flatMap_enc encI_len _, .inr ⟨g, c, _, by rw [hs], h2, putWorld_heap _ h3, by omega, h5, by simp [putCells, h6], ?_⟩⟩, ?_⟩
      · exact take_put cur (sortI l) (sortI l) (by omega) List.take_length
      · exact putWorld_grown _
theorem compact_len (l : List Int) : (Lib.compact l).length ≤ l.length := by
  unfold Lib.compact Lib.compactUpTo
  rw [List.length_map]
  exact Nat.le_trans (List.length_filter_le _ _) (by simp)
theorem F95 (w0 : World) (B0 : Nat) (A : Option Addr) (c : Nat) (l : List Int) (ho : Own w0 B0 3 1 encI A c l) (hl : l.length ≤ 1000000000) :
    Ret Tryz.prog 95 [.slice A l.length c] w0 (fun v w => v = .slice A (Lib.compact l).length c ∧ Own w B0 3 1 encI A c (Lib.compact l) ∧ w0.grownBy w (Value.slice A l.length c).ownBlock) := by
  by_cases h0 : l = []
  · subst h0
    refine Calls.mono (Tryz.slices_Compact_int_empty A c w0) fun e w ⟨e1, e2⟩ => ⟨_, e1, ?_⟩
    subst e2
    exact ⟨rfl, ho, World.grownBy.refl w _⟩
  · rcases ho.2 with ⟨h1, h2⟩ | ⟨g, cap, cur, h1, h2, h3, h4, h5, h6, h7⟩
    · exact absurd (List.eq_nil_of_length_eq_zero h2) h0
    · injection h1 with h1 _ h1''
      subst h1; subst h1''
      have hc := compact_len l
      refine Calls.mono (Tryz.slices_Compact_int g 0 c l w0 (holds_own h3 h7) (by omega) h4) fun e w ⟨e1, q, e2⟩ => ⟨_, e1, rfl, ?_⟩
      have e3 : w = grow (putRow (Value.int .i64) (Sort.ahead w0 q) g 0 (Lib.compact l ++ List.replicate (l.length - (Lib.compact l).length) 0).toArray) #[] := by rw [grow_empty]; exact e2
      subst e3
      refine ⟨⟨length_flatMap_enc encI_len _, .inr ⟨g, c, _, rfl, h2, putWorld_heap _ h3, by omega, h5, by simp [putCells, h6], ?_⟩⟩, ?_⟩
      · exact take_put cur _ (Lib.compact l) (by simp; omega) List.take_left
      · exact putWorld_grown _
theorem F95m (w0 : World) (B0 : Nat) (A : Option Addr) (c : Nat) (l : List Int) (m : Nat) (hm : m = l.length) (ho : Own w0 B0 3 1 encI A c l) (hl : l.length ≤ 1000000000) :
    Ret Tryz.prog 95 [.slice A m c] w0 (fun v w => v = .slice A (Lib.compact l).length c ∧ Own w B0 3 1 encI A c (Lib.compact l) ∧ w0.grownBy w (Value.slice A l.length c).ownBlock) := by
  subst hm
  exact F95 w0 B0 A c l ho hl
def growRen : Go.Shelf.Ren := ⟨fun | 4 => 133 | n => n, fun | 22 => 36 | 25 => 3 | n => n, fun | n => n⟩
theorem growLay : Lays8.n4 Tryz.prog growRen := {
  mixed := by kernel_rfl
  f4 := ⟨Tryz.f133.name, by decide, Tryz.func133.trans (congrArg some (by kernel_rfl))⟩
  t0 := Tryz.underlying0
  a0 := Tryz.isAgg0
  z0 := Tryz.sizeOf0
  v0 := Tryz.zeroValue0
  t3 := Tryz.underlying3
  a3 := Tryz.isAgg3
  z3 := Tryz.sizeOf3
  v3 := Tryz.zeroValue3
  t4 := Tryz.underlying4
  a4 := Tryz.isAgg4
  z4 := Tryz.sizeOf4
  v4 := Tryz.zeroValue4
  t9 := Tryz.underlying9
  a9 := Tryz.isAgg9
  z9 := Tryz.sizeOf9
  v9 := Tryz.zeroValue9
  t20 := Tryz.underlying20
  a20 := Tryz.isAgg20
  z20 := Tryz.sizeOf20
  v20 := Tryz.zeroValue20
  t22 := Tryz.underlying36
  a22 := Tryz.isAgg36
  z22 := Tryz.sizeOf36
  v22 := Tryz.zeroValue36 }
theorem F133 (w0 : World) (n : Nat) (hn : n ≤ 1000000000) : Ret Tryz.prog 133 [.slice none 0 0, .int .i64 (n : Int)] w0 (fun v w => ∃ A c, v = .slice A 0 c ∧ Own w w0.heap.size 3 1 encI A c ([] : List Int) ∧ Below w0.heap.size w0 w) := by
  by_cases h0 : n = 0
  · subst h0
    refine Calls.mono (Any8.slices_Grow_room growLay none 0 0 0 w0 (by omega) (by omega) (by omega) (by omega)) fun e w ⟨e1, e2⟩ => ⟨_, e1, none, 0, rfl, ?_⟩
    subst e2
    exact ⟨Own.nil _ _ _ _ _, Below.refl _ _⟩
  · obtain ⟨i, z, hi1, hi2, hi3, hi4, hi5, hi6⟩ := inf_3
    refine Calls.mono (Any8.slices_Grow_grow growLay i z hi1 hi2 (by omega) none 0 0 n [] w0 (by omega) (by omega) (by rw [hi4]; omega) (by omega) (by simp) (fun _ => rfl) (fun a h => by cases h)) fun e w ⟨e1, e2⟩ => ⟨_, e1, _, _, rfl, ?_⟩
    subst e2
    have hge := grownCap_ge w0 (0 + n) 0 (growRen.t 25)
    refine ⟨⟨rfl, .inr ⟨w0.heap.size, _, _, rfl, Nat.le_refl _, heap_alloc_new w0.drew _, Nat.zero_le _, grownCap_le_maxLen w0 _ _ _ (by simp only [maxLen]; omega), ?_, by simp⟩⟩, ((Below.refl _ _).drew).alloc (Nat.le_refl _) _⟩
    simp only [Array.size_append, List.size_toArray, size_zeroCells, hi5, List.length_nil, Nat.zero_add, Nat.mul_one] at hge ⊢
    omega
end Go.Proofs.YtfgnmflfiobkmaaGreat
namespace Go.Proofs.YtfgnmflfiobkmaaGreat
open Go.RowKit
structure Sl where (A : Option Addr) (c : Nat) (l : List Int)
def encS (s : Sl) : List Value := [.slice s.A s.l.length s.c]
theorem encS_len : ∀ x, (encS x).length = 1 := fun _ => rfl
theorem encS_one : ∀ x, (encS x).all one = true := fun _ => rfl
structure Rp where (pos : Int) (old new : List Gt)
theorem flat_step {α β : Type} {f : α → List β} {l : List α} {k : Nat} {u : α} (h : l[k]? = some u) : (l.take (k + 1)).flatMap f = (l.take k).flatMap f ++ f u := by
  rw [List.take_add_one, h]
  simp
theorem flat_le {α β : Type} (f : α → List β) (l : List α) (k : Nat) : ((l.take k).flatMap f).length ≤ (l.flatMap f).length := by
  conv => rhs; rw [← List.take_append_drop k l]
  rw [List.flatMap_append, List.length_append]
  omega
theorem flat_full {α β : Type} (f : α → List β) {l : List α} {k : Nat} (h : l.length ≤ k) : (l.take k).flatMap f = l.flatMap f := by rw [List.take_of_length_le h]
def unionI (p q : List Int) : List Int := Lib.compact (sortI (p ++ (q ++ [])))
def qubI (g : Gt) : List Int := if g.k = 12 then [] else if inR g.k 9 11 = true then [g.a, g.b] else [g.a]
def usedI (l : List Gt) : List Int := unionI (l.flatMap qubI) []
theorem qubI_len (g : Gt) : (qubI g).length ≤ 2 := by unfold qubI; split <;> (try split) <;> simp
def setAll : List Int → Nat → List Int → List Int
  | [], _, to => to
  | q :: l, i, to => setAll l (i + 1) (to.set q.toNat (i : Int))
def numbI (l : List Int) : List Int := setAll l 0 [0, 0, 0, 0, 0]
theorem setAll_len : ∀ (l : List Int) (i : Nat) (to : List Int), (setAll l i to).length = to.length
  | [], _, _ => rfl
  | _ :: l, i, to => by rw [setAll, setAll_len l]; simp
theorem setAll_snoc : ∀ (l : List Int) (q : Int) (i : Nat) (to : List Int), setAll (l ++ [q]) i to = (setAll l i to).set q.toNat ((i + l.length : Nat) : Int)
  | [], q, i, to => by simp [setAll]
  | x :: l, q, i, to => by
    rw [List.cons_append, setAll, setAll, setAll_snoc l]
    congr 2
    simp only [List.length_cons]
    omega
theorem numb_step {l : List Int} {k : Nat} {u : Int} (h : l[k]? = some u) : numbI (l.take (k + 1)) = (numbI (l.take k)).set u.toNat (k : Int) := by
  have hk := (List.getElem?_eq_some_iff.1 h).1
  unfold numbI
  rw [List.take_add_one, h, Option.toList_some, setAll_snoc, List.length_take, Nat.min_eq_left (by omega), Nat.zero_add]
theorem numb_len (l : List Int) : (numbI l).length = 5 := by rw [numbI, setAll_len]; rfl
def mapG (to : List Int) (g : Gt) : Gt := ⟨g.k, if g.k = 12 then g.a else to.getD g.a.toNat 0, if inR g.k 9 11 = true then to.getD g.b.toNat 0 else g.b⟩
def mapI (l : List Gt) (to : List Int) : List Gt := l.map (mapG to)
theorem map_step {α β : Type} {f : α → β} {l : List α} {k : Nat} {u : α} (h : l[k]? = some u) : (l.take (k + 1)).map f = (l.take k).map f ++ [f u] := by
  rw [List.take_add_one, h]
  simp
theorem getD_get {l : List Int} {k : Nat} (h : k < l.length) : l[k]? = some (l.getD k 0) := by
  rw [List.getD_eq_getElem?_getD, List.getElem?_eq_getElem h]; rfl
def vrI (n : Int) (r : Rp) : Bool := inR n 1 5 && inR r.pos 0 400 && decide ((r.old.length : Int) ≤ 40) && decide ((r.new.length : Int) ≤ 40) && !(r.old.any fun x => !gOk n x) && !(r.new.any fun x => !gOk n x)
end Go.Proofs.YtfgnmflfiobkmaaGreat
namespace Go.Proofs.YtfgnmflfiobkmaaGreat
open Go.RowKit
def oA (A : Option Addr) (m : Nat) : Addr := match A with
  | some p => ⟨p.block, m, none⟩
  | none => ⟨0, m, none⟩
theorem splice_get {l vs : List Value} {off : Nat} (h : off + vs.length ≤ l.length) (i : Nat) : (splice l off vs)[i]? = if i < off then l[i]? else if i < off + vs.length then vs[i - off]? else l[i]? := by
  unfold splice
  have h1 : (l.take off).length = off := by rw [List.length_take]; omega
  by_cases h2 : i < off
  · rw [if_pos h2, List.append_assoc, List.getElem?_append_left (by omega), List.getElem?_take_of_lt h2]
  · rw [if_neg h2]
    by_cases h3 : i < off + vs.length
    · rw [if_pos h3, List.getElem?_append_left (by rw [List.length_append]; omega), List.getElem?_append_right (by omega), h1]
    · rw [if_neg h3, List.getElem?_append_right (by rw [List.length_append]; omega), List.length_append, h1, List.getElem?_drop]
      congr 1
      omega
theorem splice_length {l vs : List Value} {off : Nat} (h : off + vs.length ≤ l.length) : (splice l off vs).length = l.length := by
  unfold splice
  simp only [List.length_append, List.length_take, List.length_drop]
  omega
theorem splice_part {l x vs : List Value} {o j : Nat} (hx : ∀ i, i < x.length → l[o + i]? = x[i]?) (h1 : o + x.length ≤ l.length) (h2 : j + vs.length ≤ x.length) : splice l (o + j) vs = splice l o (splice x j vs) := by
  have h3 := splice_length h2
  apply List.ext_getElem?
  intro i
  rw [splice_get (by omega), splice_get (by omega), h3]
  by_cases a1 : i < o
  · rw [if_pos (by omega), if_pos a1]
  · rw [if_neg a1]
    by_cases a2 : i < o + x.length
    · rw [if_pos a2, splice_get h2]
      by_cases a3 : i < o + j
      · rw [if_pos a3, if_pos (show i - o < j by omega), ← hx (i - o) (by omega)]; congr 1; omega
      · rw [if_neg a3, if_neg (show ¬ i - o < j by omega)]
        by_cases a4 : i < o + j + vs.length
        · rw [if_pos a4, if_pos (show i - o < j + vs.length by omega)]; congr 1; omega
        · rw [if_neg a4, if_neg (show ¬ i - o < j + vs.length by omega), ← hx (i - o) (by omega)]; congr 1; omega
    · rw [if_neg a2, if_neg (by omega), if_neg (by omega)]
theorem splice_take {l vs : List Value} {off N : Nat} (h : off + vs.length ≤ N) (hN : N ≤ l.length) : (splice l off vs).take N = splice (l.take N) off vs := by
  apply List.ext_getElem?
  intro i
  by_cases hi : i < N
  · rw [List.getElem?_take_of_lt hi, splice_get (by omega), splice_get (by rw [List.length_take]; omega), List.getElem?_take_of_lt hi]
  · rw [List.getElem?_take_eq_none (by omega), List.getElem?_eq_none]
    rw [splice_length (by rw [List.length_take]; omega), List.length_take]; omega
theorem flat_at {α : Type} {enc : α → List Value} {sz : Nat} (hsz : ∀ x, (enc x).length = sz) : ∀ (l : List α) (k i : Nat) (x : α), l[k]? = some x → i < sz → (l.flatMap enc)[k * sz + i]? = (enc x)[i]?
  | [], k, i, x, h, _ => by simp at h
  | y :: l, 0, i, x, h, hi => by
    simp at h; subst h
    rw [List.flatMap_cons, Nat.zero_mul, Nat.zero_add, List.getElem?_append_left (by rw [hsz]; exact hi)]
  | y :: l, k + 1, i, x, h, hi => by
    have h' : l[k]? = some x := by simpa using h
    have e : (k + 1) * sz + i = sz + (k * sz + i) := by rw [Nat.add_mul]; omega
    rw [List.flatMap_cons, e, List.getElem?_append_right (by rw [hsz]; omega), hsz, Nat.add_sub_cancel_left]
    exact flat_at hsz l k i x h' hi
section
variable {P : Program} {a : Act} {w w' : World} {n : Nat} {e : Env} {ty : TypeId} {pos : String} {af : Array Edge} {g : Option (Nat × Bool)} {d : Option Tmp} {α : Type}
theorem ev_indexOwn {T E : TypeId} {sz B0 k m : Nat} {x y : Operand} {enc : α → List Value} {A : Option Addr} {c : Nat} {l : List α} {i : Int} (hf : Fr a n e) (hx : ev e x = some (.slice A m c)) (hy : ev e y = some (.int .i64 i)) (hT : SliceT P T E) (hs : SizeT P E sz)
    (ho : Own w B0 E sz enc A c l) (hm : m = l.length) (hi : i = (k : Int)) (hk : k < l.length) : Ev P ⟨d, .indexAddr T x y, ty, pos, af, g⟩ a w (.pointer (some (oA A (k * sz)))) := by
  subst hm
  rcases ho.2 with ⟨h1, h2⟩ | ⟨b, cap, cur, h1, h2, h3, h4⟩
  · omega
  · injection h1 with h1
    rw [h1] at hx ⊢
    exact ev_indexB (b := b) (off := k * sz) hf hx hy hT hs hi hk rfl
theorem ev_fieldOwn {T f k m : Nat} {x : Operand} {A : Option Addr} (hf : Fr a n e) (hx : ev e x = some (.pointer (some (oA A m)))) (hF : FieldT P T f k) {m' : Nat} (hm : m + k = m') : Ev P ⟨d, .fieldAddr T x f, ty, pos, af, g⟩ a w (.pointer (some (oA A m'))) := by
  subst hm
  have h := ev_field (P := P) (w := w) (d := d) (ty := ty) (pos := pos) (af := af) (g := g) hf hx hF
  have e : (oA A m).add k = oA A (m + k) := by cases A <;> simp [oA, Addr.add]
  rw [e] at h
  exact h
theorem ef_storeOwn {t E : TypeId} {sz B0 k j m n1 : Nat} {x y : Operand} {enc : α → List Value} {A : Option Addr} {c : Nat} {l : List α} {v : Value} {vs : List Value} {x0 u : α} (hf : Fr a n e) (hx : ev e x = some (.pointer (some (oA A m)))) (hy : ev e y = some v) (hs : SizeT P t n1)
    (ho : Own w B0 E sz enc A c l) (hsz : ∀ x, (enc x).length = sz) (hv : v.cells.toList = vs) (hn : Nat.beq vs.length n1 = true) (h1 : vs.all one = true) (hm : k * sz + j = m) (hj : j + n1 ≤ sz) (hk : l[k]? = some x0) (hu : splice (enc x0) j vs = enc u) :
    Ef P ⟨d, .store t x y, ty, pos, af, g⟩ a w (fun _ w' => Own w' B0 E sz enc A c (l.set k u) ∧ w.grownBy w' (Value.slice A l.length c).ownBlock) := by
  have hkl : k < l.length := (List.getElem?_eq_some_iff.1 hk).1
  rcases ho.2 with ⟨e1, e2⟩ | ⟨b, cap, cur, e1, e2, e3, e4, e5, e6, e7⟩
  · omega
  · injection e1 with e1 _ e1'
    subst hm; subst e1'
    have hcl : cur.toList.length = c * sz := Array.length_toList.trans e6
    have hN : l.length * sz ≤ cur.toList.length := by rw [hcl]; exact Nat.mul_le_mul_right _ e4
    have hks : k * sz + sz ≤ l.length * sz := by
      have := Nat.mul_le_mul_right sz (show k + 1 ≤ l.length by omega)
      rwa [Nat.add_mul, Nat.one_mul] at this
    have hn' : vs.length = n1 := Nat.eq_of_beq_eq_true hn
    rw [e1] at hx
    have hb : Blk w b E cur.toList := by unfold Blk; rw [e3]
    refine (ef_store (b := b) (off := k * sz + j) (vs := vs) hf hx hy hs hb hv hn h1 (by rw [Nat.ble_eq]; omega) rfl).mono fun _ w' ⟨hO, hB⟩ => ?_
    have hlen : ((l.set k u).flatMap enc).length = (l.set k u).length * sz := length_flatMap_enc hsz _
    refine ⟨⟨hlen, .inr ⟨b, c, _, by rw [e1], e2, hB, by simp; omega, e5, ?_, ?_⟩⟩, ?_⟩
    · rw [List.size_toArray, splice_length (by omega), hcl]
    · simp only [List.length_set]
      rw [splice_take (by omega) hN, e7, splice_part (x := enc x0) (fun i hi => ?_) (by rw [length_flatMap_enc hsz, hsz]; omega) (by rw [hsz]; omega), hu]
      · exact splice_flat hsz l k u hkl
      · exact flat_at hsz l k i x0 hk (by rw [← hsz x0]; exact hi)
    · rw [e1]
      exact ⟨hO.os, hO.tape, hO.output, by rw [hO.size]; exact Nat.le_refl _, fun q _ hne => hO.block q fun e => hne (by rw [e]; rfl)⟩
end
section
variable {P : Program} {ops : Array Oper} {a : Act} {w : World} {n d : Nat} {e : Env} {ty : TypeId} {pos : String} {af : Array Edge} {g : Option (Nat × Bool)} {α : Type}
theorem l_indexL {Q : Exit → Act → World → Prop} {rest : List Oper} {T E E2 : TypeId} {sz B m : Nat} {x y : Operand} {enc : α → List Value} {A : Option Addr} {c : Nat} {l : List α} {k : Nat} {i : Int} {u : α} (hf : Fr a n e) (hw : Want ops ⟨some d, .indexAddr T x y, ty, pos, af, g⟩ e) (hn : Nat.blt d n = true)
    (hx : ev e x = some (.slice A m c)) (hm : m = l.length) (hy : ev e y = some (.int .i64 i)) (hT : SliceT P T E) (hs : SizeT P E sz) (hsz : ∀ x, (enc x).length = sz) (hr : Rd w B E2 enc A l) (hk : l[k]? = some u) (hi : i = (k : Int))
    (h : ∀ a' p, At w p (enc u) → Fr a' n ((d, .pointer (some p)) :: e) → wpList P ops Q rest a' w) : wpList P ops Q (⟨some d, .indexAddr T x y, ty, pos, af, g⟩ :: rest) a w := by
  subst hm
  exact l_index hf hw hn hx hy hT hs hsz hr hk hi h
theorem s_indexL {Q : Act → World → Prop} {tl : Nat → Bool} {fuel : Nat} {done : List Nat} {T E E2 : TypeId} {sz B m : Nat} {x y : Operand} {enc : α → List Value} {A : Option Addr} {c : Nat} {l : List α} {k : Nat} {i : Int} {u : α} (j : Nat)
    (ho : ops[j]? = some ⟨some d, .indexAddr T x y, ty, pos, af, g⟩) (hmf : mayFirst ops done j = true) (ht : tailWaits ops tl j = true) (hf : Fr a n e) (hw : Want ops ⟨some d, .indexAddr T x y, ty, pos, af, g⟩ e) (hn : Nat.blt d n = true)
    (hx : ev e x = some (.slice A m c)) (hm : m = l.length) (hy : ev e y = some (.int .i64 i)) (hT : SliceT P T E) (hs : SizeT P E sz) (hsz : ∀ x, (enc x).length = sz) (hr : Rd w B E2 enc A l) (hk : l[k]? = some u) (hi : i = (k : Int))
    (h : ∀ a' p, At w p (enc u) → Fr a' n ((d, .pointer (some p)) :: e) → wpS P ops none tl Q fuel (mask ops (j :: done)) a' w) : wpS P ops none tl Q (fuel + 1) (mask ops done) a w := by
  subst hm
  exact s_index j ho hmf ht hf hw hn hx hy hT hs hsz hr hk hi h
end
def Apart (A A' : Option Addr) : Prop := ∀ p q, A = some p → A' = some q → p.block ≠ q.block
section
variable {α β : Type} {w w' : World} {B B0 B1 : Nat} {E E' : TypeId} {sz sz' : Nat} {enc : α → List Value} {enc' : β → List Value} {A A' : Option Addr} {c c' : Nat} {l : List α} {l' : List β}
theorem Own.apart (h : Own w B E sz enc A c l) (h' : Own w' B0 E' sz' enc' A' c' l') (hB : w.heap.size ≤ B0) : Apart A A' := fun p q hp hq => by
  rcases h.2 with ⟨h1, _⟩ | ⟨g, cap, cur, h1, h2, h3, _⟩
  · injection h1 with h1; rw [h1] at hp; cases hp
  · rcases h'.2 with ⟨k1, _⟩ | ⟨g', cap', cur', k1, k2, k3, _⟩
    · injection k1 with k1; rw [k1] at hq; cases hq
    · injection h1 with h1
      injection k1 with k1
      rw [h1] at hp
      rw [k1] at hq
      injection hp with hp
      injection hq with hq
      subst hp; subst hq
      have := (Array.getElem?_eq_some_iff.1 h3).1
      intro e
      simp only at e
      omega
theorem Own.appP (h : Own w B1 E' sz' enc' A' c' l') (hg : w.grownBy w' (Value.slice A l.length c).ownBlock) (ha : Apart A' A) : Own w' B1 E' sz' enc' A' c' l' := by
  refine ⟨h.1, ?_⟩
  rcases h.2 with h1 | ⟨g, cap, cur, h1, h2, h3, h4⟩
  · exact .inl h1
  · refine .inr ⟨g, cap, cur, h1, h2, (hg.block g (Array.getElem?_eq_some_iff.1 h3).1 fun hk => ?_).trans h3, h4⟩
    injection h1 with h1
    cases A with
    | none => simp [Value.ownBlock] at hk
    | some q =>
      simp only [Value.ownBlock, Option.some.injEq] at hk
      exact ha _ q h1 rfl hk
theorem gbel {r : Option Nat} {w0 w w' : World} (h : w0.grownBy w r) (hE : Below w.heap.size w w') : w0.grownBy w' r :=
  ⟨hE.os.trans h.os, hE.tape.trans h.tape, hE.output.trans h.output, Nat.le_trans h.size hE.size, fun k hk hn => (hE.block k (Nat.lt_of_lt_of_le hk h.size)).trans (h.block k hk hn)⟩
theorem own_row (A : Option Addr) (n m c d : Nat) : (Value.slice A n c).ownBlock = (Value.slice A m d).ownBlock := by cases A <;> rfl
theorem gtr {A : Option Addr} {n m c d : Nat} {w0 w w' : World} (h : w0.grownBy w (Value.slice A n c).ownBlock) (k : w.grownBy w' (Value.slice A m d).ownBlock) : w0.grownBy w' (Value.slice A n c).ownBlock :=
  ⟨k.os.trans h.os, k.tape.trans h.tape, k.output.trans h.output, Nat.le_trans h.size k.size, fun q hq hn => (k.block q (Nat.lt_of_lt_of_le hq h.size) (by rw [own_row A m n d c]; exact hn)).trans (h.block q hq hn)⟩
theorem Own.len {m : Nat} (h : Own w B E sz enc A c l) (hm : m = l.length) : Own w B E sz enc A c l ∧ Value.slice A m c = Value.slice A l.length c := ⟨h, by rw [hm]⟩
theorem Apart.symm (h : Apart A A') : Apart A' A := fun p q hp hq e => h q p hq hp e.symm
end
def DeepI (w : World) (B : Nat) (l : List Sl) : Prop := ∀ s ∈ l, Rd w B 3 encI s.A s.l
section
variable {w w' : World} {B : Nat} {l : List Sl}
theorem DeepI.below (h : DeepI w B l) (hb : Below w.heap.size w w') : DeepI w' B l := fun s hs => (h s hs).below hb
theorem DeepI.top (h : DeepI w B l) : DeepI w w.heap.size l := fun s hs => (h s hs).top
theorem DeepI.only {b : Nat} (h : DeepI w B l) (ho : Only b w w') (hB : B ≤ b) : DeepI w' B l := fun s hs => (h s hs).only ho hB
theorem DeepI.onlyT {b : Nat} {T : TypeId} {lc : List Value} (h : DeepI w B l) (ho : Only b w w') (hb : Blk w b T lc) (hT : Nat.beq 3 T = false) : DeepI w' B l := fun s hs => (h s hs).onlyT ho hb hT
theorem DeepI.appB {B0 : Nat} {E' : TypeId} {sz : Nat} {α : Type} {enc : α → List Value} {A : Option Addr} {c : Nat} {m : List α} (h : DeepI w B l) (ho : Own w B0 E' sz enc A c m) (hg : w.grownBy w' (Value.slice A m.length c).ownBlock) (hB : B ≤ B0) : DeepI w' B l := fun s hs => (h s hs).appB ho hg hB
theorem DeepI.appT {B0 : Nat} {E' : TypeId} {sz : Nat} {α : Type} {enc : α → List Value} {A : Option Addr} {c : Nat} {m : List α} (h : DeepI w B l) (ho : Own w B0 E' sz enc A c m) (hg : w.grownBy w' (Value.slice A m.length c).ownBlock) (hT : Nat.beq E' 3 = false) : DeepI w' B l := fun s hs => (h s hs).appT ho hg hT
theorem DeepI.nil (w : World) (B : Nat) : DeepI w B [] := fun s hs => by cases hs
theorem DeepI.snoc {s : Sl} (h : DeepI w B l) (hr : Rd w B 3 encI s.A s.l) : DeepI w B (l ++ [s]) := fun t ht => by
  rcases List.mem_append.1 ht with h1 | h1
  · exact h t h1
  · rw [List.mem_singleton] at h1; subst h1; exact hr
theorem DeepI.eq {l' : List Sl} (h : DeepI w B l) (e : l' = l) : DeepI w B l' := by rw [e]; exact h
end
def LowI (B : Nat) (l : List Sl) : Prop := ∀ s ∈ l, ∀ p, s.A = some p → B ≤ p.block
def Und (A : Option Addr) (B : Nat) : Prop := ∀ p, A = some p → p.block < B
theorem LowI.nil (B : Nat) : LowI B [] := fun s hs => by cases hs
theorem LowI.snoc {B : Nat} {l : List Sl} {s : Sl} (h : LowI B l) (hs : ∀ p, s.A = some p → B ≤ p.block) : LowI B (l ++ [s]) := fun t ht => by
  rcases List.mem_append.1 ht with h1 | h1
  · exact h t h1
  · rw [List.mem_singleton] at h1; subst h1; exact hs
section
variable {α : Type} {w w' : World} {B B1 : Nat} {E : TypeId} {sz : Nat} {enc : α → List Value} {A : Option Addr} {c : Nat} {l : List α} {m : List Sl}
theorem Own.lowp (h : Own w B E sz enc A c l) (p : Addr) (hp : A = some p) : B ≤ p.block := by
  rcases h.2 with ⟨h1, _⟩ | ⟨g, cap, cur, h1, h2, h3, _⟩
  · injection h1 with h1; rw [h1] at hp; cases hp
  · injection h1 with h1; rw [h1] at hp; injection hp with hp; subst hp; exact h2
theorem Own.und (h : Own w B E sz enc A c l) : Und A w.heap.size := fun p hp => by
  rcases h.2 with ⟨h1, _⟩ | ⟨g, cap, cur, h1, h2, h3, _⟩
  · injection h1 with h1; rw [h1] at hp; cases hp
  · injection h1 with h1; rw [h1] at hp; injection hp with hp; subst hp; exact (Array.getElem?_eq_some_iff.1 h3).1
theorem DeepI.appL {n : Nat} (h : DeepI w B m) (hl : LowI B1 m) (hu : Und A B1) (hg : w.grownBy w' (Value.slice A n c).ownBlock) : DeepI w' B m := fun s hs hne => by
  obtain ⟨g, off, cs, fz, h1, h2, h3, h4⟩ := h s hs hne
  refine ⟨g, off, cs, fz, h1, h2, (hg.block g (Array.getElem?_eq_some_iff.1 h3).1 fun hk => ?_).trans h3, h4⟩
  have h5 := hl s hs _ h1
  cases A with
  | none => simp [Value.ownBlock] at hk
  | some q =>
    simp only [Value.ownBlock, Option.some.injEq] at hk
    have := hu q rfl
    simp only at h5
    omega
end
end Go.Proofs.YtfgnmflfiobkmaaGreat
namespace Go.Proofs.YtfgnmflfiobkmaaGreat
open Go.RowKit
def markI (k : Int) (n : Nat) : List Int := (List.range n).map fun (j : Nat) => k + (j : Int)
def markG (k : Int) (n : Nat) : List Gt := (List.range n).map fun (j : Nat) => ⟨k + 3 * (j : Int), k + 3 * (j : Int) + 1, k + 3 * (j : Int) + 2⟩
theorem take_set_succ {α : Type} {m : List α} {j : Nat} {x : α} (h : j < m.length) : (m.set j x).take (j + 1) = m.take j ++ [x] := by
  rw [List.take_succ_eq_append_getElem (by simpa using h), List.take_set_of_le (Nat.le_refl _), List.getElem_set_self]
theorem markI_step {m : List Int} {k x : Int} {j : Nat} (h : m.take j = markI k j) (hj : j < m.length) (hx : x = k + (j : Int)) : (m.set j x).take (j + 1) = markI k (j + 1) := by
  rw [take_set_succ hj, h, markI, markI, List.range_succ, List.map_append, hx]; rfl
theorem markG_step {m : List Gt} {k : Int} {x : Gt} {j : Nat} (h : m.take j = markG k j) (hj : j < m.length) (h1 : x.k = k + 3 * (j : Int)) (h2 : x.a = k + 3 * (j : Int) + 1) (h3 : x.b = k + 3 * (j : Int) + 2) : (m.set j x).take (j + 1) = markG k (j + 1) := by
  have hx : x = ⟨k + 3 * (j : Int), k + 3 * (j : Int) + 1, k + 3 * (j : Int) + 2⟩ := by cases x; simp at h1 h2 h3; simp [h1, h2, h3]
  rw [take_set_succ hj, h, markG, markG, List.range_succ, List.map_append, hx]; rfl
theorem markI_len (k : Int) (n : Nat) : (markI k n).length = n := by simp [markI]
theorem set_get {α : Type} {m : List α} {j : Nat} {x : α} (h : j < m.length) : (m.set j x)[j]? = some x := List.getElem?_set_self h
def heldI : List Int → Int → Int
  | [], k => k
  | x :: l, k => if x = k then heldI l (k + 1) else -1
def heldG : List Gt → Int → Int
  | [], k => k
  | x :: l, k => if x.k = k ∧ x.a = k + 1 ∧ x.b = k + 2 then heldG l (k + 3) else -1
theorem drop_at {α : Type} {l : List α} {j : Nat} {u : α} (h : l[j]? = some u) : l.drop j = u :: l.drop (j + 1) := by
  obtain ⟨h1, h2⟩ := List.getElem?_eq_some_iff.1 h
  rw [List.drop_eq_getElem_cons h1, h2]
theorem heldI_get {l : List Int} {j : Nat} {u k : Int} (h : l[j]? = some u) : heldI (l.drop j) k = if u = k then heldI (l.drop (j + 1)) (k + 1) else -1 := by rw [drop_at h]; rfl
theorem heldI_end {l : List Int} {j : Nat} {k : Int} (h : l.length ≤ j) : heldI (l.drop j) k = k := by rw [List.drop_of_length_le h]; rfl
theorem markI_cons (k : Int) (n : Nat) : markI k (n + 1) = k :: markI (k + 1) n := by
  unfold markI
  rw [List.range_succ_eq_map, List.map_cons, List.map_map]
  congr 1
  · simp
  · apply List.map_congr_left
    intro j _
    simp; omega
theorem heldI_mark : ∀ (n : Nat) (k : Int), heldI (markI k n) k = k + (n : Int)
  | 0, k => by simp [markI, heldI]
  | n + 1, k => by rw [markI_cons, heldI, if_pos rfl, heldI_mark n]; push_cast; omega
end Go.Proofs.YtfgnmflfiobkmaaGreat
namespace Go.Proofs.YtfgnmflfiobkmaaGreat
open Go.RowKit
theorem dOk_iff {x : Dy} : dOk x = true ↔ rOk x.num = true ∧ (0 ≤ x.exp ∧ x.exp ≤ 60) ∧ (x.exp = 0 ∨ rEven x.num = false) := by
  simp only [dOk, Bool.and_eq_true, inR_iff, Bool.or_eq_true, beq_iff_eq, Bool.not_eq_true', and_assoc]
theorem dLow_ok : ∀ (m : Nat) (x : Rg), rOk x = true → m ≤ 60 → dOk (dLow x m) = true
  | 0, x, h, _ => by
    rw [dLow_stop (by omega)]
    exact dOk_iff.2 ⟨h, by simp, .inl rfl⟩
  | m + 1, x, h, hm => by
    by_cases he : rEven x = true
    · rw [dLow_step (by omega) he, show ((m + 1 : Nat) : Int) - 1 = (m : Int) from by omega]
      exact dLow_ok m _ (rHalf_ok h) (by omega)
    · have he' : rEven x = false := by simpa using he
      rw [dLow_stop fun _ => he']
      exact dOk_iff.2 ⟨h, by dsimp only; omega, .inr he'⟩
theorem dLow_okI {x : Rg} {e : Int} (h : rOk x = true) (h0 : 0 ≤ e) (h1 : e ≤ 60) : dOk (dLow x e) = true := by
  obtain ⟨m, rfl⟩ : ∃ m : Nat, e = m := ⟨e.toNat, by omega⟩
  exact dLow_ok m x h (by omega)
def Agree (o : Option Dy) (p : Bool × Dy) : Prop := (∀ z, o = some z → p = (false, z) ∧ dOk z = true) ∧ (o = none → p.1 = true)
theorem rIf2_one {x y z : Rg} (hx : rOk x = true) (hy : rOk y = true) : rIf2 z [x, y] = rOk z := by simp [rIf2, hx, hy]
theorem rIf2_self {x z : Rg} (hx : rOk x = true) : rIf2 z [x] = rOk z := by simp [rIf2, hx]
theorem agree_mul {x y : Dy} (hx : dOk x = true) (hy : dOk y = true) : Agree (dMulI x y) (sMul false x y) := by
  have kx := dOk_iff.1 hx
  have ky := dOk_iff.1 hy
  unfold dMulI sMul
  rw [hx, hy, rIf2_one kx.1 ky.1, rIf1, rIf2_one kx.1 ky.1, Bool.true_and, Bool.true_and]
  by_cases hr : rOk (rMul x.num y.num) = true
  · rw [if_pos hr, if_pos hr]
    unfold dOf
    rw [hr, Bool.true_and]
    by_cases he : 60 < x.exp + y.exp
    · have h1 : ¬ inR (x.exp + y.exp) 0 60 = true := fun h => by have := inR_iff.1 h; omega
      rw [if_neg h1, if_pos he]
      exact ⟨fun z h => (by cases h), fun _ => rfl⟩
    · have h1 : inR (x.exp + y.exp) 0 60 = true := inR_iff.2 (by omega)
      rw [if_pos h1, if_neg he, sRing, if_pos hr]
      exact ⟨fun z h => (by injection h with h; subst h; exact ⟨rfl, dLow_okI hr (by omega) (by omega)⟩), fun h => by cases h⟩
  · have hr' : rOk (rMul x.num y.num) = false := by simpa using hr
    rw [if_neg hr]
    refine ⟨fun z h => (by cases h), fun _ => ?_⟩
    by_cases he : 60 < x.exp + y.exp
    · rw [if_pos he]
    · rw [if_neg he, hr']; rfl
theorem sRaise_exp : ∀ (n : Nat) (f : Bool) (x : Dy), (sRaiseN n f x).2.exp = x.exp + n
  | 0, f, x => by simp [sRaiseN]
  | n + 1, f, x => by rw [sRaiseN, sRaise_exp n]; dsimp only; omega
theorem sRaise_bad : ∀ (n : Nat) (x : Dy), (sRaiseN n true x).1 = true
  | 0, x => rfl
  | n + 1, x => by rw [sRaiseN]; exact sRaise_bad n _
theorem sRaise_good : ∀ (n : Nat) (x : Dy), rOk x.num = true → (raiseI n x.num).2 = true → sRaiseN n false x = (false, ⟨(raiseI n x.num).1, x.exp + n⟩) ∧ rOk (raiseI n x.num).1 = true
  | 0, x, h, _ => ⟨by simp [sRaiseN, raiseI], h⟩
  | n + 1, x, h, hr => by
    unfold raiseI at hr ⊢
    rw [rIf2_self h] at hr ⊢
    by_cases h1 : rOk (rRoot x.num) = true
    · rw [if_pos h1] at hr ⊢
      rw [sRaiseN, h1, sRing, if_pos h1]
      have := sRaise_good n ⟨rRoot x.num, x.exp + 1⟩ h1 hr
      refine ⟨?_, this.2⟩
      simp only [Bool.not_true, Bool.or_false]
      rw [this.1]
      dsimp only
      congr 2
      omega
    · rw [if_neg h1] at hr
      cases hr
theorem sRaise_none : ∀ (n : Nat) (x : Dy), rOk x.num = true → (raiseI n x.num).2 = false → (sRaiseN n false x).1 = true
  | 0, x, h, hr => by cases hr
  | n + 1, x, h, hr => by
    unfold raiseI at hr
    rw [rIf2_self h] at hr
    by_cases h1 : rOk (rRoot x.num) = true
    · rw [if_pos h1] at hr
      rw [sRaiseN, h1, sRing, if_pos h1]
      simp only [Bool.not_true, Bool.or_false]
      exact sRaise_none n ⟨rRoot x.num, x.exp + 1⟩ h1 hr
    · have h2 : rOk (rRoot x.num) = false := by simpa using h1
      rw [sRaiseN, h2]
      exact sRaise_bad n _
theorem agree_add {x y : Dy} (hx : dOk x = true) (hy : dOk y = true) : Agree (dAddI x y) (sAdd false x y) := by
  have kx := dOk_iff.1 hx
  have ky := dOk_iff.1 hy
  obtain ⟨m, hm⟩ : ∃ m, m = max x.exp y.exp := ⟨_, rfl⟩
  have e1 : (m - x.exp).toNat = (y.exp - x.exp).toNat := by omega
  have e3 : x.exp + ((y.exp - x.exp).toNat : Int) = m := by omega
  have ed1 : dRaise x m = raiseI (y.exp - x.exp).toNat x.num := by rw [dRaise, e1]
  unfold dAddI sAdd
  rw [hx, hy, Bool.and_self, if_pos rfl, ← hm, sRaise_exp, e3]
  cases h1 : (dRaise x m).2 with
  | false =>
    have hb := sRaise_none _ x kx.1 (by rw [← ed1]; exact h1)
    rw [hb, sRaise_bad]
    simp only [Bool.false_and, Bool.false_eq_true, if_false, Bool.true_or]
    exact ⟨fun z h => (by cases h), fun _ => rfl⟩
  | true =>
    obtain ⟨g1, g2⟩ := sRaise_good _ x kx.1 (by rw [← ed1]; exact h1)
    rw [g1]
    rw [← ed1] at g2 ⊢
    dsimp only
    have ed2 : dRaise y m = raiseI (m - y.exp).toNat y.num := rfl
    cases h2 : (dRaise y m).2 with
    | false =>
      have hb := sRaise_none _ y ky.1 (by rw [← ed2]; exact h2)
      rw [hb]
      simp only [Bool.and_false, Bool.false_and, Bool.false_eq_true, if_false, Bool.true_or]
      exact ⟨fun z h => (by cases h), fun _ => rfl⟩
    | true =>
      obtain ⟨k1, k2⟩ := sRaise_good _ y ky.1 (by rw [← ed2]; exact h2)
      rw [k1]
      rw [← ed2] at k2 ⊢
      dsimp only
      rw [rIf2_one g2 k2, rIf1, rIf2_one g2 k2, Bool.true_and, Bool.true_and, Bool.false_or]
      by_cases hr : rOk (rAdd (dRaise x m).1 (dRaise y m).1) = true
      · have h3 : inR m 0 60 = true := inR_iff.2 (by omega)
        rw [if_pos hr, if_pos hr, dOf, hr, h3, sRing, if_pos hr]
        exact ⟨fun z h => (by simp only [Bool.and_self, if_true] at h; injection h with h; subst h; exact ⟨rfl, dLow_okI hr (by omega) (by omega)⟩), fun h => by simp at h⟩
      · have hr' : rOk (rAdd (dRaise x m).1 (dRaise y m).1) = false := by simpa using hr
        rw [if_neg hr, hr']
        exact ⟨fun z h => (by cases h), fun _ => rfl⟩
def dotS (f : Bool) (a b : Mx) (i j : Nat) : Nat → Bool × Dy
  | 0 => (f, dZ)
  | n + 1 => if (dotS f a b i j n).1 = true then dotS f a b i j n else
      sAdd (sMul false (a.at i n) (b.at n j)).1 (dotS f a b i j n).2 (sMul false (a.at i n) (b.at n j)).2
theorem dotS_bad {f : Bool} {a b : Mx} {i j n : Nat} (h : (dotS f a b i j n).1 = true) : ∀ m, n ≤ m → dotS f a b i j m = dotS f a b i j n
  | 0, h' => by obtain rfl : n = 0 := by omega
                rfl
  | m + 1, h' => by
    by_cases hm : n = m + 1
    · subst hm; rfl
    · rw [dotS, dotS_bad h m (by omega), if_pos h]
theorem dotS_true (a b : Mx) (i j n : Nat) : dotS true a b i j n = (true, dZ) := dotS_bad (n := 0) rfl n (Nat.zero_le _)
theorem dZ_ok : dOk dZ = true := by decide
theorem sAdd_bad (x y : Dy) : (sAdd true x y).1 = true := by
  unfold sAdd
  rw [show (sRaiseN (y.exp - x.exp).toNat true x).1 = true from sRaise_bad _ _, sRaise_bad]
  rfl
def AllOk (m : Mx) : Prop := ∀ x ∈ m.cells, dOk x = true
theorem Mx.at_ok {m : Mx} (h : AllOk m) (i j : Nat) : dOk (m.at i j) = true := by
  unfold Mx.at
  rw [List.getD_eq_getElem?_getD]
  cases hx : m.cells[i * m.cols.toNat + j]? with
  | none => exact dZ_ok
  | some x => exact h x (List.mem_of_getElem? hx)
theorem agree_dot {a b : Mx} (ha : AllOk a) (hb : AllOk b) (i j : Nat) : ∀ n, Agree (dotI a b i j n) (dotS false a b i j n)
  | 0 => ⟨fun z h => (by injection h with h; subst h; exact ⟨rfl, dZ_ok⟩), fun h => by cases h⟩
  | n + 1 => by
    have ih := agree_dot ha hb i j n
    have hm := agree_mul (Mx.at_ok ha i n) (Mx.at_ok hb n j)
    unfold dotI dotS
    cases h1 : dotI a b i j n with
    | none =>
      have h2 := ih.2 h1
      rw [if_pos h2]
      exact ⟨fun z h => (by cases h), fun _ => h2⟩
    | some s =>
      obtain ⟨h2, h3⟩ := ih.1 s h1
      rw [h2]
      simp only [Bool.false_eq_true, if_false, Option.bind_some]
      cases h4 : dMulI (a.at i n) (b.at n j) with
      | none =>
        rw [hm.2 h4]
        exact ⟨fun z h => (by cases h), fun _ => sAdd_bad _ _⟩
      | some x =>
        obtain ⟨h5, h6⟩ := hm.1 x h4
        rw [h5]
        exact agree_add h3 h6
def timesL (f : Bool) (a b : Mx) : Nat → Bool × List Dy
  | 0 => (f, [])
  | n + 1 => ((dotS (timesL f a b n).1 a b (n / b.cols.toNat) (n % b.cols.toNat) a.cols.toNat).1, (timesL f a b n).2 ++ [(dotS (timesL f a b n).1 a b (n / b.cols.toNat) (n % b.cols.toNat) a.cols.toNat).2])
def timesS (f : Bool) (a b : Mx) : Bool × Mx := ((timesL f a b (a.rows.toNat * b.cols.toNat)).1, ⟨a.rows, b.cols, (timesL f a b (a.rows.toNat * b.cols.toNat)).2⟩)
theorem timesL_len (f : Bool) (a b : Mx) : ∀ n, (timesL f a b n).2.length = n
  | 0 => rfl
  | n + 1 => by simp [timesL, timesL_len f a b n]
theorem timesL_step {f : Bool} {a b : Mx} {i j : Nat} (hj : j < b.cols.toNat) : timesL f a b (i * b.cols.toNat + (j + 1)) = ((dotS (timesL f a b (i * b.cols.toNat + j)).1 a b i j a.cols.toNat).1, (timesL f a b (i * b.cols.toNat + j)).2 ++ [(dotS (timesL f a b (i * b.cols.toNat + j)).1 a b i j a.cols.toNat).2]) := by
  have h1 : (i * b.cols.toNat + j) / b.cols.toNat = i := by rw [Nat.mul_comm, Nat.mul_add_div (by omega), Nat.div_eq_of_lt hj]; omega
  have h2 : (i * b.cols.toNat + j) % b.cols.toNat = j := by rw [Nat.mul_comm, Nat.mul_add_mod, Nat.mod_eq_of_lt hj]
  rw [show i * b.cols.toNat + (j + 1) = (i * b.cols.toNat + j) + 1 from rfl, timesL, h1, h2]
theorem agree_times {a b : Mx} (ha : AllOk a) (hb : AllOk b) : ∀ n, (∀ l, seqO (gridG (fun i j => dotI a b i j a.cols.toNat) b.cols.toNat) n = some l → timesL false a b n = (false, l) ∧ ∀ x ∈ l, dOk x = true) ∧
    (seqO (gridG (fun i j => dotI a b i j a.cols.toNat) b.cols.toNat) n = none → (timesL false a b n).1 = true)
  | 0 => ⟨fun l h => (by injection h with h; subst h; exact ⟨rfl, fun x hx => by cases hx⟩), fun h => by cases h⟩
  | n + 1 => by
    have ih := agree_times ha hb n
    have hd := agree_dot ha hb (n / b.cols.toNat) (n % b.cols.toNat) a.cols.toNat
    unfold seqO timesL
    cases h1 : seqO (gridG (fun i j => dotI a b i j a.cols.toNat) b.cols.toNat) n with
    | none =>
      rw [ih.2 h1, dotS_true]
      exact ⟨fun l h => (by cases h), fun _ => rfl⟩
    | some l =>
      obtain ⟨h2, h3⟩ := ih.1 l h1
      rw [h2]
      dsimp only
      rw [show gridG (fun i j => dotI a b i j a.cols.toNat) b.cols.toNat n = dotI a b (n / b.cols.toNat) (n % b.cols.toNat) a.cols.toNat from rfl]
      cases h4 : dotI a b (n / b.cols.toNat) (n % b.cols.toNat) a.cols.toNat with
      | none => exact ⟨fun l h => (by cases h), fun _ => hd.2 h4⟩
      | some x =>
        obtain ⟨h5, h6⟩ := hd.1 x h4
        rw [h5]
        refine ⟨fun l' h => ?_, fun h => by cases h⟩
        injection h with h
        subst h
        exact ⟨rfl, fun y hy => by
          rcases List.mem_append.1 hy with hy | hy
          · exact h3 y hy
          · rw [List.mem_singleton.1 hy]; exact h6⟩
end Go.Proofs.YtfgnmflfiobkmaaGreat
namespace Go.Proofs.YtfgnmflfiobkmaaGreat
open Go.RowKit
theorem mOk_all {m : Mx} (h : mOk m = true) : AllOk m := by
  simp only [mOk, Bool.and_eq_true, Bool.not_eq_true', List.any_eq_false] at h
  intro x hx
  have := h.2 x hx
  simpa using this
theorem mOk_dims {m : Mx} (h : mOk m = true) : isDimB m.rows = true ∧ isDimB m.cols = true := by
  simp only [mOk, Bool.and_eq_true] at h
  exact ⟨h.1.1.1, h.1.1.2⟩
theorem mOk_mk {m : Mx} (hr : isDimB m.rows = true) (hc : isDimB m.cols = true) (hl : m.cells.length = m.rows.toNat * m.cols.toNat) (ha : AllOk m) : mOk m = true := by
  have h1 := isDimB_iff hr
  have h2 := isDimB_iff hc
  have h3 : (m.cells.any fun x => !dOk x) = false := by
    rw [List.any_eq_false]
    intro x hx
    simp [ha x hx]
  have h4 : wr (m.rows * m.cols) = (m.cells.length : Int) := by
    obtain ⟨r, hr⟩ : ∃ r : Nat, m.rows = r := ⟨m.rows.toNat, by omega⟩
    obtain ⟨c, hc⟩ : ∃ c : Nat, m.cols = c := ⟨m.cols.toNat, by omega⟩
    rw [hr] at h1
    rw [hc] at h2
    rw [hl, hr, hc]
    have h5 : r * c ≤ 32 * 32 := Nat.mul_le_mul (by omega) (by omega)
    rw [← Int.natCast_mul, wr_in (by omega) (by omega)]
    simp
  unfold mOk
  rw [hr, hc, h3, h4]
  simp
theorem isDim_pow {n : Int} (h : 1 ≤ n ∧ n ≤ 5) : isDimB ((2 ^ n.toNat : Nat) : Int) = true := by
  have : n = 1 ∨ n = 2 ∨ n = 3 ∨ n = 4 ∨ n = 5 := by omega
  rcases this with rfl | rfl | rfl | rfl | rfl <;> decide
theorem mul_agree {a b : Mx} (ha : mOk a = true) (hb : mOk b = true) (hab : a.cols = b.rows) : (∀ m, mulI a b = some m → timesS false a b = (false, m) ∧ mOk m = true ∧ m.rows = a.rows ∧ m.cols = b.cols) ∧ (mulI a b = none → (timesS false a b).1 = true) := by
  have hd1 := (mOk_dims ha).1
  have hd2 := (mOk_dims hb).2
  have h := agree_times (mOk_all ha) (mOk_all hb) (a.rows.toNat * b.cols.toNat)
  unfold mulI matOf timesS
  rw [ha, hb, hd1, hd2, if_pos (by simp [hab]), if_pos (show (true && true) = true from rfl)]
  cases h1 : seqO (gridG (fun i j => dotI a b i j a.cols.toNat) b.cols.toNat) (a.rows.toNat * b.cols.toNat) with
  | none => exact ⟨fun m h => (by cases h), fun _ => h.2 h1⟩
  | some l =>
    obtain ⟨h2, h3⟩ := h.1 l h1
    rw [h2]
    refine ⟨fun m hm => ?_, fun hm => by cases hm⟩
    injection hm with hm
    subst hm
    exact ⟨rfl, mOk_mk hd1 hd2 (seqO_len h1) h3, rfl, rfl⟩
theorem seqO_some {f : Nat → Dy} : ∀ n, seqO (fun m => some (f m)) n = some ((List.range n).map f)
  | 0 => rfl
  | n + 1 => by simp [seqO, seqO_some n, List.range_succ]
theorem matOf_some {R C : Int} (hR : isDimB R = true) (hC : isDimB C = true) (f : Nat → Nat → Dy) : matOf R C (fun i j => some (f i j)) = some ⟨R, C, gridL f C.toNat (R.toNat * C.toNat)⟩ := by
  unfold matOf
  rw [hR, hC, if_pos (show (true && true) = true from rfl)]
  have : gridG (fun i j => some (f i j)) C.toNat = fun m => some (gridF f C.toNat m) := rfl
  rw [this, seqO_some]
  rfl
theorem gridL_congr {f g : Nat → Nat → Dy} {R C : Nat} (h : ∀ i j, i < R → j < C → f i j = g i j) : gridL f C (R * C) = gridL g C (R * C) := by
  unfold gridL
  refine List.map_congr_left fun m hm => ?_
  have hm' := List.mem_range.1 hm
  have hC : 0 < C := by
    rcases Nat.eq_zero_or_pos C with h0 | h0
    · subst h0; simp at hm'
    · exact h0
  exact h _ _ (Nat.div_lt_of_lt_mul (by rw [Nat.mul_comm]; exact hm')) (Nat.mod_lt _ hC)
theorem gridL_mem {f : Nat → Nat → Dy} {R C : Nat} {x : Dy} (h : x ∈ gridL f C (R * C)) : ∃ i j, i < R ∧ j < C ∧ x = f i j := by
  unfold gridL at h
  obtain ⟨m, hm, rfl⟩ := List.mem_map.1 h
  have hm' := List.mem_range.1 hm
  have hC : 0 < C := by
    rcases Nat.eq_zero_or_pos C with h0 | h0
    · subst h0; simp at hm'
    · exact h0
  exact ⟨_, _, Nat.div_lt_of_lt_mul (by rw [Nat.mul_comm]; exact hm'), Nat.mod_lt _ hC, rfl⟩
def unitS (d : Nat) : Mx := ⟨(d : Int), (d : Int), gridL (fun i j => if i = j then dPow 0 else dZ) d (d * d)⟩
theorem idI_unit {d : Nat} (h : isDimB (d : Int) = true) : idI (d : Int) = some (unitS d) ∧ mOk (unitS d) = true := by
  refine ⟨?_, ?_⟩
  · unfold idI
    rw [matOf_some h h (fun i j => if i = j then ⟨⟨1, 0, 0, 0⟩, 0⟩ else dZ)]
    rfl
  · refine mOk_mk h h (by simp [unitS, gridL_len]) fun x hx => ?_
    obtain ⟨i, j, _, _, rfl⟩ := gridL_mem hx
    split
    · rfl
    · rfl
def bitT (p s : Nat) : Int := bits .and .i64 ((s : Int) / 2 ^ p) 1
def flipT (p s : Nat) : Int := bits .xor .i64 (s : Int) (wr (1 * 2 ^ p))
def chkBits : Bool := (List.range 5).all fun p => (List.range 32).all fun s =>
  let f := flipT p s
  Nat.blt f.toNat 32 && f == (f.toNat : Int) && flipT p f.toNat == (s : Int) && (bitT p f.toNat == 1 - bitT p s) && (bitT p s == 0 || bitT p s == 1) &&
  (List.range 5).all (fun q => (q == p) || bitT q f.toNat == bitT q s) &&
  (List.range 5).all (fun q => let g := flipT q s; flipT p g.toNat == flipT q f.toNat) &&
  (List.range 32).all fun t => (((t : Int) == s || f == (t : Int)) == (bits .andNot .i64 (bits .xor .i64 (s : Int) (t : Int)) (wr (1 * 2 ^ p)) == 0))
theorem chkBits_true : chkBits = true := by kernel_rfl
def chkSmall : Bool := (List.range 6).all fun n => (List.range n).all fun q => (List.range (2 ^ n)).all fun s => Nat.blt (flipT (n - 1 - q) s).toNat (2 ^ n)
theorem chkSmall_true : chkSmall = true := by kernel_rfl
structure BitsOk (p s : Nat) : Prop where
  nat : flipT p s = ((flipT p s).toNat : Int)
  lt : (flipT p s).toNat < 32
  back : flipT p (flipT p s).toNat = (s : Int)
  bit : bitT p (flipT p s).toNat = 1 - bitT p s
  other : ∀ q < 5, q ≠ p → bitT q (flipT p s).toNat = bitT q s
  comm : ∀ q < 5, flipT p (flipT q s).toNat = flipT q (flipT p s).toNat
  sel : ∀ t : Nat, t < 32 → (((t : Int) = s ∨ flipT p s = (t : Int)) ↔ bits .andNot .i64 (bits .xor .i64 (s : Int) (t : Int)) (wr (1 * 2 ^ p)) = 0)
theorem bitsOk {p s : Nat} (hp : p < 5) (hs : s < 32) : BitsOk p s := by
  have h := chkBits_true
  simp only [chkBits, List.all_eq_true, List.mem_range] at h
  have h := h p hp s hs
  simp only [Bool.and_eq_true, List.all_eq_true, List.mem_range, beq_iff_eq, Bool.or_eq_true, Nat.blt_eq] at h
  obtain ⟨⟨⟨⟨⟨⟨⟨h1, h2⟩, h3⟩, h4⟩, _⟩, h6⟩, h7⟩, h8⟩ := h
  refine ⟨h2, h1, h3, h4, fun q hq hne => (h6 q hq).resolve_left hne, h7, fun t ht => ?_⟩
  have h9 := h8 t ht
  rw [Bool.eq_iff_iff] at h9
  simpa using h9
theorem flip_small {n q s : Nat} (hn : n ≤ 5) (hq : q < n) (hs : s < 2 ^ n) : (flipT (n - 1 - q) s).toNat < 2 ^ n := by
  have h := chkSmall_true
  simp only [chkSmall, List.all_eq_true, List.mem_range] at h
  have h := h n (by omega) q hq s hs
  simpa [Nat.blt_eq] using h
theorem bitF_T {n q : Int} (s : Nat) : bitF n (s : Int) q = bitT (n - 1 - q).toNat s := rfl
theorem flipF_T {n q : Int} (s : Nat) : flipF n (s : Int) q = flipT (n - 1 - q).toNat s := rfl
theorem toNat_sub {n q : Int} (hq : 0 ≤ q) (hqn : q < n) : (n - 1 - q).toNat = n.toNat - 1 - q.toNat := by omega
theorem toS_nat {n : Int} {g : Gt} (hg : gOk n g = true) {s : Nat} (hs : s < 2 ^ n.toNat) (hk : 9 ≤ g.k ∧ g.k ≤ 11) : ∃ t : Nat, t < 2 ^ n.toNat ∧ toS n g s = (t : Int) ∧ toS n g t = (s : Int) ∧ (g.k = 10 → t = s) := by
  obtain ⟨hn, hk0, ha, hb⟩ := gOk_spec hg
  have ha := ha (by omega)
  have hb := hb hk
  have h32 : 2 ^ n.toNat ≤ 32 := pow_le32 hn.2
  obtain ⟨p, hp⟩ : ∃ p, p = (n - 1 - g.a).toNat := ⟨_, rfl⟩
  obtain ⟨q, hq⟩ : ∃ q, q = (n - 1 - g.b).toNat := ⟨_, rfl⟩
  have hp5 : p < 5 := by omega
  have hq5 : q < 5 := by omega
  have hpq : p ≠ q := by omega
  have hsm : ∀ s, s < 2 ^ n.toNat → (flipT p s).toNat < 2 ^ n.toNat := fun s hs => by
    rw [hp, toNat_sub (by omega) (by omega)]
    exact flip_small (by omega) (by omega) hs
  have hsm2 : ∀ s, s < 2 ^ n.toNat → (flipT q s).toNat < 2 ^ n.toNat := fun s hs => by
    rw [hq, toNat_sub (by omega) (by omega)]
    exact flip_small (by omega) (by omega) hs
  unfold toS
  simp only [bitF_T, flipF_T, ← hp, ← hq]
  have Bp := bitsOk (p := p) (s := s) hp5 (by omega)
  have Bq := bitsOk (p := q) (s := s) hq5 (by omega)
  by_cases h9 : g.k = 9
  · simp only [h9, if_true]
    by_cases hb1 : bitT p s = 1
    · refine ⟨(flipT q s).toNat, hsm2 s hs, by rw [if_pos hb1]; exact Bq.nat, ?_, by omega⟩
      rw [if_pos (by rw [Bq.other p hp5 hpq]; exact hb1)]
      exact Bq.back
    · exact ⟨s, hs, by rw [if_neg hb1], by rw [if_neg hb1], by omega⟩
  · simp only [h9, if_false]
    by_cases h11 : g.k = 11
    · simp only [h11, if_true]
      by_cases hb1 : bitT p s = bitT q s
      · exact ⟨s, hs, by rw [if_neg (by simpa using hb1)], by rw [if_neg (by simpa using hb1)], by omega⟩
      · have Bf := bitsOk (p := q) (s := (flipT p s).toNat) hq5 Bp.lt
        have Bg := bitsOk (p := p) (s := (flipT q (flipT p s).toNat).toNat) hp5 Bf.lt
        have e1 : flipF n (flipT p s) g.b = flipT q (flipT p s).toNat := by rw [Bp.nat, flipF_T, ← hq, Int.toNat_natCast]
        refine ⟨(flipT q (flipT p s).toNat).toNat, hsm2 _ (hsm _ hs), ?_, ?_, by omega⟩
        · rw [if_pos hb1, e1]; exact Bf.nat
        · have e2 : bitT p (flipT q (flipT p s).toNat).toNat = 1 - bitT p s := by rw [Bf.other p hp5 hpq, Bp.bit]
          have e3 : bitT q (flipT q (flipT p s).toNat).toNat = 1 - bitT q s := by rw [Bf.bit, Bp.other q hq5 (Ne.symm hpq)]
          have e4 : flipT p (flipT q (flipT p s).toNat).toNat = flipT q (flipT p (flipT p s).toNat).toNat := (bitsOk (p := p) (s := (flipT p s).toNat) hp5 Bp.lt).comm q hq5
          rw [if_pos (by rw [e2, e3]; omega), e4, Bp.back, Int.toNat_natCast, Bq.nat, flipF_T, ← hq, Bq.back]
    · exact ⟨s, hs, by rw [if_neg h11], by rw [if_neg h11], fun _ => rfl⟩
theorem oneL_at {k : Int} (h : 1 ≤ k ∧ k ≤ 8) {i j : Int} (hi : i = 0 ∨ i = 1) (hj : j = 0 ∨ j = 1) : (oneL k).getD (2 * i + j).toNat dZ = entryI k i j := by
  have : k = 1 ∨ k = 2 ∨ k = 3 ∨ k = 4 ∨ k = 5 ∨ k = 6 ∨ k = 7 ∨ k = 8 := by omega
  rcases this with rfl | rfl | rfl | rfl | rfl | rfl | rfl | rfl <;> rcases hi with rfl | rfl <;> rcases hj with rfl | rfl <;> rfl
theorem cell_eq {n : Int} {g : Gt} (hg : gOk n g = true) {i j : Nat} (hi : i < 2 ^ n.toNat) (hj : j < 2 ^ n.toNat) : cellI n g i j = cellS n g i j := by
  obtain ⟨hn, hk0, ha, hb⟩ := gOk_spec hg
  have h32 : 2 ^ n.toNat ≤ 32 := pow_le32 hn.2
  unfold cellI cellS
  by_cases h12 : g.k = 12
  · rw [if_pos h12, if_neg (show ¬ g.k ≤ 8 by omega)]
    have e1 : toS n g j = j := by unfold toS; rw [if_neg (show ¬ g.k = 9 by omega), if_neg (show ¬ g.k = 11 by omega)]
    rw [e1]
    by_cases hij : (i : Int) = j
    · rw [if_pos hij, if_pos hij, valS, if_pos h12]
    · rw [if_neg hij, if_neg hij]
  · rw [if_neg h12]
    by_cases h2 : 9 ≤ g.k ∧ g.k ≤ 11
    · rw [if_pos (inR_iff.2 h2), if_neg (show ¬ g.k ≤ 8 by omega)]
      obtain ⟨t, ht, e1, e2, e3⟩ := toS_nat hg hi h2
      obtain ⟨t', ht', e1', e2', e3'⟩ := toS_nat hg hj h2
      by_cases hij : toS n g i = j
      · have hts : (i : Int) = toS n g j := by rw [← e2, ← e1, hij]
        rw [if_pos hij, if_pos hts, valS, if_neg h12]
        by_cases h10 : g.k = 10
        · have hij2 : i = j := by rw [e1] at hij; have := e3 h10; omega
          subst hij2
          by_cases hc : bitF n i g.a = 1 ∧ bitF n i g.b = 1
          · rw [if_pos (by simp [czI, h10, hc]), if_pos ⟨h10, hc⟩]; rfl
          · have hc' : ¬ czI n g i = true := by simp only [czI, h10, Bool.and_eq_true, beq_iff_eq, true_and, and_assoc]; exact hc
            rw [if_neg hc', if_neg (fun h => hc h.2)]; rfl
        · have hc' : ¬ czI n g i = true := by simp [czI, h10]
          rw [if_neg hc', if_neg (fun h => h10 h.1)]; rfl
      · have hts : ¬ (i : Int) = toS n g j := fun h => by
          rw [e1'] at h
          have h : i = t' := by omega
          subst h
          exact hij e2'
        rw [if_neg hij, if_neg hts]
    · have h8 : g.k ≤ 8 := by omega
      have ha := ha h12
      rw [if_neg (fun h => h2 (inR_iff.1 h)), if_pos h8]
      have B := bitsOk (p := (n - 1 - g.a).toNat) (s := i) (by omega) (by omega)
      have hs := B.sel j (by omega)
      rw [flipF_T]
      have e0 : ((i : Int) = j ∨ flipT (n - 1 - g.a).toNat i = (j : Int)) ↔ ((j : Int) = i ∨ flipT (n - 1 - g.a).toNat i = (j : Int)) := by
        constructor <;> rintro (h | h) <;> first | exact .inl h.symm | exact .inr h
      by_cases hz : bits .andNot .i64 (bits .xor .i64 (i : Int) (j : Int)) (wr (1 * 2 ^ (n - 1 - g.a).toNat)) = 0
      · rw [if_pos (e0.2 (hs.2 hz)), if_neg (fun h => h hz)]
        exact (oneL_at ⟨hk0.1, h8⟩ (bitF_01 _ _ _) (bitF_01 _ _ _)).symm
      · rw [if_neg (fun h => hz (hs.1 (e0.1 h))), if_pos hz]
theorem entry_ok {k : Int} (h : 1 ≤ k ∧ k ≤ 8) {i j : Int} (hi : i = 0 ∨ i = 1) (hj : j = 0 ∨ j = 1) : dOk (entryI k i j) = true := by
  have : k = 1 ∨ k = 2 ∨ k = 3 ∨ k = 4 ∨ k = 5 ∨ k = 6 ∨ k = 7 ∨ k = 8 := by omega
  rcases this with rfl | rfl | rfl | rfl | rfl | rfl | rfl | rfl <;> rcases hi with rfl | rfl <;> rcases hj with rfl | rfl <;> rfl
theorem cell_ok {n : Int} {g : Gt} (hg : gOk n g = true) (i j : Int) : dOk (cellI n g i j) = true := by
  obtain ⟨hn, hk0, ha, hb⟩ := gOk_spec hg
  unfold cellI
  split
  · split <;> rfl
  · split
    · split
      · split <;> rfl
      · rfl
    · rename_i h1 h2
      split
      · exact entry_ok (by have h3 : ¬ (9 ≤ g.k ∧ g.k ≤ 11) := fun h => h2 (inR_iff.2 h); omega) (bitF_01 _ _ _) (bitF_01 _ _ _)
      · rfl
theorem gate_eq {n : Int} {g : Gt} (hg : gOk n g = true) : gateI n g = some (gateS n g) ∧ mOk (gateS n g) = true := by
  have hn := (gOk_spec hg).1
  have hd := isDim_pow hn
  have he : gridL (fun i j => cellI n g i j) (2 ^ n.toNat) (2 ^ n.toNat * 2 ^ n.toNat) = gridL (fun i j => cellS n g i j) (2 ^ n.toNat) (2 ^ n.toNat * 2 ^ n.toNat) := gridL_congr fun i j hi hj => cell_eq hg hi hj
  refine ⟨?_, ?_⟩
  · unfold gateI
    rw [if_pos hg, matOf_some hd hd (fun i j => cellI n g i j)]
    simp only [Int.toNat_natCast]
    rw [he]
    rfl
  · refine mOk_mk hd hd (by simp only [gateS, gridL_len, Int.toNat_natCast]) fun x hx => ?_
    simp only [gateS] at hx
    rw [← he] at hx
    obtain ⟨i, j, _, _, rfl⟩ := gridL_mem hx
    exact cell_ok hg _ _
def applI (n : Int) : List Gt → Mx → Option Mx
  | [], m => some m
  | g :: l, m => (mulI ((gateI n g).getD mZ) m).bind (applI n l)
def runS (n : Int) (f : Bool) : List Gt → Mx → Bool × Mx
  | [], m => (f, m)
  | g :: l, m => if f = true then (f, m) else runS n (timesS false (gateS n g) m).1 l (timesS false (gateS n g) m).2
theorem runS_true (n : Int) : ∀ (l : List Gt) (m : Mx), runS n true l m = (true, m)
  | [], _ => rfl
  | _ :: _, _ => rfl
theorem run_agree {n : Int} : ∀ (l : List Gt) (m : Mx), (∀ g ∈ l, gOk n g = true) → mOk m = true → m.rows = ((2 ^ n.toNat : Nat) : Int) →
    (∀ m', applI n l m = some m' → runS n false l m = (false, m') ∧ mOk m' = true ∧ m'.rows = ((2 ^ n.toNat : Nat) : Int)) ∧ (applI n l m = none → (runS n false l m).1 = true)
  | [], m, _, hm, hr => ⟨fun m' h => (by injection h with h; subst h; exact ⟨rfl, hm, hr⟩), fun h => by cases h⟩
  | g :: l, m, hg, hm, hr => by
    obtain ⟨h1, h2⟩ := gate_eq (hg g (by simp))
    have h3 := mul_agree h2 hm (by rw [hr]; rfl)
    unfold applI runS
    rw [h1, Option.getD_some, if_neg (by decide)]
    cases h4 : mulI (gateS n g) m with
    | none =>
      rw [h3.2 h4, runS_true]
      exact ⟨fun m' h => (by cases h), fun _ => rfl⟩
    | some m1 =>
      obtain ⟨h5, h6, h7, h8⟩ := h3.1 m1 h4
      rw [h5]
      exact run_agree l m1 (fun g hg' => hg g (by simp [hg'])) h6 (by rw [h7]; rfl)
def opI (c : Cx) : Option Mx := if cOk c = true then (idI ((2 ^ c.n.toNat : Nat) : Int)).bind (applI c.n c.gs) else none
def opS (c : Cx) : Option Mx := if cOk c = true then (if (runS c.n false c.gs (unitS (2 ^ c.n.toNat))).1 = true then none else some (runS c.n false c.gs (unitS (2 ^ c.n.toNat))).2) else none
theorem cOk_spec {c : Cx} (h : cOk c = true) : (1 ≤ c.n ∧ c.n ≤ 5) ∧ c.gs.length ≤ 400 ∧ ∀ g ∈ c.gs, gOk c.n g = true := by
  simp only [cOk, Bool.and_eq_true, inR_iff, decide_eq_true_eq, Bool.not_eq_true', List.any_eq_false] at h
  exact ⟨h.1.1, by omega, fun g hg => by simpa using h.2 g hg⟩
theorem op_eq (c : Cx) : opI c = opS c ∧ ∀ m, opS c = some m → mOk m = true ∧ m.rows = ((2 ^ c.n.toNat : Nat) : Int) := by
  unfold opI opS
  by_cases hc : cOk c = true
  · obtain ⟨hn, _, hg⟩ := cOk_spec hc
    obtain ⟨h1, h2⟩ := idI_unit (isDim_pow hn)
    have h3 := run_agree c.gs _ hg h2 rfl
    rw [if_pos hc, if_pos hc, h1, Option.bind_some]
    cases h4 : applI c.n c.gs (unitS (2 ^ c.n.toNat)) with
    | none => rw [h3.2 h4, if_pos rfl]; exact ⟨rfl, fun m h => by cases h⟩
    | some m' =>
      obtain ⟨h5, h6, h7⟩ := h3.1 m' h4
      rw [h5, if_neg (show ¬ (false = true) by decide)]
      exact ⟨rfl, fun m h => (by injection h with h; subst h; exact ⟨h6, h7⟩)⟩
  · rw [if_neg hc, if_neg hc]
    exact ⟨rfl, fun m h => by cases h⟩
end Go.Proofs.YtfgnmflfiobkmaaGreat
namespace Go.Proofs.YtfgnmflfiobkmaaGreat
open Go.RowKit
theorem rOm_ok {x : Rg} (h : rOk x = true) : rOk (rOm x) = true ∧ rOm x = ⟨-x.d, x.a, x.b, x.c⟩ := by
  rw [rOk_iff] at h
  have e : rOm x = ⟨-x.d, x.a, x.b, x.c⟩ := by unfold rOm; rw [wr_in (by omega) (by omega)]
  refine ⟨?_, e⟩
  rw [e, rOk_iff]
  dsimp only
  omega
theorem rEven_iff {x : Rg} (h : rOk x = true) : rEven x = true ↔ (x.a + x.c) % 2 = 0 ∧ (x.b + x.d) % 2 = 0 := by
  rw [rOk_iff] at h
  unfold rEven
  rw [wr_in (by omega) (by omega), wr_in (by omega) (by omega)]
  simp only [Bool.and_eq_true, beq_iff_eq]
  have key : ∀ i : Int, i.tmod 2 = 0 ↔ i % 2 = 0 := fun i => by
    rw [← Int.dvd_iff_tmod_eq_zero, ← Int.dvd_iff_emod_eq_zero]
  rw [key, key]
theorem rOm_even {x : Rg} (h : rOk x = true) : rEven (rOm x) = rEven x := by
  obtain ⟨h1, h2⟩ := rOm_ok h
  rw [Bool.eq_iff_iff, rEven_iff h1, rEven_iff h, h2]
  dsimp only
  omega
theorem rTurnN_ok : ∀ (k : Nat) (x : Rg), rOk x = true → rOk (rTurnN k x) = true ∧ rEven (rTurnN k x) = rEven x
  | 0, _, h => ⟨h, rfl⟩
  | k + 1, x, h => by
    obtain ⟨h1, h2⟩ := rTurnN_ok k (rOm x) (rOm_ok h).1
    exact ⟨h1, h2.trans (rOm_even h)⟩
theorem rTurn_ok {x : Rg} (h : rOk x = true) (k : Int) : rOk (rTurn x k) = true ∧ rEven (rTurn x k) = rEven x := rTurnN_ok _ _ h
theorem wr0 : wr 0 = 0 := rfl
theorem mul_turn {x : Rg} (h : rOk x = true) {k : Nat} (hk : k < 8) : rMul x (rTurn ⟨1, 0, 0, 0⟩ k) = rTurn x k := by
  have h' := rOk_iff.1 h
  obtain ⟨a, b, c, d⟩ := x
  dsimp only at h'
  have wa : wr a = a := wr_in (by omega) (by omega)
  have wb : wr b = b := wr_in (by omega) (by omega)
  have wc : wr c = c := wr_in (by omega) (by omega)
  have wd : wr d = d := wr_in (by omega) (by omega)
  have na : wr (-a) = -a := wr_in (by omega) (by omega)
  have nb : wr (-b) = -b := wr_in (by omega) (by omega)
  have nc : wr (-c) = -c := wr_in (by omega) (by omega)
  have nd : wr (-d) = -d := wr_in (by omega) (by omega)
  have : k = 0 ∨ k = 1 ∨ k = 2 ∨ k = 3 ∨ k = 4 ∨ k = 5 ∨ k = 6 ∨ k = 7 := by omega
  have s0 : rTurn ⟨1, 0, 0, 0⟩ ((0 : Nat) : Int) = ⟨1, 0, 0, 0⟩ := by decide
  have s1 : rTurn ⟨1, 0, 0, 0⟩ ((1 : Nat) : Int) = ⟨0, 1, 0, 0⟩ := by decide
  have s2 : rTurn ⟨1, 0, 0, 0⟩ ((2 : Nat) : Int) = ⟨0, 0, 1, 0⟩ := by decide
  have s3 : rTurn ⟨1, 0, 0, 0⟩ ((3 : Nat) : Int) = ⟨0, 0, 0, 1⟩ := by decide
  have s4 : rTurn ⟨1, 0, 0, 0⟩ ((4 : Nat) : Int) = ⟨-1, 0, 0, 0⟩ := by decide
  have s5 : rTurn ⟨1, 0, 0, 0⟩ ((5 : Nat) : Int) = ⟨0, -1, 0, 0⟩ := by decide
  have s6 : rTurn ⟨1, 0, 0, 0⟩ ((6 : Nat) : Int) = ⟨0, 0, -1, 0⟩ := by decide
  have s7 : rTurn ⟨1, 0, 0, 0⟩ ((7 : Nat) : Int) = ⟨0, 0, 0, -1⟩ := by decide
  have T : ∀ j : Nat, j < 8 → rTurn ⟨a, b, c, d⟩ (j : Int) = rTurnN j ⟨a, b, c, d⟩ := fun j hj => by
    have : (turns (j : Int)).toNat = j := by
      have : j = 0 ∨ j = 1 ∨ j = 2 ∨ j = 3 ∨ j = 4 ∨ j = 5 ∨ j = 6 ∨ j = 7 := by omega
      rcases this with rfl | rfl | rfl | rfl | rfl | rfl | rfl | rfl <;> decide
    rw [rTurn, this]
  rcases this with rfl | rfl | rfl | rfl | rfl | rfl | rfl | rfl
  · rw [T 0 (by omega), s0]; simp [rMul, rTurnN, rOm, wr0, wa, wb, wc, wd, na, nb, nc, nd]
  · rw [T 1 (by omega), s1]; simp [rMul, rTurnN, rOm, wr0, wa, wb, wc, wd, na, nb, nc, nd]
  · rw [T 2 (by omega), s2]; simp [rMul, rTurnN, rOm, wr0, wa, wb, wc, wd, na, nb, nc, nd]
  · rw [T 3 (by omega), s3]; simp [rMul, rTurnN, rOm, wr0, wa, wb, wc, wd, na, nb, nc, nd]
  · rw [T 4 (by omega), s4]; simp [rMul, rTurnN, rOm, wr0, wa, wb, wc, wd, na, nb, nc, nd]
  · rw [T 5 (by omega), s5]; simp [rMul, rTurnN, rOm, wr0, wa, wb, wc, wd, na, nb, nc, nd]
  · rw [T 6 (by omega), s6]; simp [rMul, rTurnN, rOm, wr0, wa, wb, wc, wd, na, nb, nc, nd]
  · rw [T 7 (by omega), s7]; simp [rMul, rTurnN, rOm, wr0, wa, wb, wc, wd, na, nb, nc, nd]
theorem dMul_turn {z : Dy} (h : dOk z = true) {k : Nat} (hk : k < 8) : dMulI z (dPow k) = some (dTurn k z) := by
  have hz := dOk_iff.1 h
  have h1 : rOk (rTurn ⟨1, 0, 0, 0⟩ k) = true := (rTurn_ok (by decide) _).1
  have hp : dOk (dPow k) = true := dOk_iff.2 ⟨h1, by simp [dPow], .inl rfl⟩
  obtain ⟨h2, h3⟩ := rTurn_ok hz.1 (k : Int)
  unfold dMulI
  rw [h, hp, show (dPow k).num = rTurn ⟨1, 0, 0, 0⟩ k from rfl, rIf1, rIf2_one hz.1 h1, mul_turn hz.1 hk, h2]
  simp only [Bool.and_self, if_true]
  unfold dOf
  rw [h2, show z.exp + (dPow k).exp = z.exp from by simp [dPow], inR_iff.2 hz.2.1]
  simp only [Bool.and_self, if_true]
  rw [dLow_stop fun h0 => by rw [h3]; rcases hz.2.2 with h4 | h4; exact absurd h4 (by omega); exact h4]
  rfl
def sameI (a b : Cx) : Bool × Bool :=
  if ((opI a).isSome && (opI b).isSome && a.n == b.n) = true then
    (mOk ((opI a).getD mZ) && mOk ((opI b).getD mZ) && eqPh ((opI a).getD mZ) ((opI b).getD mZ), mOk ((opI a).getD mZ) && mOk ((opI b).getD mZ)) else (false, false)
def sameS (a b : Cx) : Bool × Bool :=
  if ((opS a).isSome && (opS b).isSome && a.n == b.n) = true then (phaseS ((opS a).getD mZ) ((opS b).getD mZ), true) else (false, false)
end Go.Proofs.YtfgnmflfiobkmaaGreat
namespace Go.Proofs.YtfgnmflfiobkmaaGreat
open Go.RowKit
theorem gate_len {n : Int} (hn : 1 ≤ n ∧ n ≤ 5) {g : Gt} : (gateS n g).cells.length ≤ 2305843009213693951 := by
  have h := pow_le32 hn.2
  have h2 : 2 ^ n.toNat * 2 ^ n.toNat ≤ 32 * 32 := Nat.mul_le_mul h h
  simp only [gateS, gridL_len]
  omega
theorem mOk_le {m : Mx} (h : mOk m = true) : m.cells.length ≤ 2305843009213693951 := by
  have h1 := mOk_len h
  have h2 : m.rows.toNat * m.cols.toNat ≤ 32 * 32 := Nat.mul_le_mul (by omega) (by omega)
  omega
theorem opI_le (a : Cx) : ((opI a).getD mZ).cells.length ≤ 2305843009213693951 := by
  have h := op_eq a
  cases ha : opI a with
  | none => exact Nat.zero_le _
  | some m => rw [h.1] at ha; exact mOk_le (h.2 m ha).1
theorem drop_get {α : Type} {l : List α} {i : Nat} {u : α} (h : l[i]? = some u) : l.drop i = u :: l.drop (i + 1) := by
  obtain ⟨h1, h2⟩ := List.getElem?_eq_some_iff.1 h
  rw [List.drop_eq_getElem_cons h1, h2]
end Go.Proofs.YtfgnmflfiobkmaaGreat
namespace Go.Proofs.YtfgnmflfiobkmaaGreat
open Go.RowKit
def unitP (d i : Nat) : List Dy := (List.range (d * d)).map fun m => if m / d = m % d ∧ m / d < i then dPow 0 else dZ
theorem dLow_exp : ∀ (m : Nat) (x : Rg), 0 ≤ (dLow x m).exp ∧ (dLow x m).exp ≤ m
  | 0, x => by rw [dLow_stop (by omega)]; simp
  | m + 1, x => by
    by_cases he : rEven x = true
    · rw [dLow_step (by omega) he, show ((m + 1 : Nat) : Int) - 1 = (m : Int) from by omega]
      have := dLow_exp m (rHalf x)
      omega
    · rw [dLow_stop fun _ => by simpa using he]
      dsimp only
      omega
theorem dLow_expI {x : Rg} {e : Int} (h0 : 0 ≤ e) : 0 ≤ (dLow x e).exp ∧ (dLow x e).exp ≤ e := by
  obtain ⟨m, rfl⟩ : ∃ m : Nat, e = m := ⟨e.toNat, by omega⟩
  exact dLow_exp m x
theorem sMul_exp {f : Bool} {x y : Dy} (hx : 0 ≤ x.exp ∧ x.exp ≤ 60) (hy : 0 ≤ y.exp ∧ y.exp ≤ 60) : 0 ≤ (sMul f x y).2.exp ∧ (sMul f x y).2.exp ≤ 60 := by
  unfold sMul
  split
  · exact ⟨Int.le_refl _, by decide⟩
  · have := dLow_expI (x := sRing (rMul x.num y.num)) (e := x.exp + y.exp) (by omega)
    dsimp only
    omega
theorem sAdd_exp {f : Bool} {x y : Dy} (hx : 0 ≤ x.exp ∧ x.exp ≤ 60) (hy : 0 ≤ y.exp ∧ y.exp ≤ 60) : 0 ≤ (sAdd f x y).2.exp ∧ (sAdd f x y).2.exp ≤ 60 := by
  unfold sAdd
  dsimp only
  rw [sRaise_exp]
  have := fun z => dLow_expI (x := z) (e := x.exp + ((y.exp - x.exp).toNat : Int)) (by omega)
  have h := this (sRing (rAdd (sRaiseN (y.exp - x.exp).toNat f x).2.num (sRaiseN (x.exp + ((y.exp - x.exp).toNat : Int) - y.exp).toNat (sRaiseN (y.exp - x.exp).toNat f x).1 y).2.num))
  omega
theorem dotS_exp {a b : Mx} (ha : AllOk a) (hb : AllOk b) (f : Bool) (i j : Nat) : ∀ n, 0 ≤ (dotS f a b i j n).2.exp ∧ (dotS f a b i j n).2.exp ≤ 60
  | 0 => ⟨Int.le_refl _, show (0 : Int) ≤ 60 by decide⟩
  | n + 1 => by
    rw [dotS]
    split
    · exact dotS_exp ha hb f i j n
    · exact sAdd_exp (dotS_exp ha hb f i j n) (sMul_exp (dOk_exp (Mx.at_ok ha i n)) (dOk_exp (Mx.at_ok hb n j)))
theorem dot_end {a b : Mx} {f f3 : Bool} {i j k n : Nat} {s : Dy} (h : dotS f a b i j k = (f3, s)) (hk : k ≤ n) (he : f3 = true ∨ k = n) : dotS f a b i j n = (f3, s) := by
  rcases he with he | he
  · subst he
    rw [dotS_bad (n := k) (by rw [h]) n hk, h]
  · subst he; exact h
theorem dot_next {a b : Mx} {f f3 : Bool} {i j k : Nat} {s : Dy} (h : dotS f a b i j k = (f3, s)) (hf : f3 = false) :
    dotS f a b i j (k + 1) = ((sAdd (sMul f3 (a.at i k) (b.at k j)).1 s (sMul f3 (a.at i k) (b.at k j)).2).1, (sAdd (sMul f3 (a.at i k) (b.at k j)).1 s (sMul f3 (a.at i k) (b.at k j)).2).2) := by
  subst hf
  rw [dotS, h, if_neg (show ¬ (false = true) by decide)]
theorem grid_le {a b : Nat} (ha : a ≤ 32) (hb : b ≤ 32) : a * b ≤ 1024 := Nat.le_trans (Nat.mul_le_mul ha hb) (by decide)
end Go.Proofs.YtfgnmflfiobkmaaGreat
namespace Go.Proofs.YtfgnmflfiobkmaaGreat
open Go.RowKit
end Go.Proofs.YtfgnmflfiobkmaaGreat
namespace Go.Proofs.YtfgnmflfiobkmaaGreat
open Go.RowKit
theorem getD_getB {l : List Int} {k : Nat} (h : decide ((k : Int) < (l.length : Int)) = true) : l[k]? = some (l.getD k 0) := getD_get (by simpa using h)
def putI : List Int → Int → List Int
  | [], n => [n]
  | x :: l, n => if x < n then x :: putI l n else if x = n then x :: l else n :: x :: l
theorem put_len : ∀ (l : List Int) (n : Int), (putI l n).length ≤ l.length + 1
  | [], n => by simp [putI]
  | x :: l, n => by
    unfold putI
    split
    · have := put_len l n; simp only [List.length_cons]; omega
    · split <;> simp
theorem put_at : ∀ (l : List Int) (n : Int) (k : Nat), (l.take k).all (fun x => decide (x < n)) = true → k ≤ l.length → (k < l.length → ¬ l.getD k 0 < n) →
    (k < l.length ∧ l.getD k 0 = n → putI l n = l) ∧ (¬ (k < l.length ∧ l.getD k 0 = n) → putI l n = l.take k ++ [n] ++ l.drop k)
  | [], n, k, _, hk, _ => by
    have : k = 0 := by simpa using hk
    subst this
    exact ⟨fun h => by simp at h, fun _ => rfl⟩
  | x :: l, n, 0, _, _, h => by
    have h := h (by simp)
    simp only [List.getD_cons_zero] at h
    refine ⟨fun h1 => ?_, fun h1 => ?_⟩
    · have h2 := h1.2
      simp only [List.getD_cons_zero] at h2
      rw [putI, if_neg h, if_pos h2]
    · have h2 : ¬ x = n := fun e => h1 ⟨by simp, by simpa using e⟩
      rw [putI, if_neg h, if_neg h2]
      rfl
  | x :: l, n, k + 1, ha, hk, h => by
    simp only [List.take_succ_cons, List.all_cons, Bool.and_eq_true, decide_eq_true_eq] at ha
    have ih := put_at l n k ha.2 (by simpa using hk) (fun h1 => by have := h (by simpa using h1); simpa using this)
    simp only [List.length_cons, Nat.add_lt_add_iff_right, List.getD_cons_succ, List.take_succ_cons, List.drop_succ_cons, List.cons_append] at *
    rw [putI, if_pos ha.1]
    exact ⟨fun h1 => by rw [ih.1 h1], fun h1 => by rw [ih.2 h1]⟩
def usedStep (m : List Int) (g : Gt) : List Int := if g.k = 12 then m else if inR g.k 9 11 = true then putI (putI m g.a) g.b else putI m g.a
def usedS (l : List Gt) : List Int := l.foldl usedStep []
theorem foldl_step {α β : Type} {f : β → α → β} {b : β} {l : List α} {k : Nat} {u : α} (h : l[k]? = some u) : (l.take (k + 1)).foldl f b = f ((l.take k).foldl f b) u := by
  rw [List.take_add_one, h]
  simp
def lastN (l : List Int) (q : Int) : Nat → Int
  | 0 => 0
  | k + 1 => if l.getD k 0 = q then (k : Int) else lastN l q k
theorem lastN_step {l : List Int} {q u : Int} {k : Nat} (h : l[k]? = some u) : lastN l q (k + 1) = if u = q then (k : Int) else lastN l q k := by
  have : l.getD k 0 = u := by rw [List.getD_eq_getElem?_getD, h]; rfl
  rw [lastN, this]
section
variable {us : List Int} {j : Nat} {v q x k : Int}
end
def smallG (used : List Int) (g : Gt) : Gt := ⟨g.k, if g.k = 12 then 0 else lastN used g.a used.length, if inR g.k 9 11 = true then lastN used g.b used.length else 0⟩
def validS (n : Int) (r : Rp) : Bool := inR n 1 5 && inR r.pos 0 400 && (!(r.old.any fun x => !gOk n x) && decide ((r.old.length : Int) ≤ 40)) && (!(r.new.any fun x => !gOk n x) && decide ((r.new.length : Int) ≤ 40))
end Go.Proofs.YtfgnmflfiobkmaaGreat
