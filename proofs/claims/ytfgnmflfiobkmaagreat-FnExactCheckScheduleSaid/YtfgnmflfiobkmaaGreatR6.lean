/-
  What is proved: for every circuit and every list of layers, the program's CheckSchedule answers as the reference's does and leaves its arguments as they were, and the arguments read as before. Conditions: none.
-/
import Derived.Test.YtfgnmflfiobkmaaGreatR5
import Derived.Test.YtfgnmflfiobkmaaGreatR4
import Derived.Test.YtfgnmflfiobkmaaGreatR3
import Derived.Deep.Strs
import Derived.WalkKit
import Derived.ProofKit
import Derived.OpenShut
import Derived.Deep.Slices
import Derived.Deep.Fields
import Derived.ChangeSame
import Derived.Lib.SmallJoins
import Derived.Test.YtfgnmflfiobkmaaGreatRows
set_option linter.unusedVariables false
set_option linter.unusedSimpArgs false
set_option maxHeartbeats 1000000
set_option maxRecDepth 4000
namespace Go.Proofs.YtfgnmflfiobkmaaGreat
open Go.RowKit
theorem F107 (w0 : World) (bV : Nat) (hBV : MemoG w0 bV) (c : Cx) (A : Option Addr) (cc : Nat) (hr_c : Rd w0 w0.heap.size 107 encG A c.gs) (hc : cOk c = true) (i : Nat) (hi : i < c.gs.length) (j : Nat) (hj : j < c.gs.length) : Ret Tryz.prog 107 [.agg #[.int .i64 c.n, .slice A c.gs.length cc, .map (some bV)], .int .i64 (i : Int), .int .i64 (j : Int)] w0 (fun v w => v = .bool (!commI (c.gs.getD j gZ) (c.gs.getD i gZ)) ∧ Kept bV w0.heap.size w0 w ∧ MemoG w bV) := by
 have hltV := hBV.lt
 obtain ⟨hcn, hcl, hcg⟩ := cOk_spec hc
 obtain ⟨y, hy9⟩ := getElem_ex (l := c.gs) (k := i) hi
 have ey := getD_of hy9
 have hgy := hcg _ (List.mem_of_getElem? hy9)
 obtain ⟨x, hx9⟩ := getElem_ex (l := c.gs) (k := j) hj
 have ex := getD_of hx9
 have hgx := hcg _ (List.mem_of_getElem? hx9)
 refine enter Tryz.func107 rfl 43 rfl rfl ?_
 intro a hf
 have hW : Kept bV w0.heap.size w0 w0 := Kept.refl _ _ _
 refine wp_seq_k ?_; intro K2 hK2
 refine wp_region_lit ?_
 refine l_f hf rfl (ef_box (zs := [.int .i64 c.n, .slice A c.gs.length cc, .map (some bV)]) hf rfl rfl) ?_; rintro a _ w1 ⟨b3, rfl, hl3, hE, hB3⟩ hf
 have hlo3 := Nat.le_trans hW.size hl3
 replace hBV := hBV.below hE
 replace hr_c := hr_c.below hE
 replace hW := ktr hW hE
 clear hE
 refine l_as hf rfl rfl ?_; intro a hf
 refine wpList_nil ?_
 refine hK2 _ _ ?_; try clear hK2 K2
 refine wp_seq_k ?_; intro K4 hK4
 refine wp_draw none (fun j => [14].contains j) mixed ?_
 intro w2 hE
 replace hBV := hBV.below hE
 replace hB3 := hB3.below hE
 replace hr_c := hr_c.below hE
 replace hW := ktr hW hE
 clear hE
 refine s_e0 0 rfl (by kernel_rfl) hf rfl (fun _ => ev_fieldB hf rfl fd_104_0 (m := 0) rfl) ?_; intro a hf
 refine s_e0 1 rfl (by kernel_rfl) hf rfl (fun _ => ev_fieldB hf rfl fd_41_1 (m := 1) rfl) ?_; intro a hf
 refine s_e 2 rfl (by kernel_rfl) (by kernel_rfl) hf rfl (ev_load1 hf rfl t1_28 (hB3.at 1)) ?_; intro a hf
 refine s_e0 3 rfl (by kernel_rfl) hf rfl (fun _ => ev_move hf rfl) ?_; intro a hf
 refine s_index (k := j) (u := x) (enc := encG) (l := c.gs) 4 rfl (by kernel_rfl) (by kernel_rfl) hf trivial rfl rfl rfl sl_28 sz_107 encG_len hr_c hx9 rfl ?_; intro a p6 hat5 hf
 refine s_e 5 rfl (by kernel_rfl) (by kernel_rfl) hf rfl (ev_loadN (l := [.int .i64 x.k, .int .i64 x.a, .int .i64 x.b]) hf rfl tN_107 hat5 rfl) ?_; intro a hf
 refine s_e0 6 rfl (by kernel_rfl) hf rfl (fun _ => ev_fieldB hf rfl fd_104_0 (m := 0) rfl) ?_; intro a hf
 refine s_e0 7 rfl (by kernel_rfl) hf rfl (fun _ => ev_fieldB hf rfl fd_41_1 (m := 1) rfl) ?_; intro a hf
 refine s_e 8 rfl (by kernel_rfl) (by kernel_rfl) hf rfl (ev_load1 hf rfl t1_28 (hB3.at 1)) ?_; intro a hf
 refine s_e0 9 rfl (by kernel_rfl) hf rfl (fun _ => ev_move hf rfl) ?_; intro a hf
 refine s_index (k := i) (u := y) (enc := encG) (l := c.gs) 10 rfl (by kernel_rfl) (by kernel_rfl) hf trivial rfl rfl rfl sl_28 sz_107 encG_len hr_c hy9 rfl ?_; intro a p8 hat7 hf
 refine s_e 11 rfl (by kernel_rfl) (by kernel_rfl) hf rfl (ev_loadN (l := [.int .i64 y.k, .int .i64 y.a, .int .i64 y.b]) hf rfl tN_107 hat7 rfl) ?_; intro a hf
 refine s_e0 12 rfl (by kernel_rfl) hf rfl (fun _ => ev_build (ps := [(0, .agg #[.int .i64 x.k, .int .i64 x.a, .int .i64 x.b]), (1, .agg #[.int .i64 y.k, .int .i64 y.a, .int .i64 y.b])]) (cs := [.int .i64 x.k, .int .i64 x.a, .int .i64 x.b, .int .i64 y.k, .int .i64 y.a, .int .i64 y.b]) hf rfl (fun _ => by first | rfl | kernel_rfl)) ?_; intro a hf
 refine s_one 13 (by kernel_rfl) ?_
 refine p_eff rfl hf trivial rfl rfl (Ef.mono (ef_alloc (zs := [.int .i64 0, .int .i64 0, .int .i64 0, .int .i64 0, .int .i64 0, .int .i64 0]) z_200 rfl) (fun _ _ h => ⟨fun _ => by obtain ⟨_, _, _, hE, _⟩ := h; exact hE, h⟩)) ?_; rintro a _ w3 ⟨b9, rfl, hl9, hE, hB9⟩ hf
 have hlo9 := Nat.le_trans hW.size hl9
 replace hBV := hBV.below hE
 replace hB3 := hB3.below hE
 replace hr_c := hr_c.below hE
 replace hW := ktr hW hE
 clear hE
 refine s_one 14 (by kernel_rfl) ?_
 refine p_eff0 rfl hf trivial rfl (Ef.mono (ef_store (vs := [.int .i64 x.k, .int .i64 x.a, .int .i64 x.b, .int .i64 y.k, .int .i64 y.a, .int .i64 y.b]) (l' := [.int .i64 x.k, .int .i64 x.a, .int .i64 x.b, .int .i64 y.k, .int .i64 y.a, .int .i64 y.b]) hf rfl rfl sz_200 hB9 rfl rfl rfl rfl rfl) (fun _ _ h => ⟨fun h0 => absurd h0 (by decide), h⟩)) ?_; rintro a _ w4 ⟨ho, hb⟩ hf
 have hold := hB9
 replace hBV := hBV.only ho (hBV.ne hold)
 replace hB3 := hB3.only ho (Blk.ne hB3 hold rfl)
 replace hr_c := hr_c.onlyT ho hold rfl
 replace hW := Kept.only hW ho hlo9
 clear hold
 have hB9 := hb
 clear hb ho
 refine s_done (by kernel_rfl) ?_
 refine hK4 _ _ ?_; try clear hK4 K4
 refine wp_seq_k ?_; intro K10 hK10
 refine wp_region_lit ?_
 refine l_e hf rfl (ev_fieldB hf rfl fd_104_1 (m := 2) rfl) ?_; intro a hf
 refine l_e hf rfl (ev_load1 hf rfl t1_102 (hB3.at 2)) ?_; intro a hf
 refine l_e hf rfl (ev_loadN (l := [.int .i64 x.k, .int .i64 x.a, .int .i64 x.b, .int .i64 y.k, .int .i64 y.a, .int .i64 y.b]) hf rfl tN_200 (hB9.at 0) rfl) ?_; intro a hf
 obtain ⟨vq, kq, hlk, hvk, hnf⟩ := hBV.look x y
 refine l_e hf rfl (ev_lookM hf rfl rfl hlk) ?_; intro a hf
 refine l_mv hf rfl rfl ?_; intro a hf
 refine l_e hf rfl (ev_extract (vs := [.bool vq, .bool kq]) hf rfl rfl) ?_; intro a hf
 refine l_e hf rfl (ev_extract (vs := [.bool vq, .bool kq]) hf rfl rfl) ?_; intro a hf
 refine l_as hf rfl rfl ?_; intro a hf
 refine l_as hf rfl rfl ?_; intro a hf
 refine wpList_nil ?_
 refine hK10 _ _ ?_; try clear hK10 K10
 refine wp_seq_k ?_; intro K11 hK11
 refine wp_seq_k ?_; intro K12 hK12
 refine wp_region_lit ?_
 refine l_mv hf rfl rfl ?_; intro a hf
 refine l_e hf rfl (ev_not hf rfl) ?_; intro a hf
 refine wpList_nil ?_
 refine hK12 _ _ ?_; try clear hK12 K12
 refine c_if hf rfl (fun hc13 => ?_) (fun hc13 => ?_)
 ·have hc13b := hc13
  replace hBV := hnf (by simpa using hc13)
  refine wp_seq_k ?_; intro K14 hK14
  refine wp_region_lit ?_
  refine l_e hf rfl (ev_indexArr (k := 0) (sz := 3) hf rfl rfl Tryz.underlying200 sz_107 rfl (by decide) (m := 0) rfl) ?_; intro a hf
  refine l_e hf rfl (ev_loadN (l := [.int .i64 x.k, .int .i64 x.a, .int .i64 x.b]) hf rfl tN_107 ((hB9.at 0).take 3) rfl) ?_; intro a hf
  refine l_e hf rfl (ev_indexArr (k := 1) (sz := 3) hf rfl rfl Tryz.underlying200 sz_107 rfl (by decide) (m := 3) rfl) ?_; intro a hf
  refine l_e hf rfl (ev_loadN (l := [.int .i64 y.k, .int .i64 y.a, .int .i64 y.b]) hf rfl tN_107 ((hB9.at 3).take 3) rfl) ?_; intro a hf
  refine l_f hf rfl (ef_call (vs := [.agg #[.int .i64 x.k, .int .i64 x.a, .int .i64 x.b], .agg #[.int .i64 y.k, .int .i64 y.a, .int .i64 y.b]]) hf rfl ff_149 (F149 _ x y c.n hgx hgy)) ?_; rintro a _ w5 ⟨rfl, hE⟩ hf
  replace hBV := hBV.below hE
  replace hB3 := hB3.below hE
  replace hB9 := hB9.below hE
  replace hr_c := hr_c.below hE
  replace hW := ktr hW hE
  clear hE
  refine l_e hf rfl (ev_not hf rfl) ?_; intro a hf
  refine l_as hf rfl rfl ?_; intro a hf
  refine wpList_nil ?_
  refine hK14 _ _ ?_; try clear hK14 K14
  refine wp_region_lit ?_
  refine l_e hf rfl (ev_fieldB hf rfl fd_104_1 (m := 2) rfl) ?_; intro a hf
  refine l_e hf rfl (ev_load1 hf rfl t1_102 (hB3.at 2)) ?_; intro a hf
  refine l_e hf rfl (ev_loadN (l := [.int .i64 x.k, .int .i64 x.a, .int .i64 x.b, .int .i64 y.k, .int .i64 y.a, .int .i64 y.b]) hf rfl tN_200 (hB9.at 0) rfl) ?_; intro a hf
  refine l_mv hf rfl rfl ?_; intro a hf
  refine l_f0 hf (ef_memoPut (x := x) (y := y) (v := !(commI x y)) hf rfl rfl rfl hBV rfl) ?_; rintro a _ w6 ⟨ho, hmap⟩ hf
  have hmo := hBV.good
  replace hB3 := hB3.onlyM ho hmo
  replace hB9 := hB9.onlyM ho hmo
  replace hr_c := hr_c.onlyM ho hmo
  replace hW := hW.self ho
  replace hBV := hmap; clear hmap ho hmo
  refine wpList_nil ?_
  refine hK11 _ _ ?_; try clear hK11 K11
  refine wp_seq_k ?_; intro K15 hK15
  refine wp_region_lit ?_
  refine l_mv hf rfl rfl ?_; intro a hf
  refine l_as hf rfl rfl ?_; intro a hf
  refine wpList_nil ?_
  refine hK15 _ _ ?_; try clear hK15 K15
  refine wp_ret ?_
  refine c_ret hf (res1 hf rfl rfl) ?_
  exact ⟨by rw [ex, ey], hW, hBV⟩
 ·have hc13b := hc13
  have hk9 : kq = true := by simpa using hc13
  have hv9 := hvk hk9
  refine wp_skip ?_
  refine hK11 _ _ ?_; try clear hK11 K11
  refine wp_seq_k ?_; intro K16 hK16
  refine wp_region_lit ?_
  refine l_mv hf rfl rfl ?_; intro a hf
  refine l_as hf rfl rfl ?_; intro a hf
  refine wpList_nil ?_
  refine hK16 _ _ ?_; try clear hK16 K16
  refine wp_ret ?_
  refine c_ret hf (res1 hf rfl rfl) ?_
  exact ⟨by rw [ex, ey, hv9], hW, hBV⟩
end Go.Proofs.YtfgnmflfiobkmaaGreat
set_option maxRecDepth 4000
namespace Go.Proofs.YtfgnmflfiobkmaaGreat
open Go.RowKit
theorem F56 (w0 : World) (bV : Nat) (hBV : MemoG w0 bV) (c : Cx) (A : Option Addr) (cc : Nat) (hr_c : Rd w0 w0.heap.size 107 encG A c.gs) (hc : cOk c = true) (i : Nat) (hi : i < c.gs.length) (B : Option Addr) (cs : Nat) (s : List Int) (hr_s : Rd w0 w0.heap.size 3 encI B s) (hls : s.length = c.gs.length) : Ret Tryz.prog 56 [.agg #[.int .i64 c.n, .slice A c.gs.length cc, .map (some bV)], .int .i64 (i : Int), .slice B s.length cs] w0 (fun v w => v = .int .i64 (faultI c.gs s i) ∧ Kept bV w0.heap.size w0 w ∧ MemoG w bV) := by
 have hltV := hBV.lt
 obtain ⟨hcn, hcl, hcg⟩ := cOk_spec hc
 obtain ⟨y, hy9⟩ := getElem_ex (l := c.gs) (k := i) hi
 have ey := getD_of hy9
 have hgy := hcg _ (List.mem_of_getElem? hy9)
 refine enter Tryz.func56 rfl 83 rfl rfl ?_
 intro a hf
 have hW : Kept bV w0.heap.size w0 w0 := Kept.refl _ _ _
 refine wp_seq_k ?_; intro K3 hK3
 refine wp_region_lit ?_
 refine l_f hf rfl (ef_box (zs := [.int .i64 c.n, .slice A c.gs.length cc, .map (some bV)]) hf rfl rfl) ?_; rintro a _ w1 ⟨b4, rfl, hl4, hE, hB4⟩ hf
 have hlo4 := Nat.le_trans hW.size hl4
 replace hBV := hBV.below hE
 replace hr_c := hr_c.below hE
 replace hr_s := hr_s.below hE
 replace hW := ktr hW hE
 clear hE
 refine l_as hf rfl rfl ?_; intro a hf
 refine wpList_nil ?_
 refine hK3 _ _ ?_; try clear hK3 K3
 refine wp_seq_k ?_; intro K5 hK5
 refine wp_region_lit ?_
 refine l_e hf rfl (ev_fieldB hf rfl fd_104_0 (m := 0) rfl) ?_; intro a hf
 refine l_e hf rfl (ev_fieldB hf rfl fd_41_1 (m := 1) rfl) ?_; intro a hf
 refine l_e hf rfl (ev_load1 hf rfl t1_28 (hB4.at 1)) ?_; intro a hf
 refine l_mv hf rfl rfl ?_; intro a hf
 refine l_index (k := i) (u := y) (enc := encG) (l := c.gs) hf trivial rfl rfl rfl sl_28 sz_107 encG_len hr_c hy9 rfl ?_; intro a p7 hat6 hf
 refine l_e hf rfl (ev_loadN (l := [.int .i64 y.k, .int .i64 y.a, .int .i64 y.b]) hf rfl tN_107 hat6 rfl) ?_; intro a hf
 refine l_f hf rfl (ef_alloc (zs := [.int .i64 0, .int .i64 0, .int .i64 0]) z_107 rfl) ?_; rintro a _ w2 ⟨b8, rfl, hl8, hE, hB8⟩ hf
 have hlo8 := Nat.le_trans hW.size hl8
 have haw1_8 := hr_c.away hl8
 replace hBV := hBV.below hE
 replace hB4 := hB4.below hE
 replace hr_c := hr_c.below hE
 replace hr_s := hr_s.below hE
 replace hW := ktr hW hE
 clear hE
 refine l_f0 hf (ef_store (vs := [.int .i64 y.k, .int .i64 y.a, .int .i64 y.b]) (l' := [.int .i64 y.k, .int .i64 y.a, .int .i64 y.b]) hf rfl rfl sz_107 hB8 rfl rfl rfl rfl rfl) ?_; rintro a _ w3 ⟨ho, hb⟩ hf
 have hold := hB8
 replace hBV := hBV.only ho (hBV.ne hold)
 replace hB4 := hB4.only ho (Blk.ne hB4 hold rfl)
 replace hr_c := hr_c.only ho hlo8
 replace hr_s := hr_s.onlyT ho hold rfl
 replace hW := Kept.only hW ho hlo8
 clear hold
 have hB8 := hb
 clear hb ho
 refine wpList_nil ?_
 refine hK5 _ _ ?_; try clear hK5 K5
 refine wp_seq_k ?_; intro K9 hK9
 refine wp_seq_k ?_; intro K10 hK10
 refine c_cut (fun a w => Fr a 83 [(1, .int .i64 (i : Int)), (2, .slice B s.length cs), (3, .pointer (some ⟨b4, 0, none⟩)), (7, .pointer (some ⟨b8, 0, none⟩)), (38, .bool (((y.k == 12) && ((s.getD i 0) != 0)) || ((y.k != 12) && (!(inR (s.getD i 0) 1 400)))))] ∧ w3 = w) ?_ ?_
 ·refine wp_region_lit ?_
  refine l_e hf rfl (ev_fieldB hf rfl fd_107_0 (m := 0) rfl) ?_; intro a hf
  refine l_e hf rfl (ev_load1 hf rfl t1_3 (hB8.at 0)) ?_; intro a hf
  refine l_e hf rfl (ev_eql hf rfl rfl) ?_; intro a hf
  refine l_mv hf rfl rfl ?_; intro a hf
  refine g_split hf (t := 19) rfl (fun hg11 => ?_) (fun hg11 => ?_)
  ·refine l_ev hf ⟨_, _, rfl, rfl, hg11⟩ rfl rfl (ev_move hf rfl) ?_; intro a hf
   refine l_ev hf ⟨_, _, rfl, rfl, hg11⟩ rfl rfl (ev_move hf rfl) ?_; intro a hf
   refine l_index (k := i) (u := (s.getD i 0)) (enc := encI) (l := s) hf ⟨_, _, rfl, rfl, hg11⟩ rfl rfl rfl sl_36 sz_3 encI_len hr_s (getD_get (by omega)) rfl ?_; intro a p13 hat12 hf
   refine l_ev hf ⟨_, _, rfl, rfl, hg11⟩ rfl rfl (ev_load1 hf rfl t1_3 hat12) ?_; intro a hf
   refine l_ev hf ⟨_, _, rfl, rfl, hg11⟩ rfl rfl (ev_neq hf rfl rfl) ?_; intro a hf
   refine l_e hf rfl (ev_pickT hf rfl hg11 rfl) ?_; intro a hf
   refine l_mv hf rfl rfl ?_; intro a hf
   refine g_split hf (t := 26) rfl (fun hg14 => ?_) (fun hg14 => ?_)
   ·refine l_pass hf ⟨_, _, rfl, rfl, hg14⟩ rfl rfl ?_; intro a hf
    refine l_pass hf ⟨_, _, rfl, rfl, hg14⟩ rfl rfl ?_; intro a hf
    refine l_pass hf ⟨_, _, rfl, rfl, hg14⟩ rfl rfl ?_; intro a hf
    refine l_pass hf ⟨_, _, rfl, rfl, hg14⟩ rfl rfl ?_; intro a hf
    refine l_pass hf ⟨_, _, rfl, rfl, trivial⟩ rfl rfl ?_; intro a hf
    refine l_pass hf ⟨_, _, rfl, rfl, trivial⟩ rfl rfl ?_; intro a hf
    refine l_pass hf ⟨_, _, rfl, rfl, trivial⟩ rfl rfl ?_; intro a hf
    refine l_pass hf ⟨_, _, rfl, rfl, trivial⟩ rfl rfl ?_; intro a hf
    refine l_pass hf ⟨_, _, rfl, rfl, trivial⟩ rfl rfl ?_; intro a hf
    refine l_pass hf ⟨_, _, rfl, rfl, trivial⟩ rfl rfl ?_; intro a hf
    refine l_pass hf ⟨_, _, rfl, rfl, hg14⟩ rfl rfl ?_; intro a hf
    refine l_e hf rfl (ev_pickT hf rfl hg14 rfl) ?_; intro a hf
    refine wpList_nil ?_
    exact ⟨hf.sub ⟨rfl, rfl, rfl, rfl, look_bool rfl (by first | rfl | (simp only [hg11, hg14, Bool.true_and, Bool.false_and, Bool.true_or, Bool.false_or]; done) | simp [hg11, hg14]), trivial⟩, rfl⟩
   ·refine l_ev hf ⟨_, _, rfl, rfl, hg14⟩ rfl rfl (ev_fieldB hf rfl fd_107_0 (m := 0) rfl) ?_; intro a hf
    refine l_ev hf ⟨_, _, rfl, rfl, hg14⟩ rfl rfl (ev_load1 hf rfl t1_3 (hB8.at 0)) ?_; intro a hf
    refine l_ev hf ⟨_, _, rfl, rfl, hg14⟩ rfl rfl (ev_neq hf rfl rfl) ?_; intro a hf
    refine l_ev hf ⟨_, _, rfl, rfl, hg14⟩ rfl rfl (ev_move hf rfl) ?_; intro a hf
    refine g_split hf (t := 30) rfl (fun hg15 => ?_) (fun hg15 => ?_)
    ·refine l_ev hf ⟨_, _, rfl, rfl, hg15⟩ rfl rfl (ev_move hf rfl) ?_; intro a hf
     refine l_ev hf ⟨_, _, rfl, rfl, hg15⟩ rfl rfl (ev_move hf rfl) ?_; intro a hf
     refine l_index (k := i) (u := (s.getD i 0)) (enc := encI) (l := s) hf ⟨_, _, rfl, rfl, hg15⟩ rfl rfl rfl sl_36 sz_3 encI_len hr_s (getD_get (by omega)) rfl ?_; intro a p17 hat16 hf
     refine l_ev hf ⟨_, _, rfl, rfl, hg15⟩ rfl rfl (ev_load1 hf rfl t1_3 hat16) ?_; intro a hf
     refine l_eff hf ⟨_, _, rfl, rfl, hg15⟩ rfl rfl (ef_call (vs := [.int .i64 (s.getD i 0), .int .i64 1, .int .i64 400]) hf rfl ff_91 (F91 _ (s.getD i 0) 1 400)) ?_; rintro a _ _ ⟨rfl, rfl⟩ hf
     refine l_ev hf ⟨_, _, rfl, rfl, hg15⟩ rfl rfl (ev_not hf rfl) ?_; intro a hf
     refine l_ev hf ⟨_, _, rfl, rfl, hg14⟩ rfl rfl (ev_pickT hf rfl hg15 rfl) ?_; intro a hf
     refine l_e hf rfl (ev_pickF hf rfl hg14 rfl) ?_; intro a hf
     refine wpList_nil ?_
     exact ⟨hf.sub ⟨rfl, rfl, rfl, rfl, look_bool rfl (by first | rfl | (simp only [hg11, hg14, hg15, Bool.true_and, Bool.false_and, Bool.true_or, Bool.false_or]; done) | simp [hg11, hg14, hg15]), trivial⟩, rfl⟩
    ·refine l_pass hf ⟨_, _, rfl, rfl, hg15⟩ rfl rfl ?_; intro a hf
     refine l_pass hf ⟨_, _, rfl, rfl, hg15⟩ rfl rfl ?_; intro a hf
     refine l_pass hf ⟨_, _, rfl, rfl, hg15⟩ rfl rfl ?_; intro a hf
     refine l_pass hf ⟨_, _, rfl, rfl, hg15⟩ rfl rfl ?_; intro a hf
     refine l_pass hf ⟨_, _, rfl, rfl, hg15⟩ rfl rfl ?_; intro a hf
     refine l_pass hf ⟨_, _, rfl, rfl, hg15⟩ rfl rfl ?_; intro a hf
     refine l_ev hf ⟨_, _, rfl, rfl, hg14⟩ rfl rfl (ev_pickF hf rfl hg15 rfl) ?_; intro a hf
     refine l_e hf rfl (ev_pickF hf rfl hg14 rfl) ?_; intro a hf
     refine wpList_nil ?_
     exact ⟨hf.sub ⟨rfl, rfl, rfl, rfl, look_bool rfl (by first | rfl | (simp only [hg11, hg14, hg15, Bool.true_and, Bool.false_and, Bool.true_or, Bool.false_or]; done) | simp [hg11, hg14, hg15]), trivial⟩, rfl⟩
  ·refine l_pass hf ⟨_, _, rfl, rfl, hg11⟩ rfl rfl ?_; intro a hf
   refine l_pass hf ⟨_, _, rfl, rfl, hg11⟩ rfl rfl ?_; intro a hf
   refine l_pass hf ⟨_, _, rfl, rfl, hg11⟩ rfl rfl ?_; intro a hf
   refine l_pass hf ⟨_, _, rfl, rfl, hg11⟩ rfl rfl ?_; intro a hf
   refine l_pass hf ⟨_, _, rfl, rfl, hg11⟩ rfl rfl ?_; intro a hf
   refine l_e hf rfl (ev_pickF hf rfl hg11 rfl) ?_; intro a hf
   refine l_mv hf rfl rfl ?_; intro a hf
   refine l_ev hf ⟨_, _, rfl, rfl, rfl⟩ rfl rfl (ev_fieldB hf rfl fd_107_0 (m := 0) rfl) ?_; intro a hf
   refine l_ev hf ⟨_, _, rfl, rfl, rfl⟩ rfl rfl (ev_load1 hf rfl t1_3 (hB8.at 0)) ?_; intro a hf
   refine l_ev hf ⟨_, _, rfl, rfl, rfl⟩ rfl rfl (ev_neq hf rfl rfl) ?_; intro a hf
   refine l_ev hf ⟨_, _, rfl, rfl, rfl⟩ rfl rfl (ev_move hf rfl) ?_; intro a hf
   refine g_split hf (t := 30) rfl (fun hg18 => ?_) (fun hg18 => ?_)
   ·refine l_ev hf ⟨_, _, rfl, rfl, hg18⟩ rfl rfl (ev_move hf rfl) ?_; intro a hf
    refine l_ev hf ⟨_, _, rfl, rfl, hg18⟩ rfl rfl (ev_move hf rfl) ?_; intro a hf
    refine l_index (k := i) (u := (s.getD i 0)) (enc := encI) (l := s) hf ⟨_, _, rfl, rfl, hg18⟩ rfl rfl rfl sl_36 sz_3 encI_len hr_s (getD_get (by omega)) rfl ?_; intro a p20 hat19 hf
    refine l_ev hf ⟨_, _, rfl, rfl, hg18⟩ rfl rfl (ev_load1 hf rfl t1_3 hat19) ?_; intro a hf
    refine l_eff hf ⟨_, _, rfl, rfl, hg18⟩ rfl rfl (ef_call (vs := [.int .i64 (s.getD i 0), .int .i64 1, .int .i64 400]) hf rfl ff_91 (F91 _ (s.getD i 0) 1 400)) ?_; rintro a _ _ ⟨rfl, rfl⟩ hf
    refine l_ev hf ⟨_, _, rfl, rfl, hg18⟩ rfl rfl (ev_not hf rfl) ?_; intro a hf
    refine l_ev hf ⟨_, _, rfl, rfl, rfl⟩ rfl rfl (ev_pickT hf rfl hg18 rfl) ?_; intro a hf
    refine l_e hf rfl (ev_pickF hf rfl rfl rfl) ?_; intro a hf
    refine wpList_nil ?_
    exact ⟨hf.sub ⟨rfl, rfl, rfl, rfl, look_bool rfl (by first | rfl | (simp only [hg11, hg18, Bool.true_and, Bool.false_and, Bool.true_or, Bool.false_or]; done) | simp [hg11, hg18]), trivial⟩, rfl⟩
   ·refine l_pass hf ⟨_, _, rfl, rfl, hg18⟩ rfl rfl ?_; intro a hf
    refine l_pass hf ⟨_, _, rfl, rfl, hg18⟩ rfl rfl ?_; intro a hf
    refine l_pass hf ⟨_, _, rfl, rfl, hg18⟩ rfl rfl ?_; intro a hf
    refine l_pass hf ⟨_, _, rfl, rfl, hg18⟩ rfl rfl ?_; intro a hf
    refine l_pass hf ⟨_, _, rfl, rfl, hg18⟩ rfl rfl ?_; intro a hf
    refine l_pass hf ⟨_, _, rfl, rfl, hg18⟩ rfl rfl ?_; intro a hf
    refine l_ev hf ⟨_, _, rfl, rfl, rfl⟩ rfl rfl (ev_pickF hf rfl hg18 rfl) ?_; intro a hf
    refine l_e hf rfl (ev_pickF hf rfl rfl rfl) ?_; intro a hf
    refine wpList_nil ?_
    exact ⟨hf.sub ⟨rfl, rfl, rfl, rfl, look_bool rfl (by first | rfl | (simp only [hg11, hg18, Bool.true_and, Bool.false_and, Bool.true_or, Bool.false_or]; done) | simp [hg11, hg18]), trivial⟩, rfl⟩
 rintro a _ ⟨hf, rfl⟩
 refine hK10 _ _ ?_; try clear hK10 K10
 refine c_if hf rfl (fun hc21 => ?_) (fun hc21 => ?_)
 ·have hc21b := hc21
  have hfin := flh_1 ey hc21
  refine wp_seq_k ?_; intro K22 hK22
  refine wp_region_lit ?_
  refine l_as hf rfl rfl ?_; intro a hf
  refine wpList_nil ?_
  refine hK22 _ _ ?_; try clear hK22 K22
  refine wp_ret ?_
  refine x_retS ?_
  refine c_ret hf (res1 hf rfl rfl) ?_
  exact ⟨by rw [hfin], hW, hBV⟩
 ·have hc21b := hc21
  have h38 := hc21
  refine wp_skip ?_
  refine hK9 _ _ ?_; try clear hK9 K9
  refine wp_seq_k ?_; intro K23 hK23
  refine wp_seq_k ?_; intro K24 hK24
  refine wp_region_lit ?_
  refine l_mv hf rfl rfl ?_; intro a hf
  refine l_mv hf rfl rfl ?_; intro a hf
  refine wpList_nil ?_
  refine hK24 _ _ ?_; try clear hK24 K24
  refine wp_block ?_
  refine c_loop (σ := Nat) (fun (j : Nat) (a : Act) (w : World) => Fr a 83 [(1, .int .i64 (i : Int)), (2, .slice B s.length cs), (3, .pointer (some ⟨b4, 0, none⟩)), (7, .pointer (some ⟨b8, 0, none⟩)), (39, .int .i64 (i : Int)), (40, .int .i64 (j : Int))] ∧ (j ≤ i) ∧ ((List.range j).any (qA c.gs s y (s.getD i 0)) = false) ∧ MemoG w bV ∧ Blk w b4 104 [.int .i64 c.n, .slice A c.gs.length cc, .map (some bV)] ∧ Blk w b8 107 [.int .i64 y.k, .int .i64 y.a, .int .i64 y.b] ∧ Rd w w0.heap.size 107 encG A c.gs ∧ Rd w w0.heap.size 3 encI B s ∧ Kept bV w0.heap.size w0 w) (fun (j : Nat) => i - j) 0 ?_ ?_
  · exact ⟨hf.sub ⟨rfl, rfl, rfl, rfl, rfl, rfl, trivial⟩, (Nat.zero_le _), rfl, hBV, hB4, hB8, hr_c, hr_s, hW⟩
  rintro j a w4 ⟨hf, hj, hA, hBV, hB4, hB8, hr_c, hr_s, hW⟩
  refine wp_seq_k ?_; intro K25 hK25
  refine wp_region_lit ?_
  refine l_e hf rfl (ev_lss hf rfl rfl) ?_; intro a hf
  refine wpList_nil ?_
  refine hK25 _ _ ?_; try clear hK25 K25
  refine wp_seq_k ?_; intro K26 hK26
  refine c_if hf rfl (fun hc27 => ?_) (fun hc27 => ?_)
  ·have hc27b := hc27
   have hc27 := of_decide_eq_true hc27
   refine wp_skip ?_
   refine hK26 _ _ ?_; try clear hK26 K26
   refine wp_seq_k ?_; intro K28 hK28
   refine wp_block ?_
   refine wp_seq_k ?_; intro K29 hK29
   refine wp_region_lit ?_
   refine l_mv hf rfl rfl ?_; intro a hf
   refine l_as hf rfl rfl ?_; intro a hf
   refine wpList_nil ?_
   refine hK29 _ _ ?_; try clear hK29 K29
   refine wp_seq_k ?_; intro K30 hK30
   refine c_cut (fun a w => Fr a 83 [(1, .int .i64 (i : Int)), (2, .slice B s.length cs), (3, .pointer (some ⟨b4, 0, none⟩)), (7, .pointer (some ⟨b8, 0, none⟩)), (39, .int .i64 (i : Int)), (40, .int .i64 (j : Int)), (57, .bool ((!commI (c.gs.getD j gZ) (c.gs.getD i gZ)) && (decide ((s.getD i 0) ≤ (s.getD j 0)))))] ∧ MemoG w bV ∧ Blk w b4 104 [.int .i64 c.n, .slice A c.gs.length cc, .map (some bV)] ∧ Blk w b8 107 [.int .i64 y.k, .int .i64 y.a, .int .i64 y.b] ∧ Rd w w0.heap.size 107 encG A c.gs ∧ Rd w w0.heap.size 3 encI B s ∧ Kept bV w0.heap.size w0 w) ?_ ?_
   ·refine wp_draw (some bV) (fun _ => false) mixed ?_
    intro w5 hE
    replace hBV := hBV.below hE
    replace hB4 := hB4.below hE
    replace hB8 := hB8.below hE
    replace hr_c := hr_c.below hE
    replace hr_s := hr_s.below hE
    replace hW := ktr hW hE
    clear hE
    refine s_evV 0 rfl (by kernel_rfl) (by kernel_rfl) hf trivial rfl rfl (fun w1 h1 => ev_loadN (l := [.int .i64 c.n, .slice A c.gs.length cc, .map (some bV)]) hf rfl tN_104 ((hB4.onlyM h1 hBV).at 0) rfl) ?_; intro a hf
    refine s_e0 1 rfl (by kernel_rfl) hf rfl (fun _ => ev_move hf rfl) ?_; intro a hf
    refine s_e0 2 rfl (by kernel_rfl) hf rfl (fun _ => ev_move hf rfl) ?_; intro a hf
    refine s_one 3 (by kernel_rfl) ?_
    refine p_eff rfl hf trivial rfl rfl (Ef.mono (ef_call (vs := [.agg #[.int .i64 c.n, .slice A c.gs.length cc, .map (some bV)], .int .i64 (i : Int), .int .i64 (j : Int)]) hf rfl ff_107 (F107 _ bV hBV c A cc hr_c.top hc i hi j (by omega))) (fun _ _ h => ⟨fun _ => by obtain ⟨rfl, hK, hbn⟩ := h; exact hK.keep, h⟩)) ?_; rintro a _ w6 ⟨rfl, hK, hbn⟩ hf
    obtain ⟨wm, hO, hm, hE⟩ := hK.mid; clear hm
    have hold := hBV
    replace hB4 := hB4.onlyM hO hold
    replace hB8 := hB8.onlyM hO hold
    replace hr_c := hr_c.onlyM hO hold
    replace hr_s := hr_s.onlyM hO hold
    replace hW := hW.self hO
    replace hB4 := hB4.below hE
    replace hB8 := hB8.below hE
    replace hr_c := hr_c.below hE
    replace hr_s := hr_s.below hE
    replace hW := ktr hW hE
    clear hold hE hO hK; replace hBV := hbn; clear hbn
    refine s_e0 4 rfl (by kernel_rfl) hf rfl (fun _ => ev_move hf rfl) ?_; intro a hf
    refine g_split hf (t := 47) rfl (fun hg31 => ?_) (fun hg31 => ?_)
    ·refine s_ev0 5 rfl (by kernel_rfl) hf ⟨_, _, rfl, rfl, hg31⟩ rfl rfl (fun _ => ev_move hf rfl) ?_; intro a hf
     refine s_ev0 6 rfl (by kernel_rfl) hf ⟨_, _, rfl, rfl, hg31⟩ rfl rfl (fun _ => ev_move hf rfl) ?_; intro a hf
     refine s_indexVM (k := i) (u := (s.getD i 0)) (enc := encI) (l := s) 7 rfl (by kernel_rfl) hf ⟨_, _, rfl, rfl, hg31⟩ rfl hBV rfl rfl sl_36 sz_3 encI_len hr_s (getD_get (by omega)) rfl ?_; intro a p33 hat32 hat32n hf
     refine s_evV 8 rfl (by kernel_rfl) (by kernel_rfl) hf ⟨_, _, rfl, rfl, hg31⟩ rfl rfl (fun w1 h1 => ev_load1 hf rfl t1_3 (hat32.only h1 hat32n)) ?_; intro a hf
     refine s_ev0 9 rfl (by kernel_rfl) hf ⟨_, _, rfl, rfl, hg31⟩ rfl rfl (fun _ => ev_move hf rfl) ?_; intro a hf
     refine s_ev0 10 rfl (by kernel_rfl) hf ⟨_, _, rfl, rfl, hg31⟩ rfl rfl (fun _ => ev_move hf rfl) ?_; intro a hf
     refine s_indexVM (k := j) (u := (s.getD j 0)) (enc := encI) (l := s) 11 rfl (by kernel_rfl) hf ⟨_, _, rfl, rfl, hg31⟩ rfl hBV rfl rfl sl_36 sz_3 encI_len hr_s (getD_get (by omega)) rfl ?_; intro a p35 hat34 hat34n hf
     refine s_evV 12 rfl (by kernel_rfl) (by kernel_rfl) hf ⟨_, _, rfl, rfl, hg31⟩ rfl rfl (fun w1 h1 => ev_load1 hf rfl t1_3 (hat34.only h1 hat34n)) ?_; intro a hf
     refine s_ev0 13 rfl (by kernel_rfl) hf ⟨_, _, rfl, rfl, hg31⟩ rfl rfl (fun _ => ev_leq hf rfl rfl) ?_; intro a hf
     refine s_e0 14 rfl (by kernel_rfl) hf rfl (fun _ => ev_pickT hf rfl hg31 rfl) ?_; intro a hf
     refine s_done (by kernel_rfl) ?_
     exact ⟨hf.sub ⟨rfl, rfl, rfl, rfl, rfl, rfl, look_bool rfl (by first | rfl | (simp only [hc21b, hc27b, hg31, Bool.true_and, Bool.false_and, Bool.true_or, Bool.false_or]; done) | simp [hc21b, hc27b, hg31]), trivial⟩, hBV, hB4, hB8, hr_c, hr_s, hW⟩
    ·refine s_pass 5 rfl (by kernel_rfl) hf ⟨_, _, rfl, rfl, hg31⟩ rfl rfl ?_; intro a hf
     refine s_pass 6 rfl (by kernel_rfl) hf ⟨_, _, rfl, rfl, hg31⟩ rfl rfl ?_; intro a hf
     refine s_pass 7 rfl (by kernel_rfl) hf ⟨_, _, rfl, rfl, hg31⟩ rfl rfl ?_; intro a hf
     refine s_pass 8 rfl (by kernel_rfl) hf ⟨_, _, rfl, rfl, hg31⟩ rfl rfl ?_; intro a hf
     refine s_pass 9 rfl (by kernel_rfl) hf ⟨_, _, rfl, rfl, hg31⟩ rfl rfl ?_; intro a hf
     refine s_pass 10 rfl (by kernel_rfl) hf ⟨_, _, rfl, rfl, hg31⟩ rfl rfl ?_; intro a hf
     refine s_pass 11 rfl (by kernel_rfl) hf ⟨_, _, rfl, rfl, hg31⟩ rfl rfl ?_; intro a hf
     refine s_pass 12 rfl (by kernel_rfl) hf ⟨_, _, rfl, rfl, hg31⟩ rfl rfl ?_; intro a hf
     refine s_pass 13 rfl (by kernel_rfl) hf ⟨_, _, rfl, rfl, hg31⟩ rfl rfl ?_; intro a hf
     refine s_e0 14 rfl (by kernel_rfl) hf rfl (fun _ => ev_pickF hf rfl hg31 rfl) ?_; intro a hf
     refine s_done (by kernel_rfl) ?_
     exact ⟨hf.sub ⟨rfl, rfl, rfl, rfl, rfl, rfl, look_bool rfl (by first | rfl | (simp only [hc21b, hc27b, hg31, Bool.true_and, Bool.false_and, Bool.true_or, Bool.false_or]; done) | simp [hc21b, hc27b, hg31]), trivial⟩, hBV, hB4, hB8, hr_c, hr_s, hW⟩
   rintro a w7 ⟨hf, hBV, hB4, hB8, hr_c, hr_s, hW⟩
   refine hK30 _ _ ?_; try clear hK30 K30
   refine c_if hf rfl (fun hc36 => ?_) (fun hc36 => ?_)
   ·have hc36b := hc36
    have hp := hc36
    rw [ey] at hp
    have hfin := flh_2 ey h38 (range_hit (j := j) (by omega) hp)
    refine wp_seq_k ?_; intro K37 hK37
    refine wp_region_lit ?_
    refine l_as hf rfl rfl ?_; intro a hf
    refine wpList_nil ?_
    refine hK37 _ _ ?_; try clear hK37 K37
    refine wp_ret ?_
    refine x_retB ?_
    refine x_retS ?_
    refine x_retS ?_
    refine x_retB ?_
    refine x_retS ?_
    refine c_ret hf (res1 hf rfl rfl) ?_
    exact ⟨by rw [hfin], hW, hBV⟩
   ·have hc36b := hc36
    have hp := hc36
    rw [ey] at hp
    have hnA := range_next hA hp
    refine wp_skip ?_
    refine x_norm ?_
    refine hK28 _ _ ?_; try clear hK28 K28
    refine wp_region_lit ?_
    refine l_e hf rfl (ev_addx hf rfl rfl (by omega) (by omega)) ?_; intro a hf
    refine l_mv hf rfl rfl ?_; intro a hf
    refine wpList_nil ?_
    refine x_thenN ?_
    exact ⟨j + 1, ⟨hf.sub ⟨rfl, rfl, rfl, rfl, rfl, rfl, trivial⟩, (by omega), hnA, hBV, hB4, hB8, hr_c, hr_s, hW⟩, (by omega)⟩
  ·have hc27b := hc27
   have hc27 := of_decide_eq_false hc27
   have hA2 := hA
   rw [show j = i from by omega] at hA2
   refine wp_exit ?_
   refine x_exS ?_
   refine x_exS ?_
   refine x_exit ?_
   refine hK23 _ _ ?_; try clear hK23 K23
   refine wp_seq_k ?_; intro K38 hK38
   refine wp_seq_k ?_; intro K39 hK39
   refine wp_region_lit ?_
   refine l_mv hf rfl rfl ?_; intro a hf
   refine l_mv hf rfl rfl ?_; intro a hf
   refine wpList_nil ?_
   refine hK39 _ _ ?_; try clear hK39 K39
   refine wp_block ?_
   refine c_loop (σ := Nat) (fun (q : Nat) (a : Act) (w : World) => Fr a 83 [(1, .int .i64 (i : Int)), (2, .slice B s.length cs), (3, .pointer (some ⟨b4, 0, none⟩)), (7, .pointer (some ⟨b8, 0, none⟩)), (59, .int .i64 (i : Int)), (60, .int .i64 (q : Int))] ∧ (q ≤ i) ∧ ((List.range q).any (qB c.gs s y (s.getD i 0)) = false) ∧ MemoG w bV ∧ Blk w b4 104 [.int .i64 c.n, .slice A c.gs.length cc, .map (some bV)] ∧ Blk w b8 107 [.int .i64 y.k, .int .i64 y.a, .int .i64 y.b] ∧ Rd w w0.heap.size 107 encG A c.gs ∧ Rd w w0.heap.size 3 encI B s ∧ Kept bV w0.heap.size w0 w) (fun (q : Nat) => i - q) 0 ?_ ?_
   · exact ⟨hf.sub ⟨rfl, rfl, rfl, rfl, rfl, rfl, trivial⟩, (Nat.zero_le _), rfl, hBV, hB4, hB8, hr_c, hr_s, hW⟩
   rintro q a w8 ⟨hf, hq, hB, hBV, hB4, hB8, hr_c, hr_s, hW⟩
   refine wp_seq_k ?_; intro K40 hK40
   refine wp_region_lit ?_
   refine l_e hf rfl (ev_lss hf rfl rfl) ?_; intro a hf
   refine wpList_nil ?_
   refine hK40 _ _ ?_; try clear hK40 K40
   refine wp_seq_k ?_; intro K41 hK41
   refine c_if hf rfl (fun hc42 => ?_) (fun hc42 => ?_)
   ·have hc42b := hc42
    have hc42 := of_decide_eq_true hc42
    refine wp_skip ?_
    refine hK41 _ _ ?_; try clear hK41 K41
    refine wp_seq_k ?_; intro K43 hK43
    refine wp_block ?_
    refine wp_seq_k ?_; intro K44 hK44
    refine wp_region_lit ?_
    refine l_mv hf rfl rfl ?_; intro a hf
    refine l_as hf rfl rfl ?_; intro a hf
    refine wpList_nil ?_
    refine hK44 _ _ ?_; try clear hK44 K44
    refine wp_seq_k ?_; intro K45 hK45
    refine c_cut (fun a w => Fr a 83 [(1, .int .i64 (i : Int)), (2, .slice B s.length cs), (3, .pointer (some ⟨b4, 0, none⟩)), (7, .pointer (some ⟨b8, 0, none⟩)), (59, .int .i64 (i : Int)), (60, .int .i64 (q : Int)), (81, .bool (((s.getD q 0) == (s.getD i 0)) && (comI (c.gs.getD q gZ) y)))] ∧ Below w8.heap.size w8 w) ?_ ?_
    ·have hEc : Below w8.heap.size w8 w8 := Below.refl _ _
     refine wp_draw none (fun _ => false) mixed ?_
     intro w9 hE
     replace hBV := hBV.below hE
     replace hB4 := hB4.below hE
     replace hB8 := hB8.below hE
     replace hr_c := hr_c.below hE
     replace hr_s := hr_s.below hE
     replace hW := ktr hW hE
     replace hEc := btr hEc hE
     clear hE
     refine s_e0 0 rfl (by kernel_rfl) hf rfl (fun _ => ev_move hf rfl) ?_; intro a hf
     refine s_e0 1 rfl (by kernel_rfl) hf rfl (fun _ => ev_move hf rfl) ?_; intro a hf
     refine s_index (k := q) (u := (s.getD q 0)) (enc := encI) (l := s) 2 rfl (by kernel_rfl) (by kernel_rfl) hf trivial rfl rfl rfl sl_36 sz_3 encI_len hr_s (getD_get (by omega)) rfl ?_; intro a p47 hat46 hf
     refine s_e 3 rfl (by kernel_rfl) (by kernel_rfl) hf rfl (ev_load1 hf rfl t1_3 hat46) ?_; intro a hf
     refine s_e0 4 rfl (by kernel_rfl) hf rfl (fun _ => ev_move hf rfl) ?_; intro a hf
     refine s_e0 5 rfl (by kernel_rfl) hf rfl (fun _ => ev_move hf rfl) ?_; intro a hf
     refine s_index (k := i) (u := (s.getD i 0)) (enc := encI) (l := s) 6 rfl (by kernel_rfl) (by kernel_rfl) hf trivial rfl rfl rfl sl_36 sz_3 encI_len hr_s (getD_get (by omega)) rfl ?_; intro a p49 hat48 hf
     refine s_e 7 rfl (by kernel_rfl) (by kernel_rfl) hf rfl (ev_load1 hf rfl t1_3 hat48) ?_; intro a hf
     refine s_e0 8 rfl (by kernel_rfl) hf rfl (fun _ => ev_eql hf rfl rfl) ?_; intro a hf
     refine s_e0 9 rfl (by kernel_rfl) hf rfl (fun _ => ev_move hf rfl) ?_; intro a hf
     refine g_split hf (t := 72) rfl (fun hg50 => ?_) (fun hg50 => ?_)
     ·refine s_ev0 10 rfl (by kernel_rfl) hf ⟨_, _, rfl, rfl, hg50⟩ rfl rfl (fun _ => ev_fieldB hf rfl fd_104_0 (m := 0) rfl) ?_; intro a hf
      refine s_ev0 11 rfl (by kernel_rfl) hf ⟨_, _, rfl, rfl, hg50⟩ rfl rfl (fun _ => ev_fieldB hf rfl fd_41_1 (m := 1) rfl) ?_; intro a hf
      refine s_ev 12 rfl (by kernel_rfl) (by kernel_rfl) hf ⟨_, _, rfl, rfl, hg50⟩ rfl rfl (ev_load1 hf rfl t1_28 (hB4.at 1)) ?_; intro a hf
      refine s_ev0 13 rfl (by kernel_rfl) hf ⟨_, _, rfl, rfl, hg50⟩ rfl rfl (fun _ => ev_move hf rfl) ?_; intro a hf
      refine s_index (k := q) (u := (c.gs.getD q gZ)) (enc := encG) (l := c.gs) 14 rfl (by kernel_rfl) (by kernel_rfl) hf ⟨_, _, rfl, rfl, hg50⟩ rfl rfl rfl sl_28 sz_107 encG_len hr_c (getDG (by omega)) rfl ?_; intro a p52 hat51 hf
      refine s_ev 15 rfl (by kernel_rfl) (by kernel_rfl) hf ⟨_, _, rfl, rfl, hg50⟩ rfl rfl (ev_loadN (l := [.int .i64 ((c.gs.getD q gZ).k), .int .i64 ((c.gs.getD q gZ).a), .int .i64 ((c.gs.getD q gZ).b)]) hf rfl tN_107 hat51 rfl) ?_; intro a hf
      refine s_ev 16 rfl (by kernel_rfl) (by kernel_rfl) hf ⟨_, _, rfl, rfl, hg50⟩ rfl rfl (ev_loadN (l := [.int .i64 y.k, .int .i64 y.a, .int .i64 y.b]) hf rfl tN_107 (hB8.at 0) rfl) ?_; intro a hf
      refine s_one 17 (by kernel_rfl) ?_
      refine p_eff rfl hf ⟨_, _, rfl, rfl, hg50⟩ rfl rfl (Ef.mono (ef_call (vs := [.agg #[.int .i64 ((c.gs.getD q gZ).k), .int .i64 ((c.gs.getD q gZ).a), .int .i64 ((c.gs.getD q gZ).b)], .agg #[.int .i64 y.k, .int .i64 y.a, .int .i64 y.b]]) hf rfl ff_108 (F108 _ (c.gs.getD q gZ) y)) (fun _ _ h => ⟨fun _ => by obtain ⟨rfl, hE⟩ := h; exact hE, h⟩)) ?_; rintro a _ w10 ⟨rfl, hE⟩ hf
      replace hBV := hBV.below hE
      replace hB4 := hB4.below hE
      replace hB8 := hB8.below hE
      replace hr_c := hr_c.below hE
      replace hr_s := hr_s.below hE
      replace hW := ktr hW hE
      replace hEc := btr hEc hE
      clear hE
      refine s_e0 18 rfl (by kernel_rfl) hf rfl (fun _ => ev_pickT hf rfl hg50 rfl) ?_; intro a hf
      refine s_done (by kernel_rfl) ?_
      have hEE : Below w8.heap.size w8 w10 := hEc
      exact ⟨hf.sub ⟨rfl, rfl, rfl, rfl, rfl, rfl, look_bool rfl (by first | rfl | (simp only [hc21b, hc27b, hc42b, hg50, Bool.true_and, Bool.false_and, Bool.true_or, Bool.false_or]; done) | simp [hc21b, hc27b, hc42b, hg50]), trivial⟩, hEE⟩
     ·refine s_pass 10 rfl (by kernel_rfl) hf ⟨_, _, rfl, rfl, hg50⟩ rfl rfl ?_; intro a hf
      refine s_pass 11 rfl (by kernel_rfl) hf ⟨_, _, rfl, rfl, hg50⟩ rfl rfl ?_; intro a hf
      refine s_pass 12 rfl (by kernel_rfl) hf ⟨_, _, rfl, rfl, hg50⟩ rfl rfl ?_; intro a hf
      refine s_pass 13 rfl (by kernel_rfl) hf ⟨_, _, rfl, rfl, hg50⟩ rfl rfl ?_; intro a hf
      refine s_pass 14 rfl (by kernel_rfl) hf ⟨_, _, rfl, rfl, hg50⟩ rfl rfl ?_; intro a hf
      refine s_pass 15 rfl (by kernel_rfl) hf ⟨_, _, rfl, rfl, hg50⟩ rfl rfl ?_; intro a hf
      refine s_pass 16 rfl (by kernel_rfl) hf ⟨_, _, rfl, rfl, hg50⟩ rfl rfl ?_; intro a hf
      refine s_one 17 (by kernel_rfl) ?_
      refine p_pass rfl hf ⟨_, _, rfl, rfl, hg50⟩ rfl rfl ?_; intro a hf
      refine s_e0 18 rfl (by kernel_rfl) hf rfl (fun _ => ev_pickF hf rfl hg50 rfl) ?_; intro a hf
      refine s_done (by kernel_rfl) ?_
      have hEE : Below w8.heap.size w8 w9 := hEc
      exact ⟨hf.sub ⟨rfl, rfl, rfl, rfl, rfl, rfl, look_bool rfl (by first | rfl | (simp only [hc21b, hc27b, hc42b, hg50, Bool.true_and, Bool.false_and, Bool.true_or, Bool.false_or]; done) | simp [hc21b, hc27b, hc42b, hg50]), trivial⟩, hEE⟩
    rintro a w11 ⟨hf, hE⟩
    replace hBV := hBV.below hE
    replace hB4 := hB4.below hE
    replace hB8 := hB8.below hE
    replace hr_c := hr_c.below hE
    replace hr_s := hr_s.below hE
    replace hW := ktr hW hE
    clear hE
    refine hK45 _ _ ?_; try clear hK45 K45
    refine c_if hf rfl (fun hc53 => ?_) (fun hc53 => ?_)
    ·have hc53b := hc53
     have hfin := flh_3 ey h38 hA2 (range_hit (j := q) (by omega) hc53)
     refine wp_seq_k ?_; intro K54 hK54
     refine wp_region_lit ?_
     refine l_as hf rfl rfl ?_; intro a hf
     refine wpList_nil ?_
     refine hK54 _ _ ?_; try clear hK54 K54
     refine wp_ret ?_
     refine x_retB ?_
     refine x_retS ?_
     refine x_retS ?_
     refine x_retB ?_
     refine x_retS ?_
     refine c_ret hf (res1 hf rfl rfl) ?_
     exact ⟨by rw [hfin], hW, hBV⟩
    ·have hc53b := hc53
     have hnB := range_next hB hc53
     refine wp_skip ?_
     refine x_norm ?_
     refine hK43 _ _ ?_; try clear hK43 K43
     refine wp_region_lit ?_
     refine l_e hf rfl (ev_addx hf rfl rfl (by omega) (by omega)) ?_; intro a hf
     refine l_mv hf rfl rfl ?_; intro a hf
     refine wpList_nil ?_
     refine x_thenN ?_
     exact ⟨q + 1, ⟨hf.sub ⟨rfl, rfl, rfl, rfl, rfl, rfl, trivial⟩, (by omega), hnB, hBV, hB4, hB8, hr_c, hr_s, hW⟩, (by omega)⟩
   ·have hc42b := hc42
    have hc42 := of_decide_eq_false hc42
    rw [show q = i from by omega] at hB
    have hfin := flh_0 ey h38 hA2 hB
    refine wp_exit ?_
    refine x_exS ?_
    refine x_exS ?_
    refine x_exit ?_
    refine hK38 _ _ ?_; try clear hK38 K38
    refine wp_seq_k ?_; intro K55 hK55
    refine wp_region_lit ?_
    refine l_as hf rfl rfl ?_; intro a hf
    refine wpList_nil ?_
    refine hK55 _ _ ?_; try clear hK55 K55
    refine wp_ret ?_
    refine c_ret hf (res1 hf rfl rfl) ?_
    exact ⟨by rw [hfin], hW, hBV⟩
end Go.Proofs.YtfgnmflfiobkmaaGreat
set_option maxRecDepth 4000
namespace Go.Proofs.YtfgnmflfiobkmaaGreat
open Go.RowKit
theorem F18 (w0 : World) (c : Cx) (Ac : Option Addr) (cc : Nat) (hr_c : Rd w0 w0.heap.size 107 encG Ac c.gs) (As : Option Addr) (cs : Nat) (s : List Int) (hr_s : Rd w0 w0.heap.size 3 encI As s) (hln : c.gs.length ≤ 2305843009213693951) : Ret Tryz.prog 18 [.agg #[.int .i64 c.n, .slice Ac c.gs.length cc], .slice As s.length cs] w0 (fun v w => v = .tuple #[.int .i64 ((implC c s).1), .int .i64 ((implC c s).2.1), .bool ((implC c s).2.2)] ∧ Below w0.heap.size w0 w) := by
 refine enter Tryz.func18 rfl 37 rfl rfl ?_
 intro a hf
 have hW : Below w0.heap.size w0 w0 := Below.refl _ _
 refine wp_seq_k ?_; intro K3 hK3
 refine wp_region_lit ?_
 refine l_f hf rfl (ef_box (zs := [.int .i64 c.n, .slice Ac c.gs.length cc]) hf rfl rfl) ?_; rintro a _ w1 ⟨b4, rfl, hl4, hE, hB4⟩ hf
 have hlo4 := Nat.le_trans hW.size hl4
 replace hr_c := hr_c.below hE
 replace hr_s := hr_s.below hE
 replace hW := btr hW hE
 clear hE
 refine l_as hf rfl rfl ?_; intro a hf
 refine l_as hf rfl rfl ?_; intro a hf
 refine l_as hf rfl rfl ?_; intro a hf
 refine wpList_nil ?_
 refine hK3 _ _ ?_; try clear hK3 K3
 refine wp_seq_k ?_; intro K5 hK5
 refine wp_seq_k ?_; intro K6 hK6
 refine wp_region_lit ?_
 refine l_e hf rfl (ev_loadN (l := [.int .i64 c.n, .slice Ac c.gs.length cc]) hf rfl tN_41 (hB4.at 0) rfl) ?_; intro a hf
 refine l_f hf rfl (ef_call (vs := [.agg #[.int .i64 c.n, .slice Ac c.gs.length cc]]) hf rfl ff_55 (F55 _ c Ac cc hr_c.top hln)) ?_; rintro a _ w2 ⟨rfl, hE⟩ hf
 replace hB4 := hB4.below hE
 replace hr_c := hr_c.below hE
 replace hr_s := hr_s.below hE
 replace hW := btr hW hE
 clear hE
 refine l_e hf rfl (ev_not hf rfl) ?_; intro a hf
 refine wpList_nil ?_
 refine hK6 _ _ ?_; try clear hK6 K6
 refine c_if hf rfl (fun hc7 => ?_) (fun hc7 => ?_)
 ·have hc7b := hc7
  have hfin : implC c s = (0, 0, false) := by rw [implC, if_neg]; revert hc7; cases cOk c <;> simp
  refine wp_seq_k ?_; intro K8 hK8
  refine wp_region_lit ?_
  refine l_as hf rfl rfl ?_; intro a hf
  refine l_as hf rfl rfl ?_; intro a hf
  refine l_as hf rfl rfl ?_; intro a hf
  refine wpList_nil ?_
  refine hK8 _ _ ?_; try clear hK8 K8
  refine wp_ret ?_
  refine x_retS ?_
  refine c_ret hf (res3 hf rfl rfl rfl rfl) ?_
  exact ⟨by rw [hfin], hW⟩
 ·have hc7b := hc7
  have hc : cOk c = true := by revert hc7; cases cOk c <;> simp
  have hy : implC c s = ((schedI c.gs s).1, (schedI c.gs s).2, true) := by rw [implC, if_pos hc]
  refine wp_skip ?_
  refine hK5 _ _ ?_; try clear hK5 K5
  refine wp_seq_k ?_; intro K9 hK9
  refine wp_seq_k ?_; intro K10 hK10
  refine wp_region_lit ?_
  refine l_mv hf rfl rfl ?_; intro a hf
  refine l_e hf rfl (ev_len hf rfl sl_36) ?_; intro a hf
  refine l_e hf rfl (ev_fieldB hf rfl fd_41_1 (m := 1) rfl) ?_; intro a hf
  refine l_e hf rfl (ev_load1 hf rfl t1_28 (hB4.at 1)) ?_; intro a hf
  refine l_e hf rfl (ev_len hf rfl sl_28) ?_; intro a hf
  refine l_e hf rfl (ev_neq hf rfl rfl) ?_; intro a hf
  refine wpList_nil ?_
  refine hK10 _ _ ?_; try clear hK10 K10
  refine c_if hf rfl (fun hc11 => ?_) (fun hc11 => ?_)
  ·have hc11b := hc11
   have hfin : implC c s = (1, 0, true) := by rw [hy, schedI, if_neg]; simp at hc11; omega
   refine wp_seq_k ?_; intro K12 hK12
   refine wp_region_lit ?_
   refine l_as hf rfl rfl ?_; intro a hf
   refine l_as hf rfl rfl ?_; intro a hf
   refine l_as hf rfl rfl ?_; intro a hf
   refine wpList_nil ?_
   refine hK12 _ _ ?_; try clear hK12 K12
   refine wp_ret ?_
   refine x_retS ?_
   refine c_ret hf (res3 hf rfl rfl rfl rfl) ?_
   exact ⟨by rw [hfin], hW⟩
  ·have hc11b := hc11
   have hls : s.length = c.gs.length := by simp at hc11; omega
   refine wp_skip ?_
   refine hK9 _ _ ?_; try clear hK9 K9
   refine wp_seq_k ?_; intro K13 hK13
   refine wp_region_lit ?_
   refine l_e hf rfl (ev_loadN (l := [.int .i64 c.n, .slice Ac c.gs.length cc]) hf rfl tN_41 (hB4.at 0) rfl) ?_; intro a hf
   refine l_f hf rfl (ef_makeMemo) ?_; rintro a _ w3 ⟨b14, rfl, hl14, hE, hB14⟩ hf
   have hlo14 := Nat.le_trans hW.size hl14
   replace hB4 := hB4.below hE
   replace hr_c := hr_c.below hE
   replace hr_s := hr_s.below hE
   replace hW := btr hW hE
   clear hE
   refine l_e hf rfl (ev_build (ps := [(0, .agg #[.int .i64 c.n, .slice Ac c.gs.length cc]), (1, .map (some b14))]) (cs := [.int .i64 c.n, .slice Ac c.gs.length cc, .map (some b14)]) hf rfl (fun _ => by first | rfl | kernel_rfl)) ?_; intro a hf
   refine l_f hf rfl (ef_alloc (zs := [.int .i64 0, .slice none 0 0, .map none]) z_104 rfl) ?_; rintro a _ w4 ⟨b17, rfl, hl17, hE, hB17⟩ hf
   have hlo17 := Nat.le_trans hW.size hl17
   replace hB4 := hB4.below hE
   replace hB14 := hB14.below hE
   replace hr_c := hr_c.below hE
   replace hr_s := hr_s.below hE
   replace hW := btr hW hE
   clear hE
   refine l_f0 hf (ef_store (vs := [.int .i64 c.n, .slice Ac c.gs.length cc, .map (some b14)]) (l' := [.int .i64 c.n, .slice Ac c.gs.length cc, .map (some b14)]) hf rfl rfl sz_104 hB17 rfl rfl rfl rfl rfl) ?_; rintro a _ w5 ⟨ho, hb⟩ hf
   have hold := hB17
   replace hB4 := hB4.only ho (Blk.ne hB4 hold rfl)
   replace hB14 := hB14.only ho (hB14.ne hold)
   replace hr_c := hr_c.onlyT ho hold rfl
   replace hr_s := hr_s.onlyT ho hold rfl
   replace hW := Below.only hW ho hlo17
   clear hold
   have hB17 := hb
   clear hb ho
   refine wpList_nil ?_
   refine hK13 _ _ ?_; try clear hK13 K13
   refine wp_seq_k ?_; intro K18 hK18
   refine wp_seq_k ?_; intro K19 hK19
   refine wp_region_lit ?_
   refine l_e hf rfl (ev_fieldB hf rfl fd_41_1 (m := 1) rfl) ?_; intro a hf
   refine l_e hf rfl (ev_load1 hf rfl t1_28 (hB4.at 1)) ?_; intro a hf
   refine l_e hf rfl (ev_len hf rfl sl_28) ?_; intro a hf
   refine l_mv hf rfl rfl ?_; intro a hf
   refine wpList_nil ?_
   refine hK19 _ _ ?_; try clear hK19 K19
   refine wp_block ?_
   refine c_loop (σ := Nat) (fun (i : Nat) (a : Act) (w : World) => Fr a 37 [(1, .slice As s.length cs), (7, .pointer (some ⟨b17, 0, none⟩)), (24, .int .i64 (c.gs.length : Int)), (25, .int .i64 (i : Int))] ∧ (i ≤ c.gs.length) ∧ (firstF (faultI c.gs s) (c.gs.length - i) i = schedI c.gs s) ∧ Blk w b4 41 [.int .i64 c.n, .slice Ac c.gs.length cc] ∧ MemoG w b14 ∧ Blk w b17 104 [.int .i64 c.n, .slice Ac c.gs.length cc, .map (some b14)] ∧ Rd w w0.heap.size 107 encG Ac c.gs ∧ Rd w w0.heap.size 3 encI As s ∧ Below w0.heap.size w0 w) (fun (i : Nat) => c.gs.length - i) 0 ?_ ?_
   · exact ⟨hf.sub ⟨rfl, rfl, rfl, rfl, trivial⟩, (Nat.zero_le _), (by rw [schedI, if_pos hls]; rfl), hB4, hB14, hB17, hr_c, hr_s, hW⟩
   rintro i a w6 ⟨hf, hi, hinv, hB4, hB14, hB17, hr_c, hr_s, hW⟩
   refine wp_seq_k ?_; intro K20 hK20
   refine wp_region_lit ?_
   refine l_e hf rfl (ev_lss hf rfl rfl) ?_; intro a hf
   refine wpList_nil ?_
   refine hK20 _ _ ?_; try clear hK20 K20
   refine wp_seq_k ?_; intro K21 hK21
   refine c_if hf rfl (fun hc22 => ?_) (fun hc22 => ?_)
   ·have hc22b := hc22
    have hc22 := of_decide_eq_true hc22
    obtain ⟨u23, hu23⟩ := getElem_ex (l := c.gs) (k := i) (by omega)
    have hin : i < c.gs.length := by omega
    refine wp_skip ?_
    refine hK21 _ _ ?_; try clear hK21 K21
    refine wp_seq_k ?_; intro K24 hK24
    refine wp_block ?_
    refine wp_seq_k ?_; intro K25 hK25
    refine wp_region_lit ?_
    refine l_mv hf rfl rfl ?_; intro a hf
    refine l_as hf rfl rfl ?_; intro a hf
    refine wpList_nil ?_
    refine hK25 _ _ ?_; try clear hK25 K25
    refine wp_seq_k ?_; intro K26 hK26
    refine wp_region_lit ?_
    refine l_e hf rfl (ev_loadN (l := [.int .i64 c.n, .slice Ac c.gs.length cc, .map (some b14)]) hf rfl tN_104 (hB17.at 0) rfl) ?_; intro a hf
    refine l_mv hf rfl rfl ?_; intro a hf
    refine l_mv hf rfl rfl ?_; intro a hf
    refine l_f hf rfl (ef_call (vs := [.agg #[.int .i64 c.n, .slice Ac c.gs.length cc, .map (some b14)], .int .i64 (i : Int), .slice As s.length cs]) hf rfl ff_56 (F56 _ b14 hB14 c Ac cc hr_c.top hc i hin As cs s hr_s.top hls)) ?_; rintro a _ w7 ⟨rfl, hK, hbn⟩ hf
    obtain ⟨wm, hO, hm, hE⟩ := hK.mid; clear hm
    have hold := hB14
    replace hB4 := hB4.onlyM hO hold
    replace hB17 := hB17.onlyM hO hold
    replace hr_c := hr_c.onlyM hO hold
    replace hr_s := hr_s.onlyM hO hold
    replace hW := Below.only hW hO hlo14
    replace hB4 := hB4.below hE
    replace hB17 := hB17.below hE
    replace hr_c := hr_c.below hE
    replace hr_s := hr_s.below hE
    replace hW := btr hW hE
    clear hold hE hO hK; replace hB14 := hbn; clear hbn
    refine l_as hf rfl rfl ?_; intro a hf
    refine wpList_nil ?_
    refine hK26 _ _ ?_; try clear hK26 K26
    refine wp_seq_k ?_; intro K27 hK27
    refine wp_region_lit ?_
    refine l_mv hf rfl rfl ?_; intro a hf
    refine l_e hf rfl (ev_neq hf rfl rfl) ?_; intro a hf
    refine wpList_nil ?_
    refine hK27 _ _ ?_; try clear hK27 K27
    refine c_if hf rfl (fun hc28 => ?_) (fun hc28 => ?_)
    ·have hc28b := hc28
     have hfin : implC c s = (faultI c.gs s i, (i : Int), true) := by rw [hy, first_hit hinv hin rfl (by simpa using hc28)]
     refine wp_seq_k ?_; intro K29 hK29
     refine wp_region_lit ?_
     refine l_mv hf rfl rfl ?_; intro a hf
     refine l_mv hf rfl rfl ?_; intro a hf
     refine l_as hf rfl rfl ?_; intro a hf
     refine l_as hf rfl rfl ?_; intro a hf
     refine l_as hf rfl rfl ?_; intro a hf
     refine wpList_nil ?_
     refine hK29 _ _ ?_; try clear hK29 K29
     refine wp_ret ?_
     refine x_retB ?_
     refine x_retS ?_
     refine x_retS ?_
     refine x_retB ?_
     refine x_retS ?_
     refine c_ret hf (res3 hf rfl rfl rfl rfl) ?_
     exact ⟨by rw [hfin], hW⟩
    ·have hc28b := hc28
     have hnx := first_next hinv hin (by simpa using hc28)
     refine wp_skip ?_
     refine x_norm ?_
     refine hK24 _ _ ?_; try clear hK24 K24
     refine wp_region_lit ?_
     refine l_e hf rfl (ev_addx hf rfl rfl (by omega) (by omega)) ?_; intro a hf
     refine l_mv hf rfl rfl ?_; intro a hf
     refine wpList_nil ?_
     refine x_thenN ?_
     exact ⟨i + 1, ⟨hf.sub ⟨rfl, rfl, rfl, rfl, trivial⟩, (by omega), hnx, hB4, hB14, hB17, hr_c, hr_s, hW⟩, (by omega)⟩
   ·have hc22b := hc22
    have hc22 := of_decide_eq_false hc22
    have hfin : implC c s = (0, 0, true) := by rw [hy, first_end hinv (by omega)]
    refine wp_exit ?_
    refine x_exS ?_
    refine x_exS ?_
    refine x_exit ?_
    refine hK18 _ _ ?_; try clear hK18 K18
    refine wp_seq_k ?_; intro K30 hK30
    refine wp_region_lit ?_
    refine l_as hf rfl rfl ?_; intro a hf
    refine l_as hf rfl rfl ?_; intro a hf
    refine l_as hf rfl rfl ?_; intro a hf
    refine wpList_nil ?_
    refine hK30 _ _ ?_; try clear hK30 K30
    refine wp_ret ?_
    refine c_ret hf (res3 hf rfl rfl rfl rfl) ?_
    exact ⟨by rw [hfin], hW⟩
end Go.Proofs.YtfgnmflfiobkmaaGreat
namespace Go.Proofs.YtfgnmflfiobkmaaGreat
open Go.RowKit
theorem lowN_zero : ∀ n : Nat, lowN n ⟨0, 0, 0, 0⟩ = (⟨0, 0, 0, 0⟩, 0)
  | 0 => rfl
  | n + 1 => by
    rw [lowN, if_pos (show rEven ⟨0, 0, 0, 0⟩ = true from rfl)]
    exact lowN_zero n
theorem dLow_zero {e : Int} (h : 0 ≤ e) : dLow ⟨0, 0, 0, 0⟩ e = dZ := by
  unfold dLow
  rw [lowN_zero]
  split
  · rfl
  · obtain rfl : e = 0 := by omega
    rfl
theorem dMul_zero {z : Dy} (h : dOk z = true) : dMulI z dZ = some dZ := by
  have hz := dOk_iff.1 h
  have h0 : rMul z.num ⟨0, 0, 0, 0⟩ = ⟨0, 0, 0, 0⟩ := by simp [rMul, wr0]
  have h1 : rOk ⟨0, 0, 0, 0⟩ = true := rfl
  unfold dMulI
  rw [h, dZ_ok, show dZ.num = ⟨0, 0, 0, 0⟩ from rfl, rIf1, rIf2_one hz.1 h1, h0, h1]
  simp only [Bool.and_self, if_true]
  unfold dOf
  rw [h1, show z.exp + dZ.exp = z.exp from by simp [dZ], inR_iff.2 hz.2.1]
  simp only [Bool.and_self, if_true]
  rw [dLow_zero hz.2.1.1]
theorem dLow_self {z : Dy} (h : dOk z = true) : dLow z.num z.exp = z := by
  have hz := dOk_iff.1 h
  exact dLow_stop fun h0 => by rcases hz.2.2 with h4 | h4; exact absurd h4 (by omega); exact h4
theorem raise_zero : ∀ n : Nat, raiseI n ⟨0, 0, 0, 0⟩ = (⟨0, 0, 0, 0⟩, true)
  | 0 => rfl
  | n + 1 => by
    rw [raiseI, show rRoot ⟨0, 0, 0, 0⟩ = ⟨0, 0, 0, 0⟩ from rfl, if_pos (show rIf2 ⟨0, 0, 0, 0⟩ [⟨0, 0, 0, 0⟩] = true from rfl)]
    exact raise_zero n
theorem rAdd_zero {x : Rg} (h : rOk x = true) : rAdd ⟨0, 0, 0, 0⟩ x = x ∧ rAdd x ⟨0, 0, 0, 0⟩ = x := by
  have h1 := rOk_iff.1 h
  obtain ⟨a, b, c, d⟩ := x
  dsimp only at h1
  simp only [rAdd, Int.zero_add, Int.add_zero]
  rw [wr_in (by omega) (by omega), wr_in (by omega) (by omega), wr_in (by omega) (by omega), wr_in (by omega) (by omega)]
  exact ⟨rfl, rfl⟩
theorem dAdd_zero {z : Dy} (h : dOk z = true) : dAddI dZ z = some z ∧ dAddI z dZ = some z := by
  have hz := dOk_iff.1 h
  have e1 : max dZ.exp z.exp = z.exp := by simp only [dZ]; omega
  have e2 : max z.exp dZ.exp = z.exp := by simp only [dZ]; omega
  have r1 : dRaise dZ z.exp = (⟨0, 0, 0, 0⟩, true) := raise_zero _
  have r2 : dRaise z z.exp = (z.num, true) := by unfold dRaise; rw [show (z.exp - z.exp).toNat = 0 from by omega]; rfl
  have a := rAdd_zero hz.1
  have h0 : rOk ⟨0, 0, 0, 0⟩ = true := rfl
  have hof : dOf z.num z.exp = some z := by
    unfold dOf
    rw [hz.1, inR_iff.2 hz.2.1]
    simp only [Bool.and_self, if_true]
    rw [dLow_self h]
  refine ⟨?_, ?_⟩
  · unfold dAddI
    rw [h, dZ_ok, e1, r1, r2, rIf1, a.1, rIf2_one h0 hz.1, hz.1]
    simp only [Bool.and_self, if_true]
    exact hof
  · unfold dAddI
    rw [h, dZ_ok, e2, r1, r2, rIf1, a.2, rIf2_one hz.1 h0, hz.1]
    simp only [Bool.and_self, if_true]
    exact hof
theorem dTurn_zero (z : Dy) : dTurn ((0 : Nat) : Int) z = z := rfl
theorem unit_at {d i j : Nat} (hi : i < d) (hj : j < d) : (unitS d).at i j = if i = j then dPow 0 else dZ := by
  unfold Mx.at unitS
  simp only [Int.toNat_natCast]
  have hlt : i * d + j < d * d := grid_lt hi hj
  rw [List.getD_eq_getElem?_getD, List.getElem?_eq_getElem (by rw [gridL_len]; exact hlt)]
  simp only [gridL, List.getElem_map, List.getElem_range, Option.getD_some]
  exact gridF_at hj
theorem dot_unit {m : Mx} {d i j : Nat} (hm : AllOk m) (hj : j < d) : ∀ n, n ≤ d → dotI m (unitS d) i j n = some (if j < n then m.at i j else dZ)
  | 0, _ => by simp [dotI]
  | n + 1, hn => by
    rw [dotI, dot_unit hm hj n (by omega), unit_at (by omega) hj]
    have hok := Mx.at_ok hm i n
    by_cases h : n = j
    · subst h
      have ht := dMul_turn hok (k := 0) (by decide)
      rw [if_pos rfl, if_neg (Nat.lt_irrefl _), if_pos (Nat.lt_succ_self _)]
      show (dMulI (m.at i n) (dPow ((0 : Nat) : Int))).bind _ = _
      rw [ht, dTurn_zero]
      exact (dAdd_zero hok).1
    · rw [if_neg h]
      simp only [Option.bind_some]
      rw [dMul_zero hok]
      simp only [Option.bind_some]
      by_cases hl : j < n
      · rw [if_pos hl, if_pos (by omega)]
        exact (dAdd_zero (Mx.at_ok hm i j)).2
      · rw [if_neg hl, if_neg (by omega)]
        exact (dAdd_zero dZ_ok).1
theorem seqO_congr {f g : Nat → Option Dy} : ∀ n, (∀ k, k < n → f k = g k) → seqO f n = seqO g n
  | 0, _ => rfl
  | n + 1, h => by rw [seqO, seqO, seqO_congr n (fun k hk => h k (by omega)), h n (by omega)]
theorem matOf_congr {R C : Int} {f g : Nat → Nat → Option Dy} (h : ∀ i j, i < R.toNat → j < C.toNat → f i j = g i j) : matOf R C f = matOf R C g := by
  unfold matOf
  rw [seqO_congr (f := gridG f C.toNat) (g := gridG g C.toNat)]
  intro k hk
  have hc : 0 < C.toNat := by
    rcases Nat.eq_zero_or_pos C.toNat with h0 | h0
    · rw [h0, Nat.mul_zero] at hk; omega
    · exact h0
  exact h _ _ (Nat.div_lt_of_lt_mul (by rwa [Nat.mul_comm])) (Nat.mod_lt _ hc)
theorem gate_at {n : Int} {g : Gt} {i j : Nat} (hi : i < 2 ^ n.toNat) (hj : j < 2 ^ n.toNat) : (gateS n g).at i j = cellS n g i j := by
  unfold Mx.at gateS
  simp only [Int.toNat_natCast]
  rw [List.getD_eq_getElem?_getD, List.getElem?_eq_getElem (by rw [gridL_len]; exact grid_lt hi hj)]
  simp only [gridL, List.getElem_map, List.getElem_range, Option.getD_some]
  exact gridF_at (f := fun i j => cellS n g i j) hj
theorem gate_unit {n : Int} {g : Gt} (hg : gOk n g = true) : mulI (gateS n g) (unitS (2 ^ n.toNat)) = some (gateS n g) := by
  have hok := (gate_eq hg).2
  have hd := isDim_pow (gOk_spec hg).1
  have hu := (idI_unit hd).2
  unfold mulI
  rw [hok, hu, show ((gateS n g).cols == (unitS (2 ^ n.toNat)).rows) = true from by simp [gateS, unitS]]
  simp only [Bool.and_self, if_true]
  rw [show (gateS n g).rows = ((2 ^ n.toNat : Nat) : Int) from rfl, show (gateS n g).cols = ((2 ^ n.toNat : Nat) : Int) from rfl, show (unitS (2 ^ n.toNat)).cols = ((2 ^ n.toNat : Nat) : Int) from rfl]
  simp only [Int.toNat_natCast]
  rw [matOf_congr (g := fun i j => some (cellS n g i j)) fun i j hi hj => ?_, matOf_some hd hd (fun i j => cellS n g i j)]
  · simp only [Int.toNat_natCast]; rfl
  · simp only [Int.toNat_natCast] at hi hj
    rw [dot_unit (mOk_all hok) hj _ (Nat.le_refl _), if_pos hj, gate_at hi hj]
end Go.Proofs.YtfgnmflfiobkmaaGreat
namespace Go.Proofs.YtfgnmflfiobkmaaGreat
open Go.RowKit
def RB (k : Int) (x : Rg) : Prop := (-k ≤ x.a ∧ x.a ≤ k) ∧ (-k ≤ x.b ∧ x.b ≤ k) ∧ (-k ≤ x.c ∧ x.c ≤ k) ∧ (-k ≤ x.d ∧ x.d ≤ k)
def SM (e : Int) (k : Int) (x : Dy) : Prop := dOk x = true ∧ RB k x.num ∧ x.exp ≤ e
theorem RB.ok {k : Int} {x : Rg} (h : RB k x) (hk : k ≤ 1000000000) : rOk x = true := by
  unfold RB at h
  exact rOk_iff.2 (by omega)
theorem RB.root {k : Int} {x : Rg} (h : RB k x) (hk : k ≤ 1000000000) : RB (2 * k) (rRoot x) := by
  unfold RB at *
  simp only [rRoot]
  rw [wr_in (by omega) (by omega), wr_in (by omega) (by omega), wr_in (by omega) (by omega), wr_in (by omega) (by omega)]
  omega
theorem RB.half {k : Int} {x : Rg} (h : RB k x) (h0 : 0 ≤ k) (hk : k ≤ 1000000000) : RB k (rHalf x) := by
  have h1 := h.root hk
  unfold RB at *
  simp only [rHalf]
  have hd : ∀ i : Int, -(2 * k) ≤ i → i ≤ 2 * k → -k ≤ wr (i.tdiv 2) ∧ wr (i.tdiv 2) ≤ k := fun i a b => by
    have : -k ≤ i.tdiv 2 ∧ i.tdiv 2 ≤ k := by
      rcases Int.le_total 0 i with h | h
      · rw [Int.tdiv_eq_ediv_of_nonneg h]; omega
      · have e : i.tdiv 2 = -((-i).tdiv 2) := by rw [Int.neg_tdiv, Int.neg_neg]
        rw [e, Int.tdiv_eq_ediv_of_nonneg (by omega)]; omega
    rw [wr_in (by omega) (by omega)]
    exact this
  exact ⟨hd _ h1.1.1 h1.1.2, hd _ h1.2.1.1 h1.2.1.2, hd _ h1.2.2.1.1 h1.2.2.1.2, hd _ h1.2.2.2.1 h1.2.2.2.2⟩
theorem RB.low {k : Int} (h0 : 0 ≤ k) (hk : k ≤ 1000000000) : ∀ (n : Nat) {x : Rg}, RB k x → RB k (lowN n x).1
  | 0, _, h => h
  | n + 1, x, h => by
    rw [lowN]
    split
    · exact RB.low h0 hk n (h.half h0 hk)
    · exact h
theorem RB.raise {k : Int} (hk : 4 * k ≤ 1000000000) (h0 : 0 ≤ k) {n : Nat} (hn : n ≤ 2) {x : Rg} (h : RB k x) : (raiseI n x).2 = true ∧ RB (4 * k) (raiseI n x).1 := by
  have m : ∀ {a b : Int} {y : Rg}, RB a y → a ≤ b → RB b y := fun h hab => by unfold RB at *; omega
  have step : ∀ {a : Int} {y : Rg}, 0 ≤ a → 2 * a ≤ 1000000000 → RB a y → rIf2 (rRoot y) [y] = true := fun ha h2 h => by
    rw [rIf2_self (h.ok (by omega))]; exact (h.root (by omega)).ok h2
  match n, hn with
  | 0, _ => exact ⟨rfl, m h (by omega)⟩
  | 1, _ =>
    rw [raiseI, if_pos (step h0 (by omega) h)]
    exact ⟨rfl, m (h.root (by omega)) (by omega)⟩
  | 2, _ =>
    have h1 := h.root (by omega)
    rw [raiseI, if_pos (step h0 (by omega) h), raiseI, if_pos (step (by omega) (by omega) h1)]
    exact ⟨rfl, m (h1.root (by omega)) (by omega)⟩
theorem of_small {k e : Int} {x : Rg} (h : RB k x) (h0 : 0 ≤ k) (hk : k ≤ 1000000000) (he : 0 ≤ e) (he2 : e ≤ 60) : ∃ z, dOf x e = some z ∧ SM e k z := by
  refine ⟨dLow x e, ?_, dLow_okI (h.ok hk) he he2, RB.low h0 hk _ h, (dLow_expI he).2⟩
  unfold dOf
  rw [h.ok hk, inR_iff.2 ⟨he, he2⟩]; rfl
theorem one_mul {a b : Int} (ha : -1 ≤ a ∧ a ≤ 1) (hb : -1 ≤ b ∧ b ≤ 1) : -1 ≤ a * b ∧ a * b ≤ 1 := by
  have : a = -1 ∨ a = 0 ∨ a = 1 := by omega
  rcases this with rfl | rfl | rfl <;> omega
theorem w4 : ∀ p q r s : Int, (-1 ≤ p ∧ p ≤ 1) → (-1 ≤ q ∧ q ≤ 1) → (-1 ≤ r ∧ r ≤ 1) → (-1 ≤ s ∧ s ≤ 1) → (-4 ≤ wr (wr (wr (wr p - wr q) - wr r) - wr s) ∧ wr (wr (wr (wr p - wr q) - wr r) - wr s) ≤ 4) ∧ (-4 ≤ wr (wr (wr (wr p + wr q) - wr r) - wr s) ∧ wr (wr (wr (wr p + wr q) - wr r) - wr s) ≤ 4) ∧ (-4 ≤ wr (wr (wr (wr p + wr q) + wr r) - wr s) ∧ wr (wr (wr (wr p + wr q) + wr r) - wr s) ≤ 4) ∧ (-4 ≤ wr (wr (wr (wr p + wr q) + wr r) + wr s) ∧ wr (wr (wr (wr p + wr q) + wr r) + wr s) ≤ 4) := fun p q r s hp hq hr hs => by
  have a1 : wr p = p := wr_in (by omega) (by omega)
  have a2 : wr q = q := wr_in (by omega) (by omega)
  have a3 : wr r = r := wr_in (by omega) (by omega)
  have a4 : wr s = s := wr_in (by omega) (by omega)
  have b1 : wr (p - q) = p - q := wr_in (by omega) (by omega)
  have b2 : wr (p + q) = p + q := wr_in (by omega) (by omega)
  have c1 : wr (p - q - r) = p - q - r := wr_in (by omega) (by omega)
  have c2 : wr (p + q - r) = p + q - r := wr_in (by omega) (by omega)
  have c3 : wr (p + q + r) = p + q + r := wr_in (by omega) (by omega)
  have d1 : wr (p - q - r - s) = p - q - r - s := wr_in (by omega) (by omega)
  have d2 : wr (p + q - r - s) = p + q - r - s := wr_in (by omega) (by omega)
  have d3 : wr (p + q + r - s) = p + q + r - s := wr_in (by omega) (by omega)
  have d4 : wr (p + q + r + s) = p + q + r + s := wr_in (by omega) (by omega)
  rw [a1, a2, a3, a4, b1, b2, c1, c2, c3, d1, d2, d3, d4]
  refine ⟨⟨?_, ?_⟩, ⟨?_, ?_⟩, ⟨?_, ?_⟩, ?_, ?_⟩ <;> omega
theorem mul_small {x y : Dy} (hx : SM 1 1 x) (hy : SM 1 1 y) : ∃ z, dMulI x y = some z ∧ SM 2 4 z := by
  obtain ⟨ox, ⟨xa, xb, xc, xd⟩, ex⟩ := hx
  obtain ⟨oy, ⟨ya, yb, yc, yd⟩, ey⟩ := hy
  have hx0 := dOk_exp ox
  have hy0 := dOk_exp oy
  have hm : RB 4 (rMul x.num y.num) := by
    unfold RB
    simp only [rMul]
    exact ⟨(w4 _ _ _ _ (one_mul xa ya) (one_mul xb yd) (one_mul xc yc) (one_mul xd yb)).1, (w4 _ _ _ _ (one_mul xa yb) (one_mul xb ya) (one_mul xc yd) (one_mul xd yc)).2.1, (w4 _ _ _ _ (one_mul xa yc) (one_mul xb yb) (one_mul xc ya) (one_mul xd yd)).2.2.1, (w4 _ _ _ _ (one_mul xa yd) (one_mul xb yc) (one_mul xc yb) (one_mul xd ya)).2.2.2⟩
  have ho := hm.ok (by decide)
  obtain ⟨z, h1, h2, h3, h4⟩ := of_small hm (by decide) (by decide) (show 0 ≤ x.exp + y.exp by omega) (by omega)
  refine ⟨z, ?_, h2, h3, by omega⟩
  unfold dMulI
  rw [ox, oy, rIf1, rIf2_one (dOk_iff.1 ox).1 (dOk_iff.1 oy).1, ho]
  exact h1
theorem add_small {k : Int} {s x : Dy} (h0 : 0 ≤ k) (hk : 4 * k + 16 ≤ 1000000000) (hs : SM 2 k s) (hx : SM 2 4 x) : ∃ z, dAddI s x = some z ∧ SM 2 (4 * k + 16) z := by
  obtain ⟨os, bs, es⟩ := hs
  obtain ⟨ox, bx, ex⟩ := hx
  have hs0 := dOk_exp os
  have hx0 := dOk_exp ox
  obtain ⟨r1, b1⟩ := bs.raise (n := (max s.exp x.exp - s.exp).toNat) (by omega) h0 (by omega)
  obtain ⟨r2, b2⟩ := bx.raise (n := (max s.exp x.exp - x.exp).toNat) (by decide) (by decide) (by omega)
  have hb : RB (4 * k + 16) (rAdd (dRaise s (max s.exp x.exp)).1 (dRaise x (max s.exp x.exp)).1) := by
    unfold RB at *
    simp only [rAdd, dRaise]
    rw [wr_in (by omega) (by omega), wr_in (by omega) (by omega), wr_in (by omega) (by omega), wr_in (by omega) (by omega)]
    omega
  have ho := hb.ok hk
  obtain ⟨z, h1, h2, h3, h4⟩ := of_small hb (by omega) hk (show 0 ≤ max s.exp x.exp by omega) (by omega)
  refine ⟨z, ?_, h2, h3, by omega⟩
  unfold dAddI
  have i2 : rIf2 (rAdd (dRaise s (max s.exp x.exp)).1 (dRaise x (max s.exp x.exp)).1) [(dRaise s (max s.exp x.exp)).1, (dRaise x (max s.exp x.exp)).1] = true := by
    exact (rIf2_one (x := (dRaise s (max s.exp x.exp)).1) (y := (dRaise x (max s.exp x.exp)).1) (b1.ok (by omega)) (b2.ok (by decide))).trans ho
  rw [os, ox, rIf1, i2, show (dRaise s (max s.exp x.exp)).2 = true from r1, show (dRaise x (max s.exp x.exp)).2 = true from r2]
  exact h1
def dotK : Nat → Int
  | 0 => 0
  | n + 1 => 4 * dotK n + 16
theorem dotK_mono : ∀ n, 0 ≤ dotK n ∧ dotK n ≤ dotK (n + 1)
  | 0 => by decide
  | n + 1 => by have := dotK_mono n; simp only [dotK] at *; omega
theorem dotK_le {n : Nat} (h : n ≤ 8) : dotK n ≤ 1000000000 := by
  have : ∀ d n, n + d = 8 → dotK n ≤ dotK 8 := fun d => by
    induction d with
    | zero => intro n hn; rw [show n = 8 from by omega]; exact Int.le_refl _
    | succ d ih => intro n hn; exact Int.le_trans (dotK_mono n).2 (ih (n + 1) (by omega))
  exact Int.le_trans (this (8 - n) n (by omega)) (by decide)
theorem dot_some {a b : Mx} {i j : Nat} (ha : ∀ i j, SM 1 1 (a.at i j)) (hb : ∀ i j, SM 1 1 (b.at i j)) : ∀ n, n ≤ 8 → ∃ z, dotI a b i j n = some z ∧ SM 2 (dotK n) z
  | 0, _ => ⟨dZ, rfl, by decide, by unfold RB dotK dZ; decide, by decide⟩
  | n + 1, h => by
    obtain ⟨s, h1, h2⟩ := dot_some (i := i) (j := j) ha hb n (by omega)
    obtain ⟨x, h3, h4⟩ := mul_small (ha i n) (hb n j)
    obtain ⟨z, h5, h6⟩ := add_small (dotK_mono n).1 (by have := dotK_le h; simp only [dotK] at this; exact this) h2 h4
    refine ⟨z, ?_, h6⟩
    rw [dotI, h1, Option.bind_some, h3, Option.bind_some]
    exact h5
end Go.Proofs.YtfgnmflfiobkmaaGreat
namespace Go.Proofs.YtfgnmflfiobkmaaGreat
open Go.RowKit
def smB (z : Dy) : Bool := dOk z && inR z.num.a (-1) 1 && inR z.num.b (-1) 1 && inR z.num.c (-1) 1 && inR z.num.d (-1) 1 && decide (z.exp ≤ 1)
theorem smB_sm {z : Dy} (h : smB z = true) : SM 1 1 z := by
  simp only [smB, Bool.and_eq_true, inR_iff, decide_eq_true_eq] at h
  obtain ⟨⟨⟨⟨⟨h1, h2⟩, h3⟩, h4⟩, h5⟩, h6⟩ := h
  exact ⟨h1, ⟨h2, h3, h4, h5⟩, h6⟩
theorem entry_sm {k : Int} (h : 1 ≤ k ∧ k ≤ 8) {i j : Int} (hi : i = 0 ∨ i = 1) (hj : j = 0 ∨ j = 1) : smB (entryI k i j) = true := by
  have : k = 1 ∨ k = 2 ∨ k = 3 ∨ k = 4 ∨ k = 5 ∨ k = 6 ∨ k = 7 ∨ k = 8 := by omega
  rcases this with rfl | rfl | rfl | rfl | rfl | rfl | rfl | rfl <;> rcases hi with rfl | rfl <;> rcases hj with rfl | rfl <;> rfl
theorem cell_sm {n : Int} {g : Gt} (hg : gOk n g = true) (i j : Int) : smB (cellI n g i j) = true := by
  obtain ⟨hn, hk0, ha, hb⟩ := gOk_spec hg
  unfold cellI
  split
  · split <;> rfl
  · split
    · split
      · split <;> rfl
      · rfl
    · rename_i h1 h2
      split
      · exact entry_sm (by have h3 : ¬ (9 ≤ g.k ∧ g.k ≤ 11) := fun h => h2 (inR_iff.2 h); omega) (bitF_01 _ _ _) (bitF_01 _ _ _)
      · rfl
theorem gate_sm {n : Int} {g : Gt} (hg : gOk n g = true) (i j : Nat) : SM 1 1 ((gateS n g).at i j) := by
  have hall : ∀ x ∈ (gateS n g).cells, smB x = true := fun x hx => by
    have he : gridL (fun i j => cellI n g i j) (2 ^ n.toNat) (2 ^ n.toNat * 2 ^ n.toNat) = gridL (fun i j => cellS n g i j) (2 ^ n.toNat) (2 ^ n.toNat * 2 ^ n.toNat) := gridL_congr fun i j hi hj => cell_eq hg hi hj
    simp only [gateS] at hx
    rw [← he] at hx
    obtain ⟨i, j, _, _, rfl⟩ := gridL_mem hx
    exact cell_sm hg _ _
  unfold Mx.at
  rw [List.getD_eq_getElem?_getD]
  cases h : (gateS n g).cells[i * (gateS n g).cols.toNat + j]? with
  | none => exact smB_sm rfl
  | some x => exact smB_sm (hall x (List.mem_of_getElem? h))
theorem seqO_all {f : Nat → Option Dy} : ∀ n, (∀ k, k < n → ∃ z, f k = some z) → ∃ l, seqO f n = some l
  | 0, _ => ⟨[], rfl⟩
  | n + 1, h => by
    obtain ⟨l, hl⟩ := seqO_all n fun k hk => h k (by omega)
    obtain ⟨z, hz⟩ := h n (by omega)
    exact ⟨_, seqO_step hl hz⟩
theorem pow_le8 {n : Int} (h : n ≤ 3) : 2 ^ n.toNat ≤ 8 := Nat.pow_le_pow_right (n := 2) (by decide) (show n.toNat ≤ 3 by omega)
theorem mul_two {n : Int} {g h : Gt} (hg : gOk n g = true) (hh : gOk n h = true) (hn : n ≤ 3) : ∃ m, mulI (gateS n g) (gateS n h) = some m := by
  have hd := isDim_pow (gOk_spec hg).1
  unfold mulI
  rw [(gate_eq hg).2, (gate_eq hh).2, show ((gateS n g).cols == (gateS n h).rows) = true from by simp [gateS]]
  simp only [Bool.and_self, if_true]
  unfold matOf
  rw [show (gateS n g).rows = ((2 ^ n.toNat : Nat) : Int) from rfl, show (gateS n h).cols = ((2 ^ n.toNat : Nat) : Int) from rfl, hd]
  simp only [Bool.and_self, if_true]
  obtain ⟨l, hl⟩ := seqO_all (f := gridG (fun i j => dotI (gateS n g) (gateS n h) i j (gateS n g).cols.toNat) (((2 ^ n.toNat : Nat) : Int)).toNat) ((((2 ^ n.toNat : Nat) : Int)).toNat * (((2 ^ n.toNat : Nat) : Int)).toNat) fun k _ => by
    obtain ⟨z, hz, _⟩ := dot_some (i := k / (((2 ^ n.toNat : Nat) : Int)).toNat) (j := k % (((2 ^ n.toNat : Nat) : Int)).toNat) (gate_sm hg) (gate_sm hh) (gateS n g).cols.toNat (by rw [show (gateS n g).cols = ((2 ^ n.toNat : Nat) : Int) from rfl, Int.toNat_natCast]; exact pow_le8 hn)
    exact ⟨z, hz⟩
  rw [hl]
  exact ⟨_, rfl⟩
theorem op_two {n : Int} {g h : Gt} (hg : gOk n g = true) (hh : gOk n h = true) : opI ⟨n, [g, h]⟩ = (mulI (gateS n h) (gateS n g)) := by
  have hn := (gOk_spec hg).1
  have hok : cOk ⟨n, [g, h]⟩ = true := by
    unfold cOk
    simp [hg, hh, inR_iff.2 hn]
  rw [opI, if_pos hok, (idI_unit (isDim_pow hn)).1]
  simp only [Option.bind_some, applI]
  rw [(gate_eq hg).1, (gate_eq hh).1]
  simp only [Option.getD_some]
  rw [gate_unit hg]
  simp only [Option.bind_some]
  cases mulI (gateS n h) (gateS n g) <;> rfl
theorem qub_two {g : Gt} {x : Int} (h : x ∈ qubI g) : ∃ y, ∀ z ∈ qubI g, z = x ∨ z = y := by
  unfold qubI at *
  split at h
  · cases h
  · rename_i h12
    rw [if_neg h12]
    split at h
    · rename_i h9
      rw [if_pos h9]
      rcases List.mem_cons.1 h with rfl | h
      · exact ⟨g.b, fun z hz => by simpa using hz⟩
      · obtain rfl := List.mem_singleton.1 h
        exact ⟨g.a, fun z hz => by have : z = g.a ∨ z = g.b := by simpa using hz
                                   exact this.symm⟩
    · rename_i h9
      rw [if_neg h9]
      obtain rfl := List.mem_singleton.1 h
      exact ⟨g.a, fun z hz => .inl (by simpa using hz)⟩
theorem inc_three {l : List Int} (hi : Inc l) {p q r : Int} (h : ∀ x ∈ l, x = p ∨ x = q ∨ x = r) : l.length ≤ 3 := by
  rcases Nat.lt_or_ge 3 l.length with h4 | h4
  · have a := fun (i j : Nat) (hj : j < l.length) (hij : i < j) => List.pairwise_iff_getElem.1 hi i j (by omega) hj hij
    have a1 := a 0 1 (by omega) (by omega)
    have a2 := a 1 2 (by omega) (by omega)
    have a3 := a 2 3 (by omega) (by omega)
    have b0 := h _ (List.getElem_mem (show 0 < l.length by omega))
    have b1 := h _ (List.getElem_mem (show 1 < l.length by omega))
    have b2 := h _ (List.getElem_mem (show 2 < l.length by omega))
    have b3 := h _ (List.getElem_mem (show 3 < l.length by omega))
    omega
  · exact h4
theorem union_three {g h : Gt} (hc : comS g h = true) : (unionS g h).length ≤ 3 := by
  obtain ⟨x, h1, h2⟩ := comS_iff.1 hc
  obtain ⟨y, hy⟩ := qub_two h1
  obtain ⟨z, hz⟩ := qub_two h2
  refine inc_three (unionS_inc g h) (p := x) (q := y) (r := z) fun u hu => ?_
  rcases unionS_mem.1 hu with h | h
  · rcases hy u h with h | h <;> simp [h]
  · rcases hz u h with h | h <;> simp [h]
theorem comm_eq {n : Int} {g h : Gt} (hg : gOk n g = true) (hh : gOk n h = true) : commI h g = commS g h := by
  by_cases hc : comS g h = true
  · have hc' : comI h g = true := by rw [← com_eq]; exact hc
    have hU : unionI (qubI h) (qubI g) = unionS g h := inc_ext _ _ (union_inc _ _) (unionS_inc g h) (fun x => by rw [union_mem, unionS_mem]; exact Or.comm)
    have P : PairOk (unionS g h) g h := pair_ok hg hh (comS_iff.1 hc) (unionS_inc g h) (fun x => unionS_mem)
    have h3 := union_three hc
    have m1 : mapG (numbI (unionS g h)) g = smallG (unionS g h) g := map_small P.low ⟨hg, fun x hx => unionS_mem.2 (.inl hx)⟩
    have m2 : mapG (numbI (unionS g h)) h = smallG (unionS g h) h := map_small P.low ⟨hh, fun x hx => unionS_mem.2 (.inr hx)⟩
    rw [commI, if_pos hc', commS, if_pos hc, hU]
    simp only [mapI, List.map_cons, List.map_nil, m1, m2]
    rw [op_two P.hs P.gs, op_two P.gs P.hs]
    obtain ⟨A, hA⟩ := mul_two P.gs P.hs (by omega)
    obtain ⟨B, hB⟩ := mul_two P.hs P.gs (by omega)
    have tA := ((mul_agree (gate_eq P.gs).2 (gate_eq P.hs).2 rfl).1 A hA).1
    have tB := ((mul_agree (gate_eq P.hs).2 (gate_eq P.gs).2 rfl).1 B hB).1
    rw [hA, hB, tA]
    dsimp only
    rw [tB]
    rfl
  · have hc' : ¬ comI h g = true := by rw [← com_eq]; exact hc
    rw [commI, if_neg hc', commS, if_neg hc]
theorem any_congr {p q : Nat → Bool} {i : Nat} (h : ∀ j, j < i → p j = q j) : (List.range i).any p = (List.range i).any q := by
  rw [Bool.eq_iff_iff, List.any_eq_true, List.any_eq_true]
  exact ⟨fun ⟨j, h1, h2⟩ => ⟨j, h1, by rw [← h j (List.mem_range.1 h1)]; exact h2⟩, fun ⟨j, h1, h2⟩ => ⟨j, h1, by rw [h j (List.mem_range.1 h1)]; exact h2⟩⟩
theorem any_none {p : Nat → Bool} {i : Nat} (h : ∀ j, p j = false) : (List.range i).any p = false := by
  rw [List.any_eq_false]
  intro j _
  rw [h j]; simp
theorem fault_eq {n : Int} {gs : List Gt} {s : List Int} (hg : ∀ g ∈ gs, gOk n g = true) {i : Nat} (hi : i < gs.length) : faultI gs s i = faultS gs s i := by
  have hin : ∀ j, j < gs.length → gOk n (gs.getD j gZ) = true := fun j hj => hg _ (List.mem_of_getElem? (getDG hj))
  unfold faultI faultS
  have hgi := hin i hi
  have ea : (List.range i).any (qA gs s (gs.getD i gZ) (s.getD i 0)) = (List.range i).any (pA gs s (gs.getD i gZ) (s.getD i 0)) := any_congr fun j hj => by
    rw [qA, pA, comm_eq hgi (hin j (by omega)), Bool.and_comm]
  have eb : (List.range i).any (qB gs s (gs.getD i gZ) (s.getD i 0)) = (List.range i).any (pB gs s (gs.getD i gZ) (s.getD i 0)) := any_congr fun j hj => by
    rw [qB, pB, com_eq]
  unfold faultH faultG
  rw [ea, eb]
  generalize gs.getD i gZ = g at *
  generalize s.getD i 0 = x at *
  by_cases h12 : g.k = 12
  · have h0 : ∀ h, comS g h = false := fun h => by
      rw [Bool.eq_false_iff]; intro e
      obtain ⟨x, hx, _⟩ := comS_iff.1 e
      exact qub_12 hx h12
    have za : (List.range i).any (pA gs s g x) = false := any_none fun j => by
      rw [pA, commS, if_neg (by rw [h0]; simp)]; simp
    have zb : (List.range i).any (pB gs s g x) = false := any_none fun j => by
      rw [pB, h0]; simp
    rw [za, zb, if_pos h12]
    by_cases hx : x = 0
    · rw [if_pos hx, hx, h12]; rfl
    · rw [if_neg hx, if_pos (by simp [h12, hx])]
  · rw [if_neg h12]
    by_cases hr : inR (x) 1 400 = true
    · rw [if_pos hr, if_neg (by simp [h12, hr])]
    · rw [if_neg hr, if_pos (by simp [h12]; simpa using hr)]
theorem first_congr {f g : Nat → Int} : ∀ (n i : Nat), (∀ j, i ≤ j → j < i + n → f j = g j) → firstF f n i = firstF g n i
  | 0, _, _ => rfl
  | n + 1, i, h => by
    rw [firstF, firstF, h i (by omega) (by omega), first_congr n (i + 1) fun j h1 h2 => h j (by omega) (by omega)]
theorem sched_eq (c : Cx) (s : List Int) : implC c s = specC c s := by
  unfold implC specC
  split
  · rename_i hc
    have h : schedI c.gs s = schedS c.gs s := by
      unfold schedI schedS
      rw [first_congr c.gs.length 0 fun j _ hj => fault_eq (cOk_spec hc).2.2 (by omega)]
    rw [h]
  · rfl
end Go.Proofs.YtfgnmflfiobkmaaGreat
set_option maxRecDepth 4000
namespace Go.Proofs.YtfgnmflfiobkmaaGreat
open Go.RowKit
theorem F4 (w0 : World) {Xc : TypeId} (c : Cx) (Ac : Option Addr) (cc : Nat) (hr_c : Rd w0 w0.heap.size Xc encG Ac c.gs) {X_l : TypeId} (Al : Option Addr) (cl : Nat) (l : List Int) (hr_l : Rd w0 w0.heap.size X_l encI Al l) (hlc : c.gs.length ≤ 9223372036854775807) (hll : l.length ≤ 9223372036854775807) : Ret Tryz.prog 4 [.agg #[.int .i64 c.n, .slice Ac c.gs.length cc], .slice Al l.length cl] w0 (fun v w => v = .bool true ∧ Below w0.heap.size w0 w) := by
 refine enter Tryz.func4 rfl 65 rfl rfl ?_
 intro a hf
 have hW : Below w0.heap.size w0 w0 := Below.refl _ _
 refine wp_seq_k ?_; intro K3 hK3
 refine wp_region_lit ?_
 refine l_f hf rfl (ef_box (zs := [.int .i64 c.n, .slice Ac c.gs.length cc]) hf rfl rfl) ?_; rintro a _ w1 ⟨b4, rfl, hl4, hE, hB4⟩ hf
 have hlo4 := Nat.le_trans hW.size hl4
 replace hr_c := hr_c.below hE
 replace hr_l := hr_l.below hE
 replace hW := btr hW hE
 clear hE
 refine l_as hf rfl rfl ?_; intro a hf
 refine wpList_nil ?_
 refine hK3 _ _ ?_; try clear hK3 K3
 refine wp_seq_k ?_; intro K5 hK5
 refine wp_seq_k ?_; intro K6 hK6
 refine wp_region_lit ?_
 refine l_mv hf rfl rfl ?_; intro a hf
 refine l_e hf rfl (ev_len hf rfl sl_36) ?_; intro a hf
 refine l_e hf rfl (ev_gtr hf rfl rfl) ?_; intro a hf
 refine wpList_nil ?_
 refine hK6 _ _ ?_; try clear hK6 K6
 refine c_if hf rfl (fun hc7 => ?_) (fun hc7 => ?_)
 ·have hc7b := hc7
  have hc7 := of_decide_eq_true hc7
  refine wp_seq_k ?_; intro K8 hK8
  refine wp_region_lit ?_
  refine l_as hf rfl rfl ?_; intro a hf
  refine wpList_nil ?_
  refine hK8 _ _ ?_; try clear hK8 K8
  refine wp_ret ?_
  refine x_retS ?_
  refine c_ret hf (res1 hf rfl rfl) ?_
  exact ⟨rfl, hW⟩
 ·have hc7b := hc7
  have hc7 := of_decide_eq_false hc7
  have hl1 : l.length ≤ 1048576 := by omega
  refine wp_skip ?_
  refine hK5 _ _ ?_; try clear hK5 K5
  refine wp_seq_k ?_; intro K9 hK9
  refine wp_region_lit ?_
  refine l_as hf rfl rfl ?_; intro a hf
  refine wpList_nil ?_
  refine hK9 _ _ ?_; try clear hK9 K9
  refine wp_seq_k ?_; intro K10 hK10
  refine wp_region_lit ?_
  refine l_e hf rfl (ev_loadN (l := [.int .i64 c.n, .slice Ac c.gs.length cc]) hf rfl tN_35 (hB4.at 0) rfl) ?_; intro a hf
  refine l_mv hf rfl rfl ?_; intro a hf
  refine l_f hf rfl (ef_call (vs := [.agg #[.int .i64 c.n, .slice Ac c.gs.length cc], .int .i64 1048576]) hf rfl ff_14 (F14 _ c Ac cc hr_c.top 1048576 (by omega) hlc)) ?_; rintro a _ w2 ⟨rfl, hE⟩ hf
  replace hB4 := hB4.below hE
  replace hr_c := hr_c.below hE
  replace hr_l := hr_l.below hE
  replace hW := btr hW hE
  clear hE
  refine l_as hf rfl rfl ?_; intro a hf
  refine wpList_nil ?_
  refine hK10 _ _ ?_; try clear hK10 K10
  refine wp_seq_k ?_; intro K11 hK11
  refine wp_seq_k ?_; intro K12 hK12
  refine wp_region_lit ?_
  refine l_mv hf rfl rfl ?_; intro a hf
  refine l_e hf rfl (ev_lss hf rfl rfl) ?_; intro a hf
  refine wpList_nil ?_
  refine hK12 _ _ ?_; try clear hK12 K12
  refine c_if hf rfl (fun hc13 => ?_) (fun hc13 => ?_)
  ·have hc13b := hc13
   have hc13 := of_decide_eq_true hc13
   refine wp_seq_k ?_; intro K14 hK14
   refine wp_region_lit ?_
   refine l_as hf rfl rfl ?_; intro a hf
   refine wpList_nil ?_
   refine hK14 _ _ ?_; try clear hK14 K14
   refine wp_ret ?_
   refine x_retS ?_
   refine c_ret hf (res1 hf rfl rfl) ?_
   exact ⟨rfl, hW⟩
  ·have hc13b := hc13
   have hc13 := of_decide_eq_false hc13
   have hc1 : c.gs.length ≤ 1048576 := by have := szG_le hc13; omega
   refine wp_skip ?_
   refine hK11 _ _ ?_; try clear hK11 K11
   refine wp_seq_k ?_; intro K15 hK15
   refine wp_region_lit ?_
   refine l_e hf rfl (ev_loadN (l := [.int .i64 c.n, .slice Ac c.gs.length cc]) hf rfl tN_35 (hB4.at 0) rfl) ?_; intro a hf
   refine l_f hf rfl (ef_call (vs := [.agg #[.int .i64 c.n, .slice Ac c.gs.length cc]]) hf rfl ff_16 (F16 _ c Ac cc hr_c.top hc1)) ?_; rintro a _ w3 ⟨A16, c16, rfl, ho16, hE⟩ hf
   replace ho16 := ho16.lower hW.size
   replace hB4 := hB4.below hE
   replace hr_c := hr_c.below hE
   replace hr_l := hr_l.below hE
   replace hW := btr hW hE
   clear hE
   refine l_mv hf rfl rfl ?_; intro a hf
   refine l_f hf rfl (ef_call (vs := [.slice Al l.length cl]) hf rfl ff_17 (F17 _ Al cl l hr_l.top hl1)) ?_; rintro a _ w4 ⟨A17, c17, rfl, ho17, hE⟩ hf
   replace ho17 := ho17.lower hW.size
   replace hB4 := hB4.below hE
   replace hr_c := hr_c.below hE
   replace hr_l := hr_l.below hE
   replace ho16 := ho16.below hE
   replace hW := btr hW hE
   clear hE
   refine l_f hf rfl (ef_call (vs := [.agg #[.int .i64 c.n, .slice A16 c.gs.length c16], .slice A17 l.length c17]) hf rfl ff_15 (F15 _ c A16 c16 ho16.rd.top ho16.cap A17 c17 l ho17.rd.top (Nat.le_trans hc1 (by decide)))) ?_; rintro a _ w5 ⟨rfl, hE⟩ hf
   replace hB4 := hB4.below hE
   replace hr_c := hr_c.below hE
   replace hr_l := hr_l.below hE
   replace ho16 := ho16.below hE
   replace ho17 := ho17.below hE
   replace hW := btr hW hE
   clear hE
   refine l_mv hf rfl rfl ?_; intro a hf
   refine l_e hf rfl (ev_extract (vs := [.int .i64 ((specC c l).1), .int .i64 ((specC c l).2.1), .bool ((specC c l).2.2)]) hf rfl rfl) ?_; intro a hf
   refine l_e hf rfl (ev_extract (vs := [.int .i64 ((specC c l).1), .int .i64 ((specC c l).2.1), .bool ((specC c l).2.2)]) hf rfl rfl) ?_; intro a hf
   refine l_e hf rfl (ev_extract (vs := [.int .i64 ((specC c l).1), .int .i64 ((specC c l).2.1), .bool ((specC c l).2.2)]) hf rfl rfl) ?_; intro a hf
   refine l_as hf rfl rfl ?_; intro a hf
   refine l_as hf rfl rfl ?_; intro a hf
   refine l_as hf rfl rfl ?_; intro a hf
   refine wpList_nil ?_
   refine hK15 _ _ ?_; try clear hK15 K15
   refine wp_seq_k ?_; intro K18 hK18
   refine wp_region_lit ?_
   refine l_e hf rfl (ev_loadN (l := [.int .i64 c.n, .slice Ac c.gs.length cc]) hf rfl tN_35 (hB4.at 0) rfl) ?_; intro a hf
   refine l_f hf rfl (ef_call (vs := [.agg #[.int .i64 c.n, .slice Ac c.gs.length cc]]) hf rfl ff_16 (F16 _ c Ac cc hr_c.top hc1)) ?_; rintro a _ w6 ⟨A19, c19, rfl, ho19, hE⟩ hf
   replace ho19 := ho19.lower hW.size
   replace hB4 := hB4.below hE
   replace hr_c := hr_c.below hE
   replace hr_l := hr_l.below hE
   replace ho16 := ho16.below hE
   replace ho17 := ho17.below hE
   replace hW := btr hW hE
   clear hE
   refine l_f hf rfl (ef_alloc (zs := [.int .i64 0, .slice none 0 0]) z_41 rfl) ?_; rintro a _ w7 ⟨b21, rfl, hl21, hE, hB21⟩ hf
   have hlo21 := Nat.le_trans hW.size hl21
   replace hB4 := hB4.below hE
   replace hr_c := hr_c.below hE
   replace hr_l := hr_l.below hE
   replace ho16 := ho16.below hE
   replace ho17 := ho17.below hE
   replace ho19 := ho19.below hE
   replace hW := btr hW hE
   clear hE
   refine l_f0 hf (ef_store (vs := [.int .i64 c.n, .slice A19 c.gs.length c19]) (l' := [.int .i64 c.n, .slice A19 c.gs.length c19]) hf rfl rfl sz_41 hB21 rfl rfl rfl rfl rfl) ?_; rintro a _ w8 ⟨ho, hb⟩ hf
   have hold := hB21
   replace hB4 := hB4.only ho (Blk.ne hB4 hold rfl)
   replace hr_c := hr_c.only ho hlo21
   replace hr_l := hr_l.only ho hlo21
   replace ho16 := ho16.onlyT ho hold rfl
   replace ho17 := ho17.onlyT ho hold rfl
   replace ho19 := ho19.onlyT ho hold rfl
   replace hW := Below.only hW ho hlo21
   clear hold
   have hB21 := hb
   clear hb ho
   refine wpList_nil ?_
   refine hK18 _ _ ?_; try clear hK18 K18
   refine wp_seq_k ?_; intro K22 hK22
   refine wp_region_lit ?_
   refine l_mv hf rfl rfl ?_; intro a hf
   refine l_f hf rfl (ef_call (vs := [.slice Al l.length cl]) hf rfl ff_17 (F17 _ Al cl l hr_l.top hl1)) ?_; rintro a _ w9 ⟨A23, c23, rfl, ho23, hE⟩ hf
   replace ho23 := ho23.lower hW.size
   replace hB4 := hB4.below hE
   replace hB21 := hB21.below hE
   replace hr_c := hr_c.below hE
   replace hr_l := hr_l.below hE
   replace ho16 := ho16.below hE
   replace ho17 := ho17.below hE
   replace ho19 := ho19.below hE
   replace hW := btr hW hE
   clear hE
   refine l_as hf rfl rfl ?_; intro a hf
   refine wpList_nil ?_
   refine hK22 _ _ ?_; try clear hK22 K22
   refine wp_seq_k ?_; intro K24 hK24
   refine wp_region_lit ?_
   refine l_e hf rfl (ev_loadN (l := [.int .i64 c.n, .slice A19 c.gs.length c19]) hf rfl tN_41 (hB21.at 0) rfl) ?_; intro a hf
   refine l_mv hf rfl rfl ?_; intro a hf
   refine l_f hf rfl (ef_call (vs := [.agg #[.int .i64 c.n, .slice A19 c.gs.length c19], .slice A23 l.length c23]) hf rfl ff_18 (F18 _ c A19 c19 ho19.rd.top A23 c23 l ho23.rd.top (Nat.le_trans hc1 (by decide)))) ?_; rintro a _ w10 ⟨rfl, hE⟩ hf
   replace hB4 := hB4.below hE
   replace hB21 := hB21.below hE
   replace hr_c := hr_c.below hE
   replace hr_l := hr_l.below hE
   replace ho16 := ho16.below hE
   replace ho17 := ho17.below hE
   replace ho19 := ho19.below hE
   replace ho23 := ho23.below hE
   replace hW := btr hW hE
   clear hE
   refine l_mv hf rfl rfl ?_; intro a hf
   refine l_e hf rfl (ev_extract (vs := [.int .i64 ((implC c l).1), .int .i64 ((implC c l).2.1), .bool ((implC c l).2.2)]) hf rfl rfl) ?_; intro a hf
   refine l_e hf rfl (ev_extract (vs := [.int .i64 ((implC c l).1), .int .i64 ((implC c l).2.1), .bool ((implC c l).2.2)]) hf rfl rfl) ?_; intro a hf
   refine l_e hf rfl (ev_extract (vs := [.int .i64 ((implC c l).1), .int .i64 ((implC c l).2.1), .bool ((implC c l).2.2)]) hf rfl rfl) ?_; intro a hf
   refine l_as hf rfl rfl ?_; intro a hf
   refine l_as hf rfl rfl ?_; intro a hf
   refine l_as hf rfl rfl ?_; intro a hf
   refine wpList_nil ?_
   refine hK24 _ _ ?_; try clear hK24 K24
   refine wp_seq_k ?_; intro K25 hK25
   refine wp_seq_k ?_; intro K26 hK26
   refine c_cut (fun a w => Fr a 65 [(1, .slice Al l.length cl), (2, .pointer (some ⟨b4, 0, none⟩)), (9, .pointer (some ⟨b21, 0, none⟩)), (10, .slice A23 l.length c23), (54, .bool (((((implC c l).1) != ((specC c l).1)) || (((implC c l).2.1) != ((specC c l).2.1))) || (((implC c l).2.2) != ((specC c l).2.2))))] ∧ w10 = w) ?_ ?_
   ·refine wp_region_lit ?_
    refine l_mv hf rfl rfl ?_; intro a hf
    refine l_mv hf rfl rfl ?_; intro a hf
    refine l_e hf rfl (ev_neq hf rfl rfl) ?_; intro a hf
    refine l_mv hf rfl rfl ?_; intro a hf
    refine g_split hf (t := 45) rfl (fun hg27 => ?_) (fun hg27 => ?_)
    ·refine l_pass hf ⟨_, _, rfl, rfl, hg27⟩ rfl rfl ?_; intro a hf
     refine l_pass hf ⟨_, _, rfl, rfl, hg27⟩ rfl rfl ?_; intro a hf
     refine l_pass hf ⟨_, _, rfl, rfl, hg27⟩ rfl rfl ?_; intro a hf
     refine l_e hf rfl (ev_pickT hf rfl hg27 rfl) ?_; intro a hf
     refine l_mv hf rfl rfl ?_; intro a hf
     refine l_pass hf ⟨_, _, rfl, rfl, rfl⟩ rfl rfl ?_; intro a hf
     refine l_pass hf ⟨_, _, rfl, rfl, rfl⟩ rfl rfl ?_; intro a hf
     refine l_pass hf ⟨_, _, rfl, rfl, rfl⟩ rfl rfl ?_; intro a hf
     refine l_e hf rfl (ev_pickT hf rfl rfl rfl) ?_; intro a hf
     refine wpList_nil ?_
     exact ⟨hf.sub ⟨rfl, rfl, rfl, rfl, look_bool rfl (by first | rfl | (simp only [hc7b, hc13b, hg27, Bool.true_and, Bool.false_and, Bool.true_or, Bool.false_or]; done) | simp [hc7b, hc13b, hg27]), trivial⟩, rfl⟩
    ·refine l_ev hf ⟨_, _, rfl, rfl, hg27⟩ rfl rfl (ev_move hf rfl) ?_; intro a hf
     refine l_ev hf ⟨_, _, rfl, rfl, hg27⟩ rfl rfl (ev_move hf rfl) ?_; intro a hf
     refine l_ev hf ⟨_, _, rfl, rfl, hg27⟩ rfl rfl (ev_neq hf rfl rfl) ?_; intro a hf
     refine l_e hf rfl (ev_pickF hf rfl hg27 rfl) ?_; intro a hf
     refine l_mv hf rfl rfl ?_; intro a hf
     refine g_split hf (t := 50) rfl (fun hg28 => ?_) (fun hg28 => ?_)
     ·refine l_pass hf ⟨_, _, rfl, rfl, hg28⟩ rfl rfl ?_; intro a hf
      refine l_pass hf ⟨_, _, rfl, rfl, hg28⟩ rfl rfl ?_; intro a hf
      refine l_pass hf ⟨_, _, rfl, rfl, hg28⟩ rfl rfl ?_; intro a hf
      refine l_e hf rfl (ev_pickT hf rfl hg28 rfl) ?_; intro a hf
      refine wpList_nil ?_
      exact ⟨hf.sub ⟨rfl, rfl, rfl, rfl, look_bool rfl (by first | rfl | (simp only [hc7b, hc13b, hg27, hg28, Bool.true_and, Bool.false_and, Bool.true_or, Bool.false_or]; done) | simp [hc7b, hc13b, hg27, hg28]), trivial⟩, rfl⟩
     ·refine l_ev hf ⟨_, _, rfl, rfl, hg28⟩ rfl rfl (ev_move hf rfl) ?_; intro a hf
      refine l_ev hf ⟨_, _, rfl, rfl, hg28⟩ rfl rfl (ev_move hf rfl) ?_; intro a hf
      refine l_ev hf ⟨_, _, rfl, rfl, hg28⟩ rfl rfl (ev_bneq Tryz.underlying4 hf rfl rfl) ?_; intro a hf
      refine l_e hf rfl (ev_pickF hf rfl hg28 rfl) ?_; intro a hf
      refine wpList_nil ?_
      exact ⟨hf.sub ⟨rfl, rfl, rfl, rfl, look_bool rfl (by first | rfl | (simp only [hc7b, hc13b, hg27, hg28, Bool.true_and, Bool.false_and, Bool.true_or, Bool.false_or]; done) | simp [hc7b, hc13b, hg27, hg28]), trivial⟩, rfl⟩
   rintro a _ ⟨hf, rfl⟩
   refine hK26 _ _ ?_; try clear hK26 K26
   refine c_if hf rfl (fun hc29 => ?_) (fun hc29 => ?_)
   ·have hc29b := hc29
    rw [sched_eq] at hc29; simp at hc29
   ·have hc29b := hc29
    refine wp_skip ?_
    refine hK25 _ _ ?_; try clear hK25 K25
    refine wp_seq_k ?_; intro K30 hK30
    refine wp_seq_k ?_; intro K31 hK31
    refine wp_draw none (fun _ => false) mixed ?_
    intro w11 hE
    replace hB4 := hB4.below hE
    replace hB21 := hB21.below hE
    replace hr_c := hr_c.below hE
    replace hr_l := hr_l.below hE
    replace ho16 := ho16.below hE
    replace ho17 := ho17.below hE
    replace ho19 := ho19.below hE
    replace ho23 := ho23.below hE
    replace hW := btr hW hE
    clear hE
    refine s_e 0 rfl (by kernel_rfl) (by kernel_rfl) hf rfl (ev_loadN (l := [.int .i64 c.n, .slice A19 c.gs.length c19]) hf rfl tN_41 (hB21.at 0) rfl) ?_; intro a hf
    refine s_e 1 rfl (by kernel_rfl) (by kernel_rfl) hf rfl (ev_loadN (l := [.int .i64 c.n, .slice Ac c.gs.length cc]) hf rfl tN_35 (hB4.at 0) rfl) ?_; intro a hf
    refine s_one 2 (by kernel_rfl) ?_
    refine p_eff rfl hf trivial rfl rfl (Ef.mono (ef_call (vs := [.agg #[.int .i64 c.n, .slice Ac c.gs.length cc]]) hf rfl ff_16 (F16 _ c Ac cc hr_c.top hc1)) (fun _ _ h => ⟨fun _ => by obtain ⟨A32, c32, rfl, ho32, hE⟩ := h; exact hE, h⟩)) ?_; rintro a _ w12 ⟨A32, c32, rfl, ho32, hE⟩ hf
    replace ho32 := ho32.lower hW.size
    replace hB4 := hB4.below hE
    replace hB21 := hB21.below hE
    replace hr_c := hr_c.below hE
    replace hr_l := hr_l.below hE
    replace ho16 := ho16.below hE
    replace ho17 := ho17.below hE
    replace ho19 := ho19.below hE
    replace ho23 := ho23.below hE
    replace hW := btr hW hE
    clear hE
    refine s_one 3 (by kernel_rfl) ?_
    refine p_eff rfl hf trivial rfl rfl (Ef.mono (ef_call (vs := [.agg #[.int .i64 c.n, .slice A19 c.gs.length c19], .agg #[.int .i64 c.n, .slice A32 c.gs.length c32]]) hf rfl ff_19 (F19 _ c A19 c19 ho19.rd.top c A32 c32 ho32.rd.top (Nat.le_trans hc1 (by decide)))) (fun _ _ h => ⟨fun _ => by obtain ⟨rfl, hE⟩ := h; exact hE, h⟩)) ?_; rintro a _ w13 ⟨rfl, hE⟩ hf
    replace hB4 := hB4.below hE
    replace hB21 := hB21.below hE
    replace hr_c := hr_c.below hE
    replace hr_l := hr_l.below hE
    replace ho16 := ho16.below hE
    replace ho17 := ho17.below hE
    replace ho19 := ho19.below hE
    replace ho23 := ho23.below hE
    replace ho32 := ho32.below hE
    replace hW := btr hW hE
    clear hE
    refine s_e0 4 rfl (by kernel_rfl) hf rfl (fun _ => ev_not hf rfl) ?_; intro a hf
    refine s_done (by kernel_rfl) ?_
    refine hK31 _ _ ?_; try clear hK31 K31
    refine c_if hf rfl (fun hc33 => ?_) (fun hc33 => ?_)
    ·have hc33b := hc33
     simp [eqC] at hc33
    ·have hc33b := hc33
     refine wp_skip ?_
     refine hK30 _ _ ?_; try clear hK30 K30
     refine wp_seq_k ?_; intro K34 hK34
     refine wp_seq_k ?_; intro K35 hK35
     refine wp_region_lit ?_
     refine l_mv hf rfl rfl ?_; intro a hf
     refine l_mv hf rfl rfl ?_; intro a hf
     refine l_f hf rfl (ef_call (vs := [.slice Al l.length cl]) hf rfl ff_17 (F17 _ Al cl l hr_l.top hl1)) ?_; rintro a _ w14 ⟨A36, c36, rfl, ho36, hE⟩ hf
     replace ho36 := ho36.lower hW.size
     replace hB4 := hB4.below hE
     replace hB21 := hB21.below hE
     replace hr_c := hr_c.below hE
     replace hr_l := hr_l.below hE
     replace ho16 := ho16.below hE
     replace ho17 := ho17.below hE
     replace ho19 := ho19.below hE
     replace ho23 := ho23.below hE
     replace ho32 := ho32.below hE
     replace hW := btr hW hE
     clear hE
     refine l_f hf rfl (ef_call (vs := [.slice A23 l.length c23, .slice A36 l.length c36]) hf rfl ff_20 (F20 _ A23 c23 l ho23.rd.top A36 c36 l ho36.rd.top (Nat.le_trans hl1 (by decide)))) ?_; rintro a _ w15 ⟨rfl, hE⟩ hf
     replace hB4 := hB4.below hE
     replace hB21 := hB21.below hE
     replace hr_c := hr_c.below hE
     replace hr_l := hr_l.below hE
     replace ho16 := ho16.below hE
     replace ho17 := ho17.below hE
     replace ho19 := ho19.below hE
     replace ho23 := ho23.below hE
     replace ho32 := ho32.below hE
     replace ho36 := ho36.below hE
     replace hW := btr hW hE
     clear hE
     refine l_e hf rfl (ev_not hf rfl) ?_; intro a hf
     refine wpList_nil ?_
     refine hK35 _ _ ?_; try clear hK35 K35
     refine c_if hf rfl (fun hc37 => ?_) (fun hc37 => ?_)
     ·have hc37b := hc37
      simp at hc37
     ·have hc37b := hc37
      refine wp_skip ?_
      refine hK34 _ _ ?_; try clear hK34 K34
      refine wp_seq_k ?_; intro K38 hK38
      refine wp_region_lit ?_
      refine l_as hf rfl rfl ?_; intro a hf
      refine wpList_nil ?_
      refine hK38 _ _ ?_; try clear hK38 K38
      refine wp_ret ?_
      refine c_ret hf (res1 hf rfl rfl) ?_
      exact ⟨rfl, hW⟩
end Go.Proofs.YtfgnmflfiobkmaaGreat
namespace Go.Proofs.YtfgnmflfiobkmaaGreat
open Go.RowKit Go.ChangeShapes Go.WideShapes Go.Deep Go.Joins
theorem list_of {α : Type} {n : Nat} {Q : Nat → α → Prop} (h : ∀ i, i < n → ∃ g, Q i g) : ∃ l : List α, l.length = n ∧ ∀ i g, l[i]? = some g → Q i g := by
  induction n with
  | zero => exact ⟨[], rfl, fun i g h => by simp at h⟩
  | succ n ih =>
    obtain ⟨l, h1, h2⟩ := ih fun i hi => h i (by omega)
    obtain ⟨g, hg⟩ := h n (by omega)
    refine ⟨l ++ [g], by simp [h1], fun i g' hi => ?_⟩
    rcases Nat.lt_or_ge i n with hin | hin
    · rw [List.getElem?_append_left (by omega)] at hi
      exact h2 i g' hi
    · rw [List.getElem?_append_right (by omega)] at hi
      have : i - l.length = 0 := by
        rcases Nat.eq_zero_or_pos (i - l.length) with h | h
        · exact h
        · rw [List.getElem?_eq_none (by simp; omega)] at hi; cases hi
      rw [this] at hi
      injection hi with hi
      subst hi
      have : i = n := by omega
      subst this
      exact hg
theorem rd_of_cells {α : Type} {w : World} {enc : α → List Value} {sz : Nat} (hsz : ∀ x, (enc x).length = sz) (h0 : 0 < sz) {p : Addr} {l : List α}
    (h : ∀ i g, l[i]? = some g → ∀ j v, (enc g)[j]? = some v → w.cell? (p.add (i * sz + j)) = some v) : ∃ E, Rd w w.heap.size E enc (some p) l := by
  by_cases hl : l = []
  · subst hl; exact ⟨0, Rd.nil _ _ _ _ _⟩
  · obtain ⟨g0, l', rfl⟩ := List.exists_cons_of_ne_nil hl
    obtain ⟨v0, hv0⟩ : ∃ v, (enc g0)[0]? = some v := ⟨_, List.getElem?_eq_getElem (by rw [hsz]; exact h0)⟩
    have hc := h 0 g0 rfl 0 v0 hv0
    obtain ⟨b, off, spot⟩ := p
    have hb := cell_lt hc
    rw [addr_block] at hb
    have hsp : spot = none := by
      cases spot with
      | none => rfl
      | some s => simp [World.cell?, Addr.add] at hc; split at hc <;> simp_all
    subst hsp
    have hobj : ∃ cs E fz, w.heap[b]? = some (.cells cs E fz) := by
      rw [addr_off] at hc
      simp only [World.cell?] at hc
      split at hc
      · rename_i c E fz hh; exact ⟨c, E, fz, hh⟩
      · cases hc
    obtain ⟨cs, E, fz, hh⟩ := hobj
    refine ⟨E, fun _ => ⟨b, off, cs, fz, rfl, hb, hh, fun j v hj => ?_⟩⟩
    have hjl : j < ((g0 :: l').flatMap enc).length := (List.getElem?_eq_some_iff.1 hj).1
    rw [length_flatMap_enc hsz] at hjl
    obtain ⟨x, hx, h1⟩ := flatMap_idx hsz hjl
    rw [h1] at hj
    have := h _ _ hx _ _ hj
    rw [addr_off, show j / sz * sz + j % sz = j from by rw [Nat.mul_comm]; exact Nat.div_add_mod j sz] at this
    simpa [World.cell?, hh] using this
section
variable {H : Type} {enc : TypeId × Value → H} {w : World} {base fuel : Nat} {spare : Nat → Bool} {held : Bool}
theorem list3 {α : Type} {l : List α} (h : l.length = 3) : ∃ a b c, l = [a, b, c] := by
  match l, h with
  | [a, b, c], _ => exact ⟨a, b, c, rfl⟩
theorem cells134 : Tryz.prog.cellsOf 134 = 3 := by kernel_rfl
theorem cells3 : Tryz.prog.cellsOf 3 = 1 := by kernel_rfl
theorem trod_gate {cs : List Value} {x : DataW H × List MemPlace} (h : DataW.trod enc Tryz.prog w base spare held fuel 134 cs = some x) : ∃ g : Gt, cs = encG g := by
  obtain ⟨y0, y1, y2, n, _, hl, h0, h1, h2⟩ := trod_struct3 Tryz.underlying134 h
  rw [cells134] at hl
  obtain ⟨c0, c1, c2, rfl⟩ := list3 hl
  simp only [cells3] at h0 h1 h2
  obtain ⟨a, e0, _⟩ := DataW.trod_int Tryz.underlying3 h0
  obtain ⟨b, e1, _⟩ := DataW.trod_int Tryz.underlying3 h1
  obtain ⟨c, e2, _⟩ := DataW.trod_int Tryz.underlying3 h2
  simp at e0 e1 e2
  exact ⟨⟨a, b, c⟩, by rw [e0, e1, e2]; rfl⟩
set_option maxRecDepth 100000 in
theorem open_gates {cs : List Value} {x : DataW H × List MemPlace} (h : DataW.trod enc Tryz.prog w base spare held fuel 22 cs = some x) (hsp : ∀ b, spare b = true) :
    ∃ A l c E, cs = [.slice A l.length c] ∧ Rd w w.heap.size E encG A l ∧ l.length ≤ 9223372036854775807 := by
  rcases open_slice Tryz.underlying22 h with ⟨hcs, _⟩ | ⟨a, len, cap, m, n, D, Pl, hcs, hb, hl, hm, hmm, _, hi⟩
  · exact ⟨none, [], 0, 0, hcs, Rd.nil _ _ _ _ _, by simp⟩
  · rw [cells134] at hi
    have hlm : len ≤ m := by rw [hmm, hsp]; simpa using hl
    obtain ⟨l, h1, h2⟩ := list_of (n := len) (Q := fun i g => ∀ j v, (encG g)[j]? = some v → w.cell? (a.add (i * 3 + j)) = some v) fun i hilt => by
      obtain ⟨cs', hc, ht⟩ := hi i (by omega)
      obtain ⟨g, rfl⟩ := trod_gate ht
      obtain ⟨_, _, hat⟩ := World.cells?_some hc
      refine ⟨g, fun j v hj => ?_⟩
      have hj3 : j < 3 := by have := (List.getElem?_eq_some_iff.1 hj).1; simpa [encG] using this
      rw [← addr_add_add, hat j hj3]
      exact hj
    obtain ⟨E, hr⟩ := rd_of_cells encG_len (by decide) h2
    refine ⟨some a, l, cap, E, by rw [hcs, h1], hr, ?_⟩
    simp only [maxLen] at hm
    omega
end
end Go.Proofs.YtfgnmflfiobkmaaGreat
namespace Go.Proofs.YtfgnmflfiobkmaaGreat
open Go.RowKit Go.ChangeShapes Go.WideShapes Go.Deep Go.Joins
section
variable {H : Type} {enc : TypeId × Value → H} {w : World} {base fuel : Nat} {spare : Nat → Bool} {held : Bool}
theorem cells22 : Tryz.prog.cellsOf 22 = 1 := by kernel_rfl
theorem cells35 : Tryz.prog.cellsOf 35 = 2 := by kernel_rfl
set_option maxRecDepth 100000 in
theorem open_circuit {cs : List Value} {x : DataW H × List MemPlace} (h : DataW.trod enc Tryz.prog w base spare held fuel 35 cs = some x) (hsp : ∀ b, spare b = true) :
    ∃ (c : Cx) (A : Option Addr) (k : Nat) (E : TypeId), cs = [.int .i64 c.n, .slice A c.gs.length k] ∧ Rd w w.heap.size E encG A c.gs ∧ c.gs.length ≤ 9223372036854775807 := by
  obtain ⟨y0, y1, n, _, hl, h0, h1⟩ := trod_struct2 Tryz.underlying35 h
  rw [cells35] at hl
  match cs, hl with
  | [c0, c1], _ =>
    simp only [cells3] at h0
    simp only [cells22] at h1
    obtain ⟨a, e0, _⟩ := DataW.trod_int Tryz.underlying3 h0
    obtain ⟨A, l, c, E1, e1, hr1, hl1⟩ := open_gates h1 hsp
    simp at e0 e1
    exact ⟨⟨a, l⟩, A, c, E1, by rw [e0, e1], hr1, hl1⟩
end
end Go.Proofs.YtfgnmflfiobkmaaGreat
namespace Go.Proofs.YtfgnmflfiobkmaaGreat
open Go.RowKit Go.ChangeShapes Go.WideShapes Go.Deep Go.Joins
section
variable {H : Type} {enc : TypeId × Value → H} {w : World} {base fuel : Nat} {spare : Nat → Bool} {held : Bool}
set_option maxRecDepth 100000 in
theorem open_ints {cs : List Value} {x : DataW H × List MemPlace} (h : DataW.trod enc Tryz.prog w base spare held fuel 36 cs = some x) (hsp : ∀ b, spare b = true) :
    ∃ A l c E, cs = [.slice A l.length c] ∧ Rd w w.heap.size E encI A l ∧ l.length ≤ 9223372036854775807 := by
  rcases open_slice Tryz.underlying36 h with ⟨hcs, _⟩ | ⟨a, len, cap, m, n, D, Pl, hcs, hb, hl, hm, hmm, _, hi⟩
  · exact ⟨none, [], 0, 0, hcs, Rd.nil _ _ _ _ _, by simp⟩
  · rw [cells3] at hi
    have hlm : len ≤ m := by rw [hmm, hsp]; simpa using hl
    obtain ⟨l, h1, h2⟩ := list_of (n := len) (Q := fun i g => ∀ j v, (encI g)[j]? = some v → w.cell? (a.add (i * 1 + j)) = some v) fun i hilt => by
      obtain ⟨cs', hc, ht⟩ := hi i (by omega)
      obtain ⟨g, rfl, _⟩ := DataW.trod_int Tryz.underlying3 ht
      obtain ⟨_, _, hat⟩ := World.cells?_some hc
      refine ⟨g, fun j v hj => ?_⟩
      have hj3 : j < 1 := by have := (List.getElem?_eq_some_iff.1 hj).1; simpa [encI] using this
      rw [← addr_add_add, hat j hj3]
      exact hj
    obtain ⟨E, hr⟩ := rd_of_cells encI_len (by decide) h2
    refine ⟨some a, l, cap, E, by rw [hcs, h1], hr, ?_⟩
    simp only [maxLen] at hm
    omega
end
end Go.Proofs.YtfgnmflfiobkmaaGreat
namespace Go.Proofs.YtfgnmflfiobkmaaGreat
open Go.ChangeShapes Go.WideShapes Go.ChangeAt Go.RowKit Go.Deep Go.Joins
set_option linter.unusedVariables false
theorem own : ownKnob Tryz.prog.godebug = none := by kernel_rfl
theorem laidOut : laidOutB Tryz.prog = true := by kernel_rfl
section
variable {H : Type} {enc : TypeId × Value → H} {P : Program}
theorem post_below {f : Func} {s : ChangeSpec} {fresh handsOn : Bool} {W W' : World} {args : Array Value} {v : Value} {ds gs : List (DataW H)} {before pa pv : List MemPlace}
    (hW : DataW.Whole enc P f.params.toList s.vars false W args.toList ds gs before)
    (hres : ∀ (b : Nat) (sp : Nat → Bool) (hd : Bool), DataW.TrodAll enc P W' b sp hd f.resultTypes.toList (v.resultList f.resultTypes.size) (s.fn H (ds ++ gs)).results [])
    (hargs : ∀ sp : Nat → Bool, (∀ p ∈ before, sp p.block = true) → DataW.TrodAll enc P W' 0 sp true f.params.toList args.toList (s.fn H (ds ++ gs)).args pa)
    (hvars : ∀ sp : Nat → Bool, (∀ p ∈ before, sp p.block = true) → DataW.TrodVars enc P W' sp s.vars (s.fn H (ds ++ gs)).vars pv)
    (hps : before = pa ++ pv) (hb : Below W.heap.size W W') :
    s.post enc P f false fresh handsOn false W args v W' := by
  have hlt : ∀ p ∈ before, p.block < W.heap.size := fun p hp => hW.lt p hp
  have hold : ∀ p ∈ before, (fun b => decide (b < W.heap.size)) p.block = true := fun p hp => by simpa using hlt p hp
  refine ⟨ds, gs, before, [], pa, pv, hW, hres _ _ _, hargs _ hold, hvars _ hold, World.keptBut_mono (fun p hp => ⟨hp, ?_⟩) (hb.frame (· ∈ before)), fun h => by cases h⟩
  rw [hps, List.mem_append] at hp
  exact Or.inr hp
end
set_option maxRecDepth 100000 in
theorem open_circ {H : Type} {enc : TypeId × Value → H} {w : World} {base b0 : Nat} {spare : Nat → Bool} {held : Bool} {r : Reach} {v : Value} {d : DataW H} {p : List MemPlace} (hv : Value.okWide Tryz.prog w r b0 35 v) (h : DataW.Trod enc Tryz.prog w base spare held 35 v d p) (hsp : ∀ b, spare b = true) :
    ∃ (c : Cx) (A : Option Addr) (k : Nat) (E : TypeId), v = .agg #[.int .i64 c.n, .slice A c.gs.length k] ∧ Rd w w.heap.size E encG A c.gs ∧ c.gs.length ≤ 9223372036854775807 := by
  obtain ⟨⟨cs⟩, rfl, hsz⟩ := okWide_struct Tryz.underlying35 hv
  obtain ⟨fuel, hf⟩ := h
  obtain ⟨c, A, k, E, e0, hr, hl⟩ := open_circuit hf hsp
  simp [Value.cells] at e0
  exact ⟨c, A, k, E, by rw [e0], hr, hl⟩
set_option maxRecDepth 100000 in
theorem open_isl {H : Type} {enc : TypeId × Value → H} {w : World} {base b0 : Nat} {spare : Nat → Bool} {held : Bool} {r : Reach} {v : Value} {d : DataW H} {p : List MemPlace} (hv : Value.okWide Tryz.prog w r b0 36 v) (h : DataW.Trod enc Tryz.prog w base spare held 36 v d p) (hsp : ∀ b, spare b = true) :
    ∃ (A : Option Addr) (l : List Int) (k : Nat) (E : TypeId), v = .slice A l.length k ∧ Rd w w.heap.size E encI A l ∧ l.length ≤ 9223372036854775807 := by
  obtain ⟨a1, n1, k1, rfl⟩ := okWide_slice Tryz.underlying36 hv
  obtain ⟨fuel, hf⟩ := h
  obtain ⟨A, l, k, E, e0, hr, hl⟩ := open_ints hf hsp
  simp [Value.cells] at e0
  obtain ⟨rfl, rfl, rfl⟩ := e0
  exact ⟨_, l, _, E, rfl, hr, hl⟩
end Go.Proofs.YtfgnmflfiobkmaaGreat
namespace Go.Proofs.YtfgnmflfiobkmaaGreat
open Go.ChangeShapes Go.WideShapes Go.ChangeAt Go.RowKit Go.Deep Go.Joins
set_option linter.unusedVariables false
set_option maxRecDepth 100000 in
theorem sched_lifted (os : Os) (started : os.Started) (H : Type) (enc : TypeId × Value → H) :
    ReturnsInHanded {} Tryz.checked os 4 .any (Rows.fnExactCheckScheduleSpec.pre6 enc Tryz.prog Tryz.f4 Rows.fnExactCheckScheduleRow.domain false) (Rows.fnExactCheckScheduleSpec.post enc Tryz.prog Tryz.f4 false true false false) := by
  refine returnsInHanded_of_change (C := Tryz.checked) own started (by kernel_rfl) Tryz.func4
    (ChangeSpec.witness6 (enc := enc) (C := Tryz.checked) false ⟨#[], #[.agg #[.int .i64 0, .slice none 0 0], .slice none 0 0], []⟩ 8 (by kernel_rfl) (by kernel_rfl) (by kernel_rfl) (by kernel_rfl)) ?_
  intro W base args ds gs before hval0 hW hcnd _
  have hval : ∀ (j : Nat) t v, Tryz.f4.params[j]? = some t → args[j]? = some v → Value.okWide Tryz.prog W .any base t v := hval0
  have hW' := hW
  obtain ⟨p, q, hA0, hV, rfl, hfz, hnd⟩ := hW
  have hA : DataW.TrodAll enc Tryz.prog W 0 (fun _ => true) true Tryz.f4.params.toList args.toList ds p := hA0
  rw [Tryz.params4] at hA hval
  obtain ⟨v0, v1, d0, d1, p0, p1, rfl, rfl, rfl, h0, h1⟩ := trodAll_two hA
  obtain ⟨rfl, rfl⟩ := trodVars_none hV
  have h0k := h0
  have h1k := h1
  obtain ⟨c, A, i, E, rfl, hr0, hl0⟩ := open_circ (hval 0 35 v0 rfl rfl) h0 (fun _ => rfl)
  obtain ⟨B, l, k, F, rfl, hr1, hl1⟩ := open_isl (hval 1 36 v1 rfl rfl) h1 (fun _ => rfl)
  clear hA0 hval0
  simp only [List.append_nil] at hW'
  have hlt : ∀ x ∈ p0 ++ p1, x.block < W.heap.size := fun x hx => hW'.lt x (by simpa using hx)
  refine Calls.mono (F4 W c A i hr0 B k l hr1 hl0 hl1) fun r W' ⟨v, he, hv, hb⟩ => ?_
  subst hv
  refine ⟨_, he, post_below (pa := p0 ++ p1) (pv := []) hW' (fun _ _ _ => trodAll_mk1 (shut_bool Tryz.underlying4 true)) (fun sp hsp => ?_) (fun _ _ => rfl) (by simp) hb⟩
  exact trodAll_mk2 (WideElems.Trod_stays laidOut (by kernel_rfl) (of_decide_eq_true (by kernel_rfl)) h0k (fun x hx => hb.same (hlt x (List.mem_append_left _ hx))) (fun x hx => hsp x (by simp [hx])))
    (WideElems.Trod_stays laidOut (by kernel_rfl) (of_decide_eq_true (by kernel_rfl)) h1k (fun x hx => hb.same (hlt x (List.mem_append_right _ hx))) (fun x hx => hsp x (by simp [hx])))
theorem sched_holds : Rows.FnExactCheckScheduleSaid :=
  OpenClaim.holds_of_wide 4 Tryz.f4 rfl rfl rfl rfl rfl rfl rfl ⟨rfl, rfl, rfl, rfl, rfl⟩ rfl rfl rfl rfl rfl (by kernel_rfl) Tryz.func4 (by kernel_rfl)
    (of_decide_eq_true (by kernel_rfl)) (by unfold Func.isWrapper; first | (rw [if_pos (by decide +kernel)]; kernel_rfl) | (rw [if_neg (by decide +kernel)]; exact ⟨rfl, rfl⟩))
    (fun os started H enc _ => sched_lifted os started H enc)
end Go.Proofs.YtfgnmflfiobkmaaGreat
