/-
  What is proved: for every certificate, the program's CheckCertificate answers as the reference's does and leaves the certificate as it was. Conditions: none.
-/
import Derived.Test.YtfgnmflfiobkmaaGreatQ5
import Derived.Test.YtfgnmflfiobkmaaGreatQ4
import Derived.Deep.Strs
import Derived.WalkKit
import Derived.ProofKit
import Derived.OpenShut
import Derived.Deep.Slices
import Derived.Deep.Fields
import Derived.ChangeSame
import Derived.Lib.SmallJoins
import Derived.Test.YtfgnmflfiobkmaaGreatRows
set_option linter.unusedVariables false
set_option linter.unusedSimpArgs false
set_option maxRecDepth 4000
namespace Go.Proofs.YtfgnmflfiobkmaaGreat
open Go.RowKit
theorem F29 (w0 : World) (c : Cx) (Ac : Option Addr) (cc : Nat) (hr_c : Rd w0 w0.heap.size 107 encG Ac c.gs) (hp_c : c.gs.length ≤ cc) (Al : Option Addr) (cl : Nat) (l : List Sr) (hr_l : Rd w0 w0.heap.size 30 encSr Al l) (hd_l : DeepR w0 w0.heap.size 107 l) (d : Cx) (Ad : Option Addr) (cd : Nat) (hr_d : Rd w0 w0.heap.size 107 encG Ad d.gs) (hlc : c.gs.length ≤ 1048576) (hls : l.length ≤ 1048576) (hll : ∀ s ∈ l, s.old.length ≤ 1048576 ∧ s.new.length ≤ 1048576) (hld : d.gs.length ≤ 1048576) : Ret Tryz.prog 29 [.agg #[.int .i64 c.n, .slice Ac c.gs.length cc, .slice Al l.length cl, .int .i64 d.n, .slice Ad d.gs.length cd]] w0 (fun v w => v = .tuple #[.int .i64 ((checkI c d (l.map Sr.rp)).1), .bool ((checkI c d (l.map Sr.rp)).2)] ∧ Below w0.heap.size w0 w) := by
 refine enter Tryz.func29 rfl 67 rfl rfl ?_
 intro a hf
 have hW : Below w0.heap.size w0 w0 := Below.refl _ _
 refine wp_seq_k ?_; intro K4 hK4
 refine wp_region_lit ?_
 refine l_f hf rfl (ef_box (zs := [.int .i64 c.n, .slice Ac c.gs.length cc, .slice Al l.length cl, .int .i64 d.n, .slice Ad d.gs.length cd]) hf rfl rfl) ?_; rintro a _ w1 ⟨b5, rfl, hl5, hE, hB5⟩ hf
 have hlo5 := Nat.le_trans hW.size hl5
 replace hr_c := hr_c.below hE
 replace hr_l := hr_l.below hE
 replace hr_d := hr_d.below hE
 replace hd_l := hd_l.below hE
 replace hW := btr hW hE
 clear hE
 refine l_as hf rfl rfl ?_; intro a hf
 refine l_as hf rfl rfl ?_; intro a hf
 refine wpList_nil ?_
 refine hK4 _ _ ?_; try clear hK4 K4
 refine wp_seq_k ?_; intro K6 hK6
 refine wp_seq_k ?_; intro K7 hK7
 refine c_cut (fun a w => Fr a 67 [(1, .pointer (some ⟨b5, 0, none⟩)), (20, .bool ((!(cOk c)) || (decide (400 < (l.length : Int)))))] ∧ Below w1.heap.size w1 w) ?_ ?_
 ·have hEc : Below w1.heap.size w1 w1 := Below.refl _ _
  refine wp_region_lit ?_
  refine l_e hf rfl (ev_fieldB hf rfl fd_60_0 (m := 0) rfl) ?_; intro a hf
  refine l_e hf rfl (ev_loadN (l := [.int .i64 c.n, .slice Ac c.gs.length cc]) hf rfl tN_41 ((hB5.at 0).take 2) rfl) ?_; intro a hf
  refine l_f hf rfl (ef_call (vs := [.agg #[.int .i64 c.n, .slice Ac c.gs.length cc]]) hf rfl ff_55 (F55 _ c Ac cc hr_c.top (by omega))) ?_; rintro a _ w2 ⟨rfl, hE⟩ hf
  replace hB5 := hB5.below hE
  replace hr_c := hr_c.below hE
  replace hr_l := hr_l.below hE
  replace hr_d := hr_d.below hE
  replace hd_l := hd_l.below hE
  replace hW := btr hW hE
  replace hEc := btr hEc hE
  clear hE
  refine l_e hf rfl (ev_not hf rfl) ?_; intro a hf
  refine l_mv hf rfl rfl ?_; intro a hf
  refine g_split hf (t := 15) rfl (fun hg8 => ?_) (fun hg8 => ?_)
  ·refine l_pass hf ⟨_, _, rfl, rfl, hg8⟩ rfl rfl ?_; intro a hf
   refine l_pass hf ⟨_, _, rfl, rfl, hg8⟩ rfl rfl ?_; intro a hf
   refine l_pass hf ⟨_, _, rfl, rfl, hg8⟩ rfl rfl ?_; intro a hf
   refine l_pass hf ⟨_, _, rfl, rfl, hg8⟩ rfl rfl ?_; intro a hf
   refine l_e hf rfl (ev_pickT hf rfl hg8 rfl) ?_; intro a hf
   refine wpList_nil ?_
   have hEE : Below w1.heap.size w1 w2 := hEc
   exact ⟨hf.sub ⟨rfl, look_bool rfl (by first | rfl | (simp only [hg8, Bool.true_and, Bool.false_and, Bool.true_or, Bool.false_or]; done) | simp [hg8]), trivial⟩, hEE⟩
  ·refine l_ev hf ⟨_, _, rfl, rfl, hg8⟩ rfl rfl (ev_fieldB hf rfl fd_60_1 (m := 2) rfl) ?_; intro a hf
   refine l_ev hf ⟨_, _, rfl, rfl, hg8⟩ rfl rfl (ev_load1 hf rfl t1_58 (hB5.at 2)) ?_; intro a hf
   refine l_ev hf ⟨_, _, rfl, rfl, hg8⟩ rfl rfl (ev_len hf rfl sl_58) ?_; intro a hf
   refine l_ev hf ⟨_, _, rfl, rfl, hg8⟩ rfl rfl (ev_gtr hf rfl rfl) ?_; intro a hf
   refine l_e hf rfl (ev_pickF hf rfl hg8 rfl) ?_; intro a hf
   refine wpList_nil ?_
   have hEE : Below w1.heap.size w1 w2 := hEc
   exact ⟨hf.sub ⟨rfl, look_bool rfl (by first | rfl | (simp only [hg8, Bool.true_and, Bool.false_and, Bool.true_or, Bool.false_or]; done) | simp [hg8]), trivial⟩, hEE⟩
 rintro a w3 ⟨hf, hE⟩
 replace hB5 := hB5.below hE
 replace hr_c := hr_c.below hE
 replace hr_l := hr_l.below hE
 replace hr_d := hr_d.below hE
 replace hd_l := hd_l.below hE
 replace hW := btr hW hE
 clear hE
 refine hK7 _ _ ?_; try clear hK7 K7
 refine c_if hf rfl (fun hc9 => ?_) (fun hc9 => ?_)
 ·have hc9b := hc9
  have hn : checkI c d (l.map Sr.rp) = (0, false) := by unfold checkI; rw [if_neg]; revert hc9; rw [List.length_map]; cases cOk c <;> simp
  refine wp_seq_k ?_; intro K10 hK10
  refine wp_region_lit ?_
  refine l_as hf rfl rfl ?_; intro a hf
  refine l_as hf rfl rfl ?_; intro a hf
  refine wpList_nil ?_
  refine hK10 _ _ ?_; try clear hK10 K10
  refine wp_ret ?_
  refine x_retS ?_
  refine c_ret hf (res2 hf rfl rfl rfl) ?_
  exact ⟨by rw [hn], hW⟩
 ·have hc9b := hc9
  obtain ⟨hc, hl4⟩ : cOk c = true ∧ (l.length : Int) ≤ 400 := by revert hc9; cases cOk c <;> simp
  have hy : checkI c d (l.map Sr.rp) = (checkLI 0 c d (l.map Sr.rp), true) := by unfold checkI; rw [if_pos]; rw [List.length_map, hc, decide_eq_true hl4]; rfl
  refine wp_skip ?_
  refine hK6 _ _ ?_; try clear hK6 K6
  refine wp_seq_k ?_; intro K11 hK11
  refine wp_region_lit ?_
  refine l_e hf rfl (ev_fieldB hf rfl fd_60_0 (m := 0) rfl) ?_; intro a hf
  refine l_e hf rfl (ev_loadN (l := [.int .i64 c.n, .slice Ac c.gs.length cc]) hf rfl tN_41 ((hB5.at 0).take 2) rfl) ?_; intro a hf
  refine l_f hf rfl (ef_alloc (zs := [.int .i64 0, .slice none 0 0]) z_41 rfl) ?_; rintro a _ w4 ⟨b13, rfl, hl13, hE, hB13⟩ hf
  have hlo13 := Nat.le_trans hW.size hl13
  replace hB5 := hB5.below hE
  replace hr_c := hr_c.below hE
  replace hr_l := hr_l.below hE
  replace hr_d := hr_d.below hE
  replace hd_l := hd_l.below hE
  replace hW := btr hW hE
  clear hE
  refine l_f0 hf (ef_store (vs := [.int .i64 c.n, .slice Ac c.gs.length cc]) (l' := [.int .i64 c.n, .slice Ac c.gs.length cc]) hf rfl rfl sz_41 hB13 rfl rfl rfl rfl rfl) ?_; rintro a _ w5 ⟨ho, hb⟩ hf
  have hold := hB13
  replace hB5 := hB5.only ho (Blk.ne hB5 hold rfl)
  replace hr_c := hr_c.onlyT ho hold rfl
  replace hr_l := hr_l.onlyT ho hold rfl
  replace hr_d := hr_d.onlyT ho hold rfl
  replace hd_l := hd_l.only ho hlo13
  replace hW := Below.only hW ho hlo13
  clear hold
  have hB13 := hb
  clear hb ho
  refine wpList_nil ?_
  refine hK11 _ _ ?_; try clear hK11 K11
  refine wp_seq_k ?_; intro K14 hK14
  refine wp_seq_k ?_; intro K15 hK15
  refine wp_region_lit ?_
  refine l_e hf rfl (ev_fieldB hf rfl fd_60_1 (m := 2) rfl) ?_; intro a hf
  refine l_e hf rfl (ev_load1 hf rfl t1_58 (hB5.at 2)) ?_; intro a hf
  refine l_e hf rfl (ev_len hf rfl sl_58) ?_; intro a hf
  refine l_mv hf rfl rfl ?_; intro a hf
  refine wpList_nil ?_
  refine hK15 _ _ ?_; try clear hK15 K15
  refine wp_block ?_
  refine c_loop (σ := Nat × Cx) (fun (s : Nat × Cx) (a : Act) (w : World) => match s with | (k, x) => ∃ A16 c16, Fr a 67 [(1, .pointer (some ⟨b5, 0, none⟩)), (4, .pointer (some ⟨b13, 0, none⟩)), (24, .slice Al l.length cl), (25, .int .i64 (l.length : Int)), (26, .int .i64 (k : Int))] ∧ (k ≤ l.length) ∧ (cOk x = true) ∧ (checkLI k x d ((l.map Sr.rp).drop k) = checkLI 0 c d (l.map Sr.rp)) ∧ Blk w b5 60 [.int .i64 c.n, .slice Ac c.gs.length cc, .slice Al l.length cl, .int .i64 d.n, .slice Ad d.gs.length cd] ∧ Blk w b13 41 [.int .i64 x.n, .slice A16 x.gs.length c16] ∧ Rd w w0.heap.size 107 encG Ac c.gs ∧ Rd w w0.heap.size 30 encSr Al l ∧ Rd w w0.heap.size 107 encG Ad d.gs ∧ Rd w w.heap.size 107 encG A16 x.gs ∧ c.gs.length ≤ cc ∧ DeepR w w0.heap.size 107 l ∧ x.gs.length ≤ c16 ∧ Below w0.heap.size w0 w) (fun (s : Nat × Cx) => match s with | (k, x) => l.length - k) (0, c) ?_ ?_
  · exact ⟨Ac, cc, hf.sub ⟨rfl, rfl, rfl, rfl, rfl, trivial⟩, (Nat.zero_le _), hc, rfl, hB5, hB13, hr_c, hr_l, hr_d, hr_c.top, hp_c, hd_l, hp_c, hW⟩
  rintro ⟨k, x⟩ a w6 ⟨A16, c16, hf, hk, hx, hinv, hB5, hB13, hr_c, hr_l, hr_d, hr16, hp_c, hd_l, hcp16, hW⟩
  have hxl := cOk_le hx
  refine wp_seq_k ?_; intro K17 hK17
  refine wp_region_lit ?_
  refine l_e hf rfl (ev_lss hf rfl rfl) ?_; intro a hf
  refine wpList_nil ?_
  refine hK17 _ _ ?_; try clear hK17 K17
  refine wp_seq_k ?_; intro K18 hK18
  refine c_if hf rfl (fun hc19 => ?_) (fun hc19 => ?_)
  ·have hc19b := hc19
   have hc19 := of_decide_eq_true hc19
   obtain ⟨u20, hu20⟩ := getElem_ex (l := l) (k := k) (by omega)
   have hsu := hll u20 (List.mem_of_getElem? hu20)
   have hdr := rps_drop hu20
   rw [hdr] at hinv
   refine wp_skip ?_
   refine hK18 _ _ ?_; try clear hK18 K18
   refine wp_seq_k ?_; intro K21 hK21
   refine wp_block ?_
   refine wp_seq_k ?_; intro K22 hK22
   refine wp_region_lit ?_
   refine l_mv hf rfl rfl ?_; intro a hf
   refine l_index (k := k) (u := u20) (enc := encSr) (l := l) hf trivial rfl rfl rfl sl_58 sz_30 encSr_len hr_l hu20 rfl ?_; intro a p24 hat23 hf
   have hr25 := (hd_l u20 (List.mem_of_getElem? hu20)).1
   have hr26 := (hd_l u20 (List.mem_of_getElem? hu20)).2
   refine l_e hf rfl (ev_loadN (l := [.int .i64 u20.pos, .slice u20.A u20.old.length u20.c, .slice u20.B u20.new.length u20.d]) hf rfl tN_30 hat23 rfl) ?_; intro a hf
   refine l_f hf rfl (ef_alloc (zs := [.int .i64 0, .slice none 0 0, .slice none 0 0]) z_30 rfl) ?_; rintro a _ w7 ⟨b29, rfl, hl29, hE, hB29⟩ hf
   have hlo29 := Nat.le_trans hW.size hl29
   have haw2_29 := hr_l.away hl29
   replace hB5 := hB5.below hE
   replace hB13 := hB13.below hE
   replace hr_c := hr_c.below hE
   replace hr_l := hr_l.below hE
   replace hr_d := hr_d.below hE
   replace hr16 := hr16.below hE
   replace hr25 := hr25.below hE
   replace hr26 := hr26.below hE
   replace hd_l := hd_l.below hE
   replace hW := btr hW hE
   clear hE
   refine l_as hf rfl rfl ?_; intro a hf
   refine l_f0 hf (ef_store (vs := [.int .i64 u20.pos, .slice u20.A u20.old.length u20.c, .slice u20.B u20.new.length u20.d]) (l' := [.int .i64 u20.pos, .slice u20.A u20.old.length u20.c, .slice u20.B u20.new.length u20.d]) hf rfl rfl sz_30 hB29 rfl rfl rfl rfl rfl) ?_; rintro a _ w8 ⟨ho, hb⟩ hf
   have hold := hB29
   replace hB5 := hB5.only ho (Blk.ne hB5 hold rfl)
   replace hB13 := hB13.only ho (Blk.ne hB13 hold rfl)
   replace hr_c := hr_c.onlyT ho hold rfl
   replace hr_l := hr_l.only ho hlo29
   replace hr_d := hr_d.onlyT ho hold rfl
   replace hr16 := hr16.onlyT ho hold rfl
   replace hr25 := hr25.onlyT ho hold rfl
   replace hr26 := hr26.onlyT ho hold rfl
   replace hd_l := hd_l.only ho hlo29
   replace hW := Below.only hW ho hlo29
   clear hold
   have hB29 := hb
   clear hb ho
   refine wpList_nil ?_
   refine hK22 _ _ ?_; try clear hK22 K22
   refine wp_seq_k ?_; intro K30 hK30
   refine wp_region_lit ?_
   refine l_e hf rfl (ev_loadN (l := [.int .i64 x.n, .slice A16 x.gs.length c16]) hf rfl tN_41 (hB13.at 0) rfl) ?_; intro a hf
   refine l_e hf rfl (ev_loadN (l := [.int .i64 u20.pos, .slice u20.A u20.old.length u20.c, .slice u20.B u20.new.length u20.d]) hf rfl tN_30 (hB29.at 0) rfl) ?_; intro a hf
   refine l_f hf rfl (ef_call (vs := [.agg #[.int .i64 x.n, .slice A16 x.gs.length c16], .agg #[.int .i64 u20.pos, .slice u20.A u20.old.length u20.c, .slice u20.B u20.new.length u20.d]]) hf rfl ff_66 (F66 _ x A16 c16 hr16.top hcp16 u20.rp u20.A u20.c hr25.top u20.B u20.d hr26.top (by omega) (Nat.le_trans hsu.1 (by decide)) (Nat.le_trans hsu.2 (by decide)))) ?_; rintro a _ w9 ⟨A31, c31, rfl, ho31, hE⟩ hf
   replace ho31 := ho31.lower hW.size
   replace hB5 := hB5.below hE
   replace hB13 := hB13.below hE
   replace hB29 := hB29.below hE
   replace hr_c := hr_c.below hE
   replace hr_l := hr_l.below hE
   replace hr_d := hr_d.below hE
   replace hr16 := hr16.below hE
   replace hr25 := hr25.below hE
   replace hr26 := hr26.below hE
   replace hd_l := hd_l.below hE
   replace hW := btr hW hE
   clear hE
   refine l_mv hf rfl rfl ?_; intro a hf
   refine l_e hf rfl (ev_extract (vs := [.agg #[.int .i64 (((applyI x u20.rp).getD cZ).n), .slice A31 (((applyI x u20.rp).getD cZ).gs).length c31], .bool ((applyI x u20.rp).isSome)]) hf rfl rfl) ?_; intro a hf
   refine l_e hf rfl (ev_extract (vs := [.agg #[.int .i64 (((applyI x u20.rp).getD cZ).n), .slice A31 (((applyI x u20.rp).getD cZ).gs).length c31], .bool ((applyI x u20.rp).isSome)]) hf rfl rfl) ?_; intro a hf
   refine l_f hf rfl (ef_alloc (zs := [.int .i64 0, .slice none 0 0]) z_41 rfl) ?_; rintro a _ w10 ⟨b33, rfl, hl33, hE, hB33⟩ hf
   have hne13_33 : b13 ≠ b33 := by have := hB13.lt; omega
   have hlo33 := Nat.le_trans hW.size hl33
   replace hB5 := hB5.below hE
   replace hB13 := hB13.below hE
   replace hB29 := hB29.below hE
   replace hr_c := hr_c.below hE
   replace hr_l := hr_l.below hE
   replace hr_d := hr_d.below hE
   replace hr16 := hr16.below hE
   replace hr25 := hr25.below hE
   replace hr26 := hr26.below hE
   replace ho31 := ho31.below hE
   replace hd_l := hd_l.below hE
   replace hW := btr hW hE
   clear hE
   refine l_f0 hf (ef_store (vs := [.int .i64 (((applyI x u20.rp).getD cZ).n), .slice A31 (((applyI x u20.rp).getD cZ).gs).length c31]) (l' := [.int .i64 (((applyI x u20.rp).getD cZ).n), .slice A31 (((applyI x u20.rp).getD cZ).gs).length c31]) hf rfl rfl sz_41 hB33 rfl rfl rfl rfl rfl) ?_; rintro a _ w11 ⟨ho, hb⟩ hf
   have hold := hB33
   replace hB5 := hB5.only ho (Blk.ne hB5 hold rfl)
   replace hB13 := hB13.only ho (by omega)
   replace hB29 := hB29.only ho (Blk.ne hB29 hold rfl)
   replace hr_c := hr_c.onlyT ho hold rfl
   replace hr_l := hr_l.onlyT ho hold rfl
   replace hr_d := hr_d.onlyT ho hold rfl
   replace hr16 := hr16.onlyT ho hold rfl
   replace hr25 := hr25.onlyT ho hold rfl
   replace hr26 := hr26.onlyT ho hold rfl
   replace ho31 := ho31.onlyT ho hold rfl
   replace hd_l := hd_l.only ho hlo33
   replace hW := Below.only hW ho hlo33
   clear hold
   have hB33 := hb
   clear hb ho
   refine l_as hf rfl rfl ?_; intro a hf
   refine wpList_nil ?_
   refine hK30 _ _ ?_; try clear hK30 K30
   refine wp_seq_k ?_; intro K34 hK34
   refine wp_region_lit ?_
   refine l_e hf rfl (ev_fieldB hf rfl fd_41_0 (m := 0) rfl) ?_; intro a hf
   refine l_e hf rfl (ev_load1 hf rfl t1_3 (hB13.at 0)) ?_; intro a hf
   refine l_e hf rfl (ev_loadN (l := [.int .i64 u20.pos, .slice u20.A u20.old.length u20.c, .slice u20.B u20.new.length u20.d]) hf rfl tN_30 (hB29.at 0) rfl) ?_; intro a hf
   refine l_f hf rfl (ef_call (vs := [.int .i64 x.n, .agg #[.int .i64 u20.pos, .slice u20.A u20.old.length u20.c, .slice u20.B u20.new.length u20.d]]) hf rfl ff_12 (F12 _ x.n u20.rp u20.A u20.c hr25.top u20.B u20.d hr26.top hsu.1 hsu.2)) ?_; rintro a _ w12 ⟨rfl, hE⟩ hf
   replace hB5 := hB5.below hE
   replace hB13 := hB13.below hE
   replace hB29 := hB29.below hE
   replace hB33 := hB33.below hE
   replace hr_c := hr_c.below hE
   replace hr_l := hr_l.below hE
   replace hr_d := hr_d.below hE
   replace hr16 := hr16.below hE
   replace hr25 := hr25.below hE
   replace hr26 := hr26.below hE
   replace ho31 := ho31.below hE
   replace hd_l := hd_l.below hE
   replace hW := btr hW hE
   clear hE
   refine l_mv hf rfl rfl ?_; intro a hf
   refine l_e hf rfl (ev_extract (vs := [.bool ((implJ x.n u20.rp).1), .bool ((implJ x.n u20.rp).2)]) hf rfl rfl) ?_; intro a hf
   refine l_e hf rfl (ev_extract (vs := [.bool ((implJ x.n u20.rp).1), .bool ((implJ x.n u20.rp).2)]) hf rfl rfl) ?_; intro a hf
   refine l_as hf rfl rfl ?_; intro a hf
   refine l_as hf rfl rfl ?_; intro a hf
   refine wpList_nil ?_
   refine hK34 _ _ ?_; try clear hK34 K34
   refine wp_seq_k ?_; intro K35 hK35
   refine wp_seq_k ?_; intro K36 hK36
   refine c_cut (fun a w => Fr a 67 [(1, .pointer (some ⟨b5, 0, none⟩)), (4, .pointer (some ⟨b13, 0, none⟩)), (5, .int .i64 (k : Int)), (7, .pointer (some ⟨b33, 0, none⟩)), (24, .slice Al l.length cl), (25, .int .i64 (l.length : Int)), (26, .int .i64 (k : Int)), (53, .bool (((!((applyI x u20.rp).isSome)) || (!((implJ x.n u20.rp).2))) || (!((implJ x.n u20.rp).1))))] ∧ w12 = w) ?_ ?_
   ·refine wp_region_lit ?_
    refine l_mv hf rfl rfl ?_; intro a hf
    refine l_e hf rfl (ev_not hf rfl) ?_; intro a hf
    refine l_mv hf rfl rfl ?_; intro a hf
    refine g_split hf (t := 46) rfl (fun hg37 => ?_) (fun hg37 => ?_)
    ·refine l_pass hf ⟨_, _, rfl, rfl, hg37⟩ rfl rfl ?_; intro a hf
     refine l_pass hf ⟨_, _, rfl, rfl, hg37⟩ rfl rfl ?_; intro a hf
     refine l_e hf rfl (ev_pickT hf rfl hg37 rfl) ?_; intro a hf
     refine l_mv hf rfl rfl ?_; intro a hf
     refine l_pass hf ⟨_, _, rfl, rfl, rfl⟩ rfl rfl ?_; intro a hf
     refine l_pass hf ⟨_, _, rfl, rfl, rfl⟩ rfl rfl ?_; intro a hf
     refine l_e hf rfl (ev_pickT hf rfl rfl rfl) ?_; intro a hf
     refine wpList_nil ?_
     exact ⟨hf.sub ⟨rfl, rfl, rfl, rfl, rfl, rfl, rfl, look_bool rfl (by first | rfl | (simp only [hc9b, hc19b, hg37, Bool.true_and, Bool.false_and, Bool.true_or, Bool.false_or]; done) | simp [hc9b, hc19b, hg37]), trivial⟩, rfl⟩
    ·refine l_ev hf ⟨_, _, rfl, rfl, hg37⟩ rfl rfl (ev_move hf rfl) ?_; intro a hf
     refine l_ev hf ⟨_, _, rfl, rfl, hg37⟩ rfl rfl (ev_not hf rfl) ?_; intro a hf
     refine l_e hf rfl (ev_pickF hf rfl hg37 rfl) ?_; intro a hf
     refine l_mv hf rfl rfl ?_; intro a hf
     refine g_split hf (t := 50) rfl (fun hg38 => ?_) (fun hg38 => ?_)
     ·refine l_pass hf ⟨_, _, rfl, rfl, hg38⟩ rfl rfl ?_; intro a hf
      refine l_pass hf ⟨_, _, rfl, rfl, hg38⟩ rfl rfl ?_; intro a hf
      refine l_e hf rfl (ev_pickT hf rfl hg38 rfl) ?_; intro a hf
      refine wpList_nil ?_
      exact ⟨hf.sub ⟨rfl, rfl, rfl, rfl, rfl, rfl, rfl, look_bool rfl (by first | rfl | (simp only [hc9b, hc19b, hg37, hg38, Bool.true_and, Bool.false_and, Bool.true_or, Bool.false_or]; done) | simp [hc9b, hc19b, hg37, hg38]), trivial⟩, rfl⟩
     ·refine l_ev hf ⟨_, _, rfl, rfl, hg38⟩ rfl rfl (ev_move hf rfl) ?_; intro a hf
      refine l_ev hf ⟨_, _, rfl, rfl, hg38⟩ rfl rfl (ev_not hf rfl) ?_; intro a hf
      refine l_e hf rfl (ev_pickF hf rfl hg38 rfl) ?_; intro a hf
      refine wpList_nil ?_
      exact ⟨hf.sub ⟨rfl, rfl, rfl, rfl, rfl, rfl, rfl, look_bool rfl (by first | rfl | (simp only [hc9b, hc19b, hg37, hg38, Bool.true_and, Bool.false_and, Bool.true_or, Bool.false_or]; done) | simp [hc9b, hc19b, hg37, hg38]), trivial⟩, rfl⟩
   rintro a _ ⟨hf, rfl⟩
   refine hK36 _ _ ?_; try clear hK36 K36
   refine c_if hf rfl (fun hc39 => ?_) (fun hc39 => ?_)
   ·have hc39b := hc39
    have hfin : checkLI 0 c d (l.map Sr.rp) = (k : Int) + 1 := by rw [← hinv, checkLI, if_neg]; revert hc39; cases (applyI x u20.rp).isSome <;> cases (implJ x.n u20.rp).1 <;> cases (implJ x.n u20.rp).2 <;> simp
    refine wp_seq_k ?_; intro K40 hK40
    refine wp_region_lit ?_
    refine l_mv hf rfl rfl ?_; intro a hf
    refine l_e hf rfl (ev_addx hf rfl rfl (by omega) (by omega)) ?_; intro a hf
    refine l_as hf rfl rfl ?_; intro a hf
    refine l_as hf rfl rfl ?_; intro a hf
    refine wpList_nil ?_
    refine hK40 _ _ ?_; try clear hK40 K40
    refine wp_ret ?_
    refine x_retS ?_
    refine x_retB ?_
    refine x_retS ?_
    refine x_retS ?_
    refine x_retB ?_
    refine x_retS ?_
    refine c_ret hf (res2 hf rfl rfl rfl) ?_
    exact ⟨by rw [hy, ← hfin], hW⟩
   ·have hc39b := hc39
    have hj3 : ((applyI x u20.rp).isSome && (implJ x.n u20.rp).2 && (implJ x.n u20.rp).1) = true := by revert hc39; cases (applyI x u20.rp).isSome <;> cases (implJ x.n u20.rp).1 <;> cases (implJ x.n u20.rp).2 <;> simp
    have hst : checkLI (k + 1) ((applyI x u20.rp).getD cZ) d ((l.map Sr.rp).drop (k + 1)) = checkLI 0 c d (l.map Sr.rp) := by rw [← hinv, checkLI, if_pos hj3]
    obtain ⟨x1, hap⟩ : ∃ x1, applyI x u20.rp = some x1 := by revert hj3; cases applyI x u20.rp <;> simp
    have hx1 : cOk x1 = true := by have h9 := apply_eq (r := u20.rp) hx; rw [h9.1] at hap; exact (h9.2 x1 hap).1
    refine wp_skip ?_
    refine hK35 _ _ ?_; try clear hK35 K35
    refine wp_region_lit ?_
    refine l_e hf rfl (ev_loadN (l := [.int .i64 (((applyI x u20.rp).getD cZ).n), .slice A31 (((applyI x u20.rp).getD cZ).gs).length c31]) hf rfl tN_41 (hB33.at 0) rfl) ?_; intro a hf
    refine l_f0 hf (ef_store (vs := [.int .i64 (((applyI x u20.rp).getD cZ).n), .slice A31 (((applyI x u20.rp).getD cZ).gs).length c31]) (l' := [.int .i64 (((applyI x u20.rp).getD cZ).n), .slice A31 (((applyI x u20.rp).getD cZ).gs).length c31]) hf rfl rfl sz_41 hB13 rfl rfl rfl rfl rfl) ?_; rintro a _ w13 ⟨ho, hb⟩ hf
    have hold := hB13
    replace hB5 := hB5.only ho (Blk.ne hB5 hold rfl)
    replace hB29 := hB29.only ho (Blk.ne hB29 hold rfl)
    replace hB33 := hB33.only ho (by omega)
    replace hr_c := hr_c.onlyT ho hold rfl
    replace hr_l := hr_l.onlyT ho hold rfl
    replace hr_d := hr_d.onlyT ho hold rfl
    replace hr16 := hr16.onlyT ho hold rfl
    replace hr25 := hr25.onlyT ho hold rfl
    replace hr26 := hr26.onlyT ho hold rfl
    replace ho31 := ho31.onlyT ho hold rfl
    replace hd_l := hd_l.only ho hlo13
    replace hW := Below.only hW ho hlo13
    clear hold
    have hB13 := hb
    clear hb ho
    refine wpList_nil ?_
    refine x_norm ?_
    refine hK21 _ _ ?_; try clear hK21 K21
    refine wp_region_lit ?_
    refine l_e hf rfl (ev_addx hf rfl rfl (by omega) (by omega)) ?_; intro a hf
    refine l_mv hf rfl rfl ?_; intro a hf
    refine wpList_nil ?_
    refine x_thenN ?_
    exact ⟨(k + 1, ((applyI x u20.rp).getD cZ)), ⟨A31, c31, hf.sub ⟨rfl, rfl, rfl, rfl, rfl, trivial⟩, (by omega), (by rw [hap]; exact hx1), hst, hB5, hB13, hr_c, hr_l, hr_d, ho31.rd, hp_c, hd_l, ho31.cap, hW⟩, (by first | omega | (dsimp only; omega))⟩
  ·have hc19b := hc19
   have hc19 := of_decide_eq_false hc19
   have hdk : (l.map Sr.rp).drop k = [] := List.drop_of_length_le (by rw [List.length_map]; omega)
   have hkl : k = l.length := by omega
   rw [hdk, checkLI] at hinv
   refine wp_exit ?_
   refine x_exS ?_
   refine x_exS ?_
   refine x_exit ?_
   refine hK14 _ _ ?_; try clear hK14 K14
   refine wp_seq_k ?_; intro K41 hK41
   refine wp_seq_k ?_; intro K42 hK42
   refine wp_region_lit ?_
   refine l_e hf rfl (ev_loadN (l := [.int .i64 x.n, .slice A16 x.gs.length c16]) hf rfl tN_41 (hB13.at 0) rfl) ?_; intro a hf
   refine l_e hf rfl (ev_fieldB hf rfl fd_60_2 (m := 3) rfl) ?_; intro a hf
   refine l_e hf rfl (ev_loadN (l := [.int .i64 d.n, .slice Ad d.gs.length cd]) hf rfl tN_41 ((hB5.at 3).take 2) rfl) ?_; intro a hf
   refine l_f hf rfl (ef_call (vs := [.agg #[.int .i64 x.n, .slice A16 x.gs.length c16], .agg #[.int .i64 d.n, .slice Ad d.gs.length cd]]) hf rfl ff_67 (F67 _ x A16 c16 hr16.top d Ad cd hr_d.top (by omega))) ?_; rintro a _ w14 ⟨rfl, hE⟩ hf
   replace hB5 := hB5.below hE
   replace hB13 := hB13.below hE
   replace hr_c := hr_c.below hE
   replace hr_l := hr_l.below hE
   replace hr_d := hr_d.below hE
   replace hr16 := hr16.below hE
   replace hd_l := hd_l.below hE
   replace hW := btr hW hE
   clear hE
   refine l_e hf rfl (ev_not hf rfl) ?_; intro a hf
   refine wpList_nil ?_
   refine hK42 _ _ ?_; try clear hK42 K42
   refine c_if hf rfl (fun hc43 => ?_) (fun hc43 => ?_)
   ·have hc43b := hc43
    have hq : eqC x d = false := by revert hc43; cases eqC x d <;> simp
    rw [hq, if_neg (by decide)] at hinv
    refine wp_seq_k ?_; intro K44 hK44
    refine wp_region_lit ?_
    refine l_e hf rfl (ev_fieldB hf rfl fd_60_1 (m := 2) rfl) ?_; intro a hf
    refine l_e hf rfl (ev_load1 hf rfl t1_58 (hB5.at 2)) ?_; intro a hf
    refine l_e hf rfl (ev_len hf rfl sl_58) ?_; intro a hf
    refine l_e hf rfl (ev_addx hf rfl rfl (by omega) (by omega)) ?_; intro a hf
    refine l_as hf rfl rfl ?_; intro a hf
    refine l_as hf rfl rfl ?_; intro a hf
    refine wpList_nil ?_
    refine hK44 _ _ ?_; try clear hK44 K44
    refine wp_ret ?_
    refine x_retS ?_
    refine c_ret hf (res2 hf rfl rfl rfl) ?_
    exact ⟨by rw [hy, ← hinv, hkl], hW⟩
   ·have hc43b := hc43
    have hq : eqC x d = true := by revert hc43; cases eqC x d <;> simp
    rw [hq, if_pos rfl] at hinv
    refine wp_skip ?_
    refine hK41 _ _ ?_; try clear hK41 K41
    refine wp_seq_k ?_; intro K45 hK45
    refine wp_region_lit ?_
    refine l_as hf rfl rfl ?_; intro a hf
    refine l_as hf rfl rfl ?_; intro a hf
    refine wpList_nil ?_
    refine hK45 _ _ ?_; try clear hK45 K45
    refine wp_ret ?_
    refine c_ret hf (res2 hf rfl rfl rfl) ?_
    exact ⟨by rw [hy, ← hinv], hW⟩
end Go.Proofs.YtfgnmflfiobkmaaGreat
set_option maxRecDepth 4000
namespace Go.Proofs.YtfgnmflfiobkmaaGreat
open Go.RowKit
theorem F14 (w0 : World) {Xc : TypeId} (c : Cx) (Ac : Option Addr) (cc : Nat) (hr_c : Rd w0 w0.heap.size Xc encG Ac c.gs) (t : Int) (ht : 0 ≤ t ∧ t ≤ 1048576) (hlc : c.gs.length ≤ 9223372036854775807) : Ret Tryz.prog 14 [.agg #[.int .i64 c.n, .slice Ac c.gs.length cc], .int .i64 t] w0 (fun v w => v = .int .i64 (szG c.gs t) ∧ Below w0.heap.size w0 w) := by
 refine enter Tryz.func14 rfl 12 rfl rfl ?_
 intro a hf
 have hW : Below w0.heap.size w0 w0 := Below.refl _ _
 refine wp_seq_k ?_; intro K2 hK2
 refine wp_region_lit ?_
 refine l_f hf rfl (ef_box (zs := [.int .i64 c.n, .slice Ac c.gs.length cc]) hf rfl rfl) ?_; rintro a _ w1 ⟨b3, rfl, hl3, hE, hB3⟩ hf
 have hlo3 := Nat.le_trans hW.size hl3
 replace hr_c := hr_c.below hE
 replace hW := btr hW hE
 clear hE
 refine l_as hf rfl rfl ?_; intro a hf
 refine wpList_nil ?_
 refine hK2 _ _ ?_; try clear hK2 K2
 refine wp_seq_k ?_; intro K4 hK4
 refine wp_region_lit ?_
 refine l_e hf rfl (ev_fieldB hf rfl fd_35_1 (m := 1) rfl) ?_; intro a hf
 refine l_e hf rfl (ev_load1 hf rfl t1_22 (hB3.at 1)) ?_; intro a hf
 refine l_mv hf rfl rfl ?_; intro a hf
 refine l_f hf rfl (ef_call (vs := [.slice Ac c.gs.length cc, .int .i64 t]) hf rfl ff_42 (F42 _ Ac cc c.gs hr_c.top t ht hlc)) ?_; rintro a _ _ ⟨rfl, rfl⟩ hf
 refine l_as hf rfl rfl ?_; intro a hf
 refine wpList_nil ?_
 refine hK4 _ _ ?_; try clear hK4 K4
 refine wp_seq_k ?_; intro K5 hK5
 refine wp_seq_k ?_; intro K6 hK6
 refine wp_region_lit ?_
 refine l_mv hf rfl rfl ?_; intro a hf
 refine l_e hf rfl (ev_lss hf rfl rfl) ?_; intro a hf
 refine wpList_nil ?_
 refine hK6 _ _ ?_; try clear hK6 K6
 refine c_if hf rfl (fun hc7 => ?_) (fun hc7 => ?_)
 ·have hc7b := hc7
  have hc7 := of_decide_eq_true hc7
  have hfin : szG c.gs t = -1 := szG_neg hc7
  refine wp_seq_k ?_; intro K8 hK8
  refine wp_region_lit ?_
  refine l_as hf rfl rfl ?_; intro a hf
  refine wpList_nil ?_
  refine hK8 _ _ ?_; try clear hK8 K8
  refine wp_ret ?_
  refine x_retS ?_
  refine c_ret hf (res1 hf rfl rfl) ?_
  exact ⟨by rw [hfin], hW⟩
 ·have hc7b := hc7
  have hc7 := of_decide_eq_false hc7
  have hne := hc7
  refine wp_skip ?_
  refine hK5 _ _ ?_; try clear hK5 K5
  refine wp_seq_k ?_; intro K9 hK9
  refine wp_region_lit ?_
  refine l_mv hf rfl rfl ?_; intro a hf
  refine l_as hf rfl rfl ?_; intro a hf
  refine wpList_nil ?_
  refine hK9 _ _ ?_; try clear hK9 K9
  refine wp_ret ?_
  refine c_ret hf (res1 hf rfl rfl) ?_
  exact ⟨rfl, hW⟩
theorem F16 (w0 : World) {Xc : TypeId} (c : Cx) (Ac : Option Addr) (cc : Nat) (hr_c : Rd w0 w0.heap.size Xc encG Ac c.gs) (hlc : c.gs.length ≤ 1048576) : Ret Tryz.prog 16 [.agg #[.int .i64 c.n, .slice Ac c.gs.length cc]] w0 (fun v w => ∃ A c1, v = .agg #[.int .i64 c.n, .slice A c.gs.length c1] ∧ Own w w0.heap.size 107 3 encG A c1 c.gs ∧ Below w0.heap.size w0 w) := by
 refine enter Tryz.func16 rfl 12 rfl rfl ?_
 intro a hf
 have hW : Below w0.heap.size w0 w0 := Below.refl _ _
 refine wp_seq_k ?_; intro K2 hK2
 refine wp_region_lit ?_
 refine l_f hf rfl (ef_box (zs := [.int .i64 c.n, .slice Ac c.gs.length cc]) hf rfl rfl) ?_; rintro a _ w1 ⟨b3, rfl, hl3, hE, hB3⟩ hf
 have hlo3 := Nat.le_trans hW.size hl3
 replace hr_c := hr_c.below hE
 replace hW := btr hW hE
 clear hE
 refine l_f hf rfl (ef_alloc (zs := [.int .i64 0, .slice none 0 0]) z_41 rfl) ?_; rintro a _ w2 ⟨b5, rfl, hl5, hE, hB5⟩ hf
 have hlo5 := Nat.le_trans hW.size hl5
 replace hB3 := hB3.below hE
 replace hr_c := hr_c.below hE
 replace hW := btr hW hE
 clear hE
 refine wpList_nil ?_
 refine hK2 _ _ ?_; try clear hK2 K2
 refine wp_seq_k ?_; intro K6 hK6
 refine wp_region_lit ?_
 refine l_f hf rfl (ef_alloc (zs := [.int .i64 0, .slice none 0 0]) z_41 rfl) ?_; rintro a _ w3 ⟨b8, rfl, hl8, hE, hB8⟩ hf
 have hne5_8 : b5 ≠ b8 := by have := hB5.lt; omega
 have hlo8 := Nat.le_trans hW.size hl8
 replace hB3 := hB3.below hE
 replace hB5 := hB5.below hE
 replace hr_c := hr_c.below hE
 replace hW := btr hW hE
 clear hE
 refine wpList_nil ?_
 refine hK6 _ _ ?_; try clear hK6 K6
 refine wp_seq_k ?_; intro K9 hK9
 refine wp_region_lit ?_
 refine l_e hf rfl (ev_fieldB hf rfl fd_35_0 (m := 0) rfl) ?_; intro a hf
 refine l_e hf rfl (ev_load1 hf rfl t1_3 (hB3.at 0)) ?_; intro a hf
 refine l_e hf rfl (ev_fieldB hf rfl fd_41_0 (m := 0) rfl) ?_; intro a hf
 refine l_f0 hf (ef_store (vs := [.int .i64 c.n]) (l' := [.int .i64 c.n, .slice none 0 0]) hf rfl rfl sz_3 hB8 rfl rfl rfl rfl rfl) ?_; rintro a _ w4 ⟨ho, hb⟩ hf
 have hold := hB8
 replace hB3 := hB3.only ho (Blk.ne hB3 hold rfl)
 replace hB5 := hB5.only ho (by omega)
 replace hr_c := hr_c.only ho hlo8
 replace hW := Below.only hW ho hlo8
 clear hold
 have hB8 := hb
 clear hb ho
 refine wpList_nil ?_
 refine hK9 _ _ ?_; try clear hK9 K9
 refine wp_seq_k ?_; intro K10 hK10
 refine wp_region_lit ?_
 refine l_e hf rfl (ev_fieldB hf rfl fd_35_1 (m := 1) rfl) ?_; intro a hf
 refine l_e hf rfl (ev_load1 hf rfl t1_22 (hB3.at 1)) ?_; intro a hf
 refine l_f hf rfl (ef_call (vs := [.slice Ac c.gs.length cc]) hf rfl ff_45 (F45 _ Ac cc c.gs hr_c.top hlc)) ?_; rintro a _ w5 ⟨A11, c11, rfl, ho11, hE⟩ hf
 replace ho11 := ho11.lower hW.size
 replace hB3 := hB3.below hE
 replace hB5 := hB5.below hE
 replace hB8 := hB8.below hE
 replace hr_c := hr_c.below hE
 replace hW := btr hW hE
 clear hE
 refine l_e hf rfl (ev_fieldB hf rfl fd_41_1 (m := 1) rfl) ?_; intro a hf
 refine l_f0 hf (ef_store (vs := [.slice A11 c.gs.length c11]) (l' := [.int .i64 c.n, .slice A11 c.gs.length c11]) hf rfl rfl sz_28 hB8 rfl rfl rfl rfl rfl) ?_; rintro a _ w6 ⟨ho, hb⟩ hf
 have hold := hB8
 replace hB3 := hB3.only ho (Blk.ne hB3 hold rfl)
 replace hB5 := hB5.only ho (by omega)
 replace hr_c := hr_c.only ho hlo8
 replace ho11 := ho11.onlyT ho hold rfl
 replace hW := Below.only hW ho hlo8
 clear hold
 have hB8 := hb
 clear hb ho
 refine wpList_nil ?_
 refine hK10 _ _ ?_; try clear hK10 K10
 refine wp_seq_k ?_; intro K12 hK12
 refine wp_region_lit ?_
 refine l_e hf rfl (ev_loadN (l := [.int .i64 c.n, .slice A11 c.gs.length c11]) hf rfl tN_41 (hB8.at 0) rfl) ?_; intro a hf
 refine l_f0 hf (ef_store (vs := [.int .i64 c.n, .slice A11 c.gs.length c11]) (l' := [.int .i64 c.n, .slice A11 c.gs.length c11]) hf rfl rfl sz_41 hB5 rfl rfl rfl rfl rfl) ?_; rintro a _ w7 ⟨ho, hb⟩ hf
 have hold := hB5
 replace hB3 := hB3.only ho (Blk.ne hB3 hold rfl)
 replace hB8 := hB8.only ho (by omega)
 replace hr_c := hr_c.only ho hlo5
 replace ho11 := ho11.onlyT ho hold rfl
 replace hW := Below.only hW ho hlo5
 clear hold
 have hB5 := hb
 clear hb ho
 refine wpList_nil ?_
 refine hK12 _ _ ?_; try clear hK12 K12
 refine wp_ret ?_
 refine c_ret hf (res1 hf rfl (ResV.cellN (l := [.int .i64 c.n, .slice A11 c.gs.length c11]) rfl tN_41 (hB5.at 0) rfl)) ?_
 exact ⟨A11, c11, rfl, ho11, hW⟩
theorem F19 (w0 : World) (p : Cx) (Ap : Option Addr) (cp : Nat) (hr_p : Rd w0 w0.heap.size 107 encG Ap p.gs) (q : Cx) (Aq : Option Addr) (cq : Nat) (hr_q : Rd w0 w0.heap.size 107 encG Aq q.gs) (hln : p.gs.length ≤ 2305843009213693951) : Ret Tryz.prog 19 [.agg #[.int .i64 p.n, .slice Ap p.gs.length cp], .agg #[.int .i64 q.n, .slice Aq q.gs.length cq]] w0 (fun v w => v = .bool (eqC p q) ∧ Below w0.heap.size w0 w) := by
 refine enter Tryz.func19 rfl 16 rfl rfl ?_
 intro a hf
 have hW : Below w0.heap.size w0 w0 := Below.refl _ _
 refine wp_seq_k ?_; intro K3 hK3
 refine wp_region_lit ?_
 refine l_f hf rfl (ef_box (zs := [.int .i64 p.n, .slice Ap p.gs.length cp]) hf rfl rfl) ?_; rintro a _ w1 ⟨b4, rfl, hl4, hE, hB4⟩ hf
 have hlo4 := Nat.le_trans hW.size hl4
 replace hr_p := hr_p.below hE
 replace hr_q := hr_q.below hE
 replace hW := btr hW hE
 clear hE
 refine l_f hf rfl (ef_box (zs := [.int .i64 q.n, .slice Aq q.gs.length cq]) hf rfl rfl) ?_; rintro a _ w2 ⟨b5, rfl, hl5, hE, hB5⟩ hf
 have hne4_5 : b4 ≠ b5 := by have := hB4.lt; omega
 have hlo5 := Nat.le_trans hW.size hl5
 replace hB4 := hB4.below hE
 replace hr_p := hr_p.below hE
 replace hr_q := hr_q.below hE
 replace hW := btr hW hE
 clear hE
 refine l_as hf rfl rfl ?_; intro a hf
 refine wpList_nil ?_
 refine hK3 _ _ ?_; try clear hK3 K3
 refine wp_seq_k ?_; intro K6 hK6
 refine wp_seq_k ?_; intro K7 hK7
 refine wp_region_lit ?_
 refine l_e hf rfl (ev_fieldB hf rfl fd_41_0 (m := 0) rfl) ?_; intro a hf
 refine l_e hf rfl (ev_load1 hf rfl t1_3 (hB4.at 0)) ?_; intro a hf
 refine l_e hf rfl (ev_fieldB hf rfl fd_41_0 (m := 0) rfl) ?_; intro a hf
 refine l_e hf rfl (ev_load1 hf rfl t1_3 (hB5.at 0)) ?_; intro a hf
 refine l_e hf rfl (ev_neq hf rfl rfl) ?_; intro a hf
 refine wpList_nil ?_
 refine hK7 _ _ ?_; try clear hK7 K7
 refine c_if hf rfl (fun hc8 => ?_) (fun hc8 => ?_)
 ·have hc8b := hc8
  have hn : ¬ p.n = q.n := by simpa using hc8
  refine wp_seq_k ?_; intro K9 hK9
  refine wp_region_lit ?_
  refine l_as hf rfl rfl ?_; intro a hf
  refine wpList_nil ?_
  refine hK9 _ _ ?_; try clear hK9 K9
  refine wp_ret ?_
  refine x_retS ?_
  refine c_ret hf (res1 hf rfl rfl) ?_
  exact ⟨by simp [eqC, hn], hW⟩
 ·have hc8b := hc8
  have e1 : p.n = q.n := by simpa using hc8
  refine wp_skip ?_
  refine hK6 _ _ ?_; try clear hK6 K6
  refine wp_seq_k ?_; intro K10 hK10
  refine wp_seq_k ?_; intro K11 hK11
  refine wp_region_lit ?_
  refine l_e hf rfl (ev_fieldB hf rfl fd_41_1 (m := 1) rfl) ?_; intro a hf
  refine l_e hf rfl (ev_load1 hf rfl t1_28 (hB4.at 1)) ?_; intro a hf
  refine l_e hf rfl (ev_fieldB hf rfl fd_41_1 (m := 1) rfl) ?_; intro a hf
  refine l_e hf rfl (ev_load1 hf rfl t1_28 (hB5.at 1)) ?_; intro a hf
  refine l_f hf rfl (ef_call (vs := [.slice Ap p.gs.length cp, .slice Aq q.gs.length cq]) hf rfl ff_52 (F52 _ Ap cp p.gs hr_p.top Aq cq q.gs hr_q.top hln)) ?_; rintro a _ w3 ⟨rfl, hE⟩ hf
  replace hB4 := hB4.below hE
  replace hB5 := hB5.below hE
  replace hr_p := hr_p.below hE
  replace hr_q := hr_q.below hE
  replace hW := btr hW hE
  clear hE
  refine l_e hf rfl (ev_not hf rfl) ?_; intro a hf
  refine wpList_nil ?_
  refine hK11 _ _ ?_; try clear hK11 K11
  refine c_if hf rfl (fun hc12 => ?_) (fun hc12 => ?_)
  ·have hc12b := hc12
   have hn : ¬ p.gs = q.gs := by simpa using hc12
   refine wp_seq_k ?_; intro K13 hK13
   refine wp_region_lit ?_
   refine l_as hf rfl rfl ?_; intro a hf
   refine wpList_nil ?_
   refine hK13 _ _ ?_; try clear hK13 K13
   refine wp_ret ?_
   refine x_retS ?_
   refine c_ret hf (res1 hf rfl rfl) ?_
   exact ⟨by simp [eqC, hn], hW⟩
  ·have hc12b := hc12
   have e2 : p.gs = q.gs := by simpa using hc12
   refine wp_skip ?_
   refine hK10 _ _ ?_; try clear hK10 K10
   refine wp_seq_k ?_; intro K14 hK14
   refine wp_region_lit ?_
   refine l_as hf rfl rfl ?_; intro a hf
   refine wpList_nil ?_
   refine hK14 _ _ ?_; try clear hK14 K14
   refine wp_ret ?_
   refine c_ret hf (res1 hf rfl rfl) ?_
   exact ⟨by simp [eqC, e1, e2], hW⟩
theorem F62 (w0 : World) {Xl : TypeId} (Al : Option Addr) (cl : Nat) (l : List Sr) (hr_l : Rd w0 w0.heap.size Xl encSr Al l) (hd_l : DeepX w0 w0.heap.size l) (t : Int) (ht : 0 ≤ t ∧ t ≤ 1048576) (hln : l.length ≤ 9223372036854775807) (hll : ∀ s ∈ l, s.old.length ≤ 9223372036854775807 ∧ s.new.length ≤ 9223372036854775807) : Ret Tryz.prog 62 [.slice Al l.length cl, .int .i64 t] w0 (fun v w => v = .int .i64 (szL l t) ∧ Below w0.heap.size w0 w) := by
 refine enter Tryz.func62 rfl 27 rfl rfl ?_
 intro a hf
 have hW : Below w0.heap.size w0 w0 := Below.refl _ _
 refine wp_seq_k ?_; intro K2 hK2
 refine wp_region_lit ?_
 refine l_as hf rfl rfl ?_; intro a hf
 refine wpList_nil ?_
 refine hK2 _ _ ?_; try clear hK2 K2
 refine wp_seq_k ?_; intro K3 hK3
 refine wp_region_lit ?_
 refine l_mv hf rfl rfl ?_; intro a hf
 refine l_mv hf rfl rfl ?_; intro a hf
 refine l_e hf rfl (ev_len hf rfl sl_52) ?_; intro a hf
 refine l_e hf rfl (ev_subx hf rfl rfl (by omega) (by omega)) ?_; intro a hf
 refine l_as hf rfl rfl ?_; intro a hf
 refine wpList_nil ?_
 refine hK3 _ _ ?_; try clear hK3 K3
 refine wp_seq_k ?_; intro K4 hK4
 refine wp_seq_k ?_; intro K5 hK5
 refine wp_region_lit ?_
 refine l_mv hf rfl rfl ?_; intro a hf
 refine l_e hf rfl (ev_lss hf rfl rfl) ?_; intro a hf
 refine wpList_nil ?_
 refine hK5 _ _ ?_; try clear hK5 K5
 refine c_if hf rfl (fun hc6 => ?_) (fun hc6 => ?_)
 ·have hc6b := hc6
  have hc6 := of_decide_eq_true hc6
  have hfin : szL l t = -1 := by rw [szL, if_pos hc6]
  refine wp_seq_k ?_; intro K7 hK7
  refine wp_region_lit ?_
  refine l_as hf rfl rfl ?_; intro a hf
  refine wpList_nil ?_
  refine hK7 _ _ ?_; try clear hK7 K7
  refine wp_ret ?_
  refine x_retS ?_
  refine c_ret hf (res1 hf rfl rfl) ?_
  exact ⟨by rw [hfin], hW⟩
 ·have hc6b := hc6
  have hc6 := of_decide_eq_false hc6
  have hne := hc6
  refine wp_skip ?_
  refine hK4 _ _ ?_; try clear hK4 K4
  refine wp_seq_k ?_; intro K8 hK8
  refine wp_seq_k ?_; intro K9 hK9
  refine wp_region_lit ?_
  refine l_as hf rfl rfl ?_; intro a hf
  refine wpList_nil ?_
  refine hK9 _ _ ?_; try clear hK9 K9
  refine wp_block ?_
  refine c_loop (σ := Nat × Int) (fun (s : Nat × Int) (a : Act) (w : World) => match s with | (k, x) => Fr a 27 [(0, .slice Al l.length cl), (1, .int .i64 x), (5, .int .i64 (k : Int))] ∧ (k ≤ l.length) ∧ (0 ≤ x ∧ x ≤ 1048576) ∧ (szF (l.drop k) x = szF l (t - (l.length : Int))) ∧ Rd w w0.heap.size Xl encSr Al l ∧ DeepX w w0.heap.size l ∧ Below w0.heap.size w0 w) (fun (s : Nat × Int) => match s with | (k, x) => l.length - k) (0, t - (l.length : Int)) ?_ ?_
  · exact ⟨hf.sub ⟨rfl, rfl, rfl, trivial⟩, (Nat.zero_le _), (by omega), rfl, hr_l, hd_l, hW⟩
  rintro ⟨k, x⟩ a w1 ⟨hf, hk, hx, hinv, hr_l, hd_l, hW⟩
  refine wp_seq_k ?_; intro K10 hK10
  refine wp_seq_k ?_; intro K11 hK11
  refine wp_region_lit ?_
  refine l_mv hf rfl rfl ?_; intro a hf
  refine l_mv hf rfl rfl ?_; intro a hf
  refine l_e hf rfl (ev_len hf rfl sl_52) ?_; intro a hf
  refine l_e hf rfl (ev_lss hf rfl rfl) ?_; intro a hf
  refine wpList_nil ?_
  refine hK11 _ _ ?_; try clear hK11 K11
  refine c_if hf rfl (fun hc12 => ?_) (fun hc12 => ?_)
  ·have hc12b := hc12
   have hc12 := of_decide_eq_true hc12
   obtain ⟨u13, hu13⟩ := getElem_ex (l := l) (k := k) (by omega)
   have hsu := hll u13 (List.mem_of_getElem? hu13)
   have hsf := szF_step hu13 x
   refine wp_skip ?_
   refine hK10 _ _ ?_; try clear hK10 K10
   refine wp_seq_k ?_; intro K14 hK14
   refine wp_block ?_
   refine wp_seq_k ?_; intro K15 hK15
   refine wp_region_lit ?_
   refine l_mv hf rfl rfl ?_; intro a hf
   refine l_mv hf rfl rfl ?_; intro a hf
   refine l_index (k := k) (u := u13) (enc := encSr) (l := l) hf trivial rfl rfl rfl sl_52 sz_24 encSr_len hr_l hu13 rfl ?_; intro a p17 hat16 hf
   obtain ⟨E18, hr18⟩ := (hd_l u13 (List.mem_of_getElem? hu13)).1
   obtain ⟨E19, hr19⟩ := (hd_l u13 (List.mem_of_getElem? hu13)).2
   refine l_e hf rfl (ev_loadN (l := [.int .i64 u13.pos, .slice u13.A u13.old.length u13.c, .slice u13.B u13.new.length u13.d]) hf rfl tN_24 hat16 rfl) ?_; intro a hf
   refine l_mv hf rfl rfl ?_; intro a hf
   refine l_f hf rfl (ef_call (vs := [.agg #[.int .i64 u13.pos, .slice u13.A u13.old.length u13.c, .slice u13.B u13.new.length u13.d], .int .i64 x]) hf rfl ff_9 (F9 _ u13.rp u13.A u13.c hr18.top u13.B u13.d hr19.top x (by omega) hsu.1 hsu.2)) ?_; rintro a _ w2 ⟨rfl, hE⟩ hf
   replace hr_l := hr_l.below hE
   replace hr18 := hr18.below hE
   replace hr19 := hr19.below hE
   replace hd_l := hd_l.below hE
   replace hW := btr hW hE
   clear hE
   refine l_as hf rfl rfl ?_; intro a hf
   refine wpList_nil ?_
   refine hK15 _ _ ?_; try clear hK15 K15
   refine wp_seq_k ?_; intro K20 hK20
   refine wp_region_lit ?_
   refine l_mv hf rfl rfl ?_; intro a hf
   refine l_e hf rfl (ev_lss hf rfl rfl) ?_; intro a hf
   refine wpList_nil ?_
   refine hK20 _ _ ?_; try clear hK20 K20
   refine c_if hf rfl (fun hc21 => ?_) (fun hc21 => ?_)
   ·have hc21b := hc21
    have hc21 := of_decide_eq_true hc21
    have hfin : szL l t = -1 := by rw [szL, if_neg hne, ← hinv, hsf, if_pos hc21]
    refine wp_seq_k ?_; intro K22 hK22
    refine wp_region_lit ?_
    refine l_as hf rfl rfl ?_; intro a hf
    refine wpList_nil ?_
    refine hK22 _ _ ?_; try clear hK22 K22
    refine wp_ret ?_
    refine x_retB ?_
    refine x_retS ?_
    refine x_retS ?_
    refine x_retB ?_
    refine x_retS ?_
    refine c_ret hf (res1 hf rfl rfl) ?_
    exact ⟨by rw [hfin], hW⟩
   ·have hc21b := hc21
    have hc21 := of_decide_eq_false hc21
    have hx1 := szR_le hc21
    rw [if_neg hc21] at hsf
    refine wp_skip ?_
    refine x_norm ?_
    refine hK14 _ _ ?_; try clear hK14 K14
    refine wp_region_lit ?_
    refine l_mv hf rfl rfl ?_; intro a hf
    refine l_e hf rfl (ev_addx hf rfl rfl (by omega) (by omega)) ?_; intro a hf
    refine l_as hf rfl rfl ?_; intro a hf
    refine wpList_nil ?_
    refine x_thenN ?_
    exact ⟨(k + 1, (szR u13.rp x)), ⟨hf.sub ⟨rfl, rfl, rfl, trivial⟩, (by omega), (by omega), (by rw [← hsf, hinv]), hr_l, hd_l, hW⟩, (by first | omega | (dsimp only; omega))⟩
  ·have hc12b := hc12
   have hc12 := of_decide_eq_false hc12
   refine wp_exit ?_
   refine x_exS ?_
   refine x_exS ?_
   refine x_exit ?_
   refine hK8 _ _ ?_; try clear hK8 K8
   refine wp_seq_k ?_; intro K23 hK23
   refine wp_region_lit ?_
   refine l_mv hf rfl rfl ?_; intro a hf
   refine l_as hf rfl rfl ?_; intro a hf
   refine wpList_nil ?_
   refine hK23 _ _ ?_; try clear hK23 K23
   refine wp_ret ?_
   refine c_ret hf (res1 hf rfl rfl) ?_
   have hfin : szL l t = x := by rw [szL, if_neg hne, ← hinv, List.drop_of_length_le (by omega)]; rfl
   exact ⟨by rw [hfin], hW⟩
theorem F26 (w0 : World) {Xc : TypeId} (c : Cx) (Ac : Option Addr) (cc : Nat) (hr_c : Rd w0 w0.heap.size Xc encG Ac c.gs) {Xl : TypeId} (Al : Option Addr) (cl : Nat) (l : List Sr) (hr_l : Rd w0 w0.heap.size Xl encSr Al l) (hd_l : DeepX w0 w0.heap.size l) {Xd : TypeId} (d : Cx) (Ad : Option Addr) (cd : Nat) (hr_d : Rd w0 w0.heap.size Xd encG Ad d.gs) (t : Int) (ht : 0 ≤ t ∧ t ≤ 1048576) (hlc : c.gs.length ≤ 9223372036854775807) (hls : l.length ≤ 9223372036854775807) (hll : ∀ s ∈ l, s.old.length ≤ 9223372036854775807 ∧ s.new.length ≤ 9223372036854775807) (hld : d.gs.length ≤ 9223372036854775807) : Ret Tryz.prog 26 [.agg #[.int .i64 c.n, .slice Ac c.gs.length cc, .slice Al l.length cl, .int .i64 d.n, .slice Ad d.gs.length cd], .int .i64 t] w0 (fun v w => v = .int .i64 (szZ c l d t) ∧ Below w0.heap.size w0 w) := by
 refine enter Tryz.func26 rfl 24 rfl rfl ?_
 intro a hf
 have hW : Below w0.heap.size w0 w0 := Below.refl _ _
 refine wp_seq_k ?_; intro K4 hK4
 refine wp_region_lit ?_
 refine l_f hf rfl (ef_box (zs := [.int .i64 c.n, .slice Ac c.gs.length cc, .slice Al l.length cl, .int .i64 d.n, .slice Ad d.gs.length cd]) hf rfl rfl) ?_; rintro a _ w1 ⟨b5, rfl, hl5, hE, hB5⟩ hf
 have hlo5 := Nat.le_trans hW.size hl5
 replace hr_c := hr_c.below hE
 replace hr_l := hr_l.below hE
 replace hr_d := hr_d.below hE
 replace hd_l := hd_l.below hE
 replace hW := btr hW hE
 clear hE
 refine l_as hf rfl rfl ?_; intro a hf
 refine wpList_nil ?_
 refine hK4 _ _ ?_; try clear hK4 K4
 refine wp_seq_k ?_; intro K6 hK6
 refine wp_region_lit ?_
 refine l_e hf rfl (ev_fieldB hf rfl fd_54_0 (m := 0) rfl) ?_; intro a hf
 refine l_e hf rfl (ev_loadN (l := [.int .i64 c.n, .slice Ac c.gs.length cc]) hf rfl tN_35 ((hB5.at 0).take 2) rfl) ?_; intro a hf
 refine l_mv hf rfl rfl ?_; intro a hf
 refine l_f hf rfl (ef_call (vs := [.agg #[.int .i64 c.n, .slice Ac c.gs.length cc], .int .i64 t]) hf rfl ff_14 (F14 _ c Ac cc hr_c.top t ht hlc)) ?_; rintro a _ w2 ⟨rfl, hE⟩ hf
 replace hB5 := hB5.below hE
 replace hr_c := hr_c.below hE
 replace hr_l := hr_l.below hE
 replace hr_d := hr_d.below hE
 replace hd_l := hd_l.below hE
 replace hW := btr hW hE
 clear hE
 refine l_as hf rfl rfl ?_; intro a hf
 refine wpList_nil ?_
 refine hK6 _ _ ?_; try clear hK6 K6
 refine wp_seq_k ?_; intro K7 hK7
 refine wp_seq_k ?_; intro K8 hK8
 refine wp_region_lit ?_
 refine l_mv hf rfl rfl ?_; intro a hf
 refine l_e hf rfl (ev_lss hf rfl rfl) ?_; intro a hf
 refine wpList_nil ?_
 refine hK8 _ _ ?_; try clear hK8 K8
 refine c_if hf rfl (fun hc9 => ?_) (fun hc9 => ?_)
 ·have hc9b := hc9
  have hc9 := of_decide_eq_true hc9
  have hfin : szZ c l d t = -1 := by rw [szZ, if_pos hc9]
  refine wp_seq_k ?_; intro K10 hK10
  refine wp_region_lit ?_
  refine l_as hf rfl rfl ?_; intro a hf
  refine wpList_nil ?_
  refine hK10 _ _ ?_; try clear hK10 K10
  refine wp_ret ?_
  refine x_retS ?_
  refine c_ret hf (res1 hf rfl rfl) ?_
  exact ⟨by rw [hfin], hW⟩
 ·have hc9b := hc9
  have hc9 := of_decide_eq_false hc9
  have hn1 : ¬ szG c.gs t < 0 := hc9
  refine wp_skip ?_
  refine hK7 _ _ ?_; try clear hK7 K7
  refine wp_seq_k ?_; intro K11 hK11
  refine wp_region_lit ?_
  refine l_e hf rfl (ev_fieldB hf rfl fd_54_1 (m := 2) rfl) ?_; intro a hf
  refine l_e hf rfl (ev_load1 hf rfl t1_52 (hB5.at 2)) ?_; intro a hf
  refine l_mv hf rfl rfl ?_; intro a hf
  refine l_f hf rfl (ef_call (vs := [.slice Al l.length cl, .int .i64 (szG c.gs t)]) hf rfl ff_62 (F62 _ Al cl l hr_l.top hd_l.top (szG c.gs t) (by have := szG_le hn1; omega) hls hll)) ?_; rintro a _ w3 ⟨rfl, hE⟩ hf
  replace hB5 := hB5.below hE
  replace hr_c := hr_c.below hE
  replace hr_l := hr_l.below hE
  replace hr_d := hr_d.below hE
  replace hd_l := hd_l.below hE
  replace hW := btr hW hE
  clear hE
  refine l_as hf rfl rfl ?_; intro a hf
  refine wpList_nil ?_
  refine hK11 _ _ ?_; try clear hK11 K11
  refine wp_seq_k ?_; intro K12 hK12
  refine wp_seq_k ?_; intro K13 hK13
  refine wp_region_lit ?_
  refine l_mv hf rfl rfl ?_; intro a hf
  refine l_e hf rfl (ev_lss hf rfl rfl) ?_; intro a hf
  refine wpList_nil ?_
  refine hK13 _ _ ?_; try clear hK13 K13
  refine c_if hf rfl (fun hc14 => ?_) (fun hc14 => ?_)
  ·have hc14b := hc14
   have hc14 := of_decide_eq_true hc14
   have hfin : szZ c l d t = -1 := by rw [szZ, if_neg hn1, if_pos hc14]
   refine wp_seq_k ?_; intro K15 hK15
   refine wp_region_lit ?_
   refine l_as hf rfl rfl ?_; intro a hf
   refine wpList_nil ?_
   refine hK15 _ _ ?_; try clear hK15 K15
   refine wp_ret ?_
   refine x_retS ?_
   refine c_ret hf (res1 hf rfl rfl) ?_
   exact ⟨by rw [hfin], hW⟩
  ·have hc14b := hc14
   have hc14 := of_decide_eq_false hc14
   have hn2 : ¬ szL l (szG c.gs t) < 0 := hc14
   refine wp_skip ?_
   refine hK12 _ _ ?_; try clear hK12 K12
   refine wp_seq_k ?_; intro K16 hK16
   refine wp_region_lit ?_
   refine l_e hf rfl (ev_fieldB hf rfl fd_54_2 (m := 3) rfl) ?_; intro a hf
   refine l_e hf rfl (ev_loadN (l := [.int .i64 d.n, .slice Ad d.gs.length cd]) hf rfl tN_35 ((hB5.at 3).take 2) rfl) ?_; intro a hf
   refine l_mv hf rfl rfl ?_; intro a hf
   refine l_f hf rfl (ef_call (vs := [.agg #[.int .i64 d.n, .slice Ad d.gs.length cd], .int .i64 (szL l (szG c.gs t))]) hf rfl ff_14 (F14 _ d Ad cd hr_d.top (szL l (szG c.gs t)) (by have := szG_le hn1; have := szL_le hn2; omega) hld)) ?_; rintro a _ w4 ⟨rfl, hE⟩ hf
   replace hB5 := hB5.below hE
   replace hr_c := hr_c.below hE
   replace hr_l := hr_l.below hE
   replace hr_d := hr_d.below hE
   replace hd_l := hd_l.below hE
   replace hW := btr hW hE
   clear hE
   refine l_as hf rfl rfl ?_; intro a hf
   refine wpList_nil ?_
   refine hK16 _ _ ?_; try clear hK16 K16
   refine wp_seq_k ?_; intro K17 hK17
   refine wp_seq_k ?_; intro K18 hK18
   refine wp_region_lit ?_
   refine l_mv hf rfl rfl ?_; intro a hf
   refine l_e hf rfl (ev_lss hf rfl rfl) ?_; intro a hf
   refine wpList_nil ?_
   refine hK18 _ _ ?_; try clear hK18 K18
   refine c_if hf rfl (fun hc19 => ?_) (fun hc19 => ?_)
   ·have hc19b := hc19
    have hc19 := of_decide_eq_true hc19
    have hfin : szZ c l d t = -1 := by rw [szZ, if_neg hn1, if_neg hn2]; exact szG_neg hc19
    refine wp_seq_k ?_; intro K20 hK20
    refine wp_region_lit ?_
    refine l_as hf rfl rfl ?_; intro a hf
    refine wpList_nil ?_
    refine hK20 _ _ ?_; try clear hK20 K20
    refine wp_ret ?_
    refine x_retS ?_
    refine c_ret hf (res1 hf rfl rfl) ?_
    exact ⟨by rw [hfin], hW⟩
   ·have hc19b := hc19
    have hc19 := of_decide_eq_false hc19
    have hfin : szZ c l d t = szG d.gs (szL l (szG c.gs t)) := by rw [szZ, if_neg hn1, if_neg hn2]
    refine wp_skip ?_
    refine hK17 _ _ ?_; try clear hK17 K17
    refine wp_seq_k ?_; intro K21 hK21
    refine wp_region_lit ?_
    refine l_mv hf rfl rfl ?_; intro a hf
    refine l_as hf rfl rfl ?_; intro a hf
    refine wpList_nil ?_
    refine hK21 _ _ ?_; try clear hK21 K21
    refine wp_ret ?_
    refine c_ret hf (res1 hf rfl rfl) ?_
    exact ⟨by rw [hfin], hW⟩
end Go.Proofs.YtfgnmflfiobkmaaGreat
set_option maxRecDepth 4000
namespace Go.Proofs.YtfgnmflfiobkmaaGreat
open Go.RowKit
theorem F65 (w0 : World) {Xl : TypeId} (Al : Option Addr) (cl : Nat) (l : List Sr) (hr_l : Rd w0 w0.heap.size Xl encSr Al l) (hd_l : DeepX w0 w0.heap.size l) (hls : l.length ≤ 1048576) (hll : ∀ s ∈ l, s.old.length ≤ 1048576 ∧ s.new.length ≤ 1048576) : Ret Tryz.prog 65 [.slice Al l.length cl] w0 (fun v w => ∃ A c m, v = .slice A m.length c ∧ Own w w0.heap.size 30 3 encSr A c m ∧ DeepR w w.heap.size 107 m ∧ m.map Sr.rp = l.map Sr.rp ∧ Below w0.heap.size w0 w) := by
 refine enter Tryz.func65 rfl 23 rfl rfl ?_
 intro a hf
 have hW : Below w0.heap.size w0 w0 := Below.refl _ _
 refine wp_seq_k ?_; intro K2 hK2
 refine wp_region_lit ?_
 refine l_as hf rfl rfl ?_; intro a hf
 refine wpList_nil ?_
 refine hK2 _ _ ?_; try clear hK2 K2
 refine wp_seq_k ?_; intro K4 hK4
 refine wp_region_lit ?_
 refine l_mv hf rfl rfl ?_; intro a hf
 refine l_e hf rfl (ev_len hf rfl sl_52) ?_; intro a hf
 refine l_f hf rfl (ef_makeSlice (m := l.length) (enc := encSr) (z0 := srZ) hf rfl rfl sl_58 inf_30 z_30 rfl encSr_len (by omega) (by omega)) ?_; rintro a _ w1 ⟨b5, rfl, hl5, hE, hB5⟩ hf
 have hlo5 := Nat.le_trans hW.size hl5
 replace hr_l := hr_l.below hE
 replace hd_l := hd_l.below hE
 replace hW := btr hW hE
 clear hE
 have hdp6 := DeepR.zero w1 w1.heap.size 107 l.length
 refine l_as hf rfl rfl ?_; intro a hf
 refine wpList_nil ?_
 refine hK4 _ _ ?_; try clear hK4 K4
 refine wp_seq_k ?_; intro K7 hK7
 refine wp_seq_k ?_; intro K8 hK8
 refine wp_region_lit ?_
 refine l_as hf rfl rfl ?_; intro a hf
 refine wpList_nil ?_
 refine hK8 _ _ ?_; try clear hK8 K8
 refine wp_block ?_
 refine c_loop (σ := Nat × (List Sr)) (fun (s : Nat × (List Sr)) (a : Act) (w : World) => match s with | (k, m) => Fr a 23 [(0, .slice Al l.length cl), (3, .slice (some ⟨b5, 0, none⟩) l.length l.length), (4, .int .i64 (k : Int))] ∧ (k ≤ l.length) ∧ (m.length = l.length) ∧ ((m.take k).map Sr.rp = (l.take k).map Sr.rp) ∧ Blk w b5 30 (m.flatMap encSr) ∧ Rd w w0.heap.size Xl encSr Al l ∧ DeepX w w0.heap.size l ∧ DeepR w w.heap.size 107 m ∧ Below w0.heap.size w0 w) (fun (s : Nat × (List Sr)) => match s with | (k, m) => l.length - k) (0, List.replicate l.length srZ) ?_ ?_
 · exact ⟨hf.sub ⟨rfl, rfl, rfl, trivial⟩, (Nat.zero_le _), (by simp), rfl, hB5, hr_l, hd_l, hdp6.top, hW⟩
 rintro ⟨k, m⟩ a w2 ⟨hf, hk, hml, hpre, hB5, hr_l, hd_l, hdp6, hW⟩
 refine wp_seq_k ?_; intro K9 hK9
 refine wp_seq_k ?_; intro K10 hK10
 refine wp_region_lit ?_
 refine l_mv hf rfl rfl ?_; intro a hf
 refine l_mv hf rfl rfl ?_; intro a hf
 refine l_e hf rfl (ev_len hf rfl sl_52) ?_; intro a hf
 refine l_e hf rfl (ev_lss hf rfl rfl) ?_; intro a hf
 refine wpList_nil ?_
 refine hK10 _ _ ?_; try clear hK10 K10
 refine c_if hf rfl (fun hc11 => ?_) (fun hc11 => ?_)
 ·have hc11b := hc11
  have hc11 := of_decide_eq_true hc11
  obtain ⟨u12, hu12⟩ := getElem_ex (l := l) (k := k) (by omega)
  have hsu := hll u12 (List.mem_of_getElem? hu12)
  refine wp_skip ?_
  refine hK9 _ _ ?_; try clear hK9 K9
  refine wp_seq_k ?_; intro K13 hK13
  refine wp_block ?_
  refine wp_region_lit ?_
  refine l_mv hf rfl rfl ?_; intro a hf
  refine l_mv hf rfl rfl ?_; intro a hf
  refine l_mv hf rfl rfl ?_; intro a hf
  refine l_mv hf rfl rfl ?_; intro a hf
  refine l_index (k := k) (u := u12) (enc := encSr) (l := l) hf trivial rfl rfl rfl sl_52 sz_24 encSr_len hr_l hu12 rfl ?_; intro a p15 hat14 hf
  obtain ⟨E16, hr16⟩ := (hd_l u12 (List.mem_of_getElem? hu12)).1
  obtain ⟨E17, hr17⟩ := (hd_l u12 (List.mem_of_getElem? hu12)).2
  refine l_e hf rfl (ev_loadN (l := [.int .i64 u12.pos, .slice u12.A u12.old.length u12.c, .slice u12.B u12.new.length u12.d]) hf rfl tN_24 hat14 rfl) ?_; intro a hf
  refine l_f hf rfl (ef_call (vs := [.agg #[.int .i64 u12.pos, .slice u12.A u12.old.length u12.c, .slice u12.B u12.new.length u12.d]]) hf rfl ff_11 (F11 _ u12.rp u12.A u12.c hr16.top u12.B u12.d hr17.top hsu.1 hsu.2)) ?_; rintro a _ w3 ⟨A18, c18, A19, c19, rfl, ho18, ho19, hE⟩ hf
  replace ho18 := ho18.lower hW.size
  replace ho19 := ho19.lower hW.size
  replace hB5 := hB5.below hE
  replace hr_l := hr_l.below hE
  replace hr16 := hr16.below hE
  replace hr17 := hr17.below hE
  replace hd_l := hd_l.below hE
  replace hdp6 := hdp6.below hE
  replace hW := btr hW hE
  clear hE
  refine l_e hf rfl (ev_indexB (k := k) (off := k * 3) hf rfl rfl sl_58 sz_30 rfl (by omega) rfl) ?_; intro a hf
  refine l_f0 hf (ef_storeF (enc := encSr) (l := m) (u := (⟨u12.rp.pos, A18, c18, u12.rp.old, A19, c19, u12.rp.new⟩ : Sr)) (k := k) hf rfl rfl sz_30 hB5 encSr_len encSr_one rfl (by omega)) ?_; rintro a _ w4 ⟨ho, hb⟩ hf
  have hold := hB5
  replace hr_l := hr_l.only ho hlo5
  replace hr16 := hr16.only ho hlo5
  replace hr17 := hr17.only ho hlo5
  replace ho18 := ho18.onlyT ho hold rfl
  replace ho19 := ho19.onlyT ho hold rfl
  replace hd_l := hd_l.only ho hlo5
  replace hdp6 := hdp6.onlyT ho hold rfl
  replace hW := Below.only hW ho hlo5
  clear hold
  have hB5 := hb
  clear hb ho
  replace hdp6 := DeepR.set (hdp6.top) (x := (⟨u12.rp.pos, A18, c18, u12.rp.old, A19, c19, u12.rp.new⟩ : Sr)) (ho18.rd.top) (ho19.rd.top) k
  refine wpList_nil ?_
  refine x_norm ?_
  refine hK13 _ _ ?_; try clear hK13 K13
  refine wp_region_lit ?_
  refine l_mv hf rfl rfl ?_; intro a hf
  refine l_e hf rfl (ev_addx hf rfl rfl (by omega) (by omega)) ?_; intro a hf
  refine l_as hf rfl rfl ?_; intro a hf
  refine wpList_nil ?_
  refine x_thenN ?_
  exact ⟨(k + 1, (m.set k (⟨u12.rp.pos, A18, c18, u12.rp.old, A19, c19, u12.rp.new⟩ : Sr))), ⟨hf.sub ⟨rfl, rfl, rfl, trivial⟩, (by omega), (by simp; exact hml), (rps_take hpre (by omega) hu12 rfl), hB5, hr_l, hd_l, hdp6.top, hW⟩, (by first | omega | (dsimp only; omega))⟩
 ·have hc11b := hc11
  have hc11 := of_decide_eq_false hc11
  have hke : k = l.length := by omega
  refine wp_exit ?_
  refine x_exS ?_
  refine x_exS ?_
  refine x_exit ?_
  refine hK7 _ _ ?_; try clear hK7 K7
  refine wp_seq_k ?_; intro K20 hK20
  refine wp_region_lit ?_
  refine l_mv hf rfl rfl ?_; intro a hf
  refine l_as hf rfl rfl ?_; intro a hf
  refine wpList_nil ?_
  refine hK20 _ _ ?_; try clear hK20 K20
  refine wp_ret ?_
  refine c_ret hf (res1 hf rfl rfl) ?_
  have hmk : m.length = l.length := hml
  have hmkb : l.length ≤ maxLen := by simp only [maxLen]; omega
  rw [List.take_of_length_le (by omega), List.take_of_length_le (by omega)] at hpre
  exact ⟨_, _, m, by rw [hmk], Own.of_flat encSr_len hB5 hlo5 hmk hmkb, hdp6.top, hpre, hW⟩
theorem F28 (w0 : World) {Xc : TypeId} (c : Cx) (Ac : Option Addr) (cc : Nat) (hr_c : Rd w0 w0.heap.size Xc encG Ac c.gs) {Xl : TypeId} (Al : Option Addr) (cl : Nat) (l : List Sr) (hr_l : Rd w0 w0.heap.size Xl encSr Al l) (hd_l : DeepX w0 w0.heap.size l) {Xd : TypeId} (d : Cx) (Ad : Option Addr) (cd : Nat) (hr_d : Rd w0 w0.heap.size Xd encG Ad d.gs) (hlc : c.gs.length ≤ 1048576) (hls : l.length ≤ 1048576) (hll : ∀ s ∈ l, s.old.length ≤ 1048576 ∧ s.new.length ≤ 1048576) (hld : d.gs.length ≤ 1048576) : Ret Tryz.prog 28 [.agg #[.int .i64 c.n, .slice Ac c.gs.length cc, .slice Al l.length cl, .int .i64 d.n, .slice Ad d.gs.length cd]] w0 (fun v w => ∃ A1 e1 A2 e2 m A3 e3, v = .agg #[.int .i64 c.n, .slice A1 c.gs.length e1, .slice A2 m.length e2, .int .i64 d.n, .slice A3 d.gs.length e3] ∧ Own w w0.heap.size 107 3 encG A1 e1 c.gs ∧ Own w w0.heap.size 30 3 encSr A2 e2 m ∧ DeepR w w.heap.size 107 m ∧ m.map Sr.rp = l.map Sr.rp ∧ Own w w0.heap.size 107 3 encG A3 e3 d.gs ∧ Below w0.heap.size w0 w) := by
 refine enter Tryz.func28 rfl 17 rfl rfl ?_
 intro a hf
 have hW : Below w0.heap.size w0 w0 := Below.refl _ _
 refine wp_seq_k ?_; intro K4 hK4
 refine wp_region_lit ?_
 refine l_f hf rfl (ef_box (zs := [.int .i64 c.n, .slice Ac c.gs.length cc, .slice Al l.length cl, .int .i64 d.n, .slice Ad d.gs.length cd]) hf rfl rfl) ?_; rintro a _ w1 ⟨b5, rfl, hl5, hE, hB5⟩ hf
 have hlo5 := Nat.le_trans hW.size hl5
 replace hr_c := hr_c.below hE
 replace hr_l := hr_l.below hE
 replace hr_d := hr_d.below hE
 replace hd_l := hd_l.below hE
 replace hW := btr hW hE
 clear hE
 refine l_f hf rfl (ef_alloc (zs := [.int .i64 0, .slice none 0 0, .slice none 0 0, .int .i64 0, .slice none 0 0]) z_60 rfl) ?_; rintro a _ w2 ⟨b9, rfl, hl9, hE, hB9⟩ hf
 have hlo9 := Nat.le_trans hW.size hl9
 replace hB5 := hB5.below hE
 replace hr_c := hr_c.below hE
 replace hr_l := hr_l.below hE
 replace hr_d := hr_d.below hE
 replace hd_l := hd_l.below hE
 replace hW := btr hW hE
 clear hE
 refine wpList_nil ?_
 refine hK4 _ _ ?_; try clear hK4 K4
 refine wp_seq_k ?_; intro K10 hK10
 refine wp_region_lit ?_
 refine l_f hf rfl (ef_alloc (zs := [.int .i64 0, .slice none 0 0, .slice none 0 0, .int .i64 0, .slice none 0 0]) z_60 rfl) ?_; rintro a _ w3 ⟨b14, rfl, hl14, hE, hB14⟩ hf
 have hne9_14 : b9 ≠ b14 := by have := hB9.lt; omega
 have hlo14 := Nat.le_trans hW.size hl14
 replace hB5 := hB5.below hE
 replace hB9 := hB9.below hE
 replace hr_c := hr_c.below hE
 replace hr_l := hr_l.below hE
 replace hr_d := hr_d.below hE
 replace hd_l := hd_l.below hE
 replace hW := btr hW hE
 clear hE
 refine wpList_nil ?_
 refine hK10 _ _ ?_; try clear hK10 K10
 refine wp_seq_k ?_; intro K15 hK15
 refine wp_region_lit ?_
 refine l_e hf rfl (ev_fieldB hf rfl fd_54_0 (m := 0) rfl) ?_; intro a hf
 refine l_e hf rfl (ev_loadN (l := [.int .i64 c.n, .slice Ac c.gs.length cc]) hf rfl tN_35 ((hB5.at 0).take 2) rfl) ?_; intro a hf
 refine l_f hf rfl (ef_call (vs := [.agg #[.int .i64 c.n, .slice Ac c.gs.length cc]]) hf rfl ff_16 (F16 _ c Ac cc hr_c.top hlc)) ?_; rintro a _ w4 ⟨A16, c16, rfl, ho16, hE⟩ hf
 replace ho16 := ho16.lower hW.size
 replace hB5 := hB5.below hE
 replace hB9 := hB9.below hE
 replace hB14 := hB14.below hE
 replace hr_c := hr_c.below hE
 replace hr_l := hr_l.below hE
 replace hr_d := hr_d.below hE
 replace hd_l := hd_l.below hE
 replace hW := btr hW hE
 clear hE
 refine l_e hf rfl (ev_fieldB hf rfl fd_60_0 (m := 0) rfl) ?_; intro a hf
 refine l_f0 hf (ef_store (vs := [.int .i64 c.n, .slice A16 c.gs.length c16]) (l' := [.int .i64 c.n, .slice A16 c.gs.length c16, .slice none 0 0, .int .i64 0, .slice none 0 0]) hf rfl rfl sz_41 hB14 rfl rfl rfl rfl rfl) ?_; rintro a _ w5 ⟨ho, hb⟩ hf
 have hold := hB14
 replace hB5 := hB5.only ho (Blk.ne hB5 hold rfl)
 replace hB9 := hB9.only ho (by omega)
 replace hr_c := hr_c.only ho hlo14
 replace hr_l := hr_l.only ho hlo14
 replace hr_d := hr_d.only ho hlo14
 replace ho16 := ho16.onlyT ho hold rfl
 replace hd_l := hd_l.only ho hlo14
 replace hW := Below.only hW ho hlo14
 clear hold
 have hB14 := hb
 clear hb ho
 refine wpList_nil ?_
 refine hK15 _ _ ?_; try clear hK15 K15
 refine wp_seq_k ?_; intro K17 hK17
 refine wp_region_lit ?_
 refine l_e hf rfl (ev_fieldB hf rfl fd_54_1 (m := 2) rfl) ?_; intro a hf
 refine l_e hf rfl (ev_load1 hf rfl t1_52 (hB5.at 2)) ?_; intro a hf
 refine l_f hf rfl (ef_call (vs := [.slice Al l.length cl]) hf rfl ff_65 (F65 _ Al cl l hr_l.top hd_l.top hls hll)) ?_; rintro a _ w6 ⟨A18, c18, m18, rfl, ho18, hd18, hm18, hE⟩ hf
 replace ho18 := ho18.lower hW.size
 replace hB5 := hB5.below hE
 replace hB9 := hB9.below hE
 replace hB14 := hB14.below hE
 replace hr_c := hr_c.below hE
 replace hr_l := hr_l.below hE
 replace hr_d := hr_d.below hE
 replace ho16 := ho16.below hE
 replace hd_l := hd_l.below hE
 replace hW := btr hW hE
 clear hE
 refine l_e hf rfl (ev_fieldB hf rfl fd_60_1 (m := 2) rfl) ?_; intro a hf
 refine l_f0 hf (ef_store (vs := [.slice A18 m18.length c18]) (l' := [.int .i64 c.n, .slice A16 c.gs.length c16, .slice A18 m18.length c18, .int .i64 0, .slice none 0 0]) hf rfl rfl sz_58 hB14 rfl rfl rfl rfl rfl) ?_; rintro a _ w7 ⟨ho, hb⟩ hf
 have hold := hB14
 replace hB5 := hB5.only ho (Blk.ne hB5 hold rfl)
 replace hB9 := hB9.only ho (by omega)
 replace hr_c := hr_c.only ho hlo14
 replace hr_l := hr_l.only ho hlo14
 replace hr_d := hr_d.only ho hlo14
 replace ho16 := ho16.onlyT ho hold rfl
 replace ho18 := ho18.onlyT ho hold rfl
 replace hd_l := hd_l.only ho hlo14
 replace hd18 := hd18.onlyT ho hold rfl
 replace hW := Below.only hW ho hlo14
 clear hold
 have hB14 := hb
 clear hb ho
 refine wpList_nil ?_
 refine hK17 _ _ ?_; try clear hK17 K17
 refine wp_seq_k ?_; intro K19 hK19
 refine wp_region_lit ?_
 refine l_e hf rfl (ev_fieldB hf rfl fd_54_2 (m := 3) rfl) ?_; intro a hf
 refine l_e hf rfl (ev_loadN (l := [.int .i64 d.n, .slice Ad d.gs.length cd]) hf rfl tN_35 ((hB5.at 3).take 2) rfl) ?_; intro a hf
 refine l_f hf rfl (ef_call (vs := [.agg #[.int .i64 d.n, .slice Ad d.gs.length cd]]) hf rfl ff_16 (F16 _ d Ad cd hr_d.top hld)) ?_; rintro a _ w8 ⟨A20, c20, rfl, ho20, hE⟩ hf
 replace ho20 := ho20.lower hW.size
 replace hB5 := hB5.below hE
 replace hB9 := hB9.below hE
 replace hB14 := hB14.below hE
 replace hr_c := hr_c.below hE
 replace hr_l := hr_l.below hE
 replace hr_d := hr_d.below hE
 replace ho16 := ho16.below hE
 replace ho18 := ho18.below hE
 replace hd_l := hd_l.below hE
 replace hd18 := hd18.below hE
 replace hW := btr hW hE
 clear hE
 refine l_e hf rfl (ev_fieldB hf rfl fd_60_2 (m := 3) rfl) ?_; intro a hf
 refine l_f0 hf (ef_store (vs := [.int .i64 d.n, .slice A20 d.gs.length c20]) (l' := [.int .i64 c.n, .slice A16 c.gs.length c16, .slice A18 m18.length c18, .int .i64 d.n, .slice A20 d.gs.length c20]) hf rfl rfl sz_41 hB14 rfl rfl rfl rfl rfl) ?_; rintro a _ w9 ⟨ho, hb⟩ hf
 have hold := hB14
 replace hB5 := hB5.only ho (Blk.ne hB5 hold rfl)
 replace hB9 := hB9.only ho (by omega)
 replace hr_c := hr_c.only ho hlo14
 replace hr_l := hr_l.only ho hlo14
 replace hr_d := hr_d.only ho hlo14
 replace ho16 := ho16.onlyT ho hold rfl
 replace ho18 := ho18.onlyT ho hold rfl
 replace ho20 := ho20.onlyT ho hold rfl
 replace hd_l := hd_l.only ho hlo14
 replace hd18 := hd18.onlyT ho hold rfl
 replace hW := Below.only hW ho hlo14
 clear hold
 have hB14 := hb
 clear hb ho
 refine wpList_nil ?_
 refine hK19 _ _ ?_; try clear hK19 K19
 refine wp_seq_k ?_; intro K21 hK21
 refine wp_region_lit ?_
 refine l_e hf rfl (ev_loadN (l := [.int .i64 c.n, .slice A16 c.gs.length c16, .slice A18 m18.length c18, .int .i64 d.n, .slice A20 d.gs.length c20]) hf rfl tN_60 (hB14.at 0) rfl) ?_; intro a hf
 refine l_f0 hf (ef_store (vs := [.int .i64 c.n, .slice A16 c.gs.length c16, .slice A18 m18.length c18, .int .i64 d.n, .slice A20 d.gs.length c20]) (l' := [.int .i64 c.n, .slice A16 c.gs.length c16, .slice A18 m18.length c18, .int .i64 d.n, .slice A20 d.gs.length c20]) hf rfl rfl sz_60 hB9 rfl rfl rfl rfl rfl) ?_; rintro a _ w10 ⟨ho, hb⟩ hf
 have hold := hB9
 replace hB5 := hB5.only ho (Blk.ne hB5 hold rfl)
 replace hB14 := hB14.only ho (by omega)
 replace hr_c := hr_c.only ho hlo9
 replace hr_l := hr_l.only ho hlo9
 replace hr_d := hr_d.only ho hlo9
 replace ho16 := ho16.onlyT ho hold rfl
 replace ho18 := ho18.onlyT ho hold rfl
 replace ho20 := ho20.onlyT ho hold rfl
 replace hd_l := hd_l.only ho hlo9
 replace hd18 := hd18.onlyT ho hold rfl
 replace hW := Below.only hW ho hlo9
 clear hold
 have hB9 := hb
 clear hb ho
 refine wpList_nil ?_
 refine hK21 _ _ ?_; try clear hK21 K21
 refine wp_ret ?_
 refine c_ret hf (res1 hf rfl (ResV.cellN (l := [.int .i64 c.n, .slice A16 c.gs.length c16, .slice A18 m18.length c18, .int .i64 d.n, .slice A20 d.gs.length c20]) rfl tN_60 (hB9.at 0) rfl)) ?_
 exact ⟨_, _, _, _, _, _, _, rfl, ho16, ho18, hd18.top, hm18, ho20, hW⟩
end Go.Proofs.YtfgnmflfiobkmaaGreat
set_option maxRecDepth 4000
namespace Go.Proofs.YtfgnmflfiobkmaaGreat
open Go.RowKit
theorem F68 (w0 : World) (Ap : Option Addr) (cp : Nat) (p : List Sr) (hr_p : Rd w0 w0.heap.size 30 encSr Ap p) (hd_p : DeepR w0 w0.heap.size 107 p) (Aq : Option Addr) (cq : Nat) (q : List Sr) (hr_q : Rd w0 w0.heap.size 30 encSr Aq q) (hd_q : DeepR w0 w0.heap.size 107 q) (hln : p.length ≤ 2305843009213693951) (hll : ∀ s ∈ p, s.old.length ≤ 2305843009213693951 ∧ s.new.length ≤ 2305843009213693951) : Ret Tryz.prog 68 [.slice Ap p.length cp, .slice Aq q.length cq] w0 (fun v w => v = .bool (decide (p.map Sr.rp = q.map Sr.rp)) ∧ Below w0.heap.size w0 w) := by
 refine enter Tryz.func68 rfl 27 rfl rfl ?_
 intro a hf
 have hW : Below w0.heap.size w0 w0 := Below.refl _ _
 refine wp_seq_k ?_; intro K3 hK3
 refine wp_region_lit ?_
 refine l_as hf rfl rfl ?_; intro a hf
 refine wpList_nil ?_
 refine hK3 _ _ ?_; try clear hK3 K3
 refine wp_seq_k ?_; intro K4 hK4
 refine wp_seq_k ?_; intro K5 hK5
 refine wp_region_lit ?_
 refine l_mv hf rfl rfl ?_; intro a hf
 refine l_e hf rfl (ev_len hf rfl sl_58) ?_; intro a hf
 refine l_mv hf rfl rfl ?_; intro a hf
 refine l_e hf rfl (ev_len hf rfl sl_58) ?_; intro a hf
 refine l_e hf rfl (ev_neq hf rfl rfl) ?_; intro a hf
 refine wpList_nil ?_
 refine hK5 _ _ ?_; try clear hK5 K5
 refine c_if hf rfl (fun hc6 => ?_) (fun hc6 => ?_)
 ·have hc6b := hc6
  have hne : ¬ p.map Sr.rp = q.map Sr.rp := by intro h9; have h8 := congrArg List.length h9; rw [List.length_map, List.length_map] at h8; rw [h8] at hc6; simp at hc6
  refine wp_seq_k ?_; intro K7 hK7
  refine wp_region_lit ?_
  refine l_as hf rfl rfl ?_; intro a hf
  refine wpList_nil ?_
  refine hK7 _ _ ?_; try clear hK7 K7
  refine wp_ret ?_
  refine x_retS ?_
  refine c_ret hf (res1 hf rfl rfl) ?_
  exact ⟨by simp [hne], hW⟩
 ·have hc6b := hc6
  have hpq : p.length = q.length := by have h9 : (p.length : Int) = q.length := (by simpa using hc6); omega
  refine wp_skip ?_
  refine hK4 _ _ ?_; try clear hK4 K4
  refine wp_seq_k ?_; intro K8 hK8
  refine wp_seq_k ?_; intro K9 hK9
  refine wp_region_lit ?_
  refine l_as hf rfl rfl ?_; intro a hf
  refine wpList_nil ?_
  refine hK9 _ _ ?_; try clear hK9 K9
  refine wp_block ?_
  refine c_loop (σ := Nat) (fun (k : Nat) (a : Act) (w : World) => Fr a 27 [(0, .slice Ap p.length cp), (1, .slice Aq q.length cq), (5, .int .i64 (k : Int))] ∧ (k ≤ p.length) ∧ ((p.take k).map Sr.rp = (q.take k).map Sr.rp) ∧ Rd w w0.heap.size 30 encSr Ap p ∧ Rd w w0.heap.size 30 encSr Aq q ∧ DeepR w w0.heap.size 107 p ∧ DeepR w w0.heap.size 107 q ∧ Below w0.heap.size w0 w) (fun (k : Nat) => p.length - k) 0 ?_ ?_
  · exact ⟨hf.sub ⟨rfl, rfl, rfl, trivial⟩, (Nat.zero_le _), rfl, hr_p, hr_q, hd_p, hd_q, hW⟩
  rintro k a w1 ⟨hf, hk, hpre, hr_p, hr_q, hd_p, hd_q, hW⟩
  refine wp_seq_k ?_; intro K10 hK10
  refine wp_seq_k ?_; intro K11 hK11
  refine wp_region_lit ?_
  refine l_mv hf rfl rfl ?_; intro a hf
  refine l_mv hf rfl rfl ?_; intro a hf
  refine l_e hf rfl (ev_len hf rfl sl_58) ?_; intro a hf
  refine l_e hf rfl (ev_lss hf rfl rfl) ?_; intro a hf
  refine wpList_nil ?_
  refine hK11 _ _ ?_; try clear hK11 K11
  refine c_if hf rfl (fun hc12 => ?_) (fun hc12 => ?_)
  ·have hc12b := hc12
   have hc12 := of_decide_eq_true hc12
   obtain ⟨u13, hu13⟩ := getElem_ex (l := p) (k := k) (by omega)
   obtain ⟨v9, hv9⟩ := getElem_ex (l := q) (k := k) (by omega)
   have hsu := hll u13 (List.mem_of_getElem? hu13)
   refine wp_skip ?_
   refine hK10 _ _ ?_; try clear hK10 K10
   refine wp_seq_k ?_; intro K14 hK14
   refine wp_block ?_
   refine wp_seq_k ?_; intro K15 hK15
   refine wp_draw none (fun _ => false) mixed ?_
   intro w2 hE
   replace hr_p := hr_p.below hE
   replace hr_q := hr_q.below hE
   replace hd_p := hd_p.below hE
   replace hd_q := hd_q.below hE
   replace hW := btr hW hE
   clear hE
   refine s_e0 0 rfl (by kernel_rfl) hf rfl (fun _ => ev_move hf rfl) ?_; intro a hf
   refine s_e0 1 rfl (by kernel_rfl) hf rfl (fun _ => ev_move hf rfl) ?_; intro a hf
   refine s_index (k := k) (u := u13) (enc := encSr) (l := p) 2 rfl (by kernel_rfl) (by kernel_rfl) hf trivial rfl rfl rfl sl_58 sz_30 encSr_len hr_p hu13 rfl ?_; intro a p17 hat16 hf
   have hr18 := (hd_p u13 (List.mem_of_getElem? hu13)).1
   have hr19 := (hd_p u13 (List.mem_of_getElem? hu13)).2
   refine s_e 3 rfl (by kernel_rfl) (by kernel_rfl) hf rfl (ev_loadN (l := [.int .i64 u13.pos, .slice u13.A u13.old.length u13.c, .slice u13.B u13.new.length u13.d]) hf rfl tN_30 hat16 rfl) ?_; intro a hf
   refine s_e0 4 rfl (by kernel_rfl) hf rfl (fun _ => ev_move hf rfl) ?_; intro a hf
   refine s_e0 5 rfl (by kernel_rfl) hf rfl (fun _ => ev_move hf rfl) ?_; intro a hf
   refine s_index (k := k) (u := v9) (enc := encSr) (l := q) 6 rfl (by kernel_rfl) (by kernel_rfl) hf trivial rfl rfl rfl sl_58 sz_30 encSr_len hr_q hv9 rfl ?_; intro a p21 hat20 hf
   have hr22 := (hd_q v9 (List.mem_of_getElem? hv9)).1
   have hr23 := (hd_q v9 (List.mem_of_getElem? hv9)).2
   refine s_e 7 rfl (by kernel_rfl) (by kernel_rfl) hf rfl (ev_loadN (l := [.int .i64 v9.pos, .slice v9.A v9.old.length v9.c, .slice v9.B v9.new.length v9.d]) hf rfl tN_30 hat20 rfl) ?_; intro a hf
   refine s_one 8 (by kernel_rfl) ?_
   refine p_eff rfl hf trivial rfl rfl (Ef.mono (ef_call (vs := [.agg #[.int .i64 u13.pos, .slice u13.A u13.old.length u13.c, .slice u13.B u13.new.length u13.d], .agg #[.int .i64 v9.pos, .slice v9.A v9.old.length v9.c, .slice v9.B v9.new.length v9.d]]) hf rfl ff_13 (F13 _ u13.rp u13.A u13.c hr18.top u13.B u13.d hr19.top v9.rp v9.A v9.c hr22.top v9.B v9.d hr23.top hsu.1 hsu.2)) (fun _ _ h => ⟨fun _ => by obtain ⟨rfl, hE⟩ := h; exact hE, h⟩)) ?_; rintro a _ w3 ⟨rfl, hE⟩ hf
   replace hr_p := hr_p.below hE
   replace hr_q := hr_q.below hE
   replace hr18 := hr18.below hE
   replace hr19 := hr19.below hE
   replace hr22 := hr22.below hE
   replace hr23 := hr23.below hE
   replace hd_p := hd_p.below hE
   replace hd_q := hd_q.below hE
   replace hW := btr hW hE
   clear hE
   refine s_e0 9 rfl (by kernel_rfl) hf rfl (fun _ => ev_not hf rfl) ?_; intro a hf
   refine s_done (by kernel_rfl) ?_
   refine hK15 _ _ ?_; try clear hK15 K15
   refine c_if hf rfl (fun hc24 => ?_) (fun hc24 => ?_)
   ·have hc24b := hc24
    have hne := rps_ne hu13 hv9 (fun h9 => by obtain ⟨h6, h7, h8⟩ := rp_eq.1 h9; revert hc24; simp [h6, h7, h8])
    refine wp_seq_k ?_; intro K25 hK25
    refine wp_region_lit ?_
    refine l_as hf rfl rfl ?_; intro a hf
    refine wpList_nil ?_
    refine hK25 _ _ ?_; try clear hK25 K25
    refine wp_ret ?_
    refine x_retB ?_
    refine x_retS ?_
    refine x_retS ?_
    refine x_retB ?_
    refine x_retS ?_
    refine c_ret hf (res1 hf rfl rfl) ?_
    exact ⟨by simp [hne], hW⟩
   ·have hc24b := hc24
    have he9 : (u13).rp = v9.rp := rp_eq.2 (by revert hc24; simp; intro a b c; exact ⟨a, b, c⟩)
    refine wp_skip ?_
    refine x_norm ?_
    refine hK14 _ _ ?_; try clear hK14 K14
    refine wp_region_lit ?_
    refine l_mv hf rfl rfl ?_; intro a hf
    refine l_e hf rfl (ev_addx hf rfl rfl (by omega) (by omega)) ?_; intro a hf
    refine l_as hf rfl rfl ?_; intro a hf
    refine wpList_nil ?_
    refine x_thenN ?_
    exact ⟨k + 1, ⟨hf.sub ⟨rfl, rfl, rfl, trivial⟩, (by omega), (rps_eq hpre hu13 hv9 he9), hr_p, hr_q, hd_p, hd_q, hW⟩, (by omega)⟩
  ·have hc12b := hc12
   have hc12 := of_decide_eq_false hc12
   refine wp_exit ?_
   refine x_exS ?_
   refine x_exS ?_
   refine x_exit ?_
   refine hK8 _ _ ?_; try clear hK8 K8
   refine wp_seq_k ?_; intro K26 hK26
   refine wp_region_lit ?_
   refine l_as hf rfl rfl ?_; intro a hf
   refine wpList_nil ?_
   refine hK26 _ _ ?_; try clear hK26 K26
   refine wp_ret ?_
   refine c_ret hf (res1 hf rfl rfl) ?_
   have he : p.map Sr.rp = q.map Sr.rp := by rw [List.take_of_length_le (by omega), List.take_of_length_le (by omega)] at hpre; exact hpre
   exact ⟨by simp [he], hW⟩
theorem F30 (w0 : World) (c : Cx) (Ac : Option Addr) (cc : Nat) (hr_c : Rd w0 w0.heap.size 107 encG Ac c.gs) (Al : Option Addr) (cl : Nat) (l : List Sr) (hr_l : Rd w0 w0.heap.size 30 encSr Al l) (hd_l : DeepR w0 w0.heap.size 107 l) (d : Cx) (Ad : Option Addr) (cd : Nat) (hr_d : Rd w0 w0.heap.size 107 encG Ad d.gs) (e : Cx) (Ae : Option Addr) (ce : Nat) (hr_e : Rd w0 w0.heap.size 107 encG Ae e.gs) (Am : Option Addr) (cm : Nat) (m : List Sr) (hr_m : Rd w0 w0.heap.size 30 encSr Am m) (hd_m : DeepR w0 w0.heap.size 107 m) (f : Cx) (Af : Option Addr) (cf : Nat) (hr_f : Rd w0 w0.heap.size 107 encG Af f.gs) (hlc : c.gs.length ≤ 2305843009213693951) (hls : l.length ≤ 2305843009213693951) (hll : ∀ s ∈ l, s.old.length ≤ 2305843009213693951 ∧ s.new.length ≤ 2305843009213693951) (hld : d.gs.length ≤ 2305843009213693951) : Ret Tryz.prog 30 [.agg #[.int .i64 c.n, .slice Ac c.gs.length cc, .slice Al l.length cl, .int .i64 d.n, .slice Ad d.gs.length cd], .agg #[.int .i64 e.n, .slice Ae e.gs.length ce, .slice Am m.length cm, .int .i64 f.n, .slice Af f.gs.length cf]] w0 (fun v w => v = .bool (eqC c e && decide (l.map Sr.rp = m.map Sr.rp) && eqC d f) ∧ Below w0.heap.size w0 w) := by
 refine enter Tryz.func30 rfl 23 rfl rfl ?_
 intro a hf
 have hW : Below w0.heap.size w0 w0 := Below.refl _ _
 refine wp_seq_k ?_; intro K7 hK7
 refine wp_region_lit ?_
 refine l_f hf rfl (ef_box (zs := [.int .i64 c.n, .slice Ac c.gs.length cc, .slice Al l.length cl, .int .i64 d.n, .slice Ad d.gs.length cd]) hf rfl rfl) ?_; rintro a _ w1 ⟨b8, rfl, hl8, hE, hB8⟩ hf
 have hlo8 := Nat.le_trans hW.size hl8
 replace hr_c := hr_c.below hE
 replace hr_l := hr_l.below hE
 replace hr_d := hr_d.below hE
 replace hr_e := hr_e.below hE
 replace hr_m := hr_m.below hE
 replace hr_f := hr_f.below hE
 replace hd_l := hd_l.below hE
 replace hd_m := hd_m.below hE
 replace hW := btr hW hE
 clear hE
 refine l_f hf rfl (ef_box (zs := [.int .i64 e.n, .slice Ae e.gs.length ce, .slice Am m.length cm, .int .i64 f.n, .slice Af f.gs.length cf]) hf rfl rfl) ?_; rintro a _ w2 ⟨b9, rfl, hl9, hE, hB9⟩ hf
 have hne8_9 : b8 ≠ b9 := by have := hB8.lt; omega
 have hlo9 := Nat.le_trans hW.size hl9
 replace hB8 := hB8.below hE
 replace hr_c := hr_c.below hE
 replace hr_l := hr_l.below hE
 replace hr_d := hr_d.below hE
 replace hr_e := hr_e.below hE
 replace hr_m := hr_m.below hE
 replace hr_f := hr_f.below hE
 replace hd_l := hd_l.below hE
 replace hd_m := hd_m.below hE
 replace hW := btr hW hE
 clear hE
 refine l_as hf rfl rfl ?_; intro a hf
 refine wpList_nil ?_
 refine hK7 _ _ ?_; try clear hK7 K7
 refine wp_seq_k ?_; intro K10 hK10
 refine wp_seq_k ?_; intro K11 hK11
 refine wp_region_lit ?_
 refine l_e hf rfl (ev_fieldB hf rfl fd_60_0 (m := 0) rfl) ?_; intro a hf
 refine l_e hf rfl (ev_loadN (l := [.int .i64 c.n, .slice Ac c.gs.length cc]) hf rfl tN_41 ((hB8.at 0).take 2) rfl) ?_; intro a hf
 refine l_e hf rfl (ev_fieldB hf rfl fd_60_0 (m := 0) rfl) ?_; intro a hf
 refine l_e hf rfl (ev_loadN (l := [.int .i64 e.n, .slice Ae e.gs.length ce]) hf rfl tN_41 ((hB9.at 0).take 2) rfl) ?_; intro a hf
 refine l_f hf rfl (ef_call (vs := [.agg #[.int .i64 c.n, .slice Ac c.gs.length cc], .agg #[.int .i64 e.n, .slice Ae e.gs.length ce]]) hf rfl ff_19 (F19 _ c Ac cc hr_c.top e Ae ce hr_e.top hlc)) ?_; rintro a _ w3 ⟨rfl, hE⟩ hf
 replace hB8 := hB8.below hE
 replace hB9 := hB9.below hE
 replace hr_c := hr_c.below hE
 replace hr_l := hr_l.below hE
 replace hr_d := hr_d.below hE
 replace hr_e := hr_e.below hE
 replace hr_m := hr_m.below hE
 replace hr_f := hr_f.below hE
 replace hd_l := hd_l.below hE
 replace hd_m := hd_m.below hE
 replace hW := btr hW hE
 clear hE
 refine l_e hf rfl (ev_not hf rfl) ?_; intro a hf
 refine wpList_nil ?_
 refine hK11 _ _ ?_; try clear hK11 K11
 refine c_if hf rfl (fun hc12 => ?_) (fun hc12 => ?_)
 ·have hc12b := hc12
  have hn : eqC c e = false := by simpa using hc12
  refine wp_seq_k ?_; intro K13 hK13
  refine wp_region_lit ?_
  refine l_as hf rfl rfl ?_; intro a hf
  refine wpList_nil ?_
  refine hK13 _ _ ?_; try clear hK13 K13
  refine wp_ret ?_
  refine x_retS ?_
  refine c_ret hf (res1 hf rfl rfl) ?_
  exact ⟨by simp [hn], hW⟩
 ·have hc12b := hc12
  have e1 : eqC c e = true := by simpa using hc12
  refine wp_skip ?_
  refine hK10 _ _ ?_; try clear hK10 K10
  refine wp_seq_k ?_; intro K14 hK14
  refine wp_seq_k ?_; intro K15 hK15
  refine wp_region_lit ?_
  refine l_e hf rfl (ev_fieldB hf rfl fd_60_1 (m := 2) rfl) ?_; intro a hf
  refine l_e hf rfl (ev_load1 hf rfl t1_58 (hB8.at 2)) ?_; intro a hf
  refine l_e hf rfl (ev_fieldB hf rfl fd_60_1 (m := 2) rfl) ?_; intro a hf
  refine l_e hf rfl (ev_load1 hf rfl t1_58 (hB9.at 2)) ?_; intro a hf
  refine l_f hf rfl (ef_call (vs := [.slice Al l.length cl, .slice Am m.length cm]) hf rfl ff_68 (F68 _ Al cl l hr_l.top hd_l.top Am cm m hr_m.top hd_m.top hls hll)) ?_; rintro a _ w4 ⟨rfl, hE⟩ hf
  replace hB8 := hB8.below hE
  replace hB9 := hB9.below hE
  replace hr_c := hr_c.below hE
  replace hr_l := hr_l.below hE
  replace hr_d := hr_d.below hE
  replace hr_e := hr_e.below hE
  replace hr_m := hr_m.below hE
  replace hr_f := hr_f.below hE
  replace hd_l := hd_l.below hE
  replace hd_m := hd_m.below hE
  replace hW := btr hW hE
  clear hE
  refine l_e hf rfl (ev_not hf rfl) ?_; intro a hf
  refine wpList_nil ?_
  refine hK15 _ _ ?_; try clear hK15 K15
  refine c_if hf rfl (fun hc16 => ?_) (fun hc16 => ?_)
  ·have hc16b := hc16
   have hn : ¬ l.map Sr.rp = m.map Sr.rp := by simpa using hc16
   refine wp_seq_k ?_; intro K17 hK17
   refine wp_region_lit ?_
   refine l_as hf rfl rfl ?_; intro a hf
   refine wpList_nil ?_
   refine hK17 _ _ ?_; try clear hK17 K17
   refine wp_ret ?_
   refine x_retS ?_
   refine c_ret hf (res1 hf rfl rfl) ?_
   exact ⟨by simp [hn], hW⟩
  ·have hc16b := hc16
   have e2 : l.map Sr.rp = m.map Sr.rp := by simpa using hc16
   refine wp_skip ?_
   refine hK14 _ _ ?_; try clear hK14 K14
   refine wp_seq_k ?_; intro K18 hK18
   refine wp_seq_k ?_; intro K19 hK19
   refine wp_region_lit ?_
   refine l_e hf rfl (ev_fieldB hf rfl fd_60_2 (m := 3) rfl) ?_; intro a hf
   refine l_e hf rfl (ev_loadN (l := [.int .i64 d.n, .slice Ad d.gs.length cd]) hf rfl tN_41 ((hB8.at 3).take 2) rfl) ?_; intro a hf
   refine l_e hf rfl (ev_fieldB hf rfl fd_60_2 (m := 3) rfl) ?_; intro a hf
   refine l_e hf rfl (ev_loadN (l := [.int .i64 f.n, .slice Af f.gs.length cf]) hf rfl tN_41 ((hB9.at 3).take 2) rfl) ?_; intro a hf
   refine l_f hf rfl (ef_call (vs := [.agg #[.int .i64 d.n, .slice Ad d.gs.length cd], .agg #[.int .i64 f.n, .slice Af f.gs.length cf]]) hf rfl ff_19 (F19 _ d Ad cd hr_d.top f Af cf hr_f.top hld)) ?_; rintro a _ w5 ⟨rfl, hE⟩ hf
   replace hB8 := hB8.below hE
   replace hB9 := hB9.below hE
   replace hr_c := hr_c.below hE
   replace hr_l := hr_l.below hE
   replace hr_d := hr_d.below hE
   replace hr_e := hr_e.below hE
   replace hr_m := hr_m.below hE
   replace hr_f := hr_f.below hE
   replace hd_l := hd_l.below hE
   replace hd_m := hd_m.below hE
   replace hW := btr hW hE
   clear hE
   refine l_e hf rfl (ev_not hf rfl) ?_; intro a hf
   refine wpList_nil ?_
   refine hK19 _ _ ?_; try clear hK19 K19
   refine c_if hf rfl (fun hc20 => ?_) (fun hc20 => ?_)
   ·have hc20b := hc20
    have hn : eqC d f = false := by simpa using hc20
    refine wp_seq_k ?_; intro K21 hK21
    refine wp_region_lit ?_
    refine l_as hf rfl rfl ?_; intro a hf
    refine wpList_nil ?_
    refine hK21 _ _ ?_; try clear hK21 K21
    refine wp_ret ?_
    refine x_retS ?_
    refine c_ret hf (res1 hf rfl rfl) ?_
    exact ⟨by simp [hn], hW⟩
   ·have hc20b := hc20
    have e3 : eqC d f = true := by simpa using hc20
    refine wp_skip ?_
    refine hK18 _ _ ?_; try clear hK18 K18
    refine wp_seq_k ?_; intro K22 hK22
    refine wp_region_lit ?_
    refine l_as hf rfl rfl ?_; intro a hf
    refine wpList_nil ?_
    refine hK22 _ _ ?_; try clear hK22 K22
    refine wp_ret ?_
    refine c_ret hf (res1 hf rfl rfl) ?_
    exact ⟨by simp [e1, e2, e3], hW⟩
theorem F6 (w0 : World) {Xc : TypeId} (c : Cx) (Ac : Option Addr) (cc : Nat) (hr_c : Rd w0 w0.heap.size Xc encG Ac c.gs) {Xl : TypeId} (Al : Option Addr) (cl : Nat) (l : List Sr) (hr_l : Rd w0 w0.heap.size Xl encSr Al l) (hd_l : DeepX w0 w0.heap.size l) {Xd : TypeId} (d : Cx) (Ad : Option Addr) (cd : Nat) (hr_d : Rd w0 w0.heap.size Xd encG Ad d.gs) (hlc : c.gs.length ≤ 9223372036854775807) (hls : l.length ≤ 9223372036854775807) (hll : ∀ s ∈ l, s.old.length ≤ 9223372036854775807 ∧ s.new.length ≤ 9223372036854775807) (hld : d.gs.length ≤ 9223372036854775807) : Ret Tryz.prog 6 [.agg #[.int .i64 c.n, .slice Ac c.gs.length cc, .slice Al l.length cl, .int .i64 d.n, .slice Ad d.gs.length cd]] w0 (fun v w => v = .bool true ∧ Below w0.heap.size w0 w) := by
 refine enter Tryz.func6 rfl 40 rfl rfl ?_
 intro a hf
 have hW : Below w0.heap.size w0 w0 := Below.refl _ _
 refine wp_seq_k ?_; intro K4 hK4
 refine wp_region_lit ?_
 refine l_f hf rfl (ef_box (zs := [.int .i64 c.n, .slice Ac c.gs.length cc, .slice Al l.length cl, .int .i64 d.n, .slice Ad d.gs.length cd]) hf rfl rfl) ?_; rintro a _ w1 ⟨b5, rfl, hl5, hE, hB5⟩ hf
 have hlo5 := Nat.le_trans hW.size hl5
 replace hr_c := hr_c.below hE
 replace hr_l := hr_l.below hE
 replace hr_d := hr_d.below hE
 replace hd_l := hd_l.below hE
 replace hW := btr hW hE
 clear hE
 refine l_as hf rfl rfl ?_; intro a hf
 refine wpList_nil ?_
 refine hK4 _ _ ?_; try clear hK4 K4
 refine wp_seq_k ?_; intro K6 hK6
 refine wp_region_lit ?_
 refine l_as hf rfl rfl ?_; intro a hf
 refine wpList_nil ?_
 refine hK6 _ _ ?_; try clear hK6 K6
 refine wp_seq_k ?_; intro K7 hK7
 refine wp_region_lit ?_
 refine l_e hf rfl (ev_loadN (l := [.int .i64 c.n, .slice Ac c.gs.length cc, .slice Al l.length cl, .int .i64 d.n, .slice Ad d.gs.length cd]) hf rfl tN_54 (hB5.at 0) rfl) ?_; intro a hf
 refine l_mv hf rfl rfl ?_; intro a hf
 refine l_f hf rfl (ef_call (vs := [.agg #[.int .i64 c.n, .slice Ac c.gs.length cc, .slice Al l.length cl, .int .i64 d.n, .slice Ad d.gs.length cd], .int .i64 1048576]) hf rfl ff_26 (F26 _ c Ac cc hr_c.top Al cl l hr_l.top hd_l.top d Ad cd hr_d.top 1048576 (by omega) hlc hls hll hld)) ?_; rintro a _ w2 ⟨rfl, hE⟩ hf
 replace hB5 := hB5.below hE
 replace hr_c := hr_c.below hE
 replace hr_l := hr_l.below hE
 replace hr_d := hr_d.below hE
 replace hd_l := hd_l.below hE
 replace hW := btr hW hE
 clear hE
 refine l_as hf rfl rfl ?_; intro a hf
 refine wpList_nil ?_
 refine hK7 _ _ ?_; try clear hK7 K7
 refine wp_seq_k ?_; intro K8 hK8
 refine wp_seq_k ?_; intro K9 hK9
 refine wp_region_lit ?_
 refine l_mv hf rfl rfl ?_; intro a hf
 refine l_e hf rfl (ev_lss hf rfl rfl) ?_; intro a hf
 refine wpList_nil ?_
 refine hK9 _ _ ?_; try clear hK9 K9
 refine c_if hf rfl (fun hc10 => ?_) (fun hc10 => ?_)
 ·have hc10b := hc10
  have hc10 := of_decide_eq_true hc10
  refine wp_seq_k ?_; intro K11 hK11
  refine wp_region_lit ?_
  refine l_as hf rfl rfl ?_; intro a hf
  refine wpList_nil ?_
  refine hK11 _ _ ?_; try clear hK11 K11
  refine wp_ret ?_
  refine x_retS ?_
  refine c_ret hf (res1 hf rfl rfl) ?_
  exact ⟨rfl, hW⟩
 ·have hc10b := hc10
  have hc10 := of_decide_eq_false hc10
  obtain ⟨hc1, hs1, hl1, hd1⟩ := szZ_le hc10
  refine wp_skip ?_
  refine hK8 _ _ ?_; try clear hK8 K8
  refine wp_seq_k ?_; intro K12 hK12
  refine wp_region_lit ?_
  refine l_e hf rfl (ev_loadN (l := [.int .i64 c.n, .slice Ac c.gs.length cc, .slice Al l.length cl, .int .i64 d.n, .slice Ad d.gs.length cd]) hf rfl tN_54 (hB5.at 0) rfl) ?_; intro a hf
  refine l_f hf rfl (ef_call (vs := [.agg #[.int .i64 c.n, .slice Ac c.gs.length cc, .slice Al l.length cl, .int .i64 d.n, .slice Ad d.gs.length cd]]) hf rfl ff_28 (F28 _ c Ac cc hr_c.top Al cl l hr_l.top hd_l.top d Ad cd hr_d.top hc1 hs1 hl1 hd1)) ?_; rintro a _ w3 ⟨A13, c13, A14, c14, mq16, A15, c15, rfl, ho13, ho14, hd14, hq16, ho15, hE⟩ hf
  replace ho13 := ho13.lower hW.size
  replace ho14 := ho14.lower hW.size
  replace ho15 := ho15.lower hW.size
  replace hB5 := hB5.below hE
  replace hr_c := hr_c.below hE
  replace hr_l := hr_l.below hE
  replace hr_d := hr_d.below hE
  replace hd_l := hd_l.below hE
  replace hW := btr hW hE
  clear hE
  refine l_f hf rfl (ef_call (vs := [.agg #[.int .i64 c.n, .slice A13 c.gs.length c13, .slice A14 mq16.length c14, .int .i64 d.n, .slice A15 d.gs.length c15]]) hf rfl ff_27 (F27 _ c A13 c13 ho13.rd.top ho13.cap A14 c14 mq16 ho14.rd.top hd14.top d A15 c15 ho15.rd.top hc1 (rps_fit hq16 hs1 hl1).1 (rps_fit hq16 hs1 hl1).2 hd1)) ?_; rintro a _ w4 ⟨rfl, hE⟩ hf
  replace hB5 := hB5.below hE
  replace hr_c := hr_c.below hE
  replace hr_l := hr_l.below hE
  replace hr_d := hr_d.below hE
  replace ho13 := ho13.below hE
  replace ho14 := ho14.below hE
  replace ho15 := ho15.below hE
  replace hd_l := hd_l.below hE
  replace hd14 := hd14.below hE
  replace hW := btr hW hE
  clear hE
  refine l_mv hf rfl rfl ?_; intro a hf
  refine l_e hf rfl (ev_extract (vs := [.int .i64 ((checkS c d (mq16.map Sr.rp)).1), .bool ((checkS c d (mq16.map Sr.rp)).2)]) hf rfl rfl) ?_; intro a hf
  refine l_e hf rfl (ev_extract (vs := [.int .i64 ((checkS c d (mq16.map Sr.rp)).1), .bool ((checkS c d (mq16.map Sr.rp)).2)]) hf rfl rfl) ?_; intro a hf
  refine l_as hf rfl rfl ?_; intro a hf
  refine l_as hf rfl rfl ?_; intro a hf
  refine wpList_nil ?_
  refine hK12 _ _ ?_; try clear hK12 K12
  refine wp_seq_k ?_; intro K16 hK16
  refine wp_region_lit ?_
  refine l_e hf rfl (ev_loadN (l := [.int .i64 c.n, .slice Ac c.gs.length cc, .slice Al l.length cl, .int .i64 d.n, .slice Ad d.gs.length cd]) hf rfl tN_54 (hB5.at 0) rfl) ?_; intro a hf
  refine l_f hf rfl (ef_call (vs := [.agg #[.int .i64 c.n, .slice Ac c.gs.length cc, .slice Al l.length cl, .int .i64 d.n, .slice Ad d.gs.length cd]]) hf rfl ff_28 (F28 _ c Ac cc hr_c.top Al cl l hr_l.top hd_l.top d Ad cd hr_d.top hc1 hs1 hl1 hd1)) ?_; rintro a _ w5 ⟨A17, c17, A18, c18, mq21, A19, c19, rfl, ho17, ho18, hd18, hq21, ho19, hE⟩ hf
  replace ho17 := ho17.lower hW.size
  replace ho18 := ho18.lower hW.size
  replace ho19 := ho19.lower hW.size
  replace hB5 := hB5.below hE
  replace hr_c := hr_c.below hE
  replace hr_l := hr_l.below hE
  replace hr_d := hr_d.below hE
  replace ho13 := ho13.below hE
  replace ho14 := ho14.below hE
  replace ho15 := ho15.below hE
  replace hd_l := hd_l.below hE
  replace hd14 := hd14.below hE
  replace hW := btr hW hE
  clear hE
  refine l_f hf rfl (ef_alloc (zs := [.int .i64 0, .slice none 0 0, .slice none 0 0, .int .i64 0, .slice none 0 0]) z_60 rfl) ?_; rintro a _ w6 ⟨b23, rfl, hl23, hE, hB23⟩ hf
  have hlo23 := Nat.le_trans hW.size hl23
  replace hB5 := hB5.below hE
  replace hr_c := hr_c.below hE
  replace hr_l := hr_l.below hE
  replace hr_d := hr_d.below hE
  replace ho13 := ho13.below hE
  replace ho14 := ho14.below hE
  replace ho15 := ho15.below hE
  replace ho17 := ho17.below hE
  replace ho18 := ho18.below hE
  replace ho19 := ho19.below hE
  replace hd_l := hd_l.below hE
  replace hd14 := hd14.below hE
  replace hd18 := hd18.below hE
  replace hW := btr hW hE
  clear hE
  refine l_f0 hf (ef_store (vs := [.int .i64 c.n, .slice A17 c.gs.length c17, .slice A18 mq21.length c18, .int .i64 d.n, .slice A19 d.gs.length c19]) (l' := [.int .i64 c.n, .slice A17 c.gs.length c17, .slice A18 mq21.length c18, .int .i64 d.n, .slice A19 d.gs.length c19]) hf rfl rfl sz_60 hB23 rfl rfl rfl rfl rfl) ?_; rintro a _ w7 ⟨ho, hb⟩ hf
  have hold := hB23
  replace hB5 := hB5.only ho (Blk.ne hB5 hold rfl)
  replace hr_c := hr_c.only ho hlo23
  replace hr_l := hr_l.only ho hlo23
  replace hr_d := hr_d.only ho hlo23
  replace ho13 := ho13.onlyT ho hold rfl
  replace ho14 := ho14.onlyT ho hold rfl
  replace ho15 := ho15.onlyT ho hold rfl
  replace ho17 := ho17.onlyT ho hold rfl
  replace ho18 := ho18.onlyT ho hold rfl
  replace ho19 := ho19.onlyT ho hold rfl
  replace hd_l := hd_l.only ho hlo23
  replace hd14 := hd14.onlyT ho hold rfl
  replace hd18 := hd18.onlyT ho hold rfl
  replace hW := Below.only hW ho hlo23
  clear hold
  have hB23 := hb
  clear hb ho
  refine wpList_nil ?_
  refine hK16 _ _ ?_; try clear hK16 K16
  refine wp_seq_k ?_; intro K24 hK24
  refine wp_region_lit ?_
  refine l_e hf rfl (ev_loadN (l := [.int .i64 c.n, .slice A17 c.gs.length c17, .slice A18 mq21.length c18, .int .i64 d.n, .slice A19 d.gs.length c19]) hf rfl tN_60 (hB23.at 0) rfl) ?_; intro a hf
  refine l_f hf rfl (ef_call (vs := [.agg #[.int .i64 c.n, .slice A17 c.gs.length c17, .slice A18 mq21.length c18, .int .i64 d.n, .slice A19 d.gs.length c19]]) hf rfl ff_29 (F29 _ c A17 c17 ho17.rd.top ho17.cap A18 c18 mq21 ho18.rd.top hd18.top d A19 c19 ho19.rd.top hc1 (rps_fit hq21 hs1 hl1).1 (rps_fit hq21 hs1 hl1).2 hd1)) ?_; rintro a _ w8 ⟨rfl, hE⟩ hf
  replace hB5 := hB5.below hE
  replace hB23 := hB23.below hE
  replace hr_c := hr_c.below hE
  replace hr_l := hr_l.below hE
  replace hr_d := hr_d.below hE
  replace ho13 := ho13.below hE
  replace ho14 := ho14.below hE
  replace ho15 := ho15.below hE
  replace ho17 := ho17.below hE
  replace ho18 := ho18.below hE
  replace ho19 := ho19.below hE
  replace hd_l := hd_l.below hE
  replace hd14 := hd14.below hE
  replace hd18 := hd18.below hE
  replace hW := btr hW hE
  clear hE
  refine l_mv hf rfl rfl ?_; intro a hf
  refine l_e hf rfl (ev_extract (vs := [.int .i64 ((checkI c d (mq21.map Sr.rp)).1), .bool ((checkI c d (mq21.map Sr.rp)).2)]) hf rfl rfl) ?_; intro a hf
  refine l_e hf rfl (ev_extract (vs := [.int .i64 ((checkI c d (mq21.map Sr.rp)).1), .bool ((checkI c d (mq21.map Sr.rp)).2)]) hf rfl rfl) ?_; intro a hf
  refine l_as hf rfl rfl ?_; intro a hf
  refine l_as hf rfl rfl ?_; intro a hf
  refine wpList_nil ?_
  refine hK24 _ _ ?_; try clear hK24 K24
  refine wp_seq_k ?_; intro K25 hK25
  refine wp_seq_k ?_; intro K26 hK26
  refine c_cut (fun a w => Fr a 40 [(1, .pointer (some ⟨b5, 0, none⟩)), (6, .pointer (some ⟨b23, 0, none⟩)), (34, .bool ((((checkI c d (mq21.map Sr.rp)).1) != ((checkS c d (mq16.map Sr.rp)).1)) || (((checkI c d (mq21.map Sr.rp)).2) != ((checkS c d (mq16.map Sr.rp)).2))))] ∧ w8 = w) ?_ ?_
  ·refine wp_region_lit ?_
   refine l_mv hf rfl rfl ?_; intro a hf
   refine l_mv hf rfl rfl ?_; intro a hf
   refine l_e hf rfl (ev_neq hf rfl rfl) ?_; intro a hf
   refine l_mv hf rfl rfl ?_; intro a hf
   refine g_split hf (t := 30) rfl (fun hg27 => ?_) (fun hg27 => ?_)
   ·refine l_pass hf ⟨_, _, rfl, rfl, hg27⟩ rfl rfl ?_; intro a hf
    refine l_pass hf ⟨_, _, rfl, rfl, hg27⟩ rfl rfl ?_; intro a hf
    refine l_pass hf ⟨_, _, rfl, rfl, hg27⟩ rfl rfl ?_; intro a hf
    refine l_e hf rfl (ev_pickT hf rfl hg27 rfl) ?_; intro a hf
    refine wpList_nil ?_
    exact ⟨hf.sub ⟨rfl, rfl, look_bool rfl (by first | rfl | (simp only [hc10b, hg27, Bool.true_and, Bool.false_and, Bool.true_or, Bool.false_or]; done) | simp [hc10b, hg27]), trivial⟩, rfl⟩
   ·refine l_ev hf ⟨_, _, rfl, rfl, hg27⟩ rfl rfl (ev_move hf rfl) ?_; intro a hf
    refine l_ev hf ⟨_, _, rfl, rfl, hg27⟩ rfl rfl (ev_move hf rfl) ?_; intro a hf
    refine l_ev hf ⟨_, _, rfl, rfl, hg27⟩ rfl rfl (ev_bneq Tryz.underlying4 hf rfl rfl) ?_; intro a hf
    refine l_e hf rfl (ev_pickF hf rfl hg27 rfl) ?_; intro a hf
    refine wpList_nil ?_
    exact ⟨hf.sub ⟨rfl, rfl, look_bool rfl (by first | rfl | (simp only [hc10b, hg27, Bool.true_and, Bool.false_and, Bool.true_or, Bool.false_or]; done) | simp [hc10b, hg27]), trivial⟩, rfl⟩
  rintro a _ ⟨hf, rfl⟩
  refine hK26 _ _ ?_; try clear hK26 K26
  refine c_if hf rfl (fun hc28 => ?_) (fun hc28 => ?_)
  ·have hc28b := hc28
   rw [hq16, hq21, check_eq] at hc28; simp at hc28
  ·have hc28b := hc28
   refine wp_skip ?_
   refine hK25 _ _ ?_; try clear hK25 K25
   refine wp_seq_k ?_; intro K29 hK29
   refine wp_seq_k ?_; intro K30 hK30
   refine wp_draw none (fun _ => false) mixed ?_
   intro w9 hE
   replace hB5 := hB5.below hE
   replace hB23 := hB23.below hE
   replace hr_c := hr_c.below hE
   replace hr_l := hr_l.below hE
   replace hr_d := hr_d.below hE
   replace ho13 := ho13.below hE
   replace ho14 := ho14.below hE
   replace ho15 := ho15.below hE
   replace ho17 := ho17.below hE
   replace ho18 := ho18.below hE
   replace ho19 := ho19.below hE
   replace hd_l := hd_l.below hE
   replace hd14 := hd14.below hE
   replace hd18 := hd18.below hE
   replace hW := btr hW hE
   clear hE
   refine s_e 0 rfl (by kernel_rfl) (by kernel_rfl) hf rfl (ev_loadN (l := [.int .i64 c.n, .slice A17 c.gs.length c17, .slice A18 mq21.length c18, .int .i64 d.n, .slice A19 d.gs.length c19]) hf rfl tN_60 (hB23.at 0) rfl) ?_; intro a hf
   refine s_e 1 rfl (by kernel_rfl) (by kernel_rfl) hf rfl (ev_loadN (l := [.int .i64 c.n, .slice Ac c.gs.length cc, .slice Al l.length cl, .int .i64 d.n, .slice Ad d.gs.length cd]) hf rfl tN_54 (hB5.at 0) rfl) ?_; intro a hf
   refine s_one 2 (by kernel_rfl) ?_
   refine p_eff rfl hf trivial rfl rfl (Ef.mono (ef_call (vs := [.agg #[.int .i64 c.n, .slice Ac c.gs.length cc, .slice Al l.length cl, .int .i64 d.n, .slice Ad d.gs.length cd]]) hf rfl ff_28 (F28 _ c Ac cc hr_c.top Al cl l hr_l.top hd_l.top d Ad cd hr_d.top hc1 hs1 hl1 hd1)) (fun _ _ h => ⟨fun _ => by obtain ⟨A31, c31, A32, c32, mq37, A33, c33, rfl, ho31, ho32, hd32, hq37, ho33, hE⟩ := h; exact hE, h⟩)) ?_; rintro a _ w10 ⟨A31, c31, A32, c32, mq37, A33, c33, rfl, ho31, ho32, hd32, hq37, ho33, hE⟩ hf
   replace ho31 := ho31.lower hW.size
   replace ho32 := ho32.lower hW.size
   replace ho33 := ho33.lower hW.size
   replace hB5 := hB5.below hE
   replace hB23 := hB23.below hE
   replace hr_c := hr_c.below hE
   replace hr_l := hr_l.below hE
   replace hr_d := hr_d.below hE
   replace ho13 := ho13.below hE
   replace ho14 := ho14.below hE
   replace ho15 := ho15.below hE
   replace ho17 := ho17.below hE
   replace ho18 := ho18.below hE
   replace ho19 := ho19.below hE
   replace hd_l := hd_l.below hE
   replace hd14 := hd14.below hE
   replace hd18 := hd18.below hE
   replace hW := btr hW hE
   clear hE
   refine s_one 3 (by kernel_rfl) ?_
   refine p_eff rfl hf trivial rfl rfl (Ef.mono (ef_call (vs := [.agg #[.int .i64 c.n, .slice A17 c.gs.length c17, .slice A18 mq21.length c18, .int .i64 d.n, .slice A19 d.gs.length c19], .agg #[.int .i64 c.n, .slice A31 c.gs.length c31, .slice A32 mq37.length c32, .int .i64 d.n, .slice A33 d.gs.length c33]]) hf rfl ff_30 (F30 _ c A17 c17 ho17.rd.top A18 c18 mq21 ho18.rd.top hd18.top d A19 c19 ho19.rd.top c A31 c31 ho31.rd.top A32 c32 mq37 ho32.rd.top hd32.top d A33 c33 ho33.rd.top (Nat.le_trans hc1 (by decide)) (Nat.le_trans (rps_fit hq21 hs1 hl1).1 (by decide)) (fun s hs => ⟨Nat.le_trans ((rps_fit hq21 hs1 hl1).2 s hs).1 (by decide), Nat.le_trans ((rps_fit hq21 hs1 hl1).2 s hs).2 (by decide)⟩) (Nat.le_trans hd1 (by decide)))) (fun _ _ h => ⟨fun _ => by obtain ⟨rfl, hE⟩ := h; exact hE, h⟩)) ?_; rintro a _ w11 ⟨rfl, hE⟩ hf
   replace hB5 := hB5.below hE
   replace hB23 := hB23.below hE
   replace hr_c := hr_c.below hE
   replace hr_l := hr_l.below hE
   replace hr_d := hr_d.below hE
   replace ho13 := ho13.below hE
   replace ho14 := ho14.below hE
   replace ho15 := ho15.below hE
   replace ho17 := ho17.below hE
   replace ho18 := ho18.below hE
   replace ho19 := ho19.below hE
   replace ho31 := ho31.below hE
   replace ho32 := ho32.below hE
   replace ho33 := ho33.below hE
   replace hd_l := hd_l.below hE
   replace hd14 := hd14.below hE
   replace hd18 := hd18.below hE
   replace hd32 := hd32.below hE
   replace hW := btr hW hE
   clear hE
   refine s_e0 4 rfl (by kernel_rfl) hf rfl (fun _ => ev_not hf rfl) ?_; intro a hf
   refine s_done (by kernel_rfl) ?_
   refine hK30 _ _ ?_; try clear hK30 K30
   refine c_if hf rfl (fun hc34 => ?_) (fun hc34 => ?_)
   ·have hc34b := hc34
    rw [hq21, hq37] at hc34; simp [eqC] at hc34
   ·have hc34b := hc34
    refine wp_skip ?_
    refine hK29 _ _ ?_; try clear hK29 K29
    refine wp_seq_k ?_; intro K35 hK35
    refine wp_region_lit ?_
    refine l_as hf rfl rfl ?_; intro a hf
    refine wpList_nil ?_
    refine hK35 _ _ ?_; try clear hK35 K35
    refine wp_ret ?_
    refine c_ret hf (res1 hf rfl rfl) ?_
    exact ⟨rfl, hW⟩
end Go.Proofs.YtfgnmflfiobkmaaGreat
namespace Go.Proofs.YtfgnmflfiobkmaaGreat
open Go.RowKit Go.ChangeShapes Go.WideShapes Go.Deep Go.Joins
theorem list_of {α : Type} {n : Nat} {Q : Nat → α → Prop} (h : ∀ i, i < n → ∃ g, Q i g) : ∃ l : List α, l.length = n ∧ ∀ i g, l[i]? = some g → Q i g := by
  induction n with
  | zero => exact ⟨[], rfl, fun i g h => by simp at h⟩
  | succ n ih =>
    obtain ⟨l, h1, h2⟩ := ih fun i hi => h i (by omega)
    obtain ⟨g, hg⟩ := h n (by omega)
    refine ⟨l ++ [g], by simp [h1], fun i g' hi => ?_⟩
    rcases Nat.lt_or_ge i n with hin | hin
    · rw [List.getElem?_append_left (by omega)] at hi
      exact h2 i g' hi
    · rw [List.getElem?_append_right (by omega)] at hi
      have : i - l.length = 0 := by
        rcases Nat.eq_zero_or_pos (i - l.length) with h | h
        · exact h
        · rw [List.getElem?_eq_none (by simp; omega)] at hi; cases hi
      rw [this] at hi
      injection hi with hi
      subst hi
      have : i = n := by omega
      subst this
      exact hg
theorem rd_of_cells {α : Type} {w : World} {enc : α → List Value} {sz : Nat} (hsz : ∀ x, (enc x).length = sz) (h0 : 0 < sz) {p : Addr} {l : List α}
    (h : ∀ i g, l[i]? = some g → ∀ j v, (enc g)[j]? = some v → w.cell? (p.add (i * sz + j)) = some v) : ∃ E, Rd w w.heap.size E enc (some p) l := by
  by_cases hl : l = []
  · subst hl; exact ⟨0, Rd.nil _ _ _ _ _⟩
  · obtain ⟨g0, l', rfl⟩ := List.exists_cons_of_ne_nil hl
    obtain ⟨v0, hv0⟩ : ∃ v, (enc g0)[0]? = some v := ⟨_, List.getElem?_eq_getElem (by rw [hsz]; exact h0)⟩
    have hc := h 0 g0 rfl 0 v0 hv0
    obtain ⟨b, off, spot⟩ := p
    have hb := cell_lt hc
    rw [addr_block] at hb
    have hsp : spot = none := by
      cases spot with
      | none => rfl
      | some s => simp [World.cell?, Addr.add] at hc; split at hc <;> simp_all
    subst hsp
    have hobj : ∃ cs E fz, w.heap[b]? = some (.cells cs E fz) := by
      rw [addr_off] at hc
      simp only [World.cell?] at hc
      split at hc
      · rename_i c E fz hh; exact ⟨c, E, fz, hh⟩
      · cases hc
    obtain ⟨cs, E, fz, hh⟩ := hobj
    refine ⟨E, fun _ => ⟨b, off, cs, fz, rfl, hb, hh, fun j v hj => ?_⟩⟩
    have hjl : j < ((g0 :: l').flatMap enc).length := (List.getElem?_eq_some_iff.1 hj).1
    rw [length_flatMap_enc hsz] at hjl
    obtain ⟨x, hx, h1⟩ := flatMap_idx hsz hjl
    rw [h1] at hj
    have := h _ _ hx _ _ hj
    rw [addr_off, show j / sz * sz + j % sz = j from by rw [Nat.mul_comm]; exact Nat.div_add_mod j sz] at this
    simpa [World.cell?, hh] using this
section
variable {H : Type} {enc : TypeId × Value → H} {w : World} {base fuel : Nat} {spare : Nat → Bool} {held : Bool}
theorem list3 {α : Type} {l : List α} (h : l.length = 3) : ∃ a b c, l = [a, b, c] := by
  match l, h with
  | [a, b, c], _ => exact ⟨a, b, c, rfl⟩
theorem cells134 : Tryz.prog.cellsOf 134 = 3 := by kernel_rfl
theorem cells3 : Tryz.prog.cellsOf 3 = 1 := by kernel_rfl
theorem trod_gate {cs : List Value} {x : DataW H × List MemPlace} (h : DataW.trod enc Tryz.prog w base spare held fuel 134 cs = some x) : ∃ g : Gt, cs = encG g := by
  obtain ⟨y0, y1, y2, n, _, hl, h0, h1, h2⟩ := trod_struct3 Tryz.underlying134 h
  rw [cells134] at hl
  obtain ⟨c0, c1, c2, rfl⟩ := list3 hl
  simp only [cells3] at h0 h1 h2
  obtain ⟨a, e0, _⟩ := DataW.trod_int Tryz.underlying3 h0
  obtain ⟨b, e1, _⟩ := DataW.trod_int Tryz.underlying3 h1
  obtain ⟨c, e2, _⟩ := DataW.trod_int Tryz.underlying3 h2
  simp at e0 e1 e2
  exact ⟨⟨a, b, c⟩, by rw [e0, e1, e2]; rfl⟩
set_option maxRecDepth 100000 in
theorem open_gates {cs : List Value} {x : DataW H × List MemPlace} (h : DataW.trod enc Tryz.prog w base spare held fuel 22 cs = some x) (hsp : ∀ b, spare b = true) :
    ∃ A l c E, cs = [.slice A l.length c] ∧ Rd w w.heap.size E encG A l ∧ l.length ≤ 9223372036854775807 := by
  rcases open_slice Tryz.underlying22 h with ⟨hcs, _⟩ | ⟨a, len, cap, m, n, D, Pl, hcs, hb, hl, hm, hmm, _, hi⟩
  · exact ⟨none, [], 0, 0, hcs, Rd.nil _ _ _ _ _, by simp⟩
  · rw [cells134] at hi
    have hlm : len ≤ m := by rw [hmm, hsp]; simpa using hl
    obtain ⟨l, h1, h2⟩ := list_of (n := len) (Q := fun i g => ∀ j v, (encG g)[j]? = some v → w.cell? (a.add (i * 3 + j)) = some v) fun i hilt => by
      obtain ⟨cs', hc, ht⟩ := hi i (by omega)
      obtain ⟨g, rfl⟩ := trod_gate ht
      obtain ⟨_, _, hat⟩ := World.cells?_some hc
      refine ⟨g, fun j v hj => ?_⟩
      have hj3 : j < 3 := by have := (List.getElem?_eq_some_iff.1 hj).1; simpa [encG] using this
      rw [← addr_add_add, hat j hj3]
      exact hj
    obtain ⟨E, hr⟩ := rd_of_cells encG_len (by decide) h2
    refine ⟨some a, l, cap, E, by rw [hcs, h1], hr, ?_⟩
    simp only [maxLen] at hm
    omega
end
end Go.Proofs.YtfgnmflfiobkmaaGreat
namespace Go.Proofs.YtfgnmflfiobkmaaGreat
open Go.RowKit Go.ChangeShapes Go.WideShapes Go.Deep Go.Joins
section
variable {H : Type} {enc : TypeId × Value → H} {w : World} {base fuel : Nat} {spare : Nat → Bool} {held : Bool}
theorem cells24 : Tryz.prog.cellsOf 24 = 3 := by kernel_rfl
theorem cells22 : Tryz.prog.cellsOf 22 = 1 := by kernel_rfl
theorem cells35 : Tryz.prog.cellsOf 35 = 2 := by kernel_rfl
theorem cells52 : Tryz.prog.cellsOf 52 = 1 := by kernel_rfl
theorem cells54 : Tryz.prog.cellsOf 54 = 5 := by kernel_rfl
theorem trod_repl {cs : List Value} {x : DataW H × List MemPlace} (h : DataW.trod enc Tryz.prog w base spare held fuel 24 cs = some x) (hsp : ∀ b, spare b = true) :
    ∃ s : Sr, cs = encSr s ∧ ((∃ E, Rd w w.heap.size E encG s.A s.old) ∧ ∃ E, Rd w w.heap.size E encG s.B s.new) ∧ s.old.length ≤ 9223372036854775807 ∧ s.new.length ≤ 9223372036854775807 := by
  obtain ⟨y0, y1, y2, n, _, hl, h0, h1, h2⟩ := trod_struct3 Tryz.underlying24 h
  rw [cells24] at hl
  obtain ⟨c0, c1, c2, rfl⟩ := list3 hl
  simp only [cells3] at h0
  simp only [cells22] at h1 h2
  obtain ⟨a, e0, _⟩ := DataW.trod_int Tryz.underlying3 h0
  obtain ⟨A, l, c, E1, e1, hr1, hl1⟩ := open_gates h1 hsp
  obtain ⟨B, k, d, E2, e2, hr2, hl2⟩ := open_gates h2 hsp
  simp at e0 e1 e2
  exact ⟨⟨a, A, c, l, B, d, k⟩, by rw [e0, e1, e2]; rfl, ⟨⟨E1, hr1⟩, ⟨E2, hr2⟩⟩, hl1, hl2⟩
set_option maxRecDepth 100000 in
theorem open_steps {cs : List Value} {x : DataW H × List MemPlace} (h : DataW.trod enc Tryz.prog w base spare held fuel 52 cs = some x) (hsp : ∀ b, spare b = true) :
    ∃ A l c E, cs = [.slice A l.length c] ∧ Rd w w.heap.size E encSr A l ∧ DeepX w w.heap.size l ∧ l.length ≤ 9223372036854775807 ∧ ∀ s ∈ l, s.old.length ≤ 9223372036854775807 ∧ s.new.length ≤ 9223372036854775807 := by
  rcases open_slice Tryz.underlying52 h with ⟨hcs, _⟩ | ⟨a, len, cap, m, n, D, Pl, hcs, hb, hl, hm, hmm, _, hi⟩
  · exact ⟨none, [], 0, 0, hcs, Rd.nil _ _ _ _ _, fun s hs => by simp at hs, by simp, fun s hs => by simp at hs⟩
  · rw [cells24] at hi
    have hlm : len ≤ m := by rw [hmm, hsp]; simpa using hl
    obtain ⟨l, h1, h2⟩ := list_of (n := len) (Q := fun i (g : Sr) => (∀ j v, (encSr g)[j]? = some v → w.cell? (a.add (i * 3 + j)) = some v) ∧ ((∃ E, Rd w w.heap.size E encG g.A g.old) ∧ ∃ E, Rd w w.heap.size E encG g.B g.new) ∧ g.old.length ≤ 9223372036854775807 ∧ g.new.length ≤ 9223372036854775807) fun i hilt => by
      obtain ⟨cs', hc, ht⟩ := hi i (by omega)
      obtain ⟨g, rfl, hd, hg⟩ := trod_repl ht hsp
      obtain ⟨_, _, hat⟩ := World.cells?_some hc
      refine ⟨g, fun j v hj => ?_, hd, hg⟩
      have hj3 : j < 3 := by have := (List.getElem?_eq_some_iff.1 hj).1; simpa [encSr] using this
      rw [← addr_add_add, hat j hj3]
      exact hj
    obtain ⟨E, hr⟩ := rd_of_cells encSr_len (by decide) fun i g hg => (h2 i g hg).1
    have hin : ∀ s ∈ l, ∃ i, l[i]? = some s := fun s hs => List.getElem?_of_mem hs
    refine ⟨some a, l, cap, E, by rw [hcs, h1], hr, fun s hs => ?_, ?_, fun s hs => ?_⟩
    · obtain ⟨i, hi⟩ := hin s hs
      exact (h2 i s hi).2.1
    · simp only [maxLen] at hm
      omega
    · obtain ⟨i, hi⟩ := hin s hs
      exact (h2 i s hi).2.2
set_option maxRecDepth 100000 in
theorem open_circuit {cs : List Value} {x : DataW H × List MemPlace} (h : DataW.trod enc Tryz.prog w base spare held fuel 35 cs = some x) (hsp : ∀ b, spare b = true) :
    ∃ (c : Cx) (A : Option Addr) (k : Nat) (E : TypeId), cs = [.int .i64 c.n, .slice A c.gs.length k] ∧ Rd w w.heap.size E encG A c.gs ∧ c.gs.length ≤ 9223372036854775807 := by
  obtain ⟨y0, y1, n, _, hl, h0, h1⟩ := trod_struct2 Tryz.underlying35 h
  rw [cells35] at hl
  match cs, hl with
  | [c0, c1], _ =>
    simp only [cells3] at h0
    simp only [cells22] at h1
    obtain ⟨a, e0, _⟩ := DataW.trod_int Tryz.underlying3 h0
    obtain ⟨A, l, c, E1, e1, hr1, hl1⟩ := open_gates h1 hsp
    simp at e0 e1
    exact ⟨⟨a, l⟩, A, c, E1, by rw [e0, e1], hr1, hl1⟩
set_option maxRecDepth 100000 in
theorem open_cert {r : Reach} {b0 : Nat} {v : Value} {d : DataW H} {p : List MemPlace} (hv : Value.okWide Tryz.prog w r b0 54 v) (h : DataW.Trod enc Tryz.prog w base spare held 54 v d p) (hsp : ∀ b, spare b = true) :
    ∃ (c : Cx) (A : Option Addr) (i : Nat) (E : TypeId) (B : Option Addr) (l : List Sr) (j : Nat) (F : TypeId) (e : Cx) (C : Option Addr) (k : Nat) (G : TypeId),
      v = .agg #[.int .i64 c.n, .slice A c.gs.length i, .slice B l.length j, .int .i64 e.n, .slice C e.gs.length k] ∧ Rd w w.heap.size E encG A c.gs ∧ Rd w w.heap.size F encSr B l ∧ DeepX w w.heap.size l ∧ Rd w w.heap.size G encG C e.gs ∧
      c.gs.length ≤ 9223372036854775807 ∧ l.length ≤ 9223372036854775807 ∧ (∀ s ∈ l, s.old.length ≤ 9223372036854775807 ∧ s.new.length ≤ 9223372036854775807) ∧ e.gs.length ≤ 9223372036854775807 := by
  obtain ⟨⟨cs⟩, rfl, hsz⟩ := okWide_struct Tryz.underlying54 hv
  rw [cells54] at hsz
  obtain ⟨fuel, hf⟩ := h
  obtain ⟨y0, y1, y2, n, _, hl, h0, h1, h2⟩ := trod_struct3 Tryz.underlying54 hf
  match cs, hsz with
  | [c0, c1, c2, c3, c4], _ =>
    simp only [cells35] at h0 h2
    simp only [cells52] at h1
    obtain ⟨c, A, i, E, e0, hr0, hl0⟩ := open_circuit h0 hsp
    obtain ⟨B, l, j, F, e1, hr1, hd1, hl1, hll⟩ := open_steps h1 hsp
    obtain ⟨e, C, k, G, e2, hr2, hl2⟩ := open_circuit h2 hsp
    simp [Value.cells] at e0 e1 e2
    refine ⟨c, A, i, E, B, l, j, F, e, C, k, G, ?_, hr0, hr1, hd1, hr2, hl0, hl1, hll, hl2⟩
    rw [e0.1, e0.2, e1, e2.1, e2.2]
end
end Go.Proofs.YtfgnmflfiobkmaaGreat
namespace Go.Proofs.YtfgnmflfiobkmaaGreat
open Go.ChangeShapes Go.WideShapes Go.ChangeAt Go.RowKit Go.Deep Go.Joins
set_option linter.unusedVariables false
theorem own : ownKnob Tryz.prog.godebug = none := by kernel_rfl
theorem laidOut : laidOutB Tryz.prog = true := by kernel_rfl
section
variable {H : Type} {enc : TypeId × Value → H} {P : Program}
theorem post_below {f : Func} {s : ChangeSpec} {fresh handsOn : Bool} {W W' : World} {args : Array Value} {v : Value} {ds gs : List (DataW H)} {before pa pv : List MemPlace}
    (hW : DataW.Whole enc P f.params.toList s.vars false W args.toList ds gs before)
    (hres : ∀ (b : Nat) (sp : Nat → Bool) (hd : Bool), DataW.TrodAll enc P W' b sp hd f.resultTypes.toList (v.resultList f.resultTypes.size) (s.fn H (ds ++ gs)).results [])
    (hargs : ∀ sp : Nat → Bool, (∀ p ∈ before, sp p.block = true) → DataW.TrodAll enc P W' 0 sp true f.params.toList args.toList (s.fn H (ds ++ gs)).args pa)
    (hvars : ∀ sp : Nat → Bool, (∀ p ∈ before, sp p.block = true) → DataW.TrodVars enc P W' sp s.vars (s.fn H (ds ++ gs)).vars pv)
    (hps : before = pa ++ pv) (hb : Below W.heap.size W W') :
    s.post enc P f false fresh handsOn false W args v W' := by
  have hlt : ∀ p ∈ before, p.block < W.heap.size := fun p hp => hW.lt p hp
  have hold : ∀ p ∈ before, (fun b => decide (b < W.heap.size)) p.block = true := fun p hp => by simpa using hlt p hp
  refine ⟨ds, gs, before, [], pa, pv, hW, hres _ _ _, hargs _ hold, hvars _ hold, World.keptBut_mono (fun p hp => ⟨hp, ?_⟩) (hb.frame (· ∈ before)), fun h => by cases h⟩
  rw [hps, List.mem_append] at hp
  exact Or.inr hp
end
set_option maxRecDepth 100000 in
theorem cert_lifted (os : Os) (started : os.Started) (H : Type) (enc : TypeId × Value → H) :
    ReturnsInHanded {} Tryz.checked os 6 .any (Rows.fnExactCheckCertificateSpec.pre6 enc Tryz.prog Tryz.f6 Rows.fnExactCheckCertificateRow.domain false) (Rows.fnExactCheckCertificateSpec.post enc Tryz.prog Tryz.f6 false true false false) := by
  refine returnsInHanded_of_change (C := Tryz.checked) own started (by kernel_rfl) Tryz.func6
    (ChangeSpec.witness6 (enc := enc) (C := Tryz.checked) false ⟨#[], #[.agg #[.int .i64 0, .slice none 0 0, .slice none 0 0, .int .i64 0, .slice none 0 0]], []⟩ 8 (by kernel_rfl) (by kernel_rfl) (by kernel_rfl) (by kernel_rfl)) ?_
  intro W base args ds gs before hval0 hW hcnd _
  have hval : ∀ (j : Nat) t v, Tryz.f6.params[j]? = some t → args[j]? = some v → Value.okWide Tryz.prog W .any base t v := hval0
  have hW' := hW
  obtain ⟨p, q, hA0, hV, rfl, hfz, hnd⟩ := hW
  have hA : DataW.TrodAll enc Tryz.prog W 0 (fun _ => true) true Tryz.f6.params.toList args.toList ds p := hA0
  rw [Tryz.params6] at hA hval
  obtain ⟨v0, d0, rfl, rfl, h0⟩ := trodAll_one hA
  obtain ⟨rfl, rfl⟩ := trodVars_none hV
  have h0k := h0
  obtain ⟨c, A, i, E, B, l, j, F, e, C, k, G, rfl, hr0, hr1, hd1, hr2, hl0, hl1, hll, hl2⟩ := open_cert (hval 0 54 v0 rfl rfl) h0 (fun _ => rfl)
  clear hA0 hval0
  simp only [List.append_nil] at hW'
  have hlt : ∀ x ∈ p, x.block < W.heap.size := fun x hx => hW'.lt x (by simpa using hx)
  refine Calls.mono (F6 W c A i hr0 B j l hr1 hd1 e C k hr2 hl0 hl1 hll hl2) fun r W' ⟨v, he, hv, hb⟩ => ?_
  subst hv
  refine ⟨_, he, post_below (pa := p) (pv := []) hW' (fun _ _ _ => trodAll_mk1 (shut_bool Tryz.underlying4 true)) (fun sp hsp => ?_) (fun _ _ => rfl) (by simp) hb⟩
  exact trodAll_mk1 (WideElems.Trod_stays laidOut (by kernel_rfl) (of_decide_eq_true (by kernel_rfl)) h0k (fun x hx => hb.same (hlt x hx)) (fun x hx => hsp x (by simpa using hx)))
theorem cert_holds : Rows.FnExactCheckCertificateSaid :=
  OpenClaim.holds_of_wide 6 Tryz.f6 rfl rfl rfl rfl rfl rfl rfl ⟨rfl, rfl, rfl, rfl, rfl⟩ rfl rfl rfl rfl rfl (by kernel_rfl) Tryz.func6 (by kernel_rfl)
    (of_decide_eq_true (by kernel_rfl)) (by unfold Func.isWrapper; first | (rw [if_pos (by decide +kernel)]; kernel_rfl) | (rw [if_neg (by decide +kernel)]; exact ⟨rfl, rfl⟩))
    (fun os started H enc _ => cert_lifted os started H enc)
end Go.Proofs.YtfgnmflfiobkmaaGreat
