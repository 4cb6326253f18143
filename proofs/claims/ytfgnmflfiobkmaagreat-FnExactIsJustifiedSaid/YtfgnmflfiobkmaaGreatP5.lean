/-
  What is proved: for every number and every replacement, the program's IsJustified returns what the reference's returns, and the arguments read as before. Conditions: none.
-/
import Derived.Test.YtfgnmflfiobkmaaGreatP4
set_option maxRecDepth 4000
namespace Go.Proofs.YtfgnmflfiobkmaaGreat
open Go.RowKit
theorem F49 (w0 : World) (Al : Option Addr) (cl : Nat) (l : List Int) (hr_l : Rd w0 w0.heap.size 3 encI Al l) (hq : ∀ x ∈ l, 0 ≤ x ∧ x ≤ 4) (hln : l.length ≤ 1000000) : Ret Tryz.prog 49 [.slice Al l.length cl] w0 (fun v w => ∃ A c, v = .slice A (numbI l).length c ∧ Own w w0.heap.size 3 1 encI A c (numbI l) ∧ Below w0.heap.size w0 w) := by
 refine enter Tryz.func49 rfl 20 rfl rfl ?_
 intro a hf
 have hW : Below w0.heap.size w0 w0 := Below.refl _ _
 refine wp_seq_k ?_; intro K2 hK2
 refine wp_region_lit ?_
 refine l_ev hf trivial rfl rfl (ev_assign hf rfl) ?_; intro a hf
 refine wpList_nil ?_
 refine hK2 _ _ ?_; try clear hK2 K2
 refine wp_seq_k ?_; intro K4 hK4
 refine wp_region_lit ?_
 refine l_eff hf trivial rfl rfl (ef_makeSlice (m := 5) (enc := encI) (z0 := 0) hf rfl rfl sl_36 inf_3 z_3 rfl encI_len (by decide) (by decide)) ?_; rintro a _ w1 ⟨b5, rfl, hl5, hE, hB5⟩ hf
 have hlo5 := Nat.le_trans hW.size hl5
 have haw1_5 := hr_l.away hl5
 replace hr_l := hr_l.below hE
 replace hW := hW.trans (hE.mono hW.size)
 clear hE
 refine l_ev hf trivial rfl rfl (ev_assign hf rfl) ?_; intro a hf
 refine wpList_nil ?_
 refine hK4 _ _ ?_; try clear hK4 K4
 refine wp_seq_k ?_; intro K7 hK7
 refine wp_seq_k ?_; intro K8 hK8
 refine wp_region_lit ?_
 refine l_ev hf trivial rfl rfl (ev_move hf rfl) ?_; intro a hf
 refine l_ev hf trivial rfl rfl (ev_len hf rfl sl_36) ?_; intro a hf
 refine l_ev hf trivial rfl rfl (ev_move hf rfl) ?_; intro a hf
 refine wpList_nil ?_
 refine hK8 _ _ ?_; try clear hK8 K8
 refine wp_block ?_
 refine c_loop (σ := Nat × (List Int)) (fun (s : Nat × (List Int)) (a : Act) (w : World) => match s with | (k, to) => Fr a 20 [(3, .slice (some ⟨b5, 0, none⟩) 5 5), (7, .slice Al l.length cl), (8, .int .i64 (l.length : Int)), (9, .int .i64 (k : Int))] ∧ (k ≤ l.length) ∧ (to = numbI (l.take k)) ∧ Blk w b5 3 (to.flatMap encI) ∧ Rd w w0.heap.size 3 encI Al l ∧ Below w0.heap.size w0 w) (fun (s : Nat × (List Int)) => match s with | (k, to) => l.length - k) (0, [0, 0, 0, 0, 0]) ?_ ?_
 · exact ⟨hf.sub ⟨rfl, rfl, rfl, rfl, trivial⟩, (Nat.zero_le _), rfl, hB5, hr_l, hW⟩
 rintro ⟨k, to⟩ a w2 ⟨hf, hk, hto, hB5, hr_l, hW⟩
 have hlt : to.length = 5 := by rw [hto, numb_len]
 refine wp_seq_k ?_; intro K9 hK9
 refine wp_region_lit ?_
 refine l_ev hf trivial rfl rfl (ev_lss hf rfl rfl) ?_; intro a hf
 refine wpList_nil ?_
 refine hK9 _ _ ?_; try clear hK9 K9
 refine wp_seq_k ?_; intro K10 hK10
 refine c_if hf rfl (fun hc11 => ?_) (fun hc11 => ?_)
 ·have hc11b := hc11
  have hc11 := of_decide_eq_true hc11
  obtain ⟨u12, hu12⟩ := getElem_ex (l := l) (k := k) (by omega)
  have hb := hq u12 (List.mem_of_getElem? hu12)
  refine wp_skip ?_
  refine hK10 _ _ ?_; try clear hK10 K10
  refine wp_seq_k ?_; intro K13 hK13
  refine wp_block ?_
  refine wp_seq_k ?_; intro K14 hK14
  refine wp_region_lit ?_
  refine l_ev hf trivial rfl rfl (ev_move hf rfl) ?_; intro a hf
  refine l_index (k := k) (u := u12) (enc := encI) (l := l) hf trivial rfl rfl rfl sl_36 sz_3 encI_len hr_l hu12 rfl ?_; intro a p16 hat15 hf
  refine l_ev hf trivial rfl rfl (ev_load1 hf rfl t1_3 hat15) ?_; intro a hf
  refine l_ev hf trivial rfl rfl (ev_assign hf rfl) ?_; intro a hf
  refine l_ev hf trivial rfl rfl (ev_assign hf rfl) ?_; intro a hf
  refine wpList_nil ?_
  refine hK14 _ _ ?_; try clear hK14 K14
  refine wp_region_lit ?_
  refine l_ev hf trivial rfl rfl (ev_move hf rfl) ?_; intro a hf
  refine l_ev hf trivial rfl rfl (ev_move hf rfl) ?_; intro a hf
  refine l_ev hf trivial rfl rfl (ev_move hf rfl) ?_; intro a hf
  refine l_ev hf trivial rfl rfl (ev_indexB (k := u12.toNat) (off := u12.toNat * 1) hf rfl rfl sl_36 sz_3 (by omega) (by omega) rfl) ?_; intro a hf
  refine l_eff0 hf trivial rfl (ef_storeF (enc := encI) (l := to) (u := (k : Int)) (k := u12.toNat) hf rfl rfl sz_3 hB5 encI_len encI_one rfl (by omega)) ?_; rintro a _ w3 ⟨ho, hb⟩ hf
  have hold := hB5
  replace hr_l := hr_l.only ho hlo5
  replace hW := Below.only hW ho hlo5
  clear hold
  have hB5 := hb
  clear hb ho
  refine wpList_nil ?_
  refine x_norm ?_
  refine hK13 _ _ ?_; try clear hK13 K13
  refine wp_region_lit ?_
  refine l_ev hf trivial rfl rfl (ev_addx hf rfl rfl (by omega) (by omega)) ?_; intro a hf
  refine l_ev hf trivial rfl rfl (ev_move hf rfl) ?_; intro a hf
  refine wpList_nil ?_
  refine x_thenN ?_
  exact ⟨(k + 1, (to.set (u12.toNat) (k : Int))), ⟨hf.sub ⟨rfl, rfl, rfl, rfl, trivial⟩, (by omega), (by rw [numb_step hu12, hto]), hB5, hr_l, hW⟩, (by first | omega | (dsimp only; omega))⟩
 ·have hc11b := hc11
  have hc11 := of_decide_eq_false hc11
  refine wp_exit ?_
  refine x_exS ?_
  refine x_exS ?_
  refine x_exit ?_
  refine hK7 _ _ ?_; try clear hK7 K7
  refine wp_seq_k ?_; intro K17 hK17
  refine wp_region_lit ?_
  refine l_ev hf trivial rfl rfl (ev_move hf rfl) ?_; intro a hf
  refine l_ev hf trivial rfl rfl (ev_assign hf rfl) ?_; intro a hf
  refine wpList_nil ?_
  refine hK17 _ _ ?_; try clear hK17 K17
  refine wp_ret ?_
  refine c_ret hf (res1 hf rfl rfl) ?_
  have hmk : to.length = 5 := hlt
  have hmkb : 5 ≤ maxLen := by simp [maxLen]
  have hfin : numbI l = to := by rw [hto, List.take_of_length_le (by omega)]
  rw [hfin]
  exact ⟨(some ⟨b5, 0, none⟩), 5, by rw [hmk], (Own.of_flat encI_len hB5 hlo5 hmk hmkb), hW⟩
theorem F51 (w0 : World) (Al : Option Addr) (cl : Nat) (l : List Gt) (hr_l : Rd w0 w0.heap.size 107 encG Al l) (Ato : Option Addr) (cto : Nat) (to : List Int) (hr_to : Rd w0 w0.heap.size 3 encI Ato to) (hq : ∀ g ∈ l, (g.k ≠ 12 → 0 ≤ g.a ∧ g.a < 5) ∧ (inR g.k 9 11 = true → 0 ≤ g.b ∧ g.b < 5)) (hto : to.length = 5) (hln : l.length ≤ 1000000) : Ret Tryz.prog 51 [.slice Al l.length cl, .slice Ato to.length cto] w0 (fun v w => ∃ A c, v = .slice A (mapI l to).length c ∧ Own w w0.heap.size 107 3 encG A c (mapI l to) ∧ Below w0.heap.size w0 w) := by
 refine enter Tryz.func51 rfl 39 rfl rfl ?_
 intro a hf
 have hW : Below w0.heap.size w0 w0 := Below.refl _ _
 refine wp_seq_k ?_; intro K3 hK3
 refine wp_region_lit ?_
 refine l_ev hf trivial rfl rfl (ev_assign hf rfl) ?_; intro a hf
 refine wpList_nil ?_
 refine hK3 _ _ ?_; try clear hK3 K3
 refine wp_seq_k ?_; intro K5 hK5
 refine wp_region_lit ?_
 refine l_eff hf trivial rfl rfl (ef_buildSlice (k := 0) (vs := []) (zs := []) hf rfl sl_28 inf_107 rfl rfl) ?_; rintro a _ w1 ⟨b6, rfl, hl6, hE, hB6⟩ hf
 have hlo6 := Nat.le_trans hW.size hl6
 have haw1_6 := hr_l.away hl6
 replace hr_l := hr_l.below hE
 replace hr_to := hr_to.below hE
 replace hW := hW.trans (hE.mono hW.size)
 clear hE
 refine l_ev hf trivial rfl rfl (ev_assign hf rfl) ?_; intro a hf
 refine wpList_nil ?_
 refine hK5 _ _ ?_; try clear hK5 K5
 refine wp_seq_k ?_; intro K8 hK8
 refine wp_seq_k ?_; intro K9 hK9
 refine wp_region_lit ?_
 refine l_ev hf trivial rfl rfl (ev_move hf rfl) ?_; intro a hf
 refine l_ev hf trivial rfl rfl (ev_len hf rfl sl_28) ?_; intro a hf
 refine l_ev hf trivial rfl rfl (ev_move hf rfl) ?_; intro a hf
 refine wpList_nil ?_
 refine hK9 _ _ ?_; try clear hK9 K9
 refine wp_block ?_
 refine c_loop (σ := Nat × (List Gt)) (fun (s : Nat × (List Gt)) (a : Act) (w : World) => match s with | (k, m) => ∃ A10 c10, Fr a 39 [(1, .slice Ato to.length cto), (5, .slice A10 m.length c10), (9, .slice Al l.length cl), (10, .int .i64 (l.length : Int)), (11, .int .i64 (k : Int))] ∧ (k ≤ l.length) ∧ (m = (l.take k).map (mapG to)) ∧ Own w w0.heap.size 107 3 encG A10 c10 m ∧ Rd w w0.heap.size 107 encG Al l ∧ Rd w w0.heap.size 3 encI Ato to ∧ Below w0.heap.size w0 w) (fun (s : Nat × (List Gt)) => match s with | (k, m) => l.length - k) (0, []) ?_ ?_
 · exact ⟨some ⟨b6, 0, none⟩, 0, hf.sub ⟨rfl, rfl, rfl, rfl, rfl, trivial⟩, (Nat.zero_le _), rfl, (Own.empty hB6 hlo6), hr_l, hr_to, hW⟩
 rintro ⟨k, m⟩ a w2 ⟨A10, c10, hf, hk, hm, ho10, hr_l, hr_to, hW⟩
 have hml : m.length = k := by rw [hm, List.length_map, List.length_take, Nat.min_eq_left hk]
 refine wp_seq_k ?_; intro K11 hK11
 refine wp_region_lit ?_
 refine l_ev hf trivial rfl rfl (ev_lss hf rfl rfl) ?_; intro a hf
 refine wpList_nil ?_
 refine hK11 _ _ ?_; try clear hK11 K11
 refine wp_seq_k ?_; intro K12 hK12
 refine c_if hf rfl (fun hc13 => ?_) (fun hc13 => ?_)
 ·have hc13b := hc13
  have hc13 := of_decide_eq_true hc13
  obtain ⟨u14, hu14⟩ := getElem_ex (l := l) (k := k) (by omega)
  have hb := hq u14 (List.mem_of_getElem? hu14)
  have hst := map_step (f := mapG to) hu14
  refine wp_skip ?_
  refine hK12 _ _ ?_; try clear hK12 K12
  refine wp_seq_k ?_; intro K15 hK15
  refine wp_block ?_
  refine wp_seq_k ?_; intro K16 hK16
  refine wp_region_lit ?_
  refine l_index (k := k) (u := u14) (enc := encG) (l := l) hf trivial rfl rfl rfl sl_28 sz_107 encG_len hr_l hu14 rfl ?_; intro a p18 hat17 hf
  refine l_ev hf trivial rfl rfl (ev_loadN (l := [.int .i64 u14.k, .int .i64 u14.a, .int .i64 u14.b]) hf rfl tN_107 hat17 rfl) ?_; intro a hf
  refine l_eff hf trivial rfl rfl (ef_alloc (zs := [.int .i64 0, .int .i64 0, .int .i64 0]) z_107 rfl) ?_; rintro a _ w3 ⟨b19, rfl, hl19, hE, hB19⟩ hf
  have hlo19 := Nat.le_trans hW.size hl19
  have haw10_19 := ho10.away hl19
  have haw1_19 := hr_l.away hl19
  replace ho10 := ho10.below hE
  replace hr_l := hr_l.below hE
  replace hr_to := hr_to.below hE
  replace hW := hW.trans (hE.mono hW.size)
  clear hE
  refine l_eff0 hf trivial rfl (ef_store (vs := [.int .i64 u14.k, .int .i64 u14.a, .int .i64 u14.b]) (l' := [.int .i64 u14.k, .int .i64 u14.a, .int .i64 u14.b]) hf rfl rfl sz_107 hB19 rfl rfl rfl rfl rfl) ?_; rintro a _ w4 ⟨ho, hb⟩ hf
  have hold := hB19
  replace ho10 := ho10.onlyA ho haw10_19
  replace hr_l := hr_l.only ho hlo19
  replace hr_to := hr_to.onlyT ho hold rfl
  replace hW := Below.only hW ho hlo19
  clear hold
  have hB19 := hb
  clear hb ho
  refine wpList_nil ?_
  refine hK16 _ _ ?_; try clear hK16 K16
  refine wp_seq_k ?_; intro K20 hK20
  refine wp_seq_k ?_; intro K21 hK21
  refine wp_region_lit ?_
  refine l_ev hf trivial rfl rfl (ev_fieldB hf rfl fd_107_0 (m := 0) rfl) ?_; intro a hf
  refine l_ev hf trivial rfl rfl (ev_load1 hf rfl t1_3 (hB19.at 0)) ?_; intro a hf
  refine l_ev hf trivial rfl rfl (ev_neq hf rfl rfl) ?_; intro a hf
  refine wpList_nil ?_
  refine hK21 _ _ ?_; try clear hK21 K21
  refine c_if hf rfl (fun hc22 => ?_) (fun hc22 => ?_)
  ·have hc22b := hc22
   have h12 : ¬ u14.k = 12 := by simpa using hc22
   have ha := hb.1 h12
   refine wp_region_lit ?_
   refine l_ev hf trivial rfl rfl (ev_move hf rfl) ?_; intro a hf
   refine l_ev hf trivial rfl rfl (ev_fieldB hf rfl fd_107_1 (m := 1) rfl) ?_; intro a hf
   refine l_ev hf trivial rfl rfl (ev_load1 hf rfl t1_3 (hB19.at 1)) ?_; intro a hf
   refine l_index (k := u14.a.toNat) (u := (to.getD u14.a.toNat 0)) (enc := encI) (l := to) hf trivial rfl rfl rfl sl_36 sz_3 encI_len hr_to (getD_get (by omega)) (by omega) ?_; intro a p24 hat23 hf
   refine l_ev hf trivial rfl rfl (ev_load1 hf rfl t1_3 hat23) ?_; intro a hf
   refine l_ev hf trivial rfl rfl (ev_fieldB hf rfl fd_107_1 (m := 1) rfl) ?_; intro a hf
   refine l_eff0 hf trivial rfl (ef_store (vs := [.int .i64 (to.getD u14.a.toNat 0)]) (l' := [.int .i64 u14.k, .int .i64 (to.getD u14.a.toNat 0), .int .i64 u14.b]) hf rfl rfl sz_3 hB19 rfl rfl rfl rfl rfl) ?_; rintro a _ w5 ⟨ho, hb⟩ hf
   have hold := hB19
   replace ho10 := ho10.onlyA ho haw10_19
   replace hr_l := hr_l.only ho hlo19
   replace hr_to := hr_to.onlyT ho hold rfl
   replace hW := Below.only hW ho hlo19
   clear hold
   have hB19 := hb
   clear hb ho
   refine wpList_nil ?_
   refine hK20 _ _ ?_; try clear hK20 K20
   refine wp_seq_k ?_; intro K25 hK25
   refine wp_seq_k ?_; intro K26 hK26
   refine wp_region_lit ?_
   refine l_ev hf trivial rfl rfl (ev_fieldB hf rfl fd_107_0 (m := 0) rfl) ?_; intro a hf
   refine l_ev hf trivial rfl rfl (ev_load1 hf rfl t1_3 (hB19.at 0)) ?_; intro a hf
   refine l_eff hf trivial rfl rfl (ef_call (vs := [.int .i64 u14.k]) hf rfl ff_99 (F99 _ u14.k)) ?_; rintro a _ _ ⟨rfl, rfl⟩ hf
   refine wpList_nil ?_
   refine hK26 _ _ ?_; try clear hK26 K26
   refine c_if hf rfl (fun hc27 => ?_) (fun hc27 => ?_)
   ·have hc27b := hc27
    have h9 : inR u14.k 9 11 = true := hc27
    have hb2 := hb.2 h9
    have hmg : mapG to u14 = ⟨u14.k, to.getD u14.a.toNat 0, to.getD u14.b.toNat 0⟩ := by rw [mapG, if_neg h12, if_pos h9]
    refine wp_region_lit ?_
    refine l_ev hf trivial rfl rfl (ev_move hf rfl) ?_; intro a hf
    refine l_ev hf trivial rfl rfl (ev_fieldB hf rfl fd_107_2 (m := 2) rfl) ?_; intro a hf
    refine l_ev hf trivial rfl rfl (ev_load1 hf rfl t1_3 (hB19.at 2)) ?_; intro a hf
    refine l_index (k := u14.b.toNat) (u := (to.getD u14.b.toNat 0)) (enc := encI) (l := to) hf trivial rfl rfl rfl sl_36 sz_3 encI_len hr_to (getD_get (by omega)) (by omega) ?_; intro a p29 hat28 hf
    refine l_ev hf trivial rfl rfl (ev_load1 hf rfl t1_3 hat28) ?_; intro a hf
    refine l_ev hf trivial rfl rfl (ev_fieldB hf rfl fd_107_2 (m := 2) rfl) ?_; intro a hf
    refine l_eff0 hf trivial rfl (ef_store (vs := [.int .i64 (to.getD u14.b.toNat 0)]) (l' := [.int .i64 u14.k, .int .i64 (to.getD u14.a.toNat 0), .int .i64 (to.getD u14.b.toNat 0)]) hf rfl rfl sz_3 hB19 rfl rfl rfl rfl rfl) ?_; rintro a _ w6 ⟨ho, hb⟩ hf
    have hold := hB19
    replace ho10 := ho10.onlyA ho haw10_19
    replace hr_l := hr_l.only ho hlo19
    replace hr_to := hr_to.onlyT ho hold rfl
    replace hW := Below.only hW ho hlo19
    clear hold
    have hB19 := hb
    clear hb ho
    refine wpList_nil ?_
    refine hK25 _ _ ?_; try clear hK25 K25
    refine wp_region_lit ?_
    refine l_ev hf trivial rfl rfl (ev_move hf rfl) ?_; intro a hf
    refine l_ev hf trivial rfl rfl (ev_loadN (l := [.int .i64 u14.k, .int .i64 (to.getD u14.a.toNat 0), .int .i64 (to.getD u14.b.toNat 0)]) hf rfl tN_107 (hB19.at 0) rfl) ?_; intro a hf
    refine l_eff hf trivial rfl rfl (ef_buildSlice (k := 1) (vs := [.agg #[.int .i64 u14.k, .int .i64 (to.getD u14.a.toNat 0), .int .i64 (to.getD u14.b.toNat 0)]]) (zs := [.int .i64 u14.k, .int .i64 (to.getD u14.a.toNat 0), .int .i64 (to.getD u14.b.toNat 0)]) hf rfl sl_28 inf_107 rfl rfl) ?_; rintro a _ w7 ⟨b30, rfl, hl30, hE, hB30⟩ hf
    have hne19_30 : b19 ≠ b30 := by have := hB19.lt; omega
    have hlo30 := Nat.le_trans hW.size hl30
    have haw10_30 := ho10.away hl30
    have haw1_30 := hr_l.away hl30
    replace hB19 := hB19.below hE
    replace ho10 := ho10.below hE
    replace hr_l := hr_l.below hE
    replace hr_to := hr_to.below hE
    replace hW := hW.trans (hE.mono hW.size)
    clear hE
    refine l_eff hf trivial rfl rfl (ef_append (enc := encG) (l := (m)) (l2 := ([(⟨u14.k, (to.getD u14.a.toNat 0), (to.getD u14.b.toNat 0)⟩ : Gt)])) (B0 := w0.heap.size) hf rfl rfl sl_28 inf_107 encG_len encG_one ho10 (Rd.of_blk hB30 rfl _ hB30.lt) (by simp only [maxLen]; simp; omega) (by simp; omega) hW.size) ?_; rintro a _ w8 ⟨A32, c32, rfl, ho32, hg, hat⟩ hf
    have hown : Own _ w0.heap.size 107 3 encG _ _ (m) := ho10
    have haw32_19 := hat _ hB19.lt haw10_19
    have haw32_30 := hat _ hB30.lt haw10_30
    clear hat
    replace hB19 := hB19.appA hg haw10_19
    replace hr_l := hr_l.appB hown hg (Nat.le_refl _)
    replace hr_to := hr_to.appT hown hg rfl
    replace hW := Below.app hW hown hg (Nat.le_refl _) hW.size
    clear hown hg
    refine l_ev hf trivial rfl rfl (ev_assign hf rfl) ?_; intro a hf
    refine wpList_nil ?_
    refine x_norm ?_
    refine hK15 _ _ ?_; try clear hK15 K15
    refine wp_region_lit ?_
    refine l_ev hf trivial rfl rfl (ev_addx hf rfl rfl (by omega) (by omega)) ?_; intro a hf
    refine l_ev hf trivial rfl rfl (ev_move hf rfl) ?_; intro a hf
    refine wpList_nil ?_
    rw [hmg] at hst
    refine x_thenN ?_
    exact ⟨(k + 1, m ++ [(⟨u14.k, (to.getD u14.a.toNat 0), (to.getD u14.b.toNat 0)⟩ : Gt)]), ⟨A32, c32, hf.sub ⟨rfl, rfl, rfl, rfl, rfl, trivial⟩, (by omega), (by rw [hst, hm]), ho32, hr_l, hr_to, hW⟩, (by first | omega | (dsimp only; omega))⟩
   ·have hc27b := hc27
    have h9 : ¬ inR u14.k 9 11 = true := by rw [hc27]; simp
    have hmg : mapG to u14 = ⟨u14.k, to.getD u14.a.toNat 0, u14.b⟩ := by rw [mapG, if_neg h12, if_neg h9]
    refine wp_skip ?_
    refine hK25 _ _ ?_; try clear hK25 K25
    refine wp_region_lit ?_
    refine l_ev hf trivial rfl rfl (ev_move hf rfl) ?_; intro a hf
    refine l_ev hf trivial rfl rfl (ev_loadN (l := [.int .i64 u14.k, .int .i64 (to.getD u14.a.toNat 0), .int .i64 u14.b]) hf rfl tN_107 (hB19.at 0) rfl) ?_; intro a hf
    refine l_eff hf trivial rfl rfl (ef_buildSlice (k := 1) (vs := [.agg #[.int .i64 u14.k, .int .i64 (to.getD u14.a.toNat 0), .int .i64 u14.b]]) (zs := [.int .i64 u14.k, .int .i64 (to.getD u14.a.toNat 0), .int .i64 u14.b]) hf rfl sl_28 inf_107 rfl rfl) ?_; rintro a _ w9 ⟨b33, rfl, hl33, hE, hB33⟩ hf
    have hne19_33 : b19 ≠ b33 := by have := hB19.lt; omega
    have hlo33 := Nat.le_trans hW.size hl33
    have haw10_33 := ho10.away hl33
    have haw1_33 := hr_l.away hl33
    replace hB19 := hB19.below hE
    replace ho10 := ho10.below hE
    replace hr_l := hr_l.below hE
    replace hr_to := hr_to.below hE
    replace hW := hW.trans (hE.mono hW.size)
    clear hE
    refine l_eff hf trivial rfl rfl (ef_append (enc := encG) (l := (m)) (l2 := ([(⟨u14.k, (to.getD u14.a.toNat 0), u14.b⟩ : Gt)])) (B0 := w0.heap.size) hf rfl rfl sl_28 inf_107 encG_len encG_one ho10 (Rd.of_blk hB33 rfl _ hB33.lt) (by simp only [maxLen]; simp; omega) (by simp; omega) hW.size) ?_; rintro a _ w10 ⟨A35, c35, rfl, ho35, hg, hat⟩ hf
    have hown : Own _ w0.heap.size 107 3 encG _ _ (m) := ho10
    have haw35_19 := hat _ hB19.lt haw10_19
    have haw35_33 := hat _ hB33.lt haw10_33
    clear hat
    replace hB19 := hB19.appA hg haw10_19
    replace hr_l := hr_l.appB hown hg (Nat.le_refl _)
    replace hr_to := hr_to.appT hown hg rfl
    replace hW := Below.app hW hown hg (Nat.le_refl _) hW.size
    clear hown hg
    refine l_ev hf trivial rfl rfl (ev_assign hf rfl) ?_; intro a hf
    refine wpList_nil ?_
    refine x_norm ?_
    refine hK15 _ _ ?_; try clear hK15 K15
    refine wp_region_lit ?_
    refine l_ev hf trivial rfl rfl (ev_addx hf rfl rfl (by omega) (by omega)) ?_; intro a hf
    refine l_ev hf trivial rfl rfl (ev_move hf rfl) ?_; intro a hf
    refine wpList_nil ?_
    rw [hmg] at hst
    refine x_thenN ?_
    exact ⟨(k + 1, m ++ [(⟨u14.k, (to.getD u14.a.toNat 0), u14.b⟩ : Gt)]), ⟨A35, c35, hf.sub ⟨rfl, rfl, rfl, rfl, rfl, trivial⟩, (by omega), (by rw [hst, hm]), ho35, hr_l, hr_to, hW⟩, (by first | omega | (dsimp only; omega))⟩
  ·have hc22b := hc22
   have h12 : u14.k = 12 := by simpa using hc22
   refine wp_skip ?_
   refine hK20 _ _ ?_; try clear hK20 K20
   refine wp_seq_k ?_; intro K36 hK36
   refine wp_seq_k ?_; intro K37 hK37
   refine wp_region_lit ?_
   refine l_ev hf trivial rfl rfl (ev_fieldB hf rfl fd_107_0 (m := 0) rfl) ?_; intro a hf
   refine l_ev hf trivial rfl rfl (ev_load1 hf rfl t1_3 (hB19.at 0)) ?_; intro a hf
   refine l_eff hf trivial rfl rfl (ef_call (vs := [.int .i64 u14.k]) hf rfl ff_99 (F99 _ u14.k)) ?_; rintro a _ _ ⟨rfl, rfl⟩ hf
   refine wpList_nil ?_
   refine hK37 _ _ ?_; try clear hK37 K37
   refine c_if hf rfl (fun hc38 => ?_) (fun hc38 => ?_)
   ·have hc38b := hc38
    exact absurd (inR_iff.1 hc38) (by omega)
   ·have hc38b := hc38
    have h9 : ¬ inR u14.k 9 11 = true := by rw [hc38]; simp
    have hmg : mapG to u14 = u14 := by rw [mapG, if_pos h12, if_neg h9]
    refine wp_skip ?_
    refine hK36 _ _ ?_; try clear hK36 K36
    refine wp_region_lit ?_
    refine l_ev hf trivial rfl rfl (ev_move hf rfl) ?_; intro a hf
    refine l_ev hf trivial rfl rfl (ev_loadN (l := [.int .i64 u14.k, .int .i64 u14.a, .int .i64 u14.b]) hf rfl tN_107 (hB19.at 0) rfl) ?_; intro a hf
    refine l_eff hf trivial rfl rfl (ef_buildSlice (k := 1) (vs := [.agg #[.int .i64 u14.k, .int .i64 u14.a, .int .i64 u14.b]]) (zs := [.int .i64 u14.k, .int .i64 u14.a, .int .i64 u14.b]) hf rfl sl_28 inf_107 rfl rfl) ?_; rintro a _ w11 ⟨b39, rfl, hl39, hE, hB39⟩ hf
    have hne19_39 : b19 ≠ b39 := by have := hB19.lt; omega
    have hlo39 := Nat.le_trans hW.size hl39
    have haw10_39 := ho10.away hl39
    have haw1_39 := hr_l.away hl39
    replace hB19 := hB19.below hE
    replace ho10 := ho10.below hE
    replace hr_l := hr_l.below hE
    replace hr_to := hr_to.below hE
    replace hW := hW.trans (hE.mono hW.size)
    clear hE
    refine l_eff hf trivial rfl rfl (ef_append (enc := encG) (l := (m)) (l2 := ([u14])) (B0 := w0.heap.size) hf rfl rfl sl_28 inf_107 encG_len encG_one ho10 (Rd.of_blk hB39 rfl _ hB39.lt) (by simp only [maxLen]; simp; omega) (by simp; omega) hW.size) ?_; rintro a _ w12 ⟨A41, c41, rfl, ho41, hg, hat⟩ hf
    have hown : Own _ w0.heap.size 107 3 encG _ _ (m) := ho10
    have haw41_19 := hat _ hB19.lt haw10_19
    have haw41_39 := hat _ hB39.lt haw10_39
    clear hat
    replace hB19 := hB19.appA hg haw10_19
    replace hr_l := hr_l.appB hown hg (Nat.le_refl _)
    replace hr_to := hr_to.appT hown hg rfl
    replace hW := Below.app hW hown hg (Nat.le_refl _) hW.size
    clear hown hg
    refine l_ev hf trivial rfl rfl (ev_assign hf rfl) ?_; intro a hf
    refine wpList_nil ?_
    refine x_norm ?_
    refine hK15 _ _ ?_; try clear hK15 K15
    refine wp_region_lit ?_
    refine l_ev hf trivial rfl rfl (ev_addx hf rfl rfl (by omega) (by omega)) ?_; intro a hf
    refine l_ev hf trivial rfl rfl (ev_move hf rfl) ?_; intro a hf
    refine wpList_nil ?_
    rw [hmg] at hst
    refine x_thenN ?_
    exact ⟨(k + 1, m ++ [u14]), ⟨A41, c41, hf.sub ⟨rfl, rfl, rfl, rfl, rfl, trivial⟩, (by omega), (by rw [hst, hm]), ho41, hr_l, hr_to, hW⟩, (by first | omega | (dsimp only; omega))⟩
 ·have hc13b := hc13
  have hc13 := of_decide_eq_false hc13
  refine wp_exit ?_
  refine x_exS ?_
  refine x_exS ?_
  refine x_exit ?_
  refine hK8 _ _ ?_; try clear hK8 K8
  refine wp_seq_k ?_; intro K42 hK42
  refine wp_region_lit ?_
  refine l_ev hf trivial rfl rfl (ev_move hf rfl) ?_; intro a hf
  refine l_ev hf trivial rfl rfl (ev_assign hf rfl) ?_; intro a hf
  refine wpList_nil ?_
  refine hK42 _ _ ?_; try clear hK42 K42
  refine wp_ret ?_
  refine c_ret hf (res1 hf rfl rfl) ?_
  have hfin : mapI l to = m := by rw [hm, List.take_of_length_le (by omega)]; rfl
  rw [hfin]
  exact ⟨A10, c10, rfl, ho10, hW⟩
theorem F46 (w0 : World) (n : Int) (r : Rp) (Ar : Option Addr) (cr : Nat) (hr_r : Rd w0 w0.heap.size 107 encG Ar r.old) (Br : Option Addr) (dr : Nat) (hs_r : Rd w0 w0.heap.size 107 encG Br r.new) (hla : r.old.length ≤ 2305843009213693951) (hlb : r.new.length ≤ 2305843009213693951) : Ret Tryz.prog 46 [.int .i64 n, .agg #[.int .i64 r.pos, .slice Ar r.old.length cr, .slice Br r.new.length dr]] w0 (fun v w => v = .bool (vrI n r) ∧ Below w0.heap.size w0 w) := by
 refine enter Tryz.func46 rfl 36 rfl rfl ?_
 intro a hf
 have hW : Below w0.heap.size w0 w0 := Below.refl _ _
 refine wp_seq_k ?_; intro K3 hK3
 refine wp_region_lit ?_
 refine l_eff hf trivial rfl rfl (ef_box (zs := [.int .i64 r.pos, .slice Ar r.old.length cr, .slice Br r.new.length dr]) hf rfl rfl) ?_; rintro a _ w1 ⟨b4, rfl, hl4, hE, hB4⟩ hf
 have hlo4 := Nat.le_trans hW.size hl4
 replace hr_r := hr_r.below hE
 replace hs_r := hs_r.below hE
 replace hW := hW.trans (hE.mono hW.size)
 clear hE
 refine l_ev hf trivial rfl rfl (ev_assign hf rfl) ?_; intro a hf
 refine wpList_nil ?_
 refine hK3 _ _ ?_; try clear hK3 K3
 refine wp_seq_k ?_; intro K5 hK5
 refine c_cut (fun a w => Fr a 36 [(4, .bool ((((((inR n 1 5) && (inR r.pos 0 400)) && (decide ((r.old.length : Int) ≤ 40))) && (decide ((r.new.length : Int) ≤ 40))) && (!(r.old.any fun x => !gOk n x))) && (!(r.new.any fun x => !gOk n x))))] ∧ Below w1.heap.size w1 w) ?_ ?_
 ·have hEc : Below w1.heap.size w1 w1 := Below.refl _ _
  refine wp_region_lit ?_
  refine l_ev hf trivial rfl rfl (ev_move hf rfl) ?_; intro a hf
  refine l_eff hf trivial rfl rfl (ef_call (vs := [.int .i64 n, .int .i64 1, .int .i64 5]) hf rfl ff_91 (F91 _ n 1 5)) ?_; rintro a _ _ ⟨rfl, rfl⟩ hf
  refine l_ev hf trivial rfl rfl (ev_move hf rfl) ?_; intro a hf
  refine g_split hf (t := 7) rfl (fun hg6 => ?_) (fun hg6 => ?_)
  ·refine l_ev hf ⟨_, _, rfl, rfl, hg6⟩ rfl rfl (ev_fieldB hf rfl fd_30_0 (m := 0) rfl) ?_; intro a hf
   refine l_ev hf ⟨_, _, rfl, rfl, hg6⟩ rfl rfl (ev_load1 hf rfl t1_3 (hB4.at 0)) ?_; intro a hf
   refine l_eff hf ⟨_, _, rfl, rfl, hg6⟩ rfl rfl (ef_call (vs := [.int .i64 r.pos, .int .i64 0, .int .i64 400]) hf rfl ff_91 (F91 _ r.pos 0 400)) ?_; rintro a _ _ ⟨rfl, rfl⟩ hf
   refine l_ev hf trivial rfl rfl (ev_pickT hf rfl hg6 rfl) ?_; intro a hf
   refine l_ev hf trivial rfl rfl (ev_move hf rfl) ?_; intro a hf
   refine g_split hf (t := 12) rfl (fun hg7 => ?_) (fun hg7 => ?_)
   ·refine l_ev hf ⟨_, _, rfl, rfl, hg7⟩ rfl rfl (ev_fieldB hf rfl fd_30_1 (m := 1) rfl) ?_; intro a hf
    refine l_ev hf ⟨_, _, rfl, rfl, hg7⟩ rfl rfl (ev_load1 hf rfl t1_28 (hB4.at 1)) ?_; intro a hf
    refine l_ev hf ⟨_, _, rfl, rfl, hg7⟩ rfl rfl (ev_len hf rfl sl_28) ?_; intro a hf
    refine l_ev hf ⟨_, _, rfl, rfl, hg7⟩ rfl rfl (ev_leq hf rfl rfl) ?_; intro a hf
    refine l_ev hf trivial rfl rfl (ev_pickT hf rfl hg7 rfl) ?_; intro a hf
    refine l_ev hf trivial rfl rfl (ev_move hf rfl) ?_; intro a hf
    refine g_split hf (t := 18) rfl (fun hg8 => ?_) (fun hg8 => ?_)
    ·refine l_ev hf ⟨_, _, rfl, rfl, hg8⟩ rfl rfl (ev_fieldB hf rfl fd_30_2 (m := 2) rfl) ?_; intro a hf
     refine l_ev hf ⟨_, _, rfl, rfl, hg8⟩ rfl rfl (ev_load1 hf rfl t1_28 (hB4.at 2)) ?_; intro a hf
     refine l_ev hf ⟨_, _, rfl, rfl, hg8⟩ rfl rfl (ev_len hf rfl sl_28) ?_; intro a hf
     refine l_ev hf ⟨_, _, rfl, rfl, hg8⟩ rfl rfl (ev_leq hf rfl rfl) ?_; intro a hf
     refine l_ev hf trivial rfl rfl (ev_pickT hf rfl hg8 rfl) ?_; intro a hf
     refine l_ev hf trivial rfl rfl (ev_move hf rfl) ?_; intro a hf
     refine g_split hf (t := 24) rfl (fun hg9 => ?_) (fun hg9 => ?_)
     ·refine l_ev hf ⟨_, _, rfl, rfl, hg9⟩ rfl rfl (ev_move hf rfl) ?_; intro a hf
      refine l_ev hf ⟨_, _, rfl, rfl, hg9⟩ rfl rfl (ev_fieldB hf rfl fd_30_1 (m := 1) rfl) ?_; intro a hf
      refine l_ev hf ⟨_, _, rfl, rfl, hg9⟩ rfl rfl (ev_load1 hf rfl t1_28 (hB4.at 1)) ?_; intro a hf
      refine l_eff hf ⟨_, _, rfl, rfl, hg9⟩ rfl rfl (ef_call (vs := [.int .i64 n, .slice Ar r.old.length cr]) hf rfl ff_92 (F92 _ n Ar cr r.old hr_r.top hla)) ?_; rintro a _ w2 ⟨rfl, hE⟩ hf
      replace hB4 := hB4.below hE
      replace hr_r := hr_r.below hE
      replace hs_r := hs_r.below hE
      replace hW := hW.trans (hE.mono hW.size)
      replace hEc := hEc.trans (hE.mono hEc.size)
      clear hE
      refine l_ev hf trivial rfl rfl (ev_pickT hf rfl hg9 rfl) ?_; intro a hf
      refine l_ev hf trivial rfl rfl (ev_move hf rfl) ?_; intro a hf
      refine g_split hf (t := 30) rfl (fun hg10 => ?_) (fun hg10 => ?_)
      ·refine l_ev hf ⟨_, _, rfl, rfl, hg10⟩ rfl rfl (ev_move hf rfl) ?_; intro a hf
       refine l_ev hf ⟨_, _, rfl, rfl, hg10⟩ rfl rfl (ev_fieldB hf rfl fd_30_2 (m := 2) rfl) ?_; intro a hf
       refine l_ev hf ⟨_, _, rfl, rfl, hg10⟩ rfl rfl (ev_load1 hf rfl t1_28 (hB4.at 2)) ?_; intro a hf
       refine l_eff hf ⟨_, _, rfl, rfl, hg10⟩ rfl rfl (ef_call (vs := [.int .i64 n, .slice Br r.new.length dr]) hf rfl ff_92 (F92 _ n Br dr r.new hs_r.top hlb)) ?_; rintro a _ w3 ⟨rfl, hE⟩ hf
       replace hB4 := hB4.below hE
       replace hr_r := hr_r.below hE
       replace hs_r := hs_r.below hE
       replace hW := hW.trans (hE.mono hW.size)
       replace hEc := hEc.trans (hE.mono hEc.size)
       clear hE
       refine l_ev hf trivial rfl rfl (ev_pickT hf rfl hg10 rfl) ?_; intro a hf
       refine l_ev hf trivial rfl rfl (ev_assign hf rfl) ?_; intro a hf
       refine wpList_nil ?_
       have hEE : Below w1.heap.size w1 w3 := hEc
       exact ⟨hf.sub ⟨look_bool rfl (by first | rfl | simp [hg6, hg7, hg8, hg9, hg10]), trivial⟩, hEE⟩
      ·refine l_pass hf ⟨_, _, rfl, rfl, hg10⟩ rfl rfl ?_; intro a hf
       refine l_pass hf ⟨_, _, rfl, rfl, hg10⟩ rfl rfl ?_; intro a hf
       refine l_pass hf ⟨_, _, rfl, rfl, hg10⟩ rfl rfl ?_; intro a hf
       refine l_pass hf ⟨_, _, rfl, rfl, hg10⟩ rfl rfl ?_; intro a hf
       refine l_ev hf trivial rfl rfl (ev_pickF hf rfl hg10 rfl) ?_; intro a hf
       refine l_ev hf trivial rfl rfl (ev_assign hf rfl) ?_; intro a hf
       refine wpList_nil ?_
       have hEE : Below w1.heap.size w1 w2 := hEc
       exact ⟨hf.sub ⟨look_bool rfl (by first | rfl | simp [hg6, hg7, hg8, hg9, hg10]), trivial⟩, hEE⟩
     ·refine l_pass hf ⟨_, _, rfl, rfl, hg9⟩ rfl rfl ?_; intro a hf
      refine l_pass hf ⟨_, _, rfl, rfl, hg9⟩ rfl rfl ?_; intro a hf
      refine l_pass hf ⟨_, _, rfl, rfl, hg9⟩ rfl rfl ?_; intro a hf
      refine l_pass hf ⟨_, _, rfl, rfl, hg9⟩ rfl rfl ?_; intro a hf
      refine l_ev hf trivial rfl rfl (ev_pickF hf rfl hg9 rfl) ?_; intro a hf
      refine l_ev hf trivial rfl rfl (ev_move hf rfl) ?_; intro a hf
      refine l_pass hf ⟨_, _, rfl, rfl, rfl⟩ rfl rfl ?_; intro a hf
      refine l_pass hf ⟨_, _, rfl, rfl, rfl⟩ rfl rfl ?_; intro a hf
      refine l_pass hf ⟨_, _, rfl, rfl, rfl⟩ rfl rfl ?_; intro a hf
      refine l_pass hf ⟨_, _, rfl, rfl, rfl⟩ rfl rfl ?_; intro a hf
      refine l_ev hf trivial rfl rfl (ev_pickF hf rfl rfl rfl) ?_; intro a hf
      refine l_ev hf trivial rfl rfl (ev_assign hf rfl) ?_; intro a hf
      refine wpList_nil ?_
      have hEE : Below w1.heap.size w1 w1 := hEc
      exact ⟨hf.sub ⟨look_bool rfl (by first | rfl | simp [hg6, hg7, hg8, hg9]), trivial⟩, hEE⟩
    ·refine l_pass hf ⟨_, _, rfl, rfl, hg8⟩ rfl rfl ?_; intro a hf
     refine l_pass hf ⟨_, _, rfl, rfl, hg8⟩ rfl rfl ?_; intro a hf
     refine l_pass hf ⟨_, _, rfl, rfl, hg8⟩ rfl rfl ?_; intro a hf
     refine l_pass hf ⟨_, _, rfl, rfl, hg8⟩ rfl rfl ?_; intro a hf
     refine l_ev hf trivial rfl rfl (ev_pickF hf rfl hg8 rfl) ?_; intro a hf
     refine l_ev hf trivial rfl rfl (ev_move hf rfl) ?_; intro a hf
     refine l_pass hf ⟨_, _, rfl, rfl, rfl⟩ rfl rfl ?_; intro a hf
     refine l_pass hf ⟨_, _, rfl, rfl, rfl⟩ rfl rfl ?_; intro a hf
     refine l_pass hf ⟨_, _, rfl, rfl, rfl⟩ rfl rfl ?_; intro a hf
     refine l_pass hf ⟨_, _, rfl, rfl, rfl⟩ rfl rfl ?_; intro a hf
     refine l_ev hf trivial rfl rfl (ev_pickF hf rfl rfl rfl) ?_; intro a hf
     refine l_ev hf trivial rfl rfl (ev_move hf rfl) ?_; intro a hf
     refine l_pass hf ⟨_, _, rfl, rfl, rfl⟩ rfl rfl ?_; intro a hf
     refine l_pass hf ⟨_, _, rfl, rfl, rfl⟩ rfl rfl ?_; intro a hf
     refine l_pass hf ⟨_, _, rfl, rfl, rfl⟩ rfl rfl ?_; intro a hf
     refine l_pass hf ⟨_, _, rfl, rfl, rfl⟩ rfl rfl ?_; intro a hf
     refine l_ev hf trivial rfl rfl (ev_pickF hf rfl rfl rfl) ?_; intro a hf
     refine l_ev hf trivial rfl rfl (ev_assign hf rfl) ?_; intro a hf
     refine wpList_nil ?_
     have hEE : Below w1.heap.size w1 w1 := hEc
     exact ⟨hf.sub ⟨look_bool rfl (by first | rfl | simp [hg6, hg7, hg8]), trivial⟩, hEE⟩
   ·refine l_pass hf ⟨_, _, rfl, rfl, hg7⟩ rfl rfl ?_; intro a hf
    refine l_pass hf ⟨_, _, rfl, rfl, hg7⟩ rfl rfl ?_; intro a hf
    refine l_pass hf ⟨_, _, rfl, rfl, hg7⟩ rfl rfl ?_; intro a hf
    refine l_pass hf ⟨_, _, rfl, rfl, hg7⟩ rfl rfl ?_; intro a hf
    refine l_ev hf trivial rfl rfl (ev_pickF hf rfl hg7 rfl) ?_; intro a hf
    refine l_ev hf trivial rfl rfl (ev_move hf rfl) ?_; intro a hf
    refine l_pass hf ⟨_, _, rfl, rfl, rfl⟩ rfl rfl ?_; intro a hf
    refine l_pass hf ⟨_, _, rfl, rfl, rfl⟩ rfl rfl ?_; intro a hf
    refine l_pass hf ⟨_, _, rfl, rfl, rfl⟩ rfl rfl ?_; intro a hf
    refine l_pass hf ⟨_, _, rfl, rfl, rfl⟩ rfl rfl ?_; intro a hf
    refine l_ev hf trivial rfl rfl (ev_pickF hf rfl rfl rfl) ?_; intro a hf
    refine l_ev hf trivial rfl rfl (ev_move hf rfl) ?_; intro a hf
    refine l_pass hf ⟨_, _, rfl, rfl, rfl⟩ rfl rfl ?_; intro a hf
    refine l_pass hf ⟨_, _, rfl, rfl, rfl⟩ rfl rfl ?_; intro a hf
    refine l_pass hf ⟨_, _, rfl, rfl, rfl⟩ rfl rfl ?_; intro a hf
    refine l_pass hf ⟨_, _, rfl, rfl, rfl⟩ rfl rfl ?_; intro a hf
    refine l_ev hf trivial rfl rfl (ev_pickF hf rfl rfl rfl) ?_; intro a hf
    refine l_ev hf trivial rfl rfl (ev_move hf rfl) ?_; intro a hf
    refine l_pass hf ⟨_, _, rfl, rfl, rfl⟩ rfl rfl ?_; intro a hf
    refine l_pass hf ⟨_, _, rfl, rfl, rfl⟩ rfl rfl ?_; intro a hf
    refine l_pass hf ⟨_, _, rfl, rfl, rfl⟩ rfl rfl ?_; intro a hf
    refine l_pass hf ⟨_, _, rfl, rfl, rfl⟩ rfl rfl ?_; intro a hf
    refine l_ev hf trivial rfl rfl (ev_pickF hf rfl rfl rfl) ?_; intro a hf
    refine l_ev hf trivial rfl rfl (ev_assign hf rfl) ?_; intro a hf
    refine wpList_nil ?_
    have hEE : Below w1.heap.size w1 w1 := hEc
    exact ⟨hf.sub ⟨look_bool rfl (by first | rfl | simp [hg6, hg7]), trivial⟩, hEE⟩
  ·refine l_pass hf ⟨_, _, rfl, rfl, hg6⟩ rfl rfl ?_; intro a hf
   refine l_pass hf ⟨_, _, rfl, rfl, hg6⟩ rfl rfl ?_; intro a hf
   refine l_pass hf ⟨_, _, rfl, rfl, hg6⟩ rfl rfl ?_; intro a hf
   refine l_ev hf trivial rfl rfl (ev_pickF hf rfl hg6 rfl) ?_; intro a hf
   refine l_ev hf trivial rfl rfl (ev_move hf rfl) ?_; intro a hf
   refine l_pass hf ⟨_, _, rfl, rfl, rfl⟩ rfl rfl ?_; intro a hf
   refine l_pass hf ⟨_, _, rfl, rfl, rfl⟩ rfl rfl ?_; intro a hf
   refine l_pass hf ⟨_, _, rfl, rfl, rfl⟩ rfl rfl ?_; intro a hf
   refine l_pass hf ⟨_, _, rfl, rfl, rfl⟩ rfl rfl ?_; intro a hf
   refine l_ev hf trivial rfl rfl (ev_pickF hf rfl rfl rfl) ?_; intro a hf
   refine l_ev hf trivial rfl rfl (ev_move hf rfl) ?_; intro a hf
   refine l_pass hf ⟨_, _, rfl, rfl, rfl⟩ rfl rfl ?_; intro a hf
   refine l_pass hf ⟨_, _, rfl, rfl, rfl⟩ rfl rfl ?_; intro a hf
   refine l_pass hf ⟨_, _, rfl, rfl, rfl⟩ rfl rfl ?_; intro a hf
   refine l_pass hf ⟨_, _, rfl, rfl, rfl⟩ rfl rfl ?_; intro a hf
   refine l_ev hf trivial rfl rfl (ev_pickF hf rfl rfl rfl) ?_; intro a hf
   refine l_ev hf trivial rfl rfl (ev_move hf rfl) ?_; intro a hf
   refine l_pass hf ⟨_, _, rfl, rfl, rfl⟩ rfl rfl ?_; intro a hf
   refine l_pass hf ⟨_, _, rfl, rfl, rfl⟩ rfl rfl ?_; intro a hf
   refine l_pass hf ⟨_, _, rfl, rfl, rfl⟩ rfl rfl ?_; intro a hf
   refine l_pass hf ⟨_, _, rfl, rfl, rfl⟩ rfl rfl ?_; intro a hf
   refine l_ev hf trivial rfl rfl (ev_pickF hf rfl rfl rfl) ?_; intro a hf
   refine l_ev hf trivial rfl rfl (ev_move hf rfl) ?_; intro a hf
   refine l_pass hf ⟨_, _, rfl, rfl, rfl⟩ rfl rfl ?_; intro a hf
   refine l_pass hf ⟨_, _, rfl, rfl, rfl⟩ rfl rfl ?_; intro a hf
   refine l_pass hf ⟨_, _, rfl, rfl, rfl⟩ rfl rfl ?_; intro a hf
   refine l_pass hf ⟨_, _, rfl, rfl, rfl⟩ rfl rfl ?_; intro a hf
   refine l_ev hf trivial rfl rfl (ev_pickF hf rfl rfl rfl) ?_; intro a hf
   refine l_ev hf trivial rfl rfl (ev_assign hf rfl) ?_; intro a hf
   refine wpList_nil ?_
   have hEE : Below w1.heap.size w1 w1 := hEc
   exact ⟨hf.sub ⟨look_bool rfl (by first | rfl | simp [hg6]), trivial⟩, hEE⟩
 rintro a w4 ⟨hf, hE⟩
 replace hB4 := hB4.below hE
 replace hr_r := hr_r.below hE
 replace hs_r := hs_r.below hE
 replace hW := hW.trans (hE.mono hW.size)
 clear hE
 refine hK5 _ _ ?_; try clear hK5 K5
 refine wp_ret ?_
 refine c_ret hf (res1 hf rfl rfl) ?_
 exact ⟨by simp only [vrI], hW⟩
end Go.Proofs.YtfgnmflfiobkmaaGreat
set_option maxRecDepth 4000
namespace Go.Proofs.YtfgnmflfiobkmaaGreat
open Go.RowKit
theorem F137 (w0 : World) (c : Cx) (Ac : Option Addr) (cc : Nat) (hr_c : Rd w0 w0.heap.size 107 encG Ac c.gs) (m : Mx) (Am : Option Addr) (cm : Nat) (hr_m : Rd w0 w0.heap.size 189 encD Am m.cells) (hc : cOk c = true) (hm : mOk m = true) (hr : m.rows = ((2 ^ c.n.toNat : Nat) : Int)) : Ret Tryz.prog 137 [.agg #[.int .i64 c.n, .slice Ac c.gs.length cc], .agg #[.int .i64 m.rows, .int .i64 m.cols, .slice Am m.cells.length cm], .bool true] w0 (fun v w => ∃ A c1, v = .tuple #[mV A c1 ((applI c.n c.gs m).getD mZ), .bool (applI c.n c.gs m).isSome] ∧ Rd w w.heap.size 189 encD A ((applI c.n c.gs m).getD mZ).cells ∧ Below w0.heap.size w0 w) := by
 obtain ⟨hn, hlen, hgs⟩ := cOk_spec hc
 refine enter Tryz.func137 rfl 40 rfl rfl ?_
 intro a hf
 have hW : Below w0.heap.size w0 w0 := Below.refl _ _
 refine wp_seq_k ?_; intro K3 hK3
 refine wp_region_lit ?_
 refine l_eff hf trivial rfl rfl (ef_box (zs := [.int .i64 c.n, .slice Ac c.gs.length cc]) hf rfl rfl) ?_; rintro a _ w1 ⟨b4, rfl, hl4, hE, hB4⟩ hf
 have hlo4 := Nat.le_trans hW.size hl4
 replace hr_c := hr_c.below hE
 replace hr_m := hr_m.below hE
 replace hW := hW.trans (hE.mono hW.size)
 clear hE
 refine l_eff hf trivial rfl rfl (ef_box (zs := [.int .i64 m.rows, .int .i64 m.cols, .slice Am m.cells.length cm]) hf rfl rfl) ?_; rintro a _ w2 ⟨b5, rfl, hl5, hE, hB5⟩ hf
 have hlo5 := Nat.le_trans hW.size hl5
 replace hB4 := hB4.below hE
 replace hr_c := hr_c.below hE
 replace hr_m := hr_m.below hE
 replace hW := hW.trans (hE.mono hW.size)
 clear hE
 refine l_eff hf trivial rfl rfl (ef_alloc (zs := [.int .i64 0, .int .i64 0, .slice none 0 0]) z_141 rfl) ?_; rintro a _ w3 ⟨b7, rfl, hl7, hE, hB7⟩ hf
 have hne5_7 : b5 ≠ b7 := by have := hB5.lt; omega
 have hlo7 := Nat.le_trans hW.size hl7
 replace hB4 := hB4.below hE
 replace hB5 := hB5.below hE
 replace hr_c := hr_c.below hE
 replace hr_m := hr_m.below hE
 replace hW := hW.trans (hE.mono hW.size)
 clear hE
 refine l_ev hf trivial rfl rfl (ev_assign hf rfl) ?_; intro a hf
 refine wpList_nil ?_
 refine hK3 _ _ ?_; try clear hK3 K3
 refine wp_seq_k ?_; intro K8 hK8
 refine wp_seq_k ?_; intro K9 hK9
 refine wp_region_lit ?_
 refine l_ev hf trivial rfl rfl (ev_assign hf rfl) ?_; intro a hf
 refine wpList_nil ?_
 refine hK9 _ _ ?_; try clear hK9 K9
 refine wp_block ?_
 refine c_loop (σ := Nat × Mx × Bool) (fun (s : Nat × Mx × Bool) (a : Act) (w : World) => match s with | (i, x, b) => ∃ A10 c10, Fr a 40 [(2, .bool b), (3, .pointer (some ⟨b4, 0, none⟩)), (4, .pointer (some ⟨b5, 0, none⟩)), (6, .pointer (some ⟨b7, 0, none⟩)), (8, .int .i64 (i : Int))] ∧ ((if b = true then applI c.n (c.gs.drop i) x else none) = (applI c.n c.gs m)) ∧ (b = false → x = mZ) ∧ (b = true → mOk x = true ∧ x.rows = ((2 ^ c.n.toNat : Nat) : Int)) ∧ (i ≤ c.gs.length) ∧ Blk w b4 41 [.int .i64 c.n, .slice Ac c.gs.length cc] ∧ Blk w b5 141 [.int .i64 x.rows, .int .i64 x.cols, .slice A10 x.cells.length c10] ∧ Blk w b7 141 [.int .i64 0, .int .i64 0, .slice none 0 0] ∧ Rd w w0.heap.size 107 encG Ac c.gs ∧ Rd w w.heap.size 189 encD A10 x.cells ∧ Below w0.heap.size w0 w) (fun (s : Nat × Mx × Bool) => match s with | (i, x, b) => c.gs.length - i) (0, m, true) ?_ ?_
 · exact ⟨Am, cm, hf.sub ⟨rfl, rfl, rfl, rfl, rfl, trivial⟩, rfl, (by simp), (fun _ => ⟨hm, hr⟩), (Nat.zero_le _), hB4, hB5, hB7, hr_c, hr_m.top, hW⟩
 rintro ⟨i, x, b⟩ a w4 ⟨A10, c10, hf, hinv, hz, hok, hi, hB4, hB5, hB7, hr_c, hr10, hW⟩
 refine wp_seq_k ?_; intro K11 hK11
 refine wp_seq_k ?_; intro K12 hK12
 refine c_cut (fun a w => Fr a 40 [(2, .bool b), (3, .pointer (some ⟨b4, 0, none⟩)), (4, .pointer (some ⟨b5, 0, none⟩)), (6, .pointer (some ⟨b7, 0, none⟩)), (8, .int .i64 (i : Int)), (18, .bool ((decide ((i : Int) < (c.gs.length : Int))) && b))] ∧ w4 = w) ?_ ?_
 ·refine wp_region_lit ?_
  refine l_ev hf trivial rfl rfl (ev_move hf rfl) ?_; intro a hf
  refine l_ev hf trivial rfl rfl (ev_fieldB hf rfl fd_41_1 (m := 1) rfl) ?_; intro a hf
  refine l_ev hf trivial rfl rfl (ev_load1 hf rfl t1_28 (hB4.at 1)) ?_; intro a hf
  refine l_ev hf trivial rfl rfl (ev_len hf rfl sl_28) ?_; intro a hf
  refine l_ev hf trivial rfl rfl (ev_lss hf rfl rfl) ?_; intro a hf
  refine l_ev hf trivial rfl rfl (ev_move hf rfl) ?_; intro a hf
  refine g_split hf (t := 16) rfl (fun hg13 => ?_) (fun hg13 => ?_)
  ·refine l_ev hf ⟨_, _, rfl, rfl, hg13⟩ rfl rfl (ev_move hf rfl) ?_; intro a hf
   refine l_ev hf trivial rfl rfl (ev_pickT hf rfl hg13 rfl) ?_; intro a hf
   refine wpList_nil ?_
   exact ⟨hf.sub ⟨rfl, rfl, rfl, rfl, rfl, look_bool rfl (by first | rfl | (simp only [hg13, Bool.true_and, Bool.false_and, Bool.true_or, Bool.false_or]; done) | simp [hg13]), trivial⟩, rfl⟩
  ·refine l_pass hf ⟨_, _, rfl, rfl, hg13⟩ rfl rfl ?_; intro a hf
   refine l_ev hf trivial rfl rfl (ev_pickF hf rfl hg13 rfl) ?_; intro a hf
   refine wpList_nil ?_
   exact ⟨hf.sub ⟨rfl, rfl, rfl, rfl, rfl, look_bool rfl (by first | rfl | (simp only [hg13, Bool.true_and, Bool.false_and, Bool.true_or, Bool.false_or]; done) | simp [hg13]), trivial⟩, rfl⟩
 rintro a _ ⟨hf, rfl⟩
 refine hK12 _ _ ?_; try clear hK12 K12
 refine c_if hf rfl (fun hc14 => ?_) (fun hc14 => ?_)
 ·have hc14b := hc14
  have hlt : (i : Int) < c.gs.length ∧ b = true := by simpa using hc14
  have hb1 := hlt.2
  obtain ⟨u, hu⟩ := getElem_ex (l := c.gs) (k := i) (by omega)
  have hgu := hgs u (List.mem_of_getElem? hu)
  obtain ⟨hg1, hg2⟩ := gate_eq hgu
  have hma := mul_agree hg2 (hok hb1).1 (by rw [(hok hb1).2]; rfl)
  have hdr := drop_get hu
  refine wp_skip ?_
  refine hK11 _ _ ?_; try clear hK11 K11
  refine wp_seq_k ?_; intro K15 hK15
  refine wp_block ?_
  refine wp_seq_k ?_; intro K16 hK16
  refine c_cut (fun a w => ∃ b21 A19 c19, Fr a 40 [(3, .pointer (some ⟨b4, 0, none⟩)), (4, .pointer (some ⟨b5, 0, none⟩)), (6, .pointer (some ⟨b7, 0, none⟩)), (8, .int .i64 (i : Int)), (9, .pointer (some ⟨b21, 0, none⟩))] ∧ w0.heap.size ≤ b21 ∧ Blk w b21 141 [.int .i64 (((gateI c.n u).getD mZ).rows), .int .i64 (((gateI c.n u).getD mZ).cols), .slice A19 (((gateI c.n u).getD mZ).cells).length c19] ∧ b5 ≠ b21 ∧ b7 ≠ b21 ∧ Own w w0.heap.size 189 5 encD A19 c19 (((gateI c.n u).getD mZ).cells) ∧ Below w4.heap.size w4 w) ?_ ?_
  ·have hEc : Below w4.heap.size w4 w4 := Below.refl _ _
   refine wp_draw none (fun j => [12].contains j) mixed ?_
   intro w5 hE
   replace hB4 := hB4.below hE
   replace hB5 := hB5.below hE
   replace hB7 := hB7.below hE
   replace hr_c := hr_c.below hE
   replace hr10 := hr10.below hE
   replace hW := hW.trans (hE.mono hW.size)
   replace hEc := hEc.trans (hE.mono hEc.size)
   clear hE
   refine s_ev0 0 rfl (by kernel_rfl) hf trivial rfl rfl (fun _ => ev_fieldB hf rfl fd_41_0 (m := 0) rfl) ?_; intro a hf
   refine s_ev 1 rfl (by kernel_rfl) (by kernel_rfl) hf trivial rfl rfl (ev_load1 hf rfl t1_3 (hB4.at 0)) ?_; intro a hf
   refine s_ev0 2 rfl (by kernel_rfl) hf trivial rfl rfl (fun _ => ev_fieldB hf rfl fd_41_1 (m := 1) rfl) ?_; intro a hf
   refine s_ev 3 rfl (by kernel_rfl) (by kernel_rfl) hf trivial rfl rfl (ev_load1 hf rfl t1_28 (hB4.at 1)) ?_; intro a hf
   refine s_ev0 4 rfl (by kernel_rfl) hf trivial rfl rfl (fun _ => ev_move hf rfl) ?_; intro a hf
   refine s_index (k := i) (u := u) (enc := encG) (l := c.gs) 5 rfl (by kernel_rfl) (by kernel_rfl) hf trivial rfl rfl rfl sl_28 sz_107 encG_len hr_c hu rfl ?_; intro a p18 hat17 hf
   refine s_ev 6 rfl (by kernel_rfl) (by kernel_rfl) hf trivial rfl rfl (ev_loadN (l := [.int .i64 u.k, .int .i64 u.a, .int .i64 u.b]) hf rfl tN_107 hat17 rfl) ?_; intro a hf
   refine s_two 7 11 (by kernel_rfl) ?_ ?_
   ·refine p_eff rfl hf trivial rfl rfl (Ef.mono (ef_call (vs := [.int .i64 c.n, .agg #[.int .i64 u.k, .int .i64 u.a, .int .i64 u.b]]) hf rfl ff_188 (F188 _ c.n u)) (fun _ _ h => ⟨fun _ => by obtain ⟨A19, c19, rfl, ho19, hE⟩ := h; exact hE, h⟩)) ?_; rintro a _ w6 ⟨A19, c19, rfl, ho19, hE⟩ hf
    replace ho19 := ho19.lower hW.size
    replace hB4 := hB4.below hE
    replace hB5 := hB5.below hE
    replace hB7 := hB7.below hE
    replace hr_c := hr_c.below hE
    replace hr10 := hr10.below hE
    replace hW := hW.trans (hE.mono hW.size)
    replace hEc := hEc.trans (hE.mono hEc.size)
    clear hE
    refine s_ev0 8 rfl (by kernel_rfl) hf trivial rfl rfl (fun _ => ev_move hf rfl) ?_; intro a hf
    refine s_ev0 9 rfl (by kernel_rfl) hf trivial rfl rfl (fun _ => ev_extract (vs := [.agg #[.int .i64 (((gateI c.n u).getD mZ).rows), .int .i64 (((gateI c.n u).getD mZ).cols), .slice A19 (((gateI c.n u).getD mZ).cells).length c19], .bool ((gateI c.n u).isSome)]) hf rfl rfl) ?_; intro a hf
    refine s_ev0 10 rfl (by kernel_rfl) hf trivial rfl rfl (fun _ => ev_extract (vs := [.agg #[.int .i64 (((gateI c.n u).getD mZ).rows), .int .i64 (((gateI c.n u).getD mZ).cols), .slice A19 (((gateI c.n u).getD mZ).cells).length c19], .bool ((gateI c.n u).isSome)]) hf rfl rfl) ?_; intro a hf
    refine s_one 11 (by kernel_rfl) ?_
    refine p_eff rfl hf trivial rfl rfl (Ef.mono (ef_alloc (zs := [.int .i64 0, .int .i64 0, .slice none 0 0]) z_141 rfl) (fun _ _ h => ⟨fun _ => by obtain ⟨_, _, _, hE, _⟩ := h; exact hE, h⟩)) ?_; rintro a _ w7 ⟨b21, rfl, hl21, hE, hB21⟩ hf
    have hne5_21 : b5 ≠ b21 := by have := hB5.lt; omega
    have hne7_21 : b7 ≠ b21 := by have := hB7.lt; omega
    have hlo21 := Nat.le_trans hW.size hl21
    have hlc21 := Nat.le_trans hEc.size hl21
    replace hB4 := hB4.below hE
    replace hB5 := hB5.below hE
    replace hB7 := hB7.below hE
    replace hr_c := hr_c.below hE
    replace hr10 := hr10.below hE
    replace ho19 := ho19.below hE
    replace hW := hW.trans (hE.mono hW.size)
    replace hEc := hEc.trans (hE.mono hEc.size)
    clear hE
    refine s_one 12 (by kernel_rfl) ?_
    refine p_eff0 rfl hf trivial rfl (Ef.mono (ef_store (vs := [.int .i64 (((gateI c.n u).getD mZ).rows), .int .i64 (((gateI c.n u).getD mZ).cols), .slice A19 (((gateI c.n u).getD mZ).cells).length c19]) (l' := [.int .i64 (((gateI c.n u).getD mZ).rows), .int .i64 (((gateI c.n u).getD mZ).cols), .slice A19 (((gateI c.n u).getD mZ).cells).length c19]) hf rfl rfl sz_141 hB21 rfl rfl rfl rfl rfl) (fun _ _ h => ⟨fun h0 => absurd h0 (by decide), h⟩)) ?_; rintro a _ w8 ⟨ho, hb⟩ hf
    have hold := hB21
    replace hB4 := hB4.only ho (Blk.ne hB4 hold rfl)
    replace hB5 := hB5.only ho (by omega)
    replace hB7 := hB7.only ho (by omega)
    replace hr_c := hr_c.onlyT ho hold rfl
    replace hr10 := hr10.onlyT ho hold rfl
    replace ho19 := ho19.onlyT ho hold rfl
    replace hEc := Below.only hEc ho hlc21
    replace hW := Below.only hW ho hlo21
    clear hold
    have hB21 := hb
    clear hb ho
    refine s_ev0 13 rfl (by kernel_rfl) hf trivial rfl rfl (fun _ => ev_assign hf rfl) ?_; intro a hf
    refine s_done (by kernel_rfl) ?_
    have hEE : Below w4.heap.size w4 w8 := hEc
    exact ⟨b21, A19, c19, hf.sub ⟨rfl, rfl, rfl, rfl, rfl, trivial⟩, hlo21, hB21, hne5_21, hne7_21, ho19, hEE⟩
   ·refine p_eff rfl hf trivial rfl rfl (Ef.mono (ef_alloc (zs := [.int .i64 0, .int .i64 0, .slice none 0 0]) z_141 rfl) (fun _ _ h => ⟨fun _ => by obtain ⟨_, _, _, hE, _⟩ := h; exact hE, h⟩)) ?_; rintro a _ w9 ⟨b23, rfl, hl23, hE, hB23⟩ hf
    have hne5_23 : b5 ≠ b23 := by have := hB5.lt; omega
    have hne7_23 : b7 ≠ b23 := by have := hB7.lt; omega
    have hlo23 := Nat.le_trans hW.size hl23
    have hlc23 := Nat.le_trans hEc.size hl23
    replace hB4 := hB4.below hE
    replace hB5 := hB5.below hE
    replace hB7 := hB7.below hE
    replace hr_c := hr_c.below hE
    replace hr10 := hr10.below hE
    replace hW := hW.trans (hE.mono hW.size)
    replace hEc := hEc.trans (hE.mono hEc.size)
    clear hE
    refine s_one 7 (by kernel_rfl) ?_
    refine p_eff rfl hf trivial rfl rfl (Ef.mono (ef_call (vs := [.int .i64 c.n, .agg #[.int .i64 u.k, .int .i64 u.a, .int .i64 u.b]]) hf rfl ff_188 (F188 _ c.n u)) (fun _ _ h => ⟨fun _ => by obtain ⟨A24, c24, rfl, ho24, hE⟩ := h; exact hE, h⟩)) ?_; rintro a _ w10 ⟨A24, c24, rfl, ho24, hE⟩ hf
    replace ho24 := ho24.lower hW.size
    replace hB4 := hB4.below hE
    replace hB5 := hB5.below hE
    replace hB7 := hB7.below hE
    replace hB23 := hB23.below hE
    replace hr_c := hr_c.below hE
    replace hr10 := hr10.below hE
    replace hW := hW.trans (hE.mono hW.size)
    replace hEc := hEc.trans (hE.mono hEc.size)
    clear hE
    refine s_ev0 8 rfl (by kernel_rfl) hf trivial rfl rfl (fun _ => ev_move hf rfl) ?_; intro a hf
    refine s_ev0 9 rfl (by kernel_rfl) hf trivial rfl rfl (fun _ => ev_extract (vs := [.agg #[.int .i64 (((gateI c.n u).getD mZ).rows), .int .i64 (((gateI c.n u).getD mZ).cols), .slice A24 (((gateI c.n u).getD mZ).cells).length c24], .bool ((gateI c.n u).isSome)]) hf rfl rfl) ?_; intro a hf
    refine s_ev0 10 rfl (by kernel_rfl) hf trivial rfl rfl (fun _ => ev_extract (vs := [.agg #[.int .i64 (((gateI c.n u).getD mZ).rows), .int .i64 (((gateI c.n u).getD mZ).cols), .slice A24 (((gateI c.n u).getD mZ).cells).length c24], .bool ((gateI c.n u).isSome)]) hf rfl rfl) ?_; intro a hf
    refine s_one 12 (by kernel_rfl) ?_
    refine p_eff0 rfl hf trivial rfl (Ef.mono (ef_store (vs := [.int .i64 (((gateI c.n u).getD mZ).rows), .int .i64 (((gateI c.n u).getD mZ).cols), .slice A24 (((gateI c.n u).getD mZ).cells).length c24]) (l' := [.int .i64 (((gateI c.n u).getD mZ).rows), .int .i64 (((gateI c.n u).getD mZ).cols), .slice A24 (((gateI c.n u).getD mZ).cells).length c24]) hf rfl rfl sz_141 hB23 rfl rfl rfl rfl rfl) (fun _ _ h => ⟨fun h0 => absurd h0 (by decide), h⟩)) ?_; rintro a _ w11 ⟨ho, hb⟩ hf
    have hold := hB23
    replace hB4 := hB4.only ho (Blk.ne hB4 hold rfl)
    replace hB5 := hB5.only ho (by omega)
    replace hB7 := hB7.only ho (by omega)
    replace hr_c := hr_c.onlyT ho hold rfl
    replace hr10 := hr10.onlyT ho hold rfl
    replace ho24 := ho24.onlyT ho hold rfl
    replace hEc := Below.only hEc ho hlc23
    replace hW := Below.only hW ho hlo23
    clear hold
    have hB23 := hb
    clear hb ho
    refine s_ev0 13 rfl (by kernel_rfl) hf trivial rfl rfl (fun _ => ev_assign hf rfl) ?_; intro a hf
    refine s_done (by kernel_rfl) ?_
    have hEE : Below w4.heap.size w4 w11 := hEc
    exact ⟨b23, A24, c24, hf.sub ⟨rfl, rfl, rfl, rfl, (by first | rfl | (simp [look, hc14b])), trivial⟩, hlo23, hB23, hne5_23, hne7_23, ho24, hEE⟩
  rintro a w12 ⟨b21, A19, c19, hf, hlo21, hB21, hne5_21, hne7_21, ho19, hE⟩
  replace hB4 := hB4.below hE
  replace hB5 := hB5.below hE
  replace hB7 := hB7.below hE
  replace hr_c := hr_c.below hE
  replace hr10 := hr10.below hE
  replace hW := hW.trans (hE.mono hW.size)
  clear hE
  refine hK16 _ _ ?_; try clear hK16 K16
  refine wp_region_lit ?_
  refine l_ev hf trivial rfl rfl (ev_loadN (l := [.int .i64 (((gateI c.n u).getD mZ).rows), .int .i64 (((gateI c.n u).getD mZ).cols), .slice A19 (((gateI c.n u).getD mZ).cells).length c19]) hf rfl tN_141 (hB21.at 0) rfl) ?_; intro a hf
  refine l_ev hf trivial rfl rfl (ev_loadN (l := [.int .i64 x.rows, .int .i64 x.cols, .slice A10 x.cells.length c10]) hf rfl tN_141 (hB5.at 0) rfl) ?_; intro a hf
  refine l_eff hf trivial rfl rfl (ef_call (vs := [.agg #[.int .i64 (((gateI c.n u).getD mZ).rows), .int .i64 (((gateI c.n u).getD mZ).cols), .slice A19 (((gateI c.n u).getD mZ).cells).length c19], .agg #[.int .i64 x.rows, .int .i64 x.cols, .slice A10 x.cells.length c10]]) hf rfl ff_189 (F189 _ ((gateI c.n u).getD mZ) A19 c19 ho19.rd.top x A10 c10 hr10.top (by rw [hg1, Option.getD_some]; exact gate_len hn) (mOk_le (hok hb1).1))) ?_; rintro a _ w13 ⟨A25, c25, rfl, ho25, hE⟩ hf
  replace ho25 := ho25.lower hW.size
  replace hB4 := hB4.below hE
  replace hB5 := hB5.below hE
  replace hB7 := hB7.below hE
  replace hB21 := hB21.below hE
  replace hr_c := hr_c.below hE
  replace hr10 := hr10.below hE
  replace ho19 := ho19.below hE
  replace hW := hW.trans (hE.mono hW.size)
  clear hE
  refine l_ev hf trivial rfl rfl (ev_move hf rfl) ?_; intro a hf
  refine l_ev hf trivial rfl rfl (ev_extract (vs := [.agg #[.int .i64 (((mulI ((gateI c.n u).getD mZ) x).getD mZ).rows), .int .i64 (((mulI ((gateI c.n u).getD mZ) x).getD mZ).cols), .slice A25 (((mulI ((gateI c.n u).getD mZ) x).getD mZ).cells).length c25], .bool ((mulI ((gateI c.n u).getD mZ) x).isSome)]) hf rfl rfl) ?_; intro a hf
  refine l_ev hf trivial rfl rfl (ev_extract (vs := [.agg #[.int .i64 (((mulI ((gateI c.n u).getD mZ) x).getD mZ).rows), .int .i64 (((mulI ((gateI c.n u).getD mZ) x).getD mZ).cols), .slice A25 (((mulI ((gateI c.n u).getD mZ) x).getD mZ).cells).length c25], .bool ((mulI ((gateI c.n u).getD mZ) x).isSome)]) hf rfl rfl) ?_; intro a hf
  refine l_eff0 hf trivial rfl (ef_store (vs := [.int .i64 (((mulI ((gateI c.n u).getD mZ) x).getD mZ).rows), .int .i64 (((mulI ((gateI c.n u).getD mZ) x).getD mZ).cols), .slice A25 (((mulI ((gateI c.n u).getD mZ) x).getD mZ).cells).length c25]) (l' := [.int .i64 (((mulI ((gateI c.n u).getD mZ) x).getD mZ).rows), .int .i64 (((mulI ((gateI c.n u).getD mZ) x).getD mZ).cols), .slice A25 (((mulI ((gateI c.n u).getD mZ) x).getD mZ).cells).length c25]) hf rfl rfl sz_141 hB5 rfl rfl rfl rfl rfl) ?_; rintro a _ w14 ⟨ho, hb⟩ hf
  have hold := hB5
  replace hB4 := hB4.only ho (Blk.ne hB4 hold rfl)
  replace hB7 := hB7.only ho (by omega)
  replace hB21 := hB21.only ho (by omega)
  replace hr_c := hr_c.onlyT ho hold rfl
  replace hr10 := hr10.onlyT ho hold rfl
  replace ho19 := ho19.onlyT ho hold rfl
  replace ho25 := ho25.onlyT ho hold rfl
  replace hW := Below.only hW ho hlo5
  clear hold
  have hB5 := hb
  clear hb ho
  refine l_ev hf trivial rfl rfl (ev_assign hf rfl) ?_; intro a hf
  refine wpList_nil ?_
  refine x_norm ?_
  refine hK15 _ _ ?_; try clear hK15 K15
  refine wp_region_lit ?_
  refine l_ev hf trivial rfl rfl (ev_move hf rfl) ?_; intro a hf
  refine l_ev hf trivial rfl rfl (ev_addx hf rfl rfl (by omega) (by omega)) ?_; intro a hf
  refine l_ev hf trivial rfl rfl (ev_assign hf rfl) ?_; intro a hf
  refine wpList_nil ?_
  refine x_thenN ?_
  exact ⟨(i + 1, ((mulI ((gateI c.n u).getD mZ) x).getD mZ), (mulI ((gateI c.n u).getD mZ) x).isSome), ⟨A25, c25, hf.sub ⟨rfl, rfl, rfl, rfl, rfl, trivial⟩, (by rw [← hinv, if_pos hb1, hdr, applI]; cases mulI ((gateI c.n u).getD mZ) x <;> rfl), (by cases mulI ((gateI c.n u).getD mZ) x <;> simp), (by rw [hg1, Option.getD_some]; intro h0; cases h1 : mulI (gateS c.n u) x with | none => rw [h1] at h0; cases h0 | some x1 => exact ⟨(hma.1 x1 h1).2.1, by rw [Option.getD_some, (hma.1 x1 h1).2.2.1]; rfl⟩), (by omega), hB4, hB5, hB7, hr_c, ho25.rd, hW⟩, (by first | omega | (dsimp only; omega))⟩
 ·have hc14b := hc14
  have hend : b = true → ¬ (i : Int) < c.gs.length := by intro h0; subst h0; simpa using hc14
  refine wp_exit ?_
  refine x_exS ?_
  refine x_exS ?_
  refine x_exit ?_
  refine hK8 _ _ ?_; try clear hK8 K8
  refine wp_seq_k ?_; intro K26 hK26
  refine wp_region_lit ?_
  refine l_ev hf trivial rfl rfl (ev_loadN (l := [.int .i64 x.rows, .int .i64 x.cols, .slice A10 x.cells.length c10]) hf rfl tN_141 (hB5.at 0) rfl) ?_; intro a hf
  refine l_ev hf trivial rfl rfl (ev_move hf rfl) ?_; intro a hf
  refine l_eff0 hf trivial rfl (ef_store (vs := [.int .i64 x.rows, .int .i64 x.cols, .slice A10 x.cells.length c10]) (l' := [.int .i64 x.rows, .int .i64 x.cols, .slice A10 x.cells.length c10]) hf rfl rfl sz_141 hB7 rfl rfl rfl rfl rfl) ?_; rintro a _ w15 ⟨ho, hb⟩ hf
  have hold := hB7
  replace hB4 := hB4.only ho (Blk.ne hB4 hold rfl)
  replace hB5 := hB5.only ho (by omega)
  replace hr_c := hr_c.onlyT ho hold rfl
  replace hr10 := hr10.onlyT ho hold rfl
  replace hW := Below.only hW ho hlo7
  clear hold
  have hB7 := hb
  clear hb ho
  refine l_ev hf trivial rfl rfl (ev_assign hf rfl) ?_; intro a hf
  refine wpList_nil ?_
  refine hK26 _ _ ?_; try clear hK26 K26
  refine wp_ret ?_
  refine c_ret hf (res2 hf rfl (ResV.cellN (l := [.int .i64 x.rows, .int .i64 x.cols, .slice A10 x.cells.length c10]) rfl tN_141 (hB7.at 0) rfl) rfl) ?_
  have hfin : applI c.n c.gs m = if b = true then some x else none := by rw [← hinv]; cases b with | false => rfl | true => rw [if_pos rfl, if_pos rfl, List.drop_of_length_le (by have := hend rfl; omega)]; rfl
  have h1 : (applI c.n c.gs m).getD mZ = x := by rw [hfin]; cases b with | false => exact (hz rfl).symm | true => rfl
  have h2 : (applI c.n c.gs m).isSome = b := by rw [hfin]; cases b <;> rfl
  rw [h1, h2]
  exact ⟨A10, c10, rfl, hr10.top, hW⟩
end Go.Proofs.YtfgnmflfiobkmaaGreat
set_option maxRecDepth 4000
namespace Go.Proofs.YtfgnmflfiobkmaaGreat
open Go.RowKit
theorem F136u (w0 : World) (d : Nat) (h : isDimB (d : Int) = true) : Ret Tryz.prog 136 [.int .i64 (d : Int)] w0 (fun v w => ∃ A c, v = .tuple #[mV A c (unitS d), .bool true] ∧ Own w w0.heap.size 189 5 encD A c (unitS d).cells ∧ Below w0.heap.size w0 w) := by
 have h1 := F136 w0 (d : Int)
 rw [(idI_unit h).1] at h1
 exact h1
theorem F97 (w0 : World) (c : Cx) (Ac : Option Addr) (cc : Nat) (hr_c : Rd w0 w0.heap.size 107 encG Ac c.gs) (hlc : c.gs.length ≤ 2305843009213693951) : Ret Tryz.prog 97 [.agg #[.int .i64 c.n, .slice Ac c.gs.length cc]] w0 (fun v w => ∃ A c1, v = .tuple #[mV A c1 ((opI c).getD mZ), .bool (opI c).isSome] ∧ Rd w w.heap.size 189 encD A ((opI c).getD mZ).cells ∧ Below w0.heap.size w0 w) := by
 refine enter Tryz.func97 rfl 23 rfl rfl ?_
 intro a hf
 have hW : Below w0.heap.size w0 w0 := Below.refl _ _
 refine wp_seq_k ?_; intro K2 hK2
 refine wp_region_lit ?_
 refine l_eff hf trivial rfl rfl (ef_box (zs := [.int .i64 c.n, .slice Ac c.gs.length cc]) hf rfl rfl) ?_; rintro a _ w1 ⟨b3, rfl, hl3, hE, hB3⟩ hf
 have hlo3 := Nat.le_trans hW.size hl3
 replace hr_c := hr_c.below hE
 replace hW := hW.trans (hE.mono hW.size)
 clear hE
 refine l_eff hf trivial rfl rfl (ef_alloc (zs := [.int .i64 0, .int .i64 0, .slice none 0 0]) z_141 rfl) ?_; rintro a _ w2 ⟨b5, rfl, hl5, hE, hB5⟩ hf
 have hlo5 := Nat.le_trans hW.size hl5
 replace hB3 := hB3.below hE
 replace hr_c := hr_c.below hE
 replace hW := hW.trans (hE.mono hW.size)
 clear hE
 refine l_ev hf trivial rfl rfl (ev_assign hf rfl) ?_; intro a hf
 refine wpList_nil ?_
 refine hK2 _ _ ?_; try clear hK2 K2
 refine wp_seq_k ?_; intro K6 hK6
 refine wp_seq_k ?_; intro K7 hK7
 refine wp_region_lit ?_
 refine l_ev hf trivial rfl rfl (ev_loadN (l := [.int .i64 c.n, .slice Ac c.gs.length cc]) hf rfl tN_41 (hB3.at 0) rfl) ?_; intro a hf
 refine l_eff hf trivial rfl rfl (ef_call (vs := [.agg #[.int .i64 c.n, .slice Ac c.gs.length cc]]) hf rfl ff_55 (F55 _ c Ac cc hr_c.top hlc)) ?_; rintro a _ w3 ⟨rfl, hE⟩ hf
 replace hB3 := hB3.below hE
 replace hB5 := hB5.below hE
 replace hr_c := hr_c.below hE
 replace hW := hW.trans (hE.mono hW.size)
 clear hE
 refine l_ev hf trivial rfl rfl (ev_not hf rfl) ?_; intro a hf
 refine wpList_nil ?_
 refine hK7 _ _ ?_; try clear hK7 K7
 refine c_if hf rfl (fun hc8 => ?_) (fun hc8 => ?_)
 ·have hc8b := hc8
  have hn : ¬ cOk c = true := by revert hc8; cases cOk c <;> simp
  refine wp_seq_k ?_; intro K9 hK9
  refine wp_region_lit ?_
  refine l_ev hf trivial rfl rfl (ev_build (ps := []) (cs := [.int .i64 0, .int .i64 0, .slice none 0 0]) hf rfl (fun _ => by first | rfl | kernel_rfl)) ?_; intro a hf
  refine l_eff0 hf trivial rfl (ef_store (vs := [.int .i64 0, .int .i64 0, .slice none 0 0]) (l' := [.int .i64 0, .int .i64 0, .slice none 0 0]) hf rfl rfl sz_141 hB5 rfl rfl rfl rfl rfl) ?_; rintro a _ w4 ⟨ho, hb⟩ hf
  have hold := hB5
  replace hB3 := hB3.only ho (Blk.ne hB3 hold rfl)
  replace hr_c := hr_c.onlyT ho hold rfl
  replace hW := Below.only hW ho hlo5
  clear hold
  have hB5 := hb
  clear hb ho
  refine l_ev hf trivial rfl rfl (ev_assign hf rfl) ?_; intro a hf
  refine wpList_nil ?_
  refine hK9 _ _ ?_; try clear hK9 K9
  refine wp_ret ?_
  refine x_retS ?_
  refine c_ret hf (res2 hf rfl (ResV.cellN (l := [.int .i64 0, .int .i64 0, .slice none 0 0]) rfl tN_141 (hB5.at 0) rfl) rfl) ?_
  have hfin : opI c = none := by rw [opI, if_neg hn]
  rw [hfin]
  exact ⟨none, 0, rfl, (Rd.nil _ 0 _ _ _).top, hW⟩
 ·have hc8b := hc8
  have hc : cOk c = true := by revert hc8; cases cOk c <;> simp
  obtain ⟨hn, hlen, hgs⟩ := cOk_spec hc
  obtain ⟨d, hd⟩ : ∃ d : Nat, d = 2 ^ c.n.toNat := ⟨_, rfl⟩
  refine wp_skip ?_
  refine hK6 _ _ ?_; try clear hK6 K6
  refine wp_seq_k ?_; intro K11 hK11
  refine wp_region_lit ?_
  refine l_ev hf trivial rfl rfl (ev_fieldB hf rfl fd_41_0 (m := 0) rfl) ?_; intro a hf
  refine l_ev hf trivial rfl rfl (ev_load1 hf rfl t1_3 (hB3.at 0)) ?_; intro a hf
  refine l_ev hf trivial rfl rfl (ev_shl1 (m := c.n.toNat) (D := d) hf rfl rfl (by omega) ⟨hd, by omega⟩) ?_; intro a hf
  refine l_eff hf trivial rfl rfl (ef_call (vs := [.int .i64 (d : Int)]) hf rfl ff_136 (F136u _ d (by rw [hd]; exact isDim_pow hn))) ?_; rintro a _ w5 ⟨A12, c12, rfl, ho12, hE⟩ hf
  replace ho12 := ho12.lower hW.size
  replace hB3 := hB3.below hE
  replace hB5 := hB5.below hE
  replace hr_c := hr_c.below hE
  replace hW := hW.trans (hE.mono hW.size)
  clear hE
  refine l_ev hf trivial rfl rfl (ev_move hf rfl) ?_; intro a hf
  refine l_ev hf trivial rfl rfl (ev_extract (vs := [.agg #[.int .i64 ((unitS d).rows), .int .i64 ((unitS d).cols), .slice A12 ((unitS d).cells).length c12], .bool true]) hf rfl rfl) ?_; intro a hf
  refine l_ev hf trivial rfl rfl (ev_extract (vs := [.agg #[.int .i64 ((unitS d).rows), .int .i64 ((unitS d).cols), .slice A12 ((unitS d).cells).length c12], .bool true]) hf rfl rfl) ?_; intro a hf
  refine l_eff hf trivial rfl rfl (ef_alloc (zs := [.int .i64 0, .int .i64 0, .slice none 0 0]) z_141 rfl) ?_; rintro a _ w6 ⟨b14, rfl, hl14, hE, hB14⟩ hf
  have hne5_14 : b5 ≠ b14 := by have := hB5.lt; omega
  have hlo14 := Nat.le_trans hW.size hl14
  replace hB3 := hB3.below hE
  replace hB5 := hB5.below hE
  replace hr_c := hr_c.below hE
  replace ho12 := ho12.below hE
  replace hW := hW.trans (hE.mono hW.size)
  clear hE
  refine l_eff0 hf trivial rfl (ef_store (vs := [.int .i64 ((unitS d).rows), .int .i64 ((unitS d).cols), .slice A12 ((unitS d).cells).length c12]) (l' := [.int .i64 ((unitS d).rows), .int .i64 ((unitS d).cols), .slice A12 ((unitS d).cells).length c12]) hf rfl rfl sz_141 hB14 rfl rfl rfl rfl rfl) ?_; rintro a _ w7 ⟨ho, hb⟩ hf
  have hold := hB14
  replace hB3 := hB3.only ho (Blk.ne hB3 hold rfl)
  replace hB5 := hB5.only ho (by omega)
  replace hr_c := hr_c.onlyT ho hold rfl
  replace ho12 := ho12.onlyT ho hold rfl
  replace hW := Below.only hW ho hlo14
  clear hold
  have hB14 := hb
  clear hb ho
  refine l_ev hf trivial rfl rfl (ev_assign hf rfl) ?_; intro a hf
  refine wpList_nil ?_
  refine hK11 _ _ ?_; try clear hK11 K11
  refine wp_seq_k ?_; intro K15 hK15
  refine wp_region_lit ?_
  refine l_ev hf trivial rfl rfl (ev_loadN (l := [.int .i64 c.n, .slice Ac c.gs.length cc]) hf rfl tN_41 (hB3.at 0) rfl) ?_; intro a hf
  refine l_ev hf trivial rfl rfl (ev_loadN (l := [.int .i64 ((unitS d).rows), .int .i64 ((unitS d).cols), .slice A12 ((unitS d).cells).length c12]) hf rfl tN_141 (hB14.at 0) rfl) ?_; intro a hf
  refine l_ev hf trivial rfl rfl (ev_move hf rfl) ?_; intro a hf
  refine l_eff hf trivial rfl rfl (ef_call (vs := [.agg #[.int .i64 c.n, .slice Ac c.gs.length cc], .agg #[.int .i64 ((unitS d).rows), .int .i64 ((unitS d).cols), .slice A12 ((unitS d).cells).length c12], .bool true]) hf rfl ff_137 (F137 _ c Ac cc hr_c.top (unitS d) A12 c12 ho12.rd.top hc (idI_unit (by rw [hd]; exact isDim_pow hn)).2 (by rw [← hd]; rfl))) ?_; rintro a _ w8 ⟨A16, c16, rfl, hr16, hE⟩ hf
  replace hB3 := hB3.below hE
  replace hB5 := hB5.below hE
  replace hB14 := hB14.below hE
  replace hr_c := hr_c.below hE
  replace ho12 := ho12.below hE
  replace hW := hW.trans (hE.mono hW.size)
  clear hE
  refine l_ev hf trivial rfl rfl (ev_extract (vs := [.agg #[.int .i64 (((applI c.n c.gs (unitS d)).getD mZ).rows), .int .i64 (((applI c.n c.gs (unitS d)).getD mZ).cols), .slice A16 (((applI c.n c.gs (unitS d)).getD mZ).cells).length c16], .bool ((applI c.n c.gs (unitS d)).isSome)]) hf rfl rfl) ?_; intro a hf
  refine l_ev hf trivial rfl rfl (ev_extract (vs := [.agg #[.int .i64 (((applI c.n c.gs (unitS d)).getD mZ).rows), .int .i64 (((applI c.n c.gs (unitS d)).getD mZ).cols), .slice A16 (((applI c.n c.gs (unitS d)).getD mZ).cells).length c16], .bool ((applI c.n c.gs (unitS d)).isSome)]) hf rfl rfl) ?_; intro a hf
  refine l_eff0 hf trivial rfl (ef_store (vs := [.int .i64 (((applI c.n c.gs (unitS d)).getD mZ).rows), .int .i64 (((applI c.n c.gs (unitS d)).getD mZ).cols), .slice A16 (((applI c.n c.gs (unitS d)).getD mZ).cells).length c16]) (l' := [.int .i64 (((applI c.n c.gs (unitS d)).getD mZ).rows), .int .i64 (((applI c.n c.gs (unitS d)).getD mZ).cols), .slice A16 (((applI c.n c.gs (unitS d)).getD mZ).cells).length c16]) hf rfl rfl sz_141 hB5 rfl rfl rfl rfl rfl) ?_; rintro a _ w9 ⟨ho, hb⟩ hf
  have hold := hB5
  replace hB3 := hB3.only ho (Blk.ne hB3 hold rfl)
  replace hB14 := hB14.only ho (by omega)
  replace hr_c := hr_c.onlyT ho hold rfl
  replace ho12 := ho12.onlyT ho hold rfl
  replace hr16 := hr16.onlyT ho hold rfl
  replace hW := Below.only hW ho hlo5
  clear hold
  have hB5 := hb
  clear hb ho
  refine l_ev hf trivial rfl rfl (ev_assign hf rfl) ?_; intro a hf
  refine wpList_nil ?_
  refine hK15 _ _ ?_; try clear hK15 K15
  refine wp_ret ?_
  refine c_ret hf (res2 hf rfl (ResV.cellN (l := [.int .i64 (((applI c.n c.gs (unitS d)).getD mZ).rows), .int .i64 (((applI c.n c.gs (unitS d)).getD mZ).cols), .slice A16 (((applI c.n c.gs (unitS d)).getD mZ).cells).length c16]) rfl tN_141 (hB5.at 0) rfl) rfl) ?_
  have hfin : opI c = applI c.n c.gs (unitS d) := by rw [opI, if_pos hc, ← hd, (idI_unit (by rw [hd]; exact isDim_pow hn)).1]; rfl
  rw [hfin]
  exact ⟨A16, c16, rfl, hr16.top, hW⟩
theorem F50 (w0 : World) (p : Cx) (Ap : Option Addr) (cp : Nat) (hr_p : Rd w0 w0.heap.size 107 encG Ap p.gs) (q : Cx) (Aq : Option Addr) (cq : Nat) (hr_q : Rd w0 w0.heap.size 107 encG Aq q.gs) (hla : p.gs.length ≤ 2305843009213693951) (hlb : q.gs.length ≤ 2305843009213693951) : Ret Tryz.prog 50 [.agg #[.int .i64 p.n, .slice Ap p.gs.length cp], .agg #[.int .i64 q.n, .slice Aq q.gs.length cq]] w0 (fun v w => v = .tuple #[.bool ((sameI p q).1), .bool ((sameI p q).2)] ∧ Below w0.heap.size w0 w) := by
 refine enter Tryz.func50 rfl 45 rfl rfl ?_
 intro a hf
 have hW : Below w0.heap.size w0 w0 := Below.refl _ _
 refine wp_seq_k ?_; intro K3 hK3
 refine wp_region_lit ?_
 refine l_eff hf trivial rfl rfl (ef_box (zs := [.int .i64 p.n, .slice Ap p.gs.length cp]) hf rfl rfl) ?_; rintro a _ w1 ⟨b4, rfl, hl4, hE, hB4⟩ hf
 have hlo4 := Nat.le_trans hW.size hl4
 replace hr_p := hr_p.below hE
 replace hr_q := hr_q.below hE
 replace hW := hW.trans (hE.mono hW.size)
 clear hE
 refine l_eff hf trivial rfl rfl (ef_box (zs := [.int .i64 q.n, .slice Aq q.gs.length cq]) hf rfl rfl) ?_; rintro a _ w2 ⟨b5, rfl, hl5, hE, hB5⟩ hf
 have hne4_5 : b4 ≠ b5 := by have := hB4.lt; omega
 have hlo5 := Nat.le_trans hW.size hl5
 replace hB4 := hB4.below hE
 replace hr_p := hr_p.below hE
 replace hr_q := hr_q.below hE
 replace hW := hW.trans (hE.mono hW.size)
 clear hE
 refine l_ev hf trivial rfl rfl (ev_assign hf rfl) ?_; intro a hf
 refine l_ev hf trivial rfl rfl (ev_assign hf rfl) ?_; intro a hf
 refine wpList_nil ?_
 refine hK3 _ _ ?_; try clear hK3 K3
 refine wp_seq_k ?_; intro K6 hK6
 refine wp_region_lit ?_
 refine l_ev hf trivial rfl rfl (ev_loadN (l := [.int .i64 p.n, .slice Ap p.gs.length cp]) hf rfl tN_41 (hB4.at 0) rfl) ?_; intro a hf
 refine l_eff hf trivial rfl rfl (ef_call (vs := [.agg #[.int .i64 p.n, .slice Ap p.gs.length cp]]) hf rfl ff_97 (F97 _ p Ap cp hr_p.top hla)) ?_; rintro a _ w3 ⟨A7, c7, rfl, hr7, hE⟩ hf
 replace hB4 := hB4.below hE
 replace hB5 := hB5.below hE
 replace hr_p := hr_p.below hE
 replace hr_q := hr_q.below hE
 replace hW := hW.trans (hE.mono hW.size)
 clear hE
 refine l_ev hf trivial rfl rfl (ev_move hf rfl) ?_; intro a hf
 refine l_ev hf trivial rfl rfl (ev_extract (vs := [.agg #[.int .i64 (((opI p).getD mZ).rows), .int .i64 (((opI p).getD mZ).cols), .slice A7 (((opI p).getD mZ).cells).length c7], .bool ((opI p).isSome)]) hf rfl rfl) ?_; intro a hf
 refine l_ev hf trivial rfl rfl (ev_extract (vs := [.agg #[.int .i64 (((opI p).getD mZ).rows), .int .i64 (((opI p).getD mZ).cols), .slice A7 (((opI p).getD mZ).cells).length c7], .bool ((opI p).isSome)]) hf rfl rfl) ?_; intro a hf
 refine l_eff hf trivial rfl rfl (ef_alloc (zs := [.int .i64 0, .int .i64 0, .slice none 0 0]) z_141 rfl) ?_; rintro a _ w4 ⟨b9, rfl, hl9, hE, hB9⟩ hf
 have hlo9 := Nat.le_trans hW.size hl9
 replace hB4 := hB4.below hE
 replace hB5 := hB5.below hE
 replace hr_p := hr_p.below hE
 replace hr_q := hr_q.below hE
 replace hr7 := hr7.below hE
 replace hW := hW.trans (hE.mono hW.size)
 clear hE
 refine l_eff0 hf trivial rfl (ef_store (vs := [.int .i64 (((opI p).getD mZ).rows), .int .i64 (((opI p).getD mZ).cols), .slice A7 (((opI p).getD mZ).cells).length c7]) (l' := [.int .i64 (((opI p).getD mZ).rows), .int .i64 (((opI p).getD mZ).cols), .slice A7 (((opI p).getD mZ).cells).length c7]) hf rfl rfl sz_141 hB9 rfl rfl rfl rfl rfl) ?_; rintro a _ w5 ⟨ho, hb⟩ hf
 have hold := hB9
 replace hB4 := hB4.only ho (Blk.ne hB4 hold rfl)
 replace hB5 := hB5.only ho (Blk.ne hB5 hold rfl)
 replace hr_p := hr_p.onlyT ho hold rfl
 replace hr_q := hr_q.onlyT ho hold rfl
 replace hr7 := hr7.onlyT ho hold rfl
 replace hW := Below.only hW ho hlo9
 clear hold
 have hB9 := hb
 clear hb ho
 refine l_ev hf trivial rfl rfl (ev_assign hf rfl) ?_; intro a hf
 refine wpList_nil ?_
 refine hK6 _ _ ?_; try clear hK6 K6
 refine wp_seq_k ?_; intro K10 hK10
 refine wp_region_lit ?_
 refine l_ev hf trivial rfl rfl (ev_loadN (l := [.int .i64 q.n, .slice Aq q.gs.length cq]) hf rfl tN_41 (hB5.at 0) rfl) ?_; intro a hf
 refine l_eff hf trivial rfl rfl (ef_call (vs := [.agg #[.int .i64 q.n, .slice Aq q.gs.length cq]]) hf rfl ff_97 (F97 _ q Aq cq hr_q.top hlb)) ?_; rintro a _ w6 ⟨A11, c11, rfl, hr11, hE⟩ hf
 replace hB4 := hB4.below hE
 replace hB5 := hB5.below hE
 replace hB9 := hB9.below hE
 replace hr_p := hr_p.below hE
 replace hr_q := hr_q.below hE
 replace hr7 := hr7.below hE
 replace hW := hW.trans (hE.mono hW.size)
 clear hE
 refine l_ev hf trivial rfl rfl (ev_move hf rfl) ?_; intro a hf
 refine l_ev hf trivial rfl rfl (ev_extract (vs := [.agg #[.int .i64 (((opI q).getD mZ).rows), .int .i64 (((opI q).getD mZ).cols), .slice A11 (((opI q).getD mZ).cells).length c11], .bool ((opI q).isSome)]) hf rfl rfl) ?_; intro a hf
 refine l_ev hf trivial rfl rfl (ev_extract (vs := [.agg #[.int .i64 (((opI q).getD mZ).rows), .int .i64 (((opI q).getD mZ).cols), .slice A11 (((opI q).getD mZ).cells).length c11], .bool ((opI q).isSome)]) hf rfl rfl) ?_; intro a hf
 refine l_eff hf trivial rfl rfl (ef_alloc (zs := [.int .i64 0, .int .i64 0, .slice none 0 0]) z_141 rfl) ?_; rintro a _ w7 ⟨b13, rfl, hl13, hE, hB13⟩ hf
 have hne9_13 : b9 ≠ b13 := by have := hB9.lt; omega
 have hlo13 := Nat.le_trans hW.size hl13
 replace hB4 := hB4.below hE
 replace hB5 := hB5.below hE
 replace hB9 := hB9.below hE
 replace hr_p := hr_p.below hE
 replace hr_q := hr_q.below hE
 replace hr7 := hr7.below hE
 replace hr11 := hr11.below hE
 replace hW := hW.trans (hE.mono hW.size)
 clear hE
 refine l_eff0 hf trivial rfl (ef_store (vs := [.int .i64 (((opI q).getD mZ).rows), .int .i64 (((opI q).getD mZ).cols), .slice A11 (((opI q).getD mZ).cells).length c11]) (l' := [.int .i64 (((opI q).getD mZ).rows), .int .i64 (((opI q).getD mZ).cols), .slice A11 (((opI q).getD mZ).cells).length c11]) hf rfl rfl sz_141 hB13 rfl rfl rfl rfl rfl) ?_; rintro a _ w8 ⟨ho, hb⟩ hf
 have hold := hB13
 replace hB4 := hB4.only ho (Blk.ne hB4 hold rfl)
 replace hB5 := hB5.only ho (Blk.ne hB5 hold rfl)
 replace hB9 := hB9.only ho (by omega)
 replace hr_p := hr_p.onlyT ho hold rfl
 replace hr_q := hr_q.onlyT ho hold rfl
 replace hr7 := hr7.onlyT ho hold rfl
 replace hr11 := hr11.onlyT ho hold rfl
 replace hW := Below.only hW ho hlo13
 clear hold
 have hB13 := hb
 clear hb ho
 refine l_ev hf trivial rfl rfl (ev_assign hf rfl) ?_; intro a hf
 refine wpList_nil ?_
 refine hK10 _ _ ?_; try clear hK10 K10
 refine wp_seq_k ?_; intro K14 hK14
 refine wp_seq_k ?_; intro K15 hK15
 refine c_cut (fun a w => Fr a 45 [(6, .pointer (some ⟨b9, 0, none⟩)), (8, .pointer (some ⟨b13, 0, none⟩)), (35, .bool (((!((opI p).isSome)) || (!((opI q).isSome))) || (p.n != q.n)))] ∧ w8 = w) ?_ ?_
 ·refine wp_region_lit ?_
  refine l_ev hf trivial rfl rfl (ev_move hf rfl) ?_; intro a hf
  refine l_ev hf trivial rfl rfl (ev_not hf rfl) ?_; intro a hf
  refine l_ev hf trivial rfl rfl (ev_move hf rfl) ?_; intro a hf
  refine g_split hf (t := 25) rfl (fun hg16 => ?_) (fun hg16 => ?_)
  ·refine l_pass hf ⟨_, _, rfl, rfl, hg16⟩ rfl rfl ?_; intro a hf
   refine l_pass hf ⟨_, _, rfl, rfl, hg16⟩ rfl rfl ?_; intro a hf
   refine l_ev hf trivial rfl rfl (ev_pickT hf rfl hg16 rfl) ?_; intro a hf
   refine l_ev hf trivial rfl rfl (ev_move hf rfl) ?_; intro a hf
   refine l_pass hf ⟨_, _, rfl, rfl, rfl⟩ rfl rfl ?_; intro a hf
   refine l_pass hf ⟨_, _, rfl, rfl, rfl⟩ rfl rfl ?_; intro a hf
   refine l_pass hf ⟨_, _, rfl, rfl, rfl⟩ rfl rfl ?_; intro a hf
   refine l_pass hf ⟨_, _, rfl, rfl, rfl⟩ rfl rfl ?_; intro a hf
   refine l_pass hf ⟨_, _, rfl, rfl, rfl⟩ rfl rfl ?_; intro a hf
   refine l_ev hf trivial rfl rfl (ev_pickT hf rfl rfl rfl) ?_; intro a hf
   refine wpList_nil ?_
   exact ⟨hf.sub ⟨rfl, rfl, look_bool rfl (by first | rfl | (simp only [hg16, Bool.true_and, Bool.false_and, Bool.true_or, Bool.false_or]; done) | simp [hg16]), trivial⟩, rfl⟩
  ·refine l_ev hf ⟨_, _, rfl, rfl, hg16⟩ rfl rfl (ev_move hf rfl) ?_; intro a hf
   refine l_ev hf ⟨_, _, rfl, rfl, hg16⟩ rfl rfl (ev_not hf rfl) ?_; intro a hf
   refine l_ev hf trivial rfl rfl (ev_pickF hf rfl hg16 rfl) ?_; intro a hf
   refine l_ev hf trivial rfl rfl (ev_move hf rfl) ?_; intro a hf
   refine g_split hf (t := 29) rfl (fun hg17 => ?_) (fun hg17 => ?_)
   ·refine l_pass hf ⟨_, _, rfl, rfl, hg17⟩ rfl rfl ?_; intro a hf
    refine l_pass hf ⟨_, _, rfl, rfl, hg17⟩ rfl rfl ?_; intro a hf
    refine l_pass hf ⟨_, _, rfl, rfl, hg17⟩ rfl rfl ?_; intro a hf
    refine l_pass hf ⟨_, _, rfl, rfl, hg17⟩ rfl rfl ?_; intro a hf
    refine l_pass hf ⟨_, _, rfl, rfl, hg17⟩ rfl rfl ?_; intro a hf
    refine l_ev hf trivial rfl rfl (ev_pickT hf rfl hg17 rfl) ?_; intro a hf
    refine wpList_nil ?_
    exact ⟨hf.sub ⟨rfl, rfl, look_bool rfl (by first | rfl | (simp only [hg16, hg17, Bool.true_and, Bool.false_and, Bool.true_or, Bool.false_or]; done) | simp [hg16, hg17]), trivial⟩, rfl⟩
   ·refine l_ev hf ⟨_, _, rfl, rfl, hg17⟩ rfl rfl (ev_fieldB hf rfl fd_41_0 (m := 0) rfl) ?_; intro a hf
    refine l_ev hf ⟨_, _, rfl, rfl, hg17⟩ rfl rfl (ev_load1 hf rfl t1_3 (hB4.at 0)) ?_; intro a hf
    refine l_ev hf ⟨_, _, rfl, rfl, hg17⟩ rfl rfl (ev_fieldB hf rfl fd_41_0 (m := 0) rfl) ?_; intro a hf
    refine l_ev hf ⟨_, _, rfl, rfl, hg17⟩ rfl rfl (ev_load1 hf rfl t1_3 (hB5.at 0)) ?_; intro a hf
    refine l_ev hf ⟨_, _, rfl, rfl, hg17⟩ rfl rfl (ev_neq hf rfl rfl) ?_; intro a hf
    refine l_ev hf trivial rfl rfl (ev_pickF hf rfl hg17 rfl) ?_; intro a hf
    refine wpList_nil ?_
    exact ⟨hf.sub ⟨rfl, rfl, look_bool rfl (by first | rfl | (simp only [hg16, hg17, Bool.true_and, Bool.false_and, Bool.true_or, Bool.false_or]; done) | simp [hg16, hg17]), trivial⟩, rfl⟩
 rintro a _ ⟨hf, rfl⟩
 refine hK15 _ _ ?_; try clear hK15 K15
 refine c_if hf rfl (fun hc18 => ?_) (fun hc18 => ?_)
 ·have hc18b := hc18
  have hn : sameI p q = (false, false) := by rw [sameI, if_neg]; intro h0; simp only [Bool.and_eq_true, beq_iff_eq] at h0; revert hc18; rw [h0.1.1, h0.1.2, h0.2]; simp
  refine wp_seq_k ?_; intro K19 hK19
  refine wp_region_lit ?_
  refine l_ev hf trivial rfl rfl (ev_assign hf rfl) ?_; intro a hf
  refine l_ev hf trivial rfl rfl (ev_assign hf rfl) ?_; intro a hf
  refine wpList_nil ?_
  refine hK19 _ _ ?_; try clear hK19 K19
  refine wp_ret ?_
  refine x_retS ?_
  refine c_ret hf (res2 hf rfl rfl rfl) ?_
  exact ⟨by rw [hn], hW⟩
 ·have hc18b := hc18
  have hy : sameI p q = (mOk ((opI p).getD mZ) && mOk ((opI q).getD mZ) && eqPh ((opI p).getD mZ) ((opI q).getD mZ), mOk ((opI p).getD mZ) && mOk ((opI q).getD mZ)) := by rw [sameI, if_pos]; revert hc18; cases (opI p).isSome <;> cases (opI q).isSome <;> simp
  refine wp_skip ?_
  refine hK14 _ _ ?_; try clear hK14 K14
  refine wp_seq_k ?_; intro K20 hK20
  refine wp_region_lit ?_
  refine l_ev hf trivial rfl rfl (ev_loadN (l := [.int .i64 (((opI p).getD mZ).rows), .int .i64 (((opI p).getD mZ).cols), .slice A7 (((opI p).getD mZ).cells).length c7]) hf rfl tN_141 (hB9.at 0) rfl) ?_; intro a hf
  refine l_ev hf trivial rfl rfl (ev_loadN (l := [.int .i64 (((opI q).getD mZ).rows), .int .i64 (((opI q).getD mZ).cols), .slice A11 (((opI q).getD mZ).cells).length c11]) hf rfl tN_141 (hB13.at 0) rfl) ?_; intro a hf
  refine l_eff hf trivial rfl rfl (ef_call (vs := [.agg #[.int .i64 (((opI p).getD mZ).rows), .int .i64 (((opI p).getD mZ).cols), .slice A7 (((opI p).getD mZ).cells).length c7], .agg #[.int .i64 (((opI q).getD mZ).rows), .int .i64 (((opI q).getD mZ).cols), .slice A11 (((opI q).getD mZ).cells).length c11]]) hf rfl ff_98 (F98 _ ((opI p).getD mZ) A7 c7 hr7.top ((opI q).getD mZ) A11 c11 hr11.top (opI_le p) (opI_le q))) ?_; rintro a _ w9 ⟨ix, rfl, hE⟩ hf
  replace hB4 := hB4.below hE
  replace hB5 := hB5.below hE
  replace hB9 := hB9.below hE
  replace hB13 := hB13.below hE
  replace hr_p := hr_p.below hE
  replace hr_q := hr_q.below hE
  replace hr7 := hr7.below hE
  replace hr11 := hr11.below hE
  replace hW := hW.trans (hE.mono hW.size)
  clear hE
  refine l_ev hf trivial rfl rfl (ev_move hf rfl) ?_; intro a hf
  refine l_ev hf trivial rfl rfl (ev_extract (vs := [.int .i64 ix, .bool (mOk ((opI p).getD mZ) && mOk ((opI q).getD mZ) && eqPh ((opI p).getD mZ) ((opI q).getD mZ)), .bool (mOk ((opI p).getD mZ) && mOk ((opI q).getD mZ))]) hf rfl rfl) ?_; intro a hf
  refine l_ev hf trivial rfl rfl (ev_extract (vs := [.int .i64 ix, .bool (mOk ((opI p).getD mZ) && mOk ((opI q).getD mZ) && eqPh ((opI p).getD mZ) ((opI q).getD mZ)), .bool (mOk ((opI p).getD mZ) && mOk ((opI q).getD mZ))]) hf rfl rfl) ?_; intro a hf
  refine l_ev hf trivial rfl rfl (ev_extract (vs := [.int .i64 ix, .bool (mOk ((opI p).getD mZ) && mOk ((opI q).getD mZ) && eqPh ((opI p).getD mZ) ((opI q).getD mZ)), .bool (mOk ((opI p).getD mZ) && mOk ((opI q).getD mZ))]) hf rfl rfl) ?_; intro a hf
  refine l_ev hf trivial rfl rfl (ev_assign hf rfl) ?_; intro a hf
  refine l_ev hf trivial rfl rfl (ev_assign hf rfl) ?_; intro a hf
  refine l_ev hf trivial rfl rfl (ev_assign hf rfl) ?_; intro a hf
  refine wpList_nil ?_
  refine hK20 _ _ ?_; try clear hK20 K20
  refine wp_seq_k ?_; intro K21 hK21
  refine wp_region_lit ?_
  refine l_ev hf trivial rfl rfl (ev_move hf rfl) ?_; intro a hf
  refine l_ev hf trivial rfl rfl (ev_move hf rfl) ?_; intro a hf
  refine l_ev hf trivial rfl rfl (ev_assign hf rfl) ?_; intro a hf
  refine l_ev hf trivial rfl rfl (ev_assign hf rfl) ?_; intro a hf
  refine wpList_nil ?_
  refine hK21 _ _ ?_; try clear hK21 K21
  refine wp_ret ?_
  refine c_ret hf (res2 hf rfl rfl rfl) ?_
  exact ⟨by rw [hy], hW⟩
end Go.Proofs.YtfgnmflfiobkmaaGreat
set_option maxRecDepth 4000
namespace Go.Proofs.YtfgnmflfiobkmaaGreat
open Go.RowKit
theorem F172 (w0 : World) (d : Nat) (hd : d ≤ 32) : Ret Tryz.prog 172 [.int .i64 (d : Int)] w0 (fun v w => ∃ A c, v = mV A c (unitS d) ∧ Own w w0.heap.size 189 5 encD A c (unitS d).cells ∧ Below w0.heap.size w0 w) := by
 have hdd : d * d ≤ 1024 := grid_le hd hd
 refine enter Tryz.func172 rfl 27 rfl rfl ?_
 intro a hf
 have hW : Below w0.heap.size w0 w0 := Below.refl _ _
 refine wp_seq_k ?_; intro K1 hK1
 refine wp_region_lit ?_
 refine l_eff hf trivial rfl rfl (ef_alloc (zs := [.int .i64 0, .int .i64 0, .slice none 0 0]) z_141 rfl) ?_; rintro a _ w1 ⟨b3, rfl, hl3, hE, hB3⟩ hf
 have hlo3 := Nat.le_trans hW.size hl3
 replace hW := hW.trans (hE.mono hW.size)
 clear hE
 refine wpList_nil ?_
 refine hK1 _ _ ?_; try clear hK1 K1
 refine wp_seq_k ?_; intro K4 hK4
 refine wp_region_lit ?_
 refine l_ev hf trivial rfl rfl (ev_move hf rfl) ?_; intro a hf
 refine l_ev hf trivial rfl rfl (ev_move hf rfl) ?_; intro a hf
 refine l_ev hf trivial rfl rfl (ev_move hf rfl) ?_; intro a hf
 refine l_ev hf trivial rfl rfl (ev_move hf rfl) ?_; intro a hf
 refine l_ev hf trivial rfl rfl (ev_mulN (m := d) (k := d) hf rfl rfl (by omega)) ?_; intro a hf
 refine l_eff hf trivial rfl rfl (ef_makeSlice (m := (d * d : Nat)) (enc := encD) (z0 := dZ) hf rfl rfl sl_139 inf_189 z_189 rfl encD_len (by omega) (by omega)) ?_; rintro a _ w2 ⟨b5, rfl, hl5, hE, hB5⟩ hf
 have hlo5 := Nat.le_trans hW.size hl5
 replace hB3 := hB3.below hE
 replace hW := hW.trans (hE.mono hW.size)
 clear hE
 refine l_ev hf trivial rfl rfl (ev_build (ps := [(0, .int .i64 (d : Int)), (1, .int .i64 (d : Int)), (2, .slice (some ⟨b5, 0, none⟩) (d * d : Nat) (d * d : Nat))]) (cs := [.int .i64 (d : Int), .int .i64 (d : Int), .slice (some ⟨b5, 0, none⟩) (d * d : Nat) (d * d : Nat)]) hf rfl (fun _ => by first | rfl | kernel_rfl)) ?_; intro a hf
 refine l_eff hf trivial rfl rfl (ef_alloc (zs := [.int .i64 0, .int .i64 0, .slice none 0 0]) z_141 rfl) ?_; rintro a _ w3 ⟨b9, rfl, hl9, hE, hB9⟩ hf
 have hne3_9 : b3 ≠ b9 := by have := hB3.lt; omega
 have hlo9 := Nat.le_trans hW.size hl9
 replace hB3 := hB3.below hE
 replace hB5 := hB5.below hE
 replace hW := hW.trans (hE.mono hW.size)
 clear hE
 refine l_eff0 hf trivial rfl (ef_store (vs := [.int .i64 (d : Int), .int .i64 (d : Int), .slice (some ⟨b5, 0, none⟩) (d * d : Nat) (d * d : Nat)]) (l' := [.int .i64 (d : Int), .int .i64 (d : Int), .slice (some ⟨b5, 0, none⟩) (d * d : Nat) (d * d : Nat)]) hf rfl rfl sz_141 hB9 rfl rfl rfl rfl rfl) ?_; rintro a _ w4 ⟨ho, hb⟩ hf
 have hold := hB9
 replace hB3 := hB3.only ho (by omega)
 replace hB5 := hB5.only ho (Blk.ne hB5 hold rfl)
 replace hW := Below.only hW ho hlo9
 clear hold
 have hB9 := hb
 clear hb ho
 refine wpList_nil ?_
 refine hK4 _ _ ?_; try clear hK4 K4
 refine wp_seq_k ?_; intro K10 hK10
 refine wp_seq_k ?_; intro K11 hK11
 refine wp_region_lit ?_
 refine l_ev hf trivial rfl rfl (ev_assign hf rfl) ?_; intro a hf
 refine wpList_nil ?_
 refine hK11 _ _ ?_; try clear hK11 K11
 refine wp_block ?_
 refine c_loop (σ := Nat × (List Dy)) (fun (s : Nat × (List Dy)) (a : Act) (w : World) => match s with | (i, l) => Fr a 27 [(0, .int .i64 (d : Int)), (2, .pointer (some ⟨b3, 0, none⟩)), (3, .pointer (some ⟨b9, 0, none⟩)), (4, .int .i64 (i : Int))] ∧ (i ≤ d) ∧ (l = unitP d i) ∧ Blk w b3 141 [.int .i64 0, .int .i64 0, .slice none 0 0] ∧ Blk w b5 189 (l.flatMap encD) ∧ Blk w b9 141 [.int .i64 (d : Int), .int .i64 (d : Int), .slice (some ⟨b5, 0, none⟩) (d * d : Nat) (d * d : Nat)] ∧ Below w0.heap.size w0 w) (fun (s : Nat × (List Dy)) => match s with | (i, l) => d - i) (0, List.replicate (d * d) dZ) ?_ ?_
 · exact ⟨hf.sub ⟨rfl, rfl, rfl, rfl, trivial⟩, (Nat.zero_le _), (unitP_zero d), hB3, hB5, hB9, hW⟩
 rintro ⟨i, l⟩ a w5 ⟨hf, hi, hl, hB3, hB5, hB9, hW⟩
 refine wp_seq_k ?_; intro K12 hK12
 refine wp_seq_k ?_; intro K13 hK13
 refine wp_region_lit ?_
 refine l_ev hf trivial rfl rfl (ev_move hf rfl) ?_; intro a hf
 refine l_ev hf trivial rfl rfl (ev_move hf rfl) ?_; intro a hf
 refine l_ev hf trivial rfl rfl (ev_lss hf rfl rfl) ?_; intro a hf
 refine wpList_nil ?_
 refine hK13 _ _ ?_; try clear hK13 K13
 refine c_if hf rfl (fun hc14 => ?_) (fun hc14 => ?_)
 ·have hc14b := hc14
  have hc14 := of_decide_eq_true hc14
  have hi1 : i < d := by have := hc14; omega
  have hgb := grid_le (show i ≤ 32 by omega) hd
  refine wp_skip ?_
  refine hK12 _ _ ?_; try clear hK12 K12
  refine wp_seq_k ?_; intro K15 hK15
  refine wp_block ?_
  refine wp_draw none (fun j => [9].contains j) mixed ?_
  intro w6 hE
  replace hB3 := hB3.below hE
  replace hB5 := hB5.below hE
  replace hB9 := hB9.below hE
  replace hW := hW.trans (hE.mono hW.size)
  clear hE
  refine s_ev0 0 rfl (by kernel_rfl) hf trivial rfl rfl (fun _ => ev_fieldB hf rfl fd_141_2 (m := 2) rfl) ?_; intro a hf
  refine s_ev 1 rfl (by kernel_rfl) (by kernel_rfl) hf trivial rfl rfl (ev_load1 hf rfl t1_139 (hB9.at 2)) ?_; intro a hf
  refine s_ev0 2 rfl (by kernel_rfl) hf trivial rfl rfl (fun _ => ev_move hf rfl) ?_; intro a hf
  refine s_ev0 3 rfl (by kernel_rfl) hf trivial rfl rfl (fun _ => ev_move hf rfl) ?_; intro a hf
  refine s_ev0 4 rfl (by kernel_rfl) hf trivial rfl rfl (fun _ => ev_mulN (m := i) (k := d) hf rfl rfl (by have := grid_le (show i ≤ 32 by omega) hd; omega)) ?_; intro a hf
  refine s_ev0 5 rfl (by kernel_rfl) hf trivial rfl rfl (fun _ => ev_move hf rfl) ?_; intro a hf
  refine s_ev0 6 rfl (by kernel_rfl) hf trivial rfl rfl (fun _ => ev_addx hf rfl rfl (by omega) (by omega)) ?_; intro a hf
  refine s_one 7 (by kernel_rfl) ?_
  refine p_eff rfl hf trivial rfl rfl (Ef.mono (ef_call (vs := [.int .i64 0]) hf rfl ff_209 (F209 _ 0)) (fun _ _ h => ⟨fun _ => by obtain ⟨rfl, hE⟩ := h; exact hE, h⟩)) ?_; rintro a _ w7 ⟨rfl, hE⟩ hf
  replace hB3 := hB3.below hE
  replace hB5 := hB5.below hE
  replace hB9 := hB9.below hE
  replace hW := hW.trans (hE.mono hW.size)
  clear hE
  refine s_ev0 8 rfl (by kernel_rfl) hf trivial rfl rfl (fun _ => ev_indexB (k := (i * d + i)) (off := (i * d + i) * 5) hf rfl rfl sl_139 sz_189 (by omega) (grid_lt hi1 hi1) rfl) ?_; intro a hf
  refine s_one 9 (by kernel_rfl) ?_
  refine p_eff0 rfl hf trivial rfl (Ef.mono (ef_storeF (enc := encD) (l := l) (u := (dPow 0)) (k := (i * d + i)) hf rfl rfl sz_189 hB5 encD_len encD_one rfl (by rw [hl, unitP_len]; exact grid_lt hi1 hi1)) (fun _ _ h => ⟨fun h0 => absurd h0 (by decide), h⟩)) ?_; rintro a _ w8 ⟨ho, hb⟩ hf
  have hold := hB5
  replace hB3 := hB3.only ho (Blk.ne hB3 hold rfl)
  replace hB9 := hB9.only ho (Blk.ne hB9 hold rfl)
  replace hW := Below.only hW ho hlo5
  clear hold
  have hB5 := hb
  clear hb ho
  refine s_done (by kernel_rfl) ?_
  refine x_norm ?_
  refine hK15 _ _ ?_; try clear hK15 K15
  refine wp_region_lit ?_
  refine l_ev hf trivial rfl rfl (ev_move hf rfl) ?_; intro a hf
  refine l_ev hf trivial rfl rfl (ev_addx hf rfl rfl (by omega) (by omega)) ?_; intro a hf
  refine l_ev hf trivial rfl rfl (ev_assign hf rfl) ?_; intro a hf
  refine wpList_nil ?_
  refine x_thenN ?_
  exact ⟨(i + 1, (l.set (i * d + i) (dPow 0))), ⟨hf.sub ⟨rfl, rfl, rfl, rfl, trivial⟩, (by omega), (by rw [hl]; exact unitP_step hi1), hB3, hB5, hB9, hW⟩, (by first | omega | (dsimp only; omega))⟩
 ·have hc14b := hc14
  have hc14 := of_decide_eq_false hc14
  have hi1 : i = d := by have := hc14; omega
  refine wp_exit ?_
  refine x_exS ?_
  refine x_exS ?_
  refine x_exit ?_
  refine hK10 _ _ ?_; try clear hK10 K10
  refine wp_seq_k ?_; intro K16 hK16
  refine wp_region_lit ?_
  refine l_ev hf trivial rfl rfl (ev_loadN (l := [.int .i64 (d : Int), .int .i64 (d : Int), .slice (some ⟨b5, 0, none⟩) (d * d : Nat) (d * d : Nat)]) hf rfl tN_141 (hB9.at 0) rfl) ?_; intro a hf
  refine l_eff0 hf trivial rfl (ef_store (vs := [.int .i64 (d : Int), .int .i64 (d : Int), .slice (some ⟨b5, 0, none⟩) (d * d : Nat) (d * d : Nat)]) (l' := [.int .i64 (d : Int), .int .i64 (d : Int), .slice (some ⟨b5, 0, none⟩) (d * d : Nat) (d * d : Nat)]) hf rfl rfl sz_141 hB3 rfl rfl rfl rfl rfl) ?_; rintro a _ w9 ⟨ho, hb⟩ hf
  have hold := hB3
  replace hB5 := hB5.only ho (Blk.ne hB5 hold rfl)
  replace hB9 := hB9.only ho (by omega)
  replace hW := Below.only hW ho hlo3
  clear hold
  have hB3 := hb
  clear hb ho
  refine wpList_nil ?_
  refine hK16 _ _ ?_; try clear hK16 K16
  refine wp_ret ?_
  refine c_ret hf (res1 hf rfl (ResV.cellN (l := [.int .i64 (d : Int), .int .i64 (d : Int), .slice (some ⟨b5, 0, none⟩) (d * d : Nat) (d * d : Nat)]) rfl tN_141 (hB3.at 0) rfl)) ?_
  have hmk : l.length = d * d := by rw [hl, unitP_len]
  have hmkb : d * d ≤ maxLen := by simp only [maxLen]; omega
  have hfin : (unitS d).cells = l := by rw [unitP_full, hl, hi1]
  exact ⟨(some ⟨b5, 0, none⟩), (d * d : Nat), by show _ = Value.agg #[.int .i64 (d : Int), .int .i64 (d : Int), .slice _ (unitS d).cells.length _]; rw [hfin, hmk], by rw [hfin]; exact (Own.of_flat encD_len hB5 hlo5 hmk hmkb), hW⟩
theorem F146 (w0 : World) (bV : Nat) (f : Bool) (hBV : Blk w0 bV 194 [.bool f]) (p : Mx) (Ap : Option Addr) (cp : Nat) (hr_p : Rd w0 w0.heap.size 189 encD Ap p.cells) (q : Mx) (Aq : Option Addr) (cq : Nat) (hr_q : Rd w0 w0.heap.size 189 encD Aq q.cells) (hp : mOk p = true) (hq : mOk q = true) (hpq : p.cols = q.rows) : Ret Tryz.prog 146 [.pointer (some ⟨bV, 0, none⟩), .agg #[.int .i64 p.rows, .int .i64 p.cols, .slice Ap p.cells.length cp], .agg #[.int .i64 q.rows, .int .i64 q.cols, .slice Aq q.cells.length cq]] w0 (fun v w => ∃ A c1, v = mV A c1 ((timesS f p q).2) ∧ Own w w0.heap.size 189 5 encD A c1 ((timesS f p q).2).cells ∧ Kept bV w0.heap.size w0 w ∧ Blk w bV 194 [.bool ((timesS f p q).1)]) := by
 have hltV := hBV.lt
 have hpl := mOk_len hp
 have hql := mOk_len hq
 have hpa := mOk_all hp
 have hqa := mOk_all hq
 have hlp : p.cells.length ≤ 1024 := by rw [hpl.2.2]; exact grid_le (by omega) (by omega)
 have hlq : q.cells.length ≤ 1024 := by rw [hql.2.2]; exact grid_le (by omega) (by omega)
 have ec1 : p.cols = (p.cols.toNat : Int) := by omega
 have ec2 : q.cols = (q.cols.toNat : Int) := by omega
 suffices hgoal : Ret Tryz.prog 146 [.pointer (some ⟨bV, 0, none⟩), .agg #[.int .i64 p.rows, .int .i64 (p.cols.toNat : Int), .slice Ap p.cells.length cp], .agg #[.int .i64 q.rows, .int .i64 (q.cols.toNat : Int), .slice Aq q.cells.length cq]] w0 (fun v w => ∃ A c1, v = .agg #[.int .i64 p.rows, .int .i64 (q.cols.toNat : Int), .slice A (timesS f p q).2.cells.length c1] ∧ Own w w0.heap.size 189 5 encD A c1 (timesS f p q).2.cells ∧ Kept bV w0.heap.size w0 w ∧ Blk w bV 194 [.bool (timesS f p q).1]) by rw [← ec1, ← ec2] at hgoal; exact hgoal
 refine enter Tryz.func146 rfl 75 rfl rfl ?_
 intro a hf
 have hW : Kept bV w0.heap.size w0 w0 := Kept.refl _ _ _
 refine wp_seq_k ?_; intro K3 hK3
 refine wp_region_lit ?_
 refine l_eff hf trivial rfl rfl (ef_box (zs := [.int .i64 p.rows, .int .i64 (p.cols.toNat : Int), .slice Ap p.cells.length cp]) hf rfl rfl) ?_; rintro a _ w1 ⟨b4, rfl, hl4, hE, hB4⟩ hf
 have hlo4 := Nat.le_trans hW.size hl4
 replace hBV := hBV.below hE
 replace hr_p := hr_p.below hE
 replace hr_q := hr_q.below hE
 replace hW := hW.trans (hE.mono hW.size)
 clear hE
 refine l_eff hf trivial rfl rfl (ef_box (zs := [.int .i64 q.rows, .int .i64 (q.cols.toNat : Int), .slice Aq q.cells.length cq]) hf rfl rfl) ?_; rintro a _ w2 ⟨b5, rfl, hl5, hE, hB5⟩ hf
 have hne4_5 : b4 ≠ b5 := by have := hB4.lt; omega
 have hlo5 := Nat.le_trans hW.size hl5
 replace hBV := hBV.below hE
 replace hB4 := hB4.below hE
 replace hr_p := hr_p.below hE
 replace hr_q := hr_q.below hE
 replace hW := hW.trans (hE.mono hW.size)
 clear hE
 refine l_eff hf trivial rfl rfl (ef_alloc (zs := [.int .i64 0, .int .i64 0, .slice none 0 0]) z_141 rfl) ?_; rintro a _ w3 ⟨b7, rfl, hl7, hE, hB7⟩ hf
 have hne4_7 : b4 ≠ b7 := by have := hB4.lt; omega
 have hne5_7 : b5 ≠ b7 := by have := hB5.lt; omega
 have hlo7 := Nat.le_trans hW.size hl7
 replace hBV := hBV.below hE
 replace hB4 := hB4.below hE
 replace hB5 := hB5.below hE
 replace hr_p := hr_p.below hE
 replace hr_q := hr_q.below hE
 replace hW := hW.trans (hE.mono hW.size)
 clear hE
 refine wpList_nil ?_
 refine hK3 _ _ ?_; try clear hK3 K3
 refine wp_seq_k ?_; intro K8 hK8
 refine wp_region_lit ?_
 refine l_ev hf trivial rfl rfl (ev_fieldB hf rfl fd_141_0 (m := 0) rfl) ?_; intro a hf
 refine l_ev hf trivial rfl rfl (ev_load1 hf rfl t1_3 (hB4.at 0)) ?_; intro a hf
 refine l_ev hf trivial rfl rfl (ev_fieldB hf rfl fd_141_1 (m := 1) rfl) ?_; intro a hf
 refine l_ev hf trivial rfl rfl (ev_load1 hf rfl t1_3 (hB5.at 1)) ?_; intro a hf
 refine l_ev hf trivial rfl rfl (ev_build (ps := [(0, .int .i64 p.rows), (1, .int .i64 (q.cols.toNat : Int))]) (cs := [.int .i64 p.rows, .int .i64 (q.cols.toNat : Int), .slice none 0 0]) hf rfl (fun _ => by first | rfl | kernel_rfl)) ?_; intro a hf
 refine l_eff hf trivial rfl rfl (ef_alloc (zs := [.int .i64 0, .int .i64 0, .slice none 0 0]) z_141 rfl) ?_; rintro a _ w4 ⟨b11, rfl, hl11, hE, hB11⟩ hf
 have hne4_11 : b4 ≠ b11 := by have := hB4.lt; omega
 have hne5_11 : b5 ≠ b11 := by have := hB5.lt; omega
 have hne7_11 : b7 ≠ b11 := by have := hB7.lt; omega
 have hlo11 := Nat.le_trans hW.size hl11
 replace hBV := hBV.below hE
 replace hB4 := hB4.below hE
 replace hB5 := hB5.below hE
 replace hB7 := hB7.below hE
 replace hr_p := hr_p.below hE
 replace hr_q := hr_q.below hE
 replace hW := hW.trans (hE.mono hW.size)
 clear hE
 refine l_eff0 hf trivial rfl (ef_store (vs := [.int .i64 p.rows, .int .i64 (q.cols.toNat : Int), .slice none 0 0]) (l' := [.int .i64 p.rows, .int .i64 (q.cols.toNat : Int), .slice none 0 0]) hf rfl rfl sz_141 hB11 rfl rfl rfl rfl rfl) ?_; rintro a _ w5 ⟨ho, hb⟩ hf
 have hold := hB11
 replace hBV := hBV.only ho (Blk.ne hBV hold rfl)
 replace hB4 := hB4.only ho (by omega)
 replace hB5 := hB5.only ho (by omega)
 replace hB7 := hB7.only ho (by omega)
 replace hr_p := hr_p.onlyT ho hold rfl
 replace hr_q := hr_q.onlyT ho hold rfl
 replace hW := Kept.only hW ho hlo11
 clear hold
 have hB11 := hb
 clear hb ho
 refine wpList_nil ?_
 refine hK8 _ _ ?_; try clear hK8 K8
 refine wp_seq_k ?_; intro K12 hK12
 refine wp_seq_k ?_; intro K13 hK13
 refine wp_region_lit ?_
 refine l_ev hf trivial rfl rfl (ev_assign hf rfl) ?_; intro a hf
 refine wpList_nil ?_
 refine hK13 _ _ ?_; try clear hK13 K13
 refine wp_block ?_
 refine c_loop (σ := Nat × (List Dy) × Bool) (fun (s : Nat × (List Dy) × Bool) (a : Act) (w : World) => match s with | (i, l, f1) => ∃ A14 c14, Fr a 75 [(0, .pointer (some ⟨bV, 0, none⟩)), (4, .pointer (some ⟨b4, 0, none⟩)), (5, .pointer (some ⟨b5, 0, none⟩)), (6, .pointer (some ⟨b7, 0, none⟩)), (7, .pointer (some ⟨b11, 0, none⟩)), (8, .int .i64 (i : Int))] ∧ ((i : Int) ≤ p.rows) ∧ (timesL f p q (i * q.cols.toNat) = (f1, l)) ∧ Blk w bV 194 [.bool f1] ∧ Blk w b4 141 [.int .i64 p.rows, .int .i64 (p.cols.toNat : Int), .slice Ap p.cells.length cp] ∧ Blk w b5 141 [.int .i64 q.rows, .int .i64 (q.cols.toNat : Int), .slice Aq q.cells.length cq] ∧ Blk w b7 141 [.int .i64 0, .int .i64 0, .slice none 0 0] ∧ Blk w b11 141 [.int .i64 p.rows, .int .i64 (q.cols.toNat : Int), .slice A14 l.length c14] ∧ Rd w w0.heap.size 189 encD Ap p.cells ∧ Rd w w0.heap.size 189 encD Aq q.cells ∧ Own w w0.heap.size 189 5 encD A14 c14 l ∧ Kept bV w0.heap.size w0 w) (fun (s : Nat × (List Dy) × Bool) => match s with | (i, l, f1) => (p.rows - i).toNat) (0, [], f) ?_ ?_
 · exact ⟨none, 0, hf.sub ⟨rfl, rfl, rfl, rfl, rfl, rfl, trivial⟩, (by omega), (by rw [Nat.zero_mul]; rfl), hBV, hB4, hB5, hB7, hB11, hr_p, hr_q, (Own.nil _ _ _ _ _), hW⟩
 rintro ⟨i, l, f1⟩ a w6 ⟨A14, c14, hf, hi, hl, hBV, hB4, hB5, hB7, hB11, hr_p, hr_q, ho14, hW⟩
 refine wp_seq_k ?_; intro K15 hK15
 refine wp_seq_k ?_; intro K16 hK16
 refine wp_region_lit ?_
 refine l_ev hf trivial rfl rfl (ev_move hf rfl) ?_; intro a hf
 refine l_ev hf trivial rfl rfl (ev_fieldB hf rfl fd_141_0 (m := 0) rfl) ?_; intro a hf
 refine l_ev hf trivial rfl rfl (ev_load1 hf rfl t1_3 (hB4.at 0)) ?_; intro a hf
 refine l_ev hf trivial rfl rfl (ev_lss hf rfl rfl) ?_; intro a hf
 refine wpList_nil ?_
 refine hK16 _ _ ?_; try clear hK16 K16
 refine c_if hf rfl (fun hc17 => ?_) (fun hc17 => ?_)
 ·have hc17b := hc17
  have hc17 := of_decide_eq_true hc17
  have hi1 : (i : Int) < p.rows := hc17
  refine wp_skip ?_
  refine hK15 _ _ ?_; try clear hK15 K15
  refine wp_seq_k ?_; intro K18 hK18
  refine wp_block ?_
  refine wp_seq_k ?_; intro K19 hK19
  refine wp_region_lit ?_
  refine l_ev hf trivial rfl rfl (ev_assign hf rfl) ?_; intro a hf
  refine wpList_nil ?_
  refine hK19 _ _ ?_; try clear hK19 K19
  refine wp_block ?_
  refine c_loop (σ := Nat × (List Dy) × Bool) (fun (s : Nat × (List Dy) × Bool) (a : Act) (w : World) => match s with | (j, l2, f2) => ∃ A20 c20, Fr a 75 [(0, .pointer (some ⟨bV, 0, none⟩)), (4, .pointer (some ⟨b4, 0, none⟩)), (5, .pointer (some ⟨b5, 0, none⟩)), (6, .pointer (some ⟨b7, 0, none⟩)), (7, .pointer (some ⟨b11, 0, none⟩)), (8, .int .i64 (i : Int)), (9, .int .i64 (j : Int))] ∧ (j ≤ q.cols.toNat) ∧ (timesL f p q (i * q.cols.toNat + j) = (f2, l2)) ∧ Blk w bV 194 [.bool f2] ∧ Blk w b4 141 [.int .i64 p.rows, .int .i64 (p.cols.toNat : Int), .slice Ap p.cells.length cp] ∧ Blk w b5 141 [.int .i64 q.rows, .int .i64 (q.cols.toNat : Int), .slice Aq q.cells.length cq] ∧ Blk w b7 141 [.int .i64 0, .int .i64 0, .slice none 0 0] ∧ Blk w b11 141 [.int .i64 p.rows, .int .i64 (q.cols.toNat : Int), .slice A20 l2.length c20] ∧ Rd w w0.heap.size 189 encD Ap p.cells ∧ Rd w w0.heap.size 189 encD Aq q.cells ∧ Own w w0.heap.size 189 5 encD A20 c20 l2 ∧ Kept bV w0.heap.size w0 w) (fun (s : Nat × (List Dy) × Bool) => match s with | (j, l2, f2) => q.cols.toNat - j) (0, l, f1) ?_ ?_
  · exact ⟨A14, c14, hf.sub ⟨rfl, rfl, rfl, rfl, rfl, rfl, rfl, trivial⟩, (Nat.zero_le _), hl, hBV, hB4, hB5, hB7, hB11, hr_p, hr_q, ho14, hW⟩
  rintro ⟨j, l2, f2⟩ a w7 ⟨A20, c20, hf, hj, hl2, hBV, hB4, hB5, hB7, hB11, hr_p, hr_q, ho20, hW⟩
  refine wp_seq_k ?_; intro K21 hK21
  refine wp_seq_k ?_; intro K22 hK22
  refine wp_region_lit ?_
  refine l_ev hf trivial rfl rfl (ev_move hf rfl) ?_; intro a hf
  refine l_ev hf trivial rfl rfl (ev_fieldB hf rfl fd_141_1 (m := 1) rfl) ?_; intro a hf
  refine l_ev hf trivial rfl rfl (ev_load1 hf rfl t1_3 (hB5.at 1)) ?_; intro a hf
  refine l_ev hf trivial rfl rfl (ev_lss hf rfl rfl) ?_; intro a hf
  refine wpList_nil ?_
  refine hK22 _ _ ?_; try clear hK22 K22
  refine c_if hf rfl (fun hc23 => ?_) (fun hc23 => ?_)
  ·have hc23b := hc23
   have hc23 := of_decide_eq_true hc23
   have hj1 : j < q.cols.toNat := by have := hc23; omega
   have hlen : l2.length = i * q.cols.toNat + j := by have := timesL_len f p q (i * q.cols.toNat + j); rw [hl2] at this; exact this
   have hgr := grid_le (show i ≤ 32 by omega) (show q.cols.toNat ≤ 32 by omega)
   have hts := timesL_step (f := f) (a := p) (b := q) (i := i) hj1
   rw [hl2] at hts
   refine wp_skip ?_
   refine hK21 _ _ ?_; try clear hK21 K21
   refine wp_seq_k ?_; intro K24 hK24
   refine wp_block ?_
   refine wp_seq_k ?_; intro K25 hK25
   refine wp_region_lit ?_
   refine l_ev hf trivial rfl rfl (ev_build (ps := []) (cs := [.int .i64 0, .int .i64 0, .int .i64 0, .int .i64 0, .int .i64 0]) hf rfl (fun _ => by first | rfl | kernel_rfl)) ?_; intro a hf
   refine l_eff hf trivial rfl rfl (ef_alloc (zs := [.int .i64 0, .int .i64 0, .int .i64 0, .int .i64 0, .int .i64 0]) z_189 rfl) ?_; rintro a _ w8 ⟨b26, rfl, hl26, hE, hB26⟩ hf
   have hlo26 := Nat.le_trans hW.size hl26
   have haw1_26 := hr_p.away hl26
   have haw2_26 := hr_q.away hl26
   have haw20_26 := ho20.away hl26
   replace hBV := hBV.below hE
   replace hB4 := hB4.below hE
   replace hB5 := hB5.below hE
   replace hB7 := hB7.below hE
   replace hB11 := hB11.below hE
   replace hr_p := hr_p.below hE
   replace hr_q := hr_q.below hE
   replace ho20 := ho20.below hE
   replace hW := hW.trans (hE.mono hW.size)
   clear hE
   refine l_eff0 hf trivial rfl (ef_store (vs := [.int .i64 0, .int .i64 0, .int .i64 0, .int .i64 0, .int .i64 0]) (l' := [.int .i64 0, .int .i64 0, .int .i64 0, .int .i64 0, .int .i64 0]) hf rfl rfl sz_189 hB26 rfl rfl rfl rfl rfl) ?_; rintro a _ w9 ⟨ho, hb⟩ hf
   have hold := hB26
   replace hBV := hBV.only ho (Blk.ne hBV hold rfl)
   replace hB4 := hB4.only ho (Blk.ne hB4 hold rfl)
   replace hB5 := hB5.only ho (Blk.ne hB5 hold rfl)
   replace hB7 := hB7.only ho (Blk.ne hB7 hold rfl)
   replace hB11 := hB11.only ho (Blk.ne hB11 hold rfl)
   replace hr_p := hr_p.only ho hlo26
   replace hr_q := hr_q.only ho hlo26
   replace ho20 := ho20.onlyA ho haw20_26
   replace hW := Kept.only hW ho hlo26
   clear hold
   have hB26 := hb
   clear hb ho
   refine wpList_nil ?_
   refine hK25 _ _ ?_; try clear hK25 K25
   refine wp_seq_k ?_; intro K27 hK27
   refine wp_seq_k ?_; intro K28 hK28
   refine wp_region_lit ?_
   refine l_ev hf trivial rfl rfl (ev_assign hf rfl) ?_; intro a hf
   refine wpList_nil ?_
   refine hK28 _ _ ?_; try clear hK28 K28
   refine wp_block ?_
   refine c_loop (σ := Nat × Dy × Bool) (fun (s : Nat × Dy × Bool) (a : Act) (w : World) => match s with | (k, sum, f3) => Fr a 75 [(0, .pointer (some ⟨bV, 0, none⟩)), (4, .pointer (some ⟨b4, 0, none⟩)), (5, .pointer (some ⟨b5, 0, none⟩)), (6, .pointer (some ⟨b7, 0, none⟩)), (7, .pointer (some ⟨b11, 0, none⟩)), (8, .int .i64 (i : Int)), (9, .int .i64 (j : Int)), (10, .pointer (some ⟨b26, 0, none⟩)), (11, .int .i64 (k : Int))] ∧ (k ≤ p.cols.toNat) ∧ (dotS f2 p q i j k = (f3, sum)) ∧ Blk w bV 194 [.bool f3] ∧ Blk w b4 141 [.int .i64 p.rows, .int .i64 (p.cols.toNat : Int), .slice Ap p.cells.length cp] ∧ Blk w b5 141 [.int .i64 q.rows, .int .i64 (q.cols.toNat : Int), .slice Aq q.cells.length cq] ∧ Blk w b7 141 [.int .i64 0, .int .i64 0, .slice none 0 0] ∧ Blk w b11 141 [.int .i64 p.rows, .int .i64 (q.cols.toNat : Int), .slice A20 l2.length c20] ∧ Blk w b26 189 [.int .i64 sum.num.a, .int .i64 sum.num.b, .int .i64 sum.num.c, .int .i64 sum.num.d, .int .i64 sum.exp] ∧ Rd w w0.heap.size 189 encD Ap p.cells ∧ Rd w w0.heap.size 189 encD Aq q.cells ∧ Own w w0.heap.size 189 5 encD A20 c20 l2 ∧ Kept bV w0.heap.size w0 w) (fun (s : Nat × Dy × Bool) => match s with | (k, sum, f3) => p.cols.toNat - k) (0, dZ, f2) ?_ ?_
   · exact ⟨hf.sub ⟨rfl, rfl, rfl, rfl, rfl, rfl, rfl, rfl, rfl, trivial⟩, (Nat.zero_le _), rfl, hBV, hB4, hB5, hB7, hB11, hB26, hr_p, hr_q, ho20, hW⟩
   rintro ⟨k, sum, f3⟩ a w10 ⟨hf, hk, hs, hBV, hB4, hB5, hB7, hB11, hB26, hr_p, hr_q, ho20, hW⟩
   have hse : 0 ≤ sum.exp ∧ sum.exp ≤ 60 := by have := dotS_exp hpa hqa f2 i j k; rw [hs] at this; exact this
   refine wp_seq_k ?_; intro K29 hK29
   refine wp_seq_k ?_; intro K30 hK30
   refine c_cut (fun a w => Fr a 75 [(0, .pointer (some ⟨bV, 0, none⟩)), (4, .pointer (some ⟨b4, 0, none⟩)), (5, .pointer (some ⟨b5, 0, none⟩)), (6, .pointer (some ⟨b7, 0, none⟩)), (7, .pointer (some ⟨b11, 0, none⟩)), (8, .int .i64 (i : Int)), (9, .int .i64 (j : Int)), (10, .pointer (some ⟨b26, 0, none⟩)), (11, .int .i64 (k : Int)), (40, .bool ((decide ((k : Int) < (p.cols.toNat : Int))) && (!f3)))] ∧ w10 = w) ?_ ?_
   ·refine wp_region_lit ?_
    refine l_ev hf trivial rfl rfl (ev_move hf rfl) ?_; intro a hf
    refine l_ev hf trivial rfl rfl (ev_fieldB hf rfl fd_141_1 (m := 1) rfl) ?_; intro a hf
    refine l_ev hf trivial rfl rfl (ev_load1 hf rfl t1_3 (hB4.at 1)) ?_; intro a hf
    refine l_ev hf trivial rfl rfl (ev_lss hf rfl rfl) ?_; intro a hf
    refine l_ev hf trivial rfl rfl (ev_move hf rfl) ?_; intro a hf
    refine g_split hf (t := 34) rfl (fun hg31 => ?_) (fun hg31 => ?_)
    ·refine l_ev hf ⟨_, _, rfl, rfl, hg31⟩ rfl rfl (ev_move hf rfl) ?_; intro a hf
     refine l_ev hf ⟨_, _, rfl, rfl, hg31⟩ rfl rfl (ev_nil hf rfl) ?_; intro a hf
     refine l_ev hf ⟨_, _, rfl, rfl, hg31⟩ rfl rfl (ev_fieldB hf rfl fd_194_0 (m := 0) rfl) ?_; intro a hf
     refine l_ev hf ⟨_, _, rfl, rfl, hg31⟩ rfl rfl (ev_load1 hf rfl t1_4 (hBV.at 0)) ?_; intro a hf
     refine l_ev hf ⟨_, _, rfl, rfl, hg31⟩ rfl rfl (ev_not hf rfl) ?_; intro a hf
     refine l_ev hf trivial rfl rfl (ev_pickT hf rfl hg31 rfl) ?_; intro a hf
     refine wpList_nil ?_
     exact ⟨hf.sub ⟨rfl, rfl, rfl, rfl, rfl, rfl, rfl, rfl, rfl, look_bool rfl (by first | rfl | (simp only [hc17b, hc23b, hg31, Bool.true_and, Bool.false_and, Bool.true_or, Bool.false_or]; done) | simp [hc17b, hc23b, hg31]), trivial⟩, rfl⟩
    ·refine l_pass hf ⟨_, _, rfl, rfl, hg31⟩ rfl rfl ?_; intro a hf
     refine l_pass hf ⟨_, _, rfl, rfl, hg31⟩ rfl rfl ?_; intro a hf
     refine l_pass hf ⟨_, _, rfl, rfl, hg31⟩ rfl rfl ?_; intro a hf
     refine l_pass hf ⟨_, _, rfl, rfl, hg31⟩ rfl rfl ?_; intro a hf
     refine l_pass hf ⟨_, _, rfl, rfl, hg31⟩ rfl rfl ?_; intro a hf
     refine l_ev hf trivial rfl rfl (ev_pickF hf rfl hg31 rfl) ?_; intro a hf
     refine wpList_nil ?_
     exact ⟨hf.sub ⟨rfl, rfl, rfl, rfl, rfl, rfl, rfl, rfl, rfl, look_bool rfl (by first | rfl | (simp only [hc17b, hc23b, hg31, Bool.true_and, Bool.false_and, Bool.true_or, Bool.false_or]; done) | simp [hc17b, hc23b, hg31]), trivial⟩, rfl⟩
   rintro a _ ⟨hf, rfl⟩
   refine hK30 _ _ ?_; try clear hK30 K30
   refine c_if hf rfl (fun hc32 => ?_) (fun hc32 => ?_)
   ·have hc32b := hc32
    have hlt : (k : Int) < (p.cols.toNat : Int) ∧ f3 = false := by simpa using hc32
    have hk1 : k < p.cols.toNat := by omega
    have hg1 := grid_le (show i ≤ 32 by omega) (show p.cols.toNat ≤ 32 by omega)
    have hg2 := grid_le (show k ≤ 32 by omega) (show q.cols.toNat ≤ 32 by omega)
    have hnx := dot_next hs hlt.2
    refine wp_skip ?_
    refine hK29 _ _ ?_; try clear hK29 K29
    refine wp_seq_k ?_; intro K33 hK33
    refine wp_block ?_
    refine wp_draw (some bV) (fun j => [25].contains j) mixed ?_
    intro w11 hE
    replace hBV := hBV.below hE
    replace hB4 := hB4.below hE
    replace hB5 := hB5.below hE
    replace hB7 := hB7.below hE
    replace hB11 := hB11.below hE
    replace hB26 := hB26.below hE
    replace hr_p := hr_p.below hE
    replace hr_q := hr_q.below hE
    replace ho20 := ho20.below hE
    replace hW := hW.trans (hE.mono hW.size)
    clear hE
    refine s_ev0 0 rfl (by kernel_rfl) hf trivial rfl rfl (fun _ => ev_move hf rfl) ?_; intro a hf
    refine s_evV 1 rfl (by kernel_rfl) (by kernel_rfl) hf trivial rfl rfl (fun w1 h1 => ev_loadN (l := [.int .i64 sum.num.a, .int .i64 sum.num.b, .int .i64 sum.num.c, .int .i64 sum.num.d, .int .i64 sum.exp]) hf rfl tN_189 ((hB26.only h1 (Blk.ne hB26 hBV rfl)).at 0) rfl) ?_; intro a hf
    refine s_ev0 2 rfl (by kernel_rfl) hf trivial rfl rfl (fun _ => ev_move hf rfl) ?_; intro a hf
    refine s_ev0 3 rfl (by kernel_rfl) hf trivial rfl rfl (fun _ => ev_fieldB hf rfl fd_141_2 (m := 2) rfl) ?_; intro a hf
    refine s_evV 4 rfl (by kernel_rfl) (by kernel_rfl) hf trivial rfl rfl (fun w1 h1 => ev_load1 hf rfl t1_139 ((hB4.only h1 (Blk.ne hB4 hBV rfl)).at 2)) ?_; intro a hf
    refine s_ev0 5 rfl (by kernel_rfl) hf trivial rfl rfl (fun _ => ev_move hf rfl) ?_; intro a hf
    refine s_ev0 6 rfl (by kernel_rfl) hf trivial rfl rfl (fun _ => ev_fieldB hf rfl fd_141_1 (m := 1) rfl) ?_; intro a hf
    refine s_evV 7 rfl (by kernel_rfl) (by kernel_rfl) hf trivial rfl rfl (fun w1 h1 => ev_load1 hf rfl t1_3 ((hB4.only h1 (Blk.ne hB4 hBV rfl)).at 1)) ?_; intro a hf
    refine s_ev0 8 rfl (by kernel_rfl) hf trivial rfl rfl (fun _ => ev_mulN (m := i) (k := p.cols.toNat) hf rfl rfl (by have := grid_le (show i ≤ 32 by omega) (show p.cols.toNat ≤ 32 by omega); omega)) ?_; intro a hf
    refine s_ev0 9 rfl (by kernel_rfl) hf trivial rfl rfl (fun _ => ev_move hf rfl) ?_; intro a hf
    refine s_ev0 10 rfl (by kernel_rfl) hf trivial rfl rfl (fun _ => ev_addx hf rfl rfl (by omega) (by omega)) ?_; intro a hf
    refine s_indexV (k := (i * p.cols.toNat + k)) (u := (p.at i k)) (enc := encD) (l := p.cells) 11 rfl (by kernel_rfl) hf trivial rfl hBV rfl rfl rfl sl_139 sz_189 encD_len hr_p (Mx.at_get (by rw [hpl.2.2]; exact grid_lt (by omega) (by omega))) (by omega) ?_; intro a p35 hat34 hat34n hf
    refine s_evV 12 rfl (by kernel_rfl) (by kernel_rfl) hf trivial rfl rfl (fun w1 h1 => ev_loadN (l := [.int .i64 ((p.at i k).num.a), .int .i64 ((p.at i k).num.b), .int .i64 ((p.at i k).num.c), .int .i64 ((p.at i k).num.d), .int .i64 ((p.at i k).exp)]) hf rfl tN_189 (hat34.only h1 hat34n) rfl) ?_; intro a hf
    refine s_ev0 13 rfl (by kernel_rfl) hf trivial rfl rfl (fun _ => ev_fieldB hf rfl fd_141_2 (m := 2) rfl) ?_; intro a hf
    refine s_evV 14 rfl (by kernel_rfl) (by kernel_rfl) hf trivial rfl rfl (fun w1 h1 => ev_load1 hf rfl t1_139 ((hB5.only h1 (Blk.ne hB5 hBV rfl)).at 2)) ?_; intro a hf
    refine s_ev0 15 rfl (by kernel_rfl) hf trivial rfl rfl (fun _ => ev_move hf rfl) ?_; intro a hf
    refine s_ev0 16 rfl (by kernel_rfl) hf trivial rfl rfl (fun _ => ev_fieldB hf rfl fd_141_1 (m := 1) rfl) ?_; intro a hf
    refine s_evV 17 rfl (by kernel_rfl) (by kernel_rfl) hf trivial rfl rfl (fun w1 h1 => ev_load1 hf rfl t1_3 ((hB5.only h1 (Blk.ne hB5 hBV rfl)).at 1)) ?_; intro a hf
    refine s_ev0 18 rfl (by kernel_rfl) hf trivial rfl rfl (fun _ => ev_mulN (m := k) (k := q.cols.toNat) hf rfl rfl (by have := grid_le (show k ≤ 32 by omega) (show q.cols.toNat ≤ 32 by omega); omega)) ?_; intro a hf
    refine s_ev0 19 rfl (by kernel_rfl) hf trivial rfl rfl (fun _ => ev_move hf rfl) ?_; intro a hf
    refine s_ev0 20 rfl (by kernel_rfl) hf trivial rfl rfl (fun _ => ev_addx hf rfl rfl (by omega) (by omega)) ?_; intro a hf
    refine s_indexV (k := (k * q.cols.toNat + j)) (u := (q.at k j)) (enc := encD) (l := q.cells) 21 rfl (by kernel_rfl) hf trivial rfl hBV rfl rfl rfl sl_139 sz_189 encD_len hr_q (Mx.at_get (by rw [hql.2.2]; exact grid_lt (by omega) (by omega))) (by omega) ?_; intro a p37 hat36 hat36n hf
    refine s_evV 22 rfl (by kernel_rfl) (by kernel_rfl) hf trivial rfl rfl (fun w1 h1 => ev_loadN (l := [.int .i64 ((q.at k j).num.a), .int .i64 ((q.at k j).num.b), .int .i64 ((q.at k j).num.c), .int .i64 ((q.at k j).num.d), .int .i64 ((q.at k j).exp)]) hf rfl tN_189 (hat36.only h1 hat36n) rfl) ?_; intro a hf
    refine s_one 23 (by kernel_rfl) ?_
    refine p_eff rfl hf trivial rfl rfl (Ef.mono (ef_call (vs := [.pointer (some ⟨bV, 0, none⟩), .agg #[.int .i64 ((p.at i k).num.a), .int .i64 ((p.at i k).num.b), .int .i64 ((p.at i k).num.c), .int .i64 ((p.at i k).num.d), .int .i64 ((p.at i k).exp)], .agg #[.int .i64 ((q.at k j).num.a), .int .i64 ((q.at k j).num.b), .int .i64 ((q.at k j).num.c), .int .i64 ((q.at k j).num.d), .int .i64 ((q.at k j).exp)]]) hf rfl ff_202 (F202 _ bV f3 hBV (p.at i k) (q.at k j) (dOk_exp (Mx.at_ok hpa i k)) (dOk_exp (Mx.at_ok hqa k j)))) (fun _ _ h => ⟨fun _ => by obtain ⟨rfl, hK, hbn⟩ := h; exact hK.keep, h⟩)) ?_; rintro a _ w12 ⟨rfl, hK, hbn⟩ hf
    obtain ⟨wm, hO, hm, hE⟩ := hK.mid; clear hm
    have hold := hBV
    replace hB4 := hB4.only hO (Blk.ne hB4 hold rfl)
    replace hB5 := hB5.only hO (Blk.ne hB5 hold rfl)
    replace hB7 := hB7.only hO (Blk.ne hB7 hold rfl)
    replace hB11 := hB11.only hO (Blk.ne hB11 hold rfl)
    replace hB26 := hB26.only hO (Blk.ne hB26 hold rfl)
    replace hr_p := hr_p.onlyT hO hold rfl
    replace hr_q := hr_q.onlyT hO hold rfl
    replace ho20 := ho20.onlyT hO hold rfl
    replace hW := hW.self hO
    replace hB4 := hB4.below hE
    replace hB5 := hB5.below hE
    replace hB7 := hB7.below hE
    replace hB11 := hB11.below hE
    replace hB26 := hB26.below hE
    replace hr_p := hr_p.below hE
    replace hr_q := hr_q.below hE
    replace ho20 := ho20.below hE
    replace hW := hW.trans (hE.mono hW.size)
    clear hold hE hO hK; replace hBV := hbn; clear hbn
    refine s_one 24 (by kernel_rfl) ?_
    refine p_eff rfl hf trivial rfl rfl (Ef.mono (ef_call (vs := [.pointer (some ⟨bV, 0, none⟩), .agg #[.int .i64 sum.num.a, .int .i64 sum.num.b, .int .i64 sum.num.c, .int .i64 sum.num.d, .int .i64 sum.exp], .agg #[.int .i64 (((sMul f3 (p.at i k) (q.at k j)).2).num.a), .int .i64 (((sMul f3 (p.at i k) (q.at k j)).2).num.b), .int .i64 (((sMul f3 (p.at i k) (q.at k j)).2).num.c), .int .i64 (((sMul f3 (p.at i k) (q.at k j)).2).num.d), .int .i64 (((sMul f3 (p.at i k) (q.at k j)).2).exp)]]) hf rfl ff_201 (F201 _ bV ((sMul f3 (p.at i k) (q.at k j)).1) hBV sum ((sMul f3 (p.at i k) (q.at k j)).2) hse (sMul_exp (dOk_exp (Mx.at_ok hpa i k)) (dOk_exp (Mx.at_ok hqa k j))))) (fun _ _ h => ⟨fun _ => by obtain ⟨rfl, hK, hbn⟩ := h; exact hK.keep, h⟩)) ?_; rintro a _ w13 ⟨rfl, hK, hbn⟩ hf
    obtain ⟨wm, hO, hm, hE⟩ := hK.mid; clear hm
    have hold := hBV
    replace hB4 := hB4.only hO (Blk.ne hB4 hold rfl)
    replace hB5 := hB5.only hO (Blk.ne hB5 hold rfl)
    replace hB7 := hB7.only hO (Blk.ne hB7 hold rfl)
    replace hB11 := hB11.only hO (Blk.ne hB11 hold rfl)
    replace hB26 := hB26.only hO (Blk.ne hB26 hold rfl)
    replace hr_p := hr_p.onlyT hO hold rfl
    replace hr_q := hr_q.onlyT hO hold rfl
    replace ho20 := ho20.onlyT hO hold rfl
    replace hW := hW.self hO
    replace hB4 := hB4.below hE
    replace hB5 := hB5.below hE
    replace hB7 := hB7.below hE
    replace hB11 := hB11.below hE
    replace hB26 := hB26.below hE
    replace hr_p := hr_p.below hE
    replace hr_q := hr_q.below hE
    replace ho20 := ho20.below hE
    replace hW := hW.trans (hE.mono hW.size)
    clear hold hE hO hK; replace hBV := hbn; clear hbn
    refine s_one 25 (by kernel_rfl) ?_
    refine p_eff0 rfl hf trivial rfl (Ef.mono (ef_store (vs := [.int .i64 (((sAdd ((sMul f3 (p.at i k) (q.at k j)).1) sum ((sMul f3 (p.at i k) (q.at k j)).2)).2).num.a), .int .i64 (((sAdd ((sMul f3 (p.at i k) (q.at k j)).1) sum ((sMul f3 (p.at i k) (q.at k j)).2)).2).num.b), .int .i64 (((sAdd ((sMul f3 (p.at i k) (q.at k j)).1) sum ((sMul f3 (p.at i k) (q.at k j)).2)).2).num.c), .int .i64 (((sAdd ((sMul f3 (p.at i k) (q.at k j)).1) sum ((sMul f3 (p.at i k) (q.at k j)).2)).2).num.d), .int .i64 (((sAdd ((sMul f3 (p.at i k) (q.at k j)).1) sum ((sMul f3 (p.at i k) (q.at k j)).2)).2).exp)]) (l' := [.int .i64 (((sAdd ((sMul f3 (p.at i k) (q.at k j)).1) sum ((sMul f3 (p.at i k) (q.at k j)).2)).2).num.a), .int .i64 (((sAdd ((sMul f3 (p.at i k) (q.at k j)).1) sum ((sMul f3 (p.at i k) (q.at k j)).2)).2).num.b), .int .i64 (((sAdd ((sMul f3 (p.at i k) (q.at k j)).1) sum ((sMul f3 (p.at i k) (q.at k j)).2)).2).num.c), .int .i64 (((sAdd ((sMul f3 (p.at i k) (q.at k j)).1) sum ((sMul f3 (p.at i k) (q.at k j)).2)).2).num.d), .int .i64 (((sAdd ((sMul f3 (p.at i k) (q.at k j)).1) sum ((sMul f3 (p.at i k) (q.at k j)).2)).2).exp)]) hf rfl rfl sz_189 hB26 rfl rfl rfl rfl rfl) (fun _ _ h => ⟨fun h0 => absurd h0 (by decide), h⟩)) ?_; rintro a _ w14 ⟨ho, hb⟩ hf
    have hold := hB26
    replace hBV := hBV.only ho (Blk.ne hBV hold rfl)
    replace hB4 := hB4.only ho (Blk.ne hB4 hold rfl)
    replace hB5 := hB5.only ho (Blk.ne hB5 hold rfl)
    replace hB7 := hB7.only ho (Blk.ne hB7 hold rfl)
    replace hB11 := hB11.only ho (Blk.ne hB11 hold rfl)
    replace hr_p := hr_p.only ho hlo26
    replace hr_q := hr_q.only ho hlo26
    replace ho20 := ho20.onlyA ho haw20_26
    replace hW := Kept.only hW ho hlo26
    clear hold
    have hB26 := hb
    clear hb ho
    refine s_done (by kernel_rfl) ?_
    refine x_norm ?_
    refine hK33 _ _ ?_; try clear hK33 K33
    refine wp_region_lit ?_
    refine l_ev hf trivial rfl rfl (ev_move hf rfl) ?_; intro a hf
    refine l_ev hf trivial rfl rfl (ev_addx hf rfl rfl (by omega) (by omega)) ?_; intro a hf
    refine l_ev hf trivial rfl rfl (ev_assign hf rfl) ?_; intro a hf
    refine wpList_nil ?_
    refine x_thenN ?_
    exact ⟨(k + 1, (sAdd (sMul f3 (p.at i k) (q.at k j)).1 sum (sMul f3 (p.at i k) (q.at k j)).2).2, (sAdd (sMul f3 (p.at i k) (q.at k j)).1 sum (sMul f3 (p.at i k) (q.at k j)).2).1), ⟨hf.sub ⟨rfl, rfl, rfl, rfl, rfl, rfl, rfl, rfl, rfl, trivial⟩, (by omega), hnx, hBV, hB4, hB5, hB7, hB11, hB26, hr_p, hr_q, ho20, hW⟩, (by first | omega | (dsimp only; omega))⟩
   ·have hc32b := hc32
    have hend : f3 = true ∨ k = p.cols.toNat := by (cases f3 with | true => exact .inl rfl | false => exact .inr (by have h9 : ¬ (k : Int) < (p.cols.toNat : Int) := (by simpa using hc32); omega))
    have hde := dot_end hs hk hend
    rw [hde] at hts
    refine wp_exit ?_
    refine x_exS ?_
    refine x_exS ?_
    refine x_exit ?_
    refine hK27 _ _ ?_; try clear hK27 K27
    refine wp_region_lit ?_
    refine l_ev hf trivial rfl rfl (ev_fieldB hf rfl fd_141_2 (m := 2) rfl) ?_; intro a hf
    refine l_ev hf trivial rfl rfl (ev_load1 hf rfl t1_139 (hB11.at 2)) ?_; intro a hf
    refine l_ev hf trivial rfl rfl (ev_loadN (l := [.int .i64 sum.num.a, .int .i64 sum.num.b, .int .i64 sum.num.c, .int .i64 sum.num.d, .int .i64 sum.exp]) hf rfl tN_189 (hB26.at 0) rfl) ?_; intro a hf
    refine l_eff hf trivial rfl rfl (ef_buildSlice (k := 1) (vs := [.agg #[.int .i64 sum.num.a, .int .i64 sum.num.b, .int .i64 sum.num.c, .int .i64 sum.num.d, .int .i64 sum.exp]]) (zs := [.int .i64 sum.num.a, .int .i64 sum.num.b, .int .i64 sum.num.c, .int .i64 sum.num.d, .int .i64 sum.exp]) hf rfl sl_139 inf_189 rfl rfl) ?_; rintro a _ w15 ⟨b38, rfl, hl38, hE, hB38⟩ hf
    have hne26_38 : b26 ≠ b38 := by have := hB26.lt; omega
    have hlo38 := Nat.le_trans hW.size hl38
    have haw1_38 := hr_p.away hl38
    have haw2_38 := hr_q.away hl38
    have haw20_38 := ho20.away hl38
    replace hBV := hBV.below hE
    replace hB4 := hB4.below hE
    replace hB5 := hB5.below hE
    replace hB7 := hB7.below hE
    replace hB11 := hB11.below hE
    replace hB26 := hB26.below hE
    replace hr_p := hr_p.below hE
    replace hr_q := hr_q.below hE
    replace ho20 := ho20.below hE
    replace hW := hW.trans (hE.mono hW.size)
    clear hE
    refine l_eff hf trivial rfl rfl (ef_append (enc := encD) (l := (l2)) (l2 := ([sum])) (B0 := w0.heap.size) hf rfl rfl sl_139 inf_189 encD_len encD_one ho20 (Rd.of_blk hB38 rfl _ hB38.lt) (by simp only [maxLen]; simp; omega) (by simp; omega) hW.size) ?_; rintro a _ w16 ⟨A40, c40, rfl, ho40, hg, hat⟩ hf
    have hown : Own _ w0.heap.size 189 5 encD _ _ (l2) := ho20
    have haw40_26 := hat _ hB26.lt haw20_26
    have haw40_38 := hat _ hB38.lt haw20_38
    clear hat
    replace hBV := hBV.appT hown hg rfl
    replace hB4 := hB4.appT hown hg rfl
    replace hB5 := hB5.appT hown hg rfl
    replace hB7 := hB7.appT hown hg rfl
    replace hB11 := hB11.appT hown hg rfl
    replace hB26 := hB26.appA hg haw20_26
    replace hr_p := hr_p.appB hown hg (Nat.le_refl _)
    replace hr_q := hr_q.appB hown hg (Nat.le_refl _)
    replace hW := Kept.app hW hown hg (Nat.le_refl _) hW.size
    clear hown hg
    refine l_ev hf trivial rfl rfl (ev_fieldB hf rfl fd_141_2 (m := 2) rfl) ?_; intro a hf
    refine l_eff0 hf trivial rfl (ef_store (vs := [.slice A40 (l2 ++ ([sum])).length c40]) (l' := [.int .i64 p.rows, .int .i64 (q.cols.toNat : Int), .slice A40 (l2 ++ ([sum])).length c40]) hf rfl rfl sz_139 hB11 rfl rfl rfl rfl rfl) ?_; rintro a _ w17 ⟨ho, hb⟩ hf
    have hold := hB11
    replace hBV := hBV.only ho (Blk.ne hBV hold rfl)
    replace hB4 := hB4.only ho (by omega)
    replace hB5 := hB5.only ho (by omega)
    replace hB7 := hB7.only ho (by omega)
    replace hB26 := hB26.only ho (Blk.ne hB26 hold rfl)
    replace hr_p := hr_p.onlyT ho hold rfl
    replace hr_q := hr_q.onlyT ho hold rfl
    replace ho40 := ho40.onlyT ho hold rfl
    replace hW := Kept.only hW ho hlo11
    clear hold
    have hB11 := hb
    clear hb ho
    refine wpList_nil ?_
    refine x_norm ?_
    refine hK24 _ _ ?_; try clear hK24 K24
    refine wp_region_lit ?_
    refine l_ev hf trivial rfl rfl (ev_move hf rfl) ?_; intro a hf
    refine l_ev hf trivial rfl rfl (ev_addx hf rfl rfl (by omega) (by omega)) ?_; intro a hf
    refine l_ev hf trivial rfl rfl (ev_assign hf rfl) ?_; intro a hf
    refine wpList_nil ?_
    refine x_thenN ?_
    exact ⟨(j + 1, l2 ++ [sum], f3), ⟨A40, c40, hf.sub ⟨rfl, rfl, rfl, rfl, rfl, rfl, rfl, trivial⟩, (by omega), hts, hBV, hB4, hB5, hB7, hB11, hr_p, hr_q, ho40, hW⟩, (by first | omega | (dsimp only; omega))⟩
  ·have hc23b := hc23
   have hc23 := of_decide_eq_false hc23
   have hj1 : j = q.cols.toNat := by have := hc23; omega
   refine wp_exit ?_
   refine x_exS ?_
   refine x_exS ?_
   refine x_exit ?_
   refine x_norm ?_
   refine hK18 _ _ ?_; try clear hK18 K18
   refine wp_region_lit ?_
   refine l_ev hf trivial rfl rfl (ev_move hf rfl) ?_; intro a hf
   refine l_ev hf trivial rfl rfl (ev_addx hf rfl rfl (by omega) (by omega)) ?_; intro a hf
   refine l_ev hf trivial rfl rfl (ev_assign hf rfl) ?_; intro a hf
   refine wpList_nil ?_
   refine x_thenN ?_
   exact ⟨(i + 1, l2, f2), ⟨A20, c20, hf.sub ⟨rfl, rfl, rfl, rfl, rfl, rfl, trivial⟩, (by omega), (by rw [Nat.add_mul, Nat.one_mul, ← hj1]; rw [← hj1] at hl2; exact hl2), hBV, hB4, hB5, hB7, hB11, hr_p, hr_q, ho20, hW⟩, (by first | omega | (dsimp only; omega))⟩
 ·have hc17b := hc17
  have hc17 := of_decide_eq_false hc17
  have hi1 : i = p.rows.toNat := by have := hc17; omega
  refine wp_exit ?_
  refine x_exS ?_
  refine x_exS ?_
  refine x_exit ?_
  refine hK12 _ _ ?_; try clear hK12 K12
  refine wp_seq_k ?_; intro K41 hK41
  refine wp_region_lit ?_
  refine l_ev hf trivial rfl rfl (ev_loadN (l := [.int .i64 p.rows, .int .i64 (q.cols.toNat : Int), .slice A14 l.length c14]) hf rfl tN_141 (hB11.at 0) rfl) ?_; intro a hf
  refine l_eff0 hf trivial rfl (ef_store (vs := [.int .i64 p.rows, .int .i64 (q.cols.toNat : Int), .slice A14 l.length c14]) (l' := [.int .i64 p.rows, .int .i64 (q.cols.toNat : Int), .slice A14 l.length c14]) hf rfl rfl sz_141 hB7 rfl rfl rfl rfl rfl) ?_; rintro a _ w18 ⟨ho, hb⟩ hf
  have hold := hB7
  replace hBV := hBV.only ho (Blk.ne hBV hold rfl)
  replace hB4 := hB4.only ho (by omega)
  replace hB5 := hB5.only ho (by omega)
  replace hB11 := hB11.only ho (by omega)
  replace hr_p := hr_p.onlyT ho hold rfl
  replace hr_q := hr_q.onlyT ho hold rfl
  replace ho14 := ho14.onlyT ho hold rfl
  replace hW := Kept.only hW ho hlo7
  clear hold
  have hB7 := hb
  clear hb ho
  refine wpList_nil ?_
  refine hK41 _ _ ?_; try clear hK41 K41
  refine wp_ret ?_
  refine c_ret hf (res1 hf rfl (ResV.cellN (l := [.int .i64 p.rows, .int .i64 (q.cols.toNat : Int), .slice A14 l.length c14]) rfl tN_141 (hB7.at 0) rfl)) ?_
  have hfin : timesS f p q = (f1, ⟨p.rows, q.cols, l⟩) := by rw [timesS, ← hi1, hl]
  rw [hfin]
  exact ⟨A14, c14, rfl, ho14, hW, hBV⟩
end Go.Proofs.YtfgnmflfiobkmaaGreat
set_option maxRecDepth 4000
namespace Go.Proofs.YtfgnmflfiobkmaaGreat
open Go.RowKit
theorem F171 (w0 : World) (bV : Nat) (f : Bool) (hBV : Blk w0 bV 194 [.bool f]) (c : Cx) (Ac : Option Addr) (cc : Nat) (hr_c : Rd w0 w0.heap.size 107 encG Ac c.gs) (m : Mx) (Am : Option Addr) (cm : Nat) (hr_m : Rd w0 w0.heap.size 189 encD Am m.cells) (hc : cOk c = true) (hm : mOk m = true) (hr : m.rows = ((2 ^ c.n.toNat : Nat) : Int)) : Ret Tryz.prog 171 [.pointer (some ⟨bV, 0, none⟩), .agg #[.int .i64 c.n, .slice Ac c.gs.length cc], .agg #[.int .i64 m.rows, .int .i64 m.cols, .slice Am m.cells.length cm]] w0 (fun v w => ∃ A c1, v = mV A c1 ((runS c.n f c.gs m).2) ∧ Rd w w.heap.size 189 encD A ((runS c.n f c.gs m).2).cells ∧ Kept bV w0.heap.size w0 w ∧ Blk w bV 194 [.bool ((runS c.n f c.gs m).1)]) := by
 have hltV := hBV.lt
 obtain ⟨hn, hlen, hgs⟩ := cOk_spec hc
 refine enter Tryz.func171 rfl 30 rfl rfl ?_
 intro a hf
 have hW : Kept bV w0.heap.size w0 w0 := Kept.refl _ _ _
 refine wp_seq_k ?_; intro K3 hK3
 refine wp_region_lit ?_
 refine l_eff hf trivial rfl rfl (ef_box (zs := [.int .i64 c.n, .slice Ac c.gs.length cc]) hf rfl rfl) ?_; rintro a _ w1 ⟨b4, rfl, hl4, hE, hB4⟩ hf
 have hlo4 := Nat.le_trans hW.size hl4
 replace hBV := hBV.below hE
 replace hr_c := hr_c.below hE
 replace hr_m := hr_m.below hE
 replace hW := hW.trans (hE.mono hW.size)
 clear hE
 refine l_eff hf trivial rfl rfl (ef_box (zs := [.int .i64 m.rows, .int .i64 m.cols, .slice Am m.cells.length cm]) hf rfl rfl) ?_; rintro a _ w2 ⟨b5, rfl, hl5, hE, hB5⟩ hf
 have hlo5 := Nat.le_trans hW.size hl5
 replace hBV := hBV.below hE
 replace hB4 := hB4.below hE
 replace hr_c := hr_c.below hE
 replace hr_m := hr_m.below hE
 replace hW := hW.trans (hE.mono hW.size)
 clear hE
 refine l_eff hf trivial rfl rfl (ef_alloc (zs := [.int .i64 0, .int .i64 0, .slice none 0 0]) z_141 rfl) ?_; rintro a _ w3 ⟨b7, rfl, hl7, hE, hB7⟩ hf
 have hne5_7 : b5 ≠ b7 := by have := hB5.lt; omega
 have hlo7 := Nat.le_trans hW.size hl7
 replace hBV := hBV.below hE
 replace hB4 := hB4.below hE
 replace hB5 := hB5.below hE
 replace hr_c := hr_c.below hE
 replace hr_m := hr_m.below hE
 replace hW := hW.trans (hE.mono hW.size)
 clear hE
 refine wpList_nil ?_
 refine hK3 _ _ ?_; try clear hK3 K3
 refine wp_seq_k ?_; intro K8 hK8
 refine wp_seq_k ?_; intro K9 hK9
 refine wp_region_lit ?_
 refine l_ev hf trivial rfl rfl (ev_fieldB hf rfl fd_41_1 (m := 1) rfl) ?_; intro a hf
 refine l_ev hf trivial rfl rfl (ev_load1 hf rfl t1_28 (hB4.at 1)) ?_; intro a hf
 refine l_ev hf trivial rfl rfl (ev_len hf rfl sl_28) ?_; intro a hf
 refine l_ev hf trivial rfl rfl (ev_move hf rfl) ?_; intro a hf
 refine wpList_nil ?_
 refine hK9 _ _ ?_; try clear hK9 K9
 refine wp_block ?_
 refine c_loop (σ := Nat × Mx × Bool) (fun (s : Nat × Mx × Bool) (a : Act) (w : World) => match s with | (k, x, f1) => ∃ A10 c10, Fr a 30 [(0, .pointer (some ⟨bV, 0, none⟩)), (4, .pointer (some ⟨b4, 0, none⟩)), (5, .pointer (some ⟨b5, 0, none⟩)), (6, .pointer (some ⟨b7, 0, none⟩)), (10, .slice Ac c.gs.length cc), (11, .int .i64 (c.gs.length : Int)), (12, .int .i64 (k : Int))] ∧ (runS c.n f1 (c.gs.drop k) x = runS c.n f c.gs m) ∧ (f1 = false → mOk x = true ∧ x.rows = ((2 ^ c.n.toNat : Nat) : Int)) ∧ (k ≤ c.gs.length) ∧ Blk w bV 194 [.bool f1] ∧ Blk w b4 41 [.int .i64 c.n, .slice Ac c.gs.length cc] ∧ Blk w b5 141 [.int .i64 x.rows, .int .i64 x.cols, .slice A10 x.cells.length c10] ∧ Blk w b7 141 [.int .i64 0, .int .i64 0, .slice none 0 0] ∧ Rd w w0.heap.size 107 encG Ac c.gs ∧ Rd w w.heap.size 189 encD A10 x.cells ∧ Kept bV w0.heap.size w0 w) (fun (s : Nat × Mx × Bool) => match s with | (k, x, f1) => c.gs.length - k) (0, m, f) ?_ ?_
 · exact ⟨Am, cm, hf.sub ⟨rfl, rfl, rfl, rfl, rfl, rfl, rfl, trivial⟩, rfl, (fun _ => ⟨hm, hr⟩), (Nat.zero_le _), hBV, hB4, hB5, hB7, hr_c, hr_m.top, hW⟩
 rintro ⟨k, x, f1⟩ a w4 ⟨A10, c10, hf, hinv, hok, hk, hBV, hB4, hB5, hB7, hr_c, hr10, hW⟩
 refine wp_seq_k ?_; intro K11 hK11
 refine wp_region_lit ?_
 refine l_ev hf trivial rfl rfl (ev_lss hf rfl rfl) ?_; intro a hf
 refine wpList_nil ?_
 refine hK11 _ _ ?_; try clear hK11 K11
 refine wp_seq_k ?_; intro K12 hK12
 refine c_if hf rfl (fun hc13 => ?_) (fun hc13 => ?_)
 ·have hc13b := hc13
  have hc13 := of_decide_eq_true hc13
  obtain ⟨u14, hu14⟩ := getElem_ex (l := c.gs) (k := k) (by omega)
  have hgu := hgs u14 (List.mem_of_getElem? hu14)
  obtain ⟨hg1, hg2⟩ := gate_eq hgu
  have hdr := drop_get hu14
  refine wp_skip ?_
  refine hK12 _ _ ?_; try clear hK12 K12
  refine wp_seq_k ?_; intro K15 hK15
  refine wp_block ?_
  refine wp_seq_k ?_; intro K16 hK16
  refine wp_region_lit ?_
  refine l_index (k := k) (u := u14) (enc := encG) (l := c.gs) hf trivial rfl rfl rfl sl_28 sz_107 encG_len hr_c hu14 rfl ?_; intro a p18 hat17 hf
  refine l_ev hf trivial rfl rfl (ev_loadN (l := [.int .i64 u14.k, .int .i64 u14.a, .int .i64 u14.b]) hf rfl tN_107 hat17 rfl) ?_; intro a hf
  refine l_eff hf trivial rfl rfl (ef_alloc (zs := [.int .i64 0, .int .i64 0, .int .i64 0]) z_107 rfl) ?_; rintro a _ w5 ⟨b19, rfl, hl19, hE, hB19⟩ hf
  have hlo19 := Nat.le_trans hW.size hl19
  have haw1_19 := hr_c.away hl19
  replace hBV := hBV.below hE
  replace hB4 := hB4.below hE
  replace hB5 := hB5.below hE
  replace hB7 := hB7.below hE
  replace hr_c := hr_c.below hE
  replace hr10 := hr10.below hE
  replace hW := hW.trans (hE.mono hW.size)
  clear hE
  refine l_eff0 hf trivial rfl (ef_store (vs := [.int .i64 u14.k, .int .i64 u14.a, .int .i64 u14.b]) (l' := [.int .i64 u14.k, .int .i64 u14.a, .int .i64 u14.b]) hf rfl rfl sz_107 hB19 rfl rfl rfl rfl rfl) ?_; rintro a _ w6 ⟨ho, hb⟩ hf
  have hold := hB19
  replace hBV := hBV.only ho (Blk.ne hBV hold rfl)
  replace hB4 := hB4.only ho (Blk.ne hB4 hold rfl)
  replace hB5 := hB5.only ho (Blk.ne hB5 hold rfl)
  replace hB7 := hB7.only ho (Blk.ne hB7 hold rfl)
  replace hr_c := hr_c.only ho hlo19
  replace hr10 := hr10.onlyT ho hold rfl
  replace hW := Kept.only hW ho hlo19
  clear hold
  have hB19 := hb
  clear hb ho
  refine wpList_nil ?_
  refine hK16 _ _ ?_; try clear hK16 K16
  refine wp_seq_k ?_; intro K20 hK20
  refine wp_region_lit ?_
  refine l_ev hf trivial rfl rfl (ev_move hf rfl) ?_; intro a hf
  refine l_ev hf trivial rfl rfl (ev_nil hf rfl) ?_; intro a hf
  refine l_ev hf trivial rfl rfl (ev_fieldB hf rfl fd_194_0 (m := 0) rfl) ?_; intro a hf
  refine l_ev hf trivial rfl rfl (ev_load1 hf rfl t1_4 (hBV.at 0)) ?_; intro a hf
  refine l_ev hf trivial rfl rfl (ev_not hf rfl) ?_; intro a hf
  refine wpList_nil ?_
  refine hK20 _ _ ?_; try clear hK20 K20
  refine c_if hf rfl (fun hc21 => ?_) (fun hc21 => ?_)
  ·have hc21b := hc21
   have hb1 : f1 = false := by simpa using hc21
   have hma := mul_agree hg2 (hok hb1).1 (by rw [(hok hb1).2]; rfl)
   have hrn : runS c.n f1 (c.gs.drop k) x = runS c.n (timesS f1 (gateS c.n u14) x).1 (c.gs.drop (k + 1)) (timesS f1 (gateS c.n u14) x).2 := by rw [hb1, hdr, runS, if_neg (by decide)]
   refine wp_draw (some bV) (fun j => [7].contains j) mixed ?_
   intro w7 hE
   replace hBV := hBV.below hE
   replace hB4 := hB4.below hE
   replace hB5 := hB5.below hE
   replace hB7 := hB7.below hE
   replace hB19 := hB19.below hE
   replace hr_c := hr_c.below hE
   replace hr10 := hr10.below hE
   replace hW := hW.trans (hE.mono hW.size)
   clear hE
   refine s_ev0 0 rfl (by kernel_rfl) hf trivial rfl rfl (fun _ => ev_move hf rfl) ?_; intro a hf
   refine s_ev0 1 rfl (by kernel_rfl) hf trivial rfl rfl (fun _ => ev_fieldB hf rfl fd_41_0 (m := 0) rfl) ?_; intro a hf
   refine s_evV 2 rfl (by kernel_rfl) (by kernel_rfl) hf trivial rfl rfl (fun w1 h1 => ev_load1 hf rfl t1_3 ((hB4.only h1 (Blk.ne hB4 hBV rfl)).at 0)) ?_; intro a hf
   refine s_evV 3 rfl (by kernel_rfl) (by kernel_rfl) hf trivial rfl rfl (fun w1 h1 => ev_loadN (l := [.int .i64 u14.k, .int .i64 u14.a, .int .i64 u14.b]) hf rfl tN_107 ((hB19.only h1 (Blk.ne hB19 hBV rfl)).at 0) rfl) ?_; intro a hf
   refine s_evV 5 rfl (by kernel_rfl) (by kernel_rfl) hf trivial rfl rfl (fun w1 h1 => ev_loadN (l := [.int .i64 x.rows, .int .i64 x.cols, .slice A10 x.cells.length c10]) hf rfl tN_141 ((hB5.only h1 (Blk.ne hB5 hBV rfl)).at 0) rfl) ?_; intro a hf
   refine s_one 4 (by kernel_rfl) ?_
   refine p_eff rfl hf trivial rfl rfl (Ef.mono (ef_call (vs := [.int .i64 c.n, .agg #[.int .i64 u14.k, .int .i64 u14.a, .int .i64 u14.b]]) hf rfl ff_143 (F143 _ c.n u14 hgu)) (fun _ _ h => ⟨fun _ => by obtain ⟨A22, c22, rfl, ho22, hE⟩ := h; exact Keep.of_below hE, h⟩)) ?_; rintro a _ w8 ⟨A22, c22, rfl, ho22, hE⟩ hf
   replace ho22 := ho22.lower hW.size
   replace hBV := hBV.below hE
   replace hB4 := hB4.below hE
   replace hB5 := hB5.below hE
   replace hB7 := hB7.below hE
   replace hB19 := hB19.below hE
   replace hr_c := hr_c.below hE
   replace hr10 := hr10.below hE
   replace hW := hW.trans (hE.mono hW.size)
   clear hE
   refine s_one 6 (by kernel_rfl) ?_
   refine p_eff rfl hf trivial rfl rfl (Ef.mono (ef_call (vs := [.pointer (some ⟨bV, 0, none⟩), .agg #[.int .i64 ((gateS c.n u14).rows), .int .i64 ((gateS c.n u14).cols), .slice A22 ((gateS c.n u14).cells).length c22], .agg #[.int .i64 x.rows, .int .i64 x.cols, .slice A10 x.cells.length c10]]) hf rfl ff_146 (F146 _ bV f1 hBV (gateS c.n u14) A22 c22 ho22.rd.top x A10 c10 hr10.top hg2 (hok hb1).1 (by rw [(hok hb1).2]; rfl))) (fun _ _ h => ⟨fun _ => by obtain ⟨A23, c23, rfl, ho23, hK, hbn⟩ := h; exact hK.keep, h⟩)) ?_; rintro a _ w9 ⟨A23, c23, rfl, ho23, hK, hbn⟩ hf
   have hlv := hW.size
   obtain ⟨wm, hO, hm, hE⟩ := hK.mid; clear hm
   have hold := hBV
   replace hB4 := hB4.only hO (Blk.ne hB4 hold rfl)
   replace hB5 := hB5.only hO (Blk.ne hB5 hold rfl)
   replace hB7 := hB7.only hO (Blk.ne hB7 hold rfl)
   replace hB19 := hB19.only hO (Blk.ne hB19 hold rfl)
   replace hr_c := hr_c.onlyT hO hold rfl
   replace hr10 := hr10.onlyT hO hold rfl
   replace ho22 := ho22.onlyT hO hold rfl
   replace hW := hW.self hO
   replace hB4 := hB4.below hE
   replace hB5 := hB5.below hE
   replace hB7 := hB7.below hE
   replace hB19 := hB19.below hE
   replace hr_c := hr_c.below hE
   replace hr10 := hr10.below hE
   replace ho22 := ho22.below hE
   replace hW := hW.trans (hE.mono hW.size)
   clear hold hE hO hK; replace hBV := hbn; clear hbn
   replace ho23 := ho23.lower hlv; clear hlv
   refine s_one 7 (by kernel_rfl) ?_
   refine p_eff0 rfl hf trivial rfl (Ef.mono (ef_store (vs := [.int .i64 (((timesS f1 (gateS c.n u14) x).2).rows), .int .i64 (((timesS f1 (gateS c.n u14) x).2).cols), .slice A23 (((timesS f1 (gateS c.n u14) x).2).cells).length c23]) (l' := [.int .i64 (((timesS f1 (gateS c.n u14) x).2).rows), .int .i64 (((timesS f1 (gateS c.n u14) x).2).cols), .slice A23 (((timesS f1 (gateS c.n u14) x).2).cells).length c23]) hf rfl rfl sz_141 hB5 rfl rfl rfl rfl rfl) (fun _ _ h => ⟨fun h0 => absurd h0 (by decide), h⟩)) ?_; rintro a _ w10 ⟨ho, hb⟩ hf
   have hold := hB5
   replace hBV := hBV.only ho (Blk.ne hBV hold rfl)
   replace hB4 := hB4.only ho (Blk.ne hB4 hold rfl)
   replace hB7 := hB7.only ho (by omega)
   replace hB19 := hB19.only ho (Blk.ne hB19 hold rfl)
   replace hr_c := hr_c.onlyT ho hold rfl
   replace hr10 := hr10.onlyT ho hold rfl
   replace ho22 := ho22.onlyT ho hold rfl
   replace ho23 := ho23.onlyT ho hold rfl
   replace hW := Kept.only hW ho hlo5
   clear hold
   have hB5 := hb
   clear hb ho
   refine s_done (by kernel_rfl) ?_
   refine x_norm ?_
   refine hK15 _ _ ?_; try clear hK15 K15
   refine wp_region_lit ?_
   refine l_ev hf trivial rfl rfl (ev_addx hf rfl rfl (by omega) (by omega)) ?_; intro a hf
   refine l_ev hf trivial rfl rfl (ev_move hf rfl) ?_; intro a hf
   refine wpList_nil ?_
   refine x_thenN ?_
   exact ⟨(k + 1, (timesS f1 (gateS c.n u14) x).2, (timesS f1 (gateS c.n u14) x).1), ⟨A23, c23, hf.sub ⟨rfl, rfl, rfl, rfl, rfl, rfl, rfl, trivial⟩, (by rw [← hinv, hrn]), (by rw [hb1]; intro h0; cases h1 : mulI (gateS c.n u14) x with | none => rw [hma.2 h1] at h0; cases h0 | some x1 => rw [(hma.1 x1 h1).1]; exact ⟨(hma.1 x1 h1).2.1, by rw [(hma.1 x1 h1).2.2.1]; rfl⟩), (by omega), hBV, hB4, hB5, hB7, hr_c, ho23.rd, hW⟩, (by first | omega | (dsimp only; omega))⟩
  ·have hc21b := hc21
   have hb1 : f1 = true := by simpa using hc21
   have hrn : runS c.n f1 (c.gs.drop k) x = runS c.n f1 (c.gs.drop (k + 1)) x := by rw [hb1, runS_true, runS_true]
   refine wp_skip ?_
   refine x_norm ?_
   refine hK15 _ _ ?_; try clear hK15 K15
   refine wp_region_lit ?_
   refine l_ev hf trivial rfl rfl (ev_addx hf rfl rfl (by omega) (by omega)) ?_; intro a hf
   refine l_ev hf trivial rfl rfl (ev_move hf rfl) ?_; intro a hf
   refine wpList_nil ?_
   refine x_thenN ?_
   exact ⟨(k + 1, x, f1), ⟨A10, c10, hf.sub ⟨rfl, rfl, rfl, rfl, rfl, rfl, rfl, trivial⟩, (by rw [← hinv, hrn]), (fun h0 => by rw [hb1] at h0; cases h0), (by omega), hBV, hB4, hB5, hB7, hr_c, hr10.top, hW⟩, (by first | omega | (dsimp only; omega))⟩
 ·have hc13b := hc13
  have hc13 := of_decide_eq_false hc13
  refine wp_exit ?_
  refine x_exS ?_
  refine x_exS ?_
  refine x_exit ?_
  refine hK8 _ _ ?_; try clear hK8 K8
  refine wp_seq_k ?_; intro K24 hK24
  refine wp_region_lit ?_
  refine l_ev hf trivial rfl rfl (ev_loadN (l := [.int .i64 x.rows, .int .i64 x.cols, .slice A10 x.cells.length c10]) hf rfl tN_141 (hB5.at 0) rfl) ?_; intro a hf
  refine l_eff0 hf trivial rfl (ef_store (vs := [.int .i64 x.rows, .int .i64 x.cols, .slice A10 x.cells.length c10]) (l' := [.int .i64 x.rows, .int .i64 x.cols, .slice A10 x.cells.length c10]) hf rfl rfl sz_141 hB7 rfl rfl rfl rfl rfl) ?_; rintro a _ w11 ⟨ho, hb⟩ hf
  have hold := hB7
  replace hBV := hBV.only ho (Blk.ne hBV hold rfl)
  replace hB4 := hB4.only ho (Blk.ne hB4 hold rfl)
  replace hB5 := hB5.only ho (by omega)
  replace hr_c := hr_c.onlyT ho hold rfl
  replace hr10 := hr10.onlyT ho hold rfl
  replace hW := Kept.only hW ho hlo7
  clear hold
  have hB7 := hb
  clear hb ho
  refine wpList_nil ?_
  refine hK24 _ _ ?_; try clear hK24 K24
  refine wp_ret ?_
  refine c_ret hf (res1 hf rfl (ResV.cellN (l := [.int .i64 x.rows, .int .i64 x.cols, .slice A10 x.cells.length c10]) rfl tN_141 (hB7.at 0) rfl)) ?_
  have hfin : runS c.n f c.gs m = (f1, x) := by rw [← hinv, List.drop_of_length_le (by omega)]; rfl
  rw [hfin]
  exact ⟨A10, c10, rfl, hr10.top, hW, hBV⟩
theorem F170 (w0 : World) (bV : Nat) (f : Bool) (hBV : Blk w0 bV 194 [.bool f]) (m : Mx) (Am : Option Addr) (cm : Nat) (hr_m : Rd w0 w0.heap.size 189 encD Am m.cells) : Ret Tryz.prog 170 [.pointer (some ⟨bV, 0, none⟩), .agg #[.int .i64 m.rows, .int .i64 m.cols, .slice Am m.cells.length cm]] w0 (fun v w => ∃ A c1, v = .tuple #[mV A c1 (if f = true then mZ else m), .bool (!f)] ∧ Rd w w.heap.size 189 encD A (if f = true then mZ else m).cells ∧ Kept bV w0.heap.size w0 w ∧ Blk w bV 194 [.bool f]) := by
 have hltV := hBV.lt
 refine enter Tryz.func170 rfl 12 rfl rfl ?_
 intro a hf
 have hW : Kept bV w0.heap.size w0 w0 := Kept.refl _ _ _
 refine wp_seq_k ?_; intro K2 hK2
 refine wp_region_lit ?_
 refine l_eff hf trivial rfl rfl (ef_box (zs := [.int .i64 m.rows, .int .i64 m.cols, .slice Am m.cells.length cm]) hf rfl rfl) ?_; rintro a _ w1 ⟨b3, rfl, hl3, hE, hB3⟩ hf
 have hlo3 := Nat.le_trans hW.size hl3
 replace hBV := hBV.below hE
 replace hr_m := hr_m.below hE
 replace hW := hW.trans (hE.mono hW.size)
 clear hE
 refine l_eff hf trivial rfl rfl (ef_alloc (zs := [.int .i64 0, .int .i64 0, .slice none 0 0]) z_141 rfl) ?_; rintro a _ w2 ⟨b5, rfl, hl5, hE, hB5⟩ hf
 have hne3_5 : b3 ≠ b5 := by have := hB3.lt; omega
 have hlo5 := Nat.le_trans hW.size hl5
 replace hBV := hBV.below hE
 replace hB3 := hB3.below hE
 replace hr_m := hr_m.below hE
 replace hW := hW.trans (hE.mono hW.size)
 clear hE
 refine l_ev hf trivial rfl rfl (ev_assign hf rfl) ?_; intro a hf
 refine wpList_nil ?_
 refine hK2 _ _ ?_; try clear hK2 K2
 refine wp_seq_k ?_; intro K6 hK6
 refine wp_seq_k ?_; intro K7 hK7
 refine wp_region_lit ?_
 refine l_ev hf trivial rfl rfl (ev_move hf rfl) ?_; intro a hf
 refine l_ev hf trivial rfl rfl (ev_nil hf rfl) ?_; intro a hf
 refine l_ev hf trivial rfl rfl (ev_fieldB hf rfl fd_194_0 (m := 0) rfl) ?_; intro a hf
 refine l_ev hf trivial rfl rfl (ev_load1 hf rfl t1_4 (hBV.at 0)) ?_; intro a hf
 refine wpList_nil ?_
 refine hK7 _ _ ?_; try clear hK7 K7
 refine c_if hf rfl (fun hc8 => ?_) (fun hc8 => ?_)
 ·have hc8b := hc8
  have hb : f = true := hc8
  have hfin : (if f = true then mZ else m) = mZ := if_pos hb
  have hfi2 : (!f) = false := by rw [hb]; rfl
  refine wp_seq_k ?_; intro K9 hK9
  refine wp_region_lit ?_
  refine l_ev hf trivial rfl rfl (ev_build (ps := []) (cs := [.int .i64 0, .int .i64 0, .slice none 0 0]) hf rfl (fun _ => by first | rfl | kernel_rfl)) ?_; intro a hf
  refine l_eff0 hf trivial rfl (ef_store (vs := [.int .i64 0, .int .i64 0, .slice none 0 0]) (l' := [.int .i64 0, .int .i64 0, .slice none 0 0]) hf rfl rfl sz_141 hB5 rfl rfl rfl rfl rfl) ?_; rintro a _ w3 ⟨ho, hb⟩ hf
  have hold := hB5
  replace hBV := hBV.only ho (Blk.ne hBV hold rfl)
  replace hB3 := hB3.only ho (by omega)
  replace hr_m := hr_m.onlyT ho hold rfl
  replace hW := Kept.only hW ho hlo5
  clear hold
  have hB5 := hb
  clear hb ho
  refine l_ev hf trivial rfl rfl (ev_assign hf rfl) ?_; intro a hf
  refine wpList_nil ?_
  refine hK9 _ _ ?_; try clear hK9 K9
  refine wp_ret ?_
  refine x_retS ?_
  refine c_ret hf (res2 hf rfl (ResV.cellN (l := [.int .i64 0, .int .i64 0, .slice none 0 0]) rfl tN_141 (hB5.at 0) rfl) rfl) ?_
  rw [hfin, hfi2]
  exact ⟨none, 0, rfl, (Rd.nil _ 0 _ _ _).top, hW, hBV⟩
 ·have hc8b := hc8
  have hb : f = false := hc8
  have hfin : (if f = true then mZ else m) = m := if_neg (by rw [hb]; simp)
  have hfi2 : (!f) = true := by rw [hb]; rfl
  refine wp_skip ?_
  refine hK6 _ _ ?_; try clear hK6 K6
  refine wp_seq_k ?_; intro K11 hK11
  refine wp_region_lit ?_
  refine l_ev hf trivial rfl rfl (ev_loadN (l := [.int .i64 m.rows, .int .i64 m.cols, .slice Am m.cells.length cm]) hf rfl tN_141 (hB3.at 0) rfl) ?_; intro a hf
  refine l_eff0 hf trivial rfl (ef_store (vs := [.int .i64 m.rows, .int .i64 m.cols, .slice Am m.cells.length cm]) (l' := [.int .i64 m.rows, .int .i64 m.cols, .slice Am m.cells.length cm]) hf rfl rfl sz_141 hB5 rfl rfl rfl rfl rfl) ?_; rintro a _ w4 ⟨ho, hb⟩ hf
  have hold := hB5
  replace hBV := hBV.only ho (Blk.ne hBV hold rfl)
  replace hB3 := hB3.only ho (by omega)
  replace hr_m := hr_m.onlyT ho hold rfl
  replace hW := Kept.only hW ho hlo5
  clear hold
  have hB5 := hb
  clear hb ho
  refine l_ev hf trivial rfl rfl (ev_assign hf rfl) ?_; intro a hf
  refine wpList_nil ?_
  refine hK11 _ _ ?_; try clear hK11 K11
  refine wp_ret ?_
  refine c_ret hf (res2 hf rfl (ResV.cellN (l := [.int .i64 m.rows, .int .i64 m.cols, .slice Am m.cells.length cm]) rfl tN_141 (hB5.at 0) rfl) rfl) ?_
  rw [hfin, hfi2]
  exact ⟨Am, cm, rfl, hr_m.top, hW, hBV⟩
theorem F129 (w0 : World) (c : Cx) (Ac : Option Addr) (cc : Nat) (hr_c : Rd w0 w0.heap.size 107 encG Ac c.gs) : Ret Tryz.prog 129 [.agg #[.int .i64 c.n, .slice Ac c.gs.length cc]] w0 (fun v w => ∃ A c1, v = .tuple #[mV A c1 ((opS c).getD mZ), .bool (opS c).isSome] ∧ Rd w w.heap.size 189 encD A ((opS c).getD mZ).cells ∧ Below w0.heap.size w0 w) := by
 refine enter Tryz.func129 rfl 23 rfl rfl ?_
 intro a hf
 have hW : Below w0.heap.size w0 w0 := Below.refl _ _
 refine wp_seq_k ?_; intro K2 hK2
 refine wp_region_lit ?_
 refine l_eff hf trivial rfl rfl (ef_box (zs := [.int .i64 c.n, .slice Ac c.gs.length cc]) hf rfl rfl) ?_; rintro a _ w1 ⟨b3, rfl, hl3, hE, hB3⟩ hf
 have hlo3 := Nat.le_trans hW.size hl3
 replace hr_c := hr_c.below hE
 replace hW := hW.trans (hE.mono hW.size)
 clear hE
 refine l_eff hf trivial rfl rfl (ef_alloc (zs := [.int .i64 0, .int .i64 0, .slice none 0 0]) z_141 rfl) ?_; rintro a _ w2 ⟨b5, rfl, hl5, hE, hB5⟩ hf
 have hlo5 := Nat.le_trans hW.size hl5
 replace hB3 := hB3.below hE
 replace hr_c := hr_c.below hE
 replace hW := hW.trans (hE.mono hW.size)
 clear hE
 refine l_ev hf trivial rfl rfl (ev_assign hf rfl) ?_; intro a hf
 refine wpList_nil ?_
 refine hK2 _ _ ?_; try clear hK2 K2
 refine wp_seq_k ?_; intro K6 hK6
 refine wp_seq_k ?_; intro K7 hK7
 refine wp_region_lit ?_
 refine l_ev hf trivial rfl rfl (ev_loadN (l := [.int .i64 c.n, .slice Ac c.gs.length cc]) hf rfl tN_41 (hB3.at 0) rfl) ?_; intro a hf
 refine l_eff hf trivial rfl rfl (ef_call (vs := [.agg #[.int .i64 c.n, .slice Ac c.gs.length cc]]) hf rfl ff_53 (F53 _ c Ac cc hr_c.top)) ?_; rintro a _ w3 ⟨rfl, hE⟩ hf
 replace hB3 := hB3.below hE
 replace hB5 := hB5.below hE
 replace hr_c := hr_c.below hE
 replace hW := hW.trans (hE.mono hW.size)
 clear hE
 refine l_ev hf trivial rfl rfl (ev_not hf rfl) ?_; intro a hf
 refine wpList_nil ?_
 refine hK7 _ _ ?_; try clear hK7 K7
 refine c_if hf rfl (fun hc8 => ?_) (fun hc8 => ?_)
 ·have hc8b := hc8
  have hn : ¬ cOk c = true := by revert hc8; cases cOk c <;> simp
  refine wp_seq_k ?_; intro K9 hK9
  refine wp_region_lit ?_
  refine l_ev hf trivial rfl rfl (ev_build (ps := []) (cs := [.int .i64 0, .int .i64 0, .slice none 0 0]) hf rfl (fun _ => by first | rfl | kernel_rfl)) ?_; intro a hf
  refine l_eff0 hf trivial rfl (ef_store (vs := [.int .i64 0, .int .i64 0, .slice none 0 0]) (l' := [.int .i64 0, .int .i64 0, .slice none 0 0]) hf rfl rfl sz_141 hB5 rfl rfl rfl rfl rfl) ?_; rintro a _ w4 ⟨ho, hb⟩ hf
  have hold := hB5
  replace hB3 := hB3.only ho (Blk.ne hB3 hold rfl)
  replace hr_c := hr_c.onlyT ho hold rfl
  replace hW := Below.only hW ho hlo5
  clear hold
  have hB5 := hb
  clear hb ho
  refine l_ev hf trivial rfl rfl (ev_assign hf rfl) ?_; intro a hf
  refine wpList_nil ?_
  refine hK9 _ _ ?_; try clear hK9 K9
  refine wp_ret ?_
  refine x_retS ?_
  refine c_ret hf (res2 hf rfl (ResV.cellN (l := [.int .i64 0, .int .i64 0, .slice none 0 0]) rfl tN_141 (hB5.at 0) rfl) rfl) ?_
  have hfin : opS c = none := by rw [opS, if_neg hn]
  rw [hfin]
  exact ⟨none, 0, rfl, (Rd.nil _ 0 _ _ _).top, hW⟩
 ·have hc8b := hc8
  have hc : cOk c = true := by revert hc8; cases cOk c <;> simp
  obtain ⟨hn, hlen, hgs⟩ := cOk_spec hc
  obtain ⟨d, hd⟩ : ∃ d : Nat, d = 2 ^ c.n.toNat := ⟨_, rfl⟩
  refine wp_skip ?_
  refine hK6 _ _ ?_; try clear hK6 K6
  refine wp_seq_k ?_; intro K11 hK11
  refine wp_region_lit ?_
  refine l_ev hf trivial rfl rfl (ev_build (ps := []) (cs := [.bool false]) hf rfl (fun _ => by first | rfl | kernel_rfl)) ?_; intro a hf
  refine l_eff hf trivial rfl rfl (ef_box (zs := [.bool false]) hf rfl rfl) ?_; rintro a _ w5 ⟨b12, rfl, hl12, hE, hB12⟩ hf
  have hlo12 := Nat.le_trans hW.size hl12
  replace hB3 := hB3.below hE
  replace hB5 := hB5.below hE
  replace hr_c := hr_c.below hE
  replace hW := hW.trans (hE.mono hW.size)
  clear hE
  refine l_ev hf trivial rfl rfl (ev_assign hf rfl) ?_; intro a hf
  refine wpList_nil ?_
  refine hK11 _ _ ?_; try clear hK11 K11
  refine wp_seq_k ?_; intro K13 hK13
  refine wp_draw (some b12) (fun j => [12].contains j) mixed ?_
  intro w6 hE
  replace hB3 := hB3.below hE
  replace hB5 := hB5.below hE
  replace hB12 := hB12.below hE
  replace hr_c := hr_c.below hE
  replace hW := hW.trans (hE.mono hW.size)
  clear hE
  refine s_ev0 0 rfl (by kernel_rfl) hf trivial rfl rfl (fun _ => ev_move hf rfl) ?_; intro a hf
  refine s_ev0 1 rfl (by kernel_rfl) hf trivial rfl rfl (fun _ => ev_move hf rfl) ?_; intro a hf
  refine s_evV 2 rfl (by kernel_rfl) (by kernel_rfl) hf trivial rfl rfl (fun w1 h1 => ev_loadN (l := [.int .i64 c.n, .slice Ac c.gs.length cc]) hf rfl tN_41 ((hB3.only h1 (Blk.ne hB3 hB12 rfl)).at 0) rfl) ?_; intro a hf
  refine s_ev0 3 rfl (by kernel_rfl) hf trivial rfl rfl (fun _ => ev_fieldB hf rfl fd_41_0 (m := 0) rfl) ?_; intro a hf
  refine s_evV 4 rfl (by kernel_rfl) (by kernel_rfl) hf trivial rfl rfl (fun w1 h1 => ev_load1 hf rfl t1_3 ((hB3.only h1 (Blk.ne hB3 hB12 rfl)).at 0)) ?_; intro a hf
  refine s_ev0 5 rfl (by kernel_rfl) hf trivial rfl rfl (fun _ => ev_toU (m := c.n.toNat) Tryz.underlying3 Tryz.underlying181 hf rfl (by omega) (by omega)) ?_; intro a hf
  refine s_ev0 6 rfl (by kernel_rfl) hf trivial rfl rfl (fun _ => ev_shl1 (m := c.n.toNat) (D := d) hf rfl rfl rfl ⟨hd, by omega⟩) ?_; intro a hf
  refine s_one 7 (by kernel_rfl) ?_
  refine p_eff rfl hf trivial rfl rfl (Ef.mono (ef_call (vs := [.int .i64 (d : Int)]) hf rfl ff_172 (F172 _ d (by rw [hd]; exact pow_le32 hn.2))) (fun _ _ h => ⟨fun _ => by obtain ⟨A14, c14, rfl, ho14, hE⟩ := h; exact Keep.of_below hE, h⟩)) ?_; rintro a _ w7 ⟨A14, c14, rfl, ho14, hE⟩ hf
  replace ho14 := ho14.lower hW.size
  replace hB3 := hB3.below hE
  replace hB5 := hB5.below hE
  replace hB12 := hB12.below hE
  replace hr_c := hr_c.below hE
  replace hW := hW.trans (hE.mono hW.size)
  clear hE
  refine s_one 8 (by kernel_rfl) ?_
  refine p_eff rfl hf trivial rfl rfl (Ef.mono (ef_call (vs := [.pointer (some ⟨b12, 0, none⟩), .agg #[.int .i64 c.n, .slice Ac c.gs.length cc], .agg #[.int .i64 ((unitS d).rows), .int .i64 ((unitS d).cols), .slice A14 ((unitS d).cells).length c14]]) hf rfl ff_171 (F171 _ b12 false hB12 c Ac cc hr_c.top (unitS d) A14 c14 ho14.rd.top hc (idI_unit (by rw [hd]; exact isDim_pow hn)).2 (by rw [← hd]; rfl))) (fun _ _ h => ⟨fun _ => by obtain ⟨A15, c15, rfl, hr15, hK, hbn⟩ := h; exact hK.keep, h⟩)) ?_; rintro a _ w8 ⟨A15, c15, rfl, hr15, hK, hbn⟩ hf
  obtain ⟨wm, hO, hm, hE⟩ := hK.mid; clear hm
  have hold := hB12
  replace hB3 := hB3.only hO (Blk.ne hB3 hold rfl)
  replace hB5 := hB5.only hO (Blk.ne hB5 hold rfl)
  replace hr_c := hr_c.onlyT hO hold rfl
  replace ho14 := ho14.onlyT hO hold rfl
  replace hW := Below.only hW hO hlo12
  replace hB3 := hB3.below hE
  replace hB5 := hB5.below hE
  replace hr_c := hr_c.below hE
  replace ho14 := ho14.below hE
  replace hW := hW.trans (hE.mono hW.size)
  clear hold hE hO hK; replace hB12 := hbn; clear hbn
  refine s_one 9 (by kernel_rfl) ?_
  refine p_eff rfl hf trivial rfl rfl (Ef.mono (ef_call (vs := [.pointer (some ⟨b12, 0, none⟩), .agg #[.int .i64 (((runS c.n false c.gs (unitS d)).2).rows), .int .i64 (((runS c.n false c.gs (unitS d)).2).cols), .slice A15 (((runS c.n false c.gs (unitS d)).2).cells).length c15]]) hf rfl ff_170 (F170 _ b12 ((runS c.n false c.gs (unitS d)).1) hB12 ((runS c.n false c.gs (unitS d)).2) A15 c15 hr15.top)) (fun _ _ h => ⟨fun _ => by obtain ⟨A16, c16, rfl, hr16, hK, hbn⟩ := h; exact hK.keep, h⟩)) ?_; rintro a _ w9 ⟨A16, c16, rfl, hr16, hK, hbn⟩ hf
  obtain ⟨wm, hO, hm, hE⟩ := hK.mid; clear hm
  have hold := hB12
  replace hB3 := hB3.only hO (Blk.ne hB3 hold rfl)
  replace hB5 := hB5.only hO (Blk.ne hB5 hold rfl)
  replace hr_c := hr_c.onlyT hO hold rfl
  replace ho14 := ho14.onlyT hO hold rfl
  replace hr15 := hr15.onlyT hO hold rfl
  replace hW := Below.only hW hO hlo12
  replace hB3 := hB3.below hE
  replace hB5 := hB5.below hE
  replace hr_c := hr_c.below hE
  replace ho14 := ho14.below hE
  replace hr15 := hr15.below hE
  replace hW := hW.trans (hE.mono hW.size)
  clear hold hE hO hK; replace hB12 := hbn; clear hbn
  refine s_ev0 10 rfl (by kernel_rfl) hf trivial rfl rfl (fun _ => ev_extract (vs := [.agg #[.int .i64 ((if ((runS c.n false c.gs (unitS d)).1) = true then mZ else ((runS c.n false c.gs (unitS d)).2)).rows), .int .i64 ((if ((runS c.n false c.gs (unitS d)).1) = true then mZ else ((runS c.n false c.gs (unitS d)).2)).cols), .slice A16 ((if ((runS c.n false c.gs (unitS d)).1) = true then mZ else ((runS c.n false c.gs (unitS d)).2)).cells).length c16], .bool (!((runS c.n false c.gs (unitS d)).1))]) hf rfl rfl) ?_; intro a hf
  refine s_ev0 11 rfl (by kernel_rfl) hf trivial rfl rfl (fun _ => ev_extract (vs := [.agg #[.int .i64 ((if ((runS c.n false c.gs (unitS d)).1) = true then mZ else ((runS c.n false c.gs (unitS d)).2)).rows), .int .i64 ((if ((runS c.n false c.gs (unitS d)).1) = true then mZ else ((runS c.n false c.gs (unitS d)).2)).cols), .slice A16 ((if ((runS c.n false c.gs (unitS d)).1) = true then mZ else ((runS c.n false c.gs (unitS d)).2)).cells).length c16], .bool (!((runS c.n false c.gs (unitS d)).1))]) hf rfl rfl) ?_; intro a hf
  refine s_one 12 (by kernel_rfl) ?_
  refine p_eff0 rfl hf trivial rfl (Ef.mono (ef_store (vs := [.int .i64 ((if ((runS c.n false c.gs (unitS d)).1) = true then mZ else ((runS c.n false c.gs (unitS d)).2)).rows), .int .i64 ((if ((runS c.n false c.gs (unitS d)).1) = true then mZ else ((runS c.n false c.gs (unitS d)).2)).cols), .slice A16 ((if ((runS c.n false c.gs (unitS d)).1) = true then mZ else ((runS c.n false c.gs (unitS d)).2)).cells).length c16]) (l' := [.int .i64 ((if ((runS c.n false c.gs (unitS d)).1) = true then mZ else ((runS c.n false c.gs (unitS d)).2)).rows), .int .i64 ((if ((runS c.n false c.gs (unitS d)).1) = true then mZ else ((runS c.n false c.gs (unitS d)).2)).cols), .slice A16 ((if ((runS c.n false c.gs (unitS d)).1) = true then mZ else ((runS c.n false c.gs (unitS d)).2)).cells).length c16]) hf rfl rfl sz_141 hB5 rfl rfl rfl rfl rfl) (fun _ _ h => ⟨fun h0 => absurd h0 (by decide), h⟩)) ?_; rintro a _ w10 ⟨ho, hb⟩ hf
  have hold := hB5
  replace hB3 := hB3.only ho (Blk.ne hB3 hold rfl)
  replace hB12 := hB12.only ho (Blk.ne hB12 hold rfl)
  replace hr_c := hr_c.onlyT ho hold rfl
  replace ho14 := ho14.onlyT ho hold rfl
  replace hr15 := hr15.onlyT ho hold rfl
  replace hr16 := hr16.onlyT ho hold rfl
  replace hW := Below.only hW ho hlo5
  clear hold
  have hB5 := hb
  clear hb ho
  refine s_ev0 13 rfl (by kernel_rfl) hf trivial rfl rfl (fun _ => ev_assign hf rfl) ?_; intro a hf
  refine s_done (by kernel_rfl) ?_
  refine hK13 _ _ ?_; try clear hK13 K13
  refine wp_ret ?_
  refine c_ret hf (res2 hf rfl (ResV.cellN (l := [.int .i64 ((if ((runS c.n false c.gs (unitS d)).1) = true then mZ else ((runS c.n false c.gs (unitS d)).2)).rows), .int .i64 ((if ((runS c.n false c.gs (unitS d)).1) = true then mZ else ((runS c.n false c.gs (unitS d)).2)).cols), .slice A16 ((if ((runS c.n false c.gs (unitS d)).1) = true then mZ else ((runS c.n false c.gs (unitS d)).2)).cells).length c16]) rfl tN_141 (hB5.at 0) rfl) rfl) ?_
  have hfi1 : (opS c).getD mZ = if (runS c.n false c.gs (unitS d)).1 = true then mZ else (runS c.n false c.gs (unitS d)).2 := by rw [opS, if_pos hc, ← hd]; split <;> rfl
  have hfi2 : (opS c).isSome = !(runS c.n false c.gs (unitS d)).1 := by rw [opS, if_pos hc, ← hd]; cases (runS c.n false c.gs (unitS d)).1 <;> rfl
  rw [hfi1, hfi2]
  exact ⟨A16, c16, rfl, hr16.top, hW⟩
theorem F88 (w0 : World) (p : Cx) (Ap : Option Addr) (cp : Nat) (hr_p : Rd w0 w0.heap.size 107 encG Ap p.gs) (q : Cx) (Aq : Option Addr) (cq : Nat) (hr_q : Rd w0 w0.heap.size 107 encG Aq q.gs) : Ret Tryz.prog 88 [.agg #[.int .i64 p.n, .slice Ap p.gs.length cp], .agg #[.int .i64 q.n, .slice Aq q.gs.length cq]] w0 (fun v w => v = .tuple #[.bool ((sameS p q).1), .bool ((sameS p q).2)] ∧ Below w0.heap.size w0 w) := by
 refine enter Tryz.func88 rfl 42 rfl rfl ?_
 intro a hf
 have hW : Below w0.heap.size w0 w0 := Below.refl _ _
 refine wp_seq_k ?_; intro K3 hK3
 refine wp_region_lit ?_
 refine l_eff hf trivial rfl rfl (ef_box (zs := [.int .i64 p.n, .slice Ap p.gs.length cp]) hf rfl rfl) ?_; rintro a _ w1 ⟨b4, rfl, hl4, hE, hB4⟩ hf
 have hlo4 := Nat.le_trans hW.size hl4
 replace hr_p := hr_p.below hE
 replace hr_q := hr_q.below hE
 replace hW := hW.trans (hE.mono hW.size)
 clear hE
 refine l_eff hf trivial rfl rfl (ef_box (zs := [.int .i64 q.n, .slice Aq q.gs.length cq]) hf rfl rfl) ?_; rintro a _ w2 ⟨b5, rfl, hl5, hE, hB5⟩ hf
 have hne4_5 : b4 ≠ b5 := by have := hB4.lt; omega
 have hlo5 := Nat.le_trans hW.size hl5
 replace hB4 := hB4.below hE
 replace hr_p := hr_p.below hE
 replace hr_q := hr_q.below hE
 replace hW := hW.trans (hE.mono hW.size)
 clear hE
 refine l_ev hf trivial rfl rfl (ev_assign hf rfl) ?_; intro a hf
 refine l_ev hf trivial rfl rfl (ev_assign hf rfl) ?_; intro a hf
 refine wpList_nil ?_
 refine hK3 _ _ ?_; try clear hK3 K3
 refine wp_seq_k ?_; intro K6 hK6
 refine wp_region_lit ?_
 refine l_ev hf trivial rfl rfl (ev_loadN (l := [.int .i64 p.n, .slice Ap p.gs.length cp]) hf rfl tN_41 (hB4.at 0) rfl) ?_; intro a hf
 refine l_eff hf trivial rfl rfl (ef_call (vs := [.agg #[.int .i64 p.n, .slice Ap p.gs.length cp]]) hf rfl ff_129 (F129 _ p Ap cp hr_p.top)) ?_; rintro a _ w3 ⟨A7, c7, rfl, hr7, hE⟩ hf
 replace hB4 := hB4.below hE
 replace hB5 := hB5.below hE
 replace hr_p := hr_p.below hE
 replace hr_q := hr_q.below hE
 replace hW := hW.trans (hE.mono hW.size)
 clear hE
 refine l_ev hf trivial rfl rfl (ev_move hf rfl) ?_; intro a hf
 refine l_ev hf trivial rfl rfl (ev_extract (vs := [.agg #[.int .i64 (((opS p).getD mZ).rows), .int .i64 (((opS p).getD mZ).cols), .slice A7 (((opS p).getD mZ).cells).length c7], .bool ((opS p).isSome)]) hf rfl rfl) ?_; intro a hf
 refine l_ev hf trivial rfl rfl (ev_extract (vs := [.agg #[.int .i64 (((opS p).getD mZ).rows), .int .i64 (((opS p).getD mZ).cols), .slice A7 (((opS p).getD mZ).cells).length c7], .bool ((opS p).isSome)]) hf rfl rfl) ?_; intro a hf
 refine l_eff hf trivial rfl rfl (ef_alloc (zs := [.int .i64 0, .int .i64 0, .slice none 0 0]) z_141 rfl) ?_; rintro a _ w4 ⟨b9, rfl, hl9, hE, hB9⟩ hf
 have hlo9 := Nat.le_trans hW.size hl9
 replace hB4 := hB4.below hE
 replace hB5 := hB5.below hE
 replace hr_p := hr_p.below hE
 replace hr_q := hr_q.below hE
 replace hr7 := hr7.below hE
 replace hW := hW.trans (hE.mono hW.size)
 clear hE
 refine l_eff0 hf trivial rfl (ef_store (vs := [.int .i64 (((opS p).getD mZ).rows), .int .i64 (((opS p).getD mZ).cols), .slice A7 (((opS p).getD mZ).cells).length c7]) (l' := [.int .i64 (((opS p).getD mZ).rows), .int .i64 (((opS p).getD mZ).cols), .slice A7 (((opS p).getD mZ).cells).length c7]) hf rfl rfl sz_141 hB9 rfl rfl rfl rfl rfl) ?_; rintro a _ w5 ⟨ho, hb⟩ hf
 have hold := hB9
 replace hB4 := hB4.only ho (Blk.ne hB4 hold rfl)
 replace hB5 := hB5.only ho (Blk.ne hB5 hold rfl)
 replace hr_p := hr_p.onlyT ho hold rfl
 replace hr_q := hr_q.onlyT ho hold rfl
 replace hr7 := hr7.onlyT ho hold rfl
 replace hW := Below.only hW ho hlo9
 clear hold
 have hB9 := hb
 clear hb ho
 refine l_ev hf trivial rfl rfl (ev_assign hf rfl) ?_; intro a hf
 refine wpList_nil ?_
 refine hK6 _ _ ?_; try clear hK6 K6
 refine wp_seq_k ?_; intro K10 hK10
 refine wp_region_lit ?_
 refine l_ev hf trivial rfl rfl (ev_loadN (l := [.int .i64 q.n, .slice Aq q.gs.length cq]) hf rfl tN_41 (hB5.at 0) rfl) ?_; intro a hf
 refine l_eff hf trivial rfl rfl (ef_call (vs := [.agg #[.int .i64 q.n, .slice Aq q.gs.length cq]]) hf rfl ff_129 (F129 _ q Aq cq hr_q.top)) ?_; rintro a _ w6 ⟨A11, c11, rfl, hr11, hE⟩ hf
 replace hB4 := hB4.below hE
 replace hB5 := hB5.below hE
 replace hB9 := hB9.below hE
 replace hr_p := hr_p.below hE
 replace hr_q := hr_q.below hE
 replace hr7 := hr7.below hE
 replace hW := hW.trans (hE.mono hW.size)
 clear hE
 refine l_ev hf trivial rfl rfl (ev_move hf rfl) ?_; intro a hf
 refine l_ev hf trivial rfl rfl (ev_extract (vs := [.agg #[.int .i64 (((opS q).getD mZ).rows), .int .i64 (((opS q).getD mZ).cols), .slice A11 (((opS q).getD mZ).cells).length c11], .bool ((opS q).isSome)]) hf rfl rfl) ?_; intro a hf
 refine l_ev hf trivial rfl rfl (ev_extract (vs := [.agg #[.int .i64 (((opS q).getD mZ).rows), .int .i64 (((opS q).getD mZ).cols), .slice A11 (((opS q).getD mZ).cells).length c11], .bool ((opS q).isSome)]) hf rfl rfl) ?_; intro a hf
 refine l_eff hf trivial rfl rfl (ef_alloc (zs := [.int .i64 0, .int .i64 0, .slice none 0 0]) z_141 rfl) ?_; rintro a _ w7 ⟨b13, rfl, hl13, hE, hB13⟩ hf
 have hne9_13 : b9 ≠ b13 := by have := hB9.lt; omega
 have hlo13 := Nat.le_trans hW.size hl13
 replace hB4 := hB4.below hE
 replace hB5 := hB5.below hE
 replace hB9 := hB9.below hE
 replace hr_p := hr_p.below hE
 replace hr_q := hr_q.below hE
 replace hr7 := hr7.below hE
 replace hr11 := hr11.below hE
 replace hW := hW.trans (hE.mono hW.size)
 clear hE
 refine l_eff0 hf trivial rfl (ef_store (vs := [.int .i64 (((opS q).getD mZ).rows), .int .i64 (((opS q).getD mZ).cols), .slice A11 (((opS q).getD mZ).cells).length c11]) (l' := [.int .i64 (((opS q).getD mZ).rows), .int .i64 (((opS q).getD mZ).cols), .slice A11 (((opS q).getD mZ).cells).length c11]) hf rfl rfl sz_141 hB13 rfl rfl rfl rfl rfl) ?_; rintro a _ w8 ⟨ho, hb⟩ hf
 have hold := hB13
 replace hB4 := hB4.only ho (Blk.ne hB4 hold rfl)
 replace hB5 := hB5.only ho (Blk.ne hB5 hold rfl)
 replace hB9 := hB9.only ho (by omega)
 replace hr_p := hr_p.onlyT ho hold rfl
 replace hr_q := hr_q.onlyT ho hold rfl
 replace hr7 := hr7.onlyT ho hold rfl
 replace hr11 := hr11.onlyT ho hold rfl
 replace hW := Below.only hW ho hlo13
 clear hold
 have hB13 := hb
 clear hb ho
 refine l_ev hf trivial rfl rfl (ev_assign hf rfl) ?_; intro a hf
 refine wpList_nil ?_
 refine hK10 _ _ ?_; try clear hK10 K10
 refine wp_seq_k ?_; intro K14 hK14
 refine wp_seq_k ?_; intro K15 hK15
 refine c_cut (fun a w => Fr a 42 [(6, .pointer (some ⟨b9, 0, none⟩)), (8, .pointer (some ⟨b13, 0, none⟩)), (34, .bool (((!((opS p).isSome)) || (!((opS q).isSome))) || (p.n != q.n)))] ∧ w8 = w) ?_ ?_
 ·refine wp_region_lit ?_
  refine l_ev hf trivial rfl rfl (ev_move hf rfl) ?_; intro a hf
  refine l_ev hf trivial rfl rfl (ev_not hf rfl) ?_; intro a hf
  refine l_ev hf trivial rfl rfl (ev_move hf rfl) ?_; intro a hf
  refine g_split hf (t := 24) rfl (fun hg16 => ?_) (fun hg16 => ?_)
  ·refine l_pass hf ⟨_, _, rfl, rfl, hg16⟩ rfl rfl ?_; intro a hf
   refine l_pass hf ⟨_, _, rfl, rfl, hg16⟩ rfl rfl ?_; intro a hf
   refine l_ev hf trivial rfl rfl (ev_pickT hf rfl hg16 rfl) ?_; intro a hf
   refine l_ev hf trivial rfl rfl (ev_move hf rfl) ?_; intro a hf
   refine l_pass hf ⟨_, _, rfl, rfl, rfl⟩ rfl rfl ?_; intro a hf
   refine l_pass hf ⟨_, _, rfl, rfl, rfl⟩ rfl rfl ?_; intro a hf
   refine l_pass hf ⟨_, _, rfl, rfl, rfl⟩ rfl rfl ?_; intro a hf
   refine l_pass hf ⟨_, _, rfl, rfl, rfl⟩ rfl rfl ?_; intro a hf
   refine l_pass hf ⟨_, _, rfl, rfl, rfl⟩ rfl rfl ?_; intro a hf
   refine l_ev hf trivial rfl rfl (ev_pickT hf rfl rfl rfl) ?_; intro a hf
   refine wpList_nil ?_
   exact ⟨hf.sub ⟨rfl, rfl, look_bool rfl (by first | rfl | (simp only [hg16, Bool.true_and, Bool.false_and, Bool.true_or, Bool.false_or]; done) | simp [hg16]), trivial⟩, rfl⟩
  ·refine l_ev hf ⟨_, _, rfl, rfl, hg16⟩ rfl rfl (ev_move hf rfl) ?_; intro a hf
   refine l_ev hf ⟨_, _, rfl, rfl, hg16⟩ rfl rfl (ev_not hf rfl) ?_; intro a hf
   refine l_ev hf trivial rfl rfl (ev_pickF hf rfl hg16 rfl) ?_; intro a hf
   refine l_ev hf trivial rfl rfl (ev_move hf rfl) ?_; intro a hf
   refine g_split hf (t := 28) rfl (fun hg17 => ?_) (fun hg17 => ?_)
   ·refine l_pass hf ⟨_, _, rfl, rfl, hg17⟩ rfl rfl ?_; intro a hf
    refine l_pass hf ⟨_, _, rfl, rfl, hg17⟩ rfl rfl ?_; intro a hf
    refine l_pass hf ⟨_, _, rfl, rfl, hg17⟩ rfl rfl ?_; intro a hf
    refine l_pass hf ⟨_, _, rfl, rfl, hg17⟩ rfl rfl ?_; intro a hf
    refine l_pass hf ⟨_, _, rfl, rfl, hg17⟩ rfl rfl ?_; intro a hf
    refine l_ev hf trivial rfl rfl (ev_pickT hf rfl hg17 rfl) ?_; intro a hf
    refine wpList_nil ?_
    exact ⟨hf.sub ⟨rfl, rfl, look_bool rfl (by first | rfl | (simp only [hg16, hg17, Bool.true_and, Bool.false_and, Bool.true_or, Bool.false_or]; done) | simp [hg16, hg17]), trivial⟩, rfl⟩
   ·refine l_ev hf ⟨_, _, rfl, rfl, hg17⟩ rfl rfl (ev_fieldB hf rfl fd_41_0 (m := 0) rfl) ?_; intro a hf
    refine l_ev hf ⟨_, _, rfl, rfl, hg17⟩ rfl rfl (ev_load1 hf rfl t1_3 (hB4.at 0)) ?_; intro a hf
    refine l_ev hf ⟨_, _, rfl, rfl, hg17⟩ rfl rfl (ev_fieldB hf rfl fd_41_0 (m := 0) rfl) ?_; intro a hf
    refine l_ev hf ⟨_, _, rfl, rfl, hg17⟩ rfl rfl (ev_load1 hf rfl t1_3 (hB5.at 0)) ?_; intro a hf
    refine l_ev hf ⟨_, _, rfl, rfl, hg17⟩ rfl rfl (ev_neq hf rfl rfl) ?_; intro a hf
    refine l_ev hf trivial rfl rfl (ev_pickF hf rfl hg17 rfl) ?_; intro a hf
    refine wpList_nil ?_
    exact ⟨hf.sub ⟨rfl, rfl, look_bool rfl (by first | rfl | (simp only [hg16, hg17, Bool.true_and, Bool.false_and, Bool.true_or, Bool.false_or]; done) | simp [hg16, hg17]), trivial⟩, rfl⟩
 rintro a _ ⟨hf, rfl⟩
 refine hK15 _ _ ?_; try clear hK15 K15
 refine c_if hf rfl (fun hc18 => ?_) (fun hc18 => ?_)
 ·have hc18b := hc18
  have hn : sameS p q = (false, false) := by rw [sameS, if_neg]; intro h0; simp only [Bool.and_eq_true, beq_iff_eq] at h0; revert hc18; rw [h0.1.1, h0.1.2, h0.2]; simp
  refine wp_seq_k ?_; intro K19 hK19
  refine wp_region_lit ?_
  refine l_ev hf trivial rfl rfl (ev_assign hf rfl) ?_; intro a hf
  refine l_ev hf trivial rfl rfl (ev_assign hf rfl) ?_; intro a hf
  refine wpList_nil ?_
  refine hK19 _ _ ?_; try clear hK19 K19
  refine wp_ret ?_
  refine x_retS ?_
  refine c_ret hf (res2 hf rfl rfl rfl) ?_
  exact ⟨by rw [hn], hW⟩
 ·have hc18b := hc18
  obtain ⟨⟨hs1, hs2⟩, hs3⟩ : ((opS p).isSome = true ∧ (opS q).isSome = true) ∧ p.n = q.n := by revert hc18; cases (opS p).isSome <;> cases (opS q).isSome <;> simp
  have hy : sameS p q = (phaseS ((opS p).getD mZ) ((opS q).getD mZ), true) := by rw [sameS, if_pos]; simp [hs1, hs2, hs3]
  refine wp_skip ?_
  refine hK14 _ _ ?_; try clear hK14 K14
  refine wp_seq_k ?_; intro K20 hK20
  refine wp_region_lit ?_
  refine l_ev hf trivial rfl rfl (ev_loadN (l := [.int .i64 (((opS p).getD mZ).rows), .int .i64 (((opS p).getD mZ).cols), .slice A7 (((opS p).getD mZ).cells).length c7]) hf rfl tN_141 (hB9.at 0) rfl) ?_; intro a hf
  refine l_ev hf trivial rfl rfl (ev_loadN (l := [.int .i64 (((opS q).getD mZ).rows), .int .i64 (((opS q).getD mZ).cols), .slice A11 (((opS q).getD mZ).cells).length c11]) hf rfl tN_141 (hB13.at 0) rfl) ?_; intro a hf
  refine l_eff hf trivial rfl rfl (ef_call (vs := [.agg #[.int .i64 (((opS p).getD mZ).rows), .int .i64 (((opS p).getD mZ).cols), .slice A7 (((opS p).getD mZ).cells).length c7], .agg #[.int .i64 (((opS q).getD mZ).rows), .int .i64 (((opS q).getD mZ).cols), .slice A11 (((opS q).getD mZ).cells).length c11]]) hf rfl ff_130 (F130 _ ((opS p).getD mZ) A7 c7 hr7.top ((opS q).getD mZ) A11 c11 hr11.top (op_lens hs1 hs2 hs3) (opS_le q))) ?_; rintro a _ w9 ⟨ix, rfl, hE⟩ hf
  replace hB4 := hB4.below hE
  replace hB5 := hB5.below hE
  replace hB9 := hB9.below hE
  replace hB13 := hB13.below hE
  replace hr_p := hr_p.below hE
  replace hr_q := hr_q.below hE
  replace hr7 := hr7.below hE
  replace hr11 := hr11.below hE
  replace hW := hW.trans (hE.mono hW.size)
  clear hE
  refine l_ev hf trivial rfl rfl (ev_move hf rfl) ?_; intro a hf
  refine l_ev hf trivial rfl rfl (ev_extract (vs := [.int .i64 ix, .bool (phaseS ((opS p).getD mZ) ((opS q).getD mZ))]) hf rfl rfl) ?_; intro a hf
  refine l_ev hf trivial rfl rfl (ev_extract (vs := [.int .i64 ix, .bool (phaseS ((opS p).getD mZ) ((opS q).getD mZ))]) hf rfl rfl) ?_; intro a hf
  refine l_ev hf trivial rfl rfl (ev_assign hf rfl) ?_; intro a hf
  refine l_ev hf trivial rfl rfl (ev_assign hf rfl) ?_; intro a hf
  refine wpList_nil ?_
  refine hK20 _ _ ?_; try clear hK20 K20
  refine wp_seq_k ?_; intro K21 hK21
  refine wp_region_lit ?_
  refine l_ev hf trivial rfl rfl (ev_move hf rfl) ?_; intro a hf
  refine l_ev hf trivial rfl rfl (ev_assign hf rfl) ?_; intro a hf
  refine l_ev hf trivial rfl rfl (ev_assign hf rfl) ?_; intro a hf
  refine wpList_nil ?_
  refine hK21 _ _ ?_; try clear hK21 K21
  refine wp_ret ?_
  refine c_ret hf (res2 hf rfl rfl rfl) ?_
  exact ⟨by rw [hy], hW⟩
end Go.Proofs.YtfgnmflfiobkmaaGreat
set_option maxRecDepth 4000
namespace Go.Proofs.YtfgnmflfiobkmaaGreat
open Go.RowKit
theorem F43 (w0 : World) (n : Int) (r : Rp) (Ar : Option Addr) (cr : Nat) (hr_r : Rd w0 w0.heap.size 107 encG Ar r.old) (Br : Option Addr) (dr : Nat) (hs_r : Rd w0 w0.heap.size 107 encG Br r.new) (hla : r.old.length ≤ 2305843009213693951) (hlb : r.new.length ≤ 2305843009213693951) : Ret Tryz.prog 43 [.int .i64 n, .agg #[.int .i64 r.pos, .slice Ar r.old.length cr, .slice Br r.new.length dr]] w0 (fun v w => v = .bool (validS n r) ∧ Below w0.heap.size w0 w) := by
 refine enter Tryz.func43 rfl 24 rfl rfl ?_
 intro a hf
 have hW : Below w0.heap.size w0 w0 := Below.refl _ _
 refine wp_seq_k ?_; intro K3 hK3
 refine wp_region_lit ?_
 refine l_eff hf trivial rfl rfl (ef_box (zs := [.int .i64 r.pos, .slice Ar r.old.length cr, .slice Br r.new.length dr]) hf rfl rfl) ?_; rintro a _ w1 ⟨b4, rfl, hl4, hE, hB4⟩ hf
 have hlo4 := Nat.le_trans hW.size hl4
 replace hr_r := hr_r.below hE
 replace hs_r := hs_r.below hE
 replace hW := hW.trans (hE.mono hW.size)
 clear hE
 refine l_ev hf trivial rfl rfl (ev_assign hf rfl) ?_; intro a hf
 refine wpList_nil ?_
 refine hK3 _ _ ?_; try clear hK3 K3
 refine wp_seq_k ?_; intro K5 hK5
 refine c_cut (fun a w => Fr a 24 [(4, .bool ((((inR n 1 5) && (inR r.pos 0 400)) && (!(r.old.any fun x => !gOk n x) && decide ((r.old.length : Int) ≤ 40))) && (!(r.new.any fun x => !gOk n x) && decide ((r.new.length : Int) ≤ 40))))] ∧ Below w1.heap.size w1 w) ?_ ?_
 ·have hEc : Below w1.heap.size w1 w1 := Below.refl _ _
  refine wp_region_lit ?_
  refine l_ev hf trivial rfl rfl (ev_move hf rfl) ?_; intro a hf
  refine l_eff hf trivial rfl rfl (ef_call (vs := [.int .i64 n, .int .i64 1, .int .i64 5]) hf rfl ff_85 (F85 _ n 1 5)) ?_; rintro a _ _ ⟨rfl, rfl⟩ hf
  refine l_ev hf trivial rfl rfl (ev_move hf rfl) ?_; intro a hf
  refine g_split hf (t := 7) rfl (fun hg6 => ?_) (fun hg6 => ?_)
  ·refine l_ev hf ⟨_, _, rfl, rfl, hg6⟩ rfl rfl (ev_fieldB hf rfl fd_30_0 (m := 0) rfl) ?_; intro a hf
   refine l_ev hf ⟨_, _, rfl, rfl, hg6⟩ rfl rfl (ev_load1 hf rfl t1_3 (hB4.at 0)) ?_; intro a hf
   refine l_eff hf ⟨_, _, rfl, rfl, hg6⟩ rfl rfl (ef_call (vs := [.int .i64 r.pos, .int .i64 0, .int .i64 400]) hf rfl ff_85 (F85 _ r.pos 0 400)) ?_; rintro a _ _ ⟨rfl, rfl⟩ hf
   refine l_ev hf trivial rfl rfl (ev_pickT hf rfl hg6 rfl) ?_; intro a hf
   refine l_ev hf trivial rfl rfl (ev_move hf rfl) ?_; intro a hf
   refine g_split hf (t := 12) rfl (fun hg7 => ?_) (fun hg7 => ?_)
   ·refine l_ev hf ⟨_, _, rfl, rfl, hg7⟩ rfl rfl (ev_move hf rfl) ?_; intro a hf
    refine l_ev hf ⟨_, _, rfl, rfl, hg7⟩ rfl rfl (ev_fieldB hf rfl fd_30_1 (m := 1) rfl) ?_; intro a hf
    refine l_ev hf ⟨_, _, rfl, rfl, hg7⟩ rfl rfl (ev_load1 hf rfl t1_28 (hB4.at 1)) ?_; intro a hf
    refine l_eff hf ⟨_, _, rfl, rfl, hg7⟩ rfl rfl (ef_call (vs := [.int .i64 n, .slice Ar r.old.length cr, .int .i64 40]) hf rfl ff_86 (F86 _ n Ar cr r.old hr_r.top 40 (inR_iff.1 (show inR n 1 5 = true by assumption)) hla)) ?_; rintro a _ w2 ⟨rfl, hE⟩ hf
    replace hB4 := hB4.below hE
    replace hr_r := hr_r.below hE
    replace hs_r := hs_r.below hE
    replace hW := hW.trans (hE.mono hW.size)
    replace hEc := hEc.trans (hE.mono hEc.size)
    clear hE
    refine l_ev hf trivial rfl rfl (ev_pickT hf rfl hg7 rfl) ?_; intro a hf
    refine l_ev hf trivial rfl rfl (ev_move hf rfl) ?_; intro a hf
    refine g_split hf (t := 18) rfl (fun hg8 => ?_) (fun hg8 => ?_)
    ·refine l_ev hf ⟨_, _, rfl, rfl, hg8⟩ rfl rfl (ev_move hf rfl) ?_; intro a hf
     refine l_ev hf ⟨_, _, rfl, rfl, hg8⟩ rfl rfl (ev_fieldB hf rfl fd_30_2 (m := 2) rfl) ?_; intro a hf
     refine l_ev hf ⟨_, _, rfl, rfl, hg8⟩ rfl rfl (ev_load1 hf rfl t1_28 (hB4.at 2)) ?_; intro a hf
     refine l_eff hf ⟨_, _, rfl, rfl, hg8⟩ rfl rfl (ef_call (vs := [.int .i64 n, .slice Br r.new.length dr, .int .i64 40]) hf rfl ff_86 (F86 _ n Br dr r.new hs_r.top 40 (inR_iff.1 (show inR n 1 5 = true by assumption)) hlb)) ?_; rintro a _ w3 ⟨rfl, hE⟩ hf
     replace hB4 := hB4.below hE
     replace hr_r := hr_r.below hE
     replace hs_r := hs_r.below hE
     replace hW := hW.trans (hE.mono hW.size)
     replace hEc := hEc.trans (hE.mono hEc.size)
     clear hE
     refine l_ev hf trivial rfl rfl (ev_pickT hf rfl hg8 rfl) ?_; intro a hf
     refine l_ev hf trivial rfl rfl (ev_assign hf rfl) ?_; intro a hf
     refine wpList_nil ?_
     have hEE : Below w1.heap.size w1 w3 := hEc
     exact ⟨hf.sub ⟨look_bool rfl (by first | rfl | (simp only [hg6, hg7, hg8, Bool.true_and, Bool.false_and, Bool.true_or, Bool.false_or]; done) | simp [hg6, hg7, hg8]), trivial⟩, hEE⟩
    ·refine l_pass hf ⟨_, _, rfl, rfl, hg8⟩ rfl rfl ?_; intro a hf
     refine l_pass hf ⟨_, _, rfl, rfl, hg8⟩ rfl rfl ?_; intro a hf
     refine l_pass hf ⟨_, _, rfl, rfl, hg8⟩ rfl rfl ?_; intro a hf
     refine l_pass hf ⟨_, _, rfl, rfl, hg8⟩ rfl rfl ?_; intro a hf
     refine l_ev hf trivial rfl rfl (ev_pickF hf rfl hg8 rfl) ?_; intro a hf
     refine l_ev hf trivial rfl rfl (ev_assign hf rfl) ?_; intro a hf
     refine wpList_nil ?_
     have hEE : Below w1.heap.size w1 w2 := hEc
     exact ⟨hf.sub ⟨look_bool rfl (by first | rfl | (simp only [hg6, hg7, hg8, Bool.true_and, Bool.false_and, Bool.true_or, Bool.false_or]; done) | simp [hg6, hg7, hg8]), trivial⟩, hEE⟩
   ·refine l_pass hf ⟨_, _, rfl, rfl, hg7⟩ rfl rfl ?_; intro a hf
    refine l_pass hf ⟨_, _, rfl, rfl, hg7⟩ rfl rfl ?_; intro a hf
    refine l_pass hf ⟨_, _, rfl, rfl, hg7⟩ rfl rfl ?_; intro a hf
    refine l_pass hf ⟨_, _, rfl, rfl, hg7⟩ rfl rfl ?_; intro a hf
    refine l_ev hf trivial rfl rfl (ev_pickF hf rfl hg7 rfl) ?_; intro a hf
    refine l_ev hf trivial rfl rfl (ev_move hf rfl) ?_; intro a hf
    refine l_pass hf ⟨_, _, rfl, rfl, rfl⟩ rfl rfl ?_; intro a hf
    refine l_pass hf ⟨_, _, rfl, rfl, rfl⟩ rfl rfl ?_; intro a hf
    refine l_pass hf ⟨_, _, rfl, rfl, rfl⟩ rfl rfl ?_; intro a hf
    refine l_pass hf ⟨_, _, rfl, rfl, rfl⟩ rfl rfl ?_; intro a hf
    refine l_ev hf trivial rfl rfl (ev_pickF hf rfl rfl rfl) ?_; intro a hf
    refine l_ev hf trivial rfl rfl (ev_assign hf rfl) ?_; intro a hf
    refine wpList_nil ?_
    have hEE : Below w1.heap.size w1 w1 := hEc
    exact ⟨hf.sub ⟨look_bool rfl (by first | rfl | (simp only [hg6, hg7, Bool.true_and, Bool.false_and, Bool.true_or, Bool.false_or]; done) | simp [hg6, hg7]), trivial⟩, hEE⟩
  ·refine l_pass hf ⟨_, _, rfl, rfl, hg6⟩ rfl rfl ?_; intro a hf
   refine l_pass hf ⟨_, _, rfl, rfl, hg6⟩ rfl rfl ?_; intro a hf
   refine l_pass hf ⟨_, _, rfl, rfl, hg6⟩ rfl rfl ?_; intro a hf
   refine l_ev hf trivial rfl rfl (ev_pickF hf rfl hg6 rfl) ?_; intro a hf
   refine l_ev hf trivial rfl rfl (ev_move hf rfl) ?_; intro a hf
   refine l_pass hf ⟨_, _, rfl, rfl, rfl⟩ rfl rfl ?_; intro a hf
   refine l_pass hf ⟨_, _, rfl, rfl, rfl⟩ rfl rfl ?_; intro a hf
   refine l_pass hf ⟨_, _, rfl, rfl, rfl⟩ rfl rfl ?_; intro a hf
   refine l_pass hf ⟨_, _, rfl, rfl, rfl⟩ rfl rfl ?_; intro a hf
   refine l_ev hf trivial rfl rfl (ev_pickF hf rfl rfl rfl) ?_; intro a hf
   refine l_ev hf trivial rfl rfl (ev_move hf rfl) ?_; intro a hf
   refine l_pass hf ⟨_, _, rfl, rfl, rfl⟩ rfl rfl ?_; intro a hf
   refine l_pass hf ⟨_, _, rfl, rfl, rfl⟩ rfl rfl ?_; intro a hf
   refine l_pass hf ⟨_, _, rfl, rfl, rfl⟩ rfl rfl ?_; intro a hf
   refine l_pass hf ⟨_, _, rfl, rfl, rfl⟩ rfl rfl ?_; intro a hf
   refine l_ev hf trivial rfl rfl (ev_pickF hf rfl rfl rfl) ?_; intro a hf
   refine l_ev hf trivial rfl rfl (ev_assign hf rfl) ?_; intro a hf
   refine wpList_nil ?_
   have hEE : Below w1.heap.size w1 w1 := hEc
   exact ⟨hf.sub ⟨look_bool rfl (by first | rfl | (simp only [hg6, Bool.true_and, Bool.false_and, Bool.true_or, Bool.false_or]; done) | simp [hg6]), trivial⟩, hEE⟩
 rintro a w4 ⟨hf, hE⟩
 replace hB4 := hB4.below hE
 replace hr_r := hr_r.below hE
 replace hs_r := hs_r.below hE
 replace hW := hW.trans (hE.mono hW.size)
 clear hE
 refine hK5 _ _ ?_; try clear hK5 K5
 refine wp_ret ?_
 refine c_ret hf (res1 hf rfl rfl) ?_
 exact ⟨by simp only [validS], hW⟩
theorem F128 (w0 : World) (Al : Option Addr) (cl : Nat) (l : List Int) (hr_l : Rd w0 w0.heap.size 3 encI Al l) (n : Int) (B0 : Nat) (ho : Own w0 B0 3 1 encI Al cl l) (hB0 : B0 ≤ w0.heap.size) (hln : l.length ≤ 1000000000) : Ret Tryz.prog 128 [.slice Al l.length cl, .int .i64 n] w0 (fun v w => ∃ A c, v = .slice A (putI l n).length c ∧ Own w B0 3 1 encI A c (putI l n) ∧ Below w0.heap.size w0 w) := by
 refine enter Tryz.func128 rfl 48 rfl rfl ?_
 intro a hf
 have hW : Below w0.heap.size w0 w0 := Below.refl _ _
 refine wp_seq_k ?_; intro K2 hK2
 refine wp_region_lit ?_
 refine l_ev hf trivial rfl rfl (ev_assign hf rfl) ?_; intro a hf
 refine wpList_nil ?_
 refine hK2 _ _ ?_; try clear hK2 K2
 refine wp_seq_k ?_; intro K4 hK4
 refine wp_region_lit ?_
 refine l_ev hf trivial rfl rfl (ev_assign hf rfl) ?_; intro a hf
 refine wpList_nil ?_
 refine hK4 _ _ ?_; try clear hK4 K4
 refine wp_seq_k ?_; intro K5 hK5
 refine wp_block ?_
 refine c_loop (σ := Nat) (fun (k : Nat) (a : Act) (w : World) => Fr a 48 [(0, .slice Al l.length cl), (1, .int .i64 n), (5, .int .i64 (k : Int))] ∧ (k ≤ l.length) ∧ ((l.take k).all (fun x => decide (x < n)) = true) ∧ Rd w w0.heap.size 3 encI Al l ∧ Below w0.heap.size w0 w) (fun (k : Nat) => l.length - k) 0 ?_ ?_
 · exact ⟨hf.sub ⟨rfl, rfl, rfl, trivial⟩, (Nat.zero_le _), rfl, hr_l, hW⟩
 rintro k a w1 ⟨hf, hk, hpre, hr_l, hW⟩
 refine wp_seq_k ?_; intro K6 hK6
 refine wp_seq_k ?_; intro K7 hK7
 refine c_cut (fun a w => Fr a 48 [(0, .slice Al l.length cl), (1, .int .i64 n), (5, .int .i64 (k : Int)), (18, .bool (decide ((k : Int) < (l.length : Int)) && decide ((l.getD k 0) < n)))] ∧ w1 = w) ?_ ?_
 ·refine wp_region_lit ?_
  refine l_ev hf trivial rfl rfl (ev_move hf rfl) ?_; intro a hf
  refine l_ev hf trivial rfl rfl (ev_move hf rfl) ?_; intro a hf
  refine l_ev hf trivial rfl rfl (ev_len hf rfl sl_36) ?_; intro a hf
  refine l_ev hf trivial rfl rfl (ev_lss hf rfl rfl) ?_; intro a hf
  refine l_ev hf trivial rfl rfl (ev_move hf rfl) ?_; intro a hf
  refine g_split hf (t := 11) rfl (fun hg8 => ?_) (fun hg8 => ?_)
  ·refine l_ev hf ⟨_, _, rfl, rfl, hg8⟩ rfl rfl (ev_move hf rfl) ?_; intro a hf
   refine l_ev hf ⟨_, _, rfl, rfl, hg8⟩ rfl rfl (ev_move hf rfl) ?_; intro a hf
   refine l_index (k := k) (u := (l.getD k 0)) (enc := encI) (l := l) hf ⟨_, _, rfl, rfl, hg8⟩ rfl rfl rfl sl_36 sz_3 encI_len hr_l (getD_getB (by assumption)) rfl ?_; intro a p10 hat9 hf
   refine l_ev hf ⟨_, _, rfl, rfl, hg8⟩ rfl rfl (ev_load1 hf rfl t1_3 hat9) ?_; intro a hf
   refine l_ev hf ⟨_, _, rfl, rfl, hg8⟩ rfl rfl (ev_move hf rfl) ?_; intro a hf
   refine l_ev hf ⟨_, _, rfl, rfl, hg8⟩ rfl rfl (ev_lss hf rfl rfl) ?_; intro a hf
   refine l_ev hf trivial rfl rfl (ev_pickT hf rfl hg8 rfl) ?_; intro a hf
   refine wpList_nil ?_
   exact ⟨hf.sub ⟨rfl, rfl, rfl, look_bool rfl (by first | rfl | (simp only [hg8, Bool.true_and, Bool.false_and, Bool.true_or, Bool.false_or]; done) | simp [hg8]), trivial⟩, rfl⟩
  ·refine l_pass hf ⟨_, _, rfl, rfl, hg8⟩ rfl rfl ?_; intro a hf
   refine l_pass hf ⟨_, _, rfl, rfl, hg8⟩ rfl rfl ?_; intro a hf
   refine l_pass hf ⟨_, _, rfl, rfl, hg8⟩ rfl rfl ?_; intro a hf
   refine l_pass hf ⟨_, _, rfl, rfl, hg8⟩ rfl rfl ?_; intro a hf
   refine l_pass hf ⟨_, _, rfl, rfl, hg8⟩ rfl rfl ?_; intro a hf
   refine l_pass hf ⟨_, _, rfl, rfl, hg8⟩ rfl rfl ?_; intro a hf
   refine l_ev hf trivial rfl rfl (ev_pickF hf rfl hg8 rfl) ?_; intro a hf
   refine wpList_nil ?_
   exact ⟨hf.sub ⟨rfl, rfl, rfl, look_bool rfl (by first | rfl | (simp only [hg8, Bool.true_and, Bool.false_and, Bool.true_or, Bool.false_or]; done) | simp [hg8]), trivial⟩, rfl⟩
 rintro a _ ⟨hf, rfl⟩
 refine hK7 _ _ ?_; try clear hK7 K7
 refine c_if hf rfl (fun hc11 => ?_) (fun hc11 => ?_)
 ·have hc11b := hc11
  have hlt : (k : Int) < l.length ∧ l.getD k 0 < n := by simpa using hc11
  have hk1 : k < l.length := by omega
  refine wp_skip ?_
  refine hK6 _ _ ?_; try clear hK6 K6
  refine wp_block ?_
  refine wp_region_lit ?_
  refine l_ev hf trivial rfl rfl (ev_move hf rfl) ?_; intro a hf
  refine l_ev hf trivial rfl rfl (ev_addx hf rfl rfl (by omega) (by omega)) ?_; intro a hf
  refine l_ev hf trivial rfl rfl (ev_assign hf rfl) ?_; intro a hf
  refine wpList_nil ?_
  refine x_norm ?_
  refine x_thenN ?_
  exact ⟨k + 1, ⟨hf.sub ⟨rfl, rfl, rfl, trivial⟩, (by omega), (take_all hpre (getD_get hk1) (by simpa using hlt.2)), hr_l, hW⟩, (by omega)⟩
 ·have hc11b := hc11
  have hst : k < l.length → ¬ l.getD k 0 < n := by intro h0 h1; revert hc11; simp only [h1, decide_true, Bool.and_true, decide_eq_false_iff_not]; omega
  have hpa := put_at l n k hpre hk hst
  refine wp_exit ?_
  refine x_exS ?_
  refine x_exS ?_
  refine x_exit ?_
  refine hK5 _ _ ?_; try clear hK5 K5
  refine wp_seq_k ?_; intro K12 hK12
  refine wp_seq_k ?_; intro K13 hK13
  refine c_cut (fun a w => Fr a 48 [(0, .slice Al l.length cl), (1, .int .i64 n), (5, .int .i64 (k : Int)), (32, .bool (decide ((k : Int) < (l.length : Int)) && (l.getD k 0) == n))] ∧ w1 = w) ?_ ?_
  ·refine wp_region_lit ?_
   refine l_ev hf trivial rfl rfl (ev_move hf rfl) ?_; intro a hf
   refine l_ev hf trivial rfl rfl (ev_move hf rfl) ?_; intro a hf
   refine l_ev hf trivial rfl rfl (ev_len hf rfl sl_36) ?_; intro a hf
   refine l_ev hf trivial rfl rfl (ev_lss hf rfl rfl) ?_; intro a hf
   refine l_ev hf trivial rfl rfl (ev_move hf rfl) ?_; intro a hf
   refine g_split hf (t := 25) rfl (fun hg14 => ?_) (fun hg14 => ?_)
   ·refine l_ev hf ⟨_, _, rfl, rfl, hg14⟩ rfl rfl (ev_move hf rfl) ?_; intro a hf
    refine l_ev hf ⟨_, _, rfl, rfl, hg14⟩ rfl rfl (ev_move hf rfl) ?_; intro a hf
    refine l_index (k := k) (u := (l.getD k 0)) (enc := encI) (l := l) hf ⟨_, _, rfl, rfl, hg14⟩ rfl rfl rfl sl_36 sz_3 encI_len hr_l (getD_getB (by assumption)) rfl ?_; intro a p16 hat15 hf
    refine l_ev hf ⟨_, _, rfl, rfl, hg14⟩ rfl rfl (ev_load1 hf rfl t1_3 hat15) ?_; intro a hf
    refine l_ev hf ⟨_, _, rfl, rfl, hg14⟩ rfl rfl (ev_move hf rfl) ?_; intro a hf
    refine l_ev hf ⟨_, _, rfl, rfl, hg14⟩ rfl rfl (ev_eql hf rfl rfl) ?_; intro a hf
    refine l_ev hf trivial rfl rfl (ev_pickT hf rfl hg14 rfl) ?_; intro a hf
    refine wpList_nil ?_
    exact ⟨hf.sub ⟨rfl, rfl, rfl, look_bool rfl (by first | rfl | (simp only [hc11b, hg14, Bool.true_and, Bool.false_and, Bool.true_or, Bool.false_or]; done) | simp [hc11b, hg14]), trivial⟩, rfl⟩
   ·refine l_pass hf ⟨_, _, rfl, rfl, hg14⟩ rfl rfl ?_; intro a hf
    refine l_pass hf ⟨_, _, rfl, rfl, hg14⟩ rfl rfl ?_; intro a hf
    refine l_pass hf ⟨_, _, rfl, rfl, hg14⟩ rfl rfl ?_; intro a hf
    refine l_pass hf ⟨_, _, rfl, rfl, hg14⟩ rfl rfl ?_; intro a hf
    refine l_pass hf ⟨_, _, rfl, rfl, hg14⟩ rfl rfl ?_; intro a hf
    refine l_pass hf ⟨_, _, rfl, rfl, hg14⟩ rfl rfl ?_; intro a hf
    refine l_ev hf trivial rfl rfl (ev_pickF hf rfl hg14 rfl) ?_; intro a hf
    refine wpList_nil ?_
    exact ⟨hf.sub ⟨rfl, rfl, rfl, look_bool rfl (by first | rfl | (simp only [hc11b, hg14, Bool.true_and, Bool.false_and, Bool.true_or, Bool.false_or]; done) | simp [hc11b, hg14]), trivial⟩, rfl⟩
  rintro a _ ⟨hf, rfl⟩
  refine hK13 _ _ ?_; try clear hK13 K13
  refine c_if hf rfl (fun hc17 => ?_) (fun hc17 => ?_)
  ·have hc17b := hc17
   have hyy : k < l.length ∧ l.getD k 0 = n := by have h9 : (k : Int) < l.length ∧ l.getD k 0 = n := (by simpa using hc17); omega
   have hfin := hpa.1 hyy
   refine wp_seq_k ?_; intro K18 hK18
   refine wp_region_lit ?_
   refine l_ev hf trivial rfl rfl (ev_move hf rfl) ?_; intro a hf
   refine l_ev hf trivial rfl rfl (ev_assign hf rfl) ?_; intro a hf
   refine wpList_nil ?_
   refine hK18 _ _ ?_; try clear hK18 K18
   refine wp_ret ?_
   refine x_retS ?_
   refine c_ret hf (res1 hf rfl rfl) ?_
   rw [hfin]
   exact ⟨_, _, rfl, ho.below hW, hW⟩
  ·have hc17b := hc17
   have hfin := hpa.2 (fun h0 => by revert hc17; rw [h0.2]; simp; omega)
   refine wp_skip ?_
   refine hK12 _ _ ?_; try clear hK12 K12
   refine wp_seq_k ?_; intro K19 hK19
   refine wp_region_lit ?_
   refine l_eff hf trivial rfl rfl (ef_buildSlice (k := 0) (vs := []) (zs := []) hf rfl sl_36 inf_3 rfl rfl) ?_; rintro a _ w2 ⟨b20, rfl, hl20, hE, hB20⟩ hf
   have hlo20 := Nat.le_trans hW.size hl20
   have haw1_20 := hr_l.away hl20
   replace hr_l := hr_l.below hE
   replace hW := hW.trans (hE.mono hW.size)
   clear hE
   refine l_ev hf trivial rfl rfl (ev_move hf rfl) ?_; intro a hf
   refine l_ev hf trivial rfl rfl (ev_move hf rfl) ?_; intro a hf
   have hr22 := (hr_l.top).takeK encI_len k
   refine l_ev hf trivial rfl rfl (ev_takeL (l := l) (k := k) hf rfl rfl sl_36 sz_3 rfl hk ho.cap) ?_; intro a hf
   refine l_eff hf trivial rfl rfl (ef_append (enc := encI) (l := ([] : List Int)) (l2 := ((l.take k))) (B0 := w0.heap.size) hf rfl rfl sl_36 inf_3 encI_len encI_one (Own.empty hB20 hlo20) hr22 (by simp only [maxLen]; simp; omega) (by simp; omega) hW.size) ?_; rintro a _ w3 ⟨A23, c23, rfl, ho23, hg, hat⟩ hf
   have hown : Own _ w0.heap.size 3 1 encI _ _ ([] : List Int) := (Own.empty hB20 hlo20)
   clear hat
   replace hr_l := hr_l.appB hown hg (Nat.le_refl _)
   replace hW := Below.app hW hown hg (Nat.le_refl _) hW.size
   clear hown hg
   simp only [List.nil_append] at ho23 hf
   refine l_ev hf trivial rfl rfl (ev_assign hf rfl) ?_; intro a hf
   refine wpList_nil ?_
   refine hK19 _ _ ?_; try clear hK19 K19
   refine wp_seq_k ?_; intro K24 hK24
   refine wp_region_lit ?_
   refine l_ev hf trivial rfl rfl (ev_move hf rfl) ?_; intro a hf
   refine l_ev hf trivial rfl rfl (ev_move hf rfl) ?_; intro a hf
   refine l_eff hf trivial rfl rfl (ef_buildSlice (k := 1) (vs := [.int .i64 n]) (zs := [.int .i64 n]) hf rfl sl_36 inf_3 rfl rfl) ?_; rintro a _ w4 ⟨b25, rfl, hl25, hE, hB25⟩ hf
   have hlo25 := Nat.le_trans hW.size hl25
   have haw1_25 := hr_l.away hl25
   have haw23_25 := ho23.away hl25
   replace hr_l := hr_l.below hE
   replace ho23 := ho23.below hE
   replace hW := hW.trans (hE.mono hW.size)
   clear hE
   refine l_eff hf trivial rfl rfl (ef_append (enc := encI) (l := ((l.take k))) (l2 := ([n])) (B0 := w0.heap.size) hf rfl rfl sl_36 inf_3 encI_len encI_one ho23 (Rd.of_blk hB25 rfl _ hB25.lt) (by simp only [maxLen]; simp; omega) (by simp; omega) hW.size) ?_; rintro a _ w5 ⟨A27, c27, rfl, ho27, hg, hat⟩ hf
   have hown : Own _ w0.heap.size 3 1 encI _ _ ((l.take k)) := ho23
   have haw27_25 := hat _ hB25.lt haw23_25
   clear hat
   replace hr_l := hr_l.appB hown hg (Nat.le_refl _)
   replace hW := Below.app hW hown hg (Nat.le_refl _) hW.size
   clear hown hg
   refine l_ev hf trivial rfl rfl (ev_assign hf rfl) ?_; intro a hf
   refine wpList_nil ?_
   refine hK24 _ _ ?_; try clear hK24 K24
   refine wp_seq_k ?_; intro K28 hK28
   refine wp_region_lit ?_
   refine l_ev hf trivial rfl rfl (ev_move hf rfl) ?_; intro a hf
   refine l_ev hf trivial rfl rfl (ev_move hf rfl) ?_; intro a hf
   refine l_ev hf trivial rfl rfl (ev_move hf rfl) ?_; intro a hf
   have hr29 := (hr_l.top).dropK encI_len (c := cl) ho.cap k
   refine l_ev hf trivial rfl rfl (ev_dropL (l := l) (k := k) hf rfl rfl sl_36 sz_3 rfl hk) ?_; intro a hf
   refine l_eff hf trivial rfl rfl (ef_append (enc := encI) (l := ((l.take k) ++ ([n]))) (l2 := ((l.drop k))) (B0 := w0.heap.size) hf rfl rfl sl_36 inf_3 encI_len encI_one ho27 hr29 (by simp only [maxLen]; simp; omega) (by simp; omega) hW.size) ?_; rintro a _ w6 ⟨A30, c30, rfl, ho30, hg, hat⟩ hf
   have hown : Own _ w0.heap.size 3 1 encI _ _ ((l.take k) ++ ([n])) := ho27
   clear hat
   replace hr_l := hr_l.appB hown hg (Nat.le_refl _)
   replace hW := Below.app hW hown hg (Nat.le_refl _) hW.size
   clear hown hg
   refine l_ev hf trivial rfl rfl (ev_assign hf rfl) ?_; intro a hf
   refine wpList_nil ?_
   refine hK28 _ _ ?_; try clear hK28 K28
   refine wp_ret ?_
   refine c_ret hf (res1 hf rfl rfl) ?_
   rw [hfin]
   exact ⟨A30, c30, rfl, (ho30).lower hB0, hW⟩
theorem F87 (w0 : World) (Al : Option Addr) (cl : Nat) (l : List Gt) (hr_l : Rd w0 w0.heap.size 107 encG Al l) (hln : l.length ≤ 10000000) : Ret Tryz.prog 87 [.slice Al l.length cl] w0 (fun v w => ∃ A c, v = .slice A (usedS l).length c ∧ Own w w0.heap.size 3 1 encI A c (usedS l) ∧ Below w0.heap.size w0 w) := by
 refine enter Tryz.func87 rfl 28 rfl rfl ?_
 intro a hf
 have hW : Below w0.heap.size w0 w0 := Below.refl _ _
 refine wp_seq_k ?_; intro K2 hK2
 refine wp_region_lit ?_
 refine l_ev hf trivial rfl rfl (ev_assign hf rfl) ?_; intro a hf
 refine wpList_nil ?_
 refine hK2 _ _ ?_; try clear hK2 K2
 refine wp_seq_k ?_; intro K4 hK4
 refine wp_region_lit ?_
 refine l_ev hf trivial rfl rfl (ev_assign hf rfl) ?_; intro a hf
 refine wpList_nil ?_
 refine hK4 _ _ ?_; try clear hK4 K4
 refine wp_seq_k ?_; intro K6 hK6
 refine wp_seq_k ?_; intro K7 hK7
 refine wp_region_lit ?_
 refine l_ev hf trivial rfl rfl (ev_move hf rfl) ?_; intro a hf
 refine l_ev hf trivial rfl rfl (ev_len hf rfl sl_28) ?_; intro a hf
 refine l_ev hf trivial rfl rfl (ev_move hf rfl) ?_; intro a hf
 refine wpList_nil ?_
 refine hK7 _ _ ?_; try clear hK7 K7
 refine wp_block ?_
 refine c_loop (σ := Nat × (List Int)) (fun (s : Nat × (List Int)) (a : Act) (w : World) => match s with | (k, m) => ∃ A8 c8, Fr a 28 [(3, .slice A8 m.length c8), (6, .slice Al l.length cl), (7, .int .i64 (l.length : Int)), (8, .int .i64 (k : Int))] ∧ (k ≤ l.length) ∧ (m = (l.take k).foldl usedStep []) ∧ Own w w0.heap.size 3 1 encI A8 c8 m ∧ Rd w w0.heap.size 107 encG Al l ∧ Below w0.heap.size w0 w) (fun (s : Nat × (List Int)) => match s with | (k, m) => l.length - k) (0, []) ?_ ?_
 · exact ⟨none, 0, hf.sub ⟨rfl, rfl, rfl, rfl, trivial⟩, (Nat.zero_le _), rfl, (Own.nil _ _ _ _ _), hr_l, hW⟩
 rintro ⟨k, m⟩ a w1 ⟨A8, c8, hf, hk, hm, ho8, hr_l, hW⟩
 have hml : m.length ≤ 2 * k := by have := usedFold_len (l.take k) []; rw [← hm, List.length_take] at this; simp only [List.length_nil] at this; omega
 refine wp_seq_k ?_; intro K9 hK9
 refine wp_region_lit ?_
 refine l_ev hf trivial rfl rfl (ev_lss hf rfl rfl) ?_; intro a hf
 refine wpList_nil ?_
 refine hK9 _ _ ?_; try clear hK9 K9
 refine wp_seq_k ?_; intro K10 hK10
 refine c_if hf rfl (fun hc11 => ?_) (fun hc11 => ?_)
 ·have hc11b := hc11
  have hc11 := of_decide_eq_true hc11
  obtain ⟨u12, hu12⟩ := getElem_ex (l := l) (k := k) (by omega)
  have hst := foldl_step (f := usedStep) (b := []) hu12
  refine wp_skip ?_
  refine hK10 _ _ ?_; try clear hK10 K10
  refine wp_seq_k ?_; intro K13 hK13
  refine wp_block ?_
  refine wp_seq_k ?_; intro K14 hK14
  refine wp_region_lit ?_
  refine l_index (k := k) (u := u12) (enc := encG) (l := l) hf trivial rfl rfl rfl sl_28 sz_107 encG_len hr_l hu12 rfl ?_; intro a p16 hat15 hf
  refine l_ev hf trivial rfl rfl (ev_loadN (l := [.int .i64 u12.k, .int .i64 u12.a, .int .i64 u12.b]) hf rfl tN_107 hat15 rfl) ?_; intro a hf
  refine l_eff hf trivial rfl rfl (ef_alloc (zs := [.int .i64 0, .int .i64 0, .int .i64 0]) z_107 rfl) ?_; rintro a _ w2 ⟨b17, rfl, hl17, hE, hB17⟩ hf
  have hlo17 := Nat.le_trans hW.size hl17
  have haw1_17 := hr_l.away hl17
  replace ho8 := ho8.below hE
  replace hr_l := hr_l.below hE
  replace hW := hW.trans (hE.mono hW.size)
  clear hE
  refine l_eff0 hf trivial rfl (ef_store (vs := [.int .i64 u12.k, .int .i64 u12.a, .int .i64 u12.b]) (l' := [.int .i64 u12.k, .int .i64 u12.a, .int .i64 u12.b]) hf rfl rfl sz_107 hB17 rfl rfl rfl rfl rfl) ?_; rintro a _ w3 ⟨ho, hb⟩ hf
  have hold := hB17
  replace ho8 := ho8.onlyT ho hold rfl
  replace hr_l := hr_l.only ho hlo17
  replace hW := Below.only hW ho hlo17
  clear hold
  have hB17 := hb
  clear hb ho
  refine wpList_nil ?_
  refine hK14 _ _ ?_; try clear hK14 K14
  refine wp_seq_k ?_; intro K18 hK18
  refine wp_seq_k ?_; intro K19 hK19
  refine wp_region_lit ?_
  refine l_ev hf trivial rfl rfl (ev_fieldB hf rfl fd_107_0 (m := 0) rfl) ?_; intro a hf
  refine l_ev hf trivial rfl rfl (ev_load1 hf rfl t1_3 (hB17.at 0)) ?_; intro a hf
  refine l_ev hf trivial rfl rfl (ev_eql hf rfl rfl) ?_; intro a hf
  refine wpList_nil ?_
  refine hK19 _ _ ?_; try clear hK19 K19
  refine c_if hf rfl (fun hc20 => ?_) (fun hc20 => ?_)
  ·have hc20b := hc20
   have hus : usedStep m u12 = m := by rw [usedStep, if_pos (by simpa using hc20)]
   refine wp_exit ?_
   refine x_exS ?_
   refine x_exit ?_
   refine hK13 _ _ ?_; try clear hK13 K13
   refine wp_region_lit ?_
   refine l_ev hf trivial rfl rfl (ev_addx hf rfl rfl (by omega) (by omega)) ?_; intro a hf
   refine l_ev hf trivial rfl rfl (ev_move hf rfl) ?_; intro a hf
   refine wpList_nil ?_
   refine x_thenN ?_
   exact ⟨(k + 1, m), ⟨A8, c8, hf.sub ⟨rfl, rfl, rfl, rfl, trivial⟩, (by omega), (by rw [hst, ← hm, hus]), ho8, hr_l, hW⟩, (by first | omega | (dsimp only; omega))⟩
  ·have hc20b := hc20
   have h12 : ¬ u12.k = 12 := by simpa using hc20
   refine wp_skip ?_
   refine hK18 _ _ ?_; try clear hK18 K18
   refine wp_seq_k ?_; intro K21 hK21
   refine wp_region_lit ?_
   refine l_ev hf trivial rfl rfl (ev_move hf rfl) ?_; intro a hf
   refine l_ev hf trivial rfl rfl (ev_fieldB hf rfl fd_107_1 (m := 1) rfl) ?_; intro a hf
   refine l_ev hf trivial rfl rfl (ev_load1 hf rfl t1_3 (hB17.at 1)) ?_; intro a hf
   refine l_eff hf trivial rfl rfl (ef_call (vs := [.slice A8 m.length c8, .int .i64 u12.a]) hf rfl ff_128 (F128 _ A8 c8 m ho8.rd.top u12.a w0.heap.size ho8 hW.size (by have := put_len m u12.a; omega))) ?_; rintro a _ w4 ⟨A22, c22, rfl, ho22, hE⟩ hf
   replace hB17 := hB17.below hE
   replace ho8 := ho8.below hE
   replace hr_l := hr_l.below hE
   replace hW := hW.trans (hE.mono hW.size)
   clear hE
   refine l_ev hf trivial rfl rfl (ev_assign hf rfl) ?_; intro a hf
   refine wpList_nil ?_
   refine hK21 _ _ ?_; try clear hK21 K21
   refine wp_seq_k ?_; intro K23 hK23
   refine wp_region_lit ?_
   refine l_ev hf trivial rfl rfl (ev_fieldB hf rfl fd_107_0 (m := 0) rfl) ?_; intro a hf
   refine l_ev hf trivial rfl rfl (ev_load1 hf rfl t1_3 (hB17.at 0)) ?_; intro a hf
   refine l_eff hf trivial rfl rfl (ef_call (vs := [.int .i64 u12.k, .int .i64 9, .int .i64 11]) hf rfl ff_85 (F85 _ u12.k 9 11)) ?_; rintro a _ _ ⟨rfl, rfl⟩ hf
   refine wpList_nil ?_
   refine hK23 _ _ ?_; try clear hK23 K23
   refine c_if hf rfl (fun hc24 => ?_) (fun hc24 => ?_)
   ·have hc24b := hc24
    have hus : usedStep m u12 = putI (putI m u12.a) u12.b := by rw [usedStep, if_neg h12, if_pos hc24]
    refine wp_region_lit ?_
    refine l_ev hf trivial rfl rfl (ev_move hf rfl) ?_; intro a hf
    refine l_ev hf trivial rfl rfl (ev_fieldB hf rfl fd_107_2 (m := 2) rfl) ?_; intro a hf
    refine l_ev hf trivial rfl rfl (ev_load1 hf rfl t1_3 (hB17.at 2)) ?_; intro a hf
    refine l_eff hf trivial rfl rfl (ef_call (vs := [.slice A22 (putI m u12.a).length c22, .int .i64 u12.b]) hf rfl ff_128 (F128 _ A22 c22 (putI m u12.a) ho22.rd.top u12.b w0.heap.size ho22 hW.size (by have := put_len m u12.a; omega))) ?_; rintro a _ w5 ⟨A25, c25, rfl, ho25, hE⟩ hf
    replace hB17 := hB17.below hE
    replace ho8 := ho8.below hE
    replace hr_l := hr_l.below hE
    replace ho22 := ho22.below hE
    replace hW := hW.trans (hE.mono hW.size)
    clear hE
    refine l_ev hf trivial rfl rfl (ev_assign hf rfl) ?_; intro a hf
    refine wpList_nil ?_
    refine x_norm ?_
    refine hK13 _ _ ?_; try clear hK13 K13
    refine wp_region_lit ?_
    refine l_ev hf trivial rfl rfl (ev_addx hf rfl rfl (by omega) (by omega)) ?_; intro a hf
    refine l_ev hf trivial rfl rfl (ev_move hf rfl) ?_; intro a hf
    refine wpList_nil ?_
    refine x_thenN ?_
    exact ⟨(k + 1, putI (putI m u12.a) u12.b), ⟨A25, c25, hf.sub ⟨rfl, rfl, rfl, rfl, trivial⟩, (by omega), (by rw [hst, ← hm, hus]), ho25, hr_l, hW⟩, (by first | omega | (dsimp only; omega))⟩
   ·have hc24b := hc24
    have hus : usedStep m u12 = putI m u12.a := by rw [usedStep, if_neg h12, if_neg (by rw [hc24]; simp)]
    refine wp_skip ?_
    refine x_norm ?_
    refine hK13 _ _ ?_; try clear hK13 K13
    refine wp_region_lit ?_
    refine l_ev hf trivial rfl rfl (ev_addx hf rfl rfl (by omega) (by omega)) ?_; intro a hf
    refine l_ev hf trivial rfl rfl (ev_move hf rfl) ?_; intro a hf
    refine wpList_nil ?_
    refine x_thenN ?_
    exact ⟨(k + 1, putI m u12.a), ⟨A22, c22, hf.sub ⟨rfl, rfl, rfl, rfl, trivial⟩, (by omega), (by rw [hst, ← hm, hus]), ho22, hr_l, hW⟩, (by first | omega | (dsimp only; omega))⟩
 ·have hc11b := hc11
  have hc11 := of_decide_eq_false hc11
  refine wp_exit ?_
  refine x_exS ?_
  refine x_exS ?_
  refine x_exit ?_
  refine hK6 _ _ ?_; try clear hK6 K6
  refine wp_seq_k ?_; intro K26 hK26
  refine wp_region_lit ?_
  refine l_ev hf trivial rfl rfl (ev_move hf rfl) ?_; intro a hf
  refine l_ev hf trivial rfl rfl (ev_assign hf rfl) ?_; intro a hf
  refine wpList_nil ?_
  refine hK26 _ _ ?_; try clear hK26 K26
  refine wp_ret ?_
  refine c_ret hf (res1 hf rfl rfl) ?_
  have hfin : usedS l = m := by rw [hm, List.take_of_length_le (by omega)]; rfl
  rw [hfin]
  exact ⟨A8, c8, rfl, ho8, hW⟩
end Go.Proofs.YtfgnmflfiobkmaaGreat
set_option maxRecDepth 4000
namespace Go.Proofs.YtfgnmflfiobkmaaGreat
open Go.RowKit
theorem F89 (w0 : World) (Al : Option Addr) (cl : Nat) (l : List Gt) (hr_l : Rd w0 w0.heap.size 107 encG Al l) (Aus : Option Addr) (cus : Nat) (us : List Int) (hr_us : Rd w0 w0.heap.size 3 encI Aus us) (hln : l.length ≤ 10000000) (hlu : us.length ≤ 100000000) : Ret Tryz.prog 89 [.slice Al l.length cl, .slice Aus us.length cus] w0 (fun v w => ∃ A c1, v = .agg #[.int .i64 (⟨max 1 (us.length : Int), l.map (smallG us)⟩ : Cx).n, .slice A (⟨max 1 (us.length : Int), l.map (smallG us)⟩ : Cx).gs.length c1] ∧ Own w w0.heap.size 107 3 encG A c1 (⟨max 1 (us.length : Int), l.map (smallG us)⟩ : Cx).gs ∧ Below w0.heap.size w0 w) := by
 refine enter Tryz.func89 rfl 62 rfl rfl ?_
 intro a hf
 have hW : Below w0.heap.size w0 w0 := Below.refl _ _
 refine wp_seq_k ?_; intro K3 hK3
 refine wp_region_lit ?_
 refine l_eff hf trivial rfl rfl (ef_alloc (zs := [.int .i64 0, .slice none 0 0]) z_41 rfl) ?_; rintro a _ w1 ⟨b5, rfl, hl5, hE, hB5⟩ hf
 have hlo5 := Nat.le_trans hW.size hl5
 replace hr_l := hr_l.below hE
 replace hr_us := hr_us.below hE
 replace hW := hW.trans (hE.mono hW.size)
 clear hE
 refine wpList_nil ?_
 refine hK3 _ _ ?_; try clear hK3 K3
 refine wp_seq_k ?_; intro K6 hK6
 refine wp_region_lit ?_
 refine l_ev hf trivial rfl rfl (ev_move hf rfl) ?_; intro a hf
 refine l_ev hf trivial rfl rfl (ev_len hf rfl sl_36) ?_; intro a hf
 refine l_eff hf trivial rfl rfl (ef_call (vs := [.int .i64 1, .int .i64 (us.length : Int)]) hf rfl ff_131 (F131 _ 1 (us.length : Int))) ?_; rintro a _ _ ⟨rfl, rfl⟩ hf
 refine l_ev hf trivial rfl rfl (ev_build (ps := [(0, .int .i64 (max 1 (us.length : Int)))]) (cs := [.int .i64 (max 1 (us.length : Int)), .slice none 0 0]) hf rfl (fun _ => by first | rfl | kernel_rfl)) ?_; intro a hf
 refine l_eff hf trivial rfl rfl (ef_alloc (zs := [.int .i64 0, .slice none 0 0]) z_41 rfl) ?_; rintro a _ w2 ⟨b9, rfl, hl9, hE, hB9⟩ hf
 have hne5_9 : b5 ≠ b9 := by have := hB5.lt; omega
 have hlo9 := Nat.le_trans hW.size hl9
 replace hB5 := hB5.below hE
 replace hr_l := hr_l.below hE
 replace hr_us := hr_us.below hE
 replace hW := hW.trans (hE.mono hW.size)
 clear hE
 refine l_eff0 hf trivial rfl (ef_store (vs := [.int .i64 (max 1 (us.length : Int)), .slice none 0 0]) (l' := [.int .i64 (max 1 (us.length : Int)), .slice none 0 0]) hf rfl rfl sz_41 hB9 rfl rfl rfl rfl rfl) ?_; rintro a _ w3 ⟨ho, hb⟩ hf
 have hold := hB9
 replace hB5 := hB5.only ho (by omega)
 replace hr_l := hr_l.onlyT ho hold rfl
 replace hr_us := hr_us.onlyT ho hold rfl
 replace hW := Below.only hW ho hlo9
 clear hold
 have hB9 := hb
 clear hb ho
 refine wpList_nil ?_
 refine hK6 _ _ ?_; try clear hK6 K6
 refine wp_seq_k ?_; intro K10 hK10
 refine wp_seq_k ?_; intro K11 hK11
 refine wp_region_lit ?_
 refine l_ev hf trivial rfl rfl (ev_move hf rfl) ?_; intro a hf
 refine l_ev hf trivial rfl rfl (ev_len hf rfl sl_28) ?_; intro a hf
 refine l_ev hf trivial rfl rfl (ev_move hf rfl) ?_; intro a hf
 refine wpList_nil ?_
 refine hK11 _ _ ?_; try clear hK11 K11
 refine wp_block ?_
 refine c_loop (σ := Nat × (List Gt)) (fun (s : Nat × (List Gt)) (a : Act) (w : World) => match s with | (k, m) => ∃ A12 c12, Fr a 62 [(1, .slice Aus us.length cus), (4, .pointer (some ⟨b5, 0, none⟩)), (5, .pointer (some ⟨b9, 0, none⟩)), (15, .slice Al l.length cl), (16, .int .i64 (l.length : Int)), (17, .int .i64 (k : Int))] ∧ (k ≤ l.length) ∧ (m = (l.take k).map (smallG us)) ∧ Blk w b5 41 [.int .i64 0, .slice none 0 0] ∧ Blk w b9 41 [.int .i64 (max 1 (us.length : Int)), .slice A12 m.length c12] ∧ Rd w w0.heap.size 107 encG Al l ∧ Rd w w0.heap.size 3 encI Aus us ∧ Own w w0.heap.size 107 3 encG A12 c12 m ∧ Below w0.heap.size w0 w) (fun (s : Nat × (List Gt)) => match s with | (k, m) => l.length - k) (0, []) ?_ ?_
 · exact ⟨none, 0, hf.sub ⟨rfl, rfl, rfl, rfl, rfl, rfl, trivial⟩, (Nat.zero_le _), rfl, hB5, hB9, hr_l, hr_us, (Own.nil _ _ _ _ _), hW⟩
 rintro ⟨k, m⟩ a w4 ⟨A12, c12, hf, hk, hm, hB5, hB9, hr_l, hr_us, ho12, hW⟩
 have hml : m.length = k := by rw [hm, List.length_map, List.length_take, Nat.min_eq_left hk]
 refine wp_seq_k ?_; intro K13 hK13
 refine wp_region_lit ?_
 refine l_ev hf trivial rfl rfl (ev_lss hf rfl rfl) ?_; intro a hf
 refine wpList_nil ?_
 refine hK13 _ _ ?_; try clear hK13 K13
 refine wp_seq_k ?_; intro K14 hK14
 refine c_if hf rfl (fun hc15 => ?_) (fun hc15 => ?_)
 ·have hc15b := hc15
  have hc15 := of_decide_eq_true hc15
  obtain ⟨u16, hu16⟩ := getElem_ex (l := l) (k := k) (by omega)
  have hst := map_step (f := smallG us) hu16
  refine wp_skip ?_
  refine hK14 _ _ ?_; try clear hK14 K14
  refine wp_seq_k ?_; intro K17 hK17
  refine wp_block ?_
  refine wp_seq_k ?_; intro K18 hK18
  refine wp_region_lit ?_
  refine l_index (k := k) (u := u16) (enc := encG) (l := l) hf trivial rfl rfl rfl sl_28 sz_107 encG_len hr_l hu16 rfl ?_; intro a p20 hat19 hf
  refine l_ev hf trivial rfl rfl (ev_loadN (l := [.int .i64 u16.k, .int .i64 u16.a, .int .i64 u16.b]) hf rfl tN_107 hat19 rfl) ?_; intro a hf
  refine l_eff hf trivial rfl rfl (ef_alloc (zs := [.int .i64 0, .int .i64 0, .int .i64 0]) z_107 rfl) ?_; rintro a _ w5 ⟨b21, rfl, hl21, hE, hB21⟩ hf
  have hlo21 := Nat.le_trans hW.size hl21
  have haw1_21 := hr_l.away hl21
  have haw12_21 := ho12.away hl21
  replace hB5 := hB5.below hE
  replace hB9 := hB9.below hE
  replace hr_l := hr_l.below hE
  replace hr_us := hr_us.below hE
  replace ho12 := ho12.below hE
  replace hW := hW.trans (hE.mono hW.size)
  clear hE
  refine l_eff0 hf trivial rfl (ef_store (vs := [.int .i64 u16.k, .int .i64 u16.a, .int .i64 u16.b]) (l' := [.int .i64 u16.k, .int .i64 u16.a, .int .i64 u16.b]) hf rfl rfl sz_107 hB21 rfl rfl rfl rfl rfl) ?_; rintro a _ w6 ⟨ho, hb⟩ hf
  have hold := hB21
  replace hB5 := hB5.only ho (Blk.ne hB5 hold rfl)
  replace hB9 := hB9.only ho (Blk.ne hB9 hold rfl)
  replace hr_l := hr_l.only ho hlo21
  replace hr_us := hr_us.onlyT ho hold rfl
  replace ho12 := ho12.onlyA ho haw12_21
  replace hW := Below.only hW ho hlo21
  clear hold
  have hB21 := hb
  clear hb ho
  refine wpList_nil ?_
  refine hK18 _ _ ?_; try clear hK18 K18
  refine wp_seq_k ?_; intro K22 hK22
  refine wp_region_lit ?_
  refine l_ev hf trivial rfl rfl (ev_fieldB hf rfl fd_107_0 (m := 0) rfl) ?_; intro a hf
  refine l_ev hf trivial rfl rfl (ev_load1 hf rfl t1_3 (hB21.at 0)) ?_; intro a hf
  refine l_ev hf trivial rfl rfl (ev_build (ps := [(0, .int .i64 u16.k)]) (cs := [.int .i64 u16.k, .int .i64 0, .int .i64 0]) hf rfl (fun _ => by first | rfl | kernel_rfl)) ?_; intro a hf
  refine l_eff hf trivial rfl rfl (ef_alloc (zs := [.int .i64 0, .int .i64 0, .int .i64 0]) z_107 rfl) ?_; rintro a _ w7 ⟨b23, rfl, hl23, hE, hB23⟩ hf
  have hne21_23 : b21 ≠ b23 := by have := hB21.lt; omega
  have hlo23 := Nat.le_trans hW.size hl23
  have haw1_23 := hr_l.away hl23
  have haw12_23 := ho12.away hl23
  replace hB5 := hB5.below hE
  replace hB9 := hB9.below hE
  replace hB21 := hB21.below hE
  replace hr_l := hr_l.below hE
  replace hr_us := hr_us.below hE
  replace ho12 := ho12.below hE
  replace hW := hW.trans (hE.mono hW.size)
  clear hE
  refine l_eff0 hf trivial rfl (ef_store (vs := [.int .i64 u16.k, .int .i64 0, .int .i64 0]) (l' := [.int .i64 u16.k, .int .i64 0, .int .i64 0]) hf rfl rfl sz_107 hB23 rfl rfl rfl rfl rfl) ?_; rintro a _ w8 ⟨ho, hb⟩ hf
  have hold := hB23
  replace hB5 := hB5.only ho (Blk.ne hB5 hold rfl)
  replace hB9 := hB9.only ho (Blk.ne hB9 hold rfl)
  replace hB21 := hB21.only ho (by omega)
  replace hr_l := hr_l.only ho hlo23
  replace hr_us := hr_us.onlyT ho hold rfl
  replace ho12 := ho12.onlyA ho haw12_23
  replace hW := Below.only hW ho hlo23
  clear hold
  have hB23 := hb
  clear hb ho
  refine wpList_nil ?_
  refine hK22 _ _ ?_; try clear hK22 K22
  refine wp_seq_k ?_; intro K24 hK24
  refine wp_seq_k ?_; intro K25 hK25
  refine wp_region_lit ?_
  refine l_ev hf trivial rfl rfl (ev_move hf rfl) ?_; intro a hf
  refine l_ev hf trivial rfl rfl (ev_len hf rfl sl_36) ?_; intro a hf
  refine l_ev hf trivial rfl rfl (ev_move hf rfl) ?_; intro a hf
  refine wpList_nil ?_
  refine hK25 _ _ ?_; try clear hK25 K25
  refine wp_block ?_
  refine c_loop (σ := Nat × Int × Int) (fun (s : Nat × Int × Int) (a : Act) (w : World) => match s with | (j, x, y) => Fr a 62 [(1, .slice Aus us.length cus), (4, .pointer (some ⟨b5, 0, none⟩)), (5, .pointer (some ⟨b9, 0, none⟩)), (7, .pointer (some ⟨b21, 0, none⟩)), (8, .pointer (some ⟨b23, 0, none⟩)), (15, .slice Al l.length cl), (16, .int .i64 (l.length : Int)), (17, .int .i64 (k : Int)), (24, .slice Aus us.length cus), (25, .int .i64 (us.length : Int)), (26, .int .i64 (j : Int))] ∧ (j ≤ us.length) ∧ (x = if u16.k = 12 then 0 else lastN us u16.a j) ∧ (y = if inR u16.k 9 11 = true then lastN us u16.b j else 0) ∧ Blk w b5 41 [.int .i64 0, .slice none 0 0] ∧ Blk w b9 41 [.int .i64 (max 1 (us.length : Int)), .slice A12 m.length c12] ∧ Blk w b21 107 [.int .i64 u16.k, .int .i64 u16.a, .int .i64 u16.b] ∧ Blk w b23 107 [.int .i64 u16.k, .int .i64 x, .int .i64 y] ∧ Rd w w0.heap.size 107 encG Al l ∧ Rd w w0.heap.size 3 encI Aus us ∧ Own w w0.heap.size 107 3 encG A12 c12 m ∧ Below w0.heap.size w0 w) (fun (s : Nat × Int × Int) => match s with | (j, x, y) => us.length - j) (0, 0, 0) ?_ ?_
  · exact ⟨hf.sub ⟨rfl, rfl, rfl, rfl, rfl, rfl, rfl, rfl, rfl, rfl, rfl, trivial⟩, (Nat.zero_le _), (by split <;> rfl), (by split <;> rfl), hB5, hB9, hB21, hB23, hr_l, hr_us, ho12, hW⟩
  rintro ⟨j, x, y⟩ a w9 ⟨hf, hj, hx, hy, hB5, hB9, hB21, hB23, hr_l, hr_us, ho12, hW⟩
  refine wp_seq_k ?_; intro K26 hK26
  refine wp_region_lit ?_
  refine l_ev hf trivial rfl rfl (ev_lss hf rfl rfl) ?_; intro a hf
  refine wpList_nil ?_
  refine hK26 _ _ ?_; try clear hK26 K26
  refine wp_seq_k ?_; intro K27 hK27
  refine c_if hf rfl (fun hc28 => ?_) (fun hc28 => ?_)
  ·have hc28b := hc28
   have hc28 := of_decide_eq_true hc28
   obtain ⟨u29, hu29⟩ := getElem_ex (l := us) (k := j) (by omega)
   refine wp_skip ?_
   refine hK27 _ _ ?_; try clear hK27 K27
   refine wp_seq_k ?_; intro K30 hK30
   refine wp_block ?_
   refine wp_seq_k ?_; intro K31 hK31
   refine wp_region_lit ?_
   refine l_ev hf trivial rfl rfl (ev_move hf rfl) ?_; intro a hf
   refine l_index (k := j) (u := u29) (enc := encI) (l := us) hf trivial rfl rfl rfl sl_36 sz_3 encI_len hr_us hu29 rfl ?_; intro a p33 hat32 hf
   refine l_ev hf trivial rfl rfl (ev_load1 hf rfl t1_3 hat32) ?_; intro a hf
   refine l_ev hf trivial rfl rfl (ev_assign hf rfl) ?_; intro a hf
   refine l_ev hf trivial rfl rfl (ev_assign hf rfl) ?_; intro a hf
   refine wpList_nil ?_
   refine hK31 _ _ ?_; try clear hK31 K31
   refine wp_seq_k ?_; intro K34 hK34
   refine wp_seq_k ?_; intro K35 hK35
   refine c_cut (fun a w => Fr a 62 [(1, .slice Aus us.length cus), (4, .pointer (some ⟨b5, 0, none⟩)), (5, .pointer (some ⟨b9, 0, none⟩)), (7, .pointer (some ⟨b21, 0, none⟩)), (8, .pointer (some ⟨b23, 0, none⟩)), (9, .int .i64 (j : Int)), (10, .int .i64 u29), (15, .slice Al l.length cl), (16, .int .i64 (l.length : Int)), (17, .int .i64 (k : Int)), (24, .slice Aus us.length cus), (25, .int .i64 (us.length : Int)), (26, .int .i64 (j : Int)), (39, .bool ((u16.k != 12) && (u29 == u16.a)))] ∧ w9 = w) ?_ ?_
   ·refine wp_region_lit ?_
    refine l_ev hf trivial rfl rfl (ev_fieldB hf rfl fd_107_0 (m := 0) rfl) ?_; intro a hf
    refine l_ev hf trivial rfl rfl (ev_load1 hf rfl t1_3 (hB21.at 0)) ?_; intro a hf
    refine l_ev hf trivial rfl rfl (ev_neq hf rfl rfl) ?_; intro a hf
    refine l_ev hf trivial rfl rfl (ev_move hf rfl) ?_; intro a hf
    refine g_split hf (t := 34) rfl (fun hg36 => ?_) (fun hg36 => ?_)
    ·refine l_ev hf ⟨_, _, rfl, rfl, hg36⟩ rfl rfl (ev_move hf rfl) ?_; intro a hf
     refine l_ev hf ⟨_, _, rfl, rfl, hg36⟩ rfl rfl (ev_fieldB hf rfl fd_107_1 (m := 1) rfl) ?_; intro a hf
     refine l_ev hf ⟨_, _, rfl, rfl, hg36⟩ rfl rfl (ev_load1 hf rfl t1_3 (hB21.at 1)) ?_; intro a hf
     refine l_ev hf ⟨_, _, rfl, rfl, hg36⟩ rfl rfl (ev_eql hf rfl rfl) ?_; intro a hf
     refine l_ev hf trivial rfl rfl (ev_pickT hf rfl hg36 rfl) ?_; intro a hf
     refine wpList_nil ?_
     exact ⟨hf.sub ⟨rfl, rfl, rfl, rfl, rfl, rfl, rfl, rfl, rfl, rfl, rfl, rfl, rfl, look_bool rfl (by first | rfl | (simp only [hc15b, hc28b, hg36, Bool.true_and, Bool.false_and, Bool.true_or, Bool.false_or]; done) | simp [hc15b, hc28b, hg36]), trivial⟩, rfl⟩
    ·refine l_pass hf ⟨_, _, rfl, rfl, hg36⟩ rfl rfl ?_; intro a hf
     refine l_pass hf ⟨_, _, rfl, rfl, hg36⟩ rfl rfl ?_; intro a hf
     refine l_pass hf ⟨_, _, rfl, rfl, hg36⟩ rfl rfl ?_; intro a hf
     refine l_pass hf ⟨_, _, rfl, rfl, hg36⟩ rfl rfl ?_; intro a hf
     refine l_ev hf trivial rfl rfl (ev_pickF hf rfl hg36 rfl) ?_; intro a hf
     refine wpList_nil ?_
     exact ⟨hf.sub ⟨rfl, rfl, rfl, rfl, rfl, rfl, rfl, rfl, rfl, rfl, rfl, rfl, rfl, look_bool rfl (by first | rfl | (simp only [hc15b, hc28b, hg36, Bool.true_and, Bool.false_and, Bool.true_or, Bool.false_or]; done) | simp [hc15b, hc28b, hg36]), trivial⟩, rfl⟩
   rintro a _ ⟨hf, rfl⟩
   refine hK35 _ _ ?_; try clear hK35 K35
   refine c_if hf rfl (fun hc37 => ?_) (fun hc37 => ?_)
   ·have hc37b := hc37
    refine wp_region_lit ?_
    refine l_ev hf trivial rfl rfl (ev_move hf rfl) ?_; intro a hf
    refine l_ev hf trivial rfl rfl (ev_fieldB hf rfl fd_107_1 (m := 1) rfl) ?_; intro a hf
    refine l_eff0 hf trivial rfl (ef_store (vs := [.int .i64 (j : Int)]) (l' := [.int .i64 u16.k, .int .i64 (j : Int), .int .i64 y]) hf rfl rfl sz_3 hB23 rfl rfl rfl rfl rfl) ?_; rintro a _ w10 ⟨ho, hb⟩ hf
    have hold := hB23
    replace hB5 := hB5.only ho (Blk.ne hB5 hold rfl)
    replace hB9 := hB9.only ho (Blk.ne hB9 hold rfl)
    replace hB21 := hB21.only ho (by omega)
    replace hr_l := hr_l.only ho hlo23
    replace hr_us := hr_us.onlyT ho hold rfl
    replace ho12 := ho12.onlyA ho haw12_23
    replace hW := Below.only hW ho hlo23
    clear hold
    have hB23 := hb
    clear hb ho
    refine wpList_nil ?_
    refine hK34 _ _ ?_; try clear hK34 K34
    refine wp_seq_k ?_; intro K38 hK38
    refine c_cut (fun a w => Fr a 62 [(1, .slice Aus us.length cus), (4, .pointer (some ⟨b5, 0, none⟩)), (5, .pointer (some ⟨b9, 0, none⟩)), (7, .pointer (some ⟨b21, 0, none⟩)), (8, .pointer (some ⟨b23, 0, none⟩)), (9, .int .i64 (j : Int)), (15, .slice Al l.length cl), (16, .int .i64 (l.length : Int)), (17, .int .i64 (k : Int)), (24, .slice Aus us.length cus), (25, .int .i64 (us.length : Int)), (26, .int .i64 (j : Int)), (50, .bool ((inR u16.k 9 11) && (u29 == u16.b)))] ∧ w10 = w) ?_ ?_
    ·refine wp_region_lit ?_
     refine l_ev hf trivial rfl rfl (ev_fieldB hf rfl fd_107_0 (m := 0) rfl) ?_; intro a hf
     refine l_ev hf trivial rfl rfl (ev_load1 hf rfl t1_3 (hB21.at 0)) ?_; intro a hf
     refine l_eff hf trivial rfl rfl (ef_call (vs := [.int .i64 u16.k, .int .i64 9, .int .i64 11]) hf rfl ff_85 (F85 _ u16.k 9 11)) ?_; rintro a _ _ ⟨rfl, rfl⟩ hf
     refine l_ev hf trivial rfl rfl (ev_move hf rfl) ?_; intro a hf
     refine g_split hf (t := 45) rfl (fun hg39 => ?_) (fun hg39 => ?_)
     ·refine l_ev hf ⟨_, _, rfl, rfl, hg39⟩ rfl rfl (ev_move hf rfl) ?_; intro a hf
      refine l_ev hf ⟨_, _, rfl, rfl, hg39⟩ rfl rfl (ev_fieldB hf rfl fd_107_2 (m := 2) rfl) ?_; intro a hf
      refine l_ev hf ⟨_, _, rfl, rfl, hg39⟩ rfl rfl (ev_load1 hf rfl t1_3 (hB21.at 2)) ?_; intro a hf
      refine l_ev hf ⟨_, _, rfl, rfl, hg39⟩ rfl rfl (ev_eql hf rfl rfl) ?_; intro a hf
      refine l_ev hf trivial rfl rfl (ev_pickT hf rfl hg39 rfl) ?_; intro a hf
      refine wpList_nil ?_
      exact ⟨hf.sub ⟨rfl, rfl, rfl, rfl, rfl, rfl, rfl, rfl, rfl, rfl, rfl, rfl, look_bool rfl (by first | rfl | (simp only [hc15b, hc28b, hc37b, hg39, Bool.true_and, Bool.false_and, Bool.true_or, Bool.false_or]; done) | simp [hc15b, hc28b, hc37b, hg39]), trivial⟩, rfl⟩
     ·refine l_pass hf ⟨_, _, rfl, rfl, hg39⟩ rfl rfl ?_; intro a hf
      refine l_pass hf ⟨_, _, rfl, rfl, hg39⟩ rfl rfl ?_; intro a hf
      refine l_pass hf ⟨_, _, rfl, rfl, hg39⟩ rfl rfl ?_; intro a hf
      refine l_pass hf ⟨_, _, rfl, rfl, hg39⟩ rfl rfl ?_; intro a hf
      refine l_ev hf trivial rfl rfl (ev_pickF hf rfl hg39 rfl) ?_; intro a hf
      refine wpList_nil ?_
      exact ⟨hf.sub ⟨rfl, rfl, rfl, rfl, rfl, rfl, rfl, rfl, rfl, rfl, rfl, rfl, look_bool rfl (by first | rfl | (simp only [hc15b, hc28b, hc37b, hg39, Bool.true_and, Bool.false_and, Bool.true_or, Bool.false_or]; done) | simp [hc15b, hc28b, hc37b, hg39]), trivial⟩, rfl⟩
    rintro a _ ⟨hf, rfl⟩
    refine hK38 _ _ ?_; try clear hK38 K38
    refine c_if hf rfl (fun hc40 => ?_) (fun hc40 => ?_)
    ·have hc40b := hc40
     refine wp_region_lit ?_
     refine l_ev hf trivial rfl rfl (ev_move hf rfl) ?_; intro a hf
     refine l_ev hf trivial rfl rfl (ev_fieldB hf rfl fd_107_2 (m := 2) rfl) ?_; intro a hf
     refine l_eff0 hf trivial rfl (ef_store (vs := [.int .i64 (j : Int)]) (l' := [.int .i64 u16.k, .int .i64 (j : Int), .int .i64 (j : Int)]) hf rfl rfl sz_3 hB23 rfl rfl rfl rfl rfl) ?_; rintro a _ w11 ⟨ho, hb⟩ hf
     have hold := hB23
     replace hB5 := hB5.only ho (Blk.ne hB5 hold rfl)
     replace hB9 := hB9.only ho (Blk.ne hB9 hold rfl)
     replace hB21 := hB21.only ho (by omega)
     replace hr_l := hr_l.only ho hlo23
     replace hr_us := hr_us.onlyT ho hold rfl
     replace ho12 := ho12.onlyA ho haw12_23
     replace hW := Below.only hW ho hlo23
     clear hold
     have hB23 := hb
     clear hb ho
     refine wpList_nil ?_
     refine x_norm ?_
     refine hK30 _ _ ?_; try clear hK30 K30
     refine wp_region_lit ?_
     refine l_ev hf trivial rfl rfl (ev_addx hf rfl rfl (by omega) (by omega)) ?_; intro a hf
     refine l_ev hf trivial rfl rfl (ev_move hf rfl) ?_; intro a hf
     refine wpList_nil ?_
     refine x_thenN ?_
     exact ⟨(j + 1, (j : Int), (j : Int)), ⟨hf.sub ⟨rfl, rfl, rfl, rfl, rfl, rfl, rfl, rfl, rfl, rfl, rfl, trivial⟩, (by omega), (by first | exact small_xT hu29 (by assumption) | exact small_xF hu29 hx (by assumption)), (by first | exact small_yT hu29 (by assumption) | exact small_yF hu29 hy (by assumption)), hB5, hB9, hB21, hB23, hr_l, hr_us, ho12, hW⟩, (by first | omega | (dsimp only; omega))⟩
    ·have hc40b := hc40
     refine wp_skip ?_
     refine x_norm ?_
     refine hK30 _ _ ?_; try clear hK30 K30
     refine wp_region_lit ?_
     refine l_ev hf trivial rfl rfl (ev_addx hf rfl rfl (by omega) (by omega)) ?_; intro a hf
     refine l_ev hf trivial rfl rfl (ev_move hf rfl) ?_; intro a hf
     refine wpList_nil ?_
     refine x_thenN ?_
     exact ⟨(j + 1, (j : Int), y), ⟨hf.sub ⟨rfl, rfl, rfl, rfl, rfl, rfl, rfl, rfl, rfl, rfl, rfl, trivial⟩, (by omega), (by first | exact small_xT hu29 (by assumption) | exact small_xF hu29 hx (by assumption)), (by first | exact small_yT hu29 (by assumption) | exact small_yF hu29 hy (by assumption)), hB5, hB9, hB21, hB23, hr_l, hr_us, ho12, hW⟩, (by first | omega | (dsimp only; omega))⟩
   ·have hc37b := hc37
    refine wp_skip ?_
    refine hK34 _ _ ?_; try clear hK34 K34
    refine wp_seq_k ?_; intro K41 hK41
    refine c_cut (fun a w => Fr a 62 [(1, .slice Aus us.length cus), (4, .pointer (some ⟨b5, 0, none⟩)), (5, .pointer (some ⟨b9, 0, none⟩)), (7, .pointer (some ⟨b21, 0, none⟩)), (8, .pointer (some ⟨b23, 0, none⟩)), (9, .int .i64 (j : Int)), (15, .slice Al l.length cl), (16, .int .i64 (l.length : Int)), (17, .int .i64 (k : Int)), (24, .slice Aus us.length cus), (25, .int .i64 (us.length : Int)), (26, .int .i64 (j : Int)), (50, .bool ((inR u16.k 9 11) && (u29 == u16.b)))] ∧ w9 = w) ?_ ?_
    ·refine wp_region_lit ?_
     refine l_ev hf trivial rfl rfl (ev_fieldB hf rfl fd_107_0 (m := 0) rfl) ?_; intro a hf
     refine l_ev hf trivial rfl rfl (ev_load1 hf rfl t1_3 (hB21.at 0)) ?_; intro a hf
     refine l_eff hf trivial rfl rfl (ef_call (vs := [.int .i64 u16.k, .int .i64 9, .int .i64 11]) hf rfl ff_85 (F85 _ u16.k 9 11)) ?_; rintro a _ _ ⟨rfl, rfl⟩ hf
     refine l_ev hf trivial rfl rfl (ev_move hf rfl) ?_; intro a hf
     refine g_split hf (t := 45) rfl (fun hg42 => ?_) (fun hg42 => ?_)
     ·refine l_ev hf ⟨_, _, rfl, rfl, hg42⟩ rfl rfl (ev_move hf rfl) ?_; intro a hf
      refine l_ev hf ⟨_, _, rfl, rfl, hg42⟩ rfl rfl (ev_fieldB hf rfl fd_107_2 (m := 2) rfl) ?_; intro a hf
      refine l_ev hf ⟨_, _, rfl, rfl, hg42⟩ rfl rfl (ev_load1 hf rfl t1_3 (hB21.at 2)) ?_; intro a hf
      refine l_ev hf ⟨_, _, rfl, rfl, hg42⟩ rfl rfl (ev_eql hf rfl rfl) ?_; intro a hf
      refine l_ev hf trivial rfl rfl (ev_pickT hf rfl hg42 rfl) ?_; intro a hf
      refine wpList_nil ?_
      exact ⟨hf.sub ⟨rfl, rfl, rfl, rfl, rfl, rfl, rfl, rfl, rfl, rfl, rfl, rfl, look_bool rfl (by first | rfl | (simp only [hc15b, hc28b, hc37b, hg42, Bool.true_and, Bool.false_and, Bool.true_or, Bool.false_or]; done) | simp [hc15b, hc28b, hc37b, hg42]), trivial⟩, rfl⟩
     ·refine l_pass hf ⟨_, _, rfl, rfl, hg42⟩ rfl rfl ?_; intro a hf
      refine l_pass hf ⟨_, _, rfl, rfl, hg42⟩ rfl rfl ?_; intro a hf
      refine l_pass hf ⟨_, _, rfl, rfl, hg42⟩ rfl rfl ?_; intro a hf
      refine l_pass hf ⟨_, _, rfl, rfl, hg42⟩ rfl rfl ?_; intro a hf
      refine l_ev hf trivial rfl rfl (ev_pickF hf rfl hg42 rfl) ?_; intro a hf
      refine wpList_nil ?_
      exact ⟨hf.sub ⟨rfl, rfl, rfl, rfl, rfl, rfl, rfl, rfl, rfl, rfl, rfl, rfl, look_bool rfl (by first | rfl | (simp only [hc15b, hc28b, hc37b, hg42, Bool.true_and, Bool.false_and, Bool.true_or, Bool.false_or]; done) | simp [hc15b, hc28b, hc37b, hg42]), trivial⟩, rfl⟩
    rintro a _ ⟨hf, rfl⟩
    refine hK41 _ _ ?_; try clear hK41 K41
    refine c_if hf rfl (fun hc43 => ?_) (fun hc43 => ?_)
    ·have hc43b := hc43
     refine wp_region_lit ?_
     refine l_ev hf trivial rfl rfl (ev_move hf rfl) ?_; intro a hf
     refine l_ev hf trivial rfl rfl (ev_fieldB hf rfl fd_107_2 (m := 2) rfl) ?_; intro a hf
     refine l_eff0 hf trivial rfl (ef_store (vs := [.int .i64 (j : Int)]) (l' := [.int .i64 u16.k, .int .i64 x, .int .i64 (j : Int)]) hf rfl rfl sz_3 hB23 rfl rfl rfl rfl rfl) ?_; rintro a _ w12 ⟨ho, hb⟩ hf
     have hold := hB23
     replace hB5 := hB5.only ho (Blk.ne hB5 hold rfl)
     replace hB9 := hB9.only ho (Blk.ne hB9 hold rfl)
     replace hB21 := hB21.only ho (by omega)
     replace hr_l := hr_l.only ho hlo23
     replace hr_us := hr_us.onlyT ho hold rfl
     replace ho12 := ho12.onlyA ho haw12_23
     replace hW := Below.only hW ho hlo23
     clear hold
     have hB23 := hb
     clear hb ho
     refine wpList_nil ?_
     refine x_norm ?_
     refine hK30 _ _ ?_; try clear hK30 K30
     refine wp_region_lit ?_
     refine l_ev hf trivial rfl rfl (ev_addx hf rfl rfl (by omega) (by omega)) ?_; intro a hf
     refine l_ev hf trivial rfl rfl (ev_move hf rfl) ?_; intro a hf
     refine wpList_nil ?_
     refine x_thenN ?_
     exact ⟨(j + 1, x, (j : Int)), ⟨hf.sub ⟨rfl, rfl, rfl, rfl, rfl, rfl, rfl, rfl, rfl, rfl, rfl, trivial⟩, (by omega), (by first | exact small_xT hu29 (by assumption) | exact small_xF hu29 hx (by assumption)), (by first | exact small_yT hu29 (by assumption) | exact small_yF hu29 hy (by assumption)), hB5, hB9, hB21, hB23, hr_l, hr_us, ho12, hW⟩, (by first | omega | (dsimp only; omega))⟩
    ·have hc43b := hc43
     refine wp_skip ?_
     refine x_norm ?_
     refine hK30 _ _ ?_; try clear hK30 K30
     refine wp_region_lit ?_
     refine l_ev hf trivial rfl rfl (ev_addx hf rfl rfl (by omega) (by omega)) ?_; intro a hf
     refine l_ev hf trivial rfl rfl (ev_move hf rfl) ?_; intro a hf
     refine wpList_nil ?_
     refine x_thenN ?_
     exact ⟨(j + 1, x, y), ⟨hf.sub ⟨rfl, rfl, rfl, rfl, rfl, rfl, rfl, rfl, rfl, rfl, rfl, trivial⟩, (by omega), (by first | exact small_xT hu29 (by assumption) | exact small_xF hu29 hx (by assumption)), (by first | exact small_yT hu29 (by assumption) | exact small_yF hu29 hy (by assumption)), hB5, hB9, hB21, hB23, hr_l, hr_us, ho12, hW⟩, (by first | omega | (dsimp only; omega))⟩
  ·have hc28b := hc28
   have hc28 := of_decide_eq_false hc28
   have hjl : j = us.length := by omega
   refine wp_exit ?_
   refine x_exS ?_
   refine x_exS ?_
   refine x_exit ?_
   refine hK24 _ _ ?_; try clear hK24 K24
   refine wp_region_lit ?_
   refine l_ev hf trivial rfl rfl (ev_fieldB hf rfl fd_41_1 (m := 1) rfl) ?_; intro a hf
   refine l_ev hf trivial rfl rfl (ev_load1 hf rfl t1_28 (hB9.at 1)) ?_; intro a hf
   refine l_ev hf trivial rfl rfl (ev_loadN (l := [.int .i64 u16.k, .int .i64 x, .int .i64 y]) hf rfl tN_107 (hB23.at 0) rfl) ?_; intro a hf
   refine l_eff hf trivial rfl rfl (ef_buildSlice (k := 1) (vs := [.agg #[.int .i64 u16.k, .int .i64 x, .int .i64 y]]) (zs := [.int .i64 u16.k, .int .i64 x, .int .i64 y]) hf rfl sl_28 inf_107 rfl rfl) ?_; rintro a _ w13 ⟨b44, rfl, hl44, hE, hB44⟩ hf
   have hne21_44 : b21 ≠ b44 := by have := hB21.lt; omega
   have hne23_44 : b23 ≠ b44 := by have := hB23.lt; omega
   have hlo44 := Nat.le_trans hW.size hl44
   have haw1_44 := hr_l.away hl44
   have haw12_44 := ho12.away hl44
   replace hB5 := hB5.below hE
   replace hB9 := hB9.below hE
   replace hB21 := hB21.below hE
   replace hB23 := hB23.below hE
   replace hr_l := hr_l.below hE
   replace hr_us := hr_us.below hE
   replace ho12 := ho12.below hE
   replace hW := hW.trans (hE.mono hW.size)
   clear hE
   refine l_eff hf trivial rfl rfl (ef_append (enc := encG) (l := (m)) (l2 := ([(⟨u16.k, x, y⟩ : Gt)])) (B0 := w0.heap.size) hf rfl rfl sl_28 inf_107 encG_len encG_one ho12 (Rd.of_blk hB44 rfl _ hB44.lt) (by simp only [maxLen]; simp; omega) (by simp; omega) hW.size) ?_; rintro a _ w14 ⟨A46, c46, rfl, ho46, hg, hat⟩ hf
   have hown : Own _ w0.heap.size 107 3 encG _ _ (m) := ho12
   have haw46_21 := hat _ hB21.lt haw12_21
   have haw46_23 := hat _ hB23.lt haw12_23
   have haw46_44 := hat _ hB44.lt haw12_44
   clear hat
   replace hB5 := hB5.appT hown hg rfl
   replace hB9 := hB9.appT hown hg rfl
   replace hB21 := hB21.appA hg haw12_21
   replace hB23 := hB23.appA hg haw12_23
   replace hr_l := hr_l.appB hown hg (Nat.le_refl _)
   replace hr_us := hr_us.appT hown hg rfl
   replace hW := Below.app hW hown hg (Nat.le_refl _) hW.size
   clear hown hg
   refine l_ev hf trivial rfl rfl (ev_fieldB hf rfl fd_41_1 (m := 1) rfl) ?_; intro a hf
   refine l_eff0 hf trivial rfl (ef_store (vs := [.slice A46 (m ++ ([(⟨u16.k, x, y⟩ : Gt)])).length c46]) (l' := [.int .i64 (max 1 (us.length : Int)), .slice A46 (m ++ ([(⟨u16.k, x, y⟩ : Gt)])).length c46]) hf rfl rfl sz_28 hB9 rfl rfl rfl rfl rfl) ?_; rintro a _ w15 ⟨ho, hb⟩ hf
   have hold := hB9
   replace hB5 := hB5.only ho (by omega)
   replace hB21 := hB21.only ho (Blk.ne hB21 hold rfl)
   replace hB23 := hB23.only ho (Blk.ne hB23 hold rfl)
   replace hr_l := hr_l.onlyT ho hold rfl
   replace hr_us := hr_us.onlyT ho hold rfl
   replace ho46 := ho46.onlyT ho hold rfl
   replace hW := Below.only hW ho hlo9
   clear hold
   have hB9 := hb
   clear hb ho
   refine wpList_nil ?_
   refine x_norm ?_
   refine hK17 _ _ ?_; try clear hK17 K17
   refine wp_region_lit ?_
   refine l_ev hf trivial rfl rfl (ev_addx hf rfl rfl (by omega) (by omega)) ?_; intro a hf
   refine l_ev hf trivial rfl rfl (ev_move hf rfl) ?_; intro a hf
   refine wpList_nil ?_
   refine x_thenN ?_
   exact ⟨(k + 1, m ++ [(⟨u16.k, x, y⟩ : Gt)]), ⟨A46, c46, hf.sub ⟨rfl, rfl, rfl, rfl, rfl, rfl, trivial⟩, (by omega), (by rw [hst, hm, smallG, ← hjl, ← hx, ← hy]), hB5, hB9, hr_l, hr_us, ho46, hW⟩, (by first | omega | (dsimp only; omega))⟩
 ·have hc15b := hc15
  have hc15 := of_decide_eq_false hc15
  refine wp_exit ?_
  refine x_exS ?_
  refine x_exS ?_
  refine x_exit ?_
  refine hK10 _ _ ?_; try clear hK10 K10
  refine wp_seq_k ?_; intro K47 hK47
  refine wp_region_lit ?_
  refine l_ev hf trivial rfl rfl (ev_loadN (l := [.int .i64 (max 1 (us.length : Int)), .slice A12 m.length c12]) hf rfl tN_41 (hB9.at 0) rfl) ?_; intro a hf
  refine l_eff0 hf trivial rfl (ef_store (vs := [.int .i64 (max 1 (us.length : Int)), .slice A12 m.length c12]) (l' := [.int .i64 (max 1 (us.length : Int)), .slice A12 m.length c12]) hf rfl rfl sz_41 hB5 rfl rfl rfl rfl rfl) ?_; rintro a _ w16 ⟨ho, hb⟩ hf
  have hold := hB5
  replace hB9 := hB9.only ho (by omega)
  replace hr_l := hr_l.onlyT ho hold rfl
  replace hr_us := hr_us.onlyT ho hold rfl
  replace ho12 := ho12.onlyT ho hold rfl
  replace hW := Below.only hW ho hlo5
  clear hold
  have hB5 := hb
  clear hb ho
  refine wpList_nil ?_
  refine hK47 _ _ ?_; try clear hK47 K47
  refine wp_ret ?_
  refine c_ret hf (res1 hf rfl (ResV.cellN (l := [.int .i64 (max 1 (us.length : Int)), .slice A12 m.length c12]) rfl tN_41 (hB5.at 0) rfl)) ?_
  have hfin : l.map (smallG us) = m := by rw [hm, List.take_of_length_le (by omega)]
  rw [hfin]
  exact ⟨A12, c12, rfl, ho12, hW⟩
end Go.Proofs.YtfgnmflfiobkmaaGreat
set_option maxRecDepth 4000
namespace Go.Proofs.YtfgnmflfiobkmaaGreat
open Go.RowKit
theorem F44 (w0 : World) (r : Rp) (Ar : Option Addr) (cr : Nat) (hr_r : Rd w0 w0.heap.size 107 encG Ar r.old) (Br : Option Addr) (dr : Nat) (hs_r : Rd w0 w0.heap.size 107 encG Br r.new) (hla : r.old.length ≤ 1000000) (hlb : r.new.length ≤ 1000000) : Ret Tryz.prog 44 [.agg #[.int .i64 r.pos, .slice Ar r.old.length cr, .slice Br r.new.length dr]] w0 (fun v w => v = .tuple #[.bool ((justS r).1), .bool ((justS r).2)] ∧ Below w0.heap.size w0 w) := by
 refine enter Tryz.func44 rfl 24 rfl rfl ?_
 intro a hf
 have hW : Below w0.heap.size w0 w0 := Below.refl _ _
 refine wp_seq_k ?_; intro K3 hK3
 refine wp_region_lit ?_
 refine l_eff hf trivial rfl rfl (ef_box (zs := [.int .i64 r.pos, .slice Ar r.old.length cr, .slice Br r.new.length dr]) hf rfl rfl) ?_; rintro a _ w1 ⟨b4, rfl, hl4, hE, hB4⟩ hf
 have hlo4 := Nat.le_trans hW.size hl4
 replace hr_r := hr_r.below hE
 replace hs_r := hs_r.below hE
 replace hW := hW.trans (hE.mono hW.size)
 clear hE
 refine l_ev hf trivial rfl rfl (ev_assign hf rfl) ?_; intro a hf
 refine l_ev hf trivial rfl rfl (ev_assign hf rfl) ?_; intro a hf
 refine wpList_nil ?_
 refine hK3 _ _ ?_; try clear hK3 K3
 refine wp_seq_k ?_; intro K5 hK5
 refine wp_draw none (fun j => [6].contains j) mixed ?_
 intro w2 hE
 replace hB4 := hB4.below hE
 replace hr_r := hr_r.below hE
 replace hs_r := hs_r.below hE
 replace hW := hW.trans (hE.mono hW.size)
 clear hE
 refine s_ev0 1 rfl (by kernel_rfl) hf trivial rfl rfl (fun _ => ev_fieldB hf rfl fd_30_1 (m := 1) rfl) ?_; intro a hf
 refine s_ev 2 rfl (by kernel_rfl) (by kernel_rfl) hf trivial rfl rfl (ev_load1 hf rfl t1_28 (hB4.at 1)) ?_; intro a hf
 refine s_ev0 4 rfl (by kernel_rfl) hf trivial rfl rfl (fun _ => ev_fieldB hf rfl fd_30_2 (m := 2) rfl) ?_; intro a hf
 refine s_ev 5 rfl (by kernel_rfl) (by kernel_rfl) hf trivial rfl rfl (ev_load1 hf rfl t1_28 (hB4.at 2)) ?_; intro a hf
 refine s_one 0 (by kernel_rfl) ?_
 refine p_eff rfl hf trivial rfl rfl (Ef.mono (ef_buildSlice (k := 0) (vs := []) (zs := []) hf rfl sl_28 inf_107 rfl rfl) (fun _ _ h => ⟨fun _ => by obtain ⟨_, _, _, hE, _⟩ := h; exact hE, h⟩)) ?_; rintro a _ w3 ⟨b6, rfl, hl6, hE, hB6⟩ hf
 have hlo6 := Nat.le_trans hW.size hl6
 have haw1_6 := hr_r.away hl6
 have haw2_6 := hs_r.away hl6
 replace hB4 := hB4.below hE
 replace hr_r := hr_r.below hE
 replace hs_r := hs_r.below hE
 replace hW := hW.trans (hE.mono hW.size)
 clear hE
 refine s_one 3 (by kernel_rfl) ?_
 refine p_eff rfl hf trivial rfl rfl (Ef.mono (ef_append0 (enc := encG) (l2 := (r.old)) hf rfl rfl sl_28 inf_107 encG_len encG_one hB6 hr_r (by simp only [maxLen]; omega) (by omega)) (fun _ _ h => ⟨fun _ => by obtain ⟨A8, c8, rfl, ho8, hE⟩ := h; exact hE, h⟩)) ?_; rintro a _ w4 ⟨A8, c8, rfl, ho8, hE⟩ hf
 replace ho8 := ho8.lower hlo6
 replace hB4 := hB4.below hE
 replace hr_r := hr_r.below hE
 replace hs_r := hs_r.below hE
 replace hW := hW.trans (hE.mono hW.size)
 clear hE
 refine s_one 6 (by kernel_rfl) ?_
 refine p_eff rfl hf trivial rfl rfl (Ef.mono (ef_append (enc := encG) (l := (r.old)) (l2 := (r.new)) (B0 := w0.heap.size) hf rfl rfl sl_28 inf_107 encG_len encG_one ho8 hs_r (by simp only [maxLen]; omega) (by omega) hW.size) (fun _ _ h => ⟨fun h0 => absurd h0 (by decide), h⟩)) ?_; rintro a _ w5 ⟨A9, c9, rfl, ho9, hg, hat⟩ hf
 have hown : Own _ w0.heap.size 107 3 encG _ _ (r.old) := ho8
 clear hat
 replace hB4 := hB4.appT hown hg rfl
 replace hr_r := hr_r.appB hown hg (Nat.le_refl _)
 replace hs_r := hs_r.appB hown hg (Nat.le_refl _)
 replace hW := Below.app hW hown hg (Nat.le_refl _) hW.size
 clear hown hg
 refine s_one 7 (by kernel_rfl) ?_
 refine p_eff rfl hf trivial rfl rfl (Ef.mono (ef_call (vs := [.slice A9 (r.old ++ r.new).length c9]) hf rfl ff_87 (F87 _ A9 c9 (r.old ++ r.new) ho9.rd.top (by simp; omega))) (fun _ _ h => ⟨fun _ => by obtain ⟨A10, c10, rfl, ho10, hE⟩ := h; exact hE, h⟩)) ?_; rintro a _ w6 ⟨A10, c10, rfl, ho10, hE⟩ hf
 replace ho10 := ho10.lower hW.size
 replace hB4 := hB4.below hE
 replace hr_r := hr_r.below hE
 replace hs_r := hs_r.below hE
 replace ho9 := ho9.below hE
 replace hW := hW.trans (hE.mono hW.size)
 clear hE
 refine s_ev0 8 rfl (by kernel_rfl) hf trivial rfl rfl (fun _ => ev_assign hf rfl) ?_; intro a hf
 refine s_done (by kernel_rfl) ?_
 refine hK5 _ _ ?_; try clear hK5 K5
 refine wp_seq_k ?_; intro K11 hK11
 refine wp_draw none (fun _ => false) mixed ?_
 intro w7 hE
 replace hB4 := hB4.below hE
 replace hr_r := hr_r.below hE
 replace hs_r := hs_r.below hE
 replace ho9 := ho9.below hE
 replace ho10 := ho10.below hE
 replace hW := hW.trans (hE.mono hW.size)
 clear hE
 refine s_ev0 0 rfl (by kernel_rfl) hf trivial rfl rfl (fun _ => ev_fieldB hf rfl fd_30_1 (m := 1) rfl) ?_; intro a hf
 refine s_ev 1 rfl (by kernel_rfl) (by kernel_rfl) hf trivial rfl rfl (ev_load1 hf rfl t1_28 (hB4.at 1)) ?_; intro a hf
 refine s_ev0 2 rfl (by kernel_rfl) hf trivial rfl rfl (fun _ => ev_move hf rfl) ?_; intro a hf
 refine s_ev0 4 rfl (by kernel_rfl) hf trivial rfl rfl (fun _ => ev_fieldB hf rfl fd_30_2 (m := 2) rfl) ?_; intro a hf
 refine s_ev 5 rfl (by kernel_rfl) (by kernel_rfl) hf trivial rfl rfl (ev_load1 hf rfl t1_28 (hB4.at 2)) ?_; intro a hf
 refine s_ev0 6 rfl (by kernel_rfl) hf trivial rfl rfl (fun _ => ev_move hf rfl) ?_; intro a hf
 refine s_one 3 (by kernel_rfl) ?_
 refine p_eff rfl hf trivial rfl rfl (Ef.mono (ef_call (vs := [.slice Ar r.old.length cr, .slice A10 (usedS (r.old ++ r.new)).length c10]) hf rfl ff_89 (F89 _ Ar cr r.old hr_r.top A10 c10 (usedS (r.old ++ r.new)) ho10.rd.top (by omega) (by have := usedS_len (r.old ++ r.new); simp only [List.length_append] at this; omega))) (fun _ _ h => ⟨fun _ => by obtain ⟨A12, c12, rfl, ho12, hE⟩ := h; exact hE, h⟩)) ?_; rintro a _ w8 ⟨A12, c12, rfl, ho12, hE⟩ hf
 replace ho12 := ho12.lower hW.size
 replace hB4 := hB4.below hE
 replace hr_r := hr_r.below hE
 replace hs_r := hs_r.below hE
 replace ho9 := ho9.below hE
 replace ho10 := ho10.below hE
 replace hW := hW.trans (hE.mono hW.size)
 clear hE
 refine s_one 7 (by kernel_rfl) ?_
 refine p_eff rfl hf trivial rfl rfl (Ef.mono (ef_call (vs := [.slice Br r.new.length dr, .slice A10 (usedS (r.old ++ r.new)).length c10]) hf rfl ff_89 (F89 _ Br dr r.new hs_r.top A10 c10 (usedS (r.old ++ r.new)) ho10.rd.top (by omega) (by have := usedS_len (r.old ++ r.new); simp only [List.length_append] at this; omega))) (fun _ _ h => ⟨fun _ => by obtain ⟨A13, c13, rfl, ho13, hE⟩ := h; exact hE, h⟩)) ?_; rintro a _ w9 ⟨A13, c13, rfl, ho13, hE⟩ hf
 replace ho13 := ho13.lower hW.size
 replace hB4 := hB4.below hE
 replace hr_r := hr_r.below hE
 replace hs_r := hs_r.below hE
 replace ho9 := ho9.below hE
 replace ho10 := ho10.below hE
 replace ho12 := ho12.below hE
 replace hW := hW.trans (hE.mono hW.size)
 clear hE
 refine s_one 8 (by kernel_rfl) ?_
 refine p_eff rfl hf trivial rfl rfl (Ef.mono (ef_call (vs := [.agg #[.int .i64 ((⟨max 1 ((usedS (r.old ++ r.new)).length : Int), r.old.map (smallG (usedS (r.old ++ r.new)))⟩ : Cx).n), .slice A12 ((⟨max 1 ((usedS (r.old ++ r.new)).length : Int), r.old.map (smallG (usedS (r.old ++ r.new)))⟩ : Cx).gs).length c12], .agg #[.int .i64 ((⟨max 1 ((usedS (r.old ++ r.new)).length : Int), r.new.map (smallG (usedS (r.old ++ r.new)))⟩ : Cx).n), .slice A13 ((⟨max 1 ((usedS (r.old ++ r.new)).length : Int), r.new.map (smallG (usedS (r.old ++ r.new)))⟩ : Cx).gs).length c13]]) hf rfl ff_88 (F88 _ (⟨max 1 ((usedS (r.old ++ r.new)).length : Int), r.old.map (smallG (usedS (r.old ++ r.new)))⟩ : Cx) A12 c12 ho12.rd.top (⟨max 1 ((usedS (r.old ++ r.new)).length : Int), r.new.map (smallG (usedS (r.old ++ r.new)))⟩ : Cx) A13 c13 ho13.rd.top)) (fun _ _ h => ⟨fun _ => by obtain ⟨rfl, hE⟩ := h; exact hE, h⟩)) ?_; rintro a _ w10 ⟨rfl, hE⟩ hf
 replace hB4 := hB4.below hE
 replace hr_r := hr_r.below hE
 replace hs_r := hs_r.below hE
 replace ho9 := ho9.below hE
 replace ho10 := ho10.below hE
 replace ho12 := ho12.below hE
 replace ho13 := ho13.below hE
 replace hW := hW.trans (hE.mono hW.size)
 clear hE
 refine s_ev0 9 rfl (by kernel_rfl) hf trivial rfl rfl (fun _ => ev_extract (vs := [.bool ((sameS (⟨max 1 ((usedS (r.old ++ r.new)).length : Int), r.old.map (smallG (usedS (r.old ++ r.new)))⟩ : Cx) (⟨max 1 ((usedS (r.old ++ r.new)).length : Int), r.new.map (smallG (usedS (r.old ++ r.new)))⟩ : Cx)).1), .bool ((sameS (⟨max 1 ((usedS (r.old ++ r.new)).length : Int), r.old.map (smallG (usedS (r.old ++ r.new)))⟩ : Cx) (⟨max 1 ((usedS (r.old ++ r.new)).length : Int), r.new.map (smallG (usedS (r.old ++ r.new)))⟩ : Cx)).2)]) hf rfl rfl) ?_; intro a hf
 refine s_ev0 10 rfl (by kernel_rfl) hf trivial rfl rfl (fun _ => ev_extract (vs := [.bool ((sameS (⟨max 1 ((usedS (r.old ++ r.new)).length : Int), r.old.map (smallG (usedS (r.old ++ r.new)))⟩ : Cx) (⟨max 1 ((usedS (r.old ++ r.new)).length : Int), r.new.map (smallG (usedS (r.old ++ r.new)))⟩ : Cx)).1), .bool ((sameS (⟨max 1 ((usedS (r.old ++ r.new)).length : Int), r.old.map (smallG (usedS (r.old ++ r.new)))⟩ : Cx) (⟨max 1 ((usedS (r.old ++ r.new)).length : Int), r.new.map (smallG (usedS (r.old ++ r.new)))⟩ : Cx)).2)]) hf rfl rfl) ?_; intro a hf
 refine s_ev0 11 rfl (by kernel_rfl) hf trivial rfl rfl (fun _ => ev_assign hf rfl) ?_; intro a hf
 refine s_ev0 12 rfl (by kernel_rfl) hf trivial rfl rfl (fun _ => ev_assign hf rfl) ?_; intro a hf
 refine s_done (by kernel_rfl) ?_
 refine hK11 _ _ ?_; try clear hK11 K11
 refine wp_ret ?_
 refine c_ret hf (res2 hf rfl rfl rfl) ?_
 exact ⟨rfl, hW⟩
theorem F10 (w0 : World) (n : Int) (r : Rp) (Ar : Option Addr) (cr : Nat) (hr_r : Rd w0 w0.heap.size 107 encG Ar r.old) (Br : Option Addr) (dr : Nat) (hs_r : Rd w0 w0.heap.size 107 encG Br r.new) (hla : r.old.length ≤ 1048576) (hlb : r.new.length ≤ 1048576) : Ret Tryz.prog 10 [.int .i64 n, .agg #[.int .i64 r.pos, .slice Ar r.old.length cr, .slice Br r.new.length dr]] w0 (fun v w => v = .tuple #[.bool ((specJ n r).1), .bool ((specJ n r).2)] ∧ Below w0.heap.size w0 w) := by
 refine enter Tryz.func10 rfl 14 rfl rfl ?_
 intro a hf
 have hW : Below w0.heap.size w0 w0 := Below.refl _ _
 refine wp_seq_k ?_; intro K3 hK3
 refine wp_region_lit ?_
 refine l_eff hf trivial rfl rfl (ef_box (zs := [.int .i64 r.pos, .slice Ar r.old.length cr, .slice Br r.new.length dr]) hf rfl rfl) ?_; rintro a _ w1 ⟨b4, rfl, hl4, hE, hB4⟩ hf
 have hlo4 := Nat.le_trans hW.size hl4
 replace hr_r := hr_r.below hE
 replace hs_r := hs_r.below hE
 replace hW := hW.trans (hE.mono hW.size)
 clear hE
 refine l_ev hf trivial rfl rfl (ev_assign hf rfl) ?_; intro a hf
 refine l_ev hf trivial rfl rfl (ev_assign hf rfl) ?_; intro a hf
 refine wpList_nil ?_
 refine hK3 _ _ ?_; try clear hK3 K3
 refine wp_seq_k ?_; intro K5 hK5
 refine wp_seq_k ?_; intro K6 hK6
 refine wp_region_lit ?_
 refine l_ev hf trivial rfl rfl (ev_move hf rfl) ?_; intro a hf
 refine l_ev hf trivial rfl rfl (ev_loadN (l := [.int .i64 r.pos, .slice Ar r.old.length cr, .slice Br r.new.length dr]) hf rfl tN_30 (hB4.at 0) rfl) ?_; intro a hf
 refine l_eff hf trivial rfl rfl (ef_call (vs := [.int .i64 n, .agg #[.int .i64 r.pos, .slice Ar r.old.length cr, .slice Br r.new.length dr]]) hf rfl ff_43 (F43 _ n r Ar cr hr_r.top Br dr hs_r.top (by omega) (by omega))) ?_; rintro a _ w2 ⟨rfl, hE⟩ hf
 replace hB4 := hB4.below hE
 replace hr_r := hr_r.below hE
 replace hs_r := hs_r.below hE
 replace hW := hW.trans (hE.mono hW.size)
 clear hE
 refine l_ev hf trivial rfl rfl (ev_not hf rfl) ?_; intro a hf
 refine wpList_nil ?_
 refine hK6 _ _ ?_; try clear hK6 K6
 refine c_if hf rfl (fun hc7 => ?_) (fun hc7 => ?_)
 ·have hc7b := hc7
  have hn : ¬ validS n r = true := by revert hc7; cases validS n r <;> simp
  refine wp_seq_k ?_; intro K8 hK8
  refine wp_region_lit ?_
  refine l_ev hf trivial rfl rfl (ev_assign hf rfl) ?_; intro a hf
  refine l_ev hf trivial rfl rfl (ev_assign hf rfl) ?_; intro a hf
  refine wpList_nil ?_
  refine hK8 _ _ ?_; try clear hK8 K8
  refine wp_ret ?_
  refine x_retS ?_
  refine c_ret hf (res2 hf rfl rfl rfl) ?_
  exact ⟨by rw [specJ, if_neg hn], hW⟩
 ·have hc7b := hc7
  have hy : validS n r = true := by revert hc7; cases validS n r <;> simp
  have hy2 := hy
  rw [valid_eq] at hy2
  obtain ⟨hn, hl, ho, hw⟩ := vr_spec hy2
  refine wp_skip ?_
  refine hK5 _ _ ?_; try clear hK5 K5
  refine wp_seq_k ?_; intro K9 hK9
  refine wp_region_lit ?_
  refine l_ev hf trivial rfl rfl (ev_loadN (l := [.int .i64 r.pos, .slice Ar r.old.length cr, .slice Br r.new.length dr]) hf rfl tN_30 (hB4.at 0) rfl) ?_; intro a hf
  refine l_eff hf trivial rfl rfl (ef_call (vs := [.agg #[.int .i64 r.pos, .slice Ar r.old.length cr, .slice Br r.new.length dr]]) hf rfl ff_44 (F44 _ r Ar cr hr_r.top Br dr hs_r.top (by omega) (by omega))) ?_; rintro a _ w3 ⟨rfl, hE⟩ hf
  replace hB4 := hB4.below hE
  replace hr_r := hr_r.below hE
  replace hs_r := hs_r.below hE
  replace hW := hW.trans (hE.mono hW.size)
  clear hE
  refine l_ev hf trivial rfl rfl (ev_extract (vs := [.bool ((justS r).1), .bool ((justS r).2)]) hf rfl rfl) ?_; intro a hf
  refine l_ev hf trivial rfl rfl (ev_extract (vs := [.bool ((justS r).1), .bool ((justS r).2)]) hf rfl rfl) ?_; intro a hf
  refine l_ev hf trivial rfl rfl (ev_assign hf rfl) ?_; intro a hf
  refine l_ev hf trivial rfl rfl (ev_assign hf rfl) ?_; intro a hf
  refine wpList_nil ?_
  refine hK9 _ _ ?_; try clear hK9 K9
  refine wp_ret ?_
  refine c_ret hf (res2 hf rfl rfl rfl) ?_
  exact ⟨by rw [specJ, if_pos hy], hW⟩
theorem F12 (w0 : World) (n : Int) (r : Rp) (Ar : Option Addr) (cr : Nat) (hr_r : Rd w0 w0.heap.size 107 encG Ar r.old) (Br : Option Addr) (dr : Nat) (hs_r : Rd w0 w0.heap.size 107 encG Br r.new) (hla : r.old.length ≤ 1048576) (hlb : r.new.length ≤ 1048576) : Ret Tryz.prog 12 [.int .i64 n, .agg #[.int .i64 r.pos, .slice Ar r.old.length cr, .slice Br r.new.length dr]] w0 (fun v w => v = .tuple #[.bool ((implJ n r).1), .bool ((implJ n r).2)] ∧ Below w0.heap.size w0 w) := by
 refine enter Tryz.func12 rfl 40 rfl rfl ?_
 intro a hf
 have hW : Below w0.heap.size w0 w0 := Below.refl _ _
 refine wp_seq_k ?_; intro K3 hK3
 refine wp_region_lit ?_
 refine l_eff hf trivial rfl rfl (ef_box (zs := [.int .i64 r.pos, .slice Ar r.old.length cr, .slice Br r.new.length dr]) hf rfl rfl) ?_; rintro a _ w1 ⟨b4, rfl, hl4, hE, hB4⟩ hf
 have hlo4 := Nat.le_trans hW.size hl4
 replace hr_r := hr_r.below hE
 replace hs_r := hs_r.below hE
 replace hW := hW.trans (hE.mono hW.size)
 clear hE
 refine l_ev hf trivial rfl rfl (ev_assign hf rfl) ?_; intro a hf
 refine l_ev hf trivial rfl rfl (ev_assign hf rfl) ?_; intro a hf
 refine wpList_nil ?_
 refine hK3 _ _ ?_; try clear hK3 K3
 refine wp_seq_k ?_; intro K5 hK5
 refine wp_seq_k ?_; intro K6 hK6
 refine wp_region_lit ?_
 refine l_ev hf trivial rfl rfl (ev_move hf rfl) ?_; intro a hf
 refine l_ev hf trivial rfl rfl (ev_loadN (l := [.int .i64 r.pos, .slice Ar r.old.length cr, .slice Br r.new.length dr]) hf rfl tN_30 (hB4.at 0) rfl) ?_; intro a hf
 refine l_eff hf trivial rfl rfl (ef_call (vs := [.int .i64 n, .agg #[.int .i64 r.pos, .slice Ar r.old.length cr, .slice Br r.new.length dr]]) hf rfl ff_46 (F46 _ n r Ar cr hr_r.top Br dr hs_r.top (by omega) (by omega))) ?_; rintro a _ w2 ⟨rfl, hE⟩ hf
 replace hB4 := hB4.below hE
 replace hr_r := hr_r.below hE
 replace hs_r := hs_r.below hE
 replace hW := hW.trans (hE.mono hW.size)
 clear hE
 refine l_ev hf trivial rfl rfl (ev_not hf rfl) ?_; intro a hf
 refine wpList_nil ?_
 refine hK6 _ _ ?_; try clear hK6 K6
 refine c_if hf rfl (fun hc7 => ?_) (fun hc7 => ?_)
 ·have hc7b := hc7
  have hn : ¬ vrI n r = true := by revert hc7; cases vrI n r <;> simp
  refine wp_seq_k ?_; intro K8 hK8
  refine wp_region_lit ?_
  refine l_ev hf trivial rfl rfl (ev_assign hf rfl) ?_; intro a hf
  refine l_ev hf trivial rfl rfl (ev_assign hf rfl) ?_; intro a hf
  refine wpList_nil ?_
  refine hK8 _ _ ?_; try clear hK8 K8
  refine wp_ret ?_
  refine x_retS ?_
  refine c_ret hf (res2 hf rfl rfl rfl) ?_
  exact ⟨by rw [implJ, if_neg hn], hW⟩
 ·have hc7b := hc7
  have hy : vrI n r = true := by revert hc7; cases vrI n r <;> simp
  obtain ⟨hn, hl, ho, hw⟩ := vr_spec hy
  refine wp_skip ?_
  refine hK5 _ _ ?_; try clear hK5 K5
  refine wp_seq_k ?_; intro K9 hK9
  refine wp_draw none (fun _ => false) mixed ?_
  intro w3 hE
  replace hB4 := hB4.below hE
  replace hr_r := hr_r.below hE
  replace hs_r := hs_r.below hE
  replace hW := hW.trans (hE.mono hW.size)
  clear hE
  refine s_ev0 0 rfl (by kernel_rfl) hf trivial rfl rfl (fun _ => ev_fieldB hf rfl fd_30_1 (m := 1) rfl) ?_; intro a hf
  refine s_ev 1 rfl (by kernel_rfl) (by kernel_rfl) hf trivial rfl rfl (ev_load1 hf rfl t1_28 (hB4.at 1)) ?_; intro a hf
  refine s_ev0 3 rfl (by kernel_rfl) hf trivial rfl rfl (fun _ => ev_fieldB hf rfl fd_30_2 (m := 2) rfl) ?_; intro a hf
  refine s_ev 4 rfl (by kernel_rfl) (by kernel_rfl) hf trivial rfl rfl (ev_load1 hf rfl t1_28 (hB4.at 2)) ?_; intro a hf
  refine s_one 2 (by kernel_rfl) ?_
  refine p_eff rfl hf trivial rfl rfl (Ef.mono (ef_call (vs := [.slice Ar r.old.length cr]) hf rfl ff_48 (F48 _ Ar cr r.old hr_r.top (by omega))) (fun _ _ h => ⟨fun _ => by obtain ⟨A10, c10, rfl, ho10, hE⟩ := h; exact hE, h⟩)) ?_; rintro a _ w4 ⟨A10, c10, rfl, ho10, hE⟩ hf
  replace ho10 := ho10.lower hW.size
  replace hB4 := hB4.below hE
  replace hr_r := hr_r.below hE
  replace hs_r := hs_r.below hE
  replace hW := hW.trans (hE.mono hW.size)
  clear hE
  refine s_one 5 (by kernel_rfl) ?_
  refine p_eff rfl hf trivial rfl rfl (Ef.mono (ef_call (vs := [.slice Br r.new.length dr]) hf rfl ff_48 (F48 _ Br dr r.new hs_r.top (by omega))) (fun _ _ h => ⟨fun _ => by obtain ⟨A11, c11, rfl, ho11, hE⟩ := h; exact hE, h⟩)) ?_; rintro a _ w5 ⟨A11, c11, rfl, ho11, hE⟩ hf
  replace ho11 := ho11.lower hW.size
  replace hB4 := hB4.below hE
  replace hr_r := hr_r.below hE
  replace hs_r := hs_r.below hE
  replace ho10 := ho10.below hE
  replace hW := hW.trans (hE.mono hW.size)
  clear hE
  refine s_one 6 (by kernel_rfl) ?_
  refine p_eff rfl hf trivial rfl rfl (Ef.mono (ef_call (vs := [.slice A10 (usedI r.old).length c10, .slice A11 (usedI r.new).length c11]) hf rfl ff_47 (F47 _ A10 c10 (usedI r.old) ho10.rd.top A11 c11 (usedI r.new) ho11.rd.top (by have := used_len r.old; omega) (by have := used_len r.new; omega))) (fun _ _ h => ⟨fun _ => by obtain ⟨A12, c12, rfl, ho12, hE⟩ := h; exact hE, h⟩)) ?_; rintro a _ w6 ⟨A12, c12, rfl, ho12, hE⟩ hf
  replace ho12 := ho12.lower hW.size
  replace hB4 := hB4.below hE
  replace hr_r := hr_r.below hE
  replace hs_r := hs_r.below hE
  replace ho10 := ho10.below hE
  replace ho11 := ho11.below hE
  replace hW := hW.trans (hE.mono hW.size)
  clear hE
  refine s_ev0 7 rfl (by kernel_rfl) hf trivial rfl rfl (fun _ => ev_assign hf rfl) ?_; intro a hf
  refine s_done (by kernel_rfl) ?_
  refine hK9 _ _ ?_; try clear hK9 K9
  refine wp_seq_k ?_; intro K13 hK13
  refine wp_region_lit ?_
  refine l_ev hf trivial rfl rfl (ev_move hf rfl) ?_; intro a hf
  refine l_eff hf trivial rfl rfl (ef_call (vs := [.slice A12 (unionI (usedI r.old) (usedI r.new)).length c12]) hf rfl ff_49 (F49 _ A12 c12 (unionI (usedI r.old) (usedI r.new)) ho12.rd.top (vr_used hy) (by have := union_len (usedI r.old) (usedI r.new); have := used_len r.old; have := used_len r.new; omega))) ?_; rintro a _ w7 ⟨A14, c14, rfl, ho14, hE⟩ hf
  replace ho14 := ho14.lower hW.size
  replace hB4 := hB4.below hE
  replace hr_r := hr_r.below hE
  replace hs_r := hs_r.below hE
  replace ho10 := ho10.below hE
  replace ho11 := ho11.below hE
  replace ho12 := ho12.below hE
  replace hW := hW.trans (hE.mono hW.size)
  clear hE
  refine l_ev hf trivial rfl rfl (ev_move hf rfl) ?_; intro a hf
  refine l_ev hf trivial rfl rfl (ev_len hf rfl sl_36) ?_; intro a hf
  refine l_ev hf trivial rfl rfl (ev_max hf rfl rfl) ?_; intro a hf
  refine l_ev hf trivial rfl rfl (ev_assign hf rfl) ?_; intro a hf
  refine l_ev hf trivial rfl rfl (ev_assign hf rfl) ?_; intro a hf
  refine wpList_nil ?_
  refine hK13 _ _ ?_; try clear hK13 K13
  refine wp_seq_k ?_; intro K15 hK15
  refine wp_draw none (fun _ => false) mixed ?_
  intro w8 hE
  replace hB4 := hB4.below hE
  replace hr_r := hr_r.below hE
  replace hs_r := hs_r.below hE
  replace ho10 := ho10.below hE
  replace ho11 := ho11.below hE
  replace ho12 := ho12.below hE
  replace ho14 := ho14.below hE
  replace hW := hW.trans (hE.mono hW.size)
  clear hE
  refine s_ev0 0 rfl (by kernel_rfl) hf trivial rfl rfl (fun _ => ev_move hf rfl) ?_; intro a hf
  refine s_ev0 1 rfl (by kernel_rfl) hf trivial rfl rfl (fun _ => ev_fieldB hf rfl fd_30_1 (m := 1) rfl) ?_; intro a hf
  refine s_ev 2 rfl (by kernel_rfl) (by kernel_rfl) hf trivial rfl rfl (ev_load1 hf rfl t1_28 (hB4.at 1)) ?_; intro a hf
  refine s_ev0 3 rfl (by kernel_rfl) hf trivial rfl rfl (fun _ => ev_move hf rfl) ?_; intro a hf
  refine s_ev0 6 rfl (by kernel_rfl) hf trivial rfl rfl (fun _ => ev_move hf rfl) ?_; intro a hf
  refine s_ev0 7 rfl (by kernel_rfl) hf trivial rfl rfl (fun _ => ev_fieldB hf rfl fd_30_2 (m := 2) rfl) ?_; intro a hf
  refine s_ev 8 rfl (by kernel_rfl) (by kernel_rfl) hf trivial rfl rfl (ev_load1 hf rfl t1_28 (hB4.at 2)) ?_; intro a hf
  refine s_ev0 9 rfl (by kernel_rfl) hf trivial rfl rfl (fun _ => ev_move hf rfl) ?_; intro a hf
  refine s_one 4 (by kernel_rfl) ?_
  refine p_eff rfl hf trivial rfl rfl (Ef.mono (ef_call (vs := [.slice Ar r.old.length cr, .slice A14 (numbI (unionI (usedI r.old) (usedI r.new))).length c14]) hf rfl ff_51 (F51 _ Ar cr r.old hr_r.top A14 c14 (numbI (unionI (usedI r.old) (usedI r.new))) ho14.rd.top (vr_qubits ho) (numb_len _) (by omega))) (fun _ _ h => ⟨fun _ => by obtain ⟨A16, c16, rfl, ho16, hE⟩ := h; exact hE, h⟩)) ?_; rintro a _ w9 ⟨A16, c16, rfl, ho16, hE⟩ hf
  replace ho16 := ho16.lower hW.size
  replace hB4 := hB4.below hE
  replace hr_r := hr_r.below hE
  replace hs_r := hs_r.below hE
  replace ho10 := ho10.below hE
  replace ho11 := ho11.below hE
  replace ho12 := ho12.below hE
  replace ho14 := ho14.below hE
  replace hW := hW.trans (hE.mono hW.size)
  clear hE
  refine s_ev0 5 rfl (by kernel_rfl) hf trivial rfl rfl (fun _ => ev_build (ps := [(0, .int .i64 (max ((unionI (usedI r.old) (usedI r.new)).length : Int) 1)), (1, .slice A16 (mapI r.old (numbI (unionI (usedI r.old) (usedI r.new)))).length c16)]) (cs := [.int .i64 (max ((unionI (usedI r.old) (usedI r.new)).length : Int) 1), .slice A16 (mapI r.old (numbI (unionI (usedI r.old) (usedI r.new)))).length c16]) hf rfl (fun _ => by first | rfl | kernel_rfl)) ?_; intro a hf
  refine s_one 10 (by kernel_rfl) ?_
  refine p_eff rfl hf trivial rfl rfl (Ef.mono (ef_call (vs := [.slice Br r.new.length dr, .slice A14 (numbI (unionI (usedI r.old) (usedI r.new))).length c14]) hf rfl ff_51 (F51 _ Br dr r.new hs_r.top A14 c14 (numbI (unionI (usedI r.old) (usedI r.new))) ho14.rd.top (vr_qubits hw) (numb_len _) (by omega))) (fun _ _ h => ⟨fun _ => by obtain ⟨A18, c18, rfl, ho18, hE⟩ := h; exact hE, h⟩)) ?_; rintro a _ w10 ⟨A18, c18, rfl, ho18, hE⟩ hf
  replace ho18 := ho18.lower hW.size
  replace hB4 := hB4.below hE
  replace hr_r := hr_r.below hE
  replace hs_r := hs_r.below hE
  replace ho10 := ho10.below hE
  replace ho11 := ho11.below hE
  replace ho12 := ho12.below hE
  replace ho14 := ho14.below hE
  replace ho16 := ho16.below hE
  replace hW := hW.trans (hE.mono hW.size)
  clear hE
  refine s_ev0 11 rfl (by kernel_rfl) hf trivial rfl rfl (fun _ => ev_build (ps := [(0, .int .i64 (max ((unionI (usedI r.old) (usedI r.new)).length : Int) 1)), (1, .slice A18 (mapI r.new (numbI (unionI (usedI r.old) (usedI r.new)))).length c18)]) (cs := [.int .i64 (max ((unionI (usedI r.old) (usedI r.new)).length : Int) 1), .slice A18 (mapI r.new (numbI (unionI (usedI r.old) (usedI r.new)))).length c18]) hf rfl (fun _ => by first | rfl | kernel_rfl)) ?_; intro a hf
  refine s_one 12 (by kernel_rfl) ?_
  refine p_eff rfl hf trivial rfl rfl (Ef.mono (ef_call (vs := [.agg #[.int .i64 (max ((unionI (usedI r.old) (usedI r.new)).length : Int) 1), .slice A16 (mapI r.old (numbI (unionI (usedI r.old) (usedI r.new)))).length c16], .agg #[.int .i64 (max ((unionI (usedI r.old) (usedI r.new)).length : Int) 1), .slice A18 (mapI r.new (numbI (unionI (usedI r.old) (usedI r.new)))).length c18]]) hf rfl ff_50 (F50 _ (⟨max ((unionI (usedI r.old) (usedI r.new)).length : Int) 1, (mapI r.old (numbI (unionI (usedI r.old) (usedI r.new))))⟩ : Cx) A16 c16 ho16.rd.top (⟨max ((unionI (usedI r.old) (usedI r.new)).length : Int) 1, (mapI r.new (numbI (unionI (usedI r.old) (usedI r.new))))⟩ : Cx) A18 c18 ho18.rd.top (by simp [mapI]; omega) (by simp [mapI]; omega))) (fun _ _ h => ⟨fun _ => by obtain ⟨rfl, hE⟩ := h; exact hE, h⟩)) ?_; rintro a _ w11 ⟨rfl, hE⟩ hf
  replace hB4 := hB4.below hE
  replace hr_r := hr_r.below hE
  replace hs_r := hs_r.below hE
  replace ho10 := ho10.below hE
  replace ho11 := ho11.below hE
  replace ho12 := ho12.below hE
  replace ho14 := ho14.below hE
  replace ho16 := ho16.below hE
  replace ho18 := ho18.below hE
  replace hW := hW.trans (hE.mono hW.size)
  clear hE
  refine s_ev0 13 rfl (by kernel_rfl) hf trivial rfl rfl (fun _ => ev_extract (vs := [.bool ((sameI (⟨max ((unionI (usedI r.old) (usedI r.new)).length : Int) 1, (mapI r.old (numbI (unionI (usedI r.old) (usedI r.new))))⟩ : Cx) (⟨max ((unionI (usedI r.old) (usedI r.new)).length : Int) 1, (mapI r.new (numbI (unionI (usedI r.old) (usedI r.new))))⟩ : Cx)).1), .bool ((sameI (⟨max ((unionI (usedI r.old) (usedI r.new)).length : Int) 1, (mapI r.old (numbI (unionI (usedI r.old) (usedI r.new))))⟩ : Cx) (⟨max ((unionI (usedI r.old) (usedI r.new)).length : Int) 1, (mapI r.new (numbI (unionI (usedI r.old) (usedI r.new))))⟩ : Cx)).2)]) hf rfl rfl) ?_; intro a hf
  refine s_ev0 14 rfl (by kernel_rfl) hf trivial rfl rfl (fun _ => ev_extract (vs := [.bool ((sameI (⟨max ((unionI (usedI r.old) (usedI r.new)).length : Int) 1, (mapI r.old (numbI (unionI (usedI r.old) (usedI r.new))))⟩ : Cx) (⟨max ((unionI (usedI r.old) (usedI r.new)).length : Int) 1, (mapI r.new (numbI (unionI (usedI r.old) (usedI r.new))))⟩ : Cx)).1), .bool ((sameI (⟨max ((unionI (usedI r.old) (usedI r.new)).length : Int) 1, (mapI r.old (numbI (unionI (usedI r.old) (usedI r.new))))⟩ : Cx) (⟨max ((unionI (usedI r.old) (usedI r.new)).length : Int) 1, (mapI r.new (numbI (unionI (usedI r.old) (usedI r.new))))⟩ : Cx)).2)]) hf rfl rfl) ?_; intro a hf
  refine s_ev0 15 rfl (by kernel_rfl) hf trivial rfl rfl (fun _ => ev_assign hf rfl) ?_; intro a hf
  refine s_ev0 16 rfl (by kernel_rfl) hf trivial rfl rfl (fun _ => ev_assign hf rfl) ?_; intro a hf
  refine s_done (by kernel_rfl) ?_
  refine hK15 _ _ ?_; try clear hK15 K15
  refine wp_ret ?_
  refine c_ret hf (res2 hf rfl rfl rfl) ?_
  exact ⟨by rw [implJ, if_pos hy]; rfl, hW⟩
end Go.Proofs.YtfgnmflfiobkmaaGreat
