/-
  What is proved: for every circuit, the program's ScheduleOf answers as the reference's does, leaves its argument as it was, and returns memory of its own. Conditions: none.
-/
import Derived.Test.YtfgnmflfiobkmaaGreatS5
import Derived.Test.YtfgnmflfiobkmaaGreatS3
import Derived.Deep.Strs
import Derived.WalkKit
import Derived.ProofKit
import Derived.OpenShut
import Derived.Deep.Slices
import Derived.Deep.Fields
import Derived.ChangeSame
import Derived.Lib.SmallJoins
import Derived.Test.YtfgnmflfiobkmaaGreatS4
import Derived.Test.YtfgnmflfiobkmaaGreatRows
set_option linter.unusedVariables false
set_option linter.unusedSimpArgs false
set_option maxRecDepth 4000
namespace Go.Proofs.YtfgnmflfiobkmaaGreat
open Go.RowKit
theorem F57 (w0 : World) (A : Option Addr) (ca : Nat) (gs : List Gt) (hr_gs : Rd w0 w0.heap.size 107 encG A gs) (hp : gs.length ≤ ca) (n : Int) (hgo : ∀ g ∈ gs, gOk n g = true) (hln : gs.length ≤ 400) : Ret Tryz.prog 57 [.slice A gs.length ca] w0 (fun v w => ∃ A c m, v = .slice A m.length c ∧ Own w w0.heap.size 36 1 encS A c m ∧ DeepI w w.heap.size m ∧ LowI w0.heap.size m ∧ m.map Sl.l = followsS gs gs.length ∧ Below w0.heap.size w0 w) := by
 refine enter Tryz.func57 rfl 44 rfl rfl ?_
 intro a hf
 have hW : Below w0.heap.size w0 w0 := Below.refl _ _
 refine wp_seq_k ?_; intro K2 hK2
 refine wp_region_lit ?_
 refine l_as hf rfl rfl ?_; intro a hf
 refine wpList_nil ?_
 refine hK2 _ _ ?_; try clear hK2 K2
 refine wp_seq_k ?_; intro K4 hK4
 refine wp_region_lit ?_
 refine l_mv hf rfl rfl ?_; intro a hf
 refine l_e hf rfl (ev_len hf rfl sl_28) ?_; intro a hf
 refine l_f hf rfl (ef_makeSlice (m := gs.length) (enc := encS) (z0 := sN) hf rfl rfl sl_108 inf_36 z_36 rfl encS_len (by omega) (by omega)) ?_; rintro a _ w1 ⟨b5, rfl, hl5, hE, hB5⟩ hf
 have hlo5 := Nat.le_trans hW.size hl5
 replace hW := btr hW hE
 clear hE
 refine l_as hf rfl rfl ?_; intro a hf
 refine wpList_nil ?_
 refine hK4 _ _ ?_; try clear hK4 K4
 refine wp_seq_k ?_; intro K7 hK7
 refine wp_seq_k ?_; intro K8 hK8
 refine wp_region_lit ?_
 refine l_mv hf rfl rfl ?_; intro a hf
 refine l_e hf rfl (ev_len hf rfl sl_28) ?_; intro a hf
 refine l_mv hf rfl rfl ?_; intro a hf
 refine wpList_nil ?_
 refine hK8 _ _ ?_; try clear hK8 K8
 refine wp_block ?_
 refine c_loop (σ := Nat × (List Sl)) (fun (s : Nat × (List Sl)) (a : Act) (w : World) => match s with | (i, m) => Fr a 44 [(0, .slice A gs.length ca), (3, .slice (some ⟨b5, 0, none⟩) gs.length gs.length), (11, .slice A gs.length ca), (12, .int .i64 (gs.length : Int)), (13, .int .i64 (i : Int))] ∧ (i ≤ gs.length) ∧ (m.length = gs.length) ∧ ((m.take i).map Sl.l = followsS gs i) ∧ (∀ q, i ≤ q → q < gs.length → m[q]? = some sN) ∧ (LowI w0.heap.size (m.take i)) ∧ Blk w b5 36 (m.flatMap encS) ∧ gs.length ≤ ca ∧ DeepI w w.heap.size (m.take i) ∧ Below w0.heap.size w0 w) (fun (s : Nat × (List Sl)) => match s with | (i, m) => gs.length - i) (0, (List.replicate gs.length sN)) ?_ ?_
 · exact ⟨hf.sub ⟨rfl, rfl, rfl, rfl, rfl, trivial⟩, (Nat.zero_le _), (by simp), rfl, (fun q _ hq => by rw [List.getElem?_replicate, if_pos hq]), (LowI.nil _), hB5, hp, (DeepI.nil _ _), hW⟩
 rintro ⟨i, m⟩ a w2 ⟨hf, hi, hml, hmp, hrest, hlw, hB5, hp, hdi, hW⟩
 refine wp_seq_k ?_; intro K9 hK9
 refine wp_region_lit ?_
 refine l_e hf rfl (ev_lss hf rfl rfl) ?_; intro a hf
 refine wpList_nil ?_
 refine hK9 _ _ ?_; try clear hK9 K9
 refine wp_seq_k ?_; intro K10 hK10
 refine c_if hf rfl (fun hc11 => ?_) (fun hc11 => ?_)
 ·have hc11b := hc11
  have hc11 := of_decide_eq_true hc11
  obtain ⟨u12, hu12⟩ := getElem_ex (l := gs) (k := i) (by omega)
  obtain ⟨B1, hB1⟩ : ∃ B1, B1 = w2.heap.size := ⟨_, rfl⟩
  have hd1 : DeepI w2 B1 (m.take i) := by rw [hB1]; exact hdi.top
  have hs1 : B1 ≤ w2.heap.size := by omega
  have hlB1 : w0.heap.size ≤ B1 := by rw [hB1]; exact hW.size
  clear hdi
  have hgi := getD_of hu12
  have hmi := List.mem_of_getElem? hu12
  have hin : i < gs.length := by omega
  have hti : (gs.take i).length = i := by rw [List.length_take]; omega
  refine wp_skip ?_
  refine hK10 _ _ ?_; try clear hK10 K10
  refine wp_seq_k ?_; intro K13 hK13
  refine wp_block ?_
  refine wp_seq_k ?_; intro K14 hK14
  refine wp_region_lit ?_
  refine l_mv hf rfl rfl ?_; intro a hf
  refine l_index (k := i) (u := u12) (enc := encG) (l := gs) hf trivial rfl rfl rfl sl_28 sz_107 encG_len (hr_gs.below' hW) hu12 rfl ?_; intro a p16 hat15 hf
  refine l_e hf rfl (ev_loadN (l := [.int .i64 u12.k, .int .i64 u12.a, .int .i64 u12.b]) hf rfl tN_107 hat15 rfl) ?_; intro a hf
  refine l_f hf rfl (ef_alloc (zs := [.int .i64 0, .int .i64 0, .int .i64 0]) z_107 rfl) ?_; rintro a _ w3 ⟨b17, rfl, hl17, hE, hB17⟩ hf
  have hlo17 := Nat.le_trans hW.size hl17
  have haw1_17 := (hr_gs.below' hW).away hl17
  replace hB5 := hB5.below hE
  replace hd1 := hd1.below hE
  replace hs1 := Nat.le_trans hs1 hE.size
  replace hW := btr hW hE
  clear hE
  refine l_as hf rfl rfl ?_; intro a hf
  refine l_f0 hf (ef_store (vs := [.int .i64 u12.k, .int .i64 u12.a, .int .i64 u12.b]) (l' := [.int .i64 u12.k, .int .i64 u12.a, .int .i64 u12.b]) hf rfl rfl sz_107 hB17 rfl rfl rfl rfl rfl) ?_; rintro a _ w4 ⟨ho, hb⟩ hf
  have hold := hB17
  replace hB5 := hB5.only ho (Blk.ne hB5 hold rfl)
  replace hd1 := hd1.onlyT ho hold rfl
  replace hs1 := Nat.le_trans hs1 (Nat.le_of_eq ho.size.symm)
  replace hW := Below.only hW ho hlo17
  clear hold
  have hB17 := hb
  clear hb ho
  refine wpList_nil ?_
  refine hK14 _ _ ?_; try clear hK14 K14
  refine wp_seq_k ?_; intro K18 hK18
  refine wp_region_lit ?_
  refine l_mv hf rfl rfl ?_; intro a hf
  refine l_mv hf rfl rfl ?_; intro a hf
  have hr19 := ((hr_gs.below' hW).top).takeK encG_len i
  refine l_e hf rfl (ev_takeL (l := gs) (k := i) hf rfl rfl sl_28 sz_107 rfl (by omega) hp) ?_; intro a hf
  refine l_e hf rfl (ev_len hf rfl sl_28) ?_; intro a hf
  refine l_mv hf rfl rfl ?_; intro a hf
  refine wpList_nil ?_
  refine hK18 _ _ ?_; try clear hK18 K18
  refine wp_block ?_
  refine c_loop (σ := Nat × (List Sl) × Sl) (fun (s : Nat × (List Sl) × Sl) (a : Act) (w : World) => match s with | (j, m2, r) => Fr a 44 [(0, .slice A gs.length ca), (3, .slice (some ⟨b5, 0, none⟩) gs.length gs.length), (4, .int .i64 (i : Int)), (5, .pointer (some ⟨b17, 0, none⟩)), (11, .slice A gs.length ca), (12, .int .i64 (gs.length : Int)), (13, .int .i64 (i : Int)), (20, .slice A (gs.take i).length ca), (21, .int .i64 ((gs.take i).length : Int)), (22, .int .i64 (j : Int))] ∧ (j ≤ i) ∧ (m2.length = gs.length) ∧ (m2[i]? = some r) ∧ (r.l = folS gs i j) ∧ (m2.take i = m.take i) ∧ (∀ q, i < q → q < gs.length → m2[q]? = some sN) ∧ Blk w b5 36 (m2.flatMap encS) ∧ Blk w b17 107 [.int .i64 u12.k, .int .i64 u12.a, .int .i64 u12.b] ∧ Rd w w4.heap.size 107 encG A (gs.take i) ∧ gs.length ≤ ca ∧ DeepI w B1 (m.take i) ∧ B1 ≤ w.heap.size ∧ Own w B1 3 1 encI r.A r.c r.l ∧ Below w0.heap.size w0 w) (fun (s : Nat × (List Sl) × Sl) => match s with | (j, m2, r) => i - j) (0, m, sN) ?_ ?_
  · exact ⟨hf.sub ⟨rfl, rfl, rfl, rfl, rfl, rfl, rfl, rfl, rfl, rfl, trivial⟩, (Nat.zero_le _), hml, (hrest i (Nat.le_refl _) hin), rfl, rfl, (fun q h1 h2 => hrest q (by omega) h2), hB5, hB17, hr19, hp, hd1, hs1, (Own.nil _ _ _ _ _), hW⟩
  rintro ⟨j, m2, r⟩ a w5 ⟨hf, hj, hml2, hr2, hrl, hm2t, hrest2, hB5, hB17, hr19, hp, hd1, hs1, hor, hW⟩
  refine wp_seq_k ?_; intro K20 hK20
  refine wp_region_lit ?_
  refine l_e hf rfl (ev_lss hf rfl rfl) ?_; intro a hf
  refine wpList_nil ?_
  refine hK20 _ _ ?_; try clear hK20 K20
  refine wp_seq_k ?_; intro K21 hK21
  refine c_if hf rfl (fun hc22 => ?_) (fun hc22 => ?_)
  ·have hc22b := hc22
   have hc22 := of_decide_eq_true hc22
   obtain ⟨u23, hu23⟩ := getElem_ex (l := (gs.take i)) (k := j) (by omega)
   obtain ⟨hgj, hmj⟩ := getD_take hu23
   refine wp_skip ?_
   refine hK21 _ _ ?_; try clear hK21 K21
   refine wp_seq_k ?_; intro K24 hK24
   refine wp_block ?_
   refine wp_seq_k ?_; intro K25 hK25
   refine wp_region_lit ?_
   refine l_mv hf rfl rfl ?_; intro a hf
   refine l_index (k := j) (u := u23) (enc := encG) (l := (gs.take i)) hf trivial rfl rfl rfl sl_28 sz_107 encG_len hr19 hu23 rfl ?_; intro a p27 hat26 hf
   refine l_e hf rfl (ev_loadN (l := [.int .i64 u23.k, .int .i64 u23.a, .int .i64 u23.b]) hf rfl tN_107 hat26 rfl) ?_; intro a hf
   refine l_f hf rfl (ef_alloc (zs := [.int .i64 0, .int .i64 0, .int .i64 0]) z_107 rfl) ?_; rintro a _ w6 ⟨b28, rfl, hl28, hE, hB28⟩ hf
   have hne17_28 : b17 ≠ b28 := by have := hB17.lt; omega
   have hlo28 := Nat.le_trans hW.size hl28
   have haw1_28 := (hr_gs.below' hW).away hl28
   have haw19_28 := hr19.away hl28
   replace hB5 := hB5.below hE
   replace hB17 := hB17.below hE
   replace hr19 := hr19.below hE
   replace hd1 := hd1.below hE
   replace hs1 := Nat.le_trans hs1 hE.size
   replace hor := hor.below hE
   replace hW := btr hW hE
   clear hE
   refine l_as hf rfl rfl ?_; intro a hf
   refine l_f0 hf (ef_store (vs := [.int .i64 u23.k, .int .i64 u23.a, .int .i64 u23.b]) (l' := [.int .i64 u23.k, .int .i64 u23.a, .int .i64 u23.b]) hf rfl rfl sz_107 hB28 rfl rfl rfl rfl rfl) ?_; rintro a _ w7 ⟨ho, hb⟩ hf
   have hold := hB28
   replace hB5 := hB5.only ho (Blk.ne hB5 hold rfl)
   replace hB17 := hB17.only ho (by omega)
   replace hr19 := hr19.onlyA ho haw19_28
   replace hd1 := hd1.onlyT ho hold rfl
   replace hs1 := Nat.le_trans hs1 (Nat.le_of_eq ho.size.symm)
   replace hor := hor.onlyT ho hold rfl
   replace hW := Below.only hW ho hlo28
   clear hold
   have hB28 := hb
   clear hb ho
   refine wpList_nil ?_
   refine hK25 _ _ ?_; try clear hK25 K25
   refine wp_seq_k ?_; intro K29 hK29
   refine wp_region_lit ?_
   refine l_e hf rfl (ev_loadN (l := [.int .i64 u12.k, .int .i64 u12.a, .int .i64 u12.b]) hf rfl tN_107 (hB17.at 0) rfl) ?_; intro a hf
   refine l_e hf rfl (ev_loadN (l := [.int .i64 u23.k, .int .i64 u23.a, .int .i64 u23.b]) hf rfl tN_107 (hB28.at 0) rfl) ?_; intro a hf
   refine l_f hf rfl (ef_call (vs := [.agg #[.int .i64 u12.k, .int .i64 u12.a, .int .i64 u12.b], .agg #[.int .i64 u23.k, .int .i64 u23.a, .int .i64 u23.b]]) hf rfl ff_102 (F102 _ u12 u23 n (hgo _ hmi) (hgo _ hmj))) ?_; rintro a _ w8 ⟨rfl, hE⟩ hf
   replace hB5 := hB5.below hE
   replace hB17 := hB17.below hE
   replace hB28 := hB28.below hE
   replace hr19 := hr19.below hE
   replace hd1 := hd1.below hE
   replace hs1 := Nat.le_trans hs1 hE.size
   replace hor := hor.below hE
   replace hW := btr hW hE
   clear hE
   refine l_e hf rfl (ev_not hf rfl) ?_; intro a hf
   refine wpList_nil ?_
   refine hK29 _ _ ?_; try clear hK29 K29
   refine c_if hf rfl (fun hc30 => ?_) (fun hc30 => ?_)
   ·have hc30b := hc30
    have hcm : commS (gs.getD i gZ) (gs.getD j gZ) = false := by rw [hgi, hgj]; simpa using hc30
    have hfs : folS gs i (j + 1) = r.l ++ [(j : Int)] := by rw [folS_succ, if_neg (by rw [hcm]; simp), hrl]
    have hrn : r.l.length ≤ j := by rw [hrl]; exact fol_len _ _ _
    refine wp_region_lit ?_
    refine l_mv hf rfl rfl ?_; intro a hf
    refine l_mv hf rfl rfl ?_; intro a hf
    refine l_mv hf rfl rfl ?_; intro a hf
    refine l_mv hf rfl rfl ?_; intro a hf
    refine l_indexL (k := i) (u := r) (enc := encS) (l := m2) hf trivial rfl rfl (by omega) rfl sl_108 sz_36 encS_len (Rd.of_blk hB5 rfl _ hB5.lt) hr2 rfl ?_; intro a p32 hat31 hf
    refine l_e hf rfl (ev_load1 hf rfl t1_36 hat31) ?_; intro a hf
    refine l_mv hf rfl rfl ?_; intro a hf
    refine l_f hf rfl (ef_buildSlice (k := 1) (vs := [.int .i64 (j : Int)]) (zs := [.int .i64 (j : Int)]) hf rfl sl_36 inf_3 rfl rfl) ?_; rintro a _ w9 ⟨b34, rfl, hl34, hE, hB34⟩ hf
    have hlo34 := Nat.le_trans hW.size hl34
    have haw33_34 := hor.away hl34
    replace hB5 := hB5.below hE
    replace hB17 := hB17.below hE
    replace hr19 := hr19.below hE
    replace hor := hor.below hE
    replace hd1 := hd1.below hE
    replace hs1 := Nat.le_trans hs1 hE.size
    replace hW := btr hW hE
    clear hE
    refine l_f hf rfl (ef_append (enc := encI) (l := (r.l)) (l2 := ([(j : Int)])) (B0 := B1) hf rfl rfl sl_36 inf_3 encI_len encI_one hor (Rd.of_blk hB34 rfl _ hB34.lt) (by simp only [maxLen]; simp; omega) (by simp; omega) hs1) ?_; rintro a _ w10 ⟨A36, c36, rfl, ho36, hg, hat⟩ hf
    have hown : Own _ B1 3 1 encI _ _ (r.l) := hor
    have haw36_34 := hat _ hB34.lt haw33_34
    clear hat
    replace hB5 := hB5.appT hown hg rfl
    replace hB17 := hB17.appT hown hg rfl
    replace hr19 := hr19.appT hown hg rfl
    replace hd1 := hd1.appB hown hg (Nat.le_refl _)
    replace hs1 := Nat.le_trans hs1 hg.size
    replace hW := Below.app hW hown hg hlB1 hW.size
    clear hown hg
    refine l_e hf rfl (ev_indexB (k := i) (off := i * 1) hf rfl rfl sl_108 sz_36 rfl (by omega) rfl) ?_; intro a hf
    refine l_f0 hf (ef_storeF (enc := encS) (l := m2) (u := (⟨A36, c36, r.l ++ ([(j : Int)])⟩ : Sl)) (k := i) hf rfl rfl sz_36 hB5 encS_len encS_one rfl (by omega)) ?_; rintro a _ w11 ⟨ho, hb⟩ hf
    have hold := hB5
    replace hB17 := hB17.only ho (Blk.ne hB17 hold rfl)
    replace hr19 := hr19.onlyT ho hold rfl
    replace ho36 := ho36.onlyT ho hold rfl
    replace hd1 := hd1.onlyT ho hold rfl
    replace hs1 := Nat.le_trans hs1 (Nat.le_of_eq ho.size.symm)
    replace hW := Below.only hW ho hlo5
    clear hold
    have hB5 := hb
    clear hb ho
    refine wpList_nil ?_
    refine x_norm ?_
    refine hK24 _ _ ?_; try clear hK24 K24
    refine wp_region_lit ?_
    refine l_e hf rfl (ev_addx hf rfl rfl (by omega) (by omega)) ?_; intro a hf
    refine l_mv hf rfl rfl ?_; intro a hf
    refine wpList_nil ?_
    refine x_thenN ?_
    exact ⟨(j + 1, (m2.set i (⟨A36, c36, r.l ++ ([(j : Int)])⟩ : Sl)), (⟨A36, c36, r.l ++ ([(j : Int)])⟩ : Sl)), ⟨hf.sub ⟨rfl, rfl, rfl, rfl, rfl, rfl, rfl, rfl, rfl, rfl, trivial⟩, (by omega), (by simp; exact hml2), (set_get (by omega)), hfs.symm, (take_setS.trans hm2t), (fun q h1 h2 => (set_other h1).trans (hrest2 q h1 h2)), hB5, hB17, hr19, hp, hd1, hs1, ho36, hW⟩, (by first | omega | (dsimp only; omega))⟩
   have hc30b := hc30
   have hcm : commS (gs.getD i gZ) (gs.getD j gZ) = true := by rw [hgi, hgj]; simpa using hc30
   have hfs : folS gs i (j + 1) = r.l := by rw [folS_succ, if_pos hcm, hrl]
   refine wp_skip ?_
   refine x_norm ?_
   refine hK24 _ _ ?_; try clear hK24 K24
   refine wp_region_lit ?_
   refine l_e hf rfl (ev_addx hf rfl rfl (by omega) (by omega)) ?_; intro a hf
   refine l_mv hf rfl rfl ?_; intro a hf
   refine wpList_nil ?_
   refine x_thenN ?_
   exact ⟨(j + 1, m2, r), ⟨hf.sub ⟨rfl, rfl, rfl, rfl, rfl, rfl, rfl, rfl, rfl, rfl, trivial⟩, (by omega), hml2, hr2, hfs.symm, hm2t, hrest2, hB5, hB17, hr19, hp, hd1, hs1, hor, hW⟩, (by first | omega | (dsimp only; omega))⟩
  have hc22b := hc22
  have hc22 := of_decide_eq_false hc22
  have hji : j = i := by omega
  rw [hji] at hrl
  refine wp_exit ?_
  refine x_exS ?_
  refine x_exS ?_
  refine x_exit ?_
  refine x_norm ?_
  refine hK13 _ _ ?_; try clear hK13 K13
  refine wp_region_lit ?_
  refine l_e hf rfl (ev_addx hf rfl rfl (by omega) (by omega)) ?_; intro a hf
  refine l_mv hf rfl rfl ?_; intro a hf
  refine wpList_nil ?_
  refine x_thenN ?_
  exact ⟨(i + 1, m2), ⟨hf.sub ⟨rfl, rfl, rfl, rfl, rfl, trivial⟩, (by omega), hml2, (by rw [takeS hr2, hm2t, List.map_append, hmp, followsS_succ, List.map_cons, hrl]; rfl), (fun q h1 h2 => hrest2 q (by omega) h2), (by rw [takeS hr2, hm2t]; exact hlw.snoc (fun p hp => Nat.le_trans hlB1 (hor.lowp p hp))), hB5, hp, ((hd1.top.snoc hor.rd).eq (by rw [takeS hr2, hm2t])), hW⟩, (by first | omega | (dsimp only; omega))⟩
 have hc11b := hc11
 have hc11 := of_decide_eq_false hc11
 refine wp_exit ?_
 refine x_exS ?_
 refine x_exS ?_
 refine x_exit ?_
 refine hK7 _ _ ?_; try clear hK7 K7
 refine wp_seq_k ?_; intro K37 hK37
 refine wp_region_lit ?_
 refine l_mv hf rfl rfl ?_; intro a hf
 refine l_as hf rfl rfl ?_; intro a hf
 refine wpList_nil ?_
 refine hK37 _ _ ?_; try clear hK37 K37
 refine wp_ret ?_
 refine c_ret hf (res1 hf rfl rfl) ?_
 have hmk : m.length = gs.length := hml
 have hmkb : gs.length ≤ maxLen := by simp only [maxLen]; omega
 have hown := (Own.of_flat encS_len hB5 hlo5 hmk hmkb)
 have hmt : m.take i = m := List.take_of_length_le (by omega)
 rw [hmt] at hdi hmp hlw
 exact ⟨(some ⟨b5, 0, none⟩), gs.length, m, by rw [hml], hown, hdi.top, hlw, by rw [hmp, show i = gs.length from by omega], hW⟩
end Go.Proofs.YtfgnmflfiobkmaaGreat
set_option maxHeartbeats 1000000
set_option maxRecDepth 4000
namespace Go.Proofs.YtfgnmflfiobkmaaGreat
open Go.RowKit
theorem F21 (w0 : World) (c : Cx) (Ac : Option Addr) (cc : Nat) (hr_c : Rd w0 w0.heap.size 107 encG Ac c.gs) (hp_c : c.gs.length ≤ cc) (hln : c.gs.length ≤ 2305843009213693951) : Ret Tryz.prog 21 [.agg #[.int .i64 c.n, .slice Ac c.gs.length cc]] w0 (fun v w => ∃ A c1, v = .tuple #[.slice A (schedOf c).length c1, .bool (cOk c)] ∧ Own w w0.heap.size 3 1 encI A c1 (schedOf c) ∧ Below w0.heap.size w0 w) := by
 refine enter Tryz.func21 rfl 69 rfl rfl ?_
 intro a hf
 have hW : Below w0.heap.size w0 w0 := Below.refl _ _
 refine wp_seq_k ?_; intro K2 hK2
 refine wp_region_lit ?_
 refine l_f hf rfl (ef_box (zs := [.int .i64 c.n, .slice Ac c.gs.length cc]) hf rfl rfl) ?_; rintro a _ w1 ⟨b3, rfl, hl3, hE, hB3⟩ hf
 have hlo3 := Nat.le_trans hW.size hl3
 replace hW := btr hW hE
 clear hE
 refine l_as hf rfl rfl ?_; intro a hf
 refine l_as hf rfl rfl ?_; intro a hf
 refine wpList_nil ?_
 refine hK2 _ _ ?_; try clear hK2 K2
 refine wp_seq_k ?_; intro K5 hK5
 refine wp_seq_k ?_; intro K6 hK6
 refine wp_region_lit ?_
 refine l_e hf rfl (ev_loadN (l := [.int .i64 c.n, .slice Ac c.gs.length cc]) hf rfl tN_41 (hB3.at 0) rfl) ?_; intro a hf
 refine l_f hf rfl (ef_call (vs := [.agg #[.int .i64 c.n, .slice Ac c.gs.length cc]]) hf rfl ff_53 (F53 _ c Ac cc (hr_c.below' hW).top)) ?_; rintro a _ w2 ⟨rfl, hE⟩ hf
 replace hB3 := hB3.below hE
 replace hW := btr hW hE
 clear hE
 refine l_e hf rfl (ev_not hf rfl) ?_; intro a hf
 refine wpList_nil ?_
 refine hK6 _ _ ?_; try clear hK6 K6
 refine c_if hf rfl (fun hc7 => ?_) (fun hc7 => ?_)
 ·have hc7b := hc7
  have hcf : cOk c = false := by revert hc7; cases cOk c <;> simp
  refine wp_seq_k ?_; intro K8 hK8
  refine wp_region_lit ?_
  refine l_as hf rfl rfl ?_; intro a hf
  refine l_as hf rfl rfl ?_; intro a hf
  refine wpList_nil ?_
  refine hK8 _ _ ?_; try clear hK8 K8
  refine wp_ret ?_
  refine x_retS ?_
  refine c_ret hf (res2 hf rfl rfl rfl) ?_
  rw [schedOf_false (by rw [hcf]; simp), hcf]
  exact ⟨none, 0, rfl, (Own.nil _ _ _ _ _), hW⟩
 have hc7b := hc7
 have hc : cOk c = true := by revert hc7; cases cOk c <;> simp
 obtain ⟨hcn, hcl, hcg⟩ := cOk_spec hc
 have hrun0 := (schedOf_true hc).symm
 refine wp_skip ?_
 refine hK5 _ _ ?_; try clear hK5 K5
 refine wp_seq_k ?_; intro K10 hK10
 refine wp_region_lit ?_
 refine l_as hf rfl rfl ?_; intro a hf
 refine wpList_nil ?_
 refine hK10 _ _ ?_; try clear hK10 K10
 refine wp_seq_k ?_; intro K12 hK12
 refine wp_region_lit ?_
 refine l_as hf rfl rfl ?_; intro a hf
 refine wpList_nil ?_
 refine hK12 _ _ ?_; try clear hK12 K12
 refine wp_seq_k ?_; intro K13 hK13
 refine wp_seq_k ?_; intro K14 hK14
 refine wp_region_lit ?_
 refine l_e hf rfl (ev_fieldB hf rfl fd_41_1 (m := 1) rfl) ?_; intro a hf
 refine l_e hf rfl (ev_load1 hf rfl t1_28 (hB3.at 1)) ?_; intro a hf
 refine l_e hf rfl (ev_len hf rfl sl_28) ?_; intro a hf
 refine l_mv hf rfl rfl ?_; intro a hf
 refine wpList_nil ?_
 refine hK14 _ _ ?_; try clear hK14 K14
 refine wp_block ?_
 refine c_loop (σ := Nat × (List Int) × Int) (fun (s : Nat × (List Int) × Int) (a : Act) (w : World) => match s with | (k, m, z) => ∃ A15 c15, Fr a 69 [(1, .pointer (some ⟨b3, 0, none⟩)), (4, .slice A15 m.length c15), (5, .int .i64 z), (15, .slice Ac c.gs.length cc), (16, .int .i64 (c.gs.length : Int)), (17, .int .i64 (k : Int))] ∧ (k ≤ c.gs.length) ∧ (m = ini (c.gs.take k)) ∧ (z = (cntW (c.gs.take k) : Int)) ∧ Blk w b3 41 [.int .i64 c.n, .slice Ac c.gs.length cc] ∧ Own w w0.heap.size 3 1 encI A15 c15 m ∧ c.gs.length ≤ cc ∧ Below w0.heap.size w0 w) (fun (s : Nat × (List Int) × Int) => match s with | (k, m, z) => c.gs.length - k) (0, [], 0) ?_ ?_
 · exact ⟨none, 0, hf.sub ⟨rfl, rfl, rfl, rfl, rfl, rfl, trivial⟩, (Nat.zero_le _), rfl, (by simp [cntW]), hB3, (Own.nil _ _ _ _ _), hp_c, hW⟩
 rintro ⟨k, m, z⟩ a w3 ⟨A15, c15, hf, hk, hm, hz, hB3, ho15, hp_c, hW⟩
 refine wp_seq_k ?_; intro K16 hK16
 refine wp_region_lit ?_
 refine l_e hf rfl (ev_lss hf rfl rfl) ?_; intro a hf
 refine wpList_nil ?_
 refine hK16 _ _ ?_; try clear hK16 K16
 refine wp_seq_k ?_; intro K17 hK17
 refine c_if hf rfl (fun hc18 => ?_) (fun hc18 => ?_)
 ·have hc18b := hc18
  have hc18 := of_decide_eq_true hc18
  obtain ⟨u19, hu19⟩ := getElem_ex (l := c.gs) (k := k) (by omega)
  have hmk9 : m.length ≤ k := by rw [hm, ini_len]; exact List.length_take_le _ _
  have hcw := cntW_le (c.gs.take k)
  have hct := List.length_take_le k c.gs
  refine wp_skip ?_
  refine hK17 _ _ ?_; try clear hK17 K17
  refine wp_seq_k ?_; intro K20 hK20
  refine wp_block ?_
  refine wp_seq_k ?_; intro K21 hK21
  refine wp_region_lit ?_
  refine l_index (k := k) (u := u19) (enc := encG) (l := c.gs) hf trivial rfl rfl rfl sl_28 sz_107 encG_len (hr_c.below' hW) hu19 rfl ?_; intro a p23 hat22 hf
  refine l_e hf rfl (ev_loadN (l := [.int .i64 u19.k, .int .i64 u19.a, .int .i64 u19.b]) hf rfl tN_107 hat22 rfl) ?_; intro a hf
  refine l_f hf rfl (ef_alloc (zs := [.int .i64 0, .int .i64 0, .int .i64 0]) z_107 rfl) ?_; rintro a _ w4 ⟨b24, rfl, hl24, hE, hB24⟩ hf
  have hlo24 := Nat.le_trans hW.size hl24
  have haw1_24 := (hr_c.below' hW).away hl24
  replace hB3 := hB3.below hE
  replace ho15 := ho15.below hE
  replace hW := btr hW hE
  clear hE
  refine l_f0 hf (ef_store (vs := [.int .i64 u19.k, .int .i64 u19.a, .int .i64 u19.b]) (l' := [.int .i64 u19.k, .int .i64 u19.a, .int .i64 u19.b]) hf rfl rfl sz_107 hB24 rfl rfl rfl rfl rfl) ?_; rintro a _ w5 ⟨ho, hb⟩ hf
  have hold := hB24
  replace hB3 := hB3.only ho (Blk.ne hB3 hold rfl)
  replace ho15 := ho15.onlyT ho hold rfl
  replace hW := Below.only hW ho hlo24
  clear hold
  have hB24 := hb
  clear hb ho
  refine wpList_nil ?_
  refine hK21 _ _ ?_; try clear hK21 K21
  refine wp_seq_k ?_; intro K25 hK25
  refine wp_region_lit ?_
  refine l_e hf rfl (ev_fieldB hf rfl fd_107_0 (m := 0) rfl) ?_; intro a hf
  refine l_e hf rfl (ev_load1 hf rfl t1_3 (hB24.at 0)) ?_; intro a hf
  refine l_e hf rfl (ev_eql hf rfl rfl) ?_; intro a hf
  refine wpList_nil ?_
  refine hK25 _ _ ?_; try clear hK25 K25
  refine c_if hf rfl (fun hc26 => ?_) (fun hc26 => ?_)
  ·have hc26b := hc26
   obtain ⟨hs1, hs2⟩ := ini_w hu19 hc26
   refine wp_region_lit ?_
   refine l_mv hf rfl rfl ?_; intro a hf
   refine l_f hf rfl (ef_buildSlice (k := 1) (vs := [.int .i64 0]) (zs := [.int .i64 0]) hf rfl sl_36 inf_3 rfl rfl) ?_; rintro a _ w6 ⟨b27, rfl, hl27, hE, hB27⟩ hf
   have hlo27 := Nat.le_trans hW.size hl27
   have haw15_27 := ho15.away hl27
   replace hB3 := hB3.below hE
   replace ho15 := ho15.below hE
   replace hW := btr hW hE
   clear hE
   refine l_f hf rfl (ef_append (enc := encI) (l := (m)) (l2 := ([0])) (B0 := w0.heap.size) hf rfl rfl sl_36 inf_3 encI_len encI_one ho15 (Rd.of_blk hB27 rfl _ hB27.lt) (by simp only [maxLen]; simp; omega) (by simp; omega) hW.size) ?_; rintro a _ w7 ⟨A29, c29, rfl, ho29, hg, hat⟩ hf
   have hown : Own _ w0.heap.size 3 1 encI _ _ (m) := ho15
   have haw29_27 := hat _ hB27.lt haw15_27
   clear hat
   replace hB3 := hB3.appT hown hg rfl
   replace hW := Below.app hW hown hg (Nat.le_refl _) hW.size
   clear hown hg
   refine l_as hf rfl rfl ?_; intro a hf
   refine wpList_nil ?_
   refine x_norm ?_
   refine hK20 _ _ ?_; try clear hK20 K20
   refine wp_region_lit ?_
   refine l_e hf rfl (ev_addx hf rfl rfl (by omega) (by omega)) ?_; intro a hf
   refine l_mv hf rfl rfl ?_; intro a hf
   refine wpList_nil ?_
   refine x_thenN ?_
   exact ⟨(k + 1, m ++ ([0]), z), ⟨A29, c29, hf.sub ⟨rfl, rfl, rfl, rfl, rfl, rfl, trivial⟩, (by omega), (by rw [hs1, hm]), (by omega), hB3, ho29, hp_c, hW⟩, (by first | omega | (dsimp only; omega))⟩
  have hc26b := hc26
  obtain ⟨hs1, hs2⟩ := ini_o hu19 hc26
  refine wp_seq_k ?_; intro K30 hK30
  refine wp_region_lit ?_
  refine l_mv hf rfl rfl ?_; intro a hf
  refine l_f hf rfl (ef_buildSlice (k := 1) (vs := [.int .i64 (-1)]) (zs := [.int .i64 (-1)]) hf rfl sl_36 inf_3 rfl rfl) ?_; rintro a _ w8 ⟨b31, rfl, hl31, hE, hB31⟩ hf
  have hlo31 := Nat.le_trans hW.size hl31
  have haw15_31 := ho15.away hl31
  replace hB3 := hB3.below hE
  replace ho15 := ho15.below hE
  replace hW := btr hW hE
  clear hE
  refine l_f hf rfl (ef_append (enc := encI) (l := (m)) (l2 := ([-1])) (B0 := w0.heap.size) hf rfl rfl sl_36 inf_3 encI_len encI_one ho15 (Rd.of_blk hB31 rfl _ hB31.lt) (by simp only [maxLen]; simp; omega) (by simp; omega) hW.size) ?_; rintro a _ w9 ⟨A33, c33, rfl, ho33, hg, hat⟩ hf
  have hown : Own _ w0.heap.size 3 1 encI _ _ (m) := ho15
  have haw33_31 := hat _ hB31.lt haw15_31
  clear hat
  replace hB3 := hB3.appT hown hg rfl
  replace hW := Below.app hW hown hg (Nat.le_refl _) hW.size
  clear hown hg
  refine l_as hf rfl rfl ?_; intro a hf
  refine wpList_nil ?_
  refine hK30 _ _ ?_; try clear hK30 K30
  refine wp_region_lit ?_
  refine l_mv hf rfl rfl ?_; intro a hf
  refine l_e hf rfl (ev_addx hf rfl rfl (by omega) (by omega)) ?_; intro a hf
  refine l_as hf rfl rfl ?_; intro a hf
  refine wpList_nil ?_
  refine x_norm ?_
  refine hK20 _ _ ?_; try clear hK20 K20
  refine wp_region_lit ?_
  refine l_e hf rfl (ev_addx hf rfl rfl (by omega) (by omega)) ?_; intro a hf
  refine l_mv hf rfl rfl ?_; intro a hf
  refine wpList_nil ?_
  refine x_thenN ?_
  exact ⟨(k + 1, m ++ ([-1]), z + 1), ⟨A33, c33, hf.sub ⟨rfl, rfl, rfl, rfl, rfl, rfl, trivial⟩, (by omega), (by rw [hs1, hm]), (by omega), hB3, ho33, hp_c, hW⟩, (by first | omega | (dsimp only; omega))⟩
 have hc18b := hc18
 have hc18 := of_decide_eq_false hc18
 have hmi : m = ini c.gs := by rw [hm, List.take_of_length_le (by omega)]
 have hml : m.length = c.gs.length := by rw [hmi, ini_len]
 rw [hml] at hf
 have hz0 : z = (cntZ c.gs (List.replicate c.gs.length 0) : Int) := by rw [cntZ_rep, hz, List.take_of_length_le (by omega)]; rfl
 have hlay0 : m = conv c.gs (List.replicate c.gs.length 0) := by rw [hmi, ini_conv]
 refine wp_exit ?_
 refine x_exS ?_
 refine x_exS ?_
 refine x_exit ?_
 refine hK13 _ _ ?_; try clear hK13 K13
 refine wp_seq_k ?_; intro K34 hK34
 refine wp_region_lit ?_
 refine l_e hf rfl (ev_fieldB hf rfl fd_41_1 (m := 1) rfl) ?_; intro a hf
 refine l_e hf rfl (ev_load1 hf rfl t1_28 (hB3.at 1)) ?_; intro a hf
 refine l_f hf rfl (ef_call (vs := [.slice Ac c.gs.length cc]) hf rfl ff_57 (F57 _ Ac cc c.gs (hr_c.below' hW).top hp_c c.n hcg hcl)) ?_; rintro a _ w10 ⟨A35, c35, m8, rfl, ho35, hd8, hlw8, hmm8, hE⟩ hf
 have hu8 := ho15.und
 replace ho35 := ho35.lower hW.size
 replace hB3 := hB3.below hE
 replace ho15 := ho15.below hE
 replace hW := btr hW hE
 clear hE
 obtain ⟨B8, hB8⟩ : ∃ B8, B8 = w10.heap.size := ⟨_, rfl⟩
 rw [← hB8] at hd8
 clear hB8
 refine l_as hf rfl rfl ?_; intro a hf
 refine wpList_nil ?_
 refine hK34 _ _ ?_; try clear hK34 K34
 refine wp_seq_k ?_; intro K36 hK36
 refine wp_seq_k ?_; intro K37 hK37
 refine wp_region_lit ?_
 refine l_as hf rfl rfl ?_; intro a hf
 refine wpList_nil ?_
 refine hK37 _ _ ?_; try clear hK37 K37
 refine wp_block ?_
 refine c_loop (σ := Nat × Int × (List Int) × Int × (List Int)) (fun (s : Nat × Int × (List Int) × Int × (List Int)) (a : Act) (w : World) => match s with | (f, kk, out, y, lay) => Fr a 69 [(1, .pointer (some ⟨b3, 0, none⟩)), (4, .slice A15 c.gs.length c15), (5, .int .i64 y), (8, .slice A35 m8.length c35), (9, .int .i64 kk)] ∧ (Sch c.gs kk out) ∧ (1 ≤ kk) ∧ (kk + (f : Int) = (c.gs.length : Int) + 1) ∧ (runI c.gs f kk out = schedOf c) ∧ (cntZ c.gs out ≤ f) ∧ (y = (cntZ c.gs out : Int)) ∧ (lay = conv c.gs out) ∧ Blk w b3 41 [.int .i64 c.n, .slice Ac c.gs.length cc] ∧ Own w w0.heap.size 3 1 encI A15 c15 lay ∧ Own w w0.heap.size 36 1 encS A35 c35 m8 ∧ c.gs.length ≤ cc ∧ DeepI w B8 m8 ∧ Below w0.heap.size w0 w) (fun (s : Nat × Int × (List Int) × Int × (List Int)) => match s with | (f, kk, out, y, lay) => f) (c.gs.length, 1, (List.replicate c.gs.length 0), z, m) ?_ ?_
 · exact ⟨hf.sub ⟨rfl, rfl, rfl, rfl, rfl, trivial⟩, (sch_zero _), (by omega), (by omega), hrun0, (cntZ_len _ _), hz0, hlay0, hB3, ho15, ho35, hp_c, hd8, hW⟩
 rintro ⟨f, kk, out, y, lay⟩ a w11 ⟨hf, hS, hkk, hkf, hrun, hcf, hy, hlay, hB3, ho15, ho35, hp_c, hd8, hW⟩
 refine wp_seq_k ?_; intro K38 hK38
 refine wp_seq_k ?_; intro K39 hK39
 refine wp_region_lit ?_
 refine l_mv hf rfl rfl ?_; intro a hf
 refine l_e hf rfl (ev_gtr hf rfl rfl) ?_; intro a hf
 refine wpList_nil ?_
 refine hK39 _ _ ?_; try clear hK39 K39
 refine c_if hf rfl (fun hc40 => ?_) (fun hc40 => ?_)
 ·have hc40b := hc40
  have hc40 := of_decide_eq_true hc40
  obtain ⟨f', hf', hrn, hcn', hSn⟩ := runI_go hS hkk hcf hrun (by omega)
  refine wp_skip ?_
  refine hK38 _ _ ?_; try clear hK38 K38
  refine wp_seq_k ?_; intro K41 hK41
  refine wp_block ?_
  refine wp_seq_k ?_; intro K42 hK42
  refine wp_region_lit ?_
  refine l_mv hf rfl rfl ?_; intro a hf
  refine l_e hf rfl (ev_len hf rfl sl_36) ?_; intro a hf
  refine l_mv hf rfl rfl ?_; intro a hf
  refine wpList_nil ?_
  refine hK42 _ _ ?_; try clear hK42 K42
  refine wp_block ?_
  refine c_loop (σ := Nat × (List Int) × Int × (List Int)) (fun (s : Nat × (List Int) × Int × (List Int)) (a : Act) (w : World) => match s with | (i, o2, y2, l2) => Fr a 69 [(1, .pointer (some ⟨b3, 0, none⟩)), (4, .slice A15 c.gs.length c15), (5, .int .i64 y2), (8, .slice A35 m8.length c35), (9, .int .i64 kk), (41, .int .i64 (c.gs.length : Int)), (42, .int .i64 (i : Int))] ∧ (i ≤ c.gs.length) ∧ (o2 = sweepN c.gs kk out i) ∧ (SchM c.gs kk o2) ∧ (y2 = (cntZ c.gs o2 : Int)) ∧ (l2 = conv c.gs o2) ∧ Blk w b3 41 [.int .i64 c.n, .slice Ac c.gs.length cc] ∧ Own w w0.heap.size 3 1 encI A15 c15 l2 ∧ Own w w0.heap.size 36 1 encS A35 c35 m8 ∧ c.gs.length ≤ cc ∧ DeepI w B8 m8 ∧ Below w0.heap.size w0 w) (fun (s : Nat × (List Int) × Int × (List Int)) => match s with | (i, o2, y2, l2) => c.gs.length - i) (0, out, y, lay) ?_ ?_
  · exact ⟨hf.sub ⟨rfl, rfl, rfl, rfl, rfl, rfl, rfl, trivial⟩, (Nat.zero_le _), rfl, hS.mid, hy, hlay, hB3, ho15, ho35, hp_c, hd8, hW⟩
  rintro ⟨i, o2, y2, l2⟩ a w12 ⟨hf, hi, ho2, hM, hy2, hl2, hB3, ho15, ho35, hp_c, hd8, hW⟩
  refine wp_seq_k ?_; intro K43 hK43
  refine wp_region_lit ?_
  refine l_e hf rfl (ev_lss hf rfl rfl) ?_; intro a hf
  refine wpList_nil ?_
  refine hK43 _ _ ?_; try clear hK43 K43
  refine wp_seq_k ?_; intro K44 hK44
  refine c_if hf rfl (fun hc45 => ?_) (fun hc45 => ?_)
  ·have hc45b := hc45
   have hc45 := of_decide_eq_true hc45
   obtain ⟨u46, hu46⟩ := getElem_ex (l := c.gs) (k := i) (by omega)
   have hcl2 := cntZ_len c.gs o2
   have hlo2 : o2.length = c.gs.length := hM.len
   have hin : i < c.gs.length := by omega
   have hnM := hM.step hkk hin
   have hns := sweep_succ c.gs kk out i
   rw [← ho2] at hns
   have hll2 : l2.length = c.gs.length := by rw [hl2]; exact conv_len hM.len
   obtain ⟨u8, hm8, hfl⟩ := fol_ex hmm8 hin
   have hfx : ∀ x ∈ u8.l, 0 ≤ x ∧ x < (i : Int) := by rw [hfl]; exact fun x hx => fol_mem hx
   have hfy : u8.l.length ≤ 2305843009213693951 := by rw [hfl]; exact Nat.le_trans (fol_len _ _ _) (by omega)
   refine wp_skip ?_
   refine hK44 _ _ ?_; try clear hK44 K44
   refine wp_seq_k ?_; intro K47 hK47
   refine wp_block ?_
   refine wp_seq_k ?_; intro K48 hK48
   refine wp_region_lit ?_
   refine l_mv hf rfl rfl ?_; intro a hf
   refine l_as hf rfl rfl ?_; intro a hf
   refine wpList_nil ?_
   refine hK48 _ _ ?_; try clear hK48 K48
   refine wp_seq_k ?_; intro K49 hK49
   refine c_cut (fun a w => Fr a 69 [(1, .pointer (some ⟨b3, 0, none⟩)), (4, .slice A15 c.gs.length c15), (5, .int .i64 y2), (8, .slice A35 m8.length c35), (9, .int .i64 kk), (10, .int .i64 (i : Int)), (41, .int .i64 (c.gs.length : Int)), (42, .int .i64 (i : Int)), (60, .bool ((decide ((l2.getD i 0) < 0)) && (freeS c.gs l2 kk i u8.l)))] ∧ Below w12.heap.size w12 w) ?_ ?_
   ·have hEc : Below w12.heap.size w12 w12 := Below.refl _ _
    refine wp_draw none (fun _ => false) mixed ?_
    intro w13 hE
    replace hB3 := hB3.below hE
    replace ho15 := ho15.below hE
    replace ho35 := ho35.below hE
    replace hd8 := hd8.below hE
    replace hW := btr hW hE
    replace hEc := btr hEc hE
    clear hE
    refine s_e0 0 rfl (by kernel_rfl) hf rfl (fun _ => ev_move hf rfl) ?_; intro a hf
    refine s_e0 1 rfl (by kernel_rfl) hf rfl (fun _ => ev_move hf rfl) ?_; intro a hf
    refine s_indexL (k := i) (u := (l2.getD i 0)) (enc := encI) (l := l2) 2 rfl (by kernel_rfl) (by kernel_rfl) hf trivial rfl rfl (by omega) rfl sl_36 sz_3 encI_len ho15.rd (getD_ex 0 (by omega)) rfl ?_; intro a p51 hat50 hf
    refine s_e 3 rfl (by kernel_rfl) (by kernel_rfl) hf rfl (ev_load1 hf rfl t1_3 hat50) ?_; intro a hf
    refine s_e0 4 rfl (by kernel_rfl) hf rfl (fun _ => ev_lss hf rfl rfl) ?_; intro a hf
    refine s_e0 5 rfl (by kernel_rfl) hf rfl (fun _ => ev_move hf rfl) ?_; intro a hf
    refine g_split hf (t := 50) rfl (fun hg52 => ?_) (fun hg52 => ?_)
    ·refine s_ev 6 rfl (by kernel_rfl) (by kernel_rfl) hf ⟨_, _, rfl, rfl, hg52⟩ rfl rfl (ev_loadN (l := [.int .i64 c.n, .slice Ac c.gs.length cc]) hf rfl tN_41 (hB3.at 0) rfl) ?_; intro a hf
     refine s_ev0 7 rfl (by kernel_rfl) hf ⟨_, _, rfl, rfl, hg52⟩ rfl rfl (fun _ => ev_move hf rfl) ?_; intro a hf
     refine s_ev0 8 rfl (by kernel_rfl) hf ⟨_, _, rfl, rfl, hg52⟩ rfl rfl (fun _ => ev_move hf rfl) ?_; intro a hf
     refine s_ev0 9 rfl (by kernel_rfl) hf ⟨_, _, rfl, rfl, hg52⟩ rfl rfl (fun _ => ev_move hf rfl) ?_; intro a hf
     refine s_ev0 10 rfl (by kernel_rfl) hf ⟨_, _, rfl, rfl, hg52⟩ rfl rfl (fun _ => ev_move hf rfl) ?_; intro a hf
     refine s_ev0 11 rfl (by kernel_rfl) hf ⟨_, _, rfl, rfl, hg52⟩ rfl rfl (fun _ => ev_move hf rfl) ?_; intro a hf
     refine s_index (k := i) (u := u8) (enc := encS) (l := m8) 12 rfl (by kernel_rfl) (by kernel_rfl) hf ⟨_, _, rfl, rfl, hg52⟩ rfl rfl rfl sl_108 sz_36 encS_len ho35.rd hm8 rfl ?_; intro a p54 hat53 hf
     have hr55 := hd8 _ (List.mem_of_getElem? hm8)
     refine s_ev 13 rfl (by kernel_rfl) (by kernel_rfl) hf ⟨_, _, rfl, rfl, hg52⟩ rfl rfl (ev_load1 hf rfl t1_36 hat53) ?_; intro a hf
     refine s_one 14 (by kernel_rfl) ?_
     refine p_eff rfl hf ⟨_, _, rfl, rfl, hg52⟩ rfl rfl (Ef.mono (ef_call (vs := [.agg #[.int .i64 c.n, .slice Ac c.gs.length cc], .slice A15 c.gs.length c15, .int .i64 kk, .int .i64 (i : Int), .slice u8.A u8.l.length u8.c]) hf rfl ff_58 (by have hq := F58 _ c Ac cc (hr_c.below' hW).top A15 c15 l2 ho15.rd.top kk i u8.A u8.c u8.l hr55.top (by omega) hin hfx (by omega) hfy; rw [hll2] at hq; exact hq)) (fun _ _ h => ⟨fun _ => by obtain ⟨rfl, hE⟩ := h; exact hE, h⟩)) ?_; rintro a _ w14 ⟨rfl, hE⟩ hf
     replace hB3 := hB3.below hE
     replace ho15 := ho15.below hE
     replace ho35 := ho35.below hE
     replace hr55 := hr55.below hE
     replace hd8 := hd8.below hE
     replace hW := btr hW hE
     replace hEc := btr hEc hE
     clear hE
     refine s_e0 15 rfl (by kernel_rfl) hf rfl (fun _ => ev_pickT hf rfl hg52 rfl) ?_; intro a hf
     refine s_done (by kernel_rfl) ?_
     have hEE : Below w12.heap.size w12 w14 := hEc
     exact ⟨hf.sub ⟨rfl, rfl, rfl, rfl, rfl, rfl, rfl, rfl, look_bool rfl (by first | rfl | (simp only [hc7b, hc18b, hc40b, hc45b, hg52, Bool.true_and, Bool.false_and, Bool.true_or, Bool.false_or]; done) | simp [hc7b, hc18b, hc40b, hc45b, hg52]), trivial⟩, hEE⟩
    refine s_pass 6 rfl (by kernel_rfl) hf ⟨_, _, rfl, rfl, hg52⟩ rfl rfl ?_; intro a hf
    refine s_pass 7 rfl (by kernel_rfl) hf ⟨_, _, rfl, rfl, hg52⟩ rfl rfl ?_; intro a hf
    refine s_pass 8 rfl (by kernel_rfl) hf ⟨_, _, rfl, rfl, hg52⟩ rfl rfl ?_; intro a hf
    refine s_pass 9 rfl (by kernel_rfl) hf ⟨_, _, rfl, rfl, hg52⟩ rfl rfl ?_; intro a hf
    refine s_pass 10 rfl (by kernel_rfl) hf ⟨_, _, rfl, rfl, hg52⟩ rfl rfl ?_; intro a hf
    refine s_pass 11 rfl (by kernel_rfl) hf ⟨_, _, rfl, rfl, hg52⟩ rfl rfl ?_; intro a hf
    refine s_pass 12 rfl (by kernel_rfl) hf ⟨_, _, rfl, rfl, hg52⟩ rfl rfl ?_; intro a hf
    refine s_pass 13 rfl (by kernel_rfl) hf ⟨_, _, rfl, rfl, hg52⟩ rfl rfl ?_; intro a hf
    refine s_one 14 (by kernel_rfl) ?_
    refine p_pass rfl hf ⟨_, _, rfl, rfl, hg52⟩ rfl rfl ?_; intro a hf
    refine s_e0 15 rfl (by kernel_rfl) hf rfl (fun _ => ev_pickF hf rfl hg52 rfl) ?_; intro a hf
    refine s_done (by kernel_rfl) ?_
    have hEE : Below w12.heap.size w12 w13 := hEc
    exact ⟨hf.sub ⟨rfl, rfl, rfl, rfl, rfl, rfl, rfl, rfl, look_bool rfl (by first | rfl | (simp only [hc7b, hc18b, hc40b, hc45b, hg52, Bool.true_and, Bool.false_and, Bool.true_or, Bool.false_or]; done) | simp [hc7b, hc18b, hc40b, hc45b, hg52]), trivial⟩, hEE⟩
   rintro a w15 ⟨hf, hE⟩
   replace hB3 := hB3.below hE
   replace ho15 := ho15.below hE
   replace ho35 := ho35.below hE
   replace hd8 := hd8.below hE
   replace hW := btr hW hE
   clear hE
   refine hK49 _ _ ?_; try clear hK49 K49
   refine c_if hf rfl (fun hc56 => ?_) (fun hc56 => ?_)
   ·have hc56b := hc56
    have hmy : mayI c.gs kk o2 i = true := by rw [← may_eq hcg hkk hM hin, ← hl2, ← hfl]; exact hc56
    have h12 : ¬ (c.gs.getD i gZ).k = 12 := by intro h9; unfold mayI at hmy; rw [h9] at hmy; simp at hmy
    have hst : stepI c.gs kk o2 i = o2.set i kk := by rw [stepI, if_pos hmy]
    have hct := step_cnt hM.len hin (by omega) hmy
    rw [hst] at hnM hns
    refine wp_seq_k ?_; intro K57 hK57
    refine wp_region_lit ?_
    refine l_mv hf rfl rfl ?_; intro a hf
    refine l_mv hf rfl rfl ?_; intro a hf
    refine l_mv hf rfl rfl ?_; intro a hf
    refine l_e hf rfl (ev_indexOwn (k := i) hf rfl rfl sl_36 sz_3 ho15 (by omega) rfl (by omega)) ?_; intro a hf
    refine l_f0 hf (ef_storeOwn (enc := encI) (l := l2) (vs := [.int .i64 kk]) (x0 := (l2.getD i 0)) (u := kk) (k := i) (j := 0) (n1 := 1) hf rfl rfl sz_3 ho15 encI_len rfl rfl rfl rfl (by decide) (getD_ex 0 (by omega)) rfl) ?_; rintro a _ w16 ⟨hnew, hg⟩ hf
    have hown := ho15
    replace hB3 := hB3.appT hown hg rfl
    replace ho35 := ho35.appT hown hg rfl
    replace hd8 := hd8.appL hlw8 hu8 hg
    replace hW := Below.app hW hown hg (Nat.le_refl _) hW.size
    clear hown hg; clear ho15; have ho15 := hnew; clear hnew
    refine wpList_nil ?_
    refine hK57 _ _ ?_; try clear hK57 K57
    refine wp_region_lit ?_
    refine l_mv hf rfl rfl ?_; intro a hf
    refine l_e hf rfl (ev_subx hf rfl rfl (by omega) (by omega)) ?_; intro a hf
    refine l_as hf rfl rfl ?_; intro a hf
    refine wpList_nil ?_
    refine x_norm ?_
    refine hK47 _ _ ?_; try clear hK47 K47
    refine wp_region_lit ?_
    refine l_e hf rfl (ev_addx hf rfl rfl (by omega) (by omega)) ?_; intro a hf
    refine l_mv hf rfl rfl ?_; intro a hf
    refine wpList_nil ?_
    refine x_thenN ?_
    exact ⟨(i + 1, (o2.set i kk), y2 - 1, (l2.set i kk)), ⟨hf.sub ⟨rfl, rfl, rfl, rfl, rfl, rfl, rfl, trivial⟩, (by omega), hns.symm, hnM, (by omega), (by rw [conv_set (getD_ex gZ hin) h12 (by omega), ← hl2]), hB3, ho15, ho35, hp_c, hd8, hW⟩, (by first | omega | (dsimp only; omega))⟩
   have hc56b := hc56
   have hmy : ¬ mayI c.gs kk o2 i = true := by rw [← may_eq hcg hkk hM hin, ← hl2, ← hfl]; intro h9; rw [hc56] at h9; cases h9
   have hst : stepI c.gs kk o2 i = o2 := by rw [stepI, if_neg hmy]
   rw [hst] at hnM hns
   refine wp_skip ?_
   refine x_norm ?_
   refine hK47 _ _ ?_; try clear hK47 K47
   refine wp_region_lit ?_
   refine l_e hf rfl (ev_addx hf rfl rfl (by omega) (by omega)) ?_; intro a hf
   refine l_mv hf rfl rfl ?_; intro a hf
   refine wpList_nil ?_
   refine x_thenN ?_
   exact ⟨(i + 1, o2, y2, l2), ⟨hf.sub ⟨rfl, rfl, rfl, rfl, rfl, rfl, rfl, trivial⟩, (by omega), hns.symm, hnM, (by omega), hl2, hB3, ho15, ho35, hp_c, hd8, hW⟩, (by first | omega | (dsimp only; omega))⟩
  have hc45b := hc45
  have hc45 := of_decide_eq_false hc45
  have hie : i = c.gs.length := by omega
  rw [hie] at ho2
  rw [← ho2] at hrn hcn' hSn
  refine wp_exit ?_
  refine x_exS ?_
  refine x_exS ?_
  refine x_exit ?_
  refine x_norm ?_
  refine hK41 _ _ ?_; try clear hK41 K41
  refine wp_region_lit ?_
  refine l_mv hf rfl rfl ?_; intro a hf
  refine l_e hf rfl (ev_addx hf rfl rfl (by omega) (by omega)) ?_; intro a hf
  refine l_as hf rfl rfl ?_; intro a hf
  refine wpList_nil ?_
  refine x_thenN ?_
  exact ⟨(f', kk + 1, o2, y2, l2), ⟨hf.sub ⟨rfl, rfl, rfl, rfl, rfl, trivial⟩, hSn, (by omega), (by omega), hrn, hcn', hy2, hl2, hB3, ho15, ho35, hp_c, hd8, hW⟩, (by first | omega | (dsimp only; omega))⟩
 have hc40b := hc40
 have hc40 := of_decide_eq_false hc40
 have hfin := runI_end hrun (by omega)
 refine wp_exit ?_
 refine x_exS ?_
 refine x_exS ?_
 refine x_exit ?_
 refine hK36 _ _ ?_; try clear hK36 K36
 refine wp_seq_k ?_; intro K58 hK58
 refine wp_region_lit ?_
 refine l_mv hf rfl rfl ?_; intro a hf
 refine l_as hf rfl rfl ?_; intro a hf
 refine l_as hf rfl rfl ?_; intro a hf
 refine wpList_nil ?_
 refine hK58 _ _ ?_; try clear hK58 K58
 refine wp_ret ?_
 refine c_ret hf (res2 hf rfl rfl rfl) ?_
 have e9 : lay = schedOf c := by rw [hlay, hfin, sched_fin hS (by omega)]
 have hown := ho15
 rw [e9] at hown
 rw [hc]
 exact ⟨A15, c15, by rw [schedOf_len hc], hown, hW⟩
end Go.Proofs.YtfgnmflfiobkmaaGreat
set_option maxRecDepth 4000
namespace Go.Proofs.YtfgnmflfiobkmaaGreat
open Go.RowKit
theorem F5 (w0 : World) {Xc : TypeId} (c : Cx) (Ac : Option Addr) (cc : Nat) (hr_c : Rd w0 w0.heap.size Xc encG Ac c.gs) (hlc : c.gs.length ≤ 9223372036854775807) : Ret Tryz.prog 5 [.agg #[.int .i64 c.n, .slice Ac c.gs.length cc]] w0 (fun v w => v = .bool true ∧ Below w0.heap.size w0 w) := by
 refine enter Tryz.func5 rfl 96 rfl rfl ?_
 intro a hf
 have hW : Below w0.heap.size w0 w0 := Below.refl _ _
 refine wp_seq_k ?_; intro K2 hK2
 refine wp_region_lit ?_
 refine l_f hf rfl (ef_box (zs := [.int .i64 c.n, .slice Ac c.gs.length cc]) hf rfl rfl) ?_; rintro a _ w1 ⟨b3, rfl, hl3, hE, hB3⟩ hf
 have hlo3 := Nat.le_trans hW.size hl3
 replace hW := btr hW hE
 clear hE
 refine l_as hf rfl rfl ?_; intro a hf
 refine wpList_nil ?_
 refine hK2 _ _ ?_; try clear hK2 K2
 refine wp_seq_k ?_; intro K4 hK4
 refine wp_region_lit ?_
 refine l_as hf rfl rfl ?_; intro a hf
 refine wpList_nil ?_
 refine hK4 _ _ ?_; try clear hK4 K4
 refine wp_seq_k ?_; intro K5 hK5
 refine wp_region_lit ?_
 refine l_e hf rfl (ev_loadN (l := [.int .i64 c.n, .slice Ac c.gs.length cc]) hf rfl tN_35 (hB3.at 0) rfl) ?_; intro a hf
 refine l_mv hf rfl rfl ?_; intro a hf
 refine l_f hf rfl (ef_call (vs := [.agg #[.int .i64 c.n, .slice Ac c.gs.length cc], .int .i64 1048576]) hf rfl ff_14 (F14 _ c Ac cc (hr_c.below' hW).top 1048576 (by omega) hlc)) ?_; rintro a _ w2 ⟨rfl, hE⟩ hf
 replace hB3 := hB3.below hE
 replace hW := btr hW hE
 clear hE
 refine l_as hf rfl rfl ?_; intro a hf
 refine wpList_nil ?_
 refine hK5 _ _ ?_; try clear hK5 K5
 refine wp_seq_k ?_; intro K6 hK6
 refine wp_seq_k ?_; intro K7 hK7
 refine wp_region_lit ?_
 refine l_mv hf rfl rfl ?_; intro a hf
 refine l_e hf rfl (ev_lss hf rfl rfl) ?_; intro a hf
 refine wpList_nil ?_
 refine hK7 _ _ ?_; try clear hK7 K7
 refine c_if hf rfl (fun hc8 => ?_) (fun hc8 => ?_)
 ·have hc8b := hc8
  have hc8 := of_decide_eq_true hc8
  refine wp_seq_k ?_; intro K9 hK9
  refine wp_region_lit ?_
  refine l_as hf rfl rfl ?_; intro a hf
  refine wpList_nil ?_
  refine hK9 _ _ ?_; try clear hK9 K9
  refine wp_ret ?_
  refine x_retS ?_
  refine c_ret hf (res1 hf rfl rfl) ?_
  exact ⟨rfl, hW⟩
 have hc8b := hc8
 have hc8 := of_decide_eq_false hc8
 have hc1 : c.gs.length ≤ 1048576 := by have := szG_le hc8; omega
 refine wp_skip ?_
 refine hK6 _ _ ?_; try clear hK6 K6
 refine wp_seq_k ?_; intro K10 hK10
 refine wp_region_lit ?_
 refine l_e hf rfl (ev_loadN (l := [.int .i64 c.n, .slice Ac c.gs.length cc]) hf rfl tN_35 (hB3.at 0) rfl) ?_; intro a hf
 refine l_f hf rfl (ef_call (vs := [.agg #[.int .i64 c.n, .slice Ac c.gs.length cc]]) hf rfl ff_16 (F16 _ c Ac cc (hr_c.below' hW).top hc1)) ?_; rintro a _ w3 ⟨A11, c11, rfl, ho11, hE⟩ hf
 replace ho11 := ho11.lower hW.size
 replace hB3 := hB3.below hE
 replace hW := btr hW hE
 clear hE
 refine l_f hf rfl (ef_call (vs := [.agg #[.int .i64 c.n, .slice A11 c.gs.length c11]]) hf rfl ff_21 (F21 _ c A11 c11 ho11.rd.top ho11.cap (Nat.le_trans hc1 (by decide)))) ?_; rintro a _ w4 ⟨A12, c12, rfl, ho12, hE⟩ hf
 replace ho12 := ho12.lower hW.size
 replace hB3 := hB3.below hE
 replace ho11 := ho11.below hE
 replace hW := btr hW hE
 clear hE
 refine l_mv hf rfl rfl ?_; intro a hf
 refine l_e hf rfl (ev_extract (vs := [.slice A12 (schedOf c).length c12, .bool (cOk c)]) hf rfl rfl) ?_; intro a hf
 refine l_e hf rfl (ev_extract (vs := [.slice A12 (schedOf c).length c12, .bool (cOk c)]) hf rfl rfl) ?_; intro a hf
 refine l_as hf rfl rfl ?_; intro a hf
 refine l_as hf rfl rfl ?_; intro a hf
 refine wpList_nil ?_
 refine hK10 _ _ ?_; try clear hK10 K10
 refine wp_seq_k ?_; intro K13 hK13
 refine wp_region_lit ?_
 refine l_e hf rfl (ev_loadN (l := [.int .i64 c.n, .slice Ac c.gs.length cc]) hf rfl tN_35 (hB3.at 0) rfl) ?_; intro a hf
 refine l_f hf rfl (ef_call (vs := [.agg #[.int .i64 c.n, .slice Ac c.gs.length cc]]) hf rfl ff_16 (F16 _ c Ac cc (hr_c.below' hW).top hc1)) ?_; rintro a _ w5 ⟨A14, c14, rfl, ho14, hE⟩ hf
 replace ho14 := ho14.lower hW.size
 replace hB3 := hB3.below hE
 replace ho12 := ho12.below hE
 replace hW := btr hW hE
 clear hE
 refine l_f hf rfl (ef_alloc (zs := [.int .i64 0, .slice none 0 0]) z_41 rfl) ?_; rintro a _ w6 ⟨b16, rfl, hl16, hE, hB16⟩ hf
 have hlo16 := Nat.le_trans hW.size hl16
 replace hB3 := hB3.below hE
 replace ho12 := ho12.below hE
 replace ho14 := ho14.below hE
 replace hW := btr hW hE
 clear hE
 refine l_f0 hf (ef_store (vs := [.int .i64 c.n, .slice A14 c.gs.length c14]) (l' := [.int .i64 c.n, .slice A14 c.gs.length c14]) hf rfl rfl sz_41 hB16 rfl rfl rfl rfl rfl) ?_; rintro a _ w7 ⟨ho, hb⟩ hf
 have hold := hB16
 replace hB3 := hB3.only ho (Blk.ne hB3 hold rfl)
 replace ho12 := ho12.onlyT ho hold rfl
 replace ho14 := ho14.onlyT ho hold rfl
 replace hW := Below.only hW ho hlo16
 clear hold
 have hB16 := hb
 clear hb ho
 refine wpList_nil ?_
 refine hK13 _ _ ?_; try clear hK13 K13
 refine wp_seq_k ?_; intro K17 hK17
 refine wp_region_lit ?_
 refine l_e hf rfl (ev_loadN (l := [.int .i64 c.n, .slice A14 c.gs.length c14]) hf rfl tN_41 (hB16.at 0) rfl) ?_; intro a hf
 refine l_f hf rfl (ef_call (vs := [.agg #[.int .i64 c.n, .slice A14 c.gs.length c14]]) hf rfl ff_22 (F22 _ c A14 c14 ho14.rd.top (Nat.le_trans hc1 (by decide)))) ?_; rintro a _ w8 ⟨A18, c18, rfl, ho18, hE⟩ hf
 have hap12_18 := ho12.apart ho18 (Nat.le_refl _)
 replace ho18 := ho18.lower hW.size
 replace hB3 := hB3.below hE
 replace hB16 := hB16.below hE
 replace ho12 := ho12.below hE
 replace ho14 := ho14.below hE
 replace hW := btr hW hE
 clear hE
 refine l_mv hf rfl rfl ?_; intro a hf
 refine l_e hf rfl (ev_extract (vs := [.slice A18 (schedOf c).length c18, .bool (cOk c)]) hf rfl rfl) ?_; intro a hf
 refine l_e hf rfl (ev_extract (vs := [.slice A18 (schedOf c).length c18, .bool (cOk c)]) hf rfl rfl) ?_; intro a hf
 refine l_as hf rfl rfl ?_; intro a hf
 refine l_as hf rfl rfl ?_; intro a hf
 refine wpList_nil ?_
 refine hK17 _ _ ?_; try clear hK17 K17
 refine wp_seq_k ?_; intro K19 hK19
 refine wp_seq_k ?_; intro K20 hK20
 refine c_cut (fun a w => Fr a 96 [(1, .pointer (some ⟨b3, 0, none⟩)), (4, .slice A12 (schedOf c).length c12), (5, .bool (cOk c)), (6, .pointer (some ⟨b16, 0, none⟩)), (7, .slice A18 (schedOf c).length c18), (8, .bool (cOk c)), (40, .bool ((!(decide ((schedOf c) = (schedOf c)))) || ((cOk c) != (cOk c))))] ∧ Below w8.heap.size w8 w) ?_ ?_
 ·have hEc : Below w8.heap.size w8 w8 := Below.refl _ _
  refine wp_region_lit ?_
  refine l_mv hf rfl rfl ?_; intro a hf
  refine l_mv hf rfl rfl ?_; intro a hf
  refine l_f hf rfl (ef_call (vs := [.slice A18 (schedOf c).length c18, .slice A12 (schedOf c).length c12]) hf rfl ff_20 (F20 _ A18 c18 (schedOf c) ho18.rd.top A12 c12 (schedOf c) ho12.rd.top (Nat.le_trans (schedOf_le c) (by decide)))) ?_; rintro a _ w9 ⟨rfl, hE⟩ hf
  replace hB3 := hB3.below hE
  replace hB16 := hB16.below hE
  replace ho12 := ho12.below hE
  replace ho14 := ho14.below hE
  replace ho18 := ho18.below hE
  replace hW := btr hW hE
  replace hEc := btr hEc hE
  clear hE
  refine l_e hf rfl (ev_not hf rfl) ?_; intro a hf
  refine l_mv hf rfl rfl ?_; intro a hf
  refine g_split hf (t := 36) rfl (fun hg21 => ?_) (fun hg21 => ?_)
  ·refine l_pass hf ⟨_, _, rfl, rfl, hg21⟩ rfl rfl ?_; intro a hf
   refine l_pass hf ⟨_, _, rfl, rfl, hg21⟩ rfl rfl ?_; intro a hf
   refine l_pass hf ⟨_, _, rfl, rfl, hg21⟩ rfl rfl ?_; intro a hf
   refine l_e hf rfl (ev_pickT hf rfl hg21 rfl) ?_; intro a hf
   refine wpList_nil ?_
   have hEE : Below w8.heap.size w8 w9 := hEc
   exact ⟨hf.sub ⟨rfl, rfl, rfl, rfl, rfl, rfl, look_bool rfl (by first | rfl | (simp only [hc8b, hg21, Bool.true_and, Bool.false_and, Bool.true_or, Bool.false_or]; done) | (simp [hc8b, hg21]; done) | (exfalso; revert hg21; simp)), trivial⟩, hEE⟩
  refine l_ev hf ⟨_, _, rfl, rfl, hg21⟩ rfl rfl (ev_move hf rfl) ?_; intro a hf
  refine l_ev hf ⟨_, _, rfl, rfl, hg21⟩ rfl rfl (ev_move hf rfl) ?_; intro a hf
  refine l_ev hf ⟨_, _, rfl, rfl, hg21⟩ rfl rfl (ev_bneq Tryz.underlying4 hf rfl rfl) ?_; intro a hf
  refine l_e hf rfl (ev_pickF hf rfl hg21 rfl) ?_; intro a hf
  refine wpList_nil ?_
  have hEE : Below w8.heap.size w8 w9 := hEc
  exact ⟨hf.sub ⟨rfl, rfl, rfl, rfl, rfl, rfl, look_bool rfl (by first | rfl | (simp only [hc8b, hg21, Bool.true_and, Bool.false_and, Bool.true_or, Bool.false_or]; done) | (simp [hc8b, hg21]; done) | (exfalso; revert hg21; simp)), trivial⟩, hEE⟩
 rintro a w10 ⟨hf, hE⟩
 replace hB3 := hB3.below hE
 replace hB16 := hB16.below hE
 replace ho12 := ho12.below hE
 replace ho14 := ho14.below hE
 replace ho18 := ho18.below hE
 replace hW := btr hW hE
 clear hE
 refine hK20 _ _ ?_; try clear hK20 K20
 refine c_if hf rfl (fun hc22 => ?_) (fun hc22 => ?_)
 ·have hc22b := hc22
  simp at hc22
 have hc22b := hc22
 refine wp_skip ?_
 refine hK19 _ _ ?_; try clear hK19 K19
 refine wp_seq_k ?_; intro K23 hK23
 refine wp_seq_k ?_; intro K24 hK24
 refine wp_draw none (fun _ => false) mixed ?_
 intro w11 hE
 replace hB3 := hB3.below hE
 replace hB16 := hB16.below hE
 replace ho12 := ho12.below hE
 replace ho14 := ho14.below hE
 replace ho18 := ho18.below hE
 replace hW := btr hW hE
 clear hE
 refine s_e 0 rfl (by kernel_rfl) (by kernel_rfl) hf rfl (ev_loadN (l := [.int .i64 c.n, .slice A14 c.gs.length c14]) hf rfl tN_41 (hB16.at 0) rfl) ?_; intro a hf
 refine s_e 1 rfl (by kernel_rfl) (by kernel_rfl) hf rfl (ev_loadN (l := [.int .i64 c.n, .slice Ac c.gs.length cc]) hf rfl tN_35 (hB3.at 0) rfl) ?_; intro a hf
 refine s_one 2 (by kernel_rfl) ?_
 refine p_eff rfl hf trivial rfl rfl (Ef.mono (ef_call (vs := [.agg #[.int .i64 c.n, .slice Ac c.gs.length cc]]) hf rfl ff_16 (F16 _ c Ac cc (hr_c.below' hW).top hc1)) (fun _ _ h => ⟨fun _ => by obtain ⟨A25, c25, rfl, ho25, hE⟩ := h; exact hE, h⟩)) ?_; rintro a _ w12 ⟨A25, c25, rfl, ho25, hE⟩ hf
 have hap14_25 := ho14.apart ho25 (Nat.le_refl _)
 replace ho25 := ho25.lower hW.size
 replace hB3 := hB3.below hE
 replace hB16 := hB16.below hE
 replace ho12 := ho12.below hE
 replace ho14 := ho14.below hE
 replace ho18 := ho18.below hE
 replace hW := btr hW hE
 clear hE
 refine s_one 3 (by kernel_rfl) ?_
 refine p_eff rfl hf trivial rfl rfl (Ef.mono (ef_call (vs := [.agg #[.int .i64 c.n, .slice A14 c.gs.length c14], .agg #[.int .i64 c.n, .slice A25 c.gs.length c25]]) hf rfl ff_19 (F19 _ c A14 c14 ho14.rd.top c A25 c25 ho25.rd.top (Nat.le_trans hc1 (by decide)))) (fun _ _ h => ⟨fun _ => by obtain ⟨rfl, hE⟩ := h; exact hE, h⟩)) ?_; rintro a _ w13 ⟨rfl, hE⟩ hf
 replace hB3 := hB3.below hE
 replace hB16 := hB16.below hE
 replace ho12 := ho12.below hE
 replace ho14 := ho14.below hE
 replace ho18 := ho18.below hE
 replace ho25 := ho25.below hE
 replace hW := btr hW hE
 clear hE
 refine s_e0 4 rfl (by kernel_rfl) hf rfl (fun _ => ev_not hf rfl) ?_; intro a hf
 refine s_done (by kernel_rfl) ?_
 refine hK24 _ _ ?_; try clear hK24 K24
 refine c_if hf rfl (fun hc26 => ?_) (fun hc26 => ?_)
 ·have hc26b := hc26
  simp [eqC] at hc26
 have hc26b := hc26
 refine wp_skip ?_
 refine hK23 _ _ ?_; try clear hK23 K23
 refine wp_seq_k ?_; intro K27 hK27
 refine wp_region_lit ?_
 refine l_as hf rfl rfl ?_; intro a hf
 refine wpList_nil ?_
 refine hK27 _ _ ?_; try clear hK27 K27
 refine wp_seq_k ?_; intro K28 hK28
 refine wp_region_lit ?_
 refine l_e hf rfl (ev_loadN (l := [.int .i64 c.n, .slice A14 c.gs.length c14]) hf rfl tN_41 (hB16.at 0) rfl) ?_; intro a hf
 refine l_mv hf rfl rfl ?_; intro a hf
 refine l_f hf rfl (ef_call (vs := [.agg #[.int .i64 c.n, .slice A14 c.gs.length c14], .int .i64 1]) hf rfl ff_23 (F23 _ w0.heap.size A14 c14 c.gs ho14 c.n 1 (by decide) (Nat.le_trans hc1 (by decide)))) ?_; rintro a _ w14 ⟨rfl, hnew, hg⟩ hf
 have hown := ho14
 replace hB3 := hB3.appT hown hg rfl
 replace hB16 := hB16.appT hown hg rfl
 replace ho12 := ho12.appT hown hg rfl
 replace ho18 := ho18.appT hown hg rfl
 replace hW := Below.app hW hown hg (Nat.le_refl _) hW.size
 clear hown hg; clear ho14; have ho14 := hnew; clear hnew
 refine l_as hf rfl rfl ?_; intro a hf
 refine wpList_nil ?_
 refine hK28 _ _ ?_; try clear hK28 K28
 refine wp_seq_k ?_; intro K29 hK29
 refine wp_seq_k ?_; intro K30 hK30
 refine c_cut (fun a w => Fr a 96 [(1, .pointer (some ⟨b3, 0, none⟩)), (4, .slice A12 (schedOf c).length c12), (5, .bool (cOk c)), (7, .slice A18 (schedOf c).length c18), (61, .bool (((decide ((1 + 3 * (c.gs.length : Int)) < 0)) || (!(decide ((schedOf c) = (schedOf c))))) || ((cOk c) != (cOk c))))] ∧ Below w14.heap.size w14 w) ?_ ?_
 ·have hEc : Below w14.heap.size w14 w14 := Below.refl _ _
  refine wp_region_lit ?_
  refine l_mv hf rfl rfl ?_; intro a hf
  refine l_e hf rfl (ev_lss hf rfl rfl) ?_; intro a hf
  refine l_mv hf rfl rfl ?_; intro a hf
  refine g_split hf (t := 51) rfl (fun hg31 => ?_) (fun hg31 => ?_)
  ·refine l_pass hf ⟨_, _, rfl, rfl, hg31⟩ rfl rfl ?_; intro a hf
   refine l_pass hf ⟨_, _, rfl, rfl, hg31⟩ rfl rfl ?_; intro a hf
   refine l_pass hf ⟨_, _, rfl, rfl, hg31⟩ rfl rfl ?_; intro a hf
   refine l_pass hf ⟨_, _, rfl, rfl, hg31⟩ rfl rfl ?_; intro a hf
   refine l_e hf rfl (ev_pickT hf rfl hg31 rfl) ?_; intro a hf
   refine l_mv hf rfl rfl ?_; intro a hf
   refine l_pass hf ⟨_, _, rfl, rfl, rfl⟩ rfl rfl ?_; intro a hf
   refine l_pass hf ⟨_, _, rfl, rfl, rfl⟩ rfl rfl ?_; intro a hf
   refine l_pass hf ⟨_, _, rfl, rfl, rfl⟩ rfl rfl ?_; intro a hf
   refine l_e hf rfl (ev_pickT hf rfl rfl rfl) ?_; intro a hf
   refine wpList_nil ?_
   have hEE : Below w14.heap.size w14 w14 := hEc
   exact ⟨hf.sub ⟨rfl, rfl, rfl, rfl, look_bool rfl (by first | rfl | (simp only [hc8b, hc22b, hc26b, hg31, Bool.true_and, Bool.false_and, Bool.true_or, Bool.false_or]; done) | (simp [hc8b, hc22b, hc26b, hg31]; done) | (exfalso; revert hg31; simp)), trivial⟩, hEE⟩
  refine l_ev hf ⟨_, _, rfl, rfl, hg31⟩ rfl rfl (ev_move hf rfl) ?_; intro a hf
  refine l_ev hf ⟨_, _, rfl, rfl, hg31⟩ rfl rfl (ev_move hf rfl) ?_; intro a hf
  refine l_eff hf ⟨_, _, rfl, rfl, hg31⟩ rfl rfl (ef_call (vs := [.slice A18 (schedOf c).length c18, .slice A12 (schedOf c).length c12]) hf rfl ff_20 (F20 _ A18 c18 (schedOf c) ho18.rd.top A12 c12 (schedOf c) ho12.rd.top (Nat.le_trans (schedOf_le c) (by decide)))) ?_; rintro a _ w15 ⟨rfl, hE⟩ hf
  replace hB3 := hB3.below hE
  replace ho12 := ho12.below hE
  replace ho18 := ho18.below hE
  replace hW := btr hW hE
  replace hEc := btr hEc hE
  clear hE
  refine l_ev hf ⟨_, _, rfl, rfl, hg31⟩ rfl rfl (ev_not hf rfl) ?_; intro a hf
  refine l_e hf rfl (ev_pickF hf rfl hg31 rfl) ?_; intro a hf
  refine l_mv hf rfl rfl ?_; intro a hf
  refine g_split hf (t := 57) rfl (fun hg32 => ?_) (fun hg32 => ?_)
  ·refine l_pass hf ⟨_, _, rfl, rfl, hg32⟩ rfl rfl ?_; intro a hf
   refine l_pass hf ⟨_, _, rfl, rfl, hg32⟩ rfl rfl ?_; intro a hf
   refine l_pass hf ⟨_, _, rfl, rfl, hg32⟩ rfl rfl ?_; intro a hf
   refine l_e hf rfl (ev_pickT hf rfl hg32 rfl) ?_; intro a hf
   refine wpList_nil ?_
   have hEE : Below w14.heap.size w14 w15 := hEc
   exact ⟨hf.sub ⟨rfl, rfl, rfl, rfl, look_bool rfl (by first | rfl | (simp only [hc8b, hc22b, hc26b, hg31, hg32, Bool.true_and, Bool.false_and, Bool.true_or, Bool.false_or]; done) | (simp [hc8b, hc22b, hc26b, hg31, hg32]; done) | (exfalso; revert hg32; simp)), trivial⟩, hEE⟩
  refine l_ev hf ⟨_, _, rfl, rfl, hg32⟩ rfl rfl (ev_move hf rfl) ?_; intro a hf
  refine l_ev hf ⟨_, _, rfl, rfl, hg32⟩ rfl rfl (ev_move hf rfl) ?_; intro a hf
  refine l_ev hf ⟨_, _, rfl, rfl, hg32⟩ rfl rfl (ev_bneq Tryz.underlying4 hf rfl rfl) ?_; intro a hf
  refine l_e hf rfl (ev_pickF hf rfl hg32 rfl) ?_; intro a hf
  refine wpList_nil ?_
  have hEE : Below w14.heap.size w14 w15 := hEc
  exact ⟨hf.sub ⟨rfl, rfl, rfl, rfl, look_bool rfl (by first | rfl | (simp only [hc8b, hc22b, hc26b, hg31, hg32, Bool.true_and, Bool.false_and, Bool.true_or, Bool.false_or]; done) | (simp [hc8b, hc22b, hc26b, hg31, hg32]; done) | (exfalso; revert hg32; simp)), trivial⟩, hEE⟩
 rintro a w16 ⟨hf, hE⟩
 replace hB3 := hB3.below hE
 replace ho12 := ho12.below hE
 replace ho18 := ho18.below hE
 replace hW := btr hW hE
 clear hE
 refine hK30 _ _ ?_; try clear hK30 K30
 refine c_if hf rfl (fun hc33 => ?_) (fun hc33 => ?_)
 ·have hc33b := hc33
  have h9 : ¬ (1 + 3 * (c.gs.length : Int) < 0) := by omega
  simp [h9] at hc33
 have hc33b := hc33
 refine wp_skip ?_
 refine hK29 _ _ ?_; try clear hK29 K29
 refine wp_seq_k ?_; intro K34 hK34
 refine wp_region_lit ?_
 refine l_as hf rfl rfl ?_; intro a hf
 refine wpList_nil ?_
 refine hK34 _ _ ?_; try clear hK34 K34
 refine wp_seq_k ?_; intro K35 hK35
 refine wp_region_lit ?_
 refine l_mv hf rfl rfl ?_; intro a hf
 refine l_mv hf rfl rfl ?_; intro a hf
 refine l_f hf rfl (ef_call (vs := [.slice A18 (schedOf c).length c18, .int .i64 1]) hf rfl ff_24 (F24 _ w0.heap.size A18 c18 (schedOf c) ho18 1 (by decide) (Nat.le_trans (schedOf_le c) (by decide)))) ?_; rintro a _ w17 ⟨rfl, hnew, hg⟩ hf
 have hown := ho18
 replace hB3 := hB3.appT hown hg rfl
 replace ho12 := ho12.appP hg hap12_18
 replace hW := Below.app hW hown hg (Nat.le_refl _) hW.size
 clear hown hg; clear ho18; have ho18 := hnew; clear hnew
 refine l_as hf rfl rfl ?_; intro a hf
 refine wpList_nil ?_
 refine hK35 _ _ ?_; try clear hK35 K35
 refine wp_seq_k ?_; intro K36 hK36
 refine wp_region_lit ?_
 refine l_as hf rfl rfl ?_; intro a hf
 refine wpList_nil ?_
 refine hK36 _ _ ?_; try clear hK36 K36
 refine wp_seq_k ?_; intro K37 hK37
 refine wp_region_lit ?_
 refine l_mv hf rfl rfl ?_; intro a hf
 refine l_mv hf rfl rfl ?_; intro a hf
 refine l_f hf rfl (ef_call (vs := [.slice A18 (schedOf c).length c18, .int .i64 1]) hf rfl ff_25 (F25 _ A18 c18 (schedOf c).length (markI 1 (schedOf c).length) (markI_len _ _).symm ho18.rd.top 1 (by decide) (by rw [markI_len]; exact Nat.le_trans (schedOf_le c) (by decide)))) ?_; rintro a _ w18 ⟨rfl, hE⟩ hf
 replace hB3 := hB3.below hE
 replace ho12 := ho12.below hE
 replace ho18 := ho18.below hE
 replace hW := btr hW hE
 clear hE
 refine l_as hf rfl rfl ?_; intro a hf
 refine wpList_nil ?_
 refine hK37 _ _ ?_; try clear hK37 K37
 refine wp_seq_k ?_; intro K38 hK38
 refine wp_seq_k ?_; intro K39 hK39
 refine wp_region_lit ?_
 refine l_mv hf rfl rfl ?_; intro a hf
 refine l_e hf rfl (ev_lss hf rfl rfl) ?_; intro a hf
 refine wpList_nil ?_
 refine hK39 _ _ ?_; try clear hK39 K39
 refine c_if hf rfl (fun hc40 => ?_) (fun hc40 => ?_)
 ·have hc40b := hc40
  have hc40 := of_decide_eq_true hc40
  rw [heldI_mark] at hc40; omega
 have hc40b := hc40
 have hc40 := of_decide_eq_false hc40
 refine wp_skip ?_
 refine hK38 _ _ ?_; try clear hK38 K38
 refine wp_seq_k ?_; intro K41 hK41
 refine wp_seq_k ?_; intro K42 hK42
 refine wp_region_lit ?_
 refine l_mv hf rfl rfl ?_; intro a hf
 refine l_mv hf rfl rfl ?_; intro a hf
 refine l_e hf rfl (ev_neq hf rfl rfl) ?_; intro a hf
 refine wpList_nil ?_
 refine hK42 _ _ ?_; try clear hK42 K42
 refine c_if hf rfl (fun hc43 => ?_) (fun hc43 => ?_)
 ·have hc43b := hc43
  rw [heldI_mark] at hc43; simp at hc43
 have hc43b := hc43
 refine wp_skip ?_
 refine hK41 _ _ ?_; try clear hK41 K41
 refine wp_seq_k ?_; intro K44 hK44
 refine wp_region_lit ?_
 refine l_e hf rfl (ev_loadN (l := [.int .i64 c.n, .slice Ac c.gs.length cc]) hf rfl tN_35 (hB3.at 0) rfl) ?_; intro a hf
 refine l_f hf rfl (ef_call (vs := [.agg #[.int .i64 c.n, .slice Ac c.gs.length cc]]) hf rfl ff_16 (F16 _ c Ac cc (hr_c.below' hW).top hc1)) ?_; rintro a _ w19 ⟨A45, c45, rfl, ho45, hE⟩ hf
 replace ho45 := ho45.lower hW.size
 replace hB3 := hB3.below hE
 replace ho12 := ho12.below hE
 replace ho18 := ho18.below hE
 replace hW := btr hW hE
 clear hE
 refine l_f hf rfl (ef_call (vs := [.agg #[.int .i64 c.n, .slice A45 c.gs.length c45]]) hf rfl ff_22 (F22 _ c A45 c45 ho45.rd.top (Nat.le_trans hc1 (by decide)))) ?_; rintro a _ w20 ⟨A46, c46, rfl, ho46, hE⟩ hf
 have hap12_46 := ho12.apart ho46 (Nat.le_refl _)
 have hap18_46 := ho18.apart ho46 (Nat.le_refl _)
 replace ho46 := ho46.lower hW.size
 replace hB3 := hB3.below hE
 replace ho12 := ho12.below hE
 replace ho18 := ho18.below hE
 replace ho45 := ho45.below hE
 replace hW := btr hW hE
 clear hE
 refine l_mv hf rfl rfl ?_; intro a hf
 refine l_e hf rfl (ev_extract (vs := [.slice A46 (schedOf c).length c46, .bool (cOk c)]) hf rfl rfl) ?_; intro a hf
 refine l_e hf rfl (ev_extract (vs := [.slice A46 (schedOf c).length c46, .bool (cOk c)]) hf rfl rfl) ?_; intro a hf
 refine l_as hf rfl rfl ?_; intro a hf
 refine l_as hf rfl rfl ?_; intro a hf
 refine wpList_nil ?_
 refine hK44 _ _ ?_; try clear hK44 K44
 refine wp_seq_k ?_; intro K47 hK47
 refine wp_seq_k ?_; intro K48 hK48
 refine c_cut (fun a w => Fr a 96 [(7, .slice A18 (schedOf c).length c18), (10, .int .i64 (1 + ((schedOf c).length : Int))), (87, .bool ((!(decide ((schedOf c) = (schedOf c)))) || ((cOk c) != (cOk c))))] ∧ Below w20.heap.size w20 w) ?_ ?_
 ·have hEc : Below w20.heap.size w20 w20 := Below.refl _ _
  refine wp_region_lit ?_
  refine l_mv hf rfl rfl ?_; intro a hf
  refine l_mv hf rfl rfl ?_; intro a hf
  refine l_f hf rfl (ef_call (vs := [.slice A46 (schedOf c).length c46, .slice A12 (schedOf c).length c12]) hf rfl ff_20 (F20 _ A46 c46 (schedOf c) ho46.rd.top A12 c12 (schedOf c) ho12.rd.top (Nat.le_trans (schedOf_le c) (by decide)))) ?_; rintro a _ w21 ⟨rfl, hE⟩ hf
  replace ho12 := ho12.below hE
  replace ho18 := ho18.below hE
  replace ho46 := ho46.below hE
  replace hW := btr hW hE
  replace hEc := btr hEc hE
  clear hE
  refine l_e hf rfl (ev_not hf rfl) ?_; intro a hf
  refine l_mv hf rfl rfl ?_; intro a hf
  refine g_split hf (t := 83) rfl (fun hg49 => ?_) (fun hg49 => ?_)
  ·refine l_pass hf ⟨_, _, rfl, rfl, hg49⟩ rfl rfl ?_; intro a hf
   refine l_pass hf ⟨_, _, rfl, rfl, hg49⟩ rfl rfl ?_; intro a hf
   refine l_pass hf ⟨_, _, rfl, rfl, hg49⟩ rfl rfl ?_; intro a hf
   refine l_e hf rfl (ev_pickT hf rfl hg49 rfl) ?_; intro a hf
   refine wpList_nil ?_
   have hEE : Below w20.heap.size w20 w21 := hEc
   exact ⟨hf.sub ⟨rfl, rfl, look_bool rfl (by first | rfl | (simp only [hc8b, hc22b, hc26b, hc33b, hc40b, hc43b, hg49, Bool.true_and, Bool.false_and, Bool.true_or, Bool.false_or]; done) | (simp [hc8b, hc22b, hc26b, hc33b, hc40b, hc43b, hg49]; done) | (exfalso; revert hg49; simp)), trivial⟩, hEE⟩
  refine l_ev hf ⟨_, _, rfl, rfl, hg49⟩ rfl rfl (ev_move hf rfl) ?_; intro a hf
  refine l_ev hf ⟨_, _, rfl, rfl, hg49⟩ rfl rfl (ev_move hf rfl) ?_; intro a hf
  refine l_ev hf ⟨_, _, rfl, rfl, hg49⟩ rfl rfl (ev_bneq Tryz.underlying4 hf rfl rfl) ?_; intro a hf
  refine l_e hf rfl (ev_pickF hf rfl hg49 rfl) ?_; intro a hf
  refine wpList_nil ?_
  have hEE : Below w20.heap.size w20 w21 := hEc
  exact ⟨hf.sub ⟨rfl, rfl, look_bool rfl (by first | rfl | (simp only [hc8b, hc22b, hc26b, hc33b, hc40b, hc43b, hg49, Bool.true_and, Bool.false_and, Bool.true_or, Bool.false_or]; done) | (simp [hc8b, hc22b, hc26b, hc33b, hc40b, hc43b, hg49]; done) | (exfalso; revert hg49; simp)), trivial⟩, hEE⟩
 rintro a w22 ⟨hf, hE⟩
 replace ho12 := ho12.below hE
 replace ho18 := ho18.below hE
 replace ho46 := ho46.below hE
 replace hW := btr hW hE
 clear hE
 refine hK48 _ _ ?_; try clear hK48 K48
 refine c_false hf (look_bool rfl hc22b) ?_
 refine wp_skip ?_
 refine hK47 _ _ ?_; try clear hK47 K47
 refine wp_seq_k ?_; intro K50 hK50
 refine wp_region_lit ?_
 refine l_as hf rfl rfl ?_; intro a hf
 refine wpList_nil ?_
 refine hK50 _ _ ?_; try clear hK50 K50
 refine wp_seq_k ?_; intro K51 hK51
 refine wp_region_lit ?_
 refine l_mv hf rfl rfl ?_; intro a hf
 refine l_mv hf rfl rfl ?_; intro a hf
 refine l_f hf rfl (ef_call (vs := [.slice A18 (schedOf c).length c18, .int .i64 1]) hf rfl ff_25 (F25 _ A18 c18 (schedOf c).length (markI 1 (schedOf c).length) (markI_len _ _).symm ho18.rd.top 1 (by decide) (by rw [markI_len]; exact Nat.le_trans (schedOf_le c) (by decide)))) ?_; rintro a _ w23 ⟨rfl, hE⟩ hf
 replace ho18 := ho18.below hE
 replace hW := btr hW hE
 clear hE
 refine l_as hf rfl rfl ?_; intro a hf
 refine wpList_nil ?_
 refine hK51 _ _ ?_; try clear hK51 K51
 refine wp_seq_k ?_; intro K52 hK52
 refine wp_seq_k ?_; intro K53 hK53
 refine wp_region_lit ?_
 refine l_mv hf rfl rfl ?_; intro a hf
 refine l_e hf rfl (ev_lss hf rfl rfl) ?_; intro a hf
 refine wpList_nil ?_
 refine hK53 _ _ ?_; try clear hK53 K53
 refine c_false hf (look_bool rfl hc40b) ?_
 refine wp_skip ?_
 refine hK52 _ _ ?_; try clear hK52 K52
 refine wp_seq_k ?_; intro K54 hK54
 refine wp_seq_k ?_; intro K55 hK55
 refine wp_region_lit ?_
 refine l_mv hf rfl rfl ?_; intro a hf
 refine l_mv hf rfl rfl ?_; intro a hf
 refine l_e hf rfl (ev_neq hf rfl rfl) ?_; intro a hf
 refine wpList_nil ?_
 refine hK55 _ _ ?_; try clear hK55 K55
 refine c_false hf (look_bool rfl hc43b) ?_
 refine wp_skip ?_
 refine hK54 _ _ ?_; try clear hK54 K54
 refine wp_seq_k ?_; intro K56 hK56
 refine wp_region_lit ?_
 refine l_as hf rfl rfl ?_; intro a hf
 refine wpList_nil ?_
 refine hK56 _ _ ?_; try clear hK56 K56
 refine wp_ret ?_
 refine c_ret hf (res1 hf rfl rfl) ?_
 exact ⟨rfl, hW⟩
end Go.Proofs.YtfgnmflfiobkmaaGreat
namespace Go.Proofs.YtfgnmflfiobkmaaGreat
open Go.RowKit Go.ChangeShapes Go.WideShapes Go.Deep Go.Joins
theorem list_of {α : Type} {n : Nat} {Q : Nat → α → Prop} (h : ∀ i, i < n → ∃ g, Q i g) : ∃ l : List α, l.length = n ∧ ∀ i g, l[i]? = some g → Q i g := by
  induction n with
  | zero => exact ⟨[], rfl, fun i g h => by simp at h⟩
  | succ n ih =>
    obtain ⟨l, h1, h2⟩ := ih fun i hi => h i (by omega)
    obtain ⟨g, hg⟩ := h n (by omega)
    refine ⟨l ++ [g], by simp [h1], fun i g' hi => ?_⟩
    rcases Nat.lt_or_ge i n with hin | hin
    · rw [List.getElem?_append_left (by omega)] at hi
      exact h2 i g' hi
    · rw [List.getElem?_append_right (by omega)] at hi
      have : i - l.length = 0 := by
        rcases Nat.eq_zero_or_pos (i - l.length) with h | h
        · exact h
        · rw [List.getElem?_eq_none (by simp; omega)] at hi; cases hi
      rw [this] at hi
      injection hi with hi
      subst hi
      have : i = n := by omega
      subst this
      exact hg
theorem rd_of_cells {α : Type} {w : World} {enc : α → List Value} {sz : Nat} (hsz : ∀ x, (enc x).length = sz) (h0 : 0 < sz) {p : Addr} {l : List α}
    (h : ∀ i g, l[i]? = some g → ∀ j v, (enc g)[j]? = some v → w.cell? (p.add (i * sz + j)) = some v) : ∃ E, Rd w w.heap.size E enc (some p) l := by
  by_cases hl : l = []
  · subst hl; exact ⟨0, Rd.nil _ _ _ _ _⟩
  · obtain ⟨g0, l', rfl⟩ := List.exists_cons_of_ne_nil hl
    obtain ⟨v0, hv0⟩ : ∃ v, (enc g0)[0]? = some v := ⟨_, List.getElem?_eq_getElem (by rw [hsz]; exact h0)⟩
    have hc := h 0 g0 rfl 0 v0 hv0
    obtain ⟨b, off, spot⟩ := p
    have hb := cell_lt hc
    rw [addr_block] at hb
    have hsp : spot = none := by
      cases spot with
      | none => rfl
      | some s => simp [World.cell?, Addr.add] at hc; split at hc <;> simp_all
    subst hsp
    have hobj : ∃ cs E fz, w.heap[b]? = some (.cells cs E fz) := by
      rw [addr_off] at hc
      simp only [World.cell?] at hc
      split at hc
      · rename_i c E fz hh; exact ⟨c, E, fz, hh⟩
      · cases hc
    obtain ⟨cs, E, fz, hh⟩ := hobj
    refine ⟨E, fun _ => ⟨b, off, cs, fz, rfl, hb, hh, fun j v hj => ?_⟩⟩
    have hjl : j < ((g0 :: l').flatMap enc).length := (List.getElem?_eq_some_iff.1 hj).1
    rw [length_flatMap_enc hsz] at hjl
    obtain ⟨x, hx, h1⟩ := flatMap_idx hsz hjl
    rw [h1] at hj
    have := h _ _ hx _ _ hj
    rw [addr_off, show j / sz * sz + j % sz = j from by rw [Nat.mul_comm]; exact Nat.div_add_mod j sz] at this
    simpa [World.cell?, hh] using this
section
variable {H : Type} {enc : TypeId × Value → H} {w : World} {base fuel : Nat} {spare : Nat → Bool} {held : Bool}
theorem list3 {α : Type} {l : List α} (h : l.length = 3) : ∃ a b c, l = [a, b, c] := by
  match l, h with
  | [a, b, c], _ => exact ⟨a, b, c, rfl⟩
theorem cells134 : Tryz.prog.cellsOf 134 = 3 := by kernel_rfl
theorem cells3 : Tryz.prog.cellsOf 3 = 1 := by kernel_rfl
theorem trod_gate {cs : List Value} {x : DataW H × List MemPlace} (h : DataW.trod enc Tryz.prog w base spare held fuel 134 cs = some x) : ∃ g : Gt, cs = encG g := by
  obtain ⟨y0, y1, y2, n, _, hl, h0, h1, h2⟩ := trod_struct3 Tryz.underlying134 h
  rw [cells134] at hl
  obtain ⟨c0, c1, c2, rfl⟩ := list3 hl
  simp only [cells3] at h0 h1 h2
  obtain ⟨a, e0, _⟩ := DataW.trod_int Tryz.underlying3 h0
  obtain ⟨b, e1, _⟩ := DataW.trod_int Tryz.underlying3 h1
  obtain ⟨c, e2, _⟩ := DataW.trod_int Tryz.underlying3 h2
  simp at e0 e1 e2
  exact ⟨⟨a, b, c⟩, by rw [e0, e1, e2]; rfl⟩
set_option maxRecDepth 100000 in
theorem open_gates {cs : List Value} {x : DataW H × List MemPlace} (h : DataW.trod enc Tryz.prog w base spare held fuel 22 cs = some x) (hsp : ∀ b, spare b = true) :
    ∃ A l c E, cs = [.slice A l.length c] ∧ Rd w w.heap.size E encG A l ∧ l.length ≤ 9223372036854775807 := by
  rcases open_slice Tryz.underlying22 h with ⟨hcs, _⟩ | ⟨a, len, cap, m, n, D, Pl, hcs, hb, hl, hm, hmm, _, hi⟩
  · exact ⟨none, [], 0, 0, hcs, Rd.nil _ _ _ _ _, by simp⟩
  · rw [cells134] at hi
    have hlm : len ≤ m := by rw [hmm, hsp]; simpa using hl
    obtain ⟨l, h1, h2⟩ := list_of (n := len) (Q := fun i g => ∀ j v, (encG g)[j]? = some v → w.cell? (a.add (i * 3 + j)) = some v) fun i hilt => by
      obtain ⟨cs', hc, ht⟩ := hi i (by omega)
      obtain ⟨g, rfl⟩ := trod_gate ht
      obtain ⟨_, _, hat⟩ := World.cells?_some hc
      refine ⟨g, fun j v hj => ?_⟩
      have hj3 : j < 3 := by have := (List.getElem?_eq_some_iff.1 hj).1; simpa [encG] using this
      rw [← addr_add_add, hat j hj3]
      exact hj
    obtain ⟨E, hr⟩ := rd_of_cells encG_len (by decide) h2
    refine ⟨some a, l, cap, E, by rw [hcs, h1], hr, ?_⟩
    simp only [maxLen] at hm
    omega
end
end Go.Proofs.YtfgnmflfiobkmaaGreat
namespace Go.Proofs.YtfgnmflfiobkmaaGreat
open Go.RowKit Go.ChangeShapes Go.WideShapes Go.Deep Go.Joins
section
variable {H : Type} {enc : TypeId × Value → H} {w : World} {base fuel : Nat} {spare : Nat → Bool} {held : Bool}
theorem cells22 : Tryz.prog.cellsOf 22 = 1 := by kernel_rfl
theorem cells35 : Tryz.prog.cellsOf 35 = 2 := by kernel_rfl
set_option maxRecDepth 100000 in
theorem open_circuit {cs : List Value} {x : DataW H × List MemPlace} (h : DataW.trod enc Tryz.prog w base spare held fuel 35 cs = some x) (hsp : ∀ b, spare b = true) :
    ∃ (c : Cx) (A : Option Addr) (k : Nat) (E : TypeId), cs = [.int .i64 c.n, .slice A c.gs.length k] ∧ Rd w w.heap.size E encG A c.gs ∧ c.gs.length ≤ 9223372036854775807 := by
  obtain ⟨y0, y1, n, _, hl, h0, h1⟩ := trod_struct2 Tryz.underlying35 h
  rw [cells35] at hl
  match cs, hl with
  | [c0, c1], _ =>
    simp only [cells3] at h0
    simp only [cells22] at h1
    obtain ⟨a, e0, _⟩ := DataW.trod_int Tryz.underlying3 h0
    obtain ⟨A, l, c, E1, e1, hr1, hl1⟩ := open_gates h1 hsp
    simp at e0 e1
    exact ⟨⟨a, l⟩, A, c, E1, by rw [e0, e1], hr1, hl1⟩
end
end Go.Proofs.YtfgnmflfiobkmaaGreat
namespace Go.Proofs.YtfgnmflfiobkmaaGreat
open Go.RowKit Go.ChangeShapes Go.WideShapes Go.Deep Go.Joins
section
variable {H : Type} {enc : TypeId × Value → H} {w : World} {base fuel : Nat} {spare : Nat → Bool} {held : Bool}
end
end Go.Proofs.YtfgnmflfiobkmaaGreat
namespace Go.Proofs.YtfgnmflfiobkmaaGreat
open Go.ChangeShapes Go.WideShapes Go.ChangeAt Go.RowKit Go.Deep Go.Joins
set_option linter.unusedVariables false
theorem own : ownKnob Tryz.prog.godebug = none := by kernel_rfl
theorem laidOut : laidOutB Tryz.prog = true := by kernel_rfl
section
variable {H : Type} {enc : TypeId × Value → H} {P : Program}
theorem post_below {f : Func} {s : ChangeSpec} {fresh handsOn : Bool} {W W' : World} {args : Array Value} {v : Value} {ds gs : List (DataW H)} {before pa pv : List MemPlace}
    (hW : DataW.Whole enc P f.params.toList s.vars false W args.toList ds gs before)
    (hres : ∀ (b : Nat) (sp : Nat → Bool) (hd : Bool), DataW.TrodAll enc P W' b sp hd f.resultTypes.toList (v.resultList f.resultTypes.size) (s.fn H (ds ++ gs)).results [])
    (hargs : ∀ sp : Nat → Bool, (∀ p ∈ before, sp p.block = true) → DataW.TrodAll enc P W' 0 sp true f.params.toList args.toList (s.fn H (ds ++ gs)).args pa)
    (hvars : ∀ sp : Nat → Bool, (∀ p ∈ before, sp p.block = true) → DataW.TrodVars enc P W' sp s.vars (s.fn H (ds ++ gs)).vars pv)
    (hps : before = pa ++ pv) (hb : Below W.heap.size W W') :
    s.post enc P f false fresh handsOn false W args v W' := by
  have hlt : ∀ p ∈ before, p.block < W.heap.size := fun p hp => hW.lt p hp
  have hold : ∀ p ∈ before, (fun b => decide (b < W.heap.size)) p.block = true := fun p hp => by simpa using hlt p hp
  refine ⟨ds, gs, before, [], pa, pv, hW, hres _ _ _, hargs _ hold, hvars _ hold, World.keptBut_mono (fun p hp => ⟨hp, ?_⟩) (hb.frame (· ∈ before)), fun h => by cases h⟩
  rw [hps, List.mem_append] at hp
  exact Or.inr hp
end
set_option maxRecDepth 100000 in
theorem open_circ {H : Type} {enc : TypeId × Value → H} {w : World} {base b0 : Nat} {spare : Nat → Bool} {held : Bool} {r : Reach} {v : Value} {d : DataW H} {p : List MemPlace} (hv : Value.okWide Tryz.prog w r b0 35 v) (h : DataW.Trod enc Tryz.prog w base spare held 35 v d p) (hsp : ∀ b, spare b = true) :
    ∃ (c : Cx) (A : Option Addr) (k : Nat) (E : TypeId), v = .agg #[.int .i64 c.n, .slice A c.gs.length k] ∧ Rd w w.heap.size E encG A c.gs ∧ c.gs.length ≤ 9223372036854775807 := by
  obtain ⟨⟨cs⟩, rfl, hsz⟩ := okWide_struct Tryz.underlying35 hv
  obtain ⟨fuel, hf⟩ := h
  obtain ⟨c, A, k, E, e0, hr, hl⟩ := open_circuit hf hsp
  simp [Value.cells] at e0
  exact ⟨c, A, k, E, by rw [e0], hr, hl⟩
end Go.Proofs.YtfgnmflfiobkmaaGreat
namespace Go.Proofs.YtfgnmflfiobkmaaGreat
open Go.ChangeShapes Go.WideShapes Go.ChangeAt Go.RowKit Go.Deep Go.Joins
set_option linter.unusedVariables false
set_option maxRecDepth 100000 in
theorem schedof_lifted (os : Os) (started : os.Started) (H : Type) (enc : TypeId × Value → H) :
    ReturnsInHanded {} Tryz.checked os 5 .any (Rows.fnExactScheduleOfSpec.pre6 enc Tryz.prog Tryz.f5 Rows.fnExactScheduleOfRow.domain false) (Rows.fnExactScheduleOfSpec.post enc Tryz.prog Tryz.f5 false true false false) := by
  refine returnsInHanded_of_change (C := Tryz.checked) own started (by kernel_rfl) Tryz.func5
    (ChangeSpec.witness6 (enc := enc) (C := Tryz.checked) false ⟨#[], #[.agg #[.int .i64 0, .slice none 0 0]], []⟩ 8 (by kernel_rfl) (by kernel_rfl) (by kernel_rfl) (by kernel_rfl)) ?_
  intro W base args ds gs before hval0 hW hcnd _
  have hval : ∀ (j : Nat) t v, Tryz.f5.params[j]? = some t → args[j]? = some v → Value.okWide Tryz.prog W .any base t v := hval0
  have hW' := hW
  obtain ⟨p, q, hA0, hV, rfl, hfz, hnd⟩ := hW
  have hA : DataW.TrodAll enc Tryz.prog W 0 (fun _ => true) true Tryz.f5.params.toList args.toList ds p := hA0
  rw [Tryz.params5] at hA hval
  obtain ⟨v0, d0, rfl, rfl, h0⟩ := trodAll_one hA
  obtain ⟨rfl, rfl⟩ := trodVars_none hV
  have h0k := h0
  obtain ⟨c, A, i, E, rfl, hr0, hl0⟩ := open_circ (hval 0 35 v0 rfl rfl) h0 (fun _ => rfl)
  clear hA0 hval0
  simp only [List.append_nil] at hW'
  have hlt : ∀ x ∈ p, x.block < W.heap.size := fun x hx => hW'.lt x (by simpa using hx)
  refine Calls.mono (F5 W c A i hr0 hl0) fun r W' ⟨v, he, hv, hb⟩ => ?_
  subst hv
  refine ⟨_, he, post_below (pa := p) (pv := []) hW' (fun _ _ _ => trodAll_mk1 (shut_bool Tryz.underlying4 true)) (fun sp hsp => ?_) (fun _ _ => rfl) (by simp) hb⟩
  exact trodAll_mk1 (WideElems.Trod_stays laidOut (by kernel_rfl) (of_decide_eq_true (by kernel_rfl)) h0k (fun x hx => hb.same (hlt x hx)) (fun x hx => hsp x (by simpa using hx)))
theorem schedof_holds : Rows.FnExactScheduleOfSaid :=
  OpenClaim.holds_of_wide 5 Tryz.f5 rfl rfl rfl rfl rfl rfl rfl ⟨rfl, rfl, rfl, rfl, rfl⟩ rfl rfl rfl rfl rfl (by kernel_rfl) Tryz.func5 (by kernel_rfl)
    (of_decide_eq_true (by kernel_rfl)) (by unfold Func.isWrapper; first | (rw [if_pos (by decide +kernel)]; kernel_rfl) | (rw [if_neg (by decide +kernel)]; exact ⟨rfl, rfl⟩))
    (fun os started H enc _ => schedof_lifted os started H enc)
end Go.Proofs.YtfgnmflfiobkmaaGreat
