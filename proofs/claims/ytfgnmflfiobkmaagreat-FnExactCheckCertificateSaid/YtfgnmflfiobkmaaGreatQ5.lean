/-
  What is proved: for every certificate, the program's CheckCertificate answers as the reference's does and leaves the certificate as it was. Conditions: none.
-/
import Derived.Test.YtfgnmflfiobkmaaGreatQ4
set_option linter.unusedVariables false
set_option linter.unusedSimpArgs false
set_option maxRecDepth 4000
namespace Go.Proofs.YtfgnmflfiobkmaaGreat
open Go.RowKit
theorem F171 (w0 : World) (bV : Nat) (f : Bool) (hBV : Blk w0 bV 194 [.bool f]) (c : Cx) (Ac : Option Addr) (cc : Nat) (hr_c : Rd w0 w0.heap.size 107 encG Ac c.gs) (m : Mx) (Am : Option Addr) (cm : Nat) (hr_m : Rd w0 w0.heap.size 189 encD Am m.cells) (hc : cOk c = true) (hm : mOk m = true) (hr : m.rows = ((2 ^ c.n.toNat : Nat) : Int)) : Ret Tryz.prog 171 [.pointer (some ⟨bV, 0, none⟩), .agg #[.int .i64 c.n, .slice Ac c.gs.length cc], .agg #[.int .i64 m.rows, .int .i64 m.cols, .slice Am m.cells.length cm]] w0 (fun v w => ∃ A c1, v = mV A c1 ((runS c.n f c.gs m).2) ∧ Rd w w.heap.size 189 encD A ((runS c.n f c.gs m).2).cells ∧ Kept bV w0.heap.size w0 w ∧ Blk w bV 194 [.bool ((runS c.n f c.gs m).1)]) := by
 have hltV := hBV.lt
 obtain ⟨hn, hlen, hgs⟩ := cOk_spec hc
 refine enter Tryz.func171 rfl 30 rfl rfl ?_
 intro a hf
 have hW : Kept bV w0.heap.size w0 w0 := Kept.refl _ _ _
 refine wp_seq_k ?_; intro K3 hK3
 refine wp_region_lit ?_
 refine l_f hf rfl (ef_box (zs := [.int .i64 c.n, .slice Ac c.gs.length cc]) hf rfl rfl) ?_; rintro a _ w1 ⟨b4, rfl, hl4, hE, hB4⟩ hf
 have hlo4 := Nat.le_trans hW.size hl4
 replace hBV := hBV.below hE
 replace hr_c := hr_c.below hE
 replace hr_m := hr_m.below hE
 replace hW := ktr hW hE
 clear hE
 refine l_f hf rfl (ef_box (zs := [.int .i64 m.rows, .int .i64 m.cols, .slice Am m.cells.length cm]) hf rfl rfl) ?_; rintro a _ w2 ⟨b5, rfl, hl5, hE, hB5⟩ hf
 have hlo5 := Nat.le_trans hW.size hl5
 replace hBV := hBV.below hE
 replace hB4 := hB4.below hE
 replace hr_c := hr_c.below hE
 replace hr_m := hr_m.below hE
 replace hW := ktr hW hE
 clear hE
 refine l_f hf rfl (ef_alloc (zs := [.int .i64 0, .int .i64 0, .slice none 0 0]) z_141 rfl) ?_; rintro a _ w3 ⟨b7, rfl, hl7, hE, hB7⟩ hf
 have hne5_7 : b5 ≠ b7 := by have := hB5.lt; omega
 have hlo7 := Nat.le_trans hW.size hl7
 replace hBV := hBV.below hE
 replace hB4 := hB4.below hE
 replace hB5 := hB5.below hE
 replace hr_c := hr_c.below hE
 replace hr_m := hr_m.below hE
 replace hW := ktr hW hE
 clear hE
 refine wpList_nil ?_
 refine hK3 _ _ ?_; try clear hK3 K3
 refine wp_seq_k ?_; intro K8 hK8
 refine wp_seq_k ?_; intro K9 hK9
 refine wp_region_lit ?_
 refine l_e hf rfl (ev_fieldB hf rfl fd_41_1 (m := 1) rfl) ?_; intro a hf
 refine l_e hf rfl (ev_load1 hf rfl t1_28 (hB4.at 1)) ?_; intro a hf
 refine l_e hf rfl (ev_len hf rfl sl_28) ?_; intro a hf
 refine l_mv hf rfl rfl ?_; intro a hf
 refine wpList_nil ?_
 refine hK9 _ _ ?_; try clear hK9 K9
 refine wp_block ?_
 refine c_loop (σ := Nat × Mx × Bool) (fun (s : Nat × Mx × Bool) (a : Act) (w : World) => match s with | (k, x, f1) => ∃ A10 c10, Fr a 30 [(0, .pointer (some ⟨bV, 0, none⟩)), (4, .pointer (some ⟨b4, 0, none⟩)), (5, .pointer (some ⟨b5, 0, none⟩)), (6, .pointer (some ⟨b7, 0, none⟩)), (10, .slice Ac c.gs.length cc), (11, .int .i64 (c.gs.length : Int)), (12, .int .i64 (k : Int))] ∧ (runS c.n f1 (c.gs.drop k) x = runS c.n f c.gs m) ∧ (f1 = false → mOk x = true ∧ x.rows = ((2 ^ c.n.toNat : Nat) : Int)) ∧ (k ≤ c.gs.length) ∧ Blk w bV 194 [.bool f1] ∧ Blk w b4 41 [.int .i64 c.n, .slice Ac c.gs.length cc] ∧ Blk w b5 141 [.int .i64 x.rows, .int .i64 x.cols, .slice A10 x.cells.length c10] ∧ Blk w b7 141 [.int .i64 0, .int .i64 0, .slice none 0 0] ∧ Rd w w0.heap.size 107 encG Ac c.gs ∧ Rd w w.heap.size 189 encD A10 x.cells ∧ Kept bV w0.heap.size w0 w) (fun (s : Nat × Mx × Bool) => match s with | (k, x, f1) => c.gs.length - k) (0, m, f) ?_ ?_
 · exact ⟨Am, cm, hf.sub ⟨rfl, rfl, rfl, rfl, rfl, rfl, rfl, trivial⟩, rfl, (fun _ => ⟨hm, hr⟩), (Nat.zero_le _), hBV, hB4, hB5, hB7, hr_c, hr_m.top, hW⟩
 rintro ⟨k, x, f1⟩ a w4 ⟨A10, c10, hf, hinv, hok, hk, hBV, hB4, hB5, hB7, hr_c, hr10, hW⟩
 refine wp_seq_k ?_; intro K11 hK11
 refine wp_region_lit ?_
 refine l_e hf rfl (ev_lss hf rfl rfl) ?_; intro a hf
 refine wpList_nil ?_
 refine hK11 _ _ ?_; try clear hK11 K11
 refine wp_seq_k ?_; intro K12 hK12
 refine c_if hf rfl (fun hc13 => ?_) (fun hc13 => ?_)
 ·have hc13b := hc13
  have hc13 := of_decide_eq_true hc13
  obtain ⟨u14, hu14⟩ := getElem_ex (l := c.gs) (k := k) (by omega)
  have hgu := hgs u14 (List.mem_of_getElem? hu14)
  obtain ⟨hg1, hg2⟩ := gate_eq hgu
  have hdr := drop_get hu14
  refine wp_skip ?_
  refine hK12 _ _ ?_; try clear hK12 K12
  refine wp_seq_k ?_; intro K15 hK15
  refine wp_block ?_
  refine wp_seq_k ?_; intro K16 hK16
  refine wp_region_lit ?_
  refine l_index (k := k) (u := u14) (enc := encG) (l := c.gs) hf trivial rfl rfl rfl sl_28 sz_107 encG_len hr_c hu14 rfl ?_; intro a p18 hat17 hf
  refine l_e hf rfl (ev_loadN (l := [.int .i64 u14.k, .int .i64 u14.a, .int .i64 u14.b]) hf rfl tN_107 hat17 rfl) ?_; intro a hf
  refine l_f hf rfl (ef_alloc (zs := [.int .i64 0, .int .i64 0, .int .i64 0]) z_107 rfl) ?_; rintro a _ w5 ⟨b19, rfl, hl19, hE, hB19⟩ hf
  have hlo19 := Nat.le_trans hW.size hl19
  have haw1_19 := hr_c.away hl19
  replace hBV := hBV.below hE
  replace hB4 := hB4.below hE
  replace hB5 := hB5.below hE
  replace hB7 := hB7.below hE
  replace hr_c := hr_c.below hE
  replace hr10 := hr10.below hE
  replace hW := ktr hW hE
  clear hE
  refine l_f0 hf (ef_store (vs := [.int .i64 u14.k, .int .i64 u14.a, .int .i64 u14.b]) (l' := [.int .i64 u14.k, .int .i64 u14.a, .int .i64 u14.b]) hf rfl rfl sz_107 hB19 rfl rfl rfl rfl rfl) ?_; rintro a _ w6 ⟨ho, hb⟩ hf
  have hold := hB19
  replace hBV := hBV.only ho (Blk.ne hBV hold rfl)
  replace hB4 := hB4.only ho (Blk.ne hB4 hold rfl)
  replace hB5 := hB5.only ho (Blk.ne hB5 hold rfl)
  replace hB7 := hB7.only ho (Blk.ne hB7 hold rfl)
  replace hr_c := hr_c.only ho hlo19
  replace hr10 := hr10.onlyT ho hold rfl
  replace hW := Kept.only hW ho hlo19
  clear hold
  have hB19 := hb
  clear hb ho
  refine wpList_nil ?_
  refine hK16 _ _ ?_; try clear hK16 K16
  refine wp_seq_k ?_; intro K20 hK20
  refine wp_region_lit ?_
  refine l_mv hf rfl rfl ?_; intro a hf
  refine l_e hf rfl (ev_nil hf rfl) ?_; intro a hf
  refine l_e hf rfl (ev_fieldB hf rfl fd_194_0 (m := 0) rfl) ?_; intro a hf
  refine l_e hf rfl (ev_load1 hf rfl t1_4 (hBV.at 0)) ?_; intro a hf
  refine l_e hf rfl (ev_not hf rfl) ?_; intro a hf
  refine wpList_nil ?_
  refine hK20 _ _ ?_; try clear hK20 K20
  refine c_if hf rfl (fun hc21 => ?_) (fun hc21 => ?_)
  ·have hc21b := hc21
   have hb1 : f1 = false := by simpa using hc21
   have hma := mul_agree hg2 (hok hb1).1 (by rw [(hok hb1).2]; rfl)
   have hrn : runS c.n f1 (c.gs.drop k) x = runS c.n (timesS f1 (gateS c.n u14) x).1 (c.gs.drop (k + 1)) (timesS f1 (gateS c.n u14) x).2 := by rw [hb1, hdr, runS, if_neg (by decide)]
   refine wp_draw (some bV) (fun j => [7].contains j) mixed ?_
   intro w7 hE
   replace hBV := hBV.below hE
   replace hB4 := hB4.below hE
   replace hB5 := hB5.below hE
   replace hB7 := hB7.below hE
   replace hB19 := hB19.below hE
   replace hr_c := hr_c.below hE
   replace hr10 := hr10.below hE
   replace hW := ktr hW hE
   clear hE
   refine s_e0 0 rfl (by kernel_rfl) hf rfl (fun _ => ev_move hf rfl) ?_; intro a hf
   refine s_e0 1 rfl (by kernel_rfl) hf rfl (fun _ => ev_fieldB hf rfl fd_41_0 (m := 0) rfl) ?_; intro a hf
   refine s_evV 2 rfl (by kernel_rfl) (by kernel_rfl) hf trivial rfl rfl (fun w1 h1 => ev_load1 hf rfl t1_3 ((hB4.only h1 (Blk.ne hB4 hBV rfl)).at 0)) ?_; intro a hf
   refine s_evV 3 rfl (by kernel_rfl) (by kernel_rfl) hf trivial rfl rfl (fun w1 h1 => ev_loadN (l := [.int .i64 u14.k, .int .i64 u14.a, .int .i64 u14.b]) hf rfl tN_107 ((hB19.only h1 (Blk.ne hB19 hBV rfl)).at 0) rfl) ?_; intro a hf
   refine s_evV 5 rfl (by kernel_rfl) (by kernel_rfl) hf trivial rfl rfl (fun w1 h1 => ev_loadN (l := [.int .i64 x.rows, .int .i64 x.cols, .slice A10 x.cells.length c10]) hf rfl tN_141 ((hB5.only h1 (Blk.ne hB5 hBV rfl)).at 0) rfl) ?_; intro a hf
   refine s_one 4 (by kernel_rfl) ?_
   refine p_eff rfl hf trivial rfl rfl (Ef.mono (ef_call (vs := [.int .i64 c.n, .agg #[.int .i64 u14.k, .int .i64 u14.a, .int .i64 u14.b]]) hf rfl ff_143 (F143 _ c.n u14 hgu)) (fun _ _ h => ⟨fun _ => by obtain ⟨A22, c22, rfl, ho22, hE⟩ := h; exact Keep.of_below hE, h⟩)) ?_; rintro a _ w8 ⟨A22, c22, rfl, ho22, hE⟩ hf
   replace ho22 := ho22.lower hW.size
   replace hBV := hBV.below hE
   replace hB4 := hB4.below hE
   replace hB5 := hB5.below hE
   replace hB7 := hB7.below hE
   replace hB19 := hB19.below hE
   replace hr_c := hr_c.below hE
   replace hr10 := hr10.below hE
   replace hW := ktr hW hE
   clear hE
   refine s_one 6 (by kernel_rfl) ?_
   refine p_eff rfl hf trivial rfl rfl (Ef.mono (ef_call (vs := [.pointer (some ⟨bV, 0, none⟩), .agg #[.int .i64 ((gateS c.n u14).rows), .int .i64 ((gateS c.n u14).cols), .slice A22 ((gateS c.n u14).cells).length c22], .agg #[.int .i64 x.rows, .int .i64 x.cols, .slice A10 x.cells.length c10]]) hf rfl ff_146 (F146 _ bV f1 hBV (gateS c.n u14) A22 c22 ho22.rd.top x A10 c10 hr10.top hg2 (hok hb1).1 (by rw [(hok hb1).2]; rfl))) (fun _ _ h => ⟨fun _ => by obtain ⟨A23, c23, rfl, ho23, hK, hbn⟩ := h; exact hK.keep, h⟩)) ?_; rintro a _ w9 ⟨A23, c23, rfl, ho23, hK, hbn⟩ hf
   have hlv := hW.size
   obtain ⟨wm, hO, hm, hE⟩ := hK.mid; clear hm
   have hold := hBV
   replace hB4 := hB4.only hO (Blk.ne hB4 hold rfl)
   replace hB5 := hB5.only hO (Blk.ne hB5 hold rfl)
   replace hB7 := hB7.only hO (Blk.ne hB7 hold rfl)
   replace hB19 := hB19.only hO (Blk.ne hB19 hold rfl)
   replace hr_c := hr_c.onlyT hO hold rfl
   replace hr10 := hr10.onlyT hO hold rfl
   replace ho22 := ho22.onlyT hO hold rfl
   replace hW := hW.self hO
   replace hB4 := hB4.below hE
   replace hB5 := hB5.below hE
   replace hB7 := hB7.below hE
   replace hB19 := hB19.below hE
   replace hr_c := hr_c.below hE
   replace hr10 := hr10.below hE
   replace ho22 := ho22.below hE
   replace hW := ktr hW hE
   clear hold hE hO hK; replace hBV := hbn; clear hbn
   replace ho23 := ho23.lower hlv; clear hlv
   refine s_one 7 (by kernel_rfl) ?_
   refine p_eff0 rfl hf trivial rfl (Ef.mono (ef_store (vs := [.int .i64 (((timesS f1 (gateS c.n u14) x).2).rows), .int .i64 (((timesS f1 (gateS c.n u14) x).2).cols), .slice A23 (((timesS f1 (gateS c.n u14) x).2).cells).length c23]) (l' := [.int .i64 (((timesS f1 (gateS c.n u14) x).2).rows), .int .i64 (((timesS f1 (gateS c.n u14) x).2).cols), .slice A23 (((timesS f1 (gateS c.n u14) x).2).cells).length c23]) hf rfl rfl sz_141 hB5 rfl rfl rfl rfl rfl) (fun _ _ h => ⟨fun h0 => absurd h0 (by decide), h⟩)) ?_; rintro a _ w10 ⟨ho, hb⟩ hf
   have hold := hB5
   replace hBV := hBV.only ho (Blk.ne hBV hold rfl)
   replace hB4 := hB4.only ho (Blk.ne hB4 hold rfl)
   replace hB7 := hB7.only ho (by omega)
   replace hB19 := hB19.only ho (Blk.ne hB19 hold rfl)
   replace hr_c := hr_c.onlyT ho hold rfl
   replace hr10 := hr10.onlyT ho hold rfl
   replace ho22 := ho22.onlyT ho hold rfl
   replace ho23 := ho23.onlyT ho hold rfl
   replace hW := Kept.only hW ho hlo5
   clear hold
   have hB5 := hb
   clear hb ho
   refine s_done (by kernel_rfl) ?_
   refine x_norm ?_
   refine hK15 _ _ ?_; try clear hK15 K15
   refine wp_region_lit ?_
   refine l_e hf rfl (ev_addx hf rfl rfl (by omega) (by omega)) ?_; intro a hf
   refine l_mv hf rfl rfl ?_; intro a hf
   refine wpList_nil ?_
   refine x_thenN ?_
   exact ⟨(k + 1, (timesS f1 (gateS c.n u14) x).2, (timesS f1 (gateS c.n u14) x).1), ⟨A23, c23, hf.sub ⟨rfl, rfl, rfl, rfl, rfl, rfl, rfl, trivial⟩, (by rw [← hinv, hrn]), (by rw [hb1]; intro h0; cases h1 : mulI (gateS c.n u14) x with | none => rw [hma.2 h1] at h0; cases h0 | some x1 => rw [(hma.1 x1 h1).1]; exact ⟨(hma.1 x1 h1).2.1, by rw [(hma.1 x1 h1).2.2.1]; rfl⟩), (by omega), hBV, hB4, hB5, hB7, hr_c, ho23.rd, hW⟩, (by first | omega | (dsimp only; omega))⟩
  ·have hc21b := hc21
   have hb1 : f1 = true := by simpa using hc21
   have hrn : runS c.n f1 (c.gs.drop k) x = runS c.n f1 (c.gs.drop (k + 1)) x := by rw [hb1, runS_true, runS_true]
   refine wp_skip ?_
   refine x_norm ?_
   refine hK15 _ _ ?_; try clear hK15 K15
   refine wp_region_lit ?_
   refine l_e hf rfl (ev_addx hf rfl rfl (by omega) (by omega)) ?_; intro a hf
   refine l_mv hf rfl rfl ?_; intro a hf
   refine wpList_nil ?_
   refine x_thenN ?_
   exact ⟨(k + 1, x, f1), ⟨A10, c10, hf.sub ⟨rfl, rfl, rfl, rfl, rfl, rfl, rfl, trivial⟩, (by rw [← hinv, hrn]), (fun h0 => by rw [hb1] at h0; cases h0), (by omega), hBV, hB4, hB5, hB7, hr_c, hr10.top, hW⟩, (by first | omega | (dsimp only; omega))⟩
 ·have hc13b := hc13
  have hc13 := of_decide_eq_false hc13
  refine wp_exit ?_
  refine x_exS ?_
  refine x_exS ?_
  refine x_exit ?_
  refine hK8 _ _ ?_; try clear hK8 K8
  refine wp_seq_k ?_; intro K24 hK24
  refine wp_region_lit ?_
  refine l_e hf rfl (ev_loadN (l := [.int .i64 x.rows, .int .i64 x.cols, .slice A10 x.cells.length c10]) hf rfl tN_141 (hB5.at 0) rfl) ?_; intro a hf
  refine l_f0 hf (ef_store (vs := [.int .i64 x.rows, .int .i64 x.cols, .slice A10 x.cells.length c10]) (l' := [.int .i64 x.rows, .int .i64 x.cols, .slice A10 x.cells.length c10]) hf rfl rfl sz_141 hB7 rfl rfl rfl rfl rfl) ?_; rintro a _ w11 ⟨ho, hb⟩ hf
  have hold := hB7
  replace hBV := hBV.only ho (Blk.ne hBV hold rfl)
  replace hB4 := hB4.only ho (Blk.ne hB4 hold rfl)
  replace hB5 := hB5.only ho (by omega)
  replace hr_c := hr_c.onlyT ho hold rfl
  replace hr10 := hr10.onlyT ho hold rfl
  replace hW := Kept.only hW ho hlo7
  clear hold
  have hB7 := hb
  clear hb ho
  refine wpList_nil ?_
  refine hK24 _ _ ?_; try clear hK24 K24
  refine wp_ret ?_
  refine c_ret hf (res1 hf rfl (ResV.cellN (l := [.int .i64 x.rows, .int .i64 x.cols, .slice A10 x.cells.length c10]) rfl tN_141 (hB7.at 0) rfl)) ?_
  have hfin : runS c.n f c.gs m = (f1, x) := by rw [← hinv, List.drop_of_length_le (by omega)]; rfl
  rw [hfin]
  exact ⟨A10, c10, rfl, hr10.top, hW, hBV⟩
theorem F170 (w0 : World) (bV : Nat) (f : Bool) (hBV : Blk w0 bV 194 [.bool f]) (m : Mx) (Am : Option Addr) (cm : Nat) (hr_m : Rd w0 w0.heap.size 189 encD Am m.cells) : Ret Tryz.prog 170 [.pointer (some ⟨bV, 0, none⟩), .agg #[.int .i64 m.rows, .int .i64 m.cols, .slice Am m.cells.length cm]] w0 (fun v w => ∃ A c1, v = .tuple #[mV A c1 (if f = true then mZ else m), .bool (!f)] ∧ Rd w w.heap.size 189 encD A (if f = true then mZ else m).cells ∧ Kept bV w0.heap.size w0 w ∧ Blk w bV 194 [.bool f]) := by
 have hltV := hBV.lt
 refine enter Tryz.func170 rfl 12 rfl rfl ?_
 intro a hf
 have hW : Kept bV w0.heap.size w0 w0 := Kept.refl _ _ _
 refine wp_seq_k ?_; intro K2 hK2
 refine wp_region_lit ?_
 refine l_f hf rfl (ef_box (zs := [.int .i64 m.rows, .int .i64 m.cols, .slice Am m.cells.length cm]) hf rfl rfl) ?_; rintro a _ w1 ⟨b3, rfl, hl3, hE, hB3⟩ hf
 have hlo3 := Nat.le_trans hW.size hl3
 replace hBV := hBV.below hE
 replace hr_m := hr_m.below hE
 replace hW := ktr hW hE
 clear hE
 refine l_f hf rfl (ef_alloc (zs := [.int .i64 0, .int .i64 0, .slice none 0 0]) z_141 rfl) ?_; rintro a _ w2 ⟨b5, rfl, hl5, hE, hB5⟩ hf
 have hne3_5 : b3 ≠ b5 := by have := hB3.lt; omega
 have hlo5 := Nat.le_trans hW.size hl5
 replace hBV := hBV.below hE
 replace hB3 := hB3.below hE
 replace hr_m := hr_m.below hE
 replace hW := ktr hW hE
 clear hE
 refine l_as hf rfl rfl ?_; intro a hf
 refine wpList_nil ?_
 refine hK2 _ _ ?_; try clear hK2 K2
 refine wp_seq_k ?_; intro K6 hK6
 refine wp_seq_k ?_; intro K7 hK7
 refine wp_region_lit ?_
 refine l_mv hf rfl rfl ?_; intro a hf
 refine l_e hf rfl (ev_nil hf rfl) ?_; intro a hf
 refine l_e hf rfl (ev_fieldB hf rfl fd_194_0 (m := 0) rfl) ?_; intro a hf
 refine l_e hf rfl (ev_load1 hf rfl t1_4 (hBV.at 0)) ?_; intro a hf
 refine wpList_nil ?_
 refine hK7 _ _ ?_; try clear hK7 K7
 refine c_if hf rfl (fun hc8 => ?_) (fun hc8 => ?_)
 ·have hc8b := hc8
  have hb : f = true := hc8
  have hfin : (if f = true then mZ else m) = mZ := if_pos hb
  have hfi2 : (!f) = false := by rw [hb]; rfl
  refine wp_seq_k ?_; intro K9 hK9
  refine wp_region_lit ?_
  refine l_e hf rfl (ev_build (ps := []) (cs := [.int .i64 0, .int .i64 0, .slice none 0 0]) hf rfl (fun _ => by first | rfl | kernel_rfl)) ?_; intro a hf
  refine l_f0 hf (ef_store (vs := [.int .i64 0, .int .i64 0, .slice none 0 0]) (l' := [.int .i64 0, .int .i64 0, .slice none 0 0]) hf rfl rfl sz_141 hB5 rfl rfl rfl rfl rfl) ?_; rintro a _ w3 ⟨ho, hb⟩ hf
  have hold := hB5
  replace hBV := hBV.only ho (Blk.ne hBV hold rfl)
  replace hB3 := hB3.only ho (by omega)
  replace hr_m := hr_m.onlyT ho hold rfl
  replace hW := Kept.only hW ho hlo5
  clear hold
  have hB5 := hb
  clear hb ho
  refine l_as hf rfl rfl ?_; intro a hf
  refine wpList_nil ?_
  refine hK9 _ _ ?_; try clear hK9 K9
  refine wp_ret ?_
  refine x_retS ?_
  refine c_ret hf (res2 hf rfl (ResV.cellN (l := [.int .i64 0, .int .i64 0, .slice none 0 0]) rfl tN_141 (hB5.at 0) rfl) rfl) ?_
  rw [hfin, hfi2]
  exact ⟨none, 0, rfl, (Rd.nil _ 0 _ _ _).top, hW, hBV⟩
 ·have hc8b := hc8
  have hb : f = false := hc8
  have hfin : (if f = true then mZ else m) = m := if_neg (by rw [hb]; simp)
  have hfi2 : (!f) = true := by rw [hb]; rfl
  refine wp_skip ?_
  refine hK6 _ _ ?_; try clear hK6 K6
  refine wp_seq_k ?_; intro K11 hK11
  refine wp_region_lit ?_
  refine l_e hf rfl (ev_loadN (l := [.int .i64 m.rows, .int .i64 m.cols, .slice Am m.cells.length cm]) hf rfl tN_141 (hB3.at 0) rfl) ?_; intro a hf
  refine l_f0 hf (ef_store (vs := [.int .i64 m.rows, .int .i64 m.cols, .slice Am m.cells.length cm]) (l' := [.int .i64 m.rows, .int .i64 m.cols, .slice Am m.cells.length cm]) hf rfl rfl sz_141 hB5 rfl rfl rfl rfl rfl) ?_; rintro a _ w4 ⟨ho, hb⟩ hf
  have hold := hB5
  replace hBV := hBV.only ho (Blk.ne hBV hold rfl)
  replace hB3 := hB3.only ho (by omega)
  replace hr_m := hr_m.onlyT ho hold rfl
  replace hW := Kept.only hW ho hlo5
  clear hold
  have hB5 := hb
  clear hb ho
  refine l_as hf rfl rfl ?_; intro a hf
  refine wpList_nil ?_
  refine hK11 _ _ ?_; try clear hK11 K11
  refine wp_ret ?_
  refine c_ret hf (res2 hf rfl (ResV.cellN (l := [.int .i64 m.rows, .int .i64 m.cols, .slice Am m.cells.length cm]) rfl tN_141 (hB5.at 0) rfl) rfl) ?_
  rw [hfin, hfi2]
  exact ⟨Am, cm, rfl, hr_m.top, hW, hBV⟩
theorem F129 (w0 : World) (c : Cx) (Ac : Option Addr) (cc : Nat) (hr_c : Rd w0 w0.heap.size 107 encG Ac c.gs) : Ret Tryz.prog 129 [.agg #[.int .i64 c.n, .slice Ac c.gs.length cc]] w0 (fun v w => ∃ A c1, v = .tuple #[mV A c1 ((opS c).getD mZ), .bool (opS c).isSome] ∧ Rd w w.heap.size 189 encD A ((opS c).getD mZ).cells ∧ Below w0.heap.size w0 w) := by
 refine enter Tryz.func129 rfl 23 rfl rfl ?_
 intro a hf
 have hW : Below w0.heap.size w0 w0 := Below.refl _ _
 refine wp_seq_k ?_; intro K2 hK2
 refine wp_region_lit ?_
 refine l_f hf rfl (ef_box (zs := [.int .i64 c.n, .slice Ac c.gs.length cc]) hf rfl rfl) ?_; rintro a _ w1 ⟨b3, rfl, hl3, hE, hB3⟩ hf
 have hlo3 := Nat.le_trans hW.size hl3
 replace hr_c := hr_c.below hE
 replace hW := btr hW hE
 clear hE
 refine l_f hf rfl (ef_alloc (zs := [.int .i64 0, .int .i64 0, .slice none 0 0]) z_141 rfl) ?_; rintro a _ w2 ⟨b5, rfl, hl5, hE, hB5⟩ hf
 have hlo5 := Nat.le_trans hW.size hl5
 replace hB3 := hB3.below hE
 replace hr_c := hr_c.below hE
 replace hW := btr hW hE
 clear hE
 refine l_as hf rfl rfl ?_; intro a hf
 refine wpList_nil ?_
 refine hK2 _ _ ?_; try clear hK2 K2
 refine wp_seq_k ?_; intro K6 hK6
 refine wp_seq_k ?_; intro K7 hK7
 refine wp_region_lit ?_
 refine l_e hf rfl (ev_loadN (l := [.int .i64 c.n, .slice Ac c.gs.length cc]) hf rfl tN_41 (hB3.at 0) rfl) ?_; intro a hf
 refine l_f hf rfl (ef_call (vs := [.agg #[.int .i64 c.n, .slice Ac c.gs.length cc]]) hf rfl ff_53 (F53 _ c Ac cc hr_c.top)) ?_; rintro a _ w3 ⟨rfl, hE⟩ hf
 replace hB3 := hB3.below hE
 replace hB5 := hB5.below hE
 replace hr_c := hr_c.below hE
 replace hW := btr hW hE
 clear hE
 refine l_e hf rfl (ev_not hf rfl) ?_; intro a hf
 refine wpList_nil ?_
 refine hK7 _ _ ?_; try clear hK7 K7
 refine c_if hf rfl (fun hc8 => ?_) (fun hc8 => ?_)
 ·have hc8b := hc8
  have hn : ¬ cOk c = true := by revert hc8; cases cOk c <;> simp
  refine wp_seq_k ?_; intro K9 hK9
  refine wp_region_lit ?_
  refine l_e hf rfl (ev_build (ps := []) (cs := [.int .i64 0, .int .i64 0, .slice none 0 0]) hf rfl (fun _ => by first | rfl | kernel_rfl)) ?_; intro a hf
  refine l_f0 hf (ef_store (vs := [.int .i64 0, .int .i64 0, .slice none 0 0]) (l' := [.int .i64 0, .int .i64 0, .slice none 0 0]) hf rfl rfl sz_141 hB5 rfl rfl rfl rfl rfl) ?_; rintro a _ w4 ⟨ho, hb⟩ hf
  have hold := hB5
  replace hB3 := hB3.only ho (Blk.ne hB3 hold rfl)
  replace hr_c := hr_c.onlyT ho hold rfl
  replace hW := Below.only hW ho hlo5
  clear hold
  have hB5 := hb
  clear hb ho
  refine l_as hf rfl rfl ?_; intro a hf
  refine wpList_nil ?_
  refine hK9 _ _ ?_; try clear hK9 K9
  refine wp_ret ?_
  refine x_retS ?_
  refine c_ret hf (res2 hf rfl (ResV.cellN (l := [.int .i64 0, .int .i64 0, .slice none 0 0]) rfl tN_141 (hB5.at 0) rfl) rfl) ?_
  have hfin : opS c = none := by rw [opS, if_neg hn]
  rw [hfin]
  exact ⟨none, 0, rfl, (Rd.nil _ 0 _ _ _).top, hW⟩
 ·have hc8b := hc8
  have hc : cOk c = true := by revert hc8; cases cOk c <;> simp
  obtain ⟨hn, hlen, hgs⟩ := cOk_spec hc
  obtain ⟨d, hd⟩ : ∃ d : Nat, d = 2 ^ c.n.toNat := ⟨_, rfl⟩
  refine wp_skip ?_
  refine hK6 _ _ ?_; try clear hK6 K6
  refine wp_seq_k ?_; intro K11 hK11
  refine wp_region_lit ?_
  refine l_e hf rfl (ev_build (ps := []) (cs := [.bool false]) hf rfl (fun _ => by first | rfl | kernel_rfl)) ?_; intro a hf
  refine l_f hf rfl (ef_box (zs := [.bool false]) hf rfl rfl) ?_; rintro a _ w5 ⟨b12, rfl, hl12, hE, hB12⟩ hf
  have hlo12 := Nat.le_trans hW.size hl12
  replace hB3 := hB3.below hE
  replace hB5 := hB5.below hE
  replace hr_c := hr_c.below hE
  replace hW := btr hW hE
  clear hE
  refine l_as hf rfl rfl ?_; intro a hf
  refine wpList_nil ?_
  refine hK11 _ _ ?_; try clear hK11 K11
  refine wp_seq_k ?_; intro K13 hK13
  refine wp_draw (some b12) (fun j => [12].contains j) mixed ?_
  intro w6 hE
  replace hB3 := hB3.below hE
  replace hB5 := hB5.below hE
  replace hB12 := hB12.below hE
  replace hr_c := hr_c.below hE
  replace hW := btr hW hE
  clear hE
  refine s_e0 0 rfl (by kernel_rfl) hf rfl (fun _ => ev_move hf rfl) ?_; intro a hf
  refine s_e0 1 rfl (by kernel_rfl) hf rfl (fun _ => ev_move hf rfl) ?_; intro a hf
  refine s_evV 2 rfl (by kernel_rfl) (by kernel_rfl) hf trivial rfl rfl (fun w1 h1 => ev_loadN (l := [.int .i64 c.n, .slice Ac c.gs.length cc]) hf rfl tN_41 ((hB3.only h1 (Blk.ne hB3 hB12 rfl)).at 0) rfl) ?_; intro a hf
  refine s_e0 3 rfl (by kernel_rfl) hf rfl (fun _ => ev_fieldB hf rfl fd_41_0 (m := 0) rfl) ?_; intro a hf
  refine s_evV 4 rfl (by kernel_rfl) (by kernel_rfl) hf trivial rfl rfl (fun w1 h1 => ev_load1 hf rfl t1_3 ((hB3.only h1 (Blk.ne hB3 hB12 rfl)).at 0)) ?_; intro a hf
  refine s_e0 5 rfl (by kernel_rfl) hf rfl (fun _ => ev_toU (m := c.n.toNat) Tryz.underlying3 Tryz.underlying181 hf rfl (by omega) (by omega)) ?_; intro a hf
  refine s_e0 6 rfl (by kernel_rfl) hf rfl (fun _ => ev_shl1 (m := c.n.toNat) (D := d) hf rfl rfl rfl ⟨hd, by omega⟩) ?_; intro a hf
  refine s_one 7 (by kernel_rfl) ?_
  refine p_eff rfl hf trivial rfl rfl (Ef.mono (ef_call (vs := [.int .i64 (d : Int)]) hf rfl ff_172 (F172 _ d (by rw [hd]; exact pow_le32 hn.2))) (fun _ _ h => ⟨fun _ => by obtain ⟨A14, c14, rfl, ho14, hE⟩ := h; exact Keep.of_below hE, h⟩)) ?_; rintro a _ w7 ⟨A14, c14, rfl, ho14, hE⟩ hf
  replace ho14 := ho14.lower hW.size
  replace hB3 := hB3.below hE
  replace hB5 := hB5.below hE
  replace hB12 := hB12.below hE
  replace hr_c := hr_c.below hE
  replace hW := btr hW hE
  clear hE
  refine s_one 8 (by kernel_rfl) ?_
  refine p_eff rfl hf trivial rfl rfl (Ef.mono (ef_call (vs := [.pointer (some ⟨b12, 0, none⟩), .agg #[.int .i64 c.n, .slice Ac c.gs.length cc], .agg #[.int .i64 ((unitS d).rows), .int .i64 ((unitS d).cols), .slice A14 ((unitS d).cells).length c14]]) hf rfl ff_171 (F171 _ b12 false hB12 c Ac cc hr_c.top (unitS d) A14 c14 ho14.rd.top hc (idI_unit (by rw [hd]; exact isDim_pow hn)).2 (by rw [← hd]; rfl))) (fun _ _ h => ⟨fun _ => by obtain ⟨A15, c15, rfl, hr15, hK, hbn⟩ := h; exact hK.keep, h⟩)) ?_; rintro a _ w8 ⟨A15, c15, rfl, hr15, hK, hbn⟩ hf
  obtain ⟨wm, hO, hm, hE⟩ := hK.mid; clear hm
  have hold := hB12
  replace hB3 := hB3.only hO (Blk.ne hB3 hold rfl)
  replace hB5 := hB5.only hO (Blk.ne hB5 hold rfl)
  replace hr_c := hr_c.onlyT hO hold rfl
  replace ho14 := ho14.onlyT hO hold rfl
  replace hW := Below.only hW hO hlo12
  replace hB3 := hB3.below hE
  replace hB5 := hB5.below hE
  replace hr_c := hr_c.below hE
  replace ho14 := ho14.below hE
  replace hW := btr hW hE
  clear hold hE hO hK; replace hB12 := hbn; clear hbn
  refine s_one 9 (by kernel_rfl) ?_
  refine p_eff rfl hf trivial rfl rfl (Ef.mono (ef_call (vs := [.pointer (some ⟨b12, 0, none⟩), .agg #[.int .i64 (((runS c.n false c.gs (unitS d)).2).rows), .int .i64 (((runS c.n false c.gs (unitS d)).2).cols), .slice A15 (((runS c.n false c.gs (unitS d)).2).cells).length c15]]) hf rfl ff_170 (F170 _ b12 ((runS c.n false c.gs (unitS d)).1) hB12 ((runS c.n false c.gs (unitS d)).2) A15 c15 hr15.top)) (fun _ _ h => ⟨fun _ => by obtain ⟨A16, c16, rfl, hr16, hK, hbn⟩ := h; exact hK.keep, h⟩)) ?_; rintro a _ w9 ⟨A16, c16, rfl, hr16, hK, hbn⟩ hf
  obtain ⟨wm, hO, hm, hE⟩ := hK.mid; clear hm
  have hold := hB12
  replace hB3 := hB3.only hO (Blk.ne hB3 hold rfl)
  replace hB5 := hB5.only hO (Blk.ne hB5 hold rfl)
  replace hr_c := hr_c.onlyT hO hold rfl
  replace ho14 := ho14.onlyT hO hold rfl
  replace hr15 := hr15.onlyT hO hold rfl
  replace hW := Below.only hW hO hlo12
  replace hB3 := hB3.below hE
  replace hB5 := hB5.below hE
  replace hr_c := hr_c.below hE
  replace ho14 := ho14.below hE
  replace hr15 := hr15.below hE
  replace hW := btr hW hE
  clear hold hE hO hK; replace hB12 := hbn; clear hbn
  refine s_e0 10 rfl (by kernel_rfl) hf rfl (fun _ => ev_extract (vs := [.agg #[.int .i64 ((if ((runS c.n false c.gs (unitS d)).1) = true then mZ else ((runS c.n false c.gs (unitS d)).2)).rows), .int .i64 ((if ((runS c.n false c.gs (unitS d)).1) = true then mZ else ((runS c.n false c.gs (unitS d)).2)).cols), .slice A16 ((if ((runS c.n false c.gs (unitS d)).1) = true then mZ else ((runS c.n false c.gs (unitS d)).2)).cells).length c16], .bool (!((runS c.n false c.gs (unitS d)).1))]) hf rfl rfl) ?_; intro a hf
  refine s_e0 11 rfl (by kernel_rfl) hf rfl (fun _ => ev_extract (vs := [.agg #[.int .i64 ((if ((runS c.n false c.gs (unitS d)).1) = true then mZ else ((runS c.n false c.gs (unitS d)).2)).rows), .int .i64 ((if ((runS c.n false c.gs (unitS d)).1) = true then mZ else ((runS c.n false c.gs (unitS d)).2)).cols), .slice A16 ((if ((runS c.n false c.gs (unitS d)).1) = true then mZ else ((runS c.n false c.gs (unitS d)).2)).cells).length c16], .bool (!((runS c.n false c.gs (unitS d)).1))]) hf rfl rfl) ?_; intro a hf
  refine s_one 12 (by kernel_rfl) ?_
  refine p_eff0 rfl hf trivial rfl (Ef.mono (ef_store (vs := [.int .i64 ((if ((runS c.n false c.gs (unitS d)).1) = true then mZ else ((runS c.n false c.gs (unitS d)).2)).rows), .int .i64 ((if ((runS c.n false c.gs (unitS d)).1) = true then mZ else ((runS c.n false c.gs (unitS d)).2)).cols), .slice A16 ((if ((runS c.n false c.gs (unitS d)).1) = true then mZ else ((runS c.n false c.gs (unitS d)).2)).cells).length c16]) (l' := [.int .i64 ((if ((runS c.n false c.gs (unitS d)).1) = true then mZ else ((runS c.n false c.gs (unitS d)).2)).rows), .int .i64 ((if ((runS c.n false c.gs (unitS d)).1) = true then mZ else ((runS c.n false c.gs (unitS d)).2)).cols), .slice A16 ((if ((runS c.n false c.gs (unitS d)).1) = true then mZ else ((runS c.n false c.gs (unitS d)).2)).cells).length c16]) hf rfl rfl sz_141 hB5 rfl rfl rfl rfl rfl) (fun _ _ h => ⟨fun h0 => absurd h0 (by decide), h⟩)) ?_; rintro a _ w10 ⟨ho, hb⟩ hf
  have hold := hB5
  replace hB3 := hB3.only ho (Blk.ne hB3 hold rfl)
  replace hB12 := hB12.only ho (Blk.ne hB12 hold rfl)
  replace hr_c := hr_c.onlyT ho hold rfl
  replace ho14 := ho14.onlyT ho hold rfl
  replace hr15 := hr15.onlyT ho hold rfl
  replace hr16 := hr16.onlyT ho hold rfl
  replace hW := Below.only hW ho hlo5
  clear hold
  have hB5 := hb
  clear hb ho
  refine s_e0 13 rfl (by kernel_rfl) hf rfl (fun _ => ev_assign hf rfl) ?_; intro a hf
  refine s_done (by kernel_rfl) ?_
  refine hK13 _ _ ?_; try clear hK13 K13
  refine wp_ret ?_
  refine c_ret hf (res2 hf rfl (ResV.cellN (l := [.int .i64 ((if ((runS c.n false c.gs (unitS d)).1) = true then mZ else ((runS c.n false c.gs (unitS d)).2)).rows), .int .i64 ((if ((runS c.n false c.gs (unitS d)).1) = true then mZ else ((runS c.n false c.gs (unitS d)).2)).cols), .slice A16 ((if ((runS c.n false c.gs (unitS d)).1) = true then mZ else ((runS c.n false c.gs (unitS d)).2)).cells).length c16]) rfl tN_141 (hB5.at 0) rfl) rfl) ?_
  have hfi1 : (opS c).getD mZ = if (runS c.n false c.gs (unitS d)).1 = true then mZ else (runS c.n false c.gs (unitS d)).2 := by rw [opS, if_pos hc, ← hd]; split <;> rfl
  have hfi2 : (opS c).isSome = !(runS c.n false c.gs (unitS d)).1 := by rw [opS, if_pos hc, ← hd]; cases (runS c.n false c.gs (unitS d)).1 <;> rfl
  rw [hfi1, hfi2]
  exact ⟨A16, c16, rfl, hr16.top, hW⟩
theorem F88 (w0 : World) (p : Cx) (Ap : Option Addr) (cp : Nat) (hr_p : Rd w0 w0.heap.size 107 encG Ap p.gs) (q : Cx) (Aq : Option Addr) (cq : Nat) (hr_q : Rd w0 w0.heap.size 107 encG Aq q.gs) : Ret Tryz.prog 88 [.agg #[.int .i64 p.n, .slice Ap p.gs.length cp], .agg #[.int .i64 q.n, .slice Aq q.gs.length cq]] w0 (fun v w => v = .tuple #[.bool ((sameS p q).1), .bool ((sameS p q).2)] ∧ Below w0.heap.size w0 w) := by
 refine enter Tryz.func88 rfl 42 rfl rfl ?_
 intro a hf
 have hW : Below w0.heap.size w0 w0 := Below.refl _ _
 refine wp_seq_k ?_; intro K3 hK3
 refine wp_region_lit ?_
 refine l_f hf rfl (ef_box (zs := [.int .i64 p.n, .slice Ap p.gs.length cp]) hf rfl rfl) ?_; rintro a _ w1 ⟨b4, rfl, hl4, hE, hB4⟩ hf
 have hlo4 := Nat.le_trans hW.size hl4
 replace hr_p := hr_p.below hE
 replace hr_q := hr_q.below hE
 replace hW := btr hW hE
 clear hE
 refine l_f hf rfl (ef_box (zs := [.int .i64 q.n, .slice Aq q.gs.length cq]) hf rfl rfl) ?_; rintro a _ w2 ⟨b5, rfl, hl5, hE, hB5⟩ hf
 have hne4_5 : b4 ≠ b5 := by have := hB4.lt; omega
 have hlo5 := Nat.le_trans hW.size hl5
 replace hB4 := hB4.below hE
 replace hr_p := hr_p.below hE
 replace hr_q := hr_q.below hE
 replace hW := btr hW hE
 clear hE
 refine l_as hf rfl rfl ?_; intro a hf
 refine l_as hf rfl rfl ?_; intro a hf
 refine wpList_nil ?_
 refine hK3 _ _ ?_; try clear hK3 K3
 refine wp_seq_k ?_; intro K6 hK6
 refine wp_region_lit ?_
 refine l_e hf rfl (ev_loadN (l := [.int .i64 p.n, .slice Ap p.gs.length cp]) hf rfl tN_41 (hB4.at 0) rfl) ?_; intro a hf
 refine l_f hf rfl (ef_call (vs := [.agg #[.int .i64 p.n, .slice Ap p.gs.length cp]]) hf rfl ff_129 (F129 _ p Ap cp hr_p.top)) ?_; rintro a _ w3 ⟨A7, c7, rfl, hr7, hE⟩ hf
 replace hB4 := hB4.below hE
 replace hB5 := hB5.below hE
 replace hr_p := hr_p.below hE
 replace hr_q := hr_q.below hE
 replace hW := btr hW hE
 clear hE
 refine l_mv hf rfl rfl ?_; intro a hf
 refine l_e hf rfl (ev_extract (vs := [.agg #[.int .i64 (((opS p).getD mZ).rows), .int .i64 (((opS p).getD mZ).cols), .slice A7 (((opS p).getD mZ).cells).length c7], .bool ((opS p).isSome)]) hf rfl rfl) ?_; intro a hf
 refine l_e hf rfl (ev_extract (vs := [.agg #[.int .i64 (((opS p).getD mZ).rows), .int .i64 (((opS p).getD mZ).cols), .slice A7 (((opS p).getD mZ).cells).length c7], .bool ((opS p).isSome)]) hf rfl rfl) ?_; intro a hf
 refine l_f hf rfl (ef_alloc (zs := [.int .i64 0, .int .i64 0, .slice none 0 0]) z_141 rfl) ?_; rintro a _ w4 ⟨b9, rfl, hl9, hE, hB9⟩ hf
 have hlo9 := Nat.le_trans hW.size hl9
 replace hB4 := hB4.below hE
 replace hB5 := hB5.below hE
 replace hr_p := hr_p.below hE
 replace hr_q := hr_q.below hE
 replace hr7 := hr7.below hE
 replace hW := btr hW hE
 clear hE
 refine l_f0 hf (ef_store (vs := [.int .i64 (((opS p).getD mZ).rows), .int .i64 (((opS p).getD mZ).cols), .slice A7 (((opS p).getD mZ).cells).length c7]) (l' := [.int .i64 (((opS p).getD mZ).rows), .int .i64 (((opS p).getD mZ).cols), .slice A7 (((opS p).getD mZ).cells).length c7]) hf rfl rfl sz_141 hB9 rfl rfl rfl rfl rfl) ?_; rintro a _ w5 ⟨ho, hb⟩ hf
 have hold := hB9
 replace hB4 := hB4.only ho (Blk.ne hB4 hold rfl)
 replace hB5 := hB5.only ho (Blk.ne hB5 hold rfl)
 replace hr_p := hr_p.onlyT ho hold rfl
 replace hr_q := hr_q.onlyT ho hold rfl
 replace hr7 := hr7.onlyT ho hold rfl
 replace hW := Below.only hW ho hlo9
 clear hold
 have hB9 := hb
 clear hb ho
 refine l_as hf rfl rfl ?_; intro a hf
 refine wpList_nil ?_
 refine hK6 _ _ ?_; try clear hK6 K6
 refine wp_seq_k ?_; intro K10 hK10
 refine wp_region_lit ?_
 refine l_e hf rfl (ev_loadN (l := [.int .i64 q.n, .slice Aq q.gs.length cq]) hf rfl tN_41 (hB5.at 0) rfl) ?_; intro a hf
 refine l_f hf rfl (ef_call (vs := [.agg #[.int .i64 q.n, .slice Aq q.gs.length cq]]) hf rfl ff_129 (F129 _ q Aq cq hr_q.top)) ?_; rintro a _ w6 ⟨A11, c11, rfl, hr11, hE⟩ hf
 replace hB4 := hB4.below hE
 replace hB5 := hB5.below hE
 replace hB9 := hB9.below hE
 replace hr_p := hr_p.below hE
 replace hr_q := hr_q.below hE
 replace hr7 := hr7.below hE
 replace hW := btr hW hE
 clear hE
 refine l_mv hf rfl rfl ?_; intro a hf
 refine l_e hf rfl (ev_extract (vs := [.agg #[.int .i64 (((opS q).getD mZ).rows), .int .i64 (((opS q).getD mZ).cols), .slice A11 (((opS q).getD mZ).cells).length c11], .bool ((opS q).isSome)]) hf rfl rfl) ?_; intro a hf
 refine l_e hf rfl (ev_extract (vs := [.agg #[.int .i64 (((opS q).getD mZ).rows), .int .i64 (((opS q).getD mZ).cols), .slice A11 (((opS q).getD mZ).cells).length c11], .bool ((opS q).isSome)]) hf rfl rfl) ?_; intro a hf
 refine l_f hf rfl (ef_alloc (zs := [.int .i64 0, .int .i64 0, .slice none 0 0]) z_141 rfl) ?_; rintro a _ w7 ⟨b13, rfl, hl13, hE, hB13⟩ hf
 have hne9_13 : b9 ≠ b13 := by have := hB9.lt; omega
 have hlo13 := Nat.le_trans hW.size hl13
 replace hB4 := hB4.below hE
 replace hB5 := hB5.below hE
 replace hB9 := hB9.below hE
 replace hr_p := hr_p.below hE
 replace hr_q := hr_q.below hE
 replace hr7 := hr7.below hE
 replace hr11 := hr11.below hE
 replace hW := btr hW hE
 clear hE
 refine l_f0 hf (ef_store (vs := [.int .i64 (((opS q).getD mZ).rows), .int .i64 (((opS q).getD mZ).cols), .slice A11 (((opS q).getD mZ).cells).length c11]) (l' := [.int .i64 (((opS q).getD mZ).rows), .int .i64 (((opS q).getD mZ).cols), .slice A11 (((opS q).getD mZ).cells).length c11]) hf rfl rfl sz_141 hB13 rfl rfl rfl rfl rfl) ?_; rintro a _ w8 ⟨ho, hb⟩ hf
 have hold := hB13
 replace hB4 := hB4.only ho (Blk.ne hB4 hold rfl)
 replace hB5 := hB5.only ho (Blk.ne hB5 hold rfl)
 replace hB9 := hB9.only ho (by omega)
 replace hr_p := hr_p.onlyT ho hold rfl
 replace hr_q := hr_q.onlyT ho hold rfl
 replace hr7 := hr7.onlyT ho hold rfl
 replace hr11 := hr11.onlyT ho hold rfl
 replace hW := Below.only hW ho hlo13
 clear hold
 have hB13 := hb
 clear hb ho
 refine l_as hf rfl rfl ?_; intro a hf
 refine wpList_nil ?_
 refine hK10 _ _ ?_; try clear hK10 K10
 refine wp_seq_k ?_; intro K14 hK14
 refine wp_seq_k ?_; intro K15 hK15
 refine c_cut (fun a w => Fr a 42 [(6, .pointer (some ⟨b9, 0, none⟩)), (8, .pointer (some ⟨b13, 0, none⟩)), (34, .bool (((!((opS p).isSome)) || (!((opS q).isSome))) || (p.n != q.n)))] ∧ w8 = w) ?_ ?_
 ·refine wp_region_lit ?_
  refine l_mv hf rfl rfl ?_; intro a hf
  refine l_e hf rfl (ev_not hf rfl) ?_; intro a hf
  refine l_mv hf rfl rfl ?_; intro a hf
  refine g_split hf (t := 24) rfl (fun hg16 => ?_) (fun hg16 => ?_)
  ·refine l_pass hf ⟨_, _, rfl, rfl, hg16⟩ rfl rfl ?_; intro a hf
   refine l_pass hf ⟨_, _, rfl, rfl, hg16⟩ rfl rfl ?_; intro a hf
   refine l_e hf rfl (ev_pickT hf rfl hg16 rfl) ?_; intro a hf
   refine l_mv hf rfl rfl ?_; intro a hf
   refine l_pass hf ⟨_, _, rfl, rfl, rfl⟩ rfl rfl ?_; intro a hf
   refine l_pass hf ⟨_, _, rfl, rfl, rfl⟩ rfl rfl ?_; intro a hf
   refine l_pass hf ⟨_, _, rfl, rfl, rfl⟩ rfl rfl ?_; intro a hf
   refine l_pass hf ⟨_, _, rfl, rfl, rfl⟩ rfl rfl ?_; intro a hf
   refine l_pass hf ⟨_, _, rfl, rfl, rfl⟩ rfl rfl ?_; intro a hf
   refine l_e hf rfl (ev_pickT hf rfl rfl rfl) ?_; intro a hf
   refine wpList_nil ?_
   exact ⟨hf.sub ⟨rfl, rfl, look_bool rfl (by first | rfl | (simp only [hg16, Bool.true_and, Bool.false_and, Bool.true_or, Bool.false_or]; done) | simp [hg16]), trivial⟩, rfl⟩
  ·refine l_ev hf ⟨_, _, rfl, rfl, hg16⟩ rfl rfl (ev_move hf rfl) ?_; intro a hf
   refine l_ev hf ⟨_, _, rfl, rfl, hg16⟩ rfl rfl (ev_not hf rfl) ?_; intro a hf
   refine l_e hf rfl (ev_pickF hf rfl hg16 rfl) ?_; intro a hf
   refine l_mv hf rfl rfl ?_; intro a hf
   refine g_split hf (t := 28) rfl (fun hg17 => ?_) (fun hg17 => ?_)
   ·refine l_pass hf ⟨_, _, rfl, rfl, hg17⟩ rfl rfl ?_; intro a hf
    refine l_pass hf ⟨_, _, rfl, rfl, hg17⟩ rfl rfl ?_; intro a hf
    refine l_pass hf ⟨_, _, rfl, rfl, hg17⟩ rfl rfl ?_; intro a hf
    refine l_pass hf ⟨_, _, rfl, rfl, hg17⟩ rfl rfl ?_; intro a hf
    refine l_pass hf ⟨_, _, rfl, rfl, hg17⟩ rfl rfl ?_; intro a hf
    refine l_e hf rfl (ev_pickT hf rfl hg17 rfl) ?_; intro a hf
    refine wpList_nil ?_
    exact ⟨hf.sub ⟨rfl, rfl, look_bool rfl (by first | rfl | (simp only [hg16, hg17, Bool.true_and, Bool.false_and, Bool.true_or, Bool.false_or]; done) | simp [hg16, hg17]), trivial⟩, rfl⟩
   ·refine l_ev hf ⟨_, _, rfl, rfl, hg17⟩ rfl rfl (ev_fieldB hf rfl fd_41_0 (m := 0) rfl) ?_; intro a hf
    refine l_ev hf ⟨_, _, rfl, rfl, hg17⟩ rfl rfl (ev_load1 hf rfl t1_3 (hB4.at 0)) ?_; intro a hf
    refine l_ev hf ⟨_, _, rfl, rfl, hg17⟩ rfl rfl (ev_fieldB hf rfl fd_41_0 (m := 0) rfl) ?_; intro a hf
    refine l_ev hf ⟨_, _, rfl, rfl, hg17⟩ rfl rfl (ev_load1 hf rfl t1_3 (hB5.at 0)) ?_; intro a hf
    refine l_ev hf ⟨_, _, rfl, rfl, hg17⟩ rfl rfl (ev_neq hf rfl rfl) ?_; intro a hf
    refine l_e hf rfl (ev_pickF hf rfl hg17 rfl) ?_; intro a hf
    refine wpList_nil ?_
    exact ⟨hf.sub ⟨rfl, rfl, look_bool rfl (by first | rfl | (simp only [hg16, hg17, Bool.true_and, Bool.false_and, Bool.true_or, Bool.false_or]; done) | simp [hg16, hg17]), trivial⟩, rfl⟩
 rintro a _ ⟨hf, rfl⟩
 refine hK15 _ _ ?_; try clear hK15 K15
 refine c_if hf rfl (fun hc18 => ?_) (fun hc18 => ?_)
 ·have hc18b := hc18
  have hn : sameS p q = (false, false) := by rw [sameS, if_neg]; intro h0; simp only [Bool.and_eq_true, beq_iff_eq] at h0; revert hc18; rw [h0.1.1, h0.1.2, h0.2]; simp
  refine wp_seq_k ?_; intro K19 hK19
  refine wp_region_lit ?_
  refine l_as hf rfl rfl ?_; intro a hf
  refine l_as hf rfl rfl ?_; intro a hf
  refine wpList_nil ?_
  refine hK19 _ _ ?_; try clear hK19 K19
  refine wp_ret ?_
  refine x_retS ?_
  refine c_ret hf (res2 hf rfl rfl rfl) ?_
  exact ⟨by rw [hn], hW⟩
 ·have hc18b := hc18
  obtain ⟨⟨hs1, hs2⟩, hs3⟩ : ((opS p).isSome = true ∧ (opS q).isSome = true) ∧ p.n = q.n := by revert hc18; cases (opS p).isSome <;> cases (opS q).isSome <;> simp
  have hy : sameS p q = (phaseS ((opS p).getD mZ) ((opS q).getD mZ), true) := by rw [sameS, if_pos]; simp [hs1, hs2, hs3]
  refine wp_skip ?_
  refine hK14 _ _ ?_; try clear hK14 K14
  refine wp_seq_k ?_; intro K20 hK20
  refine wp_region_lit ?_
  refine l_e hf rfl (ev_loadN (l := [.int .i64 (((opS p).getD mZ).rows), .int .i64 (((opS p).getD mZ).cols), .slice A7 (((opS p).getD mZ).cells).length c7]) hf rfl tN_141 (hB9.at 0) rfl) ?_; intro a hf
  refine l_e hf rfl (ev_loadN (l := [.int .i64 (((opS q).getD mZ).rows), .int .i64 (((opS q).getD mZ).cols), .slice A11 (((opS q).getD mZ).cells).length c11]) hf rfl tN_141 (hB13.at 0) rfl) ?_; intro a hf
  refine l_f hf rfl (ef_call (vs := [.agg #[.int .i64 (((opS p).getD mZ).rows), .int .i64 (((opS p).getD mZ).cols), .slice A7 (((opS p).getD mZ).cells).length c7], .agg #[.int .i64 (((opS q).getD mZ).rows), .int .i64 (((opS q).getD mZ).cols), .slice A11 (((opS q).getD mZ).cells).length c11]]) hf rfl ff_130 (F130 _ ((opS p).getD mZ) A7 c7 hr7.top ((opS q).getD mZ) A11 c11 hr11.top (op_lens hs1 hs2 hs3) (opS_le q))) ?_; rintro a _ w9 ⟨ix, rfl, hE⟩ hf
  replace hB4 := hB4.below hE
  replace hB5 := hB5.below hE
  replace hB9 := hB9.below hE
  replace hB13 := hB13.below hE
  replace hr_p := hr_p.below hE
  replace hr_q := hr_q.below hE
  replace hr7 := hr7.below hE
  replace hr11 := hr11.below hE
  replace hW := btr hW hE
  clear hE
  refine l_mv hf rfl rfl ?_; intro a hf
  refine l_e hf rfl (ev_extract (vs := [.int .i64 ix, .bool (phaseS ((opS p).getD mZ) ((opS q).getD mZ))]) hf rfl rfl) ?_; intro a hf
  refine l_e hf rfl (ev_extract (vs := [.int .i64 ix, .bool (phaseS ((opS p).getD mZ) ((opS q).getD mZ))]) hf rfl rfl) ?_; intro a hf
  refine l_as hf rfl rfl ?_; intro a hf
  refine l_as hf rfl rfl ?_; intro a hf
  refine wpList_nil ?_
  refine hK20 _ _ ?_; try clear hK20 K20
  refine wp_seq_k ?_; intro K21 hK21
  refine wp_region_lit ?_
  refine l_mv hf rfl rfl ?_; intro a hf
  refine l_as hf rfl rfl ?_; intro a hf
  refine l_as hf rfl rfl ?_; intro a hf
  refine wpList_nil ?_
  refine hK21 _ _ ?_; try clear hK21 K21
  refine wp_ret ?_
  refine c_ret hf (res2 hf rfl rfl rfl) ?_
  exact ⟨by rw [hy], hW⟩
end Go.Proofs.YtfgnmflfiobkmaaGreat
set_option maxRecDepth 4000
namespace Go.Proofs.YtfgnmflfiobkmaaGreat
open Go.RowKit
theorem F43 (w0 : World) (n : Int) (r : Rp) (Ar : Option Addr) (cr : Nat) (hr_r : Rd w0 w0.heap.size 107 encG Ar r.old) (Br : Option Addr) (dr : Nat) (hs_r : Rd w0 w0.heap.size 107 encG Br r.new) (hla : r.old.length ≤ 2305843009213693951) (hlb : r.new.length ≤ 2305843009213693951) : Ret Tryz.prog 43 [.int .i64 n, .agg #[.int .i64 r.pos, .slice Ar r.old.length cr, .slice Br r.new.length dr]] w0 (fun v w => v = .bool (validS n r) ∧ Below w0.heap.size w0 w) := by
 refine enter Tryz.func43 rfl 24 rfl rfl ?_
 intro a hf
 have hW : Below w0.heap.size w0 w0 := Below.refl _ _
 refine wp_seq_k ?_; intro K3 hK3
 refine wp_region_lit ?_
 refine l_f hf rfl (ef_box (zs := [.int .i64 r.pos, .slice Ar r.old.length cr, .slice Br r.new.length dr]) hf rfl rfl) ?_; rintro a _ w1 ⟨b4, rfl, hl4, hE, hB4⟩ hf
 have hlo4 := Nat.le_trans hW.size hl4
 replace hr_r := hr_r.below hE
 replace hs_r := hs_r.below hE
 replace hW := btr hW hE
 clear hE
 refine l_as hf rfl rfl ?_; intro a hf
 refine wpList_nil ?_
 refine hK3 _ _ ?_; try clear hK3 K3
 refine wp_seq_k ?_; intro K5 hK5
 refine c_cut (fun a w => Fr a 24 [(4, .bool ((((inR n 1 5) && (inR r.pos 0 400)) && (!(r.old.any fun x => !gOk n x) && decide ((r.old.length : Int) ≤ 40))) && (!(r.new.any fun x => !gOk n x) && decide ((r.new.length : Int) ≤ 40))))] ∧ Below w1.heap.size w1 w) ?_ ?_
 ·have hEc : Below w1.heap.size w1 w1 := Below.refl _ _
  refine wp_region_lit ?_
  refine l_mv hf rfl rfl ?_; intro a hf
  refine l_f hf rfl (ef_call (vs := [.int .i64 n, .int .i64 1, .int .i64 5]) hf rfl ff_85 (F85 _ n 1 5)) ?_; rintro a _ _ ⟨rfl, rfl⟩ hf
  refine l_mv hf rfl rfl ?_; intro a hf
  refine g_split hf (t := 7) rfl (fun hg6 => ?_) (fun hg6 => ?_)
  ·refine l_ev hf ⟨_, _, rfl, rfl, hg6⟩ rfl rfl (ev_fieldB hf rfl fd_30_0 (m := 0) rfl) ?_; intro a hf
   refine l_ev hf ⟨_, _, rfl, rfl, hg6⟩ rfl rfl (ev_load1 hf rfl t1_3 (hB4.at 0)) ?_; intro a hf
   refine l_eff hf ⟨_, _, rfl, rfl, hg6⟩ rfl rfl (ef_call (vs := [.int .i64 r.pos, .int .i64 0, .int .i64 400]) hf rfl ff_85 (F85 _ r.pos 0 400)) ?_; rintro a _ _ ⟨rfl, rfl⟩ hf
   refine l_e hf rfl (ev_pickT hf rfl hg6 rfl) ?_; intro a hf
   refine l_mv hf rfl rfl ?_; intro a hf
   refine g_split hf (t := 12) rfl (fun hg7 => ?_) (fun hg7 => ?_)
   ·refine l_ev hf ⟨_, _, rfl, rfl, hg7⟩ rfl rfl (ev_move hf rfl) ?_; intro a hf
    refine l_ev hf ⟨_, _, rfl, rfl, hg7⟩ rfl rfl (ev_fieldB hf rfl fd_30_1 (m := 1) rfl) ?_; intro a hf
    refine l_ev hf ⟨_, _, rfl, rfl, hg7⟩ rfl rfl (ev_load1 hf rfl t1_28 (hB4.at 1)) ?_; intro a hf
    refine l_eff hf ⟨_, _, rfl, rfl, hg7⟩ rfl rfl (ef_call (vs := [.int .i64 n, .slice Ar r.old.length cr, .int .i64 40]) hf rfl ff_86 (F86 _ n Ar cr r.old hr_r.top 40 (inR_iff.1 (show inR n 1 5 = true by assumption)) hla)) ?_; rintro a _ w2 ⟨rfl, hE⟩ hf
    replace hB4 := hB4.below hE
    replace hr_r := hr_r.below hE
    replace hs_r := hs_r.below hE
    replace hW := btr hW hE
    replace hEc := btr hEc hE
    clear hE
    refine l_e hf rfl (ev_pickT hf rfl hg7 rfl) ?_; intro a hf
    refine l_mv hf rfl rfl ?_; intro a hf
    refine g_split hf (t := 18) rfl (fun hg8 => ?_) (fun hg8 => ?_)
    ·refine l_ev hf ⟨_, _, rfl, rfl, hg8⟩ rfl rfl (ev_move hf rfl) ?_; intro a hf
     refine l_ev hf ⟨_, _, rfl, rfl, hg8⟩ rfl rfl (ev_fieldB hf rfl fd_30_2 (m := 2) rfl) ?_; intro a hf
     refine l_ev hf ⟨_, _, rfl, rfl, hg8⟩ rfl rfl (ev_load1 hf rfl t1_28 (hB4.at 2)) ?_; intro a hf
     refine l_eff hf ⟨_, _, rfl, rfl, hg8⟩ rfl rfl (ef_call (vs := [.int .i64 n, .slice Br r.new.length dr, .int .i64 40]) hf rfl ff_86 (F86 _ n Br dr r.new hs_r.top 40 (inR_iff.1 (show inR n 1 5 = true by assumption)) hlb)) ?_; rintro a _ w3 ⟨rfl, hE⟩ hf
     replace hB4 := hB4.below hE
     replace hr_r := hr_r.below hE
     replace hs_r := hs_r.below hE
     replace hW := btr hW hE
     replace hEc := btr hEc hE
     clear hE
     refine l_e hf rfl (ev_pickT hf rfl hg8 rfl) ?_; intro a hf
     refine l_as hf rfl rfl ?_; intro a hf
     refine wpList_nil ?_
     have hEE : Below w1.heap.size w1 w3 := hEc
     exact ⟨hf.sub ⟨look_bool rfl (by first | rfl | (simp only [hg6, hg7, hg8, Bool.true_and, Bool.false_and, Bool.true_or, Bool.false_or]; done) | simp [hg6, hg7, hg8]), trivial⟩, hEE⟩
    ·refine l_pass hf ⟨_, _, rfl, rfl, hg8⟩ rfl rfl ?_; intro a hf
     refine l_pass hf ⟨_, _, rfl, rfl, hg8⟩ rfl rfl ?_; intro a hf
     refine l_pass hf ⟨_, _, rfl, rfl, hg8⟩ rfl rfl ?_; intro a hf
     refine l_pass hf ⟨_, _, rfl, rfl, hg8⟩ rfl rfl ?_; intro a hf
     refine l_e hf rfl (ev_pickF hf rfl hg8 rfl) ?_; intro a hf
     refine l_as hf rfl rfl ?_; intro a hf
     refine wpList_nil ?_
     have hEE : Below w1.heap.size w1 w2 := hEc
     exact ⟨hf.sub ⟨look_bool rfl (by first | rfl | (simp only [hg6, hg7, hg8, Bool.true_and, Bool.false_and, Bool.true_or, Bool.false_or]; done) | simp [hg6, hg7, hg8]), trivial⟩, hEE⟩
   ·refine l_pass hf ⟨_, _, rfl, rfl, hg7⟩ rfl rfl ?_; intro a hf
    refine l_pass hf ⟨_, _, rfl, rfl, hg7⟩ rfl rfl ?_; intro a hf
    refine l_pass hf ⟨_, _, rfl, rfl, hg7⟩ rfl rfl ?_; intro a hf
    refine l_pass hf ⟨_, _, rfl, rfl, hg7⟩ rfl rfl ?_; intro a hf
    refine l_e hf rfl (ev_pickF hf rfl hg7 rfl) ?_; intro a hf
    refine l_mv hf rfl rfl ?_; intro a hf
    refine l_pass hf ⟨_, _, rfl, rfl, rfl⟩ rfl rfl ?_; intro a hf
    refine l_pass hf ⟨_, _, rfl, rfl, rfl⟩ rfl rfl ?_; intro a hf
    refine l_pass hf ⟨_, _, rfl, rfl, rfl⟩ rfl rfl ?_; intro a hf
    refine l_pass hf ⟨_, _, rfl, rfl, rfl⟩ rfl rfl ?_; intro a hf
    refine l_e hf rfl (ev_pickF hf rfl rfl rfl) ?_; intro a hf
    refine l_as hf rfl rfl ?_; intro a hf
    refine wpList_nil ?_
    have hEE : Below w1.heap.size w1 w1 := hEc
    exact ⟨hf.sub ⟨look_bool rfl (by first | rfl | (simp only [hg6, hg7, Bool.true_and, Bool.false_and, Bool.true_or, Bool.false_or]; done) | simp [hg6, hg7]), trivial⟩, hEE⟩
  ·refine l_pass hf ⟨_, _, rfl, rfl, hg6⟩ rfl rfl ?_; intro a hf
   refine l_pass hf ⟨_, _, rfl, rfl, hg6⟩ rfl rfl ?_; intro a hf
   refine l_pass hf ⟨_, _, rfl, rfl, hg6⟩ rfl rfl ?_; intro a hf
   refine l_e hf rfl (ev_pickF hf rfl hg6 rfl) ?_; intro a hf
   refine l_mv hf rfl rfl ?_; intro a hf
   refine l_pass hf ⟨_, _, rfl, rfl, rfl⟩ rfl rfl ?_; intro a hf
   refine l_pass hf ⟨_, _, rfl, rfl, rfl⟩ rfl rfl ?_; intro a hf
   refine l_pass hf ⟨_, _, rfl, rfl, rfl⟩ rfl rfl ?_; intro a hf
   refine l_pass hf ⟨_, _, rfl, rfl, rfl⟩ rfl rfl ?_; intro a hf
   refine l_e hf rfl (ev_pickF hf rfl rfl rfl) ?_; intro a hf
   refine l_mv hf rfl rfl ?_; intro a hf
   refine l_pass hf ⟨_, _, rfl, rfl, rfl⟩ rfl rfl ?_; intro a hf
   refine l_pass hf ⟨_, _, rfl, rfl, rfl⟩ rfl rfl ?_; intro a hf
   refine l_pass hf ⟨_, _, rfl, rfl, rfl⟩ rfl rfl ?_; intro a hf
   refine l_pass hf ⟨_, _, rfl, rfl, rfl⟩ rfl rfl ?_; intro a hf
   refine l_e hf rfl (ev_pickF hf rfl rfl rfl) ?_; intro a hf
   refine l_as hf rfl rfl ?_; intro a hf
   refine wpList_nil ?_
   have hEE : Below w1.heap.size w1 w1 := hEc
   exact ⟨hf.sub ⟨look_bool rfl (by first | rfl | (simp only [hg6, Bool.true_and, Bool.false_and, Bool.true_or, Bool.false_or]; done) | simp [hg6]), trivial⟩, hEE⟩
 rintro a w4 ⟨hf, hE⟩
 replace hB4 := hB4.below hE
 replace hr_r := hr_r.below hE
 replace hs_r := hs_r.below hE
 replace hW := btr hW hE
 clear hE
 refine hK5 _ _ ?_; try clear hK5 K5
 refine wp_ret ?_
 refine c_ret hf (res1 hf rfl rfl) ?_
 exact ⟨by simp only [validS], hW⟩
theorem F128 (w0 : World) (Al : Option Addr) (cl : Nat) (l : List Int) (hr_l : Rd w0 w0.heap.size 3 encI Al l) (n : Int) (B0 : Nat) (ho : Own w0 B0 3 1 encI Al cl l) (hB0 : B0 ≤ w0.heap.size) (hln : l.length ≤ 1000000000) : Ret Tryz.prog 128 [.slice Al l.length cl, .int .i64 n] w0 (fun v w => ∃ A c, v = .slice A (putI l n).length c ∧ Own w B0 3 1 encI A c (putI l n) ∧ Below w0.heap.size w0 w) := by
 refine enter Tryz.func128 rfl 48 rfl rfl ?_
 intro a hf
 have hW : Below w0.heap.size w0 w0 := Below.refl _ _
 refine wp_seq_k ?_; intro K2 hK2
 refine wp_region_lit ?_
 refine l_as hf rfl rfl ?_; intro a hf
 refine wpList_nil ?_
 refine hK2 _ _ ?_; try clear hK2 K2
 refine wp_seq_k ?_; intro K4 hK4
 refine wp_region_lit ?_
 refine l_as hf rfl rfl ?_; intro a hf
 refine wpList_nil ?_
 refine hK4 _ _ ?_; try clear hK4 K4
 refine wp_seq_k ?_; intro K5 hK5
 refine wp_block ?_
 refine c_loop (σ := Nat) (fun (k : Nat) (a : Act) (w : World) => Fr a 48 [(0, .slice Al l.length cl), (1, .int .i64 n), (5, .int .i64 (k : Int))] ∧ (k ≤ l.length) ∧ ((l.take k).all (fun x => decide (x < n)) = true) ∧ Rd w w0.heap.size 3 encI Al l ∧ Below w0.heap.size w0 w) (fun (k : Nat) => l.length - k) 0 ?_ ?_
 · exact ⟨hf.sub ⟨rfl, rfl, rfl, trivial⟩, (Nat.zero_le _), rfl, hr_l, hW⟩
 rintro k a w1 ⟨hf, hk, hpre, hr_l, hW⟩
 refine wp_seq_k ?_; intro K6 hK6
 refine wp_seq_k ?_; intro K7 hK7
 refine c_cut (fun a w => Fr a 48 [(0, .slice Al l.length cl), (1, .int .i64 n), (5, .int .i64 (k : Int)), (18, .bool (decide ((k : Int) < (l.length : Int)) && decide ((l.getD k 0) < n)))] ∧ w1 = w) ?_ ?_
 ·refine wp_region_lit ?_
  refine l_mv hf rfl rfl ?_; intro a hf
  refine l_mv hf rfl rfl ?_; intro a hf
  refine l_e hf rfl (ev_len hf rfl sl_36) ?_; intro a hf
  refine l_e hf rfl (ev_lss hf rfl rfl) ?_; intro a hf
  refine l_mv hf rfl rfl ?_; intro a hf
  refine g_split hf (t := 11) rfl (fun hg8 => ?_) (fun hg8 => ?_)
  ·refine l_ev hf ⟨_, _, rfl, rfl, hg8⟩ rfl rfl (ev_move hf rfl) ?_; intro a hf
   refine l_ev hf ⟨_, _, rfl, rfl, hg8⟩ rfl rfl (ev_move hf rfl) ?_; intro a hf
   refine l_index (k := k) (u := (l.getD k 0)) (enc := encI) (l := l) hf ⟨_, _, rfl, rfl, hg8⟩ rfl rfl rfl sl_36 sz_3 encI_len hr_l (getD_getB (by assumption)) rfl ?_; intro a p10 hat9 hf
   refine l_ev hf ⟨_, _, rfl, rfl, hg8⟩ rfl rfl (ev_load1 hf rfl t1_3 hat9) ?_; intro a hf
   refine l_ev hf ⟨_, _, rfl, rfl, hg8⟩ rfl rfl (ev_move hf rfl) ?_; intro a hf
   refine l_ev hf ⟨_, _, rfl, rfl, hg8⟩ rfl rfl (ev_lss hf rfl rfl) ?_; intro a hf
   refine l_e hf rfl (ev_pickT hf rfl hg8 rfl) ?_; intro a hf
   refine wpList_nil ?_
   exact ⟨hf.sub ⟨rfl, rfl, rfl, look_bool rfl (by first | rfl | (simp only [hg8, Bool.true_and, Bool.false_and, Bool.true_or, Bool.false_or]; done) | simp [hg8]), trivial⟩, rfl⟩
  ·refine l_pass hf ⟨_, _, rfl, rfl, hg8⟩ rfl rfl ?_; intro a hf
   refine l_pass hf ⟨_, _, rfl, rfl, hg8⟩ rfl rfl ?_; intro a hf
   refine l_pass hf ⟨_, _, rfl, rfl, hg8⟩ rfl rfl ?_; intro a hf
   refine l_pass hf ⟨_, _, rfl, rfl, hg8⟩ rfl rfl ?_; intro a hf
   refine l_pass hf ⟨_, _, rfl, rfl, hg8⟩ rfl rfl ?_; intro a hf
   refine l_pass hf ⟨_, _, rfl, rfl, hg8⟩ rfl rfl ?_; intro a hf
   refine l_e hf rfl (ev_pickF hf rfl hg8 rfl) ?_; intro a hf
   refine wpList_nil ?_
   exact ⟨hf.sub ⟨rfl, rfl, rfl, look_bool rfl (by first | rfl | (simp only [hg8, Bool.true_and, Bool.false_and, Bool.true_or, Bool.false_or]; done) | simp [hg8]), trivial⟩, rfl⟩
 rintro a _ ⟨hf, rfl⟩
 refine hK7 _ _ ?_; try clear hK7 K7
 refine c_if hf rfl (fun hc11 => ?_) (fun hc11 => ?_)
 ·have hc11b := hc11
  have hlt : (k : Int) < l.length ∧ l.getD k 0 < n := by simpa using hc11
  have hk1 : k < l.length := by omega
  refine wp_skip ?_
  refine hK6 _ _ ?_; try clear hK6 K6
  refine wp_block ?_
  refine wp_region_lit ?_
  refine l_mv hf rfl rfl ?_; intro a hf
  refine l_e hf rfl (ev_addx hf rfl rfl (by omega) (by omega)) ?_; intro a hf
  refine l_as hf rfl rfl ?_; intro a hf
  refine wpList_nil ?_
  refine x_norm ?_
  refine x_thenN ?_
  exact ⟨k + 1, ⟨hf.sub ⟨rfl, rfl, rfl, trivial⟩, (by omega), (take_all hpre (getD_get hk1) (by simpa using hlt.2)), hr_l, hW⟩, (by omega)⟩
 ·have hc11b := hc11
  have hst : k < l.length → ¬ l.getD k 0 < n := by intro h0 h1; revert hc11; simp only [h1, decide_true, Bool.and_true, decide_eq_false_iff_not]; omega
  have hpa := put_at l n k hpre hk hst
  refine wp_exit ?_
  refine x_exS ?_
  refine x_exS ?_
  refine x_exit ?_
  refine hK5 _ _ ?_; try clear hK5 K5
  refine wp_seq_k ?_; intro K12 hK12
  refine wp_seq_k ?_; intro K13 hK13
  refine c_cut (fun a w => Fr a 48 [(0, .slice Al l.length cl), (1, .int .i64 n), (5, .int .i64 (k : Int)), (32, .bool (decide ((k : Int) < (l.length : Int)) && (l.getD k 0) == n))] ∧ w1 = w) ?_ ?_
  ·refine wp_region_lit ?_
   refine l_mv hf rfl rfl ?_; intro a hf
   refine l_mv hf rfl rfl ?_; intro a hf
   refine l_e hf rfl (ev_len hf rfl sl_36) ?_; intro a hf
   refine l_e hf rfl (ev_lss hf rfl rfl) ?_; intro a hf
   refine l_mv hf rfl rfl ?_; intro a hf
   refine g_split hf (t := 25) rfl (fun hg14 => ?_) (fun hg14 => ?_)
   ·refine l_ev hf ⟨_, _, rfl, rfl, hg14⟩ rfl rfl (ev_move hf rfl) ?_; intro a hf
    refine l_ev hf ⟨_, _, rfl, rfl, hg14⟩ rfl rfl (ev_move hf rfl) ?_; intro a hf
    refine l_index (k := k) (u := (l.getD k 0)) (enc := encI) (l := l) hf ⟨_, _, rfl, rfl, hg14⟩ rfl rfl rfl sl_36 sz_3 encI_len hr_l (getD_getB (by assumption)) rfl ?_; intro a p16 hat15 hf
    refine l_ev hf ⟨_, _, rfl, rfl, hg14⟩ rfl rfl (ev_load1 hf rfl t1_3 hat15) ?_; intro a hf
    refine l_ev hf ⟨_, _, rfl, rfl, hg14⟩ rfl rfl (ev_move hf rfl) ?_; intro a hf
    refine l_ev hf ⟨_, _, rfl, rfl, hg14⟩ rfl rfl (ev_eql hf rfl rfl) ?_; intro a hf
    refine l_e hf rfl (ev_pickT hf rfl hg14 rfl) ?_; intro a hf
    refine wpList_nil ?_
    exact ⟨hf.sub ⟨rfl, rfl, rfl, look_bool rfl (by first | rfl | (simp only [hc11b, hg14, Bool.true_and, Bool.false_and, Bool.true_or, Bool.false_or]; done) | simp [hc11b, hg14]), trivial⟩, rfl⟩
   ·refine l_pass hf ⟨_, _, rfl, rfl, hg14⟩ rfl rfl ?_; intro a hf
    refine l_pass hf ⟨_, _, rfl, rfl, hg14⟩ rfl rfl ?_; intro a hf
    refine l_pass hf ⟨_, _, rfl, rfl, hg14⟩ rfl rfl ?_; intro a hf
    refine l_pass hf ⟨_, _, rfl, rfl, hg14⟩ rfl rfl ?_; intro a hf
    refine l_pass hf ⟨_, _, rfl, rfl, hg14⟩ rfl rfl ?_; intro a hf
    refine l_pass hf ⟨_, _, rfl, rfl, hg14⟩ rfl rfl ?_; intro a hf
    refine l_e hf rfl (ev_pickF hf rfl hg14 rfl) ?_; intro a hf
    refine wpList_nil ?_
    exact ⟨hf.sub ⟨rfl, rfl, rfl, look_bool rfl (by first | rfl | (simp only [hc11b, hg14, Bool.true_and, Bool.false_and, Bool.true_or, Bool.false_or]; done) | simp [hc11b, hg14]), trivial⟩, rfl⟩
  rintro a _ ⟨hf, rfl⟩
  refine hK13 _ _ ?_; try clear hK13 K13
  refine c_if hf rfl (fun hc17 => ?_) (fun hc17 => ?_)
  ·have hc17b := hc17
   have hyy : k < l.length ∧ l.getD k 0 = n := by have h9 : (k : Int) < l.length ∧ l.getD k 0 = n := (by simpa using hc17); omega
   have hfin := hpa.1 hyy
   refine wp_seq_k ?_; intro K18 hK18
   refine wp_region_lit ?_
   refine l_mv hf rfl rfl ?_; intro a hf
   refine l_as hf rfl rfl ?_; intro a hf
   refine wpList_nil ?_
   refine hK18 _ _ ?_; try clear hK18 K18
   refine wp_ret ?_
   refine x_retS ?_
   refine c_ret hf (res1 hf rfl rfl) ?_
   rw [hfin]
   exact ⟨_, _, rfl, ho.below hW, hW⟩
  ·have hc17b := hc17
   have hfin := hpa.2 (fun h0 => by revert hc17; rw [h0.2]; simp; omega)
   refine wp_skip ?_
   refine hK12 _ _ ?_; try clear hK12 K12
   refine wp_seq_k ?_; intro K19 hK19
   refine wp_region_lit ?_
   refine l_f hf rfl (ef_buildSlice (k := 0) (vs := []) (zs := []) hf rfl sl_36 inf_3 rfl rfl) ?_; rintro a _ w2 ⟨b20, rfl, hl20, hE, hB20⟩ hf
   have hlo20 := Nat.le_trans hW.size hl20
   have haw1_20 := hr_l.away hl20
   replace hr_l := hr_l.below hE
   replace hW := btr hW hE
   clear hE
   refine l_mv hf rfl rfl ?_; intro a hf
   refine l_mv hf rfl rfl ?_; intro a hf
   have hr22 := (hr_l.top).takeK encI_len k
   refine l_e hf rfl (ev_takeL (l := l) (k := k) hf rfl rfl sl_36 sz_3 rfl hk ho.cap) ?_; intro a hf
   refine l_f hf rfl (ef_append (enc := encI) (l := ([] : List Int)) (l2 := ((l.take k))) (B0 := w0.heap.size) hf rfl rfl sl_36 inf_3 encI_len encI_one (Own.empty hB20 hlo20) hr22 (by simp only [maxLen]; simp; omega) (by simp; omega) hW.size) ?_; rintro a _ w3 ⟨A23, c23, rfl, ho23, hg, hat⟩ hf
   have hown : Own _ w0.heap.size 3 1 encI _ _ ([] : List Int) := (Own.empty hB20 hlo20)
   clear hat
   replace hr_l := hr_l.appB hown hg (Nat.le_refl _)
   replace hW := Below.app hW hown hg (Nat.le_refl _) hW.size
   clear hown hg
   simp only [List.nil_append] at ho23 hf
   refine l_as hf rfl rfl ?_; intro a hf
   refine wpList_nil ?_
   refine hK19 _ _ ?_; try clear hK19 K19
   refine wp_seq_k ?_; intro K24 hK24
   refine wp_region_lit ?_
   refine l_mv hf rfl rfl ?_; intro a hf
   refine l_mv hf rfl rfl ?_; intro a hf
   refine l_f hf rfl (ef_buildSlice (k := 1) (vs := [.int .i64 n]) (zs := [.int .i64 n]) hf rfl sl_36 inf_3 rfl rfl) ?_; rintro a _ w4 ⟨b25, rfl, hl25, hE, hB25⟩ hf
   have hlo25 := Nat.le_trans hW.size hl25
   have haw1_25 := hr_l.away hl25
   have haw23_25 := ho23.away hl25
   replace hr_l := hr_l.below hE
   replace ho23 := ho23.below hE
   replace hW := btr hW hE
   clear hE
   refine l_f hf rfl (ef_append (enc := encI) (l := ((l.take k))) (l2 := ([n])) (B0 := w0.heap.size) hf rfl rfl sl_36 inf_3 encI_len encI_one ho23 (Rd.of_blk hB25 rfl _ hB25.lt) (by simp only [maxLen]; simp; omega) (by simp; omega) hW.size) ?_; rintro a _ w5 ⟨A27, c27, rfl, ho27, hg, hat⟩ hf
   have hown : Own _ w0.heap.size 3 1 encI _ _ ((l.take k)) := ho23
   have haw27_25 := hat _ hB25.lt haw23_25
   clear hat
   replace hr_l := hr_l.appB hown hg (Nat.le_refl _)
   replace hW := Below.app hW hown hg (Nat.le_refl _) hW.size
   clear hown hg
   refine l_as hf rfl rfl ?_; intro a hf
   refine wpList_nil ?_
   refine hK24 _ _ ?_; try clear hK24 K24
   refine wp_seq_k ?_; intro K28 hK28
   refine wp_region_lit ?_
   refine l_mv hf rfl rfl ?_; intro a hf
   refine l_mv hf rfl rfl ?_; intro a hf
   refine l_mv hf rfl rfl ?_; intro a hf
   have hr29 := (hr_l.top).dropK encI_len (c := cl) ho.cap k
   refine l_e hf rfl (ev_dropL (l := l) (k := k) hf rfl rfl sl_36 sz_3 rfl hk) ?_; intro a hf
   refine l_f hf rfl (ef_append (enc := encI) (l := ((l.take k) ++ ([n]))) (l2 := ((l.drop k))) (B0 := w0.heap.size) hf rfl rfl sl_36 inf_3 encI_len encI_one ho27 hr29 (by simp only [maxLen]; simp; omega) (by simp; omega) hW.size) ?_; rintro a _ w6 ⟨A30, c30, rfl, ho30, hg, hat⟩ hf
   have hown : Own _ w0.heap.size 3 1 encI _ _ ((l.take k) ++ ([n])) := ho27
   clear hat
   replace hr_l := hr_l.appB hown hg (Nat.le_refl _)
   replace hW := Below.app hW hown hg (Nat.le_refl _) hW.size
   clear hown hg
   refine l_as hf rfl rfl ?_; intro a hf
   refine wpList_nil ?_
   refine hK28 _ _ ?_; try clear hK28 K28
   refine wp_ret ?_
   refine c_ret hf (res1 hf rfl rfl) ?_
   rw [hfin]
   exact ⟨A30, c30, rfl, (ho30).lower hB0, hW⟩
theorem F87 (w0 : World) (Al : Option Addr) (cl : Nat) (l : List Gt) (hr_l : Rd w0 w0.heap.size 107 encG Al l) (hln : l.length ≤ 10000000) : Ret Tryz.prog 87 [.slice Al l.length cl] w0 (fun v w => ∃ A c, v = .slice A (usedS l).length c ∧ Own w w0.heap.size 3 1 encI A c (usedS l) ∧ Below w0.heap.size w0 w) := by
 refine enter Tryz.func87 rfl 28 rfl rfl ?_
 intro a hf
 have hW : Below w0.heap.size w0 w0 := Below.refl _ _
 refine wp_seq_k ?_; intro K2 hK2
 refine wp_region_lit ?_
 refine l_as hf rfl rfl ?_; intro a hf
 refine wpList_nil ?_
 refine hK2 _ _ ?_; try clear hK2 K2
 refine wp_seq_k ?_; intro K4 hK4
 refine wp_region_lit ?_
 refine l_as hf rfl rfl ?_; intro a hf
 refine wpList_nil ?_
 refine hK4 _ _ ?_; try clear hK4 K4
 refine wp_seq_k ?_; intro K6 hK6
 refine wp_seq_k ?_; intro K7 hK7
 refine wp_region_lit ?_
 refine l_mv hf rfl rfl ?_; intro a hf
 refine l_e hf rfl (ev_len hf rfl sl_28) ?_; intro a hf
 refine l_mv hf rfl rfl ?_; intro a hf
 refine wpList_nil ?_
 refine hK7 _ _ ?_; try clear hK7 K7
 refine wp_block ?_
 refine c_loop (σ := Nat × (List Int)) (fun (s : Nat × (List Int)) (a : Act) (w : World) => match s with | (k, m) => ∃ A8 c8, Fr a 28 [(3, .slice A8 m.length c8), (6, .slice Al l.length cl), (7, .int .i64 (l.length : Int)), (8, .int .i64 (k : Int))] ∧ (k ≤ l.length) ∧ (m = (l.take k).foldl usedStep []) ∧ Own w w0.heap.size 3 1 encI A8 c8 m ∧ Rd w w0.heap.size 107 encG Al l ∧ Below w0.heap.size w0 w) (fun (s : Nat × (List Int)) => match s with | (k, m) => l.length - k) (0, []) ?_ ?_
 · exact ⟨none, 0, hf.sub ⟨rfl, rfl, rfl, rfl, trivial⟩, (Nat.zero_le _), rfl, (Own.nil _ _ _ _ _), hr_l, hW⟩
 rintro ⟨k, m⟩ a w1 ⟨A8, c8, hf, hk, hm, ho8, hr_l, hW⟩
 have hml : m.length ≤ 2 * k := by have := usedFold_len (l.take k) []; rw [← hm, List.length_take] at this; simp only [List.length_nil] at this; omega
 refine wp_seq_k ?_; intro K9 hK9
 refine wp_region_lit ?_
 refine l_e hf rfl (ev_lss hf rfl rfl) ?_; intro a hf
 refine wpList_nil ?_
 refine hK9 _ _ ?_; try clear hK9 K9
 refine wp_seq_k ?_; intro K10 hK10
 refine c_if hf rfl (fun hc11 => ?_) (fun hc11 => ?_)
 ·have hc11b := hc11
  have hc11 := of_decide_eq_true hc11
  obtain ⟨u12, hu12⟩ := getElem_ex (l := l) (k := k) (by omega)
  have hst := foldl_step (f := usedStep) (b := []) hu12
  refine wp_skip ?_
  refine hK10 _ _ ?_; try clear hK10 K10
  refine wp_seq_k ?_; intro K13 hK13
  refine wp_block ?_
  refine wp_seq_k ?_; intro K14 hK14
  refine wp_region_lit ?_
  refine l_index (k := k) (u := u12) (enc := encG) (l := l) hf trivial rfl rfl rfl sl_28 sz_107 encG_len hr_l hu12 rfl ?_; intro a p16 hat15 hf
  refine l_e hf rfl (ev_loadN (l := [.int .i64 u12.k, .int .i64 u12.a, .int .i64 u12.b]) hf rfl tN_107 hat15 rfl) ?_; intro a hf
  refine l_f hf rfl (ef_alloc (zs := [.int .i64 0, .int .i64 0, .int .i64 0]) z_107 rfl) ?_; rintro a _ w2 ⟨b17, rfl, hl17, hE, hB17⟩ hf
  have hlo17 := Nat.le_trans hW.size hl17
  have haw1_17 := hr_l.away hl17
  replace ho8 := ho8.below hE
  replace hr_l := hr_l.below hE
  replace hW := btr hW hE
  clear hE
  refine l_f0 hf (ef_store (vs := [.int .i64 u12.k, .int .i64 u12.a, .int .i64 u12.b]) (l' := [.int .i64 u12.k, .int .i64 u12.a, .int .i64 u12.b]) hf rfl rfl sz_107 hB17 rfl rfl rfl rfl rfl) ?_; rintro a _ w3 ⟨ho, hb⟩ hf
  have hold := hB17
  replace ho8 := ho8.onlyT ho hold rfl
  replace hr_l := hr_l.only ho hlo17
  replace hW := Below.only hW ho hlo17
  clear hold
  have hB17 := hb
  clear hb ho
  refine wpList_nil ?_
  refine hK14 _ _ ?_; try clear hK14 K14
  refine wp_seq_k ?_; intro K18 hK18
  refine wp_seq_k ?_; intro K19 hK19
  refine wp_region_lit ?_
  refine l_e hf rfl (ev_fieldB hf rfl fd_107_0 (m := 0) rfl) ?_; intro a hf
  refine l_e hf rfl (ev_load1 hf rfl t1_3 (hB17.at 0)) ?_; intro a hf
  refine l_e hf rfl (ev_eql hf rfl rfl) ?_; intro a hf
  refine wpList_nil ?_
  refine hK19 _ _ ?_; try clear hK19 K19
  refine c_if hf rfl (fun hc20 => ?_) (fun hc20 => ?_)
  ·have hc20b := hc20
   have hus : usedStep m u12 = m := by rw [usedStep, if_pos (by simpa using hc20)]
   refine wp_exit ?_
   refine x_exS ?_
   refine x_exit ?_
   refine hK13 _ _ ?_; try clear hK13 K13
   refine wp_region_lit ?_
   refine l_e hf rfl (ev_addx hf rfl rfl (by omega) (by omega)) ?_; intro a hf
   refine l_mv hf rfl rfl ?_; intro a hf
   refine wpList_nil ?_
   refine x_thenN ?_
   exact ⟨(k + 1, m), ⟨A8, c8, hf.sub ⟨rfl, rfl, rfl, rfl, trivial⟩, (by omega), (by rw [hst, ← hm, hus]), ho8, hr_l, hW⟩, (by first | omega | (dsimp only; omega))⟩
  ·have hc20b := hc20
   have h12 : ¬ u12.k = 12 := by simpa using hc20
   refine wp_skip ?_
   refine hK18 _ _ ?_; try clear hK18 K18
   refine wp_seq_k ?_; intro K21 hK21
   refine wp_region_lit ?_
   refine l_mv hf rfl rfl ?_; intro a hf
   refine l_e hf rfl (ev_fieldB hf rfl fd_107_1 (m := 1) rfl) ?_; intro a hf
   refine l_e hf rfl (ev_load1 hf rfl t1_3 (hB17.at 1)) ?_; intro a hf
   refine l_f hf rfl (ef_call (vs := [.slice A8 m.length c8, .int .i64 u12.a]) hf rfl ff_128 (F128 _ A8 c8 m ho8.rd.top u12.a w0.heap.size ho8 hW.size (by have := put_len m u12.a; omega))) ?_; rintro a _ w4 ⟨A22, c22, rfl, ho22, hE⟩ hf
   replace hB17 := hB17.below hE
   replace ho8 := ho8.below hE
   replace hr_l := hr_l.below hE
   replace hW := btr hW hE
   clear hE
   refine l_as hf rfl rfl ?_; intro a hf
   refine wpList_nil ?_
   refine hK21 _ _ ?_; try clear hK21 K21
   refine wp_seq_k ?_; intro K23 hK23
   refine wp_region_lit ?_
   refine l_e hf rfl (ev_fieldB hf rfl fd_107_0 (m := 0) rfl) ?_; intro a hf
   refine l_e hf rfl (ev_load1 hf rfl t1_3 (hB17.at 0)) ?_; intro a hf
   refine l_f hf rfl (ef_call (vs := [.int .i64 u12.k, .int .i64 9, .int .i64 11]) hf rfl ff_85 (F85 _ u12.k 9 11)) ?_; rintro a _ _ ⟨rfl, rfl⟩ hf
   refine wpList_nil ?_
   refine hK23 _ _ ?_; try clear hK23 K23
   refine c_if hf rfl (fun hc24 => ?_) (fun hc24 => ?_)
   ·have hc24b := hc24
    have hus : usedStep m u12 = putI (putI m u12.a) u12.b := by rw [usedStep, if_neg h12, if_pos hc24]
    refine wp_region_lit ?_
    refine l_mv hf rfl rfl ?_; intro a hf
    refine l_e hf rfl (ev_fieldB hf rfl fd_107_2 (m := 2) rfl) ?_; intro a hf
    refine l_e hf rfl (ev_load1 hf rfl t1_3 (hB17.at 2)) ?_; intro a hf
    refine l_f hf rfl (ef_call (vs := [.slice A22 (putI m u12.a).length c22, .int .i64 u12.b]) hf rfl ff_128 (F128 _ A22 c22 (putI m u12.a) ho22.rd.top u12.b w0.heap.size ho22 hW.size (by have := put_len m u12.a; omega))) ?_; rintro a _ w5 ⟨A25, c25, rfl, ho25, hE⟩ hf
    replace hB17 := hB17.below hE
    replace ho8 := ho8.below hE
    replace hr_l := hr_l.below hE
    replace ho22 := ho22.below hE
    replace hW := btr hW hE
    clear hE
    refine l_as hf rfl rfl ?_; intro a hf
    refine wpList_nil ?_
    refine x_norm ?_
    refine hK13 _ _ ?_; try clear hK13 K13
    refine wp_region_lit ?_
    refine l_e hf rfl (ev_addx hf rfl rfl (by omega) (by omega)) ?_; intro a hf
    refine l_mv hf rfl rfl ?_; intro a hf
    refine wpList_nil ?_
    refine x_thenN ?_
    exact ⟨(k + 1, putI (putI m u12.a) u12.b), ⟨A25, c25, hf.sub ⟨rfl, rfl, rfl, rfl, trivial⟩, (by omega), (by rw [hst, ← hm, hus]), ho25, hr_l, hW⟩, (by first | omega | (dsimp only; omega))⟩
   ·have hc24b := hc24
    have hus : usedStep m u12 = putI m u12.a := by rw [usedStep, if_neg h12, if_neg (by rw [hc24]; simp)]
    refine wp_skip ?_
    refine x_norm ?_
    refine hK13 _ _ ?_; try clear hK13 K13
    refine wp_region_lit ?_
    refine l_e hf rfl (ev_addx hf rfl rfl (by omega) (by omega)) ?_; intro a hf
    refine l_mv hf rfl rfl ?_; intro a hf
    refine wpList_nil ?_
    refine x_thenN ?_
    exact ⟨(k + 1, putI m u12.a), ⟨A22, c22, hf.sub ⟨rfl, rfl, rfl, rfl, trivial⟩, (by omega), (by rw [hst, ← hm, hus]), ho22, hr_l, hW⟩, (by first | omega | (dsimp only; omega))⟩
 ·have hc11b := hc11
  have hc11 := of_decide_eq_false hc11
  refine wp_exit ?_
  refine x_exS ?_
  refine x_exS ?_
  refine x_exit ?_
  refine hK6 _ _ ?_; try clear hK6 K6
  refine wp_seq_k ?_; intro K26 hK26
  refine wp_region_lit ?_
  refine l_mv hf rfl rfl ?_; intro a hf
  refine l_as hf rfl rfl ?_; intro a hf
  refine wpList_nil ?_
  refine hK26 _ _ ?_; try clear hK26 K26
  refine wp_ret ?_
  refine c_ret hf (res1 hf rfl rfl) ?_
  have hfin : usedS l = m := by rw [hm, List.take_of_length_le (by omega)]; rfl
  rw [hfin]
  exact ⟨A8, c8, rfl, ho8, hW⟩
end Go.Proofs.YtfgnmflfiobkmaaGreat
set_option maxRecDepth 4000
namespace Go.Proofs.YtfgnmflfiobkmaaGreat
open Go.RowKit
theorem F89 (w0 : World) (Al : Option Addr) (cl : Nat) (l : List Gt) (hr_l : Rd w0 w0.heap.size 107 encG Al l) (Aus : Option Addr) (cus : Nat) (us : List Int) (hr_us : Rd w0 w0.heap.size 3 encI Aus us) (hln : l.length ≤ 10000000) (hlu : us.length ≤ 100000000) : Ret Tryz.prog 89 [.slice Al l.length cl, .slice Aus us.length cus] w0 (fun v w => ∃ A c1, v = .agg #[.int .i64 (⟨max 1 (us.length : Int), l.map (smallG us)⟩ : Cx).n, .slice A (⟨max 1 (us.length : Int), l.map (smallG us)⟩ : Cx).gs.length c1] ∧ Own w w0.heap.size 107 3 encG A c1 (⟨max 1 (us.length : Int), l.map (smallG us)⟩ : Cx).gs ∧ Below w0.heap.size w0 w) := by
 refine enter Tryz.func89 rfl 62 rfl rfl ?_
 intro a hf
 have hW : Below w0.heap.size w0 w0 := Below.refl _ _
 refine wp_seq_k ?_; intro K3 hK3
 refine wp_region_lit ?_
 refine l_f hf rfl (ef_alloc (zs := [.int .i64 0, .slice none 0 0]) z_41 rfl) ?_; rintro a _ w1 ⟨b5, rfl, hl5, hE, hB5⟩ hf
 have hlo5 := Nat.le_trans hW.size hl5
 replace hr_l := hr_l.below hE
 replace hr_us := hr_us.below hE
 replace hW := btr hW hE
 clear hE
 refine wpList_nil ?_
 refine hK3 _ _ ?_; try clear hK3 K3
 refine wp_seq_k ?_; intro K6 hK6
 refine wp_region_lit ?_
 refine l_mv hf rfl rfl ?_; intro a hf
 refine l_e hf rfl (ev_len hf rfl sl_36) ?_; intro a hf
 refine l_f hf rfl (ef_call (vs := [.int .i64 1, .int .i64 (us.length : Int)]) hf rfl ff_131 (F131 _ 1 (us.length : Int))) ?_; rintro a _ _ ⟨rfl, rfl⟩ hf
 refine l_e hf rfl (ev_build (ps := [(0, .int .i64 (max 1 (us.length : Int)))]) (cs := [.int .i64 (max 1 (us.length : Int)), .slice none 0 0]) hf rfl (fun _ => by first | rfl | kernel_rfl)) ?_; intro a hf
 refine l_f hf rfl (ef_alloc (zs := [.int .i64 0, .slice none 0 0]) z_41 rfl) ?_; rintro a _ w2 ⟨b9, rfl, hl9, hE, hB9⟩ hf
 have hne5_9 : b5 ≠ b9 := by have := hB5.lt; omega
 have hlo9 := Nat.le_trans hW.size hl9
 replace hB5 := hB5.below hE
 replace hr_l := hr_l.below hE
 replace hr_us := hr_us.below hE
 replace hW := btr hW hE
 clear hE
 refine l_f0 hf (ef_store (vs := [.int .i64 (max 1 (us.length : Int)), .slice none 0 0]) (l' := [.int .i64 (max 1 (us.length : Int)), .slice none 0 0]) hf rfl rfl sz_41 hB9 rfl rfl rfl rfl rfl) ?_; rintro a _ w3 ⟨ho, hb⟩ hf
 have hold := hB9
 replace hB5 := hB5.only ho (by omega)
 replace hr_l := hr_l.onlyT ho hold rfl
 replace hr_us := hr_us.onlyT ho hold rfl
 replace hW := Below.only hW ho hlo9
 clear hold
 have hB9 := hb
 clear hb ho
 refine wpList_nil ?_
 refine hK6 _ _ ?_; try clear hK6 K6
 refine wp_seq_k ?_; intro K10 hK10
 refine wp_seq_k ?_; intro K11 hK11
 refine wp_region_lit ?_
 refine l_mv hf rfl rfl ?_; intro a hf
 refine l_e hf rfl (ev_len hf rfl sl_28) ?_; intro a hf
 refine l_mv hf rfl rfl ?_; intro a hf
 refine wpList_nil ?_
 refine hK11 _ _ ?_; try clear hK11 K11
 refine wp_block ?_
 refine c_loop (σ := Nat × (List Gt)) (fun (s : Nat × (List Gt)) (a : Act) (w : World) => match s with | (k, m) => ∃ A12 c12, Fr a 62 [(1, .slice Aus us.length cus), (4, .pointer (some ⟨b5, 0, none⟩)), (5, .pointer (some ⟨b9, 0, none⟩)), (15, .slice Al l.length cl), (16, .int .i64 (l.length : Int)), (17, .int .i64 (k : Int))] ∧ (k ≤ l.length) ∧ (m = (l.take k).map (smallG us)) ∧ Blk w b5 41 [.int .i64 0, .slice none 0 0] ∧ Blk w b9 41 [.int .i64 (max 1 (us.length : Int)), .slice A12 m.length c12] ∧ Rd w w0.heap.size 107 encG Al l ∧ Rd w w0.heap.size 3 encI Aus us ∧ Own w w0.heap.size 107 3 encG A12 c12 m ∧ Below w0.heap.size w0 w) (fun (s : Nat × (List Gt)) => match s with | (k, m) => l.length - k) (0, []) ?_ ?_
 · exact ⟨none, 0, hf.sub ⟨rfl, rfl, rfl, rfl, rfl, rfl, trivial⟩, (Nat.zero_le _), rfl, hB5, hB9, hr_l, hr_us, (Own.nil _ _ _ _ _), hW⟩
 rintro ⟨k, m⟩ a w4 ⟨A12, c12, hf, hk, hm, hB5, hB9, hr_l, hr_us, ho12, hW⟩
 have hml : m.length = k := by rw [hm, List.length_map, List.length_take, Nat.min_eq_left hk]
 refine wp_seq_k ?_; intro K13 hK13
 refine wp_region_lit ?_
 refine l_e hf rfl (ev_lss hf rfl rfl) ?_; intro a hf
 refine wpList_nil ?_
 refine hK13 _ _ ?_; try clear hK13 K13
 refine wp_seq_k ?_; intro K14 hK14
 refine c_if hf rfl (fun hc15 => ?_) (fun hc15 => ?_)
 ·have hc15b := hc15
  have hc15 := of_decide_eq_true hc15
  obtain ⟨u16, hu16⟩ := getElem_ex (l := l) (k := k) (by omega)
  have hst := map_step (f := smallG us) hu16
  refine wp_skip ?_
  refine hK14 _ _ ?_; try clear hK14 K14
  refine wp_seq_k ?_; intro K17 hK17
  refine wp_block ?_
  refine wp_seq_k ?_; intro K18 hK18
  refine wp_region_lit ?_
  refine l_index (k := k) (u := u16) (enc := encG) (l := l) hf trivial rfl rfl rfl sl_28 sz_107 encG_len hr_l hu16 rfl ?_; intro a p20 hat19 hf
  refine l_e hf rfl (ev_loadN (l := [.int .i64 u16.k, .int .i64 u16.a, .int .i64 u16.b]) hf rfl tN_107 hat19 rfl) ?_; intro a hf
  refine l_f hf rfl (ef_alloc (zs := [.int .i64 0, .int .i64 0, .int .i64 0]) z_107 rfl) ?_; rintro a _ w5 ⟨b21, rfl, hl21, hE, hB21⟩ hf
  have hlo21 := Nat.le_trans hW.size hl21
  have haw1_21 := hr_l.away hl21
  have haw12_21 := ho12.away hl21
  replace hB5 := hB5.below hE
  replace hB9 := hB9.below hE
  replace hr_l := hr_l.below hE
  replace hr_us := hr_us.below hE
  replace ho12 := ho12.below hE
  replace hW := btr hW hE
  clear hE
  refine l_f0 hf (ef_store (vs := [.int .i64 u16.k, .int .i64 u16.a, .int .i64 u16.b]) (l' := [.int .i64 u16.k, .int .i64 u16.a, .int .i64 u16.b]) hf rfl rfl sz_107 hB21 rfl rfl rfl rfl rfl) ?_; rintro a _ w6 ⟨ho, hb⟩ hf
  have hold := hB21
  replace hB5 := hB5.only ho (Blk.ne hB5 hold rfl)
  replace hB9 := hB9.only ho (Blk.ne hB9 hold rfl)
  replace hr_l := hr_l.only ho hlo21
  replace hr_us := hr_us.onlyT ho hold rfl
  replace ho12 := ho12.onlyA ho haw12_21
  replace hW := Below.only hW ho hlo21
  clear hold
  have hB21 := hb
  clear hb ho
  refine wpList_nil ?_
  refine hK18 _ _ ?_; try clear hK18 K18
  refine wp_seq_k ?_; intro K22 hK22
  refine wp_region_lit ?_
  refine l_e hf rfl (ev_fieldB hf rfl fd_107_0 (m := 0) rfl) ?_; intro a hf
  refine l_e hf rfl (ev_load1 hf rfl t1_3 (hB21.at 0)) ?_; intro a hf
  refine l_e hf rfl (ev_build (ps := [(0, .int .i64 u16.k)]) (cs := [.int .i64 u16.k, .int .i64 0, .int .i64 0]) hf rfl (fun _ => by first | rfl | kernel_rfl)) ?_; intro a hf
  refine l_f hf rfl (ef_alloc (zs := [.int .i64 0, .int .i64 0, .int .i64 0]) z_107 rfl) ?_; rintro a _ w7 ⟨b23, rfl, hl23, hE, hB23⟩ hf
  have hne21_23 : b21 ≠ b23 := by have := hB21.lt; omega
  have hlo23 := Nat.le_trans hW.size hl23
  have haw1_23 := hr_l.away hl23
  have haw12_23 := ho12.away hl23
  replace hB5 := hB5.below hE
  replace hB9 := hB9.below hE
  replace hB21 := hB21.below hE
  replace hr_l := hr_l.below hE
  replace hr_us := hr_us.below hE
  replace ho12 := ho12.below hE
  replace hW := btr hW hE
  clear hE
  refine l_f0 hf (ef_store (vs := [.int .i64 u16.k, .int .i64 0, .int .i64 0]) (l' := [.int .i64 u16.k, .int .i64 0, .int .i64 0]) hf rfl rfl sz_107 hB23 rfl rfl rfl rfl rfl) ?_; rintro a _ w8 ⟨ho, hb⟩ hf
  have hold := hB23
  replace hB5 := hB5.only ho (Blk.ne hB5 hold rfl)
  replace hB9 := hB9.only ho (Blk.ne hB9 hold rfl)
  replace hB21 := hB21.only ho (by omega)
  replace hr_l := hr_l.only ho hlo23
  replace hr_us := hr_us.onlyT ho hold rfl
  replace ho12 := ho12.onlyA ho haw12_23
  replace hW := Below.only hW ho hlo23
  clear hold
  have hB23 := hb
  clear hb ho
  refine wpList_nil ?_
  refine hK22 _ _ ?_; try clear hK22 K22
  refine wp_seq_k ?_; intro K24 hK24
  refine wp_seq_k ?_; intro K25 hK25
  refine wp_region_lit ?_
  refine l_mv hf rfl rfl ?_; intro a hf
  refine l_e hf rfl (ev_len hf rfl sl_36) ?_; intro a hf
  refine l_mv hf rfl rfl ?_; intro a hf
  refine wpList_nil ?_
  refine hK25 _ _ ?_; try clear hK25 K25
  refine wp_block ?_
  refine c_loop (σ := Nat × Int × Int) (fun (s : Nat × Int × Int) (a : Act) (w : World) => match s with | (j, x, y) => Fr a 62 [(1, .slice Aus us.length cus), (4, .pointer (some ⟨b5, 0, none⟩)), (5, .pointer (some ⟨b9, 0, none⟩)), (7, .pointer (some ⟨b21, 0, none⟩)), (8, .pointer (some ⟨b23, 0, none⟩)), (15, .slice Al l.length cl), (16, .int .i64 (l.length : Int)), (17, .int .i64 (k : Int)), (24, .slice Aus us.length cus), (25, .int .i64 (us.length : Int)), (26, .int .i64 (j : Int))] ∧ (j ≤ us.length) ∧ (x = if u16.k = 12 then 0 else lastN us u16.a j) ∧ (y = if inR u16.k 9 11 = true then lastN us u16.b j else 0) ∧ Blk w b5 41 [.int .i64 0, .slice none 0 0] ∧ Blk w b9 41 [.int .i64 (max 1 (us.length : Int)), .slice A12 m.length c12] ∧ Blk w b21 107 [.int .i64 u16.k, .int .i64 u16.a, .int .i64 u16.b] ∧ Blk w b23 107 [.int .i64 u16.k, .int .i64 x, .int .i64 y] ∧ Rd w w0.heap.size 107 encG Al l ∧ Rd w w0.heap.size 3 encI Aus us ∧ Own w w0.heap.size 107 3 encG A12 c12 m ∧ Below w0.heap.size w0 w) (fun (s : Nat × Int × Int) => match s with | (j, x, y) => us.length - j) (0, 0, 0) ?_ ?_
  · exact ⟨hf.sub ⟨rfl, rfl, rfl, rfl, rfl, rfl, rfl, rfl, rfl, rfl, rfl, trivial⟩, (Nat.zero_le _), (by split <;> rfl), (by split <;> rfl), hB5, hB9, hB21, hB23, hr_l, hr_us, ho12, hW⟩
  rintro ⟨j, x, y⟩ a w9 ⟨hf, hj, hx, hy, hB5, hB9, hB21, hB23, hr_l, hr_us, ho12, hW⟩
  refine wp_seq_k ?_; intro K26 hK26
  refine wp_region_lit ?_
  refine l_e hf rfl (ev_lss hf rfl rfl) ?_; intro a hf
  refine wpList_nil ?_
  refine hK26 _ _ ?_; try clear hK26 K26
  refine wp_seq_k ?_; intro K27 hK27
  refine c_if hf rfl (fun hc28 => ?_) (fun hc28 => ?_)
  ·have hc28b := hc28
   have hc28 := of_decide_eq_true hc28
   obtain ⟨u29, hu29⟩ := getElem_ex (l := us) (k := j) (by omega)
   refine wp_skip ?_
   refine hK27 _ _ ?_; try clear hK27 K27
   refine wp_seq_k ?_; intro K30 hK30
   refine wp_block ?_
   refine wp_seq_k ?_; intro K31 hK31
   refine wp_region_lit ?_
   refine l_mv hf rfl rfl ?_; intro a hf
   refine l_index (k := j) (u := u29) (enc := encI) (l := us) hf trivial rfl rfl rfl sl_36 sz_3 encI_len hr_us hu29 rfl ?_; intro a p33 hat32 hf
   refine l_e hf rfl (ev_load1 hf rfl t1_3 hat32) ?_; intro a hf
   refine l_as hf rfl rfl ?_; intro a hf
   refine l_as hf rfl rfl ?_; intro a hf
   refine wpList_nil ?_
   refine hK31 _ _ ?_; try clear hK31 K31
   refine wp_seq_k ?_; intro K34 hK34
   refine wp_seq_k ?_; intro K35 hK35
   refine c_cut (fun a w => Fr a 62 [(1, .slice Aus us.length cus), (4, .pointer (some ⟨b5, 0, none⟩)), (5, .pointer (some ⟨b9, 0, none⟩)), (7, .pointer (some ⟨b21, 0, none⟩)), (8, .pointer (some ⟨b23, 0, none⟩)), (9, .int .i64 (j : Int)), (10, .int .i64 u29), (15, .slice Al l.length cl), (16, .int .i64 (l.length : Int)), (17, .int .i64 (k : Int)), (24, .slice Aus us.length cus), (25, .int .i64 (us.length : Int)), (26, .int .i64 (j : Int)), (39, .bool ((u16.k != 12) && (u29 == u16.a)))] ∧ w9 = w) ?_ ?_
   ·refine wp_region_lit ?_
    refine l_e hf rfl (ev_fieldB hf rfl fd_107_0 (m := 0) rfl) ?_; intro a hf
    refine l_e hf rfl (ev_load1 hf rfl t1_3 (hB21.at 0)) ?_; intro a hf
    refine l_e hf rfl (ev_neq hf rfl rfl) ?_; intro a hf
    refine l_mv hf rfl rfl ?_; intro a hf
    refine g_split hf (t := 34) rfl (fun hg36 => ?_) (fun hg36 => ?_)
    ·refine l_ev hf ⟨_, _, rfl, rfl, hg36⟩ rfl rfl (ev_move hf rfl) ?_; intro a hf
     refine l_ev hf ⟨_, _, rfl, rfl, hg36⟩ rfl rfl (ev_fieldB hf rfl fd_107_1 (m := 1) rfl) ?_; intro a hf
     refine l_ev hf ⟨_, _, rfl, rfl, hg36⟩ rfl rfl (ev_load1 hf rfl t1_3 (hB21.at 1)) ?_; intro a hf
     refine l_ev hf ⟨_, _, rfl, rfl, hg36⟩ rfl rfl (ev_eql hf rfl rfl) ?_; intro a hf
     refine l_e hf rfl (ev_pickT hf rfl hg36 rfl) ?_; intro a hf
     refine wpList_nil ?_
     exact ⟨hf.sub ⟨rfl, rfl, rfl, rfl, rfl, rfl, rfl, rfl, rfl, rfl, rfl, rfl, rfl, look_bool rfl (by first | rfl | (simp only [hc15b, hc28b, hg36, Bool.true_and, Bool.false_and, Bool.true_or, Bool.false_or]; done) | simp [hc15b, hc28b, hg36]), trivial⟩, rfl⟩
    ·refine l_pass hf ⟨_, _, rfl, rfl, hg36⟩ rfl rfl ?_; intro a hf
     refine l_pass hf ⟨_, _, rfl, rfl, hg36⟩ rfl rfl ?_; intro a hf
     refine l_pass hf ⟨_, _, rfl, rfl, hg36⟩ rfl rfl ?_; intro a hf
     refine l_pass hf ⟨_, _, rfl, rfl, hg36⟩ rfl rfl ?_; intro a hf
     refine l_e hf rfl (ev_pickF hf rfl hg36 rfl) ?_; intro a hf
     refine wpList_nil ?_
     exact ⟨hf.sub ⟨rfl, rfl, rfl, rfl, rfl, rfl, rfl, rfl, rfl, rfl, rfl, rfl, rfl, look_bool rfl (by first | rfl | (simp only [hc15b, hc28b, hg36, Bool.true_and, Bool.false_and, Bool.true_or, Bool.false_or]; done) | simp [hc15b, hc28b, hg36]), trivial⟩, rfl⟩
   rintro a _ ⟨hf, rfl⟩
   refine hK35 _ _ ?_; try clear hK35 K35
   refine c_if hf rfl (fun hc37 => ?_) (fun hc37 => ?_)
   ·have hc37b := hc37
    refine wp_region_lit ?_
    refine l_mv hf rfl rfl ?_; intro a hf
    refine l_e hf rfl (ev_fieldB hf rfl fd_107_1 (m := 1) rfl) ?_; intro a hf
    refine l_f0 hf (ef_store (vs := [.int .i64 (j : Int)]) (l' := [.int .i64 u16.k, .int .i64 (j : Int), .int .i64 y]) hf rfl rfl sz_3 hB23 rfl rfl rfl rfl rfl) ?_; rintro a _ w10 ⟨ho, hb⟩ hf
    have hold := hB23
    replace hB5 := hB5.only ho (Blk.ne hB5 hold rfl)
    replace hB9 := hB9.only ho (Blk.ne hB9 hold rfl)
    replace hB21 := hB21.only ho (by omega)
    replace hr_l := hr_l.only ho hlo23
    replace hr_us := hr_us.onlyT ho hold rfl
    replace ho12 := ho12.onlyA ho haw12_23
    replace hW := Below.only hW ho hlo23
    clear hold
    have hB23 := hb
    clear hb ho
    refine wpList_nil ?_
    refine hK34 _ _ ?_; try clear hK34 K34
    refine wp_seq_k ?_; intro K38 hK38
    refine c_cut (fun a w => Fr a 62 [(1, .slice Aus us.length cus), (4, .pointer (some ⟨b5, 0, none⟩)), (5, .pointer (some ⟨b9, 0, none⟩)), (7, .pointer (some ⟨b21, 0, none⟩)), (8, .pointer (some ⟨b23, 0, none⟩)), (9, .int .i64 (j : Int)), (15, .slice Al l.length cl), (16, .int .i64 (l.length : Int)), (17, .int .i64 (k : Int)), (24, .slice Aus us.length cus), (25, .int .i64 (us.length : Int)), (26, .int .i64 (j : Int)), (50, .bool ((inR u16.k 9 11) && (u29 == u16.b)))] ∧ w10 = w) ?_ ?_
    ·refine wp_region_lit ?_
     refine l_e hf rfl (ev_fieldB hf rfl fd_107_0 (m := 0) rfl) ?_; intro a hf
     refine l_e hf rfl (ev_load1 hf rfl t1_3 (hB21.at 0)) ?_; intro a hf
     refine l_f hf rfl (ef_call (vs := [.int .i64 u16.k, .int .i64 9, .int .i64 11]) hf rfl ff_85 (F85 _ u16.k 9 11)) ?_; rintro a _ _ ⟨rfl, rfl⟩ hf
     refine l_mv hf rfl rfl ?_; intro a hf
     refine g_split hf (t := 45) rfl (fun hg39 => ?_) (fun hg39 => ?_)
     ·refine l_ev hf ⟨_, _, rfl, rfl, hg39⟩ rfl rfl (ev_move hf rfl) ?_; intro a hf
      refine l_ev hf ⟨_, _, rfl, rfl, hg39⟩ rfl rfl (ev_fieldB hf rfl fd_107_2 (m := 2) rfl) ?_; intro a hf
      refine l_ev hf ⟨_, _, rfl, rfl, hg39⟩ rfl rfl (ev_load1 hf rfl t1_3 (hB21.at 2)) ?_; intro a hf
      refine l_ev hf ⟨_, _, rfl, rfl, hg39⟩ rfl rfl (ev_eql hf rfl rfl) ?_; intro a hf
      refine l_e hf rfl (ev_pickT hf rfl hg39 rfl) ?_; intro a hf
      refine wpList_nil ?_
      exact ⟨hf.sub ⟨rfl, rfl, rfl, rfl, rfl, rfl, rfl, rfl, rfl, rfl, rfl, rfl, look_bool rfl (by first | rfl | (simp only [hc15b, hc28b, hc37b, hg39, Bool.true_and, Bool.false_and, Bool.true_or, Bool.false_or]; done) | simp [hc15b, hc28b, hc37b, hg39]), trivial⟩, rfl⟩
     ·refine l_pass hf ⟨_, _, rfl, rfl, hg39⟩ rfl rfl ?_; intro a hf
      refine l_pass hf ⟨_, _, rfl, rfl, hg39⟩ rfl rfl ?_; intro a hf
      refine l_pass hf ⟨_, _, rfl, rfl, hg39⟩ rfl rfl ?_; intro a hf
      refine l_pass hf ⟨_, _, rfl, rfl, hg39⟩ rfl rfl ?_; intro a hf
      refine l_e hf rfl (ev_pickF hf rfl hg39 rfl) ?_; intro a hf
      refine wpList_nil ?_
      exact ⟨hf.sub ⟨rfl, rfl, rfl, rfl, rfl, rfl, rfl, rfl, rfl, rfl, rfl, rfl, look_bool rfl (by first | rfl | (simp only [hc15b, hc28b, hc37b, hg39, Bool.true_and, Bool.false_and, Bool.true_or, Bool.false_or]; done) | simp [hc15b, hc28b, hc37b, hg39]), trivial⟩, rfl⟩
    rintro a _ ⟨hf, rfl⟩
    refine hK38 _ _ ?_; try clear hK38 K38
    refine c_if hf rfl (fun hc40 => ?_) (fun hc40 => ?_)
    ·have hc40b := hc40
     refine wp_region_lit ?_
     refine l_mv hf rfl rfl ?_; intro a hf
     refine l_e hf rfl (ev_fieldB hf rfl fd_107_2 (m := 2) rfl) ?_; intro a hf
     refine l_f0 hf (ef_store (vs := [.int .i64 (j : Int)]) (l' := [.int .i64 u16.k, .int .i64 (j : Int), .int .i64 (j : Int)]) hf rfl rfl sz_3 hB23 rfl rfl rfl rfl rfl) ?_; rintro a _ w11 ⟨ho, hb⟩ hf
     have hold := hB23
     replace hB5 := hB5.only ho (Blk.ne hB5 hold rfl)
     replace hB9 := hB9.only ho (Blk.ne hB9 hold rfl)
     replace hB21 := hB21.only ho (by omega)
     replace hr_l := hr_l.only ho hlo23
     replace hr_us := hr_us.onlyT ho hold rfl
     replace ho12 := ho12.onlyA ho haw12_23
     replace hW := Below.only hW ho hlo23
     clear hold
     have hB23 := hb
     clear hb ho
     refine wpList_nil ?_
     refine x_norm ?_
     refine hK30 _ _ ?_; try clear hK30 K30
     refine wp_region_lit ?_
     refine l_e hf rfl (ev_addx hf rfl rfl (by omega) (by omega)) ?_; intro a hf
     refine l_mv hf rfl rfl ?_; intro a hf
     refine wpList_nil ?_
     refine x_thenN ?_
     exact ⟨(j + 1, (j : Int), (j : Int)), ⟨hf.sub ⟨rfl, rfl, rfl, rfl, rfl, rfl, rfl, rfl, rfl, rfl, rfl, trivial⟩, (by omega), (by first | exact small_xT hu29 (by assumption) | exact small_xF hu29 hx (by assumption)), (by first | exact small_yT hu29 (by assumption) | exact small_yF hu29 hy (by assumption)), hB5, hB9, hB21, hB23, hr_l, hr_us, ho12, hW⟩, (by first | omega | (dsimp only; omega))⟩
    ·have hc40b := hc40
     refine wp_skip ?_
     refine x_norm ?_
     refine hK30 _ _ ?_; try clear hK30 K30
     refine wp_region_lit ?_
     refine l_e hf rfl (ev_addx hf rfl rfl (by omega) (by omega)) ?_; intro a hf
     refine l_mv hf rfl rfl ?_; intro a hf
     refine wpList_nil ?_
     refine x_thenN ?_
     exact ⟨(j + 1, (j : Int), y), ⟨hf.sub ⟨rfl, rfl, rfl, rfl, rfl, rfl, rfl, rfl, rfl, rfl, rfl, trivial⟩, (by omega), (by first | exact small_xT hu29 (by assumption) | exact small_xF hu29 hx (by assumption)), (by first | exact small_yT hu29 (by assumption) | exact small_yF hu29 hy (by assumption)), hB5, hB9, hB21, hB23, hr_l, hr_us, ho12, hW⟩, (by first | omega | (dsimp only; omega))⟩
   ·have hc37b := hc37
    refine wp_skip ?_
    refine hK34 _ _ ?_; try clear hK34 K34
    refine wp_seq_k ?_; intro K41 hK41
    refine c_cut (fun a w => Fr a 62 [(1, .slice Aus us.length cus), (4, .pointer (some ⟨b5, 0, none⟩)), (5, .pointer (some ⟨b9, 0, none⟩)), (7, .pointer (some ⟨b21, 0, none⟩)), (8, .pointer (some ⟨b23, 0, none⟩)), (9, .int .i64 (j : Int)), (15, .slice Al l.length cl), (16, .int .i64 (l.length : Int)), (17, .int .i64 (k : Int)), (24, .slice Aus us.length cus), (25, .int .i64 (us.length : Int)), (26, .int .i64 (j : Int)), (50, .bool ((inR u16.k 9 11) && (u29 == u16.b)))] ∧ w9 = w) ?_ ?_
    ·refine wp_region_lit ?_
     refine l_e hf rfl (ev_fieldB hf rfl fd_107_0 (m := 0) rfl) ?_; intro a hf
     refine l_e hf rfl (ev_load1 hf rfl t1_3 (hB21.at 0)) ?_; intro a hf
     refine l_f hf rfl (ef_call (vs := [.int .i64 u16.k, .int .i64 9, .int .i64 11]) hf rfl ff_85 (F85 _ u16.k 9 11)) ?_; rintro a _ _ ⟨rfl, rfl⟩ hf
     refine l_mv hf rfl rfl ?_; intro a hf
     refine g_split hf (t := 45) rfl (fun hg42 => ?_) (fun hg42 => ?_)
     ·refine l_ev hf ⟨_, _, rfl, rfl, hg42⟩ rfl rfl (ev_move hf rfl) ?_; intro a hf
      refine l_ev hf ⟨_, _, rfl, rfl, hg42⟩ rfl rfl (ev_fieldB hf rfl fd_107_2 (m := 2) rfl) ?_; intro a hf
      refine l_ev hf ⟨_, _, rfl, rfl, hg42⟩ rfl rfl (ev_load1 hf rfl t1_3 (hB21.at 2)) ?_; intro a hf
      refine l_ev hf ⟨_, _, rfl, rfl, hg42⟩ rfl rfl (ev_eql hf rfl rfl) ?_; intro a hf
      refine l_e hf rfl (ev_pickT hf rfl hg42 rfl) ?_; intro a hf
      refine wpList_nil ?_
      exact ⟨hf.sub ⟨rfl, rfl, rfl, rfl, rfl, rfl, rfl, rfl, rfl, rfl, rfl, rfl, look_bool rfl (by first | rfl | (simp only [hc15b, hc28b, hc37b, hg42, Bool.true_and, Bool.false_and, Bool.true_or, Bool.false_or]; done) | simp [hc15b, hc28b, hc37b, hg42]), trivial⟩, rfl⟩
     ·refine l_pass hf ⟨_, _, rfl, rfl, hg42⟩ rfl rfl ?_; intro a hf
      refine l_pass hf ⟨_, _, rfl, rfl, hg42⟩ rfl rfl ?_; intro a hf
      refine l_pass hf ⟨_, _, rfl, rfl, hg42⟩ rfl rfl ?_; intro a hf
      refine l_pass hf ⟨_, _, rfl, rfl, hg42⟩ rfl rfl ?_; intro a hf
      refine l_e hf rfl (ev_pickF hf rfl hg42 rfl) ?_; intro a hf
      refine wpList_nil ?_
      exact ⟨hf.sub ⟨rfl, rfl, rfl, rfl, rfl, rfl, rfl, rfl, rfl, rfl, rfl, rfl, look_bool rfl (by first | rfl | (simp only [hc15b, hc28b, hc37b, hg42, Bool.true_and, Bool.false_and, Bool.true_or, Bool.false_or]; done) | simp [hc15b, hc28b, hc37b, hg42]), trivial⟩, rfl⟩
    rintro a _ ⟨hf, rfl⟩
    refine hK41 _ _ ?_; try clear hK41 K41
    refine c_if hf rfl (fun hc43 => ?_) (fun hc43 => ?_)
    ·have hc43b := hc43
     refine wp_region_lit ?_
     refine l_mv hf rfl rfl ?_; intro a hf
     refine l_e hf rfl (ev_fieldB hf rfl fd_107_2 (m := 2) rfl) ?_; intro a hf
     refine l_f0 hf (ef_store (vs := [.int .i64 (j : Int)]) (l' := [.int .i64 u16.k, .int .i64 x, .int .i64 (j : Int)]) hf rfl rfl sz_3 hB23 rfl rfl rfl rfl rfl) ?_; rintro a _ w12 ⟨ho, hb⟩ hf
     have hold := hB23
     replace hB5 := hB5.only ho (Blk.ne hB5 hold rfl)
     replace hB9 := hB9.only ho (Blk.ne hB9 hold rfl)
     replace hB21 := hB21.only ho (by omega)
     replace hr_l := hr_l.only ho hlo23
     replace hr_us := hr_us.onlyT ho hold rfl
     replace ho12 := ho12.onlyA ho haw12_23
     replace hW := Below.only hW ho hlo23
     clear hold
     have hB23 := hb
     clear hb ho
     refine wpList_nil ?_
     refine x_norm ?_
     refine hK30 _ _ ?_; try clear hK30 K30
     refine wp_region_lit ?_
     refine l_e hf rfl (ev_addx hf rfl rfl (by omega) (by omega)) ?_; intro a hf
     refine l_mv hf rfl rfl ?_; intro a hf
     refine wpList_nil ?_
     refine x_thenN ?_
     exact ⟨(j + 1, x, (j : Int)), ⟨hf.sub ⟨rfl, rfl, rfl, rfl, rfl, rfl, rfl, rfl, rfl, rfl, rfl, trivial⟩, (by omega), (by first | exact small_xT hu29 (by assumption) | exact small_xF hu29 hx (by assumption)), (by first | exact small_yT hu29 (by assumption) | exact small_yF hu29 hy (by assumption)), hB5, hB9, hB21, hB23, hr_l, hr_us, ho12, hW⟩, (by first | omega | (dsimp only; omega))⟩
    ·have hc43b := hc43
     refine wp_skip ?_
     refine x_norm ?_
     refine hK30 _ _ ?_; try clear hK30 K30
     refine wp_region_lit ?_
     refine l_e hf rfl (ev_addx hf rfl rfl (by omega) (by omega)) ?_; intro a hf
     refine l_mv hf rfl rfl ?_; intro a hf
     refine wpList_nil ?_
     refine x_thenN ?_
     exact ⟨(j + 1, x, y), ⟨hf.sub ⟨rfl, rfl, rfl, rfl, rfl, rfl, rfl, rfl, rfl, rfl, rfl, trivial⟩, (by omega), (by first | exact small_xT hu29 (by assumption) | exact small_xF hu29 hx (by assumption)), (by first | exact small_yT hu29 (by assumption) | exact small_yF hu29 hy (by assumption)), hB5, hB9, hB21, hB23, hr_l, hr_us, ho12, hW⟩, (by first | omega | (dsimp only; omega))⟩
  ·have hc28b := hc28
   have hc28 := of_decide_eq_false hc28
   have hjl : j = us.length := by omega
   refine wp_exit ?_
   refine x_exS ?_
   refine x_exS ?_
   refine x_exit ?_
   refine hK24 _ _ ?_; try clear hK24 K24
   refine wp_region_lit ?_
   refine l_e hf rfl (ev_fieldB hf rfl fd_41_1 (m := 1) rfl) ?_; intro a hf
   refine l_e hf rfl (ev_load1 hf rfl t1_28 (hB9.at 1)) ?_; intro a hf
   refine l_e hf rfl (ev_loadN (l := [.int .i64 u16.k, .int .i64 x, .int .i64 y]) hf rfl tN_107 (hB23.at 0) rfl) ?_; intro a hf
   refine l_f hf rfl (ef_buildSlice (k := 1) (vs := [.agg #[.int .i64 u16.k, .int .i64 x, .int .i64 y]]) (zs := [.int .i64 u16.k, .int .i64 x, .int .i64 y]) hf rfl sl_28 inf_107 rfl rfl) ?_; rintro a _ w13 ⟨b44, rfl, hl44, hE, hB44⟩ hf
   have hne21_44 : b21 ≠ b44 := by have := hB21.lt; omega
   have hne23_44 : b23 ≠ b44 := by have := hB23.lt; omega
   have hlo44 := Nat.le_trans hW.size hl44
   have haw1_44 := hr_l.away hl44
   have haw12_44 := ho12.away hl44
   replace hB5 := hB5.below hE
   replace hB9 := hB9.below hE
   replace hB21 := hB21.below hE
   replace hB23 := hB23.below hE
   replace hr_l := hr_l.below hE
   replace hr_us := hr_us.below hE
   replace ho12 := ho12.below hE
   replace hW := btr hW hE
   clear hE
   refine l_f hf rfl (ef_append (enc := encG) (l := (m)) (l2 := ([(⟨u16.k, x, y⟩ : Gt)])) (B0 := w0.heap.size) hf rfl rfl sl_28 inf_107 encG_len encG_one ho12 (Rd.of_blk hB44 rfl _ hB44.lt) (by simp only [maxLen]; simp; omega) (by simp; omega) hW.size) ?_; rintro a _ w14 ⟨A46, c46, rfl, ho46, hg, hat⟩ hf
   have hown : Own _ w0.heap.size 107 3 encG _ _ (m) := ho12
   have haw46_21 := hat _ hB21.lt haw12_21
   have haw46_23 := hat _ hB23.lt haw12_23
   have haw46_44 := hat _ hB44.lt haw12_44
   clear hat
   replace hB5 := hB5.appT hown hg rfl
   replace hB9 := hB9.appT hown hg rfl
   replace hB21 := hB21.appA hg haw12_21
   replace hB23 := hB23.appA hg haw12_23
   replace hr_l := hr_l.appB hown hg (Nat.le_refl _)
   replace hr_us := hr_us.appT hown hg rfl
   replace hW := Below.app hW hown hg (Nat.le_refl _) hW.size
   clear hown hg
   refine l_e hf rfl (ev_fieldB hf rfl fd_41_1 (m := 1) rfl) ?_; intro a hf
   refine l_f0 hf (ef_store (vs := [.slice A46 (m ++ ([(⟨u16.k, x, y⟩ : Gt)])).length c46]) (l' := [.int .i64 (max 1 (us.length : Int)), .slice A46 (m ++ ([(⟨u16.k, x, y⟩ : Gt)])).length c46]) hf rfl rfl sz_28 hB9 rfl rfl rfl rfl rfl) ?_; rintro a _ w15 ⟨ho, hb⟩ hf
   have hold := hB9
   replace hB5 := hB5.only ho (by omega)
   replace hB21 := hB21.only ho (Blk.ne hB21 hold rfl)
   replace hB23 := hB23.only ho (Blk.ne hB23 hold rfl)
   replace hr_l := hr_l.onlyT ho hold rfl
   replace hr_us := hr_us.onlyT ho hold rfl
   replace ho46 := ho46.onlyT ho hold rfl
   replace hW := Below.only hW ho hlo9
   clear hold
   have hB9 := hb
   clear hb ho
   refine wpList_nil ?_
   refine x_norm ?_
   refine hK17 _ _ ?_; try clear hK17 K17
   refine wp_region_lit ?_
   refine l_e hf rfl (ev_addx hf rfl rfl (by omega) (by omega)) ?_; intro a hf
   refine l_mv hf rfl rfl ?_; intro a hf
   refine wpList_nil ?_
   refine x_thenN ?_
   exact ⟨(k + 1, m ++ [(⟨u16.k, x, y⟩ : Gt)]), ⟨A46, c46, hf.sub ⟨rfl, rfl, rfl, rfl, rfl, rfl, trivial⟩, (by omega), (by rw [hst, hm, smallG, ← hjl, ← hx, ← hy]), hB5, hB9, hr_l, hr_us, ho46, hW⟩, (by first | omega | (dsimp only; omega))⟩
 ·have hc15b := hc15
  have hc15 := of_decide_eq_false hc15
  refine wp_exit ?_
  refine x_exS ?_
  refine x_exS ?_
  refine x_exit ?_
  refine hK10 _ _ ?_; try clear hK10 K10
  refine wp_seq_k ?_; intro K47 hK47
  refine wp_region_lit ?_
  refine l_e hf rfl (ev_loadN (l := [.int .i64 (max 1 (us.length : Int)), .slice A12 m.length c12]) hf rfl tN_41 (hB9.at 0) rfl) ?_; intro a hf
  refine l_f0 hf (ef_store (vs := [.int .i64 (max 1 (us.length : Int)), .slice A12 m.length c12]) (l' := [.int .i64 (max 1 (us.length : Int)), .slice A12 m.length c12]) hf rfl rfl sz_41 hB5 rfl rfl rfl rfl rfl) ?_; rintro a _ w16 ⟨ho, hb⟩ hf
  have hold := hB5
  replace hB9 := hB9.only ho (by omega)
  replace hr_l := hr_l.onlyT ho hold rfl
  replace hr_us := hr_us.onlyT ho hold rfl
  replace ho12 := ho12.onlyT ho hold rfl
  replace hW := Below.only hW ho hlo5
  clear hold
  have hB5 := hb
  clear hb ho
  refine wpList_nil ?_
  refine hK47 _ _ ?_; try clear hK47 K47
  refine wp_ret ?_
  refine c_ret hf (res1 hf rfl (ResV.cellN (l := [.int .i64 (max 1 (us.length : Int)), .slice A12 m.length c12]) rfl tN_41 (hB5.at 0) rfl)) ?_
  have hfin : l.map (smallG us) = m := by rw [hm, List.take_of_length_le (by omega)]
  rw [hfin]
  exact ⟨A12, c12, rfl, ho12, hW⟩
end Go.Proofs.YtfgnmflfiobkmaaGreat
set_option maxRecDepth 4000
namespace Go.Proofs.YtfgnmflfiobkmaaGreat
open Go.RowKit
theorem F44 (w0 : World) (r : Rp) (Ar : Option Addr) (cr : Nat) (hr_r : Rd w0 w0.heap.size 107 encG Ar r.old) (Br : Option Addr) (dr : Nat) (hs_r : Rd w0 w0.heap.size 107 encG Br r.new) (hla : r.old.length ≤ 1000000) (hlb : r.new.length ≤ 1000000) : Ret Tryz.prog 44 [.agg #[.int .i64 r.pos, .slice Ar r.old.length cr, .slice Br r.new.length dr]] w0 (fun v w => v = .tuple #[.bool ((justS r).1), .bool ((justS r).2)] ∧ Below w0.heap.size w0 w) := by
 refine enter Tryz.func44 rfl 24 rfl rfl ?_
 intro a hf
 have hW : Below w0.heap.size w0 w0 := Below.refl _ _
 refine wp_seq_k ?_; intro K3 hK3
 refine wp_region_lit ?_
 refine l_f hf rfl (ef_box (zs := [.int .i64 r.pos, .slice Ar r.old.length cr, .slice Br r.new.length dr]) hf rfl rfl) ?_; rintro a _ w1 ⟨b4, rfl, hl4, hE, hB4⟩ hf
 have hlo4 := Nat.le_trans hW.size hl4
 replace hr_r := hr_r.below hE
 replace hs_r := hs_r.below hE
 replace hW := btr hW hE
 clear hE
 refine l_as hf rfl rfl ?_; intro a hf
 refine l_as hf rfl rfl ?_; intro a hf
 refine wpList_nil ?_
 refine hK3 _ _ ?_; try clear hK3 K3
 refine wp_seq_k ?_; intro K5 hK5
 refine wp_draw none (fun j => [6].contains j) mixed ?_
 intro w2 hE
 replace hB4 := hB4.below hE
 replace hr_r := hr_r.below hE
 replace hs_r := hs_r.below hE
 replace hW := btr hW hE
 clear hE
 refine s_e0 1 rfl (by kernel_rfl) hf rfl (fun _ => ev_fieldB hf rfl fd_30_1 (m := 1) rfl) ?_; intro a hf
 refine s_e 2 rfl (by kernel_rfl) (by kernel_rfl) hf rfl (ev_load1 hf rfl t1_28 (hB4.at 1)) ?_; intro a hf
 refine s_e0 4 rfl (by kernel_rfl) hf rfl (fun _ => ev_fieldB hf rfl fd_30_2 (m := 2) rfl) ?_; intro a hf
 refine s_e 5 rfl (by kernel_rfl) (by kernel_rfl) hf rfl (ev_load1 hf rfl t1_28 (hB4.at 2)) ?_; intro a hf
 refine s_one 0 (by kernel_rfl) ?_
 refine p_eff rfl hf trivial rfl rfl (Ef.mono (ef_buildSlice (k := 0) (vs := []) (zs := []) hf rfl sl_28 inf_107 rfl rfl) (fun _ _ h => ⟨fun _ => by obtain ⟨_, _, _, hE, _⟩ := h; exact hE, h⟩)) ?_; rintro a _ w3 ⟨b6, rfl, hl6, hE, hB6⟩ hf
 have hlo6 := Nat.le_trans hW.size hl6
 have haw1_6 := hr_r.away hl6
 have haw2_6 := hs_r.away hl6
 replace hB4 := hB4.below hE
 replace hr_r := hr_r.below hE
 replace hs_r := hs_r.below hE
 replace hW := btr hW hE
 clear hE
 refine s_one 3 (by kernel_rfl) ?_
 refine p_eff rfl hf trivial rfl rfl (Ef.mono (ef_append0 (enc := encG) (l2 := (r.old)) hf rfl rfl sl_28 inf_107 encG_len encG_one hB6 hr_r (by simp only [maxLen]; omega) (by omega)) (fun _ _ h => ⟨fun _ => by obtain ⟨A8, c8, rfl, ho8, hE⟩ := h; exact hE, h⟩)) ?_; rintro a _ w4 ⟨A8, c8, rfl, ho8, hE⟩ hf
 replace ho8 := ho8.lower hlo6
 replace hB4 := hB4.below hE
 replace hr_r := hr_r.below hE
 replace hs_r := hs_r.below hE
 replace hW := btr hW hE
 clear hE
 refine s_one 6 (by kernel_rfl) ?_
 refine p_eff rfl hf trivial rfl rfl (Ef.mono (ef_append (enc := encG) (l := (r.old)) (l2 := (r.new)) (B0 := w0.heap.size) hf rfl rfl sl_28 inf_107 encG_len encG_one ho8 hs_r (by simp only [maxLen]; omega) (by omega) hW.size) (fun _ _ h => ⟨fun h0 => absurd h0 (by decide), h⟩)) ?_; rintro a _ w5 ⟨A9, c9, rfl, ho9, hg, hat⟩ hf
 have hown : Own _ w0.heap.size 107 3 encG _ _ (r.old) := ho8
 clear hat
 replace hB4 := hB4.appT hown hg rfl
 replace hr_r := hr_r.appB hown hg (Nat.le_refl _)
 replace hs_r := hs_r.appB hown hg (Nat.le_refl _)
 replace hW := Below.app hW hown hg (Nat.le_refl _) hW.size
 clear hown hg
 refine s_one 7 (by kernel_rfl) ?_
 refine p_eff rfl hf trivial rfl rfl (Ef.mono (ef_call (vs := [.slice A9 (r.old ++ r.new).length c9]) hf rfl ff_87 (F87 _ A9 c9 (r.old ++ r.new) ho9.rd.top (by simp; omega))) (fun _ _ h => ⟨fun _ => by obtain ⟨A10, c10, rfl, ho10, hE⟩ := h; exact hE, h⟩)) ?_; rintro a _ w6 ⟨A10, c10, rfl, ho10, hE⟩ hf
 replace ho10 := ho10.lower hW.size
 replace hB4 := hB4.below hE
 replace hr_r := hr_r.below hE
 replace hs_r := hs_r.below hE
 replace ho9 := ho9.below hE
 replace hW := btr hW hE
 clear hE
 refine s_e0 8 rfl (by kernel_rfl) hf rfl (fun _ => ev_assign hf rfl) ?_; intro a hf
 refine s_done (by kernel_rfl) ?_
 refine hK5 _ _ ?_; try clear hK5 K5
 refine wp_seq_k ?_; intro K11 hK11
 refine wp_draw none (fun _ => false) mixed ?_
 intro w7 hE
 replace hB4 := hB4.below hE
 replace hr_r := hr_r.below hE
 replace hs_r := hs_r.below hE
 replace ho9 := ho9.below hE
 replace ho10 := ho10.below hE
 replace hW := btr hW hE
 clear hE
 refine s_e0 0 rfl (by kernel_rfl) hf rfl (fun _ => ev_fieldB hf rfl fd_30_1 (m := 1) rfl) ?_; intro a hf
 refine s_e 1 rfl (by kernel_rfl) (by kernel_rfl) hf rfl (ev_load1 hf rfl t1_28 (hB4.at 1)) ?_; intro a hf
 refine s_e0 2 rfl (by kernel_rfl) hf rfl (fun _ => ev_move hf rfl) ?_; intro a hf
 refine s_e0 4 rfl (by kernel_rfl) hf rfl (fun _ => ev_fieldB hf rfl fd_30_2 (m := 2) rfl) ?_; intro a hf
 refine s_e 5 rfl (by kernel_rfl) (by kernel_rfl) hf rfl (ev_load1 hf rfl t1_28 (hB4.at 2)) ?_; intro a hf
 refine s_e0 6 rfl (by kernel_rfl) hf rfl (fun _ => ev_move hf rfl) ?_; intro a hf
 refine s_one 3 (by kernel_rfl) ?_
 refine p_eff rfl hf trivial rfl rfl (Ef.mono (ef_call (vs := [.slice Ar r.old.length cr, .slice A10 (usedS (r.old ++ r.new)).length c10]) hf rfl ff_89 (F89 _ Ar cr r.old hr_r.top A10 c10 (usedS (r.old ++ r.new)) ho10.rd.top (by omega) (by have := usedS_len (r.old ++ r.new); simp only [List.length_append] at this; omega))) (fun _ _ h => ⟨fun _ => by obtain ⟨A12, c12, rfl, ho12, hE⟩ := h; exact hE, h⟩)) ?_; rintro a _ w8 ⟨A12, c12, rfl, ho12, hE⟩ hf
 replace ho12 := ho12.lower hW.size
 replace hB4 := hB4.below hE
 replace hr_r := hr_r.below hE
 replace hs_r := hs_r.below hE
 replace ho9 := ho9.below hE
 replace ho10 := ho10.below hE
 replace hW := btr hW hE
 clear hE
 refine s_one 7 (by kernel_rfl) ?_
 refine p_eff rfl hf trivial rfl rfl (Ef.mono (ef_call (vs := [.slice Br r.new.length dr, .slice A10 (usedS (r.old ++ r.new)).length c10]) hf rfl ff_89 (F89 _ Br dr r.new hs_r.top A10 c10 (usedS (r.old ++ r.new)) ho10.rd.top (by omega) (by have := usedS_len (r.old ++ r.new); simp only [List.length_append] at this; omega))) (fun _ _ h => ⟨fun _ => by obtain ⟨A13, c13, rfl, ho13, hE⟩ := h; exact hE, h⟩)) ?_; rintro a _ w9 ⟨A13, c13, rfl, ho13, hE⟩ hf
 replace ho13 := ho13.lower hW.size
 replace hB4 := hB4.below hE
 replace hr_r := hr_r.below hE
 replace hs_r := hs_r.below hE
 replace ho9 := ho9.below hE
 replace ho10 := ho10.below hE
 replace ho12 := ho12.below hE
 replace hW := btr hW hE
 clear hE
 refine s_one 8 (by kernel_rfl) ?_
 refine p_eff rfl hf trivial rfl rfl (Ef.mono (ef_call (vs := [.agg #[.int .i64 ((⟨max 1 ((usedS (r.old ++ r.new)).length : Int), r.old.map (smallG (usedS (r.old ++ r.new)))⟩ : Cx).n), .slice A12 ((⟨max 1 ((usedS (r.old ++ r.new)).length : Int), r.old.map (smallG (usedS (r.old ++ r.new)))⟩ : Cx).gs).length c12], .agg #[.int .i64 ((⟨max 1 ((usedS (r.old ++ r.new)).length : Int), r.new.map (smallG (usedS (r.old ++ r.new)))⟩ : Cx).n), .slice A13 ((⟨max 1 ((usedS (r.old ++ r.new)).length : Int), r.new.map (smallG (usedS (r.old ++ r.new)))⟩ : Cx).gs).length c13]]) hf rfl ff_88 (F88 _ (⟨max 1 ((usedS (r.old ++ r.new)).length : Int), r.old.map (smallG (usedS (r.old ++ r.new)))⟩ : Cx) A12 c12 ho12.rd.top (⟨max 1 ((usedS (r.old ++ r.new)).length : Int), r.new.map (smallG (usedS (r.old ++ r.new)))⟩ : Cx) A13 c13 ho13.rd.top)) (fun _ _ h => ⟨fun _ => by obtain ⟨rfl, hE⟩ := h; exact hE, h⟩)) ?_; rintro a _ w10 ⟨rfl, hE⟩ hf
 replace hB4 := hB4.below hE
 replace hr_r := hr_r.below hE
 replace hs_r := hs_r.below hE
 replace ho9 := ho9.below hE
 replace ho10 := ho10.below hE
 replace ho12 := ho12.below hE
 replace ho13 := ho13.below hE
 replace hW := btr hW hE
 clear hE
 refine s_e0 9 rfl (by kernel_rfl) hf rfl (fun _ => ev_extract (vs := [.bool ((sameS (⟨max 1 ((usedS (r.old ++ r.new)).length : Int), r.old.map (smallG (usedS (r.old ++ r.new)))⟩ : Cx) (⟨max 1 ((usedS (r.old ++ r.new)).length : Int), r.new.map (smallG (usedS (r.old ++ r.new)))⟩ : Cx)).1), .bool ((sameS (⟨max 1 ((usedS (r.old ++ r.new)).length : Int), r.old.map (smallG (usedS (r.old ++ r.new)))⟩ : Cx) (⟨max 1 ((usedS (r.old ++ r.new)).length : Int), r.new.map (smallG (usedS (r.old ++ r.new)))⟩ : Cx)).2)]) hf rfl rfl) ?_; intro a hf
 refine s_e0 10 rfl (by kernel_rfl) hf rfl (fun _ => ev_extract (vs := [.bool ((sameS (⟨max 1 ((usedS (r.old ++ r.new)).length : Int), r.old.map (smallG (usedS (r.old ++ r.new)))⟩ : Cx) (⟨max 1 ((usedS (r.old ++ r.new)).length : Int), r.new.map (smallG (usedS (r.old ++ r.new)))⟩ : Cx)).1), .bool ((sameS (⟨max 1 ((usedS (r.old ++ r.new)).length : Int), r.old.map (smallG (usedS (r.old ++ r.new)))⟩ : Cx) (⟨max 1 ((usedS (r.old ++ r.new)).length : Int), r.new.map (smallG (usedS (r.old ++ r.new)))⟩ : Cx)).2)]) hf rfl rfl) ?_; intro a hf
 refine s_e0 11 rfl (by kernel_rfl) hf rfl (fun _ => ev_assign hf rfl) ?_; intro a hf
 refine s_e0 12 rfl (by kernel_rfl) hf rfl (fun _ => ev_assign hf rfl) ?_; intro a hf
 refine s_done (by kernel_rfl) ?_
 refine hK11 _ _ ?_; try clear hK11 K11
 refine wp_ret ?_
 refine c_ret hf (res2 hf rfl rfl rfl) ?_
 exact ⟨rfl, hW⟩
theorem F12 (w0 : World) (n : Int) (r : Rp) (Ar : Option Addr) (cr : Nat) (hr_r : Rd w0 w0.heap.size 107 encG Ar r.old) (Br : Option Addr) (dr : Nat) (hs_r : Rd w0 w0.heap.size 107 encG Br r.new) (hla : r.old.length ≤ 1048576) (hlb : r.new.length ≤ 1048576) : Ret Tryz.prog 12 [.int .i64 n, .agg #[.int .i64 r.pos, .slice Ar r.old.length cr, .slice Br r.new.length dr]] w0 (fun v w => v = .tuple #[.bool ((implJ n r).1), .bool ((implJ n r).2)] ∧ Below w0.heap.size w0 w) := by
 refine enter Tryz.func12 rfl 40 rfl rfl ?_
 intro a hf
 have hW : Below w0.heap.size w0 w0 := Below.refl _ _
 refine wp_seq_k ?_; intro K3 hK3
 refine wp_region_lit ?_
 refine l_f hf rfl (ef_box (zs := [.int .i64 r.pos, .slice Ar r.old.length cr, .slice Br r.new.length dr]) hf rfl rfl) ?_; rintro a _ w1 ⟨b4, rfl, hl4, hE, hB4⟩ hf
 have hlo4 := Nat.le_trans hW.size hl4
 replace hr_r := hr_r.below hE
 replace hs_r := hs_r.below hE
 replace hW := btr hW hE
 clear hE
 refine l_as hf rfl rfl ?_; intro a hf
 refine l_as hf rfl rfl ?_; intro a hf
 refine wpList_nil ?_
 refine hK3 _ _ ?_; try clear hK3 K3
 refine wp_seq_k ?_; intro K5 hK5
 refine wp_seq_k ?_; intro K6 hK6
 refine wp_region_lit ?_
 refine l_mv hf rfl rfl ?_; intro a hf
 refine l_e hf rfl (ev_loadN (l := [.int .i64 r.pos, .slice Ar r.old.length cr, .slice Br r.new.length dr]) hf rfl tN_30 (hB4.at 0) rfl) ?_; intro a hf
 refine l_f hf rfl (ef_call (vs := [.int .i64 n, .agg #[.int .i64 r.pos, .slice Ar r.old.length cr, .slice Br r.new.length dr]]) hf rfl ff_46 (F46 _ n r Ar cr hr_r.top Br dr hs_r.top (by omega) (by omega))) ?_; rintro a _ w2 ⟨rfl, hE⟩ hf
 replace hB4 := hB4.below hE
 replace hr_r := hr_r.below hE
 replace hs_r := hs_r.below hE
 replace hW := btr hW hE
 clear hE
 refine l_e hf rfl (ev_not hf rfl) ?_; intro a hf
 refine wpList_nil ?_
 refine hK6 _ _ ?_; try clear hK6 K6
 refine c_if hf rfl (fun hc7 => ?_) (fun hc7 => ?_)
 ·have hc7b := hc7
  have hn : ¬ vrI n r = true := by revert hc7; cases vrI n r <;> simp
  refine wp_seq_k ?_; intro K8 hK8
  refine wp_region_lit ?_
  refine l_as hf rfl rfl ?_; intro a hf
  refine l_as hf rfl rfl ?_; intro a hf
  refine wpList_nil ?_
  refine hK8 _ _ ?_; try clear hK8 K8
  refine wp_ret ?_
  refine x_retS ?_
  refine c_ret hf (res2 hf rfl rfl rfl) ?_
  exact ⟨by rw [implJ, if_neg hn], hW⟩
 ·have hc7b := hc7
  have hy : vrI n r = true := by revert hc7; cases vrI n r <;> simp
  obtain ⟨hn, hl, ho, hw⟩ := vr_spec hy
  refine wp_skip ?_
  refine hK5 _ _ ?_; try clear hK5 K5
  refine wp_seq_k ?_; intro K9 hK9
  refine wp_draw none (fun _ => false) mixed ?_
  intro w3 hE
  replace hB4 := hB4.below hE
  replace hr_r := hr_r.below hE
  replace hs_r := hs_r.below hE
  replace hW := btr hW hE
  clear hE
  refine s_e0 0 rfl (by kernel_rfl) hf rfl (fun _ => ev_fieldB hf rfl fd_30_1 (m := 1) rfl) ?_; intro a hf
  refine s_e 1 rfl (by kernel_rfl) (by kernel_rfl) hf rfl (ev_load1 hf rfl t1_28 (hB4.at 1)) ?_; intro a hf
  refine s_e0 3 rfl (by kernel_rfl) hf rfl (fun _ => ev_fieldB hf rfl fd_30_2 (m := 2) rfl) ?_; intro a hf
  refine s_e 4 rfl (by kernel_rfl) (by kernel_rfl) hf rfl (ev_load1 hf rfl t1_28 (hB4.at 2)) ?_; intro a hf
  refine s_one 2 (by kernel_rfl) ?_
  refine p_eff rfl hf trivial rfl rfl (Ef.mono (ef_call (vs := [.slice Ar r.old.length cr]) hf rfl ff_48 (F48 _ Ar cr r.old hr_r.top (by omega))) (fun _ _ h => ⟨fun _ => by obtain ⟨A10, c10, rfl, ho10, hE⟩ := h; exact hE, h⟩)) ?_; rintro a _ w4 ⟨A10, c10, rfl, ho10, hE⟩ hf
  replace ho10 := ho10.lower hW.size
  replace hB4 := hB4.below hE
  replace hr_r := hr_r.below hE
  replace hs_r := hs_r.below hE
  replace hW := btr hW hE
  clear hE
  refine s_one 5 (by kernel_rfl) ?_
  refine p_eff rfl hf trivial rfl rfl (Ef.mono (ef_call (vs := [.slice Br r.new.length dr]) hf rfl ff_48 (F48 _ Br dr r.new hs_r.top (by omega))) (fun _ _ h => ⟨fun _ => by obtain ⟨A11, c11, rfl, ho11, hE⟩ := h; exact hE, h⟩)) ?_; rintro a _ w5 ⟨A11, c11, rfl, ho11, hE⟩ hf
  replace ho11 := ho11.lower hW.size
  replace hB4 := hB4.below hE
  replace hr_r := hr_r.below hE
  replace hs_r := hs_r.below hE
  replace ho10 := ho10.below hE
  replace hW := btr hW hE
  clear hE
  refine s_one 6 (by kernel_rfl) ?_
  refine p_eff rfl hf trivial rfl rfl (Ef.mono (ef_call (vs := [.slice A10 (usedI r.old).length c10, .slice A11 (usedI r.new).length c11]) hf rfl ff_47 (F47 _ A10 c10 (usedI r.old) ho10.rd.top A11 c11 (usedI r.new) ho11.rd.top (by have := used_len r.old; omega) (by have := used_len r.new; omega))) (fun _ _ h => ⟨fun _ => by obtain ⟨A12, c12, rfl, ho12, hE⟩ := h; exact hE, h⟩)) ?_; rintro a _ w6 ⟨A12, c12, rfl, ho12, hE⟩ hf
  replace ho12 := ho12.lower hW.size
  replace hB4 := hB4.below hE
  replace hr_r := hr_r.below hE
  replace hs_r := hs_r.below hE
  replace ho10 := ho10.below hE
  replace ho11 := ho11.below hE
  replace hW := btr hW hE
  clear hE
  refine s_e0 7 rfl (by kernel_rfl) hf rfl (fun _ => ev_assign hf rfl) ?_; intro a hf
  refine s_done (by kernel_rfl) ?_
  refine hK9 _ _ ?_; try clear hK9 K9
  refine wp_seq_k ?_; intro K13 hK13
  refine wp_region_lit ?_
  refine l_mv hf rfl rfl ?_; intro a hf
  refine l_f hf rfl (ef_call (vs := [.slice A12 (unionI (usedI r.old) (usedI r.new)).length c12]) hf rfl ff_49 (F49 _ A12 c12 (unionI (usedI r.old) (usedI r.new)) ho12.rd.top (vr_used hy) (by have := union_len (usedI r.old) (usedI r.new); have := used_len r.old; have := used_len r.new; omega))) ?_; rintro a _ w7 ⟨A14, c14, rfl, ho14, hE⟩ hf
  replace ho14 := ho14.lower hW.size
  replace hB4 := hB4.below hE
  replace hr_r := hr_r.below hE
  replace hs_r := hs_r.below hE
  replace ho10 := ho10.below hE
  replace ho11 := ho11.below hE
  replace ho12 := ho12.below hE
  replace hW := btr hW hE
  clear hE
  refine l_mv hf rfl rfl ?_; intro a hf
  refine l_e hf rfl (ev_len hf rfl sl_36) ?_; intro a hf
  refine l_e hf rfl (ev_max hf rfl rfl) ?_; intro a hf
  refine l_as hf rfl rfl ?_; intro a hf
  refine l_as hf rfl rfl ?_; intro a hf
  refine wpList_nil ?_
  refine hK13 _ _ ?_; try clear hK13 K13
  refine wp_seq_k ?_; intro K15 hK15
  refine wp_draw none (fun _ => false) mixed ?_
  intro w8 hE
  replace hB4 := hB4.below hE
  replace hr_r := hr_r.below hE
  replace hs_r := hs_r.below hE
  replace ho10 := ho10.below hE
  replace ho11 := ho11.below hE
  replace ho12 := ho12.below hE
  replace ho14 := ho14.below hE
  replace hW := btr hW hE
  clear hE
  refine s_e0 0 rfl (by kernel_rfl) hf rfl (fun _ => ev_move hf rfl) ?_; intro a hf
  refine s_e0 1 rfl (by kernel_rfl) hf rfl (fun _ => ev_fieldB hf rfl fd_30_1 (m := 1) rfl) ?_; intro a hf
  refine s_e 2 rfl (by kernel_rfl) (by kernel_rfl) hf rfl (ev_load1 hf rfl t1_28 (hB4.at 1)) ?_; intro a hf
  refine s_e0 3 rfl (by kernel_rfl) hf rfl (fun _ => ev_move hf rfl) ?_; intro a hf
  refine s_e0 6 rfl (by kernel_rfl) hf rfl (fun _ => ev_move hf rfl) ?_; intro a hf
  refine s_e0 7 rfl (by kernel_rfl) hf rfl (fun _ => ev_fieldB hf rfl fd_30_2 (m := 2) rfl) ?_; intro a hf
  refine s_e 8 rfl (by kernel_rfl) (by kernel_rfl) hf rfl (ev_load1 hf rfl t1_28 (hB4.at 2)) ?_; intro a hf
  refine s_e0 9 rfl (by kernel_rfl) hf rfl (fun _ => ev_move hf rfl) ?_; intro a hf
  refine s_one 4 (by kernel_rfl) ?_
  refine p_eff rfl hf trivial rfl rfl (Ef.mono (ef_call (vs := [.slice Ar r.old.length cr, .slice A14 (numbI (unionI (usedI r.old) (usedI r.new))).length c14]) hf rfl ff_51 (F51 _ Ar cr r.old hr_r.top A14 c14 (numbI (unionI (usedI r.old) (usedI r.new))) ho14.rd.top (vr_qubits ho) (numb_len _) (by omega))) (fun _ _ h => ⟨fun _ => by obtain ⟨A16, c16, rfl, ho16, hE⟩ := h; exact hE, h⟩)) ?_; rintro a _ w9 ⟨A16, c16, rfl, ho16, hE⟩ hf
  replace ho16 := ho16.lower hW.size
  replace hB4 := hB4.below hE
  replace hr_r := hr_r.below hE
  replace hs_r := hs_r.below hE
  replace ho10 := ho10.below hE
  replace ho11 := ho11.below hE
  replace ho12 := ho12.below hE
  replace ho14 := ho14.below hE
  replace hW := btr hW hE
  clear hE
  refine s_e0 5 rfl (by kernel_rfl) hf rfl (fun _ => ev_build (ps := [(0, .int .i64 (max ((unionI (usedI r.old) (usedI r.new)).length : Int) 1)), (1, .slice A16 (mapI r.old (numbI (unionI (usedI r.old) (usedI r.new)))).length c16)]) (cs := [.int .i64 (max ((unionI (usedI r.old) (usedI r.new)).length : Int) 1), .slice A16 (mapI r.old (numbI (unionI (usedI r.old) (usedI r.new)))).length c16]) hf rfl (fun _ => by first | rfl | kernel_rfl)) ?_; intro a hf
  refine s_one 10 (by kernel_rfl) ?_
  refine p_eff rfl hf trivial rfl rfl (Ef.mono (ef_call (vs := [.slice Br r.new.length dr, .slice A14 (numbI (unionI (usedI r.old) (usedI r.new))).length c14]) hf rfl ff_51 (F51 _ Br dr r.new hs_r.top A14 c14 (numbI (unionI (usedI r.old) (usedI r.new))) ho14.rd.top (vr_qubits hw) (numb_len _) (by omega))) (fun _ _ h => ⟨fun _ => by obtain ⟨A18, c18, rfl, ho18, hE⟩ := h; exact hE, h⟩)) ?_; rintro a _ w10 ⟨A18, c18, rfl, ho18, hE⟩ hf
  replace ho18 := ho18.lower hW.size
  replace hB4 := hB4.below hE
  replace hr_r := hr_r.below hE
  replace hs_r := hs_r.below hE
  replace ho10 := ho10.below hE
  replace ho11 := ho11.below hE
  replace ho12 := ho12.below hE
  replace ho14 := ho14.below hE
  replace ho16 := ho16.below hE
  replace hW := btr hW hE
  clear hE
  refine s_e0 11 rfl (by kernel_rfl) hf rfl (fun _ => ev_build (ps := [(0, .int .i64 (max ((unionI (usedI r.old) (usedI r.new)).length : Int) 1)), (1, .slice A18 (mapI r.new (numbI (unionI (usedI r.old) (usedI r.new)))).length c18)]) (cs := [.int .i64 (max ((unionI (usedI r.old) (usedI r.new)).length : Int) 1), .slice A18 (mapI r.new (numbI (unionI (usedI r.old) (usedI r.new)))).length c18]) hf rfl (fun _ => by first | rfl | kernel_rfl)) ?_; intro a hf
  refine s_one 12 (by kernel_rfl) ?_
  refine p_eff rfl hf trivial rfl rfl (Ef.mono (ef_call (vs := [.agg #[.int .i64 (max ((unionI (usedI r.old) (usedI r.new)).length : Int) 1), .slice A16 (mapI r.old (numbI (unionI (usedI r.old) (usedI r.new)))).length c16], .agg #[.int .i64 (max ((unionI (usedI r.old) (usedI r.new)).length : Int) 1), .slice A18 (mapI r.new (numbI (unionI (usedI r.old) (usedI r.new)))).length c18]]) hf rfl ff_50 (F50 _ (⟨max ((unionI (usedI r.old) (usedI r.new)).length : Int) 1, (mapI r.old (numbI (unionI (usedI r.old) (usedI r.new))))⟩ : Cx) A16 c16 ho16.rd.top (⟨max ((unionI (usedI r.old) (usedI r.new)).length : Int) 1, (mapI r.new (numbI (unionI (usedI r.old) (usedI r.new))))⟩ : Cx) A18 c18 ho18.rd.top (by simp [mapI]; omega) (by simp [mapI]; omega))) (fun _ _ h => ⟨fun _ => by obtain ⟨rfl, hE⟩ := h; exact hE, h⟩)) ?_; rintro a _ w11 ⟨rfl, hE⟩ hf
  replace hB4 := hB4.below hE
  replace hr_r := hr_r.below hE
  replace hs_r := hs_r.below hE
  replace ho10 := ho10.below hE
  replace ho11 := ho11.below hE
  replace ho12 := ho12.below hE
  replace ho14 := ho14.below hE
  replace ho16 := ho16.below hE
  replace ho18 := ho18.below hE
  replace hW := btr hW hE
  clear hE
  refine s_e0 13 rfl (by kernel_rfl) hf rfl (fun _ => ev_extract (vs := [.bool ((sameI (⟨max ((unionI (usedI r.old) (usedI r.new)).length : Int) 1, (mapI r.old (numbI (unionI (usedI r.old) (usedI r.new))))⟩ : Cx) (⟨max ((unionI (usedI r.old) (usedI r.new)).length : Int) 1, (mapI r.new (numbI (unionI (usedI r.old) (usedI r.new))))⟩ : Cx)).1), .bool ((sameI (⟨max ((unionI (usedI r.old) (usedI r.new)).length : Int) 1, (mapI r.old (numbI (unionI (usedI r.old) (usedI r.new))))⟩ : Cx) (⟨max ((unionI (usedI r.old) (usedI r.new)).length : Int) 1, (mapI r.new (numbI (unionI (usedI r.old) (usedI r.new))))⟩ : Cx)).2)]) hf rfl rfl) ?_; intro a hf
  refine s_e0 14 rfl (by kernel_rfl) hf rfl (fun _ => ev_extract (vs := [.bool ((sameI (⟨max ((unionI (usedI r.old) (usedI r.new)).length : Int) 1, (mapI r.old (numbI (unionI (usedI r.old) (usedI r.new))))⟩ : Cx) (⟨max ((unionI (usedI r.old) (usedI r.new)).length : Int) 1, (mapI r.new (numbI (unionI (usedI r.old) (usedI r.new))))⟩ : Cx)).1), .bool ((sameI (⟨max ((unionI (usedI r.old) (usedI r.new)).length : Int) 1, (mapI r.old (numbI (unionI (usedI r.old) (usedI r.new))))⟩ : Cx) (⟨max ((unionI (usedI r.old) (usedI r.new)).length : Int) 1, (mapI r.new (numbI (unionI (usedI r.old) (usedI r.new))))⟩ : Cx)).2)]) hf rfl rfl) ?_; intro a hf
  refine s_e0 15 rfl (by kernel_rfl) hf rfl (fun _ => ev_assign hf rfl) ?_; intro a hf
  refine s_e0 16 rfl (by kernel_rfl) hf rfl (fun _ => ev_assign hf rfl) ?_; intro a hf
  refine s_done (by kernel_rfl) ?_
  refine hK15 _ _ ?_; try clear hK15 K15
  refine wp_ret ?_
  refine c_ret hf (res2 hf rfl rfl rfl) ?_
  exact ⟨by rw [implJ, if_pos hy]; rfl, hW⟩
end Go.Proofs.YtfgnmflfiobkmaaGreat
set_option maxRecDepth 4000
namespace Go.Proofs.YtfgnmflfiobkmaaGreat
open Go.RowKit
theorem F42 (w0 : World) {X_l : TypeId} (Al : Option Addr) (cl : Nat) (l : List Gt) (hr_l : Rd w0 w0.heap.size X_l encG Al l) (t : Int) (ht : 0 ≤ t ∧ t ≤ 1048576) (hln : l.length ≤ 9223372036854775807) : Ret Tryz.prog 42 [.slice Al l.length cl, .int .i64 t] w0 (fun v w => v = .int .i64 (szG l t) ∧ w0 = w) := by
 refine enter Tryz.func42 rfl 12 rfl rfl ?_
 intro a hf
 have hW : Below w0.heap.size w0 w0 := Below.refl _ _
 refine wp_seq_k ?_; intro K2 hK2
 refine wp_region_lit ?_
 refine l_as hf rfl rfl ?_; intro a hf
 refine wpList_nil ?_
 refine hK2 _ _ ?_; try clear hK2 K2
 refine wp_seq_k ?_; intro K3 hK3
 refine wp_region_lit ?_
 refine l_mv hf rfl rfl ?_; intro a hf
 refine l_mv hf rfl rfl ?_; intro a hf
 refine l_e hf rfl (ev_len hf rfl sl_22) ?_; intro a hf
 refine l_e hf rfl (ev_subx hf rfl rfl (by omega) (by omega)) ?_; intro a hf
 refine l_as hf rfl rfl ?_; intro a hf
 refine wpList_nil ?_
 refine hK3 _ _ ?_; try clear hK3 K3
 refine wp_seq_k ?_; intro K4 hK4
 refine wp_seq_k ?_; intro K5 hK5
 refine wp_region_lit ?_
 refine l_mv hf rfl rfl ?_; intro a hf
 refine l_e hf rfl (ev_lss hf rfl rfl) ?_; intro a hf
 refine wpList_nil ?_
 refine hK5 _ _ ?_; try clear hK5 K5
 refine c_if hf rfl (fun hc6 => ?_) (fun hc6 => ?_)
 ·have hc6b := hc6
  have hc6 := of_decide_eq_true hc6
  have hfin : szG l t = -1 := by rw [szG, if_pos hc6]
  refine wp_seq_k ?_; intro K7 hK7
  refine wp_region_lit ?_
  refine l_as hf rfl rfl ?_; intro a hf
  refine wpList_nil ?_
  refine hK7 _ _ ?_; try clear hK7 K7
  refine wp_ret ?_
  refine x_retS ?_
  refine c_ret hf (res1 hf rfl rfl) ?_
  exact ⟨by rw [hfin], rfl⟩
 ·have hc6b := hc6
  have hc6 := of_decide_eq_false hc6
  have hfin : szG l t = t - (l.length : Int) := by rw [szG, if_neg hc6]
  refine wp_skip ?_
  refine hK4 _ _ ?_; try clear hK4 K4
  refine wp_seq_k ?_; intro K8 hK8
  refine wp_region_lit ?_
  refine l_mv hf rfl rfl ?_; intro a hf
  refine l_as hf rfl rfl ?_; intro a hf
  refine wpList_nil ?_
  refine hK8 _ _ ?_; try clear hK8 K8
  refine wp_ret ?_
  refine c_ret hf (res1 hf rfl rfl) ?_
  exact ⟨by rw [hfin], rfl⟩
theorem F9 (w0 : World) {Xr Yr : TypeId} (r : Rp) (Ar : Option Addr) (cr : Nat) (hr_r : Rd w0 w0.heap.size Xr encG Ar r.old) (Br : Option Addr) (dr : Nat) (hs_r : Rd w0 w0.heap.size Yr encG Br r.new) (t : Int) (ht : 0 ≤ t ∧ t ≤ 1048576) (hla : r.old.length ≤ 9223372036854775807) (hlb : r.new.length ≤ 9223372036854775807) : Ret Tryz.prog 9 [.agg #[.int .i64 r.pos, .slice Ar r.old.length cr, .slice Br r.new.length dr], .int .i64 t] w0 (fun v w => v = .int .i64 (szR r t) ∧ Below w0.heap.size w0 w) := by
 refine enter Tryz.func9 rfl 18 rfl rfl ?_
 intro a hf
 have hW : Below w0.heap.size w0 w0 := Below.refl _ _
 refine wp_seq_k ?_; intro K3 hK3
 refine wp_region_lit ?_
 refine l_f hf rfl (ef_box (zs := [.int .i64 r.pos, .slice Ar r.old.length cr, .slice Br r.new.length dr]) hf rfl rfl) ?_; rintro a _ w1 ⟨b4, rfl, hl4, hE, hB4⟩ hf
 have hlo4 := Nat.le_trans hW.size hl4
 replace hr_r := hr_r.below hE
 replace hs_r := hs_r.below hE
 replace hW := btr hW hE
 clear hE
 refine l_as hf rfl rfl ?_; intro a hf
 refine wpList_nil ?_
 refine hK3 _ _ ?_; try clear hK3 K3
 refine wp_seq_k ?_; intro K5 hK5
 refine wp_region_lit ?_
 refine l_e hf rfl (ev_fieldB hf rfl fd_24_1 (m := 1) rfl) ?_; intro a hf
 refine l_e hf rfl (ev_load1 hf rfl t1_22 (hB4.at 1)) ?_; intro a hf
 refine l_mv hf rfl rfl ?_; intro a hf
 refine l_f hf rfl (ef_call (vs := [.slice Ar r.old.length cr, .int .i64 t]) hf rfl ff_42 (F42 _ Ar cr r.old hr_r.top t ht hla)) ?_; rintro a _ _ ⟨rfl, rfl⟩ hf
 refine l_as hf rfl rfl ?_; intro a hf
 refine wpList_nil ?_
 refine hK5 _ _ ?_; try clear hK5 K5
 refine wp_seq_k ?_; intro K6 hK6
 refine wp_seq_k ?_; intro K7 hK7
 refine wp_region_lit ?_
 refine l_mv hf rfl rfl ?_; intro a hf
 refine l_e hf rfl (ev_lss hf rfl rfl) ?_; intro a hf
 refine wpList_nil ?_
 refine hK7 _ _ ?_; try clear hK7 K7
 refine c_if hf rfl (fun hc8 => ?_) (fun hc8 => ?_)
 ·have hc8b := hc8
  have hc8 := of_decide_eq_true hc8
  have hfin : szR r t = -1 := by rw [szR, if_pos hc8]
  refine wp_seq_k ?_; intro K9 hK9
  refine wp_region_lit ?_
  refine l_as hf rfl rfl ?_; intro a hf
  refine wpList_nil ?_
  refine hK9 _ _ ?_; try clear hK9 K9
  refine wp_ret ?_
  refine x_retS ?_
  refine c_ret hf (res1 hf rfl rfl) ?_
  exact ⟨by rw [hfin], hW⟩
 ·have hc8b := hc8
  have hc8 := of_decide_eq_false hc8
  have hne : ¬ szG r.old t < 0 := hc8
  refine wp_skip ?_
  refine hK6 _ _ ?_; try clear hK6 K6
  refine wp_seq_k ?_; intro K10 hK10
  refine wp_region_lit ?_
  refine l_e hf rfl (ev_fieldB hf rfl fd_24_2 (m := 2) rfl) ?_; intro a hf
  refine l_e hf rfl (ev_load1 hf rfl t1_22 (hB4.at 2)) ?_; intro a hf
  refine l_mv hf rfl rfl ?_; intro a hf
  refine l_f hf rfl (ef_call (vs := [.slice Br r.new.length dr, .int .i64 (szG r.old t)]) hf rfl ff_42 (F42 _ Br dr r.new hs_r.top (szG r.old t) (by have := szG_le hne; omega) hlb)) ?_; rintro a _ _ ⟨rfl, rfl⟩ hf
  refine l_as hf rfl rfl ?_; intro a hf
  refine wpList_nil ?_
  refine hK10 _ _ ?_; try clear hK10 K10
  refine wp_seq_k ?_; intro K11 hK11
  refine wp_seq_k ?_; intro K12 hK12
  refine wp_region_lit ?_
  refine l_mv hf rfl rfl ?_; intro a hf
  refine l_e hf rfl (ev_lss hf rfl rfl) ?_; intro a hf
  refine wpList_nil ?_
  refine hK12 _ _ ?_; try clear hK12 K12
  refine c_if hf rfl (fun hc13 => ?_) (fun hc13 => ?_)
  ·have hc13b := hc13
   have hc13 := of_decide_eq_true hc13
   have hfin : szR r t = -1 := by rw [szR, if_neg hne, if_pos hc13]
   refine wp_seq_k ?_; intro K14 hK14
   refine wp_region_lit ?_
   refine l_as hf rfl rfl ?_; intro a hf
   refine wpList_nil ?_
   refine hK14 _ _ ?_; try clear hK14 K14
   refine wp_ret ?_
   refine x_retS ?_
   refine c_ret hf (res1 hf rfl rfl) ?_
   exact ⟨by rw [hfin], hW⟩
  ·have hc13b := hc13
   have hc13 := of_decide_eq_false hc13
   have hfin : szR r t = szG r.new (szG r.old t) := by rw [szR, if_neg hne, if_neg hc13]
   refine wp_skip ?_
   refine hK11 _ _ ?_; try clear hK11 K11
   refine wp_seq_k ?_; intro K15 hK15
   refine wp_region_lit ?_
   refine l_mv hf rfl rfl ?_; intro a hf
   refine l_as hf rfl rfl ?_; intro a hf
   refine wpList_nil ?_
   refine hK15 _ _ ?_; try clear hK15 K15
   refine wp_ret ?_
   refine c_ret hf (res1 hf rfl rfl) ?_
   exact ⟨by rw [hfin], hW⟩
theorem F90 (w0 : World) (x : Gt) : Ret Tryz.prog 90 [.agg #[.int .i64 x.k, .int .i64 x.a, .int .i64 x.b]] w0 (fun v w => v = gV x ∧ Below w0.heap.size w0 w) := by
 refine enter Tryz.func90 rfl 14 rfl rfl ?_
 intro a hf
 have hW : Below w0.heap.size w0 w0 := Below.refl _ _
 refine wp_seq_k ?_; intro K1 hK1
 refine wp_region_lit ?_
 refine l_f hf rfl (ef_box (zs := [.int .i64 x.k, .int .i64 x.a, .int .i64 x.b]) hf rfl rfl) ?_; rintro a _ w1 ⟨b2, rfl, hl2, hE, hB2⟩ hf
 have hlo2 := Nat.le_trans hW.size hl2
 replace hW := btr hW hE
 clear hE
 refine l_f hf rfl (ef_alloc (zs := [.int .i64 0, .int .i64 0, .int .i64 0]) z_107 rfl) ?_; rintro a _ w2 ⟨b3, rfl, hl3, hE, hB3⟩ hf
 have hlo3 := Nat.le_trans hW.size hl3
 replace hB2 := hB2.below hE
 replace hW := btr hW hE
 clear hE
 refine wpList_nil ?_
 refine hK1 _ _ ?_; try clear hK1 K1
 refine wp_seq_k ?_; intro K4 hK4
 refine wp_region_lit ?_
 refine l_f hf rfl (ef_alloc (zs := [.int .i64 0, .int .i64 0, .int .i64 0]) z_107 rfl) ?_; rintro a _ w3 ⟨b5, rfl, hl5, hE, hB5⟩ hf
 have hne3_5 : b3 ≠ b5 := by have := hB3.lt; omega
 have hlo5 := Nat.le_trans hW.size hl5
 replace hB2 := hB2.below hE
 replace hB3 := hB3.below hE
 replace hW := btr hW hE
 clear hE
 refine wpList_nil ?_
 refine hK4 _ _ ?_; try clear hK4 K4
 refine wp_seq_k ?_; intro K6 hK6
 refine wp_region_lit ?_
 refine l_e hf rfl (ev_fieldB hf rfl fd_134_0 (m := 0) rfl) ?_; intro a hf
 refine l_e hf rfl (ev_load1 hf rfl t1_3 (hB2.at 0)) ?_; intro a hf
 refine l_e hf rfl (ev_fieldB hf rfl fd_107_0 (m := 0) rfl) ?_; intro a hf
 refine l_f0 hf (ef_store (vs := [.int .i64 x.k]) (l' := [.int .i64 x.k, .int .i64 0, .int .i64 0]) hf rfl rfl sz_3 hB5 rfl rfl rfl rfl rfl) ?_; rintro a _ w4 ⟨ho, hb⟩ hf
 have hold := hB5
 replace hB2 := hB2.only ho (Blk.ne hB2 hold rfl)
 replace hB3 := hB3.only ho (by omega)
 replace hW := Below.only hW ho hlo5
 clear hold
 have hB5 := hb
 clear hb ho
 refine wpList_nil ?_
 refine hK6 _ _ ?_; try clear hK6 K6
 refine wp_seq_k ?_; intro K7 hK7
 refine wp_region_lit ?_
 refine l_e hf rfl (ev_fieldB hf rfl fd_134_1 (m := 1) rfl) ?_; intro a hf
 refine l_e hf rfl (ev_load1 hf rfl t1_3 (hB2.at 1)) ?_; intro a hf
 refine l_e hf rfl (ev_fieldB hf rfl fd_107_1 (m := 1) rfl) ?_; intro a hf
 refine l_f0 hf (ef_store (vs := [.int .i64 x.a]) (l' := [.int .i64 x.k, .int .i64 x.a, .int .i64 0]) hf rfl rfl sz_3 hB5 rfl rfl rfl rfl rfl) ?_; rintro a _ w5 ⟨ho, hb⟩ hf
 have hold := hB5
 replace hB2 := hB2.only ho (Blk.ne hB2 hold rfl)
 replace hB3 := hB3.only ho (by omega)
 replace hW := Below.only hW ho hlo5
 clear hold
 have hB5 := hb
 clear hb ho
 refine wpList_nil ?_
 refine hK7 _ _ ?_; try clear hK7 K7
 refine wp_seq_k ?_; intro K8 hK8
 refine wp_region_lit ?_
 refine l_e hf rfl (ev_fieldB hf rfl fd_134_2 (m := 2) rfl) ?_; intro a hf
 refine l_e hf rfl (ev_load1 hf rfl t1_3 (hB2.at 2)) ?_; intro a hf
 refine l_e hf rfl (ev_fieldB hf rfl fd_107_2 (m := 2) rfl) ?_; intro a hf
 refine l_f0 hf (ef_store (vs := [.int .i64 x.b]) (l' := [.int .i64 x.k, .int .i64 x.a, .int .i64 x.b]) hf rfl rfl sz_3 hB5 rfl rfl rfl rfl rfl) ?_; rintro a _ w6 ⟨ho, hb⟩ hf
 have hold := hB5
 replace hB2 := hB2.only ho (Blk.ne hB2 hold rfl)
 replace hB3 := hB3.only ho (by omega)
 replace hW := Below.only hW ho hlo5
 clear hold
 have hB5 := hb
 clear hb ho
 refine wpList_nil ?_
 refine hK8 _ _ ?_; try clear hK8 K8
 refine wp_seq_k ?_; intro K9 hK9
 refine wp_region_lit ?_
 refine l_e hf rfl (ev_loadN (l := [.int .i64 x.k, .int .i64 x.a, .int .i64 x.b]) hf rfl tN_107 (hB5.at 0) rfl) ?_; intro a hf
 refine l_f0 hf (ef_store (vs := [.int .i64 x.k, .int .i64 x.a, .int .i64 x.b]) (l' := [.int .i64 x.k, .int .i64 x.a, .int .i64 x.b]) hf rfl rfl sz_107 hB3 rfl rfl rfl rfl rfl) ?_; rintro a _ w7 ⟨ho, hb⟩ hf
 have hold := hB3
 replace hB2 := hB2.only ho (Blk.ne hB2 hold rfl)
 replace hB5 := hB5.only ho (by omega)
 replace hW := Below.only hW ho hlo3
 clear hold
 have hB3 := hb
 clear hb ho
 refine wpList_nil ?_
 refine hK9 _ _ ?_; try clear hK9 K9
 refine wp_ret ?_
 refine c_ret hf (res1 hf rfl (ResV.cellN (l := [.int .i64 x.k, .int .i64 x.a, .int .i64 x.b]) rfl tN_107 (hB3.at 0) rfl)) ?_
 exact ⟨rfl, hW⟩
theorem F45 (w0 : World) {X_l : TypeId} (Al : Option Addr) (cl : Nat) (l : List Gt) (hr_l : Rd w0 w0.heap.size X_l encG Al l) (hln : l.length ≤ 1048576) : Ret Tryz.prog 45 [.slice Al l.length cl] w0 (fun v w => ∃ A c, v = .slice A l.length c ∧ Own w w0.heap.size 107 3 encG A c l ∧ Below w0.heap.size w0 w) := by
 refine enter Tryz.func45 rfl 23 rfl rfl ?_
 intro a hf
 have hW : Below w0.heap.size w0 w0 := Below.refl _ _
 refine wp_seq_k ?_; intro K2 hK2
 refine wp_region_lit ?_
 refine l_as hf rfl rfl ?_; intro a hf
 refine wpList_nil ?_
 refine hK2 _ _ ?_; try clear hK2 K2
 refine wp_seq_k ?_; intro K4 hK4
 refine wp_region_lit ?_
 refine l_mv hf rfl rfl ?_; intro a hf
 refine l_e hf rfl (ev_len hf rfl sl_22) ?_; intro a hf
 refine l_f hf rfl (ef_makeSlice (m := l.length) (enc := encG) (z0 := (⟨0, 0, 0⟩ : Gt)) hf rfl rfl sl_28 inf_107 z_107 rfl encG_len (by omega) (by omega)) ?_; rintro a _ w1 ⟨b5, rfl, hl5, hE, hB5⟩ hf
 have hlo5 := Nat.le_trans hW.size hl5
 replace hr_l := hr_l.below hE
 replace hW := btr hW hE
 clear hE
 refine l_as hf rfl rfl ?_; intro a hf
 refine wpList_nil ?_
 refine hK4 _ _ ?_; try clear hK4 K4
 refine wp_seq_k ?_; intro K7 hK7
 refine wp_seq_k ?_; intro K8 hK8
 refine wp_region_lit ?_
 refine l_as hf rfl rfl ?_; intro a hf
 refine wpList_nil ?_
 refine hK8 _ _ ?_; try clear hK8 K8
 refine wp_block ?_
 refine c_loop (σ := Nat × (List Gt)) (fun (s : Nat × (List Gt)) (a : Act) (w : World) => match s with | (k, m) => Fr a 23 [(0, .slice Al l.length cl), (3, .slice (some ⟨b5, 0, none⟩) l.length l.length), (4, .int .i64 (k : Int))] ∧ (k ≤ l.length) ∧ (m.length = l.length) ∧ (m.take k = l.take k) ∧ Blk w b5 107 (m.flatMap encG) ∧ Rd w w0.heap.size X_l encG Al l ∧ Below w0.heap.size w0 w) (fun (s : Nat × (List Gt)) => match s with | (k, m) => l.length - k) (0, List.replicate l.length (⟨0, 0, 0⟩ : Gt)) ?_ ?_
 · exact ⟨hf.sub ⟨rfl, rfl, rfl, trivial⟩, (Nat.zero_le _), (by simp), rfl, hB5, hr_l, hW⟩
 rintro ⟨k, m⟩ a w2 ⟨hf, hk, hml, hpre, hB5, hr_l, hW⟩
 refine wp_seq_k ?_; intro K9 hK9
 refine wp_seq_k ?_; intro K10 hK10
 refine wp_region_lit ?_
 refine l_mv hf rfl rfl ?_; intro a hf
 refine l_mv hf rfl rfl ?_; intro a hf
 refine l_e hf rfl (ev_len hf rfl sl_22) ?_; intro a hf
 refine l_e hf rfl (ev_lss hf rfl rfl) ?_; intro a hf
 refine wpList_nil ?_
 refine hK10 _ _ ?_; try clear hK10 K10
 refine c_if hf rfl (fun hc11 => ?_) (fun hc11 => ?_)
 ·have hc11b := hc11
  have hc11 := of_decide_eq_true hc11
  obtain ⟨u12, hu12⟩ := getElem_ex (l := l) (k := k) (by omega)
  refine wp_skip ?_
  refine hK9 _ _ ?_; try clear hK9 K9
  refine wp_seq_k ?_; intro K13 hK13
  refine wp_block ?_
  refine wp_region_lit ?_
  refine l_mv hf rfl rfl ?_; intro a hf
  refine l_mv hf rfl rfl ?_; intro a hf
  refine l_mv hf rfl rfl ?_; intro a hf
  refine l_mv hf rfl rfl ?_; intro a hf
  refine l_index (k := k) (u := u12) (enc := encG) (l := l) hf trivial rfl rfl rfl sl_22 sz_134 encG_len hr_l hu12 rfl ?_; intro a p15 hat14 hf
  refine l_e hf rfl (ev_loadN (l := [.int .i64 u12.k, .int .i64 u12.a, .int .i64 u12.b]) hf rfl tN_134 hat14 rfl) ?_; intro a hf
  refine l_f hf rfl (ef_call (vs := [.agg #[.int .i64 u12.k, .int .i64 u12.a, .int .i64 u12.b]]) hf rfl ff_90 (F90 _ u12)) ?_; rintro a _ w3 ⟨rfl, hE⟩ hf
  replace hB5 := hB5.below hE
  replace hr_l := hr_l.below hE
  replace hW := btr hW hE
  clear hE
  refine l_e hf rfl (ev_indexB (k := k) (off := k * 3) hf rfl rfl sl_28 sz_107 rfl (by omega) rfl) ?_; intro a hf
  refine l_f0 hf (ef_storeF (enc := encG) (l := m) (u := u12) (k := k) hf rfl rfl sz_107 hB5 encG_len encG_one rfl (by omega)) ?_; rintro a _ w4 ⟨ho, hb⟩ hf
  have hold := hB5
  replace hr_l := hr_l.only ho hlo5
  replace hW := Below.only hW ho hlo5
  clear hold
  have hB5 := hb
  clear hb ho
  refine wpList_nil ?_
  refine x_norm ?_
  refine hK13 _ _ ?_; try clear hK13 K13
  refine wp_region_lit ?_
  refine l_mv hf rfl rfl ?_; intro a hf
  refine l_e hf rfl (ev_addx hf rfl rfl (by omega) (by omega)) ?_; intro a hf
  refine l_as hf rfl rfl ?_; intro a hf
  refine wpList_nil ?_
  refine x_thenN ?_
  exact ⟨(k + 1, (m.set k u12)), ⟨hf.sub ⟨rfl, rfl, rfl, trivial⟩, (by omega), (by simp; exact hml), (set_take hpre (by omega) hu12), hB5, hr_l, hW⟩, (by first | omega | (dsimp only; omega))⟩
 ·have hc11b := hc11
  have hc11 := of_decide_eq_false hc11
  refine wp_exit ?_
  refine x_exS ?_
  refine x_exS ?_
  refine x_exit ?_
  refine hK7 _ _ ?_; try clear hK7 K7
  refine wp_seq_k ?_; intro K16 hK16
  refine wp_region_lit ?_
  refine l_mv hf rfl rfl ?_; intro a hf
  refine l_as hf rfl rfl ?_; intro a hf
  refine wpList_nil ?_
  refine hK16 _ _ ?_; try clear hK16 K16
  refine wp_ret ?_
  refine c_ret hf (res1 hf rfl rfl) ?_
  have hmk : m.length = l.length := hml
  have hmkb : l.length ≤ maxLen := by simp only [maxLen]; omega
  have hfin : m = l := by rw [List.take_of_length_le (by omega), List.take_of_length_le (by omega)] at hpre; exact hpre
  have hown := (Own.of_flat encG_len hB5 hlo5 hmk hmkb)
  rw [hfin] at hown
  exact ⟨(some ⟨b5, 0, none⟩), l.length, rfl, hown, hW⟩
theorem F11 (w0 : World) {Xr Yr : TypeId} (r : Rp) (Ar : Option Addr) (cr : Nat) (hr_r : Rd w0 w0.heap.size Xr encG Ar r.old) (Br : Option Addr) (dr : Nat) (hs_r : Rd w0 w0.heap.size Yr encG Br r.new) (hla : r.old.length ≤ 1048576) (hlb : r.new.length ≤ 1048576) : Ret Tryz.prog 11 [.agg #[.int .i64 r.pos, .slice Ar r.old.length cr, .slice Br r.new.length dr]] w0 (fun v w => ∃ A c B d, v = .agg #[.int .i64 r.pos, .slice A r.old.length c, .slice B r.new.length d] ∧ Own w w0.heap.size 107 3 encG A c r.old ∧ Own w w0.heap.size 107 3 encG B d r.new ∧ Below w0.heap.size w0 w) := by
 refine enter Tryz.func11 rfl 16 rfl rfl ?_
 intro a hf
 have hW : Below w0.heap.size w0 w0 := Below.refl _ _
 refine wp_seq_k ?_; intro K3 hK3
 refine wp_region_lit ?_
 refine l_f hf rfl (ef_box (zs := [.int .i64 r.pos, .slice Ar r.old.length cr, .slice Br r.new.length dr]) hf rfl rfl) ?_; rintro a _ w1 ⟨b4, rfl, hl4, hE, hB4⟩ hf
 have hlo4 := Nat.le_trans hW.size hl4
 replace hr_r := hr_r.below hE
 replace hs_r := hs_r.below hE
 replace hW := btr hW hE
 clear hE
 refine l_f hf rfl (ef_alloc (zs := [.int .i64 0, .slice none 0 0, .slice none 0 0]) z_30 rfl) ?_; rintro a _ w2 ⟨b7, rfl, hl7, hE, hB7⟩ hf
 have hlo7 := Nat.le_trans hW.size hl7
 replace hB4 := hB4.below hE
 replace hr_r := hr_r.below hE
 replace hs_r := hs_r.below hE
 replace hW := btr hW hE
 clear hE
 refine wpList_nil ?_
 refine hK3 _ _ ?_; try clear hK3 K3
 refine wp_seq_k ?_; intro K8 hK8
 refine wp_region_lit ?_
 refine l_f hf rfl (ef_alloc (zs := [.int .i64 0, .slice none 0 0, .slice none 0 0]) z_30 rfl) ?_; rintro a _ w3 ⟨b11, rfl, hl11, hE, hB11⟩ hf
 have hne7_11 : b7 ≠ b11 := by have := hB7.lt; omega
 have hlo11 := Nat.le_trans hW.size hl11
 replace hB4 := hB4.below hE
 replace hB7 := hB7.below hE
 replace hr_r := hr_r.below hE
 replace hs_r := hs_r.below hE
 replace hW := btr hW hE
 clear hE
 refine wpList_nil ?_
 refine hK8 _ _ ?_; try clear hK8 K8
 refine wp_seq_k ?_; intro K12 hK12
 refine wp_region_lit ?_
 refine l_e hf rfl (ev_fieldB hf rfl fd_24_0 (m := 0) rfl) ?_; intro a hf
 refine l_e hf rfl (ev_load1 hf rfl t1_3 (hB4.at 0)) ?_; intro a hf
 refine l_e hf rfl (ev_fieldB hf rfl fd_30_0 (m := 0) rfl) ?_; intro a hf
 refine l_f0 hf (ef_store (vs := [.int .i64 r.pos]) (l' := [.int .i64 r.pos, .slice none 0 0, .slice none 0 0]) hf rfl rfl sz_3 hB11 rfl rfl rfl rfl rfl) ?_; rintro a _ w4 ⟨ho, hb⟩ hf
 have hold := hB11
 replace hB4 := hB4.only ho (Blk.ne hB4 hold rfl)
 replace hB7 := hB7.only ho (by omega)
 replace hr_r := hr_r.only ho hlo11
 replace hs_r := hs_r.only ho hlo11
 replace hW := Below.only hW ho hlo11
 clear hold
 have hB11 := hb
 clear hb ho
 refine wpList_nil ?_
 refine hK12 _ _ ?_; try clear hK12 K12
 refine wp_seq_k ?_; intro K13 hK13
 refine wp_region_lit ?_
 refine l_e hf rfl (ev_fieldB hf rfl fd_24_1 (m := 1) rfl) ?_; intro a hf
 refine l_e hf rfl (ev_load1 hf rfl t1_22 (hB4.at 1)) ?_; intro a hf
 refine l_f hf rfl (ef_call (vs := [.slice Ar r.old.length cr]) hf rfl ff_45 (F45 _ Ar cr r.old hr_r.top hla)) ?_; rintro a _ w5 ⟨A14, c14, rfl, ho14, hE⟩ hf
 replace ho14 := ho14.lower hW.size
 replace hB4 := hB4.below hE
 replace hB7 := hB7.below hE
 replace hB11 := hB11.below hE
 replace hr_r := hr_r.below hE
 replace hs_r := hs_r.below hE
 replace hW := btr hW hE
 clear hE
 refine l_e hf rfl (ev_fieldB hf rfl fd_30_1 (m := 1) rfl) ?_; intro a hf
 refine l_f0 hf (ef_store (vs := [.slice A14 r.old.length c14]) (l' := [.int .i64 r.pos, .slice A14 r.old.length c14, .slice none 0 0]) hf rfl rfl sz_28 hB11 rfl rfl rfl rfl rfl) ?_; rintro a _ w6 ⟨ho, hb⟩ hf
 have hold := hB11
 replace hB4 := hB4.only ho (Blk.ne hB4 hold rfl)
 replace hB7 := hB7.only ho (by omega)
 replace hr_r := hr_r.only ho hlo11
 replace hs_r := hs_r.only ho hlo11
 replace ho14 := ho14.onlyT ho hold rfl
 replace hW := Below.only hW ho hlo11
 clear hold
 have hB11 := hb
 clear hb ho
 refine wpList_nil ?_
 refine hK13 _ _ ?_; try clear hK13 K13
 refine wp_seq_k ?_; intro K15 hK15
 refine wp_region_lit ?_
 refine l_e hf rfl (ev_fieldB hf rfl fd_24_2 (m := 2) rfl) ?_; intro a hf
 refine l_e hf rfl (ev_load1 hf rfl t1_22 (hB4.at 2)) ?_; intro a hf
 refine l_f hf rfl (ef_call (vs := [.slice Br r.new.length dr]) hf rfl ff_45 (F45 _ Br dr r.new hs_r.top hlb)) ?_; rintro a _ w7 ⟨A16, c16, rfl, ho16, hE⟩ hf
 replace ho16 := ho16.lower hW.size
 replace hB4 := hB4.below hE
 replace hB7 := hB7.below hE
 replace hB11 := hB11.below hE
 replace hr_r := hr_r.below hE
 replace hs_r := hs_r.below hE
 replace ho14 := ho14.below hE
 replace hW := btr hW hE
 clear hE
 refine l_e hf rfl (ev_fieldB hf rfl fd_30_2 (m := 2) rfl) ?_; intro a hf
 refine l_f0 hf (ef_store (vs := [.slice A16 r.new.length c16]) (l' := [.int .i64 r.pos, .slice A14 r.old.length c14, .slice A16 r.new.length c16]) hf rfl rfl sz_28 hB11 rfl rfl rfl rfl rfl) ?_; rintro a _ w8 ⟨ho, hb⟩ hf
 have hold := hB11
 replace hB4 := hB4.only ho (Blk.ne hB4 hold rfl)
 replace hB7 := hB7.only ho (by omega)
 replace hr_r := hr_r.only ho hlo11
 replace hs_r := hs_r.only ho hlo11
 replace ho14 := ho14.onlyT ho hold rfl
 replace ho16 := ho16.onlyT ho hold rfl
 replace hW := Below.only hW ho hlo11
 clear hold
 have hB11 := hb
 clear hb ho
 refine wpList_nil ?_
 refine hK15 _ _ ?_; try clear hK15 K15
 refine wp_seq_k ?_; intro K17 hK17
 refine wp_region_lit ?_
 refine l_e hf rfl (ev_loadN (l := [.int .i64 r.pos, .slice A14 r.old.length c14, .slice A16 r.new.length c16]) hf rfl tN_30 (hB11.at 0) rfl) ?_; intro a hf
 refine l_f0 hf (ef_store (vs := [.int .i64 r.pos, .slice A14 r.old.length c14, .slice A16 r.new.length c16]) (l' := [.int .i64 r.pos, .slice A14 r.old.length c14, .slice A16 r.new.length c16]) hf rfl rfl sz_30 hB7 rfl rfl rfl rfl rfl) ?_; rintro a _ w9 ⟨ho, hb⟩ hf
 have hold := hB7
 replace hB4 := hB4.only ho (Blk.ne hB4 hold rfl)
 replace hB11 := hB11.only ho (by omega)
 replace hr_r := hr_r.only ho hlo7
 replace hs_r := hs_r.only ho hlo7
 replace ho14 := ho14.onlyT ho hold rfl
 replace ho16 := ho16.onlyT ho hold rfl
 replace hW := Below.only hW ho hlo7
 clear hold
 have hB7 := hb
 clear hb ho
 refine wpList_nil ?_
 refine hK17 _ _ ?_; try clear hK17 K17
 refine wp_ret ?_
 refine c_ret hf (res1 hf rfl (ResV.cellN (l := [.int .i64 r.pos, .slice A14 r.old.length c14, .slice A16 r.new.length c16]) rfl tN_30 (hB7.at 0) rfl)) ?_
 exact ⟨A14, c14, A16, c16, rfl, ho14, ho16, hW⟩
theorem F13 (w0 : World) (p : Rp) (Ap : Option Addr) (cp : Nat) (hr_p : Rd w0 w0.heap.size 107 encG Ap p.old) (Bp : Option Addr) (dp : Nat) (hs_p : Rd w0 w0.heap.size 107 encG Bp p.new) (q : Rp) (Aq : Option Addr) (cq : Nat) (hr_q : Rd w0 w0.heap.size 107 encG Aq q.old) (Bq : Option Addr) (dq : Nat) (hs_q : Rd w0 w0.heap.size 107 encG Bq q.new) (hla : p.old.length ≤ 2305843009213693951) (hlb : p.new.length ≤ 2305843009213693951) : Ret Tryz.prog 13 [.agg #[.int .i64 p.pos, .slice Ap p.old.length cp, .slice Bp p.new.length dp], .agg #[.int .i64 q.pos, .slice Aq q.old.length cq, .slice Bq q.new.length dq]] w0 (fun v w => v = .bool (decide (p.pos = q.pos) && decide (p.old = q.old) && decide (p.new = q.new)) ∧ Below w0.heap.size w0 w) := by
 refine enter Tryz.func13 rfl 22 rfl rfl ?_
 intro a hf
 have hW : Below w0.heap.size w0 w0 := Below.refl _ _
 refine wp_seq_k ?_; intro K5 hK5
 refine wp_region_lit ?_
 refine l_f hf rfl (ef_box (zs := [.int .i64 p.pos, .slice Ap p.old.length cp, .slice Bp p.new.length dp]) hf rfl rfl) ?_; rintro a _ w1 ⟨b6, rfl, hl6, hE, hB6⟩ hf
 have hlo6 := Nat.le_trans hW.size hl6
 replace hr_p := hr_p.below hE
 replace hs_p := hs_p.below hE
 replace hr_q := hr_q.below hE
 replace hs_q := hs_q.below hE
 replace hW := btr hW hE
 clear hE
 refine l_f hf rfl (ef_box (zs := [.int .i64 q.pos, .slice Aq q.old.length cq, .slice Bq q.new.length dq]) hf rfl rfl) ?_; rintro a _ w2 ⟨b7, rfl, hl7, hE, hB7⟩ hf
 have hne6_7 : b6 ≠ b7 := by have := hB6.lt; omega
 have hlo7 := Nat.le_trans hW.size hl7
 replace hB6 := hB6.below hE
 replace hr_p := hr_p.below hE
 replace hs_p := hs_p.below hE
 replace hr_q := hr_q.below hE
 replace hs_q := hs_q.below hE
 replace hW := btr hW hE
 clear hE
 refine l_as hf rfl rfl ?_; intro a hf
 refine wpList_nil ?_
 refine hK5 _ _ ?_; try clear hK5 K5
 refine wp_seq_k ?_; intro K8 hK8
 refine wp_seq_k ?_; intro K9 hK9
 refine wp_region_lit ?_
 refine l_e hf rfl (ev_fieldB hf rfl fd_30_0 (m := 0) rfl) ?_; intro a hf
 refine l_e hf rfl (ev_load1 hf rfl t1_3 (hB6.at 0)) ?_; intro a hf
 refine l_e hf rfl (ev_fieldB hf rfl fd_30_0 (m := 0) rfl) ?_; intro a hf
 refine l_e hf rfl (ev_load1 hf rfl t1_3 (hB7.at 0)) ?_; intro a hf
 refine l_e hf rfl (ev_neq hf rfl rfl) ?_; intro a hf
 refine wpList_nil ?_
 refine hK9 _ _ ?_; try clear hK9 K9
 refine c_if hf rfl (fun hc10 => ?_) (fun hc10 => ?_)
 ·have hc10b := hc10
  have hn : ¬ p.pos = q.pos := by simpa using hc10
  refine wp_seq_k ?_; intro K11 hK11
  refine wp_region_lit ?_
  refine l_as hf rfl rfl ?_; intro a hf
  refine wpList_nil ?_
  refine hK11 _ _ ?_; try clear hK11 K11
  refine wp_ret ?_
  refine x_retS ?_
  refine c_ret hf (res1 hf rfl rfl) ?_
  exact ⟨by simp [hn], hW⟩
 ·have hc10b := hc10
  have e1 : p.pos = q.pos := by simpa using hc10
  refine wp_skip ?_
  refine hK8 _ _ ?_; try clear hK8 K8
  refine wp_seq_k ?_; intro K12 hK12
  refine wp_seq_k ?_; intro K13 hK13
  refine wp_region_lit ?_
  refine l_e hf rfl (ev_fieldB hf rfl fd_30_1 (m := 1) rfl) ?_; intro a hf
  refine l_e hf rfl (ev_load1 hf rfl t1_28 (hB6.at 1)) ?_; intro a hf
  refine l_e hf rfl (ev_fieldB hf rfl fd_30_1 (m := 1) rfl) ?_; intro a hf
  refine l_e hf rfl (ev_load1 hf rfl t1_28 (hB7.at 1)) ?_; intro a hf
  refine l_f hf rfl (ef_call (vs := [.slice Ap p.old.length cp, .slice Aq q.old.length cq]) hf rfl ff_52 (F52 _ Ap cp p.old hr_p.top Aq cq q.old hr_q.top hla)) ?_; rintro a _ w3 ⟨rfl, hE⟩ hf
  replace hB6 := hB6.below hE
  replace hB7 := hB7.below hE
  replace hr_p := hr_p.below hE
  replace hs_p := hs_p.below hE
  replace hr_q := hr_q.below hE
  replace hs_q := hs_q.below hE
  replace hW := btr hW hE
  clear hE
  refine l_e hf rfl (ev_not hf rfl) ?_; intro a hf
  refine wpList_nil ?_
  refine hK13 _ _ ?_; try clear hK13 K13
  refine c_if hf rfl (fun hc14 => ?_) (fun hc14 => ?_)
  ·have hc14b := hc14
   have hn : ¬ p.old = q.old := by simpa using hc14
   refine wp_seq_k ?_; intro K15 hK15
   refine wp_region_lit ?_
   refine l_as hf rfl rfl ?_; intro a hf
   refine wpList_nil ?_
   refine hK15 _ _ ?_; try clear hK15 K15
   refine wp_ret ?_
   refine x_retS ?_
   refine c_ret hf (res1 hf rfl rfl) ?_
   exact ⟨by simp [hn], hW⟩
  ·have hc14b := hc14
   have e2 : p.old = q.old := by simpa using hc14
   refine wp_skip ?_
   refine hK12 _ _ ?_; try clear hK12 K12
   refine wp_seq_k ?_; intro K16 hK16
   refine wp_seq_k ?_; intro K17 hK17
   refine wp_region_lit ?_
   refine l_e hf rfl (ev_fieldB hf rfl fd_30_2 (m := 2) rfl) ?_; intro a hf
   refine l_e hf rfl (ev_load1 hf rfl t1_28 (hB6.at 2)) ?_; intro a hf
   refine l_e hf rfl (ev_fieldB hf rfl fd_30_2 (m := 2) rfl) ?_; intro a hf
   refine l_e hf rfl (ev_load1 hf rfl t1_28 (hB7.at 2)) ?_; intro a hf
   refine l_f hf rfl (ef_call (vs := [.slice Bp p.new.length dp, .slice Bq q.new.length dq]) hf rfl ff_52 (F52 _ Bp dp p.new hs_p.top Bq dq q.new hs_q.top hlb)) ?_; rintro a _ w4 ⟨rfl, hE⟩ hf
   replace hB6 := hB6.below hE
   replace hB7 := hB7.below hE
   replace hr_p := hr_p.below hE
   replace hs_p := hs_p.below hE
   replace hr_q := hr_q.below hE
   replace hs_q := hs_q.below hE
   replace hW := btr hW hE
   clear hE
   refine l_e hf rfl (ev_not hf rfl) ?_; intro a hf
   refine wpList_nil ?_
   refine hK17 _ _ ?_; try clear hK17 K17
   refine c_if hf rfl (fun hc18 => ?_) (fun hc18 => ?_)
   ·have hc18b := hc18
    have hn : ¬ p.new = q.new := by simpa using hc18
    refine wp_seq_k ?_; intro K19 hK19
    refine wp_region_lit ?_
    refine l_as hf rfl rfl ?_; intro a hf
    refine wpList_nil ?_
    refine hK19 _ _ ?_; try clear hK19 K19
    refine wp_ret ?_
    refine x_retS ?_
    refine c_ret hf (res1 hf rfl rfl) ?_
    exact ⟨by simp [hn], hW⟩
   ·have hc18b := hc18
    have e3 : p.new = q.new := by simpa using hc18
    refine wp_skip ?_
    refine hK16 _ _ ?_; try clear hK16 K16
    refine wp_seq_k ?_; intro K20 hK20
    refine wp_region_lit ?_
    refine l_as hf rfl rfl ?_; intro a hf
    refine wpList_nil ?_
    refine hK20 _ _ ?_; try clear hK20 K20
    refine wp_ret ?_
    refine c_ret hf (res1 hf rfl rfl) ?_
    exact ⟨by simp [e1, e2, e3], hW⟩
end Go.Proofs.YtfgnmflfiobkmaaGreat
set_option maxRecDepth 4000
namespace Go.Proofs.YtfgnmflfiobkmaaGreat
open Go.RowKit
theorem F109 (w0 : World) (Ap : Option Addr) (cp : Nat) (p : List Gt) (hr_p : Rd w0 w0.heap.size 107 encG Ap p) (Aq : Option Addr) (cq : Nat) (q : List Gt) (hr_q : Rd w0 w0.heap.size 107 encG Aq q) (hln : p.length ≤ 2305843009213693951) : Ret Tryz.prog 109 [.slice Ap p.length cp, .slice Aq q.length cq] w0 (fun v w => v = .bool (decide (p = q)) ∧ Below w0.heap.size w0 w) := by
 refine enter Tryz.func109 rfl 26 rfl rfl ?_
 intro a hf
 have hW : Below w0.heap.size w0 w0 := Below.refl _ _
 refine wp_seq_k ?_; intro K3 hK3
 refine wp_region_lit ?_
 refine l_as hf rfl rfl ?_; intro a hf
 refine wpList_nil ?_
 refine hK3 _ _ ?_; try clear hK3 K3
 refine wp_seq_k ?_; intro K4 hK4
 refine wp_seq_k ?_; intro K5 hK5
 refine wp_region_lit ?_
 refine l_mv hf rfl rfl ?_; intro a hf
 refine l_e hf rfl (ev_len hf rfl sl_28) ?_; intro a hf
 refine l_mv hf rfl rfl ?_; intro a hf
 refine l_e hf rfl (ev_len hf rfl sl_28) ?_; intro a hf
 refine l_e hf rfl (ev_neq hf rfl rfl) ?_; intro a hf
 refine wpList_nil ?_
 refine hK5 _ _ ?_; try clear hK5 K5
 refine c_if hf rfl (fun hc6 => ?_) (fun hc6 => ?_)
 ·have hc6b := hc6
  have hne : ¬ p = q := by intro h9; rw [h9] at hc6; simp at hc6
  refine wp_seq_k ?_; intro K7 hK7
  refine wp_region_lit ?_
  refine l_as hf rfl rfl ?_; intro a hf
  refine wpList_nil ?_
  refine hK7 _ _ ?_; try clear hK7 K7
  refine wp_ret ?_
  refine x_retS ?_
  refine c_ret hf (res1 hf rfl rfl) ?_
  exact ⟨by simp [hne], hW⟩
 ·have hc6b := hc6
  have hll : p.length = q.length := by have h9 : (p.length : Int) = q.length := (by simpa using hc6); omega
  refine wp_skip ?_
  refine hK4 _ _ ?_; try clear hK4 K4
  refine wp_seq_k ?_; intro K8 hK8
  refine wp_seq_k ?_; intro K9 hK9
  refine wp_region_lit ?_
  refine l_mv hf rfl rfl ?_; intro a hf
  refine l_e hf rfl (ev_len hf rfl sl_28) ?_; intro a hf
  refine l_mv hf rfl rfl ?_; intro a hf
  refine wpList_nil ?_
  refine hK9 _ _ ?_; try clear hK9 K9
  refine wp_block ?_
  refine c_loop (σ := Nat) (fun (k : Nat) (a : Act) (w : World) => Fr a 26 [(0, .slice Ap p.length cp), (1, .slice Aq q.length cq), (12, .int .i64 (p.length : Int)), (13, .int .i64 (k : Int))] ∧ (k ≤ p.length) ∧ (p.take k = q.take k) ∧ Rd w w0.heap.size 107 encG Ap p ∧ Rd w w0.heap.size 107 encG Aq q ∧ Below w0.heap.size w0 w) (fun (k : Nat) => p.length - k) 0 ?_ ?_
  · exact ⟨hf.sub ⟨rfl, rfl, rfl, rfl, trivial⟩, (Nat.zero_le _), (by simp), hr_p, hr_q, hW⟩
  rintro k a w1 ⟨hf, hk, hpre, hr_p, hr_q, hW⟩
  refine wp_seq_k ?_; intro K10 hK10
  refine wp_region_lit ?_
  refine l_e hf rfl (ev_lss hf rfl rfl) ?_; intro a hf
  refine wpList_nil ?_
  refine hK10 _ _ ?_; try clear hK10 K10
  refine wp_seq_k ?_; intro K11 hK11
  refine c_if hf rfl (fun hc12 => ?_) (fun hc12 => ?_)
  ·have hc12b := hc12
   have hc12 := of_decide_eq_true hc12
   obtain ⟨u13, hu13⟩ := getElem_ex (l := p) (k := k) (by omega)
   obtain ⟨v9, hv9⟩ := getElem_ex (l := q) (k := k) (by omega)
   refine wp_skip ?_
   refine hK11 _ _ ?_; try clear hK11 K11
   refine wp_seq_k ?_; intro K14 hK14
   refine wp_block ?_
   refine wp_seq_k ?_; intro K15 hK15
   refine wp_region_lit ?_
   refine l_mv hf rfl rfl ?_; intro a hf
   refine l_as hf rfl rfl ?_; intro a hf
   refine wpList_nil ?_
   refine hK15 _ _ ?_; try clear hK15 K15
   refine wp_seq_k ?_; intro K16 hK16
   refine wp_draw none (fun _ => false) mixed ?_
   intro w2 hE
   replace hr_p := hr_p.below hE
   replace hr_q := hr_q.below hE
   replace hW := btr hW hE
   clear hE
   refine s_e0 0 rfl (by kernel_rfl) hf rfl (fun _ => ev_move hf rfl) ?_; intro a hf
   refine s_e0 1 rfl (by kernel_rfl) hf rfl (fun _ => ev_move hf rfl) ?_; intro a hf
   refine s_index (k := k) (u := u13) (enc := encG) (l := p) 2 rfl (by kernel_rfl) (by kernel_rfl) hf trivial rfl rfl rfl sl_28 sz_107 encG_len hr_p hu13 rfl ?_; intro a p18 hat17 hf
   refine s_e 3 rfl (by kernel_rfl) (by kernel_rfl) hf rfl (ev_loadN (l := [.int .i64 u13.k, .int .i64 u13.a, .int .i64 u13.b]) hf rfl tN_107 hat17 rfl) ?_; intro a hf
   refine s_e0 4 rfl (by kernel_rfl) hf rfl (fun _ => ev_move hf rfl) ?_; intro a hf
   refine s_e0 5 rfl (by kernel_rfl) hf rfl (fun _ => ev_move hf rfl) ?_; intro a hf
   refine s_index (k := k) (u := v9) (enc := encG) (l := q) 6 rfl (by kernel_rfl) (by kernel_rfl) hf trivial rfl rfl rfl sl_28 sz_107 encG_len hr_q hv9 rfl ?_; intro a p20 hat19 hf
   refine s_e 7 rfl (by kernel_rfl) (by kernel_rfl) hf rfl (ev_loadN (l := [.int .i64 v9.k, .int .i64 v9.a, .int .i64 v9.b]) hf rfl tN_107 hat19 rfl) ?_; intro a hf
   refine s_e0 8 rfl (by kernel_rfl) hf rfl (fun _ => ev_neqS hf rfl rfl gd_107 (fun w => eqG107 9998 u13 v9 w)) ?_; intro a hf
   refine s_done (by kernel_rfl) ?_
   refine hK16 _ _ ?_; try clear hK16 K16
   refine c_if hf rfl (fun hc21 => ?_) (fun hc21 => ?_)
   ·have hc21b := hc21
    have hne : ¬ p = q := by rintro rfl; rw [hu13] at hv9; injection hv9 with e9; revert hc21; simp [e9]
    refine wp_seq_k ?_; intro K22 hK22
    refine wp_region_lit ?_
    refine l_as hf rfl rfl ?_; intro a hf
    refine wpList_nil ?_
    refine hK22 _ _ ?_; try clear hK22 K22
    refine wp_ret ?_
    refine x_retB ?_
    refine x_retS ?_
    refine x_retS ?_
    refine x_retB ?_
    refine x_retS ?_
    refine c_ret hf (res1 hf rfl rfl) ?_
    exact ⟨by simp [hne], hW⟩
   ·have hc21b := hc21
    have he9 : u13 = v9 := by revert hc21; simp
    refine wp_skip ?_
    refine x_norm ?_
    refine hK14 _ _ ?_; try clear hK14 K14
    refine wp_region_lit ?_
    refine l_e hf rfl (ev_addx hf rfl rfl (by omega) (by omega)) ?_; intro a hf
    refine l_mv hf rfl rfl ?_; intro a hf
    refine wpList_nil ?_
    refine x_thenN ?_
    exact ⟨k + 1, ⟨hf.sub ⟨rfl, rfl, rfl, rfl, trivial⟩, (by omega), (take_eq hpre hu13 hv9 he9), hr_p, hr_q, hW⟩, (by omega)⟩
  ·have hc12b := hc12
   have hc12 := of_decide_eq_false hc12
   refine wp_exit ?_
   refine x_exS ?_
   refine x_exS ?_
   refine x_exit ?_
   refine hK8 _ _ ?_; try clear hK8 K8
   refine wp_seq_k ?_; intro K23 hK23
   refine wp_region_lit ?_
   refine l_as hf rfl rfl ?_; intro a hf
   refine wpList_nil ?_
   refine hK23 _ _ ?_; try clear hK23 K23
   refine wp_ret ?_
   refine c_ret hf (res1 hf rfl rfl) ?_
   have he : p = q := by rw [List.take_of_length_le (by omega), List.take_of_length_le (by omega)] at hpre; exact hpre
   exact ⟨by simp [he], hW⟩
theorem F110 (w0 : World) (n : Int) (Al : Option Addr) (cl : Nat) (l : List Gt) (hr_l : Rd w0 w0.heap.size 107 encG Al l) (hln : l.length ≤ 1000000000) : Ret Tryz.prog 110 [.int .i64 n, .slice Al l.length cl] w0 (fun v w => ∃ A c1, v = .tuple #[.agg #[.int .i64 ((cIf ⟨n, l⟩).getD cZ).n, .slice A ((cIf ⟨n, l⟩).getD cZ).gs.length c1], .bool (cIf ⟨n, l⟩).isSome] ∧ Own w w0.heap.size 107 3 encG A c1 ((cIf ⟨n, l⟩).getD cZ).gs ∧ Below w0.heap.size w0 w) := by
 refine enter Tryz.func110 rfl 17 rfl rfl ?_
 intro a hf
 have hW : Below w0.heap.size w0 w0 := Below.refl _ _
 refine wp_seq_k ?_; intro K2 hK2
 refine wp_region_lit ?_
 refine l_f hf rfl (ef_alloc (zs := [.int .i64 0, .slice none 0 0]) z_41 rfl) ?_; rintro a _ w1 ⟨b4, rfl, hl4, hE, hB4⟩ hf
 have hlo4 := Nat.le_trans hW.size hl4
 replace hr_l := hr_l.below hE
 replace hW := btr hW hE
 clear hE
 refine l_as hf rfl rfl ?_; intro a hf
 refine wpList_nil ?_
 refine hK2 _ _ ?_; try clear hK2 K2
 refine wp_seq_k ?_; intro K5 hK5
 refine wp_region_lit ?_
 refine l_mv hf rfl rfl ?_; intro a hf
 refine l_f hf rfl (ef_buildSlice (k := 0) (vs := []) (zs := []) hf rfl sl_28 inf_107 rfl rfl) ?_; rintro a _ w2 ⟨b6, rfl, hl6, hE, hB6⟩ hf
 have hlo6 := Nat.le_trans hW.size hl6
 have haw1_6 := hr_l.away hl6
 replace hB4 := hB4.below hE
 replace hr_l := hr_l.below hE
 replace hW := btr hW hE
 clear hE
 refine l_mv hf rfl rfl ?_; intro a hf
 refine l_f hf rfl (ef_append (enc := encG) (l := ([] : List Gt)) (l2 := (l)) (B0 := w0.heap.size) hf rfl rfl sl_28 inf_107 encG_len encG_one (Own.empty hB6 hlo6) hr_l (by simp only [maxLen]; simp; omega) (by simp; omega) hW.size) ?_; rintro a _ w3 ⟨A8, c8, rfl, ho8, hg, hat⟩ hf
 have hown : Own _ w0.heap.size 107 3 encG _ _ ([] : List Gt) := (Own.empty hB6 hlo6)
 clear hat
 replace hB4 := hB4.appT hown hg rfl
 replace hr_l := hr_l.appB hown hg (Nat.le_refl _)
 replace hW := Below.app hW hown hg (Nat.le_refl _) hW.size
 clear hown hg
 simp only [List.nil_append] at ho8 hf
 refine l_e hf rfl (ev_build (ps := [(0, .int .i64 n), (1, .slice A8 l.length c8)]) (cs := [.int .i64 n, .slice A8 l.length c8]) hf rfl (fun _ => by first | rfl | kernel_rfl)) ?_; intro a hf
 refine l_f hf rfl (ef_alloc (zs := [.int .i64 0, .slice none 0 0]) z_41 rfl) ?_; rintro a _ w4 ⟨b11, rfl, hl11, hE, hB11⟩ hf
 have hne4_11 : b4 ≠ b11 := by have := hB4.lt; omega
 have hlo11 := Nat.le_trans hW.size hl11
 replace hB4 := hB4.below hE
 replace hr_l := hr_l.below hE
 replace ho8 := ho8.below hE
 replace hW := btr hW hE
 clear hE
 refine l_f0 hf (ef_store (vs := [.int .i64 n, .slice A8 l.length c8]) (l' := [.int .i64 n, .slice A8 l.length c8]) hf rfl rfl sz_41 hB11 rfl rfl rfl rfl rfl) ?_; rintro a _ w5 ⟨ho, hb⟩ hf
 have hold := hB11
 replace hB4 := hB4.only ho (by omega)
 replace hr_l := hr_l.onlyT ho hold rfl
 replace ho8 := ho8.onlyT ho hold rfl
 replace hW := Below.only hW ho hlo11
 clear hold
 have hB11 := hb
 clear hb ho
 refine wpList_nil ?_
 refine hK5 _ _ ?_; try clear hK5 K5
 refine wp_seq_k ?_; intro K12 hK12
 refine wp_seq_k ?_; intro K13 hK13
 refine wp_region_lit ?_
 refine l_e hf rfl (ev_loadN (l := [.int .i64 n, .slice A8 l.length c8]) hf rfl tN_41 (hB11.at 0) rfl) ?_; intro a hf
 refine l_f hf rfl (ef_call (vs := [.agg #[.int .i64 n, .slice A8 l.length c8]]) hf rfl ff_55 (F55 _ (⟨n, l⟩ : Cx) A8 c8 ho8.rd.top (by show l.length ≤ _; omega))) ?_; rintro a _ w6 ⟨rfl, hE⟩ hf
 replace hB4 := hB4.below hE
 replace hB11 := hB11.below hE
 replace hr_l := hr_l.below hE
 replace ho8 := ho8.below hE
 replace hW := btr hW hE
 clear hE
 refine l_e hf rfl (ev_not hf rfl) ?_; intro a hf
 refine wpList_nil ?_
 refine hK13 _ _ ?_; try clear hK13 K13
 refine c_if hf rfl (fun hc14 => ?_) (fun hc14 => ?_)
 ·have hc14b := hc14
  have hfin : cIf ⟨n, l⟩ = none := by rw [cIf, if_neg]; revert hc14; cases cOk ⟨n, l⟩ <;> simp
  refine wp_seq_k ?_; intro K15 hK15
  refine wp_region_lit ?_
  refine l_e hf rfl (ev_build (ps := []) (cs := [.int .i64 0, .slice none 0 0]) hf rfl (fun _ => by first | rfl | kernel_rfl)) ?_; intro a hf
  refine l_f0 hf (ef_store (vs := [.int .i64 0, .slice none 0 0]) (l' := [.int .i64 0, .slice none 0 0]) hf rfl rfl sz_41 hB4 rfl rfl rfl rfl rfl) ?_; rintro a _ w7 ⟨ho, hb⟩ hf
  have hold := hB4
  replace hB11 := hB11.only ho (by omega)
  replace hr_l := hr_l.onlyT ho hold rfl
  replace ho8 := ho8.onlyT ho hold rfl
  replace hW := Below.only hW ho hlo4
  clear hold
  have hB4 := hb
  clear hb ho
  refine l_as hf rfl rfl ?_; intro a hf
  refine wpList_nil ?_
  refine hK15 _ _ ?_; try clear hK15 K15
  refine wp_ret ?_
  refine x_retS ?_
  refine c_ret hf (res2 hf rfl (ResV.cellN (l := [.int .i64 0, .slice none 0 0]) rfl tN_41 (hB4.at 0) rfl) rfl) ?_
  rw [hfin]
  exact ⟨none, 0, rfl, (Own.nil _ _ _ _ _), hW⟩
 ·have hc14b := hc14
  have hfin : cIf ⟨n, l⟩ = some ⟨n, l⟩ := by rw [cIf, if_pos]; revert hc14; cases cOk ⟨n, l⟩ <;> simp
  refine wp_skip ?_
  refine hK12 _ _ ?_; try clear hK12 K12
  refine wp_seq_k ?_; intro K17 hK17
  refine wp_region_lit ?_
  refine l_e hf rfl (ev_loadN (l := [.int .i64 n, .slice A8 l.length c8]) hf rfl tN_41 (hB11.at 0) rfl) ?_; intro a hf
  refine l_f0 hf (ef_store (vs := [.int .i64 n, .slice A8 l.length c8]) (l' := [.int .i64 n, .slice A8 l.length c8]) hf rfl rfl sz_41 hB4 rfl rfl rfl rfl rfl) ?_; rintro a _ w8 ⟨ho, hb⟩ hf
  have hold := hB4
  replace hB11 := hB11.only ho (by omega)
  replace hr_l := hr_l.onlyT ho hold rfl
  replace ho8 := ho8.onlyT ho hold rfl
  replace hW := Below.only hW ho hlo4
  clear hold
  have hB4 := hb
  clear hb ho
  refine l_as hf rfl rfl ?_; intro a hf
  refine wpList_nil ?_
  refine hK17 _ _ ?_; try clear hK17 K17
  refine wp_ret ?_
  refine c_ret hf (res2 hf rfl (ResV.cellN (l := [.int .i64 n, .slice A8 l.length c8]) rfl tN_41 (hB4.at 0) rfl) rfl) ?_
  rw [hfin]
  exact ⟨A8, c8, rfl, ho8, hW⟩
theorem F111 (w0 : World) (ls : List Sg) (Al : Option Addr) (cl : Nat) (hr_ls : Rd w0 w0.heap.size 28 encSg Al ls) (hall : ∀ s ∈ ls, Rd w0 w0.heap.size 107 encG s.A s.l) (hln : ls.length ≤ 1000) (hsum : (ls.flatMap Sg.l).length ≤ 1000000000) : Ret Tryz.prog 111 [.slice Al ls.length cl] w0 (fun v w => ∃ A c, v = .slice A (ls.flatMap Sg.l).length c ∧ Own w w0.heap.size 107 3 encG A c (ls.flatMap Sg.l) ∧ Below w0.heap.size w0 w) := by
 refine enter Tryz.func111 rfl 36 rfl rfl ?_
 intro a hf
 have hW : Below w0.heap.size w0 w0 := Below.refl _ _
 refine wp_seq_k ?_; intro K2 hK2
 refine wp_region_lit ?_
 refine l_as hf rfl rfl ?_; intro a hf
 refine wpList_nil ?_
 refine hK2 _ _ ?_; try clear hK2 K2
 refine wp_seq_k ?_; intro K4 hK4
 refine wp_region_lit ?_
 refine l_as hf rfl rfl ?_; intro a hf
 refine wpList_nil ?_
 refine hK4 _ _ ?_; try clear hK4 K4
 refine wp_seq_k ?_; intro K5 hK5
 refine wp_seq_k ?_; intro K6 hK6
 refine wp_region_lit ?_
 refine l_mv hf rfl rfl ?_; intro a hf
 refine l_e hf rfl (ev_len hf rfl sl_202) ?_; intro a hf
 refine l_mv hf rfl rfl ?_; intro a hf
 refine wpList_nil ?_
 refine hK6 _ _ ?_; try clear hK6 K6
 refine wp_block ?_
 refine c_loop (σ := Nat) (fun (k : Nat) (a : Act) (w : World) => Fr a 36 [(0, .slice Al ls.length cl), (3, .int .i64 (((ls.take k).flatMap Sg.l).length : Int)), (9, .slice Al ls.length cl), (10, .int .i64 (ls.length : Int)), (11, .int .i64 (k : Int))] ∧ (k ≤ ls.length) ∧ Rd w w0.heap.size 28 encSg Al ls ∧ Below w0.heap.size w0 w) (fun (k : Nat) => ls.length - k) 0 ?_ ?_
 · exact ⟨hf.sub ⟨rfl, rfl, rfl, rfl, rfl, trivial⟩, (Nat.zero_le _), hr_ls, hW⟩
 rintro k a w1 ⟨hf, hk, hr_ls, hW⟩
 refine wp_seq_k ?_; intro K7 hK7
 refine wp_region_lit ?_
 refine l_e hf rfl (ev_lss hf rfl rfl) ?_; intro a hf
 refine wpList_nil ?_
 refine hK7 _ _ ?_; try clear hK7 K7
 refine wp_seq_k ?_; intro K8 hK8
 refine c_if hf rfl (fun hc9 => ?_) (fun hc9 => ?_)
 ·have hc9b := hc9
  have hc9 := of_decide_eq_true hc9
  obtain ⟨u10, hu10⟩ := getElem_ex (l := ls) (k := k) (by omega)
  have hst := flat_step (f := Sg.l) hu10
  have hle := flat_le Sg.l ls (k + 1)
  rw [hst, List.length_append] at hle
  refine wp_skip ?_
  refine hK8 _ _ ?_; try clear hK8 K8
  refine wp_seq_k ?_; intro K11 hK11
  refine wp_block ?_
  refine wp_seq_k ?_; intro K12 hK12
  refine wp_region_lit ?_
  refine l_index (k := k) (u := u10) (enc := encSg) (l := ls) hf trivial rfl rfl rfl sl_202 sz_28 encSg_len hr_ls hu10 rfl ?_; intro a p14 hat13 hf
  have hr15 : Rd w1 w0.heap.size 107 encG u10.A u10.l := (hall u10 (List.mem_of_getElem? hu10)).below' hW
  refine l_e hf rfl (ev_load1 hf rfl t1_28 hat13) ?_; intro a hf
  refine l_as hf rfl rfl ?_; intro a hf
  refine wpList_nil ?_
  refine hK12 _ _ ?_; try clear hK12 K12
  refine wp_seq_k ?_; intro K16 hK16
  refine wp_region_lit ?_
  refine l_mv hf rfl rfl ?_; intro a hf
  refine l_mv hf rfl rfl ?_; intro a hf
  refine l_e hf rfl (ev_len hf rfl sl_28) ?_; intro a hf
  refine l_e hf rfl (ev_addx hf rfl rfl (by omega) (by omega)) ?_; intro a hf
  refine l_as hf rfl rfl ?_; intro a hf
  refine wpList_nil ?_
  refine hK16 _ _ ?_; try clear hK16 K16
  refine wp_seq_k ?_; intro K17 hK17
  refine wp_region_lit ?_
  refine l_mv hf rfl rfl ?_; intro a hf
  refine l_e hf rfl (ev_lss hf rfl rfl) ?_; intro a hf
  refine wpList_nil ?_
  refine hK17 _ _ ?_; try clear hK17 K17
  refine c_if hf rfl (fun hc18 => ?_) (fun hc18 => ?_)
  ·have hc18b := hc18
   have hc18 := of_decide_eq_true hc18
   exact absurd hc18 (by omega)
  ·have hc18b := hc18
   have hc18 := of_decide_eq_false hc18
   refine wp_skip ?_
   refine x_norm ?_
   refine hK11 _ _ ?_; try clear hK11 K11
   refine wp_region_lit ?_
   refine l_e hf rfl (ev_addx hf rfl rfl (by omega) (by omega)) ?_; intro a hf
   refine l_mv hf rfl rfl ?_; intro a hf
   refine wpList_nil ?_
   have hjj : ((((ls.take k).flatMap Sg.l).length : Int) + (u10.l.length : Int)) = (((ls.take (k + 1)).flatMap Sg.l).length : Int) := by rw [hst, List.length_append]; omega
   rw [hjj] at hf
   refine x_thenN ?_
   exact ⟨k + 1, ⟨hf.sub ⟨rfl, rfl, rfl, rfl, rfl, trivial⟩, (by omega), hr_ls, hW⟩, (by omega)⟩
 ·have hc9b := hc9
  have hc9 := of_decide_eq_false hc9
  refine wp_exit ?_
  refine x_exS ?_
  refine x_exS ?_
  refine x_exit ?_
  refine hK5 _ _ ?_; try clear hK5 K5
  refine wp_seq_k ?_; intro K19 hK19
  refine wp_region_lit ?_
  refine l_mv hf rfl rfl ?_; intro a hf
  refine l_f hf rfl (ef_call (vs := [.slice none 0 0, .int .i64 (((ls.take k).flatMap Sg.l).length : Int)]) hf rfl ff_153 (F153 _ (((ls.take k).flatMap Sg.l).length) (by have := flat_le Sg.l ls k; omega))) ?_; rintro a _ w2 ⟨A21, c21, rfl, ho21, hE⟩ hf
  replace ho21 := ho21.lower hW.size
  replace hr_ls := hr_ls.below hE
  replace hW := btr hW hE
  clear hE
  refine l_as hf rfl rfl ?_; intro a hf
  refine wpList_nil ?_
  refine hK19 _ _ ?_; try clear hK19 K19
  refine wp_seq_k ?_; intro K22 hK22
  refine wp_seq_k ?_; intro K23 hK23
  refine wp_region_lit ?_
  refine l_mv hf rfl rfl ?_; intro a hf
  refine l_e hf rfl (ev_len hf rfl sl_202) ?_; intro a hf
  refine l_mv hf rfl rfl ?_; intro a hf
  refine wpList_nil ?_
  refine hK23 _ _ ?_; try clear hK23 K23
  refine wp_block ?_
  refine c_loop (σ := Nat × (List Gt)) (fun (s : Nat × (List Gt)) (a : Act) (w : World) => match s with | (j, l) => ∃ A24 c24, Fr a 36 [(6, .slice A24 l.length c24), (25, .slice Al ls.length cl), (26, .int .i64 (ls.length : Int)), (27, .int .i64 (j : Int))] ∧ (j ≤ ls.length) ∧ (l = (ls.take j).flatMap Sg.l) ∧ Own w w0.heap.size 107 3 encG A24 c24 l ∧ Rd w w0.heap.size 28 encSg Al ls ∧ Below w0.heap.size w0 w) (fun (s : Nat × (List Gt)) => match s with | (j, l) => ls.length - j) (0, []) ?_ ?_
  · exact ⟨A21, c21, hf.sub ⟨rfl, rfl, rfl, rfl, trivial⟩, (Nat.zero_le _), rfl, ho21, hr_ls, hW⟩
  rintro ⟨j, l⟩ a w3 ⟨A24, c24, hf, hj, hl, ho24, hr_ls, hW⟩
  refine wp_seq_k ?_; intro K25 hK25
  refine wp_region_lit ?_
  refine l_e hf rfl (ev_lss hf rfl rfl) ?_; intro a hf
  refine wpList_nil ?_
  refine hK25 _ _ ?_; try clear hK25 K25
  refine wp_seq_k ?_; intro K26 hK26
  refine c_if hf rfl (fun hc27 => ?_) (fun hc27 => ?_)
  ·have hc27b := hc27
   have hc27 := of_decide_eq_true hc27
   obtain ⟨u28, hu28⟩ := getElem_ex (l := ls) (k := j) (by omega)
   have hst := flat_step (f := Sg.l) hu28
   have hle := flat_le Sg.l ls (j + 1)
   rw [hst, List.length_append, ← hl] at hle
   refine wp_skip ?_
   refine hK26 _ _ ?_; try clear hK26 K26
   refine wp_seq_k ?_; intro K29 hK29
   refine wp_block ?_
   refine wp_seq_k ?_; intro K30 hK30
   refine wp_region_lit ?_
   refine l_index (k := j) (u := u28) (enc := encSg) (l := ls) hf trivial rfl rfl rfl sl_202 sz_28 encSg_len hr_ls hu28 rfl ?_; intro a p32 hat31 hf
   have hr33 : Rd w3 w0.heap.size 107 encG u28.A u28.l := (hall u28 (List.mem_of_getElem? hu28)).below' hW
   refine l_e hf rfl (ev_load1 hf rfl t1_28 hat31) ?_; intro a hf
   refine l_as hf rfl rfl ?_; intro a hf
   refine wpList_nil ?_
   refine hK30 _ _ ?_; try clear hK30 K30
   refine wp_region_lit ?_
   refine l_mv hf rfl rfl ?_; intro a hf
   refine l_mv hf rfl rfl ?_; intro a hf
   refine l_f hf rfl (ef_append (enc := encG) (l := (l)) (l2 := (u28.l)) (B0 := w0.heap.size) hf rfl rfl sl_28 inf_107 encG_len encG_one ho24 hr33 (by simp only [maxLen]; omega) (by omega) hW.size) ?_; rintro a _ w4 ⟨A34, c34, rfl, ho34, hg, hat⟩ hf
   have hown : Own _ w0.heap.size 107 3 encG _ _ (l) := ho24
   clear hat
   replace hr_ls := hr_ls.appT hown hg rfl
   replace hr33 := hr33.appB hown hg (Nat.le_refl _)
   replace hW := Below.app hW hown hg (Nat.le_refl _) hW.size
   clear hown hg
   refine l_as hf rfl rfl ?_; intro a hf
   refine wpList_nil ?_
   refine x_norm ?_
   refine hK29 _ _ ?_; try clear hK29 K29
   refine wp_region_lit ?_
   refine l_e hf rfl (ev_addx hf rfl rfl (by omega) (by omega)) ?_; intro a hf
   refine l_mv hf rfl rfl ?_; intro a hf
   refine wpList_nil ?_
   refine x_thenN ?_
   exact ⟨(j + 1, l ++ u28.l), ⟨A34, c34, hf.sub ⟨rfl, rfl, rfl, rfl, trivial⟩, (by omega), (by rw [hst, hl]), ho34, hr_ls, hW⟩, (by first | omega | (dsimp only; omega))⟩
  ·have hc27b := hc27
   have hc27 := of_decide_eq_false hc27
   refine wp_exit ?_
   refine x_exS ?_
   refine x_exS ?_
   refine x_exit ?_
   refine hK22 _ _ ?_; try clear hK22 K22
   refine wp_seq_k ?_; intro K35 hK35
   refine wp_region_lit ?_
   refine l_mv hf rfl rfl ?_; intro a hf
   refine l_as hf rfl rfl ?_; intro a hf
   refine wpList_nil ?_
   refine hK35 _ _ ?_; try clear hK35 K35
   refine wp_ret ?_
   refine c_ret hf (res1 hf rfl rfl) ?_
   have hfin : l = ls.flatMap Sg.l := by rw [hl]; exact flat_full _ (by omega)
   rw [← hfin]
   exact ⟨A24, c24, rfl, ho24, hW⟩
theorem F67 (w0 : World) (p : Cx) (Ap : Option Addr) (cp : Nat) (hr_p : Rd w0 w0.heap.size 107 encG Ap p.gs) (q : Cx) (Aq : Option Addr) (cq : Nat) (hr_q : Rd w0 w0.heap.size 107 encG Aq q.gs) (hln : p.gs.length ≤ 2305843009213693951) : Ret Tryz.prog 67 [.agg #[.int .i64 p.n, .slice Ap p.gs.length cp], .agg #[.int .i64 q.n, .slice Aq q.gs.length cq]] w0 (fun v w => v = .bool (eqC p q) ∧ Below w0.heap.size w0 w) := by
 refine enter Tryz.func67 rfl 17 rfl rfl ?_
 intro a hf
 have hW : Below w0.heap.size w0 w0 := Below.refl _ _
 refine wp_seq_k ?_; intro K3 hK3
 refine wp_region_lit ?_
 refine l_f hf rfl (ef_box (zs := [.int .i64 p.n, .slice Ap p.gs.length cp]) hf rfl rfl) ?_; rintro a _ w1 ⟨b4, rfl, hl4, hE, hB4⟩ hf
 have hlo4 := Nat.le_trans hW.size hl4
 replace hr_p := hr_p.below hE
 replace hr_q := hr_q.below hE
 replace hW := btr hW hE
 clear hE
 refine l_f hf rfl (ef_box (zs := [.int .i64 q.n, .slice Aq q.gs.length cq]) hf rfl rfl) ?_; rintro a _ w2 ⟨b5, rfl, hl5, hE, hB5⟩ hf
 have hne4_5 : b4 ≠ b5 := by have := hB4.lt; omega
 have hlo5 := Nat.le_trans hW.size hl5
 replace hB4 := hB4.below hE
 replace hr_p := hr_p.below hE
 replace hr_q := hr_q.below hE
 replace hW := btr hW hE
 clear hE
 refine l_as hf rfl rfl ?_; intro a hf
 refine wpList_nil ?_
 refine hK3 _ _ ?_; try clear hK3 K3
 refine wp_seq_k ?_; intro K6 hK6
 refine c_cut (fun a w => Fr a 17 [(4, .bool ((p.n == q.n) && (decide (p.gs = q.gs))))] ∧ Below w2.heap.size w2 w) ?_ ?_
 ·have hEc : Below w2.heap.size w2 w2 := Below.refl _ _
  refine wp_region_lit ?_
  refine l_e hf rfl (ev_fieldB hf rfl fd_41_0 (m := 0) rfl) ?_; intro a hf
  refine l_e hf rfl (ev_load1 hf rfl t1_3 (hB4.at 0)) ?_; intro a hf
  refine l_e hf rfl (ev_fieldB hf rfl fd_41_0 (m := 0) rfl) ?_; intro a hf
  refine l_e hf rfl (ev_load1 hf rfl t1_3 (hB5.at 0)) ?_; intro a hf
  refine l_e hf rfl (ev_eql hf rfl rfl) ?_; intro a hf
  refine l_mv hf rfl rfl ?_; intro a hf
  refine g_split hf (t := 10) rfl (fun hg7 => ?_) (fun hg7 => ?_)
  ·refine l_ev hf ⟨_, _, rfl, rfl, hg7⟩ rfl rfl (ev_fieldB hf rfl fd_41_1 (m := 1) rfl) ?_; intro a hf
   refine l_ev hf ⟨_, _, rfl, rfl, hg7⟩ rfl rfl (ev_load1 hf rfl t1_28 (hB4.at 1)) ?_; intro a hf
   refine l_ev hf ⟨_, _, rfl, rfl, hg7⟩ rfl rfl (ev_fieldB hf rfl fd_41_1 (m := 1) rfl) ?_; intro a hf
   refine l_ev hf ⟨_, _, rfl, rfl, hg7⟩ rfl rfl (ev_load1 hf rfl t1_28 (hB5.at 1)) ?_; intro a hf
   refine l_eff hf ⟨_, _, rfl, rfl, hg7⟩ rfl rfl (ef_call (vs := [.slice Ap p.gs.length cp, .slice Aq q.gs.length cq]) hf rfl ff_109 (F109 _ Ap cp p.gs hr_p.top Aq cq q.gs hr_q.top hln)) ?_; rintro a _ w3 ⟨rfl, hE⟩ hf
   replace hB4 := hB4.below hE
   replace hB5 := hB5.below hE
   replace hr_p := hr_p.below hE
   replace hr_q := hr_q.below hE
   replace hW := btr hW hE
   replace hEc := btr hEc hE
   clear hE
   refine l_e hf rfl (ev_pickT hf rfl hg7 rfl) ?_; intro a hf
   refine l_as hf rfl rfl ?_; intro a hf
   refine wpList_nil ?_
   have hEE : Below w2.heap.size w2 w3 := hEc
   exact ⟨hf.sub ⟨look_bool rfl (by first | rfl | (simp only [hg7, Bool.true_and, Bool.false_and, Bool.true_or, Bool.false_or]; done) | simp [hg7]), trivial⟩, hEE⟩
  ·refine l_pass hf ⟨_, _, rfl, rfl, hg7⟩ rfl rfl ?_; intro a hf
   refine l_pass hf ⟨_, _, rfl, rfl, hg7⟩ rfl rfl ?_; intro a hf
   refine l_pass hf ⟨_, _, rfl, rfl, hg7⟩ rfl rfl ?_; intro a hf
   refine l_pass hf ⟨_, _, rfl, rfl, hg7⟩ rfl rfl ?_; intro a hf
   refine l_pass hf ⟨_, _, rfl, rfl, hg7⟩ rfl rfl ?_; intro a hf
   refine l_e hf rfl (ev_pickF hf rfl hg7 rfl) ?_; intro a hf
   refine l_as hf rfl rfl ?_; intro a hf
   refine wpList_nil ?_
   have hEE : Below w2.heap.size w2 w2 := hEc
   exact ⟨hf.sub ⟨look_bool rfl (by first | rfl | (simp only [hg7, Bool.true_and, Bool.false_and, Bool.true_or, Bool.false_or]; done) | simp [hg7]), trivial⟩, hEE⟩
 rintro a w4 ⟨hf, hE⟩
 replace hB4 := hB4.below hE
 replace hB5 := hB5.below hE
 replace hr_p := hr_p.below hE
 replace hr_q := hr_q.below hE
 replace hW := btr hW hE
 clear hE
 refine hK6 _ _ ?_; try clear hK6 K6
 refine wp_ret ?_
 refine c_ret hf (res1 hf rfl rfl) ?_
 exact ⟨by simp only [eqC], hW⟩
end Go.Proofs.YtfgnmflfiobkmaaGreat
set_option maxRecDepth 4000
namespace Go.Proofs.YtfgnmflfiobkmaaGreat
open Go.RowKit
theorem F66 (w0 : World) (c : Cx) (Ac : Option Addr) (cc : Nat) (hr_c : Rd w0 w0.heap.size 107 encG Ac c.gs) (hp_c : c.gs.length ≤ cc) (r : Rp) (Ar : Option Addr) (cr : Nat) (hr_r : Rd w0 w0.heap.size 107 encG Ar r.old) (Br : Option Addr) (dr : Nat) (hs_r : Rd w0 w0.heap.size 107 encG Br r.new) (hlc : c.gs.length ≤ 100000000) (hla : r.old.length ≤ 100000000) (hlb : r.new.length ≤ 100000000) : Ret Tryz.prog 66 [.agg #[.int .i64 c.n, .slice Ac c.gs.length cc], .agg #[.int .i64 r.pos, .slice Ar r.old.length cr, .slice Br r.new.length dr]] w0 (fun v w => ∃ A c1, v = .tuple #[.agg #[.int .i64 ((applyI c r).getD cZ).n, .slice A ((applyI c r).getD cZ).gs.length c1], .bool (applyI c r).isSome] ∧ Own w w0.heap.size 107 3 encG A c1 ((applyI c r).getD cZ).gs ∧ Below w0.heap.size w0 w) := by
 refine enter Tryz.func66 rfl 61 rfl rfl ?_
 intro a hf
 have hW : Below w0.heap.size w0 w0 := Below.refl _ _
 refine wp_seq_k ?_; intro K4 hK4
 refine wp_region_lit ?_
 refine l_f hf rfl (ef_box (zs := [.int .i64 c.n, .slice Ac c.gs.length cc]) hf rfl rfl) ?_; rintro a _ w1 ⟨b5, rfl, hl5, hE, hB5⟩ hf
 have hlo5 := Nat.le_trans hW.size hl5
 replace hr_c := hr_c.below hE
 replace hr_r := hr_r.below hE
 replace hs_r := hs_r.below hE
 replace hW := btr hW hE
 clear hE
 refine l_f hf rfl (ef_box (zs := [.int .i64 r.pos, .slice Ar r.old.length cr, .slice Br r.new.length dr]) hf rfl rfl) ?_; rintro a _ w2 ⟨b6, rfl, hl6, hE, hB6⟩ hf
 have hlo6 := Nat.le_trans hW.size hl6
 replace hB5 := hB5.below hE
 replace hr_c := hr_c.below hE
 replace hr_r := hr_r.below hE
 replace hs_r := hs_r.below hE
 replace hW := btr hW hE
 clear hE
 refine l_f hf rfl (ef_alloc (zs := [.int .i64 0, .slice none 0 0]) z_41 rfl) ?_; rintro a _ w3 ⟨b8, rfl, hl8, hE, hB8⟩ hf
 have hne5_8 : b5 ≠ b8 := by have := hB5.lt; omega
 have hlo8 := Nat.le_trans hW.size hl8
 replace hB5 := hB5.below hE
 replace hB6 := hB6.below hE
 replace hr_c := hr_c.below hE
 replace hr_r := hr_r.below hE
 replace hs_r := hs_r.below hE
 replace hW := btr hW hE
 clear hE
 refine l_as hf rfl rfl ?_; intro a hf
 refine wpList_nil ?_
 refine hK4 _ _ ?_; try clear hK4 K4
 refine wp_seq_k ?_; intro K9 hK9
 refine wp_region_lit ?_
 refine l_e hf rfl (ev_fieldB hf rfl fd_30_0 (m := 0) rfl) ?_; intro a hf
 refine l_e hf rfl (ev_load1 hf rfl t1_3 (hB6.at 0)) ?_; intro a hf
 refine l_e hf rfl (ev_fieldB hf rfl fd_30_1 (m := 1) rfl) ?_; intro a hf
 refine l_e hf rfl (ev_load1 hf rfl t1_28 (hB6.at 1)) ?_; intro a hf
 refine l_e hf rfl (ev_len hf rfl sl_28) ?_; intro a hf
 refine l_e hf rfl (ev_add hf rfl rfl) ?_; intro a hf
 refine l_as hf rfl rfl ?_; intro a hf
 refine wpList_nil ?_
 refine hK9 _ _ ?_; try clear hK9 K9
 refine wp_seq_k ?_; intro K10 hK10
 refine wp_seq_k ?_; intro K11 hK11
 refine c_cut (fun a w => Fr a 61 [(2, .pointer (some ⟨b5, 0, none⟩)), (3, .pointer (some ⟨b6, 0, none⟩)), (4, .pointer (some ⟨b8, 0, none⟩)), (6, .int .i64 (wr (r.pos + (r.old.length : Int)))), (41, .bool ((((!(cOk c)) || (!(vrI c.n r))) || (decide ((c.gs.length : Int) < (wr (r.pos + (r.old.length : Int)))))) || (!(decide (((c.gs.take (r.pos.toNat + r.old.length)).drop r.pos.toNat) = r.old)))))] ∧ Below w3.heap.size w3 w) ?_ ?_
 ·have hEc : Below w3.heap.size w3 w3 := Below.refl _ _
  refine wp_draw none (fun _ => false) mixed ?_
  intro w4 hE
  replace hB5 := hB5.below hE
  replace hB6 := hB6.below hE
  replace hB8 := hB8.below hE
  replace hr_c := hr_c.below hE
  replace hr_r := hr_r.below hE
  replace hs_r := hs_r.below hE
  replace hW := btr hW hE
  replace hEc := btr hEc hE
  clear hE
  refine s_e 0 rfl (by kernel_rfl) (by kernel_rfl) hf rfl (ev_loadN (l := [.int .i64 c.n, .slice Ac c.gs.length cc]) hf rfl tN_41 (hB5.at 0) rfl) ?_; intro a hf
  refine s_one 1 (by kernel_rfl) ?_
  refine p_eff rfl hf trivial rfl rfl (Ef.mono (ef_call (vs := [.agg #[.int .i64 c.n, .slice Ac c.gs.length cc]]) hf rfl ff_55 (F55 _ c Ac cc hr_c.top (by omega))) (fun _ _ h => ⟨fun _ => by obtain ⟨rfl, hE⟩ := h; exact hE, h⟩)) ?_; rintro a _ w5 ⟨rfl, hE⟩ hf
  replace hB5 := hB5.below hE
  replace hB6 := hB6.below hE
  replace hB8 := hB8.below hE
  replace hr_c := hr_c.below hE
  replace hr_r := hr_r.below hE
  replace hs_r := hs_r.below hE
  replace hW := btr hW hE
  replace hEc := btr hEc hE
  clear hE
  refine s_e0 2 rfl (by kernel_rfl) hf rfl (fun _ => ev_not hf rfl) ?_; intro a hf
  refine s_e0 3 rfl (by kernel_rfl) hf rfl (fun _ => ev_move hf rfl) ?_; intro a hf
  refine g_split hf (t := 16) rfl (fun hg12 => ?_) (fun hg12 => ?_)
  ·refine s_pass 4 rfl (by kernel_rfl) hf ⟨_, _, rfl, rfl, hg12⟩ rfl rfl ?_; intro a hf
   refine s_pass 5 rfl (by kernel_rfl) hf ⟨_, _, rfl, rfl, hg12⟩ rfl rfl ?_; intro a hf
   refine s_pass 6 rfl (by kernel_rfl) hf ⟨_, _, rfl, rfl, hg12⟩ rfl rfl ?_; intro a hf
   refine s_one 7 (by kernel_rfl) ?_
   refine p_pass rfl hf ⟨_, _, rfl, rfl, hg12⟩ rfl rfl ?_; intro a hf
   refine s_pass 8 rfl (by kernel_rfl) hf ⟨_, _, rfl, rfl, hg12⟩ rfl rfl ?_; intro a hf
   refine s_e0 9 rfl (by kernel_rfl) hf rfl (fun _ => ev_pickT hf rfl hg12 rfl) ?_; intro a hf
   refine s_e0 10 rfl (by kernel_rfl) hf rfl (fun _ => ev_move hf rfl) ?_; intro a hf
   refine s_pass 11 rfl (by kernel_rfl) hf ⟨_, _, rfl, rfl, rfl⟩ rfl rfl ?_; intro a hf
   refine s_pass 12 rfl (by kernel_rfl) hf ⟨_, _, rfl, rfl, rfl⟩ rfl rfl ?_; intro a hf
   refine s_pass 13 rfl (by kernel_rfl) hf ⟨_, _, rfl, rfl, rfl⟩ rfl rfl ?_; intro a hf
   refine s_pass 14 rfl (by kernel_rfl) hf ⟨_, _, rfl, rfl, rfl⟩ rfl rfl ?_; intro a hf
   refine s_pass 15 rfl (by kernel_rfl) hf ⟨_, _, rfl, rfl, rfl⟩ rfl rfl ?_; intro a hf
   refine s_e0 16 rfl (by kernel_rfl) hf rfl (fun _ => ev_pickT hf rfl rfl rfl) ?_; intro a hf
   refine s_e0 17 rfl (by kernel_rfl) hf rfl (fun _ => ev_move hf rfl) ?_; intro a hf
   refine s_pass 18 rfl (by kernel_rfl) hf ⟨_, _, rfl, rfl, rfl⟩ rfl rfl ?_; intro a hf
   refine s_pass 19 rfl (by kernel_rfl) hf ⟨_, _, rfl, rfl, rfl⟩ rfl rfl ?_; intro a hf
   refine s_pass 20 rfl (by kernel_rfl) hf ⟨_, _, rfl, rfl, rfl⟩ rfl rfl ?_; intro a hf
   refine s_pass 21 rfl (by kernel_rfl) hf ⟨_, _, rfl, rfl, rfl⟩ rfl rfl ?_; intro a hf
   refine s_pass 22 rfl (by kernel_rfl) hf ⟨_, _, rfl, rfl, rfl⟩ rfl rfl ?_; intro a hf
   refine s_pass 23 rfl (by kernel_rfl) hf ⟨_, _, rfl, rfl, rfl⟩ rfl rfl ?_; intro a hf
   refine s_pass 24 rfl (by kernel_rfl) hf ⟨_, _, rfl, rfl, rfl⟩ rfl rfl ?_; intro a hf
   refine s_pass 25 rfl (by kernel_rfl) hf ⟨_, _, rfl, rfl, rfl⟩ rfl rfl ?_; intro a hf
   refine s_one 26 (by kernel_rfl) ?_
   refine p_pass rfl hf ⟨_, _, rfl, rfl, rfl⟩ rfl rfl ?_; intro a hf
   refine s_pass 27 rfl (by kernel_rfl) hf ⟨_, _, rfl, rfl, rfl⟩ rfl rfl ?_; intro a hf
   refine s_e0 28 rfl (by kernel_rfl) hf rfl (fun _ => ev_pickT hf rfl rfl rfl) ?_; intro a hf
   refine s_done (by kernel_rfl) ?_
   have hEE : Below w3.heap.size w3 w5 := hEc
   exact ⟨hf.sub ⟨rfl, rfl, rfl, rfl, look_bool rfl (by first | rfl | (simp only [hg12, Bool.true_and, Bool.false_and, Bool.true_or, Bool.false_or]; done) | simp [hg12]), trivial⟩, hEE⟩
  ·refine s_ev0 4 rfl (by kernel_rfl) hf ⟨_, _, rfl, rfl, hg12⟩ rfl rfl (fun _ => ev_fieldB hf rfl fd_41_0 (m := 0) rfl) ?_; intro a hf
   refine s_ev 5 rfl (by kernel_rfl) (by kernel_rfl) hf ⟨_, _, rfl, rfl, hg12⟩ rfl rfl (ev_load1 hf rfl t1_3 (hB5.at 0)) ?_; intro a hf
   refine s_ev 6 rfl (by kernel_rfl) (by kernel_rfl) hf ⟨_, _, rfl, rfl, hg12⟩ rfl rfl (ev_loadN (l := [.int .i64 r.pos, .slice Ar r.old.length cr, .slice Br r.new.length dr]) hf rfl tN_30 (hB6.at 0) rfl) ?_; intro a hf
   refine s_one 7 (by kernel_rfl) ?_
   refine p_eff rfl hf ⟨_, _, rfl, rfl, hg12⟩ rfl rfl (Ef.mono (ef_call (vs := [.int .i64 c.n, .agg #[.int .i64 r.pos, .slice Ar r.old.length cr, .slice Br r.new.length dr]]) hf rfl ff_46 (F46 _ c.n r Ar cr hr_r.top Br dr hs_r.top (by omega) (by omega))) (fun _ _ h => ⟨fun _ => by obtain ⟨rfl, hE⟩ := h; exact hE, h⟩)) ?_; rintro a _ w6 ⟨rfl, hE⟩ hf
   replace hB5 := hB5.below hE
   replace hB6 := hB6.below hE
   replace hB8 := hB8.below hE
   replace hr_c := hr_c.below hE
   replace hr_r := hr_r.below hE
   replace hs_r := hs_r.below hE
   replace hW := btr hW hE
   replace hEc := btr hEc hE
   clear hE
   refine s_ev0 8 rfl (by kernel_rfl) hf ⟨_, _, rfl, rfl, hg12⟩ rfl rfl (fun _ => ev_not hf rfl) ?_; intro a hf
   refine s_e0 9 rfl (by kernel_rfl) hf rfl (fun _ => ev_pickF hf rfl hg12 rfl) ?_; intro a hf
   refine s_e0 10 rfl (by kernel_rfl) hf rfl (fun _ => ev_move hf rfl) ?_; intro a hf
   refine g_split hf (t := 23) rfl (fun hg13 => ?_) (fun hg13 => ?_)
   ·refine s_pass 11 rfl (by kernel_rfl) hf ⟨_, _, rfl, rfl, hg13⟩ rfl rfl ?_; intro a hf
    refine s_pass 12 rfl (by kernel_rfl) hf ⟨_, _, rfl, rfl, hg13⟩ rfl rfl ?_; intro a hf
    refine s_pass 13 rfl (by kernel_rfl) hf ⟨_, _, rfl, rfl, hg13⟩ rfl rfl ?_; intro a hf
    refine s_pass 14 rfl (by kernel_rfl) hf ⟨_, _, rfl, rfl, hg13⟩ rfl rfl ?_; intro a hf
    refine s_pass 15 rfl (by kernel_rfl) hf ⟨_, _, rfl, rfl, hg13⟩ rfl rfl ?_; intro a hf
    refine s_e0 16 rfl (by kernel_rfl) hf rfl (fun _ => ev_pickT hf rfl hg13 rfl) ?_; intro a hf
    refine s_e0 17 rfl (by kernel_rfl) hf rfl (fun _ => ev_move hf rfl) ?_; intro a hf
    refine s_pass 18 rfl (by kernel_rfl) hf ⟨_, _, rfl, rfl, rfl⟩ rfl rfl ?_; intro a hf
    refine s_pass 19 rfl (by kernel_rfl) hf ⟨_, _, rfl, rfl, rfl⟩ rfl rfl ?_; intro a hf
    refine s_pass 20 rfl (by kernel_rfl) hf ⟨_, _, rfl, rfl, rfl⟩ rfl rfl ?_; intro a hf
    refine s_pass 21 rfl (by kernel_rfl) hf ⟨_, _, rfl, rfl, rfl⟩ rfl rfl ?_; intro a hf
    refine s_pass 22 rfl (by kernel_rfl) hf ⟨_, _, rfl, rfl, rfl⟩ rfl rfl ?_; intro a hf
    refine s_pass 23 rfl (by kernel_rfl) hf ⟨_, _, rfl, rfl, rfl⟩ rfl rfl ?_; intro a hf
    refine s_pass 24 rfl (by kernel_rfl) hf ⟨_, _, rfl, rfl, rfl⟩ rfl rfl ?_; intro a hf
    refine s_pass 25 rfl (by kernel_rfl) hf ⟨_, _, rfl, rfl, rfl⟩ rfl rfl ?_; intro a hf
    refine s_one 26 (by kernel_rfl) ?_
    refine p_pass rfl hf ⟨_, _, rfl, rfl, rfl⟩ rfl rfl ?_; intro a hf
    refine s_pass 27 rfl (by kernel_rfl) hf ⟨_, _, rfl, rfl, rfl⟩ rfl rfl ?_; intro a hf
    refine s_e0 28 rfl (by kernel_rfl) hf rfl (fun _ => ev_pickT hf rfl rfl rfl) ?_; intro a hf
    refine s_done (by kernel_rfl) ?_
    have hEE : Below w3.heap.size w3 w6 := hEc
    exact ⟨hf.sub ⟨rfl, rfl, rfl, rfl, look_bool rfl (by first | rfl | (simp only [hg12, hg13, Bool.true_and, Bool.false_and, Bool.true_or, Bool.false_or]; done) | simp [hg12, hg13]), trivial⟩, hEE⟩
   ·refine s_ev0 11 rfl (by kernel_rfl) hf ⟨_, _, rfl, rfl, hg13⟩ rfl rfl (fun _ => ev_move hf rfl) ?_; intro a hf
    refine s_ev0 12 rfl (by kernel_rfl) hf ⟨_, _, rfl, rfl, hg13⟩ rfl rfl (fun _ => ev_fieldB hf rfl fd_41_1 (m := 1) rfl) ?_; intro a hf
    refine s_ev 13 rfl (by kernel_rfl) (by kernel_rfl) hf ⟨_, _, rfl, rfl, hg13⟩ rfl rfl (ev_load1 hf rfl t1_28 (hB5.at 1)) ?_; intro a hf
    refine s_ev0 14 rfl (by kernel_rfl) hf ⟨_, _, rfl, rfl, hg13⟩ rfl rfl (fun _ => ev_len hf rfl sl_28) ?_; intro a hf
    refine s_ev0 15 rfl (by kernel_rfl) hf ⟨_, _, rfl, rfl, hg13⟩ rfl rfl (fun _ => ev_gtr hf rfl rfl) ?_; intro a hf
    refine s_e0 16 rfl (by kernel_rfl) hf rfl (fun _ => ev_pickF hf rfl hg13 rfl) ?_; intro a hf
    refine s_e0 17 rfl (by kernel_rfl) hf rfl (fun _ => ev_move hf rfl) ?_; intro a hf
    refine g_split hf (t := 30) rfl (fun hg14 => ?_) (fun hg14 => ?_)
    ·refine s_pass 18 rfl (by kernel_rfl) hf ⟨_, _, rfl, rfl, hg14⟩ rfl rfl ?_; intro a hf
     refine s_pass 19 rfl (by kernel_rfl) hf ⟨_, _, rfl, rfl, hg14⟩ rfl rfl ?_; intro a hf
     refine s_pass 20 rfl (by kernel_rfl) hf ⟨_, _, rfl, rfl, hg14⟩ rfl rfl ?_; intro a hf
     refine s_pass 21 rfl (by kernel_rfl) hf ⟨_, _, rfl, rfl, hg14⟩ rfl rfl ?_; intro a hf
     refine s_pass 22 rfl (by kernel_rfl) hf ⟨_, _, rfl, rfl, hg14⟩ rfl rfl ?_; intro a hf
     refine s_pass 23 rfl (by kernel_rfl) hf ⟨_, _, rfl, rfl, hg14⟩ rfl rfl ?_; intro a hf
     refine s_pass 24 rfl (by kernel_rfl) hf ⟨_, _, rfl, rfl, hg14⟩ rfl rfl ?_; intro a hf
     refine s_pass 25 rfl (by kernel_rfl) hf ⟨_, _, rfl, rfl, hg14⟩ rfl rfl ?_; intro a hf
     refine s_one 26 (by kernel_rfl) ?_
     refine p_pass rfl hf ⟨_, _, rfl, rfl, hg14⟩ rfl rfl ?_; intro a hf
     refine s_pass 27 rfl (by kernel_rfl) hf ⟨_, _, rfl, rfl, hg14⟩ rfl rfl ?_; intro a hf
     refine s_e0 28 rfl (by kernel_rfl) hf rfl (fun _ => ev_pickT hf rfl hg14 rfl) ?_; intro a hf
     refine s_done (by kernel_rfl) ?_
     have hEE : Below w3.heap.size w3 w6 := hEc
     exact ⟨hf.sub ⟨rfl, rfl, rfl, rfl, look_bool rfl (by first | rfl | (simp only [hg12, hg13, hg14, Bool.true_and, Bool.false_and, Bool.true_or, Bool.false_or]; done) | simp [hg12, hg13, hg14]), trivial⟩, hEE⟩
    ·refine s_ev0 18 rfl (by kernel_rfl) hf ⟨_, _, rfl, rfl, hg14⟩ rfl rfl (fun _ => ev_fieldB hf rfl fd_41_1 (m := 1) rfl) ?_; intro a hf
     refine s_ev 19 rfl (by kernel_rfl) (by kernel_rfl) hf ⟨_, _, rfl, rfl, hg14⟩ rfl rfl (ev_load1 hf rfl t1_28 (hB5.at 1)) ?_; intro a hf
     refine s_ev0 20 rfl (by kernel_rfl) hf ⟨_, _, rfl, rfl, hg14⟩ rfl rfl (fun _ => ev_fieldB hf rfl fd_30_0 (m := 0) rfl) ?_; intro a hf
     refine s_ev 21 rfl (by kernel_rfl) (by kernel_rfl) hf ⟨_, _, rfl, rfl, hg14⟩ rfl rfl (ev_load1 hf rfl t1_3 (hB6.at 0)) ?_; intro a hf
     refine s_ev0 22 rfl (by kernel_rfl) hf ⟨_, _, rfl, rfl, hg14⟩ rfl rfl (fun _ => ev_move hf rfl) ?_; intro a hf
     have hr15 := ((hr_c.top).takeK encG_len (r.pos.toNat + r.old.length)).dropK encG_len (c := cc) (take_le hp_c (r.pos.toNat + r.old.length)) r.pos.toNat
     refine s_ev0 23 rfl (by kernel_rfl) hf ⟨_, _, rfl, rfl, hg14⟩ rfl rfl (fun _ => ev_cutL (l := c.gs) (k := r.pos.toNat) (m := (r.pos.toNat + r.old.length)) hf rfl rfl rfl sl_28 sz_107 (end_ok (by assumption)).1 (end_ok (by assumption)).2.1 (Nat.le_add_right _ _) (by have h8 := (end_ok (by assumption)); have h9 := fit_le (m := c.gs.length) (by assumption); simp only [wr] at h8 h9; omega) hp_c) ?_; intro a hf
     refine s_ev0 24 rfl (by kernel_rfl) hf ⟨_, _, rfl, rfl, hg14⟩ rfl rfl (fun _ => ev_fieldB hf rfl fd_30_1 (m := 1) rfl) ?_; intro a hf
     refine s_ev 25 rfl (by kernel_rfl) (by kernel_rfl) hf ⟨_, _, rfl, rfl, hg14⟩ rfl rfl (ev_load1 hf rfl t1_28 (hB6.at 1)) ?_; intro a hf
     refine s_one 26 (by kernel_rfl) ?_
     refine p_eff rfl hf ⟨_, _, rfl, rfl, hg14⟩ rfl rfl (Ef.mono (ef_call (vs := [.slice (if cc = r.pos.toNat then Ac else Ac.map (·.add (r.pos.toNat * 3))) ((c.gs.take (r.pos.toNat + r.old.length)).drop r.pos.toNat).length (cc - r.pos.toNat), .slice Ar r.old.length cr]) hf rfl ff_109 (F109 _ (if cc = r.pos.toNat then Ac else Ac.map (·.add (r.pos.toNat * 3))) (cc - r.pos.toNat) ((c.gs.take (r.pos.toNat + r.old.length)).drop r.pos.toNat) hr15.top Ar cr r.old hr_r.top (by simp; omega))) (fun _ _ h => ⟨fun _ => by obtain ⟨rfl, hE⟩ := h; exact hE, h⟩)) ?_; rintro a _ w7 ⟨rfl, hE⟩ hf
     replace hB5 := hB5.below hE
     replace hB6 := hB6.below hE
     replace hB8 := hB8.below hE
     replace hr_c := hr_c.below hE
     replace hr_r := hr_r.below hE
     replace hs_r := hs_r.below hE
     replace hr15 := hr15.below hE
     replace hW := btr hW hE
     replace hEc := btr hEc hE
     clear hE
     refine s_ev0 27 rfl (by kernel_rfl) hf ⟨_, _, rfl, rfl, hg14⟩ rfl rfl (fun _ => ev_not hf rfl) ?_; intro a hf
     refine s_e0 28 rfl (by kernel_rfl) hf rfl (fun _ => ev_pickF hf rfl hg14 rfl) ?_; intro a hf
     refine s_done (by kernel_rfl) ?_
     have hEE : Below w3.heap.size w3 w7 := hEc
     exact ⟨hf.sub ⟨rfl, rfl, rfl, rfl, look_bool rfl (by first | rfl | (simp only [hg12, hg13, hg14, Bool.true_and, Bool.false_and, Bool.true_or, Bool.false_or]; done) | simp [hg12, hg13, hg14]), trivial⟩, hEE⟩
 rintro a w8 ⟨hf, hE⟩
 replace hB5 := hB5.below hE
 replace hB6 := hB6.below hE
 replace hB8 := hB8.below hE
 replace hr_c := hr_c.below hE
 replace hr_r := hr_r.below hE
 replace hs_r := hs_r.below hE
 replace hW := btr hW hE
 clear hE
 refine hK11 _ _ ?_; try clear hK11 K11
 refine c_if hf rfl (fun hc16 => ?_) (fun hc16 => ?_)
 ·have hc16b := hc16
  have hfin : applyI c r = none := by unfold applyI; rw [if_neg]; intro h0; simp only [fitI, Bool.and_eq_true, decide_eq_true_eq] at h0; obtain ⟨⟨⟨h1, h2⟩, h3⟩, h4⟩ := h0; have h8 := end_ok (n := c.n) (r := r) (by rw [h2]; rfl); revert hc16; rw [h1, h2, h8.2.2.1, h4]; simp; omega
  refine wp_seq_k ?_; intro K17 hK17
  refine wp_region_lit ?_
  refine l_e hf rfl (ev_build (ps := []) (cs := [.int .i64 0, .slice none 0 0]) hf rfl (fun _ => by first | rfl | kernel_rfl)) ?_; intro a hf
  refine l_f0 hf (ef_store (vs := [.int .i64 0, .slice none 0 0]) (l' := [.int .i64 0, .slice none 0 0]) hf rfl rfl sz_41 hB8 rfl rfl rfl rfl rfl) ?_; rintro a _ w9 ⟨ho, hb⟩ hf
  have hold := hB8
  replace hB5 := hB5.only ho (by omega)
  replace hB6 := hB6.only ho (Blk.ne hB6 hold rfl)
  replace hr_c := hr_c.onlyT ho hold rfl
  replace hr_r := hr_r.onlyT ho hold rfl
  replace hs_r := hs_r.onlyT ho hold rfl
  replace hW := Below.only hW ho hlo8
  clear hold
  have hB8 := hb
  clear hb ho
  refine l_as hf rfl rfl ?_; intro a hf
  refine wpList_nil ?_
  refine hK17 _ _ ?_; try clear hK17 K17
  refine wp_ret ?_
  refine x_retS ?_
  refine c_ret hf (res2 hf rfl (ResV.cellN (l := [.int .i64 0, .slice none 0 0]) rfl tN_41 (hB8.at 0) rfl) rfl) ?_
  rw [hfin]
  exact ⟨none, 0, rfl, (Own.nil _ _ _ _ _), hW⟩
 ·have hc16b := hc16
  obtain ⟨h1, h2, h3, h4⟩ := or4_false hc16
  have he := end_ok (n := c.n) (r := r) (by rw [h2]; rfl)
  have hle : r.pos + (r.old.length : Int) ≤ (c.gs.length : Int) := by have := fit_le h3; omega
  have hfin : applyI c r = cIf (midC c r) := by unfold applyI; rw [if_pos]; simp only [fitI, h1, h2, Bool.true_and, Bool.and_eq_true, decide_eq_true_eq]; exact ⟨hle, by simpa using h4⟩
  refine wp_skip ?_
  refine hK10 _ _ ?_; try clear hK10 K10
  refine wp_seq_k ?_; intro K19 hK19
  refine wp_draw none (fun j => [18].contains j) mixed ?_
  intro w10 hE
  replace hB5 := hB5.below hE
  replace hB6 := hB6.below hE
  replace hB8 := hB8.below hE
  replace hr_c := hr_c.below hE
  replace hr_r := hr_r.below hE
  replace hs_r := hs_r.below hE
  replace hW := btr hW hE
  clear hE
  refine s_e0 0 rfl (by kernel_rfl) hf rfl (fun _ => ev_fieldB hf rfl fd_41_0 (m := 0) rfl) ?_; intro a hf
  refine s_e 1 rfl (by kernel_rfl) (by kernel_rfl) hf rfl (ev_load1 hf rfl t1_3 (hB5.at 0)) ?_; intro a hf
  refine s_e0 2 rfl (by kernel_rfl) hf rfl (fun _ => ev_fieldB hf rfl fd_41_1 (m := 1) rfl) ?_; intro a hf
  refine s_e 3 rfl (by kernel_rfl) (by kernel_rfl) hf rfl (ev_load1 hf rfl t1_28 (hB5.at 1)) ?_; intro a hf
  refine s_e0 4 rfl (by kernel_rfl) hf rfl (fun _ => ev_fieldB hf rfl fd_30_0 (m := 0) rfl) ?_; intro a hf
  refine s_e 5 rfl (by kernel_rfl) (by kernel_rfl) hf rfl (ev_load1 hf rfl t1_3 (hB6.at 0)) ?_; intro a hf
  have hr20 := (hr_c.top).takeK encG_len r.pos.toNat
  refine s_e0 6 rfl (by kernel_rfl) hf rfl (fun _ => ev_takeL (l := c.gs) (k := r.pos.toNat) hf rfl rfl sl_28 sz_107 he.1 (by omega) hp_c) ?_; intro a hf
  refine s_e0 7 rfl (by kernel_rfl) hf rfl (fun _ => ev_fieldB hf rfl fd_30_2 (m := 2) rfl) ?_; intro a hf
  refine s_e 8 rfl (by kernel_rfl) (by kernel_rfl) hf rfl (ev_load1 hf rfl t1_28 (hB6.at 2)) ?_; intro a hf
  refine s_e0 9 rfl (by kernel_rfl) hf rfl (fun _ => ev_fieldB hf rfl fd_41_1 (m := 1) rfl) ?_; intro a hf
  refine s_e 10 rfl (by kernel_rfl) (by kernel_rfl) hf rfl (ev_load1 hf rfl t1_28 (hB5.at 1)) ?_; intro a hf
  refine s_e0 11 rfl (by kernel_rfl) hf rfl (fun _ => ev_move hf rfl) ?_; intro a hf
  have hr21 := (hr_c.top).dropK encG_len (c := cc) hp_c (r.pos.toNat + r.old.length)
  refine s_e0 12 rfl (by kernel_rfl) hf rfl (fun _ => ev_dropL (l := c.gs) (k := (r.pos.toNat + r.old.length)) hf rfl rfl sl_28 sz_107 he.2.1 (by omega)) ?_; intro a hf
  refine s_one 13 (by kernel_rfl) ?_
  refine p_eff rfl hf trivial rfl rfl (Ef.mono (ef_buildSlice (k := 3) (vs := [.slice Ac (c.gs.take r.pos.toNat).length cc, .slice Br r.new.length dr, .slice (if cc = (r.pos.toNat + r.old.length) then Ac else Ac.map (·.add ((r.pos.toNat + r.old.length) * 3))) (c.gs.drop (r.pos.toNat + r.old.length)).length (cc - (r.pos.toNat + r.old.length))]) (zs := [.slice Ac (c.gs.take r.pos.toNat).length cc, .slice Br r.new.length dr, .slice (if cc = (r.pos.toNat + r.old.length) then Ac else Ac.map (·.add ((r.pos.toNat + r.old.length) * 3))) (c.gs.drop (r.pos.toNat + r.old.length)).length (cc - (r.pos.toNat + r.old.length))]) hf rfl sl_202 inf_28 rfl rfl) (fun _ _ h => ⟨fun _ => by obtain ⟨_, _, _, hE, _⟩ := h; exact hE, h⟩)) ?_; rintro a _ w11 ⟨b22, rfl, hl22, hE, hB22⟩ hf
  have hlo22 := Nat.le_trans hW.size hl22
  replace hB5 := hB5.below hE
  replace hB6 := hB6.below hE
  replace hB8 := hB8.below hE
  replace hr_c := hr_c.below hE
  replace hr_r := hr_r.below hE
  replace hs_r := hs_r.below hE
  replace hr20 := hr20.below hE
  replace hr21 := hr21.below hE
  replace hW := btr hW hE
  clear hE
  refine s_one 14 (by kernel_rfl) ?_
  refine p_eff rfl hf trivial rfl rfl (Ef.mono (ef_call (vs := [.slice (some ⟨b22, 0, none⟩) ([(⟨Ac, cc, (c.gs.take r.pos.toNat)⟩ : Sg), (⟨Br, dr, r.new⟩ : Sg), (⟨(if cc = (r.pos.toNat + r.old.length) then Ac else Ac.map (·.add ((r.pos.toNat + r.old.length) * 3))), (cc - (r.pos.toNat + r.old.length)), (c.gs.drop (r.pos.toNat + r.old.length))⟩ : Sg)]).length 3]) hf rfl ff_111 (F111 _ [(⟨Ac, cc, (c.gs.take r.pos.toNat)⟩ : Sg), (⟨Br, dr, r.new⟩ : Sg), (⟨(if cc = (r.pos.toNat + r.old.length) then Ac else Ac.map (·.add ((r.pos.toNat + r.old.length) * 3))), (cc - (r.pos.toNat + r.old.length)), (c.gs.drop (r.pos.toNat + r.old.length))⟩ : Sg)] (some ⟨b22, 0, none⟩) 3 (Rd.of_blk hB22 rfl _ hB22.lt) (fun s hs => by simp only [List.mem_cons, List.not_mem_nil, or_false] at hs; rcases hs with rfl | rfl | rfl; exact hr20.top; exact hs_r.top; exact hr21.top) (by simp) (by simp; omega))) (fun _ _ h => ⟨fun _ => by obtain ⟨A24, c24, rfl, ho24, hE⟩ := h; exact hE, h⟩)) ?_; rintro a _ w12 ⟨A24, c24, rfl, ho24, hE⟩ hf
  replace ho24 := ho24.lower hW.size
  replace hB5 := hB5.below hE
  replace hB6 := hB6.below hE
  replace hB8 := hB8.below hE
  replace hB22 := hB22.below hE
  replace hr_c := hr_c.below hE
  replace hr_r := hr_r.below hE
  replace hs_r := hs_r.below hE
  replace hr20 := hr20.below hE
  replace hr21 := hr21.below hE
  replace hW := btr hW hE
  clear hE
  refine s_one 15 (by kernel_rfl) ?_
  refine p_eff rfl hf trivial rfl rfl (Ef.mono (ef_call (vs := [.int .i64 c.n, .slice A24 (List.flatMap Sg.l [(⟨Ac, cc, (c.gs.take r.pos.toNat)⟩ : Sg), (⟨Br, dr, r.new⟩ : Sg), (⟨(if cc = (r.pos.toNat + r.old.length) then Ac else Ac.map (·.add ((r.pos.toNat + r.old.length) * 3))), (cc - (r.pos.toNat + r.old.length)), (c.gs.drop (r.pos.toNat + r.old.length))⟩ : Sg)]).length c24]) hf rfl ff_110 (F110 _ c.n A24 c24 (List.flatMap Sg.l [(⟨Ac, cc, (c.gs.take r.pos.toNat)⟩ : Sg), (⟨Br, dr, r.new⟩ : Sg), (⟨(if cc = (r.pos.toNat + r.old.length) then Ac else Ac.map (·.add ((r.pos.toNat + r.old.length) * 3))), (cc - (r.pos.toNat + r.old.length)), (c.gs.drop (r.pos.toNat + r.old.length))⟩ : Sg)]) ho24.rd.top (by simp; omega))) (fun _ _ h => ⟨fun _ => by obtain ⟨A25, c25, rfl, ho25, hE⟩ := h; exact hE, h⟩)) ?_; rintro a _ w13 ⟨A25, c25, rfl, ho25, hE⟩ hf
  replace ho25 := ho25.lower hW.size
  replace hB5 := hB5.below hE
  replace hB6 := hB6.below hE
  replace hB8 := hB8.below hE
  replace hB22 := hB22.below hE
  replace hr_c := hr_c.below hE
  replace hr_r := hr_r.below hE
  replace hs_r := hs_r.below hE
  replace hr20 := hr20.below hE
  replace hr21 := hr21.below hE
  replace ho24 := ho24.below hE
  replace hW := btr hW hE
  clear hE
  refine s_e0 16 rfl (by kernel_rfl) hf rfl (fun _ => ev_extract (vs := [.agg #[.int .i64 (((cIf ⟨c.n, (List.flatMap Sg.l [(⟨Ac, cc, (c.gs.take r.pos.toNat)⟩ : Sg), (⟨Br, dr, r.new⟩ : Sg), (⟨(if cc = (r.pos.toNat + r.old.length) then Ac else Ac.map (·.add ((r.pos.toNat + r.old.length) * 3))), (cc - (r.pos.toNat + r.old.length)), (c.gs.drop (r.pos.toNat + r.old.length))⟩ : Sg)])⟩).getD cZ).n), .slice A25 (((cIf ⟨c.n, (List.flatMap Sg.l [(⟨Ac, cc, (c.gs.take r.pos.toNat)⟩ : Sg), (⟨Br, dr, r.new⟩ : Sg), (⟨(if cc = (r.pos.toNat + r.old.length) then Ac else Ac.map (·.add ((r.pos.toNat + r.old.length) * 3))), (cc - (r.pos.toNat + r.old.length)), (c.gs.drop (r.pos.toNat + r.old.length))⟩ : Sg)])⟩).getD cZ).gs).length c25], .bool ((cIf ⟨c.n, (List.flatMap Sg.l [(⟨Ac, cc, (c.gs.take r.pos.toNat)⟩ : Sg), (⟨Br, dr, r.new⟩ : Sg), (⟨(if cc = (r.pos.toNat + r.old.length) then Ac else Ac.map (·.add ((r.pos.toNat + r.old.length) * 3))), (cc - (r.pos.toNat + r.old.length)), (c.gs.drop (r.pos.toNat + r.old.length))⟩ : Sg)])⟩).isSome)]) hf rfl rfl) ?_; intro a hf
  refine s_e0 17 rfl (by kernel_rfl) hf rfl (fun _ => ev_extract (vs := [.agg #[.int .i64 (((cIf ⟨c.n, (List.flatMap Sg.l [(⟨Ac, cc, (c.gs.take r.pos.toNat)⟩ : Sg), (⟨Br, dr, r.new⟩ : Sg), (⟨(if cc = (r.pos.toNat + r.old.length) then Ac else Ac.map (·.add ((r.pos.toNat + r.old.length) * 3))), (cc - (r.pos.toNat + r.old.length)), (c.gs.drop (r.pos.toNat + r.old.length))⟩ : Sg)])⟩).getD cZ).n), .slice A25 (((cIf ⟨c.n, (List.flatMap Sg.l [(⟨Ac, cc, (c.gs.take r.pos.toNat)⟩ : Sg), (⟨Br, dr, r.new⟩ : Sg), (⟨(if cc = (r.pos.toNat + r.old.length) then Ac else Ac.map (·.add ((r.pos.toNat + r.old.length) * 3))), (cc - (r.pos.toNat + r.old.length)), (c.gs.drop (r.pos.toNat + r.old.length))⟩ : Sg)])⟩).getD cZ).gs).length c25], .bool ((cIf ⟨c.n, (List.flatMap Sg.l [(⟨Ac, cc, (c.gs.take r.pos.toNat)⟩ : Sg), (⟨Br, dr, r.new⟩ : Sg), (⟨(if cc = (r.pos.toNat + r.old.length) then Ac else Ac.map (·.add ((r.pos.toNat + r.old.length) * 3))), (cc - (r.pos.toNat + r.old.length)), (c.gs.drop (r.pos.toNat + r.old.length))⟩ : Sg)])⟩).isSome)]) hf rfl rfl) ?_; intro a hf
  refine s_one 18 (by kernel_rfl) ?_
  refine p_eff0 rfl hf trivial rfl (Ef.mono (ef_store (vs := [.int .i64 (((cIf ⟨c.n, (List.flatMap Sg.l [(⟨Ac, cc, (c.gs.take r.pos.toNat)⟩ : Sg), (⟨Br, dr, r.new⟩ : Sg), (⟨(if cc = (r.pos.toNat + r.old.length) then Ac else Ac.map (·.add ((r.pos.toNat + r.old.length) * 3))), (cc - (r.pos.toNat + r.old.length)), (c.gs.drop (r.pos.toNat + r.old.length))⟩ : Sg)])⟩).getD cZ).n), .slice A25 (((cIf ⟨c.n, (List.flatMap Sg.l [(⟨Ac, cc, (c.gs.take r.pos.toNat)⟩ : Sg), (⟨Br, dr, r.new⟩ : Sg), (⟨(if cc = (r.pos.toNat + r.old.length) then Ac else Ac.map (·.add ((r.pos.toNat + r.old.length) * 3))), (cc - (r.pos.toNat + r.old.length)), (c.gs.drop (r.pos.toNat + r.old.length))⟩ : Sg)])⟩).getD cZ).gs).length c25]) (l' := [.int .i64 (((cIf ⟨c.n, (List.flatMap Sg.l [(⟨Ac, cc, (c.gs.take r.pos.toNat)⟩ : Sg), (⟨Br, dr, r.new⟩ : Sg), (⟨(if cc = (r.pos.toNat + r.old.length) then Ac else Ac.map (·.add ((r.pos.toNat + r.old.length) * 3))), (cc - (r.pos.toNat + r.old.length)), (c.gs.drop (r.pos.toNat + r.old.length))⟩ : Sg)])⟩).getD cZ).n), .slice A25 (((cIf ⟨c.n, (List.flatMap Sg.l [(⟨Ac, cc, (c.gs.take r.pos.toNat)⟩ : Sg), (⟨Br, dr, r.new⟩ : Sg), (⟨(if cc = (r.pos.toNat + r.old.length) then Ac else Ac.map (·.add ((r.pos.toNat + r.old.length) * 3))), (cc - (r.pos.toNat + r.old.length)), (c.gs.drop (r.pos.toNat + r.old.length))⟩ : Sg)])⟩).getD cZ).gs).length c25]) hf rfl rfl sz_41 hB8 rfl rfl rfl rfl rfl) (fun _ _ h => ⟨fun h0 => absurd h0 (by decide), h⟩)) ?_; rintro a _ w14 ⟨ho, hb⟩ hf
  have hold := hB8
  replace hB5 := hB5.only ho (by omega)
  replace hB6 := hB6.only ho (Blk.ne hB6 hold rfl)
  replace hB22 := hB22.only ho (Blk.ne hB22 hold rfl)
  replace hr_c := hr_c.onlyT ho hold rfl
  replace hr_r := hr_r.onlyT ho hold rfl
  replace hs_r := hs_r.onlyT ho hold rfl
  replace hr20 := hr20.onlyT ho hold rfl
  replace hr21 := hr21.onlyT ho hold rfl
  replace ho24 := ho24.onlyT ho hold rfl
  replace ho25 := ho25.onlyT ho hold rfl
  replace hW := Below.only hW ho hlo8
  clear hold
  have hB8 := hb
  clear hb ho
  refine s_e0 19 rfl (by kernel_rfl) hf rfl (fun _ => ev_assign hf rfl) ?_; intro a hf
  refine s_done (by kernel_rfl) ?_
  refine hK19 _ _ ?_; try clear hK19 K19
  refine wp_ret ?_
  refine c_ret hf (res2 hf rfl (ResV.cellN (l := [.int .i64 (((cIf ⟨c.n, (List.flatMap Sg.l [(⟨Ac, cc, (c.gs.take r.pos.toNat)⟩ : Sg), (⟨Br, dr, r.new⟩ : Sg), (⟨(if cc = (r.pos.toNat + r.old.length) then Ac else Ac.map (·.add ((r.pos.toNat + r.old.length) * 3))), (cc - (r.pos.toNat + r.old.length)), (c.gs.drop (r.pos.toNat + r.old.length))⟩ : Sg)])⟩).getD cZ).n), .slice A25 (((cIf ⟨c.n, (List.flatMap Sg.l [(⟨Ac, cc, (c.gs.take r.pos.toNat)⟩ : Sg), (⟨Br, dr, r.new⟩ : Sg), (⟨(if cc = (r.pos.toNat + r.old.length) then Ac else Ac.map (·.add ((r.pos.toNat + r.old.length) * 3))), (cc - (r.pos.toNat + r.old.length)), (c.gs.drop (r.pos.toNat + r.old.length))⟩ : Sg)])⟩).getD cZ).gs).length c25]) rfl tN_41 (hB8.at 0) rfl) rfl) ?_
  rw [hfin]
  exact ⟨A25, c25, rfl, ho25, hW⟩
end Go.Proofs.YtfgnmflfiobkmaaGreat
set_option maxRecDepth 4000
namespace Go.Proofs.YtfgnmflfiobkmaaGreat
open Go.RowKit
theorem F64 (w0 : World) (p : Cx) (Ap : Option Addr) (cp : Nat) (hr_p : Rd w0 w0.heap.size 107 encG Ap p.gs) (q : Cx) (Aq : Option Addr) (cq : Nat) (hr_q : Rd w0 w0.heap.size 107 encG Aq q.gs) (hln : p.gs.length ≤ 2305843009213693951) : Ret Tryz.prog 64 [.agg #[.int .i64 p.n, .slice Ap p.gs.length cp], .agg #[.int .i64 q.n, .slice Aq q.gs.length cq]] w0 (fun v w => v = .bool (eqC p q) ∧ Below w0.heap.size w0 w) := by
 refine enter Tryz.func64 rfl 38 rfl rfl ?_
 intro a hf
 have hW : Below w0.heap.size w0 w0 := Below.refl _ _
 refine wp_seq_k ?_; intro K3 hK3
 refine wp_region_lit ?_
 refine l_f hf rfl (ef_box (zs := [.int .i64 p.n, .slice Ap p.gs.length cp]) hf rfl rfl) ?_; rintro a _ w1 ⟨b4, rfl, hl4, hE, hB4⟩ hf
 have hlo4 := Nat.le_trans hW.size hl4
 replace hr_p := hr_p.below hE
 replace hr_q := hr_q.below hE
 replace hW := btr hW hE
 clear hE
 refine l_f hf rfl (ef_box (zs := [.int .i64 q.n, .slice Aq q.gs.length cq]) hf rfl rfl) ?_; rintro a _ w2 ⟨b5, rfl, hl5, hE, hB5⟩ hf
 have hne4_5 : b4 ≠ b5 := by have := hB4.lt; omega
 have hlo5 := Nat.le_trans hW.size hl5
 replace hB4 := hB4.below hE
 replace hr_p := hr_p.below hE
 replace hr_q := hr_q.below hE
 replace hW := btr hW hE
 clear hE
 refine l_as hf rfl rfl ?_; intro a hf
 refine wpList_nil ?_
 refine hK3 _ _ ?_; try clear hK3 K3
 refine wp_seq_k ?_; intro K6 hK6
 refine wp_seq_k ?_; intro K7 hK7
 refine c_cut (fun a w => Fr a 38 [(2, .pointer (some ⟨b4, 0, none⟩)), (3, .pointer (some ⟨b5, 0, none⟩)), (19, .bool ((p.n != q.n) || ((p.gs.length : Int) != (q.gs.length : Int))))] ∧ w2 = w) ?_ ?_
 ·refine wp_region_lit ?_
  refine l_e hf rfl (ev_fieldB hf rfl fd_41_0 (m := 0) rfl) ?_; intro a hf
  refine l_e hf rfl (ev_load1 hf rfl t1_3 (hB4.at 0)) ?_; intro a hf
  refine l_e hf rfl (ev_fieldB hf rfl fd_41_0 (m := 0) rfl) ?_; intro a hf
  refine l_e hf rfl (ev_load1 hf rfl t1_3 (hB5.at 0)) ?_; intro a hf
  refine l_e hf rfl (ev_neq hf rfl rfl) ?_; intro a hf
  refine l_mv hf rfl rfl ?_; intro a hf
  refine g_split hf (t := 11) rfl (fun hg8 => ?_) (fun hg8 => ?_)
  ·refine l_pass hf ⟨_, _, rfl, rfl, hg8⟩ rfl rfl ?_; intro a hf
   refine l_pass hf ⟨_, _, rfl, rfl, hg8⟩ rfl rfl ?_; intro a hf
   refine l_pass hf ⟨_, _, rfl, rfl, hg8⟩ rfl rfl ?_; intro a hf
   refine l_pass hf ⟨_, _, rfl, rfl, hg8⟩ rfl rfl ?_; intro a hf
   refine l_pass hf ⟨_, _, rfl, rfl, hg8⟩ rfl rfl ?_; intro a hf
   refine l_pass hf ⟨_, _, rfl, rfl, hg8⟩ rfl rfl ?_; intro a hf
   refine l_pass hf ⟨_, _, rfl, rfl, hg8⟩ rfl rfl ?_; intro a hf
   refine l_e hf rfl (ev_pickT hf rfl hg8 rfl) ?_; intro a hf
   refine wpList_nil ?_
   exact ⟨hf.sub ⟨rfl, rfl, look_bool rfl (by first | rfl | (simp only [hg8, Bool.true_and, Bool.false_and, Bool.true_or, Bool.false_or]; done) | simp [hg8]), trivial⟩, rfl⟩
  ·refine l_ev hf ⟨_, _, rfl, rfl, hg8⟩ rfl rfl (ev_fieldB hf rfl fd_41_1 (m := 1) rfl) ?_; intro a hf
   refine l_ev hf ⟨_, _, rfl, rfl, hg8⟩ rfl rfl (ev_load1 hf rfl t1_28 (hB4.at 1)) ?_; intro a hf
   refine l_ev hf ⟨_, _, rfl, rfl, hg8⟩ rfl rfl (ev_len hf rfl sl_28) ?_; intro a hf
   refine l_ev hf ⟨_, _, rfl, rfl, hg8⟩ rfl rfl (ev_fieldB hf rfl fd_41_1 (m := 1) rfl) ?_; intro a hf
   refine l_ev hf ⟨_, _, rfl, rfl, hg8⟩ rfl rfl (ev_load1 hf rfl t1_28 (hB5.at 1)) ?_; intro a hf
   refine l_ev hf ⟨_, _, rfl, rfl, hg8⟩ rfl rfl (ev_len hf rfl sl_28) ?_; intro a hf
   refine l_ev hf ⟨_, _, rfl, rfl, hg8⟩ rfl rfl (ev_neq hf rfl rfl) ?_; intro a hf
   refine l_e hf rfl (ev_pickF hf rfl hg8 rfl) ?_; intro a hf
   refine wpList_nil ?_
   exact ⟨hf.sub ⟨rfl, rfl, look_bool rfl (by first | rfl | (simp only [hg8, Bool.true_and, Bool.false_and, Bool.true_or, Bool.false_or]; done) | simp [hg8]), trivial⟩, rfl⟩
 rintro a _ ⟨hf, rfl⟩
 refine hK7 _ _ ?_; try clear hK7 K7
 refine c_if hf rfl (fun hc9 => ?_) (fun hc9 => ?_)
 ·have hc9b := hc9
  have hne : eqC p q = false := by unfold eqC; revert hc9; by_cases e1 : p.n = q.n <;> by_cases e2 : p.gs = q.gs <;> simp [e1, e2]
  refine wp_seq_k ?_; intro K10 hK10
  refine wp_region_lit ?_
  refine l_as hf rfl rfl ?_; intro a hf
  refine wpList_nil ?_
  refine hK10 _ _ ?_; try clear hK10 K10
  refine wp_ret ?_
  refine x_retS ?_
  refine c_ret hf (res1 hf rfl rfl) ?_
  exact ⟨by rw [hne], hW⟩
 ·have hc9b := hc9
  have hnl : p.n = q.n ∧ p.gs.length = q.gs.length := by revert hc9; by_cases e1 : p.n = q.n <;> simp [e1]; omega
  refine wp_skip ?_
  refine hK6 _ _ ?_; try clear hK6 K6
  refine wp_seq_k ?_; intro K11 hK11
  refine wp_seq_k ?_; intro K12 hK12
  refine wp_region_lit ?_
  refine l_e hf rfl (ev_fieldB hf rfl fd_41_1 (m := 1) rfl) ?_; intro a hf
  refine l_e hf rfl (ev_load1 hf rfl t1_28 (hB4.at 1)) ?_; intro a hf
  refine l_e hf rfl (ev_len hf rfl sl_28) ?_; intro a hf
  refine l_mv hf rfl rfl ?_; intro a hf
  refine wpList_nil ?_
  refine hK12 _ _ ?_; try clear hK12 K12
  refine wp_block ?_
  refine c_loop (σ := Nat) (fun (k : Nat) (a : Act) (w : World) => Fr a 38 [(2, .pointer (some ⟨b4, 0, none⟩)), (3, .pointer (some ⟨b5, 0, none⟩)), (22, .int .i64 (p.gs.length : Int)), (23, .int .i64 (k : Int))] ∧ (k ≤ p.gs.length) ∧ (p.gs.take k = q.gs.take k) ∧ Blk w b4 41 [.int .i64 p.n, .slice Ap p.gs.length cp] ∧ Blk w b5 41 [.int .i64 q.n, .slice Aq q.gs.length cq] ∧ Rd w w0.heap.size 107 encG Ap p.gs ∧ Rd w w0.heap.size 107 encG Aq q.gs ∧ Below w0.heap.size w0 w) (fun (k : Nat) => p.gs.length - k) 0 ?_ ?_
  · exact ⟨hf.sub ⟨rfl, rfl, rfl, rfl, trivial⟩, (Nat.zero_le _), (by simp), hB4, hB5, hr_p, hr_q, hW⟩
  rintro k a w3 ⟨hf, hk, hpre, hB4, hB5, hr_p, hr_q, hW⟩
  refine wp_seq_k ?_; intro K13 hK13
  refine wp_region_lit ?_
  refine l_e hf rfl (ev_lss hf rfl rfl) ?_; intro a hf
  refine wpList_nil ?_
  refine hK13 _ _ ?_; try clear hK13 K13
  refine wp_seq_k ?_; intro K14 hK14
  refine c_if hf rfl (fun hc15 => ?_) (fun hc15 => ?_)
  ·have hc15b := hc15
   have hc15 := of_decide_eq_true hc15
   obtain ⟨u16, hu16⟩ := getElem_ex (l := p.gs) (k := k) (by omega)
   obtain ⟨v9, hv9⟩ := getElem_ex (l := q.gs) (k := k) (by omega)
   refine wp_skip ?_
   refine hK14 _ _ ?_; try clear hK14 K14
   refine wp_seq_k ?_; intro K17 hK17
   refine wp_block ?_
   refine wp_seq_k ?_; intro K18 hK18
   refine wp_region_lit ?_
   refine l_mv hf rfl rfl ?_; intro a hf
   refine l_as hf rfl rfl ?_; intro a hf
   refine wpList_nil ?_
   refine hK18 _ _ ?_; try clear hK18 K18
   refine wp_seq_k ?_; intro K19 hK19
   refine wp_draw none (fun _ => false) mixed ?_
   intro w4 hE
   replace hB4 := hB4.below hE
   replace hB5 := hB5.below hE
   replace hr_p := hr_p.below hE
   replace hr_q := hr_q.below hE
   replace hW := btr hW hE
   clear hE
   refine s_e0 0 rfl (by kernel_rfl) hf rfl (fun _ => ev_fieldB hf rfl fd_41_1 (m := 1) rfl) ?_; intro a hf
   refine s_e 1 rfl (by kernel_rfl) (by kernel_rfl) hf rfl (ev_load1 hf rfl t1_28 (hB4.at 1)) ?_; intro a hf
   refine s_e0 2 rfl (by kernel_rfl) hf rfl (fun _ => ev_move hf rfl) ?_; intro a hf
   refine s_index (k := k) (u := u16) (enc := encG) (l := p.gs) 3 rfl (by kernel_rfl) (by kernel_rfl) hf trivial rfl rfl rfl sl_28 sz_107 encG_len hr_p hu16 rfl ?_; intro a p21 hat20 hf
   refine s_e 4 rfl (by kernel_rfl) (by kernel_rfl) hf rfl (ev_loadN (l := [.int .i64 u16.k, .int .i64 u16.a, .int .i64 u16.b]) hf rfl tN_107 hat20 rfl) ?_; intro a hf
   refine s_e0 5 rfl (by kernel_rfl) hf rfl (fun _ => ev_fieldB hf rfl fd_41_1 (m := 1) rfl) ?_; intro a hf
   refine s_e 6 rfl (by kernel_rfl) (by kernel_rfl) hf rfl (ev_load1 hf rfl t1_28 (hB5.at 1)) ?_; intro a hf
   refine s_e0 7 rfl (by kernel_rfl) hf rfl (fun _ => ev_move hf rfl) ?_; intro a hf
   refine s_index (k := k) (u := v9) (enc := encG) (l := q.gs) 8 rfl (by kernel_rfl) (by kernel_rfl) hf trivial rfl rfl rfl sl_28 sz_107 encG_len hr_q hv9 rfl ?_; intro a p23 hat22 hf
   refine s_e 9 rfl (by kernel_rfl) (by kernel_rfl) hf rfl (ev_loadN (l := [.int .i64 v9.k, .int .i64 v9.a, .int .i64 v9.b]) hf rfl tN_107 hat22 rfl) ?_; intro a hf
   refine s_e0 10 rfl (by kernel_rfl) hf rfl (fun _ => ev_neqS hf rfl rfl gd_107 (fun w => eqG107 9998 u16 v9 w)) ?_; intro a hf
   refine s_done (by kernel_rfl) ?_
   refine hK19 _ _ ?_; try clear hK19 K19
   refine c_if hf rfl (fun hc24 => ?_) (fun hc24 => ?_)
   ·have hc24b := hc24
    have hne : eqC p q = false := by have h8 : ¬ p.gs = q.gs := (by intro e8; rw [e8] at hu16; rw [hu16] at hv9; injection hv9 with e9; revert hc24; simp [e9]); unfold eqC; simp [h8]
    refine wp_seq_k ?_; intro K25 hK25
    refine wp_region_lit ?_
    refine l_as hf rfl rfl ?_; intro a hf
    refine wpList_nil ?_
    refine hK25 _ _ ?_; try clear hK25 K25
    refine wp_ret ?_
    refine x_retB ?_
    refine x_retS ?_
    refine x_retS ?_
    refine x_retB ?_
    refine x_retS ?_
    refine c_ret hf (res1 hf rfl rfl) ?_
    exact ⟨by rw [hne], hW⟩
   ·have hc24b := hc24
    have he9 : u16 = v9 := by revert hc24; simp
    refine wp_skip ?_
    refine x_norm ?_
    refine hK17 _ _ ?_; try clear hK17 K17
    refine wp_region_lit ?_
    refine l_e hf rfl (ev_addx hf rfl rfl (by omega) (by omega)) ?_; intro a hf
    refine l_mv hf rfl rfl ?_; intro a hf
    refine wpList_nil ?_
    refine x_thenN ?_
    exact ⟨k + 1, ⟨hf.sub ⟨rfl, rfl, rfl, rfl, trivial⟩, (by omega), (take_eq hpre hu16 hv9 he9), hB4, hB5, hr_p, hr_q, hW⟩, (by omega)⟩
  ·have hc15b := hc15
   have hc15 := of_decide_eq_false hc15
   refine wp_exit ?_
   refine x_exS ?_
   refine x_exS ?_
   refine x_exit ?_
   refine hK11 _ _ ?_; try clear hK11 K11
   refine wp_seq_k ?_; intro K26 hK26
   refine wp_region_lit ?_
   refine l_as hf rfl rfl ?_; intro a hf
   refine wpList_nil ?_
   refine hK26 _ _ ?_; try clear hK26 K26
   refine wp_ret ?_
   refine c_ret hf (res1 hf rfl rfl) ?_
   have he : p.gs = q.gs := by rw [List.take_of_length_le (by omega), List.take_of_length_le (by omega)] at hpre; exact hpre
   exact ⟨by simp [eqC, he, hnl.1], hW⟩
theorem F63 (w0 : World) (c : Cx) (Ac : Option Addr) (cc : Nat) (hr_c : Rd w0 w0.heap.size 107 encG Ac c.gs) (hp_c : c.gs.length ≤ cc) (r : Rp) (Ar : Option Addr) (cr : Nat) (hr_r : Rd w0 w0.heap.size 107 encG Ar r.old) (Br : Option Addr) (dr : Nat) (hs_r : Rd w0 w0.heap.size 107 encG Br r.new) (hlc : c.gs.length ≤ 100000000) (hla : r.old.length ≤ 100000000) (hlb : r.new.length ≤ 100000000) : Ret Tryz.prog 63 [.agg #[.int .i64 c.n, .slice Ac c.gs.length cc], .agg #[.int .i64 r.pos, .slice Ar r.old.length cr, .slice Br r.new.length dr]] w0 (fun v w => ∃ A c1, v = .tuple #[.agg #[.int .i64 ((applyS c r).getD cZ).n, .slice A ((applyS c r).getD cZ).gs.length c1], .bool (applyS c r).isSome] ∧ Own w w0.heap.size 107 3 encG A c1 ((applyS c r).getD cZ).gs ∧ Below w0.heap.size w0 w) := by
 refine enter Tryz.func63 rfl 91 rfl rfl ?_
 intro a hf
 have hW : Below w0.heap.size w0 w0 := Below.refl _ _
 refine wp_seq_k ?_; intro K4 hK4
 refine wp_region_lit ?_
 refine l_f hf rfl (ef_box (zs := [.int .i64 c.n, .slice Ac c.gs.length cc]) hf rfl rfl) ?_; rintro a _ w1 ⟨b5, rfl, hl5, hE, hB5⟩ hf
 have hlo5 := Nat.le_trans hW.size hl5
 replace hr_c := hr_c.below hE
 replace hr_r := hr_r.below hE
 replace hs_r := hs_r.below hE
 replace hW := btr hW hE
 clear hE
 refine l_f hf rfl (ef_box (zs := [.int .i64 r.pos, .slice Ar r.old.length cr, .slice Br r.new.length dr]) hf rfl rfl) ?_; rintro a _ w2 ⟨b6, rfl, hl6, hE, hB6⟩ hf
 have hlo6 := Nat.le_trans hW.size hl6
 replace hB5 := hB5.below hE
 replace hr_c := hr_c.below hE
 replace hr_r := hr_r.below hE
 replace hs_r := hs_r.below hE
 replace hW := btr hW hE
 clear hE
 refine l_f hf rfl (ef_alloc (zs := [.int .i64 0, .slice none 0 0]) z_41 rfl) ?_; rintro a _ w3 ⟨b8, rfl, hl8, hE, hB8⟩ hf
 have hne5_8 : b5 ≠ b8 := by have := hB5.lt; omega
 have hlo8 := Nat.le_trans hW.size hl8
 replace hB5 := hB5.below hE
 replace hB6 := hB6.below hE
 replace hr_c := hr_c.below hE
 replace hr_r := hr_r.below hE
 replace hs_r := hs_r.below hE
 replace hW := btr hW hE
 clear hE
 refine l_as hf rfl rfl ?_; intro a hf
 refine wpList_nil ?_
 refine hK4 _ _ ?_; try clear hK4 K4
 refine wp_seq_k ?_; intro K9 hK9
 refine wp_seq_k ?_; intro K10 hK10
 refine c_cut (fun a w => Fr a 91 [(2, .pointer (some ⟨b5, 0, none⟩)), (3, .pointer (some ⟨b6, 0, none⟩)), (4, .pointer (some ⟨b8, 0, none⟩)), (39, .bool (((!(validS c.n r)) || (decide ((c.gs.length : Int) < (wr (r.pos + (r.old.length : Int)))))) || (decide (400 < (((c.gs.length : Int) - (r.old.length : Int)) + (r.new.length : Int))))))] ∧ Below w3.heap.size w3 w) ?_ ?_
 ·have hEc : Below w3.heap.size w3 w3 := Below.refl _ _
  refine wp_region_lit ?_
  refine l_e hf rfl (ev_fieldB hf rfl fd_41_0 (m := 0) rfl) ?_; intro a hf
  refine l_e hf rfl (ev_load1 hf rfl t1_3 (hB5.at 0)) ?_; intro a hf
  refine l_e hf rfl (ev_loadN (l := [.int .i64 r.pos, .slice Ar r.old.length cr, .slice Br r.new.length dr]) hf rfl tN_30 (hB6.at 0) rfl) ?_; intro a hf
  refine l_f hf rfl (ef_call (vs := [.int .i64 c.n, .agg #[.int .i64 r.pos, .slice Ar r.old.length cr, .slice Br r.new.length dr]]) hf rfl ff_43 (F43 _ c.n r Ar cr hr_r.top Br dr hs_r.top (by omega) (by omega))) ?_; rintro a _ w4 ⟨rfl, hE⟩ hf
  replace hB5 := hB5.below hE
  replace hB6 := hB6.below hE
  replace hB8 := hB8.below hE
  replace hr_c := hr_c.below hE
  replace hr_r := hr_r.below hE
  replace hs_r := hs_r.below hE
  replace hW := btr hW hE
  replace hEc := btr hEc hE
  clear hE
  refine l_e hf rfl (ev_not hf rfl) ?_; intro a hf
  refine l_mv hf rfl rfl ?_; intro a hf
  refine g_split hf (t := 14) rfl (fun hg11 => ?_) (fun hg11 => ?_)
  ·refine l_pass hf ⟨_, _, rfl, rfl, hg11⟩ rfl rfl ?_; intro a hf
   refine l_pass hf ⟨_, _, rfl, rfl, hg11⟩ rfl rfl ?_; intro a hf
   refine l_pass hf ⟨_, _, rfl, rfl, hg11⟩ rfl rfl ?_; intro a hf
   refine l_pass hf ⟨_, _, rfl, rfl, hg11⟩ rfl rfl ?_; intro a hf
   refine l_pass hf ⟨_, _, rfl, rfl, hg11⟩ rfl rfl ?_; intro a hf
   refine l_pass hf ⟨_, _, rfl, rfl, hg11⟩ rfl rfl ?_; intro a hf
   refine l_pass hf ⟨_, _, rfl, rfl, hg11⟩ rfl rfl ?_; intro a hf
   refine l_pass hf ⟨_, _, rfl, rfl, hg11⟩ rfl rfl ?_; intro a hf
   refine l_pass hf ⟨_, _, rfl, rfl, hg11⟩ rfl rfl ?_; intro a hf
   refine l_pass hf ⟨_, _, rfl, rfl, hg11⟩ rfl rfl ?_; intro a hf
   refine l_e hf rfl (ev_pickT hf rfl hg11 rfl) ?_; intro a hf
   refine l_mv hf rfl rfl ?_; intro a hf
   refine l_pass hf ⟨_, _, rfl, rfl, rfl⟩ rfl rfl ?_; intro a hf
   refine l_pass hf ⟨_, _, rfl, rfl, rfl⟩ rfl rfl ?_; intro a hf
   refine l_pass hf ⟨_, _, rfl, rfl, rfl⟩ rfl rfl ?_; intro a hf
   refine l_pass hf ⟨_, _, rfl, rfl, rfl⟩ rfl rfl ?_; intro a hf
   refine l_pass hf ⟨_, _, rfl, rfl, rfl⟩ rfl rfl ?_; intro a hf
   refine l_pass hf ⟨_, _, rfl, rfl, rfl⟩ rfl rfl ?_; intro a hf
   refine l_pass hf ⟨_, _, rfl, rfl, rfl⟩ rfl rfl ?_; intro a hf
   refine l_pass hf ⟨_, _, rfl, rfl, rfl⟩ rfl rfl ?_; intro a hf
   refine l_pass hf ⟨_, _, rfl, rfl, rfl⟩ rfl rfl ?_; intro a hf
   refine l_pass hf ⟨_, _, rfl, rfl, rfl⟩ rfl rfl ?_; intro a hf
   refine l_pass hf ⟨_, _, rfl, rfl, rfl⟩ rfl rfl ?_; intro a hf
   refine l_pass hf ⟨_, _, rfl, rfl, rfl⟩ rfl rfl ?_; intro a hf
   refine l_e hf rfl (ev_pickT hf rfl rfl rfl) ?_; intro a hf
   refine wpList_nil ?_
   have hEE : Below w3.heap.size w3 w4 := hEc
   exact ⟨hf.sub ⟨rfl, rfl, rfl, look_bool rfl (by first | rfl | (simp only [hg11, Bool.true_and, Bool.false_and, Bool.true_or, Bool.false_or]; done) | simp [hg11]), trivial⟩, hEE⟩
  ·refine l_ev hf ⟨_, _, rfl, rfl, hg11⟩ rfl rfl (ev_fieldB hf rfl fd_30_0 (m := 0) rfl) ?_; intro a hf
   refine l_ev hf ⟨_, _, rfl, rfl, hg11⟩ rfl rfl (ev_load1 hf rfl t1_3 (hB6.at 0)) ?_; intro a hf
   refine l_ev hf ⟨_, _, rfl, rfl, hg11⟩ rfl rfl (ev_fieldB hf rfl fd_30_1 (m := 1) rfl) ?_; intro a hf
   refine l_ev hf ⟨_, _, rfl, rfl, hg11⟩ rfl rfl (ev_load1 hf rfl t1_28 (hB6.at 1)) ?_; intro a hf
   refine l_ev hf ⟨_, _, rfl, rfl, hg11⟩ rfl rfl (ev_len hf rfl sl_28) ?_; intro a hf
   refine l_ev hf ⟨_, _, rfl, rfl, hg11⟩ rfl rfl (ev_add hf rfl rfl) ?_; intro a hf
   refine l_ev hf ⟨_, _, rfl, rfl, hg11⟩ rfl rfl (ev_fieldB hf rfl fd_41_1 (m := 1) rfl) ?_; intro a hf
   refine l_ev hf ⟨_, _, rfl, rfl, hg11⟩ rfl rfl (ev_load1 hf rfl t1_28 (hB5.at 1)) ?_; intro a hf
   refine l_ev hf ⟨_, _, rfl, rfl, hg11⟩ rfl rfl (ev_len hf rfl sl_28) ?_; intro a hf
   refine l_ev hf ⟨_, _, rfl, rfl, hg11⟩ rfl rfl (ev_gtr hf rfl rfl) ?_; intro a hf
   refine l_e hf rfl (ev_pickF hf rfl hg11 rfl) ?_; intro a hf
   refine l_mv hf rfl rfl ?_; intro a hf
   refine g_split hf (t := 26) rfl (fun hg12 => ?_) (fun hg12 => ?_)
   ·refine l_pass hf ⟨_, _, rfl, rfl, hg12⟩ rfl rfl ?_; intro a hf
    refine l_pass hf ⟨_, _, rfl, rfl, hg12⟩ rfl rfl ?_; intro a hf
    refine l_pass hf ⟨_, _, rfl, rfl, hg12⟩ rfl rfl ?_; intro a hf
    refine l_pass hf ⟨_, _, rfl, rfl, hg12⟩ rfl rfl ?_; intro a hf
    refine l_pass hf ⟨_, _, rfl, rfl, hg12⟩ rfl rfl ?_; intro a hf
    refine l_pass hf ⟨_, _, rfl, rfl, hg12⟩ rfl rfl ?_; intro a hf
    refine l_pass hf ⟨_, _, rfl, rfl, hg12⟩ rfl rfl ?_; intro a hf
    refine l_pass hf ⟨_, _, rfl, rfl, hg12⟩ rfl rfl ?_; intro a hf
    refine l_pass hf ⟨_, _, rfl, rfl, hg12⟩ rfl rfl ?_; intro a hf
    refine l_pass hf ⟨_, _, rfl, rfl, hg12⟩ rfl rfl ?_; intro a hf
    refine l_pass hf ⟨_, _, rfl, rfl, hg12⟩ rfl rfl ?_; intro a hf
    refine l_pass hf ⟨_, _, rfl, rfl, hg12⟩ rfl rfl ?_; intro a hf
    refine l_e hf rfl (ev_pickT hf rfl hg12 rfl) ?_; intro a hf
    refine wpList_nil ?_
    have hEE : Below w3.heap.size w3 w4 := hEc
    exact ⟨hf.sub ⟨rfl, rfl, rfl, look_bool rfl (by first | rfl | (simp only [hg11, hg12, Bool.true_and, Bool.false_and, Bool.true_or, Bool.false_or]; done) | simp [hg11, hg12]), trivial⟩, hEE⟩
   ·refine l_ev hf ⟨_, _, rfl, rfl, hg12⟩ rfl rfl (ev_fieldB hf rfl fd_41_1 (m := 1) rfl) ?_; intro a hf
    refine l_ev hf ⟨_, _, rfl, rfl, hg12⟩ rfl rfl (ev_load1 hf rfl t1_28 (hB5.at 1)) ?_; intro a hf
    refine l_ev hf ⟨_, _, rfl, rfl, hg12⟩ rfl rfl (ev_len hf rfl sl_28) ?_; intro a hf
    refine l_ev hf ⟨_, _, rfl, rfl, hg12⟩ rfl rfl (ev_fieldB hf rfl fd_30_1 (m := 1) rfl) ?_; intro a hf
    refine l_ev hf ⟨_, _, rfl, rfl, hg12⟩ rfl rfl (ev_load1 hf rfl t1_28 (hB6.at 1)) ?_; intro a hf
    refine l_ev hf ⟨_, _, rfl, rfl, hg12⟩ rfl rfl (ev_len hf rfl sl_28) ?_; intro a hf
    refine l_ev hf ⟨_, _, rfl, rfl, hg12⟩ rfl rfl (ev_subx hf rfl rfl (by omega) (by omega)) ?_; intro a hf
    refine l_ev hf ⟨_, _, rfl, rfl, hg12⟩ rfl rfl (ev_fieldB hf rfl fd_30_2 (m := 2) rfl) ?_; intro a hf
    refine l_ev hf ⟨_, _, rfl, rfl, hg12⟩ rfl rfl (ev_load1 hf rfl t1_28 (hB6.at 2)) ?_; intro a hf
    refine l_ev hf ⟨_, _, rfl, rfl, hg12⟩ rfl rfl (ev_len hf rfl sl_28) ?_; intro a hf
    refine l_ev hf ⟨_, _, rfl, rfl, hg12⟩ rfl rfl (ev_addx hf rfl rfl (by omega) (by omega)) ?_; intro a hf
    refine l_ev hf ⟨_, _, rfl, rfl, hg12⟩ rfl rfl (ev_gtr hf rfl rfl) ?_; intro a hf
    refine l_e hf rfl (ev_pickF hf rfl hg12 rfl) ?_; intro a hf
    refine wpList_nil ?_
    have hEE : Below w3.heap.size w3 w4 := hEc
    exact ⟨hf.sub ⟨rfl, rfl, rfl, look_bool rfl (by first | rfl | (simp only [hg11, hg12, Bool.true_and, Bool.false_and, Bool.true_or, Bool.false_or]; done) | simp [hg11, hg12]), trivial⟩, hEE⟩
 rintro a w5 ⟨hf, hE⟩
 replace hB5 := hB5.below hE
 replace hB6 := hB6.below hE
 replace hB8 := hB8.below hE
 replace hr_c := hr_c.below hE
 replace hr_r := hr_r.below hE
 replace hs_r := hs_r.below hE
 replace hW := btr hW hE
 clear hE
 refine hK10 _ _ ?_; try clear hK10 K10
 refine c_if hf rfl (fun hc13 => ?_) (fun hc13 => ?_)
 ·have hc13b := hc13
  have hfin := fitS_false hc13
  refine wp_seq_k ?_; intro K14 hK14
  refine wp_region_lit ?_
  refine l_e hf rfl (ev_build (ps := []) (cs := [.int .i64 0, .slice none 0 0]) hf rfl (fun _ => by first | rfl | kernel_rfl)) ?_; intro a hf
  refine l_f0 hf (ef_store (vs := [.int .i64 0, .slice none 0 0]) (l' := [.int .i64 0, .slice none 0 0]) hf rfl rfl sz_41 hB8 rfl rfl rfl rfl rfl) ?_; rintro a _ w6 ⟨ho, hb⟩ hf
  have hold := hB8
  replace hB5 := hB5.only ho (by omega)
  replace hB6 := hB6.only ho (Blk.ne hB6 hold rfl)
  replace hr_c := hr_c.onlyT ho hold rfl
  replace hr_r := hr_r.onlyT ho hold rfl
  replace hs_r := hs_r.onlyT ho hold rfl
  replace hW := Below.only hW ho hlo8
  clear hold
  have hB8 := hb
  clear hb ho
  refine l_as hf rfl rfl ?_; intro a hf
  refine wpList_nil ?_
  refine hK14 _ _ ?_; try clear hK14 K14
  refine wp_ret ?_
  refine x_retS ?_
  refine c_ret hf (res2 hf rfl (ResV.cellN (l := [.int .i64 0, .slice none 0 0]) rfl tN_41 (hB8.at 0) rfl) rfl) ?_
  rw [hfin]
  exact ⟨none, 0, rfl, (Own.nil _ _ _ _ _), hW⟩
 ·have hc13b := hc13
  obtain ⟨hfit, hv, hle⟩ := fitS_true hc13
  have he := end_ok (n := c.n) (r := r) (by rw [hv]; rfl)
  refine wp_skip ?_
  refine hK9 _ _ ?_; try clear hK9 K9
  refine wp_seq_k ?_; intro K16 hK16
  refine wp_seq_k ?_; intro K17 hK17
  refine wp_region_lit ?_
  refine l_e hf rfl (ev_fieldB hf rfl fd_30_1 (m := 1) rfl) ?_; intro a hf
  refine l_e hf rfl (ev_load1 hf rfl t1_28 (hB6.at 1)) ?_; intro a hf
  refine l_e hf rfl (ev_len hf rfl sl_28) ?_; intro a hf
  refine l_mv hf rfl rfl ?_; intro a hf
  refine wpList_nil ?_
  refine hK17 _ _ ?_; try clear hK17 K17
  refine wp_block ?_
  refine c_loop (σ := Nat) (fun (k : Nat) (a : Act) (w : World) => Fr a 91 [(2, .pointer (some ⟨b5, 0, none⟩)), (3, .pointer (some ⟨b6, 0, none⟩)), (4, .pointer (some ⟨b8, 0, none⟩)), (42, .slice Ar r.old.length cr), (43, .int .i64 (r.old.length : Int)), (44, .int .i64 (k : Int))] ∧ (k ≤ r.old.length) ∧ ((c.gs.drop r.pos.toNat).take k = r.old.take k) ∧ Blk w b5 41 [.int .i64 c.n, .slice Ac c.gs.length cc] ∧ Blk w b6 30 [.int .i64 r.pos, .slice Ar r.old.length cr, .slice Br r.new.length dr] ∧ Blk w b8 41 [.int .i64 0, .slice none 0 0] ∧ Rd w w0.heap.size 107 encG Ac c.gs ∧ Rd w w0.heap.size 107 encG Ar r.old ∧ Rd w w0.heap.size 107 encG Br r.new ∧ c.gs.length ≤ cc ∧ Below w0.heap.size w0 w) (fun (k : Nat) => r.old.length - k) 0 ?_ ?_
  · exact ⟨hf.sub ⟨rfl, rfl, rfl, rfl, rfl, rfl, trivial⟩, (Nat.zero_le _), (by simp), hB5, hB6, hB8, hr_c, hr_r, hs_r, hp_c, hW⟩
  rintro k a w7 ⟨hf, hk, hpre, hB5, hB6, hB8, hr_c, hr_r, hs_r, hp_c, hW⟩
  refine wp_seq_k ?_; intro K18 hK18
  refine wp_region_lit ?_
  refine l_e hf rfl (ev_lss hf rfl rfl) ?_; intro a hf
  refine wpList_nil ?_
  refine hK18 _ _ ?_; try clear hK18 K18
  refine wp_seq_k ?_; intro K19 hK19
  refine c_if hf rfl (fun hc20 => ?_) (fun hc20 => ?_)
  ·have hc20b := hc20
   have hc20 := of_decide_eq_true hc20
   obtain ⟨u21, hu21⟩ := getElem_ex (l := r.old) (k := k) (by omega)
   obtain ⟨v9, hv9⟩ := getElem_ex (l := c.gs) (k := r.pos.toNat + k) (by omega)
   refine wp_skip ?_
   refine hK19 _ _ ?_; try clear hK19 K19
   refine wp_seq_k ?_; intro K22 hK22
   refine wp_block ?_
   refine wp_seq_k ?_; intro K23 hK23
   refine wp_region_lit ?_
   refine l_mv hf rfl rfl ?_; intro a hf
   refine l_index (k := k) (u := u21) (enc := encG) (l := r.old) hf trivial rfl rfl rfl sl_28 sz_107 encG_len hr_r hu21 rfl ?_; intro a p25 hat24 hf
   refine l_e hf rfl (ev_loadN (l := [.int .i64 u21.k, .int .i64 u21.a, .int .i64 u21.b]) hf rfl tN_107 hat24 rfl) ?_; intro a hf
   refine l_f hf rfl (ef_alloc (zs := [.int .i64 0, .int .i64 0, .int .i64 0]) z_107 rfl) ?_; rintro a _ w8 ⟨b26, rfl, hl26, hE, hB26⟩ hf
   have hlo26 := Nat.le_trans hW.size hl26
   have haw1_26 := hr_c.away hl26
   have haw2_26 := hr_r.away hl26
   have haw3_26 := hs_r.away hl26
   replace hB5 := hB5.below hE
   replace hB6 := hB6.below hE
   replace hB8 := hB8.below hE
   replace hr_c := hr_c.below hE
   replace hr_r := hr_r.below hE
   replace hs_r := hs_r.below hE
   replace hW := btr hW hE
   clear hE
   refine l_as hf rfl rfl ?_; intro a hf
   refine l_f0 hf (ef_store (vs := [.int .i64 u21.k, .int .i64 u21.a, .int .i64 u21.b]) (l' := [.int .i64 u21.k, .int .i64 u21.a, .int .i64 u21.b]) hf rfl rfl sz_107 hB26 rfl rfl rfl rfl rfl) ?_; rintro a _ w9 ⟨ho, hb⟩ hf
   have hold := hB26
   replace hB5 := hB5.only ho (Blk.ne hB5 hold rfl)
   replace hB6 := hB6.only ho (Blk.ne hB6 hold rfl)
   replace hB8 := hB8.only ho (Blk.ne hB8 hold rfl)
   replace hr_c := hr_c.only ho hlo26
   replace hr_r := hr_r.only ho hlo26
   replace hs_r := hs_r.only ho hlo26
   replace hW := Below.only hW ho hlo26
   clear hold
   have hB26 := hb
   clear hb ho
   refine wpList_nil ?_
   refine hK23 _ _ ?_; try clear hK23 K23
   refine wp_seq_k ?_; intro K27 hK27
   refine wp_draw none (fun _ => false) mixed ?_
   intro w10 hE
   replace hB5 := hB5.below hE
   replace hB6 := hB6.below hE
   replace hB8 := hB8.below hE
   replace hB26 := hB26.below hE
   replace hr_c := hr_c.below hE
   replace hr_r := hr_r.below hE
   replace hs_r := hs_r.below hE
   replace hW := btr hW hE
   clear hE
   refine s_e0 0 rfl (by kernel_rfl) hf rfl (fun _ => ev_fieldB hf rfl fd_41_1 (m := 1) rfl) ?_; intro a hf
   refine s_e 1 rfl (by kernel_rfl) (by kernel_rfl) hf rfl (ev_load1 hf rfl t1_28 (hB5.at 1)) ?_; intro a hf
   refine s_e0 2 rfl (by kernel_rfl) hf rfl (fun _ => ev_fieldB hf rfl fd_30_0 (m := 0) rfl) ?_; intro a hf
   refine s_e 3 rfl (by kernel_rfl) (by kernel_rfl) hf rfl (ev_load1 hf rfl t1_3 (hB6.at 0)) ?_; intro a hf
   refine s_e0 4 rfl (by kernel_rfl) hf rfl (fun _ => ev_move hf rfl) ?_; intro a hf
   refine s_e0 5 rfl (by kernel_rfl) hf rfl (fun _ => ev_addx hf rfl rfl (by omega) (by omega)) ?_; intro a hf
   refine s_index (k := (r.pos.toNat + k)) (u := v9) (enc := encG) (l := c.gs) 6 rfl (by kernel_rfl) (by kernel_rfl) hf trivial rfl rfl rfl sl_28 sz_107 encG_len hr_c hv9 (by omega) ?_; intro a p29 hat28 hf
   refine s_e 7 rfl (by kernel_rfl) (by kernel_rfl) hf rfl (ev_loadN (l := [.int .i64 v9.k, .int .i64 v9.a, .int .i64 v9.b]) hf rfl tN_107 hat28 rfl) ?_; intro a hf
   refine s_e 8 rfl (by kernel_rfl) (by kernel_rfl) hf rfl (ev_loadN (l := [.int .i64 u21.k, .int .i64 u21.a, .int .i64 u21.b]) hf rfl tN_107 (hB26.at 0) rfl) ?_; intro a hf
   refine s_e0 9 rfl (by kernel_rfl) hf rfl (fun _ => ev_neqS hf rfl rfl gd_107 (fun w => eqG107 9998 v9 u21 w)) ?_; intro a hf
   refine s_done (by kernel_rfl) ?_
   refine hK27 _ _ ?_; try clear hK27 K27
   refine c_if hf rfl (fun hc30 => ?_) (fun hc30 => ?_)
   ·have hc30b := hc30
    have hfin : applyS c r = none := applyS_none (part_ne hu21 hv9 (by revert hc30; simp))
    refine wp_seq_k ?_; intro K31 hK31
    refine wp_region_lit ?_
    refine l_e hf rfl (ev_build (ps := []) (cs := [.int .i64 0, .slice none 0 0]) hf rfl (fun _ => by first | rfl | kernel_rfl)) ?_; intro a hf
    refine l_f0 hf (ef_store (vs := [.int .i64 0, .slice none 0 0]) (l' := [.int .i64 0, .slice none 0 0]) hf rfl rfl sz_41 hB8 rfl rfl rfl rfl rfl) ?_; rintro a _ w11 ⟨ho, hb⟩ hf
    have hold := hB8
    replace hB5 := hB5.only ho (by omega)
    replace hB6 := hB6.only ho (Blk.ne hB6 hold rfl)
    replace hB26 := hB26.only ho (Blk.ne hB26 hold rfl)
    replace hr_c := hr_c.onlyT ho hold rfl
    replace hr_r := hr_r.onlyT ho hold rfl
    replace hs_r := hs_r.onlyT ho hold rfl
    replace hW := Below.only hW ho hlo8
    clear hold
    have hB8 := hb
    clear hb ho
    refine l_as hf rfl rfl ?_; intro a hf
    refine wpList_nil ?_
    refine hK31 _ _ ?_; try clear hK31 K31
    refine wp_ret ?_
    refine x_retB ?_
    refine x_retS ?_
    refine x_retS ?_
    refine x_retB ?_
    refine x_retS ?_
    refine c_ret hf (res2 hf rfl (ResV.cellN (l := [.int .i64 0, .slice none 0 0]) rfl tN_41 (hB8.at 0) rfl) rfl) ?_
    rw [hfin]
    exact ⟨none, 0, rfl, (Own.nil _ _ _ _ _), hW⟩
   ·have hc30b := hc30
    have he9 : v9 = u21 := by revert hc30; simp
    refine wp_skip ?_
    refine x_norm ?_
    refine hK22 _ _ ?_; try clear hK22 K22
    refine wp_region_lit ?_
    refine l_e hf rfl (ev_addx hf rfl rfl (by omega) (by omega)) ?_; intro a hf
    refine l_mv hf rfl rfl ?_; intro a hf
    refine wpList_nil ?_
    refine x_thenN ?_
    exact ⟨k + 1, ⟨hf.sub ⟨rfl, rfl, rfl, rfl, rfl, rfl, trivial⟩, (by omega), (part_take hpre hu21 hv9 he9), hB5, hB6, hB8, hr_c, hr_r, hs_r, hp_c, hW⟩, (by omega)⟩
  ·have hc20b := hc20
   have hc20 := of_decide_eq_false hc20
   have hk1 : k = r.old.length := by omega
   have hfin : applyS c r = some (midS c r) := applyS_some hfit (part_full (by rw [hk1] at hpre; exact hpre))
   refine wp_exit ?_
   refine x_exS ?_
   refine x_exS ?_
   refine x_exit ?_
   refine hK16 _ _ ?_; try clear hK16 K16
   refine wp_seq_k ?_; intro K33 hK33
   refine c_cut (fun a w => ∃ b40 A37 c37, Fr a 91 [(2, .pointer (some ⟨b5, 0, none⟩)), (3, .pointer (some ⟨b6, 0, none⟩)), (4, .pointer (some ⟨b8, 0, none⟩)), (8, .pointer (some ⟨b40, 0, none⟩))] ∧ w0.heap.size ≤ b40 ∧ Blk w b40 41 [.int .i64 c.n, .slice A37 (c.gs.take r.pos.toNat).length c37] ∧ b5 ≠ b40 ∧ b8 ≠ b40 ∧ Own w w0.heap.size 107 3 encG A37 c37 (c.gs.take r.pos.toNat) ∧ Below w7.heap.size w7 w) ?_ ?_
   ·have hEc : Below w7.heap.size w7 w7 := Below.refl _ _
    refine wp_draw none (fun j => [11].contains j) mixed ?_
    intro w12 hE
    replace hB5 := hB5.below hE
    replace hB6 := hB6.below hE
    replace hB8 := hB8.below hE
    replace hr_c := hr_c.below hE
    replace hr_r := hr_r.below hE
    replace hs_r := hs_r.below hE
    replace hW := btr hW hE
    replace hEc := btr hEc hE
    clear hE
    refine s_e0 0 rfl (by kernel_rfl) hf rfl (fun _ => ev_fieldB hf rfl fd_41_0 (m := 0) rfl) ?_; intro a hf
    refine s_e 1 rfl (by kernel_rfl) (by kernel_rfl) hf rfl (ev_load1 hf rfl t1_3 (hB5.at 0)) ?_; intro a hf
    refine s_e0 3 rfl (by kernel_rfl) hf rfl (fun _ => ev_fieldB hf rfl fd_41_1 (m := 1) rfl) ?_; intro a hf
    refine s_e 4 rfl (by kernel_rfl) (by kernel_rfl) hf rfl (ev_load1 hf rfl t1_28 (hB5.at 1)) ?_; intro a hf
    refine s_e0 5 rfl (by kernel_rfl) hf rfl (fun _ => ev_fieldB hf rfl fd_30_0 (m := 0) rfl) ?_; intro a hf
    refine s_e 6 rfl (by kernel_rfl) (by kernel_rfl) hf rfl (ev_load1 hf rfl t1_3 (hB6.at 0)) ?_; intro a hf
    have hr34 := (hr_c.top).takeK encG_len r.pos.toNat
    refine s_e0 7 rfl (by kernel_rfl) hf rfl (fun _ => ev_takeL (l := c.gs) (k := r.pos.toNat) hf rfl rfl sl_28 sz_107 he.1 (by omega) hp_c) ?_; intro a hf
    refine s_two 2 10 (by kernel_rfl) ?_ ?_
    ·refine p_eff rfl hf trivial rfl rfl (Ef.mono (ef_buildSlice (k := 0) (vs := []) (zs := []) hf rfl sl_28 inf_107 rfl rfl) (fun _ _ h => ⟨fun _ => by obtain ⟨_, _, _, hE, _⟩ := h; exact hE, h⟩)) ?_; rintro a _ w13 ⟨b35, rfl, hl35, hE, hB35⟩ hf
     have hlo35 := Nat.le_trans hW.size hl35
     have hlc35 := Nat.le_trans hEc.size hl35
     have haw1_35 := hr_c.away hl35
     have haw2_35 := hr_r.away hl35
     have haw3_35 := hs_r.away hl35
     have haw34_35 := hr34.away hl35
     replace hB5 := hB5.below hE
     replace hB6 := hB6.below hE
     replace hB8 := hB8.below hE
     replace hr_c := hr_c.below hE
     replace hr_r := hr_r.below hE
     replace hs_r := hs_r.below hE
     replace hr34 := hr34.below hE
     replace hW := btr hW hE
     replace hEc := btr hEc hE
     clear hE
     refine s_two 8 10 (by kernel_rfl) ?_ ?_
     ·refine p_eff rfl hf trivial rfl rfl (Ef.mono (ef_append0 (enc := encG) (l2 := ((c.gs.take r.pos.toNat))) hf rfl rfl sl_28 inf_107 encG_len encG_one hB35 hr34 (by simp only [maxLen]; simp; omega) (by simp; omega)) (fun _ _ h => ⟨fun _ => by obtain ⟨A37, c37, rfl, ho37, hE⟩ := h; exact hE, h⟩)) ?_; rintro a _ w14 ⟨A37, c37, rfl, ho37, hE⟩ hf
      replace ho37 := ho37.lower hlo35
      replace hB5 := hB5.below hE
      replace hB6 := hB6.below hE
      replace hB8 := hB8.below hE
      replace hr_c := hr_c.below hE
      replace hr_r := hr_r.below hE
      replace hs_r := hs_r.below hE
      replace hr34 := hr34.below hE
      replace hW := btr hW hE
      replace hEc := btr hEc hE
      clear hE
      refine s_e0 9 rfl (by kernel_rfl) hf rfl (fun _ => ev_build (ps := [(0, .int .i64 c.n), (1, .slice A37 (c.gs.take r.pos.toNat).length c37)]) (cs := [.int .i64 c.n, .slice A37 (c.gs.take r.pos.toNat).length c37]) hf rfl (fun _ => by first | rfl | kernel_rfl)) ?_; intro a hf
      refine s_one 10 (by kernel_rfl) ?_
      refine p_eff rfl hf trivial rfl rfl (Ef.mono (ef_alloc (zs := [.int .i64 0, .slice none 0 0]) z_41 rfl) (fun _ _ h => ⟨fun _ => by obtain ⟨_, _, _, hE, _⟩ := h; exact hE, h⟩)) ?_; rintro a _ w15 ⟨b40, rfl, hl40, hE, hB40⟩ hf
      have hne5_40 : b5 ≠ b40 := by have := hB5.lt; omega
      have hne8_40 : b8 ≠ b40 := by have := hB8.lt; omega
      have hlo40 := Nat.le_trans hW.size hl40
      have hlc40 := Nat.le_trans hEc.size hl40
      replace hB5 := hB5.below hE
      replace hB6 := hB6.below hE
      replace hB8 := hB8.below hE
      replace hr_c := hr_c.below hE
      replace hr_r := hr_r.below hE
      replace hs_r := hs_r.below hE
      replace hr34 := hr34.below hE
      replace ho37 := ho37.below hE
      replace hW := btr hW hE
      replace hEc := btr hEc hE
      clear hE
      refine s_one 11 (by kernel_rfl) ?_
      refine p_eff0 rfl hf trivial rfl (Ef.mono (ef_store (vs := [.int .i64 c.n, .slice A37 (c.gs.take r.pos.toNat).length c37]) (l' := [.int .i64 c.n, .slice A37 (c.gs.take r.pos.toNat).length c37]) hf rfl rfl sz_41 hB40 rfl rfl rfl rfl rfl) (fun _ _ h => ⟨fun h0 => absurd h0 (by decide), h⟩)) ?_; rintro a _ w16 ⟨ho, hb⟩ hf
      have hold := hB40
      replace hB5 := hB5.only ho (by omega)
      replace hB6 := hB6.only ho (Blk.ne hB6 hold rfl)
      replace hB8 := hB8.only ho (by omega)
      replace hr_c := hr_c.onlyT ho hold rfl
      replace hr_r := hr_r.onlyT ho hold rfl
      replace hs_r := hs_r.onlyT ho hold rfl
      replace hr34 := hr34.onlyT ho hold rfl
      replace ho37 := ho37.onlyT ho hold rfl
      replace hEc := Below.only hEc ho hlc40
      replace hW := Below.only hW ho hlo40
      clear hold
      have hB40 := hb
      clear hb ho
      refine s_done (by kernel_rfl) ?_
      have hEE : Below w7.heap.size w7 w16 := hEc
      exact ⟨b40, A37, c37, hf.sub ⟨rfl, rfl, rfl, rfl, trivial⟩, hlo40, hB40, hne5_40, hne8_40, ho37, hEE⟩
     ·refine p_eff rfl hf trivial rfl rfl (Ef.mono (ef_alloc (zs := [.int .i64 0, .slice none 0 0]) z_41 rfl) (fun _ _ h => ⟨fun _ => by obtain ⟨_, _, _, hE, _⟩ := h; exact hE, h⟩)) ?_; rintro a _ w17 ⟨b42, rfl, hl42, hE, hB42⟩ hf
      have hne5_42 : b5 ≠ b42 := by have := hB5.lt; omega
      have hne8_42 : b8 ≠ b42 := by have := hB8.lt; omega
      have hlo42 := Nat.le_trans hW.size hl42
      have hlc42 := Nat.le_trans hEc.size hl42
      replace hB5 := hB5.below hE
      replace hB6 := hB6.below hE
      replace hB8 := hB8.below hE
      replace hB35 := hB35.below hE
      replace hr_c := hr_c.below hE
      replace hr_r := hr_r.below hE
      replace hs_r := hs_r.below hE
      replace hr34 := hr34.below hE
      replace hW := btr hW hE
      replace hEc := btr hEc hE
      clear hE
      refine s_one 8 (by kernel_rfl) ?_
      refine p_eff rfl hf trivial rfl rfl (Ef.mono (ef_append0 (enc := encG) (l2 := ((c.gs.take r.pos.toNat))) hf rfl rfl sl_28 inf_107 encG_len encG_one hB35 hr34 (by simp only [maxLen]; simp; omega) (by simp; omega)) (fun _ _ h => ⟨fun _ => by obtain ⟨A43, c43, rfl, ho43, hE⟩ := h; exact hE, h⟩)) ?_; rintro a _ w18 ⟨A43, c43, rfl, ho43, hE⟩ hf
      replace ho43 := ho43.lower hlo35
      replace hB5 := hB5.below hE
      replace hB6 := hB6.below hE
      replace hB8 := hB8.below hE
      replace hB42 := hB42.below hE
      replace hr_c := hr_c.below hE
      replace hr_r := hr_r.below hE
      replace hs_r := hs_r.below hE
      replace hr34 := hr34.below hE
      replace hW := btr hW hE
      replace hEc := btr hEc hE
      clear hE
      refine s_e0 9 rfl (by kernel_rfl) hf rfl (fun _ => ev_build (ps := [(0, .int .i64 c.n), (1, .slice A43 (c.gs.take r.pos.toNat).length c43)]) (cs := [.int .i64 c.n, .slice A43 (c.gs.take r.pos.toNat).length c43]) hf rfl (fun _ => by first | rfl | kernel_rfl)) ?_; intro a hf
      refine s_one 11 (by kernel_rfl) ?_
      refine p_eff0 rfl hf trivial rfl (Ef.mono (ef_store (vs := [.int .i64 c.n, .slice A43 (c.gs.take r.pos.toNat).length c43]) (l' := [.int .i64 c.n, .slice A43 (c.gs.take r.pos.toNat).length c43]) hf rfl rfl sz_41 hB42 rfl rfl rfl rfl rfl) (fun _ _ h => ⟨fun h0 => absurd h0 (by decide), h⟩)) ?_; rintro a _ w19 ⟨ho, hb⟩ hf
      have hold := hB42
      replace hB5 := hB5.only ho (by omega)
      replace hB6 := hB6.only ho (Blk.ne hB6 hold rfl)
      replace hB8 := hB8.only ho (by omega)
      replace hr_c := hr_c.onlyT ho hold rfl
      replace hr_r := hr_r.onlyT ho hold rfl
      replace hs_r := hs_r.onlyT ho hold rfl
      replace hr34 := hr34.onlyT ho hold rfl
      replace ho43 := ho43.onlyT ho hold rfl
      replace hEc := Below.only hEc ho hlc42
      replace hW := Below.only hW ho hlo42
      clear hold
      have hB42 := hb
      clear hb ho
      refine s_done (by kernel_rfl) ?_
      have hEE : Below w7.heap.size w7 w19 := hEc
      exact ⟨b42, A43, c43, hf.sub ⟨rfl, rfl, rfl, (by first | rfl | (simp [look, hc13b, hc20b])), trivial⟩, hlo42, hB42, hne5_42, hne8_42, ho43, hEE⟩
    ·refine p_eff rfl hf trivial rfl rfl (Ef.mono (ef_alloc (zs := [.int .i64 0, .slice none 0 0]) z_41 rfl) (fun _ _ h => ⟨fun _ => by obtain ⟨_, _, _, hE, _⟩ := h; exact hE, h⟩)) ?_; rintro a _ w20 ⟨b46, rfl, hl46, hE, hB46⟩ hf
     have hne5_46 : b5 ≠ b46 := by have := hB5.lt; omega
     have hne8_46 : b8 ≠ b46 := by have := hB8.lt; omega
     have hlo46 := Nat.le_trans hW.size hl46
     have hlc46 := Nat.le_trans hEc.size hl46
     replace hB5 := hB5.below hE
     replace hB6 := hB6.below hE
     replace hB8 := hB8.below hE
     replace hr_c := hr_c.below hE
     replace hr_r := hr_r.below hE
     replace hs_r := hs_r.below hE
     replace hr34 := hr34.below hE
     replace hW := btr hW hE
     replace hEc := btr hEc hE
     clear hE
     refine s_one 2 (by kernel_rfl) ?_
     refine p_eff rfl hf trivial rfl rfl (Ef.mono (ef_buildSlice (k := 0) (vs := []) (zs := []) hf rfl sl_28 inf_107 rfl rfl) (fun _ _ h => ⟨fun _ => by obtain ⟨_, _, _, hE, _⟩ := h; exact hE, h⟩)) ?_; rintro a _ w21 ⟨b47, rfl, hl47, hE, hB47⟩ hf
     have hlo47 := Nat.le_trans hW.size hl47
     have hlc47 := Nat.le_trans hEc.size hl47
     have haw1_47 := hr_c.away hl47
     have haw2_47 := hr_r.away hl47
     have haw3_47 := hs_r.away hl47
     have haw34_47 := hr34.away hl47
     replace hB5 := hB5.below hE
     replace hB6 := hB6.below hE
     replace hB8 := hB8.below hE
     replace hB46 := hB46.below hE
     replace hr_c := hr_c.below hE
     replace hr_r := hr_r.below hE
     replace hs_r := hs_r.below hE
     replace hr34 := hr34.below hE
     replace hW := btr hW hE
     replace hEc := btr hEc hE
     clear hE
     refine s_one 8 (by kernel_rfl) ?_
     refine p_eff rfl hf trivial rfl rfl (Ef.mono (ef_append0 (enc := encG) (l2 := ((c.gs.take r.pos.toNat))) hf rfl rfl sl_28 inf_107 encG_len encG_one hB47 hr34 (by simp only [maxLen]; simp; omega) (by simp; omega)) (fun _ _ h => ⟨fun _ => by obtain ⟨A49, c49, rfl, ho49, hE⟩ := h; exact hE, h⟩)) ?_; rintro a _ w22 ⟨A49, c49, rfl, ho49, hE⟩ hf
     replace ho49 := ho49.lower hlo47
     replace hB5 := hB5.below hE
     replace hB6 := hB6.below hE
     replace hB8 := hB8.below hE
     replace hB46 := hB46.below hE
     replace hr_c := hr_c.below hE
     replace hr_r := hr_r.below hE
     replace hs_r := hs_r.below hE
     replace hr34 := hr34.below hE
     replace hW := btr hW hE
     replace hEc := btr hEc hE
     clear hE
     refine s_e0 9 rfl (by kernel_rfl) hf rfl (fun _ => ev_build (ps := [(0, .int .i64 c.n), (1, .slice A49 (c.gs.take r.pos.toNat).length c49)]) (cs := [.int .i64 c.n, .slice A49 (c.gs.take r.pos.toNat).length c49]) hf rfl (fun _ => by first | rfl | kernel_rfl)) ?_; intro a hf
     refine s_one 11 (by kernel_rfl) ?_
     refine p_eff0 rfl hf trivial rfl (Ef.mono (ef_store (vs := [.int .i64 c.n, .slice A49 (c.gs.take r.pos.toNat).length c49]) (l' := [.int .i64 c.n, .slice A49 (c.gs.take r.pos.toNat).length c49]) hf rfl rfl sz_41 hB46 rfl rfl rfl rfl rfl) (fun _ _ h => ⟨fun h0 => absurd h0 (by decide), h⟩)) ?_; rintro a _ w23 ⟨ho, hb⟩ hf
     have hold := hB46
     replace hB5 := hB5.only ho (by omega)
     replace hB6 := hB6.only ho (Blk.ne hB6 hold rfl)
     replace hB8 := hB8.only ho (by omega)
     replace hr_c := hr_c.onlyT ho hold rfl
     replace hr_r := hr_r.onlyT ho hold rfl
     replace hs_r := hs_r.onlyT ho hold rfl
     replace hr34 := hr34.onlyT ho hold rfl
     replace ho49 := ho49.onlyT ho hold rfl
     replace hEc := Below.only hEc ho hlc46
     replace hW := Below.only hW ho hlo46
     clear hold
     have hB46 := hb
     clear hb ho
     refine s_done (by kernel_rfl) ?_
     have hEE : Below w7.heap.size w7 w23 := hEc
     exact ⟨b46, A49, c49, hf.sub ⟨rfl, rfl, rfl, (by first | rfl | (simp [look, hc13b, hc20b])), trivial⟩, hlo46, hB46, hne5_46, hne8_46, ho49, hEE⟩
   rintro a w24 ⟨b40, A37, c37, hf, hlo40, hB40, hne5_40, hne8_40, ho37, hE⟩
   replace hB5 := hB5.below hE
   replace hB6 := hB6.below hE
   replace hB8 := hB8.below hE
   replace hr_c := hr_c.below hE
   replace hr_r := hr_r.below hE
   replace hs_r := hs_r.below hE
   replace hW := btr hW hE
   clear hE
   refine hK33 _ _ ?_; try clear hK33 K33
   refine wp_seq_k ?_; intro K51 hK51
   refine wp_region_lit ?_
   refine l_e hf rfl (ev_fieldB hf rfl fd_41_1 (m := 1) rfl) ?_; intro a hf
   refine l_e hf rfl (ev_load1 hf rfl t1_28 (hB40.at 1)) ?_; intro a hf
   refine l_e hf rfl (ev_fieldB hf rfl fd_30_2 (m := 2) rfl) ?_; intro a hf
   refine l_e hf rfl (ev_load1 hf rfl t1_28 (hB6.at 2)) ?_; intro a hf
   refine l_f hf rfl (ef_append (enc := encG) (l := ((c.gs.take r.pos.toNat))) (l2 := (r.new)) (B0 := w0.heap.size) hf rfl rfl sl_28 inf_107 encG_len encG_one ho37 hs_r (by simp only [maxLen]; simp; omega) (by simp; omega) hW.size) ?_; rintro a _ w25 ⟨A52, c52, rfl, ho52, hg, hat⟩ hf
   have hown : Own _ w0.heap.size 107 3 encG _ _ ((c.gs.take r.pos.toNat)) := ho37
   clear hat
   replace hB5 := hB5.appT hown hg rfl
   replace hB6 := hB6.appT hown hg rfl
   replace hB8 := hB8.appT hown hg rfl
   replace hB40 := hB40.appT hown hg rfl
   replace hr_c := hr_c.appB hown hg (Nat.le_refl _)
   replace hr_r := hr_r.appB hown hg (Nat.le_refl _)
   replace hs_r := hs_r.appB hown hg (Nat.le_refl _)
   replace hW := Below.app hW hown hg (Nat.le_refl _) hW.size
   clear hown hg
   refine l_e hf rfl (ev_fieldB hf rfl fd_41_1 (m := 1) rfl) ?_; intro a hf
   refine l_f0 hf (ef_store (vs := [.slice A52 ((c.gs.take r.pos.toNat) ++ r.new).length c52]) (l' := [.int .i64 c.n, .slice A52 ((c.gs.take r.pos.toNat) ++ r.new).length c52]) hf rfl rfl sz_28 hB40 rfl rfl rfl rfl rfl) ?_; rintro a _ w26 ⟨ho, hb⟩ hf
   have hold := hB40
   replace hB5 := hB5.only ho (by omega)
   replace hB6 := hB6.only ho (Blk.ne hB6 hold rfl)
   replace hB8 := hB8.only ho (by omega)
   replace hr_c := hr_c.onlyT ho hold rfl
   replace hr_r := hr_r.onlyT ho hold rfl
   replace hs_r := hs_r.onlyT ho hold rfl
   replace ho52 := ho52.onlyT ho hold rfl
   replace hW := Below.only hW ho hlo40
   clear hold
   have hB40 := hb
   clear hb ho
   refine wpList_nil ?_
   refine hK51 _ _ ?_; try clear hK51 K51
   refine wp_seq_k ?_; intro K53 hK53
   refine wp_draw none (fun j => [11, 13].contains j) mixed ?_
   intro w27 hE
   replace hB5 := hB5.below hE
   replace hB6 := hB6.below hE
   replace hB8 := hB8.below hE
   replace hB40 := hB40.below hE
   replace hr_c := hr_c.below hE
   replace hr_r := hr_r.below hE
   replace hs_r := hs_r.below hE
   replace ho52 := ho52.below hE
   replace hW := btr hW hE
   clear hE
   refine s_e0 0 rfl (by kernel_rfl) hf rfl (fun _ => ev_fieldB hf rfl fd_41_1 (m := 1) rfl) ?_; intro a hf
   refine s_e 1 rfl (by kernel_rfl) (by kernel_rfl) hf rfl (ev_load1 hf rfl t1_28 (hB40.at 1)) ?_; intro a hf
   refine s_e0 2 rfl (by kernel_rfl) hf rfl (fun _ => ev_fieldB hf rfl fd_41_1 (m := 1) rfl) ?_; intro a hf
   refine s_e 3 rfl (by kernel_rfl) (by kernel_rfl) hf rfl (ev_load1 hf rfl t1_28 (hB5.at 1)) ?_; intro a hf
   refine s_e0 4 rfl (by kernel_rfl) hf rfl (fun _ => ev_fieldB hf rfl fd_30_0 (m := 0) rfl) ?_; intro a hf
   refine s_e 5 rfl (by kernel_rfl) (by kernel_rfl) hf rfl (ev_load1 hf rfl t1_3 (hB6.at 0)) ?_; intro a hf
   refine s_e0 6 rfl (by kernel_rfl) hf rfl (fun _ => ev_fieldB hf rfl fd_30_1 (m := 1) rfl) ?_; intro a hf
   refine s_e 7 rfl (by kernel_rfl) (by kernel_rfl) hf rfl (ev_load1 hf rfl t1_28 (hB6.at 1)) ?_; intro a hf
   refine s_e0 8 rfl (by kernel_rfl) hf rfl (fun _ => ev_len hf rfl sl_28) ?_; intro a hf
   refine s_e0 9 rfl (by kernel_rfl) hf rfl (fun _ => ev_addx hf rfl rfl (by omega) (by omega)) ?_; intro a hf
   have hr54 := (hr_c.top).dropK encG_len (c := cc) hp_c (r.pos.toNat + r.old.length)
   refine s_e0 10 rfl (by kernel_rfl) hf rfl (fun _ => ev_dropL (l := c.gs) (k := (r.pos.toNat + r.old.length)) hf rfl rfl sl_28 sz_107 (by omega) (by omega)) ?_; intro a hf
   refine s_one 11 (by kernel_rfl) ?_
   refine p_eff rfl hf trivial rfl rfl (Ef.mono (ef_append (enc := encG) (l := ((c.gs.take r.pos.toNat) ++ r.new)) (l2 := ((c.gs.drop (r.pos.toNat + r.old.length)))) (B0 := w0.heap.size) hf rfl rfl sl_28 inf_107 encG_len encG_one ho52 hr54 (by simp only [maxLen]; simp; omega) (by simp; omega) hW.size) (fun _ _ h => ⟨fun h0 => absurd h0 (by decide), h⟩)) ?_; rintro a _ w28 ⟨A55, c55, rfl, ho55, hg, hat⟩ hf
   have hown : Own _ w0.heap.size 107 3 encG _ _ ((c.gs.take r.pos.toNat) ++ r.new) := ho52
   clear hat
   replace hB5 := hB5.appT hown hg rfl
   replace hB6 := hB6.appT hown hg rfl
   replace hB8 := hB8.appT hown hg rfl
   replace hB40 := hB40.appT hown hg rfl
   replace hr_c := hr_c.appB hown hg (Nat.le_refl _)
   replace hr_r := hr_r.appB hown hg (Nat.le_refl _)
   replace hs_r := hs_r.appB hown hg (Nat.le_refl _)
   replace hW := Below.app hW hown hg (Nat.le_refl _) hW.size
   clear hown hg
   refine s_e0 12 rfl (by kernel_rfl) hf rfl (fun _ => ev_fieldB hf rfl fd_41_1 (m := 1) rfl) ?_; intro a hf
   refine s_one 13 (by kernel_rfl) ?_
   refine p_eff0 rfl hf trivial rfl (Ef.mono (ef_store (vs := [.slice A55 (((c.gs.take r.pos.toNat) ++ r.new) ++ (c.gs.drop (r.pos.toNat + r.old.length))).length c55]) (l' := [.int .i64 c.n, .slice A55 (((c.gs.take r.pos.toNat) ++ r.new) ++ (c.gs.drop (r.pos.toNat + r.old.length))).length c55]) hf rfl rfl sz_28 hB40 rfl rfl rfl rfl rfl) (fun _ _ h => ⟨fun h0 => absurd h0 (by decide), h⟩)) ?_; rintro a _ w29 ⟨ho, hb⟩ hf
   have hold := hB40
   replace hB5 := hB5.only ho (by omega)
   replace hB6 := hB6.only ho (Blk.ne hB6 hold rfl)
   replace hB8 := hB8.only ho (by omega)
   replace hr_c := hr_c.onlyT ho hold rfl
   replace hr_r := hr_r.onlyT ho hold rfl
   replace hs_r := hs_r.onlyT ho hold rfl
   replace ho55 := ho55.onlyT ho hold rfl
   replace hW := Below.only hW ho hlo40
   clear hold
   have hB40 := hb
   clear hb ho
   refine s_done (by kernel_rfl) ?_
   refine hK53 _ _ ?_; try clear hK53 K53
   refine wp_seq_k ?_; intro K56 hK56
   refine wp_region_lit ?_
   refine l_e hf rfl (ev_loadN (l := [.int .i64 c.n, .slice A55 (((c.gs.take r.pos.toNat) ++ r.new) ++ (c.gs.drop (r.pos.toNat + r.old.length))).length c55]) hf rfl tN_41 (hB40.at 0) rfl) ?_; intro a hf
   refine l_f0 hf (ef_store (vs := [.int .i64 c.n, .slice A55 (((c.gs.take r.pos.toNat) ++ r.new) ++ (c.gs.drop (r.pos.toNat + r.old.length))).length c55]) (l' := [.int .i64 c.n, .slice A55 (((c.gs.take r.pos.toNat) ++ r.new) ++ (c.gs.drop (r.pos.toNat + r.old.length))).length c55]) hf rfl rfl sz_41 hB8 rfl rfl rfl rfl rfl) ?_; rintro a _ w30 ⟨ho, hb⟩ hf
   have hold := hB8
   replace hB5 := hB5.only ho (by omega)
   replace hB6 := hB6.only ho (Blk.ne hB6 hold rfl)
   replace hB40 := hB40.only ho (by omega)
   replace hr_c := hr_c.onlyT ho hold rfl
   replace hr_r := hr_r.onlyT ho hold rfl
   replace hs_r := hs_r.onlyT ho hold rfl
   replace ho55 := ho55.onlyT ho hold rfl
   replace hW := Below.only hW ho hlo8
   clear hold
   have hB8 := hb
   clear hb ho
   refine l_as hf rfl rfl ?_; intro a hf
   refine wpList_nil ?_
   refine hK56 _ _ ?_; try clear hK56 K56
   refine wp_ret ?_
   refine c_ret hf (res2 hf rfl (ResV.cellN (l := [.int .i64 c.n, .slice A55 (((c.gs.take r.pos.toNat) ++ r.new) ++ (c.gs.drop (r.pos.toNat + r.old.length))).length c55]) rfl tN_41 (hB8.at 0) rfl) rfl) ?_
   rw [hfin]
   exact ⟨A55, c55, rfl, ho55, hW⟩
end Go.Proofs.YtfgnmflfiobkmaaGreat
set_option maxRecDepth 4000
namespace Go.Proofs.YtfgnmflfiobkmaaGreat
open Go.RowKit
theorem F27 (w0 : World) (c : Cx) (Ac : Option Addr) (cc : Nat) (hr_c : Rd w0 w0.heap.size 107 encG Ac c.gs) (hp_c : c.gs.length ≤ cc) (Al : Option Addr) (cl : Nat) (l : List Sr) (hr_l : Rd w0 w0.heap.size 30 encSr Al l) (hd_l : DeepR w0 w0.heap.size 107 l) (d : Cx) (Ad : Option Addr) (cd : Nat) (hr_d : Rd w0 w0.heap.size 107 encG Ad d.gs) (hlc : c.gs.length ≤ 1048576) (hls : l.length ≤ 1048576) (hll : ∀ s ∈ l, s.old.length ≤ 1048576 ∧ s.new.length ≤ 1048576) (hld : d.gs.length ≤ 1048576) : Ret Tryz.prog 27 [.agg #[.int .i64 c.n, .slice Ac c.gs.length cc, .slice Al l.length cl, .int .i64 d.n, .slice Ad d.gs.length cd]] w0 (fun v w => v = .tuple #[.int .i64 ((checkS c d (l.map Sr.rp)).1), .bool ((checkS c d (l.map Sr.rp)).2)] ∧ Below w0.heap.size w0 w) := by
 refine enter Tryz.func27 rfl 65 rfl rfl ?_
 intro a hf
 have hW : Below w0.heap.size w0 w0 := Below.refl _ _
 refine wp_seq_k ?_; intro K4 hK4
 refine wp_region_lit ?_
 refine l_f hf rfl (ef_box (zs := [.int .i64 c.n, .slice Ac c.gs.length cc, .slice Al l.length cl, .int .i64 d.n, .slice Ad d.gs.length cd]) hf rfl rfl) ?_; rintro a _ w1 ⟨b5, rfl, hl5, hE, hB5⟩ hf
 have hlo5 := Nat.le_trans hW.size hl5
 replace hr_c := hr_c.below hE
 replace hr_l := hr_l.below hE
 replace hr_d := hr_d.below hE
 replace hd_l := hd_l.below hE
 replace hW := btr hW hE
 clear hE
 refine l_as hf rfl rfl ?_; intro a hf
 refine l_as hf rfl rfl ?_; intro a hf
 refine wpList_nil ?_
 refine hK4 _ _ ?_; try clear hK4 K4
 refine wp_seq_k ?_; intro K6 hK6
 refine wp_seq_k ?_; intro K7 hK7
 refine c_cut (fun a w => Fr a 65 [(1, .pointer (some ⟨b5, 0, none⟩)), (20, .bool ((!(cOk c)) || (decide (400 < (l.length : Int)))))] ∧ Below w1.heap.size w1 w) ?_ ?_
 ·have hEc : Below w1.heap.size w1 w1 := Below.refl _ _
  refine wp_region_lit ?_
  refine l_e hf rfl (ev_fieldB hf rfl fd_60_0 (m := 0) rfl) ?_; intro a hf
  refine l_e hf rfl (ev_loadN (l := [.int .i64 c.n, .slice Ac c.gs.length cc]) hf rfl tN_41 ((hB5.at 0).take 2) rfl) ?_; intro a hf
  refine l_f hf rfl (ef_call (vs := [.agg #[.int .i64 c.n, .slice Ac c.gs.length cc]]) hf rfl ff_53 (F53 _ c Ac cc hr_c.top)) ?_; rintro a _ w2 ⟨rfl, hE⟩ hf
  replace hB5 := hB5.below hE
  replace hr_c := hr_c.below hE
  replace hr_l := hr_l.below hE
  replace hr_d := hr_d.below hE
  replace hd_l := hd_l.below hE
  replace hW := btr hW hE
  replace hEc := btr hEc hE
  clear hE
  refine l_e hf rfl (ev_not hf rfl) ?_; intro a hf
  refine l_mv hf rfl rfl ?_; intro a hf
  refine g_split hf (t := 15) rfl (fun hg8 => ?_) (fun hg8 => ?_)
  ·refine l_pass hf ⟨_, _, rfl, rfl, hg8⟩ rfl rfl ?_; intro a hf
   refine l_pass hf ⟨_, _, rfl, rfl, hg8⟩ rfl rfl ?_; intro a hf
   refine l_pass hf ⟨_, _, rfl, rfl, hg8⟩ rfl rfl ?_; intro a hf
   refine l_pass hf ⟨_, _, rfl, rfl, hg8⟩ rfl rfl ?_; intro a hf
   refine l_e hf rfl (ev_pickT hf rfl hg8 rfl) ?_; intro a hf
   refine wpList_nil ?_
   have hEE : Below w1.heap.size w1 w2 := hEc
   exact ⟨hf.sub ⟨rfl, look_bool rfl (by first | rfl | (simp only [hg8, Bool.true_and, Bool.false_and, Bool.true_or, Bool.false_or]; done) | simp [hg8]), trivial⟩, hEE⟩
  ·refine l_ev hf ⟨_, _, rfl, rfl, hg8⟩ rfl rfl (ev_fieldB hf rfl fd_60_1 (m := 2) rfl) ?_; intro a hf
   refine l_ev hf ⟨_, _, rfl, rfl, hg8⟩ rfl rfl (ev_load1 hf rfl t1_58 (hB5.at 2)) ?_; intro a hf
   refine l_ev hf ⟨_, _, rfl, rfl, hg8⟩ rfl rfl (ev_len hf rfl sl_58) ?_; intro a hf
   refine l_ev hf ⟨_, _, rfl, rfl, hg8⟩ rfl rfl (ev_gtr hf rfl rfl) ?_; intro a hf
   refine l_e hf rfl (ev_pickF hf rfl hg8 rfl) ?_; intro a hf
   refine wpList_nil ?_
   have hEE : Below w1.heap.size w1 w2 := hEc
   exact ⟨hf.sub ⟨rfl, look_bool rfl (by first | rfl | (simp only [hg8, Bool.true_and, Bool.false_and, Bool.true_or, Bool.false_or]; done) | simp [hg8]), trivial⟩, hEE⟩
 rintro a w3 ⟨hf, hE⟩
 replace hB5 := hB5.below hE
 replace hr_c := hr_c.below hE
 replace hr_l := hr_l.below hE
 replace hr_d := hr_d.below hE
 replace hd_l := hd_l.below hE
 replace hW := btr hW hE
 clear hE
 refine hK7 _ _ ?_; try clear hK7 K7
 refine c_if hf rfl (fun hc9 => ?_) (fun hc9 => ?_)
 ·have hc9b := hc9
  have hn : checkS c d (l.map Sr.rp) = (0, false) := by unfold checkS; rw [if_neg]; revert hc9; rw [List.length_map]; cases cOk c <;> simp
  refine wp_seq_k ?_; intro K10 hK10
  refine wp_region_lit ?_
  refine l_as hf rfl rfl ?_; intro a hf
  refine l_as hf rfl rfl ?_; intro a hf
  refine wpList_nil ?_
  refine hK10 _ _ ?_; try clear hK10 K10
  refine wp_ret ?_
  refine x_retS ?_
  refine c_ret hf (res2 hf rfl rfl rfl) ?_
  exact ⟨by rw [hn], hW⟩
 ·have hc9b := hc9
  obtain ⟨hc, hl4⟩ : cOk c = true ∧ (l.length : Int) ≤ 400 := by revert hc9; cases cOk c <;> simp
  have hy : checkS c d (l.map Sr.rp) = (checkLS 0 c d (l.map Sr.rp), true) := by unfold checkS; rw [if_pos]; rw [List.length_map, hc, decide_eq_true hl4]; rfl
  refine wp_skip ?_
  refine hK6 _ _ ?_; try clear hK6 K6
  refine wp_seq_k ?_; intro K11 hK11
  refine wp_region_lit ?_
  refine l_e hf rfl (ev_fieldB hf rfl fd_60_0 (m := 0) rfl) ?_; intro a hf
  refine l_e hf rfl (ev_loadN (l := [.int .i64 c.n, .slice Ac c.gs.length cc]) hf rfl tN_41 ((hB5.at 0).take 2) rfl) ?_; intro a hf
  refine l_f hf rfl (ef_alloc (zs := [.int .i64 0, .slice none 0 0]) z_41 rfl) ?_; rintro a _ w4 ⟨b13, rfl, hl13, hE, hB13⟩ hf
  have hlo13 := Nat.le_trans hW.size hl13
  replace hB5 := hB5.below hE
  replace hr_c := hr_c.below hE
  replace hr_l := hr_l.below hE
  replace hr_d := hr_d.below hE
  replace hd_l := hd_l.below hE
  replace hW := btr hW hE
  clear hE
  refine l_f0 hf (ef_store (vs := [.int .i64 c.n, .slice Ac c.gs.length cc]) (l' := [.int .i64 c.n, .slice Ac c.gs.length cc]) hf rfl rfl sz_41 hB13 rfl rfl rfl rfl rfl) ?_; rintro a _ w5 ⟨ho, hb⟩ hf
  have hold := hB13
  replace hB5 := hB5.only ho (Blk.ne hB5 hold rfl)
  replace hr_c := hr_c.onlyT ho hold rfl
  replace hr_l := hr_l.onlyT ho hold rfl
  replace hr_d := hr_d.onlyT ho hold rfl
  replace hd_l := hd_l.only ho hlo13
  replace hW := Below.only hW ho hlo13
  clear hold
  have hB13 := hb
  clear hb ho
  refine wpList_nil ?_
  refine hK11 _ _ ?_; try clear hK11 K11
  refine wp_seq_k ?_; intro K14 hK14
  refine wp_seq_k ?_; intro K15 hK15
  refine wp_region_lit ?_
  refine l_e hf rfl (ev_fieldB hf rfl fd_60_1 (m := 2) rfl) ?_; intro a hf
  refine l_e hf rfl (ev_load1 hf rfl t1_58 (hB5.at 2)) ?_; intro a hf
  refine l_e hf rfl (ev_len hf rfl sl_58) ?_; intro a hf
  refine l_mv hf rfl rfl ?_; intro a hf
  refine wpList_nil ?_
  refine hK15 _ _ ?_; try clear hK15 K15
  refine wp_block ?_
  refine c_loop (σ := Nat × Cx) (fun (s : Nat × Cx) (a : Act) (w : World) => match s with | (k, x) => ∃ A16 c16, Fr a 65 [(1, .pointer (some ⟨b5, 0, none⟩)), (4, .pointer (some ⟨b13, 0, none⟩)), (24, .slice Al l.length cl), (25, .int .i64 (l.length : Int)), (26, .int .i64 (k : Int))] ∧ (k ≤ l.length) ∧ (cOk x = true) ∧ (checkLS k x d ((l.map Sr.rp).drop k) = checkLS 0 c d (l.map Sr.rp)) ∧ Blk w b5 60 [.int .i64 c.n, .slice Ac c.gs.length cc, .slice Al l.length cl, .int .i64 d.n, .slice Ad d.gs.length cd] ∧ Blk w b13 41 [.int .i64 x.n, .slice A16 x.gs.length c16] ∧ Rd w w0.heap.size 107 encG Ac c.gs ∧ Rd w w0.heap.size 30 encSr Al l ∧ Rd w w0.heap.size 107 encG Ad d.gs ∧ Rd w w.heap.size 107 encG A16 x.gs ∧ c.gs.length ≤ cc ∧ DeepR w w0.heap.size 107 l ∧ x.gs.length ≤ c16 ∧ Below w0.heap.size w0 w) (fun (s : Nat × Cx) => match s with | (k, x) => l.length - k) (0, c) ?_ ?_
  · exact ⟨Ac, cc, hf.sub ⟨rfl, rfl, rfl, rfl, rfl, trivial⟩, (Nat.zero_le _), hc, rfl, hB5, hB13, hr_c, hr_l, hr_d, hr_c.top, hp_c, hd_l, hp_c, hW⟩
  rintro ⟨k, x⟩ a w6 ⟨A16, c16, hf, hk, hx, hinv, hB5, hB13, hr_c, hr_l, hr_d, hr16, hp_c, hd_l, hcp16, hW⟩
  have hxl := cOk_le hx
  refine wp_seq_k ?_; intro K17 hK17
  refine wp_region_lit ?_
  refine l_e hf rfl (ev_lss hf rfl rfl) ?_; intro a hf
  refine wpList_nil ?_
  refine hK17 _ _ ?_; try clear hK17 K17
  refine wp_seq_k ?_; intro K18 hK18
  refine c_if hf rfl (fun hc19 => ?_) (fun hc19 => ?_)
  ·have hc19b := hc19
   have hc19 := of_decide_eq_true hc19
   obtain ⟨u20, hu20⟩ := getElem_ex (l := l) (k := k) (by omega)
   have hsu := hll u20 (List.mem_of_getElem? hu20)
   have hdr := rps_drop hu20
   rw [hdr] at hinv
   refine wp_skip ?_
   refine hK18 _ _ ?_; try clear hK18 K18
   refine wp_seq_k ?_; intro K21 hK21
   refine wp_block ?_
   refine wp_seq_k ?_; intro K22 hK22
   refine wp_region_lit ?_
   refine l_mv hf rfl rfl ?_; intro a hf
   refine l_index (k := k) (u := u20) (enc := encSr) (l := l) hf trivial rfl rfl rfl sl_58 sz_30 encSr_len hr_l hu20 rfl ?_; intro a p24 hat23 hf
   have hr25 := (hd_l u20 (List.mem_of_getElem? hu20)).1
   have hr26 := (hd_l u20 (List.mem_of_getElem? hu20)).2
   refine l_e hf rfl (ev_loadN (l := [.int .i64 u20.pos, .slice u20.A u20.old.length u20.c, .slice u20.B u20.new.length u20.d]) hf rfl tN_30 hat23 rfl) ?_; intro a hf
   refine l_f hf rfl (ef_alloc (zs := [.int .i64 0, .slice none 0 0, .slice none 0 0]) z_30 rfl) ?_; rintro a _ w7 ⟨b29, rfl, hl29, hE, hB29⟩ hf
   have hlo29 := Nat.le_trans hW.size hl29
   have haw2_29 := hr_l.away hl29
   replace hB5 := hB5.below hE
   replace hB13 := hB13.below hE
   replace hr_c := hr_c.below hE
   replace hr_l := hr_l.below hE
   replace hr_d := hr_d.below hE
   replace hr16 := hr16.below hE
   replace hr25 := hr25.below hE
   replace hr26 := hr26.below hE
   replace hd_l := hd_l.below hE
   replace hW := btr hW hE
   clear hE
   refine l_as hf rfl rfl ?_; intro a hf
   refine l_f0 hf (ef_store (vs := [.int .i64 u20.pos, .slice u20.A u20.old.length u20.c, .slice u20.B u20.new.length u20.d]) (l' := [.int .i64 u20.pos, .slice u20.A u20.old.length u20.c, .slice u20.B u20.new.length u20.d]) hf rfl rfl sz_30 hB29 rfl rfl rfl rfl rfl) ?_; rintro a _ w8 ⟨ho, hb⟩ hf
   have hold := hB29
   replace hB5 := hB5.only ho (Blk.ne hB5 hold rfl)
   replace hB13 := hB13.only ho (Blk.ne hB13 hold rfl)
   replace hr_c := hr_c.onlyT ho hold rfl
   replace hr_l := hr_l.only ho hlo29
   replace hr_d := hr_d.onlyT ho hold rfl
   replace hr16 := hr16.onlyT ho hold rfl
   replace hr25 := hr25.onlyT ho hold rfl
   replace hr26 := hr26.onlyT ho hold rfl
   replace hd_l := hd_l.only ho hlo29
   replace hW := Below.only hW ho hlo29
   clear hold
   have hB29 := hb
   clear hb ho
   refine wpList_nil ?_
   refine hK22 _ _ ?_; try clear hK22 K22
   refine wp_seq_k ?_; intro K30 hK30
   refine wp_region_lit ?_
   refine l_e hf rfl (ev_loadN (l := [.int .i64 x.n, .slice A16 x.gs.length c16]) hf rfl tN_41 (hB13.at 0) rfl) ?_; intro a hf
   refine l_e hf rfl (ev_loadN (l := [.int .i64 u20.pos, .slice u20.A u20.old.length u20.c, .slice u20.B u20.new.length u20.d]) hf rfl tN_30 (hB29.at 0) rfl) ?_; intro a hf
   refine l_f hf rfl (ef_call (vs := [.agg #[.int .i64 x.n, .slice A16 x.gs.length c16], .agg #[.int .i64 u20.pos, .slice u20.A u20.old.length u20.c, .slice u20.B u20.new.length u20.d]]) hf rfl ff_63 (F63 _ x A16 c16 hr16.top hcp16 u20.rp u20.A u20.c hr25.top u20.B u20.d hr26.top (by omega) (Nat.le_trans hsu.1 (by decide)) (Nat.le_trans hsu.2 (by decide)))) ?_; rintro a _ w9 ⟨A31, c31, rfl, ho31, hE⟩ hf
   replace ho31 := ho31.lower hW.size
   replace hB5 := hB5.below hE
   replace hB13 := hB13.below hE
   replace hB29 := hB29.below hE
   replace hr_c := hr_c.below hE
   replace hr_l := hr_l.below hE
   replace hr_d := hr_d.below hE
   replace hr16 := hr16.below hE
   replace hr25 := hr25.below hE
   replace hr26 := hr26.below hE
   replace hd_l := hd_l.below hE
   replace hW := btr hW hE
   clear hE
   refine l_mv hf rfl rfl ?_; intro a hf
   refine l_e hf rfl (ev_extract (vs := [.agg #[.int .i64 (((applyS x u20.rp).getD cZ).n), .slice A31 (((applyS x u20.rp).getD cZ).gs).length c31], .bool ((applyS x u20.rp).isSome)]) hf rfl rfl) ?_; intro a hf
   refine l_e hf rfl (ev_extract (vs := [.agg #[.int .i64 (((applyS x u20.rp).getD cZ).n), .slice A31 (((applyS x u20.rp).getD cZ).gs).length c31], .bool ((applyS x u20.rp).isSome)]) hf rfl rfl) ?_; intro a hf
   refine l_f hf rfl (ef_alloc (zs := [.int .i64 0, .slice none 0 0]) z_41 rfl) ?_; rintro a _ w10 ⟨b33, rfl, hl33, hE, hB33⟩ hf
   have hne13_33 : b13 ≠ b33 := by have := hB13.lt; omega
   have hlo33 := Nat.le_trans hW.size hl33
   replace hB5 := hB5.below hE
   replace hB13 := hB13.below hE
   replace hB29 := hB29.below hE
   replace hr_c := hr_c.below hE
   replace hr_l := hr_l.below hE
   replace hr_d := hr_d.below hE
   replace hr16 := hr16.below hE
   replace hr25 := hr25.below hE
   replace hr26 := hr26.below hE
   replace ho31 := ho31.below hE
   replace hd_l := hd_l.below hE
   replace hW := btr hW hE
   clear hE
   refine l_f0 hf (ef_store (vs := [.int .i64 (((applyS x u20.rp).getD cZ).n), .slice A31 (((applyS x u20.rp).getD cZ).gs).length c31]) (l' := [.int .i64 (((applyS x u20.rp).getD cZ).n), .slice A31 (((applyS x u20.rp).getD cZ).gs).length c31]) hf rfl rfl sz_41 hB33 rfl rfl rfl rfl rfl) ?_; rintro a _ w11 ⟨ho, hb⟩ hf
   have hold := hB33
   replace hB5 := hB5.only ho (Blk.ne hB5 hold rfl)
   replace hB13 := hB13.only ho (by omega)
   replace hB29 := hB29.only ho (Blk.ne hB29 hold rfl)
   replace hr_c := hr_c.onlyT ho hold rfl
   replace hr_l := hr_l.onlyT ho hold rfl
   replace hr_d := hr_d.onlyT ho hold rfl
   replace hr16 := hr16.onlyT ho hold rfl
   replace hr25 := hr25.onlyT ho hold rfl
   replace hr26 := hr26.onlyT ho hold rfl
   replace ho31 := ho31.onlyT ho hold rfl
   replace hd_l := hd_l.only ho hlo33
   replace hW := Below.only hW ho hlo33
   clear hold
   have hB33 := hb
   clear hb ho
   refine l_as hf rfl rfl ?_; intro a hf
   refine wpList_nil ?_
   refine hK30 _ _ ?_; try clear hK30 K30
   refine wp_seq_k ?_; intro K34 hK34
   refine wp_seq_k ?_; intro K35 hK35
   refine wp_region_lit ?_
   refine l_mv hf rfl rfl ?_; intro a hf
   refine l_e hf rfl (ev_not hf rfl) ?_; intro a hf
   refine wpList_nil ?_
   refine hK35 _ _ ?_; try clear hK35 K35
   refine c_if hf rfl (fun hc36 => ?_) (fun hc36 => ?_)
   ·have hc36b := hc36
    have hap : applyS x u20.rp = none := by revert hc36; cases applyS x u20.rp <;> simp
    have hfin : checkLS 0 c d (l.map Sr.rp) = (k : Int) + 1 := by rw [← hinv, checkLS, hap]; rfl
    refine wp_seq_k ?_; intro K37 hK37
    refine wp_region_lit ?_
    refine l_mv hf rfl rfl ?_; intro a hf
    refine l_e hf rfl (ev_addx hf rfl rfl (by omega) (by omega)) ?_; intro a hf
    refine l_as hf rfl rfl ?_; intro a hf
    refine l_as hf rfl rfl ?_; intro a hf
    refine wpList_nil ?_
    refine hK37 _ _ ?_; try clear hK37 K37
    refine wp_ret ?_
    refine x_retS ?_
    refine x_retB ?_
    refine x_retS ?_
    refine x_retS ?_
    refine x_retB ?_
    refine x_retS ?_
    refine c_ret hf (res2 hf rfl rfl rfl) ?_
    exact ⟨by rw [hy, ← hfin], hW⟩
   ·have hc36b := hc36
    obtain ⟨x1, hap⟩ : ∃ x1, applyS x u20.rp = some x1 := by revert hc36; cases applyS x u20.rp <;> simp
    obtain ⟨hx1, hx2, hx3⟩ := (apply_eq (r := u20.rp) hx).2 x1 hap
    obtain ⟨_, hv2, _, _⟩ := vr_spec hx3
    have hv3 : u20.old.length ≤ 40 ∧ u20.new.length ≤ 40 := hv2
    refine wp_skip ?_
    refine hK34 _ _ ?_; try clear hK34 K34
    refine wp_seq_k ?_; intro K38 hK38
    refine wp_seq_k ?_; intro K39 hK39
    refine wp_region_lit ?_
    refine l_e hf rfl (ev_loadN (l := [.int .i64 u20.pos, .slice u20.A u20.old.length u20.c, .slice u20.B u20.new.length u20.d]) hf rfl tN_30 (hB29.at 0) rfl) ?_; intro a hf
    refine l_f hf rfl (ef_call (vs := [.agg #[.int .i64 u20.pos, .slice u20.A u20.old.length u20.c, .slice u20.B u20.new.length u20.d]]) hf rfl ff_44 (F44 _ u20.rp u20.A u20.c hr25.top u20.B u20.d hr26.top (Nat.le_trans hv3.1 (by decide)) (Nat.le_trans hv3.2 (by decide)))) ?_; rintro a _ w12 ⟨rfl, hE⟩ hf
    replace hB5 := hB5.below hE
    replace hB13 := hB13.below hE
    replace hB29 := hB29.below hE
    replace hB33 := hB33.below hE
    replace hr_c := hr_c.below hE
    replace hr_l := hr_l.below hE
    replace hr_d := hr_d.below hE
    replace hr16 := hr16.below hE
    replace hr25 := hr25.below hE
    replace hr26 := hr26.below hE
    replace ho31 := ho31.below hE
    replace hd_l := hd_l.below hE
    replace hW := btr hW hE
    clear hE
    refine l_mv hf rfl rfl ?_; intro a hf
    refine l_e hf rfl (ev_extract (vs := [.bool ((justS u20.rp).1), .bool ((justS u20.rp).2)]) hf rfl rfl) ?_; intro a hf
    refine l_e hf rfl (ev_extract (vs := [.bool ((justS u20.rp).1), .bool ((justS u20.rp).2)]) hf rfl rfl) ?_; intro a hf
    refine l_as hf rfl rfl ?_; intro a hf
    refine l_as hf rfl rfl ?_; intro a hf
    refine wpList_nil ?_
    refine hK39 _ _ ?_; try clear hK39 K39
    refine wp_seq_k ?_; intro K40 hK40
    refine c_cut (fun a w => Fr a 65 [(1, .pointer (some ⟨b5, 0, none⟩)), (4, .pointer (some ⟨b13, 0, none⟩)), (5, .int .i64 (k : Int)), (7, .pointer (some ⟨b33, 0, none⟩)), (24, .slice Al l.length cl), (25, .int .i64 (l.length : Int)), (26, .int .i64 (k : Int)), (51, .bool ((!((justS u20.rp).1)) || (!((justS u20.rp).2))))] ∧ w12 = w) ?_ ?_
    ·refine wp_region_lit ?_
     refine l_mv hf rfl rfl ?_; intro a hf
     refine l_e hf rfl (ev_not hf rfl) ?_; intro a hf
     refine l_mv hf rfl rfl ?_; intro a hf
     refine g_split hf (t := 48) rfl (fun hg41 => ?_) (fun hg41 => ?_)
     ·refine l_pass hf ⟨_, _, rfl, rfl, hg41⟩ rfl rfl ?_; intro a hf
      refine l_pass hf ⟨_, _, rfl, rfl, hg41⟩ rfl rfl ?_; intro a hf
      refine l_e hf rfl (ev_pickT hf rfl hg41 rfl) ?_; intro a hf
      refine wpList_nil ?_
      exact ⟨hf.sub ⟨rfl, rfl, rfl, rfl, rfl, rfl, rfl, look_bool rfl (by first | rfl | (simp only [hc9b, hc19b, hc36b, hg41, Bool.true_and, Bool.false_and, Bool.true_or, Bool.false_or]; done) | simp [hc9b, hc19b, hc36b, hg41]), trivial⟩, rfl⟩
     ·refine l_ev hf ⟨_, _, rfl, rfl, hg41⟩ rfl rfl (ev_move hf rfl) ?_; intro a hf
      refine l_ev hf ⟨_, _, rfl, rfl, hg41⟩ rfl rfl (ev_not hf rfl) ?_; intro a hf
      refine l_e hf rfl (ev_pickF hf rfl hg41 rfl) ?_; intro a hf
      refine wpList_nil ?_
      exact ⟨hf.sub ⟨rfl, rfl, rfl, rfl, rfl, rfl, rfl, look_bool rfl (by first | rfl | (simp only [hc9b, hc19b, hc36b, hg41, Bool.true_and, Bool.false_and, Bool.true_or, Bool.false_or]; done) | simp [hc9b, hc19b, hc36b, hg41]), trivial⟩, rfl⟩
    rintro a _ ⟨hf, rfl⟩
    refine hK40 _ _ ?_; try clear hK40 K40
    refine c_if hf rfl (fun hc42 => ?_) (fun hc42 => ?_)
    ·have hc42b := hc42
     have hfin : checkLS 0 c d (l.map Sr.rp) = (k : Int) + 1 := by rw [← hinv, checkLS, if_neg]; rw [hap]; revert hc42; simp only [Sr.rp]; cases (justS _).1 <;> cases (justS _).2 <;> simp
     refine wp_seq_k ?_; intro K43 hK43
     refine wp_region_lit ?_
     refine l_mv hf rfl rfl ?_; intro a hf
     refine l_e hf rfl (ev_addx hf rfl rfl (by omega) (by omega)) ?_; intro a hf
     refine l_as hf rfl rfl ?_; intro a hf
     refine l_as hf rfl rfl ?_; intro a hf
     refine wpList_nil ?_
     refine hK43 _ _ ?_; try clear hK43 K43
     refine wp_ret ?_
     refine x_retS ?_
     refine x_retB ?_
     refine x_retS ?_
     refine x_retS ?_
     refine x_retB ?_
     refine x_retS ?_
     refine c_ret hf (res2 hf rfl rfl rfl) ?_
     exact ⟨by rw [hy, ← hfin], hW⟩
    ·have hc42b := hc42
     have hst : checkLS (k + 1) x1 d ((l.map Sr.rp).drop (k + 1)) = checkLS 0 c d (l.map Sr.rp) := by rw [← hinv, checkLS, if_pos]; rw [hap]; rfl; rw [hap]; revert hc42; simp only [Sr.rp]; cases (justS _).1 <;> cases (justS _).2 <;> simp
     refine wp_skip ?_
     refine hK38 _ _ ?_; try clear hK38 K38
     refine wp_region_lit ?_
     refine l_e hf rfl (ev_loadN (l := [.int .i64 (((applyS x u20.rp).getD cZ).n), .slice A31 (((applyS x u20.rp).getD cZ).gs).length c31]) hf rfl tN_41 (hB33.at 0) rfl) ?_; intro a hf
     refine l_f0 hf (ef_store (vs := [.int .i64 (((applyS x u20.rp).getD cZ).n), .slice A31 (((applyS x u20.rp).getD cZ).gs).length c31]) (l' := [.int .i64 (((applyS x u20.rp).getD cZ).n), .slice A31 (((applyS x u20.rp).getD cZ).gs).length c31]) hf rfl rfl sz_41 hB13 rfl rfl rfl rfl rfl) ?_; rintro a _ w13 ⟨ho, hb⟩ hf
     have hold := hB13
     replace hB5 := hB5.only ho (Blk.ne hB5 hold rfl)
     replace hB29 := hB29.only ho (Blk.ne hB29 hold rfl)
     replace hB33 := hB33.only ho (by omega)
     replace hr_c := hr_c.onlyT ho hold rfl
     replace hr_l := hr_l.onlyT ho hold rfl
     replace hr_d := hr_d.onlyT ho hold rfl
     replace hr16 := hr16.onlyT ho hold rfl
     replace hr25 := hr25.onlyT ho hold rfl
     replace hr26 := hr26.onlyT ho hold rfl
     replace ho31 := ho31.onlyT ho hold rfl
     replace hd_l := hd_l.only ho hlo13
     replace hW := Below.only hW ho hlo13
     clear hold
     have hB13 := hb
     clear hb ho
     refine wpList_nil ?_
     refine x_norm ?_
     refine hK21 _ _ ?_; try clear hK21 K21
     refine wp_region_lit ?_
     refine l_e hf rfl (ev_addx hf rfl rfl (by omega) (by omega)) ?_; intro a hf
     refine l_mv hf rfl rfl ?_; intro a hf
     refine wpList_nil ?_
     refine x_thenN ?_
     exact ⟨(k + 1, ((applyS x u20.rp).getD cZ)), ⟨A31, c31, hf.sub ⟨rfl, rfl, rfl, rfl, rfl, trivial⟩, (by omega), (by rw [hap]; exact hx1), (by rw [hap]; exact hst), hB5, hB13, hr_c, hr_l, hr_d, ho31.rd, hp_c, hd_l, ho31.cap, hW⟩, (by first | omega | (dsimp only; omega))⟩
  ·have hc19b := hc19
   have hc19 := of_decide_eq_false hc19
   have hdk : (l.map Sr.rp).drop k = [] := List.drop_of_length_le (by rw [List.length_map]; omega)
   have hkl : k = l.length := by omega
   rw [hdk, checkLS] at hinv
   refine wp_exit ?_
   refine x_exS ?_
   refine x_exS ?_
   refine x_exit ?_
   refine hK14 _ _ ?_; try clear hK14 K14
   refine wp_seq_k ?_; intro K44 hK44
   refine wp_seq_k ?_; intro K45 hK45
   refine wp_region_lit ?_
   refine l_e hf rfl (ev_loadN (l := [.int .i64 x.n, .slice A16 x.gs.length c16]) hf rfl tN_41 (hB13.at 0) rfl) ?_; intro a hf
   refine l_e hf rfl (ev_fieldB hf rfl fd_60_2 (m := 3) rfl) ?_; intro a hf
   refine l_e hf rfl (ev_loadN (l := [.int .i64 d.n, .slice Ad d.gs.length cd]) hf rfl tN_41 ((hB5.at 3).take 2) rfl) ?_; intro a hf
   refine l_f hf rfl (ef_call (vs := [.agg #[.int .i64 x.n, .slice A16 x.gs.length c16], .agg #[.int .i64 d.n, .slice Ad d.gs.length cd]]) hf rfl ff_64 (F64 _ x A16 c16 hr16.top d Ad cd hr_d.top (by omega))) ?_; rintro a _ w14 ⟨rfl, hE⟩ hf
   replace hB5 := hB5.below hE
   replace hB13 := hB13.below hE
   replace hr_c := hr_c.below hE
   replace hr_l := hr_l.below hE
   replace hr_d := hr_d.below hE
   replace hr16 := hr16.below hE
   replace hd_l := hd_l.below hE
   replace hW := btr hW hE
   clear hE
   refine l_e hf rfl (ev_not hf rfl) ?_; intro a hf
   refine wpList_nil ?_
   refine hK45 _ _ ?_; try clear hK45 K45
   refine c_if hf rfl (fun hc46 => ?_) (fun hc46 => ?_)
   ·have hc46b := hc46
    have hq : eqC x d = false := by revert hc46; cases eqC x d <;> simp
    rw [hq, if_neg (by decide)] at hinv
    refine wp_seq_k ?_; intro K47 hK47
    refine wp_region_lit ?_
    refine l_e hf rfl (ev_fieldB hf rfl fd_60_1 (m := 2) rfl) ?_; intro a hf
    refine l_e hf rfl (ev_load1 hf rfl t1_58 (hB5.at 2)) ?_; intro a hf
    refine l_e hf rfl (ev_len hf rfl sl_58) ?_; intro a hf
    refine l_e hf rfl (ev_addx hf rfl rfl (by omega) (by omega)) ?_; intro a hf
    refine l_as hf rfl rfl ?_; intro a hf
    refine l_as hf rfl rfl ?_; intro a hf
    refine wpList_nil ?_
    refine hK47 _ _ ?_; try clear hK47 K47
    refine wp_ret ?_
    refine x_retS ?_
    refine c_ret hf (res2 hf rfl rfl rfl) ?_
    exact ⟨by rw [hy, ← hinv, hkl], hW⟩
   ·have hc46b := hc46
    have hq : eqC x d = true := by revert hc46; cases eqC x d <;> simp
    rw [hq, if_pos rfl] at hinv
    refine wp_skip ?_
    refine hK44 _ _ ?_; try clear hK44 K44
    refine wp_seq_k ?_; intro K48 hK48
    refine wp_region_lit ?_
    refine l_as hf rfl rfl ?_; intro a hf
    refine l_as hf rfl rfl ?_; intro a hf
    refine wpList_nil ?_
    refine hK48 _ _ ?_; try clear hK48 K48
    refine wp_ret ?_
    refine c_ret hf (res2 hf rfl rfl rfl) ?_
    exact ⟨by rw [hy, ← hinv], hW⟩
end Go.Proofs.YtfgnmflfiobkmaaGreat
