/-
  What is proved: for every circuit and every list of layers, the program's CheckSchedule answers as the reference's does and leaves its arguments as they were, and the arguments read as before. Conditions: none.
-/
import Derived.Test.YtfgnmflfiobkmaaGreatR4
import Derived.Test.YtfgnmflfiobkmaaGreatR3
import Derived.WideKeyRuns
set_option linter.unusedVariables false
set_option linter.unusedSimpArgs false
set_option maxHeartbeats 1000000
set_option maxRecDepth 4000
namespace Go.Proofs.YtfgnmflfiobkmaaGreat
open Go.RowKit
theorem F102 (w0 : World) (g : Gt) (h : Gt) (n : Int) (hg : gOk n g = true) (hh : gOk n h = true) : Ret Tryz.prog 102 [.agg #[.int .i64 g.k, .int .i64 g.a, .int .i64 g.b], .agg #[.int .i64 h.k, .int .i64 h.a, .int .i64 h.b]] w0 (fun v w => v = .bool (commS g h) ∧ Below w0.heap.size w0 w) := by
 have hql := qubI_len g
 have hqh := qubI_len h
 refine enter Tryz.func102 rfl 52 rfl rfl ?_
 intro a hf
 have hW : Below w0.heap.size w0 w0 := Below.refl _ _
 refine wp_seq_k ?_; intro K1 hK1
 refine wp_region_lit ?_
 refine l_f hf rfl (ef_box (zs := [.int .i64 g.k, .int .i64 g.a, .int .i64 g.b]) hf rfl rfl) ?_; rintro a _ w1 ⟨b2, rfl, hl2, hE, hB2⟩ hf
 have hlo2 := Nat.le_trans hW.size hl2
 replace hW := btr hW hE
 clear hE
 refine l_f hf rfl (ef_box (zs := [.int .i64 h.k, .int .i64 h.a, .int .i64 h.b]) hf rfl rfl) ?_; rintro a _ w2 ⟨b3, rfl, hl3, hE, hB3⟩ hf
 have hne2_3 : b2 ≠ b3 := by have := hB2.lt; omega
 have hlo3 := Nat.le_trans hW.size hl3
 replace hB2 := hB2.below hE
 replace hW := btr hW hE
 clear hE
 refine l_as hf rfl rfl ?_; intro a hf
 refine wpList_nil ?_
 refine hK1 _ _ ?_; try clear hK1 K1
 refine wp_seq_k ?_; intro K4 hK4
 refine wp_seq_k ?_; intro K5 hK5
 refine wp_region_lit ?_
 refine l_e hf rfl (ev_loadN (l := [.int .i64 g.k, .int .i64 g.a, .int .i64 g.b]) hf rfl tN_107 (hB2.at 0) rfl) ?_; intro a hf
 refine l_e hf rfl (ev_loadN (l := [.int .i64 h.k, .int .i64 h.a, .int .i64 h.b]) hf rfl tN_107 (hB3.at 0) rfl) ?_; intro a hf
 refine l_f hf rfl (ef_call (vs := [.agg #[.int .i64 g.k, .int .i64 g.a, .int .i64 g.b], .agg #[.int .i64 h.k, .int .i64 h.a, .int .i64 h.b]]) hf rfl ff_103 (F103 _ g h)) ?_; rintro a _ w3 ⟨rfl, hE⟩ hf
 replace hB2 := hB2.below hE
 replace hB3 := hB3.below hE
 replace hW := btr hW hE
 clear hE
 refine l_e hf rfl (ev_not hf rfl) ?_; intro a hf
 refine wpList_nil ?_
 refine hK5 _ _ ?_; try clear hK5 K5
 refine c_if hf rfl (fun hc6 => ?_) (fun hc6 => ?_)
 ·have hc6b := hc6
  have hfin : commS g h = true := by rw [commS, if_neg]; revert hc6; cases comS g h <;> simp
  refine wp_seq_k ?_; intro K7 hK7
  refine wp_region_lit ?_
  refine l_as hf rfl rfl ?_; intro a hf
  refine wpList_nil ?_
  refine hK7 _ _ ?_; try clear hK7 K7
  refine wp_ret ?_
  refine x_retS ?_
  refine c_ret hf (res1 hf rfl rfl) ?_
  exact ⟨by rw [hfin], hW⟩
 ·have hc6b := hc6
  have hc : comS g h = true := by revert hc6; cases comS g h <;> simp
  refine wp_skip ?_
  refine hK4 _ _ ?_; try clear hK4 K4
  refine wp_seq_k ?_; intro K8 hK8
  refine wp_region_lit ?_
  refine l_as hf rfl rfl ?_; intro a hf
  refine wpList_nil ?_
  refine hK8 _ _ ?_; try clear hK8 K8
  refine wp_seq_k ?_; intro K10 hK10
  refine wp_seq_k ?_; intro K11 hK11
  refine wp_draw none (fun j => [4].contains j) mixed ?_
  intro w4 hE
  replace hB2 := hB2.below hE
  replace hB3 := hB3.below hE
  replace hW := btr hW hE
  clear hE
  refine s_e 0 rfl (by kernel_rfl) (by kernel_rfl) hf rfl (ev_loadN (l := [.int .i64 g.k, .int .i64 g.a, .int .i64 g.b]) hf rfl tN_107 (hB2.at 0) rfl) ?_; intro a hf
  refine s_e 2 rfl (by kernel_rfl) (by kernel_rfl) hf rfl (ev_loadN (l := [.int .i64 h.k, .int .i64 h.a, .int .i64 h.b]) hf rfl tN_107 (hB3.at 0) rfl) ?_; intro a hf
  refine s_e0 6 rfl (by kernel_rfl) hf rfl (fun _ => ev_move hf rfl) ?_; intro a hf
  refine s_one 1 (by kernel_rfl) ?_
  refine p_eff rfl hf trivial rfl rfl (Ef.mono (ef_call (vs := [.agg #[.int .i64 g.k, .int .i64 g.a, .int .i64 g.b]]) hf rfl ff_142 (F142 _ g)) (fun _ _ h => ⟨fun _ => by obtain ⟨A12, c12, rfl, ho12, hE⟩ := h; exact hE, h⟩)) ?_; rintro a _ w5 ⟨A12, c12, rfl, ho12, hE⟩ hf
  replace ho12 := ho12.lower hW.size
  replace hB2 := hB2.below hE
  replace hB3 := hB3.below hE
  replace hW := btr hW hE
  clear hE
  refine s_one 3 (by kernel_rfl) ?_
  refine p_eff rfl hf trivial rfl rfl (Ef.mono (ef_call (vs := [.agg #[.int .i64 h.k, .int .i64 h.a, .int .i64 h.b]]) hf rfl ff_142 (F142 _ h)) (fun _ _ h => ⟨fun _ => by obtain ⟨A13, c13, rfl, ho13, hE⟩ := h; exact hE, h⟩)) ?_; rintro a _ w6 ⟨A13, c13, rfl, ho13, hE⟩ hf
  replace ho13 := ho13.lower hW.size
  replace hB2 := hB2.below hE
  replace hB3 := hB3.below hE
  replace ho12 := ho12.below hE
  replace hW := btr hW hE
  clear hE
  refine s_one 4 (by kernel_rfl) ?_
  refine p_eff rfl hf trivial rfl rfl (Ef.mono (ef_append (enc := encI) (l := ((qubI g))) (l2 := ((qubI h))) (B0 := w0.heap.size) hf rfl rfl sl_36 inf_3 encI_len encI_one ho12 ho13.rd (by simp only [maxLen]; omega) (by omega) hW.size) (fun _ _ h => ⟨fun h0 => absurd h0 (by decide), h⟩)) ?_; rintro a _ w7 ⟨A14, c14, rfl, ho14, hg, hat⟩ hf
  have hown : Own _ w0.heap.size 3 1 encI _ _ ((qubI g)) := ho12
  clear hat
  replace hB2 := hB2.appT hown hg rfl
  replace hB3 := hB3.appT hown hg rfl
  replace hW := Below.app hW hown hg (Nat.le_refl _) hW.size
  clear hown hg
  refine s_e0 5 rfl (by kernel_rfl) hf rfl (fun _ => ev_len hf rfl sl_36) ?_; intro a hf
  refine s_done (by kernel_rfl) ?_
  refine hK11 _ _ ?_; try clear hK11 K11
  refine wp_block ?_
  refine c_loop (σ := Nat × (List Int)) (fun (s : Nat × (List Int)) (a : Act) (w : World) => match s with | (k, m) => ∃ A15 c15, Fr a 52 [(2, .pointer (some ⟨b2, 0, none⟩)), (3, .pointer (some ⟨b3, 0, none⟩)), (5, .slice A15 m.length c15), (19, .slice A14 ((qubI g) ++ (qubI h)).length c14), (20, .int .i64 (((qubI g) ++ (qubI h)).length : Int)), (21, .int .i64 (k : Int))] ∧ (k ≤ (qubI g ++ qubI h).length) ∧ (m = ((qubI g ++ qubI h).take k).foldl putI []) ∧ Blk w b2 107 [.int .i64 g.k, .int .i64 g.a, .int .i64 g.b] ∧ Blk w b3 107 [.int .i64 h.k, .int .i64 h.a, .int .i64 h.b] ∧ Own w w0.heap.size 3 1 encI A15 c15 m ∧ Own w w0.heap.size 3 1 encI A14 c14 ((qubI g) ++ (qubI h)) ∧ Below w0.heap.size w0 w) (fun (s : Nat × (List Int)) => match s with | (k, m) => (qubI g ++ qubI h).length - k) (0, []) ?_ ?_
  · exact ⟨none, 0, hf.sub ⟨rfl, rfl, rfl, rfl, rfl, rfl, trivial⟩, (Nat.zero_le _), rfl, hB2, hB3, (Own.nil _ _ _ _ _), ho14, hW⟩
  rintro ⟨k, m⟩ a w8 ⟨A15, c15, hf, hk, hm, hB2, hB3, ho15, ho14, hW⟩
  have hqq : (qubI g ++ qubI h).length ≤ 4 := by rw [List.length_append]; omega
  have hml : m.length ≤ 4 := by have := putF_len ((qubI g ++ qubI h).take k) []; rw [← hm, List.length_take] at this; simp only [List.length_nil] at this; omega
  refine wp_seq_k ?_; intro K16 hK16
  refine wp_region_lit ?_
  refine l_e hf rfl (ev_lss hf rfl rfl) ?_; intro a hf
  refine wpList_nil ?_
  refine hK16 _ _ ?_; try clear hK16 K16
  refine wp_seq_k ?_; intro K17 hK17
  refine c_if hf rfl (fun hc18 => ?_) (fun hc18 => ?_)
  ·have hc18b := hc18
   have hc18 := of_decide_eq_true hc18
   obtain ⟨u19, hu19⟩ := getElem_ex (l := ((qubI g) ++ (qubI h))) (k := k) (by omega)
   have hst := foldl_step (f := putI) (b := []) hu19
   refine wp_skip ?_
   refine hK17 _ _ ?_; try clear hK17 K17
   refine wp_seq_k ?_; intro K20 hK20
   refine wp_block ?_
   refine wp_seq_k ?_; intro K21 hK21
   refine wp_region_lit ?_
   refine l_index (k := k) (u := u19) (enc := encI) (l := (qubI g) ++ (qubI h)) hf trivial rfl rfl rfl sl_36 sz_3 encI_len ho14.rd hu19 rfl ?_; intro a p23 hat22 hf
   refine l_e hf rfl (ev_load1 hf rfl t1_3 hat22) ?_; intro a hf
   refine l_as hf rfl rfl ?_; intro a hf
   refine wpList_nil ?_
   refine hK21 _ _ ?_; try clear hK21 K21
   refine wp_region_lit ?_
   refine l_mv hf rfl rfl ?_; intro a hf
   refine l_mv hf rfl rfl ?_; intro a hf
   refine l_f hf rfl (ef_call (vs := [.slice A15 m.length c15, .int .i64 u19]) hf rfl ff_128 (F128 _ A15 c15 m ho15.rd.top u19 w0.heap.size ho15 hW.size (by omega))) ?_; rintro a _ w9 ⟨A24, c24, rfl, ho24, hE⟩ hf
   replace hB2 := hB2.below hE
   replace hB3 := hB3.below hE
   replace ho15 := ho15.below hE
   replace ho14 := ho14.below hE
   replace hW := btr hW hE
   clear hE
   refine l_as hf rfl rfl ?_; intro a hf
   refine wpList_nil ?_
   refine x_norm ?_
   refine hK20 _ _ ?_; try clear hK20 K20
   refine wp_region_lit ?_
   refine l_e hf rfl (ev_addx hf rfl rfl (by omega) (by omega)) ?_; intro a hf
   refine l_mv hf rfl rfl ?_; intro a hf
   refine wpList_nil ?_
   refine x_thenN ?_
   exact ⟨(k + 1, (putI m u19)), ⟨A24, c24, hf.sub ⟨rfl, rfl, rfl, rfl, rfl, rfl, trivial⟩, (by omega), (by rw [hst, ← hm]), hB2, hB3, ho24, ho14, hW⟩, (by first | omega | (dsimp only; omega))⟩
  ·have hc18b := hc18
   have hc18 := of_decide_eq_false hc18
   have hU : unionS g h = m := by rw [hm, List.take_of_length_le (by omega)]; rfl
   have P : PairOk m g h := pair_ok hg hh (comS_iff.1 hc) (hU ▸ unionS_inc g h) (fun x => by rw [← hU]; exact unionS_mem)
   have hlm : m.length ≤ 2305843009213693951 := Nat.le_trans P.len (by decide)
   have hm1 := (gate_eq P.gs).2
   have hm2 := (gate_eq P.hs).2
   refine wp_exit ?_
   refine x_exS ?_
   refine x_exS ?_
   refine x_exit ?_
   refine hK10 _ _ ?_; try clear hK10 K10
   refine wp_seq_k ?_; intro K25 hK25
   refine wp_region_lit ?_
   refine l_e hf rfl (ev_build (ps := []) (cs := [.bool false]) hf rfl (fun _ => by first | rfl | kernel_rfl)) ?_; intro a hf
   refine l_f hf rfl (ef_box (zs := [.bool false]) hf rfl rfl) ?_; rintro a _ w10 ⟨b26, rfl, hl26, hE, hB26⟩ hf
   have hlo26 := Nat.le_trans hW.size hl26
   replace hB2 := hB2.below hE
   replace hB3 := hB3.below hE
   replace ho15 := ho15.below hE
   replace ho14 := ho14.below hE
   replace hW := btr hW hE
   clear hE
   refine l_as hf rfl rfl ?_; intro a hf
   refine wpList_nil ?_
   refine hK25 _ _ ?_; try clear hK25 K25
   refine wp_seq_k ?_; intro K27 hK27
   refine c_cut (fun a w => ∃ b31 b33 A28 c28 A29 c29, Fr a 52 [(8, .pointer (some ⟨b26, 0, none⟩)), (9, .pointer (some ⟨b31, 0, none⟩)), (10, .pointer (some ⟨b33, 0, none⟩))] ∧ w0.heap.size ≤ b31 ∧ Blk w b31 141 [.int .i64 ((gateS (m.length : Int) (smallG m g)).rows), .int .i64 ((gateS (m.length : Int) (smallG m g)).cols), .slice A28 ((gateS (m.length : Int) (smallG m g)).cells).length c28] ∧ w0.heap.size ≤ b33 ∧ Blk w b33 141 [.int .i64 ((gateS (m.length : Int) (smallG m h)).rows), .int .i64 ((gateS (m.length : Int) (smallG m h)).cols), .slice A29 ((gateS (m.length : Int) (smallG m h)).cells).length c29] ∧ Own w w0.heap.size 189 5 encD A28 c28 ((gateS (m.length : Int) (smallG m g)).cells) ∧ Own w w0.heap.size 189 5 encD A29 c29 ((gateS (m.length : Int) (smallG m h)).cells) ∧ Below w10.heap.size w10 w) ?_ ?_
   ·have hEc : Below w10.heap.size w10 w10 := Below.refl _ _
    refine wp_draw none (fun j => [14, 15].contains j) mixed ?_
    intro w11 hE
    replace hB2 := hB2.below hE
    replace hB3 := hB3.below hE
    replace hB26 := hB26.below hE
    replace ho15 := ho15.below hE
    replace ho14 := ho14.below hE
    replace hW := btr hW hE
    replace hEc := btr hEc hE
    clear hE
    refine s_e0 0 rfl (by kernel_rfl) hf rfl (fun _ => ev_move hf rfl) ?_; intro a hf
    refine s_e0 1 rfl (by kernel_rfl) hf rfl (fun _ => ev_len hf rfl sl_36) ?_; intro a hf
    refine s_e 2 rfl (by kernel_rfl) (by kernel_rfl) hf rfl (ev_loadN (l := [.int .i64 g.k, .int .i64 g.a, .int .i64 g.b]) hf rfl tN_107 (hB2.at 0) rfl) ?_; intro a hf
    refine s_e0 3 rfl (by kernel_rfl) hf rfl (fun _ => ev_move hf rfl) ?_; intro a hf
    refine s_e0 6 rfl (by kernel_rfl) hf rfl (fun _ => ev_move hf rfl) ?_; intro a hf
    refine s_e0 7 rfl (by kernel_rfl) hf rfl (fun _ => ev_len hf rfl sl_36) ?_; intro a hf
    refine s_e 8 rfl (by kernel_rfl) (by kernel_rfl) hf rfl (ev_loadN (l := [.int .i64 h.k, .int .i64 h.a, .int .i64 h.b]) hf rfl tN_107 (hB3.at 0) rfl) ?_; intro a hf
    refine s_e0 9 rfl (by kernel_rfl) hf rfl (fun _ => ev_move hf rfl) ?_; intro a hf
    refine s_three 4 12 13 (by kernel_rfl) ?_ ?_ ?_
    ·refine p_eff rfl hf trivial rfl rfl (Ef.mono (ef_call (vs := [.agg #[.int .i64 g.k, .int .i64 g.a, .int .i64 g.b], .slice A15 m.length c15]) hf rfl ff_144 (F144 _ g A15 c15 m ho15.rd.top P.gk P.ga P.inc P.gb hlm)) (fun _ _ h => ⟨fun _ => by obtain ⟨rfl, hE⟩ := h; exact hE, h⟩)) ?_; rintro a _ w12 ⟨rfl, hE⟩ hf
     replace hB2 := hB2.below hE
     replace hB3 := hB3.below hE
     replace hB26 := hB26.below hE
     replace ho15 := ho15.below hE
     replace ho14 := ho14.below hE
     replace hW := btr hW hE
     replace hEc := btr hEc hE
     clear hE
     refine s_three 5 12 13 (by kernel_rfl) ?_ ?_ ?_
     ·refine p_eff rfl hf trivial rfl rfl (Ef.mono (ef_call (vs := [.int .i64 (m.length : Int), .agg #[.int .i64 ((smallG m g).k), .int .i64 ((smallG m g).a), .int .i64 ((smallG m g).b)]]) hf rfl ff_143 (F143 _ (m.length : Int) (smallG m g) P.gs)) (fun _ _ h => ⟨fun _ => by obtain ⟨A28, c28, rfl, ho28, hE⟩ := h; exact hE, h⟩)) ?_; rintro a _ w13 ⟨A28, c28, rfl, ho28, hE⟩ hf
      replace ho28 := ho28.lower hW.size
      replace hB2 := hB2.below hE
      replace hB3 := hB3.below hE
      replace hB26 := hB26.below hE
      replace ho15 := ho15.below hE
      replace ho14 := ho14.below hE
      replace hW := btr hW hE
      replace hEc := btr hEc hE
      clear hE
      refine s_three 10 12 13 (by kernel_rfl) ?_ ?_ ?_
      ·refine p_eff rfl hf trivial rfl rfl (Ef.mono (ef_call (vs := [.agg #[.int .i64 h.k, .int .i64 h.a, .int .i64 h.b], .slice A15 m.length c15]) hf rfl ff_144 (F144 _ h A15 c15 m ho15.rd.top P.hk P.ha P.inc P.hb hlm)) (fun _ _ h => ⟨fun _ => by obtain ⟨rfl, hE⟩ := h; exact hE, h⟩)) ?_; rintro a _ w14 ⟨rfl, hE⟩ hf
       replace hB2 := hB2.below hE
       replace hB3 := hB3.below hE
       replace hB26 := hB26.below hE
       replace ho15 := ho15.below hE
       replace ho14 := ho14.below hE
       replace ho28 := ho28.below hE
       replace hW := btr hW hE
       replace hEc := btr hEc hE
       clear hE
       refine s_three 11 12 13 (by kernel_rfl) ?_ ?_ ?_
       ·refine p_eff rfl hf trivial rfl rfl (Ef.mono (ef_call (vs := [.int .i64 (m.length : Int), .agg #[.int .i64 ((smallG m h).k), .int .i64 ((smallG m h).a), .int .i64 ((smallG m h).b)]]) hf rfl ff_143 (F143 _ (m.length : Int) (smallG m h) P.hs)) (fun _ _ h => ⟨fun _ => by obtain ⟨A29, c29, rfl, ho29, hE⟩ := h; exact hE, h⟩)) ?_; rintro a _ w15 ⟨A29, c29, rfl, ho29, hE⟩ hf
        replace ho29 := ho29.lower hW.size
        replace hB2 := hB2.below hE
        replace hB3 := hB3.below hE
        replace hB26 := hB26.below hE
        replace ho15 := ho15.below hE
        replace ho14 := ho14.below hE
        replace ho28 := ho28.below hE
        replace hW := btr hW hE
        replace hEc := btr hEc hE
        clear hE
        refine s_two 12 13 (by kernel_rfl) ?_ ?_
        ·refine p_eff rfl hf trivial rfl rfl (Ef.mono (ef_alloc (zs := [.int .i64 0, .int .i64 0, .slice none 0 0]) z_141 rfl) (fun _ _ h => ⟨fun _ => by obtain ⟨_, _, _, hE, _⟩ := h; exact hE, h⟩)) ?_; rintro a _ w16 ⟨b31, rfl, hl31, hE, hB31⟩ hf
         have hlo31 := Nat.le_trans hW.size hl31
         have hlc31 := Nat.le_trans hEc.size hl31
         replace hB2 := hB2.below hE
         replace hB3 := hB3.below hE
         replace hB26 := hB26.below hE
         replace ho15 := ho15.below hE
         replace ho14 := ho14.below hE
         replace ho28 := ho28.below hE
         replace ho29 := ho29.below hE
         replace hW := btr hW hE
         replace hEc := btr hEc hE
         clear hE
         refine s_one 13 (by kernel_rfl) ?_
         refine p_eff rfl hf trivial rfl rfl (Ef.mono (ef_alloc (zs := [.int .i64 0, .int .i64 0, .slice none 0 0]) z_141 rfl) (fun _ _ h => ⟨fun _ => by obtain ⟨_, _, _, hE, _⟩ := h; exact hE, h⟩)) ?_; rintro a _ w17 ⟨b33, rfl, hl33, hE, hB33⟩ hf
         have hne31_33 : b31 ≠ b33 := by have := hB31.lt; omega
         have hlo33 := Nat.le_trans hW.size hl33
         have hlc33 := Nat.le_trans hEc.size hl33
         replace hB2 := hB2.below hE
         replace hB3 := hB3.below hE
         replace hB26 := hB26.below hE
         replace hB31 := hB31.below hE
         replace ho15 := ho15.below hE
         replace ho14 := ho14.below hE
         replace ho28 := ho28.below hE
         replace ho29 := ho29.below hE
         replace hW := btr hW hE
         replace hEc := btr hEc hE
         clear hE
         refine s_one 14 (by kernel_rfl) ?_
         refine p_eff0 rfl hf trivial rfl (Ef.mono (ef_store (vs := [.int .i64 ((gateS (m.length : Int) (smallG m g)).rows), .int .i64 ((gateS (m.length : Int) (smallG m g)).cols), .slice A28 ((gateS (m.length : Int) (smallG m g)).cells).length c28]) (l' := [.int .i64 ((gateS (m.length : Int) (smallG m g)).rows), .int .i64 ((gateS (m.length : Int) (smallG m g)).cols), .slice A28 ((gateS (m.length : Int) (smallG m g)).cells).length c28]) hf rfl rfl sz_141 hB31 rfl rfl rfl rfl rfl) (fun _ _ h => ⟨fun h0 => absurd h0 (by decide), h⟩)) ?_; rintro a _ w18 ⟨ho, hb⟩ hf
         have hold := hB31
         replace hB2 := hB2.only ho (Blk.ne hB2 hold rfl)
         replace hB3 := hB3.only ho (Blk.ne hB3 hold rfl)
         replace hB26 := hB26.only ho (Blk.ne hB26 hold rfl)
         replace hB33 := hB33.only ho (by omega)
         replace ho15 := ho15.onlyT ho hold rfl
         replace ho14 := ho14.onlyT ho hold rfl
         replace ho28 := ho28.onlyT ho hold rfl
         replace ho29 := ho29.onlyT ho hold rfl
         replace hEc := Below.only hEc ho hlc31
         replace hW := Below.only hW ho hlo31
         clear hold
         have hB31 := hb
         clear hb ho
         refine s_one 15 (by kernel_rfl) ?_
         refine p_eff0 rfl hf trivial rfl (Ef.mono (ef_store (vs := [.int .i64 ((gateS (m.length : Int) (smallG m h)).rows), .int .i64 ((gateS (m.length : Int) (smallG m h)).cols), .slice A29 ((gateS (m.length : Int) (smallG m h)).cells).length c29]) (l' := [.int .i64 ((gateS (m.length : Int) (smallG m h)).rows), .int .i64 ((gateS (m.length : Int) (smallG m h)).cols), .slice A29 ((gateS (m.length : Int) (smallG m h)).cells).length c29]) hf rfl rfl sz_141 hB33 rfl rfl rfl rfl rfl) (fun _ _ h => ⟨fun h0 => absurd h0 (by decide), h⟩)) ?_; rintro a _ w19 ⟨ho, hb⟩ hf
         have hold := hB33
         replace hB2 := hB2.only ho (Blk.ne hB2 hold rfl)
         replace hB3 := hB3.only ho (Blk.ne hB3 hold rfl)
         replace hB26 := hB26.only ho (Blk.ne hB26 hold rfl)
         replace hB31 := hB31.only ho (by omega)
         replace ho15 := ho15.onlyT ho hold rfl
         replace ho14 := ho14.onlyT ho hold rfl
         replace ho28 := ho28.onlyT ho hold rfl
         replace ho29 := ho29.onlyT ho hold rfl
         replace hEc := Below.only hEc ho hlc33
         replace hW := Below.only hW ho hlo33
         clear hold
         have hB33 := hb
         clear hb ho
         refine s_done (by kernel_rfl) ?_
         have hEE : Below w10.heap.size w10 w19 := hEc
         exact ⟨b31, b33, A28, c28, A29, c29, hf.sub ⟨rfl, rfl, rfl, trivial⟩, hlo31, hB31, hlo33, hB33, ho28, ho29, hEE⟩
        ·refine p_eff rfl hf trivial rfl rfl (Ef.mono (ef_alloc (zs := [.int .i64 0, .int .i64 0, .slice none 0 0]) z_141 rfl) (fun _ _ h => ⟨fun _ => by obtain ⟨_, _, _, hE, _⟩ := h; exact hE, h⟩)) ?_; rintro a _ w20 ⟨b35, rfl, hl35, hE, hB35⟩ hf
         have hlo35 := Nat.le_trans hW.size hl35
         have hlc35 := Nat.le_trans hEc.size hl35
         replace hB2 := hB2.below hE
         replace hB3 := hB3.below hE
         replace hB26 := hB26.below hE
         replace ho15 := ho15.below hE
         replace ho14 := ho14.below hE
         replace ho28 := ho28.below hE
         replace ho29 := ho29.below hE
         replace hW := btr hW hE
         replace hEc := btr hEc hE
         clear hE
         refine s_one 12 (by kernel_rfl) ?_
         refine p_eff rfl hf trivial rfl rfl (Ef.mono (ef_alloc (zs := [.int .i64 0, .int .i64 0, .slice none 0 0]) z_141 rfl) (fun _ _ h => ⟨fun _ => by obtain ⟨_, _, _, hE, _⟩ := h; exact hE, h⟩)) ?_; rintro a _ w21 ⟨b37, rfl, hl37, hE, hB37⟩ hf
         have hne35_37 : b35 ≠ b37 := by have := hB35.lt; omega
         have hlo37 := Nat.le_trans hW.size hl37
         have hlc37 := Nat.le_trans hEc.size hl37
         replace hB2 := hB2.below hE
         replace hB3 := hB3.below hE
         replace hB26 := hB26.below hE
         replace hB35 := hB35.below hE
         replace ho15 := ho15.below hE
         replace ho14 := ho14.below hE
         replace ho28 := ho28.below hE
         replace ho29 := ho29.below hE
         replace hW := btr hW hE
         replace hEc := btr hEc hE
         clear hE
         refine s_one 14 (by kernel_rfl) ?_
         refine p_eff0 rfl hf trivial rfl (Ef.mono (ef_store (vs := [.int .i64 ((gateS (m.length : Int) (smallG m g)).rows), .int .i64 ((gateS (m.length : Int) (smallG m g)).cols), .slice A28 ((gateS (m.length : Int) (smallG m g)).cells).length c28]) (l' := [.int .i64 ((gateS (m.length : Int) (smallG m g)).rows), .int .i64 ((gateS (m.length : Int) (smallG m g)).cols), .slice A28 ((gateS (m.length : Int) (smallG m g)).cells).length c28]) hf rfl rfl sz_141 hB37 rfl rfl rfl rfl rfl) (fun _ _ h => ⟨fun h0 => absurd h0 (by decide), h⟩)) ?_; rintro a _ w22 ⟨ho, hb⟩ hf
         have hold := hB37
         replace hB2 := hB2.only ho (Blk.ne hB2 hold rfl)
         replace hB3 := hB3.only ho (Blk.ne hB3 hold rfl)
         replace hB26 := hB26.only ho (Blk.ne hB26 hold rfl)
         replace hB35 := hB35.only ho (by omega)
         replace ho15 := ho15.onlyT ho hold rfl
         replace ho14 := ho14.onlyT ho hold rfl
         replace ho28 := ho28.onlyT ho hold rfl
         replace ho29 := ho29.onlyT ho hold rfl
         replace hEc := Below.only hEc ho hlc37
         replace hW := Below.only hW ho hlo37
         clear hold
         have hB37 := hb
         clear hb ho
         refine s_one 15 (by kernel_rfl) ?_
         refine p_eff0 rfl hf trivial rfl (Ef.mono (ef_store (vs := [.int .i64 ((gateS (m.length : Int) (smallG m h)).rows), .int .i64 ((gateS (m.length : Int) (smallG m h)).cols), .slice A29 ((gateS (m.length : Int) (smallG m h)).cells).length c29]) (l' := [.int .i64 ((gateS (m.length : Int) (smallG m h)).rows), .int .i64 ((gateS (m.length : Int) (smallG m h)).cols), .slice A29 ((gateS (m.length : Int) (smallG m h)).cells).length c29]) hf rfl rfl sz_141 hB35 rfl rfl rfl rfl rfl) (fun _ _ h => ⟨fun h0 => absurd h0 (by decide), h⟩)) ?_; rintro a _ w23 ⟨ho, hb⟩ hf
         have hold := hB35
         replace hB2 := hB2.only ho (Blk.ne hB2 hold rfl)
         replace hB3 := hB3.only ho (Blk.ne hB3 hold rfl)
         replace hB26 := hB26.only ho (Blk.ne hB26 hold rfl)
         replace hB37 := hB37.only ho (by omega)
         replace ho15 := ho15.onlyT ho hold rfl
         replace ho14 := ho14.onlyT ho hold rfl
         replace ho28 := ho28.onlyT ho hold rfl
         replace ho29 := ho29.onlyT ho hold rfl
         replace hEc := Below.only hEc ho hlc35
         replace hW := Below.only hW ho hlo35
         clear hold
         have hB35 := hb
         clear hb ho
         refine s_done (by kernel_rfl) ?_
         have hEE : Below w10.heap.size w10 w23 := hEc
         exact ⟨b37, b35, A28, c28, A29, c29, hf.sub ⟨rfl, (by first | rfl | (simp [look, hc6b, hc18b])), (by first | rfl | (simp [look, hc6b, hc18b])), trivial⟩, hlo37, hB37, hlo35, hB35, ho28, ho29, hEE⟩
       ·refine p_eff rfl hf trivial rfl rfl (Ef.mono (ef_alloc (zs := [.int .i64 0, .int .i64 0, .slice none 0 0]) z_141 rfl) (fun _ _ h => ⟨fun _ => by obtain ⟨_, _, _, hE, _⟩ := h; exact hE, h⟩)) ?_; rintro a _ w24 ⟨b39, rfl, hl39, hE, hB39⟩ hf
        have hlo39 := Nat.le_trans hW.size hl39
        have hlc39 := Nat.le_trans hEc.size hl39
        replace hB2 := hB2.below hE
        replace hB3 := hB3.below hE
        replace hB26 := hB26.below hE
        replace ho15 := ho15.below hE
        replace ho14 := ho14.below hE
        replace ho28 := ho28.below hE
        replace hW := btr hW hE
        replace hEc := btr hEc hE
        clear hE
        refine s_two 11 13 (by kernel_rfl) ?_ ?_
        ·refine p_eff rfl hf trivial rfl rfl (Ef.mono (ef_call (vs := [.int .i64 (m.length : Int), .agg #[.int .i64 ((smallG m h).k), .int .i64 ((smallG m h).a), .int .i64 ((smallG m h).b)]]) hf rfl ff_143 (F143 _ (m.length : Int) (smallG m h) P.hs)) (fun _ _ h => ⟨fun _ => by obtain ⟨A40, c40, rfl, ho40, hE⟩ := h; exact hE, h⟩)) ?_; rintro a _ w25 ⟨A40, c40, rfl, ho40, hE⟩ hf
         replace ho40 := ho40.lower hW.size
         replace hB2 := hB2.below hE
         replace hB3 := hB3.below hE
         replace hB26 := hB26.below hE
         replace hB39 := hB39.below hE
         replace ho15 := ho15.below hE
         replace ho14 := ho14.below hE
         replace ho28 := ho28.below hE
         replace hW := btr hW hE
         replace hEc := btr hEc hE
         clear hE
         refine s_one 13 (by kernel_rfl) ?_
         refine p_eff rfl hf trivial rfl rfl (Ef.mono (ef_alloc (zs := [.int .i64 0, .int .i64 0, .slice none 0 0]) z_141 rfl) (fun _ _ h => ⟨fun _ => by obtain ⟨_, _, _, hE, _⟩ := h; exact hE, h⟩)) ?_; rintro a _ w26 ⟨b42, rfl, hl42, hE, hB42⟩ hf
         have hne39_42 : b39 ≠ b42 := by have := hB39.lt; omega
         have hlo42 := Nat.le_trans hW.size hl42
         have hlc42 := Nat.le_trans hEc.size hl42
         replace hB2 := hB2.below hE
         replace hB3 := hB3.below hE
         replace hB26 := hB26.below hE
         replace hB39 := hB39.below hE
         replace ho15 := ho15.below hE
         replace ho14 := ho14.below hE
         replace ho28 := ho28.below hE
         replace ho40 := ho40.below hE
         replace hW := btr hW hE
         replace hEc := btr hEc hE
         clear hE
         refine s_one 14 (by kernel_rfl) ?_
         refine p_eff0 rfl hf trivial rfl (Ef.mono (ef_store (vs := [.int .i64 ((gateS (m.length : Int) (smallG m g)).rows), .int .i64 ((gateS (m.length : Int) (smallG m g)).cols), .slice A28 ((gateS (m.length : Int) (smallG m g)).cells).length c28]) (l' := [.int .i64 ((gateS (m.length : Int) (smallG m g)).rows), .int .i64 ((gateS (m.length : Int) (smallG m g)).cols), .slice A28 ((gateS (m.length : Int) (smallG m g)).cells).length c28]) hf rfl rfl sz_141 hB39 rfl rfl rfl rfl rfl) (fun _ _ h => ⟨fun h0 => absurd h0 (by decide), h⟩)) ?_; rintro a _ w27 ⟨ho, hb⟩ hf
         have hold := hB39
         replace hB2 := hB2.only ho (Blk.ne hB2 hold rfl)
         replace hB3 := hB3.only ho (Blk.ne hB3 hold rfl)
         replace hB26 := hB26.only ho (Blk.ne hB26 hold rfl)
         replace hB42 := hB42.only ho (by omega)
         replace ho15 := ho15.onlyT ho hold rfl
         replace ho14 := ho14.onlyT ho hold rfl
         replace ho28 := ho28.onlyT ho hold rfl
         replace ho40 := ho40.onlyT ho hold rfl
         replace hEc := Below.only hEc ho hlc39
         replace hW := Below.only hW ho hlo39
         clear hold
         have hB39 := hb
         clear hb ho
         refine s_one 15 (by kernel_rfl) ?_
         refine p_eff0 rfl hf trivial rfl (Ef.mono (ef_store (vs := [.int .i64 ((gateS (m.length : Int) (smallG m h)).rows), .int .i64 ((gateS (m.length : Int) (smallG m h)).cols), .slice A40 ((gateS (m.length : Int) (smallG m h)).cells).length c40]) (l' := [.int .i64 ((gateS (m.length : Int) (smallG m h)).rows), .int .i64 ((gateS (m.length : Int) (smallG m h)).cols), .slice A40 ((gateS (m.length : Int) (smallG m h)).cells).length c40]) hf rfl rfl sz_141 hB42 rfl rfl rfl rfl rfl) (fun _ _ h => ⟨fun h0 => absurd h0 (by decide), h⟩)) ?_; rintro a _ w28 ⟨ho, hb⟩ hf
         have hold := hB42
         replace hB2 := hB2.only ho (Blk.ne hB2 hold rfl)
         replace hB3 := hB3.only ho (Blk.ne hB3 hold rfl)
         replace hB26 := hB26.only ho (Blk.ne hB26 hold rfl)
         replace hB39 := hB39.only ho (by omega)
         replace ho15 := ho15.onlyT ho hold rfl
         replace ho14 := ho14.onlyT ho hold rfl
         replace ho28 := ho28.onlyT ho hold rfl
         replace ho40 := ho40.onlyT ho hold rfl
         replace hEc := Below.only hEc ho hlc42
         replace hW := Below.only hW ho hlo42
         clear hold
         have hB42 := hb
         clear hb ho
         refine s_done (by kernel_rfl) ?_
         have hEE : Below w10.heap.size w10 w28 := hEc
         exact ⟨b39, b42, A28, c28, A40, c40, hf.sub ⟨rfl, (by first | rfl | (simp [look, hc6b, hc18b])), (by first | rfl | (simp [look, hc6b, hc18b])), trivial⟩, hlo39, hB39, hlo42, hB42, ho28, ho40, hEE⟩
        ·refine p_eff rfl hf trivial rfl rfl (Ef.mono (ef_alloc (zs := [.int .i64 0, .int .i64 0, .slice none 0 0]) z_141 rfl) (fun _ _ h => ⟨fun _ => by obtain ⟨_, _, _, hE, _⟩ := h; exact hE, h⟩)) ?_; rintro a _ w29 ⟨b44, rfl, hl44, hE, hB44⟩ hf
         have hne39_44 : b39 ≠ b44 := by have := hB39.lt; omega
         have hlo44 := Nat.le_trans hW.size hl44
         have hlc44 := Nat.le_trans hEc.size hl44
         replace hB2 := hB2.below hE
         replace hB3 := hB3.below hE
         replace hB26 := hB26.below hE
         replace hB39 := hB39.below hE
         replace ho15 := ho15.below hE
         replace ho14 := ho14.below hE
         replace ho28 := ho28.below hE
         replace hW := btr hW hE
         replace hEc := btr hEc hE
         clear hE
         refine s_one 11 (by kernel_rfl) ?_
         refine p_eff rfl hf trivial rfl rfl (Ef.mono (ef_call (vs := [.int .i64 (m.length : Int), .agg #[.int .i64 ((smallG m h).k), .int .i64 ((smallG m h).a), .int .i64 ((smallG m h).b)]]) hf rfl ff_143 (F143 _ (m.length : Int) (smallG m h) P.hs)) (fun _ _ h => ⟨fun _ => by obtain ⟨A45, c45, rfl, ho45, hE⟩ := h; exact hE, h⟩)) ?_; rintro a _ w30 ⟨A45, c45, rfl, ho45, hE⟩ hf
         replace ho45 := ho45.lower hW.size
         replace hB2 := hB2.below hE
         replace hB3 := hB3.below hE
         replace hB26 := hB26.below hE
         replace hB39 := hB39.below hE
         replace hB44 := hB44.below hE
         replace ho15 := ho15.below hE
         replace ho14 := ho14.below hE
         replace ho28 := ho28.below hE
         replace hW := btr hW hE
         replace hEc := btr hEc hE
         clear hE
         refine s_one 14 (by kernel_rfl) ?_
         refine p_eff0 rfl hf trivial rfl (Ef.mono (ef_store (vs := [.int .i64 ((gateS (m.length : Int) (smallG m g)).rows), .int .i64 ((gateS (m.length : Int) (smallG m g)).cols), .slice A28 ((gateS (m.length : Int) (smallG m g)).cells).length c28]) (l' := [.int .i64 ((gateS (m.length : Int) (smallG m g)).rows), .int .i64 ((gateS (m.length : Int) (smallG m g)).cols), .slice A28 ((gateS (m.length : Int) (smallG m g)).cells).length c28]) hf rfl rfl sz_141 hB39 rfl rfl rfl rfl rfl) (fun _ _ h => ⟨fun h0 => absurd h0 (by decide), h⟩)) ?_; rintro a _ w31 ⟨ho, hb⟩ hf
         have hold := hB39
         replace hB2 := hB2.only ho (Blk.ne hB2 hold rfl)
         replace hB3 := hB3.only ho (Blk.ne hB3 hold rfl)
         replace hB26 := hB26.only ho (Blk.ne hB26 hold rfl)
         replace hB44 := hB44.only ho (by omega)
         replace ho15 := ho15.onlyT ho hold rfl
         replace ho14 := ho14.onlyT ho hold rfl
         replace ho28 := ho28.onlyT ho hold rfl
         replace ho45 := ho45.onlyT ho hold rfl
         replace hEc := Below.only hEc ho hlc39
         replace hW := Below.only hW ho hlo39
         clear hold
         have hB39 := hb
         clear hb ho
         refine s_one 15 (by kernel_rfl) ?_
         refine p_eff0 rfl hf trivial rfl (Ef.mono (ef_store (vs := [.int .i64 ((gateS (m.length : Int) (smallG m h)).rows), .int .i64 ((gateS (m.length : Int) (smallG m h)).cols), .slice A45 ((gateS (m.length : Int) (smallG m h)).cells).length c45]) (l' := [.int .i64 ((gateS (m.length : Int) (smallG m h)).rows), .int .i64 ((gateS (m.length : Int) (smallG m h)).cols), .slice A45 ((gateS (m.length : Int) (smallG m h)).cells).length c45]) hf rfl rfl sz_141 hB44 rfl rfl rfl rfl rfl) (fun _ _ h => ⟨fun h0 => absurd h0 (by decide), h⟩)) ?_; rintro a _ w32 ⟨ho, hb⟩ hf
         have hold := hB44
         replace hB2 := hB2.only ho (Blk.ne hB2 hold rfl)
         replace hB3 := hB3.only ho (Blk.ne hB3 hold rfl)
         replace hB26 := hB26.only ho (Blk.ne hB26 hold rfl)
         replace hB39 := hB39.only ho (by omega)
         replace ho15 := ho15.onlyT ho hold rfl
         replace ho14 := ho14.onlyT ho hold rfl
         replace ho28 := ho28.onlyT ho hold rfl
         replace ho45 := ho45.onlyT ho hold rfl
         replace hEc := Below.only hEc ho hlc44
         replace hW := Below.only hW ho hlo44
         clear hold
         have hB44 := hb
         clear hb ho
         refine s_done (by kernel_rfl) ?_
         have hEE : Below w10.heap.size w10 w32 := hEc
         exact ⟨b39, b44, A28, c28, A45, c45, hf.sub ⟨rfl, (by first | rfl | (simp [look, hc6b, hc18b])), (by first | rfl | (simp [look, hc6b, hc18b])), trivial⟩, hlo39, hB39, hlo44, hB44, ho28, ho45, hEE⟩
       ·refine p_eff rfl hf trivial rfl rfl (Ef.mono (ef_alloc (zs := [.int .i64 0, .int .i64 0, .slice none 0 0]) z_141 rfl) (fun _ _ h => ⟨fun _ => by obtain ⟨_, _, _, hE, _⟩ := h; exact hE, h⟩)) ?_; rintro a _ w33 ⟨b47, rfl, hl47, hE, hB47⟩ hf
        have hlo47 := Nat.le_trans hW.size hl47
        have hlc47 := Nat.le_trans hEc.size hl47
        replace hB2 := hB2.below hE
        replace hB3 := hB3.below hE
        replace hB26 := hB26.below hE
        replace ho15 := ho15.below hE
        replace ho14 := ho14.below hE
        replace ho28 := ho28.below hE
        replace hW := btr hW hE
        replace hEc := btr hEc hE
        clear hE
        refine s_two 11 12 (by kernel_rfl) ?_ ?_
        ·refine p_eff rfl hf trivial rfl rfl (Ef.mono (ef_call (vs := [.int .i64 (m.length : Int), .agg #[.int .i64 ((smallG m h).k), .int .i64 ((smallG m h).a), .int .i64 ((smallG m h).b)]]) hf rfl ff_143 (F143 _ (m.length : Int) (smallG m h) P.hs)) (fun _ _ h => ⟨fun _ => by obtain ⟨A48, c48, rfl, ho48, hE⟩ := h; exact hE, h⟩)) ?_; rintro a _ w34 ⟨A48, c48, rfl, ho48, hE⟩ hf
         replace ho48 := ho48.lower hW.size
         replace hB2 := hB2.below hE
         replace hB3 := hB3.below hE
         replace hB26 := hB26.below hE
         replace hB47 := hB47.below hE
         replace ho15 := ho15.below hE
         replace ho14 := ho14.below hE
         replace ho28 := ho28.below hE
         replace hW := btr hW hE
         replace hEc := btr hEc hE
         clear hE
         refine s_one 12 (by kernel_rfl) ?_
         refine p_eff rfl hf trivial rfl rfl (Ef.mono (ef_alloc (zs := [.int .i64 0, .int .i64 0, .slice none 0 0]) z_141 rfl) (fun _ _ h => ⟨fun _ => by obtain ⟨_, _, _, hE, _⟩ := h; exact hE, h⟩)) ?_; rintro a _ w35 ⟨b50, rfl, hl50, hE, hB50⟩ hf
         have hne47_50 : b47 ≠ b50 := by have := hB47.lt; omega
         have hlo50 := Nat.le_trans hW.size hl50
         have hlc50 := Nat.le_trans hEc.size hl50
         replace hB2 := hB2.below hE
         replace hB3 := hB3.below hE
         replace hB26 := hB26.below hE
         replace hB47 := hB47.below hE
         replace ho15 := ho15.below hE
         replace ho14 := ho14.below hE
         replace ho28 := ho28.below hE
         replace ho48 := ho48.below hE
         replace hW := btr hW hE
         replace hEc := btr hEc hE
         clear hE
         refine s_one 14 (by kernel_rfl) ?_
         refine p_eff0 rfl hf trivial rfl (Ef.mono (ef_store (vs := [.int .i64 ((gateS (m.length : Int) (smallG m g)).rows), .int .i64 ((gateS (m.length : Int) (smallG m g)).cols), .slice A28 ((gateS (m.length : Int) (smallG m g)).cells).length c28]) (l' := [.int .i64 ((gateS (m.length : Int) (smallG m g)).rows), .int .i64 ((gateS (m.length : Int) (smallG m g)).cols), .slice A28 ((gateS (m.length : Int) (smallG m g)).cells).length c28]) hf rfl rfl sz_141 hB50 rfl rfl rfl rfl rfl) (fun _ _ h => ⟨fun h0 => absurd h0 (by decide), h⟩)) ?_; rintro a _ w36 ⟨ho, hb⟩ hf
         have hold := hB50
         replace hB2 := hB2.only ho (Blk.ne hB2 hold rfl)
         replace hB3 := hB3.only ho (Blk.ne hB3 hold rfl)
         replace hB26 := hB26.only ho (Blk.ne hB26 hold rfl)
         replace hB47 := hB47.only ho (by omega)
         replace ho15 := ho15.onlyT ho hold rfl
         replace ho14 := ho14.onlyT ho hold rfl
         replace ho28 := ho28.onlyT ho hold rfl
         replace ho48 := ho48.onlyT ho hold rfl
         replace hEc := Below.only hEc ho hlc50
         replace hW := Below.only hW ho hlo50
         clear hold
         have hB50 := hb
         clear hb ho
         refine s_one 15 (by kernel_rfl) ?_
         refine p_eff0 rfl hf trivial rfl (Ef.mono (ef_store (vs := [.int .i64 ((gateS (m.length : Int) (smallG m h)).rows), .int .i64 ((gateS (m.length : Int) (smallG m h)).cols), .slice A48 ((gateS (m.length : Int) (smallG m h)).cells).length c48]) (l' := [.int .i64 ((gateS (m.length : Int) (smallG m h)).rows), .int .i64 ((gateS (m.length : Int) (smallG m h)).cols), .slice A48 ((gateS (m.length : Int) (smallG m h)).cells).length c48]) hf rfl rfl sz_141 hB47 rfl rfl rfl rfl rfl) (fun _ _ h => ⟨fun h0 => absurd h0 (by decide), h⟩)) ?_; rintro a _ w37 ⟨ho, hb⟩ hf
         have hold := hB47
         replace hB2 := hB2.only ho (Blk.ne hB2 hold rfl)
         replace hB3 := hB3.only ho (Blk.ne hB3 hold rfl)
         replace hB26 := hB26.only ho (Blk.ne hB26 hold rfl)
         replace hB50 := hB50.only ho (by omega)
         replace ho15 := ho15.onlyT ho hold rfl
         replace ho14 := ho14.onlyT ho hold rfl
         replace ho28 := ho28.onlyT ho hold rfl
         replace ho48 := ho48.onlyT ho hold rfl
         replace hEc := Below.only hEc ho hlc47
         replace hW := Below.only hW ho hlo47
         clear hold
         have hB47 := hb
         clear hb ho
         refine s_done (by kernel_rfl) ?_
         have hEE : Below w10.heap.size w10 w37 := hEc
         exact ⟨b50, b47, A28, c28, A48, c48, hf.sub ⟨rfl, (by first | rfl | (simp [look, hc6b, hc18b])), (by first | rfl | (simp [look, hc6b, hc18b])), trivial⟩, hlo50, hB50, hlo47, hB47, ho28, ho48, hEE⟩
        ·refine p_eff rfl hf trivial rfl rfl (Ef.mono (ef_alloc (zs := [.int .i64 0, .int .i64 0, .slice none 0 0]) z_141 rfl) (fun _ _ h => ⟨fun _ => by obtain ⟨_, _, _, hE, _⟩ := h; exact hE, h⟩)) ?_; rintro a _ w38 ⟨b52, rfl, hl52, hE, hB52⟩ hf
         have hne47_52 : b47 ≠ b52 := by have := hB47.lt; omega
         have hlo52 := Nat.le_trans hW.size hl52
         have hlc52 := Nat.le_trans hEc.size hl52
         replace hB2 := hB2.below hE
         replace hB3 := hB3.below hE
         replace hB26 := hB26.below hE
         replace hB47 := hB47.below hE
         replace ho15 := ho15.below hE
         replace ho14 := ho14.below hE
         replace ho28 := ho28.below hE
         replace hW := btr hW hE
         replace hEc := btr hEc hE
         clear hE
         refine s_one 11 (by kernel_rfl) ?_
         refine p_eff rfl hf trivial rfl rfl (Ef.mono (ef_call (vs := [.int .i64 (m.length : Int), .agg #[.int .i64 ((smallG m h).k), .int .i64 ((smallG m h).a), .int .i64 ((smallG m h).b)]]) hf rfl ff_143 (F143 _ (m.length : Int) (smallG m h) P.hs)) (fun _ _ h => ⟨fun _ => by obtain ⟨A53, c53, rfl, ho53, hE⟩ := h; exact hE, h⟩)) ?_; rintro a _ w39 ⟨A53, c53, rfl, ho53, hE⟩ hf
         replace ho53 := ho53.lower hW.size
         replace hB2 := hB2.below hE
         replace hB3 := hB3.below hE
         replace hB26 := hB26.below hE
         replace hB47 := hB47.below hE
         replace hB52 := hB52.below hE
         replace ho15 := ho15.below hE
         replace ho14 := ho14.below hE
         replace ho28 := ho28.below hE
         replace hW := btr hW hE
         replace hEc := btr hEc hE
         clear hE
         refine s_one 14 (by kernel_rfl) ?_
         refine p_eff0 rfl hf trivial rfl (Ef.mono (ef_store (vs := [.int .i64 ((gateS (m.length : Int) (smallG m g)).rows), .int .i64 ((gateS (m.length : Int) (smallG m g)).cols), .slice A28 ((gateS (m.length : Int) (smallG m g)).cells).length c28]) (l' := [.int .i64 ((gateS (m.length : Int) (smallG m g)).rows), .int .i64 ((gateS (m.length : Int) (smallG m g)).cols), .slice A28 ((gateS (m.length : Int) (smallG m g)).cells).length c28]) hf rfl rfl sz_141 hB52 rfl rfl rfl rfl rfl) (fun _ _ h => ⟨fun h0 => absurd h0 (by decide), h⟩)) ?_; rintro a _ w40 ⟨ho, hb⟩ hf
         have hold := hB52
         replace hB2 := hB2.only ho (Blk.ne hB2 hold rfl)
         replace hB3 := hB3.only ho (Blk.ne hB3 hold rfl)
         replace hB26 := hB26.only ho (Blk.ne hB26 hold rfl)
         replace hB47 := hB47.only ho (by omega)
         replace ho15 := ho15.onlyT ho hold rfl
         replace ho14 := ho14.onlyT ho hold rfl
         replace ho28 := ho28.onlyT ho hold rfl
         replace ho53 := ho53.onlyT ho hold rfl
         replace hEc := Below.only hEc ho hlc52
         replace hW := Below.only hW ho hlo52
         clear hold
         have hB52 := hb
         clear hb ho
         refine s_one 15 (by kernel_rfl) ?_
         refine p_eff0 rfl hf trivial rfl (Ef.mono (ef_store (vs := [.int .i64 ((gateS (m.length : Int) (smallG m h)).rows), .int .i64 ((gateS (m.length : Int) (smallG m h)).cols), .slice A53 ((gateS (m.length : Int) (smallG m h)).cells).length c53]) (l' := [.int .i64 ((gateS (m.length : Int) (smallG m h)).rows), .int .i64 ((gateS (m.length : Int) (smallG m h)).cols), .slice A53 ((gateS (m.length : Int) (smallG m h)).cells).length c53]) hf rfl rfl sz_141 hB47 rfl rfl rfl rfl rfl) (fun _ _ h => ⟨fun h0 => absurd h0 (by decide), h⟩)) ?_; rintro a _ w41 ⟨ho, hb⟩ hf
         have hold := hB47
         replace hB2 := hB2.only ho (Blk.ne hB2 hold rfl)
         replace hB3 := hB3.only ho (Blk.ne hB3 hold rfl)
         replace hB26 := hB26.only ho (Blk.ne hB26 hold rfl)
         replace hB52 := hB52.only ho (by omega)
         replace ho15 := ho15.onlyT ho hold rfl
         replace ho14 := ho14.onlyT ho hold rfl
         replace ho28 := ho28.onlyT ho hold rfl
         replace ho53 := ho53.onlyT ho hold rfl
         replace hEc := Below.only hEc ho hlc47
         replace hW := Below.only hW ho hlo47
         clear hold
         have hB47 := hb
         clear hb ho
         refine s_done (by kernel_rfl) ?_
         have hEE : Below w10.heap.size w10 w41 := hEc
         exact ⟨b52, b47, A28, c28, A53, c53, hf.sub ⟨rfl, (by first | rfl | (simp [look, hc6b, hc18b])), (by first | rfl | (simp [look, hc6b, hc18b])), trivial⟩, hlo52, hB52, hlo47, hB47, ho28, ho53, hEE⟩
      ·refine p_eff rfl hf trivial rfl rfl (Ef.mono (ef_alloc (zs := [.int .i64 0, .int .i64 0, .slice none 0 0]) z_141 rfl) (fun _ _ h => ⟨fun _ => by obtain ⟨_, _, _, hE, _⟩ := h; exact hE, h⟩)) ?_; rintro a _ w42 ⟨b55, rfl, hl55, hE, hB55⟩ hf
       have hlo55 := Nat.le_trans hW.size hl55
       have hlc55 := Nat.le_trans hEc.size hl55
       replace hB2 := hB2.below hE
       replace hB3 := hB3.below hE
       replace hB26 := hB26.below hE
       replace ho15 := ho15.below hE
       replace ho14 := ho14.below hE
       replace ho28 := ho28.below hE
       replace hW := btr hW hE
       replace hEc := btr hEc hE
       clear hE
       refine s_two 10 13 (by kernel_rfl) ?_ ?_
       ·refine p_eff rfl hf trivial rfl rfl (Ef.mono (ef_call (vs := [.agg #[.int .i64 h.k, .int .i64 h.a, .int .i64 h.b], .slice A15 m.length c15]) hf rfl ff_144 (F144 _ h A15 c15 m ho15.rd.top P.hk P.ha P.inc P.hb hlm)) (fun _ _ h => ⟨fun _ => by obtain ⟨rfl, hE⟩ := h; exact hE, h⟩)) ?_; rintro a _ w43 ⟨rfl, hE⟩ hf
        replace hB2 := hB2.below hE
        replace hB3 := hB3.below hE
        replace hB26 := hB26.below hE
        replace hB55 := hB55.below hE
        replace ho15 := ho15.below hE
        replace ho14 := ho14.below hE
        replace ho28 := ho28.below hE
        replace hW := btr hW hE
        replace hEc := btr hEc hE
        clear hE
        refine s_two 11 13 (by kernel_rfl) ?_ ?_
        ·refine p_eff rfl hf trivial rfl rfl (Ef.mono (ef_call (vs := [.int .i64 (m.length : Int), .agg #[.int .i64 ((smallG m h).k), .int .i64 ((smallG m h).a), .int .i64 ((smallG m h).b)]]) hf rfl ff_143 (F143 _ (m.length : Int) (smallG m h) P.hs)) (fun _ _ h => ⟨fun _ => by obtain ⟨A56, c56, rfl, ho56, hE⟩ := h; exact hE, h⟩)) ?_; rintro a _ w44 ⟨A56, c56, rfl, ho56, hE⟩ hf
         replace ho56 := ho56.lower hW.size
         replace hB2 := hB2.below hE
         replace hB3 := hB3.below hE
         replace hB26 := hB26.below hE
         replace hB55 := hB55.below hE
         replace ho15 := ho15.below hE
         replace ho14 := ho14.below hE
         replace ho28 := ho28.below hE
         replace hW := btr hW hE
         replace hEc := btr hEc hE
         clear hE
         refine s_one 13 (by kernel_rfl) ?_
         refine p_eff rfl hf trivial rfl rfl (Ef.mono (ef_alloc (zs := [.int .i64 0, .int .i64 0, .slice none 0 0]) z_141 rfl) (fun _ _ h => ⟨fun _ => by obtain ⟨_, _, _, hE, _⟩ := h; exact hE, h⟩)) ?_; rintro a _ w45 ⟨b58, rfl, hl58, hE, hB58⟩ hf
         have hne55_58 : b55 ≠ b58 := by have := hB55.lt; omega
         have hlo58 := Nat.le_trans hW.size hl58
         have hlc58 := Nat.le_trans hEc.size hl58
         replace hB2 := hB2.below hE
         replace hB3 := hB3.below hE
         replace hB26 := hB26.below hE
         replace hB55 := hB55.below hE
         replace ho15 := ho15.below hE
         replace ho14 := ho14.below hE
         replace ho28 := ho28.below hE
         replace ho56 := ho56.below hE
         replace hW := btr hW hE
         replace hEc := btr hEc hE
         clear hE
         refine s_one 14 (by kernel_rfl) ?_
         refine p_eff0 rfl hf trivial rfl (Ef.mono (ef_store (vs := [.int .i64 ((gateS (m.length : Int) (smallG m g)).rows), .int .i64 ((gateS (m.length : Int) (smallG m g)).cols), .slice A28 ((gateS (m.length : Int) (smallG m g)).cells).length c28]) (l' := [.int .i64 ((gateS (m.length : Int) (smallG m g)).rows), .int .i64 ((gateS (m.length : Int) (smallG m g)).cols), .slice A28 ((gateS (m.length : Int) (smallG m g)).cells).length c28]) hf rfl rfl sz_141 hB55 rfl rfl rfl rfl rfl) (fun _ _ h => ⟨fun h0 => absurd h0 (by decide), h⟩)) ?_; rintro a _ w46 ⟨ho, hb⟩ hf
         have hold := hB55
         replace hB2 := hB2.only ho (Blk.ne hB2 hold rfl)
         replace hB3 := hB3.only ho (Blk.ne hB3 hold rfl)
         replace hB26 := hB26.only ho (Blk.ne hB26 hold rfl)
         replace hB58 := hB58.only ho (by omega)
         replace ho15 := ho15.onlyT ho hold rfl
         replace ho14 := ho14.onlyT ho hold rfl
         replace ho28 := ho28.onlyT ho hold rfl
         replace ho56 := ho56.onlyT ho hold rfl
         replace hEc := Below.only hEc ho hlc55
         replace hW := Below.only hW ho hlo55
         clear hold
         have hB55 := hb
         clear hb ho
         refine s_one 15 (by kernel_rfl) ?_
         refine p_eff0 rfl hf trivial rfl (Ef.mono (ef_store (vs := [.int .i64 ((gateS (m.length : Int) (smallG m h)).rows), .int .i64 ((gateS (m.length : Int) (smallG m h)).cols), .slice A56 ((gateS (m.length : Int) (smallG m h)).cells).length c56]) (l' := [.int .i64 ((gateS (m.length : Int) (smallG m h)).rows), .int .i64 ((gateS (m.length : Int) (smallG m h)).cols), .slice A56 ((gateS (m.length : Int) (smallG m h)).cells).length c56]) hf rfl rfl sz_141 hB58 rfl rfl rfl rfl rfl) (fun _ _ h => ⟨fun h0 => absurd h0 (by decide), h⟩)) ?_; rintro a _ w47 ⟨ho, hb⟩ hf
         have hold := hB58
         replace hB2 := hB2.only ho (Blk.ne hB2 hold rfl)
         replace hB3 := hB3.only ho (Blk.ne hB3 hold rfl)
         replace hB26 := hB26.only ho (Blk.ne hB26 hold rfl)
         replace hB55 := hB55.only ho (by omega)
         replace ho15 := ho15.onlyT ho hold rfl
         replace ho14 := ho14.onlyT ho hold rfl
         replace ho28 := ho28.onlyT ho hold rfl
         replace ho56 := ho56.onlyT ho hold rfl
         replace hEc := Below.only hEc ho hlc58
         replace hW := Below.only hW ho hlo58
         clear hold
         have hB58 := hb
         clear hb ho
         refine s_done (by kernel_rfl) ?_
         have hEE : Below w10.heap.size w10 w47 := hEc
         exact ⟨b55, b58, A28, c28, A56, c56, hf.sub ⟨rfl, (by first | rfl | (simp [look, hc6b, hc18b])), (by first | rfl | (simp [look, hc6b, hc18b])), trivial⟩, hlo55, hB55, hlo58, hB58, ho28, ho56, hEE⟩
        ·refine p_eff rfl hf trivial rfl rfl (Ef.mono (ef_alloc (zs := [.int .i64 0, .int .i64 0, .slice none 0 0]) z_141 rfl) (fun _ _ h => ⟨fun _ => by obtain ⟨_, _, _, hE, _⟩ := h; exact hE, h⟩)) ?_; rintro a _ w48 ⟨b60, rfl, hl60, hE, hB60⟩ hf
         have hne55_60 : b55 ≠ b60 := by have := hB55.lt; omega
         have hlo60 := Nat.le_trans hW.size hl60
         have hlc60 := Nat.le_trans hEc.size hl60
         replace hB2 := hB2.below hE
         replace hB3 := hB3.below hE
         replace hB26 := hB26.below hE
         replace hB55 := hB55.below hE
         replace ho15 := ho15.below hE
         replace ho14 := ho14.below hE
         replace ho28 := ho28.below hE
         replace hW := btr hW hE
         replace hEc := btr hEc hE
         clear hE
         refine s_one 11 (by kernel_rfl) ?_
         refine p_eff rfl hf trivial rfl rfl (Ef.mono (ef_call (vs := [.int .i64 (m.length : Int), .agg #[.int .i64 ((smallG m h).k), .int .i64 ((smallG m h).a), .int .i64 ((smallG m h).b)]]) hf rfl ff_143 (F143 _ (m.length : Int) (smallG m h) P.hs)) (fun _ _ h => ⟨fun _ => by obtain ⟨A61, c61, rfl, ho61, hE⟩ := h; exact hE, h⟩)) ?_; rintro a _ w49 ⟨A61, c61, rfl, ho61, hE⟩ hf
         replace ho61 := ho61.lower hW.size
         replace hB2 := hB2.below hE
         replace hB3 := hB3.below hE
         replace hB26 := hB26.below hE
         replace hB55 := hB55.below hE
         replace hB60 := hB60.below hE
         replace ho15 := ho15.below hE
         replace ho14 := ho14.below hE
         replace ho28 := ho28.below hE
         replace hW := btr hW hE
         replace hEc := btr hEc hE
         clear hE
         refine s_one 14 (by kernel_rfl) ?_
         refine p_eff0 rfl hf trivial rfl (Ef.mono (ef_store (vs := [.int .i64 ((gateS (m.length : Int) (smallG m g)).rows), .int .i64 ((gateS (m.length : Int) (smallG m g)).cols), .slice A28 ((gateS (m.length : Int) (smallG m g)).cells).length c28]) (l' := [.int .i64 ((gateS (m.length : Int) (smallG m g)).rows), .int .i64 ((gateS (m.length : Int) (smallG m g)).cols), .slice A28 ((gateS (m.length : Int) (smallG m g)).cells).length c28]) hf rfl rfl sz_141 hB55 rfl rfl rfl rfl rfl) (fun _ _ h => ⟨fun h0 => absurd h0 (by decide), h⟩)) ?_; rintro a _ w50 ⟨ho, hb⟩ hf
         have hold := hB55
         replace hB2 := hB2.only ho (Blk.ne hB2 hold rfl)
         replace hB3 := hB3.only ho (Blk.ne hB3 hold rfl)
         replace hB26 := hB26.only ho (Blk.ne hB26 hold rfl)
         replace hB60 := hB60.only ho (by omega)
         replace ho15 := ho15.onlyT ho hold rfl
         replace ho14 := ho14.onlyT ho hold rfl
         replace ho28 := ho28.onlyT ho hold rfl
         replace ho61 := ho61.onlyT ho hold rfl
         replace hEc := Below.only hEc ho hlc55
         replace hW := Below.only hW ho hlo55
         clear hold
         have hB55 := hb
         clear hb ho
         refine s_one 15 (by kernel_rfl) ?_
         refine p_eff0 rfl hf trivial rfl (Ef.mono (ef_store (vs := [.int .i64 ((gateS (m.length : Int) (smallG m h)).rows), .int .i64 ((gateS (m.length : Int) (smallG m h)).cols), .slice A61 ((gateS (m.length : Int) (smallG m h)).cells).length c61]) (l' := [.int .i64 ((gateS (m.length : Int) (smallG m h)).rows), .int .i64 ((gateS (m.length : Int) (smallG m h)).cols), .slice A61 ((gateS (m.length : Int) (smallG m h)).cells).length c61]) hf rfl rfl sz_141 hB60 rfl rfl rfl rfl rfl) (fun _ _ h => ⟨fun h0 => absurd h0 (by decide), h⟩)) ?_; rintro a _ w51 ⟨ho, hb⟩ hf
         have hold := hB60
         replace hB2 := hB2.only ho (Blk.ne hB2 hold rfl)
         replace hB3 := hB3.only ho (Blk.ne hB3 hold rfl)
         replace hB26 := hB26.only ho (Blk.ne hB26 hold rfl)
         replace hB55 := hB55.only ho (by omega)
         replace ho15 := ho15.onlyT ho hold rfl
         replace ho14 := ho14.onlyT ho hold rfl
         replace ho28 := ho28.onlyT ho hold rfl
         replace ho61 := ho61.onlyT ho hold rfl
         replace hEc := Below.only hEc ho hlc60
         replace hW := Below.only hW ho hlo60
         clear hold
         have hB60 := hb
         clear hb ho
         refine s_done (by kernel_rfl) ?_
         have hEE : Below w10.heap.size w10 w51 := hEc
         exact ⟨b55, b60, A28, c28, A61, c61, hf.sub ⟨rfl, (by first | rfl | (simp [look, hc6b, hc18b])), (by first | rfl | (simp [look, hc6b, hc18b])), trivial⟩, hlo55, hB55, hlo60, hB60, ho28, ho61, hEE⟩
       ·refine p_eff rfl hf trivial rfl rfl (Ef.mono (ef_alloc (zs := [.int .i64 0, .int .i64 0, .slice none 0 0]) z_141 rfl) (fun _ _ h => ⟨fun _ => by obtain ⟨_, _, _, hE, _⟩ := h; exact hE, h⟩)) ?_; rintro a _ w52 ⟨b63, rfl, hl63, hE, hB63⟩ hf
        have hne55_63 : b55 ≠ b63 := by have := hB55.lt; omega
        have hlo63 := Nat.le_trans hW.size hl63
        have hlc63 := Nat.le_trans hEc.size hl63
        replace hB2 := hB2.below hE
        replace hB3 := hB3.below hE
        replace hB26 := hB26.below hE
        replace hB55 := hB55.below hE
        replace ho15 := ho15.below hE
        replace ho14 := ho14.below hE
        replace ho28 := ho28.below hE
        replace hW := btr hW hE
        replace hEc := btr hEc hE
        clear hE
        refine s_one 10 (by kernel_rfl) ?_
        refine p_eff rfl hf trivial rfl rfl (Ef.mono (ef_call (vs := [.agg #[.int .i64 h.k, .int .i64 h.a, .int .i64 h.b], .slice A15 m.length c15]) hf rfl ff_144 (F144 _ h A15 c15 m ho15.rd.top P.hk P.ha P.inc P.hb hlm)) (fun _ _ h => ⟨fun _ => by obtain ⟨rfl, hE⟩ := h; exact hE, h⟩)) ?_; rintro a _ w53 ⟨rfl, hE⟩ hf
        replace hB2 := hB2.below hE
        replace hB3 := hB3.below hE
        replace hB26 := hB26.below hE
        replace hB55 := hB55.below hE
        replace hB63 := hB63.below hE
        replace ho15 := ho15.below hE
        replace ho14 := ho14.below hE
        replace ho28 := ho28.below hE
        replace hW := btr hW hE
        replace hEc := btr hEc hE
        clear hE
        refine s_one 11 (by kernel_rfl) ?_
        refine p_eff rfl hf trivial rfl rfl (Ef.mono (ef_call (vs := [.int .i64 (m.length : Int), .agg #[.int .i64 ((smallG m h).k), .int .i64 ((smallG m h).a), .int .i64 ((smallG m h).b)]]) hf rfl ff_143 (F143 _ (m.length : Int) (smallG m h) P.hs)) (fun _ _ h => ⟨fun _ => by obtain ⟨A64, c64, rfl, ho64, hE⟩ := h; exact hE, h⟩)) ?_; rintro a _ w54 ⟨A64, c64, rfl, ho64, hE⟩ hf
        replace ho64 := ho64.lower hW.size
        replace hB2 := hB2.below hE
        replace hB3 := hB3.below hE
        replace hB26 := hB26.below hE
        replace hB55 := hB55.below hE
        replace hB63 := hB63.below hE
        replace ho15 := ho15.below hE
        replace ho14 := ho14.below hE
        replace ho28 := ho28.below hE
        replace hW := btr hW hE
        replace hEc := btr hEc hE
        clear hE
        refine s_one 14 (by kernel_rfl) ?_
        refine p_eff0 rfl hf trivial rfl (Ef.mono (ef_store (vs := [.int .i64 ((gateS (m.length : Int) (smallG m g)).rows), .int .i64 ((gateS (m.length : Int) (smallG m g)).cols), .slice A28 ((gateS (m.length : Int) (smallG m g)).cells).length c28]) (l' := [.int .i64 ((gateS (m.length : Int) (smallG m g)).rows), .int .i64 ((gateS (m.length : Int) (smallG m g)).cols), .slice A28 ((gateS (m.length : Int) (smallG m g)).cells).length c28]) hf rfl rfl sz_141 hB55 rfl rfl rfl rfl rfl) (fun _ _ h => ⟨fun h0 => absurd h0 (by decide), h⟩)) ?_; rintro a _ w55 ⟨ho, hb⟩ hf
        have hold := hB55
        replace hB2 := hB2.only ho (Blk.ne hB2 hold rfl)
        replace hB3 := hB3.only ho (Blk.ne hB3 hold rfl)
        replace hB26 := hB26.only ho (Blk.ne hB26 hold rfl)
        replace hB63 := hB63.only ho (by omega)
        replace ho15 := ho15.onlyT ho hold rfl
        replace ho14 := ho14.onlyT ho hold rfl
        replace ho28 := ho28.onlyT ho hold rfl
        replace ho64 := ho64.onlyT ho hold rfl
        replace hEc := Below.only hEc ho hlc55
        replace hW := Below.only hW ho hlo55
        clear hold
        have hB55 := hb
        clear hb ho
        refine s_one 15 (by kernel_rfl) ?_
        refine p_eff0 rfl hf trivial rfl (Ef.mono (ef_store (vs := [.int .i64 ((gateS (m.length : Int) (smallG m h)).rows), .int .i64 ((gateS (m.length : Int) (smallG m h)).cols), .slice A64 ((gateS (m.length : Int) (smallG m h)).cells).length c64]) (l' := [.int .i64 ((gateS (m.length : Int) (smallG m h)).rows), .int .i64 ((gateS (m.length : Int) (smallG m h)).cols), .slice A64 ((gateS (m.length : Int) (smallG m h)).cells).length c64]) hf rfl rfl sz_141 hB63 rfl rfl rfl rfl rfl) (fun _ _ h => ⟨fun h0 => absurd h0 (by decide), h⟩)) ?_; rintro a _ w56 ⟨ho, hb⟩ hf
        have hold := hB63
        replace hB2 := hB2.only ho (Blk.ne hB2 hold rfl)
        replace hB3 := hB3.only ho (Blk.ne hB3 hold rfl)
        replace hB26 := hB26.only ho (Blk.ne hB26 hold rfl)
        replace hB55 := hB55.only ho (by omega)
        replace ho15 := ho15.onlyT ho hold rfl
        replace ho14 := ho14.onlyT ho hold rfl
        replace ho28 := ho28.onlyT ho hold rfl
        replace ho64 := ho64.onlyT ho hold rfl
        replace hEc := Below.only hEc ho hlc63
        replace hW := Below.only hW ho hlo63
        clear hold
        have hB63 := hb
        clear hb ho
        refine s_done (by kernel_rfl) ?_
        have hEE : Below w10.heap.size w10 w56 := hEc
        exact ⟨b55, b63, A28, c28, A64, c64, hf.sub ⟨rfl, (by first | rfl | (simp [look, hc6b, hc18b])), (by first | rfl | (simp [look, hc6b, hc18b])), trivial⟩, hlo55, hB55, hlo63, hB63, ho28, ho64, hEE⟩
      ·refine p_eff rfl hf trivial rfl rfl (Ef.mono (ef_alloc (zs := [.int .i64 0, .int .i64 0, .slice none 0 0]) z_141 rfl) (fun _ _ h => ⟨fun _ => by obtain ⟨_, _, _, hE, _⟩ := h; exact hE, h⟩)) ?_; rintro a _ w57 ⟨b66, rfl, hl66, hE, hB66⟩ hf
       have hlo66 := Nat.le_trans hW.size hl66
       have hlc66 := Nat.le_trans hEc.size hl66
       replace hB2 := hB2.below hE
       replace hB3 := hB3.below hE
       replace hB26 := hB26.below hE
       replace ho15 := ho15.below hE
       replace ho14 := ho14.below hE
       replace ho28 := ho28.below hE
       replace hW := btr hW hE
       replace hEc := btr hEc hE
       clear hE
       refine s_two 10 12 (by kernel_rfl) ?_ ?_
       ·refine p_eff rfl hf trivial rfl rfl (Ef.mono (ef_call (vs := [.agg #[.int .i64 h.k, .int .i64 h.a, .int .i64 h.b], .slice A15 m.length c15]) hf rfl ff_144 (F144 _ h A15 c15 m ho15.rd.top P.hk P.ha P.inc P.hb hlm)) (fun _ _ h => ⟨fun _ => by obtain ⟨rfl, hE⟩ := h; exact hE, h⟩)) ?_; rintro a _ w58 ⟨rfl, hE⟩ hf
        replace hB2 := hB2.below hE
        replace hB3 := hB3.below hE
        replace hB26 := hB26.below hE
        replace hB66 := hB66.below hE
        replace ho15 := ho15.below hE
        replace ho14 := ho14.below hE
        replace ho28 := ho28.below hE
        replace hW := btr hW hE
        replace hEc := btr hEc hE
        clear hE
        refine s_two 11 12 (by kernel_rfl) ?_ ?_
        ·refine p_eff rfl hf trivial rfl rfl (Ef.mono (ef_call (vs := [.int .i64 (m.length : Int), .agg #[.int .i64 ((smallG m h).k), .int .i64 ((smallG m h).a), .int .i64 ((smallG m h).b)]]) hf rfl ff_143 (F143 _ (m.length : Int) (smallG m h) P.hs)) (fun _ _ h => ⟨fun _ => by obtain ⟨A67, c67, rfl, ho67, hE⟩ := h; exact hE, h⟩)) ?_; rintro a _ w59 ⟨A67, c67, rfl, ho67, hE⟩ hf
         replace ho67 := ho67.lower hW.size
         replace hB2 := hB2.below hE
         replace hB3 := hB3.below hE
         replace hB26 := hB26.below hE
         replace hB66 := hB66.below hE
         replace ho15 := ho15.below hE
         replace ho14 := ho14.below hE
         replace ho28 := ho28.below hE
         replace hW := btr hW hE
         replace hEc := btr hEc hE
         clear hE
         refine s_one 12 (by kernel_rfl) ?_
         refine p_eff rfl hf trivial rfl rfl (Ef.mono (ef_alloc (zs := [.int .i64 0, .int .i64 0, .slice none 0 0]) z_141 rfl) (fun _ _ h => ⟨fun _ => by obtain ⟨_, _, _, hE, _⟩ := h; exact hE, h⟩)) ?_; rintro a _ w60 ⟨b69, rfl, hl69, hE, hB69⟩ hf
         have hne66_69 : b66 ≠ b69 := by have := hB66.lt; omega
         have hlo69 := Nat.le_trans hW.size hl69
         have hlc69 := Nat.le_trans hEc.size hl69
         replace hB2 := hB2.below hE
         replace hB3 := hB3.below hE
         replace hB26 := hB26.below hE
         replace hB66 := hB66.below hE
         replace ho15 := ho15.below hE
         replace ho14 := ho14.below hE
         replace ho28 := ho28.below hE
         replace ho67 := ho67.below hE
         replace hW := btr hW hE
         replace hEc := btr hEc hE
         clear hE
         refine s_one 14 (by kernel_rfl) ?_
         refine p_eff0 rfl hf trivial rfl (Ef.mono (ef_store (vs := [.int .i64 ((gateS (m.length : Int) (smallG m g)).rows), .int .i64 ((gateS (m.length : Int) (smallG m g)).cols), .slice A28 ((gateS (m.length : Int) (smallG m g)).cells).length c28]) (l' := [.int .i64 ((gateS (m.length : Int) (smallG m g)).rows), .int .i64 ((gateS (m.length : Int) (smallG m g)).cols), .slice A28 ((gateS (m.length : Int) (smallG m g)).cells).length c28]) hf rfl rfl sz_141 hB69 rfl rfl rfl rfl rfl) (fun _ _ h => ⟨fun h0 => absurd h0 (by decide), h⟩)) ?_; rintro a _ w61 ⟨ho, hb⟩ hf
         have hold := hB69
         replace hB2 := hB2.only ho (Blk.ne hB2 hold rfl)
         replace hB3 := hB3.only ho (Blk.ne hB3 hold rfl)
         replace hB26 := hB26.only ho (Blk.ne hB26 hold rfl)
         replace hB66 := hB66.only ho (by omega)
         replace ho15 := ho15.onlyT ho hold rfl
         replace ho14 := ho14.onlyT ho hold rfl
         replace ho28 := ho28.onlyT ho hold rfl
         replace ho67 := ho67.onlyT ho hold rfl
         replace hEc := Below.only hEc ho hlc69
         replace hW := Below.only hW ho hlo69
         clear hold
         have hB69 := hb
         clear hb ho
         refine s_one 15 (by kernel_rfl) ?_
         refine p_eff0 rfl hf trivial rfl (Ef.mono (ef_store (vs := [.int .i64 ((gateS (m.length : Int) (smallG m h)).rows), .int .i64 ((gateS (m.length : Int) (smallG m h)).cols), .slice A67 ((gateS (m.length : Int) (smallG m h)).cells).length c67]) (l' := [.int .i64 ((gateS (m.length : Int) (smallG m h)).rows), .int .i64 ((gateS (m.length : Int) (smallG m h)).cols), .slice A67 ((gateS (m.length : Int) (smallG m h)).cells).length c67]) hf rfl rfl sz_141 hB66 rfl rfl rfl rfl rfl) (fun _ _ h => ⟨fun h0 => absurd h0 (by decide), h⟩)) ?_; rintro a _ w62 ⟨ho, hb⟩ hf
         have hold := hB66
         replace hB2 := hB2.only ho (Blk.ne hB2 hold rfl)
         replace hB3 := hB3.only ho (Blk.ne hB3 hold rfl)
         replace hB26 := hB26.only ho (Blk.ne hB26 hold rfl)
         replace hB69 := hB69.only ho (by omega)
         replace ho15 := ho15.onlyT ho hold rfl
         replace ho14 := ho14.onlyT ho hold rfl
         replace ho28 := ho28.onlyT ho hold rfl
         replace ho67 := ho67.onlyT ho hold rfl
         replace hEc := Below.only hEc ho hlc66
         replace hW := Below.only hW ho hlo66
         clear hold
         have hB66 := hb
         clear hb ho
         refine s_done (by kernel_rfl) ?_
         have hEE : Below w10.heap.size w10 w62 := hEc
         exact ⟨b69, b66, A28, c28, A67, c67, hf.sub ⟨rfl, (by first | rfl | (simp [look, hc6b, hc18b])), (by first | rfl | (simp [look, hc6b, hc18b])), trivial⟩, hlo69, hB69, hlo66, hB66, ho28, ho67, hEE⟩
        ·refine p_eff rfl hf trivial rfl rfl (Ef.mono (ef_alloc (zs := [.int .i64 0, .int .i64 0, .slice none 0 0]) z_141 rfl) (fun _ _ h => ⟨fun _ => by obtain ⟨_, _, _, hE, _⟩ := h; exact hE, h⟩)) ?_; rintro a _ w63 ⟨b71, rfl, hl71, hE, hB71⟩ hf
         have hne66_71 : b66 ≠ b71 := by have := hB66.lt; omega
         have hlo71 := Nat.le_trans hW.size hl71
         have hlc71 := Nat.le_trans hEc.size hl71
         replace hB2 := hB2.below hE
         replace hB3 := hB3.below hE
         replace hB26 := hB26.below hE
         replace hB66 := hB66.below hE
         replace ho15 := ho15.below hE
         replace ho14 := ho14.below hE
         replace ho28 := ho28.below hE
         replace hW := btr hW hE
         replace hEc := btr hEc hE
         clear hE
         refine s_one 11 (by kernel_rfl) ?_
         refine p_eff rfl hf trivial rfl rfl (Ef.mono (ef_call (vs := [.int .i64 (m.length : Int), .agg #[.int .i64 ((smallG m h).k), .int .i64 ((smallG m h).a), .int .i64 ((smallG m h).b)]]) hf rfl ff_143 (F143 _ (m.length : Int) (smallG m h) P.hs)) (fun _ _ h => ⟨fun _ => by obtain ⟨A72, c72, rfl, ho72, hE⟩ := h; exact hE, h⟩)) ?_; rintro a _ w64 ⟨A72, c72, rfl, ho72, hE⟩ hf
         replace ho72 := ho72.lower hW.size
         replace hB2 := hB2.below hE
         replace hB3 := hB3.below hE
         replace hB26 := hB26.below hE
         replace hB66 := hB66.below hE
         replace hB71 := hB71.below hE
         replace ho15 := ho15.below hE
         replace ho14 := ho14.below hE
         replace ho28 := ho28.below hE
         replace hW := btr hW hE
         replace hEc := btr hEc hE
         clear hE
         refine s_one 14 (by kernel_rfl) ?_
         refine p_eff0 rfl hf trivial rfl (Ef.mono (ef_store (vs := [.int .i64 ((gateS (m.length : Int) (smallG m g)).rows), .int .i64 ((gateS (m.length : Int) (smallG m g)).cols), .slice A28 ((gateS (m.length : Int) (smallG m g)).cells).length c28]) (l' := [.int .i64 ((gateS (m.length : Int) (smallG m g)).rows), .int .i64 ((gateS (m.length : Int) (smallG m g)).cols), .slice A28 ((gateS (m.length : Int) (smallG m g)).cells).length c28]) hf rfl rfl sz_141 hB71 rfl rfl rfl rfl rfl) (fun _ _ h => ⟨fun h0 => absurd h0 (by decide), h⟩)) ?_; rintro a _ w65 ⟨ho, hb⟩ hf
         have hold := hB71
         replace hB2 := hB2.only ho (Blk.ne hB2 hold rfl)
         replace hB3 := hB3.only ho (Blk.ne hB3 hold rfl)
         replace hB26 := hB26.only ho (Blk.ne hB26 hold rfl)
         replace hB66 := hB66.only ho (by omega)
         replace ho15 := ho15.onlyT ho hold rfl
         replace ho14 := ho14.onlyT ho hold rfl
         replace ho28 := ho28.onlyT ho hold rfl
         replace ho72 := ho72.onlyT ho hold rfl
         replace hEc := Below.only hEc ho hlc71
         replace hW := Below.only hW ho hlo71
         clear hold
         have hB71 := hb
         clear hb ho
         refine s_one 15 (by kernel_rfl) ?_
         refine p_eff0 rfl hf trivial rfl (Ef.mono (ef_store (vs := [.int .i64 ((gateS (m.length : Int) (smallG m h)).rows), .int .i64 ((gateS (m.length : Int) (smallG m h)).cols), .slice A72 ((gateS (m.length : Int) (smallG m h)).cells).length c72]) (l' := [.int .i64 ((gateS (m.length : Int) (smallG m h)).rows), .int .i64 ((gateS (m.length : Int) (smallG m h)).cols), .slice A72 ((gateS (m.length : Int) (smallG m h)).cells).length c72]) hf rfl rfl sz_141 hB66 rfl rfl rfl rfl rfl) (fun _ _ h => ⟨fun h0 => absurd h0 (by decide), h⟩)) ?_; rintro a _ w66 ⟨ho, hb⟩ hf
         have hold := hB66
         replace hB2 := hB2.only ho (Blk.ne hB2 hold rfl)
         replace hB3 := hB3.only ho (Blk.ne hB3 hold rfl)
         replace hB26 := hB26.only ho (Blk.ne hB26 hold rfl)
         replace hB71 := hB71.only ho (by omega)
         replace ho15 := ho15.onlyT ho hold rfl
         replace ho14 := ho14.onlyT ho hold rfl
         replace ho28 := ho28.onlyT ho hold rfl
         replace ho72 := ho72.onlyT ho hold rfl
         replace hEc := Below.only hEc ho hlc66
         replace hW := Below.only hW ho hlo66
         clear hold
         have hB66 := hb
         clear hb ho
         refine s_done (by kernel_rfl) ?_
         have hEE : Below w10.heap.size w10 w66 := hEc
         exact ⟨b71, b66, A28, c28, A72, c72, hf.sub ⟨rfl, (by first | rfl | (simp [look, hc6b, hc18b])), (by first | rfl | (simp [look, hc6b, hc18b])), trivial⟩, hlo71, hB71, hlo66, hB66, ho28, ho72, hEE⟩
       ·refine p_eff rfl hf trivial rfl rfl (Ef.mono (ef_alloc (zs := [.int .i64 0, .int .i64 0, .slice none 0 0]) z_141 rfl) (fun _ _ h => ⟨fun _ => by obtain ⟨_, _, _, hE, _⟩ := h; exact hE, h⟩)) ?_; rintro a _ w67 ⟨b74, rfl, hl74, hE, hB74⟩ hf
        have hne66_74 : b66 ≠ b74 := by have := hB66.lt; omega
        have hlo74 := Nat.le_trans hW.size hl74
        have hlc74 := Nat.le_trans hEc.size hl74
        replace hB2 := hB2.below hE
        replace hB3 := hB3.below hE
        replace hB26 := hB26.below hE
        replace hB66 := hB66.below hE
        replace ho15 := ho15.below hE
        replace ho14 := ho14.below hE
        replace ho28 := ho28.below hE
        replace hW := btr hW hE
        replace hEc := btr hEc hE
        clear hE
        refine s_one 10 (by kernel_rfl) ?_
        refine p_eff rfl hf trivial rfl rfl (Ef.mono (ef_call (vs := [.agg #[.int .i64 h.k, .int .i64 h.a, .int .i64 h.b], .slice A15 m.length c15]) hf rfl ff_144 (F144 _ h A15 c15 m ho15.rd.top P.hk P.ha P.inc P.hb hlm)) (fun _ _ h => ⟨fun _ => by obtain ⟨rfl, hE⟩ := h; exact hE, h⟩)) ?_; rintro a _ w68 ⟨rfl, hE⟩ hf
        replace hB2 := hB2.below hE
        replace hB3 := hB3.below hE
        replace hB26 := hB26.below hE
        replace hB66 := hB66.below hE
        replace hB74 := hB74.below hE
        replace ho15 := ho15.below hE
        replace ho14 := ho14.below hE
        replace ho28 := ho28.below hE
        replace hW := btr hW hE
        replace hEc := btr hEc hE
        clear hE
        refine s_one 11 (by kernel_rfl) ?_
        refine p_eff rfl hf trivial rfl rfl (Ef.mono (ef_call (vs := [.int .i64 (m.length : Int), .agg #[.int .i64 ((smallG m h).k), .int .i64 ((smallG m h).a), .int .i64 ((smallG m h).b)]]) hf rfl ff_143 (F143 _ (m.length : Int) (smallG m h) P.hs)) (fun _ _ h => ⟨fun _ => by obtain ⟨A75, c75, rfl, ho75, hE⟩ := h; exact hE, h⟩)) ?_; rintro a _ w69 ⟨A75, c75, rfl, ho75, hE⟩ hf
        replace ho75 := ho75.lower hW.size
        replace hB2 := hB2.below hE
        replace hB3 := hB3.below hE
        replace hB26 := hB26.below hE
        replace hB66 := hB66.below hE
        replace hB74 := hB74.below hE
        replace ho15 := ho15.below hE
        replace ho14 := ho14.below hE
        replace ho28 := ho28.below hE
        replace hW := btr hW hE
        replace hEc := btr hEc hE
        clear hE
        refine s_one 14 (by kernel_rfl) ?_
        refine p_eff0 rfl hf trivial rfl (Ef.mono (ef_store (vs := [.int .i64 ((gateS (m.length : Int) (smallG m g)).rows), .int .i64 ((gateS (m.length : Int) (smallG m g)).cols), .slice A28 ((gateS (m.length : Int) (smallG m g)).cells).length c28]) (l' := [.int .i64 ((gateS (m.length : Int) (smallG m g)).rows), .int .i64 ((gateS (m.length : Int) (smallG m g)).cols), .slice A28 ((gateS (m.length : Int) (smallG m g)).cells).length c28]) hf rfl rfl sz_141 hB74 rfl rfl rfl rfl rfl) (fun _ _ h => ⟨fun h0 => absurd h0 (by decide), h⟩)) ?_; rintro a _ w70 ⟨ho, hb⟩ hf
        have hold := hB74
        replace hB2 := hB2.only ho (Blk.ne hB2 hold rfl)
        replace hB3 := hB3.only ho (Blk.ne hB3 hold rfl)
        replace hB26 := hB26.only ho (Blk.ne hB26 hold rfl)
        replace hB66 := hB66.only ho (by omega)
        replace ho15 := ho15.onlyT ho hold rfl
        replace ho14 := ho14.onlyT ho hold rfl
        replace ho28 := ho28.onlyT ho hold rfl
        replace ho75 := ho75.onlyT ho hold rfl
        replace hEc := Below.only hEc ho hlc74
        replace hW := Below.only hW ho hlo74
        clear hold
        have hB74 := hb
        clear hb ho
        refine s_one 15 (by kernel_rfl) ?_
        refine p_eff0 rfl hf trivial rfl (Ef.mono (ef_store (vs := [.int .i64 ((gateS (m.length : Int) (smallG m h)).rows), .int .i64 ((gateS (m.length : Int) (smallG m h)).cols), .slice A75 ((gateS (m.length : Int) (smallG m h)).cells).length c75]) (l' := [.int .i64 ((gateS (m.length : Int) (smallG m h)).rows), .int .i64 ((gateS (m.length : Int) (smallG m h)).cols), .slice A75 ((gateS (m.length : Int) (smallG m h)).cells).length c75]) hf rfl rfl sz_141 hB66 rfl rfl rfl rfl rfl) (fun _ _ h => ⟨fun h0 => absurd h0 (by decide), h⟩)) ?_; rintro a _ w71 ⟨ho, hb⟩ hf
        have hold := hB66
        replace hB2 := hB2.only ho (Blk.ne hB2 hold rfl)
        replace hB3 := hB3.only ho (Blk.ne hB3 hold rfl)
        replace hB26 := hB26.only ho (Blk.ne hB26 hold rfl)
        replace hB74 := hB74.only ho (by omega)
        replace ho15 := ho15.onlyT ho hold rfl
        replace ho14 := ho14.onlyT ho hold rfl
        replace ho28 := ho28.onlyT ho hold rfl
        replace ho75 := ho75.onlyT ho hold rfl
        replace hEc := Below.only hEc ho hlc66
        replace hW := Below.only hW ho hlo66
        clear hold
        have hB66 := hb
        clear hb ho
        refine s_done (by kernel_rfl) ?_
        have hEE : Below w10.heap.size w10 w71 := hEc
        exact ⟨b74, b66, A28, c28, A75, c75, hf.sub ⟨rfl, (by first | rfl | (simp [look, hc6b, hc18b])), (by first | rfl | (simp [look, hc6b, hc18b])), trivial⟩, hlo74, hB74, hlo66, hB66, ho28, ho75, hEE⟩
     ·refine p_eff rfl hf trivial rfl rfl (Ef.mono (ef_alloc (zs := [.int .i64 0, .int .i64 0, .slice none 0 0]) z_141 rfl) (fun _ _ h => ⟨fun _ => by obtain ⟨_, _, _, hE, _⟩ := h; exact hE, h⟩)) ?_; rintro a _ w72 ⟨b77, rfl, hl77, hE, hB77⟩ hf
      have hlo77 := Nat.le_trans hW.size hl77
      have hlc77 := Nat.le_trans hEc.size hl77
      replace hB2 := hB2.below hE
      replace hB3 := hB3.below hE
      replace hB26 := hB26.below hE
      replace ho15 := ho15.below hE
      replace ho14 := ho14.below hE
      replace hW := btr hW hE
      replace hEc := btr hEc hE
      clear hE
      refine s_two 5 13 (by kernel_rfl) ?_ ?_
      ·refine p_eff rfl hf trivial rfl rfl (Ef.mono (ef_call (vs := [.int .i64 (m.length : Int), .agg #[.int .i64 ((smallG m g).k), .int .i64 ((smallG m g).a), .int .i64 ((smallG m g).b)]]) hf rfl ff_143 (F143 _ (m.length : Int) (smallG m g) P.gs)) (fun _ _ h => ⟨fun _ => by obtain ⟨A78, c78, rfl, ho78, hE⟩ := h; exact hE, h⟩)) ?_; rintro a _ w73 ⟨A78, c78, rfl, ho78, hE⟩ hf
       replace ho78 := ho78.lower hW.size
       replace hB2 := hB2.below hE
       replace hB3 := hB3.below hE
       replace hB26 := hB26.below hE
       replace hB77 := hB77.below hE
       replace ho15 := ho15.below hE
       replace ho14 := ho14.below hE
       replace hW := btr hW hE
       replace hEc := btr hEc hE
       clear hE
       refine s_two 10 13 (by kernel_rfl) ?_ ?_
       ·refine p_eff rfl hf trivial rfl rfl (Ef.mono (ef_call (vs := [.agg #[.int .i64 h.k, .int .i64 h.a, .int .i64 h.b], .slice A15 m.length c15]) hf rfl ff_144 (F144 _ h A15 c15 m ho15.rd.top P.hk P.ha P.inc P.hb hlm)) (fun _ _ h => ⟨fun _ => by obtain ⟨rfl, hE⟩ := h; exact hE, h⟩)) ?_; rintro a _ w74 ⟨rfl, hE⟩ hf
        replace hB2 := hB2.below hE
        replace hB3 := hB3.below hE
        replace hB26 := hB26.below hE
        replace hB77 := hB77.below hE
        replace ho15 := ho15.below hE
        replace ho14 := ho14.below hE
        replace ho78 := ho78.below hE
        replace hW := btr hW hE
        replace hEc := btr hEc hE
        clear hE
        refine s_two 11 13 (by kernel_rfl) ?_ ?_
        ·refine p_eff rfl hf trivial rfl rfl (Ef.mono (ef_call (vs := [.int .i64 (m.length : Int), .agg #[.int .i64 ((smallG m h).k), .int .i64 ((smallG m h).a), .int .i64 ((smallG m h).b)]]) hf rfl ff_143 (F143 _ (m.length : Int) (smallG m h) P.hs)) (fun _ _ h => ⟨fun _ => by obtain ⟨A79, c79, rfl, ho79, hE⟩ := h; exact hE, h⟩)) ?_; rintro a _ w75 ⟨A79, c79, rfl, ho79, hE⟩ hf
         replace ho79 := ho79.lower hW.size
         replace hB2 := hB2.below hE
         replace hB3 := hB3.below hE
         replace hB26 := hB26.below hE
         replace hB77 := hB77.below hE
         replace ho15 := ho15.below hE
         replace ho14 := ho14.below hE
         replace ho78 := ho78.below hE
         replace hW := btr hW hE
         replace hEc := btr hEc hE
         clear hE
         refine s_one 13 (by kernel_rfl) ?_
         refine p_eff rfl hf trivial rfl rfl (Ef.mono (ef_alloc (zs := [.int .i64 0, .int .i64 0, .slice none 0 0]) z_141 rfl) (fun _ _ h => ⟨fun _ => by obtain ⟨_, _, _, hE, _⟩ := h; exact hE, h⟩)) ?_; rintro a _ w76 ⟨b81, rfl, hl81, hE, hB81⟩ hf
         have hne77_81 : b77 ≠ b81 := by have := hB77.lt; omega
         have hlo81 := Nat.le_trans hW.size hl81
         have hlc81 := Nat.le_trans hEc.size hl81
         replace hB2 := hB2.below hE
         replace hB3 := hB3.below hE
         replace hB26 := hB26.below hE
         replace hB77 := hB77.below hE
         replace ho15 := ho15.below hE
         replace ho14 := ho14.below hE
         replace ho78 := ho78.below hE
         replace ho79 := ho79.below hE
         replace hW := btr hW hE
         replace hEc := btr hEc hE
         clear hE
         refine s_one 14 (by kernel_rfl) ?_
         refine p_eff0 rfl hf trivial rfl (Ef.mono (ef_store (vs := [.int .i64 ((gateS (m.length : Int) (smallG m g)).rows), .int .i64 ((gateS (m.length : Int) (smallG m g)).cols), .slice A78 ((gateS (m.length : Int) (smallG m g)).cells).length c78]) (l' := [.int .i64 ((gateS (m.length : Int) (smallG m g)).rows), .int .i64 ((gateS (m.length : Int) (smallG m g)).cols), .slice A78 ((gateS (m.length : Int) (smallG m g)).cells).length c78]) hf rfl rfl sz_141 hB77 rfl rfl rfl rfl rfl) (fun _ _ h => ⟨fun h0 => absurd h0 (by decide), h⟩)) ?_; rintro a _ w77 ⟨ho, hb⟩ hf
         have hold := hB77
         replace hB2 := hB2.only ho (Blk.ne hB2 hold rfl)
         replace hB3 := hB3.only ho (Blk.ne hB3 hold rfl)
         replace hB26 := hB26.only ho (Blk.ne hB26 hold rfl)
         replace hB81 := hB81.only ho (by omega)
         replace ho15 := ho15.onlyT ho hold rfl
         replace ho14 := ho14.onlyT ho hold rfl
         replace ho78 := ho78.onlyT ho hold rfl
         replace ho79 := ho79.onlyT ho hold rfl
         replace hEc := Below.only hEc ho hlc77
         replace hW := Below.only hW ho hlo77
         clear hold
         have hB77 := hb
         clear hb ho
         refine s_one 15 (by kernel_rfl) ?_
         refine p_eff0 rfl hf trivial rfl (Ef.mono (ef_store (vs := [.int .i64 ((gateS (m.length : Int) (smallG m h)).rows), .int .i64 ((gateS (m.length : Int) (smallG m h)).cols), .slice A79 ((gateS (m.length : Int) (smallG m h)).cells).length c79]) (l' := [.int .i64 ((gateS (m.length : Int) (smallG m h)).rows), .int .i64 ((gateS (m.length : Int) (smallG m h)).cols), .slice A79 ((gateS (m.length : Int) (smallG m h)).cells).length c79]) hf rfl rfl sz_141 hB81 rfl rfl rfl rfl rfl) (fun _ _ h => ⟨fun h0 => absurd h0 (by decide), h⟩)) ?_; rintro a _ w78 ⟨ho, hb⟩ hf
         have hold := hB81
         replace hB2 := hB2.only ho (Blk.ne hB2 hold rfl)
         replace hB3 := hB3.only ho (Blk.ne hB3 hold rfl)
         replace hB26 := hB26.only ho (Blk.ne hB26 hold rfl)
         replace hB77 := hB77.only ho (by omega)
         replace ho15 := ho15.onlyT ho hold rfl
         replace ho14 := ho14.onlyT ho hold rfl
         replace ho78 := ho78.onlyT ho hold rfl
         replace ho79 := ho79.onlyT ho hold rfl
         replace hEc := Below.only hEc ho hlc81
         replace hW := Below.only hW ho hlo81
         clear hold
         have hB81 := hb
         clear hb ho
         refine s_done (by kernel_rfl) ?_
         have hEE : Below w10.heap.size w10 w78 := hEc
         exact ⟨b77, b81, A78, c78, A79, c79, hf.sub ⟨rfl, (by first | rfl | (simp [look, hc6b, hc18b])), (by first | rfl | (simp [look, hc6b, hc18b])), trivial⟩, hlo77, hB77, hlo81, hB81, ho78, ho79, hEE⟩
        ·refine p_eff rfl hf trivial rfl rfl (Ef.mono (ef_alloc (zs := [.int .i64 0, .int .i64 0, .slice none 0 0]) z_141 rfl) (fun _ _ h => ⟨fun _ => by obtain ⟨_, _, _, hE, _⟩ := h; exact hE, h⟩)) ?_; rintro a _ w79 ⟨b83, rfl, hl83, hE, hB83⟩ hf
         have hne77_83 : b77 ≠ b83 := by have := hB77.lt; omega
         have hlo83 := Nat.le_trans hW.size hl83
         have hlc83 := Nat.le_trans hEc.size hl83
         replace hB2 := hB2.below hE
         replace hB3 := hB3.below hE
         replace hB26 := hB26.below hE
         replace hB77 := hB77.below hE
         replace ho15 := ho15.below hE
         replace ho14 := ho14.below hE
         replace ho78 := ho78.below hE
         replace hW := btr hW hE
         replace hEc := btr hEc hE
         clear hE
         refine s_one 11 (by kernel_rfl) ?_
         refine p_eff rfl hf trivial rfl rfl (Ef.mono (ef_call (vs := [.int .i64 (m.length : Int), .agg #[.int .i64 ((smallG m h).k), .int .i64 ((smallG m h).a), .int .i64 ((smallG m h).b)]]) hf rfl ff_143 (F143 _ (m.length : Int) (smallG m h) P.hs)) (fun _ _ h => ⟨fun _ => by obtain ⟨A84, c84, rfl, ho84, hE⟩ := h; exact hE, h⟩)) ?_; rintro a _ w80 ⟨A84, c84, rfl, ho84, hE⟩ hf
         replace ho84 := ho84.lower hW.size
         replace hB2 := hB2.below hE
         replace hB3 := hB3.below hE
         replace hB26 := hB26.below hE
         replace hB77 := hB77.below hE
         replace hB83 := hB83.below hE
         replace ho15 := ho15.below hE
         replace ho14 := ho14.below hE
         replace ho78 := ho78.below hE
         replace hW := btr hW hE
         replace hEc := btr hEc hE
         clear hE
         refine s_one 14 (by kernel_rfl) ?_
         refine p_eff0 rfl hf trivial rfl (Ef.mono (ef_store (vs := [.int .i64 ((gateS (m.length : Int) (smallG m g)).rows), .int .i64 ((gateS (m.length : Int) (smallG m g)).cols), .slice A78 ((gateS (m.length : Int) (smallG m g)).cells).length c78]) (l' := [.int .i64 ((gateS (m.length : Int) (smallG m g)).rows), .int .i64 ((gateS (m.length : Int) (smallG m g)).cols), .slice A78 ((gateS (m.length : Int) (smallG m g)).cells).length c78]) hf rfl rfl sz_141 hB77 rfl rfl rfl rfl rfl) (fun _ _ h => ⟨fun h0 => absurd h0 (by decide), h⟩)) ?_; rintro a _ w81 ⟨ho, hb⟩ hf
         have hold := hB77
         replace hB2 := hB2.only ho (Blk.ne hB2 hold rfl)
         replace hB3 := hB3.only ho (Blk.ne hB3 hold rfl)
         replace hB26 := hB26.only ho (Blk.ne hB26 hold rfl)
         replace hB83 := hB83.only ho (by omega)
         replace ho15 := ho15.onlyT ho hold rfl
         replace ho14 := ho14.onlyT ho hold rfl
         replace ho78 := ho78.onlyT ho hold rfl
         replace ho84 := ho84.onlyT ho hold rfl
         replace hEc := Below.only hEc ho hlc77
         replace hW := Below.only hW ho hlo77
         clear hold
         have hB77 := hb
         clear hb ho
         refine s_one 15 (by kernel_rfl) ?_
         refine p_eff0 rfl hf trivial rfl (Ef.mono (ef_store (vs := [.int .i64 ((gateS (m.length : Int) (smallG m h)).rows), .int .i64 ((gateS (m.length : Int) (smallG m h)).cols), .slice A84 ((gateS (m.length : Int) (smallG m h)).cells).length c84]) (l' := [.int .i64 ((gateS (m.length : Int) (smallG m h)).rows), .int .i64 ((gateS (m.length : Int) (smallG m h)).cols), .slice A84 ((gateS (m.length : Int) (smallG m h)).cells).length c84]) hf rfl rfl sz_141 hB83 rfl rfl rfl rfl rfl) (fun _ _ h => ⟨fun h0 => absurd h0 (by decide), h⟩)) ?_; rintro a _ w82 ⟨ho, hb⟩ hf
         have hold := hB83
         replace hB2 := hB2.only ho (Blk.ne hB2 hold rfl)
         replace hB3 := hB3.only ho (Blk.ne hB3 hold rfl)
         replace hB26 := hB26.only ho (Blk.ne hB26 hold rfl)
         replace hB77 := hB77.only ho (by omega)
         replace ho15 := ho15.onlyT ho hold rfl
         replace ho14 := ho14.onlyT ho hold rfl
         replace ho78 := ho78.onlyT ho hold rfl
         replace ho84 := ho84.onlyT ho hold rfl
         replace hEc := Below.only hEc ho hlc83
         replace hW := Below.only hW ho hlo83
         clear hold
         have hB83 := hb
         clear hb ho
         refine s_done (by kernel_rfl) ?_
         have hEE : Below w10.heap.size w10 w82 := hEc
         exact ⟨b77, b83, A78, c78, A84, c84, hf.sub ⟨rfl, (by first | rfl | (simp [look, hc6b, hc18b])), (by first | rfl | (simp [look, hc6b, hc18b])), trivial⟩, hlo77, hB77, hlo83, hB83, ho78, ho84, hEE⟩
       ·refine p_eff rfl hf trivial rfl rfl (Ef.mono (ef_alloc (zs := [.int .i64 0, .int .i64 0, .slice none 0 0]) z_141 rfl) (fun _ _ h => ⟨fun _ => by obtain ⟨_, _, _, hE, _⟩ := h; exact hE, h⟩)) ?_; rintro a _ w83 ⟨b86, rfl, hl86, hE, hB86⟩ hf
        have hne77_86 : b77 ≠ b86 := by have := hB77.lt; omega
        have hlo86 := Nat.le_trans hW.size hl86
        have hlc86 := Nat.le_trans hEc.size hl86
        replace hB2 := hB2.below hE
        replace hB3 := hB3.below hE
        replace hB26 := hB26.below hE
        replace hB77 := hB77.below hE
        replace ho15 := ho15.below hE
        replace ho14 := ho14.below hE
        replace ho78 := ho78.below hE
        replace hW := btr hW hE
        replace hEc := btr hEc hE
        clear hE
        refine s_one 10 (by kernel_rfl) ?_
        refine p_eff rfl hf trivial rfl rfl (Ef.mono (ef_call (vs := [.agg #[.int .i64 h.k, .int .i64 h.a, .int .i64 h.b], .slice A15 m.length c15]) hf rfl ff_144 (F144 _ h A15 c15 m ho15.rd.top P.hk P.ha P.inc P.hb hlm)) (fun _ _ h => ⟨fun _ => by obtain ⟨rfl, hE⟩ := h; exact hE, h⟩)) ?_; rintro a _ w84 ⟨rfl, hE⟩ hf
        replace hB2 := hB2.below hE
        replace hB3 := hB3.below hE
        replace hB26 := hB26.below hE
        replace hB77 := hB77.below hE
        replace hB86 := hB86.below hE
        replace ho15 := ho15.below hE
        replace ho14 := ho14.below hE
        replace ho78 := ho78.below hE
        replace hW := btr hW hE
        replace hEc := btr hEc hE
        clear hE
        refine s_one 11 (by kernel_rfl) ?_
        refine p_eff rfl hf trivial rfl rfl (Ef.mono (ef_call (vs := [.int .i64 (m.length : Int), .agg #[.int .i64 ((smallG m h).k), .int .i64 ((smallG m h).a), .int .i64 ((smallG m h).b)]]) hf rfl ff_143 (F143 _ (m.length : Int) (smallG m h) P.hs)) (fun _ _ h => ⟨fun _ => by obtain ⟨A87, c87, rfl, ho87, hE⟩ := h; exact hE, h⟩)) ?_; rintro a _ w85 ⟨A87, c87, rfl, ho87, hE⟩ hf
        replace ho87 := ho87.lower hW.size
        replace hB2 := hB2.below hE
        replace hB3 := hB3.below hE
        replace hB26 := hB26.below hE
        replace hB77 := hB77.below hE
        replace hB86 := hB86.below hE
        replace ho15 := ho15.below hE
        replace ho14 := ho14.below hE
        replace ho78 := ho78.below hE
        replace hW := btr hW hE
        replace hEc := btr hEc hE
        clear hE
        refine s_one 14 (by kernel_rfl) ?_
        refine p_eff0 rfl hf trivial rfl (Ef.mono (ef_store (vs := [.int .i64 ((gateS (m.length : Int) (smallG m g)).rows), .int .i64 ((gateS (m.length : Int) (smallG m g)).cols), .slice A78 ((gateS (m.length : Int) (smallG m g)).cells).length c78]) (l' := [.int .i64 ((gateS (m.length : Int) (smallG m g)).rows), .int .i64 ((gateS (m.length : Int) (smallG m g)).cols), .slice A78 ((gateS (m.length : Int) (smallG m g)).cells).length c78]) hf rfl rfl sz_141 hB77 rfl rfl rfl rfl rfl) (fun _ _ h => ⟨fun h0 => absurd h0 (by decide), h⟩)) ?_; rintro a _ w86 ⟨ho, hb⟩ hf
        have hold := hB77
        replace hB2 := hB2.only ho (Blk.ne hB2 hold rfl)
        replace hB3 := hB3.only ho (Blk.ne hB3 hold rfl)
        replace hB26 := hB26.only ho (Blk.ne hB26 hold rfl)
        replace hB86 := hB86.only ho (by omega)
        replace ho15 := ho15.onlyT ho hold rfl
        replace ho14 := ho14.onlyT ho hold rfl
        replace ho78 := ho78.onlyT ho hold rfl
        replace ho87 := ho87.onlyT ho hold rfl
        replace hEc := Below.only hEc ho hlc77
        replace hW := Below.only hW ho hlo77
        clear hold
        have hB77 := hb
        clear hb ho
        refine s_one 15 (by kernel_rfl) ?_
        refine p_eff0 rfl hf trivial rfl (Ef.mono (ef_store (vs := [.int .i64 ((gateS (m.length : Int) (smallG m h)).rows), .int .i64 ((gateS (m.length : Int) (smallG m h)).cols), .slice A87 ((gateS (m.length : Int) (smallG m h)).cells).length c87]) (l' := [.int .i64 ((gateS (m.length : Int) (smallG m h)).rows), .int .i64 ((gateS (m.length : Int) (smallG m h)).cols), .slice A87 ((gateS (m.length : Int) (smallG m h)).cells).length c87]) hf rfl rfl sz_141 hB86 rfl rfl rfl rfl rfl) (fun _ _ h => ⟨fun h0 => absurd h0 (by decide), h⟩)) ?_; rintro a _ w87 ⟨ho, hb⟩ hf
        have hold := hB86
        replace hB2 := hB2.only ho (Blk.ne hB2 hold rfl)
        replace hB3 := hB3.only ho (Blk.ne hB3 hold rfl)
        replace hB26 := hB26.only ho (Blk.ne hB26 hold rfl)
        replace hB77 := hB77.only ho (by omega)
        replace ho15 := ho15.onlyT ho hold rfl
        replace ho14 := ho14.onlyT ho hold rfl
        replace ho78 := ho78.onlyT ho hold rfl
        replace ho87 := ho87.onlyT ho hold rfl
        replace hEc := Below.only hEc ho hlc86
        replace hW := Below.only hW ho hlo86
        clear hold
        have hB86 := hb
        clear hb ho
        refine s_done (by kernel_rfl) ?_
        have hEE : Below w10.heap.size w10 w87 := hEc
        exact ⟨b77, b86, A78, c78, A87, c87, hf.sub ⟨rfl, (by first | rfl | (simp [look, hc6b, hc18b])), (by first | rfl | (simp [look, hc6b, hc18b])), trivial⟩, hlo77, hB77, hlo86, hB86, ho78, ho87, hEE⟩
      ·refine p_eff rfl hf trivial rfl rfl (Ef.mono (ef_alloc (zs := [.int .i64 0, .int .i64 0, .slice none 0 0]) z_141 rfl) (fun _ _ h => ⟨fun _ => by obtain ⟨_, _, _, hE, _⟩ := h; exact hE, h⟩)) ?_; rintro a _ w88 ⟨b89, rfl, hl89, hE, hB89⟩ hf
       have hne77_89 : b77 ≠ b89 := by have := hB77.lt; omega
       have hlo89 := Nat.le_trans hW.size hl89
       have hlc89 := Nat.le_trans hEc.size hl89
       replace hB2 := hB2.below hE
       replace hB3 := hB3.below hE
       replace hB26 := hB26.below hE
       replace hB77 := hB77.below hE
       replace ho15 := ho15.below hE
       replace ho14 := ho14.below hE
       replace hW := btr hW hE
       replace hEc := btr hEc hE
       clear hE
       refine s_one 5 (by kernel_rfl) ?_
       refine p_eff rfl hf trivial rfl rfl (Ef.mono (ef_call (vs := [.int .i64 (m.length : Int), .agg #[.int .i64 ((smallG m g).k), .int .i64 ((smallG m g).a), .int .i64 ((smallG m g).b)]]) hf rfl ff_143 (F143 _ (m.length : Int) (smallG m g) P.gs)) (fun _ _ h => ⟨fun _ => by obtain ⟨A90, c90, rfl, ho90, hE⟩ := h; exact hE, h⟩)) ?_; rintro a _ w89 ⟨A90, c90, rfl, ho90, hE⟩ hf
       replace ho90 := ho90.lower hW.size
       replace hB2 := hB2.below hE
       replace hB3 := hB3.below hE
       replace hB26 := hB26.below hE
       replace hB77 := hB77.below hE
       replace hB89 := hB89.below hE
       replace ho15 := ho15.below hE
       replace ho14 := ho14.below hE
       replace hW := btr hW hE
       replace hEc := btr hEc hE
       clear hE
       refine s_one 10 (by kernel_rfl) ?_
       refine p_eff rfl hf trivial rfl rfl (Ef.mono (ef_call (vs := [.agg #[.int .i64 h.k, .int .i64 h.a, .int .i64 h.b], .slice A15 m.length c15]) hf rfl ff_144 (F144 _ h A15 c15 m ho15.rd.top P.hk P.ha P.inc P.hb hlm)) (fun _ _ h => ⟨fun _ => by obtain ⟨rfl, hE⟩ := h; exact hE, h⟩)) ?_; rintro a _ w90 ⟨rfl, hE⟩ hf
       replace hB2 := hB2.below hE
       replace hB3 := hB3.below hE
       replace hB26 := hB26.below hE
       replace hB77 := hB77.below hE
       replace hB89 := hB89.below hE
       replace ho15 := ho15.below hE
       replace ho14 := ho14.below hE
       replace ho90 := ho90.below hE
       replace hW := btr hW hE
       replace hEc := btr hEc hE
       clear hE
       refine s_one 11 (by kernel_rfl) ?_
       refine p_eff rfl hf trivial rfl rfl (Ef.mono (ef_call (vs := [.int .i64 (m.length : Int), .agg #[.int .i64 ((smallG m h).k), .int .i64 ((smallG m h).a), .int .i64 ((smallG m h).b)]]) hf rfl ff_143 (F143 _ (m.length : Int) (smallG m h) P.hs)) (fun _ _ h => ⟨fun _ => by obtain ⟨A91, c91, rfl, ho91, hE⟩ := h; exact hE, h⟩)) ?_; rintro a _ w91 ⟨A91, c91, rfl, ho91, hE⟩ hf
       replace ho91 := ho91.lower hW.size
       replace hB2 := hB2.below hE
       replace hB3 := hB3.below hE
       replace hB26 := hB26.below hE
       replace hB77 := hB77.below hE
       replace hB89 := hB89.below hE
       replace ho15 := ho15.below hE
       replace ho14 := ho14.below hE
       replace ho90 := ho90.below hE
       replace hW := btr hW hE
       replace hEc := btr hEc hE
       clear hE
       refine s_one 14 (by kernel_rfl) ?_
       refine p_eff0 rfl hf trivial rfl (Ef.mono (ef_store (vs := [.int .i64 ((gateS (m.length : Int) (smallG m g)).rows), .int .i64 ((gateS (m.length : Int) (smallG m g)).cols), .slice A90 ((gateS (m.length : Int) (smallG m g)).cells).length c90]) (l' := [.int .i64 ((gateS (m.length : Int) (smallG m g)).rows), .int .i64 ((gateS (m.length : Int) (smallG m g)).cols), .slice A90 ((gateS (m.length : Int) (smallG m g)).cells).length c90]) hf rfl rfl sz_141 hB77 rfl rfl rfl rfl rfl) (fun _ _ h => ⟨fun h0 => absurd h0 (by decide), h⟩)) ?_; rintro a _ w92 ⟨ho, hb⟩ hf
       have hold := hB77
       replace hB2 := hB2.only ho (Blk.ne hB2 hold rfl)
       replace hB3 := hB3.only ho (Blk.ne hB3 hold rfl)
       replace hB26 := hB26.only ho (Blk.ne hB26 hold rfl)
       replace hB89 := hB89.only ho (by omega)
       replace ho15 := ho15.onlyT ho hold rfl
       replace ho14 := ho14.onlyT ho hold rfl
       replace ho90 := ho90.onlyT ho hold rfl
       replace ho91 := ho91.onlyT ho hold rfl
       replace hEc := Below.only hEc ho hlc77
       replace hW := Below.only hW ho hlo77
       clear hold
       have hB77 := hb
       clear hb ho
       refine s_one 15 (by kernel_rfl) ?_
       refine p_eff0 rfl hf trivial rfl (Ef.mono (ef_store (vs := [.int .i64 ((gateS (m.length : Int) (smallG m h)).rows), .int .i64 ((gateS (m.length : Int) (smallG m h)).cols), .slice A91 ((gateS (m.length : Int) (smallG m h)).cells).length c91]) (l' := [.int .i64 ((gateS (m.length : Int) (smallG m h)).rows), .int .i64 ((gateS (m.length : Int) (smallG m h)).cols), .slice A91 ((gateS (m.length : Int) (smallG m h)).cells).length c91]) hf rfl rfl sz_141 hB89 rfl rfl rfl rfl rfl) (fun _ _ h => ⟨fun h0 => absurd h0 (by decide), h⟩)) ?_; rintro a _ w93 ⟨ho, hb⟩ hf
       have hold := hB89
       replace hB2 := hB2.only ho (Blk.ne hB2 hold rfl)
       replace hB3 := hB3.only ho (Blk.ne hB3 hold rfl)
       replace hB26 := hB26.only ho (Blk.ne hB26 hold rfl)
       replace hB77 := hB77.only ho (by omega)
       replace ho15 := ho15.onlyT ho hold rfl
       replace ho14 := ho14.onlyT ho hold rfl
       replace ho90 := ho90.onlyT ho hold rfl
       replace ho91 := ho91.onlyT ho hold rfl
       replace hEc := Below.only hEc ho hlc89
       replace hW := Below.only hW ho hlo89
       clear hold
       have hB89 := hb
       clear hb ho
       refine s_done (by kernel_rfl) ?_
       have hEE : Below w10.heap.size w10 w93 := hEc
       exact ⟨b77, b89, A90, c90, A91, c91, hf.sub ⟨rfl, (by first | rfl | (simp [look, hc6b, hc18b])), (by first | rfl | (simp [look, hc6b, hc18b])), trivial⟩, hlo77, hB77, hlo89, hB89, ho90, ho91, hEE⟩
     ·refine p_eff rfl hf trivial rfl rfl (Ef.mono (ef_alloc (zs := [.int .i64 0, .int .i64 0, .slice none 0 0]) z_141 rfl) (fun _ _ h => ⟨fun _ => by obtain ⟨_, _, _, hE, _⟩ := h; exact hE, h⟩)) ?_; rintro a _ w94 ⟨b93, rfl, hl93, hE, hB93⟩ hf
      have hlo93 := Nat.le_trans hW.size hl93
      have hlc93 := Nat.le_trans hEc.size hl93
      replace hB2 := hB2.below hE
      replace hB3 := hB3.below hE
      replace hB26 := hB26.below hE
      replace ho15 := ho15.below hE
      replace ho14 := ho14.below hE
      replace hW := btr hW hE
      replace hEc := btr hEc hE
      clear hE
      refine s_two 5 12 (by kernel_rfl) ?_ ?_
      ·refine p_eff rfl hf trivial rfl rfl (Ef.mono (ef_call (vs := [.int .i64 (m.length : Int), .agg #[.int .i64 ((smallG m g).k), .int .i64 ((smallG m g).a), .int .i64 ((smallG m g).b)]]) hf rfl ff_143 (F143 _ (m.length : Int) (smallG m g) P.gs)) (fun _ _ h => ⟨fun _ => by obtain ⟨A94, c94, rfl, ho94, hE⟩ := h; exact hE, h⟩)) ?_; rintro a _ w95 ⟨A94, c94, rfl, ho94, hE⟩ hf
       replace ho94 := ho94.lower hW.size
       replace hB2 := hB2.below hE
       replace hB3 := hB3.below hE
       replace hB26 := hB26.below hE
       replace hB93 := hB93.below hE
       replace ho15 := ho15.below hE
       replace ho14 := ho14.below hE
       replace hW := btr hW hE
       replace hEc := btr hEc hE
       clear hE
       refine s_two 10 12 (by kernel_rfl) ?_ ?_
       ·refine p_eff rfl hf trivial rfl rfl (Ef.mono (ef_call (vs := [.agg #[.int .i64 h.k, .int .i64 h.a, .int .i64 h.b], .slice A15 m.length c15]) hf rfl ff_144 (F144 _ h A15 c15 m ho15.rd.top P.hk P.ha P.inc P.hb hlm)) (fun _ _ h => ⟨fun _ => by obtain ⟨rfl, hE⟩ := h; exact hE, h⟩)) ?_; rintro a _ w96 ⟨rfl, hE⟩ hf
        replace hB2 := hB2.below hE
        replace hB3 := hB3.below hE
        replace hB26 := hB26.below hE
        replace hB93 := hB93.below hE
        replace ho15 := ho15.below hE
        replace ho14 := ho14.below hE
        replace ho94 := ho94.below hE
        replace hW := btr hW hE
        replace hEc := btr hEc hE
        clear hE
        refine s_two 11 12 (by kernel_rfl) ?_ ?_
        ·refine p_eff rfl hf trivial rfl rfl (Ef.mono (ef_call (vs := [.int .i64 (m.length : Int), .agg #[.int .i64 ((smallG m h).k), .int .i64 ((smallG m h).a), .int .i64 ((smallG m h).b)]]) hf rfl ff_143 (F143 _ (m.length : Int) (smallG m h) P.hs)) (fun _ _ h => ⟨fun _ => by obtain ⟨A95, c95, rfl, ho95, hE⟩ := h; exact hE, h⟩)) ?_; rintro a _ w97 ⟨A95, c95, rfl, ho95, hE⟩ hf
         replace ho95 := ho95.lower hW.size
         replace hB2 := hB2.below hE
         replace hB3 := hB3.below hE
         replace hB26 := hB26.below hE
         replace hB93 := hB93.below hE
         replace ho15 := ho15.below hE
         replace ho14 := ho14.below hE
         replace ho94 := ho94.below hE
         replace hW := btr hW hE
         replace hEc := btr hEc hE
         clear hE
         refine s_one 12 (by kernel_rfl) ?_
         refine p_eff rfl hf trivial rfl rfl (Ef.mono (ef_alloc (zs := [.int .i64 0, .int .i64 0, .slice none 0 0]) z_141 rfl) (fun _ _ h => ⟨fun _ => by obtain ⟨_, _, _, hE, _⟩ := h; exact hE, h⟩)) ?_; rintro a _ w98 ⟨b97, rfl, hl97, hE, hB97⟩ hf
         have hne93_97 : b93 ≠ b97 := by have := hB93.lt; omega
         have hlo97 := Nat.le_trans hW.size hl97
         have hlc97 := Nat.le_trans hEc.size hl97
         replace hB2 := hB2.below hE
         replace hB3 := hB3.below hE
         replace hB26 := hB26.below hE
         replace hB93 := hB93.below hE
         replace ho15 := ho15.below hE
         replace ho14 := ho14.below hE
         replace ho94 := ho94.below hE
         replace ho95 := ho95.below hE
         replace hW := btr hW hE
         replace hEc := btr hEc hE
         clear hE
         refine s_one 14 (by kernel_rfl) ?_
         refine p_eff0 rfl hf trivial rfl (Ef.mono (ef_store (vs := [.int .i64 ((gateS (m.length : Int) (smallG m g)).rows), .int .i64 ((gateS (m.length : Int) (smallG m g)).cols), .slice A94 ((gateS (m.length : Int) (smallG m g)).cells).length c94]) (l' := [.int .i64 ((gateS (m.length : Int) (smallG m g)).rows), .int .i64 ((gateS (m.length : Int) (smallG m g)).cols), .slice A94 ((gateS (m.length : Int) (smallG m g)).cells).length c94]) hf rfl rfl sz_141 hB97 rfl rfl rfl rfl rfl) (fun _ _ h => ⟨fun h0 => absurd h0 (by decide), h⟩)) ?_; rintro a _ w99 ⟨ho, hb⟩ hf
         have hold := hB97
         replace hB2 := hB2.only ho (Blk.ne hB2 hold rfl)
         replace hB3 := hB3.only ho (Blk.ne hB3 hold rfl)
         replace hB26 := hB26.only ho (Blk.ne hB26 hold rfl)
         replace hB93 := hB93.only ho (by omega)
         replace ho15 := ho15.onlyT ho hold rfl
         replace ho14 := ho14.onlyT ho hold rfl
         replace ho94 := ho94.onlyT ho hold rfl
         replace ho95 := ho95.onlyT ho hold rfl
         replace hEc := Below.only hEc ho hlc97
         replace hW := Below.only hW ho hlo97
         clear hold
         have hB97 := hb
         clear hb ho
         refine s_one 15 (by kernel_rfl) ?_
         refine p_eff0 rfl hf trivial rfl (Ef.mono (ef_store (vs := [.int .i64 ((gateS (m.length : Int) (smallG m h)).rows), .int .i64 ((gateS (m.length : Int) (smallG m h)).cols), .slice A95 ((gateS (m.length : Int) (smallG m h)).cells).length c95]) (l' := [.int .i64 ((gateS (m.length : Int) (smallG m h)).rows), .int .i64 ((gateS (m.length : Int) (smallG m h)).cols), .slice A95 ((gateS (m.length : Int) (smallG m h)).cells).length c95]) hf rfl rfl sz_141 hB93 rfl rfl rfl rfl rfl) (fun _ _ h => ⟨fun h0 => absurd h0 (by decide), h⟩)) ?_; rintro a _ w100 ⟨ho, hb⟩ hf
         have hold := hB93
         replace hB2 := hB2.only ho (Blk.ne hB2 hold rfl)
         replace hB3 := hB3.only ho (Blk.ne hB3 hold rfl)
         replace hB26 := hB26.only ho (Blk.ne hB26 hold rfl)
         replace hB97 := hB97.only ho (by omega)
         replace ho15 := ho15.onlyT ho hold rfl
         replace ho14 := ho14.onlyT ho hold rfl
         replace ho94 := ho94.onlyT ho hold rfl
         replace ho95 := ho95.onlyT ho hold rfl
         replace hEc := Below.only hEc ho hlc93
         replace hW := Below.only hW ho hlo93
         clear hold
         have hB93 := hb
         clear hb ho
         refine s_done (by kernel_rfl) ?_
         have hEE : Below w10.heap.size w10 w100 := hEc
         exact ⟨b97, b93, A94, c94, A95, c95, hf.sub ⟨rfl, (by first | rfl | (simp [look, hc6b, hc18b])), (by first | rfl | (simp [look, hc6b, hc18b])), trivial⟩, hlo97, hB97, hlo93, hB93, ho94, ho95, hEE⟩
        ·refine p_eff rfl hf trivial rfl rfl (Ef.mono (ef_alloc (zs := [.int .i64 0, .int .i64 0, .slice none 0 0]) z_141 rfl) (fun _ _ h => ⟨fun _ => by obtain ⟨_, _, _, hE, _⟩ := h; exact hE, h⟩)) ?_; rintro a _ w101 ⟨b99, rfl, hl99, hE, hB99⟩ hf
         have hne93_99 : b93 ≠ b99 := by have := hB93.lt; omega
         have hlo99 := Nat.le_trans hW.size hl99
         have hlc99 := Nat.le_trans hEc.size hl99
         replace hB2 := hB2.below hE
         replace hB3 := hB3.below hE
         replace hB26 := hB26.below hE
         replace hB93 := hB93.below hE
         replace ho15 := ho15.below hE
         replace ho14 := ho14.below hE
         replace ho94 := ho94.below hE
         replace hW := btr hW hE
         replace hEc := btr hEc hE
         clear hE
         refine s_one 11 (by kernel_rfl) ?_
         refine p_eff rfl hf trivial rfl rfl (Ef.mono (ef_call (vs := [.int .i64 (m.length : Int), .agg #[.int .i64 ((smallG m h).k), .int .i64 ((smallG m h).a), .int .i64 ((smallG m h).b)]]) hf rfl ff_143 (F143 _ (m.length : Int) (smallG m h) P.hs)) (fun _ _ h => ⟨fun _ => by obtain ⟨A100, c100, rfl, ho100, hE⟩ := h; exact hE, h⟩)) ?_; rintro a _ w102 ⟨A100, c100, rfl, ho100, hE⟩ hf
         replace ho100 := ho100.lower hW.size
         replace hB2 := hB2.below hE
         replace hB3 := hB3.below hE
         replace hB26 := hB26.below hE
         replace hB93 := hB93.below hE
         replace hB99 := hB99.below hE
         replace ho15 := ho15.below hE
         replace ho14 := ho14.below hE
         replace ho94 := ho94.below hE
         replace hW := btr hW hE
         replace hEc := btr hEc hE
         clear hE
         refine s_one 14 (by kernel_rfl) ?_
         refine p_eff0 rfl hf trivial rfl (Ef.mono (ef_store (vs := [.int .i64 ((gateS (m.length : Int) (smallG m g)).rows), .int .i64 ((gateS (m.length : Int) (smallG m g)).cols), .slice A94 ((gateS (m.length : Int) (smallG m g)).cells).length c94]) (l' := [.int .i64 ((gateS (m.length : Int) (smallG m g)).rows), .int .i64 ((gateS (m.length : Int) (smallG m g)).cols), .slice A94 ((gateS (m.length : Int) (smallG m g)).cells).length c94]) hf rfl rfl sz_141 hB99 rfl rfl rfl rfl rfl) (fun _ _ h => ⟨fun h0 => absurd h0 (by decide), h⟩)) ?_; rintro a _ w103 ⟨ho, hb⟩ hf
         have hold := hB99
         replace hB2 := hB2.only ho (Blk.ne hB2 hold rfl)
         replace hB3 := hB3.only ho (Blk.ne hB3 hold rfl)
         replace hB26 := hB26.only ho (Blk.ne hB26 hold rfl)
         replace hB93 := hB93.only ho (by omega)
         replace ho15 := ho15.onlyT ho hold rfl
         replace ho14 := ho14.onlyT ho hold rfl
         replace ho94 := ho94.onlyT ho hold rfl
         replace ho100 := ho100.onlyT ho hold rfl
         replace hEc := Below.only hEc ho hlc99
         replace hW := Below.only hW ho hlo99
         clear hold
         have hB99 := hb
         clear hb ho
         refine s_one 15 (by kernel_rfl) ?_
         refine p_eff0 rfl hf trivial rfl (Ef.mono (ef_store (vs := [.int .i64 ((gateS (m.length : Int) (smallG m h)).rows), .int .i64 ((gateS (m.length : Int) (smallG m h)).cols), .slice A100 ((gateS (m.length : Int) (smallG m h)).cells).length c100]) (l' := [.int .i64 ((gateS (m.length : Int) (smallG m h)).rows), .int .i64 ((gateS (m.length : Int) (smallG m h)).cols), .slice A100 ((gateS (m.length : Int) (smallG m h)).cells).length c100]) hf rfl rfl sz_141 hB93 rfl rfl rfl rfl rfl) (fun _ _ h => ⟨fun h0 => absurd h0 (by decide), h⟩)) ?_; rintro a _ w104 ⟨ho, hb⟩ hf
         have hold := hB93
         replace hB2 := hB2.only ho (Blk.ne hB2 hold rfl)
         replace hB3 := hB3.only ho (Blk.ne hB3 hold rfl)
         replace hB26 := hB26.only ho (Blk.ne hB26 hold rfl)
         replace hB99 := hB99.only ho (by omega)
         replace ho15 := ho15.onlyT ho hold rfl
         replace ho14 := ho14.onlyT ho hold rfl
         replace ho94 := ho94.onlyT ho hold rfl
         replace ho100 := ho100.onlyT ho hold rfl
         replace hEc := Below.only hEc ho hlc93
         replace hW := Below.only hW ho hlo93
         clear hold
         have hB93 := hb
         clear hb ho
         refine s_done (by kernel_rfl) ?_
         have hEE : Below w10.heap.size w10 w104 := hEc
         exact ⟨b99, b93, A94, c94, A100, c100, hf.sub ⟨rfl, (by first | rfl | (simp [look, hc6b, hc18b])), (by first | rfl | (simp [look, hc6b, hc18b])), trivial⟩, hlo99, hB99, hlo93, hB93, ho94, ho100, hEE⟩
       ·refine p_eff rfl hf trivial rfl rfl (Ef.mono (ef_alloc (zs := [.int .i64 0, .int .i64 0, .slice none 0 0]) z_141 rfl) (fun _ _ h => ⟨fun _ => by obtain ⟨_, _, _, hE, _⟩ := h; exact hE, h⟩)) ?_; rintro a _ w105 ⟨b102, rfl, hl102, hE, hB102⟩ hf
        have hne93_102 : b93 ≠ b102 := by have := hB93.lt; omega
        have hlo102 := Nat.le_trans hW.size hl102
        have hlc102 := Nat.le_trans hEc.size hl102
        replace hB2 := hB2.below hE
        replace hB3 := hB3.below hE
        replace hB26 := hB26.below hE
        replace hB93 := hB93.below hE
        replace ho15 := ho15.below hE
        replace ho14 := ho14.below hE
        replace ho94 := ho94.below hE
        replace hW := btr hW hE
        replace hEc := btr hEc hE
        clear hE
        refine s_one 10 (by kernel_rfl) ?_
        refine p_eff rfl hf trivial rfl rfl (Ef.mono (ef_call (vs := [.agg #[.int .i64 h.k, .int .i64 h.a, .int .i64 h.b], .slice A15 m.length c15]) hf rfl ff_144 (F144 _ h A15 c15 m ho15.rd.top P.hk P.ha P.inc P.hb hlm)) (fun _ _ h => ⟨fun _ => by obtain ⟨rfl, hE⟩ := h; exact hE, h⟩)) ?_; rintro a _ w106 ⟨rfl, hE⟩ hf
        replace hB2 := hB2.below hE
        replace hB3 := hB3.below hE
        replace hB26 := hB26.below hE
        replace hB93 := hB93.below hE
        replace hB102 := hB102.below hE
        replace ho15 := ho15.below hE
        replace ho14 := ho14.below hE
        replace ho94 := ho94.below hE
        replace hW := btr hW hE
        replace hEc := btr hEc hE
        clear hE
        refine s_one 11 (by kernel_rfl) ?_
        refine p_eff rfl hf trivial rfl rfl (Ef.mono (ef_call (vs := [.int .i64 (m.length : Int), .agg #[.int .i64 ((smallG m h).k), .int .i64 ((smallG m h).a), .int .i64 ((smallG m h).b)]]) hf rfl ff_143 (F143 _ (m.length : Int) (smallG m h) P.hs)) (fun _ _ h => ⟨fun _ => by obtain ⟨A103, c103, rfl, ho103, hE⟩ := h; exact hE, h⟩)) ?_; rintro a _ w107 ⟨A103, c103, rfl, ho103, hE⟩ hf
        replace ho103 := ho103.lower hW.size
        replace hB2 := hB2.below hE
        replace hB3 := hB3.below hE
        replace hB26 := hB26.below hE
        replace hB93 := hB93.below hE
        replace hB102 := hB102.below hE
        replace ho15 := ho15.below hE
        replace ho14 := ho14.below hE
        replace ho94 := ho94.below hE
        replace hW := btr hW hE
        replace hEc := btr hEc hE
        clear hE
        refine s_one 14 (by kernel_rfl) ?_
        refine p_eff0 rfl hf trivial rfl (Ef.mono (ef_store (vs := [.int .i64 ((gateS (m.length : Int) (smallG m g)).rows), .int .i64 ((gateS (m.length : Int) (smallG m g)).cols), .slice A94 ((gateS (m.length : Int) (smallG m g)).cells).length c94]) (l' := [.int .i64 ((gateS (m.length : Int) (smallG m g)).rows), .int .i64 ((gateS (m.length : Int) (smallG m g)).cols), .slice A94 ((gateS (m.length : Int) (smallG m g)).cells).length c94]) hf rfl rfl sz_141 hB102 rfl rfl rfl rfl rfl) (fun _ _ h => ⟨fun h0 => absurd h0 (by decide), h⟩)) ?_; rintro a _ w108 ⟨ho, hb⟩ hf
        have hold := hB102
        replace hB2 := hB2.only ho (Blk.ne hB2 hold rfl)
        replace hB3 := hB3.only ho (Blk.ne hB3 hold rfl)
        replace hB26 := hB26.only ho (Blk.ne hB26 hold rfl)
        replace hB93 := hB93.only ho (by omega)
        replace ho15 := ho15.onlyT ho hold rfl
        replace ho14 := ho14.onlyT ho hold rfl
        replace ho94 := ho94.onlyT ho hold rfl
        replace ho103 := ho103.onlyT ho hold rfl
        replace hEc := Below.only hEc ho hlc102
        replace hW := Below.only hW ho hlo102
        clear hold
        have hB102 := hb
        clear hb ho
        refine s_one 15 (by kernel_rfl) ?_
        refine p_eff0 rfl hf trivial rfl (Ef.mono (ef_store (vs := [.int .i64 ((gateS (m.length : Int) (smallG m h)).rows), .int .i64 ((gateS (m.length : Int) (smallG m h)).cols), .slice A103 ((gateS (m.length : Int) (smallG m h)).cells).length c103]) (l' := [.int .i64 ((gateS (m.length : Int) (smallG m h)).rows), .int .i64 ((gateS (m.length : Int) (smallG m h)).cols), .slice A103 ((gateS (m.length : Int) (smallG m h)).cells).length c103]) hf rfl rfl sz_141 hB93 rfl rfl rfl rfl rfl) (fun _ _ h => ⟨fun h0 => absurd h0 (by decide), h⟩)) ?_; rintro a _ w109 ⟨ho, hb⟩ hf
        have hold := hB93
        replace hB2 := hB2.only ho (Blk.ne hB2 hold rfl)
        replace hB3 := hB3.only ho (Blk.ne hB3 hold rfl)
        replace hB26 := hB26.only ho (Blk.ne hB26 hold rfl)
        replace hB102 := hB102.only ho (by omega)
        replace ho15 := ho15.onlyT ho hold rfl
        replace ho14 := ho14.onlyT ho hold rfl
        replace ho94 := ho94.onlyT ho hold rfl
        replace ho103 := ho103.onlyT ho hold rfl
        replace hEc := Below.only hEc ho hlc93
        replace hW := Below.only hW ho hlo93
        clear hold
        have hB93 := hb
        clear hb ho
        refine s_done (by kernel_rfl) ?_
        have hEE : Below w10.heap.size w10 w109 := hEc
        exact ⟨b102, b93, A94, c94, A103, c103, hf.sub ⟨rfl, (by first | rfl | (simp [look, hc6b, hc18b])), (by first | rfl | (simp [look, hc6b, hc18b])), trivial⟩, hlo102, hB102, hlo93, hB93, ho94, ho103, hEE⟩
      ·refine p_eff rfl hf trivial rfl rfl (Ef.mono (ef_alloc (zs := [.int .i64 0, .int .i64 0, .slice none 0 0]) z_141 rfl) (fun _ _ h => ⟨fun _ => by obtain ⟨_, _, _, hE, _⟩ := h; exact hE, h⟩)) ?_; rintro a _ w110 ⟨b105, rfl, hl105, hE, hB105⟩ hf
       have hne93_105 : b93 ≠ b105 := by have := hB93.lt; omega
       have hlo105 := Nat.le_trans hW.size hl105
       have hlc105 := Nat.le_trans hEc.size hl105
       replace hB2 := hB2.below hE
       replace hB3 := hB3.below hE
       replace hB26 := hB26.below hE
       replace hB93 := hB93.below hE
       replace ho15 := ho15.below hE
       replace ho14 := ho14.below hE
       replace hW := btr hW hE
       replace hEc := btr hEc hE
       clear hE
       refine s_one 5 (by kernel_rfl) ?_
       refine p_eff rfl hf trivial rfl rfl (Ef.mono (ef_call (vs := [.int .i64 (m.length : Int), .agg #[.int .i64 ((smallG m g).k), .int .i64 ((smallG m g).a), .int .i64 ((smallG m g).b)]]) hf rfl ff_143 (F143 _ (m.length : Int) (smallG m g) P.gs)) (fun _ _ h => ⟨fun _ => by obtain ⟨A106, c106, rfl, ho106, hE⟩ := h; exact hE, h⟩)) ?_; rintro a _ w111 ⟨A106, c106, rfl, ho106, hE⟩ hf
       replace ho106 := ho106.lower hW.size
       replace hB2 := hB2.below hE
       replace hB3 := hB3.below hE
       replace hB26 := hB26.below hE
       replace hB93 := hB93.below hE
       replace hB105 := hB105.below hE
       replace ho15 := ho15.below hE
       replace ho14 := ho14.below hE
       replace hW := btr hW hE
       replace hEc := btr hEc hE
       clear hE
       refine s_one 10 (by kernel_rfl) ?_
       refine p_eff rfl hf trivial rfl rfl (Ef.mono (ef_call (vs := [.agg #[.int .i64 h.k, .int .i64 h.a, .int .i64 h.b], .slice A15 m.length c15]) hf rfl ff_144 (F144 _ h A15 c15 m ho15.rd.top P.hk P.ha P.inc P.hb hlm)) (fun _ _ h => ⟨fun _ => by obtain ⟨rfl, hE⟩ := h; exact hE, h⟩)) ?_; rintro a _ w112 ⟨rfl, hE⟩ hf
       replace hB2 := hB2.below hE
       replace hB3 := hB3.below hE
       replace hB26 := hB26.below hE
       replace hB93 := hB93.below hE
       replace hB105 := hB105.below hE
       replace ho15 := ho15.below hE
       replace ho14 := ho14.below hE
       replace ho106 := ho106.below hE
       replace hW := btr hW hE
       replace hEc := btr hEc hE
       clear hE
       refine s_one 11 (by kernel_rfl) ?_
       refine p_eff rfl hf trivial rfl rfl (Ef.mono (ef_call (vs := [.int .i64 (m.length : Int), .agg #[.int .i64 ((smallG m h).k), .int .i64 ((smallG m h).a), .int .i64 ((smallG m h).b)]]) hf rfl ff_143 (F143 _ (m.length : Int) (smallG m h) P.hs)) (fun _ _ h => ⟨fun _ => by obtain ⟨A107, c107, rfl, ho107, hE⟩ := h; exact hE, h⟩)) ?_; rintro a _ w113 ⟨A107, c107, rfl, ho107, hE⟩ hf
       replace ho107 := ho107.lower hW.size
       replace hB2 := hB2.below hE
       replace hB3 := hB3.below hE
       replace hB26 := hB26.below hE
       replace hB93 := hB93.below hE
       replace hB105 := hB105.below hE
       replace ho15 := ho15.below hE
       replace ho14 := ho14.below hE
       replace ho106 := ho106.below hE
       replace hW := btr hW hE
       replace hEc := btr hEc hE
       clear hE
       refine s_one 14 (by kernel_rfl) ?_
       refine p_eff0 rfl hf trivial rfl (Ef.mono (ef_store (vs := [.int .i64 ((gateS (m.length : Int) (smallG m g)).rows), .int .i64 ((gateS (m.length : Int) (smallG m g)).cols), .slice A106 ((gateS (m.length : Int) (smallG m g)).cells).length c106]) (l' := [.int .i64 ((gateS (m.length : Int) (smallG m g)).rows), .int .i64 ((gateS (m.length : Int) (smallG m g)).cols), .slice A106 ((gateS (m.length : Int) (smallG m g)).cells).length c106]) hf rfl rfl sz_141 hB105 rfl rfl rfl rfl rfl) (fun _ _ h => ⟨fun h0 => absurd h0 (by decide), h⟩)) ?_; rintro a _ w114 ⟨ho, hb⟩ hf
       have hold := hB105
       replace hB2 := hB2.only ho (Blk.ne hB2 hold rfl)
       replace hB3 := hB3.only ho (Blk.ne hB3 hold rfl)
       replace hB26 := hB26.only ho (Blk.ne hB26 hold rfl)
       replace hB93 := hB93.only ho (by omega)
       replace ho15 := ho15.onlyT ho hold rfl
       replace ho14 := ho14.onlyT ho hold rfl
       replace ho106 := ho106.onlyT ho hold rfl
       replace ho107 := ho107.onlyT ho hold rfl
       replace hEc := Below.only hEc ho hlc105
       replace hW := Below.only hW ho hlo105
       clear hold
       have hB105 := hb
       clear hb ho
       refine s_one 15 (by kernel_rfl) ?_
       refine p_eff0 rfl hf trivial rfl (Ef.mono (ef_store (vs := [.int .i64 ((gateS (m.length : Int) (smallG m h)).rows), .int .i64 ((gateS (m.length : Int) (smallG m h)).cols), .slice A107 ((gateS (m.length : Int) (smallG m h)).cells).length c107]) (l' := [.int .i64 ((gateS (m.length : Int) (smallG m h)).rows), .int .i64 ((gateS (m.length : Int) (smallG m h)).cols), .slice A107 ((gateS (m.length : Int) (smallG m h)).cells).length c107]) hf rfl rfl sz_141 hB93 rfl rfl rfl rfl rfl) (fun _ _ h => ⟨fun h0 => absurd h0 (by decide), h⟩)) ?_; rintro a _ w115 ⟨ho, hb⟩ hf
       have hold := hB93
       replace hB2 := hB2.only ho (Blk.ne hB2 hold rfl)
       replace hB3 := hB3.only ho (Blk.ne hB3 hold rfl)
       replace hB26 := hB26.only ho (Blk.ne hB26 hold rfl)
       replace hB105 := hB105.only ho (by omega)
       replace ho15 := ho15.onlyT ho hold rfl
       replace ho14 := ho14.onlyT ho hold rfl
       replace ho106 := ho106.onlyT ho hold rfl
       replace ho107 := ho107.onlyT ho hold rfl
       replace hEc := Below.only hEc ho hlc93
       replace hW := Below.only hW ho hlo93
       clear hold
       have hB93 := hb
       clear hb ho
       refine s_done (by kernel_rfl) ?_
       have hEE : Below w10.heap.size w10 w115 := hEc
       exact ⟨b105, b93, A106, c106, A107, c107, hf.sub ⟨rfl, (by first | rfl | (simp [look, hc6b, hc18b])), (by first | rfl | (simp [look, hc6b, hc18b])), trivial⟩, hlo105, hB105, hlo93, hB93, ho106, ho107, hEE⟩
    ·refine p_eff rfl hf trivial rfl rfl (Ef.mono (ef_alloc (zs := [.int .i64 0, .int .i64 0, .slice none 0 0]) z_141 rfl) (fun _ _ h => ⟨fun _ => by obtain ⟨_, _, _, hE, _⟩ := h; exact hE, h⟩)) ?_; rintro a _ w116 ⟨b109, rfl, hl109, hE, hB109⟩ hf
     have hlo109 := Nat.le_trans hW.size hl109
     have hlc109 := Nat.le_trans hEc.size hl109
     replace hB2 := hB2.below hE
     replace hB3 := hB3.below hE
     replace hB26 := hB26.below hE
     replace ho15 := ho15.below hE
     replace ho14 := ho14.below hE
     replace hW := btr hW hE
     replace hEc := btr hEc hE
     clear hE
     refine s_two 4 13 (by kernel_rfl) ?_ ?_
     ·refine p_eff rfl hf trivial rfl rfl (Ef.mono (ef_call (vs := [.agg #[.int .i64 g.k, .int .i64 g.a, .int .i64 g.b], .slice A15 m.length c15]) hf rfl ff_144 (F144 _ g A15 c15 m ho15.rd.top P.gk P.ga P.inc P.gb hlm)) (fun _ _ h => ⟨fun _ => by obtain ⟨rfl, hE⟩ := h; exact hE, h⟩)) ?_; rintro a _ w117 ⟨rfl, hE⟩ hf
      replace hB2 := hB2.below hE
      replace hB3 := hB3.below hE
      replace hB26 := hB26.below hE
      replace hB109 := hB109.below hE
      replace ho15 := ho15.below hE
      replace ho14 := ho14.below hE
      replace hW := btr hW hE
      replace hEc := btr hEc hE
      clear hE
      refine s_two 5 13 (by kernel_rfl) ?_ ?_
      ·refine p_eff rfl hf trivial rfl rfl (Ef.mono (ef_call (vs := [.int .i64 (m.length : Int), .agg #[.int .i64 ((smallG m g).k), .int .i64 ((smallG m g).a), .int .i64 ((smallG m g).b)]]) hf rfl ff_143 (F143 _ (m.length : Int) (smallG m g) P.gs)) (fun _ _ h => ⟨fun _ => by obtain ⟨A110, c110, rfl, ho110, hE⟩ := h; exact hE, h⟩)) ?_; rintro a _ w118 ⟨A110, c110, rfl, ho110, hE⟩ hf
       replace ho110 := ho110.lower hW.size
       replace hB2 := hB2.below hE
       replace hB3 := hB3.below hE
       replace hB26 := hB26.below hE
       replace hB109 := hB109.below hE
       replace ho15 := ho15.below hE
       replace ho14 := ho14.below hE
       replace hW := btr hW hE
       replace hEc := btr hEc hE
       clear hE
       refine s_two 10 13 (by kernel_rfl) ?_ ?_
       ·refine p_eff rfl hf trivial rfl rfl (Ef.mono (ef_call (vs := [.agg #[.int .i64 h.k, .int .i64 h.a, .int .i64 h.b], .slice A15 m.length c15]) hf rfl ff_144 (F144 _ h A15 c15 m ho15.rd.top P.hk P.ha P.inc P.hb hlm)) (fun _ _ h => ⟨fun _ => by obtain ⟨rfl, hE⟩ := h; exact hE, h⟩)) ?_; rintro a _ w119 ⟨rfl, hE⟩ hf
        replace hB2 := hB2.below hE
        replace hB3 := hB3.below hE
        replace hB26 := hB26.below hE
        replace hB109 := hB109.below hE
        replace ho15 := ho15.below hE
        replace ho14 := ho14.below hE
        replace ho110 := ho110.below hE
        replace hW := btr hW hE
        replace hEc := btr hEc hE
        clear hE
        refine s_two 11 13 (by kernel_rfl) ?_ ?_
        ·refine p_eff rfl hf trivial rfl rfl (Ef.mono (ef_call (vs := [.int .i64 (m.length : Int), .agg #[.int .i64 ((smallG m h).k), .int .i64 ((smallG m h).a), .int .i64 ((smallG m h).b)]]) hf rfl ff_143 (F143 _ (m.length : Int) (smallG m h) P.hs)) (fun _ _ h => ⟨fun _ => by obtain ⟨A111, c111, rfl, ho111, hE⟩ := h; exact hE, h⟩)) ?_; rintro a _ w120 ⟨A111, c111, rfl, ho111, hE⟩ hf
         replace ho111 := ho111.lower hW.size
         replace hB2 := hB2.below hE
         replace hB3 := hB3.below hE
         replace hB26 := hB26.below hE
         replace hB109 := hB109.below hE
         replace ho15 := ho15.below hE
         replace ho14 := ho14.below hE
         replace ho110 := ho110.below hE
         replace hW := btr hW hE
         replace hEc := btr hEc hE
         clear hE
         refine s_one 13 (by kernel_rfl) ?_
         refine p_eff rfl hf trivial rfl rfl (Ef.mono (ef_alloc (zs := [.int .i64 0, .int .i64 0, .slice none 0 0]) z_141 rfl) (fun _ _ h => ⟨fun _ => by obtain ⟨_, _, _, hE, _⟩ := h; exact hE, h⟩)) ?_; rintro a _ w121 ⟨b113, rfl, hl113, hE, hB113⟩ hf
         have hne109_113 : b109 ≠ b113 := by have := hB109.lt; omega
         have hlo113 := Nat.le_trans hW.size hl113
         have hlc113 := Nat.le_trans hEc.size hl113
         replace hB2 := hB2.below hE
         replace hB3 := hB3.below hE
         replace hB26 := hB26.below hE
         replace hB109 := hB109.below hE
         replace ho15 := ho15.below hE
         replace ho14 := ho14.below hE
         replace ho110 := ho110.below hE
         replace ho111 := ho111.below hE
         replace hW := btr hW hE
         replace hEc := btr hEc hE
         clear hE
         refine s_one 14 (by kernel_rfl) ?_
         refine p_eff0 rfl hf trivial rfl (Ef.mono (ef_store (vs := [.int .i64 ((gateS (m.length : Int) (smallG m g)).rows), .int .i64 ((gateS (m.length : Int) (smallG m g)).cols), .slice A110 ((gateS (m.length : Int) (smallG m g)).cells).length c110]) (l' := [.int .i64 ((gateS (m.length : Int) (smallG m g)).rows), .int .i64 ((gateS (m.length : Int) (smallG m g)).cols), .slice A110 ((gateS (m.length : Int) (smallG m g)).cells).length c110]) hf rfl rfl sz_141 hB109 rfl rfl rfl rfl rfl) (fun _ _ h => ⟨fun h0 => absurd h0 (by decide), h⟩)) ?_; rintro a _ w122 ⟨ho, hb⟩ hf
         have hold := hB109
         replace hB2 := hB2.only ho (Blk.ne hB2 hold rfl)
         replace hB3 := hB3.only ho (Blk.ne hB3 hold rfl)
         replace hB26 := hB26.only ho (Blk.ne hB26 hold rfl)
         replace hB113 := hB113.only ho (by omega)
         replace ho15 := ho15.onlyT ho hold rfl
         replace ho14 := ho14.onlyT ho hold rfl
         replace ho110 := ho110.onlyT ho hold rfl
         replace ho111 := ho111.onlyT ho hold rfl
         replace hEc := Below.only hEc ho hlc109
         replace hW := Below.only hW ho hlo109
         clear hold
         have hB109 := hb
         clear hb ho
         refine s_one 15 (by kernel_rfl) ?_
         refine p_eff0 rfl hf trivial rfl (Ef.mono (ef_store (vs := [.int .i64 ((gateS (m.length : Int) (smallG m h)).rows), .int .i64 ((gateS (m.length : Int) (smallG m h)).cols), .slice A111 ((gateS (m.length : Int) (smallG m h)).cells).length c111]) (l' := [.int .i64 ((gateS (m.length : Int) (smallG m h)).rows), .int .i64 ((gateS (m.length : Int) (smallG m h)).cols), .slice A111 ((gateS (m.length : Int) (smallG m h)).cells).length c111]) hf rfl rfl sz_141 hB113 rfl rfl rfl rfl rfl) (fun _ _ h => ⟨fun h0 => absurd h0 (by decide), h⟩)) ?_; rintro a _ w123 ⟨ho, hb⟩ hf
         have hold := hB113
         replace hB2 := hB2.only ho (Blk.ne hB2 hold rfl)
         replace hB3 := hB3.only ho (Blk.ne hB3 hold rfl)
         replace hB26 := hB26.only ho (Blk.ne hB26 hold rfl)
         replace hB109 := hB109.only ho (by omega)
         replace ho15 := ho15.onlyT ho hold rfl
         replace ho14 := ho14.onlyT ho hold rfl
         replace ho110 := ho110.onlyT ho hold rfl
         replace ho111 := ho111.onlyT ho hold rfl
         replace hEc := Below.only hEc ho hlc113
         replace hW := Below.only hW ho hlo113
         clear hold
         have hB113 := hb
         clear hb ho
         refine s_done (by kernel_rfl) ?_
         have hEE : Below w10.heap.size w10 w123 := hEc
         exact ⟨b109, b113, A110, c110, A111, c111, hf.sub ⟨rfl, (by first | rfl | (simp [look, hc6b, hc18b])), (by first | rfl | (simp [look, hc6b, hc18b])), trivial⟩, hlo109, hB109, hlo113, hB113, ho110, ho111, hEE⟩
        ·refine p_eff rfl hf trivial rfl rfl (Ef.mono (ef_alloc (zs := [.int .i64 0, .int .i64 0, .slice none 0 0]) z_141 rfl) (fun _ _ h => ⟨fun _ => by obtain ⟨_, _, _, hE, _⟩ := h; exact hE, h⟩)) ?_; rintro a _ w124 ⟨b115, rfl, hl115, hE, hB115⟩ hf
         have hne109_115 : b109 ≠ b115 := by have := hB109.lt; omega
         have hlo115 := Nat.le_trans hW.size hl115
         have hlc115 := Nat.le_trans hEc.size hl115
         replace hB2 := hB2.below hE
         replace hB3 := hB3.below hE
         replace hB26 := hB26.below hE
         replace hB109 := hB109.below hE
         replace ho15 := ho15.below hE
         replace ho14 := ho14.below hE
         replace ho110 := ho110.below hE
         replace hW := btr hW hE
         replace hEc := btr hEc hE
         clear hE
         refine s_one 11 (by kernel_rfl) ?_
         refine p_eff rfl hf trivial rfl rfl (Ef.mono (ef_call (vs := [.int .i64 (m.length : Int), .agg #[.int .i64 ((smallG m h).k), .int .i64 ((smallG m h).a), .int .i64 ((smallG m h).b)]]) hf rfl ff_143 (F143 _ (m.length : Int) (smallG m h) P.hs)) (fun _ _ h => ⟨fun _ => by obtain ⟨A116, c116, rfl, ho116, hE⟩ := h; exact hE, h⟩)) ?_; rintro a _ w125 ⟨A116, c116, rfl, ho116, hE⟩ hf
         replace ho116 := ho116.lower hW.size
         replace hB2 := hB2.below hE
         replace hB3 := hB3.below hE
         replace hB26 := hB26.below hE
         replace hB109 := hB109.below hE
         replace hB115 := hB115.below hE
         replace ho15 := ho15.below hE
         replace ho14 := ho14.below hE
         replace ho110 := ho110.below hE
         replace hW := btr hW hE
         replace hEc := btr hEc hE
         clear hE
         refine s_one 14 (by kernel_rfl) ?_
         refine p_eff0 rfl hf trivial rfl (Ef.mono (ef_store (vs := [.int .i64 ((gateS (m.length : Int) (smallG m g)).rows), .int .i64 ((gateS (m.length : Int) (smallG m g)).cols), .slice A110 ((gateS (m.length : Int) (smallG m g)).cells).length c110]) (l' := [.int .i64 ((gateS (m.length : Int) (smallG m g)).rows), .int .i64 ((gateS (m.length : Int) (smallG m g)).cols), .slice A110 ((gateS (m.length : Int) (smallG m g)).cells).length c110]) hf rfl rfl sz_141 hB109 rfl rfl rfl rfl rfl) (fun _ _ h => ⟨fun h0 => absurd h0 (by decide), h⟩)) ?_; rintro a _ w126 ⟨ho, hb⟩ hf
         have hold := hB109
         replace hB2 := hB2.only ho (Blk.ne hB2 hold rfl)
         replace hB3 := hB3.only ho (Blk.ne hB3 hold rfl)
         replace hB26 := hB26.only ho (Blk.ne hB26 hold rfl)
         replace hB115 := hB115.only ho (by omega)
         replace ho15 := ho15.onlyT ho hold rfl
         replace ho14 := ho14.onlyT ho hold rfl
         replace ho110 := ho110.onlyT ho hold rfl
         replace ho116 := ho116.onlyT ho hold rfl
         replace hEc := Below.only hEc ho hlc109
         replace hW := Below.only hW ho hlo109
         clear hold
         have hB109 := hb
         clear hb ho
         refine s_one 15 (by kernel_rfl) ?_
         refine p_eff0 rfl hf trivial rfl (Ef.mono (ef_store (vs := [.int .i64 ((gateS (m.length : Int) (smallG m h)).rows), .int .i64 ((gateS (m.length : Int) (smallG m h)).cols), .slice A116 ((gateS (m.length : Int) (smallG m h)).cells).length c116]) (l' := [.int .i64 ((gateS (m.length : Int) (smallG m h)).rows), .int .i64 ((gateS (m.length : Int) (smallG m h)).cols), .slice A116 ((gateS (m.length : Int) (smallG m h)).cells).length c116]) hf rfl rfl sz_141 hB115 rfl rfl rfl rfl rfl) (fun _ _ h => ⟨fun h0 => absurd h0 (by decide), h⟩)) ?_; rintro a _ w127 ⟨ho, hb⟩ hf
         have hold := hB115
         replace hB2 := hB2.only ho (Blk.ne hB2 hold rfl)
         replace hB3 := hB3.only ho (Blk.ne hB3 hold rfl)
         replace hB26 := hB26.only ho (Blk.ne hB26 hold rfl)
         replace hB109 := hB109.only ho (by omega)
         replace ho15 := ho15.onlyT ho hold rfl
         replace ho14 := ho14.onlyT ho hold rfl
         replace ho110 := ho110.onlyT ho hold rfl
         replace ho116 := ho116.onlyT ho hold rfl
         replace hEc := Below.only hEc ho hlc115
         replace hW := Below.only hW ho hlo115
         clear hold
         have hB115 := hb
         clear hb ho
         refine s_done (by kernel_rfl) ?_
         have hEE : Below w10.heap.size w10 w127 := hEc
         exact ⟨b109, b115, A110, c110, A116, c116, hf.sub ⟨rfl, (by first | rfl | (simp [look, hc6b, hc18b])), (by first | rfl | (simp [look, hc6b, hc18b])), trivial⟩, hlo109, hB109, hlo115, hB115, ho110, ho116, hEE⟩
       ·refine p_eff rfl hf trivial rfl rfl (Ef.mono (ef_alloc (zs := [.int .i64 0, .int .i64 0, .slice none 0 0]) z_141 rfl) (fun _ _ h => ⟨fun _ => by obtain ⟨_, _, _, hE, _⟩ := h; exact hE, h⟩)) ?_; rintro a _ w128 ⟨b118, rfl, hl118, hE, hB118⟩ hf
        have hne109_118 : b109 ≠ b118 := by have := hB109.lt; omega
        have hlo118 := Nat.le_trans hW.size hl118
        have hlc118 := Nat.le_trans hEc.size hl118
        replace hB2 := hB2.below hE
        replace hB3 := hB3.below hE
        replace hB26 := hB26.below hE
        replace hB109 := hB109.below hE
        replace ho15 := ho15.below hE
        replace ho14 := ho14.below hE
        replace ho110 := ho110.below hE
        replace hW := btr hW hE
        replace hEc := btr hEc hE
        clear hE
        refine s_one 10 (by kernel_rfl) ?_
        refine p_eff rfl hf trivial rfl rfl (Ef.mono (ef_call (vs := [.agg #[.int .i64 h.k, .int .i64 h.a, .int .i64 h.b], .slice A15 m.length c15]) hf rfl ff_144 (F144 _ h A15 c15 m ho15.rd.top P.hk P.ha P.inc P.hb hlm)) (fun _ _ h => ⟨fun _ => by obtain ⟨rfl, hE⟩ := h; exact hE, h⟩)) ?_; rintro a _ w129 ⟨rfl, hE⟩ hf
        replace hB2 := hB2.below hE
        replace hB3 := hB3.below hE
        replace hB26 := hB26.below hE
        replace hB109 := hB109.below hE
        replace hB118 := hB118.below hE
        replace ho15 := ho15.below hE
        replace ho14 := ho14.below hE
        replace ho110 := ho110.below hE
        replace hW := btr hW hE
        replace hEc := btr hEc hE
        clear hE
        refine s_one 11 (by kernel_rfl) ?_
        refine p_eff rfl hf trivial rfl rfl (Ef.mono (ef_call (vs := [.int .i64 (m.length : Int), .agg #[.int .i64 ((smallG m h).k), .int .i64 ((smallG m h).a), .int .i64 ((smallG m h).b)]]) hf rfl ff_143 (F143 _ (m.length : Int) (smallG m h) P.hs)) (fun _ _ h => ⟨fun _ => by obtain ⟨A119, c119, rfl, ho119, hE⟩ := h; exact hE, h⟩)) ?_; rintro a _ w130 ⟨A119, c119, rfl, ho119, hE⟩ hf
        replace ho119 := ho119.lower hW.size
        replace hB2 := hB2.below hE
        replace hB3 := hB3.below hE
        replace hB26 := hB26.below hE
        replace hB109 := hB109.below hE
        replace hB118 := hB118.below hE
        replace ho15 := ho15.below hE
        replace ho14 := ho14.below hE
        replace ho110 := ho110.below hE
        replace hW := btr hW hE
        replace hEc := btr hEc hE
        clear hE
        refine s_one 14 (by kernel_rfl) ?_
        refine p_eff0 rfl hf trivial rfl (Ef.mono (ef_store (vs := [.int .i64 ((gateS (m.length : Int) (smallG m g)).rows), .int .i64 ((gateS (m.length : Int) (smallG m g)).cols), .slice A110 ((gateS (m.length : Int) (smallG m g)).cells).length c110]) (l' := [.int .i64 ((gateS (m.length : Int) (smallG m g)).rows), .int .i64 ((gateS (m.length : Int) (smallG m g)).cols), .slice A110 ((gateS (m.length : Int) (smallG m g)).cells).length c110]) hf rfl rfl sz_141 hB109 rfl rfl rfl rfl rfl) (fun _ _ h => ⟨fun h0 => absurd h0 (by decide), h⟩)) ?_; rintro a _ w131 ⟨ho, hb⟩ hf
        have hold := hB109
        replace hB2 := hB2.only ho (Blk.ne hB2 hold rfl)
        replace hB3 := hB3.only ho (Blk.ne hB3 hold rfl)
        replace hB26 := hB26.only ho (Blk.ne hB26 hold rfl)
        replace hB118 := hB118.only ho (by omega)
        replace ho15 := ho15.onlyT ho hold rfl
        replace ho14 := ho14.onlyT ho hold rfl
        replace ho110 := ho110.onlyT ho hold rfl
        replace ho119 := ho119.onlyT ho hold rfl
        replace hEc := Below.only hEc ho hlc109
        replace hW := Below.only hW ho hlo109
        clear hold
        have hB109 := hb
        clear hb ho
        refine s_one 15 (by kernel_rfl) ?_
        refine p_eff0 rfl hf trivial rfl (Ef.mono (ef_store (vs := [.int .i64 ((gateS (m.length : Int) (smallG m h)).rows), .int .i64 ((gateS (m.length : Int) (smallG m h)).cols), .slice A119 ((gateS (m.length : Int) (smallG m h)).cells).length c119]) (l' := [.int .i64 ((gateS (m.length : Int) (smallG m h)).rows), .int .i64 ((gateS (m.length : Int) (smallG m h)).cols), .slice A119 ((gateS (m.length : Int) (smallG m h)).cells).length c119]) hf rfl rfl sz_141 hB118 rfl rfl rfl rfl rfl) (fun _ _ h => ⟨fun h0 => absurd h0 (by decide), h⟩)) ?_; rintro a _ w132 ⟨ho, hb⟩ hf
        have hold := hB118
        replace hB2 := hB2.only ho (Blk.ne hB2 hold rfl)
        replace hB3 := hB3.only ho (Blk.ne hB3 hold rfl)
        replace hB26 := hB26.only ho (Blk.ne hB26 hold rfl)
        replace hB109 := hB109.only ho (by omega)
        replace ho15 := ho15.onlyT ho hold rfl
        replace ho14 := ho14.onlyT ho hold rfl
        replace ho110 := ho110.onlyT ho hold rfl
        replace ho119 := ho119.onlyT ho hold rfl
        replace hEc := Below.only hEc ho hlc118
        replace hW := Below.only hW ho hlo118
        clear hold
        have hB118 := hb
        clear hb ho
        refine s_done (by kernel_rfl) ?_
        have hEE : Below w10.heap.size w10 w132 := hEc
        exact ⟨b109, b118, A110, c110, A119, c119, hf.sub ⟨rfl, (by first | rfl | (simp [look, hc6b, hc18b])), (by first | rfl | (simp [look, hc6b, hc18b])), trivial⟩, hlo109, hB109, hlo118, hB118, ho110, ho119, hEE⟩
      ·refine p_eff rfl hf trivial rfl rfl (Ef.mono (ef_alloc (zs := [.int .i64 0, .int .i64 0, .slice none 0 0]) z_141 rfl) (fun _ _ h => ⟨fun _ => by obtain ⟨_, _, _, hE, _⟩ := h; exact hE, h⟩)) ?_; rintro a _ w133 ⟨b121, rfl, hl121, hE, hB121⟩ hf
       have hne109_121 : b109 ≠ b121 := by have := hB109.lt; omega
       have hlo121 := Nat.le_trans hW.size hl121
       have hlc121 := Nat.le_trans hEc.size hl121
       replace hB2 := hB2.below hE
       replace hB3 := hB3.below hE
       replace hB26 := hB26.below hE
       replace hB109 := hB109.below hE
       replace ho15 := ho15.below hE
       replace ho14 := ho14.below hE
       replace hW := btr hW hE
       replace hEc := btr hEc hE
       clear hE
       refine s_one 5 (by kernel_rfl) ?_
       refine p_eff rfl hf trivial rfl rfl (Ef.mono (ef_call (vs := [.int .i64 (m.length : Int), .agg #[.int .i64 ((smallG m g).k), .int .i64 ((smallG m g).a), .int .i64 ((smallG m g).b)]]) hf rfl ff_143 (F143 _ (m.length : Int) (smallG m g) P.gs)) (fun _ _ h => ⟨fun _ => by obtain ⟨A122, c122, rfl, ho122, hE⟩ := h; exact hE, h⟩)) ?_; rintro a _ w134 ⟨A122, c122, rfl, ho122, hE⟩ hf
       replace ho122 := ho122.lower hW.size
       replace hB2 := hB2.below hE
       replace hB3 := hB3.below hE
       replace hB26 := hB26.below hE
       replace hB109 := hB109.below hE
       replace hB121 := hB121.below hE
       replace ho15 := ho15.below hE
       replace ho14 := ho14.below hE
       replace hW := btr hW hE
       replace hEc := btr hEc hE
       clear hE
       refine s_one 10 (by kernel_rfl) ?_
       refine p_eff rfl hf trivial rfl rfl (Ef.mono (ef_call (vs := [.agg #[.int .i64 h.k, .int .i64 h.a, .int .i64 h.b], .slice A15 m.length c15]) hf rfl ff_144 (F144 _ h A15 c15 m ho15.rd.top P.hk P.ha P.inc P.hb hlm)) (fun _ _ h => ⟨fun _ => by obtain ⟨rfl, hE⟩ := h; exact hE, h⟩)) ?_; rintro a _ w135 ⟨rfl, hE⟩ hf
       replace hB2 := hB2.below hE
       replace hB3 := hB3.below hE
       replace hB26 := hB26.below hE
       replace hB109 := hB109.below hE
       replace hB121 := hB121.below hE
       replace ho15 := ho15.below hE
       replace ho14 := ho14.below hE
       replace ho122 := ho122.below hE
       replace hW := btr hW hE
       replace hEc := btr hEc hE
       clear hE
       refine s_one 11 (by kernel_rfl) ?_
       refine p_eff rfl hf trivial rfl rfl (Ef.mono (ef_call (vs := [.int .i64 (m.length : Int), .agg #[.int .i64 ((smallG m h).k), .int .i64 ((smallG m h).a), .int .i64 ((smallG m h).b)]]) hf rfl ff_143 (F143 _ (m.length : Int) (smallG m h) P.hs)) (fun _ _ h => ⟨fun _ => by obtain ⟨A123, c123, rfl, ho123, hE⟩ := h; exact hE, h⟩)) ?_; rintro a _ w136 ⟨A123, c123, rfl, ho123, hE⟩ hf
       replace ho123 := ho123.lower hW.size
       replace hB2 := hB2.below hE
       replace hB3 := hB3.below hE
       replace hB26 := hB26.below hE
       replace hB109 := hB109.below hE
       replace hB121 := hB121.below hE
       replace ho15 := ho15.below hE
       replace ho14 := ho14.below hE
       replace ho122 := ho122.below hE
       replace hW := btr hW hE
       replace hEc := btr hEc hE
       clear hE
       refine s_one 14 (by kernel_rfl) ?_
       refine p_eff0 rfl hf trivial rfl (Ef.mono (ef_store (vs := [.int .i64 ((gateS (m.length : Int) (smallG m g)).rows), .int .i64 ((gateS (m.length : Int) (smallG m g)).cols), .slice A122 ((gateS (m.length : Int) (smallG m g)).cells).length c122]) (l' := [.int .i64 ((gateS (m.length : Int) (smallG m g)).rows), .int .i64 ((gateS (m.length : Int) (smallG m g)).cols), .slice A122 ((gateS (m.length : Int) (smallG m g)).cells).length c122]) hf rfl rfl sz_141 hB109 rfl rfl rfl rfl rfl) (fun _ _ h => ⟨fun h0 => absurd h0 (by decide), h⟩)) ?_; rintro a _ w137 ⟨ho, hb⟩ hf
       have hold := hB109
       replace hB2 := hB2.only ho (Blk.ne hB2 hold rfl)
       replace hB3 := hB3.only ho (Blk.ne hB3 hold rfl)
       replace hB26 := hB26.only ho (Blk.ne hB26 hold rfl)
       replace hB121 := hB121.only ho (by omega)
       replace ho15 := ho15.onlyT ho hold rfl
       replace ho14 := ho14.onlyT ho hold rfl
       replace ho122 := ho122.onlyT ho hold rfl
       replace ho123 := ho123.onlyT ho hold rfl
       replace hEc := Below.only hEc ho hlc109
       replace hW := Below.only hW ho hlo109
       clear hold
       have hB109 := hb
       clear hb ho
       refine s_one 15 (by kernel_rfl) ?_
       refine p_eff0 rfl hf trivial rfl (Ef.mono (ef_store (vs := [.int .i64 ((gateS (m.length : Int) (smallG m h)).rows), .int .i64 ((gateS (m.length : Int) (smallG m h)).cols), .slice A123 ((gateS (m.length : Int) (smallG m h)).cells).length c123]) (l' := [.int .i64 ((gateS (m.length : Int) (smallG m h)).rows), .int .i64 ((gateS (m.length : Int) (smallG m h)).cols), .slice A123 ((gateS (m.length : Int) (smallG m h)).cells).length c123]) hf rfl rfl sz_141 hB121 rfl rfl rfl rfl rfl) (fun _ _ h => ⟨fun h0 => absurd h0 (by decide), h⟩)) ?_; rintro a _ w138 ⟨ho, hb⟩ hf
       have hold := hB121
       replace hB2 := hB2.only ho (Blk.ne hB2 hold rfl)
       replace hB3 := hB3.only ho (Blk.ne hB3 hold rfl)
       replace hB26 := hB26.only ho (Blk.ne hB26 hold rfl)
       replace hB109 := hB109.only ho (by omega)
       replace ho15 := ho15.onlyT ho hold rfl
       replace ho14 := ho14.onlyT ho hold rfl
       replace ho122 := ho122.onlyT ho hold rfl
       replace ho123 := ho123.onlyT ho hold rfl
       replace hEc := Below.only hEc ho hlc121
       replace hW := Below.only hW ho hlo121
       clear hold
       have hB121 := hb
       clear hb ho
       refine s_done (by kernel_rfl) ?_
       have hEE : Below w10.heap.size w10 w138 := hEc
       exact ⟨b109, b121, A122, c122, A123, c123, hf.sub ⟨rfl, (by first | rfl | (simp [look, hc6b, hc18b])), (by first | rfl | (simp [look, hc6b, hc18b])), trivial⟩, hlo109, hB109, hlo121, hB121, ho122, ho123, hEE⟩
     ·refine p_eff rfl hf trivial rfl rfl (Ef.mono (ef_alloc (zs := [.int .i64 0, .int .i64 0, .slice none 0 0]) z_141 rfl) (fun _ _ h => ⟨fun _ => by obtain ⟨_, _, _, hE, _⟩ := h; exact hE, h⟩)) ?_; rintro a _ w139 ⟨b125, rfl, hl125, hE, hB125⟩ hf
      have hne109_125 : b109 ≠ b125 := by have := hB109.lt; omega
      have hlo125 := Nat.le_trans hW.size hl125
      have hlc125 := Nat.le_trans hEc.size hl125
      replace hB2 := hB2.below hE
      replace hB3 := hB3.below hE
      replace hB26 := hB26.below hE
      replace hB109 := hB109.below hE
      replace ho15 := ho15.below hE
      replace ho14 := ho14.below hE
      replace hW := btr hW hE
      replace hEc := btr hEc hE
      clear hE
      refine s_one 4 (by kernel_rfl) ?_
      refine p_eff rfl hf trivial rfl rfl (Ef.mono (ef_call (vs := [.agg #[.int .i64 g.k, .int .i64 g.a, .int .i64 g.b], .slice A15 m.length c15]) hf rfl ff_144 (F144 _ g A15 c15 m ho15.rd.top P.gk P.ga P.inc P.gb hlm)) (fun _ _ h => ⟨fun _ => by obtain ⟨rfl, hE⟩ := h; exact hE, h⟩)) ?_; rintro a _ w140 ⟨rfl, hE⟩ hf
      replace hB2 := hB2.below hE
      replace hB3 := hB3.below hE
      replace hB26 := hB26.below hE
      replace hB109 := hB109.below hE
      replace hB125 := hB125.below hE
      replace ho15 := ho15.below hE
      replace ho14 := ho14.below hE
      replace hW := btr hW hE
      replace hEc := btr hEc hE
      clear hE
      refine s_one 5 (by kernel_rfl) ?_
      refine p_eff rfl hf trivial rfl rfl (Ef.mono (ef_call (vs := [.int .i64 (m.length : Int), .agg #[.int .i64 ((smallG m g).k), .int .i64 ((smallG m g).a), .int .i64 ((smallG m g).b)]]) hf rfl ff_143 (F143 _ (m.length : Int) (smallG m g) P.gs)) (fun _ _ h => ⟨fun _ => by obtain ⟨A126, c126, rfl, ho126, hE⟩ := h; exact hE, h⟩)) ?_; rintro a _ w141 ⟨A126, c126, rfl, ho126, hE⟩ hf
      replace ho126 := ho126.lower hW.size
      replace hB2 := hB2.below hE
      replace hB3 := hB3.below hE
      replace hB26 := hB26.below hE
      replace hB109 := hB109.below hE
      replace hB125 := hB125.below hE
      replace ho15 := ho15.below hE
      replace ho14 := ho14.below hE
      replace hW := btr hW hE
      replace hEc := btr hEc hE
      clear hE
      refine s_one 10 (by kernel_rfl) ?_
      refine p_eff rfl hf trivial rfl rfl (Ef.mono (ef_call (vs := [.agg #[.int .i64 h.k, .int .i64 h.a, .int .i64 h.b], .slice A15 m.length c15]) hf rfl ff_144 (F144 _ h A15 c15 m ho15.rd.top P.hk P.ha P.inc P.hb hlm)) (fun _ _ h => ⟨fun _ => by obtain ⟨rfl, hE⟩ := h; exact hE, h⟩)) ?_; rintro a _ w142 ⟨rfl, hE⟩ hf
      replace hB2 := hB2.below hE
      replace hB3 := hB3.below hE
      replace hB26 := hB26.below hE
      replace hB109 := hB109.below hE
      replace hB125 := hB125.below hE
      replace ho15 := ho15.below hE
      replace ho14 := ho14.below hE
      replace ho126 := ho126.below hE
      replace hW := btr hW hE
      replace hEc := btr hEc hE
      clear hE
      refine s_one 11 (by kernel_rfl) ?_
      refine p_eff rfl hf trivial rfl rfl (Ef.mono (ef_call (vs := [.int .i64 (m.length : Int), .agg #[.int .i64 ((smallG m h).k), .int .i64 ((smallG m h).a), .int .i64 ((smallG m h).b)]]) hf rfl ff_143 (F143 _ (m.length : Int) (smallG m h) P.hs)) (fun _ _ h => ⟨fun _ => by obtain ⟨A127, c127, rfl, ho127, hE⟩ := h; exact hE, h⟩)) ?_; rintro a _ w143 ⟨A127, c127, rfl, ho127, hE⟩ hf
      replace ho127 := ho127.lower hW.size
      replace hB2 := hB2.below hE
      replace hB3 := hB3.below hE
      replace hB26 := hB26.below hE
      replace hB109 := hB109.below hE
      replace hB125 := hB125.below hE
      replace ho15 := ho15.below hE
      replace ho14 := ho14.below hE
      replace ho126 := ho126.below hE
      replace hW := btr hW hE
      replace hEc := btr hEc hE
      clear hE
      refine s_one 14 (by kernel_rfl) ?_
      refine p_eff0 rfl hf trivial rfl (Ef.mono (ef_store (vs := [.int .i64 ((gateS (m.length : Int) (smallG m g)).rows), .int .i64 ((gateS (m.length : Int) (smallG m g)).cols), .slice A126 ((gateS (m.length : Int) (smallG m g)).cells).length c126]) (l' := [.int .i64 ((gateS (m.length : Int) (smallG m g)).rows), .int .i64 ((gateS (m.length : Int) (smallG m g)).cols), .slice A126 ((gateS (m.length : Int) (smallG m g)).cells).length c126]) hf rfl rfl sz_141 hB109 rfl rfl rfl rfl rfl) (fun _ _ h => ⟨fun h0 => absurd h0 (by decide), h⟩)) ?_; rintro a _ w144 ⟨ho, hb⟩ hf
      have hold := hB109
      replace hB2 := hB2.only ho (Blk.ne hB2 hold rfl)
      replace hB3 := hB3.only ho (Blk.ne hB3 hold rfl)
      replace hB26 := hB26.only ho (Blk.ne hB26 hold rfl)
      replace hB125 := hB125.only ho (by omega)
      replace ho15 := ho15.onlyT ho hold rfl
      replace ho14 := ho14.onlyT ho hold rfl
      replace ho126 := ho126.onlyT ho hold rfl
      replace ho127 := ho127.onlyT ho hold rfl
      replace hEc := Below.only hEc ho hlc109
      replace hW := Below.only hW ho hlo109
      clear hold
      have hB109 := hb
      clear hb ho
      refine s_one 15 (by kernel_rfl) ?_
      refine p_eff0 rfl hf trivial rfl (Ef.mono (ef_store (vs := [.int .i64 ((gateS (m.length : Int) (smallG m h)).rows), .int .i64 ((gateS (m.length : Int) (smallG m h)).cols), .slice A127 ((gateS (m.length : Int) (smallG m h)).cells).length c127]) (l' := [.int .i64 ((gateS (m.length : Int) (smallG m h)).rows), .int .i64 ((gateS (m.length : Int) (smallG m h)).cols), .slice A127 ((gateS (m.length : Int) (smallG m h)).cells).length c127]) hf rfl rfl sz_141 hB125 rfl rfl rfl rfl rfl) (fun _ _ h => ⟨fun h0 => absurd h0 (by decide), h⟩)) ?_; rintro a _ w145 ⟨ho, hb⟩ hf
      have hold := hB125
      replace hB2 := hB2.only ho (Blk.ne hB2 hold rfl)
      replace hB3 := hB3.only ho (Blk.ne hB3 hold rfl)
      replace hB26 := hB26.only ho (Blk.ne hB26 hold rfl)
      replace hB109 := hB109.only ho (by omega)
      replace ho15 := ho15.onlyT ho hold rfl
      replace ho14 := ho14.onlyT ho hold rfl
      replace ho126 := ho126.onlyT ho hold rfl
      replace ho127 := ho127.onlyT ho hold rfl
      replace hEc := Below.only hEc ho hlc125
      replace hW := Below.only hW ho hlo125
      clear hold
      have hB125 := hb
      clear hb ho
      refine s_done (by kernel_rfl) ?_
      have hEE : Below w10.heap.size w10 w145 := hEc
      exact ⟨b109, b125, A126, c126, A127, c127, hf.sub ⟨rfl, (by first | rfl | (simp [look, hc6b, hc18b])), (by first | rfl | (simp [look, hc6b, hc18b])), trivial⟩, hlo109, hB109, hlo125, hB125, ho126, ho127, hEE⟩
    ·refine p_eff rfl hf trivial rfl rfl (Ef.mono (ef_alloc (zs := [.int .i64 0, .int .i64 0, .slice none 0 0]) z_141 rfl) (fun _ _ h => ⟨fun _ => by obtain ⟨_, _, _, hE, _⟩ := h; exact hE, h⟩)) ?_; rintro a _ w146 ⟨b129, rfl, hl129, hE, hB129⟩ hf
     have hlo129 := Nat.le_trans hW.size hl129
     have hlc129 := Nat.le_trans hEc.size hl129
     replace hB2 := hB2.below hE
     replace hB3 := hB3.below hE
     replace hB26 := hB26.below hE
     replace ho15 := ho15.below hE
     replace ho14 := ho14.below hE
     replace hW := btr hW hE
     replace hEc := btr hEc hE
     clear hE
     refine s_two 4 12 (by kernel_rfl) ?_ ?_
     ·refine p_eff rfl hf trivial rfl rfl (Ef.mono (ef_call (vs := [.agg #[.int .i64 g.k, .int .i64 g.a, .int .i64 g.b], .slice A15 m.length c15]) hf rfl ff_144 (F144 _ g A15 c15 m ho15.rd.top P.gk P.ga P.inc P.gb hlm)) (fun _ _ h => ⟨fun _ => by obtain ⟨rfl, hE⟩ := h; exact hE, h⟩)) ?_; rintro a _ w147 ⟨rfl, hE⟩ hf
      replace hB2 := hB2.below hE
      replace hB3 := hB3.below hE
      replace hB26 := hB26.below hE
      replace hB129 := hB129.below hE
      replace ho15 := ho15.below hE
      replace ho14 := ho14.below hE
      replace hW := btr hW hE
      replace hEc := btr hEc hE
      clear hE
      refine s_two 5 12 (by kernel_rfl) ?_ ?_
      ·refine p_eff rfl hf trivial rfl rfl (Ef.mono (ef_call (vs := [.int .i64 (m.length : Int), .agg #[.int .i64 ((smallG m g).k), .int .i64 ((smallG m g).a), .int .i64 ((smallG m g).b)]]) hf rfl ff_143 (F143 _ (m.length : Int) (smallG m g) P.gs)) (fun _ _ h => ⟨fun _ => by obtain ⟨A130, c130, rfl, ho130, hE⟩ := h; exact hE, h⟩)) ?_; rintro a _ w148 ⟨A130, c130, rfl, ho130, hE⟩ hf
       replace ho130 := ho130.lower hW.size
       replace hB2 := hB2.below hE
       replace hB3 := hB3.below hE
       replace hB26 := hB26.below hE
       replace hB129 := hB129.below hE
       replace ho15 := ho15.below hE
       replace ho14 := ho14.below hE
       replace hW := btr hW hE
       replace hEc := btr hEc hE
       clear hE
       refine s_two 10 12 (by kernel_rfl) ?_ ?_
       ·refine p_eff rfl hf trivial rfl rfl (Ef.mono (ef_call (vs := [.agg #[.int .i64 h.k, .int .i64 h.a, .int .i64 h.b], .slice A15 m.length c15]) hf rfl ff_144 (F144 _ h A15 c15 m ho15.rd.top P.hk P.ha P.inc P.hb hlm)) (fun _ _ h => ⟨fun _ => by obtain ⟨rfl, hE⟩ := h; exact hE, h⟩)) ?_; rintro a _ w149 ⟨rfl, hE⟩ hf
        replace hB2 := hB2.below hE
        replace hB3 := hB3.below hE
        replace hB26 := hB26.below hE
        replace hB129 := hB129.below hE
        replace ho15 := ho15.below hE
        replace ho14 := ho14.below hE
        replace ho130 := ho130.below hE
        replace hW := btr hW hE
        replace hEc := btr hEc hE
        clear hE
        refine s_two 11 12 (by kernel_rfl) ?_ ?_
        ·refine p_eff rfl hf trivial rfl rfl (Ef.mono (ef_call (vs := [.int .i64 (m.length : Int), .agg #[.int .i64 ((smallG m h).k), .int .i64 ((smallG m h).a), .int .i64 ((smallG m h).b)]]) hf rfl ff_143 (F143 _ (m.length : Int) (smallG m h) P.hs)) (fun _ _ h => ⟨fun _ => by obtain ⟨A131, c131, rfl, ho131, hE⟩ := h; exact hE, h⟩)) ?_; rintro a _ w150 ⟨A131, c131, rfl, ho131, hE⟩ hf
         replace ho131 := ho131.lower hW.size
         replace hB2 := hB2.below hE
         replace hB3 := hB3.below hE
         replace hB26 := hB26.below hE
         replace hB129 := hB129.below hE
         replace ho15 := ho15.below hE
         replace ho14 := ho14.below hE
         replace ho130 := ho130.below hE
         replace hW := btr hW hE
         replace hEc := btr hEc hE
         clear hE
         refine s_one 12 (by kernel_rfl) ?_
         refine p_eff rfl hf trivial rfl rfl (Ef.mono (ef_alloc (zs := [.int .i64 0, .int .i64 0, .slice none 0 0]) z_141 rfl) (fun _ _ h => ⟨fun _ => by obtain ⟨_, _, _, hE, _⟩ := h; exact hE, h⟩)) ?_; rintro a _ w151 ⟨b133, rfl, hl133, hE, hB133⟩ hf
         have hne129_133 : b129 ≠ b133 := by have := hB129.lt; omega
         have hlo133 := Nat.le_trans hW.size hl133
         have hlc133 := Nat.le_trans hEc.size hl133
         replace hB2 := hB2.below hE
         replace hB3 := hB3.below hE
         replace hB26 := hB26.below hE
         replace hB129 := hB129.below hE
         replace ho15 := ho15.below hE
         replace ho14 := ho14.below hE
         replace ho130 := ho130.below hE
         replace ho131 := ho131.below hE
         replace hW := btr hW hE
         replace hEc := btr hEc hE
         clear hE
         refine s_one 14 (by kernel_rfl) ?_
         refine p_eff0 rfl hf trivial rfl (Ef.mono (ef_store (vs := [.int .i64 ((gateS (m.length : Int) (smallG m g)).rows), .int .i64 ((gateS (m.length : Int) (smallG m g)).cols), .slice A130 ((gateS (m.length : Int) (smallG m g)).cells).length c130]) (l' := [.int .i64 ((gateS (m.length : Int) (smallG m g)).rows), .int .i64 ((gateS (m.length : Int) (smallG m g)).cols), .slice A130 ((gateS (m.length : Int) (smallG m g)).cells).length c130]) hf rfl rfl sz_141 hB133 rfl rfl rfl rfl rfl) (fun _ _ h => ⟨fun h0 => absurd h0 (by decide), h⟩)) ?_; rintro a _ w152 ⟨ho, hb⟩ hf
         have hold := hB133
         replace hB2 := hB2.only ho (Blk.ne hB2 hold rfl)
         replace hB3 := hB3.only ho (Blk.ne hB3 hold rfl)
         replace hB26 := hB26.only ho (Blk.ne hB26 hold rfl)
         replace hB129 := hB129.only ho (by omega)
         replace ho15 := ho15.onlyT ho hold rfl
         replace ho14 := ho14.onlyT ho hold rfl
         replace ho130 := ho130.onlyT ho hold rfl
         replace ho131 := ho131.onlyT ho hold rfl
         replace hEc := Below.only hEc ho hlc133
         replace hW := Below.only hW ho hlo133
         clear hold
         have hB133 := hb
         clear hb ho
         refine s_one 15 (by kernel_rfl) ?_
         refine p_eff0 rfl hf trivial rfl (Ef.mono (ef_store (vs := [.int .i64 ((gateS (m.length : Int) (smallG m h)).rows), .int .i64 ((gateS (m.length : Int) (smallG m h)).cols), .slice A131 ((gateS (m.length : Int) (smallG m h)).cells).length c131]) (l' := [.int .i64 ((gateS (m.length : Int) (smallG m h)).rows), .int .i64 ((gateS (m.length : Int) (smallG m h)).cols), .slice A131 ((gateS (m.length : Int) (smallG m h)).cells).length c131]) hf rfl rfl sz_141 hB129 rfl rfl rfl rfl rfl) (fun _ _ h => ⟨fun h0 => absurd h0 (by decide), h⟩)) ?_; rintro a _ w153 ⟨ho, hb⟩ hf
         have hold := hB129
         replace hB2 := hB2.only ho (Blk.ne hB2 hold rfl)
         replace hB3 := hB3.only ho (Blk.ne hB3 hold rfl)
         replace hB26 := hB26.only ho (Blk.ne hB26 hold rfl)
         replace hB133 := hB133.only ho (by omega)
         replace ho15 := ho15.onlyT ho hold rfl
         replace ho14 := ho14.onlyT ho hold rfl
         replace ho130 := ho130.onlyT ho hold rfl
         replace ho131 := ho131.onlyT ho hold rfl
         replace hEc := Below.only hEc ho hlc129
         replace hW := Below.only hW ho hlo129
         clear hold
         have hB129 := hb
         clear hb ho
         refine s_done (by kernel_rfl) ?_
         have hEE : Below w10.heap.size w10 w153 := hEc
         exact ⟨b133, b129, A130, c130, A131, c131, hf.sub ⟨rfl, (by first | rfl | (simp [look, hc6b, hc18b])), (by first | rfl | (simp [look, hc6b, hc18b])), trivial⟩, hlo133, hB133, hlo129, hB129, ho130, ho131, hEE⟩
        ·refine p_eff rfl hf trivial rfl rfl (Ef.mono (ef_alloc (zs := [.int .i64 0, .int .i64 0, .slice none 0 0]) z_141 rfl) (fun _ _ h => ⟨fun _ => by obtain ⟨_, _, _, hE, _⟩ := h; exact hE, h⟩)) ?_; rintro a _ w154 ⟨b135, rfl, hl135, hE, hB135⟩ hf
         have hne129_135 : b129 ≠ b135 := by have := hB129.lt; omega
         have hlo135 := Nat.le_trans hW.size hl135
         have hlc135 := Nat.le_trans hEc.size hl135
         replace hB2 := hB2.below hE
         replace hB3 := hB3.below hE
         replace hB26 := hB26.below hE
         replace hB129 := hB129.below hE
         replace ho15 := ho15.below hE
         replace ho14 := ho14.below hE
         replace ho130 := ho130.below hE
         replace hW := btr hW hE
         replace hEc := btr hEc hE
         clear hE
         refine s_one 11 (by kernel_rfl) ?_
         refine p_eff rfl hf trivial rfl rfl (Ef.mono (ef_call (vs := [.int .i64 (m.length : Int), .agg #[.int .i64 ((smallG m h).k), .int .i64 ((smallG m h).a), .int .i64 ((smallG m h).b)]]) hf rfl ff_143 (F143 _ (m.length : Int) (smallG m h) P.hs)) (fun _ _ h => ⟨fun _ => by obtain ⟨A136, c136, rfl, ho136, hE⟩ := h; exact hE, h⟩)) ?_; rintro a _ w155 ⟨A136, c136, rfl, ho136, hE⟩ hf
         replace ho136 := ho136.lower hW.size
         replace hB2 := hB2.below hE
         replace hB3 := hB3.below hE
         replace hB26 := hB26.below hE
         replace hB129 := hB129.below hE
         replace hB135 := hB135.below hE
         replace ho15 := ho15.below hE
         replace ho14 := ho14.below hE
         replace ho130 := ho130.below hE
         replace hW := btr hW hE
         replace hEc := btr hEc hE
         clear hE
         refine s_one 14 (by kernel_rfl) ?_
         refine p_eff0 rfl hf trivial rfl (Ef.mono (ef_store (vs := [.int .i64 ((gateS (m.length : Int) (smallG m g)).rows), .int .i64 ((gateS (m.length : Int) (smallG m g)).cols), .slice A130 ((gateS (m.length : Int) (smallG m g)).cells).length c130]) (l' := [.int .i64 ((gateS (m.length : Int) (smallG m g)).rows), .int .i64 ((gateS (m.length : Int) (smallG m g)).cols), .slice A130 ((gateS (m.length : Int) (smallG m g)).cells).length c130]) hf rfl rfl sz_141 hB135 rfl rfl rfl rfl rfl) (fun _ _ h => ⟨fun h0 => absurd h0 (by decide), h⟩)) ?_; rintro a _ w156 ⟨ho, hb⟩ hf
         have hold := hB135
         replace hB2 := hB2.only ho (Blk.ne hB2 hold rfl)
         replace hB3 := hB3.only ho (Blk.ne hB3 hold rfl)
         replace hB26 := hB26.only ho (Blk.ne hB26 hold rfl)
         replace hB129 := hB129.only ho (by omega)
         replace ho15 := ho15.onlyT ho hold rfl
         replace ho14 := ho14.onlyT ho hold rfl
         replace ho130 := ho130.onlyT ho hold rfl
         replace ho136 := ho136.onlyT ho hold rfl
         replace hEc := Below.only hEc ho hlc135
         replace hW := Below.only hW ho hlo135
         clear hold
         have hB135 := hb
         clear hb ho
         refine s_one 15 (by kernel_rfl) ?_
         refine p_eff0 rfl hf trivial rfl (Ef.mono (ef_store (vs := [.int .i64 ((gateS (m.length : Int) (smallG m h)).rows), .int .i64 ((gateS (m.length : Int) (smallG m h)).cols), .slice A136 ((gateS (m.length : Int) (smallG m h)).cells).length c136]) (l' := [.int .i64 ((gateS (m.length : Int) (smallG m h)).rows), .int .i64 ((gateS (m.length : Int) (smallG m h)).cols), .slice A136 ((gateS (m.length : Int) (smallG m h)).cells).length c136]) hf rfl rfl sz_141 hB129 rfl rfl rfl rfl rfl) (fun _ _ h => ⟨fun h0 => absurd h0 (by decide), h⟩)) ?_; rintro a _ w157 ⟨ho, hb⟩ hf
         have hold := hB129
         replace hB2 := hB2.only ho (Blk.ne hB2 hold rfl)
         replace hB3 := hB3.only ho (Blk.ne hB3 hold rfl)
         replace hB26 := hB26.only ho (Blk.ne hB26 hold rfl)
         replace hB135 := hB135.only ho (by omega)
         replace ho15 := ho15.onlyT ho hold rfl
         replace ho14 := ho14.onlyT ho hold rfl
         replace ho130 := ho130.onlyT ho hold rfl
         replace ho136 := ho136.onlyT ho hold rfl
         replace hEc := Below.only hEc ho hlc129
         replace hW := Below.only hW ho hlo129
         clear hold
         have hB129 := hb
         clear hb ho
         refine s_done (by kernel_rfl) ?_
         have hEE : Below w10.heap.size w10 w157 := hEc
         exact ⟨b135, b129, A130, c130, A136, c136, hf.sub ⟨rfl, (by first | rfl | (simp [look, hc6b, hc18b])), (by first | rfl | (simp [look, hc6b, hc18b])), trivial⟩, hlo135, hB135, hlo129, hB129, ho130, ho136, hEE⟩
       ·refine p_eff rfl hf trivial rfl rfl (Ef.mono (ef_alloc (zs := [.int .i64 0, .int .i64 0, .slice none 0 0]) z_141 rfl) (fun _ _ h => ⟨fun _ => by obtain ⟨_, _, _, hE, _⟩ := h; exact hE, h⟩)) ?_; rintro a _ w158 ⟨b138, rfl, hl138, hE, hB138⟩ hf
        have hne129_138 : b129 ≠ b138 := by have := hB129.lt; omega
        have hlo138 := Nat.le_trans hW.size hl138
        have hlc138 := Nat.le_trans hEc.size hl138
        replace hB2 := hB2.below hE
        replace hB3 := hB3.below hE
        replace hB26 := hB26.below hE
        replace hB129 := hB129.below hE
        replace ho15 := ho15.below hE
        replace ho14 := ho14.below hE
        replace ho130 := ho130.below hE
        replace hW := btr hW hE
        replace hEc := btr hEc hE
        clear hE
        refine s_one 10 (by kernel_rfl) ?_
        refine p_eff rfl hf trivial rfl rfl (Ef.mono (ef_call (vs := [.agg #[.int .i64 h.k, .int .i64 h.a, .int .i64 h.b], .slice A15 m.length c15]) hf rfl ff_144 (F144 _ h A15 c15 m ho15.rd.top P.hk P.ha P.inc P.hb hlm)) (fun _ _ h => ⟨fun _ => by obtain ⟨rfl, hE⟩ := h; exact hE, h⟩)) ?_; rintro a _ w159 ⟨rfl, hE⟩ hf
        replace hB2 := hB2.below hE
        replace hB3 := hB3.below hE
        replace hB26 := hB26.below hE
        replace hB129 := hB129.below hE
        replace hB138 := hB138.below hE
        replace ho15 := ho15.below hE
        replace ho14 := ho14.below hE
        replace ho130 := ho130.below hE
        replace hW := btr hW hE
        replace hEc := btr hEc hE
        clear hE
        refine s_one 11 (by kernel_rfl) ?_
        refine p_eff rfl hf trivial rfl rfl (Ef.mono (ef_call (vs := [.int .i64 (m.length : Int), .agg #[.int .i64 ((smallG m h).k), .int .i64 ((smallG m h).a), .int .i64 ((smallG m h).b)]]) hf rfl ff_143 (F143 _ (m.length : Int) (smallG m h) P.hs)) (fun _ _ h => ⟨fun _ => by obtain ⟨A139, c139, rfl, ho139, hE⟩ := h; exact hE, h⟩)) ?_; rintro a _ w160 ⟨A139, c139, rfl, ho139, hE⟩ hf
        replace ho139 := ho139.lower hW.size
        replace hB2 := hB2.below hE
        replace hB3 := hB3.below hE
        replace hB26 := hB26.below hE
        replace hB129 := hB129.below hE
        replace hB138 := hB138.below hE
        replace ho15 := ho15.below hE
        replace ho14 := ho14.below hE
        replace ho130 := ho130.below hE
        replace hW := btr hW hE
        replace hEc := btr hEc hE
        clear hE
        refine s_one 14 (by kernel_rfl) ?_
        refine p_eff0 rfl hf trivial rfl (Ef.mono (ef_store (vs := [.int .i64 ((gateS (m.length : Int) (smallG m g)).rows), .int .i64 ((gateS (m.length : Int) (smallG m g)).cols), .slice A130 ((gateS (m.length : Int) (smallG m g)).cells).length c130]) (l' := [.int .i64 ((gateS (m.length : Int) (smallG m g)).rows), .int .i64 ((gateS (m.length : Int) (smallG m g)).cols), .slice A130 ((gateS (m.length : Int) (smallG m g)).cells).length c130]) hf rfl rfl sz_141 hB138 rfl rfl rfl rfl rfl) (fun _ _ h => ⟨fun h0 => absurd h0 (by decide), h⟩)) ?_; rintro a _ w161 ⟨ho, hb⟩ hf
        have hold := hB138
        replace hB2 := hB2.only ho (Blk.ne hB2 hold rfl)
        replace hB3 := hB3.only ho (Blk.ne hB3 hold rfl)
        replace hB26 := hB26.only ho (Blk.ne hB26 hold rfl)
        replace hB129 := hB129.only ho (by omega)
        replace ho15 := ho15.onlyT ho hold rfl
        replace ho14 := ho14.onlyT ho hold rfl
        replace ho130 := ho130.onlyT ho hold rfl
        replace ho139 := ho139.onlyT ho hold rfl
        replace hEc := Below.only hEc ho hlc138
        replace hW := Below.only hW ho hlo138
        clear hold
        have hB138 := hb
        clear hb ho
        refine s_one 15 (by kernel_rfl) ?_
        refine p_eff0 rfl hf trivial rfl (Ef.mono (ef_store (vs := [.int .i64 ((gateS (m.length : Int) (smallG m h)).rows), .int .i64 ((gateS (m.length : Int) (smallG m h)).cols), .slice A139 ((gateS (m.length : Int) (smallG m h)).cells).length c139]) (l' := [.int .i64 ((gateS (m.length : Int) (smallG m h)).rows), .int .i64 ((gateS (m.length : Int) (smallG m h)).cols), .slice A139 ((gateS (m.length : Int) (smallG m h)).cells).length c139]) hf rfl rfl sz_141 hB129 rfl rfl rfl rfl rfl) (fun _ _ h => ⟨fun h0 => absurd h0 (by decide), h⟩)) ?_; rintro a _ w162 ⟨ho, hb⟩ hf
        have hold := hB129
        replace hB2 := hB2.only ho (Blk.ne hB2 hold rfl)
        replace hB3 := hB3.only ho (Blk.ne hB3 hold rfl)
        replace hB26 := hB26.only ho (Blk.ne hB26 hold rfl)
        replace hB138 := hB138.only ho (by omega)
        replace ho15 := ho15.onlyT ho hold rfl
        replace ho14 := ho14.onlyT ho hold rfl
        replace ho130 := ho130.onlyT ho hold rfl
        replace ho139 := ho139.onlyT ho hold rfl
        replace hEc := Below.only hEc ho hlc129
        replace hW := Below.only hW ho hlo129
        clear hold
        have hB129 := hb
        clear hb ho
        refine s_done (by kernel_rfl) ?_
        have hEE : Below w10.heap.size w10 w162 := hEc
        exact ⟨b138, b129, A130, c130, A139, c139, hf.sub ⟨rfl, (by first | rfl | (simp [look, hc6b, hc18b])), (by first | rfl | (simp [look, hc6b, hc18b])), trivial⟩, hlo138, hB138, hlo129, hB129, ho130, ho139, hEE⟩
      ·refine p_eff rfl hf trivial rfl rfl (Ef.mono (ef_alloc (zs := [.int .i64 0, .int .i64 0, .slice none 0 0]) z_141 rfl) (fun _ _ h => ⟨fun _ => by obtain ⟨_, _, _, hE, _⟩ := h; exact hE, h⟩)) ?_; rintro a _ w163 ⟨b141, rfl, hl141, hE, hB141⟩ hf
       have hne129_141 : b129 ≠ b141 := by have := hB129.lt; omega
       have hlo141 := Nat.le_trans hW.size hl141
       have hlc141 := Nat.le_trans hEc.size hl141
       replace hB2 := hB2.below hE
       replace hB3 := hB3.below hE
       replace hB26 := hB26.below hE
       replace hB129 := hB129.below hE
       replace ho15 := ho15.below hE
       replace ho14 := ho14.below hE
       replace hW := btr hW hE
       replace hEc := btr hEc hE
       clear hE
       refine s_one 5 (by kernel_rfl) ?_
       refine p_eff rfl hf trivial rfl rfl (Ef.mono (ef_call (vs := [.int .i64 (m.length : Int), .agg #[.int .i64 ((smallG m g).k), .int .i64 ((smallG m g).a), .int .i64 ((smallG m g).b)]]) hf rfl ff_143 (F143 _ (m.length : Int) (smallG m g) P.gs)) (fun _ _ h => ⟨fun _ => by obtain ⟨A142, c142, rfl, ho142, hE⟩ := h; exact hE, h⟩)) ?_; rintro a _ w164 ⟨A142, c142, rfl, ho142, hE⟩ hf
       replace ho142 := ho142.lower hW.size
       replace hB2 := hB2.below hE
       replace hB3 := hB3.below hE
       replace hB26 := hB26.below hE
       replace hB129 := hB129.below hE
       replace hB141 := hB141.below hE
       replace ho15 := ho15.below hE
       replace ho14 := ho14.below hE
       replace hW := btr hW hE
       replace hEc := btr hEc hE
       clear hE
       refine s_one 10 (by kernel_rfl) ?_
       refine p_eff rfl hf trivial rfl rfl (Ef.mono (ef_call (vs := [.agg #[.int .i64 h.k, .int .i64 h.a, .int .i64 h.b], .slice A15 m.length c15]) hf rfl ff_144 (F144 _ h A15 c15 m ho15.rd.top P.hk P.ha P.inc P.hb hlm)) (fun _ _ h => ⟨fun _ => by obtain ⟨rfl, hE⟩ := h; exact hE, h⟩)) ?_; rintro a _ w165 ⟨rfl, hE⟩ hf
       replace hB2 := hB2.below hE
       replace hB3 := hB3.below hE
       replace hB26 := hB26.below hE
       replace hB129 := hB129.below hE
       replace hB141 := hB141.below hE
       replace ho15 := ho15.below hE
       replace ho14 := ho14.below hE
       replace ho142 := ho142.below hE
       replace hW := btr hW hE
       replace hEc := btr hEc hE
       clear hE
       refine s_one 11 (by kernel_rfl) ?_
       refine p_eff rfl hf trivial rfl rfl (Ef.mono (ef_call (vs := [.int .i64 (m.length : Int), .agg #[.int .i64 ((smallG m h).k), .int .i64 ((smallG m h).a), .int .i64 ((smallG m h).b)]]) hf rfl ff_143 (F143 _ (m.length : Int) (smallG m h) P.hs)) (fun _ _ h => ⟨fun _ => by obtain ⟨A143, c143, rfl, ho143, hE⟩ := h; exact hE, h⟩)) ?_; rintro a _ w166 ⟨A143, c143, rfl, ho143, hE⟩ hf
       replace ho143 := ho143.lower hW.size
       replace hB2 := hB2.below hE
       replace hB3 := hB3.below hE
       replace hB26 := hB26.below hE
       replace hB129 := hB129.below hE
       replace hB141 := hB141.below hE
       replace ho15 := ho15.below hE
       replace ho14 := ho14.below hE
       replace ho142 := ho142.below hE
       replace hW := btr hW hE
       replace hEc := btr hEc hE
       clear hE
       refine s_one 14 (by kernel_rfl) ?_
       refine p_eff0 rfl hf trivial rfl (Ef.mono (ef_store (vs := [.int .i64 ((gateS (m.length : Int) (smallG m g)).rows), .int .i64 ((gateS (m.length : Int) (smallG m g)).cols), .slice A142 ((gateS (m.length : Int) (smallG m g)).cells).length c142]) (l' := [.int .i64 ((gateS (m.length : Int) (smallG m g)).rows), .int .i64 ((gateS (m.length : Int) (smallG m g)).cols), .slice A142 ((gateS (m.length : Int) (smallG m g)).cells).length c142]) hf rfl rfl sz_141 hB141 rfl rfl rfl rfl rfl) (fun _ _ h => ⟨fun h0 => absurd h0 (by decide), h⟩)) ?_; rintro a _ w167 ⟨ho, hb⟩ hf
       have hold := hB141
       replace hB2 := hB2.only ho (Blk.ne hB2 hold rfl)
       replace hB3 := hB3.only ho (Blk.ne hB3 hold rfl)
       replace hB26 := hB26.only ho (Blk.ne hB26 hold rfl)
       replace hB129 := hB129.only ho (by omega)
       replace ho15 := ho15.onlyT ho hold rfl
       replace ho14 := ho14.onlyT ho hold rfl
       replace ho142 := ho142.onlyT ho hold rfl
       replace ho143 := ho143.onlyT ho hold rfl
       replace hEc := Below.only hEc ho hlc141
       replace hW := Below.only hW ho hlo141
       clear hold
       have hB141 := hb
       clear hb ho
       refine s_one 15 (by kernel_rfl) ?_
       refine p_eff0 rfl hf trivial rfl (Ef.mono (ef_store (vs := [.int .i64 ((gateS (m.length : Int) (smallG m h)).rows), .int .i64 ((gateS (m.length : Int) (smallG m h)).cols), .slice A143 ((gateS (m.length : Int) (smallG m h)).cells).length c143]) (l' := [.int .i64 ((gateS (m.length : Int) (smallG m h)).rows), .int .i64 ((gateS (m.length : Int) (smallG m h)).cols), .slice A143 ((gateS (m.length : Int) (smallG m h)).cells).length c143]) hf rfl rfl sz_141 hB129 rfl rfl rfl rfl rfl) (fun _ _ h => ⟨fun h0 => absurd h0 (by decide), h⟩)) ?_; rintro a _ w168 ⟨ho, hb⟩ hf
       have hold := hB129
       replace hB2 := hB2.only ho (Blk.ne hB2 hold rfl)
       replace hB3 := hB3.only ho (Blk.ne hB3 hold rfl)
       replace hB26 := hB26.only ho (Blk.ne hB26 hold rfl)
       replace hB141 := hB141.only ho (by omega)
       replace ho15 := ho15.onlyT ho hold rfl
       replace ho14 := ho14.onlyT ho hold rfl
       replace ho142 := ho142.onlyT ho hold rfl
       replace ho143 := ho143.onlyT ho hold rfl
       replace hEc := Below.only hEc ho hlc129
       replace hW := Below.only hW ho hlo129
       clear hold
       have hB129 := hb
       clear hb ho
       refine s_done (by kernel_rfl) ?_
       have hEE : Below w10.heap.size w10 w168 := hEc
       exact ⟨b141, b129, A142, c142, A143, c143, hf.sub ⟨rfl, (by first | rfl | (simp [look, hc6b, hc18b])), (by first | rfl | (simp [look, hc6b, hc18b])), trivial⟩, hlo141, hB141, hlo129, hB129, ho142, ho143, hEE⟩
     ·refine p_eff rfl hf trivial rfl rfl (Ef.mono (ef_alloc (zs := [.int .i64 0, .int .i64 0, .slice none 0 0]) z_141 rfl) (fun _ _ h => ⟨fun _ => by obtain ⟨_, _, _, hE, _⟩ := h; exact hE, h⟩)) ?_; rintro a _ w169 ⟨b145, rfl, hl145, hE, hB145⟩ hf
      have hne129_145 : b129 ≠ b145 := by have := hB129.lt; omega
      have hlo145 := Nat.le_trans hW.size hl145
      have hlc145 := Nat.le_trans hEc.size hl145
      replace hB2 := hB2.below hE
      replace hB3 := hB3.below hE
      replace hB26 := hB26.below hE
      replace hB129 := hB129.below hE
      replace ho15 := ho15.below hE
      replace ho14 := ho14.below hE
      replace hW := btr hW hE
      replace hEc := btr hEc hE
      clear hE
      refine s_one 4 (by kernel_rfl) ?_
      refine p_eff rfl hf trivial rfl rfl (Ef.mono (ef_call (vs := [.agg #[.int .i64 g.k, .int .i64 g.a, .int .i64 g.b], .slice A15 m.length c15]) hf rfl ff_144 (F144 _ g A15 c15 m ho15.rd.top P.gk P.ga P.inc P.gb hlm)) (fun _ _ h => ⟨fun _ => by obtain ⟨rfl, hE⟩ := h; exact hE, h⟩)) ?_; rintro a _ w170 ⟨rfl, hE⟩ hf
      replace hB2 := hB2.below hE
      replace hB3 := hB3.below hE
      replace hB26 := hB26.below hE
      replace hB129 := hB129.below hE
      replace hB145 := hB145.below hE
      replace ho15 := ho15.below hE
      replace ho14 := ho14.below hE
      replace hW := btr hW hE
      replace hEc := btr hEc hE
      clear hE
      refine s_one 5 (by kernel_rfl) ?_
      refine p_eff rfl hf trivial rfl rfl (Ef.mono (ef_call (vs := [.int .i64 (m.length : Int), .agg #[.int .i64 ((smallG m g).k), .int .i64 ((smallG m g).a), .int .i64 ((smallG m g).b)]]) hf rfl ff_143 (F143 _ (m.length : Int) (smallG m g) P.gs)) (fun _ _ h => ⟨fun _ => by obtain ⟨A146, c146, rfl, ho146, hE⟩ := h; exact hE, h⟩)) ?_; rintro a _ w171 ⟨A146, c146, rfl, ho146, hE⟩ hf
      replace ho146 := ho146.lower hW.size
      replace hB2 := hB2.below hE
      replace hB3 := hB3.below hE
      replace hB26 := hB26.below hE
      replace hB129 := hB129.below hE
      replace hB145 := hB145.below hE
      replace ho15 := ho15.below hE
      replace ho14 := ho14.below hE
      replace hW := btr hW hE
      replace hEc := btr hEc hE
      clear hE
      refine s_one 10 (by kernel_rfl) ?_
      refine p_eff rfl hf trivial rfl rfl (Ef.mono (ef_call (vs := [.agg #[.int .i64 h.k, .int .i64 h.a, .int .i64 h.b], .slice A15 m.length c15]) hf rfl ff_144 (F144 _ h A15 c15 m ho15.rd.top P.hk P.ha P.inc P.hb hlm)) (fun _ _ h => ⟨fun _ => by obtain ⟨rfl, hE⟩ := h; exact hE, h⟩)) ?_; rintro a _ w172 ⟨rfl, hE⟩ hf
      replace hB2 := hB2.below hE
      replace hB3 := hB3.below hE
      replace hB26 := hB26.below hE
      replace hB129 := hB129.below hE
      replace hB145 := hB145.below hE
      replace ho15 := ho15.below hE
      replace ho14 := ho14.below hE
      replace ho146 := ho146.below hE
      replace hW := btr hW hE
      replace hEc := btr hEc hE
      clear hE
      refine s_one 11 (by kernel_rfl) ?_
      refine p_eff rfl hf trivial rfl rfl (Ef.mono (ef_call (vs := [.int .i64 (m.length : Int), .agg #[.int .i64 ((smallG m h).k), .int .i64 ((smallG m h).a), .int .i64 ((smallG m h).b)]]) hf rfl ff_143 (F143 _ (m.length : Int) (smallG m h) P.hs)) (fun _ _ h => ⟨fun _ => by obtain ⟨A147, c147, rfl, ho147, hE⟩ := h; exact hE, h⟩)) ?_; rintro a _ w173 ⟨A147, c147, rfl, ho147, hE⟩ hf
      replace ho147 := ho147.lower hW.size
      replace hB2 := hB2.below hE
      replace hB3 := hB3.below hE
      replace hB26 := hB26.below hE
      replace hB129 := hB129.below hE
      replace hB145 := hB145.below hE
      replace ho15 := ho15.below hE
      replace ho14 := ho14.below hE
      replace ho146 := ho146.below hE
      replace hW := btr hW hE
      replace hEc := btr hEc hE
      clear hE
      refine s_one 14 (by kernel_rfl) ?_
      refine p_eff0 rfl hf trivial rfl (Ef.mono (ef_store (vs := [.int .i64 ((gateS (m.length : Int) (smallG m g)).rows), .int .i64 ((gateS (m.length : Int) (smallG m g)).cols), .slice A146 ((gateS (m.length : Int) (smallG m g)).cells).length c146]) (l' := [.int .i64 ((gateS (m.length : Int) (smallG m g)).rows), .int .i64 ((gateS (m.length : Int) (smallG m g)).cols), .slice A146 ((gateS (m.length : Int) (smallG m g)).cells).length c146]) hf rfl rfl sz_141 hB145 rfl rfl rfl rfl rfl) (fun _ _ h => ⟨fun h0 => absurd h0 (by decide), h⟩)) ?_; rintro a _ w174 ⟨ho, hb⟩ hf
      have hold := hB145
      replace hB2 := hB2.only ho (Blk.ne hB2 hold rfl)
      replace hB3 := hB3.only ho (Blk.ne hB3 hold rfl)
      replace hB26 := hB26.only ho (Blk.ne hB26 hold rfl)
      replace hB129 := hB129.only ho (by omega)
      replace ho15 := ho15.onlyT ho hold rfl
      replace ho14 := ho14.onlyT ho hold rfl
      replace ho146 := ho146.onlyT ho hold rfl
      replace ho147 := ho147.onlyT ho hold rfl
      replace hEc := Below.only hEc ho hlc145
      replace hW := Below.only hW ho hlo145
      clear hold
      have hB145 := hb
      clear hb ho
      refine s_one 15 (by kernel_rfl) ?_
      refine p_eff0 rfl hf trivial rfl (Ef.mono (ef_store (vs := [.int .i64 ((gateS (m.length : Int) (smallG m h)).rows), .int .i64 ((gateS (m.length : Int) (smallG m h)).cols), .slice A147 ((gateS (m.length : Int) (smallG m h)).cells).length c147]) (l' := [.int .i64 ((gateS (m.length : Int) (smallG m h)).rows), .int .i64 ((gateS (m.length : Int) (smallG m h)).cols), .slice A147 ((gateS (m.length : Int) (smallG m h)).cells).length c147]) hf rfl rfl sz_141 hB129 rfl rfl rfl rfl rfl) (fun _ _ h => ⟨fun h0 => absurd h0 (by decide), h⟩)) ?_; rintro a _ w175 ⟨ho, hb⟩ hf
      have hold := hB129
      replace hB2 := hB2.only ho (Blk.ne hB2 hold rfl)
      replace hB3 := hB3.only ho (Blk.ne hB3 hold rfl)
      replace hB26 := hB26.only ho (Blk.ne hB26 hold rfl)
      replace hB145 := hB145.only ho (by omega)
      replace ho15 := ho15.onlyT ho hold rfl
      replace ho14 := ho14.onlyT ho hold rfl
      replace ho146 := ho146.onlyT ho hold rfl
      replace ho147 := ho147.onlyT ho hold rfl
      replace hEc := Below.only hEc ho hlc129
      replace hW := Below.only hW ho hlo129
      clear hold
      have hB129 := hb
      clear hb ho
      refine s_done (by kernel_rfl) ?_
      have hEE : Below w10.heap.size w10 w175 := hEc
      exact ⟨b145, b129, A146, c146, A147, c147, hf.sub ⟨rfl, (by first | rfl | (simp [look, hc6b, hc18b])), (by first | rfl | (simp [look, hc6b, hc18b])), trivial⟩, hlo145, hB145, hlo129, hB129, ho146, ho147, hEE⟩
   rintro a w176 ⟨b31, b33, A28, c28, A29, c29, hf, hlo31, hB31, hlo33, hB33, ho28, ho29, hE⟩
   replace hB2 := hB2.below hE
   replace hB3 := hB3.below hE
   replace hB26 := hB26.below hE
   replace ho15 := ho15.below hE
   replace ho14 := ho14.below hE
   replace hW := btr hW hE
   clear hE
   refine hK27 _ _ ?_; try clear hK27 K27
   refine wp_seq_k ?_; intro K148 hK148
   refine wp_draw (some b26) (fun _ => false) mixed ?_
   intro w177 hE
   replace hB2 := hB2.below hE
   replace hB3 := hB3.below hE
   replace hB26 := hB26.below hE
   replace hB31 := hB31.below hE
   replace hB33 := hB33.below hE
   replace ho15 := ho15.below hE
   replace ho14 := ho14.below hE
   replace ho28 := ho28.below hE
   replace ho29 := ho29.below hE
   replace hW := btr hW hE
   clear hE
   refine s_e0 0 rfl (by kernel_rfl) hf rfl (fun _ => ev_move hf rfl) ?_; intro a hf
   refine s_evV 1 rfl (by kernel_rfl) (by kernel_rfl) hf trivial rfl rfl (fun w1 h1 => ev_loadN (l := [.int .i64 ((gateS (m.length : Int) (smallG m g)).rows), .int .i64 ((gateS (m.length : Int) (smallG m g)).cols), .slice A28 ((gateS (m.length : Int) (smallG m g)).cells).length c28]) hf rfl tN_141 ((hB31.only h1 (Blk.ne hB31 hB26 rfl)).at 0) rfl) ?_; intro a hf
   refine s_evV 2 rfl (by kernel_rfl) (by kernel_rfl) hf trivial rfl rfl (fun w1 h1 => ev_loadN (l := [.int .i64 ((gateS (m.length : Int) (smallG m h)).rows), .int .i64 ((gateS (m.length : Int) (smallG m h)).cols), .slice A29 ((gateS (m.length : Int) (smallG m h)).cells).length c29]) hf rfl tN_141 ((hB33.only h1 (Blk.ne hB33 hB26 rfl)).at 0) rfl) ?_; intro a hf
   refine s_e0 4 rfl (by kernel_rfl) hf rfl (fun _ => ev_move hf rfl) ?_; intro a hf
   refine s_evV 5 rfl (by kernel_rfl) (by kernel_rfl) hf trivial rfl rfl (fun w1 h1 => ev_loadN (l := [.int .i64 ((gateS (m.length : Int) (smallG m h)).rows), .int .i64 ((gateS (m.length : Int) (smallG m h)).cols), .slice A29 ((gateS (m.length : Int) (smallG m h)).cells).length c29]) hf rfl tN_141 ((hB33.only h1 (Blk.ne hB33 hB26 rfl)).at 0) rfl) ?_; intro a hf
   refine s_evV 6 rfl (by kernel_rfl) (by kernel_rfl) hf trivial rfl rfl (fun w1 h1 => ev_loadN (l := [.int .i64 ((gateS (m.length : Int) (smallG m g)).rows), .int .i64 ((gateS (m.length : Int) (smallG m g)).cols), .slice A28 ((gateS (m.length : Int) (smallG m g)).cells).length c28]) hf rfl tN_141 ((hB31.only h1 (Blk.ne hB31 hB26 rfl)).at 0) rfl) ?_; intro a hf
   refine s_one 3 (by kernel_rfl) ?_
   refine p_eff rfl hf trivial rfl rfl (Ef.mono (ef_call (vs := [.pointer (some ⟨b26, 0, none⟩), .agg #[.int .i64 ((gateS (m.length : Int) (smallG m g)).rows), .int .i64 ((gateS (m.length : Int) (smallG m g)).cols), .slice A28 ((gateS (m.length : Int) (smallG m g)).cells).length c28], .agg #[.int .i64 ((gateS (m.length : Int) (smallG m h)).rows), .int .i64 ((gateS (m.length : Int) (smallG m h)).cols), .slice A29 ((gateS (m.length : Int) (smallG m h)).cells).length c29]]) hf rfl ff_146 (F146 _ b26 false hB26 (gateS (m.length : Int) (smallG m g)) A28 c28 ho28.rd.top (gateS (m.length : Int) (smallG m h)) A29 c29 ho29.rd.top hm1 hm2 rfl)) (fun _ _ h => ⟨fun _ => by obtain ⟨A149, c149, rfl, ho149, hK, hbn⟩ := h; exact hK.keep, h⟩)) ?_; rintro a _ w178 ⟨A149, c149, rfl, ho149, hK, hbn⟩ hf
   have hlv := hW.size
   obtain ⟨wm, hO, hm, hE⟩ := hK.mid; clear hm
   have hold := hB26
   replace hB2 := hB2.only hO (Blk.ne hB2 hold rfl)
   replace hB3 := hB3.only hO (Blk.ne hB3 hold rfl)
   replace hB31 := hB31.only hO (Blk.ne hB31 hold rfl)
   replace hB33 := hB33.only hO (Blk.ne hB33 hold rfl)
   replace ho15 := ho15.onlyT hO hold rfl
   replace ho14 := ho14.onlyT hO hold rfl
   replace ho28 := ho28.onlyT hO hold rfl
   replace ho29 := ho29.onlyT hO hold rfl
   replace hW := Below.only hW hO hlo26
   replace hB2 := hB2.below hE
   replace hB3 := hB3.below hE
   replace hB31 := hB31.below hE
   replace hB33 := hB33.below hE
   replace ho15 := ho15.below hE
   replace ho14 := ho14.below hE
   replace ho28 := ho28.below hE
   replace ho29 := ho29.below hE
   replace hW := btr hW hE
   clear hold hE hO hK; replace hB26 := hbn; clear hbn
   replace ho149 := ho149.lower hlv; clear hlv
   refine s_one 7 (by kernel_rfl) ?_
   refine p_eff rfl hf trivial rfl rfl (Ef.mono (ef_call (vs := [.pointer (some ⟨b26, 0, none⟩), .agg #[.int .i64 ((gateS (m.length : Int) (smallG m h)).rows), .int .i64 ((gateS (m.length : Int) (smallG m h)).cols), .slice A29 ((gateS (m.length : Int) (smallG m h)).cells).length c29], .agg #[.int .i64 ((gateS (m.length : Int) (smallG m g)).rows), .int .i64 ((gateS (m.length : Int) (smallG m g)).cols), .slice A28 ((gateS (m.length : Int) (smallG m g)).cells).length c28]]) hf rfl ff_146 (F146 _ b26 ((timesS false (gateS (m.length : Int) (smallG m g)) (gateS (m.length : Int) (smallG m h))).1) hB26 (gateS (m.length : Int) (smallG m h)) A29 c29 ho29.rd.top (gateS (m.length : Int) (smallG m g)) A28 c28 ho28.rd.top hm2 hm1 rfl)) (fun _ _ h => ⟨fun _ => by obtain ⟨A150, c150, rfl, ho150, hK, hbn⟩ := h; exact hK.keep, h⟩)) ?_; rintro a _ w179 ⟨A150, c150, rfl, ho150, hK, hbn⟩ hf
   have hlv := hW.size
   obtain ⟨wm, hO, hm, hE⟩ := hK.mid; clear hm
   have hold := hB26
   replace hB2 := hB2.only hO (Blk.ne hB2 hold rfl)
   replace hB3 := hB3.only hO (Blk.ne hB3 hold rfl)
   replace hB31 := hB31.only hO (Blk.ne hB31 hold rfl)
   replace hB33 := hB33.only hO (Blk.ne hB33 hold rfl)
   replace ho15 := ho15.onlyT hO hold rfl
   replace ho14 := ho14.onlyT hO hold rfl
   replace ho28 := ho28.onlyT hO hold rfl
   replace ho29 := ho29.onlyT hO hold rfl
   replace ho149 := ho149.onlyT hO hold rfl
   replace hW := Below.only hW hO hlo26
   replace hB2 := hB2.below hE
   replace hB3 := hB3.below hE
   replace hB31 := hB31.below hE
   replace hB33 := hB33.below hE
   replace ho15 := ho15.below hE
   replace ho14 := ho14.below hE
   replace ho28 := ho28.below hE
   replace ho29 := ho29.below hE
   replace ho149 := ho149.below hE
   replace hW := btr hW hE
   clear hold hE hO hK; replace hB26 := hbn; clear hbn
   replace ho150 := ho150.lower hlv; clear hlv
   refine s_one 8 (by kernel_rfl) ?_
   refine p_eff rfl hf trivial rfl rfl (Ef.mono (ef_call (vs := [.agg #[.int .i64 (((timesS false (gateS (m.length : Int) (smallG m g)) (gateS (m.length : Int) (smallG m h))).2).rows), .int .i64 (((timesS false (gateS (m.length : Int) (smallG m g)) (gateS (m.length : Int) (smallG m h))).2).cols), .slice A149 (((timesS false (gateS (m.length : Int) (smallG m g)) (gateS (m.length : Int) (smallG m h))).2).cells).length c149], .agg #[.int .i64 (((timesS ((timesS false (gateS (m.length : Int) (smallG m g)) (gateS (m.length : Int) (smallG m h))).1) (gateS (m.length : Int) (smallG m h)) (gateS (m.length : Int) (smallG m g))).2).rows), .int .i64 (((timesS ((timesS false (gateS (m.length : Int) (smallG m g)) (gateS (m.length : Int) (smallG m h))).1) (gateS (m.length : Int) (smallG m h)) (gateS (m.length : Int) (smallG m g))).2).cols), .slice A150 (((timesS ((timesS false (gateS (m.length : Int) (smallG m g)) (gateS (m.length : Int) (smallG m h))).1) (gateS (m.length : Int) (smallG m h)) (gateS (m.length : Int) (smallG m g))).2).cells).length c150]]) hf rfl ff_145 (F145 _ ((timesS false (gateS (m.length : Int) (smallG m g)) (gateS (m.length : Int) (smallG m h))).2) A149 c149 ho149.rd.top ((timesS ((timesS false (gateS (m.length : Int) (smallG m g)) (gateS (m.length : Int) (smallG m h))).1) (gateS (m.length : Int) (smallG m h)) (gateS (m.length : Int) (smallG m g))).2) A150 c150 ho150.rd.top (times_le hm1 hm2 _))) (fun _ _ h => ⟨fun _ => by obtain ⟨rfl, hE⟩ := h; exact Keep.of_below hE, h⟩)) ?_; rintro a _ w180 ⟨rfl, hE⟩ hf
   replace hB2 := hB2.below hE
   replace hB3 := hB3.below hE
   replace hB26 := hB26.below hE
   replace hB31 := hB31.below hE
   replace hB33 := hB33.below hE
   replace ho15 := ho15.below hE
   replace ho14 := ho14.below hE
   replace ho28 := ho28.below hE
   replace ho29 := ho29.below hE
   replace ho149 := ho149.below hE
   replace ho150 := ho150.below hE
   replace hW := btr hW hE
   clear hE
   refine s_e0 9 rfl (by kernel_rfl) hf rfl (fun _ => ev_assign hf rfl) ?_; intro a hf
   refine s_done (by kernel_rfl) ?_
   refine hK148 _ _ ?_; try clear hK148 K148
   refine wp_ret ?_
   refine c_ret hf (res1 hf rfl rfl) ?_
   exact ⟨by rw [commS, if_pos hc, hU]; rfl, hW⟩
end Go.Proofs.YtfgnmflfiobkmaaGreat
set_option maxRecDepth 4000
namespace Go.Proofs.YtfgnmflfiobkmaaGreat
open Go.RowKit
theorem F54 (w0 : World) (c : Cx) (Ac : Option Addr) (cc : Nat) (hr_c : Rd w0 w0.heap.size 107 encG Ac c.gs) (hp_c : c.gs.length ≤ cc) (As : Option Addr) (cs : Nat) (s : List Int) (hr_s : Rd w0 w0.heap.size 3 encI As s) (hc : cOk c = true) : Ret Tryz.prog 54 [.agg #[.int .i64 c.n, .slice Ac c.gs.length cc], .slice As s.length cs] w0 (fun v w => v = .tuple #[.int .i64 ((schedS c.gs s).1), .int .i64 ((schedS c.gs s).2)] ∧ Below w0.heap.size w0 w) := by
 obtain ⟨hcn, hcl, hcg⟩ := cOk_spec hc
 refine enter Tryz.func54 rfl 96 rfl rfl ?_
 intro a hf
 have hW : Below w0.heap.size w0 w0 := Below.refl _ _
 refine wp_seq_k ?_; intro K3 hK3
 refine wp_region_lit ?_
 refine l_f hf rfl (ef_box (zs := [.int .i64 c.n, .slice Ac c.gs.length cc]) hf rfl rfl) ?_; rintro a _ w1 ⟨b4, rfl, hl4, hE, hB4⟩ hf
 have hlo4 := Nat.le_trans hW.size hl4
 replace hr_c := hr_c.below hE
 replace hr_s := hr_s.below hE
 replace hW := btr hW hE
 clear hE
 refine l_as hf rfl rfl ?_; intro a hf
 refine l_as hf rfl rfl ?_; intro a hf
 refine wpList_nil ?_
 refine hK3 _ _ ?_; try clear hK3 K3
 refine wp_seq_k ?_; intro K5 hK5
 refine wp_seq_k ?_; intro K6 hK6
 refine wp_region_lit ?_
 refine l_mv hf rfl rfl ?_; intro a hf
 refine l_e hf rfl (ev_len hf rfl sl_36) ?_; intro a hf
 refine l_e hf rfl (ev_fieldB hf rfl fd_41_1 (m := 1) rfl) ?_; intro a hf
 refine l_e hf rfl (ev_load1 hf rfl t1_28 (hB4.at 1)) ?_; intro a hf
 refine l_e hf rfl (ev_len hf rfl sl_28) ?_; intro a hf
 refine l_e hf rfl (ev_neq hf rfl rfl) ?_; intro a hf
 refine wpList_nil ?_
 refine hK6 _ _ ?_; try clear hK6 K6
 refine c_if hf rfl (fun hc7 => ?_) (fun hc7 => ?_)
 ·have hc7b := hc7
  have hfin : schedS c.gs s = (1, 0) := by rw [schedS, if_neg]; simp at hc7; omega
  refine wp_seq_k ?_; intro K8 hK8
  refine wp_region_lit ?_
  refine l_as hf rfl rfl ?_; intro a hf
  refine l_as hf rfl rfl ?_; intro a hf
  refine wpList_nil ?_
  refine hK8 _ _ ?_; try clear hK8 K8
  refine wp_ret ?_
  refine x_retS ?_
  refine c_ret hf (res2 hf rfl rfl rfl) ?_
  exact ⟨by rw [hfin], hW⟩
 ·have hc7b := hc7
  have hls : s.length = c.gs.length := by simp at hc7; omega
  refine wp_skip ?_
  refine hK5 _ _ ?_; try clear hK5 K5
  refine wp_seq_k ?_; intro K9 hK9
  refine wp_seq_k ?_; intro K10 hK10
  refine wp_region_lit ?_
  refine l_e hf rfl (ev_fieldB hf rfl fd_41_1 (m := 1) rfl) ?_; intro a hf
  refine l_e hf rfl (ev_load1 hf rfl t1_28 (hB4.at 1)) ?_; intro a hf
  refine l_e hf rfl (ev_len hf rfl sl_28) ?_; intro a hf
  refine l_mv hf rfl rfl ?_; intro a hf
  refine wpList_nil ?_
  refine hK10 _ _ ?_; try clear hK10 K10
  refine wp_block ?_
  refine c_loop (σ := Nat) (fun (i : Nat) (a : Act) (w : World) => Fr a 96 [(1, .slice As s.length cs), (2, .pointer (some ⟨b4, 0, none⟩)), (19, .slice Ac c.gs.length cc), (20, .int .i64 (c.gs.length : Int)), (21, .int .i64 (i : Int))] ∧ (i ≤ c.gs.length) ∧ (firstF (faultS c.gs s) (c.gs.length - i) i = schedS c.gs s) ∧ Blk w b4 41 [.int .i64 c.n, .slice Ac c.gs.length cc] ∧ Rd w w0.heap.size 107 encG Ac c.gs ∧ Rd w w0.heap.size 3 encI As s ∧ c.gs.length ≤ cc ∧ Below w0.heap.size w0 w) (fun (i : Nat) => c.gs.length - i) 0 ?_ ?_
  · exact ⟨hf.sub ⟨rfl, rfl, rfl, rfl, rfl, trivial⟩, (Nat.zero_le _), (by rw [schedS, if_pos hls]; rfl), hB4, hr_c, hr_s, hp_c, hW⟩
  rintro i a w2 ⟨hf, hi, hinv, hB4, hr_c, hr_s, hp_c, hW⟩
  refine wp_seq_k ?_; intro K11 hK11
  refine wp_region_lit ?_
  refine l_e hf rfl (ev_lss hf rfl rfl) ?_; intro a hf
  refine wpList_nil ?_
  refine hK11 _ _ ?_; try clear hK11 K11
  refine wp_seq_k ?_; intro K12 hK12
  refine c_if hf rfl (fun hc13 => ?_) (fun hc13 => ?_)
  ·have hc13b := hc13
   have hc13 := of_decide_eq_true hc13
   obtain ⟨u14, hu14⟩ := getElem_ex (l := c.gs) (k := i) (by omega)
   have hin : i < c.gs.length := by omega
   have hgi := getD_of hu14
   have hgu := hcg _ (List.mem_of_getElem? hu14)
   have hti : (c.gs.take i).length = i := by rw [List.length_take]; omega
   refine wp_skip ?_
   refine hK12 _ _ ?_; try clear hK12 K12
   refine wp_seq_k ?_; intro K15 hK15
   refine wp_block ?_
   refine wp_seq_k ?_; intro K16 hK16
   refine wp_region_lit ?_
   refine l_mv hf rfl rfl ?_; intro a hf
   refine l_index (k := i) (u := u14) (enc := encG) (l := c.gs) hf trivial rfl rfl rfl sl_28 sz_107 encG_len hr_c hu14 rfl ?_; intro a p18 hat17 hf
   refine l_e hf rfl (ev_loadN (l := [.int .i64 u14.k, .int .i64 u14.a, .int .i64 u14.b]) hf rfl tN_107 hat17 rfl) ?_; intro a hf
   refine l_f hf rfl (ef_alloc (zs := [.int .i64 0, .int .i64 0, .int .i64 0]) z_107 rfl) ?_; rintro a _ w3 ⟨b19, rfl, hl19, hE, hB19⟩ hf
   have hlo19 := Nat.le_trans hW.size hl19
   have haw1_19 := hr_c.away hl19
   replace hB4 := hB4.below hE
   replace hr_c := hr_c.below hE
   replace hr_s := hr_s.below hE
   replace hW := btr hW hE
   clear hE
   refine l_as hf rfl rfl ?_; intro a hf
   refine l_f0 hf (ef_store (vs := [.int .i64 u14.k, .int .i64 u14.a, .int .i64 u14.b]) (l' := [.int .i64 u14.k, .int .i64 u14.a, .int .i64 u14.b]) hf rfl rfl sz_107 hB19 rfl rfl rfl rfl rfl) ?_; rintro a _ w4 ⟨ho, hb⟩ hf
   have hold := hB19
   replace hB4 := hB4.only ho (Blk.ne hB4 hold rfl)
   replace hr_c := hr_c.only ho hlo19
   replace hr_s := hr_s.onlyT ho hold rfl
   replace hW := Below.only hW ho hlo19
   clear hold
   have hB19 := hb
   clear hb ho
   refine wpList_nil ?_
   refine hK16 _ _ ?_; try clear hK16 K16
   refine wp_seq_k ?_; intro K20 hK20
   refine wp_seq_k ?_; intro K21 hK21
   refine wp_region_lit ?_
   refine l_e hf rfl (ev_fieldB hf rfl fd_107_0 (m := 0) rfl) ?_; intro a hf
   refine l_e hf rfl (ev_load1 hf rfl t1_3 (hB19.at 0)) ?_; intro a hf
   refine l_e hf rfl (ev_eql hf rfl rfl) ?_; intro a hf
   refine wpList_nil ?_
   refine hK21 _ _ ?_; try clear hK21 K21
   refine c_if hf rfl (fun hc22 => ?_) (fun hc22 => ?_)
   ·have hc22b := hc22
    have h12 := hc22
    refine wp_seq_k ?_; intro K23 hK23
    refine wp_seq_k ?_; intro K24 hK24
    refine wp_region_lit ?_
    refine l_mv hf rfl rfl ?_; intro a hf
    refine l_mv hf rfl rfl ?_; intro a hf
    refine l_index (k := i) (u := (s.getD i 0)) (enc := encI) (l := s) hf trivial rfl rfl rfl sl_36 sz_3 encI_len hr_s (getD_get (by omega)) rfl ?_; intro a p26 hat25 hf
    refine l_e hf rfl (ev_load1 hf rfl t1_3 hat25) ?_; intro a hf
    refine l_e hf rfl (ev_neq hf rfl rfl) ?_; intro a hf
    refine wpList_nil ?_
    refine hK24 _ _ ?_; try clear hK24 K24
    refine c_if hf rfl (fun hc27 => ?_) (fun hc27 => ?_)
    ·have hc27b := hc27
     have hfin := first_hit hinv hin (flt_12x hgi h12 hc27) (by decide)
     refine wp_seq_k ?_; intro K28 hK28
     refine wp_region_lit ?_
     refine l_mv hf rfl rfl ?_; intro a hf
     refine l_as hf rfl rfl ?_; intro a hf
     refine l_as hf rfl rfl ?_; intro a hf
     refine wpList_nil ?_
     refine hK28 _ _ ?_; try clear hK28 K28
     refine wp_ret ?_
     refine x_retS ?_
     refine x_retS ?_
     refine x_retB ?_
     refine x_retS ?_
     refine x_retS ?_
     refine x_retB ?_
     refine x_retS ?_
     refine c_ret hf (res2 hf rfl rfl rfl) ?_
     exact ⟨by rw [hfin], hW⟩
    ·have hc27b := hc27
     have hnx := first_next hinv hin (flt_12o hgi h12 hc27)
     refine wp_skip ?_
     refine hK23 _ _ ?_; try clear hK23 K23
     refine wp_exit ?_
     refine x_exS ?_
     refine x_exit ?_
     refine hK15 _ _ ?_; try clear hK15 K15
     refine wp_region_lit ?_
     refine l_e hf rfl (ev_addx hf rfl rfl (by omega) (by omega)) ?_; intro a hf
     refine l_mv hf rfl rfl ?_; intro a hf
     refine wpList_nil ?_
     refine x_thenN ?_
     exact ⟨i + 1, ⟨hf.sub ⟨rfl, rfl, rfl, rfl, rfl, trivial⟩, (by omega), hnx, hB4, hr_c, hr_s, hp_c, hW⟩, (by omega)⟩
   ·have hc22b := hc22
    have h12 := hc22
    refine wp_skip ?_
    refine hK20 _ _ ?_; try clear hK20 K20
    refine wp_seq_k ?_; intro K29 hK29
    refine wp_seq_k ?_; intro K30 hK30
    refine wp_region_lit ?_
    refine l_mv hf rfl rfl ?_; intro a hf
    refine l_mv hf rfl rfl ?_; intro a hf
    refine l_index (k := i) (u := (s.getD i 0)) (enc := encI) (l := s) hf trivial rfl rfl rfl sl_36 sz_3 encI_len hr_s (getD_get (by omega)) rfl ?_; intro a p32 hat31 hf
    refine l_e hf rfl (ev_load1 hf rfl t1_3 hat31) ?_; intro a hf
    refine l_f hf rfl (ef_call (vs := [.int .i64 (s.getD i 0), .int .i64 1, .int .i64 400]) hf rfl ff_85 (F85 _ (s.getD i 0) 1 400)) ?_; rintro a _ _ ⟨rfl, rfl⟩ hf
    refine l_e hf rfl (ev_not hf rfl) ?_; intro a hf
    refine wpList_nil ?_
    refine hK30 _ _ ?_; try clear hK30 K30
    refine c_if hf rfl (fun hc33 => ?_) (fun hc33 => ?_)
    ·have hc33b := hc33
     have hfin := first_hit hinv hin (flt_in hgi h12 hc33) (by decide)
     refine wp_seq_k ?_; intro K34 hK34
     refine wp_region_lit ?_
     refine l_mv hf rfl rfl ?_; intro a hf
     refine l_as hf rfl rfl ?_; intro a hf
     refine l_as hf rfl rfl ?_; intro a hf
     refine wpList_nil ?_
     refine hK34 _ _ ?_; try clear hK34 K34
     refine wp_ret ?_
     refine x_retS ?_
     refine x_retB ?_
     refine x_retS ?_
     refine x_retS ?_
     refine x_retB ?_
     refine x_retS ?_
     refine c_ret hf (res2 hf rfl rfl rfl) ?_
     exact ⟨by rw [hfin], hW⟩
    ·have hc33b := hc33
     have hx := hc33
     refine wp_skip ?_
     refine hK29 _ _ ?_; try clear hK29 K29
     refine wp_seq_k ?_; intro K35 hK35
     refine wp_seq_k ?_; intro K36 hK36
     refine wp_region_lit ?_
     refine l_e hf rfl (ev_fieldB hf rfl fd_41_1 (m := 1) rfl) ?_; intro a hf
     refine l_e hf rfl (ev_load1 hf rfl t1_28 (hB4.at 1)) ?_; intro a hf
     refine l_mv hf rfl rfl ?_; intro a hf
     have hr37 := (hr_c.top).takeK encG_len i
     refine l_e hf rfl (ev_takeL (l := c.gs) (k := i) hf rfl rfl sl_28 sz_107 rfl (by omega) hp_c) ?_; intro a hf
     refine l_e hf rfl (ev_len hf rfl sl_28) ?_; intro a hf
     refine l_mv hf rfl rfl ?_; intro a hf
     refine wpList_nil ?_
     refine hK36 _ _ ?_; try clear hK36 K36
     refine wp_block ?_
     refine c_loop (σ := Nat) (fun (j : Nat) (a : Act) (w : World) => Fr a 96 [(1, .slice As s.length cs), (2, .pointer (some ⟨b4, 0, none⟩)), (6, .int .i64 (i : Int)), (7, .pointer (some ⟨b19, 0, none⟩)), (19, .slice Ac c.gs.length cc), (20, .int .i64 (c.gs.length : Int)), (21, .int .i64 (i : Int)), (45, .slice Ac (c.gs.take i).length cc), (46, .int .i64 ((c.gs.take i).length : Int)), (47, .int .i64 (j : Int))] ∧ (j ≤ i) ∧ ((List.range j).any (pA c.gs s u14 (s.getD i 0)) = false) ∧ Blk w b4 41 [.int .i64 c.n, .slice Ac c.gs.length cc] ∧ Blk w b19 107 [.int .i64 u14.k, .int .i64 u14.a, .int .i64 u14.b] ∧ Rd w w0.heap.size 107 encG Ac c.gs ∧ Rd w w0.heap.size 3 encI As s ∧ Rd w w4.heap.size 107 encG Ac (c.gs.take i) ∧ c.gs.length ≤ cc ∧ Below w0.heap.size w0 w) (fun (j : Nat) => i - j) 0 ?_ ?_
     · exact ⟨hf.sub ⟨rfl, rfl, rfl, rfl, rfl, rfl, rfl, rfl, rfl, rfl, trivial⟩, (Nat.zero_le _), rfl, hB4, hB19, hr_c, hr_s, hr37, hp_c, hW⟩
     rintro j a w5 ⟨hf, hj, hA, hB4, hB19, hr_c, hr_s, hr37, hp_c, hW⟩
     refine wp_seq_k ?_; intro K38 hK38
     refine wp_region_lit ?_
     refine l_e hf rfl (ev_lss hf rfl rfl) ?_; intro a hf
     refine wpList_nil ?_
     refine hK38 _ _ ?_; try clear hK38 K38
     refine wp_seq_k ?_; intro K39 hK39
     refine c_if hf rfl (fun hc40 => ?_) (fun hc40 => ?_)
     ·have hc40b := hc40
      have hc40 := of_decide_eq_true hc40
      obtain ⟨u41, hu41⟩ := getElem_ex (l := (c.gs.take i)) (k := j) (by omega)
      obtain ⟨hgj, hmj⟩ := getD_take hu41
      refine wp_skip ?_
      refine hK39 _ _ ?_; try clear hK39 K39
      refine wp_seq_k ?_; intro K42 hK42
      refine wp_block ?_
      refine wp_seq_k ?_; intro K43 hK43
      refine wp_region_lit ?_
      refine l_mv hf rfl rfl ?_; intro a hf
      refine l_index (k := j) (u := u41) (enc := encG) (l := (c.gs.take i)) hf trivial rfl rfl rfl sl_28 sz_107 encG_len hr37 hu41 rfl ?_; intro a p45 hat44 hf
      refine l_e hf rfl (ev_loadN (l := [.int .i64 u41.k, .int .i64 u41.a, .int .i64 u41.b]) hf rfl tN_107 hat44 rfl) ?_; intro a hf
      refine l_f hf rfl (ef_alloc (zs := [.int .i64 0, .int .i64 0, .int .i64 0]) z_107 rfl) ?_; rintro a _ w6 ⟨b46, rfl, hl46, hE, hB46⟩ hf
      have hne19_46 : b19 ≠ b46 := by have := hB19.lt; omega
      have hlo46 := Nat.le_trans hW.size hl46
      have haw1_46 := hr_c.away hl46
      have haw37_46 := hr37.away hl46
      replace hB4 := hB4.below hE
      replace hB19 := hB19.below hE
      replace hr_c := hr_c.below hE
      replace hr_s := hr_s.below hE
      replace hr37 := hr37.below hE
      replace hW := btr hW hE
      clear hE
      refine l_as hf rfl rfl ?_; intro a hf
      refine l_f0 hf (ef_store (vs := [.int .i64 u41.k, .int .i64 u41.a, .int .i64 u41.b]) (l' := [.int .i64 u41.k, .int .i64 u41.a, .int .i64 u41.b]) hf rfl rfl sz_107 hB46 rfl rfl rfl rfl rfl) ?_; rintro a _ w7 ⟨ho, hb⟩ hf
      have hold := hB46
      replace hB4 := hB4.only ho (Blk.ne hB4 hold rfl)
      replace hB19 := hB19.only ho (by omega)
      replace hr_c := hr_c.only ho hlo46
      replace hr_s := hr_s.onlyT ho hold rfl
      replace hr37 := hr37.onlyA ho haw37_46
      replace hW := Below.only hW ho hlo46
      clear hold
      have hB46 := hb
      clear hb ho
      refine wpList_nil ?_
      refine hK43 _ _ ?_; try clear hK43 K43
      refine wp_seq_k ?_; intro K47 hK47
      refine c_cut (fun a w => Fr a 96 [(1, .slice As s.length cs), (2, .pointer (some ⟨b4, 0, none⟩)), (6, .int .i64 (i : Int)), (7, .pointer (some ⟨b19, 0, none⟩)), (19, .slice Ac c.gs.length cc), (20, .int .i64 (c.gs.length : Int)), (21, .int .i64 (i : Int)), (45, .slice Ac (c.gs.take i).length cc), (46, .int .i64 ((c.gs.take i).length : Int)), (47, .int .i64 (j : Int)), (66, .bool ((decide ((s.getD i 0) ≤ (s.getD j 0))) && (!(commS u14 u41))))] ∧ Below w7.heap.size w7 w) ?_ ?_
      ·have hEc : Below w7.heap.size w7 w7 := Below.refl _ _
       refine wp_draw none (fun _ => false) mixed ?_
       intro w8 hE
       replace hB4 := hB4.below hE
       replace hB19 := hB19.below hE
       replace hB46 := hB46.below hE
       replace hr_c := hr_c.below hE
       replace hr_s := hr_s.below hE
       replace hr37 := hr37.below hE
       replace hW := btr hW hE
       replace hEc := btr hEc hE
       clear hE
       refine s_e0 0 rfl (by kernel_rfl) hf rfl (fun _ => ev_move hf rfl) ?_; intro a hf
       refine s_e0 1 rfl (by kernel_rfl) hf rfl (fun _ => ev_move hf rfl) ?_; intro a hf
       refine s_index (k := j) (u := (s.getD j 0)) (enc := encI) (l := s) 2 rfl (by kernel_rfl) (by kernel_rfl) hf trivial rfl rfl rfl sl_36 sz_3 encI_len hr_s (getD_get (by omega)) rfl ?_; intro a p49 hat48 hf
       refine s_e 3 rfl (by kernel_rfl) (by kernel_rfl) hf rfl (ev_load1 hf rfl t1_3 hat48) ?_; intro a hf
       refine s_e0 4 rfl (by kernel_rfl) hf rfl (fun _ => ev_move hf rfl) ?_; intro a hf
       refine s_e0 5 rfl (by kernel_rfl) hf rfl (fun _ => ev_move hf rfl) ?_; intro a hf
       refine s_index (k := i) (u := (s.getD i 0)) (enc := encI) (l := s) 6 rfl (by kernel_rfl) (by kernel_rfl) hf trivial rfl rfl rfl sl_36 sz_3 encI_len hr_s (getD_get (by omega)) rfl ?_; intro a p51 hat50 hf
       refine s_e 7 rfl (by kernel_rfl) (by kernel_rfl) hf rfl (ev_load1 hf rfl t1_3 hat50) ?_; intro a hf
       refine s_e0 8 rfl (by kernel_rfl) hf rfl (fun _ => ev_geq hf rfl rfl) ?_; intro a hf
       refine s_e0 9 rfl (by kernel_rfl) hf rfl (fun _ => ev_move hf rfl) ?_; intro a hf
       refine g_split hf (t := 61) rfl (fun hg52 => ?_) (fun hg52 => ?_)
       ·refine s_ev 10 rfl (by kernel_rfl) (by kernel_rfl) hf ⟨_, _, rfl, rfl, hg52⟩ rfl rfl (ev_loadN (l := [.int .i64 u14.k, .int .i64 u14.a, .int .i64 u14.b]) hf rfl tN_107 (hB19.at 0) rfl) ?_; intro a hf
        refine s_ev 11 rfl (by kernel_rfl) (by kernel_rfl) hf ⟨_, _, rfl, rfl, hg52⟩ rfl rfl (ev_loadN (l := [.int .i64 u41.k, .int .i64 u41.a, .int .i64 u41.b]) hf rfl tN_107 (hB46.at 0) rfl) ?_; intro a hf
        refine s_one 12 (by kernel_rfl) ?_
        refine p_eff rfl hf ⟨_, _, rfl, rfl, hg52⟩ rfl rfl (Ef.mono (ef_call (vs := [.agg #[.int .i64 u14.k, .int .i64 u14.a, .int .i64 u14.b], .agg #[.int .i64 u41.k, .int .i64 u41.a, .int .i64 u41.b]]) hf rfl ff_102 (F102 _ u14 u41 c.n hgu (hcg _ hmj))) (fun _ _ h => ⟨fun _ => by obtain ⟨rfl, hE⟩ := h; exact hE, h⟩)) ?_; rintro a _ w9 ⟨rfl, hE⟩ hf
        replace hB4 := hB4.below hE
        replace hB19 := hB19.below hE
        replace hB46 := hB46.below hE
        replace hr_c := hr_c.below hE
        replace hr_s := hr_s.below hE
        replace hr37 := hr37.below hE
        replace hW := btr hW hE
        replace hEc := btr hEc hE
        clear hE
        refine s_ev0 13 rfl (by kernel_rfl) hf ⟨_, _, rfl, rfl, hg52⟩ rfl rfl (fun _ => ev_not hf rfl) ?_; intro a hf
        refine s_e0 14 rfl (by kernel_rfl) hf rfl (fun _ => ev_pickT hf rfl hg52 rfl) ?_; intro a hf
        refine s_done (by kernel_rfl) ?_
        have hEE : Below w7.heap.size w7 w9 := hEc
        exact ⟨hf.sub ⟨rfl, rfl, rfl, rfl, rfl, rfl, rfl, rfl, rfl, rfl, look_bool rfl (by first | rfl | (simp only [hc7b, hc13b, hc22b, hc33b, hc40b, hg52, Bool.true_and, Bool.false_and, Bool.true_or, Bool.false_or]; done) | simp [hc7b, hc13b, hc22b, hc33b, hc40b, hg52]), trivial⟩, hEE⟩
       ·refine s_pass 10 rfl (by kernel_rfl) hf ⟨_, _, rfl, rfl, hg52⟩ rfl rfl ?_; intro a hf
        refine s_pass 11 rfl (by kernel_rfl) hf ⟨_, _, rfl, rfl, hg52⟩ rfl rfl ?_; intro a hf
        refine s_one 12 (by kernel_rfl) ?_
        refine p_pass rfl hf ⟨_, _, rfl, rfl, hg52⟩ rfl rfl ?_; intro a hf
        refine s_pass 13 rfl (by kernel_rfl) hf ⟨_, _, rfl, rfl, hg52⟩ rfl rfl ?_; intro a hf
        refine s_e0 14 rfl (by kernel_rfl) hf rfl (fun _ => ev_pickF hf rfl hg52 rfl) ?_; intro a hf
        refine s_done (by kernel_rfl) ?_
        have hEE : Below w7.heap.size w7 w8 := hEc
        exact ⟨hf.sub ⟨rfl, rfl, rfl, rfl, rfl, rfl, rfl, rfl, rfl, rfl, look_bool rfl (by first | rfl | (simp only [hc7b, hc13b, hc22b, hc33b, hc40b, hg52, Bool.true_and, Bool.false_and, Bool.true_or, Bool.false_or]; done) | simp [hc7b, hc13b, hc22b, hc33b, hc40b, hg52]), trivial⟩, hEE⟩
      rintro a w10 ⟨hf, hE⟩
      replace hB4 := hB4.below hE
      replace hB19 := hB19.below hE
      replace hB46 := hB46.below hE
      replace hr_c := hr_c.below hE
      replace hr_s := hr_s.below hE
      replace hr37 := hr37.below hE
      replace hW := btr hW hE
      clear hE
      refine hK47 _ _ ?_; try clear hK47 K47
      refine c_if hf rfl (fun hc53 => ?_) (fun hc53 => ?_)
      ·have hc53b := hc53
       have hp := hc53
       rw [← hgj] at hp
       have hfin := first_hit hinv hin (flt_2 hgi h12 hx (range_hit (j := j) (by omega) hp)) (by decide)
       refine wp_seq_k ?_; intro K54 hK54
       refine wp_region_lit ?_
       refine l_mv hf rfl rfl ?_; intro a hf
       refine l_as hf rfl rfl ?_; intro a hf
       refine l_as hf rfl rfl ?_; intro a hf
       refine wpList_nil ?_
       refine hK54 _ _ ?_; try clear hK54 K54
       refine wp_ret ?_
       refine x_retB ?_
       refine x_retS ?_
       refine x_retS ?_
       refine x_retB ?_
       refine x_retS ?_
       refine x_retB ?_
       refine x_retS ?_
       refine x_retS ?_
       refine x_retB ?_
       refine x_retS ?_
       refine c_ret hf (res2 hf rfl rfl rfl) ?_
       exact ⟨by rw [hfin], hW⟩
      ·have hc53b := hc53
       have hp := hc53
       rw [← hgj] at hp
       have hnA := range_next hA hp
       refine wp_skip ?_
       refine x_norm ?_
       refine hK42 _ _ ?_; try clear hK42 K42
       refine wp_region_lit ?_
       refine l_e hf rfl (ev_addx hf rfl rfl (by omega) (by omega)) ?_; intro a hf
       refine l_mv hf rfl rfl ?_; intro a hf
       refine wpList_nil ?_
       refine x_thenN ?_
       exact ⟨j + 1, ⟨hf.sub ⟨rfl, rfl, rfl, rfl, rfl, rfl, rfl, rfl, rfl, rfl, trivial⟩, (by omega), hnA, hB4, hB19, hr_c, hr_s, hr37, hp_c, hW⟩, (by omega)⟩
     ·have hc40b := hc40
      have hc40 := of_decide_eq_false hc40
      have hA2 := hA
      rw [show j = i from by omega] at hA2
      refine wp_exit ?_
      refine x_exS ?_
      refine x_exS ?_
      refine x_exit ?_
      refine hK35 _ _ ?_; try clear hK35 K35
      refine wp_seq_k ?_; intro K55 hK55
      refine wp_region_lit ?_
      refine l_e hf rfl (ev_fieldB hf rfl fd_41_1 (m := 1) rfl) ?_; intro a hf
      refine l_e hf rfl (ev_load1 hf rfl t1_28 (hB4.at 1)) ?_; intro a hf
      refine l_mv hf rfl rfl ?_; intro a hf
      have hr56 := (hr_c.top).takeK encG_len i
      refine l_e hf rfl (ev_takeL (l := c.gs) (k := i) hf rfl rfl sl_28 sz_107 rfl (by omega) hp_c) ?_; intro a hf
      refine l_e hf rfl (ev_len hf rfl sl_28) ?_; intro a hf
      refine l_mv hf rfl rfl ?_; intro a hf
      refine wpList_nil ?_
      refine hK55 _ _ ?_; try clear hK55 K55
      refine wp_block ?_
      refine c_loop (σ := Nat) (fun (q : Nat) (a : Act) (w : World) => Fr a 96 [(1, .slice As s.length cs), (2, .pointer (some ⟨b4, 0, none⟩)), (6, .int .i64 (i : Int)), (7, .pointer (some ⟨b19, 0, none⟩)), (19, .slice Ac c.gs.length cc), (20, .int .i64 (c.gs.length : Int)), (21, .int .i64 (i : Int)), (72, .slice Ac (c.gs.take i).length cc), (73, .int .i64 ((c.gs.take i).length : Int)), (74, .int .i64 (q : Int))] ∧ (q ≤ i) ∧ ((List.range q).any (pB c.gs s u14 (s.getD i 0)) = false) ∧ Blk w b4 41 [.int .i64 c.n, .slice Ac c.gs.length cc] ∧ Blk w b19 107 [.int .i64 u14.k, .int .i64 u14.a, .int .i64 u14.b] ∧ Rd w w0.heap.size 107 encG Ac c.gs ∧ Rd w w0.heap.size 3 encI As s ∧ Rd w w4.heap.size 107 encG Ac (c.gs.take i) ∧ Rd w w5.heap.size 107 encG Ac (c.gs.take i) ∧ c.gs.length ≤ cc ∧ Below w0.heap.size w0 w) (fun (q : Nat) => i - q) 0 ?_ ?_
      · exact ⟨hf.sub ⟨rfl, rfl, rfl, rfl, rfl, rfl, rfl, rfl, rfl, rfl, trivial⟩, (Nat.zero_le _), rfl, hB4, hB19, hr_c, hr_s, hr37, hr56, hp_c, hW⟩
      rintro q a w11 ⟨hf, hq, hB, hB4, hB19, hr_c, hr_s, hr37, hr56, hp_c, hW⟩
      refine wp_seq_k ?_; intro K57 hK57
      refine wp_region_lit ?_
      refine l_e hf rfl (ev_lss hf rfl rfl) ?_; intro a hf
      refine wpList_nil ?_
      refine hK57 _ _ ?_; try clear hK57 K57
      refine wp_seq_k ?_; intro K58 hK58
      refine c_if hf rfl (fun hc59 => ?_) (fun hc59 => ?_)
      ·have hc59b := hc59
       have hc59 := of_decide_eq_true hc59
       obtain ⟨u60, hu60⟩ := getElem_ex (l := (c.gs.take i)) (k := q) (by omega)
       obtain ⟨hgq, hmq⟩ := getD_take hu60
       refine wp_skip ?_
       refine hK58 _ _ ?_; try clear hK58 K58
       refine wp_seq_k ?_; intro K61 hK61
       refine wp_block ?_
       refine wp_seq_k ?_; intro K62 hK62
       refine wp_region_lit ?_
       refine l_mv hf rfl rfl ?_; intro a hf
       refine l_index (k := q) (u := u60) (enc := encG) (l := (c.gs.take i)) hf trivial rfl rfl rfl sl_28 sz_107 encG_len hr56 hu60 rfl ?_; intro a p64 hat63 hf
       refine l_e hf rfl (ev_loadN (l := [.int .i64 u60.k, .int .i64 u60.a, .int .i64 u60.b]) hf rfl tN_107 hat63 rfl) ?_; intro a hf
       refine l_f hf rfl (ef_alloc (zs := [.int .i64 0, .int .i64 0, .int .i64 0]) z_107 rfl) ?_; rintro a _ w12 ⟨b65, rfl, hl65, hE, hB65⟩ hf
       have hne19_65 : b19 ≠ b65 := by have := hB19.lt; omega
       have hlo65 := Nat.le_trans hW.size hl65
       have haw1_65 := hr_c.away hl65
       have haw37_65 := hr37.away hl65
       have haw56_65 := hr56.away hl65
       replace hB4 := hB4.below hE
       replace hB19 := hB19.below hE
       replace hr_c := hr_c.below hE
       replace hr_s := hr_s.below hE
       replace hr37 := hr37.below hE
       replace hr56 := hr56.below hE
       replace hW := btr hW hE
       clear hE
       refine l_as hf rfl rfl ?_; intro a hf
       refine l_f0 hf (ef_store (vs := [.int .i64 u60.k, .int .i64 u60.a, .int .i64 u60.b]) (l' := [.int .i64 u60.k, .int .i64 u60.a, .int .i64 u60.b]) hf rfl rfl sz_107 hB65 rfl rfl rfl rfl rfl) ?_; rintro a _ w13 ⟨ho, hb⟩ hf
       have hold := hB65
       replace hB4 := hB4.only ho (Blk.ne hB4 hold rfl)
       replace hB19 := hB19.only ho (by omega)
       replace hr_c := hr_c.only ho hlo65
       replace hr_s := hr_s.onlyT ho hold rfl
       replace hr37 := hr37.onlyA ho haw37_65
       replace hr56 := hr56.onlyA ho haw56_65
       replace hW := Below.only hW ho hlo65
       clear hold
       have hB65 := hb
       clear hb ho
       refine wpList_nil ?_
       refine hK62 _ _ ?_; try clear hK62 K62
       refine wp_seq_k ?_; intro K66 hK66
       refine c_cut (fun a w => Fr a 96 [(1, .slice As s.length cs), (2, .pointer (some ⟨b4, 0, none⟩)), (6, .int .i64 (i : Int)), (7, .pointer (some ⟨b19, 0, none⟩)), (19, .slice Ac c.gs.length cc), (20, .int .i64 (c.gs.length : Int)), (21, .int .i64 (i : Int)), (72, .slice Ac (c.gs.take i).length cc), (73, .int .i64 ((c.gs.take i).length : Int)), (74, .int .i64 (q : Int)), (92, .bool (((s.getD q 0) == (s.getD i 0)) && (comS u14 u60)))] ∧ Below w13.heap.size w13 w) ?_ ?_
       ·have hEc : Below w13.heap.size w13 w13 := Below.refl _ _
        refine wp_draw none (fun _ => false) mixed ?_
        intro w14 hE
        replace hB4 := hB4.below hE
        replace hB19 := hB19.below hE
        replace hB65 := hB65.below hE
        replace hr_c := hr_c.below hE
        replace hr_s := hr_s.below hE
        replace hr37 := hr37.below hE
        replace hr56 := hr56.below hE
        replace hW := btr hW hE
        replace hEc := btr hEc hE
        clear hE
        refine s_e0 0 rfl (by kernel_rfl) hf rfl (fun _ => ev_move hf rfl) ?_; intro a hf
        refine s_e0 1 rfl (by kernel_rfl) hf rfl (fun _ => ev_move hf rfl) ?_; intro a hf
        refine s_index (k := q) (u := (s.getD q 0)) (enc := encI) (l := s) 2 rfl (by kernel_rfl) (by kernel_rfl) hf trivial rfl rfl rfl sl_36 sz_3 encI_len hr_s (getD_get (by omega)) rfl ?_; intro a p68 hat67 hf
        refine s_e 3 rfl (by kernel_rfl) (by kernel_rfl) hf rfl (ev_load1 hf rfl t1_3 hat67) ?_; intro a hf
        refine s_e0 4 rfl (by kernel_rfl) hf rfl (fun _ => ev_move hf rfl) ?_; intro a hf
        refine s_e0 5 rfl (by kernel_rfl) hf rfl (fun _ => ev_move hf rfl) ?_; intro a hf
        refine s_index (k := i) (u := (s.getD i 0)) (enc := encI) (l := s) 6 rfl (by kernel_rfl) (by kernel_rfl) hf trivial rfl rfl rfl sl_36 sz_3 encI_len hr_s (getD_get (by omega)) rfl ?_; intro a p70 hat69 hf
        refine s_e 7 rfl (by kernel_rfl) (by kernel_rfl) hf rfl (ev_load1 hf rfl t1_3 hat69) ?_; intro a hf
        refine s_e0 8 rfl (by kernel_rfl) hf rfl (fun _ => ev_eql hf rfl rfl) ?_; intro a hf
        refine s_e0 9 rfl (by kernel_rfl) hf rfl (fun _ => ev_move hf rfl) ?_; intro a hf
        refine g_split hf (t := 88) rfl (fun hg71 => ?_) (fun hg71 => ?_)
        ·refine s_ev 10 rfl (by kernel_rfl) (by kernel_rfl) hf ⟨_, _, rfl, rfl, hg71⟩ rfl rfl (ev_loadN (l := [.int .i64 u14.k, .int .i64 u14.a, .int .i64 u14.b]) hf rfl tN_107 (hB19.at 0) rfl) ?_; intro a hf
         refine s_ev 11 rfl (by kernel_rfl) (by kernel_rfl) hf ⟨_, _, rfl, rfl, hg71⟩ rfl rfl (ev_loadN (l := [.int .i64 u60.k, .int .i64 u60.a, .int .i64 u60.b]) hf rfl tN_107 (hB65.at 0) rfl) ?_; intro a hf
         refine s_one 12 (by kernel_rfl) ?_
         refine p_eff rfl hf ⟨_, _, rfl, rfl, hg71⟩ rfl rfl (Ef.mono (ef_call (vs := [.agg #[.int .i64 u14.k, .int .i64 u14.a, .int .i64 u14.b], .agg #[.int .i64 u60.k, .int .i64 u60.a, .int .i64 u60.b]]) hf rfl ff_103 (F103 _ u14 u60)) (fun _ _ h => ⟨fun _ => by obtain ⟨rfl, hE⟩ := h; exact hE, h⟩)) ?_; rintro a _ w15 ⟨rfl, hE⟩ hf
         replace hB4 := hB4.below hE
         replace hB19 := hB19.below hE
         replace hB65 := hB65.below hE
         replace hr_c := hr_c.below hE
         replace hr_s := hr_s.below hE
         replace hr37 := hr37.below hE
         replace hr56 := hr56.below hE
         replace hW := btr hW hE
         replace hEc := btr hEc hE
         clear hE
         refine s_e0 13 rfl (by kernel_rfl) hf rfl (fun _ => ev_pickT hf rfl hg71 rfl) ?_; intro a hf
         refine s_done (by kernel_rfl) ?_
         have hEE : Below w13.heap.size w13 w15 := hEc
         exact ⟨hf.sub ⟨rfl, rfl, rfl, rfl, rfl, rfl, rfl, rfl, rfl, rfl, look_bool rfl (by first | rfl | (simp only [hc7b, hc13b, hc22b, hc33b, hc40b, hc59b, hg71, Bool.true_and, Bool.false_and, Bool.true_or, Bool.false_or]; done) | simp [hc7b, hc13b, hc22b, hc33b, hc40b, hc59b, hg71]), trivial⟩, hEE⟩
        ·refine s_pass 10 rfl (by kernel_rfl) hf ⟨_, _, rfl, rfl, hg71⟩ rfl rfl ?_; intro a hf
         refine s_pass 11 rfl (by kernel_rfl) hf ⟨_, _, rfl, rfl, hg71⟩ rfl rfl ?_; intro a hf
         refine s_one 12 (by kernel_rfl) ?_
         refine p_pass rfl hf ⟨_, _, rfl, rfl, hg71⟩ rfl rfl ?_; intro a hf
         refine s_e0 13 rfl (by kernel_rfl) hf rfl (fun _ => ev_pickF hf rfl hg71 rfl) ?_; intro a hf
         refine s_done (by kernel_rfl) ?_
         have hEE : Below w13.heap.size w13 w14 := hEc
         exact ⟨hf.sub ⟨rfl, rfl, rfl, rfl, rfl, rfl, rfl, rfl, rfl, rfl, look_bool rfl (by first | rfl | (simp only [hc7b, hc13b, hc22b, hc33b, hc40b, hc59b, hg71, Bool.true_and, Bool.false_and, Bool.true_or, Bool.false_or]; done) | simp [hc7b, hc13b, hc22b, hc33b, hc40b, hc59b, hg71]), trivial⟩, hEE⟩
       rintro a w16 ⟨hf, hE⟩
       replace hB4 := hB4.below hE
       replace hB19 := hB19.below hE
       replace hB65 := hB65.below hE
       replace hr_c := hr_c.below hE
       replace hr_s := hr_s.below hE
       replace hr37 := hr37.below hE
       replace hr56 := hr56.below hE
       replace hW := btr hW hE
       clear hE
       refine hK66 _ _ ?_; try clear hK66 K66
       refine c_if hf rfl (fun hc72 => ?_) (fun hc72 => ?_)
       ·have hc72b := hc72
        have hp := hc72
        rw [← hgq] at hp
        have hfin := first_hit hinv hin (flt_3 hgi h12 hx hA2 (range_hit (j := q) (by omega) hp)) (by decide)
        refine wp_seq_k ?_; intro K73 hK73
        refine wp_region_lit ?_
        refine l_mv hf rfl rfl ?_; intro a hf
        refine l_as hf rfl rfl ?_; intro a hf
        refine l_as hf rfl rfl ?_; intro a hf
        refine wpList_nil ?_
        refine hK73 _ _ ?_; try clear hK73 K73
        refine wp_ret ?_
        refine x_retB ?_
        refine x_retS ?_
        refine x_retS ?_
        refine x_retB ?_
        refine x_retB ?_
        refine x_retS ?_
        refine x_retS ?_
        refine x_retB ?_
        refine x_retS ?_
        refine c_ret hf (res2 hf rfl rfl rfl) ?_
        exact ⟨by rw [hfin], hW⟩
       ·have hc72b := hc72
        have hp := hc72
        rw [← hgq] at hp
        have hnB := range_next hB hp
        refine wp_skip ?_
        refine x_norm ?_
        refine hK61 _ _ ?_; try clear hK61 K61
        refine wp_region_lit ?_
        refine l_e hf rfl (ev_addx hf rfl rfl (by omega) (by omega)) ?_; intro a hf
        refine l_mv hf rfl rfl ?_; intro a hf
        refine wpList_nil ?_
        refine x_thenN ?_
        exact ⟨q + 1, ⟨hf.sub ⟨rfl, rfl, rfl, rfl, rfl, rfl, rfl, rfl, rfl, rfl, trivial⟩, (by omega), hnB, hB4, hB19, hr_c, hr_s, hr37, hr56, hp_c, hW⟩, (by omega)⟩
      ·have hc59b := hc59
       have hc59 := of_decide_eq_false hc59
       rw [show q = i from by omega] at hB
       have hnx := first_next hinv hin (flt_0 hgi h12 hx hA2 hB)
       refine wp_exit ?_
       refine x_exS ?_
       refine x_exS ?_
       refine x_exit ?_
       refine x_norm ?_
       refine hK15 _ _ ?_; try clear hK15 K15
       refine wp_region_lit ?_
       refine l_e hf rfl (ev_addx hf rfl rfl (by omega) (by omega)) ?_; intro a hf
       refine l_mv hf rfl rfl ?_; intro a hf
       refine wpList_nil ?_
       refine x_thenN ?_
       exact ⟨i + 1, ⟨hf.sub ⟨rfl, rfl, rfl, rfl, rfl, trivial⟩, (by omega), hnx, hB4, hr_c, hr_s, hp_c, hW⟩, (by omega)⟩
  ·have hc13b := hc13
   have hc13 := of_decide_eq_false hc13
   have hfin := first_end hinv (by omega)
   refine wp_exit ?_
   refine x_exS ?_
   refine x_exS ?_
   refine x_exit ?_
   refine hK9 _ _ ?_; try clear hK9 K9
   refine wp_seq_k ?_; intro K74 hK74
   refine wp_region_lit ?_
   refine l_as hf rfl rfl ?_; intro a hf
   refine l_as hf rfl rfl ?_; intro a hf
   refine wpList_nil ?_
   refine hK74 _ _ ?_; try clear hK74 K74
   refine wp_ret ?_
   refine c_ret hf (res2 hf rfl rfl rfl) ?_
   exact ⟨by rw [hfin], hW⟩
theorem F15 (w0 : World) (c : Cx) (Ac : Option Addr) (cc : Nat) (hr_c : Rd w0 w0.heap.size 107 encG Ac c.gs) (hp_c : c.gs.length ≤ cc) (As : Option Addr) (cs : Nat) (s : List Int) (hr_s : Rd w0 w0.heap.size 3 encI As s) (hln : c.gs.length ≤ 2305843009213693951) : Ret Tryz.prog 15 [.agg #[.int .i64 c.n, .slice Ac c.gs.length cc], .slice As s.length cs] w0 (fun v w => v = .tuple #[.int .i64 ((specC c s).1), .int .i64 ((specC c s).2.1), .bool ((specC c s).2.2)] ∧ Below w0.heap.size w0 w) := by
 refine enter Tryz.func15 rfl 20 rfl rfl ?_
 intro a hf
 have hW : Below w0.heap.size w0 w0 := Below.refl _ _
 refine wp_seq_k ?_; intro K3 hK3
 refine wp_region_lit ?_
 refine l_f hf rfl (ef_box (zs := [.int .i64 c.n, .slice Ac c.gs.length cc]) hf rfl rfl) ?_; rintro a _ w1 ⟨b4, rfl, hl4, hE, hB4⟩ hf
 have hlo4 := Nat.le_trans hW.size hl4
 replace hr_c := hr_c.below hE
 replace hr_s := hr_s.below hE
 replace hW := btr hW hE
 clear hE
 refine l_as hf rfl rfl ?_; intro a hf
 refine l_as hf rfl rfl ?_; intro a hf
 refine l_as hf rfl rfl ?_; intro a hf
 refine wpList_nil ?_
 refine hK3 _ _ ?_; try clear hK3 K3
 refine wp_seq_k ?_; intro K5 hK5
 refine wp_seq_k ?_; intro K6 hK6
 refine wp_region_lit ?_
 refine l_e hf rfl (ev_loadN (l := [.int .i64 c.n, .slice Ac c.gs.length cc]) hf rfl tN_41 (hB4.at 0) rfl) ?_; intro a hf
 refine l_f hf rfl (ef_call (vs := [.agg #[.int .i64 c.n, .slice Ac c.gs.length cc]]) hf rfl ff_53 (F53 _ c Ac cc hr_c.top)) ?_; rintro a _ w2 ⟨rfl, hE⟩ hf
 replace hB4 := hB4.below hE
 replace hr_c := hr_c.below hE
 replace hr_s := hr_s.below hE
 replace hW := btr hW hE
 clear hE
 refine l_e hf rfl (ev_not hf rfl) ?_; intro a hf
 refine wpList_nil ?_
 refine hK6 _ _ ?_; try clear hK6 K6
 refine c_if hf rfl (fun hc7 => ?_) (fun hc7 => ?_)
 ·have hc7b := hc7
  have hfin : specC c s = (0, 0, false) := by rw [specC, if_neg]; revert hc7; cases cOk c <;> simp
  refine wp_seq_k ?_; intro K8 hK8
  refine wp_region_lit ?_
  refine l_as hf rfl rfl ?_; intro a hf
  refine l_as hf rfl rfl ?_; intro a hf
  refine l_as hf rfl rfl ?_; intro a hf
  refine wpList_nil ?_
  refine hK8 _ _ ?_; try clear hK8 K8
  refine wp_ret ?_
  refine x_retS ?_
  refine c_ret hf (res3 hf rfl rfl rfl rfl) ?_
  exact ⟨by rw [hfin], hW⟩
 ·have hc7b := hc7
  have hc : cOk c = true := by revert hc7; cases cOk c <;> simp
  have hfin : specC c s = ((schedS c.gs s).1, (schedS c.gs s).2, true) := by rw [specC, if_pos hc]
  refine wp_skip ?_
  refine hK5 _ _ ?_; try clear hK5 K5
  refine wp_seq_k ?_; intro K9 hK9
  refine wp_region_lit ?_
  refine l_e hf rfl (ev_loadN (l := [.int .i64 c.n, .slice Ac c.gs.length cc]) hf rfl tN_41 (hB4.at 0) rfl) ?_; intro a hf
  refine l_mv hf rfl rfl ?_; intro a hf
  refine l_f hf rfl (ef_call (vs := [.agg #[.int .i64 c.n, .slice Ac c.gs.length cc], .slice As s.length cs]) hf rfl ff_54 (F54 _ c Ac cc hr_c.top hp_c As cs s hr_s.top hc)) ?_; rintro a _ w3 ⟨rfl, hE⟩ hf
  replace hB4 := hB4.below hE
  replace hr_c := hr_c.below hE
  replace hr_s := hr_s.below hE
  replace hW := btr hW hE
  clear hE
  refine l_mv hf rfl rfl ?_; intro a hf
  refine l_e hf rfl (ev_extract (vs := [.int .i64 ((schedS c.gs s).1), .int .i64 ((schedS c.gs s).2)]) hf rfl rfl) ?_; intro a hf
  refine l_e hf rfl (ev_extract (vs := [.int .i64 ((schedS c.gs s).1), .int .i64 ((schedS c.gs s).2)]) hf rfl rfl) ?_; intro a hf
  refine l_as hf rfl rfl ?_; intro a hf
  refine l_as hf rfl rfl ?_; intro a hf
  refine wpList_nil ?_
  refine hK9 _ _ ?_; try clear hK9 K9
  refine wp_seq_k ?_; intro K10 hK10
  refine wp_region_lit ?_
  refine l_mv hf rfl rfl ?_; intro a hf
  refine l_mv hf rfl rfl ?_; intro a hf
  refine l_as hf rfl rfl ?_; intro a hf
  refine l_as hf rfl rfl ?_; intro a hf
  refine l_as hf rfl rfl ?_; intro a hf
  refine wpList_nil ?_
  refine hK10 _ _ ?_; try clear hK10 K10
  refine wp_ret ?_
  refine c_ret hf (res3 hf rfl rfl rfl rfl) ?_
  exact ⟨by rw [hfin], hW⟩
end Go.Proofs.YtfgnmflfiobkmaaGreat
set_option maxHeartbeats 1000000
set_option maxRecDepth 4000
namespace Go.Proofs.YtfgnmflfiobkmaaGreat
open Go.RowKit
theorem F51e (w0 : World) (Al : Option Addr) (cl : Nat) (l : List Gt) (hr_l : Rd w0 w0.heap.size 107 encG Al l) (Ato : Option Addr) (cto : Nat) (to : List Int) (hr_to : Rd w0 w0.heap.size 3 encI Ato to) (hq : ∀ g ∈ l, (g.k ≠ 12 → 0 ≤ g.a ∧ g.a < 5) ∧ (inR g.k 9 11 = true → 0 ≤ g.b ∧ g.b < 5)) (hto : to.length = 5) (hln : l.length ≤ 1000000) : Ret Tryz.prog 51 [.slice Al l.length cl, .slice Ato 5 cto] w0 (fun v w => ∃ A c, v = .slice A (mapI l to).length c ∧ Own w w0.heap.size 107 3 encG A c (mapI l to) ∧ Below w0.heap.size w0 w) := by
 have h := F51 w0 Al cl l hr_l Ato cto to hr_to hq hto hln
 rw [hto] at h
 exact h
theorem F149 (w0 : World) (g : Gt) (h : Gt) (n : Int) (hg : gOk n g = true) (hh : gOk n h = true) : Ret Tryz.prog 149 [.agg #[.int .i64 g.k, .int .i64 g.a, .int .i64 g.b], .agg #[.int .i64 h.k, .int .i64 h.a, .int .i64 h.b]] w0 (fun v w => v = .bool (commI g h) ∧ Below w0.heap.size w0 w) := by
 have hql := qubI_len g
 have hqh := qubI_len h
 refine enter Tryz.func149 rfl 64 rfl rfl ?_
 intro a hf
 have hW : Below w0.heap.size w0 w0 := Below.refl _ _
 refine wp_seq_k ?_; intro K1 hK1
 refine wp_region_lit ?_
 refine l_f hf rfl (ef_box (zs := [.int .i64 g.k, .int .i64 g.a, .int .i64 g.b]) hf rfl rfl) ?_; rintro a _ w1 ⟨b2, rfl, hl2, hE, hB2⟩ hf
 have hlo2 := Nat.le_trans hW.size hl2
 replace hW := btr hW hE
 clear hE
 refine l_f hf rfl (ef_box (zs := [.int .i64 h.k, .int .i64 h.a, .int .i64 h.b]) hf rfl rfl) ?_; rintro a _ w2 ⟨b3, rfl, hl3, hE, hB3⟩ hf
 have hne2_3 : b2 ≠ b3 := by have := hB2.lt; omega
 have hlo3 := Nat.le_trans hW.size hl3
 replace hB2 := hB2.below hE
 replace hW := btr hW hE
 clear hE
 refine l_as hf rfl rfl ?_; intro a hf
 refine wpList_nil ?_
 refine hK1 _ _ ?_; try clear hK1 K1
 refine wp_seq_k ?_; intro K4 hK4
 refine wp_seq_k ?_; intro K5 hK5
 refine wp_region_lit ?_
 refine l_e hf rfl (ev_loadN (l := [.int .i64 g.k, .int .i64 g.a, .int .i64 g.b]) hf rfl tN_107 (hB2.at 0) rfl) ?_; intro a hf
 refine l_e hf rfl (ev_loadN (l := [.int .i64 h.k, .int .i64 h.a, .int .i64 h.b]) hf rfl tN_107 (hB3.at 0) rfl) ?_; intro a hf
 refine l_f hf rfl (ef_call (vs := [.agg #[.int .i64 g.k, .int .i64 g.a, .int .i64 g.b], .agg #[.int .i64 h.k, .int .i64 h.a, .int .i64 h.b]]) hf rfl ff_108 (F108 _ g h)) ?_; rintro a _ w3 ⟨rfl, hE⟩ hf
 replace hB2 := hB2.below hE
 replace hB3 := hB3.below hE
 replace hW := btr hW hE
 clear hE
 refine l_e hf rfl (ev_not hf rfl) ?_; intro a hf
 refine wpList_nil ?_
 refine hK5 _ _ ?_; try clear hK5 K5
 refine c_if hf rfl (fun hc6 => ?_) (fun hc6 => ?_)
 ·have hc6b := hc6
  have hfin : commI g h = true := by rw [commI, if_neg]; revert hc6; cases comI g h <;> simp
  refine wp_seq_k ?_; intro K7 hK7
  refine wp_region_lit ?_
  refine l_as hf rfl rfl ?_; intro a hf
  refine wpList_nil ?_
  refine hK7 _ _ ?_; try clear hK7 K7
  refine wp_ret ?_
  refine x_retS ?_
  refine c_ret hf (res1 hf rfl rfl) ?_
  exact ⟨by rw [hfin], hW⟩
 ·have hc6b := hc6
  have hc : comI g h = true := by revert hc6; cases comI g h <;> simp
  have P : PairOk (unionI (qubI g) (qubI h)) g h := pair_ok hg hh (com_iff.1 hc) (union_inc _ _) (fun x => union_mem _ _ x)
  have hlu := P.len
  refine wp_skip ?_
  refine hK4 _ _ ?_; try clear hK4 K4
  refine wp_seq_k ?_; intro K8 hK8
  refine wp_region_lit ?_
  refine l_f hf rfl (ef_makeSlice (m := 5) (enc := encI) (z0 := 0) hf rfl rfl sl_36 inf_3 z_3 rfl encI_len (by decide) (by decide)) ?_; rintro a _ w4 ⟨b9, rfl, hl9, hE, hB9⟩ hf
  have hlo9 := Nat.le_trans hW.size hl9
  replace hB2 := hB2.below hE
  replace hB3 := hB3.below hE
  replace hW := btr hW hE
  clear hE
  refine l_as hf rfl rfl ?_; intro a hf
  refine l_as hf rfl rfl ?_; intro a hf
  refine wpList_nil ?_
  refine hK8 _ _ ?_; try clear hK8 K8
  refine wp_seq_k ?_; intro K11 hK11
  refine wp_seq_k ?_; intro K12 hK12
  refine wp_draw none (fun _ => false) mixed ?_
  intro w5 hE
  replace hB2 := hB2.below hE
  replace hB3 := hB3.below hE
  replace hB9 := hB9.below hE
  replace hW := btr hW hE
  clear hE
  refine s_e 0 rfl (by kernel_rfl) (by kernel_rfl) hf rfl (ev_loadN (l := [.int .i64 g.k, .int .i64 g.a, .int .i64 g.b]) hf rfl tN_107 (hB2.at 0) rfl) ?_; intro a hf
  refine s_e 2 rfl (by kernel_rfl) (by kernel_rfl) hf rfl (ev_loadN (l := [.int .i64 h.k, .int .i64 h.a, .int .i64 h.b]) hf rfl tN_107 (hB3.at 0) rfl) ?_; intro a hf
  refine s_e0 6 rfl (by kernel_rfl) hf rfl (fun _ => ev_move hf rfl) ?_; intro a hf
  refine s_one 1 (by kernel_rfl) ?_
  refine p_eff rfl hf trivial rfl rfl (Ef.mono (ef_call (vs := [.agg #[.int .i64 g.k, .int .i64 g.a, .int .i64 g.b]]) hf rfl ff_96 (F96 _ g)) (fun _ _ h => ⟨fun _ => by obtain ⟨A13, c13, rfl, ho13, hE⟩ := h; exact hE, h⟩)) ?_; rintro a _ w6 ⟨A13, c13, rfl, ho13, hE⟩ hf
  have haw13_9 := ho13.awayNew hB9.lt
  replace ho13 := ho13.lower hW.size
  replace hB2 := hB2.below hE
  replace hB3 := hB3.below hE
  replace hB9 := hB9.below hE
  replace hW := btr hW hE
  clear hE
  refine s_one 3 (by kernel_rfl) ?_
  refine p_eff rfl hf trivial rfl rfl (Ef.mono (ef_call (vs := [.agg #[.int .i64 h.k, .int .i64 h.a, .int .i64 h.b]]) hf rfl ff_96 (F96 _ h)) (fun _ _ h => ⟨fun _ => by obtain ⟨A14, c14, rfl, ho14, hE⟩ := h; exact hE, h⟩)) ?_; rintro a _ w7 ⟨A14, c14, rfl, ho14, hE⟩ hf
  have haw14_9 := ho14.awayNew hB9.lt
  replace ho14 := ho14.lower hW.size
  replace hB2 := hB2.below hE
  replace hB3 := hB3.below hE
  replace hB9 := hB9.below hE
  replace ho13 := ho13.below hE
  replace hW := btr hW hE
  clear hE
  refine s_one 4 (by kernel_rfl) ?_
  refine p_eff rfl hf trivial rfl rfl (Ef.mono (ef_call (vs := [.slice A13 (qubI g).length c13, .slice A14 (qubI h).length c14]) hf rfl ff_47 (F47 _ A13 c13 (qubI g) ho13.rd.top A14 c14 (qubI h) ho14.rd.top (by omega) (by omega))) (fun _ _ h => ⟨fun _ => by obtain ⟨A15, c15, rfl, ho15, hE⟩ := h; exact hE, h⟩)) ?_; rintro a _ w8 ⟨A15, c15, rfl, ho15, hE⟩ hf
  have haw15_9 := ho15.awayNew hB9.lt
  replace ho15 := ho15.lower hW.size
  replace hB2 := hB2.below hE
  replace hB3 := hB3.below hE
  replace hB9 := hB9.below hE
  replace ho13 := ho13.below hE
  replace ho14 := ho14.below hE
  replace hW := btr hW hE
  clear hE
  refine s_e0 5 rfl (by kernel_rfl) hf rfl (fun _ => ev_len hf rfl sl_36) ?_; intro a hf
  refine s_done (by kernel_rfl) ?_
  refine hK12 _ _ ?_; try clear hK12 K12
  refine wp_block ?_
  refine c_loop (σ := Nat × (List Int)) (fun (s : Nat × (List Int)) (a : Act) (w : World) => match s with | (k, to) => Fr a 64 [(2, .pointer (some ⟨b2, 0, none⟩)), (3, .pointer (some ⟨b3, 0, none⟩)), (5, .slice (some ⟨b9, 0, none⟩) 5 5), (6, .int .i64 (k : Int)), (23, .slice A15 (unionI (qubI g) (qubI h)).length c15), (24, .int .i64 ((unionI (qubI g) (qubI h)).length : Int)), (25, .int .i64 (k : Int))] ∧ (k ≤ (unionI (qubI g) (qubI h)).length) ∧ (to = numbI ((unionI (qubI g) (qubI h)).take k)) ∧ Blk w b2 107 [.int .i64 g.k, .int .i64 g.a, .int .i64 g.b] ∧ Blk w b3 107 [.int .i64 h.k, .int .i64 h.a, .int .i64 h.b] ∧ Blk w b9 3 (to.flatMap encI) ∧ Own w w0.heap.size 3 1 encI A13 c13 (qubI g) ∧ Own w w0.heap.size 3 1 encI A14 c14 (qubI h) ∧ Own w w0.heap.size 3 1 encI A15 c15 (unionI (qubI g) (qubI h)) ∧ Below w0.heap.size w0 w) (fun (s : Nat × (List Int)) => match s with | (k, to) => (unionI (qubI g) (qubI h)).length - k) (0, [0, 0, 0, 0, 0]) ?_ ?_
  · exact ⟨hf.sub ⟨rfl, rfl, rfl, rfl, rfl, rfl, rfl, trivial⟩, (Nat.zero_le _), rfl, hB2, hB3, hB9, ho13, ho14, ho15, hW⟩
  rintro ⟨k, to⟩ a w9 ⟨hf, hk, hto, hB2, hB3, hB9, ho13, ho14, ho15, hW⟩
  have hlt : to.length = 5 := by rw [hto, numb_len]
  refine wp_seq_k ?_; intro K16 hK16
  refine wp_region_lit ?_
  refine l_e hf rfl (ev_lss hf rfl rfl) ?_; intro a hf
  refine wpList_nil ?_
  refine hK16 _ _ ?_; try clear hK16 K16
  refine wp_seq_k ?_; intro K17 hK17
  refine c_if hf rfl (fun hc18 => ?_) (fun hc18 => ?_)
  ·have hc18b := hc18
   have hc18 := of_decide_eq_true hc18
   obtain ⟨u19, hu19⟩ := getElem_ex (l := (unionI (qubI g) (qubI h))) (k := k) (by omega)
   have hb := P.low u19 (List.mem_of_getElem? hu19)
   refine wp_skip ?_
   refine hK17 _ _ ?_; try clear hK17 K17
   refine wp_seq_k ?_; intro K20 hK20
   refine wp_block ?_
   refine wp_seq_k ?_; intro K21 hK21
   refine wp_region_lit ?_
   refine l_index (k := k) (u := u19) (enc := encI) (l := (unionI (qubI g) (qubI h))) hf trivial rfl rfl rfl sl_36 sz_3 encI_len ho15.rd hu19 rfl ?_; intro a p23 hat22 hf
   refine l_e hf rfl (ev_load1 hf rfl t1_3 hat22) ?_; intro a hf
   refine l_as hf rfl rfl ?_; intro a hf
   refine wpList_nil ?_
   refine hK21 _ _ ?_; try clear hK21 K21
   refine wp_seq_k ?_; intro K24 hK24
   refine wp_region_lit ?_
   refine l_mv hf rfl rfl ?_; intro a hf
   refine l_mv hf rfl rfl ?_; intro a hf
   refine l_mv hf rfl rfl ?_; intro a hf
   refine l_e hf rfl (ev_indexB (k := u19.toNat) (off := u19.toNat * 1) hf rfl rfl sl_36 sz_3 (by omega) (by omega) rfl) ?_; intro a hf
   refine l_f0 hf (ef_storeF (enc := encI) (l := to) (u := (k : Int)) (k := u19.toNat) hf rfl rfl sz_3 hB9 encI_len encI_one rfl (by omega)) ?_; rintro a _ w10 ⟨ho, hb⟩ hf
   have hold := hB9
   replace hB2 := hB2.only ho (Blk.ne hB2 hold rfl)
   replace hB3 := hB3.only ho (Blk.ne hB3 hold rfl)
   replace ho13 := ho13.onlyA ho haw13_9
   replace ho14 := ho14.onlyA ho haw14_9
   replace ho15 := ho15.onlyA ho haw15_9
   replace hW := Below.only hW ho hlo9
   clear hold
   have hB9 := hb
   clear hb ho
   refine wpList_nil ?_
   refine hK24 _ _ ?_; try clear hK24 K24
   refine wp_region_lit ?_
   refine l_mv hf rfl rfl ?_; intro a hf
   refine l_e hf rfl (ev_addx hf rfl rfl (by omega) (by omega)) ?_; intro a hf
   refine l_as hf rfl rfl ?_; intro a hf
   refine wpList_nil ?_
   refine x_norm ?_
   refine hK20 _ _ ?_; try clear hK20 K20
   refine wp_region_lit ?_
   refine l_e hf rfl (ev_addx hf rfl rfl (by omega) (by omega)) ?_; intro a hf
   refine l_mv hf rfl rfl ?_; intro a hf
   refine wpList_nil ?_
   refine x_thenN ?_
   exact ⟨(k + 1, (to.set (u19.toNat) (k : Int))), ⟨hf.sub ⟨rfl, rfl, rfl, rfl, rfl, rfl, rfl, trivial⟩, (by omega), (by rw [numb_step hu19, hto]), hB2, hB3, hB9, ho13, ho14, ho15, hW⟩, (by first | omega | (dsimp only; omega))⟩
  ·have hc18b := hc18
   have hc18 := of_decide_eq_false hc18
   have hfin : commI g h = eqM ((opI ⟨(k : Int), mapI [g, h] to⟩).getD mZ) ((opI ⟨(k : Int), [mapG to h, mapG to g]⟩).getD mZ) := by rw [commI, if_pos hc, hto, List.take_of_length_le (by omega), show k = (unionI (qubI g) (qubI h)).length from by omega]
   refine wp_exit ?_
   refine x_exS ?_
   refine x_exS ?_
   refine x_exit ?_
   refine hK11 _ _ ?_; try clear hK11 K11
   refine wp_seq_k ?_; intro K25 hK25
   refine wp_region_lit ?_
   refine l_e hf rfl (ev_loadN (l := [.int .i64 g.k, .int .i64 g.a, .int .i64 g.b]) hf rfl tN_107 (hB2.at 0) rfl) ?_; intro a hf
   refine l_e hf rfl (ev_loadN (l := [.int .i64 h.k, .int .i64 h.a, .int .i64 h.b]) hf rfl tN_107 (hB3.at 0) rfl) ?_; intro a hf
   refine l_f hf rfl (ef_buildSlice (k := 2) (vs := [.agg #[.int .i64 g.k, .int .i64 g.a, .int .i64 g.b], .agg #[.int .i64 h.k, .int .i64 h.a, .int .i64 h.b]]) (zs := [.int .i64 g.k, .int .i64 g.a, .int .i64 g.b, .int .i64 h.k, .int .i64 h.a, .int .i64 h.b]) hf rfl sl_28 inf_107 rfl rfl) ?_; rintro a _ w11 ⟨b26, rfl, hl26, hE, hB26⟩ hf
   have hne2_26 : b2 ≠ b26 := by have := hB2.lt; omega
   have hne3_26 : b3 ≠ b26 := by have := hB3.lt; omega
   have hlo26 := Nat.le_trans hW.size hl26
   replace hB2 := hB2.below hE
   replace hB3 := hB3.below hE
   replace hB9 := hB9.below hE
   replace ho13 := ho13.below hE
   replace ho14 := ho14.below hE
   replace ho15 := ho15.below hE
   replace hW := btr hW hE
   clear hE
   refine l_mv hf rfl rfl ?_; intro a hf
   refine l_f hf rfl (ef_call (vs := [.slice (some ⟨b26, 0, none⟩) ([g, h]).length 2, .slice (some ⟨b9, 0, none⟩) 5 5]) hf rfl ff_51 (F51e _ (some ⟨b26, 0, none⟩) 2 ([g, h]) (Rd.of_blk hB26 rfl _ hB26.lt) (some ⟨b9, 0, none⟩) 5 to (Rd.of_blk hB9 rfl _ hB9.lt) (vr_qubits (n := n) (l := [g, h]) (fun x hx => by rcases List.mem_cons.1 hx with rfl | hx; exact hg; rw [List.mem_singleton.1 hx]; exact hh)) hlt (by simp))) ?_; rintro a _ w12 ⟨A28, c28, rfl, ho28, hE⟩ hf
   have haw28_2 := ho28.awayNew hB2.lt
   have haw28_3 := ho28.awayNew hB3.lt
   have haw28_26 := ho28.awayNew hB26.lt
   replace ho28 := ho28.lower hW.size
   replace hB2 := hB2.below hE
   replace hB3 := hB3.below hE
   replace hB9 := hB9.below hE
   replace hB26 := hB26.below hE
   replace ho13 := ho13.below hE
   replace ho14 := ho14.below hE
   replace ho15 := ho15.below hE
   replace hW := btr hW hE
   clear hE
   refine l_as hf rfl rfl ?_; intro a hf
   refine wpList_nil ?_
   refine hK25 _ _ ?_; try clear hK25 K25
   refine wp_seq_k ?_; intro K29 hK29
   refine wp_region_lit ?_
   refine l_mv hf rfl rfl ?_; intro a hf
   refine l_mv hf rfl rfl ?_; intro a hf
   refine l_e hf rfl (ev_build (ps := [(0, .int .i64 (k : Int)), (1, .slice A28 (mapI ([g, h]) to).length c28)]) (cs := [.int .i64 (k : Int), .slice A28 (mapI ([g, h]) to).length c28]) hf rfl (fun _ => by first | rfl | kernel_rfl)) ?_; intro a hf
   refine l_f hf rfl (ef_call (vs := [.agg #[.int .i64 (k : Int), .slice A28 (mapI ([g, h]) to).length c28]]) hf rfl ff_97 (F97 _ (⟨(k : Int), (mapI ([g, h]) to)⟩ : Cx) A28 c28 ho28.rd.top (by simp [mapI]))) ?_; rintro a _ w13 ⟨A31, c31, rfl, hr31, hE⟩ hf
   replace hB2 := hB2.below hE
   replace hB3 := hB3.below hE
   replace hB9 := hB9.below hE
   replace hB26 := hB26.below hE
   replace ho13 := ho13.below hE
   replace ho14 := ho14.below hE
   replace ho15 := ho15.below hE
   replace ho28 := ho28.below hE
   replace hW := btr hW hE
   clear hE
   refine l_mv hf rfl rfl ?_; intro a hf
   refine l_e hf rfl (ev_extract (vs := [.agg #[.int .i64 (((opI (⟨(k : Int), (mapI ([g, h]) to)⟩ : Cx)).getD mZ).rows), .int .i64 (((opI (⟨(k : Int), (mapI ([g, h]) to)⟩ : Cx)).getD mZ).cols), .slice A31 (((opI (⟨(k : Int), (mapI ([g, h]) to)⟩ : Cx)).getD mZ).cells).length c31], .bool ((opI (⟨(k : Int), (mapI ([g, h]) to)⟩ : Cx)).isSome)]) hf rfl rfl) ?_; intro a hf
   refine l_e hf rfl (ev_extract (vs := [.agg #[.int .i64 (((opI (⟨(k : Int), (mapI ([g, h]) to)⟩ : Cx)).getD mZ).rows), .int .i64 (((opI (⟨(k : Int), (mapI ([g, h]) to)⟩ : Cx)).getD mZ).cols), .slice A31 (((opI (⟨(k : Int), (mapI ([g, h]) to)⟩ : Cx)).getD mZ).cells).length c31], .bool ((opI (⟨(k : Int), (mapI ([g, h]) to)⟩ : Cx)).isSome)]) hf rfl rfl) ?_; intro a hf
   refine l_f hf rfl (ef_alloc (zs := [.int .i64 0, .int .i64 0, .slice none 0 0]) z_141 rfl) ?_; rintro a _ w14 ⟨b33, rfl, hl33, hE, hB33⟩ hf
   have hlo33 := Nat.le_trans hW.size hl33
   replace hB2 := hB2.below hE
   replace hB3 := hB3.below hE
   replace hB9 := hB9.below hE
   replace hB26 := hB26.below hE
   replace ho13 := ho13.below hE
   replace ho14 := ho14.below hE
   replace ho15 := ho15.below hE
   replace ho28 := ho28.below hE
   replace hr31 := hr31.below hE
   replace hW := btr hW hE
   clear hE
   refine l_f0 hf (ef_store (vs := [.int .i64 (((opI (⟨(k : Int), (mapI ([g, h]) to)⟩ : Cx)).getD mZ).rows), .int .i64 (((opI (⟨(k : Int), (mapI ([g, h]) to)⟩ : Cx)).getD mZ).cols), .slice A31 (((opI (⟨(k : Int), (mapI ([g, h]) to)⟩ : Cx)).getD mZ).cells).length c31]) (l' := [.int .i64 (((opI (⟨(k : Int), (mapI ([g, h]) to)⟩ : Cx)).getD mZ).rows), .int .i64 (((opI (⟨(k : Int), (mapI ([g, h]) to)⟩ : Cx)).getD mZ).cols), .slice A31 (((opI (⟨(k : Int), (mapI ([g, h]) to)⟩ : Cx)).getD mZ).cells).length c31]) hf rfl rfl sz_141 hB33 rfl rfl rfl rfl rfl) ?_; rintro a _ w15 ⟨ho, hb⟩ hf
   have hold := hB33
   replace hB2 := hB2.only ho (Blk.ne hB2 hold rfl)
   replace hB3 := hB3.only ho (Blk.ne hB3 hold rfl)
   replace hB9 := hB9.only ho (Blk.ne hB9 hold rfl)
   replace hB26 := hB26.only ho (Blk.ne hB26 hold rfl)
   replace ho13 := ho13.onlyT ho hold rfl
   replace ho14 := ho14.onlyT ho hold rfl
   replace ho15 := ho15.onlyT ho hold rfl
   replace ho28 := ho28.onlyT ho hold rfl
   replace hr31 := hr31.onlyT ho hold rfl
   replace hW := Below.only hW ho hlo33
   clear hold
   have hB33 := hb
   clear hb ho
   refine l_as hf rfl rfl ?_; intro a hf
   refine wpList_nil ?_
   refine hK29 _ _ ?_; try clear hK29 K29
   refine wp_seq_k ?_; intro K34 hK34
   refine c_cut (fun a w => ∃ b44 A42 c42, Fr a 64 [(10, .pointer (some ⟨b33, 0, none⟩)), (12, .pointer (some ⟨b44, 0, none⟩))] ∧ w0.heap.size ≤ b44 ∧ Blk w b44 141 [.int .i64 (((opI (⟨(k : Int), [(mapG to h), (mapG to g)]⟩ : Cx)).getD mZ).rows), .int .i64 (((opI (⟨(k : Int), [(mapG to h), (mapG to g)]⟩ : Cx)).getD mZ).cols), .slice A42 (((opI (⟨(k : Int), [(mapG to h), (mapG to g)]⟩ : Cx)).getD mZ).cells).length c42] ∧ b33 ≠ b44 ∧ Rd w w.heap.size 189 encD A42 (((opI (⟨(k : Int), [(mapG to h), (mapG to g)]⟩ : Cx)).getD mZ).cells) ∧ Below w15.heap.size w15 w) ?_ ?_
   ·have hEc : Below w15.heap.size w15 w15 := Below.refl _ _
    refine wp_draw none (fun j => [14].contains j) mixed ?_
    intro w16 hE
    replace hB2 := hB2.below hE
    replace hB3 := hB3.below hE
    replace hB9 := hB9.below hE
    replace hB26 := hB26.below hE
    replace hB33 := hB33.below hE
    replace ho13 := ho13.below hE
    replace ho14 := ho14.below hE
    replace ho15 := ho15.below hE
    replace ho28 := ho28.below hE
    replace hr31 := hr31.below hE
    replace hW := btr hW hE
    replace hEc := btr hEc hE
    clear hE
    refine s_e0 0 rfl (by kernel_rfl) hf rfl (fun _ => ev_move hf rfl) ?_; intro a hf
    refine s_e0 1 rfl (by kernel_rfl) hf rfl (fun _ => ev_move hf rfl) ?_; intro a hf
    refine s_index (k := 1) (u := (mapG to h)) (enc := encG) (l := (mapI ([g, h]) to)) 2 rfl (by kernel_rfl) (by kernel_rfl) hf trivial rfl rfl rfl sl_28 sz_107 encG_len ho28.rd rfl rfl ?_; intro a p36 hat35 hf
    refine s_e 3 rfl (by kernel_rfl) (by kernel_rfl) hf rfl (ev_loadN (l := [.int .i64 ((mapG to h).k), .int .i64 ((mapG to h).a), .int .i64 ((mapG to h).b)]) hf rfl tN_107 hat35 rfl) ?_; intro a hf
    refine s_e0 4 rfl (by kernel_rfl) hf rfl (fun _ => ev_move hf rfl) ?_; intro a hf
    refine s_index (k := 0) (u := (mapG to g)) (enc := encG) (l := (mapI ([g, h]) to)) 5 rfl (by kernel_rfl) (by kernel_rfl) hf trivial rfl rfl rfl sl_28 sz_107 encG_len ho28.rd rfl rfl ?_; intro a p38 hat37 hf
    refine s_e 6 rfl (by kernel_rfl) (by kernel_rfl) hf rfl (ev_loadN (l := [.int .i64 ((mapG to g).k), .int .i64 ((mapG to g).a), .int .i64 ((mapG to g).b)]) hf rfl tN_107 hat37 rfl) ?_; intro a hf
    refine s_two 7 13 (by kernel_rfl) ?_ ?_
    ·refine p_eff rfl hf trivial rfl rfl (Ef.mono (ef_buildSlice (k := 2) (vs := [.agg #[.int .i64 ((mapG to h).k), .int .i64 ((mapG to h).a), .int .i64 ((mapG to h).b)], .agg #[.int .i64 ((mapG to g).k), .int .i64 ((mapG to g).a), .int .i64 ((mapG to g).b)]]) (zs := [.int .i64 ((mapG to h).k), .int .i64 ((mapG to h).a), .int .i64 ((mapG to h).b), .int .i64 ((mapG to g).k), .int .i64 ((mapG to g).a), .int .i64 ((mapG to g).b)]) hf rfl sl_28 inf_107 rfl rfl) (fun _ _ h => ⟨fun _ => by obtain ⟨_, _, _, hE, _⟩ := h; exact hE, h⟩)) ?_; rintro a _ w17 ⟨b39, rfl, hl39, hE, hB39⟩ hf
     have hne2_39 : b2 ≠ b39 := by have := hB2.lt; omega
     have hne3_39 : b3 ≠ b39 := by have := hB3.lt; omega
     have hne26_39 : b26 ≠ b39 := by have := hB26.lt; omega
     have hlo39 := Nat.le_trans hW.size hl39
     have hlc39 := Nat.le_trans hEc.size hl39
     have haw28_39 := ho28.away hl39
     replace hB2 := hB2.below hE
     replace hB3 := hB3.below hE
     replace hB9 := hB9.below hE
     replace hB26 := hB26.below hE
     replace hB33 := hB33.below hE
     replace ho13 := ho13.below hE
     replace ho14 := ho14.below hE
     replace ho15 := ho15.below hE
     replace ho28 := ho28.below hE
     replace hr31 := hr31.below hE
     replace hW := btr hW hE
     replace hEc := btr hEc hE
     clear hE
     refine s_e0 8 rfl (by kernel_rfl) hf rfl (fun _ => ev_build (ps := [(0, .int .i64 (k : Int)), (1, .slice (some ⟨b39, 0, none⟩) ([(mapG to h), (mapG to g)]).length 2)]) (cs := [.int .i64 (k : Int), .slice (some ⟨b39, 0, none⟩) ([(mapG to h), (mapG to g)]).length 2]) hf rfl (fun _ => by first | rfl | kernel_rfl)) ?_; intro a hf
     refine s_two 9 13 (by kernel_rfl) ?_ ?_
     ·refine p_eff rfl hf trivial rfl rfl (Ef.mono (ef_call (vs := [.agg #[.int .i64 (k : Int), .slice (some ⟨b39, 0, none⟩) ([(mapG to h), (mapG to g)]).length 2]]) hf rfl ff_97 (F97 _ (⟨(k : Int), [(mapG to h), (mapG to g)]⟩ : Cx) (some ⟨b39, 0, none⟩) 2 (Rd.of_blk hB39 rfl _ hB39.lt) (by simp))) (fun _ _ h => ⟨fun _ => by obtain ⟨A42, c42, rfl, hr42, hE⟩ := h; exact hE, h⟩)) ?_; rintro a _ w18 ⟨A42, c42, rfl, hr42, hE⟩ hf
      replace hB2 := hB2.below hE
      replace hB3 := hB3.below hE
      replace hB9 := hB9.below hE
      replace hB26 := hB26.below hE
      replace hB33 := hB33.below hE
      replace hB39 := hB39.below hE
      replace ho13 := ho13.below hE
      replace ho14 := ho14.below hE
      replace ho15 := ho15.below hE
      replace ho28 := ho28.below hE
      replace hr31 := hr31.below hE
      replace hW := btr hW hE
      replace hEc := btr hEc hE
      clear hE
      refine s_e0 10 rfl (by kernel_rfl) hf rfl (fun _ => ev_move hf rfl) ?_; intro a hf
      refine s_e0 11 rfl (by kernel_rfl) hf rfl (fun _ => ev_extract (vs := [.agg #[.int .i64 (((opI (⟨(k : Int), [(mapG to h), (mapG to g)]⟩ : Cx)).getD mZ).rows), .int .i64 (((opI (⟨(k : Int), [(mapG to h), (mapG to g)]⟩ : Cx)).getD mZ).cols), .slice A42 (((opI (⟨(k : Int), [(mapG to h), (mapG to g)]⟩ : Cx)).getD mZ).cells).length c42], .bool ((opI (⟨(k : Int), [(mapG to h), (mapG to g)]⟩ : Cx)).isSome)]) hf rfl rfl) ?_; intro a hf
      refine s_e0 12 rfl (by kernel_rfl) hf rfl (fun _ => ev_extract (vs := [.agg #[.int .i64 (((opI (⟨(k : Int), [(mapG to h), (mapG to g)]⟩ : Cx)).getD mZ).rows), .int .i64 (((opI (⟨(k : Int), [(mapG to h), (mapG to g)]⟩ : Cx)).getD mZ).cols), .slice A42 (((opI (⟨(k : Int), [(mapG to h), (mapG to g)]⟩ : Cx)).getD mZ).cells).length c42], .bool ((opI (⟨(k : Int), [(mapG to h), (mapG to g)]⟩ : Cx)).isSome)]) hf rfl rfl) ?_; intro a hf
      refine s_one 13 (by kernel_rfl) ?_
      refine p_eff rfl hf trivial rfl rfl (Ef.mono (ef_alloc (zs := [.int .i64 0, .int .i64 0, .slice none 0 0]) z_141 rfl) (fun _ _ h => ⟨fun _ => by obtain ⟨_, _, _, hE, _⟩ := h; exact hE, h⟩)) ?_; rintro a _ w19 ⟨b44, rfl, hl44, hE, hB44⟩ hf
      have hne33_44 : b33 ≠ b44 := by have := hB33.lt; omega
      have hlo44 := Nat.le_trans hW.size hl44
      have hlc44 := Nat.le_trans hEc.size hl44
      replace hB2 := hB2.below hE
      replace hB3 := hB3.below hE
      replace hB9 := hB9.below hE
      replace hB26 := hB26.below hE
      replace hB33 := hB33.below hE
      replace hB39 := hB39.below hE
      replace ho13 := ho13.below hE
      replace ho14 := ho14.below hE
      replace ho15 := ho15.below hE
      replace ho28 := ho28.below hE
      replace hr31 := hr31.below hE
      replace hr42 := hr42.below hE
      replace hW := btr hW hE
      replace hEc := btr hEc hE
      clear hE
      refine s_one 14 (by kernel_rfl) ?_
      refine p_eff0 rfl hf trivial rfl (Ef.mono (ef_store (vs := [.int .i64 (((opI (⟨(k : Int), [(mapG to h), (mapG to g)]⟩ : Cx)).getD mZ).rows), .int .i64 (((opI (⟨(k : Int), [(mapG to h), (mapG to g)]⟩ : Cx)).getD mZ).cols), .slice A42 (((opI (⟨(k : Int), [(mapG to h), (mapG to g)]⟩ : Cx)).getD mZ).cells).length c42]) (l' := [.int .i64 (((opI (⟨(k : Int), [(mapG to h), (mapG to g)]⟩ : Cx)).getD mZ).rows), .int .i64 (((opI (⟨(k : Int), [(mapG to h), (mapG to g)]⟩ : Cx)).getD mZ).cols), .slice A42 (((opI (⟨(k : Int), [(mapG to h), (mapG to g)]⟩ : Cx)).getD mZ).cells).length c42]) hf rfl rfl sz_141 hB44 rfl rfl rfl rfl rfl) (fun _ _ h => ⟨fun h0 => absurd h0 (by decide), h⟩)) ?_; rintro a _ w20 ⟨ho, hb⟩ hf
      have hold := hB44
      replace hB2 := hB2.only ho (Blk.ne hB2 hold rfl)
      replace hB3 := hB3.only ho (Blk.ne hB3 hold rfl)
      replace hB9 := hB9.only ho (Blk.ne hB9 hold rfl)
      replace hB26 := hB26.only ho (Blk.ne hB26 hold rfl)
      replace hB33 := hB33.only ho (by omega)
      replace hB39 := hB39.only ho (Blk.ne hB39 hold rfl)
      replace ho13 := ho13.onlyT ho hold rfl
      replace ho14 := ho14.onlyT ho hold rfl
      replace ho15 := ho15.onlyT ho hold rfl
      replace ho28 := ho28.onlyT ho hold rfl
      replace hr31 := hr31.onlyT ho hold rfl
      replace hr42 := hr42.onlyT ho hold rfl
      replace hEc := Below.only hEc ho hlc44
      replace hW := Below.only hW ho hlo44
      clear hold
      have hB44 := hb
      clear hb ho
      refine s_e0 15 rfl (by kernel_rfl) hf rfl (fun _ => ev_assign hf rfl) ?_; intro a hf
      refine s_done (by kernel_rfl) ?_
      have hEE : Below w15.heap.size w15 w20 := hEc
      exact ⟨b44, A42, c42, hf.sub ⟨rfl, rfl, trivial⟩, hlo44, hB44, hne33_44, hr42.top, hEE⟩
     ·refine p_eff rfl hf trivial rfl rfl (Ef.mono (ef_alloc (zs := [.int .i64 0, .int .i64 0, .slice none 0 0]) z_141 rfl) (fun _ _ h => ⟨fun _ => by obtain ⟨_, _, _, hE, _⟩ := h; exact hE, h⟩)) ?_; rintro a _ w21 ⟨b46, rfl, hl46, hE, hB46⟩ hf
      have hne33_46 : b33 ≠ b46 := by have := hB33.lt; omega
      have hlo46 := Nat.le_trans hW.size hl46
      have hlc46 := Nat.le_trans hEc.size hl46
      replace hB2 := hB2.below hE
      replace hB3 := hB3.below hE
      replace hB9 := hB9.below hE
      replace hB26 := hB26.below hE
      replace hB33 := hB33.below hE
      replace hB39 := hB39.below hE
      replace ho13 := ho13.below hE
      replace ho14 := ho14.below hE
      replace ho15 := ho15.below hE
      replace ho28 := ho28.below hE
      replace hr31 := hr31.below hE
      replace hW := btr hW hE
      replace hEc := btr hEc hE
      clear hE
      refine s_one 9 (by kernel_rfl) ?_
      refine p_eff rfl hf trivial rfl rfl (Ef.mono (ef_call (vs := [.agg #[.int .i64 (k : Int), .slice (some ⟨b39, 0, none⟩) ([(mapG to h), (mapG to g)]).length 2]]) hf rfl ff_97 (F97 _ (⟨(k : Int), [(mapG to h), (mapG to g)]⟩ : Cx) (some ⟨b39, 0, none⟩) 2 (Rd.of_blk hB39 rfl _ hB39.lt) (by simp))) (fun _ _ h => ⟨fun _ => by obtain ⟨A47, c47, rfl, hr47, hE⟩ := h; exact hE, h⟩)) ?_; rintro a _ w22 ⟨A47, c47, rfl, hr47, hE⟩ hf
      replace hB2 := hB2.below hE
      replace hB3 := hB3.below hE
      replace hB9 := hB9.below hE
      replace hB26 := hB26.below hE
      replace hB33 := hB33.below hE
      replace hB39 := hB39.below hE
      replace hB46 := hB46.below hE
      replace ho13 := ho13.below hE
      replace ho14 := ho14.below hE
      replace ho15 := ho15.below hE
      replace ho28 := ho28.below hE
      replace hr31 := hr31.below hE
      replace hW := btr hW hE
      replace hEc := btr hEc hE
      clear hE
      refine s_e0 10 rfl (by kernel_rfl) hf rfl (fun _ => ev_move hf rfl) ?_; intro a hf
      refine s_e0 11 rfl (by kernel_rfl) hf rfl (fun _ => ev_extract (vs := [.agg #[.int .i64 (((opI (⟨(k : Int), [(mapG to h), (mapG to g)]⟩ : Cx)).getD mZ).rows), .int .i64 (((opI (⟨(k : Int), [(mapG to h), (mapG to g)]⟩ : Cx)).getD mZ).cols), .slice A47 (((opI (⟨(k : Int), [(mapG to h), (mapG to g)]⟩ : Cx)).getD mZ).cells).length c47], .bool ((opI (⟨(k : Int), [(mapG to h), (mapG to g)]⟩ : Cx)).isSome)]) hf rfl rfl) ?_; intro a hf
      refine s_e0 12 rfl (by kernel_rfl) hf rfl (fun _ => ev_extract (vs := [.agg #[.int .i64 (((opI (⟨(k : Int), [(mapG to h), (mapG to g)]⟩ : Cx)).getD mZ).rows), .int .i64 (((opI (⟨(k : Int), [(mapG to h), (mapG to g)]⟩ : Cx)).getD mZ).cols), .slice A47 (((opI (⟨(k : Int), [(mapG to h), (mapG to g)]⟩ : Cx)).getD mZ).cells).length c47], .bool ((opI (⟨(k : Int), [(mapG to h), (mapG to g)]⟩ : Cx)).isSome)]) hf rfl rfl) ?_; intro a hf
      refine s_one 14 (by kernel_rfl) ?_
      refine p_eff0 rfl hf trivial rfl (Ef.mono (ef_store (vs := [.int .i64 (((opI (⟨(k : Int), [(mapG to h), (mapG to g)]⟩ : Cx)).getD mZ).rows), .int .i64 (((opI (⟨(k : Int), [(mapG to h), (mapG to g)]⟩ : Cx)).getD mZ).cols), .slice A47 (((opI (⟨(k : Int), [(mapG to h), (mapG to g)]⟩ : Cx)).getD mZ).cells).length c47]) (l' := [.int .i64 (((opI (⟨(k : Int), [(mapG to h), (mapG to g)]⟩ : Cx)).getD mZ).rows), .int .i64 (((opI (⟨(k : Int), [(mapG to h), (mapG to g)]⟩ : Cx)).getD mZ).cols), .slice A47 (((opI (⟨(k : Int), [(mapG to h), (mapG to g)]⟩ : Cx)).getD mZ).cells).length c47]) hf rfl rfl sz_141 hB46 rfl rfl rfl rfl rfl) (fun _ _ h => ⟨fun h0 => absurd h0 (by decide), h⟩)) ?_; rintro a _ w23 ⟨ho, hb⟩ hf
      have hold := hB46
      replace hB2 := hB2.only ho (Blk.ne hB2 hold rfl)
      replace hB3 := hB3.only ho (Blk.ne hB3 hold rfl)
      replace hB9 := hB9.only ho (Blk.ne hB9 hold rfl)
      replace hB26 := hB26.only ho (Blk.ne hB26 hold rfl)
      replace hB33 := hB33.only ho (by omega)
      replace hB39 := hB39.only ho (Blk.ne hB39 hold rfl)
      replace ho13 := ho13.onlyT ho hold rfl
      replace ho14 := ho14.onlyT ho hold rfl
      replace ho15 := ho15.onlyT ho hold rfl
      replace ho28 := ho28.onlyT ho hold rfl
      replace hr31 := hr31.onlyT ho hold rfl
      replace hr47 := hr47.onlyT ho hold rfl
      replace hEc := Below.only hEc ho hlc46
      replace hW := Below.only hW ho hlo46
      clear hold
      have hB46 := hb
      clear hb ho
      refine s_e0 15 rfl (by kernel_rfl) hf rfl (fun _ => ev_assign hf rfl) ?_; intro a hf
      refine s_done (by kernel_rfl) ?_
      have hEE : Below w15.heap.size w15 w23 := hEc
      exact ⟨b46, A47, c47, hf.sub ⟨rfl, (by first | rfl | (simp [look, hc6b, hc18b])), trivial⟩, hlo46, hB46, hne33_46, hr47.top, hEE⟩
    ·refine p_eff rfl hf trivial rfl rfl (Ef.mono (ef_alloc (zs := [.int .i64 0, .int .i64 0, .slice none 0 0]) z_141 rfl) (fun _ _ h => ⟨fun _ => by obtain ⟨_, _, _, hE, _⟩ := h; exact hE, h⟩)) ?_; rintro a _ w24 ⟨b49, rfl, hl49, hE, hB49⟩ hf
     have hne33_49 : b33 ≠ b49 := by have := hB33.lt; omega
     have hlo49 := Nat.le_trans hW.size hl49
     have hlc49 := Nat.le_trans hEc.size hl49
     replace hB2 := hB2.below hE
     replace hB3 := hB3.below hE
     replace hB9 := hB9.below hE
     replace hB26 := hB26.below hE
     replace hB33 := hB33.below hE
     replace ho13 := ho13.below hE
     replace ho14 := ho14.below hE
     replace ho15 := ho15.below hE
     replace ho28 := ho28.below hE
     replace hr31 := hr31.below hE
     replace hW := btr hW hE
     replace hEc := btr hEc hE
     clear hE
     refine s_one 7 (by kernel_rfl) ?_
     refine p_eff rfl hf trivial rfl rfl (Ef.mono (ef_buildSlice (k := 2) (vs := [.agg #[.int .i64 ((mapG to h).k), .int .i64 ((mapG to h).a), .int .i64 ((mapG to h).b)], .agg #[.int .i64 ((mapG to g).k), .int .i64 ((mapG to g).a), .int .i64 ((mapG to g).b)]]) (zs := [.int .i64 ((mapG to h).k), .int .i64 ((mapG to h).a), .int .i64 ((mapG to h).b), .int .i64 ((mapG to g).k), .int .i64 ((mapG to g).a), .int .i64 ((mapG to g).b)]) hf rfl sl_28 inf_107 rfl rfl) (fun _ _ h => ⟨fun _ => by obtain ⟨_, _, _, hE, _⟩ := h; exact hE, h⟩)) ?_; rintro a _ w25 ⟨b50, rfl, hl50, hE, hB50⟩ hf
     have hne2_50 : b2 ≠ b50 := by have := hB2.lt; omega
     have hne3_50 : b3 ≠ b50 := by have := hB3.lt; omega
     have hne26_50 : b26 ≠ b50 := by have := hB26.lt; omega
     have hlo50 := Nat.le_trans hW.size hl50
     have hlc50 := Nat.le_trans hEc.size hl50
     have haw28_50 := ho28.away hl50
     replace hB2 := hB2.below hE
     replace hB3 := hB3.below hE
     replace hB9 := hB9.below hE
     replace hB26 := hB26.below hE
     replace hB33 := hB33.below hE
     replace hB49 := hB49.below hE
     replace ho13 := ho13.below hE
     replace ho14 := ho14.below hE
     replace ho15 := ho15.below hE
     replace ho28 := ho28.below hE
     replace hr31 := hr31.below hE
     replace hW := btr hW hE
     replace hEc := btr hEc hE
     clear hE
     refine s_e0 8 rfl (by kernel_rfl) hf rfl (fun _ => ev_build (ps := [(0, .int .i64 (k : Int)), (1, .slice (some ⟨b50, 0, none⟩) ([(mapG to h), (mapG to g)]).length 2)]) (cs := [.int .i64 (k : Int), .slice (some ⟨b50, 0, none⟩) ([(mapG to h), (mapG to g)]).length 2]) hf rfl (fun _ => by first | rfl | kernel_rfl)) ?_; intro a hf
     refine s_one 9 (by kernel_rfl) ?_
     refine p_eff rfl hf trivial rfl rfl (Ef.mono (ef_call (vs := [.agg #[.int .i64 (k : Int), .slice (some ⟨b50, 0, none⟩) ([(mapG to h), (mapG to g)]).length 2]]) hf rfl ff_97 (F97 _ (⟨(k : Int), [(mapG to h), (mapG to g)]⟩ : Cx) (some ⟨b50, 0, none⟩) 2 (Rd.of_blk hB50 rfl _ hB50.lt) (by simp))) (fun _ _ h => ⟨fun _ => by obtain ⟨A53, c53, rfl, hr53, hE⟩ := h; exact hE, h⟩)) ?_; rintro a _ w26 ⟨A53, c53, rfl, hr53, hE⟩ hf
     replace hB2 := hB2.below hE
     replace hB3 := hB3.below hE
     replace hB9 := hB9.below hE
     replace hB26 := hB26.below hE
     replace hB33 := hB33.below hE
     replace hB49 := hB49.below hE
     replace hB50 := hB50.below hE
     replace ho13 := ho13.below hE
     replace ho14 := ho14.below hE
     replace ho15 := ho15.below hE
     replace ho28 := ho28.below hE
     replace hr31 := hr31.below hE
     replace hW := btr hW hE
     replace hEc := btr hEc hE
     clear hE
     refine s_e0 10 rfl (by kernel_rfl) hf rfl (fun _ => ev_move hf rfl) ?_; intro a hf
     refine s_e0 11 rfl (by kernel_rfl) hf rfl (fun _ => ev_extract (vs := [.agg #[.int .i64 (((opI (⟨(k : Int), [(mapG to h), (mapG to g)]⟩ : Cx)).getD mZ).rows), .int .i64 (((opI (⟨(k : Int), [(mapG to h), (mapG to g)]⟩ : Cx)).getD mZ).cols), .slice A53 (((opI (⟨(k : Int), [(mapG to h), (mapG to g)]⟩ : Cx)).getD mZ).cells).length c53], .bool ((opI (⟨(k : Int), [(mapG to h), (mapG to g)]⟩ : Cx)).isSome)]) hf rfl rfl) ?_; intro a hf
     refine s_e0 12 rfl (by kernel_rfl) hf rfl (fun _ => ev_extract (vs := [.agg #[.int .i64 (((opI (⟨(k : Int), [(mapG to h), (mapG to g)]⟩ : Cx)).getD mZ).rows), .int .i64 (((opI (⟨(k : Int), [(mapG to h), (mapG to g)]⟩ : Cx)).getD mZ).cols), .slice A53 (((opI (⟨(k : Int), [(mapG to h), (mapG to g)]⟩ : Cx)).getD mZ).cells).length c53], .bool ((opI (⟨(k : Int), [(mapG to h), (mapG to g)]⟩ : Cx)).isSome)]) hf rfl rfl) ?_; intro a hf
     refine s_one 14 (by kernel_rfl) ?_
     refine p_eff0 rfl hf trivial rfl (Ef.mono (ef_store (vs := [.int .i64 (((opI (⟨(k : Int), [(mapG to h), (mapG to g)]⟩ : Cx)).getD mZ).rows), .int .i64 (((opI (⟨(k : Int), [(mapG to h), (mapG to g)]⟩ : Cx)).getD mZ).cols), .slice A53 (((opI (⟨(k : Int), [(mapG to h), (mapG to g)]⟩ : Cx)).getD mZ).cells).length c53]) (l' := [.int .i64 (((opI (⟨(k : Int), [(mapG to h), (mapG to g)]⟩ : Cx)).getD mZ).rows), .int .i64 (((opI (⟨(k : Int), [(mapG to h), (mapG to g)]⟩ : Cx)).getD mZ).cols), .slice A53 (((opI (⟨(k : Int), [(mapG to h), (mapG to g)]⟩ : Cx)).getD mZ).cells).length c53]) hf rfl rfl sz_141 hB49 rfl rfl rfl rfl rfl) (fun _ _ h => ⟨fun h0 => absurd h0 (by decide), h⟩)) ?_; rintro a _ w27 ⟨ho, hb⟩ hf
     have hold := hB49
     replace hB2 := hB2.only ho (Blk.ne hB2 hold rfl)
     replace hB3 := hB3.only ho (Blk.ne hB3 hold rfl)
     replace hB9 := hB9.only ho (Blk.ne hB9 hold rfl)
     replace hB26 := hB26.only ho (Blk.ne hB26 hold rfl)
     replace hB33 := hB33.only ho (by omega)
     replace hB50 := hB50.only ho (Blk.ne hB50 hold rfl)
     replace ho13 := ho13.onlyT ho hold rfl
     replace ho14 := ho14.onlyT ho hold rfl
     replace ho15 := ho15.onlyT ho hold rfl
     replace ho28 := ho28.onlyT ho hold rfl
     replace hr31 := hr31.onlyT ho hold rfl
     replace hr53 := hr53.onlyT ho hold rfl
     replace hEc := Below.only hEc ho hlc49
     replace hW := Below.only hW ho hlo49
     clear hold
     have hB49 := hb
     clear hb ho
     refine s_e0 15 rfl (by kernel_rfl) hf rfl (fun _ => ev_assign hf rfl) ?_; intro a hf
     refine s_done (by kernel_rfl) ?_
     have hEE : Below w15.heap.size w15 w27 := hEc
     exact ⟨b49, A53, c53, hf.sub ⟨rfl, (by first | rfl | (simp [look, hc6b, hc18b])), trivial⟩, hlo49, hB49, hne33_49, hr53.top, hEE⟩
   rintro a w28 ⟨b44, A42, c42, hf, hlo44, hB44, hne33_44, hr42, hE⟩
   replace hB2 := hB2.below hE
   replace hB3 := hB3.below hE
   replace hB9 := hB9.below hE
   replace hB26 := hB26.below hE
   replace hB33 := hB33.below hE
   replace ho13 := ho13.below hE
   replace ho14 := ho14.below hE
   replace ho15 := ho15.below hE
   replace ho28 := ho28.below hE
   replace hr31 := hr31.below hE
   replace hW := btr hW hE
   clear hE
   refine hK34 _ _ ?_; try clear hK34 K34
   refine wp_seq_k ?_; intro K54 hK54
   refine wp_region_lit ?_
   refine l_e hf rfl (ev_loadN (l := [.int .i64 (((opI (⟨(k : Int), (mapI ([g, h]) to)⟩ : Cx)).getD mZ).rows), .int .i64 (((opI (⟨(k : Int), (mapI ([g, h]) to)⟩ : Cx)).getD mZ).cols), .slice A31 (((opI (⟨(k : Int), (mapI ([g, h]) to)⟩ : Cx)).getD mZ).cells).length c31]) hf rfl tN_141 (hB33.at 0) rfl) ?_; intro a hf
   refine l_e hf rfl (ev_loadN (l := [.int .i64 (((opI (⟨(k : Int), [(mapG to h), (mapG to g)]⟩ : Cx)).getD mZ).rows), .int .i64 (((opI (⟨(k : Int), [(mapG to h), (mapG to g)]⟩ : Cx)).getD mZ).cols), .slice A42 (((opI (⟨(k : Int), [(mapG to h), (mapG to g)]⟩ : Cx)).getD mZ).cells).length c42]) hf rfl tN_141 (hB44.at 0) rfl) ?_; intro a hf
   refine l_f hf rfl (ef_call (vs := [.agg #[.int .i64 (((opI (⟨(k : Int), (mapI ([g, h]) to)⟩ : Cx)).getD mZ).rows), .int .i64 (((opI (⟨(k : Int), (mapI ([g, h]) to)⟩ : Cx)).getD mZ).cols), .slice A31 (((opI (⟨(k : Int), (mapI ([g, h]) to)⟩ : Cx)).getD mZ).cells).length c31], .agg #[.int .i64 (((opI (⟨(k : Int), [(mapG to h), (mapG to g)]⟩ : Cx)).getD mZ).rows), .int .i64 (((opI (⟨(k : Int), [(mapG to h), (mapG to g)]⟩ : Cx)).getD mZ).cols), .slice A42 (((opI (⟨(k : Int), [(mapG to h), (mapG to g)]⟩ : Cx)).getD mZ).cells).length c42]]) hf rfl ff_141 (F141 _ ((opI (⟨(k : Int), (mapI ([g, h]) to)⟩ : Cx)).getD mZ) A31 c31 hr31.top ((opI (⟨(k : Int), [(mapG to h), (mapG to g)]⟩ : Cx)).getD mZ) A42 c42 hr42.top (opI_le _))) ?_; rintro a _ w29 ⟨rfl, hE⟩ hf
   replace hB2 := hB2.below hE
   replace hB3 := hB3.below hE
   replace hB9 := hB9.below hE
   replace hB26 := hB26.below hE
   replace hB33 := hB33.below hE
   replace hB44 := hB44.below hE
   replace ho13 := ho13.below hE
   replace ho14 := ho14.below hE
   replace ho15 := ho15.below hE
   replace ho28 := ho28.below hE
   replace hr31 := hr31.below hE
   replace hr42 := hr42.below hE
   replace hW := btr hW hE
   clear hE
   refine l_as hf rfl rfl ?_; intro a hf
   refine wpList_nil ?_
   refine hK54 _ _ ?_; try clear hK54 K54
   refine wp_ret ?_
   refine c_ret hf (res1 hf rfl rfl) ?_
   exact ⟨by rw [hfin]; rfl, hW⟩
end Go.Proofs.YtfgnmflfiobkmaaGreat
namespace Go.Proofs.YtfgnmflfiobkmaaGreat
open Go.RowKit
def kV (x y : Gt) : Value := .agg #[.int .i64 x.k, .int .i64 x.a, .int .i64 x.b, .int .i64 y.k, .int .i64 y.a, .int .i64 y.b]
theorem cells107 : Tryz.prog.cellsOf 107 = 3 := by kernel_rfl
theorem eqK (x y x' y' : Gt) (w : World) : (Op.equal 200 (kV x y) (kV x' y')).run Tryz.prog w = .ok (decide (x = x') && decide (y = y')) w := by
  obtain ⟨i, hi, _⟩ := tN_107.2
  unfold Op.equal kV
  refine (run_equalIn_array w 9999 _ _ Tryz.underlying200 hi).trans ?_
  rw [cells107, show List.range 2 = [0, 1] from rfl]
  simp only [Op.eqItems, Sem.run_bind, run_partN tN_107, Result.andThen_ok]
  rw [show (Op.equalIn 9999 107 (.agg (#[Value.int .i64 x.k, .int .i64 x.a, .int .i64 x.b, .int .i64 y.k, .int .i64 y.a, .int .i64 y.b].extract (0 * 3) (0 * 3 + 3))) (.agg (#[Value.int .i64 x'.k, .int .i64 x'.a, .int .i64 x'.b, .int .i64 y'.k, .int .i64 y'.a, .int .i64 y'.b].extract (0 * 3) (0 * 3 + 3)))).run Tryz.prog w = .ok (decide (x = x')) w from eqG107 9997 x x' w]
  simp only [Result.andThen_ok]
  by_cases h : x = x'
  · rw [decide_eq_true h]
    simp only [Bool.not_true, Bool.false_eq_true, if_false, Sem.run_bind, run_partN tN_107, Result.andThen_ok, Bool.true_and]
    rw [show (Op.equalIn 9999 107 (.agg (#[Value.int .i64 x.k, .int .i64 x.a, .int .i64 x.b, .int .i64 y.k, .int .i64 y.a, .int .i64 y.b].extract (1 * 3) (1 * 3 + 3))) (.agg (#[Value.int .i64 x'.k, .int .i64 x'.a, .int .i64 x'.b, .int .i64 y'.k, .int .i64 y'.a, .int .i64 y'.b].extract (1 * 3) (1 * 3 + 3)))).run Tryz.prog w = .ok (decide (y = y')) w from eqG107 9997 y y' w]
    simp only [Result.andThen_ok]
    by_cases h2 : y = y'
    · rw [decide_eq_true h2]; rfl
    · rw [decide_eq_false h2]; rfl
  · rw [decide_eq_false h]
    rfl
theorem ck_gate (em : Bool) (n : Nat) (g : Gt) (w : World) : (Instr.checkKey em (n + 2) 107 (gV g)).run Tryz.prog w = .ok () w := by
  rw [Instr.checkKey]
  simp only [Sem.run_bind, run_under Tryz.underlying107, Result.andThen_ok]
  simp [run_part1 t1_3, MapKept.run_checkKey Tryz.underlying3 (show MapKept.IsKey (.int .i64) (.int .i64 _) from rfl), gV]
theorem ck_key (em : Bool) (x y : Gt) (w : World) : (Instr.checkKey em 10000 200 (kV x y)).run Tryz.prog w = .ok () w := by
  rw [show (10000 : Nat) = 9999 + 1 from rfl, Instr.checkKey]
  simp only [Sem.run_bind, run_under Tryz.underlying200, Result.andThen_ok, kV]
  simp only [Std.Legacy.Range.forIn_eq_forIn_range', Std.Legacy.Range.size, Nat.sub_zero, Nat.add_one_sub_one, Nat.div_one]
  rw [show List.range' 0 2 = [0, 1] from rfl]
  simp only [List.forIn_cons, List.forIn_nil, Sem.run_bind, run_sizeOf' tN_107.2, run_partN tN_107, Result.andThen_ok]
  rw [show (Instr.checkKey em 9999 107 (.agg (#[Value.int .i64 x.k, .int .i64 x.a, .int .i64 x.b, .int .i64 y.k, .int .i64 y.a, .int .i64 y.b].extract (0 * 3) (0 * 3 + 3)))).run Tryz.prog w = .ok () w from ck_gate em 9997 x w]
  simp only [Result.andThen_ok, Sem.run_bind, Sem.run_pure, run_sizeOf' tN_107.2, run_partN tN_107]
  rw [show (Instr.checkKey em 9999 107 (.agg (#[Value.int .i64 x.k, .int .i64 x.a, .int .i64 x.b, .int .i64 y.k, .int .i64 y.a, .int .i64 y.b].extract (1 * 3) (1 * 3 + 3)))).run Tryz.prog w = .ok () w from ck_gate em 9997 y w]
  rfl
structure Me where (x y : Gt) (v : Bool) (born : Nat)
def entM (m : Me) : MapEntry := { key := kV m.x m.y, val := .bool m.v, born := m.born }
def findM (l : List Me) (x y : Gt) : Option Bool := (l.find? fun m => decide (x = m.x) && decide (y = m.y)).map Me.v
def GoodM (l : List Me) : Prop := ∀ m ∈ l, m.v = !commI m.x m.y
def MemoL (w : World) (b : Nat) (l : List Me) (clock : Nat) : Prop := w.heap[b]? = some (.map (l.map entM).toArray clock)
def MemoG (w : World) (b : Nat) : Prop := ∃ l clock, MemoL w b l clock ∧ GoodM l
def MemoN (x y : Gt) (w : World) (b : Nat) : Prop := ∃ l clock, MemoL w b l clock ∧ GoodM l ∧ findM l x y = none
theorem MemoL.lt {w : World} {b clock : Nat} {l : List Me} (h : MemoL w b l clock) : b < w.heap.size := by
  rcases Nat.lt_or_ge b w.heap.size with h' | h'
  · exact h'
  · simp [MemoL, Array.getElem?_eq_none h'] at h
theorem MemoL.below {w w' : World} {b clock : Nat} {l : List Me} (h : MemoL w b l clock) (hb : Below w.heap.size w w') : MemoL w' b l clock := (hb.block b h.lt).trans h
theorem MemoL.only {w w' : World} {b b' clock : Nat} {l : List Me} (h : MemoL w b l clock) (ho : Only b' w w') (hne : b ≠ b') : MemoL w' b l clock := (ho.block b hne).trans h
theorem MemoL.ne {w : World} {b b' clock : Nat} {l : List Me} {T : TypeId} {cs : List Value} (h : MemoL w b l clock) (hb : Blk w b' T cs) : b ≠ b' := by
  rintro rfl
  unfold MemoL at h
  unfold Blk at hb
  rw [h] at hb
  cases hb
section
variable {w w' : World} {b b' : Nat} {x y : Gt}
theorem MemoG.lt (h : MemoG w b) : b < w.heap.size := let ⟨_, _, h, _⟩ := h; h.lt
theorem MemoG.below (h : MemoG w b) (hb : Below w.heap.size w w') : MemoG w' b := let ⟨l, c, h, g⟩ := h; ⟨l, c, h.below hb, g⟩
theorem MemoG.only (h : MemoG w b) (ho : Only b' w w') (hne : b ≠ b') : MemoG w' b := let ⟨l, c, h, g⟩ := h; ⟨l, c, h.only ho hne, g⟩
theorem MemoG.ne {T : TypeId} {cs : List Value} (h : MemoG w b) (hb : Blk w b' T cs) : b ≠ b' := let ⟨_, _, h, _⟩ := h; h.ne hb
theorem MemoG.good (h : MemoG w b) : MemoG w b := h
theorem MemoN.good (h : MemoN x y w b) : MemoG w b := let ⟨l, c, h, g, _⟩ := h; ⟨l, c, h, g⟩
theorem MemoN.lt (h : MemoN x y w b) : b < w.heap.size := let ⟨_, _, h, _⟩ := h; h.lt
theorem MemoN.below (h : MemoN x y w b) (hb : Below w.heap.size w w') : MemoN x y w' b := let ⟨l, c, h, g⟩ := h; ⟨l, c, h.below hb, g⟩
theorem MemoN.only (h : MemoN x y w b) (ho : Only b' w w') (hne : b ≠ b') : MemoN x y w' b := let ⟨l, c, h, g⟩ := h; ⟨l, c, h.only ho hne, g⟩
theorem MemoN.ne {T : TypeId} {cs : List Value} (h : MemoN x y w b) (hb : Blk w b' T cs) : b ≠ b' := let ⟨_, _, h, _⟩ := h; h.ne hb
theorem Blk.onlyM {T : TypeId} {cs : List Value} (h : Blk w b' T cs) (ho : Only b w w') (hm : MemoG w b) : Blk w' b' T cs := h.only ho (Ne.symm (hm.ne h))
theorem Rd.onlyM {α : Type} {B : Nat} {E : TypeId} {enc : α → List Value} {A : Option Addr} {l : List α} (h : Rd w B E enc A l) (ho : Only b w w') (hm : MemoG w b) : Rd w' B E enc A l := h.chg fun k cs fz _ hk => ho.block k fun e => by
  obtain ⟨_, _, hL, _⟩ := hm
  unfold MemoL at hL
  rw [e, hL] at hk
  cases hk
end
theorem find_ask {x y : Gt} (w : World) : ∀ (l : List Me) (i : Nat), (findM l x y = none ∧ (Instr.findAsking 200 (kV x y) (l.map entM) i).run Tryz.prog w = .ok none w) ∨ ∃ j v, findM l x y = some v ∧ (Instr.findAsking 200 (kV x y) (l.map entM) i).run Tryz.prog w = .ok (some (j, .bool v)) w
  | [], i => .inl ⟨rfl, rfl⟩
  | m :: l, i => by
    have he := eqK x y m.x m.y w
    cases hb : (decide (x = m.x) && decide (y = m.y)) with
    | true =>
      right
      refine ⟨i, m.v, by simp only [findM, List.find?_cons, hb, Option.map_some], ?_⟩
      simp only [List.map_cons, Instr.findAsking, Sem.run_bind]
      rw [show (Op.equal 200 (kV x y) (entM m).key).run Tryz.prog w = _ from he, hb]
      rfl
    | false =>
      have hf : findM (m :: l) x y = findM l x y := by simp only [findM, List.find?_cons, hb]
      have hs : (Instr.findAsking 200 (kV x y) ((m :: l).map entM) i).run Tryz.prog w = (Instr.findAsking 200 (kV x y) (l.map entM) (i + 1)).run Tryz.prog w := by
        simp only [List.map_cons, Instr.findAsking, Sem.run_bind]
        rw [show (Op.equal 200 (kV x y) (entM m).key).run Tryz.prog w = _ from he, hb]
        rfl
      rw [hf, hs]
      exact find_ask w l (i + 1)
theorem find_good {l : List Me} {x y : Gt} {v : Bool} (h : GoodM l) (hf : findM l x y = some v) : v = !commI x y := by
  unfold findM at hf
  rw [Option.map_eq_some_iff] at hf
  obtain ⟨m, h1, h2⟩ := hf
  have h3 := List.find?_some h1
  simp only [Bool.and_eq_true, decide_eq_true_eq] at h3
  rw [← h2, h m (List.mem_of_find?_eq_some h1), h3.1, h3.2]
def LookM (w : World) (b : Nat) (x y : Gt) (v k : Bool) : Prop := ∃ l clock, MemoL w b l clock ∧ ((k = true ∧ findM l x y = some v) ∨ (k = false ∧ v = false ∧ findM l x y = none))
theorem MemoG.look {w : World} {b : Nat} (h : MemoG w b) (x y : Gt) : ∃ v k, LookM w b x y v k ∧ (k = true → v = !commI x y) ∧ (k = false → MemoN x y w b) := by
  obtain ⟨l, clock, hL, hg⟩ := h
  cases hf : findM l x y with
  | none => exact ⟨false, false, ⟨l, clock, hL, .inr ⟨rfl, rfl, hf⟩⟩, (fun h => by cases h), fun _ => ⟨l, clock, hL, hg, hf⟩⟩
  | some v => exact ⟨v, true, ⟨l, clock, hL, .inl ⟨rfl, hf⟩⟩, fun _ => find_good hg hf, (fun h => by cases h)⟩
section
variable {a : Act} {w : World} {n : Nat} {e : Env} {ty : TypeId} {pos : String} {af : Array Edge} {g : Option (Nat × Bool)} {d : Option Tmp} {x y : Gt} {b : Nat}
theorem find_run (w : World) (l : List Me) : (Instr.findKey 200 (kV x y) (l.map entM)).run Tryz.prog w = (Instr.findAsking 200 (kV x y) (l.map entM) 0).run Tryz.prog w :=
  run_findKey_eq w (by rw [Tryz.underlying200]) _ _
set_option maxRecDepth 20000 in
theorem ev_lookM {m q : Operand} {v k : Bool} (hf : Fr a n e) (hm : ev e m = some (.map (some b))) (hx : ev e q = some (kV x y)) (h : LookM w b x y v k) :
    Ev Tryz.prog ⟨d, .lookup 102 m q true, ty, pos, af, g⟩ a w (.tuple #[.bool v, .bool k]) := fun w' hw => by
  obtain ⟨l, clock, hL, hc⟩ := h
  have hL' := hL.below hw
  unfold MemoL at hL'
  have hz : (zeroValue 4).run Tryz.prog w' = .ok (.bool false) w' := by kernel_rfl
  rcases find_ask (x := x) (y := y) w' l 0 with ⟨h1, h2⟩ | ⟨j, u, h1, h2⟩
  · rcases hc with ⟨_, hc⟩ | ⟨rfl, rfl, _⟩
    · rw [h1] at hc; cases hc
    · simp [execOp, Instr.lookup, hf.ev hm, hf.ev hx, run_under Tryz.underlying102, getObj, Sem.run, hL', ck_key, find_run, h2, hz]
  · rcases hc with ⟨rfl, hc⟩ | ⟨_, _, hc⟩
    · rw [h1] at hc
      injection hc with hc
      subst hc
      simp [execOp, Instr.lookup, hf.ev hm, hf.ev hx, run_under Tryz.underlying102, getObj, Sem.run, hL', ck_key, find_run, h2]
    · rw [h1] at hc; cases hc
set_option maxRecDepth 20000 in
theorem ef_memoPut {m q z : Operand} {v : Bool} (hf : Fr a n e) (hm : ev e m = some (.map (some b))) (hx : ev e q = some (kV x y)) (hy : ev e z = some (.bool v)) (h : MemoN x y w b) (hv : v = !commI x y) :
    Ef Tryz.prog ⟨d, .mapUpdate 102 m q z, ty, pos, af, g⟩ a w (fun _ w' => Only b w w' ∧ MemoG w' b) := by
  obtain ⟨l, clock, hL, hg, hn⟩ := h
  have hlt := hL.lt
  have hfd : (Instr.findKey 200 (kV x y) (l.map entM)).run Tryz.prog w = .ok none w := by
    rw [find_run]
    rcases find_ask (x := x) (y := y) w l 0 with ⟨_, h2⟩ | ⟨j, u, h1, _⟩
    · exact h2
    · rw [hn] at h1; cases h1
  unfold MemoL at hL
  refine (Ef.of_skip (w' := { w with heap := w.heap.setIfInBounds b (.map ((l ++ [(⟨x, y, v, clock⟩ : Me)]).map entM).toArray (clock + 1)) }) ?_).mono fun _ w' ⟨_, e2⟩ => ?_
  · simp [execOp, Instr.mapUpdate, hf.ev hm, hf.ev hx, hf.ev hy, run_under Tryz.underlying102, getObj, hL, ck_key, hfd, setObj, Sem.run, entM]
  · subst e2
    refine ⟨⟨rfl, rfl, rfl, by simp, fun k hk => ?_⟩, l ++ [(⟨x, y, v, clock⟩ : Me)], clock + 1, ?_, fun m hm => ?_⟩
    · show (w.heap.setIfInBounds b _)[k]? = _
      rw [Array.getElem?_setIfInBounds_ne (Ne.symm hk)]
    · show (w.heap.setIfInBounds b _)[b]? = _
      simp [hlt]
    · rcases List.mem_append.1 hm with hm | hm
      · exact hg m hm
      · rw [List.mem_singleton.1 hm]; exact hv
theorem ef_makeMemo : Ef Tryz.prog ⟨d, .makeMap 102 none, ty, pos, af, g⟩ a w (fun v w' => ∃ b, v = .map (some b) ∧ w.heap.size ≤ b ∧ Below w.heap.size w w' ∧ MemoG w' b) :=
  ef_makeMap.mono fun _ _ ⟨b, h1, h2, h3, h4⟩ => ⟨b, h1, h2, h3, [], 0, h4, fun m hm => by cases hm⟩
end
section
variable {P : Program} {a : Act} {w : World} {n : Nat} {e : Env} {ty : TypeId} {pos : String} {af : Array Edge} {g : Option (Nat × Bool)} {d : Option Tmp}
theorem ev_indexArr {T E : TypeId} {len sz b off m k : Nat} {x y : Operand} {i : Int} (hf : Fr a n e) (hx : ev e x = some (.pointer (some ⟨b, off, none⟩))) (hy : ev e y = some (.int .i64 i)) (hT : P.underlying T = some (.array len E)) (hs : SizeT P E sz) (hi : i = (k : Int)) (hk : k < len) (hm : off + k * sz = m) :
    Ev P ⟨d, .indexAddr T x y, ty, pos, af, g⟩ a w (.pointer (some ⟨b, m, none⟩)) := fun w' _ => by
  subst hi hm
  have h1 := run_under (P := P) hT w'
  have h2 := run_sizeOf' hs w'
  simp [execOp, Instr.indexAt, asIntOf, Instr.sureAddr, hf.ev hx, hf.ev hy, h1, h2, hk, addr_off]
end
theorem Rd.atM {α : Type} {w : World} {B b0 : Nat} {E : TypeId} {enc : α → List Value} {A : Option Addr} {l : List α} {sz : Nat} (hsz : ∀ x, (enc x).length = sz) (h : Rd w B E enc A l) {k : Nat} {x : α} (hk : l[k]? = some x)
    (hb : MemoG w b0) : ∃ p, A = some p ∧ At w (p.add (k * sz)) (enc x) ∧ (p.add (k * sz)).block ≠ b0 := by
  obtain ⟨p, h1, h2⟩ := h.at hsz hk
  refine ⟨p, h1, h2, ?_⟩
  have hl : l ≠ [] := by rintro rfl; simp at hk
  obtain ⟨b, off, cs, fz, h3, h4, h5, h6⟩ := h hl
  rw [h1] at h3
  injection h3 with h3
  subst h3
  rw [addr_block]
  rintro rfl
  obtain ⟨_, _, hL, _⟩ := hb
  unfold MemoL at hL
  rw [h5] at hL
  cases hL
section
variable {P : Program} {a : Act} {w : World} {n : Nat} {e : Env} {α : Type} {ops : Array Oper} {ty : TypeId} {pos : String} {af : Array Edge} {g : Option (Nat × Bool)} {d : Nat}
theorem s_indexVM {b0 : Nat} {Q : Act → World → Prop} {tl : Nat → Bool} {fuel : Nat} {done : List Nat} {T E : TypeId} {sz B : Nat} {x y : Operand} {enc : α → List Value} {A : Option Addr} {c : Nat} {l : List α} {k : Nat} {i : Int} {u : α} (j : Nat)
    (ho : ops[j]? = some ⟨some d, .indexAddr T x y, ty, pos, af, g⟩) (hm : mayFirst ops done j = true) (hf : Fr a n e) (hw : Want ops ⟨some d, .indexAddr T x y, ty, pos, af, g⟩ e) (hn : Nat.blt d n = true)
    (hb : MemoG w b0)
    (hx : ev e x = some (.slice A l.length c)) (hy : ev e y = some (.int .i64 i)) (hT : SliceT P T E) (hs : SizeT P E sz) (hsz : ∀ x, (enc x).length = sz) (hr : Rd w B E enc A l) (hk : l[k]? = some u) (hi : i = (k : Int))
    (h : ∀ a' p, At w p (enc u) → p.block ≠ b0 → Fr a' n ((d, .pointer (some p)) :: e) → wpS P ops (some b0) tl Q fuel (mask ops (j :: done)) a' w) : wpS P ops (some b0) tl Q (fuel + 1) (mask ops done) a w := by
  obtain ⟨p, rfl, hat, hne⟩ := hr.atM hsz hk hb
  exact s_ev0 j ho hm hf hw rfl hn (fun w => ev_index hf hx hy hT hs hi (List.getElem?_eq_some_iff.1 hk).1) fun a' hf' => h a' _ hat hne hf'
end
theorem getDG {gs : List Gt} {i : Nat} (h : i < gs.length) : gs[i]? = some (gs.getD i gZ) := by
  rw [List.getD_eq_getElem?_getD, List.getElem?_eq_getElem h]; rfl
section
variable {gs : List Gt} {s : List Int} {i : Nat} {g : Gt}
theorem flh_1 (hg : gs.getD i gZ = g) (h : (g.k == 12 && s.getD i 0 != 0 || g.k != 12 && !inR (s.getD i 0) 1 400) = true) : faultI gs s i = 1 := by
  rw [faultI, hg, faultH, if_pos h]
theorem flh_2 (hg : gs.getD i gZ = g) (h : (g.k == 12 && s.getD i 0 != 0 || g.k != 12 && !inR (s.getD i 0) 1 400) = false) (ha : (List.range i).any (qA gs s g (s.getD i 0)) = true) : faultI gs s i = 2 := by
  rw [faultI, hg, faultH, if_neg (by rw [h]; simp), if_pos ha]
theorem flh_3 (hg : gs.getD i gZ = g) (h : (g.k == 12 && s.getD i 0 != 0 || g.k != 12 && !inR (s.getD i 0) 1 400) = false) (ha : (List.range i).any (qA gs s g (s.getD i 0)) = false) (hb : (List.range i).any (qB gs s g (s.getD i 0)) = true) : faultI gs s i = 3 := by
  rw [faultI, hg, faultH, if_neg (by rw [h]; simp), if_neg (by rw [ha]; simp), if_pos hb]
theorem flh_0 (hg : gs.getD i gZ = g) (h : (g.k == 12 && s.getD i 0 != 0 || g.k != 12 && !inR (s.getD i 0) 1 400) = false) (ha : (List.range i).any (qA gs s g (s.getD i 0)) = false) (hb : (List.range i).any (qB gs s g (s.getD i 0)) = false) : faultI gs s i = 0 := by
  rw [faultI, hg, faultH, if_neg (by rw [h]; simp), if_neg (by rw [ha]; simp), if_neg (by rw [hb]; simp)]
end
end Go.Proofs.YtfgnmflfiobkmaaGreat
