/-
  What is proved: for every number and every replacement, the program's IsJustified returns what the reference's returns, and the arguments read as before. Conditions: none.
-/
import Derived.Test.YtfgnmflfiobkmaaGreatP3
import Derived.Test.YtfgnmflfiobkmaaGreatP1
import Derived.MapKept
import Derived.Shelf.Sort.Plain
import Derived.Shelf.Slices.Turned
import Derived.Ground.Names2Prog
import Derived.Shelf.Slices.Clone
import Derived.Shelf.Slices.CompactI
import Derived.Shelf.Slices.Cells
import Derived.Test.YtfgnmflfiobkmaaGreatProg
import Derived.Shelf.Spec.SlicesGrow
import Derived.Laws.MakeOwn
import Derived.Laws.Slices
import Derived.Shelf.Slices.In.SortNone
set_option maxRecDepth 4000
namespace Go.Proofs.YtfgnmflfiobkmaaGreat
open Go.RowKit
theorem F173 (w0 : World) (p : Mx) (Ap : Option Addr) (cp : Nat) (hr_p : Rd w0 w0.heap.size 189 encD Ap p.cells) (q : Mx) (Aq : Option Addr) (cq : Nat) (hr_q : Rd w0 w0.heap.size 189 encD Aq q.cells) (k : Int) (hpl : p.cells.length = q.cells.length) (hln : q.cells.length ≤ 2305843009213693951) : Ret Tryz.prog 173 [.agg #[.int .i64 p.rows, .int .i64 p.cols, .slice Ap p.cells.length cp], .agg #[.int .i64 q.rows, .int .i64 q.cols, .slice Aq q.cells.length cq], .int .i64 k] w0 (fun v w => v = .bool (turnedS p q k) ∧ Below w0.heap.size w0 w) := by
 refine enter Tryz.func173 rfl 42 rfl rfl ?_
 intro a hf
 have hW : Below w0.heap.size w0 w0 := Below.refl _ _
 refine wp_seq_k ?_; intro K3 hK3
 refine wp_region_lit ?_
 refine l_eff hf trivial rfl rfl (ef_box (zs := [.int .i64 p.rows, .int .i64 p.cols, .slice Ap p.cells.length cp]) hf rfl rfl) ?_; rintro a _ w1 ⟨b4, rfl, hl4, hE, hB4⟩ hf
 have hlo4 := Nat.le_trans hW.size hl4
 replace hr_p := hr_p.below hE
 replace hr_q := hr_q.below hE
 replace hW := hW.trans (hE.mono hW.size)
 clear hE
 refine l_eff hf trivial rfl rfl (ef_box (zs := [.int .i64 q.rows, .int .i64 q.cols, .slice Aq q.cells.length cq]) hf rfl rfl) ?_; rintro a _ w2 ⟨b5, rfl, hl5, hE, hB5⟩ hf
 have hne4_5 : b4 ≠ b5 := by have := hB4.lt; omega
 have hlo5 := Nat.le_trans hW.size hl5
 replace hB4 := hB4.below hE
 replace hr_p := hr_p.below hE
 replace hr_q := hr_q.below hE
 replace hW := hW.trans (hE.mono hW.size)
 clear hE
 refine l_ev hf trivial rfl rfl (ev_assign hf rfl) ?_; intro a hf
 refine wpList_nil ?_
 refine hK3 _ _ ?_; try clear hK3 K3
 refine wp_seq_k ?_; intro K6 hK6
 refine wp_seq_k ?_; intro K7 hK7
 refine c_cut (fun a w => Fr a 42 [(2, .int .i64 k), (3, .pointer (some ⟨b4, 0, none⟩)), (4, .pointer (some ⟨b5, 0, none⟩)), (20, .bool ((p.rows != q.rows) || (p.cols != q.cols)))] ∧ w2 = w) ?_ ?_
 ·refine wp_region_lit ?_
  refine l_ev hf trivial rfl rfl (ev_fieldB hf rfl fd_141_0 (m := 0) rfl) ?_; intro a hf
  refine l_ev hf trivial rfl rfl (ev_load1 hf rfl t1_3 (hB4.at 0)) ?_; intro a hf
  refine l_ev hf trivial rfl rfl (ev_fieldB hf rfl fd_141_0 (m := 0) rfl) ?_; intro a hf
  refine l_ev hf trivial rfl rfl (ev_load1 hf rfl t1_3 (hB5.at 0)) ?_; intro a hf
  refine l_ev hf trivial rfl rfl (ev_neq hf rfl rfl) ?_; intro a hf
  refine l_ev hf trivial rfl rfl (ev_move hf rfl) ?_; intro a hf
  refine g_split hf (t := 14) rfl (fun hg8 => ?_) (fun hg8 => ?_)
  ·refine l_pass hf ⟨_, _, rfl, rfl, hg8⟩ rfl rfl ?_; intro a hf
   refine l_pass hf ⟨_, _, rfl, rfl, hg8⟩ rfl rfl ?_; intro a hf
   refine l_pass hf ⟨_, _, rfl, rfl, hg8⟩ rfl rfl ?_; intro a hf
   refine l_pass hf ⟨_, _, rfl, rfl, hg8⟩ rfl rfl ?_; intro a hf
   refine l_pass hf ⟨_, _, rfl, rfl, hg8⟩ rfl rfl ?_; intro a hf
   refine l_ev hf trivial rfl rfl (ev_pickT hf rfl hg8 rfl) ?_; intro a hf
   refine wpList_nil ?_
   exact ⟨hf.sub ⟨rfl, rfl, rfl, look_bool rfl (by first | rfl | simp [hg8]), trivial⟩, rfl⟩
  ·refine l_ev hf ⟨_, _, rfl, rfl, hg8⟩ rfl rfl (ev_fieldB hf rfl fd_141_1 (m := 1) rfl) ?_; intro a hf
   refine l_ev hf ⟨_, _, rfl, rfl, hg8⟩ rfl rfl (ev_load1 hf rfl t1_3 (hB4.at 1)) ?_; intro a hf
   refine l_ev hf ⟨_, _, rfl, rfl, hg8⟩ rfl rfl (ev_fieldB hf rfl fd_141_1 (m := 1) rfl) ?_; intro a hf
   refine l_ev hf ⟨_, _, rfl, rfl, hg8⟩ rfl rfl (ev_load1 hf rfl t1_3 (hB5.at 1)) ?_; intro a hf
   refine l_ev hf ⟨_, _, rfl, rfl, hg8⟩ rfl rfl (ev_neq hf rfl rfl) ?_; intro a hf
   refine l_ev hf trivial rfl rfl (ev_pickF hf rfl hg8 rfl) ?_; intro a hf
   refine wpList_nil ?_
   exact ⟨hf.sub ⟨rfl, rfl, rfl, look_bool rfl (by first | rfl | simp [hg8]), trivial⟩, rfl⟩
 rintro a _ ⟨hf, rfl⟩
 refine hK7 _ _ ?_; try clear hK7 K7
 refine c_if hf rfl (fun hc9 => ?_) (fun hc9 => ?_)
 ·have hc9b := hc9
  have hn : turnedS p q k = false := by have h9 : ¬ (p.rows = q.rows ∧ p.cols = q.cols) := (by intro h8; revert hc9; simp [h8.1, h8.2]); unfold turnedS; revert h9; by_cases e1 : p.rows = q.rows <;> by_cases e2 : p.cols = q.cols <;> simp [e1, e2]
  refine wp_seq_k ?_; intro K10 hK10
  refine wp_region_lit ?_
  refine l_ev hf trivial rfl rfl (ev_assign hf rfl) ?_; intro a hf
  refine wpList_nil ?_
  refine hK10 _ _ ?_; try clear hK10 K10
  refine wp_ret ?_
  refine x_retS ?_
  refine c_ret hf (res1 hf rfl rfl) ?_
  exact ⟨by rw [hn], hW⟩
 ·have hc9b := hc9
  have hrc : p.rows = q.rows ∧ p.cols = q.cols := by revert hc9; by_cases e1 : p.rows = q.rows <;> by_cases e2 : p.cols = q.cols <;> simp [e1, e2]
  refine wp_skip ?_
  refine hK6 _ _ ?_; try clear hK6 K6
  refine wp_seq_k ?_; intro K11 hK11
  refine wp_seq_k ?_; intro K12 hK12
  refine wp_region_lit ?_
  refine l_ev hf trivial rfl rfl (ev_fieldB hf rfl fd_141_2 (m := 2) rfl) ?_; intro a hf
  refine l_ev hf trivial rfl rfl (ev_load1 hf rfl t1_139 (hB5.at 2)) ?_; intro a hf
  refine l_ev hf trivial rfl rfl (ev_len hf rfl sl_139) ?_; intro a hf
  refine l_ev hf trivial rfl rfl (ev_move hf rfl) ?_; intro a hf
  refine wpList_nil ?_
  refine hK12 _ _ ?_; try clear hK12 K12
  refine wp_block ?_
  refine c_loop (σ := Nat) (fun (i : Nat) (a : Act) (w : World) => Fr a 42 [(2, .int .i64 k), (3, .pointer (some ⟨b4, 0, none⟩)), (22, .slice Aq q.cells.length cq), (23, .int .i64 (q.cells.length : Int)), (24, .int .i64 (i : Int))] ∧ (i ≤ q.cells.length) ∧ (p.cells.take i = (q.cells.map (dTurn k)).take i) ∧ Blk w b4 141 [.int .i64 p.rows, .int .i64 p.cols, .slice Ap p.cells.length cp] ∧ Blk w b5 141 [.int .i64 q.rows, .int .i64 q.cols, .slice Aq q.cells.length cq] ∧ Rd w w0.heap.size 189 encD Ap p.cells ∧ Rd w w0.heap.size 189 encD Aq q.cells ∧ Below w0.heap.size w0 w) (fun (i : Nat) => q.cells.length - i) 0 ?_ ?_
  · exact ⟨hf.sub ⟨rfl, rfl, rfl, rfl, rfl, trivial⟩, (Nat.zero_le _), (by simp), hB4, hB5, hr_p, hr_q, hW⟩
  rintro i a w3 ⟨hf, hi, hpre, hB4, hB5, hr_p, hr_q, hW⟩
  refine wp_seq_k ?_; intro K13 hK13
  refine wp_region_lit ?_
  refine l_ev hf trivial rfl rfl (ev_lss hf rfl rfl) ?_; intro a hf
  refine wpList_nil ?_
  refine hK13 _ _ ?_; try clear hK13 K13
  refine wp_seq_k ?_; intro K14 hK14
  refine c_if hf rfl (fun hc15 => ?_) (fun hc15 => ?_)
  ·have hc15b := hc15
   have hc15 := of_decide_eq_true hc15
   obtain ⟨u16, hu16⟩ := getElem_ex (l := q.cells) (k := i) (by omega)
   obtain ⟨v9, hv9⟩ := getElem_ex (l := p.cells) (k := i) (by omega)
   refine wp_skip ?_
   refine hK14 _ _ ?_; try clear hK14 K14
   refine wp_seq_k ?_; intro K17 hK17
   refine wp_block ?_
   refine wp_seq_k ?_; intro K18 hK18
   refine wp_region_lit ?_
   refine l_ev hf trivial rfl rfl (ev_move hf rfl) ?_; intro a hf
   refine l_index (k := i) (u := u16) (enc := encD) (l := q.cells) hf trivial rfl rfl rfl sl_139 sz_189 encD_len hr_q hu16 rfl ?_; intro a p20 hat19 hf
   refine l_ev hf trivial rfl rfl (ev_loadN (l := [.int .i64 u16.num.a, .int .i64 u16.num.b, .int .i64 u16.num.c, .int .i64 u16.num.d, .int .i64 u16.exp]) hf rfl tN_189 hat19 rfl) ?_; intro a hf
   refine l_eff hf trivial rfl rfl (ef_alloc (zs := [.int .i64 0, .int .i64 0, .int .i64 0, .int .i64 0, .int .i64 0]) z_189 rfl) ?_; rintro a _ w4 ⟨b21, rfl, hl21, hE, hB21⟩ hf
   have hlo21 := Nat.le_trans hW.size hl21
   have haw1_21 := hr_p.away hl21
   have haw2_21 := hr_q.away hl21
   replace hB4 := hB4.below hE
   replace hB5 := hB5.below hE
   replace hr_p := hr_p.below hE
   replace hr_q := hr_q.below hE
   replace hW := hW.trans (hE.mono hW.size)
   clear hE
   refine l_ev hf trivial rfl rfl (ev_assign hf rfl) ?_; intro a hf
   refine l_eff0 hf trivial rfl (ef_store (vs := [.int .i64 u16.num.a, .int .i64 u16.num.b, .int .i64 u16.num.c, .int .i64 u16.num.d, .int .i64 u16.exp]) (l' := [.int .i64 u16.num.a, .int .i64 u16.num.b, .int .i64 u16.num.c, .int .i64 u16.num.d, .int .i64 u16.exp]) hf rfl rfl sz_189 hB21 rfl rfl rfl rfl rfl) ?_; rintro a _ w5 ⟨ho, hb⟩ hf
   have hold := hB21
   replace hB4 := hB4.only ho (Blk.ne hB4 hold rfl)
   replace hB5 := hB5.only ho (Blk.ne hB5 hold rfl)
   replace hr_p := hr_p.only ho hlo21
   replace hr_q := hr_q.only ho hlo21
   replace hW := Below.only hW ho hlo21
   clear hold
   have hB21 := hb
   clear hb ho
   refine wpList_nil ?_
   refine hK18 _ _ ?_; try clear hK18 K18
   refine wp_seq_k ?_; intro K22 hK22
   refine wp_region_lit ?_
   refine l_ev hf trivial rfl rfl (ev_fieldB hf rfl fd_189_0 (m := 0) rfl) ?_; intro a hf
   refine l_ev hf trivial rfl rfl (ev_loadN (l := [.int .i64 u16.num.a, .int .i64 u16.num.b, .int .i64 u16.num.c, .int .i64 u16.num.d]) hf rfl tN_187 ((hB21.at 0).take 4) rfl) ?_; intro a hf
   refine l_ev hf trivial rfl rfl (ev_move hf rfl) ?_; intro a hf
   refine l_eff hf trivial rfl rfl (ef_call (vs := [.agg #[.int .i64 u16.num.a, .int .i64 u16.num.b, .int .i64 u16.num.c, .int .i64 u16.num.d], .int .i64 k]) hf rfl ff_210 (F210 _ u16.num k)) ?_; rintro a _ w6 ⟨rfl, hE⟩ hf
   replace hB4 := hB4.below hE
   replace hB5 := hB5.below hE
   replace hB21 := hB21.below hE
   replace hr_p := hr_p.below hE
   replace hr_q := hr_q.below hE
   replace hW := hW.trans (hE.mono hW.size)
   clear hE
   refine l_ev hf trivial rfl rfl (ev_fieldB hf rfl fd_189_0 (m := 0) rfl) ?_; intro a hf
   refine l_eff0 hf trivial rfl (ef_store (vs := [.int .i64 ((rTurn u16.num k).a), .int .i64 ((rTurn u16.num k).b), .int .i64 ((rTurn u16.num k).c), .int .i64 ((rTurn u16.num k).d)]) (l' := [.int .i64 ((rTurn u16.num k).a), .int .i64 ((rTurn u16.num k).b), .int .i64 ((rTurn u16.num k).c), .int .i64 ((rTurn u16.num k).d), .int .i64 u16.exp]) hf rfl rfl sz_187 hB21 rfl rfl rfl rfl rfl) ?_; rintro a _ w7 ⟨ho, hb⟩ hf
   have hold := hB21
   replace hB4 := hB4.only ho (Blk.ne hB4 hold rfl)
   replace hB5 := hB5.only ho (Blk.ne hB5 hold rfl)
   replace hr_p := hr_p.only ho hlo21
   replace hr_q := hr_q.only ho hlo21
   replace hW := Below.only hW ho hlo21
   clear hold
   have hB21 := hb
   clear hb ho
   refine wpList_nil ?_
   refine hK22 _ _ ?_; try clear hK22 K22
   refine wp_seq_k ?_; intro K23 hK23
   refine wp_draw none (fun _ => false) mixed ?_
   intro w8 hE
   replace hB4 := hB4.below hE
   replace hB5 := hB5.below hE
   replace hB21 := hB21.below hE
   replace hr_p := hr_p.below hE
   replace hr_q := hr_q.below hE
   replace hW := hW.trans (hE.mono hW.size)
   clear hE
   refine s_ev0 0 rfl (by kernel_rfl) hf trivial rfl rfl (fun _ => ev_fieldB hf rfl fd_141_2 (m := 2) rfl) ?_; intro a hf
   refine s_ev 1 rfl (by kernel_rfl) (by kernel_rfl) hf trivial rfl rfl (ev_load1 hf rfl t1_139 (hB4.at 2)) ?_; intro a hf
   refine s_ev0 2 rfl (by kernel_rfl) hf trivial rfl rfl (fun _ => ev_move hf rfl) ?_; intro a hf
   refine s_index (k := i) (u := v9) (enc := encD) (l := p.cells) 3 rfl (by kernel_rfl) (by kernel_rfl) hf trivial rfl rfl rfl sl_139 sz_189 encD_len hr_p hv9 rfl ?_; intro a p25 hat24 hf
   refine s_ev 4 rfl (by kernel_rfl) (by kernel_rfl) hf trivial rfl rfl (ev_loadN (l := [.int .i64 v9.num.a, .int .i64 v9.num.b, .int .i64 v9.num.c, .int .i64 v9.num.d, .int .i64 v9.exp]) hf rfl tN_189 hat24 rfl) ?_; intro a hf
   refine s_ev 5 rfl (by kernel_rfl) (by kernel_rfl) hf trivial rfl rfl (ev_loadN (l := [.int .i64 ((rTurn u16.num k).a), .int .i64 ((rTurn u16.num k).b), .int .i64 ((rTurn u16.num k).c), .int .i64 ((rTurn u16.num k).d), .int .i64 u16.exp]) hf rfl tN_189 (hB21.at 0) rfl) ?_; intro a hf
   refine s_ev0 6 rfl (by kernel_rfl) hf trivial rfl rfl (fun _ => ev_neqS hf rfl rfl gd_189 (fun w => eqD 9997 v9 (⟨(rTurn u16.num k), u16.exp⟩ : Dy) w)) ?_; intro a hf
   refine s_done (by kernel_rfl) ?_
   refine hK23 _ _ ?_; try clear hK23 K23
   refine c_if hf rfl (fun hc26 => ?_) (fun hc26 => ?_)
   ·have hc26b := hc26
    have hne : ¬ v9 = dTurn k u16 := by intro e9; revert hc26; rw [e9]; simp [dTurn]
    have hn : turnedS p q k = false := by have h8 : ¬ p.cells = q.cells.map (dTurn k) := (by intro e9; have h7 := map_get (f := dTurn k) hu16; rw [← e9, hv9] at h7; injection h7 with h7; exact hne h7); simp [turnedS, h8]
    refine wp_seq_k ?_; intro K27 hK27
    refine wp_region_lit ?_
    refine l_ev hf trivial rfl rfl (ev_assign hf rfl) ?_; intro a hf
    refine wpList_nil ?_
    refine hK27 _ _ ?_; try clear hK27 K27
    refine wp_ret ?_
    refine x_retB ?_
    refine x_retS ?_
    refine x_retS ?_
    refine x_retB ?_
    refine x_retS ?_
    refine c_ret hf (res1 hf rfl rfl) ?_
    exact ⟨by rw [hn], hW⟩
   ·have hc26b := hc26
    have he9 : v9 = dTurn k u16 := by simpa [dTurn] using hc26
    refine wp_skip ?_
    refine x_norm ?_
    refine hK17 _ _ ?_; try clear hK17 K17
    refine wp_region_lit ?_
    refine l_ev hf trivial rfl rfl (ev_addx hf rfl rfl (by omega) (by omega)) ?_; intro a hf
    refine l_ev hf trivial rfl rfl (ev_move hf rfl) ?_; intro a hf
    refine wpList_nil ?_
    refine x_thenN ?_
    exact ⟨i + 1, ⟨hf.sub ⟨rfl, rfl, rfl, rfl, rfl, trivial⟩, (by omega), (take_eq hpre hv9 (map_get hu16) he9), hB4, hB5, hr_p, hr_q, hW⟩, (by omega)⟩
  ·have hc15b := hc15
   have hc15 := of_decide_eq_false hc15
   refine wp_exit ?_
   refine x_exS ?_
   refine x_exS ?_
   refine x_exit ?_
   refine hK11 _ _ ?_; try clear hK11 K11
   refine wp_seq_k ?_; intro K28 hK28
   refine wp_region_lit ?_
   refine l_ev hf trivial rfl rfl (ev_assign hf rfl) ?_; intro a hf
   refine wpList_nil ?_
   refine hK28 _ _ ?_; try clear hK28 K28
   refine wp_ret ?_
   refine c_ret hf (res1 hf rfl rfl) ?_
   have he : p.cells = q.cells.map (dTurn k) := by rw [List.take_of_length_le (by omega), List.take_of_length_le (by simp; omega)] at hpre; exact hpre
   exact ⟨by simp [turnedS, hrc.1, hrc.2, ← he], hW⟩
theorem F130 (w0 : World) (p : Mx) (Ap : Option Addr) (cp : Nat) (hr_p : Rd w0 w0.heap.size 189 encD Ap p.cells) (q : Mx) (Aq : Option Addr) (cq : Nat) (hr_q : Rd w0 w0.heap.size 189 encD Aq q.cells) (hpl : p.cells.length = q.cells.length) (hln : q.cells.length ≤ 2305843009213693951) : Ret Tryz.prog 130 [.agg #[.int .i64 p.rows, .int .i64 p.cols, .slice Ap p.cells.length cp], .agg #[.int .i64 q.rows, .int .i64 q.cols, .slice Aq q.cells.length cq]] w0 (fun v w => ∃ i : Int, v = .tuple #[.int .i64 i, .bool (phaseS p q)] ∧ Below w0.heap.size w0 w) := by
 refine enter Tryz.func130 rfl 16 rfl rfl ?_
 intro a hf
 have hW : Below w0.heap.size w0 w0 := Below.refl _ _
 refine wp_seq_k ?_; intro K3 hK3
 refine wp_region_lit ?_
 refine l_eff hf trivial rfl rfl (ef_box (zs := [.int .i64 p.rows, .int .i64 p.cols, .slice Ap p.cells.length cp]) hf rfl rfl) ?_; rintro a _ w1 ⟨b4, rfl, hl4, hE, hB4⟩ hf
 have hlo4 := Nat.le_trans hW.size hl4
 replace hr_p := hr_p.below hE
 replace hr_q := hr_q.below hE
 replace hW := hW.trans (hE.mono hW.size)
 clear hE
 refine l_eff hf trivial rfl rfl (ef_box (zs := [.int .i64 q.rows, .int .i64 q.cols, .slice Aq q.cells.length cq]) hf rfl rfl) ?_; rintro a _ w2 ⟨b5, rfl, hl5, hE, hB5⟩ hf
 have hne4_5 : b4 ≠ b5 := by have := hB4.lt; omega
 have hlo5 := Nat.le_trans hW.size hl5
 replace hB4 := hB4.below hE
 replace hr_p := hr_p.below hE
 replace hr_q := hr_q.below hE
 replace hW := hW.trans (hE.mono hW.size)
 clear hE
 refine l_ev hf trivial rfl rfl (ev_assign hf rfl) ?_; intro a hf
 refine l_ev hf trivial rfl rfl (ev_assign hf rfl) ?_; intro a hf
 refine wpList_nil ?_
 refine hK3 _ _ ?_; try clear hK3 K3
 refine wp_seq_k ?_; intro K6 hK6
 refine wp_seq_k ?_; intro K7 hK7
 refine wp_region_lit ?_
 refine l_ev hf trivial rfl rfl (ev_assign hf rfl) ?_; intro a hf
 refine wpList_nil ?_
 refine hK7 _ _ ?_; try clear hK7 K7
 refine wp_block ?_
 refine c_loop (σ := Nat) (fun (k : Nat) (a : Act) (w : World) => Fr a 16 [(2, .pointer (some ⟨b4, 0, none⟩)), (3, .pointer (some ⟨b5, 0, none⟩)), (6, .int .i64 (k : Int))] ∧ (k ≤ 8) ∧ (∀ j < k, turnedS p q ((j : Nat) : Int) = false) ∧ Blk w b4 141 [.int .i64 p.rows, .int .i64 p.cols, .slice Ap p.cells.length cp] ∧ Blk w b5 141 [.int .i64 q.rows, .int .i64 q.cols, .slice Aq q.cells.length cq] ∧ Rd w w0.heap.size 189 encD Ap p.cells ∧ Rd w w0.heap.size 189 encD Aq q.cells ∧ Below w0.heap.size w0 w) (fun (k : Nat) => 8 - k) 0 ?_ ?_
 · exact ⟨hf.sub ⟨rfl, rfl, rfl, trivial⟩, (by omega), (fun j hj => by omega), hB4, hB5, hr_p, hr_q, hW⟩
 rintro k a w3 ⟨hf, hk, hall, hB4, hB5, hr_p, hr_q, hW⟩
 refine wp_seq_k ?_; intro K8 hK8
 refine wp_seq_k ?_; intro K9 hK9
 refine wp_region_lit ?_
 refine l_ev hf trivial rfl rfl (ev_move hf rfl) ?_; intro a hf
 refine l_ev hf trivial rfl rfl (ev_lss hf rfl rfl) ?_; intro a hf
 refine wpList_nil ?_
 refine hK9 _ _ ?_; try clear hK9 K9
 refine c_if hf rfl (fun hc10 => ?_) (fun hc10 => ?_)
 ·have hc10b := hc10
  have hc10 := of_decide_eq_true hc10
  have hk8 : (k : Int) < 8 := hc10
  refine wp_skip ?_
  refine hK8 _ _ ?_; try clear hK8 K8
  refine wp_seq_k ?_; intro K11 hK11
  refine wp_block ?_
  refine wp_seq_k ?_; intro K12 hK12
  refine wp_region_lit ?_
  refine l_ev hf trivial rfl rfl (ev_loadN (l := [.int .i64 p.rows, .int .i64 p.cols, .slice Ap p.cells.length cp]) hf rfl tN_141 (hB4.at 0) rfl) ?_; intro a hf
  refine l_ev hf trivial rfl rfl (ev_loadN (l := [.int .i64 q.rows, .int .i64 q.cols, .slice Aq q.cells.length cq]) hf rfl tN_141 (hB5.at 0) rfl) ?_; intro a hf
  refine l_ev hf trivial rfl rfl (ev_move hf rfl) ?_; intro a hf
  refine l_eff hf trivial rfl rfl (ef_call (vs := [.agg #[.int .i64 p.rows, .int .i64 p.cols, .slice Ap p.cells.length cp], .agg #[.int .i64 q.rows, .int .i64 q.cols, .slice Aq q.cells.length cq], .int .i64 (k : Int)]) hf rfl ff_173 (F173 _ p Ap cp hr_p.top q Aq cq hr_q.top (k : Int) hpl hln)) ?_; rintro a _ w4 ⟨rfl, hE⟩ hf
  replace hB4 := hB4.below hE
  replace hB5 := hB5.below hE
  replace hr_p := hr_p.below hE
  replace hr_q := hr_q.below hE
  replace hW := hW.trans (hE.mono hW.size)
  clear hE
  refine wpList_nil ?_
  refine hK12 _ _ ?_; try clear hK12 K12
  refine c_if hf rfl (fun hc13 => ?_) (fun hc13 => ?_)
  ·have hc13b := hc13
   have hT : turnedS p q (k : Int) = true := hc13
   refine wp_seq_k ?_; intro K14 hK14
   refine wp_region_lit ?_
   refine l_ev hf trivial rfl rfl (ev_move hf rfl) ?_; intro a hf
   refine l_ev hf trivial rfl rfl (ev_assign hf rfl) ?_; intro a hf
   refine l_ev hf trivial rfl rfl (ev_assign hf rfl) ?_; intro a hf
   refine wpList_nil ?_
   refine hK14 _ _ ?_; try clear hK14 K14
   refine wp_ret ?_
   refine x_retB ?_
   refine x_retS ?_
   refine x_retS ?_
   refine x_retB ?_
   refine x_retS ?_
   refine c_ret hf (res2 hf rfl rfl rfl) ?_
   exact ⟨_, by rw [phaseS, range_any (f := fun k => turnedS p q ((k : Nat) : Int)) (k := k) (by omega) hT], hW⟩
  ·have hc13b := hc13
   have hT : turnedS p q (k : Int) = false := hc13
   refine wp_skip ?_
   refine x_norm ?_
   refine hK11 _ _ ?_; try clear hK11 K11
   refine wp_region_lit ?_
   refine l_ev hf trivial rfl rfl (ev_move hf rfl) ?_; intro a hf
   refine l_ev hf trivial rfl rfl (ev_addx hf rfl rfl (by omega) (by omega)) ?_; intro a hf
   refine l_ev hf trivial rfl rfl (ev_assign hf rfl) ?_; intro a hf
   refine wpList_nil ?_
   refine x_thenN ?_
   exact ⟨k + 1, ⟨hf.sub ⟨rfl, rfl, rfl, trivial⟩, (by omega), (fun j hj => by rcases Nat.lt_or_ge j k with h9 | h9; exact hall j h9; obtain rfl : j = k := (by omega); exact hT), hB4, hB5, hr_p, hr_q, hW⟩, (by omega)⟩
 ·have hc10b := hc10
  have hc10 := of_decide_eq_false hc10
  refine wp_exit ?_
  refine x_exS ?_
  refine x_exS ?_
  refine x_exit ?_
  refine hK6 _ _ ?_; try clear hK6 K6
  refine wp_seq_k ?_; intro K15 hK15
  refine wp_region_lit ?_
  refine l_ev hf trivial rfl rfl (ev_assign hf rfl) ?_; intro a hf
  refine l_ev hf trivial rfl rfl (ev_assign hf rfl) ?_; intro a hf
  refine wpList_nil ?_
  refine hK15 _ _ ?_; try clear hK15 K15
  refine wp_ret ?_
  refine c_ret hf (res2 hf rfl rfl rfl) ?_
  exact ⟨_, by rw [phaseS, range_none (fun j hj => hall j (by omega))], hW⟩
end Go.Proofs.YtfgnmflfiobkmaaGreat
set_option maxRecDepth 4000
namespace Go.Proofs.YtfgnmflfiobkmaaGreat
open Go.RowKit
theorem F101 (w0 : World) (n : Int) (g : Gt) (hn : 1 ≤ n ∧ n ≤ 5) : Ret Tryz.prog 101 [.int .i64 n, .agg #[.int .i64 g.k, .int .i64 g.a, .int .i64 g.b]] w0 (fun v w => v = .bool (gOk n g) ∧ Below w0.heap.size w0 w) := by
 refine enter Tryz.func101 rfl 55 rfl rfl ?_
 intro a hf
 have hW : Below w0.heap.size w0 w0 := Below.refl _ _
 refine wp_seq_k ?_; intro K1 hK1
 refine wp_region_lit ?_
 refine l_eff hf trivial rfl rfl (ef_box (zs := [.int .i64 g.k, .int .i64 g.a, .int .i64 g.b]) hf rfl rfl) ?_; rintro a _ w1 ⟨b2, rfl, hl2, hE, hB2⟩ hf
 have hlo2 := Nat.le_trans hW.size hl2
 replace hW := hW.trans (hE.mono hW.size)
 clear hE
 refine l_ev hf trivial rfl rfl (ev_assign hf rfl) ?_; intro a hf
 refine wpList_nil ?_
 refine hK1 _ _ ?_; try clear hK1 K1
 refine wp_seq_k ?_; intro K3 hK3
 refine wp_block ?_
 refine wp_seq_k ?_; intro K4 hK4
 refine wp_region_lit ?_
 refine l_ev hf trivial rfl rfl (ev_fieldB hf rfl fd_107_0 (m := 0) rfl) ?_; intro a hf
 refine l_ev hf trivial rfl rfl (ev_load1 hf rfl t1_3 (hB2.at 0)) ?_; intro a hf
 refine l_eff hf trivial rfl rfl (ef_call (vs := [.int .i64 g.k, .int .i64 1, .int .i64 8]) hf rfl ff_85 (F85 _ g.k 1 8)) ?_; rintro a _ _ ⟨rfl, rfl⟩ hf
 refine l_ev hf trivial rfl rfl (ev_assign hf rfl) ?_; intro a hf
 refine wpList_nil ?_
 refine hK4 _ _ ?_; try clear hK4 K4
 refine c_if hf rfl (fun hc5 => ?_) (fun hc5 => ?_)
 ·have hc5b := hc5
  have hf0 := gOk1 hn hc5
  refine wp_seq_k ?_; intro K6 hK6
  refine c_cut (fun a w => Fr a 55 [(4, .bool ((inR g.a 0 (n - 1)) && (g.b == 0)))] ∧ w1 = w) ?_ ?_
  ·refine wp_region_lit ?_
   refine l_ev hf trivial rfl rfl (ev_fieldB hf rfl fd_107_1 (m := 1) rfl) ?_; intro a hf
   refine l_ev hf trivial rfl rfl (ev_load1 hf rfl t1_3 (hB2.at 1)) ?_; intro a hf
   refine l_ev hf trivial rfl rfl (ev_move hf rfl) ?_; intro a hf
   refine l_ev hf trivial rfl rfl (ev_subx hf rfl rfl (by omega) (by omega)) ?_; intro a hf
   refine l_eff hf trivial rfl rfl (ef_call (vs := [.int .i64 g.a, .int .i64 0, .int .i64 (n - 1)]) hf rfl ff_85 (F85 _ g.a 0 (n - 1))) ?_; rintro a _ _ ⟨rfl, rfl⟩ hf
   refine l_ev hf trivial rfl rfl (ev_move hf rfl) ?_; intro a hf
   refine g_split hf (t := 14) rfl (fun hg7 => ?_) (fun hg7 => ?_)
   ·refine l_ev hf ⟨_, _, rfl, rfl, hg7⟩ rfl rfl (ev_fieldB hf rfl fd_107_2 (m := 2) rfl) ?_; intro a hf
    refine l_ev hf ⟨_, _, rfl, rfl, hg7⟩ rfl rfl (ev_load1 hf rfl t1_3 (hB2.at 2)) ?_; intro a hf
    refine l_ev hf ⟨_, _, rfl, rfl, hg7⟩ rfl rfl (ev_eql hf rfl rfl) ?_; intro a hf
    refine l_ev hf trivial rfl rfl (ev_pickT hf rfl hg7 rfl) ?_; intro a hf
    refine l_ev hf trivial rfl rfl (ev_assign hf rfl) ?_; intro a hf
    refine wpList_nil ?_
    exact ⟨hf.sub ⟨look_bool rfl (by first | rfl | simp [hc5b, hg7]), trivial⟩, rfl⟩
   ·refine l_pass hf ⟨_, _, rfl, rfl, hg7⟩ rfl rfl ?_; intro a hf
    refine l_pass hf ⟨_, _, rfl, rfl, hg7⟩ rfl rfl ?_; intro a hf
    refine l_pass hf ⟨_, _, rfl, rfl, hg7⟩ rfl rfl ?_; intro a hf
    refine l_ev hf trivial rfl rfl (ev_pickF hf rfl hg7 rfl) ?_; intro a hf
    refine l_ev hf trivial rfl rfl (ev_assign hf rfl) ?_; intro a hf
    refine wpList_nil ?_
    exact ⟨hf.sub ⟨look_bool rfl (by first | rfl | simp [hc5b, hg7]), trivial⟩, rfl⟩
  rintro a _ ⟨hf, rfl⟩
  refine hK6 _ _ ?_; try clear hK6 K6
  refine wp_ret ?_
  refine x_retB ?_
  refine x_retS ?_
  refine c_ret hf (res1 hf rfl rfl) ?_
  exact ⟨by rw [hf0], hW⟩
 ·have hc5b := hc5
  have h18 := hc5
  refine wp_seq_k ?_; intro K8 hK8
  refine wp_region_lit ?_
  refine l_ev hf trivial rfl rfl (ev_fieldB hf rfl fd_107_0 (m := 0) rfl) ?_; intro a hf
  refine l_ev hf trivial rfl rfl (ev_load1 hf rfl t1_3 (hB2.at 0)) ?_; intro a hf
  refine l_eff hf trivial rfl rfl (ef_call (vs := [.int .i64 g.k, .int .i64 9, .int .i64 11]) hf rfl ff_85 (F85 _ g.k 9 11)) ?_; rintro a _ _ ⟨rfl, rfl⟩ hf
  refine l_ev hf trivial rfl rfl (ev_assign hf rfl) ?_; intro a hf
  refine wpList_nil ?_
  refine hK8 _ _ ?_; try clear hK8 K8
  refine c_if hf rfl (fun hc9 => ?_) (fun hc9 => ?_)
  ·have hc9b := hc9
   have hf0 := gOk2 hn hc9
   refine wp_seq_k ?_; intro K10 hK10
   refine c_cut (fun a w => Fr a 55 [(4, .bool (((inR g.a 0 (n - 1)) && (inR g.b 0 (n - 1))) && (g.a != g.b)))] ∧ w1 = w) ?_ ?_
   ·refine wp_region_lit ?_
    refine l_ev hf trivial rfl rfl (ev_fieldB hf rfl fd_107_1 (m := 1) rfl) ?_; intro a hf
    refine l_ev hf trivial rfl rfl (ev_load1 hf rfl t1_3 (hB2.at 1)) ?_; intro a hf
    refine l_ev hf trivial rfl rfl (ev_move hf rfl) ?_; intro a hf
    refine l_ev hf trivial rfl rfl (ev_subx hf rfl rfl (by omega) (by omega)) ?_; intro a hf
    refine l_eff hf trivial rfl rfl (ef_call (vs := [.int .i64 g.a, .int .i64 0, .int .i64 (n - 1)]) hf rfl ff_85 (F85 _ g.a 0 (n - 1))) ?_; rintro a _ _ ⟨rfl, rfl⟩ hf
    refine l_ev hf trivial rfl rfl (ev_move hf rfl) ?_; intro a hf
    refine g_split hf (t := 28) rfl (fun hg11 => ?_) (fun hg11 => ?_)
    ·refine l_ev hf ⟨_, _, rfl, rfl, hg11⟩ rfl rfl (ev_fieldB hf rfl fd_107_2 (m := 2) rfl) ?_; intro a hf
     refine l_ev hf ⟨_, _, rfl, rfl, hg11⟩ rfl rfl (ev_load1 hf rfl t1_3 (hB2.at 2)) ?_; intro a hf
     refine l_ev hf ⟨_, _, rfl, rfl, hg11⟩ rfl rfl (ev_move hf rfl) ?_; intro a hf
     refine l_ev hf ⟨_, _, rfl, rfl, hg11⟩ rfl rfl (ev_subx hf rfl rfl (by omega) (by omega)) ?_; intro a hf
     refine l_eff hf ⟨_, _, rfl, rfl, hg11⟩ rfl rfl (ef_call (vs := [.int .i64 g.b, .int .i64 0, .int .i64 (n - 1)]) hf rfl ff_85 (F85 _ g.b 0 (n - 1))) ?_; rintro a _ _ ⟨rfl, rfl⟩ hf
     refine l_ev hf trivial rfl rfl (ev_pickT hf rfl hg11 rfl) ?_; intro a hf
     refine l_ev hf trivial rfl rfl (ev_move hf rfl) ?_; intro a hf
     refine g_split hf (t := 35) rfl (fun hg12 => ?_) (fun hg12 => ?_)
     ·refine l_ev hf ⟨_, _, rfl, rfl, hg12⟩ rfl rfl (ev_fieldB hf rfl fd_107_1 (m := 1) rfl) ?_; intro a hf
      refine l_ev hf ⟨_, _, rfl, rfl, hg12⟩ rfl rfl (ev_load1 hf rfl t1_3 (hB2.at 1)) ?_; intro a hf
      refine l_ev hf ⟨_, _, rfl, rfl, hg12⟩ rfl rfl (ev_fieldB hf rfl fd_107_2 (m := 2) rfl) ?_; intro a hf
      refine l_ev hf ⟨_, _, rfl, rfl, hg12⟩ rfl rfl (ev_load1 hf rfl t1_3 (hB2.at 2)) ?_; intro a hf
      refine l_ev hf ⟨_, _, rfl, rfl, hg12⟩ rfl rfl (ev_neq hf rfl rfl) ?_; intro a hf
      refine l_ev hf trivial rfl rfl (ev_pickT hf rfl hg12 rfl) ?_; intro a hf
      refine l_ev hf trivial rfl rfl (ev_assign hf rfl) ?_; intro a hf
      refine wpList_nil ?_
      exact ⟨hf.sub ⟨look_bool rfl (by first | rfl | simp [hc5b, hc9b, hg11, hg12]), trivial⟩, rfl⟩
     ·refine l_pass hf ⟨_, _, rfl, rfl, hg12⟩ rfl rfl ?_; intro a hf
      refine l_pass hf ⟨_, _, rfl, rfl, hg12⟩ rfl rfl ?_; intro a hf
      refine l_pass hf ⟨_, _, rfl, rfl, hg12⟩ rfl rfl ?_; intro a hf
      refine l_pass hf ⟨_, _, rfl, rfl, hg12⟩ rfl rfl ?_; intro a hf
      refine l_pass hf ⟨_, _, rfl, rfl, hg12⟩ rfl rfl ?_; intro a hf
      refine l_ev hf trivial rfl rfl (ev_pickF hf rfl hg12 rfl) ?_; intro a hf
      refine l_ev hf trivial rfl rfl (ev_assign hf rfl) ?_; intro a hf
      refine wpList_nil ?_
      exact ⟨hf.sub ⟨look_bool rfl (by first | rfl | simp [hc5b, hc9b, hg11, hg12]), trivial⟩, rfl⟩
    ·refine l_pass hf ⟨_, _, rfl, rfl, hg11⟩ rfl rfl ?_; intro a hf
     refine l_pass hf ⟨_, _, rfl, rfl, hg11⟩ rfl rfl ?_; intro a hf
     refine l_pass hf ⟨_, _, rfl, rfl, hg11⟩ rfl rfl ?_; intro a hf
     refine l_pass hf ⟨_, _, rfl, rfl, hg11⟩ rfl rfl ?_; intro a hf
     refine l_pass hf ⟨_, _, rfl, rfl, hg11⟩ rfl rfl ?_; intro a hf
     refine l_ev hf trivial rfl rfl (ev_pickF hf rfl hg11 rfl) ?_; intro a hf
     refine l_ev hf trivial rfl rfl (ev_move hf rfl) ?_; intro a hf
     refine l_pass hf ⟨_, _, rfl, rfl, rfl⟩ rfl rfl ?_; intro a hf
     refine l_pass hf ⟨_, _, rfl, rfl, rfl⟩ rfl rfl ?_; intro a hf
     refine l_pass hf ⟨_, _, rfl, rfl, rfl⟩ rfl rfl ?_; intro a hf
     refine l_pass hf ⟨_, _, rfl, rfl, rfl⟩ rfl rfl ?_; intro a hf
     refine l_pass hf ⟨_, _, rfl, rfl, rfl⟩ rfl rfl ?_; intro a hf
     refine l_ev hf trivial rfl rfl (ev_pickF hf rfl rfl rfl) ?_; intro a hf
     refine l_ev hf trivial rfl rfl (ev_assign hf rfl) ?_; intro a hf
     refine wpList_nil ?_
     exact ⟨hf.sub ⟨look_bool rfl (by first | rfl | simp [hc5b, hc9b, hg11]), trivial⟩, rfl⟩
   rintro a _ ⟨hf, rfl⟩
   refine hK10 _ _ ?_; try clear hK10 K10
   refine wp_ret ?_
   refine x_retB ?_
   refine x_retS ?_
   refine c_ret hf (res1 hf rfl rfl) ?_
   exact ⟨by rw [hf0], hW⟩
  ·have hc9b := hc9
   have hf0 := gOk3 hn h18 hc9
   refine wp_skip ?_
   refine x_norm ?_
   refine hK3 _ _ ?_; try clear hK3 K3
   refine wp_seq_k ?_; intro K13 hK13
   refine c_cut (fun a w => Fr a 55 [(4, .bool (((g.k == 12) && (g.a == 0)) && (g.b == 0)))] ∧ w1 = w) ?_ ?_
   ·refine wp_region_lit ?_
    refine l_ev hf trivial rfl rfl (ev_fieldB hf rfl fd_107_0 (m := 0) rfl) ?_; intro a hf
    refine l_ev hf trivial rfl rfl (ev_load1 hf rfl t1_3 (hB2.at 0)) ?_; intro a hf
    refine l_ev hf trivial rfl rfl (ev_eql hf rfl rfl) ?_; intro a hf
    refine l_ev hf trivial rfl rfl (ev_move hf rfl) ?_; intro a hf
    refine g_split hf (t := 45) rfl (fun hg14 => ?_) (fun hg14 => ?_)
    ·refine l_ev hf ⟨_, _, rfl, rfl, hg14⟩ rfl rfl (ev_fieldB hf rfl fd_107_1 (m := 1) rfl) ?_; intro a hf
     refine l_ev hf ⟨_, _, rfl, rfl, hg14⟩ rfl rfl (ev_load1 hf rfl t1_3 (hB2.at 1)) ?_; intro a hf
     refine l_ev hf ⟨_, _, rfl, rfl, hg14⟩ rfl rfl (ev_eql hf rfl rfl) ?_; intro a hf
     refine l_ev hf trivial rfl rfl (ev_pickT hf rfl hg14 rfl) ?_; intro a hf
     refine l_ev hf trivial rfl rfl (ev_move hf rfl) ?_; intro a hf
     refine g_split hf (t := 50) rfl (fun hg15 => ?_) (fun hg15 => ?_)
     ·refine l_ev hf ⟨_, _, rfl, rfl, hg15⟩ rfl rfl (ev_fieldB hf rfl fd_107_2 (m := 2) rfl) ?_; intro a hf
      refine l_ev hf ⟨_, _, rfl, rfl, hg15⟩ rfl rfl (ev_load1 hf rfl t1_3 (hB2.at 2)) ?_; intro a hf
      refine l_ev hf ⟨_, _, rfl, rfl, hg15⟩ rfl rfl (ev_eql hf rfl rfl) ?_; intro a hf
      refine l_ev hf trivial rfl rfl (ev_pickT hf rfl hg15 rfl) ?_; intro a hf
      refine l_ev hf trivial rfl rfl (ev_assign hf rfl) ?_; intro a hf
      refine wpList_nil ?_
      exact ⟨hf.sub ⟨look_bool rfl (by first | rfl | simp [hc5b, hc9b, hg14, hg15]), trivial⟩, rfl⟩
     ·refine l_pass hf ⟨_, _, rfl, rfl, hg15⟩ rfl rfl ?_; intro a hf
      refine l_pass hf ⟨_, _, rfl, rfl, hg15⟩ rfl rfl ?_; intro a hf
      refine l_pass hf ⟨_, _, rfl, rfl, hg15⟩ rfl rfl ?_; intro a hf
      refine l_ev hf trivial rfl rfl (ev_pickF hf rfl hg15 rfl) ?_; intro a hf
      refine l_ev hf trivial rfl rfl (ev_assign hf rfl) ?_; intro a hf
      refine wpList_nil ?_
      exact ⟨hf.sub ⟨look_bool rfl (by first | rfl | simp [hc5b, hc9b, hg14, hg15]), trivial⟩, rfl⟩
    ·refine l_pass hf ⟨_, _, rfl, rfl, hg14⟩ rfl rfl ?_; intro a hf
     refine l_pass hf ⟨_, _, rfl, rfl, hg14⟩ rfl rfl ?_; intro a hf
     refine l_pass hf ⟨_, _, rfl, rfl, hg14⟩ rfl rfl ?_; intro a hf
     refine l_ev hf trivial rfl rfl (ev_pickF hf rfl hg14 rfl) ?_; intro a hf
     refine l_ev hf trivial rfl rfl (ev_move hf rfl) ?_; intro a hf
     refine l_pass hf ⟨_, _, rfl, rfl, rfl⟩ rfl rfl ?_; intro a hf
     refine l_pass hf ⟨_, _, rfl, rfl, rfl⟩ rfl rfl ?_; intro a hf
     refine l_pass hf ⟨_, _, rfl, rfl, rfl⟩ rfl rfl ?_; intro a hf
     refine l_ev hf trivial rfl rfl (ev_pickF hf rfl rfl rfl) ?_; intro a hf
     refine l_ev hf trivial rfl rfl (ev_assign hf rfl) ?_; intro a hf
     refine wpList_nil ?_
     exact ⟨hf.sub ⟨look_bool rfl (by first | rfl | simp [hc5b, hc9b, hg14]), trivial⟩, rfl⟩
   rintro a _ ⟨hf, rfl⟩
   refine hK13 _ _ ?_; try clear hK13 K13
   refine wp_ret ?_
   refine c_ret hf (res1 hf rfl rfl) ?_
   exact ⟨by rw [hf0], hW⟩
theorem F53 (w0 : World) (c : Cx) (Ac : Option Addr) (cc : Nat) (hr_c : Rd w0 w0.heap.size 107 encG Ac c.gs) : Ret Tryz.prog 53 [.agg #[.int .i64 c.n, .slice Ac c.gs.length cc]] w0 (fun v w => v = .bool (cOk c) ∧ Below w0.heap.size w0 w) := by
 refine enter Tryz.func53 rfl 28 rfl rfl ?_
 intro a hf
 have hW : Below w0.heap.size w0 w0 := Below.refl _ _
 refine wp_seq_k ?_; intro K2 hK2
 refine wp_region_lit ?_
 refine l_eff hf trivial rfl rfl (ef_box (zs := [.int .i64 c.n, .slice Ac c.gs.length cc]) hf rfl rfl) ?_; rintro a _ w1 ⟨b3, rfl, hl3, hE, hB3⟩ hf
 have hlo3 := Nat.le_trans hW.size hl3
 replace hr_c := hr_c.below hE
 replace hW := hW.trans (hE.mono hW.size)
 clear hE
 refine l_ev hf trivial rfl rfl (ev_assign hf rfl) ?_; intro a hf
 refine wpList_nil ?_
 refine hK2 _ _ ?_; try clear hK2 K2
 refine wp_seq_k ?_; intro K4 hK4
 refine wp_seq_k ?_; intro K5 hK5
 refine c_cut (fun a w => Fr a 28 [(1, .pointer (some ⟨b3, 0, none⟩)), (14, .bool ((!(inR c.n 1 5)) || (decide (400 < (c.gs.length : Int)))))] ∧ w1 = w) ?_ ?_
 ·refine wp_region_lit ?_
  refine l_ev hf trivial rfl rfl (ev_fieldB hf rfl fd_41_0 (m := 0) rfl) ?_; intro a hf
  refine l_ev hf trivial rfl rfl (ev_load1 hf rfl t1_3 (hB3.at 0)) ?_; intro a hf
  refine l_eff hf trivial rfl rfl (ef_call (vs := [.int .i64 c.n, .int .i64 1, .int .i64 5]) hf rfl ff_85 (F85 _ c.n 1 5)) ?_; rintro a _ _ ⟨rfl, rfl⟩ hf
  refine l_ev hf trivial rfl rfl (ev_not hf rfl) ?_; intro a hf
  refine l_ev hf trivial rfl rfl (ev_move hf rfl) ?_; intro a hf
  refine g_split hf (t := 9) rfl (fun hg6 => ?_) (fun hg6 => ?_)
  ·refine l_pass hf ⟨_, _, rfl, rfl, hg6⟩ rfl rfl ?_; intro a hf
   refine l_pass hf ⟨_, _, rfl, rfl, hg6⟩ rfl rfl ?_; intro a hf
   refine l_pass hf ⟨_, _, rfl, rfl, hg6⟩ rfl rfl ?_; intro a hf
   refine l_pass hf ⟨_, _, rfl, rfl, hg6⟩ rfl rfl ?_; intro a hf
   refine l_ev hf trivial rfl rfl (ev_pickT hf rfl hg6 rfl) ?_; intro a hf
   refine wpList_nil ?_
   exact ⟨hf.sub ⟨rfl, look_bool rfl (by first | rfl | simp [hg6]), trivial⟩, rfl⟩
  ·refine l_ev hf ⟨_, _, rfl, rfl, hg6⟩ rfl rfl (ev_fieldB hf rfl fd_41_1 (m := 1) rfl) ?_; intro a hf
   refine l_ev hf ⟨_, _, rfl, rfl, hg6⟩ rfl rfl (ev_load1 hf rfl t1_28 (hB3.at 1)) ?_; intro a hf
   refine l_ev hf ⟨_, _, rfl, rfl, hg6⟩ rfl rfl (ev_len hf rfl sl_28) ?_; intro a hf
   refine l_ev hf ⟨_, _, rfl, rfl, hg6⟩ rfl rfl (ev_gtr hf rfl rfl) ?_; intro a hf
   refine l_ev hf trivial rfl rfl (ev_pickF hf rfl hg6 rfl) ?_; intro a hf
   refine wpList_nil ?_
   exact ⟨hf.sub ⟨rfl, look_bool rfl (by first | rfl | simp [hg6]), trivial⟩, rfl⟩
 rintro a _ ⟨hf, rfl⟩
 refine hK5 _ _ ?_; try clear hK5 K5
 refine c_if hf rfl (fun hc7 => ?_) (fun hc7 => ?_)
 ·have hc7b := hc7
  have hn : (inR c.n 1 5 && decide ((c.gs.length : Int) ≤ 400)) = false := by revert hc7; cases inR c.n 1 5 <;> simp
  refine wp_seq_k ?_; intro K8 hK8
  refine wp_region_lit ?_
  refine l_ev hf trivial rfl rfl (ev_assign hf rfl) ?_; intro a hf
  refine wpList_nil ?_
  refine hK8 _ _ ?_; try clear hK8 K8
  refine wp_ret ?_
  refine x_retS ?_
  refine c_ret hf (res1 hf rfl rfl) ?_
  exact ⟨by rw [cOk, hn]; rfl, hW⟩
 ·have hc7b := hc7
  have hy : (inR c.n 1 5 && decide ((c.gs.length : Int) ≤ 400)) = true := by revert hc7; cases inR c.n 1 5 <;> simp
  have hy2 := (Bool.and_eq_true _ _ ▸ hy : inR c.n 1 5 = true ∧ decide ((c.gs.length : Int) ≤ 400) = true)
  have hn := inR_iff.1 hy2.1
  have hlen := of_decide_eq_true hy2.2
  refine wp_skip ?_
  refine hK4 _ _ ?_; try clear hK4 K4
  refine wp_seq_k ?_; intro K9 hK9
  refine wp_seq_k ?_; intro K10 hK10
  refine wp_region_lit ?_
  refine l_ev hf trivial rfl rfl (ev_fieldB hf rfl fd_41_1 (m := 1) rfl) ?_; intro a hf
  refine l_ev hf trivial rfl rfl (ev_load1 hf rfl t1_28 (hB3.at 1)) ?_; intro a hf
  refine l_ev hf trivial rfl rfl (ev_len hf rfl sl_28) ?_; intro a hf
  refine l_ev hf trivial rfl rfl (ev_move hf rfl) ?_; intro a hf
  refine wpList_nil ?_
  refine hK10 _ _ ?_; try clear hK10 K10
  refine wp_block ?_
  refine c_loop (σ := Nat) (fun (k : Nat) (a : Act) (w : World) => Fr a 28 [(1, .pointer (some ⟨b3, 0, none⟩)), (16, .slice Ac c.gs.length cc), (17, .int .i64 (c.gs.length : Int)), (18, .int .i64 (k : Int))] ∧ (k ≤ c.gs.length) ∧ ((c.gs.take k).all (fun x => gOk c.n x) = true) ∧ Blk w b3 41 [.int .i64 c.n, .slice Ac c.gs.length cc] ∧ Rd w w0.heap.size 107 encG Ac c.gs ∧ Below w0.heap.size w0 w) (fun (k : Nat) => c.gs.length + 1 - k) 0 ?_ ?_
  · exact ⟨hf.sub ⟨rfl, rfl, rfl, rfl, trivial⟩, (Nat.zero_le _), (by simp), hB3, hr_c, hW⟩
  rintro k a w2 ⟨hf, hk, hpre, hB3, hr_c, hW⟩
  refine wp_seq_k ?_; intro K11 hK11
  refine wp_region_lit ?_
  refine l_ev hf trivial rfl rfl (ev_lss hf rfl rfl) ?_; intro a hf
  refine wpList_nil ?_
  refine hK11 _ _ ?_; try clear hK11 K11
  refine wp_seq_k ?_; intro K12 hK12
  refine c_if hf rfl (fun hc13 => ?_) (fun hc13 => ?_)
  ·have hc13b := hc13
   have hc13 := of_decide_eq_true hc13
   obtain ⟨u14, hu14⟩ := getElem_ex (l := c.gs) (k := k) (by omega)
   refine wp_skip ?_
   refine hK12 _ _ ?_; try clear hK12 K12
   refine wp_seq_k ?_; intro K15 hK15
   refine wp_block ?_
   refine wp_seq_k ?_; intro K16 hK16
   refine wp_region_lit ?_
   refine l_index (k := k) (u := u14) (enc := encG) (l := c.gs) hf trivial rfl rfl rfl sl_28 sz_107 encG_len hr_c hu14 rfl ?_; intro a p18 hat17 hf
   refine l_ev hf trivial rfl rfl (ev_loadN (l := [.int .i64 u14.k, .int .i64 u14.a, .int .i64 u14.b]) hf rfl tN_107 hat17 rfl) ?_; intro a hf
   refine l_eff hf trivial rfl rfl (ef_alloc (zs := [.int .i64 0, .int .i64 0, .int .i64 0]) z_107 rfl) ?_; rintro a _ w3 ⟨b19, rfl, hl19, hE, hB19⟩ hf
   have hlo19 := Nat.le_trans hW.size hl19
   have haw1_19 := hr_c.away hl19
   replace hB3 := hB3.below hE
   replace hr_c := hr_c.below hE
   replace hW := hW.trans (hE.mono hW.size)
   clear hE
   refine l_eff0 hf trivial rfl (ef_store (vs := [.int .i64 u14.k, .int .i64 u14.a, .int .i64 u14.b]) (l' := [.int .i64 u14.k, .int .i64 u14.a, .int .i64 u14.b]) hf rfl rfl sz_107 hB19 rfl rfl rfl rfl rfl) ?_; rintro a _ w4 ⟨ho, hb⟩ hf
   have hold := hB19
   replace hB3 := hB3.only ho (Blk.ne hB3 hold rfl)
   replace hr_c := hr_c.only ho hlo19
   replace hW := Below.only hW ho hlo19
   clear hold
   have hB19 := hb
   clear hb ho
   refine wpList_nil ?_
   refine hK16 _ _ ?_; try clear hK16 K16
   refine wp_seq_k ?_; intro K20 hK20
   refine wp_region_lit ?_
   refine l_ev hf trivial rfl rfl (ev_fieldB hf rfl fd_41_0 (m := 0) rfl) ?_; intro a hf
   refine l_ev hf trivial rfl rfl (ev_load1 hf rfl t1_3 (hB3.at 0)) ?_; intro a hf
   refine l_ev hf trivial rfl rfl (ev_loadN (l := [.int .i64 u14.k, .int .i64 u14.a, .int .i64 u14.b]) hf rfl tN_107 (hB19.at 0) rfl) ?_; intro a hf
   refine l_eff hf trivial rfl rfl (ef_call (vs := [.int .i64 c.n, .agg #[.int .i64 u14.k, .int .i64 u14.a, .int .i64 u14.b]]) hf rfl ff_101 (F101 _ c.n u14 hn)) ?_; rintro a _ w5 ⟨rfl, hE⟩ hf
   replace hB3 := hB3.below hE
   replace hB19 := hB19.below hE
   replace hr_c := hr_c.below hE
   replace hW := hW.trans (hE.mono hW.size)
   clear hE
   refine l_ev hf trivial rfl rfl (ev_not hf rfl) ?_; intro a hf
   refine wpList_nil ?_
   refine hK20 _ _ ?_; try clear hK20 K20
   refine c_if hf rfl (fun hc21 => ?_) (fun hc21 => ?_)
   ·have hc21b := hc21
    have hb2 : (c.gs.any fun x => !gOk c.n x) = true := any_true hu14 hc21
    refine wp_seq_k ?_; intro K22 hK22
    refine wp_region_lit ?_
    refine l_ev hf trivial rfl rfl (ev_assign hf rfl) ?_; intro a hf
    refine wpList_nil ?_
    refine hK22 _ _ ?_; try clear hK22 K22
    refine wp_ret ?_
    refine x_retB ?_
    refine x_retS ?_
    refine x_retS ?_
    refine x_retB ?_
    refine x_retS ?_
    refine c_ret hf (res1 hf rfl rfl) ?_
    exact ⟨by rw [cOk, hy, hb2]; rfl, hW⟩
   ·have hc21b := hc21
    have hok : gOk c.n u14 = true := by revert hc21; cases gOk c.n u14 <;> simp
    refine wp_skip ?_
    refine x_norm ?_
    refine hK15 _ _ ?_; try clear hK15 K15
    refine wp_region_lit ?_
    refine l_ev hf trivial rfl rfl (ev_addx hf rfl rfl (by omega) (by omega)) ?_; intro a hf
    refine l_ev hf trivial rfl rfl (ev_move hf rfl) ?_; intro a hf
    refine wpList_nil ?_
    refine x_thenN ?_
    exact ⟨k + 1, ⟨hf.sub ⟨rfl, rfl, rfl, rfl, trivial⟩, (by omega), (take_all hpre hu14 hok), hB3, hr_c, hW⟩, (by omega)⟩
  ·have hc13b := hc13
   have hc13 := of_decide_eq_false hc13
   refine wp_exit ?_
   refine x_exS ?_
   refine x_exS ?_
   refine x_exit ?_
   refine hK9 _ _ ?_; try clear hK9 K9
   refine wp_seq_k ?_; intro K23 hK23
   refine wp_region_lit ?_
   refine l_ev hf trivial rfl rfl (ev_assign hf rfl) ?_; intro a hf
   refine wpList_nil ?_
   refine hK23 _ _ ?_; try clear hK23 K23
   refine wp_ret ?_
   refine c_ret hf (res1 hf rfl rfl) ?_
   have hb2 : (c.gs.any fun x => !gOk c.n x) = false := any_false (by simpa using take_full hpre (by omega))
   exact ⟨by rw [cOk, hy, hb2]; rfl, hW⟩
end Go.Proofs.YtfgnmflfiobkmaaGreat
set_option maxRecDepth 4000
namespace Go.Proofs.YtfgnmflfiobkmaaGreat
open Go.RowKit
theorem F86 (w0 : World) (n : Int) (Al : Option Addr) (cl : Nat) (l : List Gt) (hr_l : Rd w0 w0.heap.size 107 encG Al l) (m : Int) (hn : 1 ≤ n ∧ n ≤ 5) (hln : l.length ≤ 2305843009213693951) : Ret Tryz.prog 86 [.int .i64 n, .slice Al l.length cl, .int .i64 m] w0 (fun v w => v = .bool (!(l.any fun x => !gOk n x) && decide ((l.length : Int) ≤ m)) ∧ Below w0.heap.size w0 w) := by
 refine enter Tryz.func86 rfl 24 rfl rfl ?_
 intro a hf
 have hW : Below w0.heap.size w0 w0 := Below.refl _ _
 refine wp_seq_k ?_; intro K2 hK2
 refine wp_region_lit ?_
 refine l_ev hf trivial rfl rfl (ev_assign hf rfl) ?_; intro a hf
 refine wpList_nil ?_
 refine hK2 _ _ ?_; try clear hK2 K2
 refine wp_seq_k ?_; intro K3 hK3
 refine wp_seq_k ?_; intro K4 hK4
 refine wp_region_lit ?_
 refine l_ev hf trivial rfl rfl (ev_move hf rfl) ?_; intro a hf
 refine l_ev hf trivial rfl rfl (ev_len hf rfl sl_28) ?_; intro a hf
 refine l_ev hf trivial rfl rfl (ev_move hf rfl) ?_; intro a hf
 refine wpList_nil ?_
 refine hK4 _ _ ?_; try clear hK4 K4
 refine wp_block ?_
 refine c_loop (σ := Nat) (fun (k : Nat) (a : Act) (w : World) => Fr a 24 [(0, .int .i64 n), (1, .slice Al l.length cl), (2, .int .i64 m), (9, .slice Al l.length cl), (10, .int .i64 (l.length : Int)), (11, .int .i64 (k : Int))] ∧ (k ≤ l.length) ∧ ((l.take k).all (fun x => gOk n x) = true) ∧ Rd w w0.heap.size 107 encG Al l ∧ Below w0.heap.size w0 w) (fun (k : Nat) => l.length + 1 - k) 0 ?_ ?_
 · exact ⟨hf.sub ⟨rfl, rfl, rfl, rfl, rfl, rfl, trivial⟩, (Nat.zero_le _), (by simp), hr_l, hW⟩
 rintro k a w1 ⟨hf, hk, hpre, hr_l, hW⟩
 refine wp_seq_k ?_; intro K5 hK5
 refine wp_region_lit ?_
 refine l_ev hf trivial rfl rfl (ev_lss hf rfl rfl) ?_; intro a hf
 refine wpList_nil ?_
 refine hK5 _ _ ?_; try clear hK5 K5
 refine wp_seq_k ?_; intro K6 hK6
 refine c_if hf rfl (fun hc7 => ?_) (fun hc7 => ?_)
 ·have hc7b := hc7
  have hc7 := of_decide_eq_true hc7
  obtain ⟨u8, hu8⟩ := getElem_ex (l := l) (k := k) (by omega)
  refine wp_skip ?_
  refine hK6 _ _ ?_; try clear hK6 K6
  refine wp_seq_k ?_; intro K9 hK9
  refine wp_block ?_
  refine wp_seq_k ?_; intro K10 hK10
  refine wp_region_lit ?_
  refine l_index (k := k) (u := u8) (enc := encG) (l := l) hf trivial rfl rfl rfl sl_28 sz_107 encG_len hr_l hu8 rfl ?_; intro a p12 hat11 hf
  refine l_ev hf trivial rfl rfl (ev_loadN (l := [.int .i64 u8.k, .int .i64 u8.a, .int .i64 u8.b]) hf rfl tN_107 hat11 rfl) ?_; intro a hf
  refine l_eff hf trivial rfl rfl (ef_alloc (zs := [.int .i64 0, .int .i64 0, .int .i64 0]) z_107 rfl) ?_; rintro a _ w2 ⟨b13, rfl, hl13, hE, hB13⟩ hf
  have hlo13 := Nat.le_trans hW.size hl13
  have haw1_13 := hr_l.away hl13
  replace hr_l := hr_l.below hE
  replace hW := hW.trans (hE.mono hW.size)
  clear hE
  refine l_eff0 hf trivial rfl (ef_store (vs := [.int .i64 u8.k, .int .i64 u8.a, .int .i64 u8.b]) (l' := [.int .i64 u8.k, .int .i64 u8.a, .int .i64 u8.b]) hf rfl rfl sz_107 hB13 rfl rfl rfl rfl rfl) ?_; rintro a _ w3 ⟨ho, hb⟩ hf
  have hold := hB13
  replace hr_l := hr_l.only ho hlo13
  replace hW := Below.only hW ho hlo13
  clear hold
  have hB13 := hb
  clear hb ho
  refine wpList_nil ?_
  refine hK10 _ _ ?_; try clear hK10 K10
  refine wp_seq_k ?_; intro K14 hK14
  refine wp_region_lit ?_
  refine l_ev hf trivial rfl rfl (ev_move hf rfl) ?_; intro a hf
  refine l_ev hf trivial rfl rfl (ev_loadN (l := [.int .i64 u8.k, .int .i64 u8.a, .int .i64 u8.b]) hf rfl tN_107 (hB13.at 0) rfl) ?_; intro a hf
  refine l_eff hf trivial rfl rfl (ef_call (vs := [.int .i64 n, .agg #[.int .i64 u8.k, .int .i64 u8.a, .int .i64 u8.b]]) hf rfl ff_101 (F101 _ n u8 hn)) ?_; rintro a _ w4 ⟨rfl, hE⟩ hf
  replace hB13 := hB13.below hE
  replace hr_l := hr_l.below hE
  replace hW := hW.trans (hE.mono hW.size)
  clear hE
  refine l_ev hf trivial rfl rfl (ev_not hf rfl) ?_; intro a hf
  refine wpList_nil ?_
  refine hK14 _ _ ?_; try clear hK14 K14
  refine c_if hf rfl (fun hc15 => ?_) (fun hc15 => ?_)
  ·have hc15b := hc15
   have hb2 : (l.any fun x => !gOk n x) = true := any_true hu8 hc15
   refine wp_seq_k ?_; intro K16 hK16
   refine wp_region_lit ?_
   refine l_ev hf trivial rfl rfl (ev_assign hf rfl) ?_; intro a hf
   refine wpList_nil ?_
   refine hK16 _ _ ?_; try clear hK16 K16
   refine wp_ret ?_
   refine x_retB ?_
   refine x_retS ?_
   refine x_retS ?_
   refine x_retB ?_
   refine x_retS ?_
   refine c_ret hf (res1 hf rfl rfl) ?_
   exact ⟨by rw [hb2]; rfl, hW⟩
  ·have hc15b := hc15
   have hok : gOk n u8 = true := by revert hc15; cases gOk n u8 <;> simp
   refine wp_skip ?_
   refine x_norm ?_
   refine hK9 _ _ ?_; try clear hK9 K9
   refine wp_region_lit ?_
   refine l_ev hf trivial rfl rfl (ev_addx hf rfl rfl (by omega) (by omega)) ?_; intro a hf
   refine l_ev hf trivial rfl rfl (ev_move hf rfl) ?_; intro a hf
   refine wpList_nil ?_
   refine x_thenN ?_
   exact ⟨k + 1, ⟨hf.sub ⟨rfl, rfl, rfl, rfl, rfl, rfl, trivial⟩, (by omega), (take_all hpre hu8 hok), hr_l, hW⟩, (by omega)⟩
 ·have hc7b := hc7
  have hc7 := of_decide_eq_false hc7
  refine wp_exit ?_
  refine x_exS ?_
  refine x_exS ?_
  refine x_exit ?_
  refine hK3 _ _ ?_; try clear hK3 K3
  refine wp_seq_k ?_; intro K17 hK17
  refine wp_region_lit ?_
  refine l_ev hf trivial rfl rfl (ev_move hf rfl) ?_; intro a hf
  refine l_ev hf trivial rfl rfl (ev_len hf rfl sl_28) ?_; intro a hf
  refine l_ev hf trivial rfl rfl (ev_move hf rfl) ?_; intro a hf
  refine l_ev hf trivial rfl rfl (ev_leq hf rfl rfl) ?_; intro a hf
  refine l_ev hf trivial rfl rfl (ev_assign hf rfl) ?_; intro a hf
  refine wpList_nil ?_
  refine hK17 _ _ ?_; try clear hK17 K17
  refine wp_ret ?_
  refine c_ret hf (res1 hf rfl rfl) ?_
  have hb2 : (l.any fun x => !gOk n x) = false := any_false (by simpa using take_full hpre (by omega))
  exact ⟨by rw [hb2]; rfl, hW⟩
theorem F100 (w0 : World) (x : Gt) (y : Gt) : Ret Tryz.prog 100 [.agg #[.int .i64 x.k, .int .i64 x.a, .int .i64 x.b], .agg #[.int .i64 y.k, .int .i64 y.a, .int .i64 y.b]] w0 (fun v w => v = .bool (decide (x = y)) ∧ Below w0.heap.size w0 w) := by
 refine enter Tryz.func100 rfl 20 rfl rfl ?_
 intro a hf
 have hW : Below w0.heap.size w0 w0 := Below.refl _ _
 refine wp_seq_k ?_; intro K1 hK1
 refine wp_region_lit ?_
 refine l_eff hf trivial rfl rfl (ef_box (zs := [.int .i64 x.k, .int .i64 x.a, .int .i64 x.b]) hf rfl rfl) ?_; rintro a _ w1 ⟨b2, rfl, hl2, hE, hB2⟩ hf
 have hlo2 := Nat.le_trans hW.size hl2
 replace hW := hW.trans (hE.mono hW.size)
 clear hE
 refine l_eff hf trivial rfl rfl (ef_box (zs := [.int .i64 y.k, .int .i64 y.a, .int .i64 y.b]) hf rfl rfl) ?_; rintro a _ w2 ⟨b3, rfl, hl3, hE, hB3⟩ hf
 have hne2_3 : b2 ≠ b3 := by have := hB2.lt; omega
 have hlo3 := Nat.le_trans hW.size hl3
 replace hB2 := hB2.below hE
 replace hW := hW.trans (hE.mono hW.size)
 clear hE
 refine l_ev hf trivial rfl rfl (ev_assign hf rfl) ?_; intro a hf
 refine wpList_nil ?_
 refine hK1 _ _ ?_; try clear hK1 K1
 refine wp_seq_k ?_; intro K4 hK4
 refine wp_seq_k ?_; intro K5 hK5
 refine wp_region_lit ?_
 refine l_ev hf trivial rfl rfl (ev_fieldB hf rfl fd_107_0 (m := 0) rfl) ?_; intro a hf
 refine l_ev hf trivial rfl rfl (ev_load1 hf rfl t1_3 (hB2.at 0)) ?_; intro a hf
 refine l_ev hf trivial rfl rfl (ev_fieldB hf rfl fd_107_0 (m := 0) rfl) ?_; intro a hf
 refine l_ev hf trivial rfl rfl (ev_load1 hf rfl t1_3 (hB3.at 0)) ?_; intro a hf
 refine l_ev hf trivial rfl rfl (ev_neq hf rfl rfl) ?_; intro a hf
 refine wpList_nil ?_
 refine hK5 _ _ ?_; try clear hK5 K5
 refine c_if hf rfl (fun hc6 => ?_) (fun hc6 => ?_)
 ·have hc6b := hc6
  have hne : ¬ x = y := by rintro rfl; simp at hc6
  refine wp_seq_k ?_; intro K7 hK7
  refine wp_region_lit ?_
  refine l_ev hf trivial rfl rfl (ev_assign hf rfl) ?_; intro a hf
  refine wpList_nil ?_
  refine hK7 _ _ ?_; try clear hK7 K7
  refine wp_ret ?_
  refine x_retS ?_
  refine c_ret hf (res1 hf rfl rfl) ?_
  exact ⟨by simp [hne], hW⟩
 ·have hc6b := hc6
  have e1 : x.k = y.k := by simpa using hc6
  refine wp_skip ?_
  refine hK4 _ _ ?_; try clear hK4 K4
  refine wp_seq_k ?_; intro K8 hK8
  refine wp_seq_k ?_; intro K9 hK9
  refine wp_region_lit ?_
  refine l_ev hf trivial rfl rfl (ev_fieldB hf rfl fd_107_1 (m := 1) rfl) ?_; intro a hf
  refine l_ev hf trivial rfl rfl (ev_load1 hf rfl t1_3 (hB2.at 1)) ?_; intro a hf
  refine l_ev hf trivial rfl rfl (ev_fieldB hf rfl fd_107_1 (m := 1) rfl) ?_; intro a hf
  refine l_ev hf trivial rfl rfl (ev_load1 hf rfl t1_3 (hB3.at 1)) ?_; intro a hf
  refine l_ev hf trivial rfl rfl (ev_neq hf rfl rfl) ?_; intro a hf
  refine wpList_nil ?_
  refine hK9 _ _ ?_; try clear hK9 K9
  refine c_if hf rfl (fun hc10 => ?_) (fun hc10 => ?_)
  ·have hc10b := hc10
   have hne : ¬ x = y := by rintro rfl; simp at hc10
   refine wp_seq_k ?_; intro K11 hK11
   refine wp_region_lit ?_
   refine l_ev hf trivial rfl rfl (ev_assign hf rfl) ?_; intro a hf
   refine wpList_nil ?_
   refine hK11 _ _ ?_; try clear hK11 K11
   refine wp_ret ?_
   refine x_retS ?_
   refine c_ret hf (res1 hf rfl rfl) ?_
   exact ⟨by simp [hne], hW⟩
  ·have hc10b := hc10
   have e2 : x.a = y.a := by simpa using hc10
   refine wp_skip ?_
   refine hK8 _ _ ?_; try clear hK8 K8
   refine wp_seq_k ?_; intro K12 hK12
   refine wp_seq_k ?_; intro K13 hK13
   refine wp_region_lit ?_
   refine l_ev hf trivial rfl rfl (ev_fieldB hf rfl fd_107_2 (m := 2) rfl) ?_; intro a hf
   refine l_ev hf trivial rfl rfl (ev_load1 hf rfl t1_3 (hB2.at 2)) ?_; intro a hf
   refine l_ev hf trivial rfl rfl (ev_fieldB hf rfl fd_107_2 (m := 2) rfl) ?_; intro a hf
   refine l_ev hf trivial rfl rfl (ev_load1 hf rfl t1_3 (hB3.at 2)) ?_; intro a hf
   refine l_ev hf trivial rfl rfl (ev_neq hf rfl rfl) ?_; intro a hf
   refine wpList_nil ?_
   refine hK13 _ _ ?_; try clear hK13 K13
   refine c_if hf rfl (fun hc14 => ?_) (fun hc14 => ?_)
   ·have hc14b := hc14
    have hne : ¬ x = y := by rintro rfl; simp at hc14
    refine wp_seq_k ?_; intro K15 hK15
    refine wp_region_lit ?_
    refine l_ev hf trivial rfl rfl (ev_assign hf rfl) ?_; intro a hf
    refine wpList_nil ?_
    refine hK15 _ _ ?_; try clear hK15 K15
    refine wp_ret ?_
    refine x_retS ?_
    refine c_ret hf (res1 hf rfl rfl) ?_
    exact ⟨by simp [hne], hW⟩
   ·have hc14b := hc14
    have e3 : x.b = y.b := by simpa using hc14
    refine wp_skip ?_
    refine hK12 _ _ ?_; try clear hK12 K12
    refine wp_seq_k ?_; intro K16 hK16
    refine wp_region_lit ?_
    refine l_ev hf trivial rfl rfl (ev_assign hf rfl) ?_; intro a hf
    refine wpList_nil ?_
    refine hK16 _ _ ?_; try clear hK16 K16
    refine wp_ret ?_
    refine c_ret hf (res1 hf rfl rfl) ?_
    have he : x = y := by cases x; cases y; simp_all
    exact ⟨by simp [he], hW⟩
theorem F52 (w0 : World) (Ap : Option Addr) (cp : Nat) (p : List Gt) (hr_p : Rd w0 w0.heap.size 107 encG Ap p) (Aq : Option Addr) (cq : Nat) (q : List Gt) (hr_q : Rd w0 w0.heap.size 107 encG Aq q) (hln : p.length ≤ 2305843009213693951) : Ret Tryz.prog 52 [.slice Ap p.length cp, .slice Aq q.length cq] w0 (fun v w => v = .bool (decide (p = q)) ∧ Below w0.heap.size w0 w) := by
 refine enter Tryz.func52 rfl 27 rfl rfl ?_
 intro a hf
 have hW : Below w0.heap.size w0 w0 := Below.refl _ _
 refine wp_seq_k ?_; intro K3 hK3
 refine wp_region_lit ?_
 refine l_ev hf trivial rfl rfl (ev_assign hf rfl) ?_; intro a hf
 refine wpList_nil ?_
 refine hK3 _ _ ?_; try clear hK3 K3
 refine wp_seq_k ?_; intro K4 hK4
 refine wp_seq_k ?_; intro K5 hK5
 refine wp_region_lit ?_
 refine l_ev hf trivial rfl rfl (ev_move hf rfl) ?_; intro a hf
 refine l_ev hf trivial rfl rfl (ev_len hf rfl sl_28) ?_; intro a hf
 refine l_ev hf trivial rfl rfl (ev_move hf rfl) ?_; intro a hf
 refine l_ev hf trivial rfl rfl (ev_len hf rfl sl_28) ?_; intro a hf
 refine l_ev hf trivial rfl rfl (ev_neq hf rfl rfl) ?_; intro a hf
 refine wpList_nil ?_
 refine hK5 _ _ ?_; try clear hK5 K5
 refine c_if hf rfl (fun hc6 => ?_) (fun hc6 => ?_)
 ·have hc6b := hc6
  have hne : ¬ p = q := by intro h9; rw [h9] at hc6; simp at hc6
  refine wp_seq_k ?_; intro K7 hK7
  refine wp_region_lit ?_
  refine l_ev hf trivial rfl rfl (ev_assign hf rfl) ?_; intro a hf
  refine wpList_nil ?_
  refine hK7 _ _ ?_; try clear hK7 K7
  refine wp_ret ?_
  refine x_retS ?_
  refine c_ret hf (res1 hf rfl rfl) ?_
  exact ⟨by simp [hne], hW⟩
 ·have hc6b := hc6
  have hll : p.length = q.length := by have h9 : (p.length : Int) = q.length := (by simpa using hc6); omega
  refine wp_skip ?_
  refine hK4 _ _ ?_; try clear hK4 K4
  refine wp_seq_k ?_; intro K8 hK8
  refine wp_seq_k ?_; intro K9 hK9
  refine wp_region_lit ?_
  refine l_ev hf trivial rfl rfl (ev_assign hf rfl) ?_; intro a hf
  refine wpList_nil ?_
  refine hK9 _ _ ?_; try clear hK9 K9
  refine wp_block ?_
  refine c_loop (σ := Nat) (fun (k : Nat) (a : Act) (w : World) => Fr a 27 [(0, .slice Ap p.length cp), (1, .slice Aq q.length cq), (5, .int .i64 (k : Int))] ∧ (k ≤ p.length) ∧ (p.take k = q.take k) ∧ Rd w w0.heap.size 107 encG Ap p ∧ Rd w w0.heap.size 107 encG Aq q ∧ Below w0.heap.size w0 w) (fun (k : Nat) => p.length - k) 0 ?_ ?_
  · exact ⟨hf.sub ⟨rfl, rfl, rfl, trivial⟩, (Nat.zero_le _), (by simp), hr_p, hr_q, hW⟩
  rintro k a w1 ⟨hf, hk, hpre, hr_p, hr_q, hW⟩
  refine wp_seq_k ?_; intro K10 hK10
  refine wp_seq_k ?_; intro K11 hK11
  refine wp_region_lit ?_
  refine l_ev hf trivial rfl rfl (ev_move hf rfl) ?_; intro a hf
  refine l_ev hf trivial rfl rfl (ev_move hf rfl) ?_; intro a hf
  refine l_ev hf trivial rfl rfl (ev_len hf rfl sl_28) ?_; intro a hf
  refine l_ev hf trivial rfl rfl (ev_lss hf rfl rfl) ?_; intro a hf
  refine wpList_nil ?_
  refine hK11 _ _ ?_; try clear hK11 K11
  refine c_if hf rfl (fun hc12 => ?_) (fun hc12 => ?_)
  ·have hc12b := hc12
   have hc12 := of_decide_eq_true hc12
   obtain ⟨u13, hu13⟩ := getElem_ex (l := p) (k := k) (by omega)
   obtain ⟨v9, hv9⟩ := getElem_ex (l := q) (k := k) (by omega)
   refine wp_skip ?_
   refine hK10 _ _ ?_; try clear hK10 K10
   refine wp_seq_k ?_; intro K14 hK14
   refine wp_block ?_
   refine wp_seq_k ?_; intro K15 hK15
   refine wp_draw none (fun _ => false) mixed ?_
   intro w2 hE
   replace hr_p := hr_p.below hE
   replace hr_q := hr_q.below hE
   replace hW := hW.trans (hE.mono hW.size)
   clear hE
   refine s_ev0 0 rfl (by kernel_rfl) hf trivial rfl rfl (fun _ => ev_move hf rfl) ?_; intro a hf
   refine s_ev0 1 rfl (by kernel_rfl) hf trivial rfl rfl (fun _ => ev_move hf rfl) ?_; intro a hf
   refine s_index (k := k) (u := u13) (enc := encG) (l := p) 2 rfl (by kernel_rfl) (by kernel_rfl) hf trivial rfl rfl rfl sl_28 sz_107 encG_len hr_p hu13 rfl ?_; intro a p17 hat16 hf
   refine s_ev 3 rfl (by kernel_rfl) (by kernel_rfl) hf trivial rfl rfl (ev_loadN (l := [.int .i64 u13.k, .int .i64 u13.a, .int .i64 u13.b]) hf rfl tN_107 hat16 rfl) ?_; intro a hf
   refine s_ev0 4 rfl (by kernel_rfl) hf trivial rfl rfl (fun _ => ev_move hf rfl) ?_; intro a hf
   refine s_ev0 5 rfl (by kernel_rfl) hf trivial rfl rfl (fun _ => ev_move hf rfl) ?_; intro a hf
   refine s_index (k := k) (u := v9) (enc := encG) (l := q) 6 rfl (by kernel_rfl) (by kernel_rfl) hf trivial rfl rfl rfl sl_28 sz_107 encG_len hr_q hv9 rfl ?_; intro a p19 hat18 hf
   refine s_ev 7 rfl (by kernel_rfl) (by kernel_rfl) hf trivial rfl rfl (ev_loadN (l := [.int .i64 v9.k, .int .i64 v9.a, .int .i64 v9.b]) hf rfl tN_107 hat18 rfl) ?_; intro a hf
   refine s_one 8 (by kernel_rfl) ?_
   refine p_eff rfl hf trivial rfl rfl (Ef.mono (ef_call (vs := [.agg #[.int .i64 u13.k, .int .i64 u13.a, .int .i64 u13.b], .agg #[.int .i64 v9.k, .int .i64 v9.a, .int .i64 v9.b]]) hf rfl ff_100 (F100 _ u13 v9)) (fun _ _ h => ⟨fun _ => by obtain ⟨rfl, hE⟩ := h; exact hE, h⟩)) ?_; rintro a _ w3 ⟨rfl, hE⟩ hf
   replace hr_p := hr_p.below hE
   replace hr_q := hr_q.below hE
   replace hW := hW.trans (hE.mono hW.size)
   clear hE
   refine s_ev0 9 rfl (by kernel_rfl) hf trivial rfl rfl (fun _ => ev_not hf rfl) ?_; intro a hf
   refine s_done (by kernel_rfl) ?_
   refine hK15 _ _ ?_; try clear hK15 K15
   refine c_if hf rfl (fun hc20 => ?_) (fun hc20 => ?_)
   ·have hc20b := hc20
    have hne : ¬ p = q := by rintro rfl; rw [hu13] at hv9; injection hv9 with e9; revert hc20; simp [e9]
    refine wp_seq_k ?_; intro K21 hK21
    refine wp_region_lit ?_
    refine l_ev hf trivial rfl rfl (ev_assign hf rfl) ?_; intro a hf
    refine wpList_nil ?_
    refine hK21 _ _ ?_; try clear hK21 K21
    refine wp_ret ?_
    refine x_retB ?_
    refine x_retS ?_
    refine x_retS ?_
    refine x_retB ?_
    refine x_retS ?_
    refine c_ret hf (res1 hf rfl rfl) ?_
    exact ⟨by simp [hne], hW⟩
   ·have hc20b := hc20
    have he9 : u13 = v9 := by revert hc20; simp
    refine wp_skip ?_
    refine x_norm ?_
    refine hK14 _ _ ?_; try clear hK14 K14
    refine wp_region_lit ?_
    refine l_ev hf trivial rfl rfl (ev_move hf rfl) ?_; intro a hf
    refine l_ev hf trivial rfl rfl (ev_addx hf rfl rfl (by omega) (by omega)) ?_; intro a hf
    refine l_ev hf trivial rfl rfl (ev_assign hf rfl) ?_; intro a hf
    refine wpList_nil ?_
    refine x_thenN ?_
    exact ⟨k + 1, ⟨hf.sub ⟨rfl, rfl, rfl, trivial⟩, (by omega), (take_eq hpre hu13 hv9 he9), hr_p, hr_q, hW⟩, (by omega)⟩
  ·have hc12b := hc12
   have hc12 := of_decide_eq_false hc12
   refine wp_exit ?_
   refine x_exS ?_
   refine x_exS ?_
   refine x_exit ?_
   refine hK8 _ _ ?_; try clear hK8 K8
   refine wp_seq_k ?_; intro K22 hK22
   refine wp_region_lit ?_
   refine l_ev hf trivial rfl rfl (ev_assign hf rfl) ?_; intro a hf
   refine wpList_nil ?_
   refine hK22 _ _ ?_; try clear hK22 K22
   refine wp_ret ?_
   refine c_ret hf (res1 hf rfl rfl) ?_
   have he : p = q := by rw [List.take_of_length_le (by omega), List.take_of_length_le (by omega)] at hpre; exact hpre
   exact ⟨by simp [he], hW⟩
end Go.Proofs.YtfgnmflfiobkmaaGreat
set_option maxRecDepth 4000
namespace Go.Proofs.YtfgnmflfiobkmaaGreat
open Go.RowKit
theorem F218 (w0 : World) (n : Int) (g : Gt) (s0 : Int) (hg : gOk n g = true) (hk2 : 9 ≤ g.k ∧ g.k ≤ 11) : Ret Tryz.prog 218 [.int .i64 n, .agg #[.int .i64 g.k, .int .i64 g.a, .int .i64 g.b], .int .i64 s0] w0 (fun v w => v = .int .i64 (toS n g s0) ∧ Below w0.heap.size w0 w) := by
 have hg2 := gOk_spec hg
 have hg3 := hg2.2.2.1 (by omega)
 have hg4 := hg2.2.2.2 hk2
 refine enter Tryz.func218 rfl 51 rfl rfl ?_
 intro a hf
 have hW : Below w0.heap.size w0 w0 := Below.refl _ _
 refine wp_seq_k ?_; intro K1 hK1
 refine wp_region_lit ?_
 refine l_eff hf trivial rfl rfl (ef_box (zs := [.int .i64 g.k, .int .i64 g.a, .int .i64 g.b]) hf rfl rfl) ?_; rintro a _ w1 ⟨b2, rfl, hl2, hE, hB2⟩ hf
 have hlo2 := Nat.le_trans hW.size hl2
 replace hW := hW.trans (hE.mono hW.size)
 clear hE
 refine l_ev hf trivial rfl rfl (ev_assign hf rfl) ?_; intro a hf
 refine wpList_nil ?_
 refine hK1 _ _ ?_; try clear hK1 K1
 refine wp_seq_k ?_; intro K3 hK3
 refine wp_draw none (fun _ => false) mixed ?_
 intro w2 hE
 replace hB2 := hB2.below hE
 replace hW := hW.trans (hE.mono hW.size)
 clear hE
 refine s_ev0 0 rfl (by kernel_rfl) hf trivial rfl rfl (fun _ => ev_move hf rfl) ?_; intro a hf
 refine s_ev0 1 rfl (by kernel_rfl) hf trivial rfl rfl (fun _ => ev_move hf rfl) ?_; intro a hf
 refine s_ev0 2 rfl (by kernel_rfl) hf trivial rfl rfl (fun _ => ev_fieldB hf rfl fd_107_1 (m := 1) rfl) ?_; intro a hf
 refine s_ev 3 rfl (by kernel_rfl) (by kernel_rfl) hf trivial rfl rfl (ev_load1 hf rfl t1_3 (hB2.at 1)) ?_; intro a hf
 refine s_ev0 5 rfl (by kernel_rfl) hf trivial rfl rfl (fun _ => ev_move hf rfl) ?_; intro a hf
 refine s_ev0 6 rfl (by kernel_rfl) hf trivial rfl rfl (fun _ => ev_move hf rfl) ?_; intro a hf
 refine s_ev0 7 rfl (by kernel_rfl) hf trivial rfl rfl (fun _ => ev_fieldB hf rfl fd_107_2 (m := 2) rfl) ?_; intro a hf
 refine s_ev 8 rfl (by kernel_rfl) (by kernel_rfl) hf trivial rfl rfl (ev_load1 hf rfl t1_3 (hB2.at 2)) ?_; intro a hf
 refine s_one 4 (by kernel_rfl) ?_
 refine p_eff rfl hf trivial rfl rfl (Ef.mono (ef_call (vs := [.int .i64 n, .int .i64 s0, .int .i64 g.a]) hf rfl ff_219 (F219 _ n s0 g.a (by omega) (by omega) (by omega))) (fun _ _ h => ⟨fun _ => by rw [← h.2]; exact Below.refl _ _, h⟩)) ?_; rintro a _ _ ⟨rfl, rfl⟩ hf
 refine s_one 9 (by kernel_rfl) ?_
 refine p_eff rfl hf trivial rfl rfl (Ef.mono (ef_call (vs := [.int .i64 n, .int .i64 s0, .int .i64 g.b]) hf rfl ff_219 (F219 _ n s0 g.b (by omega) (by omega) (by omega))) (fun _ _ h => ⟨fun _ => by rw [← h.2]; exact Below.refl _ _, h⟩)) ?_; rintro a _ _ ⟨rfl, rfl⟩ hf
 refine s_ev0 10 rfl (by kernel_rfl) hf trivial rfl rfl (fun _ => ev_assign hf rfl) ?_; intro a hf
 refine s_ev0 11 rfl (by kernel_rfl) hf trivial rfl rfl (fun _ => ev_assign hf rfl) ?_; intro a hf
 refine s_done (by kernel_rfl) ?_
 refine hK3 _ _ ?_; try clear hK3 K3
 refine wp_seq_k ?_; intro K4 hK4
 refine wp_block ?_
 refine wp_seq_k ?_; intro K5 hK5
 refine c_cut (fun a w => Fr a 51 [(0, .int .i64 n), (2, .int .i64 s0), (4, .pointer (some ⟨b2, 0, none⟩)), (7, .int .i64 (bitF n s0 g.a)), (8, .int .i64 (bitF n s0 g.b)), (19, .bool ((g.k == 9) && ((bitF n s0 g.a) == 1)))] ∧ w2 = w) ?_ ?_
 ·refine wp_region_lit ?_
  refine l_ev hf trivial rfl rfl (ev_fieldB hf rfl fd_107_0 (m := 0) rfl) ?_; intro a hf
  refine l_ev hf trivial rfl rfl (ev_load1 hf rfl t1_3 (hB2.at 0)) ?_; intro a hf
  refine l_ev hf trivial rfl rfl (ev_eql hf rfl rfl) ?_; intro a hf
  refine l_ev hf trivial rfl rfl (ev_move hf rfl) ?_; intro a hf
  refine g_split hf (t := 23) rfl (fun hg6 => ?_) (fun hg6 => ?_)
  ·refine l_ev hf ⟨_, _, rfl, rfl, hg6⟩ rfl rfl (ev_move hf rfl) ?_; intro a hf
   refine l_ev hf ⟨_, _, rfl, rfl, hg6⟩ rfl rfl (ev_eql hf rfl rfl) ?_; intro a hf
   refine l_ev hf trivial rfl rfl (ev_pickT hf rfl hg6 rfl) ?_; intro a hf
   refine l_ev hf trivial rfl rfl (ev_assign hf rfl) ?_; intro a hf
   refine wpList_nil ?_
   exact ⟨hf.sub ⟨rfl, rfl, rfl, rfl, rfl, look_bool rfl (by first | rfl | simp [hg6]), trivial⟩, rfl⟩
  ·refine l_pass hf ⟨_, _, rfl, rfl, hg6⟩ rfl rfl ?_; intro a hf
   refine l_pass hf ⟨_, _, rfl, rfl, hg6⟩ rfl rfl ?_; intro a hf
   refine l_ev hf trivial rfl rfl (ev_pickF hf rfl hg6 rfl) ?_; intro a hf
   refine l_ev hf trivial rfl rfl (ev_assign hf rfl) ?_; intro a hf
   refine wpList_nil ?_
   exact ⟨hf.sub ⟨rfl, rfl, rfl, rfl, rfl, look_bool rfl (by first | rfl | simp [hg6]), trivial⟩, rfl⟩
 rintro a _ ⟨hf, rfl⟩
 refine hK5 _ _ ?_; try clear hK5 K5
 refine c_if hf rfl (fun hc7 => ?_) (fun hc7 => ?_)
 ·have hc7b := hc7
  have h9 : g.k = 9 ∧ bitF n s0 g.a = 1 := by simpa using hc7
  refine wp_seq_k ?_; intro K8 hK8
  refine wp_region_lit ?_
  refine l_ev hf trivial rfl rfl (ev_move hf rfl) ?_; intro a hf
  refine l_ev hf trivial rfl rfl (ev_move hf rfl) ?_; intro a hf
  refine l_ev hf trivial rfl rfl (ev_fieldB hf rfl fd_107_2 (m := 2) rfl) ?_; intro a hf
  refine l_ev hf trivial rfl rfl (ev_load1 hf rfl t1_3 (hB2.at 2)) ?_; intro a hf
  refine l_eff hf trivial rfl rfl (ef_call (vs := [.int .i64 n, .int .i64 s0, .int .i64 g.b]) hf rfl ff_220 (F220 _ n s0 g.b (by omega) (by omega) (by omega))) ?_; rintro a _ _ ⟨rfl, rfl⟩ hf
  refine l_ev hf trivial rfl rfl (ev_assign hf rfl) ?_; intro a hf
  refine wpList_nil ?_
  refine hK8 _ _ ?_; try clear hK8 K8
  refine wp_ret ?_
  refine x_retB ?_
  refine x_retS ?_
  refine c_ret hf (res1 hf rfl rfl) ?_
  exact ⟨by rw [toS, if_pos h9.1, if_pos h9.2], hW⟩
 ·have hc7b := hc7
  have h9 : g.k = 9 → ¬ bitF n s0 g.a = 1 := by simpa using hc7
  refine wp_seq_k ?_; intro K9 hK9
  refine c_cut (fun a w => Fr a 51 [(0, .int .i64 n), (2, .int .i64 s0), (4, .pointer (some ⟨b2, 0, none⟩)), (32, .bool ((g.k == 11) && ((bitF n s0 g.a) != (bitF n s0 g.b))))] ∧ w2 = w) ?_ ?_
  ·refine wp_region_lit ?_
   refine l_ev hf trivial rfl rfl (ev_fieldB hf rfl fd_107_0 (m := 0) rfl) ?_; intro a hf
   refine l_ev hf trivial rfl rfl (ev_load1 hf rfl t1_3 (hB2.at 0)) ?_; intro a hf
   refine l_ev hf trivial rfl rfl (ev_eql hf rfl rfl) ?_; intro a hf
   refine l_ev hf trivial rfl rfl (ev_move hf rfl) ?_; intro a hf
   refine g_split hf (t := 36) rfl (fun hg10 => ?_) (fun hg10 => ?_)
   ·refine l_ev hf ⟨_, _, rfl, rfl, hg10⟩ rfl rfl (ev_move hf rfl) ?_; intro a hf
    refine l_ev hf ⟨_, _, rfl, rfl, hg10⟩ rfl rfl (ev_move hf rfl) ?_; intro a hf
    refine l_ev hf ⟨_, _, rfl, rfl, hg10⟩ rfl rfl (ev_neq hf rfl rfl) ?_; intro a hf
    refine l_ev hf trivial rfl rfl (ev_pickT hf rfl hg10 rfl) ?_; intro a hf
    refine l_ev hf trivial rfl rfl (ev_assign hf rfl) ?_; intro a hf
    refine wpList_nil ?_
    exact ⟨hf.sub ⟨rfl, rfl, rfl, look_bool rfl (by first | rfl | simp [hc7b, hg10]), trivial⟩, rfl⟩
   ·refine l_pass hf ⟨_, _, rfl, rfl, hg10⟩ rfl rfl ?_; intro a hf
    refine l_pass hf ⟨_, _, rfl, rfl, hg10⟩ rfl rfl ?_; intro a hf
    refine l_pass hf ⟨_, _, rfl, rfl, hg10⟩ rfl rfl ?_; intro a hf
    refine l_ev hf trivial rfl rfl (ev_pickF hf rfl hg10 rfl) ?_; intro a hf
    refine l_ev hf trivial rfl rfl (ev_assign hf rfl) ?_; intro a hf
    refine wpList_nil ?_
    exact ⟨hf.sub ⟨rfl, rfl, rfl, look_bool rfl (by first | rfl | simp [hc7b, hg10]), trivial⟩, rfl⟩
  rintro a _ ⟨hf, rfl⟩
  refine hK9 _ _ ?_; try clear hK9 K9
  refine c_if hf rfl (fun hc11 => ?_) (fun hc11 => ?_)
  ·have hc11b := hc11
   have h11 : g.k = 11 ∧ ¬ bitF n s0 g.a = bitF n s0 g.b := by simpa using hc11
   refine wp_seq_k ?_; intro K12 hK12
   refine wp_draw none (fun _ => false) mixed ?_
   intro w3 hE
   replace hB2 := hB2.below hE
   replace hW := hW.trans (hE.mono hW.size)
   clear hE
   refine s_ev0 0 rfl (by kernel_rfl) hf trivial rfl rfl (fun _ => ev_move hf rfl) ?_; intro a hf
   refine s_ev0 1 rfl (by kernel_rfl) hf trivial rfl rfl (fun _ => ev_move hf rfl) ?_; intro a hf
   refine s_ev0 2 rfl (by kernel_rfl) hf trivial rfl rfl (fun _ => ev_move hf rfl) ?_; intro a hf
   refine s_ev0 3 rfl (by kernel_rfl) hf trivial rfl rfl (fun _ => ev_fieldB hf rfl fd_107_1 (m := 1) rfl) ?_; intro a hf
   refine s_ev 4 rfl (by kernel_rfl) (by kernel_rfl) hf trivial rfl rfl (ev_load1 hf rfl t1_3 (hB2.at 1)) ?_; intro a hf
   refine s_ev0 6 rfl (by kernel_rfl) hf trivial rfl rfl (fun _ => ev_fieldB hf rfl fd_107_2 (m := 2) rfl) ?_; intro a hf
   refine s_ev 7 rfl (by kernel_rfl) (by kernel_rfl) hf trivial rfl rfl (ev_load1 hf rfl t1_3 (hB2.at 2)) ?_; intro a hf
   refine s_one 5 (by kernel_rfl) ?_
   refine p_eff rfl hf trivial rfl rfl (Ef.mono (ef_call (vs := [.int .i64 n, .int .i64 s0, .int .i64 g.a]) hf rfl ff_220 (F220 _ n s0 g.a (by omega) (by omega) (by omega))) (fun _ _ h => ⟨fun _ => by rw [← h.2]; exact Below.refl _ _, h⟩)) ?_; rintro a _ _ ⟨rfl, rfl⟩ hf
   refine s_one 8 (by kernel_rfl) ?_
   refine p_eff rfl hf trivial rfl rfl (Ef.mono (ef_call (vs := [.int .i64 n, .int .i64 (flipF n s0 g.a), .int .i64 g.b]) hf rfl ff_220 (F220 _ n (flipF n s0 g.a) g.b (by omega) (by omega) (by omega))) (fun _ _ h => ⟨fun _ => by rw [← h.2]; exact Below.refl _ _, h⟩)) ?_; rintro a _ _ ⟨rfl, rfl⟩ hf
   refine s_ev0 9 rfl (by kernel_rfl) hf trivial rfl rfl (fun _ => ev_assign hf rfl) ?_; intro a hf
   refine s_done (by kernel_rfl) ?_
   refine hK12 _ _ ?_; try clear hK12 K12
   refine wp_ret ?_
   refine x_retB ?_
   refine x_retS ?_
   refine c_ret hf (res1 hf rfl rfl) ?_
   exact ⟨by rw [toS, if_neg (by omega), if_pos h11.1, if_pos h11.2], hW⟩
  ·have hc11b := hc11
   have h11 : g.k = 11 → bitF n s0 g.a = bitF n s0 g.b := by simpa using hc11
   refine wp_skip ?_
   refine x_norm ?_
   refine hK4 _ _ ?_; try clear hK4 K4
   refine wp_seq_k ?_; intro K13 hK13
   refine wp_region_lit ?_
   refine l_ev hf trivial rfl rfl (ev_move hf rfl) ?_; intro a hf
   refine l_ev hf trivial rfl rfl (ev_assign hf rfl) ?_; intro a hf
   refine wpList_nil ?_
   refine hK13 _ _ ?_; try clear hK13 K13
   refine wp_ret ?_
   refine c_ret hf (res1 hf rfl rfl) ?_
   have hfin : toS n g s0 = s0 := by unfold toS; split; rw [if_neg (h9 (by assumption))]; split; rw [if_neg (by simpa using h11 (by assumption))]; rfl
   exact ⟨by rw [hfin], hW⟩
end Go.Proofs.YtfgnmflfiobkmaaGreat
namespace Go.Proofs.YtfgnmflfiobkmaaGreat
open Go.RowKit
def entI (p : Int × Int × Nat) : MapEntry := { key := .int .i64 p.1, val := .int .i64 p.2.1, born := p.2.2 }
def MapI (w : World) (b : Nat) (l : List (Int × Int × Nat)) (clock : Nat) : Prop := w.heap[b]? = some (.map (l.map entI).toArray clock)
theorem findNow_none {k : IntKind} {x : Int} : ∀ (l : List (Int × Int × Nat)) (i : Nat), (l.all fun p => p.1 != x) = true → Instr.findNow (.int k) (.int .i64 x) (l.map entI) i = some none
  | [], _, _ => rfl
  | p :: l, i, h => by
    simp only [List.all_cons, Bool.and_eq_true, bne_iff_ne] at h
    have h1 : (x == p.1) = false := by simpa using Ne.symm h.1
    simp only [List.map_cons, Instr.findNow, entI, Instr.sameNow, if_true, h1]
    exact findNow_none l (i + 1) h.2
theorem findNow_some {k : IntKind} {x v : Int} : ∀ (l : List (Int × Int × Nat)) (i : Nat), (l.find? fun p => p.1 == x).map (fun p => p.2.1) = some v → ∃ j, Instr.findNow (.int k) (.int .i64 x) (l.map entI) i = some (some (j, .int .i64 v))
  | [], _, h => by cases h
  | p :: l, i, h => by
    by_cases hx : p.1 = x
    · refine ⟨i, ?_⟩
      have h1 : (p.1 == x) = true := by simpa using hx
      simp only [List.find?_cons, h1, Option.map_some, Option.some.injEq] at h
      have h2 : (x == p.1) = true := by simpa using hx.symm
      simp only [List.map_cons, Instr.findNow, entI, Instr.sameNow, if_true, h2, h]
    · have h1 : (p.1 == x) = false := by simpa using hx
      simp only [List.find?_cons, h1] at h
      obtain ⟨j, hj⟩ := findNow_some (k := k) l (i + 1) h
      refine ⟨j, ?_⟩
      have h2 : (x == p.1) = false := by simpa using fun e => hx e.symm
      simp only [List.map_cons, Instr.findNow, entI, Instr.sameNow, if_true, h2]
      exact hj
theorem MapI.below {w w' : World} {b clock : Nat} {l : List (Int × Int × Nat)} (h : MapI w b l clock) (hb : Below w.heap.size w w') : MapI w' b l clock := by
  have hlt : b < w.heap.size := by
    rcases Nat.lt_or_ge b w.heap.size with h' | h'
    · exact h'
    · simp [MapI, Array.getElem?_eq_none h'] at h
  exact (hb.block b hlt).trans h
theorem MapI.only {w w' : World} {b b' clock : Nat} {l : List (Int × Int × Nat)} (h : MapI w b l clock) (ho : Only b' w w') (hne : b ≠ b') : MapI w' b l clock := (ho.block b hne).trans h
theorem MapI.ne {w : World} {b b' clock : Nat} {l : List (Int × Int × Nat)} {T : TypeId} {cs : List Value} (h : MapI w b l clock) (hb : Blk w b' T cs) : b ≠ b' := by
  rintro rfl
  unfold MapI at h
  unfold Blk at hb
  rw [h] at hb
  cases hb
section
variable {P : Program} {a : Act} {w : World} {n : Nat} {e : Env} {ty : TypeId} {pos : String} {af : Array Edge} {g : Option (Nat × Bool)} {d : Option Tmp}
theorem ef_makeMap {T : TypeId} : Ef P ⟨d, .makeMap T none, ty, pos, af, g⟩ a w (fun v w' => ∃ b, v = .map (some b) ∧ w.heap.size ≤ b ∧ Below w.heap.size w w' ∧ MapI w' b [] 0) := by
  refine (Ef.of_run (v := .map (some w.heap.size)) (w' := w.alloc (.map #[] 0)) ?_).mono fun v w' ⟨e1, e2⟩ => ?_
  · rfl
  · subst e1; subst e2
    exact ⟨_, rfl, Nat.le_refl _, (Below.refl _ _).alloc (Nat.le_refl _) _, heap_alloc_new w _⟩
theorem ef_insert {T K E : TypeId} {m x y : Operand} {b clock : Nat} {l : List (Int × Int × Nat)} {i j : Int} (hf : Fr a n e) (hm : ev e m = some (.map (some b))) (hx : ev e x = some (.int .i64 i)) (hy : ev e y = some (.int .i64 j)) (hT : P.underlying T = some (.map K E)) (hK : P.underlying K = some (.int .i64)) (hM : MapI w b l clock) (hnew : (l.all fun p => p.1 != i) = true) :
    Ef P ⟨d, .insert T m x y, ty, pos, af, g⟩ a w (fun _ w' => Only b w w' ∧ MapI w' b (l ++ [(i, j, clock)]) (clock + 1)) := by
  have hfind := findNow_none (k := .i64) l 0 hnew
  have hck : (Instr.checkKey false 10000 K (.int .i64 i)).run P w = .ok () w := MapKept.run_checkKey hK (show MapKept.IsKey (.int .i64) (.int .i64 i) from rfl) false 9999
  have hlt : b < w.heap.size := by
    rcases Nat.lt_or_ge b w.heap.size with h' | h'
    · exact h'
    · simp [MapI, Array.getElem?_eq_none h'] at hM
  unfold MapI at hM
  refine (Ef.of_skip (w' := { w with heap := w.heap.setIfInBounds b (.map ((l ++ [(i, j, clock)]).map entI).toArray (clock + 1)) }) ?_).mono fun v w' ⟨_, e2⟩ => ?_
  · simp [execOp, Instr.mapUpdate, hf.ev hm, hf.ev hx, hf.ev hy, run_under hT, getObj, hM, hck, Instr.findKey, run_under hK, hfind, setObj, Sem.run, entI]
  · subst e2
    refine ⟨⟨rfl, rfl, rfl, by simp, fun k hk => ?_⟩, ?_⟩
    · show (w.heap.setIfInBounds b _)[k]? = _
      rw [Array.getElem?_setIfInBounds_ne (Ne.symm hk)]
    · show (w.heap.setIfInBounds b _)[b]? = _
      simp [hlt]
theorem ev_lookup {T K E : TypeId} {m x : Operand} {b clock : Nat} {l : List (Int × Int × Nat)} {i v : Int} (hf : Fr a n e) (hm : ev e m = some (.map (some b))) (hx : ev e x = some (.int .i64 i)) (hT : P.underlying T = some (.map K E)) (hK : P.underlying K = some (.int .i64)) (hM : MapI w b l clock) (hv : (l.find? fun p => p.1 == i).map (fun p => p.2.1) = some v) :
    Ev P ⟨d, .lookup T m x false, ty, pos, af, g⟩ a w (.int .i64 v) := fun w' hw => by
  obtain ⟨j, hj⟩ := findNow_some (k := .i64) l 0 hv
  have hM' := hM.below hw
  have hck : ∀ em, (Instr.checkKey em 10000 K (.int .i64 i)).run P w' = .ok () w' := fun em => MapKept.run_checkKey hK (show MapKept.IsKey (.int .i64) (.int .i64 i) from rfl) em 9999
  unfold MapI at hM'
  simp [execOp, Instr.lookup, hf.ev hm, hf.ev hx, run_under hT, getObj, Sem.run, hM', hck, Instr.findKey, run_under hK, hj]
end
end Go.Proofs.YtfgnmflfiobkmaaGreat
set_option maxRecDepth 4000
namespace Go.Proofs.YtfgnmflfiobkmaaGreat
open Go.RowKit
theorem F221 (w0 : World) (k : Int) (i : Int) (j : Int) (hk : 1 ≤ k ∧ k ≤ 8) (hj : j = 0 ∨ j = 1) : Ret Tryz.prog 221 [.int .i64 k, .int .i64 i, .int .i64 j] w0 (fun v w => v = dV (entryI k i j) ∧ Below w0.heap.size w0 w) := by
 refine enter Tryz.func221 rfl 67 rfl rfl ?_
 intro a hf
 have hW : Below w0.heap.size w0 w0 := Below.refl _ _
 refine wp_seq_k ?_; intro K1 hK1
 refine wp_region_lit ?_
 refine l_eff hf trivial rfl rfl (ef_alloc (zs := [.int .i64 0, .int .i64 0, .int .i64 0, .int .i64 0, .int .i64 0]) z_189 rfl) ?_; rintro a _ w1 ⟨b2, rfl, hl2, hE, hB2⟩ hf
 have hlo2 := Nat.le_trans hW.size hl2
 replace hW := hW.trans (hE.mono hW.size)
 clear hE
 refine wpList_nil ?_
 refine hK1 _ _ ?_; try clear hK1 K1
 refine wp_seq_k ?_; intro K3 hK3
 refine wp_region_lit ?_
 refine l_ev hf trivial rfl rfl (ev_build (ps := [(0, .int .i64 1)]) (cs := [.int .i64 1, .int .i64 0, .int .i64 0, .int .i64 0]) hf rfl (fun _ => by first | rfl | kernel_rfl)) ?_; intro a hf
 refine l_ev hf trivial rfl rfl (ev_build (ps := [(0, .agg #[.int .i64 1, .int .i64 0, .int .i64 0, .int .i64 0]), (1, .int .i64 1)]) (cs := [.int .i64 1, .int .i64 0, .int .i64 0, .int .i64 0, .int .i64 1]) hf rfl (fun _ => by first | rfl | kernel_rfl)) ?_; intro a hf
 refine l_eff hf trivial rfl rfl (ef_alloc (zs := [.int .i64 0, .int .i64 0, .int .i64 0, .int .i64 0, .int .i64 0]) z_189 rfl) ?_; rintro a _ w2 ⟨b4, rfl, hl4, hE, hB4⟩ hf
 have hne2_4 : b2 ≠ b4 := by have := hB2.lt; omega
 have hlo4 := Nat.le_trans hW.size hl4
 replace hB2 := hB2.below hE
 replace hW := hW.trans (hE.mono hW.size)
 clear hE
 refine l_eff0 hf trivial rfl (ef_store (vs := [.int .i64 1, .int .i64 0, .int .i64 0, .int .i64 0, .int .i64 1]) (l' := [.int .i64 1, .int .i64 0, .int .i64 0, .int .i64 0, .int .i64 1]) hf rfl rfl sz_189 hB4 rfl rfl rfl rfl rfl) ?_; rintro a _ w3 ⟨ho, hb⟩ hf
 have hold := hB4
 replace hB2 := hB2.only ho (by omega)
 replace hW := Below.only hW ho hlo4
 clear hold
 have hB4 := hb
 clear hb ho
 refine wpList_nil ?_
 refine hK3 _ _ ?_; try clear hK3 K3
 refine wp_seq_k ?_; intro K5 hK5
 refine wp_region_lit ?_
 refine l_eff hf trivial rfl rfl (ef_makeMap) ?_; rintro a _ w4 ⟨b6, rfl, hl6, hE, hM6⟩ hf
 have hlo6 := Nat.le_trans hW.size hl6
 replace hB2 := hB2.below hE
 replace hB4 := hB4.below hE
 replace hW := hW.trans (hE.mono hW.size)
 clear hE
 refine l_eff0 hf trivial rfl (ef_insert (l := []) (clock := 0) hf rfl rfl rfl Tryz.underlying272 Tryz.underlying3 hM6 rfl) ?_; rintro a _ w5 ⟨ho, hmap⟩ hf
 replace hB2 := hB2.only ho (Ne.symm (hM6.ne hB2))
 replace hB4 := hB4.only ho (Ne.symm (hM6.ne hB4))
 replace hW := Below.only hW ho hlo6
 replace hM6 := hmap; clear hmap ho
 refine l_eff0 hf trivial rfl (ef_insert (l := [(4, 4, 0)]) (clock := 1) hf rfl rfl rfl Tryz.underlying272 Tryz.underlying3 hM6 rfl) ?_; rintro a _ w6 ⟨ho, hmap⟩ hf
 replace hB2 := hB2.only ho (Ne.symm (hM6.ne hB2))
 replace hB4 := hB4.only ho (Ne.symm (hM6.ne hB4))
 replace hW := Below.only hW ho hlo6
 replace hM6 := hmap; clear hmap ho
 refine l_eff0 hf trivial rfl (ef_insert (l := [(4, 4, 0), (5, 2, 1)]) (clock := 2) hf rfl rfl rfl Tryz.underlying272 Tryz.underlying3 hM6 rfl) ?_; rintro a _ w7 ⟨ho, hmap⟩ hf
 replace hB2 := hB2.only ho (Ne.symm (hM6.ne hB2))
 replace hB4 := hB4.only ho (Ne.symm (hM6.ne hB4))
 replace hW := Below.only hW ho hlo6
 replace hM6 := hmap; clear hmap ho
 refine l_eff0 hf trivial rfl (ef_insert (l := [(4, 4, 0), (5, 2, 1), (6, 6, 2)]) (clock := 3) hf rfl rfl rfl Tryz.underlying272 Tryz.underlying3 hM6 rfl) ?_; rintro a _ w8 ⟨ho, hmap⟩ hf
 replace hB2 := hB2.only ho (Ne.symm (hM6.ne hB2))
 replace hB4 := hB4.only ho (Ne.symm (hM6.ne hB4))
 replace hW := Below.only hW ho hlo6
 replace hM6 := hmap; clear hmap ho
 refine l_eff0 hf trivial rfl (ef_insert (l := [(4, 4, 0), (5, 2, 1), (6, 6, 2), (7, 1, 3)]) (clock := 4) hf rfl rfl rfl Tryz.underlying272 Tryz.underlying3 hM6 rfl) ?_; rintro a _ w9 ⟨ho, hmap⟩ hf
 replace hB2 := hB2.only ho (Ne.symm (hM6.ne hB2))
 replace hB4 := hB4.only ho (Ne.symm (hM6.ne hB4))
 replace hW := Below.only hW ho hlo6
 replace hM6 := hmap; clear hmap ho
 refine l_ev hf trivial rfl rfl (ev_move hf rfl) ?_; intro a hf
 refine l_ev hf trivial rfl rfl (ev_assign hf rfl) ?_; intro a hf
 refine wpList_nil ?_
 refine hK5 _ _ ?_; try clear hK5 K5
 refine wp_seq_k ?_; intro K7 hK7
 refine wp_block ?_
 refine wp_seq_k ?_; intro K8 hK8
 refine wp_region_lit ?_
 refine l_ev hf trivial rfl rfl (ev_move hf rfl) ?_; intro a hf
 refine l_ev hf trivial rfl rfl (ev_eql hf rfl rfl) ?_; intro a hf
 refine l_ev hf trivial rfl rfl (ev_assign hf rfl) ?_; intro a hf
 refine wpList_nil ?_
 refine hK8 _ _ ?_; try clear hK8 K8
 refine c_if hf rfl (fun hc9 => ?_) (fun hc9 => ?_)
 ·have hc9b := hc9
  have e1 : k = 1 := by simpa using hc9
  refine wp_seq_k ?_; intro K10 hK10
  refine wp_seq_k ?_; intro K11 hK11
  refine c_cut (fun a w => Fr a 67 [(6, .pointer (some ⟨b2, 0, none⟩)), (7, .pointer (some ⟨b4, 0, none⟩)), (21, .bool ((i == 1) && (j == 1)))] ∧ w9 = w) ?_ ?_
  ·refine wp_region_lit ?_
   refine l_ev hf trivial rfl rfl (ev_move hf rfl) ?_; intro a hf
   refine l_ev hf trivial rfl rfl (ev_eql hf rfl rfl) ?_; intro a hf
   refine l_ev hf trivial rfl rfl (ev_move hf rfl) ?_; intro a hf
   refine g_split hf (t := 18) rfl (fun hg12 => ?_) (fun hg12 => ?_)
   ·refine l_ev hf ⟨_, _, rfl, rfl, hg12⟩ rfl rfl (ev_move hf rfl) ?_; intro a hf
    refine l_ev hf ⟨_, _, rfl, rfl, hg12⟩ rfl rfl (ev_eql hf rfl rfl) ?_; intro a hf
    refine l_ev hf trivial rfl rfl (ev_pickT hf rfl hg12 rfl) ?_; intro a hf
    refine wpList_nil ?_
    exact ⟨hf.sub ⟨rfl, rfl, look_bool rfl (by first | rfl | simp [hc9b, hg12]), trivial⟩, rfl⟩
   ·refine l_pass hf ⟨_, _, rfl, rfl, hg12⟩ rfl rfl ?_; intro a hf
    refine l_pass hf ⟨_, _, rfl, rfl, hg12⟩ rfl rfl ?_; intro a hf
    refine l_ev hf trivial rfl rfl (ev_pickF hf rfl hg12 rfl) ?_; intro a hf
    refine wpList_nil ?_
    exact ⟨hf.sub ⟨rfl, rfl, look_bool rfl (by first | rfl | simp [hc9b, hg12]), trivial⟩, rfl⟩
  rintro a _ ⟨hf, rfl⟩
  refine hK11 _ _ ?_; try clear hK11 K11
  refine c_if hf rfl (fun hc13 => ?_) (fun hc13 => ?_)
  ·have hc13b := hc13
   have hfin : entryI k i j = ⟨⟨-1, 0, 0, 0⟩, 1⟩ := by rw [entryI, if_pos e1, if_pos (by simpa using hc13)]
   refine wp_region_lit ?_
   refine l_ev hf trivial rfl rfl (ev_fieldB hf rfl fd_189_0 (m := 0) rfl) ?_; intro a hf
   refine l_ev hf trivial rfl rfl (ev_fieldB hf rfl fd_187_0 (m := 0) rfl) ?_; intro a hf
   refine l_eff0 hf trivial rfl (ef_store (vs := [.int .i64 (-1)]) (l' := [.int .i64 (-1), .int .i64 0, .int .i64 0, .int .i64 0, .int .i64 1]) hf rfl rfl sz_3 hB4 rfl rfl rfl rfl rfl) ?_; rintro a _ w10 ⟨ho, hb⟩ hf
   have hold := hB4
   replace hB2 := hB2.only ho (by omega)
   replace hM6 := hM6.only ho (hM6.ne hold)
   replace hW := Below.only hW ho hlo4
   clear hold
   have hB4 := hb
   clear hb ho
   refine wpList_nil ?_
   refine hK10 _ _ ?_; try clear hK10 K10
   refine wp_seq_k ?_; intro K14 hK14
   refine wp_region_lit ?_
   refine l_ev hf trivial rfl rfl (ev_loadN (l := [.int .i64 (-1), .int .i64 0, .int .i64 0, .int .i64 0, .int .i64 1]) hf rfl tN_189 (hB4.at 0) rfl) ?_; intro a hf
   refine l_eff0 hf trivial rfl (ef_store (vs := [.int .i64 (-1), .int .i64 0, .int .i64 0, .int .i64 0, .int .i64 1]) (l' := [.int .i64 (-1), .int .i64 0, .int .i64 0, .int .i64 0, .int .i64 1]) hf rfl rfl sz_189 hB2 rfl rfl rfl rfl rfl) ?_; rintro a _ w11 ⟨ho, hb⟩ hf
   have hold := hB2
   replace hB4 := hB4.only ho (by omega)
   replace hM6 := hM6.only ho (hM6.ne hold)
   replace hW := Below.only hW ho hlo2
   clear hold
   have hB2 := hb
   clear hb ho
   refine wpList_nil ?_
   refine hK14 _ _ ?_; try clear hK14 K14
   refine wp_ret ?_
   refine x_retB ?_
   refine x_retS ?_
   refine c_ret hf (res1 hf rfl (ResV.cellN (l := [.int .i64 (-1), .int .i64 0, .int .i64 0, .int .i64 0, .int .i64 1]) rfl tN_189 (hB2.at 0) rfl)) ?_
   exact ⟨(by rw [hfin]; try rfl), hW⟩
  ·have hc13b := hc13
   have hfin : entryI k i j = dHalf := by rw [entryI, if_pos e1, if_neg (by simpa using hc13)]
   refine wp_skip ?_
   refine hK10 _ _ ?_; try clear hK10 K10
   refine wp_seq_k ?_; intro K15 hK15
   refine wp_region_lit ?_
   refine l_ev hf trivial rfl rfl (ev_loadN (l := [.int .i64 1, .int .i64 0, .int .i64 0, .int .i64 0, .int .i64 1]) hf rfl tN_189 (hB4.at 0) rfl) ?_; intro a hf
   refine l_eff0 hf trivial rfl (ef_store (vs := [.int .i64 1, .int .i64 0, .int .i64 0, .int .i64 0, .int .i64 1]) (l' := [.int .i64 1, .int .i64 0, .int .i64 0, .int .i64 0, .int .i64 1]) hf rfl rfl sz_189 hB2 rfl rfl rfl rfl rfl) ?_; rintro a _ w12 ⟨ho, hb⟩ hf
   have hold := hB2
   replace hB4 := hB4.only ho (by omega)
   replace hM6 := hM6.only ho (hM6.ne hold)
   replace hW := Below.only hW ho hlo2
   clear hold
   have hB2 := hb
   clear hb ho
   refine wpList_nil ?_
   refine hK15 _ _ ?_; try clear hK15 K15
   refine wp_ret ?_
   refine x_retB ?_
   refine x_retS ?_
   refine c_ret hf (res1 hf rfl (ResV.cellN (l := [.int .i64 1, .int .i64 0, .int .i64 0, .int .i64 0, .int .i64 1]) rfl tN_189 (hB2.at 0) rfl)) ?_
   exact ⟨(by rw [hfin]; try rfl), hW⟩
 ·have hc9b := hc9
  have e1 : ¬ k = 1 := by simpa using hc9
  refine wp_seq_k ?_; intro K16 hK16
  refine c_cut (fun a w => Fr a 67 [(0, .int .i64 k), (1, .int .i64 i), (2, .int .i64 j), (6, .pointer (some ⟨b2, 0, none⟩)), (8, .map (some b6)), (25, .bool ((k == 2) && (i != j)))] ∧ w9 = w) ?_ ?_
  ·refine wp_region_lit ?_
   refine l_ev hf trivial rfl rfl (ev_move hf rfl) ?_; intro a hf
   refine l_ev hf trivial rfl rfl (ev_eql hf rfl rfl) ?_; intro a hf
   refine l_ev hf trivial rfl rfl (ev_move hf rfl) ?_; intro a hf
   refine g_split hf (t := 28) rfl (fun hg17 => ?_) (fun hg17 => ?_)
   ·refine l_ev hf ⟨_, _, rfl, rfl, hg17⟩ rfl rfl (ev_move hf rfl) ?_; intro a hf
    refine l_ev hf ⟨_, _, rfl, rfl, hg17⟩ rfl rfl (ev_move hf rfl) ?_; intro a hf
    refine l_ev hf ⟨_, _, rfl, rfl, hg17⟩ rfl rfl (ev_neq hf rfl rfl) ?_; intro a hf
    refine l_ev hf trivial rfl rfl (ev_pickT hf rfl hg17 rfl) ?_; intro a hf
    refine l_ev hf trivial rfl rfl (ev_assign hf rfl) ?_; intro a hf
    refine wpList_nil ?_
    exact ⟨hf.sub ⟨rfl, rfl, rfl, rfl, rfl, look_bool rfl (by first | rfl | simp [hc9b, hg17]), trivial⟩, rfl⟩
   ·refine l_pass hf ⟨_, _, rfl, rfl, hg17⟩ rfl rfl ?_; intro a hf
    refine l_pass hf ⟨_, _, rfl, rfl, hg17⟩ rfl rfl ?_; intro a hf
    refine l_pass hf ⟨_, _, rfl, rfl, hg17⟩ rfl rfl ?_; intro a hf
    refine l_ev hf trivial rfl rfl (ev_pickF hf rfl hg17 rfl) ?_; intro a hf
    refine l_ev hf trivial rfl rfl (ev_assign hf rfl) ?_; intro a hf
    refine wpList_nil ?_
    exact ⟨hf.sub ⟨rfl, rfl, rfl, rfl, rfl, look_bool rfl (by first | rfl | simp [hc9b, hg17]), trivial⟩, rfl⟩
  rintro a _ ⟨hf, rfl⟩
  refine hK16 _ _ ?_; try clear hK16 K16
  refine c_if hf rfl (fun hc18 => ?_) (fun hc18 => ?_)
  ·have hc18b := hc18
   have hfin : entryI k i j = ⟨⟨1, 0, 0, 0⟩, 0⟩ := by rw [entryI, if_neg e1, if_pos (by simpa using hc18)]
   refine wp_seq_k ?_; intro K19 hK19
   refine wp_region_lit ?_
   refine l_eff hf trivial rfl rfl (ef_call (vs := [.int .i64 1]) hf rfl ff_187 (F187 _ 1)) ?_; rintro a _ w13 ⟨rfl, hE⟩ hf
   replace hB2 := hB2.below hE
   replace hB4 := hB4.below hE
   replace hM6 := hM6.below hE
   replace hW := hW.trans (hE.mono hW.size)
   clear hE
   refine l_eff0 hf trivial rfl (ef_store (vs := [.int .i64 ((⟨⟨1, 0, 0, 0⟩, 0⟩ : Dy).num.a), .int .i64 ((⟨⟨1, 0, 0, 0⟩, 0⟩ : Dy).num.b), .int .i64 ((⟨⟨1, 0, 0, 0⟩, 0⟩ : Dy).num.c), .int .i64 ((⟨⟨1, 0, 0, 0⟩, 0⟩ : Dy).num.d), .int .i64 ((⟨⟨1, 0, 0, 0⟩, 0⟩ : Dy).exp)]) (l' := [.int .i64 ((⟨⟨1, 0, 0, 0⟩, 0⟩ : Dy).num.a), .int .i64 ((⟨⟨1, 0, 0, 0⟩, 0⟩ : Dy).num.b), .int .i64 ((⟨⟨1, 0, 0, 0⟩, 0⟩ : Dy).num.c), .int .i64 ((⟨⟨1, 0, 0, 0⟩, 0⟩ : Dy).num.d), .int .i64 ((⟨⟨1, 0, 0, 0⟩, 0⟩ : Dy).exp)]) hf rfl rfl sz_189 hB2 rfl rfl rfl rfl rfl) ?_; rintro a _ w14 ⟨ho, hb⟩ hf
   have hold := hB2
   replace hB4 := hB4.only ho (by omega)
   replace hM6 := hM6.only ho (hM6.ne hold)
   replace hW := Below.only hW ho hlo2
   clear hold
   have hB2 := hb
   clear hb ho
   refine wpList_nil ?_
   refine hK19 _ _ ?_; try clear hK19 K19
   refine wp_ret ?_
   refine x_retB ?_
   refine x_retS ?_
   refine c_ret hf (res1 hf rfl (ResV.cellN (l := [.int .i64 ((⟨⟨1, 0, 0, 0⟩, 0⟩ : Dy).num.a), .int .i64 ((⟨⟨1, 0, 0, 0⟩, 0⟩ : Dy).num.b), .int .i64 ((⟨⟨1, 0, 0, 0⟩, 0⟩ : Dy).num.c), .int .i64 ((⟨⟨1, 0, 0, 0⟩, 0⟩ : Dy).num.d), .int .i64 ((⟨⟨1, 0, 0, 0⟩, 0⟩ : Dy).exp)]) rfl tN_189 (hB2.at 0) rfl)) ?_
   exact ⟨(by rw [hfin]; try rfl), hW⟩
  ·have hc18b := hc18
   have e2 : ¬ (k = 2 ∧ i ≠ j) := by simpa using hc18
   refine wp_seq_k ?_; intro K20 hK20
   refine c_cut (fun a w => Fr a 67 [(0, .int .i64 k), (1, .int .i64 i), (2, .int .i64 j), (6, .pointer (some ⟨b2, 0, none⟩)), (8, .map (some b6)), (34, .bool ((k == 3) && (i != j)))] ∧ w9 = w) ?_ ?_
   ·refine wp_region_lit ?_
    refine l_ev hf trivial rfl rfl (ev_move hf rfl) ?_; intro a hf
    refine l_ev hf trivial rfl rfl (ev_eql hf rfl rfl) ?_; intro a hf
    refine l_ev hf trivial rfl rfl (ev_move hf rfl) ?_; intro a hf
    refine g_split hf (t := 37) rfl (fun hg21 => ?_) (fun hg21 => ?_)
    ·refine l_ev hf ⟨_, _, rfl, rfl, hg21⟩ rfl rfl (ev_move hf rfl) ?_; intro a hf
     refine l_ev hf ⟨_, _, rfl, rfl, hg21⟩ rfl rfl (ev_move hf rfl) ?_; intro a hf
     refine l_ev hf ⟨_, _, rfl, rfl, hg21⟩ rfl rfl (ev_neq hf rfl rfl) ?_; intro a hf
     refine l_ev hf trivial rfl rfl (ev_pickT hf rfl hg21 rfl) ?_; intro a hf
     refine l_ev hf trivial rfl rfl (ev_assign hf rfl) ?_; intro a hf
     refine wpList_nil ?_
     exact ⟨hf.sub ⟨rfl, rfl, rfl, rfl, rfl, look_bool rfl (by first | rfl | simp [hc9b, hc18b, hg21]), trivial⟩, rfl⟩
    ·refine l_pass hf ⟨_, _, rfl, rfl, hg21⟩ rfl rfl ?_; intro a hf
     refine l_pass hf ⟨_, _, rfl, rfl, hg21⟩ rfl rfl ?_; intro a hf
     refine l_pass hf ⟨_, _, rfl, rfl, hg21⟩ rfl rfl ?_; intro a hf
     refine l_ev hf trivial rfl rfl (ev_pickF hf rfl hg21 rfl) ?_; intro a hf
     refine l_ev hf trivial rfl rfl (ev_assign hf rfl) ?_; intro a hf
     refine wpList_nil ?_
     exact ⟨hf.sub ⟨rfl, rfl, rfl, rfl, rfl, look_bool rfl (by first | rfl | simp [hc9b, hc18b, hg21]), trivial⟩, rfl⟩
   rintro a _ ⟨hf, rfl⟩
   refine hK20 _ _ ?_; try clear hK20 K20
   refine c_if hf rfl (fun hc22 => ?_) (fun hc22 => ?_)
   ·have hc22b := hc22
    have e33 : k = 3 ∧ i ≠ j := (by simpa using hc22)
    have hfin : entryI k i j = dPow (2 + 4 * j) := by rw [entryI, if_neg e1, if_neg e2, if_pos e33]
    refine wp_seq_k ?_; intro K23 hK23
    refine wp_region_lit ?_
    refine l_ev hf trivial rfl rfl (ev_move hf rfl) ?_; intro a hf
    refine l_ev hf trivial rfl rfl (ev_mulx hf rfl rfl (by omega) (by omega)) ?_; intro a hf
    refine l_ev hf trivial rfl rfl (ev_addx hf rfl rfl (by omega) (by omega)) ?_; intro a hf
    refine l_eff hf trivial rfl rfl (ef_call (vs := [.int .i64 (2 + (4 * j))]) hf rfl ff_140 (F140 _ (2 + (4 * j)) (inR_iff.2 ⟨by omega, by omega⟩))) ?_; rintro a _ w15 ⟨rfl, hE⟩ hf
    replace hB2 := hB2.below hE
    replace hB4 := hB4.below hE
    replace hM6 := hM6.below hE
    replace hW := hW.trans (hE.mono hW.size)
    clear hE
    refine l_eff0 hf trivial rfl (ef_store (vs := [.int .i64 ((dPow (2 + (4 * j))).num.a), .int .i64 ((dPow (2 + (4 * j))).num.b), .int .i64 ((dPow (2 + (4 * j))).num.c), .int .i64 ((dPow (2 + (4 * j))).num.d), .int .i64 ((dPow (2 + (4 * j))).exp)]) (l' := [.int .i64 ((dPow (2 + (4 * j))).num.a), .int .i64 ((dPow (2 + (4 * j))).num.b), .int .i64 ((dPow (2 + (4 * j))).num.c), .int .i64 ((dPow (2 + (4 * j))).num.d), .int .i64 ((dPow (2 + (4 * j))).exp)]) hf rfl rfl sz_189 hB2 rfl rfl rfl rfl rfl) ?_; rintro a _ w16 ⟨ho, hb⟩ hf
    have hold := hB2
    replace hB4 := hB4.only ho (by omega)
    replace hM6 := hM6.only ho (hM6.ne hold)
    replace hW := Below.only hW ho hlo2
    clear hold
    have hB2 := hb
    clear hb ho
    refine wpList_nil ?_
    refine hK23 _ _ ?_; try clear hK23 K23
    refine wp_ret ?_
    refine x_retB ?_
    refine x_retS ?_
    refine c_ret hf (res1 hf rfl (ResV.cellN (l := [.int .i64 ((dPow (2 + (4 * j))).num.a), .int .i64 ((dPow (2 + (4 * j))).num.b), .int .i64 ((dPow (2 + (4 * j))).num.c), .int .i64 ((dPow (2 + (4 * j))).num.d), .int .i64 ((dPow (2 + (4 * j))).exp)]) rfl tN_189 (hB2.at 0) rfl)) ?_
    exact ⟨(by rw [hfin]; try rfl), hW⟩
   ·have hc22b := hc22
    have e3 : ¬ (k = 3 ∧ i ≠ j) := by simpa using hc22
    refine wp_seq_k ?_; intro K24 hK24
    refine c_cut (fun a w => Fr a 67 [(0, .int .i64 k), (1, .int .i64 i), (6, .pointer (some ⟨b2, 0, none⟩)), (8, .map (some b6)), (46, .bool (((k == 2) || (k == 3)) || (i != j)))] ∧ w9 = w) ?_ ?_
    ·refine wp_region_lit ?_
     refine l_ev hf trivial rfl rfl (ev_move hf rfl) ?_; intro a hf
     refine l_ev hf trivial rfl rfl (ev_eql hf rfl rfl) ?_; intro a hf
     refine l_ev hf trivial rfl rfl (ev_move hf rfl) ?_; intro a hf
     refine g_split hf (t := 49) rfl (fun hg25 => ?_) (fun hg25 => ?_)
     ·refine l_pass hf ⟨_, _, rfl, rfl, hg25⟩ rfl rfl ?_; intro a hf
      refine l_pass hf ⟨_, _, rfl, rfl, hg25⟩ rfl rfl ?_; intro a hf
      refine l_ev hf trivial rfl rfl (ev_pickT hf rfl hg25 rfl) ?_; intro a hf
      refine l_ev hf trivial rfl rfl (ev_move hf rfl) ?_; intro a hf
      refine l_pass hf ⟨_, _, rfl, rfl, rfl⟩ rfl rfl ?_; intro a hf
      refine l_pass hf ⟨_, _, rfl, rfl, rfl⟩ rfl rfl ?_; intro a hf
      refine l_pass hf ⟨_, _, rfl, rfl, rfl⟩ rfl rfl ?_; intro a hf
      refine l_ev hf trivial rfl rfl (ev_pickT hf rfl rfl rfl) ?_; intro a hf
      refine l_ev hf trivial rfl rfl (ev_assign hf rfl) ?_; intro a hf
      refine wpList_nil ?_
      exact ⟨hf.sub ⟨rfl, rfl, rfl, rfl, look_bool rfl (by first | rfl | simp [hc9b, hc18b, hc22b, hg25]), trivial⟩, rfl⟩
     ·refine l_ev hf ⟨_, _, rfl, rfl, hg25⟩ rfl rfl (ev_move hf rfl) ?_; intro a hf
      refine l_ev hf ⟨_, _, rfl, rfl, hg25⟩ rfl rfl (ev_eql hf rfl rfl) ?_; intro a hf
      refine l_ev hf trivial rfl rfl (ev_pickF hf rfl hg25 rfl) ?_; intro a hf
      refine l_ev hf trivial rfl rfl (ev_move hf rfl) ?_; intro a hf
      refine g_split hf (t := 53) rfl (fun hg26 => ?_) (fun hg26 => ?_)
      ·refine l_pass hf ⟨_, _, rfl, rfl, hg26⟩ rfl rfl ?_; intro a hf
       refine l_pass hf ⟨_, _, rfl, rfl, hg26⟩ rfl rfl ?_; intro a hf
       refine l_pass hf ⟨_, _, rfl, rfl, hg26⟩ rfl rfl ?_; intro a hf
       refine l_ev hf trivial rfl rfl (ev_pickT hf rfl hg26 rfl) ?_; intro a hf
       refine l_ev hf trivial rfl rfl (ev_assign hf rfl) ?_; intro a hf
       refine wpList_nil ?_
       exact ⟨hf.sub ⟨rfl, rfl, rfl, rfl, look_bool rfl (by first | rfl | simp [hc9b, hc18b, hc22b, hg25, hg26]), trivial⟩, rfl⟩
      ·refine l_ev hf ⟨_, _, rfl, rfl, hg26⟩ rfl rfl (ev_move hf rfl) ?_; intro a hf
       refine l_ev hf ⟨_, _, rfl, rfl, hg26⟩ rfl rfl (ev_move hf rfl) ?_; intro a hf
       refine l_ev hf ⟨_, _, rfl, rfl, hg26⟩ rfl rfl (ev_neq hf rfl rfl) ?_; intro a hf
       refine l_ev hf trivial rfl rfl (ev_pickF hf rfl hg26 rfl) ?_; intro a hf
       refine l_ev hf trivial rfl rfl (ev_assign hf rfl) ?_; intro a hf
       refine wpList_nil ?_
       exact ⟨hf.sub ⟨rfl, rfl, rfl, rfl, look_bool rfl (by first | rfl | simp [hc9b, hc18b, hc22b, hg25, hg26]), trivial⟩, rfl⟩
    rintro a _ ⟨hf, rfl⟩
    refine hK24 _ _ ?_; try clear hK24 K24
    refine c_if hf rfl (fun hc27 => ?_) (fun hc27 => ?_)
    ·have hc27b := hc27
     have hfin : entryI k i j = dZ := by rw [entryI, if_neg e1, if_neg e2, if_neg e3, if_pos (by simpa [or_assoc] using hc27)]
     refine wp_seq_k ?_; intro K28 hK28
     refine wp_region_lit ?_
     refine l_ev hf trivial rfl rfl (ev_build (ps := []) (cs := [.int .i64 0, .int .i64 0, .int .i64 0, .int .i64 0, .int .i64 0]) hf rfl (fun _ => by first | rfl | kernel_rfl)) ?_; intro a hf
     refine l_eff0 hf trivial rfl (ef_store (vs := [.int .i64 0, .int .i64 0, .int .i64 0, .int .i64 0, .int .i64 0]) (l' := [.int .i64 0, .int .i64 0, .int .i64 0, .int .i64 0, .int .i64 0]) hf rfl rfl sz_189 hB2 rfl rfl rfl rfl rfl) ?_; rintro a _ w17 ⟨ho, hb⟩ hf
     have hold := hB2
     replace hB4 := hB4.only ho (by omega)
     replace hM6 := hM6.only ho (hM6.ne hold)
     replace hW := Below.only hW ho hlo2
     clear hold
     have hB2 := hb
     clear hb ho
     refine wpList_nil ?_
     refine hK28 _ _ ?_; try clear hK28 K28
     refine wp_ret ?_
     refine x_retB ?_
     refine x_retS ?_
     refine c_ret hf (res1 hf rfl (ResV.cellN (l := [.int .i64 0, .int .i64 0, .int .i64 0, .int .i64 0, .int .i64 0]) rfl tN_189 (hB2.at 0) rfl)) ?_
     exact ⟨(by rw [hfin]; try rfl), hW⟩
    ·have hc27b := hc27
     have e4 : ¬ (k = 2 ∨ k = 3 ∨ i ≠ j) := by simpa [not_or, and_assoc] using hc27
     refine wp_seq_k ?_; intro K29 hK29
     refine wp_region_lit ?_
     refine l_ev hf trivial rfl rfl (ev_move hf rfl) ?_; intro a hf
     refine l_ev hf trivial rfl rfl (ev_eql hf rfl rfl) ?_; intro a hf
     refine l_ev hf trivial rfl rfl (ev_assign hf rfl) ?_; intro a hf
     refine wpList_nil ?_
     refine hK29 _ _ ?_; try clear hK29 K29
     refine c_if hf rfl (fun hc30 => ?_) (fun hc30 => ?_)
     ·have hc30b := hc30
      have hfin : entryI k i j = ⟨⟨1, 0, 0, 0⟩, 0⟩ := by rw [entryI, if_neg e1, if_neg e2, if_neg e3, if_neg e4, if_pos (by simpa using hc30)]
      refine wp_seq_k ?_; intro K31 hK31
      refine wp_region_lit ?_
      refine l_eff hf trivial rfl rfl (ef_call (vs := [.int .i64 1]) hf rfl ff_187 (F187 _ 1)) ?_; rintro a _ w18 ⟨rfl, hE⟩ hf
      replace hB2 := hB2.below hE
      replace hB4 := hB4.below hE
      replace hM6 := hM6.below hE
      replace hW := hW.trans (hE.mono hW.size)
      clear hE
      refine l_eff0 hf trivial rfl (ef_store (vs := [.int .i64 ((⟨⟨1, 0, 0, 0⟩, 0⟩ : Dy).num.a), .int .i64 ((⟨⟨1, 0, 0, 0⟩, 0⟩ : Dy).num.b), .int .i64 ((⟨⟨1, 0, 0, 0⟩, 0⟩ : Dy).num.c), .int .i64 ((⟨⟨1, 0, 0, 0⟩, 0⟩ : Dy).num.d), .int .i64 ((⟨⟨1, 0, 0, 0⟩, 0⟩ : Dy).exp)]) (l' := [.int .i64 ((⟨⟨1, 0, 0, 0⟩, 0⟩ : Dy).num.a), .int .i64 ((⟨⟨1, 0, 0, 0⟩, 0⟩ : Dy).num.b), .int .i64 ((⟨⟨1, 0, 0, 0⟩, 0⟩ : Dy).num.c), .int .i64 ((⟨⟨1, 0, 0, 0⟩, 0⟩ : Dy).num.d), .int .i64 ((⟨⟨1, 0, 0, 0⟩, 0⟩ : Dy).exp)]) hf rfl rfl sz_189 hB2 rfl rfl rfl rfl rfl) ?_; rintro a _ w19 ⟨ho, hb⟩ hf
      have hold := hB2
      replace hB4 := hB4.only ho (by omega)
      replace hM6 := hM6.only ho (hM6.ne hold)
      replace hW := Below.only hW ho hlo2
      clear hold
      have hB2 := hb
      clear hb ho
      refine wpList_nil ?_
      refine hK31 _ _ ?_; try clear hK31 K31
      refine wp_ret ?_
      refine x_retB ?_
      refine x_retS ?_
      refine c_ret hf (res1 hf rfl (ResV.cellN (l := [.int .i64 ((⟨⟨1, 0, 0, 0⟩, 0⟩ : Dy).num.a), .int .i64 ((⟨⟨1, 0, 0, 0⟩, 0⟩ : Dy).num.b), .int .i64 ((⟨⟨1, 0, 0, 0⟩, 0⟩ : Dy).num.c), .int .i64 ((⟨⟨1, 0, 0, 0⟩, 0⟩ : Dy).num.d), .int .i64 ((⟨⟨1, 0, 0, 0⟩, 0⟩ : Dy).exp)]) rfl tN_189 (hB2.at 0) rfl)) ?_
      exact ⟨(by rw [hfin]; try rfl), hW⟩
     ·have hc30b := hc30
      have hfin : entryI k i j = dPow (turnOf k) := by rw [entryI, if_neg e1, if_neg e2, if_neg e3, if_neg e4, if_neg (by simpa using hc30)]
      refine wp_skip ?_
      refine x_norm ?_
      refine hK7 _ _ ?_; try clear hK7 K7
      refine wp_seq_k ?_; intro K32 hK32
      refine wp_region_lit ?_
      refine l_ev hf trivial rfl rfl (ev_move hf rfl) ?_; intro a hf
      refine l_ev hf trivial rfl rfl (ev_move hf rfl) ?_; intro a hf
      refine l_ev hf trivial rfl rfl (ev_lookup (v := (turnOf k)) hf rfl rfl Tryz.underlying272 Tryz.underlying3 hM6 (turn_find (by omega) (by omega))) ?_; intro a hf
      refine l_eff hf trivial rfl rfl (ef_call (vs := [.int .i64 (turnOf k)]) hf rfl ff_140 (F140 _ (turnOf k) (turnOf_in k))) ?_; rintro a _ w20 ⟨rfl, hE⟩ hf
      replace hB2 := hB2.below hE
      replace hB4 := hB4.below hE
      replace hM6 := hM6.below hE
      replace hW := hW.trans (hE.mono hW.size)
      clear hE
      refine l_eff0 hf trivial rfl (ef_store (vs := [.int .i64 ((dPow (turnOf k)).num.a), .int .i64 ((dPow (turnOf k)).num.b), .int .i64 ((dPow (turnOf k)).num.c), .int .i64 ((dPow (turnOf k)).num.d), .int .i64 ((dPow (turnOf k)).exp)]) (l' := [.int .i64 ((dPow (turnOf k)).num.a), .int .i64 ((dPow (turnOf k)).num.b), .int .i64 ((dPow (turnOf k)).num.c), .int .i64 ((dPow (turnOf k)).num.d), .int .i64 ((dPow (turnOf k)).exp)]) hf rfl rfl sz_189 hB2 rfl rfl rfl rfl rfl) ?_; rintro a _ w21 ⟨ho, hb⟩ hf
      have hold := hB2
      replace hB4 := hB4.only ho (by omega)
      replace hM6 := hM6.only ho (hM6.ne hold)
      replace hW := Below.only hW ho hlo2
      clear hold
      have hB2 := hb
      clear hb ho
      refine wpList_nil ?_
      refine hK32 _ _ ?_; try clear hK32 K32
      refine wp_ret ?_
      refine c_ret hf (res1 hf rfl (ResV.cellN (l := [.int .i64 ((dPow (turnOf k)).num.a), .int .i64 ((dPow (turnOf k)).num.b), .int .i64 ((dPow (turnOf k)).num.c), .int .i64 ((dPow (turnOf k)).num.d), .int .i64 ((dPow (turnOf k)).exp)]) rfl tN_189 (hB2.at 0) rfl)) ?_
      exact ⟨(by rw [hfin]; try rfl), hW⟩
end Go.Proofs.YtfgnmflfiobkmaaGreat
set_option maxRecDepth 4000
namespace Go.Proofs.YtfgnmflfiobkmaaGreat
open Go.RowKit
theorem F217 (w0 : World) (g : Gt) (n : Int) (ba bb : Nat) (hBa : Blk w0 ba 107 (encG g)) (hBb : Blk w0 bb 3 [.int .i64 n]) (hg : gOk n g = true) (i j : Int) : Ret Tryz.prog 217 [.int .i64 i, .int .i64 j, .pointer (some ⟨ba, 0, none⟩), .pointer (some ⟨bb, 0, none⟩)] w0 (fun v w => v = .tuple #[dV (cellI n g i j), .bool true] ∧ Below w0.heap.size w0 w) := by
 have hltba := hBa.lt
 have hltbb := hBb.lt
 unfold encG at hBa
 have hg2 := gOk_spec hg
 have hb01 := bitF_01 n j g.a
 refine enter Tryz.func217 rfl 75 rfl rfl ?_
 intro a hf
 have hW : Below w0.heap.size w0 w0 := Below.refl _ _
 refine wp_seq_k ?_; intro K1 hK1
 refine wp_region_lit ?_
 refine l_eff hf trivial rfl rfl (ef_alloc (zs := [.int .i64 0, .int .i64 0, .int .i64 0, .int .i64 0, .int .i64 0]) z_189 rfl) ?_; rintro a _ w1 ⟨b2, rfl, hl2, hE, hB2⟩ hf
 have hlo2 := Nat.le_trans hW.size hl2
 replace hBa := hBa.below hE
 replace hBb := hBb.below hE
 replace hW := hW.trans (hE.mono hW.size)
 clear hE
 refine l_ev hf trivial rfl rfl (ev_assign hf rfl) ?_; intro a hf
 refine wpList_nil ?_
 refine hK1 _ _ ?_; try clear hK1 K1
 refine wp_seq_k ?_; intro K3 hK3
 refine wp_block ?_
 refine wp_seq_k ?_; intro K4 hK4
 refine wp_region_lit ?_
 refine l_ev hf trivial rfl rfl (ev_fieldB hf rfl fd_107_0 (m := 0) rfl) ?_; intro a hf
 refine l_ev hf trivial rfl rfl (ev_load1 hf rfl t1_3 (hBa.at 0)) ?_; intro a hf
 refine l_ev hf trivial rfl rfl (ev_eql hf rfl rfl) ?_; intro a hf
 refine l_ev hf trivial rfl rfl (ev_assign hf rfl) ?_; intro a hf
 refine wpList_nil ?_
 refine hK4 _ _ ?_; try clear hK4 K4
 refine c_if hf rfl (fun hc5 => ?_) (fun hc5 => ?_)
 ·have hc5b := hc5
  have hk := eq_of_beq hc5
  refine wp_seq_k ?_; intro K6 hK6
  refine wp_region_lit ?_
  refine l_ev hf trivial rfl rfl (ev_move hf rfl) ?_; intro a hf
  refine l_ev hf trivial rfl rfl (ev_move hf rfl) ?_; intro a hf
  refine l_ev hf trivial rfl rfl (ev_eql hf rfl rfl) ?_; intro a hf
  refine wpList_nil ?_
  refine hK6 _ _ ?_; try clear hK6 K6
  refine c_if hf rfl (fun hc7 => ?_) (fun hc7 => ?_)
  ·have hc7b := hc7
   have hfin : cellI n g i j = dPow 1 := by rw [cellI, if_pos hk, if_pos (eq_of_beq hc7)]
   refine wp_seq_k ?_; intro K8 hK8
   refine wp_region_lit ?_
   refine l_eff hf trivial rfl rfl (ef_call (vs := [.int .i64 1]) hf rfl ff_140 (F140 _ 1 (by rfl))) ?_; rintro a _ w2 ⟨rfl, hE⟩ hf
   replace hBa := hBa.below hE
   replace hBb := hBb.below hE
   replace hB2 := hB2.below hE
   replace hW := hW.trans (hE.mono hW.size)
   clear hE
   refine l_eff0 hf trivial rfl (ef_store (vs := [.int .i64 ((dPow 1).num.a), .int .i64 ((dPow 1).num.b), .int .i64 ((dPow 1).num.c), .int .i64 ((dPow 1).num.d), .int .i64 ((dPow 1).exp)]) (l' := [.int .i64 ((dPow 1).num.a), .int .i64 ((dPow 1).num.b), .int .i64 ((dPow 1).num.c), .int .i64 ((dPow 1).num.d), .int .i64 ((dPow 1).exp)]) hf rfl rfl sz_189 hB2 rfl rfl rfl rfl rfl) ?_; rintro a _ w3 ⟨ho, hb⟩ hf
   have hold := hB2
   replace hBa := hBa.only ho (Blk.ne hBa hold rfl)
   replace hBb := hBb.only ho (Blk.ne hBb hold rfl)
   replace hW := Below.only hW ho hlo2
   clear hold
   have hB2 := hb
   clear hb ho
   refine l_ev hf trivial rfl rfl (ev_assign hf rfl) ?_; intro a hf
   refine wpList_nil ?_
   refine hK8 _ _ ?_; try clear hK8 K8
   refine wp_ret ?_
   refine x_retB ?_
   refine x_retS ?_
   refine c_ret hf (res2 hf rfl (ResV.cellN (l := [.int .i64 ((dPow 1).num.a), .int .i64 ((dPow 1).num.b), .int .i64 ((dPow 1).num.c), .int .i64 ((dPow 1).num.d), .int .i64 ((dPow 1).exp)]) rfl tN_189 (hB2.at 0) rfl) rfl) ?_
   exact ⟨(by rw [hfin]; try rfl), hW⟩
  ·have hc7b := hc7
   have hfin : cellI n g i j = dZ := by rw [cellI, if_pos hk, if_neg (ne_of_beqF hc7)]
   refine wp_skip ?_
   refine x_norm ?_
   refine hK3 _ _ ?_; try clear hK3 K3
   refine wp_seq_k ?_; intro K9 hK9
   refine wp_region_lit ?_
   refine l_ev hf trivial rfl rfl (ev_build (ps := []) (cs := [.int .i64 0, .int .i64 0, .int .i64 0, .int .i64 0, .int .i64 0]) hf rfl (fun _ => by first | rfl | kernel_rfl)) ?_; intro a hf
   refine l_eff0 hf trivial rfl (ef_store (vs := [.int .i64 0, .int .i64 0, .int .i64 0, .int .i64 0, .int .i64 0]) (l' := [.int .i64 0, .int .i64 0, .int .i64 0, .int .i64 0, .int .i64 0]) hf rfl rfl sz_189 hB2 rfl rfl rfl rfl rfl) ?_; rintro a _ w4 ⟨ho, hb⟩ hf
   have hold := hB2
   replace hBa := hBa.only ho (Blk.ne hBa hold rfl)
   replace hBb := hBb.only ho (Blk.ne hBb hold rfl)
   replace hW := Below.only hW ho hlo2
   clear hold
   have hB2 := hb
   clear hb ho
   refine l_ev hf trivial rfl rfl (ev_assign hf rfl) ?_; intro a hf
   refine wpList_nil ?_
   refine hK9 _ _ ?_; try clear hK9 K9
   refine wp_ret ?_
   refine c_ret hf (res2 hf rfl (ResV.cellN (l := [.int .i64 0, .int .i64 0, .int .i64 0, .int .i64 0, .int .i64 0]) rfl tN_189 (hB2.at 0) rfl) rfl) ?_
   exact ⟨(by rw [hfin]; try rfl), hW⟩
 ·have hc5b := hc5
  have hk := ne_of_beqF hc5
  have hga := hg2.2.2.1 hk
  refine wp_seq_k ?_; intro K10 hK10
  refine wp_region_lit ?_
  refine l_ev hf trivial rfl rfl (ev_fieldB hf rfl fd_107_0 (m := 0) rfl) ?_; intro a hf
  refine l_ev hf trivial rfl rfl (ev_load1 hf rfl t1_3 (hBa.at 0)) ?_; intro a hf
  refine l_eff hf trivial rfl rfl (ef_call (vs := [.int .i64 g.k]) hf rfl ff_99 (F99 _ g.k)) ?_; rintro a _ _ ⟨rfl, rfl⟩ hf
  refine l_ev hf trivial rfl rfl (ev_assign hf rfl) ?_; intro a hf
  refine wpList_nil ?_
  refine hK10 _ _ ?_; try clear hK10 K10
  refine c_if hf rfl (fun hc11 => ?_) (fun hc11 => ?_)
  ·have hc11b := hc11
   have hk2 := hc11
   have hgb := hg2.2.2.2 (inR_iff.1 hk2)
   refine wp_seq_k ?_; intro K12 hK12
   refine wp_region_lit ?_
   refine l_ev hf trivial rfl rfl (ev_load1 hf rfl t1_3 (hBb.at 0)) ?_; intro a hf
   refine l_ev hf trivial rfl rfl (ev_loadN (l := [.int .i64 g.k, .int .i64 g.a, .int .i64 g.b]) hf rfl tN_107 (hBa.at 0) rfl) ?_; intro a hf
   refine l_ev hf trivial rfl rfl (ev_move hf rfl) ?_; intro a hf
   refine l_eff hf trivial rfl rfl (ef_call (vs := [.int .i64 n, .agg #[.int .i64 g.k, .int .i64 g.a, .int .i64 g.b], .int .i64 i]) hf rfl ff_218 (F218 _ n g i hg (inR_iff.1 hk2))) ?_; rintro a _ w5 ⟨rfl, hE⟩ hf
   replace hBa := hBa.below hE
   replace hBb := hBb.below hE
   replace hB2 := hB2.below hE
   replace hW := hW.trans (hE.mono hW.size)
   clear hE
   refine l_ev hf trivial rfl rfl (ev_move hf rfl) ?_; intro a hf
   refine l_ev hf trivial rfl rfl (ev_eql hf rfl rfl) ?_; intro a hf
   refine wpList_nil ?_
   refine hK12 _ _ ?_; try clear hK12 K12
   refine c_if hf rfl (fun hc13 => ?_) (fun hc13 => ?_)
   ·have hc13b := hc13
    have hfin : cellI n g i j = dPow (4 * (if czI n g i = true then 1 else 0)) := by rw [cellI, if_neg hk, if_pos hk2, if_pos (eq_of_beq hc13)]
    refine wp_seq_k ?_; intro K14 hK14
    refine c_cut (fun a w => Fr a 75 [(6, .pointer (some ⟨b2, 0, none⟩)), (7, .bool true)] ∧ Blk w ba 107 [.int .i64 g.k, .int .i64 g.a, .int .i64 g.b] ∧ Blk w bb 3 [.int .i64 n] ∧ Blk w b2 189 [.int .i64 ((dPow (4 * (if (((g.k == 10) && ((bitF n i g.a) == 1)) && ((bitF n i g.b) == 1)) = true then 1 else 0))).num.a), .int .i64 ((dPow (4 * (if (((g.k == 10) && ((bitF n i g.a) == 1)) && ((bitF n i g.b) == 1)) = true then 1 else 0))).num.b), .int .i64 ((dPow (4 * (if (((g.k == 10) && ((bitF n i g.a) == 1)) && ((bitF n i g.b) == 1)) = true then 1 else 0))).num.c), .int .i64 ((dPow (4 * (if (((g.k == 10) && ((bitF n i g.a) == 1)) && ((bitF n i g.b) == 1)) = true then 1 else 0))).num.d), .int .i64 ((dPow (4 * (if (((g.k == 10) && ((bitF n i g.a) == 1)) && ((bitF n i g.b) == 1)) = true then 1 else 0))).exp)] ∧ Below w0.heap.size w0 w) ?_ ?_
    ·refine wp_region_lit ?_
     refine l_ev hf trivial rfl rfl (ev_fieldB hf rfl fd_107_0 (m := 0) rfl) ?_; intro a hf
     refine l_ev hf trivial rfl rfl (ev_load1 hf rfl t1_3 (hBa.at 0)) ?_; intro a hf
     refine l_ev hf trivial rfl rfl (ev_eql hf rfl rfl) ?_; intro a hf
     refine l_ev hf trivial rfl rfl (ev_move hf rfl) ?_; intro a hf
     refine g_split hf (t := 29) rfl (fun hg15 => ?_) (fun hg15 => ?_)
     ·refine l_ev hf ⟨_, _, rfl, rfl, hg15⟩ rfl rfl (ev_load1 hf rfl t1_3 (hBb.at 0)) ?_; intro a hf
      refine l_ev hf ⟨_, _, rfl, rfl, hg15⟩ rfl rfl (ev_move hf rfl) ?_; intro a hf
      refine l_ev hf ⟨_, _, rfl, rfl, hg15⟩ rfl rfl (ev_fieldB hf rfl fd_107_1 (m := 1) rfl) ?_; intro a hf
      refine l_ev hf ⟨_, _, rfl, rfl, hg15⟩ rfl rfl (ev_load1 hf rfl t1_3 (hBa.at 1)) ?_; intro a hf
      refine l_eff hf ⟨_, _, rfl, rfl, hg15⟩ rfl rfl (ef_call (vs := [.int .i64 n, .int .i64 i, .int .i64 g.a]) hf rfl ff_219 (F219 _ n i g.a (by omega) (by omega) (by omega))) ?_; rintro a _ _ ⟨rfl, rfl⟩ hf
      refine l_ev hf ⟨_, _, rfl, rfl, hg15⟩ rfl rfl (ev_eql hf rfl rfl) ?_; intro a hf
      refine l_ev hf trivial rfl rfl (ev_pickT hf rfl hg15 rfl) ?_; intro a hf
      refine l_ev hf trivial rfl rfl (ev_move hf rfl) ?_; intro a hf
      refine g_split hf (t := 37) rfl (fun hg16 => ?_) (fun hg16 => ?_)
      ·refine l_ev hf ⟨_, _, rfl, rfl, hg16⟩ rfl rfl (ev_load1 hf rfl t1_3 (hBb.at 0)) ?_; intro a hf
       refine l_ev hf ⟨_, _, rfl, rfl, hg16⟩ rfl rfl (ev_move hf rfl) ?_; intro a hf
       refine l_ev hf ⟨_, _, rfl, rfl, hg16⟩ rfl rfl (ev_fieldB hf rfl fd_107_2 (m := 2) rfl) ?_; intro a hf
       refine l_ev hf ⟨_, _, rfl, rfl, hg16⟩ rfl rfl (ev_load1 hf rfl t1_3 (hBa.at 2)) ?_; intro a hf
       refine l_eff hf ⟨_, _, rfl, rfl, hg16⟩ rfl rfl (ef_call (vs := [.int .i64 n, .int .i64 i, .int .i64 g.b]) hf rfl ff_219 (F219 _ n i g.b (by omega) (by omega) (by omega))) ?_; rintro a _ _ ⟨rfl, rfl⟩ hf
       refine l_ev hf ⟨_, _, rfl, rfl, hg16⟩ rfl rfl (ev_eql hf rfl rfl) ?_; intro a hf
       refine l_ev hf trivial rfl rfl (ev_pickT hf rfl hg16 rfl) ?_; intro a hf
       refine l_eff hf trivial rfl rfl (ef_call (vs := [.bool ((bitF n i g.b) == 1)]) hf rfl ff_59 (F59 _ ((bitF n i g.b) == 1))) ?_; rintro a _ _ ⟨rfl, rfl⟩ hf
       refine l_ev hf trivial rfl rfl (ev_mulx hf rfl rfl (by split <;> decide) (by split <;> decide)) ?_; intro a hf
       refine l_eff hf trivial rfl rfl (ef_call (vs := [.int .i64 (4 * (if ((bitF n i g.b) == 1) = true then 1 else 0))]) hf rfl ff_140 (F140 _ (4 * (if ((bitF n i g.b) == 1) = true then 1 else 0)) (by split <;> rfl))) ?_; rintro a _ w6 ⟨rfl, hE⟩ hf
       replace hBa := hBa.below hE
       replace hBb := hBb.below hE
       replace hB2 := hB2.below hE
       replace hW := hW.trans (hE.mono hW.size)
       clear hE
       refine l_eff0 hf trivial rfl (ef_store (vs := [.int .i64 ((dPow (4 * (if ((bitF n i g.b) == 1) = true then 1 else 0))).num.a), .int .i64 ((dPow (4 * (if ((bitF n i g.b) == 1) = true then 1 else 0))).num.b), .int .i64 ((dPow (4 * (if ((bitF n i g.b) == 1) = true then 1 else 0))).num.c), .int .i64 ((dPow (4 * (if ((bitF n i g.b) == 1) = true then 1 else 0))).num.d), .int .i64 ((dPow (4 * (if ((bitF n i g.b) == 1) = true then 1 else 0))).exp)]) (l' := [.int .i64 ((dPow (4 * (if ((bitF n i g.b) == 1) = true then 1 else 0))).num.a), .int .i64 ((dPow (4 * (if ((bitF n i g.b) == 1) = true then 1 else 0))).num.b), .int .i64 ((dPow (4 * (if ((bitF n i g.b) == 1) = true then 1 else 0))).num.c), .int .i64 ((dPow (4 * (if ((bitF n i g.b) == 1) = true then 1 else 0))).num.d), .int .i64 ((dPow (4 * (if ((bitF n i g.b) == 1) = true then 1 else 0))).exp)]) hf rfl rfl sz_189 hB2 rfl rfl rfl rfl rfl) ?_; rintro a _ w7 ⟨ho, hb⟩ hf
       have hold := hB2
       replace hBa := hBa.only ho (Blk.ne hBa hold rfl)
       replace hBb := hBb.only ho (Blk.ne hBb hold rfl)
       replace hW := Below.only hW ho hlo2
       clear hold
       have hB2 := hb
       clear hb ho
       refine l_ev hf trivial rfl rfl (ev_assign hf rfl) ?_; intro a hf
       refine wpList_nil ?_
       have hz9 : (((g.k == 10) && ((bitF n i g.a) == 1)) && ((bitF n i g.b) == 1)) = ((bitF n i g.b) == 1) := by simp [hc5b, hc11b, hc13b, hg15, hg16]
       have hB2 : Blk w7 b2 189 [.int .i64 ((dPow (4 * (if (((g.k == 10) && ((bitF n i g.a) == 1)) && ((bitF n i g.b) == 1)) = true then 1 else 0))).num.a), .int .i64 ((dPow (4 * (if (((g.k == 10) && ((bitF n i g.a) == 1)) && ((bitF n i g.b) == 1)) = true then 1 else 0))).num.b), .int .i64 ((dPow (4 * (if (((g.k == 10) && ((bitF n i g.a) == 1)) && ((bitF n i g.b) == 1)) = true then 1 else 0))).num.c), .int .i64 ((dPow (4 * (if (((g.k == 10) && ((bitF n i g.a) == 1)) && ((bitF n i g.b) == 1)) = true then 1 else 0))).num.d), .int .i64 ((dPow (4 * (if (((g.k == 10) && ((bitF n i g.a) == 1)) && ((bitF n i g.b) == 1)) = true then 1 else 0))).exp)] := by rw [hz9]; exact hB2
       exact ⟨hf.sub ⟨rfl, rfl, trivial⟩, hBa, hBb, hB2, hW⟩
      ·refine l_pass hf ⟨_, _, rfl, rfl, hg16⟩ rfl rfl ?_; intro a hf
       refine l_pass hf ⟨_, _, rfl, rfl, hg16⟩ rfl rfl ?_; intro a hf
       refine l_pass hf ⟨_, _, rfl, rfl, hg16⟩ rfl rfl ?_; intro a hf
       refine l_pass hf ⟨_, _, rfl, rfl, hg16⟩ rfl rfl ?_; intro a hf
       refine l_pass hf ⟨_, _, rfl, rfl, hg16⟩ rfl rfl ?_; intro a hf
       refine l_pass hf ⟨_, _, rfl, rfl, hg16⟩ rfl rfl ?_; intro a hf
       refine l_ev hf trivial rfl rfl (ev_pickF hf rfl hg16 rfl) ?_; intro a hf
       refine l_eff hf trivial rfl rfl (ef_call (vs := [.bool false]) hf rfl ff_59 (F59 _ false)) ?_; rintro a _ _ ⟨rfl, rfl⟩ hf
       refine l_ev hf trivial rfl rfl (ev_mulx hf rfl rfl (by split <;> decide) (by split <;> decide)) ?_; intro a hf
       refine l_eff hf trivial rfl rfl (ef_call (vs := [.int .i64 (4 * (if false = true then 1 else 0))]) hf rfl ff_140 (F140 _ (4 * (if false = true then 1 else 0)) (by split <;> rfl))) ?_; rintro a _ w8 ⟨rfl, hE⟩ hf
       replace hBa := hBa.below hE
       replace hBb := hBb.below hE
       replace hB2 := hB2.below hE
       replace hW := hW.trans (hE.mono hW.size)
       clear hE
       refine l_eff0 hf trivial rfl (ef_store (vs := [.int .i64 ((dPow (4 * (if false = true then 1 else 0))).num.a), .int .i64 ((dPow (4 * (if false = true then 1 else 0))).num.b), .int .i64 ((dPow (4 * (if false = true then 1 else 0))).num.c), .int .i64 ((dPow (4 * (if false = true then 1 else 0))).num.d), .int .i64 ((dPow (4 * (if false = true then 1 else 0))).exp)]) (l' := [.int .i64 ((dPow (4 * (if false = true then 1 else 0))).num.a), .int .i64 ((dPow (4 * (if false = true then 1 else 0))).num.b), .int .i64 ((dPow (4 * (if false = true then 1 else 0))).num.c), .int .i64 ((dPow (4 * (if false = true then 1 else 0))).num.d), .int .i64 ((dPow (4 * (if false = true then 1 else 0))).exp)]) hf rfl rfl sz_189 hB2 rfl rfl rfl rfl rfl) ?_; rintro a _ w9 ⟨ho, hb⟩ hf
       have hold := hB2
       replace hBa := hBa.only ho (Blk.ne hBa hold rfl)
       replace hBb := hBb.only ho (Blk.ne hBb hold rfl)
       replace hW := Below.only hW ho hlo2
       clear hold
       have hB2 := hb
       clear hb ho
       refine l_ev hf trivial rfl rfl (ev_assign hf rfl) ?_; intro a hf
       refine wpList_nil ?_
       have hz9 : (((g.k == 10) && ((bitF n i g.a) == 1)) && ((bitF n i g.b) == 1)) = (false) := by simp [hc5b, hc11b, hc13b, hg15, hg16]
       have hB2 : Blk w9 b2 189 [.int .i64 ((dPow (4 * (if (((g.k == 10) && ((bitF n i g.a) == 1)) && ((bitF n i g.b) == 1)) = true then 1 else 0))).num.a), .int .i64 ((dPow (4 * (if (((g.k == 10) && ((bitF n i g.a) == 1)) && ((bitF n i g.b) == 1)) = true then 1 else 0))).num.b), .int .i64 ((dPow (4 * (if (((g.k == 10) && ((bitF n i g.a) == 1)) && ((bitF n i g.b) == 1)) = true then 1 else 0))).num.c), .int .i64 ((dPow (4 * (if (((g.k == 10) && ((bitF n i g.a) == 1)) && ((bitF n i g.b) == 1)) = true then 1 else 0))).num.d), .int .i64 ((dPow (4 * (if (((g.k == 10) && ((bitF n i g.a) == 1)) && ((bitF n i g.b) == 1)) = true then 1 else 0))).exp)] := by rw [hz9]; exact hB2
       exact ⟨hf.sub ⟨rfl, rfl, trivial⟩, hBa, hBb, hB2, hW⟩
     ·refine l_pass hf ⟨_, _, rfl, rfl, hg15⟩ rfl rfl ?_; intro a hf
      refine l_pass hf ⟨_, _, rfl, rfl, hg15⟩ rfl rfl ?_; intro a hf
      refine l_pass hf ⟨_, _, rfl, rfl, hg15⟩ rfl rfl ?_; intro a hf
      refine l_pass hf ⟨_, _, rfl, rfl, hg15⟩ rfl rfl ?_; intro a hf
      refine l_pass hf ⟨_, _, rfl, rfl, hg15⟩ rfl rfl ?_; intro a hf
      refine l_pass hf ⟨_, _, rfl, rfl, hg15⟩ rfl rfl ?_; intro a hf
      refine l_ev hf trivial rfl rfl (ev_pickF hf rfl hg15 rfl) ?_; intro a hf
      refine l_ev hf trivial rfl rfl (ev_move hf rfl) ?_; intro a hf
      refine l_pass hf ⟨_, _, rfl, rfl, rfl⟩ rfl rfl ?_; intro a hf
      refine l_pass hf ⟨_, _, rfl, rfl, rfl⟩ rfl rfl ?_; intro a hf
      refine l_pass hf ⟨_, _, rfl, rfl, rfl⟩ rfl rfl ?_; intro a hf
      refine l_pass hf ⟨_, _, rfl, rfl, rfl⟩ rfl rfl ?_; intro a hf
      refine l_pass hf ⟨_, _, rfl, rfl, rfl⟩ rfl rfl ?_; intro a hf
      refine l_pass hf ⟨_, _, rfl, rfl, rfl⟩ rfl rfl ?_; intro a hf
      refine l_ev hf trivial rfl rfl (ev_pickF hf rfl rfl rfl) ?_; intro a hf
      refine l_eff hf trivial rfl rfl (ef_call (vs := [.bool false]) hf rfl ff_59 (F59 _ false)) ?_; rintro a _ _ ⟨rfl, rfl⟩ hf
      refine l_ev hf trivial rfl rfl (ev_mulx hf rfl rfl (by split <;> decide) (by split <;> decide)) ?_; intro a hf
      refine l_eff hf trivial rfl rfl (ef_call (vs := [.int .i64 (4 * (if false = true then 1 else 0))]) hf rfl ff_140 (F140 _ (4 * (if false = true then 1 else 0)) (by split <;> rfl))) ?_; rintro a _ w10 ⟨rfl, hE⟩ hf
      replace hBa := hBa.below hE
      replace hBb := hBb.below hE
      replace hB2 := hB2.below hE
      replace hW := hW.trans (hE.mono hW.size)
      clear hE
      refine l_eff0 hf trivial rfl (ef_store (vs := [.int .i64 ((dPow (4 * (if false = true then 1 else 0))).num.a), .int .i64 ((dPow (4 * (if false = true then 1 else 0))).num.b), .int .i64 ((dPow (4 * (if false = true then 1 else 0))).num.c), .int .i64 ((dPow (4 * (if false = true then 1 else 0))).num.d), .int .i64 ((dPow (4 * (if false = true then 1 else 0))).exp)]) (l' := [.int .i64 ((dPow (4 * (if false = true then 1 else 0))).num.a), .int .i64 ((dPow (4 * (if false = true then 1 else 0))).num.b), .int .i64 ((dPow (4 * (if false = true then 1 else 0))).num.c), .int .i64 ((dPow (4 * (if false = true then 1 else 0))).num.d), .int .i64 ((dPow (4 * (if false = true then 1 else 0))).exp)]) hf rfl rfl sz_189 hB2 rfl rfl rfl rfl rfl) ?_; rintro a _ w11 ⟨ho, hb⟩ hf
      have hold := hB2
      replace hBa := hBa.only ho (Blk.ne hBa hold rfl)
      replace hBb := hBb.only ho (Blk.ne hBb hold rfl)
      replace hW := Below.only hW ho hlo2
      clear hold
      have hB2 := hb
      clear hb ho
      refine l_ev hf trivial rfl rfl (ev_assign hf rfl) ?_; intro a hf
      refine wpList_nil ?_
      have hz9 : (((g.k == 10) && ((bitF n i g.a) == 1)) && ((bitF n i g.b) == 1)) = (false) := by simp [hc5b, hc11b, hc13b, hg15]
      have hB2 : Blk w11 b2 189 [.int .i64 ((dPow (4 * (if (((g.k == 10) && ((bitF n i g.a) == 1)) && ((bitF n i g.b) == 1)) = true then 1 else 0))).num.a), .int .i64 ((dPow (4 * (if (((g.k == 10) && ((bitF n i g.a) == 1)) && ((bitF n i g.b) == 1)) = true then 1 else 0))).num.b), .int .i64 ((dPow (4 * (if (((g.k == 10) && ((bitF n i g.a) == 1)) && ((bitF n i g.b) == 1)) = true then 1 else 0))).num.c), .int .i64 ((dPow (4 * (if (((g.k == 10) && ((bitF n i g.a) == 1)) && ((bitF n i g.b) == 1)) = true then 1 else 0))).num.d), .int .i64 ((dPow (4 * (if (((g.k == 10) && ((bitF n i g.a) == 1)) && ((bitF n i g.b) == 1)) = true then 1 else 0))).exp)] := by rw [hz9]; exact hB2
      exact ⟨hf.sub ⟨rfl, rfl, trivial⟩, hBa, hBb, hB2, hW⟩
    rintro a w12 ⟨hf, hBa, hBb, hB2, hW⟩
    refine hK14 _ _ ?_; try clear hK14 K14
    refine wp_ret ?_
    refine x_retB ?_
    refine x_retS ?_
    refine c_ret hf (res2 hf rfl (ResV.cellN (l := [.int .i64 ((dPow (4 * (if (((g.k == 10) && ((bitF n i g.a) == 1)) && ((bitF n i g.b) == 1)) = true then 1 else 0))).num.a), .int .i64 ((dPow (4 * (if (((g.k == 10) && ((bitF n i g.a) == 1)) && ((bitF n i g.b) == 1)) = true then 1 else 0))).num.b), .int .i64 ((dPow (4 * (if (((g.k == 10) && ((bitF n i g.a) == 1)) && ((bitF n i g.b) == 1)) = true then 1 else 0))).num.c), .int .i64 ((dPow (4 * (if (((g.k == 10) && ((bitF n i g.a) == 1)) && ((bitF n i g.b) == 1)) = true then 1 else 0))).num.d), .int .i64 ((dPow (4 * (if (((g.k == 10) && ((bitF n i g.a) == 1)) && ((bitF n i g.b) == 1)) = true then 1 else 0))).exp)]) rfl tN_189 (hB2.at 0) rfl) rfl) ?_
    exact ⟨(by rw [hfin]; try rfl), hW⟩
   ·have hc13b := hc13
    have hfin : cellI n g i j = dZ := by rw [cellI, if_neg hk, if_pos hk2, if_neg (ne_of_beqF hc13)]
    refine wp_skip ?_
    refine x_norm ?_
    refine hK3 _ _ ?_; try clear hK3 K3
    refine wp_seq_k ?_; intro K17 hK17
    refine wp_region_lit ?_
    refine l_ev hf trivial rfl rfl (ev_build (ps := []) (cs := [.int .i64 0, .int .i64 0, .int .i64 0, .int .i64 0, .int .i64 0]) hf rfl (fun _ => by first | rfl | kernel_rfl)) ?_; intro a hf
    refine l_eff0 hf trivial rfl (ef_store (vs := [.int .i64 0, .int .i64 0, .int .i64 0, .int .i64 0, .int .i64 0]) (l' := [.int .i64 0, .int .i64 0, .int .i64 0, .int .i64 0, .int .i64 0]) hf rfl rfl sz_189 hB2 rfl rfl rfl rfl rfl) ?_; rintro a _ w13 ⟨ho, hb⟩ hf
    have hold := hB2
    replace hBa := hBa.only ho (Blk.ne hBa hold rfl)
    replace hBb := hBb.only ho (Blk.ne hBb hold rfl)
    replace hW := Below.only hW ho hlo2
    clear hold
    have hB2 := hb
    clear hb ho
    refine l_ev hf trivial rfl rfl (ev_assign hf rfl) ?_; intro a hf
    refine wpList_nil ?_
    refine hK17 _ _ ?_; try clear hK17 K17
    refine wp_ret ?_
    refine c_ret hf (res2 hf rfl (ResV.cellN (l := [.int .i64 0, .int .i64 0, .int .i64 0, .int .i64 0, .int .i64 0]) rfl tN_189 (hB2.at 0) rfl) rfl) ?_
    exact ⟨(by rw [hfin]; try rfl), hW⟩
  ·have hc11b := hc11
   have hk2 : ¬ inR g.k 9 11 = true := by rw [hc11]; simp
   have hk8 : g.k ≤ 8 := by have h9 : ¬ (9 ≤ g.k ∧ g.k ≤ 11) := (fun h => hk2 (inR_iff.2 h)); omega
   refine wp_seq_k ?_; intro K18 hK18
   refine c_cut (fun a w => Fr a 75 [(0, .int .i64 i), (1, .int .i64 j), (2, .pointer (some ⟨ba, 0, none⟩)), (3, .pointer (some ⟨bb, 0, none⟩)), (6, .pointer (some ⟨b2, 0, none⟩)), (48, .bool ((i == j) || ((flipF n i g.a) == j)))] ∧ w1 = w) ?_ ?_
   ·refine wp_region_lit ?_
    refine l_ev hf trivial rfl rfl (ev_move hf rfl) ?_; intro a hf
    refine l_ev hf trivial rfl rfl (ev_move hf rfl) ?_; intro a hf
    refine l_ev hf trivial rfl rfl (ev_eql hf rfl rfl) ?_; intro a hf
    refine l_ev hf trivial rfl rfl (ev_move hf rfl) ?_; intro a hf
    refine g_split hf (t := 52) rfl (fun hg19 => ?_) (fun hg19 => ?_)
    ·refine l_pass hf ⟨_, _, rfl, rfl, hg19⟩ rfl rfl ?_; intro a hf
     refine l_pass hf ⟨_, _, rfl, rfl, hg19⟩ rfl rfl ?_; intro a hf
     refine l_pass hf ⟨_, _, rfl, rfl, hg19⟩ rfl rfl ?_; intro a hf
     refine l_pass hf ⟨_, _, rfl, rfl, hg19⟩ rfl rfl ?_; intro a hf
     refine l_pass hf ⟨_, _, rfl, rfl, hg19⟩ rfl rfl ?_; intro a hf
     refine l_pass hf ⟨_, _, rfl, rfl, hg19⟩ rfl rfl ?_; intro a hf
     refine l_pass hf ⟨_, _, rfl, rfl, hg19⟩ rfl rfl ?_; intro a hf
     refine l_ev hf trivial rfl rfl (ev_pickT hf rfl hg19 rfl) ?_; intro a hf
     refine l_ev hf trivial rfl rfl (ev_assign hf rfl) ?_; intro a hf
     refine wpList_nil ?_
     exact ⟨hf.sub ⟨rfl, rfl, rfl, rfl, rfl, look_bool rfl (by first | rfl | simp [hc5b, hc11b, hg19]), trivial⟩, rfl⟩
    ·refine l_ev hf ⟨_, _, rfl, rfl, hg19⟩ rfl rfl (ev_load1 hf rfl t1_3 (hBb.at 0)) ?_; intro a hf
     refine l_ev hf ⟨_, _, rfl, rfl, hg19⟩ rfl rfl (ev_move hf rfl) ?_; intro a hf
     refine l_ev hf ⟨_, _, rfl, rfl, hg19⟩ rfl rfl (ev_fieldB hf rfl fd_107_1 (m := 1) rfl) ?_; intro a hf
     refine l_ev hf ⟨_, _, rfl, rfl, hg19⟩ rfl rfl (ev_load1 hf rfl t1_3 (hBa.at 1)) ?_; intro a hf
     refine l_eff hf ⟨_, _, rfl, rfl, hg19⟩ rfl rfl (ef_call (vs := [.int .i64 n, .int .i64 i, .int .i64 g.a]) hf rfl ff_220 (F220 _ n i g.a (by omega) (by omega) (by omega))) ?_; rintro a _ _ ⟨rfl, rfl⟩ hf
     refine l_ev hf ⟨_, _, rfl, rfl, hg19⟩ rfl rfl (ev_move hf rfl) ?_; intro a hf
     refine l_ev hf ⟨_, _, rfl, rfl, hg19⟩ rfl rfl (ev_eql hf rfl rfl) ?_; intro a hf
     refine l_ev hf trivial rfl rfl (ev_pickF hf rfl hg19 rfl) ?_; intro a hf
     refine l_ev hf trivial rfl rfl (ev_assign hf rfl) ?_; intro a hf
     refine wpList_nil ?_
     exact ⟨hf.sub ⟨rfl, rfl, rfl, rfl, rfl, look_bool rfl (by first | rfl | simp [hc5b, hc11b, hg19]), trivial⟩, rfl⟩
   rintro a _ ⟨hf, rfl⟩
   refine hK18 _ _ ?_; try clear hK18 K18
   refine c_if hf rfl (fun hc20 => ?_) (fun hc20 => ?_)
   ·have hc20b := hc20
    have hfin : cellI n g i j = entryI g.k (bitF n i g.a) (bitF n j g.a) := by rw [cellI, if_neg hk, if_neg hk2, if_pos (by simpa using hc20)]
    refine wp_seq_k ?_; intro K21 hK21
    refine wp_draw none (fun j => [13].contains j) mixed ?_
    intro w14 hE
    replace hBa := hBa.below hE
    replace hBb := hBb.below hE
    replace hB2 := hB2.below hE
    replace hW := hW.trans (hE.mono hW.size)
    clear hE
    refine s_ev0 0 rfl (by kernel_rfl) hf trivial rfl rfl (fun _ => ev_fieldB hf rfl fd_107_0 (m := 0) rfl) ?_; intro a hf
    refine s_ev 1 rfl (by kernel_rfl) (by kernel_rfl) hf trivial rfl rfl (ev_load1 hf rfl t1_3 (hBa.at 0)) ?_; intro a hf
    refine s_ev 2 rfl (by kernel_rfl) (by kernel_rfl) hf trivial rfl rfl (ev_load1 hf rfl t1_3 (hBb.at 0)) ?_; intro a hf
    refine s_ev0 3 rfl (by kernel_rfl) hf trivial rfl rfl (fun _ => ev_move hf rfl) ?_; intro a hf
    refine s_ev0 4 rfl (by kernel_rfl) hf trivial rfl rfl (fun _ => ev_fieldB hf rfl fd_107_1 (m := 1) rfl) ?_; intro a hf
    refine s_ev 5 rfl (by kernel_rfl) (by kernel_rfl) hf trivial rfl rfl (ev_load1 hf rfl t1_3 (hBa.at 1)) ?_; intro a hf
    refine s_ev 7 rfl (by kernel_rfl) (by kernel_rfl) hf trivial rfl rfl (ev_load1 hf rfl t1_3 (hBb.at 0)) ?_; intro a hf
    refine s_ev0 8 rfl (by kernel_rfl) hf trivial rfl rfl (fun _ => ev_move hf rfl) ?_; intro a hf
    refine s_ev0 9 rfl (by kernel_rfl) hf trivial rfl rfl (fun _ => ev_fieldB hf rfl fd_107_1 (m := 1) rfl) ?_; intro a hf
    refine s_ev 10 rfl (by kernel_rfl) (by kernel_rfl) hf trivial rfl rfl (ev_load1 hf rfl t1_3 (hBa.at 1)) ?_; intro a hf
    refine s_one 6 (by kernel_rfl) ?_
    refine p_eff rfl hf trivial rfl rfl (Ef.mono (ef_call (vs := [.int .i64 n, .int .i64 i, .int .i64 g.a]) hf rfl ff_219 (F219 _ n i g.a (by omega) (by omega) (by omega))) (fun _ _ h => ⟨fun _ => by rw [← h.2]; exact Below.refl _ _, h⟩)) ?_; rintro a _ _ ⟨rfl, rfl⟩ hf
    refine s_one 11 (by kernel_rfl) ?_
    refine p_eff rfl hf trivial rfl rfl (Ef.mono (ef_call (vs := [.int .i64 n, .int .i64 j, .int .i64 g.a]) hf rfl ff_219 (F219 _ n j g.a (by omega) (by omega) (by omega))) (fun _ _ h => ⟨fun _ => by rw [← h.2]; exact Below.refl _ _, h⟩)) ?_; rintro a _ _ ⟨rfl, rfl⟩ hf
    refine s_one 12 (by kernel_rfl) ?_
    refine p_eff rfl hf trivial rfl rfl (Ef.mono (ef_call (vs := [.int .i64 g.k, .int .i64 (bitF n i g.a), .int .i64 (bitF n j g.a)]) hf rfl ff_221 (F221 _ g.k (bitF n i g.a) (bitF n j g.a) (by omega) hb01)) (fun _ _ h => ⟨fun _ => by obtain ⟨rfl, hE⟩ := h; exact hE, h⟩)) ?_; rintro a _ w15 ⟨rfl, hE⟩ hf
    replace hBa := hBa.below hE
    replace hBb := hBb.below hE
    replace hB2 := hB2.below hE
    replace hW := hW.trans (hE.mono hW.size)
    clear hE
    refine s_one 13 (by kernel_rfl) ?_
    refine p_eff0 rfl hf trivial rfl (Ef.mono (ef_store (vs := [.int .i64 ((entryI g.k (bitF n i g.a) (bitF n j g.a)).num.a), .int .i64 ((entryI g.k (bitF n i g.a) (bitF n j g.a)).num.b), .int .i64 ((entryI g.k (bitF n i g.a) (bitF n j g.a)).num.c), .int .i64 ((entryI g.k (bitF n i g.a) (bitF n j g.a)).num.d), .int .i64 ((entryI g.k (bitF n i g.a) (bitF n j g.a)).exp)]) (l' := [.int .i64 ((entryI g.k (bitF n i g.a) (bitF n j g.a)).num.a), .int .i64 ((entryI g.k (bitF n i g.a) (bitF n j g.a)).num.b), .int .i64 ((entryI g.k (bitF n i g.a) (bitF n j g.a)).num.c), .int .i64 ((entryI g.k (bitF n i g.a) (bitF n j g.a)).num.d), .int .i64 ((entryI g.k (bitF n i g.a) (bitF n j g.a)).exp)]) hf rfl rfl sz_189 hB2 rfl rfl rfl rfl rfl) (fun _ _ h => ⟨fun h0 => absurd h0 (by decide), h⟩)) ?_; rintro a _ w16 ⟨ho, hb⟩ hf
    have hold := hB2
    replace hBa := hBa.only ho (Blk.ne hBa hold rfl)
    replace hBb := hBb.only ho (Blk.ne hBb hold rfl)
    replace hW := Below.only hW ho hlo2
    clear hold
    have hB2 := hb
    clear hb ho
    refine s_ev0 14 rfl (by kernel_rfl) hf trivial rfl rfl (fun _ => ev_assign hf rfl) ?_; intro a hf
    refine s_done (by kernel_rfl) ?_
    refine hK21 _ _ ?_; try clear hK21 K21
    refine wp_ret ?_
    refine x_retB ?_
    refine x_retS ?_
    refine c_ret hf (res2 hf rfl (ResV.cellN (l := [.int .i64 ((entryI g.k (bitF n i g.a) (bitF n j g.a)).num.a), .int .i64 ((entryI g.k (bitF n i g.a) (bitF n j g.a)).num.b), .int .i64 ((entryI g.k (bitF n i g.a) (bitF n j g.a)).num.c), .int .i64 ((entryI g.k (bitF n i g.a) (bitF n j g.a)).num.d), .int .i64 ((entryI g.k (bitF n i g.a) (bitF n j g.a)).exp)]) rfl tN_189 (hB2.at 0) rfl) rfl) ?_
    exact ⟨(by rw [hfin]; try rfl), hW⟩
   ·have hc20b := hc20
    have hfin : cellI n g i j = dZ := by rw [cellI, if_neg hk, if_neg hk2, if_neg (by simpa using hc20)]
    refine wp_skip ?_
    refine x_norm ?_
    refine hK3 _ _ ?_; try clear hK3 K3
    refine wp_seq_k ?_; intro K22 hK22
    refine wp_region_lit ?_
    refine l_ev hf trivial rfl rfl (ev_build (ps := []) (cs := [.int .i64 0, .int .i64 0, .int .i64 0, .int .i64 0, .int .i64 0]) hf rfl (fun _ => by first | rfl | kernel_rfl)) ?_; intro a hf
    refine l_eff0 hf trivial rfl (ef_store (vs := [.int .i64 0, .int .i64 0, .int .i64 0, .int .i64 0, .int .i64 0]) (l' := [.int .i64 0, .int .i64 0, .int .i64 0, .int .i64 0, .int .i64 0]) hf rfl rfl sz_189 hB2 rfl rfl rfl rfl rfl) ?_; rintro a _ w17 ⟨ho, hb⟩ hf
    have hold := hB2
    replace hBa := hBa.only ho (Blk.ne hBa hold rfl)
    replace hBb := hBb.only ho (Blk.ne hBb hold rfl)
    replace hW := Below.only hW ho hlo2
    clear hold
    have hB2 := hb
    clear hb ho
    refine l_ev hf trivial rfl rfl (ev_assign hf rfl) ?_; intro a hf
    refine wpList_nil ?_
    refine hK22 _ _ ?_; try clear hK22 K22
    refine wp_ret ?_
    refine c_ret hf (res2 hf rfl (ResV.cellN (l := [.int .i64 0, .int .i64 0, .int .i64 0, .int .i64 0, .int .i64 0]) rfl tN_189 (hB2.at 0) rfl) rfl) ?_
    exact ⟨(by rw [hfin]; try rfl), hW⟩
end Go.Proofs.YtfgnmflfiobkmaaGreat
set_option maxRecDepth 4000
namespace Go.Proofs.YtfgnmflfiobkmaaGreat
open Go.RowKit
theorem F188 (w0 : World) (n : Int) (g : Gt) : Ret Tryz.prog 188 [.int .i64 n, .agg #[.int .i64 g.k, .int .i64 g.a, .int .i64 g.b]] w0 (fun v w => ∃ A c, v = .tuple #[mV A c ((gateI n g).getD mZ), .bool (gateI n g).isSome] ∧ Own w w0.heap.size 189 5 encD A c ((gateI n g).getD mZ).cells ∧ Below w0.heap.size w0 w) := by
 refine enter Tryz.func188 rfl 19 rfl rfl ?_
 intro a hf
 have hW : Below w0.heap.size w0 w0 := Below.refl _ _
 refine wp_seq_k ?_; intro K1 hK1
 refine wp_region_lit ?_
 refine l_eff hf trivial rfl rfl (ef_box (zs := [.int .i64 n]) hf rfl rfl) ?_; rintro a _ w1 ⟨b2, rfl, hl2, hE, hB2⟩ hf
 have hlo2 := Nat.le_trans hW.size hl2
 replace hW := hW.trans (hE.mono hW.size)
 clear hE
 refine l_eff hf trivial rfl rfl (ef_box (zs := [.int .i64 g.k, .int .i64 g.a, .int .i64 g.b]) hf rfl rfl) ?_; rintro a _ w2 ⟨b3, rfl, hl3, hE, hB3⟩ hf
 have hlo3 := Nat.le_trans hW.size hl3
 replace hB2 := hB2.below hE
 replace hW := hW.trans (hE.mono hW.size)
 clear hE
 refine l_eff hf trivial rfl rfl (ef_alloc (zs := [.int .i64 0, .int .i64 0, .slice none 0 0]) z_141 rfl) ?_; rintro a _ w3 ⟨b5, rfl, hl5, hE, hB5⟩ hf
 have hlo5 := Nat.le_trans hW.size hl5
 replace hB2 := hB2.below hE
 replace hB3 := hB3.below hE
 replace hW := hW.trans (hE.mono hW.size)
 clear hE
 refine l_ev hf trivial rfl rfl (ev_assign hf rfl) ?_; intro a hf
 refine wpList_nil ?_
 refine hK1 _ _ ?_; try clear hK1 K1
 refine wp_seq_k ?_; intro K6 hK6
 refine wp_seq_k ?_; intro K7 hK7
 refine wp_region_lit ?_
 refine l_ev hf trivial rfl rfl (ev_load1 hf rfl t1_3 (hB2.at 0)) ?_; intro a hf
 refine l_ev hf trivial rfl rfl (ev_loadN (l := [.int .i64 g.k, .int .i64 g.a, .int .i64 g.b]) hf rfl tN_107 (hB3.at 0) rfl) ?_; intro a hf
 refine l_eff hf trivial rfl rfl (ef_call (vs := [.int .i64 n, .agg #[.int .i64 g.k, .int .i64 g.a, .int .i64 g.b]]) hf rfl ff_106 (F106 _ n g)) ?_; rintro a _ w4 ⟨rfl, hE⟩ hf
 replace hB2 := hB2.below hE
 replace hB3 := hB3.below hE
 replace hB5 := hB5.below hE
 replace hW := hW.trans (hE.mono hW.size)
 clear hE
 refine l_ev hf trivial rfl rfl (ev_not hf rfl) ?_; intro a hf
 refine wpList_nil ?_
 refine hK7 _ _ ?_; try clear hK7 K7
 refine c_if hf rfl (fun hc8 => ?_) (fun hc8 => ?_)
 ·have hc8b := hc8
  have hn : ¬ gOk n g = true := by revert hc8; cases gOk n g <;> simp
  refine wp_seq_k ?_; intro K9 hK9
  refine wp_region_lit ?_
  refine l_ev hf trivial rfl rfl (ev_build (ps := []) (cs := [.int .i64 0, .int .i64 0, .slice none 0 0]) hf rfl (fun _ => by first | rfl | kernel_rfl)) ?_; intro a hf
  refine l_eff0 hf trivial rfl (ef_store (vs := [.int .i64 0, .int .i64 0, .slice none 0 0]) (l' := [.int .i64 0, .int .i64 0, .slice none 0 0]) hf rfl rfl sz_141 hB5 rfl rfl rfl rfl rfl) ?_; rintro a _ w5 ⟨ho, hb⟩ hf
  have hold := hB5
  replace hB2 := hB2.only ho (Blk.ne hB2 hold rfl)
  replace hB3 := hB3.only ho (Blk.ne hB3 hold rfl)
  replace hW := Below.only hW ho hlo5
  clear hold
  have hB5 := hb
  clear hb ho
  refine l_ev hf trivial rfl rfl (ev_assign hf rfl) ?_; intro a hf
  refine wpList_nil ?_
  refine hK9 _ _ ?_; try clear hK9 K9
  refine wp_ret ?_
  refine x_retS ?_
  refine c_ret hf (res2 hf rfl (ResV.cellN (l := [.int .i64 0, .int .i64 0, .slice none 0 0]) rfl tN_141 (hB5.at 0) rfl) rfl) ?_
  exact ⟨none, 0, by rw [gateI, if_neg hn]; rfl, by rw [gateI, if_neg hn]; exact (Own.nil _ _ _ _ _), hW⟩
 ·have hc8b := hc8
  have hg : gOk n g = true := by revert hc8; cases gOk n g <;> simp
  have hg2 := gOk_spec hg
  obtain ⟨d, hd⟩ : ∃ d : Nat, d = 2 ^ n.toNat := ⟨_, rfl⟩
  refine wp_skip ?_
  refine hK6 _ _ ?_; try clear hK6 K6
  refine wp_seq_k ?_; intro K11 hK11
  refine wp_draw none (fun j => [8].contains j) mixed ?_
  intro w6 hE
  replace hB2 := hB2.below hE
  replace hB3 := hB3.below hE
  replace hB5 := hB5.below hE
  replace hW := hW.trans (hE.mono hW.size)
  clear hE
  refine s_ev 0 rfl (by kernel_rfl) (by kernel_rfl) hf trivial rfl rfl (ev_load1 hf rfl t1_3 (hB2.at 0)) ?_; intro a hf
  refine s_ev0 1 rfl (by kernel_rfl) hf trivial rfl rfl (fun _ => ev_shl1 (m := n.toNat) (D := d) hf rfl rfl (by omega) ⟨hd, by omega⟩) ?_; intro a hf
  refine s_ev 2 rfl (by kernel_rfl) (by kernel_rfl) hf trivial rfl rfl (ev_load1 hf rfl t1_3 (hB2.at 0)) ?_; intro a hf
  refine s_ev0 3 rfl (by kernel_rfl) hf trivial rfl rfl (fun _ => ev_shl1 (m := n.toNat) (D := d) hf rfl rfl (by omega) ⟨hd, by omega⟩) ?_; intro a hf
  refine s_ev0 4 rfl (by kernel_rfl) hf trivial rfl rfl (fun _ => ev_makeFunc (vs := [.pointer (some ⟨b3, 0, none⟩), .pointer (some ⟨b2, 0, none⟩)]) hf rfl) ?_; intro a hf
  refine s_one 5 (by kernel_rfl) ?_
  refine p_eff rfl hf trivial rfl rfl (Ef.mono (ef_call (vs := [.int .i64 (d : Int), .int .i64 (d : Int), .func (.func 217) #[] #[.pointer (some ⟨b3, 0, none⟩), .pointer (some ⟨b2, 0, none⟩)]]) hf rfl ff_185 (F185 _ (d : Int) (d : Int) 217 [.pointer (some ⟨b3, 0, none⟩), .pointer (some ⟨b2, 0, none⟩)] ff_217 (fun i j => some (cellI n g i j)) (fun i j w' hi hj hE' => F217 w' g n _ _ (hB3.below hE') (hB2.below hE') hg i j))) (fun _ _ h => ⟨fun _ => by obtain ⟨A12, c12, rfl, ho12, hE⟩ := h; exact hE, h⟩)) ?_; rintro a _ w7 ⟨A12, c12, rfl, ho12, hE⟩ hf
  replace ho12 := ho12.lower hW.size
  replace hB2 := hB2.below hE
  replace hB3 := hB3.below hE
  replace hB5 := hB5.below hE
  replace hW := hW.trans (hE.mono hW.size)
  clear hE
  refine s_ev0 6 rfl (by kernel_rfl) hf trivial rfl rfl (fun _ => ev_extract (vs := [.agg #[.int .i64 (((matOf (d : Int) (d : Int) (fun i j => some (cellI n g i j))).getD mZ).rows), .int .i64 (((matOf (d : Int) (d : Int) (fun i j => some (cellI n g i j))).getD mZ).cols), .slice A12 (((matOf (d : Int) (d : Int) (fun i j => some (cellI n g i j))).getD mZ).cells).length c12], .bool ((matOf (d : Int) (d : Int) (fun i j => some (cellI n g i j))).isSome)]) hf rfl rfl) ?_; intro a hf
  refine s_ev0 7 rfl (by kernel_rfl) hf trivial rfl rfl (fun _ => ev_extract (vs := [.agg #[.int .i64 (((matOf (d : Int) (d : Int) (fun i j => some (cellI n g i j))).getD mZ).rows), .int .i64 (((matOf (d : Int) (d : Int) (fun i j => some (cellI n g i j))).getD mZ).cols), .slice A12 (((matOf (d : Int) (d : Int) (fun i j => some (cellI n g i j))).getD mZ).cells).length c12], .bool ((matOf (d : Int) (d : Int) (fun i j => some (cellI n g i j))).isSome)]) hf rfl rfl) ?_; intro a hf
  refine s_one 8 (by kernel_rfl) ?_
  refine p_eff0 rfl hf trivial rfl (Ef.mono (ef_store (vs := [.int .i64 (((matOf (d : Int) (d : Int) (fun i j => some (cellI n g i j))).getD mZ).rows), .int .i64 (((matOf (d : Int) (d : Int) (fun i j => some (cellI n g i j))).getD mZ).cols), .slice A12 (((matOf (d : Int) (d : Int) (fun i j => some (cellI n g i j))).getD mZ).cells).length c12]) (l' := [.int .i64 (((matOf (d : Int) (d : Int) (fun i j => some (cellI n g i j))).getD mZ).rows), .int .i64 (((matOf (d : Int) (d : Int) (fun i j => some (cellI n g i j))).getD mZ).cols), .slice A12 (((matOf (d : Int) (d : Int) (fun i j => some (cellI n g i j))).getD mZ).cells).length c12]) hf rfl rfl sz_141 hB5 rfl rfl rfl rfl rfl) (fun _ _ h => ⟨fun h0 => absurd h0 (by decide), h⟩)) ?_; rintro a _ w8 ⟨ho, hb⟩ hf
  have hold := hB5
  replace hB2 := hB2.only ho (Blk.ne hB2 hold rfl)
  replace hB3 := hB3.only ho (Blk.ne hB3 hold rfl)
  replace ho12 := ho12.onlyT ho hold rfl
  replace hW := Below.only hW ho hlo5
  clear hold
  have hB5 := hb
  clear hb ho
  refine s_ev0 9 rfl (by kernel_rfl) hf trivial rfl rfl (fun _ => ev_assign hf rfl) ?_; intro a hf
  refine s_done (by kernel_rfl) ?_
  refine hK11 _ _ ?_; try clear hK11 K11
  refine wp_ret ?_
  refine c_ret hf (res2 hf rfl (ResV.cellN (l := [.int .i64 (((matOf (d : Int) (d : Int) (fun i j => some (cellI n g i j))).getD mZ).rows), .int .i64 (((matOf (d : Int) (d : Int) (fun i j => some (cellI n g i j))).getD mZ).cols), .slice A12 (((matOf (d : Int) (d : Int) (fun i j => some (cellI n g i j))).getD mZ).cells).length c12]) rfl tN_141 (hB5.at 0) rfl) rfl) ?_
  have hfin : gateI n g = matOf (d : Int) (d : Int) fun i j => some (cellI n g i j) := by rw [gateI, if_pos hg, hd]
  rw [hfin]
  exact ⟨A12, c12, rfl, ho12, hW⟩
end Go.Proofs.YtfgnmflfiobkmaaGreat
namespace Go.Proofs
open Go.Shelf
def Tryz.lays189_ren : Go.Shelf.Ren := ⟨fun | 189 => 94 | 125 => 135 | 257 => 134 | 128 => 183 | 129 => 184 | 294 => 174 | 295 => 175 | 296 => 176 | 297 => 177 | 298 => 178 | 299 => 179 | 216 => 180 | 300 => 181 | 301 => 182 | 328 => 211 | 329 => 212 | 330 => 213 | 331 => 214 | 332 => 215 | 215 => 216 | 343 => 238 | n => n, fun | 28 => 36 | 3 => 3 | 46 => 181 | 0 => 0 | 51 => 228 | 53 => 230 | 4 => 4 | 183 => 222 | 182 => 221 | 131 => 56 | 5 => 5 | 9 => 9 | 218 => 252 | 222 => 256 | 228 => 270 | 229 => 100 | n => n, fun | n => n⟩
theorem Tryz.lays189 : Go.Proofs.Lays.n189 Tryz.prog Tryz.lays189_ren := {
  mixed := by kernel_rfl
  f125 := Tryz.func135.trans (congrArg some (by kernel_rfl))
  f128 := Tryz.func183.trans (congrArg some (by kernel_rfl))
  f129 := Tryz.func184.trans (congrArg some (by kernel_rfl))
  f189 := Tryz.func94.trans (congrArg some (by kernel_rfl))
  f215 := Tryz.func216.trans (congrArg some (by kernel_rfl))
  f216 := Tryz.func180.trans (congrArg some (by kernel_rfl))
  f257 := Tryz.func134.trans (congrArg some (by kernel_rfl))
  f294 := Tryz.func174.trans (congrArg some (by kernel_rfl))
  f295 := Tryz.func175.trans (congrArg some (by kernel_rfl))
  f296 := Tryz.func176.trans (congrArg some (by kernel_rfl))
  f297 := Tryz.func177.trans (congrArg some (by kernel_rfl))
  f298 := Tryz.func178.trans (congrArg some (by kernel_rfl))
  f299 := Tryz.func179.trans (congrArg some (by kernel_rfl))
  f300 := Tryz.func181.trans (congrArg some (by kernel_rfl))
  f301 := Tryz.func182.trans (congrArg some (by kernel_rfl))
  f328 := Tryz.func211.trans (congrArg some (by kernel_rfl))
  f329 := Tryz.func212.trans (congrArg some (by kernel_rfl))
  f330 := Tryz.func213.trans (congrArg some (by kernel_rfl))
  f331 := Tryz.func214.trans (congrArg some (by kernel_rfl))
  f332 := Tryz.func215.trans (congrArg some (by kernel_rfl))
  f343 := Tryz.func238.trans (congrArg some (by kernel_rfl))
  t0 := Tryz.underlying0
  a0 := Tryz.isAgg0
  z0 := Tryz.sizeOf0
  v0 := Tryz.zeroValue0
  t3 := Tryz.underlying3
  a3 := Tryz.isAgg3
  z3 := Tryz.sizeOf3
  v3 := Tryz.zeroValue3
  t4 := Tryz.underlying4
  a4 := Tryz.isAgg4
  z4 := Tryz.sizeOf4
  v4 := Tryz.zeroValue4
  t5 := Tryz.underlying5
  a5 := Tryz.isAgg5
  z5 := Tryz.sizeOf5
  v5 := Tryz.zeroValue5
  t9 := Tryz.underlying9
  a9 := Tryz.isAgg9
  z9 := Tryz.sizeOf9
  v9 := Tryz.zeroValue9
  t28 := Tryz.underlying36
  a28 := Tryz.isAgg36
  z28 := Tryz.sizeOf36
  v28 := Tryz.zeroValue36
  t46 := Tryz.underlying181
  a46 := Tryz.isAgg181
  z46 := Tryz.sizeOf181
  v46 := Tryz.zeroValue181
  t51 := Tryz.underlying228
  a51 := Tryz.isAgg228
  z51 := Tryz.sizeOf228
  v51 := Tryz.zeroValue228
  t53 := Tryz.underlying230
  a53 := Tryz.isAgg230
  z53 := Tryz.sizeOf230
  v53 := Tryz.zeroValue230
  t131 := Tryz.underlying56
  a131 := Tryz.isAgg56
  z131 := Tryz.sizeOf56
  v131 := Tryz.zeroValue56
  t182 := Tryz.underlying221
  a182 := Tryz.isAgg221
  z182 := Tryz.sizeOf221
  v182 := Tryz.zeroValue221
  t183 := Tryz.underlying222
  a183 := Tryz.isAgg222
  z183 := Tryz.sizeOf222
  v183 := Tryz.zeroValue222
  t218 := Tryz.underlying252
  a218 := Tryz.isAgg252
  z218 := Tryz.sizeOf252
  v218 := Tryz.zeroValue252
  t222 := Tryz.underlying256
  a222 := Tryz.isAgg256
  z222 := Tryz.sizeOf256
  v222 := Tryz.zeroValue256
  t228 := Tryz.underlying270
  a228 := Tryz.isAgg270
  z228 := Tryz.sizeOf270
  v228 := Tryz.zeroValue270
  t229 := Tryz.underlying100
  a229 := Tryz.isAgg100
  z229 := Tryz.sizeOf100
  v229 := Tryz.zeroValue100 }
open Go.Sort Go.RowKit in
theorem Tryz.slices_Sort_int (blk off cap : Nat) (zs : List Int) (w : World) (hH : Holds (Value.int .i64) w blk off zs.toArray) (hblk : blk < w.heap.size) (hsz : zs.length < 4611686018427387904) :
    Calls Tryz.prog 94 #[.slice (some ⟨blk, off, none⟩) zs.length cap] w fun e w' =>
      e = .returned (.tuple #[]) ∧ ∃ n os, w' = grow (putRow (Value.int .i64) (Sort.ahead w n) blk off (zs.mergeSort fun x y => decide (x ≤ y)).toArray) os := Any.slices_Sort_int Tryz.lays189 blk off cap zs w hH hblk hsz
def Tryz.lays108_ren : Go.Shelf.Ren := ⟨fun | 108 => 204 | n => n, fun | 28 => 36 | 3 => 3 | 0 => 0 | 4 => 4 | n => n, fun | n => n⟩
theorem Tryz.lays108 : Go.Proofs.Lays.n108 Tryz.prog Tryz.lays108_ren := {
  mixed := by kernel_rfl
  f108 := Tryz.func204.trans (congrArg some (by kernel_rfl))
  t0 := Tryz.underlying0
  a0 := Tryz.isAgg0
  z0 := Tryz.sizeOf0
  v0 := Tryz.zeroValue0
  t3 := Tryz.underlying3
  a3 := Tryz.isAgg3
  z3 := Tryz.sizeOf3
  v3 := Tryz.zeroValue3
  t4 := Tryz.underlying4
  a4 := Tryz.isAgg4
  z4 := Tryz.sizeOf4
  v4 := Tryz.zeroValue4
  t28 := Tryz.underlying36
  a28 := Tryz.isAgg36
  z28 := Tryz.sizeOf36
  v28 := Tryz.zeroValue36 }
open Go.Lib in
theorem Tryz.slices_Index_int (b off n c : Nat) (zs : List Int) (x : Int) (w : World) (hz : n ≤ zs.length) (hbig : n ≤ 9223372036854775807) (hc : ∀ j, j < zs.length → w.cell? ⟨b, off + j, none⟩ = some (.int .i64 (zs.getD j 0))) :
    Calls Tryz.prog 204 #[.slice (some ⟨b, off, none⟩) n c, .int .i64 x] w fun e w' => e = .returned (.int .i64 (Lib.idxOf (zs.take n) x)) ∧ w' = w := Any.slices_Index_int Tryz.lays108 b off n c zs x w hz hbig hc
open Go.Lib in
theorem Tryz.slices_Index_int_empty (a : Option Addr) (c : Nat) (x : Int) (w : World) :
    Calls Tryz.prog 204 #[.slice a 0 c, .int .i64 x] w fun e w' => e = .returned (.int .i64 (Lib.idxOf [] x)) ∧ w' = w := Any.slices_Index_int_empty Tryz.lays108 a c x w
def Tryz.lays107_ren : Go.Shelf.Ren := ⟨fun | 107 => 152 | 108 => 204 | n => n, fun | 28 => 36 | 3 => 3 | 4 => 4 | 0 => 0 | n => n, fun | n => n⟩
theorem Tryz.lays107 : Go.Proofs.Lays.n107 Tryz.prog Tryz.lays107_ren := {
  mixed := by kernel_rfl
  f107 := Tryz.func152.trans (congrArg some (by kernel_rfl))
  f108 := Tryz.func204.trans (congrArg some (by kernel_rfl))
  t0 := Tryz.underlying0
  a0 := Tryz.isAgg0
  z0 := Tryz.sizeOf0
  v0 := Tryz.zeroValue0
  t3 := Tryz.underlying3
  a3 := Tryz.isAgg3
  z3 := Tryz.sizeOf3
  v3 := Tryz.zeroValue3
  t4 := Tryz.underlying4
  a4 := Tryz.isAgg4
  z4 := Tryz.sizeOf4
  v4 := Tryz.zeroValue4
  t28 := Tryz.underlying36
  a28 := Tryz.isAgg36
  z28 := Tryz.sizeOf36
  v28 := Tryz.zeroValue36 }
open Go.Lib in
theorem Tryz.slices_Contains_int (b off n c : Nat) (zs : List Int) (x : Int) (w : World) (hz : n ≤ zs.length) (hbig : n ≤ 9223372036854775807) (hc : ∀ j, j < zs.length → w.cell? ⟨b, off + j, none⟩ = some (.int .i64 (zs.getD j 0))) :
    Calls Tryz.prog 152 #[.slice (some ⟨b, off, none⟩) n c, .int .i64 x] w fun e w' => e = .returned (.bool ((zs.take n).contains x)) ∧ w' = w := Any.slices_Contains_int Tryz.lays107 b off n c zs x w hz hbig hc
open Go.Lib in
theorem Tryz.slices_Contains_int_empty (a : Option Addr) (c : Nat) (x : Int) (w : World) :
    Calls Tryz.prog 152 #[.slice a 0 c, .int .i64 x] w fun e w' => e = .returned (.bool false) ∧ w' = w := Any.slices_Contains_int_empty Tryz.lays107 a c x w
def Tryz.laysNm215_ren : Go.Shelf.Ren := ⟨fun | 15 => 164 | n => n, fun | 22 => 36 | 3 => 3 | 4 => 4 | n => n, fun | n => n⟩
theorem Tryz.laysNm215 : Go.Proofs.Lays2.n15 Tryz.prog Tryz.laysNm215_ren := {
  mixed := by kernel_rfl
  f15 := Tryz.func164.trans (congrArg some (by kernel_rfl))
  t3 := Tryz.underlying3
  a3 := Tryz.isAgg3
  z3 := Tryz.sizeOf3
  v3 := Tryz.zeroValue3
  t4 := Tryz.underlying4
  a4 := Tryz.isAgg4
  z4 := Tryz.sizeOf4
  v4 := Tryz.zeroValue4
  t22 := Tryz.underlying36
  a22 := Tryz.isAgg36
  z22 := Tryz.sizeOf36
  v22 := Tryz.zeroValue36
  i3 := by kernel_rfl }
open Go.RowKit Go.Lib in
theorem Tryz.slices_Clone_int (b off n c : Nat) (zs : List Int) (w : World) (hz : n ≤ zs.length) (hbig : n * 8 ≤ 140737488355328) (hc : ∀ j, j < zs.length → w.cell? ⟨b, off + j, none⟩ = some (.int .i64 (zs.getD j 0))) :
    Calls Tryz.prog 164 #[.slice (some ⟨b, off, none⟩) n c] w fun e w' => ∃ v', e = .returned v' ∧ w'.ownsRow w.heap.size 3 1 v' n ((zs.take n).map (Value.int .i64)) ∧ v' ≠ .slice none 0 0 ∧ Below w.heap.size w w' := Any.slices_Clone_int Tryz.laysNm215 b off n c zs w hz hbig hc
open Go.RowKit Go.Lib in
theorem Tryz.slices_Clone_int_nil (n c : Nat) (w : World) :
    Calls Tryz.prog 164 #[.slice none n c] w fun e w' => e = .returned (.slice none 0 0) ∧ w' = w := Any.slices_Clone_int_nil Tryz.laysNm215 n c w
open Go.RowKit Go.Lib in
theorem Tryz.slices_Clone_int_zero (a : Addr) (c : Nat) (w : World) :
    Calls Tryz.prog 164 #[.slice (some a) 0 c] w fun e w' => ∃ v', e = .returned v' ∧ w'.ownsRow w.heap.size 3 1 v' 0 [] ∧ v' ≠ .slice none 0 0 ∧ Below w.heap.size w w' := Any.slices_Clone_int_zero Tryz.laysNm215 a c w
def Tryz.laysNm220_ren : Go.Shelf.Ren := ⟨fun | 20 => 95 | n => n, fun | 22 => 36 | 3 => 3 | 4 => 4 | 0 => 0 | n => n, fun | n => n⟩
theorem Tryz.laysNm220 : Go.Proofs.Lays2.n20 Tryz.prog Tryz.laysNm220_ren := {
  mixed := by kernel_rfl
  f20 := Tryz.func95.trans (congrArg some (by kernel_rfl))
  t0 := Tryz.underlying0
  a0 := Tryz.isAgg0
  z0 := Tryz.sizeOf0
  v0 := Tryz.zeroValue0
  t3 := Tryz.underlying3
  a3 := Tryz.isAgg3
  z3 := Tryz.sizeOf3
  v3 := Tryz.zeroValue3
  t4 := Tryz.underlying4
  a4 := Tryz.isAgg4
  z4 := Tryz.sizeOf4
  v4 := Tryz.zeroValue4
  t22 := Tryz.underlying36
  a22 := Tryz.isAgg36
  z22 := Tryz.sizeOf36
  v22 := Tryz.zeroValue36
  i3 := by kernel_rfl }
open Go.RowKit Go.Lib Go.Sort in
theorem Tryz.slices_Compact_int_arr (blk off cap : Nat) (d : Array Int) (w : World) (hH : Holds encI w blk off d) (hsz : d.size ≤ 9223372036854775807) (hcap : d.size ≤ cap) :
    Calls Tryz.prog 95 #[.slice (some ⟨blk, off, none⟩) d.size cap] w fun e w' => e = .returned (.slice (some ⟨blk, off, none⟩) (compactUpTo d d.size).length cap) ∧ ∃ q, w' = putRow encI (Sort.ahead w q) blk off (compactUpTo d d.size ++ List.replicate (d.size - (compactUpTo d d.size).length) 0).toArray := Any.slices_Compact_int_arr Tryz.laysNm220 blk off cap d w hH hsz hcap
open Go.RowKit Go.Lib Go.Sort in
theorem Tryz.slices_Compact_int (blk off cap : Nat) (zs : List Int) (w : World) (hH : Holds (Value.int .i64) w blk off zs.toArray) (hsz : zs.length ≤ 9223372036854775807) (hcap : zs.length ≤ cap) :
    Calls Tryz.prog 95 #[.slice (some ⟨blk, off, none⟩) zs.length cap] w fun e w' => e = .returned (.slice (some ⟨blk, off, none⟩) (Lib.compact zs).length cap) ∧ ∃ q, w' = putRow (Value.int .i64) (Sort.ahead w q) blk off (Lib.compact zs ++ List.replicate (zs.length - (Lib.compact zs).length) 0).toArray := Any.slices_Compact_int Tryz.laysNm220 blk off cap zs w hH hsz hcap
open Go.RowKit Go.Lib Go.Sort in
theorem Tryz.slices_Compact_int_empty (a : Option Addr) (cap : Nat) (w : World) :
    Calls Tryz.prog 95 #[.slice a 0 cap] w fun e w' => e = .returned (.slice a 0 cap) ∧ w' = w := Any.slices_Compact_int_empty Tryz.laysNm220 a cap w
open Go.RowKit Go.Lib Go.Sort in
theorem Tryz.slices_Compact_int_cells (b off n c : Nat) (zs : List Int) (w : World) (hz : n ≤ zs.length) (hbig : n ≤ 9223372036854775807) (hcap : n ≤ c) (hc : ∀ j, j < zs.length → w.cell? ⟨b, off + j, none⟩ = some (.int .i64 (zs.getD j 0))) (hf : ∀ j, j < n → w.frozen? ⟨b, off + j, none⟩ = false) :
    Calls Tryz.prog 95 #[.slice (some ⟨b, off, none⟩) n c] w fun e w' => e = .returned (.slice (some ⟨b, off, none⟩) (Lib.compact (zs.take n)).length c) ∧ ∃ q, w' = (w.drewN q).setCells b off ((Lib.compact (zs.take n) ++ List.replicate (n - (Lib.compact (zs.take n)).length) 0).map (Value.int .i64)) := Any.slices_Compact_int_cells Tryz.laysNm220 b off n c zs w hz hbig hcap hc hf
end Go.Proofs
namespace Go.Proofs.YtfgnmflfiobkmaaGreat
open Go.RowKit
section
variable {α : Type}
theorem flatMap_idx {enc : α → List Value} {sz : Nat} (hsz : ∀ x, (enc x).length = sz) {l : List α} {j : Nat} (hj : j < l.length * sz) : ∃ x, l[j / sz]? = some x ∧ (l.flatMap enc)[j]? = (enc x)[j % sz]? := by
  have h0 : 0 < sz := by
    rcases Nat.eq_zero_or_pos sz with h | h
    · subst h; simp at hj
    · exact h
  have hk : j / sz < l.length := Nat.div_lt_of_lt_mul (by rw [Nat.mul_comm]; exact hj)
  refine ⟨l[j / sz], List.getElem?_eq_getElem hk, ?_⟩
  have hm : j % sz < (enc l[j / sz]).length := by rw [hsz]; exact Nat.mod_lt _ h0
  have h1 := flatMap_at hsz l (j / sz) _ (List.getElem?_eq_getElem hk) (j % sz) _ (List.getElem?_eq_getElem hm)
  rw [show j / sz * sz + j % sz = j from by rw [Nat.mul_comm]; exact Nat.div_add_mod j sz] at h1
  rw [h1, List.getElem?_eq_getElem hm]
theorem madeCells_enc {enc : α → List Value} {sz : Nat} (hsz : ∀ x, (enc x).length = sz) {z : Value} {z0 : α} (hz : z.cells.toList = enc z0) (n : Nat) : madeCells z.cells (n * sz) = ((List.replicate n z0).flatMap enc).toArray := by
  have hs : z.cells.size = sz := by rw [← hsz z0, ← hz]; simp
  apply Array.ext'
  apply List.ext_getElem?
  intro j
  by_cases hj : j < n * sz
  · obtain ⟨x, hx, h1⟩ := flatMap_idx hsz (l := List.replicate n z0) (j := j) (by simpa using hj)
    obtain rfl : x = z0 := (List.eq_of_mem_replicate (List.mem_of_getElem? hx))
    have h0 : 0 < sz := by
      rcases Nat.eq_zero_or_pos sz with h | h
      · subst h; simp at hj
      · exact h
    have hm : j % sz < z.cells.size := by rw [hs]; exact Nat.mod_lt _ h0
    rw [List.toList_toArray, h1, ← hz]
    simp only [madeCells, Array.getElem?_toList, Array.getElem?_map, Array.getElem?_range, hj, if_true, Option.map_some, hs]
    rw [getElem!_pos z.cells (j % sz) hm, Array.getElem?_eq_getElem hm]
  · rw [List.getElem?_eq_none (by simp [madeCells]; omega), List.toList_toArray, List.getElem?_eq_none (by rw [length_flatMap_enc hsz]; simp; omega)]
theorem splice_flat {enc : α → List Value} {sz : Nat} (hsz : ∀ x, (enc x).length = sz) : ∀ (l : List α) (k : Nat) (x : α), k < l.length → splice (l.flatMap enc) (k * sz) (enc x) = (l.set k x).flatMap enc
  | [], k, x, h => by simp at h
  | y :: l, 0, x, h => by
    simp only [splice, Nat.zero_mul, List.take_zero, List.nil_append, Nat.zero_add, List.flatMap_cons, List.set_cons_zero]
    rw [hsz, ← hsz y, List.drop_left]
  | y :: l, k + 1, x, h => by
    have ih := splice_flat hsz l k x (by simpa using h)
    unfold splice at ih ⊢
    have h1 : (k + 1) * sz = (enc y).length + k * sz := by rw [hsz, Nat.add_mul]; omega
    rw [h1]
    simp only [List.flatMap_cons, List.set_cons_succ]
    rw [List.take_length_add_append, show (enc y).length + k * sz + (enc x).length = (enc y).length + (k * sz + (enc x).length) from by omega, List.drop_length_add_append, List.append_assoc, List.append_assoc]
    rw [← ih, List.append_assoc]
end
section
variable {α : Type} {P : Program} {a : Act} {w : World} {n : Nat} {e : Env} {ty : TypeId} {pos : String} {af : Array Edge} {g : Option (Nat × Bool)} {d : Option Tmp}
theorem ef_makeSlice {T E sz bytes m : Nat} {x y : Operand} {enc : α → List Value} {z : Value} {z0 : α} (hf : Fr a n e) (hx : ev e x = some (.int .i64 (m : Int))) (hy : ev e y = some (.int .i64 (m : Int))) (hT : SliceT P T E) (hi : InfoT P E sz bytes) (hz : ZeroT P E z) (hz0 : z.cells.toList = enc z0) (hsz : ∀ x, (enc x).length = sz) (hb : bytes * m ≤ 281474976710656) (hm : m ≤ 4611686018427387904) :
    Ef P ⟨d, .makeSlice T x y, ty, pos, af, g⟩ a w (fun v w' => ∃ b, v = .slice (some ⟨b, 0, none⟩) m m ∧ w.heap.size ≤ b ∧ Below w.heap.size w w' ∧ Blk w' b E ((List.replicate m z0).flatMap enc)) := by
  obtain ⟨i, z1, hi1, hi2, hi3, hi4, hi5, hi6⟩ := hi
  obtain ⟨i', hi1', hz1⟩ := hz
  rw [hi1] at hi1'
  injection hi1' with hi1'
  subst hi1'
  rw [hi2] at hz1
  injection hz1 with hz1
  subst hz1
  have hb' : (i.bytes : Int) * (m : Int) ≤ 281474976710656 := by
    have h : ((i.bytes * m : Nat) : Int) ≤ 281474976710656 := by rw [hi4]; omega
    rwa [Int.natCast_mul] at h
  have hr := run_make (P := P) w T E i z1 hT hi1 hi2 .i64 .i64 m m (by omega) (Int.le_refl _) hb' (by omega)
  refine (Ef.of_run (v := .slice (some ⟨w.heap.size, 0, none⟩) m m) (w' := w.alloc (.cells ((List.replicate m z0).flatMap enc).toArray E)) ?_).mono fun v w' ⟨e1, e2⟩ => ?_
  · rw [hi3, Int.toNat_natCast, madeCells_enc hsz hz0] at hr
    simp [execOp, hf.ev hx, hf.ev hy, hr]
  · subst e1; subst e2
    exact ⟨_, rfl, Nat.le_refl _, (Below.refl _ _).alloc (Nat.le_refl _) _, blk_alloc w E _⟩
theorem ev_indexB {T E sz b m c k off : Nat} {x y : Operand} {i : Int} (hf : Fr a n e) (hx : ev e x = some (.slice (some ⟨b, 0, none⟩) m c)) (hy : ev e y = some (.int .i64 i)) (hT : SliceT P T E) (hs : SizeT P E sz) (hi : i = (k : Int)) (hk : k < m) (ho : k * sz = off) :
    Ev P ⟨d, .indexAddr T x y, ty, pos, af, g⟩ a w (.pointer (some ⟨b, off, none⟩)) := by
  have h := ev_index (P := P) (w := w) (d := d) (ty := ty) (pos := pos) (af := af) (g := g) hf hx hy hT hs hi hk
  rwa [addr_off, Nat.zero_add, ho] at h
theorem ef_storeF {t T b k sz : Nat} {x y : Operand} {v : Value} {enc : α → List Value} {l : List α} {u : α} (hf : Fr a n e) (hx : ev e x = some (.pointer (some ⟨b, k * sz, none⟩))) (hy : ev e y = some v) (hs : SizeT P t sz) (hb : Blk w b T (l.flatMap enc)) (hsz : ∀ x, (enc x).length = sz) (hone : ∀ x, (enc x).all one = true) (hv : v.cells.toList = enc u) (hk : k < l.length) :
    Ef P ⟨d, .store t x y, ty, pos, af, g⟩ a w (Stored w b T ((l.set k u).flatMap enc)) := by
  have hl : k * sz + sz ≤ (l.flatMap enc).length := by
    rw [length_flatMap_enc hsz]
    have := Nat.mul_le_mul_right sz (show k + 1 ≤ l.length by omega)
    rwa [Nat.add_mul, Nat.one_mul] at this
  exact ef_store (vs := enc u) hf hx hy hs hb hv (by rw [hsz]; simp) (hone u) (by rw [Nat.ble_eq]; exact hl) (splice_flat hsz l k u hk)
theorem ev_sliceTo {T E sz m c k : Nat} {x y : Operand} {A : Option Addr} {i : Int} (hf : Fr a n e) (hx : ev e x = some (.slice A m c)) (hy : ev e y = some (.int .i64 i)) (hT : SliceT P T E) (hs : SizeT P E sz) (hi : i = (k : Int)) (hk : k ≤ c) :
    Ev P ⟨d, .slice T x none (some y) none, ty, pos, af, g⟩ a w (.slice A k c) := fun w' _ => by
  subst hi
  have h0 : ∀ p : Addr, p.add 0 = p := fun p => by simp [Addr.add]
  simp [execOp, Instr.sliceAt, Instr.slice, Instr.sliceBounds, run_sliceBound, run_under hT, run_sizeOf' hs, hf.ev hx, hf.ev hy, hk, h0]
theorem ev_sliceFrom {T E sz m c k : Nat} {x y : Operand} {A : Option Addr} {i : Int} (hf : Fr a n e) (hx : ev e x = some (.slice A m c)) (hy : ev e y = some (.int .i64 i)) (hT : SliceT P T E) (hs : SizeT P E sz) (hi : i = (k : Int)) (hk : k ≤ m) :
    Ev P ⟨d, .slice T x (some y) none none, ty, pos, af, g⟩ a w (.slice (if c = k then A else A.map (·.add (k * sz))) (m - k) (c - k)) := fun w' _ => by
  subst hi
  simp [execOp, Instr.sliceAt, Instr.slice, Instr.sliceBounds, run_sliceBound, run_under hT, run_sizeOf' hs, hf.ev hx, hf.ev hy, hk]
end
section
variable {α : Type} {w : World} {B B0 : Nat} {E : TypeId} {sz : Nat} {enc : α → List Value} {A : Option Addr} {c : Nat} {l : List α}
theorem flatMap_take (hsz : ∀ x, (enc x).length = sz) (k : Nat) : (l.take k).flatMap enc = (l.flatMap enc).take (k * sz) := by
  conv => rhs; rw [← List.take_append_drop k l]
  rw [List.flatMap_append]
  by_cases hk : k ≤ l.length
  · have : ((l.take k).flatMap enc).length = k * sz := by rw [length_flatMap_enc hsz, List.length_take, Nat.min_eq_left hk]
    rw [← this, List.take_left]
  · rw [List.take_of_length_le (by omega), List.drop_of_length_le (by omega)]
    simp only [List.flatMap_nil, List.append_nil]
    rw [List.take_of_length_le (by rw [length_flatMap_enc hsz]; exact Nat.mul_le_mul_right _ (by omega))]
theorem flatMap_drop (hsz : ∀ x, (enc x).length = sz) (k : Nat) : (l.drop k).flatMap enc = (l.flatMap enc).drop (k * sz) := by
  conv => rhs; rw [← List.take_append_drop k l]
  rw [List.flatMap_append]
  by_cases hk : k ≤ l.length
  · have : ((l.take k).flatMap enc).length = k * sz := by rw [length_flatMap_enc hsz, List.length_take, Nat.min_eq_left hk]
    rw [← this, List.drop_left]
  · have h1 : l.drop k = [] := List.drop_of_length_le (by omega)
    rw [h1, List.flatMap_nil, List.append_nil, List.drop_of_length_le (by rw [length_flatMap_enc hsz, List.length_take]; exact Nat.mul_le_mul_right _ (by omega))]
theorem Rd.takeK (hsz : ∀ x, (enc x).length = sz) (h : Rd w B E enc A l) (k : Nat) : Rd w B E enc A (l.take k) := fun hl => by
  have hl' : l ≠ [] := by rintro rfl; simp at hl
  obtain ⟨b, off, cs, fz, h1, h2, h3, h4⟩ := h hl'
  refine ⟨b, off, cs, fz, h1, h2, h3, fun j v hj => h4 j v ?_⟩
  rw [flatMap_take hsz, List.getElem?_take] at hj
  split at hj
  · exact hj
  · cases hj
theorem Rd.dropK (hsz : ∀ x, (enc x).length = sz) (h : Rd w B E enc A l) (hc : l.length ≤ c) (k : Nat) : Rd w B E enc (if c = k then A else A.map (·.add (k * sz))) (l.drop k) := fun hl => by
  have hk : k < l.length := by
    rcases Nat.lt_or_ge k l.length with h' | h'
    · exact h'
    · exact absurd (List.drop_of_length_le h') hl
  have hl' : l ≠ [] := by rintro rfl; simp at hk
  obtain ⟨b, off, cs, fz, h1, h2, h3, h4⟩ := h hl'
  rw [if_neg (by omega), h1]
  refine ⟨b, off + k * sz, cs, fz, by rw [Option.map_some, addr_off], h2, h3, fun j v hj => ?_⟩
  rw [flatMap_drop hsz, List.getElem?_drop] at hj
  rw [Nat.add_assoc]
  exact h4 _ v hj
theorem ev_takeL {P : Program} {a : Act} {n : Nat} {e : Env} {ty : TypeId} {pos : String} {af : Array Edge} {g : Option (Nat × Bool)} {d : Option Tmp} {T k : Nat} {x y : Operand} {i : Int} (hf : Fr a n e) (hx : ev e x = some (.slice A l.length c)) (hy : ev e y = some (.int .i64 i)) (hT : SliceT P T E) (hs : SizeT P E sz) (hi : i = (k : Int)) (hk : k ≤ l.length) (hc : l.length ≤ c) :
    Ev P ⟨d, .slice T x none (some y) none, ty, pos, af, g⟩ a w (.slice A (l.take k).length c) := by
  rw [List.length_take, Nat.min_eq_left hk]
  exact ev_sliceTo hf hx hy hT hs hi (by omega)
theorem ev_dropL {P : Program} {a : Act} {n : Nat} {e : Env} {ty : TypeId} {pos : String} {af : Array Edge} {g : Option (Nat × Bool)} {d : Option Tmp} {T k : Nat} {x y : Operand} {i : Int} (hf : Fr a n e) (hx : ev e x = some (.slice A l.length c)) (hy : ev e y = some (.int .i64 i)) (hT : SliceT P T E) (hs : SizeT P E sz) (hi : i = (k : Int)) (hk : k ≤ l.length) :
    Ev P ⟨d, .slice T x (some y) none none, ty, pos, af, g⟩ a w (.slice (if c = k then A else A.map (·.add (k * sz))) (l.drop k).length (c - k)) := by
  rw [List.length_drop]
  exact ev_sliceFrom hf hx hy hT hs hi hk
theorem Own.cap (h : Own w B0 E sz enc A c l) : l.length ≤ c := by
  rcases h.2 with ⟨h1, h2⟩ | ⟨g, cap, cur, h1, h2, h3, h4, h5, h6⟩
  · omega
  · injection h1 with _ _ h1
    omega
theorem Own.of_flat (hsz : ∀ x, (enc x).length = sz) {b m : Nat} (h : Blk w b E (l.flatMap enc)) (hb : B0 ≤ b) (hl : l.length = m) (hk : m ≤ maxLen) : Own w B0 E sz enc (some ⟨b, 0, none⟩) m l := Own.of_blkL hsz h hb rfl hl hk
end
theorem Kept.app {α : Type} {b B B0 : Nat} {w0 w w' : World} {E : TypeId} {sz : Nat} {enc : α → List Value} {A : Option Addr} {c : Nat} {l : List α} (h : Kept b B w0 w) (ho : Own w B0 E sz enc A c l) (hg : w.grownBy w' (Value.slice A l.length c).ownBlock) (hB : B ≤ B0) (hs : B ≤ w.heap.size) : Kept b B w0 w' :=
  ⟨hg.os.trans h.os, hg.tape.trans h.tape, hg.output.trans h.output, Nat.le_trans h.size hg.size, fun k hk hne => (hg.block k (by omega) fun hk' => by have := (ho.block hk'.symm).1; omega).trans (h.block k hk hne)⟩
theorem ef_append0 {α : Type} {P : Program} {a : Act} {w : World} {n : Nat} {e : Env} {ty : TypeId} {pos : String} {af : Array Edge} {g : Option (Nat × Bool)} {d : Option Tmp} {T E : TypeId} {sz bytes B b0 : Nat} {x y : Operand} {enc : α → List Value} {A2 : Option Addr} {c2 : Nat} {l2 : List α} (hf : Fr a n e) (hx : ev e x = some (.slice (some ⟨b0, 0, none⟩) 0 0)) (hy : ev e y = some (.slice A2 l2.length c2))
    (hT : SliceT P T E) (hi : InfoT P E sz bytes) (hsz : ∀ x, (enc x).length = sz) (hone : ∀ x, (enc x).all one = true) (hb : Blk w b0 E []) (hr : Rd w B E enc A2 l2) (h63 : l2.length ≤ maxLen) (hbytes : l2.length * bytes ≤ 140737488355328) :
    Ef P ⟨d, .call ⟨.builtin .append, #[x, y], #[T, T]⟩, ty, pos, af, g⟩ a w (fun v w' => ∃ A' c', v = .slice A' l2.length c' ∧ Own w' b0 E sz enc A' c' l2 ∧ Below w.heap.size w w') := by
  by_cases hl2 : l2 = []
  · subst hl2
    obtain ⟨i, z, hi1, hi2, hi3, hi4, hi5, hi6⟩ := hi
    have hrun : (Builtin.append_ #[T, T] ty #[.slice (some ⟨b0, 0, none⟩) 0 0, .slice A2 0 c2]).run P w = .ok (.slice (some ⟨b0, 0, none⟩) 0 0) w := by
      cases A2 <;> simp [Builtin.append_, run_under hT, sizeOf, typeInfo, hi1, Builtin.lenOf, Builtin.firstCells, loadCells, loadCellsFrom, storeCells]
    refine (Ef.of_run (v := .slice (some ⟨b0, 0, none⟩) 0 0) (w' := w) ?_).mono fun v w' ⟨e1, e2⟩ => ?_
    · simp only [List.length_nil] at hy
      simp [execOp, resolve, invoke, builtin, hf.ev hx, hf.ev hy, hrun]
    · subst e1; subst e2
      exact ⟨_, _, rfl, Own.empty hb (Nat.le_refl _), Below.refl _ _⟩
  · have hown : Own w b0 E sz enc (some ⟨b0, 0, none⟩) 0 ([] : List α) := Own.empty hb (Nat.le_refl _)
    obtain ⟨i, z, hi1, hi2, rfl, rfl, hi5, hi6⟩ := hi
    obtain ⟨b, off, cs, fz, rfl, h2, h3, h4⟩ := hr hl2
    have hlen2 := length_flatMap_enc hsz l2
    have hpos : 0 < l2.length := List.length_pos_iff.2 hl2
    have h := run_append_grow (P := P) w T ty E i z hT hi1 hi2 ⟨b0, 0, none⟩ 0 0 [] (by simp) (fun j u hu => by simp at hu)
      ⟨b, off, none⟩ l2.length c2 (l2.flatMap enc) hlen2 (fun j u hu => by
        have := h4 j u hu
        rw [addr_off]
        simp [World.cell?, h3, this])
      (by omega) (by simp only [maxLen] at h63; omega) (growslice_fits (by omega) (by simpa using hbytes))
    simp only [Nat.zero_add] at h
    refine (Ef.of_run (w' := w.drew.alloc (.cells (([] : List Value).toArray ++ (l2.flatMap enc).toArray ++ Builtin.zeroCells z.cells (grownCap w l2.length 0 E - l2.length)) E)) (v := .slice (some ⟨w.heap.size, 0, none⟩) l2.length (grownCap w l2.length 0 E)) ?_).mono fun v w' ⟨e1, e2⟩ => ?_
    · simp [execOp, resolve, invoke, builtin, hf.ev hx, hf.ev hy, h]
    · subst e1; subst e2
      have hb0 := hb.lt
      have hge := grownCap_ge w l2.length 0 E
      refine ⟨_, _, rfl, ?_, ((Below.refl _ _).drew).alloc (Nat.le_refl _) _⟩
      refine ⟨length_flatMap_enc hsz _, .inr ⟨w.heap.size, _, _, rfl, by omega, heap_alloc_new w.drew _, hge, grownCap_le_maxLen w _ _ E h63, ?_, ?_⟩⟩
      · simp only [Array.size_append, List.size_toArray, size_zeroCells, hi5, hlen2, List.length_nil, Nat.zero_add, ← Nat.add_mul]
        congr 1
        omega
      · rw [← hlen2]
        simp only [Array.toList_append, List.append_assoc, List.nil_append]
        exact List.take_left
end Go.Proofs.YtfgnmflfiobkmaaGreat
namespace Go.Proofs.YtfgnmflfiobkmaaGreat
open Go.RowKit Go.Sort
theorem putWorld_heap {w : World} {g n : Nat} {os : Array Obj} {cur : Array Value} {e : TypeId} {fr : Nat × Nat} (d : Array Int) (hb : w.heap[g]? = some (.cells cur e fr)) :
    (grow (putRow (Value.int .i64) (Sort.ahead w n) g 0 d) os).heap[g]? = some (.cells (putCells (Value.int .i64) 0 d cur) e fr) := by
  have hg : g < w.heap.size := (Array.getElem?_eq_some_iff.1 hb).1
  rw [heap_grow_old _ _ (by simpa using hg)]
  simp [putRow, mapBlock, Sort.ahead, Array.getElem?_modify, hb, onCells]
theorem putWorld_grown {w : World} {g n : Nat} {os : Array Obj} (d : Array Int) : w.grownBy (grow (putRow (Value.int .i64) (Sort.ahead w n) g 0 d) os) (some g) := by
  refine ⟨rfl, rfl, rfl, by simp, fun k hk hne => ?_⟩
  rw [heap_grow_old _ _ (by simpa using hk)]
  have : g ≠ k := fun e => hne (by rw [e])
  simp [putRow, mapBlock, Sort.ahead, Array.getElem?_modify, this]
theorem flat_encI (l : List Int) : l.flatMap encI = l.map (Value.int .i64) := by
  induction l with
  | nil => rfl
  | cons x l ih => simp only [List.flatMap_cons, List.map_cons, ih]; rfl
theorem take_put (cur : Array Value) (d ts : List Int) (h : d.length ≤ cur.size) (ht : d.take ts.length = ts) : (putCells (Value.int .i64) 0 d.toArray cur).toList.take (ts.length * 1) = ts.flatMap encI := by
  have hl : ts.length ≤ d.length := by
    have := congrArg List.length ht
    rw [List.length_take] at this
    omega
  rw [flat_encI, Nat.mul_one]
  apply List.ext_getElem?
  intro j
  by_cases hj : j < ts.length
  · rw [List.getElem?_take_of_lt hj, Array.getElem?_toList]
    have h1 : ts[j]? = d[j]? := by
      conv => lhs; rw [← ht]
      rw [List.getElem?_take_of_lt hj]
    have h2 : j < d.length := by omega
    rw [List.getElem?_map, h1]
    simp [putCells, h2, show j < cur.size by omega]
  · rw [List.getElem?_take_eq_none (by omega), List.getElem?_eq_none (by simp; omega)]
theorem holds_own {w : World} {g : Nat} {cur : Array Value} {e : TypeId} {l : List Int} (hb : w.heap[g]? = some (.cells cur e (0, 0))) (ht : cur.toList.take (l.length * 1) = l.flatMap encI) : Holds (Value.int .i64) w g 0 l.toArray := by
  intro j hj
  have hj' : j < l.length := by simpa using hj
  refine ⟨?_, by simp [World.frozen?, hb]⟩
  rw [flat_encI, Nat.mul_one] at ht
  have h1 : (cur.toList.take l.length)[j]? = (l.map (Value.int .i64))[j]? := by rw [ht]
  rw [List.getElem?_take_of_lt hj'] at h1
  simp only [World.cell?, hb, Nat.zero_add]
  simp only [Option.isSome_none, Bool.false_eq_true, if_false]
  rw [← Array.getElem?_toList, h1]
  simp [hj']
def sortI (l : List Int) : List Int := l.mergeSort fun x y => decide (x ≤ y)
theorem F94 (w0 : World) (B0 : Nat) (A : Option Addr) (c : Nat) (l : List Int) (ho : Own w0 B0 3 1 encI A c l) (hl : l.length ≤ 1000000000) :
    Ret Tryz.prog 94 [.slice A l.length c] w0 (fun _ w => Own w B0 3 1 encI A c (sortI l) ∧ w0.grownBy w (Value.slice A l.length c).ownBlock) := by
  by_cases h0 : l = []
  · subst h0
    refine Calls.mono (Any.slices_Sort_int_none Tryz.lays189 A c w0) fun e w ⟨e1, e2⟩ => ⟨_, e1, ?_⟩
    subst e2
    exact ⟨by simpa [sortI] using ho, World.grownBy.refl w _⟩
  · rcases ho.2 with ⟨h1, h2⟩ | ⟨g, cap, cur, h1, h2, h3, h4, h5, h6, h7⟩
    · exact absurd (List.eq_nil_of_length_eq_zero h2) h0
    · injection h1 with h1 _ h1''
      subst h1; subst h1''
      have hs : (sortI l).length = l.length := by simp [sortI]
      refine Calls.mono (Tryz.slices_Sort_int g 0 c l w0 (holds_own h3 h7) (Array.getElem?_eq_some_iff.1 h3).1 (by omega)) fun e w ⟨e1, n, os, e2⟩ => ⟨_, e1, ?_⟩
      subst e2
      refine ⟨⟨length_flatMap_enc encI_len _, .inr ⟨g, c, _, by rw [hs], h2, putWorld_heap _ h3, by omega, h5, by simp [putCells, h6], ?_⟩⟩, ?_⟩
      · exact take_put cur (sortI l) (sortI l) (by omega) List.take_length
      · exact putWorld_grown _
theorem compact_len (l : List Int) : (Lib.compact l).length ≤ l.length := by
  unfold Lib.compact Lib.compactUpTo
  rw [List.length_map]
  exact Nat.le_trans (List.length_filter_le _ _) (by simp)
theorem F95 (w0 : World) (B0 : Nat) (A : Option Addr) (c : Nat) (l : List Int) (ho : Own w0 B0 3 1 encI A c l) (hl : l.length ≤ 1000000000) :
    Ret Tryz.prog 95 [.slice A l.length c] w0 (fun v w => v = .slice A (Lib.compact l).length c ∧ Own w B0 3 1 encI A c (Lib.compact l) ∧ w0.grownBy w (Value.slice A l.length c).ownBlock) := by
  by_cases h0 : l = []
  · subst h0
    refine Calls.mono (Tryz.slices_Compact_int_empty A c w0) fun e w ⟨e1, e2⟩ => ⟨_, e1, ?_⟩
    subst e2
    exact ⟨rfl, ho, World.grownBy.refl w _⟩
  · rcases ho.2 with ⟨h1, h2⟩ | ⟨g, cap, cur, h1, h2, h3, h4, h5, h6, h7⟩
    · exact absurd (List.eq_nil_of_length_eq_zero h2) h0
    · injection h1 with h1 _ h1''
      subst h1; subst h1''
      have hc := compact_len l
      refine Calls.mono (Tryz.slices_Compact_int g 0 c l w0 (holds_own h3 h7) (by omega) h4) fun e w ⟨e1, q, e2⟩ => ⟨_, e1, rfl, ?_⟩
      have e3 : w = grow (putRow (Value.int .i64) (Sort.ahead w0 q) g 0 (Lib.compact l ++ List.replicate (l.length - (Lib.compact l).length) 0).toArray) #[] := by rw [grow_empty]; exact e2
      subst e3
      refine ⟨⟨length_flatMap_enc encI_len _, .inr ⟨g, c, _, rfl, h2, putWorld_heap _ h3, by omega, h5, by simp [putCells, h6], ?_⟩⟩, ?_⟩
      · exact take_put cur _ (Lib.compact l) (by simp; omega) List.take_left
      · exact putWorld_grown _
theorem F95m (w0 : World) (B0 : Nat) (A : Option Addr) (c : Nat) (l : List Int) (m : Nat) (hm : m = l.length) (ho : Own w0 B0 3 1 encI A c l) (hl : l.length ≤ 1000000000) :
    Ret Tryz.prog 95 [.slice A m c] w0 (fun v w => v = .slice A (Lib.compact l).length c ∧ Own w B0 3 1 encI A c (Lib.compact l) ∧ w0.grownBy w (Value.slice A l.length c).ownBlock) := by
  subst hm
  exact F95 w0 B0 A c l ho hl
def growRen : Go.Shelf.Ren := ⟨fun | 4 => 133 | n => n, fun | 22 => 36 | 25 => 3 | n => n, fun | n => n⟩
theorem growLay : Lays8.n4 Tryz.prog growRen := {
  mixed := by kernel_rfl
  f4 := ⟨Tryz.f133.name, by decide, Tryz.func133.trans (congrArg some (by kernel_rfl))⟩
  t0 := Tryz.underlying0
  a0 := Tryz.isAgg0
  z0 := Tryz.sizeOf0
  v0 := Tryz.zeroValue0
  t3 := Tryz.underlying3
  a3 := Tryz.isAgg3
  z3 := Tryz.sizeOf3
  v3 := Tryz.zeroValue3
  t4 := Tryz.underlying4
  a4 := Tryz.isAgg4
  z4 := Tryz.sizeOf4
  v4 := Tryz.zeroValue4
  t9 := Tryz.underlying9
  a9 := Tryz.isAgg9
  z9 := Tryz.sizeOf9
  v9 := Tryz.zeroValue9
  t20 := Tryz.underlying20
  a20 := Tryz.isAgg20
  z20 := Tryz.sizeOf20
  v20 := Tryz.zeroValue20
  t22 := Tryz.underlying36
  a22 := Tryz.isAgg36
  z22 := Tryz.sizeOf36
  v22 := Tryz.zeroValue36 }
theorem F133 (w0 : World) (n : Nat) (hn : n ≤ 1000000000) : Ret Tryz.prog 133 [.slice none 0 0, .int .i64 (n : Int)] w0 (fun v w => ∃ A c, v = .slice A 0 c ∧ Own w w0.heap.size 3 1 encI A c ([] : List Int) ∧ Below w0.heap.size w0 w) := by
  by_cases h0 : n = 0
  · subst h0
    refine Calls.mono (Any8.slices_Grow_room growLay none 0 0 0 w0 (by omega) (by omega) (by omega) (by omega)) fun e w ⟨e1, e2⟩ => ⟨_, e1, none, 0, rfl, ?_⟩
    subst e2
    exact ⟨Own.nil _ _ _ _ _, Below.refl _ _⟩
  · obtain ⟨i, z, hi1, hi2, hi3, hi4, hi5, hi6⟩ := inf_3
    refine Calls.mono (Any8.slices_Grow_grow growLay i z hi1 hi2 (by omega) none 0 0 n [] w0 (by omega) (by omega) (by rw [hi4]; omega) (by omega) (by simp) (fun _ => rfl) (fun a h => by cases h)) fun e w ⟨e1, e2⟩ => ⟨_, e1, _, _, rfl, ?_⟩
    subst e2
    have hge := grownCap_ge w0 (0 + n) 0 (growRen.t 25)
    refine ⟨⟨rfl, .inr ⟨w0.heap.size, _, _, rfl, Nat.le_refl _, heap_alloc_new w0.drew _, Nat.zero_le _, grownCap_le_maxLen w0 _ _ _ (by simp only [maxLen]; omega), ?_, by simp⟩⟩, ((Below.refl _ _).drew).alloc (Nat.le_refl _) _⟩
    simp only [Array.size_append, List.size_toArray, size_zeroCells, hi5, List.length_nil, Nat.zero_add, Nat.mul_one] at hge ⊢
    omega
end Go.Proofs.YtfgnmflfiobkmaaGreat
namespace Go.Proofs.YtfgnmflfiobkmaaGreat
open Go.RowKit
structure Sl where (A : Option Addr) (c : Nat) (l : List Int)
def encS (s : Sl) : List Value := [.slice s.A s.l.length s.c]
theorem encS_len : ∀ x, (encS x).length = 1 := fun _ => rfl
theorem encS_one : ∀ x, (encS x).all one = true := fun _ => rfl
structure Rp where (pos : Int) (old new : List Gt)
theorem flat_step {α β : Type} {f : α → List β} {l : List α} {k : Nat} {u : α} (h : l[k]? = some u) : (l.take (k + 1)).flatMap f = (l.take k).flatMap f ++ f u := by
  rw [List.take_add_one, h]
  simp
theorem flat_le {α β : Type} (f : α → List β) (l : List α) (k : Nat) : ((l.take k).flatMap f).length ≤ (l.flatMap f).length := by
  conv => rhs; rw [← List.take_append_drop k l]
  rw [List.flatMap_append, List.length_append]
  omega
theorem flat_full {α β : Type} (f : α → List β) {l : List α} {k : Nat} (h : l.length ≤ k) : (l.take k).flatMap f = l.flatMap f := by rw [List.take_of_length_le h]
def unionI (p q : List Int) : List Int := Lib.compact (sortI (p ++ (q ++ [])))
def qubI (g : Gt) : List Int := if g.k = 12 then [] else if inR g.k 9 11 = true then [g.a, g.b] else [g.a]
def usedI (l : List Gt) : List Int := unionI (l.flatMap qubI) []
theorem qubI_len (g : Gt) : (qubI g).length ≤ 2 := by unfold qubI; split <;> (try split) <;> simp
theorem union_len (p q : List Int) : (unionI p q).length ≤ p.length + q.length := by
  unfold unionI
  refine Nat.le_trans (compact_len _) ?_
  simp [sortI]
theorem flat_qub (l : List Gt) : (l.flatMap qubI).length ≤ 2 * l.length := by
  induction l with
  | nil => simp
  | cons g l ih => have := qubI_len g; simp only [List.flatMap_cons, List.length_append, List.length_cons]; omega
theorem used_len (l : List Gt) : (usedI l).length ≤ 2 * l.length := by
  have h1 := union_len (l.flatMap qubI) []
  have h2 := flat_qub l
  unfold usedI
  simp only [List.length_nil] at h1
  omega
def setAll : List Int → Nat → List Int → List Int
  | [], _, to => to
  | q :: l, i, to => setAll l (i + 1) (to.set q.toNat (i : Int))
def numbI (l : List Int) : List Int := setAll l 0 [0, 0, 0, 0, 0]
theorem setAll_len : ∀ (l : List Int) (i : Nat) (to : List Int), (setAll l i to).length = to.length
  | [], _, _ => rfl
  | _ :: l, i, to => by rw [setAll, setAll_len l]; simp
theorem setAll_snoc : ∀ (l : List Int) (q : Int) (i : Nat) (to : List Int), setAll (l ++ [q]) i to = (setAll l i to).set q.toNat ((i + l.length : Nat) : Int)
  | [], q, i, to => by simp [setAll]
  | x :: l, q, i, to => by
    rw [List.cons_append, setAll, setAll, setAll_snoc l]
    congr 2
    simp only [List.length_cons]
    omega
theorem numb_step {l : List Int} {k : Nat} {u : Int} (h : l[k]? = some u) : numbI (l.take (k + 1)) = (numbI (l.take k)).set u.toNat (k : Int) := by
  have hk := (List.getElem?_eq_some_iff.1 h).1
  unfold numbI
  rw [List.take_add_one, h, Option.toList_some, setAll_snoc, List.length_take, Nat.min_eq_left (by omega), Nat.zero_add]
theorem numb_len (l : List Int) : (numbI l).length = 5 := by rw [numbI, setAll_len]; rfl
def mapG (to : List Int) (g : Gt) : Gt := ⟨g.k, if g.k = 12 then g.a else to.getD g.a.toNat 0, if inR g.k 9 11 = true then to.getD g.b.toNat 0 else g.b⟩
def mapI (l : List Gt) (to : List Int) : List Gt := l.map (mapG to)
theorem map_step {α β : Type} {f : α → β} {l : List α} {k : Nat} {u : α} (h : l[k]? = some u) : (l.take (k + 1)).map f = (l.take k).map f ++ [f u] := by
  rw [List.take_add_one, h]
  simp
theorem getD_get {l : List Int} {k : Nat} (h : k < l.length) : l[k]? = some (l.getD k 0) := by
  rw [List.getD_eq_getElem?_getD, List.getElem?_eq_getElem h]; rfl
def vrI (n : Int) (r : Rp) : Bool := inR n 1 5 && inR r.pos 0 400 && decide ((r.old.length : Int) ≤ 40) && decide ((r.new.length : Int) ≤ 40) && !(r.old.any fun x => !gOk n x) && !(r.new.any fun x => !gOk n x)
end Go.Proofs.YtfgnmflfiobkmaaGreat
namespace Go.Proofs.YtfgnmflfiobkmaaGreat
open Go.RowKit
theorem dOk_iff {x : Dy} : dOk x = true ↔ rOk x.num = true ∧ (0 ≤ x.exp ∧ x.exp ≤ 60) ∧ (x.exp = 0 ∨ rEven x.num = false) := by
  simp only [dOk, Bool.and_eq_true, inR_iff, Bool.or_eq_true, beq_iff_eq, Bool.not_eq_true', and_assoc]
theorem dLow_ok : ∀ (m : Nat) (x : Rg), rOk x = true → m ≤ 60 → dOk (dLow x m) = true
  | 0, x, h, _ => by
    rw [dLow_stop (by omega)]
    exact dOk_iff.2 ⟨h, by simp, .inl rfl⟩
  | m + 1, x, h, hm => by
    by_cases he : rEven x = true
    · rw [dLow_step (by omega) he, show ((m + 1 : Nat) : Int) - 1 = (m : Int) from by omega]
      exact dLow_ok m _ (rHalf_ok h) (by omega)
    · have he' : rEven x = false := by simpa using he
      rw [dLow_stop fun _ => he']
      exact dOk_iff.2 ⟨h, by dsimp only; omega, .inr he'⟩
theorem dLow_okI {x : Rg} {e : Int} (h : rOk x = true) (h0 : 0 ≤ e) (h1 : e ≤ 60) : dOk (dLow x e) = true := by
  obtain ⟨m, rfl⟩ : ∃ m : Nat, e = m := ⟨e.toNat, by omega⟩
  exact dLow_ok m x h (by omega)
def Agree (o : Option Dy) (p : Bool × Dy) : Prop := (∀ z, o = some z → p = (false, z) ∧ dOk z = true) ∧ (o = none → p.1 = true)
theorem rIf2_one {x y z : Rg} (hx : rOk x = true) (hy : rOk y = true) : rIf2 z [x, y] = rOk z := by simp [rIf2, hx, hy]
theorem rIf2_self {x z : Rg} (hx : rOk x = true) : rIf2 z [x] = rOk z := by simp [rIf2, hx]
theorem agree_mul {x y : Dy} (hx : dOk x = true) (hy : dOk y = true) : Agree (dMulI x y) (sMul false x y) := by
  have kx := dOk_iff.1 hx
  have ky := dOk_iff.1 hy
  unfold dMulI sMul
  rw [hx, hy, rIf2_one kx.1 ky.1, rIf1, rIf2_one kx.1 ky.1, Bool.true_and, Bool.true_and]
  by_cases hr : rOk (rMul x.num y.num) = true
  · rw [if_pos hr, if_pos hr]
    unfold dOf
    rw [hr, Bool.true_and]
    by_cases he : 60 < x.exp + y.exp
    · have h1 : ¬ inR (x.exp + y.exp) 0 60 = true := fun h => by have := inR_iff.1 h; omega
      rw [if_neg h1, if_pos he]
      exact ⟨fun z h => (by cases h), fun _ => rfl⟩
    · have h1 : inR (x.exp + y.exp) 0 60 = true := inR_iff.2 (by omega)
      rw [if_pos h1, if_neg he, sRing, if_pos hr]
      exact ⟨fun z h => (by injection h with h; subst h; exact ⟨rfl, dLow_okI hr (by omega) (by omega)⟩), fun h => by cases h⟩
  · have hr' : rOk (rMul x.num y.num) = false := by simpa using hr
    rw [if_neg hr]
    refine ⟨fun z h => (by cases h), fun _ => ?_⟩
    by_cases he : 60 < x.exp + y.exp
    · rw [if_pos he]
    · rw [if_neg he, hr']; rfl
theorem sRaise_exp : ∀ (n : Nat) (f : Bool) (x : Dy), (sRaiseN n f x).2.exp = x.exp + n
  | 0, f, x => by simp [sRaiseN]
  | n + 1, f, x => by rw [sRaiseN, sRaise_exp n]; dsimp only; omega
theorem sRaise_bad : ∀ (n : Nat) (x : Dy), (sRaiseN n true x).1 = true
  | 0, x => rfl
  | n + 1, x => by rw [sRaiseN]; exact sRaise_bad n _
theorem sRaise_good : ∀ (n : Nat) (x : Dy), rOk x.num = true → (raiseI n x.num).2 = true → sRaiseN n false x = (false, ⟨(raiseI n x.num).1, x.exp + n⟩) ∧ rOk (raiseI n x.num).1 = true
  | 0, x, h, _ => ⟨by simp [sRaiseN, raiseI], h⟩
  | n + 1, x, h, hr => by
    unfold raiseI at hr ⊢
    rw [rIf2_self h] at hr ⊢
    by_cases h1 : rOk (rRoot x.num) = true
    · rw [if_pos h1] at hr ⊢
      rw [sRaiseN, h1, sRing, if_pos h1]
      have := sRaise_good n ⟨rRoot x.num, x.exp + 1⟩ h1 hr
      refine ⟨?_, this.2⟩
      simp only [Bool.not_true, Bool.or_false]
      rw [this.1]
      dsimp only
      congr 2
      omega
    · rw [if_neg h1] at hr
      cases hr
theorem sRaise_none : ∀ (n : Nat) (x : Dy), rOk x.num = true → (raiseI n x.num).2 = false → (sRaiseN n false x).1 = true
  | 0, x, h, hr => by cases hr
  | n + 1, x, h, hr => by
    unfold raiseI at hr
    rw [rIf2_self h] at hr
    by_cases h1 : rOk (rRoot x.num) = true
    · rw [if_pos h1] at hr
      rw [sRaiseN, h1, sRing, if_pos h1]
      simp only [Bool.not_true, Bool.or_false]
      exact sRaise_none n ⟨rRoot x.num, x.exp + 1⟩ h1 hr
    · have h2 : rOk (rRoot x.num) = false := by simpa using h1
      rw [sRaiseN, h2]
      exact sRaise_bad n _
theorem agree_add {x y : Dy} (hx : dOk x = true) (hy : dOk y = true) : Agree (dAddI x y) (sAdd false x y) := by
  have kx := dOk_iff.1 hx
  have ky := dOk_iff.1 hy
  obtain ⟨m, hm⟩ : ∃ m, m = max x.exp y.exp := ⟨_, rfl⟩
  have e1 : (m - x.exp).toNat = (y.exp - x.exp).toNat := by omega
  have e3 : x.exp + ((y.exp - x.exp).toNat : Int) = m := by omega
  have ed1 : dRaise x m = raiseI (y.exp - x.exp).toNat x.num := by rw [dRaise, e1]
  unfold dAddI sAdd
  rw [hx, hy, Bool.and_self, if_pos rfl, ← hm, sRaise_exp, e3]
  cases h1 : (dRaise x m).2 with
  | false =>
    have hb := sRaise_none _ x kx.1 (by rw [← ed1]; exact h1)
    rw [hb, sRaise_bad]
    simp only [Bool.false_and, Bool.false_eq_true, if_false, Bool.true_or]
    exact ⟨fun z h => (by cases h), fun _ => rfl⟩
  | true =>
    obtain ⟨g1, g2⟩ := sRaise_good _ x kx.1 (by rw [← ed1]; exact h1)
    rw [g1]
    rw [← ed1] at g2 ⊢
    dsimp only
    have ed2 : dRaise y m = raiseI (m - y.exp).toNat y.num := rfl
    cases h2 : (dRaise y m).2 with
    | false =>
      have hb := sRaise_none _ y ky.1 (by rw [← ed2]; exact h2)
      rw [hb]
      simp only [Bool.and_false, Bool.false_and, Bool.false_eq_true, if_false, Bool.true_or]
      exact ⟨fun z h => (by cases h), fun _ => rfl⟩
    | true =>
      obtain ⟨k1, k2⟩ := sRaise_good _ y ky.1 (by rw [← ed2]; exact h2)
      rw [k1]
      rw [← ed2] at k2 ⊢
      dsimp only
      rw [rIf2_one g2 k2, rIf1, rIf2_one g2 k2, Bool.true_and, Bool.true_and, Bool.false_or]
      by_cases hr : rOk (rAdd (dRaise x m).1 (dRaise y m).1) = true
      · have h3 : inR m 0 60 = true := inR_iff.2 (by omega)
        rw [if_pos hr, if_pos hr, dOf, hr, h3, sRing, if_pos hr]
        exact ⟨fun z h => (by simp only [Bool.and_self, if_true] at h; injection h with h; subst h; exact ⟨rfl, dLow_okI hr (by omega) (by omega)⟩), fun h => by simp at h⟩
      · have hr' : rOk (rAdd (dRaise x m).1 (dRaise y m).1) = false := by simpa using hr
        rw [if_neg hr, hr']
        exact ⟨fun z h => (by cases h), fun _ => rfl⟩
def dotS (f : Bool) (a b : Mx) (i j : Nat) : Nat → Bool × Dy
  | 0 => (f, dZ)
  | n + 1 => if (dotS f a b i j n).1 = true then dotS f a b i j n else
      sAdd (sMul false (a.at i n) (b.at n j)).1 (dotS f a b i j n).2 (sMul false (a.at i n) (b.at n j)).2
theorem dotS_bad {f : Bool} {a b : Mx} {i j n : Nat} (h : (dotS f a b i j n).1 = true) : ∀ m, n ≤ m → dotS f a b i j m = dotS f a b i j n
  | 0, h' => by obtain rfl : n = 0 := by omega
                rfl
  | m + 1, h' => by
    by_cases hm : n = m + 1
    · subst hm; rfl
    · rw [dotS, dotS_bad h m (by omega), if_pos h]
theorem dotS_true (a b : Mx) (i j n : Nat) : dotS true a b i j n = (true, dZ) := dotS_bad (n := 0) rfl n (Nat.zero_le _)
theorem dZ_ok : dOk dZ = true := by decide
theorem sAdd_bad (x y : Dy) : (sAdd true x y).1 = true := by
  unfold sAdd
  rw [show (sRaiseN (y.exp - x.exp).toNat true x).1 = true from sRaise_bad _ _, sRaise_bad]
  rfl
def AllOk (m : Mx) : Prop := ∀ x ∈ m.cells, dOk x = true
theorem Mx.at_ok {m : Mx} (h : AllOk m) (i j : Nat) : dOk (m.at i j) = true := by
  unfold Mx.at
  rw [List.getD_eq_getElem?_getD]
  cases hx : m.cells[i * m.cols.toNat + j]? with
  | none => exact dZ_ok
  | some x => exact h x (List.mem_of_getElem? hx)
theorem agree_dot {a b : Mx} (ha : AllOk a) (hb : AllOk b) (i j : Nat) : ∀ n, Agree (dotI a b i j n) (dotS false a b i j n)
  | 0 => ⟨fun z h => (by injection h with h; subst h; exact ⟨rfl, dZ_ok⟩), fun h => by cases h⟩
  | n + 1 => by
    have ih := agree_dot ha hb i j n
    have hm := agree_mul (Mx.at_ok ha i n) (Mx.at_ok hb n j)
    unfold dotI dotS
    cases h1 : dotI a b i j n with
    | none =>
      have h2 := ih.2 h1
      rw [if_pos h2]
      exact ⟨fun z h => (by cases h), fun _ => h2⟩
    | some s =>
      obtain ⟨h2, h3⟩ := ih.1 s h1
      rw [h2]
      simp only [Bool.false_eq_true, if_false, Option.bind_some]
      cases h4 : dMulI (a.at i n) (b.at n j) with
      | none =>
        rw [hm.2 h4]
        exact ⟨fun z h => (by cases h), fun _ => sAdd_bad _ _⟩
      | some x =>
        obtain ⟨h5, h6⟩ := hm.1 x h4
        rw [h5]
        exact agree_add h3 h6
def timesL (f : Bool) (a b : Mx) : Nat → Bool × List Dy
  | 0 => (f, [])
  | n + 1 => ((dotS (timesL f a b n).1 a b (n / b.cols.toNat) (n % b.cols.toNat) a.cols.toNat).1, (timesL f a b n).2 ++ [(dotS (timesL f a b n).1 a b (n / b.cols.toNat) (n % b.cols.toNat) a.cols.toNat).2])
def timesS (f : Bool) (a b : Mx) : Bool × Mx := ((timesL f a b (a.rows.toNat * b.cols.toNat)).1, ⟨a.rows, b.cols, (timesL f a b (a.rows.toNat * b.cols.toNat)).2⟩)
theorem timesL_len (f : Bool) (a b : Mx) : ∀ n, (timesL f a b n).2.length = n
  | 0 => rfl
  | n + 1 => by simp [timesL, timesL_len f a b n]
theorem timesL_step {f : Bool} {a b : Mx} {i j : Nat} (hj : j < b.cols.toNat) : timesL f a b (i * b.cols.toNat + (j + 1)) = ((dotS (timesL f a b (i * b.cols.toNat + j)).1 a b i j a.cols.toNat).1, (timesL f a b (i * b.cols.toNat + j)).2 ++ [(dotS (timesL f a b (i * b.cols.toNat + j)).1 a b i j a.cols.toNat).2]) := by
  have h1 : (i * b.cols.toNat + j) / b.cols.toNat = i := by rw [Nat.mul_comm, Nat.mul_add_div (by omega), Nat.div_eq_of_lt hj]; omega
  have h2 : (i * b.cols.toNat + j) % b.cols.toNat = j := by rw [Nat.mul_comm, Nat.mul_add_mod, Nat.mod_eq_of_lt hj]
  rw [show i * b.cols.toNat + (j + 1) = (i * b.cols.toNat + j) + 1 from rfl, timesL, h1, h2]
theorem agree_times {a b : Mx} (ha : AllOk a) (hb : AllOk b) : ∀ n, (∀ l, seqO (gridG (fun i j => dotI a b i j a.cols.toNat) b.cols.toNat) n = some l → timesL false a b n = (false, l) ∧ ∀ x ∈ l, dOk x = true) ∧
    (seqO (gridG (fun i j => dotI a b i j a.cols.toNat) b.cols.toNat) n = none → (timesL false a b n).1 = true)
  | 0 => ⟨fun l h => (by injection h with h; subst h; exact ⟨rfl, fun x hx => by cases hx⟩), fun h => by cases h⟩
  | n + 1 => by
    have ih := agree_times ha hb n
    have hd := agree_dot ha hb (n / b.cols.toNat) (n % b.cols.toNat) a.cols.toNat
    unfold seqO timesL
    cases h1 : seqO (gridG (fun i j => dotI a b i j a.cols.toNat) b.cols.toNat) n with
    | none =>
      rw [ih.2 h1, dotS_true]
      exact ⟨fun l h => (by cases h), fun _ => rfl⟩
    | some l =>
      obtain ⟨h2, h3⟩ := ih.1 l h1
      rw [h2]
      dsimp only
      rw [show gridG (fun i j => dotI a b i j a.cols.toNat) b.cols.toNat n = dotI a b (n / b.cols.toNat) (n % b.cols.toNat) a.cols.toNat from rfl]
      cases h4 : dotI a b (n / b.cols.toNat) (n % b.cols.toNat) a.cols.toNat with
      | none => exact ⟨fun l h => (by cases h), fun _ => hd.2 h4⟩
      | some x =>
        obtain ⟨h5, h6⟩ := hd.1 x h4
        rw [h5]
        refine ⟨fun l' h => ?_, fun h => by cases h⟩
        injection h with h
        subst h
        exact ⟨rfl, fun y hy => by
          rcases List.mem_append.1 hy with hy | hy
          · exact h3 y hy
          · rw [List.mem_singleton.1 hy]; exact h6⟩
end Go.Proofs.YtfgnmflfiobkmaaGreat
namespace Go.Proofs.YtfgnmflfiobkmaaGreat
open Go.RowKit
theorem mOk_all {m : Mx} (h : mOk m = true) : AllOk m := by
  simp only [mOk, Bool.and_eq_true, Bool.not_eq_true', List.any_eq_false] at h
  intro x hx
  have := h.2 x hx
  simpa using this
theorem mOk_dims {m : Mx} (h : mOk m = true) : isDimB m.rows = true ∧ isDimB m.cols = true := by
  simp only [mOk, Bool.and_eq_true] at h
  exact ⟨h.1.1.1, h.1.1.2⟩
theorem mOk_mk {m : Mx} (hr : isDimB m.rows = true) (hc : isDimB m.cols = true) (hl : m.cells.length = m.rows.toNat * m.cols.toNat) (ha : AllOk m) : mOk m = true := by
  have h1 := isDimB_iff hr
  have h2 := isDimB_iff hc
  have h3 : (m.cells.any fun x => !dOk x) = false := by
    rw [List.any_eq_false]
    intro x hx
    simp [ha x hx]
  have h4 : wr (m.rows * m.cols) = (m.cells.length : Int) := by
    obtain ⟨r, hr⟩ : ∃ r : Nat, m.rows = r := ⟨m.rows.toNat, by omega⟩
    obtain ⟨c, hc⟩ : ∃ c : Nat, m.cols = c := ⟨m.cols.toNat, by omega⟩
    rw [hr] at h1
    rw [hc] at h2
    rw [hl, hr, hc]
    have h5 : r * c ≤ 32 * 32 := Nat.mul_le_mul (by omega) (by omega)
    rw [← Int.natCast_mul, wr_in (by omega) (by omega)]
    simp
  unfold mOk
  rw [hr, hc, h3, h4]
  simp
theorem isDim_pow {n : Int} (h : 1 ≤ n ∧ n ≤ 5) : isDimB ((2 ^ n.toNat : Nat) : Int) = true := by
  have : n = 1 ∨ n = 2 ∨ n = 3 ∨ n = 4 ∨ n = 5 := by omega
  rcases this with rfl | rfl | rfl | rfl | rfl <;> decide
theorem mul_agree {a b : Mx} (ha : mOk a = true) (hb : mOk b = true) (hab : a.cols = b.rows) : (∀ m, mulI a b = some m → timesS false a b = (false, m) ∧ mOk m = true ∧ m.rows = a.rows ∧ m.cols = b.cols) ∧ (mulI a b = none → (timesS false a b).1 = true) := by
  have hd1 := (mOk_dims ha).1
  have hd2 := (mOk_dims hb).2
  have h := agree_times (mOk_all ha) (mOk_all hb) (a.rows.toNat * b.cols.toNat)
  unfold mulI matOf timesS
  rw [ha, hb, hd1, hd2, if_pos (by simp [hab]), if_pos (show (true && true) = true from rfl)]
  cases h1 : seqO (gridG (fun i j => dotI a b i j a.cols.toNat) b.cols.toNat) (a.rows.toNat * b.cols.toNat) with
  | none => exact ⟨fun m h => (by cases h), fun _ => h.2 h1⟩
  | some l =>
    obtain ⟨h2, h3⟩ := h.1 l h1
    rw [h2]
    refine ⟨fun m hm => ?_, fun hm => by cases hm⟩
    injection hm with hm
    subst hm
    exact ⟨rfl, mOk_mk hd1 hd2 (seqO_len h1) h3, rfl, rfl⟩
theorem seqO_some {f : Nat → Dy} : ∀ n, seqO (fun m => some (f m)) n = some ((List.range n).map f)
  | 0 => rfl
  | n + 1 => by simp [seqO, seqO_some n, List.range_succ]
theorem matOf_some {R C : Int} (hR : isDimB R = true) (hC : isDimB C = true) (f : Nat → Nat → Dy) : matOf R C (fun i j => some (f i j)) = some ⟨R, C, gridL f C.toNat (R.toNat * C.toNat)⟩ := by
  unfold matOf
  rw [hR, hC, if_pos (show (true && true) = true from rfl)]
  have : gridG (fun i j => some (f i j)) C.toNat = fun m => some (gridF f C.toNat m) := rfl
  rw [this, seqO_some]
  rfl
theorem gridL_congr {f g : Nat → Nat → Dy} {R C : Nat} (h : ∀ i j, i < R → j < C → f i j = g i j) : gridL f C (R * C) = gridL g C (R * C) := by
  unfold gridL
  refine List.map_congr_left fun m hm => ?_
  have hm' := List.mem_range.1 hm
  have hC : 0 < C := by
    rcases Nat.eq_zero_or_pos C with h0 | h0
    · subst h0; simp at hm'
    · exact h0
  exact h _ _ (Nat.div_lt_of_lt_mul (by rw [Nat.mul_comm]; exact hm')) (Nat.mod_lt _ hC)
theorem gridL_mem {f : Nat → Nat → Dy} {R C : Nat} {x : Dy} (h : x ∈ gridL f C (R * C)) : ∃ i j, i < R ∧ j < C ∧ x = f i j := by
  unfold gridL at h
  obtain ⟨m, hm, rfl⟩ := List.mem_map.1 h
  have hm' := List.mem_range.1 hm
  have hC : 0 < C := by
    rcases Nat.eq_zero_or_pos C with h0 | h0
    · subst h0; simp at hm'
    · exact h0
  exact ⟨_, _, Nat.div_lt_of_lt_mul (by rw [Nat.mul_comm]; exact hm'), Nat.mod_lt _ hC, rfl⟩
def unitS (d : Nat) : Mx := ⟨(d : Int), (d : Int), gridL (fun i j => if i = j then dPow 0 else dZ) d (d * d)⟩
theorem dPow0 : dPow 0 = ⟨⟨1, 0, 0, 0⟩, 0⟩ := rfl
theorem idI_unit {d : Nat} (h : isDimB (d : Int) = true) : idI (d : Int) = some (unitS d) ∧ mOk (unitS d) = true := by
  refine ⟨?_, ?_⟩
  · unfold idI
    rw [matOf_some h h (fun i j => if i = j then ⟨⟨1, 0, 0, 0⟩, 0⟩ else dZ)]
    rfl
  · refine mOk_mk h h (by simp [unitS, gridL_len]) fun x hx => ?_
    obtain ⟨i, j, _, _, rfl⟩ := gridL_mem hx
    split
    · rfl
    · rfl
def bitT (p s : Nat) : Int := bits .and .i64 ((s : Int) / 2 ^ p) 1
def flipT (p s : Nat) : Int := bits .xor .i64 (s : Int) (wr (1 * 2 ^ p))
def chkBits : Bool := (List.range 5).all fun p => (List.range 32).all fun s =>
  let f := flipT p s
  Nat.blt f.toNat 32 && f == (f.toNat : Int) && flipT p f.toNat == (s : Int) && (bitT p f.toNat == 1 - bitT p s) && (bitT p s == 0 || bitT p s == 1) &&
  (List.range 5).all (fun q => (q == p) || bitT q f.toNat == bitT q s) &&
  (List.range 5).all (fun q => let g := flipT q s; flipT p g.toNat == flipT q f.toNat) &&
  (List.range 32).all fun t => (((t : Int) == s || f == (t : Int)) == (bits .andNot .i64 (bits .xor .i64 (s : Int) (t : Int)) (wr (1 * 2 ^ p)) == 0))
theorem chkBits_true : chkBits = true := by kernel_rfl
def chkSmall : Bool := (List.range 6).all fun n => (List.range n).all fun q => (List.range (2 ^ n)).all fun s => Nat.blt (flipT (n - 1 - q) s).toNat (2 ^ n)
theorem chkSmall_true : chkSmall = true := by kernel_rfl
structure BitsOk (p s : Nat) : Prop where
  nat : flipT p s = ((flipT p s).toNat : Int)
  lt : (flipT p s).toNat < 32
  back : flipT p (flipT p s).toNat = (s : Int)
  bit : bitT p (flipT p s).toNat = 1 - bitT p s
  other : ∀ q < 5, q ≠ p → bitT q (flipT p s).toNat = bitT q s
  comm : ∀ q < 5, flipT p (flipT q s).toNat = flipT q (flipT p s).toNat
  sel : ∀ t : Nat, t < 32 → (((t : Int) = s ∨ flipT p s = (t : Int)) ↔ bits .andNot .i64 (bits .xor .i64 (s : Int) (t : Int)) (wr (1 * 2 ^ p)) = 0)
theorem bitsOk {p s : Nat} (hp : p < 5) (hs : s < 32) : BitsOk p s := by
  have h := chkBits_true
  simp only [chkBits, List.all_eq_true, List.mem_range] at h
  have h := h p hp s hs
  simp only [Bool.and_eq_true, List.all_eq_true, List.mem_range, beq_iff_eq, Bool.or_eq_true, Nat.blt_eq] at h
  obtain ⟨⟨⟨⟨⟨⟨⟨h1, h2⟩, h3⟩, h4⟩, _⟩, h6⟩, h7⟩, h8⟩ := h
  refine ⟨h2, h1, h3, h4, fun q hq hne => (h6 q hq).resolve_left hne, h7, fun t ht => ?_⟩
  have h9 := h8 t ht
  rw [Bool.eq_iff_iff] at h9
  simpa using h9
theorem flip_small {n q s : Nat} (hn : n ≤ 5) (hq : q < n) (hs : s < 2 ^ n) : (flipT (n - 1 - q) s).toNat < 2 ^ n := by
  have h := chkSmall_true
  simp only [chkSmall, List.all_eq_true, List.mem_range] at h
  have h := h n (by omega) q hq s hs
  simpa [Nat.blt_eq] using h
theorem bitF_T {n q : Int} (s : Nat) : bitF n (s : Int) q = bitT (n - 1 - q).toNat s := rfl
theorem flipF_T {n q : Int} (s : Nat) : flipF n (s : Int) q = flipT (n - 1 - q).toNat s := rfl
theorem toNat_sub {n q : Int} (hq : 0 ≤ q) (hqn : q < n) : (n - 1 - q).toNat = n.toNat - 1 - q.toNat := by omega
theorem toS_nat {n : Int} {g : Gt} (hg : gOk n g = true) {s : Nat} (hs : s < 2 ^ n.toNat) (hk : 9 ≤ g.k ∧ g.k ≤ 11) : ∃ t : Nat, t < 2 ^ n.toNat ∧ toS n g s = (t : Int) ∧ toS n g t = (s : Int) ∧ (g.k = 10 → t = s) := by
  obtain ⟨hn, hk0, ha, hb⟩ := gOk_spec hg
  have ha := ha (by omega)
  have hb := hb hk
  have h32 : 2 ^ n.toNat ≤ 32 := pow_le32 hn.2
  obtain ⟨p, hp⟩ : ∃ p, p = (n - 1 - g.a).toNat := ⟨_, rfl⟩
  obtain ⟨q, hq⟩ : ∃ q, q = (n - 1 - g.b).toNat := ⟨_, rfl⟩
  have hp5 : p < 5 := by omega
  have hq5 : q < 5 := by omega
  have hpq : p ≠ q := by omega
  have hsm : ∀ s, s < 2 ^ n.toNat → (flipT p s).toNat < 2 ^ n.toNat := fun s hs => by
    rw [hp, toNat_sub (by omega) (by omega)]
    exact flip_small (by omega) (by omega) hs
  have hsm2 : ∀ s, s < 2 ^ n.toNat → (flipT q s).toNat < 2 ^ n.toNat := fun s hs => by
    rw [hq, toNat_sub (by omega) (by omega)]
    exact flip_small (by omega) (by omega) hs
  unfold toS
  simp only [bitF_T, flipF_T, ← hp, ← hq]
  have Bp := bitsOk (p := p) (s := s) hp5 (by omega)
  have Bq := bitsOk (p := q) (s := s) hq5 (by omega)
  by_cases h9 : g.k = 9
  · simp only [h9, if_true]
    by_cases hb1 : bitT p s = 1
    · refine ⟨(flipT q s).toNat, hsm2 s hs, by rw [if_pos hb1]; exact Bq.nat, ?_, by omega⟩
      rw [if_pos (by rw [Bq.other p hp5 hpq]; exact hb1)]
      exact Bq.back
    · exact ⟨s, hs, by rw [if_neg hb1], by rw [if_neg hb1], by omega⟩
  · simp only [h9, if_false]
    by_cases h11 : g.k = 11
    · simp only [h11, if_true]
      by_cases hb1 : bitT p s = bitT q s
      · exact ⟨s, hs, by rw [if_neg (by simpa using hb1)], by rw [if_neg (by simpa using hb1)], by omega⟩
      · have Bf := bitsOk (p := q) (s := (flipT p s).toNat) hq5 Bp.lt
        have Bg := bitsOk (p := p) (s := (flipT q (flipT p s).toNat).toNat) hp5 Bf.lt
        have e1 : flipF n (flipT p s) g.b = flipT q (flipT p s).toNat := by rw [Bp.nat, flipF_T, ← hq, Int.toNat_natCast]
        refine ⟨(flipT q (flipT p s).toNat).toNat, hsm2 _ (hsm _ hs), ?_, ?_, by omega⟩
        · rw [if_pos hb1, e1]; exact Bf.nat
        · have e2 : bitT p (flipT q (flipT p s).toNat).toNat = 1 - bitT p s := by rw [Bf.other p hp5 hpq, Bp.bit]
          have e3 : bitT q (flipT q (flipT p s).toNat).toNat = 1 - bitT q s := by rw [Bf.bit, Bp.other q hq5 (Ne.symm hpq)]
          have e4 : flipT p (flipT q (flipT p s).toNat).toNat = flipT q (flipT p (flipT p s).toNat).toNat := (bitsOk (p := p) (s := (flipT p s).toNat) hp5 Bp.lt).comm q hq5
          rw [if_pos (by rw [e2, e3]; omega), e4, Bp.back, Int.toNat_natCast, Bq.nat, flipF_T, ← hq, Bq.back]
    · exact ⟨s, hs, by rw [if_neg h11], by rw [if_neg h11], fun _ => rfl⟩
theorem oneL_at {k : Int} (h : 1 ≤ k ∧ k ≤ 8) {i j : Int} (hi : i = 0 ∨ i = 1) (hj : j = 0 ∨ j = 1) : (oneL k).getD (2 * i + j).toNat dZ = entryI k i j := by
  have : k = 1 ∨ k = 2 ∨ k = 3 ∨ k = 4 ∨ k = 5 ∨ k = 6 ∨ k = 7 ∨ k = 8 := by omega
  rcases this with rfl | rfl | rfl | rfl | rfl | rfl | rfl | rfl <;> rcases hi with rfl | rfl <;> rcases hj with rfl | rfl <;> rfl
theorem cell_eq {n : Int} {g : Gt} (hg : gOk n g = true) {i j : Nat} (hi : i < 2 ^ n.toNat) (hj : j < 2 ^ n.toNat) : cellI n g i j = cellS n g i j := by
  obtain ⟨hn, hk0, ha, hb⟩ := gOk_spec hg
  have h32 : 2 ^ n.toNat ≤ 32 := pow_le32 hn.2
  unfold cellI cellS
  by_cases h12 : g.k = 12
  · rw [if_pos h12, if_neg (show ¬ g.k ≤ 8 by omega)]
    have e1 : toS n g j = j := by unfold toS; rw [if_neg (show ¬ g.k = 9 by omega), if_neg (show ¬ g.k = 11 by omega)]
    rw [e1]
    by_cases hij : (i : Int) = j
    · rw [if_pos hij, if_pos hij, valS, if_pos h12]
    · rw [if_neg hij, if_neg hij]
  · rw [if_neg h12]
    by_cases h2 : 9 ≤ g.k ∧ g.k ≤ 11
    · rw [if_pos (inR_iff.2 h2), if_neg (show ¬ g.k ≤ 8 by omega)]
      obtain ⟨t, ht, e1, e2, e3⟩ := toS_nat hg hi h2
      obtain ⟨t', ht', e1', e2', e3'⟩ := toS_nat hg hj h2
      by_cases hij : toS n g i = j
      · have hts : (i : Int) = toS n g j := by rw [← e2, ← e1, hij]
        rw [if_pos hij, if_pos hts, valS, if_neg h12]
        by_cases h10 : g.k = 10
        · have hij2 : i = j := by rw [e1] at hij; have := e3 h10; omega
          subst hij2
          by_cases hc : bitF n i g.a = 1 ∧ bitF n i g.b = 1
          · rw [if_pos (by simp [czI, h10, hc]), if_pos ⟨h10, hc⟩]; rfl
          · have hc' : ¬ czI n g i = true := by simp only [czI, h10, Bool.and_eq_true, beq_iff_eq, true_and, and_assoc]; exact hc
            rw [if_neg hc', if_neg (fun h => hc h.2)]; rfl
        · have hc' : ¬ czI n g i = true := by simp [czI, h10]
          rw [if_neg hc', if_neg (fun h => h10 h.1)]; rfl
      · have hts : ¬ (i : Int) = toS n g j := fun h => by
          rw [e1'] at h
          have h : i = t' := by omega
          subst h
          exact hij e2'
        rw [if_neg hij, if_neg hts]
    · have h8 : g.k ≤ 8 := by omega
      have ha := ha h12
      rw [if_neg (fun h => h2 (inR_iff.1 h)), if_pos h8]
      have B := bitsOk (p := (n - 1 - g.a).toNat) (s := i) (by omega) (by omega)
      have hs := B.sel j (by omega)
      rw [flipF_T]
      have e0 : ((i : Int) = j ∨ flipT (n - 1 - g.a).toNat i = (j : Int)) ↔ ((j : Int) = i ∨ flipT (n - 1 - g.a).toNat i = (j : Int)) := by
        constructor <;> rintro (h | h) <;> first | exact .inl h.symm | exact .inr h
      by_cases hz : bits .andNot .i64 (bits .xor .i64 (i : Int) (j : Int)) (wr (1 * 2 ^ (n - 1 - g.a).toNat)) = 0
      · rw [if_pos (e0.2 (hs.2 hz)), if_neg (fun h => h hz)]
        exact (oneL_at ⟨hk0.1, h8⟩ (bitF_01 _ _ _) (bitF_01 _ _ _)).symm
      · rw [if_neg (fun h => hz (hs.1 (e0.1 h))), if_pos hz]
theorem entry_ok {k : Int} (h : 1 ≤ k ∧ k ≤ 8) {i j : Int} (hi : i = 0 ∨ i = 1) (hj : j = 0 ∨ j = 1) : dOk (entryI k i j) = true := by
  have : k = 1 ∨ k = 2 ∨ k = 3 ∨ k = 4 ∨ k = 5 ∨ k = 6 ∨ k = 7 ∨ k = 8 := by omega
  rcases this with rfl | rfl | rfl | rfl | rfl | rfl | rfl | rfl <;> rcases hi with rfl | rfl <;> rcases hj with rfl | rfl <;> rfl
theorem cell_ok {n : Int} {g : Gt} (hg : gOk n g = true) (i j : Int) : dOk (cellI n g i j) = true := by
  obtain ⟨hn, hk0, ha, hb⟩ := gOk_spec hg
  unfold cellI
  split
  · split <;> rfl
  · split
    · split
      · split <;> rfl
      · rfl
    · rename_i h1 h2
      split
      · exact entry_ok (by have h3 : ¬ (9 ≤ g.k ∧ g.k ≤ 11) := fun h => h2 (inR_iff.2 h); omega) (bitF_01 _ _ _) (bitF_01 _ _ _)
      · rfl
theorem gate_eq {n : Int} {g : Gt} (hg : gOk n g = true) : gateI n g = some (gateS n g) ∧ mOk (gateS n g) = true := by
  have hn := (gOk_spec hg).1
  have hd := isDim_pow hn
  have he : gridL (fun i j => cellI n g i j) (2 ^ n.toNat) (2 ^ n.toNat * 2 ^ n.toNat) = gridL (fun i j => cellS n g i j) (2 ^ n.toNat) (2 ^ n.toNat * 2 ^ n.toNat) := gridL_congr fun i j hi hj => cell_eq hg hi hj
  refine ⟨?_, ?_⟩
  · unfold gateI
    rw [if_pos hg, matOf_some hd hd (fun i j => cellI n g i j)]
    simp only [Int.toNat_natCast]
    rw [he]
    rfl
  · refine mOk_mk hd hd (by simp only [gateS, gridL_len, Int.toNat_natCast]) fun x hx => ?_
    simp only [gateS] at hx
    rw [← he] at hx
    obtain ⟨i, j, _, _, rfl⟩ := gridL_mem hx
    exact cell_ok hg _ _
def applI (n : Int) : List Gt → Mx → Option Mx
  | [], m => some m
  | g :: l, m => (mulI ((gateI n g).getD mZ) m).bind (applI n l)
def runS (n : Int) (f : Bool) : List Gt → Mx → Bool × Mx
  | [], m => (f, m)
  | g :: l, m => if f = true then (f, m) else runS n (timesS false (gateS n g) m).1 l (timesS false (gateS n g) m).2
theorem runS_true (n : Int) : ∀ (l : List Gt) (m : Mx), runS n true l m = (true, m)
  | [], _ => rfl
  | _ :: _, _ => rfl
theorem run_agree {n : Int} : ∀ (l : List Gt) (m : Mx), (∀ g ∈ l, gOk n g = true) → mOk m = true → m.rows = ((2 ^ n.toNat : Nat) : Int) →
    (∀ m', applI n l m = some m' → runS n false l m = (false, m') ∧ mOk m' = true ∧ m'.rows = ((2 ^ n.toNat : Nat) : Int)) ∧ (applI n l m = none → (runS n false l m).1 = true)
  | [], m, _, hm, hr => ⟨fun m' h => (by injection h with h; subst h; exact ⟨rfl, hm, hr⟩), fun h => by cases h⟩
  | g :: l, m, hg, hm, hr => by
    obtain ⟨h1, h2⟩ := gate_eq (hg g (by simp))
    have h3 := mul_agree h2 hm (by rw [hr]; rfl)
    unfold applI runS
    rw [h1, Option.getD_some, if_neg (by decide)]
    cases h4 : mulI (gateS n g) m with
    | none =>
      rw [h3.2 h4, runS_true]
      exact ⟨fun m' h => (by cases h), fun _ => rfl⟩
    | some m1 =>
      obtain ⟨h5, h6, h7, h8⟩ := h3.1 m1 h4
      rw [h5]
      exact run_agree l m1 (fun g hg' => hg g (by simp [hg'])) h6 (by rw [h7]; rfl)
def opI (c : Cx) : Option Mx := if cOk c = true then (idI ((2 ^ c.n.toNat : Nat) : Int)).bind (applI c.n c.gs) else none
def opS (c : Cx) : Option Mx := if cOk c = true then (if (runS c.n false c.gs (unitS (2 ^ c.n.toNat))).1 = true then none else some (runS c.n false c.gs (unitS (2 ^ c.n.toNat))).2) else none
theorem cOk_spec {c : Cx} (h : cOk c = true) : (1 ≤ c.n ∧ c.n ≤ 5) ∧ c.gs.length ≤ 400 ∧ ∀ g ∈ c.gs, gOk c.n g = true := by
  simp only [cOk, Bool.and_eq_true, inR_iff, decide_eq_true_eq, Bool.not_eq_true', List.any_eq_false] at h
  exact ⟨h.1.1, by omega, fun g hg => by simpa using h.2 g hg⟩
theorem op_eq (c : Cx) : opI c = opS c ∧ ∀ m, opS c = some m → mOk m = true ∧ m.rows = ((2 ^ c.n.toNat : Nat) : Int) := by
  unfold opI opS
  by_cases hc : cOk c = true
  · obtain ⟨hn, _, hg⟩ := cOk_spec hc
    obtain ⟨h1, h2⟩ := idI_unit (isDim_pow hn)
    have h3 := run_agree c.gs _ hg h2 rfl
    rw [if_pos hc, if_pos hc, h1, Option.bind_some]
    cases h4 : applI c.n c.gs (unitS (2 ^ c.n.toNat)) with
    | none => rw [h3.2 h4, if_pos rfl]; exact ⟨rfl, fun m h => by cases h⟩
    | some m' =>
      obtain ⟨h5, h6, h7⟩ := h3.1 m' h4
      rw [h5, if_neg (show ¬ (false = true) by decide)]
      exact ⟨rfl, fun m h => (by injection h with h; subst h; exact ⟨h6, h7⟩)⟩
  · rw [if_neg hc, if_neg hc]
    exact ⟨rfl, fun m h => by cases h⟩
end Go.Proofs.YtfgnmflfiobkmaaGreat
namespace Go.Proofs.YtfgnmflfiobkmaaGreat
open Go.RowKit
theorem rOm_ok {x : Rg} (h : rOk x = true) : rOk (rOm x) = true ∧ rOm x = ⟨-x.d, x.a, x.b, x.c⟩ := by
  rw [rOk_iff] at h
  have e : rOm x = ⟨-x.d, x.a, x.b, x.c⟩ := by unfold rOm; rw [wr_in (by omega) (by omega)]
  refine ⟨?_, e⟩
  rw [e, rOk_iff]
  dsimp only
  omega
theorem rEven_iff {x : Rg} (h : rOk x = true) : rEven x = true ↔ (x.a + x.c) % 2 = 0 ∧ (x.b + x.d) % 2 = 0 := by
  rw [rOk_iff] at h
  unfold rEven
  rw [wr_in (by omega) (by omega), wr_in (by omega) (by omega)]
  simp only [Bool.and_eq_true, beq_iff_eq]
  have key : ∀ i : Int, i.tmod 2 = 0 ↔ i % 2 = 0 := fun i => by
    rw [← Int.dvd_iff_tmod_eq_zero, ← Int.dvd_iff_emod_eq_zero]
  rw [key, key]
theorem rOm_even {x : Rg} (h : rOk x = true) : rEven (rOm x) = rEven x := by
  obtain ⟨h1, h2⟩ := rOm_ok h
  rw [Bool.eq_iff_iff, rEven_iff h1, rEven_iff h, h2]
  dsimp only
  omega
theorem rTurnN_ok : ∀ (k : Nat) (x : Rg), rOk x = true → rOk (rTurnN k x) = true ∧ rEven (rTurnN k x) = rEven x
  | 0, _, h => ⟨h, rfl⟩
  | k + 1, x, h => by
    obtain ⟨h1, h2⟩ := rTurnN_ok k (rOm x) (rOm_ok h).1
    exact ⟨h1, h2.trans (rOm_even h)⟩
theorem rTurn_ok {x : Rg} (h : rOk x = true) (k : Int) : rOk (rTurn x k) = true ∧ rEven (rTurn x k) = rEven x := rTurnN_ok _ _ h
theorem wr0 : wr 0 = 0 := rfl
theorem mul_turn {x : Rg} (h : rOk x = true) {k : Nat} (hk : k < 8) : rMul x (rTurn ⟨1, 0, 0, 0⟩ k) = rTurn x k := by
  have h' := rOk_iff.1 h
  obtain ⟨a, b, c, d⟩ := x
  dsimp only at h'
  have wa : wr a = a := wr_in (by omega) (by omega)
  have wb : wr b = b := wr_in (by omega) (by omega)
  have wc : wr c = c := wr_in (by omega) (by omega)
  have wd : wr d = d := wr_in (by omega) (by omega)
  have na : wr (-a) = -a := wr_in (by omega) (by omega)
  have nb : wr (-b) = -b := wr_in (by omega) (by omega)
  have nc : wr (-c) = -c := wr_in (by omega) (by omega)
  have nd : wr (-d) = -d := wr_in (by omega) (by omega)
  have : k = 0 ∨ k = 1 ∨ k = 2 ∨ k = 3 ∨ k = 4 ∨ k = 5 ∨ k = 6 ∨ k = 7 := by omega
  have s0 : rTurn ⟨1, 0, 0, 0⟩ ((0 : Nat) : Int) = ⟨1, 0, 0, 0⟩ := by decide
  have s1 : rTurn ⟨1, 0, 0, 0⟩ ((1 : Nat) : Int) = ⟨0, 1, 0, 0⟩ := by decide
  have s2 : rTurn ⟨1, 0, 0, 0⟩ ((2 : Nat) : Int) = ⟨0, 0, 1, 0⟩ := by decide
  have s3 : rTurn ⟨1, 0, 0, 0⟩ ((3 : Nat) : Int) = ⟨0, 0, 0, 1⟩ := by decide
  have s4 : rTurn ⟨1, 0, 0, 0⟩ ((4 : Nat) : Int) = ⟨-1, 0, 0, 0⟩ := by decide
  have s5 : rTurn ⟨1, 0, 0, 0⟩ ((5 : Nat) : Int) = ⟨0, -1, 0, 0⟩ := by decide
  have s6 : rTurn ⟨1, 0, 0, 0⟩ ((6 : Nat) : Int) = ⟨0, 0, -1, 0⟩ := by decide
  have s7 : rTurn ⟨1, 0, 0, 0⟩ ((7 : Nat) : Int) = ⟨0, 0, 0, -1⟩ := by decide
  have T : ∀ j : Nat, j < 8 → rTurn ⟨a, b, c, d⟩ (j : Int) = rTurnN j ⟨a, b, c, d⟩ := fun j hj => by
    have : (turns (j : Int)).toNat = j := by
      have : j = 0 ∨ j = 1 ∨ j = 2 ∨ j = 3 ∨ j = 4 ∨ j = 5 ∨ j = 6 ∨ j = 7 := by omega
      rcases this with rfl | rfl | rfl | rfl | rfl | rfl | rfl | rfl <;> decide
    rw [rTurn, this]
  rcases this with rfl | rfl | rfl | rfl | rfl | rfl | rfl | rfl
  · rw [T 0 (by omega), s0]; simp [rMul, rTurnN, rOm, wr0, wa, wb, wc, wd, na, nb, nc, nd]
  · rw [T 1 (by omega), s1]; simp [rMul, rTurnN, rOm, wr0, wa, wb, wc, wd, na, nb, nc, nd]
  · rw [T 2 (by omega), s2]; simp [rMul, rTurnN, rOm, wr0, wa, wb, wc, wd, na, nb, nc, nd]
  · rw [T 3 (by omega), s3]; simp [rMul, rTurnN, rOm, wr0, wa, wb, wc, wd, na, nb, nc, nd]
  · rw [T 4 (by omega), s4]; simp [rMul, rTurnN, rOm, wr0, wa, wb, wc, wd, na, nb, nc, nd]
  · rw [T 5 (by omega), s5]; simp [rMul, rTurnN, rOm, wr0, wa, wb, wc, wd, na, nb, nc, nd]
  · rw [T 6 (by omega), s6]; simp [rMul, rTurnN, rOm, wr0, wa, wb, wc, wd, na, nb, nc, nd]
  · rw [T 7 (by omega), s7]; simp [rMul, rTurnN, rOm, wr0, wa, wb, wc, wd, na, nb, nc, nd]
theorem dMul_turn {z : Dy} (h : dOk z = true) {k : Nat} (hk : k < 8) : dMulI z (dPow k) = some (dTurn k z) := by
  have hz := dOk_iff.1 h
  have h1 : rOk (rTurn ⟨1, 0, 0, 0⟩ k) = true := (rTurn_ok (by decide) _).1
  have hp : dOk (dPow k) = true := dOk_iff.2 ⟨h1, by simp [dPow], .inl rfl⟩
  obtain ⟨h2, h3⟩ := rTurn_ok hz.1 (k : Int)
  unfold dMulI
  rw [h, hp, show (dPow k).num = rTurn ⟨1, 0, 0, 0⟩ k from rfl, rIf1, rIf2_one hz.1 h1, mul_turn hz.1 hk, h2]
  simp only [Bool.and_self, if_true]
  unfold dOf
  rw [h2, show z.exp + (dPow k).exp = z.exp from by simp [dPow], inR_iff.2 hz.2.1]
  simp only [Bool.and_self, if_true]
  rw [dLow_stop fun h0 => by rw [h3]; rcases hz.2.2 with h4 | h4; exact absurd h4 (by omega); exact h4]
  rfl
theorem scale_turn {q : Mx} (h : mOk q = true) {k : Nat} (hk : k < 8) : scaleI q (dPow k) = some ⟨q.rows, q.cols, q.cells.map (dTurn k)⟩ := by
  have h1 : rOk (rTurn ⟨1, 0, 0, 0⟩ k) = true := (rTurn_ok (by decide) _).1
  have hp : dOk (dPow k) = true := dOk_iff.2 ⟨h1, by simp [dPow], .inl rfl⟩
  have hd := mOk_dims h
  have hl := mOk_len h
  have ha := mOk_all h
  have hf : (fun i j => dMulI (q.at i j) (dPow k)) = fun i j => some (dTurn k (q.at i j)) := by
    funext i j
    exact dMul_turn (Mx.at_ok ha i j) hk
  unfold scaleI
  rw [h, hp, if_pos (show (true && true) = true from rfl), hf, matOf_some hd.1 hd.2 (fun i j => dTurn k (q.at i j))]
  congr 2
  unfold gridL
  apply List.ext_getElem
  · simp [hl.2.2]
  · intro m h1 h2
    simp only [List.length_map, List.length_range] at h1
    simp only [List.getElem_map, List.getElem_range]
    unfold gridF Mx.at
    dsimp only
    have : m / q.cols.toNat * q.cols.toNat + m % q.cols.toNat = m := by rw [Nat.mul_comm]; exact Nat.div_add_mod m _
    rw [this, List.getD_eq_getElem?_getD, List.getElem?_eq_getElem (by rw [hl.2.2]; exact h1)]
    rfl
theorem phase_eq {p q : Mx} (h : mOk q = true) : eqPh p q = phaseS p q := by
  unfold eqPh phaseS
  rw [Bool.eq_iff_iff, List.any_eq_true, List.any_eq_true]
  constructor
  · rintro ⟨k, hk, h1⟩
    refine ⟨k, hk, ?_⟩
    rw [eqPhT, scale_turn h (List.mem_range.1 hk)] at h1
    exact h1
  · rintro ⟨k, hk, h1⟩
    refine ⟨k, hk, ?_⟩
    rw [eqPhT, scale_turn h (List.mem_range.1 hk)]
    exact h1
def sameI (a b : Cx) : Bool × Bool :=
  if ((opI a).isSome && (opI b).isSome && a.n == b.n) = true then
    (mOk ((opI a).getD mZ) && mOk ((opI b).getD mZ) && eqPh ((opI a).getD mZ) ((opI b).getD mZ), mOk ((opI a).getD mZ) && mOk ((opI b).getD mZ)) else (false, false)
def sameS (a b : Cx) : Bool × Bool :=
  if ((opS a).isSome && (opS b).isSome && a.n == b.n) = true then (phaseS ((opS a).getD mZ) ((opS b).getD mZ), true) else (false, false)
theorem same_eq (a b : Cx) : sameI a b = sameS a b := by
  unfold sameI sameS
  rw [(op_eq a).1, (op_eq b).1]
  cases h1 : opS a with
  | none => rfl
  | some x =>
    cases h2 : opS b with
    | none => rfl
    | some y =>
      have hx := ((op_eq a).2 x h1).1
      have hy := ((op_eq b).2 y h2).1
      simp only [Option.getD_some, hx, hy, phase_eq hy, Bool.and_self, Bool.true_and]
theorem op_len {c : Cx} {m : Mx} (h : opS c = some m) : m.cells.length = 2 ^ c.n.toNat * m.cols.toNat := by
  obtain ⟨h1, h2⟩ := (op_eq c).2 m h
  have := (mOk_len h1).2.2
  rw [this, h2, Int.toNat_natCast]
end Go.Proofs.YtfgnmflfiobkmaaGreat
namespace Go.Proofs.YtfgnmflfiobkmaaGreat
open Go.RowKit
theorem gate_len {n : Int} (hn : 1 ≤ n ∧ n ≤ 5) {g : Gt} : (gateS n g).cells.length ≤ 2305843009213693951 := by
  have h := pow_le32 hn.2
  have h2 : 2 ^ n.toNat * 2 ^ n.toNat ≤ 32 * 32 := Nat.mul_le_mul h h
  simp only [gateS, gridL_len]
  omega
theorem mOk_le {m : Mx} (h : mOk m = true) : m.cells.length ≤ 2305843009213693951 := by
  have h1 := mOk_len h
  have h2 : m.rows.toNat * m.cols.toNat ≤ 32 * 32 := Nat.mul_le_mul (by omega) (by omega)
  omega
theorem opI_le (a : Cx) : ((opI a).getD mZ).cells.length ≤ 2305843009213693951 := by
  have h := op_eq a
  cases ha : opI a with
  | none => exact Nat.zero_le _
  | some m => rw [h.1] at ha; exact mOk_le (h.2 m ha).1
theorem opS_le (a : Cx) : ((opS a).getD mZ).cells.length ≤ 2305843009213693951 := by rw [← (op_eq a).1]; exact opI_le a
theorem drop_get {α : Type} {l : List α} {i : Nat} {u : α} (h : l[i]? = some u) : l.drop i = u :: l.drop (i + 1) := by
  obtain ⟨h1, h2⟩ := List.getElem?_eq_some_iff.1 h
  rw [List.drop_eq_getElem_cons h1, h2]
end Go.Proofs.YtfgnmflfiobkmaaGreat
namespace Go.Proofs.YtfgnmflfiobkmaaGreat
open Go.RowKit
def unitP (d i : Nat) : List Dy := (List.range (d * d)).map fun m => if m / d = m % d ∧ m / d < i then dPow 0 else dZ
theorem unitP_len (d i : Nat) : (unitP d i).length = d * d := by simp [unitP]
theorem unitP_zero (d : Nat) : List.replicate (d * d) dZ = unitP d 0 := by
  unfold unitP
  apply List.ext_getElem
  · simp
  · intro k h1 h2
    simp
theorem unitP_step {d i : Nat} (h : i < d) : (unitP d i).set (i * d + i) (dPow 0) = unitP d (i + 1) := by
  have e1 : (i * d + i) / d = i := by rw [Nat.mul_comm, Nat.mul_add_div (by omega), Nat.div_eq_of_lt h]; omega
  have e2 : (i * d + i) % d = i := by rw [Nat.mul_comm, Nat.mul_add_mod, Nat.mod_eq_of_lt h]
  unfold unitP
  apply List.ext_getElem
  · simp
  · intro k h1 h2
    simp only [List.length_set, List.length_map, List.length_range] at h1
    rw [List.getElem_set]
    split
    · rename_i hk
      subst hk
      simp [e1, e2]
    · rename_i hk
      simp only [List.getElem_map, List.getElem_range]
      have : (k / d = k % d ∧ k / d < i) ↔ (k / d = k % d ∧ k / d < i + 1) := by
        constructor
        · rintro ⟨h3, h4⟩; exact ⟨h3, by omega⟩
        · rintro ⟨h3, h4⟩
          refine ⟨h3, ?_⟩
          rcases Nat.lt_or_ge (k / d) i with h5 | h5
          · exact h5
          · have h6 : k / d = i := by omega
            have h7 := Nat.div_add_mod k d
            rw [← h3, h6] at h7
            exact absurd (show i * d + i = k by rw [Nat.mul_comm i d]; exact h7) hk
      by_cases hc : k / d = k % d ∧ k / d < i
      · rw [if_pos hc, if_pos (this.1 hc)]
      · rw [if_neg hc, if_neg (fun h => hc (this.2 h))]
theorem unitP_full {d : Nat} : (unitS d).cells = unitP d d := by
  unfold unitP unitS gridL
  refine List.map_congr_left fun m hm => ?_
  have hm' := List.mem_range.1 hm
  have h1 : m / d < d := Nat.div_lt_of_lt_mul hm'
  unfold gridF
  dsimp only
  by_cases hc : m / d = m % d
  · rw [if_pos hc, if_pos ⟨hc, h1⟩]
  · rw [if_neg hc, if_neg (fun h => hc h.1)]
theorem dLow_exp : ∀ (m : Nat) (x : Rg), 0 ≤ (dLow x m).exp ∧ (dLow x m).exp ≤ m
  | 0, x => by rw [dLow_stop (by omega)]; simp
  | m + 1, x => by
    by_cases he : rEven x = true
    · rw [dLow_step (by omega) he, show ((m + 1 : Nat) : Int) - 1 = (m : Int) from by omega]
      have := dLow_exp m (rHalf x)
      omega
    · rw [dLow_stop fun _ => by simpa using he]
      dsimp only
      omega
theorem dLow_expI {x : Rg} {e : Int} (h0 : 0 ≤ e) : 0 ≤ (dLow x e).exp ∧ (dLow x e).exp ≤ e := by
  obtain ⟨m, rfl⟩ : ∃ m : Nat, e = m := ⟨e.toNat, by omega⟩
  exact dLow_exp m x
theorem sMul_exp {f : Bool} {x y : Dy} (hx : 0 ≤ x.exp ∧ x.exp ≤ 60) (hy : 0 ≤ y.exp ∧ y.exp ≤ 60) : 0 ≤ (sMul f x y).2.exp ∧ (sMul f x y).2.exp ≤ 60 := by
  unfold sMul
  split
  · exact ⟨Int.le_refl _, by decide⟩
  · have := dLow_expI (x := sRing (rMul x.num y.num)) (e := x.exp + y.exp) (by omega)
    dsimp only
    omega
theorem sAdd_exp {f : Bool} {x y : Dy} (hx : 0 ≤ x.exp ∧ x.exp ≤ 60) (hy : 0 ≤ y.exp ∧ y.exp ≤ 60) : 0 ≤ (sAdd f x y).2.exp ∧ (sAdd f x y).2.exp ≤ 60 := by
  unfold sAdd
  dsimp only
  rw [sRaise_exp]
  have := fun z => dLow_expI (x := z) (e := x.exp + ((y.exp - x.exp).toNat : Int)) (by omega)
  have h := this (sRing (rAdd (sRaiseN (y.exp - x.exp).toNat f x).2.num (sRaiseN (x.exp + ((y.exp - x.exp).toNat : Int) - y.exp).toNat (sRaiseN (y.exp - x.exp).toNat f x).1 y).2.num))
  omega
theorem dotS_exp {a b : Mx} (ha : AllOk a) (hb : AllOk b) (f : Bool) (i j : Nat) : ∀ n, 0 ≤ (dotS f a b i j n).2.exp ∧ (dotS f a b i j n).2.exp ≤ 60
  | 0 => ⟨Int.le_refl _, show (0 : Int) ≤ 60 by decide⟩
  | n + 1 => by
    rw [dotS]
    split
    · exact dotS_exp ha hb f i j n
    · exact sAdd_exp (dotS_exp ha hb f i j n) (sMul_exp (dOk_exp (Mx.at_ok ha i n)) (dOk_exp (Mx.at_ok hb n j)))
theorem dot_end {a b : Mx} {f f3 : Bool} {i j k n : Nat} {s : Dy} (h : dotS f a b i j k = (f3, s)) (hk : k ≤ n) (he : f3 = true ∨ k = n) : dotS f a b i j n = (f3, s) := by
  rcases he with he | he
  · subst he
    rw [dotS_bad (n := k) (by rw [h]) n hk, h]
  · subst he; exact h
theorem dot_next {a b : Mx} {f f3 : Bool} {i j k : Nat} {s : Dy} (h : dotS f a b i j k = (f3, s)) (hf : f3 = false) :
    dotS f a b i j (k + 1) = ((sAdd (sMul f3 (a.at i k) (b.at k j)).1 s (sMul f3 (a.at i k) (b.at k j)).2).1, (sAdd (sMul f3 (a.at i k) (b.at k j)).1 s (sMul f3 (a.at i k) (b.at k j)).2).2) := by
  subst hf
  rw [dotS, h, if_neg (show ¬ (false = true) by decide)]
theorem grid_le {a b : Nat} (ha : a ≤ 32) (hb : b ≤ 32) : a * b ≤ 1024 := Nat.le_trans (Nat.mul_le_mul ha hb) (by decide)
end Go.Proofs.YtfgnmflfiobkmaaGreat
namespace Go.Proofs.YtfgnmflfiobkmaaGreat
open Go.RowKit
theorem timesL_cols (a b : Mx) (f : Bool) : (timesS f a b).2.cols = b.cols := rfl
theorem runS_cols (n : Int) : ∀ (l : List Gt) (f : Bool) (m : Mx), (runS n f l m).2.cols = m.cols
  | [], _, _ => rfl
  | g :: l, f, m => by
    rw [runS]
    split
    · rfl
    · rw [runS_cols n l]; rfl
theorem opS_cols {c : Cx} {m : Mx} (h : opS c = some m) : m.cols = ((2 ^ c.n.toNat : Nat) : Int) := by
  unfold opS at h
  split at h
  · split at h
    · cases h
    · injection h with h
      subst h
      rw [runS_cols]
      rfl
  · cases h
theorem op_lens {p q : Cx} (h1 : (opS p).isSome = true) (h2 : (opS q).isSome = true) (h3 : p.n = q.n) : ((opS p).getD mZ).cells.length = ((opS q).getD mZ).cells.length := by
  cases hp : opS p with
  | none => rw [hp] at h1; cases h1
  | some x =>
    cases hq : opS q with
    | none => rw [hq] at h2; cases h2
    | some y =>
      simp only [Option.getD_some]
      rw [op_len hp, op_len hq, opS_cols hp, opS_cols hq, h3]
end Go.Proofs.YtfgnmflfiobkmaaGreat
namespace Go.Proofs.YtfgnmflfiobkmaaGreat
open Go.RowKit
theorem getD_getB {l : List Int} {k : Nat} (h : decide ((k : Int) < (l.length : Int)) = true) : l[k]? = some (l.getD k 0) := getD_get (by simpa using h)
def putI : List Int → Int → List Int
  | [], n => [n]
  | x :: l, n => if x < n then x :: putI l n else if x = n then x :: l else n :: x :: l
theorem put_len : ∀ (l : List Int) (n : Int), (putI l n).length ≤ l.length + 1
  | [], n => by simp [putI]
  | x :: l, n => by
    unfold putI
    split
    · have := put_len l n; simp only [List.length_cons]; omega
    · split <;> simp
theorem put_at : ∀ (l : List Int) (n : Int) (k : Nat), (l.take k).all (fun x => decide (x < n)) = true → k ≤ l.length → (k < l.length → ¬ l.getD k 0 < n) →
    (k < l.length ∧ l.getD k 0 = n → putI l n = l) ∧ (¬ (k < l.length ∧ l.getD k 0 = n) → putI l n = l.take k ++ [n] ++ l.drop k)
  | [], n, k, _, hk, _ => by
    have : k = 0 := by simpa using hk
    subst this
    exact ⟨fun h => by simp at h, fun _ => rfl⟩
  | x :: l, n, 0, _, _, h => by
    have h := h (by simp)
    simp only [List.getD_cons_zero] at h
    refine ⟨fun h1 => ?_, fun h1 => ?_⟩
    · have h2 := h1.2
      simp only [List.getD_cons_zero] at h2
      rw [putI, if_neg h, if_pos h2]
    · have h2 : ¬ x = n := fun e => h1 ⟨by simp, by simpa using e⟩
      rw [putI, if_neg h, if_neg h2]
      rfl
  | x :: l, n, k + 1, ha, hk, h => by
    simp only [List.take_succ_cons, List.all_cons, Bool.and_eq_true, decide_eq_true_eq] at ha
    have ih := put_at l n k ha.2 (by simpa using hk) (fun h1 => by have := h (by simpa using h1); simpa using this)
    simp only [List.length_cons, Nat.add_lt_add_iff_right, List.getD_cons_succ, List.take_succ_cons, List.drop_succ_cons, List.cons_append] at *
    rw [putI, if_pos ha.1]
    exact ⟨fun h1 => by rw [ih.1 h1], fun h1 => by rw [ih.2 h1]⟩
def usedStep (m : List Int) (g : Gt) : List Int := if g.k = 12 then m else if inR g.k 9 11 = true then putI (putI m g.a) g.b else putI m g.a
def usedS (l : List Gt) : List Int := l.foldl usedStep []
theorem foldl_step {α β : Type} {f : β → α → β} {b : β} {l : List α} {k : Nat} {u : α} (h : l[k]? = some u) : (l.take (k + 1)).foldl f b = f ((l.take k).foldl f b) u := by
  rw [List.take_add_one, h]
  simp
theorem usedStep_len (m : List Int) (g : Gt) : (usedStep m g).length ≤ m.length + 2 := by
  unfold usedStep
  split
  · omega
  · split
    · have h1 := put_len m g.a; have h2 := put_len (putI m g.a) g.b; omega
    · have h1 := put_len m g.a; omega
theorem usedFold_len : ∀ (l : List Gt) (m : List Int), (l.foldl usedStep m).length ≤ m.length + 2 * l.length
  | [], m => by simp
  | g :: l, m => by
    have h1 := usedFold_len l (usedStep m g)
    have h2 := usedStep_len m g
    simp only [List.foldl_cons, List.length_cons]
    omega
theorem usedS_len (l : List Gt) : (usedS l).length ≤ 2 * l.length := by have := usedFold_len l []; simpa [usedS] using this
def lastN (l : List Int) (q : Int) : Nat → Int
  | 0 => 0
  | k + 1 => if l.getD k 0 = q then (k : Int) else lastN l q k
theorem lastN_step {l : List Int} {q u : Int} {k : Nat} (h : l[k]? = some u) : lastN l q (k + 1) = if u = q then (k : Int) else lastN l q k := by
  have : l.getD k 0 = u := by rw [List.getD_eq_getElem?_getD, h]; rfl
  rw [lastN, this]
section
variable {us : List Int} {j : Nat} {v q x k : Int}
theorem small_xT (h : us[j]? = some v) (hc : (k != 12 && v == q) = true) : (j : Int) = if k = 12 then 0 else lastN us q (j + 1) := by
  simp only [Bool.and_eq_true, bne_iff_ne, beq_iff_eq] at hc
  rw [if_neg hc.1, lastN_step h, if_pos hc.2]
theorem small_xF (h : us[j]? = some v) (hx : x = if k = 12 then 0 else lastN us q j) (hc : (k != 12 && v == q) = false) : x = if k = 12 then 0 else lastN us q (j + 1) := by
  rw [hx, lastN_step h]
  by_cases h1 : k = 12
  · rw [if_pos h1, if_pos h1]
  · rw [if_neg h1, if_neg h1, if_neg]
    intro h2
    simp [h1, h2] at hc
theorem small_yT (h : us[j]? = some v) (hc : (inR k 9 11 && v == q) = true) : (j : Int) = if inR k 9 11 = true then lastN us q (j + 1) else 0 := by
  simp only [Bool.and_eq_true, beq_iff_eq] at hc
  rw [if_pos hc.1, lastN_step h, if_pos hc.2]
theorem small_yF (h : us[j]? = some v) (hx : x = if inR k 9 11 = true then lastN us q j else 0) (hc : (inR k 9 11 && v == q) = false) : x = if inR k 9 11 = true then lastN us q (j + 1) else 0 := by
  rw [hx, lastN_step h]
  by_cases h1 : inR k 9 11 = true
  · rw [if_pos h1, if_pos h1, if_neg]
    intro h2
    simp [h1, h2] at hc
  · rw [if_neg h1, if_neg h1]
end
def smallG (used : List Int) (g : Gt) : Gt := ⟨g.k, if g.k = 12 then 0 else lastN used g.a used.length, if inR g.k 9 11 = true then lastN used g.b used.length else 0⟩
def validS (n : Int) (r : Rp) : Bool := inR n 1 5 && inR r.pos 0 400 && (!(r.old.any fun x => !gOk n x) && decide ((r.old.length : Int) ≤ 40)) && (!(r.new.any fun x => !gOk n x) && decide ((r.new.length : Int) ≤ 40))
theorem valid_eq (n : Int) (r : Rp) : validS n r = vrI n r := by
  unfold validS vrI
  cases inR n 1 5 <;> cases inR r.pos 0 400 <;> cases (r.old.any fun x => !gOk n x) <;> cases (r.new.any fun x => !gOk n x) <;> cases decide ((r.old.length : Int) ≤ 40) <;> cases decide ((r.new.length : Int) ≤ 40) <;> rfl
end Go.Proofs.YtfgnmflfiobkmaaGreat
namespace Go.Proofs.YtfgnmflfiobkmaaGreat
open Go.RowKit
abbrev Inc (l : List Int) : Prop := l.Pairwise (· < ·)
theorem inc_ext : ∀ (l m : List Int), Inc l → Inc m → (∀ x, x ∈ l ↔ x ∈ m) → l = m
  | [], [], _, _, _ => rfl
  | [], y :: m, _, _, h => by have := (h y).2 (by simp); cases this
  | x :: l, [], _, _, h => by have := (h x).1 (by simp); cases this
  | x :: l, y :: m, hl, hm, h => by
    have hl' := List.pairwise_cons.1 hl
    have hm' := List.pairwise_cons.1 hm
    have hxy : x = y := by
      have h1 := (h x).1 (by simp)
      have h2 := (h y).2 (by simp)
      rcases List.mem_cons.1 h1 with h1 | h1
      · exact h1
      · rcases List.mem_cons.1 h2 with h2 | h2
        · exact h2.symm
        · have h3 := hm'.1 x h1
          have h4 := hl'.1 y h2
          omega
    subst hxy
    congr 1
    refine inc_ext l m hl'.2 hm'.2 fun z => ?_
    constructor
    · intro hz
      rcases List.mem_cons.1 ((h z).1 (List.mem_cons_of_mem _ hz)) with h1 | h1
      · have := hl'.1 z hz; omega
      · exact h1
    · intro hz
      rcases List.mem_cons.1 ((h z).2 (List.mem_cons_of_mem _ hz)) with h1 | h1
      · have := hm'.1 z hz; omega
      · exact h1
theorem put_mem : ∀ (l : List Int) (n x : Int), x ∈ putI l n ↔ x ∈ l ∨ x = n
  | [], n, x => by simp [putI]
  | y :: l, n, x => by
    unfold putI
    split
    · rw [List.mem_cons, put_mem l n x, List.mem_cons, or_assoc]
    · split
      · rename_i h; subst h; simp only [List.mem_cons]; constructor
        · exact .inl
        · rintro (h | h)
          · exact h
          · exact .inl h
      · simp only [List.mem_cons]; constructor
        · rintro (h | h | h)
          · exact .inr h
          · exact .inl (.inl h)
          · exact .inl (.inr h)
        · rintro ((h | h) | h)
          · exact .inr (.inl h)
          · exact .inr (.inr h)
          · exact .inl h
theorem put_inc : ∀ (l : List Int) (n : Int), Inc l → Inc (putI l n)
  | [], n, _ => by simp [putI]
  | y :: l, n, h => by
    have h' := List.pairwise_cons.1 h
    unfold putI
    split
    · rename_i h1
      refine List.pairwise_cons.2 ⟨fun z hz => ?_, put_inc l n h'.2⟩
      rcases (put_mem l n z).1 hz with h2 | h2
      · exact h'.1 z h2
      · omega
    · split
      · exact h
      · rename_i h1 h2
        refine List.pairwise_cons.2 ⟨fun z hz => ?_, h⟩
        rcases List.mem_cons.1 hz with h3 | h3
        · omega
        · have := h'.1 z h3; omega
theorem usedStep_mem (m : List Int) (g : Gt) (x : Int) : x ∈ usedStep m g ↔ x ∈ m ∨ x ∈ qubI g := by
  unfold usedStep qubI
  split
  · simp
  · split
    · rw [put_mem, put_mem, or_assoc]; simp
    · rw [put_mem]; simp
theorem usedFold_mem : ∀ (l : List Gt) (m : List Int) (x : Int), x ∈ l.foldl usedStep m ↔ x ∈ m ∨ ∃ g ∈ l, x ∈ qubI g
  | [], m, x => by simp
  | g :: l, m, x => by
    rw [List.foldl_cons, usedFold_mem l, usedStep_mem, or_assoc]
    simp
theorem usedStep_inc {m : List Int} (g : Gt) (h : Inc m) : Inc (usedStep m g) := by
  unfold usedStep
  split
  · exact h
  · split
    · exact put_inc _ _ (put_inc _ _ h)
    · exact put_inc _ _ h
theorem usedFold_inc : ∀ (l : List Gt) (m : List Int), Inc m → Inc (l.foldl usedStep m)
  | [], m, h => h
  | g :: l, m, h => usedFold_inc l _ (usedStep_inc g h)
theorem usedS_mem (l : List Gt) (x : Int) : x ∈ usedS l ↔ ∃ g ∈ l, x ∈ qubI g := by unfold usedS; rw [usedFold_mem]; simp
theorem usedS_inc (l : List Gt) : Inc (usedS l) := usedFold_inc l [] List.Pairwise.nil
theorem sortI_mem (l : List Int) (x : Int) : x ∈ sortI l ↔ x ∈ l := List.mem_mergeSort
theorem sortI_sorted (l : List Int) : (sortI l).Pairwise (· ≤ ·) := by
  have := List.pairwise_mergeSort (le := fun x y : Int => decide (x ≤ y)) (fun a b c h1 h2 => by simp only [decide_eq_true_eq] at *; omega) (fun a b => by simp only [Bool.or_eq_true, decide_eq_true_eq]; omega) l
  exact this.imp fun h => by simpa using h
theorem sorted_get {l : List Int} (h : l.Pairwise (· ≤ ·)) {i j : Nat} (hij : i ≤ j) (hj : j < l.length) : l[i]'(by omega) ≤ l[j] := by
  rcases Nat.lt_or_ge i j with h1 | h1
  · exact List.pairwise_iff_getElem.1 h i j (by omega) hj h1
  · obtain rfl : i = j := by omega
    exact Int.le_refl _
theorem arr_get {l : List Int} {j : Nat} (hj : j < l.length) : l.toArray[j]! = l[j] := by
  rw [getElem!_pos l.toArray j (by simpa using hj)]
  simp
theorem keeps_iff {l : List Int} {j : Nat} (hj : j < l.length) : Lib.keeps l.toArray j = true ↔ j = 0 ∨ l[j] ≠ l[j - 1] := by
  unfold Lib.keeps
  rw [decide_eq_true_eq, arr_get hj, arr_get (show j - 1 < l.length by omega)]
theorem compact_mem (l : List Int) (x : Int) : x ∈ Lib.compact l ↔ x ∈ l := by
  unfold Lib.compact Lib.compactUpTo
  rw [List.mem_map]
  constructor
  · rintro ⟨j, hj, rfl⟩
    have hj' := List.mem_range.1 (List.mem_filter.1 hj).1
    rw [arr_get hj']
    exact List.getElem_mem _
  · intro hx
    obtain ⟨j, hj, hjx⟩ := List.mem_iff_getElem.1 hx
    have key : ∀ n j, j ≤ n → (hj : j < l.length) → l[j] = x → ∃ k, ∃ hk : k < l.length, l[k] = x ∧ (k = 0 ∨ l[k] ≠ l[k - 1]) := by
      intro n
      induction n with
      | zero => intro j h0 hj hx; obtain rfl : j = 0 := by omega
                exact ⟨0, hj, hx, .inl rfl⟩
      | succ n ih =>
        intro j h0 hj hx
        by_cases h : j = 0 ∨ l[j] ≠ l[j - 1]
        · exact ⟨j, hj, hx, h⟩
        · have h1 : ¬ j = 0 := fun e => h (.inl e)
          have h2 : l[j] = l[j - 1] := Classical.byContradiction fun e => h (.inr e)
          exact ih (j - 1) (by omega) (by omega) (by rw [← h2]; exact hx)
    obtain ⟨k, hk, h1, h2⟩ := key j j (Nat.le_refl _) hj hjx
    exact ⟨k, List.mem_filter.2 ⟨List.mem_range.2 hk, (keeps_iff hk).2 h2⟩, by rw [arr_get hk]; exact h1⟩
theorem compact_inc {l : List Int} (h : l.Pairwise (· ≤ ·)) : Inc (Lib.compact l) := by
  unfold Lib.compact Lib.compactUpTo
  rw [Inc, List.pairwise_map]
  refine List.Pairwise.imp_of_mem (R := (· < ·)) (fun {i j} hi hj hij => ?_) (List.Pairwise.filter _ List.pairwise_lt_range)
  have hi' := List.mem_range.1 (List.mem_filter.1 hi).1
  have hj' := List.mem_range.1 (List.mem_filter.1 hj).1
  have hk := (keeps_iff hj').1 (List.mem_filter.1 hj).2
  rw [arr_get hi', arr_get hj']
  have h1 := sorted_get h (show i ≤ j - 1 by omega) (by omega)
  have h2 := sorted_get h (show j - 1 ≤ j by omega) hj'
  have h3 : l[j] ≠ l[j - 1] := hk.resolve_left (by omega)
  omega
theorem union_mem (p q : List Int) (x : Int) : x ∈ unionI p q ↔ x ∈ p ∨ x ∈ q := by
  unfold unionI
  rw [compact_mem, sortI_mem]
  simp
theorem union_inc (p q : List Int) : Inc (unionI p q) := compact_inc (sortI_sorted _)
theorem usedI_mem (l : List Gt) (x : Int) : x ∈ usedI l ↔ ∃ g ∈ l, x ∈ qubI g := by
  unfold usedI
  rw [union_mem]
  simp [List.mem_flatMap]
theorem usedI_inc (l : List Gt) : Inc (usedI l) := union_inc _ _
theorem used_eq (p q : List Gt) : unionI (usedI p) (usedI q) = usedS (p ++ q) := by
  refine inc_ext _ _ (union_inc _ _) (usedS_inc _) fun x => ?_
  rw [union_mem, usedI_mem, usedI_mem, usedS_mem]
  constructor
  · rintro (⟨g, hg, hx⟩ | ⟨g, hg, hx⟩)
    · exact ⟨g, List.mem_append_left _ hg, hx⟩
    · exact ⟨g, List.mem_append_right _ hg, hx⟩
  · rintro ⟨g, hg, hx⟩
    rcases List.mem_append.1 hg with hg | hg
    · exact .inl ⟨g, hg, hx⟩
    · exact .inr ⟨g, hg, hx⟩
theorem set_getD {l : List Int} {i j : Nat} {x : Int} (hi : i < l.length) : (l.set i x).getD j 0 = if i = j then x else l.getD j 0 := by
  rw [List.getD_eq_getElem?_getD, List.getElem?_set]
  split
  · rename_i h; subst h; simp [hi]
  · rw [List.getD_eq_getElem?_getD]
theorem numb_last {l : List Int} (hq : ∀ x ∈ l, 0 ≤ x ∧ x ≤ 4) {q : Int} (h0 : 0 ≤ q) (h4 : q ≤ 4) : ∀ k, k ≤ l.length → (numbI (l.take k)).getD q.toNat 0 = lastN l q k
  | 0, _ => by
    have : q = 0 ∨ q = 1 ∨ q = 2 ∨ q = 3 ∨ q = 4 := by omega
    rcases this with rfl | rfl | rfl | rfl | rfl <;> rfl
  | k + 1, hk => by
    have hu := List.getElem?_eq_getElem (show k < l.length by omega)
    have hb := hq _ (List.getElem_mem (show k < l.length by omega))
    rw [numb_step hu, lastN_step hu, set_getD (by rw [numb_len]; omega), numb_last hq h0 h4 k (by omega)]
    by_cases h : l[k] = q
    · rw [if_pos h, if_pos (by rw [h])]
    · rw [if_neg h, if_neg (by omega)]
theorem inc_len {l : List Int} (h : Inc l) (hq : ∀ x ∈ l, 0 ≤ x ∧ x ≤ 4) : l.length ≤ 5 := by
  have key : ∀ (l : List Int) (a : Int), Inc l → (∀ x ∈ l, a ≤ x ∧ x ≤ 4) → a ≤ 5 → (l.length : Int) ≤ 5 - a := by
    intro l
    induction l with
    | nil => intro a _ _ h; simp; omega
    | cons x l ih =>
      intro a hl hb ha
      have hl' := List.pairwise_cons.1 hl
      have hx := hb x (by simp)
      have := ih (x + 1) hl'.2 (fun y hy => ⟨by have := hl'.1 y hy; omega, (hb y (by simp [hy])).2⟩) (by omega)
      simp only [List.length_cons]
      omega
  have := key l 0 h hq (by omega)
  omega
theorem last_mem {l : List Int} {q : Int} : ∀ k, k ≤ l.length → q ∈ l.take k → ∃ j : Nat, j < k ∧ lastN l q k = (j : Int) ∧ l.getD j 0 = q
  | 0, _, h => by simp at h
  | k + 1, hk, h => by
    have hu := List.getElem?_eq_getElem (show k < l.length by omega)
    rw [lastN_step hu]
    by_cases he : l[k] = q
    · rw [if_pos he]
      exact ⟨k, by omega, rfl, by rw [List.getD_eq_getElem?_getD, hu]; exact he⟩
    · rw [if_neg he]
      rw [List.take_add_one, hu, Option.toList_some] at h
      rcases List.mem_append.1 h with h | h
      · obtain ⟨j, h1, h2, h3⟩ := last_mem k (by omega) h
        exact ⟨j, by omega, h2, h3⟩
      · exact absurd (List.mem_singleton.1 h).symm he
theorem last_full {l : List Int} {q : Int} (h : q ∈ l) : ∃ j : Nat, j < l.length ∧ lastN l q l.length = (j : Int) ∧ l.getD j 0 = q := last_mem l.length (Nat.le_refl _) (by rw [List.take_length]; exact h)
structure GoodG (us : List Int) (n : Int) (g : Gt) : Prop where
  ok : gOk n g = true
  use : ∀ x ∈ qubI g, x ∈ us
theorem map_small {us : List Int} {n : Int} {g : Gt} (hq : ∀ x ∈ us, 0 ≤ x ∧ x ≤ 4) (h : GoodG us n g) : mapG (numbI us) g = smallG us g := by
  obtain ⟨hn, hk, ha, hb⟩ := gOk_spec h.ok
  have hf : ∀ q, 0 ≤ q → q ≤ 4 → (numbI us).getD q.toNat 0 = lastN us q us.length := fun q h0 h4 => by
    have := numb_last hq h0 h4 us.length (Nat.le_refl _)
    rwa [List.take_length] at this
  unfold mapG smallG
  have hok := h.ok
  simp only [gOk, Bool.and_eq_true, inR_iff] at hok
  by_cases h12 : g.k = 12
  · have h9 : ¬ inR g.k 9 11 = true := fun e => by have := inR_iff.1 e; omega
    rw [if_pos h12] at hok
    simp only [Bool.and_eq_true, beq_iff_eq] at hok
    rw [if_pos h12, if_pos h12, if_neg h9, if_neg h9, hok.2.1, hok.2.2]
  · have ha := ha h12
    rw [if_neg h12] at hok ⊢
    rw [if_neg h12, hf g.a (by omega) (by omega)]
    by_cases h9 : inR g.k 9 11 = true
    · have hb := hb (inR_iff.1 h9)
      rw [if_pos h9, if_pos h9, hf g.b (by omega) (by omega)]
    · rw [if_neg h9, if_neg h9]
      rw [if_neg (fun e => h9 (inR_iff.2 e))] at hok
      simp only [Bool.and_eq_true, beq_iff_eq] at hok
      rw [hok.2.2]
theorem small_ok {us : List Int} {n : Int} {g : Gt} (hi : Inc us) (hq : ∀ x ∈ us, 0 ≤ x ∧ x ≤ 4) (h : GoodG us n g) : gOk (max 1 (us.length : Int)) (smallG us g) = true := by
  obtain ⟨hn, hk, ha, hb⟩ := gOk_spec h.ok
  have hl := inc_len hi hq
  have e1 : inR (max 1 (us.length : Int)) 1 5 = true := inR_iff.2 (by omega)
  have e2 : inR g.k 1 12 = true := inR_iff.2 hk
  unfold gOk smallG
  dsimp only
  rw [e1, e2]
  simp only [Bool.true_and]
  by_cases h12 : g.k = 12
  · have h9 : ¬ inR g.k 9 11 = true := fun e => by have := inR_iff.1 e; omega
    rw [if_pos h12, if_pos h12, if_neg h9]; rfl
  · have hqa : g.a ∈ us := h.use _ (by unfold qubI; rw [if_neg h12]; split <;> simp)
    obtain ⟨i, hi1, hi2, hi3⟩ := last_full hqa
    rw [if_neg h12, if_neg h12, hi2]
    have e3 : inR (i : Int) 0 (max 1 (us.length : Int) - 1) = true := inR_iff.2 (by omega)
    rw [e3]
    by_cases h9 : inR g.k 9 11 = true
    · have hqb : g.b ∈ us := h.use _ (by unfold qubI; rw [if_neg h12, if_pos h9]; simp)
      obtain ⟨j, hj1, hj2, hj3⟩ := last_full hqb
      have e4 : inR (j : Int) 0 (max 1 (us.length : Int) - 1) = true := inR_iff.2 (by omega)
      rw [if_pos h9, if_pos h9, hj2, e4]
      have hne := (hb (inR_iff.1 h9)).2.2
      have : (i : Int) ≠ j := fun e => by obtain rfl : i = j := by omega
                                          exact hne (hi3.symm.trans hj3)
      simpa using this
    · rw [if_neg h9, if_neg h9]; rfl
theorem qub_bound {n : Int} {g : Gt} (h : gOk n g = true) {x : Int} (hx : x ∈ qubI g) : 0 ≤ x ∧ x ≤ 4 := by
  obtain ⟨hn, hk, ha, hb⟩ := gOk_spec h
  unfold qubI at hx
  split at hx
  · cases hx
  · rename_i h12
    have ha := ha h12
    split at hx
    · rename_i h9
      have hb := hb (inR_iff.1 h9)
      rcases List.mem_cons.1 hx with hx | hx
      · omega
      · have := List.mem_singleton.1 hx; omega
    · have := List.mem_singleton.1 hx; omega
def smallC (l : List Gt) (us : List Int) : Cx := ⟨max 1 (us.length : Int), l.map (smallG us)⟩
def mapC (l : List Gt) (us : List Int) : Cx := ⟨max (us.length : Int) 1, mapI l (numbI us)⟩
def justS (r : Rp) : Bool × Bool := sameS (smallC r.old (usedS (r.old ++ r.new))) (smallC r.new (usedS (r.old ++ r.new)))
def justI (r : Rp) : Bool × Bool := sameI (mapC r.old (unionI (usedI r.old) (usedI r.new))) (mapC r.new (unionI (usedI r.old) (usedI r.new)))
theorem vr_spec {n : Int} {r : Rp} (h : vrI n r = true) : (1 ≤ n ∧ n ≤ 5) ∧ (r.old.length ≤ 40 ∧ r.new.length ≤ 40) ∧ (∀ g ∈ r.old, gOk n g = true) ∧ (∀ g ∈ r.new, gOk n g = true) := by
  simp only [vrI, Bool.and_eq_true, inR_iff, decide_eq_true_eq, Bool.not_eq_true', List.any_eq_false] at h
  refine ⟨h.1.1.1.1.1, by omega, fun g hg => by simpa using h.1.2 g hg, fun g hg => by simpa using h.2 g hg⟩
theorem used_bound {n : Int} {l : List Gt} (h : ∀ g ∈ l, gOk n g = true) : ∀ x ∈ usedS l, 0 ≤ x ∧ x ≤ 4 := fun x hx => by
  obtain ⟨g, hg, hx⟩ := (usedS_mem l x).1 hx
  exact qub_bound (h g hg) hx
theorem mapC_eq {n : Int} {l : List Gt} {us : List Int} (hq : ∀ x ∈ us, 0 ≤ x ∧ x ≤ 4) (h : ∀ g ∈ l, GoodG us n g) : mapC l us = smallC l us := by
  unfold mapC smallC mapI
  rw [Int.max_comm]
  congr 1
  exact List.map_congr_left fun g hg => map_small hq (h g hg)
theorem just_eq {n : Int} {r : Rp} (h : vrI n r = true) : justI r = justS r := by
  obtain ⟨hn, hl, ho, hw⟩ := vr_spec h
  have hall : ∀ g ∈ r.old ++ r.new, gOk n g = true := fun g hg => by
    rcases List.mem_append.1 hg with hg | hg
    · exact ho g hg
    · exact hw g hg
  have hq := used_bound hall
  have hgo : ∀ g ∈ r.old ++ r.new, GoodG (usedS (r.old ++ r.new)) n g := fun g hg => ⟨hall g hg, fun x hx => (usedS_mem _ x).2 ⟨g, hg, hx⟩⟩
  unfold justI justS
  rw [used_eq, mapC_eq hq fun g hg => hgo g (List.mem_append_left _ hg), mapC_eq hq fun g hg => hgo g (List.mem_append_right _ hg), same_eq]
end Go.Proofs.YtfgnmflfiobkmaaGreat
namespace Go.Proofs.YtfgnmflfiobkmaaGreat
open Go.RowKit
theorem vr_qubits {n : Int} {l : List Gt} (h : ∀ g ∈ l, gOk n g = true) : ∀ g ∈ l, (g.k ≠ 12 → 0 ≤ g.a ∧ g.a < 5) ∧ (inR g.k 9 11 = true → 0 ≤ g.b ∧ g.b < 5) := fun g hg => by
  obtain ⟨hn, hk, ha, hb⟩ := gOk_spec (h g hg)
  exact ⟨fun h1 => by have := ha h1; omega, fun h1 => by have := hb (inR_iff.1 h1); omega⟩
theorem vr_used {n : Int} {r : Rp} (h : vrI n r = true) : ∀ x ∈ unionI (usedI r.old) (usedI r.new), 0 ≤ x ∧ x ≤ 4 := fun x hx => by
  obtain ⟨_, _, ho, hw⟩ := vr_spec h
  rw [used_eq] at hx
  refine used_bound (n := n) (fun g hg => ?_) x hx
  rcases List.mem_append.1 hg with hg | hg
  · exact ho g hg
  · exact hw g hg
def implJ (n : Int) (r : Rp) : Bool × Bool := if vrI n r = true then justI r else (false, false)
def specJ (n : Int) (r : Rp) : Bool × Bool := if validS n r = true then justS r else (false, false)
theorem implJ_eq (n : Int) (r : Rp) : implJ n r = specJ n r := by
  unfold implJ specJ
  rw [valid_eq]
  split
  · rename_i h; exact just_eq h
  · rfl
def szG (l : List Gt) (left : Int) : Int := if left - (l.length : Int) < 0 then -1 else left - (l.length : Int)
def szR (r : Rp) (left : Int) : Int := if szG r.old left < 0 then -1 else if szG r.new (szG r.old left) < 0 then -1 else szG r.new (szG r.old left)
theorem szG_le {l : List Gt} {left : Int} (h : ¬ szG l left < 0) : szG l left = left - (l.length : Int) ∧ 0 ≤ left - (l.length : Int) := by
  unfold szG at *
  split
  · rename_i h1; rw [if_pos h1] at h; omega
  · exact ⟨rfl, by omega⟩
theorem szR_le {r : Rp} {left : Int} (h : ¬ szR r left < 0) : (r.old.length : Int) + (r.new.length : Int) ≤ left ∧ szR r left = left - (r.old.length : Int) - (r.new.length : Int) := by
  unfold szR at *
  split
  · rename_i h1; rw [if_pos h1] at h; omega
  · rename_i h1
    rw [if_neg h1] at h
    obtain ⟨h2, h3⟩ := szG_le h1
    split
    · rename_i h4; rw [if_pos h4] at h; omega
    · rename_i h4
      obtain ⟨h5, h6⟩ := szG_le h4
      rw [h2] at h5 h6
      exact ⟨by omega, by rw [h2]; rw [h5]⟩
theorem set_take {α : Type} {m l : List α} {k : Nat} {u : α} (h : m.take k = l.take k) (hk : k < m.length) (hu : l[k]? = some u) : (m.set k u).take (k + 1) = l.take (k + 1) := by
  rw [List.take_add_one, List.take_add_one, hu, ← h]
  congr 1
  · rw [List.take_set_of_le (Nat.le_refl _)]
  · simp [hk]
end Go.Proofs.YtfgnmflfiobkmaaGreat
set_option maxRecDepth 4000
namespace Go.Proofs.YtfgnmflfiobkmaaGreat
open Go.RowKit
theorem F93 (w0 : World) (ls : List Sl) (Al : Option Addr) (cl : Nat) (hr_ls : Rd w0 w0.heap.size 36 encS Al ls) (hall : ∀ s ∈ ls, Rd w0 w0.heap.size 3 encI s.A s.l) (hln : ls.length ≤ 1000) (hsum : (ls.flatMap Sl.l).length ≤ 1000000000) : Ret Tryz.prog 93 [.slice Al ls.length cl] w0 (fun v w => ∃ A c, v = .slice A (ls.flatMap Sl.l).length c ∧ Own w w0.heap.size 3 1 encI A c (ls.flatMap Sl.l) ∧ Below w0.heap.size w0 w) := by
 refine enter Tryz.func93 rfl 36 rfl rfl ?_
 intro a hf
 have hW : Below w0.heap.size w0 w0 := Below.refl _ _
 refine wp_seq_k ?_; intro K2 hK2
 refine wp_region_lit ?_
 refine l_ev hf trivial rfl rfl (ev_assign hf rfl) ?_; intro a hf
 refine wpList_nil ?_
 refine hK2 _ _ ?_; try clear hK2 K2
 refine wp_seq_k ?_; intro K4 hK4
 refine wp_region_lit ?_
 refine l_ev hf trivial rfl rfl (ev_assign hf rfl) ?_; intro a hf
 refine wpList_nil ?_
 refine hK4 _ _ ?_; try clear hK4 K4
 refine wp_seq_k ?_; intro K5 hK5
 refine wp_seq_k ?_; intro K6 hK6
 refine wp_region_lit ?_
 refine l_ev hf trivial rfl rfl (ev_move hf rfl) ?_; intro a hf
 refine l_ev hf trivial rfl rfl (ev_len hf rfl sl_108) ?_; intro a hf
 refine l_ev hf trivial rfl rfl (ev_move hf rfl) ?_; intro a hf
 refine wpList_nil ?_
 refine hK6 _ _ ?_; try clear hK6 K6
 refine wp_block ?_
 refine c_loop (σ := Nat) (fun (k : Nat) (a : Act) (w : World) => Fr a 36 [(0, .slice Al ls.length cl), (3, .int .i64 (((ls.take k).flatMap Sl.l).length : Int)), (9, .slice Al ls.length cl), (10, .int .i64 (ls.length : Int)), (11, .int .i64 (k : Int))] ∧ (k ≤ ls.length) ∧ Rd w w0.heap.size 36 encS Al ls ∧ Below w0.heap.size w0 w) (fun (k : Nat) => ls.length - k) 0 ?_ ?_
 · exact ⟨hf.sub ⟨rfl, rfl, rfl, rfl, rfl, trivial⟩, (Nat.zero_le _), hr_ls, hW⟩
 rintro k a w1 ⟨hf, hk, hr_ls, hW⟩
 refine wp_seq_k ?_; intro K7 hK7
 refine wp_region_lit ?_
 refine l_ev hf trivial rfl rfl (ev_lss hf rfl rfl) ?_; intro a hf
 refine wpList_nil ?_
 refine hK7 _ _ ?_; try clear hK7 K7
 refine wp_seq_k ?_; intro K8 hK8
 refine c_if hf rfl (fun hc9 => ?_) (fun hc9 => ?_)
 ·have hc9b := hc9
  have hc9 := of_decide_eq_true hc9
  obtain ⟨u10, hu10⟩ := getElem_ex (l := ls) (k := k) (by omega)
  have hst := flat_step (f := Sl.l) hu10
  have hle := flat_le Sl.l ls (k + 1)
  rw [hst, List.length_append] at hle
  refine wp_skip ?_
  refine hK8 _ _ ?_; try clear hK8 K8
  refine wp_seq_k ?_; intro K11 hK11
  refine wp_block ?_
  refine wp_seq_k ?_; intro K12 hK12
  refine wp_region_lit ?_
  refine l_index (k := k) (u := u10) (enc := encS) (l := ls) hf trivial rfl rfl rfl sl_108 sz_36 encS_len hr_ls hu10 rfl ?_; intro a p14 hat13 hf
  have hr15 : Rd w1 w0.heap.size 3 encI u10.A u10.l := (hall u10 (List.mem_of_getElem? hu10)).below' hW
  refine l_ev hf trivial rfl rfl (ev_load1 hf rfl t1_36 hat13) ?_; intro a hf
  refine l_ev hf trivial rfl rfl (ev_assign hf rfl) ?_; intro a hf
  refine wpList_nil ?_
  refine hK12 _ _ ?_; try clear hK12 K12
  refine wp_seq_k ?_; intro K16 hK16
  refine wp_region_lit ?_
  refine l_ev hf trivial rfl rfl (ev_move hf rfl) ?_; intro a hf
  refine l_ev hf trivial rfl rfl (ev_move hf rfl) ?_; intro a hf
  refine l_ev hf trivial rfl rfl (ev_len hf rfl sl_36) ?_; intro a hf
  refine l_ev hf trivial rfl rfl (ev_addx hf rfl rfl (by omega) (by omega)) ?_; intro a hf
  refine l_ev hf trivial rfl rfl (ev_assign hf rfl) ?_; intro a hf
  refine wpList_nil ?_
  refine hK16 _ _ ?_; try clear hK16 K16
  refine wp_seq_k ?_; intro K17 hK17
  refine wp_region_lit ?_
  refine l_ev hf trivial rfl rfl (ev_move hf rfl) ?_; intro a hf
  refine l_ev hf trivial rfl rfl (ev_lss hf rfl rfl) ?_; intro a hf
  refine wpList_nil ?_
  refine hK17 _ _ ?_; try clear hK17 K17
  refine c_if hf rfl (fun hc18 => ?_) (fun hc18 => ?_)
  ·have hc18b := hc18
   have hc18 := of_decide_eq_true hc18
   exact absurd hc18 (by omega)
  ·have hc18b := hc18
   have hc18 := of_decide_eq_false hc18
   refine wp_skip ?_
   refine x_norm ?_
   refine hK11 _ _ ?_; try clear hK11 K11
   refine wp_region_lit ?_
   refine l_ev hf trivial rfl rfl (ev_addx hf rfl rfl (by omega) (by omega)) ?_; intro a hf
   refine l_ev hf trivial rfl rfl (ev_move hf rfl) ?_; intro a hf
   refine wpList_nil ?_
   have hjj : ((((ls.take k).flatMap Sl.l).length : Int) + (u10.l.length : Int)) = (((ls.take (k + 1)).flatMap Sl.l).length : Int) := by rw [hst, List.length_append]; omega
   rw [hjj] at hf
   refine x_thenN ?_
   exact ⟨k + 1, ⟨hf.sub ⟨rfl, rfl, rfl, rfl, rfl, trivial⟩, (by omega), hr_ls, hW⟩, (by omega)⟩
 ·have hc9b := hc9
  have hc9 := of_decide_eq_false hc9
  refine wp_exit ?_
  refine x_exS ?_
  refine x_exS ?_
  refine x_exit ?_
  refine hK5 _ _ ?_; try clear hK5 K5
  refine wp_seq_k ?_; intro K19 hK19
  refine wp_region_lit ?_
  refine l_ev hf trivial rfl rfl (ev_move hf rfl) ?_; intro a hf
  refine l_eff hf trivial rfl rfl (ef_call (vs := [.slice none 0 0, .int .i64 (((ls.take k).flatMap Sl.l).length : Int)]) hf rfl ff_133 (F133 _ (((ls.take k).flatMap Sl.l).length) (by have := flat_le Sl.l ls k; omega))) ?_; rintro a _ w2 ⟨A21, c21, rfl, ho21, hE⟩ hf
  replace ho21 := ho21.lower hW.size
  replace hr_ls := hr_ls.below hE
  replace hW := hW.trans (hE.mono hW.size)
  clear hE
  refine l_ev hf trivial rfl rfl (ev_assign hf rfl) ?_; intro a hf
  refine wpList_nil ?_
  refine hK19 _ _ ?_; try clear hK19 K19
  refine wp_seq_k ?_; intro K22 hK22
  refine wp_seq_k ?_; intro K23 hK23
  refine wp_region_lit ?_
  refine l_ev hf trivial rfl rfl (ev_move hf rfl) ?_; intro a hf
  refine l_ev hf trivial rfl rfl (ev_len hf rfl sl_108) ?_; intro a hf
  refine l_ev hf trivial rfl rfl (ev_move hf rfl) ?_; intro a hf
  refine wpList_nil ?_
  refine hK23 _ _ ?_; try clear hK23 K23
  refine wp_block ?_
  refine c_loop (σ := Nat × (List Int)) (fun (s : Nat × (List Int)) (a : Act) (w : World) => match s with | (j, l) => ∃ A24 c24, Fr a 36 [(6, .slice A24 l.length c24), (25, .slice Al ls.length cl), (26, .int .i64 (ls.length : Int)), (27, .int .i64 (j : Int))] ∧ (j ≤ ls.length) ∧ (l = (ls.take j).flatMap Sl.l) ∧ Own w w0.heap.size 3 1 encI A24 c24 l ∧ Rd w w0.heap.size 36 encS Al ls ∧ Below w0.heap.size w0 w) (fun (s : Nat × (List Int)) => match s with | (j, l) => ls.length - j) (0, []) ?_ ?_
  · exact ⟨A21, c21, hf.sub ⟨rfl, rfl, rfl, rfl, trivial⟩, (Nat.zero_le _), rfl, ho21, hr_ls, hW⟩
  rintro ⟨j, l⟩ a w3 ⟨A24, c24, hf, hj, hl, ho24, hr_ls, hW⟩
  refine wp_seq_k ?_; intro K25 hK25
  refine wp_region_lit ?_
  refine l_ev hf trivial rfl rfl (ev_lss hf rfl rfl) ?_; intro a hf
  refine wpList_nil ?_
  refine hK25 _ _ ?_; try clear hK25 K25
  refine wp_seq_k ?_; intro K26 hK26
  refine c_if hf rfl (fun hc27 => ?_) (fun hc27 => ?_)
  ·have hc27b := hc27
   have hc27 := of_decide_eq_true hc27
   obtain ⟨u28, hu28⟩ := getElem_ex (l := ls) (k := j) (by omega)
   have hst := flat_step (f := Sl.l) hu28
   have hle := flat_le Sl.l ls (j + 1)
   rw [hst, List.length_append, ← hl] at hle
   refine wp_skip ?_
   refine hK26 _ _ ?_; try clear hK26 K26
   refine wp_seq_k ?_; intro K29 hK29
   refine wp_block ?_
   refine wp_seq_k ?_; intro K30 hK30
   refine wp_region_lit ?_
   refine l_index (k := j) (u := u28) (enc := encS) (l := ls) hf trivial rfl rfl rfl sl_108 sz_36 encS_len hr_ls hu28 rfl ?_; intro a p32 hat31 hf
   have hr33 : Rd w3 w0.heap.size 3 encI u28.A u28.l := (hall u28 (List.mem_of_getElem? hu28)).below' hW
   refine l_ev hf trivial rfl rfl (ev_load1 hf rfl t1_36 hat31) ?_; intro a hf
   refine l_ev hf trivial rfl rfl (ev_assign hf rfl) ?_; intro a hf
   refine wpList_nil ?_
   refine hK30 _ _ ?_; try clear hK30 K30
   refine wp_region_lit ?_
   refine l_ev hf trivial rfl rfl (ev_move hf rfl) ?_; intro a hf
   refine l_ev hf trivial rfl rfl (ev_move hf rfl) ?_; intro a hf
   refine l_eff hf trivial rfl rfl (ef_append (enc := encI) (l := (l)) (l2 := (u28.l)) (B0 := w0.heap.size) hf rfl rfl sl_36 inf_3 encI_len encI_one ho24 hr33 (by simp only [maxLen]; omega) (by omega) hW.size) ?_; rintro a _ w4 ⟨A34, c34, rfl, ho34, hg, hat⟩ hf
   have hown : Own _ w0.heap.size 3 1 encI _ _ (l) := ho24
   clear hat
   replace hr_ls := hr_ls.appT hown hg rfl
   replace hr33 := hr33.appB hown hg (Nat.le_refl _)
   replace hW := Below.app hW hown hg (Nat.le_refl _) hW.size
   clear hown hg
   refine l_ev hf trivial rfl rfl (ev_assign hf rfl) ?_; intro a hf
   refine wpList_nil ?_
   refine x_norm ?_
   refine hK29 _ _ ?_; try clear hK29 K29
   refine wp_region_lit ?_
   refine l_ev hf trivial rfl rfl (ev_addx hf rfl rfl (by omega) (by omega)) ?_; intro a hf
   refine l_ev hf trivial rfl rfl (ev_move hf rfl) ?_; intro a hf
   refine wpList_nil ?_
   refine x_thenN ?_
   exact ⟨(j + 1, l ++ u28.l), ⟨A34, c34, hf.sub ⟨rfl, rfl, rfl, rfl, trivial⟩, (by omega), (by rw [hst, hl]), ho34, hr_ls, hW⟩, (by first | omega | (dsimp only; omega))⟩
  ·have hc27b := hc27
   have hc27 := of_decide_eq_false hc27
   refine wp_exit ?_
   refine x_exS ?_
   refine x_exS ?_
   refine x_exit ?_
   refine hK22 _ _ ?_; try clear hK22 K22
   refine wp_seq_k ?_; intro K35 hK35
   refine wp_region_lit ?_
   refine l_ev hf trivial rfl rfl (ev_move hf rfl) ?_; intro a hf
   refine l_ev hf trivial rfl rfl (ev_assign hf rfl) ?_; intro a hf
   refine wpList_nil ?_
   refine hK35 _ _ ?_; try clear hK35 K35
   refine wp_ret ?_
   refine c_ret hf (res1 hf rfl rfl) ?_
   have hfin : l = ls.flatMap Sl.l := by rw [hl]; exact flat_full _ (by omega)
   rw [← hfin]
   exact ⟨A24, c24, rfl, ho24, hW⟩
theorem F47 (w0 : World) (Ap : Option Addr) (cp : Nat) (p : List Int) (hr_p : Rd w0 w0.heap.size 3 encI Ap p) (Aq : Option Addr) (cq : Nat) (q : List Int) (hr_q : Rd w0 w0.heap.size 3 encI Aq q) (hpl : p.length ≤ 100000000) (hql : q.length ≤ 100000000) : Ret Tryz.prog 47 [.slice Ap p.length cp, .slice Aq q.length cq] w0 (fun v w => ∃ A c, v = .slice A (unionI p q).length c ∧ Own w w0.heap.size 3 1 encI A c (unionI p q) ∧ Below w0.heap.size w0 w) := by
 refine enter Tryz.func47 rfl 14 rfl rfl ?_
 intro a hf
 have hW : Below w0.heap.size w0 w0 := Below.refl _ _
 refine wp_seq_k ?_; intro K3 hK3
 refine wp_region_lit ?_
 refine l_ev hf trivial rfl rfl (ev_assign hf rfl) ?_; intro a hf
 refine wpList_nil ?_
 refine hK3 _ _ ?_; try clear hK3 K3
 refine wp_seq_k ?_; intro K5 hK5
 refine wp_region_lit ?_
 refine l_ev hf trivial rfl rfl (ev_move hf rfl) ?_; intro a hf
 refine l_ev hf trivial rfl rfl (ev_move hf rfl) ?_; intro a hf
 refine l_eff hf trivial rfl rfl (ef_buildSlice (k := 2) (vs := [.slice Ap p.length cp, .slice Aq q.length cq]) (zs := [.slice Ap p.length cp, .slice Aq q.length cq]) hf rfl sl_108 inf_36 rfl rfl) ?_; rintro a _ w1 ⟨b6, rfl, hl6, hE, hB6⟩ hf
 have hlo6 := Nat.le_trans hW.size hl6
 replace hr_p := hr_p.below hE
 replace hr_q := hr_q.below hE
 replace hW := hW.trans (hE.mono hW.size)
 clear hE
 refine l_eff hf trivial rfl rfl (ef_call (vs := [.slice (some ⟨b6, 0, none⟩) ([(⟨Ap, cp, p⟩ : Sl), (⟨Aq, cq, q⟩ : Sl)]).length 2]) hf rfl ff_93 (F93 _ [(⟨Ap, cp, p⟩ : Sl), (⟨Aq, cq, q⟩ : Sl)] (some ⟨b6, 0, none⟩) 2 (Rd.of_blk hB6 rfl _ hB6.lt) (fun s hs => by rcases List.mem_cons.1 hs with rfl | hs; exact hr_p.top; rw [List.mem_singleton.1 hs]; exact hr_q.top) (by simp) (by simp; omega))) ?_; rintro a _ w2 ⟨A8, c8, rfl, ho8, hE⟩ hf
 replace ho8 := ho8.lower hW.size
 replace hB6 := hB6.below hE
 replace hr_p := hr_p.below hE
 replace hr_q := hr_q.below hE
 replace hW := hW.trans (hE.mono hW.size)
 clear hE
 refine l_ev hf trivial rfl rfl (ev_assign hf rfl) ?_; intro a hf
 refine wpList_nil ?_
 refine hK5 _ _ ?_; try clear hK5 K5
 refine wp_seq_k ?_; intro K9 hK9
 refine wp_region_lit ?_
 refine l_ev hf trivial rfl rfl (ev_move hf rfl) ?_; intro a hf
 refine l_eff hf trivial rfl rfl (ef_call (vs := [.slice A8 (List.flatMap Sl.l [(⟨Ap, cp, p⟩ : Sl), (⟨Aq, cq, q⟩ : Sl)]).length c8]) hf rfl ff_94 (F94 _ w0.heap.size A8 c8 (List.flatMap Sl.l [(⟨Ap, cp, p⟩ : Sl), (⟨Aq, cq, q⟩ : Sl)]) ho8 (by simp; omega))) ?_; rintro a _ w3 ⟨hnew, hg⟩ hf
 have hown := ho8
 replace hB6 := hB6.appT hown hg rfl
 replace hr_p := hr_p.appB hown hg (Nat.le_refl _)
 replace hr_q := hr_q.appB hown hg (Nat.le_refl _)
 replace hW := Below.app hW hown hg (Nat.le_refl _) hW.size
 clear hown hg; clear ho8; have ho8 := hnew; clear hnew
 refine wpList_nil ?_
 refine hK9 _ _ ?_; try clear hK9 K9
 refine wp_seq_k ?_; intro K10 hK10
 refine wp_region_lit ?_
 refine l_ev hf trivial rfl rfl (ev_move hf rfl) ?_; intro a hf
 refine l_eff hf trivial rfl rfl (ef_call (vs := [.slice A8 (List.flatMap Sl.l [(⟨Ap, cp, p⟩ : Sl), (⟨Aq, cq, q⟩ : Sl)]).length c8]) hf rfl ff_95 (F95m _ w0.heap.size A8 c8 (sortI (List.flatMap Sl.l [(⟨Ap, cp, p⟩ : Sl), (⟨Aq, cq, q⟩ : Sl)])) ((List.flatMap Sl.l [(⟨Ap, cp, p⟩ : Sl), (⟨Aq, cq, q⟩ : Sl)]).length) (by simp [sortI]) ho8 (by simp [sortI]; omega))) ?_; rintro a _ w4 ⟨rfl, hnew, hg⟩ hf
 have hown := ho8
 replace hB6 := hB6.appT hown hg rfl
 replace hr_p := hr_p.appB hown hg (Nat.le_refl _)
 replace hr_q := hr_q.appB hown hg (Nat.le_refl _)
 replace hW := Below.app hW hown hg (Nat.le_refl _) hW.size
 clear hown hg; clear ho8; have ho8 := hnew; clear hnew
 refine l_ev hf trivial rfl rfl (ev_assign hf rfl) ?_; intro a hf
 refine wpList_nil ?_
 refine hK10 _ _ ?_; try clear hK10 K10
 refine wp_ret ?_
 refine c_ret hf (res1 hf rfl rfl) ?_
 have hfin : unionI p q = Lib.compact (sortI (List.flatMap Sl.l [(⟨Ap, cp, p⟩ : Sl), (⟨Aq, cq, q⟩ : Sl)])) := by unfold unionI; congr 2
 rw [hfin]
 exact ⟨A8, c8, rfl, ho8, hW⟩
theorem F96 (w0 : World) (g : Gt) : Ret Tryz.prog 96 [.agg #[.int .i64 g.k, .int .i64 g.a, .int .i64 g.b]] w0 (fun v w => ∃ A c, v = .slice A (qubI g).length c ∧ Own w w0.heap.size 3 1 encI A c (qubI g) ∧ Below w0.heap.size w0 w) := by
 refine enter Tryz.func96 rfl 19 rfl rfl ?_
 intro a hf
 have hW : Below w0.heap.size w0 w0 := Below.refl _ _
 refine wp_seq_k ?_; intro K1 hK1
 refine wp_region_lit ?_
 refine l_eff hf trivial rfl rfl (ef_box (zs := [.int .i64 g.k, .int .i64 g.a, .int .i64 g.b]) hf rfl rfl) ?_; rintro a _ w1 ⟨b2, rfl, hl2, hE, hB2⟩ hf
 have hlo2 := Nat.le_trans hW.size hl2
 replace hW := hW.trans (hE.mono hW.size)
 clear hE
 refine l_ev hf trivial rfl rfl (ev_assign hf rfl) ?_; intro a hf
 refine wpList_nil ?_
 refine hK1 _ _ ?_; try clear hK1 K1
 refine wp_seq_k ?_; intro K4 hK4
 refine wp_block ?_
 refine wp_seq_k ?_; intro K5 hK5
 refine wp_region_lit ?_
 refine l_ev hf trivial rfl rfl (ev_fieldB hf rfl fd_107_0 (m := 0) rfl) ?_; intro a hf
 refine l_ev hf trivial rfl rfl (ev_load1 hf rfl t1_3 (hB2.at 0)) ?_; intro a hf
 refine l_ev hf trivial rfl rfl (ev_eql hf rfl rfl) ?_; intro a hf
 refine l_ev hf trivial rfl rfl (ev_assign hf rfl) ?_; intro a hf
 refine wpList_nil ?_
 refine hK5 _ _ ?_; try clear hK5 K5
 refine c_if hf rfl (fun hc6 => ?_) (fun hc6 => ?_)
 ·have hc6b := hc6
  have hfin : qubI g = [] := by rw [qubI, if_pos (by simpa using hc6)]
  refine wp_seq_k ?_; intro K7 hK7
  refine wp_region_lit ?_
  refine l_ev hf trivial rfl rfl (ev_assign hf rfl) ?_; intro a hf
  refine wpList_nil ?_
  refine hK7 _ _ ?_; try clear hK7 K7
  refine wp_ret ?_
  refine x_retB ?_
  refine x_retS ?_
  refine c_ret hf (res1 hf rfl rfl) ?_
  rw [hfin]
  exact ⟨none, 0, rfl, (Own.nil _ _ _ _ _), hW⟩
 ·have hc6b := hc6
  have h12 : ¬ g.k = 12 := by simpa using hc6
  refine wp_seq_k ?_; intro K9 hK9
  refine wp_region_lit ?_
  refine l_ev hf trivial rfl rfl (ev_fieldB hf rfl fd_107_0 (m := 0) rfl) ?_; intro a hf
  refine l_ev hf trivial rfl rfl (ev_load1 hf rfl t1_3 (hB2.at 0)) ?_; intro a hf
  refine l_eff hf trivial rfl rfl (ef_call (vs := [.int .i64 g.k]) hf rfl ff_99 (F99 _ g.k)) ?_; rintro a _ _ ⟨rfl, rfl⟩ hf
  refine l_ev hf trivial rfl rfl (ev_assign hf rfl) ?_; intro a hf
  refine wpList_nil ?_
  refine hK9 _ _ ?_; try clear hK9 K9
  refine c_if hf rfl (fun hc10 => ?_) (fun hc10 => ?_)
  ·have hc10b := hc10
   have hfin : qubI g = [g.a, g.b] := by rw [qubI, if_neg h12, if_pos hc10]
   refine wp_seq_k ?_; intro K11 hK11
   refine wp_region_lit ?_
   refine l_ev hf trivial rfl rfl (ev_fieldB hf rfl fd_107_1 (m := 1) rfl) ?_; intro a hf
   refine l_ev hf trivial rfl rfl (ev_load1 hf rfl t1_3 (hB2.at 1)) ?_; intro a hf
   refine l_ev hf trivial rfl rfl (ev_fieldB hf rfl fd_107_2 (m := 2) rfl) ?_; intro a hf
   refine l_ev hf trivial rfl rfl (ev_load1 hf rfl t1_3 (hB2.at 2)) ?_; intro a hf
   refine l_eff hf trivial rfl rfl (ef_buildSlice (k := 2) (vs := [.int .i64 g.a, .int .i64 g.b]) (zs := [.int .i64 g.a, .int .i64 g.b]) hf rfl sl_36 inf_3 rfl rfl) ?_; rintro a _ w2 ⟨b12, rfl, hl12, hE, hB12⟩ hf
   have hlo12 := Nat.le_trans hW.size hl12
   replace hB2 := hB2.below hE
   replace hW := hW.trans (hE.mono hW.size)
   clear hE
   refine l_ev hf trivial rfl rfl (ev_assign hf rfl) ?_; intro a hf
   refine wpList_nil ?_
   refine hK11 _ _ ?_; try clear hK11 K11
   refine wp_ret ?_
   refine x_retB ?_
   refine x_retS ?_
   refine c_ret hf (res1 hf rfl rfl) ?_
   rw [hfin]
   exact ⟨(some ⟨b12, 0, none⟩), 2, rfl, (Own.of_blkL encI_len hB12 hlo12 rfl rfl (by decide)), hW⟩
  ·have hc10b := hc10
   have hfin : qubI g = [g.a] := by rw [qubI, if_neg h12, if_neg (by rw [hc10]; simp)]
   refine wp_skip ?_
   refine x_norm ?_
   refine hK4 _ _ ?_; try clear hK4 K4
   refine wp_seq_k ?_; intro K14 hK14
   refine wp_region_lit ?_
   refine l_ev hf trivial rfl rfl (ev_fieldB hf rfl fd_107_1 (m := 1) rfl) ?_; intro a hf
   refine l_ev hf trivial rfl rfl (ev_load1 hf rfl t1_3 (hB2.at 1)) ?_; intro a hf
   refine l_eff hf trivial rfl rfl (ef_buildSlice (k := 1) (vs := [.int .i64 g.a]) (zs := [.int .i64 g.a]) hf rfl sl_36 inf_3 rfl rfl) ?_; rintro a _ w3 ⟨b15, rfl, hl15, hE, hB15⟩ hf
   have hlo15 := Nat.le_trans hW.size hl15
   replace hB2 := hB2.below hE
   replace hW := hW.trans (hE.mono hW.size)
   clear hE
   refine l_ev hf trivial rfl rfl (ev_assign hf rfl) ?_; intro a hf
   refine wpList_nil ?_
   refine hK14 _ _ ?_; try clear hK14 K14
   refine wp_ret ?_
   refine c_ret hf (res1 hf rfl rfl) ?_
   rw [hfin]
   exact ⟨(some ⟨b15, 0, none⟩), 1, rfl, (Own.of_blkL encI_len hB15 hlo15 rfl rfl (by decide)), hW⟩
theorem F48 (w0 : World) (Al : Option Addr) (cl : Nat) (l : List Gt) (hr_l : Rd w0 w0.heap.size 107 encG Al l) (hln : l.length ≤ 10000000) : Ret Tryz.prog 48 [.slice Al l.length cl] w0 (fun v w => ∃ A c, v = .slice A (usedI l).length c ∧ Own w w0.heap.size 3 1 encI A c (usedI l) ∧ Below w0.heap.size w0 w) := by
 refine enter Tryz.func48 rfl 20 rfl rfl ?_
 intro a hf
 have hW : Below w0.heap.size w0 w0 := Below.refl _ _
 refine wp_seq_k ?_; intro K2 hK2
 refine wp_region_lit ?_
 refine l_ev hf trivial rfl rfl (ev_assign hf rfl) ?_; intro a hf
 refine wpList_nil ?_
 refine hK2 _ _ ?_; try clear hK2 K2
 refine wp_seq_k ?_; intro K4 hK4
 refine wp_region_lit ?_
 refine l_eff hf trivial rfl rfl (ef_buildSlice (k := 0) (vs := []) (zs := []) hf rfl sl_36 inf_3 rfl rfl) ?_; rintro a _ w1 ⟨b5, rfl, hl5, hE, hB5⟩ hf
 have hlo5 := Nat.le_trans hW.size hl5
 replace hr_l := hr_l.below hE
 replace hW := hW.trans (hE.mono hW.size)
 clear hE
 refine l_ev hf trivial rfl rfl (ev_assign hf rfl) ?_; intro a hf
 refine wpList_nil ?_
 refine hK4 _ _ ?_; try clear hK4 K4
 refine wp_seq_k ?_; intro K7 hK7
 refine wp_seq_k ?_; intro K8 hK8
 refine wp_region_lit ?_
 refine l_ev hf trivial rfl rfl (ev_move hf rfl) ?_; intro a hf
 refine l_ev hf trivial rfl rfl (ev_len hf rfl sl_28) ?_; intro a hf
 refine l_ev hf trivial rfl rfl (ev_move hf rfl) ?_; intro a hf
 refine wpList_nil ?_
 refine hK8 _ _ ?_; try clear hK8 K8
 refine wp_block ?_
 refine c_loop (σ := Nat × (List Int)) (fun (s : Nat × (List Int)) (a : Act) (w : World) => match s with | (k, m) => ∃ A9 c9, Fr a 20 [(3, .slice A9 m.length c9), (7, .slice Al l.length cl), (8, .int .i64 (l.length : Int)), (9, .int .i64 (k : Int))] ∧ (k ≤ l.length) ∧ (m = (l.take k).flatMap qubI) ∧ Own w w0.heap.size 3 1 encI A9 c9 m ∧ Rd w w0.heap.size 107 encG Al l ∧ Below w0.heap.size w0 w) (fun (s : Nat × (List Int)) => match s with | (k, m) => l.length - k) (0, []) ?_ ?_
 · exact ⟨some ⟨b5, 0, none⟩, 0, hf.sub ⟨rfl, rfl, rfl, rfl, trivial⟩, (Nat.zero_le _), rfl, (Own.empty hB5 hlo5), hr_l, hW⟩
 rintro ⟨k, m⟩ a w2 ⟨A9, c9, hf, hk, hm, ho9, hr_l, hW⟩
 refine wp_seq_k ?_; intro K10 hK10
 refine wp_region_lit ?_
 refine l_ev hf trivial rfl rfl (ev_lss hf rfl rfl) ?_; intro a hf
 refine wpList_nil ?_
 refine hK10 _ _ ?_; try clear hK10 K10
 refine wp_seq_k ?_; intro K11 hK11
 refine c_if hf rfl (fun hc12 => ?_) (fun hc12 => ?_)
 ·have hc12b := hc12
  have hc12 := of_decide_eq_true hc12
  obtain ⟨u13, hu13⟩ := getElem_ex (l := l) (k := k) (by omega)
  have hst := flat_step (f := qubI) hu13
  have hqb := flat_qub (l.take k)
  have hq2 := qubI_len u13
  have hlt := List.length_take_le k l
  rw [← hm] at hqb
  refine wp_skip ?_
  refine hK11 _ _ ?_; try clear hK11 K11
  refine wp_seq_k ?_; intro K14 hK14
  refine wp_block ?_
  refine wp_seq_k ?_; intro K15 hK15
  refine wp_region_lit ?_
  refine l_index (k := k) (u := u13) (enc := encG) (l := l) hf trivial rfl rfl rfl sl_28 sz_107 encG_len hr_l hu13 rfl ?_; intro a p17 hat16 hf
  refine l_ev hf trivial rfl rfl (ev_loadN (l := [.int .i64 u13.k, .int .i64 u13.a, .int .i64 u13.b]) hf rfl tN_107 hat16 rfl) ?_; intro a hf
  refine l_eff hf trivial rfl rfl (ef_alloc (zs := [.int .i64 0, .int .i64 0, .int .i64 0]) z_107 rfl) ?_; rintro a _ w3 ⟨b18, rfl, hl18, hE, hB18⟩ hf
  have hlo18 := Nat.le_trans hW.size hl18
  have haw1_18 := hr_l.away hl18
  replace ho9 := ho9.below hE
  replace hr_l := hr_l.below hE
  replace hW := hW.trans (hE.mono hW.size)
  clear hE
  refine l_eff0 hf trivial rfl (ef_store (vs := [.int .i64 u13.k, .int .i64 u13.a, .int .i64 u13.b]) (l' := [.int .i64 u13.k, .int .i64 u13.a, .int .i64 u13.b]) hf rfl rfl sz_107 hB18 rfl rfl rfl rfl rfl) ?_; rintro a _ w4 ⟨ho, hb⟩ hf
  have hold := hB18
  replace ho9 := ho9.onlyT ho hold rfl
  replace hr_l := hr_l.only ho hlo18
  replace hW := Below.only hW ho hlo18
  clear hold
  have hB18 := hb
  clear hb ho
  refine wpList_nil ?_
  refine hK15 _ _ ?_; try clear hK15 K15
  refine wp_region_lit ?_
  refine l_ev hf trivial rfl rfl (ev_move hf rfl) ?_; intro a hf
  refine l_ev hf trivial rfl rfl (ev_loadN (l := [.int .i64 u13.k, .int .i64 u13.a, .int .i64 u13.b]) hf rfl tN_107 (hB18.at 0) rfl) ?_; intro a hf
  refine l_eff hf trivial rfl rfl (ef_call (vs := [.agg #[.int .i64 u13.k, .int .i64 u13.a, .int .i64 u13.b]]) hf rfl ff_96 (F96 _ u13)) ?_; rintro a _ w5 ⟨A19, c19, rfl, ho19, hE⟩ hf
  replace ho19 := ho19.lower hW.size
  replace hB18 := hB18.below hE
  replace ho9 := ho9.below hE
  replace hr_l := hr_l.below hE
  replace hW := hW.trans (hE.mono hW.size)
  clear hE
  refine l_eff hf trivial rfl rfl (ef_append (enc := encI) (l := (m)) (l2 := ((qubI u13))) (B0 := w0.heap.size) hf rfl rfl sl_36 inf_3 encI_len encI_one ho9 ho19.rd (by simp only [maxLen]; omega) (by omega) hW.size) ?_; rintro a _ w6 ⟨A20, c20, rfl, ho20, hg, hat⟩ hf
  have hown : Own _ w0.heap.size 3 1 encI _ _ (m) := ho9
  clear hat
  replace hB18 := hB18.appT hown hg rfl
  replace hr_l := hr_l.appT hown hg rfl
  replace hW := Below.app hW hown hg (Nat.le_refl _) hW.size
  clear hown hg
  refine l_ev hf trivial rfl rfl (ev_assign hf rfl) ?_; intro a hf
  refine wpList_nil ?_
  refine x_norm ?_
  refine hK14 _ _ ?_; try clear hK14 K14
  refine wp_region_lit ?_
  refine l_ev hf trivial rfl rfl (ev_addx hf rfl rfl (by omega) (by omega)) ?_; intro a hf
  refine l_ev hf trivial rfl rfl (ev_move hf rfl) ?_; intro a hf
  refine wpList_nil ?_
  refine x_thenN ?_
  exact ⟨(k + 1, m ++ qubI u13), ⟨A20, c20, hf.sub ⟨rfl, rfl, rfl, rfl, trivial⟩, (by omega), (by rw [hst, hm]), ho20, hr_l, hW⟩, (by first | omega | (dsimp only; omega))⟩
 ·have hc12b := hc12
  have hc12 := of_decide_eq_false hc12
  refine wp_exit ?_
  refine x_exS ?_
  refine x_exS ?_
  refine x_exit ?_
  refine hK7 _ _ ?_; try clear hK7 K7
  refine wp_seq_k ?_; intro K21 hK21
  refine wp_region_lit ?_
  refine l_ev hf trivial rfl rfl (ev_move hf rfl) ?_; intro a hf
  refine l_eff hf trivial rfl rfl (ef_call (vs := [.slice A9 m.length c9, .slice none 0 0]) hf rfl ff_47 (F47 _ A9 c9 m ho9.rd.top none 0 ([] : List Int) (Rd.nil _ _ _ _ _) (by have := flat_qub (l.take k); have := List.length_take_le k l; rw [hm]; omega) (by simp))) ?_; rintro a _ w7 ⟨A23, c23, rfl, ho23, hE⟩ hf
  replace ho23 := ho23.lower hW.size
  replace ho9 := ho9.below hE
  replace hr_l := hr_l.below hE
  replace hW := hW.trans (hE.mono hW.size)
  clear hE
  refine l_ev hf trivial rfl rfl (ev_assign hf rfl) ?_; intro a hf
  refine wpList_nil ?_
  refine hK21 _ _ ?_; try clear hK21 K21
  refine wp_ret ?_
  refine c_ret hf (res1 hf rfl rfl) ?_
  have hfin : usedI l = unionI m [] := by rw [usedI, hm, flat_full _ (show l.length ≤ k by omega)]
  rw [hfin]
  exact ⟨A23, c23, rfl, ho23, hW⟩
end Go.Proofs.YtfgnmflfiobkmaaGreat
