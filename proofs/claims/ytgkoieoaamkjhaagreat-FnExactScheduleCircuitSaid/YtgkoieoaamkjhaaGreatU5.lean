/-
  What is proved: for every circuit and every list of layers, the program's ScheduleCircuit returns what the reference's returns, leaves its arguments as they were, and returns memory of its own. Conditions: none.
-/
import Derived.Test.YtgkoieoaamkjhaaGreatU4
import Derived.Test.YtgkoieoaamkjhaaGreatU2
import Derived.Deep.Strs
import Derived.WalkKit
import Derived.ProofKit
import Derived.OpenShut
import Derived.Deep.Slices
import Derived.Deep.Fields
import Derived.ChangeSame
import Derived.Lib.SmallJoins
import Derived.Test.YtgkoieoaamkjhaaGreatU3
import Derived.Test.YtgkoieoaamkjhaaGreatRows
set_option linter.unusedVariables false
set_option linter.unusedSimpArgs false
set_option maxRecDepth 4000
namespace Go.Proofs.YtgkoieoaamkjhaaGreat
open Go.RowKit
theorem F70(w0:World)(c:Cx)(A:Option Addr)(cc:Nat)(hr_c:Rd w0 w0.heap.size 55 encG A c.gs)(kf:FuncId)(pf:List Value)(Ff:FuncF Tryz.prog kf)(k1 k2 key:Int→Int)(n:Int)(hn:n=(c.gs.length:Int))(hkey:∀ x w,0≤x→x<n→Below w0.heap.size w0 w→Ret Tryz.prog kf ([vi x]++pf) w (fun v w'=>v=.tuple #[vi (k1 x),vi (k2 x)]∧Below w.heap.size w w'))(hkb:∀ x,0≤x→x<n→0≤k1 x∧k1 x≤1000000∧0≤k2 x∧k2 x≤1000000)(hck:Cmp key (cfun k1 k2) n)(hln:c.gs.length≤100000000) : Ret Tryz.prog 23 [.agg #[vi c.n,.slice A c.gs.length cc],.func (.func kf) #[] pf.toArray] w0 (fun v w=>∃ A c1,v=.agg #[vi c.n,.slice A (sortG key c.gs).length c1]∧Own w w0.heap.size 55 3 encG A c1 (sortG key c.gs)∧Below w0.heap.size w0 w):=by
 refine enter Tryz.func23 rfl 46 rfl rfl ?_
 intro a hf
 have hW:Below w0.heap.size w0 w0:=Below.refl _ _
 refine Zs hf fun _ hK2=>?_
 refine Zf (X08 (zs:=[vi c.n,.slice A c.gs.length cc]) rfl rfl) ?_;rintro _ w1 ⟨b3,rfl,hl3,hE,hB3⟩
 have hlo3:=Nat.le_trans hW.size hl3
 replace hW:=btr hW hE
 refine Zf (X08 (zs:=[.func (.func kf) #[] pf.toArray]) rfl rfl) ?_;rintro _ w2 ⟨b4,rfl,hl4,hE,hB4⟩
 have hlo4:=Nat.le_trans hW.size hl4
 replace hB3:=hB3.below hE
 replace hW:=btr hW hE
 refine Zf (X8 (zs:=[vi 0,.slice none 0 0]) X5h rfl) ?_;rintro _ w3 ⟨b6,rfl,hl6,hE,hB6⟩
 have hne3_6:b3≠b6:=by have:=hB3.lt;omega
 have hlo6:=Nat.le_trans hW.size hl6
 replace hB3:=hB3.below hE
 replace hB4:=hB4.below hE
 replace hW:=btr hW hE
 refine Zt hK2 fun a hf=>?_
 refine Zs hf fun _ hK7=>?_
 refine Zf (Xn (k:=0) (vs:=[]) (zs:=[]) rfl Xj X1o rfl rfl) ?_;rintro _ w4 ⟨b8,rfl,hl8,hE,hB8⟩
 have hlo8:=Nat.le_trans hW.size hl8
 replace hB3:=hB3.below hE
 replace hB4:=hB4.below hE
 replace hB6:=hB6.below hE
 replace hW:=btr hW hE
 refine Za rfl ?_
 refine Zt hK7 fun a hf=>?_
 refine wp_seq_k fun _ hK10=>?_
 refine Zs hf fun _ hK11=>?_
 refine Ze (Vd rfl X0h 1)<|Ze (X0 rfl X18 (hB3.at 1))<|Ze (X0q rfl X07)<|Zm rfl ?_
 refine Zt hK11 fun a hf=>?_
 refine wp_block ?_
 refine Xt (σ:=Nat×(List Int)) (fun (s:Nat×(List Int)) (a:Act) (w:World)=>match s with|(k,m)=>∃ A12 c12,Fr a 46 [(2,.pointer (some ⟨b3,0,none⟩)),(3,.pointer (some ⟨b4,0,none⟩)),(4,.pointer (some ⟨b6,0,none⟩)),(5,.slice A12 m.length c12),(13,vi (c.gs.length:Int)),(14,vi (k:Int))]∧(k≤c.gs.length)∧(m=ran 0 k)∧Blk w b3 29 [vi c.n,.slice A c.gs.length cc]∧Blk w b4 51 [.func (.func kf) #[] pf.toArray]∧Blk w b6 29 [vi 0,.slice none 0 0]∧Own w w0.heap.size 3 1 encI A12 c12 m∧Below w0.heap.size w0 w) (fun (s:Nat×(List Int))=>match s with|(k,m)=>c.gs.length-k) (0,[]) ?_ ?_
 ·exact ⟨some ⟨b8,0,none⟩,0,hf.sub ⟨rfl,rfl,rfl,rfl,rfl,rfl,trivial⟩,(Nat.zero_le _),rfl,hB3,hB4,hB6,(Own.empty hB8 hlo8),hW⟩
 rintro ⟨k,m⟩ a w5 ⟨A12,c12,hf,hk,hm,hB3,hB4,hB6,ho12,hW⟩
 have hmk:m.length=k:=by rw [hm,X24];omega
 refine Zs hf fun _ hK13=>?_
 refine Ze (X06 rfl rfl) ?_
 refine Zt hK13 fun a hf=>?_
 refine wp_seq_k fun _ hK14=>?_
 refine Xd hf rfl (fun hc15=>?_) (fun hc15=>?_)
 ·have hc15b:=hc15
  have hc15:=of_decide_eq_true hc15
  obtain ⟨u16,hu16⟩:=Xi (l:=c.gs) (k:=k) (by omega)
  refine wp_skip ?_
  refine hK14 _ _ ?_
  refine wp_seq_k fun _ hK17=>?_
  refine wp_block ?_
  refine Zs hf fun _ hK18=>?_
  refine Zm rfl<|Za rfl ?_
  refine Zt hK18 fun a hf=>?_
  refine Zr hf ?_
  refine Zm rfl<|Zm rfl ?_
  refine Zf (Xn (k:=1) (vs:=[vi (k:Int)]) (zs:=[vi (k:Int)]) rfl Xj X1o rfl rfl) ?_;rintro _ w6 ⟨b19,rfl,hl19,hE,hB19⟩
  have hlo19:=Nat.le_trans hW.size hl19
  have haw12_19:=ho12.away hl19
  replace hB3:=hB3.below hE
  replace hB4:=hB4.below hE
  replace hB6:=hB6.below hE
  replace ho12:=ho12.below hE
  replace hW:=btr hW hE
  refine Zf (X1d (enc:=encI) (l:=(m)) (l2:=([(k:Int)])) (B0:=w0.heap.size) rfl rfl Xj X1o X7 X20 ho12 (Rd.of_blk hB19 rfl _ hB19.lt) (by simp only [maxLen];simp;omega) (by simp;omega) hW.size) ?_;rintro _ w7 ⟨A21,c21,rfl,ho21,hg,hat⟩
  have hown:Own _ w0.heap.size 3 1 encI _ _ (m):=ho12
  have haw21_19:=hat _ hB19.lt haw12_19
  clear hat
  replace hB3:=hB3.appT hown hg rfl
  replace hB4:=hB4.appT hown hg rfl
  replace hB6:=hB6.appT hown hg rfl
  replace hW:=Below.app hW hown hg (Nat.le_refl _) hW.size
  clear hown hg
  refine Za rfl ?_
  refine Zn fun a hf=>?_
  refine Xh ?_
  refine hK17 _ _ ?_
  refine Zr hf ?_
  refine Ze (Xp rfl rfl (by omega) (by omega))<|Zm rfl ?_
  refine Zn fun a hf=>?_
  refine Xg ?_
  exact ⟨(k+1,m++[(k:Int)]),⟨A21,c21,hf.sub ⟨rfl,rfl,rfl,rfl,rfl,rfl,trivial⟩,(by omega),(by rw [hm,X6c (Nat.zero_le k)]),hB3,hB4,hB6,ho21,hW⟩,(by first|omega|(dsimp only;omega))⟩
 have hc15b:=hc15
 have hc15:=of_decide_eq_false hc15
 have hkl:k=c.gs.length:=by omega
 have hml:m.length=c.gs.length:=by rw [hm,X24];omega
 refine wp_exit ?_
 refine Xf ?_
 refine Xf ?_
 refine Xs ?_
 refine hK10 _ _ ?_
 refine Zs hf fun _ hK22=>?_
 refine Zm rfl<|Ze (X2c (vs:=[.pointer (some ⟨b4,0,none⟩)]) rfl) ?_
 refine Zf (Vc (Xne _ w0.heap.size A12 c12 m ho12 43 [.pointer (some ⟨b4,0,none⟩)] Xit (cfun k1 k2) key n (fun x y w' a1 a2 a3 a4 hg'=>Xm8 w' b4 kf pf Ff (hB4.appT ho12 hg' rfl) k1 k2 n (fun x w2 b1 b2 hE2=>hkey x w2 b1 b2 (btr (Below.app hW ho12 hg' (Nat.le_refl _) hW.size) hE2)) hkb x y a1 a2 a3 a4) hck c.gs.length (by rw [hm,hkl]) (by omega) (by omega)) Xjg) ?_;rintro _ w8 ⟨hnew,hg⟩
 have hown:=ho12
 replace hB3:=hB3.appT hown hg rfl
 replace hB4:=hB4.appT hown hg rfl
 replace hB6:=hB6.appT hown hg rfl
 replace hW:=Below.app hW hown hg (Nat.le_refl _) hW.size
 clear hown hg;clear ho12;have ho12:=hnew;clear hnew
 refine Zt hK22 fun a hf=>?_
 refine Zs hf fun _ hK23=>?_
 refine Ze (Vd rfl X1y 0)<|Ze (X0 rfl X3 (hB3.at 0))<|Ze (Xr (ps:=[(0,vi c.n)]) (cs:=[vi c.n,.slice none 0 0]) rfl (fun _=>by first|rfl|kernel_rfl)) ?_
 refine Zf (X8 (zs:=[vi 0,.slice none 0 0]) X5h rfl) ?_;rintro _ w9 ⟨b26,rfl,hl26,hE,hB26⟩
 have hne3_26:b3≠b26:=by have:=hB3.lt;omega
 have hne6_26:b6≠b26:=by have:=hB6.lt;omega
 have hlo26:=Nat.le_trans hW.size hl26
 replace hB3:=hB3.below hE
 replace hB6:=hB6.below hE
 replace ho12:=ho12.below hE
 replace hW:=btr hW hE
 refine Zo (Vw [vi c.n,.slice none 0 0] X2l hB26) ?_;rintro _ w10 ⟨ho,hb⟩
 have hold:=hB26
 replace hB3:=hB3.only ho (by omega)
 replace hB6:=hB6.only ho (by omega)
 replace ho12:=ho12.onlyT ho hold rfl
 replace hW:=Below.only hW ho hlo26
 clear hold
 have hB26:=hb
 clear hb ho
 refine Zt hK23 fun a hf=>?_
 refine wp_seq_k fun _ hK27=>?_
 refine Zs hf fun _ hK28=>?_
 refine Zm rfl<|Ze (X0q rfl Xj)<|Zm rfl ?_
 refine Zt hK28 fun a hf=>?_
 refine wp_block ?_
 refine Xt (σ:=Nat×(List Gt)) (fun (s:Nat×(List Gt)) (a:Act) (w:World)=>match s with|(k,g)=>∃ A29 c29,Fr a 46 [(2,.pointer (some ⟨b3,0,none⟩)),(4,.pointer (some ⟨b6,0,none⟩)),(7,.pointer (some ⟨b26,0,none⟩)),(28,.slice A12 m.length c12),(29,vi (m.length:Int)),(30,vi (k:Int))]∧(k≤c.gs.length)∧(g=((srtF key c.gs.length).take k).map (gateAt c.gs))∧Blk w b3 29 [vi c.n,.slice A c.gs.length cc]∧Blk w b6 29 [vi 0,.slice none 0 0]∧Blk w b26 29 [vi c.n,.slice A29 g.length c29]∧Own w w0.heap.size 3 1 encI A12 c12 (srtF key c.gs.length)∧Own w w0.heap.size 55 3 encG A29 c29 g∧Below w0.heap.size w0 w) (fun (s:Nat×(List Gt))=>match s with|(k,g)=>c.gs.length-k) (0,[]) ?_ ?_
 ·exact ⟨none,0,hf.sub ⟨rfl,rfl,rfl,rfl,rfl,rfl,trivial⟩,(Nat.zero_le _),rfl,hB3,hB6,hB26,ho12,(Own.nil _ _ _ _ _),hW⟩
 rintro ⟨k,g⟩ a w11 ⟨A29,c29,hf,hk,hg,hB3,hB6,hB26,ho12,ho29,hW⟩
 have hgk:g.length=k:=by rw [hg,List.length_map,List.length_take,X17];omega
 refine Zs hf fun _ hK30=>?_
 refine Ze (X06 rfl rfl) ?_
 refine Zt hK30 fun a hf=>?_
 refine wp_seq_k fun _ hK31=>?_
 refine Xd hf rfl (fun hc32=>?_) (fun hc32=>?_)
 ·have hc32b:=hc32
  have hc32:=of_decide_eq_true hc32
  obtain ⟨u33,hu33⟩:=Xi (l:=m) (k:=k) (by omega)
  have hxm:=X9x (X26 (l:=srtF key c.gs.length) (k:=k) (by rw [X17];omega))
  refine wp_skip ?_
  refine hK31 _ _ ?_
  refine wp_seq_k fun _ hK34=>?_
  refine wp_block ?_
  refine Zs hf fun _ hK35=>?_
  refine Zj (k:=k) (u:=((srtF key c.gs.length).getD k 0)) (enc:=encI) (l:=(srtF key c.gs.length)) trivial rfl (by rw [X17];omega) rfl Xj X0a X7 ho12.rd (X10 (by rw [X17];omega)) rfl ?_;intro p37 hat36
  refine Ze (X0 rfl X3 hat36)<|Za rfl ?_
  refine Zt hK35 fun a hf=>?_
  refine Xw none (fun j=>[8,10].contains j) mixed ?_
  intro w12 hE
  replace hB3:=hB3.below hE
  replace hB6:=hB6.below hE
  replace hB26:=hB26.below hE
  replace ho12:=ho12.below hE
  replace ho29:=ho29.below hE
  replace hW:=btr hW hE
  refine Yb hf ?_
  refine Yo 0 rfl (fun _=>Vd rfl X0h 1)<|Ye 1 rfl (X0 rfl X18 (hB26.at 1))<|Yo 2 rfl (fun _=>Vd rfl X0h 1)<|Ye 3 rfl (X0 rfl X18 (hB3.at 1))<|Yo 4 rfl (fun _=>X2 rfl) ?_
  refine Yi (k:=((srtF key c.gs.length).getD k 0).toNat) (u:=(c.gs.getD ((srtF key c.gs.length).getD k 0).toNat gZ)) (enc:=encG) (l:=c.gs) 5 rfl trivial rfl rfl X07 X0b Xx (hr_c.below' hW) (X8z (by omega)) (by omega) ?_;intro p39 hat38
  refine Ye 6 rfl (Xz (l:=[vi ((c.gs.getD ((srtF key c.gs.length).getD k 0).toNat gZ).k),vi ((c.gs.getD ((srtF key c.gs.length).getD k 0).toNat gZ).a),vi ((c.gs.getD ((srtF key c.gs.length).getD k 0).toNat gZ).b)]) rfl Xu hat38 rfl) ?_
  refine Y1 7 ?_
  refine Yk rfl trivial (Xn (k:=1) (vs:=[.agg #[vi ((c.gs.getD ((srtF key c.gs.length).getD k 0).toNat gZ).k),vi ((c.gs.getD ((srtF key c.gs.length).getD k 0).toNat gZ).a),vi ((c.gs.getD ((srtF key c.gs.length).getD k 0).toNat gZ).b)]]) (zs:=[vi ((c.gs.getD ((srtF key c.gs.length).getD k 0).toNat gZ).k),vi ((c.gs.getD ((srtF key c.gs.length).getD k 0).toNat gZ).a),vi ((c.gs.getD ((srtF key c.gs.length).getD k 0).toNat gZ).b)]) rfl X07 X1c rfl rfl) (fun _ _ ⟨_,_,_,h,_⟩=>h) ?_;rintro _ w13 ⟨b40,rfl,hl40,hE,hB40⟩
  have hlo40:=Nat.le_trans hW.size hl40
  have haw1_40:=(hr_c.below' hW).away hl40
  have haw29_40:=ho29.away hl40
  replace hB3:=hB3.below hE
  replace hB6:=hB6.below hE
  replace hB26:=hB26.below hE
  replace ho12:=ho12.below hE
  replace ho29:=ho29.below hE
  replace hW:=btr hW hE
  refine Y1 8 ?_
  refine Yt rfl trivial rfl (X1d (enc:=encG) (l:=(g)) (l2:=([(c.gs.getD ((srtF key c.gs.length).getD k 0).toNat gZ)])) (B0:=w0.heap.size) rfl rfl X07 X1c Xx X2u ho29 (Rd.of_blk hB40 rfl _ hB40.lt) (by simp only [maxLen];simp;omega) (by simp;omega) hW.size) ?_;rintro _ w14 ⟨A42,c42,rfl,ho42,hg,hat⟩
  have hown:Own _ w0.heap.size 55 3 encG _ _ (g):=ho29
  have haw42_40:=hat _ hB40.lt haw29_40
  clear hat
  replace hB3:=hB3.appT hown hg rfl
  replace hB6:=hB6.appT hown hg rfl
  replace hB26:=hB26.appT hown hg rfl
  replace ho12:=ho12.appT hown hg rfl
  replace hW:=Below.app hW hown hg (Nat.le_refl _) hW.size
  clear hown hg
  refine Yo 9 rfl (fun _=>Vd rfl X0h 1) ?_
  refine Y1 10 ?_
  refine Yh rfl trivial rfl (Vu (vs:=[.slice A42 (g++([(c.gs.getD ((srtF key c.gs.length).getD k 0).toNat gZ)])).length c42]) (l':=[vi c.n,.slice A42 (g++([(c.gs.getD ((srtF key c.gs.length).getD k 0).toNat gZ)])).length c42]) rfl rfl Xda hB26) ?_;rintro _ w15 ⟨ho,hb⟩
  have hold:=hB26
  replace hB3:=hB3.only ho (by omega)
  replace hB6:=hB6.only ho (by omega)
  replace ho12:=ho12.onlyT ho hold rfl
  replace ho42:=ho42.onlyT ho hold rfl
  replace hW:=Below.only hW ho hlo26
  clear hold
  have hB26:=hb
  clear hb ho
  refine Yd fun a hf=>?_
  refine Xh ?_
  refine hK34 _ _ ?_
  refine Zr hf ?_
  refine Ze (Xp rfl rfl (by omega) (by omega))<|Zm rfl ?_
  refine Zn fun a hf=>?_
  refine Xg ?_
  exact ⟨(k+1,g++([(c.gs.getD ((srtF key c.gs.length).getD k 0).toNat gZ)])),⟨A42,c42,hf.sub ⟨rfl,rfl,rfl,rfl,rfl,rfl,trivial⟩,(by omega),(Xaa (by omega) rfl hg),hB3,hB6,hB26,ho12,ho42,hW⟩,(by first|omega|(dsimp only;omega))⟩
 have hc32b:=hc32
 have hc32:=of_decide_eq_false hc32
 have hkl:k=c.gs.length:=by omega
 have hfin:g=sortG key c.gs:=by rw [hg,hkl,List.take_of_length_le (by rw [X17];exact Nat.le_refl _)];rfl
 refine wp_exit ?_
 refine Xf ?_
 refine Xf ?_
 refine Xs ?_
 refine hK27 _ _ ?_
 refine Zs hf fun _ hK43=>?_
 refine Ze (Vn X12 hB26) ?_
 refine Zo (Vw [vi c.n,.slice A29 g.length c29] X2l hB6) ?_;rintro _ w16 ⟨ho,hb⟩
 have hold:=hB6
 replace hB3:=hB3.only ho (by omega)
 replace hB26:=hB26.only ho (by omega)
 replace ho12:=ho12.onlyT ho hold rfl
 replace ho29:=ho29.onlyT ho hold rfl
 replace hW:=Below.only hW ho hlo6
 clear hold
 have hB6:=hb
 clear hb ho
 refine Zt hK43 fun a hf=>?_
 refine wp_ret (X5 hf (Xl hf rfl (ResV.cellN (l:=[vi c.n,.slice A29 g.length c29]) rfl X12 (hB6.at 0) rfl)) ?_)
 rw [hfin] at ho29
 exact ⟨_,_,by rw [hfin],ho29,hW⟩
end Go.Proofs.YtgkoieoaamkjhaaGreat
set_option maxRecDepth 4000
namespace Go.Proofs.YtgkoieoaamkjhaaGreat
open Go.RowKit
theorem F32(w0:World)(c:Cx)(Ac:Option Addr)(cc:Nat)(hr_c:Rd w0 w0.heap.size 55 encG Ac c.gs)(Ay:Option Addr)(cy:Nat)(y:List Int)(hr_y:Rd w0 w0.heap.size 3 encI Ay y)(hln:c.gs.length≤100000000) : Ret Tryz.prog 9 [.agg #[vi c.n,.slice Ac c.gs.length cc],.slice Ay y.length cy] w0 (fun v w=>∃ A c1,v=.tuple #[.agg #[vi ((scO c y).getD cZ).n,.slice A ((scO c y).getD cZ).gs.length c1],.bool (scO c y).isSome]∧Own w w0.heap.size 55 3 encG A c1 ((scO c y).getD cZ).gs∧Below w0.heap.size w0 w):=by
 refine enter Tryz.func9 rfl 26 rfl rfl ?_
 intro a hf
 have hW:Below w0.heap.size w0 w0:=Below.refl _ _
 refine Zs hf fun _ hK3=>?_
 refine Zf (X08 (zs:=[vi c.n,.slice Ac c.gs.length cc]) rfl rfl) ?_;rintro _ w1 ⟨b4,rfl,hl4,hE,hB4⟩
 have hlo4:=Nat.le_trans hW.size hl4
 replace hW:=btr hW hE
 refine Zf (X08 (zs:=[.slice Ay y.length cy]) rfl rfl) ?_;rintro _ w2 ⟨b5,rfl,hl5,hE,hB5⟩
 have hlo5:=Nat.le_trans hW.size hl5
 replace hB4:=hB4.below hE
 replace hW:=btr hW hE
 refine Zf (X8 (zs:=[vi 0,.slice none 0 0]) X5h rfl) ?_;rintro _ w3 ⟨b7,rfl,hl7,hE,hB7⟩
 have hne4_7:b4≠b7:=by have:=hB4.lt;omega
 have hlo7:=Nat.le_trans hW.size hl7
 replace hB4:=hB4.below hE
 replace hB5:=hB5.below hE
 replace hW:=btr hW hE
 refine Za rfl ?_
 refine Zt hK3 fun a hf=>?_
 refine wp_seq_k fun _ hK8=>?_
 refine Zs hf fun _ hK9=>?_
 refine Ze (Vn X12 hB4)<|Ze (X0 rfl Xb9 (hB5.at 0)) ?_
 refine Zf (Vc (F18 _ c Ac cc (hr_c.below' hW).top Ay cy y (hr_y.below' hW).top (Nat.le_trans hln (by decide))) Xla) ?_;rintro _ w4 ⟨rfl,hE⟩
 replace hB4:=hB4.below hE
 replace hB5:=hB5.below hE
 replace hB7:=hB7.below hE
 replace hW:=btr hW hE
 refine Zm rfl<|Ze (X9 (vs:=[vi ((implC c y).1),vi ((implC c y).2.1),.bool ((implC c y).2.2)]) rfl rfl)<|Ze (X9 (vs:=[vi ((implC c y).1),vi ((implC c y).2.1),.bool ((implC c y).2.2)]) rfl rfl)<|Ze (X9 (vs:=[vi ((implC c y).1),vi ((implC c y).2.1),.bool ((implC c y).2.2)]) rfl rfl)<|Za rfl ?_
 refine Za rfl<|Za rfl ?_
 refine Zt hK9 fun a hf=>?_
 refine wp_seq_k fun _ hK10=>?_
 refine Xy (fun a w=>Fr a 26 [(2,.pointer (some ⟨b4,0,none⟩)),(3,.pointer (some ⟨b5,0,none⟩)),(4,.pointer (some ⟨b7,0,none⟩)),(21,.bool ((!((implC c y).2.2))||(((implC c y).1) != 0)))]∧w4=w) ?_ ?_
 ·refine Zr hf ?_
  refine Zm rfl<|Ze (X0u rfl)<|Zm rfl ?_
  refine Zg 18 rfl (fun hg11=>?_) (fun hg11=>?_)
  ·refine Zp ⟨_,_,rfl,rfl,hg11⟩ ?_
   refine Zp ⟨_,_,rfl,rfl,hg11⟩ ?_
   refine Ze (Xe rfl hg11 rfl) ?_
   refine Zn fun a hf=>?_
   exact ⟨hf.sub ⟨rfl,rfl,rfl,X1 rfl (by first|rfl|(simp only [hg11,bs];done)|simp [hg11]),trivial⟩,rfl⟩
  refine Zv ⟨_,_,rfl,rfl,hg11⟩ (X2 rfl) ?_
  refine Zv ⟨_,_,rfl,rfl,hg11⟩ (X1e rfl rfl) ?_
  refine Ze (Xa rfl hg11 rfl) ?_
  refine Zn fun a hf=>?_
  exact ⟨hf.sub ⟨rfl,rfl,rfl,X1 rfl (by first|rfl|(simp only [hg11,bs];done)|simp [hg11]),trivial⟩,rfl⟩
 rintro a _ ⟨hf,rfl⟩
 refine hK10 _ _ ?_
 refine Xd hf rfl (fun hc12=>?_) (fun hc12=>?_)
 ·have hc12b:=hc12
  have hfin:scO c y=none:=by
   refine X67 ?_
   obtain ⟨e1,e2⟩:=X71 (c:=c) (s:=y)
   cases hcc:cOk c
   ·exact Or.inl rfl
   ·rw [e1,e2,hcc] at hc12
    exact Or.inr (by simpa using hc12)
  refine Zs hf fun _ hK13=>?_
  refine Ze (Xr (ps:=[]) (cs:=[vi 0,.slice none 0 0]) rfl (fun _=>by first|rfl|kernel_rfl)) ?_
  refine Zo (Vw [vi 0,.slice none 0 0] X2l hB7) ?_;rintro _ w5 ⟨ho,hb⟩
  have hold:=hB7
  replace hB4:=hB4.only ho (by omega)
  replace hB5:=hB5.only ho (Blk.ne hB5 hold rfl)
  replace hW:=Below.only hW ho hlo7
  clear hold
  have hB7:=hb
  clear hb ho
  refine Za rfl ?_
  refine Zt hK13 fun a hf=>?_
  refine wp_ret ?_
  refine X4 ?_
  refine X5 hf (X0z hf rfl (ResV.cellN (l:=[vi 0,.slice none 0 0]) rfl X12 (hB7.at 0) rfl) rfl) ?_
  rw [hfin]
  exact ⟨none,0,rfl,(Own.nil _ _ _ _ _),hW⟩
 have hc12b:=hc12
 have hcc:cOk c=true∧(schedS c.gs y).1=0:=by
  obtain ⟨e1,e2⟩:=X71 (c:=c) (s:=y)
  rw [e1,e2] at hc12
  cases hcc:cOk c
  ·rw [hcc] at hc12;simp at hc12
  ·rw [hcc] at hc12;exact ⟨rfl,by simpa using hc12⟩
 obtain ⟨hco,hcs⟩:=hcc
 have hfin:=X97 hco hcs
 have hyl:=(X31 hcs).1
 refine wp_skip ?_
 refine hK8 _ _ ?_
 refine Zs hf fun _ hK15=>?_
 refine Ze (Vn X12 hB4)<|Ze (X2c (vs:=[.pointer (some ⟨b5,0,none⟩)]) rfl) ?_
 refine Zf (Vc (F70 _ c Ac cc (hr_c.below' hW).top 24 [.pointer (some ⟨b5,0,none⟩)] Xkc (keyS y) (fun _=>0) (keyS y) (c.gs.length:Int) rfl (fun x w' a1 a2 hE'=>F71 w' b5 Ay cy y (hB5.below hE') ((hr_y.below' (hW.trans (hE'.mono hW.size))).top) x a1 (by rw [hyl];exact a2)) (X8p hcs) Xdn (by omega)) Xl4) ?_;rintro _ w6 ⟨A16,c16,rfl,ho16,hE⟩
 replace ho16:=ho16.lower hW.size
 replace hB4:=hB4.below hE
 replace hB5:=hB5.below hE
 replace hB7:=hB7.below hE
 replace hW:=btr hW hE
 refine Zo (Vw [vi c.n,.slice A16 (sortG (keyS y) c.gs).length c16] X2l hB7) ?_;rintro _ w7 ⟨ho,hb⟩
 have hold:=hB7
 replace hB4:=hB4.only ho (by omega)
 replace hB5:=hB5.only ho (Blk.ne hB5 hold rfl)
 replace ho16:=ho16.onlyT ho hold rfl
 replace hW:=Below.only hW ho hlo7
 clear hold
 have hB7:=hb
 clear hb ho
 refine Za rfl ?_
 refine Zt hK15 fun a hf=>?_
 refine wp_ret (X5 hf (X0z hf rfl (ResV.cellN (l:=[vi c.n,.slice A16 (sortG (keyS y) c.gs).length c16]) rfl X12 (hB7.at 0) rfl) rfl) ?_)
 rw [hfin]
 exact ⟨A16,c16,rfl,ho16,hW⟩
end Go.Proofs.YtgkoieoaamkjhaaGreat
set_option maxRecDepth 4000
namespace Go.Proofs.YtgkoieoaamkjhaaGreat
open Go.RowKit
theorem F69(w0:World)(c:Cx)(Ac:Option Addr)(cc:Nat)(hr_c:Rd w0 w0.heap.size 55 encG Ac c.gs)(Ay:Option Addr)(cy:Nat)(y:List Int)(hr_y:Rd w0 w0.heap.size 3 encI Ay y)(hls:y.length=c.gs.length)(hln:c.gs.length≤100000000) : Ret Tryz.prog 20 [.agg #[vi c.n,.slice Ac c.gs.length cc],.slice Ay y.length cy] w0 (fun v w=>∃ A c1,v=.agg #[vi (sortC (keyS y) c).n,.slice A (sortC (keyS y) c).gs.length c1]∧Own w w0.heap.size 55 3 encG A c1 (sortC (keyS y) c).gs∧Below w0.heap.size w0 w):=by
 refine enter Tryz.func20 rfl 84 rfl rfl ?_
 intro a hf
 have hW:Below w0.heap.size w0 w0:=Below.refl _ _
 refine Zs hf fun _ hK3=>?_
 refine Zf (X08 (zs:=[vi c.n,.slice Ac c.gs.length cc]) rfl rfl) ?_;rintro _ w1 ⟨b4,rfl,hl4,hE,hB4⟩
 have hlo4:=Nat.le_trans hW.size hl4
 replace hW:=btr hW hE
 refine Zf (X8 (zs:=[vi 0,.slice none 0 0]) X5h rfl) ?_;rintro _ w2 ⟨b6,rfl,hl6,hE,hB6⟩
 have hne4_6:b4≠b6:=by have:=hB4.lt;omega
 have hlo6:=Nat.le_trans hW.size hl6
 replace hB4:=hB4.below hE
 replace hW:=btr hW hE
 refine Zt hK3 fun a hf=>?_
 refine Zs hf fun _ hK7=>?_
 refine Ze (Vd rfl X1y 0)<|Ze (X0 rfl X3 (hB4.at 0))<|Ze (Xr (ps:=[(0,vi c.n)]) (cs:=[vi c.n,.slice none 0 0]) rfl (fun _=>by first|rfl|kernel_rfl)) ?_
 refine Zf (X8 (zs:=[vi 0,.slice none 0 0]) X5h rfl) ?_;rintro _ w3 ⟨b10,rfl,hl10,hE,hB10⟩
 have hne4_10:b4≠b10:=by have:=hB4.lt;omega
 have hne6_10:b6≠b10:=by have:=hB6.lt;omega
 have hlo10:=Nat.le_trans hW.size hl10
 replace hB4:=hB4.below hE
 replace hB6:=hB6.below hE
 replace hW:=btr hW hE
 refine Zo (Vw [vi c.n,.slice none 0 0] X2l hB10) ?_;rintro _ w4 ⟨ho,hb⟩
 have hold:=hB10
 replace hB4:=hB4.only ho (by omega)
 replace hB6:=hB6.only ho (by omega)
 replace hW:=Below.only hW ho hlo10
 clear hold
 have hB10:=hb
 clear hb ho
 refine Zt hK7 fun a hf=>?_
 refine Zs hf fun _ hK11=>?_
 refine Za rfl ?_
 refine Zt hK11 fun a hf=>?_
 refine wp_seq_k fun _ hK13=>?_
 refine Zs hf fun _ hK14=>?_
 refine Ze (Vd rfl X0h 1)<|Ze (X0 rfl X18 (hB4.at 1))<|Ze (X0q rfl X07)<|Zm rfl ?_
 refine Zt hK14 fun a hf=>?_
 refine wp_block ?_
 refine Xt (σ:=Nat×(List Int)×(List Gt)) (fun (s:Nat×(List Int)×(List Gt)) (a:Act) (w:World)=>match s with|(k,q,gl)=>∃ A15 c15 A16 c16,Fr a 84 [(1,.slice Ay y.length cy),(4,.pointer (some ⟨b6,0,none⟩)),(5,.pointer (some ⟨b10,0,none⟩)),(6,.slice A15 q.length c15),(14,.slice Ac c.gs.length cc),(15,vi (c.gs.length:Int)),(16,vi (k:Int))]∧(k≤c.gs.length)∧(q=(srtF (keyS y) k).map (keyS y))∧(gl=(srtF (keyS y) k).map (gateAt c.gs))∧Blk w b6 29 [vi 0,.slice none 0 0]∧Blk w b10 29 [vi c.n,.slice A16 gl.length c16]∧Own w w0.heap.size 3 1 encI A15 c15 q∧Own w w0.heap.size 55 3 encG A16 c16 gl∧Below w0.heap.size w0 w) (fun (s:Nat×(List Int)×(List Gt))=>match s with|(k,q,gl)=>c.gs.length-k) (0,[],[]) ?_ ?_
 ·exact ⟨none,0,none,0,hf.sub ⟨rfl,rfl,rfl,rfl,rfl,rfl,rfl,trivial⟩,(Nat.zero_le _),rfl,rfl,hB6,hB10,(Own.nil _ _ _ _ _),(Own.nil _ _ _ _ _),hW⟩
 rintro ⟨k,q,gl⟩ a w5 ⟨A15,c15,A16,c16,hf,hk,hq,hg,hB6,hB10,ho15,ho16,hW⟩
 have hqk:q.length=k:=by rw [hq,List.length_map,X17]
 have hgk:gl.length=k:=by rw [hg,List.length_map,X17]
 refine Zs hf fun _ hK17=>?_
 refine Ze (X06 rfl rfl) ?_
 refine Zt hK17 fun a hf=>?_
 refine wp_seq_k fun _ hK18=>?_
 refine Xd hf rfl (fun hc19=>?_) (fun hc19=>?_)
 ·have hc19b:=hc19
  have hc19:=of_decide_eq_true hc19
  obtain ⟨u20,hu20⟩:=Xi (l:=c.gs) (k:=k) (by omega)
  have hgu:u20=gateAt c.gs (k:Int):=by rw [gateAt,Int.toNat_natCast,X3k hu20]
  have hyk:y.getD k 0=keyS y (k:Int):=by rw [keyS,Int.toNat_natCast]
  refine wp_skip ?_
  refine hK18 _ _ ?_
  refine wp_seq_k fun _ hK21=>?_
  refine wp_block ?_
  refine Zs hf fun _ hK22=>?_
  refine Zm rfl ?_
  refine Zi (k:=k) (u:=u20) (enc:=encG) (l:=c.gs) trivial rfl rfl X07 X0b Xx (hr_c.below' hW) hu20 rfl ?_;intro p24 hat23
  refine Ze (Xz (l:=[vi u20.k,vi u20.a,vi u20.b]) rfl Xu hat23 rfl) ?_
  refine Zf (X8 (zs:=[vi 0,vi 0,vi 0]) X3g rfl) ?_;rintro _ w6 ⟨b25,rfl,hl25,hE,hB25⟩
  have hlo25:=Nat.le_trans hW.size hl25
  have haw1_25:=(hr_c.below' hW).away hl25
  have haw16_25:=ho16.away hl25
  replace hB6:=hB6.below hE
  replace hB10:=hB10.below hE
  replace ho15:=ho15.below hE
  replace ho16:=ho16.below hE
  replace hW:=btr hW hE
  refine Za rfl ?_
  refine Zo (Vw [vi u20.k,vi u20.a,vi u20.b] X0b hB25) ?_;rintro _ w7 ⟨ho,hb⟩
  have hold:=hB25
  replace hB6:=hB6.only ho (Blk.ne hB6 hold rfl)
  replace hB10:=hB10.only ho (Blk.ne hB10 hold rfl)
  replace ho15:=ho15.onlyT ho hold rfl
  replace ho16:=ho16.onlyA ho haw16_25
  replace hW:=Below.only hW ho hlo25
  clear hold
  have hB25:=hb
  clear hb ho
  refine Zt hK22 fun a hf=>?_
  refine Zs hf fun _ hK26=>?_
  refine Zm rfl<|Ze (X0q rfl Xj)<|Za rfl ?_
  refine Zt hK26 fun a hf=>?_
  refine Zs hf fun _ hK27=>?_
  refine Zm rfl<|Zm rfl<|Zm rfl ?_
  refine Zi (k:=k) (u:=(y.getD k 0)) (enc:=encI) (l:=y) trivial rfl rfl Xj X0a X7 (hr_y.below' hW) (X10 (by omega)) rfl ?_;intro p29 hat28
  refine Ze (X0 rfl X3 hat28) ?_
  refine Zf (Xn (k:=1) (vs:=[vi (y.getD k 0)]) (zs:=[vi (y.getD k 0)]) rfl Xj X1o rfl rfl) ?_;rintro _ w8 ⟨b30,rfl,hl30,hE,hB30⟩
  have hlo30:=Nat.le_trans hW.size hl30
  have haw15_30:=ho15.away hl30
  have haw2_30:=(hr_y.below' hW).away hl30
  replace hB6:=hB6.below hE
  replace hB10:=hB10.below hE
  replace hB25:=hB25.below hE
  replace ho15:=ho15.below hE
  replace ho16:=ho16.below hE
  replace hW:=btr hW hE
  refine Zf (X1d (enc:=encI) (l:=(q)) (l2:=([(y.getD k 0)])) (B0:=w0.heap.size) rfl rfl Xj X1o X7 X20 ho15 (Rd.of_blk hB30 rfl _ hB30.lt) (by simp only [maxLen];simp;omega) (by simp;omega) hW.size) ?_;rintro _ w9 ⟨A32,c32,rfl,ho32,hg,hat⟩
  have hown:Own _ w0.heap.size 3 1 encI _ _ (q):=ho15
  have haw32_30:=hat _ hB30.lt haw15_30
  clear hat
  replace hB6:=hB6.appT hown hg rfl
  replace hB10:=hB10.appT hown hg rfl
  replace hB25:=hB25.appT hown hg rfl
  replace ho16:=ho16.appT hown hg rfl
  replace hW:=Below.app hW hown hg (Nat.le_refl _) hW.size
  clear hown hg
  refine Za rfl ?_
  refine Zt hK27 fun a hf=>?_
  refine Zs hf fun _ hK33=>?_
  refine Ze (Vd rfl X0h 1)<|Ze (X0 rfl X18 (hB10.at 1))<|Ze (Vn Xu hB25) ?_
  refine Zf (Xn (k:=1) (vs:=[.agg #[vi u20.k,vi u20.a,vi u20.b]]) (zs:=[vi u20.k,vi u20.a,vi u20.b]) rfl X07 X1c rfl rfl) ?_;rintro _ w10 ⟨b34,rfl,hl34,hE,hB34⟩
  have hne25_34:b25≠b34:=by have:=hB25.lt;omega
  have hlo34:=Nat.le_trans hW.size hl34
  have haw1_34:=(hr_c.below' hW).away hl34
  have haw16_34:=ho16.away hl34
  replace hB6:=hB6.below hE
  replace hB10:=hB10.below hE
  replace hB25:=hB25.below hE
  replace ho16:=ho16.below hE
  replace ho32:=ho32.below hE
  replace hW:=btr hW hE
  refine Zf (X1d (enc:=encG) (l:=(gl)) (l2:=([u20])) (B0:=w0.heap.size) rfl rfl X07 X1c Xx X2u ho16 (Rd.of_blk hB34 rfl _ hB34.lt) (by simp only [maxLen];simp;omega) (by simp;omega) hW.size) ?_;rintro _ w11 ⟨A36,c36,rfl,ho36,hg,hat⟩
  have hown:Own _ w0.heap.size 55 3 encG _ _ (gl):=ho16
  have haw36_25:=hat _ hB25.lt haw16_25
  have haw36_34:=hat _ hB34.lt haw16_34
  clear hat
  replace hB6:=hB6.appT hown hg rfl
  replace hB10:=hB10.appT hown hg rfl
  replace hB25:=hB25.appA hg haw16_25
  replace ho32:=ho32.appT hown hg rfl
  replace hW:=Below.app hW hown hg (Nat.le_refl _) hW.size
  clear hown hg
  refine Ze (Vd rfl X0h 1) ?_
  refine Zo (Vu (vs:=[.slice A36 (gl++([u20])).length c36]) (l':=[vi c.n,.slice A36 (gl++([u20])).length c36]) rfl rfl Xda hB10) ?_;rintro _ w12 ⟨ho,hb⟩
  have hold:=hB10
  replace hB6:=hB6.only ho (by omega)
  replace hB25:=hB25.only ho (Blk.ne hB25 hold rfl)
  replace ho32:=ho32.onlyT ho hold rfl
  replace ho36:=ho36.onlyT ho hold rfl
  replace hW:=Below.only hW ho hlo10
  clear hold
  have hB10:=hb
  clear hb ho
  refine Zt hK33 fun a hf=>?_
  refine wp_seq_k fun _ hK37=>?_
  refine wp_block ?_
  refine Xt (σ:=Int×Nat×(List Int)×(List Gt)) (fun (s:Int×Nat×(List Int)×(List Gt)) (a:Act) (w:World)=>match s with|(jz,j,q2,g2)=>Fr a 84 [(1,.slice Ay y.length cy),(4,.pointer (some ⟨b6,0,none⟩)),(5,.pointer (some ⟨b10,0,none⟩)),(6,.slice A32 (q++([(y.getD k 0)])).length c32),(7,vi (k:Int)),(8,.pointer (some ⟨b25,0,none⟩)),(9,vi jz),(14,.slice Ac c.gs.length cc),(15,vi (c.gs.length:Int)),(16,vi (k:Int))]∧(jz=(j:Int))∧(j≤k)∧(InsR (keyS y) k q2 c.gs g2 j)∧Blk w b6 29 [vi 0,.slice none 0 0]∧Blk w b10 29 [vi c.n,.slice A36 (gl++([u20])).length c36]∧Blk w b25 55 [vi u20.k,vi u20.a,vi u20.b]∧Own w w0.heap.size 3 1 encI A32 c32 q2∧Own w w0.heap.size 55 3 encG A36 c36 g2∧Below w0.heap.size w0 w) (fun (s:Int×Nat×(List Int)×(List Gt))=>match s with|(jz,j,q2,g2)=>j) ((q.length:Int),k,(q++[y.getD k 0]),(gl++[u20])) ?_ ?_
  ·exact ⟨hf.sub ⟨rfl,rfl,rfl,rfl,rfl,rfl,rfl,rfl,rfl,rfl,trivial⟩,(by omega),(Nat.le_refl _),(Xak hq hg),hB6,hB10,hB25,ho32,ho36,hW⟩
  rintro ⟨jz,j,q2,g2⟩ a w13 ⟨hf,hjz,hjk,hI,hB6,hB10,hB25,ho32,ho36,hW⟩
  have hq2:=hI.hq.hl
  have hg2:=hI.hg.hl
  rw [X17] at hq2 hg2
  refine wp_seq_k fun _ hK38=>?_
  refine wp_seq_k fun _ hK39=>?_
  refine Xy (fun a w=>Fr a 84 [(1,.slice Ay y.length cy),(4,.pointer (some ⟨b6,0,none⟩)),(5,.pointer (some ⟨b10,0,none⟩)),(6,.slice A32 (q++([(y.getD k 0)])).length c32),(7,vi (k:Int)),(8,.pointer (some ⟨b25,0,none⟩)),(9,vi jz),(14,.slice Ac c.gs.length cc),(15,vi (c.gs.length:Int)),(16,vi (k:Int)),(49,.bool ((decide (0<jz))&&(decide ((y.getD k 0)<(keyS y ((srtF (keyS y) k).getD (j-1) 0))))))]∧Below w13.heap.size w13 w) ?_ ?_
  ·have hEc:Below w13.heap.size w13 w13:=Below.refl _ _
   refine Xw none (fun _=>false) mixed ?_
   intro w14 hE
   replace hB6:=hB6.below hE
   replace hB10:=hB10.below hE
   replace hB25:=hB25.below hE
   replace ho32:=ho32.below hE
   replace ho36:=ho36.below hE
   replace hW:=btr hW hE
   replace hEc:=btr hEc hE
   refine Yb hf ?_
   refine Yo 0 rfl (fun _=>X2 rfl)<|Yo 1 rfl (fun _=>X5i rfl rfl)<|Yo 2 rfl (fun _=>X2 rfl) ?_
   refine Yl 38 rfl (fun hg40=>?_) (fun hg40=>?_)
   ·refine Yu 3 rfl ⟨_,_,rfl,rfl,hg40⟩ (fun _=>X2 rfl) ?_
    refine Yu 4 rfl ⟨_,_,rfl,rfl,hg40⟩ (fun _=>X2 rfl) ?_
    refine Yu 5 rfl ⟨_,_,rfl,rfl,hg40⟩ (fun _=>X0c rfl rfl (by omega) (by omega)) ?_
    refine Yj (k:=(j-1)) (u:=(keyS y ((srtF (keyS y) k).getD (j-1) 0))) (enc:=encI) (l:=q2) 6 rfl ⟨_,_,rfl,rfl,hg40⟩ rfl (by simp;omega) rfl Xj X0a X7 ho32.rd (hI.hq.get (by have:=of_decide_eq_true hg40;omega)) (by have:=of_decide_eq_true hg40;omega) ?_;intro p42 hat41
    refine Yv 7 rfl ⟨_,_,rfl,rfl,hg40⟩ (X0 rfl X3 hat41) ?_
    refine Yu 8 rfl ⟨_,_,rfl,rfl,hg40⟩ (fun _=>X2 rfl) ?_
    refine Yu 9 rfl ⟨_,_,rfl,rfl,hg40⟩ (fun _=>X2 rfl) ?_
    refine Yi (k:=k) (u:=(y.getD k 0)) (enc:=encI) (l:=y) 10 rfl ⟨_,_,rfl,rfl,hg40⟩ rfl rfl Xj X0a X7 (hr_y.below' hW) (X10 (by omega)) rfl ?_;intro p44 hat43
    refine Yv 11 rfl ⟨_,_,rfl,rfl,hg40⟩ (X0 rfl X3 hat43) ?_
    refine Yu 12 rfl ⟨_,_,rfl,rfl,hg40⟩ (fun _=>X5i rfl rfl) ?_
    refine Yo 13 rfl (fun _=>Xe rfl hg40 rfl) ?_
    refine Yd fun a hf=>?_
    have hEE:Below w13.heap.size w13 w14:=hEc
    exact ⟨hf.sub ⟨rfl,rfl,rfl,rfl,rfl,rfl,rfl,rfl,rfl,rfl,X1 rfl (by first|rfl|(simp only [hc19b,hg40,bs];done)|simp [hc19b,hg40]),trivial⟩,hEE⟩
   refine Yp 3 rfl ⟨_,_,rfl,rfl,hg40⟩ ?_
   refine Yp 4 rfl ⟨_,_,rfl,rfl,hg40⟩ ?_
   refine Yp 5 rfl ⟨_,_,rfl,rfl,hg40⟩ ?_
   refine Yp 6 rfl ⟨_,_,rfl,rfl,hg40⟩ ?_
   refine Yp 7 rfl ⟨_,_,rfl,rfl,hg40⟩ ?_
   refine Yp 8 rfl ⟨_,_,rfl,rfl,hg40⟩ ?_
   refine Yp 9 rfl ⟨_,_,rfl,rfl,hg40⟩ ?_
   refine Yp 10 rfl ⟨_,_,rfl,rfl,hg40⟩ ?_
   refine Yp 11 rfl ⟨_,_,rfl,rfl,hg40⟩ ?_
   refine Yp 12 rfl ⟨_,_,rfl,rfl,hg40⟩ ?_
   refine Yo 13 rfl (fun _=>Xa rfl hg40 rfl) ?_
   refine Yd fun a hf=>?_
   have hEE:Below w13.heap.size w13 w14:=hEc
   exact ⟨hf.sub ⟨rfl,rfl,rfl,rfl,rfl,rfl,rfl,rfl,rfl,rfl,X1 rfl (by first|rfl|(simp only [hc19b,hg40,bs];done)|simp [hc19b,hg40]),trivial⟩,hEE⟩
  rintro a w15 ⟨hf,hE⟩
  replace hB6:=hB6.below hE
  replace hB10:=hB10.below hE
  replace hB25:=hB25.below hE
  replace ho32:=ho32.below hE
  replace ho36:=ho36.below hE
  replace hW:=btr hW hE
  refine hK39 _ _ ?_
  refine Xd hf rfl (fun hc45=>?_) (fun hc45=>?_)
  ·have hc45b:=hc45
   obtain ⟨h91,h92⟩:=Bool.and_eq_true_iff.1 hc45
   have hj0:0<j:=by have:=of_decide_eq_true h91;omega
   have hnx:=hI.next hj0 (by rw [← hyk];exact of_decide_eq_true h92)
   refine wp_skip ?_
   refine hK38 _ _ ?_
   refine wp_block ?_
   refine Zs hf fun _ hK46=>?_
   refine Zm rfl<|Zm rfl<|Zm rfl<|Zm rfl<|Ze (X0c rfl rfl (by omega) (by omega)) ?_
   refine Zj (k:=(j-1)) (u:=(keyS y ((srtF (keyS y) k).getD (j-1) 0))) (enc:=encI) (l:=q2) trivial rfl (by simp;omega) rfl Xj X0a X7 ho32.rd (hI.hq.get hj0) (by omega) ?_;intro p48 hat47
   refine Ze (X0 rfl X3 hat47)<|Ze (X0r (k:=j) rfl rfl Xj X0a ho32 (by simp;omega) hjz (by omega)) ?_
   refine Zo (X0s (enc:=encI) (l:=q2) (vs:=[vi (keyS y ((srtF (keyS y) k).getD (j-1) 0))]) (x0:=(q2.getD j 0)) (u:=(keyS y ((srtF (keyS y) k).getD (j-1) 0))) (k:=j) (j:=0) (n1:=1) rfl rfl X0a ho32 X7 rfl rfl rfl rfl (by decide) (X10 (by omega)) rfl) ?_;rintro _ w16 ⟨hnew,hg⟩
   have hown:=ho32
   replace hB6:=hB6.appT hown hg rfl
   replace hB10:=hB10.appT hown hg rfl
   replace hB25:=hB25.appT hown hg rfl
   replace ho36:=ho36.appT hown hg rfl
   replace hW:=Below.app hW hown hg (Nat.le_refl _) hW.size
   clear hown hg;clear ho32;have ho32:=hnew;clear hnew
   refine Zt hK46 fun a hf=>?_
   refine wp_seq_k fun _ hK49=>?_
   refine Xw none (fun j=>[10].contains j) mixed ?_
   intro w17 hE
   replace hB6:=hB6.below hE
   replace hB10:=hB10.below hE
   replace hB25:=hB25.below hE
   replace ho36:=ho36.below hE
   replace ho32:=ho32.below hE
   replace hW:=btr hW hE
   refine Yb hf ?_
   refine Yo 0 rfl (fun _=>Vd rfl X0h 1)<|Ye 1 rfl (X0 rfl X18 (hB10.at 1))<|Yo 2 rfl (fun _=>X2 rfl)<|Yo 3 rfl (fun _=>Vd rfl X0h 1)<|Ye 4 rfl (X0 rfl X18 (hB10.at 1)) ?_
   refine Yo 5 rfl (fun _=>X2 rfl)<|Yo 6 rfl (fun _=>X0c rfl rfl (by omega) (by omega)) ?_
   refine Yj (k:=(j-1)) (u:=(gateAt c.gs ((srtF (keyS y) k).getD (j-1) 0))) (enc:=encG) (l:=g2) 7 rfl trivial rfl (by simp;omega) rfl X07 X0b Xx ho36.rd (hI.hg.get hj0) (by omega) ?_;intro p51 hat50
   refine Ye 8 rfl (Xz (l:=[vi ((gateAt c.gs ((srtF (keyS y) k).getD (j-1) 0)).k),vi ((gateAt c.gs ((srtF (keyS y) k).getD (j-1) 0)).a),vi ((gateAt c.gs ((srtF (keyS y) k).getD (j-1) 0)).b)]) rfl Xu hat50 rfl)<|Yo 9 rfl (fun _=>X0r (k:=j) rfl rfl X07 X0b ho36 (by simp;omega) hjz (by omega)) ?_
   refine Y1 10 ?_
   refine Yh rfl trivial rfl (X0s (enc:=encG) (l:=g2) (vs:=[vi ((gateAt c.gs ((srtF (keyS y) k).getD (j-1) 0)).k),vi ((gateAt c.gs ((srtF (keyS y) k).getD (j-1) 0)).a),vi ((gateAt c.gs ((srtF (keyS y) k).getD (j-1) 0)).b)]) (x0:=(g2.getD j gZ)) (u:=(gateAt c.gs ((srtF (keyS y) k).getD (j-1) 0))) (k:=j) (j:=0) (n1:=3) rfl rfl X0b ho36 Xx rfl rfl rfl rfl (by decide) (X8z (by omega)) rfl) ?_;rintro _ w18 ⟨hnew,hg⟩
   have hown:=ho36
   replace hB6:=hB6.appT hown hg rfl
   replace hB10:=hB10.appT hown hg rfl
   replace hB25:=hB25.appA hg haw36_25
   replace ho32:=ho32.appT hown hg rfl
   replace hW:=Below.app hW hown hg (Nat.le_refl _) hW.size
   clear hown hg;clear ho36;have ho36:=hnew;clear hnew
   refine Yd fun a hf=>?_
   refine hK49 _ _ ?_
   refine Zr hf ?_
   refine Zm rfl<|Ze (X0c rfl rfl (by omega) (by omega))<|Za rfl ?_
   refine Zn fun a hf=>?_
   refine Xh ?_
   refine Xg ?_
   exact ⟨(jz-1,j-1,(q2.set j (keyS y ((srtF (keyS y) k).getD (j-1) 0))),(g2.set j (gateAt c.gs ((srtF (keyS y) k).getD (j-1) 0)))),⟨hf.sub ⟨rfl,rfl,rfl,rfl,rfl,rfl,rfl,rfl,rfl,rfl,trivial⟩,(by omega),(by omega),hnx,hB6,hB10,hB25,ho32,ho36,hW⟩,(by first|omega|(dsimp only;omega))⟩
  have hc45b:=hc45
  have hdn:0<j→keyS y ((srtF (keyS y) k).getD (j-1) 0)≤keyS y (k:Int):=fun h0=>by
   rw [decide_eq_true (by omega),Bool.true_and] at hc45
   have:=of_decide_eq_false hc45
   omega
  obtain ⟨hd1,hd2⟩:=hI.done hdn
  refine wp_exit ?_
  refine Xf ?_
  refine Xf ?_
  refine Xs ?_
  refine hK37 _ _ ?_
  refine Zs hf fun _ hK52=>?_
  refine Zm rfl<|Zm rfl<|Zm rfl<|Zm rfl ?_
  refine Zi (k:=k) (u:=(y.getD k 0)) (enc:=encI) (l:=y) trivial rfl rfl Xj X0a X7 (hr_y.below' hW) (X10 (by omega)) rfl ?_;intro p54 hat53
  refine Ze (X0 rfl X3 hat53)<|Ze (X0r (k:=j) rfl rfl Xj X0a ho32 (by simp;omega) hjz (by omega)) ?_
  refine Zo (X0s (enc:=encI) (l:=q2) (vs:=[vi (y.getD k 0)]) (x0:=(q2.getD j 0)) (u:=(y.getD k 0)) (k:=j) (j:=0) (n1:=1) rfl rfl X0a ho32 X7 rfl rfl rfl rfl (by decide) (X10 (by omega)) rfl) ?_;rintro _ w19 ⟨hnew,hg⟩
  have hown:=ho32
  replace hB6:=hB6.appT hown hg rfl
  replace hB10:=hB10.appT hown hg rfl
  replace hB25:=hB25.appT hown hg rfl
  replace ho36:=ho36.appT hown hg rfl
  replace hW:=Below.app hW hown hg (Nat.le_refl _) hW.size
  clear hown hg;clear ho32;have ho32:=hnew;clear hnew
  refine Zt hK52 fun a hf=>?_
  refine Zr hf ?_
  refine Ze (Vd rfl X0h 1)<|Ze (X0 rfl X18 (hB10.at 1))<|Zm rfl<|Ze (Vn Xu hB25)<|Ze (X0r (k:=j) rfl rfl X07 X0b ho36 (by simp;omega) hjz (by omega)) ?_
  refine Zo (X0s (enc:=encG) (l:=g2) (vs:=[vi u20.k,vi u20.a,vi u20.b]) (x0:=(g2.getD j gZ)) (u:=u20) (k:=j) (j:=0) (n1:=3) rfl rfl X0b ho36 Xx rfl rfl rfl rfl (by decide) (X8z (by omega)) rfl) ?_;rintro _ w20 ⟨hnew,hg⟩
  have hown:=ho36
  replace hB6:=hB6.appT hown hg rfl
  replace hB10:=hB10.appT hown hg rfl
  replace hB25:=hB25.appA hg haw36_25
  replace ho32:=ho32.appT hown hg rfl
  replace hW:=Below.app hW hown hg (Nat.le_refl _) hW.size
  clear hown hg;clear ho36;have ho36:=hnew;clear hnew
  refine Zn fun a hf=>?_
  refine Xh ?_
  refine hK21 _ _ ?_
  refine Zr hf ?_
  refine Ze (Xp rfl rfl (by omega) (by omega))<|Zm rfl ?_
  refine Zn fun a hf=>?_
  have hl6:(q++[y.getD k 0]).length=((q2.set j (y.getD k 0))).length:=by simp only [List.length_append,List.length_set,List.length_cons,List.length_nil];omega
  have hl5:(gl++[u20]).length=((g2.set j u20)).length:=by simp only [List.length_append,List.length_set,List.length_cons,List.length_nil];omega
  rw [hl6] at hf
  rw [hl5] at hB10
  refine Xg ?_
  exact ⟨(k+1,(q2.set j (y.getD k 0)),(g2.set j u20)),⟨A32,c32,A36,c36,hf.sub ⟨rfl,rfl,rfl,rfl,rfl,rfl,rfl,trivial⟩,(by omega),(by rw [hyk];exact hd1),(by rw [hgu];exact hd2),hB6,hB10,ho32,ho36,hW⟩,(by first|omega|(dsimp only;omega))⟩
 have hc19b:=hc19
 have hc19:=of_decide_eq_false hc19
 have hkl:k=c.gs.length:=by omega
 have hfin:sortG (keyS y) c.gs=gl:=by rw [hg,hkl];rfl
 refine wp_exit ?_
 refine Xf ?_
 refine Xf ?_
 refine Xs ?_
 refine hK13 _ _ ?_
 refine Zs hf fun _ hK55=>?_
 refine Ze (Vn X12 hB10) ?_
 refine Zo (Vw [vi c.n,.slice A16 gl.length c16] X2l hB6) ?_;rintro _ w21 ⟨ho,hb⟩
 have hold:=hB6
 replace hB10:=hB10.only ho (by omega)
 replace ho15:=ho15.onlyT ho hold rfl
 replace ho16:=ho16.onlyT ho hold rfl
 replace hW:=Below.only hW ho hlo6
 clear hold
 have hB6:=hb
 clear hb ho
 refine Zt hK55 fun a hf=>?_
 refine wp_ret (X5 hf (Xl hf rfl (ResV.cellN (l:=[vi c.n,.slice A16 gl.length c16]) rfl X12 (hB6.at 0) rfl)) ?_)
 rw [← hfin] at ho16
 exact ⟨_,_,by rw [← hfin];rfl,ho16,hW⟩
end Go.Proofs.YtgkoieoaamkjhaaGreat
set_option maxRecDepth 4000
namespace Go.Proofs.YtgkoieoaamkjhaaGreat
open Go.RowKit
theorem F31(w0:World)(c:Cx)(Ac:Option Addr)(cc:Nat)(hr_c:Rd w0 w0.heap.size 55 encG Ac c.gs)(hp_c:c.gs.length≤cc)(Ay:Option Addr)(cy:Nat)(y:List Int)(hr_y:Rd w0 w0.heap.size 3 encI Ay y)(hln:c.gs.length≤100000000) : Ret Tryz.prog 6 [.agg #[vi c.n,.slice Ac c.gs.length cc],.slice Ay y.length cy] w0 (fun v w=>∃ A c1,v=.tuple #[.agg #[vi ((scO c y).getD cZ).n,.slice A ((scO c y).getD cZ).gs.length c1],.bool (scO c y).isSome]∧Own w w0.heap.size 55 3 encG A c1 ((scO c y).getD cZ).gs∧Below w0.heap.size w0 w):=by
 refine enter Tryz.func6 rfl 24 rfl rfl ?_
 intro a hf
 have hW:Below w0.heap.size w0 w0:=Below.refl _ _
 refine Zs hf fun _ hK3=>?_
 refine Zf (X08 (zs:=[vi c.n,.slice Ac c.gs.length cc]) rfl rfl) ?_;rintro _ w1 ⟨b4,rfl,hl4,hE,hB4⟩
 have hlo4:=Nat.le_trans hW.size hl4
 replace hW:=btr hW hE
 refine Zf (X8 (zs:=[vi 0,.slice none 0 0]) X5h rfl) ?_;rintro _ w2 ⟨b6,rfl,hl6,hE,hB6⟩
 have hne4_6:b4≠b6:=by have:=hB4.lt;omega
 have hlo6:=Nat.le_trans hW.size hl6
 replace hB4:=hB4.below hE
 replace hW:=btr hW hE
 refine Za rfl ?_
 refine Zt hK3 fun a hf=>?_
 refine wp_seq_k fun _ hK7=>?_
 refine Zs hf fun _ hK8=>?_
 refine Ze (Vn X12 hB4) ?_
 refine Zf (Vc (F53 _ c Ac cc (hr_c.below' hW).top) Xka) ?_;rintro _ w3 ⟨rfl,hE⟩
 replace hB4:=hB4.below hE
 replace hB6:=hB6.below hE
 replace hW:=btr hW hE
 refine Ze (X0u rfl) ?_
 refine Zt hK8 fun a hf=>?_
 refine Xd hf rfl (fun hc9=>?_) (fun hc9=>?_)
 ·have hc9b:=hc9
  have hfin:scO c y=none:=X67 (Or.inl (by revert hc9;cases cOk c<;>simp))
  refine Zs hf fun _ hK10=>?_
  refine Ze (Xr (ps:=[]) (cs:=[vi 0,.slice none 0 0]) rfl (fun _=>by first|rfl|kernel_rfl)) ?_
  refine Zo (Vw [vi 0,.slice none 0 0] X2l hB6) ?_;rintro _ w4 ⟨ho,hb⟩
  have hold:=hB6
  replace hB4:=hB4.only ho (by omega)
  replace hW:=Below.only hW ho hlo6
  clear hold
  have hB6:=hb
  clear hb ho
  refine Za rfl ?_
  refine Zt hK10 fun a hf=>?_
  refine wp_ret ?_
  refine X4 ?_
  refine X5 hf (X0z hf rfl (ResV.cellN (l:=[vi 0,.slice none 0 0]) rfl X12 (hB6.at 0) rfl) rfl) ?_
  rw [hfin]
  exact ⟨none,0,rfl,(Own.nil _ _ _ _ _),hW⟩
 have hc9b:=hc9
 have hco:cOk c=true:=by revert hc9;cases cOk c<;>simp
 refine wp_skip ?_
 refine hK7 _ _ ?_
 refine wp_seq_k fun _ hK12=>?_
 refine Zs hf fun _ hK13=>?_
 refine Ze (Vn X12 hB4)<|Zm rfl ?_
 refine Zf (Vc (F54 _ c Ac cc (hr_c.below' hW).top hp_c Ay cy y (hr_y.below' hW).top hco) Xkm) ?_;rintro _ w5 ⟨rfl,hE⟩
 replace hB4:=hB4.below hE
 replace hB6:=hB6.below hE
 replace hW:=btr hW hE
 refine Zm rfl<|Ze (X9 (vs:=[vi ((schedS c.gs y).1),vi ((schedS c.gs y).2)]) rfl rfl)<|Ze (X9 (vs:=[vi ((schedS c.gs y).1),vi ((schedS c.gs y).2)]) rfl rfl)<|Za rfl<|Za rfl ?_
 refine Zt hK13 fun a hf=>?_
 refine Zs hf fun _ hK14=>?_
 refine Zm rfl<|Ze (X1e rfl rfl) ?_
 refine Zt hK14 fun a hf=>?_
 refine Xd hf rfl (fun hc15=>?_) (fun hc15=>?_)
 ·have hc15b:=hc15
  have hfin:scO c y=none:=X67 (Or.inr (by simpa using hc15))
  refine Zs hf fun _ hK16=>?_
  refine Ze (Xr (ps:=[]) (cs:=[vi 0,.slice none 0 0]) rfl (fun _=>by first|rfl|kernel_rfl)) ?_
  refine Zo (Vw [vi 0,.slice none 0 0] X2l hB6) ?_;rintro _ w6 ⟨ho,hb⟩
  have hold:=hB6
  replace hB4:=hB4.only ho (by omega)
  replace hW:=Below.only hW ho hlo6
  clear hold
  have hB6:=hb
  clear hb ho
  refine Za rfl ?_
  refine Zt hK16 fun a hf=>?_
  refine wp_ret ?_
  refine X4 ?_
  refine X5 hf (X0z hf rfl (ResV.cellN (l:=[vi 0,.slice none 0 0]) rfl X12 (hB6.at 0) rfl) rfl) ?_
  rw [hfin]
  exact ⟨none,0,rfl,(Own.nil _ _ _ _ _),hW⟩
 have hc15b:=hc15
 have hcs:(schedS c.gs y).1=0:=by simpa using hc15
 have hfin:=X97 hco hcs
 have hyl:=(X31 hcs).1
 refine wp_skip ?_
 refine hK12 _ _ ?_
 refine Zs hf fun _ hK18=>?_
 refine Ze (Vn X12 hB4)<|Zm rfl ?_
 refine Zf (Vc (F69 _ c Ac cc (hr_c.below' hW).top Ay cy y (hr_y.below' hW).top hyl hln) Xks) ?_;rintro _ w7 ⟨A19,c19,rfl,ho19,hE⟩
 replace ho19:=ho19.lower hW.size
 replace hB4:=hB4.below hE
 replace hB6:=hB6.below hE
 replace hW:=btr hW hE
 refine Zo (Vw [vi ((sortC (keyS y) c).n),.slice A19 ((sortC (keyS y) c).gs).length c19] X2l hB6) ?_;rintro _ w8 ⟨ho,hb⟩
 have hold:=hB6
 replace hB4:=hB4.only ho (by omega)
 replace ho19:=ho19.onlyT ho hold rfl
 replace hW:=Below.only hW ho hlo6
 clear hold
 have hB6:=hb
 clear hb ho
 refine Za rfl ?_
 refine Zt hK18 fun a hf=>?_
 refine wp_ret (X5 hf (X0z hf rfl (ResV.cellN (l:=[vi ((sortC (keyS y) c).n),.slice A19 ((sortC (keyS y) c).gs).length c19]) rfl X12 (hB6.at 0) rfl) rfl) ?_)
 rw [hfin]
 exact ⟨A19,c19,rfl,ho19,hW⟩
end Go.Proofs.YtgkoieoaamkjhaaGreat
set_option maxRecDepth 4000
namespace Go.Proofs.YtgkoieoaamkjhaaGreat
open Go.RowKit
theorem X7e:∀ {l:List Gt} {k:Int},heldG l k<0→0≤k→heldG l k = -1
 | [],k,h,hk=>by rw [heldG] at h;omega
 | x::l,k,h,hk=>by
  rw [heldG] at h ⊢
  split
  ·rename_i hc
   rw [if_pos hc] at h
   exact X7e h (by omega)
  ·rfl
theorem X4t(c:Cx)(y:List Int) : ((scO c y).getD cZ).gs.length≤c.gs.length:=by
 rw [scO]
 split
 ·show (sortG _ _).length≤_
  rw [Xd2];exact Nat.le_refl _
 ·exact Nat.zero_le _
theorem F72(w0:World)(A:Option Addr)(c m:Nat)(l:List Gt)(hm:m=l.length)(hr_l:Rd w0 w0.heap.size 55 encG A l)(k:Int)(hk:0≤k∧k≤1000000000000)(hln:l.length≤1000000000) : Ret Tryz.prog 27 [.slice A m c,vi k] w0 (fun v w=>v=vi (heldG l k)∧Below w0.heap.size w0 w):=by
 subst hm
 refine enter Tryz.func27 rfl 40 rfl rfl ?_
 intro a hf
 have hW:Below w0.heap.size w0 w0:=Below.refl _ _
 refine Zs hf fun _ hK2=>?_
 refine Za rfl ?_
 refine Zt hK2 fun a hf=>?_
 refine wp_seq_k fun _ hK3=>?_
 refine Zs hf fun _ hK4=>?_
 refine Za rfl ?_
 refine Zt hK4 fun a hf=>?_
 refine wp_block ?_
 refine Xt (σ:=Nat×Int) (fun (s:Nat×Int) (a:Act) (w:World)=>match s with|(j,q)=>Fr a 40 [(0,.slice A l.length c),(1,vi q),(5,vi (j:Int))]∧(j≤l.length)∧(q=k+3*(j:Int))∧(heldG (l.drop j) q=heldG l k)∧Below w0.heap.size w0 w) (fun (s:Nat×Int)=>match s with|(j,q)=>l.length-j) (0,k) ?_ ?_
 ·exact ⟨hf.sub ⟨rfl,rfl,rfl,trivial⟩,(Nat.zero_le _),(by simp),rfl,hW⟩
 rintro ⟨j,q⟩ a w1 ⟨hf,hj,hq,hp,hW⟩
 refine wp_seq_k fun _ hK5=>?_
 refine Zs hf fun _ hK6=>?_
 refine Zm rfl<|Zm rfl<|Ze (X0q rfl X07)<|Ze (X06 rfl rfl) ?_
 refine Zt hK6 fun a hf=>?_
 refine Xd hf rfl (fun hc7=>?_) (fun hc7=>?_)
 ·have hc7b:=hc7
  have hc7:=of_decide_eq_true hc7
  obtain ⟨u8,hu8⟩:=Xi (l:=l) (k:=j) (by omega)
  obtain ⟨u9,hu9⟩:=Xi (l:=l) (k:=j) (by omega)
  rw [Xcy hu9] at hp
  refine wp_skip ?_
  refine hK5 _ _ ?_
  refine wp_seq_k fun _ hK9=>?_
  refine wp_block ?_
  refine wp_seq_k fun _ hK10=>?_
  refine Zs hf fun _ hK11=>?_
  refine Zm rfl<|Zm rfl ?_
  refine Zi (k:=j) (u:=u9) (enc:=encG) (l:=l) trivial rfl rfl X07 X0b Xx (hr_l.below' hW) hu9 rfl ?_;intro p13 hat12
  refine Ze (Xag rfl X04)<|Ze (X0 rfl X3 (hat12.drop 0))<|Zm rfl<|Ze (X1e rfl rfl) ?_
  refine Zt hK11 fun a hf=>?_
  refine Xd hf rfl (fun hc14=>?_) (fun hc14=>?_)
  ·have hc14b:=hc14
   have hfin:heldG l k = -1:=by rw [← hp,if_neg (by rintro ⟨h1,_,_⟩;rw [h1] at hc14;simp at hc14)]
   refine Zs hf fun _ hK15=>?_
   refine Za rfl ?_
   refine Zt hK15 fun a hf=>?_
   refine wp_ret ?_
   refine X4 ?_
   refine Xk ?_
   refine X4 ?_
   refine X4 ?_
   refine Xk ?_
   refine X4 ?_
   refine X5 hf (Xl hf rfl rfl) ?_
   exact ⟨by rw [hfin],hW⟩
  have hc14b:=hc14
  have g1:u9.k=q:=by simpa using hc14
  refine wp_skip ?_
  refine hK10 _ _ ?_
  refine Zs hf fun _ hK16=>?_
  refine Zm rfl<|Ze (Xp rfl rfl (by omega) (by omega))<|Za rfl ?_
  refine Zt hK16 fun a hf=>?_
  refine wp_seq_k fun _ hK17=>?_
  refine Zs hf fun _ hK18=>?_
  refine Zm rfl<|Zm rfl ?_
  refine Zi (k:=j) (u:=u9) (enc:=encG) (l:=l) trivial rfl rfl X07 X0b Xx (hr_l.below' hW) hu9 rfl ?_;intro p20 hat19
  refine Ze (Xag rfl X05)<|Ze (X0 rfl X3 (hat19.drop 1))<|Zm rfl<|Ze (X1e rfl rfl) ?_
  refine Zt hK18 fun a hf=>?_
  refine Xd hf rfl (fun hc21=>?_) (fun hc21=>?_)
  ·have hc21b:=hc21
   have hfin:heldG l k = -1:=by rw [← hp,if_neg (by rintro ⟨_,h1,_⟩;rw [h1] at hc21;simp at hc21)]
   refine Zs hf fun _ hK22=>?_
   refine Za rfl ?_
   refine Zt hK22 fun a hf=>?_
   refine wp_ret ?_
   refine X4 ?_
   refine Xk ?_
   refine X4 ?_
   refine X4 ?_
   refine Xk ?_
   refine X4 ?_
   refine X5 hf (Xl hf rfl rfl) ?_
   exact ⟨by rw [hfin],hW⟩
  have hc21b:=hc21
  have g2:u9.a=q+1:=by simpa using hc21
  refine wp_skip ?_
  refine hK17 _ _ ?_
  refine Zs hf fun _ hK23=>?_
  refine Zm rfl<|Ze (Xp rfl rfl (by omega) (by omega))<|Za rfl ?_
  refine Zt hK23 fun a hf=>?_
  refine wp_seq_k fun _ hK24=>?_
  refine Zs hf fun _ hK25=>?_
  refine Zm rfl<|Zm rfl ?_
  refine Zi (k:=j) (u:=u9) (enc:=encG) (l:=l) trivial rfl rfl X07 X0b Xx (hr_l.below' hW) hu9 rfl ?_;intro p27 hat26
  refine Ze (Xag rfl X0g)<|Ze (X0 rfl X3 (hat26.drop 2))<|Zm rfl<|Ze (X1e rfl rfl) ?_
  refine Zt hK25 fun a hf=>?_
  refine Xd hf rfl (fun hc28=>?_) (fun hc28=>?_)
  ·have hc28b:=hc28
   have hfin:heldG l k = -1:=by rw [← hp,if_neg (by rintro ⟨_,_,h1⟩;rw [h1,show q+1+1=q+2 from by omega] at hc28;simp at hc28)]
   refine Zs hf fun _ hK29=>?_
   refine Za rfl ?_
   refine Zt hK29 fun a hf=>?_
   refine wp_ret ?_
   refine X4 ?_
   refine Xk ?_
   refine X4 ?_
   refine X4 ?_
   refine Xk ?_
   refine X4 ?_
   refine X5 hf (Xl hf rfl rfl) ?_
   exact ⟨by rw [hfin],hW⟩
  have hc28b:=hc28
  have g3:u9.b=q+1+1:=by simpa using hc28
  rw [if_pos ⟨g1,g2,by omega⟩,show q+3=q+1+1+1 from by omega] at hp
  refine wp_skip ?_
  refine hK24 _ _ ?_
  refine Zr hf ?_
  refine Zm rfl<|Ze (Xp rfl rfl (by omega) (by omega))<|Za rfl ?_
  refine Zn fun a hf=>?_
  refine Xh ?_
  refine hK9 _ _ ?_
  refine Zr hf ?_
  refine Zm rfl<|Ze (Xp rfl rfl (by omega) (by omega))<|Za rfl ?_
  refine Zn fun a hf=>?_
  refine Xg ?_
  exact ⟨(j+1,q+1+1+1),⟨hf.sub ⟨rfl,rfl,rfl,trivial⟩,(by omega),(by omega),hp,hW⟩,(by first|omega|(dsimp only;omega))⟩
 have hc7b:=hc7
 have hc7:=of_decide_eq_false hc7
 have hfin:heldG l k=q:=by rw [← hp,Xbz (by omega)]
 refine wp_exit ?_
 refine Xf ?_
 refine Xf ?_
 refine Xs ?_
 refine hK3 _ _ ?_
 refine Zs hf fun _ hK30=>?_
 refine Zm rfl<|Za rfl ?_
 refine Zt hK30 fun a hf=>?_
 refine wp_ret (X5 hf (Xl hf rfl rfl) ?_)
 exact ⟨by rw [hfin],hW⟩
theorem F33(w0:World)(A:Option Addr)(c m:Nat)(l:List Gt)(hm:m=l.length)(hr_l:Rd w0 w0.heap.size 55 encG A l)(n k:Int)(hk:0≤k∧k≤1000000000000)(hln:l.length≤1000000000) : Ret Tryz.prog 14 [.agg #[vi n,.slice A m c],vi k] w0 (fun v w=>v=vi (heldG l k)∧Below w0.heap.size w0 w):=by
 subst hm
 refine enter Tryz.func14 rfl 12 rfl rfl ?_
 intro a hf
 have hW:Below w0.heap.size w0 w0:=Below.refl _ _
 refine Zs hf fun _ hK2=>?_
 refine Zf (X08 (zs:=[vi n,.slice A l.length c]) rfl rfl) ?_;rintro _ w1 ⟨b3,rfl,hl3,hE,hB3⟩
 have hlo3:=Nat.le_trans hW.size hl3
 replace hW:=btr hW hE
 refine Za rfl ?_
 refine Zt hK2 fun a hf=>?_
 refine Zs hf fun _ hK4=>?_
 refine Ze (Vd rfl X0h 1)<|Ze (X0 rfl X18 (hB3.at 1))<|Zm rfl ?_
 refine Zf (Vc (F72 _ A c l.length l rfl (hr_l.below' hW).top k hk hln) Xkj) ?_;rintro _ w2 ⟨rfl,hE⟩
 replace hB3:=hB3.below hE
 replace hW:=btr hW hE
 refine Za rfl ?_
 refine Zt hK4 fun a hf=>?_
 refine wp_seq_k fun _ hK5=>?_
 refine Zs hf fun _ hK6=>?_
 refine Zm rfl<|Ze (X06 rfl rfl) ?_
 refine Zt hK6 fun a hf=>?_
 refine Xd hf rfl (fun hc7=>?_) (fun hc7=>?_)
 ·have hc7b:=hc7
  have hc7:=of_decide_eq_true hc7
  have hfin:=X7e hc7 hk.1
  refine Zs hf fun _ hK8=>?_
  refine Za rfl ?_
  refine Zt hK8 fun a hf=>?_
  refine wp_ret ?_
  refine X4 ?_
  refine X5 hf (Xl hf rfl rfl) ?_
  exact ⟨by rw [hfin],hW⟩
 have hc7b:=hc7
 have hc7:=of_decide_eq_false hc7
 refine wp_skip ?_
 refine hK5 _ _ ?_
 refine Zs hf fun _ hK9=>?_
 refine Zm rfl<|Za rfl ?_
 refine Zt hK9 fun a hf=>?_
 refine wp_ret (X5 hf (Xl hf rfl rfl) ?_)
 exact ⟨rfl,hW⟩
end Go.Proofs.YtgkoieoaamkjhaaGreat
set_option maxRecDepth 4000
namespace Go.Proofs.YtgkoieoaamkjhaaGreat
open Go.RowKit
theorem F7(w0:World){Xc:TypeId}(c:Cx)(Ac:Option Addr)(cc:Nat)(hr_c:Rd w0 w0.heap.size Xc encG Ac c.gs){X_y:TypeId}(Ay:Option Addr)(cy:Nat)(y:List Int)(hr_y:Rd w0 w0.heap.size X_y encI Ay y)(hlc:c.gs.length≤9223372036854775807)(hly:y.length≤9223372036854775807) : Ret Tryz.prog 3 [.agg #[vi c.n,.slice Ac c.gs.length cc],.slice Ay y.length cy] w0 (fun v w=>v=.bool true∧Below w0.heap.size w0 w):=by
 refine enter Tryz.func3 rfl 117 rfl rfl ?_
 intro a hf
 have hW:Below w0.heap.size w0 w0:=Below.refl _ _
 refine Zs hf fun _ hK3=>?_
 refine Zf (X08 (zs:=[vi c.n,.slice Ac c.gs.length cc]) rfl rfl) ?_;rintro _ w1 ⟨b4,rfl,hl4,hE,hB4⟩
 have hlo4:=Nat.le_trans hW.size hl4
 replace hW:=btr hW hE
 refine Za rfl ?_
 refine Zt hK3 fun a hf=>?_
 refine wp_seq_k fun _ hK5=>?_
 refine Zs hf fun _ hK6=>?_
 refine Zm rfl<|Ze (X0q rfl Xj)<|Ze (X5i rfl rfl) ?_
 refine Zt hK6 fun a hf=>?_
 refine Xd hf rfl (fun hc7=>?_) (fun hc7=>?_)
 ·have hc7b:=hc7
  have hc7:=of_decide_eq_true hc7
  refine Zs hf fun _ hK8=>?_
  refine Za rfl ?_
  refine Zt hK8 fun a hf=>?_
  refine wp_ret ?_
  refine X4 ?_
  refine X5 hf (Xl hf rfl rfl) ?_
  exact ⟨rfl,hW⟩
 have hc7b:=hc7
 have hc7:=of_decide_eq_false hc7
 have hl1:y.length≤1048576:=by omega
 refine wp_skip ?_
 refine hK5 _ _ ?_
 refine Zs hf fun _ hK9=>?_
 refine Za rfl ?_
 refine Zt hK9 fun a hf=>?_
 refine Zs hf fun _ hK10=>?_
 refine Ze (Vn X8k hB4)<|Zm rfl ?_
 refine Zf (Vc (F14 _ c Ac cc (hr_c.below' hW).top 1048576 (by omega) hlc) Xlh) ?_;rintro _ w2 ⟨rfl,hE⟩
 replace hB4:=hB4.below hE
 replace hW:=btr hW hE
 refine Za rfl ?_
 refine Zt hK10 fun a hf=>?_
 refine wp_seq_k fun _ hK11=>?_
 refine Zs hf fun _ hK12=>?_
 refine Zm rfl<|Ze (X06 rfl rfl) ?_
 refine Zt hK12 fun a hf=>?_
 refine Xd hf rfl (fun hc13=>?_) (fun hc13=>?_)
 ·have hc13b:=hc13
  have hc13:=of_decide_eq_true hc13
  refine Zs hf fun _ hK14=>?_
  refine Za rfl ?_
  refine Zt hK14 fun a hf=>?_
  refine wp_ret ?_
  refine X4 ?_
  refine X5 hf (Xl hf rfl rfl) ?_
  exact ⟨rfl,hW⟩
 have hc13b:=hc13
 have hc13:=of_decide_eq_false hc13
 have hc1:c.gs.length≤1048576:=by have:=Xj2 hc13;omega
 refine wp_skip ?_
 refine hK11 _ _ ?_
 refine Zs hf fun _ hK15=>?_
 refine Ze (Vn X8k hB4) ?_
 refine Zf (Vc (F16 _ c Ac cc (hr_c.below' hW).top hc1) Xb3) ?_;rintro _ w3 ⟨A16,c16,rfl,ho16,hE⟩
 replace ho16:=ho16.lower hW.size
 replace hB4:=hB4.below hE
 replace hW:=btr hW hE
 refine Zm rfl ?_
 refine Zf (Vc (F17 _ Ay cy y (hr_y.below' hW).top hl1) Xb2) ?_;rintro _ w4 ⟨A17,c17,rfl,ho17,hE⟩
 replace ho17:=ho17.lower hW.size
 replace hB4:=hB4.below hE
 replace ho16:=ho16.below hE
 replace hW:=btr hW hE
 refine Zf (Vc (F31 _ c A16 c16 ho16.rd.top ho16.cap A17 c17 y ho17.rd.top (Nat.le_trans hc1 (by decide))) Xk4) ?_;rintro _ w5 ⟨A18,c18,rfl,ho18,hE⟩
 have hap16_18:=ho16.apart ho18 (Nat.le_refl _)
 replace ho18:=ho18.lower hW.size
 replace hB4:=hB4.below hE
 replace ho16:=ho16.below hE
 replace ho17:=ho17.below hE
 replace hW:=btr hW hE
 refine Zm rfl<|Ze (X9 (vs:=[.agg #[vi (((scO c y).getD cZ).n),.slice A18 (((scO c y).getD cZ).gs).length c18],.bool ((scO c y).isSome)]) rfl rfl)<|Ze (X9 (vs:=[.agg #[vi (((scO c y).getD cZ).n),.slice A18 (((scO c y).getD cZ).gs).length c18],.bool ((scO c y).isSome)]) rfl rfl) ?_
 refine Zf (X8 (zs:=[vi 0,.slice none 0 0]) X5h rfl) ?_;rintro _ w6 ⟨b20,rfl,hl20,hE,hB20⟩
 have hlo20:=Nat.le_trans hW.size hl20
 replace hB4:=hB4.below hE
 replace ho16:=ho16.below hE
 replace ho17:=ho17.below hE
 replace ho18:=ho18.below hE
 replace hW:=btr hW hE
 refine Zo (Vw [vi (((scO c y).getD cZ).n),.slice A18 (((scO c y).getD cZ).gs).length c18] X2l hB20) ?_;rintro _ w7 ⟨ho,hb⟩
 have hold:=hB20
 replace hB4:=hB4.only ho (Blk.ne hB4 hold rfl)
 replace ho16:=ho16.onlyT ho hold rfl
 replace ho17:=ho17.onlyT ho hold rfl
 replace ho18:=ho18.onlyT ho hold rfl
 replace hW:=Below.only hW ho hlo20
 clear hold
 have hB20:=hb
 clear hb ho
 refine Za rfl ?_
 refine Zt hK15 fun a hf=>?_
 refine Zs hf fun _ hK21=>?_
 refine Ze (Vn X8k hB4) ?_
 refine Zf (Vc (F16 _ c Ac cc (hr_c.below' hW).top hc1) Xb3) ?_;rintro _ w8 ⟨A22,c22,rfl,ho22,hE⟩
 have hap18_22:=ho18.apart ho22 (Nat.le_refl _)
 replace ho22:=ho22.lower hW.size
 replace hB4:=hB4.below hE
 replace hB20:=hB20.below hE
 replace ho18:=ho18.below hE
 replace hW:=btr hW hE
 refine Zf (X8 (zs:=[vi 0,.slice none 0 0]) X5h rfl) ?_;rintro _ w9 ⟨b24,rfl,hl24,hE,hB24⟩
 have hne20_24:b20≠b24:=by have:=hB20.lt;omega
 have hlo24:=Nat.le_trans hW.size hl24
 replace hB4:=hB4.below hE
 replace hB20:=hB20.below hE
 replace ho18:=ho18.below hE
 replace ho22:=ho22.below hE
 replace hW:=btr hW hE
 refine Zo (Vw [vi c.n,.slice A22 c.gs.length c22] X2l hB24) ?_;rintro _ w10 ⟨ho,hb⟩
 have hold:=hB24
 replace hB4:=hB4.only ho (Blk.ne hB4 hold rfl)
 replace hB20:=hB20.only ho (by omega)
 replace ho18:=ho18.onlyT ho hold rfl
 replace ho22:=ho22.onlyT ho hold rfl
 replace hW:=Below.only hW ho hlo24
 clear hold
 have hB24:=hb
 clear hb ho
 refine Zt hK21 fun a hf=>?_
 refine Zs hf fun _ hK25=>?_
 refine Zm rfl ?_
 refine Zf (Vc (F17 _ Ay cy y (hr_y.below' hW).top hl1) Xb2) ?_;rintro _ w11 ⟨A26,c26,rfl,ho26,hE⟩
 replace ho26:=ho26.lower hW.size
 replace hB4:=hB4.below hE
 replace hB20:=hB20.below hE
 replace hB24:=hB24.below hE
 replace ho18:=ho18.below hE
 replace ho22:=ho22.below hE
 replace hW:=btr hW hE
 refine Za rfl ?_
 refine Zt hK25 fun a hf=>?_
 refine Zs hf fun _ hK27=>?_
 refine Ze (Vn X12 hB24)<|Zm rfl ?_
 refine Zf (Vc (F32 _ c A22 c22 ho22.rd.top A26 c26 y ho26.rd.top (Nat.le_trans hc1 (by decide))) Xh1) ?_;rintro _ w12 ⟨A28,c28,rfl,ho28,hE⟩
 have hap18_28:=ho18.apart ho28 (Nat.le_refl _)
 have hap22_28:=ho22.apart ho28 (Nat.le_refl _)
 replace ho28:=ho28.lower hW.size
 replace hB4:=hB4.below hE
 replace hB20:=hB20.below hE
 replace hB24:=hB24.below hE
 replace ho18:=ho18.below hE
 replace ho22:=ho22.below hE
 replace ho26:=ho26.below hE
 replace hW:=btr hW hE
 refine Zm rfl<|Ze (X9 (vs:=[.agg #[vi (((scO c y).getD cZ).n),.slice A28 (((scO c y).getD cZ).gs).length c28],.bool ((scO c y).isSome)]) rfl rfl)<|Ze (X9 (vs:=[.agg #[vi (((scO c y).getD cZ).n),.slice A28 (((scO c y).getD cZ).gs).length c28],.bool ((scO c y).isSome)]) rfl rfl) ?_
 refine Zf (X8 (zs:=[vi 0,.slice none 0 0]) X5h rfl) ?_;rintro _ w13 ⟨b30,rfl,hl30,hE,hB30⟩
 have hne20_30:b20≠b30:=by have:=hB20.lt;omega
 have hne24_30:b24≠b30:=by have:=hB24.lt;omega
 have hlo30:=Nat.le_trans hW.size hl30
 replace hB4:=hB4.below hE
 replace hB20:=hB20.below hE
 replace hB24:=hB24.below hE
 replace ho18:=ho18.below hE
 replace ho22:=ho22.below hE
 replace ho26:=ho26.below hE
 replace ho28:=ho28.below hE
 replace hW:=btr hW hE
 refine Zo (Vw [vi (((scO c y).getD cZ).n),.slice A28 (((scO c y).getD cZ).gs).length c28] X2l hB30) ?_;rintro _ w14 ⟨ho,hb⟩
 have hold:=hB30
 replace hB4:=hB4.only ho (Blk.ne hB4 hold rfl)
 replace hB20:=hB20.only ho (by omega)
 replace hB24:=hB24.only ho (by omega)
 replace ho18:=ho18.onlyT ho hold rfl
 replace ho22:=ho22.onlyT ho hold rfl
 replace ho26:=ho26.onlyT ho hold rfl
 replace ho28:=ho28.onlyT ho hold rfl
 replace hW:=Below.only hW ho hlo30
 clear hold
 have hB30:=hb
 clear hb ho
 refine Za rfl ?_
 refine Zt hK27 fun a hf=>?_
 refine wp_seq_k fun _ hK31=>?_
 refine wp_seq_k fun _ hK32=>?_
 refine Xy (fun a w=>Fr a 117 [(1,.slice Ay y.length cy),(2,.pointer (some ⟨b4,0,none⟩)),(6,.pointer (some ⟨b20,0,none⟩)),(7,.bool ((scO c y).isSome)),(8,.pointer (some ⟨b24,0,none⟩)),(9,.slice A26 y.length c26),(10,.pointer (some ⟨b30,0,none⟩)),(11,.bool ((scO c y).isSome)),(51,.bool ((!(eqC ((scO c y).getD cZ) ((scO c y).getD cZ)))||(((scO c y).isSome) != ((scO c y).isSome))))]∧Below w14.heap.size w14 w) ?_ ?_
 ·have hEc:Below w14.heap.size w14 w14:=Below.refl _ _
  refine Zr hf ?_
  refine Ze (Vn X12 hB30)<|Ze (Vn X12 hB20) ?_
  refine Zf (Vc (F19 _ ((scO c y).getD cZ) A28 c28 ho28.rd.top ((scO c y).getD cZ) A18 c18 ho18.rd.top (Nat.le_trans (X4t c y) (Nat.le_trans hc1 (by decide)))) Xb6) ?_;rintro _ w15 ⟨rfl,hE⟩
  replace hB4:=hB4.below hE
  replace hB20:=hB20.below hE
  replace hB24:=hB24.below hE
  replace hB30:=hB30.below hE
  replace ho18:=ho18.below hE
  replace ho22:=ho22.below hE
  replace ho26:=ho26.below hE
  replace ho28:=ho28.below hE
  replace hW:=btr hW hE
  replace hEc:=btr hEc hE
  refine Ze (X0u rfl)<|Zm rfl ?_
  refine Zg 47 rfl (fun hg33=>?_) (fun hg33=>?_)
  ·refine Zp ⟨_,_,rfl,rfl,hg33⟩ ?_
   refine Zp ⟨_,_,rfl,rfl,hg33⟩ ?_
   refine Zp ⟨_,_,rfl,rfl,hg33⟩ ?_
   refine Ze (Xe rfl hg33 rfl) ?_
   refine Zn fun a hf=>?_
   have hEE:Below w14.heap.size w14 w15:=hEc
   exact ⟨hf.sub ⟨rfl,rfl,rfl,rfl,rfl,rfl,rfl,rfl,X1 rfl (by first|rfl|(simp only [hc7b,hc13b,hg33,Bool.true_and,Bool.false_and,Bool.true_or,Bool.false_or];done)|(simp [hc7b,hc13b,hg33];done)|(exfalso;revert hg33;simp)),trivial⟩,hEE⟩
  refine Zv ⟨_,_,rfl,rfl,hg33⟩ (X2 rfl) ?_
  refine Zv ⟨_,_,rfl,rfl,hg33⟩ (X2 rfl) ?_
  refine Zv ⟨_,_,rfl,rfl,hg33⟩ (Xdd Tryz.underlying4 rfl rfl) ?_
  refine Ze (Xa rfl hg33 rfl) ?_
  refine Zn fun a hf=>?_
  have hEE:Below w14.heap.size w14 w15:=hEc
  exact ⟨hf.sub ⟨rfl,rfl,rfl,rfl,rfl,rfl,rfl,rfl,X1 rfl (by first|rfl|(simp only [hc7b,hc13b,hg33,Bool.true_and,Bool.false_and,Bool.true_or,Bool.false_or];done)|(simp [hc7b,hc13b,hg33];done)|(exfalso;revert hg33;simp)),trivial⟩,hEE⟩
 rintro a w16 ⟨hf,hE⟩
 replace hB4:=hB4.below hE
 replace hB20:=hB20.below hE
 replace hB24:=hB24.below hE
 replace hB30:=hB30.below hE
 replace ho18:=ho18.below hE
 replace ho22:=ho22.below hE
 replace ho26:=ho26.below hE
 replace ho28:=ho28.below hE
 replace hW:=btr hW hE
 refine hK32 _ _ ?_
 refine Xd hf rfl (fun hc34=>?_) (fun hc34=>?_)
 ·have hc34b:=hc34
  simp [eqC] at hc34
 have hc34b:=hc34
 refine wp_skip ?_
 refine hK31 _ _ ?_
 refine wp_seq_k fun _ hK35=>?_
 refine wp_seq_k fun _ hK36=>?_
 refine Xw none (fun _=>false) mixed ?_
 intro w17 hE
 replace hB4:=hB4.below hE
 replace hB20:=hB20.below hE
 replace hB24:=hB24.below hE
 replace hB30:=hB30.below hE
 replace ho18:=ho18.below hE
 replace ho22:=ho22.below hE
 replace ho26:=ho26.below hE
 replace ho28:=ho28.below hE
 replace hW:=btr hW hE
 refine Yb hf ?_
 refine Ye 0 rfl (Vn X12 hB24)<|Ye 1 rfl (Vn X8k hB4) ?_
 refine Y1 2 ?_
 refine Yk rfl trivial (Vc (F16 _ c Ac cc (hr_c.below' hW).top hc1) Xb3) (fun _ _ ⟨A37,c37,_,ho37,hE⟩=>hE) ?_;rintro _ w18 ⟨A37,c37,rfl,ho37,hE⟩
 have hap18_37:=ho18.apart ho37 (Nat.le_refl _)
 have hap22_37:=ho22.apart ho37 (Nat.le_refl _)
 have hap28_37:=ho28.apart ho37 (Nat.le_refl _)
 replace ho37:=ho37.lower hW.size
 replace hB4:=hB4.below hE
 replace hB20:=hB20.below hE
 replace hB24:=hB24.below hE
 replace hB30:=hB30.below hE
 replace ho18:=ho18.below hE
 replace ho22:=ho22.below hE
 replace ho26:=ho26.below hE
 replace ho28:=ho28.below hE
 replace hW:=btr hW hE
 refine Y1 3 ?_
 refine Yk rfl trivial (Vc (F19 _ c A22 c22 ho22.rd.top c A37 c37 ho37.rd.top (Nat.le_trans hc1 (by decide))) Xb6) (fun _ _ ⟨_,hE⟩=>hE) ?_;rintro _ w19 ⟨rfl,hE⟩
 replace hB4:=hB4.below hE
 replace hB20:=hB20.below hE
 replace hB24:=hB24.below hE
 replace hB30:=hB30.below hE
 replace ho18:=ho18.below hE
 replace ho22:=ho22.below hE
 replace ho26:=ho26.below hE
 replace ho28:=ho28.below hE
 replace ho37:=ho37.below hE
 replace hW:=btr hW hE
 refine Yo 4 rfl (fun _=>X0u rfl) ?_
 refine Yd fun a hf=>?_
 refine hK36 _ _ ?_
 refine Xd hf rfl (fun hc38=>?_) (fun hc38=>?_)
 ·have hc38b:=hc38
  simp [eqC] at hc38
 have hc38b:=hc38
 refine wp_skip ?_
 refine hK35 _ _ ?_
 refine wp_seq_k fun _ hK39=>?_
 refine Zs hf fun _ hK40=>?_
 refine Zm rfl<|Zm rfl ?_
 refine Zf (Vc (F17 _ Ay cy y (hr_y.below' hW).top hl1) Xb2) ?_;rintro _ w20 ⟨A41,c41,rfl,ho41,hE⟩
 have hap26_41:=ho26.apart ho41 (Nat.le_refl _)
 replace ho41:=ho41.lower hW.size
 replace hB4:=hB4.below hE
 replace hB20:=hB20.below hE
 replace hB24:=hB24.below hE
 replace hB30:=hB30.below hE
 replace ho18:=ho18.below hE
 replace ho22:=ho22.below hE
 replace ho26:=ho26.below hE
 replace ho28:=ho28.below hE
 replace hW:=btr hW hE
 refine Zf (Vc (F20 _ A26 c26 y ho26.rd.top A41 c41 y ho41.rd.top (Nat.le_trans hl1 (by decide))) Xl3) ?_;rintro _ w21 ⟨rfl,hE⟩
 replace hB4:=hB4.below hE
 replace hB20:=hB20.below hE
 replace hB24:=hB24.below hE
 replace hB30:=hB30.below hE
 replace ho18:=ho18.below hE
 replace ho22:=ho22.below hE
 replace ho26:=ho26.below hE
 replace ho28:=ho28.below hE
 replace ho41:=ho41.below hE
 replace hW:=btr hW hE
 refine Ze (X0u rfl) ?_
 refine Zt hK40 fun a hf=>?_
 refine Xd hf rfl (fun hc42=>?_) (fun hc42=>?_)
 ·have hc42b:=hc42
  simp at hc42
 have hc42b:=hc42
 refine wp_skip ?_
 refine hK39 _ _ ?_
 refine Zs hf fun _ hK43=>?_
 refine Za rfl ?_
 refine Zt hK43 fun a hf=>?_
 refine Zs hf fun _ hK44=>?_
 refine Ze (Vn X12 hB24)<|Zm rfl ?_
 refine Zf (Vc (F23 _ w0.heap.size A22 c22 c.gs ho22 c.n 1 (by decide) (Nat.le_trans hc1 (by decide))) Xgv) ?_;rintro _ w22 ⟨rfl,hnew,hg⟩
 have hown:=ho22
 replace hB4:=hB4.appT hown hg rfl
 replace hB20:=hB20.appT hown hg rfl
 replace hB24:=hB24.appT hown hg rfl
 replace hB30:=hB30.appT hown hg rfl
 replace ho18:=ho18.appP hg hap18_22
 replace ho26:=ho26.appT hown hg rfl
 replace ho28:=ho28.appP hg hap22_28.symm
 replace hW:=Below.app hW hown hg (Nat.le_refl _) hW.size
 clear hown hg;clear ho22;have ho22:=hnew;clear hnew
 refine Za rfl ?_
 refine Zt hK44 fun a hf=>?_
 refine Zs hf fun _ hK45=>?_
 refine Zm rfl<|Zm rfl ?_
 refine Zf (Vc (F24 _ w0.heap.size A26 c26 y ho26 (1+3*(c.gs.length:Int)) (by omega) (Nat.le_trans hl1 (by decide))) Xl6) ?_;rintro _ w23 ⟨rfl,hnew,hg⟩
 have hown:=ho26
 replace hB4:=hB4.appT hown hg rfl
 replace hB20:=hB20.appT hown hg rfl
 replace hB30:=hB30.appT hown hg rfl
 replace ho18:=ho18.appT hown hg rfl
 replace ho28:=ho28.appT hown hg rfl
 replace hW:=Below.app hW hown hg (Nat.le_refl _) hW.size
 clear hown hg;clear ho26;have ho26:=hnew;clear hnew
 refine Za rfl ?_
 refine Zt hK45 fun a hf=>?_
 refine wp_seq_k fun _ hK46=>?_
 refine wp_seq_k fun _ hK47=>?_
 refine Xy (fun a w=>Fr a 117 [(1,.slice Ay y.length cy),(2,.pointer (some ⟨b4,0,none⟩)),(6,.pointer (some ⟨b20,0,none⟩)),(7,.bool ((scO c y).isSome)),(10,.pointer (some ⟨b30,0,none⟩)),(80,.bool (((decide ((1+3*(c.gs.length:Int)+(y.length:Int))<0))||(!(eqC ((scO c y).getD cZ) ((scO c y).getD cZ))))||(((scO c y).isSome) != ((scO c y).isSome))))]∧Below w23.heap.size w23 w) ?_ ?_
 ·have hEc:Below w23.heap.size w23 w23:=Below.refl _ _
  refine Zr hf ?_
  refine Zm rfl<|Ze (X06 rfl rfl)<|Zm rfl ?_
  refine Zg 70 rfl (fun hg48=>?_) (fun hg48=>?_)
  ·refine Zp ⟨_,_,rfl,rfl,hg48⟩ ?_
   refine Zp ⟨_,_,rfl,rfl,hg48⟩ ?_
   refine Zp ⟨_,_,rfl,rfl,hg48⟩ ?_
   refine Zp ⟨_,_,rfl,rfl,hg48⟩ ?_
   refine Ze (Xe rfl hg48 rfl)<|Zm rfl<|Zp ⟨_,_,rfl,rfl,rfl⟩ ?_
   refine Zp ⟨_,_,rfl,rfl,rfl⟩ ?_
   refine Zp ⟨_,_,rfl,rfl,rfl⟩ ?_
   refine Ze (Xe rfl rfl rfl) ?_
   refine Zn fun a hf=>?_
   have hEE:Below w23.heap.size w23 w23:=hEc
   exact ⟨hf.sub ⟨rfl,rfl,rfl,rfl,rfl,X1 rfl (by first|rfl|(simp only [hc7b,hc13b,hc34b,hc38b,hc42b,hg48,Bool.true_and,Bool.false_and,Bool.true_or,Bool.false_or];done)|(simp [hc7b,hc13b,hc34b,hc38b,hc42b,hg48];done)|(exfalso;revert hg48;simp)),trivial⟩,hEE⟩
  refine Zv ⟨_,_,rfl,rfl,hg48⟩ (Vn X12 hB30) ?_
  refine Zv ⟨_,_,rfl,rfl,hg48⟩ (Vn X12 hB20) ?_
  refine Zk ⟨_,_,rfl,rfl,hg48⟩ (Vc (F19 _ ((scO c y).getD cZ) A28 c28 ho28.rd.top ((scO c y).getD cZ) A18 c18 ho18.rd.top (Nat.le_trans (X4t c y) (Nat.le_trans hc1 (by decide)))) Xb6) ?_;rintro _ w24 ⟨rfl,hE⟩
  replace hB4:=hB4.below hE
  replace hB20:=hB20.below hE
  replace hB30:=hB30.below hE
  replace ho18:=ho18.below hE
  replace ho28:=ho28.below hE
  replace hW:=btr hW hE
  replace hEc:=btr hEc hE
  refine Zv ⟨_,_,rfl,rfl,hg48⟩ (X0u rfl) ?_
  refine Ze (Xa rfl hg48 rfl)<|Zm rfl ?_
  refine Zg 76 rfl (fun hg49=>?_) (fun hg49=>?_)
  ·refine Zp ⟨_,_,rfl,rfl,hg49⟩ ?_
   refine Zp ⟨_,_,rfl,rfl,hg49⟩ ?_
   refine Zp ⟨_,_,rfl,rfl,hg49⟩ ?_
   refine Ze (Xe rfl hg49 rfl) ?_
   refine Zn fun a hf=>?_
   have hEE:Below w23.heap.size w23 w24:=hEc
   exact ⟨hf.sub ⟨rfl,rfl,rfl,rfl,rfl,X1 rfl (by first|rfl|(simp only [hc7b,hc13b,hc34b,hc38b,hc42b,hg48,hg49,Bool.true_and,Bool.false_and,Bool.true_or,Bool.false_or];done)|(simp [hc7b,hc13b,hc34b,hc38b,hc42b,hg48,hg49];done)|(exfalso;revert hg49;simp)),trivial⟩,hEE⟩
  refine Zv ⟨_,_,rfl,rfl,hg49⟩ (X2 rfl) ?_
  refine Zv ⟨_,_,rfl,rfl,hg49⟩ (X2 rfl) ?_
  refine Zv ⟨_,_,rfl,rfl,hg49⟩ (Xdd Tryz.underlying4 rfl rfl) ?_
  refine Ze (Xa rfl hg49 rfl) ?_
  refine Zn fun a hf=>?_
  have hEE:Below w23.heap.size w23 w24:=hEc
  exact ⟨hf.sub ⟨rfl,rfl,rfl,rfl,rfl,X1 rfl (by first|rfl|(simp only [hc7b,hc13b,hc34b,hc38b,hc42b,hg48,hg49,Bool.true_and,Bool.false_and,Bool.true_or,Bool.false_or];done)|(simp [hc7b,hc13b,hc34b,hc38b,hc42b,hg48,hg49];done)|(exfalso;revert hg49;simp)),trivial⟩,hEE⟩
 rintro a w25 ⟨hf,hE⟩
 replace hB4:=hB4.below hE
 replace hB20:=hB20.below hE
 replace hB30:=hB30.below hE
 replace ho18:=ho18.below hE
 replace ho28:=ho28.below hE
 replace hW:=btr hW hE
 refine hK47 _ _ ?_
 refine Xd hf rfl (fun hc50=>?_) (fun hc50=>?_)
 ·have hc50b:=hc50
  have h9:¬ (1+3*(c.gs.length:Int)+(y.length:Int)<0):=by omega
  simp [h9,eqC] at hc50
 have hc50b:=hc50
 refine wp_skip ?_
 refine hK46 _ _ ?_
 refine Zs hf fun _ hK51=>?_
 refine Za rfl ?_
 refine Zt hK51 fun a hf=>?_
 refine Zs hf fun _ hK52=>?_
 refine Ze (Vn X12 hB30)<|Zm rfl ?_
 refine Zf (Vc (F23 _ w0.heap.size A28 c28 (((scO c y).getD cZ).gs) ho28 (((scO c y).getD cZ).n) 1 (by decide) (Nat.le_trans (X4t c y) (Nat.le_trans hc1 (by decide)))) Xgv) ?_;rintro _ w26 ⟨rfl,hnew,hg⟩
 have hown:=ho28
 replace hB4:=hB4.appT hown hg rfl
 replace hB20:=hB20.appT hown hg rfl
 replace hB30:=hB30.appT hown hg rfl
 replace ho18:=ho18.appP hg hap18_28
 replace hW:=Below.app hW hown hg (Nat.le_refl _) hW.size
 clear hown hg;clear ho28;have ho28:=hnew;clear hnew
 refine Za rfl ?_
 refine Zt hK52 fun a hf=>?_
 refine Zs hf fun _ hK53=>?_
 refine Za rfl ?_
 refine Zt hK53 fun a hf=>?_
 refine Zs hf fun _ hK54=>?_
 refine Ze (Vn X12 hB30)<|Zm rfl ?_
 refine Zf (Vc (F33 _ A28 c28 (((scO c y).getD cZ).gs).length (markG 1 (((scO c y).getD cZ).gs).length) (X3l _ _).symm ho28.rd.top (((scO c y).getD cZ).n) 1 (by decide) (by rw [X3l];exact (Nat.le_trans (X4t c y) (Nat.le_trans hc1 (by decide))))) Xgw) ?_;rintro _ w27 ⟨rfl,hE⟩
 replace hB4:=hB4.below hE
 replace hB20:=hB20.below hE
 replace hB30:=hB30.below hE
 replace ho18:=ho18.below hE
 replace ho28:=ho28.below hE
 replace hW:=btr hW hE
 refine Za rfl ?_
 refine Zt hK54 fun a hf=>?_
 refine wp_seq_k fun _ hK55=>?_
 refine Zs hf fun _ hK56=>?_
 refine Zm rfl<|Ze (X06 rfl rfl) ?_
 refine Zt hK56 fun a hf=>?_
 refine Xd hf rfl (fun hc57=>?_) (fun hc57=>?_)
 ·have hc57b:=hc57
  have hc57:=of_decide_eq_true hc57
  rw [X45] at hc57;omega
 have hc57b:=hc57
 have hc57:=of_decide_eq_false hc57
 refine wp_skip ?_
 refine hK55 _ _ ?_
 refine wp_seq_k fun _ hK58=>?_
 refine Zs hf fun _ hK59=>?_
 refine Zm rfl<|Zm rfl<|Ze (X1e rfl rfl) ?_
 refine Zt hK59 fun a hf=>?_
 refine Xd hf rfl (fun hc60=>?_) (fun hc60=>?_)
 ·have hc60b:=hc60
  rw [X45] at hc60;simp at hc60
 have hc60b:=hc60
 refine wp_skip ?_
 refine hK58 _ _ ?_
 refine Zs hf fun _ hK61=>?_
 refine Ze (Vn X8k hB4) ?_
 refine Zf (Vc (F16 _ c Ac cc (hr_c.below' hW).top hc1) Xb3) ?_;rintro _ w28 ⟨A62,c62,rfl,ho62,hE⟩
 have hap18_62:=ho18.apart ho62 (Nat.le_refl _)
 have hap28_62:=ho28.apart ho62 (Nat.le_refl _)
 replace ho62:=ho62.lower hW.size
 replace hB4:=hB4.below hE
 replace hB20:=hB20.below hE
 replace hB30:=hB30.below hE
 replace ho18:=ho18.below hE
 replace ho28:=ho28.below hE
 replace hW:=btr hW hE
 refine Zm rfl ?_
 refine Zf (Vc (F17 _ Ay cy y (hr_y.below' hW).top hl1) Xb2) ?_;rintro _ w29 ⟨A63,c63,rfl,ho63,hE⟩
 replace ho63:=ho63.lower hW.size
 replace hB4:=hB4.below hE
 replace hB20:=hB20.below hE
 replace hB30:=hB30.below hE
 replace ho18:=ho18.below hE
 replace ho28:=ho28.below hE
 replace ho62:=ho62.below hE
 replace hW:=btr hW hE
 refine Zf (Vc (F32 _ c A62 c62 ho62.rd.top A63 c63 y ho63.rd.top (Nat.le_trans hc1 (by decide))) Xh1) ?_;rintro _ w30 ⟨A64,c64,rfl,ho64,hE⟩
 have hap18_64:=ho18.apart ho64 (Nat.le_refl _)
 have hap28_64:=ho28.apart ho64 (Nat.le_refl _)
 have hap62_64:=ho62.apart ho64 (Nat.le_refl _)
 replace ho64:=ho64.lower hW.size
 replace hB4:=hB4.below hE
 replace hB20:=hB20.below hE
 replace hB30:=hB30.below hE
 replace ho18:=ho18.below hE
 replace ho28:=ho28.below hE
 replace ho62:=ho62.below hE
 replace ho63:=ho63.below hE
 replace hW:=btr hW hE
 refine Zm rfl<|Ze (X9 (vs:=[.agg #[vi (((scO c y).getD cZ).n),.slice A64 (((scO c y).getD cZ).gs).length c64],.bool ((scO c y).isSome)]) rfl rfl)<|Ze (X9 (vs:=[.agg #[vi (((scO c y).getD cZ).n),.slice A64 (((scO c y).getD cZ).gs).length c64],.bool ((scO c y).isSome)]) rfl rfl) ?_
 refine Zf (X8 (zs:=[vi 0,.slice none 0 0]) X5h rfl) ?_;rintro _ w31 ⟨b66,rfl,hl66,hE,hB66⟩
 have hne20_66:b20≠b66:=by have:=hB20.lt;omega
 have hne30_66:b30≠b66:=by have:=hB30.lt;omega
 have hlo66:=Nat.le_trans hW.size hl66
 replace hB4:=hB4.below hE
 replace hB20:=hB20.below hE
 replace hB30:=hB30.below hE
 replace ho18:=ho18.below hE
 replace ho28:=ho28.below hE
 replace ho62:=ho62.below hE
 replace ho63:=ho63.below hE
 replace ho64:=ho64.below hE
 replace hW:=btr hW hE
 refine Zo (Vw [vi (((scO c y).getD cZ).n),.slice A64 (((scO c y).getD cZ).gs).length c64] X2l hB66) ?_;rintro _ w32 ⟨ho,hb⟩
 have hold:=hB66
 replace hB4:=hB4.only ho (Blk.ne hB4 hold rfl)
 replace hB20:=hB20.only ho (by omega)
 replace hB30:=hB30.only ho (by omega)
 replace ho18:=ho18.onlyT ho hold rfl
 replace ho28:=ho28.onlyT ho hold rfl
 replace ho62:=ho62.onlyT ho hold rfl
 replace ho63:=ho63.onlyT ho hold rfl
 replace ho64:=ho64.onlyT ho hold rfl
 replace hW:=Below.only hW ho hlo66
 clear hold
 have hB66:=hb
 clear hb ho
 refine Za rfl ?_
 refine Zt hK61 fun a hf=>?_
 refine wp_seq_k fun _ hK67=>?_
 refine wp_seq_k fun _ hK68=>?_
 refine Xy (fun a w=>Fr a 117 [(10,.pointer (some ⟨b30,0,none⟩)),(13,vi (1+3*((((scO c y).getD cZ).gs).length:Int))),(108,.bool ((!(eqC ((scO c y).getD cZ) ((scO c y).getD cZ)))||(((scO c y).isSome) != ((scO c y).isSome))))]∧Below w32.heap.size w32 w) ?_ ?_
 ·have hEc:Below w32.heap.size w32 w32:=Below.refl _ _
  refine Zr hf ?_
  refine Ze (Vn X12 hB66)<|Ze (Vn X12 hB20) ?_
  refine Zf (Vc (F19 _ ((scO c y).getD cZ) A64 c64 ho64.rd.top ((scO c y).getD cZ) A18 c18 ho18.rd.top (Nat.le_trans (X4t c y) (Nat.le_trans hc1 (by decide)))) Xb6) ?_;rintro _ w33 ⟨rfl,hE⟩
  replace hB20:=hB20.below hE
  replace hB30:=hB30.below hE
  replace hB66:=hB66.below hE
  replace ho18:=ho18.below hE
  replace ho28:=ho28.below hE
  replace ho64:=ho64.below hE
  replace hW:=btr hW hE
  replace hEc:=btr hEc hE
  refine Ze (X0u rfl)<|Zm rfl ?_
  refine Zg 104 rfl (fun hg69=>?_) (fun hg69=>?_)
  ·refine Zp ⟨_,_,rfl,rfl,hg69⟩ ?_
   refine Zp ⟨_,_,rfl,rfl,hg69⟩ ?_
   refine Zp ⟨_,_,rfl,rfl,hg69⟩ ?_
   refine Ze (Xe rfl hg69 rfl) ?_
   refine Zn fun a hf=>?_
   have hEE:Below w32.heap.size w32 w33:=hEc
   exact ⟨hf.sub ⟨rfl,rfl,X1 rfl (by first|rfl|(simp only [hc7b,hc13b,hc34b,hc38b,hc42b,hc50b,hc57b,hc60b,hg69,Bool.true_and,Bool.false_and,Bool.true_or,Bool.false_or];done)|(simp [hc7b,hc13b,hc34b,hc38b,hc42b,hc50b,hc57b,hc60b,hg69];done)|(exfalso;revert hg69;simp)),trivial⟩,hEE⟩
  refine Zv ⟨_,_,rfl,rfl,hg69⟩ (X2 rfl) ?_
  refine Zv ⟨_,_,rfl,rfl,hg69⟩ (X2 rfl) ?_
  refine Zv ⟨_,_,rfl,rfl,hg69⟩ (Xdd Tryz.underlying4 rfl rfl) ?_
  refine Ze (Xa rfl hg69 rfl) ?_
  refine Zn fun a hf=>?_
  have hEE:Below w32.heap.size w32 w33:=hEc
  exact ⟨hf.sub ⟨rfl,rfl,X1 rfl (by first|rfl|(simp only [hc7b,hc13b,hc34b,hc38b,hc42b,hc50b,hc57b,hc60b,hg69,Bool.true_and,Bool.false_and,Bool.true_or,Bool.false_or];done)|(simp [hc7b,hc13b,hc34b,hc38b,hc42b,hc50b,hc57b,hc60b,hg69];done)|(exfalso;revert hg69;simp)),trivial⟩,hEE⟩
 rintro a w34 ⟨hf,hE⟩
 replace hB20:=hB20.below hE
 replace hB30:=hB30.below hE
 replace hB66:=hB66.below hE
 replace ho18:=ho18.below hE
 replace ho28:=ho28.below hE
 replace ho64:=ho64.below hE
 replace hW:=btr hW hE
 refine hK68 _ _ ?_
 refine X8g hf (X1 rfl hc34b) ?_
 refine wp_skip ?_
 refine hK67 _ _ ?_
 refine Zs hf fun _ hK70=>?_
 refine Za rfl ?_
 refine Zt hK70 fun a hf=>?_
 refine Zs hf fun _ hK71=>?_
 refine Ze (Vn X12 hB30)<|Zm rfl ?_
 refine Zf (Vc (F33 _ A28 c28 (((scO c y).getD cZ).gs).length (markG 1 (((scO c y).getD cZ).gs).length) (X3l _ _).symm ho28.rd.top (((scO c y).getD cZ).n) 1 (by decide) (by rw [X3l];exact (Nat.le_trans (X4t c y) (Nat.le_trans hc1 (by decide))))) Xgw) ?_;rintro _ w35 ⟨rfl,hE⟩
 replace hB30:=hB30.below hE
 replace ho28:=ho28.below hE
 replace hW:=btr hW hE
 refine Za rfl ?_
 refine Zt hK71 fun a hf=>?_
 refine wp_seq_k fun _ hK72=>?_
 refine Zs hf fun _ hK73=>?_
 refine Zm rfl<|Ze (X06 rfl rfl) ?_
 refine Zt hK73 fun a hf=>?_
 refine X8g hf (X1 rfl hc57b) ?_
 refine wp_skip ?_
 refine hK72 _ _ ?_
 refine wp_seq_k fun _ hK74=>?_
 refine Zs hf fun _ hK75=>?_
 refine Zm rfl<|Zm rfl<|Ze (X1e rfl rfl) ?_
 refine Zt hK75 fun a hf=>?_
 refine X8g hf (X1 rfl hc60b) ?_
 refine wp_skip ?_
 refine hK74 _ _ ?_
 refine Zs hf fun _ hK76=>?_
 refine Za rfl ?_
 refine Zt hK76 fun a hf=>?_
 refine wp_ret (X5 hf (Xl hf rfl rfl) ?_)
 exact ⟨rfl,hW⟩
end Go.Proofs.YtgkoieoaamkjhaaGreat
namespace Go.Proofs.YtgkoieoaamkjhaaGreat
open Go.RowKit Go.ChangeShapes Go.WideShapes Go.Deep Go.Joins
theorem Xbt{α:Type}{n:Nat}{Q:Nat→α→Prop}(h:∀ i,i<n→∃ g,Q i g) : ∃ l:List α,l.length=n∧∀ i g,l[i]? = some g→Q i g:=by
 induction n with
 | zero=>exact ⟨[],rfl,fun i g h=>by simp at h⟩
 | succ n ih=>
  obtain ⟨l,h1,h2⟩:=ih fun i hi=>h i (by omega)
  obtain ⟨g,hg⟩:=h n (by omega)
  refine ⟨l++[g],by simp [h1],fun i g' hi=>?_⟩
  rcases Nat.lt_or_ge i n with hin|hin
  ·rw [List.getElem?_append_left (by omega)] at hi
   exact h2 i g' hi
  ·rw [List.getElem?_append_right (by omega)] at hi
   have:i-l.length=0:=by
    rcases Nat.eq_zero_or_pos (i-l.length) with h|h
    ·exact h
    ·rw [List.getElem?_eq_none (by simp;omega)] at hi;cases hi
   rw [this] at hi
   injection hi with hi
   subst hi
   have:i=n:=by omega
   subst this
   exact hg
theorem X58{α:Type}{w:World}{enc:α→List Value}{sz:Nat}(hsz:∀ x,(enc x).length=sz)(h0:0<sz){p:Addr}{l:List α}
  (h:∀ i g,l[i]? = some g→∀ j v,(enc g)[j]? = some v→w.cell? (p.add (i*sz+j))=some v) : ∃ E,Rd w w.heap.size E enc (some p) l:=by
 by_cases hl:l=[]
 ·subst hl;exact ⟨0,Rd.nil _ _ _ _ _⟩
 ·obtain ⟨g0,l',rfl⟩:=List.exists_cons_of_ne_nil hl
  obtain ⟨v0,hv0⟩ : ∃ v,(enc g0)[0]? = some v:=⟨_,List.getElem?_eq_getElem (by rw [hsz];exact h0)⟩
  have hc:=h 0 g0 rfl 0 v0 hv0
  obtain ⟨b,off,spot⟩:=p
  have hb:=Xbv hc
  rw [X2x] at hb
  have hsp:spot=none:=by
   cases spot with
   | none=>rfl
   | some s=>simp [World.cell?,Addr.add] at hc;split at hc<;>simp_all
  subst hsp
  have hobj:∃ cs E fz,w.heap[b]? = some (.cells cs E fz):=by
   rw [X19] at hc
   simp only [World.cell?] at hc
   split at hc
   ·rename_i c E fz hh;exact ⟨c,E,fz,hh⟩
   ·cases hc
  obtain ⟨cs,E,fz,hh⟩:=hobj
  refine ⟨E,fun _=>⟨b,off,cs,fz,rfl,hb,hh,fun j v hj=>?_⟩⟩
  have hjl:j<((g0::l').flatMap enc).length:=(List.getElem?_eq_some_iff.1 hj).1
  rw [Xo hsz] at hjl
  obtain ⟨x,hx,h1⟩:=X57 hsz hjl
  rw [h1] at hj
  have:=h _ _ hx _ _ hj
  rw [X19,show j/sz*sz+j % sz=j from by rw [Nat.mul_comm];exact Nat.div_add_mod j sz] at this
  simpa [World.cell?,hh] using this
section
variable {H : Type} {enc : TypeId × Value → H} {w : World} {base fuel : Nat} {spare : Nat → Bool} {held : Bool}
theorem Xl1{α:Type}{l:List α}(h:l.length=3) : ∃ a b c,l=[a,b,c]:=by
 match l,h with
 | [a,b,c],_=>exact ⟨a,b,c,rfl⟩
theorem X92:Tryz.prog.cellsOf 72=3:=by kernel_rfl
theorem Xar:Tryz.prog.cellsOf 3=1:=by kernel_rfl
theorem Xcl{cs:List Value}{x:DataW H×List MemPlace}(h:DataW.trod enc Tryz.prog w base spare held fuel 72 cs=some x) : ∃ g:Gt,cs=encG g:=by
 obtain ⟨y0,y1,y2,n,_,hl,h0,h1,h2⟩:=trod_struct3 Tryz.underlying72 h
 rw [X92] at hl
 obtain ⟨c0,c1,c2,rfl⟩:=Xl1 hl
 simp only [Xar] at h0 h1 h2
 obtain ⟨a,e0,_⟩:=DataW.trod_int Tryz.underlying3 h0
 obtain ⟨b,e1,_⟩:=DataW.trod_int Tryz.underlying3 h1
 obtain ⟨c,e2,_⟩:=DataW.trod_int Tryz.underlying3 h2
 simp at e0 e1 e2
 exact ⟨⟨a,b,c⟩,by rw [e0,e1,e2];rfl⟩
set_option maxRecDepth 100000 in
theorem Xap{cs:List Value}{x:DataW H×List MemPlace}(h:DataW.trod enc Tryz.prog w base spare held fuel 22 cs=some x)(hsp:∀ b,spare b=true) :
  ∃ A l c E,cs=[.slice A l.length c]∧Rd w w.heap.size E encG A l∧l.length≤9223372036854775807:=by
 rcases open_slice Tryz.underlying22 h with ⟨hcs,_⟩|⟨a,len,cap,m,n,D,Pl,hcs,hb,hl,hm,hmm,_,hi⟩
 ·exact ⟨none,[],0,0,hcs,Rd.nil _ _ _ _ _,by simp⟩
 ·rw [X92] at hi
  have hlm:len≤m:=by rw [hmm,hsp];simpa using hl
  obtain ⟨l,h1,h2⟩:=Xbt (n:=len) (Q:=fun i g=>∀ j v,(encG g)[j]? = some v→w.cell? (a.add (i*3+j))=some v) fun i hilt=>by
   obtain ⟨cs',hc,ht⟩:=hi i (by omega)
   obtain ⟨g,rfl⟩:=Xcl ht
   obtain ⟨_,_,hat⟩:=World.cells?_some hc
   refine ⟨g,fun j v hj=>?_⟩
   have hj3:j<3:=by have:=(List.getElem?_eq_some_iff.1 hj).1;simpa [encG] using this
   rw [← X33,hat j hj3]
   exact hj
  obtain ⟨E,hr⟩:=X58 Xx (by decide) h2
  refine ⟨some a,l,cap,E,by rw [hcs,h1],hr,?_⟩
  simp only [maxLen] at hm
  omega
end
end Go.Proofs.YtgkoieoaamkjhaaGreat
namespace Go.Proofs.YtgkoieoaamkjhaaGreat
open Go.RowKit Go.ChangeShapes Go.WideShapes Go.Deep Go.Joins
section
variable {H : Type} {enc : TypeId × Value → H} {w : World} {base fuel : Nat} {spare : Nat → Bool} {held : Bool}
theorem Xgh:Tryz.prog.cellsOf 22=1:=by kernel_rfl
theorem Xfv:Tryz.prog.cellsOf 24=2:=by kernel_rfl
set_option maxRecDepth 100000 in
theorem X8c{cs:List Value}{x:DataW H×List MemPlace}(h:DataW.trod enc Tryz.prog w base spare held fuel 24 cs=some x)(hsp:∀ b,spare b=true) :
  ∃ (c:Cx) (A:Option Addr) (k:Nat) (E:TypeId),cs=[.int .i64 c.n,.slice A c.gs.length k]∧Rd w w.heap.size E encG A c.gs∧c.gs.length≤9223372036854775807:=by
 obtain ⟨y0,y1,n,_,hl,h0,h1⟩:=trod_struct2 Tryz.underlying24 h
 rw [Xfv] at hl
 match cs,hl with
 | [c0,c1],_=>
  simp only [Xar] at h0
  simp only [Xgh] at h1
  obtain ⟨a,e0,_⟩:=DataW.trod_int Tryz.underlying3 h0
  obtain ⟨A,l,c,E1,e1,hr1,hl1⟩:=Xap h1 hsp
  simp at e0 e1
  exact ⟨⟨a,l⟩,A,c,E1,by rw [e0,e1],hr1,hl1⟩
end
end Go.Proofs.YtgkoieoaamkjhaaGreat
namespace Go.Proofs.YtgkoieoaamkjhaaGreat
open Go.RowKit Go.ChangeShapes Go.WideShapes Go.Deep Go.Joins
section
variable {H : Type} {enc : TypeId × Value → H} {w : World} {base fuel : Nat} {spare : Nat → Bool} {held : Bool}
set_option maxRecDepth 100000 in
theorem Xcu{cs:List Value}{x:DataW H×List MemPlace}(h:DataW.trod enc Tryz.prog w base spare held fuel 25 cs=some x)(hsp:∀ b,spare b=true) :
  ∃ A l c E,cs=[.slice A l.length c]∧Rd w w.heap.size E encI A l∧l.length≤9223372036854775807:=by
 rcases open_slice Tryz.underlying25 h with ⟨hcs,_⟩|⟨a,len,cap,m,n,D,Pl,hcs,hb,hl,hm,hmm,_,hi⟩
 ·exact ⟨none,[],0,0,hcs,Rd.nil _ _ _ _ _,by simp⟩
 ·rw [Xar] at hi
  have hlm:len≤m:=by rw [hmm,hsp];simpa using hl
  obtain ⟨l,h1,h2⟩:=Xbt (n:=len) (Q:=fun i g=>∀ j v,(encI g)[j]? = some v→w.cell? (a.add (i*1+j))=some v) fun i hilt=>by
   obtain ⟨cs',hc,ht⟩:=hi i (by omega)
   obtain ⟨g,rfl,_⟩:=DataW.trod_int Tryz.underlying3 ht
   obtain ⟨_,_,hat⟩:=World.cells?_some hc
   refine ⟨g,fun j v hj=>?_⟩
   have hj3:j<1:=by have:=(List.getElem?_eq_some_iff.1 hj).1;simpa [encI] using this
   rw [← X33,hat j hj3]
   exact hj
  obtain ⟨E,hr⟩:=X58 X7 (by decide) h2
  refine ⟨some a,l,cap,E,by rw [hcs,h1],hr,?_⟩
  simp only [maxLen] at hm
  omega
end
end Go.Proofs.YtgkoieoaamkjhaaGreat
namespace Go.Proofs.YtgkoieoaamkjhaaGreat
open Go.ChangeShapes Go.WideShapes Go.ChangeAt Go.RowKit Go.Deep Go.Joins
set_option linter.unusedVariables false
theorem own:ownKnob Tryz.prog.godebug=none:=by kernel_rfl
theorem Xbj:laidOutB Tryz.prog=true:=by kernel_rfl
section
variable {H : Type} {enc : TypeId × Value → H} {P : Program}
theorem Xb0{f:Func}{s:ChangeSpec}{fresh handsOn:Bool}{W W':World}{args:Array Value}{v:Value}{ds gs:List (DataW H)}{before pa pv:List MemPlace}
  (hW:DataW.Whole enc P f.params.toList s.vars false W args.toList ds gs before)
  (hres:∀ (b:Nat) (sp:Nat→Bool) (hd:Bool),DataW.TrodAll enc P W' b sp hd f.resultTypes.toList (v.resultList f.resultTypes.size) (s.fn H (ds++gs)).results [])
  (hargs:∀ sp:Nat→Bool,(∀ p ∈ before,sp p.block=true)→DataW.TrodAll enc P W' 0 sp true f.params.toList args.toList (s.fn H (ds++gs)).args pa)
  (hvars:∀ sp:Nat→Bool,(∀ p ∈ before,sp p.block=true)→DataW.TrodVars enc P W' sp s.vars (s.fn H (ds++gs)).vars pv)
  (hps:before=pa++pv) (hb:Below W.heap.size W W') :
  s.post enc P f false fresh handsOn false W args v W':=by
 have hlt:∀ p ∈ before,p.block<W.heap.size:=fun p hp=>hW.lt p hp
 have hold:∀ p ∈ before,(fun b=>decide (b<W.heap.size)) p.block=true:=fun p hp=>by simpa using hlt p hp
 refine ⟨ds,gs,before,[],pa,pv,hW,hres _ _ _,hargs _ hold,hvars _ hold,World.keptBut_mono (fun p hp=>⟨hp,?_⟩) (hb.frame (· ∈ before)),fun h=>by cases h⟩
 rw [hps,List.mem_append] at hp
 exact Or.inr hp
end
set_option maxRecDepth 100000 in
theorem Xc8{H:Type}{enc:TypeId×Value→H}{w:World}{base b0:Nat}{spare:Nat→Bool}{held:Bool}{r:Reach}{v:Value}{d:DataW H}{p:List MemPlace}(hv:Value.okWide Tryz.prog w r b0 24 v)(h:DataW.Trod enc Tryz.prog w base spare held 24 v d p)(hsp:∀ b,spare b=true) :
  ∃ (c:Cx) (A:Option Addr) (k:Nat) (E:TypeId),v=.agg #[.int .i64 c.n,.slice A c.gs.length k]∧Rd w w.heap.size E encG A c.gs∧c.gs.length≤9223372036854775807:=by
 obtain ⟨⟨cs⟩,rfl,hsz⟩:=okWide_struct Tryz.underlying24 hv
 obtain ⟨fuel,hf⟩:=h
 obtain ⟨c,A,k,E,e0,hr,hl⟩:=X8c hf hsp
 simp [Value.cells] at e0
 exact ⟨c,A,k,E,by rw [e0],hr,hl⟩
set_option maxRecDepth 100000 in
theorem Xdq{H:Type}{enc:TypeId×Value→H}{w:World}{base b0:Nat}{spare:Nat→Bool}{held:Bool}{r:Reach}{v:Value}{d:DataW H}{p:List MemPlace}(hv:Value.okWide Tryz.prog w r b0 25 v)(h:DataW.Trod enc Tryz.prog w base spare held 25 v d p)(hsp:∀ b,spare b=true) :
  ∃ (A:Option Addr) (l:List Int) (k:Nat) (E:TypeId),v=.slice A l.length k∧Rd w w.heap.size E encI A l∧l.length≤9223372036854775807:=by
 obtain ⟨a1,n1,k1,rfl⟩:=okWide_slice Tryz.underlying25 hv
 obtain ⟨fuel,hf⟩:=h
 obtain ⟨A,l,k,E,e0,hr,hl⟩:=Xcu hf hsp
 simp [Value.cells] at e0
 obtain ⟨rfl,rfl,rfl⟩:=e0
 exact ⟨_,l,_,E,rfl,hr,hl⟩
end Go.Proofs.YtgkoieoaamkjhaaGreat
namespace Go.Proofs.YtgkoieoaamkjhaaGreat
open Go.ChangeShapes Go.WideShapes Go.ChangeAt Go.RowKit Go.Deep Go.Joins
set_option linter.unusedVariables false
set_option maxRecDepth 100000 in
theorem X6o(os:Os)(started:os.Started)(H:Type)(enc:TypeId×Value→H) :
  ReturnsInHanded {} Tryz.checked os 3 .any (Rows.fnExactScheduleCircuitSpec.pre6 enc Tryz.prog Tryz.f3 Rows.fnExactScheduleCircuitRow.domain false) (Rows.fnExactScheduleCircuitSpec.post enc Tryz.prog Tryz.f3 false true false false):=by
 refine returnsInHanded_of_change (C:=Tryz.checked) own started (by kernel_rfl) Tryz.func3
  (ChangeSpec.witness6 (enc:=enc) (C:=Tryz.checked) false ⟨#[],#[.agg #[.int .i64 0,.slice none 0 0],.slice none 0 0],[]⟩ 8 (by kernel_rfl) (by kernel_rfl) (by kernel_rfl) (by kernel_rfl)) ?_
 intro W base args ds gs before hval0 hW hcnd _
 have hval:∀ (j:Nat) t v,Tryz.f3.params[j]? = some t→args[j]? = some v→Value.okWide Tryz.prog W .any base t v:=hval0
 have hW':=hW
 obtain ⟨p,q,hA0,hV,rfl,hfz,hnd⟩:=hW
 have hA:DataW.TrodAll enc Tryz.prog W 0 (fun _=>true) true Tryz.f3.params.toList args.toList ds p:=hA0
 rw [Tryz.params3] at hA hval
 obtain ⟨v0,v1,d0,d1,p0,p1,rfl,rfl,rfl,h0,h1⟩:=trodAll_two hA
 obtain ⟨rfl,rfl⟩:=trodVars_none hV
 have h0k:=h0
 have h1k:=h1
 obtain ⟨c,A,i,E,rfl,hr0,hl0⟩:=Xc8 (hval 0 24 v0 rfl rfl) h0 (fun _=>rfl)
 obtain ⟨B,l,k,F,rfl,hr1,hl1⟩:=Xdq (hval 1 25 v1 rfl rfl) h1 (fun _=>rfl)
 clear hA0 hval0
 simp only [List.append_nil] at hW'
 have hlt:∀ x ∈ p0++p1,x.block<W.heap.size:=fun x hx=>hW'.lt x (by simpa using hx)
 refine Calls.mono (F7 W c A i hr0 B k l hr1 hl0 hl1) fun r W' ⟨v,he,hv,hb⟩=>?_
 subst hv
 refine ⟨_,he,Xb0 (pa:=p0++p1) (pv:=[]) hW' (fun _ _ _=>trodAll_mk1 (shut_bool Tryz.underlying4 true)) (fun sp hsp=>?_) (fun _ _=>rfl) (by simp) hb⟩
 exact trodAll_mk2 (WideElems.Trod_stays Xbj (by kernel_rfl) (of_decide_eq_true (by kernel_rfl)) h0k (fun x hx=>hb.same (hlt x (List.mem_append_left _ hx))) (fun x hx=>hsp x (by simp [hx])))
  (WideElems.Trod_stays Xbj (by kernel_rfl) (of_decide_eq_true (by kernel_rfl)) h1k (fun x hx=>hb.same (hlt x (List.mem_append_right _ hx))) (fun x hx=>hsp x (by simp [hx])))
theorem schedc_holds:Rows.FnExactScheduleCircuitSaid:=
 OpenClaim.holds_of_wide 3 Tryz.f3 rfl rfl rfl rfl rfl rfl rfl ⟨rfl,rfl,rfl,rfl,rfl⟩ rfl rfl rfl rfl rfl (by kernel_rfl) Tryz.func3 (by kernel_rfl)
  (of_decide_eq_true (by kernel_rfl)) (by unfold Func.isWrapper;first|(rw [if_pos (by decide +kernel)];kernel_rfl)|(rw [if_neg (by decide +kernel)];exact ⟨rfl,rfl⟩))
  (fun os started H enc _=>X6o os started H enc)
end Go.Proofs.YtgkoieoaamkjhaaGreat
