/-
  What is proved: for every drawn pair of gates, they commute exactly if the products of their matrices in both orders are equal (and depths of drawn circuits agree and are bounded): the law returns true at every input and leaves its arguments as they were. Conditions: none.
-/
import Derived.Test.YtlfjcmldfbfdbaaGreatD4
import Derived.Test.YtlfjcmldfbfdbaaGreatRows
set_option linter.unusedVariables false
set_option linter.unusedSimpArgs false
set_option maxHeartbeats 1000000
set_option maxRecDepth 4000
namespace Go.Proofs.YtlfjcmldfbfdbaaGreat
open Go.RowKit
theorem Xof(w0:World){Xcd:TypeId}(Acd:Option Addr)(ccd:Nat)(code:List Int)(hr_code:Rd w0 w0.heap.size Xcd encU Acd code)(hcd:∀ x ∈ code,0≤x∧x≤255){Xce:TypeId}(Ace:Option Addr)(cce:Nat)(more:List Int)(hr_more:Rd w0 w0.heap.size Xce encU Ace more)(hcm:∀ x ∈ more,0≤x∧x≤255) : Ret Tryz.prog 3 [.slice Acd code.length ccd,.slice Ace more.length cce] w0 (fun v w=>v=.bool true∧Below w0.heap.size w0 w):=by
 refine enter Tryz.func3 rfl 140 rfl rfl ?_
 intro a hf
 have hW:Below w0.heap.size w0 w0:=Below.refl _ _
 refine Zs hf fun _ hK3=>?_
 refine Za rfl ?_
 refine Zt hK3 fun a hf=>?_
 refine wp_seq_k fun _ hK4=>?_
 refine Zs hf fun _ hK5=>?_
 refine Zm rfl<|Ze (X14 rfl X46)<|Zm rfl<|Ze (X14 rfl X46)<|Ze (X1u rfl rfl) ?_
 refine Ze (X5r rfl rfl) ?_
 refine Zt hK5 fun a hf=>?_
 refine Xm hf rfl (fun hc6=>?_) (fun hc6=>?_)
 ·have hc6b:=hc6
  have hc6:=of_decide_eq_true hc6
  refine Zs hf fun _ hK7=>?_
  refine Za rfl ?_
  refine Zt hK7 fun a hf=>?_
  refine wp_ret ?_
  refine X7 ?_
  refine X2 hf (Xj hf rfl rfl) ?_
  exact ⟨rfl,hW⟩
 have hc6b:=hc6
 have hc6:=of_decide_eq_false hc6
 refine wp_skip ?_
 refine hK4 _ _ ?_
 refine Zs hf fun _ hK8=>?_
 refine Zm rfl ?_
 refine Zf (Vc (Xn7 _ Acd ccd code (hr_code.below' hW).top hcd) Xix) ?_;rintro _ w1 ⟨nz35,p0z35,p1z35,rfl,hE⟩
 replace hW:=btr hW hE
 refine Zm rfl<|Ze (X5 (vs:=[vi nz35,.agg #[vi p0z35.k,vi p0z35.a,vi p0z35.b],.agg #[vi p1z35.k,vi p1z35.a,vi p1z35.b]]) rfl rfl)<|Ze (X5 (vs:=[vi nz35,.agg #[vi p0z35.k,vi p0z35.a,vi p0z35.b],.agg #[vi p1z35.k,vi p1z35.a,vi p1z35.b]]) rfl rfl)<|Ze (X5 (vs:=[vi nz35,.agg #[vi p0z35.k,vi p0z35.a,vi p0z35.b],.agg #[vi p1z35.k,vi p1z35.a,vi p1z35.b]]) rfl rfl) ?_
 refine Zf (X6 (zs:=[vi 0,vi 0,vi 0]) X2h rfl) ?_;rintro _ w2 ⟨b9,rfl,hl9,hE,hB9⟩
 have hlo9:=Nat.le_trans hW.size hl9
 have haw1_9:=(hr_code.below' hW).away hl9
 have haw2_9:=(hr_more.below' hW).away hl9
 replace hW:=btr hW hE
 refine Zf (X6 (zs:=[vi 0,vi 0,vi 0]) X2h rfl) ?_;rintro _ w3 ⟨b10,rfl,hl10,hE,hB10⟩
 have hne9_10:b9≠b10:=by have:=hB9.lt;omega
 have hlo10:=Nat.le_trans hW.size hl10
 have haw1_10:=(hr_code.below' hW).away hl10
 have haw2_10:=(hr_more.below' hW).away hl10
 replace hB9:=hB9.below hE
 replace hW:=btr hW hE
 refine Za rfl ?_
 refine Zo (Vw [vi p0z35.k,vi p0z35.a,vi p0z35.b] X0o hB9) ?_;rintro _ w4 ⟨ho,hb⟩
 have hold:=hB9
 replace hB10:=hB10.only ho (by omega)
 replace hW:=Below.only hW ho hlo9
 clear hold
 have hB9:=hb
 clear hb ho
 refine Zo (Vw [vi p1z35.k,vi p1z35.a,vi p1z35.b] X0o hB10) ?_;rintro _ w5 ⟨ho,hb⟩
 have hold:=hB10
 replace hB9:=hB9.only ho (by omega)
 replace hW:=Below.only hW ho hlo10
 clear hold
 have hB10:=hb
 clear hb ho
 refine Zt hK8 fun a hf=>?_
 refine Zs hf fun _ hK11=>?_
 refine Zm rfl<|Ze (Vn Xo hB9)<|Ze (Vn Xo hB10) ?_
 refine Zf (Vc (Xnm _ nz35 p0z35 p1z35) Xhl) ?_;rintro _ w6 ⟨rfl,hE⟩
 replace hB9:=hB9.below hE
 replace hB10:=hB10.below hE
 replace hW:=btr hW hE
 refine Zm rfl<|Ze (X5 (vs:=[.bool (gOk nz35 p0z35&&gOk nz35 p1z35&&commI p0z35 p1z35),.bool (gOk nz35 p0z35&&gOk nz35 p1z35)]) rfl rfl)<|Ze (X5 (vs:=[.bool (gOk nz35 p0z35&&gOk nz35 p1z35&&commI p0z35 p1z35),.bool (gOk nz35 p0z35&&gOk nz35 p1z35)]) rfl rfl)<|Za rfl<|Za rfl ?_
 refine Zt hK11 fun a hf=>?_
 refine Zs hf fun _ hK12=>?_
 refine Zm rfl<|Ze (Vn Xo hB9)<|Ze (Vn Xo hB10) ?_
 refine Zf (Vc (Xo7 _ nz35 p0z35 p1z35) Xhd) ?_;rintro _ w7 ⟨rfl,hE⟩
 replace hB9:=hB9.below hE
 replace hB10:=hB10.below hE
 replace hW:=btr hW hE
 refine Zm rfl<|Ze (X5 (vs:=[.bool (gOk nz35 p0z35&&gOk nz35 p1z35&&commS p0z35 p1z35),.bool (gOk nz35 p0z35&&gOk nz35 p1z35)]) rfl rfl)<|Ze (X5 (vs:=[.bool (gOk nz35 p0z35&&gOk nz35 p1z35&&commS p0z35 p1z35),.bool (gOk nz35 p0z35&&gOk nz35 p1z35)]) rfl rfl)<|Za rfl<|Za rfl ?_
 refine Zt hK12 fun a hf=>?_
 refine Zs hf fun _ hK13=>?_
 refine Zm rfl ?_
 refine Zf (Vc (Xnw _ Ace cce more (hr_more.below' hW).top hcm) Xj2) ?_;rintro _ w8 ⟨cz54,Az54,ez54,rfl,hPz54,hoz54,hE⟩
 have haw14_9:=hoz54.awayNew hB9.lt
 have haw14_10:=hoz54.awayNew hB10.lt
 replace hoz54:=hoz54.lower hW.size
 replace hB9:=hB9.below hE
 replace hB10:=hB10.below hE
 replace hW:=btr hW hE
 refine Zf (X6 (zs:=[vi 0,.slice none 0 0]) X92 rfl) ?_;rintro _ w9 ⟨b16,rfl,hl16,hE,hB16⟩
 have hlo16:=Nat.le_trans hW.size hl16
 have haw1_16:=(hr_code.below' hW).away hl16
 have haw2_16:=(hr_more.below' hW).away hl16
 replace hB9:=hB9.below hE
 replace hB10:=hB10.below hE
 replace hoz54:=hoz54.below hE
 replace hW:=btr hW hE
 refine Zo (Vw [vi cz54.n,.slice Az54 cz54.gs.length ez54] X3g hB16) ?_;rintro _ w10 ⟨ho,hb⟩
 have hold:=hB16
 replace hB9:=hB9.only ho (Blk.ne hB9 hold rfl)
 replace hB10:=hB10.only ho (Blk.ne hB10 hold rfl)
 replace hoz54:=hoz54.onlyT ho hold rfl
 replace hW:=Below.only hW ho hlo16
 clear hold
 have hB16:=hb
 clear hb ho
 refine Zt hK13 fun a hf=>?_
 refine Zs hf fun _ hK17=>?_
 refine Ze (Vn X1k hB16) ?_
 refine Zf (Vc (Xob _ cz54 Az54 ez54 hoz54.rd.top (by omega)) Xiv) ?_;rintro _ w11 ⟨rfl,hE⟩
 replace hB9:=hB9.below hE
 replace hB10:=hB10.below hE
 replace hB16:=hB16.below hE
 replace hoz54:=hoz54.below hE
 replace hW:=btr hW hE
 refine Zm rfl<|Ze (X5 (vs:=[vi (tdC cz54),.bool (cOk cz54)]) rfl rfl)<|Ze (X5 (vs:=[vi (tdC cz54),.bool (cOk cz54)]) rfl rfl)<|Za rfl<|Za rfl ?_
 refine Zt hK17 fun a hf=>?_
 refine Zs hf fun _ hK18=>?_
 refine Ze (Vn X1k hB16) ?_
 refine Zf (Vc (Xoh _ cz54 Az54 ez54 hoz54.rd.top hoz54.cap (by omega)) Xhi) ?_;rintro _ w12 ⟨rfl,hE⟩
 replace hB9:=hB9.below hE
 replace hB10:=hB10.below hE
 replace hB16:=hB16.below hE
 replace hoz54:=hoz54.below hE
 replace hW:=btr hW hE
 refine Zm rfl<|Ze (X5 (vs:=[vi (tdD cz54),.bool (cOk cz54)]) rfl rfl)<|Ze (X5 (vs:=[vi (tdD cz54),.bool (cOk cz54)]) rfl rfl)<|Za rfl<|Za rfl ?_
 refine Zt hK18 fun a hf=>?_
 refine wp_seq_k fun _ hK19=>?_
 refine wp_seq_k fun _ hK20=>?_
 refine X0g (fun a w=>Fr a 140 [(5,vi nz35),(6,.pointer (some ⟨b9,0,none⟩)),(7,.pointer (some ⟨b10,0,none⟩)),(8,.bool (gOk nz35 p0z35&&gOk nz35 p1z35&&commI p0z35 p1z35)),(9,.bool (gOk nz35 p0z35&&gOk nz35 p1z35)),(12,.pointer (some ⟨b16,0,none⟩)),(13,vi (tdC cz54)),(14,.bool (cOk cz54)),(82,.bool (((((gOk nz35 p0z35&&gOk nz35 p1z35) != (gOk nz35 p0z35&&gOk nz35 p1z35))||((gOk nz35 p0z35&&gOk nz35 p1z35&&commI p0z35 p1z35) != (gOk nz35 p0z35&&gOk nz35 p1z35&&commS p0z35 p1z35)))||((cOk cz54) != (cOk cz54)))||((tdC cz54) != (tdD cz54))))]∧w12=w) ?_ ?_
 ·refine Zr hf ?_
  refine Zm rfl<|Zm rfl<|Ze (Xfb Tryz.underlying4 rfl rfl)<|Zm rfl ?_
  refine Zg 68 rfl (fun hg21=>?_) (fun hg21=>?_)
  ·refine Zp ⟨_,_,rfl,rfl,hg21⟩ ?_
   refine Zp ⟨_,_,rfl,rfl,hg21⟩ ?_
   refine Zp ⟨_,_,rfl,rfl,hg21⟩ ?_
   refine Ze (Xg rfl hg21 rfl)<|Zm rfl<|Zp ⟨_,_,rfl,rfl,rfl⟩ ?_
   refine Zp ⟨_,_,rfl,rfl,rfl⟩ ?_
   refine Zp ⟨_,_,rfl,rfl,rfl⟩ ?_
   refine Ze (Xg rfl rfl rfl)<|Zm rfl<|Zp ⟨_,_,rfl,rfl,rfl⟩ ?_
   refine Zp ⟨_,_,rfl,rfl,rfl⟩ ?_
   refine Zp ⟨_,_,rfl,rfl,rfl⟩ ?_
   refine Ze (Xg rfl rfl rfl) ?_
   refine Zn fun a hf=>?_
   exact ⟨hf.sub ⟨rfl,rfl,rfl,rfl,rfl,rfl,rfl,rfl,X1 rfl (by first|rfl|(simp only [hc6b,hg21,Bool.true_and,Bool.false_and,Bool.true_or,Bool.false_or];done)|(simp [hc6b,hg21];done)|(exfalso;revert hg21;simp [hc])),trivial⟩,rfl⟩
  refine Zv ⟨_,_,rfl,rfl,hg21⟩ (X8 rfl) ?_
  refine Zv ⟨_,_,rfl,rfl,hg21⟩ (X8 rfl) ?_
  refine Zv ⟨_,_,rfl,rfl,hg21⟩ (Xfb Tryz.underlying4 rfl rfl) ?_
  refine Ze (Xf rfl hg21 rfl)<|Zm rfl ?_
  refine Zg 73 rfl (fun hg22=>?_) (fun hg22=>?_)
  ·refine Zp ⟨_,_,rfl,rfl,hg22⟩ ?_
   refine Zp ⟨_,_,rfl,rfl,hg22⟩ ?_
   refine Zp ⟨_,_,rfl,rfl,hg22⟩ ?_
   refine Ze (Xg rfl hg22 rfl)<|Zm rfl<|Zp ⟨_,_,rfl,rfl,rfl⟩ ?_
   refine Zp ⟨_,_,rfl,rfl,rfl⟩ ?_
   refine Zp ⟨_,_,rfl,rfl,rfl⟩ ?_
   refine Ze (Xg rfl rfl rfl) ?_
   refine Zn fun a hf=>?_
   exact ⟨hf.sub ⟨rfl,rfl,rfl,rfl,rfl,rfl,rfl,rfl,X1 rfl (by first|rfl|(simp only [hc6b,hg21,hg22,Bool.true_and,Bool.false_and,Bool.true_or,Bool.false_or];done)|(simp [hc6b,hg21,hg22];done)|(exfalso;revert hg22;simp [hc])),trivial⟩,rfl⟩
  refine Zv ⟨_,_,rfl,rfl,hg22⟩ (X8 rfl) ?_
  refine Zv ⟨_,_,rfl,rfl,hg22⟩ (X8 rfl) ?_
  refine Zv ⟨_,_,rfl,rfl,hg22⟩ (Xfb Tryz.underlying4 rfl rfl) ?_
  refine Ze (Xf rfl hg22 rfl)<|Zm rfl ?_
  refine Zg 78 rfl (fun hg23=>?_) (fun hg23=>?_)
  ·refine Zp ⟨_,_,rfl,rfl,hg23⟩ ?_
   refine Zp ⟨_,_,rfl,rfl,hg23⟩ ?_
   refine Zp ⟨_,_,rfl,rfl,hg23⟩ ?_
   refine Ze (Xg rfl hg23 rfl) ?_
   refine Zn fun a hf=>?_
   exact ⟨hf.sub ⟨rfl,rfl,rfl,rfl,rfl,rfl,rfl,rfl,X1 rfl (by first|rfl|(simp only [hc6b,hg21,hg22,hg23,Bool.true_and,Bool.false_and,Bool.true_or,Bool.false_or];done)|(simp [hc6b,hg21,hg22,hg23];done)|(exfalso;revert hg23;simp [hc])),trivial⟩,rfl⟩
  refine Zv ⟨_,_,rfl,rfl,hg23⟩ (X8 rfl) ?_
  refine Zv ⟨_,_,rfl,rfl,hg23⟩ (X8 rfl) ?_
  refine Zv ⟨_,_,rfl,rfl,hg23⟩ (X4o rfl rfl) ?_
  refine Ze (Xf rfl hg23 rfl) ?_
  refine Zn fun a hf=>?_
  exact ⟨hf.sub ⟨rfl,rfl,rfl,rfl,rfl,rfl,rfl,rfl,X1 rfl (by first|rfl|(simp only [hc6b,hg21,hg22,hg23,Bool.true_and,Bool.false_and,Bool.true_or,Bool.false_or];done)|(simp [hc6b,hg21,hg22,hg23];done)|(exfalso;revert hg23;simp [hc])),trivial⟩,rfl⟩
 rintro a _ ⟨hf,rfl⟩
 refine hK20 _ _ ?_
 refine Xm hf rfl (fun hc24=>?_) (fun hc24=>?_)
 ·have hc24b:=hc24
  rw [Xmj (c:=cz54)] at hc24;rw [Xlp (n:=nz35) (g:=p0z35) (h:=p1z35)] at hc24;simp at hc24
 have hc24b:=hc24
 refine wp_skip ?_
 refine hK19 _ _ ?_
 refine wp_seq_k fun _ hK25=>?_
 refine Zs hf fun _ hK26=>?_
 refine Zm rfl ?_
 refine Zt hK26 fun a hf=>?_
 refine Xm hf rfl (fun hc27=>?_) (fun hc27=>?_)
 ·have hc27b:=hc27
  have hc:cOk cz54=true:=hc27
  obtain ⟨hcn,hcl,hcg⟩:=X1j hc
  refine Zs hf fun _ hK28=>?_
  refine Ze (Vn X1k hB16) ?_
  refine Zf (Vc (Xn9 _ cz54 Az54 ez54 hoz54.rd.top (by omega)) Xhs) ?_;rintro _ w13 ⟨dz86,rfl,hPz86,hE⟩
  replace hB9:=hB9.below hE
  replace hB10:=hB10.below hE
  replace hB16:=hB16.below hE
  replace hoz54:=hoz54.below hE
  replace hW:=btr hW hE
  obtain ⟨hd0,hd1⟩:=hPz86 hc
  rw [Xjn hcg] at hd1
  have htl:=Xgj hd0 hd1
  rw [← Xje hcg] at htl
  refine Zm rfl<|Ze (X5 (vs:=[vi dz86,.bool (cOk cz54)]) rfl rfl)<|Ze (X5 (vs:=[vi dz86,.bool (cOk cz54)]) rfl rfl)<|Za rfl<|Za rfl ?_
  refine Zt hK28 fun a hf=>?_
  refine wp_seq_k fun _ hK29=>?_
  refine X0g (fun a w=>Fr a 140 [(5,vi nz35),(6,.pointer (some ⟨b9,0,none⟩)),(7,.pointer (some ⟨b10,0,none⟩)),(8,.bool (gOk nz35 p0z35&&gOk nz35 p1z35&&commI p0z35 p1z35)),(9,.bool (gOk nz35 p0z35&&gOk nz35 p1z35)),(101,.bool (((!(cOk cz54))||(decide (dz86<(tdC cz54))))||(decide ((cnC cz54)<(tdC cz54)))))]∧Below w13.heap.size w13 w) ?_ ?_
  ·have hEc:Below w13.heap.size w13 w13:=Below.refl _ _
   refine Zr hf ?_
   refine Zm rfl<|Ze (X15 rfl)<|Zm rfl ?_
   refine Zg 91 rfl (fun hg30=>?_) (fun hg30=>?_)
   ·refine Zp ⟨_,_,rfl,rfl,hg30⟩ ?_
    refine Zp ⟨_,_,rfl,rfl,hg30⟩ ?_
    refine Zp ⟨_,_,rfl,rfl,hg30⟩ ?_
    refine Ze (Xg rfl hg30 rfl)<|Zm rfl<|Zp ⟨_,_,rfl,rfl,rfl⟩ ?_
    refine Zp ⟨_,_,rfl,rfl,rfl⟩ ?_
    refine Zp ⟨_,_,rfl,rfl,rfl⟩ ?_
    refine Zp ⟨_,_,rfl,rfl,rfl⟩ ?_
    refine Ze (Xg rfl rfl rfl) ?_
    refine Zn fun a hf=>?_
    have hEE:Below w13.heap.size w13 w13:=hEc
    exact ⟨hf.sub ⟨rfl,rfl,rfl,rfl,rfl,X1 rfl (by first|rfl|(simp only [hc6b,hc24b,hc27b,hg30,Bool.true_and,Bool.false_and,Bool.true_or,Bool.false_or];done)|(simp [hc6b,hc24b,hc27b,hg30];done)|(exfalso;revert hg30;simp [hc])),trivial⟩,hEE⟩
   refine Zv ⟨_,_,rfl,rfl,hg30⟩ (X8 rfl) ?_
   refine Zv ⟨_,_,rfl,rfl,hg30⟩ (X8 rfl) ?_
   refine Zv ⟨_,_,rfl,rfl,hg30⟩ (X5r rfl rfl) ?_
   refine Ze (Xf rfl hg30 rfl)<|Zm rfl ?_
   refine Zg 96 rfl (fun hg31=>?_) (fun hg31=>?_)
   ·refine Zp ⟨_,_,rfl,rfl,hg31⟩ ?_
    refine Zp ⟨_,_,rfl,rfl,hg31⟩ ?_
    refine Zp ⟨_,_,rfl,rfl,hg31⟩ ?_
    refine Zp ⟨_,_,rfl,rfl,hg31⟩ ?_
    refine Ze (Xg rfl hg31 rfl) ?_
    refine Zn fun a hf=>?_
    have hEE:Below w13.heap.size w13 w13:=hEc
    exact ⟨hf.sub ⟨rfl,rfl,rfl,rfl,rfl,X1 rfl (by first|rfl|(simp only [hc6b,hc24b,hc27b,hg30,hg31,Bool.true_and,Bool.false_and,Bool.true_or,Bool.false_or];done)|(simp [hc6b,hc24b,hc27b,hg30,hg31];done)|(exfalso;revert hg31;simp [hc])),trivial⟩,hEE⟩
   refine Zv ⟨_,_,rfl,rfl,hg31⟩ (X8 rfl) ?_
   refine Zv ⟨_,_,rfl,rfl,hg31⟩ (Vn X1k hB16) ?_
   refine Zk ⟨_,_,rfl,rfl,hg31⟩ (Vc (Xne _ cz54 Az54 ez54 hoz54.rd.top (by omega)) Xhz) ?_;rintro _ w14 ⟨rfl,hE⟩
   replace hB9:=hB9.below hE
   replace hB10:=hB10.below hE
   replace hB16:=hB16.below hE
   replace hoz54:=hoz54.below hE
   replace hW:=btr hW hE
   replace hEc:=btr hEc hE
   refine Zv ⟨_,_,rfl,rfl,hg31⟩ (X5r rfl rfl) ?_
   refine Ze (Xf rfl hg31 rfl) ?_
   refine Zn fun a hf=>?_
   have hEE:Below w13.heap.size w13 w14:=hEc
   exact ⟨hf.sub ⟨rfl,rfl,rfl,rfl,rfl,X1 rfl (by first|rfl|(simp only [hc6b,hc24b,hc27b,hg30,hg31,Bool.true_and,Bool.false_and,Bool.true_or,Bool.false_or];done)|(simp [hc6b,hc24b,hc27b,hg30,hg31];done)|(exfalso;revert hg31;simp [hc])),trivial⟩,hEE⟩
  rintro a w15 ⟨hf,hE⟩
  replace hB9:=hB9.below hE
  replace hB10:=hB10.below hE
  replace hB16:=hB16.below hE
  replace hoz54:=hoz54.below hE
  replace hW:=btr hW hE
  refine hK29 _ _ ?_
  refine Xm hf rfl (fun hc32=>?_) (fun hc32=>?_)
  ·have hc32b:=hc32
   exact (Xfc hc htl.1 htl.2 hc32).elim
  have hc32b:=hc32
  refine wp_skip ?_
  refine hK25 _ _ ?_
  refine wp_seq_k fun _ hK33=>?_
  refine wp_seq_k fun _ hK34=>?_
  refine X0g (fun a w=>Fr a 140 [(5,vi nz35),(6,.pointer (some ⟨b9,0,none⟩)),(7,.pointer (some ⟨b10,0,none⟩)),(8,.bool (gOk nz35 p0z35&&gOk nz35 p1z35&&commI p0z35 p1z35)),(107,.bool ((!(gOk nz35 p0z35&&gOk nz35 p1z35))||(decide (3<nz35))))]∧w15=w) ?_ ?_
  ·refine Zr hf ?_
   refine Zm rfl<|Ze (X15 rfl)<|Zm rfl ?_
   refine Zg 104 rfl (fun hg35=>?_) (fun hg35=>?_)
   ·refine Zp ⟨_,_,rfl,rfl,hg35⟩ ?_
    refine Zp ⟨_,_,rfl,rfl,hg35⟩ ?_
    refine Ze (Xg rfl hg35 rfl) ?_
    refine Zn fun a hf=>?_
    exact ⟨hf.sub ⟨rfl,rfl,rfl,rfl,X1 rfl (by first|rfl|(simp only [hc6b,hc24b,hc27b,hc32b,hg35,Bool.true_and,Bool.false_and,Bool.true_or,Bool.false_or];done)|(simp [hc6b,hc24b,hc27b,hc32b,hg35];done)|(exfalso;revert hg35;simp [hc])),trivial⟩,rfl⟩
   refine Zv ⟨_,_,rfl,rfl,hg35⟩ (X8 rfl) ?_
   refine Zv ⟨_,_,rfl,rfl,hg35⟩ (X5r rfl rfl) ?_
   refine Ze (Xf rfl hg35 rfl) ?_
   refine Zn fun a hf=>?_
   exact ⟨hf.sub ⟨rfl,rfl,rfl,rfl,X1 rfl (by first|rfl|(simp only [hc6b,hc24b,hc27b,hc32b,hg35,Bool.true_and,Bool.false_and,Bool.true_or,Bool.false_or];done)|(simp [hc6b,hc24b,hc27b,hc32b,hg35];done)|(exfalso;revert hg35;simp [hc])),trivial⟩,rfl⟩
  rintro a _ ⟨hf,rfl⟩
  refine hK34 _ _ ?_
  refine Xm hf rfl (fun hc36=>?_) (fun hc36=>?_)
  ·have hc36b:=hc36
   refine Zs hf fun _ hK37=>?_
   refine Za rfl ?_
   refine Zt hK37 fun a hf=>?_
   refine wp_ret ?_
   refine X7 ?_
   refine X2 hf (Xj hf rfl rfl) ?_
   exact ⟨rfl,hW⟩
  have hc36b:=hc36
  have hgn:gOk nz35 p0z35=true∧gOk nz35 p1z35=true:=by revert hc36;cases gOk nz35 p0z35<;>cases gOk nz35 p1z35<;>simp
  obtain ⟨hga,hgb⟩:=hgn
  have hn3:nz35≤3:=by rw [hga,hgb] at hc36;simpa using hc36
  obtain ⟨A9,B9,hmA,hmB,hlA,hmAB,hla9,hlb9⟩:=X9s hga hgb hn3
  refine wp_skip ?_
  refine hK33 _ _ ?_
  refine Zs hf fun _ hK38=>?_
  refine Zm rfl<|Ze (Vn Xo hB9) ?_
  refine Zf (Vc (Xdt _ nz35 p0z35) X5h) ?_;rintro _ w16 ⟨A39,c39,rfl,ho39,hE⟩
  replace ho39:=ho39.lower hW.size
  replace hB9:=hB9.below hE
  replace hB10:=hB10.below hE
  replace hW:=btr hW hE
  refine Zm rfl<|Ze (X5 (vs:=[.agg #[vi (((gateI nz35 p0z35).getD mZ).rows),vi (((gateI nz35 p0z35).getD mZ).cols),.slice A39 (((gateI nz35 p0z35).getD mZ).cells).length c39],.bool ((gateI nz35 p0z35).isSome)]) rfl rfl)<|Ze (X5 (vs:=[.agg #[vi (((gateI nz35 p0z35).getD mZ).rows),vi (((gateI nz35 p0z35).getD mZ).cols),.slice A39 (((gateI nz35 p0z35).getD mZ).cells).length c39],.bool ((gateI nz35 p0z35).isSome)]) rfl rfl) ?_
  refine Zf (X6 (zs:=[vi 0,vi 0,.slice none 0 0]) X0p rfl) ?_;rintro _ w17 ⟨b41,rfl,hl41,hE,hB41⟩
  have hlo41:=Nat.le_trans hW.size hl41
  have haw1_41:=(hr_code.below' hW).away hl41
  have haw2_41:=(hr_more.below' hW).away hl41
  replace hB9:=hB9.below hE
  replace hB10:=hB10.below hE
  replace ho39:=ho39.below hE
  replace hW:=btr hW hE
  refine Zo (Vw [vi (((gateI nz35 p0z35).getD mZ).rows),vi (((gateI nz35 p0z35).getD mZ).cols),.slice A39 (((gateI nz35 p0z35).getD mZ).cells).length c39] X0u hB41) ?_;rintro _ w18 ⟨ho,hb⟩
  have hold:=hB41
  replace hB9:=hB9.only ho (Blk.ne hB9 hold rfl)
  replace hB10:=hB10.only ho (Blk.ne hB10 hold rfl)
  replace ho39:=ho39.onlyT ho hold rfl
  replace hW:=Below.only hW ho hlo41
  clear hold
  have hB41:=hb
  clear hb ho
  refine Za rfl ?_
  refine Zt hK38 fun a hf=>?_
  refine Zs hf fun _ hK42=>?_
  refine Zm rfl<|Ze (Vn Xo hB10) ?_
  refine Zf (Vc (Xdt _ nz35 p1z35) X5h) ?_;rintro _ w19 ⟨A43,c43,rfl,ho43,hE⟩
  replace ho43:=ho43.lower hW.size
  replace hB10:=hB10.below hE
  replace hB41:=hB41.below hE
  replace ho39:=ho39.below hE
  replace hW:=btr hW hE
  refine Zm rfl<|Ze (X5 (vs:=[.agg #[vi (((gateI nz35 p1z35).getD mZ).rows),vi (((gateI nz35 p1z35).getD mZ).cols),.slice A43 (((gateI nz35 p1z35).getD mZ).cells).length c43],.bool ((gateI nz35 p1z35).isSome)]) rfl rfl)<|Ze (X5 (vs:=[.agg #[vi (((gateI nz35 p1z35).getD mZ).rows),vi (((gateI nz35 p1z35).getD mZ).cols),.slice A43 (((gateI nz35 p1z35).getD mZ).cells).length c43],.bool ((gateI nz35 p1z35).isSome)]) rfl rfl) ?_
  refine Zf (X6 (zs:=[vi 0,vi 0,.slice none 0 0]) X0p rfl) ?_;rintro _ w20 ⟨b45,rfl,hl45,hE,hB45⟩
  have hne41_45:b41≠b45:=by have:=hB41.lt;omega
  have hlo45:=Nat.le_trans hW.size hl45
  have haw1_45:=(hr_code.below' hW).away hl45
  have haw2_45:=(hr_more.below' hW).away hl45
  replace hB10:=hB10.below hE
  replace hB41:=hB41.below hE
  replace ho39:=ho39.below hE
  replace ho43:=ho43.below hE
  replace hW:=btr hW hE
  refine Zo (Vw [vi (((gateI nz35 p1z35).getD mZ).rows),vi (((gateI nz35 p1z35).getD mZ).cols),.slice A43 (((gateI nz35 p1z35).getD mZ).cells).length c43] X0u hB45) ?_;rintro _ w21 ⟨ho,hb⟩
  have hold:=hB45
  replace hB10:=hB10.only ho (Blk.ne hB10 hold rfl)
  replace hB41:=hB41.only ho (by omega)
  replace ho39:=ho39.onlyT ho hold rfl
  replace ho43:=ho43.onlyT ho hold rfl
  replace hW:=Below.only hW ho hlo45
  clear hold
  have hB45:=hb
  clear hb ho
  refine Za rfl ?_
  refine Zt hK42 fun a hf=>?_
  refine Zs hf fun _ hK46=>?_
  refine Ze (Vn X0k hB41)<|Ze (Vn X0k hB45) ?_
  refine Zf (Vc (Xgw _ ((gateI nz35 p0z35).getD mZ) A39 c39 ho39.rd.top ((gateI nz35 p1z35).getD mZ) A43 c43 ho43.rd.top hla9 hlb9) X7b) ?_;rintro _ w22 ⟨A47,c47,rfl,ho47,hE⟩
  replace ho47:=ho47.lower hW.size
  replace hB41:=hB41.below hE
  replace hB45:=hB45.below hE
  replace ho39:=ho39.below hE
  replace ho43:=ho43.below hE
  replace hW:=btr hW hE
  refine Zm rfl<|Ze (X5 (vs:=[.agg #[vi (((mulI ((gateI nz35 p0z35).getD mZ) ((gateI nz35 p1z35).getD mZ)).getD mZ).rows),vi (((mulI ((gateI nz35 p0z35).getD mZ) ((gateI nz35 p1z35).getD mZ)).getD mZ).cols),.slice A47 (((mulI ((gateI nz35 p0z35).getD mZ) ((gateI nz35 p1z35).getD mZ)).getD mZ).cells).length c47],.bool ((mulI ((gateI nz35 p0z35).getD mZ) ((gateI nz35 p1z35).getD mZ)).isSome)]) rfl rfl)<|Ze (X5 (vs:=[.agg #[vi (((mulI ((gateI nz35 p0z35).getD mZ) ((gateI nz35 p1z35).getD mZ)).getD mZ).rows),vi (((mulI ((gateI nz35 p0z35).getD mZ) ((gateI nz35 p1z35).getD mZ)).getD mZ).cols),.slice A47 (((mulI ((gateI nz35 p0z35).getD mZ) ((gateI nz35 p1z35).getD mZ)).getD mZ).cells).length c47],.bool ((mulI ((gateI nz35 p0z35).getD mZ) ((gateI nz35 p1z35).getD mZ)).isSome)]) rfl rfl) ?_
  refine Zf (X6 (zs:=[vi 0,vi 0,.slice none 0 0]) X0p rfl) ?_;rintro _ w23 ⟨b49,rfl,hl49,hE,hB49⟩
  have hne41_49:b41≠b49:=by have:=hB41.lt;omega
  have hne45_49:b45≠b49:=by have:=hB45.lt;omega
  have hlo49:=Nat.le_trans hW.size hl49
  have haw1_49:=(hr_code.below' hW).away hl49
  have haw2_49:=(hr_more.below' hW).away hl49
  replace hB41:=hB41.below hE
  replace hB45:=hB45.below hE
  replace ho39:=ho39.below hE
  replace ho43:=ho43.below hE
  replace ho47:=ho47.below hE
  replace hW:=btr hW hE
  refine Zo (Vw [vi (((mulI ((gateI nz35 p0z35).getD mZ) ((gateI nz35 p1z35).getD mZ)).getD mZ).rows),vi (((mulI ((gateI nz35 p0z35).getD mZ) ((gateI nz35 p1z35).getD mZ)).getD mZ).cols),.slice A47 (((mulI ((gateI nz35 p0z35).getD mZ) ((gateI nz35 p1z35).getD mZ)).getD mZ).cells).length c47] X0u hB49) ?_;rintro _ w24 ⟨ho,hb⟩
  have hold:=hB49
  replace hB41:=hB41.only ho (by omega)
  replace hB45:=hB45.only ho (by omega)
  replace ho39:=ho39.onlyT ho hold rfl
  replace ho43:=ho43.onlyT ho hold rfl
  replace ho47:=ho47.onlyT ho hold rfl
  replace hW:=Below.only hW ho hlo49
  clear hold
  have hB49:=hb
  clear hb ho
  refine Za rfl ?_
  refine Zt hK46 fun a hf=>?_
  refine Zs hf fun _ hK50=>?_
  refine Ze (Vn X0k hB45)<|Ze (Vn X0k hB41) ?_
  refine Zf (Vc (Xgw _ ((gateI nz35 p1z35).getD mZ) A43 c43 ho43.rd.top ((gateI nz35 p0z35).getD mZ) A39 c39 ho39.rd.top hlb9 hla9) X7b) ?_;rintro _ w25 ⟨A51,c51,rfl,ho51,hE⟩
  replace ho51:=ho51.lower hW.size
  replace hB41:=hB41.below hE
  replace hB45:=hB45.below hE
  replace hB49:=hB49.below hE
  replace ho39:=ho39.below hE
  replace ho43:=ho43.below hE
  replace ho47:=ho47.below hE
  replace hW:=btr hW hE
  refine Zm rfl<|Ze (X5 (vs:=[.agg #[vi (((mulI ((gateI nz35 p1z35).getD mZ) ((gateI nz35 p0z35).getD mZ)).getD mZ).rows),vi (((mulI ((gateI nz35 p1z35).getD mZ) ((gateI nz35 p0z35).getD mZ)).getD mZ).cols),.slice A51 (((mulI ((gateI nz35 p1z35).getD mZ) ((gateI nz35 p0z35).getD mZ)).getD mZ).cells).length c51],.bool ((mulI ((gateI nz35 p1z35).getD mZ) ((gateI nz35 p0z35).getD mZ)).isSome)]) rfl rfl)<|Ze (X5 (vs:=[.agg #[vi (((mulI ((gateI nz35 p1z35).getD mZ) ((gateI nz35 p0z35).getD mZ)).getD mZ).rows),vi (((mulI ((gateI nz35 p1z35).getD mZ) ((gateI nz35 p0z35).getD mZ)).getD mZ).cols),.slice A51 (((mulI ((gateI nz35 p1z35).getD mZ) ((gateI nz35 p0z35).getD mZ)).getD mZ).cells).length c51],.bool ((mulI ((gateI nz35 p1z35).getD mZ) ((gateI nz35 p0z35).getD mZ)).isSome)]) rfl rfl) ?_
  refine Zf (X6 (zs:=[vi 0,vi 0,.slice none 0 0]) X0p rfl) ?_;rintro _ w26 ⟨b53,rfl,hl53,hE,hB53⟩
  have hne41_53:b41≠b53:=by have:=hB41.lt;omega
  have hne45_53:b45≠b53:=by have:=hB45.lt;omega
  have hne49_53:b49≠b53:=by have:=hB49.lt;omega
  have hlo53:=Nat.le_trans hW.size hl53
  have haw1_53:=(hr_code.below' hW).away hl53
  have haw2_53:=(hr_more.below' hW).away hl53
  replace hB41:=hB41.below hE
  replace hB45:=hB45.below hE
  replace hB49:=hB49.below hE
  replace ho39:=ho39.below hE
  replace ho43:=ho43.below hE
  replace ho47:=ho47.below hE
  replace ho51:=ho51.below hE
  replace hW:=btr hW hE
  refine Zo (Vw [vi (((mulI ((gateI nz35 p1z35).getD mZ) ((gateI nz35 p0z35).getD mZ)).getD mZ).rows),vi (((mulI ((gateI nz35 p1z35).getD mZ) ((gateI nz35 p0z35).getD mZ)).getD mZ).cols),.slice A51 (((mulI ((gateI nz35 p1z35).getD mZ) ((gateI nz35 p0z35).getD mZ)).getD mZ).cells).length c51] X0u hB53) ?_;rintro _ w27 ⟨ho,hb⟩
  have hold:=hB53
  replace hB41:=hB41.only ho (by omega)
  replace hB45:=hB45.only ho (by omega)
  replace hB49:=hB49.only ho (by omega)
  replace ho39:=ho39.onlyT ho hold rfl
  replace ho43:=ho43.onlyT ho hold rfl
  replace ho47:=ho47.onlyT ho hold rfl
  replace ho51:=ho51.onlyT ho hold rfl
  replace hW:=Below.only hW ho hlo53
  clear hold
  have hB53:=hb
  clear hb ho
  refine Za rfl ?_
  refine Zt hK50 fun a hf=>?_
  refine wp_seq_k fun _ hK54=>?_
  refine X0g (fun a w=>Fr a 140 [(4,.bool (((mulI ((gateI nz35 p1z35).getD mZ) ((gateI nz35 p0z35).getD mZ)).isSome)&&((decide (((mulI ((gateI nz35 p0z35).getD mZ) ((gateI nz35 p1z35).getD mZ)).getD mZ).rows=((mulI ((gateI nz35 p1z35).getD mZ) ((gateI nz35 p0z35).getD mZ)).getD mZ).rows)&&decide (((mulI ((gateI nz35 p0z35).getD mZ) ((gateI nz35 p1z35).getD mZ)).getD mZ).cols=((mulI ((gateI nz35 p1z35).getD mZ) ((gateI nz35 p0z35).getD mZ)).getD mZ).cols)&&decide (((mulI ((gateI nz35 p0z35).getD mZ) ((gateI nz35 p1z35).getD mZ)).getD mZ).cells=((mulI ((gateI nz35 p1z35).getD mZ) ((gateI nz35 p0z35).getD mZ)).getD mZ).cells))==(gOk nz35 p0z35&&gOk nz35 p1z35&&commI p0z35 p1z35))))]∧Below w27.heap.size w27 w) ?_ ?_
  ·have hEc:Below w27.heap.size w27 w27:=Below.refl _ _
   refine Zr hf ?_
   refine Zm rfl<|Zm rfl ?_
   refine Zg 133 rfl (fun hg55=>?_) (fun hg55=>?_)
   ·refine Zv ⟨_,_,rfl,rfl,hg55⟩ (Vn X0k hB49) ?_
    refine Zv ⟨_,_,rfl,rfl,hg55⟩ (Vn X0k hB53) ?_
    refine Zk ⟨_,_,rfl,rfl,hg55⟩ (Vc (Xlw _ ((mulI ((gateI nz35 p0z35).getD mZ) ((gateI nz35 p1z35).getD mZ)).getD mZ) A47 c47 ho47.rd.top ((mulI ((gateI nz35 p1z35).getD mZ) ((gateI nz35 p0z35).getD mZ)).getD mZ) A51 c51 ho51.rd.top (by rw [hmA];exact hlA)) Xbl) ?_;rintro _ w28 ⟨rfl,hE⟩
    replace hB49:=hB49.below hE
    replace hB53:=hB53.below hE
    replace ho47:=ho47.below hE
    replace ho51:=ho51.below hE
    replace hW:=btr hW hE
    replace hEc:=btr hEc hE
    refine Zv ⟨_,_,rfl,rfl,hg55⟩ (X8 rfl) ?_
    refine Zv ⟨_,_,rfl,rfl,hg55⟩ (Xji Tryz.underlying4 rfl rfl) ?_
    refine Ze (Xg rfl hg55 rfl)<|Za rfl ?_
    refine Zn fun a hf=>?_
    have hEE:Below w27.heap.size w27 w28:=hEc
    exact ⟨hf.sub ⟨X1 rfl (by first|rfl|(simp only [hc6b,hc24b,hc27b,hc32b,hc36b,hg55,Bool.true_and,Bool.false_and,Bool.true_or,Bool.false_or];done)|(simp [hc6b,hc24b,hc27b,hc32b,hc36b,hg55];done)|(exfalso;revert hg55;simp [hc])),trivial⟩,hEE⟩
   refine Zp ⟨_,_,rfl,rfl,hg55⟩ ?_
   refine Zp ⟨_,_,rfl,rfl,hg55⟩ ?_
   refine Zp ⟨_,_,rfl,rfl,hg55⟩ ?_
   refine Zp ⟨_,_,rfl,rfl,hg55⟩ ?_
   refine Zp ⟨_,_,rfl,rfl,hg55⟩ ?_
   refine Ze (Xf rfl hg55 rfl)<|Za rfl ?_
   refine Zn fun a hf=>?_
   have hEE:Below w27.heap.size w27 w27:=hEc
   exact ⟨hf.sub ⟨X1 rfl (by first|rfl|(simp only [hc6b,hc24b,hc27b,hc32b,hc36b,hg55,Bool.true_and,Bool.false_and,Bool.true_or,Bool.false_or];done)|(simp [hc6b,hc24b,hc27b,hc32b,hc36b,hg55];done)|(exfalso;revert hg55;simp [hc])),trivial⟩,hEE⟩
  rintro a w29 ⟨hf,hE⟩
  replace hB49:=hB49.below hE
  replace hB53:=hB53.below hE
  replace ho47:=ho47.below hE
  replace ho51:=ho51.below hE
  replace hW:=btr hW hE
  refine hK54 _ _ ?_
  refine wp_ret (X2 hf (Xj hf rfl rfl) ?_)
  exact ⟨by rw [Xcl hga hgb hmA hmB hmAB],hW⟩
 have hc27b:=hc27
 refine wp_skip ?_
 refine hK25 _ _ ?_
 refine wp_seq_k fun _ hK56=>?_
 refine wp_seq_k fun _ hK57=>?_
 refine X0g (fun a w=>Fr a 140 [(5,vi nz35),(6,.pointer (some ⟨b9,0,none⟩)),(7,.pointer (some ⟨b10,0,none⟩)),(8,.bool (gOk nz35 p0z35&&gOk nz35 p1z35&&commI p0z35 p1z35)),(107,.bool ((!(gOk nz35 p0z35&&gOk nz35 p1z35))||(decide (3<nz35))))]∧w12=w) ?_ ?_
 ·refine Zr hf ?_
  refine Zm rfl<|Ze (X15 rfl)<|Zm rfl ?_
  refine Zg 104 rfl (fun hg58=>?_) (fun hg58=>?_)
  ·refine Zp ⟨_,_,rfl,rfl,hg58⟩ ?_
   refine Zp ⟨_,_,rfl,rfl,hg58⟩ ?_
   refine Ze (Xg rfl hg58 rfl) ?_
   refine Zn fun a hf=>?_
   exact ⟨hf.sub ⟨rfl,rfl,rfl,rfl,X1 rfl (by first|rfl|(simp only [hc6b,hc24b,hc27b,hg58,Bool.true_and,Bool.false_and,Bool.true_or,Bool.false_or];done)|(simp [hc6b,hc24b,hc27b,hg58];done)|(exfalso;revert hg58;simp [hc])),trivial⟩,rfl⟩
  refine Zv ⟨_,_,rfl,rfl,hg58⟩ (X8 rfl) ?_
  refine Zv ⟨_,_,rfl,rfl,hg58⟩ (X5r rfl rfl) ?_
  refine Ze (Xf rfl hg58 rfl) ?_
  refine Zn fun a hf=>?_
  exact ⟨hf.sub ⟨rfl,rfl,rfl,rfl,X1 rfl (by first|rfl|(simp only [hc6b,hc24b,hc27b,hg58,Bool.true_and,Bool.false_and,Bool.true_or,Bool.false_or];done)|(simp [hc6b,hc24b,hc27b,hg58];done)|(exfalso;revert hg58;simp [hc])),trivial⟩,rfl⟩
 rintro a _ ⟨hf,rfl⟩
 refine hK57 _ _ ?_
 refine Xm hf rfl (fun hc59=>?_) (fun hc59=>?_)
 ·have hc59b:=hc59
  refine Zs hf fun _ hK60=>?_
  refine Za rfl ?_
  refine Zt hK60 fun a hf=>?_
  refine wp_ret ?_
  refine X7 ?_
  refine X2 hf (Xj hf rfl rfl) ?_
  exact ⟨rfl,hW⟩
 have hc59b:=hc59
 have hgn:gOk nz35 p0z35=true∧gOk nz35 p1z35=true:=by revert hc59;cases gOk nz35 p0z35<;>cases gOk nz35 p1z35<;>simp
 obtain ⟨hga,hgb⟩:=hgn
 have hn3:nz35≤3:=by rw [hga,hgb] at hc59;simpa using hc59
 obtain ⟨A9,B9,hmA,hmB,hlA,hmAB,hla9,hlb9⟩:=X9s hga hgb hn3
 refine wp_skip ?_
 refine hK56 _ _ ?_
 refine Zs hf fun _ hK61=>?_
 refine Zm rfl<|Ze (Vn Xo hB9) ?_
 refine Zf (Vc (Xdt _ nz35 p0z35) X5h) ?_;rintro _ w30 ⟨A62,c62,rfl,ho62,hE⟩
 replace ho62:=ho62.lower hW.size
 replace hB9:=hB9.below hE
 replace hB10:=hB10.below hE
 replace hW:=btr hW hE
 refine Zm rfl<|Ze (X5 (vs:=[.agg #[vi (((gateI nz35 p0z35).getD mZ).rows),vi (((gateI nz35 p0z35).getD mZ).cols),.slice A62 (((gateI nz35 p0z35).getD mZ).cells).length c62],.bool ((gateI nz35 p0z35).isSome)]) rfl rfl)<|Ze (X5 (vs:=[.agg #[vi (((gateI nz35 p0z35).getD mZ).rows),vi (((gateI nz35 p0z35).getD mZ).cols),.slice A62 (((gateI nz35 p0z35).getD mZ).cells).length c62],.bool ((gateI nz35 p0z35).isSome)]) rfl rfl) ?_
 refine Zf (X6 (zs:=[vi 0,vi 0,.slice none 0 0]) X0p rfl) ?_;rintro _ w31 ⟨b64,rfl,hl64,hE,hB64⟩
 have hlo64:=Nat.le_trans hW.size hl64
 have haw1_64:=(hr_code.below' hW).away hl64
 have haw2_64:=(hr_more.below' hW).away hl64
 replace hB9:=hB9.below hE
 replace hB10:=hB10.below hE
 replace ho62:=ho62.below hE
 replace hW:=btr hW hE
 refine Zo (Vw [vi (((gateI nz35 p0z35).getD mZ).rows),vi (((gateI nz35 p0z35).getD mZ).cols),.slice A62 (((gateI nz35 p0z35).getD mZ).cells).length c62] X0u hB64) ?_;rintro _ w32 ⟨ho,hb⟩
 have hold:=hB64
 replace hB9:=hB9.only ho (Blk.ne hB9 hold rfl)
 replace hB10:=hB10.only ho (Blk.ne hB10 hold rfl)
 replace ho62:=ho62.onlyT ho hold rfl
 replace hW:=Below.only hW ho hlo64
 clear hold
 have hB64:=hb
 clear hb ho
 refine Za rfl ?_
 refine Zt hK61 fun a hf=>?_
 refine Zs hf fun _ hK65=>?_
 refine Zm rfl<|Ze (Vn Xo hB10) ?_
 refine Zf (Vc (Xdt _ nz35 p1z35) X5h) ?_;rintro _ w33 ⟨A66,c66,rfl,ho66,hE⟩
 replace ho66:=ho66.lower hW.size
 replace hB10:=hB10.below hE
 replace hB64:=hB64.below hE
 replace ho62:=ho62.below hE
 replace hW:=btr hW hE
 refine Zm rfl<|Ze (X5 (vs:=[.agg #[vi (((gateI nz35 p1z35).getD mZ).rows),vi (((gateI nz35 p1z35).getD mZ).cols),.slice A66 (((gateI nz35 p1z35).getD mZ).cells).length c66],.bool ((gateI nz35 p1z35).isSome)]) rfl rfl)<|Ze (X5 (vs:=[.agg #[vi (((gateI nz35 p1z35).getD mZ).rows),vi (((gateI nz35 p1z35).getD mZ).cols),.slice A66 (((gateI nz35 p1z35).getD mZ).cells).length c66],.bool ((gateI nz35 p1z35).isSome)]) rfl rfl) ?_
 refine Zf (X6 (zs:=[vi 0,vi 0,.slice none 0 0]) X0p rfl) ?_;rintro _ w34 ⟨b68,rfl,hl68,hE,hB68⟩
 have hne64_68:b64≠b68:=by have:=hB64.lt;omega
 have hlo68:=Nat.le_trans hW.size hl68
 have haw1_68:=(hr_code.below' hW).away hl68
 have haw2_68:=(hr_more.below' hW).away hl68
 replace hB10:=hB10.below hE
 replace hB64:=hB64.below hE
 replace ho62:=ho62.below hE
 replace ho66:=ho66.below hE
 replace hW:=btr hW hE
 refine Zo (Vw [vi (((gateI nz35 p1z35).getD mZ).rows),vi (((gateI nz35 p1z35).getD mZ).cols),.slice A66 (((gateI nz35 p1z35).getD mZ).cells).length c66] X0u hB68) ?_;rintro _ w35 ⟨ho,hb⟩
 have hold:=hB68
 replace hB10:=hB10.only ho (Blk.ne hB10 hold rfl)
 replace hB64:=hB64.only ho (by omega)
 replace ho62:=ho62.onlyT ho hold rfl
 replace ho66:=ho66.onlyT ho hold rfl
 replace hW:=Below.only hW ho hlo68
 clear hold
 have hB68:=hb
 clear hb ho
 refine Za rfl ?_
 refine Zt hK65 fun a hf=>?_
 refine Zs hf fun _ hK69=>?_
 refine Ze (Vn X0k hB64)<|Ze (Vn X0k hB68) ?_
 refine Zf (Vc (Xgw _ ((gateI nz35 p0z35).getD mZ) A62 c62 ho62.rd.top ((gateI nz35 p1z35).getD mZ) A66 c66 ho66.rd.top hla9 hlb9) X7b) ?_;rintro _ w36 ⟨A70,c70,rfl,ho70,hE⟩
 replace ho70:=ho70.lower hW.size
 replace hB64:=hB64.below hE
 replace hB68:=hB68.below hE
 replace ho62:=ho62.below hE
 replace ho66:=ho66.below hE
 replace hW:=btr hW hE
 refine Zm rfl<|Ze (X5 (vs:=[.agg #[vi (((mulI ((gateI nz35 p0z35).getD mZ) ((gateI nz35 p1z35).getD mZ)).getD mZ).rows),vi (((mulI ((gateI nz35 p0z35).getD mZ) ((gateI nz35 p1z35).getD mZ)).getD mZ).cols),.slice A70 (((mulI ((gateI nz35 p0z35).getD mZ) ((gateI nz35 p1z35).getD mZ)).getD mZ).cells).length c70],.bool ((mulI ((gateI nz35 p0z35).getD mZ) ((gateI nz35 p1z35).getD mZ)).isSome)]) rfl rfl)<|Ze (X5 (vs:=[.agg #[vi (((mulI ((gateI nz35 p0z35).getD mZ) ((gateI nz35 p1z35).getD mZ)).getD mZ).rows),vi (((mulI ((gateI nz35 p0z35).getD mZ) ((gateI nz35 p1z35).getD mZ)).getD mZ).cols),.slice A70 (((mulI ((gateI nz35 p0z35).getD mZ) ((gateI nz35 p1z35).getD mZ)).getD mZ).cells).length c70],.bool ((mulI ((gateI nz35 p0z35).getD mZ) ((gateI nz35 p1z35).getD mZ)).isSome)]) rfl rfl) ?_
 refine Zf (X6 (zs:=[vi 0,vi 0,.slice none 0 0]) X0p rfl) ?_;rintro _ w37 ⟨b72,rfl,hl72,hE,hB72⟩
 have hne64_72:b64≠b72:=by have:=hB64.lt;omega
 have hne68_72:b68≠b72:=by have:=hB68.lt;omega
 have hlo72:=Nat.le_trans hW.size hl72
 have haw1_72:=(hr_code.below' hW).away hl72
 have haw2_72:=(hr_more.below' hW).away hl72
 replace hB64:=hB64.below hE
 replace hB68:=hB68.below hE
 replace ho62:=ho62.below hE
 replace ho66:=ho66.below hE
 replace ho70:=ho70.below hE
 replace hW:=btr hW hE
 refine Zo (Vw [vi (((mulI ((gateI nz35 p0z35).getD mZ) ((gateI nz35 p1z35).getD mZ)).getD mZ).rows),vi (((mulI ((gateI nz35 p0z35).getD mZ) ((gateI nz35 p1z35).getD mZ)).getD mZ).cols),.slice A70 (((mulI ((gateI nz35 p0z35).getD mZ) ((gateI nz35 p1z35).getD mZ)).getD mZ).cells).length c70] X0u hB72) ?_;rintro _ w38 ⟨ho,hb⟩
 have hold:=hB72
 replace hB64:=hB64.only ho (by omega)
 replace hB68:=hB68.only ho (by omega)
 replace ho62:=ho62.onlyT ho hold rfl
 replace ho66:=ho66.onlyT ho hold rfl
 replace ho70:=ho70.onlyT ho hold rfl
 replace hW:=Below.only hW ho hlo72
 clear hold
 have hB72:=hb
 clear hb ho
 refine Za rfl ?_
 refine Zt hK69 fun a hf=>?_
 refine Zs hf fun _ hK73=>?_
 refine Ze (Vn X0k hB68)<|Ze (Vn X0k hB64) ?_
 refine Zf (Vc (Xgw _ ((gateI nz35 p1z35).getD mZ) A66 c66 ho66.rd.top ((gateI nz35 p0z35).getD mZ) A62 c62 ho62.rd.top hlb9 hla9) X7b) ?_;rintro _ w39 ⟨A74,c74,rfl,ho74,hE⟩
 replace ho74:=ho74.lower hW.size
 replace hB64:=hB64.below hE
 replace hB68:=hB68.below hE
 replace hB72:=hB72.below hE
 replace ho62:=ho62.below hE
 replace ho66:=ho66.below hE
 replace ho70:=ho70.below hE
 replace hW:=btr hW hE
 refine Zm rfl<|Ze (X5 (vs:=[.agg #[vi (((mulI ((gateI nz35 p1z35).getD mZ) ((gateI nz35 p0z35).getD mZ)).getD mZ).rows),vi (((mulI ((gateI nz35 p1z35).getD mZ) ((gateI nz35 p0z35).getD mZ)).getD mZ).cols),.slice A74 (((mulI ((gateI nz35 p1z35).getD mZ) ((gateI nz35 p0z35).getD mZ)).getD mZ).cells).length c74],.bool ((mulI ((gateI nz35 p1z35).getD mZ) ((gateI nz35 p0z35).getD mZ)).isSome)]) rfl rfl)<|Ze (X5 (vs:=[.agg #[vi (((mulI ((gateI nz35 p1z35).getD mZ) ((gateI nz35 p0z35).getD mZ)).getD mZ).rows),vi (((mulI ((gateI nz35 p1z35).getD mZ) ((gateI nz35 p0z35).getD mZ)).getD mZ).cols),.slice A74 (((mulI ((gateI nz35 p1z35).getD mZ) ((gateI nz35 p0z35).getD mZ)).getD mZ).cells).length c74],.bool ((mulI ((gateI nz35 p1z35).getD mZ) ((gateI nz35 p0z35).getD mZ)).isSome)]) rfl rfl) ?_
 refine Zf (X6 (zs:=[vi 0,vi 0,.slice none 0 0]) X0p rfl) ?_;rintro _ w40 ⟨b76,rfl,hl76,hE,hB76⟩
 have hne64_76:b64≠b76:=by have:=hB64.lt;omega
 have hne68_76:b68≠b76:=by have:=hB68.lt;omega
 have hne72_76:b72≠b76:=by have:=hB72.lt;omega
 have hlo76:=Nat.le_trans hW.size hl76
 have haw1_76:=(hr_code.below' hW).away hl76
 have haw2_76:=(hr_more.below' hW).away hl76
 replace hB64:=hB64.below hE
 replace hB68:=hB68.below hE
 replace hB72:=hB72.below hE
 replace ho62:=ho62.below hE
 replace ho66:=ho66.below hE
 replace ho70:=ho70.below hE
 replace ho74:=ho74.below hE
 replace hW:=btr hW hE
 refine Zo (Vw [vi (((mulI ((gateI nz35 p1z35).getD mZ) ((gateI nz35 p0z35).getD mZ)).getD mZ).rows),vi (((mulI ((gateI nz35 p1z35).getD mZ) ((gateI nz35 p0z35).getD mZ)).getD mZ).cols),.slice A74 (((mulI ((gateI nz35 p1z35).getD mZ) ((gateI nz35 p0z35).getD mZ)).getD mZ).cells).length c74] X0u hB76) ?_;rintro _ w41 ⟨ho,hb⟩
 have hold:=hB76
 replace hB64:=hB64.only ho (by omega)
 replace hB68:=hB68.only ho (by omega)
 replace hB72:=hB72.only ho (by omega)
 replace ho62:=ho62.onlyT ho hold rfl
 replace ho66:=ho66.onlyT ho hold rfl
 replace ho70:=ho70.onlyT ho hold rfl
 replace ho74:=ho74.onlyT ho hold rfl
 replace hW:=Below.only hW ho hlo76
 clear hold
 have hB76:=hb
 clear hb ho
 refine Za rfl ?_
 refine Zt hK73 fun a hf=>?_
 refine wp_seq_k fun _ hK77=>?_
 refine X0g (fun a w=>Fr a 140 [(4,.bool (((mulI ((gateI nz35 p1z35).getD mZ) ((gateI nz35 p0z35).getD mZ)).isSome)&&((decide (((mulI ((gateI nz35 p0z35).getD mZ) ((gateI nz35 p1z35).getD mZ)).getD mZ).rows=((mulI ((gateI nz35 p1z35).getD mZ) ((gateI nz35 p0z35).getD mZ)).getD mZ).rows)&&decide (((mulI ((gateI nz35 p0z35).getD mZ) ((gateI nz35 p1z35).getD mZ)).getD mZ).cols=((mulI ((gateI nz35 p1z35).getD mZ) ((gateI nz35 p0z35).getD mZ)).getD mZ).cols)&&decide (((mulI ((gateI nz35 p0z35).getD mZ) ((gateI nz35 p1z35).getD mZ)).getD mZ).cells=((mulI ((gateI nz35 p1z35).getD mZ) ((gateI nz35 p0z35).getD mZ)).getD mZ).cells))==(gOk nz35 p0z35&&gOk nz35 p1z35&&commI p0z35 p1z35))))]∧Below w41.heap.size w41 w) ?_ ?_
 ·have hEc:Below w41.heap.size w41 w41:=Below.refl _ _
  refine Zr hf ?_
  refine Zm rfl<|Zm rfl ?_
  refine Zg 133 rfl (fun hg78=>?_) (fun hg78=>?_)
  ·refine Zv ⟨_,_,rfl,rfl,hg78⟩ (Vn X0k hB72) ?_
   refine Zv ⟨_,_,rfl,rfl,hg78⟩ (Vn X0k hB76) ?_
   refine Zk ⟨_,_,rfl,rfl,hg78⟩ (Vc (Xlw _ ((mulI ((gateI nz35 p0z35).getD mZ) ((gateI nz35 p1z35).getD mZ)).getD mZ) A70 c70 ho70.rd.top ((mulI ((gateI nz35 p1z35).getD mZ) ((gateI nz35 p0z35).getD mZ)).getD mZ) A74 c74 ho74.rd.top (by rw [hmA];exact hlA)) Xbl) ?_;rintro _ w42 ⟨rfl,hE⟩
   replace hB72:=hB72.below hE
   replace hB76:=hB76.below hE
   replace ho70:=ho70.below hE
   replace ho74:=ho74.below hE
   replace hW:=btr hW hE
   replace hEc:=btr hEc hE
   refine Zv ⟨_,_,rfl,rfl,hg78⟩ (X8 rfl) ?_
   refine Zv ⟨_,_,rfl,rfl,hg78⟩ (Xji Tryz.underlying4 rfl rfl) ?_
   refine Ze (Xg rfl hg78 rfl)<|Za rfl ?_
   refine Zn fun a hf=>?_
   have hEE:Below w41.heap.size w41 w42:=hEc
   exact ⟨hf.sub ⟨X1 rfl (by first|rfl|(simp only [hc6b,hc24b,hc27b,hc59b,hg78,Bool.true_and,Bool.false_and,Bool.true_or,Bool.false_or];done)|(simp [hc6b,hc24b,hc27b,hc59b,hg78];done)|(exfalso;revert hg78;simp [hc])),trivial⟩,hEE⟩
  refine Zp ⟨_,_,rfl,rfl,hg78⟩ ?_
  refine Zp ⟨_,_,rfl,rfl,hg78⟩ ?_
  refine Zp ⟨_,_,rfl,rfl,hg78⟩ ?_
  refine Zp ⟨_,_,rfl,rfl,hg78⟩ ?_
  refine Zp ⟨_,_,rfl,rfl,hg78⟩ ?_
  refine Ze (Xf rfl hg78 rfl)<|Za rfl ?_
  refine Zn fun a hf=>?_
  have hEE:Below w41.heap.size w41 w41:=hEc
  exact ⟨hf.sub ⟨X1 rfl (by first|rfl|(simp only [hc6b,hc24b,hc27b,hc59b,hg78,Bool.true_and,Bool.false_and,Bool.true_or,Bool.false_or];done)|(simp [hc6b,hc24b,hc27b,hc59b,hg78];done)|(exfalso;revert hg78;simp [hc])),trivial⟩,hEE⟩
 rintro a w43 ⟨hf,hE⟩
 replace hB72:=hB72.below hE
 replace hB76:=hB76.below hE
 replace ho70:=ho70.below hE
 replace ho74:=ho74.below hE
 replace hW:=btr hW hE
 refine hK77 _ _ ?_
 refine wp_ret (X2 hf (Xj hf rfl rfl) ?_)
 exact ⟨by rw [Xcl hga hgb hmA hmB hmAB],hW⟩
end Go.Proofs.YtlfjcmldfbfdbaaGreat
namespace Go.Proofs.YtlfjcmldfbfdbaaGreat
open Go.ChangeShapes Go.WideShapes Go.ChangeAt Go.RowKit Go.Deep Go.Joins
set_option linter.unusedVariables false
set_option maxRecDepth 100000 in
theorem Xad(os:Os)(started:os.Started)(H:Type)(enc:TypeId×Value→H) :
  ReturnsInHanded {} Tryz.checked os 3 .any (Rows.fnCommutingSpec.pre6 enc Tryz.prog Tryz.f3 Rows.fnCommutingRow.domain false) (Rows.fnCommutingSpec.post enc Tryz.prog Tryz.f3 false true false false):=by
 refine returnsInHanded_of_change (C:=Tryz.checked) own started (by kernel_rfl) Tryz.func3
  (ChangeSpec.witness6 (enc:=enc) (C:=Tryz.checked) false ⟨#[],#[.slice none 0 0,.slice none 0 0],[]⟩ 8 (by kernel_rfl) (by kernel_rfl) (by kernel_rfl) (by kernel_rfl)) ?_
 intro W base args ds gs before hval0 hW hcnd _
 have hval:∀ (j:Nat) t v,Tryz.f3.params[j]? = some t→args[j]? = some v→Value.okWide Tryz.prog W .any base t v:=hval0
 have hW':=hW
 obtain ⟨p,q,hA0,hV,rfl,hfz,hnd⟩:=hW
 have hA:DataW.TrodAll enc Tryz.prog W 0 (fun _=>true) true Tryz.f3.params.toList args.toList ds p:=hA0
 rw [Tryz.params3] at hA hval
 obtain ⟨v0,v1,d0,d1,p0,p1,rfl,rfl,rfl,h0,h1⟩:=trodAll_two hA
 obtain ⟨rfl,rfl⟩:=trodVars_none hV
 have h0k:=h0
 have h1k:=h1
 obtain ⟨A,c,i,E,rfl,hr0,hc0⟩:=X6z (hval 0 22 v0 rfl rfl) h0 (fun _=>rfl)
 obtain ⟨B,l,k,F,rfl,hr1,hc1⟩:=X6z (hval 1 22 v1 rfl rfl) h1 (fun _=>rfl)
 clear hA0 hval0
 simp only [List.append_nil] at hW'
 have hlt:∀ x ∈ p0++p1,x.block<W.heap.size:=fun x hx=>hW'.lt x (by simpa using hx)
 refine Calls.mono (Xof W A i c hr0 hc0 B k l hr1 hc1) fun r W' ⟨v,he,hv,hb⟩=>?_
 subst hv
 refine ⟨_,he,Xb6 (pa:=p0++p1) (pv:=[]) hW' (fun _ _ _=>trodAll_mk1 (shut_bool Tryz.underlying4 true)) (fun sp hsp=>?_) (fun _ _=>rfl) (by simp) hb⟩
 exact trodAll_mk2 (WideElems.Trod_stays Xbq (by kernel_rfl) (of_decide_eq_true (by kernel_rfl)) h0k (fun x hx=>hb.same (hlt x (List.mem_append_left _ hx))) (fun x hx=>hsp x (by simp [hx])))
  (WideElems.Trod_stays Xbq (by kernel_rfl) (of_decide_eq_true (by kernel_rfl)) h1k (fun x hx=>hb.same (hlt x (List.mem_append_right _ hx))) (fun x hx=>hsp x (by simp [hx])))
theorem comm_holds:Rows.FnCommutingSaid:=
 OpenClaim.holds_of_wide 3 Tryz.f3 rfl rfl rfl rfl rfl rfl rfl ⟨rfl,rfl,rfl,rfl,rfl⟩ rfl rfl rfl rfl rfl (by kernel_rfl) Tryz.func3 (by kernel_rfl)
  (of_decide_eq_true (by kernel_rfl)) (by unfold Func.isWrapper;first|(rw [if_pos (by decide +kernel)];kernel_rfl)|(rw [if_neg (by decide +kernel)];exact ⟨rfl,rfl⟩))
  (fun os started H enc _=>Xad os started H enc)
end Go.Proofs.YtlfjcmldfbfdbaaGreat
