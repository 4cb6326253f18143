/-
  What is proved: for all drawn certificates, an accepted one leads to a circuit with the same operator up to a phase, and joined certificates remain accepted: the law returns true at every input and leaves its arguments as they were. Conditions: none.
-/
import Derived.Test.YtlfjcmldfbfdbaaGreatW1
import Derived.MapKept
set_option linter.unusedVariables false
set_option linter.unusedSimpArgs false
set_option maxRecDepth 4000
namespace Go.Proofs.YtlfjcmldfbfdbaaGreat
open Go.RowKit
theorem Xpj(w0:World)(x:Dy)(y:Dy) : Ret Tryz.prog 140 [.agg #[vi x.num.a,vi x.num.b,vi x.num.c,vi x.num.d,vi x.exp],.agg #[vi y.num.a,vi y.num.b,vi y.num.c,vi y.num.d,vi y.exp],.func (.func 141) #[] #[]] w0 (fun v w=>v=.tuple #[dV ((dAddI x y).getD dZ),.bool ((dAddI x y).isSome)]∧Below w0.heap.size w0 w):=by
 refine enter Tryz.func140 rfl 64 rfl rfl ?_
 intro a hf
 have hW:Below w0.heap.size w0 w0:=Below.refl _ _
 refine Zs hf fun _ hK1=>?_
 refine Zf (X0p (zs:=[vi x.num.a,vi x.num.b,vi x.num.c,vi x.num.d,vi x.exp]) rfl rfl) ?_;rintro _ w1 ⟨b2,rfl,hl2,hE,hB2⟩
 have hlo2:=Nat.le_trans hW.size hl2
 replace hW:=btr hW hE
 refine Zf (X0p (zs:=[vi y.num.a,vi y.num.b,vi y.num.c,vi y.num.d,vi y.exp]) rfl rfl) ?_;rintro _ w2 ⟨b3,rfl,hl3,hE,hB3⟩
 have hne2_3:b2≠b3:=by have:=hB2.lt;omega
 have hlo3:=Nat.le_trans hW.size hl3
 replace hB2:=hB2.below hE
 replace hW:=btr hW hE
 refine Zf (Xa (zs:=[vi 0,vi 0,vi 0,vi 0,vi 0]) X1n rfl) ?_;rintro _ w3 ⟨b4,rfl,hl4,hE,hB4⟩
 have hne2_4:b2≠b4:=by have:=hB2.lt;omega
 have hne3_4:b3≠b4:=by have:=hB3.lt;omega
 have hlo4:=Nat.le_trans hW.size hl4
 replace hB2:=hB2.below hE
 replace hB3:=hB3.below hE
 replace hW:=btr hW hE
 refine Za rfl ?_
 refine Zt hK1 fun a hf=>?_
 refine wp_seq_k fun _ hK5=>?_
 refine wp_seq_k fun _ hK6=>?_
 refine X09 (fun a w=>Fr a 64 [(2,.func (.func 141) #[] #[]),(3,.pointer (some ⟨b2,0,none⟩)),(4,.pointer (some ⟨b3,0,none⟩)),(6,.pointer (some ⟨b4,0,none⟩)),(22,.bool ((!(dOk x))||(!(dOk y))))]∧Below w3.heap.size w3 w) ?_ ?_
 ·have hEc:Below w3.heap.size w3 w3:=Below.refl _ _
  refine Zr hf ?_
  refine Ze (Vn Xg hB2) ?_
  refine Zf (Vc (Xe9 _ x) X6h) ?_;rintro _ w4 ⟨rfl,hE⟩
  replace hB2:=hB2.below hE
  replace hB3:=hB3.below hE
  replace hB4:=hB4.below hE
  replace hW:=btr hW hE
  replace hEc:=btr hEc hE
  refine Ze (X15 rfl)<|Zm rfl ?_
  refine Zg 18 rfl (fun hg7=>?_) (fun hg7=>?_)
  ·refine Zp ⟨_,_,rfl,rfl,hg7⟩ ?_
   refine Zp ⟨_,_,rfl,rfl,hg7⟩ ?_
   refine Zp ⟨_,_,rfl,rfl,hg7⟩ ?_
   refine Ze (Xc rfl hg7 rfl) ?_
   refine Zn fun a hf=>?_
   have hEE:Below w3.heap.size w3 w4:=hEc
   exact ⟨hf.sub ⟨rfl,rfl,rfl,rfl,X1 rfl (by first|rfl|(simp only [hg7,bs];done)|simp [hg7]),trivial⟩,hEE⟩
  refine Zv ⟨_,_,rfl,rfl,hg7⟩ (Vn Xg hB3) ?_
  refine Zk ⟨_,_,rfl,rfl,hg7⟩ (Vc (Xe9 _ y) X6h) ?_;rintro _ w5 ⟨rfl,hE⟩
  replace hB2:=hB2.below hE
  replace hB3:=hB3.below hE
  replace hB4:=hB4.below hE
  replace hW:=btr hW hE
  replace hEc:=btr hEc hE
  refine Zv ⟨_,_,rfl,rfl,hg7⟩ (X15 rfl) ?_
  refine Ze (X7 rfl hg7 rfl) ?_
  refine Zn fun a hf=>?_
  have hEE:Below w3.heap.size w3 w5:=hEc
  exact ⟨hf.sub ⟨rfl,rfl,rfl,rfl,X1 rfl (by first|rfl|(simp only [hg7,bs];done)|simp [hg7]),trivial⟩,hEE⟩
 rintro a w6 ⟨hf,hE⟩
 replace hB2:=hB2.below hE
 replace hB3:=hB3.below hE
 replace hB4:=hB4.below hE
 replace hW:=btr hW hE
 refine hK6 _ _ ?_
 refine Xi hf rfl (fun hc8=>?_) (fun hc8=>?_)
 ·have hc8b:=hc8
  have hn:(dOk x&&dOk y)=false:=by revert hc8;cases dOk x<;>cases dOk y<;>simp
  refine Zs hf fun _ hK9=>?_
  refine Ze (Xh (ps:=[]) (cs:=[vi 0,vi 0,vi 0,vi 0,vi 0]) rfl (fun _=>by first|rfl|kernel_rfl)) ?_
  refine Zo (Vw [vi 0,vi 0,vi 0,vi 0,vi 0] Xr hB4) ?_;rintro _ w7 ⟨ho,hb⟩
  have hold:=hB4
  replace hB2:=hB2.only ho (by omega)
  replace hB3:=hB3.only ho (by omega)
  replace hW:=Below.only hW ho hlo4
  clear hold
  have hB4:=hb
  clear hb ho
  refine Za rfl ?_
  refine Zt hK9 fun a hf=>?_
  refine wp_ret ?_
  refine X8 ?_
  refine X2 hf (X0r hf rfl (ResV.cellN (l:=[vi 0,vi 0,vi 0,vi 0,vi 0]) rfl Xg (hB4.at 0) rfl) rfl) ?_
  exact ⟨by rw [dAddI,hn];rfl,hW⟩
 have hc8b:=hc8
 have hy:(dOk x&&dOk y)=true:=by revert hc8;cases dOk x<;>cases dOk y<;>simp
 have hx:=X2t (Bool.and_eq_true _ _▸hy:dOk x=true∧dOk y=true).1
 have hz:=X2t (Bool.and_eq_true _ _▸hy:dOk x=true∧dOk y=true).2
 refine wp_skip ?_
 refine hK5 _ _ ?_
 refine Zs hf fun _ hK10=>?_
 refine Ze (Vd rfl X1g 4)<|Ze (X0 rfl X5 (hB2.at 4))<|Ze (Vd rfl X1g 4)<|Ze (X0 rfl X5 (hB3.at 4))<|Ze (Xnf rfl rfl) ?_
 refine Za rfl ?_
 refine Zt hK10 fun a hf=>?_
 refine Zs hf fun _ hK11=>?_
 refine Ze (Vn Xg hB2)<|Zm rfl ?_
 refine Zf (Vc (Xmy _ x (max x.exp y.exp) (by omega) (by omega) (by omega)) Xgz) ?_;rintro _ w8 ⟨rfl,hE⟩
 replace hB2:=hB2.below hE
 replace hB3:=hB3.below hE
 replace hB4:=hB4.below hE
 replace hW:=btr hW hE
 refine Zm rfl<|Ze (X3 (vs:=[.agg #[vi (((dRaise x (max x.exp y.exp)).1).a),vi (((dRaise x (max x.exp y.exp)).1).b),vi (((dRaise x (max x.exp y.exp)).1).c),vi (((dRaise x (max x.exp y.exp)).1).d)],.bool ((dRaise x (max x.exp y.exp)).2)]) rfl rfl)<|Ze (X3 (vs:=[.agg #[vi (((dRaise x (max x.exp y.exp)).1).a),vi (((dRaise x (max x.exp y.exp)).1).b),vi (((dRaise x (max x.exp y.exp)).1).c),vi (((dRaise x (max x.exp y.exp)).1).d)],.bool ((dRaise x (max x.exp y.exp)).2)]) rfl rfl) ?_
 refine Zf (Xa (zs:=[vi 0,vi 0,vi 0,vi 0]) X2a rfl) ?_;rintro _ w9 ⟨b12,rfl,hl12,hE,hB12⟩
 have hlo12:=Nat.le_trans hW.size hl12
 replace hB2:=hB2.below hE
 replace hB3:=hB3.below hE
 replace hB4:=hB4.below hE
 replace hW:=btr hW hE
 refine Zo (Vw [vi (((dRaise x (max x.exp y.exp)).1).a),vi (((dRaise x (max x.exp y.exp)).1).b),vi (((dRaise x (max x.exp y.exp)).1).c),vi (((dRaise x (max x.exp y.exp)).1).d)] X1a hB12) ?_;rintro _ w10 ⟨ho,hb⟩
 have hold:=hB12
 replace hB2:=hB2.only ho (Blk.ne hB2 hold rfl)
 replace hB3:=hB3.only ho (Blk.ne hB3 hold rfl)
 replace hB4:=hB4.only ho (Blk.ne hB4 hold rfl)
 replace hW:=Below.only hW ho hlo12
 clear hold
 have hB12:=hb
 clear hb ho
 refine Za rfl ?_
 refine Zt hK11 fun a hf=>?_
 refine Zs hf fun _ hK13=>?_
 refine Ze (Vn Xg hB3)<|Zm rfl ?_
 refine Zf (Vc (Xmy _ y (max x.exp y.exp) (by omega) (by omega) (by omega)) Xgz) ?_;rintro _ w11 ⟨rfl,hE⟩
 replace hB3:=hB3.below hE
 replace hB4:=hB4.below hE
 replace hB12:=hB12.below hE
 replace hW:=btr hW hE
 refine Zm rfl<|Ze (X3 (vs:=[.agg #[vi (((dRaise y (max x.exp y.exp)).1).a),vi (((dRaise y (max x.exp y.exp)).1).b),vi (((dRaise y (max x.exp y.exp)).1).c),vi (((dRaise y (max x.exp y.exp)).1).d)],.bool ((dRaise y (max x.exp y.exp)).2)]) rfl rfl)<|Ze (X3 (vs:=[.agg #[vi (((dRaise y (max x.exp y.exp)).1).a),vi (((dRaise y (max x.exp y.exp)).1).b),vi (((dRaise y (max x.exp y.exp)).1).c),vi (((dRaise y (max x.exp y.exp)).1).d)],.bool ((dRaise y (max x.exp y.exp)).2)]) rfl rfl) ?_
 refine Zf (Xa (zs:=[vi 0,vi 0,vi 0,vi 0]) X2a rfl) ?_;rintro _ w12 ⟨b14,rfl,hl14,hE,hB14⟩
 have hne12_14:b12≠b14:=by have:=hB12.lt;omega
 have hlo14:=Nat.le_trans hW.size hl14
 replace hB3:=hB3.below hE
 replace hB4:=hB4.below hE
 replace hB12:=hB12.below hE
 replace hW:=btr hW hE
 refine Zo (Vw [vi (((dRaise y (max x.exp y.exp)).1).a),vi (((dRaise y (max x.exp y.exp)).1).b),vi (((dRaise y (max x.exp y.exp)).1).c),vi (((dRaise y (max x.exp y.exp)).1).d)] X1a hB14) ?_;rintro _ w13 ⟨ho,hb⟩
 have hold:=hB14
 replace hB3:=hB3.only ho (Blk.ne hB3 hold rfl)
 replace hB4:=hB4.only ho (Blk.ne hB4 hold rfl)
 replace hB12:=hB12.only ho (by omega)
 replace hW:=Below.only hW ho hlo14
 clear hold
 have hB14:=hb
 clear hb ho
 refine Za rfl ?_
 refine Zt hK13 fun a hf=>?_
 refine Zs hf fun _ hK15=>?_
 refine Zm rfl<|Ze (Vn X05 hB12)<|Ze (Vn X05 hB14) ?_
 refine Zf (X9o (cs:=[]) (vs:=[.agg #[vi (((dRaise x (max x.exp y.exp)).1).a),vi (((dRaise x (max x.exp y.exp)).1).b),vi (((dRaise x (max x.exp y.exp)).1).c),vi (((dRaise x (max x.exp y.exp)).1).d)],.agg #[vi (((dRaise y (max x.exp y.exp)).1).a),vi (((dRaise y (max x.exp y.exp)).1).b),vi (((dRaise y (max x.exp y.exp)).1).c),vi (((dRaise y (max x.exp y.exp)).1).d)]]) rfl rfl Xkn (Xph _ ((dRaise x (max x.exp y.exp)).1) ((dRaise y (max x.exp y.exp)).1))) ?_;rintro _ w14 ⟨rfl,hE⟩
 replace hB4:=hB4.below hE
 replace hB12:=hB12.below hE
 replace hB14:=hB14.below hE
 replace hW:=btr hW hE
 refine Zm rfl<|Ze (X3 (vs:=[.agg #[vi ((rIf1 (rAdd ((dRaise x (max x.exp y.exp)).1) ((dRaise y (max x.exp y.exp)).1)) [((dRaise x (max x.exp y.exp)).1),((dRaise y (max x.exp y.exp)).1)]).a),vi ((rIf1 (rAdd ((dRaise x (max x.exp y.exp)).1) ((dRaise y (max x.exp y.exp)).1)) [((dRaise x (max x.exp y.exp)).1),((dRaise y (max x.exp y.exp)).1)]).b),vi ((rIf1 (rAdd ((dRaise x (max x.exp y.exp)).1) ((dRaise y (max x.exp y.exp)).1)) [((dRaise x (max x.exp y.exp)).1),((dRaise y (max x.exp y.exp)).1)]).c),vi ((rIf1 (rAdd ((dRaise x (max x.exp y.exp)).1) ((dRaise y (max x.exp y.exp)).1)) [((dRaise x (max x.exp y.exp)).1),((dRaise y (max x.exp y.exp)).1)]).d)],.bool (rIf2 (rAdd ((dRaise x (max x.exp y.exp)).1) ((dRaise y (max x.exp y.exp)).1)) [((dRaise x (max x.exp y.exp)).1),((dRaise y (max x.exp y.exp)).1)])]) rfl rfl)<|Ze (X3 (vs:=[.agg #[vi ((rIf1 (rAdd ((dRaise x (max x.exp y.exp)).1) ((dRaise y (max x.exp y.exp)).1)) [((dRaise x (max x.exp y.exp)).1),((dRaise y (max x.exp y.exp)).1)]).a),vi ((rIf1 (rAdd ((dRaise x (max x.exp y.exp)).1) ((dRaise y (max x.exp y.exp)).1)) [((dRaise x (max x.exp y.exp)).1),((dRaise y (max x.exp y.exp)).1)]).b),vi ((rIf1 (rAdd ((dRaise x (max x.exp y.exp)).1) ((dRaise y (max x.exp y.exp)).1)) [((dRaise x (max x.exp y.exp)).1),((dRaise y (max x.exp y.exp)).1)]).c),vi ((rIf1 (rAdd ((dRaise x (max x.exp y.exp)).1) ((dRaise y (max x.exp y.exp)).1)) [((dRaise x (max x.exp y.exp)).1),((dRaise y (max x.exp y.exp)).1)]).d)],.bool (rIf2 (rAdd ((dRaise x (max x.exp y.exp)).1) ((dRaise y (max x.exp y.exp)).1)) [((dRaise x (max x.exp y.exp)).1),((dRaise y (max x.exp y.exp)).1)])]) rfl rfl) ?_
 refine Zf (Xa (zs:=[vi 0,vi 0,vi 0,vi 0]) X2a rfl) ?_;rintro _ w15 ⟨b16,rfl,hl16,hE,hB16⟩
 have hne12_16:b12≠b16:=by have:=hB12.lt;omega
 have hne14_16:b14≠b16:=by have:=hB14.lt;omega
 have hlo16:=Nat.le_trans hW.size hl16
 replace hB4:=hB4.below hE
 replace hB12:=hB12.below hE
 replace hB14:=hB14.below hE
 replace hW:=btr hW hE
 refine Zo (Vw [vi ((rIf1 (rAdd ((dRaise x (max x.exp y.exp)).1) ((dRaise y (max x.exp y.exp)).1)) [((dRaise x (max x.exp y.exp)).1),((dRaise y (max x.exp y.exp)).1)]).a),vi ((rIf1 (rAdd ((dRaise x (max x.exp y.exp)).1) ((dRaise y (max x.exp y.exp)).1)) [((dRaise x (max x.exp y.exp)).1),((dRaise y (max x.exp y.exp)).1)]).b),vi ((rIf1 (rAdd ((dRaise x (max x.exp y.exp)).1) ((dRaise y (max x.exp y.exp)).1)) [((dRaise x (max x.exp y.exp)).1),((dRaise y (max x.exp y.exp)).1)]).c),vi ((rIf1 (rAdd ((dRaise x (max x.exp y.exp)).1) ((dRaise y (max x.exp y.exp)).1)) [((dRaise x (max x.exp y.exp)).1),((dRaise y (max x.exp y.exp)).1)]).d)] X1a hB16) ?_;rintro _ w16 ⟨ho,hb⟩
 have hold:=hB16
 replace hB4:=hB4.only ho (Blk.ne hB4 hold rfl)
 replace hB12:=hB12.only ho (by omega)
 replace hB14:=hB14.only ho (by omega)
 replace hW:=Below.only hW ho hlo16
 clear hold
 have hB16:=hb
 clear hb ho
 refine Za rfl ?_
 refine Zt hK15 fun a hf=>?_
 refine wp_seq_k fun _ hK17=>?_
 refine wp_seq_k fun _ hK18=>?_
 refine X09 (fun a w=>Fr a 64 [(6,.pointer (some ⟨b4,0,none⟩)),(8,vi (max x.exp y.exp)),(13,.pointer (some ⟨b16,0,none⟩)),(57,.bool (((!((dRaise x (max x.exp y.exp)).2))||(!((dRaise y (max x.exp y.exp)).2)))||(!(rIf2 (rAdd ((dRaise x (max x.exp y.exp)).1) ((dRaise y (max x.exp y.exp)).1)) [((dRaise x (max x.exp y.exp)).1),((dRaise y (max x.exp y.exp)).1)]))))]∧w16=w) ?_ ?_
 ·refine Zr hf ?_
  refine Zm rfl<|Ze (X15 rfl)<|Zm rfl ?_
  refine Zg 50 rfl (fun hg19=>?_) (fun hg19=>?_)
  ·refine Zp ⟨_,_,rfl,rfl,hg19⟩ ?_
   refine Zp ⟨_,_,rfl,rfl,hg19⟩ ?_
   refine Ze (Xc rfl hg19 rfl)<|Zm rfl<|Zp ⟨_,_,rfl,rfl,rfl⟩ ?_
   refine Zp ⟨_,_,rfl,rfl,rfl⟩ ?_
   refine Ze (Xc rfl rfl rfl) ?_
   refine Zn fun a hf=>?_
   exact ⟨hf.sub ⟨rfl,rfl,rfl,X1 rfl (by first|rfl|(simp only [hc8b,hg19,bs];done)|simp [hc8b,hg19]),trivial⟩,rfl⟩
  refine Zv ⟨_,_,rfl,rfl,hg19⟩ (X9 rfl) ?_
  refine Zv ⟨_,_,rfl,rfl,hg19⟩ (X15 rfl) ?_
  refine Ze (X7 rfl hg19 rfl)<|Zm rfl ?_
  refine Zg 54 rfl (fun hg20=>?_) (fun hg20=>?_)
  ·refine Zp ⟨_,_,rfl,rfl,hg20⟩ ?_
   refine Zp ⟨_,_,rfl,rfl,hg20⟩ ?_
   refine Ze (Xc rfl hg20 rfl) ?_
   refine Zn fun a hf=>?_
   exact ⟨hf.sub ⟨rfl,rfl,rfl,X1 rfl (by first|rfl|(simp only [hc8b,hg19,hg20,bs];done)|simp [hc8b,hg19,hg20]),trivial⟩,rfl⟩
  refine Zv ⟨_,_,rfl,rfl,hg20⟩ (X9 rfl) ?_
  refine Zv ⟨_,_,rfl,rfl,hg20⟩ (X15 rfl) ?_
  refine Ze (X7 rfl hg20 rfl) ?_
  refine Zn fun a hf=>?_
  exact ⟨hf.sub ⟨rfl,rfl,rfl,X1 rfl (by first|rfl|(simp only [hc8b,hg19,hg20,bs];done)|simp [hc8b,hg19,hg20]),trivial⟩,rfl⟩
 rintro a _ ⟨hf,rfl⟩
 refine hK18 _ _ ?_
 refine Xi hf rfl (fun hc21=>?_) (fun hc21=>?_)
 ·have hc21b:=hc21
  have hn2:=X94 hc21
  refine Zs hf fun _ hK22=>?_
  refine Ze (Xh (ps:=[]) (cs:=[vi 0,vi 0,vi 0,vi 0,vi 0]) rfl (fun _=>by first|rfl|kernel_rfl)) ?_
  refine Zo (Vw [vi 0,vi 0,vi 0,vi 0,vi 0] Xr hB4) ?_;rintro _ w17 ⟨ho,hb⟩
  have hold:=hB4
  replace hB16:=hB16.only ho (Blk.ne hB16 hold rfl)
  replace hW:=Below.only hW ho hlo4
  clear hold
  have hB4:=hb
  clear hb ho
  refine Za rfl ?_
  refine Zt hK22 fun a hf=>?_
  refine wp_ret ?_
  refine X8 ?_
  refine X2 hf (X0r hf rfl (ResV.cellN (l:=[vi 0,vi 0,vi 0,vi 0,vi 0]) rfl Xg (hB4.at 0) rfl) rfl) ?_
  exact ⟨by rw [dAddI,if_pos hy,hn2];rfl,hW⟩
 have hc21b:=hc21
 have hy2:=Xai hc21
 refine wp_skip ?_
 refine hK17 _ _ ?_
 refine Zs hf fun _ hK23=>?_
 refine Ze (Vn X05 hB16)<|Zm rfl ?_
 refine Zf (Vc (Xng _ (rIf1 (rAdd ((dRaise x (max x.exp y.exp)).1) ((dRaise y (max x.exp y.exp)).1)) [((dRaise x (max x.exp y.exp)).1),((dRaise y (max x.exp y.exp)).1)]) (max x.exp y.exp)) Xh3) ?_;rintro _ w18 ⟨rfl,hE⟩
 replace hB4:=hB4.below hE
 replace hB16:=hB16.below hE
 replace hW:=btr hW hE
 refine Ze (X3 (vs:=[.agg #[vi (((dOf (rIf1 (rAdd ((dRaise x (max x.exp y.exp)).1) ((dRaise y (max x.exp y.exp)).1)) [((dRaise x (max x.exp y.exp)).1),((dRaise y (max x.exp y.exp)).1)]) (max x.exp y.exp)).getD dZ).num.a),vi (((dOf (rIf1 (rAdd ((dRaise x (max x.exp y.exp)).1) ((dRaise y (max x.exp y.exp)).1)) [((dRaise x (max x.exp y.exp)).1),((dRaise y (max x.exp y.exp)).1)]) (max x.exp y.exp)).getD dZ).num.b),vi (((dOf (rIf1 (rAdd ((dRaise x (max x.exp y.exp)).1) ((dRaise y (max x.exp y.exp)).1)) [((dRaise x (max x.exp y.exp)).1),((dRaise y (max x.exp y.exp)).1)]) (max x.exp y.exp)).getD dZ).num.c),vi (((dOf (rIf1 (rAdd ((dRaise x (max x.exp y.exp)).1) ((dRaise y (max x.exp y.exp)).1)) [((dRaise x (max x.exp y.exp)).1),((dRaise y (max x.exp y.exp)).1)]) (max x.exp y.exp)).getD dZ).num.d),vi (((dOf (rIf1 (rAdd ((dRaise x (max x.exp y.exp)).1) ((dRaise y (max x.exp y.exp)).1)) [((dRaise x (max x.exp y.exp)).1),((dRaise y (max x.exp y.exp)).1)]) (max x.exp y.exp)).getD dZ).exp)],.bool ((dOf (rIf1 (rAdd ((dRaise x (max x.exp y.exp)).1) ((dRaise y (max x.exp y.exp)).1)) [((dRaise x (max x.exp y.exp)).1),((dRaise y (max x.exp y.exp)).1)]) (max x.exp y.exp)).isSome)]) rfl rfl)<|Ze (X3 (vs:=[.agg #[vi (((dOf (rIf1 (rAdd ((dRaise x (max x.exp y.exp)).1) ((dRaise y (max x.exp y.exp)).1)) [((dRaise x (max x.exp y.exp)).1),((dRaise y (max x.exp y.exp)).1)]) (max x.exp y.exp)).getD dZ).num.a),vi (((dOf (rIf1 (rAdd ((dRaise x (max x.exp y.exp)).1) ((dRaise y (max x.exp y.exp)).1)) [((dRaise x (max x.exp y.exp)).1),((dRaise y (max x.exp y.exp)).1)]) (max x.exp y.exp)).getD dZ).num.b),vi (((dOf (rIf1 (rAdd ((dRaise x (max x.exp y.exp)).1) ((dRaise y (max x.exp y.exp)).1)) [((dRaise x (max x.exp y.exp)).1),((dRaise y (max x.exp y.exp)).1)]) (max x.exp y.exp)).getD dZ).num.c),vi (((dOf (rIf1 (rAdd ((dRaise x (max x.exp y.exp)).1) ((dRaise y (max x.exp y.exp)).1)) [((dRaise x (max x.exp y.exp)).1),((dRaise y (max x.exp y.exp)).1)]) (max x.exp y.exp)).getD dZ).num.d),vi (((dOf (rIf1 (rAdd ((dRaise x (max x.exp y.exp)).1) ((dRaise y (max x.exp y.exp)).1)) [((dRaise x (max x.exp y.exp)).1),((dRaise y (max x.exp y.exp)).1)]) (max x.exp y.exp)).getD dZ).exp)],.bool ((dOf (rIf1 (rAdd ((dRaise x (max x.exp y.exp)).1) ((dRaise y (max x.exp y.exp)).1)) [((dRaise x (max x.exp y.exp)).1),((dRaise y (max x.exp y.exp)).1)]) (max x.exp y.exp)).isSome)]) rfl rfl) ?_
 refine Zo (Vw [vi (((dOf (rIf1 (rAdd ((dRaise x (max x.exp y.exp)).1) ((dRaise y (max x.exp y.exp)).1)) [((dRaise x (max x.exp y.exp)).1),((dRaise y (max x.exp y.exp)).1)]) (max x.exp y.exp)).getD dZ).num.a),vi (((dOf (rIf1 (rAdd ((dRaise x (max x.exp y.exp)).1) ((dRaise y (max x.exp y.exp)).1)) [((dRaise x (max x.exp y.exp)).1),((dRaise y (max x.exp y.exp)).1)]) (max x.exp y.exp)).getD dZ).num.b),vi (((dOf (rIf1 (rAdd ((dRaise x (max x.exp y.exp)).1) ((dRaise y (max x.exp y.exp)).1)) [((dRaise x (max x.exp y.exp)).1),((dRaise y (max x.exp y.exp)).1)]) (max x.exp y.exp)).getD dZ).num.c),vi (((dOf (rIf1 (rAdd ((dRaise x (max x.exp y.exp)).1) ((dRaise y (max x.exp y.exp)).1)) [((dRaise x (max x.exp y.exp)).1),((dRaise y (max x.exp y.exp)).1)]) (max x.exp y.exp)).getD dZ).num.d),vi (((dOf (rIf1 (rAdd ((dRaise x (max x.exp y.exp)).1) ((dRaise y (max x.exp y.exp)).1)) [((dRaise x (max x.exp y.exp)).1),((dRaise y (max x.exp y.exp)).1)]) (max x.exp y.exp)).getD dZ).exp)] Xr hB4) ?_;rintro _ w19 ⟨ho,hb⟩
 have hold:=hB4
 replace hB16:=hB16.only ho (Blk.ne hB16 hold rfl)
 replace hW:=Below.only hW ho hlo4
 clear hold
 have hB4:=hb
 clear hb ho
 refine Za rfl ?_
 refine Zt hK23 fun a hf=>?_
 refine wp_ret (X2 hf (X0r hf rfl (ResV.cellN (l:=[vi (((dOf (rIf1 (rAdd ((dRaise x (max x.exp y.exp)).1) ((dRaise y (max x.exp y.exp)).1)) [((dRaise x (max x.exp y.exp)).1),((dRaise y (max x.exp y.exp)).1)]) (max x.exp y.exp)).getD dZ).num.a),vi (((dOf (rIf1 (rAdd ((dRaise x (max x.exp y.exp)).1) ((dRaise y (max x.exp y.exp)).1)) [((dRaise x (max x.exp y.exp)).1),((dRaise y (max x.exp y.exp)).1)]) (max x.exp y.exp)).getD dZ).num.b),vi (((dOf (rIf1 (rAdd ((dRaise x (max x.exp y.exp)).1) ((dRaise y (max x.exp y.exp)).1)) [((dRaise x (max x.exp y.exp)).1),((dRaise y (max x.exp y.exp)).1)]) (max x.exp y.exp)).getD dZ).num.c),vi (((dOf (rIf1 (rAdd ((dRaise x (max x.exp y.exp)).1) ((dRaise y (max x.exp y.exp)).1)) [((dRaise x (max x.exp y.exp)).1),((dRaise y (max x.exp y.exp)).1)]) (max x.exp y.exp)).getD dZ).num.d),vi (((dOf (rIf1 (rAdd ((dRaise x (max x.exp y.exp)).1) ((dRaise y (max x.exp y.exp)).1)) [((dRaise x (max x.exp y.exp)).1),((dRaise y (max x.exp y.exp)).1)]) (max x.exp y.exp)).getD dZ).exp)]) rfl Xg (hB4.at 0) rfl) rfl) ?_)
 exact ⟨by rw [dAddI,if_pos hy,hy2];rfl,hW⟩
theorem Xo6(w0:World)(x:Dy)(y:Dy) : Ret Tryz.prog 79 [.agg #[vi x.num.a,vi x.num.b,vi x.num.c,vi x.num.d,vi x.exp],.agg #[vi y.num.a,vi y.num.b,vi y.num.c,vi y.num.d,vi y.exp]] w0 (fun v w=>v=.tuple #[dV ((dAddI x y).getD dZ),.bool ((dAddI x y).isSome)]∧Below w0.heap.size w0 w):=by
 refine enter Tryz.func79 rfl 11 rfl rfl ?_
 intro a hf
 have hW:Below w0.heap.size w0 w0:=Below.refl _ _
 refine Zs hf fun _ hK1=>?_
 refine Zf (X0p (zs:=[vi x.num.a,vi x.num.b,vi x.num.c,vi x.num.d,vi x.exp]) rfl rfl) ?_;rintro _ w1 ⟨b2,rfl,hl2,hE,hB2⟩
 have hlo2:=Nat.le_trans hW.size hl2
 replace hW:=btr hW hE
 refine Zf (X0p (zs:=[vi y.num.a,vi y.num.b,vi y.num.c,vi y.num.d,vi y.exp]) rfl rfl) ?_;rintro _ w2 ⟨b3,rfl,hl3,hE,hB3⟩
 have hne2_3:b2≠b3:=by have:=hB2.lt;omega
 have hlo3:=Nat.le_trans hW.size hl3
 replace hB2:=hB2.below hE
 replace hW:=btr hW hE
 refine Zf (Xa (zs:=[vi 0,vi 0,vi 0,vi 0,vi 0]) X1n rfl) ?_;rintro _ w3 ⟨b4,rfl,hl4,hE,hB4⟩
 have hne2_4:b2≠b4:=by have:=hB2.lt;omega
 have hne3_4:b3≠b4:=by have:=hB3.lt;omega
 have hlo4:=Nat.le_trans hW.size hl4
 replace hB2:=hB2.below hE
 replace hB3:=hB3.below hE
 replace hW:=btr hW hE
 refine Za rfl ?_
 refine Zt hK1 fun a hf=>?_
 refine Zs hf fun _ hK5=>?_
 refine Ze (Vn Xg hB2)<|Ze (Vn Xg hB3) ?_
 refine Zf (Vc (Xpj _ x y) Xko) ?_;rintro _ w4 ⟨rfl,hE⟩
 replace hB2:=hB2.below hE
 replace hB3:=hB3.below hE
 replace hB4:=hB4.below hE
 replace hW:=btr hW hE
 refine Ze (X3 (vs:=[.agg #[vi (((dAddI x y).getD dZ).num.a),vi (((dAddI x y).getD dZ).num.b),vi (((dAddI x y).getD dZ).num.c),vi (((dAddI x y).getD dZ).num.d),vi (((dAddI x y).getD dZ).exp)],.bool ((dAddI x y).isSome)]) rfl rfl)<|Ze (X3 (vs:=[.agg #[vi (((dAddI x y).getD dZ).num.a),vi (((dAddI x y).getD dZ).num.b),vi (((dAddI x y).getD dZ).num.c),vi (((dAddI x y).getD dZ).num.d),vi (((dAddI x y).getD dZ).exp)],.bool ((dAddI x y).isSome)]) rfl rfl) ?_
 refine Zo (Vw [vi (((dAddI x y).getD dZ).num.a),vi (((dAddI x y).getD dZ).num.b),vi (((dAddI x y).getD dZ).num.c),vi (((dAddI x y).getD dZ).num.d),vi (((dAddI x y).getD dZ).exp)] Xr hB4) ?_;rintro _ w5 ⟨ho,hb⟩
 have hold:=hB4
 replace hB2:=hB2.only ho (by omega)
 replace hB3:=hB3.only ho (by omega)
 replace hW:=Below.only hW ho hlo4
 clear hold
 have hB4:=hb
 clear hb ho
 refine Za rfl ?_
 refine Zt hK5 fun a hf=>?_
 refine wp_ret (X2 hf (X0r hf rfl (ResV.cellN (l:=[vi (((dAddI x y).getD dZ).num.a),vi (((dAddI x y).getD dZ).num.b),vi (((dAddI x y).getD dZ).num.c),vi (((dAddI x y).getD dZ).num.d),vi (((dAddI x y).getD dZ).exp)]) rfl Xg (hB4.at 0) rfl) rfl) ?_)
 exact ⟨rfl,hW⟩
theorem Xlt(w0:World)(x:Dy)(y:Dy) : Ret Tryz.prog 77 [.agg #[vi x.num.a,vi x.num.b,vi x.num.c,vi x.num.d,vi x.exp],.agg #[vi y.num.a,vi y.num.b,vi y.num.c,vi y.num.d,vi y.exp]] w0 (fun v w=>v=.tuple #[dV ((dMulI x y).getD dZ),.bool ((dMulI x y).isSome)]∧Below w0.heap.size w0 w):=by
 refine enter Tryz.func77 rfl 38 rfl rfl ?_
 intro a hf
 have hW:Below w0.heap.size w0 w0:=Below.refl _ _
 refine Zs hf fun _ hK1=>?_
 refine Zf (X0p (zs:=[vi x.num.a,vi x.num.b,vi x.num.c,vi x.num.d,vi x.exp]) rfl rfl) ?_;rintro _ w1 ⟨b2,rfl,hl2,hE,hB2⟩
 have hlo2:=Nat.le_trans hW.size hl2
 replace hW:=btr hW hE
 refine Zf (X0p (zs:=[vi y.num.a,vi y.num.b,vi y.num.c,vi y.num.d,vi y.exp]) rfl rfl) ?_;rintro _ w2 ⟨b3,rfl,hl3,hE,hB3⟩
 have hne2_3:b2≠b3:=by have:=hB2.lt;omega
 have hlo3:=Nat.le_trans hW.size hl3
 replace hB2:=hB2.below hE
 replace hW:=btr hW hE
 refine Zf (Xa (zs:=[vi 0,vi 0,vi 0,vi 0,vi 0]) X1n rfl) ?_;rintro _ w3 ⟨b4,rfl,hl4,hE,hB4⟩
 have hne2_4:b2≠b4:=by have:=hB2.lt;omega
 have hne3_4:b3≠b4:=by have:=hB3.lt;omega
 have hlo4:=Nat.le_trans hW.size hl4
 replace hB2:=hB2.below hE
 replace hB3:=hB3.below hE
 replace hW:=btr hW hE
 refine Za rfl ?_
 refine Zt hK1 fun a hf=>?_
 refine Zs hf fun _ hK5=>?_
 refine Ze (Vd rfl X1r 0)<|Ze (Xj (l:=[vi x.num.a,vi x.num.b,vi x.num.c,vi x.num.d]) rfl X05 ((hB2.at 0).take 4) rfl)<|Ze (Vd rfl X1r 0)<|Ze (Xj (l:=[vi y.num.a,vi y.num.b,vi y.num.c,vi y.num.d]) rfl X05 ((hB3.at 0).take 4) rfl) ?_
 refine Zf (Vc (Xpi _ x.num y.num) Xl6) ?_;rintro _ w4 ⟨rfl,hE⟩
 replace hB2:=hB2.below hE
 replace hB3:=hB3.below hE
 replace hB4:=hB4.below hE
 replace hW:=btr hW hE
 refine Zm rfl<|Ze (X3 (vs:=[.agg #[vi ((rIf1 (rMul x.num y.num) [x.num,y.num]).a),vi ((rIf1 (rMul x.num y.num) [x.num,y.num]).b),vi ((rIf1 (rMul x.num y.num) [x.num,y.num]).c),vi ((rIf1 (rMul x.num y.num) [x.num,y.num]).d)],.bool (rIf2 (rMul x.num y.num) [x.num,y.num])]) rfl rfl)<|Ze (X3 (vs:=[.agg #[vi ((rIf1 (rMul x.num y.num) [x.num,y.num]).a),vi ((rIf1 (rMul x.num y.num) [x.num,y.num]).b),vi ((rIf1 (rMul x.num y.num) [x.num,y.num]).c),vi ((rIf1 (rMul x.num y.num) [x.num,y.num]).d)],.bool (rIf2 (rMul x.num y.num) [x.num,y.num])]) rfl rfl) ?_
 refine Zf (Xa (zs:=[vi 0,vi 0,vi 0,vi 0]) X2a rfl) ?_;rintro _ w5 ⟨b6,rfl,hl6,hE,hB6⟩
 have hlo6:=Nat.le_trans hW.size hl6
 replace hB2:=hB2.below hE
 replace hB3:=hB3.below hE
 replace hB4:=hB4.below hE
 replace hW:=btr hW hE
 refine Zo (Vw [vi ((rIf1 (rMul x.num y.num) [x.num,y.num]).a),vi ((rIf1 (rMul x.num y.num) [x.num,y.num]).b),vi ((rIf1 (rMul x.num y.num) [x.num,y.num]).c),vi ((rIf1 (rMul x.num y.num) [x.num,y.num]).d)] X1a hB6) ?_;rintro _ w6 ⟨ho,hb⟩
 have hold:=hB6
 replace hB2:=hB2.only ho (Blk.ne hB2 hold rfl)
 replace hB3:=hB3.only ho (Blk.ne hB3 hold rfl)
 replace hB4:=hB4.only ho (Blk.ne hB4 hold rfl)
 replace hW:=Below.only hW ho hlo6
 clear hold
 have hB6:=hb
 clear hb ho
 refine Za rfl ?_
 refine Zt hK5 fun a hf=>?_
 refine wp_seq_k fun _ hK7=>?_
 refine wp_seq_k fun _ hK8=>?_
 refine X09 (fun a w=>Fr a 38 [(2,.pointer (some ⟨b2,0,none⟩)),(3,.pointer (some ⟨b3,0,none⟩)),(4,.pointer (some ⟨b4,0,none⟩)),(6,.pointer (some ⟨b6,0,none⟩)),(27,.bool (((!(dOk x))||(!(dOk y)))||(!(rIf2 (rMul x.num y.num) [x.num,y.num]))))]∧Below w6.heap.size w6 w) ?_ ?_
 ·have hEc:Below w6.heap.size w6 w6:=Below.refl _ _
  refine Zr hf ?_
  refine Ze (Vn Xg hB2) ?_
  refine Zf (Vc (Xe9 _ x) X6h) ?_;rintro _ w7 ⟨rfl,hE⟩
  replace hB2:=hB2.below hE
  replace hB3:=hB3.below hE
  replace hB4:=hB4.below hE
  replace hB6:=hB6.below hE
  replace hW:=btr hW hE
  replace hEc:=btr hEc hE
  refine Ze (X15 rfl)<|Zm rfl ?_
  refine Zg 19 rfl (fun hg9=>?_) (fun hg9=>?_)
  ·refine Zp ⟨_,_,rfl,rfl,hg9⟩ ?_
   refine Zp ⟨_,_,rfl,rfl,hg9⟩ ?_
   refine Zp ⟨_,_,rfl,rfl,hg9⟩ ?_
   refine Ze (Xc rfl hg9 rfl)<|Zm rfl<|Zp ⟨_,_,rfl,rfl,rfl⟩ ?_
   refine Zp ⟨_,_,rfl,rfl,rfl⟩ ?_
   refine Ze (Xc rfl rfl rfl) ?_
   refine Zn fun a hf=>?_
   have hEE:Below w6.heap.size w6 w7:=hEc
   exact ⟨hf.sub ⟨rfl,rfl,rfl,rfl,X1 rfl (by first|rfl|(simp only [hg9,bs];done)|simp [hg9]),trivial⟩,hEE⟩
  refine Zv ⟨_,_,rfl,rfl,hg9⟩ (Vn Xg hB3) ?_
  refine Zk ⟨_,_,rfl,rfl,hg9⟩ (Vc (Xe9 _ y) X6h) ?_;rintro _ w8 ⟨rfl,hE⟩
  replace hB2:=hB2.below hE
  replace hB3:=hB3.below hE
  replace hB4:=hB4.below hE
  replace hB6:=hB6.below hE
  replace hW:=btr hW hE
  replace hEc:=btr hEc hE
  refine Zv ⟨_,_,rfl,rfl,hg9⟩ (X15 rfl) ?_
  refine Ze (X7 rfl hg9 rfl)<|Zm rfl ?_
  refine Zg 24 rfl (fun hg10=>?_) (fun hg10=>?_)
  ·refine Zp ⟨_,_,rfl,rfl,hg10⟩ ?_
   refine Zp ⟨_,_,rfl,rfl,hg10⟩ ?_
   refine Ze (Xc rfl hg10 rfl) ?_
   refine Zn fun a hf=>?_
   have hEE:Below w6.heap.size w6 w8:=hEc
   exact ⟨hf.sub ⟨rfl,rfl,rfl,rfl,X1 rfl (by first|rfl|(simp only [hg9,hg10,bs];done)|simp [hg9,hg10]),trivial⟩,hEE⟩
  refine Zv ⟨_,_,rfl,rfl,hg10⟩ (X9 rfl) ?_
  refine Zv ⟨_,_,rfl,rfl,hg10⟩ (X15 rfl) ?_
  refine Ze (X7 rfl hg10 rfl) ?_
  refine Zn fun a hf=>?_
  have hEE:Below w6.heap.size w6 w8:=hEc
  exact ⟨hf.sub ⟨rfl,rfl,rfl,rfl,X1 rfl (by first|rfl|(simp only [hg9,hg10,bs];done)|simp [hg9,hg10]),trivial⟩,hEE⟩
 rintro a w9 ⟨hf,hE⟩
 replace hB2:=hB2.below hE
 replace hB3:=hB3.below hE
 replace hB4:=hB4.below hE
 replace hB6:=hB6.below hE
 replace hW:=btr hW hE
 refine hK8 _ _ ?_
 refine Xi hf rfl (fun hc11=>?_) (fun hc11=>?_)
 ·have hc11b:=hc11
  have hn:=X94 hc11
  refine Zs hf fun _ hK12=>?_
  refine Ze (Xh (ps:=[]) (cs:=[vi 0,vi 0,vi 0,vi 0,vi 0]) rfl (fun _=>by first|rfl|kernel_rfl)) ?_
  refine Zo (Vw [vi 0,vi 0,vi 0,vi 0,vi 0] Xr hB4) ?_;rintro _ w10 ⟨ho,hb⟩
  have hold:=hB4
  replace hB2:=hB2.only ho (by omega)
  replace hB3:=hB3.only ho (by omega)
  replace hB6:=hB6.only ho (Blk.ne hB6 hold rfl)
  replace hW:=Below.only hW ho hlo4
  clear hold
  have hB4:=hb
  clear hb ho
  refine Za rfl ?_
  refine Zt hK12 fun a hf=>?_
  refine wp_ret ?_
  refine X8 ?_
  refine X2 hf (X0r hf rfl (ResV.cellN (l:=[vi 0,vi 0,vi 0,vi 0,vi 0]) rfl Xg (hB4.at 0) rfl) rfl) ?_
  exact ⟨by rw [dMulI,hn];rfl,hW⟩
 have hc11b:=hc11
 have hy:=Xai hc11
 have hy3:=Xnk hy
 have hx:=X2t hy3.1
 have hz:=X2t hy3.2.1
 refine wp_skip ?_
 refine hK7 _ _ ?_
 refine Zs hf fun _ hK13=>?_
 refine Ze (Vn X05 hB6)<|Ze (Vd rfl X1g 4)<|Ze (X0 rfl X5 (hB2.at 4))<|Ze (Vd rfl X1g 4)<|Ze (X0 rfl X5 (hB3.at 4)) ?_
 refine Ze (Xv rfl rfl (by omega) (by omega)) ?_
 refine Zf (Vc (Xng _ (rIf1 (rMul x.num y.num) [x.num,y.num]) (x.exp+y.exp)) Xh3) ?_;rintro _ w11 ⟨rfl,hE⟩
 replace hB2:=hB2.below hE
 replace hB3:=hB3.below hE
 replace hB4:=hB4.below hE
 replace hB6:=hB6.below hE
 replace hW:=btr hW hE
 refine Ze (X3 (vs:=[.agg #[vi (((dOf (rIf1 (rMul x.num y.num) [x.num,y.num]) (x.exp+y.exp)).getD dZ).num.a),vi (((dOf (rIf1 (rMul x.num y.num) [x.num,y.num]) (x.exp+y.exp)).getD dZ).num.b),vi (((dOf (rIf1 (rMul x.num y.num) [x.num,y.num]) (x.exp+y.exp)).getD dZ).num.c),vi (((dOf (rIf1 (rMul x.num y.num) [x.num,y.num]) (x.exp+y.exp)).getD dZ).num.d),vi (((dOf (rIf1 (rMul x.num y.num) [x.num,y.num]) (x.exp+y.exp)).getD dZ).exp)],.bool ((dOf (rIf1 (rMul x.num y.num) [x.num,y.num]) (x.exp+y.exp)).isSome)]) rfl rfl)<|Ze (X3 (vs:=[.agg #[vi (((dOf (rIf1 (rMul x.num y.num) [x.num,y.num]) (x.exp+y.exp)).getD dZ).num.a),vi (((dOf (rIf1 (rMul x.num y.num) [x.num,y.num]) (x.exp+y.exp)).getD dZ).num.b),vi (((dOf (rIf1 (rMul x.num y.num) [x.num,y.num]) (x.exp+y.exp)).getD dZ).num.c),vi (((dOf (rIf1 (rMul x.num y.num) [x.num,y.num]) (x.exp+y.exp)).getD dZ).num.d),vi (((dOf (rIf1 (rMul x.num y.num) [x.num,y.num]) (x.exp+y.exp)).getD dZ).exp)],.bool ((dOf (rIf1 (rMul x.num y.num) [x.num,y.num]) (x.exp+y.exp)).isSome)]) rfl rfl) ?_
 refine Zo (Vw [vi (((dOf (rIf1 (rMul x.num y.num) [x.num,y.num]) (x.exp+y.exp)).getD dZ).num.a),vi (((dOf (rIf1 (rMul x.num y.num) [x.num,y.num]) (x.exp+y.exp)).getD dZ).num.b),vi (((dOf (rIf1 (rMul x.num y.num) [x.num,y.num]) (x.exp+y.exp)).getD dZ).num.c),vi (((dOf (rIf1 (rMul x.num y.num) [x.num,y.num]) (x.exp+y.exp)).getD dZ).num.d),vi (((dOf (rIf1 (rMul x.num y.num) [x.num,y.num]) (x.exp+y.exp)).getD dZ).exp)] Xr hB4) ?_;rintro _ w12 ⟨ho,hb⟩
 have hold:=hB4
 replace hB2:=hB2.only ho (by omega)
 replace hB3:=hB3.only ho (by omega)
 replace hB6:=hB6.only ho (Blk.ne hB6 hold rfl)
 replace hW:=Below.only hW ho hlo4
 clear hold
 have hB4:=hb
 clear hb ho
 refine Za rfl ?_
 refine Zt hK13 fun a hf=>?_
 refine wp_ret (X2 hf (X0r hf rfl (ResV.cellN (l:=[vi (((dOf (rIf1 (rMul x.num y.num) [x.num,y.num]) (x.exp+y.exp)).getD dZ).num.a),vi (((dOf (rIf1 (rMul x.num y.num) [x.num,y.num]) (x.exp+y.exp)).getD dZ).num.b),vi (((dOf (rIf1 (rMul x.num y.num) [x.num,y.num]) (x.exp+y.exp)).getD dZ).num.c),vi (((dOf (rIf1 (rMul x.num y.num) [x.num,y.num]) (x.exp+y.exp)).getD dZ).num.d),vi (((dOf (rIf1 (rMul x.num y.num) [x.num,y.num]) (x.exp+y.exp)).getD dZ).exp)]) rfl Xg (hB4.at 0) rfl) rfl) ?_)
 exact ⟨by rw [dMulI,if_pos hy],hW⟩
end Go.Proofs.YtlfjcmldfbfdbaaGreat
set_option maxRecDepth 4000
namespace Go.Proofs.YtlfjcmldfbfdbaaGreat
open Go.RowKit
theorem Xha(w0:World)(n:Int) : Ret Tryz.prog 132 [vi n] w0 (fun v w=>v=.bool (isDimB n)∧w0=w):=by
 refine enter Tryz.func132 rfl 12 rfl rfl ?_
 intro a hf
 have hW:Below w0.heap.size w0 w0:=Below.refl _ _
 refine Zs hf fun _ hK1=>?_
 refine Za rfl ?_
 refine Zt hK1 fun a hf=>?_
 refine wp_seq_k fun _ hK2=>?_
 refine X09 (fun a w=>Fr a 12 [(2,.bool ((inR n 1 32)&&((bits .and .i64 n (wr (n-1)))==0)))]∧w0=w) ?_ ?_
 ·refine Zr hf ?_
  refine Zm rfl ?_
  refine Zf (Vc (F91 _ n 1 32) X39) ?_;rintro _ _ ⟨rfl,rfl⟩
  refine Zm rfl ?_
  refine Zg 5 rfl (fun hg3=>?_) (fun hg3=>?_)
  ·refine Zv ⟨_,_,rfl,rfl,hg3⟩ (X9 rfl) ?_
   refine Zv ⟨_,_,rfl,rfl,hg3⟩ (X9 rfl) ?_
   refine Zv ⟨_,_,rfl,rfl,hg3⟩ (X3j rfl rfl) ?_
   refine Zv ⟨_,_,rfl,rfl,hg3⟩ (Xlb rfl rfl) ?_
   refine Zv ⟨_,_,rfl,rfl,hg3⟩ (X0u rfl rfl) ?_
   refine Ze (Xc rfl hg3 rfl)<|Za rfl ?_
   refine Zn fun a hf=>?_
   exact ⟨hf.sub ⟨X1 rfl (by first|rfl|(simp only [hg3,bs];done)|simp [hg3]),trivial⟩,rfl⟩
  refine Zp ⟨_,_,rfl,rfl,hg3⟩ ?_
  refine Zp ⟨_,_,rfl,rfl,hg3⟩ ?_
  refine Zp ⟨_,_,rfl,rfl,hg3⟩ ?_
  refine Zp ⟨_,_,rfl,rfl,hg3⟩ ?_
  refine Zp ⟨_,_,rfl,rfl,hg3⟩ ?_
  refine Ze (X7 rfl hg3 rfl)<|Za rfl ?_
  refine Zn fun a hf=>?_
  exact ⟨hf.sub ⟨X1 rfl (by first|rfl|(simp only [hg3,bs];done)|simp [hg3]),trivial⟩,rfl⟩
 rintro a _ ⟨hf,rfl⟩
 refine hK2 _ _ ?_
 refine wp_ret (X2 hf (Xo hf rfl rfl) ?_)
 exact ⟨by simp [isDimB, *],rfl⟩
theorem Xoe(w0:World)(x:Dy) : Ret Tryz.prog 136 [.agg #[vi x.num.a,vi x.num.b,vi x.num.c,vi x.num.d,vi x.exp]] w0 (fun v w=>v=.bool (!dOk x)∧Below w0.heap.size w0 w):=by
 refine enter Tryz.func136 rfl 6 rfl rfl ?_
 intro a hf
 have hW:Below w0.heap.size w0 w0:=Below.refl _ _
 refine Zs hf fun _ hK1=>?_
 refine Zf (X0p (zs:=[vi x.num.a,vi x.num.b,vi x.num.c,vi x.num.d,vi x.exp]) rfl rfl) ?_;rintro _ w1 ⟨b2,rfl,hl2,hE,hB2⟩
 have hlo2:=Nat.le_trans hW.size hl2
 replace hW:=btr hW hE
 refine Za rfl ?_
 refine Zt hK1 fun a hf=>?_
 refine Zs hf fun _ hK3=>?_
 refine Ze (Vn Xg hB2) ?_
 refine Zf (Vc (Xe9 _ x) X6h) ?_;rintro _ w2 ⟨rfl,hE⟩
 replace hB2:=hB2.below hE
 replace hW:=btr hW hE
 refine Ze (X15 rfl)<|Za rfl ?_
 refine Zt hK3 fun a hf=>?_
 refine wp_ret (X2 hf (Xo hf rfl rfl) ?_)
 exact ⟨rfl,hW⟩
theorem Xos(w0:World)(Al:Option Addr)(cl:Nat)(l:List Dy)(hr_l:Rd w0 w0.heap.size 98 encD Al l)(kq:FuncId)(pq:List Value)(Fq:FuncF Tryz.prog kq)(q:Dy→Bool)(hq:∀ x w,Below w0.heap.size w0 w→Ret Tryz.prog kq ([dV x]++pq) w (fun v w'=>v=.bool (q x)∧Below w.heap.size w w'))(hln:l.length≤2305843009213693951) : Ret Tryz.prog 180 [.slice Al l.length cl,.func (.func kq) #[] pq.toArray] w0 (fun v w=>∃ i:Int,v=vi i∧decide (0≤i)=l.any q∧Below w0.heap.size w0 w):=by
 refine enter Tryz.func180 rfl 19 rfl rfl ?_
 intro a hf
 have hW:Below w0.heap.size w0 w0:=Below.refl _ _
 refine Zs hf fun _ hK2=>?_
 refine Za rfl ?_
 refine Zt hK2 fun a hf=>?_
 refine wp_seq_k fun _ hK3=>?_
 refine Zs hf fun _ hK4=>?_
 refine Zm rfl<|Ze (X0v rfl X1j)<|Zm rfl ?_
 refine Zt hK4 fun a hf=>?_
 refine wp_block ?_
 refine X0j (σ:=Nat) (fun (k:Nat) (a:Act) (w:World)=>Fr a 19 [(0,.slice Al l.length cl),(1,.func (.func kq) #[] pq.toArray),(7,vi (l.length:Int)),(8,vi (k:Int))]∧(k≤l.length)∧((l.take k).all (fun x=>!q x)=true)∧Below w0.heap.size w0 w) (fun (k:Nat)=>l.length+1-k) 0 ?_ ?_
 ·exact ⟨hf.sub ⟨rfl,rfl,rfl,rfl,trivial⟩,(Nat.zero_le _),(by simp),hW⟩
 rintro k a w1 ⟨hf,hk,hpre,hW⟩
 refine Zs hf fun _ hK5=>?_
 refine Ze (X1k rfl rfl) ?_
 refine Zt hK5 fun a hf=>?_
 refine wp_seq_k fun _ hK6=>?_
 refine Xi hf rfl (fun hc7=>?_) (fun hc7=>?_)
 ·have hc7b:=hc7
  have hc7:=of_decide_eq_true hc7
  obtain ⟨u8,hu8⟩:=Xx (l:=l) (k:=k) (by omega)
  refine wp_skip ?_
  refine hK6 _ _ ?_
  refine wp_seq_k fun _ hK9=>?_
  refine wp_block ?_
  refine Zs hf fun _ hK10=>?_
  refine Zm rfl<|Za rfl ?_
  refine Zt hK10 fun a hf=>?_
  refine Zs hf fun _ hK11=>?_
  refine Zm rfl<|Zm rfl<|Zm rfl ?_
  refine Zi (k:=k) (u:=u8) (enc:=encD) (l:=l) trivial rfl rfl X1j Xr X1e (hr_l.below' hW) hu8 rfl ?_;intro p13 hat12
  refine Ze (Xj (l:=[vi u8.num.a,vi u8.num.b,vi u8.num.c,vi u8.num.d,vi u8.exp]) rfl Xg hat12 rfl) ?_
  refine Zf (X9o (cs:=pq) (vs:=[.agg #[vi u8.num.a,vi u8.num.b,vi u8.num.c,vi u8.num.d,vi u8.exp]]) rfl rfl Fq (hq u8 _ hW)) ?_;rintro _ w2 ⟨rfl,hE⟩
  replace hW:=btr hW hE
  refine Zt hK11 fun a hf=>?_
  refine Xi hf rfl (fun hc14=>?_) (fun hc14=>?_)
  ·have hc14b:=hc14
   have hb2:l.any q=true:=X4c hu8 hc14
   refine Zs hf fun _ hK15=>?_
   refine Zm rfl<|Za rfl ?_
   refine Zt hK15 fun a hf=>?_
   refine wp_ret ?_
   refine Xy ?_
   refine X8 ?_
   refine X8 ?_
   refine Xy ?_
   refine X8 ?_
   refine X2 hf (Xo hf rfl rfl) ?_
   exact ⟨_,rfl,by rw [hb2];simp,hW⟩
  have hc14b:=hc14
  have hok:(!q u8)=true:=by revert hc14;cases q u8<;>simp
  refine wp_skip ?_
  refine Xf ?_
  refine hK9 _ _ ?_
  refine Zr hf ?_
  refine Ze (Xv rfl rfl (by omega) (by omega))<|Zm rfl ?_
  refine Zn fun a hf=>?_
  refine Xn ?_
  exact ⟨k+1,⟨hf.sub ⟨rfl,rfl,rfl,rfl,trivial⟩,(by omega),(X2u hpre hu8 hok),hW⟩,(by omega)⟩
 have hc7b:=hc7
 have hc7:=of_decide_eq_false hc7
 refine wp_exit ?_
 refine Xs ?_
 refine Xs ?_
 refine X0h ?_
 refine hK3 _ _ ?_
 refine Zs hf fun _ hK16=>?_
 refine Za rfl ?_
 refine Zt hK16 fun a hf=>?_
 refine wp_ret (X2 hf (Xo hf rfl rfl) ?_)
 have hb2:l.any q=false:=X3p (X2m hpre (by omega))
 exact ⟨_,rfl,by rw [hb2];rfl,hW⟩
theorem Xok(w0:World)(Al:Option Addr)(cl:Nat)(l:List Dy)(hr_l:Rd w0 w0.heap.size 98 encD Al l)(kq:FuncId)(pq:List Value)(Fq:FuncF Tryz.prog kq)(q:Dy→Bool)(hq:∀ x w,Below w0.heap.size w0 w→Ret Tryz.prog kq ([dV x]++pq) w (fun v w'=>v=.bool (q x)∧Below w.heap.size w w'))(hln:l.length≤2305843009213693951) : Ret Tryz.prog 135 [.slice Al l.length cl,.func (.func kq) #[] pq.toArray] w0 (fun v w=>v=.bool (l.any q)∧Below w0.heap.size w0 w):=by
 refine enter Tryz.func135 rfl 9 rfl rfl ?_
 intro a hf
 have hW:Below w0.heap.size w0 w0:=Below.refl _ _
 refine Zs hf fun _ hK2=>?_
 refine Za rfl ?_
 refine Zt hK2 fun a hf=>?_
 refine Zs hf fun _ hK3=>?_
 refine Zm rfl<|Zm rfl ?_
 refine Zf (Vc (Xos _ Al cl l (hr_l.below' hW).top kq pq Fq q (fun x w' hE'=>hq x w' (hW.trans (hE'.mono hW.size))) hln) Xl5) ?_;rintro _ w1 ⟨ix,rfl,hix,hE⟩
 replace hW:=btr hW hE
 refine Ze (Xks rfl rfl)<|Za rfl ?_
 refine Zt hK3 fun a hf=>?_
 refine wp_ret (X2 hf (Xo hf rfl rfl) ?_)
 exact ⟨by rw [← hix],hW⟩
theorem Xgi(w0:World)(m:Mx)(Am:Option Addr)(cm:Nat)(hr_m:Rd w0 w0.heap.size 98 encD Am m.cells)(hln:m.cells.length≤2305843009213693951) : Ret Tryz.prog 75 [.agg #[vi m.rows,vi m.cols,.slice Am m.cells.length cm]] w0 (fun v w=>v=.bool (mOk m)∧Below w0.heap.size w0 w):=by
 refine enter Tryz.func75 rfl 28 rfl rfl ?_
 intro a hf
 have hW:Below w0.heap.size w0 w0:=Below.refl _ _
 refine Zs hf fun _ hK2=>?_
 refine Zf (X0p (zs:=[vi m.rows,vi m.cols,.slice Am m.cells.length cm]) rfl rfl) ?_;rintro _ w1 ⟨b3,rfl,hl3,hE,hB3⟩
 have hlo3:=Nat.le_trans hW.size hl3
 replace hW:=btr hW hE
 refine Za rfl ?_
 refine Zt hK2 fun a hf=>?_
 refine wp_seq_k fun _ hK4=>?_
 refine X09 (fun a w=>Fr a 28 [(2,.bool ((((isDimB m.rows)&&(isDimB m.cols))&&((m.cells.length:Int)==(wr (m.rows*m.cols))))&&(!(m.cells.any (fun x=>!dOk x)))))]∧Below w1.heap.size w1 w) ?_ ?_
 ·have hEc:Below w1.heap.size w1 w1:=Below.refl _ _
  refine Zr hf ?_
  refine Ze (Vd rfl X26 0)<|Ze (X0 rfl X5 (hB3.at 0)) ?_
  refine Zf (Vc (Xha _ m.rows) X9z) ?_;rintro _ _ ⟨rfl,rfl⟩
  refine Zm rfl ?_
  refine Zg 6 rfl (fun hg5=>?_) (fun hg5=>?_)
  ·refine Zv ⟨_,_,rfl,rfl,hg5⟩ (Vd rfl X1q 1) ?_
   refine Zv ⟨_,_,rfl,rfl,hg5⟩ (X0 rfl X5 (hB3.at 1)) ?_
   refine Zk ⟨_,_,rfl,rfl,hg5⟩ (Vc (Xha _ m.cols) X9z) ?_;rintro _ _ ⟨rfl,rfl⟩
   refine Ze (Xc rfl hg5 rfl)<|Zm rfl ?_
   refine Zg 11 rfl (fun hg6=>?_) (fun hg6=>?_)
   ·refine Zv ⟨_,_,rfl,rfl,hg6⟩ (Vd rfl X1o 2) ?_
    refine Zv ⟨_,_,rfl,rfl,hg6⟩ (X0 rfl X2p (hB3.at 2)) ?_
    refine Zv ⟨_,_,rfl,rfl,hg6⟩ (X0v rfl X1j) ?_
    refine Zv ⟨_,_,rfl,rfl,hg6⟩ (Vd rfl X26 0) ?_
    refine Zv ⟨_,_,rfl,rfl,hg6⟩ (X0 rfl X5 (hB3.at 0)) ?_
    refine Zv ⟨_,_,rfl,rfl,hg6⟩ (Vd rfl X1q 1) ?_
    refine Zv ⟨_,_,rfl,rfl,hg6⟩ (X0 rfl X5 (hB3.at 1)) ?_
    refine Zv ⟨_,_,rfl,rfl,hg6⟩ (X2b rfl rfl) ?_
    refine Zv ⟨_,_,rfl,rfl,hg6⟩ (X0u rfl rfl) ?_
    refine Ze (Xc rfl hg6 rfl)<|Zm rfl ?_
    refine Zg 22 rfl (fun hg7=>?_) (fun hg7=>?_)
    ·refine Zv ⟨_,_,rfl,rfl,hg7⟩ (Vd rfl X1o 2) ?_
     refine Zv ⟨_,_,rfl,rfl,hg7⟩ (X0 rfl X2p (hB3.at 2)) ?_
     refine Zk ⟨_,_,rfl,rfl,hg7⟩ (Vc (Xok _ Am cm m.cells (hr_m.below' hW).top 136 [] Xka (fun x=>!dOk x) (fun x w' hE'=>Xoe w' x) hln) Xl0) ?_;rintro _ w2 ⟨rfl,hE⟩
     replace hB3:=hB3.below hE
     replace hW:=btr hW hE
     replace hEc:=btr hEc hE
     refine Zv ⟨_,_,rfl,rfl,hg7⟩ (X15 rfl) ?_
     refine Ze (Xc rfl hg7 rfl)<|Za rfl ?_
     refine Zn fun a hf=>?_
     have hEE:Below w1.heap.size w1 w2:=hEc
     exact ⟨hf.sub ⟨X1 rfl (by first|rfl|(simp only [hg5,hg6,hg7,bs];done)|simp [hg5,hg6,hg7]),trivial⟩,hEE⟩
    refine Zp ⟨_,_,rfl,rfl,hg7⟩ ?_
    refine Zp ⟨_,_,rfl,rfl,hg7⟩ ?_
    refine Zp ⟨_,_,rfl,rfl,hg7⟩ ?_
    refine Zp ⟨_,_,rfl,rfl,hg7⟩ ?_
    refine Ze (X7 rfl hg7 rfl)<|Za rfl ?_
    refine Zn fun a hf=>?_
    have hEE:Below w1.heap.size w1 w1:=hEc
    exact ⟨hf.sub ⟨X1 rfl (by first|rfl|(simp only [hg5,hg6,hg7,bs];done)|simp [hg5,hg6,hg7]),trivial⟩,hEE⟩
   refine Zp ⟨_,_,rfl,rfl,hg6⟩ ?_
   refine Zp ⟨_,_,rfl,rfl,hg6⟩ ?_
   refine Zp ⟨_,_,rfl,rfl,hg6⟩ ?_
   refine Zp ⟨_,_,rfl,rfl,hg6⟩ ?_
   refine Zp ⟨_,_,rfl,rfl,hg6⟩ ?_
   refine Zp ⟨_,_,rfl,rfl,hg6⟩ ?_
   refine Zp ⟨_,_,rfl,rfl,hg6⟩ ?_
   refine Zp ⟨_,_,rfl,rfl,hg6⟩ ?_
   refine Zp ⟨_,_,rfl,rfl,hg6⟩ ?_
   refine Ze (X7 rfl hg6 rfl)<|Zm rfl<|Zp ⟨_,_,rfl,rfl,rfl⟩ ?_
   refine Zp ⟨_,_,rfl,rfl,rfl⟩ ?_
   refine Zp ⟨_,_,rfl,rfl,rfl⟩ ?_
   refine Zp ⟨_,_,rfl,rfl,rfl⟩ ?_
   refine Ze (X7 rfl rfl rfl)<|Za rfl ?_
   refine Zn fun a hf=>?_
   have hEE:Below w1.heap.size w1 w1:=hEc
   exact ⟨hf.sub ⟨X1 rfl (by first|rfl|(simp only [hg5,hg6,bs];done)|simp [hg5,hg6]),trivial⟩,hEE⟩
  refine Zp ⟨_,_,rfl,rfl,hg5⟩ ?_
  refine Zp ⟨_,_,rfl,rfl,hg5⟩ ?_
  refine Zp ⟨_,_,rfl,rfl,hg5⟩ ?_
  refine Ze (X7 rfl hg5 rfl)<|Zm rfl<|Zp ⟨_,_,rfl,rfl,rfl⟩ ?_
  refine Zp ⟨_,_,rfl,rfl,rfl⟩ ?_
  refine Zp ⟨_,_,rfl,rfl,rfl⟩ ?_
  refine Zp ⟨_,_,rfl,rfl,rfl⟩ ?_
  refine Zp ⟨_,_,rfl,rfl,rfl⟩ ?_
  refine Zp ⟨_,_,rfl,rfl,rfl⟩ ?_
  refine Zp ⟨_,_,rfl,rfl,rfl⟩ ?_
  refine Zp ⟨_,_,rfl,rfl,rfl⟩ ?_
  refine Zp ⟨_,_,rfl,rfl,rfl⟩ ?_
  refine Ze (X7 rfl rfl rfl)<|Zm rfl<|Zp ⟨_,_,rfl,rfl,rfl⟩ ?_
  refine Zp ⟨_,_,rfl,rfl,rfl⟩ ?_
  refine Zp ⟨_,_,rfl,rfl,rfl⟩ ?_
  refine Zp ⟨_,_,rfl,rfl,rfl⟩ ?_
  refine Ze (X7 rfl rfl rfl)<|Za rfl ?_
  refine Zn fun a hf=>?_
  have hEE:Below w1.heap.size w1 w1:=hEc
  exact ⟨hf.sub ⟨X1 rfl (by first|rfl|(simp only [hg5,bs];done)|simp [hg5]),trivial⟩,hEE⟩
 rintro a w3 ⟨hf,hE⟩
 replace hB3:=hB3.below hE
 replace hW:=btr hW hE
 refine hK4 _ _ ?_
 refine wp_ret (X2 hf (Xo hf rfl rfl) ?_)
 exact ⟨by simp [mOk, *],hW⟩
end Go.Proofs.YtlfjcmldfbfdbaaGreat
set_option maxRecDepth 4000
namespace Go.Proofs.YtlfjcmldfbfdbaaGreat
open Go.RowKit
theorem Xg8(w0:World)(m:Mx)(Am:Option Addr)(cm:Nat)(hm:Rd w0 w0.heap.size 98 encD Am m.cells)(i j:Nat)(hmo:mOk m=true)(hi:(i:Int)<m.rows)(hj:(j:Int)<m.cols) : Ret Tryz.prog 78 [.agg #[vi m.rows,vi m.cols,.slice Am m.cells.length cm],vi (i:Int),vi (j:Int)] w0 (fun v w=>v=dV (m.at i j)∧Below w0.heap.size w0 w):=by
 have hml:=X2y hmo
 have hlt:i*m.cols.toNat+j<m.cells.length:=by rw [hml.2.2];exact X3b (by omega) (by omega)
 have hub:m.cells.length≤1024:=by rw [hml.2.2];exact Nat.le_trans (Nat.mul_le_mul (show m.rows.toNat≤32 by omega) (show m.cols.toNat≤32 by omega)) (by decide)
 have hat0:=Mx.at_get hlt
 have hcc:m.cols=(m.cols.toNat:Int):=by omega
 suffices hgoal:Ret Tryz.prog 78 [.agg #[vi m.rows,vi (m.cols.toNat:Int),.slice Am m.cells.length cm],vi (i:Int),vi (j:Int)] w0 (fun v w=>v=dV (m.at i j)∧Below w0.heap.size w0 w) by rw [← hcc] at hgoal;exact hgoal
 refine enter Tryz.func78 rfl 17 rfl rfl ?_
 intro a hf
 have hW:Below w0.heap.size w0 w0:=Below.refl _ _
 refine Zs hf fun _ hK2=>?_
 refine Zf (X0p (zs:=[vi m.rows,vi (m.cols.toNat:Int),.slice Am m.cells.length cm]) rfl rfl) ?_;rintro _ w1 ⟨b3,rfl,hl3,hE,hB3⟩
 have hlo3:=Nat.le_trans hW.size hl3
 replace hW:=btr hW hE
 refine Zf (Xa (zs:=[vi 0,vi 0,vi 0,vi 0,vi 0]) X1n rfl) ?_;rintro _ w2 ⟨b4,rfl,hl4,hE,hB4⟩
 have hlo4:=Nat.le_trans hW.size hl4
 have haw1_4:=(hm.below' hW).away hl4
 replace hB3:=hB3.below hE
 replace hW:=btr hW hE
 refine Zt hK2 fun a hf=>?_
 refine Zs hf fun _ hK5=>?_
 refine Ze (Vd rfl X1o 2)<|Ze (X0 rfl X2p (hB3.at 2))<|Zm rfl<|Ze (Vd rfl X1q 1)<|Ze (X0 rfl X5 (hB3.at 1)) ?_
 refine Ze (Xal (m:=i) (k:=m.cols.toNat) rfl rfl (by omega))<|Zm rfl<|Ze (Xv rfl rfl (by omega) (by omega)) ?_
 refine Zi (k:=(i*m.cols.toNat+j)) (u:=(m.at i j)) (enc:=encD) (l:=m.cells) trivial rfl rfl X1j Xr X1e (hm.below' hW) hat0 (by omega) ?_;intro p7 hat6
 refine Ze (Xj (l:=[vi ((m.at i j).num.a),vi ((m.at i j).num.b),vi ((m.at i j).num.c),vi ((m.at i j).num.d),vi ((m.at i j).exp)]) rfl Xg hat6 rfl) ?_
 refine Zo (Vw [vi ((m.at i j).num.a),vi ((m.at i j).num.b),vi ((m.at i j).num.c),vi ((m.at i j).num.d),vi ((m.at i j).exp)] Xr hB4) ?_;rintro _ w3 ⟨ho,hb⟩
 have hold:=hB4
 replace hB3:=hB3.only ho (Blk.ne hB3 hold rfl)
 replace hW:=Below.only hW ho hlo4
 clear hold
 have hB4:=hb
 clear hb ho
 refine Zt hK5 fun a hf=>?_
 refine wp_ret (X2 hf (Xo hf rfl (ResV.cellN (l:=[vi ((m.at i j).num.a),vi ((m.at i j).num.b),vi ((m.at i j).num.c),vi ((m.at i j).num.d),vi ((m.at i j).exp)]) rfl Xg (hB4.at 0) rfl)) ?_)
 exact ⟨rfl,hW⟩
theorem Xi1(w0:World)(R C:Int)(k:FuncId)(caps:List Value)(hF:FuncF Tryz.prog k)(f:Nat→Nat→Option Dy)(hcell:∀ (i j:Nat) w,(i:Int)<R→(j:Int)<C→Below w0.heap.size w0 w→Ret Tryz.prog k ([vi (i:Int),vi (j:Int)]++caps) w (fun v w'=>v=.tuple #[dV ((f i j).getD dZ),.bool (f i j).isSome]∧Below w.heap.size w w')) : Ret Tryz.prog 67 [vi R,vi C,.func (.func k) #[] caps.toArray] w0 (fun v w=>∃ A c,v=.tuple #[mV A c ((matOf R C f).getD mZ),.bool (matOf R C f).isSome]∧Own w w0.heap.size 98 5 encD A c ((matOf R C f).getD mZ).cells∧Below w0.heap.size w0 w):=by
 refine enter Tryz.func67 rfl 52 rfl rfl ?_
 intro a hf
 have hW:Below w0.heap.size w0 w0:=Below.refl _ _
 refine Zs hf fun _ hK1=>?_
 refine Zf (Xa (zs:=[vi 0,vi 0,.slice none 0 0]) X1y rfl) ?_;rintro _ w1 ⟨b3,rfl,hl3,hE,hB3⟩
 have hlo3:=Nat.le_trans hW.size hl3
 replace hW:=btr hW hE
 refine Za rfl ?_
 refine Zt hK1 fun a hf=>?_
 refine Zs hf fun _ hK4=>?_
 refine Zm rfl<|Zm rfl<|Ze (Xh (ps:=[(0,vi R),(1,vi C)]) (cs:=[vi R,vi C,.slice none 0 0]) rfl (fun _=>by first|rfl|kernel_rfl)) ?_
 refine Zf (Xa (zs:=[vi 0,vi 0,.slice none 0 0]) X1y rfl) ?_;rintro _ w2 ⟨b7,rfl,hl7,hE,hB7⟩
 have hne3_7:b3≠b7:=by have:=hB3.lt;omega
 have hlo7:=Nat.le_trans hW.size hl7
 replace hB3:=hB3.below hE
 replace hW:=btr hW hE
 refine Zo (Vw [vi R,vi C,.slice none 0 0] X18 hB7) ?_;rintro _ w3 ⟨ho,hb⟩
 have hold:=hB7
 replace hB3:=hB3.only ho (by omega)
 replace hW:=Below.only hW ho hlo7
 clear hold
 have hB7:=hb
 clear hb ho
 refine Zt hK4 fun a hf=>?_
 refine wp_seq_k fun _ hK8=>?_
 refine wp_seq_k fun _ hK9=>?_
 refine X09 (fun a w=>Fr a 52 [(0,vi R),(1,vi C),(2,.func (.func k) #[] caps.toArray),(6,.pointer (some ⟨b3,0,none⟩)),(8,.pointer (some ⟨b7,0,none⟩)),(23,.bool ((!(isDimB R))||(!(isDimB C))))]∧w3=w) ?_ ?_
 ·refine Zr hf ?_
  refine Zm rfl ?_
  refine Zf (Vc (Xha _ R) X9z) ?_;rintro _ _ ⟨rfl,rfl⟩
  refine Ze (X15 rfl)<|Zm rfl ?_
  refine Zg 19 rfl (fun hg10=>?_) (fun hg10=>?_)
  ·refine Zp ⟨_,_,rfl,rfl,hg10⟩ ?_
   refine Zp ⟨_,_,rfl,rfl,hg10⟩ ?_
   refine Zp ⟨_,_,rfl,rfl,hg10⟩ ?_
   refine Ze (Xc rfl hg10 rfl) ?_
   refine Zn fun a hf=>?_
   exact ⟨hf.sub ⟨rfl,rfl,rfl,rfl,rfl,X1 rfl (by first|rfl|(simp only [hg10,bs];done)|simp [hg10]),trivial⟩,rfl⟩
  refine Zv ⟨_,_,rfl,rfl,hg10⟩ (X9 rfl) ?_
  refine Zk ⟨_,_,rfl,rfl,hg10⟩ (Vc (Xha _ C) X9z) ?_;rintro _ _ ⟨rfl,rfl⟩
  refine Zv ⟨_,_,rfl,rfl,hg10⟩ (X15 rfl) ?_
  refine Ze (X7 rfl hg10 rfl) ?_
  refine Zn fun a hf=>?_
  exact ⟨hf.sub ⟨rfl,rfl,rfl,rfl,rfl,X1 rfl (by first|rfl|(simp only [hg10,bs];done)|simp [hg10]),trivial⟩,rfl⟩
 rintro a _ ⟨hf,rfl⟩
 refine hK9 _ _ ?_
 refine Xi hf rfl (fun hc11=>?_) (fun hc11=>?_)
 ·have hc11b:=hc11
  have hn:=X57 hc11
  refine Zs hf fun _ hK12=>?_
  refine Ze (Xh (ps:=[]) (cs:=[vi 0,vi 0,.slice none 0 0]) rfl (fun _=>by first|rfl|kernel_rfl)) ?_
  refine Zo (Vw [vi 0,vi 0,.slice none 0 0] X18 hB3) ?_;rintro _ w4 ⟨ho,hb⟩
  have hold:=hB3
  replace hB7:=hB7.only ho (by omega)
  replace hW:=Below.only hW ho hlo3
  clear hold
  have hB3:=hb
  clear hb ho
  refine Za rfl ?_
  refine Zt hK12 fun a hf=>?_
  refine wp_ret ?_
  refine X8 ?_
  refine X2 hf (X0r hf rfl (ResV.cellN (l:=[vi 0,vi 0,.slice none 0 0]) rfl X0q (hB3.at 0) rfl) rfl) ?_
  have he:matOf R C f=none:=by rw [matOf,hn];rfl
  rw [he]
  exact ⟨none,0,rfl,(Own.nil _ _ _ _ _),hW⟩
 have hc11b:=hc11
 have hy:=X5x hc11
 have hy2:=(Bool.and_eq_true _ _▸hy:isDimB R=true∧isDimB C=true)
 have hR:=X2n hy2.1
 have hC:=X2n hy2.2
 refine wp_skip ?_
 refine hK8 _ _ ?_
 refine wp_seq_k fun _ hK14=>?_
 refine Zs hf fun _ hK15=>?_
 refine Zm rfl<|Zm rfl ?_
 refine Zt hK15 fun a hf=>?_
 refine wp_block ?_
 refine X0j (σ:=Nat×(List Dy)) (fun (s:Nat×(List Dy)) (a:Act) (w:World)=>match s with|(i,l)=>∃ A16 c16,Fr a 52 [(1,vi C),(2,.func (.func k) #[] caps.toArray),(6,.pointer (some ⟨b3,0,none⟩)),(8,.pointer (some ⟨b7,0,none⟩)),(25,vi R),(26,vi (i:Int))]∧((i:Int)≤R)∧(seqO (gridG f C.toNat) (i*C.toNat)=some l)∧Blk w b3 38 [vi 0,vi 0,.slice none 0 0]∧Blk w b7 38 [vi R,vi C,.slice A16 l.length c16]∧Own w w0.heap.size 98 5 encD A16 c16 l∧Below w0.heap.size w0 w) (fun (s:Nat×(List Dy))=>match s with|(i,l)=>(R-i).toNat) (0,[]) ?_ ?_
 ·exact ⟨none,0,hf.sub ⟨rfl,rfl,rfl,rfl,rfl,rfl,trivial⟩,(by omega),(by rw [Nat.zero_mul];rfl),hB3,hB7,(Own.nil _ _ _ _ _),hW⟩
 rintro ⟨i,l⟩ a w5 ⟨A16,c16,hf,hiR,hl,hB3,hB7,ho16,hW⟩
 refine Zs hf fun _ hK17=>?_
 refine Ze (X1k rfl rfl) ?_
 refine Zt hK17 fun a hf=>?_
 refine wp_seq_k fun _ hK18=>?_
 refine Xi hf rfl (fun hc19=>?_) (fun hc19=>?_)
 ·have hc19b:=hc19
  have hc19:=of_decide_eq_true hc19
  have hi1:(i:Int)<R:=hc19
  have hb1:i*C.toNat≤1024:=Nat.le_trans (Nat.mul_le_mul (show i≤32 by omega) (show C.toNat≤32 by omega)) (by decide)
  refine wp_skip ?_
  refine hK18 _ _ ?_
  refine wp_seq_k fun _ hK20=>?_
  refine wp_block ?_
  refine Zs hf fun _ hK21=>?_
  refine Zm rfl<|Za rfl ?_
  refine Zt hK21 fun a hf=>?_
  refine Zs hf fun _ hK22=>?_
  refine Zm rfl<|Zm rfl ?_
  refine Zt hK22 fun a hf=>?_
  refine wp_block ?_
  refine X0j (σ:=Nat×(List Dy)) (fun (s:Nat×(List Dy)) (a:Act) (w:World)=>match s with|(j,l2)=>∃ A23 c23,Fr a 52 [(1,vi C),(2,.func (.func k) #[] caps.toArray),(6,.pointer (some ⟨b3,0,none⟩)),(8,.pointer (some ⟨b7,0,none⟩)),(9,vi (i:Int)),(25,vi R),(26,vi (i:Int)),(29,vi C),(30,vi (j:Int))]∧((j:Int)≤C)∧(seqO (gridG f C.toNat) (i*C.toNat+j)=some l2)∧Blk w b3 38 [vi 0,vi 0,.slice none 0 0]∧Blk w b7 38 [vi R,vi C,.slice A23 l2.length c23]∧Own w w0.heap.size 98 5 encD A23 c23 l2∧Below w0.heap.size w0 w) (fun (s:Nat×(List Dy))=>match s with|(j,l2)=>(C-j).toNat) (0,l) ?_ ?_
  ·exact ⟨A16,c16,hf.sub ⟨rfl,rfl,rfl,rfl,rfl,rfl,rfl,rfl,rfl,trivial⟩,(by omega),hl,hB3,hB7,ho16,hW⟩
  rintro ⟨j,l2⟩ a w6 ⟨A23,c23,hf,hjC,hl2,hB3,hB7,ho23,hW⟩
  refine Zs hf fun _ hK24=>?_
  refine Ze (X1k rfl rfl) ?_
  refine Zt hK24 fun a hf=>?_
  refine wp_seq_k fun _ hK25=>?_
  refine Xi hf rfl (fun hc26=>?_) (fun hc26=>?_)
  ·have hc26b:=hc26
   have hc26:=of_decide_eq_true hc26
   have hj1:(j:Int)<C:=hc26
   have hlen:=X4g hl2
   refine wp_skip ?_
   refine hK25 _ _ ?_
   refine wp_seq_k fun _ hK27=>?_
   refine wp_block ?_
   refine Zs hf fun _ hK28=>?_
   refine Zm rfl<|Za rfl ?_
   refine Zt hK28 fun a hf=>?_
   refine Zs hf fun _ hK29=>?_
   refine Zm rfl<|Zm rfl<|Zm rfl ?_
   refine Zf (X9o (cs:=caps) (vs:=[vi (i:Int),vi (j:Int)]) rfl rfl hF (hcell i j _ hi1 hj1 hW)) ?_;rintro _ w7 ⟨rfl,hE⟩
   replace hB3:=hB3.below hE
   replace hB7:=hB7.below hE
   replace ho23:=ho23.below hE
   replace hW:=btr hW hE
   refine Zm rfl<|Ze (X3 (vs:=[.agg #[vi (((f i j).getD dZ).num.a),vi (((f i j).getD dZ).num.b),vi (((f i j).getD dZ).num.c),vi (((f i j).getD dZ).num.d),vi (((f i j).getD dZ).exp)],.bool ((f i j).isSome)]) rfl rfl)<|Ze (X3 (vs:=[.agg #[vi (((f i j).getD dZ).num.a),vi (((f i j).getD dZ).num.b),vi (((f i j).getD dZ).num.c),vi (((f i j).getD dZ).num.d),vi (((f i j).getD dZ).exp)],.bool ((f i j).isSome)]) rfl rfl) ?_
   refine Zf (Xa (zs:=[vi 0,vi 0,vi 0,vi 0,vi 0]) X1n rfl) ?_;rintro _ w8 ⟨b30,rfl,hl30,hE,hB30⟩
   have hlo30:=Nat.le_trans hW.size hl30
   have haw23_30:=ho23.away hl30
   replace hB3:=hB3.below hE
   replace hB7:=hB7.below hE
   replace ho23:=ho23.below hE
   replace hW:=btr hW hE
   refine Zo (Vw [vi (((f i j).getD dZ).num.a),vi (((f i j).getD dZ).num.b),vi (((f i j).getD dZ).num.c),vi (((f i j).getD dZ).num.d),vi (((f i j).getD dZ).exp)] Xr hB30) ?_;rintro _ w9 ⟨ho,hb⟩
   have hold:=hB30
   replace hB3:=hB3.only ho (Blk.ne hB3 hold rfl)
   replace hB7:=hB7.only ho (Blk.ne hB7 hold rfl)
   replace ho23:=ho23.onlyA ho haw23_30
   replace hW:=Below.only hW ho hlo30
   clear hold
   have hB30:=hb
   clear hb ho
   refine Za rfl ?_
   refine Zt hK29 fun a hf=>?_
   refine wp_seq_k fun _ hK31=>?_
   refine Zs hf fun _ hK32=>?_
   refine Zm rfl<|Ze (X15 rfl) ?_
   refine Zt hK32 fun a hf=>?_
   refine Xi hf rfl (fun hc33=>?_) (fun hc33=>?_)
   ·have hc33b:=hc33
    have hn:gridG f C.toNat (i*C.toNat+j)=none:=by rw [X82 (by omega)];revert hc33;cases f i j<;>simp
    refine Zs hf fun _ hK34=>?_
    refine Ze (Xh (ps:=[]) (cs:=[vi 0,vi 0,.slice none 0 0]) rfl (fun _=>by first|rfl|kernel_rfl)) ?_
    refine Zo (Vw [vi 0,vi 0,.slice none 0 0] X18 hB3) ?_;rintro _ w10 ⟨ho,hb⟩
    have hold:=hB3
    replace hB7:=hB7.only ho (by omega)
    replace hB30:=hB30.only ho (Blk.ne hB30 hold rfl)
    replace ho23:=ho23.onlyT ho hold rfl
    replace hW:=Below.only hW ho hlo3
    clear hold
    have hB3:=hb
    clear hb ho
    refine Za rfl ?_
    refine Zt hK34 fun a hf=>?_
    refine wp_ret ?_
    refine X8 ?_
    refine Xy ?_
    refine X8 ?_
    refine X8 ?_
    refine Xy ?_
    refine Xy ?_
    refine X8 ?_
    refine X8 ?_
    refine Xy ?_
    refine X8 ?_
    refine X2 hf (X0r hf rfl (ResV.cellN (l:=[vi 0,vi 0,.slice none 0 0]) rfl X0q (hB3.at 0) rfl) rfl) ?_
    have he:matOf R C f=none:=by rw [matOf,if_pos hy,X95 hn _ (X3b (by omega) (by omega))];rfl
    rw [he]
    exact ⟨none,0,rfl,(Own.nil _ _ _ _ _),hW⟩
   have hc33b:=hc33
   have hx:gridG f C.toNat (i*C.toNat+j)=some ((f i j).getD dZ):=by rw [X82 (by omega)];revert hc33;cases f i j<;>simp
   refine wp_skip ?_
   refine hK31 _ _ ?_
   refine Zr hf ?_
   refine Ze (Vd rfl X1o 2)<|Ze (X0 rfl X2p (hB7.at 2))<|Ze (Vn Xg hB30) ?_
   refine Zf (X4 (k:=1) (vs:=[.agg #[vi (((f i j).getD dZ).num.a),vi (((f i j).getD dZ).num.b),vi (((f i j).getD dZ).num.c),vi (((f i j).getD dZ).num.d),vi (((f i j).getD dZ).exp)]]) (zs:=[vi (((f i j).getD dZ).num.a),vi (((f i j).getD dZ).num.b),vi (((f i j).getD dZ).num.c),vi (((f i j).getD dZ).num.d),vi (((f i j).getD dZ).exp)]) rfl X1j X2k rfl rfl) ?_;rintro _ w11 ⟨b36,rfl,hl36,hE,hB36⟩
   have hne30_36:b30≠b36:=by have:=hB30.lt;omega
   have hlo36:=Nat.le_trans hW.size hl36
   have haw23_36:=ho23.away hl36
   replace hB3:=hB3.below hE
   replace hB7:=hB7.below hE
   replace hB30:=hB30.below hE
   replace ho23:=ho23.below hE
   replace hW:=btr hW hE
   refine Zf (X0f (enc:=encD) (l:=(l2)) (l2:=([((f i j).getD dZ)])) (B0:=w0.heap.size) rfl rfl X1j X2k X1e X5k ho23 (Rd.of_blk hB36 rfl _ hB36.lt) (by simp only [maxLen];simp;omega) (by simp;omega) hW.size) ?_;rintro _ w12 ⟨A38,c38,rfl,ho38,hg,hat⟩
   have hown:Own _ w0.heap.size 98 5 encD _ _ (l2):=ho23
   have haw38_30:=hat _ hB30.lt haw23_30
   have haw38_36:=hat _ hB36.lt haw23_36
   clear hat
   replace hB3:=hB3.appT hown hg rfl
   replace hB7:=hB7.appT hown hg rfl
   replace hB30:=hB30.appA hg haw23_30
   replace hW:=Below.app hW hown hg (Nat.le_refl _) hW.size
   clear hown hg
   refine Ze (Vd rfl X1o 2) ?_
   refine Zo (Vu (vs:=[.slice A38 (l2++([((f i j).getD dZ)])).length c38]) (l':=[vi R,vi C,.slice A38 (l2++([((f i j).getD dZ)])).length c38]) rfl rfl Xbs hB7) ?_;rintro _ w13 ⟨ho,hb⟩
   have hold:=hB7
   replace hB3:=hB3.only ho (by omega)
   replace hB30:=hB30.only ho (Blk.ne hB30 hold rfl)
   replace ho38:=ho38.onlyT ho hold rfl
   replace hW:=Below.only hW ho hlo7
   clear hold
   have hB7:=hb
   clear hb ho
   refine Zn fun a hf=>?_
   refine Xf ?_
   refine hK27 _ _ ?_
   refine Zr hf ?_
   refine Ze (Xv rfl rfl (by omega) (by omega))<|Zm rfl ?_
   refine Zn fun a hf=>?_
   refine Xn ?_
   exact ⟨(j+1,l2++[((f i j).getD dZ)]),⟨A38,c38,hf.sub ⟨rfl,rfl,rfl,rfl,rfl,rfl,rfl,rfl,rfl,trivial⟩,(by omega),(Xe6 hl2 hx),hB3,hB7,ho38,hW⟩,(by first|omega|(dsimp only;omega))⟩
  have hc26b:=hc26
  have hc26:=of_decide_eq_false hc26
  have hj1:j=C.toNat:=by omega
  refine wp_exit ?_
  refine Xs ?_
  refine Xs ?_
  refine X0h ?_
  refine Xf ?_
  refine hK20 _ _ ?_
  refine Zr hf ?_
  refine Ze (Xv rfl rfl (by omega) (by omega))<|Zm rfl ?_
  refine Zn fun a hf=>?_
  refine Xn ?_
  exact ⟨(i+1,l2),⟨A23,c23,hf.sub ⟨rfl,rfl,rfl,rfl,rfl,rfl,trivial⟩,(by omega),(by rw [Nat.add_mul,Nat.one_mul,← hj1];rw [← hj1] at hl2;exact hl2),hB3,hB7,ho23,hW⟩,(by first|omega|(dsimp only;omega))⟩
 have hc19b:=hc19
 have hc19:=of_decide_eq_false hc19
 have hi1:i=R.toNat:=by omega
 refine wp_exit ?_
 refine Xs ?_
 refine Xs ?_
 refine X0h ?_
 refine hK14 _ _ ?_
 refine Zs hf fun _ hK39=>?_
 refine Ze (Vn X0q hB7) ?_
 refine Zo (Vw [vi R,vi C,.slice A16 l.length c16] X18 hB3) ?_;rintro _ w14 ⟨ho,hb⟩
 have hold:=hB3
 replace hB7:=hB7.only ho (by omega)
 replace ho16:=ho16.onlyT ho hold rfl
 replace hW:=Below.only hW ho hlo3
 clear hold
 have hB3:=hb
 clear hb ho
 refine Za rfl ?_
 refine Zt hK39 fun a hf=>?_
 refine wp_ret (X2 hf (X0r hf rfl (ResV.cellN (l:=[vi R,vi C,.slice A16 l.length c16]) rfl X0q (hB3.at 0) rfl) rfl) ?_)
 have he:matOf R C f=some ⟨R,C,l⟩:=by rw [matOf,if_pos hy,← hi1,hl];rfl
 rw [he]
 exact ⟨A16,c16,rfl,ho16,hW⟩
end Go.Proofs.YtlfjcmldfbfdbaaGreat
set_option maxRecDepth 4000
namespace Go.Proofs.YtlfjcmldfbfdbaaGreat
open Go.RowKit
theorem Xoo(w0:World)(i:Int)(j:Int) : Ret Tryz.prog 194 [vi i,vi j] w0 (fun v w=>v=.tuple #[dV (if i=j then (⟨⟨1,0,0,0⟩,0⟩ : Dy) else dZ),.bool true]∧Below w0.heap.size w0 w):=by
 refine enter Tryz.func194 rfl 11 rfl rfl ?_
 intro a hf
 have hW:Below w0.heap.size w0 w0:=Below.refl _ _
 refine Zs hf fun _ hK1=>?_
 refine Zf (Xa (zs:=[vi 0,vi 0,vi 0,vi 0,vi 0]) X1n rfl) ?_;rintro _ w1 ⟨b2,rfl,hl2,hE,hB2⟩
 have hlo2:=Nat.le_trans hW.size hl2
 replace hW:=btr hW hE
 refine Za rfl ?_
 refine Zt hK1 fun a hf=>?_
 refine wp_seq_k fun _ hK3=>?_
 refine Zs hf fun _ hK4=>?_
 refine Zm rfl<|Zm rfl<|Ze (X0u rfl rfl) ?_
 refine Zt hK4 fun a hf=>?_
 refine Xi hf rfl (fun hc5=>?_) (fun hc5=>?_)
 ·have hc5b:=hc5
  have hij:i=j:=by revert hc5;simp
  refine Zs hf fun _ hK6=>?_
  refine Zf (Vc (Xlx _ 1) Xch) ?_;rintro _ w2 ⟨rfl,hE⟩
  replace hB2:=hB2.below hE
  replace hW:=btr hW hE
  refine Zo (Vw [vi ((⟨⟨1,0,0,0⟩,0⟩ : Dy).num.a),vi ((⟨⟨1,0,0,0⟩,0⟩ : Dy).num.b),vi ((⟨⟨1,0,0,0⟩,0⟩ : Dy).num.c),vi ((⟨⟨1,0,0,0⟩,0⟩ : Dy).num.d),vi ((⟨⟨1,0,0,0⟩,0⟩ : Dy).exp)] Xr hB2) ?_;rintro _ w3 ⟨ho,hb⟩
  have hold:=hB2
  replace hW:=Below.only hW ho hlo2
  clear hold
  have hB2:=hb
  clear hb ho
  refine Za rfl ?_
  refine Zt hK6 fun a hf=>?_
  refine wp_ret ?_
  refine X8 ?_
  refine X2 hf (X0r hf rfl (ResV.cellN (l:=[vi ((⟨⟨1,0,0,0⟩,0⟩ : Dy).num.a),vi ((⟨⟨1,0,0,0⟩,0⟩ : Dy).num.b),vi ((⟨⟨1,0,0,0⟩,0⟩ : Dy).num.c),vi ((⟨⟨1,0,0,0⟩,0⟩ : Dy).num.d),vi ((⟨⟨1,0,0,0⟩,0⟩ : Dy).exp)]) rfl Xg (hB2.at 0) rfl) rfl) ?_
  exact ⟨by rw [if_pos hij],hW⟩
 have hc5b:=hc5
 have hij:¬ i=j:=by revert hc5;simp
 refine wp_skip ?_
 refine hK3 _ _ ?_
 refine Zs hf fun _ hK7=>?_
 refine Ze (Xh (ps:=[]) (cs:=[vi 0,vi 0,vi 0,vi 0,vi 0]) rfl (fun _=>by first|rfl|kernel_rfl)) ?_
 refine Zo (Vw [vi 0,vi 0,vi 0,vi 0,vi 0] Xr hB2) ?_;rintro _ w4 ⟨ho,hb⟩
 have hold:=hB2
 replace hW:=Below.only hW ho hlo2
 clear hold
 have hB2:=hb
 clear hb ho
 refine Za rfl ?_
 refine Zt hK7 fun a hf=>?_
 refine wp_ret (X2 hf (X0r hf rfl (ResV.cellN (l:=[vi 0,vi 0,vi 0,vi 0,vi 0]) rfl Xg (hB2.at 0) rfl) rfl) ?_)
 exact ⟨by rw [if_neg hij];rfl,hW⟩
theorem Xob(w0:World)(n:Int) : Ret Tryz.prog 167 [vi n] w0 (fun v w=>∃ A c,v=.tuple #[mV A c ((idI n).getD mZ),.bool (idI n).isSome]∧Own w w0.heap.size 98 5 encD A c ((idI n).getD mZ).cells∧Below w0.heap.size w0 w):=by
 refine enter Tryz.func167 rfl 9 rfl rfl ?_
 intro a hf
 have hW:Below w0.heap.size w0 w0:=Below.refl _ _
 refine Zs hf fun _ hK1=>?_
 refine Zf (Xa (zs:=[vi 0,vi 0,.slice none 0 0]) X1y rfl) ?_;rintro _ w1 ⟨b3,rfl,hl3,hE,hB3⟩
 have hlo3:=Nat.le_trans hW.size hl3
 replace hW:=btr hW hE
 refine Za rfl ?_
 refine Zt hK1 fun a hf=>?_
 refine Zs hf fun _ hK4=>?_
 refine Zm rfl<|Zm rfl ?_
 refine Zf (Vc (Xi1 _ n n 194 [] Xkj (fun i j=>some (if i=j then ⟨⟨1,0,0,0⟩,0⟩ else dZ)) (fun i j w' hi hj hE'=>(Xoo w' (i:Int) (j:Int)).mono fun v w'' ⟨h1,h2⟩=>⟨by rw [h1];simp only [Int.natCast_inj];rfl,h2⟩)) Xad) ?_;rintro _ w2 ⟨A5,c5,rfl,ho5,hE⟩
 replace ho5:=ho5.lower hW.size
 replace hB3:=hB3.below hE
 replace hW:=btr hW hE
 refine Ze (X3 (vs:=[.agg #[vi (((matOf n n (fun i j=>some (if i=j then ⟨⟨1,0,0,0⟩,0⟩ else dZ))).getD mZ).rows),vi (((matOf n n (fun i j=>some (if i=j then ⟨⟨1,0,0,0⟩,0⟩ else dZ))).getD mZ).cols),.slice A5 (((matOf n n (fun i j=>some (if i=j then ⟨⟨1,0,0,0⟩,0⟩ else dZ))).getD mZ).cells).length c5],.bool ((matOf n n (fun i j=>some (if i=j then ⟨⟨1,0,0,0⟩,0⟩ else dZ))).isSome)]) rfl rfl)<|Ze (X3 (vs:=[.agg #[vi (((matOf n n (fun i j=>some (if i=j then ⟨⟨1,0,0,0⟩,0⟩ else dZ))).getD mZ).rows),vi (((matOf n n (fun i j=>some (if i=j then ⟨⟨1,0,0,0⟩,0⟩ else dZ))).getD mZ).cols),.slice A5 (((matOf n n (fun i j=>some (if i=j then ⟨⟨1,0,0,0⟩,0⟩ else dZ))).getD mZ).cells).length c5],.bool ((matOf n n (fun i j=>some (if i=j then ⟨⟨1,0,0,0⟩,0⟩ else dZ))).isSome)]) rfl rfl) ?_
 refine Zo (Vw [vi (((matOf n n (fun i j=>some (if i=j then ⟨⟨1,0,0,0⟩,0⟩ else dZ))).getD mZ).rows),vi (((matOf n n (fun i j=>some (if i=j then ⟨⟨1,0,0,0⟩,0⟩ else dZ))).getD mZ).cols),.slice A5 (((matOf n n (fun i j=>some (if i=j then ⟨⟨1,0,0,0⟩,0⟩ else dZ))).getD mZ).cells).length c5] X18 hB3) ?_;rintro _ w3 ⟨ho,hb⟩
 have hold:=hB3
 replace ho5:=ho5.onlyT ho hold rfl
 replace hW:=Below.only hW ho hlo3
 clear hold
 have hB3:=hb
 clear hb ho
 refine Za rfl ?_
 refine Zt hK4 fun a hf=>?_
 refine wp_ret (X2 hf (X0r hf rfl (ResV.cellN (l:=[vi (((matOf n n (fun i j=>some (if i=j then ⟨⟨1,0,0,0⟩,0⟩ else dZ))).getD mZ).rows),vi (((matOf n n (fun i j=>some (if i=j then ⟨⟨1,0,0,0⟩,0⟩ else dZ))).getD mZ).cols),.slice A5 (((matOf n n (fun i j=>some (if i=j then ⟨⟨1,0,0,0⟩,0⟩ else dZ))).getD mZ).cells).length c5]) rfl X0q (hB3.at 0) rfl) rfl) ?_)
 exact ⟨A5,c5,rfl,ho5,hW⟩
theorem Xox(w0:World)(p q:Mx)(Aa Ab:Option Addr)(ca cb:Nat)(ba bb:Nat)(hra:Rd w0 w0.heap.size 98 encD Aa p.cells)(hrb:Rd w0 w0.heap.size 98 encD Ab q.cells)(hBa:Blk w0 ba 38 [vi p.rows,vi p.cols,.slice Aa p.cells.length ca])(hBb:Blk w0 bb 38 [vi q.rows,vi q.cols,.slice Ab q.cells.length cb])(hao:mOk p=true)(hbo:mOk q=true)(hab:p.cols=q.rows)(i j:Nat)(hi:(i:Int)<p.rows)(hj:(j:Int)<q.cols) : Ret Tryz.prog 76 [vi (i:Int),vi (j:Int),.pointer (some ⟨ba,0,none⟩),.pointer (some ⟨bb,0,none⟩)] w0 (fun v w=>v=.tuple #[dV ((dotI p q i j p.cols.toNat).getD dZ),.bool (dotI p q i j p.cols.toNat).isSome]∧Below w0.heap.size w0 w):=by
 have hal:=X2y hao
 have hltba:=hBa.lt
 have hltbb:=hBb.lt
 have hcc:p.cols=(p.cols.toNat:Int):=by omega
 refine enter Tryz.func76 rfl 48 rfl rfl ?_
 intro a hf
 have hW:Below w0.heap.size w0 w0:=Below.refl _ _
 refine Zs hf fun _ hK3=>?_
 refine Zf (Xa (zs:=[vi 0,vi 0,vi 0,vi 0,vi 0]) X1n rfl) ?_;rintro _ w1 ⟨b4,rfl,hl4,hE,hB4⟩
 have hlo4:=Nat.le_trans hW.size hl4
 have haw1_4:=(hra.below' hW).away hl4
 have haw2_4:=(hrb.below' hW).away hl4
 replace hBa:=hBa.below hE
 replace hBb:=hBb.below hE
 replace hW:=btr hW hE
 refine Za rfl ?_
 refine Zt hK3 fun a hf=>?_
 refine Zs hf fun _ hK5=>?_
 refine Ze (Xh (ps:=[]) (cs:=[vi 0,vi 0,vi 0,vi 0,vi 0]) rfl (fun _=>by first|rfl|kernel_rfl)) ?_
 refine Zf (Xa (zs:=[vi 0,vi 0,vi 0,vi 0,vi 0]) X1n rfl) ?_;rintro _ w2 ⟨b6,rfl,hl6,hE,hB6⟩
 have hne4_6:b4≠b6:=by have:=hB4.lt;omega
 have hlo6:=Nat.le_trans hW.size hl6
 have haw1_6:=(hra.below' hW).away hl6
 have haw2_6:=(hrb.below' hW).away hl6
 replace hBa:=hBa.below hE
 replace hBb:=hBb.below hE
 replace hB4:=hB4.below hE
 replace hW:=btr hW hE
 refine Zo (Vw [vi 0,vi 0,vi 0,vi 0,vi 0] Xr hB6) ?_;rintro _ w3 ⟨ho,hb⟩
 have hold:=hB6
 replace hBa:=hBa.only ho (Blk.ne hBa hold rfl)
 replace hBb:=hBb.only ho (Blk.ne hBb hold rfl)
 replace hB4:=hB4.only ho (by omega)
 replace hW:=Below.only hW ho hlo6
 clear hold
 have hB6:=hb
 clear hb ho
 refine Zt hK5 fun a hf=>?_
 refine wp_seq_k fun _ hK7=>?_
 refine Zs hf fun _ hK8=>?_
 refine Ze (Vd rfl X1q 1)<|Ze (X0 rfl X5 (hBa.at 1))<|Zm rfl ?_
 refine Zt hK8 fun a hf=>?_
 refine wp_block ?_
 refine X0j (σ:=Nat×Dy) (fun (s:Nat×Dy) (a:Act) (w:World)=>match s with|(k,sum)=>Fr a 48 [(0,vi (i:Int)),(1,vi (j:Int)),(2,.pointer (some ⟨ba,0,none⟩)),(3,.pointer (some ⟨bb,0,none⟩)),(6,.pointer (some ⟨b4,0,none⟩)),(8,.pointer (some ⟨b6,0,none⟩)),(16,vi p.cols),(17,vi (k:Int))]∧((k:Int)≤p.cols)∧(dotI p q i j k=some sum)∧Blk w ba 38 [vi p.rows,vi p.cols,.slice Aa p.cells.length ca]∧Blk w bb 38 [vi q.rows,vi q.cols,.slice Ab q.cells.length cb]∧Blk w b4 98 [vi 0,vi 0,vi 0,vi 0,vi 0]∧Blk w b6 98 [vi sum.num.a,vi sum.num.b,vi sum.num.c,vi sum.num.d,vi sum.exp]∧Below w0.heap.size w0 w) (fun (s:Nat×Dy)=>match s with|(k,sum)=>(p.cols-k).toNat) (0,dZ) ?_ ?_
 ·exact ⟨hf.sub ⟨rfl,rfl,rfl,rfl,rfl,rfl,rfl,rfl,trivial⟩,(by omega),rfl,hBa,hBb,hB4,hB6,hW⟩
 rintro ⟨k,sum⟩ a w4 ⟨hf,hk,hs,hBa,hBb,hB4,hB6,hW⟩
 refine Zs hf fun _ hK9=>?_
 refine Ze (X1k rfl rfl) ?_
 refine Zt hK9 fun a hf=>?_
 refine wp_seq_k fun _ hK10=>?_
 refine Xi hf rfl (fun hc11=>?_) (fun hc11=>?_)
 ·have hc11b:=hc11
  have hc11:=of_decide_eq_true hc11
  have hk1:(k:Int)<p.cols:=hc11
  refine wp_skip ?_
  refine hK10 _ _ ?_
  refine wp_seq_k fun _ hK12=>?_
  refine wp_block ?_
  refine Zs hf fun _ hK13=>?_
  refine Zm rfl<|Za rfl ?_
  refine Zt hK13 fun a hf=>?_
  refine wp_seq_k fun _ hK14=>?_
  refine X09 (fun a w=>∃ b15,Fr a 48 [(0,vi (i:Int)),(1,vi (j:Int)),(2,.pointer (some ⟨ba,0,none⟩)),(3,.pointer (some ⟨bb,0,none⟩)),(6,.pointer (some ⟨b4,0,none⟩)),(8,.pointer (some ⟨b6,0,none⟩)),(10,.pointer (some ⟨b15,0,none⟩)),(11,.bool ((dMulI (p.at i k) (q.at k j)).isSome)),(16,vi p.cols),(17,vi (k:Int))]∧w0.heap.size≤b15∧Blk w b15 98 [vi (((dMulI (p.at i k) (q.at k j)).getD dZ).num.a),vi (((dMulI (p.at i k) (q.at k j)).getD dZ).num.b),vi (((dMulI (p.at i k) (q.at k j)).getD dZ).num.c),vi (((dMulI (p.at i k) (q.at k j)).getD dZ).num.d),vi (((dMulI (p.at i k) (q.at k j)).getD dZ).exp)]∧b4≠b15∧b6≠b15∧Below w4.heap.size w4 w) ?_ ?_
  ·have hEc:Below w4.heap.size w4 w4:=Below.refl _ _
   refine Xu none (fun j=>[13].contains j) mixed ?_
   intro w5 hE
   replace hBa:=hBa.below hE
   replace hBb:=hBb.below hE
   replace hB4:=hB4.below hE
   replace hB6:=hB6.below hE
   replace hW:=btr hW hE
   replace hEc:=btr hEc hE
   refine Yb hf ?_
   refine Ye 0 rfl (Xj (l:=[vi p.rows,vi p.cols,.slice Aa p.cells.length ca]) rfl X0q (hBa.at 0) rfl)<|Yo 1 rfl (fun _=>X9 rfl)<|Yo 2 rfl (fun _=>X9 rfl)<|Ye 4 rfl (Xj (l:=[vi q.rows,vi q.cols,.slice Ab q.cells.length cb]) rfl X0q (hBb.at 0) rfl)<|Yo 5 rfl (fun _=>X9 rfl) ?_
   refine Yo 6 rfl (fun _=>X9 rfl) ?_
   have hJc:Below w5.heap.size w5 w5:=Below.refl _ _
   refine Yc [0,1,2,3,4,5,6,7,8,9,10,11,12] 2 (fun a w=>∃ b15,Fr a 48 [(0,vi (i:Int)),(1,vi (j:Int)),(2,.pointer (some ⟨ba,0,none⟩)),(3,.pointer (some ⟨bb,0,none⟩)),(6,.pointer (some ⟨b4,0,none⟩)),(8,.pointer (some ⟨b6,0,none⟩)),(10,.pointer (some ⟨b15,0,none⟩)),(16,vi p.cols),(17,vi (k:Int)),(30,.agg #[vi (((dMulI (p.at i k) (q.at k j)).getD dZ).num.a),vi (((dMulI (p.at i k) (q.at k j)).getD dZ).num.b),vi (((dMulI (p.at i k) (q.at k j)).getD dZ).num.c),vi (((dMulI (p.at i k) (q.at k j)).getD dZ).num.d),vi (((dMulI (p.at i k) (q.at k j)).getD dZ).exp)]),(31,.bool ((dMulI (p.at i k) (q.at k j)).isSome))]∧w0.heap.size≤b15∧Blk w b15 98 [vi 0,vi 0,vi 0,vi 0,vi 0]∧b4≠b15∧b6≠b15∧w5.heap.size≤b15∧w4.heap.size≤b15∧AwayR p.cells Aa b15∧AwayR q.cells Ab b15∧Below w5.heap.size w5 w) ?_ ?_
   ·rintro a w6 ⟨b15,hf,hlo15,hB15,hne4_15,hne6_15,hlj15,hlc15,haw1_15,haw2_15,hE⟩
    clear hJc
    have hJc:=hE
    replace hBa:=hBa.below hE
    replace hBb:=hBb.below hE
    replace hB4:=hB4.below hE
    replace hB6:=hB6.below hE
    replace hW:=btr hW hE
    replace hEc:=btr hEc hE
    refine Yb hf ?_
    refine Y1 13 ?_
    refine Yh rfl trivial rfl (Vw [vi (((dMulI (p.at i k) (q.at k j)).getD dZ).num.a),vi (((dMulI (p.at i k) (q.at k j)).getD dZ).num.b),vi (((dMulI (p.at i k) (q.at k j)).getD dZ).num.c),vi (((dMulI (p.at i k) (q.at k j)).getD dZ).num.d),vi (((dMulI (p.at i k) (q.at k j)).getD dZ).exp)] Xr hB15) ?_;rintro _ w7 ⟨ho,hb⟩
    have hold:=hB15
    replace hBa:=hBa.only ho (Blk.ne hBa hold rfl)
    replace hBb:=hBb.only ho (Blk.ne hBb hold rfl)
    replace hB4:=hB4.only ho (by omega)
    replace hB6:=hB6.only ho (by omega)
    replace hEc:=Below.only hEc ho hlc15
    replace hJc:=Below.only hJc ho hlj15
    replace hW:=Below.only hW ho hlo15
    clear hold
    have hB15:=hb
    clear hb ho
    refine Yo 14 rfl (fun _=>X0x rfl) ?_
    refine Yd fun a hf=>?_
    have hEE:Below w4.heap.size w4 w7:=hEc
    exact ⟨b15,hf.sub ⟨rfl,rfl,rfl,rfl,rfl,rfl,rfl,rfl,rfl,rfl,trivial⟩,hlo15,hB15,hne4_15,hne6_15,hEE⟩
   intro hJ15
   refine Yc [0,1,2,3,4,5,6,7,12] 6 (fun a w=>∃ b16,Fr a 48 [(0,vi (i:Int)),(1,vi (j:Int)),(2,.pointer (some ⟨ba,0,none⟩)),(3,.pointer (some ⟨bb,0,none⟩)),(6,.pointer (some ⟨b4,0,none⟩)),(8,.pointer (some ⟨b6,0,none⟩)),(10,.pointer (some ⟨b16,0,none⟩)),(16,vi p.cols),(17,vi (k:Int)),(24,.agg #[vi ((p.at i k).num.a),vi ((p.at i k).num.b),vi ((p.at i k).num.c),vi ((p.at i k).num.d),vi ((p.at i k).exp)]),(28,.agg #[vi ((q.at k j).num.a),vi ((q.at k j).num.b),vi ((q.at k j).num.c),vi ((q.at k j).num.d),vi ((q.at k j).exp)])]∧w0.heap.size≤b16∧Blk w b16 98 [vi 0,vi 0,vi 0,vi 0,vi 0]∧b4≠b16∧b6≠b16∧w5.heap.size≤b16∧w4.heap.size≤b16∧AwayR p.cells Aa b16∧AwayR q.cells Ab b16∧Below w5.heap.size w5 w) ?_ ?_
   ·rintro a w8 ⟨b16,hf,hlo16,hB16,hne4_16,hne6_16,hlj16,hlc16,haw1_16,haw2_16,hE⟩
    clear hJc
    have hJc:=hE
    replace hBa:=hBa.below hE
    replace hBb:=hBb.below hE
    replace hB4:=hB4.below hE
    replace hB6:=hB6.below hE
    replace hW:=btr hW hE
    replace hEc:=btr hEc hE
    refine Yb hf ?_
    refine Y1 8 ?_
    refine Yk rfl trivial (Vc (Xlt _ (p.at i k) (q.at k j)) Xc4) (fun _ _ ⟨_,hE⟩=>hE) ?_;rintro _ w9 ⟨rfl,hE⟩
    replace hBa:=hBa.below hE
    replace hBb:=hBb.below hE
    replace hB4:=hB4.below hE
    replace hB6:=hB6.below hE
    replace hB16:=hB16.below hE
    replace hW:=btr hW hE
    replace hEc:=btr hEc hE
    replace hJc:=btr hJc hE
    refine Yo 9 rfl (fun _=>X9 rfl)<|Yo 10 rfl (fun _=>X3 (vs:=[.agg #[vi (((dMulI (p.at i k) (q.at k j)).getD dZ).num.a),vi (((dMulI (p.at i k) (q.at k j)).getD dZ).num.b),vi (((dMulI (p.at i k) (q.at k j)).getD dZ).num.c),vi (((dMulI (p.at i k) (q.at k j)).getD dZ).num.d),vi (((dMulI (p.at i k) (q.at k j)).getD dZ).exp)],.bool ((dMulI (p.at i k) (q.at k j)).isSome)]) rfl rfl)<|Yo 11 rfl (fun _=>X3 (vs:=[.agg #[vi (((dMulI (p.at i k) (q.at k j)).getD dZ).num.a),vi (((dMulI (p.at i k) (q.at k j)).getD dZ).num.b),vi (((dMulI (p.at i k) (q.at k j)).getD dZ).num.c),vi (((dMulI (p.at i k) (q.at k j)).getD dZ).num.d),vi (((dMulI (p.at i k) (q.at k j)).getD dZ).exp)],.bool ((dMulI (p.at i k) (q.at k j)).isSome)]) rfl rfl) ?_
    exact fun a hf=>hJ15 _ a _ rfl ⟨b16,hf.sub ⟨rfl,rfl,rfl,rfl,rfl,rfl,rfl,rfl,rfl,rfl,rfl,trivial⟩,hlo16,hB16,hne4_16,hne6_16,hlj16,hlc16,haw1_16,haw2_16,hJc⟩
   intro hJ17
   refine Yc [0,1,2,3,4,5,6,12] 7 (fun a w=>∃ b17,Fr a 48 [(0,vi (i:Int)),(1,vi (j:Int)),(2,.pointer (some ⟨ba,0,none⟩)),(3,.pointer (some ⟨bb,0,none⟩)),(6,.pointer (some ⟨b4,0,none⟩)),(8,.pointer (some ⟨b6,0,none⟩)),(10,.pointer (some ⟨b17,0,none⟩)),(16,vi p.cols),(17,vi (k:Int)),(24,.agg #[vi ((p.at i k).num.a),vi ((p.at i k).num.b),vi ((p.at i k).num.c),vi ((p.at i k).num.d),vi ((p.at i k).exp)]),(25,.agg #[vi q.rows,vi q.cols,.slice Ab q.cells.length cb]),(26,vi (k:Int)),(27,vi (j:Int))]∧w0.heap.size≤b17∧Blk w b17 98 [vi 0,vi 0,vi 0,vi 0,vi 0]∧b4≠b17∧b6≠b17∧w5.heap.size≤b17∧w4.heap.size≤b17∧AwayR p.cells Aa b17∧AwayR q.cells Ab b17∧Below w5.heap.size w5 w) ?_ ?_
   ·rintro a w10 ⟨b17,hf,hlo17,hB17,hne4_17,hne6_17,hlj17,hlc17,haw1_17,haw2_17,hE⟩
    clear hJc
    have hJc:=hE
    replace hBa:=hBa.below hE
    replace hBb:=hBb.below hE
    replace hB4:=hB4.below hE
    replace hB6:=hB6.below hE
    replace hW:=btr hW hE
    replace hEc:=btr hEc hE
    refine Yb hf ?_
    refine Y1 7 ?_
    refine Yk rfl trivial (Vc (Xg8 _ q Ab cb (hrb.below' hW).top k j hbo (by omega) hj) X83) (fun _ _ ⟨_,hE⟩=>hE) ?_;rintro _ w11 ⟨rfl,hE⟩
    replace hBa:=hBa.below hE
    replace hBb:=hBb.below hE
    replace hB4:=hB4.below hE
    replace hB6:=hB6.below hE
    replace hB17:=hB17.below hE
    replace hW:=btr hW hE
    replace hEc:=btr hEc hE
    replace hJc:=btr hJc hE
    exact fun a hf=>hJ17 _ a _ rfl ⟨b17,hf.sub ⟨rfl,rfl,rfl,rfl,rfl,rfl,rfl,rfl,rfl,rfl,rfl,trivial⟩,hlo17,hB17,hne4_17,hne6_17,hlj17,hlc17,haw1_17,haw2_17,hJc⟩
   intro hJ19
   refine Y2 3 12 ?_ ?_
   ·refine Yk rfl trivial (Vc (Xg8 _ p Aa ca (hra.below' hW).top i k hao hi (by omega)) X83) (fun _ _ ⟨_,hE⟩=>hE) ?_;rintro _ w12 ⟨rfl,hE⟩
    replace hBa:=hBa.below hE
    replace hBb:=hBb.below hE
    replace hB4:=hB4.below hE
    replace hB6:=hB6.below hE
    replace hW:=btr hW hE
    replace hEc:=btr hEc hE
    replace hJc:=btr hJc hE
    refine Y2 7 12 ?_ ?_
    ·refine Yk rfl trivial (Vc (Xg8 _ q Ab cb (hrb.below' hW).top k j hbo (by omega) hj) X83) (fun _ _ ⟨_,hE⟩=>hE) ?_;rintro _ w13 ⟨rfl,hE⟩
     replace hBa:=hBa.below hE
     replace hBb:=hBb.below hE
     replace hB4:=hB4.below hE
     replace hB6:=hB6.below hE
     replace hW:=btr hW hE
     replace hEc:=btr hEc hE
     replace hJc:=btr hJc hE
     refine Y2 8 12 ?_ ?_
     ·refine Yk rfl trivial (Vc (Xlt _ (p.at i k) (q.at k j)) Xc4) (fun _ _ ⟨_,hE⟩=>hE) ?_;rintro _ w14 ⟨rfl,hE⟩
      replace hBa:=hBa.below hE
      replace hBb:=hBb.below hE
      replace hB4:=hB4.below hE
      replace hB6:=hB6.below hE
      replace hW:=btr hW hE
      replace hEc:=btr hEc hE
      replace hJc:=btr hJc hE
      refine Yo 9 rfl (fun _=>X9 rfl)<|Yo 10 rfl (fun _=>X3 (vs:=[.agg #[vi (((dMulI (p.at i k) (q.at k j)).getD dZ).num.a),vi (((dMulI (p.at i k) (q.at k j)).getD dZ).num.b),vi (((dMulI (p.at i k) (q.at k j)).getD dZ).num.c),vi (((dMulI (p.at i k) (q.at k j)).getD dZ).num.d),vi (((dMulI (p.at i k) (q.at k j)).getD dZ).exp)],.bool ((dMulI (p.at i k) (q.at k j)).isSome)]) rfl rfl)<|Yo 11 rfl (fun _=>X3 (vs:=[.agg #[vi (((dMulI (p.at i k) (q.at k j)).getD dZ).num.a),vi (((dMulI (p.at i k) (q.at k j)).getD dZ).num.b),vi (((dMulI (p.at i k) (q.at k j)).getD dZ).num.c),vi (((dMulI (p.at i k) (q.at k j)).getD dZ).num.d),vi (((dMulI (p.at i k) (q.at k j)).getD dZ).exp)],.bool ((dMulI (p.at i k) (q.at k j)).isSome)]) rfl rfl) ?_
      refine Y1 12 ?_
      refine Yk rfl trivial (Xa (zs:=[vi 0,vi 0,vi 0,vi 0,vi 0]) X1n rfl) (fun _ _ ⟨_,_,_,h,_⟩=>h) ?_;rintro _ w15 ⟨b21,rfl,hl21,hE,hB21⟩
      have hne4_21:b4≠b21:=by have:=hB4.lt;omega
      have hne6_21:b6≠b21:=by have:=hB6.lt;omega
      have hlo21:=Nat.le_trans hW.size hl21
      have hlc21:=Nat.le_trans hEc.size hl21
      have hlj21:=Nat.le_trans hJc.size hl21
      have haw1_21:=(hra.below' hW).away hl21
      have haw2_21:=(hrb.below' hW).away hl21
      replace hBa:=hBa.below hE
      replace hBb:=hBb.below hE
      replace hB4:=hB4.below hE
      replace hB6:=hB6.below hE
      replace hW:=btr hW hE
      replace hEc:=btr hEc hE
      replace hJc:=btr hJc hE
      exact fun a hf=>hJ15 _ a _ rfl ⟨b21,hf.sub ⟨rfl,rfl,rfl,rfl,rfl,rfl,rfl,rfl,rfl,rfl,rfl,trivial⟩,hlo21,hB21,hne4_21,hne6_21,hlj21,hlc21,haw1_21,haw2_21,hJc⟩
     refine Yk rfl trivial (Xa (zs:=[vi 0,vi 0,vi 0,vi 0,vi 0]) X1n rfl) (fun _ _ ⟨_,_,_,h,_⟩=>h) ?_;rintro _ w16 ⟨b22,rfl,hl22,hE,hB22⟩
     have hne4_22:b4≠b22:=by have:=hB4.lt;omega
     have hne6_22:b6≠b22:=by have:=hB6.lt;omega
     have hlo22:=Nat.le_trans hW.size hl22
     have hlc22:=Nat.le_trans hEc.size hl22
     have hlj22:=Nat.le_trans hJc.size hl22
     have haw1_22:=(hra.below' hW).away hl22
     have haw2_22:=(hrb.below' hW).away hl22
     replace hBa:=hBa.below hE
     replace hBb:=hBb.below hE
     replace hB4:=hB4.below hE
     replace hB6:=hB6.below hE
     replace hW:=btr hW hE
     replace hEc:=btr hEc hE
     replace hJc:=btr hJc hE
     exact fun a hf=>hJ17 _ a _ rfl ⟨b22,hf.sub ⟨rfl,rfl,rfl,rfl,rfl,rfl,rfl,rfl,rfl,rfl,rfl,trivial⟩,hlo22,hB22,hne4_22,hne6_22,hlj22,hlc22,haw1_22,haw2_22,hJc⟩
    refine Yk rfl trivial (Xa (zs:=[vi 0,vi 0,vi 0,vi 0,vi 0]) X1n rfl) (fun _ _ ⟨_,_,_,h,_⟩=>h) ?_;rintro _ w17 ⟨b23,rfl,hl23,hE,hB23⟩
    have hne4_23:b4≠b23:=by have:=hB4.lt;omega
    have hne6_23:b6≠b23:=by have:=hB6.lt;omega
    have hlo23:=Nat.le_trans hW.size hl23
    have hlc23:=Nat.le_trans hEc.size hl23
    have hlj23:=Nat.le_trans hJc.size hl23
    have haw1_23:=(hra.below' hW).away hl23
    have haw2_23:=(hrb.below' hW).away hl23
    replace hBa:=hBa.below hE
    replace hBb:=hBb.below hE
    replace hB4:=hB4.below hE
    replace hB6:=hB6.below hE
    replace hW:=btr hW hE
    replace hEc:=btr hEc hE
    replace hJc:=btr hJc hE
    exact fun a hf=>hJ19 _ a _ rfl ⟨b23,hf.sub ⟨rfl,rfl,rfl,rfl,rfl,rfl,rfl,rfl,rfl,rfl,rfl,rfl,rfl,trivial⟩,hlo23,hB23,hne4_23,hne6_23,hlj23,hlc23,haw1_23,haw2_23,hJc⟩
   refine Yk rfl trivial (Xa (zs:=[vi 0,vi 0,vi 0,vi 0,vi 0]) X1n rfl) (fun _ _ ⟨_,_,_,h,_⟩=>h) ?_;rintro _ w18 ⟨b24,rfl,hl24,hE,hB24⟩
   have hne4_24:b4≠b24:=by have:=hB4.lt;omega
   have hne6_24:b6≠b24:=by have:=hB6.lt;omega
   have hlo24:=Nat.le_trans hW.size hl24
   have hlc24:=Nat.le_trans hEc.size hl24
   have hlj24:=Nat.le_trans hJc.size hl24
   have haw1_24:=(hra.below' hW).away hl24
   have haw2_24:=(hrb.below' hW).away hl24
   replace hBa:=hBa.below hE
   replace hBb:=hBb.below hE
   replace hB4:=hB4.below hE
   replace hB6:=hB6.below hE
   replace hW:=btr hW hE
   replace hEc:=btr hEc hE
   replace hJc:=btr hJc hE
   refine Y1 3 ?_
   refine Yk rfl trivial (Vc (Xg8 _ p Aa ca (hra.below' hW).top i k hao hi (by omega)) X83) (fun _ _ ⟨_,hE⟩=>hE) ?_;rintro _ w19 ⟨rfl,hE⟩
   replace hBa:=hBa.below hE
   replace hBb:=hBb.below hE
   replace hB4:=hB4.below hE
   replace hB6:=hB6.below hE
   replace hB24:=hB24.below hE
   replace hW:=btr hW hE
   replace hEc:=btr hEc hE
   replace hJc:=btr hJc hE
   exact fun a hf=>hJ19 _ a _ rfl ⟨b24,hf.sub ⟨rfl,rfl,rfl,rfl,rfl,rfl,rfl,rfl,rfl,rfl,rfl,rfl,rfl,trivial⟩,hlo24,hB24,hne4_24,hne6_24,hlj24,hlc24,haw1_24,haw2_24,hJc⟩
  rintro a w20 ⟨b15,hf,hlo15,hB15,hne4_15,hne6_15,hE⟩
  replace hBa:=hBa.below hE
  replace hBb:=hBb.below hE
  replace hB4:=hB4.below hE
  replace hB6:=hB6.below hE
  replace hW:=btr hW hE
  refine hK14 _ _ ?_
  refine Zs hf fun _ hK25=>?_
  refine Ze (Vn Xg hB6)<|Ze (Vn Xg hB15) ?_
  refine Zf (Vc (Xo6 _ sum ((dMulI (p.at i k) (q.at k j)).getD dZ)) Xkz) ?_;rintro _ w21 ⟨rfl,hE⟩
  replace hBa:=hBa.below hE
  replace hBb:=hBb.below hE
  replace hB4:=hB4.below hE
  replace hB6:=hB6.below hE
  replace hB15:=hB15.below hE
  replace hW:=btr hW hE
  refine Zm rfl<|Ze (X3 (vs:=[.agg #[vi (((dAddI sum ((dMulI (p.at i k) (q.at k j)).getD dZ)).getD dZ).num.a),vi (((dAddI sum ((dMulI (p.at i k) (q.at k j)).getD dZ)).getD dZ).num.b),vi (((dAddI sum ((dMulI (p.at i k) (q.at k j)).getD dZ)).getD dZ).num.c),vi (((dAddI sum ((dMulI (p.at i k) (q.at k j)).getD dZ)).getD dZ).num.d),vi (((dAddI sum ((dMulI (p.at i k) (q.at k j)).getD dZ)).getD dZ).exp)],.bool ((dAddI sum ((dMulI (p.at i k) (q.at k j)).getD dZ)).isSome)]) rfl rfl)<|Ze (X3 (vs:=[.agg #[vi (((dAddI sum ((dMulI (p.at i k) (q.at k j)).getD dZ)).getD dZ).num.a),vi (((dAddI sum ((dMulI (p.at i k) (q.at k j)).getD dZ)).getD dZ).num.b),vi (((dAddI sum ((dMulI (p.at i k) (q.at k j)).getD dZ)).getD dZ).num.c),vi (((dAddI sum ((dMulI (p.at i k) (q.at k j)).getD dZ)).getD dZ).num.d),vi (((dAddI sum ((dMulI (p.at i k) (q.at k j)).getD dZ)).getD dZ).exp)],.bool ((dAddI sum ((dMulI (p.at i k) (q.at k j)).getD dZ)).isSome)]) rfl rfl) ?_
  refine Zf (Xa (zs:=[vi 0,vi 0,vi 0,vi 0,vi 0]) X1n rfl) ?_;rintro _ w22 ⟨b26,rfl,hl26,hE,hB26⟩
  have hne4_26:b4≠b26:=by have:=hB4.lt;omega
  have hne6_26:b6≠b26:=by have:=hB6.lt;omega
  have hne15_26:b15≠b26:=by have:=hB15.lt;omega
  have hlo26:=Nat.le_trans hW.size hl26
  have haw1_26:=(hra.below' hW).away hl26
  have haw2_26:=(hrb.below' hW).away hl26
  replace hBa:=hBa.below hE
  replace hBb:=hBb.below hE
  replace hB4:=hB4.below hE
  replace hB6:=hB6.below hE
  replace hB15:=hB15.below hE
  replace hW:=btr hW hE
  refine Zo (Vw [vi (((dAddI sum ((dMulI (p.at i k) (q.at k j)).getD dZ)).getD dZ).num.a),vi (((dAddI sum ((dMulI (p.at i k) (q.at k j)).getD dZ)).getD dZ).num.b),vi (((dAddI sum ((dMulI (p.at i k) (q.at k j)).getD dZ)).getD dZ).num.c),vi (((dAddI sum ((dMulI (p.at i k) (q.at k j)).getD dZ)).getD dZ).num.d),vi (((dAddI sum ((dMulI (p.at i k) (q.at k j)).getD dZ)).getD dZ).exp)] Xr hB26) ?_;rintro _ w23 ⟨ho,hb⟩
  have hold:=hB26
  replace hBa:=hBa.only ho (Blk.ne hBa hold rfl)
  replace hBb:=hBb.only ho (Blk.ne hBb hold rfl)
  replace hB4:=hB4.only ho (by omega)
  replace hB6:=hB6.only ho (by omega)
  replace hB15:=hB15.only ho (by omega)
  replace hW:=Below.only hW ho hlo26
  clear hold
  have hB26:=hb
  clear hb ho
  refine Za rfl ?_
  refine Zt hK25 fun a hf=>?_
  refine wp_seq_k fun _ hK27=>?_
  refine wp_seq_k fun _ hK28=>?_
  refine X09 (fun a w=>Fr a 48 [(0,vi (i:Int)),(1,vi (j:Int)),(2,.pointer (some ⟨ba,0,none⟩)),(3,.pointer (some ⟨bb,0,none⟩)),(6,.pointer (some ⟨b4,0,none⟩)),(8,.pointer (some ⟨b6,0,none⟩)),(12,.pointer (some ⟨b26,0,none⟩)),(16,vi p.cols),(17,vi (k:Int)),(43,.bool ((!((dMulI (p.at i k) (q.at k j)).isSome))||(!((dAddI sum ((dMulI (p.at i k) (q.at k j)).getD dZ)).isSome))))]∧w23=w) ?_ ?_
  ·refine Zr hf ?_
   refine Zm rfl<|Ze (X15 rfl)<|Zm rfl ?_
   refine Zg 40 rfl (fun hg29=>?_) (fun hg29=>?_)
   ·refine Zp ⟨_,_,rfl,rfl,hg29⟩ ?_
    refine Zp ⟨_,_,rfl,rfl,hg29⟩ ?_
    refine Ze (Xc rfl hg29 rfl) ?_
    refine Zn fun a hf=>?_
    exact ⟨hf.sub ⟨rfl,rfl,rfl,rfl,rfl,rfl,rfl,rfl,rfl,X1 rfl (by first|rfl|(simp only [hc11b,hg29,bs];done)|simp [hc11b,hg29]),trivial⟩,rfl⟩
   refine Zv ⟨_,_,rfl,rfl,hg29⟩ (X9 rfl) ?_
   refine Zv ⟨_,_,rfl,rfl,hg29⟩ (X15 rfl) ?_
   refine Ze (X7 rfl hg29 rfl) ?_
   refine Zn fun a hf=>?_
   exact ⟨hf.sub ⟨rfl,rfl,rfl,rfl,rfl,rfl,rfl,rfl,rfl,X1 rfl (by first|rfl|(simp only [hc11b,hg29,bs];done)|simp [hc11b,hg29]),trivial⟩,rfl⟩
  rintro a _ ⟨hf,rfl⟩
  refine hK28 _ _ ?_
  refine Xi hf rfl (fun hc30=>?_) (fun hc30=>?_)
  ·have hc30b:=hc30
   have hn:=X57 hc30
   have hn2:dotI p q i j (k+1)=none:=by rw [dotI,hs];simp only [Option.bind_some];revert hn;cases dMulI (p.at i k) (q.at k j)<;>simp
   have hn3:=X8j hn2 p.cols.toNat (by omega)
   refine Zs hf fun _ hK31=>?_
   refine Ze (Xh (ps:=[]) (cs:=[vi 0,vi 0,vi 0,vi 0,vi 0]) rfl (fun _=>by first|rfl|kernel_rfl)) ?_
   refine Zo (Vw [vi 0,vi 0,vi 0,vi 0,vi 0] Xr hB4) ?_;rintro _ w24 ⟨ho,hb⟩
   have hold:=hB4
   replace hBa:=hBa.only ho (Blk.ne hBa hold rfl)
   replace hBb:=hBb.only ho (Blk.ne hBb hold rfl)
   replace hB6:=hB6.only ho (by omega)
   replace hB26:=hB26.only ho (by omega)
   replace hW:=Below.only hW ho hlo4
   clear hold
   have hB4:=hb
   clear hb ho
   refine Za rfl ?_
   refine Zt hK31 fun a hf=>?_
   refine wp_ret ?_
   refine X8 ?_
   refine Xy ?_
   refine X8 ?_
   refine X8 ?_
   refine Xy ?_
   refine X8 ?_
   refine X2 hf (X0r hf rfl (ResV.cellN (l:=[vi 0,vi 0,vi 0,vi 0,vi 0]) rfl Xg (hB4.at 0) rfl) rfl) ?_
   exact ⟨by rw [hn3];rfl,hW⟩
  have hc30b:=hc30
  have hy:=X5x hc30
  refine wp_skip ?_
  refine hK27 _ _ ?_
  refine Zr hf ?_
  refine Ze (Vn Xg hB26) ?_
  refine Zo (Vw [vi (((dAddI sum ((dMulI (p.at i k) (q.at k j)).getD dZ)).getD dZ).num.a),vi (((dAddI sum ((dMulI (p.at i k) (q.at k j)).getD dZ)).getD dZ).num.b),vi (((dAddI sum ((dMulI (p.at i k) (q.at k j)).getD dZ)).getD dZ).num.c),vi (((dAddI sum ((dMulI (p.at i k) (q.at k j)).getD dZ)).getD dZ).num.d),vi (((dAddI sum ((dMulI (p.at i k) (q.at k j)).getD dZ)).getD dZ).exp)] Xr hB6) ?_;rintro _ w25 ⟨ho,hb⟩
  have hold:=hB6
  replace hBa:=hBa.only ho (Blk.ne hBa hold rfl)
  replace hBb:=hBb.only ho (Blk.ne hBb hold rfl)
  replace hB4:=hB4.only ho (by omega)
  replace hB26:=hB26.only ho (by omega)
  replace hW:=Below.only hW ho hlo6
  clear hold
  have hB6:=hb
  clear hb ho
  refine Zn fun a hf=>?_
  refine Xf ?_
  refine hK12 _ _ ?_
  refine Zr hf ?_
  refine Ze (Xv rfl rfl (by omega) (by omega))<|Zm rfl ?_
  refine Zn fun a hf=>?_
  refine Xn ?_
  exact ⟨(k+1,((dAddI sum ((dMulI (p.at i k) (q.at k j)).getD dZ)).getD dZ)),⟨hf.sub ⟨rfl,rfl,rfl,rfl,rfl,rfl,rfl,rfl,trivial⟩,(by omega),(by rw [dotI,hs];simp only [Option.bind_some];revert hy;cases dMulI (p.at i k) (q.at k j)<;>simp;intro hy;revert hy;cases dAddI sum _<;>simp),hBa,hBb,hB4,hB6,hW⟩,(by first|omega|(dsimp only;omega))⟩
 have hc11b:=hc11
 have hc11:=of_decide_eq_false hc11
 have hk1:k=p.cols.toNat:=by omega
 refine wp_exit ?_
 refine Xs ?_
 refine Xs ?_
 refine X0h ?_
 refine hK7 _ _ ?_
 refine Zs hf fun _ hK32=>?_
 refine Ze (Vn Xg hB6) ?_
 refine Zo (Vw [vi sum.num.a,vi sum.num.b,vi sum.num.c,vi sum.num.d,vi sum.exp] Xr hB4) ?_;rintro _ w26 ⟨ho,hb⟩
 have hold:=hB4
 replace hBa:=hBa.only ho (Blk.ne hBa hold rfl)
 replace hBb:=hBb.only ho (Blk.ne hBb hold rfl)
 replace hB6:=hB6.only ho (by omega)
 replace hW:=Below.only hW ho hlo4
 clear hold
 have hB4:=hb
 clear hb ho
 refine Za rfl ?_
 refine Zt hK32 fun a hf=>?_
 refine wp_ret (X2 hf (X0r hf rfl (ResV.cellN (l:=[vi sum.num.a,vi sum.num.b,vi sum.num.c,vi sum.num.d,vi sum.exp]) rfl Xg (hB4.at 0) rfl) rfl) ?_)
 exact ⟨by rw [← hk1,hs];rfl,hW⟩
end Go.Proofs.YtlfjcmldfbfdbaaGreat
set_option maxRecDepth 4000
namespace Go.Proofs.YtlfjcmldfbfdbaaGreat
open Go.RowKit
theorem Xpg(w0:World)(p:Mx)(Ap:Option Addr)(cp:Nat)(hr_p:Rd w0 w0.heap.size 98 encD Ap p.cells)(q:Mx)(Aq:Option Addr)(cq:Nat)(hr_q:Rd w0 w0.heap.size 98 encD Aq q.cells)(hla:p.cells.length≤2305843009213693951)(hlb:q.cells.length≤2305843009213693951) : Ret Tryz.prog 16 [.agg #[vi p.rows,vi p.cols,.slice Ap p.cells.length cp],.agg #[vi q.rows,vi q.cols,.slice Aq q.cells.length cq]] w0 (fun v w=>∃ A c,v=.tuple #[mV A c ((mulI p q).getD mZ),.bool (mulI p q).isSome]∧Own w w0.heap.size 98 5 encD A c ((mulI p q).getD mZ).cells∧Below w0.heap.size w0 w):=by
 refine enter Tryz.func16 rfl 30 rfl rfl ?_
 intro a hf
 have hW:Below w0.heap.size w0 w0:=Below.refl _ _
 refine Zs hf fun _ hK3=>?_
 refine Zf (X0p (zs:=[vi p.rows,vi p.cols,.slice Ap p.cells.length cp]) rfl rfl) ?_;rintro _ w1 ⟨b4,rfl,hl4,hE,hB4⟩
 have hlo4:=Nat.le_trans hW.size hl4
 replace hW:=btr hW hE
 refine Zf (X0p (zs:=[vi q.rows,vi q.cols,.slice Aq q.cells.length cq]) rfl rfl) ?_;rintro _ w2 ⟨b5,rfl,hl5,hE,hB5⟩
 have hne4_5:b4≠b5:=by have:=hB4.lt;omega
 have hlo5:=Nat.le_trans hW.size hl5
 replace hB4:=hB4.below hE
 replace hW:=btr hW hE
 refine Zf (Xa (zs:=[vi 0,vi 0,.slice none 0 0]) X1y rfl) ?_;rintro _ w3 ⟨b7,rfl,hl7,hE,hB7⟩
 have hne4_7:b4≠b7:=by have:=hB4.lt;omega
 have hne5_7:b5≠b7:=by have:=hB5.lt;omega
 have hlo7:=Nat.le_trans hW.size hl7
 replace hB4:=hB4.below hE
 replace hB5:=hB5.below hE
 replace hW:=btr hW hE
 refine Za rfl ?_
 refine Zt hK3 fun a hf=>?_
 refine wp_seq_k fun _ hK8=>?_
 refine wp_seq_k fun _ hK9=>?_
 refine X09 (fun a w=>Fr a 30 [(2,.pointer (some ⟨b4,0,none⟩)),(3,.pointer (some ⟨b5,0,none⟩)),(4,.pointer (some ⟨b7,0,none⟩)),(20,.bool (((!(mOk p))||(!(mOk q)))||(p.cols != q.rows)))]∧Below w3.heap.size w3 w) ?_ ?_
 ·have hEc:Below w3.heap.size w3 w3:=Below.refl _ _
  refine Zr hf ?_
  refine Ze (Vn X0q hB4) ?_
  refine Zf (Vc (Xgi _ p Ap cp (hr_p.below' hW).top hla) X8c) ?_;rintro _ w4 ⟨rfl,hE⟩
  replace hB4:=hB4.below hE
  replace hB5:=hB5.below hE
  replace hB7:=hB7.below hE
  replace hW:=btr hW hE
  replace hEc:=btr hEc hE
  refine Ze (X15 rfl)<|Zm rfl ?_
  refine Zg 9 rfl (fun hg10=>?_) (fun hg10=>?_)
  ·refine Zp ⟨_,_,rfl,rfl,hg10⟩ ?_
   refine Zp ⟨_,_,rfl,rfl,hg10⟩ ?_
   refine Zp ⟨_,_,rfl,rfl,hg10⟩ ?_
   refine Ze (Xc rfl hg10 rfl)<|Zm rfl<|Zp ⟨_,_,rfl,rfl,rfl⟩ ?_
   refine Zp ⟨_,_,rfl,rfl,rfl⟩ ?_
   refine Zp ⟨_,_,rfl,rfl,rfl⟩ ?_
   refine Zp ⟨_,_,rfl,rfl,rfl⟩ ?_
   refine Zp ⟨_,_,rfl,rfl,rfl⟩ ?_
   refine Ze (Xc rfl rfl rfl) ?_
   refine Zn fun a hf=>?_
   have hEE:Below w3.heap.size w3 w4:=hEc
   exact ⟨hf.sub ⟨rfl,rfl,rfl,X1 rfl (by first|rfl|(simp only [hg10,bs];done)|simp [hg10]),trivial⟩,hEE⟩
  refine Zv ⟨_,_,rfl,rfl,hg10⟩ (Vn X0q hB5) ?_
  refine Zk ⟨_,_,rfl,rfl,hg10⟩ (Vc (Xgi _ q Aq cq (hr_q.below' hW).top hlb) X8c) ?_;rintro _ w5 ⟨rfl,hE⟩
  replace hB4:=hB4.below hE
  replace hB5:=hB5.below hE
  replace hB7:=hB7.below hE
  replace hW:=btr hW hE
  replace hEc:=btr hEc hE
  refine Zv ⟨_,_,rfl,rfl,hg10⟩ (X15 rfl) ?_
  refine Ze (X7 rfl hg10 rfl)<|Zm rfl ?_
  refine Zg 14 rfl (fun hg11=>?_) (fun hg11=>?_)
  ·refine Zp ⟨_,_,rfl,rfl,hg11⟩ ?_
   refine Zp ⟨_,_,rfl,rfl,hg11⟩ ?_
   refine Zp ⟨_,_,rfl,rfl,hg11⟩ ?_
   refine Zp ⟨_,_,rfl,rfl,hg11⟩ ?_
   refine Zp ⟨_,_,rfl,rfl,hg11⟩ ?_
   refine Ze (Xc rfl hg11 rfl) ?_
   refine Zn fun a hf=>?_
   have hEE:Below w3.heap.size w3 w5:=hEc
   exact ⟨hf.sub ⟨rfl,rfl,rfl,X1 rfl (by first|rfl|(simp only [hg10,hg11,bs];done)|simp [hg10,hg11]),trivial⟩,hEE⟩
  refine Zv ⟨_,_,rfl,rfl,hg11⟩ (Vd rfl X1q 1) ?_
  refine Zv ⟨_,_,rfl,rfl,hg11⟩ (X0 rfl X5 (hB4.at 1)) ?_
  refine Zv ⟨_,_,rfl,rfl,hg11⟩ (Vd rfl X26 0) ?_
  refine Zv ⟨_,_,rfl,rfl,hg11⟩ (X0 rfl X5 (hB5.at 0)) ?_
  refine Zv ⟨_,_,rfl,rfl,hg11⟩ (X2z rfl rfl) ?_
  refine Ze (X7 rfl hg11 rfl) ?_
  refine Zn fun a hf=>?_
  have hEE:Below w3.heap.size w3 w5:=hEc
  exact ⟨hf.sub ⟨rfl,rfl,rfl,X1 rfl (by first|rfl|(simp only [hg10,hg11,bs];done)|simp [hg10,hg11]),trivial⟩,hEE⟩
 rintro a w6 ⟨hf,hE⟩
 replace hB4:=hB4.below hE
 replace hB5:=hB5.below hE
 replace hB7:=hB7.below hE
 replace hW:=btr hW hE
 refine hK9 _ _ ?_
 refine Xi hf rfl (fun hc12=>?_) (fun hc12=>?_)
 ·have hc12b:=hc12
  have hn:(mOk p&&mOk q&&p.cols==q.rows)=false:=by revert hc12;cases mOk p<;>cases mOk q<;>simp
  refine Zs hf fun _ hK13=>?_
  refine Ze (Xh (ps:=[]) (cs:=[vi 0,vi 0,.slice none 0 0]) rfl (fun _=>by first|rfl|kernel_rfl)) ?_
  refine Zo (Vw [vi 0,vi 0,.slice none 0 0] X18 hB7) ?_;rintro _ w7 ⟨ho,hb⟩
  have hold:=hB7
  replace hB4:=hB4.only ho (by omega)
  replace hB5:=hB5.only ho (by omega)
  replace hW:=Below.only hW ho hlo7
  clear hold
  have hB7:=hb
  clear hb ho
  refine Za rfl ?_
  refine Zt hK13 fun a hf=>?_
  refine wp_ret ?_
  refine X8 ?_
  refine X2 hf (X0r hf rfl (ResV.cellN (l:=[vi 0,vi 0,.slice none 0 0]) rfl X0q (hB7.at 0) rfl) rfl) ?_
  exact ⟨none,0,by rw [mulI,hn];rfl,by rw [mulI,hn];exact (Own.nil _ _ _ _ _),hW⟩
 have hc12b:=hc12
 have hy:(mOk p&&mOk q&&p.cols==q.rows)=true:=by revert hc12;cases mOk p<;>cases mOk q<;>simp
 have hy3:=Xnk hy
 have hab:p.cols=q.rows:=by simpa using hy3.2.2
 refine wp_skip ?_
 refine hK8 _ _ ?_
 refine Zs hf fun _ hK15=>?_
 refine Ze (Vd rfl X26 0)<|Ze (X0 rfl X5 (hB4.at 0))<|Ze (Vd rfl X1q 1)<|Ze (X0 rfl X5 (hB5.at 1))<|Ze (X3n (vs:=[.pointer (some ⟨b4,0,none⟩),.pointer (some ⟨b5,0,none⟩)]) rfl) ?_
 refine Zf (Vc (Xi1 _ p.rows q.cols 76 [.pointer (some ⟨b4,0,none⟩),.pointer (some ⟨b5,0,none⟩)] Xk5 (fun i j=>dotI p q i j p.cols.toNat) (fun i j w' hi hj hE'=>Xox w' p q _ _ _ _ _ _ ((hr_p.below' hW).below hE').top ((hr_q.below' hW).below hE').top (hB4.below hE') (hB5.below hE') hy3.1 hy3.2.1 hab i j hi hj)) Xad) ?_;rintro _ w8 ⟨A16,c16,rfl,ho16,hE⟩
 replace ho16:=ho16.lower hW.size
 replace hB4:=hB4.below hE
 replace hB5:=hB5.below hE
 replace hB7:=hB7.below hE
 replace hW:=btr hW hE
 refine Ze (X3 (vs:=[.agg #[vi (((matOf p.rows q.cols (fun i j=>dotI p q i j p.cols.toNat)).getD mZ).rows),vi (((matOf p.rows q.cols (fun i j=>dotI p q i j p.cols.toNat)).getD mZ).cols),.slice A16 (((matOf p.rows q.cols (fun i j=>dotI p q i j p.cols.toNat)).getD mZ).cells).length c16],.bool ((matOf p.rows q.cols (fun i j=>dotI p q i j p.cols.toNat)).isSome)]) rfl rfl)<|Ze (X3 (vs:=[.agg #[vi (((matOf p.rows q.cols (fun i j=>dotI p q i j p.cols.toNat)).getD mZ).rows),vi (((matOf p.rows q.cols (fun i j=>dotI p q i j p.cols.toNat)).getD mZ).cols),.slice A16 (((matOf p.rows q.cols (fun i j=>dotI p q i j p.cols.toNat)).getD mZ).cells).length c16],.bool ((matOf p.rows q.cols (fun i j=>dotI p q i j p.cols.toNat)).isSome)]) rfl rfl) ?_
 refine Zo (Vw [vi (((matOf p.rows q.cols (fun i j=>dotI p q i j p.cols.toNat)).getD mZ).rows),vi (((matOf p.rows q.cols (fun i j=>dotI p q i j p.cols.toNat)).getD mZ).cols),.slice A16 (((matOf p.rows q.cols (fun i j=>dotI p q i j p.cols.toNat)).getD mZ).cells).length c16] X18 hB7) ?_;rintro _ w9 ⟨ho,hb⟩
 have hold:=hB7
 replace hB4:=hB4.only ho (by omega)
 replace hB5:=hB5.only ho (by omega)
 replace ho16:=ho16.onlyT ho hold rfl
 replace hW:=Below.only hW ho hlo7
 clear hold
 have hB7:=hb
 clear hb ho
 refine Za rfl ?_
 refine Zt hK15 fun a hf=>?_
 refine wp_ret (X2 hf (X0r hf rfl (ResV.cellN (l:=[vi (((matOf p.rows q.cols (fun i j=>dotI p q i j p.cols.toNat)).getD mZ).rows),vi (((matOf p.rows q.cols (fun i j=>dotI p q i j p.cols.toNat)).getD mZ).cols),.slice A16 (((matOf p.rows q.cols (fun i j=>dotI p q i j p.cols.toNat)).getD mZ).cells).length c16]) rfl X0q (hB7.at 0) rfl) rfl) ?_)
 exact ⟨A16,c16,by rw [mulI,if_pos hy],by rw [mulI,if_pos hy];exact ho16,hW⟩
theorem Xoc(w0:World)(p:Mx)(x:Dy)(Aa:Option Addr)(ca:Nat)(ba bb:Nat)(hra:Rd w0 w0.heap.size 98 encD Aa p.cells)(hBa:Blk w0 ba 38 [vi p.rows,vi p.cols,.slice Aa p.cells.length ca])(hBb:Blk w0 bb 98 (encD x))(hao:mOk p=true)(i j:Nat)(hi:(i:Int)<p.rows)(hj:(j:Int)<p.cols) : Ret Tryz.prog 217 [vi (i:Int),vi (j:Int),.pointer (some ⟨ba,0,none⟩),.pointer (some ⟨bb,0,none⟩)] w0 (fun v w=>v=.tuple #[dV ((dMulI (p.at i j) x).getD dZ),.bool (dMulI (p.at i j) x).isSome]∧Below w0.heap.size w0 w):=by
 have hltba:=hBa.lt
 have hltbb:=hBb.lt
 unfold encD at hBb
 refine enter Tryz.func217 rfl 16 rfl rfl ?_
 intro a hf
 have hW:Below w0.heap.size w0 w0:=Below.refl _ _
 refine Zs hf fun _ hK2=>?_
 refine Zf (Xa (zs:=[vi 0,vi 0,vi 0,vi 0,vi 0]) X1n rfl) ?_;rintro _ w1 ⟨b3,rfl,hl3,hE,hB3⟩
 have hneb_3:bb≠b3:=by have:=hBb.lt;omega
 have hlo3:=Nat.le_trans hW.size hl3
 have haw1_3:=(hra.below' hW).away hl3
 replace hBa:=hBa.below hE
 replace hBb:=hBb.below hE
 replace hW:=btr hW hE
 refine Za rfl ?_
 refine Zt hK2 fun a hf=>?_
 refine wp_seq_k fun _ hK4=>?_
 refine Xu none (fun j=>[8].contains j) mixed ?_
 intro w2 hE
 replace hBa:=hBa.below hE
 replace hBb:=hBb.below hE
 replace hB3:=hB3.below hE
 replace hW:=btr hW hE
 refine Yb hf ?_
 refine Ye 0 rfl (Xj (l:=[vi p.rows,vi p.cols,.slice Aa p.cells.length ca]) rfl X0q (hBa.at 0) rfl)<|Yo 1 rfl (fun _=>X9 rfl)<|Yo 2 rfl (fun _=>X9 rfl)<|Ye 4 rfl (Xj (l:=[vi x.num.a,vi x.num.b,vi x.num.c,vi x.num.d,vi x.exp]) rfl Xg (hBb.at 0) rfl) ?_
 refine Y1 3 ?_
 refine Yk rfl trivial (Vc (Xg8 _ p Aa ca (hra.below' hW).top i j hao hi hj) X83) (fun _ _ ⟨_,hE⟩=>hE) ?_;rintro _ w3 ⟨rfl,hE⟩
 replace hBa:=hBa.below hE
 replace hBb:=hBb.below hE
 replace hB3:=hB3.below hE
 replace hW:=btr hW hE
 refine Y1 5 ?_
 refine Yk rfl trivial (Vc (Xlt _ (p.at i j) x) Xc4) (fun _ _ ⟨_,hE⟩=>hE) ?_;rintro _ w4 ⟨rfl,hE⟩
 replace hBa:=hBa.below hE
 replace hBb:=hBb.below hE
 replace hB3:=hB3.below hE
 replace hW:=btr hW hE
 refine Yo 6 rfl (fun _=>X3 (vs:=[.agg #[vi (((dMulI (p.at i j) x).getD dZ).num.a),vi (((dMulI (p.at i j) x).getD dZ).num.b),vi (((dMulI (p.at i j) x).getD dZ).num.c),vi (((dMulI (p.at i j) x).getD dZ).num.d),vi (((dMulI (p.at i j) x).getD dZ).exp)],.bool ((dMulI (p.at i j) x).isSome)]) rfl rfl)<|Yo 7 rfl (fun _=>X3 (vs:=[.agg #[vi (((dMulI (p.at i j) x).getD dZ).num.a),vi (((dMulI (p.at i j) x).getD dZ).num.b),vi (((dMulI (p.at i j) x).getD dZ).num.c),vi (((dMulI (p.at i j) x).getD dZ).num.d),vi (((dMulI (p.at i j) x).getD dZ).exp)],.bool ((dMulI (p.at i j) x).isSome)]) rfl rfl) ?_
 refine Y1 8 ?_
 refine Yh rfl trivial rfl (Vw [vi (((dMulI (p.at i j) x).getD dZ).num.a),vi (((dMulI (p.at i j) x).getD dZ).num.b),vi (((dMulI (p.at i j) x).getD dZ).num.c),vi (((dMulI (p.at i j) x).getD dZ).num.d),vi (((dMulI (p.at i j) x).getD dZ).exp)] Xr hB3) ?_;rintro _ w5 ⟨ho,hb⟩
 have hold:=hB3
 replace hBa:=hBa.only ho (Blk.ne hBa hold rfl)
 replace hBb:=hBb.only ho (by omega)
 replace hW:=Below.only hW ho hlo3
 clear hold
 have hB3:=hb
 clear hb ho
 refine Yo 9 rfl (fun _=>X0x rfl) ?_
 refine Yd fun a hf=>?_
 refine hK4 _ _ ?_
 refine wp_ret (X2 hf (X0r hf rfl (ResV.cellN (l:=[vi (((dMulI (p.at i j) x).getD dZ).num.a),vi (((dMulI (p.at i j) x).getD dZ).num.b),vi (((dMulI (p.at i j) x).getD dZ).num.c),vi (((dMulI (p.at i j) x).getD dZ).num.d),vi (((dMulI (p.at i j) x).getD dZ).exp)]) rfl Xg (hB3.at 0) rfl) rfl) ?_)
 exact ⟨rfl,hW⟩
theorem Xni(w0:World)(p:Mx)(Ap:Option Addr)(cp:Nat)(hr_p:Rd w0 w0.heap.size 98 encD Ap p.cells)(x:Dy)(hla:p.cells.length≤2305843009213693951) : Ret Tryz.prog 192 [.agg #[vi p.rows,vi p.cols,.slice Ap p.cells.length cp],.agg #[vi x.num.a,vi x.num.b,vi x.num.c,vi x.num.d,vi x.exp]] w0 (fun v w=>∃ A c,v=.tuple #[mV A c ((scaleI p x).getD mZ),.bool (scaleI p x).isSome]∧Own w w0.heap.size 98 5 encD A c ((scaleI p x).getD mZ).cells∧Below w0.heap.size w0 w):=by
 refine enter Tryz.func192 rfl 23 rfl rfl ?_
 intro a hf
 have hW:Below w0.heap.size w0 w0:=Below.refl _ _
 refine Zs hf fun _ hK2=>?_
 refine Zf (X0p (zs:=[vi p.rows,vi p.cols,.slice Ap p.cells.length cp]) rfl rfl) ?_;rintro _ w1 ⟨b3,rfl,hl3,hE,hB3⟩
 have hlo3:=Nat.le_trans hW.size hl3
 replace hW:=btr hW hE
 refine Zf (X0p (zs:=[vi x.num.a,vi x.num.b,vi x.num.c,vi x.num.d,vi x.exp]) rfl rfl) ?_;rintro _ w2 ⟨b4,rfl,hl4,hE,hB4⟩
 have hlo4:=Nat.le_trans hW.size hl4
 have haw1_4:=(hr_p.below' hW).away hl4
 replace hB3:=hB3.below hE
 replace hW:=btr hW hE
 refine Zf (Xa (zs:=[vi 0,vi 0,.slice none 0 0]) X1y rfl) ?_;rintro _ w3 ⟨b6,rfl,hl6,hE,hB6⟩
 have hne3_6:b3≠b6:=by have:=hB3.lt;omega
 have hlo6:=Nat.le_trans hW.size hl6
 replace hB3:=hB3.below hE
 replace hB4:=hB4.below hE
 replace hW:=btr hW hE
 refine Za rfl ?_
 refine Zt hK2 fun a hf=>?_
 refine wp_seq_k fun _ hK7=>?_
 refine wp_seq_k fun _ hK8=>?_
 refine X09 (fun a w=>Fr a 23 [(2,.pointer (some ⟨b3,0,none⟩)),(3,.pointer (some ⟨b4,0,none⟩)),(4,.pointer (some ⟨b6,0,none⟩)),(13,.bool ((!(mOk p))||(!(dOk x))))]∧Below w3.heap.size w3 w) ?_ ?_
 ·have hEc:Below w3.heap.size w3 w3:=Below.refl _ _
  refine Zr hf ?_
  refine Ze (Vn X0q hB3) ?_
  refine Zf (Vc (Xgi _ p Ap cp (hr_p.below' hW).top hla) X8c) ?_;rintro _ w4 ⟨rfl,hE⟩
  replace hB3:=hB3.below hE
  replace hB4:=hB4.below hE
  replace hB6:=hB6.below hE
  replace hW:=btr hW hE
  replace hEc:=btr hEc hE
  refine Ze (X15 rfl)<|Zm rfl ?_
  refine Zg 9 rfl (fun hg9=>?_) (fun hg9=>?_)
  ·refine Zp ⟨_,_,rfl,rfl,hg9⟩ ?_
   refine Zp ⟨_,_,rfl,rfl,hg9⟩ ?_
   refine Zp ⟨_,_,rfl,rfl,hg9⟩ ?_
   refine Ze (Xc rfl hg9 rfl) ?_
   refine Zn fun a hf=>?_
   have hEE:Below w3.heap.size w3 w4:=hEc
   exact ⟨hf.sub ⟨rfl,rfl,rfl,X1 rfl (by first|rfl|(simp only [hg9,bs];done)|simp [hg9]),trivial⟩,hEE⟩
  refine Zv ⟨_,_,rfl,rfl,hg9⟩ (Vn Xg hB4) ?_
  refine Zk ⟨_,_,rfl,rfl,hg9⟩ (Vc (Xe9 _ x) X6h) ?_;rintro _ w5 ⟨rfl,hE⟩
  replace hB3:=hB3.below hE
  replace hB4:=hB4.below hE
  replace hB6:=hB6.below hE
  replace hW:=btr hW hE
  replace hEc:=btr hEc hE
  refine Zv ⟨_,_,rfl,rfl,hg9⟩ (X15 rfl) ?_
  refine Ze (X7 rfl hg9 rfl) ?_
  refine Zn fun a hf=>?_
  have hEE:Below w3.heap.size w3 w5:=hEc
  exact ⟨hf.sub ⟨rfl,rfl,rfl,X1 rfl (by first|rfl|(simp only [hg9,bs];done)|simp [hg9]),trivial⟩,hEE⟩
 rintro a w6 ⟨hf,hE⟩
 replace hB3:=hB3.below hE
 replace hB4:=hB4.below hE
 replace hB6:=hB6.below hE
 replace hW:=btr hW hE
 refine hK8 _ _ ?_
 refine Xi hf rfl (fun hc10=>?_) (fun hc10=>?_)
 ·have hc10b:=hc10
  have hn:(mOk p&&dOk x)=false:=by revert hc10;cases mOk p<;>cases dOk x<;>simp
  refine Zs hf fun _ hK11=>?_
  refine Ze (Xh (ps:=[]) (cs:=[vi 0,vi 0,.slice none 0 0]) rfl (fun _=>by first|rfl|kernel_rfl)) ?_
  refine Zo (Vw [vi 0,vi 0,.slice none 0 0] X18 hB6) ?_;rintro _ w7 ⟨ho,hb⟩
  have hold:=hB6
  replace hB3:=hB3.only ho (by omega)
  replace hB4:=hB4.only ho (Blk.ne hB4 hold rfl)
  replace hW:=Below.only hW ho hlo6
  clear hold
  have hB6:=hb
  clear hb ho
  refine Za rfl ?_
  refine Zt hK11 fun a hf=>?_
  refine wp_ret ?_
  refine X8 ?_
  refine X2 hf (X0r hf rfl (ResV.cellN (l:=[vi 0,vi 0,.slice none 0 0]) rfl X0q (hB6.at 0) rfl) rfl) ?_
  exact ⟨none,0,by rw [scaleI,hn];rfl,by rw [scaleI,hn];exact (Own.nil _ _ _ _ _),hW⟩
 have hc10b:=hc10
 have hy:(mOk p&&dOk x)=true:=by revert hc10;cases mOk p<;>cases dOk x<;>simp
 have hy3:=(Bool.and_eq_true _ _▸hy:mOk p=true∧dOk x=true)
 refine wp_skip ?_
 refine hK7 _ _ ?_
 refine Zs hf fun _ hK13=>?_
 refine Ze (Vd rfl X26 0)<|Ze (X0 rfl X5 (hB3.at 0))<|Ze (Vd rfl X1q 1)<|Ze (X0 rfl X5 (hB3.at 1))<|Ze (X3n (vs:=[.pointer (some ⟨b3,0,none⟩),.pointer (some ⟨b4,0,none⟩)]) rfl) ?_
 refine Zf (Vc (Xi1 _ p.rows p.cols 217 [.pointer (some ⟨b3,0,none⟩),.pointer (some ⟨b4,0,none⟩)] Xkl (fun i j=>dMulI (p.at i j) x) (fun i j w' hi hj hE'=>Xoc w' p x _ _ _ _ ((hr_p.below' hW).below hE').top (hB3.below hE') (hB4.below hE') hy3.1 i j hi hj)) Xad) ?_;rintro _ w8 ⟨A14,c14,rfl,ho14,hE⟩
 have haw14_4:=ho14.awayNew hB4.lt
 replace ho14:=ho14.lower hW.size
 replace hB3:=hB3.below hE
 replace hB4:=hB4.below hE
 replace hB6:=hB6.below hE
 replace hW:=btr hW hE
 refine Ze (X3 (vs:=[.agg #[vi (((matOf p.rows p.cols (fun i j=>dMulI (p.at i j) x)).getD mZ).rows),vi (((matOf p.rows p.cols (fun i j=>dMulI (p.at i j) x)).getD mZ).cols),.slice A14 (((matOf p.rows p.cols (fun i j=>dMulI (p.at i j) x)).getD mZ).cells).length c14],.bool ((matOf p.rows p.cols (fun i j=>dMulI (p.at i j) x)).isSome)]) rfl rfl)<|Ze (X3 (vs:=[.agg #[vi (((matOf p.rows p.cols (fun i j=>dMulI (p.at i j) x)).getD mZ).rows),vi (((matOf p.rows p.cols (fun i j=>dMulI (p.at i j) x)).getD mZ).cols),.slice A14 (((matOf p.rows p.cols (fun i j=>dMulI (p.at i j) x)).getD mZ).cells).length c14],.bool ((matOf p.rows p.cols (fun i j=>dMulI (p.at i j) x)).isSome)]) rfl rfl) ?_
 refine Zo (Vw [vi (((matOf p.rows p.cols (fun i j=>dMulI (p.at i j) x)).getD mZ).rows),vi (((matOf p.rows p.cols (fun i j=>dMulI (p.at i j) x)).getD mZ).cols),.slice A14 (((matOf p.rows p.cols (fun i j=>dMulI (p.at i j) x)).getD mZ).cells).length c14] X18 hB6) ?_;rintro _ w9 ⟨ho,hb⟩
 have hold:=hB6
 replace hB3:=hB3.only ho (by omega)
 replace hB4:=hB4.only ho (Blk.ne hB4 hold rfl)
 replace ho14:=ho14.onlyT ho hold rfl
 replace hW:=Below.only hW ho hlo6
 clear hold
 have hB6:=hb
 clear hb ho
 refine Za rfl ?_
 refine Zt hK13 fun a hf=>?_
 refine wp_ret (X2 hf (X0r hf rfl (ResV.cellN (l:=[vi (((matOf p.rows p.cols (fun i j=>dMulI (p.at i j) x)).getD mZ).rows),vi (((matOf p.rows p.cols (fun i j=>dMulI (p.at i j) x)).getD mZ).cols),.slice A14 (((matOf p.rows p.cols (fun i j=>dMulI (p.at i j) x)).getD mZ).cells).length c14]) rfl X0q (hB6.at 0) rfl) rfl) ?_)
 exact ⟨A14,c14,by rw [scaleI,if_pos hy],by rw [scaleI,if_pos hy];exact ho14,hW⟩
theorem Xo7(w0:World)(Ap:Option Addr)(cp:Nat)(p:List Dy)(hr_p:Rd w0 w0.heap.size 98 encD Ap p)(Aq:Option Addr)(cq:Nat)(q:List Dy)(hr_q:Rd w0 w0.heap.size 98 encD Aq q)(hln:p.length≤2305843009213693951) : Ret Tryz.prog 172 [.slice Ap p.length cp,.slice Aq q.length cq] w0 (fun v w=>v=.bool (decide (p=q))∧Below w0.heap.size w0 w):=by
 refine enter Tryz.func172 rfl 26 rfl rfl ?_
 intro a hf
 have hW:Below w0.heap.size w0 w0:=Below.refl _ _
 refine Zs hf fun _ hK3=>?_
 refine Za rfl ?_
 refine Zt hK3 fun a hf=>?_
 refine wp_seq_k fun _ hK4=>?_
 refine Zs hf fun _ hK5=>?_
 refine Zm rfl<|Ze (X0v rfl X1j)<|Zm rfl<|Ze (X0v rfl X1j)<|Ze (X2z rfl rfl) ?_
 refine Zt hK5 fun a hf=>?_
 refine Xi hf rfl (fun hc6=>?_) (fun hc6=>?_)
 ·have hc6b:=hc6
  have hne:¬ p=q:=by intro h9;rw [h9] at hc6;simp at hc6
  refine Zs hf fun _ hK7=>?_
  refine Za rfl ?_
  refine Zt hK7 fun a hf=>?_
  refine wp_ret ?_
  refine X8 ?_
  refine X2 hf (Xo hf rfl rfl) ?_
  exact ⟨by simp [hne],hW⟩
 have hc6b:=hc6
 have hll:p.length=q.length:=by have h9:(p.length:Int)=q.length:=(by simpa using hc6);omega
 refine wp_skip ?_
 refine hK4 _ _ ?_
 refine wp_seq_k fun _ hK8=>?_
 refine Zs hf fun _ hK9=>?_
 refine Zm rfl<|Ze (X0v rfl X1j)<|Zm rfl ?_
 refine Zt hK9 fun a hf=>?_
 refine wp_block ?_
 refine X0j (σ:=Nat) (fun (k:Nat) (a:Act) (w:World)=>Fr a 26 [(0,.slice Ap p.length cp),(1,.slice Aq q.length cq),(12,vi (p.length:Int)),(13,vi (k:Int))]∧(k≤p.length)∧(p.take k=q.take k)∧Below w0.heap.size w0 w) (fun (k:Nat)=>p.length-k) 0 ?_ ?_
 ·exact ⟨hf.sub ⟨rfl,rfl,rfl,rfl,trivial⟩,(Nat.zero_le _),(by simp),hW⟩
 rintro k a w1 ⟨hf,hk,hpre,hW⟩
 refine Zs hf fun _ hK10=>?_
 refine Ze (X1k rfl rfl) ?_
 refine Zt hK10 fun a hf=>?_
 refine wp_seq_k fun _ hK11=>?_
 refine Xi hf rfl (fun hc12=>?_) (fun hc12=>?_)
 ·have hc12b:=hc12
  have hc12:=of_decide_eq_true hc12
  obtain ⟨u13,hu13⟩:=Xx (l:=p) (k:=k) (by omega)
  obtain ⟨v9,hv9⟩:=Xx (l:=q) (k:=k) (by omega)
  refine wp_skip ?_
  refine hK11 _ _ ?_
  refine wp_seq_k fun _ hK14=>?_
  refine wp_block ?_
  refine Zs hf fun _ hK15=>?_
  refine Zm rfl<|Za rfl ?_
  refine Zt hK15 fun a hf=>?_
  refine wp_seq_k fun _ hK16=>?_
  refine Xu none (fun _=>false) mixed ?_
  intro w2 hE
  replace hW:=btr hW hE
  refine Yb hf ?_
  refine Yo 0 rfl (fun _=>X9 rfl)<|Yo 1 rfl (fun _=>X9 rfl) ?_
  refine Yi (k:=k) (u:=u13) (enc:=encD) (l:=p) 2 rfl trivial rfl rfl X1j Xr X1e (hr_p.below' hW) hu13 rfl ?_;intro p18 hat17
  refine Ye 3 rfl (Xj (l:=[vi u13.num.a,vi u13.num.b,vi u13.num.c,vi u13.num.d,vi u13.exp]) rfl Xg hat17 rfl)<|Yo 4 rfl (fun _=>X9 rfl)<|Yo 5 rfl (fun _=>X9 rfl) ?_
  refine Yi (k:=k) (u:=v9) (enc:=encD) (l:=q) 6 rfl trivial rfl rfl X1j Xr X1e (hr_q.below' hW) hv9 rfl ?_;intro p20 hat19
  refine Ye 7 rfl (Xj (l:=[vi v9.num.a,vi v9.num.b,vi v9.num.c,vi v9.num.d,vi v9.exp]) rfl Xg hat19 rfl)<|Yo 8 rfl (fun _=>Xb7 rfl rfl Xff (fun w=>eqD 9997 u13 v9 w)) ?_
  refine Yd fun a hf=>?_
  refine hK16 _ _ ?_
  refine Xi hf rfl (fun hc21=>?_) (fun hc21=>?_)
  ·have hc21b:=hc21
   have hne:¬ p=q:=by rintro rfl;rw [hu13] at hv9;injection hv9 with e9;revert hc21;simp [e9]
   refine Zs hf fun _ hK22=>?_
   refine Za rfl ?_
   refine Zt hK22 fun a hf=>?_
   refine wp_ret ?_
   refine Xy ?_
   refine X8 ?_
   refine X8 ?_
   refine Xy ?_
   refine X8 ?_
   refine X2 hf (Xo hf rfl rfl) ?_
   exact ⟨by simp [hne],hW⟩
  have hc21b:=hc21
  have he9:u13=v9:=by revert hc21;simp
  refine wp_skip ?_
  refine Xf ?_
  refine hK14 _ _ ?_
  refine Zr hf ?_
  refine Ze (Xv rfl rfl (by omega) (by omega))<|Zm rfl ?_
  refine Zn fun a hf=>?_
  refine Xn ?_
  exact ⟨k+1,⟨hf.sub ⟨rfl,rfl,rfl,rfl,trivial⟩,(by omega),(X67 hpre hu13 hv9 he9),hW⟩,(by omega)⟩
 have hc12b:=hc12
 have hc12:=of_decide_eq_false hc12
 refine wp_exit ?_
 refine Xs ?_
 refine Xs ?_
 refine X0h ?_
 refine hK8 _ _ ?_
 refine Zs hf fun _ hK23=>?_
 refine Za rfl ?_
 refine Zt hK23 fun a hf=>?_
 refine wp_ret (X2 hf (Xo hf rfl rfl) ?_)
 have he:p=q:=by rw [List.take_of_length_le (by omega),List.take_of_length_le (by omega)] at hpre;exact hpre
 exact ⟨by simp [he],hW⟩
theorem Xon(w0:World)(p:Mx)(Ap:Option Addr)(cp:Nat)(hr_p:Rd w0 w0.heap.size 98 encD Ap p.cells)(q:Mx)(Aq:Option Addr)(cq:Nat)(hr_q:Rd w0 w0.heap.size 98 encD Aq q.cells)(hln:p.cells.length≤2305843009213693951) : Ret Tryz.prog 122 [.agg #[vi p.rows,vi p.cols,.slice Ap p.cells.length cp],.agg #[vi q.rows,vi q.cols,.slice Aq q.cells.length cq]] w0 (fun v w=>v=.bool (decide (p.rows=q.rows)&&decide (p.cols=q.cols)&&decide (p.cells=q.cells))∧Below w0.heap.size w0 w):=by
 refine enter Tryz.func122 rfl 24 rfl rfl ?_
 intro a hf
 have hW:Below w0.heap.size w0 w0:=Below.refl _ _
 refine Zs hf fun _ hK3=>?_
 refine Zf (X0p (zs:=[vi p.rows,vi p.cols,.slice Ap p.cells.length cp]) rfl rfl) ?_;rintro _ w1 ⟨b4,rfl,hl4,hE,hB4⟩
 have hlo4:=Nat.le_trans hW.size hl4
 replace hW:=btr hW hE
 refine Zf (X0p (zs:=[vi q.rows,vi q.cols,.slice Aq q.cells.length cq]) rfl rfl) ?_;rintro _ w2 ⟨b5,rfl,hl5,hE,hB5⟩
 have hne4_5:b4≠b5:=by have:=hB4.lt;omega
 have hlo5:=Nat.le_trans hW.size hl5
 replace hB4:=hB4.below hE
 replace hW:=btr hW hE
 refine Za rfl ?_
 refine Zt hK3 fun a hf=>?_
 refine wp_seq_k fun _ hK6=>?_
 refine X09 (fun a w=>Fr a 24 [(4,.bool (((p.rows==q.rows)&&(p.cols==q.cols))&&(decide (p.cells=q.cells))))]∧Below w2.heap.size w2 w) ?_ ?_
 ·have hEc:Below w2.heap.size w2 w2:=Below.refl _ _
  refine Zr hf ?_
  refine Ze (Vd rfl X26 0)<|Ze (X0 rfl X5 (hB4.at 0))<|Ze (Vd rfl X26 0)<|Ze (X0 rfl X5 (hB5.at 0))<|Ze (X0u rfl rfl) ?_
  refine Zm rfl ?_
  refine Zg 10 rfl (fun hg7=>?_) (fun hg7=>?_)
  ·refine Zv ⟨_,_,rfl,rfl,hg7⟩ (Vd rfl X1q 1) ?_
   refine Zv ⟨_,_,rfl,rfl,hg7⟩ (X0 rfl X5 (hB4.at 1)) ?_
   refine Zv ⟨_,_,rfl,rfl,hg7⟩ (Vd rfl X1q 1) ?_
   refine Zv ⟨_,_,rfl,rfl,hg7⟩ (X0 rfl X5 (hB5.at 1)) ?_
   refine Zv ⟨_,_,rfl,rfl,hg7⟩ (X0u rfl rfl) ?_
   refine Ze (Xc rfl hg7 rfl)<|Zm rfl ?_
   refine Zg 17 rfl (fun hg8=>?_) (fun hg8=>?_)
   ·refine Zv ⟨_,_,rfl,rfl,hg8⟩ (Vd rfl X1o 2) ?_
    refine Zv ⟨_,_,rfl,rfl,hg8⟩ (X0 rfl X2p (hB4.at 2)) ?_
    refine Zv ⟨_,_,rfl,rfl,hg8⟩ (Vd rfl X1o 2) ?_
    refine Zv ⟨_,_,rfl,rfl,hg8⟩ (X0 rfl X2p (hB5.at 2)) ?_
    refine Zk ⟨_,_,rfl,rfl,hg8⟩ (Vc (Xo7 _ Ap cp p.cells (hr_p.below' hW).top Aq cq q.cells (hr_q.below' hW).top (by assumption)) Xkh) ?_;rintro _ w3 ⟨rfl,hE⟩
    replace hB4:=hB4.below hE
    replace hB5:=hB5.below hE
    replace hW:=btr hW hE
    replace hEc:=btr hEc hE
    refine Ze (Xc rfl hg8 rfl)<|Za rfl ?_
    refine Zn fun a hf=>?_
    have hEE:Below w2.heap.size w2 w3:=hEc
    exact ⟨hf.sub ⟨X1 rfl (by first|rfl|(simp only [hg7,hg8,bs];done)|simp [hg7,hg8]),trivial⟩,hEE⟩
   refine Zp ⟨_,_,rfl,rfl,hg8⟩ ?_
   refine Zp ⟨_,_,rfl,rfl,hg8⟩ ?_
   refine Zp ⟨_,_,rfl,rfl,hg8⟩ ?_
   refine Zp ⟨_,_,rfl,rfl,hg8⟩ ?_
   refine Zp ⟨_,_,rfl,rfl,hg8⟩ ?_
   refine Ze (X7 rfl hg8 rfl)<|Za rfl ?_
   refine Zn fun a hf=>?_
   have hEE:Below w2.heap.size w2 w2:=hEc
   exact ⟨hf.sub ⟨X1 rfl (by first|rfl|(simp only [hg7,hg8,bs];done)|simp [hg7,hg8]),trivial⟩,hEE⟩
  refine Zp ⟨_,_,rfl,rfl,hg7⟩ ?_
  refine Zp ⟨_,_,rfl,rfl,hg7⟩ ?_
  refine Zp ⟨_,_,rfl,rfl,hg7⟩ ?_
  refine Zp ⟨_,_,rfl,rfl,hg7⟩ ?_
  refine Zp ⟨_,_,rfl,rfl,hg7⟩ ?_
  refine Ze (X7 rfl hg7 rfl)<|Zm rfl<|Zp ⟨_,_,rfl,rfl,rfl⟩ ?_
  refine Zp ⟨_,_,rfl,rfl,rfl⟩ ?_
  refine Zp ⟨_,_,rfl,rfl,rfl⟩ ?_
  refine Zp ⟨_,_,rfl,rfl,rfl⟩ ?_
  refine Zp ⟨_,_,rfl,rfl,rfl⟩ ?_
  refine Ze (X7 rfl rfl rfl)<|Za rfl ?_
  refine Zn fun a hf=>?_
  have hEE:Below w2.heap.size w2 w2:=hEc
  exact ⟨hf.sub ⟨X1 rfl (by first|rfl|(simp only [hg7,bs];done)|simp [hg7]),trivial⟩,hEE⟩
 rintro a w4 ⟨hf,hE⟩
 replace hB4:=hB4.below hE
 replace hB5:=hB5.below hE
 replace hW:=btr hW hE
 refine hK6 _ _ ?_
 refine wp_ret (X2 hf (Xo hf rfl rfl) ?_)
 exact ⟨rfl,hW⟩
end Go.Proofs.YtlfjcmldfbfdbaaGreat
set_option maxRecDepth 4000
namespace Go.Proofs.YtlfjcmldfbfdbaaGreat
open Go.RowKit
theorem Xjx(w0:World)(n:Int)(x:Gt) : Ret Tryz.prog 51 [vi n,.agg #[vi x.k,vi x.a,vi x.b]] w0 (fun v w=>v=.bool (gOk n x)∧Below w0.heap.size w0 w):=by
 refine enter Tryz.func51 rfl 60 rfl rfl ?_
 intro a hf
 have hW:Below w0.heap.size w0 w0:=Below.refl _ _
 refine Zs hf fun _ hK1=>?_
 refine Zf (X0p (zs:=[vi x.k,vi x.a,vi x.b]) rfl rfl) ?_;rintro _ w1 ⟨b2,rfl,hl2,hE,hB2⟩
 have hlo2:=Nat.le_trans hW.size hl2
 replace hW:=btr hW hE
 refine Za rfl ?_
 refine Zt hK1 fun a hf=>?_
 refine wp_seq_k fun _ hK3=>?_
 refine wp_block ?_
 refine wp_seq_k fun _ hK4=>?_
 refine X09 (fun a w=>Fr a 60 [(0,vi n),(3,.pointer (some ⟨b2,0,none⟩)),(5,.bool ((!(inR n 1 5))||(!(inR x.k 1 12))))]∧w1=w) ?_ ?_
 ·refine Zr hf ?_
  refine Zm rfl ?_
  refine Zf (Vc (F91 _ n 1 5) X39) ?_;rintro _ _ ⟨rfl,rfl⟩
  refine Ze (X15 rfl)<|Zm rfl ?_
  refine Zg 9 rfl (fun hg5=>?_) (fun hg5=>?_)
  ·refine Zp ⟨_,_,rfl,rfl,hg5⟩ ?_
   refine Zp ⟨_,_,rfl,rfl,hg5⟩ ?_
   refine Zp ⟨_,_,rfl,rfl,hg5⟩ ?_
   refine Zp ⟨_,_,rfl,rfl,hg5⟩ ?_
   refine Ze (Xc rfl hg5 rfl)<|Za rfl ?_
   refine Zn fun a hf=>?_
   exact ⟨hf.sub ⟨rfl,rfl,X1 rfl (by first|rfl|(simp only [hg5,bs];done)|simp [hg5]),trivial⟩,rfl⟩
  refine Zv ⟨_,_,rfl,rfl,hg5⟩ (Vd rfl X0g 0) ?_
  refine Zv ⟨_,_,rfl,rfl,hg5⟩ (X0 rfl X5 (hB2.at 0)) ?_
  refine Zk ⟨_,_,rfl,rfl,hg5⟩ (Vc (F91 _ x.k 1 12) X39) ?_;rintro _ _ ⟨rfl,rfl⟩
  refine Zv ⟨_,_,rfl,rfl,hg5⟩ (X15 rfl) ?_
  refine Ze (X7 rfl hg5 rfl)<|Za rfl ?_
  refine Zn fun a hf=>?_
  exact ⟨hf.sub ⟨rfl,rfl,X1 rfl (by first|rfl|(simp only [hg5,bs];done)|simp [hg5]),trivial⟩,rfl⟩
 rintro a _ ⟨hf,rfl⟩
 refine hK4 _ _ ?_
 refine Xi hf rfl (fun hc6=>?_) (fun hc6=>?_)
 ·have hc6b:=hc6
  have hn:=X57 hc6
  refine Zs hf fun _ hK7=>?_
  refine Za rfl ?_
  refine Zt hK7 fun a hf=>?_
  refine wp_ret ?_
  refine Xy ?_
  refine X8 ?_
  refine X2 hf (Xo hf rfl rfl) ?_
  exact ⟨by rw [gOk,hn];rfl,hW⟩
 have hc6b:=hc6
 have hy:=X5x hc6
 have hy2:=(Bool.and_eq_true _ _▸hy:inR n 1 5=true∧inR x.k 1 12=true)
 have hnn:=X02.1 hy2.1
 refine Zs hf fun _ hK8=>?_
 refine Ze (Vd rfl X0g 0)<|Ze (X0 rfl X5 (hB2.at 0))<|Ze (X0u rfl rfl)<|Za rfl ?_
 refine Zt hK8 fun a hf=>?_
 refine Xi hf rfl (fun hc9=>?_) (fun hc9=>?_)
 ·have hc9b:=hc9
  have hk:x.k=12:=by simpa using hc9
  refine wp_seq_k fun _ hK10=>?_
  refine X09 (fun a w=>Fr a 60 [(4,.bool ((x.a==0)&&(x.b==0)))]∧w1=w) ?_ ?_
  ·refine Zr hf ?_
   refine Ze (Vd rfl X0t 1)<|Ze (X0 rfl X5 (hB2.at 1))<|Ze (X0u rfl rfl)<|Zm rfl ?_
   refine Zg 22 rfl (fun hg11=>?_) (fun hg11=>?_)
   ·refine Zv ⟨_,_,rfl,rfl,hg11⟩ (Vd rfl X12 2) ?_
    refine Zv ⟨_,_,rfl,rfl,hg11⟩ (X0 rfl X5 (hB2.at 2)) ?_
    refine Zv ⟨_,_,rfl,rfl,hg11⟩ (X0u rfl rfl) ?_
    refine Ze (Xc rfl hg11 rfl)<|Za rfl ?_
    refine Zn fun a hf=>?_
    exact ⟨hf.sub ⟨X1 rfl (by first|rfl|(simp only [hc6b,hc9b,hg11,bs];done)|simp [hc6b,hc9b,hg11]),trivial⟩,rfl⟩
   refine Zp ⟨_,_,rfl,rfl,hg11⟩ ?_
   refine Zp ⟨_,_,rfl,rfl,hg11⟩ ?_
   refine Zp ⟨_,_,rfl,rfl,hg11⟩ ?_
   refine Ze (X7 rfl hg11 rfl)<|Za rfl ?_
   refine Zn fun a hf=>?_
   exact ⟨hf.sub ⟨X1 rfl (by first|rfl|(simp only [hc6b,hc9b,hg11,bs];done)|simp [hc6b,hc9b,hg11]),trivial⟩,rfl⟩
  rintro a _ ⟨hf,rfl⟩
  refine hK10 _ _ ?_
  refine wp_ret ?_
  refine Xy ?_
  refine X8 ?_
  refine X2 hf (Xo hf rfl rfl) ?_
  exact ⟨by rw [gOk,hy,if_pos hk,Bool.true_and],hW⟩
 have hc9b:=hc9
 have hk:¬ x.k=12:=by simpa using hc9
 refine Zs hf fun _ hK12=>?_
 refine Ze (Vd rfl X0g 0)<|Ze (X0 rfl X5 (hB2.at 0)) ?_
 refine Zf (Vc (F99 _ x.k) Xas) ?_;rintro _ _ ⟨rfl,rfl⟩
 refine Za rfl ?_
 refine Zt hK12 fun a hf=>?_
 refine Xi hf rfl (fun hc13=>?_) (fun hc13=>?_)
 ·have hc13b:=hc13
  have hk2:=hc13
  refine wp_seq_k fun _ hK14=>?_
  refine X09 (fun a w=>Fr a 60 [(4,.bool (((inR x.a 0 (n-1))&&(inR x.b 0 (n-1)))&&(x.a != x.b)))]∧w1=w) ?_ ?_
  ·refine Zr hf ?_
   refine Ze (Vd rfl X0t 1)<|Ze (X0 rfl X5 (hB2.at 1))<|Zm rfl<|Ze (X1d rfl rfl (by omega) (by omega)) ?_
   refine Zf (Vc (F91 _ x.a 0 (n-1)) X39) ?_;rintro _ _ ⟨rfl,rfl⟩
   refine Zm rfl ?_
   refine Zg 36 rfl (fun hg15=>?_) (fun hg15=>?_)
   ·refine Zv ⟨_,_,rfl,rfl,hg15⟩ (Vd rfl X12 2) ?_
    refine Zv ⟨_,_,rfl,rfl,hg15⟩ (X0 rfl X5 (hB2.at 2)) ?_
    refine Zv ⟨_,_,rfl,rfl,hg15⟩ (X9 rfl) ?_
    refine Zv ⟨_,_,rfl,rfl,hg15⟩ (X1d rfl rfl (by omega) (by omega)) ?_
    refine Zk ⟨_,_,rfl,rfl,hg15⟩ (Vc (F91 _ x.b 0 (n-1)) X39) ?_;rintro _ _ ⟨rfl,rfl⟩
    refine Ze (Xc rfl hg15 rfl)<|Zm rfl ?_
    refine Zg 43 rfl (fun hg16=>?_) (fun hg16=>?_)
    ·refine Zv ⟨_,_,rfl,rfl,hg16⟩ (Vd rfl X0t 1) ?_
     refine Zv ⟨_,_,rfl,rfl,hg16⟩ (X0 rfl X5 (hB2.at 1)) ?_
     refine Zv ⟨_,_,rfl,rfl,hg16⟩ (Vd rfl X12 2) ?_
     refine Zv ⟨_,_,rfl,rfl,hg16⟩ (X0 rfl X5 (hB2.at 2)) ?_
     refine Zv ⟨_,_,rfl,rfl,hg16⟩ (X2z rfl rfl) ?_
     refine Ze (Xc rfl hg16 rfl)<|Za rfl ?_
     refine Zn fun a hf=>?_
     exact ⟨hf.sub ⟨X1 rfl (by first|rfl|(simp only [hc6b,hc9b,hc13b,hg15,hg16,bs];done)|simp [hc6b,hc9b,hc13b,hg15,hg16]),trivial⟩,rfl⟩
    refine Zp ⟨_,_,rfl,rfl,hg16⟩ ?_
    refine Zp ⟨_,_,rfl,rfl,hg16⟩ ?_
    refine Zp ⟨_,_,rfl,rfl,hg16⟩ ?_
    refine Zp ⟨_,_,rfl,rfl,hg16⟩ ?_
    refine Zp ⟨_,_,rfl,rfl,hg16⟩ ?_
    refine Ze (X7 rfl hg16 rfl)<|Za rfl ?_
    refine Zn fun a hf=>?_
    exact ⟨hf.sub ⟨X1 rfl (by first|rfl|(simp only [hc6b,hc9b,hc13b,hg15,hg16,bs];done)|simp [hc6b,hc9b,hc13b,hg15,hg16]),trivial⟩,rfl⟩
   refine Zp ⟨_,_,rfl,rfl,hg15⟩ ?_
   refine Zp ⟨_,_,rfl,rfl,hg15⟩ ?_
   refine Zp ⟨_,_,rfl,rfl,hg15⟩ ?_
   refine Zp ⟨_,_,rfl,rfl,hg15⟩ ?_
   refine Zp ⟨_,_,rfl,rfl,hg15⟩ ?_
   refine Ze (X7 rfl hg15 rfl)<|Zm rfl<|Zp ⟨_,_,rfl,rfl,rfl⟩ ?_
   refine Zp ⟨_,_,rfl,rfl,rfl⟩ ?_
   refine Zp ⟨_,_,rfl,rfl,rfl⟩ ?_
   refine Zp ⟨_,_,rfl,rfl,rfl⟩ ?_
   refine Zp ⟨_,_,rfl,rfl,rfl⟩ ?_
   refine Ze (X7 rfl rfl rfl)<|Za rfl ?_
   refine Zn fun a hf=>?_
   exact ⟨hf.sub ⟨X1 rfl (by first|rfl|(simp only [hc6b,hc9b,hc13b,hg15,bs];done)|simp [hc6b,hc9b,hc13b,hg15]),trivial⟩,rfl⟩
  rintro a _ ⟨hf,rfl⟩
  refine hK14 _ _ ?_
  refine wp_ret ?_
  refine Xy ?_
  refine X8 ?_
  refine X2 hf (Xo hf rfl rfl) ?_
  exact ⟨by rw [gOk,hy,if_neg hk,if_pos hk2,Bool.true_and],hW⟩
 have hc13b:=hc13
 have hk2:¬ inR x.k 9 11=true:=by rw [hc13];simp
 refine wp_skip ?_
 refine Xf ?_
 refine hK3 _ _ ?_
 refine wp_seq_k fun _ hK17=>?_
 refine X09 (fun a w=>Fr a 60 [(4,.bool ((inR x.a 0 (n-1))&&(x.b==0)))]∧w1=w) ?_ ?_
 ·refine Zr hf ?_
  refine Ze (Vd rfl X0t 1)<|Ze (X0 rfl X5 (hB2.at 1))<|Zm rfl<|Ze (X1d rfl rfl (by omega) (by omega)) ?_
  refine Zf (Vc (F91 _ x.a 0 (n-1)) X39) ?_;rintro _ _ ⟨rfl,rfl⟩
  refine Zm rfl ?_
  refine Zg 55 rfl (fun hg18=>?_) (fun hg18=>?_)
  ·refine Zv ⟨_,_,rfl,rfl,hg18⟩ (Vd rfl X12 2) ?_
   refine Zv ⟨_,_,rfl,rfl,hg18⟩ (X0 rfl X5 (hB2.at 2)) ?_
   refine Zv ⟨_,_,rfl,rfl,hg18⟩ (X0u rfl rfl) ?_
   refine Ze (Xc rfl hg18 rfl)<|Za rfl ?_
   refine Zn fun a hf=>?_
   exact ⟨hf.sub ⟨X1 rfl (by first|rfl|(simp only [hc6b,hc9b,hc13b,hg18,bs];done)|simp [hc6b,hc9b,hc13b,hg18]),trivial⟩,rfl⟩
  refine Zp ⟨_,_,rfl,rfl,hg18⟩ ?_
  refine Zp ⟨_,_,rfl,rfl,hg18⟩ ?_
  refine Zp ⟨_,_,rfl,rfl,hg18⟩ ?_
  refine Ze (X7 rfl hg18 rfl)<|Za rfl ?_
  refine Zn fun a hf=>?_
  exact ⟨hf.sub ⟨X1 rfl (by first|rfl|(simp only [hc6b,hc9b,hc13b,hg18,bs];done)|simp [hc6b,hc9b,hc13b,hg18]),trivial⟩,rfl⟩
 rintro a _ ⟨hf,rfl⟩
 refine hK17 _ _ ?_
 refine wp_ret (X2 hf (Xo hf rfl rfl) ?_)
 exact ⟨by rw [gOk,hy,if_neg hk,if_neg hk2,Bool.true_and],hW⟩
theorem Xpd(w0:World)(Al:Option Addr)(cl:Nat)(l:List Gt)(hr_l:Rd w0 w0.heap.size 24 encG Al l)(kq:FuncId)(pq:List Value)(Fq:FuncF Tryz.prog kq)(q:Gt→Bool)(hq:∀ x w,Below w0.heap.size w0 w→Ret Tryz.prog kq ([gV x]++pq) w (fun v w'=>v=.bool (q x)∧Below w.heap.size w w'))(hln:l.length≤2305843009213693951) : Ret Tryz.prog 178 [.slice Al l.length cl,.func (.func kq) #[] pq.toArray] w0 (fun v w=>∃ i:Int,v=vi i∧decide (0≤i)=l.any q∧Below w0.heap.size w0 w):=by
 refine enter Tryz.func178 rfl 19 rfl rfl ?_
 intro a hf
 have hW:Below w0.heap.size w0 w0:=Below.refl _ _
 refine Zs hf fun _ hK2=>?_
 refine Za rfl ?_
 refine Zt hK2 fun a hf=>?_
 refine wp_seq_k fun _ hK3=>?_
 refine Zs hf fun _ hK4=>?_
 refine Zm rfl<|Ze (X0v rfl Xd)<|Zm rfl ?_
 refine Zt hK4 fun a hf=>?_
 refine wp_block ?_
 refine X0j (σ:=Nat) (fun (k:Nat) (a:Act) (w:World)=>Fr a 19 [(0,.slice Al l.length cl),(1,.func (.func kq) #[] pq.toArray),(7,vi (l.length:Int)),(8,vi (k:Int))]∧(k≤l.length)∧((l.take k).all (fun x=>!q x)=true)∧Below w0.heap.size w0 w) (fun (k:Nat)=>l.length+1-k) 0 ?_ ?_
 ·exact ⟨hf.sub ⟨rfl,rfl,rfl,rfl,trivial⟩,(Nat.zero_le _),(by simp),hW⟩
 rintro k a w1 ⟨hf,hk,hpre,hW⟩
 refine Zs hf fun _ hK5=>?_
 refine Ze (X1k rfl rfl) ?_
 refine Zt hK5 fun a hf=>?_
 refine wp_seq_k fun _ hK6=>?_
 refine Xi hf rfl (fun hc7=>?_) (fun hc7=>?_)
 ·have hc7b:=hc7
  have hc7:=of_decide_eq_true hc7
  obtain ⟨u8,hu8⟩:=Xx (l:=l) (k:=k) (by omega)
  refine wp_skip ?_
  refine hK6 _ _ ?_
  refine wp_seq_k fun _ hK9=>?_
  refine wp_block ?_
  refine Zs hf fun _ hK10=>?_
  refine Zm rfl<|Za rfl ?_
  refine Zt hK10 fun a hf=>?_
  refine Zs hf fun _ hK11=>?_
  refine Zm rfl<|Zm rfl<|Zm rfl ?_
  refine Zi (k:=k) (u:=u8) (enc:=encG) (l:=l) trivial rfl rfl Xd X0a Xb (hr_l.below' hW) hu8 rfl ?_;intro p13 hat12
  refine Ze (Xj (l:=[vi u8.k,vi u8.a,vi u8.b]) rfl X08 hat12 rfl) ?_
  refine Zf (X9o (cs:=pq) (vs:=[.agg #[vi u8.k,vi u8.a,vi u8.b]]) rfl rfl Fq (hq u8 _ hW)) ?_;rintro _ w2 ⟨rfl,hE⟩
  replace hW:=btr hW hE
  refine Zt hK11 fun a hf=>?_
  refine Xi hf rfl (fun hc14=>?_) (fun hc14=>?_)
  ·have hc14b:=hc14
   have hb2:l.any q=true:=X4c hu8 hc14
   refine Zs hf fun _ hK15=>?_
   refine Zm rfl<|Za rfl ?_
   refine Zt hK15 fun a hf=>?_
   refine wp_ret ?_
   refine Xy ?_
   refine X8 ?_
   refine X8 ?_
   refine Xy ?_
   refine X8 ?_
   refine X2 hf (Xo hf rfl rfl) ?_
   exact ⟨_,rfl,by rw [hb2];simp,hW⟩
  have hc14b:=hc14
  have hok:(!q u8)=true:=by revert hc14;cases q u8<;>simp
  refine wp_skip ?_
  refine Xf ?_
  refine hK9 _ _ ?_
  refine Zr hf ?_
  refine Ze (Xv rfl rfl (by omega) (by omega))<|Zm rfl ?_
  refine Zn fun a hf=>?_
  refine Xn ?_
  exact ⟨k+1,⟨hf.sub ⟨rfl,rfl,rfl,rfl,trivial⟩,(by omega),(X2u hpre hu8 hok),hW⟩,(by omega)⟩
 have hc7b:=hc7
 have hc7:=of_decide_eq_false hc7
 refine wp_exit ?_
 refine Xs ?_
 refine Xs ?_
 refine X0h ?_
 refine hK3 _ _ ?_
 refine Zs hf fun _ hK16=>?_
 refine Za rfl ?_
 refine Zt hK16 fun a hf=>?_
 refine wp_ret (X2 hf (Xo hf rfl rfl) ?_)
 have hb2:l.any q=false:=X3p (X2m hpre (by omega))
 exact ⟨_,rfl,by rw [hb2];rfl,hW⟩
theorem Xmv(w0:World)(Al:Option Addr)(cl:Nat)(l:List Gt)(hr_l:Rd w0 w0.heap.size 24 encG Al l)(kq:FuncId)(pq:List Value)(Fq:FuncF Tryz.prog kq)(q:Gt→Bool)(hq:∀ x w,Below w0.heap.size w0 w→Ret Tryz.prog kq ([gV x]++pq) w (fun v w'=>v=.bool (q x)∧Below w.heap.size w w'))(hln:l.length≤2305843009213693951) : Ret Tryz.prog 129 [.slice Al l.length cl,.func (.func kq) #[] pq.toArray] w0 (fun v w=>v=.bool (l.any q)∧Below w0.heap.size w0 w):=by
 refine enter Tryz.func129 rfl 9 rfl rfl ?_
 intro a hf
 have hW:Below w0.heap.size w0 w0:=Below.refl _ _
 refine Zs hf fun _ hK2=>?_
 refine Za rfl ?_
 refine Zt hK2 fun a hf=>?_
 refine Zs hf fun _ hK3=>?_
 refine Zm rfl<|Zm rfl ?_
 refine Zf (Vc (Xpd _ Al cl l (hr_l.below' hW).top kq pq Fq q (fun x w' hE'=>hq x w' (hW.trans (hE'.mono hW.size))) hln) Xkb) ?_;rintro _ w1 ⟨ix,rfl,hix,hE⟩
 replace hW:=btr hW hE
 refine Ze (Xks rfl rfl)<|Za rfl ?_
 refine Zt hK3 fun a hf=>?_
 refine wp_ret (X2 hf (Xo hf rfl rfl) ?_)
 exact ⟨by rw [← hix],hW⟩
theorem Xpb(w0:World)(x:Gt)(n:Int)(ba:Nat)(v1:Value)(hBa:Blk w0 ba 31 [vi n,v1]) : Ret Tryz.prog 130 [.agg #[vi x.k,vi x.a,vi x.b],.pointer (some ⟨ba,0,none⟩)] w0 (fun v w=>v=.bool (!gOk n x)∧Below w0.heap.size w0 w):=by
 have hltba:=hBa.lt
 refine enter Tryz.func130 rfl 9 rfl rfl ?_
 intro a hf
 have hW:Below w0.heap.size w0 w0:=Below.refl _ _
 refine Zs hf fun _ hK1=>?_
 refine Zf (X0p (zs:=[vi x.k,vi x.a,vi x.b]) rfl rfl) ?_;rintro _ w1 ⟨b2,rfl,hl2,hE,hB2⟩
 have hlo2:=Nat.le_trans hW.size hl2
 replace hBa:=hBa.below hE
 replace hW:=btr hW hE
 refine Za rfl ?_
 refine Zt hK1 fun a hf=>?_
 refine Zs hf fun _ hK3=>?_
 refine Ze (Vd rfl X1b 0)<|Ze (X0 rfl X5 (hBa.at 0))<|Ze (Vn X08 hB2) ?_
 refine Zf (Vc (Xjx _ n x) Xcb) ?_;rintro _ w2 ⟨rfl,hE⟩
 replace hBa:=hBa.below hE
 replace hB2:=hB2.below hE
 replace hW:=btr hW hE
 refine Ze (X15 rfl)<|Za rfl ?_
 refine Zt hK3 fun a hf=>?_
 refine wp_ret (X2 hf (Xo hf rfl rfl) ?_)
 exact ⟨rfl,hW⟩
theorem Xp9(w0:World)(x:Gt)(n:Int)(ba:Nat)(hBa:Blk w0 ba 3 [vi n]) : Ret Tryz.prog 188 [.agg #[vi x.k,vi x.a,vi x.b],.pointer (some ⟨ba,0,none⟩)] w0 (fun v w=>v=.bool (!gOk n x)∧Below w0.heap.size w0 w):=by
 have hltba:=hBa.lt
 refine enter Tryz.func188 rfl 8 rfl rfl ?_
 intro a hf
 have hW:Below w0.heap.size w0 w0:=Below.refl _ _
 refine Zs hf fun _ hK1=>?_
 refine Zf (X0p (zs:=[vi x.k,vi x.a,vi x.b]) rfl rfl) ?_;rintro _ w1 ⟨b2,rfl,hl2,hE,hB2⟩
 have hlo2:=Nat.le_trans hW.size hl2
 replace hBa:=hBa.below hE
 replace hW:=btr hW hE
 refine Za rfl ?_
 refine Zt hK1 fun a hf=>?_
 refine Zs hf fun _ hK3=>?_
 refine Ze (X0 rfl X5 (hBa.at 0))<|Ze (Vn X08 hB2) ?_
 refine Zf (Vc (Xjx _ n x) Xcb) ?_;rintro _ w2 ⟨rfl,hE⟩
 replace hBa:=hBa.below hE
 replace hB2:=hB2.below hE
 replace hW:=btr hW hE
 refine Ze (X15 rfl)<|Za rfl ?_
 refine Zt hK3 fun a hf=>?_
 refine wp_ret (X2 hf (Xo hf rfl rfl) ?_)
 exact ⟨rfl,hW⟩
theorem F92(w0:World)(n:Int)(Al:Option Addr)(cl:Nat)(l:List Gt)(hr_l:Rd w0 w0.heap.size 24 encG Al l)(hln:l.length≤2305843009213693951) : Ret Tryz.prog 158 [vi n,.slice Al l.length cl] w0 (fun v w=>v=.bool (!(l.any fun x=>!gOk n x))∧Below w0.heap.size w0 w):=by
 refine enter Tryz.func158 rfl 9 rfl rfl ?_
 intro a hf
 have hW:Below w0.heap.size w0 w0:=Below.refl _ _
 refine Zs hf fun _ hK2=>?_
 refine Zf (X0p (zs:=[vi n]) rfl rfl) ?_;rintro _ w1 ⟨b3,rfl,hl3,hE,hB3⟩
 have hlo3:=Nat.le_trans hW.size hl3
 replace hW:=btr hW hE
 refine Za rfl ?_
 refine Zt hK2 fun a hf=>?_
 refine Zs hf fun _ hK4=>?_
 refine Zm rfl<|Ze (X3n (vs:=[.pointer (some ⟨b3,0,none⟩)]) rfl) ?_
 refine Zf (Vc (Xmv _ Al cl l (hr_l.below' hW).top 188 [.pointer (some ⟨b3,0,none⟩)] Xkc (fun x=>!gOk n x) (fun x w' hE'=>Xp9 w' x n _ (hB3.below hE')) hln) Xfm) ?_;rintro _ w2 ⟨rfl,hE⟩
 replace hB3:=hB3.below hE
 replace hW:=btr hW hE
 refine Ze (X15 rfl)<|Za rfl ?_
 refine Zt hK4 fun a hf=>?_
 refine wp_ret (X2 hf (Xo hf rfl rfl) ?_)
 exact ⟨rfl,hW⟩
theorem F55(w0:World)(c:Cx)(Ac:Option Addr)(cc:Nat)(hr_c:Rd w0 w0.heap.size 24 encG Ac c.gs)(hln:c.gs.length≤2305843009213693951) : Ret Tryz.prog 57 [.agg #[vi c.n,.slice Ac c.gs.length cc]] w0 (fun v w=>v=.bool (cOk c)∧Below w0.heap.size w0 w):=by
 refine enter Tryz.func57 rfl 19 rfl rfl ?_
 intro a hf
 have hW:Below w0.heap.size w0 w0:=Below.refl _ _
 refine Zs hf fun _ hK2=>?_
 refine Zf (X0p (zs:=[vi c.n,.slice Ac c.gs.length cc]) rfl rfl) ?_;rintro _ w1 ⟨b3,rfl,hl3,hE,hB3⟩
 have hlo3:=Nat.le_trans hW.size hl3
 replace hW:=btr hW hE
 refine Za rfl ?_
 refine Zt hK2 fun a hf=>?_
 refine wp_seq_k fun _ hK4=>?_
 refine X09 (fun a w=>Fr a 19 [(2,.bool (((inR c.n 1 5)&&(decide ((c.gs.length:Int)≤400)))&&(!(c.gs.any (fun x=>!gOk c.n x)))))]∧Below w1.heap.size w1 w) ?_ ?_
 ·have hEc:Below w1.heap.size w1 w1:=Below.refl _ _
  refine Zr hf ?_
  refine Ze (Vd rfl X1b 0)<|Ze (X0 rfl X5 (hB3.at 0)) ?_
  refine Zf (Vc (F91 _ c.n 1 5) X39) ?_;rintro _ _ ⟨rfl,rfl⟩
  refine Zm rfl ?_
  refine Zg 6 rfl (fun hg5=>?_) (fun hg5=>?_)
  ·refine Zv ⟨_,_,rfl,rfl,hg5⟩ (Vd rfl Xw 1) ?_
   refine Zv ⟨_,_,rfl,rfl,hg5⟩ (X0 rfl X06 (hB3.at 1)) ?_
   refine Zv ⟨_,_,rfl,rfl,hg5⟩ (X0v rfl Xd) ?_
   refine Zv ⟨_,_,rfl,rfl,hg5⟩ (X64 rfl rfl) ?_
   refine Ze (Xc rfl hg5 rfl)<|Zm rfl ?_
   refine Zg 12 rfl (fun hg6=>?_) (fun hg6=>?_)
   ·refine Zv ⟨_,_,rfl,rfl,hg6⟩ (Vd rfl Xw 1) ?_
    refine Zv ⟨_,_,rfl,rfl,hg6⟩ (X0 rfl X06 (hB3.at 1)) ?_
    refine Zv ⟨_,_,rfl,rfl,hg6⟩ (X3n (vs:=[.pointer (some ⟨b3,0,none⟩)]) rfl) ?_
    refine Zk ⟨_,_,rfl,rfl,hg6⟩ (Vc (Xmv _ Ac cc c.gs (hr_c.below' hW).top 130 [.pointer (some ⟨b3,0,none⟩)] Xlv (fun x=>!gOk c.n x) (fun x w' hE'=>Xpb w' x c.n _ _ (hB3.below hE')) hln) Xfm) ?_;rintro _ w2 ⟨rfl,hE⟩
    replace hB3:=hB3.below hE
    replace hW:=btr hW hE
    replace hEc:=btr hEc hE
    refine Zv ⟨_,_,rfl,rfl,hg6⟩ (X15 rfl) ?_
    refine Ze (Xc rfl hg6 rfl)<|Za rfl ?_
    refine Zn fun a hf=>?_
    have hEE:Below w1.heap.size w1 w2:=hEc
    exact ⟨hf.sub ⟨X1 rfl (by first|rfl|(simp only [hg5,hg6,bs];done)|simp [hg5,hg6]),trivial⟩,hEE⟩
   refine Zp ⟨_,_,rfl,rfl,hg6⟩ ?_
   refine Zp ⟨_,_,rfl,rfl,hg6⟩ ?_
   refine Zp ⟨_,_,rfl,rfl,hg6⟩ ?_
   refine Zp ⟨_,_,rfl,rfl,hg6⟩ ?_
   refine Zp ⟨_,_,rfl,rfl,hg6⟩ ?_
   refine Ze (X7 rfl hg6 rfl)<|Za rfl ?_
   refine Zn fun a hf=>?_
   have hEE:Below w1.heap.size w1 w1:=hEc
   exact ⟨hf.sub ⟨X1 rfl (by first|rfl|(simp only [hg5,hg6,bs];done)|simp [hg5,hg6]),trivial⟩,hEE⟩
  refine Zp ⟨_,_,rfl,rfl,hg5⟩ ?_
  refine Zp ⟨_,_,rfl,rfl,hg5⟩ ?_
  refine Zp ⟨_,_,rfl,rfl,hg5⟩ ?_
  refine Zp ⟨_,_,rfl,rfl,hg5⟩ ?_
  refine Ze (X7 rfl hg5 rfl)<|Zm rfl<|Zp ⟨_,_,rfl,rfl,rfl⟩ ?_
  refine Zp ⟨_,_,rfl,rfl,rfl⟩ ?_
  refine Zp ⟨_,_,rfl,rfl,rfl⟩ ?_
  refine Zp ⟨_,_,rfl,rfl,rfl⟩ ?_
  refine Zp ⟨_,_,rfl,rfl,rfl⟩ ?_
  refine Ze (X7 rfl rfl rfl)<|Za rfl ?_
  refine Zn fun a hf=>?_
  have hEE:Below w1.heap.size w1 w1:=hEc
  exact ⟨hf.sub ⟨X1 rfl (by first|rfl|(simp only [hg5,bs];done)|simp [hg5]),trivial⟩,hEE⟩
 rintro a w3 ⟨hf,hE⟩
 replace hB3:=hB3.below hE
 replace hW:=btr hW hE
 refine hK4 _ _ ?_
 refine wp_ret (X2 hf (Xo hf rfl rfl) ?_)
 exact ⟨by simp [cOk, *],hW⟩
end Go.Proofs.YtlfjcmldfbfdbaaGreat
set_option maxRecDepth 4000
namespace Go.Proofs.YtlfjcmldfbfdbaaGreat
open Go.RowKit
theorem F98(w0:World)(p:Mx)(Ap:Option Addr)(cp:Nat)(hr_p:Rd w0 w0.heap.size 98 encD Ap p.cells)(q:Mx)(Aq:Option Addr)(cq:Nat)(hr_q:Rd w0 w0.heap.size 98 encD Aq q.cells)(hla:p.cells.length≤2305843009213693951)(hlb:q.cells.length≤2305843009213693951) : Ret Tryz.prog 162 [.agg #[vi p.rows,vi p.cols,.slice Ap p.cells.length cp],.agg #[vi q.rows,vi q.cols,.slice Aq q.cells.length cq]] w0 (fun v w=>∃ i:Int,v=.tuple #[vi i,.bool (mOk p&&mOk q&&eqPh p q),.bool (mOk p&&mOk q)]∧Below w0.heap.size w0 w):=by
 refine enter Tryz.func162 rfl 36 rfl rfl ?_
 intro a hf
 have hW:Below w0.heap.size w0 w0:=Below.refl _ _
 refine Zs hf fun _ hK3=>?_
 refine Zf (X0p (zs:=[vi p.rows,vi p.cols,.slice Ap p.cells.length cp]) rfl rfl) ?_;rintro _ w1 ⟨b4,rfl,hl4,hE,hB4⟩
 have hlo4:=Nat.le_trans hW.size hl4
 replace hW:=btr hW hE
 refine Zf (X0p (zs:=[vi q.rows,vi q.cols,.slice Aq q.cells.length cq]) rfl rfl) ?_;rintro _ w2 ⟨b5,rfl,hl5,hE,hB5⟩
 have hne4_5:b4≠b5:=by have:=hB4.lt;omega
 have hlo5:=Nat.le_trans hW.size hl5
 replace hB4:=hB4.below hE
 replace hW:=btr hW hE
 refine Za rfl<|Za rfl<|Za rfl ?_
 refine Zt hK3 fun a hf=>?_
 refine wp_seq_k fun _ hK6=>?_
 refine wp_seq_k fun _ hK7=>?_
 refine X09 (fun a w=>Fr a 36 [(2,.pointer (some ⟨b4,0,none⟩)),(3,.pointer (some ⟨b5,0,none⟩)),(17,.bool ((!(mOk p))||(!(mOk q))))]∧Below w2.heap.size w2 w) ?_ ?_
 ·have hEc:Below w2.heap.size w2 w2:=Below.refl _ _
  refine Zr hf ?_
  refine Ze (Vn X0q hB4) ?_
  refine Zf (Vc (Xgi _ p Ap cp (hr_p.below' hW).top hla) X8c) ?_;rintro _ w3 ⟨rfl,hE⟩
  replace hB4:=hB4.below hE
  replace hB5:=hB5.below hE
  replace hW:=btr hW hE
  replace hEc:=btr hEc hE
  refine Ze (X15 rfl)<|Zm rfl ?_
  refine Zg 13 rfl (fun hg8=>?_) (fun hg8=>?_)
  ·refine Zp ⟨_,_,rfl,rfl,hg8⟩ ?_
   refine Zp ⟨_,_,rfl,rfl,hg8⟩ ?_
   refine Zp ⟨_,_,rfl,rfl,hg8⟩ ?_
   refine Ze (Xc rfl hg8 rfl) ?_
   refine Zn fun a hf=>?_
   have hEE:Below w2.heap.size w2 w3:=hEc
   exact ⟨hf.sub ⟨rfl,rfl,X1 rfl (by first|rfl|(simp only [hg8,bs];done)|simp [hg8]),trivial⟩,hEE⟩
  refine Zv ⟨_,_,rfl,rfl,hg8⟩ (Vn X0q hB5) ?_
  refine Zk ⟨_,_,rfl,rfl,hg8⟩ (Vc (Xgi _ q Aq cq (hr_q.below' hW).top hlb) X8c) ?_;rintro _ w4 ⟨rfl,hE⟩
  replace hB4:=hB4.below hE
  replace hB5:=hB5.below hE
  replace hW:=btr hW hE
  replace hEc:=btr hEc hE
  refine Zv ⟨_,_,rfl,rfl,hg8⟩ (X15 rfl) ?_
  refine Ze (X7 rfl hg8 rfl) ?_
  refine Zn fun a hf=>?_
  have hEE:Below w2.heap.size w2 w4:=hEc
  exact ⟨hf.sub ⟨rfl,rfl,X1 rfl (by first|rfl|(simp only [hg8,bs];done)|simp [hg8]),trivial⟩,hEE⟩
 rintro a w5 ⟨hf,hE⟩
 replace hB4:=hB4.below hE
 replace hB5:=hB5.below hE
 replace hW:=btr hW hE
 refine hK7 _ _ ?_
 refine Xi hf rfl (fun hc9=>?_) (fun hc9=>?_)
 ·have hc9b:=hc9
  have hn:=X57 hc9
  refine Zs hf fun _ hK10=>?_
  refine Za rfl<|Za rfl<|Za rfl ?_
  refine Zt hK10 fun a hf=>?_
  refine wp_ret ?_
  refine X8 ?_
  refine X2 hf (Xm4 hf rfl rfl rfl rfl) ?_
  exact ⟨_,by rw [hn];rfl,hW⟩
 have hc9b:=hc9
 have hy:=X5x hc9
 refine wp_skip ?_
 refine hK6 _ _ ?_
 refine wp_seq_k fun _ hK11=>?_
 refine Zs hf fun _ hK12=>?_
 refine Zm rfl ?_
 refine Zt hK12 fun a hf=>?_
 refine wp_block ?_
 refine X0j (σ:=Nat) (fun (k:Nat) (a:Act) (w:World)=>Fr a 36 [(2,.pointer (some ⟨b4,0,none⟩)),(3,.pointer (some ⟨b5,0,none⟩)),(18,vi (k:Int))]∧(k≤8)∧(∀ j<k,eqPhT p q j=false)∧Blk w b4 38 [vi p.rows,vi p.cols,.slice Ap p.cells.length cp]∧Blk w b5 38 [vi q.rows,vi q.cols,.slice Aq q.cells.length cq]∧Below w0.heap.size w0 w) (fun (k:Nat)=>8-k) 0 ?_ ?_
 ·exact ⟨hf.sub ⟨rfl,rfl,rfl,trivial⟩,(by omega),(fun j hj=>by omega),hB4,hB5,hW⟩
 rintro k a w6 ⟨hf,hk,hall,hB4,hB5,hW⟩
 refine Zs hf fun _ hK13=>?_
 refine Ze (X1k rfl rfl) ?_
 refine Zt hK13 fun a hf=>?_
 refine wp_seq_k fun _ hK14=>?_
 refine Xi hf rfl (fun hc15=>?_) (fun hc15=>?_)
 ·have hc15b:=hc15
  have hc15:=of_decide_eq_true hc15
  have hk8:(k:Int)<8:=hc15
  refine wp_skip ?_
  refine hK14 _ _ ?_
  refine wp_seq_k fun _ hK16=>?_
  refine wp_block ?_
  refine Zs hf fun _ hK17=>?_
  refine Zm rfl<|Za rfl ?_
  refine Zt hK17 fun a hf=>?_
  refine wp_seq_k fun _ hK18=>?_
  refine X09 (fun a w=>∃ b21 A19 c19,Fr a 36 [(2,.pointer (some ⟨b4,0,none⟩)),(3,.pointer (some ⟨b5,0,none⟩)),(7,vi (k:Int)),(8,.pointer (some ⟨b21,0,none⟩)),(9,.bool ((scaleI q (dPow (k:Int))).isSome)),(18,vi (k:Int))]∧w0.heap.size≤b21∧Blk w b21 38 [vi (((scaleI q (dPow (k:Int))).getD mZ).rows),vi (((scaleI q (dPow (k:Int))).getD mZ).cols),.slice A19 (((scaleI q (dPow (k:Int))).getD mZ).cells).length c19]∧b4≠b21∧b5≠b21∧Own w w0.heap.size 98 5 encD A19 c19 (((scaleI q (dPow (k:Int))).getD mZ).cells)∧Below w6.heap.size w6 w) ?_ ?_
  ·have hEc:Below w6.heap.size w6 w6:=Below.refl _ _
   refine Xu none (fun j=>[8].contains j) mixed ?_
   intro w7 hE
   replace hB4:=hB4.below hE
   replace hB5:=hB5.below hE
   replace hW:=btr hW hE
   replace hEc:=btr hEc hE
   refine Yb hf ?_
   refine Ye 0 rfl (Vn X0q hB5)<|Yo 1 rfl (fun _=>X9 rfl) ?_
   have hJc:Below w7.heap.size w7 w7:=Below.refl _ _
   refine Yc [0,1,2,3,4,5,6,7] 2 (fun a w=>∃ b21 A19 c19,Fr a 36 [(2,.pointer (some ⟨b4,0,none⟩)),(3,.pointer (some ⟨b5,0,none⟩)),(7,vi (k:Int)),(8,.pointer (some ⟨b21,0,none⟩)),(18,vi (k:Int)),(26,.agg #[vi (((scaleI q (dPow (k:Int))).getD mZ).rows),vi (((scaleI q (dPow (k:Int))).getD mZ).cols),.slice A19 (((scaleI q (dPow (k:Int))).getD mZ).cells).length c19]),(27,.bool ((scaleI q (dPow (k:Int))).isSome))]∧w0.heap.size≤b21∧Blk w b21 38 [vi 0,vi 0,.slice none 0 0]∧b4≠b21∧b5≠b21∧w7.heap.size≤b21∧w6.heap.size≤b21∧Own w w0.heap.size 98 5 encD A19 c19 (((scaleI q (dPow (k:Int))).getD mZ).cells)∧Below w7.heap.size w7 w) ?_ ?_
   ·rintro a w8 ⟨b21,A19,c19,hf,hlo21,hB21,hne4_21,hne5_21,hlj21,hlc21,ho19,hE⟩
    clear hJc
    have hJc:=hE
    replace hB4:=hB4.below hE
    replace hB5:=hB5.below hE
    replace hW:=btr hW hE
    replace hEc:=btr hEc hE
    refine Yb hf ?_
    refine Y1 8 ?_
    refine Yh rfl trivial rfl (Vw [vi (((scaleI q (dPow (k:Int))).getD mZ).rows),vi (((scaleI q (dPow (k:Int))).getD mZ).cols),.slice A19 (((scaleI q (dPow (k:Int))).getD mZ).cells).length c19] X18 hB21) ?_;rintro _ w9 ⟨ho,hb⟩
    have hold:=hB21
    replace hB4:=hB4.only ho (by omega)
    replace hB5:=hB5.only ho (by omega)
    replace ho19:=ho19.onlyT ho hold rfl
    replace hEc:=Below.only hEc ho hlc21
    replace hJc:=Below.only hJc ho hlj21
    replace hW:=Below.only hW ho hlo21
    clear hold
    have hB21:=hb
    clear hb ho
    refine Yo 9 rfl (fun _=>X0x rfl) ?_
    refine Yd fun a hf=>?_
    have hEE:Below w6.heap.size w6 w9:=hEc
    exact ⟨b21,A19,c19,hf.sub ⟨rfl,rfl,rfl,rfl,rfl,rfl,trivial⟩,hlo21,hB21,hne4_21,hne5_21,ho19,hEE⟩
   intro hJ19
   refine Yc [0,1,2,7] 6 (fun a w=>∃ b23,Fr a 36 [(2,.pointer (some ⟨b4,0,none⟩)),(3,.pointer (some ⟨b5,0,none⟩)),(7,vi (k:Int)),(8,.pointer (some ⟨b23,0,none⟩)),(18,vi (k:Int)),(22,.agg #[vi q.rows,vi q.cols,.slice Aq q.cells.length cq]),(24,.agg #[vi ((dPow (k:Int)).num.a),vi ((dPow (k:Int)).num.b),vi ((dPow (k:Int)).num.c),vi ((dPow (k:Int)).num.d),vi ((dPow (k:Int)).exp)])]∧w0.heap.size≤b23∧Blk w b23 38 [vi 0,vi 0,.slice none 0 0]∧b4≠b23∧b5≠b23∧w7.heap.size≤b23∧w6.heap.size≤b23∧Below w7.heap.size w7 w) ?_ ?_
   ·rintro a w10 ⟨b23,hf,hlo23,hB23,hne4_23,hne5_23,hlj23,hlc23,hE⟩
    clear hJc
    have hJc:=hE
    replace hB4:=hB4.below hE
    replace hB5:=hB5.below hE
    replace hW:=btr hW hE
    replace hEc:=btr hEc hE
    refine Yb hf ?_
    refine Y1 3 ?_
    refine Yk rfl trivial (Vc (Xni _ q Aq cq (hr_q.below' hW).top (dPow (k:Int)) hlb) Xez) (fun _ _ ⟨A23,c23,_,ho23,hE⟩=>hE) ?_;rintro _ w11 ⟨A23,c23,rfl,ho23,hE⟩
    replace ho23:=ho23.lower hW.size
    replace hB4:=hB4.below hE
    replace hB5:=hB5.below hE
    replace hB23:=hB23.below hE
    replace hW:=btr hW hE
    replace hEc:=btr hEc hE
    replace hJc:=btr hJc hE
    refine Yo 4 rfl (fun _=>X9 rfl)<|Yo 5 rfl (fun _=>X3 (vs:=[.agg #[vi (((scaleI q (dPow (k:Int))).getD mZ).rows),vi (((scaleI q (dPow (k:Int))).getD mZ).cols),.slice A23 (((scaleI q (dPow (k:Int))).getD mZ).cells).length c23],.bool ((scaleI q (dPow (k:Int))).isSome)]) rfl rfl)<|Yo 6 rfl (fun _=>X3 (vs:=[.agg #[vi (((scaleI q (dPow (k:Int))).getD mZ).rows),vi (((scaleI q (dPow (k:Int))).getD mZ).cols),.slice A23 (((scaleI q (dPow (k:Int))).getD mZ).cells).length c23],.bool ((scaleI q (dPow (k:Int))).isSome)]) rfl rfl) ?_
    exact fun a hf=>hJ19 _ a _ rfl ⟨b23,A23,c23,hf.sub ⟨rfl,rfl,rfl,rfl,rfl,rfl,rfl,trivial⟩,hlo23,hB23,hne4_23,hne5_23,hlj23,hlc23,ho23,hJc⟩
   intro hJ21
   refine Y2 2 7 ?_ ?_
   ·refine Yk rfl trivial (Vc (Xb2 _ (k:Int) (X02.2 ⟨by omega,by omega⟩)) X4b) (fun _ _ ⟨_,hE⟩=>hE) ?_;rintro _ w12 ⟨rfl,hE⟩
    replace hB4:=hB4.below hE
    replace hB5:=hB5.below hE
    replace hW:=btr hW hE
    replace hEc:=btr hEc hE
    replace hJc:=btr hJc hE
    refine Y2 3 7 ?_ ?_
    ·refine Yk rfl trivial (Vc (Xni _ q Aq cq (hr_q.below' hW).top (dPow (k:Int)) hlb) Xez) (fun _ _ ⟨A24,c24,_,ho24,hE⟩=>hE) ?_;rintro _ w13 ⟨A24,c24,rfl,ho24,hE⟩
     replace ho24:=ho24.lower hW.size
     replace hB4:=hB4.below hE
     replace hB5:=hB5.below hE
     replace hW:=btr hW hE
     replace hEc:=btr hEc hE
     replace hJc:=btr hJc hE
     refine Yo 4 rfl (fun _=>X9 rfl)<|Yo 5 rfl (fun _=>X3 (vs:=[.agg #[vi (((scaleI q (dPow (k:Int))).getD mZ).rows),vi (((scaleI q (dPow (k:Int))).getD mZ).cols),.slice A24 (((scaleI q (dPow (k:Int))).getD mZ).cells).length c24],.bool ((scaleI q (dPow (k:Int))).isSome)]) rfl rfl)<|Yo 6 rfl (fun _=>X3 (vs:=[.agg #[vi (((scaleI q (dPow (k:Int))).getD mZ).rows),vi (((scaleI q (dPow (k:Int))).getD mZ).cols),.slice A24 (((scaleI q (dPow (k:Int))).getD mZ).cells).length c24],.bool ((scaleI q (dPow (k:Int))).isSome)]) rfl rfl) ?_
     refine Y1 7 ?_
     refine Yk rfl trivial (Xa (zs:=[vi 0,vi 0,.slice none 0 0]) X1y rfl) (fun _ _ ⟨_,_,_,h,_⟩=>h) ?_;rintro _ w14 ⟨b26,rfl,hl26,hE,hB26⟩
     have hne4_26:b4≠b26:=by have:=hB4.lt;omega
     have hne5_26:b5≠b26:=by have:=hB5.lt;omega
     have hlo26:=Nat.le_trans hW.size hl26
     have hlc26:=Nat.le_trans hEc.size hl26
     have hlj26:=Nat.le_trans hJc.size hl26
     replace hB4:=hB4.below hE
     replace hB5:=hB5.below hE
     replace ho24:=ho24.below hE
     replace hW:=btr hW hE
     replace hEc:=btr hEc hE
     replace hJc:=btr hJc hE
     exact fun a hf=>hJ19 _ a _ rfl ⟨b26,A24,c24,hf.sub ⟨rfl,rfl,rfl,rfl,rfl,rfl,rfl,trivial⟩,hlo26,hB26,hne4_26,hne5_26,hlj26,hlc26,ho24,hJc⟩
    refine Yk rfl trivial (Xa (zs:=[vi 0,vi 0,.slice none 0 0]) X1y rfl) (fun _ _ ⟨_,_,_,h,_⟩=>h) ?_;rintro _ w15 ⟨b28,rfl,hl28,hE,hB28⟩
    have hne4_28:b4≠b28:=by have:=hB4.lt;omega
    have hne5_28:b5≠b28:=by have:=hB5.lt;omega
    have hlo28:=Nat.le_trans hW.size hl28
    have hlc28:=Nat.le_trans hEc.size hl28
    have hlj28:=Nat.le_trans hJc.size hl28
    replace hB4:=hB4.below hE
    replace hB5:=hB5.below hE
    replace hW:=btr hW hE
    replace hEc:=btr hEc hE
    replace hJc:=btr hJc hE
    exact fun a hf=>hJ21 _ a _ rfl ⟨b28,hf.sub ⟨rfl,rfl,rfl,rfl,rfl,rfl,rfl,trivial⟩,hlo28,hB28,hne4_28,hne5_28,hlj28,hlc28,hJc⟩
   refine Yk rfl trivial (Xa (zs:=[vi 0,vi 0,.slice none 0 0]) X1y rfl) (fun _ _ ⟨_,_,_,h,_⟩=>h) ?_;rintro _ w16 ⟨b30,rfl,hl30,hE,hB30⟩
   have hne4_30:b4≠b30:=by have:=hB4.lt;omega
   have hne5_30:b5≠b30:=by have:=hB5.lt;omega
   have hlo30:=Nat.le_trans hW.size hl30
   have hlc30:=Nat.le_trans hEc.size hl30
   have hlj30:=Nat.le_trans hJc.size hl30
   replace hB4:=hB4.below hE
   replace hB5:=hB5.below hE
   replace hW:=btr hW hE
   replace hEc:=btr hEc hE
   replace hJc:=btr hJc hE
   refine Y1 2 ?_
   refine Yk rfl trivial (Vc (Xb2 _ (k:Int) (X02.2 ⟨by omega,by omega⟩)) X4b) (fun _ _ ⟨_,hE⟩=>hE) ?_;rintro _ w17 ⟨rfl,hE⟩
   replace hB4:=hB4.below hE
   replace hB5:=hB5.below hE
   replace hB30:=hB30.below hE
   replace hW:=btr hW hE
   replace hEc:=btr hEc hE
   replace hJc:=btr hJc hE
   exact fun a hf=>hJ21 _ a _ rfl ⟨b30,hf.sub ⟨rfl,rfl,rfl,rfl,rfl,rfl,rfl,trivial⟩,hlo30,hB30,hne4_30,hne5_30,hlj30,hlc30,hJc⟩
  rintro a w18 ⟨b21,A19,c19,hf,hlo21,hB21,hne4_21,hne5_21,ho19,hE⟩
  replace hB4:=hB4.below hE
  replace hB5:=hB5.below hE
  replace hW:=btr hW hE
  refine hK18 _ _ ?_
  refine wp_seq_k fun _ hK31=>?_
  refine X09 (fun a w=>Fr a 36 [(2,.pointer (some ⟨b4,0,none⟩)),(3,.pointer (some ⟨b5,0,none⟩)),(7,vi (k:Int)),(18,vi (k:Int)),(33,.bool (((scaleI q (dPow (k:Int))).isSome)&&(decide (p.rows=((scaleI q (dPow (k:Int))).getD mZ).rows)&&decide (p.cols=((scaleI q (dPow (k:Int))).getD mZ).cols)&&decide (p.cells=((scaleI q (dPow (k:Int))).getD mZ).cells))))]∧Below w18.heap.size w18 w) ?_ ?_
  ·have hEc:Below w18.heap.size w18 w18:=Below.refl _ _
   refine Zr hf ?_
   refine Zm rfl<|Zm rfl ?_
   refine Zg 29 rfl (fun hg32=>?_) (fun hg32=>?_)
   ·refine Zv ⟨_,_,rfl,rfl,hg32⟩ (Vn X0q hB4) ?_
    refine Zv ⟨_,_,rfl,rfl,hg32⟩ (Vn X0q hB21) ?_
    refine Zk ⟨_,_,rfl,rfl,hg32⟩ (Vc (Xon _ p Ap cp (hr_p.below' hW).top ((scaleI q (dPow (k:Int))).getD mZ) A19 c19 ho19.rd.top hla) Xlw) ?_;rintro _ w19 ⟨rfl,hE⟩
    replace hB4:=hB4.below hE
    replace hB5:=hB5.below hE
    replace hB21:=hB21.below hE
    replace ho19:=ho19.below hE
    replace hW:=btr hW hE
    replace hEc:=btr hEc hE
    refine Ze (Xc rfl hg32 rfl) ?_
    refine Zn fun a hf=>?_
    have hEE:Below w18.heap.size w18 w19:=hEc
    exact ⟨hf.sub ⟨rfl,rfl,rfl,rfl,X1 rfl (by first|rfl|(simp only [hc9b,hc15b,hg32,bs];done)|simp [hc9b,hc15b,hg32]),trivial⟩,hEE⟩
   refine Zp ⟨_,_,rfl,rfl,hg32⟩ ?_
   refine Zp ⟨_,_,rfl,rfl,hg32⟩ ?_
   refine Zp ⟨_,_,rfl,rfl,hg32⟩ ?_
   refine Ze (X7 rfl hg32 rfl) ?_
   refine Zn fun a hf=>?_
   have hEE:Below w18.heap.size w18 w18:=hEc
   exact ⟨hf.sub ⟨rfl,rfl,rfl,rfl,X1 rfl (by first|rfl|(simp only [hc9b,hc15b,hg32,bs];done)|simp [hc9b,hc15b,hg32]),trivial⟩,hEE⟩
  rintro a w20 ⟨hf,hE⟩
  replace hB4:=hB4.below hE
  replace hB5:=hB5.below hE
  replace hB21:=hB21.below hE
  replace ho19:=ho19.below hE
  replace hW:=btr hW hE
  refine hK31 _ _ ?_
  refine Xi hf rfl (fun hc33=>?_) (fun hc33=>?_)
  ·have hc33b:=hc33
   have hT:eqPhT p q k=true:=hc33
   refine Zs hf fun _ hK34=>?_
   refine Zm rfl<|Za rfl<|Za rfl<|Za rfl ?_
   refine Zt hK34 fun a hf=>?_
   refine wp_ret ?_
   refine Xy ?_
   refine X8 ?_
   refine X8 ?_
   refine Xy ?_
   refine X8 ?_
   refine X2 hf (Xm4 hf rfl rfl rfl rfl) ?_
   exact ⟨_,by rw [hy,Bool.true_and,eqPh,X8p (by omega) hT],hW⟩
  have hc33b:=hc33
  have hT:eqPhT p q k=false:=hc33
  refine wp_skip ?_
  refine Xf ?_
  refine hK16 _ _ ?_
  refine Zr hf ?_
  refine Ze (Xv rfl rfl (by omega) (by omega))<|Zm rfl ?_
  refine Zn fun a hf=>?_
  refine Xn ?_
  exact ⟨k+1,⟨hf.sub ⟨rfl,rfl,rfl,trivial⟩,(by omega),(fun j hj=>by rcases Nat.lt_or_ge j k with h9|h9;exact hall j h9;obtain rfl:j=k:=(by omega);exact hT),hB4,hB5,hW⟩,(by omega)⟩
 have hc15b:=hc15
 have hc15:=of_decide_eq_false hc15
 refine wp_exit ?_
 refine Xs ?_
 refine Xs ?_
 refine X0h ?_
 refine hK11 _ _ ?_
 refine Zs hf fun _ hK35=>?_
 refine Za rfl<|Za rfl<|Za rfl ?_
 refine Zt hK35 fun a hf=>?_
 refine wp_ret (X2 hf (Xm4 hf rfl rfl rfl rfl) ?_)
 exact ⟨_,by rw [hy,Bool.true_and,eqPh,X87 (fun j hj=>hall j (by omega))],hW⟩
end Go.Proofs.YtlfjcmldfbfdbaaGreat
set_option maxRecDepth 4000
namespace Go.Proofs.YtlfjcmldfbfdbaaGreat
open Go.RowKit
theorem Xi7(w0:World)(bV:Nat)(f:Bool)(hBV:Blk w0 bV 142 [.bool f])(x:Rg) : Ret Tryz.prog 199 [.pointer (some ⟨bV,0,none⟩),.agg #[vi x.a,vi x.b,vi x.c,vi x.d]] w0 (fun v w=>v=rV (sRing x)∧Kept bV w0.heap.size w0 w∧Blk w bV 142 [.bool (f||!rOk x)]):=by
 have hltV:=hBV.lt
 refine enter Tryz.func199 rfl 13 rfl rfl ?_
 intro a hf
 have hW:Kept bV w0.heap.size w0 w0:=Kept.refl _ _ _
 refine Zs hf fun _ hK1=>?_
 refine Zf (X0p (zs:=[vi x.a,vi x.b,vi x.c,vi x.d]) rfl rfl) ?_;rintro _ w1 ⟨b2,rfl,hl2,hE,hB2⟩
 have hlo2:=Nat.le_trans hW.size hl2
 replace hBV:=hBV.below hE
 replace hW:=ktr hW hE
 refine Zf (Xa (zs:=[vi 0,vi 0,vi 0,vi 0]) X2a rfl) ?_;rintro _ w2 ⟨b3,rfl,hl3,hE,hB3⟩
 have hne2_3:b2≠b3:=by have:=hB2.lt;omega
 have hlo3:=Nat.le_trans hW.size hl3
 replace hBV:=hBV.below hE
 replace hB2:=hB2.below hE
 replace hW:=ktr hW hE
 refine Zt hK1 fun a hf=>?_
 refine wp_seq_k fun _ hK4=>?_
 refine Zs hf fun _ hK5=>?_
 refine Ze (Vn X05 hB2) ?_
 refine Zf (Vc (Xpa _ x) Xkv) ?_;rintro _ w3 ⟨rfl,hE⟩
 replace hBV:=hBV.below hE
 replace hB2:=hB2.below hE
 replace hB3:=hB3.below hE
 replace hW:=ktr hW hE
 refine Ze (X15 rfl) ?_
 refine Zt hK5 fun a hf=>?_
 refine Xi hf rfl (fun hc6=>?_) (fun hc6=>?_)
 ·have hc6b:=hc6
  have ho:rOk x=false:=by revert hc6;cases rOk x<;>simp
  refine Zs hf fun _ hK7=>?_
  refine Zm rfl<|Ze (X38 rfl)<|Ze (Vd rfl X4p 0) ?_
  refine Zo (X4o (vs:=[.bool true]) (l':=[.bool true]) rfl rfl Xn4 hBV rfl rfl rfl rfl rfl) ?_;rintro _ w4 ⟨ho,hb⟩
  have hold:=hBV
  replace hB2:=hB2.only ho (Blk.ne hB2 hold rfl)
  replace hB3:=hB3.only ho (Blk.ne hB3 hold rfl)
  replace hW:=hW.self ho
  clear hold
  have hBV:=hb
  clear hb ho
  refine Zt hK7 fun a hf=>?_
  refine Zs hf fun _ hK8=>?_
  refine Ze (Xh (ps:=[]) (cs:=[vi 0,vi 0,vi 0,vi 0]) rfl (fun _=>by first|rfl|kernel_rfl)) ?_
  refine Zo (Vw [vi 0,vi 0,vi 0,vi 0] X1a hB3) ?_;rintro _ w5 ⟨ho,hb⟩
  have hold:=hB3
  replace hBV:=hBV.only ho (Blk.ne hBV hold rfl)
  replace hW:=Kept.only hW ho hlo3
  clear hold
  have hB3:=hb
  clear hb ho
  refine Zt hK8 fun a hf=>?_
  refine wp_ret ?_
  refine X8 ?_
  refine X2 hf (Xo hf rfl (ResV.cellN (l:=[vi 0,vi 0,vi 0,vi 0]) rfl X05 (hB3.at 0) rfl)) ?_
  exact ⟨by simp [sRing,ho],hW,by simpa [ho] using hBV⟩
 have hc6b:=hc6
 have ho:rOk x=true:=by revert hc6;cases rOk x<;>simp
 refine wp_skip ?_
 refine hK4 _ _ ?_
 refine Zs hf fun _ hK9=>?_
 refine Ze (Vn X05 hB2) ?_
 refine Zo (Vw [vi x.a,vi x.b,vi x.c,vi x.d] X1a hB3) ?_;rintro _ w6 ⟨ho,hb⟩
 have hold:=hB3
 replace hBV:=hBV.only ho (Blk.ne hBV hold rfl)
 replace hB2:=hB2.only ho (by omega)
 replace hW:=Kept.only hW ho hlo3
 clear hold
 have hB3:=hb
 clear hb ho
 refine Zt hK9 fun a hf=>?_
 refine wp_ret (X2 hf (Xo hf rfl (ResV.cellN (l:=[vi x.a,vi x.b,vi x.c,vi x.d]) rfl X05 (hB3.at 0) rfl)) ?_)
 exact ⟨by simp [sRing,ho],hW,by simpa [ho] using hBV⟩
theorem Xov(w0:World)(bV:Nat)(f:Bool)(hBV:Blk w0 bV 142 [.bool f])(x:Dy)(y:Dy)(hx:0≤x.exp∧x.exp≤60)(hy:0≤y.exp∧y.exp≤60) : Ret Tryz.prog 177 [.pointer (some ⟨bV,0,none⟩),.agg #[vi x.num.a,vi x.num.b,vi x.num.c,vi x.num.d,vi x.exp],.agg #[vi y.num.a,vi y.num.b,vi y.num.c,vi y.num.d,vi y.exp]] w0 (fun v w=>v=dV ((sMul f x y).2)∧Kept bV w0.heap.size w0 w∧Blk w bV 142 [.bool ((sMul f x y).1)]):=by
 have hltV:=hBV.lt
 refine enter Tryz.func177 rfl 30 rfl rfl ?_
 intro a hf
 have hW:Kept bV w0.heap.size w0 w0:=Kept.refl _ _ _
 refine Zs hf fun _ hK1=>?_
 refine Zf (X0p (zs:=[vi x.num.a,vi x.num.b,vi x.num.c,vi x.num.d,vi x.exp]) rfl rfl) ?_;rintro _ w1 ⟨b2,rfl,hl2,hE,hB2⟩
 have hlo2:=Nat.le_trans hW.size hl2
 replace hBV:=hBV.below hE
 replace hW:=ktr hW hE
 refine Zf (X0p (zs:=[vi y.num.a,vi y.num.b,vi y.num.c,vi y.num.d,vi y.exp]) rfl rfl) ?_;rintro _ w2 ⟨b3,rfl,hl3,hE,hB3⟩
 have hne2_3:b2≠b3:=by have:=hB2.lt;omega
 have hlo3:=Nat.le_trans hW.size hl3
 replace hBV:=hBV.below hE
 replace hB2:=hB2.below hE
 replace hW:=ktr hW hE
 refine Zf (Xa (zs:=[vi 0,vi 0,vi 0,vi 0,vi 0]) X1n rfl) ?_;rintro _ w3 ⟨b4,rfl,hl4,hE,hB4⟩
 have hne2_4:b2≠b4:=by have:=hB2.lt;omega
 have hne3_4:b3≠b4:=by have:=hB3.lt;omega
 have hlo4:=Nat.le_trans hW.size hl4
 replace hBV:=hBV.below hE
 replace hB2:=hB2.below hE
 replace hB3:=hB3.below hE
 replace hW:=ktr hW hE
 refine Zt hK1 fun a hf=>?_
 refine wp_seq_k fun _ hK5=>?_
 refine Zs hf fun _ hK6=>?_
 refine Ze (Vd rfl X1g 4)<|Ze (X0 rfl X5 (hB2.at 4))<|Ze (Vd rfl X1g 4)<|Ze (X0 rfl X5 (hB3.at 4))<|Ze (Xv rfl rfl (by omega) (by omega)) ?_
 refine Ze (X3d rfl rfl) ?_
 refine Zt hK6 fun a hf=>?_
 refine Xi hf rfl (fun hc7=>?_) (fun hc7=>?_)
 ·have hc7b:=hc7
  have hc7:=of_decide_eq_true hc7
  have hm:60<x.exp+y.exp:=hc7
  refine Zs hf fun _ hK8=>?_
  refine Zm rfl<|Ze (X38 rfl)<|Ze (Vd rfl X4p 0) ?_
  refine Zo (X4o (vs:=[.bool true]) (l':=[.bool true]) rfl rfl Xn4 hBV rfl rfl rfl rfl rfl) ?_;rintro _ w4 ⟨ho,hb⟩
  have hold:=hBV
  replace hB2:=hB2.only ho (Blk.ne hB2 hold rfl)
  replace hB3:=hB3.only ho (Blk.ne hB3 hold rfl)
  replace hB4:=hB4.only ho (Blk.ne hB4 hold rfl)
  replace hW:=hW.self ho
  clear hold
  have hBV:=hb
  clear hb ho
  refine Zt hK8 fun a hf=>?_
  refine Zs hf fun _ hK9=>?_
  refine Ze (Xh (ps:=[]) (cs:=[vi 0,vi 0,vi 0,vi 0,vi 0]) rfl (fun _=>by first|rfl|kernel_rfl)) ?_
  refine Zo (Vw [vi 0,vi 0,vi 0,vi 0,vi 0] Xr hB4) ?_;rintro _ w5 ⟨ho,hb⟩
  have hold:=hB4
  replace hBV:=hBV.only ho (Blk.ne hBV hold rfl)
  replace hW:=Kept.only hW ho hlo4
  clear hold
  have hB4:=hb
  clear hb ho
  refine Zt hK9 fun a hf=>?_
  refine wp_ret ?_
  refine X8 ?_
  refine X2 hf (Xo hf rfl (ResV.cellN (l:=[vi 0,vi 0,vi 0,vi 0,vi 0]) rfl Xg (hB4.at 0) rfl)) ?_
  exact ⟨by rw [sMul,if_pos hm];rfl,hW,by rw [sMul,if_pos hm];exact hBV⟩
 have hc7b:=hc7
 have hc7:=of_decide_eq_false hc7
 have hm:¬ 60<x.exp+y.exp:=hc7
 refine wp_skip ?_
 refine hK5 _ _ ?_
 refine wp_seq_k fun _ hK10=>?_
 refine Xu (some bV) (fun j=>[13].contains j) mixed ?_
 intro w6 hE
 replace hBV:=hBV.below hE
 replace hB2:=hB2.below hE
 replace hB3:=hB3.below hE
 replace hB4:=hB4.below hE
 replace hW:=ktr hW hE
 refine Yb hf ?_
 refine Yo 0 rfl (fun _=>X9 rfl)<|Yo 1 rfl (fun _=>Vd rfl X1r 0) ?_
 refine Yw 2 rfl trivial (fun w1 h1=>Xj (l:=[vi x.num.a,vi x.num.b,vi x.num.c,vi x.num.d]) rfl X05 (((hB2.only h1 (Blk.ne hB2 hBV rfl)).at 0).take 4) rfl) ?_
 refine Yo 3 rfl (fun _=>Vd rfl X1r 0) ?_
 refine Yw 4 rfl trivial (fun w1 h1=>Xj (l:=[vi y.num.a,vi y.num.b,vi y.num.c,vi y.num.d]) rfl X05 (((hB3.only h1 (Blk.ne hB3 hBV rfl)).at 0).take 4) rfl) ?_
 refine Yo 7 rfl (fun _=>Vd rfl X1g 4) ?_
 refine Yw 8 rfl trivial (fun w1 h1=>X0 rfl X5 ((hB2.only h1 (Blk.ne hB2 hBV rfl)).at 4)) ?_
 refine Yo 9 rfl (fun _=>Vd rfl X1g 4) ?_
 refine Yw 10 rfl trivial (fun w1 h1=>X0 rfl X5 ((hB3.only h1 (Blk.ne hB3 hBV rfl)).at 4)) ?_
 refine Yo 11 rfl (fun _=>Xv rfl rfl (by omega) (by omega)) ?_
 refine Y1 5 ?_
 refine Yf rfl trivial (EfW.mono (Vc (Xny _ x.num y.num) Xlm) (fun _ _ h=>⟨fun _=>by obtain ⟨rfl,hE⟩:=h;exact Keep.of_below hE,h⟩)) ?_;rintro _ w7 ⟨rfl,hE⟩
 replace hBV:=hBV.below hE
 replace hB2:=hB2.below hE
 replace hB3:=hB3.below hE
 replace hB4:=hB4.below hE
 replace hW:=ktr hW hE
 refine Y1 6 ?_
 refine Yf rfl trivial (EfW.mono (Vc (Xi7 _ bV f hBV (rMul x.num y.num)) X9s) (fun _ _ h=>⟨fun _=>by obtain ⟨rfl,hK,hbn⟩:=h;exact hK.keep,h⟩)) ?_;rintro _ w8 ⟨rfl,hK,hbn⟩
 obtain ⟨wm,hO,hm,hE⟩:=hK.mid;clear hm
 have hold:=hBV
 replace hB2:=hB2.only hO (Blk.ne hB2 hold rfl)
 replace hB3:=hB3.only hO (Blk.ne hB3 hold rfl)
 replace hB4:=hB4.only hO (Blk.ne hB4 hold rfl)
 replace hW:=hW.self hO
 replace hB2:=hB2.below hE
 replace hB3:=hB3.below hE
 replace hB4:=hB4.below hE
 replace hW:=ktr hW hE
 clear hold hE hO hK;replace hBV:=hbn;clear hbn
 refine Y1 12 ?_
 refine Yf rfl trivial (EfW.mono (Vc (Xmq _ (sRing (rMul x.num y.num)) (x.exp+y.exp) (by omega)) Xev) (fun _ _ h=>⟨fun _=>by obtain ⟨rfl,hE⟩:=h;exact Keep.of_below hE,h⟩)) ?_;rintro _ w9 ⟨rfl,hE⟩
 replace hBV:=hBV.below hE
 replace hB2:=hB2.below hE
 replace hB3:=hB3.below hE
 replace hB4:=hB4.below hE
 replace hW:=ktr hW hE
 refine Y1 13 ?_
 refine Yh rfl trivial rfl (Vw [vi ((dLow (sRing (rMul x.num y.num)) (x.exp+y.exp)).num.a),vi ((dLow (sRing (rMul x.num y.num)) (x.exp+y.exp)).num.b),vi ((dLow (sRing (rMul x.num y.num)) (x.exp+y.exp)).num.c),vi ((dLow (sRing (rMul x.num y.num)) (x.exp+y.exp)).num.d),vi ((dLow (sRing (rMul x.num y.num)) (x.exp+y.exp)).exp)] Xr hB4) ?_;rintro _ w10 ⟨ho,hb⟩
 have hold:=hB4
 replace hBV:=hBV.only ho (Blk.ne hBV hold rfl)
 replace hB2:=hB2.only ho (by omega)
 replace hB3:=hB3.only ho (by omega)
 replace hW:=Kept.only hW ho hlo4
 clear hold
 have hB4:=hb
 clear hb ho
 refine Yd fun a hf=>?_
 refine hK10 _ _ ?_
 refine wp_ret (X2 hf (Xo hf rfl (ResV.cellN (l:=[vi ((dLow (sRing (rMul x.num y.num)) (x.exp+y.exp)).num.a),vi ((dLow (sRing (rMul x.num y.num)) (x.exp+y.exp)).num.b),vi ((dLow (sRing (rMul x.num y.num)) (x.exp+y.exp)).num.c),vi ((dLow (sRing (rMul x.num y.num)) (x.exp+y.exp)).num.d),vi ((dLow (sRing (rMul x.num y.num)) (x.exp+y.exp)).exp)]) rfl Xg (hB4.at 0) rfl)) ?_)
 exact ⟨by rw [sMul,if_neg hm],hW,by rw [sMul,if_neg hm];exact hBV⟩
theorem Xou(w0:World)(bV:Nat)(f:Bool)(hBV:Blk w0 bV 142 [.bool f])(x:Dy)(y:Dy)(hx:0≤x.exp∧x.exp≤60)(hy:0≤y.exp∧y.exp≤60) : Ret Tryz.prog 176 [.pointer (some ⟨bV,0,none⟩),.agg #[vi x.num.a,vi x.num.b,vi x.num.c,vi x.num.d,vi x.exp],.agg #[vi y.num.a,vi y.num.b,vi y.num.c,vi y.num.d,vi y.exp]] w0 (fun v w=>v=dV ((sAdd f x y).2)∧Kept bV w0.heap.size w0 w∧Blk w bV 142 [.bool ((sAdd f x y).1)]):=by
 have hltV:=hBV.lt
 refine enter Tryz.func176 rfl 45 rfl rfl ?_
 intro a hf
 have hW:Kept bV w0.heap.size w0 w0:=Kept.refl _ _ _
 refine Zs hf fun _ hK1=>?_
 refine Zf (X0p (zs:=[vi x.num.a,vi x.num.b,vi x.num.c,vi x.num.d,vi x.exp]) rfl rfl) ?_;rintro _ w1 ⟨b2,rfl,hl2,hE,hB2⟩
 have hlo2:=Nat.le_trans hW.size hl2
 replace hBV:=hBV.below hE
 replace hW:=ktr hW hE
 refine Zf (X0p (zs:=[vi y.num.a,vi y.num.b,vi y.num.c,vi y.num.d,vi y.exp]) rfl rfl) ?_;rintro _ w2 ⟨b3,rfl,hl3,hE,hB3⟩
 have hne2_3:b2≠b3:=by have:=hB2.lt;omega
 have hlo3:=Nat.le_trans hW.size hl3
 replace hBV:=hBV.below hE
 replace hB2:=hB2.below hE
 replace hW:=ktr hW hE
 refine Zf (Xa (zs:=[vi 0,vi 0,vi 0,vi 0,vi 0]) X1n rfl) ?_;rintro _ w3 ⟨b4,rfl,hl4,hE,hB4⟩
 have hne2_4:b2≠b4:=by have:=hB2.lt;omega
 have hne3_4:b3≠b4:=by have:=hB3.lt;omega
 have hlo4:=Nat.le_trans hW.size hl4
 replace hBV:=hBV.below hE
 replace hB2:=hB2.below hE
 replace hB3:=hB3.below hE
 replace hW:=ktr hW hE
 refine Zt hK1 fun a hf=>?_
 refine wp_seq_k fun _ hK5=>?_
 refine wp_block ?_
 refine X0j (σ:=Bool×Dy) (fun (s:Bool×Dy) (a:Act) (w:World)=>match s with|(f1,x1)=>Fr a 45 [(0,.pointer (some ⟨bV,0,none⟩)),(4,.pointer (some ⟨b2,0,none⟩)),(5,.pointer (some ⟨b3,0,none⟩)),(6,.pointer (some ⟨b4,0,none⟩))]∧(sRaiseN (y.exp-x1.exp).toNat f1 x1=sRaiseN (y.exp-x.exp).toNat f x)∧(0≤x1.exp∧x1.exp≤60)∧Blk w bV 142 [.bool f1]∧Blk w b2 98 [vi x1.num.a,vi x1.num.b,vi x1.num.c,vi x1.num.d,vi x1.exp]∧Blk w b3 98 [vi y.num.a,vi y.num.b,vi y.num.c,vi y.num.d,vi y.exp]∧Blk w b4 98 [vi 0,vi 0,vi 0,vi 0,vi 0]∧Kept bV w0.heap.size w0 w) (fun (s:Bool×Dy)=>match s with|(f1,x1)=>(y.exp-x1.exp).toNat) (f,x) ?_ ?_
 ·exact ⟨hf.sub ⟨rfl,rfl,rfl,rfl,trivial⟩,rfl,hx,hBV,hB2,hB3,hB4,hW⟩
 rintro ⟨f1,x1⟩ a w4 ⟨hf,hinv,hx60,hBV,hB2,hB3,hB4,hW⟩
 refine wp_seq_k fun _ hK6=>?_
 refine Zs hf fun _ hK7=>?_
 refine Ze (Vd rfl X1g 4)<|Ze (X0 rfl X5 (hB2.at 4))<|Ze (Vd rfl X1g 4)<|Ze (X0 rfl X5 (hB3.at 4))<|Ze (X1k rfl rfl) ?_
 refine Zt hK7 fun a hf=>?_
 refine Xi hf rfl (fun hc8=>?_) (fun hc8=>?_)
 ·have hc8b:=hc8
  have hc8:=of_decide_eq_true hc8
  have hlt:x1.exp<y.exp:=hc8
  refine wp_skip ?_
  refine hK6 _ _ ?_
  refine wp_block ?_
  refine Xu (some bV) (fun j=>[9].contains j) mixed ?_
  intro w5 hE
  replace hBV:=hBV.below hE
  replace hB2:=hB2.below hE
  replace hB3:=hB3.below hE
  replace hB4:=hB4.below hE
  replace hW:=ktr hW hE
  refine Yb hf ?_
  refine Yo 0 rfl (fun _=>X9 rfl)<|Yo 1 rfl (fun _=>Vd rfl X1r 0) ?_
  refine Yw 2 rfl trivial (fun w1 h1=>Xj (l:=[vi x1.num.a,vi x1.num.b,vi x1.num.c,vi x1.num.d]) rfl X05 (((hB2.only h1 (Blk.ne hB2 hBV rfl)).at 0).take 4) rfl) ?_
  refine Yo 5 rfl (fun _=>Vd rfl X1g 4) ?_
  refine Yw 6 rfl trivial (fun w1 h1=>X0 rfl X5 ((hB2.only h1 (Blk.ne hB2 hBV rfl)).at 4)) ?_
  refine Yo 7 rfl (fun _=>Xv rfl rfl (by omega) (by omega)) ?_
  refine Y1 3 ?_
  refine Yf rfl trivial (EfW.mono (Vc (Xkt _ x1.num) Xbz) (fun _ _ h=>⟨fun _=>by obtain ⟨rfl,hE⟩:=h;exact Keep.of_below hE,h⟩)) ?_;rintro _ w6 ⟨rfl,hE⟩
  replace hBV:=hBV.below hE
  replace hB2:=hB2.below hE
  replace hB3:=hB3.below hE
  replace hB4:=hB4.below hE
  replace hW:=ktr hW hE
  refine Y1 4 ?_
  refine Yf rfl trivial (EfW.mono (Vc (Xi7 _ bV f1 hBV (rRoot x1.num)) X9s) (fun _ _ h=>⟨fun _=>by obtain ⟨rfl,hK,hbn⟩:=h;exact hK.keep,h⟩)) ?_;rintro _ w7 ⟨rfl,hK,hbn⟩
  obtain ⟨wm,hO,hm,hE⟩:=hK.mid;clear hm
  have hold:=hBV
  replace hB2:=hB2.only hO (Blk.ne hB2 hold rfl)
  replace hB3:=hB3.only hO (Blk.ne hB3 hold rfl)
  replace hB4:=hB4.only hO (Blk.ne hB4 hold rfl)
  replace hW:=hW.self hO
  replace hB2:=hB2.below hE
  replace hB3:=hB3.below hE
  replace hB4:=hB4.below hE
  replace hW:=ktr hW hE
  clear hold hE hO hK;replace hBV:=hbn;clear hbn
  refine Yo 8 rfl (fun _=>Xh (ps:=[(0,.agg #[vi ((sRing (rRoot x1.num)).a),vi ((sRing (rRoot x1.num)).b),vi ((sRing (rRoot x1.num)).c),vi ((sRing (rRoot x1.num)).d)]),(1,vi (x1.exp+1))]) (cs:=[vi ((sRing (rRoot x1.num)).a),vi ((sRing (rRoot x1.num)).b),vi ((sRing (rRoot x1.num)).c),vi ((sRing (rRoot x1.num)).d),vi (x1.exp+1)]) rfl (fun _=>by first|rfl|kernel_rfl)) ?_
  refine Y1 9 ?_
  refine Yh rfl trivial rfl (Vw [vi ((sRing (rRoot x1.num)).a),vi ((sRing (rRoot x1.num)).b),vi ((sRing (rRoot x1.num)).c),vi ((sRing (rRoot x1.num)).d),vi (x1.exp+1)] Xr hB2) ?_;rintro _ w8 ⟨ho,hb⟩
  have hold:=hB2
  replace hBV:=hBV.only ho (Blk.ne hBV hold rfl)
  replace hB3:=hB3.only ho (by omega)
  replace hB4:=hB4.only ho (by omega)
  replace hW:=Kept.only hW ho hlo2
  clear hold
  have hB2:=hb
  clear hb ho
  refine Yd fun a hf=>?_
  refine Xf ?_
  refine Xn ?_
  exact ⟨(f1||!rOk (rRoot x1.num),⟨sRing (rRoot x1.num),x1.exp+1⟩),⟨hf.sub ⟨rfl,rfl,rfl,rfl,trivial⟩,(X75 hinv hlt),(by dsimp only;omega),hBV,hB2,hB3,hB4,hW⟩,(by first|omega|(dsimp only;omega))⟩
 have hc8b:=hc8
 have hc8:=of_decide_eq_false hc8
 have hx1:=X76 hinv hc8
 refine wp_exit ?_
 refine Xs ?_
 refine Xs ?_
 refine X0h ?_
 refine hK5 _ _ ?_
 refine wp_seq_k fun _ hK9=>?_
 refine wp_block ?_
 refine X0j (σ:=Bool×Dy) (fun (s:Bool×Dy) (a:Act) (w:World)=>match s with|(f2,y1)=>Fr a 45 [(0,.pointer (some ⟨bV,0,none⟩)),(4,.pointer (some ⟨b2,0,none⟩)),(5,.pointer (some ⟨b3,0,none⟩)),(6,.pointer (some ⟨b4,0,none⟩))]∧(sRaiseN (x1.exp-y1.exp).toNat f2 y1=sRaiseN (x1.exp-y.exp).toNat f1 y)∧(0≤y1.exp∧y1.exp≤60)∧Blk w bV 142 [.bool f2]∧Blk w b2 98 [vi x1.num.a,vi x1.num.b,vi x1.num.c,vi x1.num.d,vi x1.exp]∧Blk w b3 98 [vi y1.num.a,vi y1.num.b,vi y1.num.c,vi y1.num.d,vi y1.exp]∧Blk w b4 98 [vi 0,vi 0,vi 0,vi 0,vi 0]∧Kept bV w0.heap.size w0 w) (fun (s:Bool×Dy)=>match s with|(f2,y1)=>(x1.exp-y1.exp).toNat) (f1,y) ?_ ?_
 ·exact ⟨hf.sub ⟨rfl,rfl,rfl,rfl,trivial⟩,rfl,hy,hBV,hB2,hB3,hB4,hW⟩
 rintro ⟨f2,y1⟩ a w9 ⟨hf,hinv2,hy60,hBV,hB2,hB3,hB4,hW⟩
 refine wp_seq_k fun _ hK10=>?_
 refine Zs hf fun _ hK11=>?_
 refine Ze (Vd rfl X1g 4)<|Ze (X0 rfl X5 (hB3.at 4))<|Ze (Vd rfl X1g 4)<|Ze (X0 rfl X5 (hB2.at 4))<|Ze (X1k rfl rfl) ?_
 refine Zt hK11 fun a hf=>?_
 refine Xi hf rfl (fun hc12=>?_) (fun hc12=>?_)
 ·have hc12b:=hc12
  have hc12:=of_decide_eq_true hc12
  have hlt:y1.exp<x1.exp:=hc12
  refine wp_skip ?_
  refine hK10 _ _ ?_
  refine wp_block ?_
  refine Xu (some bV) (fun j=>[9].contains j) mixed ?_
  intro w10 hE
  replace hBV:=hBV.below hE
  replace hB2:=hB2.below hE
  replace hB3:=hB3.below hE
  replace hB4:=hB4.below hE
  replace hW:=ktr hW hE
  refine Yb hf ?_
  refine Yo 0 rfl (fun _=>X9 rfl)<|Yo 1 rfl (fun _=>Vd rfl X1r 0) ?_
  refine Yw 2 rfl trivial (fun w1 h1=>Xj (l:=[vi y1.num.a,vi y1.num.b,vi y1.num.c,vi y1.num.d]) rfl X05 (((hB3.only h1 (Blk.ne hB3 hBV rfl)).at 0).take 4) rfl) ?_
  refine Yo 5 rfl (fun _=>Vd rfl X1g 4) ?_
  refine Yw 6 rfl trivial (fun w1 h1=>X0 rfl X5 ((hB3.only h1 (Blk.ne hB3 hBV rfl)).at 4)) ?_
  refine Yo 7 rfl (fun _=>Xv rfl rfl (by omega) (by omega)) ?_
  refine Y1 3 ?_
  refine Yf rfl trivial (EfW.mono (Vc (Xkt _ y1.num) Xbz) (fun _ _ h=>⟨fun _=>by obtain ⟨rfl,hE⟩:=h;exact Keep.of_below hE,h⟩)) ?_;rintro _ w11 ⟨rfl,hE⟩
  replace hBV:=hBV.below hE
  replace hB2:=hB2.below hE
  replace hB3:=hB3.below hE
  replace hB4:=hB4.below hE
  replace hW:=ktr hW hE
  refine Y1 4 ?_
  refine Yf rfl trivial (EfW.mono (Vc (Xi7 _ bV f2 hBV (rRoot y1.num)) X9s) (fun _ _ h=>⟨fun _=>by obtain ⟨rfl,hK,hbn⟩:=h;exact hK.keep,h⟩)) ?_;rintro _ w12 ⟨rfl,hK,hbn⟩
  obtain ⟨wm,hO,hm,hE⟩:=hK.mid;clear hm
  have hold:=hBV
  replace hB2:=hB2.only hO (Blk.ne hB2 hold rfl)
  replace hB3:=hB3.only hO (Blk.ne hB3 hold rfl)
  replace hB4:=hB4.only hO (Blk.ne hB4 hold rfl)
  replace hW:=hW.self hO
  replace hB2:=hB2.below hE
  replace hB3:=hB3.below hE
  replace hB4:=hB4.below hE
  replace hW:=ktr hW hE
  clear hold hE hO hK;replace hBV:=hbn;clear hbn
  refine Yo 8 rfl (fun _=>Xh (ps:=[(0,.agg #[vi ((sRing (rRoot y1.num)).a),vi ((sRing (rRoot y1.num)).b),vi ((sRing (rRoot y1.num)).c),vi ((sRing (rRoot y1.num)).d)]),(1,vi (y1.exp+1))]) (cs:=[vi ((sRing (rRoot y1.num)).a),vi ((sRing (rRoot y1.num)).b),vi ((sRing (rRoot y1.num)).c),vi ((sRing (rRoot y1.num)).d),vi (y1.exp+1)]) rfl (fun _=>by first|rfl|kernel_rfl)) ?_
  refine Y1 9 ?_
  refine Yh rfl trivial rfl (Vw [vi ((sRing (rRoot y1.num)).a),vi ((sRing (rRoot y1.num)).b),vi ((sRing (rRoot y1.num)).c),vi ((sRing (rRoot y1.num)).d),vi (y1.exp+1)] Xr hB3) ?_;rintro _ w13 ⟨ho,hb⟩
  have hold:=hB3
  replace hBV:=hBV.only ho (Blk.ne hBV hold rfl)
  replace hB2:=hB2.only ho (by omega)
  replace hB4:=hB4.only ho (by omega)
  replace hW:=Kept.only hW ho hlo3
  clear hold
  have hB3:=hb
  clear hb ho
  refine Yd fun a hf=>?_
  refine Xf ?_
  refine Xn ?_
  exact ⟨(f2||!rOk (rRoot y1.num),⟨sRing (rRoot y1.num),y1.exp+1⟩),⟨hf.sub ⟨rfl,rfl,rfl,rfl,trivial⟩,(X75 hinv2 hlt),(by dsimp only;omega),hBV,hB2,hB3,hB4,hW⟩,(by first|omega|(dsimp only;omega))⟩
 have hc12b:=hc12
 have hc12:=of_decide_eq_false hc12
 have hy1:=X76 hinv2 hc12
 refine wp_exit ?_
 refine Xs ?_
 refine Xs ?_
 refine X0h ?_
 refine hK9 _ _ ?_
 refine wp_seq_k fun _ hK13=>?_
 refine Xu (some bV) (fun j=>[10].contains j) mixed ?_
 intro w14 hE
 replace hBV:=hBV.below hE
 replace hB2:=hB2.below hE
 replace hB3:=hB3.below hE
 replace hB4:=hB4.below hE
 replace hW:=ktr hW hE
 refine Yb hf ?_
 refine Yo 0 rfl (fun _=>X9 rfl)<|Yo 1 rfl (fun _=>Vd rfl X1r 0) ?_
 refine Yw 2 rfl trivial (fun w1 h1=>Xj (l:=[vi x1.num.a,vi x1.num.b,vi x1.num.c,vi x1.num.d]) rfl X05 (((hB2.only h1 (Blk.ne hB2 hBV rfl)).at 0).take 4) rfl) ?_
 refine Yo 3 rfl (fun _=>Vd rfl X1r 0) ?_
 refine Yw 4 rfl trivial (fun w1 h1=>Xj (l:=[vi y1.num.a,vi y1.num.b,vi y1.num.c,vi y1.num.d]) rfl X05 (((hB3.only h1 (Blk.ne hB3 hBV rfl)).at 0).take 4) rfl) ?_
 refine Yo 7 rfl (fun _=>Vd rfl X1g 4) ?_
 refine Yw 8 rfl trivial (fun w1 h1=>X0 rfl X5 ((hB2.only h1 (Blk.ne hB2 hBV rfl)).at 4)) ?_
 refine Y1 5 ?_
 refine Yf rfl trivial (EfW.mono (Vc (Xpc _ x1.num y1.num) Xk7) (fun _ _ h=>⟨fun _=>by obtain ⟨rfl,hE⟩:=h;exact Keep.of_below hE,h⟩)) ?_;rintro _ w15 ⟨rfl,hE⟩
 replace hBV:=hBV.below hE
 replace hB2:=hB2.below hE
 replace hB3:=hB3.below hE
 replace hB4:=hB4.below hE
 replace hW:=ktr hW hE
 refine Y1 6 ?_
 refine Yf rfl trivial (EfW.mono (Vc (Xi7 _ bV f2 hBV (rAdd x1.num y1.num)) X9s) (fun _ _ h=>⟨fun _=>by obtain ⟨rfl,hK,hbn⟩:=h;exact hK.keep,h⟩)) ?_;rintro _ w16 ⟨rfl,hK,hbn⟩
 obtain ⟨wm,hO,hm,hE⟩:=hK.mid;clear hm
 have hold:=hBV
 replace hB2:=hB2.only hO (Blk.ne hB2 hold rfl)
 replace hB3:=hB3.only hO (Blk.ne hB3 hold rfl)
 replace hB4:=hB4.only hO (Blk.ne hB4 hold rfl)
 replace hW:=hW.self hO
 replace hB2:=hB2.below hE
 replace hB3:=hB3.below hE
 replace hB4:=hB4.below hE
 replace hW:=ktr hW hE
 clear hold hE hO hK;replace hBV:=hbn;clear hbn
 refine Y1 9 ?_
 refine Yf rfl trivial (EfW.mono (Vc (Xmq _ (sRing (rAdd x1.num y1.num)) x1.exp (by omega)) Xev) (fun _ _ h=>⟨fun _=>by obtain ⟨rfl,hE⟩:=h;exact Keep.of_below hE,h⟩)) ?_;rintro _ w17 ⟨rfl,hE⟩
 replace hBV:=hBV.below hE
 replace hB2:=hB2.below hE
 replace hB3:=hB3.below hE
 replace hB4:=hB4.below hE
 replace hW:=ktr hW hE
 refine Y1 10 ?_
 refine Yh rfl trivial rfl (Vw [vi ((dLow (sRing (rAdd x1.num y1.num)) x1.exp).num.a),vi ((dLow (sRing (rAdd x1.num y1.num)) x1.exp).num.b),vi ((dLow (sRing (rAdd x1.num y1.num)) x1.exp).num.c),vi ((dLow (sRing (rAdd x1.num y1.num)) x1.exp).num.d),vi ((dLow (sRing (rAdd x1.num y1.num)) x1.exp).exp)] Xr hB4) ?_;rintro _ w18 ⟨ho,hb⟩
 have hold:=hB4
 replace hBV:=hBV.only ho (Blk.ne hBV hold rfl)
 replace hB2:=hB2.only ho (by omega)
 replace hB3:=hB3.only ho (by omega)
 replace hW:=Kept.only hW ho hlo4
 clear hold
 have hB4:=hb
 clear hb ho
 refine Yd fun a hf=>?_
 refine hK13 _ _ ?_
 refine wp_ret (X2 hf (Xo hf rfl (ResV.cellN (l:=[vi ((dLow (sRing (rAdd x1.num y1.num)) x1.exp).num.a),vi ((dLow (sRing (rAdd x1.num y1.num)) x1.exp).num.b),vi ((dLow (sRing (rAdd x1.num y1.num)) x1.exp).num.c),vi ((dLow (sRing (rAdd x1.num y1.num)) x1.exp).num.d),vi ((dLow (sRing (rAdd x1.num y1.num)) x1.exp).exp)]) rfl Xg (hB4.at 0) rfl)) ?_)
 exact ⟨by rw [sAdd,hx1];dsimp only;rw [hy1],hW,by rw [sAdd,hx1];dsimp only;rw [hy1];exact hBV⟩
end Go.Proofs.YtlfjcmldfbfdbaaGreat
set_option maxRecDepth 4000
namespace Go.Proofs.YtlfjcmldfbfdbaaGreat
open Go.RowKit
theorem Xeb(w0:World)(n:Int)(s:Int)(q:Int)(h0:0≤q)(h1:q<n)(h2:n≤5) : Ret Tryz.prog 72 [vi n,vi s,vi q] w0 (fun v w=>v=vi (bitF n s q)∧w0=w):=by
 refine enter Tryz.func72 rfl 14 rfl rfl ?_
 intro a hf
 have hW:Below w0.heap.size w0 w0:=Below.refl _ _
 refine Zs hf fun _ hK1=>?_
 refine Za rfl ?_
 refine Zt hK1 fun a hf=>?_
 refine Zs hf fun _ hK2=>?_
 refine Zm rfl<|Zm rfl<|Ze (X1d rfl rfl (by omega) (by omega))<|Zm rfl<|Ze (X1d rfl rfl (by omega) (by omega)) ?_
 refine Ze (Xn5 (m:=(n-1-q).toNat) rfl rfl (by omega) (by omega))<|Ze (Xlb rfl rfl)<|Za rfl ?_
 refine Zt hK2 fun a hf=>?_
 refine wp_ret (X2 hf (Xo hf rfl rfl) ?_)
 exact ⟨rfl,rfl⟩
theorem Xii(w0:World)(n:Int)(s:Int)(q:Int)(h0:0≤q)(h1:q<n)(h2:n≤5) : Ret Tryz.prog 73 [vi n,vi s,vi q] w0 (fun v w=>v=vi (flipF n s q)∧w0=w):=by
 refine enter Tryz.func73 rfl 14 rfl rfl ?_
 intro a hf
 have hW:Below w0.heap.size w0 w0:=Below.refl _ _
 refine Zs hf fun _ hK1=>?_
 refine Za rfl ?_
 refine Zt hK1 fun a hf=>?_
 refine Zs hf fun _ hK2=>?_
 refine Zm rfl<|Zm rfl<|Ze (X1d rfl rfl (by omega) (by omega))<|Zm rfl<|Ze (X1d rfl rfl (by omega) (by omega)) ?_
 refine Ze (Xft (m:=(n-1-q).toNat) rfl rfl (by omega) (by omega))<|Ze (Xgh rfl rfl)<|Za rfl ?_
 refine Zt hK2 fun a hf=>?_
 refine wp_ret (X2 hf (Xo hf rfl rfl) ?_)
 exact ⟨rfl,rfl⟩
theorem Xby(w0:World)(n:Int)(s:Int)(q:Int)(h0:0≤q)(h1:q<n)(h2:n≤5) : Ret Tryz.prog 197 [vi n,vi s,vi q] w0 (fun v w=>v=vi (bitF n s q)∧w0=w):=by
 refine enter Tryz.func197 rfl 15 rfl rfl ?_
 intro a hf
 have hW:Below w0.heap.size w0 w0:=Below.refl _ _
 refine Zs hf fun _ hK1=>?_
 refine Za rfl ?_
 refine Zt hK1 fun a hf=>?_
 refine Zs hf fun _ hK2=>?_
 refine Zm rfl<|Zm rfl<|Ze (X1d rfl rfl (by omega) (by omega))<|Zm rfl<|Ze (X1d rfl rfl (by omega) (by omega)) ?_
 refine Ze (Xc2 (m:=(n-1-q).toNat) Tryz.underlying3 Tryz.underlying165 rfl (by omega) (by omega))<|Ze (Xn5 (m:=(n-1-q).toNat) rfl rfl rfl (by omega))<|Ze (Xlb rfl rfl)<|Za rfl ?_
 refine Zt hK2 fun a hf=>?_
 refine wp_ret (X2 hf (Xo hf rfl rfl) ?_)
 exact ⟨rfl,rfl⟩
theorem Xp1(w0:World)(k:Int)(hk:1≤k∧k≤8) : Ret Tryz.prog 198 [vi k] w0 (fun v w=>∃ A c,v=.slice A (oneL k).length c∧Own w w0.heap.size 98 5 encD A c (oneL k)∧Below w0.heap.size w0 w):=by
 refine enter Tryz.func198 rfl 43 rfl rfl ?_
 intro a hf
 have hW:Below w0.heap.size w0 w0:=Below.refl _ _
 refine Zs hf fun _ hK1=>?_
 refine Za rfl ?_
 refine Zt hK1 fun a hf=>?_
 refine Zs hf fun _ hK3=>?_
 refine Zf (Vc (Xak _ 0) X4n) ?_;rintro _ w1 ⟨rfl,hE⟩
 replace hW:=btr hW hE
 refine Ze (Xh (ps:=[]) (cs:=[vi 0,vi 0,vi 0,vi 0,vi 0]) rfl (fun _=>by first|rfl|kernel_rfl)) ?_
 refine Zf (Xa (zs:=[vi 0,vi 0,vi 0,vi 0,vi 0]) X1n rfl) ?_;rintro _ w2 ⟨b4,rfl,hl4,hE,hB4⟩
 have hlo4:=Nat.le_trans hW.size hl4
 replace hW:=btr hW hE
 refine Zf (Xa (zs:=[vi 0,vi 0,vi 0,vi 0,vi 0]) X1n rfl) ?_;rintro _ w3 ⟨b5,rfl,hl5,hE,hB5⟩
 have hne4_5:b4≠b5:=by have:=hB4.lt;omega
 have hlo5:=Nat.le_trans hW.size hl5
 replace hB4:=hB4.below hE
 replace hW:=btr hW hE
 refine Zo (Vw [vi ((dPow 0).num.a),vi ((dPow 0).num.b),vi ((dPow 0).num.c),vi ((dPow 0).num.d),vi ((dPow 0).exp)] Xr hB4) ?_;rintro _ w4 ⟨ho,hb⟩
 have hold:=hB4
 replace hB5:=hB5.only ho (by omega)
 replace hW:=Below.only hW ho hlo4
 clear hold
 have hB4:=hb
 clear hb ho
 refine Zo (Vw [vi 0,vi 0,vi 0,vi 0,vi 0] Xr hB5) ?_;rintro _ w5 ⟨ho,hb⟩
 have hold:=hB5
 replace hB4:=hB4.only ho (by omega)
 replace hW:=Below.only hW ho hlo5
 clear hold
 have hB5:=hb
 clear hb ho
 refine Zt hK3 fun a hf=>?_
 refine Zs hf fun _ hK6=>?_
 refine Ze (Xh (ps:=[(0,vi 1)]) (cs:=[vi 1,vi 0,vi 0,vi 0]) rfl (fun _=>by first|rfl|kernel_rfl))<|Ze (Xh (ps:=[(0,.agg #[vi 1,vi 0,vi 0,vi 0]),(1,vi 1)]) (cs:=[vi 1,vi 0,vi 0,vi 0,vi 1]) rfl (fun _=>by first|rfl|kernel_rfl)) ?_
 refine Zf (Xa (zs:=[vi 0,vi 0,vi 0,vi 0,vi 0]) X1n rfl) ?_;rintro _ w6 ⟨b7,rfl,hl7,hE,hB7⟩
 have hne4_7:b4≠b7:=by have:=hB4.lt;omega
 have hne5_7:b5≠b7:=by have:=hB5.lt;omega
 have hlo7:=Nat.le_trans hW.size hl7
 replace hB4:=hB4.below hE
 replace hB5:=hB5.below hE
 replace hW:=btr hW hE
 refine Zo (Vw [vi 1,vi 0,vi 0,vi 0,vi 1] Xr hB7) ?_;rintro _ w7 ⟨ho,hb⟩
 have hold:=hB7
 replace hB4:=hB4.only ho (by omega)
 replace hB5:=hB5.only ho (by omega)
 replace hW:=Below.only hW ho hlo7
 clear hold
 have hB7:=hb
 clear hb ho
 refine Zt hK6 fun a hf=>?_
 refine wp_seq_k fun _ hK8=>?_
 refine Zs hf fun _ hK9=>?_
 refine Zm rfl ?_
 refine Zt hK9 fun a hf=>?_
 refine wp_block ?_
 refine Zs hf fun _ hK10=>?_
 refine Ze (X0u rfl rfl)<|Za rfl ?_
 refine Zt hK10 fun a hf=>?_
 refine Xi hf rfl (fun hc11=>?_) (fun hc11=>?_)
 ·have hc11b:=hc11
  have e1:k=1:=by simpa using hc11
  refine wp_seq_k fun _ hK12=>?_
  refine Xu none (fun _=>false) mixed ?_
  intro w8 hE
  replace hB4:=hB4.below hE
  replace hB5:=hB5.below hE
  replace hB7:=hB7.below hE
  replace hW:=btr hW hE
  refine Yb hf ?_
  refine Ye 0 rfl (Vn Xg hB7)<|Ye 1 rfl (Vn Xg hB7)<|Ye 2 rfl (Vn Xg hB7)<|Ye 3 rfl (Vn Xg hB7) ?_
  refine Y1 4 ?_
  refine Yk rfl trivial (Vc (Xpe _ (⟨(⟨1,0,0,0⟩ : Rg),1⟩ : Dy)) Xlo) (fun _ _ ⟨_,hE⟩=>hE) ?_;rintro _ w9 ⟨rfl,hE⟩
  replace hB4:=hB4.below hE
  replace hB5:=hB5.below hE
  replace hB7:=hB7.below hE
  replace hW:=btr hW hE
  refine Y1 5 ?_
  refine Yk rfl trivial (X4 (k:=4) (vs:=[.agg #[vi 1,vi 0,vi 0,vi 0,vi 1],.agg #[vi 1,vi 0,vi 0,vi 0,vi 1],.agg #[vi 1,vi 0,vi 0,vi 0,vi 1],.agg #[vi ((dNeg (⟨(⟨1,0,0,0⟩ : Rg),1⟩ : Dy)).num.a),vi ((dNeg (⟨(⟨1,0,0,0⟩ : Rg),1⟩ : Dy)).num.b),vi ((dNeg (⟨(⟨1,0,0,0⟩ : Rg),1⟩ : Dy)).num.c),vi ((dNeg (⟨(⟨1,0,0,0⟩ : Rg),1⟩ : Dy)).num.d),vi ((dNeg (⟨(⟨1,0,0,0⟩ : Rg),1⟩ : Dy)).exp)]]) (zs:=[vi 1,vi 0,vi 0,vi 0,vi 1,vi 1,vi 0,vi 0,vi 0,vi 1,vi 1,vi 0,vi 0,vi 0,vi 1,vi ((dNeg (⟨(⟨1,0,0,0⟩ : Rg),1⟩ : Dy)).num.a),vi ((dNeg (⟨(⟨1,0,0,0⟩ : Rg),1⟩ : Dy)).num.b),vi ((dNeg (⟨(⟨1,0,0,0⟩ : Rg),1⟩ : Dy)).num.c),vi ((dNeg (⟨(⟨1,0,0,0⟩ : Rg),1⟩ : Dy)).num.d),vi ((dNeg (⟨(⟨1,0,0,0⟩ : Rg),1⟩ : Dy)).exp)]) rfl X1j X2k rfl rfl) (fun _ _ ⟨_,_,_,h,_⟩=>h) ?_;rintro _ w10 ⟨b13,rfl,hl13,hE,hB13⟩
  have hne4_13:b4≠b13:=by have:=hB4.lt;omega
  have hne5_13:b5≠b13:=by have:=hB5.lt;omega
  have hne7_13:b7≠b13:=by have:=hB7.lt;omega
  have hlo13:=Nat.le_trans hW.size hl13
  replace hB4:=hB4.below hE
  replace hB5:=hB5.below hE
  replace hB7:=hB7.below hE
  replace hW:=btr hW hE
  refine Yo 6 rfl (fun _=>X0x rfl) ?_
  refine Yd fun a hf=>?_
  refine hK12 _ _ ?_
  refine wp_ret ?_
  refine Xy ?_
  refine X8 ?_
  refine X2 hf (Xo hf rfl rfl) ?_
  exact ⟨(some ⟨b13,0,none⟩),4,by rw [oneL,if_pos e1];rfl,by rw [oneL,if_pos e1];exact (Own.of_blkL X1e hB13 hlo13 rfl rfl (by decide)),hW⟩
 have hc11b:=hc11
 have e1:¬ k=1:=by simpa using hc11
 refine Zs hf fun _ hK15=>?_
 refine Ze (X0u rfl rfl)<|Za rfl ?_
 refine Zt hK15 fun a hf=>?_
 refine Xi hf rfl (fun hc16=>?_) (fun hc16=>?_)
 ·have hc16b:=hc16
  have e2:k=2:=by simpa using hc16
  refine Zs hf fun _ hK17=>?_
  refine Ze (Vn Xg hB5)<|Ze (Vn Xg hB4)<|Ze (Vn Xg hB4)<|Ze (Vn Xg hB5) ?_
  refine Zf (X4 (k:=4) (vs:=[.agg #[vi 0,vi 0,vi 0,vi 0,vi 0],.agg #[vi ((dPow 0).num.a),vi ((dPow 0).num.b),vi ((dPow 0).num.c),vi ((dPow 0).num.d),vi ((dPow 0).exp)],.agg #[vi ((dPow 0).num.a),vi ((dPow 0).num.b),vi ((dPow 0).num.c),vi ((dPow 0).num.d),vi ((dPow 0).exp)],.agg #[vi 0,vi 0,vi 0,vi 0,vi 0]]) (zs:=[vi 0,vi 0,vi 0,vi 0,vi 0,vi ((dPow 0).num.a),vi ((dPow 0).num.b),vi ((dPow 0).num.c),vi ((dPow 0).num.d),vi ((dPow 0).exp),vi ((dPow 0).num.a),vi ((dPow 0).num.b),vi ((dPow 0).num.c),vi ((dPow 0).num.d),vi ((dPow 0).exp),vi 0,vi 0,vi 0,vi 0,vi 0]) rfl X1j X2k rfl rfl) ?_;rintro _ w11 ⟨b18,rfl,hl18,hE,hB18⟩
  have hne4_18:b4≠b18:=by have:=hB4.lt;omega
  have hne5_18:b5≠b18:=by have:=hB5.lt;omega
  have hlo18:=Nat.le_trans hW.size hl18
  replace hB4:=hB4.below hE
  replace hB5:=hB5.below hE
  replace hW:=btr hW hE
  refine Za rfl ?_
  refine Zt hK17 fun a hf=>?_
  refine wp_ret ?_
  refine Xy ?_
  refine X8 ?_
  refine X2 hf (Xo hf rfl rfl) ?_
  exact ⟨(some ⟨b18,0,none⟩),4,by rw [oneL,if_neg e1,if_pos e2];rfl,by rw [oneL,if_neg e1,if_pos e2];exact (Own.of_blkL X1e hB18 hlo18 rfl rfl (by decide)),hW⟩
 have hc16b:=hc16
 have e2:¬ k=2:=by simpa using hc16
 refine Zs hf fun _ hK20=>?_
 refine Ze (X0u rfl rfl)<|Za rfl ?_
 refine Zt hK20 fun a hf=>?_
 refine Xi hf rfl (fun hc21=>?_) (fun hc21=>?_)
 ·have hc21b:=hc21
  have e3:k=3:=by simpa using hc21
  refine wp_seq_k fun _ hK22=>?_
  refine Xu none (fun _=>false) mixed ?_
  intro w12 hE
  replace hB4:=hB4.below hE
  replace hB5:=hB5.below hE
  replace hW:=btr hW hE
  refine Yb hf ?_
  refine Ye 0 rfl (Vn Xg hB5)<|Ye 3 rfl (Vn Xg hB5) ?_
  refine Y1 1 ?_
  refine Yk rfl trivial (Vc (Xak _ 6) X4n) (fun _ _ ⟨_,hE⟩=>hE) ?_;rintro _ w13 ⟨rfl,hE⟩
  replace hB4:=hB4.below hE
  replace hB5:=hB5.below hE
  replace hW:=btr hW hE
  refine Y1 2 ?_
  refine Yk rfl trivial (Vc (Xak _ 2) X4n) (fun _ _ ⟨_,hE⟩=>hE) ?_;rintro _ w14 ⟨rfl,hE⟩
  replace hB4:=hB4.below hE
  replace hB5:=hB5.below hE
  replace hW:=btr hW hE
  refine Y1 4 ?_
  refine Yk rfl trivial (X4 (k:=4) (vs:=[.agg #[vi 0,vi 0,vi 0,vi 0,vi 0],.agg #[vi ((dPow 6).num.a),vi ((dPow 6).num.b),vi ((dPow 6).num.c),vi ((dPow 6).num.d),vi ((dPow 6).exp)],.agg #[vi ((dPow 2).num.a),vi ((dPow 2).num.b),vi ((dPow 2).num.c),vi ((dPow 2).num.d),vi ((dPow 2).exp)],.agg #[vi 0,vi 0,vi 0,vi 0,vi 0]]) (zs:=[vi 0,vi 0,vi 0,vi 0,vi 0,vi ((dPow 6).num.a),vi ((dPow 6).num.b),vi ((dPow 6).num.c),vi ((dPow 6).num.d),vi ((dPow 6).exp),vi ((dPow 2).num.a),vi ((dPow 2).num.b),vi ((dPow 2).num.c),vi ((dPow 2).num.d),vi ((dPow 2).exp),vi 0,vi 0,vi 0,vi 0,vi 0]) rfl X1j X2k rfl rfl) (fun _ _ ⟨_,_,_,h,_⟩=>h) ?_;rintro _ w15 ⟨b23,rfl,hl23,hE,hB23⟩
  have hne4_23:b4≠b23:=by have:=hB4.lt;omega
  have hne5_23:b5≠b23:=by have:=hB5.lt;omega
  have hlo23:=Nat.le_trans hW.size hl23
  replace hB4:=hB4.below hE
  replace hB5:=hB5.below hE
  replace hW:=btr hW hE
  refine Yo 5 rfl (fun _=>X0x rfl) ?_
  refine Yd fun a hf=>?_
  refine hK22 _ _ ?_
  refine wp_ret ?_
  refine Xy ?_
  refine X8 ?_
  refine X2 hf (Xo hf rfl rfl) ?_
  exact ⟨(some ⟨b23,0,none⟩),4,by rw [oneL,if_neg e1,if_neg e2,if_pos e3];rfl,by rw [oneL,if_neg e1,if_neg e2,if_pos e3];exact (Own.of_blkL X1e hB23 hlo23 rfl rfl (by decide)),hW⟩
 have hc21b:=hc21
 have e3:¬ k=3:=by simpa using hc21
 refine wp_skip ?_
 refine Xf ?_
 refine hK8 _ _ ?_
 refine wp_seq_k fun _ hK25=>?_
 refine Xu none (fun _=>false) mixed ?_
 intro w16 hE
 replace hB4:=hB4.below hE
 replace hB5:=hB5.below hE
 replace hW:=btr hW hE
 refine Yb hf ?_
 refine Ye 0 rfl (Vn Xg hB4)<|Ye 1 rfl (Vn Xg hB5)<|Ye 2 rfl (Vn Xg hB5)<|Yo 4 rfl (fun _=>X9 rfl)<|Yo 5 rfl (fun _=>X1d rfl rfl (by omega) (by omega)) ?_
 refine Y1 3 ?_
 refine Yk rfl trivial (X4 (k:=5) (vs:=[vi 4,vi 2,vi 6,vi 1,vi 7]) (zs:=[vi 4,vi 2,vi 6,vi 1,vi 7]) rfl X16 X2d rfl rfl) (fun _ _ ⟨_,_,_,h,_⟩=>h) ?_;rintro _ w17 ⟨b26,rfl,hl26,hE,hB26⟩
 have hlo26:=Nat.le_trans hW.size hl26
 replace hB4:=hB4.below hE
 replace hB5:=hB5.below hE
 replace hW:=btr hW hE
 refine Yi (k:=(k-4).toNat) (u:=(turnOf k)) (enc:=encI) (l:=[4,2,6,1,7]) 6 rfl trivial rfl rfl X16 X2c X0z (Rd.of_blk hB26 rfl _ hB26.lt) (Xfv (by omega) (by omega)) (by omega) ?_;intro p29 hat28
 refine Ye 7 rfl (X0 rfl X5 hat28) ?_
 refine Y1 8 ?_
 refine Yk rfl trivial (Vc (Xak _ (turnOf k)) X4n) (fun _ _ ⟨_,hE⟩=>hE) ?_;rintro _ w18 ⟨rfl,hE⟩
 replace hB4:=hB4.below hE
 replace hB5:=hB5.below hE
 replace hB26:=hB26.below hE
 replace hW:=btr hW hE
 refine Y1 9 ?_
 refine Yk rfl trivial (X4 (k:=4) (vs:=[.agg #[vi ((dPow 0).num.a),vi ((dPow 0).num.b),vi ((dPow 0).num.c),vi ((dPow 0).num.d),vi ((dPow 0).exp)],.agg #[vi 0,vi 0,vi 0,vi 0,vi 0],.agg #[vi 0,vi 0,vi 0,vi 0,vi 0],.agg #[vi ((dPow (turnOf k)).num.a),vi ((dPow (turnOf k)).num.b),vi ((dPow (turnOf k)).num.c),vi ((dPow (turnOf k)).num.d),vi ((dPow (turnOf k)).exp)]]) (zs:=[vi ((dPow 0).num.a),vi ((dPow 0).num.b),vi ((dPow 0).num.c),vi ((dPow 0).num.d),vi ((dPow 0).exp),vi 0,vi 0,vi 0,vi 0,vi 0,vi 0,vi 0,vi 0,vi 0,vi 0,vi ((dPow (turnOf k)).num.a),vi ((dPow (turnOf k)).num.b),vi ((dPow (turnOf k)).num.c),vi ((dPow (turnOf k)).num.d),vi ((dPow (turnOf k)).exp)]) rfl X1j X2k rfl rfl) (fun _ _ ⟨_,_,_,h,_⟩=>h) ?_;rintro _ w19 ⟨b30,rfl,hl30,hE,hB30⟩
 have hne4_30:b4≠b30:=by have:=hB4.lt;omega
 have hne5_30:b5≠b30:=by have:=hB5.lt;omega
 have hlo30:=Nat.le_trans hW.size hl30
 replace hB4:=hB4.below hE
 replace hB5:=hB5.below hE
 replace hB26:=hB26.below hE
 replace hW:=btr hW hE
 refine Yo 10 rfl (fun _=>X0x rfl) ?_
 refine Yd fun a hf=>?_
 refine hK25 _ _ ?_
 refine wp_ret (X2 hf (Xo hf rfl rfl) ?_)
 exact ⟨(some ⟨b30,0,none⟩),4,by rw [oneL,if_neg e1,if_neg e2,if_neg e3];rfl,by rw [oneL,if_neg e1,if_neg e2,if_neg e3];exact (Own.of_blkL X1e hB30 hlo30 rfl rfl (by decide)),hW⟩
end Go.Proofs.YtlfjcmldfbfdbaaGreat
set_option maxRecDepth 4000
namespace Go.Proofs.YtlfjcmldfbfdbaaGreat
open Go.RowKit
theorem Xoa(w0:World)(n:Int)(g:Gt)(row:Int)(col:Int)(hg:gOk n g=true) : Ret Tryz.prog 174 [vi n,.agg #[vi g.k,vi g.a,vi g.b],vi row,vi col] w0 (fun v w=>v=dV (cellS n g row col)∧Below w0.heap.size w0 w):=by
 have hg2:=X1p hg
 have hb1:=X2r n row g.a
 have hb2:=X2r n col g.a
 refine enter Tryz.func174 rfl 119 rfl rfl ?_
 intro a hf
 have hW:Below w0.heap.size w0 w0:=Below.refl _ _
 refine Zs hf fun _ hK1=>?_
 refine Zf (X0p (zs:=[vi g.k,vi g.a,vi g.b]) rfl rfl) ?_;rintro _ w1 ⟨b2,rfl,hl2,hE,hB2⟩
 have hlo2:=Nat.le_trans hW.size hl2
 replace hW:=btr hW hE
 refine Zf (Xa (zs:=[vi 0,vi 0,vi 0,vi 0,vi 0]) X1n rfl) ?_;rintro _ w2 ⟨b3,rfl,hl3,hE,hB3⟩
 have hlo3:=Nat.le_trans hW.size hl3
 replace hB2:=hB2.below hE
 replace hW:=btr hW hE
 refine Zt hK1 fun a hf=>?_
 refine Zs hf fun _ hK4=>?_
 refine Zf (Vc (Xak _ 0) X4n) ?_;rintro _ w3 ⟨rfl,hE⟩
 replace hB2:=hB2.below hE
 replace hB3:=hB3.below hE
 replace hW:=btr hW hE
 refine Ze (Xh (ps:=[]) (cs:=[vi 0,vi 0,vi 0,vi 0,vi 0]) rfl (fun _=>by first|rfl|kernel_rfl)) ?_
 refine Zf (Xa (zs:=[vi 0,vi 0,vi 0,vi 0,vi 0]) X1n rfl) ?_;rintro _ w4 ⟨b5,rfl,hl5,hE,hB5⟩
 have hne3_5:b3≠b5:=by have:=hB3.lt;omega
 have hlo5:=Nat.le_trans hW.size hl5
 replace hB2:=hB2.below hE
 replace hB3:=hB3.below hE
 replace hW:=btr hW hE
 refine Zf (Xa (zs:=[vi 0,vi 0,vi 0,vi 0,vi 0]) X1n rfl) ?_;rintro _ w5 ⟨b6,rfl,hl6,hE,hB6⟩
 have hne3_6:b3≠b6:=by have:=hB3.lt;omega
 have hne5_6:b5≠b6:=by have:=hB5.lt;omega
 have hlo6:=Nat.le_trans hW.size hl6
 replace hB2:=hB2.below hE
 replace hB3:=hB3.below hE
 replace hB5:=hB5.below hE
 replace hW:=btr hW hE
 refine Zo (Vw [vi ((dPow 0).num.a),vi ((dPow 0).num.b),vi ((dPow 0).num.c),vi ((dPow 0).num.d),vi ((dPow 0).exp)] Xr hB5) ?_;rintro _ w6 ⟨ho,hb⟩
 have hold:=hB5
 replace hB2:=hB2.only ho (Blk.ne hB2 hold rfl)
 replace hB3:=hB3.only ho (by omega)
 replace hB6:=hB6.only ho (by omega)
 replace hW:=Below.only hW ho hlo5
 clear hold
 have hB5:=hb
 clear hb ho
 refine Zo (Vw [vi 0,vi 0,vi 0,vi 0,vi 0] Xr hB6) ?_;rintro _ w7 ⟨ho,hb⟩
 have hold:=hB6
 replace hB2:=hB2.only ho (Blk.ne hB2 hold rfl)
 replace hB3:=hB3.only ho (by omega)
 replace hB5:=hB5.only ho (by omega)
 replace hW:=Below.only hW ho hlo6
 clear hold
 have hB6:=hb
 clear hb ho
 refine Zt hK4 fun a hf=>?_
 refine Zs hf fun _ hK7=>?_
 refine Zm rfl<|Za rfl ?_
 refine Zt hK7 fun a hf=>?_
 refine wp_seq_k fun _ hK8=>?_
 refine Zs hf fun _ hK9=>?_
 refine Ze (Vd rfl X0g 0)<|Ze (X0 rfl X5 (hB2.at 0)) ?_
 refine Zt hK9 fun a hf=>?_
 refine wp_block ?_
 refine Zs hf fun _ hK10=>?_
 refine Ze (X0u rfl rfl)<|Za rfl ?_
 refine Zt hK10 fun a hf=>?_
 refine Xi hf rfl (fun hc11=>?_) (fun hc11=>?_)
 ·have hc11b:=hc11
  have hk:=eq_of_beq hc11
  have h8:¬ g.k≤8:=by omega
  have hto:toS n g col=col:=by simp [toS,hk]
  have hv:valS n g col=dPow 1:=by simp [valS,hk]
  refine Zr hf ?_
  refine Zf (Vc (Xak _ 1) X4n) ?_;rintro _ w8 ⟨rfl,hE⟩
  replace hB2:=hB2.below hE
  replace hB3:=hB3.below hE
  replace hB5:=hB5.below hE
  replace hB6:=hB6.below hE
  replace hW:=btr hW hE
  refine Zo (Vw [vi ((dPow 1).num.a),vi ((dPow 1).num.b),vi ((dPow 1).num.c),vi ((dPow 1).num.d),vi ((dPow 1).exp)] Xr hB5) ?_;rintro _ w9 ⟨ho,hb⟩
  have hold:=hB5
  replace hB2:=hB2.only ho (Blk.ne hB2 hold rfl)
  replace hB3:=hB3.only ho (by omega)
  replace hB6:=hB6.only ho (by omega)
  replace hW:=Below.only hW ho hlo5
  clear hold
  have hB5:=hb
  clear hb ho
  refine Zn fun a hf=>?_
  refine Xf ?_
  refine hK8 _ _ ?_
  refine wp_seq_k fun _ hK12=>?_
  refine Zs hf fun _ hK13=>?_
  refine Zm rfl<|Zm rfl<|Ze (X0u rfl rfl) ?_
  refine Zt hK13 fun a hf=>?_
  refine Xi hf rfl (fun hc14=>?_) (fun hc14=>?_)
  ·have hc14b:=hc14
   have hfin:cellS n g row col=valS n g col:=by rw [cellS,if_neg h8,if_pos ((eq_of_beq hc14).trans hto.symm)]
   rw [hv] at hfin
   refine Zs hf fun _ hK15=>?_
   refine Ze (Vn Xg hB5) ?_
   refine Zo (Vw [vi ((dPow 1).num.a),vi ((dPow 1).num.b),vi ((dPow 1).num.c),vi ((dPow 1).num.d),vi ((dPow 1).exp)] Xr hB3) ?_;rintro _ w10 ⟨ho,hb⟩
   have hold:=hB3
   replace hB5:=hB5.only ho (by omega)
   replace hB6:=hB6.only ho (by omega)
   replace hW:=Below.only hW ho hlo3
   clear hold
   have hB3:=hb
   clear hb ho
   refine Zt hK15 fun a hf=>?_
   refine wp_ret ?_
   refine X8 ?_
   refine X2 hf (Xo hf rfl (ResV.cellN (l:=[vi ((dPow 1).num.a),vi ((dPow 1).num.b),vi ((dPow 1).num.c),vi ((dPow 1).num.d),vi ((dPow 1).exp)]) rfl Xg (hB3.at 0) rfl)) ?_
   exact ⟨(by rw [hfin];try rfl),hW⟩
  have hc14b:=hc14
  have hfin:cellS n g row col=dZ:=by rw [cellS,if_neg h8,if_neg (fun e9=>X1c hc14 (e9.trans hto))]
  refine wp_skip ?_
  refine hK12 _ _ ?_
  refine Zs hf fun _ hK16=>?_
  refine Ze (Vn Xg hB6) ?_
  refine Zo (Vw [vi 0,vi 0,vi 0,vi 0,vi 0] Xr hB3) ?_;rintro _ w11 ⟨ho,hb⟩
  have hold:=hB3
  replace hB5:=hB5.only ho (by omega)
  replace hB6:=hB6.only ho (by omega)
  replace hW:=Below.only hW ho hlo3
  clear hold
  have hB3:=hb
  clear hb ho
  refine Zt hK16 fun a hf=>?_
  refine wp_ret (X2 hf (Xo hf rfl (ResV.cellN (l:=[vi 0,vi 0,vi 0,vi 0,vi 0]) rfl Xg (hB3.at 0) rfl)) ?_)
  exact ⟨(by rw [hfin];try rfl),hW⟩
 have hc11b:=hc11
 have h12:=X1c hc11
 refine Zs hf fun _ hK17=>?_
 refine Ze (X0u rfl rfl)<|Za rfl ?_
 refine Zt hK17 fun a hf=>?_
 refine Xi hf rfl (fun hc18=>?_) (fun hc18=>?_)
 ·have hc18b:=hc18
  have hk:=eq_of_beq hc18
  have h8:¬ g.k≤8:=by omega
  have hv:valS n g col=dPow 0:=by simp [valS,hk]
  refine Zs hf fun _ hK19=>?_
  refine Zm rfl<|Zm rfl<|Ze (Vd rfl X0t 1)<|Ze (X0 rfl X5 (hB2.at 1)) ?_
  refine Zf (Vc (Xby _ n col g.a (by omega) (by omega) (by omega)) X5e) ?_;rintro _ _ ⟨rfl,rfl⟩
  refine Ze (X0u rfl rfl) ?_
  refine Zt hK19 fun a hf=>?_
  refine Xi hf rfl (fun hc20=>?_) (fun hc20=>?_)
  ·have hc20b:=hc20
   have hto:toS n g col=flipF n col g.b:=by rw [toS,if_pos hk,if_pos (eq_of_beq hc20)]
   refine Zr hf ?_
   refine Zm rfl<|Zm rfl<|Ze (X1d rfl rfl (by omega) (by omega))<|Ze (Vd rfl X12 2)<|Ze (X0 rfl X5 (hB2.at 2)) ?_
   refine Ze (X1d rfl rfl (by omega) (by omega))<|Ze (Xc2 (m:=(n-1-g.b).toNat) Tryz.underlying3 Tryz.underlying165 rfl (by omega) (by omega))<|Ze (Xft (m:=(n-1-g.b).toNat) rfl rfl rfl (by omega))<|Ze (Xgh rfl rfl)<|Za rfl ?_
   refine Zn fun a hf=>?_
   refine Xf ?_
   refine hK8 _ _ ?_
   refine wp_seq_k fun _ hK21=>?_
   refine Zs hf fun _ hK22=>?_
   refine Zm rfl<|Zm rfl<|Ze (X0u rfl rfl) ?_
   refine Zt hK22 fun a hf=>?_
   refine Xi hf rfl (fun hc23=>?_) (fun hc23=>?_)
   ·have hc23b:=hc23
    have hfin:cellS n g row col=valS n g col:=by rw [cellS,if_neg h8,if_pos ((eq_of_beq hc23).trans hto.symm)]
    rw [hv] at hfin
    refine Zs hf fun _ hK24=>?_
    refine Ze (Vn Xg hB5) ?_
    refine Zo (Vw [vi ((dPow 0).num.a),vi ((dPow 0).num.b),vi ((dPow 0).num.c),vi ((dPow 0).num.d),vi ((dPow 0).exp)] Xr hB3) ?_;rintro _ w12 ⟨ho,hb⟩
    have hold:=hB3
    replace hB5:=hB5.only ho (by omega)
    replace hB6:=hB6.only ho (by omega)
    replace hW:=Below.only hW ho hlo3
    clear hold
    have hB3:=hb
    clear hb ho
    refine Zt hK24 fun a hf=>?_
    refine wp_ret ?_
    refine X8 ?_
    refine X2 hf (Xo hf rfl (ResV.cellN (l:=[vi ((dPow 0).num.a),vi ((dPow 0).num.b),vi ((dPow 0).num.c),vi ((dPow 0).num.d),vi ((dPow 0).exp)]) rfl Xg (hB3.at 0) rfl)) ?_
    exact ⟨(by rw [hfin];try rfl),hW⟩
   have hc23b:=hc23
   have hfin:cellS n g row col=dZ:=by rw [cellS,if_neg h8,if_neg (fun e9=>X1c hc23 (e9.trans hto))]
   refine wp_skip ?_
   refine hK21 _ _ ?_
   refine Zs hf fun _ hK25=>?_
   refine Ze (Vn Xg hB6) ?_
   refine Zo (Vw [vi 0,vi 0,vi 0,vi 0,vi 0] Xr hB3) ?_;rintro _ w13 ⟨ho,hb⟩
   have hold:=hB3
   replace hB5:=hB5.only ho (by omega)
   replace hB6:=hB6.only ho (by omega)
   replace hW:=Below.only hW ho hlo3
   clear hold
   have hB3:=hb
   clear hb ho
   refine Zt hK25 fun a hf=>?_
   refine wp_ret (X2 hf (Xo hf rfl (ResV.cellN (l:=[vi 0,vi 0,vi 0,vi 0,vi 0]) rfl Xg (hB3.at 0) rfl)) ?_)
   exact ⟨(by rw [hfin];try rfl),hW⟩
  have hc20b:=hc20
  have hto:toS n g col=col:=by rw [toS,if_pos hk,if_neg (X1c hc20)]
  refine wp_skip ?_
  refine Xf ?_
  refine hK8 _ _ ?_
  refine wp_seq_k fun _ hK26=>?_
  refine Zs hf fun _ hK27=>?_
  refine Zm rfl<|Zm rfl<|Ze (X0u rfl rfl) ?_
  refine Zt hK27 fun a hf=>?_
  refine Xi hf rfl (fun hc28=>?_) (fun hc28=>?_)
  ·have hc28b:=hc28
   have hfin:cellS n g row col=valS n g col:=by rw [cellS,if_neg h8,if_pos ((eq_of_beq hc28).trans hto.symm)]
   rw [hv] at hfin
   refine Zs hf fun _ hK29=>?_
   refine Ze (Vn Xg hB5) ?_
   refine Zo (Vw [vi ((dPow 0).num.a),vi ((dPow 0).num.b),vi ((dPow 0).num.c),vi ((dPow 0).num.d),vi ((dPow 0).exp)] Xr hB3) ?_;rintro _ w14 ⟨ho,hb⟩
   have hold:=hB3
   replace hB5:=hB5.only ho (by omega)
   replace hB6:=hB6.only ho (by omega)
   replace hW:=Below.only hW ho hlo3
   clear hold
   have hB3:=hb
   clear hb ho
   refine Zt hK29 fun a hf=>?_
   refine wp_ret ?_
   refine X8 ?_
   refine X2 hf (Xo hf rfl (ResV.cellN (l:=[vi ((dPow 0).num.a),vi ((dPow 0).num.b),vi ((dPow 0).num.c),vi ((dPow 0).num.d),vi ((dPow 0).exp)]) rfl Xg (hB3.at 0) rfl)) ?_
   exact ⟨(by rw [hfin];try rfl),hW⟩
  have hc28b:=hc28
  have hfin:cellS n g row col=dZ:=by rw [cellS,if_neg h8,if_neg (fun e9=>X1c hc28 (e9.trans hto))]
  refine wp_skip ?_
  refine hK26 _ _ ?_
  refine Zs hf fun _ hK30=>?_
  refine Ze (Vn Xg hB6) ?_
  refine Zo (Vw [vi 0,vi 0,vi 0,vi 0,vi 0] Xr hB3) ?_;rintro _ w15 ⟨ho,hb⟩
  have hold:=hB3
  replace hB5:=hB5.only ho (by omega)
  replace hB6:=hB6.only ho (by omega)
  replace hW:=Below.only hW ho hlo3
  clear hold
  have hB3:=hb
  clear hb ho
  refine Zt hK30 fun a hf=>?_
  refine wp_ret (X2 hf (Xo hf rfl (ResV.cellN (l:=[vi 0,vi 0,vi 0,vi 0,vi 0]) rfl Xg (hB3.at 0) rfl)) ?_)
  exact ⟨(by rw [hfin];try rfl),hW⟩
 have hc18b:=hc18
 have h9:=X1c hc18
 refine Zs hf fun _ hK31=>?_
 refine Ze (X0u rfl rfl)<|Za rfl ?_
 refine Zt hK31 fun a hf=>?_
 refine Xi hf rfl (fun hc32=>?_) (fun hc32=>?_)
 ·have hc32b:=hc32
  have hk:=eq_of_beq hc32
  have h8:¬ g.k≤8:=by omega
  have hto:toS n g col=col:=by simp [toS,hk]
  refine wp_seq_k fun _ hK33=>?_
  refine X09 (fun a w=>Fr a 119 [(2,vi row),(8,.pointer (some ⟨b3,0,none⟩)),(9,.pointer (some ⟨b5,0,none⟩)),(10,.pointer (some ⟨b6,0,none⟩)),(11,vi col),(82,.bool (((bitF n col g.a)==1)&&((bitF n col g.b)==1)))]∧w7=w) ?_ ?_
  ·refine Zr hf ?_
   refine Zm rfl<|Zm rfl<|Ze (Vd rfl X0t 1)<|Ze (X0 rfl X5 (hB2.at 1)) ?_
   refine Zf (Vc (Xby _ n col g.a (by omega) (by omega) (by omega)) X5e) ?_;rintro _ _ ⟨rfl,rfl⟩
   refine Ze (X0u rfl rfl)<|Zm rfl ?_
   refine Zg 75 rfl (fun hg34=>?_) (fun hg34=>?_)
   ·refine Zv ⟨_,_,rfl,rfl,hg34⟩ (X9 rfl) ?_
    refine Zv ⟨_,_,rfl,rfl,hg34⟩ (X9 rfl) ?_
    refine Zv ⟨_,_,rfl,rfl,hg34⟩ (Vd rfl X12 2) ?_
    refine Zv ⟨_,_,rfl,rfl,hg34⟩ (X0 rfl X5 (hB2.at 2)) ?_
    refine Zk ⟨_,_,rfl,rfl,hg34⟩ (Vc (Xby _ n col g.b (by omega) (by omega) (by omega)) X5e) ?_;rintro _ _ ⟨rfl,rfl⟩
    refine Zv ⟨_,_,rfl,rfl,hg34⟩ (X0u rfl rfl) ?_
    refine Ze (Xc rfl hg34 rfl) ?_
    refine Zn fun a hf=>?_
    exact ⟨hf.sub ⟨rfl,rfl,rfl,rfl,rfl,X1 rfl (by first|rfl|(simp only [hc11b,hc18b,hc32b,hg34,bs];done)|simp [hc11b,hc18b,hc32b,hg34]),trivial⟩,rfl⟩
   refine Zp ⟨_,_,rfl,rfl,hg34⟩ ?_
   refine Zp ⟨_,_,rfl,rfl,hg34⟩ ?_
   refine Zp ⟨_,_,rfl,rfl,hg34⟩ ?_
   refine Zp ⟨_,_,rfl,rfl,hg34⟩ ?_
   refine Zp ⟨_,_,rfl,rfl,hg34⟩ ?_
   refine Zp ⟨_,_,rfl,rfl,hg34⟩ ?_
   refine Ze (X7 rfl hg34 rfl) ?_
   refine Zn fun a hf=>?_
   exact ⟨hf.sub ⟨rfl,rfl,rfl,rfl,rfl,X1 rfl (by first|rfl|(simp only [hc11b,hc18b,hc32b,hg34,bs];done)|simp [hc11b,hc18b,hc32b,hg34]),trivial⟩,rfl⟩
  rintro a _ ⟨hf,rfl⟩
  refine hK33 _ _ ?_
  refine Xi hf rfl (fun hc35=>?_) (fun hc35=>?_)
  ·have hc35b:=hc35
   have hv:valS n g col=dPow 4:=by have h9:bitF n col g.a=1∧bitF n col g.b=1:=(by simpa using hc35);simp [valS,hk,h9]
   refine Zr hf ?_
   refine Zf (Vc (Xak _ 4) X4n) ?_;rintro _ w16 ⟨rfl,hE⟩
   replace hB3:=hB3.below hE
   replace hB5:=hB5.below hE
   replace hB6:=hB6.below hE
   replace hW:=btr hW hE
   refine Zo (Vw [vi ((dPow 4).num.a),vi ((dPow 4).num.b),vi ((dPow 4).num.c),vi ((dPow 4).num.d),vi ((dPow 4).exp)] Xr hB5) ?_;rintro _ w17 ⟨ho,hb⟩
   have hold:=hB5
   replace hB3:=hB3.only ho (by omega)
   replace hB6:=hB6.only ho (by omega)
   replace hW:=Below.only hW ho hlo5
   clear hold
   have hB5:=hb
   clear hb ho
   refine Zn fun a hf=>?_
   refine Xf ?_
   refine hK8 _ _ ?_
   refine wp_seq_k fun _ hK36=>?_
   refine Zs hf fun _ hK37=>?_
   refine Zm rfl<|Zm rfl<|Ze (X0u rfl rfl) ?_
   refine Zt hK37 fun a hf=>?_
   refine Xi hf rfl (fun hc38=>?_) (fun hc38=>?_)
   ·have hc38b:=hc38
    have hfin:cellS n g row col=valS n g col:=by rw [cellS,if_neg h8,if_pos ((eq_of_beq hc38).trans hto.symm)]
    rw [hv] at hfin
    refine Zs hf fun _ hK39=>?_
    refine Ze (Vn Xg hB5) ?_
    refine Zo (Vw [vi ((dPow 4).num.a),vi ((dPow 4).num.b),vi ((dPow 4).num.c),vi ((dPow 4).num.d),vi ((dPow 4).exp)] Xr hB3) ?_;rintro _ w18 ⟨ho,hb⟩
    have hold:=hB3
    replace hB5:=hB5.only ho (by omega)
    replace hB6:=hB6.only ho (by omega)
    replace hW:=Below.only hW ho hlo3
    clear hold
    have hB3:=hb
    clear hb ho
    refine Zt hK39 fun a hf=>?_
    refine wp_ret ?_
    refine X8 ?_
    refine X2 hf (Xo hf rfl (ResV.cellN (l:=[vi ((dPow 4).num.a),vi ((dPow 4).num.b),vi ((dPow 4).num.c),vi ((dPow 4).num.d),vi ((dPow 4).exp)]) rfl Xg (hB3.at 0) rfl)) ?_
    exact ⟨(by rw [hfin];try rfl),hW⟩
   have hc38b:=hc38
   have hfin:cellS n g row col=dZ:=by rw [cellS,if_neg h8,if_neg (fun e9=>X1c hc38 (e9.trans hto))]
   refine wp_skip ?_
   refine hK36 _ _ ?_
   refine Zs hf fun _ hK40=>?_
   refine Ze (Vn Xg hB6) ?_
   refine Zo (Vw [vi 0,vi 0,vi 0,vi 0,vi 0] Xr hB3) ?_;rintro _ w19 ⟨ho,hb⟩
   have hold:=hB3
   replace hB5:=hB5.only ho (by omega)
   replace hB6:=hB6.only ho (by omega)
   replace hW:=Below.only hW ho hlo3
   clear hold
   have hB3:=hb
   clear hb ho
   refine Zt hK40 fun a hf=>?_
   refine wp_ret (X2 hf (Xo hf rfl (ResV.cellN (l:=[vi 0,vi 0,vi 0,vi 0,vi 0]) rfl Xg (hB3.at 0) rfl)) ?_)
   exact ⟨(by rw [hfin];try rfl),hW⟩
  have hc35b:=hc35
  have hv:valS n g col=dPow 0:=by have h9:¬ (bitF n col g.a=1∧bitF n col g.b=1):=(by simpa using hc35);simp only [valS,hk,h9];simp
  refine wp_skip ?_
  refine Xf ?_
  refine hK8 _ _ ?_
  refine wp_seq_k fun _ hK41=>?_
  refine Zs hf fun _ hK42=>?_
  refine Zm rfl<|Zm rfl<|Ze (X0u rfl rfl) ?_
  refine Zt hK42 fun a hf=>?_
  refine Xi hf rfl (fun hc43=>?_) (fun hc43=>?_)
  ·have hc43b:=hc43
   have hfin:cellS n g row col=valS n g col:=by rw [cellS,if_neg h8,if_pos ((eq_of_beq hc43).trans hto.symm)]
   rw [hv] at hfin
   refine Zs hf fun _ hK44=>?_
   refine Ze (Vn Xg hB5) ?_
   refine Zo (Vw [vi ((dPow 0).num.a),vi ((dPow 0).num.b),vi ((dPow 0).num.c),vi ((dPow 0).num.d),vi ((dPow 0).exp)] Xr hB3) ?_;rintro _ w20 ⟨ho,hb⟩
   have hold:=hB3
   replace hB5:=hB5.only ho (by omega)
   replace hB6:=hB6.only ho (by omega)
   replace hW:=Below.only hW ho hlo3
   clear hold
   have hB3:=hb
   clear hb ho
   refine Zt hK44 fun a hf=>?_
   refine wp_ret ?_
   refine X8 ?_
   refine X2 hf (Xo hf rfl (ResV.cellN (l:=[vi ((dPow 0).num.a),vi ((dPow 0).num.b),vi ((dPow 0).num.c),vi ((dPow 0).num.d),vi ((dPow 0).exp)]) rfl Xg (hB3.at 0) rfl)) ?_
   exact ⟨(by rw [hfin];try rfl),hW⟩
  have hc43b:=hc43
  have hfin:cellS n g row col=dZ:=by rw [cellS,if_neg h8,if_neg (fun e9=>X1c hc43 (e9.trans hto))]
  refine wp_skip ?_
  refine hK41 _ _ ?_
  refine Zs hf fun _ hK45=>?_
  refine Ze (Vn Xg hB6) ?_
  refine Zo (Vw [vi 0,vi 0,vi 0,vi 0,vi 0] Xr hB3) ?_;rintro _ w21 ⟨ho,hb⟩
  have hold:=hB3
  replace hB5:=hB5.only ho (by omega)
  replace hB6:=hB6.only ho (by omega)
  replace hW:=Below.only hW ho hlo3
  clear hold
  have hB3:=hb
  clear hb ho
  refine Zt hK45 fun a hf=>?_
  refine wp_ret (X2 hf (Xo hf rfl (ResV.cellN (l:=[vi 0,vi 0,vi 0,vi 0,vi 0]) rfl Xg (hB3.at 0) rfl)) ?_)
  exact ⟨(by rw [hfin];try rfl),hW⟩
 have hc32b:=hc32
 have h10:=X1c hc32
 refine Zs hf fun _ hK46=>?_
 refine Ze (X0u rfl rfl)<|Za rfl ?_
 refine Zt hK46 fun a hf=>?_
 refine Xi hf rfl (fun hc47=>?_) (fun hc47=>?_)
 ·have hc47b:=hc47
  have hk:=eq_of_beq hc47
  have h8:¬ g.k≤8:=by omega
  have hv:valS n g col=dPow 0:=by simp [valS,hk]
  refine wp_seq_k fun _ hK48=>?_
  refine Xu none (fun _=>false) mixed ?_
  intro w22 hE
  replace hB2:=hB2.below hE
  replace hB3:=hB3.below hE
  replace hB5:=hB5.below hE
  replace hB6:=hB6.below hE
  replace hW:=btr hW hE
  refine Yb hf ?_
  refine Yo 0 rfl (fun _=>X9 rfl)<|Yo 1 rfl (fun _=>X9 rfl)<|Yo 2 rfl (fun _=>Vd rfl X0t 1)<|Ye 3 rfl (X0 rfl X5 (hB2.at 1))<|Yo 5 rfl (fun _=>X9 rfl) ?_
  refine Yo 6 rfl (fun _=>X9 rfl)<|Yo 7 rfl (fun _=>Vd rfl X12 2)<|Ye 8 rfl (X0 rfl X5 (hB2.at 2)) ?_
  refine Y1 4 ?_
  refine Yz rfl trivial (Vc (Xby _ n col g.a (by omega) (by omega) (by omega)) X5e) ?_
  refine Y1 9 ?_
  refine Yz rfl trivial (Vc (Xby _ n col g.b (by omega) (by omega) (by omega)) X5e) ?_
  refine Yo 10 rfl (fun _=>X2z rfl rfl) ?_
  refine Yd fun a hf=>?_
  refine hK48 _ _ ?_
  refine Xi hf rfl (fun hc49=>?_) (fun hc49=>?_)
  ·have hc49b:=hc49
   have hto:toS n g col=flipF n (flipF n col g.a) g.b:=by have h9:bitF n col g.a≠bitF n col g.b:=(by simpa using hc49);simp [toS,hk,h9]
   refine Zr hf ?_
   refine Zm rfl<|Zm rfl<|Ze (X1d rfl rfl (by omega) (by omega))<|Ze (Vd rfl X0t 1)<|Ze (X0 rfl X5 (hB2.at 1)) ?_
   refine Ze (X1d rfl rfl (by omega) (by omega))<|Ze (Xc2 (m:=(n-1-g.a).toNat) Tryz.underlying3 Tryz.underlying165 rfl (by omega) (by omega))<|Ze (Xft (m:=(n-1-g.a).toNat) rfl rfl rfl (by omega))<|Ze (Xgh rfl rfl)<|Zm rfl ?_
   refine Ze (X1d rfl rfl (by omega) (by omega))<|Ze (Vd rfl X12 2)<|Ze (X0 rfl X5 (hB2.at 2))<|Ze (X1d rfl rfl (by omega) (by omega))<|Ze (Xc2 (m:=(n-1-g.b).toNat) Tryz.underlying3 Tryz.underlying165 rfl (by omega) (by omega)) ?_
   refine Ze (Xft (m:=(n-1-g.b).toNat) rfl rfl rfl (by omega))<|Ze (Xgh rfl rfl)<|Za rfl ?_
   refine Zn fun a hf=>?_
   refine Xf ?_
   refine hK8 _ _ ?_
   refine wp_seq_k fun _ hK50=>?_
   refine Zs hf fun _ hK51=>?_
   refine Zm rfl<|Zm rfl<|Ze (X0u rfl rfl) ?_
   refine Zt hK51 fun a hf=>?_
   refine Xi hf rfl (fun hc52=>?_) (fun hc52=>?_)
   ·have hc52b:=hc52
    have hfin:cellS n g row col=valS n g col:=by rw [cellS,if_neg h8,if_pos ((eq_of_beq hc52).trans hto.symm)]
    rw [hv] at hfin
    refine Zs hf fun _ hK53=>?_
    refine Ze (Vn Xg hB5) ?_
    refine Zo (Vw [vi ((dPow 0).num.a),vi ((dPow 0).num.b),vi ((dPow 0).num.c),vi ((dPow 0).num.d),vi ((dPow 0).exp)] Xr hB3) ?_;rintro _ w23 ⟨ho,hb⟩
    have hold:=hB3
    replace hB5:=hB5.only ho (by omega)
    replace hB6:=hB6.only ho (by omega)
    replace hW:=Below.only hW ho hlo3
    clear hold
    have hB3:=hb
    clear hb ho
    refine Zt hK53 fun a hf=>?_
    refine wp_ret ?_
    refine X8 ?_
    refine X2 hf (Xo hf rfl (ResV.cellN (l:=[vi ((dPow 0).num.a),vi ((dPow 0).num.b),vi ((dPow 0).num.c),vi ((dPow 0).num.d),vi ((dPow 0).exp)]) rfl Xg (hB3.at 0) rfl)) ?_
    exact ⟨(by rw [hfin];try rfl),hW⟩
   have hc52b:=hc52
   have hfin:cellS n g row col=dZ:=by rw [cellS,if_neg h8,if_neg (fun e9=>X1c hc52 (e9.trans hto))]
   refine wp_skip ?_
   refine hK50 _ _ ?_
   refine Zs hf fun _ hK54=>?_
   refine Ze (Vn Xg hB6) ?_
   refine Zo (Vw [vi 0,vi 0,vi 0,vi 0,vi 0] Xr hB3) ?_;rintro _ w24 ⟨ho,hb⟩
   have hold:=hB3
   replace hB5:=hB5.only ho (by omega)
   replace hB6:=hB6.only ho (by omega)
   replace hW:=Below.only hW ho hlo3
   clear hold
   have hB3:=hb
   clear hb ho
   refine Zt hK54 fun a hf=>?_
   refine wp_ret (X2 hf (Xo hf rfl (ResV.cellN (l:=[vi 0,vi 0,vi 0,vi 0,vi 0]) rfl Xg (hB3.at 0) rfl)) ?_)
   exact ⟨(by rw [hfin];try rfl),hW⟩
  have hc49b:=hc49
  have hto:toS n g col=col:=by have h9:bitF n col g.a=bitF n col g.b:=(by simpa using hc49);simp [toS,hk,h9]
  refine wp_skip ?_
  refine Xf ?_
  refine hK8 _ _ ?_
  refine wp_seq_k fun _ hK55=>?_
  refine Zs hf fun _ hK56=>?_
  refine Zm rfl<|Zm rfl<|Ze (X0u rfl rfl) ?_
  refine Zt hK56 fun a hf=>?_
  refine Xi hf rfl (fun hc57=>?_) (fun hc57=>?_)
  ·have hc57b:=hc57
   have hfin:cellS n g row col=valS n g col:=by rw [cellS,if_neg h8,if_pos ((eq_of_beq hc57).trans hto.symm)]
   rw [hv] at hfin
   refine Zs hf fun _ hK58=>?_
   refine Ze (Vn Xg hB5) ?_
   refine Zo (Vw [vi ((dPow 0).num.a),vi ((dPow 0).num.b),vi ((dPow 0).num.c),vi ((dPow 0).num.d),vi ((dPow 0).exp)] Xr hB3) ?_;rintro _ w25 ⟨ho,hb⟩
   have hold:=hB3
   replace hB5:=hB5.only ho (by omega)
   replace hB6:=hB6.only ho (by omega)
   replace hW:=Below.only hW ho hlo3
   clear hold
   have hB3:=hb
   clear hb ho
   refine Zt hK58 fun a hf=>?_
   refine wp_ret ?_
   refine X8 ?_
   refine X2 hf (Xo hf rfl (ResV.cellN (l:=[vi ((dPow 0).num.a),vi ((dPow 0).num.b),vi ((dPow 0).num.c),vi ((dPow 0).num.d),vi ((dPow 0).exp)]) rfl Xg (hB3.at 0) rfl)) ?_
   exact ⟨(by rw [hfin];try rfl),hW⟩
  have hc57b:=hc57
  have hfin:cellS n g row col=dZ:=by rw [cellS,if_neg h8,if_neg (fun e9=>X1c hc57 (e9.trans hto))]
  refine wp_skip ?_
  refine hK55 _ _ ?_
  refine Zs hf fun _ hK59=>?_
  refine Ze (Vn Xg hB6) ?_
  refine Zo (Vw [vi 0,vi 0,vi 0,vi 0,vi 0] Xr hB3) ?_;rintro _ w26 ⟨ho,hb⟩
  have hold:=hB3
  replace hB5:=hB5.only ho (by omega)
  replace hB6:=hB6.only ho (by omega)
  replace hW:=Below.only hW ho hlo3
  clear hold
  have hB3:=hb
  clear hb ho
  refine Zt hK59 fun a hf=>?_
  refine wp_ret (X2 hf (Xo hf rfl (ResV.cellN (l:=[vi 0,vi 0,vi 0,vi 0,vi 0]) rfl Xg (hB3.at 0) rfl)) ?_)
  exact ⟨(by rw [hfin];try rfl),hW⟩
 have hc47b:=hc47
 have h11:=X1c hc47
 have h8:g.k≤8:=by omega
 refine wp_seq_k fun _ hK60=>?_
 refine Zs hf fun _ hK61=>?_
 refine Zm rfl<|Zm rfl<|Ze (Xgh rfl rfl)<|Zm rfl<|Ze (X1d rfl rfl (by omega) (by omega)) ?_
 refine Ze (Vd rfl X0t 1)<|Ze (X0 rfl X5 (hB2.at 1))<|Ze (X1d rfl rfl (by omega) (by omega))<|Ze (Xc2 (m:=(n-1-g.a).toNat) Tryz.underlying3 Tryz.underlying165 rfl (by omega) (by omega))<|Ze (Xft (m:=(n-1-g.a).toNat) rfl rfl rfl (by omega)) ?_
 refine Ze (Xi5 rfl rfl)<|Ze (X2z rfl rfl) ?_
 refine Zt hK61 fun a hf=>?_
 refine Xi hf rfl (fun hc62=>?_) (fun hc62=>?_)
 ·have hc62b:=hc62
  have hfin:cellS n g row col=dZ:=by rw [cellS,if_pos h8,if_pos (by simpa using hc62)]
  refine Zs hf fun _ hK63=>?_
  refine Ze (Vn Xg hB6) ?_
  refine Zo (Vw [vi 0,vi 0,vi 0,vi 0,vi 0] Xr hB3) ?_;rintro _ w27 ⟨ho,hb⟩
  have hold:=hB3
  replace hB2:=hB2.only ho (Blk.ne hB2 hold rfl)
  replace hB6:=hB6.only ho (by omega)
  replace hW:=Below.only hW ho hlo3
  clear hold
  have hB3:=hb
  clear hb ho
  refine Zt hK63 fun a hf=>?_
  refine wp_ret ?_
  refine X8 ?_
  refine Xy ?_
  refine X8 ?_
  refine X2 hf (Xo hf rfl (ResV.cellN (l:=[vi 0,vi 0,vi 0,vi 0,vi 0]) rfl Xg (hB3.at 0) rfl)) ?_
  exact ⟨(by rw [hfin];try rfl),hW⟩
 have hc62b:=hc62
 have hfin:cellS n g row col=(oneL g.k).getD (2*bitF n row g.a+bitF n col g.a).toNat dZ:=by rw [cellS,if_pos h8,if_neg (by simpa using hc62)]
 refine wp_skip ?_
 refine hK60 _ _ ?_
 refine wp_seq_k fun _ hK64=>?_
 refine Xu none (fun j=>[17].contains j) mixed ?_
 intro w28 hE
 replace hB2:=hB2.below hE
 replace hB3:=hB3.below hE
 replace hB6:=hB6.below hE
 replace hW:=btr hW hE
 refine Yb hf ?_
 refine Yo 0 rfl (fun _=>Vd rfl X0g 0)<|Ye 1 rfl (X0 rfl X5 (hB2.at 0))<|Yo 3 rfl (fun _=>X9 rfl)<|Yo 4 rfl (fun _=>X9 rfl)<|Yo 5 rfl (fun _=>Vd rfl X0t 1) ?_
 refine Ye 6 rfl (X0 rfl X5 (hB2.at 1))<|Yo 9 rfl (fun _=>X9 rfl)<|Yo 10 rfl (fun _=>X9 rfl)<|Yo 11 rfl (fun _=>Vd rfl X0t 1)<|Ye 12 rfl (X0 rfl X5 (hB2.at 1)) ?_
 refine Y1 2 ?_
 refine Yk rfl trivial (Vc (Xp1 _ g.k (by omega)) Xjv) (fun _ _ ⟨A65,c65,_,ho65,hE⟩=>hE) ?_;rintro _ w29 ⟨A65,c65,rfl,ho65,hE⟩
 have haw65_3:=ho65.awayNew hB3.lt
 have haw65_6:=ho65.awayNew hB6.lt
 replace ho65:=ho65.lower hW.size
 replace hB2:=hB2.below hE
 replace hB3:=hB3.below hE
 replace hB6:=hB6.below hE
 replace hW:=btr hW hE
 refine Y1 7 ?_
 refine Yz rfl trivial (Vc (Xby _ n row g.a (by omega) (by omega) (by omega)) X5e) ?_
 refine Yo 8 rfl (fun _=>X8o rfl rfl (by omega) (by omega)) ?_
 refine Y1 13 ?_
 refine Yz rfl trivial (Vc (Xby _ n col g.a (by omega) (by omega) (by omega)) X5e) ?_
 refine Yo 14 rfl (fun _=>Xv rfl rfl (by omega) (by omega)) ?_
 refine Yi (k:=(2*bitF n row g.a+bitF n col g.a).toNat) (u:=((oneL g.k).getD (2*bitF n row g.a+bitF n col g.a).toNat dZ)) (enc:=encD) (l:=(oneL g.k)) 15 rfl trivial rfl rfl X1j Xr X1e ho65.rd (Xfd (by omega)) (by omega) ?_;intro p67 hat66
 refine Ye 16 rfl (Xj (l:=[vi (((oneL g.k).getD (2*bitF n row g.a+bitF n col g.a).toNat dZ).num.a),vi (((oneL g.k).getD (2*bitF n row g.a+bitF n col g.a).toNat dZ).num.b),vi (((oneL g.k).getD (2*bitF n row g.a+bitF n col g.a).toNat dZ).num.c),vi (((oneL g.k).getD (2*bitF n row g.a+bitF n col g.a).toNat dZ).num.d),vi (((oneL g.k).getD (2*bitF n row g.a+bitF n col g.a).toNat dZ).exp)]) rfl Xg hat66 rfl) ?_
 refine Y1 17 ?_
 refine Yh rfl trivial rfl (Vw [vi (((oneL g.k).getD (2*bitF n row g.a+bitF n col g.a).toNat dZ).num.a),vi (((oneL g.k).getD (2*bitF n row g.a+bitF n col g.a).toNat dZ).num.b),vi (((oneL g.k).getD (2*bitF n row g.a+bitF n col g.a).toNat dZ).num.c),vi (((oneL g.k).getD (2*bitF n row g.a+bitF n col g.a).toNat dZ).num.d),vi (((oneL g.k).getD (2*bitF n row g.a+bitF n col g.a).toNat dZ).exp)] Xr hB3) ?_;rintro _ w30 ⟨ho,hb⟩
 have hold:=hB3
 replace hB2:=hB2.only ho (Blk.ne hB2 hold rfl)
 replace hB6:=hB6.only ho (by omega)
 replace ho65:=ho65.onlyA ho haw65_3
 replace hW:=Below.only hW ho hlo3
 clear hold
 have hB3:=hb
 clear hb ho
 refine Yd fun a hf=>?_
 refine hK64 _ _ ?_
 refine wp_ret ?_
 refine Xy ?_
 refine X8 ?_
 refine X2 hf (Xo hf rfl (ResV.cellN (l:=[vi (((oneL g.k).getD (2*bitF n row g.a+bitF n col g.a).toNat dZ).num.a),vi (((oneL g.k).getD (2*bitF n row g.a+bitF n col g.a).toNat dZ).num.b),vi (((oneL g.k).getD (2*bitF n row g.a+bitF n col g.a).toNat dZ).num.c),vi (((oneL g.k).getD (2*bitF n row g.a+bitF n col g.a).toNat dZ).num.d),vi (((oneL g.k).getD (2*bitF n row g.a+bitF n col g.a).toNat dZ).exp)]) rfl Xg (hB3.at 0) rfl)) ?_
 exact ⟨(by rw [hfin];try rfl),hW⟩
end Go.Proofs.YtlfjcmldfbfdbaaGreat
set_option maxRecDepth 4000
namespace Go.Proofs.YtlfjcmldfbfdbaaGreat
open Go.RowKit
theorem Xoy(w0:World)(n:Int)(g:Gt)(hg:gOk n g=true) : Ret Tryz.prog 125 [vi n,.agg #[vi g.k,vi g.a,vi g.b]] w0 (fun v w=>∃ A c,v=mV A c (gateS n g)∧Own w w0.heap.size 98 5 encD A c (gateS n g).cells∧Below w0.heap.size w0 w):=by
 have hg2:=X1p hg
 obtain ⟨d,hd⟩ : ∃ d:Nat,d=2^n.toNat:=⟨_,rfl⟩
 have hd32:d≤32:=by rw [hd];exact X4i hg2.1.2
 refine enter Tryz.func125 rfl 36 rfl rfl ?_
 intro a hf
 have hW:Below w0.heap.size w0 w0:=Below.refl _ _
 refine Zs hf fun _ hK1=>?_
 refine Zf (X0p (zs:=[vi g.k,vi g.a,vi g.b]) rfl rfl) ?_;rintro _ w1 ⟨b2,rfl,hl2,hE,hB2⟩
 have hlo2:=Nat.le_trans hW.size hl2
 replace hW:=btr hW hE
 refine Zf (Xa (zs:=[vi 0,vi 0,.slice none 0 0]) X1y rfl) ?_;rintro _ w2 ⟨b4,rfl,hl4,hE,hB4⟩
 have hlo4:=Nat.le_trans hW.size hl4
 replace hB2:=hB2.below hE
 replace hW:=btr hW hE
 refine Zt hK1 fun a hf=>?_
 refine Zs hf fun _ hK5=>?_
 refine Zm rfl<|Ze (Xc2 (m:=n.toNat) Tryz.underlying3 Tryz.underlying165 rfl (by omega) (by omega))<|Ze (Xb1 (m:=n.toNat) (D:=d) rfl rfl rfl ⟨hd,by omega⟩)<|Za rfl ?_
 refine Zt hK5 fun a hf=>?_
 refine Zs hf fun _ hK6=>?_
 refine Zm rfl<|Zm rfl<|Ze (Xh (ps:=[(0,vi (d:Int)),(1,vi (d:Int))]) (cs:=[vi (d:Int),vi (d:Int),.slice none 0 0]) rfl (fun _=>by first|rfl|kernel_rfl)) ?_
 refine Zf (Xa (zs:=[vi 0,vi 0,.slice none 0 0]) X1y rfl) ?_;rintro _ w3 ⟨b9,rfl,hl9,hE,hB9⟩
 have hne4_9:b4≠b9:=by have:=hB4.lt;omega
 have hlo9:=Nat.le_trans hW.size hl9
 replace hB2:=hB2.below hE
 replace hB4:=hB4.below hE
 replace hW:=btr hW hE
 refine Zo (Vw [vi (d:Int),vi (d:Int),.slice none 0 0] X18 hB9) ?_;rintro _ w4 ⟨ho,hb⟩
 have hold:=hB9
 replace hB2:=hB2.only ho (Blk.ne hB2 hold rfl)
 replace hB4:=hB4.only ho (by omega)
 replace hW:=Below.only hW ho hlo9
 clear hold
 have hB9:=hb
 clear hb ho
 refine Zt hK6 fun a hf=>?_
 refine wp_seq_k fun _ hK10=>?_
 refine Zs hf fun _ hK11=>?_
 refine Za rfl ?_
 refine Zt hK11 fun a hf=>?_
 refine wp_block ?_
 refine X0j (σ:=Nat×(List Dy)) (fun (s:Nat×(List Dy)) (a:Act) (w:World)=>match s with|(i,l)=>∃ A12 c12,Fr a 36 [(0,vi n),(3,.pointer (some ⟨b2,0,none⟩)),(4,.pointer (some ⟨b4,0,none⟩)),(5,vi (d:Int)),(6,.pointer (some ⟨b9,0,none⟩)),(7,vi (i:Int))]∧(i≤d)∧(gridL (fun i j=>cellS n g (i:Int) (j:Int)) d (i*d)=l)∧Blk w b2 24 [vi g.k,vi g.a,vi g.b]∧Blk w b4 38 [vi 0,vi 0,.slice none 0 0]∧Blk w b9 38 [vi (d:Int),vi (d:Int),.slice A12 l.length c12]∧Own w w0.heap.size 98 5 encD A12 c12 l∧Below w0.heap.size w0 w) (fun (s:Nat×(List Dy))=>match s with|(i,l)=>d-i) (0,[]) ?_ ?_
 ·exact ⟨none,0,hf.sub ⟨rfl,rfl,rfl,rfl,rfl,rfl,trivial⟩,(Nat.zero_le _),(by rw [Nat.zero_mul];rfl),hB2,hB4,hB9,(Own.nil _ _ _ _ _),hW⟩
 rintro ⟨i,l⟩ a w5 ⟨A12,c12,hf,hiR,hl,hB2,hB4,hB9,ho12,hW⟩
 refine wp_seq_k fun _ hK13=>?_
 refine Zs hf fun _ hK14=>?_
 refine Zm rfl<|Zm rfl<|Ze (X1k rfl rfl) ?_
 refine Zt hK14 fun a hf=>?_
 refine Xi hf rfl (fun hc15=>?_) (fun hc15=>?_)
 ·have hc15b:=hc15
  have hc15:=of_decide_eq_true hc15
  have hi1:i<d:=by have:=hc15;omega
  have hb1:i*d≤1024:=Nat.le_trans (Nat.mul_le_mul (show i≤32 by omega) hd32) (by decide)
  refine wp_skip ?_
  refine hK13 _ _ ?_
  refine wp_seq_k fun _ hK16=>?_
  refine wp_block ?_
  refine Zs hf fun _ hK17=>?_
  refine Za rfl ?_
  refine Zt hK17 fun a hf=>?_
  refine wp_block ?_
  refine X0j (σ:=Nat×(List Dy)) (fun (s:Nat×(List Dy)) (a:Act) (w:World)=>match s with|(j,l2)=>∃ A18 c18,Fr a 36 [(0,vi n),(3,.pointer (some ⟨b2,0,none⟩)),(4,.pointer (some ⟨b4,0,none⟩)),(5,vi (d:Int)),(6,.pointer (some ⟨b9,0,none⟩)),(7,vi (i:Int)),(8,vi (j:Int))]∧(j≤d)∧(gridL (fun i j=>cellS n g (i:Int) (j:Int)) d (i*d+j)=l2)∧Blk w b2 24 [vi g.k,vi g.a,vi g.b]∧Blk w b4 38 [vi 0,vi 0,.slice none 0 0]∧Blk w b9 38 [vi (d:Int),vi (d:Int),.slice A18 l2.length c18]∧Own w w0.heap.size 98 5 encD A18 c18 l2∧Below w0.heap.size w0 w) (fun (s:Nat×(List Dy))=>match s with|(j,l2)=>d-j) (0,l) ?_ ?_
  ·exact ⟨A12,c12,hf.sub ⟨rfl,rfl,rfl,rfl,rfl,rfl,rfl,trivial⟩,(Nat.zero_le _),hl,hB2,hB4,hB9,ho12,hW⟩
  rintro ⟨j,l2⟩ a w6 ⟨A18,c18,hf,hjC,hl2,hB2,hB4,hB9,ho18,hW⟩
  refine wp_seq_k fun _ hK19=>?_
  refine Zs hf fun _ hK20=>?_
  refine Zm rfl<|Zm rfl<|Ze (X1k rfl rfl) ?_
  refine Zt hK20 fun a hf=>?_
  refine Xi hf rfl (fun hc21=>?_) (fun hc21=>?_)
  ·have hc21b:=hc21
   have hc21:=of_decide_eq_true hc21
   have hj1:j<d:=by have:=hc21;omega
   have hlen:l2.length=i*d+j:=by rw [← hl2,X4z]
   refine wp_skip ?_
   refine hK19 _ _ ?_
   refine wp_seq_k fun _ hK22=>?_
   refine wp_block ?_
   refine Xu none (fun j=>[8,10].contains j) mixed ?_
   intro w7 hE
   replace hB2:=hB2.below hE
   replace hB4:=hB4.below hE
   replace hB9:=hB9.below hE
   replace ho18:=ho18.below hE
   replace hW:=btr hW hE
   refine Yb hf ?_
   refine Yo 0 rfl (fun _=>Vd rfl X1o 2)<|Ye 1 rfl (X0 rfl X2p (hB9.at 2))<|Yo 2 rfl (fun _=>X9 rfl)<|Ye 3 rfl (Vn X08 hB2)<|Yo 4 rfl (fun _=>X9 rfl) ?_
   refine Yo 5 rfl (fun _=>X9 rfl) ?_
   refine Y1 6 ?_
   refine Yk rfl trivial (Vc (Xoa _ n g (i:Int) (j:Int) hg) Xlh) (fun _ _ ⟨_,hE⟩=>hE) ?_;rintro _ w8 ⟨rfl,hE⟩
   replace hB2:=hB2.below hE
   replace hB4:=hB4.below hE
   replace hB9:=hB9.below hE
   replace ho18:=ho18.below hE
   replace hW:=btr hW hE
   refine Y1 7 ?_
   refine Yk rfl trivial (X4 (k:=1) (vs:=[.agg #[vi ((cellS n g (i:Int) (j:Int)).num.a),vi ((cellS n g (i:Int) (j:Int)).num.b),vi ((cellS n g (i:Int) (j:Int)).num.c),vi ((cellS n g (i:Int) (j:Int)).num.d),vi ((cellS n g (i:Int) (j:Int)).exp)]]) (zs:=[vi ((cellS n g (i:Int) (j:Int)).num.a),vi ((cellS n g (i:Int) (j:Int)).num.b),vi ((cellS n g (i:Int) (j:Int)).num.c),vi ((cellS n g (i:Int) (j:Int)).num.d),vi ((cellS n g (i:Int) (j:Int)).exp)]) rfl X1j X2k rfl rfl) (fun _ _ ⟨_,_,_,h,_⟩=>h) ?_;rintro _ w9 ⟨b23,rfl,hl23,hE,hB23⟩
   have hlo23:=Nat.le_trans hW.size hl23
   have haw18_23:=ho18.away hl23
   replace hB2:=hB2.below hE
   replace hB4:=hB4.below hE
   replace hB9:=hB9.below hE
   replace ho18:=ho18.below hE
   replace hW:=btr hW hE
   refine Y1 8 ?_
   refine Yt rfl trivial rfl (X0f (enc:=encD) (l:=(l2)) (l2:=([(cellS n g (i:Int) (j:Int))])) (B0:=w0.heap.size) rfl rfl X1j X2k X1e X5k ho18 (Rd.of_blk hB23 rfl _ hB23.lt) (by simp only [maxLen];simp;omega) (by simp;omega) hW.size) ?_;rintro _ w10 ⟨A25,c25,rfl,ho25,hg,hat⟩
   have hown:Own _ w0.heap.size 98 5 encD _ _ (l2):=ho18
   have haw25_23:=hat _ hB23.lt haw18_23
   clear hat
   replace hB2:=hB2.appT hown hg rfl
   replace hB4:=hB4.appT hown hg rfl
   replace hB9:=hB9.appT hown hg rfl
   replace hW:=Below.app hW hown hg (Nat.le_refl _) hW.size
   clear hown hg
   refine Yo 9 rfl (fun _=>Vd rfl X1o 2) ?_
   refine Y1 10 ?_
   refine Yh rfl trivial rfl (Vu (vs:=[.slice A25 (l2++([(cellS n g (i:Int) (j:Int))])).length c25]) (l':=[vi (d:Int),vi (d:Int),.slice A25 (l2++([(cellS n g (i:Int) (j:Int))])).length c25]) rfl rfl Xbs hB9) ?_;rintro _ w11 ⟨ho,hb⟩
   have hold:=hB9
   replace hB2:=hB2.only ho (Blk.ne hB2 hold rfl)
   replace hB4:=hB4.only ho (by omega)
   replace ho25:=ho25.onlyT ho hold rfl
   replace hW:=Below.only hW ho hlo9
   clear hold
   have hB9:=hb
   clear hb ho
   refine Yd fun a hf=>?_
   refine Xf ?_
   refine hK22 _ _ ?_
   refine Zr hf ?_
   refine Zm rfl<|Ze (Xv rfl rfl (by omega) (by omega))<|Za rfl ?_
   refine Zn fun a hf=>?_
   refine Xn ?_
   exact ⟨(j+1,l2++[(cellS n g (i:Int) (j:Int))]),⟨A25,c25,hf.sub ⟨rfl,rfl,rfl,rfl,rfl,rfl,rfl,trivial⟩,(by omega),(by rw [Xc3 hj1,hl2]),hB2,hB4,hB9,ho25,hW⟩,(by first|omega|(dsimp only;omega))⟩
  have hc21b:=hc21
  have hc21:=of_decide_eq_false hc21
  have hj1:j=d:=by have:=hc21;omega
  refine wp_exit ?_
  refine Xs ?_
  refine Xs ?_
  refine X0h ?_
  refine Xf ?_
  refine hK16 _ _ ?_
  refine Zr hf ?_
  refine Zm rfl<|Ze (Xv rfl rfl (by omega) (by omega))<|Za rfl ?_
  refine Zn fun a hf=>?_
  refine Xn ?_
  exact ⟨(i+1,l2),⟨A18,c18,hf.sub ⟨rfl,rfl,rfl,rfl,rfl,rfl,trivial⟩,(by omega),(by rw [Nat.add_mul,Nat.one_mul,← hl2,hj1]),hB2,hB4,hB9,ho18,hW⟩,(by first|omega|(dsimp only;omega))⟩
 have hc15b:=hc15
 have hc15:=of_decide_eq_false hc15
 have hi1:i=d:=by have:=hc15;omega
 refine wp_exit ?_
 refine Xs ?_
 refine Xs ?_
 refine X0h ?_
 refine hK10 _ _ ?_
 refine Zs hf fun _ hK26=>?_
 refine Ze (Vn X0q hB9) ?_
 refine Zo (Vw [vi (d:Int),vi (d:Int),.slice A12 l.length c12] X18 hB4) ?_;rintro _ w12 ⟨ho,hb⟩
 have hold:=hB4
 replace hB2:=hB2.only ho (Blk.ne hB2 hold rfl)
 replace hB9:=hB9.only ho (by omega)
 replace ho12:=ho12.onlyT ho hold rfl
 replace hW:=Below.only hW ho hlo4
 clear hold
 have hB4:=hb
 clear hb ho
 refine Zt hK26 fun a hf=>?_
 refine wp_ret (X2 hf (Xo hf rfl (ResV.cellN (l:=[vi (d:Int),vi (d:Int),.slice A12 l.length c12]) rfl X0q (hB4.at 0) rfl)) ?_)
 have hfin:gateS n g=⟨(d:Int),(d:Int),l⟩:=by rw [gateS,← hl,hi1,hd]
 rw [hfin]
 exact ⟨A12,c12,rfl,ho12,hW⟩
end Go.Proofs.YtlfjcmldfbfdbaaGreat
set_option maxRecDepth 4000
namespace Go.Proofs.YtlfjcmldfbfdbaaGreat
open Go.RowKit
theorem Xo5(w0:World)(p:Mx)(Ap:Option Addr)(cp:Nat)(hr_p:Rd w0 w0.heap.size 98 encD Ap p.cells)(q:Mx)(Aq:Option Addr)(cq:Nat)(hr_q:Rd w0 w0.heap.size 98 encD Aq q.cells)(k:Int)(hpl:p.cells.length=q.cells.length)(hln:q.cells.length≤2305843009213693951) : Ret Tryz.prog 150 [.agg #[vi p.rows,vi p.cols,.slice Ap p.cells.length cp],.agg #[vi q.rows,vi q.cols,.slice Aq q.cells.length cq],vi k] w0 (fun v w=>v=.bool (turnedS p q k)∧Below w0.heap.size w0 w):=by
 refine enter Tryz.func150 rfl 42 rfl rfl ?_
 intro a hf
 have hW:Below w0.heap.size w0 w0:=Below.refl _ _
 refine Zs hf fun _ hK3=>?_
 refine Zf (X0p (zs:=[vi p.rows,vi p.cols,.slice Ap p.cells.length cp]) rfl rfl) ?_;rintro _ w1 ⟨b4,rfl,hl4,hE,hB4⟩
 have hlo4:=Nat.le_trans hW.size hl4
 replace hW:=btr hW hE
 refine Zf (X0p (zs:=[vi q.rows,vi q.cols,.slice Aq q.cells.length cq]) rfl rfl) ?_;rintro _ w2 ⟨b5,rfl,hl5,hE,hB5⟩
 have hne4_5:b4≠b5:=by have:=hB4.lt;omega
 have hlo5:=Nat.le_trans hW.size hl5
 replace hB4:=hB4.below hE
 replace hW:=btr hW hE
 refine Za rfl ?_
 refine Zt hK3 fun a hf=>?_
 refine wp_seq_k fun _ hK6=>?_
 refine wp_seq_k fun _ hK7=>?_
 refine X09 (fun a w=>Fr a 42 [(2,vi k),(3,.pointer (some ⟨b4,0,none⟩)),(4,.pointer (some ⟨b5,0,none⟩)),(20,.bool ((p.rows != q.rows)||(p.cols != q.cols)))]∧w2=w) ?_ ?_
 ·refine Zr hf ?_
  refine Ze (Vd rfl X26 0)<|Ze (X0 rfl X5 (hB4.at 0))<|Ze (Vd rfl X26 0)<|Ze (X0 rfl X5 (hB5.at 0))<|Ze (X2z rfl rfl) ?_
  refine Zm rfl ?_
  refine Zg 14 rfl (fun hg8=>?_) (fun hg8=>?_)
  ·refine Zp ⟨_,_,rfl,rfl,hg8⟩ ?_
   refine Zp ⟨_,_,rfl,rfl,hg8⟩ ?_
   refine Zp ⟨_,_,rfl,rfl,hg8⟩ ?_
   refine Zp ⟨_,_,rfl,rfl,hg8⟩ ?_
   refine Zp ⟨_,_,rfl,rfl,hg8⟩ ?_
   refine Ze (Xc rfl hg8 rfl) ?_
   refine Zn fun a hf=>?_
   exact ⟨hf.sub ⟨rfl,rfl,rfl,X1 rfl (by first|rfl|(simp only [hg8,bs];done)|simp [hg8]),trivial⟩,rfl⟩
  refine Zv ⟨_,_,rfl,rfl,hg8⟩ (Vd rfl X1q 1) ?_
  refine Zv ⟨_,_,rfl,rfl,hg8⟩ (X0 rfl X5 (hB4.at 1)) ?_
  refine Zv ⟨_,_,rfl,rfl,hg8⟩ (Vd rfl X1q 1) ?_
  refine Zv ⟨_,_,rfl,rfl,hg8⟩ (X0 rfl X5 (hB5.at 1)) ?_
  refine Zv ⟨_,_,rfl,rfl,hg8⟩ (X2z rfl rfl) ?_
  refine Ze (X7 rfl hg8 rfl) ?_
  refine Zn fun a hf=>?_
  exact ⟨hf.sub ⟨rfl,rfl,rfl,X1 rfl (by first|rfl|(simp only [hg8,bs];done)|simp [hg8]),trivial⟩,rfl⟩
 rintro a _ ⟨hf,rfl⟩
 refine hK7 _ _ ?_
 refine Xi hf rfl (fun hc9=>?_) (fun hc9=>?_)
 ·have hc9b:=hc9
  have hn:turnedS p q k=false:=by have h9:¬ (p.rows=q.rows∧p.cols=q.cols):=(by intro h8;revert hc9;simp [h8.1,h8.2]);unfold turnedS;revert h9;by_cases e1:p.rows=q.rows<;>by_cases e2:p.cols=q.cols<;>simp [e1,e2]
  refine Zs hf fun _ hK10=>?_
  refine Za rfl ?_
  refine Zt hK10 fun a hf=>?_
  refine wp_ret ?_
  refine X8 ?_
  refine X2 hf (Xo hf rfl rfl) ?_
  exact ⟨by rw [hn],hW⟩
 have hc9b:=hc9
 have hrc:p.rows=q.rows∧p.cols=q.cols:=by revert hc9;by_cases e1:p.rows=q.rows<;>by_cases e2:p.cols=q.cols<;>simp [e1,e2]
 refine wp_skip ?_
 refine hK6 _ _ ?_
 refine wp_seq_k fun _ hK11=>?_
 refine Zs hf fun _ hK12=>?_
 refine Ze (Vd rfl X1o 2)<|Ze (X0 rfl X2p (hB5.at 2))<|Ze (X0v rfl X1j)<|Zm rfl ?_
 refine Zt hK12 fun a hf=>?_
 refine wp_block ?_
 refine X0j (σ:=Nat) (fun (i:Nat) (a:Act) (w:World)=>Fr a 42 [(2,vi k),(3,.pointer (some ⟨b4,0,none⟩)),(22,.slice Aq q.cells.length cq),(23,vi (q.cells.length:Int)),(24,vi (i:Int))]∧(i≤q.cells.length)∧(p.cells.take i=(q.cells.map (dTurn k)).take i)∧Blk w b4 38 [vi p.rows,vi p.cols,.slice Ap p.cells.length cp]∧Below w0.heap.size w0 w) (fun (i:Nat)=>q.cells.length-i) 0 ?_ ?_
 ·exact ⟨hf.sub ⟨rfl,rfl,rfl,rfl,rfl,trivial⟩,(Nat.zero_le _),(by simp),hB4,hW⟩
 rintro i a w3 ⟨hf,hi,hpre,hB4,hW⟩
 refine Zs hf fun _ hK13=>?_
 refine Ze (X1k rfl rfl) ?_
 refine Zt hK13 fun a hf=>?_
 refine wp_seq_k fun _ hK14=>?_
 refine Xi hf rfl (fun hc15=>?_) (fun hc15=>?_)
 ·have hc15b:=hc15
  have hc15:=of_decide_eq_true hc15
  obtain ⟨u16,hu16⟩:=Xx (l:=q.cells) (k:=i) (by omega)
  obtain ⟨v9,hv9⟩:=Xx (l:=p.cells) (k:=i) (by omega)
  refine wp_skip ?_
  refine hK14 _ _ ?_
  refine wp_seq_k fun _ hK17=>?_
  refine wp_block ?_
  refine Zs hf fun _ hK18=>?_
  refine Zm rfl ?_
  refine Zi (k:=i) (u:=u16) (enc:=encD) (l:=q.cells) trivial rfl rfl X1j Xr X1e (hr_q.below' hW) hu16 rfl ?_;intro p20 hat19
  refine Ze (Xj (l:=[vi u16.num.a,vi u16.num.b,vi u16.num.c,vi u16.num.d,vi u16.exp]) rfl Xg hat19 rfl) ?_
  refine Zf (Xa (zs:=[vi 0,vi 0,vi 0,vi 0,vi 0]) X1n rfl) ?_;rintro _ w4 ⟨b21,rfl,hl21,hE,hB21⟩
  have hlo21:=Nat.le_trans hW.size hl21
  have haw1_21:=(hr_p.below' hW).away hl21
  have haw2_21:=(hr_q.below' hW).away hl21
  replace hB4:=hB4.below hE
  replace hW:=btr hW hE
  refine Za rfl ?_
  refine Zo (Vw [vi u16.num.a,vi u16.num.b,vi u16.num.c,vi u16.num.d,vi u16.exp] Xr hB21) ?_;rintro _ w5 ⟨ho,hb⟩
  have hold:=hB21
  replace hB4:=hB4.only ho (Blk.ne hB4 hold rfl)
  replace hW:=Below.only hW ho hlo21
  clear hold
  have hB21:=hb
  clear hb ho
  refine Zt hK18 fun a hf=>?_
  refine Zs hf fun _ hK22=>?_
  refine Ze (Vd rfl X1r 0)<|Ze (Xj (l:=[vi u16.num.a,vi u16.num.b,vi u16.num.c,vi u16.num.d]) rfl X05 ((hB21.at 0).take 4) rfl)<|Zm rfl ?_
  refine Zf (Vc (Xms _ u16.num k) Xh0) ?_;rintro _ w6 ⟨rfl,hE⟩
  replace hB4:=hB4.below hE
  replace hB21:=hB21.below hE
  replace hW:=btr hW hE
  refine Ze (Vd rfl X1r 0) ?_
  refine Zo (Vu (vs:=[vi ((rTurn u16.num k).a),vi ((rTurn u16.num k).b),vi ((rTurn u16.num k).c),vi ((rTurn u16.num k).d)]) (l':=[vi ((rTurn u16.num k).a),vi ((rTurn u16.num k).b),vi ((rTurn u16.num k).c),vi ((rTurn u16.num k).d),vi u16.exp]) rfl rfl X1a hB21) ?_;rintro _ w7 ⟨ho,hb⟩
  have hold:=hB21
  replace hB4:=hB4.only ho (Blk.ne hB4 hold rfl)
  replace hW:=Below.only hW ho hlo21
  clear hold
  have hB21:=hb
  clear hb ho
  refine Zt hK22 fun a hf=>?_
  refine wp_seq_k fun _ hK23=>?_
  refine Xu none (fun _=>false) mixed ?_
  intro w8 hE
  replace hB4:=hB4.below hE
  replace hB21:=hB21.below hE
  replace hW:=btr hW hE
  refine Yb hf ?_
  refine Yo 0 rfl (fun _=>Vd rfl X1o 2)<|Ye 1 rfl (X0 rfl X2p (hB4.at 2))<|Yo 2 rfl (fun _=>X9 rfl) ?_
  refine Yi (k:=i) (u:=v9) (enc:=encD) (l:=p.cells) 3 rfl trivial rfl rfl X1j Xr X1e (hr_p.below' hW) hv9 rfl ?_;intro p25 hat24
  refine Ye 4 rfl (Xj (l:=[vi v9.num.a,vi v9.num.b,vi v9.num.c,vi v9.num.d,vi v9.exp]) rfl Xg hat24 rfl)<|Ye 5 rfl (Vn Xg hB21)<|Yo 6 rfl (fun _=>Xb7 rfl rfl Xff (fun w=>eqD 9997 v9 (⟨(rTurn u16.num k),u16.exp⟩ : Dy) w)) ?_
  refine Yd fun a hf=>?_
  refine hK23 _ _ ?_
  refine Xi hf rfl (fun hc26=>?_) (fun hc26=>?_)
  ·have hc26b:=hc26
   have hne:¬ v9=dTurn k u16:=by intro e9;revert hc26;rw [e9];simp [dTurn]
   have hn:turnedS p q k=false:=by have h8:¬ p.cells=q.cells.map (dTurn k):=(by intro e9;have h7:=Xd8 (f:=dTurn k) hu16;rw [← e9,hv9] at h7;injection h7 with h7;exact hne h7);simp [turnedS,h8]
   refine Zs hf fun _ hK27=>?_
   refine Za rfl ?_
   refine Zt hK27 fun a hf=>?_
   refine wp_ret ?_
   refine Xy ?_
   refine X8 ?_
   refine X8 ?_
   refine Xy ?_
   refine X8 ?_
   refine X2 hf (Xo hf rfl rfl) ?_
   exact ⟨by rw [hn],hW⟩
  have hc26b:=hc26
  have he9:v9=dTurn k u16:=by simpa [dTurn] using hc26
  refine wp_skip ?_
  refine Xf ?_
  refine hK17 _ _ ?_
  refine Zr hf ?_
  refine Ze (Xv rfl rfl (by omega) (by omega))<|Zm rfl ?_
  refine Zn fun a hf=>?_
  refine Xn ?_
  exact ⟨i+1,⟨hf.sub ⟨rfl,rfl,rfl,rfl,rfl,trivial⟩,(by omega),(X67 hpre hv9 (Xd8 hu16) he9),hB4,hW⟩,(by omega)⟩
 have hc15b:=hc15
 have hc15:=of_decide_eq_false hc15
 refine wp_exit ?_
 refine Xs ?_
 refine Xs ?_
 refine X0h ?_
 refine hK11 _ _ ?_
 refine Zs hf fun _ hK28=>?_
 refine Za rfl ?_
 refine Zt hK28 fun a hf=>?_
 refine wp_ret (X2 hf (Xo hf rfl rfl) ?_)
 have he:p.cells=q.cells.map (dTurn k):=by rw [List.take_of_length_le (by omega),List.take_of_length_le (by simp;omega)] at hpre;exact hpre
 exact ⟨by simp [turnedS,hrc.1,hrc.2,← he],hW⟩
theorem Xnw(w0:World)(p:Mx)(Ap:Option Addr)(cp:Nat)(hr_p:Rd w0 w0.heap.size 98 encD Ap p.cells)(q:Mx)(Aq:Option Addr)(cq:Nat)(hr_q:Rd w0 w0.heap.size 98 encD Aq q.cells)(hpl:p.cells.length=q.cells.length)(hln:q.cells.length≤2305843009213693951) : Ret Tryz.prog 86 [.agg #[vi p.rows,vi p.cols,.slice Ap p.cells.length cp],.agg #[vi q.rows,vi q.cols,.slice Aq q.cells.length cq]] w0 (fun v w=>∃ i:Int,v=.tuple #[vi i,.bool (phaseS p q)]∧Below w0.heap.size w0 w):=by
 refine enter Tryz.func86 rfl 16 rfl rfl ?_
 intro a hf
 have hW:Below w0.heap.size w0 w0:=Below.refl _ _
 refine Zs hf fun _ hK3=>?_
 refine Zf (X0p (zs:=[vi p.rows,vi p.cols,.slice Ap p.cells.length cp]) rfl rfl) ?_;rintro _ w1 ⟨b4,rfl,hl4,hE,hB4⟩
 have hlo4:=Nat.le_trans hW.size hl4
 replace hW:=btr hW hE
 refine Zf (X0p (zs:=[vi q.rows,vi q.cols,.slice Aq q.cells.length cq]) rfl rfl) ?_;rintro _ w2 ⟨b5,rfl,hl5,hE,hB5⟩
 have hne4_5:b4≠b5:=by have:=hB4.lt;omega
 have hlo5:=Nat.le_trans hW.size hl5
 replace hB4:=hB4.below hE
 replace hW:=btr hW hE
 refine Za rfl<|Za rfl ?_
 refine Zt hK3 fun a hf=>?_
 refine wp_seq_k fun _ hK6=>?_
 refine Zs hf fun _ hK7=>?_
 refine Za rfl ?_
 refine Zt hK7 fun a hf=>?_
 refine wp_block ?_
 refine X0j (σ:=Nat) (fun (k:Nat) (a:Act) (w:World)=>Fr a 16 [(2,.pointer (some ⟨b4,0,none⟩)),(3,.pointer (some ⟨b5,0,none⟩)),(6,vi (k:Int))]∧(k≤8)∧(∀ j<k,turnedS p q ((j:Nat) : Int)=false)∧Blk w b4 38 [vi p.rows,vi p.cols,.slice Ap p.cells.length cp]∧Blk w b5 38 [vi q.rows,vi q.cols,.slice Aq q.cells.length cq]∧Below w0.heap.size w0 w) (fun (k:Nat)=>8-k) 0 ?_ ?_
 ·exact ⟨hf.sub ⟨rfl,rfl,rfl,trivial⟩,(by omega),(fun j hj=>by omega),hB4,hB5,hW⟩
 rintro k a w3 ⟨hf,hk,hall,hB4,hB5,hW⟩
 refine wp_seq_k fun _ hK8=>?_
 refine Zs hf fun _ hK9=>?_
 refine Zm rfl<|Ze (X1k rfl rfl) ?_
 refine Zt hK9 fun a hf=>?_
 refine Xi hf rfl (fun hc10=>?_) (fun hc10=>?_)
 ·have hc10b:=hc10
  have hc10:=of_decide_eq_true hc10
  have hk8:(k:Int)<8:=hc10
  refine wp_skip ?_
  refine hK8 _ _ ?_
  refine wp_seq_k fun _ hK11=>?_
  refine wp_block ?_
  refine Zs hf fun _ hK12=>?_
  refine Ze (Vn X0q hB4)<|Ze (Vn X0q hB5)<|Zm rfl ?_
  refine Zf (Vc (Xo5 _ p Ap cp (hr_p.below' hW).top q Aq cq (hr_q.below' hW).top (k:Int) hpl hln) Xlz) ?_;rintro _ w4 ⟨rfl,hE⟩
  replace hB4:=hB4.below hE
  replace hB5:=hB5.below hE
  replace hW:=btr hW hE
  refine Zt hK12 fun a hf=>?_
  refine Xi hf rfl (fun hc13=>?_) (fun hc13=>?_)
  ·have hc13b:=hc13
   have hT:turnedS p q (k:Int)=true:=hc13
   refine Zs hf fun _ hK14=>?_
   refine Zm rfl<|Za rfl<|Za rfl ?_
   refine Zt hK14 fun a hf=>?_
   refine wp_ret ?_
   refine Xy ?_
   refine X8 ?_
   refine X8 ?_
   refine Xy ?_
   refine X8 ?_
   refine X2 hf (X0r hf rfl rfl rfl) ?_
   exact ⟨_,by rw [phaseS,X8p (f:=fun k=>turnedS p q ((k:Nat) : Int)) (k:=k) (by omega) hT],hW⟩
  have hc13b:=hc13
  have hT:turnedS p q (k:Int)=false:=hc13
  refine wp_skip ?_
  refine Xf ?_
  refine hK11 _ _ ?_
  refine Zr hf ?_
  refine Zm rfl<|Ze (Xv rfl rfl (by omega) (by omega))<|Za rfl ?_
  refine Zn fun a hf=>?_
  refine Xn ?_
  exact ⟨k+1,⟨hf.sub ⟨rfl,rfl,rfl,trivial⟩,(by omega),(fun j hj=>by rcases Nat.lt_or_ge j k with h9|h9;exact hall j h9;obtain rfl:j=k:=(by omega);exact hT),hB4,hB5,hW⟩,(by omega)⟩
 have hc10b:=hc10
 have hc10:=of_decide_eq_false hc10
 refine wp_exit ?_
 refine Xs ?_
 refine Xs ?_
 refine X0h ?_
 refine hK6 _ _ ?_
 refine Zs hf fun _ hK15=>?_
 refine Za rfl<|Za rfl ?_
 refine Zt hK15 fun a hf=>?_
 refine wp_ret (X2 hf (X0r hf rfl rfl rfl) ?_)
 exact ⟨_,by rw [phaseS,X87 (fun j hj=>hall j (by omega))],hW⟩
end Go.Proofs.YtlfjcmldfbfdbaaGreat
set_option maxRecDepth 4000
namespace Go.Proofs.YtlfjcmldfbfdbaaGreat
open Go.RowKit
theorem Xmk(w0:World)(n:Int)(g:Gt)(hn:1≤n∧n≤5) : Ret Tryz.prog 54 [vi n,.agg #[vi g.k,vi g.a,vi g.b]] w0 (fun v w=>v=.bool (gOk n g)∧Below w0.heap.size w0 w):=by
 refine enter Tryz.func54 rfl 55 rfl rfl ?_
 intro a hf
 have hW:Below w0.heap.size w0 w0:=Below.refl _ _
 refine Zs hf fun _ hK1=>?_
 refine Zf (X0p (zs:=[vi g.k,vi g.a,vi g.b]) rfl rfl) ?_;rintro _ w1 ⟨b2,rfl,hl2,hE,hB2⟩
 have hlo2:=Nat.le_trans hW.size hl2
 replace hW:=btr hW hE
 refine Za rfl ?_
 refine Zt hK1 fun a hf=>?_
 refine wp_seq_k fun _ hK3=>?_
 refine wp_block ?_
 refine Zs hf fun _ hK4=>?_
 refine Ze (Vd rfl X0g 0)<|Ze (X0 rfl X5 (hB2.at 0)) ?_
 refine Zf (Vc (F85 _ g.k 1 8) X3m) ?_;rintro _ _ ⟨rfl,rfl⟩
 refine Za rfl ?_
 refine Zt hK4 fun a hf=>?_
 refine Xi hf rfl (fun hc5=>?_) (fun hc5=>?_)
 ·have hc5b:=hc5
  have hf0:=Xp3 hn hc5
  refine wp_seq_k fun _ hK6=>?_
  refine X09 (fun a w=>Fr a 55 [(4,.bool ((inR g.a 0 (n-1))&&(g.b==0)))]∧w1=w) ?_ ?_
  ·refine Zr hf ?_
   refine Ze (Vd rfl X0t 1)<|Ze (X0 rfl X5 (hB2.at 1))<|Zm rfl<|Ze (X1d rfl rfl (by omega) (by omega)) ?_
   refine Zf (Vc (F85 _ g.a 0 (n-1)) X3m) ?_;rintro _ _ ⟨rfl,rfl⟩
   refine Zm rfl ?_
   refine Zg 14 rfl (fun hg7=>?_) (fun hg7=>?_)
   ·refine Zv ⟨_,_,rfl,rfl,hg7⟩ (Vd rfl X12 2) ?_
    refine Zv ⟨_,_,rfl,rfl,hg7⟩ (X0 rfl X5 (hB2.at 2)) ?_
    refine Zv ⟨_,_,rfl,rfl,hg7⟩ (X0u rfl rfl) ?_
    refine Ze (Xc rfl hg7 rfl)<|Za rfl ?_
    refine Zn fun a hf=>?_
    exact ⟨hf.sub ⟨X1 rfl (by first|rfl|(simp only [hc5b,hg7,bs];done)|simp [hc5b,hg7]),trivial⟩,rfl⟩
   refine Zp ⟨_,_,rfl,rfl,hg7⟩ ?_
   refine Zp ⟨_,_,rfl,rfl,hg7⟩ ?_
   refine Zp ⟨_,_,rfl,rfl,hg7⟩ ?_
   refine Ze (X7 rfl hg7 rfl)<|Za rfl ?_
   refine Zn fun a hf=>?_
   exact ⟨hf.sub ⟨X1 rfl (by first|rfl|(simp only [hc5b,hg7,bs];done)|simp [hc5b,hg7]),trivial⟩,rfl⟩
  rintro a _ ⟨hf,rfl⟩
  refine hK6 _ _ ?_
  refine wp_ret ?_
  refine Xy ?_
  refine X8 ?_
  refine X2 hf (Xo hf rfl rfl) ?_
  exact ⟨by rw [hf0],hW⟩
 have hc5b:=hc5
 have h18:=hc5
 refine Zs hf fun _ hK8=>?_
 refine Ze (Vd rfl X0g 0)<|Ze (X0 rfl X5 (hB2.at 0)) ?_
 refine Zf (Vc (F85 _ g.k 9 11) X3m) ?_;rintro _ _ ⟨rfl,rfl⟩
 refine Za rfl ?_
 refine Zt hK8 fun a hf=>?_
 refine Xi hf rfl (fun hc9=>?_) (fun hc9=>?_)
 ·have hc9b:=hc9
  have hf0:=Xo4 hn hc9
  refine wp_seq_k fun _ hK10=>?_
  refine X09 (fun a w=>Fr a 55 [(4,.bool (((inR g.a 0 (n-1))&&(inR g.b 0 (n-1)))&&(g.a != g.b)))]∧w1=w) ?_ ?_
  ·refine Zr hf ?_
   refine Ze (Vd rfl X0t 1)<|Ze (X0 rfl X5 (hB2.at 1))<|Zm rfl<|Ze (X1d rfl rfl (by omega) (by omega)) ?_
   refine Zf (Vc (F85 _ g.a 0 (n-1)) X3m) ?_;rintro _ _ ⟨rfl,rfl⟩
   refine Zm rfl ?_
   refine Zg 28 rfl (fun hg11=>?_) (fun hg11=>?_)
   ·refine Zv ⟨_,_,rfl,rfl,hg11⟩ (Vd rfl X12 2) ?_
    refine Zv ⟨_,_,rfl,rfl,hg11⟩ (X0 rfl X5 (hB2.at 2)) ?_
    refine Zv ⟨_,_,rfl,rfl,hg11⟩ (X9 rfl) ?_
    refine Zv ⟨_,_,rfl,rfl,hg11⟩ (X1d rfl rfl (by omega) (by omega)) ?_
    refine Zk ⟨_,_,rfl,rfl,hg11⟩ (Vc (F85 _ g.b 0 (n-1)) X3m) ?_;rintro _ _ ⟨rfl,rfl⟩
    refine Ze (Xc rfl hg11 rfl)<|Zm rfl ?_
    refine Zg 35 rfl (fun hg12=>?_) (fun hg12=>?_)
    ·refine Zv ⟨_,_,rfl,rfl,hg12⟩ (Vd rfl X0t 1) ?_
     refine Zv ⟨_,_,rfl,rfl,hg12⟩ (X0 rfl X5 (hB2.at 1)) ?_
     refine Zv ⟨_,_,rfl,rfl,hg12⟩ (Vd rfl X12 2) ?_
     refine Zv ⟨_,_,rfl,rfl,hg12⟩ (X0 rfl X5 (hB2.at 2)) ?_
     refine Zv ⟨_,_,rfl,rfl,hg12⟩ (X2z rfl rfl) ?_
     refine Ze (Xc rfl hg12 rfl)<|Za rfl ?_
     refine Zn fun a hf=>?_
     exact ⟨hf.sub ⟨X1 rfl (by first|rfl|(simp only [hc5b,hc9b,hg11,hg12,bs];done)|simp [hc5b,hc9b,hg11,hg12]),trivial⟩,rfl⟩
    refine Zp ⟨_,_,rfl,rfl,hg12⟩ ?_
    refine Zp ⟨_,_,rfl,rfl,hg12⟩ ?_
    refine Zp ⟨_,_,rfl,rfl,hg12⟩ ?_
    refine Zp ⟨_,_,rfl,rfl,hg12⟩ ?_
    refine Zp ⟨_,_,rfl,rfl,hg12⟩ ?_
    refine Ze (X7 rfl hg12 rfl)<|Za rfl ?_
    refine Zn fun a hf=>?_
    exact ⟨hf.sub ⟨X1 rfl (by first|rfl|(simp only [hc5b,hc9b,hg11,hg12,bs];done)|simp [hc5b,hc9b,hg11,hg12]),trivial⟩,rfl⟩
   refine Zp ⟨_,_,rfl,rfl,hg11⟩ ?_
   refine Zp ⟨_,_,rfl,rfl,hg11⟩ ?_
   refine Zp ⟨_,_,rfl,rfl,hg11⟩ ?_
   refine Zp ⟨_,_,rfl,rfl,hg11⟩ ?_
   refine Zp ⟨_,_,rfl,rfl,hg11⟩ ?_
   refine Ze (X7 rfl hg11 rfl)<|Zm rfl<|Zp ⟨_,_,rfl,rfl,rfl⟩ ?_
   refine Zp ⟨_,_,rfl,rfl,rfl⟩ ?_
   refine Zp ⟨_,_,rfl,rfl,rfl⟩ ?_
   refine Zp ⟨_,_,rfl,rfl,rfl⟩ ?_
   refine Zp ⟨_,_,rfl,rfl,rfl⟩ ?_
   refine Ze (X7 rfl rfl rfl)<|Za rfl ?_
   refine Zn fun a hf=>?_
   exact ⟨hf.sub ⟨X1 rfl (by first|rfl|(simp only [hc5b,hc9b,hg11,bs];done)|simp [hc5b,hc9b,hg11]),trivial⟩,rfl⟩
  rintro a _ ⟨hf,rfl⟩
  refine hK10 _ _ ?_
  refine wp_ret ?_
  refine Xy ?_
  refine X8 ?_
  refine X2 hf (Xo hf rfl rfl) ?_
  exact ⟨by rw [hf0],hW⟩
 have hc9b:=hc9
 have hf0:=Xod hn h18 hc9
 refine wp_skip ?_
 refine Xf ?_
 refine hK3 _ _ ?_
 refine wp_seq_k fun _ hK13=>?_
 refine X09 (fun a w=>Fr a 55 [(4,.bool (((g.k==12)&&(g.a==0))&&(g.b==0)))]∧w1=w) ?_ ?_
 ·refine Zr hf ?_
  refine Ze (Vd rfl X0g 0)<|Ze (X0 rfl X5 (hB2.at 0))<|Ze (X0u rfl rfl)<|Zm rfl ?_
  refine Zg 45 rfl (fun hg14=>?_) (fun hg14=>?_)
  ·refine Zv ⟨_,_,rfl,rfl,hg14⟩ (Vd rfl X0t 1) ?_
   refine Zv ⟨_,_,rfl,rfl,hg14⟩ (X0 rfl X5 (hB2.at 1)) ?_
   refine Zv ⟨_,_,rfl,rfl,hg14⟩ (X0u rfl rfl) ?_
   refine Ze (Xc rfl hg14 rfl)<|Zm rfl ?_
   refine Zg 50 rfl (fun hg15=>?_) (fun hg15=>?_)
   ·refine Zv ⟨_,_,rfl,rfl,hg15⟩ (Vd rfl X12 2) ?_
    refine Zv ⟨_,_,rfl,rfl,hg15⟩ (X0 rfl X5 (hB2.at 2)) ?_
    refine Zv ⟨_,_,rfl,rfl,hg15⟩ (X0u rfl rfl) ?_
    refine Ze (Xc rfl hg15 rfl)<|Za rfl ?_
    refine Zn fun a hf=>?_
    exact ⟨hf.sub ⟨X1 rfl (by first|rfl|(simp only [hc5b,hc9b,hg14,hg15,bs];done)|simp [hc5b,hc9b,hg14,hg15]),trivial⟩,rfl⟩
   refine Zp ⟨_,_,rfl,rfl,hg15⟩ ?_
   refine Zp ⟨_,_,rfl,rfl,hg15⟩ ?_
   refine Zp ⟨_,_,rfl,rfl,hg15⟩ ?_
   refine Ze (X7 rfl hg15 rfl)<|Za rfl ?_
   refine Zn fun a hf=>?_
   exact ⟨hf.sub ⟨X1 rfl (by first|rfl|(simp only [hc5b,hc9b,hg14,hg15,bs];done)|simp [hc5b,hc9b,hg14,hg15]),trivial⟩,rfl⟩
  refine Zp ⟨_,_,rfl,rfl,hg14⟩ ?_
  refine Zp ⟨_,_,rfl,rfl,hg14⟩ ?_
  refine Zp ⟨_,_,rfl,rfl,hg14⟩ ?_
  refine Ze (X7 rfl hg14 rfl)<|Zm rfl<|Zp ⟨_,_,rfl,rfl,rfl⟩ ?_
  refine Zp ⟨_,_,rfl,rfl,rfl⟩ ?_
  refine Zp ⟨_,_,rfl,rfl,rfl⟩ ?_
  refine Ze (X7 rfl rfl rfl)<|Za rfl ?_
  refine Zn fun a hf=>?_
  exact ⟨hf.sub ⟨X1 rfl (by first|rfl|(simp only [hc5b,hc9b,hg14,bs];done)|simp [hc5b,hc9b,hg14]),trivial⟩,rfl⟩
 rintro a _ ⟨hf,rfl⟩
 refine hK13 _ _ ?_
 refine wp_ret (X2 hf (Xo hf rfl rfl) ?_)
 exact ⟨by rw [hf0],hW⟩
theorem F53(w0:World)(c:Cx)(Ac:Option Addr)(cc:Nat)(hr_c:Rd w0 w0.heap.size 24 encG Ac c.gs) : Ret Tryz.prog 61 [.agg #[vi c.n,.slice Ac c.gs.length cc]] w0 (fun v w=>v=.bool (cOk c)∧Below w0.heap.size w0 w):=by
 refine enter Tryz.func61 rfl 28 rfl rfl ?_
 intro a hf
 have hW:Below w0.heap.size w0 w0:=Below.refl _ _
 refine Zs hf fun _ hK2=>?_
 refine Zf (X0p (zs:=[vi c.n,.slice Ac c.gs.length cc]) rfl rfl) ?_;rintro _ w1 ⟨b3,rfl,hl3,hE,hB3⟩
 have hlo3:=Nat.le_trans hW.size hl3
 replace hW:=btr hW hE
 refine Za rfl ?_
 refine Zt hK2 fun a hf=>?_
 refine wp_seq_k fun _ hK4=>?_
 refine wp_seq_k fun _ hK5=>?_
 refine X09 (fun a w=>Fr a 28 [(1,.pointer (some ⟨b3,0,none⟩)),(14,.bool ((!(inR c.n 1 5))||(decide (400<(c.gs.length:Int)))))]∧w1=w) ?_ ?_
 ·refine Zr hf ?_
  refine Ze (Vd rfl X1b 0)<|Ze (X0 rfl X5 (hB3.at 0)) ?_
  refine Zf (Vc (F85 _ c.n 1 5) X3m) ?_;rintro _ _ ⟨rfl,rfl⟩
  refine Ze (X15 rfl)<|Zm rfl ?_
  refine Zg 9 rfl (fun hg6=>?_) (fun hg6=>?_)
  ·refine Zp ⟨_,_,rfl,rfl,hg6⟩ ?_
   refine Zp ⟨_,_,rfl,rfl,hg6⟩ ?_
   refine Zp ⟨_,_,rfl,rfl,hg6⟩ ?_
   refine Zp ⟨_,_,rfl,rfl,hg6⟩ ?_
   refine Ze (Xc rfl hg6 rfl) ?_
   refine Zn fun a hf=>?_
   exact ⟨hf.sub ⟨rfl,X1 rfl (by first|rfl|(simp only [hg6,bs];done)|simp [hg6]),trivial⟩,rfl⟩
  refine Zv ⟨_,_,rfl,rfl,hg6⟩ (Vd rfl Xw 1) ?_
  refine Zv ⟨_,_,rfl,rfl,hg6⟩ (X0 rfl X06 (hB3.at 1)) ?_
  refine Zv ⟨_,_,rfl,rfl,hg6⟩ (X0v rfl Xd) ?_
  refine Zv ⟨_,_,rfl,rfl,hg6⟩ (X3d rfl rfl) ?_
  refine Ze (X7 rfl hg6 rfl) ?_
  refine Zn fun a hf=>?_
  exact ⟨hf.sub ⟨rfl,X1 rfl (by first|rfl|(simp only [hg6,bs];done)|simp [hg6]),trivial⟩,rfl⟩
 rintro a _ ⟨hf,rfl⟩
 refine hK5 _ _ ?_
 refine Xi hf rfl (fun hc7=>?_) (fun hc7=>?_)
 ·have hc7b:=hc7
  have hn:(inR c.n 1 5&&decide ((c.gs.length:Int)≤400))=false:=by revert hc7;cases inR c.n 1 5<;>simp
  refine Zs hf fun _ hK8=>?_
  refine Za rfl ?_
  refine Zt hK8 fun a hf=>?_
  refine wp_ret ?_
  refine X8 ?_
  refine X2 hf (Xo hf rfl rfl) ?_
  exact ⟨by rw [cOk,hn];rfl,hW⟩
 have hc7b:=hc7
 have hy:(inR c.n 1 5&&decide ((c.gs.length:Int)≤400))=true:=by revert hc7;cases inR c.n 1 5<;>simp
 have hy2:=(Bool.and_eq_true _ _▸hy:inR c.n 1 5=true∧decide ((c.gs.length:Int)≤400)=true)
 have hn:=X02.1 hy2.1
 have hlen:=of_decide_eq_true hy2.2
 refine wp_skip ?_
 refine hK4 _ _ ?_
 refine wp_seq_k fun _ hK9=>?_
 refine Zs hf fun _ hK10=>?_
 refine Ze (Vd rfl Xw 1)<|Ze (X0 rfl X06 (hB3.at 1))<|Ze (X0v rfl Xd)<|Zm rfl ?_
 refine Zt hK10 fun a hf=>?_
 refine wp_block ?_
 refine X0j (σ:=Nat) (fun (k:Nat) (a:Act) (w:World)=>Fr a 28 [(1,.pointer (some ⟨b3,0,none⟩)),(16,.slice Ac c.gs.length cc),(17,vi (c.gs.length:Int)),(18,vi (k:Int))]∧(k≤c.gs.length)∧((c.gs.take k).all (fun x=>gOk c.n x)=true)∧Blk w b3 31 [vi c.n,.slice Ac c.gs.length cc]∧Below w0.heap.size w0 w) (fun (k:Nat)=>c.gs.length+1-k) 0 ?_ ?_
 ·exact ⟨hf.sub ⟨rfl,rfl,rfl,rfl,trivial⟩,(Nat.zero_le _),(by simp),hB3,hW⟩
 rintro k a w2 ⟨hf,hk,hpre,hB3,hW⟩
 refine Zs hf fun _ hK11=>?_
 refine Ze (X1k rfl rfl) ?_
 refine Zt hK11 fun a hf=>?_
 refine wp_seq_k fun _ hK12=>?_
 refine Xi hf rfl (fun hc13=>?_) (fun hc13=>?_)
 ·have hc13b:=hc13
  have hc13:=of_decide_eq_true hc13
  obtain ⟨u14,hu14⟩:=Xx (l:=c.gs) (k:=k) (by omega)
  refine wp_skip ?_
  refine hK12 _ _ ?_
  refine wp_seq_k fun _ hK15=>?_
  refine wp_block ?_
  refine Zs hf fun _ hK16=>?_
  refine Zi (k:=k) (u:=u14) (enc:=encG) (l:=c.gs) trivial rfl rfl Xd X0a Xb (hr_c.below' hW) hu14 rfl ?_;intro p18 hat17
  refine Ze (Xj (l:=[vi u14.k,vi u14.a,vi u14.b]) rfl X08 hat17 rfl) ?_
  refine Zf (Xa (zs:=[vi 0,vi 0,vi 0]) X2l rfl) ?_;rintro _ w3 ⟨b19,rfl,hl19,hE,hB19⟩
  have hlo19:=Nat.le_trans hW.size hl19
  have haw1_19:=(hr_c.below' hW).away hl19
  replace hB3:=hB3.below hE
  replace hW:=btr hW hE
  refine Zo (Vw [vi u14.k,vi u14.a,vi u14.b] X0a hB19) ?_;rintro _ w4 ⟨ho,hb⟩
  have hold:=hB19
  replace hB3:=hB3.only ho (Blk.ne hB3 hold rfl)
  replace hW:=Below.only hW ho hlo19
  clear hold
  have hB19:=hb
  clear hb ho
  refine Zt hK16 fun a hf=>?_
  refine Zs hf fun _ hK20=>?_
  refine Ze (Vd rfl X1b 0)<|Ze (X0 rfl X5 (hB3.at 0))<|Ze (Vn X08 hB19) ?_
  refine Zf (Vc (Xmk _ c.n u14 hn) Xgn) ?_;rintro _ w5 ⟨rfl,hE⟩
  replace hB3:=hB3.below hE
  replace hB19:=hB19.below hE
  replace hW:=btr hW hE
  refine Ze (X15 rfl) ?_
  refine Zt hK20 fun a hf=>?_
  refine Xi hf rfl (fun hc21=>?_) (fun hc21=>?_)
  ·have hc21b:=hc21
   have hb2:(c.gs.any fun x=>!gOk c.n x)=true:=X4c hu14 hc21
   refine Zs hf fun _ hK22=>?_
   refine Za rfl ?_
   refine Zt hK22 fun a hf=>?_
   refine wp_ret ?_
   refine Xy ?_
   refine X8 ?_
   refine X8 ?_
   refine Xy ?_
   refine X8 ?_
   refine X2 hf (Xo hf rfl rfl) ?_
   exact ⟨by rw [cOk,hy,hb2];rfl,hW⟩
  have hc21b:=hc21
  have hok:gOk c.n u14=true:=by revert hc21;cases gOk c.n u14<;>simp
  refine wp_skip ?_
  refine Xf ?_
  refine hK15 _ _ ?_
  refine Zr hf ?_
  refine Ze (Xv rfl rfl (by omega) (by omega))<|Zm rfl ?_
  refine Zn fun a hf=>?_
  refine Xn ?_
  exact ⟨k+1,⟨hf.sub ⟨rfl,rfl,rfl,rfl,trivial⟩,(by omega),(X2u hpre hu14 hok),hB3,hW⟩,(by omega)⟩
 have hc13b:=hc13
 have hc13:=of_decide_eq_false hc13
 refine wp_exit ?_
 refine Xs ?_
 refine Xs ?_
 refine X0h ?_
 refine hK9 _ _ ?_
 refine Zs hf fun _ hK23=>?_
 refine Za rfl ?_
 refine Zt hK23 fun a hf=>?_
 refine wp_ret (X2 hf (Xo hf rfl rfl) ?_)
 have hb2:(c.gs.any fun x=>!gOk c.n x)=false:=X3p (by simpa using X2m hpre (by omega))
 exact ⟨by rw [cOk,hy,hb2];rfl,hW⟩
end Go.Proofs.YtlfjcmldfbfdbaaGreat
set_option maxRecDepth 4000
namespace Go.Proofs.YtlfjcmldfbfdbaaGreat
open Go.RowKit
theorem F86(w0:World)(n:Int)(Al:Option Addr)(cl:Nat)(l:List Gt)(hr_l:Rd w0 w0.heap.size 24 encG Al l)(m:Int)(hn:1≤n∧n≤5)(hln:l.length≤2305843009213693951) : Ret Tryz.prog 163 [vi n,.slice Al l.length cl,vi m] w0 (fun v w=>v=.bool (!(l.any fun x=>!gOk n x)&&decide ((l.length:Int)≤m))∧Below w0.heap.size w0 w):=by
 refine enter Tryz.func163 rfl 24 rfl rfl ?_
 intro a hf
 have hW:Below w0.heap.size w0 w0:=Below.refl _ _
 refine Zs hf fun _ hK2=>?_
 refine Za rfl ?_
 refine Zt hK2 fun a hf=>?_
 refine wp_seq_k fun _ hK3=>?_
 refine Zs hf fun _ hK4=>?_
 refine Zm rfl<|Ze (X0v rfl Xd)<|Zm rfl ?_
 refine Zt hK4 fun a hf=>?_
 refine wp_block ?_
 refine X0j (σ:=Nat) (fun (k:Nat) (a:Act) (w:World)=>Fr a 24 [(0,vi n),(1,.slice Al l.length cl),(2,vi m),(9,.slice Al l.length cl),(10,vi (l.length:Int)),(11,vi (k:Int))]∧(k≤l.length)∧((l.take k).all (fun x=>gOk n x)=true)∧Below w0.heap.size w0 w) (fun (k:Nat)=>l.length+1-k) 0 ?_ ?_
 ·exact ⟨hf.sub ⟨rfl,rfl,rfl,rfl,rfl,rfl,trivial⟩,(Nat.zero_le _),(by simp),hW⟩
 rintro k a w1 ⟨hf,hk,hpre,hW⟩
 refine Zs hf fun _ hK5=>?_
 refine Ze (X1k rfl rfl) ?_
 refine Zt hK5 fun a hf=>?_
 refine wp_seq_k fun _ hK6=>?_
 refine Xi hf rfl (fun hc7=>?_) (fun hc7=>?_)
 ·have hc7b:=hc7
  have hc7:=of_decide_eq_true hc7
  obtain ⟨u8,hu8⟩:=Xx (l:=l) (k:=k) (by omega)
  refine wp_skip ?_
  refine hK6 _ _ ?_
  refine wp_seq_k fun _ hK9=>?_
  refine wp_block ?_
  refine Zs hf fun _ hK10=>?_
  refine Zi (k:=k) (u:=u8) (enc:=encG) (l:=l) trivial rfl rfl Xd X0a Xb (hr_l.below' hW) hu8 rfl ?_;intro p12 hat11
  refine Ze (Xj (l:=[vi u8.k,vi u8.a,vi u8.b]) rfl X08 hat11 rfl) ?_
  refine Zf (Xa (zs:=[vi 0,vi 0,vi 0]) X2l rfl) ?_;rintro _ w2 ⟨b13,rfl,hl13,hE,hB13⟩
  have hlo13:=Nat.le_trans hW.size hl13
  have haw1_13:=(hr_l.below' hW).away hl13
  replace hW:=btr hW hE
  refine Zo (Vw [vi u8.k,vi u8.a,vi u8.b] X0a hB13) ?_;rintro _ w3 ⟨ho,hb⟩
  have hold:=hB13
  replace hW:=Below.only hW ho hlo13
  clear hold
  have hB13:=hb
  clear hb ho
  refine Zt hK10 fun a hf=>?_
  refine Zs hf fun _ hK14=>?_
  refine Zm rfl<|Ze (Vn X08 hB13) ?_
  refine Zf (Vc (Xmk _ n u8 hn) Xgn) ?_;rintro _ w4 ⟨rfl,hE⟩
  replace hB13:=hB13.below hE
  replace hW:=btr hW hE
  refine Ze (X15 rfl) ?_
  refine Zt hK14 fun a hf=>?_
  refine Xi hf rfl (fun hc15=>?_) (fun hc15=>?_)
  ·have hc15b:=hc15
   have hb2:(l.any fun x=>!gOk n x)=true:=X4c hu8 hc15
   refine Zs hf fun _ hK16=>?_
   refine Za rfl ?_
   refine Zt hK16 fun a hf=>?_
   refine wp_ret ?_
   refine Xy ?_
   refine X8 ?_
   refine X8 ?_
   refine Xy ?_
   refine X8 ?_
   refine X2 hf (Xo hf rfl rfl) ?_
   exact ⟨by rw [hb2];rfl,hW⟩
  have hc15b:=hc15
  have hok:gOk n u8=true:=by revert hc15;cases gOk n u8<;>simp
  refine wp_skip ?_
  refine Xf ?_
  refine hK9 _ _ ?_
  refine Zr hf ?_
  refine Ze (Xv rfl rfl (by omega) (by omega))<|Zm rfl ?_
  refine Zn fun a hf=>?_
  refine Xn ?_
  exact ⟨k+1,⟨hf.sub ⟨rfl,rfl,rfl,rfl,rfl,rfl,trivial⟩,(by omega),(X2u hpre hu8 hok),hW⟩,(by omega)⟩
 have hc7b:=hc7
 have hc7:=of_decide_eq_false hc7
 refine wp_exit ?_
 refine Xs ?_
 refine Xs ?_
 refine X0h ?_
 refine hK3 _ _ ?_
 refine Zs hf fun _ hK17=>?_
 refine Zm rfl<|Ze (X0v rfl Xd)<|Zm rfl<|Ze (X64 rfl rfl)<|Za rfl ?_
 refine Zt hK17 fun a hf=>?_
 refine wp_ret (X2 hf (Xo hf rfl rfl) ?_)
 have hb2:(l.any fun x=>!gOk n x)=false:=X3p (by simpa using X2m hpre (by omega))
 exact ⟨by rw [hb2];rfl,hW⟩
end Go.Proofs.YtlfjcmldfbfdbaaGreat
set_option maxRecDepth 4000
namespace Go.Proofs.YtlfjcmldfbfdbaaGreat
open Go.RowKit
theorem Xol(w0:World)(n:Int)(g:Gt)(s0:Int)(hg:gOk n g=true)(hk2:9≤g.k∧g.k≤11) : Ret Tryz.prog 71 [vi n,.agg #[vi g.k,vi g.a,vi g.b],vi s0] w0 (fun v w=>v=vi (toS n g s0)∧Below w0.heap.size w0 w):=by
 have hg2:=X1p hg
 have hg3:=hg2.2.2.1 (by omega)
 have hg4:=hg2.2.2.2 hk2
 refine enter Tryz.func71 rfl 51 rfl rfl ?_
 intro a hf
 have hW:Below w0.heap.size w0 w0:=Below.refl _ _
 refine Zs hf fun _ hK1=>?_
 refine Zf (X0p (zs:=[vi g.k,vi g.a,vi g.b]) rfl rfl) ?_;rintro _ w1 ⟨b2,rfl,hl2,hE,hB2⟩
 have hlo2:=Nat.le_trans hW.size hl2
 replace hW:=btr hW hE
 refine Za rfl ?_
 refine Zt hK1 fun a hf=>?_
 refine wp_seq_k fun _ hK3=>?_
 refine Xu none (fun _=>false) mixed ?_
 intro w2 hE
 replace hB2:=hB2.below hE
 replace hW:=btr hW hE
 refine Yb hf ?_
 refine Yo 0 rfl (fun _=>X9 rfl)<|Yo 1 rfl (fun _=>X9 rfl)<|Yo 2 rfl (fun _=>Vd rfl X0t 1)<|Ye 3 rfl (X0 rfl X5 (hB2.at 1))<|Yo 5 rfl (fun _=>X9 rfl) ?_
 refine Yo 6 rfl (fun _=>X9 rfl)<|Yo 7 rfl (fun _=>Vd rfl X12 2)<|Ye 8 rfl (X0 rfl X5 (hB2.at 2)) ?_
 refine Y1 4 ?_
 refine Yz rfl trivial (Vc (Xeb _ n s0 g.a (by omega) (by omega) (by omega)) X6n) ?_
 refine Y1 9 ?_
 refine Yz rfl trivial (Vc (Xeb _ n s0 g.b (by omega) (by omega) (by omega)) X6n) ?_
 refine Yo 10 rfl (fun _=>X0x rfl)<|Yo 11 rfl (fun _=>X0x rfl) ?_
 refine Yd fun a hf=>?_
 refine hK3 _ _ ?_
 refine wp_seq_k fun _ hK4=>?_
 refine wp_block ?_
 refine wp_seq_k fun _ hK5=>?_
 refine X09 (fun a w=>Fr a 51 [(0,vi n),(2,vi s0),(4,.pointer (some ⟨b2,0,none⟩)),(7,vi (bitF n s0 g.a)),(8,vi (bitF n s0 g.b)),(19,.bool ((g.k==9)&&((bitF n s0 g.a)==1)))]∧w2=w) ?_ ?_
 ·refine Zr hf ?_
  refine Ze (Vd rfl X0g 0)<|Ze (X0 rfl X5 (hB2.at 0))<|Ze (X0u rfl rfl)<|Zm rfl ?_
  refine Zg 23 rfl (fun hg6=>?_) (fun hg6=>?_)
  ·refine Zv ⟨_,_,rfl,rfl,hg6⟩ (X9 rfl) ?_
   refine Zv ⟨_,_,rfl,rfl,hg6⟩ (X0u rfl rfl) ?_
   refine Ze (Xc rfl hg6 rfl)<|Za rfl ?_
   refine Zn fun a hf=>?_
   exact ⟨hf.sub ⟨rfl,rfl,rfl,rfl,rfl,X1 rfl (by first|rfl|(simp only [hg6,bs];done)|simp [hg6]),trivial⟩,rfl⟩
  refine Zp ⟨_,_,rfl,rfl,hg6⟩ ?_
  refine Zp ⟨_,_,rfl,rfl,hg6⟩ ?_
  refine Ze (X7 rfl hg6 rfl)<|Za rfl ?_
  refine Zn fun a hf=>?_
  exact ⟨hf.sub ⟨rfl,rfl,rfl,rfl,rfl,X1 rfl (by first|rfl|(simp only [hg6,bs];done)|simp [hg6]),trivial⟩,rfl⟩
 rintro a _ ⟨hf,rfl⟩
 refine hK5 _ _ ?_
 refine Xi hf rfl (fun hc7=>?_) (fun hc7=>?_)
 ·have hc7b:=hc7
  have h9:g.k=9∧bitF n s0 g.a=1:=by simpa using hc7
  refine Zs hf fun _ hK8=>?_
  refine Zm rfl<|Zm rfl<|Ze (Vd rfl X12 2)<|Ze (X0 rfl X5 (hB2.at 2)) ?_
  refine Zf (Vc (Xii _ n s0 g.b (by omega) (by omega) (by omega)) X9k) ?_;rintro _ _ ⟨rfl,rfl⟩
  refine Za rfl ?_
  refine Zt hK8 fun a hf=>?_
  refine wp_ret ?_
  refine Xy ?_
  refine X8 ?_
  refine X2 hf (Xo hf rfl rfl) ?_
  exact ⟨by rw [toS,if_pos h9.1,if_pos h9.2],hW⟩
 have hc7b:=hc7
 have h9:g.k=9→¬ bitF n s0 g.a=1:=by simpa using hc7
 refine wp_seq_k fun _ hK9=>?_
 refine X09 (fun a w=>Fr a 51 [(0,vi n),(2,vi s0),(4,.pointer (some ⟨b2,0,none⟩)),(32,.bool ((g.k==11)&&((bitF n s0 g.a) != (bitF n s0 g.b))))]∧w2=w) ?_ ?_
 ·refine Zr hf ?_
  refine Ze (Vd rfl X0g 0)<|Ze (X0 rfl X5 (hB2.at 0))<|Ze (X0u rfl rfl)<|Zm rfl ?_
  refine Zg 36 rfl (fun hg10=>?_) (fun hg10=>?_)
  ·refine Zv ⟨_,_,rfl,rfl,hg10⟩ (X9 rfl) ?_
   refine Zv ⟨_,_,rfl,rfl,hg10⟩ (X9 rfl) ?_
   refine Zv ⟨_,_,rfl,rfl,hg10⟩ (X2z rfl rfl) ?_
   refine Ze (Xc rfl hg10 rfl)<|Za rfl ?_
   refine Zn fun a hf=>?_
   exact ⟨hf.sub ⟨rfl,rfl,rfl,X1 rfl (by first|rfl|(simp only [hc7b,hg10,bs];done)|simp [hc7b,hg10]),trivial⟩,rfl⟩
  refine Zp ⟨_,_,rfl,rfl,hg10⟩ ?_
  refine Zp ⟨_,_,rfl,rfl,hg10⟩ ?_
  refine Zp ⟨_,_,rfl,rfl,hg10⟩ ?_
  refine Ze (X7 rfl hg10 rfl)<|Za rfl ?_
  refine Zn fun a hf=>?_
  exact ⟨hf.sub ⟨rfl,rfl,rfl,X1 rfl (by first|rfl|(simp only [hc7b,hg10,bs];done)|simp [hc7b,hg10]),trivial⟩,rfl⟩
 rintro a _ ⟨hf,rfl⟩
 refine hK9 _ _ ?_
 refine Xi hf rfl (fun hc11=>?_) (fun hc11=>?_)
 ·have hc11b:=hc11
  have h11:g.k=11∧¬ bitF n s0 g.a=bitF n s0 g.b:=by simpa using hc11
  refine wp_seq_k fun _ hK12=>?_
  refine Xu none (fun _=>false) mixed ?_
  intro w3 hE
  replace hB2:=hB2.below hE
  replace hW:=btr hW hE
  refine Yb hf ?_
  refine Yo 0 rfl (fun _=>X9 rfl)<|Yo 1 rfl (fun _=>X9 rfl)<|Yo 2 rfl (fun _=>X9 rfl)<|Yo 3 rfl (fun _=>Vd rfl X0t 1)<|Ye 4 rfl (X0 rfl X5 (hB2.at 1)) ?_
  refine Yo 6 rfl (fun _=>Vd rfl X12 2)<|Ye 7 rfl (X0 rfl X5 (hB2.at 2)) ?_
  refine Y1 5 ?_
  refine Yz rfl trivial (Vc (Xii _ n s0 g.a (by omega) (by omega) (by omega)) X9k) ?_
  refine Y1 8 ?_
  refine Yz rfl trivial (Vc (Xii _ n (flipF n s0 g.a) g.b (by omega) (by omega) (by omega)) X9k) ?_
  refine Yo 9 rfl (fun _=>X0x rfl) ?_
  refine Yd fun a hf=>?_
  refine hK12 _ _ ?_
  refine wp_ret ?_
  refine Xy ?_
  refine X8 ?_
  refine X2 hf (Xo hf rfl rfl) ?_
  exact ⟨by rw [toS,if_neg (by omega),if_pos h11.1,if_pos h11.2],hW⟩
 have hc11b:=hc11
 have h11:g.k=11→bitF n s0 g.a=bitF n s0 g.b:=by simpa using hc11
 refine wp_skip ?_
 refine Xf ?_
 refine hK4 _ _ ?_
 refine Zs hf fun _ hK13=>?_
 refine Zm rfl<|Za rfl ?_
 refine Zt hK13 fun a hf=>?_
 refine wp_ret (X2 hf (Xo hf rfl rfl) ?_)
 have hfin:toS n g s0=s0:=by unfold toS;split;rw [if_neg (h9 (by assumption))];split;rw [if_neg (by simpa using h11 (by assumption))];rfl
 exact ⟨by rw [hfin],hW⟩
end Go.Proofs.YtlfjcmldfbfdbaaGreat
namespace Go.Proofs.YtlfjcmldfbfdbaaGreat
open Go.RowKit
def entI(p:Int×Int×Nat) : MapEntry:={ key:=.int .i64 p.1,val:=.int .i64 p.2.1,born:=p.2.2 }
def MapI(w:World)(b:Nat)(l:List (Int×Int×Nat))(clock:Nat) : Prop:=w.heap[b]? = some (.map (l.map entI).toArray clock)
theorem X5m{k:IntKind}{x:Int} : ∀ (l:List (Int×Int×Nat)) (i:Nat),(l.all fun p=>p.1 != x)=true→Instr.findNow (.int k) (.int .i64 x) (l.map entI) i=some none
 | [],_,_=>rfl
 | p::l,i,h=>by
  simp only [List.all_cons,Bool.and_eq_true,bne_iff_ne] at h
  have h1:(x==p.1)=false:=by simpa using Ne.symm h.1
  simp only [List.map_cons,Instr.findNow,entI,Instr.sameNow,if_true,h1]
  exact X5m l (i+1) h.2
theorem X5p{k:IntKind}{x v:Int} : ∀ (l:List (Int×Int×Nat)) (i:Nat),(l.find? fun p=>p.1==x).map (fun p=>p.2.1)=some v→∃ j,Instr.findNow (.int k) (.int .i64 x) (l.map entI) i=some (some (j,.int .i64 v))
 | [],_,h=>by cases h
 | p::l,i,h=>by
  by_cases hx:p.1=x
  ·refine ⟨i,?_⟩
   have h1:(p.1==x)=true:=by simpa using hx
   simp only [List.find?_cons,h1,Option.map_some,Option.some.injEq] at h
   have h2:(x==p.1)=true:=by simpa using hx.symm
   simp only [List.map_cons,Instr.findNow,entI,Instr.sameNow,if_true,h2,h]
  ·have h1:(p.1==x)=false:=by simpa using hx
   simp only [List.find?_cons,h1] at h
   obtain ⟨j,hj⟩:=X5p (k:=k) l (i+1) h
   refine ⟨j,?_⟩
   have h2:(x==p.1)=false:=by simpa using fun e=>hx e.symm
   simp only [List.map_cons,Instr.findNow,entI,Instr.sameNow,if_true,h2]
   exact hj
theorem MapI.below{w w':World}{b clock:Nat}{l:List (Int×Int×Nat)}(h:MapI w b l clock)(hb:Below w.heap.size w w') : MapI w' b l clock:=by
 have hlt:b<w.heap.size:=by
  rcases Nat.lt_or_ge b w.heap.size with h'|h'
  ·exact h'
  ·simp [MapI,Array.getElem?_eq_none h'] at h
 exact (hb.block b hlt).trans h
theorem MapI.only{w w':World}{b b' clock:Nat}{l:List (Int×Int×Nat)}(h:MapI w b l clock)(ho:Only b' w w')(hne:b≠b') : MapI w' b l clock:=(ho.block b hne).trans h
theorem MapI.ne{w:World}{b b' clock:Nat}{l:List (Int×Int×Nat)}{T:TypeId}{cs:List Value}(h:MapI w b l clock)(hb:Blk w b' T cs) : b≠b':=by
 rintro rfl
 unfold MapI at h
 unfold Blk at hb
 rw [h] at hb
 cases hb
section
variable {P : Program} {a : Act} {w : World} {n : Nat} {e : Env} {ty : TypeId} {pos : String} {af : Array Edge} {g : Option (Nat × Bool)} {d : Option Tmp}
theorem Xbt{T:TypeId} : Ef P ⟨d,.makeMap T none,ty,pos,af,g⟩ a w (fun v w'=>∃ b,v=.map (some b)∧w.heap.size≤b∧Below w.heap.size w w'∧MapI w' b [] 0):=by
 refine (Ef.of_run (v:=.map (some w.heap.size)) (w':=w.alloc (.map #[] 0)) ?_).mono fun v w' ⟨e1,e2⟩=>?_
 ·rfl
 ·subst e1;subst e2
  exact ⟨_,rfl,Nat.le_refl _,(Below.refl _ _).alloc (Nat.le_refl _) _,heap_alloc_new w _⟩
theorem Xg0{n:Nat}{e:List (Nat×Value)}{T:TypeId} : EfW P ⟨d,.makeMap T none,ty,pos,af,g⟩ n e w (fun v w'=>∃ b,v=.map (some b)∧w.heap.size≤b∧Below w.heap.size w w'∧MapI w' b [] 0):=fun a _=>Xbt
theorem Xe3{T K E:TypeId}{m x y:Operand}{b clock:Nat}{l:List (Int×Int×Nat)}{i j:Int}(hf:Fr a n e)(hm:ev e m=some (.map (some b)))(hx:ev e x=some (.int .i64 i))(hy:ev e y=some (.int .i64 j))(hT:P.underlying T=some (.map K E))(hK:P.underlying K=some (.int .i64))(hM:MapI w b l clock)(hnew:(l.all fun p=>p.1 != i)=true) :
  Ef P ⟨d,.insert T m x y,ty,pos,af,g⟩ a w (fun _ w'=>Only b w w'∧MapI w' b (l++[(i,j,clock)]) (clock+1)):=by
 have hfind:=X5m (k:=.i64) l 0 hnew
 have hck:(Instr.checkKey false 10000 K (.int .i64 i)).run P w=.ok () w:=MapKept.run_checkKey hK (show MapKept.IsKey (.int .i64) (.int .i64 i) from rfl) false 9999
 have hlt:b<w.heap.size:=by
  rcases Nat.lt_or_ge b w.heap.size with h'|h'
  ·exact h'
  ·simp [MapI,Array.getElem?_eq_none h'] at hM
 unfold MapI at hM
 refine (Ef.of_skip (w':={ w with heap:=w.heap.setIfInBounds b (.map ((l++[(i,j,clock)]).map entI).toArray (clock+1)) }) ?_).mono fun v w' ⟨_,e2⟩=>?_
 ·simp [execOp,Instr.mapUpdate,hf.ev hm,hf.ev hx,hf.ev hy,X0s hT,getObj,hM,hck,Instr.findKey,X0s hK,hfind,setObj,Sem.run,entI]
 ·subst e2
  refine ⟨⟨rfl,rfl,rfl,by simp,fun k hk=>?_⟩,?_⟩
  ·show (w.heap.setIfInBounds b _)[k]? = _
   rw [Array.getElem?_setIfInBounds_ne (Ne.symm hk)]
  ·show (w.heap.setIfInBounds b _)[b]? = _
   simp [hlt]
theorem X5j{T K E:TypeId}{m x y:Operand}{b clock:Nat}{l:List (Int×Int×Nat)}{i j:Int}(hm:ev e m=some (.map (some b)))(hx:ev e x=some (.int .i64 i))(hy:ev e y=some (.int .i64 j))(hT:P.underlying T=some (.map K E))(hK:P.underlying K=some (.int .i64))(hM:MapI w b l clock)(hnew:(l.all fun p=>p.1 != i)=true) : EfW P ⟨d,.insert T m x y,ty,pos,af,g⟩ n e w (fun _ w'=>Only b w w'∧MapI w' b (l++[(i,j,clock)]) (clock+1)):=fun a hf=>Xe3 hf hm hx hy hT hK hM hnew
theorem Xei{T K E:TypeId}{m x:Operand}{b clock:Nat}{l:List (Int×Int×Nat)}{i v:Int}(hf:Fr a n e)(hm:ev e m=some (.map (some b)))(hx:ev e x=some (.int .i64 i))(hT:P.underlying T=some (.map K E))(hK:P.underlying K=some (.int .i64))(hM:MapI w b l clock)(hv:(l.find? fun p=>p.1==i).map (fun p=>p.2.1)=some v) :
  Ev P ⟨d,.lookup T m x false,ty,pos,af,g⟩ a w (.int .i64 v):=fun w' hw=>by
 obtain ⟨j,hj⟩:=X5p (k:=.i64) l 0 hv
 have hM':=hM.below hw
 have hck:∀ em,(Instr.checkKey em 10000 K (.int .i64 i)).run P w'=.ok () w':=fun em=>MapKept.run_checkKey hK (show MapKept.IsKey (.int .i64) (.int .i64 i) from rfl) em 9999
 unfold MapI at hM'
 simp [execOp,Instr.lookup,hf.ev hm,hf.ev hx,X0s hT,getObj,Sem.run,hM',hck,Instr.findKey,X0s hK,hj]
theorem Xhl{T K E:TypeId}{m x:Operand}{b clock:Nat}{l:List (Int×Int×Nat)}{i v:Int}(hm:ev e m=some (.map (some b)))(hx:ev e x=some (.int .i64 i))(hT:P.underlying T=some (.map K E))(hK:P.underlying K=some (.int .i64))(hM:MapI w b l clock)(hv:(l.find? fun p=>p.1==i).map (fun p=>p.2.1)=some v) : EvW P ⟨d,.lookup T m x false,ty,pos,af,g⟩ n e w (.int .i64 v):=fun a hf=>Xei hf hm hx hT hK hM hv
end
end Go.Proofs.YtlfjcmldfbfdbaaGreat
set_option maxRecDepth 4000
namespace Go.Proofs.YtlfjcmldfbfdbaaGreat
open Go.RowKit
theorem Xo2(w0:World)(k:Int)(i:Int)(j:Int)(hk:1≤k∧k≤8)(hj:j=0∨j=1) : Ret Tryz.prog 74 [vi k,vi i,vi j] w0 (fun v w=>v=dV (entryI k i j)∧Below w0.heap.size w0 w):=by
 refine enter Tryz.func74 rfl 67 rfl rfl ?_
 intro a hf
 have hW:Below w0.heap.size w0 w0:=Below.refl _ _
 refine Zs hf fun _ hK1=>?_
 refine Zf (Xa (zs:=[vi 0,vi 0,vi 0,vi 0,vi 0]) X1n rfl) ?_;rintro _ w1 ⟨b2,rfl,hl2,hE,hB2⟩
 have hlo2:=Nat.le_trans hW.size hl2
 replace hW:=btr hW hE
 refine Zt hK1 fun a hf=>?_
 refine Zs hf fun _ hK3=>?_
 refine Ze (Xh (ps:=[(0,vi 1)]) (cs:=[vi 1,vi 0,vi 0,vi 0]) rfl (fun _=>by first|rfl|kernel_rfl))<|Ze (Xh (ps:=[(0,.agg #[vi 1,vi 0,vi 0,vi 0]),(1,vi 1)]) (cs:=[vi 1,vi 0,vi 0,vi 0,vi 1]) rfl (fun _=>by first|rfl|kernel_rfl)) ?_
 refine Zf (Xa (zs:=[vi 0,vi 0,vi 0,vi 0,vi 0]) X1n rfl) ?_;rintro _ w2 ⟨b4,rfl,hl4,hE,hB4⟩
 have hne2_4:b2≠b4:=by have:=hB2.lt;omega
 have hlo4:=Nat.le_trans hW.size hl4
 replace hB2:=hB2.below hE
 replace hW:=btr hW hE
 refine Zo (Vw [vi 1,vi 0,vi 0,vi 0,vi 1] Xr hB4) ?_;rintro _ w3 ⟨ho,hb⟩
 have hold:=hB4
 replace hB2:=hB2.only ho (by omega)
 replace hW:=Below.only hW ho hlo4
 clear hold
 have hB4:=hb
 clear hb ho
 refine Zt hK3 fun a hf=>?_
 refine Zs hf fun _ hK5=>?_
 refine Zf (Xg0) ?_;rintro _ w4 ⟨b6,rfl,hl6,hE,hM6⟩
 have hlo6:=Nat.le_trans hW.size hl6
 replace hB2:=hB2.below hE
 replace hB4:=hB4.below hE
 replace hW:=btr hW hE
 refine Zo (X5j (l:=[]) (clock:=0) rfl rfl rfl Tryz.underlying152 Tryz.underlying3 hM6 rfl) ?_;rintro _ w5 ⟨ho,hmap⟩
 replace hB2:=hB2.only ho (Ne.symm (hM6.ne hB2))
 replace hB4:=hB4.only ho (Ne.symm (hM6.ne hB4))
 replace hW:=Below.only hW ho hlo6
 replace hM6:=hmap;clear hmap ho
 refine Zo (X5j (l:=[(4,4,0)]) (clock:=1) rfl rfl rfl Tryz.underlying152 Tryz.underlying3 hM6 rfl) ?_;rintro _ w6 ⟨ho,hmap⟩
 replace hB2:=hB2.only ho (Ne.symm (hM6.ne hB2))
 replace hB4:=hB4.only ho (Ne.symm (hM6.ne hB4))
 replace hW:=Below.only hW ho hlo6
 replace hM6:=hmap;clear hmap ho
 refine Zo (X5j (l:=[(4,4,0),(5,2,1)]) (clock:=2) rfl rfl rfl Tryz.underlying152 Tryz.underlying3 hM6 rfl) ?_;rintro _ w7 ⟨ho,hmap⟩
 replace hB2:=hB2.only ho (Ne.symm (hM6.ne hB2))
 replace hB4:=hB4.only ho (Ne.symm (hM6.ne hB4))
 replace hW:=Below.only hW ho hlo6
 replace hM6:=hmap;clear hmap ho
 refine Zo (X5j (l:=[(4,4,0),(5,2,1),(6,6,2)]) (clock:=3) rfl rfl rfl Tryz.underlying152 Tryz.underlying3 hM6 rfl) ?_;rintro _ w8 ⟨ho,hmap⟩
 replace hB2:=hB2.only ho (Ne.symm (hM6.ne hB2))
 replace hB4:=hB4.only ho (Ne.symm (hM6.ne hB4))
 replace hW:=Below.only hW ho hlo6
 replace hM6:=hmap;clear hmap ho
 refine Zo (X5j (l:=[(4,4,0),(5,2,1),(6,6,2),(7,1,3)]) (clock:=4) rfl rfl rfl Tryz.underlying152 Tryz.underlying3 hM6 rfl) ?_;rintro _ w9 ⟨ho,hmap⟩
 replace hB2:=hB2.only ho (Ne.symm (hM6.ne hB2))
 replace hB4:=hB4.only ho (Ne.symm (hM6.ne hB4))
 replace hW:=Below.only hW ho hlo6
 replace hM6:=hmap;clear hmap ho
 refine Zm rfl<|Za rfl ?_
 refine Zt hK5 fun a hf=>?_
 refine wp_seq_k fun _ hK7=>?_
 refine wp_block ?_
 refine Zs hf fun _ hK8=>?_
 refine Zm rfl<|Ze (X0u rfl rfl)<|Za rfl ?_
 refine Zt hK8 fun a hf=>?_
 refine Xi hf rfl (fun hc9=>?_) (fun hc9=>?_)
 ·have hc9b:=hc9
  have e1:k=1:=by simpa using hc9
  refine wp_seq_k fun _ hK10=>?_
  refine wp_seq_k fun _ hK11=>?_
  refine X09 (fun a w=>Fr a 67 [(6,.pointer (some ⟨b2,0,none⟩)),(7,.pointer (some ⟨b4,0,none⟩)),(21,.bool ((i==1)&&(j==1)))]∧w9=w) ?_ ?_
  ·refine Zr hf ?_
   refine Zm rfl<|Ze (X0u rfl rfl)<|Zm rfl ?_
   refine Zg 18 rfl (fun hg12=>?_) (fun hg12=>?_)
   ·refine Zv ⟨_,_,rfl,rfl,hg12⟩ (X9 rfl) ?_
    refine Zv ⟨_,_,rfl,rfl,hg12⟩ (X0u rfl rfl) ?_
    refine Ze (Xc rfl hg12 rfl) ?_
    refine Zn fun a hf=>?_
    exact ⟨hf.sub ⟨rfl,rfl,X1 rfl (by first|rfl|(simp only [hc9b,hg12,bs];done)|simp [hc9b,hg12]),trivial⟩,rfl⟩
   refine Zp ⟨_,_,rfl,rfl,hg12⟩ ?_
   refine Zp ⟨_,_,rfl,rfl,hg12⟩ ?_
   refine Ze (X7 rfl hg12 rfl) ?_
   refine Zn fun a hf=>?_
   exact ⟨hf.sub ⟨rfl,rfl,X1 rfl (by first|rfl|(simp only [hc9b,hg12,bs];done)|simp [hc9b,hg12]),trivial⟩,rfl⟩
  rintro a _ ⟨hf,rfl⟩
  refine hK11 _ _ ?_
  refine Xi hf rfl (fun hc13=>?_) (fun hc13=>?_)
  ·have hc13b:=hc13
   have hfin:entryI k i j=⟨⟨-1,0,0,0⟩,1⟩:=by rw [entryI,if_pos e1,if_pos (by simpa using hc13)]
   refine Zr hf ?_
   refine Ze (Vd rfl X1r 0)<|Ze (Vd rfl X0i 0) ?_
   refine Zo (Vu (vs:=[vi (-1)]) (l':=[vi (-1),vi 0,vi 0,vi 0,vi 1]) rfl rfl X2c hB4) ?_;rintro _ w10 ⟨ho,hb⟩
   have hold:=hB4
   replace hB2:=hB2.only ho (by omega)
   replace hM6:=hM6.only ho (hM6.ne hold)
   replace hW:=Below.only hW ho hlo4
   clear hold
   have hB4:=hb
   clear hb ho
   refine Zt hK10 fun a hf=>?_
   refine Zs hf fun _ hK14=>?_
   refine Ze (Vn Xg hB4) ?_
   refine Zo (Vw [vi (-1),vi 0,vi 0,vi 0,vi 1] Xr hB2) ?_;rintro _ w11 ⟨ho,hb⟩
   have hold:=hB2
   replace hB4:=hB4.only ho (by omega)
   replace hM6:=hM6.only ho (hM6.ne hold)
   replace hW:=Below.only hW ho hlo2
   clear hold
   have hB2:=hb
   clear hb ho
   refine Zt hK14 fun a hf=>?_
   refine wp_ret ?_
   refine Xy ?_
   refine X8 ?_
   refine X2 hf (Xo hf rfl (ResV.cellN (l:=[vi (-1),vi 0,vi 0,vi 0,vi 1]) rfl Xg (hB2.at 0) rfl)) ?_
   exact ⟨(by rw [hfin];try rfl),hW⟩
  have hc13b:=hc13
  have hfin:entryI k i j=dHalf:=by rw [entryI,if_pos e1,if_neg (by simpa using hc13)]
  refine wp_skip ?_
  refine hK10 _ _ ?_
  refine Zs hf fun _ hK15=>?_
  refine Ze (Vn Xg hB4) ?_
  refine Zo (Vw [vi 1,vi 0,vi 0,vi 0,vi 1] Xr hB2) ?_;rintro _ w12 ⟨ho,hb⟩
  have hold:=hB2
  replace hB4:=hB4.only ho (by omega)
  replace hM6:=hM6.only ho (hM6.ne hold)
  replace hW:=Below.only hW ho hlo2
  clear hold
  have hB2:=hb
  clear hb ho
  refine Zt hK15 fun a hf=>?_
  refine wp_ret ?_
  refine Xy ?_
  refine X8 ?_
  refine X2 hf (Xo hf rfl (ResV.cellN (l:=[vi 1,vi 0,vi 0,vi 0,vi 1]) rfl Xg (hB2.at 0) rfl)) ?_
  exact ⟨(by rw [hfin];try rfl),hW⟩
 have hc9b:=hc9
 have e1:¬ k=1:=by simpa using hc9
 refine wp_seq_k fun _ hK16=>?_
 refine X09 (fun a w=>Fr a 67 [(0,vi k),(1,vi i),(2,vi j),(6,.pointer (some ⟨b2,0,none⟩)),(8,.map (some b6)),(25,.bool ((k==2)&&(i != j)))]∧w9=w) ?_ ?_
 ·refine Zr hf ?_
  refine Zm rfl<|Ze (X0u rfl rfl)<|Zm rfl ?_
  refine Zg 28 rfl (fun hg17=>?_) (fun hg17=>?_)
  ·refine Zv ⟨_,_,rfl,rfl,hg17⟩ (X9 rfl) ?_
   refine Zv ⟨_,_,rfl,rfl,hg17⟩ (X9 rfl) ?_
   refine Zv ⟨_,_,rfl,rfl,hg17⟩ (X2z rfl rfl) ?_
   refine Ze (Xc rfl hg17 rfl)<|Za rfl ?_
   refine Zn fun a hf=>?_
   exact ⟨hf.sub ⟨rfl,rfl,rfl,rfl,rfl,X1 rfl (by first|rfl|(simp only [hc9b,hg17,bs];done)|simp [hc9b,hg17]),trivial⟩,rfl⟩
  refine Zp ⟨_,_,rfl,rfl,hg17⟩ ?_
  refine Zp ⟨_,_,rfl,rfl,hg17⟩ ?_
  refine Zp ⟨_,_,rfl,rfl,hg17⟩ ?_
  refine Ze (X7 rfl hg17 rfl)<|Za rfl ?_
  refine Zn fun a hf=>?_
  exact ⟨hf.sub ⟨rfl,rfl,rfl,rfl,rfl,X1 rfl (by first|rfl|(simp only [hc9b,hg17,bs];done)|simp [hc9b,hg17]),trivial⟩,rfl⟩
 rintro a _ ⟨hf,rfl⟩
 refine hK16 _ _ ?_
 refine Xi hf rfl (fun hc18=>?_) (fun hc18=>?_)
 ·have hc18b:=hc18
  have hfin:entryI k i j=⟨⟨1,0,0,0⟩,0⟩:=by rw [entryI,if_neg e1,if_pos (by simpa using hc18)]
  refine Zs hf fun _ hK19=>?_
  refine Zf (Vc (Xlx _ 1) Xch) ?_;rintro _ w13 ⟨rfl,hE⟩
  replace hB2:=hB2.below hE
  replace hM6:=hM6.below hE
  replace hW:=btr hW hE
  refine Zo (Vw [vi ((⟨⟨1,0,0,0⟩,0⟩ : Dy).num.a),vi ((⟨⟨1,0,0,0⟩,0⟩ : Dy).num.b),vi ((⟨⟨1,0,0,0⟩,0⟩ : Dy).num.c),vi ((⟨⟨1,0,0,0⟩,0⟩ : Dy).num.d),vi ((⟨⟨1,0,0,0⟩,0⟩ : Dy).exp)] Xr hB2) ?_;rintro _ w14 ⟨ho,hb⟩
  have hold:=hB2
  replace hM6:=hM6.only ho (hM6.ne hold)
  replace hW:=Below.only hW ho hlo2
  clear hold
  have hB2:=hb
  clear hb ho
  refine Zt hK19 fun a hf=>?_
  refine wp_ret ?_
  refine Xy ?_
  refine X8 ?_
  refine X2 hf (Xo hf rfl (ResV.cellN (l:=[vi ((⟨⟨1,0,0,0⟩,0⟩ : Dy).num.a),vi ((⟨⟨1,0,0,0⟩,0⟩ : Dy).num.b),vi ((⟨⟨1,0,0,0⟩,0⟩ : Dy).num.c),vi ((⟨⟨1,0,0,0⟩,0⟩ : Dy).num.d),vi ((⟨⟨1,0,0,0⟩,0⟩ : Dy).exp)]) rfl Xg (hB2.at 0) rfl)) ?_
  exact ⟨(by rw [hfin];try rfl),hW⟩
 have hc18b:=hc18
 have e2:¬ (k=2∧i≠j):=by simpa using hc18
 refine wp_seq_k fun _ hK20=>?_
 refine X09 (fun a w=>Fr a 67 [(0,vi k),(1,vi i),(2,vi j),(6,.pointer (some ⟨b2,0,none⟩)),(8,.map (some b6)),(34,.bool ((k==3)&&(i != j)))]∧w9=w) ?_ ?_
 ·refine Zr hf ?_
  refine Zm rfl<|Ze (X0u rfl rfl)<|Zm rfl ?_
  refine Zg 37 rfl (fun hg21=>?_) (fun hg21=>?_)
  ·refine Zv ⟨_,_,rfl,rfl,hg21⟩ (X9 rfl) ?_
   refine Zv ⟨_,_,rfl,rfl,hg21⟩ (X9 rfl) ?_
   refine Zv ⟨_,_,rfl,rfl,hg21⟩ (X2z rfl rfl) ?_
   refine Ze (Xc rfl hg21 rfl)<|Za rfl ?_
   refine Zn fun a hf=>?_
   exact ⟨hf.sub ⟨rfl,rfl,rfl,rfl,rfl,X1 rfl (by first|rfl|(simp only [hc9b,hc18b,hg21,bs];done)|simp [hc9b,hc18b,hg21]),trivial⟩,rfl⟩
  refine Zp ⟨_,_,rfl,rfl,hg21⟩ ?_
  refine Zp ⟨_,_,rfl,rfl,hg21⟩ ?_
  refine Zp ⟨_,_,rfl,rfl,hg21⟩ ?_
  refine Ze (X7 rfl hg21 rfl)<|Za rfl ?_
  refine Zn fun a hf=>?_
  exact ⟨hf.sub ⟨rfl,rfl,rfl,rfl,rfl,X1 rfl (by first|rfl|(simp only [hc9b,hc18b,hg21,bs];done)|simp [hc9b,hc18b,hg21]),trivial⟩,rfl⟩
 rintro a _ ⟨hf,rfl⟩
 refine hK20 _ _ ?_
 refine Xi hf rfl (fun hc22=>?_) (fun hc22=>?_)
 ·have hc22b:=hc22
  have e33:k=3∧i≠j:=(by simpa using hc22)
  have hfin:entryI k i j=dPow (2+4*j):=by rw [entryI,if_neg e1,if_neg e2,if_pos e33]
  refine Zs hf fun _ hK23=>?_
  refine Zm rfl<|Ze (X8o rfl rfl (by omega) (by omega))<|Ze (Xv rfl rfl (by omega) (by omega)) ?_
  refine Zf (Vc (Xb2 _ (2+(4*j)) (X02.2 ⟨by omega,by omega⟩)) X4b) ?_;rintro _ w15 ⟨rfl,hE⟩
  replace hB2:=hB2.below hE
  replace hM6:=hM6.below hE
  replace hW:=btr hW hE
  refine Zo (Vw [vi ((dPow (2+(4*j))).num.a),vi ((dPow (2+(4*j))).num.b),vi ((dPow (2+(4*j))).num.c),vi ((dPow (2+(4*j))).num.d),vi ((dPow (2+(4*j))).exp)] Xr hB2) ?_;rintro _ w16 ⟨ho,hb⟩
  have hold:=hB2
  replace hM6:=hM6.only ho (hM6.ne hold)
  replace hW:=Below.only hW ho hlo2
  clear hold
  have hB2:=hb
  clear hb ho
  refine Zt hK23 fun a hf=>?_
  refine wp_ret ?_
  refine Xy ?_
  refine X8 ?_
  refine X2 hf (Xo hf rfl (ResV.cellN (l:=[vi ((dPow (2+(4*j))).num.a),vi ((dPow (2+(4*j))).num.b),vi ((dPow (2+(4*j))).num.c),vi ((dPow (2+(4*j))).num.d),vi ((dPow (2+(4*j))).exp)]) rfl Xg (hB2.at 0) rfl)) ?_
  exact ⟨(by rw [hfin];try rfl),hW⟩
 have hc22b:=hc22
 have e3:¬ (k=3∧i≠j):=by simpa using hc22
 refine wp_seq_k fun _ hK24=>?_
 refine X09 (fun a w=>Fr a 67 [(0,vi k),(1,vi i),(6,.pointer (some ⟨b2,0,none⟩)),(8,.map (some b6)),(46,.bool (((k==2)||(k==3))||(i != j)))]∧w9=w) ?_ ?_
 ·refine Zr hf ?_
  refine Zm rfl<|Ze (X0u rfl rfl)<|Zm rfl ?_
  refine Zg 49 rfl (fun hg25=>?_) (fun hg25=>?_)
  ·refine Zp ⟨_,_,rfl,rfl,hg25⟩ ?_
   refine Zp ⟨_,_,rfl,rfl,hg25⟩ ?_
   refine Ze (Xc rfl hg25 rfl)<|Zm rfl<|Zp ⟨_,_,rfl,rfl,rfl⟩ ?_
   refine Zp ⟨_,_,rfl,rfl,rfl⟩ ?_
   refine Zp ⟨_,_,rfl,rfl,rfl⟩ ?_
   refine Ze (Xc rfl rfl rfl)<|Za rfl ?_
   refine Zn fun a hf=>?_
   exact ⟨hf.sub ⟨rfl,rfl,rfl,rfl,X1 rfl (by first|rfl|(simp only [hc9b,hc18b,hc22b,hg25,bs];done)|simp [hc9b,hc18b,hc22b,hg25]),trivial⟩,rfl⟩
  refine Zv ⟨_,_,rfl,rfl,hg25⟩ (X9 rfl) ?_
  refine Zv ⟨_,_,rfl,rfl,hg25⟩ (X0u rfl rfl) ?_
  refine Ze (X7 rfl hg25 rfl)<|Zm rfl ?_
  refine Zg 53 rfl (fun hg26=>?_) (fun hg26=>?_)
  ·refine Zp ⟨_,_,rfl,rfl,hg26⟩ ?_
   refine Zp ⟨_,_,rfl,rfl,hg26⟩ ?_
   refine Zp ⟨_,_,rfl,rfl,hg26⟩ ?_
   refine Ze (Xc rfl hg26 rfl)<|Za rfl ?_
   refine Zn fun a hf=>?_
   exact ⟨hf.sub ⟨rfl,rfl,rfl,rfl,X1 rfl (by first|rfl|(simp only [hc9b,hc18b,hc22b,hg25,hg26,bs];done)|simp [hc9b,hc18b,hc22b,hg25,hg26]),trivial⟩,rfl⟩
  refine Zv ⟨_,_,rfl,rfl,hg26⟩ (X9 rfl) ?_
  refine Zv ⟨_,_,rfl,rfl,hg26⟩ (X9 rfl) ?_
  refine Zv ⟨_,_,rfl,rfl,hg26⟩ (X2z rfl rfl) ?_
  refine Ze (X7 rfl hg26 rfl)<|Za rfl ?_
  refine Zn fun a hf=>?_
  exact ⟨hf.sub ⟨rfl,rfl,rfl,rfl,X1 rfl (by first|rfl|(simp only [hc9b,hc18b,hc22b,hg25,hg26,bs];done)|simp [hc9b,hc18b,hc22b,hg25,hg26]),trivial⟩,rfl⟩
 rintro a _ ⟨hf,rfl⟩
 refine hK24 _ _ ?_
 refine Xi hf rfl (fun hc27=>?_) (fun hc27=>?_)
 ·have hc27b:=hc27
  have hfin:entryI k i j=dZ:=by rw [entryI,if_neg e1,if_neg e2,if_neg e3,if_pos (by simpa [or_assoc] using hc27)]
  refine Zs hf fun _ hK28=>?_
  refine Ze (Xh (ps:=[]) (cs:=[vi 0,vi 0,vi 0,vi 0,vi 0]) rfl (fun _=>by first|rfl|kernel_rfl)) ?_
  refine Zo (Vw [vi 0,vi 0,vi 0,vi 0,vi 0] Xr hB2) ?_;rintro _ w17 ⟨ho,hb⟩
  have hold:=hB2
  replace hM6:=hM6.only ho (hM6.ne hold)
  replace hW:=Below.only hW ho hlo2
  clear hold
  have hB2:=hb
  clear hb ho
  refine Zt hK28 fun a hf=>?_
  refine wp_ret ?_
  refine Xy ?_
  refine X8 ?_
  refine X2 hf (Xo hf rfl (ResV.cellN (l:=[vi 0,vi 0,vi 0,vi 0,vi 0]) rfl Xg (hB2.at 0) rfl)) ?_
  exact ⟨(by rw [hfin];try rfl),hW⟩
 have hc27b:=hc27
 have e4:¬ (k=2∨k=3∨i≠j):=by simpa [not_or,and_assoc] using hc27
 refine Zs hf fun _ hK29=>?_
 refine Zm rfl<|Ze (X0u rfl rfl)<|Za rfl ?_
 refine Zt hK29 fun a hf=>?_
 refine Xi hf rfl (fun hc30=>?_) (fun hc30=>?_)
 ·have hc30b:=hc30
  have hfin:entryI k i j=⟨⟨1,0,0,0⟩,0⟩:=by rw [entryI,if_neg e1,if_neg e2,if_neg e3,if_neg e4,if_pos (by simpa using hc30)]
  refine Zs hf fun _ hK31=>?_
  refine Zf (Vc (Xlx _ 1) Xch) ?_;rintro _ w18 ⟨rfl,hE⟩
  replace hB2:=hB2.below hE
  replace hM6:=hM6.below hE
  replace hW:=btr hW hE
  refine Zo (Vw [vi ((⟨⟨1,0,0,0⟩,0⟩ : Dy).num.a),vi ((⟨⟨1,0,0,0⟩,0⟩ : Dy).num.b),vi ((⟨⟨1,0,0,0⟩,0⟩ : Dy).num.c),vi ((⟨⟨1,0,0,0⟩,0⟩ : Dy).num.d),vi ((⟨⟨1,0,0,0⟩,0⟩ : Dy).exp)] Xr hB2) ?_;rintro _ w19 ⟨ho,hb⟩
  have hold:=hB2
  replace hM6:=hM6.only ho (hM6.ne hold)
  replace hW:=Below.only hW ho hlo2
  clear hold
  have hB2:=hb
  clear hb ho
  refine Zt hK31 fun a hf=>?_
  refine wp_ret ?_
  refine Xy ?_
  refine X8 ?_
  refine X2 hf (Xo hf rfl (ResV.cellN (l:=[vi ((⟨⟨1,0,0,0⟩,0⟩ : Dy).num.a),vi ((⟨⟨1,0,0,0⟩,0⟩ : Dy).num.b),vi ((⟨⟨1,0,0,0⟩,0⟩ : Dy).num.c),vi ((⟨⟨1,0,0,0⟩,0⟩ : Dy).num.d),vi ((⟨⟨1,0,0,0⟩,0⟩ : Dy).exp)]) rfl Xg (hB2.at 0) rfl)) ?_
  exact ⟨(by rw [hfin];try rfl),hW⟩
 have hc30b:=hc30
 have hfin:entryI k i j=dPow (turnOf k):=by rw [entryI,if_neg e1,if_neg e2,if_neg e3,if_neg e4,if_neg (by simpa using hc30)]
 refine wp_skip ?_
 refine Xf ?_
 refine hK7 _ _ ?_
 refine Zs hf fun _ hK32=>?_
 refine Zm rfl<|Zm rfl<|Ze (Xhl (v:=(turnOf k)) rfl rfl Tryz.underlying152 Tryz.underlying3 hM6 (Xdt (by omega) (by omega))) ?_
 refine Zf (Vc (Xb2 _ (turnOf k) (Xe5 k)) X4b) ?_;rintro _ w20 ⟨rfl,hE⟩
 replace hB2:=hB2.below hE
 replace hM6:=hM6.below hE
 replace hW:=btr hW hE
 refine Zo (Vw [vi ((dPow (turnOf k)).num.a),vi ((dPow (turnOf k)).num.b),vi ((dPow (turnOf k)).num.c),vi ((dPow (turnOf k)).num.d),vi ((dPow (turnOf k)).exp)] Xr hB2) ?_;rintro _ w21 ⟨ho,hb⟩
 have hold:=hB2
 replace hM6:=hM6.only ho (hM6.ne hold)
 replace hW:=Below.only hW ho hlo2
 clear hold
 have hB2:=hb
 clear hb ho
 refine Zt hK32 fun a hf=>?_
 refine wp_ret (X2 hf (Xo hf rfl (ResV.cellN (l:=[vi ((dPow (turnOf k)).num.a),vi ((dPow (turnOf k)).num.b),vi ((dPow (turnOf k)).num.c),vi ((dPow (turnOf k)).num.d),vi ((dPow (turnOf k)).exp)]) rfl Xg (hB2.at 0) rfl)) ?_)
 exact ⟨(by rw [hfin];try rfl),hW⟩
end Go.Proofs.YtlfjcmldfbfdbaaGreat
