/-
  What is proved: for every drawn circuit, the schedule is accepted and keeps the operator, and the least number of layers is at most the depth: the law returns true at every input and leaves its arguments as they were. Conditions: none.
-/
import Derived.Test.YtlfjcmldfbfdbaaGreatE1
import Derived.MapKept
import Derived.Shelf.Sort.Plain
import Derived.Shelf.Slices.Turned
import Derived.Ground.Names2Prog
import Derived.Shelf.Slices.Clone
import Derived.Shelf.Slices.CompactI
import Derived.Shelf.Slices.Cells
import Derived.Test.YtlfjcmldfbfdbaaGreatProg
import Derived.Shelf.Spec.SlicesGrow
import Derived.Laws.MakeOwn
import Derived.Laws.Slices
import Derived.Shelf.Slices.In.SortNone
set_option linter.unusedVariables false
set_option linter.unusedSimpArgs false
set_option maxRecDepth 4000
namespace Go.Proofs.YtlfjcmldfbfdbaaGreat
open Go.RowKit
theorem Xwv(w0:World)(x:Dy)(y:Dy) : Ret Tryz.prog 140 [.agg #[vi x.num.a,vi x.num.b,vi x.num.c,vi x.num.d,vi x.exp],.agg #[vi y.num.a,vi y.num.b,vi y.num.c,vi y.num.d,vi y.exp],.func (.func 141) #[] #[]] w0 (fun v w=>v=.tuple #[dV ((dAddI x y).getD dZ),.bool ((dAddI x y).isSome)]∧Below w0.heap.size w0 w):=by
 refine enter Tryz.func140 rfl 64 rfl rfl ?_;intro a hf
 have hW:Below w0.heap.size w0 w0:=Below.refl _ _
 refine Zs hf fun _ hK1=>?_;refine Zf (X0p (zs:=[vi x.num.a,vi x.num.b,vi x.num.c,vi x.num.d,vi x.exp]) rfl rfl) ?_;rintro _ w1 ⟨b2,rfl,hl2,hE,hB2⟩;have hlo2:=Nat.le_trans hW.size hl2;replace hW:=btr hW hE;refine Zf (X0p (zs:=[vi y.num.a,vi y.num.b,vi y.num.c,vi y.num.d,vi y.exp]) rfl rfl) ?_;rintro _ w2 ⟨b3,rfl,hl3,hE,hB3⟩
 have hne2_3:b2≠b3:=by have:=hB2.lt;omega
 have hlo3:=Nat.le_trans hW.size hl3;replace hB2:=hB2.below hE;replace hW:=btr hW hE;refine Zf (Xa (zs:=[vi 0,vi 0,vi 0,vi 0,vi 0]) X1p rfl) ?_;rintro _ w3 ⟨b4,rfl,hl4,hE,hB4⟩
 have hne2_4:b2≠b4:=by have:=hB2.lt;omega
 have hne3_4:b3≠b4:=by have:=hB3.lt;omega
 have hlo4:=Nat.le_trans hW.size hl4;replace hB2:=hB2.below hE;replace hB3:=hB3.below hE;replace hW:=btr hW hE;refine Za rfl ?_;refine Zt hK1 fun a hf=>?_;refine wp_seq_k fun _ hK5=>?_;refine wp_seq_k fun _ hK6=>?_;refine X08 (fun a w=>Fr a 64 [(2,.func (.func 141) #[] #[]),(3,.pointer (some ⟨b2,0,none⟩)),(4,.pointer (some ⟨b3,0,none⟩)),(6,.pointer (some ⟨b4,0,none⟩)),(22,.bool ((!(dOk x))||(!(dOk y))))]∧Below w3.heap.size w3 w) ?_ ?_
 ·have hEc:Below w3.heap.size w3 w3:=Below.refl _ _
  refine Zr hf ?_;refine Ze (Vn Xk hB2) ?_;refine Zf (Vc (Xlf _ x) X9m) ?_;rintro _ w4 ⟨rfl,hE⟩;replace hB2:=hB2.below hE;replace hB3:=hB3.below hE;replace hB4:=hB4.below hE;replace hW:=btr hW hE;replace hEc:=btr hEc hE;refine Ze (X16 rfl)<|Zm rfl ?_
  refine Zg 18 rfl (fun hg7=>?_) (fun hg7=>?_)
  ·refine Zp ⟨_,_,rfl,rfl,hg7⟩ ?_;refine Zp ⟨_,_,rfl,rfl,hg7⟩ ?_;refine Zp ⟨_,_,rfl,rfl,hg7⟩ ?_;refine Ze (Xb rfl hg7 rfl) ?_;refine Zn fun a hf=>?_
   have hEE:Below w3.heap.size w3 w4:=hEc
   exact ⟨hf.sub ⟨rfl,rfl,rfl,rfl,X1 rfl (by first|rfl|(simp only [hg7,bs];done)|simp [hg7]),trivial⟩,hEE⟩
  refine Zv ⟨_,_,rfl,rfl,hg7⟩ (Vn Xk hB3) ?_;refine Zk ⟨_,_,rfl,rfl,hg7⟩ (Vc (Xlf _ y) X9m) ?_;rintro _ w5 ⟨rfl,hE⟩;replace hB2:=hB2.below hE;replace hB3:=hB3.below hE;replace hB4:=hB4.below hE;replace hW:=btr hW hE;replace hEc:=btr hEc hE;refine Zv ⟨_,_,rfl,rfl,hg7⟩ (X16 rfl) ?_;refine Ze (X9 rfl hg7 rfl) ?_;refine Zn fun a hf=>?_
  have hEE:Below w3.heap.size w3 w5:=hEc
  exact ⟨hf.sub ⟨rfl,rfl,rfl,rfl,X1 rfl (by first|rfl|(simp only [hg7,bs];done)|simp [hg7]),trivial⟩,hEE⟩
 rintro a w6 ⟨hf,hE⟩;replace hB2:=hB2.below hE;replace hB3:=hB3.below hE;replace hB4:=hB4.below hE;replace hW:=btr hW hE;refine hK6 _ _ ?_
 refine Xe hf rfl (fun hc8=>?_) (fun hc8=>?_)
 ·have hc8b:=hc8
  have hn:(dOk x&&dOk y)=false:=by revert hc8;cases dOk x<;>cases dOk y<;>simp
  refine Zs hf fun _ hK9=>?_;refine Ze (Xz (ps:=[]) (cs:=[vi 0,vi 0,vi 0,vi 0,vi 0]) rfl (fun _=>by first|rfl|kernel_rfl)) ?_;refine Zo (Vw [vi 0,vi 0,vi 0,vi 0,vi 0] Xw hB4) ?_;rintro _ w7 ⟨ho,hb⟩;have hold:=hB4;replace hB2:=hB2.only ho (by omega);replace hB3:=hB3.only ho (by omega);replace hW:=Below.only hW ho hlo4;clear hold;have hB4:=hb;clear hb ho;refine Za rfl ?_;refine Zt hK9 fun a hf=>?_;refine wp_ret ?_;refine X5 ?_;refine X3 hf (X15 hf rfl (ResV.cellN (l:=[vi 0,vi 0,vi 0,vi 0,vi 0]) rfl Xk (hB4.at 0) rfl) rfl) ?_;exact ⟨by rw [dAddI,hn];rfl,hW⟩
 have hc8b:=hc8
 have hy:(dOk x&&dOk y)=true:=by revert hc8;cases dOk x<;>cases dOk y<;>simp
 have hx:=X27 (Bool.and_eq_true _ _▸hy:dOk x=true∧dOk y=true).1;have hz:=X27 (Bool.and_eq_true _ _▸hy:dOk x=true∧dOk y=true).2;refine wp_skip ?_;refine hK5 _ _ ?_;refine Zs hf fun _ hK10=>?_;refine Ze (Vd rfl X1c 4)<|Ze (X0 rfl X4 (hB2.at 4))<|Ze (Vd rfl X1c 4)<|Ze (X0 rfl X4 (hB3.at 4))<|Ze (Xtf rfl rfl) ?_;refine Za rfl ?_;refine Zt hK10 fun a hf=>?_;refine Zs hf fun _ hK11=>?_;refine Ze (Vn Xk hB2)<|Zm rfl ?_;refine Zf (Vc (Xui _ x (max x.exp y.exp) (by omega) (by omega) (by omega)) Xjg) ?_;rintro _ w8 ⟨rfl,hE⟩;replace hB2:=hB2.below hE;replace hB3:=hB3.below hE;replace hB4:=hB4.below hE;replace hW:=btr hW hE;refine Zm rfl<|Ze (X8 (vs:=[.agg #[vi (((dRaise x (max x.exp y.exp)).1).a),vi (((dRaise x (max x.exp y.exp)).1).b),vi (((dRaise x (max x.exp y.exp)).1).c),vi (((dRaise x (max x.exp y.exp)).1).d)],.bool ((dRaise x (max x.exp y.exp)).2)]) rfl rfl)<|Ze (X8 (vs:=[.agg #[vi (((dRaise x (max x.exp y.exp)).1).a),vi (((dRaise x (max x.exp y.exp)).1).b),vi (((dRaise x (max x.exp y.exp)).1).c),vi (((dRaise x (max x.exp y.exp)).1).d)],.bool ((dRaise x (max x.exp y.exp)).2)]) rfl rfl) ?_;refine Zf (Xa (zs:=[vi 0,vi 0,vi 0,vi 0]) X2i rfl) ?_;rintro _ w9 ⟨b12,rfl,hl12,hE,hB12⟩;have hlo12:=Nat.le_trans hW.size hl12;replace hB2:=hB2.below hE;replace hB3:=hB3.below hE;replace hB4:=hB4.below hE;replace hW:=btr hW hE;refine Zo (Vw [vi (((dRaise x (max x.exp y.exp)).1).a),vi (((dRaise x (max x.exp y.exp)).1).b),vi (((dRaise x (max x.exp y.exp)).1).c),vi (((dRaise x (max x.exp y.exp)).1).d)] X12 hB12) ?_;rintro _ w10 ⟨ho,hb⟩;have hold:=hB12;replace hB2:=hB2.only ho (Blk.ne hB2 hold rfl);replace hB3:=hB3.only ho (Blk.ne hB3 hold rfl);replace hB4:=hB4.only ho (Blk.ne hB4 hold rfl);replace hW:=Below.only hW ho hlo12;clear hold;have hB12:=hb;clear hb ho;refine Za rfl ?_;refine Zt hK11 fun a hf=>?_
 refine Zs hf fun _ hK13=>?_;refine Ze (Vn Xk hB3)<|Zm rfl ?_;refine Zf (Vc (Xui _ y (max x.exp y.exp) (by omega) (by omega) (by omega)) Xjg) ?_;rintro _ w11 ⟨rfl,hE⟩;replace hB3:=hB3.below hE;replace hB4:=hB4.below hE;replace hB12:=hB12.below hE;replace hW:=btr hW hE;refine Zm rfl<|Ze (X8 (vs:=[.agg #[vi (((dRaise y (max x.exp y.exp)).1).a),vi (((dRaise y (max x.exp y.exp)).1).b),vi (((dRaise y (max x.exp y.exp)).1).c),vi (((dRaise y (max x.exp y.exp)).1).d)],.bool ((dRaise y (max x.exp y.exp)).2)]) rfl rfl)<|Ze (X8 (vs:=[.agg #[vi (((dRaise y (max x.exp y.exp)).1).a),vi (((dRaise y (max x.exp y.exp)).1).b),vi (((dRaise y (max x.exp y.exp)).1).c),vi (((dRaise y (max x.exp y.exp)).1).d)],.bool ((dRaise y (max x.exp y.exp)).2)]) rfl rfl) ?_;refine Zf (Xa (zs:=[vi 0,vi 0,vi 0,vi 0]) X2i rfl) ?_;rintro _ w12 ⟨b14,rfl,hl14,hE,hB14⟩
 have hne12_14:b12≠b14:=by have:=hB12.lt;omega
 have hlo14:=Nat.le_trans hW.size hl14;replace hB3:=hB3.below hE;replace hB4:=hB4.below hE;replace hB12:=hB12.below hE;replace hW:=btr hW hE;refine Zo (Vw [vi (((dRaise y (max x.exp y.exp)).1).a),vi (((dRaise y (max x.exp y.exp)).1).b),vi (((dRaise y (max x.exp y.exp)).1).c),vi (((dRaise y (max x.exp y.exp)).1).d)] X12 hB14) ?_;rintro _ w13 ⟨ho,hb⟩;have hold:=hB14;replace hB3:=hB3.only ho (Blk.ne hB3 hold rfl);replace hB4:=hB4.only ho (Blk.ne hB4 hold rfl);replace hB12:=hB12.only ho (by omega);replace hW:=Below.only hW ho hlo14;clear hold;have hB14:=hb;clear hb ho;refine Za rfl ?_;refine Zt hK13 fun a hf=>?_;refine Zs hf fun _ hK15=>?_;refine Zm rfl<|Ze (Vn X0a hB12)<|Ze (Vn X0a hB14) ?_;refine Zf (X37 (cs:=[]) (vs:=[.agg #[vi (((dRaise x (max x.exp y.exp)).1).a),vi (((dRaise x (max x.exp y.exp)).1).b),vi (((dRaise x (max x.exp y.exp)).1).c),vi (((dRaise x (max x.exp y.exp)).1).d)],.agg #[vi (((dRaise y (max x.exp y.exp)).1).a),vi (((dRaise y (max x.exp y.exp)).1).b),vi (((dRaise y (max x.exp y.exp)).1).c),vi (((dRaise y (max x.exp y.exp)).1).d)]]) rfl rfl Xsl (Xva _ ((dRaise x (max x.exp y.exp)).1) ((dRaise y (max x.exp y.exp)).1))) ?_;rintro _ w14 ⟨rfl,hE⟩;replace hB4:=hB4.below hE;replace hB12:=hB12.below hE;replace hB14:=hB14.below hE;replace hW:=btr hW hE;refine Zm rfl<|Ze (X8 (vs:=[.agg #[vi ((rIf1 (rAdd ((dRaise x (max x.exp y.exp)).1) ((dRaise y (max x.exp y.exp)).1)) [((dRaise x (max x.exp y.exp)).1),((dRaise y (max x.exp y.exp)).1)]).a),vi ((rIf1 (rAdd ((dRaise x (max x.exp y.exp)).1) ((dRaise y (max x.exp y.exp)).1)) [((dRaise x (max x.exp y.exp)).1),((dRaise y (max x.exp y.exp)).1)]).b),vi ((rIf1 (rAdd ((dRaise x (max x.exp y.exp)).1) ((dRaise y (max x.exp y.exp)).1)) [((dRaise x (max x.exp y.exp)).1),((dRaise y (max x.exp y.exp)).1)]).c),vi ((rIf1 (rAdd ((dRaise x (max x.exp y.exp)).1) ((dRaise y (max x.exp y.exp)).1)) [((dRaise x (max x.exp y.exp)).1),((dRaise y (max x.exp y.exp)).1)]).d)],.bool (rIf2 (rAdd ((dRaise x (max x.exp y.exp)).1) ((dRaise y (max x.exp y.exp)).1)) [((dRaise x (max x.exp y.exp)).1),((dRaise y (max x.exp y.exp)).1)])]) rfl rfl)<|Ze (X8 (vs:=[.agg #[vi ((rIf1 (rAdd ((dRaise x (max x.exp y.exp)).1) ((dRaise y (max x.exp y.exp)).1)) [((dRaise x (max x.exp y.exp)).1),((dRaise y (max x.exp y.exp)).1)]).a),vi ((rIf1 (rAdd ((dRaise x (max x.exp y.exp)).1) ((dRaise y (max x.exp y.exp)).1)) [((dRaise x (max x.exp y.exp)).1),((dRaise y (max x.exp y.exp)).1)]).b),vi ((rIf1 (rAdd ((dRaise x (max x.exp y.exp)).1) ((dRaise y (max x.exp y.exp)).1)) [((dRaise x (max x.exp y.exp)).1),((dRaise y (max x.exp y.exp)).1)]).c),vi ((rIf1 (rAdd ((dRaise x (max x.exp y.exp)).1) ((dRaise y (max x.exp y.exp)).1)) [((dRaise x (max x.exp y.exp)).1),((dRaise y (max x.exp y.exp)).1)]).d)],.bool (rIf2 (rAdd ((dRaise x (max x.exp y.exp)).1) ((dRaise y (max x.exp y.exp)).1)) [((dRaise x (max x.exp y.exp)).1),((dRaise y (max x.exp y.exp)).1)])]) rfl rfl) ?_
 refine Zf (Xa (zs:=[vi 0,vi 0,vi 0,vi 0]) X2i rfl) ?_;rintro _ w15 ⟨b16,rfl,hl16,hE,hB16⟩
 have hne12_16:b12≠b16:=by have:=hB12.lt;omega
 have hne14_16:b14≠b16:=by have:=hB14.lt;omega
 have hlo16:=Nat.le_trans hW.size hl16;replace hB4:=hB4.below hE;replace hB12:=hB12.below hE;replace hB14:=hB14.below hE;replace hW:=btr hW hE;refine Zo (Vw [vi ((rIf1 (rAdd ((dRaise x (max x.exp y.exp)).1) ((dRaise y (max x.exp y.exp)).1)) [((dRaise x (max x.exp y.exp)).1),((dRaise y (max x.exp y.exp)).1)]).a),vi ((rIf1 (rAdd ((dRaise x (max x.exp y.exp)).1) ((dRaise y (max x.exp y.exp)).1)) [((dRaise x (max x.exp y.exp)).1),((dRaise y (max x.exp y.exp)).1)]).b),vi ((rIf1 (rAdd ((dRaise x (max x.exp y.exp)).1) ((dRaise y (max x.exp y.exp)).1)) [((dRaise x (max x.exp y.exp)).1),((dRaise y (max x.exp y.exp)).1)]).c),vi ((rIf1 (rAdd ((dRaise x (max x.exp y.exp)).1) ((dRaise y (max x.exp y.exp)).1)) [((dRaise x (max x.exp y.exp)).1),((dRaise y (max x.exp y.exp)).1)]).d)] X12 hB16) ?_;rintro _ w16 ⟨ho,hb⟩;have hold:=hB16;replace hB4:=hB4.only ho (Blk.ne hB4 hold rfl);replace hB12:=hB12.only ho (by omega);replace hB14:=hB14.only ho (by omega);replace hW:=Below.only hW ho hlo16;clear hold;have hB16:=hb;clear hb ho;refine Za rfl ?_;refine Zt hK15 fun a hf=>?_;refine wp_seq_k fun _ hK17=>?_;refine wp_seq_k fun _ hK18=>?_;refine X08 (fun a w=>Fr a 64 [(6,.pointer (some ⟨b4,0,none⟩)),(8,vi (max x.exp y.exp)),(13,.pointer (some ⟨b16,0,none⟩)),(57,.bool (((!((dRaise x (max x.exp y.exp)).2))||(!((dRaise y (max x.exp y.exp)).2)))||(!(rIf2 (rAdd ((dRaise x (max x.exp y.exp)).1) ((dRaise y (max x.exp y.exp)).1)) [((dRaise x (max x.exp y.exp)).1),((dRaise y (max x.exp y.exp)).1)]))))]∧w16=w) ?_ ?_
 ·refine Zr hf ?_;refine Zm rfl<|Ze (X16 rfl)<|Zm rfl ?_
  refine Zg 50 rfl (fun hg19=>?_) (fun hg19=>?_)
  ·refine Zp ⟨_,_,rfl,rfl,hg19⟩ ?_;refine Zp ⟨_,_,rfl,rfl,hg19⟩ ?_;refine Ze (Xb rfl hg19 rfl)<|Zm rfl<|Zp ⟨_,_,rfl,rfl,rfl⟩ ?_;refine Zp ⟨_,_,rfl,rfl,rfl⟩ ?_;refine Ze (Xb rfl rfl rfl) ?_;refine Zn fun a hf=>?_;exact ⟨hf.sub ⟨rfl,rfl,rfl,X1 rfl (by first|rfl|(simp only [hc8b,hg19,bs];done)|simp [hc8b,hg19]),trivial⟩,rfl⟩
  refine Zv ⟨_,_,rfl,rfl,hg19⟩ (X2 rfl) ?_;refine Zv ⟨_,_,rfl,rfl,hg19⟩ (X16 rfl) ?_;refine Ze (X9 rfl hg19 rfl)<|Zm rfl ?_
  refine Zg 54 rfl (fun hg20=>?_) (fun hg20=>?_)
  ·refine Zp ⟨_,_,rfl,rfl,hg20⟩ ?_;refine Zp ⟨_,_,rfl,rfl,hg20⟩ ?_;refine Ze (Xb rfl hg20 rfl) ?_;refine Zn fun a hf=>?_;exact ⟨hf.sub ⟨rfl,rfl,rfl,X1 rfl (by first|rfl|(simp only [hc8b,hg19,hg20,bs];done)|simp [hc8b,hg19,hg20]),trivial⟩,rfl⟩
  refine Zv ⟨_,_,rfl,rfl,hg20⟩ (X2 rfl) ?_;refine Zv ⟨_,_,rfl,rfl,hg20⟩ (X16 rfl) ?_;refine Ze (X9 rfl hg20 rfl) ?_;refine Zn fun a hf=>?_;exact ⟨hf.sub ⟨rfl,rfl,rfl,X1 rfl (by first|rfl|(simp only [hc8b,hg19,hg20,bs];done)|simp [hc8b,hg19,hg20]),trivial⟩,rfl⟩
 rintro a _ ⟨hf,rfl⟩;refine hK18 _ _ ?_
 refine Xe hf rfl (fun hc21=>?_) (fun hc21=>?_)
 ·have hc21b:=hc21;have hn2:=Xau hc21;refine Zs hf fun _ hK22=>?_;refine Ze (Xz (ps:=[]) (cs:=[vi 0,vi 0,vi 0,vi 0,vi 0]) rfl (fun _=>by first|rfl|kernel_rfl)) ?_;refine Zo (Vw [vi 0,vi 0,vi 0,vi 0,vi 0] Xw hB4) ?_;rintro _ w17 ⟨ho,hb⟩;have hold:=hB4;replace hB16:=hB16.only ho (Blk.ne hB16 hold rfl);replace hW:=Below.only hW ho hlo4;clear hold;have hB4:=hb;clear hb ho;refine Za rfl ?_;refine Zt hK22 fun a hf=>?_;refine wp_ret ?_;refine X5 ?_;refine X3 hf (X15 hf rfl (ResV.cellN (l:=[vi 0,vi 0,vi 0,vi 0,vi 0]) rfl Xk (hB4.at 0) rfl) rfl) ?_;exact ⟨by rw [dAddI,if_pos hy,hn2];rfl,hW⟩
 have hc21b:=hc21;have hy2:=Xdt hc21;refine wp_skip ?_;refine hK17 _ _ ?_;refine Zs hf fun _ hK23=>?_;refine Ze (Vn X0a hB16)<|Zm rfl ?_;refine Zf (Vc (Xu3 _ (rIf1 (rAdd ((dRaise x (max x.exp y.exp)).1) ((dRaise y (max x.exp y.exp)).1)) [((dRaise x (max x.exp y.exp)).1),((dRaise y (max x.exp y.exp)).1)]) (max x.exp y.exp)) Xm5) ?_;rintro _ w18 ⟨rfl,hE⟩;replace hB4:=hB4.below hE;replace hB16:=hB16.below hE;replace hW:=btr hW hE;refine Ze (X8 (vs:=[.agg #[vi (((dOf (rIf1 (rAdd ((dRaise x (max x.exp y.exp)).1) ((dRaise y (max x.exp y.exp)).1)) [((dRaise x (max x.exp y.exp)).1),((dRaise y (max x.exp y.exp)).1)]) (max x.exp y.exp)).getD dZ).num.a),vi (((dOf (rIf1 (rAdd ((dRaise x (max x.exp y.exp)).1) ((dRaise y (max x.exp y.exp)).1)) [((dRaise x (max x.exp y.exp)).1),((dRaise y (max x.exp y.exp)).1)]) (max x.exp y.exp)).getD dZ).num.b),vi (((dOf (rIf1 (rAdd ((dRaise x (max x.exp y.exp)).1) ((dRaise y (max x.exp y.exp)).1)) [((dRaise x (max x.exp y.exp)).1),((dRaise y (max x.exp y.exp)).1)]) (max x.exp y.exp)).getD dZ).num.c),vi (((dOf (rIf1 (rAdd ((dRaise x (max x.exp y.exp)).1) ((dRaise y (max x.exp y.exp)).1)) [((dRaise x (max x.exp y.exp)).1),((dRaise y (max x.exp y.exp)).1)]) (max x.exp y.exp)).getD dZ).num.d),vi (((dOf (rIf1 (rAdd ((dRaise x (max x.exp y.exp)).1) ((dRaise y (max x.exp y.exp)).1)) [((dRaise x (max x.exp y.exp)).1),((dRaise y (max x.exp y.exp)).1)]) (max x.exp y.exp)).getD dZ).exp)],.bool ((dOf (rIf1 (rAdd ((dRaise x (max x.exp y.exp)).1) ((dRaise y (max x.exp y.exp)).1)) [((dRaise x (max x.exp y.exp)).1),((dRaise y (max x.exp y.exp)).1)]) (max x.exp y.exp)).isSome)]) rfl rfl)<|Ze (X8 (vs:=[.agg #[vi (((dOf (rIf1 (rAdd ((dRaise x (max x.exp y.exp)).1) ((dRaise y (max x.exp y.exp)).1)) [((dRaise x (max x.exp y.exp)).1),((dRaise y (max x.exp y.exp)).1)]) (max x.exp y.exp)).getD dZ).num.a),vi (((dOf (rIf1 (rAdd ((dRaise x (max x.exp y.exp)).1) ((dRaise y (max x.exp y.exp)).1)) [((dRaise x (max x.exp y.exp)).1),((dRaise y (max x.exp y.exp)).1)]) (max x.exp y.exp)).getD dZ).num.b),vi (((dOf (rIf1 (rAdd ((dRaise x (max x.exp y.exp)).1) ((dRaise y (max x.exp y.exp)).1)) [((dRaise x (max x.exp y.exp)).1),((dRaise y (max x.exp y.exp)).1)]) (max x.exp y.exp)).getD dZ).num.c),vi (((dOf (rIf1 (rAdd ((dRaise x (max x.exp y.exp)).1) ((dRaise y (max x.exp y.exp)).1)) [((dRaise x (max x.exp y.exp)).1),((dRaise y (max x.exp y.exp)).1)]) (max x.exp y.exp)).getD dZ).num.d),vi (((dOf (rIf1 (rAdd ((dRaise x (max x.exp y.exp)).1) ((dRaise y (max x.exp y.exp)).1)) [((dRaise x (max x.exp y.exp)).1),((dRaise y (max x.exp y.exp)).1)]) (max x.exp y.exp)).getD dZ).exp)],.bool ((dOf (rIf1 (rAdd ((dRaise x (max x.exp y.exp)).1) ((dRaise y (max x.exp y.exp)).1)) [((dRaise x (max x.exp y.exp)).1),((dRaise y (max x.exp y.exp)).1)]) (max x.exp y.exp)).isSome)]) rfl rfl) ?_
 refine Zo (Vw [vi (((dOf (rIf1 (rAdd ((dRaise x (max x.exp y.exp)).1) ((dRaise y (max x.exp y.exp)).1)) [((dRaise x (max x.exp y.exp)).1),((dRaise y (max x.exp y.exp)).1)]) (max x.exp y.exp)).getD dZ).num.a),vi (((dOf (rIf1 (rAdd ((dRaise x (max x.exp y.exp)).1) ((dRaise y (max x.exp y.exp)).1)) [((dRaise x (max x.exp y.exp)).1),((dRaise y (max x.exp y.exp)).1)]) (max x.exp y.exp)).getD dZ).num.b),vi (((dOf (rIf1 (rAdd ((dRaise x (max x.exp y.exp)).1) ((dRaise y (max x.exp y.exp)).1)) [((dRaise x (max x.exp y.exp)).1),((dRaise y (max x.exp y.exp)).1)]) (max x.exp y.exp)).getD dZ).num.c),vi (((dOf (rIf1 (rAdd ((dRaise x (max x.exp y.exp)).1) ((dRaise y (max x.exp y.exp)).1)) [((dRaise x (max x.exp y.exp)).1),((dRaise y (max x.exp y.exp)).1)]) (max x.exp y.exp)).getD dZ).num.d),vi (((dOf (rIf1 (rAdd ((dRaise x (max x.exp y.exp)).1) ((dRaise y (max x.exp y.exp)).1)) [((dRaise x (max x.exp y.exp)).1),((dRaise y (max x.exp y.exp)).1)]) (max x.exp y.exp)).getD dZ).exp)] Xw hB4) ?_;rintro _ w19 ⟨ho,hb⟩;have hold:=hB4;replace hB16:=hB16.only ho (Blk.ne hB16 hold rfl);replace hW:=Below.only hW ho hlo4;clear hold;have hB4:=hb;clear hb ho;refine Za rfl ?_;refine Zt hK23 fun a hf=>?_
 refine wp_ret (X3 hf (X15 hf rfl (ResV.cellN (l:=[vi (((dOf (rIf1 (rAdd ((dRaise x (max x.exp y.exp)).1) ((dRaise y (max x.exp y.exp)).1)) [((dRaise x (max x.exp y.exp)).1),((dRaise y (max x.exp y.exp)).1)]) (max x.exp y.exp)).getD dZ).num.a),vi (((dOf (rIf1 (rAdd ((dRaise x (max x.exp y.exp)).1) ((dRaise y (max x.exp y.exp)).1)) [((dRaise x (max x.exp y.exp)).1),((dRaise y (max x.exp y.exp)).1)]) (max x.exp y.exp)).getD dZ).num.b),vi (((dOf (rIf1 (rAdd ((dRaise x (max x.exp y.exp)).1) ((dRaise y (max x.exp y.exp)).1)) [((dRaise x (max x.exp y.exp)).1),((dRaise y (max x.exp y.exp)).1)]) (max x.exp y.exp)).getD dZ).num.c),vi (((dOf (rIf1 (rAdd ((dRaise x (max x.exp y.exp)).1) ((dRaise y (max x.exp y.exp)).1)) [((dRaise x (max x.exp y.exp)).1),((dRaise y (max x.exp y.exp)).1)]) (max x.exp y.exp)).getD dZ).num.d),vi (((dOf (rIf1 (rAdd ((dRaise x (max x.exp y.exp)).1) ((dRaise y (max x.exp y.exp)).1)) [((dRaise x (max x.exp y.exp)).1),((dRaise y (max x.exp y.exp)).1)]) (max x.exp y.exp)).getD dZ).exp)]) rfl Xk (hB4.at 0) rfl) rfl) ?_)
 exact ⟨by rw [dAddI,if_pos hy,hy2];rfl,hW⟩
theorem Xvp(w0:World)(x:Dy)(y:Dy) : Ret Tryz.prog 79 [.agg #[vi x.num.a,vi x.num.b,vi x.num.c,vi x.num.d,vi x.exp],.agg #[vi y.num.a,vi y.num.b,vi y.num.c,vi y.num.d,vi y.exp]] w0 (fun v w=>v=.tuple #[dV ((dAddI x y).getD dZ),.bool ((dAddI x y).isSome)]∧Below w0.heap.size w0 w):=by
 refine enter Tryz.func79 rfl 11 rfl rfl ?_;intro a hf
 have hW:Below w0.heap.size w0 w0:=Below.refl _ _
 refine Zs hf fun _ hK1=>?_;refine Zf (X0p (zs:=[vi x.num.a,vi x.num.b,vi x.num.c,vi x.num.d,vi x.exp]) rfl rfl) ?_;rintro _ w1 ⟨b2,rfl,hl2,hE,hB2⟩;have hlo2:=Nat.le_trans hW.size hl2;replace hW:=btr hW hE;refine Zf (X0p (zs:=[vi y.num.a,vi y.num.b,vi y.num.c,vi y.num.d,vi y.exp]) rfl rfl) ?_;rintro _ w2 ⟨b3,rfl,hl3,hE,hB3⟩
 have hne2_3:b2≠b3:=by have:=hB2.lt;omega
 have hlo3:=Nat.le_trans hW.size hl3;replace hB2:=hB2.below hE;replace hW:=btr hW hE;refine Zf (Xa (zs:=[vi 0,vi 0,vi 0,vi 0,vi 0]) X1p rfl) ?_;rintro _ w3 ⟨b4,rfl,hl4,hE,hB4⟩
 have hne2_4:b2≠b4:=by have:=hB2.lt;omega
 have hne3_4:b3≠b4:=by have:=hB3.lt;omega
 have hlo4:=Nat.le_trans hW.size hl4;replace hB2:=hB2.below hE;replace hB3:=hB3.below hE;replace hW:=btr hW hE;refine Za rfl ?_;refine Zt hK1 fun a hf=>?_;refine Zs hf fun _ hK5=>?_;refine Ze (Vn Xk hB2)<|Ze (Vn Xk hB3) ?_;refine Zf (Vc (Xwv _ x y) Xs8) ?_;rintro _ w4 ⟨rfl,hE⟩;replace hB2:=hB2.below hE;replace hB3:=hB3.below hE;replace hB4:=hB4.below hE;replace hW:=btr hW hE;refine Ze (X8 (vs:=[.agg #[vi (((dAddI x y).getD dZ).num.a),vi (((dAddI x y).getD dZ).num.b),vi (((dAddI x y).getD dZ).num.c),vi (((dAddI x y).getD dZ).num.d),vi (((dAddI x y).getD dZ).exp)],.bool ((dAddI x y).isSome)]) rfl rfl)<|Ze (X8 (vs:=[.agg #[vi (((dAddI x y).getD dZ).num.a),vi (((dAddI x y).getD dZ).num.b),vi (((dAddI x y).getD dZ).num.c),vi (((dAddI x y).getD dZ).num.d),vi (((dAddI x y).getD dZ).exp)],.bool ((dAddI x y).isSome)]) rfl rfl) ?_;refine Zo (Vw [vi (((dAddI x y).getD dZ).num.a),vi (((dAddI x y).getD dZ).num.b),vi (((dAddI x y).getD dZ).num.c),vi (((dAddI x y).getD dZ).num.d),vi (((dAddI x y).getD dZ).exp)] Xw hB4) ?_;rintro _ w5 ⟨ho,hb⟩;have hold:=hB4;replace hB2:=hB2.only ho (by omega);replace hB3:=hB3.only ho (by omega);replace hW:=Below.only hW ho hlo4;clear hold;have hB4:=hb;clear hb ho;refine Za rfl ?_;refine Zt hK5 fun a hf=>?_
 refine wp_ret (X3 hf (X15 hf rfl (ResV.cellN (l:=[vi (((dAddI x y).getD dZ).num.a),vi (((dAddI x y).getD dZ).num.b),vi (((dAddI x y).getD dZ).num.c),vi (((dAddI x y).getD dZ).num.d),vi (((dAddI x y).getD dZ).exp)]) rfl Xk (hB4.at 0) rfl) rfl) ?_)
 exact ⟨rfl,hW⟩
theorem Xtd(w0:World)(x:Dy)(y:Dy) : Ret Tryz.prog 77 [.agg #[vi x.num.a,vi x.num.b,vi x.num.c,vi x.num.d,vi x.exp],.agg #[vi y.num.a,vi y.num.b,vi y.num.c,vi y.num.d,vi y.exp]] w0 (fun v w=>v=.tuple #[dV ((dMulI x y).getD dZ),.bool ((dMulI x y).isSome)]∧Below w0.heap.size w0 w):=by
 refine enter Tryz.func77 rfl 38 rfl rfl ?_;intro a hf
 have hW:Below w0.heap.size w0 w0:=Below.refl _ _
 refine Zs hf fun _ hK1=>?_;refine Zf (X0p (zs:=[vi x.num.a,vi x.num.b,vi x.num.c,vi x.num.d,vi x.exp]) rfl rfl) ?_;rintro _ w1 ⟨b2,rfl,hl2,hE,hB2⟩;have hlo2:=Nat.le_trans hW.size hl2;replace hW:=btr hW hE;refine Zf (X0p (zs:=[vi y.num.a,vi y.num.b,vi y.num.c,vi y.num.d,vi y.exp]) rfl rfl) ?_;rintro _ w2 ⟨b3,rfl,hl3,hE,hB3⟩
 have hne2_3:b2≠b3:=by have:=hB2.lt;omega
 have hlo3:=Nat.le_trans hW.size hl3;replace hB2:=hB2.below hE;replace hW:=btr hW hE;refine Zf (Xa (zs:=[vi 0,vi 0,vi 0,vi 0,vi 0]) X1p rfl) ?_;rintro _ w3 ⟨b4,rfl,hl4,hE,hB4⟩
 have hne2_4:b2≠b4:=by have:=hB2.lt;omega
 have hne3_4:b3≠b4:=by have:=hB3.lt;omega
 have hlo4:=Nat.le_trans hW.size hl4;replace hB2:=hB2.below hE;replace hB3:=hB3.below hE;replace hW:=btr hW hE;refine Za rfl ?_;refine Zt hK1 fun a hf=>?_;refine Zs hf fun _ hK5=>?_;refine Ze (Vd rfl X1y 0)<|Ze (X09 (l:=[vi x.num.a,vi x.num.b,vi x.num.c,vi x.num.d]) rfl X0a ((hB2.at 0).take 4) rfl)<|Ze (Vd rfl X1y 0)<|Ze (X09 (l:=[vi y.num.a,vi y.num.b,vi y.num.c,vi y.num.d]) rfl X0a ((hB3.at 0).take 4) rfl) ?_;refine Zf (Vc (Xwp _ x.num y.num) Xq4) ?_;rintro _ w4 ⟨rfl,hE⟩;replace hB2:=hB2.below hE;replace hB3:=hB3.below hE;replace hB4:=hB4.below hE;replace hW:=btr hW hE;refine Zm rfl<|Ze (X8 (vs:=[.agg #[vi ((rIf1 (rMul x.num y.num) [x.num,y.num]).a),vi ((rIf1 (rMul x.num y.num) [x.num,y.num]).b),vi ((rIf1 (rMul x.num y.num) [x.num,y.num]).c),vi ((rIf1 (rMul x.num y.num) [x.num,y.num]).d)],.bool (rIf2 (rMul x.num y.num) [x.num,y.num])]) rfl rfl)<|Ze (X8 (vs:=[.agg #[vi ((rIf1 (rMul x.num y.num) [x.num,y.num]).a),vi ((rIf1 (rMul x.num y.num) [x.num,y.num]).b),vi ((rIf1 (rMul x.num y.num) [x.num,y.num]).c),vi ((rIf1 (rMul x.num y.num) [x.num,y.num]).d)],.bool (rIf2 (rMul x.num y.num) [x.num,y.num])]) rfl rfl) ?_;refine Zf (Xa (zs:=[vi 0,vi 0,vi 0,vi 0]) X2i rfl) ?_;rintro _ w5 ⟨b6,rfl,hl6,hE,hB6⟩;have hlo6:=Nat.le_trans hW.size hl6;replace hB2:=hB2.below hE;replace hB3:=hB3.below hE;replace hB4:=hB4.below hE;replace hW:=btr hW hE;refine Zo (Vw [vi ((rIf1 (rMul x.num y.num) [x.num,y.num]).a),vi ((rIf1 (rMul x.num y.num) [x.num,y.num]).b),vi ((rIf1 (rMul x.num y.num) [x.num,y.num]).c),vi ((rIf1 (rMul x.num y.num) [x.num,y.num]).d)] X12 hB6) ?_;rintro _ w6 ⟨ho,hb⟩;have hold:=hB6;replace hB2:=hB2.only ho (Blk.ne hB2 hold rfl);replace hB3:=hB3.only ho (Blk.ne hB3 hold rfl);replace hB4:=hB4.only ho (Blk.ne hB4 hold rfl);replace hW:=Below.only hW ho hlo6;clear hold;have hB6:=hb;clear hb ho;refine Za rfl ?_
 refine Zt hK5 fun a hf=>?_;refine wp_seq_k fun _ hK7=>?_;refine wp_seq_k fun _ hK8=>?_;refine X08 (fun a w=>Fr a 38 [(2,.pointer (some ⟨b2,0,none⟩)),(3,.pointer (some ⟨b3,0,none⟩)),(4,.pointer (some ⟨b4,0,none⟩)),(6,.pointer (some ⟨b6,0,none⟩)),(27,.bool (((!(dOk x))||(!(dOk y)))||(!(rIf2 (rMul x.num y.num) [x.num,y.num]))))]∧Below w6.heap.size w6 w) ?_ ?_
 ·have hEc:Below w6.heap.size w6 w6:=Below.refl _ _
  refine Zr hf ?_;refine Ze (Vn Xk hB2) ?_;refine Zf (Vc (Xlf _ x) X9m) ?_;rintro _ w7 ⟨rfl,hE⟩;replace hB2:=hB2.below hE;replace hB3:=hB3.below hE;replace hB4:=hB4.below hE;replace hB6:=hB6.below hE;replace hW:=btr hW hE;replace hEc:=btr hEc hE;refine Ze (X16 rfl)<|Zm rfl ?_
  refine Zg 19 rfl (fun hg9=>?_) (fun hg9=>?_)
  ·refine Zp ⟨_,_,rfl,rfl,hg9⟩ ?_;refine Zp ⟨_,_,rfl,rfl,hg9⟩ ?_;refine Zp ⟨_,_,rfl,rfl,hg9⟩ ?_;refine Ze (Xb rfl hg9 rfl)<|Zm rfl<|Zp ⟨_,_,rfl,rfl,rfl⟩ ?_;refine Zp ⟨_,_,rfl,rfl,rfl⟩ ?_;refine Ze (Xb rfl rfl rfl) ?_;refine Zn fun a hf=>?_
   have hEE:Below w6.heap.size w6 w7:=hEc
   exact ⟨hf.sub ⟨rfl,rfl,rfl,rfl,X1 rfl (by first|rfl|(simp only [hg9,bs];done)|simp [hg9]),trivial⟩,hEE⟩
  refine Zv ⟨_,_,rfl,rfl,hg9⟩ (Vn Xk hB3) ?_;refine Zk ⟨_,_,rfl,rfl,hg9⟩ (Vc (Xlf _ y) X9m) ?_;rintro _ w8 ⟨rfl,hE⟩;replace hB2:=hB2.below hE;replace hB3:=hB3.below hE;replace hB4:=hB4.below hE;replace hB6:=hB6.below hE;replace hW:=btr hW hE;replace hEc:=btr hEc hE;refine Zv ⟨_,_,rfl,rfl,hg9⟩ (X16 rfl) ?_;refine Ze (X9 rfl hg9 rfl)<|Zm rfl ?_
  refine Zg 24 rfl (fun hg10=>?_) (fun hg10=>?_)
  ·refine Zp ⟨_,_,rfl,rfl,hg10⟩ ?_;refine Zp ⟨_,_,rfl,rfl,hg10⟩ ?_;refine Ze (Xb rfl hg10 rfl) ?_;refine Zn fun a hf=>?_
   have hEE:Below w6.heap.size w6 w8:=hEc
   exact ⟨hf.sub ⟨rfl,rfl,rfl,rfl,X1 rfl (by first|rfl|(simp only [hg9,hg10,bs];done)|simp [hg9,hg10]),trivial⟩,hEE⟩
  refine Zv ⟨_,_,rfl,rfl,hg10⟩ (X2 rfl) ?_;refine Zv ⟨_,_,rfl,rfl,hg10⟩ (X16 rfl) ?_;refine Ze (X9 rfl hg10 rfl) ?_;refine Zn fun a hf=>?_
  have hEE:Below w6.heap.size w6 w8:=hEc
  exact ⟨hf.sub ⟨rfl,rfl,rfl,rfl,X1 rfl (by first|rfl|(simp only [hg9,hg10,bs];done)|simp [hg9,hg10]),trivial⟩,hEE⟩
 rintro a w9 ⟨hf,hE⟩;replace hB2:=hB2.below hE;replace hB3:=hB3.below hE;replace hB4:=hB4.below hE;replace hB6:=hB6.below hE;replace hW:=btr hW hE;refine hK8 _ _ ?_
 refine Xe hf rfl (fun hc11=>?_) (fun hc11=>?_)
 ·have hc11b:=hc11;have hn:=Xau hc11;refine Zs hf fun _ hK12=>?_;refine Ze (Xz (ps:=[]) (cs:=[vi 0,vi 0,vi 0,vi 0,vi 0]) rfl (fun _=>by first|rfl|kernel_rfl)) ?_;refine Zo (Vw [vi 0,vi 0,vi 0,vi 0,vi 0] Xw hB4) ?_;rintro _ w10 ⟨ho,hb⟩;have hold:=hB4;replace hB2:=hB2.only ho (by omega);replace hB3:=hB3.only ho (by omega);replace hB6:=hB6.only ho (Blk.ne hB6 hold rfl);replace hW:=Below.only hW ho hlo4;clear hold;have hB4:=hb;clear hb ho;refine Za rfl ?_;refine Zt hK12 fun a hf=>?_;refine wp_ret ?_;refine X5 ?_;refine X3 hf (X15 hf rfl (ResV.cellN (l:=[vi 0,vi 0,vi 0,vi 0,vi 0]) rfl Xk (hB4.at 0) rfl) rfl) ?_;exact ⟨by rw [dMulI,hn];rfl,hW⟩
 have hc11b:=hc11;have hy:=Xdt hc11;have hy3:=Xtx hy;have hx:=X27 hy3.1;have hz:=X27 hy3.2.1;refine wp_skip ?_;refine hK7 _ _ ?_;refine Zs hf fun _ hK13=>?_;refine Ze (Vn X0a hB6)<|Ze (Vd rfl X1c 4)<|Ze (X0 rfl X4 (hB2.at 4))<|Ze (Vd rfl X1c 4)<|Ze (X0 rfl X4 (hB3.at 4)) ?_;refine Ze (Xp rfl rfl (by omega) (by omega)) ?_;refine Zf (Vc (Xu3 _ (rIf1 (rMul x.num y.num) [x.num,y.num]) (x.exp+y.exp)) Xm5) ?_;rintro _ w11 ⟨rfl,hE⟩;replace hB2:=hB2.below hE;replace hB3:=hB3.below hE;replace hB4:=hB4.below hE;replace hB6:=hB6.below hE;replace hW:=btr hW hE;refine Ze (X8 (vs:=[.agg #[vi (((dOf (rIf1 (rMul x.num y.num) [x.num,y.num]) (x.exp+y.exp)).getD dZ).num.a),vi (((dOf (rIf1 (rMul x.num y.num) [x.num,y.num]) (x.exp+y.exp)).getD dZ).num.b),vi (((dOf (rIf1 (rMul x.num y.num) [x.num,y.num]) (x.exp+y.exp)).getD dZ).num.c),vi (((dOf (rIf1 (rMul x.num y.num) [x.num,y.num]) (x.exp+y.exp)).getD dZ).num.d),vi (((dOf (rIf1 (rMul x.num y.num) [x.num,y.num]) (x.exp+y.exp)).getD dZ).exp)],.bool ((dOf (rIf1 (rMul x.num y.num) [x.num,y.num]) (x.exp+y.exp)).isSome)]) rfl rfl)<|Ze (X8 (vs:=[.agg #[vi (((dOf (rIf1 (rMul x.num y.num) [x.num,y.num]) (x.exp+y.exp)).getD dZ).num.a),vi (((dOf (rIf1 (rMul x.num y.num) [x.num,y.num]) (x.exp+y.exp)).getD dZ).num.b),vi (((dOf (rIf1 (rMul x.num y.num) [x.num,y.num]) (x.exp+y.exp)).getD dZ).num.c),vi (((dOf (rIf1 (rMul x.num y.num) [x.num,y.num]) (x.exp+y.exp)).getD dZ).num.d),vi (((dOf (rIf1 (rMul x.num y.num) [x.num,y.num]) (x.exp+y.exp)).getD dZ).exp)],.bool ((dOf (rIf1 (rMul x.num y.num) [x.num,y.num]) (x.exp+y.exp)).isSome)]) rfl rfl) ?_;refine Zo (Vw [vi (((dOf (rIf1 (rMul x.num y.num) [x.num,y.num]) (x.exp+y.exp)).getD dZ).num.a),vi (((dOf (rIf1 (rMul x.num y.num) [x.num,y.num]) (x.exp+y.exp)).getD dZ).num.b),vi (((dOf (rIf1 (rMul x.num y.num) [x.num,y.num]) (x.exp+y.exp)).getD dZ).num.c),vi (((dOf (rIf1 (rMul x.num y.num) [x.num,y.num]) (x.exp+y.exp)).getD dZ).num.d),vi (((dOf (rIf1 (rMul x.num y.num) [x.num,y.num]) (x.exp+y.exp)).getD dZ).exp)] Xw hB4) ?_;rintro _ w12 ⟨ho,hb⟩
 have hold:=hB4;replace hB2:=hB2.only ho (by omega);replace hB3:=hB3.only ho (by omega);replace hB6:=hB6.only ho (Blk.ne hB6 hold rfl);replace hW:=Below.only hW ho hlo4;clear hold;have hB4:=hb;clear hb ho;refine Za rfl ?_;refine Zt hK13 fun a hf=>?_
 refine wp_ret (X3 hf (X15 hf rfl (ResV.cellN (l:=[vi (((dOf (rIf1 (rMul x.num y.num) [x.num,y.num]) (x.exp+y.exp)).getD dZ).num.a),vi (((dOf (rIf1 (rMul x.num y.num) [x.num,y.num]) (x.exp+y.exp)).getD dZ).num.b),vi (((dOf (rIf1 (rMul x.num y.num) [x.num,y.num]) (x.exp+y.exp)).getD dZ).num.c),vi (((dOf (rIf1 (rMul x.num y.num) [x.num,y.num]) (x.exp+y.exp)).getD dZ).num.d),vi (((dOf (rIf1 (rMul x.num y.num) [x.num,y.num]) (x.exp+y.exp)).getD dZ).exp)]) rfl Xk (hB4.at 0) rfl) rfl) ?_)
 exact ⟨by rw [dMulI,if_pos hy],hW⟩
theorem Xos(w0:World)(n:Int) : Ret Tryz.prog 132 [vi n] w0 (fun v w=>v=.bool (isDimB n)∧w0=w):=by
 refine enter Tryz.func132 rfl 12 rfl rfl ?_;intro a hf
 have hW:Below w0.heap.size w0 w0:=Below.refl _ _
 refine Zs hf fun _ hK1=>?_;refine Za rfl ?_;refine Zt hK1 fun a hf=>?_;refine wp_seq_k fun _ hK2=>?_;refine X08 (fun a w=>Fr a 12 [(2,.bool ((inR n 1 32)&&((bits .and .i64 n (wr (n-1)))==0)))]∧w0=w) ?_ ?_
 ·refine Zr hf ?_;refine Zm rfl ?_;refine Zf (Vc (F91 _ n 1 32) X40) ?_;rintro _ _ ⟨rfl,rfl⟩;refine Zm rfl ?_
  refine Zg 5 rfl (fun hg3=>?_) (fun hg3=>?_)
  ·refine Zv ⟨_,_,rfl,rfl,hg3⟩ (X2 rfl) ?_;refine Zv ⟨_,_,rfl,rfl,hg3⟩ (X2 rfl) ?_;refine Zv ⟨_,_,rfl,rfl,hg3⟩ (X4p rfl rfl) ?_;refine Zv ⟨_,_,rfl,rfl,hg3⟩ (Xqr rfl rfl) ?_;refine Zv ⟨_,_,rfl,rfl,hg3⟩ (X0u rfl rfl) ?_;refine Ze (Xb rfl hg3 rfl)<|Za rfl ?_;refine Zn fun a hf=>?_;exact ⟨hf.sub ⟨X1 rfl (by first|rfl|(simp only [hg3,bs];done)|simp [hg3]),trivial⟩,rfl⟩
  refine Zp ⟨_,_,rfl,rfl,hg3⟩ ?_;refine Zp ⟨_,_,rfl,rfl,hg3⟩ ?_;refine Zp ⟨_,_,rfl,rfl,hg3⟩ ?_;refine Zp ⟨_,_,rfl,rfl,hg3⟩ ?_;refine Zp ⟨_,_,rfl,rfl,hg3⟩ ?_;refine Ze (X9 rfl hg3 rfl)<|Za rfl ?_;refine Zn fun a hf=>?_;exact ⟨hf.sub ⟨X1 rfl (by first|rfl|(simp only [hg3,bs];done)|simp [hg3]),trivial⟩,rfl⟩
 rintro a _ ⟨hf,rfl⟩;refine hK2 _ _ ?_
 refine wp_ret (X3 hf (Xq hf rfl rfl) ?_)
 exact ⟨by simp [isDimB, *],rfl⟩
theorem Xvx(w0:World)(x:Dy) : Ret Tryz.prog 136 [.agg #[vi x.num.a,vi x.num.b,vi x.num.c,vi x.num.d,vi x.exp]] w0 (fun v w=>v=.bool (!dOk x)∧Below w0.heap.size w0 w):=by
 refine enter Tryz.func136 rfl 6 rfl rfl ?_;intro a hf
 have hW:Below w0.heap.size w0 w0:=Below.refl _ _
 refine Zs hf fun _ hK1=>?_;refine Zf (X0p (zs:=[vi x.num.a,vi x.num.b,vi x.num.c,vi x.num.d,vi x.exp]) rfl rfl) ?_;rintro _ w1 ⟨b2,rfl,hl2,hE,hB2⟩;have hlo2:=Nat.le_trans hW.size hl2;replace hW:=btr hW hE;refine Za rfl ?_;refine Zt hK1 fun a hf=>?_;refine Zs hf fun _ hK3=>?_;refine Ze (Vn Xk hB2) ?_;refine Zf (Vc (Xlf _ x) X9m) ?_;rintro _ w2 ⟨rfl,hE⟩;replace hB2:=hB2.below hE;replace hW:=btr hW hE;refine Ze (X16 rfl)<|Za rfl ?_;refine Zt hK3 fun a hf=>?_
 refine wp_ret (X3 hf (Xq hf rfl rfl) ?_)
 exact ⟨rfl,hW⟩
theorem Xw7(w0:World)(Al:Option Addr)(cl:Nat)(l:List Dy)(hr_l:Rd w0 w0.heap.size 98 encD Al l)(kq:FuncId)(pq:List Value)(Fq:FuncF Tryz.prog kq)(q:Dy→Bool)(hq:∀ x w,Below w0.heap.size w0 w→Ret Tryz.prog kq ([dV x]++pq) w (fun v w'=>v=.bool (q x)∧Below w.heap.size w w'))(hln:l.length≤2305843009213693951) : Ret Tryz.prog 180 [.slice Al l.length cl,.func (.func kq) #[] pq.toArray] w0 (fun v w=>∃ i:Int,v=vi i∧decide (0≤i)=l.any q∧Below w0.heap.size w0 w):=by
 refine enter Tryz.func180 rfl 19 rfl rfl ?_;intro a hf
 have hW:Below w0.heap.size w0 w0:=Below.refl _ _
 refine Zs hf fun _ hK2=>?_;refine Za rfl ?_;refine Zt hK2 fun a hf=>?_;refine wp_seq_k fun _ hK3=>?_;refine Zs hf fun _ hK4=>?_;refine Zm rfl<|Ze (X0y rfl X1f)<|Zm rfl ?_;refine Zt hK4 fun a hf=>?_;refine wp_block ?_;refine Xx (σ:=Nat) (fun (k:Nat) (a:Act) (w:World)=>Fr a 19 [(0,.slice Al l.length cl),(1,.func (.func kq) #[] pq.toArray),(7,vi (l.length:Int)),(8,vi (k:Int))]∧(k≤l.length)∧((l.take k).all (fun x=>!q x)=true)∧Below w0.heap.size w0 w) (fun (k:Nat)=>l.length+1-k) 0 ?_ ?_
 ·exact ⟨hf.sub ⟨rfl,rfl,rfl,rfl,trivial⟩,(Nat.zero_le _),(by simp),hW⟩
 rintro k a w1 ⟨hf,hk,hpre,hW⟩;refine Zs hf fun _ hK5=>?_;refine Ze (X0l rfl rfl) ?_;refine Zt hK5 fun a hf=>?_;refine wp_seq_k fun _ hK6=>?_
 refine Xe hf rfl (fun hc7=>?_) (fun hc7=>?_)
 ·have hc7b:=hc7;have hc7:=of_decide_eq_true hc7
  obtain ⟨u8,hu8⟩:=Xl (l:=l) (k:=k) (by omega)
  refine wp_skip ?_;refine hK6 _ _ ?_;refine wp_seq_k fun _ hK9=>?_;refine wp_block ?_;refine Zs hf fun _ hK10=>?_;refine Zm rfl<|Za rfl ?_;refine Zt hK10 fun a hf=>?_;refine Zs hf fun _ hK11=>?_;refine Zm rfl<|Zm rfl<|Zm rfl ?_;refine Zi (k:=k) (u:=u8) (enc:=encD) (l:=l) trivial rfl rfl X1f Xw X1k (hr_l.below' hW) hu8 rfl ?_;intro p13 hat12;refine Ze (X09 (l:=[vi u8.num.a,vi u8.num.b,vi u8.num.c,vi u8.num.d,vi u8.exp]) rfl Xk hat12 rfl) ?_;refine Zf (X37 (cs:=pq) (vs:=[.agg #[vi u8.num.a,vi u8.num.b,vi u8.num.c,vi u8.num.d,vi u8.exp]]) rfl rfl Fq (hq u8 _ hW)) ?_;rintro _ w2 ⟨rfl,hE⟩;replace hW:=btr hW hE;refine Zt hK11 fun a hf=>?_
  refine Xe hf rfl (fun hc14=>?_) (fun hc14=>?_)
  ·have hc14b:=hc14
   have hb2:l.any q=true:=X3c hu8 hc14
   refine Zs hf fun _ hK15=>?_;refine Zm rfl<|Za rfl ?_;refine Zt hK15 fun a hf=>?_;refine wp_ret ?_;refine Xr ?_;refine X5 ?_;refine X5 ?_;refine Xr ?_;refine X5 ?_;refine X3 hf (Xq hf rfl rfl) ?_;exact ⟨_,rfl,by rw [hb2];simp,hW⟩
  have hc14b:=hc14
  have hok:(!q u8)=true:=by revert hc14;cases q u8<;>simp
  refine wp_skip ?_;refine Xd ?_;refine hK9 _ _ ?_;refine Zr hf ?_;refine Ze (Xp rfl rfl (by omega) (by omega))<|Zm rfl ?_;refine Zn fun a hf=>?_;refine Xc ?_;exact ⟨k+1,⟨hf.sub ⟨rfl,rfl,rfl,rfl,trivial⟩,(by omega),(X2a hpre hu8 hok),hW⟩,(by omega)⟩
 have hc7b:=hc7;have hc7:=of_decide_eq_false hc7;refine wp_exit ?_;refine Xf ?_;refine Xf ?_;refine Xy ?_;refine hK3 _ _ ?_;refine Zs hf fun _ hK16=>?_;refine Za rfl ?_;refine Zt hK16 fun a hf=>?_
 refine wp_ret (X3 hf (Xq hf rfl rfl) ?_)
 have hb2:l.any q=false:=X2v (X24 hpre (by omega))
 exact ⟨_,rfl,by rw [hb2];rfl,hW⟩
theorem Xwc(w0:World)(Al:Option Addr)(cl:Nat)(l:List Dy)(hr_l:Rd w0 w0.heap.size 98 encD Al l)(kq:FuncId)(pq:List Value)(Fq:FuncF Tryz.prog kq)(q:Dy→Bool)(hq:∀ x w,Below w0.heap.size w0 w→Ret Tryz.prog kq ([dV x]++pq) w (fun v w'=>v=.bool (q x)∧Below w.heap.size w w'))(hln:l.length≤2305843009213693951) : Ret Tryz.prog 135 [.slice Al l.length cl,.func (.func kq) #[] pq.toArray] w0 (fun v w=>v=.bool (l.any q)∧Below w0.heap.size w0 w):=by
 refine enter Tryz.func135 rfl 9 rfl rfl ?_;intro a hf
 have hW:Below w0.heap.size w0 w0:=Below.refl _ _
 refine Zs hf fun _ hK2=>?_;refine Za rfl ?_;refine Zt hK2 fun a hf=>?_;refine Zs hf fun _ hK3=>?_;refine Zm rfl<|Zm rfl ?_;refine Zf (Vc (Xw7 _ Al cl l (hr_l.below' hW).top kq pq Fq q (fun x w' hE'=>hq x w' (hW.trans (hE'.mono hW.size))) hln) Xrm) ?_;rintro _ w1 ⟨ix,rfl,hix,hE⟩;replace hW:=btr hW hE;refine Ze (Xde rfl rfl)<|Za rfl ?_;refine Zt hK3 fun a hf=>?_
 refine wp_ret (X3 hf (Xq hf rfl rfl) ?_)
 exact ⟨by rw [← hix],hW⟩
theorem Xuv(w0:World)(m:Mx)(Am:Option Addr)(cm:Nat)(hr_m:Rd w0 w0.heap.size 98 encD Am m.cells)(hln:m.cells.length≤2305843009213693951) : Ret Tryz.prog 75 [.agg #[vi m.rows,vi m.cols,.slice Am m.cells.length cm]] w0 (fun v w=>v=.bool (mOk m)∧Below w0.heap.size w0 w):=by
 refine enter Tryz.func75 rfl 28 rfl rfl ?_;intro a hf
 have hW:Below w0.heap.size w0 w0:=Below.refl _ _
 refine Zs hf fun _ hK2=>?_;refine Zf (X0p (zs:=[vi m.rows,vi m.cols,.slice Am m.cells.length cm]) rfl rfl) ?_;rintro _ w1 ⟨b3,rfl,hl3,hE,hB3⟩;have hlo3:=Nat.le_trans hW.size hl3;replace hW:=btr hW hE;refine Za rfl ?_;refine Zt hK2 fun a hf=>?_;refine wp_seq_k fun _ hK4=>?_;refine X08 (fun a w=>Fr a 28 [(2,.bool ((((isDimB m.rows)&&(isDimB m.cols))&&((m.cells.length:Int)==(wr (m.rows*m.cols))))&&(!(m.cells.any (fun x=>!dOk x)))))]∧Below w1.heap.size w1 w) ?_ ?_
 ·have hEc:Below w1.heap.size w1 w1:=Below.refl _ _
  refine Zr hf ?_;refine Ze (Vd rfl X2m 0)<|Ze (X0 rfl X4 (hB3.at 0)) ?_;refine Zf (Vc (Xos _ m.rows) Xcg) ?_;rintro _ _ ⟨rfl,rfl⟩;refine Zm rfl ?_
  refine Zg 6 rfl (fun hg5=>?_) (fun hg5=>?_)
  ·refine Zv ⟨_,_,rfl,rfl,hg5⟩ (Vd rfl X1q 1) ?_;refine Zv ⟨_,_,rfl,rfl,hg5⟩ (X0 rfl X4 (hB3.at 1)) ?_;refine Zk ⟨_,_,rfl,rfl,hg5⟩ (Vc (Xos _ m.cols) Xcg) ?_;rintro _ _ ⟨rfl,rfl⟩;refine Ze (Xb rfl hg5 rfl)<|Zm rfl ?_
   refine Zg 11 rfl (fun hg6=>?_) (fun hg6=>?_)
   ·refine Zv ⟨_,_,rfl,rfl,hg6⟩ (Vd rfl X1e 2) ?_;refine Zv ⟨_,_,rfl,rfl,hg6⟩ (X0 rfl X2s (hB3.at 2)) ?_;refine Zv ⟨_,_,rfl,rfl,hg6⟩ (X0y rfl X1f) ?_;refine Zv ⟨_,_,rfl,rfl,hg6⟩ (Vd rfl X2m 0) ?_;refine Zv ⟨_,_,rfl,rfl,hg6⟩ (X0 rfl X4 (hB3.at 0)) ?_;refine Zv ⟨_,_,rfl,rfl,hg6⟩ (Vd rfl X1q 1) ?_;refine Zv ⟨_,_,rfl,rfl,hg6⟩ (X0 rfl X4 (hB3.at 1)) ?_;refine Zv ⟨_,_,rfl,rfl,hg6⟩ (X2j rfl rfl) ?_;refine Zv ⟨_,_,rfl,rfl,hg6⟩ (X0u rfl rfl) ?_;refine Ze (Xb rfl hg6 rfl)<|Zm rfl ?_
    refine Zg 22 rfl (fun hg7=>?_) (fun hg7=>?_)
    ·refine Zv ⟨_,_,rfl,rfl,hg7⟩ (Vd rfl X1e 2) ?_;refine Zv ⟨_,_,rfl,rfl,hg7⟩ (X0 rfl X2s (hB3.at 2)) ?_;refine Zk ⟨_,_,rfl,rfl,hg7⟩ (Vc (Xwc _ Am cm m.cells (hr_m.below' hW).top 136 [] Xpq (fun x=>!dOk x) (fun x w' hE'=>Xvx w' x) hln) Xrj) ?_;rintro _ w2 ⟨rfl,hE⟩;replace hB3:=hB3.below hE;replace hW:=btr hW hE;replace hEc:=btr hEc hE;refine Zv ⟨_,_,rfl,rfl,hg7⟩ (X16 rfl) ?_;refine Ze (Xb rfl hg7 rfl)<|Za rfl ?_;refine Zn fun a hf=>?_
     have hEE:Below w1.heap.size w1 w2:=hEc
     exact ⟨hf.sub ⟨X1 rfl (by first|rfl|(simp only [hg5,hg6,hg7,bs];done)|simp [hg5,hg6,hg7]),trivial⟩,hEE⟩
    refine Zp ⟨_,_,rfl,rfl,hg7⟩ ?_;refine Zp ⟨_,_,rfl,rfl,hg7⟩ ?_;refine Zp ⟨_,_,rfl,rfl,hg7⟩ ?_;refine Zp ⟨_,_,rfl,rfl,hg7⟩ ?_;refine Ze (X9 rfl hg7 rfl)<|Za rfl ?_;refine Zn fun a hf=>?_
    have hEE:Below w1.heap.size w1 w1:=hEc
    exact ⟨hf.sub ⟨X1 rfl (by first|rfl|(simp only [hg5,hg6,hg7,bs];done)|simp [hg5,hg6,hg7]),trivial⟩,hEE⟩
   refine Zp ⟨_,_,rfl,rfl,hg6⟩ ?_;refine Zp ⟨_,_,rfl,rfl,hg6⟩ ?_;refine Zp ⟨_,_,rfl,rfl,hg6⟩ ?_;refine Zp ⟨_,_,rfl,rfl,hg6⟩ ?_;refine Zp ⟨_,_,rfl,rfl,hg6⟩ ?_;refine Zp ⟨_,_,rfl,rfl,hg6⟩ ?_;refine Zp ⟨_,_,rfl,rfl,hg6⟩ ?_;refine Zp ⟨_,_,rfl,rfl,hg6⟩ ?_;refine Zp ⟨_,_,rfl,rfl,hg6⟩ ?_;refine Ze (X9 rfl hg6 rfl)<|Zm rfl<|Zp ⟨_,_,rfl,rfl,rfl⟩ ?_;refine Zp ⟨_,_,rfl,rfl,rfl⟩ ?_;refine Zp ⟨_,_,rfl,rfl,rfl⟩ ?_;refine Zp ⟨_,_,rfl,rfl,rfl⟩ ?_;refine Ze (X9 rfl rfl rfl)<|Za rfl ?_;refine Zn fun a hf=>?_
   have hEE:Below w1.heap.size w1 w1:=hEc
   exact ⟨hf.sub ⟨X1 rfl (by first|rfl|(simp only [hg5,hg6,bs];done)|simp [hg5,hg6]),trivial⟩,hEE⟩
  refine Zp ⟨_,_,rfl,rfl,hg5⟩ ?_;refine Zp ⟨_,_,rfl,rfl,hg5⟩ ?_;refine Zp ⟨_,_,rfl,rfl,hg5⟩ ?_;refine Ze (X9 rfl hg5 rfl)<|Zm rfl<|Zp ⟨_,_,rfl,rfl,rfl⟩ ?_;refine Zp ⟨_,_,rfl,rfl,rfl⟩ ?_;refine Zp ⟨_,_,rfl,rfl,rfl⟩ ?_;refine Zp ⟨_,_,rfl,rfl,rfl⟩ ?_;refine Zp ⟨_,_,rfl,rfl,rfl⟩ ?_;refine Zp ⟨_,_,rfl,rfl,rfl⟩ ?_;refine Zp ⟨_,_,rfl,rfl,rfl⟩ ?_;refine Zp ⟨_,_,rfl,rfl,rfl⟩ ?_;refine Zp ⟨_,_,rfl,rfl,rfl⟩ ?_;refine Ze (X9 rfl rfl rfl)<|Zm rfl<|Zp ⟨_,_,rfl,rfl,rfl⟩ ?_;refine Zp ⟨_,_,rfl,rfl,rfl⟩ ?_;refine Zp ⟨_,_,rfl,rfl,rfl⟩ ?_;refine Zp ⟨_,_,rfl,rfl,rfl⟩ ?_;refine Ze (X9 rfl rfl rfl)<|Za rfl ?_;refine Zn fun a hf=>?_
  have hEE:Below w1.heap.size w1 w1:=hEc
  exact ⟨hf.sub ⟨X1 rfl (by first|rfl|(simp only [hg5,bs];done)|simp [hg5]),trivial⟩,hEE⟩
 rintro a w3 ⟨hf,hE⟩;replace hB3:=hB3.below hE;replace hW:=btr hW hE;refine hK4 _ _ ?_
 refine wp_ret (X3 hf (Xq hf rfl rfl) ?_)
 exact ⟨by simp [mOk, *],hW⟩
theorem Xoq(w0:World)(m:Mx)(Am:Option Addr)(cm:Nat)(hm:Rd w0 w0.heap.size 98 encD Am m.cells)(i j:Nat)(hmo:mOk m=true)(hi:(i:Int)<m.rows)(hj:(j:Int)<m.cols) : Ret Tryz.prog 78 [.agg #[vi m.rows,vi m.cols,.slice Am m.cells.length cm],vi (i:Int),vi (j:Int)] w0 (fun v w=>v=dV (m.at i j)∧Below w0.heap.size w0 w):=by
 have hml:=X3g hmo
 have hlt:i*m.cols.toNat+j<m.cells.length:=by rw [hml.2.2];exact X4q (by omega) (by omega)
 have hub:m.cells.length≤1024:=by rw [hml.2.2];exact Nat.le_trans (Nat.mul_le_mul (show m.rows.toNat≤32 by omega) (show m.cols.toNat≤32 by omega)) (by decide)
 have hat0:=Mx.at_get hlt
 have hcc:m.cols=(m.cols.toNat:Int):=by omega
 suffices hgoal:Ret Tryz.prog 78 [.agg #[vi m.rows,vi (m.cols.toNat:Int),.slice Am m.cells.length cm],vi (i:Int),vi (j:Int)] w0 (fun v w=>v=dV (m.at i j)∧Below w0.heap.size w0 w) by rw [← hcc] at hgoal;exact hgoal
 refine enter Tryz.func78 rfl 17 rfl rfl ?_;intro a hf
 have hW:Below w0.heap.size w0 w0:=Below.refl _ _
 refine Zs hf fun _ hK2=>?_;refine Zf (X0p (zs:=[vi m.rows,vi (m.cols.toNat:Int),.slice Am m.cells.length cm]) rfl rfl) ?_;rintro _ w1 ⟨b3,rfl,hl3,hE,hB3⟩;have hlo3:=Nat.le_trans hW.size hl3;replace hW:=btr hW hE;refine Zf (Xa (zs:=[vi 0,vi 0,vi 0,vi 0,vi 0]) X1p rfl) ?_;rintro _ w2 ⟨b4,rfl,hl4,hE,hB4⟩;have hlo4:=Nat.le_trans hW.size hl4;have haw1_4:=(hm.below' hW).away hl4;replace hB3:=hB3.below hE;replace hW:=btr hW hE;refine Zt hK2 fun a hf=>?_;refine Zs hf fun _ hK5=>?_;refine Ze (Vd rfl X1e 2)<|Ze (X0 rfl X2s (hB3.at 2))<|Zm rfl<|Ze (Vd rfl X1q 1)<|Ze (X0 rfl X4 (hB3.at 1)) ?_;refine Ze (X9c (m:=i) (k:=m.cols.toNat) rfl rfl (by omega))<|Zm rfl<|Ze (Xp rfl rfl (by omega) (by omega)) ?_;refine Zi (k:=(i*m.cols.toNat+j)) (u:=(m.at i j)) (enc:=encD) (l:=m.cells) trivial rfl rfl X1f Xw X1k (hm.below' hW) hat0 (by omega) ?_;intro p7 hat6;refine Ze (X09 (l:=[vi ((m.at i j).num.a),vi ((m.at i j).num.b),vi ((m.at i j).num.c),vi ((m.at i j).num.d),vi ((m.at i j).exp)]) rfl Xk hat6 rfl) ?_;refine Zo (Vw [vi ((m.at i j).num.a),vi ((m.at i j).num.b),vi ((m.at i j).num.c),vi ((m.at i j).num.d),vi ((m.at i j).exp)] Xw hB4) ?_;rintro _ w3 ⟨ho,hb⟩;have hold:=hB4;replace hB3:=hB3.only ho (Blk.ne hB3 hold rfl);replace hW:=Below.only hW ho hlo4;clear hold;have hB4:=hb;clear hb ho;refine Zt hK5 fun a hf=>?_
 refine wp_ret (X3 hf (Xq hf rfl (ResV.cellN (l:=[vi ((m.at i j).num.a),vi ((m.at i j).num.b),vi ((m.at i j).num.c),vi ((m.at i j).num.d),vi ((m.at i j).exp)]) rfl Xk (hB4.at 0) rfl)) ?_)
 exact ⟨rfl,hW⟩
theorem Xrq(w0:World)(R C:Int)(k:FuncId)(caps:List Value)(hF:FuncF Tryz.prog k)(f:Nat→Nat→Option Dy)(hcell:∀ (i j:Nat) w,(i:Int)<R→(j:Int)<C→Below w0.heap.size w0 w→Ret Tryz.prog k ([vi (i:Int),vi (j:Int)]++caps) w (fun v w'=>v=.tuple #[dV ((f i j).getD dZ),.bool (f i j).isSome]∧Below w.heap.size w w')) : Ret Tryz.prog 67 [vi R,vi C,.func (.func k) #[] caps.toArray] w0 (fun v w=>∃ A c,v=.tuple #[mV A c ((matOf R C f).getD mZ),.bool (matOf R C f).isSome]∧Own w w0.heap.size 98 5 encD A c ((matOf R C f).getD mZ).cells∧Below w0.heap.size w0 w):=by
 refine enter Tryz.func67 rfl 52 rfl rfl ?_;intro a hf
 have hW:Below w0.heap.size w0 w0:=Below.refl _ _
 refine Zs hf fun _ hK1=>?_;refine Zf (Xa (zs:=[vi 0,vi 0,.slice none 0 0]) X1a rfl) ?_;rintro _ w1 ⟨b3,rfl,hl3,hE,hB3⟩;have hlo3:=Nat.le_trans hW.size hl3;replace hW:=btr hW hE;refine Za rfl ?_;refine Zt hK1 fun a hf=>?_;refine Zs hf fun _ hK4=>?_;refine Zm rfl<|Zm rfl<|Ze (Xz (ps:=[(0,vi R),(1,vi C)]) (cs:=[vi R,vi C,.slice none 0 0]) rfl (fun _=>by first|rfl|kernel_rfl)) ?_;refine Zf (Xa (zs:=[vi 0,vi 0,.slice none 0 0]) X1a rfl) ?_;rintro _ w2 ⟨b7,rfl,hl7,hE,hB7⟩
 have hne3_7:b3≠b7:=by have:=hB3.lt;omega
 have hlo7:=Nat.le_trans hW.size hl7;replace hB3:=hB3.below hE;replace hW:=btr hW hE;refine Zo (Vw [vi R,vi C,.slice none 0 0] X1j hB7) ?_;rintro _ w3 ⟨ho,hb⟩;have hold:=hB7;replace hB3:=hB3.only ho (by omega);replace hW:=Below.only hW ho hlo7;clear hold;have hB7:=hb;clear hb ho;refine Zt hK4 fun a hf=>?_;refine wp_seq_k fun _ hK8=>?_;refine wp_seq_k fun _ hK9=>?_;refine X08 (fun a w=>Fr a 52 [(0,vi R),(1,vi C),(2,.func (.func k) #[] caps.toArray),(6,.pointer (some ⟨b3,0,none⟩)),(8,.pointer (some ⟨b7,0,none⟩)),(23,.bool ((!(isDimB R))||(!(isDimB C))))]∧w3=w) ?_ ?_
 ·refine Zr hf ?_;refine Zm rfl ?_;refine Zf (Vc (Xos _ R) Xcg) ?_;rintro _ _ ⟨rfl,rfl⟩;refine Ze (X16 rfl)<|Zm rfl ?_
  refine Zg 19 rfl (fun hg10=>?_) (fun hg10=>?_)
  ·refine Zp ⟨_,_,rfl,rfl,hg10⟩ ?_;refine Zp ⟨_,_,rfl,rfl,hg10⟩ ?_;refine Zp ⟨_,_,rfl,rfl,hg10⟩ ?_;refine Ze (Xb rfl hg10 rfl) ?_;refine Zn fun a hf=>?_;exact ⟨hf.sub ⟨rfl,rfl,rfl,rfl,rfl,X1 rfl (by first|rfl|(simp only [hg10,bs];done)|simp [hg10]),trivial⟩,rfl⟩
  refine Zv ⟨_,_,rfl,rfl,hg10⟩ (X2 rfl) ?_;refine Zk ⟨_,_,rfl,rfl,hg10⟩ (Vc (Xos _ C) Xcg) ?_;rintro _ _ ⟨rfl,rfl⟩;refine Zv ⟨_,_,rfl,rfl,hg10⟩ (X16 rfl) ?_;refine Ze (X9 rfl hg10 rfl) ?_;refine Zn fun a hf=>?_;exact ⟨hf.sub ⟨rfl,rfl,rfl,rfl,rfl,X1 rfl (by first|rfl|(simp only [hg10,bs];done)|simp [hg10]),trivial⟩,rfl⟩
 rintro a _ ⟨hf,rfl⟩;refine hK9 _ _ ?_
 refine Xe hf rfl (fun hc11=>?_) (fun hc11=>?_)
 ·have hc11b:=hc11;have hn:=X7x hc11;refine Zs hf fun _ hK12=>?_;refine Ze (Xz (ps:=[]) (cs:=[vi 0,vi 0,.slice none 0 0]) rfl (fun _=>by first|rfl|kernel_rfl)) ?_;refine Zo (Vw [vi 0,vi 0,.slice none 0 0] X1j hB3) ?_;rintro _ w4 ⟨ho,hb⟩;have hold:=hB3;replace hB7:=hB7.only ho (by omega);replace hW:=Below.only hW ho hlo3;clear hold;have hB3:=hb;clear hb ho;refine Za rfl ?_;refine Zt hK12 fun a hf=>?_;refine wp_ret ?_;refine X5 ?_;refine X3 hf (X15 hf rfl (ResV.cellN (l:=[vi 0,vi 0,.slice none 0 0]) rfl X13 (hB3.at 0) rfl) rfl) ?_
  have he:matOf R C f=none:=by rw [matOf,hn];rfl
  rw [he]
  exact ⟨none,0,rfl,(Own.nil _ _ _ _ _),hW⟩
 have hc11b:=hc11;have hy:=X9k hc11;have hy2:=(Bool.and_eq_true _ _▸hy:isDimB R=true∧isDimB C=true);have hR:=X2q hy2.1;have hC:=X2q hy2.2;refine wp_skip ?_;refine hK8 _ _ ?_;refine wp_seq_k fun _ hK14=>?_;refine Zs hf fun _ hK15=>?_;refine Zm rfl<|Zm rfl ?_;refine Zt hK15 fun a hf=>?_;refine wp_block ?_;refine Xx (σ:=Nat×(List Dy)) (fun (s:Nat×(List Dy)) (a:Act) (w:World)=>match s with|(i,l)=>∃ A16 c16,Fr a 52 [(1,vi C),(2,.func (.func k) #[] caps.toArray),(6,.pointer (some ⟨b3,0,none⟩)),(8,.pointer (some ⟨b7,0,none⟩)),(25,vi R),(26,vi (i:Int))]∧((i:Int)≤R)∧(seqO (gridG f C.toNat) (i*C.toNat)=some l)∧Blk w b3 38 [vi 0,vi 0,.slice none 0 0]∧Blk w b7 38 [vi R,vi C,.slice A16 l.length c16]∧Own w w0.heap.size 98 5 encD A16 c16 l∧Below w0.heap.size w0 w) (fun (s:Nat×(List Dy))=>match s with|(i,l)=>(R-i).toNat) (0,[]) ?_ ?_
 ·exact ⟨none,0,hf.sub ⟨rfl,rfl,rfl,rfl,rfl,rfl,trivial⟩,(by omega),(by rw [Nat.zero_mul];rfl),hB3,hB7,(Own.nil _ _ _ _ _),hW⟩
 rintro ⟨i,l⟩ a w5 ⟨A16,c16,hf,hiR,hl,hB3,hB7,ho16,hW⟩;refine Zs hf fun _ hK17=>?_;refine Ze (X0l rfl rfl) ?_;refine Zt hK17 fun a hf=>?_;refine wp_seq_k fun _ hK18=>?_
 refine Xe hf rfl (fun hc19=>?_) (fun hc19=>?_)
 ·have hc19b:=hc19;have hc19:=of_decide_eq_true hc19
  have hi1:(i:Int)<R:=hc19
  have hb1:i*C.toNat≤1024:=Nat.le_trans (Nat.mul_le_mul (show i≤32 by omega) (show C.toNat≤32 by omega)) (by decide)
  refine wp_skip ?_;refine hK18 _ _ ?_;refine wp_seq_k fun _ hK20=>?_;refine wp_block ?_;refine Zs hf fun _ hK21=>?_;refine Zm rfl<|Za rfl ?_;refine Zt hK21 fun a hf=>?_;refine Zs hf fun _ hK22=>?_;refine Zm rfl<|Zm rfl ?_;refine Zt hK22 fun a hf=>?_;refine wp_block ?_;refine Xx (σ:=Nat×(List Dy)) (fun (s:Nat×(List Dy)) (a:Act) (w:World)=>match s with|(j,l2)=>∃ A23 c23,Fr a 52 [(1,vi C),(2,.func (.func k) #[] caps.toArray),(6,.pointer (some ⟨b3,0,none⟩)),(8,.pointer (some ⟨b7,0,none⟩)),(9,vi (i:Int)),(25,vi R),(26,vi (i:Int)),(29,vi C),(30,vi (j:Int))]∧((j:Int)≤C)∧(seqO (gridG f C.toNat) (i*C.toNat+j)=some l2)∧Blk w b3 38 [vi 0,vi 0,.slice none 0 0]∧Blk w b7 38 [vi R,vi C,.slice A23 l2.length c23]∧Own w w0.heap.size 98 5 encD A23 c23 l2∧Below w0.heap.size w0 w) (fun (s:Nat×(List Dy))=>match s with|(j,l2)=>(C-j).toNat) (0,l) ?_ ?_
  ·exact ⟨A16,c16,hf.sub ⟨rfl,rfl,rfl,rfl,rfl,rfl,rfl,rfl,rfl,trivial⟩,(by omega),hl,hB3,hB7,ho16,hW⟩
  rintro ⟨j,l2⟩ a w6 ⟨A23,c23,hf,hjC,hl2,hB3,hB7,ho23,hW⟩;refine Zs hf fun _ hK24=>?_;refine Ze (X0l rfl rfl) ?_;refine Zt hK24 fun a hf=>?_;refine wp_seq_k fun _ hK25=>?_
  refine Xe hf rfl (fun hc26=>?_) (fun hc26=>?_)
  ·have hc26b:=hc26;have hc26:=of_decide_eq_true hc26
   have hj1:(j:Int)<C:=hc26
   have hlen:=X56 hl2;refine wp_skip ?_;refine hK25 _ _ ?_;refine wp_seq_k fun _ hK27=>?_;refine wp_block ?_;refine Zs hf fun _ hK28=>?_;refine Zm rfl<|Za rfl ?_;refine Zt hK28 fun a hf=>?_;refine Zs hf fun _ hK29=>?_;refine Zm rfl<|Zm rfl<|Zm rfl ?_;refine Zf (X37 (cs:=caps) (vs:=[vi (i:Int),vi (j:Int)]) rfl rfl hF (hcell i j _ hi1 hj1 hW)) ?_;rintro _ w7 ⟨rfl,hE⟩;replace hB3:=hB3.below hE;replace hB7:=hB7.below hE;replace ho23:=ho23.below hE;replace hW:=btr hW hE;refine Zm rfl<|Ze (X8 (vs:=[.agg #[vi (((f i j).getD dZ).num.a),vi (((f i j).getD dZ).num.b),vi (((f i j).getD dZ).num.c),vi (((f i j).getD dZ).num.d),vi (((f i j).getD dZ).exp)],.bool ((f i j).isSome)]) rfl rfl)<|Ze (X8 (vs:=[.agg #[vi (((f i j).getD dZ).num.a),vi (((f i j).getD dZ).num.b),vi (((f i j).getD dZ).num.c),vi (((f i j).getD dZ).num.d),vi (((f i j).getD dZ).exp)],.bool ((f i j).isSome)]) rfl rfl) ?_;refine Zf (Xa (zs:=[vi 0,vi 0,vi 0,vi 0,vi 0]) X1p rfl) ?_;rintro _ w8 ⟨b30,rfl,hl30,hE,hB30⟩;have hlo30:=Nat.le_trans hW.size hl30;have haw23_30:=ho23.away hl30;replace hB3:=hB3.below hE;replace hB7:=hB7.below hE;replace ho23:=ho23.below hE;replace hW:=btr hW hE;refine Zo (Vw [vi (((f i j).getD dZ).num.a),vi (((f i j).getD dZ).num.b),vi (((f i j).getD dZ).num.c),vi (((f i j).getD dZ).num.d),vi (((f i j).getD dZ).exp)] Xw hB30) ?_;rintro _ w9 ⟨ho,hb⟩;have hold:=hB30;replace hB3:=hB3.only ho (Blk.ne hB3 hold rfl);replace hB7:=hB7.only ho (Blk.ne hB7 hold rfl);replace ho23:=ho23.onlyA ho haw23_30;replace hW:=Below.only hW ho hlo30;clear hold;have hB30:=hb;clear hb ho;refine Za rfl ?_;refine Zt hK29 fun a hf=>?_;refine wp_seq_k fun _ hK31=>?_;refine Zs hf fun _ hK32=>?_;refine Zm rfl<|Ze (X16 rfl) ?_;refine Zt hK32 fun a hf=>?_
   refine Xe hf rfl (fun hc33=>?_) (fun hc33=>?_)
   ·have hc33b:=hc33
    have hn:gridG f C.toNat (i*C.toNat+j)=none:=by rw [X8u (by omega)];revert hc33;cases f i j<;>simp
    refine Zs hf fun _ hK34=>?_;refine Ze (Xz (ps:=[]) (cs:=[vi 0,vi 0,.slice none 0 0]) rfl (fun _=>by first|rfl|kernel_rfl)) ?_;refine Zo (Vw [vi 0,vi 0,.slice none 0 0] X1j hB3) ?_;rintro _ w10 ⟨ho,hb⟩;have hold:=hB3;replace hB7:=hB7.only ho (by omega);replace hB30:=hB30.only ho (Blk.ne hB30 hold rfl);replace ho23:=ho23.onlyT ho hold rfl;replace hW:=Below.only hW ho hlo3;clear hold;have hB3:=hb;clear hb ho;refine Za rfl ?_;refine Zt hK34 fun a hf=>?_;refine wp_ret ?_;refine X5 ?_;refine Xr ?_;refine X5 ?_;refine X5 ?_;refine Xr ?_;refine Xr ?_;refine X5 ?_;refine X5 ?_;refine Xr ?_;refine X5 ?_;refine X3 hf (X15 hf rfl (ResV.cellN (l:=[vi 0,vi 0,.slice none 0 0]) rfl X13 (hB3.at 0) rfl) rfl) ?_
    have he:matOf R C f=none:=by rw [matOf,if_pos hy,Xad hn _ (X4q (by omega) (by omega))];rfl
    rw [he]
    exact ⟨none,0,rfl,(Own.nil _ _ _ _ _),hW⟩
   have hc33b:=hc33
   have hx:gridG f C.toNat (i*C.toNat+j)=some ((f i j).getD dZ):=by rw [X8u (by omega)];revert hc33;cases f i j<;>simp
   refine wp_skip ?_;refine hK31 _ _ ?_;refine Zr hf ?_;refine Ze (Vd rfl X1e 2)<|Ze (X0 rfl X2s (hB7.at 2))<|Ze (Vn Xk hB30) ?_;refine Zf (Xm (k:=1) (vs:=[.agg #[vi (((f i j).getD dZ).num.a),vi (((f i j).getD dZ).num.b),vi (((f i j).getD dZ).num.c),vi (((f i j).getD dZ).num.d),vi (((f i j).getD dZ).exp)]]) (zs:=[vi (((f i j).getD dZ).num.a),vi (((f i j).getD dZ).num.b),vi (((f i j).getD dZ).num.c),vi (((f i j).getD dZ).num.d),vi (((f i j).getD dZ).exp)]) rfl X1f X3b rfl rfl) ?_;rintro _ w11 ⟨b36,rfl,hl36,hE,hB36⟩
   have hne30_36:b30≠b36:=by have:=hB30.lt;omega
   have hlo36:=Nat.le_trans hW.size hl36;have haw23_36:=ho23.away hl36;replace hB3:=hB3.below hE;replace hB7:=hB7.below hE;replace hB30:=hB30.below hE;replace ho23:=ho23.below hE;replace hW:=btr hW hE;refine Zf (X1h (enc:=encD) (l:=(l2)) (l2:=([((f i j).getD dZ)])) (B0:=w0.heap.size) rfl rfl X1f X3b X1k X9p ho23 (Rd.of_blk hB36 rfl _ hB36.lt) (by simp only [maxLen];simp;omega) (by simp;omega) hW.size) ?_;rintro _ w12 ⟨A38,c38,rfl,ho38,hg,hat⟩
   have hown:Own _ w0.heap.size 98 5 encD _ _ (l2):=ho23
   have haw38_30:=hat _ hB30.lt haw23_30;have haw38_36:=hat _ hB36.lt haw23_36;clear hat;replace hB3:=hB3.appT hown hg rfl;replace hB7:=hB7.appT hown hg rfl;replace hB30:=hB30.appA hg haw23_30;replace hW:=Below.app hW hown hg (Nat.le_refl _) hW.size;clear hown hg;refine Ze (Vd rfl X1e 2) ?_;refine Zo (Vu (vs:=[.slice A38 (l2++([((f i j).getD dZ)])).length c38]) (l':=[vi R,vi C,.slice A38 (l2++([((f i j).getD dZ)])).length c38]) rfl rfl Xff hB7) ?_;rintro _ w13 ⟨ho,hb⟩;have hold:=hB7;replace hB3:=hB3.only ho (by omega);replace hB30:=hB30.only ho (Blk.ne hB30 hold rfl);replace ho38:=ho38.onlyT ho hold rfl;replace hW:=Below.only hW ho hlo7;clear hold;have hB7:=hb;clear hb ho;refine Zn fun a hf=>?_;refine Xd ?_;refine hK27 _ _ ?_;refine Zr hf ?_;refine Ze (Xp rfl rfl (by omega) (by omega))<|Zm rfl ?_;refine Zn fun a hf=>?_;refine Xc ?_;exact ⟨(j+1,l2++[((f i j).getD dZ)]),⟨A38,c38,hf.sub ⟨rfl,rfl,rfl,rfl,rfl,rfl,rfl,rfl,rfl,trivial⟩,(by omega),(X7e hl2 hx),hB3,hB7,ho38,hW⟩,(by first|omega|(dsimp only;omega))⟩
  have hc26b:=hc26;have hc26:=of_decide_eq_false hc26
  have hj1:j=C.toNat:=by omega
  refine wp_exit ?_;refine Xf ?_;refine Xf ?_;refine Xy ?_;refine Xd ?_;refine hK20 _ _ ?_;refine Zr hf ?_;refine Ze (Xp rfl rfl (by omega) (by omega))<|Zm rfl ?_;refine Zn fun a hf=>?_;refine Xc ?_;exact ⟨(i+1,l2),⟨A23,c23,hf.sub ⟨rfl,rfl,rfl,rfl,rfl,rfl,trivial⟩,(by omega),(by rw [Nat.add_mul,Nat.one_mul,← hj1];rw [← hj1] at hl2;exact hl2),hB3,hB7,ho23,hW⟩,(by first|omega|(dsimp only;omega))⟩
 have hc19b:=hc19;have hc19:=of_decide_eq_false hc19
 have hi1:i=R.toNat:=by omega
 refine wp_exit ?_;refine Xf ?_;refine Xf ?_;refine Xy ?_;refine hK14 _ _ ?_;refine Zs hf fun _ hK39=>?_;refine Ze (Vn X13 hB7) ?_;refine Zo (Vw [vi R,vi C,.slice A16 l.length c16] X1j hB3) ?_;rintro _ w14 ⟨ho,hb⟩;have hold:=hB3;replace hB7:=hB7.only ho (by omega);replace ho16:=ho16.onlyT ho hold rfl;replace hW:=Below.only hW ho hlo3;clear hold;have hB3:=hb;clear hb ho;refine Za rfl ?_;refine Zt hK39 fun a hf=>?_
 refine wp_ret (X3 hf (X15 hf rfl (ResV.cellN (l:=[vi R,vi C,.slice A16 l.length c16]) rfl X13 (hB3.at 0) rfl) rfl) ?_)
 have he:matOf R C f=some ⟨R,C,l⟩:=by rw [matOf,if_pos hy,← hi1,hl];rfl
 rw [he]
 exact ⟨A16,c16,rfl,ho16,hW⟩
theorem Xvq(w0:World)(i:Int)(j:Int) : Ret Tryz.prog 194 [vi i,vi j] w0 (fun v w=>v=.tuple #[dV (if i=j then (⟨⟨1,0,0,0⟩,0⟩ : Dy) else dZ),.bool true]∧Below w0.heap.size w0 w):=by
 refine enter Tryz.func194 rfl 11 rfl rfl ?_;intro a hf
 have hW:Below w0.heap.size w0 w0:=Below.refl _ _
 refine Zs hf fun _ hK1=>?_;refine Zf (Xa (zs:=[vi 0,vi 0,vi 0,vi 0,vi 0]) X1p rfl) ?_;rintro _ w1 ⟨b2,rfl,hl2,hE,hB2⟩;have hlo2:=Nat.le_trans hW.size hl2;replace hW:=btr hW hE;refine Za rfl ?_;refine Zt hK1 fun a hf=>?_;refine wp_seq_k fun _ hK3=>?_;refine Zs hf fun _ hK4=>?_;refine Zm rfl<|Zm rfl<|Ze (X0u rfl rfl) ?_;refine Zt hK4 fun a hf=>?_
 refine Xe hf rfl (fun hc5=>?_) (fun hc5=>?_)
 ·have hc5b:=hc5
  have hij:i=j:=by revert hc5;simp
  refine Zs hf fun _ hK6=>?_;refine Zf (Vc (Xsh _ 1) Xfb) ?_;rintro _ w2 ⟨rfl,hE⟩;replace hB2:=hB2.below hE;replace hW:=btr hW hE;refine Zo (Vw [vi ((⟨⟨1,0,0,0⟩,0⟩ : Dy).num.a),vi ((⟨⟨1,0,0,0⟩,0⟩ : Dy).num.b),vi ((⟨⟨1,0,0,0⟩,0⟩ : Dy).num.c),vi ((⟨⟨1,0,0,0⟩,0⟩ : Dy).num.d),vi ((⟨⟨1,0,0,0⟩,0⟩ : Dy).exp)] Xw hB2) ?_;rintro _ w3 ⟨ho,hb⟩;have hold:=hB2;replace hW:=Below.only hW ho hlo2;clear hold;have hB2:=hb;clear hb ho;refine Za rfl ?_;refine Zt hK6 fun a hf=>?_;refine wp_ret ?_;refine X5 ?_;refine X3 hf (X15 hf rfl (ResV.cellN (l:=[vi ((⟨⟨1,0,0,0⟩,0⟩ : Dy).num.a),vi ((⟨⟨1,0,0,0⟩,0⟩ : Dy).num.b),vi ((⟨⟨1,0,0,0⟩,0⟩ : Dy).num.c),vi ((⟨⟨1,0,0,0⟩,0⟩ : Dy).num.d),vi ((⟨⟨1,0,0,0⟩,0⟩ : Dy).exp)]) rfl Xk (hB2.at 0) rfl) rfl) ?_;exact ⟨by rw [if_pos hij],hW⟩
 have hc5b:=hc5
 have hij:¬ i=j:=by revert hc5;simp
 refine wp_skip ?_;refine hK3 _ _ ?_;refine Zs hf fun _ hK7=>?_;refine Ze (Xz (ps:=[]) (cs:=[vi 0,vi 0,vi 0,vi 0,vi 0]) rfl (fun _=>by first|rfl|kernel_rfl)) ?_;refine Zo (Vw [vi 0,vi 0,vi 0,vi 0,vi 0] Xw hB2) ?_;rintro _ w4 ⟨ho,hb⟩;have hold:=hB2;replace hW:=Below.only hW ho hlo2;clear hold;have hB2:=hb;clear hb ho;refine Za rfl ?_;refine Zt hK7 fun a hf=>?_
 refine wp_ret (X3 hf (X15 hf rfl (ResV.cellN (l:=[vi 0,vi 0,vi 0,vi 0,vi 0]) rfl Xk (hB2.at 0) rfl) rfl) ?_)
 exact ⟨by rw [if_neg hij];rfl,hW⟩
theorem Xwo(w0:World)(n:Int) : Ret Tryz.prog 167 [vi n] w0 (fun v w=>∃ A c,v=.tuple #[mV A c ((idI n).getD mZ),.bool (idI n).isSome]∧Own w w0.heap.size 98 5 encD A c ((idI n).getD mZ).cells∧Below w0.heap.size w0 w):=by
 refine enter Tryz.func167 rfl 9 rfl rfl ?_;intro a hf
 have hW:Below w0.heap.size w0 w0:=Below.refl _ _
 refine Zs hf fun _ hK1=>?_;refine Zf (Xa (zs:=[vi 0,vi 0,.slice none 0 0]) X1a rfl) ?_;rintro _ w1 ⟨b3,rfl,hl3,hE,hB3⟩;have hlo3:=Nat.le_trans hW.size hl3;replace hW:=btr hW hE;refine Za rfl ?_;refine Zt hK1 fun a hf=>?_;refine Zs hf fun _ hK4=>?_;refine Zm rfl<|Zm rfl ?_;refine Zf (Vc (Xrq _ n n 194 [] Xrf (fun i j=>some (if i=j then ⟨⟨1,0,0,0⟩,0⟩ else dZ)) (fun i j w' hi hj hE'=>(Xvq w' (i:Int) (j:Int)).mono fun v w'' ⟨h1,h2⟩=>⟨by rw [h1];simp only [Int.natCast_inj];rfl,h2⟩)) Xfd) ?_;rintro _ w2 ⟨A5,c5,rfl,ho5,hE⟩;replace ho5:=ho5.lower hW.size;replace hB3:=hB3.below hE;replace hW:=btr hW hE;refine Ze (X8 (vs:=[.agg #[vi (((matOf n n (fun i j=>some (if i=j then ⟨⟨1,0,0,0⟩,0⟩ else dZ))).getD mZ).rows),vi (((matOf n n (fun i j=>some (if i=j then ⟨⟨1,0,0,0⟩,0⟩ else dZ))).getD mZ).cols),.slice A5 (((matOf n n (fun i j=>some (if i=j then ⟨⟨1,0,0,0⟩,0⟩ else dZ))).getD mZ).cells).length c5],.bool ((matOf n n (fun i j=>some (if i=j then ⟨⟨1,0,0,0⟩,0⟩ else dZ))).isSome)]) rfl rfl)<|Ze (X8 (vs:=[.agg #[vi (((matOf n n (fun i j=>some (if i=j then ⟨⟨1,0,0,0⟩,0⟩ else dZ))).getD mZ).rows),vi (((matOf n n (fun i j=>some (if i=j then ⟨⟨1,0,0,0⟩,0⟩ else dZ))).getD mZ).cols),.slice A5 (((matOf n n (fun i j=>some (if i=j then ⟨⟨1,0,0,0⟩,0⟩ else dZ))).getD mZ).cells).length c5],.bool ((matOf n n (fun i j=>some (if i=j then ⟨⟨1,0,0,0⟩,0⟩ else dZ))).isSome)]) rfl rfl) ?_;refine Zo (Vw [vi (((matOf n n (fun i j=>some (if i=j then ⟨⟨1,0,0,0⟩,0⟩ else dZ))).getD mZ).rows),vi (((matOf n n (fun i j=>some (if i=j then ⟨⟨1,0,0,0⟩,0⟩ else dZ))).getD mZ).cols),.slice A5 (((matOf n n (fun i j=>some (if i=j then ⟨⟨1,0,0,0⟩,0⟩ else dZ))).getD mZ).cells).length c5] X1j hB3) ?_;rintro _ w3 ⟨ho,hb⟩;have hold:=hB3;replace ho5:=ho5.onlyT ho hold rfl;replace hW:=Below.only hW ho hlo3;clear hold;have hB3:=hb
 clear hb ho;refine Za rfl ?_;refine Zt hK4 fun a hf=>?_
 refine wp_ret (X3 hf (X15 hf rfl (ResV.cellN (l:=[vi (((matOf n n (fun i j=>some (if i=j then ⟨⟨1,0,0,0⟩,0⟩ else dZ))).getD mZ).rows),vi (((matOf n n (fun i j=>some (if i=j then ⟨⟨1,0,0,0⟩,0⟩ else dZ))).getD mZ).cols),.slice A5 (((matOf n n (fun i j=>some (if i=j then ⟨⟨1,0,0,0⟩,0⟩ else dZ))).getD mZ).cells).length c5]) rfl X13 (hB3.at 0) rfl) rfl) ?_)
 exact ⟨A5,c5,rfl,ho5,hW⟩
theorem Xvo(w0:World)(p q:Mx)(Aa Ab:Option Addr)(ca cb:Nat)(ba bb:Nat)(hra:Rd w0 w0.heap.size 98 encD Aa p.cells)(hrb:Rd w0 w0.heap.size 98 encD Ab q.cells)(hBa:Blk w0 ba 38 [vi p.rows,vi p.cols,.slice Aa p.cells.length ca])(hBb:Blk w0 bb 38 [vi q.rows,vi q.cols,.slice Ab q.cells.length cb])(hao:mOk p=true)(hbo:mOk q=true)(hab:p.cols=q.rows)(i j:Nat)(hi:(i:Int)<p.rows)(hj:(j:Int)<q.cols) : Ret Tryz.prog 76 [vi (i:Int),vi (j:Int),.pointer (some ⟨ba,0,none⟩),.pointer (some ⟨bb,0,none⟩)] w0 (fun v w=>v=.tuple #[dV ((dotI p q i j p.cols.toNat).getD dZ),.bool (dotI p q i j p.cols.toNat).isSome]∧Below w0.heap.size w0 w):=by
 have hal:=X3g hao;have hltba:=hBa.lt;have hltbb:=hBb.lt
 have hcc:p.cols=(p.cols.toNat:Int):=by omega
 refine enter Tryz.func76 rfl 48 rfl rfl ?_;intro a hf
 have hW:Below w0.heap.size w0 w0:=Below.refl _ _
 refine Zs hf fun _ hK3=>?_;refine Zf (Xa (zs:=[vi 0,vi 0,vi 0,vi 0,vi 0]) X1p rfl) ?_;rintro _ w1 ⟨b4,rfl,hl4,hE,hB4⟩;have hlo4:=Nat.le_trans hW.size hl4;have haw1_4:=(hra.below' hW).away hl4;have haw2_4:=(hrb.below' hW).away hl4;replace hBa:=hBa.below hE;replace hBb:=hBb.below hE;replace hW:=btr hW hE;refine Za rfl ?_;refine Zt hK3 fun a hf=>?_;refine Zs hf fun _ hK5=>?_;refine Ze (Xz (ps:=[]) (cs:=[vi 0,vi 0,vi 0,vi 0,vi 0]) rfl (fun _=>by first|rfl|kernel_rfl)) ?_;refine Zf (Xa (zs:=[vi 0,vi 0,vi 0,vi 0,vi 0]) X1p rfl) ?_;rintro _ w2 ⟨b6,rfl,hl6,hE,hB6⟩
 have hne4_6:b4≠b6:=by have:=hB4.lt;omega
 have hlo6:=Nat.le_trans hW.size hl6;have haw1_6:=(hra.below' hW).away hl6;have haw2_6:=(hrb.below' hW).away hl6;replace hBa:=hBa.below hE;replace hBb:=hBb.below hE;replace hB4:=hB4.below hE;replace hW:=btr hW hE;refine Zo (Vw [vi 0,vi 0,vi 0,vi 0,vi 0] Xw hB6) ?_;rintro _ w3 ⟨ho,hb⟩;have hold:=hB6;replace hBa:=hBa.only ho (Blk.ne hBa hold rfl);replace hBb:=hBb.only ho (Blk.ne hBb hold rfl);replace hB4:=hB4.only ho (by omega);replace hW:=Below.only hW ho hlo6;clear hold;have hB6:=hb;clear hb ho;refine Zt hK5 fun a hf=>?_;refine wp_seq_k fun _ hK7=>?_;refine Zs hf fun _ hK8=>?_;refine Ze (Vd rfl X1q 1)<|Ze (X0 rfl X4 (hBa.at 1))<|Zm rfl ?_;refine Zt hK8 fun a hf=>?_;refine wp_block ?_;refine Xx (σ:=Nat×Dy) (fun (s:Nat×Dy) (a:Act) (w:World)=>match s with|(k,sum)=>Fr a 48 [(0,vi (i:Int)),(1,vi (j:Int)),(2,.pointer (some ⟨ba,0,none⟩)),(3,.pointer (some ⟨bb,0,none⟩)),(6,.pointer (some ⟨b4,0,none⟩)),(8,.pointer (some ⟨b6,0,none⟩)),(16,vi p.cols),(17,vi (k:Int))]∧((k:Int)≤p.cols)∧(dotI p q i j k=some sum)∧Blk w ba 38 [vi p.rows,vi p.cols,.slice Aa p.cells.length ca]∧Blk w bb 38 [vi q.rows,vi q.cols,.slice Ab q.cells.length cb]∧Blk w b4 98 [vi 0,vi 0,vi 0,vi 0,vi 0]∧Blk w b6 98 [vi sum.num.a,vi sum.num.b,vi sum.num.c,vi sum.num.d,vi sum.exp]∧Below w0.heap.size w0 w) (fun (s:Nat×Dy)=>match s with|(k,sum)=>(p.cols-k).toNat) (0,dZ) ?_ ?_
 ·exact ⟨hf.sub ⟨rfl,rfl,rfl,rfl,rfl,rfl,rfl,rfl,trivial⟩,(by omega),rfl,hBa,hBb,hB4,hB6,hW⟩
 rintro ⟨k,sum⟩ a w4 ⟨hf,hk,hs,hBa,hBb,hB4,hB6,hW⟩;refine Zs hf fun _ hK9=>?_;refine Ze (X0l rfl rfl) ?_;refine Zt hK9 fun a hf=>?_;refine wp_seq_k fun _ hK10=>?_
 refine Xe hf rfl (fun hc11=>?_) (fun hc11=>?_)
 ·have hc11b:=hc11;have hc11:=of_decide_eq_true hc11
  have hk1:(k:Int)<p.cols:=hc11
  refine wp_skip ?_;refine hK10 _ _ ?_;refine wp_seq_k fun _ hK12=>?_;refine wp_block ?_;refine Zs hf fun _ hK13=>?_;refine Zm rfl<|Za rfl ?_;refine Zt hK13 fun a hf=>?_;refine wp_seq_k fun _ hK14=>?_;refine X08 (fun a w=>∃ b15,Fr a 48 [(0,vi (i:Int)),(1,vi (j:Int)),(2,.pointer (some ⟨ba,0,none⟩)),(3,.pointer (some ⟨bb,0,none⟩)),(6,.pointer (some ⟨b4,0,none⟩)),(8,.pointer (some ⟨b6,0,none⟩)),(10,.pointer (some ⟨b15,0,none⟩)),(11,.bool ((dMulI (p.at i k) (q.at k j)).isSome)),(16,vi p.cols),(17,vi (k:Int))]∧w0.heap.size≤b15∧Blk w b15 98 [vi (((dMulI (p.at i k) (q.at k j)).getD dZ).num.a),vi (((dMulI (p.at i k) (q.at k j)).getD dZ).num.b),vi (((dMulI (p.at i k) (q.at k j)).getD dZ).num.c),vi (((dMulI (p.at i k) (q.at k j)).getD dZ).num.d),vi (((dMulI (p.at i k) (q.at k j)).getD dZ).exp)]∧b4≠b15∧b6≠b15∧Below w4.heap.size w4 w) ?_ ?_
  ·have hEc:Below w4.heap.size w4 w4:=Below.refl _ _
   refine X05 none (fun j=>[13].contains j) mixed ?_;intro w5 hE;replace hBa:=hBa.below hE;replace hBb:=hBb.below hE;replace hB4:=hB4.below hE;replace hB6:=hB6.below hE;replace hW:=btr hW hE;replace hEc:=btr hEc hE;refine Yb hf ?_;refine Ye 0 rfl (X09 (l:=[vi p.rows,vi p.cols,.slice Aa p.cells.length ca]) rfl X13 (hBa.at 0) rfl)<|Yo 1 rfl (fun _=>X2 rfl)<|Yo 2 rfl (fun _=>X2 rfl)<|Ye 4 rfl (X09 (l:=[vi q.rows,vi q.cols,.slice Ab q.cells.length cb]) rfl X13 (hBb.at 0) rfl)<|Yo 5 rfl (fun _=>X2 rfl) ?_;refine Yo 6 rfl (fun _=>X2 rfl) ?_
   have hJc:Below w5.heap.size w5 w5:=Below.refl _ _
   refine Yc [0,1,2,3,4,5,6,7,8,9,10,11,12] 2 (fun a w=>∃ b15,Fr a 48 [(0,vi (i:Int)),(1,vi (j:Int)),(2,.pointer (some ⟨ba,0,none⟩)),(3,.pointer (some ⟨bb,0,none⟩)),(6,.pointer (some ⟨b4,0,none⟩)),(8,.pointer (some ⟨b6,0,none⟩)),(10,.pointer (some ⟨b15,0,none⟩)),(16,vi p.cols),(17,vi (k:Int)),(30,.agg #[vi (((dMulI (p.at i k) (q.at k j)).getD dZ).num.a),vi (((dMulI (p.at i k) (q.at k j)).getD dZ).num.b),vi (((dMulI (p.at i k) (q.at k j)).getD dZ).num.c),vi (((dMulI (p.at i k) (q.at k j)).getD dZ).num.d),vi (((dMulI (p.at i k) (q.at k j)).getD dZ).exp)]),(31,.bool ((dMulI (p.at i k) (q.at k j)).isSome))]∧w0.heap.size≤b15∧Blk w b15 98 [vi 0,vi 0,vi 0,vi 0,vi 0]∧b4≠b15∧b6≠b15∧w5.heap.size≤b15∧w4.heap.size≤b15∧AwayR p.cells Aa b15∧AwayR q.cells Ab b15∧Below w5.heap.size w5 w) ?_ ?_
   ·rintro a w6 ⟨b15,hf,hlo15,hB15,hne4_15,hne6_15,hlj15,hlc15,haw1_15,haw2_15,hE⟩;clear hJc;have hJc:=hE;replace hBa:=hBa.below hE;replace hBb:=hBb.below hE;replace hB4:=hB4.below hE;replace hB6:=hB6.below hE;replace hW:=btr hW hE;replace hEc:=btr hEc hE;refine Yb hf ?_;refine Y1 13 ?_;refine Yh rfl trivial rfl (Vw [vi (((dMulI (p.at i k) (q.at k j)).getD dZ).num.a),vi (((dMulI (p.at i k) (q.at k j)).getD dZ).num.b),vi (((dMulI (p.at i k) (q.at k j)).getD dZ).num.c),vi (((dMulI (p.at i k) (q.at k j)).getD dZ).num.d),vi (((dMulI (p.at i k) (q.at k j)).getD dZ).exp)] Xw hB15) ?_;rintro _ w7 ⟨ho,hb⟩;have hold:=hB15;replace hBa:=hBa.only ho (Blk.ne hBa hold rfl);replace hBb:=hBb.only ho (Blk.ne hBb hold rfl);replace hB4:=hB4.only ho (by omega);replace hB6:=hB6.only ho (by omega);replace hEc:=Below.only hEc ho hlc15;replace hJc:=Below.only hJc ho hlj15;replace hW:=Below.only hW ho hlo15;clear hold;have hB15:=hb;clear hb ho;refine Yo 14 rfl (fun _=>X1s rfl) ?_;refine Yd fun a hf=>?_
    have hEE:Below w4.heap.size w4 w7:=hEc
    exact ⟨b15,hf.sub ⟨rfl,rfl,rfl,rfl,rfl,rfl,rfl,rfl,rfl,rfl,trivial⟩,hlo15,hB15,hne4_15,hne6_15,hEE⟩
   intro hJ15;refine Yc [0,1,2,3,4,5,6,7,12] 6 (fun a w=>∃ b16,Fr a 48 [(0,vi (i:Int)),(1,vi (j:Int)),(2,.pointer (some ⟨ba,0,none⟩)),(3,.pointer (some ⟨bb,0,none⟩)),(6,.pointer (some ⟨b4,0,none⟩)),(8,.pointer (some ⟨b6,0,none⟩)),(10,.pointer (some ⟨b16,0,none⟩)),(16,vi p.cols),(17,vi (k:Int)),(24,.agg #[vi ((p.at i k).num.a),vi ((p.at i k).num.b),vi ((p.at i k).num.c),vi ((p.at i k).num.d),vi ((p.at i k).exp)]),(28,.agg #[vi ((q.at k j).num.a),vi ((q.at k j).num.b),vi ((q.at k j).num.c),vi ((q.at k j).num.d),vi ((q.at k j).exp)])]∧w0.heap.size≤b16∧Blk w b16 98 [vi 0,vi 0,vi 0,vi 0,vi 0]∧b4≠b16∧b6≠b16∧w5.heap.size≤b16∧w4.heap.size≤b16∧AwayR p.cells Aa b16∧AwayR q.cells Ab b16∧Below w5.heap.size w5 w) ?_ ?_
   ·rintro a w8 ⟨b16,hf,hlo16,hB16,hne4_16,hne6_16,hlj16,hlc16,haw1_16,haw2_16,hE⟩;clear hJc;have hJc:=hE;replace hBa:=hBa.below hE;replace hBb:=hBb.below hE;replace hB4:=hB4.below hE;replace hB6:=hB6.below hE;replace hW:=btr hW hE;replace hEc:=btr hEc hE;refine Yb hf ?_;refine Y1 8 ?_;refine Yk rfl trivial (Vc (Xtd _ (p.at i k) (q.at k j)) Xkm) (fun _ _ ⟨_,hE⟩=>hE) ?_;rintro _ w9 ⟨rfl,hE⟩;replace hBa:=hBa.below hE;replace hBb:=hBb.below hE;replace hB4:=hB4.below hE;replace hB6:=hB6.below hE;replace hB16:=hB16.below hE;replace hW:=btr hW hE;replace hEc:=btr hEc hE;replace hJc:=btr hJc hE;refine Yo 9 rfl (fun _=>X2 rfl)<|Yo 10 rfl (fun _=>X8 (vs:=[.agg #[vi (((dMulI (p.at i k) (q.at k j)).getD dZ).num.a),vi (((dMulI (p.at i k) (q.at k j)).getD dZ).num.b),vi (((dMulI (p.at i k) (q.at k j)).getD dZ).num.c),vi (((dMulI (p.at i k) (q.at k j)).getD dZ).num.d),vi (((dMulI (p.at i k) (q.at k j)).getD dZ).exp)],.bool ((dMulI (p.at i k) (q.at k j)).isSome)]) rfl rfl)<|Yo 11 rfl (fun _=>X8 (vs:=[.agg #[vi (((dMulI (p.at i k) (q.at k j)).getD dZ).num.a),vi (((dMulI (p.at i k) (q.at k j)).getD dZ).num.b),vi (((dMulI (p.at i k) (q.at k j)).getD dZ).num.c),vi (((dMulI (p.at i k) (q.at k j)).getD dZ).num.d),vi (((dMulI (p.at i k) (q.at k j)).getD dZ).exp)],.bool ((dMulI (p.at i k) (q.at k j)).isSome)]) rfl rfl) ?_;exact fun a hf=>hJ15 _ a _ rfl ⟨b16,hf.sub ⟨rfl,rfl,rfl,rfl,rfl,rfl,rfl,rfl,rfl,rfl,rfl,trivial⟩,hlo16,hB16,hne4_16,hne6_16,hlj16,hlc16,haw1_16,haw2_16,hJc⟩
   intro hJ17;refine Yc [0,1,2,3,4,5,6,12] 7 (fun a w=>∃ b17,Fr a 48 [(0,vi (i:Int)),(1,vi (j:Int)),(2,.pointer (some ⟨ba,0,none⟩)),(3,.pointer (some ⟨bb,0,none⟩)),(6,.pointer (some ⟨b4,0,none⟩)),(8,.pointer (some ⟨b6,0,none⟩)),(10,.pointer (some ⟨b17,0,none⟩)),(16,vi p.cols),(17,vi (k:Int)),(24,.agg #[vi ((p.at i k).num.a),vi ((p.at i k).num.b),vi ((p.at i k).num.c),vi ((p.at i k).num.d),vi ((p.at i k).exp)]),(25,.agg #[vi q.rows,vi q.cols,.slice Ab q.cells.length cb]),(26,vi (k:Int)),(27,vi (j:Int))]∧w0.heap.size≤b17∧Blk w b17 98 [vi 0,vi 0,vi 0,vi 0,vi 0]∧b4≠b17∧b6≠b17∧w5.heap.size≤b17∧w4.heap.size≤b17∧AwayR p.cells Aa b17∧AwayR q.cells Ab b17∧Below w5.heap.size w5 w) ?_ ?_
   ·rintro a w10 ⟨b17,hf,hlo17,hB17,hne4_17,hne6_17,hlj17,hlc17,haw1_17,haw2_17,hE⟩;clear hJc;have hJc:=hE;replace hBa:=hBa.below hE;replace hBb:=hBb.below hE;replace hB4:=hB4.below hE;replace hB6:=hB6.below hE;replace hW:=btr hW hE;replace hEc:=btr hEc hE;refine Yb hf ?_;refine Y1 7 ?_;refine Yk rfl trivial (Vc (Xoq _ q Ab cb (hrb.below' hW).top k j hbo (by omega) hj) Xc5) (fun _ _ ⟨_,hE⟩=>hE) ?_;rintro _ w11 ⟨rfl,hE⟩;replace hBa:=hBa.below hE;replace hBb:=hBb.below hE;replace hB4:=hB4.below hE;replace hB6:=hB6.below hE;replace hB17:=hB17.below hE;replace hW:=btr hW hE;replace hEc:=btr hEc hE;replace hJc:=btr hJc hE;exact fun a hf=>hJ17 _ a _ rfl ⟨b17,hf.sub ⟨rfl,rfl,rfl,rfl,rfl,rfl,rfl,rfl,rfl,rfl,rfl,trivial⟩,hlo17,hB17,hne4_17,hne6_17,hlj17,hlc17,haw1_17,haw2_17,hJc⟩
   intro hJ19;refine Y2 3 12 ?_ ?_
   ·refine Yk rfl trivial (Vc (Xoq _ p Aa ca (hra.below' hW).top i k hao hi (by omega)) Xc5) (fun _ _ ⟨_,hE⟩=>hE) ?_;rintro _ w12 ⟨rfl,hE⟩;replace hBa:=hBa.below hE;replace hBb:=hBb.below hE;replace hB4:=hB4.below hE;replace hB6:=hB6.below hE;replace hW:=btr hW hE;replace hEc:=btr hEc hE;replace hJc:=btr hJc hE;refine Y2 7 12 ?_ ?_
    ·refine Yk rfl trivial (Vc (Xoq _ q Ab cb (hrb.below' hW).top k j hbo (by omega) hj) Xc5) (fun _ _ ⟨_,hE⟩=>hE) ?_;rintro _ w13 ⟨rfl,hE⟩;replace hBa:=hBa.below hE;replace hBb:=hBb.below hE;replace hB4:=hB4.below hE;replace hB6:=hB6.below hE;replace hW:=btr hW hE;replace hEc:=btr hEc hE;replace hJc:=btr hJc hE;refine Y2 8 12 ?_ ?_
     ·refine Yk rfl trivial (Vc (Xtd _ (p.at i k) (q.at k j)) Xkm) (fun _ _ ⟨_,hE⟩=>hE) ?_;rintro _ w14 ⟨rfl,hE⟩;replace hBa:=hBa.below hE;replace hBb:=hBb.below hE;replace hB4:=hB4.below hE;replace hB6:=hB6.below hE;replace hW:=btr hW hE;replace hEc:=btr hEc hE;replace hJc:=btr hJc hE;refine Yo 9 rfl (fun _=>X2 rfl)<|Yo 10 rfl (fun _=>X8 (vs:=[.agg #[vi (((dMulI (p.at i k) (q.at k j)).getD dZ).num.a),vi (((dMulI (p.at i k) (q.at k j)).getD dZ).num.b),vi (((dMulI (p.at i k) (q.at k j)).getD dZ).num.c),vi (((dMulI (p.at i k) (q.at k j)).getD dZ).num.d),vi (((dMulI (p.at i k) (q.at k j)).getD dZ).exp)],.bool ((dMulI (p.at i k) (q.at k j)).isSome)]) rfl rfl)<|Yo 11 rfl (fun _=>X8 (vs:=[.agg #[vi (((dMulI (p.at i k) (q.at k j)).getD dZ).num.a),vi (((dMulI (p.at i k) (q.at k j)).getD dZ).num.b),vi (((dMulI (p.at i k) (q.at k j)).getD dZ).num.c),vi (((dMulI (p.at i k) (q.at k j)).getD dZ).num.d),vi (((dMulI (p.at i k) (q.at k j)).getD dZ).exp)],.bool ((dMulI (p.at i k) (q.at k j)).isSome)]) rfl rfl) ?_;refine Y1 12 ?_;refine Yk rfl trivial (Xa (zs:=[vi 0,vi 0,vi 0,vi 0,vi 0]) X1p rfl) (fun _ _ ⟨_,_,_,h,_⟩=>h) ?_;rintro _ w15 ⟨b21,rfl,hl21,hE,hB21⟩
      have hne4_21:b4≠b21:=by have:=hB4.lt;omega
      have hne6_21:b6≠b21:=by have:=hB6.lt;omega
      have hlo21:=Nat.le_trans hW.size hl21;have hlc21:=Nat.le_trans hEc.size hl21;have hlj21:=Nat.le_trans hJc.size hl21;have haw1_21:=(hra.below' hW).away hl21;have haw2_21:=(hrb.below' hW).away hl21;replace hBa:=hBa.below hE;replace hBb:=hBb.below hE;replace hB4:=hB4.below hE;replace hB6:=hB6.below hE;replace hW:=btr hW hE;replace hEc:=btr hEc hE;replace hJc:=btr hJc hE;exact fun a hf=>hJ15 _ a _ rfl ⟨b21,hf.sub ⟨rfl,rfl,rfl,rfl,rfl,rfl,rfl,rfl,rfl,rfl,rfl,trivial⟩,hlo21,hB21,hne4_21,hne6_21,hlj21,hlc21,haw1_21,haw2_21,hJc⟩
     refine Yk rfl trivial (Xa (zs:=[vi 0,vi 0,vi 0,vi 0,vi 0]) X1p rfl) (fun _ _ ⟨_,_,_,h,_⟩=>h) ?_;rintro _ w16 ⟨b22,rfl,hl22,hE,hB22⟩
     have hne4_22:b4≠b22:=by have:=hB4.lt;omega
     have hne6_22:b6≠b22:=by have:=hB6.lt;omega
     have hlo22:=Nat.le_trans hW.size hl22;have hlc22:=Nat.le_trans hEc.size hl22;have hlj22:=Nat.le_trans hJc.size hl22;have haw1_22:=(hra.below' hW).away hl22;have haw2_22:=(hrb.below' hW).away hl22;replace hBa:=hBa.below hE;replace hBb:=hBb.below hE;replace hB4:=hB4.below hE;replace hB6:=hB6.below hE;replace hW:=btr hW hE;replace hEc:=btr hEc hE;replace hJc:=btr hJc hE;exact fun a hf=>hJ17 _ a _ rfl ⟨b22,hf.sub ⟨rfl,rfl,rfl,rfl,rfl,rfl,rfl,rfl,rfl,rfl,rfl,trivial⟩,hlo22,hB22,hne4_22,hne6_22,hlj22,hlc22,haw1_22,haw2_22,hJc⟩
    refine Yk rfl trivial (Xa (zs:=[vi 0,vi 0,vi 0,vi 0,vi 0]) X1p rfl) (fun _ _ ⟨_,_,_,h,_⟩=>h) ?_;rintro _ w17 ⟨b23,rfl,hl23,hE,hB23⟩
    have hne4_23:b4≠b23:=by have:=hB4.lt;omega
    have hne6_23:b6≠b23:=by have:=hB6.lt;omega
    have hlo23:=Nat.le_trans hW.size hl23;have hlc23:=Nat.le_trans hEc.size hl23;have hlj23:=Nat.le_trans hJc.size hl23;have haw1_23:=(hra.below' hW).away hl23;have haw2_23:=(hrb.below' hW).away hl23;replace hBa:=hBa.below hE;replace hBb:=hBb.below hE;replace hB4:=hB4.below hE;replace hB6:=hB6.below hE;replace hW:=btr hW hE;replace hEc:=btr hEc hE;replace hJc:=btr hJc hE;exact fun a hf=>hJ19 _ a _ rfl ⟨b23,hf.sub ⟨rfl,rfl,rfl,rfl,rfl,rfl,rfl,rfl,rfl,rfl,rfl,rfl,rfl,trivial⟩,hlo23,hB23,hne4_23,hne6_23,hlj23,hlc23,haw1_23,haw2_23,hJc⟩
   refine Yk rfl trivial (Xa (zs:=[vi 0,vi 0,vi 0,vi 0,vi 0]) X1p rfl) (fun _ _ ⟨_,_,_,h,_⟩=>h) ?_;rintro _ w18 ⟨b24,rfl,hl24,hE,hB24⟩
   have hne4_24:b4≠b24:=by have:=hB4.lt;omega
   have hne6_24:b6≠b24:=by have:=hB6.lt;omega
   have hlo24:=Nat.le_trans hW.size hl24;have hlc24:=Nat.le_trans hEc.size hl24;have hlj24:=Nat.le_trans hJc.size hl24;have haw1_24:=(hra.below' hW).away hl24;have haw2_24:=(hrb.below' hW).away hl24;replace hBa:=hBa.below hE;replace hBb:=hBb.below hE;replace hB4:=hB4.below hE;replace hB6:=hB6.below hE;replace hW:=btr hW hE;replace hEc:=btr hEc hE;replace hJc:=btr hJc hE;refine Y1 3 ?_;refine Yk rfl trivial (Vc (Xoq _ p Aa ca (hra.below' hW).top i k hao hi (by omega)) Xc5) (fun _ _ ⟨_,hE⟩=>hE) ?_;rintro _ w19 ⟨rfl,hE⟩;replace hBa:=hBa.below hE;replace hBb:=hBb.below hE;replace hB4:=hB4.below hE;replace hB6:=hB6.below hE;replace hB24:=hB24.below hE;replace hW:=btr hW hE;replace hEc:=btr hEc hE;replace hJc:=btr hJc hE;exact fun a hf=>hJ19 _ a _ rfl ⟨b24,hf.sub ⟨rfl,rfl,rfl,rfl,rfl,rfl,rfl,rfl,rfl,rfl,rfl,rfl,rfl,trivial⟩,hlo24,hB24,hne4_24,hne6_24,hlj24,hlc24,haw1_24,haw2_24,hJc⟩
  rintro a w20 ⟨b15,hf,hlo15,hB15,hne4_15,hne6_15,hE⟩;replace hBa:=hBa.below hE;replace hBb:=hBb.below hE;replace hB4:=hB4.below hE;replace hB6:=hB6.below hE;replace hW:=btr hW hE;refine hK14 _ _ ?_;refine Zs hf fun _ hK25=>?_;refine Ze (Vn Xk hB6)<|Ze (Vn Xk hB15) ?_;refine Zf (Vc (Xvp _ sum ((dMulI (p.at i k) (q.at k j)).getD dZ)) Xq2) ?_;rintro _ w21 ⟨rfl,hE⟩;replace hBa:=hBa.below hE;replace hBb:=hBb.below hE;replace hB4:=hB4.below hE;replace hB6:=hB6.below hE;replace hB15:=hB15.below hE;replace hW:=btr hW hE;refine Zm rfl<|Ze (X8 (vs:=[.agg #[vi (((dAddI sum ((dMulI (p.at i k) (q.at k j)).getD dZ)).getD dZ).num.a),vi (((dAddI sum ((dMulI (p.at i k) (q.at k j)).getD dZ)).getD dZ).num.b),vi (((dAddI sum ((dMulI (p.at i k) (q.at k j)).getD dZ)).getD dZ).num.c),vi (((dAddI sum ((dMulI (p.at i k) (q.at k j)).getD dZ)).getD dZ).num.d),vi (((dAddI sum ((dMulI (p.at i k) (q.at k j)).getD dZ)).getD dZ).exp)],.bool ((dAddI sum ((dMulI (p.at i k) (q.at k j)).getD dZ)).isSome)]) rfl rfl)<|Ze (X8 (vs:=[.agg #[vi (((dAddI sum ((dMulI (p.at i k) (q.at k j)).getD dZ)).getD dZ).num.a),vi (((dAddI sum ((dMulI (p.at i k) (q.at k j)).getD dZ)).getD dZ).num.b),vi (((dAddI sum ((dMulI (p.at i k) (q.at k j)).getD dZ)).getD dZ).num.c),vi (((dAddI sum ((dMulI (p.at i k) (q.at k j)).getD dZ)).getD dZ).num.d),vi (((dAddI sum ((dMulI (p.at i k) (q.at k j)).getD dZ)).getD dZ).exp)],.bool ((dAddI sum ((dMulI (p.at i k) (q.at k j)).getD dZ)).isSome)]) rfl rfl) ?_;refine Zf (Xa (zs:=[vi 0,vi 0,vi 0,vi 0,vi 0]) X1p rfl) ?_;rintro _ w22 ⟨b26,rfl,hl26,hE,hB26⟩
  have hne4_26:b4≠b26:=by have:=hB4.lt;omega
  have hne6_26:b6≠b26:=by have:=hB6.lt;omega
  have hne15_26:b15≠b26:=by have:=hB15.lt;omega
  have hlo26:=Nat.le_trans hW.size hl26;have haw1_26:=(hra.below' hW).away hl26;have haw2_26:=(hrb.below' hW).away hl26;replace hBa:=hBa.below hE;replace hBb:=hBb.below hE;replace hB4:=hB4.below hE;replace hB6:=hB6.below hE;replace hB15:=hB15.below hE;replace hW:=btr hW hE;refine Zo (Vw [vi (((dAddI sum ((dMulI (p.at i k) (q.at k j)).getD dZ)).getD dZ).num.a),vi (((dAddI sum ((dMulI (p.at i k) (q.at k j)).getD dZ)).getD dZ).num.b),vi (((dAddI sum ((dMulI (p.at i k) (q.at k j)).getD dZ)).getD dZ).num.c),vi (((dAddI sum ((dMulI (p.at i k) (q.at k j)).getD dZ)).getD dZ).num.d),vi (((dAddI sum ((dMulI (p.at i k) (q.at k j)).getD dZ)).getD dZ).exp)] Xw hB26) ?_;rintro _ w23 ⟨ho,hb⟩;have hold:=hB26;replace hBa:=hBa.only ho (Blk.ne hBa hold rfl);replace hBb:=hBb.only ho (Blk.ne hBb hold rfl);replace hB4:=hB4.only ho (by omega);replace hB6:=hB6.only ho (by omega);replace hB15:=hB15.only ho (by omega);replace hW:=Below.only hW ho hlo26;clear hold;have hB26:=hb;clear hb ho;refine Za rfl ?_;refine Zt hK25 fun a hf=>?_;refine wp_seq_k fun _ hK27=>?_;refine wp_seq_k fun _ hK28=>?_;refine X08 (fun a w=>Fr a 48 [(0,vi (i:Int)),(1,vi (j:Int)),(2,.pointer (some ⟨ba,0,none⟩)),(3,.pointer (some ⟨bb,0,none⟩)),(6,.pointer (some ⟨b4,0,none⟩)),(8,.pointer (some ⟨b6,0,none⟩)),(12,.pointer (some ⟨b26,0,none⟩)),(16,vi p.cols),(17,vi (k:Int)),(43,.bool ((!((dMulI (p.at i k) (q.at k j)).isSome))||(!((dAddI sum ((dMulI (p.at i k) (q.at k j)).getD dZ)).isSome))))]∧w23=w) ?_ ?_
  ·refine Zr hf ?_;refine Zm rfl<|Ze (X16 rfl)<|Zm rfl ?_
   refine Zg 40 rfl (fun hg29=>?_) (fun hg29=>?_)
   ·refine Zp ⟨_,_,rfl,rfl,hg29⟩ ?_;refine Zp ⟨_,_,rfl,rfl,hg29⟩ ?_;refine Ze (Xb rfl hg29 rfl) ?_;refine Zn fun a hf=>?_;exact ⟨hf.sub ⟨rfl,rfl,rfl,rfl,rfl,rfl,rfl,rfl,rfl,X1 rfl (by first|rfl|(simp only [hc11b,hg29,bs];done)|simp [hc11b,hg29]),trivial⟩,rfl⟩
   refine Zv ⟨_,_,rfl,rfl,hg29⟩ (X2 rfl) ?_;refine Zv ⟨_,_,rfl,rfl,hg29⟩ (X16 rfl) ?_;refine Ze (X9 rfl hg29 rfl) ?_;refine Zn fun a hf=>?_;exact ⟨hf.sub ⟨rfl,rfl,rfl,rfl,rfl,rfl,rfl,rfl,rfl,X1 rfl (by first|rfl|(simp only [hc11b,hg29,bs];done)|simp [hc11b,hg29]),trivial⟩,rfl⟩
  rintro a _ ⟨hf,rfl⟩;refine hK28 _ _ ?_
  refine Xe hf rfl (fun hc30=>?_) (fun hc30=>?_)
  ·have hc30b:=hc30;have hn:=X7x hc30
   have hn2:dotI p q i j (k+1)=none:=by rw [dotI,hs];simp only [Option.bind_some];revert hn;cases dMulI (p.at i k) (q.at k j)<;>simp
   have hn3:=Xay hn2 p.cols.toNat (by omega)
   refine Zs hf fun _ hK31=>?_;refine Ze (Xz (ps:=[]) (cs:=[vi 0,vi 0,vi 0,vi 0,vi 0]) rfl (fun _=>by first|rfl|kernel_rfl)) ?_;refine Zo (Vw [vi 0,vi 0,vi 0,vi 0,vi 0] Xw hB4) ?_;rintro _ w24 ⟨ho,hb⟩;have hold:=hB4;replace hBa:=hBa.only ho (Blk.ne hBa hold rfl);replace hBb:=hBb.only ho (Blk.ne hBb hold rfl);replace hB6:=hB6.only ho (by omega);replace hB26:=hB26.only ho (by omega);replace hW:=Below.only hW ho hlo4;clear hold;have hB4:=hb;clear hb ho;refine Za rfl ?_;refine Zt hK31 fun a hf=>?_;refine wp_ret ?_;refine X5 ?_;refine Xr ?_;refine X5 ?_;refine X5 ?_;refine Xr ?_;refine X5 ?_;refine X3 hf (X15 hf rfl (ResV.cellN (l:=[vi 0,vi 0,vi 0,vi 0,vi 0]) rfl Xk (hB4.at 0) rfl) rfl) ?_;exact ⟨by rw [hn3];rfl,hW⟩
  have hc30b:=hc30;have hy:=X9k hc30;refine wp_skip ?_;refine hK27 _ _ ?_;refine Zr hf ?_;refine Ze (Vn Xk hB26) ?_;refine Zo (Vw [vi (((dAddI sum ((dMulI (p.at i k) (q.at k j)).getD dZ)).getD dZ).num.a),vi (((dAddI sum ((dMulI (p.at i k) (q.at k j)).getD dZ)).getD dZ).num.b),vi (((dAddI sum ((dMulI (p.at i k) (q.at k j)).getD dZ)).getD dZ).num.c),vi (((dAddI sum ((dMulI (p.at i k) (q.at k j)).getD dZ)).getD dZ).num.d),vi (((dAddI sum ((dMulI (p.at i k) (q.at k j)).getD dZ)).getD dZ).exp)] Xw hB6) ?_;rintro _ w25 ⟨ho,hb⟩;have hold:=hB6;replace hBa:=hBa.only ho (Blk.ne hBa hold rfl);replace hBb:=hBb.only ho (Blk.ne hBb hold rfl);replace hB4:=hB4.only ho (by omega);replace hB26:=hB26.only ho (by omega);replace hW:=Below.only hW ho hlo6;clear hold;have hB6:=hb;clear hb ho;refine Zn fun a hf=>?_;refine Xd ?_;refine hK12 _ _ ?_;refine Zr hf ?_;refine Ze (Xp rfl rfl (by omega) (by omega))<|Zm rfl ?_;refine Zn fun a hf=>?_;refine Xc ?_;exact ⟨(k+1,((dAddI sum ((dMulI (p.at i k) (q.at k j)).getD dZ)).getD dZ)),⟨hf.sub ⟨rfl,rfl,rfl,rfl,rfl,rfl,rfl,rfl,trivial⟩,(by omega),(by rw [dotI,hs];simp only [Option.bind_some];revert hy;cases dMulI (p.at i k) (q.at k j)<;>simp;intro hy;revert hy;cases dAddI sum _<;>simp),hBa,hBb,hB4,hB6,hW⟩,(by first|omega|(dsimp only;omega))⟩
 have hc11b:=hc11;have hc11:=of_decide_eq_false hc11
 have hk1:k=p.cols.toNat:=by omega
 refine wp_exit ?_;refine Xf ?_;refine Xf ?_;refine Xy ?_;refine hK7 _ _ ?_;refine Zs hf fun _ hK32=>?_;refine Ze (Vn Xk hB6) ?_;refine Zo (Vw [vi sum.num.a,vi sum.num.b,vi sum.num.c,vi sum.num.d,vi sum.exp] Xw hB4) ?_;rintro _ w26 ⟨ho,hb⟩;have hold:=hB4;replace hBa:=hBa.only ho (Blk.ne hBa hold rfl);replace hBb:=hBb.only ho (Blk.ne hBb hold rfl);replace hB6:=hB6.only ho (by omega);replace hW:=Below.only hW ho hlo4;clear hold;have hB4:=hb;clear hb ho;refine Za rfl ?_;refine Zt hK32 fun a hf=>?_
 refine wp_ret (X3 hf (X15 hf rfl (ResV.cellN (l:=[vi sum.num.a,vi sum.num.b,vi sum.num.c,vi sum.num.d,vi sum.exp]) rfl Xk (hB4.at 0) rfl) rfl) ?_)
 exact ⟨by rw [← hk1,hs];rfl,hW⟩
theorem Xv8(w0:World)(p:Mx)(Ap:Option Addr)(cp:Nat)(hr_p:Rd w0 w0.heap.size 98 encD Ap p.cells)(q:Mx)(Aq:Option Addr)(cq:Nat)(hr_q:Rd w0 w0.heap.size 98 encD Aq q.cells)(hla:p.cells.length≤2305843009213693951)(hlb:q.cells.length≤2305843009213693951) : Ret Tryz.prog 16 [.agg #[vi p.rows,vi p.cols,.slice Ap p.cells.length cp],.agg #[vi q.rows,vi q.cols,.slice Aq q.cells.length cq]] w0 (fun v w=>∃ A c,v=.tuple #[mV A c ((mulI p q).getD mZ),.bool (mulI p q).isSome]∧Own w w0.heap.size 98 5 encD A c ((mulI p q).getD mZ).cells∧Below w0.heap.size w0 w):=by
 refine enter Tryz.func16 rfl 30 rfl rfl ?_;intro a hf
 have hW:Below w0.heap.size w0 w0:=Below.refl _ _
 refine Zs hf fun _ hK3=>?_;refine Zf (X0p (zs:=[vi p.rows,vi p.cols,.slice Ap p.cells.length cp]) rfl rfl) ?_;rintro _ w1 ⟨b4,rfl,hl4,hE,hB4⟩;have hlo4:=Nat.le_trans hW.size hl4;replace hW:=btr hW hE;refine Zf (X0p (zs:=[vi q.rows,vi q.cols,.slice Aq q.cells.length cq]) rfl rfl) ?_;rintro _ w2 ⟨b5,rfl,hl5,hE,hB5⟩
 have hne4_5:b4≠b5:=by have:=hB4.lt;omega
 have hlo5:=Nat.le_trans hW.size hl5;replace hB4:=hB4.below hE;replace hW:=btr hW hE;refine Zf (Xa (zs:=[vi 0,vi 0,.slice none 0 0]) X1a rfl) ?_;rintro _ w3 ⟨b7,rfl,hl7,hE,hB7⟩
 have hne4_7:b4≠b7:=by have:=hB4.lt;omega
 have hne5_7:b5≠b7:=by have:=hB5.lt;omega
 have hlo7:=Nat.le_trans hW.size hl7;replace hB4:=hB4.below hE;replace hB5:=hB5.below hE;replace hW:=btr hW hE;refine Za rfl ?_;refine Zt hK3 fun a hf=>?_;refine wp_seq_k fun _ hK8=>?_;refine wp_seq_k fun _ hK9=>?_;refine X08 (fun a w=>Fr a 30 [(2,.pointer (some ⟨b4,0,none⟩)),(3,.pointer (some ⟨b5,0,none⟩)),(4,.pointer (some ⟨b7,0,none⟩)),(20,.bool (((!(mOk p))||(!(mOk q)))||(p.cols != q.rows)))]∧Below w3.heap.size w3 w) ?_ ?_
 ·have hEc:Below w3.heap.size w3 w3:=Below.refl _ _
  refine Zr hf ?_;refine Ze (Vn X13 hB4) ?_;refine Zf (Vc (Xuv _ p Ap cp (hr_p.below' hW).top hla) Xk5) ?_;rintro _ w4 ⟨rfl,hE⟩;replace hB4:=hB4.below hE;replace hB5:=hB5.below hE;replace hB7:=hB7.below hE;replace hW:=btr hW hE;replace hEc:=btr hEc hE;refine Ze (X16 rfl)<|Zm rfl ?_
  refine Zg 9 rfl (fun hg10=>?_) (fun hg10=>?_)
  ·refine Zp ⟨_,_,rfl,rfl,hg10⟩ ?_;refine Zp ⟨_,_,rfl,rfl,hg10⟩ ?_;refine Zp ⟨_,_,rfl,rfl,hg10⟩ ?_;refine Ze (Xb rfl hg10 rfl)<|Zm rfl<|Zp ⟨_,_,rfl,rfl,rfl⟩ ?_;refine Zp ⟨_,_,rfl,rfl,rfl⟩ ?_;refine Zp ⟨_,_,rfl,rfl,rfl⟩ ?_;refine Zp ⟨_,_,rfl,rfl,rfl⟩ ?_;refine Zp ⟨_,_,rfl,rfl,rfl⟩ ?_;refine Ze (Xb rfl rfl rfl) ?_;refine Zn fun a hf=>?_
   have hEE:Below w3.heap.size w3 w4:=hEc
   exact ⟨hf.sub ⟨rfl,rfl,rfl,X1 rfl (by first|rfl|(simp only [hg10,bs];done)|simp [hg10]),trivial⟩,hEE⟩
  refine Zv ⟨_,_,rfl,rfl,hg10⟩ (Vn X13 hB5) ?_;refine Zk ⟨_,_,rfl,rfl,hg10⟩ (Vc (Xuv _ q Aq cq (hr_q.below' hW).top hlb) Xk5) ?_;rintro _ w5 ⟨rfl,hE⟩;replace hB4:=hB4.below hE;replace hB5:=hB5.below hE;replace hB7:=hB7.below hE;replace hW:=btr hW hE;replace hEc:=btr hEc hE;refine Zv ⟨_,_,rfl,rfl,hg10⟩ (X16 rfl) ?_;refine Ze (X9 rfl hg10 rfl)<|Zm rfl ?_
  refine Zg 14 rfl (fun hg11=>?_) (fun hg11=>?_)
  ·refine Zp ⟨_,_,rfl,rfl,hg11⟩ ?_;refine Zp ⟨_,_,rfl,rfl,hg11⟩ ?_;refine Zp ⟨_,_,rfl,rfl,hg11⟩ ?_;refine Zp ⟨_,_,rfl,rfl,hg11⟩ ?_;refine Zp ⟨_,_,rfl,rfl,hg11⟩ ?_;refine Ze (Xb rfl hg11 rfl) ?_;refine Zn fun a hf=>?_
   have hEE:Below w3.heap.size w3 w5:=hEc
   exact ⟨hf.sub ⟨rfl,rfl,rfl,X1 rfl (by first|rfl|(simp only [hg10,hg11,bs];done)|simp [hg10,hg11]),trivial⟩,hEE⟩
  refine Zv ⟨_,_,rfl,rfl,hg11⟩ (Vd rfl X1q 1) ?_;refine Zv ⟨_,_,rfl,rfl,hg11⟩ (X0 rfl X4 (hB4.at 1)) ?_;refine Zv ⟨_,_,rfl,rfl,hg11⟩ (Vd rfl X2m 0) ?_;refine Zv ⟨_,_,rfl,rfl,hg11⟩ (X0 rfl X4 (hB5.at 0)) ?_;refine Zv ⟨_,_,rfl,rfl,hg11⟩ (X29 rfl rfl) ?_;refine Ze (X9 rfl hg11 rfl) ?_;refine Zn fun a hf=>?_
  have hEE:Below w3.heap.size w3 w5:=hEc
  exact ⟨hf.sub ⟨rfl,rfl,rfl,X1 rfl (by first|rfl|(simp only [hg10,hg11,bs];done)|simp [hg10,hg11]),trivial⟩,hEE⟩
 rintro a w6 ⟨hf,hE⟩;replace hB4:=hB4.below hE;replace hB5:=hB5.below hE;replace hB7:=hB7.below hE;replace hW:=btr hW hE;refine hK9 _ _ ?_
 refine Xe hf rfl (fun hc12=>?_) (fun hc12=>?_)
 ·have hc12b:=hc12
  have hn:(mOk p&&mOk q&&p.cols==q.rows)=false:=by revert hc12;cases mOk p<;>cases mOk q<;>simp
  refine Zs hf fun _ hK13=>?_;refine Ze (Xz (ps:=[]) (cs:=[vi 0,vi 0,.slice none 0 0]) rfl (fun _=>by first|rfl|kernel_rfl)) ?_;refine Zo (Vw [vi 0,vi 0,.slice none 0 0] X1j hB7) ?_;rintro _ w7 ⟨ho,hb⟩;have hold:=hB7;replace hB4:=hB4.only ho (by omega);replace hB5:=hB5.only ho (by omega);replace hW:=Below.only hW ho hlo7;clear hold;have hB7:=hb;clear hb ho;refine Za rfl ?_;refine Zt hK13 fun a hf=>?_;refine wp_ret ?_;refine X5 ?_;refine X3 hf (X15 hf rfl (ResV.cellN (l:=[vi 0,vi 0,.slice none 0 0]) rfl X13 (hB7.at 0) rfl) rfl) ?_;exact ⟨none,0,by rw [mulI,hn];rfl,by rw [mulI,hn];exact (Own.nil _ _ _ _ _),hW⟩
 have hc12b:=hc12
 have hy:(mOk p&&mOk q&&p.cols==q.rows)=true:=by revert hc12;cases mOk p<;>cases mOk q<;>simp
 have hy3:=Xtx hy
 have hab:p.cols=q.rows:=by simpa using hy3.2.2
 refine wp_skip ?_;refine hK8 _ _ ?_;refine Zs hf fun _ hK15=>?_;refine Ze (Vd rfl X2m 0)<|Ze (X0 rfl X4 (hB4.at 0))<|Ze (Vd rfl X1q 1)<|Ze (X0 rfl X4 (hB5.at 1))<|Ze (X3n (vs:=[.pointer (some ⟨b4,0,none⟩),.pointer (some ⟨b5,0,none⟩)]) rfl) ?_;refine Zf (Vc (Xrq _ p.rows q.cols 76 [.pointer (some ⟨b4,0,none⟩),.pointer (some ⟨b5,0,none⟩)] Xr6 (fun i j=>dotI p q i j p.cols.toNat) (fun i j w' hi hj hE'=>Xvo w' p q _ _ _ _ _ _ ((hr_p.below' hW).below hE').top ((hr_q.below' hW).below hE').top (hB4.below hE') (hB5.below hE') hy3.1 hy3.2.1 hab i j hi hj)) Xfd) ?_;rintro _ w8 ⟨A16,c16,rfl,ho16,hE⟩;replace ho16:=ho16.lower hW.size;replace hB4:=hB4.below hE;replace hB5:=hB5.below hE;replace hB7:=hB7.below hE;replace hW:=btr hW hE;refine Ze (X8 (vs:=[.agg #[vi (((matOf p.rows q.cols (fun i j=>dotI p q i j p.cols.toNat)).getD mZ).rows),vi (((matOf p.rows q.cols (fun i j=>dotI p q i j p.cols.toNat)).getD mZ).cols),.slice A16 (((matOf p.rows q.cols (fun i j=>dotI p q i j p.cols.toNat)).getD mZ).cells).length c16],.bool ((matOf p.rows q.cols (fun i j=>dotI p q i j p.cols.toNat)).isSome)]) rfl rfl)<|Ze (X8 (vs:=[.agg #[vi (((matOf p.rows q.cols (fun i j=>dotI p q i j p.cols.toNat)).getD mZ).rows),vi (((matOf p.rows q.cols (fun i j=>dotI p q i j p.cols.toNat)).getD mZ).cols),.slice A16 (((matOf p.rows q.cols (fun i j=>dotI p q i j p.cols.toNat)).getD mZ).cells).length c16],.bool ((matOf p.rows q.cols (fun i j=>dotI p q i j p.cols.toNat)).isSome)]) rfl rfl) ?_;refine Zo (Vw [vi (((matOf p.rows q.cols (fun i j=>dotI p q i j p.cols.toNat)).getD mZ).rows),vi (((matOf p.rows q.cols (fun i j=>dotI p q i j p.cols.toNat)).getD mZ).cols),.slice A16 (((matOf p.rows q.cols (fun i j=>dotI p q i j p.cols.toNat)).getD mZ).cells).length c16] X1j hB7) ?_;rintro _ w9 ⟨ho,hb⟩;have hold:=hB7;replace hB4:=hB4.only ho (by omega);replace hB5:=hB5.only ho (by omega)
 replace ho16:=ho16.onlyT ho hold rfl;replace hW:=Below.only hW ho hlo7;clear hold;have hB7:=hb;clear hb ho;refine Za rfl ?_;refine Zt hK15 fun a hf=>?_
 refine wp_ret (X3 hf (X15 hf rfl (ResV.cellN (l:=[vi (((matOf p.rows q.cols (fun i j=>dotI p q i j p.cols.toNat)).getD mZ).rows),vi (((matOf p.rows q.cols (fun i j=>dotI p q i j p.cols.toNat)).getD mZ).cols),.slice A16 (((matOf p.rows q.cols (fun i j=>dotI p q i j p.cols.toNat)).getD mZ).cells).length c16]) rfl X13 (hB7.at 0) rfl) rfl) ?_)
 exact ⟨A16,c16,by rw [mulI,if_pos hy],by rw [mulI,if_pos hy];exact ho16,hW⟩
theorem Xwh(w0:World)(Ap:Option Addr)(cp:Nat)(p:List Dy)(hr_p:Rd w0 w0.heap.size 98 encD Ap p)(Aq:Option Addr)(cq:Nat)(q:List Dy)(hr_q:Rd w0 w0.heap.size 98 encD Aq q)(hln:p.length≤2305843009213693951) : Ret Tryz.prog 172 [.slice Ap p.length cp,.slice Aq q.length cq] w0 (fun v w=>v=.bool (decide (p=q))∧Below w0.heap.size w0 w):=by
 refine enter Tryz.func172 rfl 26 rfl rfl ?_;intro a hf
 have hW:Below w0.heap.size w0 w0:=Below.refl _ _
 refine Zs hf fun _ hK3=>?_;refine Za rfl ?_;refine Zt hK3 fun a hf=>?_;refine wp_seq_k fun _ hK4=>?_;refine Zs hf fun _ hK5=>?_;refine Zm rfl<|Ze (X0y rfl X1f)<|Zm rfl<|Ze (X0y rfl X1f)<|Ze (X29 rfl rfl) ?_;refine Zt hK5 fun a hf=>?_
 refine Xe hf rfl (fun hc6=>?_) (fun hc6=>?_)
 ·have hc6b:=hc6
  have hne:¬ p=q:=by intro h9;rw [h9] at hc6;simp at hc6
  refine Zs hf fun _ hK7=>?_;refine Za rfl ?_;refine Zt hK7 fun a hf=>?_;refine wp_ret ?_;refine X5 ?_;refine X3 hf (Xq hf rfl rfl) ?_;exact ⟨by simp [hne],hW⟩
 have hc6b:=hc6
 have hll:p.length=q.length:=by have h9:(p.length:Int)=q.length:=(by simpa using hc6);omega
 refine wp_skip ?_;refine hK4 _ _ ?_;refine wp_seq_k fun _ hK8=>?_;refine Zs hf fun _ hK9=>?_;refine Zm rfl<|Ze (X0y rfl X1f)<|Zm rfl ?_;refine Zt hK9 fun a hf=>?_;refine wp_block ?_;refine Xx (σ:=Nat) (fun (k:Nat) (a:Act) (w:World)=>Fr a 26 [(0,.slice Ap p.length cp),(1,.slice Aq q.length cq),(12,vi (p.length:Int)),(13,vi (k:Int))]∧(k≤p.length)∧(p.take k=q.take k)∧Below w0.heap.size w0 w) (fun (k:Nat)=>p.length-k) 0 ?_ ?_
 ·exact ⟨hf.sub ⟨rfl,rfl,rfl,rfl,trivial⟩,(Nat.zero_le _),(by simp),hW⟩
 rintro k a w1 ⟨hf,hk,hpre,hW⟩;refine Zs hf fun _ hK10=>?_;refine Ze (X0l rfl rfl) ?_;refine Zt hK10 fun a hf=>?_;refine wp_seq_k fun _ hK11=>?_
 refine Xe hf rfl (fun hc12=>?_) (fun hc12=>?_)
 ·have hc12b:=hc12;have hc12:=of_decide_eq_true hc12
  obtain ⟨u13,hu13⟩:=Xl (l:=p) (k:=k) (by omega)
  obtain ⟨v9,hv9⟩:=Xl (l:=q) (k:=k) (by omega)
  refine wp_skip ?_;refine hK11 _ _ ?_;refine wp_seq_k fun _ hK14=>?_;refine wp_block ?_;refine Zs hf fun _ hK15=>?_;refine Zm rfl<|Za rfl ?_;refine Zt hK15 fun a hf=>?_;refine wp_seq_k fun _ hK16=>?_;refine X05 none (fun _=>false) mixed ?_;intro w2 hE;replace hW:=btr hW hE;refine Yb hf ?_;refine Yo 0 rfl (fun _=>X2 rfl)<|Yo 1 rfl (fun _=>X2 rfl) ?_;refine Yi (k:=k) (u:=u13) (enc:=encD) (l:=p) 2 rfl trivial rfl rfl X1f Xw X1k (hr_p.below' hW) hu13 rfl ?_;intro p18 hat17;refine Ye 3 rfl (X09 (l:=[vi u13.num.a,vi u13.num.b,vi u13.num.c,vi u13.num.d,vi u13.exp]) rfl Xk hat17 rfl)<|Yo 4 rfl (fun _=>X2 rfl)<|Yo 5 rfl (fun _=>X2 rfl) ?_;refine Yi (k:=k) (u:=v9) (enc:=encD) (l:=q) 6 rfl trivial rfl rfl X1f Xw X1k (hr_q.below' hW) hv9 rfl ?_;intro p20 hat19;refine Ye 7 rfl (X09 (l:=[vi v9.num.a,vi v9.num.b,vi v9.num.c,vi v9.num.d,vi v9.exp]) rfl Xk hat19 rfl)<|Yo 8 rfl (fun _=>Xpb rfl rfl Xko (fun w=>eqD 9997 u13 v9 w)) ?_;refine Yd fun a hf=>?_;refine hK16 _ _ ?_
  refine Xe hf rfl (fun hc21=>?_) (fun hc21=>?_)
  ·have hc21b:=hc21
   have hne:¬ p=q:=by rintro rfl;rw [hu13] at hv9;injection hv9 with e9;revert hc21;simp [e9]
   refine Zs hf fun _ hK22=>?_;refine Za rfl ?_;refine Zt hK22 fun a hf=>?_;refine wp_ret ?_;refine Xr ?_;refine X5 ?_;refine X5 ?_;refine Xr ?_;refine X5 ?_;refine X3 hf (Xq hf rfl rfl) ?_;exact ⟨by simp [hne],hW⟩
  have hc21b:=hc21
  have he9:u13=v9:=by revert hc21;simp
  refine wp_skip ?_;refine Xd ?_;refine hK14 _ _ ?_;refine Zr hf ?_;refine Ze (Xp rfl rfl (by omega) (by omega))<|Zm rfl ?_;refine Zn fun a hf=>?_;refine Xc ?_;exact ⟨k+1,⟨hf.sub ⟨rfl,rfl,rfl,rfl,trivial⟩,(by omega),(Xh8 hpre hu13 hv9 he9),hW⟩,(by omega)⟩
 have hc12b:=hc12;have hc12:=of_decide_eq_false hc12;refine wp_exit ?_;refine Xf ?_;refine Xf ?_;refine Xy ?_;refine hK8 _ _ ?_;refine Zs hf fun _ hK23=>?_;refine Za rfl ?_;refine Zt hK23 fun a hf=>?_
 refine wp_ret (X3 hf (Xq hf rfl rfl) ?_)
 have he:p=q:=by rw [List.take_of_length_le (by omega),List.take_of_length_le (by omega)] at hpre;exact hpre
 exact ⟨by simp [he],hW⟩
theorem Xw9(w0:World)(p:Mx)(Ap:Option Addr)(cp:Nat)(hr_p:Rd w0 w0.heap.size 98 encD Ap p.cells)(q:Mx)(Aq:Option Addr)(cq:Nat)(hr_q:Rd w0 w0.heap.size 98 encD Aq q.cells)(hln:p.cells.length≤2305843009213693951) : Ret Tryz.prog 122 [.agg #[vi p.rows,vi p.cols,.slice Ap p.cells.length cp],.agg #[vi q.rows,vi q.cols,.slice Aq q.cells.length cq]] w0 (fun v w=>v=.bool (decide (p.rows=q.rows)&&decide (p.cols=q.cols)&&decide (p.cells=q.cells))∧Below w0.heap.size w0 w):=by
 refine enter Tryz.func122 rfl 24 rfl rfl ?_;intro a hf
 have hW:Below w0.heap.size w0 w0:=Below.refl _ _
 refine Zs hf fun _ hK3=>?_;refine Zf (X0p (zs:=[vi p.rows,vi p.cols,.slice Ap p.cells.length cp]) rfl rfl) ?_;rintro _ w1 ⟨b4,rfl,hl4,hE,hB4⟩;have hlo4:=Nat.le_trans hW.size hl4;replace hW:=btr hW hE;refine Zf (X0p (zs:=[vi q.rows,vi q.cols,.slice Aq q.cells.length cq]) rfl rfl) ?_;rintro _ w2 ⟨b5,rfl,hl5,hE,hB5⟩
 have hne4_5:b4≠b5:=by have:=hB4.lt;omega
 have hlo5:=Nat.le_trans hW.size hl5;replace hB4:=hB4.below hE;replace hW:=btr hW hE;refine Za rfl ?_;refine Zt hK3 fun a hf=>?_;refine wp_seq_k fun _ hK6=>?_;refine X08 (fun a w=>Fr a 24 [(4,.bool (((p.rows==q.rows)&&(p.cols==q.cols))&&(decide (p.cells=q.cells))))]∧Below w2.heap.size w2 w) ?_ ?_
 ·have hEc:Below w2.heap.size w2 w2:=Below.refl _ _
  refine Zr hf ?_;refine Ze (Vd rfl X2m 0)<|Ze (X0 rfl X4 (hB4.at 0))<|Ze (Vd rfl X2m 0)<|Ze (X0 rfl X4 (hB5.at 0))<|Ze (X0u rfl rfl) ?_;refine Zm rfl ?_
  refine Zg 10 rfl (fun hg7=>?_) (fun hg7=>?_)
  ·refine Zv ⟨_,_,rfl,rfl,hg7⟩ (Vd rfl X1q 1) ?_;refine Zv ⟨_,_,rfl,rfl,hg7⟩ (X0 rfl X4 (hB4.at 1)) ?_;refine Zv ⟨_,_,rfl,rfl,hg7⟩ (Vd rfl X1q 1) ?_;refine Zv ⟨_,_,rfl,rfl,hg7⟩ (X0 rfl X4 (hB5.at 1)) ?_;refine Zv ⟨_,_,rfl,rfl,hg7⟩ (X0u rfl rfl) ?_;refine Ze (Xb rfl hg7 rfl)<|Zm rfl ?_
   refine Zg 17 rfl (fun hg8=>?_) (fun hg8=>?_)
   ·refine Zv ⟨_,_,rfl,rfl,hg8⟩ (Vd rfl X1e 2) ?_;refine Zv ⟨_,_,rfl,rfl,hg8⟩ (X0 rfl X2s (hB4.at 2)) ?_;refine Zv ⟨_,_,rfl,rfl,hg8⟩ (Vd rfl X1e 2) ?_;refine Zv ⟨_,_,rfl,rfl,hg8⟩ (X0 rfl X2s (hB5.at 2)) ?_;refine Zk ⟨_,_,rfl,rfl,hg8⟩ (Vc (Xwh _ Ap cp p.cells (hr_p.below' hW).top Aq cq q.cells (hr_q.below' hW).top (by assumption)) Xqt) ?_;rintro _ w3 ⟨rfl,hE⟩;replace hB4:=hB4.below hE;replace hB5:=hB5.below hE;replace hW:=btr hW hE;replace hEc:=btr hEc hE;refine Ze (Xb rfl hg8 rfl)<|Za rfl ?_;refine Zn fun a hf=>?_
    have hEE:Below w2.heap.size w2 w3:=hEc
    exact ⟨hf.sub ⟨X1 rfl (by first|rfl|(simp only [hg7,hg8,bs];done)|simp [hg7,hg8]),trivial⟩,hEE⟩
   refine Zp ⟨_,_,rfl,rfl,hg8⟩ ?_;refine Zp ⟨_,_,rfl,rfl,hg8⟩ ?_;refine Zp ⟨_,_,rfl,rfl,hg8⟩ ?_;refine Zp ⟨_,_,rfl,rfl,hg8⟩ ?_;refine Zp ⟨_,_,rfl,rfl,hg8⟩ ?_;refine Ze (X9 rfl hg8 rfl)<|Za rfl ?_;refine Zn fun a hf=>?_
   have hEE:Below w2.heap.size w2 w2:=hEc
   exact ⟨hf.sub ⟨X1 rfl (by first|rfl|(simp only [hg7,hg8,bs];done)|simp [hg7,hg8]),trivial⟩,hEE⟩
  refine Zp ⟨_,_,rfl,rfl,hg7⟩ ?_;refine Zp ⟨_,_,rfl,rfl,hg7⟩ ?_;refine Zp ⟨_,_,rfl,rfl,hg7⟩ ?_;refine Zp ⟨_,_,rfl,rfl,hg7⟩ ?_;refine Zp ⟨_,_,rfl,rfl,hg7⟩ ?_;refine Ze (X9 rfl hg7 rfl)<|Zm rfl<|Zp ⟨_,_,rfl,rfl,rfl⟩ ?_;refine Zp ⟨_,_,rfl,rfl,rfl⟩ ?_;refine Zp ⟨_,_,rfl,rfl,rfl⟩ ?_;refine Zp ⟨_,_,rfl,rfl,rfl⟩ ?_;refine Zp ⟨_,_,rfl,rfl,rfl⟩ ?_;refine Ze (X9 rfl rfl rfl)<|Za rfl ?_;refine Zn fun a hf=>?_
  have hEE:Below w2.heap.size w2 w2:=hEc
  exact ⟨hf.sub ⟨X1 rfl (by first|rfl|(simp only [hg7,bs];done)|simp [hg7]),trivial⟩,hEE⟩
 rintro a w4 ⟨hf,hE⟩;replace hB4:=hB4.below hE;replace hB5:=hB5.below hE;replace hW:=btr hW hE;refine hK6 _ _ ?_
 refine wp_ret (X3 hf (Xq hf rfl rfl) ?_)
 exact ⟨rfl,hW⟩
theorem Xtn(w0:World)(n:Int)(x:Gt) : Ret Tryz.prog 51 [vi n,.agg #[vi x.k,vi x.a,vi x.b]] w0 (fun v w=>v=.bool (gOk n x)∧Below w0.heap.size w0 w):=by
 refine enter Tryz.func51 rfl 60 rfl rfl ?_;intro a hf
 have hW:Below w0.heap.size w0 w0:=Below.refl _ _
 refine Zs hf fun _ hK1=>?_;refine Zf (X0p (zs:=[vi x.k,vi x.a,vi x.b]) rfl rfl) ?_;rintro _ w1 ⟨b2,rfl,hl2,hE,hB2⟩;have hlo2:=Nat.le_trans hW.size hl2;replace hW:=btr hW hE;refine Za rfl ?_;refine Zt hK1 fun a hf=>?_;refine wp_seq_k fun _ hK3=>?_;refine wp_block ?_;refine wp_seq_k fun _ hK4=>?_;refine X08 (fun a w=>Fr a 60 [(0,vi n),(3,.pointer (some ⟨b2,0,none⟩)),(5,.bool ((!(inR n 1 5))||(!(inR x.k 1 12))))]∧w1=w) ?_ ?_
 ·refine Zr hf ?_;refine Zm rfl ?_;refine Zf (Vc (F91 _ n 1 5) X40) ?_;rintro _ _ ⟨rfl,rfl⟩;refine Ze (X16 rfl)<|Zm rfl ?_
  refine Zg 9 rfl (fun hg5=>?_) (fun hg5=>?_)
  ·refine Zp ⟨_,_,rfl,rfl,hg5⟩ ?_;refine Zp ⟨_,_,rfl,rfl,hg5⟩ ?_;refine Zp ⟨_,_,rfl,rfl,hg5⟩ ?_;refine Zp ⟨_,_,rfl,rfl,hg5⟩ ?_;refine Ze (Xb rfl hg5 rfl)<|Za rfl ?_;refine Zn fun a hf=>?_;exact ⟨hf.sub ⟨rfl,rfl,X1 rfl (by first|rfl|(simp only [hg5,bs];done)|simp [hg5]),trivial⟩,rfl⟩
  refine Zv ⟨_,_,rfl,rfl,hg5⟩ (Vd rfl X0i 0) ?_;refine Zv ⟨_,_,rfl,rfl,hg5⟩ (X0 rfl X4 (hB2.at 0)) ?_;refine Zk ⟨_,_,rfl,rfl,hg5⟩ (Vc (F91 _ x.k 1 12) X40) ?_;rintro _ _ ⟨rfl,rfl⟩;refine Zv ⟨_,_,rfl,rfl,hg5⟩ (X16 rfl) ?_;refine Ze (X9 rfl hg5 rfl)<|Za rfl ?_;refine Zn fun a hf=>?_;exact ⟨hf.sub ⟨rfl,rfl,X1 rfl (by first|rfl|(simp only [hg5,bs];done)|simp [hg5]),trivial⟩,rfl⟩
 rintro a _ ⟨hf,rfl⟩;refine hK4 _ _ ?_
 refine Xe hf rfl (fun hc6=>?_) (fun hc6=>?_)
 ·have hc6b:=hc6;have hn:=X7x hc6;refine Zs hf fun _ hK7=>?_;refine Za rfl ?_;refine Zt hK7 fun a hf=>?_;refine wp_ret ?_;refine Xr ?_;refine X5 ?_;refine X3 hf (Xq hf rfl rfl) ?_;exact ⟨by rw [gOk,hn];rfl,hW⟩
 have hc6b:=hc6;have hy:=X9k hc6;have hy2:=(Bool.and_eq_true _ _▸hy:inR n 1 5=true∧inR x.k 1 12=true);have hnn:=Xo.1 hy2.1;refine Zs hf fun _ hK8=>?_;refine Ze (Vd rfl X0i 0)<|Ze (X0 rfl X4 (hB2.at 0))<|Ze (X0u rfl rfl)<|Za rfl ?_;refine Zt hK8 fun a hf=>?_
 refine Xe hf rfl (fun hc9=>?_) (fun hc9=>?_)
 ·have hc9b:=hc9
  have hk:x.k=12:=by simpa using hc9
  refine wp_seq_k fun _ hK10=>?_;refine X08 (fun a w=>Fr a 60 [(4,.bool ((x.a==0)&&(x.b==0)))]∧w1=w) ?_ ?_
  ·refine Zr hf ?_;refine Ze (Vd rfl X0r 1)<|Ze (X0 rfl X4 (hB2.at 1))<|Ze (X0u rfl rfl)<|Zm rfl ?_
   refine Zg 22 rfl (fun hg11=>?_) (fun hg11=>?_)
   ·refine Zv ⟨_,_,rfl,rfl,hg11⟩ (Vd rfl X10 2) ?_;refine Zv ⟨_,_,rfl,rfl,hg11⟩ (X0 rfl X4 (hB2.at 2)) ?_;refine Zv ⟨_,_,rfl,rfl,hg11⟩ (X0u rfl rfl) ?_;refine Ze (Xb rfl hg11 rfl)<|Za rfl ?_;refine Zn fun a hf=>?_;exact ⟨hf.sub ⟨X1 rfl (by first|rfl|(simp only [hc6b,hc9b,hg11,bs];done)|simp [hc6b,hc9b,hg11]),trivial⟩,rfl⟩
   refine Zp ⟨_,_,rfl,rfl,hg11⟩ ?_;refine Zp ⟨_,_,rfl,rfl,hg11⟩ ?_;refine Zp ⟨_,_,rfl,rfl,hg11⟩ ?_;refine Ze (X9 rfl hg11 rfl)<|Za rfl ?_;refine Zn fun a hf=>?_;exact ⟨hf.sub ⟨X1 rfl (by first|rfl|(simp only [hc6b,hc9b,hg11,bs];done)|simp [hc6b,hc9b,hg11]),trivial⟩,rfl⟩
  rintro a _ ⟨hf,rfl⟩;refine hK10 _ _ ?_;refine wp_ret ?_;refine Xr ?_;refine X5 ?_;refine X3 hf (Xq hf rfl rfl) ?_;exact ⟨by rw [gOk,hy,if_pos hk,Bool.true_and],hW⟩
 have hc9b:=hc9
 have hk:¬ x.k=12:=by simpa using hc9
 refine Zs hf fun _ hK12=>?_;refine Ze (Vd rfl X0i 0)<|Ze (X0 rfl X4 (hB2.at 0)) ?_;refine Zf (Vc (F99 _ x.k) Xdn) ?_;rintro _ _ ⟨rfl,rfl⟩;refine Za rfl ?_;refine Zt hK12 fun a hf=>?_
 refine Xe hf rfl (fun hc13=>?_) (fun hc13=>?_)
 ·have hc13b:=hc13;have hk2:=hc13;refine wp_seq_k fun _ hK14=>?_;refine X08 (fun a w=>Fr a 60 [(4,.bool (((inR x.a 0 (n-1))&&(inR x.b 0 (n-1)))&&(x.a != x.b)))]∧w1=w) ?_ ?_
  ·refine Zr hf ?_;refine Ze (Vd rfl X0r 1)<|Ze (X0 rfl X4 (hB2.at 1))<|Zm rfl<|Ze (X0s rfl rfl (by omega) (by omega)) ?_;refine Zf (Vc (F91 _ x.a 0 (n-1)) X40) ?_;rintro _ _ ⟨rfl,rfl⟩;refine Zm rfl ?_
   refine Zg 36 rfl (fun hg15=>?_) (fun hg15=>?_)
   ·refine Zv ⟨_,_,rfl,rfl,hg15⟩ (Vd rfl X10 2) ?_;refine Zv ⟨_,_,rfl,rfl,hg15⟩ (X0 rfl X4 (hB2.at 2)) ?_;refine Zv ⟨_,_,rfl,rfl,hg15⟩ (X2 rfl) ?_;refine Zv ⟨_,_,rfl,rfl,hg15⟩ (X0s rfl rfl (by omega) (by omega)) ?_;refine Zk ⟨_,_,rfl,rfl,hg15⟩ (Vc (F91 _ x.b 0 (n-1)) X40) ?_;rintro _ _ ⟨rfl,rfl⟩;refine Ze (Xb rfl hg15 rfl)<|Zm rfl ?_
    refine Zg 43 rfl (fun hg16=>?_) (fun hg16=>?_)
    ·refine Zv ⟨_,_,rfl,rfl,hg16⟩ (Vd rfl X0r 1) ?_;refine Zv ⟨_,_,rfl,rfl,hg16⟩ (X0 rfl X4 (hB2.at 1)) ?_;refine Zv ⟨_,_,rfl,rfl,hg16⟩ (Vd rfl X10 2) ?_;refine Zv ⟨_,_,rfl,rfl,hg16⟩ (X0 rfl X4 (hB2.at 2)) ?_;refine Zv ⟨_,_,rfl,rfl,hg16⟩ (X29 rfl rfl) ?_;refine Ze (Xb rfl hg16 rfl)<|Za rfl ?_;refine Zn fun a hf=>?_;exact ⟨hf.sub ⟨X1 rfl (by first|rfl|(simp only [hc6b,hc9b,hc13b,hg15,hg16,bs];done)|simp [hc6b,hc9b,hc13b,hg15,hg16]),trivial⟩,rfl⟩
    refine Zp ⟨_,_,rfl,rfl,hg16⟩ ?_;refine Zp ⟨_,_,rfl,rfl,hg16⟩ ?_;refine Zp ⟨_,_,rfl,rfl,hg16⟩ ?_;refine Zp ⟨_,_,rfl,rfl,hg16⟩ ?_;refine Zp ⟨_,_,rfl,rfl,hg16⟩ ?_;refine Ze (X9 rfl hg16 rfl)<|Za rfl ?_;refine Zn fun a hf=>?_;exact ⟨hf.sub ⟨X1 rfl (by first|rfl|(simp only [hc6b,hc9b,hc13b,hg15,hg16,bs];done)|simp [hc6b,hc9b,hc13b,hg15,hg16]),trivial⟩,rfl⟩
   refine Zp ⟨_,_,rfl,rfl,hg15⟩ ?_;refine Zp ⟨_,_,rfl,rfl,hg15⟩ ?_;refine Zp ⟨_,_,rfl,rfl,hg15⟩ ?_;refine Zp ⟨_,_,rfl,rfl,hg15⟩ ?_;refine Zp ⟨_,_,rfl,rfl,hg15⟩ ?_;refine Ze (X9 rfl hg15 rfl)<|Zm rfl<|Zp ⟨_,_,rfl,rfl,rfl⟩ ?_;refine Zp ⟨_,_,rfl,rfl,rfl⟩ ?_;refine Zp ⟨_,_,rfl,rfl,rfl⟩ ?_;refine Zp ⟨_,_,rfl,rfl,rfl⟩ ?_;refine Zp ⟨_,_,rfl,rfl,rfl⟩ ?_;refine Ze (X9 rfl rfl rfl)<|Za rfl ?_;refine Zn fun a hf=>?_;exact ⟨hf.sub ⟨X1 rfl (by first|rfl|(simp only [hc6b,hc9b,hc13b,hg15,bs];done)|simp [hc6b,hc9b,hc13b,hg15]),trivial⟩,rfl⟩
  rintro a _ ⟨hf,rfl⟩;refine hK14 _ _ ?_;refine wp_ret ?_;refine Xr ?_;refine X5 ?_;refine X3 hf (Xq hf rfl rfl) ?_;exact ⟨by rw [gOk,hy,if_neg hk,if_pos hk2,Bool.true_and],hW⟩
 have hc13b:=hc13
 have hk2:¬ inR x.k 9 11=true:=by rw [hc13];simp
 refine wp_skip ?_;refine Xd ?_;refine hK3 _ _ ?_;refine wp_seq_k fun _ hK17=>?_;refine X08 (fun a w=>Fr a 60 [(4,.bool ((inR x.a 0 (n-1))&&(x.b==0)))]∧w1=w) ?_ ?_
 ·refine Zr hf ?_;refine Ze (Vd rfl X0r 1)<|Ze (X0 rfl X4 (hB2.at 1))<|Zm rfl<|Ze (X0s rfl rfl (by omega) (by omega)) ?_;refine Zf (Vc (F91 _ x.a 0 (n-1)) X40) ?_;rintro _ _ ⟨rfl,rfl⟩;refine Zm rfl ?_
  refine Zg 55 rfl (fun hg18=>?_) (fun hg18=>?_)
  ·refine Zv ⟨_,_,rfl,rfl,hg18⟩ (Vd rfl X10 2) ?_;refine Zv ⟨_,_,rfl,rfl,hg18⟩ (X0 rfl X4 (hB2.at 2)) ?_;refine Zv ⟨_,_,rfl,rfl,hg18⟩ (X0u rfl rfl) ?_;refine Ze (Xb rfl hg18 rfl)<|Za rfl ?_;refine Zn fun a hf=>?_;exact ⟨hf.sub ⟨X1 rfl (by first|rfl|(simp only [hc6b,hc9b,hc13b,hg18,bs];done)|simp [hc6b,hc9b,hc13b,hg18]),trivial⟩,rfl⟩
  refine Zp ⟨_,_,rfl,rfl,hg18⟩ ?_;refine Zp ⟨_,_,rfl,rfl,hg18⟩ ?_;refine Zp ⟨_,_,rfl,rfl,hg18⟩ ?_;refine Ze (X9 rfl hg18 rfl)<|Za rfl ?_;refine Zn fun a hf=>?_;exact ⟨hf.sub ⟨X1 rfl (by first|rfl|(simp only [hc6b,hc9b,hc13b,hg18,bs];done)|simp [hc6b,hc9b,hc13b,hg18]),trivial⟩,rfl⟩
 rintro a _ ⟨hf,rfl⟩;refine hK17 _ _ ?_
 refine wp_ret (X3 hf (Xq hf rfl rfl) ?_)
 exact ⟨by rw [gOk,hy,if_neg hk,if_neg hk2,Bool.true_and],hW⟩
theorem Xwg(w0:World)(Al:Option Addr)(cl:Nat)(l:List Gt)(hr_l:Rd w0 w0.heap.size 24 encG Al l)(kq:FuncId)(pq:List Value)(Fq:FuncF Tryz.prog kq)(q:Gt→Bool)(hq:∀ x w,Below w0.heap.size w0 w→Ret Tryz.prog kq ([gV x]++pq) w (fun v w'=>v=.bool (q x)∧Below w.heap.size w w'))(hln:l.length≤2305843009213693951) : Ret Tryz.prog 178 [.slice Al l.length cl,.func (.func kq) #[] pq.toArray] w0 (fun v w=>∃ i:Int,v=vi i∧decide (0≤i)=l.any q∧Below w0.heap.size w0 w):=by
 refine enter Tryz.func178 rfl 19 rfl rfl ?_;intro a hf
 have hW:Below w0.heap.size w0 w0:=Below.refl _ _
 refine Zs hf fun _ hK2=>?_;refine Za rfl ?_;refine Zt hK2 fun a hf=>?_;refine wp_seq_k fun _ hK3=>?_;refine Zs hf fun _ hK4=>?_;refine Zm rfl<|Ze (X0y rfl X0c)<|Zm rfl ?_;refine Zt hK4 fun a hf=>?_;refine wp_block ?_;refine Xx (σ:=Nat) (fun (k:Nat) (a:Act) (w:World)=>Fr a 19 [(0,.slice Al l.length cl),(1,.func (.func kq) #[] pq.toArray),(7,vi (l.length:Int)),(8,vi (k:Int))]∧(k≤l.length)∧((l.take k).all (fun x=>!q x)=true)∧Below w0.heap.size w0 w) (fun (k:Nat)=>l.length+1-k) 0 ?_ ?_
 ·exact ⟨hf.sub ⟨rfl,rfl,rfl,rfl,trivial⟩,(Nat.zero_le _),(by simp),hW⟩
 rintro k a w1 ⟨hf,hk,hpre,hW⟩;refine Zs hf fun _ hK5=>?_;refine Ze (X0l rfl rfl) ?_;refine Zt hK5 fun a hf=>?_;refine wp_seq_k fun _ hK6=>?_
 refine Xe hf rfl (fun hc7=>?_) (fun hc7=>?_)
 ·have hc7b:=hc7;have hc7:=of_decide_eq_true hc7
  obtain ⟨u8,hu8⟩:=Xl (l:=l) (k:=k) (by omega)
  refine wp_skip ?_;refine hK6 _ _ ?_;refine wp_seq_k fun _ hK9=>?_;refine wp_block ?_;refine Zs hf fun _ hK10=>?_;refine Zm rfl<|Za rfl ?_;refine Zt hK10 fun a hf=>?_;refine Zs hf fun _ hK11=>?_;refine Zm rfl<|Zm rfl<|Zm rfl ?_;refine Zi (k:=k) (u:=u8) (enc:=encG) (l:=l) trivial rfl rfl X0c X0g X0d (hr_l.below' hW) hu8 rfl ?_;intro p13 hat12;refine Ze (X09 (l:=[vi u8.k,vi u8.a,vi u8.b]) rfl Xt hat12 rfl) ?_;refine Zf (X37 (cs:=pq) (vs:=[.agg #[vi u8.k,vi u8.a,vi u8.b]]) rfl rfl Fq (hq u8 _ hW)) ?_;rintro _ w2 ⟨rfl,hE⟩;replace hW:=btr hW hE;refine Zt hK11 fun a hf=>?_
  refine Xe hf rfl (fun hc14=>?_) (fun hc14=>?_)
  ·have hc14b:=hc14
   have hb2:l.any q=true:=X3c hu8 hc14
   refine Zs hf fun _ hK15=>?_;refine Zm rfl<|Za rfl ?_;refine Zt hK15 fun a hf=>?_;refine wp_ret ?_;refine Xr ?_;refine X5 ?_;refine X5 ?_;refine Xr ?_;refine X5 ?_;refine X3 hf (Xq hf rfl rfl) ?_;exact ⟨_,rfl,by rw [hb2];simp,hW⟩
  have hc14b:=hc14
  have hok:(!q u8)=true:=by revert hc14;cases q u8<;>simp
  refine wp_skip ?_;refine Xd ?_;refine hK9 _ _ ?_;refine Zr hf ?_;refine Ze (Xp rfl rfl (by omega) (by omega))<|Zm rfl ?_;refine Zn fun a hf=>?_;refine Xc ?_;exact ⟨k+1,⟨hf.sub ⟨rfl,rfl,rfl,rfl,trivial⟩,(by omega),(X2a hpre hu8 hok),hW⟩,(by omega)⟩
 have hc7b:=hc7;have hc7:=of_decide_eq_false hc7;refine wp_exit ?_;refine Xf ?_;refine Xf ?_;refine Xy ?_;refine hK3 _ _ ?_;refine Zs hf fun _ hK16=>?_;refine Za rfl ?_;refine Zt hK16 fun a hf=>?_
 refine wp_ret (X3 hf (Xq hf rfl rfl) ?_)
 have hb2:l.any q=false:=X2v (X24 hpre (by omega))
 exact ⟨_,rfl,by rw [hb2];rfl,hW⟩
theorem Xvy(w0:World)(Al:Option Addr)(cl:Nat)(l:List Gt)(hr_l:Rd w0 w0.heap.size 24 encG Al l)(kq:FuncId)(pq:List Value)(Fq:FuncF Tryz.prog kq)(q:Gt→Bool)(hq:∀ x w,Below w0.heap.size w0 w→Ret Tryz.prog kq ([gV x]++pq) w (fun v w'=>v=.bool (q x)∧Below w.heap.size w w'))(hln:l.length≤2305843009213693951) : Ret Tryz.prog 129 [.slice Al l.length cl,.func (.func kq) #[] pq.toArray] w0 (fun v w=>v=.bool (l.any q)∧Below w0.heap.size w0 w):=by
 refine enter Tryz.func129 rfl 9 rfl rfl ?_;intro a hf
 have hW:Below w0.heap.size w0 w0:=Below.refl _ _
 refine Zs hf fun _ hK2=>?_;refine Za rfl ?_;refine Zt hK2 fun a hf=>?_;refine Zs hf fun _ hK3=>?_;refine Zm rfl<|Zm rfl ?_;refine Zf (Vc (Xwg _ Al cl l (hr_l.below' hW).top kq pq Fq q (fun x w' hE'=>hq x w' (hW.trans (hE'.mono hW.size))) hln) Xr9) ?_;rintro _ w1 ⟨ix,rfl,hix,hE⟩;replace hW:=btr hW hE;refine Ze (Xde rfl rfl)<|Za rfl ?_;refine Zt hK3 fun a hf=>?_
 refine wp_ret (X3 hf (Xq hf rfl rfl) ?_)
 exact ⟨by rw [← hix],hW⟩
theorem Xvl(w0:World)(x:Gt)(n:Int)(ba:Nat)(v1:Value)(hBa:Blk w0 ba 31 [vi n,v1]) : Ret Tryz.prog 130 [.agg #[vi x.k,vi x.a,vi x.b],.pointer (some ⟨ba,0,none⟩)] w0 (fun v w=>v=.bool (!gOk n x)∧Below w0.heap.size w0 w):=by
 have hltba:=hBa.lt;refine enter Tryz.func130 rfl 9 rfl rfl ?_;intro a hf
 have hW:Below w0.heap.size w0 w0:=Below.refl _ _
 refine Zs hf fun _ hK1=>?_;refine Zf (X0p (zs:=[vi x.k,vi x.a,vi x.b]) rfl rfl) ?_;rintro _ w1 ⟨b2,rfl,hl2,hE,hB2⟩;have hlo2:=Nat.le_trans hW.size hl2;replace hBa:=hBa.below hE;replace hW:=btr hW hE;refine Za rfl ?_;refine Zt hK1 fun a hf=>?_;refine Zs hf fun _ hK3=>?_;refine Ze (Vd rfl X3h 0)<|Ze (X0 rfl X4 (hBa.at 0))<|Ze (Vn Xt hB2) ?_;refine Zf (Vc (Xtn _ n x) Xjx) ?_;rintro _ w2 ⟨rfl,hE⟩;replace hBa:=hBa.below hE;replace hB2:=hB2.below hE;replace hW:=btr hW hE;refine Ze (X16 rfl)<|Za rfl ?_;refine Zt hK3 fun a hf=>?_
 refine wp_ret (X3 hf (Xq hf rfl rfl) ?_)
 exact ⟨rfl,hW⟩
theorem F55(w0:World)(c:Cx)(Ac:Option Addr)(cc:Nat)(hr_c:Rd w0 w0.heap.size 24 encG Ac c.gs)(hln:c.gs.length≤2305843009213693951) : Ret Tryz.prog 57 [.agg #[vi c.n,.slice Ac c.gs.length cc]] w0 (fun v w=>v=.bool (cOk c)∧Below w0.heap.size w0 w):=by
 refine enter Tryz.func57 rfl 19 rfl rfl ?_;intro a hf
 have hW:Below w0.heap.size w0 w0:=Below.refl _ _
 refine Zs hf fun _ hK2=>?_;refine Zf (X0p (zs:=[vi c.n,.slice Ac c.gs.length cc]) rfl rfl) ?_;rintro _ w1 ⟨b3,rfl,hl3,hE,hB3⟩;have hlo3:=Nat.le_trans hW.size hl3;replace hW:=btr hW hE;refine Za rfl ?_;refine Zt hK2 fun a hf=>?_;refine wp_seq_k fun _ hK4=>?_;refine X08 (fun a w=>Fr a 19 [(2,.bool (((inR c.n 1 5)&&(decide ((c.gs.length:Int)≤400)))&&(!(c.gs.any (fun x=>!gOk c.n x)))))]∧Below w1.heap.size w1 w) ?_ ?_
 ·have hEc:Below w1.heap.size w1 w1:=Below.refl _ _
  refine Zr hf ?_;refine Ze (Vd rfl X3h 0)<|Ze (X0 rfl X4 (hB3.at 0)) ?_;refine Zf (Vc (F91 _ c.n 1 5) X40) ?_;rintro _ _ ⟨rfl,rfl⟩;refine Zm rfl ?_
  refine Zg 6 rfl (fun hg5=>?_) (fun hg5=>?_)
  ·refine Zv ⟨_,_,rfl,rfl,hg5⟩ (Vd rfl X0k 1) ?_;refine Zv ⟨_,_,rfl,rfl,hg5⟩ (X0 rfl X14 (hB3.at 1)) ?_;refine Zv ⟨_,_,rfl,rfl,hg5⟩ (X0y rfl X0c) ?_;refine Zv ⟨_,_,rfl,rfl,hg5⟩ (X7h rfl rfl) ?_;refine Ze (Xb rfl hg5 rfl)<|Zm rfl ?_
   refine Zg 12 rfl (fun hg6=>?_) (fun hg6=>?_)
   ·refine Zv ⟨_,_,rfl,rfl,hg6⟩ (Vd rfl X0k 1) ?_;refine Zv ⟨_,_,rfl,rfl,hg6⟩ (X0 rfl X14 (hB3.at 1)) ?_;refine Zv ⟨_,_,rfl,rfl,hg6⟩ (X3n (vs:=[.pointer (some ⟨b3,0,none⟩)]) rfl) ?_;refine Zk ⟨_,_,rfl,rfl,hg6⟩ (Vc (Xvy _ Ac cc c.gs (hr_c.below' hW).top 130 [.pointer (some ⟨b3,0,none⟩)] Xr4 (fun x=>!gOk c.n x) (fun x w' hE'=>Xvl w' x c.n _ _ (hB3.below hE')) hln) Xpv) ?_;rintro _ w2 ⟨rfl,hE⟩;replace hB3:=hB3.below hE;replace hW:=btr hW hE;replace hEc:=btr hEc hE;refine Zv ⟨_,_,rfl,rfl,hg6⟩ (X16 rfl) ?_;refine Ze (Xb rfl hg6 rfl)<|Za rfl ?_;refine Zn fun a hf=>?_
    have hEE:Below w1.heap.size w1 w2:=hEc
    exact ⟨hf.sub ⟨X1 rfl (by first|rfl|(simp only [hg5,hg6,bs];done)|simp [hg5,hg6]),trivial⟩,hEE⟩
   refine Zp ⟨_,_,rfl,rfl,hg6⟩ ?_;refine Zp ⟨_,_,rfl,rfl,hg6⟩ ?_;refine Zp ⟨_,_,rfl,rfl,hg6⟩ ?_;refine Zp ⟨_,_,rfl,rfl,hg6⟩ ?_;refine Zp ⟨_,_,rfl,rfl,hg6⟩ ?_;refine Ze (X9 rfl hg6 rfl)<|Za rfl ?_;refine Zn fun a hf=>?_
   have hEE:Below w1.heap.size w1 w1:=hEc
   exact ⟨hf.sub ⟨X1 rfl (by first|rfl|(simp only [hg5,hg6,bs];done)|simp [hg5,hg6]),trivial⟩,hEE⟩
  refine Zp ⟨_,_,rfl,rfl,hg5⟩ ?_;refine Zp ⟨_,_,rfl,rfl,hg5⟩ ?_;refine Zp ⟨_,_,rfl,rfl,hg5⟩ ?_;refine Zp ⟨_,_,rfl,rfl,hg5⟩ ?_;refine Ze (X9 rfl hg5 rfl)<|Zm rfl<|Zp ⟨_,_,rfl,rfl,rfl⟩ ?_;refine Zp ⟨_,_,rfl,rfl,rfl⟩ ?_;refine Zp ⟨_,_,rfl,rfl,rfl⟩ ?_;refine Zp ⟨_,_,rfl,rfl,rfl⟩ ?_;refine Zp ⟨_,_,rfl,rfl,rfl⟩ ?_;refine Ze (X9 rfl rfl rfl)<|Za rfl ?_;refine Zn fun a hf=>?_
  have hEE:Below w1.heap.size w1 w1:=hEc
  exact ⟨hf.sub ⟨X1 rfl (by first|rfl|(simp only [hg5,bs];done)|simp [hg5]),trivial⟩,hEE⟩
 rintro a w3 ⟨hf,hE⟩;replace hB3:=hB3.below hE;replace hW:=btr hW hE;refine hK4 _ _ ?_
 refine wp_ret (X3 hf (Xq hf rfl rfl) ?_)
 exact ⟨by simp [cOk, *],hW⟩
theorem Xof(w0:World)(bV:Nat)(f:Bool)(hBV:Blk w0 bV 142 [.bool f])(x:Rg) : Ret Tryz.prog 199 [.pointer (some ⟨bV,0,none⟩),.agg #[vi x.a,vi x.b,vi x.c,vi x.d]] w0 (fun v w=>v=rV (sRing x)∧Kept bV w0.heap.size w0 w∧Blk w bV 142 [.bool (f||!rOk x)]):=by
 have hltV:=hBV.lt;refine enter Tryz.func199 rfl 13 rfl rfl ?_;intro a hf
 have hW:Kept bV w0.heap.size w0 w0:=Kept.refl _ _ _
 refine Zs hf fun _ hK1=>?_;refine Zf (X0p (zs:=[vi x.a,vi x.b,vi x.c,vi x.d]) rfl rfl) ?_;rintro _ w1 ⟨b2,rfl,hl2,hE,hB2⟩;have hlo2:=Nat.le_trans hW.size hl2;replace hBV:=hBV.below hE;replace hW:=ktr hW hE;refine Zf (Xa (zs:=[vi 0,vi 0,vi 0,vi 0]) X2i rfl) ?_;rintro _ w2 ⟨b3,rfl,hl3,hE,hB3⟩
 have hne2_3:b2≠b3:=by have:=hB2.lt;omega
 have hlo3:=Nat.le_trans hW.size hl3;replace hBV:=hBV.below hE;replace hB2:=hB2.below hE;replace hW:=ktr hW hE;refine Zt hK1 fun a hf=>?_;refine wp_seq_k fun _ hK4=>?_;refine Zs hf fun _ hK5=>?_;refine Ze (Vn X0a hB2) ?_;refine Zf (Vc (Xw4 _ x) Xq6) ?_;rintro _ w3 ⟨rfl,hE⟩;replace hBV:=hBV.below hE;replace hB2:=hB2.below hE;replace hB3:=hB3.below hE;replace hW:=ktr hW hE;refine Ze (X16 rfl) ?_;refine Zt hK5 fun a hf=>?_
 refine Xe hf rfl (fun hc6=>?_) (fun hc6=>?_)
 ·have hc6b:=hc6
  have ho:rOk x=false:=by revert hc6;cases rOk x<;>simp
  refine Zs hf fun _ hK7=>?_;refine Zm rfl<|Ze (X43 rfl)<|Ze (Vd rfl X9h 0) ?_;refine Zo (X52 (vs:=[.bool true]) (l':=[.bool true]) rfl rfl Xtv hBV rfl rfl rfl rfl rfl) ?_;rintro _ w4 ⟨ho,hb⟩;have hold:=hBV;replace hB2:=hB2.only ho (Blk.ne hB2 hold rfl);replace hB3:=hB3.only ho (Blk.ne hB3 hold rfl);replace hW:=hW.self ho;clear hold;have hBV:=hb;clear hb ho;refine Zt hK7 fun a hf=>?_;refine Zs hf fun _ hK8=>?_;refine Ze (Xz (ps:=[]) (cs:=[vi 0,vi 0,vi 0,vi 0]) rfl (fun _=>by first|rfl|kernel_rfl)) ?_;refine Zo (Vw [vi 0,vi 0,vi 0,vi 0] X12 hB3) ?_;rintro _ w5 ⟨ho,hb⟩;have hold:=hB3;replace hBV:=hBV.only ho (Blk.ne hBV hold rfl);replace hW:=Kept.only hW ho hlo3;clear hold;have hB3:=hb;clear hb ho;refine Zt hK8 fun a hf=>?_;refine wp_ret ?_;refine X5 ?_;refine X3 hf (Xq hf rfl (ResV.cellN (l:=[vi 0,vi 0,vi 0,vi 0]) rfl X0a (hB3.at 0) rfl)) ?_;exact ⟨by simp [sRing,ho],hW,by simpa [ho] using hBV⟩
 have hc6b:=hc6
 have ho:rOk x=true:=by revert hc6;cases rOk x<;>simp
 refine wp_skip ?_;refine hK4 _ _ ?_;refine Zs hf fun _ hK9=>?_;refine Ze (Vn X0a hB2) ?_;refine Zo (Vw [vi x.a,vi x.b,vi x.c,vi x.d] X12 hB3) ?_;rintro _ w6 ⟨ho,hb⟩;have hold:=hB3;replace hBV:=hBV.only ho (Blk.ne hBV hold rfl);replace hB2:=hB2.only ho (by omega);replace hW:=Kept.only hW ho hlo3;clear hold;have hB3:=hb;clear hb ho;refine Zt hK9 fun a hf=>?_
 refine wp_ret (X3 hf (Xq hf rfl (ResV.cellN (l:=[vi x.a,vi x.b,vi x.c,vi x.d]) rfl X0a (hB3.at 0) rfl)) ?_)
 exact ⟨by simp [sRing,ho],hW,by simpa [ho] using hBV⟩
theorem Xwm(w0:World)(bV:Nat)(f:Bool)(hBV:Blk w0 bV 142 [.bool f])(x:Dy)(y:Dy)(hx:0≤x.exp∧x.exp≤60)(hy:0≤y.exp∧y.exp≤60) : Ret Tryz.prog 177 [.pointer (some ⟨bV,0,none⟩),.agg #[vi x.num.a,vi x.num.b,vi x.num.c,vi x.num.d,vi x.exp],.agg #[vi y.num.a,vi y.num.b,vi y.num.c,vi y.num.d,vi y.exp]] w0 (fun v w=>v=dV ((sMul f x y).2)∧Kept bV w0.heap.size w0 w∧Blk w bV 142 [.bool ((sMul f x y).1)]):=by
 have hltV:=hBV.lt;refine enter Tryz.func177 rfl 30 rfl rfl ?_;intro a hf
 have hW:Kept bV w0.heap.size w0 w0:=Kept.refl _ _ _
 refine Zs hf fun _ hK1=>?_;refine Zf (X0p (zs:=[vi x.num.a,vi x.num.b,vi x.num.c,vi x.num.d,vi x.exp]) rfl rfl) ?_;rintro _ w1 ⟨b2,rfl,hl2,hE,hB2⟩;have hlo2:=Nat.le_trans hW.size hl2;replace hBV:=hBV.below hE;replace hW:=ktr hW hE;refine Zf (X0p (zs:=[vi y.num.a,vi y.num.b,vi y.num.c,vi y.num.d,vi y.exp]) rfl rfl) ?_;rintro _ w2 ⟨b3,rfl,hl3,hE,hB3⟩
 have hne2_3:b2≠b3:=by have:=hB2.lt;omega
 have hlo3:=Nat.le_trans hW.size hl3;replace hBV:=hBV.below hE;replace hB2:=hB2.below hE;replace hW:=ktr hW hE;refine Zf (Xa (zs:=[vi 0,vi 0,vi 0,vi 0,vi 0]) X1p rfl) ?_;rintro _ w3 ⟨b4,rfl,hl4,hE,hB4⟩
 have hne2_4:b2≠b4:=by have:=hB2.lt;omega
 have hne3_4:b3≠b4:=by have:=hB3.lt;omega
 have hlo4:=Nat.le_trans hW.size hl4;replace hBV:=hBV.below hE;replace hB2:=hB2.below hE;replace hB3:=hB3.below hE;replace hW:=ktr hW hE;refine Zt hK1 fun a hf=>?_;refine wp_seq_k fun _ hK5=>?_;refine Zs hf fun _ hK6=>?_;refine Ze (Vd rfl X1c 4)<|Ze (X0 rfl X4 (hB2.at 4))<|Ze (Vd rfl X1c 4)<|Ze (X0 rfl X4 (hB3.at 4))<|Ze (Xp rfl rfl (by omega) (by omega)) ?_;refine Ze (X3e rfl rfl) ?_;refine Zt hK6 fun a hf=>?_
 refine Xe hf rfl (fun hc7=>?_) (fun hc7=>?_)
 ·have hc7b:=hc7;have hc7:=of_decide_eq_true hc7
  have hm:60<x.exp+y.exp:=hc7
  refine Zs hf fun _ hK8=>?_;refine Zm rfl<|Ze (X43 rfl)<|Ze (Vd rfl X9h 0) ?_;refine Zo (X52 (vs:=[.bool true]) (l':=[.bool true]) rfl rfl Xtv hBV rfl rfl rfl rfl rfl) ?_;rintro _ w4 ⟨ho,hb⟩;have hold:=hBV;replace hB2:=hB2.only ho (Blk.ne hB2 hold rfl);replace hB3:=hB3.only ho (Blk.ne hB3 hold rfl);replace hB4:=hB4.only ho (Blk.ne hB4 hold rfl);replace hW:=hW.self ho;clear hold;have hBV:=hb;clear hb ho;refine Zt hK8 fun a hf=>?_;refine Zs hf fun _ hK9=>?_;refine Ze (Xz (ps:=[]) (cs:=[vi 0,vi 0,vi 0,vi 0,vi 0]) rfl (fun _=>by first|rfl|kernel_rfl)) ?_;refine Zo (Vw [vi 0,vi 0,vi 0,vi 0,vi 0] Xw hB4) ?_;rintro _ w5 ⟨ho,hb⟩;have hold:=hB4;replace hBV:=hBV.only ho (Blk.ne hBV hold rfl);replace hW:=Kept.only hW ho hlo4;clear hold;have hB4:=hb;clear hb ho;refine Zt hK9 fun a hf=>?_;refine wp_ret ?_;refine X5 ?_;refine X3 hf (Xq hf rfl (ResV.cellN (l:=[vi 0,vi 0,vi 0,vi 0,vi 0]) rfl Xk (hB4.at 0) rfl)) ?_;exact ⟨by rw [sMul,if_pos hm];rfl,hW,by rw [sMul,if_pos hm];exact hBV⟩
 have hc7b:=hc7;have hc7:=of_decide_eq_false hc7
 have hm:¬ 60<x.exp+y.exp:=hc7
 refine wp_skip ?_;refine hK5 _ _ ?_;refine wp_seq_k fun _ hK10=>?_;refine X05 (some bV) (fun j=>[13].contains j) mixed ?_;intro w6 hE;replace hBV:=hBV.below hE;replace hB2:=hB2.below hE;replace hB3:=hB3.below hE;replace hB4:=hB4.below hE;replace hW:=ktr hW hE;refine Yb hf ?_;refine Yo 0 rfl (fun _=>X2 rfl)<|Yo 1 rfl (fun _=>Vd rfl X1y 0) ?_;refine Yw 2 rfl trivial (fun w1 h1=>X09 (l:=[vi x.num.a,vi x.num.b,vi x.num.c,vi x.num.d]) rfl X0a (((hB2.only h1 (Blk.ne hB2 hBV rfl)).at 0).take 4) rfl) ?_;refine Yo 3 rfl (fun _=>Vd rfl X1y 0) ?_;refine Yw 4 rfl trivial (fun w1 h1=>X09 (l:=[vi y.num.a,vi y.num.b,vi y.num.c,vi y.num.d]) rfl X0a (((hB3.only h1 (Blk.ne hB3 hBV rfl)).at 0).take 4) rfl) ?_;refine Yo 7 rfl (fun _=>Vd rfl X1c 4) ?_;refine Yw 8 rfl trivial (fun w1 h1=>X0 rfl X4 ((hB2.only h1 (Blk.ne hB2 hBV rfl)).at 4)) ?_;refine Yo 9 rfl (fun _=>Vd rfl X1c 4) ?_;refine Yw 10 rfl trivial (fun w1 h1=>X0 rfl X4 ((hB3.only h1 (Blk.ne hB3 hBV rfl)).at 4)) ?_;refine Yo 11 rfl (fun _=>Xp rfl rfl (by omega) (by omega)) ?_;refine Y1 5 ?_;refine Yf rfl trivial (EfW.mono (Vc (Xwk _ x.num y.num) Xrr) (fun _ _ h=>⟨fun _=>by obtain ⟨rfl,hE⟩:=h;exact Keep.of_below hE,h⟩)) ?_;rintro _ w7 ⟨rfl,hE⟩;replace hBV:=hBV.below hE;replace hB2:=hB2.below hE;replace hB3:=hB3.below hE;replace hB4:=hB4.below hE;replace hW:=ktr hW hE;refine Y1 6 ?_;refine Yf rfl trivial (EfW.mono (Vc (Xof _ bV f hBV (rMul x.num y.num)) Xci) (fun _ _ h=>⟨fun _=>by obtain ⟨rfl,hK,hbn⟩:=h;exact hK.keep,h⟩)) ?_;rintro _ w8 ⟨rfl,hK,hbn⟩;obtain ⟨wm,hO,hm,hE⟩:=hK.mid;clear hm;have hold:=hBV;replace hB2:=hB2.only hO (Blk.ne hB2 hold rfl);replace hB3:=hB3.only hO (Blk.ne hB3 hold rfl);replace hB4:=hB4.only hO (Blk.ne hB4 hold rfl);replace hW:=hW.self hO;replace hB2:=hB2.below hE;replace hB3:=hB3.below hE;replace hB4:=hB4.below hE
 replace hW:=ktr hW hE
 clear hold hE hO hK;replace hBV:=hbn;clear hbn;refine Y1 12 ?_;refine Yf rfl trivial (EfW.mono (Vc (Xuu _ (sRing (rMul x.num y.num)) (x.exp+y.exp) (by omega)) Xjy) (fun _ _ h=>⟨fun _=>by obtain ⟨rfl,hE⟩:=h;exact Keep.of_below hE,h⟩)) ?_;rintro _ w9 ⟨rfl,hE⟩;replace hBV:=hBV.below hE;replace hB2:=hB2.below hE;replace hB3:=hB3.below hE;replace hB4:=hB4.below hE;replace hW:=ktr hW hE;refine Y1 13 ?_;refine Yh rfl trivial rfl (Vw [vi ((dLow (sRing (rMul x.num y.num)) (x.exp+y.exp)).num.a),vi ((dLow (sRing (rMul x.num y.num)) (x.exp+y.exp)).num.b),vi ((dLow (sRing (rMul x.num y.num)) (x.exp+y.exp)).num.c),vi ((dLow (sRing (rMul x.num y.num)) (x.exp+y.exp)).num.d),vi ((dLow (sRing (rMul x.num y.num)) (x.exp+y.exp)).exp)] Xw hB4) ?_;rintro _ w10 ⟨ho,hb⟩;have hold:=hB4;replace hBV:=hBV.only ho (Blk.ne hBV hold rfl);replace hB2:=hB2.only ho (by omega);replace hB3:=hB3.only ho (by omega);replace hW:=Kept.only hW ho hlo4;clear hold;have hB4:=hb;clear hb ho;refine Yd fun a hf=>?_;refine hK10 _ _ ?_
 refine wp_ret (X3 hf (Xq hf rfl (ResV.cellN (l:=[vi ((dLow (sRing (rMul x.num y.num)) (x.exp+y.exp)).num.a),vi ((dLow (sRing (rMul x.num y.num)) (x.exp+y.exp)).num.b),vi ((dLow (sRing (rMul x.num y.num)) (x.exp+y.exp)).num.c),vi ((dLow (sRing (rMul x.num y.num)) (x.exp+y.exp)).num.d),vi ((dLow (sRing (rMul x.num y.num)) (x.exp+y.exp)).exp)]) rfl Xk (hB4.at 0) rfl)) ?_)
 exact ⟨by rw [sMul,if_neg hm],hW,by rw [sMul,if_neg hm];exact hBV⟩
theorem Xw8(w0:World)(bV:Nat)(f:Bool)(hBV:Blk w0 bV 142 [.bool f])(x:Dy)(y:Dy)(hx:0≤x.exp∧x.exp≤60)(hy:0≤y.exp∧y.exp≤60) : Ret Tryz.prog 176 [.pointer (some ⟨bV,0,none⟩),.agg #[vi x.num.a,vi x.num.b,vi x.num.c,vi x.num.d,vi x.exp],.agg #[vi y.num.a,vi y.num.b,vi y.num.c,vi y.num.d,vi y.exp]] w0 (fun v w=>v=dV ((sAdd f x y).2)∧Kept bV w0.heap.size w0 w∧Blk w bV 142 [.bool ((sAdd f x y).1)]):=by
 have hltV:=hBV.lt;refine enter Tryz.func176 rfl 45 rfl rfl ?_;intro a hf
 have hW:Kept bV w0.heap.size w0 w0:=Kept.refl _ _ _
 refine Zs hf fun _ hK1=>?_;refine Zf (X0p (zs:=[vi x.num.a,vi x.num.b,vi x.num.c,vi x.num.d,vi x.exp]) rfl rfl) ?_;rintro _ w1 ⟨b2,rfl,hl2,hE,hB2⟩;have hlo2:=Nat.le_trans hW.size hl2;replace hBV:=hBV.below hE;replace hW:=ktr hW hE;refine Zf (X0p (zs:=[vi y.num.a,vi y.num.b,vi y.num.c,vi y.num.d,vi y.exp]) rfl rfl) ?_;rintro _ w2 ⟨b3,rfl,hl3,hE,hB3⟩
 have hne2_3:b2≠b3:=by have:=hB2.lt;omega
 have hlo3:=Nat.le_trans hW.size hl3;replace hBV:=hBV.below hE;replace hB2:=hB2.below hE;replace hW:=ktr hW hE;refine Zf (Xa (zs:=[vi 0,vi 0,vi 0,vi 0,vi 0]) X1p rfl) ?_;rintro _ w3 ⟨b4,rfl,hl4,hE,hB4⟩
 have hne2_4:b2≠b4:=by have:=hB2.lt;omega
 have hne3_4:b3≠b4:=by have:=hB3.lt;omega
 have hlo4:=Nat.le_trans hW.size hl4;replace hBV:=hBV.below hE;replace hB2:=hB2.below hE;replace hB3:=hB3.below hE;replace hW:=ktr hW hE;refine Zt hK1 fun a hf=>?_;refine wp_seq_k fun _ hK5=>?_;refine wp_block ?_;refine Xx (σ:=Bool×Dy) (fun (s:Bool×Dy) (a:Act) (w:World)=>match s with|(f1,x1)=>Fr a 45 [(0,.pointer (some ⟨bV,0,none⟩)),(4,.pointer (some ⟨b2,0,none⟩)),(5,.pointer (some ⟨b3,0,none⟩)),(6,.pointer (some ⟨b4,0,none⟩))]∧(sRaiseN (y.exp-x1.exp).toNat f1 x1=sRaiseN (y.exp-x.exp).toNat f x)∧(0≤x1.exp∧x1.exp≤60)∧Blk w bV 142 [.bool f1]∧Blk w b2 98 [vi x1.num.a,vi x1.num.b,vi x1.num.c,vi x1.num.d,vi x1.exp]∧Blk w b3 98 [vi y.num.a,vi y.num.b,vi y.num.c,vi y.num.d,vi y.exp]∧Blk w b4 98 [vi 0,vi 0,vi 0,vi 0,vi 0]∧Kept bV w0.heap.size w0 w) (fun (s:Bool×Dy)=>match s with|(f1,x1)=>(y.exp-x1.exp).toNat) (f,x) ?_ ?_
 ·exact ⟨hf.sub ⟨rfl,rfl,rfl,rfl,trivial⟩,rfl,hx,hBV,hB2,hB3,hB4,hW⟩
 rintro ⟨f1,x1⟩ a w4 ⟨hf,hinv,hx60,hBV,hB2,hB3,hB4,hW⟩;refine wp_seq_k fun _ hK6=>?_;refine Zs hf fun _ hK7=>?_;refine Ze (Vd rfl X1c 4)<|Ze (X0 rfl X4 (hB2.at 4))<|Ze (Vd rfl X1c 4)<|Ze (X0 rfl X4 (hB3.at 4))<|Ze (X0l rfl rfl) ?_;refine Zt hK7 fun a hf=>?_
 refine Xe hf rfl (fun hc8=>?_) (fun hc8=>?_)
 ·have hc8b:=hc8;have hc8:=of_decide_eq_true hc8
  have hlt:x1.exp<y.exp:=hc8
  refine wp_skip ?_;refine hK6 _ _ ?_;refine wp_block ?_;refine X05 (some bV) (fun j=>[9].contains j) mixed ?_;intro w5 hE;replace hBV:=hBV.below hE;replace hB2:=hB2.below hE;replace hB3:=hB3.below hE;replace hB4:=hB4.below hE;replace hW:=ktr hW hE;refine Yb hf ?_;refine Yo 0 rfl (fun _=>X2 rfl)<|Yo 1 rfl (fun _=>Vd rfl X1y 0) ?_;refine Yw 2 rfl trivial (fun w1 h1=>X09 (l:=[vi x1.num.a,vi x1.num.b,vi x1.num.c,vi x1.num.d]) rfl X0a (((hB2.only h1 (Blk.ne hB2 hBV rfl)).at 0).take 4) rfl) ?_;refine Yo 5 rfl (fun _=>Vd rfl X1c 4) ?_;refine Yw 6 rfl trivial (fun w1 h1=>X0 rfl X4 ((hB2.only h1 (Blk.ne hB2 hBV rfl)).at 4)) ?_;refine Yo 7 rfl (fun _=>Xp rfl rfl (by omega) (by omega)) ?_;refine Y1 3 ?_;refine Yf rfl trivial (EfW.mono (Vc (Xrk _ x1.num) Xf4) (fun _ _ h=>⟨fun _=>by obtain ⟨rfl,hE⟩:=h;exact Keep.of_below hE,h⟩)) ?_;rintro _ w6 ⟨rfl,hE⟩;replace hBV:=hBV.below hE;replace hB2:=hB2.below hE;replace hB3:=hB3.below hE;replace hB4:=hB4.below hE;replace hW:=ktr hW hE;refine Y1 4 ?_;refine Yf rfl trivial (EfW.mono (Vc (Xof _ bV f1 hBV (rRoot x1.num)) Xci) (fun _ _ h=>⟨fun _=>by obtain ⟨rfl,hK,hbn⟩:=h;exact hK.keep,h⟩)) ?_;rintro _ w7 ⟨rfl,hK,hbn⟩;obtain ⟨wm,hO,hm,hE⟩:=hK.mid;clear hm;have hold:=hBV;replace hB2:=hB2.only hO (Blk.ne hB2 hold rfl);replace hB3:=hB3.only hO (Blk.ne hB3 hold rfl);replace hB4:=hB4.only hO (Blk.ne hB4 hold rfl);replace hW:=hW.self hO;replace hB2:=hB2.below hE;replace hB3:=hB3.below hE;replace hB4:=hB4.below hE;replace hW:=ktr hW hE
  clear hold hE hO hK;replace hBV:=hbn;clear hbn;refine Yo 8 rfl (fun _=>Xz (ps:=[(0,.agg #[vi ((sRing (rRoot x1.num)).a),vi ((sRing (rRoot x1.num)).b),vi ((sRing (rRoot x1.num)).c),vi ((sRing (rRoot x1.num)).d)]),(1,vi (x1.exp+1))]) (cs:=[vi ((sRing (rRoot x1.num)).a),vi ((sRing (rRoot x1.num)).b),vi ((sRing (rRoot x1.num)).c),vi ((sRing (rRoot x1.num)).d),vi (x1.exp+1)]) rfl (fun _=>by first|rfl|kernel_rfl)) ?_;refine Y1 9 ?_;refine Yh rfl trivial rfl (Vw [vi ((sRing (rRoot x1.num)).a),vi ((sRing (rRoot x1.num)).b),vi ((sRing (rRoot x1.num)).c),vi ((sRing (rRoot x1.num)).d),vi (x1.exp+1)] Xw hB2) ?_;rintro _ w8 ⟨ho,hb⟩;have hold:=hB2;replace hBV:=hBV.only ho (Blk.ne hBV hold rfl);replace hB3:=hB3.only ho (by omega);replace hB4:=hB4.only ho (by omega);replace hW:=Kept.only hW ho hlo2;clear hold;have hB2:=hb;clear hb ho;refine Yd fun a hf=>?_;refine Xd ?_;refine Xc ?_;exact ⟨(f1||!rOk (rRoot x1.num),⟨sRing (rRoot x1.num),x1.exp+1⟩),⟨hf.sub ⟨rfl,rfl,rfl,rfl,trivial⟩,(X8e hinv hlt),(by dsimp only;omega),hBV,hB2,hB3,hB4,hW⟩,(by first|omega|(dsimp only;omega))⟩
 have hc8b:=hc8;have hc8:=of_decide_eq_false hc8;have hx1:=X83 hinv hc8;refine wp_exit ?_;refine Xf ?_;refine Xf ?_;refine Xy ?_;refine hK5 _ _ ?_;refine wp_seq_k fun _ hK9=>?_;refine wp_block ?_;refine Xx (σ:=Bool×Dy) (fun (s:Bool×Dy) (a:Act) (w:World)=>match s with|(f2,y1)=>Fr a 45 [(0,.pointer (some ⟨bV,0,none⟩)),(4,.pointer (some ⟨b2,0,none⟩)),(5,.pointer (some ⟨b3,0,none⟩)),(6,.pointer (some ⟨b4,0,none⟩))]∧(sRaiseN (x1.exp-y1.exp).toNat f2 y1=sRaiseN (x1.exp-y.exp).toNat f1 y)∧(0≤y1.exp∧y1.exp≤60)∧Blk w bV 142 [.bool f2]∧Blk w b2 98 [vi x1.num.a,vi x1.num.b,vi x1.num.c,vi x1.num.d,vi x1.exp]∧Blk w b3 98 [vi y1.num.a,vi y1.num.b,vi y1.num.c,vi y1.num.d,vi y1.exp]∧Blk w b4 98 [vi 0,vi 0,vi 0,vi 0,vi 0]∧Kept bV w0.heap.size w0 w) (fun (s:Bool×Dy)=>match s with|(f2,y1)=>(x1.exp-y1.exp).toNat) (f1,y) ?_ ?_
 ·exact ⟨hf.sub ⟨rfl,rfl,rfl,rfl,trivial⟩,rfl,hy,hBV,hB2,hB3,hB4,hW⟩
 rintro ⟨f2,y1⟩ a w9 ⟨hf,hinv2,hy60,hBV,hB2,hB3,hB4,hW⟩;refine wp_seq_k fun _ hK10=>?_;refine Zs hf fun _ hK11=>?_;refine Ze (Vd rfl X1c 4)<|Ze (X0 rfl X4 (hB3.at 4))<|Ze (Vd rfl X1c 4)<|Ze (X0 rfl X4 (hB2.at 4))<|Ze (X0l rfl rfl) ?_;refine Zt hK11 fun a hf=>?_
 refine Xe hf rfl (fun hc12=>?_) (fun hc12=>?_)
 ·have hc12b:=hc12;have hc12:=of_decide_eq_true hc12
  have hlt:y1.exp<x1.exp:=hc12
  refine wp_skip ?_;refine hK10 _ _ ?_;refine wp_block ?_;refine X05 (some bV) (fun j=>[9].contains j) mixed ?_;intro w10 hE;replace hBV:=hBV.below hE;replace hB2:=hB2.below hE;replace hB3:=hB3.below hE;replace hB4:=hB4.below hE;replace hW:=ktr hW hE;refine Yb hf ?_;refine Yo 0 rfl (fun _=>X2 rfl)<|Yo 1 rfl (fun _=>Vd rfl X1y 0) ?_;refine Yw 2 rfl trivial (fun w1 h1=>X09 (l:=[vi y1.num.a,vi y1.num.b,vi y1.num.c,vi y1.num.d]) rfl X0a (((hB3.only h1 (Blk.ne hB3 hBV rfl)).at 0).take 4) rfl) ?_;refine Yo 5 rfl (fun _=>Vd rfl X1c 4) ?_;refine Yw 6 rfl trivial (fun w1 h1=>X0 rfl X4 ((hB3.only h1 (Blk.ne hB3 hBV rfl)).at 4)) ?_;refine Yo 7 rfl (fun _=>Xp rfl rfl (by omega) (by omega)) ?_;refine Y1 3 ?_;refine Yf rfl trivial (EfW.mono (Vc (Xrk _ y1.num) Xf4) (fun _ _ h=>⟨fun _=>by obtain ⟨rfl,hE⟩:=h;exact Keep.of_below hE,h⟩)) ?_;rintro _ w11 ⟨rfl,hE⟩;replace hBV:=hBV.below hE;replace hB2:=hB2.below hE;replace hB3:=hB3.below hE;replace hB4:=hB4.below hE;replace hW:=ktr hW hE;refine Y1 4 ?_;refine Yf rfl trivial (EfW.mono (Vc (Xof _ bV f2 hBV (rRoot y1.num)) Xci) (fun _ _ h=>⟨fun _=>by obtain ⟨rfl,hK,hbn⟩:=h;exact hK.keep,h⟩)) ?_;rintro _ w12 ⟨rfl,hK,hbn⟩;obtain ⟨wm,hO,hm,hE⟩:=hK.mid;clear hm;have hold:=hBV;replace hB2:=hB2.only hO (Blk.ne hB2 hold rfl);replace hB3:=hB3.only hO (Blk.ne hB3 hold rfl);replace hB4:=hB4.only hO (Blk.ne hB4 hold rfl);replace hW:=hW.self hO;replace hB2:=hB2.below hE;replace hB3:=hB3.below hE;replace hB4:=hB4.below hE;replace hW:=ktr hW hE
  clear hold hE hO hK;replace hBV:=hbn;clear hbn;refine Yo 8 rfl (fun _=>Xz (ps:=[(0,.agg #[vi ((sRing (rRoot y1.num)).a),vi ((sRing (rRoot y1.num)).b),vi ((sRing (rRoot y1.num)).c),vi ((sRing (rRoot y1.num)).d)]),(1,vi (y1.exp+1))]) (cs:=[vi ((sRing (rRoot y1.num)).a),vi ((sRing (rRoot y1.num)).b),vi ((sRing (rRoot y1.num)).c),vi ((sRing (rRoot y1.num)).d),vi (y1.exp+1)]) rfl (fun _=>by first|rfl|kernel_rfl)) ?_;refine Y1 9 ?_;refine Yh rfl trivial rfl (Vw [vi ((sRing (rRoot y1.num)).a),vi ((sRing (rRoot y1.num)).b),vi ((sRing (rRoot y1.num)).c),vi ((sRing (rRoot y1.num)).d),vi (y1.exp+1)] Xw hB3) ?_;rintro _ w13 ⟨ho,hb⟩;have hold:=hB3;replace hBV:=hBV.only ho (Blk.ne hBV hold rfl);replace hB2:=hB2.only ho (by omega);replace hB4:=hB4.only ho (by omega);replace hW:=Kept.only hW ho hlo3;clear hold;have hB3:=hb;clear hb ho;refine Yd fun a hf=>?_;refine Xd ?_;refine Xc ?_;exact ⟨(f2||!rOk (rRoot y1.num),⟨sRing (rRoot y1.num),y1.exp+1⟩),⟨hf.sub ⟨rfl,rfl,rfl,rfl,trivial⟩,(X8e hinv2 hlt),(by dsimp only;omega),hBV,hB2,hB3,hB4,hW⟩,(by first|omega|(dsimp only;omega))⟩
 have hc12b:=hc12;have hc12:=of_decide_eq_false hc12;have hy1:=X83 hinv2 hc12;refine wp_exit ?_;refine Xf ?_;refine Xf ?_;refine Xy ?_;refine hK9 _ _ ?_;refine wp_seq_k fun _ hK13=>?_;refine X05 (some bV) (fun j=>[10].contains j) mixed ?_;intro w14 hE;replace hBV:=hBV.below hE;replace hB2:=hB2.below hE;replace hB3:=hB3.below hE;replace hB4:=hB4.below hE;replace hW:=ktr hW hE;refine Yb hf ?_;refine Yo 0 rfl (fun _=>X2 rfl)<|Yo 1 rfl (fun _=>Vd rfl X1y 0) ?_;refine Yw 2 rfl trivial (fun w1 h1=>X09 (l:=[vi x1.num.a,vi x1.num.b,vi x1.num.c,vi x1.num.d]) rfl X0a (((hB2.only h1 (Blk.ne hB2 hBV rfl)).at 0).take 4) rfl) ?_;refine Yo 3 rfl (fun _=>Vd rfl X1y 0) ?_;refine Yw 4 rfl trivial (fun w1 h1=>X09 (l:=[vi y1.num.a,vi y1.num.b,vi y1.num.c,vi y1.num.d]) rfl X0a (((hB3.only h1 (Blk.ne hB3 hBV rfl)).at 0).take 4) rfl) ?_;refine Yo 7 rfl (fun _=>Vd rfl X1c 4) ?_;refine Yw 8 rfl trivial (fun w1 h1=>X0 rfl X4 ((hB2.only h1 (Blk.ne hB2 hBV rfl)).at 4)) ?_;refine Y1 5 ?_;refine Yf rfl trivial (EfW.mono (Vc (Xwq _ x1.num y1.num) Xs1) (fun _ _ h=>⟨fun _=>by obtain ⟨rfl,hE⟩:=h;exact Keep.of_below hE,h⟩)) ?_;rintro _ w15 ⟨rfl,hE⟩;replace hBV:=hBV.below hE;replace hB2:=hB2.below hE;replace hB3:=hB3.below hE;replace hB4:=hB4.below hE;replace hW:=ktr hW hE;refine Y1 6 ?_;refine Yf rfl trivial (EfW.mono (Vc (Xof _ bV f2 hBV (rAdd x1.num y1.num)) Xci) (fun _ _ h=>⟨fun _=>by obtain ⟨rfl,hK,hbn⟩:=h;exact hK.keep,h⟩)) ?_;rintro _ w16 ⟨rfl,hK,hbn⟩;obtain ⟨wm,hO,hm,hE⟩:=hK.mid;clear hm;have hold:=hBV;replace hB2:=hB2.only hO (Blk.ne hB2 hold rfl);replace hB3:=hB3.only hO (Blk.ne hB3 hold rfl);replace hB4:=hB4.only hO (Blk.ne hB4 hold rfl);replace hW:=hW.self hO;replace hB2:=hB2.below hE;replace hB3:=hB3.below hE;replace hB4:=hB4.below hE;replace hW:=ktr hW hE
 clear hold hE hO hK;replace hBV:=hbn;clear hbn;refine Y1 9 ?_;refine Yf rfl trivial (EfW.mono (Vc (Xuu _ (sRing (rAdd x1.num y1.num)) x1.exp (by omega)) Xjy) (fun _ _ h=>⟨fun _=>by obtain ⟨rfl,hE⟩:=h;exact Keep.of_below hE,h⟩)) ?_;rintro _ w17 ⟨rfl,hE⟩;replace hBV:=hBV.below hE;replace hB2:=hB2.below hE;replace hB3:=hB3.below hE;replace hB4:=hB4.below hE;replace hW:=ktr hW hE;refine Y1 10 ?_;refine Yh rfl trivial rfl (Vw [vi ((dLow (sRing (rAdd x1.num y1.num)) x1.exp).num.a),vi ((dLow (sRing (rAdd x1.num y1.num)) x1.exp).num.b),vi ((dLow (sRing (rAdd x1.num y1.num)) x1.exp).num.c),vi ((dLow (sRing (rAdd x1.num y1.num)) x1.exp).num.d),vi ((dLow (sRing (rAdd x1.num y1.num)) x1.exp).exp)] Xw hB4) ?_;rintro _ w18 ⟨ho,hb⟩;have hold:=hB4;replace hBV:=hBV.only ho (Blk.ne hBV hold rfl);replace hB2:=hB2.only ho (by omega);replace hB3:=hB3.only ho (by omega);replace hW:=Kept.only hW ho hlo4;clear hold;have hB4:=hb;clear hb ho;refine Yd fun a hf=>?_;refine hK13 _ _ ?_
 refine wp_ret (X3 hf (Xq hf rfl (ResV.cellN (l:=[vi ((dLow (sRing (rAdd x1.num y1.num)) x1.exp).num.a),vi ((dLow (sRing (rAdd x1.num y1.num)) x1.exp).num.b),vi ((dLow (sRing (rAdd x1.num y1.num)) x1.exp).num.c),vi ((dLow (sRing (rAdd x1.num y1.num)) x1.exp).num.d),vi ((dLow (sRing (rAdd x1.num y1.num)) x1.exp).exp)]) rfl Xk (hB4.at 0) rfl)) ?_)
 exact ⟨by rw [sAdd,hx1];dsimp only;rw [hy1],hW,by rw [sAdd,hx1];dsimp only;rw [hy1];exact hBV⟩
theorem Xij(w0:World)(n:Int)(s:Int)(q:Int)(h0:0≤q)(h1:q<n)(h2:n≤5) : Ret Tryz.prog 72 [vi n,vi s,vi q] w0 (fun v w=>v=vi (bitF n s q)∧w0=w):=by
 refine enter Tryz.func72 rfl 14 rfl rfl ?_;intro a hf
 have hW:Below w0.heap.size w0 w0:=Below.refl _ _
 refine Zs hf fun _ hK1=>?_;refine Za rfl ?_;refine Zt hK1 fun a hf=>?_;refine Zs hf fun _ hK2=>?_;refine Zm rfl<|Zm rfl<|Ze (X0s rfl rfl (by omega) (by omega))<|Zm rfl<|Ze (X0s rfl rfl (by omega) (by omega)) ?_;refine Ze (Xuz (m:=(n-1-q).toNat) rfl rfl (by omega) (by omega))<|Ze (Xqr rfl rfl)<|Za rfl ?_;refine Zt hK2 fun a hf=>?_
 refine wp_ret (X3 hf (Xq hf rfl rfl) ?_)
 exact ⟨rfl,rfl⟩
theorem Xnd(w0:World)(n:Int)(s:Int)(q:Int)(h0:0≤q)(h1:q<n)(h2:n≤5) : Ret Tryz.prog 73 [vi n,vi s,vi q] w0 (fun v w=>v=vi (flipF n s q)∧w0=w):=by
 refine enter Tryz.func73 rfl 14 rfl rfl ?_;intro a hf
 have hW:Below w0.heap.size w0 w0:=Below.refl _ _
 refine Zs hf fun _ hK1=>?_;refine Za rfl ?_;refine Zt hK1 fun a hf=>?_;refine Zs hf fun _ hK2=>?_;refine Zm rfl<|Zm rfl<|Ze (X0s rfl rfl (by omega) (by omega))<|Zm rfl<|Ze (X0s rfl rfl (by omega) (by omega)) ?_;refine Ze (Xji (m:=(n-1-q).toNat) rfl rfl (by omega) (by omega))<|Ze (Xl6 rfl rfl)<|Za rfl ?_;refine Zt hK2 fun a hf=>?_
 refine wp_ret (X3 hf (Xq hf rfl rfl) ?_)
 exact ⟨rfl,rfl⟩
theorem Xfk(w0:World)(n:Int)(s:Int)(q:Int)(h0:0≤q)(h1:q<n)(h2:n≤5) : Ret Tryz.prog 197 [vi n,vi s,vi q] w0 (fun v w=>v=vi (bitF n s q)∧w0=w):=by
 refine enter Tryz.func197 rfl 15 rfl rfl ?_;intro a hf
 have hW:Below w0.heap.size w0 w0:=Below.refl _ _
 refine Zs hf fun _ hK1=>?_;refine Za rfl ?_;refine Zt hK1 fun a hf=>?_;refine Zs hf fun _ hK2=>?_;refine Zm rfl<|Zm rfl<|Ze (X0s rfl rfl (by omega) (by omega))<|Zm rfl<|Ze (X0s rfl rfl (by omega) (by omega)) ?_;refine Ze (Xif (m:=(n-1-q).toNat) Tryz.underlying3 Tryz.underlying165 rfl (by omega) (by omega))<|Ze (Xuz (m:=(n-1-q).toNat) rfl rfl rfl (by omega))<|Ze (Xqr rfl rfl)<|Za rfl ?_;refine Zt hK2 fun a hf=>?_
 refine wp_ret (X3 hf (Xq hf rfl rfl) ?_)
 exact ⟨rfl,rfl⟩
theorem Xv2(w0:World)(k:Int)(hk:1≤k∧k≤8) : Ret Tryz.prog 198 [vi k] w0 (fun v w=>∃ A c,v=.slice A (oneL k).length c∧Own w w0.heap.size 98 5 encD A c (oneL k)∧Below w0.heap.size w0 w):=by
 refine enter Tryz.func198 rfl 43 rfl rfl ?_;intro a hf
 have hW:Below w0.heap.size w0 w0:=Below.refl _ _
 refine Zs hf fun _ hK1=>?_;refine Za rfl ?_;refine Zt hK1 fun a hf=>?_;refine Zs hf fun _ hK3=>?_;refine Zf (Vc (Xfe _ 0) X6b) ?_;rintro _ w1 ⟨rfl,hE⟩;replace hW:=btr hW hE;refine Ze (Xz (ps:=[]) (cs:=[vi 0,vi 0,vi 0,vi 0,vi 0]) rfl (fun _=>by first|rfl|kernel_rfl)) ?_;refine Zf (Xa (zs:=[vi 0,vi 0,vi 0,vi 0,vi 0]) X1p rfl) ?_;rintro _ w2 ⟨b4,rfl,hl4,hE,hB4⟩;have hlo4:=Nat.le_trans hW.size hl4;replace hW:=btr hW hE;refine Zf (Xa (zs:=[vi 0,vi 0,vi 0,vi 0,vi 0]) X1p rfl) ?_;rintro _ w3 ⟨b5,rfl,hl5,hE,hB5⟩
 have hne4_5:b4≠b5:=by have:=hB4.lt;omega
 have hlo5:=Nat.le_trans hW.size hl5;replace hB4:=hB4.below hE;replace hW:=btr hW hE;refine Zo (Vw [vi ((dPow 0).num.a),vi ((dPow 0).num.b),vi ((dPow 0).num.c),vi ((dPow 0).num.d),vi ((dPow 0).exp)] Xw hB4) ?_;rintro _ w4 ⟨ho,hb⟩;have hold:=hB4;replace hB5:=hB5.only ho (by omega);replace hW:=Below.only hW ho hlo4;clear hold;have hB4:=hb;clear hb ho;refine Zo (Vw [vi 0,vi 0,vi 0,vi 0,vi 0] Xw hB5) ?_;rintro _ w5 ⟨ho,hb⟩;have hold:=hB5;replace hB4:=hB4.only ho (by omega);replace hW:=Below.only hW ho hlo5;clear hold;have hB5:=hb;clear hb ho;refine Zt hK3 fun a hf=>?_;refine Zs hf fun _ hK6=>?_;refine Ze (Xz (ps:=[(0,vi 1)]) (cs:=[vi 1,vi 0,vi 0,vi 0]) rfl (fun _=>by first|rfl|kernel_rfl))<|Ze (Xz (ps:=[(0,.agg #[vi 1,vi 0,vi 0,vi 0]),(1,vi 1)]) (cs:=[vi 1,vi 0,vi 0,vi 0,vi 1]) rfl (fun _=>by first|rfl|kernel_rfl)) ?_;refine Zf (Xa (zs:=[vi 0,vi 0,vi 0,vi 0,vi 0]) X1p rfl) ?_;rintro _ w6 ⟨b7,rfl,hl7,hE,hB7⟩
 have hne4_7:b4≠b7:=by have:=hB4.lt;omega
 have hne5_7:b5≠b7:=by have:=hB5.lt;omega
 have hlo7:=Nat.le_trans hW.size hl7;replace hB4:=hB4.below hE;replace hB5:=hB5.below hE;replace hW:=btr hW hE;refine Zo (Vw [vi 1,vi 0,vi 0,vi 0,vi 1] Xw hB7) ?_;rintro _ w7 ⟨ho,hb⟩;have hold:=hB7;replace hB4:=hB4.only ho (by omega);replace hB5:=hB5.only ho (by omega);replace hW:=Below.only hW ho hlo7;clear hold;have hB7:=hb;clear hb ho;refine Zt hK6 fun a hf=>?_;refine wp_seq_k fun _ hK8=>?_;refine Zs hf fun _ hK9=>?_;refine Zm rfl ?_;refine Zt hK9 fun a hf=>?_;refine wp_block ?_;refine Zs hf fun _ hK10=>?_;refine Ze (X0u rfl rfl)<|Za rfl ?_;refine Zt hK10 fun a hf=>?_
 refine Xe hf rfl (fun hc11=>?_) (fun hc11=>?_)
 ·have hc11b:=hc11
  have e1:k=1:=by simpa using hc11
  refine wp_seq_k fun _ hK12=>?_;refine X05 none (fun _=>false) mixed ?_;intro w8 hE;replace hB4:=hB4.below hE;replace hB5:=hB5.below hE;replace hB7:=hB7.below hE;replace hW:=btr hW hE;refine Yb hf ?_;refine Ye 0 rfl (Vn Xk hB7)<|Ye 1 rfl (Vn Xk hB7)<|Ye 2 rfl (Vn Xk hB7)<|Ye 3 rfl (Vn Xk hB7) ?_;refine Y1 4 ?_;refine Yk rfl trivial (Vc (Xwu _ (⟨(⟨1,0,0,0⟩ : Rg),1⟩ : Dy)) Xsu) (fun _ _ ⟨_,hE⟩=>hE) ?_;rintro _ w9 ⟨rfl,hE⟩;replace hB4:=hB4.below hE;replace hB5:=hB5.below hE;replace hB7:=hB7.below hE;replace hW:=btr hW hE;refine Y1 5 ?_;refine Yk rfl trivial (Xm (k:=4) (vs:=[.agg #[vi 1,vi 0,vi 0,vi 0,vi 1],.agg #[vi 1,vi 0,vi 0,vi 0,vi 1],.agg #[vi 1,vi 0,vi 0,vi 0,vi 1],.agg #[vi ((dNeg (⟨(⟨1,0,0,0⟩ : Rg),1⟩ : Dy)).num.a),vi ((dNeg (⟨(⟨1,0,0,0⟩ : Rg),1⟩ : Dy)).num.b),vi ((dNeg (⟨(⟨1,0,0,0⟩ : Rg),1⟩ : Dy)).num.c),vi ((dNeg (⟨(⟨1,0,0,0⟩ : Rg),1⟩ : Dy)).num.d),vi ((dNeg (⟨(⟨1,0,0,0⟩ : Rg),1⟩ : Dy)).exp)]]) (zs:=[vi 1,vi 0,vi 0,vi 0,vi 1,vi 1,vi 0,vi 0,vi 0,vi 1,vi 1,vi 0,vi 0,vi 0,vi 1,vi ((dNeg (⟨(⟨1,0,0,0⟩ : Rg),1⟩ : Dy)).num.a),vi ((dNeg (⟨(⟨1,0,0,0⟩ : Rg),1⟩ : Dy)).num.b),vi ((dNeg (⟨(⟨1,0,0,0⟩ : Rg),1⟩ : Dy)).num.c),vi ((dNeg (⟨(⟨1,0,0,0⟩ : Rg),1⟩ : Dy)).num.d),vi ((dNeg (⟨(⟨1,0,0,0⟩ : Rg),1⟩ : Dy)).exp)]) rfl X1f X3b rfl rfl) (fun _ _ ⟨_,_,_,h,_⟩=>h) ?_;rintro _ w10 ⟨b13,rfl,hl13,hE,hB13⟩
  have hne4_13:b4≠b13:=by have:=hB4.lt;omega
  have hne5_13:b5≠b13:=by have:=hB5.lt;omega
  have hne7_13:b7≠b13:=by have:=hB7.lt;omega
  have hlo13:=Nat.le_trans hW.size hl13;replace hB4:=hB4.below hE;replace hB5:=hB5.below hE;replace hB7:=hB7.below hE;replace hW:=btr hW hE;refine Yo 6 rfl (fun _=>X1s rfl) ?_;refine Yd fun a hf=>?_;refine hK12 _ _ ?_;refine wp_ret ?_;refine Xr ?_;refine X5 ?_;refine X3 hf (Xq hf rfl rfl) ?_;exact ⟨(some ⟨b13,0,none⟩),4,by rw [oneL,if_pos e1];rfl,by rw [oneL,if_pos e1];exact (Own.of_blkL X1k hB13 hlo13 rfl rfl (by decide)),hW⟩
 have hc11b:=hc11
 have e1:¬ k=1:=by simpa using hc11
 refine Zs hf fun _ hK15=>?_;refine Ze (X0u rfl rfl)<|Za rfl ?_;refine Zt hK15 fun a hf=>?_
 refine Xe hf rfl (fun hc16=>?_) (fun hc16=>?_)
 ·have hc16b:=hc16
  have e2:k=2:=by simpa using hc16
  refine Zs hf fun _ hK17=>?_;refine Ze (Vn Xk hB5)<|Ze (Vn Xk hB4)<|Ze (Vn Xk hB4)<|Ze (Vn Xk hB5) ?_;refine Zf (Xm (k:=4) (vs:=[.agg #[vi 0,vi 0,vi 0,vi 0,vi 0],.agg #[vi ((dPow 0).num.a),vi ((dPow 0).num.b),vi ((dPow 0).num.c),vi ((dPow 0).num.d),vi ((dPow 0).exp)],.agg #[vi ((dPow 0).num.a),vi ((dPow 0).num.b),vi ((dPow 0).num.c),vi ((dPow 0).num.d),vi ((dPow 0).exp)],.agg #[vi 0,vi 0,vi 0,vi 0,vi 0]]) (zs:=[vi 0,vi 0,vi 0,vi 0,vi 0,vi ((dPow 0).num.a),vi ((dPow 0).num.b),vi ((dPow 0).num.c),vi ((dPow 0).num.d),vi ((dPow 0).exp),vi ((dPow 0).num.a),vi ((dPow 0).num.b),vi ((dPow 0).num.c),vi ((dPow 0).num.d),vi ((dPow 0).exp),vi 0,vi 0,vi 0,vi 0,vi 0]) rfl X1f X3b rfl rfl) ?_;rintro _ w11 ⟨b18,rfl,hl18,hE,hB18⟩
  have hne4_18:b4≠b18:=by have:=hB4.lt;omega
  have hne5_18:b5≠b18:=by have:=hB5.lt;omega
  have hlo18:=Nat.le_trans hW.size hl18;replace hB4:=hB4.below hE;replace hB5:=hB5.below hE;replace hW:=btr hW hE;refine Za rfl ?_;refine Zt hK17 fun a hf=>?_;refine wp_ret ?_;refine Xr ?_;refine X5 ?_;refine X3 hf (Xq hf rfl rfl) ?_;exact ⟨(some ⟨b18,0,none⟩),4,by rw [oneL,if_neg e1,if_pos e2];rfl,by rw [oneL,if_neg e1,if_pos e2];exact (Own.of_blkL X1k hB18 hlo18 rfl rfl (by decide)),hW⟩
 have hc16b:=hc16
 have e2:¬ k=2:=by simpa using hc16
 refine Zs hf fun _ hK20=>?_;refine Ze (X0u rfl rfl)<|Za rfl ?_;refine Zt hK20 fun a hf=>?_
 refine Xe hf rfl (fun hc21=>?_) (fun hc21=>?_)
 ·have hc21b:=hc21
  have e3:k=3:=by simpa using hc21
  refine wp_seq_k fun _ hK22=>?_;refine X05 none (fun _=>false) mixed ?_;intro w12 hE;replace hB4:=hB4.below hE;replace hB5:=hB5.below hE;replace hW:=btr hW hE;refine Yb hf ?_;refine Ye 0 rfl (Vn Xk hB5)<|Ye 3 rfl (Vn Xk hB5) ?_;refine Y1 1 ?_;refine Yk rfl trivial (Vc (Xfe _ 6) X6b) (fun _ _ ⟨_,hE⟩=>hE) ?_;rintro _ w13 ⟨rfl,hE⟩;replace hB4:=hB4.below hE;replace hB5:=hB5.below hE;replace hW:=btr hW hE;refine Y1 2 ?_;refine Yk rfl trivial (Vc (Xfe _ 2) X6b) (fun _ _ ⟨_,hE⟩=>hE) ?_;rintro _ w14 ⟨rfl,hE⟩;replace hB4:=hB4.below hE;replace hB5:=hB5.below hE;replace hW:=btr hW hE;refine Y1 4 ?_;refine Yk rfl trivial (Xm (k:=4) (vs:=[.agg #[vi 0,vi 0,vi 0,vi 0,vi 0],.agg #[vi ((dPow 6).num.a),vi ((dPow 6).num.b),vi ((dPow 6).num.c),vi ((dPow 6).num.d),vi ((dPow 6).exp)],.agg #[vi ((dPow 2).num.a),vi ((dPow 2).num.b),vi ((dPow 2).num.c),vi ((dPow 2).num.d),vi ((dPow 2).exp)],.agg #[vi 0,vi 0,vi 0,vi 0,vi 0]]) (zs:=[vi 0,vi 0,vi 0,vi 0,vi 0,vi ((dPow 6).num.a),vi ((dPow 6).num.b),vi ((dPow 6).num.c),vi ((dPow 6).num.d),vi ((dPow 6).exp),vi ((dPow 2).num.a),vi ((dPow 2).num.b),vi ((dPow 2).num.c),vi ((dPow 2).num.d),vi ((dPow 2).exp),vi 0,vi 0,vi 0,vi 0,vi 0]) rfl X1f X3b rfl rfl) (fun _ _ ⟨_,_,_,h,_⟩=>h) ?_;rintro _ w15 ⟨b23,rfl,hl23,hE,hB23⟩
  have hne4_23:b4≠b23:=by have:=hB4.lt;omega
  have hne5_23:b5≠b23:=by have:=hB5.lt;omega
  have hlo23:=Nat.le_trans hW.size hl23;replace hB4:=hB4.below hE;replace hB5:=hB5.below hE;replace hW:=btr hW hE;refine Yo 5 rfl (fun _=>X1s rfl) ?_;refine Yd fun a hf=>?_;refine hK22 _ _ ?_;refine wp_ret ?_;refine Xr ?_;refine X5 ?_;refine X3 hf (Xq hf rfl rfl) ?_;exact ⟨(some ⟨b23,0,none⟩),4,by rw [oneL,if_neg e1,if_neg e2,if_pos e3];rfl,by rw [oneL,if_neg e1,if_neg e2,if_pos e3];exact (Own.of_blkL X1k hB23 hlo23 rfl rfl (by decide)),hW⟩
 have hc21b:=hc21
 have e3:¬ k=3:=by simpa using hc21
 refine wp_skip ?_;refine Xd ?_;refine hK8 _ _ ?_;refine wp_seq_k fun _ hK25=>?_;refine X05 none (fun _=>false) mixed ?_;intro w16 hE;replace hB4:=hB4.below hE;replace hB5:=hB5.below hE;replace hW:=btr hW hE;refine Yb hf ?_;refine Ye 0 rfl (Vn Xk hB4)<|Ye 1 rfl (Vn Xk hB5)<|Ye 2 rfl (Vn Xk hB5)<|Yo 4 rfl (fun _=>X2 rfl)<|Yo 5 rfl (fun _=>X0s rfl rfl (by omega) (by omega)) ?_;refine Y1 3 ?_;refine Yk rfl trivial (Xm (k:=5) (vs:=[vi 4,vi 2,vi 6,vi 1,vi 7]) (zs:=[vi 4,vi 2,vi 6,vi 1,vi 7]) rfl Xg X19 rfl rfl) (fun _ _ ⟨_,_,_,h,_⟩=>h) ?_;rintro _ w17 ⟨b26,rfl,hl26,hE,hB26⟩;have hlo26:=Nat.le_trans hW.size hl26;replace hB4:=hB4.below hE;replace hB5:=hB5.below hE;replace hW:=btr hW hE;refine Yi (k:=(k-4).toNat) (u:=(turnOf k)) (enc:=encI) (l:=[4,2,6,1,7]) 6 rfl trivial rfl rfl Xg X0h X6 (Rd.of_blk hB26 rfl _ hB26.lt) (Xlp (by omega) (by omega)) (by omega) ?_;intro p29 hat28;refine Ye 7 rfl (X0 rfl X4 hat28) ?_;refine Y1 8 ?_;refine Yk rfl trivial (Vc (Xfe _ (turnOf k)) X6b) (fun _ _ ⟨_,hE⟩=>hE) ?_;rintro _ w18 ⟨rfl,hE⟩;replace hB4:=hB4.below hE;replace hB5:=hB5.below hE;replace hB26:=hB26.below hE;replace hW:=btr hW hE;refine Y1 9 ?_;refine Yk rfl trivial (Xm (k:=4) (vs:=[.agg #[vi ((dPow 0).num.a),vi ((dPow 0).num.b),vi ((dPow 0).num.c),vi ((dPow 0).num.d),vi ((dPow 0).exp)],.agg #[vi 0,vi 0,vi 0,vi 0,vi 0],.agg #[vi 0,vi 0,vi 0,vi 0,vi 0],.agg #[vi ((dPow (turnOf k)).num.a),vi ((dPow (turnOf k)).num.b),vi ((dPow (turnOf k)).num.c),vi ((dPow (turnOf k)).num.d),vi ((dPow (turnOf k)).exp)]]) (zs:=[vi ((dPow 0).num.a),vi ((dPow 0).num.b),vi ((dPow 0).num.c),vi ((dPow 0).num.d),vi ((dPow 0).exp),vi 0,vi 0,vi 0,vi 0,vi 0,vi 0,vi 0,vi 0,vi 0,vi 0,vi ((dPow (turnOf k)).num.a),vi ((dPow (turnOf k)).num.b),vi ((dPow (turnOf k)).num.c),vi ((dPow (turnOf k)).num.d),vi ((dPow (turnOf k)).exp)]) rfl X1f X3b rfl rfl) (fun _ _ ⟨_,_,_,h,_⟩=>h) ?_;rintro _ w19 ⟨b30,rfl,hl30,hE,hB30⟩
 have hne4_30:b4≠b30:=by have:=hB4.lt;omega
 have hne5_30:b5≠b30:=by have:=hB5.lt;omega
 have hlo30:=Nat.le_trans hW.size hl30;replace hB4:=hB4.below hE;replace hB5:=hB5.below hE;replace hB26:=hB26.below hE;replace hW:=btr hW hE;refine Yo 10 rfl (fun _=>X1s rfl) ?_;refine Yd fun a hf=>?_;refine hK25 _ _ ?_
 refine wp_ret (X3 hf (Xq hf rfl rfl) ?_)
 exact ⟨(some ⟨b30,0,none⟩),4,by rw [oneL,if_neg e1,if_neg e2,if_neg e3];rfl,by rw [oneL,if_neg e1,if_neg e2,if_neg e3];exact (Own.of_blkL X1k hB30 hlo30 rfl rfl (by decide)),hW⟩
theorem Xwn(w0:World)(n:Int)(g:Gt)(row:Int)(col:Int)(hg:gOk n g=true) : Ret Tryz.prog 174 [vi n,.agg #[vi g.k,vi g.a,vi g.b],vi row,vi col] w0 (fun v w=>v=dV (cellS n g row col)∧Below w0.heap.size w0 w):=by
 have hg2:=X11 hg;have hb1:=X2p n row g.a;have hb2:=X2p n col g.a;refine enter Tryz.func174 rfl 119 rfl rfl ?_;intro a hf
 have hW:Below w0.heap.size w0 w0:=Below.refl _ _
 refine Zs hf fun _ hK1=>?_;refine Zf (X0p (zs:=[vi g.k,vi g.a,vi g.b]) rfl rfl) ?_;rintro _ w1 ⟨b2,rfl,hl2,hE,hB2⟩;have hlo2:=Nat.le_trans hW.size hl2;replace hW:=btr hW hE;refine Zf (Xa (zs:=[vi 0,vi 0,vi 0,vi 0,vi 0]) X1p rfl) ?_;rintro _ w2 ⟨b3,rfl,hl3,hE,hB3⟩;have hlo3:=Nat.le_trans hW.size hl3;replace hB2:=hB2.below hE;replace hW:=btr hW hE;refine Zt hK1 fun a hf=>?_;refine Zs hf fun _ hK4=>?_;refine Zf (Vc (Xfe _ 0) X6b) ?_;rintro _ w3 ⟨rfl,hE⟩;replace hB2:=hB2.below hE;replace hB3:=hB3.below hE;replace hW:=btr hW hE;refine Ze (Xz (ps:=[]) (cs:=[vi 0,vi 0,vi 0,vi 0,vi 0]) rfl (fun _=>by first|rfl|kernel_rfl)) ?_;refine Zf (Xa (zs:=[vi 0,vi 0,vi 0,vi 0,vi 0]) X1p rfl) ?_;rintro _ w4 ⟨b5,rfl,hl5,hE,hB5⟩
 have hne3_5:b3≠b5:=by have:=hB3.lt;omega
 have hlo5:=Nat.le_trans hW.size hl5;replace hB2:=hB2.below hE;replace hB3:=hB3.below hE;replace hW:=btr hW hE;refine Zf (Xa (zs:=[vi 0,vi 0,vi 0,vi 0,vi 0]) X1p rfl) ?_;rintro _ w5 ⟨b6,rfl,hl6,hE,hB6⟩
 have hne3_6:b3≠b6:=by have:=hB3.lt;omega
 have hne5_6:b5≠b6:=by have:=hB5.lt;omega
 have hlo6:=Nat.le_trans hW.size hl6;replace hB2:=hB2.below hE;replace hB3:=hB3.below hE;replace hB5:=hB5.below hE;replace hW:=btr hW hE;refine Zo (Vw [vi ((dPow 0).num.a),vi ((dPow 0).num.b),vi ((dPow 0).num.c),vi ((dPow 0).num.d),vi ((dPow 0).exp)] Xw hB5) ?_;rintro _ w6 ⟨ho,hb⟩;have hold:=hB5;replace hB2:=hB2.only ho (Blk.ne hB2 hold rfl);replace hB3:=hB3.only ho (by omega);replace hB6:=hB6.only ho (by omega);replace hW:=Below.only hW ho hlo5;clear hold;have hB5:=hb;clear hb ho;refine Zo (Vw [vi 0,vi 0,vi 0,vi 0,vi 0] Xw hB6) ?_;rintro _ w7 ⟨ho,hb⟩;have hold:=hB6;replace hB2:=hB2.only ho (Blk.ne hB2 hold rfl);replace hB3:=hB3.only ho (by omega);replace hB5:=hB5.only ho (by omega);replace hW:=Below.only hW ho hlo6;clear hold;have hB6:=hb;clear hb ho;refine Zt hK4 fun a hf=>?_;refine Zs hf fun _ hK7=>?_;refine Zm rfl<|Za rfl ?_;refine Zt hK7 fun a hf=>?_;refine wp_seq_k fun _ hK8=>?_;refine Zs hf fun _ hK9=>?_;refine Ze (Vd rfl X0i 0)<|Ze (X0 rfl X4 (hB2.at 0)) ?_;refine Zt hK9 fun a hf=>?_;refine wp_block ?_;refine Zs hf fun _ hK10=>?_;refine Ze (X0u rfl rfl)<|Za rfl ?_;refine Zt hK10 fun a hf=>?_
 refine Xe hf rfl (fun hc11=>?_) (fun hc11=>?_)
 ·have hc11b:=hc11;have hk:=eq_of_beq hc11
  have h8:¬ g.k≤8:=by omega
  have hto:toS n g col=col:=by simp [toS,hk]
  have hv:valS n g col=dPow 1:=by simp [valS,hk]
  refine Zr hf ?_;refine Zf (Vc (Xfe _ 1) X6b) ?_;rintro _ w8 ⟨rfl,hE⟩;replace hB2:=hB2.below hE;replace hB3:=hB3.below hE;replace hB5:=hB5.below hE;replace hB6:=hB6.below hE;replace hW:=btr hW hE;refine Zo (Vw [vi ((dPow 1).num.a),vi ((dPow 1).num.b),vi ((dPow 1).num.c),vi ((dPow 1).num.d),vi ((dPow 1).exp)] Xw hB5) ?_;rintro _ w9 ⟨ho,hb⟩;have hold:=hB5;replace hB2:=hB2.only ho (Blk.ne hB2 hold rfl);replace hB3:=hB3.only ho (by omega);replace hB6:=hB6.only ho (by omega);replace hW:=Below.only hW ho hlo5;clear hold;have hB5:=hb;clear hb ho;refine Zn fun a hf=>?_;refine Xd ?_;refine hK8 _ _ ?_;refine wp_seq_k fun _ hK12=>?_;refine Zs hf fun _ hK13=>?_;refine Zm rfl<|Zm rfl<|Ze (X0u rfl rfl) ?_;refine Zt hK13 fun a hf=>?_
  refine Xe hf rfl (fun hc14=>?_) (fun hc14=>?_)
  ·have hc14b:=hc14
   have hfin:cellS n g row col=valS n g col:=by rw [cellS,if_neg h8,if_pos ((eq_of_beq hc14).trans hto.symm)]
   rw [hv] at hfin
   refine Zs hf fun _ hK15=>?_;refine Ze (Vn Xk hB5) ?_;refine Zo (Vw [vi ((dPow 1).num.a),vi ((dPow 1).num.b),vi ((dPow 1).num.c),vi ((dPow 1).num.d),vi ((dPow 1).exp)] Xw hB3) ?_;rintro _ w10 ⟨ho,hb⟩;have hold:=hB3;replace hB5:=hB5.only ho (by omega);replace hB6:=hB6.only ho (by omega);replace hW:=Below.only hW ho hlo3;clear hold;have hB3:=hb;clear hb ho;refine Zt hK15 fun a hf=>?_;refine wp_ret ?_;refine X5 ?_;refine X3 hf (Xq hf rfl (ResV.cellN (l:=[vi ((dPow 1).num.a),vi ((dPow 1).num.b),vi ((dPow 1).num.c),vi ((dPow 1).num.d),vi ((dPow 1).exp)]) rfl Xk (hB3.at 0) rfl)) ?_;exact ⟨(by rw [hfin];try rfl),hW⟩
  have hc14b:=hc14
  have hfin:cellS n g row col=dZ:=by rw [cellS,if_neg h8,if_neg (fun e9=>X17 hc14 (e9.trans hto))]
  refine wp_skip ?_;refine hK12 _ _ ?_;refine Zs hf fun _ hK16=>?_;refine Ze (Vn Xk hB6) ?_;refine Zo (Vw [vi 0,vi 0,vi 0,vi 0,vi 0] Xw hB3) ?_;rintro _ w11 ⟨ho,hb⟩;have hold:=hB3;replace hB5:=hB5.only ho (by omega);replace hB6:=hB6.only ho (by omega);replace hW:=Below.only hW ho hlo3;clear hold;have hB3:=hb;clear hb ho;refine Zt hK16 fun a hf=>?_
  refine wp_ret (X3 hf (Xq hf rfl (ResV.cellN (l:=[vi 0,vi 0,vi 0,vi 0,vi 0]) rfl Xk (hB3.at 0) rfl)) ?_)
  exact ⟨(by rw [hfin];try rfl),hW⟩
 have hc11b:=hc11;have h12:=X17 hc11;refine Zs hf fun _ hK17=>?_;refine Ze (X0u rfl rfl)<|Za rfl ?_;refine Zt hK17 fun a hf=>?_
 refine Xe hf rfl (fun hc18=>?_) (fun hc18=>?_)
 ·have hc18b:=hc18;have hk:=eq_of_beq hc18
  have h8:¬ g.k≤8:=by omega
  have hv:valS n g col=dPow 0:=by simp [valS,hk]
  refine Zs hf fun _ hK19=>?_;refine Zm rfl<|Zm rfl<|Ze (Vd rfl X0r 1)<|Ze (X0 rfl X4 (hB2.at 1)) ?_;refine Zf (Vc (Xfk _ n col g.a (by omega) (by omega) (by omega)) X6c) ?_;rintro _ _ ⟨rfl,rfl⟩;refine Ze (X0u rfl rfl) ?_;refine Zt hK19 fun a hf=>?_
  refine Xe hf rfl (fun hc20=>?_) (fun hc20=>?_)
  ·have hc20b:=hc20
   have hto:toS n g col=flipF n col g.b:=by rw [toS,if_pos hk,if_pos (eq_of_beq hc20)]
   refine Zr hf ?_;refine Zm rfl<|Zm rfl<|Ze (X0s rfl rfl (by omega) (by omega))<|Ze (Vd rfl X10 2)<|Ze (X0 rfl X4 (hB2.at 2)) ?_;refine Ze (X0s rfl rfl (by omega) (by omega))<|Ze (Xif (m:=(n-1-g.b).toNat) Tryz.underlying3 Tryz.underlying165 rfl (by omega) (by omega))<|Ze (Xji (m:=(n-1-g.b).toNat) rfl rfl rfl (by omega))<|Ze (Xl6 rfl rfl)<|Za rfl ?_;refine Zn fun a hf=>?_;refine Xd ?_;refine hK8 _ _ ?_;refine wp_seq_k fun _ hK21=>?_;refine Zs hf fun _ hK22=>?_;refine Zm rfl<|Zm rfl<|Ze (X0u rfl rfl) ?_;refine Zt hK22 fun a hf=>?_
   refine Xe hf rfl (fun hc23=>?_) (fun hc23=>?_)
   ·have hc23b:=hc23
    have hfin:cellS n g row col=valS n g col:=by rw [cellS,if_neg h8,if_pos ((eq_of_beq hc23).trans hto.symm)]
    rw [hv] at hfin
    refine Zs hf fun _ hK24=>?_;refine Ze (Vn Xk hB5) ?_;refine Zo (Vw [vi ((dPow 0).num.a),vi ((dPow 0).num.b),vi ((dPow 0).num.c),vi ((dPow 0).num.d),vi ((dPow 0).exp)] Xw hB3) ?_;rintro _ w12 ⟨ho,hb⟩;have hold:=hB3;replace hB5:=hB5.only ho (by omega);replace hB6:=hB6.only ho (by omega);replace hW:=Below.only hW ho hlo3;clear hold;have hB3:=hb;clear hb ho;refine Zt hK24 fun a hf=>?_;refine wp_ret ?_;refine X5 ?_;refine X3 hf (Xq hf rfl (ResV.cellN (l:=[vi ((dPow 0).num.a),vi ((dPow 0).num.b),vi ((dPow 0).num.c),vi ((dPow 0).num.d),vi ((dPow 0).exp)]) rfl Xk (hB3.at 0) rfl)) ?_;exact ⟨(by rw [hfin];try rfl),hW⟩
   have hc23b:=hc23
   have hfin:cellS n g row col=dZ:=by rw [cellS,if_neg h8,if_neg (fun e9=>X17 hc23 (e9.trans hto))]
   refine wp_skip ?_;refine hK21 _ _ ?_;refine Zs hf fun _ hK25=>?_;refine Ze (Vn Xk hB6) ?_;refine Zo (Vw [vi 0,vi 0,vi 0,vi 0,vi 0] Xw hB3) ?_;rintro _ w13 ⟨ho,hb⟩;have hold:=hB3;replace hB5:=hB5.only ho (by omega);replace hB6:=hB6.only ho (by omega);replace hW:=Below.only hW ho hlo3;clear hold;have hB3:=hb;clear hb ho;refine Zt hK25 fun a hf=>?_
   refine wp_ret (X3 hf (Xq hf rfl (ResV.cellN (l:=[vi 0,vi 0,vi 0,vi 0,vi 0]) rfl Xk (hB3.at 0) rfl)) ?_)
   exact ⟨(by rw [hfin];try rfl),hW⟩
  have hc20b:=hc20
  have hto:toS n g col=col:=by rw [toS,if_pos hk,if_neg (X17 hc20)]
  refine wp_skip ?_;refine Xd ?_;refine hK8 _ _ ?_;refine wp_seq_k fun _ hK26=>?_;refine Zs hf fun _ hK27=>?_;refine Zm rfl<|Zm rfl<|Ze (X0u rfl rfl) ?_;refine Zt hK27 fun a hf=>?_
  refine Xe hf rfl (fun hc28=>?_) (fun hc28=>?_)
  ·have hc28b:=hc28
   have hfin:cellS n g row col=valS n g col:=by rw [cellS,if_neg h8,if_pos ((eq_of_beq hc28).trans hto.symm)]
   rw [hv] at hfin
   refine Zs hf fun _ hK29=>?_;refine Ze (Vn Xk hB5) ?_;refine Zo (Vw [vi ((dPow 0).num.a),vi ((dPow 0).num.b),vi ((dPow 0).num.c),vi ((dPow 0).num.d),vi ((dPow 0).exp)] Xw hB3) ?_;rintro _ w14 ⟨ho,hb⟩;have hold:=hB3;replace hB5:=hB5.only ho (by omega);replace hB6:=hB6.only ho (by omega);replace hW:=Below.only hW ho hlo3;clear hold;have hB3:=hb;clear hb ho;refine Zt hK29 fun a hf=>?_;refine wp_ret ?_;refine X5 ?_;refine X3 hf (Xq hf rfl (ResV.cellN (l:=[vi ((dPow 0).num.a),vi ((dPow 0).num.b),vi ((dPow 0).num.c),vi ((dPow 0).num.d),vi ((dPow 0).exp)]) rfl Xk (hB3.at 0) rfl)) ?_;exact ⟨(by rw [hfin];try rfl),hW⟩
  have hc28b:=hc28
  have hfin:cellS n g row col=dZ:=by rw [cellS,if_neg h8,if_neg (fun e9=>X17 hc28 (e9.trans hto))]
  refine wp_skip ?_;refine hK26 _ _ ?_;refine Zs hf fun _ hK30=>?_;refine Ze (Vn Xk hB6) ?_;refine Zo (Vw [vi 0,vi 0,vi 0,vi 0,vi 0] Xw hB3) ?_;rintro _ w15 ⟨ho,hb⟩;have hold:=hB3;replace hB5:=hB5.only ho (by omega);replace hB6:=hB6.only ho (by omega);replace hW:=Below.only hW ho hlo3;clear hold;have hB3:=hb;clear hb ho;refine Zt hK30 fun a hf=>?_
  refine wp_ret (X3 hf (Xq hf rfl (ResV.cellN (l:=[vi 0,vi 0,vi 0,vi 0,vi 0]) rfl Xk (hB3.at 0) rfl)) ?_)
  exact ⟨(by rw [hfin];try rfl),hW⟩
 have hc18b:=hc18;have h9:=X17 hc18;refine Zs hf fun _ hK31=>?_;refine Ze (X0u rfl rfl)<|Za rfl ?_;refine Zt hK31 fun a hf=>?_
 refine Xe hf rfl (fun hc32=>?_) (fun hc32=>?_)
 ·have hc32b:=hc32;have hk:=eq_of_beq hc32
  have h8:¬ g.k≤8:=by omega
  have hto:toS n g col=col:=by simp [toS,hk]
  refine wp_seq_k fun _ hK33=>?_;refine X08 (fun a w=>Fr a 119 [(2,vi row),(8,.pointer (some ⟨b3,0,none⟩)),(9,.pointer (some ⟨b5,0,none⟩)),(10,.pointer (some ⟨b6,0,none⟩)),(11,vi col),(82,.bool (((bitF n col g.a)==1)&&((bitF n col g.b)==1)))]∧w7=w) ?_ ?_
  ·refine Zr hf ?_;refine Zm rfl<|Zm rfl<|Ze (Vd rfl X0r 1)<|Ze (X0 rfl X4 (hB2.at 1)) ?_;refine Zf (Vc (Xfk _ n col g.a (by omega) (by omega) (by omega)) X6c) ?_;rintro _ _ ⟨rfl,rfl⟩;refine Ze (X0u rfl rfl)<|Zm rfl ?_
   refine Zg 75 rfl (fun hg34=>?_) (fun hg34=>?_)
   ·refine Zv ⟨_,_,rfl,rfl,hg34⟩ (X2 rfl) ?_;refine Zv ⟨_,_,rfl,rfl,hg34⟩ (X2 rfl) ?_;refine Zv ⟨_,_,rfl,rfl,hg34⟩ (Vd rfl X10 2) ?_;refine Zv ⟨_,_,rfl,rfl,hg34⟩ (X0 rfl X4 (hB2.at 2)) ?_;refine Zk ⟨_,_,rfl,rfl,hg34⟩ (Vc (Xfk _ n col g.b (by omega) (by omega) (by omega)) X6c) ?_;rintro _ _ ⟨rfl,rfl⟩;refine Zv ⟨_,_,rfl,rfl,hg34⟩ (X0u rfl rfl) ?_;refine Ze (Xb rfl hg34 rfl) ?_;refine Zn fun a hf=>?_;exact ⟨hf.sub ⟨rfl,rfl,rfl,rfl,rfl,X1 rfl (by first|rfl|(simp only [hc11b,hc18b,hc32b,hg34,bs];done)|simp [hc11b,hc18b,hc32b,hg34]),trivial⟩,rfl⟩
   refine Zp ⟨_,_,rfl,rfl,hg34⟩ ?_;refine Zp ⟨_,_,rfl,rfl,hg34⟩ ?_;refine Zp ⟨_,_,rfl,rfl,hg34⟩ ?_;refine Zp ⟨_,_,rfl,rfl,hg34⟩ ?_;refine Zp ⟨_,_,rfl,rfl,hg34⟩ ?_;refine Zp ⟨_,_,rfl,rfl,hg34⟩ ?_;refine Ze (X9 rfl hg34 rfl) ?_;refine Zn fun a hf=>?_;exact ⟨hf.sub ⟨rfl,rfl,rfl,rfl,rfl,X1 rfl (by first|rfl|(simp only [hc11b,hc18b,hc32b,hg34,bs];done)|simp [hc11b,hc18b,hc32b,hg34]),trivial⟩,rfl⟩
  rintro a _ ⟨hf,rfl⟩;refine hK33 _ _ ?_
  refine Xe hf rfl (fun hc35=>?_) (fun hc35=>?_)
  ·have hc35b:=hc35
   have hv:valS n g col=dPow 4:=by have h9:bitF n col g.a=1∧bitF n col g.b=1:=(by simpa using hc35);simp [valS,hk,h9]
   refine Zr hf ?_;refine Zf (Vc (Xfe _ 4) X6b) ?_;rintro _ w16 ⟨rfl,hE⟩;replace hB3:=hB3.below hE;replace hB5:=hB5.below hE;replace hB6:=hB6.below hE;replace hW:=btr hW hE;refine Zo (Vw [vi ((dPow 4).num.a),vi ((dPow 4).num.b),vi ((dPow 4).num.c),vi ((dPow 4).num.d),vi ((dPow 4).exp)] Xw hB5) ?_;rintro _ w17 ⟨ho,hb⟩;have hold:=hB5;replace hB3:=hB3.only ho (by omega);replace hB6:=hB6.only ho (by omega);replace hW:=Below.only hW ho hlo5;clear hold;have hB5:=hb;clear hb ho;refine Zn fun a hf=>?_;refine Xd ?_;refine hK8 _ _ ?_;refine wp_seq_k fun _ hK36=>?_;refine Zs hf fun _ hK37=>?_;refine Zm rfl<|Zm rfl<|Ze (X0u rfl rfl) ?_;refine Zt hK37 fun a hf=>?_
   refine Xe hf rfl (fun hc38=>?_) (fun hc38=>?_)
   ·have hc38b:=hc38
    have hfin:cellS n g row col=valS n g col:=by rw [cellS,if_neg h8,if_pos ((eq_of_beq hc38).trans hto.symm)]
    rw [hv] at hfin
    refine Zs hf fun _ hK39=>?_;refine Ze (Vn Xk hB5) ?_;refine Zo (Vw [vi ((dPow 4).num.a),vi ((dPow 4).num.b),vi ((dPow 4).num.c),vi ((dPow 4).num.d),vi ((dPow 4).exp)] Xw hB3) ?_;rintro _ w18 ⟨ho,hb⟩;have hold:=hB3;replace hB5:=hB5.only ho (by omega);replace hB6:=hB6.only ho (by omega);replace hW:=Below.only hW ho hlo3;clear hold;have hB3:=hb;clear hb ho;refine Zt hK39 fun a hf=>?_;refine wp_ret ?_;refine X5 ?_;refine X3 hf (Xq hf rfl (ResV.cellN (l:=[vi ((dPow 4).num.a),vi ((dPow 4).num.b),vi ((dPow 4).num.c),vi ((dPow 4).num.d),vi ((dPow 4).exp)]) rfl Xk (hB3.at 0) rfl)) ?_;exact ⟨(by rw [hfin];try rfl),hW⟩
   have hc38b:=hc38
   have hfin:cellS n g row col=dZ:=by rw [cellS,if_neg h8,if_neg (fun e9=>X17 hc38 (e9.trans hto))]
   refine wp_skip ?_;refine hK36 _ _ ?_;refine Zs hf fun _ hK40=>?_;refine Ze (Vn Xk hB6) ?_;refine Zo (Vw [vi 0,vi 0,vi 0,vi 0,vi 0] Xw hB3) ?_;rintro _ w19 ⟨ho,hb⟩;have hold:=hB3;replace hB5:=hB5.only ho (by omega);replace hB6:=hB6.only ho (by omega);replace hW:=Below.only hW ho hlo3;clear hold;have hB3:=hb;clear hb ho;refine Zt hK40 fun a hf=>?_
   refine wp_ret (X3 hf (Xq hf rfl (ResV.cellN (l:=[vi 0,vi 0,vi 0,vi 0,vi 0]) rfl Xk (hB3.at 0) rfl)) ?_)
   exact ⟨(by rw [hfin];try rfl),hW⟩
  have hc35b:=hc35
  have hv:valS n g col=dPow 0:=by have h9:¬ (bitF n col g.a=1∧bitF n col g.b=1):=(by simpa using hc35);simp only [valS,hk,h9];simp
  refine wp_skip ?_;refine Xd ?_;refine hK8 _ _ ?_;refine wp_seq_k fun _ hK41=>?_;refine Zs hf fun _ hK42=>?_;refine Zm rfl<|Zm rfl<|Ze (X0u rfl rfl) ?_;refine Zt hK42 fun a hf=>?_
  refine Xe hf rfl (fun hc43=>?_) (fun hc43=>?_)
  ·have hc43b:=hc43
   have hfin:cellS n g row col=valS n g col:=by rw [cellS,if_neg h8,if_pos ((eq_of_beq hc43).trans hto.symm)]
   rw [hv] at hfin
   refine Zs hf fun _ hK44=>?_;refine Ze (Vn Xk hB5) ?_;refine Zo (Vw [vi ((dPow 0).num.a),vi ((dPow 0).num.b),vi ((dPow 0).num.c),vi ((dPow 0).num.d),vi ((dPow 0).exp)] Xw hB3) ?_;rintro _ w20 ⟨ho,hb⟩;have hold:=hB3;replace hB5:=hB5.only ho (by omega);replace hB6:=hB6.only ho (by omega);replace hW:=Below.only hW ho hlo3;clear hold;have hB3:=hb;clear hb ho;refine Zt hK44 fun a hf=>?_;refine wp_ret ?_;refine X5 ?_;refine X3 hf (Xq hf rfl (ResV.cellN (l:=[vi ((dPow 0).num.a),vi ((dPow 0).num.b),vi ((dPow 0).num.c),vi ((dPow 0).num.d),vi ((dPow 0).exp)]) rfl Xk (hB3.at 0) rfl)) ?_;exact ⟨(by rw [hfin];try rfl),hW⟩
  have hc43b:=hc43
  have hfin:cellS n g row col=dZ:=by rw [cellS,if_neg h8,if_neg (fun e9=>X17 hc43 (e9.trans hto))]
  refine wp_skip ?_;refine hK41 _ _ ?_;refine Zs hf fun _ hK45=>?_;refine Ze (Vn Xk hB6) ?_;refine Zo (Vw [vi 0,vi 0,vi 0,vi 0,vi 0] Xw hB3) ?_;rintro _ w21 ⟨ho,hb⟩;have hold:=hB3;replace hB5:=hB5.only ho (by omega);replace hB6:=hB6.only ho (by omega);replace hW:=Below.only hW ho hlo3;clear hold;have hB3:=hb;clear hb ho;refine Zt hK45 fun a hf=>?_
  refine wp_ret (X3 hf (Xq hf rfl (ResV.cellN (l:=[vi 0,vi 0,vi 0,vi 0,vi 0]) rfl Xk (hB3.at 0) rfl)) ?_)
  exact ⟨(by rw [hfin];try rfl),hW⟩
 have hc32b:=hc32;have h10:=X17 hc32;refine Zs hf fun _ hK46=>?_;refine Ze (X0u rfl rfl)<|Za rfl ?_;refine Zt hK46 fun a hf=>?_
 refine Xe hf rfl (fun hc47=>?_) (fun hc47=>?_)
 ·have hc47b:=hc47;have hk:=eq_of_beq hc47
  have h8:¬ g.k≤8:=by omega
  have hv:valS n g col=dPow 0:=by simp [valS,hk]
  refine wp_seq_k fun _ hK48=>?_;refine X05 none (fun _=>false) mixed ?_;intro w22 hE;replace hB2:=hB2.below hE;replace hB3:=hB3.below hE;replace hB5:=hB5.below hE;replace hB6:=hB6.below hE;replace hW:=btr hW hE;refine Yb hf ?_;refine Yo 0 rfl (fun _=>X2 rfl)<|Yo 1 rfl (fun _=>X2 rfl)<|Yo 2 rfl (fun _=>Vd rfl X0r 1)<|Ye 3 rfl (X0 rfl X4 (hB2.at 1))<|Yo 5 rfl (fun _=>X2 rfl) ?_;refine Yo 6 rfl (fun _=>X2 rfl)<|Yo 7 rfl (fun _=>Vd rfl X10 2)<|Ye 8 rfl (X0 rfl X4 (hB2.at 2)) ?_;refine Y1 4 ?_;refine Yz rfl trivial (Vc (Xfk _ n col g.a (by omega) (by omega) (by omega)) X6c) ?_;refine Y1 9 ?_;refine Yz rfl trivial (Vc (Xfk _ n col g.b (by omega) (by omega) (by omega)) X6c) ?_;refine Yo 10 rfl (fun _=>X29 rfl rfl) ?_;refine Yd fun a hf=>?_;refine hK48 _ _ ?_
  refine Xe hf rfl (fun hc49=>?_) (fun hc49=>?_)
  ·have hc49b:=hc49
   have hto:toS n g col=flipF n (flipF n col g.a) g.b:=by have h9:bitF n col g.a≠bitF n col g.b:=(by simpa using hc49);simp [toS,hk,h9]
   refine Zr hf ?_;refine Zm rfl<|Zm rfl<|Ze (X0s rfl rfl (by omega) (by omega))<|Ze (Vd rfl X0r 1)<|Ze (X0 rfl X4 (hB2.at 1)) ?_;refine Ze (X0s rfl rfl (by omega) (by omega))<|Ze (Xif (m:=(n-1-g.a).toNat) Tryz.underlying3 Tryz.underlying165 rfl (by omega) (by omega))<|Ze (Xji (m:=(n-1-g.a).toNat) rfl rfl rfl (by omega))<|Ze (Xl6 rfl rfl)<|Zm rfl ?_;refine Ze (X0s rfl rfl (by omega) (by omega))<|Ze (Vd rfl X10 2)<|Ze (X0 rfl X4 (hB2.at 2))<|Ze (X0s rfl rfl (by omega) (by omega))<|Ze (Xif (m:=(n-1-g.b).toNat) Tryz.underlying3 Tryz.underlying165 rfl (by omega) (by omega)) ?_;refine Ze (Xji (m:=(n-1-g.b).toNat) rfl rfl rfl (by omega))<|Ze (Xl6 rfl rfl)<|Za rfl ?_;refine Zn fun a hf=>?_;refine Xd ?_;refine hK8 _ _ ?_;refine wp_seq_k fun _ hK50=>?_;refine Zs hf fun _ hK51=>?_;refine Zm rfl<|Zm rfl<|Ze (X0u rfl rfl) ?_;refine Zt hK51 fun a hf=>?_
   refine Xe hf rfl (fun hc52=>?_) (fun hc52=>?_)
   ·have hc52b:=hc52
    have hfin:cellS n g row col=valS n g col:=by rw [cellS,if_neg h8,if_pos ((eq_of_beq hc52).trans hto.symm)]
    rw [hv] at hfin
    refine Zs hf fun _ hK53=>?_;refine Ze (Vn Xk hB5) ?_;refine Zo (Vw [vi ((dPow 0).num.a),vi ((dPow 0).num.b),vi ((dPow 0).num.c),vi ((dPow 0).num.d),vi ((dPow 0).exp)] Xw hB3) ?_;rintro _ w23 ⟨ho,hb⟩;have hold:=hB3;replace hB5:=hB5.only ho (by omega);replace hB6:=hB6.only ho (by omega);replace hW:=Below.only hW ho hlo3;clear hold;have hB3:=hb;clear hb ho;refine Zt hK53 fun a hf=>?_;refine wp_ret ?_;refine X5 ?_;refine X3 hf (Xq hf rfl (ResV.cellN (l:=[vi ((dPow 0).num.a),vi ((dPow 0).num.b),vi ((dPow 0).num.c),vi ((dPow 0).num.d),vi ((dPow 0).exp)]) rfl Xk (hB3.at 0) rfl)) ?_;exact ⟨(by rw [hfin];try rfl),hW⟩
   have hc52b:=hc52
   have hfin:cellS n g row col=dZ:=by rw [cellS,if_neg h8,if_neg (fun e9=>X17 hc52 (e9.trans hto))]
   refine wp_skip ?_;refine hK50 _ _ ?_;refine Zs hf fun _ hK54=>?_;refine Ze (Vn Xk hB6) ?_;refine Zo (Vw [vi 0,vi 0,vi 0,vi 0,vi 0] Xw hB3) ?_;rintro _ w24 ⟨ho,hb⟩;have hold:=hB3;replace hB5:=hB5.only ho (by omega);replace hB6:=hB6.only ho (by omega);replace hW:=Below.only hW ho hlo3;clear hold;have hB3:=hb;clear hb ho;refine Zt hK54 fun a hf=>?_
   refine wp_ret (X3 hf (Xq hf rfl (ResV.cellN (l:=[vi 0,vi 0,vi 0,vi 0,vi 0]) rfl Xk (hB3.at 0) rfl)) ?_)
   exact ⟨(by rw [hfin];try rfl),hW⟩
  have hc49b:=hc49
  have hto:toS n g col=col:=by have h9:bitF n col g.a=bitF n col g.b:=(by simpa using hc49);simp [toS,hk,h9]
  refine wp_skip ?_;refine Xd ?_;refine hK8 _ _ ?_;refine wp_seq_k fun _ hK55=>?_;refine Zs hf fun _ hK56=>?_;refine Zm rfl<|Zm rfl<|Ze (X0u rfl rfl) ?_;refine Zt hK56 fun a hf=>?_
  refine Xe hf rfl (fun hc57=>?_) (fun hc57=>?_)
  ·have hc57b:=hc57
   have hfin:cellS n g row col=valS n g col:=by rw [cellS,if_neg h8,if_pos ((eq_of_beq hc57).trans hto.symm)]
   rw [hv] at hfin
   refine Zs hf fun _ hK58=>?_;refine Ze (Vn Xk hB5) ?_;refine Zo (Vw [vi ((dPow 0).num.a),vi ((dPow 0).num.b),vi ((dPow 0).num.c),vi ((dPow 0).num.d),vi ((dPow 0).exp)] Xw hB3) ?_;rintro _ w25 ⟨ho,hb⟩;have hold:=hB3;replace hB5:=hB5.only ho (by omega);replace hB6:=hB6.only ho (by omega);replace hW:=Below.only hW ho hlo3;clear hold;have hB3:=hb;clear hb ho;refine Zt hK58 fun a hf=>?_;refine wp_ret ?_;refine X5 ?_;refine X3 hf (Xq hf rfl (ResV.cellN (l:=[vi ((dPow 0).num.a),vi ((dPow 0).num.b),vi ((dPow 0).num.c),vi ((dPow 0).num.d),vi ((dPow 0).exp)]) rfl Xk (hB3.at 0) rfl)) ?_;exact ⟨(by rw [hfin];try rfl),hW⟩
  have hc57b:=hc57
  have hfin:cellS n g row col=dZ:=by rw [cellS,if_neg h8,if_neg (fun e9=>X17 hc57 (e9.trans hto))]
  refine wp_skip ?_;refine hK55 _ _ ?_;refine Zs hf fun _ hK59=>?_;refine Ze (Vn Xk hB6) ?_;refine Zo (Vw [vi 0,vi 0,vi 0,vi 0,vi 0] Xw hB3) ?_;rintro _ w26 ⟨ho,hb⟩;have hold:=hB3;replace hB5:=hB5.only ho (by omega);replace hB6:=hB6.only ho (by omega);replace hW:=Below.only hW ho hlo3;clear hold;have hB3:=hb;clear hb ho;refine Zt hK59 fun a hf=>?_
  refine wp_ret (X3 hf (Xq hf rfl (ResV.cellN (l:=[vi 0,vi 0,vi 0,vi 0,vi 0]) rfl Xk (hB3.at 0) rfl)) ?_)
  exact ⟨(by rw [hfin];try rfl),hW⟩
 have hc47b:=hc47;have h11:=X17 hc47
 have h8:g.k≤8:=by omega
 refine wp_seq_k fun _ hK60=>?_;refine Zs hf fun _ hK61=>?_;refine Zm rfl<|Zm rfl<|Ze (Xl6 rfl rfl)<|Zm rfl<|Ze (X0s rfl rfl (by omega) (by omega)) ?_;refine Ze (Vd rfl X0r 1)<|Ze (X0 rfl X4 (hB2.at 1))<|Ze (X0s rfl rfl (by omega) (by omega))<|Ze (Xif (m:=(n-1-g.a).toNat) Tryz.underlying3 Tryz.underlying165 rfl (by omega) (by omega))<|Ze (Xji (m:=(n-1-g.a).toNat) rfl rfl rfl (by omega)) ?_;refine Ze (Xnr rfl rfl)<|Ze (X29 rfl rfl) ?_;refine Zt hK61 fun a hf=>?_
 refine Xe hf rfl (fun hc62=>?_) (fun hc62=>?_)
 ·have hc62b:=hc62
  have hfin:cellS n g row col=dZ:=by rw [cellS,if_pos h8,if_pos (by simpa using hc62)]
  refine Zs hf fun _ hK63=>?_;refine Ze (Vn Xk hB6) ?_;refine Zo (Vw [vi 0,vi 0,vi 0,vi 0,vi 0] Xw hB3) ?_;rintro _ w27 ⟨ho,hb⟩;have hold:=hB3;replace hB2:=hB2.only ho (Blk.ne hB2 hold rfl);replace hB6:=hB6.only ho (by omega);replace hW:=Below.only hW ho hlo3;clear hold;have hB3:=hb;clear hb ho;refine Zt hK63 fun a hf=>?_;refine wp_ret ?_;refine X5 ?_;refine Xr ?_;refine X5 ?_;refine X3 hf (Xq hf rfl (ResV.cellN (l:=[vi 0,vi 0,vi 0,vi 0,vi 0]) rfl Xk (hB3.at 0) rfl)) ?_;exact ⟨(by rw [hfin];try rfl),hW⟩
 have hc62b:=hc62
 have hfin:cellS n g row col=(oneL g.k).getD (2*bitF n row g.a+bitF n col g.a).toNat dZ:=by rw [cellS,if_pos h8,if_neg (by simpa using hc62)]
 refine wp_skip ?_;refine hK60 _ _ ?_;refine wp_seq_k fun _ hK64=>?_;refine X05 none (fun j=>[17].contains j) mixed ?_;intro w28 hE;replace hB2:=hB2.below hE;replace hB3:=hB3.below hE;replace hB6:=hB6.below hE;replace hW:=btr hW hE;refine Yb hf ?_;refine Yo 0 rfl (fun _=>Vd rfl X0i 0)<|Ye 1 rfl (X0 rfl X4 (hB2.at 0))<|Yo 3 rfl (fun _=>X2 rfl)<|Yo 4 rfl (fun _=>X2 rfl)<|Yo 5 rfl (fun _=>Vd rfl X0r 1) ?_;refine Ye 6 rfl (X0 rfl X4 (hB2.at 1))<|Yo 9 rfl (fun _=>X2 rfl)<|Yo 10 rfl (fun _=>X2 rfl)<|Yo 11 rfl (fun _=>Vd rfl X0r 1)<|Ye 12 rfl (X0 rfl X4 (hB2.at 1)) ?_;refine Y1 2 ?_;refine Yk rfl trivial (Vc (Xv2 _ g.k (by omega)) Xrz) (fun _ _ ⟨A65,c65,_,ho65,hE⟩=>hE) ?_;rintro _ w29 ⟨A65,c65,rfl,ho65,hE⟩;have haw65_3:=ho65.awayNew hB3.lt;have haw65_6:=ho65.awayNew hB6.lt;replace ho65:=ho65.lower hW.size;replace hB2:=hB2.below hE;replace hB3:=hB3.below hE;replace hB6:=hB6.below hE;replace hW:=btr hW hE;refine Y1 7 ?_;refine Yz rfl trivial (Vc (Xfk _ n row g.a (by omega) (by omega) (by omega)) X6c) ?_;refine Yo 8 rfl (fun _=>Xal rfl rfl (by omega) (by omega)) ?_;refine Y1 13 ?_;refine Yz rfl trivial (Vc (Xfk _ n col g.a (by omega) (by omega) (by omega)) X6c) ?_;refine Yo 14 rfl (fun _=>Xp rfl rfl (by omega) (by omega)) ?_;refine Yi (k:=(2*bitF n row g.a+bitF n col g.a).toNat) (u:=((oneL g.k).getD (2*bitF n row g.a+bitF n col g.a).toNat dZ)) (enc:=encD) (l:=(oneL g.k)) 15 rfl trivial rfl rfl X1f Xw X1k ho65.rd (Xkh (by omega)) (by omega) ?_;intro p67 hat66;refine Ye 16 rfl (X09 (l:=[vi (((oneL g.k).getD (2*bitF n row g.a+bitF n col g.a).toNat dZ).num.a),vi (((oneL g.k).getD (2*bitF n row g.a+bitF n col g.a).toNat dZ).num.b),vi (((oneL g.k).getD (2*bitF n row g.a+bitF n col g.a).toNat dZ).num.c),vi (((oneL g.k).getD (2*bitF n row g.a+bitF n col g.a).toNat dZ).num.d),vi (((oneL g.k).getD (2*bitF n row g.a+bitF n col g.a).toNat dZ).exp)]) rfl Xk hat66 rfl) ?_
 refine Y1 17 ?_;refine Yh rfl trivial rfl (Vw [vi (((oneL g.k).getD (2*bitF n row g.a+bitF n col g.a).toNat dZ).num.a),vi (((oneL g.k).getD (2*bitF n row g.a+bitF n col g.a).toNat dZ).num.b),vi (((oneL g.k).getD (2*bitF n row g.a+bitF n col g.a).toNat dZ).num.c),vi (((oneL g.k).getD (2*bitF n row g.a+bitF n col g.a).toNat dZ).num.d),vi (((oneL g.k).getD (2*bitF n row g.a+bitF n col g.a).toNat dZ).exp)] Xw hB3) ?_;rintro _ w30 ⟨ho,hb⟩;have hold:=hB3;replace hB2:=hB2.only ho (Blk.ne hB2 hold rfl);replace hB6:=hB6.only ho (by omega);replace ho65:=ho65.onlyA ho haw65_3;replace hW:=Below.only hW ho hlo3;clear hold;have hB3:=hb;clear hb ho;refine Yd fun a hf=>?_;refine hK64 _ _ ?_;refine wp_ret ?_;refine Xr ?_;refine X5 ?_;refine X3 hf (Xq hf rfl (ResV.cellN (l:=[vi (((oneL g.k).getD (2*bitF n row g.a+bitF n col g.a).toNat dZ).num.a),vi (((oneL g.k).getD (2*bitF n row g.a+bitF n col g.a).toNat dZ).num.b),vi (((oneL g.k).getD (2*bitF n row g.a+bitF n col g.a).toNat dZ).num.c),vi (((oneL g.k).getD (2*bitF n row g.a+bitF n col g.a).toNat dZ).num.d),vi (((oneL g.k).getD (2*bitF n row g.a+bitF n col g.a).toNat dZ).exp)]) rfl Xk (hB3.at 0) rfl)) ?_;exact ⟨(by rw [hfin];try rfl),hW⟩
theorem Xei(w0:World)(n:Int)(g:Gt)(hg:gOk n g=true) : Ret Tryz.prog 125 [vi n,.agg #[vi g.k,vi g.a,vi g.b]] w0 (fun v w=>∃ A c,v=mV A c (gateS n g)∧Own w w0.heap.size 98 5 encD A c (gateS n g).cells∧Below w0.heap.size w0 w):=by
 have hg2:=X11 hg
 obtain ⟨d,hd⟩ : ∃ d:Nat,d=2^n.toNat:=⟨_,rfl⟩
 have hd32:d≤32:=by rw [hd];exact X6m hg2.1.2
 refine enter Tryz.func125 rfl 36 rfl rfl ?_;intro a hf
 have hW:Below w0.heap.size w0 w0:=Below.refl _ _
 refine Zs hf fun _ hK1=>?_;refine Zf (X0p (zs:=[vi g.k,vi g.a,vi g.b]) rfl rfl) ?_;rintro _ w1 ⟨b2,rfl,hl2,hE,hB2⟩;have hlo2:=Nat.le_trans hW.size hl2;replace hW:=btr hW hE;refine Zf (Xa (zs:=[vi 0,vi 0,.slice none 0 0]) X1a rfl) ?_;rintro _ w2 ⟨b4,rfl,hl4,hE,hB4⟩;have hlo4:=Nat.le_trans hW.size hl4;replace hB2:=hB2.below hE;replace hW:=btr hW hE;refine Zt hK1 fun a hf=>?_;refine Zs hf fun _ hK5=>?_;refine Zm rfl<|Ze (Xif (m:=n.toNat) Tryz.underlying3 Tryz.underlying165 rfl (by omega) (by omega))<|Ze (Xgn (m:=n.toNat) (D:=d) rfl rfl rfl ⟨hd,by omega⟩)<|Za rfl ?_;refine Zt hK5 fun a hf=>?_;refine Zs hf fun _ hK6=>?_;refine Zm rfl<|Zm rfl<|Ze (Xz (ps:=[(0,vi (d:Int)),(1,vi (d:Int))]) (cs:=[vi (d:Int),vi (d:Int),.slice none 0 0]) rfl (fun _=>by first|rfl|kernel_rfl)) ?_;refine Zf (Xa (zs:=[vi 0,vi 0,.slice none 0 0]) X1a rfl) ?_;rintro _ w3 ⟨b9,rfl,hl9,hE,hB9⟩
 have hne4_9:b4≠b9:=by have:=hB4.lt;omega
 have hlo9:=Nat.le_trans hW.size hl9;replace hB2:=hB2.below hE;replace hB4:=hB4.below hE;replace hW:=btr hW hE;refine Zo (Vw [vi (d:Int),vi (d:Int),.slice none 0 0] X1j hB9) ?_;rintro _ w4 ⟨ho,hb⟩;have hold:=hB9;replace hB2:=hB2.only ho (Blk.ne hB2 hold rfl);replace hB4:=hB4.only ho (by omega);replace hW:=Below.only hW ho hlo9;clear hold;have hB9:=hb;clear hb ho;refine Zt hK6 fun a hf=>?_;refine wp_seq_k fun _ hK10=>?_;refine Zs hf fun _ hK11=>?_;refine Za rfl ?_;refine Zt hK11 fun a hf=>?_;refine wp_block ?_;refine Xx (σ:=Nat×(List Dy)) (fun (s:Nat×(List Dy)) (a:Act) (w:World)=>match s with|(i,l)=>∃ A12 c12,Fr a 36 [(0,vi n),(3,.pointer (some ⟨b2,0,none⟩)),(4,.pointer (some ⟨b4,0,none⟩)),(5,vi (d:Int)),(6,.pointer (some ⟨b9,0,none⟩)),(7,vi (i:Int))]∧(i≤d)∧(gridL (fun i j=>cellS n g (i:Int) (j:Int)) d (i*d)=l)∧Blk w b2 24 [vi g.k,vi g.a,vi g.b]∧Blk w b4 38 [vi 0,vi 0,.slice none 0 0]∧Blk w b9 38 [vi (d:Int),vi (d:Int),.slice A12 l.length c12]∧Own w w0.heap.size 98 5 encD A12 c12 l∧Below w0.heap.size w0 w) (fun (s:Nat×(List Dy))=>match s with|(i,l)=>d-i) (0,[]) ?_ ?_
 ·exact ⟨none,0,hf.sub ⟨rfl,rfl,rfl,rfl,rfl,rfl,trivial⟩,(Nat.zero_le _),(by rw [Nat.zero_mul];rfl),hB2,hB4,hB9,(Own.nil _ _ _ _ _),hW⟩
 rintro ⟨i,l⟩ a w5 ⟨A12,c12,hf,hiR,hl,hB2,hB4,hB9,ho12,hW⟩;refine wp_seq_k fun _ hK13=>?_;refine Zs hf fun _ hK14=>?_;refine Zm rfl<|Zm rfl<|Ze (X0l rfl rfl) ?_;refine Zt hK14 fun a hf=>?_
 refine Xe hf rfl (fun hc15=>?_) (fun hc15=>?_)
 ·have hc15b:=hc15;have hc15:=of_decide_eq_true hc15
  have hi1:i<d:=by have:=hc15;omega
  have hb1:i*d≤1024:=Nat.le_trans (Nat.mul_le_mul (show i≤32 by omega) hd32) (by decide)
  refine wp_skip ?_;refine hK13 _ _ ?_;refine wp_seq_k fun _ hK16=>?_;refine wp_block ?_;refine Zs hf fun _ hK17=>?_;refine Za rfl ?_;refine Zt hK17 fun a hf=>?_;refine wp_block ?_;refine Xx (σ:=Nat×(List Dy)) (fun (s:Nat×(List Dy)) (a:Act) (w:World)=>match s with|(j,l2)=>∃ A18 c18,Fr a 36 [(0,vi n),(3,.pointer (some ⟨b2,0,none⟩)),(4,.pointer (some ⟨b4,0,none⟩)),(5,vi (d:Int)),(6,.pointer (some ⟨b9,0,none⟩)),(7,vi (i:Int)),(8,vi (j:Int))]∧(j≤d)∧(gridL (fun i j=>cellS n g (i:Int) (j:Int)) d (i*d+j)=l2)∧Blk w b2 24 [vi g.k,vi g.a,vi g.b]∧Blk w b4 38 [vi 0,vi 0,.slice none 0 0]∧Blk w b9 38 [vi (d:Int),vi (d:Int),.slice A18 l2.length c18]∧Own w w0.heap.size 98 5 encD A18 c18 l2∧Below w0.heap.size w0 w) (fun (s:Nat×(List Dy))=>match s with|(j,l2)=>d-j) (0,l) ?_ ?_
  ·exact ⟨A12,c12,hf.sub ⟨rfl,rfl,rfl,rfl,rfl,rfl,rfl,trivial⟩,(Nat.zero_le _),hl,hB2,hB4,hB9,ho12,hW⟩
  rintro ⟨j,l2⟩ a w6 ⟨A18,c18,hf,hjC,hl2,hB2,hB4,hB9,ho18,hW⟩;refine wp_seq_k fun _ hK19=>?_;refine Zs hf fun _ hK20=>?_;refine Zm rfl<|Zm rfl<|Ze (X0l rfl rfl) ?_;refine Zt hK20 fun a hf=>?_
  refine Xe hf rfl (fun hc21=>?_) (fun hc21=>?_)
  ·have hc21b:=hc21;have hc21:=of_decide_eq_true hc21
   have hj1:j<d:=by have:=hc21;omega
   have hlen:l2.length=i*d+j:=by rw [← hl2,X3i]
   refine wp_skip ?_;refine hK19 _ _ ?_;refine wp_seq_k fun _ hK22=>?_;refine wp_block ?_;refine X05 none (fun j=>[8,10].contains j) mixed ?_;intro w7 hE;replace hB2:=hB2.below hE;replace hB4:=hB4.below hE;replace hB9:=hB9.below hE;replace ho18:=ho18.below hE;replace hW:=btr hW hE;refine Yb hf ?_;refine Yo 0 rfl (fun _=>Vd rfl X1e 2)<|Ye 1 rfl (X0 rfl X2s (hB9.at 2))<|Yo 2 rfl (fun _=>X2 rfl)<|Ye 3 rfl (Vn Xt hB2)<|Yo 4 rfl (fun _=>X2 rfl) ?_;refine Yo 5 rfl (fun _=>X2 rfl) ?_;refine Y1 6 ?_;refine Yk rfl trivial (Vc (Xwn _ n g (i:Int) (j:Int) hg) Xql) (fun _ _ ⟨_,hE⟩=>hE) ?_;rintro _ w8 ⟨rfl,hE⟩;replace hB2:=hB2.below hE;replace hB4:=hB4.below hE;replace hB9:=hB9.below hE;replace ho18:=ho18.below hE;replace hW:=btr hW hE;refine Y1 7 ?_;refine Yk rfl trivial (Xm (k:=1) (vs:=[.agg #[vi ((cellS n g (i:Int) (j:Int)).num.a),vi ((cellS n g (i:Int) (j:Int)).num.b),vi ((cellS n g (i:Int) (j:Int)).num.c),vi ((cellS n g (i:Int) (j:Int)).num.d),vi ((cellS n g (i:Int) (j:Int)).exp)]]) (zs:=[vi ((cellS n g (i:Int) (j:Int)).num.a),vi ((cellS n g (i:Int) (j:Int)).num.b),vi ((cellS n g (i:Int) (j:Int)).num.c),vi ((cellS n g (i:Int) (j:Int)).num.d),vi ((cellS n g (i:Int) (j:Int)).exp)]) rfl X1f X3b rfl rfl) (fun _ _ ⟨_,_,_,h,_⟩=>h) ?_;rintro _ w9 ⟨b23,rfl,hl23,hE,hB23⟩;have hlo23:=Nat.le_trans hW.size hl23;have haw18_23:=ho18.away hl23;replace hB2:=hB2.below hE;replace hB4:=hB4.below hE;replace hB9:=hB9.below hE;replace ho18:=ho18.below hE;replace hW:=btr hW hE;refine Y1 8 ?_;refine Yt rfl trivial rfl (X1h (enc:=encD) (l:=(l2)) (l2:=([(cellS n g (i:Int) (j:Int))])) (B0:=w0.heap.size) rfl rfl X1f X3b X1k X9p ho18 (Rd.of_blk hB23 rfl _ hB23.lt) (by simp only [maxLen];simp;omega) (by simp;omega) hW.size) ?_;rintro _ w10 ⟨A25,c25,rfl,ho25,hg,hat⟩
   have hown:Own _ w0.heap.size 98 5 encD _ _ (l2):=ho18
   have haw25_23:=hat _ hB23.lt haw18_23;clear hat;replace hB2:=hB2.appT hown hg rfl;replace hB4:=hB4.appT hown hg rfl;replace hB9:=hB9.appT hown hg rfl;replace hW:=Below.app hW hown hg (Nat.le_refl _) hW.size;clear hown hg;refine Yo 9 rfl (fun _=>Vd rfl X1e 2) ?_;refine Y1 10 ?_;refine Yh rfl trivial rfl (Vu (vs:=[.slice A25 (l2++([(cellS n g (i:Int) (j:Int))])).length c25]) (l':=[vi (d:Int),vi (d:Int),.slice A25 (l2++([(cellS n g (i:Int) (j:Int))])).length c25]) rfl rfl Xff hB9) ?_;rintro _ w11 ⟨ho,hb⟩;have hold:=hB9;replace hB2:=hB2.only ho (Blk.ne hB2 hold rfl);replace hB4:=hB4.only ho (by omega);replace ho25:=ho25.onlyT ho hold rfl;replace hW:=Below.only hW ho hlo9;clear hold;have hB9:=hb;clear hb ho;refine Yd fun a hf=>?_;refine Xd ?_;refine hK22 _ _ ?_;refine Zr hf ?_;refine Zm rfl<|Ze (Xp rfl rfl (by omega) (by omega))<|Za rfl ?_;refine Zn fun a hf=>?_;refine Xc ?_;exact ⟨(j+1,l2++[(cellS n g (i:Int) (j:Int))]),⟨A25,c25,hf.sub ⟨rfl,rfl,rfl,rfl,rfl,rfl,rfl,trivial⟩,(by omega),(by rw [Xf9 hj1,hl2]),hB2,hB4,hB9,ho25,hW⟩,(by first|omega|(dsimp only;omega))⟩
  have hc21b:=hc21;have hc21:=of_decide_eq_false hc21
  have hj1:j=d:=by have:=hc21;omega
  refine wp_exit ?_;refine Xf ?_;refine Xf ?_;refine Xy ?_;refine Xd ?_;refine hK16 _ _ ?_;refine Zr hf ?_;refine Zm rfl<|Ze (Xp rfl rfl (by omega) (by omega))<|Za rfl ?_;refine Zn fun a hf=>?_;refine Xc ?_;exact ⟨(i+1,l2),⟨A18,c18,hf.sub ⟨rfl,rfl,rfl,rfl,rfl,rfl,trivial⟩,(by omega),(by rw [Nat.add_mul,Nat.one_mul,← hl2,hj1]),hB2,hB4,hB9,ho18,hW⟩,(by first|omega|(dsimp only;omega))⟩
 have hc15b:=hc15;have hc15:=of_decide_eq_false hc15
 have hi1:i=d:=by have:=hc15;omega
 refine wp_exit ?_;refine Xf ?_;refine Xf ?_;refine Xy ?_;refine hK10 _ _ ?_;refine Zs hf fun _ hK26=>?_;refine Ze (Vn X13 hB9) ?_;refine Zo (Vw [vi (d:Int),vi (d:Int),.slice A12 l.length c12] X1j hB4) ?_;rintro _ w12 ⟨ho,hb⟩;have hold:=hB4;replace hB2:=hB2.only ho (Blk.ne hB2 hold rfl);replace hB9:=hB9.only ho (by omega);replace ho12:=ho12.onlyT ho hold rfl;replace hW:=Below.only hW ho hlo4;clear hold;have hB4:=hb;clear hb ho;refine Zt hK26 fun a hf=>?_
 refine wp_ret (X3 hf (Xq hf rfl (ResV.cellN (l:=[vi (d:Int),vi (d:Int),.slice A12 l.length c12]) rfl X13 (hB4.at 0) rfl)) ?_)
 have hfin:gateS n g=⟨(d:Int),(d:Int),l⟩:=by rw [gateS,← hl,hi1,hd]
 rw [hfin]
 exact ⟨A12,c12,rfl,ho12,hW⟩
theorem Xvf(w0:World)(n:Int)(g:Gt)(hn:1≤n∧n≤5) : Ret Tryz.prog 54 [vi n,.agg #[vi g.k,vi g.a,vi g.b]] w0 (fun v w=>v=.bool (gOk n g)∧Below w0.heap.size w0 w):=by
 refine enter Tryz.func54 rfl 55 rfl rfl ?_;intro a hf
 have hW:Below w0.heap.size w0 w0:=Below.refl _ _
 refine Zs hf fun _ hK1=>?_;refine Zf (X0p (zs:=[vi g.k,vi g.a,vi g.b]) rfl rfl) ?_;rintro _ w1 ⟨b2,rfl,hl2,hE,hB2⟩;have hlo2:=Nat.le_trans hW.size hl2;replace hW:=btr hW hE;refine Za rfl ?_;refine Zt hK1 fun a hf=>?_;refine wp_seq_k fun _ hK3=>?_;refine wp_block ?_;refine Zs hf fun _ hK4=>?_;refine Ze (Vd rfl X0i 0)<|Ze (X0 rfl X4 (hB2.at 0)) ?_;refine Zf (Vc (F85 _ g.k 1 8) X6v) ?_;rintro _ _ ⟨rfl,rfl⟩;refine Za rfl ?_;refine Zt hK4 fun a hf=>?_
 refine Xe hf rfl (fun hc5=>?_) (fun hc5=>?_)
 ·have hc5b:=hc5;have hf0:=Xv7 hn hc5;refine wp_seq_k fun _ hK6=>?_;refine X08 (fun a w=>Fr a 55 [(4,.bool ((inR g.a 0 (n-1))&&(g.b==0)))]∧w1=w) ?_ ?_
  ·refine Zr hf ?_;refine Ze (Vd rfl X0r 1)<|Ze (X0 rfl X4 (hB2.at 1))<|Zm rfl<|Ze (X0s rfl rfl (by omega) (by omega)) ?_;refine Zf (Vc (F85 _ g.a 0 (n-1)) X6v) ?_;rintro _ _ ⟨rfl,rfl⟩;refine Zm rfl ?_
   refine Zg 14 rfl (fun hg7=>?_) (fun hg7=>?_)
   ·refine Zv ⟨_,_,rfl,rfl,hg7⟩ (Vd rfl X10 2) ?_;refine Zv ⟨_,_,rfl,rfl,hg7⟩ (X0 rfl X4 (hB2.at 2)) ?_;refine Zv ⟨_,_,rfl,rfl,hg7⟩ (X0u rfl rfl) ?_;refine Ze (Xb rfl hg7 rfl)<|Za rfl ?_;refine Zn fun a hf=>?_;exact ⟨hf.sub ⟨X1 rfl (by first|rfl|(simp only [hc5b,hg7,bs];done)|simp [hc5b,hg7]),trivial⟩,rfl⟩
   refine Zp ⟨_,_,rfl,rfl,hg7⟩ ?_;refine Zp ⟨_,_,rfl,rfl,hg7⟩ ?_;refine Zp ⟨_,_,rfl,rfl,hg7⟩ ?_;refine Ze (X9 rfl hg7 rfl)<|Za rfl ?_;refine Zn fun a hf=>?_;exact ⟨hf.sub ⟨X1 rfl (by first|rfl|(simp only [hc5b,hg7,bs];done)|simp [hc5b,hg7]),trivial⟩,rfl⟩
  rintro a _ ⟨hf,rfl⟩;refine hK6 _ _ ?_;refine wp_ret ?_;refine Xr ?_;refine X5 ?_;refine X3 hf (Xq hf rfl rfl) ?_;exact ⟨by rw [hf0],hW⟩
 have hc5b:=hc5;have h18:=hc5;refine Zs hf fun _ hK8=>?_;refine Ze (Vd rfl X0i 0)<|Ze (X0 rfl X4 (hB2.at 0)) ?_;refine Zf (Vc (F85 _ g.k 9 11) X6v) ?_;rintro _ _ ⟨rfl,rfl⟩;refine Za rfl ?_;refine Zt hK8 fun a hf=>?_
 refine Xe hf rfl (fun hc9=>?_) (fun hc9=>?_)
 ·have hc9b:=hc9;have hf0:=Xwf hn hc9;refine wp_seq_k fun _ hK10=>?_;refine X08 (fun a w=>Fr a 55 [(4,.bool (((inR g.a 0 (n-1))&&(inR g.b 0 (n-1)))&&(g.a != g.b)))]∧w1=w) ?_ ?_
  ·refine Zr hf ?_;refine Ze (Vd rfl X0r 1)<|Ze (X0 rfl X4 (hB2.at 1))<|Zm rfl<|Ze (X0s rfl rfl (by omega) (by omega)) ?_;refine Zf (Vc (F85 _ g.a 0 (n-1)) X6v) ?_;rintro _ _ ⟨rfl,rfl⟩;refine Zm rfl ?_
   refine Zg 28 rfl (fun hg11=>?_) (fun hg11=>?_)
   ·refine Zv ⟨_,_,rfl,rfl,hg11⟩ (Vd rfl X10 2) ?_;refine Zv ⟨_,_,rfl,rfl,hg11⟩ (X0 rfl X4 (hB2.at 2)) ?_;refine Zv ⟨_,_,rfl,rfl,hg11⟩ (X2 rfl) ?_;refine Zv ⟨_,_,rfl,rfl,hg11⟩ (X0s rfl rfl (by omega) (by omega)) ?_;refine Zk ⟨_,_,rfl,rfl,hg11⟩ (Vc (F85 _ g.b 0 (n-1)) X6v) ?_;rintro _ _ ⟨rfl,rfl⟩;refine Ze (Xb rfl hg11 rfl)<|Zm rfl ?_
    refine Zg 35 rfl (fun hg12=>?_) (fun hg12=>?_)
    ·refine Zv ⟨_,_,rfl,rfl,hg12⟩ (Vd rfl X0r 1) ?_;refine Zv ⟨_,_,rfl,rfl,hg12⟩ (X0 rfl X4 (hB2.at 1)) ?_;refine Zv ⟨_,_,rfl,rfl,hg12⟩ (Vd rfl X10 2) ?_;refine Zv ⟨_,_,rfl,rfl,hg12⟩ (X0 rfl X4 (hB2.at 2)) ?_;refine Zv ⟨_,_,rfl,rfl,hg12⟩ (X29 rfl rfl) ?_;refine Ze (Xb rfl hg12 rfl)<|Za rfl ?_;refine Zn fun a hf=>?_;exact ⟨hf.sub ⟨X1 rfl (by first|rfl|(simp only [hc5b,hc9b,hg11,hg12,bs];done)|simp [hc5b,hc9b,hg11,hg12]),trivial⟩,rfl⟩
    refine Zp ⟨_,_,rfl,rfl,hg12⟩ ?_;refine Zp ⟨_,_,rfl,rfl,hg12⟩ ?_;refine Zp ⟨_,_,rfl,rfl,hg12⟩ ?_;refine Zp ⟨_,_,rfl,rfl,hg12⟩ ?_;refine Zp ⟨_,_,rfl,rfl,hg12⟩ ?_;refine Ze (X9 rfl hg12 rfl)<|Za rfl ?_;refine Zn fun a hf=>?_;exact ⟨hf.sub ⟨X1 rfl (by first|rfl|(simp only [hc5b,hc9b,hg11,hg12,bs];done)|simp [hc5b,hc9b,hg11,hg12]),trivial⟩,rfl⟩
   refine Zp ⟨_,_,rfl,rfl,hg11⟩ ?_;refine Zp ⟨_,_,rfl,rfl,hg11⟩ ?_;refine Zp ⟨_,_,rfl,rfl,hg11⟩ ?_;refine Zp ⟨_,_,rfl,rfl,hg11⟩ ?_;refine Zp ⟨_,_,rfl,rfl,hg11⟩ ?_;refine Ze (X9 rfl hg11 rfl)<|Zm rfl<|Zp ⟨_,_,rfl,rfl,rfl⟩ ?_;refine Zp ⟨_,_,rfl,rfl,rfl⟩ ?_;refine Zp ⟨_,_,rfl,rfl,rfl⟩ ?_;refine Zp ⟨_,_,rfl,rfl,rfl⟩ ?_;refine Zp ⟨_,_,rfl,rfl,rfl⟩ ?_;refine Ze (X9 rfl rfl rfl)<|Za rfl ?_;refine Zn fun a hf=>?_;exact ⟨hf.sub ⟨X1 rfl (by first|rfl|(simp only [hc5b,hc9b,hg11,bs];done)|simp [hc5b,hc9b,hg11]),trivial⟩,rfl⟩
  rintro a _ ⟨hf,rfl⟩;refine hK10 _ _ ?_;refine wp_ret ?_;refine Xr ?_;refine X5 ?_;refine X3 hf (Xq hf rfl rfl) ?_;exact ⟨by rw [hf0],hW⟩
 have hc9b:=hc9;have hf0:=Xvb hn h18 hc9;refine wp_skip ?_;refine Xd ?_;refine hK3 _ _ ?_;refine wp_seq_k fun _ hK13=>?_;refine X08 (fun a w=>Fr a 55 [(4,.bool (((g.k==12)&&(g.a==0))&&(g.b==0)))]∧w1=w) ?_ ?_
 ·refine Zr hf ?_;refine Ze (Vd rfl X0i 0)<|Ze (X0 rfl X4 (hB2.at 0))<|Ze (X0u rfl rfl)<|Zm rfl ?_
  refine Zg 45 rfl (fun hg14=>?_) (fun hg14=>?_)
  ·refine Zv ⟨_,_,rfl,rfl,hg14⟩ (Vd rfl X0r 1) ?_;refine Zv ⟨_,_,rfl,rfl,hg14⟩ (X0 rfl X4 (hB2.at 1)) ?_;refine Zv ⟨_,_,rfl,rfl,hg14⟩ (X0u rfl rfl) ?_;refine Ze (Xb rfl hg14 rfl)<|Zm rfl ?_
   refine Zg 50 rfl (fun hg15=>?_) (fun hg15=>?_)
   ·refine Zv ⟨_,_,rfl,rfl,hg15⟩ (Vd rfl X10 2) ?_;refine Zv ⟨_,_,rfl,rfl,hg15⟩ (X0 rfl X4 (hB2.at 2)) ?_;refine Zv ⟨_,_,rfl,rfl,hg15⟩ (X0u rfl rfl) ?_;refine Ze (Xb rfl hg15 rfl)<|Za rfl ?_;refine Zn fun a hf=>?_;exact ⟨hf.sub ⟨X1 rfl (by first|rfl|(simp only [hc5b,hc9b,hg14,hg15,bs];done)|simp [hc5b,hc9b,hg14,hg15]),trivial⟩,rfl⟩
   refine Zp ⟨_,_,rfl,rfl,hg15⟩ ?_;refine Zp ⟨_,_,rfl,rfl,hg15⟩ ?_;refine Zp ⟨_,_,rfl,rfl,hg15⟩ ?_;refine Ze (X9 rfl hg15 rfl)<|Za rfl ?_;refine Zn fun a hf=>?_;exact ⟨hf.sub ⟨X1 rfl (by first|rfl|(simp only [hc5b,hc9b,hg14,hg15,bs];done)|simp [hc5b,hc9b,hg14,hg15]),trivial⟩,rfl⟩
  refine Zp ⟨_,_,rfl,rfl,hg14⟩ ?_;refine Zp ⟨_,_,rfl,rfl,hg14⟩ ?_;refine Zp ⟨_,_,rfl,rfl,hg14⟩ ?_;refine Ze (X9 rfl hg14 rfl)<|Zm rfl<|Zp ⟨_,_,rfl,rfl,rfl⟩ ?_;refine Zp ⟨_,_,rfl,rfl,rfl⟩ ?_;refine Zp ⟨_,_,rfl,rfl,rfl⟩ ?_;refine Ze (X9 rfl rfl rfl)<|Za rfl ?_;refine Zn fun a hf=>?_;exact ⟨hf.sub ⟨X1 rfl (by first|rfl|(simp only [hc5b,hc9b,hg14,bs];done)|simp [hc5b,hc9b,hg14]),trivial⟩,rfl⟩
 rintro a _ ⟨hf,rfl⟩;refine hK13 _ _ ?_
 refine wp_ret (X3 hf (Xq hf rfl rfl) ?_)
 exact ⟨by rw [hf0],hW⟩
theorem F53(w0:World)(c:Cx)(Ac:Option Addr)(cc:Nat)(hr_c:Rd w0 w0.heap.size 24 encG Ac c.gs) : Ret Tryz.prog 61 [.agg #[vi c.n,.slice Ac c.gs.length cc]] w0 (fun v w=>v=.bool (cOk c)∧Below w0.heap.size w0 w):=by
 refine enter Tryz.func61 rfl 28 rfl rfl ?_;intro a hf
 have hW:Below w0.heap.size w0 w0:=Below.refl _ _
 refine Zs hf fun _ hK2=>?_;refine Zf (X0p (zs:=[vi c.n,.slice Ac c.gs.length cc]) rfl rfl) ?_;rintro _ w1 ⟨b3,rfl,hl3,hE,hB3⟩;have hlo3:=Nat.le_trans hW.size hl3;replace hW:=btr hW hE;refine Za rfl ?_;refine Zt hK2 fun a hf=>?_;refine wp_seq_k fun _ hK4=>?_;refine wp_seq_k fun _ hK5=>?_;refine X08 (fun a w=>Fr a 28 [(1,.pointer (some ⟨b3,0,none⟩)),(14,.bool ((!(inR c.n 1 5))||(decide (400<(c.gs.length:Int)))))]∧w1=w) ?_ ?_
 ·refine Zr hf ?_;refine Ze (Vd rfl X3h 0)<|Ze (X0 rfl X4 (hB3.at 0)) ?_;refine Zf (Vc (F85 _ c.n 1 5) X6v) ?_;rintro _ _ ⟨rfl,rfl⟩;refine Ze (X16 rfl)<|Zm rfl ?_
  refine Zg 9 rfl (fun hg6=>?_) (fun hg6=>?_)
  ·refine Zp ⟨_,_,rfl,rfl,hg6⟩ ?_;refine Zp ⟨_,_,rfl,rfl,hg6⟩ ?_;refine Zp ⟨_,_,rfl,rfl,hg6⟩ ?_;refine Zp ⟨_,_,rfl,rfl,hg6⟩ ?_;refine Ze (Xb rfl hg6 rfl) ?_;refine Zn fun a hf=>?_;exact ⟨hf.sub ⟨rfl,X1 rfl (by first|rfl|(simp only [hg6,bs];done)|simp [hg6]),trivial⟩,rfl⟩
  refine Zv ⟨_,_,rfl,rfl,hg6⟩ (Vd rfl X0k 1) ?_;refine Zv ⟨_,_,rfl,rfl,hg6⟩ (X0 rfl X14 (hB3.at 1)) ?_;refine Zv ⟨_,_,rfl,rfl,hg6⟩ (X0y rfl X0c) ?_;refine Zv ⟨_,_,rfl,rfl,hg6⟩ (X3e rfl rfl) ?_;refine Ze (X9 rfl hg6 rfl) ?_;refine Zn fun a hf=>?_;exact ⟨hf.sub ⟨rfl,X1 rfl (by first|rfl|(simp only [hg6,bs];done)|simp [hg6]),trivial⟩,rfl⟩
 rintro a _ ⟨hf,rfl⟩;refine hK5 _ _ ?_
 refine Xe hf rfl (fun hc7=>?_) (fun hc7=>?_)
 ·have hc7b:=hc7
  have hn:(inR c.n 1 5&&decide ((c.gs.length:Int)≤400))=false:=by revert hc7;cases inR c.n 1 5<;>simp
  refine Zs hf fun _ hK8=>?_;refine Za rfl ?_;refine Zt hK8 fun a hf=>?_;refine wp_ret ?_;refine X5 ?_;refine X3 hf (Xq hf rfl rfl) ?_;exact ⟨by rw [cOk,hn];rfl,hW⟩
 have hc7b:=hc7
 have hy:(inR c.n 1 5&&decide ((c.gs.length:Int)≤400))=true:=by revert hc7;cases inR c.n 1 5<;>simp
 have hy2:=(Bool.and_eq_true _ _▸hy:inR c.n 1 5=true∧decide ((c.gs.length:Int)≤400)=true);have hn:=Xo.1 hy2.1;have hlen:=of_decide_eq_true hy2.2;refine wp_skip ?_;refine hK4 _ _ ?_;refine wp_seq_k fun _ hK9=>?_;refine Zs hf fun _ hK10=>?_;refine Ze (Vd rfl X0k 1)<|Ze (X0 rfl X14 (hB3.at 1))<|Ze (X0y rfl X0c)<|Zm rfl ?_;refine Zt hK10 fun a hf=>?_;refine wp_block ?_;refine Xx (σ:=Nat) (fun (k:Nat) (a:Act) (w:World)=>Fr a 28 [(1,.pointer (some ⟨b3,0,none⟩)),(16,.slice Ac c.gs.length cc),(17,vi (c.gs.length:Int)),(18,vi (k:Int))]∧(k≤c.gs.length)∧((c.gs.take k).all (fun x=>gOk c.n x)=true)∧Blk w b3 31 [vi c.n,.slice Ac c.gs.length cc]∧Below w0.heap.size w0 w) (fun (k:Nat)=>c.gs.length+1-k) 0 ?_ ?_
 ·exact ⟨hf.sub ⟨rfl,rfl,rfl,rfl,trivial⟩,(Nat.zero_le _),(by simp),hB3,hW⟩
 rintro k a w2 ⟨hf,hk,hpre,hB3,hW⟩;refine Zs hf fun _ hK11=>?_;refine Ze (X0l rfl rfl) ?_;refine Zt hK11 fun a hf=>?_;refine wp_seq_k fun _ hK12=>?_
 refine Xe hf rfl (fun hc13=>?_) (fun hc13=>?_)
 ·have hc13b:=hc13;have hc13:=of_decide_eq_true hc13
  obtain ⟨u14,hu14⟩:=Xl (l:=c.gs) (k:=k) (by omega)
  refine wp_skip ?_;refine hK12 _ _ ?_;refine wp_seq_k fun _ hK15=>?_;refine wp_block ?_;refine Zs hf fun _ hK16=>?_;refine Zi (k:=k) (u:=u14) (enc:=encG) (l:=c.gs) trivial rfl rfl X0c X0g X0d (hr_c.below' hW) hu14 rfl ?_;intro p18 hat17;refine Ze (X09 (l:=[vi u14.k,vi u14.a,vi u14.b]) rfl Xt hat17 rfl) ?_;refine Zf (Xa (zs:=[vi 0,vi 0,vi 0]) X32 rfl) ?_;rintro _ w3 ⟨b19,rfl,hl19,hE,hB19⟩;have hlo19:=Nat.le_trans hW.size hl19;have haw1_19:=(hr_c.below' hW).away hl19;replace hB3:=hB3.below hE;replace hW:=btr hW hE;refine Zo (Vw [vi u14.k,vi u14.a,vi u14.b] X0g hB19) ?_;rintro _ w4 ⟨ho,hb⟩;have hold:=hB19;replace hB3:=hB3.only ho (Blk.ne hB3 hold rfl);replace hW:=Below.only hW ho hlo19;clear hold;have hB19:=hb;clear hb ho;refine Zt hK16 fun a hf=>?_;refine Zs hf fun _ hK20=>?_;refine Ze (Vd rfl X3h 0)<|Ze (X0 rfl X4 (hB3.at 0))<|Ze (Vn Xt hB19) ?_;refine Zf (Vc (Xvf _ c.n u14 hn) Xpm) ?_;rintro _ w5 ⟨rfl,hE⟩;replace hB3:=hB3.below hE;replace hB19:=hB19.below hE;replace hW:=btr hW hE;refine Ze (X16 rfl) ?_;refine Zt hK20 fun a hf=>?_
  refine Xe hf rfl (fun hc21=>?_) (fun hc21=>?_)
  ·have hc21b:=hc21
   have hb2:(c.gs.any fun x=>!gOk c.n x)=true:=X3c hu14 hc21
   refine Zs hf fun _ hK22=>?_;refine Za rfl ?_;refine Zt hK22 fun a hf=>?_;refine wp_ret ?_;refine Xr ?_;refine X5 ?_;refine X5 ?_;refine Xr ?_;refine X5 ?_;refine X3 hf (Xq hf rfl rfl) ?_;exact ⟨by rw [cOk,hy,hb2];rfl,hW⟩
  have hc21b:=hc21
  have hok:gOk c.n u14=true:=by revert hc21;cases gOk c.n u14<;>simp
  refine wp_skip ?_;refine Xd ?_;refine hK15 _ _ ?_;refine Zr hf ?_;refine Ze (Xp rfl rfl (by omega) (by omega))<|Zm rfl ?_;refine Zn fun a hf=>?_;refine Xc ?_;exact ⟨k+1,⟨hf.sub ⟨rfl,rfl,rfl,rfl,trivial⟩,(by omega),(X2a hpre hu14 hok),hB3,hW⟩,(by omega)⟩
 have hc13b:=hc13;have hc13:=of_decide_eq_false hc13;refine wp_exit ?_;refine Xf ?_;refine Xf ?_;refine Xy ?_;refine hK9 _ _ ?_;refine Zs hf fun _ hK23=>?_;refine Za rfl ?_;refine Zt hK23 fun a hf=>?_
 refine wp_ret (X3 hf (Xq hf rfl rfl) ?_)
 have hb2:(c.gs.any fun x=>!gOk c.n x)=false:=X2v (by simpa using X24 hpre (by omega))
 exact ⟨by rw [cOk,hy,hb2];rfl,hW⟩
theorem Xwd(w0:World)(n:Int)(g:Gt)(s0:Int)(hg:gOk n g=true)(hk2:9≤g.k∧g.k≤11) : Ret Tryz.prog 71 [vi n,.agg #[vi g.k,vi g.a,vi g.b],vi s0] w0 (fun v w=>v=vi (toS n g s0)∧Below w0.heap.size w0 w):=by
 have hg2:=X11 hg
 have hg3:=hg2.2.2.1 (by omega)
 have hg4:=hg2.2.2.2 hk2;refine enter Tryz.func71 rfl 51 rfl rfl ?_;intro a hf
 have hW:Below w0.heap.size w0 w0:=Below.refl _ _
 refine Zs hf fun _ hK1=>?_;refine Zf (X0p (zs:=[vi g.k,vi g.a,vi g.b]) rfl rfl) ?_;rintro _ w1 ⟨b2,rfl,hl2,hE,hB2⟩;have hlo2:=Nat.le_trans hW.size hl2;replace hW:=btr hW hE;refine Za rfl ?_;refine Zt hK1 fun a hf=>?_;refine wp_seq_k fun _ hK3=>?_;refine X05 none (fun _=>false) mixed ?_;intro w2 hE;replace hB2:=hB2.below hE;replace hW:=btr hW hE;refine Yb hf ?_;refine Yo 0 rfl (fun _=>X2 rfl)<|Yo 1 rfl (fun _=>X2 rfl)<|Yo 2 rfl (fun _=>Vd rfl X0r 1)<|Ye 3 rfl (X0 rfl X4 (hB2.at 1))<|Yo 5 rfl (fun _=>X2 rfl) ?_;refine Yo 6 rfl (fun _=>X2 rfl)<|Yo 7 rfl (fun _=>Vd rfl X10 2)<|Ye 8 rfl (X0 rfl X4 (hB2.at 2)) ?_;refine Y1 4 ?_;refine Yz rfl trivial (Vc (Xij _ n s0 g.a (by omega) (by omega) (by omega)) X7v) ?_;refine Y1 9 ?_;refine Yz rfl trivial (Vc (Xij _ n s0 g.b (by omega) (by omega) (by omega)) X7v) ?_;refine Yo 10 rfl (fun _=>X1s rfl)<|Yo 11 rfl (fun _=>X1s rfl) ?_;refine Yd fun a hf=>?_;refine hK3 _ _ ?_;refine wp_seq_k fun _ hK4=>?_;refine wp_block ?_;refine wp_seq_k fun _ hK5=>?_;refine X08 (fun a w=>Fr a 51 [(0,vi n),(2,vi s0),(4,.pointer (some ⟨b2,0,none⟩)),(7,vi (bitF n s0 g.a)),(8,vi (bitF n s0 g.b)),(19,.bool ((g.k==9)&&((bitF n s0 g.a)==1)))]∧w2=w) ?_ ?_
 ·refine Zr hf ?_;refine Ze (Vd rfl X0i 0)<|Ze (X0 rfl X4 (hB2.at 0))<|Ze (X0u rfl rfl)<|Zm rfl ?_
  refine Zg 23 rfl (fun hg6=>?_) (fun hg6=>?_)
  ·refine Zv ⟨_,_,rfl,rfl,hg6⟩ (X2 rfl) ?_;refine Zv ⟨_,_,rfl,rfl,hg6⟩ (X0u rfl rfl) ?_;refine Ze (Xb rfl hg6 rfl)<|Za rfl ?_;refine Zn fun a hf=>?_;exact ⟨hf.sub ⟨rfl,rfl,rfl,rfl,rfl,X1 rfl (by first|rfl|(simp only [hg6,bs];done)|simp [hg6]),trivial⟩,rfl⟩
  refine Zp ⟨_,_,rfl,rfl,hg6⟩ ?_;refine Zp ⟨_,_,rfl,rfl,hg6⟩ ?_;refine Ze (X9 rfl hg6 rfl)<|Za rfl ?_;refine Zn fun a hf=>?_;exact ⟨hf.sub ⟨rfl,rfl,rfl,rfl,rfl,X1 rfl (by first|rfl|(simp only [hg6,bs];done)|simp [hg6]),trivial⟩,rfl⟩
 rintro a _ ⟨hf,rfl⟩;refine hK5 _ _ ?_
 refine Xe hf rfl (fun hc7=>?_) (fun hc7=>?_)
 ·have hc7b:=hc7
  have h9:g.k=9∧bitF n s0 g.a=1:=by simpa using hc7
  refine Zs hf fun _ hK8=>?_;refine Zm rfl<|Zm rfl<|Ze (Vd rfl X10 2)<|Ze (X0 rfl X4 (hB2.at 2)) ?_;refine Zf (Vc (Xnd _ n s0 g.b (by omega) (by omega) (by omega)) Xbm) ?_;rintro _ _ ⟨rfl,rfl⟩;refine Za rfl ?_;refine Zt hK8 fun a hf=>?_;refine wp_ret ?_;refine Xr ?_;refine X5 ?_;refine X3 hf (Xq hf rfl rfl) ?_;exact ⟨by rw [toS,if_pos h9.1,if_pos h9.2],hW⟩
 have hc7b:=hc7
 have h9:g.k=9→¬ bitF n s0 g.a=1:=by simpa using hc7
 refine wp_seq_k fun _ hK9=>?_;refine X08 (fun a w=>Fr a 51 [(0,vi n),(2,vi s0),(4,.pointer (some ⟨b2,0,none⟩)),(32,.bool ((g.k==11)&&((bitF n s0 g.a) != (bitF n s0 g.b))))]∧w2=w) ?_ ?_
 ·refine Zr hf ?_;refine Ze (Vd rfl X0i 0)<|Ze (X0 rfl X4 (hB2.at 0))<|Ze (X0u rfl rfl)<|Zm rfl ?_
  refine Zg 36 rfl (fun hg10=>?_) (fun hg10=>?_)
  ·refine Zv ⟨_,_,rfl,rfl,hg10⟩ (X2 rfl) ?_;refine Zv ⟨_,_,rfl,rfl,hg10⟩ (X2 rfl) ?_;refine Zv ⟨_,_,rfl,rfl,hg10⟩ (X29 rfl rfl) ?_;refine Ze (Xb rfl hg10 rfl)<|Za rfl ?_;refine Zn fun a hf=>?_;exact ⟨hf.sub ⟨rfl,rfl,rfl,X1 rfl (by first|rfl|(simp only [hc7b,hg10,bs];done)|simp [hc7b,hg10]),trivial⟩,rfl⟩
  refine Zp ⟨_,_,rfl,rfl,hg10⟩ ?_;refine Zp ⟨_,_,rfl,rfl,hg10⟩ ?_;refine Zp ⟨_,_,rfl,rfl,hg10⟩ ?_;refine Ze (X9 rfl hg10 rfl)<|Za rfl ?_;refine Zn fun a hf=>?_;exact ⟨hf.sub ⟨rfl,rfl,rfl,X1 rfl (by first|rfl|(simp only [hc7b,hg10,bs];done)|simp [hc7b,hg10]),trivial⟩,rfl⟩
 rintro a _ ⟨hf,rfl⟩;refine hK9 _ _ ?_
 refine Xe hf rfl (fun hc11=>?_) (fun hc11=>?_)
 ·have hc11b:=hc11
  have h11:g.k=11∧¬ bitF n s0 g.a=bitF n s0 g.b:=by simpa using hc11
  refine wp_seq_k fun _ hK12=>?_;refine X05 none (fun _=>false) mixed ?_;intro w3 hE;replace hB2:=hB2.below hE;replace hW:=btr hW hE;refine Yb hf ?_;refine Yo 0 rfl (fun _=>X2 rfl)<|Yo 1 rfl (fun _=>X2 rfl)<|Yo 2 rfl (fun _=>X2 rfl)<|Yo 3 rfl (fun _=>Vd rfl X0r 1)<|Ye 4 rfl (X0 rfl X4 (hB2.at 1)) ?_;refine Yo 6 rfl (fun _=>Vd rfl X10 2)<|Ye 7 rfl (X0 rfl X4 (hB2.at 2)) ?_;refine Y1 5 ?_;refine Yz rfl trivial (Vc (Xnd _ n s0 g.a (by omega) (by omega) (by omega)) Xbm) ?_;refine Y1 8 ?_;refine Yz rfl trivial (Vc (Xnd _ n (flipF n s0 g.a) g.b (by omega) (by omega) (by omega)) Xbm) ?_;refine Yo 9 rfl (fun _=>X1s rfl) ?_;refine Yd fun a hf=>?_;refine hK12 _ _ ?_;refine wp_ret ?_;refine Xr ?_;refine X5 ?_;refine X3 hf (Xq hf rfl rfl) ?_;exact ⟨by rw [toS,if_neg (by omega),if_pos h11.1,if_pos h11.2],hW⟩
 have hc11b:=hc11
 have h11:g.k=11→bitF n s0 g.a=bitF n s0 g.b:=by simpa using hc11
 refine wp_skip ?_;refine Xd ?_;refine hK4 _ _ ?_;refine Zs hf fun _ hK13=>?_;refine Zm rfl<|Za rfl ?_;refine Zt hK13 fun a hf=>?_
 refine wp_ret (X3 hf (Xq hf rfl rfl) ?_)
 have hfin:toS n g s0=s0:=by unfold toS;split;rw [if_neg (h9 (by assumption))];split;rw [if_neg (by simpa using h11 (by assumption))];rfl
 exact ⟨by rw [hfin],hW⟩
def entI(p:Int×Int×Nat) : MapEntry:={ key:=.int .i64 p.1,val:=.int .i64 p.2.1,born:=p.2.2 }
def MapI(w:World)(b:Nat)(l:List (Int×Int×Nat))(clock:Nat) : Prop:=w.heap[b]? = some (.map (l.map entI).toArray clock)
theorem X7a{k:IntKind}{x:Int} : ∀ (l:List (Int×Int×Nat)) (i:Nat),(l.all fun p=>p.1 != x)=true→Instr.findNow (.int k) (.int .i64 x) (l.map entI) i=some none
 | [],_,_=>rfl
 | p::l,i,h=>by
  simp only [List.all_cons,Bool.and_eq_true,bne_iff_ne] at h
  have h1:(x==p.1)=false:=by simpa using Ne.symm h.1
  simp only [List.map_cons,Instr.findNow,entI,Instr.sameNow,if_true,h1]
  exact X7a l (i+1) h.2
theorem X6u{k:IntKind}{x v:Int} : ∀ (l:List (Int×Int×Nat)) (i:Nat),(l.find? fun p=>p.1==x).map (fun p=>p.2.1)=some v→∃ j,Instr.findNow (.int k) (.int .i64 x) (l.map entI) i=some (some (j,.int .i64 v))
 | [],_,h=>by cases h
 | p::l,i,h=>by
  by_cases hx:p.1=x
  ·refine ⟨i,?_⟩
   have h1:(p.1==x)=true:=by simpa using hx
   simp only [List.find?_cons,h1,Option.map_some,Option.some.injEq] at h
   have h2:(x==p.1)=true:=by simpa using hx.symm
   simp only [List.map_cons,Instr.findNow,entI,Instr.sameNow,if_true,h2,h]
  ·have h1:(p.1==x)=false:=by simpa using hx
   simp only [List.find?_cons,h1] at h
   obtain ⟨j,hj⟩:=X6u (k:=k) l (i+1) h
   refine ⟨j,?_⟩
   have h2:(x==p.1)=false:=by simpa using fun e=>hx e.symm
   simp only [List.map_cons,Instr.findNow,entI,Instr.sameNow,if_true,h2]
   exact hj
theorem MapI.below{w w':World}{b clock:Nat}{l:List (Int×Int×Nat)}(h:MapI w b l clock)(hb:Below w.heap.size w w') : MapI w' b l clock:=by
 have hlt:b<w.heap.size:=by
  rcases Nat.lt_or_ge b w.heap.size with h'|h'
  ·exact h'
  ·simp [MapI,Array.getElem?_eq_none h'] at h
 exact (hb.block b hlt).trans h
theorem MapI.only{w w':World}{b b' clock:Nat}{l:List (Int×Int×Nat)}(h:MapI w b l clock)(ho:Only b' w w')(hne:b≠b') : MapI w' b l clock:=(ho.block b hne).trans h
theorem MapI.ne{w:World}{b b' clock:Nat}{l:List (Int×Int×Nat)}{T:TypeId}{cs:List Value}(h:MapI w b l clock)(hb:Blk w b' T cs) : b≠b':=by
 rintro rfl
 unfold MapI at h
 unfold Blk at hb
 rw [h] at hb
 cases hb
section
variable {P : Program} {a : Act} {w : World} {n : Nat} {e : Env} {ty : TypeId} {pos : String} {af : Array Edge} {g : Option (Nat × Bool)} {d : Option Tmp}
theorem X9b{T:TypeId} : Ef P ⟨d,.makeMap T none,ty,pos,af,g⟩ a w (fun v w'=>∃ b,v=.map (some b)∧w.heap.size≤b∧Below w.heap.size w w'∧MapI w' b [] 0):=by
 refine (Ef.of_run (v:=.map (some w.heap.size)) (w':=w.alloc (.map #[] 0)) ?_).mono fun v w' ⟨e1,e2⟩=>?_
 ·rfl
 ·subst e1;subst e2
  exact ⟨_,rfl,Nat.le_refl _,(Below.refl _ _).alloc (Nat.le_refl _) _,heap_alloc_new w _⟩
theorem Xjm{n:Nat}{e:List (Nat×Value)}{T:TypeId} : EfW P ⟨d,.makeMap T none,ty,pos,af,g⟩ n e w (fun v w'=>∃ b,v=.map (some b)∧w.heap.size≤b∧Below w.heap.size w w'∧MapI w' b [] 0):=fun a _=>X9b
theorem Xi2{T K E:TypeId}{m x y:Operand}{b clock:Nat}{l:List (Int×Int×Nat)}{i j:Int}(hf:Fr a n e)(hm:ev e m=some (.map (some b)))(hx:ev e x=some (.int .i64 i))(hy:ev e y=some (.int .i64 j))(hT:P.underlying T=some (.map K E))(hK:P.underlying K=some (.int .i64))(hM:MapI w b l clock)(hnew:(l.all fun p=>p.1 != i)=true) :
  Ef P ⟨d,.insert T m x y,ty,pos,af,g⟩ a w (fun _ w'=>Only b w w'∧MapI w' b (l++[(i,j,clock)]) (clock+1)):=by
 have hfind:=X7a (k:=.i64) l 0 hnew
 have hck:(Instr.checkKey false 10000 K (.int .i64 i)).run P w=.ok () w:=MapKept.run_checkKey hK (show MapKept.IsKey (.int .i64) (.int .i64 i) from rfl) false 9999
 have hlt:b<w.heap.size:=by
  rcases Nat.lt_or_ge b w.heap.size with h'|h'
  ·exact h'
  ·simp [MapI,Array.getElem?_eq_none h'] at hM
 unfold MapI at hM
 refine (Ef.of_skip (w':={ w with heap:=w.heap.setIfInBounds b (.map ((l++[(i,j,clock)]).map entI).toArray (clock+1)) }) ?_).mono fun v w' ⟨_,e2⟩=>?_
 ·simp [execOp,Instr.mapUpdate,hf.ev hm,hf.ev hx,hf.ev hy,X0e hT,getObj,hM,hck,Instr.findKey,X0e hK,hfind,setObj,Sem.run,entI]
 ·subst e2
  refine ⟨⟨rfl,rfl,rfl,by simp,fun k hk=>?_⟩,?_⟩
  ·show (w.heap.setIfInBounds b _)[k]? = _
   rw [Array.getElem?_setIfInBounds_ne (Ne.symm hk)]
  ·show (w.heap.setIfInBounds b _)[b]? = _
   simp [hlt]
theorem X6r{T K E:TypeId}{m x y:Operand}{b clock:Nat}{l:List (Int×Int×Nat)}{i j:Int}(hm:ev e m=some (.map (some b)))(hx:ev e x=some (.int .i64 i))(hy:ev e y=some (.int .i64 j))(hT:P.underlying T=some (.map K E))(hK:P.underlying K=some (.int .i64))(hM:MapI w b l clock)(hnew:(l.all fun p=>p.1 != i)=true) : EfW P ⟨d,.insert T m x y,ty,pos,af,g⟩ n e w (fun _ w'=>Only b w w'∧MapI w' b (l++[(i,j,clock)]) (clock+1)):=fun a hf=>Xi2 hf hm hx hy hT hK hM hnew
theorem Xi0{T K E:TypeId}{m x:Operand}{b clock:Nat}{l:List (Int×Int×Nat)}{i v:Int}(hf:Fr a n e)(hm:ev e m=some (.map (some b)))(hx:ev e x=some (.int .i64 i))(hT:P.underlying T=some (.map K E))(hK:P.underlying K=some (.int .i64))(hM:MapI w b l clock)(hv:(l.find? fun p=>p.1==i).map (fun p=>p.2.1)=some v) :
  Ev P ⟨d,.lookup T m x false,ty,pos,af,g⟩ a w (.int .i64 v):=fun w' hw=>by
 obtain ⟨j,hj⟩:=X6u (k:=.i64) l 0 hv
 have hM':=hM.below hw
 have hck:∀ em,(Instr.checkKey em 10000 K (.int .i64 i)).run P w'=.ok () w':=fun em=>MapKept.run_checkKey hK (show MapKept.IsKey (.int .i64) (.int .i64 i) from rfl) em 9999
 unfold MapI at hM'
 simp [execOp,Instr.lookup,hf.ev hm,hf.ev hx,X0e hT,getObj,Sem.run,hM',hck,Instr.findKey,X0e hK,hj]
theorem Xnt{T K E:TypeId}{m x:Operand}{b clock:Nat}{l:List (Int×Int×Nat)}{i v:Int}(hm:ev e m=some (.map (some b)))(hx:ev e x=some (.int .i64 i))(hT:P.underlying T=some (.map K E))(hK:P.underlying K=some (.int .i64))(hM:MapI w b l clock)(hv:(l.find? fun p=>p.1==i).map (fun p=>p.2.1)=some v) : EvW P ⟨d,.lookup T m x false,ty,pos,af,g⟩ n e w (.int .i64 v):=fun a hf=>Xi0 hf hm hx hT hK hM hv
end
theorem Xv3(w0:World)(k:Int)(i:Int)(j:Int)(hk:1≤k∧k≤8)(hj:j=0∨j=1) : Ret Tryz.prog 74 [vi k,vi i,vi j] w0 (fun v w=>v=dV (entryI k i j)∧Below w0.heap.size w0 w):=by
 refine enter Tryz.func74 rfl 67 rfl rfl ?_;intro a hf
 have hW:Below w0.heap.size w0 w0:=Below.refl _ _
 refine Zs hf fun _ hK1=>?_;refine Zf (Xa (zs:=[vi 0,vi 0,vi 0,vi 0,vi 0]) X1p rfl) ?_;rintro _ w1 ⟨b2,rfl,hl2,hE,hB2⟩;have hlo2:=Nat.le_trans hW.size hl2;replace hW:=btr hW hE;refine Zt hK1 fun a hf=>?_;refine Zs hf fun _ hK3=>?_;refine Ze (Xz (ps:=[(0,vi 1)]) (cs:=[vi 1,vi 0,vi 0,vi 0]) rfl (fun _=>by first|rfl|kernel_rfl))<|Ze (Xz (ps:=[(0,.agg #[vi 1,vi 0,vi 0,vi 0]),(1,vi 1)]) (cs:=[vi 1,vi 0,vi 0,vi 0,vi 1]) rfl (fun _=>by first|rfl|kernel_rfl)) ?_;refine Zf (Xa (zs:=[vi 0,vi 0,vi 0,vi 0,vi 0]) X1p rfl) ?_;rintro _ w2 ⟨b4,rfl,hl4,hE,hB4⟩
 have hne2_4:b2≠b4:=by have:=hB2.lt;omega
 have hlo4:=Nat.le_trans hW.size hl4;replace hB2:=hB2.below hE;replace hW:=btr hW hE;refine Zo (Vw [vi 1,vi 0,vi 0,vi 0,vi 1] Xw hB4) ?_;rintro _ w3 ⟨ho,hb⟩;have hold:=hB4;replace hB2:=hB2.only ho (by omega);replace hW:=Below.only hW ho hlo4;clear hold;have hB4:=hb;clear hb ho;refine Zt hK3 fun a hf=>?_;refine Zs hf fun _ hK5=>?_;refine Zf (Xjm) ?_;rintro _ w4 ⟨b6,rfl,hl6,hE,hM6⟩;have hlo6:=Nat.le_trans hW.size hl6;replace hB2:=hB2.below hE;replace hB4:=hB4.below hE;replace hW:=btr hW hE;refine Zo (X6r (l:=[]) (clock:=0) rfl rfl rfl Tryz.underlying152 Tryz.underlying3 hM6 rfl) ?_;rintro _ w5 ⟨ho,hmap⟩;replace hB2:=hB2.only ho (Ne.symm (hM6.ne hB2));replace hB4:=hB4.only ho (Ne.symm (hM6.ne hB4));replace hW:=Below.only hW ho hlo6
 replace hM6:=hmap;clear hmap ho;refine Zo (X6r (l:=[(4,4,0)]) (clock:=1) rfl rfl rfl Tryz.underlying152 Tryz.underlying3 hM6 rfl) ?_;rintro _ w6 ⟨ho,hmap⟩;replace hB2:=hB2.only ho (Ne.symm (hM6.ne hB2));replace hB4:=hB4.only ho (Ne.symm (hM6.ne hB4));replace hW:=Below.only hW ho hlo6
 replace hM6:=hmap;clear hmap ho;refine Zo (X6r (l:=[(4,4,0),(5,2,1)]) (clock:=2) rfl rfl rfl Tryz.underlying152 Tryz.underlying3 hM6 rfl) ?_;rintro _ w7 ⟨ho,hmap⟩;replace hB2:=hB2.only ho (Ne.symm (hM6.ne hB2));replace hB4:=hB4.only ho (Ne.symm (hM6.ne hB4));replace hW:=Below.only hW ho hlo6
 replace hM6:=hmap;clear hmap ho;refine Zo (X6r (l:=[(4,4,0),(5,2,1),(6,6,2)]) (clock:=3) rfl rfl rfl Tryz.underlying152 Tryz.underlying3 hM6 rfl) ?_;rintro _ w8 ⟨ho,hmap⟩;replace hB2:=hB2.only ho (Ne.symm (hM6.ne hB2));replace hB4:=hB4.only ho (Ne.symm (hM6.ne hB4));replace hW:=Below.only hW ho hlo6
 replace hM6:=hmap;clear hmap ho;refine Zo (X6r (l:=[(4,4,0),(5,2,1),(6,6,2),(7,1,3)]) (clock:=4) rfl rfl rfl Tryz.underlying152 Tryz.underlying3 hM6 rfl) ?_;rintro _ w9 ⟨ho,hmap⟩;replace hB2:=hB2.only ho (Ne.symm (hM6.ne hB2));replace hB4:=hB4.only ho (Ne.symm (hM6.ne hB4));replace hW:=Below.only hW ho hlo6
 replace hM6:=hmap;clear hmap ho;refine Zm rfl<|Za rfl ?_;refine Zt hK5 fun a hf=>?_;refine wp_seq_k fun _ hK7=>?_;refine wp_block ?_;refine Zs hf fun _ hK8=>?_;refine Zm rfl<|Ze (X0u rfl rfl)<|Za rfl ?_;refine Zt hK8 fun a hf=>?_
 refine Xe hf rfl (fun hc9=>?_) (fun hc9=>?_)
 ·have hc9b:=hc9
  have e1:k=1:=by simpa using hc9
  refine wp_seq_k fun _ hK10=>?_;refine wp_seq_k fun _ hK11=>?_;refine X08 (fun a w=>Fr a 67 [(6,.pointer (some ⟨b2,0,none⟩)),(7,.pointer (some ⟨b4,0,none⟩)),(21,.bool ((i==1)&&(j==1)))]∧w9=w) ?_ ?_
  ·refine Zr hf ?_;refine Zm rfl<|Ze (X0u rfl rfl)<|Zm rfl ?_
   refine Zg 18 rfl (fun hg12=>?_) (fun hg12=>?_)
   ·refine Zv ⟨_,_,rfl,rfl,hg12⟩ (X2 rfl) ?_;refine Zv ⟨_,_,rfl,rfl,hg12⟩ (X0u rfl rfl) ?_;refine Ze (Xb rfl hg12 rfl) ?_;refine Zn fun a hf=>?_;exact ⟨hf.sub ⟨rfl,rfl,X1 rfl (by first|rfl|(simp only [hc9b,hg12,bs];done)|simp [hc9b,hg12]),trivial⟩,rfl⟩
   refine Zp ⟨_,_,rfl,rfl,hg12⟩ ?_;refine Zp ⟨_,_,rfl,rfl,hg12⟩ ?_;refine Ze (X9 rfl hg12 rfl) ?_;refine Zn fun a hf=>?_;exact ⟨hf.sub ⟨rfl,rfl,X1 rfl (by first|rfl|(simp only [hc9b,hg12,bs];done)|simp [hc9b,hg12]),trivial⟩,rfl⟩
  rintro a _ ⟨hf,rfl⟩;refine hK11 _ _ ?_
  refine Xe hf rfl (fun hc13=>?_) (fun hc13=>?_)
  ·have hc13b:=hc13
   have hfin:entryI k i j=⟨⟨-1,0,0,0⟩,1⟩:=by rw [entryI,if_pos e1,if_pos (by simpa using hc13)]
   refine Zr hf ?_;refine Ze (Vd rfl X1y 0)<|Ze (Vd rfl X0j 0) ?_;refine Zo (Vu (vs:=[vi (-1)]) (l':=[vi (-1),vi 0,vi 0,vi 0,vi 1]) rfl rfl X0h hB4) ?_;rintro _ w10 ⟨ho,hb⟩;have hold:=hB4;replace hB2:=hB2.only ho (by omega);replace hM6:=hM6.only ho (hM6.ne hold);replace hW:=Below.only hW ho hlo4;clear hold;have hB4:=hb;clear hb ho;refine Zt hK10 fun a hf=>?_;refine Zs hf fun _ hK14=>?_;refine Ze (Vn Xk hB4) ?_;refine Zo (Vw [vi (-1),vi 0,vi 0,vi 0,vi 1] Xw hB2) ?_;rintro _ w11 ⟨ho,hb⟩;have hold:=hB2;replace hB4:=hB4.only ho (by omega);replace hM6:=hM6.only ho (hM6.ne hold);replace hW:=Below.only hW ho hlo2;clear hold;have hB2:=hb;clear hb ho;refine Zt hK14 fun a hf=>?_;refine wp_ret ?_;refine Xr ?_;refine X5 ?_;refine X3 hf (Xq hf rfl (ResV.cellN (l:=[vi (-1),vi 0,vi 0,vi 0,vi 1]) rfl Xk (hB2.at 0) rfl)) ?_;exact ⟨(by rw [hfin];try rfl),hW⟩
  have hc13b:=hc13
  have hfin:entryI k i j=dHalf:=by rw [entryI,if_pos e1,if_neg (by simpa using hc13)]
  refine wp_skip ?_;refine hK10 _ _ ?_;refine Zs hf fun _ hK15=>?_;refine Ze (Vn Xk hB4) ?_;refine Zo (Vw [vi 1,vi 0,vi 0,vi 0,vi 1] Xw hB2) ?_;rintro _ w12 ⟨ho,hb⟩;have hold:=hB2;replace hB4:=hB4.only ho (by omega);replace hM6:=hM6.only ho (hM6.ne hold);replace hW:=Below.only hW ho hlo2;clear hold;have hB2:=hb;clear hb ho;refine Zt hK15 fun a hf=>?_;refine wp_ret ?_;refine Xr ?_;refine X5 ?_;refine X3 hf (Xq hf rfl (ResV.cellN (l:=[vi 1,vi 0,vi 0,vi 0,vi 1]) rfl Xk (hB2.at 0) rfl)) ?_;exact ⟨(by rw [hfin];try rfl),hW⟩
 have hc9b:=hc9
 have e1:¬ k=1:=by simpa using hc9
 refine wp_seq_k fun _ hK16=>?_;refine X08 (fun a w=>Fr a 67 [(0,vi k),(1,vi i),(2,vi j),(6,.pointer (some ⟨b2,0,none⟩)),(8,.map (some b6)),(25,.bool ((k==2)&&(i != j)))]∧w9=w) ?_ ?_
 ·refine Zr hf ?_;refine Zm rfl<|Ze (X0u rfl rfl)<|Zm rfl ?_
  refine Zg 28 rfl (fun hg17=>?_) (fun hg17=>?_)
  ·refine Zv ⟨_,_,rfl,rfl,hg17⟩ (X2 rfl) ?_;refine Zv ⟨_,_,rfl,rfl,hg17⟩ (X2 rfl) ?_;refine Zv ⟨_,_,rfl,rfl,hg17⟩ (X29 rfl rfl) ?_;refine Ze (Xb rfl hg17 rfl)<|Za rfl ?_;refine Zn fun a hf=>?_;exact ⟨hf.sub ⟨rfl,rfl,rfl,rfl,rfl,X1 rfl (by first|rfl|(simp only [hc9b,hg17,bs];done)|simp [hc9b,hg17]),trivial⟩,rfl⟩
  refine Zp ⟨_,_,rfl,rfl,hg17⟩ ?_;refine Zp ⟨_,_,rfl,rfl,hg17⟩ ?_;refine Zp ⟨_,_,rfl,rfl,hg17⟩ ?_;refine Ze (X9 rfl hg17 rfl)<|Za rfl ?_;refine Zn fun a hf=>?_;exact ⟨hf.sub ⟨rfl,rfl,rfl,rfl,rfl,X1 rfl (by first|rfl|(simp only [hc9b,hg17,bs];done)|simp [hc9b,hg17]),trivial⟩,rfl⟩
 rintro a _ ⟨hf,rfl⟩;refine hK16 _ _ ?_
 refine Xe hf rfl (fun hc18=>?_) (fun hc18=>?_)
 ·have hc18b:=hc18
  have hfin:entryI k i j=⟨⟨1,0,0,0⟩,0⟩:=by rw [entryI,if_neg e1,if_pos (by simpa using hc18)]
  refine Zs hf fun _ hK19=>?_;refine Zf (Vc (Xsh _ 1) Xfb) ?_;rintro _ w13 ⟨rfl,hE⟩;replace hB2:=hB2.below hE;replace hM6:=hM6.below hE;replace hW:=btr hW hE;refine Zo (Vw [vi ((⟨⟨1,0,0,0⟩,0⟩ : Dy).num.a),vi ((⟨⟨1,0,0,0⟩,0⟩ : Dy).num.b),vi ((⟨⟨1,0,0,0⟩,0⟩ : Dy).num.c),vi ((⟨⟨1,0,0,0⟩,0⟩ : Dy).num.d),vi ((⟨⟨1,0,0,0⟩,0⟩ : Dy).exp)] Xw hB2) ?_;rintro _ w14 ⟨ho,hb⟩;have hold:=hB2;replace hM6:=hM6.only ho (hM6.ne hold);replace hW:=Below.only hW ho hlo2;clear hold;have hB2:=hb;clear hb ho;refine Zt hK19 fun a hf=>?_;refine wp_ret ?_;refine Xr ?_;refine X5 ?_;refine X3 hf (Xq hf rfl (ResV.cellN (l:=[vi ((⟨⟨1,0,0,0⟩,0⟩ : Dy).num.a),vi ((⟨⟨1,0,0,0⟩,0⟩ : Dy).num.b),vi ((⟨⟨1,0,0,0⟩,0⟩ : Dy).num.c),vi ((⟨⟨1,0,0,0⟩,0⟩ : Dy).num.d),vi ((⟨⟨1,0,0,0⟩,0⟩ : Dy).exp)]) rfl Xk (hB2.at 0) rfl)) ?_;exact ⟨(by rw [hfin];try rfl),hW⟩
 have hc18b:=hc18
 have e2:¬ (k=2∧i≠j):=by simpa using hc18
 refine wp_seq_k fun _ hK20=>?_;refine X08 (fun a w=>Fr a 67 [(0,vi k),(1,vi i),(2,vi j),(6,.pointer (some ⟨b2,0,none⟩)),(8,.map (some b6)),(34,.bool ((k==3)&&(i != j)))]∧w9=w) ?_ ?_
 ·refine Zr hf ?_;refine Zm rfl<|Ze (X0u rfl rfl)<|Zm rfl ?_
  refine Zg 37 rfl (fun hg21=>?_) (fun hg21=>?_)
  ·refine Zv ⟨_,_,rfl,rfl,hg21⟩ (X2 rfl) ?_;refine Zv ⟨_,_,rfl,rfl,hg21⟩ (X2 rfl) ?_;refine Zv ⟨_,_,rfl,rfl,hg21⟩ (X29 rfl rfl) ?_;refine Ze (Xb rfl hg21 rfl)<|Za rfl ?_;refine Zn fun a hf=>?_;exact ⟨hf.sub ⟨rfl,rfl,rfl,rfl,rfl,X1 rfl (by first|rfl|(simp only [hc9b,hc18b,hg21,bs];done)|simp [hc9b,hc18b,hg21]),trivial⟩,rfl⟩
  refine Zp ⟨_,_,rfl,rfl,hg21⟩ ?_;refine Zp ⟨_,_,rfl,rfl,hg21⟩ ?_;refine Zp ⟨_,_,rfl,rfl,hg21⟩ ?_;refine Ze (X9 rfl hg21 rfl)<|Za rfl ?_;refine Zn fun a hf=>?_;exact ⟨hf.sub ⟨rfl,rfl,rfl,rfl,rfl,X1 rfl (by first|rfl|(simp only [hc9b,hc18b,hg21,bs];done)|simp [hc9b,hc18b,hg21]),trivial⟩,rfl⟩
 rintro a _ ⟨hf,rfl⟩;refine hK20 _ _ ?_
 refine Xe hf rfl (fun hc22=>?_) (fun hc22=>?_)
 ·have hc22b:=hc22
  have e33:k=3∧i≠j:=(by simpa using hc22)
  have hfin:entryI k i j=dPow (2+4*j):=by rw [entryI,if_neg e1,if_neg e2,if_pos e33]
  refine Zs hf fun _ hK23=>?_;refine Zm rfl<|Ze (Xal rfl rfl (by omega) (by omega))<|Ze (Xp rfl rfl (by omega) (by omega)) ?_;refine Zf (Vc (Xhr _ (2+(4*j)) (Xo.2 ⟨by omega,by omega⟩)) X7p) ?_;rintro _ w15 ⟨rfl,hE⟩;replace hB2:=hB2.below hE;replace hM6:=hM6.below hE;replace hW:=btr hW hE;refine Zo (Vw [vi ((dPow (2+(4*j))).num.a),vi ((dPow (2+(4*j))).num.b),vi ((dPow (2+(4*j))).num.c),vi ((dPow (2+(4*j))).num.d),vi ((dPow (2+(4*j))).exp)] Xw hB2) ?_;rintro _ w16 ⟨ho,hb⟩;have hold:=hB2;replace hM6:=hM6.only ho (hM6.ne hold);replace hW:=Below.only hW ho hlo2;clear hold;have hB2:=hb;clear hb ho;refine Zt hK23 fun a hf=>?_;refine wp_ret ?_;refine Xr ?_;refine X5 ?_;refine X3 hf (Xq hf rfl (ResV.cellN (l:=[vi ((dPow (2+(4*j))).num.a),vi ((dPow (2+(4*j))).num.b),vi ((dPow (2+(4*j))).num.c),vi ((dPow (2+(4*j))).num.d),vi ((dPow (2+(4*j))).exp)]) rfl Xk (hB2.at 0) rfl)) ?_;exact ⟨(by rw [hfin];try rfl),hW⟩
 have hc22b:=hc22
 have e3:¬ (k=3∧i≠j):=by simpa using hc22
 refine wp_seq_k fun _ hK24=>?_;refine X08 (fun a w=>Fr a 67 [(0,vi k),(1,vi i),(6,.pointer (some ⟨b2,0,none⟩)),(8,.map (some b6)),(46,.bool (((k==2)||(k==3))||(i != j)))]∧w9=w) ?_ ?_
 ·refine Zr hf ?_;refine Zm rfl<|Ze (X0u rfl rfl)<|Zm rfl ?_
  refine Zg 49 rfl (fun hg25=>?_) (fun hg25=>?_)
  ·refine Zp ⟨_,_,rfl,rfl,hg25⟩ ?_;refine Zp ⟨_,_,rfl,rfl,hg25⟩ ?_;refine Ze (Xb rfl hg25 rfl)<|Zm rfl<|Zp ⟨_,_,rfl,rfl,rfl⟩ ?_;refine Zp ⟨_,_,rfl,rfl,rfl⟩ ?_;refine Zp ⟨_,_,rfl,rfl,rfl⟩ ?_;refine Ze (Xb rfl rfl rfl)<|Za rfl ?_;refine Zn fun a hf=>?_;exact ⟨hf.sub ⟨rfl,rfl,rfl,rfl,X1 rfl (by first|rfl|(simp only [hc9b,hc18b,hc22b,hg25,bs];done)|simp [hc9b,hc18b,hc22b,hg25]),trivial⟩,rfl⟩
  refine Zv ⟨_,_,rfl,rfl,hg25⟩ (X2 rfl) ?_;refine Zv ⟨_,_,rfl,rfl,hg25⟩ (X0u rfl rfl) ?_;refine Ze (X9 rfl hg25 rfl)<|Zm rfl ?_
  refine Zg 53 rfl (fun hg26=>?_) (fun hg26=>?_)
  ·refine Zp ⟨_,_,rfl,rfl,hg26⟩ ?_;refine Zp ⟨_,_,rfl,rfl,hg26⟩ ?_;refine Zp ⟨_,_,rfl,rfl,hg26⟩ ?_;refine Ze (Xb rfl hg26 rfl)<|Za rfl ?_;refine Zn fun a hf=>?_;exact ⟨hf.sub ⟨rfl,rfl,rfl,rfl,X1 rfl (by first|rfl|(simp only [hc9b,hc18b,hc22b,hg25,hg26,bs];done)|simp [hc9b,hc18b,hc22b,hg25,hg26]),trivial⟩,rfl⟩
  refine Zv ⟨_,_,rfl,rfl,hg26⟩ (X2 rfl) ?_;refine Zv ⟨_,_,rfl,rfl,hg26⟩ (X2 rfl) ?_;refine Zv ⟨_,_,rfl,rfl,hg26⟩ (X29 rfl rfl) ?_;refine Ze (X9 rfl hg26 rfl)<|Za rfl ?_;refine Zn fun a hf=>?_;exact ⟨hf.sub ⟨rfl,rfl,rfl,rfl,X1 rfl (by first|rfl|(simp only [hc9b,hc18b,hc22b,hg25,hg26,bs];done)|simp [hc9b,hc18b,hc22b,hg25,hg26]),trivial⟩,rfl⟩
 rintro a _ ⟨hf,rfl⟩;refine hK24 _ _ ?_
 refine Xe hf rfl (fun hc27=>?_) (fun hc27=>?_)
 ·have hc27b:=hc27
  have hfin:entryI k i j=dZ:=by rw [entryI,if_neg e1,if_neg e2,if_neg e3,if_pos (by simpa [or_assoc] using hc27)]
  refine Zs hf fun _ hK28=>?_;refine Ze (Xz (ps:=[]) (cs:=[vi 0,vi 0,vi 0,vi 0,vi 0]) rfl (fun _=>by first|rfl|kernel_rfl)) ?_;refine Zo (Vw [vi 0,vi 0,vi 0,vi 0,vi 0] Xw hB2) ?_;rintro _ w17 ⟨ho,hb⟩;have hold:=hB2;replace hM6:=hM6.only ho (hM6.ne hold);replace hW:=Below.only hW ho hlo2;clear hold;have hB2:=hb;clear hb ho;refine Zt hK28 fun a hf=>?_;refine wp_ret ?_;refine Xr ?_;refine X5 ?_;refine X3 hf (Xq hf rfl (ResV.cellN (l:=[vi 0,vi 0,vi 0,vi 0,vi 0]) rfl Xk (hB2.at 0) rfl)) ?_;exact ⟨(by rw [hfin];try rfl),hW⟩
 have hc27b:=hc27
 have e4:¬ (k=2∨k=3∨i≠j):=by simpa [not_or,and_assoc] using hc27
 refine Zs hf fun _ hK29=>?_;refine Zm rfl<|Ze (X0u rfl rfl)<|Za rfl ?_;refine Zt hK29 fun a hf=>?_
 refine Xe hf rfl (fun hc30=>?_) (fun hc30=>?_)
 ·have hc30b:=hc30
  have hfin:entryI k i j=⟨⟨1,0,0,0⟩,0⟩:=by rw [entryI,if_neg e1,if_neg e2,if_neg e3,if_neg e4,if_pos (by simpa using hc30)]
  refine Zs hf fun _ hK31=>?_;refine Zf (Vc (Xsh _ 1) Xfb) ?_;rintro _ w18 ⟨rfl,hE⟩;replace hB2:=hB2.below hE;replace hM6:=hM6.below hE;replace hW:=btr hW hE;refine Zo (Vw [vi ((⟨⟨1,0,0,0⟩,0⟩ : Dy).num.a),vi ((⟨⟨1,0,0,0⟩,0⟩ : Dy).num.b),vi ((⟨⟨1,0,0,0⟩,0⟩ : Dy).num.c),vi ((⟨⟨1,0,0,0⟩,0⟩ : Dy).num.d),vi ((⟨⟨1,0,0,0⟩,0⟩ : Dy).exp)] Xw hB2) ?_;rintro _ w19 ⟨ho,hb⟩;have hold:=hB2;replace hM6:=hM6.only ho (hM6.ne hold);replace hW:=Below.only hW ho hlo2;clear hold;have hB2:=hb;clear hb ho;refine Zt hK31 fun a hf=>?_;refine wp_ret ?_;refine Xr ?_;refine X5 ?_;refine X3 hf (Xq hf rfl (ResV.cellN (l:=[vi ((⟨⟨1,0,0,0⟩,0⟩ : Dy).num.a),vi ((⟨⟨1,0,0,0⟩,0⟩ : Dy).num.b),vi ((⟨⟨1,0,0,0⟩,0⟩ : Dy).num.c),vi ((⟨⟨1,0,0,0⟩,0⟩ : Dy).num.d),vi ((⟨⟨1,0,0,0⟩,0⟩ : Dy).exp)]) rfl Xk (hB2.at 0) rfl)) ?_;exact ⟨(by rw [hfin];try rfl),hW⟩
 have hc30b:=hc30
 have hfin:entryI k i j=dPow (turnOf k):=by rw [entryI,if_neg e1,if_neg e2,if_neg e3,if_neg e4,if_neg (by simpa using hc30)]
 refine wp_skip ?_;refine Xd ?_;refine hK7 _ _ ?_;refine Zs hf fun _ hK32=>?_;refine Zm rfl<|Zm rfl<|Ze (Xnt (v:=(turnOf k)) rfl rfl Tryz.underlying152 Tryz.underlying3 hM6 (Xig (by omega) (by omega))) ?_;refine Zf (Vc (Xhr _ (turnOf k) (Xi9 k)) X7p) ?_;rintro _ w20 ⟨rfl,hE⟩;replace hB2:=hB2.below hE;replace hM6:=hM6.below hE;replace hW:=btr hW hE;refine Zo (Vw [vi ((dPow (turnOf k)).num.a),vi ((dPow (turnOf k)).num.b),vi ((dPow (turnOf k)).num.c),vi ((dPow (turnOf k)).num.d),vi ((dPow (turnOf k)).exp)] Xw hB2) ?_;rintro _ w21 ⟨ho,hb⟩;have hold:=hB2;replace hM6:=hM6.only ho (hM6.ne hold);replace hW:=Below.only hW ho hlo2;clear hold;have hB2:=hb;clear hb ho;refine Zt hK32 fun a hf=>?_
 refine wp_ret (X3 hf (Xq hf rfl (ResV.cellN (l:=[vi ((dPow (turnOf k)).num.a),vi ((dPow (turnOf k)).num.b),vi ((dPow (turnOf k)).num.c),vi ((dPow (turnOf k)).num.d),vi ((dPow (turnOf k)).exp)]) rfl Xk (hB2.at 0) rfl)) ?_)
 exact ⟨(by rw [hfin];try rfl),hW⟩
theorem Xvs(w0:World)(g:Gt)(n:Int)(ba bb:Nat)(hBa:Blk w0 ba 24 (encG g))(hBb:Blk w0 bb 3 [vi n])(hg:gOk n g=true)(i j:Int) : Ret Tryz.prog 68 [vi i,vi j,.pointer (some ⟨ba,0,none⟩),.pointer (some ⟨bb,0,none⟩)] w0 (fun v w=>v=.tuple #[dV (cellI n g i j),.bool true]∧Below w0.heap.size w0 w):=by
 have hltba:=hBa.lt;have hltbb:=hBb.lt
 unfold encG at hBa
 have hg2:=X11 hg;have hb01:=X2p n j g.a;refine enter Tryz.func68 rfl 75 rfl rfl ?_;intro a hf
 have hW:Below w0.heap.size w0 w0:=Below.refl _ _
 refine Zs hf fun _ hK1=>?_;refine Zf (Xa (zs:=[vi 0,vi 0,vi 0,vi 0,vi 0]) X1p rfl) ?_;rintro _ w1 ⟨b2,rfl,hl2,hE,hB2⟩;have hlo2:=Nat.le_trans hW.size hl2;replace hBa:=hBa.below hE;replace hBb:=hBb.below hE;replace hW:=btr hW hE;refine Za rfl ?_;refine Zt hK1 fun a hf=>?_;refine wp_seq_k fun _ hK3=>?_;refine wp_block ?_;refine Zs hf fun _ hK4=>?_;refine Ze (Vd rfl X0i 0)<|Ze (X0 rfl X4 (hBa.at 0))<|Ze (X0u rfl rfl)<|Za rfl ?_;refine Zt hK4 fun a hf=>?_
 refine Xe hf rfl (fun hc5=>?_) (fun hc5=>?_)
 ·have hc5b:=hc5;have hk:=eq_of_beq hc5;refine Zs hf fun _ hK6=>?_;refine Zm rfl<|Zm rfl<|Ze (X0u rfl rfl) ?_;refine Zt hK6 fun a hf=>?_
  refine Xe hf rfl (fun hc7=>?_) (fun hc7=>?_)
  ·have hc7b:=hc7
   have hfin:cellI n g i j=dPow 1:=by rw [cellI,if_pos hk,if_pos (eq_of_beq hc7)]
   refine Zs hf fun _ hK8=>?_;refine Zf (Vc (Xhr _ 1 (by rfl)) X7p) ?_;rintro _ w2 ⟨rfl,hE⟩;replace hBa:=hBa.below hE;replace hBb:=hBb.below hE;replace hB2:=hB2.below hE;replace hW:=btr hW hE;refine Zo (Vw [vi ((dPow 1).num.a),vi ((dPow 1).num.b),vi ((dPow 1).num.c),vi ((dPow 1).num.d),vi ((dPow 1).exp)] Xw hB2) ?_;rintro _ w3 ⟨ho,hb⟩;have hold:=hB2;replace hBa:=hBa.only ho (Blk.ne hBa hold rfl);replace hBb:=hBb.only ho (Blk.ne hBb hold rfl);replace hW:=Below.only hW ho hlo2;clear hold;have hB2:=hb;clear hb ho;refine Za rfl ?_;refine Zt hK8 fun a hf=>?_;refine wp_ret ?_;refine Xr ?_;refine X5 ?_;refine X3 hf (X15 hf rfl (ResV.cellN (l:=[vi ((dPow 1).num.a),vi ((dPow 1).num.b),vi ((dPow 1).num.c),vi ((dPow 1).num.d),vi ((dPow 1).exp)]) rfl Xk (hB2.at 0) rfl) rfl) ?_;exact ⟨(by rw [hfin];try rfl),hW⟩
  have hc7b:=hc7
  have hfin:cellI n g i j=dZ:=by rw [cellI,if_pos hk,if_neg (X17 hc7)]
  refine wp_skip ?_;refine Xd ?_;refine hK3 _ _ ?_;refine Zs hf fun _ hK9=>?_;refine Ze (Xz (ps:=[]) (cs:=[vi 0,vi 0,vi 0,vi 0,vi 0]) rfl (fun _=>by first|rfl|kernel_rfl)) ?_;refine Zo (Vw [vi 0,vi 0,vi 0,vi 0,vi 0] Xw hB2) ?_;rintro _ w4 ⟨ho,hb⟩;have hold:=hB2;replace hBa:=hBa.only ho (Blk.ne hBa hold rfl);replace hBb:=hBb.only ho (Blk.ne hBb hold rfl);replace hW:=Below.only hW ho hlo2;clear hold;have hB2:=hb;clear hb ho;refine Za rfl ?_;refine Zt hK9 fun a hf=>?_
  refine wp_ret (X3 hf (X15 hf rfl (ResV.cellN (l:=[vi 0,vi 0,vi 0,vi 0,vi 0]) rfl Xk (hB2.at 0) rfl) rfl) ?_)
  exact ⟨(by rw [hfin];try rfl),hW⟩
 have hc5b:=hc5;have hk:=X17 hc5;have hga:=hg2.2.2.1 hk;refine Zs hf fun _ hK10=>?_;refine Ze (Vd rfl X0i 0)<|Ze (X0 rfl X4 (hBa.at 0)) ?_;refine Zf (Vc (F99 _ g.k) Xdn) ?_;rintro _ _ ⟨rfl,rfl⟩;refine Za rfl ?_;refine Zt hK10 fun a hf=>?_
 refine Xe hf rfl (fun hc11=>?_) (fun hc11=>?_)
 ·have hc11b:=hc11;have hk2:=hc11;have hgb:=hg2.2.2.2 (Xo.1 hk2);refine Zs hf fun _ hK12=>?_;refine Ze (X0 rfl X4 (hBb.at 0))<|Ze (X09 (l:=[vi g.k,vi g.a,vi g.b]) rfl Xt (hBa.at 0) rfl)<|Zm rfl ?_;refine Zf (Vc (Xwd _ n g i hg (Xo.1 hk2)) Xqf) ?_;rintro _ w5 ⟨rfl,hE⟩;replace hBa:=hBa.below hE;replace hBb:=hBb.below hE;replace hB2:=hB2.below hE;replace hW:=btr hW hE;refine Zm rfl<|Ze (X0u rfl rfl) ?_;refine Zt hK12 fun a hf=>?_
  refine Xe hf rfl (fun hc13=>?_) (fun hc13=>?_)
  ·have hc13b:=hc13
   have hfin:cellI n g i j=dPow (4*(if czI n g i=true then 1 else 0)):=by rw [cellI,if_neg hk,if_pos hk2,if_pos (eq_of_beq hc13)]
   refine wp_seq_k fun _ hK14=>?_;refine X08 (fun a w=>Fr a 75 [(6,.pointer (some ⟨b2,0,none⟩)),(7,.bool true)]∧Blk w ba 24 [vi g.k,vi g.a,vi g.b]∧Blk w bb 3 [vi n]∧Blk w b2 98 [vi ((dPow (4*(if (((g.k==10)&&((bitF n i g.a)==1))&&((bitF n i g.b)==1))=true then 1 else 0))).num.a),vi ((dPow (4*(if (((g.k==10)&&((bitF n i g.a)==1))&&((bitF n i g.b)==1))=true then 1 else 0))).num.b),vi ((dPow (4*(if (((g.k==10)&&((bitF n i g.a)==1))&&((bitF n i g.b)==1))=true then 1 else 0))).num.c),vi ((dPow (4*(if (((g.k==10)&&((bitF n i g.a)==1))&&((bitF n i g.b)==1))=true then 1 else 0))).num.d),vi ((dPow (4*(if (((g.k==10)&&((bitF n i g.a)==1))&&((bitF n i g.b)==1))=true then 1 else 0))).exp)]∧Below w0.heap.size w0 w) ?_ ?_
   ·refine Zr hf ?_;refine Ze (Vd rfl X0i 0)<|Ze (X0 rfl X4 (hBa.at 0))<|Ze (X0u rfl rfl)<|Zm rfl ?_
    refine Zg 29 rfl (fun hg15=>?_) (fun hg15=>?_)
    ·refine Zv ⟨_,_,rfl,rfl,hg15⟩ (X0 rfl X4 (hBb.at 0)) ?_;refine Zv ⟨_,_,rfl,rfl,hg15⟩ (X2 rfl) ?_;refine Zv ⟨_,_,rfl,rfl,hg15⟩ (Vd rfl X0r 1) ?_;refine Zv ⟨_,_,rfl,rfl,hg15⟩ (X0 rfl X4 (hBa.at 1)) ?_;refine Zk ⟨_,_,rfl,rfl,hg15⟩ (Vc (Xij _ n i g.a (by omega) (by omega) (by omega)) X7v) ?_;rintro _ _ ⟨rfl,rfl⟩;refine Zv ⟨_,_,rfl,rfl,hg15⟩ (X0u rfl rfl) ?_;refine Ze (Xb rfl hg15 rfl)<|Zm rfl ?_
     refine Zg 37 rfl (fun hg16=>?_) (fun hg16=>?_)
     ·refine Zv ⟨_,_,rfl,rfl,hg16⟩ (X0 rfl X4 (hBb.at 0)) ?_;refine Zv ⟨_,_,rfl,rfl,hg16⟩ (X2 rfl) ?_;refine Zv ⟨_,_,rfl,rfl,hg16⟩ (Vd rfl X10 2) ?_;refine Zv ⟨_,_,rfl,rfl,hg16⟩ (X0 rfl X4 (hBa.at 2)) ?_;refine Zk ⟨_,_,rfl,rfl,hg16⟩ (Vc (Xij _ n i g.b (by omega) (by omega) (by omega)) X7v) ?_;rintro _ _ ⟨rfl,rfl⟩;refine Zv ⟨_,_,rfl,rfl,hg16⟩ (X0u rfl rfl) ?_;refine Ze (Xb rfl hg16 rfl) ?_;refine Zf (Vc (F59 _ ((bitF n i g.b)==1)) Xh9) ?_;rintro _ _ ⟨rfl,rfl⟩;refine Ze (Xal rfl rfl (by split<;>decide) (by split<;>decide)) ?_;refine Zf (Vc (Xhr _ (4*(if ((bitF n i g.b)==1)=true then 1 else 0)) (by split<;>rfl)) X7p) ?_;rintro _ w6 ⟨rfl,hE⟩;replace hBa:=hBa.below hE;replace hBb:=hBb.below hE;replace hB2:=hB2.below hE;replace hW:=btr hW hE;refine Zo (Vw [vi ((dPow (4*(if ((bitF n i g.b)==1)=true then 1 else 0))).num.a),vi ((dPow (4*(if ((bitF n i g.b)==1)=true then 1 else 0))).num.b),vi ((dPow (4*(if ((bitF n i g.b)==1)=true then 1 else 0))).num.c),vi ((dPow (4*(if ((bitF n i g.b)==1)=true then 1 else 0))).num.d),vi ((dPow (4*(if ((bitF n i g.b)==1)=true then 1 else 0))).exp)] Xw hB2) ?_;rintro _ w7 ⟨ho,hb⟩;have hold:=hB2;replace hBa:=hBa.only ho (Blk.ne hBa hold rfl);replace hBb:=hBb.only ho (Blk.ne hBb hold rfl);replace hW:=Below.only hW ho hlo2;clear hold;have hB2:=hb;clear hb ho;refine Za rfl ?_;refine Zn fun a hf=>?_
      have hz9:(((g.k==10)&&((bitF n i g.a)==1))&&((bitF n i g.b)==1))=((bitF n i g.b)==1):=by simp [hc5b,hc11b,hc13b,hg15,hg16]
      have hB2:Blk w7 b2 98 [vi ((dPow (4*(if (((g.k==10)&&((bitF n i g.a)==1))&&((bitF n i g.b)==1))=true then 1 else 0))).num.a),vi ((dPow (4*(if (((g.k==10)&&((bitF n i g.a)==1))&&((bitF n i g.b)==1))=true then 1 else 0))).num.b),vi ((dPow (4*(if (((g.k==10)&&((bitF n i g.a)==1))&&((bitF n i g.b)==1))=true then 1 else 0))).num.c),vi ((dPow (4*(if (((g.k==10)&&((bitF n i g.a)==1))&&((bitF n i g.b)==1))=true then 1 else 0))).num.d),vi ((dPow (4*(if (((g.k==10)&&((bitF n i g.a)==1))&&((bitF n i g.b)==1))=true then 1 else 0))).exp)]:=by rw [hz9];exact hB2
      exact ⟨hf.sub ⟨rfl,rfl,trivial⟩,hBa,hBb,hB2,hW⟩
     refine Zp ⟨_,_,rfl,rfl,hg16⟩ ?_;refine Zp ⟨_,_,rfl,rfl,hg16⟩ ?_;refine Zp ⟨_,_,rfl,rfl,hg16⟩ ?_;refine Zp ⟨_,_,rfl,rfl,hg16⟩ ?_;refine Zp ⟨_,_,rfl,rfl,hg16⟩ ?_;refine Zp ⟨_,_,rfl,rfl,hg16⟩ ?_;refine Ze (X9 rfl hg16 rfl) ?_;refine Zf (Vc (F59 _ false) Xh9) ?_;rintro _ _ ⟨rfl,rfl⟩;refine Ze (Xal rfl rfl (by split<;>decide) (by split<;>decide)) ?_;refine Zf (Vc (Xhr _ (4*(if false=true then 1 else 0)) (by split<;>rfl)) X7p) ?_;rintro _ w8 ⟨rfl,hE⟩;replace hBa:=hBa.below hE;replace hBb:=hBb.below hE;replace hB2:=hB2.below hE;replace hW:=btr hW hE;refine Zo (Vw [vi ((dPow (4*(if false=true then 1 else 0))).num.a),vi ((dPow (4*(if false=true then 1 else 0))).num.b),vi ((dPow (4*(if false=true then 1 else 0))).num.c),vi ((dPow (4*(if false=true then 1 else 0))).num.d),vi ((dPow (4*(if false=true then 1 else 0))).exp)] Xw hB2) ?_;rintro _ w9 ⟨ho,hb⟩;have hold:=hB2;replace hBa:=hBa.only ho (Blk.ne hBa hold rfl);replace hBb:=hBb.only ho (Blk.ne hBb hold rfl);replace hW:=Below.only hW ho hlo2;clear hold;have hB2:=hb;clear hb ho;refine Za rfl ?_;refine Zn fun a hf=>?_
     have hz9:(((g.k==10)&&((bitF n i g.a)==1))&&((bitF n i g.b)==1))=(false):=by simp [hc5b,hc11b,hc13b,hg15,hg16]
     have hB2:Blk w9 b2 98 [vi ((dPow (4*(if (((g.k==10)&&((bitF n i g.a)==1))&&((bitF n i g.b)==1))=true then 1 else 0))).num.a),vi ((dPow (4*(if (((g.k==10)&&((bitF n i g.a)==1))&&((bitF n i g.b)==1))=true then 1 else 0))).num.b),vi ((dPow (4*(if (((g.k==10)&&((bitF n i g.a)==1))&&((bitF n i g.b)==1))=true then 1 else 0))).num.c),vi ((dPow (4*(if (((g.k==10)&&((bitF n i g.a)==1))&&((bitF n i g.b)==1))=true then 1 else 0))).num.d),vi ((dPow (4*(if (((g.k==10)&&((bitF n i g.a)==1))&&((bitF n i g.b)==1))=true then 1 else 0))).exp)]:=by rw [hz9];exact hB2
     exact ⟨hf.sub ⟨rfl,rfl,trivial⟩,hBa,hBb,hB2,hW⟩
    refine Zp ⟨_,_,rfl,rfl,hg15⟩ ?_;refine Zp ⟨_,_,rfl,rfl,hg15⟩ ?_;refine Zp ⟨_,_,rfl,rfl,hg15⟩ ?_;refine Zp ⟨_,_,rfl,rfl,hg15⟩ ?_;refine Zp ⟨_,_,rfl,rfl,hg15⟩ ?_;refine Zp ⟨_,_,rfl,rfl,hg15⟩ ?_;refine Ze (X9 rfl hg15 rfl)<|Zm rfl<|Zp ⟨_,_,rfl,rfl,rfl⟩ ?_;refine Zp ⟨_,_,rfl,rfl,rfl⟩ ?_;refine Zp ⟨_,_,rfl,rfl,rfl⟩ ?_;refine Zp ⟨_,_,rfl,rfl,rfl⟩ ?_;refine Zp ⟨_,_,rfl,rfl,rfl⟩ ?_;refine Zp ⟨_,_,rfl,rfl,rfl⟩ ?_;refine Ze (X9 rfl rfl rfl) ?_;refine Zf (Vc (F59 _ false) Xh9) ?_;rintro _ _ ⟨rfl,rfl⟩;refine Ze (Xal rfl rfl (by split<;>decide) (by split<;>decide)) ?_;refine Zf (Vc (Xhr _ (4*(if false=true then 1 else 0)) (by split<;>rfl)) X7p) ?_;rintro _ w10 ⟨rfl,hE⟩;replace hBa:=hBa.below hE;replace hBb:=hBb.below hE;replace hB2:=hB2.below hE;replace hW:=btr hW hE;refine Zo (Vw [vi ((dPow (4*(if false=true then 1 else 0))).num.a),vi ((dPow (4*(if false=true then 1 else 0))).num.b),vi ((dPow (4*(if false=true then 1 else 0))).num.c),vi ((dPow (4*(if false=true then 1 else 0))).num.d),vi ((dPow (4*(if false=true then 1 else 0))).exp)] Xw hB2) ?_;rintro _ w11 ⟨ho,hb⟩;have hold:=hB2;replace hBa:=hBa.only ho (Blk.ne hBa hold rfl);replace hBb:=hBb.only ho (Blk.ne hBb hold rfl);replace hW:=Below.only hW ho hlo2;clear hold;have hB2:=hb;clear hb ho;refine Za rfl ?_;refine Zn fun a hf=>?_
    have hz9:(((g.k==10)&&((bitF n i g.a)==1))&&((bitF n i g.b)==1))=(false):=by simp [hc5b,hc11b,hc13b,hg15]
    have hB2:Blk w11 b2 98 [vi ((dPow (4*(if (((g.k==10)&&((bitF n i g.a)==1))&&((bitF n i g.b)==1))=true then 1 else 0))).num.a),vi ((dPow (4*(if (((g.k==10)&&((bitF n i g.a)==1))&&((bitF n i g.b)==1))=true then 1 else 0))).num.b),vi ((dPow (4*(if (((g.k==10)&&((bitF n i g.a)==1))&&((bitF n i g.b)==1))=true then 1 else 0))).num.c),vi ((dPow (4*(if (((g.k==10)&&((bitF n i g.a)==1))&&((bitF n i g.b)==1))=true then 1 else 0))).num.d),vi ((dPow (4*(if (((g.k==10)&&((bitF n i g.a)==1))&&((bitF n i g.b)==1))=true then 1 else 0))).exp)]:=by rw [hz9];exact hB2
    exact ⟨hf.sub ⟨rfl,rfl,trivial⟩,hBa,hBb,hB2,hW⟩
   rintro a w12 ⟨hf,hBa,hBb,hB2,hW⟩;refine hK14 _ _ ?_;refine wp_ret ?_;refine Xr ?_;refine X5 ?_;refine X3 hf (X15 hf rfl (ResV.cellN (l:=[vi ((dPow (4*(if (((g.k==10)&&((bitF n i g.a)==1))&&((bitF n i g.b)==1))=true then 1 else 0))).num.a),vi ((dPow (4*(if (((g.k==10)&&((bitF n i g.a)==1))&&((bitF n i g.b)==1))=true then 1 else 0))).num.b),vi ((dPow (4*(if (((g.k==10)&&((bitF n i g.a)==1))&&((bitF n i g.b)==1))=true then 1 else 0))).num.c),vi ((dPow (4*(if (((g.k==10)&&((bitF n i g.a)==1))&&((bitF n i g.b)==1))=true then 1 else 0))).num.d),vi ((dPow (4*(if (((g.k==10)&&((bitF n i g.a)==1))&&((bitF n i g.b)==1))=true then 1 else 0))).exp)]) rfl Xk (hB2.at 0) rfl) rfl) ?_;exact ⟨(by rw [hfin];try rfl),hW⟩
  have hc13b:=hc13
  have hfin:cellI n g i j=dZ:=by rw [cellI,if_neg hk,if_pos hk2,if_neg (X17 hc13)]
  refine wp_skip ?_;refine Xd ?_;refine hK3 _ _ ?_;refine Zs hf fun _ hK17=>?_;refine Ze (Xz (ps:=[]) (cs:=[vi 0,vi 0,vi 0,vi 0,vi 0]) rfl (fun _=>by first|rfl|kernel_rfl)) ?_;refine Zo (Vw [vi 0,vi 0,vi 0,vi 0,vi 0] Xw hB2) ?_;rintro _ w13 ⟨ho,hb⟩;have hold:=hB2;replace hBa:=hBa.only ho (Blk.ne hBa hold rfl);replace hBb:=hBb.only ho (Blk.ne hBb hold rfl);replace hW:=Below.only hW ho hlo2;clear hold;have hB2:=hb;clear hb ho;refine Za rfl ?_;refine Zt hK17 fun a hf=>?_
  refine wp_ret (X3 hf (X15 hf rfl (ResV.cellN (l:=[vi 0,vi 0,vi 0,vi 0,vi 0]) rfl Xk (hB2.at 0) rfl) rfl) ?_)
  exact ⟨(by rw [hfin];try rfl),hW⟩
 have hc11b:=hc11
 have hk2:¬ inR g.k 9 11=true:=by rw [hc11];simp
 have hk8:g.k≤8:=by have h9:¬ (9≤g.k∧g.k≤11):=(fun h=>hk2 (Xo.2 h));omega
 refine wp_seq_k fun _ hK18=>?_;refine X08 (fun a w=>Fr a 75 [(0,vi i),(1,vi j),(2,.pointer (some ⟨ba,0,none⟩)),(3,.pointer (some ⟨bb,0,none⟩)),(6,.pointer (some ⟨b2,0,none⟩)),(48,.bool ((i==j)||((flipF n i g.a)==j)))]∧w1=w) ?_ ?_
 ·refine Zr hf ?_;refine Zm rfl<|Zm rfl<|Ze (X0u rfl rfl)<|Zm rfl ?_
  refine Zg 52 rfl (fun hg19=>?_) (fun hg19=>?_)
  ·refine Zp ⟨_,_,rfl,rfl,hg19⟩ ?_;refine Zp ⟨_,_,rfl,rfl,hg19⟩ ?_;refine Zp ⟨_,_,rfl,rfl,hg19⟩ ?_;refine Zp ⟨_,_,rfl,rfl,hg19⟩ ?_;refine Zp ⟨_,_,rfl,rfl,hg19⟩ ?_;refine Zp ⟨_,_,rfl,rfl,hg19⟩ ?_;refine Zp ⟨_,_,rfl,rfl,hg19⟩ ?_;refine Ze (Xb rfl hg19 rfl)<|Za rfl ?_;refine Zn fun a hf=>?_;exact ⟨hf.sub ⟨rfl,rfl,rfl,rfl,rfl,X1 rfl (by first|rfl|(simp only [hc5b,hc11b,hg19,bs];done)|simp [hc5b,hc11b,hg19]),trivial⟩,rfl⟩
  refine Zv ⟨_,_,rfl,rfl,hg19⟩ (X0 rfl X4 (hBb.at 0)) ?_;refine Zv ⟨_,_,rfl,rfl,hg19⟩ (X2 rfl) ?_;refine Zv ⟨_,_,rfl,rfl,hg19⟩ (Vd rfl X0r 1) ?_;refine Zv ⟨_,_,rfl,rfl,hg19⟩ (X0 rfl X4 (hBa.at 1)) ?_;refine Zk ⟨_,_,rfl,rfl,hg19⟩ (Vc (Xnd _ n i g.a (by omega) (by omega) (by omega)) Xbm) ?_;rintro _ _ ⟨rfl,rfl⟩;refine Zv ⟨_,_,rfl,rfl,hg19⟩ (X2 rfl) ?_;refine Zv ⟨_,_,rfl,rfl,hg19⟩ (X0u rfl rfl) ?_;refine Ze (X9 rfl hg19 rfl)<|Za rfl ?_;refine Zn fun a hf=>?_;exact ⟨hf.sub ⟨rfl,rfl,rfl,rfl,rfl,X1 rfl (by first|rfl|(simp only [hc5b,hc11b,hg19,bs];done)|simp [hc5b,hc11b,hg19]),trivial⟩,rfl⟩
 rintro a _ ⟨hf,rfl⟩;refine hK18 _ _ ?_
 refine Xe hf rfl (fun hc20=>?_) (fun hc20=>?_)
 ·have hc20b:=hc20
  have hfin:cellI n g i j=entryI g.k (bitF n i g.a) (bitF n j g.a):=by rw [cellI,if_neg hk,if_neg hk2,if_pos (by simpa using hc20)]
  refine wp_seq_k fun _ hK21=>?_;refine X05 none (fun j=>[13].contains j) mixed ?_;intro w14 hE;replace hBa:=hBa.below hE;replace hBb:=hBb.below hE;replace hB2:=hB2.below hE;replace hW:=btr hW hE;refine Yb hf ?_;refine Yo 0 rfl (fun _=>Vd rfl X0i 0)<|Ye 1 rfl (X0 rfl X4 (hBa.at 0))<|Ye 2 rfl (X0 rfl X4 (hBb.at 0))<|Yo 3 rfl (fun _=>X2 rfl)<|Yo 4 rfl (fun _=>Vd rfl X0r 1) ?_;refine Ye 5 rfl (X0 rfl X4 (hBa.at 1))<|Ye 7 rfl (X0 rfl X4 (hBb.at 0))<|Yo 8 rfl (fun _=>X2 rfl)<|Yo 9 rfl (fun _=>Vd rfl X0r 1)<|Ye 10 rfl (X0 rfl X4 (hBa.at 1)) ?_;refine Y1 6 ?_;refine Yz rfl trivial (Vc (Xij _ n i g.a (by omega) (by omega) (by omega)) X7v) ?_;refine Y1 11 ?_;refine Yz rfl trivial (Vc (Xij _ n j g.a (by omega) (by omega) (by omega)) X7v) ?_;refine Y1 12 ?_;refine Yk rfl trivial (Vc (Xv3 _ g.k (bitF n i g.a) (bitF n j g.a) (by omega) hb01) Xra) (fun _ _ ⟨_,hE⟩=>hE) ?_;rintro _ w15 ⟨rfl,hE⟩;replace hBa:=hBa.below hE;replace hBb:=hBb.below hE;replace hB2:=hB2.below hE;replace hW:=btr hW hE;refine Y1 13 ?_;refine Yh rfl trivial rfl (Vw [vi ((entryI g.k (bitF n i g.a) (bitF n j g.a)).num.a),vi ((entryI g.k (bitF n i g.a) (bitF n j g.a)).num.b),vi ((entryI g.k (bitF n i g.a) (bitF n j g.a)).num.c),vi ((entryI g.k (bitF n i g.a) (bitF n j g.a)).num.d),vi ((entryI g.k (bitF n i g.a) (bitF n j g.a)).exp)] Xw hB2) ?_;rintro _ w16 ⟨ho,hb⟩;have hold:=hB2;replace hBa:=hBa.only ho (Blk.ne hBa hold rfl);replace hBb:=hBb.only ho (Blk.ne hBb hold rfl);replace hW:=Below.only hW ho hlo2;clear hold;have hB2:=hb;clear hb ho;refine Yo 14 rfl (fun _=>X1s rfl) ?_;refine Yd fun a hf=>?_;refine hK21 _ _ ?_;refine wp_ret ?_;refine Xr ?_;refine X5 ?_;refine X3 hf (X15 hf rfl (ResV.cellN (l:=[vi ((entryI g.k (bitF n i g.a) (bitF n j g.a)).num.a),vi ((entryI g.k (bitF n i g.a) (bitF n j g.a)).num.b),vi ((entryI g.k (bitF n i g.a) (bitF n j g.a)).num.c),vi ((entryI g.k (bitF n i g.a) (bitF n j g.a)).num.d),vi ((entryI g.k (bitF n i g.a) (bitF n j g.a)).exp)]) rfl Xk (hB2.at 0) rfl) rfl) ?_
  exact ⟨(by rw [hfin];try rfl),hW⟩
 have hc20b:=hc20
 have hfin:cellI n g i j=dZ:=by rw [cellI,if_neg hk,if_neg hk2,if_neg (by simpa using hc20)]
 refine wp_skip ?_;refine Xd ?_;refine hK3 _ _ ?_;refine Zs hf fun _ hK22=>?_;refine Ze (Xz (ps:=[]) (cs:=[vi 0,vi 0,vi 0,vi 0,vi 0]) rfl (fun _=>by first|rfl|kernel_rfl)) ?_;refine Zo (Vw [vi 0,vi 0,vi 0,vi 0,vi 0] Xw hB2) ?_;rintro _ w17 ⟨ho,hb⟩;have hold:=hB2;replace hBa:=hBa.only ho (Blk.ne hBa hold rfl);replace hBb:=hBb.only ho (Blk.ne hBb hold rfl);replace hW:=Below.only hW ho hlo2;clear hold;have hB2:=hb;clear hb ho;refine Za rfl ?_;refine Zt hK22 fun a hf=>?_
 refine wp_ret (X3 hf (X15 hf rfl (ResV.cellN (l:=[vi 0,vi 0,vi 0,vi 0,vi 0]) rfl Xk (hB2.at 0) rfl) rfl) ?_)
 exact ⟨(by rw [hfin];try rfl),hW⟩
theorem Xtp(w0:World)(n:Int)(g:Gt) : Ret Tryz.prog 15 [vi n,.agg #[vi g.k,vi g.a,vi g.b]] w0 (fun v w=>∃ A c,v=.tuple #[mV A c ((gateI n g).getD mZ),.bool (gateI n g).isSome]∧Own w w0.heap.size 98 5 encD A c ((gateI n g).getD mZ).cells∧Below w0.heap.size w0 w):=by
 refine enter Tryz.func15 rfl 19 rfl rfl ?_;intro a hf
 have hW:Below w0.heap.size w0 w0:=Below.refl _ _
 refine Zs hf fun _ hK1=>?_;refine Zf (X0p (zs:=[vi n]) rfl rfl) ?_;rintro _ w1 ⟨b2,rfl,hl2,hE,hB2⟩;have hlo2:=Nat.le_trans hW.size hl2;replace hW:=btr hW hE;refine Zf (X0p (zs:=[vi g.k,vi g.a,vi g.b]) rfl rfl) ?_;rintro _ w2 ⟨b3,rfl,hl3,hE,hB3⟩;have hlo3:=Nat.le_trans hW.size hl3;replace hB2:=hB2.below hE;replace hW:=btr hW hE;refine Zf (Xa (zs:=[vi 0,vi 0,.slice none 0 0]) X1a rfl) ?_;rintro _ w3 ⟨b5,rfl,hl5,hE,hB5⟩;have hlo5:=Nat.le_trans hW.size hl5;replace hB2:=hB2.below hE;replace hB3:=hB3.below hE;replace hW:=btr hW hE;refine Za rfl ?_;refine Zt hK1 fun a hf=>?_;refine wp_seq_k fun _ hK6=>?_;refine Zs hf fun _ hK7=>?_;refine Ze (X0 rfl X4 (hB2.at 0))<|Ze (Vn Xt hB3) ?_;refine Zf (Vc (Xtn _ n g) Xjx) ?_;rintro _ w4 ⟨rfl,hE⟩;replace hB2:=hB2.below hE;replace hB3:=hB3.below hE;replace hB5:=hB5.below hE;replace hW:=btr hW hE;refine Ze (X16 rfl) ?_;refine Zt hK7 fun a hf=>?_
 refine Xe hf rfl (fun hc8=>?_) (fun hc8=>?_)
 ·have hc8b:=hc8
  have hn:¬ gOk n g=true:=by revert hc8;cases gOk n g<;>simp
  refine Zs hf fun _ hK9=>?_;refine Ze (Xz (ps:=[]) (cs:=[vi 0,vi 0,.slice none 0 0]) rfl (fun _=>by first|rfl|kernel_rfl)) ?_;refine Zo (Vw [vi 0,vi 0,.slice none 0 0] X1j hB5) ?_;rintro _ w5 ⟨ho,hb⟩;have hold:=hB5;replace hB2:=hB2.only ho (Blk.ne hB2 hold rfl);replace hB3:=hB3.only ho (Blk.ne hB3 hold rfl);replace hW:=Below.only hW ho hlo5;clear hold;have hB5:=hb;clear hb ho;refine Za rfl ?_;refine Zt hK9 fun a hf=>?_;refine wp_ret ?_;refine X5 ?_;refine X3 hf (X15 hf rfl (ResV.cellN (l:=[vi 0,vi 0,.slice none 0 0]) rfl X13 (hB5.at 0) rfl) rfl) ?_;exact ⟨none,0,by rw [gateI,if_neg hn];rfl,by rw [gateI,if_neg hn];exact (Own.nil _ _ _ _ _),hW⟩
 have hc8b:=hc8
 have hg:gOk n g=true:=by revert hc8;cases gOk n g<;>simp
 have hg2:=X11 hg
 obtain ⟨d,hd⟩ : ∃ d:Nat,d=2^n.toNat:=⟨_,rfl⟩
 refine wp_skip ?_;refine hK6 _ _ ?_;refine wp_seq_k fun _ hK11=>?_;refine X05 none (fun j=>[8].contains j) mixed ?_;intro w6 hE;replace hB2:=hB2.below hE;replace hB3:=hB3.below hE;replace hB5:=hB5.below hE;replace hW:=btr hW hE;refine Yb hf ?_;refine Ye 0 rfl (X0 rfl X4 (hB2.at 0))<|Yo 1 rfl (fun _=>Xgn (m:=n.toNat) (D:=d) rfl rfl (by omega) ⟨hd,by omega⟩)<|Ye 2 rfl (X0 rfl X4 (hB2.at 0))<|Yo 3 rfl (fun _=>Xgn (m:=n.toNat) (D:=d) rfl rfl (by omega) ⟨hd,by omega⟩)<|Yo 4 rfl (fun _=>X3n (vs:=[.pointer (some ⟨b3,0,none⟩),.pointer (some ⟨b2,0,none⟩)]) rfl) ?_;refine Y1 5 ?_;refine Yk rfl trivial (Vc (Xrq _ (d:Int) (d:Int) 68 [.pointer (some ⟨b3,0,none⟩),.pointer (some ⟨b2,0,none⟩)] Xr7 (fun i j=>some (cellI n g i j)) (fun i j w' hi hj hE'=>Xvs w' g n _ _ (hB3.below hE') (hB2.below hE') hg i j)) Xfd) (fun _ _ ⟨A12,c12,_,ho12,hE⟩=>hE) ?_;rintro _ w7 ⟨A12,c12,rfl,ho12,hE⟩;replace ho12:=ho12.lower hW.size;replace hB2:=hB2.below hE;replace hB3:=hB3.below hE;replace hB5:=hB5.below hE;replace hW:=btr hW hE;refine Yo 6 rfl (fun _=>X8 (vs:=[.agg #[vi (((matOf (d:Int) (d:Int) (fun i j=>some (cellI n g i j))).getD mZ).rows),vi (((matOf (d:Int) (d:Int) (fun i j=>some (cellI n g i j))).getD mZ).cols),.slice A12 (((matOf (d:Int) (d:Int) (fun i j=>some (cellI n g i j))).getD mZ).cells).length c12],.bool ((matOf (d:Int) (d:Int) (fun i j=>some (cellI n g i j))).isSome)]) rfl rfl)<|Yo 7 rfl (fun _=>X8 (vs:=[.agg #[vi (((matOf (d:Int) (d:Int) (fun i j=>some (cellI n g i j))).getD mZ).rows),vi (((matOf (d:Int) (d:Int) (fun i j=>some (cellI n g i j))).getD mZ).cols),.slice A12 (((matOf (d:Int) (d:Int) (fun i j=>some (cellI n g i j))).getD mZ).cells).length c12],.bool ((matOf (d:Int) (d:Int) (fun i j=>some (cellI n g i j))).isSome)]) rfl rfl) ?_;refine Y1 8 ?_;refine Yh rfl trivial rfl (Vw [vi (((matOf (d:Int) (d:Int) (fun i j=>some (cellI n g i j))).getD mZ).rows),vi (((matOf (d:Int) (d:Int) (fun i j=>some (cellI n g i j))).getD mZ).cols),.slice A12 (((matOf (d:Int) (d:Int) (fun i j=>some (cellI n g i j))).getD mZ).cells).length c12] X1j hB5) ?_;rintro _ w8 ⟨ho,hb⟩
 have hold:=hB5;replace hB2:=hB2.only ho (Blk.ne hB2 hold rfl);replace hB3:=hB3.only ho (Blk.ne hB3 hold rfl);replace ho12:=ho12.onlyT ho hold rfl;replace hW:=Below.only hW ho hlo5;clear hold;have hB5:=hb;clear hb ho;refine Yo 9 rfl (fun _=>X1s rfl) ?_;refine Yd fun a hf=>?_;refine hK11 _ _ ?_
 refine wp_ret (X3 hf (X15 hf rfl (ResV.cellN (l:=[vi (((matOf (d:Int) (d:Int) (fun i j=>some (cellI n g i j))).getD mZ).rows),vi (((matOf (d:Int) (d:Int) (fun i j=>some (cellI n g i j))).getD mZ).cols),.slice A12 (((matOf (d:Int) (d:Int) (fun i j=>some (cellI n g i j))).getD mZ).cells).length c12]) rfl X13 (hB5.at 0) rfl) rfl) ?_)
 have hfin:gateI n g=matOf (d:Int) (d:Int) fun i j=>some (cellI n g i j):=by rw [gateI,if_pos hg,hd]
 rw [hfin]
 exact ⟨A12,c12,rfl,ho12,hW⟩
end Go.Proofs.YtlfjcmldfbfdbaaGreat
namespace Go.Proofs
open Go.Shelf
def Tryz.lays189_ren:Go.Shelf.Ren:=⟨fun|189=>160|125=>191|257=>190|128=>215|129=>216|294=>206|295=>207|296=>208|297=>209|298=>210|299=>211|216=>212|300=>213|301=>214|328=>224|329=>225|330=>226|331=>227|332=>228|215=>229|343=>233|n=>n,fun|28=>66|3=>3|46=>165|0=>0|51=>218|53=>78|4=>4|183=>212|182=>211|131=>33|5=>5|9=>9|218=>223|222=>227|228=>229|229=>133|n=>n,fun|n=>n⟩
theorem Tryz.lays189:Go.Proofs.Lays.n189 Tryz.prog Tryz.lays189_ren:={
  mixed:=by kernel_rfl
  f125:=Tryz.func191.trans (congrArg some (by kernel_rfl))
  f128:=Tryz.func215.trans (congrArg some (by kernel_rfl))
  f129:=Tryz.func216.trans (congrArg some (by kernel_rfl))
  f189:=Tryz.func160.trans (congrArg some (by kernel_rfl))
  f215:=Tryz.func229.trans (congrArg some (by kernel_rfl))
  f216:=Tryz.func212.trans (congrArg some (by kernel_rfl))
  f257:=Tryz.func190.trans (congrArg some (by kernel_rfl))
  f294:=Tryz.func206.trans (congrArg some (by kernel_rfl))
  f295:=Tryz.func207.trans (congrArg some (by kernel_rfl))
  f296:=Tryz.func208.trans (congrArg some (by kernel_rfl))
  f297:=Tryz.func209.trans (congrArg some (by kernel_rfl))
  f298:=Tryz.func210.trans (congrArg some (by kernel_rfl))
  f299:=Tryz.func211.trans (congrArg some (by kernel_rfl))
  f300:=Tryz.func213.trans (congrArg some (by kernel_rfl))
  f301:=Tryz.func214.trans (congrArg some (by kernel_rfl))
  f328:=Tryz.func224.trans (congrArg some (by kernel_rfl))
  f329:=Tryz.func225.trans (congrArg some (by kernel_rfl))
  f330:=Tryz.func226.trans (congrArg some (by kernel_rfl))
  f331:=Tryz.func227.trans (congrArg some (by kernel_rfl))
  f332:=Tryz.func228.trans (congrArg some (by kernel_rfl))
  f343:=Tryz.func233.trans (congrArg some (by kernel_rfl))
  t0:=Tryz.underlying0
  a0:=Tryz.isAgg0
  z0:=Tryz.sizeOf0
  v0:=Tryz.zeroValue0
  t3:=Tryz.underlying3
  a3:=Tryz.isAgg3
  z3:=Tryz.sizeOf3
  v3:=Tryz.zeroValue3
  t4:=Tryz.underlying4
  a4:=Tryz.isAgg4
  z4:=Tryz.sizeOf4
  v4:=Tryz.zeroValue4
  t5:=Tryz.underlying5
  a5:=Tryz.isAgg5
  z5:=Tryz.sizeOf5
  v5:=Tryz.zeroValue5
  t9:=Tryz.underlying9
  a9:=Tryz.isAgg9
  z9:=Tryz.sizeOf9
  v9:=Tryz.zeroValue9
  t28:=Tryz.underlying66
  a28:=Tryz.isAgg66
  z28:=Tryz.sizeOf66
  v28:=Tryz.zeroValue66
  t46:=Tryz.underlying165
  a46:=Tryz.isAgg165
  z46:=Tryz.sizeOf165
  v46:=Tryz.zeroValue165
  t51:=Tryz.underlying218
  a51:=Tryz.isAgg218
  z51:=Tryz.sizeOf218
  v51:=Tryz.zeroValue218
  t53:=Tryz.underlying78
  a53:=Tryz.isAgg78
  z53:=Tryz.sizeOf78
  v53:=Tryz.zeroValue78
  t131:=Tryz.underlying33
  a131:=Tryz.isAgg33
  z131:=Tryz.sizeOf33
  v131:=Tryz.zeroValue33
  t182:=Tryz.underlying211
  a182:=Tryz.isAgg211
  z182:=Tryz.sizeOf211
  v182:=Tryz.zeroValue211
  t183:=Tryz.underlying212
  a183:=Tryz.isAgg212
  z183:=Tryz.sizeOf212
  v183:=Tryz.zeroValue212
  t218:=Tryz.underlying223
  a218:=Tryz.isAgg223
  z218:=Tryz.sizeOf223
  v218:=Tryz.zeroValue223
  t222:=Tryz.underlying227
  a222:=Tryz.isAgg227
  z222:=Tryz.sizeOf227
  v222:=Tryz.zeroValue227
  t228:=Tryz.underlying229
  a228:=Tryz.isAgg229
  z228:=Tryz.sizeOf229
  v228:=Tryz.zeroValue229
  t229:=Tryz.underlying133
  a229:=Tryz.isAgg133
  z229:=Tryz.sizeOf133
  v229:=Tryz.zeroValue133 }
open Go.Sort Go.RowKit in
theorem Tryz.slices_Sort_int(blk off cap:Nat)(zs:List Int)(w:World)(hH:Holds (Value.int .i64) w blk off zs.toArray)(hblk:blk<w.heap.size)(hsz:zs.length<4611686018427387904) :
    Calls Tryz.prog 160 #[.slice (some ⟨blk,off,none⟩) zs.length cap] w fun e w'=>
      e=.returned (.tuple #[])∧∃ n os,w'=grow (putRow (Value.int .i64) (Sort.ahead w n) blk off (zs.mergeSort fun x y=>decide (x≤y)).toArray) os:=Any.slices_Sort_int Tryz.lays189 blk off cap zs w hH hblk hsz
def Tryz.lays108_ren:Go.Shelf.Ren:=⟨fun|108=>196|n=>n,fun|28=>66|3=>3|0=>0|4=>4|n=>n,fun|n=>n⟩
def Tryz.lays107_ren:Go.Shelf.Ren:=⟨fun|107=>171|108=>196|n=>n,fun|28=>66|3=>3|4=>4|0=>0|n=>n,fun|n=>n⟩
def Tryz.laysNm220_ren:Go.Shelf.Ren:=⟨fun|20=>161|n=>n,fun|22=>66|3=>3|4=>4|0=>0|n=>n,fun|n=>n⟩
theorem Tryz.laysNm220:Go.Proofs.Lays2.n20 Tryz.prog Tryz.laysNm220_ren:={
  mixed:=by kernel_rfl
  f20:=Tryz.func161.trans (congrArg some (by kernel_rfl))
  t0:=Tryz.underlying0
  a0:=Tryz.isAgg0
  z0:=Tryz.sizeOf0
  v0:=Tryz.zeroValue0
  t3:=Tryz.underlying3
  a3:=Tryz.isAgg3
  z3:=Tryz.sizeOf3
  v3:=Tryz.zeroValue3
  t4:=Tryz.underlying4
  a4:=Tryz.isAgg4
  z4:=Tryz.sizeOf4
  v4:=Tryz.zeroValue4
  t22:=Tryz.underlying66
  a22:=Tryz.isAgg66
  z22:=Tryz.sizeOf66
  v22:=Tryz.zeroValue66
  i3:=by kernel_rfl }
open Go.RowKit Go.Lib Go.Sort in
theorem Tryz.slices_Compact_int(blk off cap:Nat)(zs:List Int)(w:World)(hH:Holds (Value.int .i64) w blk off zs.toArray)(hsz:zs.length≤9223372036854775807)(hcap:zs.length≤cap) :
    Calls Tryz.prog 161 #[.slice (some ⟨blk,off,none⟩) zs.length cap] w fun e w'=>e=.returned (.slice (some ⟨blk,off,none⟩) (Lib.compact zs).length cap)∧∃ q,w'=putRow (Value.int .i64) (Sort.ahead w q) blk off (Lib.compact zs++List.replicate (zs.length-(Lib.compact zs).length) 0).toArray:=Any.slices_Compact_int Tryz.laysNm220 blk off cap zs w hH hsz hcap
open Go.RowKit Go.Lib Go.Sort in
theorem Tryz.slices_Compact_int_empty(a:Option Addr)(cap:Nat)(w:World) :
    Calls Tryz.prog 161 #[.slice a 0 cap] w fun e w'=>e=.returned (.slice a 0 cap)∧w'=w:=Any.slices_Compact_int_empty Tryz.laysNm220 a cap w
end Go.Proofs
namespace Go.Proofs.YtlfjcmldfbfdbaaGreat
open Go.RowKit
section
variable {α : Type}
theorem X8b{enc:α→List Value}{sz:Nat}(hsz:∀ x,(enc x).length=sz){l:List α}{j:Nat}(hj:j<l.length*sz) : ∃ x,l[j/sz]? = some x∧(l.flatMap enc)[j]? = (enc x)[j % sz]?:=by
 have h0:0<sz:=by
  rcases Nat.eq_zero_or_pos sz with h|h
  ·subst h;simp at hj
  ·exact h
 have hk:j/sz<l.length:=Nat.div_lt_of_lt_mul (by rw [Nat.mul_comm];exact hj)
 refine ⟨l[j/sz],List.getElem?_eq_getElem hk,?_⟩
 have hm:j % sz<(enc l[j/sz]).length:=by rw [hsz];exact Nat.mod_lt _ h0
 have h1:=X63 hsz l (j/sz) _ (List.getElem?_eq_getElem hk) (j % sz) _ (List.getElem?_eq_getElem hm)
 rw [show j/sz*sz+j % sz=j from by rw [Nat.mul_comm];exact Nat.div_add_mod j sz] at h1
 rw [h1,List.getElem?_eq_getElem hm]
theorem Xa0{enc:α→List Value}{sz:Nat}(hsz:∀ x,(enc x).length=sz){z:Value}{z0:α}(hz:z.cells.toList=enc z0)(n:Nat) : madeCells z.cells (n*sz)=((List.replicate n z0).flatMap enc).toArray:=by
 have hs:z.cells.size=sz:=by rw [← hsz z0,← hz];simp
 apply Array.ext'
 apply List.ext_getElem?
 intro j
 by_cases hj:j<n*sz
 ·obtain ⟨x,hx,h1⟩:=X8b hsz (l:=List.replicate n z0) (j:=j) (by simpa using hj)
  obtain rfl:x=z0:=(List.eq_of_mem_replicate (List.mem_of_getElem? hx))
  have h0:0<sz:=by
   rcases Nat.eq_zero_or_pos sz with h|h
   ·subst h;simp at hj
   ·exact h
  have hm:j % sz<z.cells.size:=by rw [hs];exact Nat.mod_lt _ h0
  rw [List.toList_toArray,h1,← hz]
  simp only [madeCells,Array.getElem?_toList,Array.getElem?_map,Array.getElem?_range,hj,if_true,Option.map_some,hs]
  rw [getElem!_pos z.cells (j % sz) hm,Array.getElem?_eq_getElem hm]
 ·rw [List.getElem?_eq_none (by simp [madeCells];omega),List.toList_toArray,List.getElem?_eq_none (by rw [X04 hsz];simp;omega)]
theorem X50{enc:α→List Value}{sz:Nat}(hsz:∀ x,(enc x).length=sz) : ∀ (l:List α) (k:Nat) (x:α),k<l.length→splice (l.flatMap enc) (k*sz) (enc x)=(l.set k x).flatMap enc
 | [],k,x,h=>by simp at h
 | y::l,0,x,h=>by
  simp only [splice,Nat.zero_mul,List.take_zero,List.nil_append,Nat.zero_add,List.flatMap_cons,List.set_cons_zero]
  rw [hsz,← hsz y,List.drop_left]
 | y::l,k+1,x,h=>by
  have ih:=X50 hsz l k x (by simpa using h)
  unfold splice at ih ⊢
  have h1:(k+1)*sz=(enc y).length+k*sz:=by rw [hsz,Nat.add_mul];omega
  rw [h1]
  simp only [List.flatMap_cons,List.set_cons_succ]
  rw [List.take_length_add_append,show (enc y).length+k*sz+(enc x).length=(enc y).length+(k*sz+(enc x).length) from by omega,List.drop_length_add_append,List.append_assoc,List.append_assoc]
  rw [← ih,List.append_assoc]
end
section
variable {α : Type} {P : Program} {a : Act} {w : World} {n : Nat} {e : Env} {ty : TypeId} {pos : String} {af : Array Edge} {g : Option (Nat × Bool)} {d : Option Tmp}
theorem Xbh{T E sz bytes m:Nat}{x y:Operand}{enc:α→List Value}{z:Value}{z0:α}(hf:Fr a n e)(hx:ev e x=some (.int .i64 (m:Int)))(hy:ev e y=some (.int .i64 (m:Int)))(hT:SliceT P T E)(hi:InfoT P E sz bytes)(hz:ZeroT P E z)(hz0:z.cells.toList=enc z0)(hsz:∀ x,(enc x).length=sz)(hb:bytes*m≤281474976710656)(hm:m≤4611686018427387904) :
  Ef P ⟨d,.makeSlice T x y,ty,pos,af,g⟩ a w (fun v w'=>∃ b,v=.slice (some ⟨b,0,none⟩) m m∧w.heap.size≤b∧Below w.heap.size w w'∧Blk w' b E ((List.replicate m z0).flatMap enc)):=by
 obtain ⟨i,z1,hi1,hi2,hi3,hi4,hi5,hi6⟩:=hi;obtain ⟨i',hi1',hz1⟩:=hz
 rw [hi1] at hi1'
 injection hi1' with hi1'
 subst hi1'
 rw [hi2] at hz1
 injection hz1 with hz1
 subst hz1
 have hb':(i.bytes:Int)*(m:Int)≤281474976710656:=by
  have h:((i.bytes*m:Nat) : Int)≤281474976710656:=by rw [hi4];omega
  rwa [Int.natCast_mul] at h
 have hr:=run_make (P:=P) w T E i z1 hT hi1 hi2 .i64 .i64 m m (by omega) (Int.le_refl _) hb' (by omega)
 refine (Ef.of_run (v:=.slice (some ⟨w.heap.size,0,none⟩) m m) (w':=w.alloc (.cells ((List.replicate m z0).flatMap enc).toArray E)) ?_).mono fun v w' ⟨e1,e2⟩=>?_
 ·rw [hi3,Int.toNat_natCast,Xa0 hsz hz0] at hr
  simp [execOp,hf.ev hx,hf.ev hy,hr]
 ·subst e1;subst e2
  exact ⟨_,rfl,Nat.le_refl _,(Below.refl _ _).alloc (Nat.le_refl _) _,X7m w E _⟩
theorem X21{T E sz bytes m:Nat}{x y:Operand}{enc:α→List Value}{z:Value}{z0:α}(hx:ev e x=some (.int .i64 (m:Int)))(hy:ev e y=some (.int .i64 (m:Int)))(hT:SliceT P T E)(hi:InfoT P E sz bytes)(hz:ZeroT P E z)(hz0:z.cells.toList=enc z0)(hsz:∀ x,(enc x).length=sz)(hb:bytes*m≤281474976710656)(hm:m≤4611686018427387904) : EfW P ⟨d,.makeSlice T x y,ty,pos,af,g⟩ n e w (fun v w'=>∃ b,v=.slice (some ⟨b,0,none⟩) m m∧w.heap.size≤b∧Below w.heap.size w w'∧Blk w' b E ((List.replicate m z0).flatMap enc)):=fun a hf=>Xbh hf hx hy hT hi hz hz0 hsz hb hm
theorem Xa9{T E sz b m c k off:Nat}{x y:Operand}{i:Int}(hf:Fr a n e)(hx:ev e x=some (.slice (some ⟨b,0,none⟩) m c))(hy:ev e y=some (.int .i64 i))(hT:SliceT P T E)(hs:SizeT P E sz)(hi:i=(k:Int))(hk:k<m)(ho:k*sz=off) :
  Ev P ⟨d,.indexAddr T x y,ty,pos,af,g⟩ a w (.pointer (some ⟨b,off,none⟩)):=by
 have h:=X54 (P:=P) (w:=w) (d:=d) (ty:=ty) (pos:=pos) (af:=af) (g:=g) hf hx hy hT hs hi hk
 rwa [X1x,Nat.zero_add,ho] at h
theorem X5s{T E sz b m c k off:Nat}{x y:Operand}{i:Int}(hx:ev e x=some (.slice (some ⟨b,0,none⟩) m c))(hy:ev e y=some (.int .i64 i))(hT:SliceT P T E)(hs:SizeT P E sz)(hi:i=(k:Int))(hk:k<m)(ho:k*sz=off) : EvW P ⟨d,.indexAddr T x y,ty,pos,af,g⟩ n e w (.pointer (some ⟨b,off,none⟩)):=fun a hf=>Xa9 hf hx hy hT hs hi hk ho
theorem Xim{t T b k sz:Nat}{x y:Operand}{v:Value}{enc:α→List Value}{l:List α}{u:α}(hf:Fr a n e)(hx:ev e x=some (.pointer (some ⟨b,k*sz,none⟩)))(hy:ev e y=some v)(hs:SizeT P t sz)(hb:Blk w b T (l.flatMap enc))(hsz:∀ x,(enc x).length=sz)(hone:∀ x,(enc x).all one=true)(hv:v.cells.toList=enc u)(hk:k<l.length) :
  Ef P ⟨d,.store t x y,ty,pos,af,g⟩ a w (Stored w b T ((l.set k u).flatMap enc)):=by
 have hl:k*sz+sz≤(l.flatMap enc).length:=by
  rw [X04 hsz]
  have:=Nat.mul_le_mul_right sz (show k+1≤l.length by omega)
  rwa [Nat.add_mul,Nat.one_mul] at this
 exact X9v (vs:=enc u) hf hx hy hs hb hv (by rw [hsz];simp) (hone u) (by rw [Nat.ble_eq];exact hl) (X50 hsz l k u hk)
theorem X6y{t T b k sz:Nat}{x y:Operand}{v:Value}{enc:α→List Value}{l:List α}{u:α}(hx:ev e x=some (.pointer (some ⟨b,k*sz,none⟩)))(hy:ev e y=some v)(hs:SizeT P t sz)(hb:Blk w b T (l.flatMap enc))(hsz:∀ x,(enc x).length=sz)(hone:∀ x,(enc x).all one=true)(hv:v.cells.toList=enc u)(hk:k<l.length) : EfW P ⟨d,.store t x y,ty,pos,af,g⟩ n e w (Stored w b T ((l.set k u).flatMap enc)):=fun a hf=>Xim hf hx hy hs hb hsz hone hv hk
theorem Xfo{T E sz m c k:Nat}{x y:Operand}{A:Option Addr}{i:Int}(hf:Fr a n e)(hx:ev e x=some (.slice A m c))(hy:ev e y=some (.int .i64 i))(hT:SliceT P T E)(hs:SizeT P E sz)(hi:i=(k:Int))(hk:k≤c) :
  Ev P ⟨d,.slice T x none (some y) none,ty,pos,af,g⟩ a w (.slice A k c):=fun w' _=>by
 subst hi
 have h0:∀ p:Addr,p.add 0=p:=fun p=>by simp [Addr.add]
 simp [execOp,Instr.sliceAt,Instr.slice,Instr.sliceBounds,run_sliceBound,X0e hT,run_sizeOf' hs,hf.ev hx,hf.ev hy,hk,h0]
theorem Xbl{T E sz m c k:Nat}{x y:Operand}{A:Option Addr}{i:Int}(hf:Fr a n e)(hx:ev e x=some (.slice A m c))(hy:ev e y=some (.int .i64 i))(hT:SliceT P T E)(hs:SizeT P E sz)(hi:i=(k:Int))(hk:k≤m) :
  Ev P ⟨d,.slice T x (some y) none none,ty,pos,af,g⟩ a w (.slice (if c=k then A else A.map (·.add (k*sz))) (m-k) (c-k)):=fun w' _=>by
 subst hi
 simp [execOp,Instr.sliceAt,Instr.slice,Instr.sliceBounds,run_sliceBound,X0e hT,run_sizeOf' hs,hf.ev hx,hf.ev hy,hk]
end
section
variable {α : Type} {w : World} {B B0 : Nat} {E : TypeId} {sz : Nat} {enc : α → List Value} {A : Option Addr} {c : Nat} {l : List α}
theorem Xc3(hsz:∀ x,(enc x).length=sz)(k:Nat) : (l.take k).flatMap enc=(l.flatMap enc).take (k*sz):=by
 conv=>rhs;rw [← List.take_append_drop k l]
 rw [List.flatMap_append]
 by_cases hk:k≤l.length
 ·have:((l.take k).flatMap enc).length=k*sz:=by rw [X04 hsz,List.length_take,Nat.min_eq_left hk]
  rw [← this,List.take_left]
 ·rw [List.take_of_length_le (by omega),List.drop_of_length_le (by omega)]
  simp only [List.flatMap_nil,List.append_nil]
  rw [List.take_of_length_le (by rw [X04 hsz];exact Nat.mul_le_mul_right _ (by omega))]
theorem X6h(hsz:∀ x,(enc x).length=sz)(k:Nat) : (l.drop k).flatMap enc=(l.flatMap enc).drop (k*sz):=by
 conv=>rhs;rw [← List.take_append_drop k l]
 rw [List.flatMap_append]
 by_cases hk:k≤l.length
 ·have:((l.take k).flatMap enc).length=k*sz:=by rw [X04 hsz,List.length_take,Nat.min_eq_left hk]
  rw [← this,List.drop_left]
 ·have h1:l.drop k=[]:=List.drop_of_length_le (by omega)
  rw [h1,List.flatMap_nil,List.append_nil,List.drop_of_length_le (by rw [X04 hsz,List.length_take];exact Nat.mul_le_mul_right _ (by omega))]
theorem Rd.takeK(hsz:∀ x,(enc x).length=sz)(h:Rd w B E enc A l)(k:Nat) : Rd w B E enc A (l.take k):=fun hl=>by
 have hl':l≠[]:=by rintro rfl;simp at hl
 obtain ⟨b,off,cs,fz,h1,h2,h3,h4⟩:=h hl'
 refine ⟨b,off,cs,fz,h1,h2,h3,fun j v hj=>h4 j v ?_⟩
 rw [Xc3 hsz,List.getElem?_take] at hj
 split at hj
 ·exact hj
 ·cases hj
theorem Rd.dropK(hsz:∀ x,(enc x).length=sz)(h:Rd w B E enc A l)(hc:l.length≤c)(k:Nat) : Rd w B E enc (if c=k then A else A.map (·.add (k*sz))) (l.drop k):=fun hl=>by
 have hk:k<l.length:=by
  rcases Nat.lt_or_ge k l.length with h'|h'
  ·exact h'
  ·exact absurd (List.drop_of_length_le h') hl
 have hl':l≠[]:=by rintro rfl;simp at hk
 obtain ⟨b,off,cs,fz,h1,h2,h3,h4⟩:=h hl'
 rw [if_neg (by omega),h1]
 refine ⟨b,off+k*sz,cs,fz,by rw [Option.map_some,X1x],h2,h3,fun j v hj=>?_⟩
 rw [X6h hsz,List.getElem?_drop] at hj
 rw [Nat.add_assoc]
 exact h4 _ v hj
theorem Xle{P:Program}{a:Act}{n:Nat}{e:Env}{ty:TypeId}{pos:String}{af:Array Edge}{g:Option (Nat×Bool)}{d:Option Tmp}{T k:Nat}{x y:Operand}{i:Int}(hf:Fr a n e)(hx:ev e x=some (.slice A l.length c))(hy:ev e y=some (.int .i64 i))(hT:SliceT P T E)(hs:SizeT P E sz)(hi:i=(k:Int))(hk:k≤l.length)(hc:l.length≤c) :
  Ev P ⟨d,.slice T x none (some y) none,ty,pos,af,g⟩ a w (.slice A (l.take k).length c):=by
 rw [List.length_take,Nat.min_eq_left hk]
 exact Xfo hf hx hy hT hs hi (by omega)
theorem X8z{P:Program}{n:Nat}{e:Env}{ty:TypeId}{pos:String}{af:Array Edge}{g:Option (Nat×Bool)}{d:Option Tmp}{T k:Nat}{x y:Operand}{i:Int}(hx:ev e x=some (.slice A l.length c))(hy:ev e y=some (.int .i64 i))(hT:SliceT P T E)(hs:SizeT P E sz)(hi:i=(k:Int))(hk:k≤l.length)(hc:l.length≤c) : EvW P ⟨d,.slice T x none (some y) none,ty,pos,af,g⟩ n e w (.slice A (l.take k).length c):=fun a hf=>Xle hf hx hy hT hs hi hk hc
theorem Xjr{P:Program}{a:Act}{n:Nat}{e:Env}{ty:TypeId}{pos:String}{af:Array Edge}{g:Option (Nat×Bool)}{d:Option Tmp}{T k:Nat}{x y:Operand}{i:Int}(hf:Fr a n e)(hx:ev e x=some (.slice A l.length c))(hy:ev e y=some (.int .i64 i))(hT:SliceT P T E)(hs:SizeT P E sz)(hi:i=(k:Int))(hk:k≤l.length) :
  Ev P ⟨d,.slice T x (some y) none none,ty,pos,af,g⟩ a w (.slice (if c=k then A else A.map (·.add (k*sz))) (l.drop k).length (c-k)):=by
 rw [List.length_drop]
 exact Xbl hf hx hy hT hs hi hk
theorem Xll{P:Program}{n:Nat}{e:Env}{ty:TypeId}{pos:String}{af:Array Edge}{g:Option (Nat×Bool)}{d:Option Tmp}{T k:Nat}{x y:Operand}{i:Int}(hx:ev e x=some (.slice A l.length c))(hy:ev e y=some (.int .i64 i))(hT:SliceT P T E)(hs:SizeT P E sz)(hi:i=(k:Int))(hk:k≤l.length) : EvW P ⟨d,.slice T x (some y) none none,ty,pos,af,g⟩ n e w (.slice (if c=k then A else A.map (·.add (k*sz))) (l.drop k).length (c-k)):=fun a hf=>Xjr hf hx hy hT hs hi hk
theorem Own.cap(h:Own w B0 E sz enc A c l) : l.length≤c:=by
 rcases h.2 with ⟨h1,h2⟩|⟨g,cap,cur,h1,h2,h3,h4,h5,h6⟩
 ·omega
 ·injection h1 with _ _ h1
  omega
theorem Own.of_flat(hsz:∀ x,(enc x).length=sz){b m:Nat}(h:Blk w b E (l.flatMap enc))(hb:B0≤b)(hl:l.length=m)(hk:m≤maxLen) : Own w B0 E sz enc (some ⟨b,0,none⟩) m l:=Own.of_blkL hsz h hb rfl hl hk
end
theorem Kept.app{α:Type}{b B B0:Nat}{w0 w w':World}{E:TypeId}{sz:Nat}{enc:α→List Value}{A:Option Addr}{c:Nat}{l:List α}(h:Kept b B w0 w)(ho:Own w B0 E sz enc A c l)(hg:w.grownBy w' (Value.slice A l.length c).ownBlock)(hB:B≤B0)(hs:B≤w.heap.size) : Kept b B w0 w':=
 ⟨hg.os.trans h.os,hg.tape.trans h.tape,hg.output.trans h.output,Nat.le_trans h.size hg.size,fun k hk hne=>(hg.block k (by omega) fun hk'=>by have:=(ho.block hk'.symm).1;omega).trans (h.block k hk hne)⟩
end Go.Proofs.YtlfjcmldfbfdbaaGreat
namespace Go.Proofs.YtlfjcmldfbfdbaaGreat
open Go.RowKit Go.Sort
theorem X5x{w:World}{g n:Nat}{os:Array Obj}{cur:Array Value}{e:TypeId}{fr:Nat×Nat}(d:Array Int)(hb:w.heap[g]? = some (.cells cur e fr)) :
  (grow (putRow (Value.int .i64) (Sort.ahead w n) g 0 d) os).heap[g]? = some (.cells (putCells (Value.int .i64) 0 d cur) e fr):=by
 have hg:g<w.heap.size:=(Array.getElem?_eq_some_iff.1 hb).1
 rw [heap_grow_old _ _ (by simpa using hg)]
 simp [putRow,mapBlock,Sort.ahead,Array.getElem?_modify,hb,onCells]
theorem X4y{w:World}{g n:Nat}{os:Array Obj}(d:Array Int) : w.grownBy (grow (putRow (Value.int .i64) (Sort.ahead w n) g 0 d) os) (some g):=by
 refine ⟨rfl,rfl,rfl,by simp,fun k hk hne=>?_⟩
 rw [heap_grow_old _ _ (by simpa using hk)]
 have:g≠k:=fun e=>hne (by rw [e])
 simp [putRow,mapBlock,Sort.ahead,Array.getElem?_modify,this]
theorem Xaf(l:List Int) : l.flatMap encI=l.map (Value.int .i64):=by
 induction l with
 | nil=>rfl
 | cons x l ih=>simp only [List.flatMap_cons,List.map_cons,ih];rfl
theorem Xeq(cur:Array Value)(d ts:List Int)(h:d.length≤cur.size)(ht:d.take ts.length=ts) : (putCells (Value.int .i64) 0 d.toArray cur).toList.take (ts.length*1)=ts.flatMap encI:=by
 have hl:ts.length≤d.length:=by
  have:=congrArg List.length ht
  rw [List.length_take] at this
  omega
 rw [Xaf,Nat.mul_one]
 apply List.ext_getElem?
 intro j
 by_cases hj:j<ts.length
 ·rw [List.getElem?_take_of_lt hj,Array.getElem?_toList]
  have h1:ts[j]? = d[j]?:=by
   conv=>lhs;rw [← ht]
   rw [List.getElem?_take_of_lt hj]
  have h2:j<d.length:=by omega
  rw [List.getElem?_map,h1]
  simp [putCells,h2,show j<cur.size by omega]
 ·rw [List.getElem?_take_eq_none (by omega),List.getElem?_eq_none (by simp;omega)]
theorem Xap{w:World}{g:Nat}{cur:Array Value}{e:TypeId}{l:List Int}(hb:w.heap[g]? = some (.cells cur e (0,0)))(ht:cur.toList.take (l.length*1)=l.flatMap encI) : Holds (Value.int .i64) w g 0 l.toArray:=by
 intro j hj
 have hj':j<l.length:=by simpa using hj
 refine ⟨?_,by simp [World.frozen?,hb]⟩
 rw [Xaf,Nat.mul_one] at ht
 have h1:(cur.toList.take l.length)[j]? = (l.map (Value.int .i64))[j]?:=by rw [ht]
 rw [List.getElem?_take_of_lt hj'] at h1
 simp only [World.cell?,hb,Nat.zero_add]
 simp only [Option.isSome_none,Bool.false_eq_true,if_false]
 rw [← Array.getElem?_toList,h1]
 simp [hj']
def sortI(l:List Int) : List Int:=l.mergeSort fun x y=>decide (x≤y)
theorem F94(w0:World)(B0:Nat)(A:Option Addr)(c:Nat)(l:List Int)(ho:Own w0 B0 3 1 encI A c l)(hl:l.length≤1000000000) :
  Ret Tryz.prog 160 [.slice A l.length c] w0 (fun _ w=>Own w B0 3 1 encI A c (sortI l)∧w0.grownBy w (Value.slice A l.length c).ownBlock):=by
 by_cases h0:l=[]
 ·subst h0
  refine Calls.mono (Any.slices_Sort_int_none Tryz.lays189 A c w0) fun e w ⟨e1,e2⟩=>⟨_,e1,?_⟩
  subst e2
  exact ⟨by simpa [sortI] using ho,World.grownBy.refl w _⟩
 ·rcases ho.2 with ⟨h1,h2⟩|⟨g,cap,cur,h1,h2,h3,h4,h5,h6,h7⟩
  ·exact absurd (List.eq_nil_of_length_eq_zero h2) h0
  ·injection h1 with h1 _ h1''
   subst h1;subst h1''
   have hs:(sortI l).length=l.length:=by simp [sortI]
   refine Calls.mono (Tryz.slices_Sort_int g 0 c l w0 (Xap h3 h7) (Array.getElem?_eq_some_iff.1 h3).1 (by omega)) fun e w ⟨e1,n,os,e2⟩=>⟨_,e1,?_⟩
   subst e2
   refine ⟨⟨X04 X6 _,.inr ⟨g,c,_,by rw [hs],h2,X5x _ h3,by omega,h5,by simp [putCells,h6],?_⟩⟩,?_⟩
   ·exact Xeq cur (sortI l) (sortI l) (by omega) List.take_length
   ·exact X4y _
theorem Xdl(l:List Int) : (Lib.compact l).length≤l.length:=by
 unfold Lib.compact Lib.compactUpTo
 rw [List.length_map]
 exact Nat.le_trans (List.length_filter_le _ _) (by simp)
theorem F95(w0:World)(B0:Nat)(A:Option Addr)(c:Nat)(l:List Int)(ho:Own w0 B0 3 1 encI A c l)(hl:l.length≤1000000000) :
  Ret Tryz.prog 161 [.slice A l.length c] w0 (fun v w=>v=.slice A (Lib.compact l).length c∧Own w B0 3 1 encI A c (Lib.compact l)∧w0.grownBy w (Value.slice A l.length c).ownBlock):=by
 by_cases h0:l=[]
 ·subst h0
  refine Calls.mono (Tryz.slices_Compact_int_empty A c w0) fun e w ⟨e1,e2⟩=>⟨_,e1,?_⟩
  subst e2
  exact ⟨rfl,ho,World.grownBy.refl w _⟩
 ·rcases ho.2 with ⟨h1,h2⟩|⟨g,cap,cur,h1,h2,h3,h4,h5,h6,h7⟩
  ·exact absurd (List.eq_nil_of_length_eq_zero h2) h0
  ·injection h1 with h1 _ h1''
   subst h1;subst h1''
   have hc:=Xdl l
   refine Calls.mono (Tryz.slices_Compact_int g 0 c l w0 (Xap h3 h7) (by omega) h4) fun e w ⟨e1,q,e2⟩=>⟨_,e1,rfl,?_⟩
   have e3:w=grow (putRow (Value.int .i64) (Sort.ahead w0 q) g 0 (Lib.compact l++List.replicate (l.length-(Lib.compact l).length) 0).toArray) #[]:=by rw [grow_empty];exact e2
   subst e3
   refine ⟨⟨X04 X6 _,.inr ⟨g,c,_,rfl,h2,X5x _ h3,by omega,h5,by simp [putCells,h6],?_⟩⟩,?_⟩
   ·exact Xeq cur _ (Lib.compact l) (by simp;omega) List.take_left
   ·exact X4y _
theorem Xvi(w0:World)(B0:Nat)(A:Option Addr)(c:Nat)(l:List Int)(m:Nat)(hm:m=l.length)(ho:Own w0 B0 3 1 encI A c l)(hl:l.length≤1000000000) :
  Ret Tryz.prog 161 [.slice A m c] w0 (fun v w=>v=.slice A (Lib.compact l).length c∧Own w B0 3 1 encI A c (Lib.compact l)∧w0.grownBy w (Value.slice A l.length c).ownBlock):=by
 subst hm
 exact F95 w0 B0 A c l ho hl
def growRen:Go.Shelf.Ren:=⟨fun|4=>189|n=>n,fun|22=>66|25=>3|n=>n,fun|n=>n⟩
theorem Xgi:Lays8.n4 Tryz.prog growRen:={
 mixed:=by kernel_rfl
 f4:=⟨Tryz.f189.name,by decide,Tryz.func189.trans (congrArg some (by kernel_rfl))⟩
 t0:=Tryz.underlying0
 a0:=Tryz.isAgg0
 z0:=Tryz.sizeOf0
 v0:=Tryz.zeroValue0
 t3:=Tryz.underlying3
 a3:=Tryz.isAgg3
 z3:=Tryz.sizeOf3
 v3:=Tryz.zeroValue3
 t4:=Tryz.underlying4
 a4:=Tryz.isAgg4
 z4:=Tryz.sizeOf4
 v4:=Tryz.zeroValue4
 t9:=Tryz.underlying9
 a9:=Tryz.isAgg9
 z9:=Tryz.sizeOf9
 v9:=Tryz.zeroValue9
 t20:=Tryz.underlying20
 a20:=Tryz.isAgg20
 z20:=Tryz.sizeOf20
 v20:=Tryz.zeroValue20
 t22:=Tryz.underlying66
 a22:=Tryz.isAgg66
 z22:=Tryz.sizeOf66
 v22:=Tryz.zeroValue66 }
theorem Xvz(w0:World)(n:Nat)(hn:n≤1000000000) : Ret Tryz.prog 189 [.slice none 0 0,.int .i64 (n:Int)] w0 (fun v w=>∃ A c,v=.slice A 0 c∧Own w w0.heap.size 3 1 encI A c ([] : List Int)∧Below w0.heap.size w0 w):=by
 by_cases h0:n=0
 ·subst h0
  refine Calls.mono (Any8.slices_Grow_room Xgi none 0 0 0 w0 (by omega) (by omega) (by omega) (by omega)) fun e w ⟨e1,e2⟩=>⟨_,e1,none,0,rfl,?_⟩
  subst e2
  exact ⟨Own.nil _ _ _ _ _,Below.refl _ _⟩
 ·obtain ⟨i,z,hi1,hi2,hi3,hi4,hi5,hi6⟩:=X19
  refine Calls.mono (Any8.slices_Grow_grow Xgi i z hi1 hi2 (by omega) none 0 0 n [] w0 (by omega) (by omega) (by rw [hi4];omega) (by omega) (by simp) (fun _=>rfl) (fun a h=>by cases h)) fun e w ⟨e1,e2⟩=>⟨_,e1,_,_,rfl,?_⟩
  subst e2
  have hge:=grownCap_ge w0 (0+n) 0 (growRen.t 25)
  refine ⟨⟨rfl,.inr ⟨w0.heap.size,_,_,rfl,Nat.le_refl _,heap_alloc_new w0.drew _,Nat.zero_le _,grownCap_le_maxLen w0 _ _ _ (by simp only [maxLen];omega),?_,by simp⟩⟩,((Below.refl _ _).drew).alloc (Nat.le_refl _) _⟩
  simp only [Array.size_append,List.size_toArray,size_zeroCells,hi5,List.length_nil,Nat.zero_add,Nat.mul_one] at hge ⊢
  omega
end Go.Proofs.YtlfjcmldfbfdbaaGreat
namespace Go.Proofs.YtlfjcmldfbfdbaaGreat
open Go.RowKit
structure Sl where (A:Option Addr) (c:Nat) (l:List Int)
def encS(s:Sl) : List Value:=[.slice s.A s.l.length s.c]
theorem X3u:∀ x,(encS x).length=1:=fun _=>rfl
theorem Xjn:∀ x,(encS x).all one=true:=fun _=>rfl
structure Rp where (pos:Int) (old new:List Gt)
theorem Xb8{α β:Type}{f:α→List β}{l:List α}{k:Nat}{u:α}(h:l[k]? = some u) : (l.take (k+1)).flatMap f=(l.take k).flatMap f++f u:=by
 rw [List.take_add_one,h]
 simp
theorem Xc4{α β:Type}(f:α→List β)(l:List α)(k:Nat) : ((l.take k).flatMap f).length≤(l.flatMap f).length:=by
 conv=>rhs;rw [← List.take_append_drop k l]
 rw [List.flatMap_append,List.length_append]
 omega
theorem Xie{α β:Type}(f:α→List β){l:List α}{k:Nat}(h:l.length≤k) : (l.take k).flatMap f=l.flatMap f:=by rw [List.take_of_length_le h]
def unionI(p q:List Int) : List Int:=Lib.compact (sortI (p++(q++[])))
def qubI(g:Gt) : List Int:=if g.k=12 then [] else if inR g.k 9 11=true then [g.a,g.b] else [g.a]
def usedI(l:List Gt) : List Int:=unionI (l.flatMap qubI) []
theorem X2z(g:Gt) : (qubI g).length≤2:=by unfold qubI;split<;>(try split)<;>simp
def setAll:List Int→Nat→List Int→List Int
 | [],_,to=>to
 | q::l,i,to=>setAll l (i+1) (to.set q.toNat (i:Int))
def numbI(l:List Int) : List Int:=setAll l 0 [0,0,0,0,0]
theorem X9w:∀ (l:List Int) (i:Nat) (to:List Int),(setAll l i to).length=to.length
 | [],_,_=>rfl
 | _::l,i,to=>by rw [setAll,X9w l];simp
theorem X8d:∀ (l:List Int) (q:Int) (i:Nat) (to:List Int),setAll (l++[q]) i to=(setAll l i to).set q.toNat ((i+l.length:Nat) : Int)
 | [],q,i,to=>by simp [setAll]
 | x::l,q,i,to=>by
  rw [List.cons_append,setAll,setAll,X8d l]
  congr 2
  simp only [List.length_cons]
  omega
theorem Xaz{l:List Int}{k:Nat}{u:Int}(h:l[k]? = some u) : numbI (l.take (k+1))=(numbI (l.take k)).set u.toNat (k:Int):=by
 have hk:=(List.getElem?_eq_some_iff.1 h).1
 unfold numbI
 rw [List.take_add_one,h,Option.toList_some,X8d,List.length_take,Nat.min_eq_left (by omega),Nat.zero_add]
theorem Xcu(l:List Int) : (numbI l).length=5:=by rw [numbI,X9w];rfl
def mapG(to:List Int)(g:Gt) : Gt:=⟨g.k,if g.k=12 then g.a else to.getD g.a.toNat 0,if inR g.k 9 11=true then to.getD g.b.toNat 0 else g.b⟩
def mapI(l:List Gt)(to:List Int) : List Gt:=l.map (mapG to)
theorem Xm2{α β:Type}{f:α→β}{l:List α}{k:Nat}{u:α}(h:l[k]? = some u) : (l.take (k+1)).map f=(l.take k).map f++[f u]:=by
 rw [List.take_add_one,h]
 simp
theorem X1g{l:List Int}{k:Nat}(h:k<l.length) : l[k]? = some (l.getD k 0):=by
 rw [List.getD_eq_getElem?_getD,List.getElem?_eq_getElem h];rfl
def vrI(n:Int)(r:Rp) : Bool:=inR n 1 5&&inR r.pos 0 400&&decide ((r.old.length:Int)≤40)&&decide ((r.new.length:Int)≤40)&&!(r.old.any fun x=>!gOk n x)&&!(r.new.any fun x=>!gOk n x)
end Go.Proofs.YtlfjcmldfbfdbaaGreat
