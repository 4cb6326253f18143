/-
  What is proved: for all drawn certificates, an accepted one leads to a circuit with the same operator up to a phase, and joined certificates remain accepted: the law returns true at every input and leaves its arguments as they were. Conditions: none.
-/
import Derived.Test.YtlfjcmldfbfdbaaGreatW2
import Derived.Shelf.Sort.Plain
import Derived.Shelf.Slices.Turned
import Derived.Ground.Names2Prog
import Derived.Shelf.Slices.Clone
import Derived.Shelf.Slices.CompactI
import Derived.Shelf.Slices.Cells
import Derived.Test.YtlfjcmldfbfdbaaGreatProg
import Derived.Test.YtlfjcmldfbfdbaaGreatW1
import Derived.Shelf.Spec.SlicesGrow
import Derived.Laws.MakeOwn
import Derived.Laws.Slices
import Derived.Shelf.Slices.In.SortNone
set_option linter.unusedVariables false
set_option linter.unusedSimpArgs false
set_option maxRecDepth 4000
namespace Go.Proofs.YtlfjcmldfbfdbaaGreat
open Go.RowKit
theorem Xof(w0:World)(g:Gt)(n:Int)(ba bb:Nat)(hBa:Blk w0 ba 24 (encG g))(hBb:Blk w0 bb 3 [vi n])(hg:gOk n g=true)(i j:Int) : Ret Tryz.prog 68 [vi i,vi j,.pointer (some ⟨ba,0,none⟩),.pointer (some ⟨bb,0,none⟩)] w0 (fun v w=>v=.tuple #[dV (cellI n g i j),.bool true]∧Below w0.heap.size w0 w):=by
 have hltba:=hBa.lt
 have hltbb:=hBb.lt
 unfold encG at hBa
 have hg2:=X1p hg
 have hb01:=X2r n j g.a
 refine enter Tryz.func68 rfl 75 rfl rfl ?_
 intro a hf
 have hW:Below w0.heap.size w0 w0:=Below.refl _ _
 refine Zs hf fun _ hK1=>?_
 refine Zf (Xa (zs:=[vi 0,vi 0,vi 0,vi 0,vi 0]) X1n rfl) ?_;rintro _ w1 ⟨b2,rfl,hl2,hE,hB2⟩
 have hlo2:=Nat.le_trans hW.size hl2
 replace hBa:=hBa.below hE
 replace hBb:=hBb.below hE
 replace hW:=btr hW hE
 refine Za rfl ?_
 refine Zt hK1 fun a hf=>?_
 refine wp_seq_k fun _ hK3=>?_
 refine wp_block ?_
 refine Zs hf fun _ hK4=>?_
 refine Ze (Vd rfl X0g 0)<|Ze (X0 rfl X5 (hBa.at 0))<|Ze (X0u rfl rfl)<|Za rfl ?_
 refine Zt hK4 fun a hf=>?_
 refine Xi hf rfl (fun hc5=>?_) (fun hc5=>?_)
 ·have hc5b:=hc5
  have hk:=eq_of_beq hc5
  refine Zs hf fun _ hK6=>?_
  refine Zm rfl<|Zm rfl<|Ze (X0u rfl rfl) ?_
  refine Zt hK6 fun a hf=>?_
  refine Xi hf rfl (fun hc7=>?_) (fun hc7=>?_)
  ·have hc7b:=hc7
   have hfin:cellI n g i j=dPow 1:=by rw [cellI,if_pos hk,if_pos (eq_of_beq hc7)]
   refine Zs hf fun _ hK8=>?_
   refine Zf (Vc (Xb2 _ 1 (by rfl)) X4b) ?_;rintro _ w2 ⟨rfl,hE⟩
   replace hBa:=hBa.below hE
   replace hBb:=hBb.below hE
   replace hB2:=hB2.below hE
   replace hW:=btr hW hE
   refine Zo (Vw [vi ((dPow 1).num.a),vi ((dPow 1).num.b),vi ((dPow 1).num.c),vi ((dPow 1).num.d),vi ((dPow 1).exp)] Xr hB2) ?_;rintro _ w3 ⟨ho,hb⟩
   have hold:=hB2
   replace hBa:=hBa.only ho (Blk.ne hBa hold rfl)
   replace hBb:=hBb.only ho (Blk.ne hBb hold rfl)
   replace hW:=Below.only hW ho hlo2
   clear hold
   have hB2:=hb
   clear hb ho
   refine Za rfl ?_
   refine Zt hK8 fun a hf=>?_
   refine wp_ret ?_
   refine Xy ?_
   refine X8 ?_
   refine X2 hf (X0r hf rfl (ResV.cellN (l:=[vi ((dPow 1).num.a),vi ((dPow 1).num.b),vi ((dPow 1).num.c),vi ((dPow 1).num.d),vi ((dPow 1).exp)]) rfl Xg (hB2.at 0) rfl) rfl) ?_
   exact ⟨(by rw [hfin];try rfl),hW⟩
  have hc7b:=hc7
  have hfin:cellI n g i j=dZ:=by rw [cellI,if_pos hk,if_neg (X1c hc7)]
  refine wp_skip ?_
  refine Xf ?_
  refine hK3 _ _ ?_
  refine Zs hf fun _ hK9=>?_
  refine Ze (Xh (ps:=[]) (cs:=[vi 0,vi 0,vi 0,vi 0,vi 0]) rfl (fun _=>by first|rfl|kernel_rfl)) ?_
  refine Zo (Vw [vi 0,vi 0,vi 0,vi 0,vi 0] Xr hB2) ?_;rintro _ w4 ⟨ho,hb⟩
  have hold:=hB2
  replace hBa:=hBa.only ho (Blk.ne hBa hold rfl)
  replace hBb:=hBb.only ho (Blk.ne hBb hold rfl)
  replace hW:=Below.only hW ho hlo2
  clear hold
  have hB2:=hb
  clear hb ho
  refine Za rfl ?_
  refine Zt hK9 fun a hf=>?_
  refine wp_ret (X2 hf (X0r hf rfl (ResV.cellN (l:=[vi 0,vi 0,vi 0,vi 0,vi 0]) rfl Xg (hB2.at 0) rfl) rfl) ?_)
  exact ⟨(by rw [hfin];try rfl),hW⟩
 have hc5b:=hc5
 have hk:=X1c hc5
 have hga:=hg2.2.2.1 hk
 refine Zs hf fun _ hK10=>?_
 refine Ze (Vd rfl X0g 0)<|Ze (X0 rfl X5 (hBa.at 0)) ?_
 refine Zf (Vc (F99 _ g.k) Xas) ?_;rintro _ _ ⟨rfl,rfl⟩
 refine Za rfl ?_
 refine Zt hK10 fun a hf=>?_
 refine Xi hf rfl (fun hc11=>?_) (fun hc11=>?_)
 ·have hc11b:=hc11
  have hk2:=hc11
  have hgb:=hg2.2.2.2 (X02.1 hk2)
  refine Zs hf fun _ hK12=>?_
  refine Ze (X0 rfl X5 (hBb.at 0))<|Ze (Xj (l:=[vi g.k,vi g.a,vi g.b]) rfl X08 (hBa.at 0) rfl)<|Zm rfl ?_
  refine Zf (Vc (Xol _ n g i hg (X02.1 hk2)) Xl7) ?_;rintro _ w5 ⟨rfl,hE⟩
  replace hBa:=hBa.below hE
  replace hBb:=hBb.below hE
  replace hB2:=hB2.below hE
  replace hW:=btr hW hE
  refine Zm rfl<|Ze (X0u rfl rfl) ?_
  refine Zt hK12 fun a hf=>?_
  refine Xi hf rfl (fun hc13=>?_) (fun hc13=>?_)
  ·have hc13b:=hc13
   have hfin:cellI n g i j=dPow (4*(if czI n g i=true then 1 else 0)):=by rw [cellI,if_neg hk,if_pos hk2,if_pos (eq_of_beq hc13)]
   refine wp_seq_k fun _ hK14=>?_
   refine X09 (fun a w=>Fr a 75 [(6,.pointer (some ⟨b2,0,none⟩)),(7,.bool true)]∧Blk w ba 24 [vi g.k,vi g.a,vi g.b]∧Blk w bb 3 [vi n]∧Blk w b2 98 [vi ((dPow (4*(if (((g.k==10)&&((bitF n i g.a)==1))&&((bitF n i g.b)==1))=true then 1 else 0))).num.a),vi ((dPow (4*(if (((g.k==10)&&((bitF n i g.a)==1))&&((bitF n i g.b)==1))=true then 1 else 0))).num.b),vi ((dPow (4*(if (((g.k==10)&&((bitF n i g.a)==1))&&((bitF n i g.b)==1))=true then 1 else 0))).num.c),vi ((dPow (4*(if (((g.k==10)&&((bitF n i g.a)==1))&&((bitF n i g.b)==1))=true then 1 else 0))).num.d),vi ((dPow (4*(if (((g.k==10)&&((bitF n i g.a)==1))&&((bitF n i g.b)==1))=true then 1 else 0))).exp)]∧Below w0.heap.size w0 w) ?_ ?_
   ·refine Zr hf ?_
    refine Ze (Vd rfl X0g 0)<|Ze (X0 rfl X5 (hBa.at 0))<|Ze (X0u rfl rfl)<|Zm rfl ?_
    refine Zg 29 rfl (fun hg15=>?_) (fun hg15=>?_)
    ·refine Zv ⟨_,_,rfl,rfl,hg15⟩ (X0 rfl X5 (hBb.at 0)) ?_
     refine Zv ⟨_,_,rfl,rfl,hg15⟩ (X9 rfl) ?_
     refine Zv ⟨_,_,rfl,rfl,hg15⟩ (Vd rfl X0t 1) ?_
     refine Zv ⟨_,_,rfl,rfl,hg15⟩ (X0 rfl X5 (hBa.at 1)) ?_
     refine Zk ⟨_,_,rfl,rfl,hg15⟩ (Vc (Xeb _ n i g.a (by omega) (by omega) (by omega)) X6n) ?_;rintro _ _ ⟨rfl,rfl⟩
     refine Zv ⟨_,_,rfl,rfl,hg15⟩ (X0u rfl rfl) ?_
     refine Ze (Xc rfl hg15 rfl)<|Zm rfl ?_
     refine Zg 37 rfl (fun hg16=>?_) (fun hg16=>?_)
     ·refine Zv ⟨_,_,rfl,rfl,hg16⟩ (X0 rfl X5 (hBb.at 0)) ?_
      refine Zv ⟨_,_,rfl,rfl,hg16⟩ (X9 rfl) ?_
      refine Zv ⟨_,_,rfl,rfl,hg16⟩ (Vd rfl X12 2) ?_
      refine Zv ⟨_,_,rfl,rfl,hg16⟩ (X0 rfl X5 (hBa.at 2)) ?_
      refine Zk ⟨_,_,rfl,rfl,hg16⟩ (Vc (Xeb _ n i g.b (by omega) (by omega) (by omega)) X6n) ?_;rintro _ _ ⟨rfl,rfl⟩
      refine Zv ⟨_,_,rfl,rfl,hg16⟩ (X0u rfl rfl) ?_
      refine Ze (Xc rfl hg16 rfl) ?_
      refine Zf (Vc (F59 _ ((bitF n i g.b)==1)) Xfn) ?_;rintro _ _ ⟨rfl,rfl⟩
      refine Ze (X8o rfl rfl (by split<;>decide) (by split<;>decide)) ?_
      refine Zf (Vc (Xb2 _ (4*(if ((bitF n i g.b)==1)=true then 1 else 0)) (by split<;>rfl)) X4b) ?_;rintro _ w6 ⟨rfl,hE⟩
      replace hBa:=hBa.below hE
      replace hBb:=hBb.below hE
      replace hB2:=hB2.below hE
      replace hW:=btr hW hE
      refine Zo (Vw [vi ((dPow (4*(if ((bitF n i g.b)==1)=true then 1 else 0))).num.a),vi ((dPow (4*(if ((bitF n i g.b)==1)=true then 1 else 0))).num.b),vi ((dPow (4*(if ((bitF n i g.b)==1)=true then 1 else 0))).num.c),vi ((dPow (4*(if ((bitF n i g.b)==1)=true then 1 else 0))).num.d),vi ((dPow (4*(if ((bitF n i g.b)==1)=true then 1 else 0))).exp)] Xr hB2) ?_;rintro _ w7 ⟨ho,hb⟩
      have hold:=hB2
      replace hBa:=hBa.only ho (Blk.ne hBa hold rfl)
      replace hBb:=hBb.only ho (Blk.ne hBb hold rfl)
      replace hW:=Below.only hW ho hlo2
      clear hold
      have hB2:=hb
      clear hb ho
      refine Za rfl ?_
      refine Zn fun a hf=>?_
      have hz9:(((g.k==10)&&((bitF n i g.a)==1))&&((bitF n i g.b)==1))=((bitF n i g.b)==1):=by simp [hc5b,hc11b,hc13b,hg15,hg16]
      have hB2:Blk w7 b2 98 [vi ((dPow (4*(if (((g.k==10)&&((bitF n i g.a)==1))&&((bitF n i g.b)==1))=true then 1 else 0))).num.a),vi ((dPow (4*(if (((g.k==10)&&((bitF n i g.a)==1))&&((bitF n i g.b)==1))=true then 1 else 0))).num.b),vi ((dPow (4*(if (((g.k==10)&&((bitF n i g.a)==1))&&((bitF n i g.b)==1))=true then 1 else 0))).num.c),vi ((dPow (4*(if (((g.k==10)&&((bitF n i g.a)==1))&&((bitF n i g.b)==1))=true then 1 else 0))).num.d),vi ((dPow (4*(if (((g.k==10)&&((bitF n i g.a)==1))&&((bitF n i g.b)==1))=true then 1 else 0))).exp)]:=by rw [hz9];exact hB2
      exact ⟨hf.sub ⟨rfl,rfl,trivial⟩,hBa,hBb,hB2,hW⟩
     refine Zp ⟨_,_,rfl,rfl,hg16⟩ ?_
     refine Zp ⟨_,_,rfl,rfl,hg16⟩ ?_
     refine Zp ⟨_,_,rfl,rfl,hg16⟩ ?_
     refine Zp ⟨_,_,rfl,rfl,hg16⟩ ?_
     refine Zp ⟨_,_,rfl,rfl,hg16⟩ ?_
     refine Zp ⟨_,_,rfl,rfl,hg16⟩ ?_
     refine Ze (X7 rfl hg16 rfl) ?_
     refine Zf (Vc (F59 _ false) Xfn) ?_;rintro _ _ ⟨rfl,rfl⟩
     refine Ze (X8o rfl rfl (by split<;>decide) (by split<;>decide)) ?_
     refine Zf (Vc (Xb2 _ (4*(if false=true then 1 else 0)) (by split<;>rfl)) X4b) ?_;rintro _ w8 ⟨rfl,hE⟩
     replace hBa:=hBa.below hE
     replace hBb:=hBb.below hE
     replace hB2:=hB2.below hE
     replace hW:=btr hW hE
     refine Zo (Vw [vi ((dPow (4*(if false=true then 1 else 0))).num.a),vi ((dPow (4*(if false=true then 1 else 0))).num.b),vi ((dPow (4*(if false=true then 1 else 0))).num.c),vi ((dPow (4*(if false=true then 1 else 0))).num.d),vi ((dPow (4*(if false=true then 1 else 0))).exp)] Xr hB2) ?_;rintro _ w9 ⟨ho,hb⟩
     have hold:=hB2
     replace hBa:=hBa.only ho (Blk.ne hBa hold rfl)
     replace hBb:=hBb.only ho (Blk.ne hBb hold rfl)
     replace hW:=Below.only hW ho hlo2
     clear hold
     have hB2:=hb
     clear hb ho
     refine Za rfl ?_
     refine Zn fun a hf=>?_
     have hz9:(((g.k==10)&&((bitF n i g.a)==1))&&((bitF n i g.b)==1))=(false):=by simp [hc5b,hc11b,hc13b,hg15,hg16]
     have hB2:Blk w9 b2 98 [vi ((dPow (4*(if (((g.k==10)&&((bitF n i g.a)==1))&&((bitF n i g.b)==1))=true then 1 else 0))).num.a),vi ((dPow (4*(if (((g.k==10)&&((bitF n i g.a)==1))&&((bitF n i g.b)==1))=true then 1 else 0))).num.b),vi ((dPow (4*(if (((g.k==10)&&((bitF n i g.a)==1))&&((bitF n i g.b)==1))=true then 1 else 0))).num.c),vi ((dPow (4*(if (((g.k==10)&&((bitF n i g.a)==1))&&((bitF n i g.b)==1))=true then 1 else 0))).num.d),vi ((dPow (4*(if (((g.k==10)&&((bitF n i g.a)==1))&&((bitF n i g.b)==1))=true then 1 else 0))).exp)]:=by rw [hz9];exact hB2
     exact ⟨hf.sub ⟨rfl,rfl,trivial⟩,hBa,hBb,hB2,hW⟩
    refine Zp ⟨_,_,rfl,rfl,hg15⟩ ?_
    refine Zp ⟨_,_,rfl,rfl,hg15⟩ ?_
    refine Zp ⟨_,_,rfl,rfl,hg15⟩ ?_
    refine Zp ⟨_,_,rfl,rfl,hg15⟩ ?_
    refine Zp ⟨_,_,rfl,rfl,hg15⟩ ?_
    refine Zp ⟨_,_,rfl,rfl,hg15⟩ ?_
    refine Ze (X7 rfl hg15 rfl)<|Zm rfl<|Zp ⟨_,_,rfl,rfl,rfl⟩ ?_
    refine Zp ⟨_,_,rfl,rfl,rfl⟩ ?_
    refine Zp ⟨_,_,rfl,rfl,rfl⟩ ?_
    refine Zp ⟨_,_,rfl,rfl,rfl⟩ ?_
    refine Zp ⟨_,_,rfl,rfl,rfl⟩ ?_
    refine Zp ⟨_,_,rfl,rfl,rfl⟩ ?_
    refine Ze (X7 rfl rfl rfl) ?_
    refine Zf (Vc (F59 _ false) Xfn) ?_;rintro _ _ ⟨rfl,rfl⟩
    refine Ze (X8o rfl rfl (by split<;>decide) (by split<;>decide)) ?_
    refine Zf (Vc (Xb2 _ (4*(if false=true then 1 else 0)) (by split<;>rfl)) X4b) ?_;rintro _ w10 ⟨rfl,hE⟩
    replace hBa:=hBa.below hE
    replace hBb:=hBb.below hE
    replace hB2:=hB2.below hE
    replace hW:=btr hW hE
    refine Zo (Vw [vi ((dPow (4*(if false=true then 1 else 0))).num.a),vi ((dPow (4*(if false=true then 1 else 0))).num.b),vi ((dPow (4*(if false=true then 1 else 0))).num.c),vi ((dPow (4*(if false=true then 1 else 0))).num.d),vi ((dPow (4*(if false=true then 1 else 0))).exp)] Xr hB2) ?_;rintro _ w11 ⟨ho,hb⟩
    have hold:=hB2
    replace hBa:=hBa.only ho (Blk.ne hBa hold rfl)
    replace hBb:=hBb.only ho (Blk.ne hBb hold rfl)
    replace hW:=Below.only hW ho hlo2
    clear hold
    have hB2:=hb
    clear hb ho
    refine Za rfl ?_
    refine Zn fun a hf=>?_
    have hz9:(((g.k==10)&&((bitF n i g.a)==1))&&((bitF n i g.b)==1))=(false):=by simp [hc5b,hc11b,hc13b,hg15]
    have hB2:Blk w11 b2 98 [vi ((dPow (4*(if (((g.k==10)&&((bitF n i g.a)==1))&&((bitF n i g.b)==1))=true then 1 else 0))).num.a),vi ((dPow (4*(if (((g.k==10)&&((bitF n i g.a)==1))&&((bitF n i g.b)==1))=true then 1 else 0))).num.b),vi ((dPow (4*(if (((g.k==10)&&((bitF n i g.a)==1))&&((bitF n i g.b)==1))=true then 1 else 0))).num.c),vi ((dPow (4*(if (((g.k==10)&&((bitF n i g.a)==1))&&((bitF n i g.b)==1))=true then 1 else 0))).num.d),vi ((dPow (4*(if (((g.k==10)&&((bitF n i g.a)==1))&&((bitF n i g.b)==1))=true then 1 else 0))).exp)]:=by rw [hz9];exact hB2
    exact ⟨hf.sub ⟨rfl,rfl,trivial⟩,hBa,hBb,hB2,hW⟩
   rintro a w12 ⟨hf,hBa,hBb,hB2,hW⟩
   refine hK14 _ _ ?_
   refine wp_ret ?_
   refine Xy ?_
   refine X8 ?_
   refine X2 hf (X0r hf rfl (ResV.cellN (l:=[vi ((dPow (4*(if (((g.k==10)&&((bitF n i g.a)==1))&&((bitF n i g.b)==1))=true then 1 else 0))).num.a),vi ((dPow (4*(if (((g.k==10)&&((bitF n i g.a)==1))&&((bitF n i g.b)==1))=true then 1 else 0))).num.b),vi ((dPow (4*(if (((g.k==10)&&((bitF n i g.a)==1))&&((bitF n i g.b)==1))=true then 1 else 0))).num.c),vi ((dPow (4*(if (((g.k==10)&&((bitF n i g.a)==1))&&((bitF n i g.b)==1))=true then 1 else 0))).num.d),vi ((dPow (4*(if (((g.k==10)&&((bitF n i g.a)==1))&&((bitF n i g.b)==1))=true then 1 else 0))).exp)]) rfl Xg (hB2.at 0) rfl) rfl) ?_
   exact ⟨(by rw [hfin];try rfl),hW⟩
  have hc13b:=hc13
  have hfin:cellI n g i j=dZ:=by rw [cellI,if_neg hk,if_pos hk2,if_neg (X1c hc13)]
  refine wp_skip ?_
  refine Xf ?_
  refine hK3 _ _ ?_
  refine Zs hf fun _ hK17=>?_
  refine Ze (Xh (ps:=[]) (cs:=[vi 0,vi 0,vi 0,vi 0,vi 0]) rfl (fun _=>by first|rfl|kernel_rfl)) ?_
  refine Zo (Vw [vi 0,vi 0,vi 0,vi 0,vi 0] Xr hB2) ?_;rintro _ w13 ⟨ho,hb⟩
  have hold:=hB2
  replace hBa:=hBa.only ho (Blk.ne hBa hold rfl)
  replace hBb:=hBb.only ho (Blk.ne hBb hold rfl)
  replace hW:=Below.only hW ho hlo2
  clear hold
  have hB2:=hb
  clear hb ho
  refine Za rfl ?_
  refine Zt hK17 fun a hf=>?_
  refine wp_ret (X2 hf (X0r hf rfl (ResV.cellN (l:=[vi 0,vi 0,vi 0,vi 0,vi 0]) rfl Xg (hB2.at 0) rfl) rfl) ?_)
  exact ⟨(by rw [hfin];try rfl),hW⟩
 have hc11b:=hc11
 have hk2:¬ inR g.k 9 11=true:=by rw [hc11];simp
 have hk8:g.k≤8:=by have h9:¬ (9≤g.k∧g.k≤11):=(fun h=>hk2 (X02.2 h));omega
 refine wp_seq_k fun _ hK18=>?_
 refine X09 (fun a w=>Fr a 75 [(0,vi i),(1,vi j),(2,.pointer (some ⟨ba,0,none⟩)),(3,.pointer (some ⟨bb,0,none⟩)),(6,.pointer (some ⟨b2,0,none⟩)),(48,.bool ((i==j)||((flipF n i g.a)==j)))]∧w1=w) ?_ ?_
 ·refine Zr hf ?_
  refine Zm rfl<|Zm rfl<|Ze (X0u rfl rfl)<|Zm rfl ?_
  refine Zg 52 rfl (fun hg19=>?_) (fun hg19=>?_)
  ·refine Zp ⟨_,_,rfl,rfl,hg19⟩ ?_
   refine Zp ⟨_,_,rfl,rfl,hg19⟩ ?_
   refine Zp ⟨_,_,rfl,rfl,hg19⟩ ?_
   refine Zp ⟨_,_,rfl,rfl,hg19⟩ ?_
   refine Zp ⟨_,_,rfl,rfl,hg19⟩ ?_
   refine Zp ⟨_,_,rfl,rfl,hg19⟩ ?_
   refine Zp ⟨_,_,rfl,rfl,hg19⟩ ?_
   refine Ze (Xc rfl hg19 rfl)<|Za rfl ?_
   refine Zn fun a hf=>?_
   exact ⟨hf.sub ⟨rfl,rfl,rfl,rfl,rfl,X1 rfl (by first|rfl|(simp only [hc5b,hc11b,hg19,bs];done)|simp [hc5b,hc11b,hg19]),trivial⟩,rfl⟩
  refine Zv ⟨_,_,rfl,rfl,hg19⟩ (X0 rfl X5 (hBb.at 0)) ?_
  refine Zv ⟨_,_,rfl,rfl,hg19⟩ (X9 rfl) ?_
  refine Zv ⟨_,_,rfl,rfl,hg19⟩ (Vd rfl X0t 1) ?_
  refine Zv ⟨_,_,rfl,rfl,hg19⟩ (X0 rfl X5 (hBa.at 1)) ?_
  refine Zk ⟨_,_,rfl,rfl,hg19⟩ (Vc (Xii _ n i g.a (by omega) (by omega) (by omega)) X9k) ?_;rintro _ _ ⟨rfl,rfl⟩
  refine Zv ⟨_,_,rfl,rfl,hg19⟩ (X9 rfl) ?_
  refine Zv ⟨_,_,rfl,rfl,hg19⟩ (X0u rfl rfl) ?_
  refine Ze (X7 rfl hg19 rfl)<|Za rfl ?_
  refine Zn fun a hf=>?_
  exact ⟨hf.sub ⟨rfl,rfl,rfl,rfl,rfl,X1 rfl (by first|rfl|(simp only [hc5b,hc11b,hg19,bs];done)|simp [hc5b,hc11b,hg19]),trivial⟩,rfl⟩
 rintro a _ ⟨hf,rfl⟩
 refine hK18 _ _ ?_
 refine Xi hf rfl (fun hc20=>?_) (fun hc20=>?_)
 ·have hc20b:=hc20
  have hfin:cellI n g i j=entryI g.k (bitF n i g.a) (bitF n j g.a):=by rw [cellI,if_neg hk,if_neg hk2,if_pos (by simpa using hc20)]
  refine wp_seq_k fun _ hK21=>?_
  refine Xu none (fun j=>[13].contains j) mixed ?_
  intro w14 hE
  replace hBa:=hBa.below hE
  replace hBb:=hBb.below hE
  replace hB2:=hB2.below hE
  replace hW:=btr hW hE
  refine Yb hf ?_
  refine Yo 0 rfl (fun _=>Vd rfl X0g 0)<|Ye 1 rfl (X0 rfl X5 (hBa.at 0))<|Ye 2 rfl (X0 rfl X5 (hBb.at 0))<|Yo 3 rfl (fun _=>X9 rfl)<|Yo 4 rfl (fun _=>Vd rfl X0t 1) ?_
  refine Ye 5 rfl (X0 rfl X5 (hBa.at 1))<|Ye 7 rfl (X0 rfl X5 (hBb.at 0))<|Yo 8 rfl (fun _=>X9 rfl)<|Yo 9 rfl (fun _=>Vd rfl X0t 1)<|Ye 10 rfl (X0 rfl X5 (hBa.at 1)) ?_
  refine Y1 6 ?_
  refine Yz rfl trivial (Vc (Xeb _ n i g.a (by omega) (by omega) (by omega)) X6n) ?_
  refine Y1 11 ?_
  refine Yz rfl trivial (Vc (Xeb _ n j g.a (by omega) (by omega) (by omega)) X6n) ?_
  refine Y1 12 ?_
  refine Yk rfl trivial (Vc (Xo2 _ g.k (bitF n i g.a) (bitF n j g.a) (by omega) hb01) Xmc) (fun _ _ ⟨_,hE⟩=>hE) ?_;rintro _ w15 ⟨rfl,hE⟩
  replace hBa:=hBa.below hE
  replace hBb:=hBb.below hE
  replace hB2:=hB2.below hE
  replace hW:=btr hW hE
  refine Y1 13 ?_
  refine Yh rfl trivial rfl (Vw [vi ((entryI g.k (bitF n i g.a) (bitF n j g.a)).num.a),vi ((entryI g.k (bitF n i g.a) (bitF n j g.a)).num.b),vi ((entryI g.k (bitF n i g.a) (bitF n j g.a)).num.c),vi ((entryI g.k (bitF n i g.a) (bitF n j g.a)).num.d),vi ((entryI g.k (bitF n i g.a) (bitF n j g.a)).exp)] Xr hB2) ?_;rintro _ w16 ⟨ho,hb⟩
  have hold:=hB2
  replace hBa:=hBa.only ho (Blk.ne hBa hold rfl)
  replace hBb:=hBb.only ho (Blk.ne hBb hold rfl)
  replace hW:=Below.only hW ho hlo2
  clear hold
  have hB2:=hb
  clear hb ho
  refine Yo 14 rfl (fun _=>X0x rfl) ?_
  refine Yd fun a hf=>?_
  refine hK21 _ _ ?_
  refine wp_ret ?_
  refine Xy ?_
  refine X8 ?_
  refine X2 hf (X0r hf rfl (ResV.cellN (l:=[vi ((entryI g.k (bitF n i g.a) (bitF n j g.a)).num.a),vi ((entryI g.k (bitF n i g.a) (bitF n j g.a)).num.b),vi ((entryI g.k (bitF n i g.a) (bitF n j g.a)).num.c),vi ((entryI g.k (bitF n i g.a) (bitF n j g.a)).num.d),vi ((entryI g.k (bitF n i g.a) (bitF n j g.a)).exp)]) rfl Xg (hB2.at 0) rfl) rfl) ?_
  exact ⟨(by rw [hfin];try rfl),hW⟩
 have hc20b:=hc20
 have hfin:cellI n g i j=dZ:=by rw [cellI,if_neg hk,if_neg hk2,if_neg (by simpa using hc20)]
 refine wp_skip ?_
 refine Xf ?_
 refine hK3 _ _ ?_
 refine Zs hf fun _ hK22=>?_
 refine Ze (Xh (ps:=[]) (cs:=[vi 0,vi 0,vi 0,vi 0,vi 0]) rfl (fun _=>by first|rfl|kernel_rfl)) ?_
 refine Zo (Vw [vi 0,vi 0,vi 0,vi 0,vi 0] Xr hB2) ?_;rintro _ w17 ⟨ho,hb⟩
 have hold:=hB2
 replace hBa:=hBa.only ho (Blk.ne hBa hold rfl)
 replace hBb:=hBb.only ho (Blk.ne hBb hold rfl)
 replace hW:=Below.only hW ho hlo2
 clear hold
 have hB2:=hb
 clear hb ho
 refine Za rfl ?_
 refine Zt hK22 fun a hf=>?_
 refine wp_ret (X2 hf (X0r hf rfl (ResV.cellN (l:=[vi 0,vi 0,vi 0,vi 0,vi 0]) rfl Xg (hB2.at 0) rfl) rfl) ?_)
 exact ⟨(by rw [hfin];try rfl),hW⟩
end Go.Proofs.YtlfjcmldfbfdbaaGreat
set_option maxRecDepth 4000
namespace Go.Proofs.YtlfjcmldfbfdbaaGreat
open Go.RowKit
theorem Xnj(w0:World)(n:Int)(g:Gt) : Ret Tryz.prog 15 [vi n,.agg #[vi g.k,vi g.a,vi g.b]] w0 (fun v w=>∃ A c,v=.tuple #[mV A c ((gateI n g).getD mZ),.bool (gateI n g).isSome]∧Own w w0.heap.size 98 5 encD A c ((gateI n g).getD mZ).cells∧Below w0.heap.size w0 w):=by
 refine enter Tryz.func15 rfl 19 rfl rfl ?_
 intro a hf
 have hW:Below w0.heap.size w0 w0:=Below.refl _ _
 refine Zs hf fun _ hK1=>?_
 refine Zf (X0p (zs:=[vi n]) rfl rfl) ?_;rintro _ w1 ⟨b2,rfl,hl2,hE,hB2⟩
 have hlo2:=Nat.le_trans hW.size hl2
 replace hW:=btr hW hE
 refine Zf (X0p (zs:=[vi g.k,vi g.a,vi g.b]) rfl rfl) ?_;rintro _ w2 ⟨b3,rfl,hl3,hE,hB3⟩
 have hlo3:=Nat.le_trans hW.size hl3
 replace hB2:=hB2.below hE
 replace hW:=btr hW hE
 refine Zf (Xa (zs:=[vi 0,vi 0,.slice none 0 0]) X1y rfl) ?_;rintro _ w3 ⟨b5,rfl,hl5,hE,hB5⟩
 have hlo5:=Nat.le_trans hW.size hl5
 replace hB2:=hB2.below hE
 replace hB3:=hB3.below hE
 replace hW:=btr hW hE
 refine Za rfl ?_
 refine Zt hK1 fun a hf=>?_
 refine wp_seq_k fun _ hK6=>?_
 refine Zs hf fun _ hK7=>?_
 refine Ze (X0 rfl X5 (hB2.at 0))<|Ze (Vn X08 hB3) ?_
 refine Zf (Vc (Xjx _ n g) Xcb) ?_;rintro _ w4 ⟨rfl,hE⟩
 replace hB2:=hB2.below hE
 replace hB3:=hB3.below hE
 replace hB5:=hB5.below hE
 replace hW:=btr hW hE
 refine Ze (X15 rfl) ?_
 refine Zt hK7 fun a hf=>?_
 refine Xi hf rfl (fun hc8=>?_) (fun hc8=>?_)
 ·have hc8b:=hc8
  have hn:¬ gOk n g=true:=by revert hc8;cases gOk n g<;>simp
  refine Zs hf fun _ hK9=>?_
  refine Ze (Xh (ps:=[]) (cs:=[vi 0,vi 0,.slice none 0 0]) rfl (fun _=>by first|rfl|kernel_rfl)) ?_
  refine Zo (Vw [vi 0,vi 0,.slice none 0 0] X18 hB5) ?_;rintro _ w5 ⟨ho,hb⟩
  have hold:=hB5
  replace hB2:=hB2.only ho (Blk.ne hB2 hold rfl)
  replace hB3:=hB3.only ho (Blk.ne hB3 hold rfl)
  replace hW:=Below.only hW ho hlo5
  clear hold
  have hB5:=hb
  clear hb ho
  refine Za rfl ?_
  refine Zt hK9 fun a hf=>?_
  refine wp_ret ?_
  refine X8 ?_
  refine X2 hf (X0r hf rfl (ResV.cellN (l:=[vi 0,vi 0,.slice none 0 0]) rfl X0q (hB5.at 0) rfl) rfl) ?_
  exact ⟨none,0,by rw [gateI,if_neg hn];rfl,by rw [gateI,if_neg hn];exact (Own.nil _ _ _ _ _),hW⟩
 have hc8b:=hc8
 have hg:gOk n g=true:=by revert hc8;cases gOk n g<;>simp
 have hg2:=X1p hg
 obtain ⟨d,hd⟩ : ∃ d:Nat,d=2^n.toNat:=⟨_,rfl⟩
 refine wp_skip ?_
 refine hK6 _ _ ?_
 refine wp_seq_k fun _ hK11=>?_
 refine Xu none (fun j=>[8].contains j) mixed ?_
 intro w6 hE
 replace hB2:=hB2.below hE
 replace hB3:=hB3.below hE
 replace hB5:=hB5.below hE
 replace hW:=btr hW hE
 refine Yb hf ?_
 refine Ye 0 rfl (X0 rfl X5 (hB2.at 0))<|Yo 1 rfl (fun _=>Xb1 (m:=n.toNat) (D:=d) rfl rfl (by omega) ⟨hd,by omega⟩)<|Ye 2 rfl (X0 rfl X5 (hB2.at 0))<|Yo 3 rfl (fun _=>Xb1 (m:=n.toNat) (D:=d) rfl rfl (by omega) ⟨hd,by omega⟩)<|Yo 4 rfl (fun _=>X3n (vs:=[.pointer (some ⟨b3,0,none⟩),.pointer (some ⟨b2,0,none⟩)]) rfl) ?_
 refine Y1 5 ?_
 refine Yk rfl trivial (Vc (Xi1 _ (d:Int) (d:Int) 68 [.pointer (some ⟨b3,0,none⟩),.pointer (some ⟨b2,0,none⟩)] Xlk (fun i j=>some (cellI n g i j)) (fun i j w' hi hj hE'=>Xof w' g n _ _ (hB3.below hE') (hB2.below hE') hg i j)) Xad) (fun _ _ ⟨A12,c12,_,ho12,hE⟩=>hE) ?_;rintro _ w7 ⟨A12,c12,rfl,ho12,hE⟩
 replace ho12:=ho12.lower hW.size
 replace hB2:=hB2.below hE
 replace hB3:=hB3.below hE
 replace hB5:=hB5.below hE
 replace hW:=btr hW hE
 refine Yo 6 rfl (fun _=>X3 (vs:=[.agg #[vi (((matOf (d:Int) (d:Int) (fun i j=>some (cellI n g i j))).getD mZ).rows),vi (((matOf (d:Int) (d:Int) (fun i j=>some (cellI n g i j))).getD mZ).cols),.slice A12 (((matOf (d:Int) (d:Int) (fun i j=>some (cellI n g i j))).getD mZ).cells).length c12],.bool ((matOf (d:Int) (d:Int) (fun i j=>some (cellI n g i j))).isSome)]) rfl rfl)<|Yo 7 rfl (fun _=>X3 (vs:=[.agg #[vi (((matOf (d:Int) (d:Int) (fun i j=>some (cellI n g i j))).getD mZ).rows),vi (((matOf (d:Int) (d:Int) (fun i j=>some (cellI n g i j))).getD mZ).cols),.slice A12 (((matOf (d:Int) (d:Int) (fun i j=>some (cellI n g i j))).getD mZ).cells).length c12],.bool ((matOf (d:Int) (d:Int) (fun i j=>some (cellI n g i j))).isSome)]) rfl rfl) ?_
 refine Y1 8 ?_
 refine Yh rfl trivial rfl (Vw [vi (((matOf (d:Int) (d:Int) (fun i j=>some (cellI n g i j))).getD mZ).rows),vi (((matOf (d:Int) (d:Int) (fun i j=>some (cellI n g i j))).getD mZ).cols),.slice A12 (((matOf (d:Int) (d:Int) (fun i j=>some (cellI n g i j))).getD mZ).cells).length c12] X18 hB5) ?_;rintro _ w8 ⟨ho,hb⟩
 have hold:=hB5
 replace hB2:=hB2.only ho (Blk.ne hB2 hold rfl)
 replace hB3:=hB3.only ho (Blk.ne hB3 hold rfl)
 replace ho12:=ho12.onlyT ho hold rfl
 replace hW:=Below.only hW ho hlo5
 clear hold
 have hB5:=hb
 clear hb ho
 refine Yo 9 rfl (fun _=>X0x rfl) ?_
 refine Yd fun a hf=>?_
 refine hK11 _ _ ?_
 refine wp_ret (X2 hf (X0r hf rfl (ResV.cellN (l:=[vi (((matOf (d:Int) (d:Int) (fun i j=>some (cellI n g i j))).getD mZ).rows),vi (((matOf (d:Int) (d:Int) (fun i j=>some (cellI n g i j))).getD mZ).cols),.slice A12 (((matOf (d:Int) (d:Int) (fun i j=>some (cellI n g i j))).getD mZ).cells).length c12]) rfl X0q (hB5.at 0) rfl) rfl) ?_)
 have hfin:gateI n g=matOf (d:Int) (d:Int) fun i j=>some (cellI n g i j):=by rw [gateI,if_pos hg,hd]
 rw [hfin]
 exact ⟨A12,c12,rfl,ho12,hW⟩
end Go.Proofs.YtlfjcmldfbfdbaaGreat
namespace Go.Proofs
open Go.Shelf
def Tryz.lays189_ren:Go.Shelf.Ren:=⟨fun|189=>160|125=>191|257=>190|128=>215|129=>216|294=>206|295=>207|296=>208|297=>209|298=>210|299=>211|216=>212|300=>213|301=>214|328=>224|329=>225|330=>226|331=>227|332=>228|215=>229|343=>233|n=>n,fun|28=>66|3=>3|46=>165|0=>0|51=>218|53=>78|4=>4|183=>212|182=>211|131=>33|5=>5|9=>9|218=>223|222=>227|228=>229|229=>133|n=>n,fun|n=>n⟩
theorem Tryz.lays189:Go.Proofs.Lays.n189 Tryz.prog Tryz.lays189_ren:={
  mixed:=by kernel_rfl
  f125:=Tryz.func191.trans (congrArg some (by kernel_rfl))
  f128:=Tryz.func215.trans (congrArg some (by kernel_rfl))
  f129:=Tryz.func216.trans (congrArg some (by kernel_rfl))
  f189:=Tryz.func160.trans (congrArg some (by kernel_rfl))
  f215:=Tryz.func229.trans (congrArg some (by kernel_rfl))
  f216:=Tryz.func212.trans (congrArg some (by kernel_rfl))
  f257:=Tryz.func190.trans (congrArg some (by kernel_rfl))
  f294:=Tryz.func206.trans (congrArg some (by kernel_rfl))
  f295:=Tryz.func207.trans (congrArg some (by kernel_rfl))
  f296:=Tryz.func208.trans (congrArg some (by kernel_rfl))
  f297:=Tryz.func209.trans (congrArg some (by kernel_rfl))
  f298:=Tryz.func210.trans (congrArg some (by kernel_rfl))
  f299:=Tryz.func211.trans (congrArg some (by kernel_rfl))
  f300:=Tryz.func213.trans (congrArg some (by kernel_rfl))
  f301:=Tryz.func214.trans (congrArg some (by kernel_rfl))
  f328:=Tryz.func224.trans (congrArg some (by kernel_rfl))
  f329:=Tryz.func225.trans (congrArg some (by kernel_rfl))
  f330:=Tryz.func226.trans (congrArg some (by kernel_rfl))
  f331:=Tryz.func227.trans (congrArg some (by kernel_rfl))
  f332:=Tryz.func228.trans (congrArg some (by kernel_rfl))
  f343:=Tryz.func233.trans (congrArg some (by kernel_rfl))
  t0:=Tryz.underlying0
  a0:=Tryz.isAgg0
  z0:=Tryz.sizeOf0
  v0:=Tryz.zeroValue0
  t3:=Tryz.underlying3
  a3:=Tryz.isAgg3
  z3:=Tryz.sizeOf3
  v3:=Tryz.zeroValue3
  t4:=Tryz.underlying4
  a4:=Tryz.isAgg4
  z4:=Tryz.sizeOf4
  v4:=Tryz.zeroValue4
  t5:=Tryz.underlying5
  a5:=Tryz.isAgg5
  z5:=Tryz.sizeOf5
  v5:=Tryz.zeroValue5
  t9:=Tryz.underlying9
  a9:=Tryz.isAgg9
  z9:=Tryz.sizeOf9
  v9:=Tryz.zeroValue9
  t28:=Tryz.underlying66
  a28:=Tryz.isAgg66
  z28:=Tryz.sizeOf66
  v28:=Tryz.zeroValue66
  t46:=Tryz.underlying165
  a46:=Tryz.isAgg165
  z46:=Tryz.sizeOf165
  v46:=Tryz.zeroValue165
  t51:=Tryz.underlying218
  a51:=Tryz.isAgg218
  z51:=Tryz.sizeOf218
  v51:=Tryz.zeroValue218
  t53:=Tryz.underlying78
  a53:=Tryz.isAgg78
  z53:=Tryz.sizeOf78
  v53:=Tryz.zeroValue78
  t131:=Tryz.underlying33
  a131:=Tryz.isAgg33
  z131:=Tryz.sizeOf33
  v131:=Tryz.zeroValue33
  t182:=Tryz.underlying211
  a182:=Tryz.isAgg211
  z182:=Tryz.sizeOf211
  v182:=Tryz.zeroValue211
  t183:=Tryz.underlying212
  a183:=Tryz.isAgg212
  z183:=Tryz.sizeOf212
  v183:=Tryz.zeroValue212
  t218:=Tryz.underlying223
  a218:=Tryz.isAgg223
  z218:=Tryz.sizeOf223
  v218:=Tryz.zeroValue223
  t222:=Tryz.underlying227
  a222:=Tryz.isAgg227
  z222:=Tryz.sizeOf227
  v222:=Tryz.zeroValue227
  t228:=Tryz.underlying229
  a228:=Tryz.isAgg229
  z228:=Tryz.sizeOf229
  v228:=Tryz.zeroValue229
  t229:=Tryz.underlying133
  a229:=Tryz.isAgg133
  z229:=Tryz.sizeOf133
  v229:=Tryz.zeroValue133 }
open Go.Sort Go.RowKit in
theorem Tryz.slices_Sort_int(blk off cap:Nat)(zs:List Int)(w:World)(hH:Holds (Value.int .i64) w blk off zs.toArray)(hblk:blk<w.heap.size)(hsz:zs.length<4611686018427387904) :
    Calls Tryz.prog 160 #[.slice (some ⟨blk,off,none⟩) zs.length cap] w fun e w'=>
      e=.returned (.tuple #[])∧∃ n os,w'=grow (putRow (Value.int .i64) (Sort.ahead w n) blk off (zs.mergeSort fun x y=>decide (x≤y)).toArray) os:=Any.slices_Sort_int Tryz.lays189 blk off cap zs w hH hblk hsz
def Tryz.lays108_ren:Go.Shelf.Ren:=⟨fun|108=>196|n=>n,fun|28=>66|3=>3|0=>0|4=>4|n=>n,fun|n=>n⟩
def Tryz.lays107_ren:Go.Shelf.Ren:=⟨fun|107=>171|108=>196|n=>n,fun|28=>66|3=>3|4=>4|0=>0|n=>n,fun|n=>n⟩
def Tryz.laysNm220_ren:Go.Shelf.Ren:=⟨fun|20=>161|n=>n,fun|22=>66|3=>3|4=>4|0=>0|n=>n,fun|n=>n⟩
theorem Tryz.laysNm220:Go.Proofs.Lays2.n20 Tryz.prog Tryz.laysNm220_ren:={
  mixed:=by kernel_rfl
  f20:=Tryz.func161.trans (congrArg some (by kernel_rfl))
  t0:=Tryz.underlying0
  a0:=Tryz.isAgg0
  z0:=Tryz.sizeOf0
  v0:=Tryz.zeroValue0
  t3:=Tryz.underlying3
  a3:=Tryz.isAgg3
  z3:=Tryz.sizeOf3
  v3:=Tryz.zeroValue3
  t4:=Tryz.underlying4
  a4:=Tryz.isAgg4
  z4:=Tryz.sizeOf4
  v4:=Tryz.zeroValue4
  t22:=Tryz.underlying66
  a22:=Tryz.isAgg66
  z22:=Tryz.sizeOf66
  v22:=Tryz.zeroValue66
  i3:=by kernel_rfl }
open Go.RowKit Go.Lib Go.Sort in
theorem Tryz.slices_Compact_int(blk off cap:Nat)(zs:List Int)(w:World)(hH:Holds (Value.int .i64) w blk off zs.toArray)(hsz:zs.length≤9223372036854775807)(hcap:zs.length≤cap) :
    Calls Tryz.prog 161 #[.slice (some ⟨blk,off,none⟩) zs.length cap] w fun e w'=>e=.returned (.slice (some ⟨blk,off,none⟩) (Lib.compact zs).length cap)∧∃ q,w'=putRow (Value.int .i64) (Sort.ahead w q) blk off (Lib.compact zs++List.replicate (zs.length-(Lib.compact zs).length) 0).toArray:=Any.slices_Compact_int Tryz.laysNm220 blk off cap zs w hH hsz hcap
open Go.RowKit Go.Lib Go.Sort in
theorem Tryz.slices_Compact_int_empty(a:Option Addr)(cap:Nat)(w:World) :
    Calls Tryz.prog 161 #[.slice a 0 cap] w fun e w'=>e=.returned (.slice a 0 cap)∧w'=w:=Any.slices_Compact_int_empty Tryz.laysNm220 a cap w
end Go.Proofs
namespace Go.Proofs.YtlfjcmldfbfdbaaGreat
open Go.RowKit
section
variable {α : Type}
theorem X73{enc:α→List Value}{sz:Nat}(hsz:∀ x,(enc x).length=sz){l:List α}{j:Nat}(hj:j<l.length*sz) : ∃ x,l[j/sz]? = some x∧(l.flatMap enc)[j]? = (enc x)[j % sz]?:=by
 have h0:0<sz:=by
  rcases Nat.eq_zero_or_pos sz with h|h
  ·subst h;simp at hj
  ·exact h
 have hk:j/sz<l.length:=Nat.div_lt_of_lt_mul (by rw [Nat.mul_comm];exact hj)
 refine ⟨l[j/sz],List.getElem?_eq_getElem hk,?_⟩
 have hm:j % sz<(enc l[j/sz]).length:=by rw [hsz];exact Nat.mod_lt _ h0
 have h1:=X5h hsz l (j/sz) _ (List.getElem?_eq_getElem hk) (j % sz) _ (List.getElem?_eq_getElem hm)
 rw [show j/sz*sz+j % sz=j from by rw [Nat.mul_comm];exact Nat.div_add_mod j sz] at h1
 rw [h1,List.getElem?_eq_getElem hm]
theorem X8e{enc:α→List Value}{sz:Nat}(hsz:∀ x,(enc x).length=sz){z:Value}{z0:α}(hz:z.cells.toList=enc z0)(n:Nat) : madeCells z.cells (n*sz)=((List.replicate n z0).flatMap enc).toArray:=by
 have hs:z.cells.size=sz:=by rw [← hsz z0,← hz];simp
 apply Array.ext'
 apply List.ext_getElem?
 intro j
 by_cases hj:j<n*sz
 ·obtain ⟨x,hx,h1⟩:=X73 hsz (l:=List.replicate n z0) (j:=j) (by simpa using hj)
  obtain rfl:x=z0:=(List.eq_of_mem_replicate (List.mem_of_getElem? hx))
  have h0:0<sz:=by
   rcases Nat.eq_zero_or_pos sz with h|h
   ·subst h;simp at hj
   ·exact h
  have hm:j % sz<z.cells.size:=by rw [hs];exact Nat.mod_lt _ h0
  rw [List.toList_toArray,h1,← hz]
  simp only [madeCells,Array.getElem?_toList,Array.getElem?_map,Array.getElem?_range,hj,if_true,Option.map_some,hs]
  rw [getElem!_pos z.cells (j % sz) hm,Array.getElem?_eq_getElem hm]
 ·rw [List.getElem?_eq_none (by simp [madeCells];omega),List.toList_toArray,List.getElem?_eq_none (by rw [Xq hsz];simp;omega)]
theorem X49{enc:α→List Value}{sz:Nat}(hsz:∀ x,(enc x).length=sz) : ∀ (l:List α) (k:Nat) (x:α),k<l.length→splice (l.flatMap enc) (k*sz) (enc x)=(l.set k x).flatMap enc
 | [],k,x,h=>by simp at h
 | y::l,0,x,h=>by
  simp only [splice,Nat.zero_mul,List.take_zero,List.nil_append,Nat.zero_add,List.flatMap_cons,List.set_cons_zero]
  rw [hsz,← hsz y,List.drop_left]
 | y::l,k+1,x,h=>by
  have ih:=X49 hsz l k x (by simpa using h)
  unfold splice at ih ⊢
  have h1:(k+1)*sz=(enc y).length+k*sz:=by rw [hsz,Nat.add_mul];omega
  rw [h1]
  simp only [List.flatMap_cons,List.set_cons_succ]
  rw [List.take_length_add_append,show (enc y).length+k*sz+(enc x).length=(enc y).length+(k*sz+(enc x).length) from by omega,List.drop_length_add_append,List.append_assoc,List.append_assoc]
  rw [← ih,List.append_assoc]
end
section
variable {α : Type} {P : Program} {a : Act} {w : World} {n : Nat} {e : Env} {ty : TypeId} {pos : String} {af : Array Edge} {g : Option (Nat × Bool)} {d : Option Tmp}
theorem Xa4{T E sz bytes m:Nat}{x y:Operand}{enc:α→List Value}{z:Value}{z0:α}(hf:Fr a n e)(hx:ev e x=some (.int .i64 (m:Int)))(hy:ev e y=some (.int .i64 (m:Int)))(hT:SliceT P T E)(hi:InfoT P E sz bytes)(hz:ZeroT P E z)(hz0:z.cells.toList=enc z0)(hsz:∀ x,(enc x).length=sz)(hb:bytes*m≤281474976710656)(hm:m≤4611686018427387904) :
  Ef P ⟨d,.makeSlice T x y,ty,pos,af,g⟩ a w (fun v w'=>∃ b,v=.slice (some ⟨b,0,none⟩) m m∧w.heap.size≤b∧Below w.heap.size w w'∧Blk w' b E ((List.replicate m z0).flatMap enc)):=by
 obtain ⟨i,z1,hi1,hi2,hi3,hi4,hi5,hi6⟩:=hi
 obtain ⟨i',hi1',hz1⟩:=hz
 rw [hi1] at hi1'
 injection hi1' with hi1'
 subst hi1'
 rw [hi2] at hz1
 injection hz1 with hz1
 subst hz1
 have hb':(i.bytes:Int)*(m:Int)≤281474976710656:=by
  have h:((i.bytes*m:Nat) : Int)≤281474976710656:=by rw [hi4];omega
  rwa [Int.natCast_mul] at h
 have hr:=run_make (P:=P) w T E i z1 hT hi1 hi2 .i64 .i64 m m (by omega) (Int.le_refl _) hb' (by omega)
 refine (Ef.of_run (v:=.slice (some ⟨w.heap.size,0,none⟩) m m) (w':=w.alloc (.cells ((List.replicate m z0).flatMap enc).toArray E)) ?_).mono fun v w' ⟨e1,e2⟩=>?_
 ·rw [hi3,Int.toNat_natCast,X8e hsz hz0] at hr
  simp [execOp,hf.ev hx,hf.ev hy,hr]
 ·subst e1;subst e2
  exact ⟨_,rfl,Nat.le_refl _,(Below.refl _ _).alloc (Nat.le_refl _) _,X6g w E _⟩
theorem X43{T E sz bytes m:Nat}{x y:Operand}{enc:α→List Value}{z:Value}{z0:α}(hx:ev e x=some (.int .i64 (m:Int)))(hy:ev e y=some (.int .i64 (m:Int)))(hT:SliceT P T E)(hi:InfoT P E sz bytes)(hz:ZeroT P E z)(hz0:z.cells.toList=enc z0)(hsz:∀ x,(enc x).length=sz)(hb:bytes*m≤281474976710656)(hm:m≤4611686018427387904) : EfW P ⟨d,.makeSlice T x y,ty,pos,af,g⟩ n e w (fun v w'=>∃ b,v=.slice (some ⟨b,0,none⟩) m m∧w.heap.size≤b∧Below w.heap.size w w'∧Blk w' b E ((List.replicate m z0).flatMap enc)):=fun a hf=>Xa4 hf hx hy hT hi hz hz0 hsz hb hm
theorem X9h{T E sz b m c k off:Nat}{x y:Operand}{i:Int}(hf:Fr a n e)(hx:ev e x=some (.slice (some ⟨b,0,none⟩) m c))(hy:ev e y=some (.int .i64 i))(hT:SliceT P T E)(hs:SizeT P E sz)(hi:i=(k:Int))(hk:k<m)(ho:k*sz=off) :
  Ev P ⟨d,.indexAddr T x y,ty,pos,af,g⟩ a w (.pointer (some ⟨b,off,none⟩)):=by
 have h:=X62 (P:=P) (w:=w) (d:=d) (ty:=ty) (pos:=pos) (af:=af) (g:=g) hf hx hy hT hs hi hk
 rwa [X1u,Nat.zero_add,ho] at h
theorem Xdk{T E sz b m c k off:Nat}{x y:Operand}{i:Int}(hx:ev e x=some (.slice (some ⟨b,0,none⟩) m c))(hy:ev e y=some (.int .i64 i))(hT:SliceT P T E)(hs:SizeT P E sz)(hi:i=(k:Int))(hk:k<m)(ho:k*sz=off) : EvW P ⟨d,.indexAddr T x y,ty,pos,af,g⟩ n e w (.pointer (some ⟨b,off,none⟩)):=fun a hf=>X9h hf hx hy hT hs hi hk ho
theorem Xe2{t T b k sz:Nat}{x y:Operand}{v:Value}{enc:α→List Value}{l:List α}{u:α}(hf:Fr a n e)(hx:ev e x=some (.pointer (some ⟨b,k*sz,none⟩)))(hy:ev e y=some v)(hs:SizeT P t sz)(hb:Blk w b T (l.flatMap enc))(hsz:∀ x,(enc x).length=sz)(hone:∀ x,(enc x).all one=true)(hv:v.cells.toList=enc u)(hk:k<l.length) :
  Ef P ⟨d,.store t x y,ty,pos,af,g⟩ a w (Stored w b T ((l.set k u).flatMap enc)):=by
 have hl:k*sz+sz≤(l.flatMap enc).length:=by
  rw [Xq hsz]
  have:=Nat.mul_le_mul_right sz (show k+1≤l.length by omega)
  rwa [Nat.add_mul,Nat.one_mul] at this
 exact X7m (vs:=enc u) hf hx hy hs hb hv (by rw [hsz];simp) (hone u) (by rw [Nat.ble_eq];exact hl) (X49 hsz l k u hk)
theorem Xdb{t T b k sz:Nat}{x y:Operand}{v:Value}{enc:α→List Value}{l:List α}{u:α}(hx:ev e x=some (.pointer (some ⟨b,k*sz,none⟩)))(hy:ev e y=some v)(hs:SizeT P t sz)(hb:Blk w b T (l.flatMap enc))(hsz:∀ x,(enc x).length=sz)(hone:∀ x,(enc x).all one=true)(hv:v.cells.toList=enc u)(hk:k<l.length) : EfW P ⟨d,.store t x y,ty,pos,af,g⟩ n e w (Stored w b T ((l.set k u).flatMap enc)):=fun a hf=>Xe2 hf hx hy hs hb hsz hone hv hk
theorem Xck{T E sz m c k:Nat}{x y:Operand}{A:Option Addr}{i:Int}(hf:Fr a n e)(hx:ev e x=some (.slice A m c))(hy:ev e y=some (.int .i64 i))(hT:SliceT P T E)(hs:SizeT P E sz)(hi:i=(k:Int))(hk:k≤c) :
  Ev P ⟨d,.slice T x none (some y) none,ty,pos,af,g⟩ a w (.slice A k c):=fun w' _=>by
 subst hi
 have h0:∀ p:Addr,p.add 0=p:=fun p=>by simp [Addr.add]
 simp [execOp,Instr.sliceAt,Instr.slice,Instr.sliceBounds,run_sliceBound,X0s hT,run_sizeOf' hs,hf.ev hx,hf.ev hy,hk,h0]
theorem Xac{T E sz m c k:Nat}{x y:Operand}{A:Option Addr}{i:Int}(hf:Fr a n e)(hx:ev e x=some (.slice A m c))(hy:ev e y=some (.int .i64 i))(hT:SliceT P T E)(hs:SizeT P E sz)(hi:i=(k:Int))(hk:k≤m) :
  Ev P ⟨d,.slice T x (some y) none none,ty,pos,af,g⟩ a w (.slice (if c=k then A else A.map (·.add (k*sz))) (m-k) (c-k)):=fun w' _=>by
 subst hi
 simp [execOp,Instr.sliceAt,Instr.slice,Instr.sliceBounds,run_sliceBound,X0s hT,run_sizeOf' hs,hf.ev hx,hf.ev hy,hk]
end
section
variable {α : Type} {w : World} {B B0 : Nat} {E : TypeId} {sz : Nat} {enc : α → List Value} {A : Option Addr} {c : Nat} {l : List α}
theorem Xa7(hsz:∀ x,(enc x).length=sz)(k:Nat) : (l.take k).flatMap enc=(l.flatMap enc).take (k*sz):=by
 conv=>rhs;rw [← List.take_append_drop k l]
 rw [List.flatMap_append]
 by_cases hk:k≤l.length
 ·have:((l.take k).flatMap enc).length=k*sz:=by rw [Xq hsz,List.length_take,Nat.min_eq_left hk]
  rw [← this,List.take_left]
 ·rw [List.take_of_length_le (by omega),List.drop_of_length_le (by omega)]
  simp only [List.flatMap_nil,List.append_nil]
  rw [List.take_of_length_le (by rw [Xq hsz];exact Nat.mul_le_mul_right _ (by omega))]
theorem Xa2(hsz:∀ x,(enc x).length=sz)(k:Nat) : (l.drop k).flatMap enc=(l.flatMap enc).drop (k*sz):=by
 conv=>rhs;rw [← List.take_append_drop k l]
 rw [List.flatMap_append]
 by_cases hk:k≤l.length
 ·have:((l.take k).flatMap enc).length=k*sz:=by rw [Xq hsz,List.length_take,Nat.min_eq_left hk]
  rw [← this,List.drop_left]
 ·have h1:l.drop k=[]:=List.drop_of_length_le (by omega)
  rw [h1,List.flatMap_nil,List.append_nil,List.drop_of_length_le (by rw [Xq hsz,List.length_take];exact Nat.mul_le_mul_right _ (by omega))]
theorem Rd.takeK(hsz:∀ x,(enc x).length=sz)(h:Rd w B E enc A l)(k:Nat) : Rd w B E enc A (l.take k):=fun hl=>by
 have hl':l≠[]:=by rintro rfl;simp at hl
 obtain ⟨b,off,cs,fz,h1,h2,h3,h4⟩:=h hl'
 refine ⟨b,off,cs,fz,h1,h2,h3,fun j v hj=>h4 j v ?_⟩
 rw [Xa7 hsz,List.getElem?_take] at hj
 split at hj
 ·exact hj
 ·cases hj
theorem Rd.dropK(hsz:∀ x,(enc x).length=sz)(h:Rd w B E enc A l)(hc:l.length≤c)(k:Nat) : Rd w B E enc (if c=k then A else A.map (·.add (k*sz))) (l.drop k):=fun hl=>by
 have hk:k<l.length:=by
  rcases Nat.lt_or_ge k l.length with h'|h'
  ·exact h'
  ·exact absurd (List.drop_of_length_le h') hl
 have hl':l≠[]:=by rintro rfl;simp at hk
 obtain ⟨b,off,cs,fz,h1,h2,h3,h4⟩:=h hl'
 rw [if_neg (by omega),h1]
 refine ⟨b,off+k*sz,cs,fz,by rw [Option.map_some,X1u],h2,h3,fun j v hj=>?_⟩
 rw [Xa2 hsz,List.getElem?_drop] at hj
 rw [Nat.add_assoc]
 exact h4 _ v hj
theorem Xgr{P:Program}{a:Act}{n:Nat}{e:Env}{ty:TypeId}{pos:String}{af:Array Edge}{g:Option (Nat×Bool)}{d:Option Tmp}{T k:Nat}{x y:Operand}{i:Int}(hf:Fr a n e)(hx:ev e x=some (.slice A l.length c))(hy:ev e y=some (.int .i64 i))(hT:SliceT P T E)(hs:SizeT P E sz)(hi:i=(k:Int))(hk:k≤l.length)(hc:l.length≤c) :
  Ev P ⟨d,.slice T x none (some y) none,ty,pos,af,g⟩ a w (.slice A (l.take k).length c):=by
 rw [List.length_take,Nat.min_eq_left hk]
 exact Xck hf hx hy hT hs hi (by omega)
theorem X7u{P:Program}{n:Nat}{e:Env}{ty:TypeId}{pos:String}{af:Array Edge}{g:Option (Nat×Bool)}{d:Option Tmp}{T k:Nat}{x y:Operand}{i:Int}(hx:ev e x=some (.slice A l.length c))(hy:ev e y=some (.int .i64 i))(hT:SliceT P T E)(hs:SizeT P E sz)(hi:i=(k:Int))(hk:k≤l.length)(hc:l.length≤c) : EvW P ⟨d,.slice T x none (some y) none,ty,pos,af,g⟩ n e w (.slice A (l.take k).length c):=fun a hf=>Xgr hf hx hy hT hs hi hk hc
theorem Xf7{P:Program}{a:Act}{n:Nat}{e:Env}{ty:TypeId}{pos:String}{af:Array Edge}{g:Option (Nat×Bool)}{d:Option Tmp}{T k:Nat}{x y:Operand}{i:Int}(hf:Fr a n e)(hx:ev e x=some (.slice A l.length c))(hy:ev e y=some (.int .i64 i))(hT:SliceT P T E)(hs:SizeT P E sz)(hi:i=(k:Int))(hk:k≤l.length) :
  Ev P ⟨d,.slice T x (some y) none none,ty,pos,af,g⟩ a w (.slice (if c=k then A else A.map (·.add (k*sz))) (l.drop k).length (c-k)):=by
 rw [List.length_drop]
 exact Xac hf hx hy hT hs hi hk
theorem X6c{P:Program}{n:Nat}{e:Env}{ty:TypeId}{pos:String}{af:Array Edge}{g:Option (Nat×Bool)}{d:Option Tmp}{T k:Nat}{x y:Operand}{i:Int}(hx:ev e x=some (.slice A l.length c))(hy:ev e y=some (.int .i64 i))(hT:SliceT P T E)(hs:SizeT P E sz)(hi:i=(k:Int))(hk:k≤l.length) : EvW P ⟨d,.slice T x (some y) none none,ty,pos,af,g⟩ n e w (.slice (if c=k then A else A.map (·.add (k*sz))) (l.drop k).length (c-k)):=fun a hf=>Xf7 hf hx hy hT hs hi hk
theorem X79(hc:l.length≤c)(k:Nat) : (l.take k).length≤c:=Nat.le_trans (List.length_take_le' _ _) hc
theorem Xh9{P:Program}{a:Act}{n:Nat}{e:Env}{ty:TypeId}{pos:String}{af:Array Edge}{g:Option (Nat×Bool)}{d:Option Tmp}{T k m:Nat}{x y z:Operand}{i j:Int}(hf:Fr a n e)(hx:ev e x=some (.slice A l.length c))(hy:ev e y=some (.int .i64 i))(hz:ev e z=some (.int .i64 j))(hT:SliceT P T E)(hs:SizeT P E sz)(hi:i=(k:Int))(hj:j=(m:Int))(hk:k≤m)(hm:m≤l.length)(hc:l.length≤c) :
  Ev P ⟨d,.slice T x (some y) (some z) none,ty,pos,af,g⟩ a w (.slice (if c=k then A else A.map (·.add (k*sz))) ((l.take m).drop k).length (c-k)):=fun w' _=>by
 subst hi;subst hj
 have h1:m≤c:=by omega
 have h2:((l.take m).drop k).length=m-k:=by rw [List.length_drop,List.length_take,Nat.min_eq_left hm]
 rw [h2]
 simp [execOp,Instr.sliceAt,Instr.slice,Instr.sliceBounds,run_sliceBound,X0s hT,run_sizeOf' hs,hf.ev hx,hf.ev hy,hf.ev hz,hk,h1]
theorem Xdp{P:Program}{n:Nat}{e:Env}{ty:TypeId}{pos:String}{af:Array Edge}{g:Option (Nat×Bool)}{d:Option Tmp}{T k m:Nat}{x y z:Operand}{i j:Int}(hx:ev e x=some (.slice A l.length c))(hy:ev e y=some (.int .i64 i))(hz:ev e z=some (.int .i64 j))(hT:SliceT P T E)(hs:SizeT P E sz)(hi:i=(k:Int))(hj:j=(m:Int))(hk:k≤m)(hm:m≤l.length)(hc:l.length≤c) : EvW P ⟨d,.slice T x (some y) (some z) none,ty,pos,af,g⟩ n e w (.slice (if c=k then A else A.map (·.add (k*sz))) ((l.take m).drop k).length (c-k)):=fun a hf=>Xh9 hf hx hy hz hT hs hi hj hk hm hc
theorem Own.cap(h:Own w B0 E sz enc A c l) : l.length≤c:=by
 rcases h.2 with ⟨h1,h2⟩|⟨g,cap,cur,h1,h2,h3,h4,h5,h6⟩
 ·omega
 ·injection h1 with _ _ h1
  omega
theorem Own.of_flat(hsz:∀ x,(enc x).length=sz){b m:Nat}(h:Blk w b E (l.flatMap enc))(hb:B0≤b)(hl:l.length=m)(hk:m≤maxLen) : Own w B0 E sz enc (some ⟨b,0,none⟩) m l:=Own.of_blkL hsz h hb rfl hl hk
end
theorem Kept.app{α:Type}{b B B0:Nat}{w0 w w':World}{E:TypeId}{sz:Nat}{enc:α→List Value}{A:Option Addr}{c:Nat}{l:List α}(h:Kept b B w0 w)(ho:Own w B0 E sz enc A c l)(hg:w.grownBy w' (Value.slice A l.length c).ownBlock)(hB:B≤B0)(hs:B≤w.heap.size) : Kept b B w0 w':=
 ⟨hg.os.trans h.os,hg.tape.trans h.tape,hg.output.trans h.output,Nat.le_trans h.size hg.size,fun k hk hne=>(hg.block k (by omega) fun hk'=>by have:=(ho.block hk'.symm).1;omega).trans (h.block k hk hne)⟩
theorem Xc9{α:Type}{P:Program}{a:Act}{w:World}{n:Nat}{e:Env}{ty:TypeId}{pos:String}{af:Array Edge}{g:Option (Nat×Bool)}{d:Option Tmp}{T E:TypeId}{sz bytes B b0:Nat}{x y:Operand}{enc:α→List Value}{A2:Option Addr}{c2:Nat}{l2:List α}(hf:Fr a n e)(hx:ev e x=some (.slice (some ⟨b0,0,none⟩) 0 0))(hy:ev e y=some (.slice A2 l2.length c2))
  (hT:SliceT P T E) (hi:InfoT P E sz bytes) (hsz:∀ x,(enc x).length=sz) (hone:∀ x,(enc x).all one=true) (hb:Blk w b0 E []) (hr:Rd w B E enc A2 l2) (h63:l2.length≤maxLen) (hbytes:l2.length*bytes≤140737488355328) :
  Ef P ⟨d,.call ⟨.builtin .append,#[x,y],#[T,T]⟩,ty,pos,af,g⟩ a w (fun v w'=>∃ A' c',v=.slice A' l2.length c'∧Own w' b0 E sz enc A' c' l2∧Below w.heap.size w w'):=by
 by_cases hl2:l2=[]
 ·subst hl2
  obtain ⟨i,z,hi1,hi2,hi3,hi4,hi5,hi6⟩:=hi
  have hrun:(Builtin.append_ #[T,T] ty #[.slice (some ⟨b0,0,none⟩) 0 0,.slice A2 0 c2]).run P w=.ok (.slice (some ⟨b0,0,none⟩) 0 0) w:=by
   cases A2<;>simp [Builtin.append_,X0s hT,sizeOf,typeInfo,hi1,Builtin.lenOf,Builtin.firstCells,loadCells,loadCellsFrom,storeCells]
  refine (Ef.of_run (v:=.slice (some ⟨b0,0,none⟩) 0 0) (w':=w) ?_).mono fun v w' ⟨e1,e2⟩=>?_
  ·simp only [List.length_nil] at hy
   simp [execOp,resolve,invoke,builtin,hf.ev hx,hf.ev hy,hrun]
  ·subst e1;subst e2
   exact ⟨_,_,rfl,Own.empty hb (Nat.le_refl _),Below.refl _ _⟩
 ·have hown:Own w b0 E sz enc (some ⟨b0,0,none⟩) 0 ([] : List α):=Own.empty hb (Nat.le_refl _)
  obtain ⟨i,z,hi1,hi2,rfl,rfl,hi5,hi6⟩:=hi
  obtain ⟨b,off,cs,fz,rfl,h2,h3,h4⟩:=hr hl2
  have hlen2:=Xq hsz l2
  have hpos:0<l2.length:=List.length_pos_iff.2 hl2
  have h:=run_append_grow (P:=P) w T ty E i z hT hi1 hi2 ⟨b0,0,none⟩ 0 0 [] (by simp) (fun j u hu=>by simp at hu)
   ⟨b,off,none⟩ l2.length c2 (l2.flatMap enc) hlen2 (fun j u hu=>by
    have:=h4 j u hu
    rw [X1u]
    simp [World.cell?,h3,this])
   (by omega) (by simp only [maxLen] at h63;omega) (growslice_fits (by omega) (by simpa using hbytes))
  simp only [Nat.zero_add] at h
  refine (Ef.of_run (w':=w.drew.alloc (.cells (([] : List Value).toArray++(l2.flatMap enc).toArray++Builtin.zeroCells z.cells (grownCap w l2.length 0 E-l2.length)) E)) (v:=.slice (some ⟨w.heap.size,0,none⟩) l2.length (grownCap w l2.length 0 E)) ?_).mono fun v w' ⟨e1,e2⟩=>?_
  ·simp [execOp,resolve,invoke,builtin,hf.ev hx,hf.ev hy,h]
  ·subst e1;subst e2
   have hb0:=hb.lt
   have hge:=grownCap_ge w l2.length 0 E
   refine ⟨_,_,rfl,?_,((Below.refl _ _).drew).alloc (Nat.le_refl _) _⟩
   refine ⟨Xq hsz _,.inr ⟨w.heap.size,_,_,rfl,by omega,heap_alloc_new w.drew _,hge,grownCap_le_maxLen w _ _ E h63,?_,?_⟩⟩
   ·simp only [Array.size_append,List.size_toArray,size_zeroCells,hi5,hlen2,List.length_nil,Nat.zero_add,← Nat.add_mul]
    congr 1
    omega
   ·rw [← hlen2]
    simp only [Array.toList_append,List.append_assoc,List.nil_append]
    exact List.take_left
theorem X2e{α:Type}{P:Program}{w:World}{n:Nat}{e:Env}{ty:TypeId}{pos:String}{af:Array Edge}{g:Option (Nat×Bool)}{d:Option Tmp}{T E:TypeId}{sz bytes B b0:Nat}{x y:Operand}{enc:α→List Value}{A2:Option Addr}{c2:Nat}{l2:List α}(hx:ev e x=some (.slice (some ⟨b0,0,none⟩) 0 0))(hy:ev e y=some (.slice A2 l2.length c2))(hT:SliceT P T E)(hi:InfoT P E sz bytes)(hsz:∀ x,(enc x).length=sz)(hone:∀ x,(enc x).all one=true)(hb:Blk w b0 E [])(hr:Rd w B E enc A2 l2)(h63:l2.length≤maxLen)(hbytes:l2.length*bytes≤140737488355328) : EfW P ⟨d,.call ⟨.builtin .append,#[x,y],#[T,T]⟩,ty,pos,af,g⟩ n e w (fun v w'=>∃ A' c',v=.slice A' l2.length c'∧Own w' b0 E sz enc A' c' l2∧Below w.heap.size w w'):=fun a hf=>Xc9 hf hx hy hT hi hsz hone hb hr h63 hbytes
end Go.Proofs.YtlfjcmldfbfdbaaGreat
namespace Go.Proofs.YtlfjcmldfbfdbaaGreat
open Go.RowKit Go.Sort
theorem X58{w:World}{g n:Nat}{os:Array Obj}{cur:Array Value}{e:TypeId}{fr:Nat×Nat}(d:Array Int)(hb:w.heap[g]? = some (.cells cur e fr)) :
  (grow (putRow (Value.int .i64) (Sort.ahead w n) g 0 d) os).heap[g]? = some (.cells (putCells (Value.int .i64) 0 d cur) e fr):=by
 have hg:g<w.heap.size:=(Array.getElem?_eq_some_iff.1 hb).1
 rw [heap_grow_old _ _ (by simpa using hg)]
 simp [putRow,mapBlock,Sort.ahead,Array.getElem?_modify,hb,onCells]
theorem X4r{w:World}{g n:Nat}{os:Array Obj}(d:Array Int) : w.grownBy (grow (putRow (Value.int .i64) (Sort.ahead w n) g 0 d) os) (some g):=by
 refine ⟨rfl,rfl,rfl,by simp,fun k hk hne=>?_⟩
 rw [heap_grow_old _ _ (by simpa using hk)]
 have:g≠k:=fun e=>hne (by rw [e])
 simp [putRow,mapBlock,Sort.ahead,Array.getElem?_modify,this]
theorem X90(l:List Int) : l.flatMap encI=l.map (Value.int .i64):=by
 induction l with
 | nil=>rfl
 | cons x l ih=>simp only [List.flatMap_cons,List.map_cons,ih];rfl
theorem Xax(cur:Array Value)(d ts:List Int)(h:d.length≤cur.size)(ht:d.take ts.length=ts) : (putCells (Value.int .i64) 0 d.toArray cur).toList.take (ts.length*1)=ts.flatMap encI:=by
 have hl:ts.length≤d.length:=by
  have:=congrArg List.length ht
  rw [List.length_take] at this
  omega
 rw [X90,Nat.mul_one]
 apply List.ext_getElem?
 intro j
 by_cases hj:j<ts.length
 ·rw [List.getElem?_take_of_lt hj,Array.getElem?_toList]
  have h1:ts[j]? = d[j]?:=by
   conv=>lhs;rw [← ht]
   rw [List.getElem?_take_of_lt hj]
  have h2:j<d.length:=by omega
  rw [List.getElem?_map,h1]
  simp [putCells,h2,show j<cur.size by omega]
 ·rw [List.getElem?_take_eq_none (by omega),List.getElem?_eq_none (by simp;omega)]
theorem X92{w:World}{g:Nat}{cur:Array Value}{e:TypeId}{l:List Int}(hb:w.heap[g]? = some (.cells cur e (0,0)))(ht:cur.toList.take (l.length*1)=l.flatMap encI) : Holds (Value.int .i64) w g 0 l.toArray:=by
 intro j hj
 have hj':j<l.length:=by simpa using hj
 refine ⟨?_,by simp [World.frozen?,hb]⟩
 rw [X90,Nat.mul_one] at ht
 have h1:(cur.toList.take l.length)[j]? = (l.map (Value.int .i64))[j]?:=by rw [ht]
 rw [List.getElem?_take_of_lt hj'] at h1
 simp only [World.cell?,hb,Nat.zero_add]
 simp only [Option.isSome_none,Bool.false_eq_true,if_false]
 rw [← Array.getElem?_toList,h1]
 simp [hj']
def sortI(l:List Int) : List Int:=l.mergeSort fun x y=>decide (x≤y)
theorem F94(w0:World)(B0:Nat)(A:Option Addr)(c:Nat)(l:List Int)(ho:Own w0 B0 3 1 encI A c l)(hl:l.length≤1000000000) :
  Ret Tryz.prog 160 [.slice A l.length c] w0 (fun _ w=>Own w B0 3 1 encI A c (sortI l)∧w0.grownBy w (Value.slice A l.length c).ownBlock):=by
 by_cases h0:l=[]
 ·subst h0
  refine Calls.mono (Any.slices_Sort_int_none Tryz.lays189 A c w0) fun e w ⟨e1,e2⟩=>⟨_,e1,?_⟩
  subst e2
  exact ⟨by simpa [sortI] using ho,World.grownBy.refl w _⟩
 ·rcases ho.2 with ⟨h1,h2⟩|⟨g,cap,cur,h1,h2,h3,h4,h5,h6,h7⟩
  ·exact absurd (List.eq_nil_of_length_eq_zero h2) h0
  ·injection h1 with h1 _ h1''
   subst h1;subst h1''
   have hs:(sortI l).length=l.length:=by simp [sortI]
   refine Calls.mono (Tryz.slices_Sort_int g 0 c l w0 (X92 h3 h7) (Array.getElem?_eq_some_iff.1 h3).1 (by omega)) fun e w ⟨e1,n,os,e2⟩=>⟨_,e1,?_⟩
   subst e2
   refine ⟨⟨Xq X0z _,.inr ⟨g,c,_,by rw [hs],h2,X58 _ h3,by omega,h5,by simp [putCells,h6],?_⟩⟩,?_⟩
   ·exact Xax cur (sortI l) (sortI l) (by omega) List.take_length
   ·exact X4r _
theorem X6q(l:List Int) : (Lib.compact l).length≤l.length:=by
 unfold Lib.compact Lib.compactUpTo
 rw [List.length_map]
 exact Nat.le_trans (List.length_filter_le _ _) (by simp)
theorem F95(w0:World)(B0:Nat)(A:Option Addr)(c:Nat)(l:List Int)(ho:Own w0 B0 3 1 encI A c l)(hl:l.length≤1000000000) :
  Ret Tryz.prog 161 [.slice A l.length c] w0 (fun v w=>v=.slice A (Lib.compact l).length c∧Own w B0 3 1 encI A c (Lib.compact l)∧w0.grownBy w (Value.slice A l.length c).ownBlock):=by
 by_cases h0:l=[]
 ·subst h0
  refine Calls.mono (Tryz.slices_Compact_int_empty A c w0) fun e w ⟨e1,e2⟩=>⟨_,e1,?_⟩
  subst e2
  exact ⟨rfl,ho,World.grownBy.refl w _⟩
 ·rcases ho.2 with ⟨h1,h2⟩|⟨g,cap,cur,h1,h2,h3,h4,h5,h6,h7⟩
  ·exact absurd (List.eq_nil_of_length_eq_zero h2) h0
  ·injection h1 with h1 _ h1''
   subst h1;subst h1''
   have hc:=X6q l
   refine Calls.mono (Tryz.slices_Compact_int g 0 c l w0 (X92 h3 h7) (by omega) h4) fun e w ⟨e1,q,e2⟩=>⟨_,e1,rfl,?_⟩
   have e3:w=grow (putRow (Value.int .i64) (Sort.ahead w0 q) g 0 (Lib.compact l++List.replicate (l.length-(Lib.compact l).length) 0).toArray) #[]:=by rw [grow_empty];exact e2
   subst e3
   refine ⟨⟨Xq X0z _,.inr ⟨g,c,_,rfl,h2,X58 _ h3,by omega,h5,by simp [putCells,h6],?_⟩⟩,?_⟩
   ·exact Xax cur _ (Lib.compact l) (by simp;omega) List.take_left
   ·exact X4r _
theorem Xot(w0:World)(B0:Nat)(A:Option Addr)(c:Nat)(l:List Int)(m:Nat)(hm:m=l.length)(ho:Own w0 B0 3 1 encI A c l)(hl:l.length≤1000000000) :
  Ret Tryz.prog 161 [.slice A m c] w0 (fun v w=>v=.slice A (Lib.compact l).length c∧Own w B0 3 1 encI A c (Lib.compact l)∧w0.grownBy w (Value.slice A l.length c).ownBlock):=by
 subst hm
 exact F95 w0 B0 A c l ho hl
def growRen:Go.Shelf.Ren:=⟨fun|4=>189|n=>n,fun|22=>66|25=>3|n=>n,fun|n=>n⟩
theorem Xdn:Lays8.n4 Tryz.prog growRen:={
 mixed:=by kernel_rfl
 f4:=⟨Tryz.f189.name,by decide,Tryz.func189.trans (congrArg some (by kernel_rfl))⟩
 t0:=Tryz.underlying0
 a0:=Tryz.isAgg0
 z0:=Tryz.sizeOf0
 v0:=Tryz.zeroValue0
 t3:=Tryz.underlying3
 a3:=Tryz.isAgg3
 z3:=Tryz.sizeOf3
 v3:=Tryz.zeroValue3
 t4:=Tryz.underlying4
 a4:=Tryz.isAgg4
 z4:=Tryz.sizeOf4
 v4:=Tryz.zeroValue4
 t9:=Tryz.underlying9
 a9:=Tryz.isAgg9
 z9:=Tryz.sizeOf9
 v9:=Tryz.zeroValue9
 t20:=Tryz.underlying20
 a20:=Tryz.isAgg20
 z20:=Tryz.sizeOf20
 v20:=Tryz.zeroValue20
 t22:=Tryz.underlying66
 a22:=Tryz.isAgg66
 z22:=Tryz.sizeOf66
 v22:=Tryz.zeroValue66 }
theorem Xp7(w0:World)(n:Nat)(hn:n≤1000000000) : Ret Tryz.prog 189 [.slice none 0 0,.int .i64 (n:Int)] w0 (fun v w=>∃ A c,v=.slice A 0 c∧Own w w0.heap.size 3 1 encI A c ([] : List Int)∧Below w0.heap.size w0 w):=by
 by_cases h0:n=0
 ·subst h0
  refine Calls.mono (Any8.slices_Grow_room Xdn none 0 0 0 w0 (by omega) (by omega) (by omega) (by omega)) fun e w ⟨e1,e2⟩=>⟨_,e1,none,0,rfl,?_⟩
  subst e2
  exact ⟨Own.nil _ _ _ _ _,Below.refl _ _⟩
 ·obtain ⟨i,z,hi1,hi2,hi3,hi4,hi5,hi6⟩:=X2d
  refine Calls.mono (Any8.slices_Grow_grow Xdn i z hi1 hi2 (by omega) none 0 0 n [] w0 (by omega) (by omega) (by rw [hi4];omega) (by omega) (by simp) (fun _=>rfl) (fun a h=>by cases h)) fun e w ⟨e1,e2⟩=>⟨_,e1,_,_,rfl,?_⟩
  subst e2
  have hge:=grownCap_ge w0 (0+n) 0 (growRen.t 25)
  refine ⟨⟨rfl,.inr ⟨w0.heap.size,_,_,rfl,Nat.le_refl _,heap_alloc_new w0.drew _,Nat.zero_le _,grownCap_le_maxLen w0 _ _ _ (by simp only [maxLen];omega),?_,by simp⟩⟩,((Below.refl _ _).drew).alloc (Nat.le_refl _) _⟩
  simp only [Array.size_append,List.size_toArray,size_zeroCells,hi5,List.length_nil,Nat.zero_add,Nat.mul_one] at hge ⊢
  omega
end Go.Proofs.YtlfjcmldfbfdbaaGreat
namespace Go.Proofs.YtlfjcmldfbfdbaaGreat
open Go.RowKit
structure Sl where (A:Option Addr) (c:Nat) (l:List Int)
def encS(s:Sl) : List Value:=[.slice s.A s.l.length s.c]
theorem Xao:∀ x,(encS x).length=1:=fun _=>rfl
structure Rp where (pos:Int) (old new:List Gt)
theorem X3r{α β:Type}{f:α→List β}{l:List α}{k:Nat}{u:α}(h:l[k]? = some u) : (l.take (k+1)).flatMap f=(l.take k).flatMap f++f u:=by
 rw [List.take_add_one,h]
 simp
theorem X4t{α β:Type}(f:α→List β)(l:List α)(k:Nat) : ((l.take k).flatMap f).length≤(l.flatMap f).length:=by
 conv=>rhs;rw [← List.take_append_drop k l]
 rw [List.flatMap_append,List.length_append]
 omega
theorem X6a{α β:Type}(f:α→List β){l:List α}{k:Nat}(h:l.length≤k) : (l.take k).flatMap f=l.flatMap f:=by rw [List.take_of_length_le h]
def unionI(p q:List Int) : List Int:=Lib.compact (sortI (p++(q++[])))
def qubI(g:Gt) : List Int:=if g.k=12 then [] else if inR g.k 9 11=true then [g.a,g.b] else [g.a]
def usedI(l:List Gt) : List Int:=unionI (l.flatMap qubI) []
theorem Xbp(g:Gt) : (qubI g).length≤2:=by unfold qubI;split<;>(try split)<;>simp
theorem X8q(p q:List Int) : (unionI p q).length≤p.length+q.length:=by
 unfold unionI
 refine Nat.le_trans (X6q _) ?_
 simp [sortI]
theorem X7l(l:List Gt) : (l.flatMap qubI).length≤2*l.length:=by
 induction l with
 | nil=>simp
 | cons g l ih=>have:=Xbp g;simp only [List.flatMap_cons,List.length_append,List.length_cons];omega
theorem X5t(l:List Gt) : (usedI l).length≤2*l.length:=by
 have h1:=X8q (l.flatMap qubI) []
 have h2:=X7l l
 unfold usedI
 simp only [List.length_nil] at h1
 omega
def setAll:List Int→Nat→List Int→List Int
 | [],_,to=>to
 | q::l,i,to=>setAll l (i+1) (to.set q.toNat (i:Int))
def numbI(l:List Int) : List Int:=setAll l 0 [0,0,0,0,0]
theorem X86:∀ (l:List Int) (i:Nat) (to:List Int),(setAll l i to).length=to.length
 | [],_,_=>rfl
 | _::l,i,to=>by rw [setAll,X86 l];simp
theorem X6r:∀ (l:List Int) (q:Int) (i:Nat) (to:List Int),setAll (l++[q]) i to=(setAll l i to).set q.toNat ((i+l.length:Nat) : Int)
 | [],q,i,to=>by simp [setAll]
 | x::l,q,i,to=>by
  rw [List.cons_append,setAll,setAll,X6r l]
  congr 2
  simp only [List.length_cons]
  omega
theorem X8s{l:List Int}{k:Nat}{u:Int}(h:l[k]? = some u) : numbI (l.take (k+1))=(numbI (l.take k)).set u.toNat (k:Int):=by
 have hk:=(List.getElem?_eq_some_iff.1 h).1
 unfold numbI
 rw [List.take_add_one,h,Option.toList_some,X6r,List.length_take,Nat.min_eq_left (by omega),Nat.zero_add]
theorem X5y(l:List Int) : (numbI l).length=5:=by rw [numbI,X86];rfl
def mapG(to:List Int)(g:Gt) : Gt:=⟨g.k,if g.k=12 then g.a else to.getD g.a.toNat 0,if inR g.k 9 11=true then to.getD g.b.toNat 0 else g.b⟩
def mapI(l:List Gt)(to:List Int) : List Gt:=l.map (mapG to)
theorem Xbf{α β:Type}{f:α→β}{l:List α}{k:Nat}{u:α}(h:l[k]? = some u) : (l.take (k+1)).map f=(l.take k).map f++[f u]:=by
 rw [List.take_add_one,h]
 simp
theorem X5r{l:List Int}{k:Nat}(h:k<l.length) : l[k]? = some (l.getD k 0):=by
 rw [List.getD_eq_getElem?_getD,List.getElem?_eq_getElem h];rfl
def vrI(n:Int)(r:Rp) : Bool:=inR n 1 5&&inR r.pos 0 400&&decide ((r.old.length:Int)≤40)&&decide ((r.new.length:Int)≤40)&&!(r.old.any fun x=>!gOk n x)&&!(r.new.any fun x=>!gOk n x)
end Go.Proofs.YtlfjcmldfbfdbaaGreat
namespace Go.Proofs.YtlfjcmldfbfdbaaGreat
open Go.RowKit
def oA(A:Option Addr)(m:Nat) : Addr:=match A with
 | some p=>⟨p.block,m,none⟩
 | none=>⟨0,m,none⟩
theorem X36{l vs:List Value}{off:Nat}(h:off+vs.length≤l.length)(i:Nat) : (splice l off vs)[i]? = if i<off then l[i]? else if i<off+vs.length then vs[i-off]? else l[i]?:=by
 unfold splice
 have h1:(l.take off).length=off:=by rw [List.length_take];omega
 by_cases h2:i<off
 ·rw [if_pos h2,List.append_assoc,List.getElem?_append_left (by omega),List.getElem?_take_of_lt h2]
 ·rw [if_neg h2]
  by_cases h3:i<off+vs.length
  ·rw [if_pos h3,List.getElem?_append_left (by rw [List.length_append];omega),List.getElem?_append_right (by omega),h1]
  ·rw [if_neg h3,List.getElem?_append_right (by rw [List.length_append];omega),List.length_append,h1,List.getElem?_drop]
   congr 1
   omega
theorem X3f{l vs:List Value}{off:Nat}(h:off+vs.length≤l.length) : (splice l off vs).length=l.length:=by
 unfold splice
 simp only [List.length_append,List.length_take,List.length_drop]
 omega
theorem Xaq{l x vs:List Value}{o j:Nat}(hx:∀ i,i<x.length→l[o+i]? = x[i]?)(h1:o+x.length≤l.length)(h2:j+vs.length≤x.length) : splice l (o+j) vs=splice l o (splice x j vs):=by
 have h3:=X3f h2
 apply List.ext_getElem?
 intro i
 rw [X36 (by omega),X36 (by omega),h3]
 by_cases a1:i<o
 ·rw [if_pos (by omega),if_pos a1]
 ·rw [if_neg a1]
  by_cases a2:i<o+x.length
  ·rw [if_pos a2,X36 h2]
   by_cases a3:i<o+j
   ·rw [if_pos a3,if_pos (show i-o<j by omega),← hx (i-o) (by omega)];congr 1;omega
   ·rw [if_neg a3,if_neg (show ¬ i-o<j by omega)]
    by_cases a4:i<o+j+vs.length
    ·rw [if_pos a4,if_pos (show i-o<j+vs.length by omega)];congr 1;omega
    ·rw [if_neg a4,if_neg (show ¬ i-o<j+vs.length by omega),← hx (i-o) (by omega)];congr 1;omega
  ·rw [if_neg a2,if_neg (by omega),if_neg (by omega)]
theorem Xb8{l vs:List Value}{off N:Nat}(h:off+vs.length≤N)(hN:N≤l.length) : (splice l off vs).take N=splice (l.take N) off vs:=by
 apply List.ext_getElem?
 intro i
 by_cases hi:i<N
 ·rw [List.getElem?_take_of_lt hi,X36 (by omega),X36 (by rw [List.length_take];omega),List.getElem?_take_of_lt hi]
 ·rw [List.getElem?_take_eq_none (by omega),List.getElem?_eq_none]
  rw [X3f (by rw [List.length_take];omega),List.length_take];omega
theorem Xda{α:Type}{enc:α→List Value}{sz:Nat}(hsz:∀ x,(enc x).length=sz) : ∀ (l:List α) (k i:Nat) (x:α),l[k]? = some x→i<sz→(l.flatMap enc)[k*sz+i]? = (enc x)[i]?
 | [],k,i,x,h,_=>by simp at h
 | y::l,0,i,x,h,hi=>by
  simp at h;subst h
  rw [List.flatMap_cons,Nat.zero_mul,Nat.zero_add,List.getElem?_append_left (by rw [hsz];exact hi)]
 | y::l,k+1,i,x,h,hi=>by
  have h':l[k]? = some x:=by simpa using h
  have e:(k+1)*sz+i=sz+(k*sz+i):=by rw [Nat.add_mul];omega
  rw [List.flatMap_cons,e,List.getElem?_append_right (by rw [hsz];omega),hsz,Nat.add_sub_cancel_left]
  exact Xda hsz l k i x h' hi
section
variable {P : Program} {a : Act} {w w' : World} {n : Nat} {e : Env} {ty : TypeId} {pos : String} {af : Array Edge} {g : Option (Nat × Bool)} {d : Option Tmp} {α : Type}
theorem Xbm{T E:TypeId}{sz B0 k m:Nat}{x y:Operand}{enc:α→List Value}{A:Option Addr}{c:Nat}{l:List α}{i:Int}(hf:Fr a n e)(hx:ev e x=some (.slice A m c))(hy:ev e y=some (.int .i64 i))(hT:SliceT P T E)(hs:SizeT P E sz)
  (ho:Own w' B0 E sz enc A c l) (hm:m=l.length) (hi:i=(k:Int)) (hk:k<l.length) : Ev P ⟨d,.indexAddr T x y,ty,pos,af,g⟩ a w (.pointer (some (oA A (k*sz)))):=by
 subst hm
 rcases ho.2 with ⟨h1,h2⟩|⟨b,cap,cur,h1,h2,h3,h4⟩
 ·omega
 ·injection h1 with h1
  rw [h1] at hx ⊢
  exact X9h (b:=b) (off:=k*sz) hf hx hy hT hs hi hk rfl
theorem X6o{T E:TypeId}{sz B0 k m:Nat}{x y:Operand}{enc:α→List Value}{A:Option Addr}{c:Nat}{l:List α}{i:Int}(hx:ev e x=some (.slice A m c))(hy:ev e y=some (.int .i64 i))(hT:SliceT P T E)(hs:SizeT P E sz)(ho:Own w' B0 E sz enc A c l)(hm:m=l.length)(hi:i=(k:Int))(hk:k<l.length) : EvW P ⟨d,.indexAddr T x y,ty,pos,af,g⟩ n e w (.pointer (some (oA A (k*sz)))):=fun a hf=>Xbm hf hx hy hT hs ho hm hi hk
theorem Xb5{T f k m:Nat}{x:Operand}{A:Option Addr}(hf:Fr a n e)(hx:ev e x=some (.pointer (some (oA A m))))(hF:FieldT P T f k){m':Nat}(hm:m+k=m') : Ev P ⟨d,.fieldAddr T x f,ty,pos,af,g⟩ a w (.pointer (some (oA A m'))):=by
 subst hm
 have h:=X7g (P:=P) (w:=w) (d:=d) (ty:=ty) (pos:=pos) (af:=af) (g:=g) hf hx hF
 have e:(oA A m).add k=oA A (m+k):=by cases A<;>simp [oA,Addr.add]
 rw [e] at h
 exact h
theorem Xe1{T f k m:Nat}{x:Operand}{A:Option Addr}(hx:ev e x=some (.pointer (some (oA A m))))(hF:FieldT P T f k){m':Nat}(hm:m+k=m') : EvW P ⟨d,.fieldAddr T x f,ty,pos,af,g⟩ n e w (.pointer (some (oA A m'))):=fun a hf=>Xb5 hf hx hF hm
theorem Xav{t E:TypeId}{sz B0 k j m n1:Nat}{x y:Operand}{enc:α→List Value}{A:Option Addr}{c:Nat}{l:List α}{v:Value}{vs:List Value}{x0 u:α}(hf:Fr a n e)(hx:ev e x=some (.pointer (some (oA A m))))(hy:ev e y=some v)(hs:SizeT P t n1)
  (ho:Own w B0 E sz enc A c l) (hsz:∀ x,(enc x).length=sz) (hv:v.cells.toList=vs) (hn:Nat.beq vs.length n1=true) (h1:vs.all one=true) (hm:k*sz+j=m) (hj:j+n1≤sz) (hk:l[k]? = some x0) (hu:splice (enc x0) j vs=enc u) :
  Ef P ⟨d,.store t x y,ty,pos,af,g⟩ a w (fun _ w'=>Own w' B0 E sz enc A c (l.set k u)∧w.grownBy w' (Value.slice A l.length c).ownBlock):=by
 have hkl:k<l.length:=(List.getElem?_eq_some_iff.1 hk).1
 rcases ho.2 with ⟨e1,e2⟩|⟨b,cap,cur,e1,e2,e3,e4,e5,e6,e7⟩
 ·omega
 ·injection e1 with e1 _ e1'
  subst hm;subst e1'
  have hcl:cur.toList.length=c*sz:=Array.length_toList.trans e6
  have hN:l.length*sz≤cur.toList.length:=by rw [hcl];exact Nat.mul_le_mul_right _ e4
  have hks:k*sz+sz≤l.length*sz:=by
   have:=Nat.mul_le_mul_right sz (show k+1≤l.length by omega)
   rwa [Nat.add_mul,Nat.one_mul] at this
  have hn':vs.length=n1:=Nat.eq_of_beq_eq_true hn
  rw [e1] at hx
  have hb:Blk w b E cur.toList:=by unfold Blk;rw [e3]
  refine (X7m (b:=b) (off:=k*sz+j) (vs:=vs) hf hx hy hs hb hv hn h1 (by rw [Nat.ble_eq];omega) rfl).mono fun _ w' ⟨hO,hB⟩=>?_
  have hlen:((l.set k u).flatMap enc).length=(l.set k u).length*sz:=Xq hsz _
  refine ⟨⟨hlen,.inr ⟨b,c,_,by rw [e1],e2,hB,by simp;omega,e5,?_,?_⟩⟩,?_⟩
  ·rw [List.size_toArray,X3f (by omega),hcl]
  ·simp only [List.length_set]
   rw [Xb8 (by omega) hN,e7,Xaq (x:=enc x0) (fun i hi=>?_) (by rw [Xq hsz,hsz];omega) (by rw [hsz];omega),hu]
   ·exact X49 hsz l k u hkl
   ·exact Xda hsz l k i x0 hk (by rw [← hsz x0];exact hi)
  ·rw [e1]
   exact ⟨hO.os,hO.tape,hO.output,by rw [hO.size];exact Nat.le_refl _,fun q _ hne=>hO.block q fun e=>hne (by rw [e];rfl)⟩
theorem X6k{t E:TypeId}{sz B0 k j m n1:Nat}{x y:Operand}{enc:α→List Value}{A:Option Addr}{c:Nat}{l:List α}{v:Value}{vs:List Value}{x0 u:α}(hx:ev e x=some (.pointer (some (oA A m))))(hy:ev e y=some v)(hs:SizeT P t n1)(ho:Own w B0 E sz enc A c l)(hsz:∀ x,(enc x).length=sz)(hv:v.cells.toList=vs)(hn:Nat.beq vs.length n1=true)(h1:vs.all one=true)(hm:k*sz+j=m)(hj:j+n1≤sz)(hk:l[k]? = some x0)(hu:splice (enc x0) j vs=enc u) : EfW P ⟨d,.store t x y,ty,pos,af,g⟩ n e w (fun _ w'=>Own w' B0 E sz enc A c (l.set k u)∧w.grownBy w' (Value.slice A l.length c).ownBlock):=fun a hf=>Xav hf hx hy hs ho hsz hv hn h1 hm hj hk hu
end
section
variable {P : Program} {ops : Array Oper} {a : Act} {w : World} {n d : Nat} {e : Env} {ty : TypeId} {pos : String} {af : Array Edge} {g : Option (Nat × Bool)} {α : Type}
end
def Apart(A A':Option Addr) : Prop:=∀ p q,A=some p→A'=some q→p.block≠q.block
section
variable {α β : Type} {w w' : World} {B B0 B1 : Nat} {E E' : TypeId} {sz sz' : Nat} {enc : α → List Value} {enc' : β → List Value} {A A' : Option Addr} {c c' : Nat} {l : List α} {l' : List β}
theorem Own.apart(h:Own w B E sz enc A c l)(h':Own w' B0 E' sz' enc' A' c' l')(hB:w.heap.size≤B0) : Apart A A':=fun p q hp hq=>by
 rcases h.2 with ⟨h1,_⟩|⟨g,cap,cur,h1,h2,h3,_⟩
 ·injection h1 with h1;rw [h1] at hp;cases hp
 ·rcases h'.2 with ⟨k1,_⟩|⟨g',cap',cur',k1,k2,k3,_⟩
  ·injection k1 with k1;rw [k1] at hq;cases hq
  ·injection h1 with h1
   injection k1 with k1
   rw [h1] at hp
   rw [k1] at hq
   injection hp with hp
   injection hq with hq
   subst hp;subst hq
   have:=(Array.getElem?_eq_some_iff.1 h3).1
   intro e
   simp only at e
   omega
theorem Own.appP(h:Own w B1 E' sz' enc' A' c' l')(hg:w.grownBy w' (Value.slice A l.length c).ownBlock)(ha:Apart A' A) : Own w' B1 E' sz' enc' A' c' l':=by
 refine ⟨h.1,?_⟩
 rcases h.2 with h1|⟨g,cap,cur,h1,h2,h3,h4⟩
 ·exact .inl h1
 ·refine .inr ⟨g,cap,cur,h1,h2,(hg.block g (Array.getElem?_eq_some_iff.1 h3).1 fun hk=>?_).trans h3,h4⟩
  injection h1 with h1
  cases A with
  | none=>simp [Value.ownBlock] at hk
  | some q=>
   simp only [Value.ownBlock,Option.some.injEq] at hk
   exact ha _ q h1 rfl hk
theorem Xig(A:Option Addr)(n m c d:Nat) : (Value.slice A n c).ownBlock=(Value.slice A m d).ownBlock:=by cases A<;>rfl
theorem gtr{A:Option Addr}{n m c d:Nat}{w0 w w':World}(h:w0.grownBy w (Value.slice A n c).ownBlock)(k:w.grownBy w' (Value.slice A m d).ownBlock) : w0.grownBy w' (Value.slice A n c).ownBlock:=
 ⟨k.os.trans h.os,k.tape.trans h.tape,k.output.trans h.output,Nat.le_trans h.size k.size,fun q hq hn=>(k.block q (Nat.lt_of_lt_of_le hq h.size) (by rw [Xig A m n d c];exact hn)).trans (h.block q hq hn)⟩
theorem Own.len{m:Nat}(h:Own w B E sz enc A c l)(hm:m=l.length) : Own w B E sz enc A c l∧Value.slice A m c=Value.slice A l.length c:=⟨h,by rw [hm]⟩
theorem Apart.symm(h:Apart A A') : Apart A' A:=fun p q hp hq e=>h q p hq hp e.symm
end
def DeepI(w:World)(B:Nat)(l:List Sl) : Prop:=∀ s ∈ l,Rd w B 3 encI s.A s.l
section
variable {w w' : World} {B : Nat} {l : List Sl}
theorem DeepI.below(h:DeepI w B l)(hb:Below w.heap.size w w') : DeepI w' B l:=fun s hs=>(h s hs).below hb
theorem DeepI.top(h:DeepI w B l) : DeepI w w.heap.size l:=fun s hs=>(h s hs).top
theorem DeepI.only{b:Nat}(h:DeepI w B l)(ho:Only b w w')(hB:B≤b) : DeepI w' B l:=fun s hs=>(h s hs).only ho hB
theorem DeepI.onlyT{b:Nat}{T:TypeId}{lc:List Value}(h:DeepI w B l)(ho:Only b w w')(hb:Blk w b T lc)(hT:Nat.beq 3 T=false) : DeepI w' B l:=fun s hs=>(h s hs).onlyT ho hb hT
theorem DeepI.appB{B0:Nat}{E':TypeId}{sz:Nat}{α:Type}{enc:α→List Value}{A:Option Addr}{c:Nat}{m:List α}(h:DeepI w B l)(ho:Own w B0 E' sz enc A c m)(hg:w.grownBy w' (Value.slice A m.length c).ownBlock)(hB:B≤B0) : DeepI w' B l:=fun s hs=>(h s hs).appB ho hg hB
theorem DeepI.appT{B0:Nat}{E':TypeId}{sz:Nat}{α:Type}{enc:α→List Value}{A:Option Addr}{c:Nat}{m:List α}(h:DeepI w B l)(ho:Own w B0 E' sz enc A c m)(hg:w.grownBy w' (Value.slice A m.length c).ownBlock)(hT:Nat.beq E' 3=false) : DeepI w' B l:=fun s hs=>(h s hs).appT ho hg hT
theorem DeepI.nil(w:World)(B:Nat) : DeepI w B []:=fun s hs=>by cases hs
theorem DeepI.snoc{s:Sl}(h:DeepI w B l)(hr:Rd w B 3 encI s.A s.l) : DeepI w B (l++[s]):=fun t ht=>by
 rcases List.mem_append.1 ht with h1|h1
 ·exact h t h1
 ·rw [List.mem_singleton] at h1;subst h1;exact hr
end
def LowI(B:Nat)(l:List Sl) : Prop:=∀ s ∈ l,∀ p,s.A=some p→B≤p.block
def Und(A:Option Addr)(B:Nat) : Prop:=∀ p,A=some p→p.block<B
theorem LowI.nil(B:Nat) : LowI B []:=fun s hs=>by cases hs
theorem LowI.snoc{B:Nat}{l:List Sl}{s:Sl}(h:LowI B l)(hs:∀ p,s.A=some p→B≤p.block) : LowI B (l++[s]):=fun t ht=>by
 rcases List.mem_append.1 ht with h1|h1
 ·exact h t h1
 ·rw [List.mem_singleton] at h1;subst h1;exact hs
section
variable {α : Type} {w w' : World} {B B1 : Nat} {E : TypeId} {sz : Nat} {enc : α → List Value} {A : Option Addr} {c : Nat} {l : List α} {m : List Sl}
end
end Go.Proofs.YtlfjcmldfbfdbaaGreat
namespace Go.Proofs.YtlfjcmldfbfdbaaGreat
open Go.RowKit
theorem Apart.app{α:Type}{w:World}{B:Nat}{E:TypeId}{sz:Nat}{enc:α→List Value}{A A1 A2:Option Addr}{c:Nat}{l:List α}(h:Own w B E sz enc A c l)(ha:Apart A A1)(hat:∀ b,b<w.heap.size→Away A1 b→Away A2 b) : Apart A A2:=by
 intro p q hp hq
 rcases h.2 with ⟨h1,_⟩|⟨g,cap,cur,h1,_,h3,_⟩
 ·injection h1 with h1;rw [h1] at hp;cases hp
 ·injection h1 with h1
  rw [h1] at hp
  injection hp with hp
  have hlt:p.block<w.heap.size:=by rw [← hp];exact (Array.getElem?_eq_some_iff.1 h3).1
  have haw:Away A1 p.block:=fun r hr e=>ha p r (by rw [h1,hp]) hr e.symm
  exact fun e=>hat _ hlt haw q hq e.symm
theorem Xay{α:Type}{P:Program}{a:Act}{w:World}{n:Nat}{e:Env}{ty:TypeId}{pos:String}{af:Array Edge}{g:Option (Nat×Bool)}{d:Option Tmp}{T E:TypeId}{sz bytes B b0:Nat}{x y:Operand}{enc:α→List Value}{A2:Option Addr}{c2:Nat}{l2:List α}(hf:Fr a n e)(hx:ev e x=some (.slice (some ⟨b0,0,none⟩) 0 0))(hy:ev e y=some (.slice A2 l2.length c2))
  (hT:SliceT P T E) (hi:InfoT P E sz bytes) (hsz:∀ x,(enc x).length=sz) (hone:∀ x,(enc x).all one=true) (hb:Blk w b0 E []) (hr:Rd w B E enc A2 l2) (h63:l2.length≤maxLen) (hbytes:l2.length*bytes≤140737488355328) :
  Ef P ⟨d,.call ⟨.builtin .append,#[x,y],#[T,T]⟩,ty,pos,af,g⟩ a w (fun v w'=>∃ A' c',v=.slice A' l2.length c'∧Own w' b0 E sz enc A' c' l2∧Below w.heap.size w w'∧∀ b,b<w.heap.size→b≠b0→Away A' b):=by
 by_cases hl2:l2=[]
 ·subst hl2
  obtain ⟨i,z,hi1,hi2,hi3,hi4,hi5,hi6⟩:=hi
  have hrun:(Builtin.append_ #[T,T] ty #[.slice (some ⟨b0,0,none⟩) 0 0,.slice A2 0 c2]).run P w=.ok (.slice (some ⟨b0,0,none⟩) 0 0) w:=by
   cases A2<;>simp [Builtin.append_,X0s hT,sizeOf,typeInfo,hi1,Builtin.lenOf,Builtin.firstCells,loadCells,loadCellsFrom,storeCells]
  refine (Ef.of_run (v:=.slice (some ⟨b0,0,none⟩) 0 0) (w':=w) ?_).mono fun v w' ⟨e1,e2⟩=>?_
  ·simp only [List.length_nil] at hy
   simp [execOp,resolve,invoke,builtin,hf.ev hx,hf.ev hy,hrun]
  ·subst e1;subst e2
   exact ⟨_,_,rfl,Own.empty hb (Nat.le_refl _),Below.refl _ _,fun b _ hne=>Away.ne hne⟩
 ·have hown:Own w b0 E sz enc (some ⟨b0,0,none⟩) 0 ([] : List α):=Own.empty hb (Nat.le_refl _)
  obtain ⟨i,z,hi1,hi2,rfl,rfl,hi5,hi6⟩:=hi
  obtain ⟨b,off,cs,fz,rfl,h2,h3,h4⟩:=hr hl2
  have hlen2:=Xq hsz l2
  have hpos:0<l2.length:=List.length_pos_iff.2 hl2
  have h:=run_append_grow (P:=P) w T ty E i z hT hi1 hi2 ⟨b0,0,none⟩ 0 0 [] (by simp) (fun j u hu=>by simp at hu)
   ⟨b,off,none⟩ l2.length c2 (l2.flatMap enc) hlen2 (fun j u hu=>by
    have:=h4 j u hu
    rw [X1u]
    simp [World.cell?,h3,this])
   (by omega) (by simp only [maxLen] at h63;omega) (growslice_fits (by omega) (by simpa using hbytes))
  simp only [Nat.zero_add] at h
  refine (Ef.of_run (w':=w.drew.alloc (.cells (([] : List Value).toArray++(l2.flatMap enc).toArray++Builtin.zeroCells z.cells (grownCap w l2.length 0 E-l2.length)) E)) (v:=.slice (some ⟨w.heap.size,0,none⟩) l2.length (grownCap w l2.length 0 E)) ?_).mono fun v w' ⟨e1,e2⟩=>?_
  ·simp [execOp,resolve,invoke,builtin,hf.ev hx,hf.ev hy,h]
  ·subst e1;subst e2
   have hb0:=hb.lt
   have hge:=grownCap_ge w l2.length 0 E
   refine ⟨_,_,rfl,?_,((Below.refl _ _).drew).alloc (Nat.le_refl _) _,fun b hb _=>Away.ne (by omega)⟩
   refine ⟨Xq hsz _,.inr ⟨w.heap.size,_,_,rfl,by omega,heap_alloc_new w.drew _,hge,grownCap_le_maxLen w _ _ E h63,?_,?_⟩⟩
   ·simp only [Array.size_append,List.size_toArray,size_zeroCells,hi5,hlen2,List.length_nil,Nat.zero_add,← Nat.add_mul]
    congr 1
    omega
   ·rw [← hlen2]
    simp only [Array.toList_append,List.append_assoc,List.nil_append]
    exact List.take_left
theorem X10{α:Type}{P:Program}{w:World}{n:Nat}{e:Env}{ty:TypeId}{pos:String}{af:Array Edge}{g:Option (Nat×Bool)}{d:Option Tmp}{T E:TypeId}{sz bytes B b0:Nat}{x y:Operand}{enc:α→List Value}{A2:Option Addr}{c2:Nat}{l2:List α}(hx:ev e x=some (.slice (some ⟨b0,0,none⟩) 0 0))(hy:ev e y=some (.slice A2 l2.length c2))(hT:SliceT P T E)(hi:InfoT P E sz bytes)(hsz:∀ x,(enc x).length=sz)(hone:∀ x,(enc x).all one=true)(hb:Blk w b0 E [])(hr:Rd w B E enc A2 l2)(h63:l2.length≤maxLen)(hbytes:l2.length*bytes≤140737488355328) : EfW P ⟨d,.call ⟨.builtin .append,#[x,y],#[T,T]⟩,ty,pos,af,g⟩ n e w (fun v w'=>∃ A' c',v=.slice A' l2.length c'∧Own w' b0 E sz enc A' c' l2∧Below w.heap.size w w'∧∀ b,b<w.heap.size→b≠b0→Away A' b):=fun a hf=>Xay hf hx hy hT hi hsz hone hb hr h63 hbytes
theorem Apart.new0{α:Type}{w:World}{B b0:Nat}{E:TypeId}{sz:Nat}{enc:α→List Value}{A A':Option Addr}{c:Nat}{l:List α}(h:Own w B E sz enc A c l)(ha:Away A b0)(hat:∀ b,b<w.heap.size→b≠b0→Away A' b) : Apart A A':=fun p q hp hq e=>by
 rcases h.2 with ⟨h1,_⟩|⟨g,cap,cur,h1,_,h3,_⟩
 ·injection h1 with h1;rw [h1] at hp;cases hp
 ·injection h1 with h1
  rw [h1] at hp
  injection hp with hp
  have hlt:p.block<w.heap.size:=by rw [← hp];exact (Array.getElem?_eq_some_iff.1 h3).1
  exact hat _ hlt (ha p (by rw [h1,hp])) q hq e.symm
section
variable {P : Program} {ops : Array Oper} {V : Option Nat} {tl : Nat → Bool} {Q : Act → World → Prop} {fuel : Nat} {done : List Nat} {w : World} {o : Oper} {op : Op} {ty : TypeId} {pos : String} {af : Array Edge} {g : Option (Nat × Bool)} {n d : Nat} {e : Env} {v : Value} {R : Value → World → Prop} {x : Operand}
end
end Go.Proofs.YtlfjcmldfbfdbaaGreat
namespace Go.Proofs.YtlfjcmldfbfdbaaGreat
open Go.RowKit
theorem X29{x:Dy} : dOk x=true↔rOk x.num=true∧(0≤x.exp∧x.exp≤60)∧(x.exp=0∨rEven x.num=false):=by
 simp only [dOk,Bool.and_eq_true,X02,Bool.or_eq_true,beq_iff_eq,Bool.not_eq_true',and_assoc]
theorem Xdc:∀ (m:Nat) (x:Rg),rOk x=true→m≤60→dOk (dLow x m)=true
 | 0,x,h,_=>by
  rw [X28 (by omega)]
  exact X29.2 ⟨h,by simp,.inl rfl⟩
 | m+1,x,h,hm=>by
  by_cases he:rEven x=true
  ·rw [X3s (by omega) he,show ((m+1:Nat) : Int)-1=(m:Int) from by omega]
   exact Xdc m _ (X68 h) (by omega)
  ·have he':rEven x=false:=by simpa using he
   rw [X28 fun _=>he']
   exact X29.2 ⟨h,by dsimp only;omega,.inr he'⟩
theorem X7r{x:Rg}{e:Int}(h:rOk x=true)(h0:0≤e)(h1:e≤60) : dOk (dLow x e)=true:=by
 obtain ⟨m,rfl⟩ : ∃ m:Nat,e=m:=⟨e.toNat,by omega⟩
 exact Xdc m x h (by omega)
def Agree(o:Option Dy)(p:Bool×Dy) : Prop:=(∀ z,o=some z→p=(false,z)∧dOk z=true)∧(o=none→p.1=true)
theorem X4k{x y z:Rg}(hx:rOk x=true)(hy:rOk y=true) : rIf2 z [x,y]=rOk z:=by simp [rIf2,hx,hy]
theorem X6d{x z:Rg}(hx:rOk x=true) : rIf2 z [x]=rOk z:=by simp [rIf2,hx]
theorem Xen{x y:Dy}(hx:dOk x=true)(hy:dOk y=true) : Agree (dMulI x y) (sMul false x y):=by
 have kx:=X29.1 hx
 have ky:=X29.1 hy
 unfold dMulI sMul
 rw [hx,hy,X4k kx.1 ky.1,rIf1,X4k kx.1 ky.1,Bool.true_and,Bool.true_and]
 by_cases hr:rOk (rMul x.num y.num)=true
 ·rw [if_pos hr,if_pos hr]
  unfold dOf
  rw [hr,Bool.true_and]
  by_cases he:60<x.exp+y.exp
  ·have h1:¬ inR (x.exp+y.exp) 0 60=true:=fun h=>by have:=X02.1 h;omega
   rw [if_neg h1,if_pos he]
   exact ⟨fun z h=>(by cases h),fun _=>rfl⟩
  ·have h1:inR (x.exp+y.exp) 0 60=true:=X02.2 (by omega)
   rw [if_pos h1,if_neg he,sRing,if_pos hr]
   exact ⟨fun z h=>(by injection h with h;subst h;exact ⟨rfl,X7r hr (by omega) (by omega)⟩),fun h=>by cases h⟩
 ·have hr':rOk (rMul x.num y.num)=false:=by simpa using hr
  rw [if_neg hr]
  refine ⟨fun z h=>(by cases h),fun _=>?_⟩
  by_cases he:60<x.exp+y.exp
  ·rw [if_pos he]
  ·rw [if_neg he,hr'];rfl
theorem X5d:∀ (n:Nat) (f:Bool) (x:Dy),(sRaiseN n f x).2.exp=x.exp+n
 | 0,f,x=>by simp [sRaiseN]
 | n+1,f,x=>by rw [sRaiseN,X5d n];dsimp only;omega
theorem X32:∀ (n:Nat) (x:Dy),(sRaiseN n true x).1=true
 | 0,x=>rfl
 | n+1,x=>by rw [sRaiseN];exact X32 n _
theorem X4f:∀ (n:Nat) (x:Dy),rOk x.num=true→(raiseI n x.num).2=true→sRaiseN n false x=(false,⟨(raiseI n x.num).1,x.exp+n⟩)∧rOk (raiseI n x.num).1=true
 | 0,x,h,_=>⟨by simp [sRaiseN,raiseI],h⟩
 | n+1,x,h,hr=>by
  unfold raiseI at hr ⊢
  rw [X6d h] at hr ⊢
  by_cases h1:rOk (rRoot x.num)=true
  ·rw [if_pos h1] at hr ⊢
   rw [sRaiseN,h1,sRing,if_pos h1]
   have:=X4f n ⟨rRoot x.num,x.exp+1⟩ h1 hr
   refine ⟨?_,this.2⟩
   simp only [Bool.not_true,Bool.or_false]
   rw [this.1]
   dsimp only
   congr 2
   omega
  ·rw [if_neg h1] at hr
   cases hr
theorem X4e:∀ (n:Nat) (x:Dy),rOk x.num=true→(raiseI n x.num).2=false→(sRaiseN n false x).1=true
 | 0,x,h,hr=>by cases hr
 | n+1,x,h,hr=>by
  unfold raiseI at hr
  rw [X6d h] at hr
  by_cases h1:rOk (rRoot x.num)=true
  ·rw [if_pos h1] at hr
   rw [sRaiseN,h1,sRing,if_pos h1]
   simp only [Bool.not_true,Bool.or_false]
   exact X4e n ⟨rRoot x.num,x.exp+1⟩ h1 hr
  ·have h2:rOk (rRoot x.num)=false:=by simpa using h1
   rw [sRaiseN,h2]
   exact X32 n _
theorem Xek{x y:Dy}(hx:dOk x=true)(hy:dOk y=true) : Agree (dAddI x y) (sAdd false x y):=by
 have kx:=X29.1 hx
 have ky:=X29.1 hy
 obtain ⟨m,hm⟩ : ∃ m,m=max x.exp y.exp:=⟨_,rfl⟩
 have e1:(m-x.exp).toNat=(y.exp-x.exp).toNat:=by omega
 have e3:x.exp+((y.exp-x.exp).toNat:Int)=m:=by omega
 have ed1:dRaise x m=raiseI (y.exp-x.exp).toNat x.num:=by rw [dRaise,e1]
 unfold dAddI sAdd
 rw [hx,hy,Bool.and_self,if_pos rfl,← hm,X5d,e3]
 cases h1:(dRaise x m).2 with
 | false=>
  have hb:=X4e _ x kx.1 (by rw [← ed1];exact h1)
  rw [hb,X32]
  simp only [Bool.false_and,Bool.false_eq_true,if_false,Bool.true_or]
  exact ⟨fun z h=>(by cases h),fun _=>rfl⟩
 | true=>
  obtain ⟨g1,g2⟩:=X4f _ x kx.1 (by rw [← ed1];exact h1)
  rw [g1]
  rw [← ed1] at g2 ⊢
  dsimp only
  have ed2:dRaise y m=raiseI (m-y.exp).toNat y.num:=rfl
  cases h2:(dRaise y m).2 with
  | false=>
   have hb:=X4e _ y ky.1 (by rw [← ed2];exact h2)
   rw [hb]
   simp only [Bool.and_false,Bool.false_and,Bool.false_eq_true,if_false,Bool.true_or]
   exact ⟨fun z h=>(by cases h),fun _=>rfl⟩
  | true=>
   obtain ⟨k1,k2⟩:=X4f _ y ky.1 (by rw [← ed2];exact h2)
   rw [k1]
   rw [← ed2] at k2 ⊢
   dsimp only
   rw [X4k g2 k2,rIf1,X4k g2 k2,Bool.true_and,Bool.true_and,Bool.false_or]
   by_cases hr:rOk (rAdd (dRaise x m).1 (dRaise y m).1)=true
   ·have h3:inR m 0 60=true:=X02.2 (by omega)
    rw [if_pos hr,if_pos hr,dOf,hr,h3,sRing,if_pos hr]
    exact ⟨fun z h=>(by simp only [Bool.and_self,if_true] at h;injection h with h;subst h;exact ⟨rfl,X7r hr (by omega) (by omega)⟩),fun h=>by simp at h⟩
   ·have hr':rOk (rAdd (dRaise x m).1 (dRaise y m).1)=false:=by simpa using hr
    rw [if_neg hr,hr']
    exact ⟨fun z h=>(by cases h),fun _=>rfl⟩
def dotS(f:Bool)(a b:Mx)(i j:Nat) : Nat→Bool×Dy
 | 0=>(f,dZ)
 | n+1=>if (dotS f a b i j n).1=true then dotS f a b i j n else
   sAdd (sMul false (a.at i n) (b.at n j)).1 (dotS f a b i j n).2 (sMul false (a.at i n) (b.at n j)).2
theorem X7t{f:Bool}{a b:Mx}{i j n:Nat}(h:(dotS f a b i j n).1=true) : ∀ m,n≤m→dotS f a b i j m=dotS f a b i j n
 | 0,h'=>by
  obtain rfl:n=0:=by omega
  rfl
 | m+1,h'=>by
  by_cases hm:n=m+1
  ·subst hm;rfl
  ·rw [dotS,X7t h m (by omega),if_pos h]
theorem Xdu(a b:Mx)(i j n:Nat) : dotS true a b i j n=(true,dZ):=X7t (n:=0) rfl n (Nat.zero_le _)
theorem Xj2:dOk dZ=true:=by decide
theorem Xfw(x y:Dy) : (sAdd true x y).1=true:=by
 unfold sAdd
 rw [show (sRaiseN (y.exp-x.exp).toNat true x).1=true from X32 _ _,X32]
 rfl
def AllOk(m:Mx) : Prop:=∀ x ∈ m.cells,dOk x=true
theorem Mx.at_ok{m:Mx}(h:AllOk m)(i j:Nat) : dOk (m.at i j)=true:=by
 unfold Mx.at
 rw [List.getD_eq_getElem?_getD]
 cases hx:m.cells[i*m.cols.toNat+j]? with
 | none=>exact Xj2
 | some x=>exact h x (List.mem_of_getElem? hx)
theorem X8z{a b:Mx}(ha:AllOk a)(hb:AllOk b)(i j:Nat) : ∀ n,Agree (dotI a b i j n) (dotS false a b i j n)
 | 0=>⟨fun z h=>(by injection h with h;subst h;exact ⟨rfl,Xj2⟩),fun h=>by cases h⟩
 | n+1=>by
  have ih:=X8z ha hb i j n
  have hm:=Xen (Mx.at_ok ha i n) (Mx.at_ok hb n j)
  unfold dotI dotS
  cases h1:dotI a b i j n with
  | none=>
   have h2:=ih.2 h1
   rw [if_pos h2]
   exact ⟨fun z h=>(by cases h),fun _=>h2⟩
  | some s=>
   obtain ⟨h2,h3⟩:=ih.1 s h1
   rw [h2]
   simp only [Bool.false_eq_true,if_false,Option.bind_some]
   cases h4:dMulI (a.at i n) (b.at n j) with
   | none=>
    rw [hm.2 h4]
    exact ⟨fun z h=>(by cases h),fun _=>Xfw _ _⟩
   | some x=>
    obtain ⟨h5,h6⟩:=hm.1 x h4
    rw [h5]
    exact Xek h3 h6
def timesL(f:Bool)(a b:Mx) : Nat→Bool×List Dy
 | 0=>(f,[])
 | n+1=>((dotS (timesL f a b n).1 a b (n/b.cols.toNat) (n % b.cols.toNat) a.cols.toNat).1,(timesL f a b n).2++[(dotS (timesL f a b n).1 a b (n/b.cols.toNat) (n % b.cols.toNat) a.cols.toNat).2])
def timesS(f:Bool)(a b:Mx) : Bool×Mx:=((timesL f a b (a.rows.toNat*b.cols.toNat)).1,⟨a.rows,b.cols,(timesL f a b (a.rows.toNat*b.cols.toNat)).2⟩)
theorem X7o(f:Bool)(a b:Mx) : ∀ n,(timesL f a b n).2.length=n
 | 0=>rfl
 | n+1=>by simp [timesL,X7o f a b n]
theorem Xbc{f:Bool}{a b:Mx}{i j:Nat}(hj:j<b.cols.toNat) : timesL f a b (i*b.cols.toNat+(j+1))=((dotS (timesL f a b (i*b.cols.toNat+j)).1 a b i j a.cols.toNat).1,(timesL f a b (i*b.cols.toNat+j)).2++[(dotS (timesL f a b (i*b.cols.toNat+j)).1 a b i j a.cols.toNat).2]):=by
 have h1:(i*b.cols.toNat+j)/b.cols.toNat=i:=by rw [Nat.mul_comm,Nat.mul_add_div (by omega),Nat.div_eq_of_lt hj];omega
 have h2:(i*b.cols.toNat+j) % b.cols.toNat=j:=by rw [Nat.mul_comm,Nat.mul_add_mod,Nat.mod_eq_of_lt hj]
 rw [show i*b.cols.toNat+(j+1)=(i*b.cols.toNat+j)+1 from rfl,timesL,h1,h2]
theorem X77{a b:Mx}(ha:AllOk a)(hb:AllOk b) : ∀ n,(∀ l,seqO (gridG (fun i j=>dotI a b i j a.cols.toNat) b.cols.toNat) n=some l→timesL false a b n=(false,l)∧∀ x ∈ l,dOk x=true)∧
  (seqO (gridG (fun i j=>dotI a b i j a.cols.toNat) b.cols.toNat) n=none→(timesL false a b n).1=true)
 | 0=>⟨fun l h=>(by injection h with h;subst h;exact ⟨rfl,fun x hx=>by cases hx⟩),fun h=>by cases h⟩
 | n+1=>by
  have ih:=X77 ha hb n
  have hd:=X8z ha hb (n/b.cols.toNat) (n % b.cols.toNat) a.cols.toNat
  unfold seqO timesL
  cases h1:seqO (gridG (fun i j=>dotI a b i j a.cols.toNat) b.cols.toNat) n with
  | none=>
   rw [ih.2 h1,Xdu]
   exact ⟨fun l h=>(by cases h),fun _=>rfl⟩
  | some l=>
   obtain ⟨h2,h3⟩:=ih.1 l h1
   rw [h2]
   dsimp only
   rw [show gridG (fun i j=>dotI a b i j a.cols.toNat) b.cols.toNat n=dotI a b (n/b.cols.toNat) (n % b.cols.toNat) a.cols.toNat from rfl]
   cases h4:dotI a b (n/b.cols.toNat) (n % b.cols.toNat) a.cols.toNat with
   | none=>exact ⟨fun l h=>(by cases h),fun _=>hd.2 h4⟩
   | some x=>
    obtain ⟨h5,h6⟩:=hd.1 x h4
    rw [h5]
    refine ⟨fun l' h=>?_,fun h=>by cases h⟩
    injection h with h
    subst h
    exact ⟨rfl,fun y hy=>by
     rcases List.mem_append.1 hy with hy|hy
     ·exact h3 y hy
     ·rw [List.mem_singleton.1 hy];exact h6⟩
end Go.Proofs.YtlfjcmldfbfdbaaGreat
namespace Go.Proofs.YtlfjcmldfbfdbaaGreat
open Go.RowKit
theorem X2w{m:Mx}(h:mOk m=true) : AllOk m:=by
 simp only [mOk,Bool.and_eq_true,Bool.not_eq_true',List.any_eq_false] at h
 intro x hx
 have:=h.2 x hx
 simpa using this
theorem X7e{m:Mx}(h:mOk m=true) : isDimB m.rows=true∧isDimB m.cols=true:=by
 simp only [mOk,Bool.and_eq_true] at h
 exact ⟨h.1.1.1,h.1.1.2⟩
theorem Xci{m:Mx}(hr:isDimB m.rows=true)(hc:isDimB m.cols=true)(hl:m.cells.length=m.rows.toNat*m.cols.toNat)(ha:AllOk m) : mOk m=true:=by
 have h1:=X2n hr
 have h2:=X2n hc
 have h3:(m.cells.any fun x=>!dOk x)=false:=by
  rw [List.any_eq_false]
  intro x hx
  simp [ha x hx]
 have h4:wr (m.rows*m.cols)=(m.cells.length:Int):=by
  obtain ⟨r,hr⟩ : ∃ r:Nat,m.rows=r:=⟨m.rows.toNat,by omega⟩
  obtain ⟨c,hc⟩ : ∃ c:Nat,m.cols=c:=⟨m.cols.toNat,by omega⟩
  rw [hr] at h1
  rw [hc] at h2
  rw [hl,hr,hc]
  have h5:r*c≤32*32:=Nat.mul_le_mul (by omega) (by omega)
  rw [← Int.natCast_mul,X11 (by omega) (by omega)]
  simp
 unfold mOk
 rw [hr,hc,h3,h4]
 simp
theorem X31{n:Int}(h:1≤n∧n≤5) : isDimB ((2^n.toNat:Nat) : Int)=true:=by
 have:n=1∨n=2∨n=3∨n=4∨n=5:=by omega
 rcases this with rfl|rfl|rfl|rfl|rfl<;>decide
theorem X6j{a b:Mx}(ha:mOk a=true)(hb:mOk b=true)(hab:a.cols=b.rows) : (∀ m,mulI a b=some m→timesS false a b=(false,m)∧mOk m=true∧m.rows=a.rows∧m.cols=b.cols)∧(mulI a b=none→(timesS false a b).1=true):=by
 have hd1:=(X7e ha).1
 have hd2:=(X7e hb).2
 have h:=X77 (X2w ha) (X2w hb) (a.rows.toNat*b.cols.toNat)
 unfold mulI matOf timesS
 rw [ha,hb,hd1,hd2,if_pos (by simp [hab]),if_pos (show (true&&true)=true from rfl)]
 cases h1:seqO (gridG (fun i j=>dotI a b i j a.cols.toNat) b.cols.toNat) (a.rows.toNat*b.cols.toNat) with
 | none=>exact ⟨fun m h=>(by cases h),fun _=>h.2 h1⟩
 | some l=>
  obtain ⟨h2,h3⟩:=h.1 l h1
  rw [h2]
  refine ⟨fun m hm=>?_,fun hm=>by cases hm⟩
  injection hm with hm
  subst hm
  exact ⟨rfl,Xci hd1 hd2 (X4g h1) h3,rfl,rfl⟩
theorem X9i{f:Nat→Dy} : ∀ n,seqO (fun m=>some (f m)) n=some ((List.range n).map f)
 | 0=>rfl
 | n+1=>by simp [seqO,X9i n,List.range_succ]
theorem X5c{R C:Int}(hR:isDimB R=true)(hC:isDimB C=true)(f:Nat→Nat→Dy) : matOf R C (fun i j=>some (f i j))=some ⟨R,C,gridL f C.toNat (R.toNat*C.toNat)⟩:=by
 unfold matOf
 rw [hR,hC,if_pos (show (true&&true)=true from rfl)]
 have:gridG (fun i j=>some (f i j)) C.toNat=fun m=>some (gridF f C.toNat m):=rfl
 rw [this,X9i]
 rfl
theorem Xau{f g:Nat→Nat→Dy}{R C:Nat}(h:∀ i j,i<R→j<C→f i j=g i j) : gridL f C (R*C)=gridL g C (R*C):=by
 unfold gridL
 refine List.map_congr_left fun m hm=>?_
 have hm':=List.mem_range.1 hm
 have hC:0<C:=by
  rcases Nat.eq_zero_or_pos C with h0|h0
  ·subst h0;simp at hm'
  ·exact h0
 exact h _ _ (Nat.div_lt_of_lt_mul (by rw [Nat.mul_comm];exact hm')) (Nat.mod_lt _ hC)
theorem X8i{f:Nat→Nat→Dy}{R C:Nat}{x:Dy}(h:x ∈ gridL f C (R*C)) : ∃ i j,i<R∧j<C∧x=f i j:=by
 unfold gridL at h
 obtain ⟨m,hm,rfl⟩:=List.mem_map.1 h
 have hm':=List.mem_range.1 hm
 have hC:0<C:=by
  rcases Nat.eq_zero_or_pos C with h0|h0
  ·subst h0;simp at hm'
  ·exact h0
 exact ⟨_,_,Nat.div_lt_of_lt_mul (by rw [Nat.mul_comm];exact hm'),Nat.mod_lt _ hC,rfl⟩
def unitS(d:Nat) : Mx:=⟨(d:Int),(d:Int),gridL (fun i j=>if i=j then dPow 0 else dZ) d (d*d)⟩
theorem X4a{d:Nat}(h:isDimB (d:Int)=true) : idI (d:Int)=some (unitS d)∧mOk (unitS d)=true:=by
 refine ⟨?_,?_⟩
 ·unfold idI
  rw [X5c h h (fun i j=>if i=j then ⟨⟨1,0,0,0⟩,0⟩ else dZ)]
  rfl
 ·refine Xci h h (by simp [unitS,X4z]) fun x hx=>?_
  obtain ⟨i,j,_,_,rfl⟩:=X8i hx
  split
  ·rfl
  ·rfl
def bitT(p s:Nat) : Int:=bits .and .i64 ((s:Int)/2^p) 1
def flipT(p s:Nat) : Int:=bits .xor .i64 (s:Int) (wr (1*2^p))
def chkBits:Bool:=(List.range 5).all fun p=>(List.range 32).all fun s=>
 let f:=flipT p s
 Nat.blt f.toNat 32&&f==(f.toNat:Int)&&flipT p f.toNat==(s:Int)&&(bitT p f.toNat==1-bitT p s)&&(bitT p s==0||bitT p s==1) &&
 (List.range 5).all (fun q=>(q==p)||bitT q f.toNat==bitT q s) &&
 (List.range 5).all (fun q=>let g:=flipT q s;flipT p g.toNat==flipT q f.toNat) &&
 (List.range 32).all fun t=>(((t:Int)==s||f==(t:Int))==(bits .andNot .i64 (bits .xor .i64 (s:Int) (t:Int)) (wr (1*2^p))==0))
theorem X9y:chkBits=true:=by kernel_rfl
def chkSmall:Bool:=(List.range 6).all fun n=>(List.range n).all fun q=>(List.range (2^n)).all fun s=>Nat.blt (flipT (n-1-q) s).toNat (2^n)
theorem X8g:chkSmall=true:=by kernel_rfl
structure BitsOk (p s:Nat) : Prop where
 nat:flipT p s=((flipT p s).toNat:Int)
 lt:(flipT p s).toNat<32
 back:flipT p (flipT p s).toNat=(s:Int)
 bit:bitT p (flipT p s).toNat=1-bitT p s
 other:∀ q<5,q≠p→bitT q (flipT p s).toNat=bitT q s
 comm:∀ q<5,flipT p (flipT q s).toNat=flipT q (flipT p s).toNat
 sel:∀ t:Nat,t<32→(((t:Int)=s∨flipT p s=(t:Int))↔bits .andNot .i64 (bits .xor .i64 (s:Int) (t:Int)) (wr (1*2^p))=0)
theorem X3w{p s:Nat}(hp:p<5)(hs:s<32) : BitsOk p s:=by
 have h:=X9y
 simp only [chkBits,List.all_eq_true,List.mem_range] at h
 have h:=h p hp s hs
 simp only [Bool.and_eq_true,List.all_eq_true,List.mem_range,beq_iff_eq,Bool.or_eq_true,Nat.blt_eq] at h
 obtain ⟨⟨⟨⟨⟨⟨⟨h1,h2⟩,h3⟩,h4⟩,_⟩,h6⟩,h7⟩,h8⟩:=h
 refine ⟨h2,h1,h3,h4,fun q hq hne=>(h6 q hq).resolve_left hne,h7,fun t ht=>?_⟩
 have h9:=h8 t ht
 rw [Bool.eq_iff_iff] at h9
 simpa using h9
theorem X3z{n q s:Nat}(hn:n≤5)(hq:q<n)(hs:s<2^n) : (flipT (n-1-q) s).toNat<2^n:=by
 have h:=X8g
 simp only [chkSmall,List.all_eq_true,List.mem_range] at h
 have h:=h n (by omega) q hq s hs
 simpa [Nat.blt_eq] using h
theorem Xbv{n q:Int}(s:Nat) : bitF n (s:Int) q=bitT (n-1-q).toNat s:=rfl
theorem X53{n q:Int}(s:Nat) : flipF n (s:Int) q=flipT (n-1-q).toNat s:=rfl
theorem X9c{n q:Int}(hq:0≤q)(hqn:q<n) : (n-1-q).toNat=n.toNat-1-q.toNat:=by omega
theorem Xa8{n:Int}{g:Gt}(hg:gOk n g=true){s:Nat}(hs:s<2^n.toNat)(hk:9≤g.k∧g.k≤11) : ∃ t:Nat,t<2^n.toNat∧toS n g s=(t:Int)∧toS n g t=(s:Int)∧(g.k=10→t=s):=by
 obtain ⟨hn,hk0,ha,hb⟩:=X1p hg
 have ha:=ha (by omega)
 have hb:=hb hk
 have h32:2^n.toNat≤32:=X4i hn.2
 obtain ⟨p,hp⟩ : ∃ p,p=(n-1-g.a).toNat:=⟨_,rfl⟩
 obtain ⟨q,hq⟩ : ∃ q,q=(n-1-g.b).toNat:=⟨_,rfl⟩
 have hp5:p<5:=by omega
 have hq5:q<5:=by omega
 have hpq:p≠q:=by omega
 have hsm:∀ s,s<2^n.toNat→(flipT p s).toNat<2^n.toNat:=fun s hs=>by
  rw [hp,X9c (by omega) (by omega)]
  exact X3z (by omega) (by omega) hs
 have hsm2:∀ s,s<2^n.toNat→(flipT q s).toNat<2^n.toNat:=fun s hs=>by
  rw [hq,X9c (by omega) (by omega)]
  exact X3z (by omega) (by omega) hs
 unfold toS
 simp only [Xbv,X53,← hp,← hq]
 have Bp:=X3w (p:=p) (s:=s) hp5 (by omega)
 have Bq:=X3w (p:=q) (s:=s) hq5 (by omega)
 by_cases h9:g.k=9
 ·simp only [h9,if_true]
  by_cases hb1:bitT p s=1
  ·refine ⟨(flipT q s).toNat,hsm2 s hs,by rw [if_pos hb1];exact Bq.nat,?_,by omega⟩
   rw [if_pos (by rw [Bq.other p hp5 hpq];exact hb1)]
   exact Bq.back
  ·exact ⟨s,hs,by rw [if_neg hb1],by rw [if_neg hb1],by omega⟩
 ·simp only [h9,if_false]
  by_cases h11:g.k=11
  ·simp only [h11,if_true]
   by_cases hb1:bitT p s=bitT q s
   ·exact ⟨s,hs,by rw [if_neg (by simpa using hb1)],by rw [if_neg (by simpa using hb1)],by omega⟩
   ·have Bf:=X3w (p:=q) (s:=(flipT p s).toNat) hq5 Bp.lt
    have Bg:=X3w (p:=p) (s:=(flipT q (flipT p s).toNat).toNat) hp5 Bf.lt
    have e1:flipF n (flipT p s) g.b=flipT q (flipT p s).toNat:=by rw [Bp.nat,X53,← hq,Int.toNat_natCast]
    refine ⟨(flipT q (flipT p s).toNat).toNat,hsm2 _ (hsm _ hs),?_,?_,by omega⟩
    ·rw [if_pos hb1,e1];exact Bf.nat
    ·have e2:bitT p (flipT q (flipT p s).toNat).toNat=1-bitT p s:=by rw [Bf.other p hp5 hpq,Bp.bit]
     have e3:bitT q (flipT q (flipT p s).toNat).toNat=1-bitT q s:=by rw [Bf.bit,Bp.other q hq5 (Ne.symm hpq)]
     have e4:flipT p (flipT q (flipT p s).toNat).toNat=flipT q (flipT p (flipT p s).toNat).toNat:=(X3w (p:=p) (s:=(flipT p s).toNat) hp5 Bp.lt).comm q hq5
     rw [if_pos (by rw [e2,e3];omega),e4,Bp.back,Int.toNat_natCast,Bq.nat,X53,← hq,Bq.back]
  ·exact ⟨s,hs,by rw [if_neg h11],by rw [if_neg h11],fun _=>rfl⟩
theorem Xib{k:Int}(h:1≤k∧k≤8){i j:Int}(hi:i=0∨i=1)(hj:j=0∨j=1) : (oneL k).getD (2*i+j).toNat dZ=entryI k i j:=by
 have:k=1∨k=2∨k=3∨k=4∨k=5∨k=6∨k=7∨k=8:=by omega
 rcases this with rfl|rfl|rfl|rfl|rfl|rfl|rfl|rfl<;>rcases hi with rfl|rfl<;>rcases hj with rfl|rfl<;>rfl
theorem Xif{n:Int}{g:Gt}(hg:gOk n g=true){i j:Nat}(hi:i<2^n.toNat)(hj:j<2^n.toNat) : cellI n g i j=cellS n g i j:=by
 obtain ⟨hn,hk0,ha,hb⟩:=X1p hg
 have h32:2^n.toNat≤32:=X4i hn.2
 unfold cellI cellS
 by_cases h12:g.k=12
 ·rw [if_pos h12,if_neg (show ¬ g.k≤8 by omega)]
  have e1:toS n g j=j:=by unfold toS;rw [if_neg (show ¬ g.k=9 by omega),if_neg (show ¬ g.k=11 by omega)]
  rw [e1]
  by_cases hij:(i:Int)=j
  ·rw [if_pos hij,if_pos hij,valS,if_pos h12]
  ·rw [if_neg hij,if_neg hij]
 ·rw [if_neg h12]
  by_cases h2:9≤g.k∧g.k≤11
  ·rw [if_pos (X02.2 h2),if_neg (show ¬ g.k≤8 by omega)]
   obtain ⟨t,ht,e1,e2,e3⟩:=Xa8 hg hi h2
   obtain ⟨t',ht',e1',e2',e3'⟩:=Xa8 hg hj h2
   by_cases hij:toS n g i=j
   ·have hts:(i:Int)=toS n g j:=by rw [← e2,← e1,hij]
    rw [if_pos hij,if_pos hts,valS,if_neg h12]
    by_cases h10:g.k=10
    ·have hij2:i=j:=by rw [e1] at hij;have:=e3 h10;omega
     subst hij2
     by_cases hc:bitF n i g.a=1∧bitF n i g.b=1
     ·rw [if_pos (by simp [czI,h10,hc]),if_pos ⟨h10,hc⟩];rfl
     ·have hc':¬ czI n g i=true:=by simp only [czI,h10,Bool.and_eq_true,beq_iff_eq,true_and,and_assoc];exact hc
      rw [if_neg hc',if_neg (fun h=>hc h.2)];rfl
    ·have hc':¬ czI n g i=true:=by simp [czI,h10]
     rw [if_neg hc',if_neg (fun h=>h10 h.1)];rfl
   ·have hts:¬ (i:Int)=toS n g j:=fun h=>by
     rw [e1'] at h
     have h:i=t':=by omega
     subst h
     exact hij e2'
    rw [if_neg hij,if_neg hts]
  ·have h8:g.k≤8:=by omega
   have ha:=ha h12
   rw [if_neg (fun h=>h2 (X02.1 h)),if_pos h8]
   have B:=X3w (p:=(n-1-g.a).toNat) (s:=i) (by omega) (by omega)
   have hs:=B.sel j (by omega)
   rw [X53]
   have e0:((i:Int)=j∨flipT (n-1-g.a).toNat i=(j:Int))↔((j:Int)=i∨flipT (n-1-g.a).toNat i=(j:Int)):=by
    constructor<;>rintro (h|h)<;>first|exact .inl h.symm|exact .inr h
   by_cases hz:bits .andNot .i64 (bits .xor .i64 (i:Int) (j:Int)) (wr (1*2^(n-1-g.a).toNat))=0
   ·rw [if_pos (e0.2 (hs.2 hz)),if_neg (fun h=>h hz)]
    exact (Xib ⟨hk0.1,h8⟩ (X2r _ _ _) (X2r _ _ _)).symm
   ·rw [if_neg (fun h=>hz (hs.1 (e0.1 h))),if_pos hz]
theorem Xgg{k:Int}(h:1≤k∧k≤8){i j:Int}(hi:i=0∨i=1)(hj:j=0∨j=1) : dOk (entryI k i j)=true:=by
 have:k=1∨k=2∨k=3∨k=4∨k=5∨k=6∨k=7∨k=8:=by omega
 rcases this with rfl|rfl|rfl|rfl|rfl|rfl|rfl|rfl<;>rcases hi with rfl|rfl<;>rcases hj with rfl|rfl<;>rfl
theorem Xhh{n:Int}{g:Gt}(hg:gOk n g=true)(i j:Int) : dOk (cellI n g i j)=true:=by
 obtain ⟨hn,hk0,ha,hb⟩:=X1p hg
 unfold cellI
 split
 ·split<;>rfl
 ·split
  ·split
   ·split<;>rfl
   ·rfl
  ·rename_i h1 h2
   split
   ·exact Xgg (by have h3:¬ (9≤g.k∧g.k≤11):=fun h=>h2 (X02.2 h);omega) (X2r _ _ _) (X2r _ _ _)
   ·rfl
theorem X69{n:Int}{g:Gt}(hg:gOk n g=true) : gateI n g=some (gateS n g)∧mOk (gateS n g)=true:=by
 have hn:=(X1p hg).1
 have hd:=X31 hn
 have he:gridL (fun i j=>cellI n g i j) (2^n.toNat) (2^n.toNat*2^n.toNat)=gridL (fun i j=>cellS n g i j) (2^n.toNat) (2^n.toNat*2^n.toNat):=Xau fun i j hi hj=>Xif hg hi hj
 refine ⟨?_,?_⟩
 ·unfold gateI
  rw [if_pos hg,X5c hd hd (fun i j=>cellI n g i j)]
  simp only [Int.toNat_natCast]
  rw [he]
  rfl
 ·refine Xci hd hd (by simp only [gateS,X4z,Int.toNat_natCast]) fun x hx=>?_
  simp only [gateS] at hx
  rw [← he] at hx
  obtain ⟨i,j,_,_,rfl⟩:=X8i hx
  exact Xhh hg _ _
def applI(n:Int) : List Gt→Mx→Option Mx
 | [],m=>some m
 | g::l,m=>(mulI ((gateI n g).getD mZ) m).bind (applI n l)
def runS(n:Int)(f:Bool) : List Gt→Mx→Bool×Mx
 | [],m=>(f,m)
 | g::l,m=>if f=true then (f,m) else runS n (timesS false (gateS n g) m).1 l (timesS false (gateS n g) m).2
theorem X6e(n:Int) : ∀ (l:List Gt) (m:Mx),runS n true l m=(true,m)
 | [],_=>rfl
 | _::_,_=>rfl
theorem X8n{n:Int} : ∀ (l:List Gt) (m:Mx),(∀ g ∈ l,gOk n g=true)→mOk m=true→m.rows=((2^n.toNat:Nat) : Int)→
  (∀ m',applI n l m=some m'→runS n false l m=(false,m')∧mOk m'=true∧m'.rows=((2^n.toNat:Nat) : Int))∧(applI n l m=none→(runS n false l m).1=true)
 | [],m,_,hm,hr=>⟨fun m' h=>(by injection h with h;subst h;exact ⟨rfl,hm,hr⟩),fun h=>by cases h⟩
 | g::l,m,hg,hm,hr=>by
  obtain ⟨h1,h2⟩:=X69 (hg g (by simp))
  have h3:=X6j h2 hm (by rw [hr];rfl)
  unfold applI runS
  rw [h1,Option.getD_some,if_neg (by decide)]
  cases h4:mulI (gateS n g) m with
  | none=>
   rw [h3.2 h4,X6e]
   exact ⟨fun m' h=>(by cases h),fun _=>rfl⟩
  | some m1=>
   obtain ⟨h5,h6,h7,h8⟩:=h3.1 m1 h4
   rw [h5]
   exact X8n l m1 (fun g hg'=>hg g (by simp [hg'])) h6 (by rw [h7];rfl)
def opI(c:Cx) : Option Mx:=if cOk c=true then (idI ((2^c.n.toNat:Nat) : Int)).bind (applI c.n c.gs) else none
def opS(c:Cx) : Option Mx:=if cOk c=true then (if (runS c.n false c.gs (unitS (2^c.n.toNat))).1=true then none else some (runS c.n false c.gs (unitS (2^c.n.toNat))).2) else none
theorem X20{c:Cx}(h:cOk c=true) : (1≤c.n∧c.n≤5)∧c.gs.length≤400∧∀ g ∈ c.gs,gOk c.n g=true:=by
 simp only [cOk,Bool.and_eq_true,X02,decide_eq_true_eq,Bool.not_eq_true',List.any_eq_false] at h
 exact ⟨h.1.1,by omega,fun g hg=>by simpa using h.2 g hg⟩
theorem X47(c:Cx) : opI c=opS c∧∀ m,opS c=some m→mOk m=true∧m.rows=((2^c.n.toNat:Nat) : Int):=by
 unfold opI opS
 by_cases hc:cOk c=true
 ·obtain ⟨hn,_,hg⟩:=X20 hc
  obtain ⟨h1,h2⟩:=X4a (X31 hn)
  have h3:=X8n c.gs _ hg h2 rfl
  rw [if_pos hc,if_pos hc,h1,Option.bind_some]
  cases h4:applI c.n c.gs (unitS (2^c.n.toNat)) with
  | none=>rw [h3.2 h4,if_pos rfl];exact ⟨rfl,fun m h=>by cases h⟩
  | some m'=>
   obtain ⟨h5,h6,h7⟩:=h3.1 m' h4
   rw [h5,if_neg (show ¬ (false=true) by decide)]
   exact ⟨rfl,fun m h=>(by injection h with h;subst h;exact ⟨h6,h7⟩)⟩
 ·rw [if_neg hc,if_neg hc]
  exact ⟨rfl,fun m h=>by cases h⟩
end Go.Proofs.YtlfjcmldfbfdbaaGreat
namespace Go.Proofs.YtlfjcmldfbfdbaaGreat
open Go.RowKit
theorem Xc0{x:Rg}(h:rOk x=true) : rOk (rOm x)=true∧rOm x=⟨-x.d,x.a,x.b,x.c⟩:=by
 rw [X2j] at h
 have e:rOm x=⟨-x.d,x.a,x.b,x.c⟩:=by unfold rOm;rw [X11 (by omega) (by omega)]
 refine ⟨?_,e⟩
 rw [e,X2j]
 dsimp only
 omega
theorem X52{x:Rg}(h:rOk x=true) : rEven x=true↔(x.a+x.c) % 2=0∧(x.b+x.d) % 2=0:=by
 rw [X2j] at h
 unfold rEven
 rw [X11 (by omega) (by omega),X11 (by omega) (by omega)]
 simp only [Bool.and_eq_true,beq_iff_eq]
 have key:∀ i:Int,i.tmod 2=0↔i % 2=0:=fun i=>by
  rw [← Int.dvd_iff_tmod_eq_zero,← Int.dvd_iff_emod_eq_zero]
 rw [key,key]
theorem Xfb{x:Rg}(h:rOk x=true) : rEven (rOm x)=rEven x:=by
 obtain ⟨h1,h2⟩:=Xc0 h
 rw [Bool.eq_iff_iff,X52 h1,X52 h,h2]
 dsimp only
 omega
theorem X8u:∀ (k:Nat) (x:Rg),rOk x=true→rOk (rTurnN k x)=true∧rEven (rTurnN k x)=rEven x
 | 0,_,h=>⟨h,rfl⟩
 | k+1,x,h=>by
  obtain ⟨h1,h2⟩:=X8u k (rOm x) (Xc0 h).1
  exact ⟨h1,h2.trans (Xfb h)⟩
theorem X7s{x:Rg}(h:rOk x=true)(k:Int) : rOk (rTurn x k)=true∧rEven (rTurn x k)=rEven x:=X8u _ _ h
theorem wr0:wr 0=0:=rfl
theorem Xfx{x:Rg}(h:rOk x=true){k:Nat}(hk:k<8) : rMul x (rTurn ⟨1,0,0,0⟩ k)=rTurn x k:=by
 have h':=X2j.1 h
 obtain ⟨a,b,c,d⟩:=x
 dsimp only at h'
 have wa:wr a=a:=X11 (by omega) (by omega)
 have wb:wr b=b:=X11 (by omega) (by omega)
 have wc:wr c=c:=X11 (by omega) (by omega)
 have wd:wr d=d:=X11 (by omega) (by omega)
 have na:wr (-a) = -a:=X11 (by omega) (by omega)
 have nb:wr (-b) = -b:=X11 (by omega) (by omega)
 have nc:wr (-c) = -c:=X11 (by omega) (by omega)
 have nd:wr (-d) = -d:=X11 (by omega) (by omega)
 have:k=0∨k=1∨k=2∨k=3∨k=4∨k=5∨k=6∨k=7:=by omega
 have s0:rTurn ⟨1,0,0,0⟩ ((0:Nat) : Int)=⟨1,0,0,0⟩:=by decide
 have s1:rTurn ⟨1,0,0,0⟩ ((1:Nat) : Int)=⟨0,1,0,0⟩:=by decide
 have s2:rTurn ⟨1,0,0,0⟩ ((2:Nat) : Int)=⟨0,0,1,0⟩:=by decide
 have s3:rTurn ⟨1,0,0,0⟩ ((3:Nat) : Int)=⟨0,0,0,1⟩:=by decide
 have s4:rTurn ⟨1,0,0,0⟩ ((4:Nat) : Int)=⟨-1,0,0,0⟩:=by decide
 have s5:rTurn ⟨1,0,0,0⟩ ((5:Nat) : Int)=⟨0,-1,0,0⟩:=by decide
 have s6:rTurn ⟨1,0,0,0⟩ ((6:Nat) : Int)=⟨0,0,-1,0⟩:=by decide
 have s7:rTurn ⟨1,0,0,0⟩ ((7:Nat) : Int)=⟨0,0,0,-1⟩:=by decide
 have T:∀ j:Nat,j<8→rTurn ⟨a,b,c,d⟩ (j:Int)=rTurnN j ⟨a,b,c,d⟩:=fun j hj=>by
  have:(turns (j:Int)).toNat=j:=by
   have:j=0∨j=1∨j=2∨j=3∨j=4∨j=5∨j=6∨j=7:=by omega
   rcases this with rfl|rfl|rfl|rfl|rfl|rfl|rfl|rfl<;>decide
  rw [rTurn,this]
 rcases this with rfl|rfl|rfl|rfl|rfl|rfl|rfl|rfl
 ·rw [T 0 (by omega),s0];simp [rMul,rTurnN,rOm,wr0,wa,wb,wc,wd,na,nb,nc,nd]
 ·rw [T 1 (by omega),s1];simp [rMul,rTurnN,rOm,wr0,wa,wb,wc,wd,na,nb,nc,nd]
 ·rw [T 2 (by omega),s2];simp [rMul,rTurnN,rOm,wr0,wa,wb,wc,wd,na,nb,nc,nd]
 ·rw [T 3 (by omega),s3];simp [rMul,rTurnN,rOm,wr0,wa,wb,wc,wd,na,nb,nc,nd]
 ·rw [T 4 (by omega),s4];simp [rMul,rTurnN,rOm,wr0,wa,wb,wc,wd,na,nb,nc,nd]
 ·rw [T 5 (by omega),s5];simp [rMul,rTurnN,rOm,wr0,wa,wb,wc,wd,na,nb,nc,nd]
 ·rw [T 6 (by omega),s6];simp [rMul,rTurnN,rOm,wr0,wa,wb,wc,wd,na,nb,nc,nd]
 ·rw [T 7 (by omega),s7];simp [rMul,rTurnN,rOm,wr0,wa,wb,wc,wd,na,nb,nc,nd]
theorem X97{z:Dy}(h:dOk z=true){k:Nat}(hk:k<8) : dMulI z (dPow k)=some (dTurn k z):=by
 have hz:=X29.1 h
 have h1:rOk (rTurn ⟨1,0,0,0⟩ k)=true:=(X7s (by decide) _).1
 have hp:dOk (dPow k)=true:=X29.2 ⟨h1,by simp [dPow],.inl rfl⟩
 obtain ⟨h2,h3⟩:=X7s hz.1 (k:Int)
 unfold dMulI
 rw [h,hp,show (dPow k).num=rTurn ⟨1,0,0,0⟩ k from rfl,rIf1,X4k hz.1 h1,Xfx hz.1 hk,h2]
 simp only [Bool.and_self,if_true]
 unfold dOf
 rw [h2,show z.exp+(dPow k).exp=z.exp from by simp [dPow],X02.2 hz.2.1]
 simp only [Bool.and_self,if_true]
 rw [X28 fun h0=>by rw [h3];rcases hz.2.2 with h4|h4;exact absurd h4 (by omega);exact h4]
 rfl
theorem X7j{q:Mx}(h:mOk q=true){k:Nat}(hk:k<8) : scaleI q (dPow k)=some ⟨q.rows,q.cols,q.cells.map (dTurn k)⟩:=by
 have h1:rOk (rTurn ⟨1,0,0,0⟩ k)=true:=(X7s (by decide) _).1
 have hp:dOk (dPow k)=true:=X29.2 ⟨h1,by simp [dPow],.inl rfl⟩
 have hd:=X7e h
 have hl:=X2y h
 have ha:=X2w h
 have hf:(fun i j=>dMulI (q.at i j) (dPow k))=fun i j=>some (dTurn k (q.at i j)):=by
  funext i j
  exact X97 (Mx.at_ok ha i j) hk
 unfold scaleI
 rw [h,hp,if_pos (show (true&&true)=true from rfl),hf,X5c hd.1 hd.2 (fun i j=>dTurn k (q.at i j))]
 congr 2
 unfold gridL
 apply List.ext_getElem
 ·simp [hl.2.2]
 ·intro m h1 h2
  simp only [List.length_map,List.length_range] at h1
  simp only [List.getElem_map,List.getElem_range]
  unfold gridF Mx.at
  dsimp only
  have:m/q.cols.toNat*q.cols.toNat+m % q.cols.toNat=m:=by rw [Nat.mul_comm];exact Nat.div_add_mod m _
  rw [this,List.getD_eq_getElem?_getD,List.getElem?_eq_getElem (by rw [hl.2.2];exact h1)]
  rfl
theorem Xf5{p q:Mx}(h:mOk q=true) : eqPh p q=phaseS p q:=by
 unfold eqPh phaseS
 rw [Bool.eq_iff_iff,List.any_eq_true,List.any_eq_true]
 constructor
 ·rintro ⟨k,hk,h1⟩
  refine ⟨k,hk,?_⟩
  rw [eqPhT,X7j h (List.mem_range.1 hk)] at h1
  exact h1
 ·rintro ⟨k,hk,h1⟩
  refine ⟨k,hk,?_⟩
  rw [eqPhT,X7j h (List.mem_range.1 hk)]
  exact h1
def sameI(a b:Cx) : Bool×Bool:=
 if ((opI a).isSome&&(opI b).isSome&&a.n==b.n)=true then
  (mOk ((opI a).getD mZ)&&mOk ((opI b).getD mZ)&&eqPh ((opI a).getD mZ) ((opI b).getD mZ),mOk ((opI a).getD mZ)&&mOk ((opI b).getD mZ)) else (false,false)
def sameS(a b:Cx) : Bool×Bool:=
 if ((opS a).isSome&&(opS b).isSome&&a.n==b.n)=true then (phaseS ((opS a).getD mZ) ((opS b).getD mZ),true) else (false,false)
theorem Xhn(a b:Cx) : sameI a b=sameS a b:=by
 unfold sameI sameS
 rw [(X47 a).1,(X47 b).1]
 cases h1:opS a with
 | none=>rfl
 | some x=>
  cases h2:opS b with
  | none=>rfl
  | some y=>
   have hx:=((X47 a).2 x h1).1
   have hy:=((X47 b).2 y h2).1
   simp only [Option.getD_some,hx,hy,Xf5 hy,Bool.and_self,Bool.true_and]
theorem Xf6{c:Cx}{m:Mx}(h:opS c=some m) : m.cells.length=2^c.n.toNat*m.cols.toNat:=by
 obtain ⟨h1,h2⟩:=(X47 c).2 m h
 have:=(X2y h1).2.2
 rw [this,h2,Int.toNat_natCast]
end Go.Proofs.YtlfjcmldfbfdbaaGreat
namespace Go.Proofs.YtlfjcmldfbfdbaaGreat
open Go.RowKit
theorem Xg2{n:Int}(hn:1≤n∧n≤5){g:Gt} : (gateS n g).cells.length≤2305843009213693951:=by
 have h:=X4i hn.2
 have h2:2^n.toNat*2^n.toNat≤32*32:=Nat.mul_le_mul h h
 simp only [gateS,X4z]
 omega
theorem Xf8{m:Mx}(h:mOk m=true) : m.cells.length≤2305843009213693951:=by
 have h1:=X2y h
 have h2:m.rows.toNat*m.cols.toNat≤32*32:=Nat.mul_le_mul (by omega) (by omega)
 omega
theorem Xc5(a:Cx) : ((opI a).getD mZ).cells.length≤2305843009213693951:=by
 have h:=X47 a
 cases ha:opI a with
 | none=>exact Nat.zero_le _
 | some m=>rw [h.1] at ha;exact Xf8 (h.2 m ha).1
theorem Xlj(a:Cx) : ((opS a).getD mZ).cells.length≤2305843009213693951:=by rw [← (X47 a).1];exact Xc5 a
theorem X4d{α:Type}{l:List α}{i:Nat}{u:α}(h:l[i]? = some u) : l.drop i=u::l.drop (i+1):=by
 obtain ⟨h1,h2⟩:=List.getElem?_eq_some_iff.1 h
 rw [List.drop_eq_getElem_cons h1,h2]
end Go.Proofs.YtlfjcmldfbfdbaaGreat
namespace Go.Proofs.YtlfjcmldfbfdbaaGreat
open Go.RowKit
def unitP(d i:Nat) : List Dy:=(List.range (d*d)).map fun m=>if m/d=m % d∧m/d<i then dPow 0 else dZ
theorem X9f(d i:Nat) : (unitP d i).length=d*d:=by simp [unitP]
theorem Xbq(d:Nat) : List.replicate (d*d) dZ=unitP d 0:=by
 unfold unitP
 apply List.ext_getElem
 ·simp
 ·intro k h1 h2
  simp
theorem Xcc{d i:Nat}(h:i<d) : (unitP d i).set (i*d+i) (dPow 0)=unitP d (i+1):=by
 have e1:(i*d+i)/d=i:=by rw [Nat.mul_comm,Nat.mul_add_div (by omega),Nat.div_eq_of_lt h];omega
 have e2:(i*d+i) % d=i:=by rw [Nat.mul_comm,Nat.mul_add_mod,Nat.mod_eq_of_lt h]
 unfold unitP
 apply List.ext_getElem
 ·simp
 ·intro k h1 h2
  simp only [List.length_set,List.length_map,List.length_range] at h1
  rw [List.getElem_set]
  split
  ·rename_i hk
   subst hk
   simp [e1,e2]
  ·rename_i hk
   simp only [List.getElem_map,List.getElem_range]
   have:(k/d=k % d∧k/d<i)↔(k/d=k % d∧k/d<i+1):=by
    constructor
    ·rintro ⟨h3,h4⟩;exact ⟨h3,by omega⟩
    ·rintro ⟨h3,h4⟩
     refine ⟨h3,?_⟩
     rcases Nat.lt_or_ge (k/d) i with h5|h5
     ·exact h5
     ·have h6:k/d=i:=by omega
      have h7:=Nat.div_add_mod k d
      rw [← h3,h6] at h7
      exact absurd (show i*d+i=k by rw [Nat.mul_comm i d];exact h7) hk
   by_cases hc:k/d=k % d∧k/d<i
   ·rw [if_pos hc,if_pos (this.1 hc)]
   ·rw [if_neg hc,if_neg (fun h=>hc (this.2 h))]
theorem Xbr{d:Nat} : (unitS d).cells=unitP d d:=by
 unfold unitP unitS gridL
 refine List.map_congr_left fun m hm=>?_
 have hm':=List.mem_range.1 hm
 have h1:m/d<d:=Nat.div_lt_of_lt_mul hm'
 unfold gridF
 dsimp only
 by_cases hc:m/d=m % d
 ·rw [if_pos hc,if_pos ⟨hc,h1⟩]
 ·rw [if_neg hc,if_neg (fun h=>hc h.1)]
theorem Xbh:∀ (m:Nat) (x:Rg),0≤(dLow x m).exp∧(dLow x m).exp≤m
 | 0,x=>by rw [X28 (by omega)];simp
 | m+1,x=>by
  by_cases he:rEven x=true
  ·rw [X3s (by omega) he,show ((m+1:Nat) : Int)-1=(m:Int) from by omega]
   have:=Xbh m (rHalf x)
   omega
  ·rw [X28 fun _=>by simpa using he]
   dsimp only
   omega
theorem X9j{x:Rg}{e:Int}(h0:0≤e) : 0≤(dLow x e).exp∧(dLow x e).exp≤e:=by
 obtain ⟨m,rfl⟩ : ∃ m:Nat,e=m:=⟨e.toNat,by omega⟩
 exact Xbh m x
theorem Xaj{f:Bool}{x y:Dy}(hx:0≤x.exp∧x.exp≤60)(hy:0≤y.exp∧y.exp≤60) : 0≤(sMul f x y).2.exp∧(sMul f x y).2.exp≤60:=by
 unfold sMul
 split
 ·exact ⟨Int.le_refl _,by decide⟩
 ·have:=X9j (x:=sRing (rMul x.num y.num)) (e:=x.exp+y.exp) (by omega)
  dsimp only
  omega
theorem Xfj{f:Bool}{x y:Dy}(hx:0≤x.exp∧x.exp≤60)(hy:0≤y.exp∧y.exp≤60) : 0≤(sAdd f x y).2.exp∧(sAdd f x y).2.exp≤60:=by
 unfold sAdd
 dsimp only
 rw [X5d]
 have:=fun z=>X9j (x:=z) (e:=x.exp+((y.exp-x.exp).toNat:Int)) (by omega)
 have h:=this (sRing (rAdd (sRaiseN (y.exp-x.exp).toNat f x).2.num (sRaiseN (x.exp+((y.exp-x.exp).toNat:Int)-y.exp).toNat (sRaiseN (y.exp-x.exp).toNat f x).1 y).2.num))
 omega
theorem X89{a b:Mx}(ha:AllOk a)(hb:AllOk b)(f:Bool)(i j:Nat) : ∀ n,0≤(dotS f a b i j n).2.exp∧(dotS f a b i j n).2.exp≤60
 | 0=>⟨Int.le_refl _,show (0:Int)≤60 by decide⟩
 | n+1=>by
  rw [dotS]
  split
  ·exact X89 ha hb f i j n
  ·exact Xfj (X89 ha hb f i j n) (Xaj (X2t (Mx.at_ok ha i n)) (X2t (Mx.at_ok hb n j)))
theorem Xh8{a b:Mx}{f f3:Bool}{i j k n:Nat}{s:Dy}(h:dotS f a b i j k=(f3,s))(hk:k≤n)(he:f3=true∨k=n) : dotS f a b i j n=(f3,s):=by
 rcases he with he|he
 ·subst he
  rw [X7t (n:=k) (by rw [h]) n hk,h]
 ·subst he;exact h
theorem Xgt{a b:Mx}{f f3:Bool}{i j k:Nat}{s:Dy}(h:dotS f a b i j k=(f3,s))(hf:f3=false) :
  dotS f a b i j (k+1)=((sAdd (sMul f3 (a.at i k) (b.at k j)).1 s (sMul f3 (a.at i k) (b.at k j)).2).1,(sAdd (sMul f3 (a.at i k) (b.at k j)).1 s (sMul f3 (a.at i k) (b.at k j)).2).2):=by
 subst hf
 rw [dotS,h,if_neg (show ¬ (false=true) by decide)]
theorem X2q{a b:Nat}(ha:a≤32)(hb:b≤32) : a*b≤1024:=Nat.le_trans (Nat.mul_le_mul ha hb) (by decide)
end Go.Proofs.YtlfjcmldfbfdbaaGreat
namespace Go.Proofs.YtlfjcmldfbfdbaaGreat
open Go.RowKit
theorem X8m(n:Int) : ∀ (l:List Gt) (f:Bool) (m:Mx),(runS n f l m).2.cols=m.cols
 | [],_,_=>rfl
 | g::l,f,m=>by
  rw [runS]
  split
  ·rfl
  ·rw [X8m n l];rfl
theorem Xbo{c:Cx}{m:Mx}(h:opS c=some m) : m.cols=((2^c.n.toNat:Nat) : Int):=by
 unfold opS at h
 split at h
 ·split at h
  ·cases h
  ·injection h with h
   subst h
   rw [X8m]
   rfl
 ·cases h
theorem Xhe{p q:Cx}(h1:(opS p).isSome=true)(h2:(opS q).isSome=true)(h3:p.n=q.n) : ((opS p).getD mZ).cells.length=((opS q).getD mZ).cells.length:=by
 cases hp:opS p with
 | none=>rw [hp] at h1;cases h1
 | some x=>
  cases hq:opS q with
  | none=>rw [hq] at h2;cases h2
  | some y=>
   simp only [Option.getD_some]
   rw [Xf6 hp,Xf6 hq,Xbo hp,Xbo hq,h3]
end Go.Proofs.YtlfjcmldfbfdbaaGreat
namespace Go.Proofs.YtlfjcmldfbfdbaaGreat
open Go.RowKit
theorem X8t{l:List Int}{k:Nat}(h:decide ((k:Int)<(l.length:Int))=true) : l[k]? = some (l.getD k 0):=X5r (by simpa using h)
def putI:List Int→Int→List Int
 | [],n=>[n]
 | x::l,n=>if x<n then x::putI l n else if x=n then x::l else n::x::l
theorem X4v:∀ (l:List Int) (n:Int),(putI l n).length≤l.length+1
 | [],n=>by simp [putI]
 | x::l,n=>by
  unfold putI
  split
  ·have:=X4v l n;simp only [List.length_cons];omega
  ·split<;>simp
theorem Xgf:∀ (l:List Int) (n:Int) (k:Nat),(l.take k).all (fun x=>decide (x<n))=true→k≤l.length→(k<l.length→¬ l.getD k 0<n)→
  (k<l.length∧l.getD k 0=n→putI l n=l)∧(¬ (k<l.length∧l.getD k 0=n)→putI l n=l.take k++[n]++l.drop k)
 | [],n,k,_,hk,_=>by
  have:k=0:=by simpa using hk
  subst this
  exact ⟨fun h=>by simp at h,fun _=>rfl⟩
 | x::l,n,0,_,_,h=>by
  have h:=h (by simp)
  simp only [List.getD_cons_zero] at h
  refine ⟨fun h1=>?_,fun h1=>?_⟩
  ·have h2:=h1.2
   simp only [List.getD_cons_zero] at h2
   rw [putI,if_neg h,if_pos h2]
  ·have h2:¬ x=n:=fun e=>h1 ⟨by simp,by simpa using e⟩
   rw [putI,if_neg h,if_neg h2]
   rfl
 | x::l,n,k+1,ha,hk,h=>by
  simp only [List.take_succ_cons,List.all_cons,Bool.and_eq_true,decide_eq_true_eq] at ha
  have ih:=Xgf l n k ha.2 (by simpa using hk) (fun h1=>by have:=h (by simpa using h1);simpa using this)
  simp only [List.length_cons,Nat.add_lt_add_iff_right,List.getD_cons_succ,List.take_succ_cons,List.drop_succ_cons,List.cons_append] at *
  rw [putI,if_pos ha.1]
  exact ⟨fun h1=>by rw [ih.1 h1],fun h1=>by rw [ih.2 h1]⟩
def usedStep(m:List Int)(g:Gt) : List Int:=if g.k=12 then m else if inR g.k 9 11=true then putI (putI m g.a) g.b else putI m g.a
def usedS(l:List Gt) : List Int:=l.foldl usedStep []
theorem Xcj{α β:Type}{f:β→α→β}{b:β}{l:List α}{k:Nat}{u:α}(h:l[k]? = some u) : (l.take (k+1)).foldl f b=f ((l.take k).foldl f b) u:=by
 rw [List.take_add_one,h]
 simp
theorem Xa3(m:List Int)(g:Gt) : (usedStep m g).length≤m.length+2:=by
 unfold usedStep
 split
 ·omega
 ·split
  ·have h1:=X4v m g.a;have h2:=X4v (putI m g.a) g.b;omega
  ·have h1:=X4v m g.a;omega
theorem X3u:∀ (l:List Gt) (m:List Int),(l.foldl usedStep m).length≤m.length+2*l.length
 | [],m=>by simp
 | g::l,m=>by
  have h1:=X3u l (usedStep m g)
  have h2:=Xa3 m g
  simp only [List.foldl_cons,List.length_cons]
  omega
theorem X56(l:List Gt) : (usedS l).length≤2*l.length:=by have:=X3u l [];simpa [usedS] using this
def lastN(l:List Int)(q:Int) : Nat→Int
 | 0=>0
 | k+1=>if l.getD k 0=q then (k:Int) else lastN l q k
theorem X2o{l:List Int}{q u:Int}{k:Nat}(h:l[k]? = some u) : lastN l q (k+1)=if u=q then (k:Int) else lastN l q k:=by
 have:l.getD k 0=u:=by rw [List.getD_eq_getElem?_getD,h];rfl
 rw [lastN,this]
section
variable {us : List Int} {j : Nat} {v q x k : Int}
theorem X5o(h:us[j]? = some v)(hc:(k != 12&&v==q)=true) : (j:Int)=if k=12 then 0 else lastN us q (j+1):=by
 simp only [Bool.and_eq_true,bne_iff_ne,beq_iff_eq] at hc
 rw [if_neg hc.1,X2o h,if_pos hc.2]
theorem X5v(h:us[j]? = some v)(hx:x=if k=12 then 0 else lastN us q j)(hc:(k != 12&&v==q)=false) : x=if k=12 then 0 else lastN us q (j+1):=by
 rw [hx,X2o h]
 by_cases h1:k=12
 ·rw [if_pos h1,if_pos h1]
 ·rw [if_neg h1,if_neg h1,if_neg]
  intro h2
  simp [h1,h2] at hc
theorem X5l(h:us[j]? = some v)(hc:(inR k 9 11&&v==q)=true) : (j:Int)=if inR k 9 11=true then lastN us q (j+1) else 0:=by
 simp only [Bool.and_eq_true,beq_iff_eq] at hc
 rw [if_pos hc.1,X2o h,if_pos hc.2]
theorem X63(h:us[j]? = some v)(hx:x=if inR k 9 11=true then lastN us q j else 0)(hc:(inR k 9 11&&v==q)=false) : x=if inR k 9 11=true then lastN us q (j+1) else 0:=by
 rw [hx,X2o h]
 by_cases h1:inR k 9 11=true
 ·rw [if_pos h1,if_pos h1,if_neg]
  intro h2
  simp [h1,h2] at hc
 ·rw [if_neg h1,if_neg h1]
end
def smallG(used:List Int)(g:Gt) : Gt:=⟨g.k,if g.k=12 then 0 else lastN used g.a used.length,if inR g.k 9 11=true then lastN used g.b used.length else 0⟩
def validS(n:Int)(r:Rp) : Bool:=inR n 1 5&&inR r.pos 0 400&&(!(r.old.any fun x=>!gOk n x)&&decide ((r.old.length:Int)≤40))&&(!(r.new.any fun x=>!gOk n x)&&decide ((r.new.length:Int)≤40))
theorem X3l(n:Int)(r:Rp) : validS n r=vrI n r:=by
 unfold validS vrI
 cases inR n 1 5<;>cases inR r.pos 0 400<;>cases (r.old.any fun x=>!gOk n x)<;>cases (r.new.any fun x=>!gOk n x)<;>cases decide ((r.old.length:Int)≤40)<;>cases decide ((r.new.length:Int)≤40)<;>rfl
end Go.Proofs.YtlfjcmldfbfdbaaGreat
namespace Go.Proofs.YtlfjcmldfbfdbaaGreat
open Go.RowKit
abbrev Inc(l:List Int) : Prop:=l.Pairwise (· < ·)
theorem Xd3:∀ (l m:List Int),Inc l→Inc m→(∀ x,x ∈ l↔x ∈ m)→l=m
 | [],[],_,_,_=>rfl
 | [],y::m,_,_,h=>by have:=(h y).2 (by simp);cases this
 | x::l,[],_,_,h=>by have:=(h x).1 (by simp);cases this
 | x::l,y::m,hl,hm,h=>by
  have hl':=List.pairwise_cons.1 hl
  have hm':=List.pairwise_cons.1 hm
  have hxy:x=y:=by
   have h1:=(h x).1 (by simp)
   have h2:=(h y).2 (by simp)
   rcases List.mem_cons.1 h1 with h1|h1
   ·exact h1
   ·rcases List.mem_cons.1 h2 with h2|h2
    ·exact h2.symm
    ·have h3:=hm'.1 x h1
     have h4:=hl'.1 y h2
     omega
  subst hxy
  congr 1
  refine Xd3 l m hl'.2 hm'.2 fun z=>?_
  constructor
  ·intro hz
   rcases List.mem_cons.1 ((h z).1 (List.mem_cons_of_mem _ hz)) with h1|h1
   ·have:=hl'.1 z hz;omega
   ·exact h1
  ·intro hz
   rcases List.mem_cons.1 ((h z).2 (List.mem_cons_of_mem _ hz)) with h1|h1
   ·have:=hm'.1 z hz;omega
   ·exact h1
theorem X5u:∀ (l:List Int) (n x:Int),x ∈ putI l n↔x ∈ l∨x=n
 | [],n,x=>by simp [putI]
 | y::l,n,x=>by
  unfold putI
  split
  ·rw [List.mem_cons,X5u l n x,List.mem_cons,or_assoc]
  ·split
   ·rename_i h;subst h;simp only [List.mem_cons];constructor
    ·exact .inl
    ·rintro (h|h)
     ·exact h
     ·exact .inl h
   ·simp only [List.mem_cons];constructor
    ·rintro (h|h|h)
     ·exact .inr h
     ·exact .inl (.inl h)
     ·exact .inl (.inr h)
    ·rintro ((h|h)|h)
     ·exact .inr (.inl h)
     ·exact .inr (.inr h)
     ·exact .inl h
theorem X78:∀ (l:List Int) (n:Int),Inc l→Inc (putI l n)
 | [],n,_=>by simp [putI]
 | y::l,n,h=>by
  have h':=List.pairwise_cons.1 h
  unfold putI
  split
  ·rename_i h1
   refine List.pairwise_cons.2 ⟨fun z hz=>?_,X78 l n h'.2⟩
   rcases (X5u l n z).1 hz with h2|h2
   ·exact h'.1 z h2
   ·omega
  ·split
   ·exact h
   ·rename_i h1 h2
    refine List.pairwise_cons.2 ⟨fun z hz=>?_,h⟩
    rcases List.mem_cons.1 hz with h3|h3
    ·omega
    ·have:=h'.1 z h3;omega
theorem Xa1(m:List Int)(g:Gt)(x:Int) : x ∈ usedStep m g↔x ∈ m∨x ∈ qubI g:=by
 unfold usedStep qubI
 split
 ·simp
 ·split
  ·rw [X5u,X5u,or_assoc];simp
  ·rw [X5u];simp
theorem X5q:∀ (l:List Gt) (m:List Int) (x:Int),x ∈ l.foldl usedStep m↔x ∈ m∨∃ g ∈ l,x ∈ qubI g
 | [],m,x=>by simp
 | g::l,m,x=>by
  rw [List.foldl_cons,X5q l,Xa1,or_assoc]
  simp
theorem Xag{m:List Int}(g:Gt)(h:Inc m) : Inc (usedStep m g):=by
 unfold usedStep
 split
 ·exact h
 ·split
  ·exact X78 _ _ (X78 _ _ h)
  ·exact X78 _ _ h
theorem X65:∀ (l:List Gt) (m:List Int),Inc m→Inc (l.foldl usedStep m)
 | [],m,h=>h
 | g::l,m,h=>X65 l _ (Xag g h)
theorem X4x(l:List Gt)(x:Int) : x ∈ usedS l↔∃ g ∈ l,x ∈ qubI g:=by unfold usedS;rw [X5q];simp
theorem Xdz(l:List Gt) : Inc (usedS l):=X65 l [] List.Pairwise.nil
theorem Xeo(l:List Int)(x:Int) : x ∈ sortI l↔x ∈ l:=List.mem_mergeSort
theorem X9u(l:List Int) : (sortI l).Pairwise (·≤·):=by
 have:=List.pairwise_mergeSort (le:=fun x y:Int=>decide (x≤y)) (fun a b c h1 h2=>by simp only [decide_eq_true_eq] at *;omega) (fun a b=>by simp only [Bool.or_eq_true,decide_eq_true_eq];omega) l
 exact this.imp fun h=>by simpa using h
theorem X8b{l:List Int}(h:l.Pairwise (·≤·)){i j:Nat}(hij:i≤j)(hj:j<l.length) : l[i]'(by omega)≤l[j]:=by
 rcases Nat.lt_or_ge i j with h1|h1
 ·exact List.pairwise_iff_getElem.1 h i j (by omega) hj h1
 ·obtain rfl:i=j:=by omega
  exact Int.le_refl _
theorem X51{l:List Int}{j:Nat}(hj:j<l.length) : l.toArray[j]! = l[j]:=by
 rw [getElem!_pos l.toArray j (by simpa using hj)]
 simp
theorem X8v{l:List Int}{j:Nat}(hj:j<l.length) : Lib.keeps l.toArray j=true↔j=0∨l[j]≠l[j-1]:=by
 unfold Lib.keeps
 rw [decide_eq_true_eq,X51 hj,X51 (show j-1<l.length by omega)]
theorem Xbj(l:List Int)(x:Int) : x ∈ Lib.compact l↔x ∈ l:=by
 unfold Lib.compact Lib.compactUpTo
 rw [List.mem_map]
 constructor
 ·rintro ⟨j,hj,rfl⟩
  have hj':=List.mem_range.1 (List.mem_filter.1 hj).1
  rw [X51 hj']
  exact List.getElem_mem _
 ·intro hx
  obtain ⟨j,hj,hjx⟩:=List.mem_iff_getElem.1 hx
  have key:∀ n j,j≤n→(hj:j<l.length)→l[j]=x→∃ k,∃ hk:k<l.length,l[k]=x∧(k=0∨l[k]≠l[k-1]):=by
   intro n
   induction n with
   | zero=>
    intro j h0 hj hx;obtain rfl:j=0:=by omega
    exact ⟨0,hj,hx,.inl rfl⟩
   | succ n ih=>
    intro j h0 hj hx
    by_cases h:j=0∨l[j]≠l[j-1]
    ·exact ⟨j,hj,hx,h⟩
    ·have h1:¬ j=0:=fun e=>h (.inl e)
     have h2:l[j]=l[j-1]:=Classical.byContradiction fun e=>h (.inr e)
     exact ih (j-1) (by omega) (by omega) (by rw [← h2];exact hx)
  obtain ⟨k,hk,h1,h2⟩:=key j j (Nat.le_refl _) hj hjx
  exact ⟨k,List.mem_filter.2 ⟨List.mem_range.2 hk,(X8v hk).2 h2⟩,by rw [X51 hk];exact h1⟩
theorem Xb6{l:List Int}(h:l.Pairwise (·≤·)) : Inc (Lib.compact l):=by
 unfold Lib.compact Lib.compactUpTo
 rw [Inc,List.pairwise_map]
 refine List.Pairwise.imp_of_mem (R:=(· < ·)) (fun {i j} hi hj hij=>?_) (List.Pairwise.filter _ List.pairwise_lt_range)
 have hi':=List.mem_range.1 (List.mem_filter.1 hi).1
 have hj':=List.mem_range.1 (List.mem_filter.1 hj).1
 have hk:=(X8v hj').1 (List.mem_filter.1 hj).2
 rw [X51 hi',X51 hj']
 have h1:=X8b h (show i≤j-1 by omega) (by omega)
 have h2:=X8b h (show j-1≤j by omega) hj'
 have h3:l[j]≠l[j-1]:=hk.resolve_left (by omega)
 omega
theorem X8y(p q:List Int)(x:Int) : x ∈ unionI p q↔x ∈ p∨x ∈ q:=by
 unfold unionI
 rw [Xbj,Xeo]
 simp
theorem Xet(p q:List Int) : Inc (unionI p q):=Xb6 (X9u _)
theorem X93(l:List Gt)(x:Int) : x ∈ usedI l↔∃ g ∈ l,x ∈ qubI g:=by
 unfold usedI
 rw [X8y]
 simp [List.mem_flatMap]
theorem Xdl(p q:List Gt) : unionI (usedI p) (usedI q)=usedS (p++q):=by
 refine Xd3 _ _ (Xet _ _) (Xdz _) fun x=>?_
 rw [X8y,X93,X93,X4x]
 constructor
 ·rintro (⟨g,hg,hx⟩|⟨g,hg,hx⟩)
  ·exact ⟨g,List.mem_append_left _ hg,hx⟩
  ·exact ⟨g,List.mem_append_right _ hg,hx⟩
 ·rintro ⟨g,hg,hx⟩
  rcases List.mem_append.1 hg with hg|hg
  ·exact .inl ⟨g,hg,hx⟩
  ·exact .inr ⟨g,hg,hx⟩
theorem Xg5{l:List Int}{i j:Nat}{x:Int}(hi:i<l.length) : (l.set i x).getD j 0=if i=j then x else l.getD j 0:=by
 rw [List.getD_eq_getElem?_getD,List.getElem?_set]
 split
 ·rename_i h;subst h;simp [hi]
 ·rw [List.getD_eq_getElem?_getD]
theorem X8l{l:List Int}(hq:∀ x ∈ l,0≤x∧x≤4){q:Int}(h0:0≤q)(h4:q≤4) : ∀ k,k≤l.length→(numbI (l.take k)).getD q.toNat 0=lastN l q k
 | 0,_=>by
  have:q=0∨q=1∨q=2∨q=3∨q=4:=by omega
  rcases this with rfl|rfl|rfl|rfl|rfl<;>rfl
 | k+1,hk=>by
  have hu:=List.getElem?_eq_getElem (show k<l.length by omega)
  have hb:=hq _ (List.getElem_mem (show k<l.length by omega))
  rw [X8s hu,X2o hu,Xg5 (by rw [X5y];omega),X8l hq h0 h4 k (by omega)]
  by_cases h:l[k]=q
  ·rw [if_pos h,if_pos (by rw [h])]
  ·rw [if_neg h,if_neg (by omega)]
theorem Xbd{l:List Int}{q:Int} : ∀ k,k≤l.length→q ∈ l.take k→∃ j:Nat,j<k∧lastN l q k=(j:Int)∧l.getD j 0=q
 | 0,_,h=>by simp at h
 | k+1,hk,h=>by
  have hu:=List.getElem?_eq_getElem (show k<l.length by omega)
  rw [X2o hu]
  by_cases he:l[k]=q
  ·rw [if_pos he]
   exact ⟨k,by omega,rfl,by rw [List.getD_eq_getElem?_getD,hu];exact he⟩
  ·rw [if_neg he]
   rw [List.take_add_one,hu,Option.toList_some] at h
   rcases List.mem_append.1 h with h|h
   ·obtain ⟨j,h1,h2,h3⟩:=Xbd k (by omega) h
    exact ⟨j,by omega,h2,h3⟩
   ·exact absurd (List.mem_singleton.1 h).symm he
theorem X6m{l:List Int}{q:Int}(h:q ∈ l) : ∃ j:Nat,j<l.length∧lastN l q l.length=(j:Int)∧l.getD j 0=q:=Xbd l.length (Nat.le_refl _) (by rw [List.take_length];exact h)
structure GoodG (us:List Int) (n:Int) (g:Gt) : Prop where
 ok:gOk n g=true
 use:∀ x ∈ qubI g,x ∈ us
theorem Xdv{us:List Int}{n:Int}{g:Gt}(hq:∀ x ∈ us,0≤x∧x≤4)(h:GoodG us n g) : mapG (numbI us) g=smallG us g:=by
 obtain ⟨hn,hk,ha,hb⟩:=X1p h.ok
 have hf:∀ q,0≤q→q≤4→(numbI us).getD q.toNat 0=lastN us q us.length:=fun q h0 h4=>by
  have:=X8l hq h0 h4 us.length (Nat.le_refl _)
  rwa [List.take_length] at this
 unfold mapG smallG
 have hok:=h.ok
 simp only [gOk,Bool.and_eq_true,X02] at hok
 by_cases h12:g.k=12
 ·have h9:¬ inR g.k 9 11=true:=fun e=>by have:=X02.1 e;omega
  rw [if_pos h12] at hok
  simp only [Bool.and_eq_true,beq_iff_eq] at hok
  rw [if_pos h12,if_pos h12,if_neg h9,if_neg h9,hok.2.1,hok.2.2]
 ·have ha:=ha h12
  rw [if_neg h12] at hok ⊢
  rw [if_neg h12,hf g.a (by omega) (by omega)]
  by_cases h9:inR g.k 9 11=true
  ·have hb:=hb (X02.1 h9)
   rw [if_pos h9,if_pos h9,hf g.b (by omega) (by omega)]
  ·rw [if_neg h9,if_neg h9]
   rw [if_neg (fun e=>h9 (X02.2 e))] at hok
   simp only [Bool.and_eq_true,beq_iff_eq] at hok
   rw [hok.2.2]
theorem Xep{n:Int}{g:Gt}(h:gOk n g=true){x:Int}(hx:x ∈ qubI g) : 0≤x∧x≤4:=by
 obtain ⟨hn,hk,ha,hb⟩:=X1p h
 unfold qubI at hx
 split at hx
 ·cases hx
 ·rename_i h12
  have ha:=ha h12
  split at hx
  ·rename_i h9
   have hb:=hb (X02.1 h9)
   rcases List.mem_cons.1 hx with hx|hx
   ·omega
   ·have:=List.mem_singleton.1 hx;omega
  ·have:=List.mem_singleton.1 hx;omega
def smallC(l:List Gt)(us:List Int) : Cx:=⟨max 1 (us.length:Int),l.map (smallG us)⟩
def mapC(l:List Gt)(us:List Int) : Cx:=⟨max (us.length:Int) 1,mapI l (numbI us)⟩
def justS(r:Rp) : Bool×Bool:=sameS (smallC r.old (usedS (r.old++r.new))) (smallC r.new (usedS (r.old++r.new)))
def justI(r:Rp) : Bool×Bool:=sameI (mapC r.old (unionI (usedI r.old) (usedI r.new))) (mapC r.new (unionI (usedI r.old) (usedI r.new)))
theorem X42{n:Int}{r:Rp}(h:vrI n r=true) : (1≤n∧n≤5)∧(r.old.length≤40∧r.new.length≤40)∧(∀ g ∈ r.old,gOk n g=true)∧(∀ g ∈ r.new,gOk n g=true):=by
 simp only [vrI,Bool.and_eq_true,X02,decide_eq_true_eq,Bool.not_eq_true',List.any_eq_false] at h
 refine ⟨h.1.1.1.1.1,by omega,fun g hg=>by simpa using h.1.2 g hg,fun g hg=>by simpa using h.2 g hg⟩
theorem X5g{n:Int}{l:List Gt}(h:∀ g ∈ l,gOk n g=true) : ∀ x ∈ usedS l,0≤x∧x≤4:=fun x hx=>by
 obtain ⟨g,hg,hx⟩:=(X4x l x).1 hx
 exact Xep (h g hg) hx
theorem Xdm{n:Int}{l:List Gt}{us:List Int}(hq:∀ x ∈ us,0≤x∧x≤4)(h:∀ g ∈ l,GoodG us n g) : mapC l us=smallC l us:=by
 unfold mapC smallC mapI
 rw [Int.max_comm]
 congr 1
 exact List.map_congr_left fun g hg=>Xdv hq (h g hg)
theorem Xin{n:Int}{r:Rp}(h:vrI n r=true) : justI r=justS r:=by
 obtain ⟨hn,hl,ho,hw⟩:=X42 h
 have hall:∀ g ∈ r.old++r.new,gOk n g=true:=fun g hg=>by
  rcases List.mem_append.1 hg with hg|hg
  ·exact ho g hg
  ·exact hw g hg
 have hq:=X5g hall
 have hgo:∀ g ∈ r.old++r.new,GoodG (usedS (r.old++r.new)) n g:=fun g hg=>⟨hall g hg,fun x hx=>(X4x _ x).2 ⟨g,hg,hx⟩⟩
 unfold justI justS
 rw [Xdl,Xdm hq fun g hg=>hgo g (List.mem_append_left _ hg),Xdm hq fun g hg=>hgo g (List.mem_append_right _ hg),Xhn]
end Go.Proofs.YtlfjcmldfbfdbaaGreat
namespace Go.Proofs.YtlfjcmldfbfdbaaGreat
open Go.RowKit
theorem X9d{n:Int}{l:List Gt}(h:∀ g ∈ l,gOk n g=true) : ∀ g ∈ l,(g.k≠12→0≤g.a∧g.a<5)∧(inR g.k 9 11=true→0≤g.b∧g.b<5):=fun g hg=>by
 obtain ⟨hn,hk,ha,hb⟩:=X1p (h g hg)
 exact ⟨fun h1=>by have:=ha h1;omega,fun h1=>by have:=hb (X02.1 h1);omega⟩
theorem Xio{n:Int}{r:Rp}(h:vrI n r=true) : ∀ x ∈ unionI (usedI r.old) (usedI r.new),0≤x∧x≤4:=fun x hx=>by
 obtain ⟨_,_,ho,hw⟩:=X42 h
 rw [Xdl] at hx
 refine X5g (n:=n) (fun g hg=>?_) x hx
 rcases List.mem_append.1 hg with hg|hg
 ·exact ho g hg
 ·exact hw g hg
def implJ(n:Int)(r:Rp) : Bool×Bool:=if vrI n r=true then justI r else (false,false)
def specJ(n:Int)(r:Rp) : Bool×Bool:=if validS n r=true then justS r else (false,false)
theorem Xge(n:Int)(r:Rp) : implJ n r=specJ n r:=by
 unfold implJ specJ
 rw [X3l]
 split
 ·rename_i h;exact Xin h
 ·rfl
def szG(l:List Gt)(left:Int) : Int:=if left-(l.length:Int)<0 then -1 else left-(l.length:Int)
def szR(r:Rp)(left:Int) : Int:=if szG r.old left<0 then -1 else if szG r.new (szG r.old left)<0 then -1 else szG r.new (szG r.old left)
end Go.Proofs.YtlfjcmldfbfdbaaGreat
namespace Go.Proofs.YtlfjcmldfbfdbaaGreat
open Go.RowKit
structure Sr where (pos:Int) (A:Option Addr) (c:Nat) (old:List Gt) (B:Option Addr) (d:Nat) (new:List Gt)
def encSr(s:Sr) : List Value:=[.int .i64 s.pos,.slice s.A s.old.length s.c,.slice s.B s.new.length s.d]
theorem X19:∀ x,(encSr x).length=3:=fun _=>rfl
theorem X1t:∀ x,(encSr x).all one=true:=fun _=>rfl
abbrev Sr.rp(s:Sr) : Rp:=⟨s.pos,s.old,s.new⟩
def srZ:Sr:=⟨0,none,0,[],none,0,[]⟩
def DeepR(w:World)(B:Nat)(E:TypeId)(l:List Sr) : Prop:=∀ s ∈ l,Rd w B E encG s.A s.old∧Rd w B E encG s.B s.new
def DeepX(w:World)(B:Nat)(l:List Sr) : Prop:=∀ s ∈ l,(∃ E,Rd w B E encG s.A s.old)∧∃ E,Rd w B E encG s.B s.new
section
variable {w w' : World} {B : Nat} {E : TypeId} {l : List Sr}
theorem DeepR.below(h:DeepR w B E l)(hb:Below w.heap.size w w') : DeepR w' B E l:=fun s hs=>⟨(h s hs).1.below hb,(h s hs).2.below hb⟩
theorem DeepR.top(h:DeepR w B E l) : DeepR w w.heap.size E l:=fun s hs=>⟨(h s hs).1.top,(h s hs).2.top⟩
theorem DeepR.only{b:Nat}(h:DeepR w B E l)(ho:Only b w w')(hB:B≤b) : DeepR w' B E l:=fun s hs=>⟨(h s hs).1.only ho hB,(h s hs).2.only ho hB⟩
theorem DeepR.onlyT{b:Nat}{T:TypeId}{lc:List Value}(h:DeepR w B E l)(ho:Only b w w')(hb:Blk w b T lc)(hT:Nat.beq E T=false) : DeepR w' B E l:=fun s hs=>⟨(h s hs).1.onlyT ho hb hT,(h s hs).2.onlyT ho hb hT⟩
theorem DeepR.appB{B0:Nat}{E':TypeId}{sz:Nat}{α:Type}{enc:α→List Value}{A:Option Addr}{c:Nat}{m:List α}(h:DeepR w B E l)(ho:Own w B0 E' sz enc A c m)(hg:w.grownBy w' (Value.slice A m.length c).ownBlock)(hB:B≤B0) : DeepR w' B E l:=fun s hs=>⟨(h s hs).1.appB ho hg hB,(h s hs).2.appB ho hg hB⟩
theorem DeepR.appT{B0:Nat}{E':TypeId}{sz:Nat}{α:Type}{enc:α→List Value}{A:Option Addr}{c:Nat}{m:List α}(h:DeepR w B E l)(ho:Own w B0 E' sz enc A c m)(hg:w.grownBy w' (Value.slice A m.length c).ownBlock)(hT:Nat.beq E' E=false) : DeepR w' B E l:=fun s hs=>⟨(h s hs).1.appT ho hg hT,(h s hs).2.appT ho hg hT⟩
theorem DeepX.below(h:DeepX w B l)(hb:Below w.heap.size w w') : DeepX w' B l:=fun s hs=>⟨(h s hs).1.imp fun _ k=>k.below hb,(h s hs).2.imp fun _ k=>k.below hb⟩
theorem DeepX.top(h:DeepX w B l) : DeepX w w.heap.size l:=fun s hs=>⟨(h s hs).1.imp fun _ k=>k.top,(h s hs).2.imp fun _ k=>k.top⟩
theorem DeepX.only{b:Nat}(h:DeepX w B l)(ho:Only b w w')(hB:B≤b) : DeepX w' B l:=fun s hs=>⟨(h s hs).1.imp fun _ k=>k.only ho hB,(h s hs).2.imp fun _ k=>k.only ho hB⟩
theorem DeepX.appB{B0:Nat}{E':TypeId}{sz:Nat}{α:Type}{enc:α→List Value}{A:Option Addr}{c:Nat}{m:List α}(h:DeepX w B l)(ho:Own w B0 E' sz enc A c m)(hg:w.grownBy w' (Value.slice A m.length c).ownBlock)(hB:B≤B0) : DeepX w' B l:=fun s hs=>⟨(h s hs).1.imp fun _ k=>k.appB ho hg hB,(h s hs).2.imp fun _ k=>k.appB ho hg hB⟩
end
theorem DeepR.zero(w:World)(B:Nat)(E:TypeId)(n:Nat) : DeepR w B E (List.replicate n srZ):=fun s hs=>by
 obtain rfl:=List.eq_of_mem_replicate hs
 exact ⟨Rd.nil _ _ _ _ _,Rd.nil _ _ _ _ _⟩
theorem DeepR.set{w:World}{B:Nat}{E:TypeId}{l:List Sr}(h:DeepR w B E l){x:Sr}(h1:Rd w B E encG x.A x.old)(h2:Rd w B E encG x.B x.new)(k:Nat) : DeepR w B E (l.set k x):=fun s hs=>by
 rcases List.mem_or_eq_of_mem_set hs with hs|hs
 ·exact h s hs
 ·subst hs;exact ⟨h1,h2⟩
def cIf(c:Cx) : Option Cx:=if cOk c=true then some c else none
def midC(c:Cx)(r:Rp) : Cx:=⟨c.n,c.gs.take r.pos.toNat++(r.new++(c.gs.drop (r.pos.toNat+r.old.length)++[]))⟩
def fitI(c:Cx)(r:Rp) : Bool:=cOk c&&vrI c.n r&&decide (r.pos+(r.old.length:Int)≤(c.gs.length:Int))&&decide ((c.gs.take (r.pos.toNat+r.old.length)).drop r.pos.toNat=r.old)
def applyI(c:Cx)(r:Rp) : Option Cx:=if fitI c r=true then cIf (midC c r) else none
def fitS(c:Cx)(r:Rp) : Bool:=validS c.n r&&decide (r.pos+(r.old.length:Int)≤(c.gs.length:Int))&&decide ((c.gs.length:Int)-(r.old.length:Int)+(r.new.length:Int)≤400)
def applyS(c:Cx)(r:Rp) : Option Cx:=if fitS c r=true∧(c.gs.take (r.pos.toNat+r.old.length)).drop r.pos.toNat=r.old then some ⟨c.n,c.gs.take r.pos.toNat++r.new++c.gs.drop (r.pos.toNat+r.old.length)⟩ else none
def eqC(c d:Cx) : Bool:=c.n==d.n&&decide (c.gs=d.gs)
def checkLI(i:Nat)(c:Cx)(d:Cx) : List Rp→Int
 | []=>if eqC c d=true then 0 else (i:Int)+1
 | r::l=>if ((applyI c r).isSome&&(implJ c.n r).2&&(implJ c.n r).1)=true then checkLI (i+1) ((applyI c r).getD ⟨0,[]⟩) d l else (i:Int)+1
def checkLS(i:Nat)(c:Cx)(d:Cx) : List Rp→Int
 | []=>if eqC c d=true then 0 else (i:Int)+1
 | r::l=>if ((applyS c r).isSome&&(justS r).1&&(justS r).2)=true then checkLS (i+1) ((applyS c r).getD ⟨0,[]⟩) d l else (i:Int)+1
def checkI(c d:Cx)(l:List Rp) : Int×Bool:=if (cOk c&&decide ((l.length:Int)≤400))=true then (checkLI 0 c d l,true) else (0,false)
def checkS(c d:Cx)(l:List Rp) : Int×Bool:=if (cOk c&&decide ((l.length:Int)≤400))=true then (checkLS 0 c d l,true) else (0,false)
theorem X4h{c:Cx}{r:Rp}(hc:cOk c=true) : applyI c r=applyS c r∧∀ c',applyS c r=some c'→cOk c'=true∧c'.n=c.n∧vrI c.n r=true:=by
 obtain ⟨hn,hl,hg⟩:=X20 hc
 unfold applyI applyS fitI fitS
 rw [hc,X3l,Bool.true_and]
 by_cases hv:vrI c.n r=true
 ·obtain ⟨_,hl2,ho,hw⟩:=X42 hv
  have hp:0≤r.pos:=by simp only [vrI,Bool.and_eq_true,X02] at hv;omega
  rw [hv,Bool.true_and]
  by_cases hle:r.pos+(r.old.length:Int)≤(c.gs.length:Int)
  ·rw [decide_eq_true hle,Bool.true_and,Bool.true_and]
   by_cases he:(c.gs.take (r.pos.toNat+r.old.length)).drop r.pos.toNat=r.old
   ·rw [decide_eq_true he,if_pos rfl]
    have hlen:(c.gs.take r.pos.toNat++r.new++c.gs.drop (r.pos.toNat+r.old.length)).length=c.gs.length-r.old.length+r.new.length:=by
     simp only [List.length_append,List.length_take,List.length_drop];omega
    have hall:∀ g ∈ c.gs.take r.pos.toNat++r.new++c.gs.drop (r.pos.toNat+r.old.length),gOk c.n g=true:=fun g h=>by
     rcases List.mem_append.1 h with h|h
     ·rcases List.mem_append.1 h with h|h
      ·exact hg g (List.mem_of_mem_take h)
      ·exact hw g h
     ·exact hg g (List.mem_of_mem_drop h)
    have hmid:midC c r=⟨c.n,c.gs.take r.pos.toNat++r.new++c.gs.drop (r.pos.toNat+r.old.length)⟩:=by unfold midC;simp
    by_cases h4:(c.gs.length:Int)-(r.old.length:Int)+(r.new.length:Int)≤400
    ·have hok:cOk (midC c r)=true:=by
      rw [hmid]
      have h5:((c.gs.take r.pos.toNat++r.new++c.gs.drop (r.pos.toNat+r.old.length)).any fun x=>!gOk c.n x)=false:=by
       rw [List.any_eq_false];intro x hx;simp [hall x hx]
      unfold cOk
      simp only
      rw [h5,X02.2 hn,hlen,decide_eq_true (by omega)];rfl
     rw [cIf,if_pos hok,if_pos ⟨by simpa using h4,he⟩,hmid]
     refine ⟨rfl,fun c' h=>?_⟩
     injection h with h
     rw [← h]
     rw [hmid] at hok
     exact ⟨hok,rfl,rfl⟩
    ·have hok:¬ cOk (midC c r)=true:=fun h=>by
      obtain ⟨_,h6,_⟩:=X20 h
      rw [hmid] at h6
      simp only at h6
      rw [hlen] at h6
      omega
     rw [cIf,if_neg hok,if_neg (fun h=>h4 (by simpa using h.1))]
     exact ⟨rfl,fun c' h=>by cases h⟩
   ·rw [decide_eq_false he,if_neg (by decide),if_neg (fun h=>he h.2)]
    exact ⟨rfl,fun c' h=>by cases h⟩
  ·rw [decide_eq_false hle]
   exact ⟨rfl,fun c' h=>by simp at h⟩
 ·have hv':vrI c.n r=false:=by simpa using hv
  rw [hv']
  exact ⟨rfl,fun c' h=>by simp at h⟩
theorem X98(d:Cx) : ∀ (l:List Rp) (i:Nat) (c:Cx),cOk c=true→checkLI i c d l=checkLS i c d l
 | [],_,_,_=>rfl
 | r::l,i,c,hc=>by
  obtain ⟨h1,h2⟩:=X4h (r:=r) hc
  unfold checkLI checkLS
  rw [h1]
  cases ha:applyS c r with
  | none=>rfl
  | some c'=>
   obtain ⟨h3,h4,h5⟩:=h2 c' ha
   have hj:implJ c.n r=justS r:=by rw [Xge,specJ,X3l,if_pos h5]
   simp only [Option.isSome_some,Option.getD_some,Bool.true_and]
   rw [hj,X98 d l (i+1) c' h3,Bool.and_comm]
theorem X7z(c d:Cx)(l:List Rp) : checkI c d l=checkS c d l:=by
 unfold checkI checkS
 split
 ·rename_i h
  rw [X98 d l 0 c (by simp only [Bool.and_eq_true] at h;exact h.1)]
 ·rfl
end Go.Proofs.YtlfjcmldfbfdbaaGreat
namespace Go.Proofs.YtlfjcmldfbfdbaaGreat
open Go.RowKit
structure Sg where (A:Option Addr) (c:Nat) (l:List Gt)
def encSg(s:Sg) : List Value:=[.slice s.A s.l.length s.c]
theorem X8w:∀ x,(encSg x).length=1:=fun _=>rfl
def growRenG:Go.Shelf.Ren:=⟨fun|4=>185|n=>n,fun|22=>29|25=>24|n=>n,fun|n=>n⟩
theorem Xbi:Lays8.n4 Tryz.prog growRenG:={
 mixed:=by kernel_rfl
 f4:=⟨Tryz.f185.name,by decide,Tryz.func185.trans (congrArg some (by kernel_rfl))⟩
 t0:=Tryz.underlying0
 a0:=Tryz.isAgg0
 z0:=Tryz.sizeOf0
 v0:=Tryz.zeroValue0
 t3:=Tryz.underlying3
 a3:=Tryz.isAgg3
 z3:=Tryz.sizeOf3
 v3:=Tryz.zeroValue3
 t4:=Tryz.underlying4
 a4:=Tryz.isAgg4
 z4:=Tryz.sizeOf4
 v4:=Tryz.zeroValue4
 t9:=Tryz.underlying9
 a9:=Tryz.isAgg9
 z9:=Tryz.sizeOf9
 v9:=Tryz.zeroValue9
 t20:=Tryz.underlying20
 a20:=Tryz.isAgg20
 z20:=Tryz.sizeOf20
 v20:=Tryz.zeroValue20
 t22:=Tryz.underlying29
 a22:=Tryz.isAgg29
 z22:=Tryz.sizeOf29
 v22:=Tryz.zeroValue29 }
theorem Xoh(w0:World)(n:Nat)(hn:n≤1000000000) : Ret Tryz.prog 185 [.slice none 0 0,.int .i64 (n:Int)] w0 (fun v w=>∃ A c,v=.slice A 0 c∧Own w w0.heap.size 24 3 encG A c ([] : List Gt)∧Below w0.heap.size w0 w):=by
 by_cases h0:n=0
 ·subst h0
  refine Calls.mono (Any8.slices_Grow_room Xbi none 0 0 0 w0 (by omega) (by omega) (by omega) (by omega)) fun e w ⟨e1,e2⟩=>⟨_,e1,none,0,rfl,?_⟩
  subst e2
  exact ⟨Own.nil _ _ _ _ _,Below.refl _ _⟩
 ·obtain ⟨i,z,hi1,hi2,hi3,hi4,hi5,hi6⟩:=Xe
  refine Calls.mono (Any8.slices_Grow_grow Xbi i z hi1 hi2 (by omega) none 0 0 n [] w0 (by omega) (by omega) (by rw [hi4];omega) (by omega) (by simp) (fun _=>rfl) (fun a h=>by cases h)) fun e w ⟨e1,e2⟩=>⟨_,e1,_,_,rfl,?_⟩
  subst e2
  have hge:=grownCap_ge w0 (0+n) 0 (growRenG.t 25)
  refine ⟨⟨rfl,.inr ⟨w0.heap.size,_,_,rfl,Nat.le_refl _,heap_alloc_new w0.drew _,Nat.zero_le _,grownCap_le_maxLen w0 _ _ _ (by simp only [maxLen];omega),?_,by simp⟩⟩,((Below.refl _ _).drew).alloc (Nat.le_refl _) _⟩
  simp only [Array.size_append,List.size_toArray,size_zeroCells,hi5,List.length_nil,Nat.zero_add,Nat.zero_mul] at hge ⊢
  generalize grownCap w0 n 0 (growRenG.t 25)=G at *
  have h9:n-0+(G-n)=G:=by omega
  rw [← h9,Nat.add_mul,h9]
theorem X4l{n:Int}{r:Rp}(h:(!vrI n r)=false) : r.pos=(r.pos.toNat:Int)∧wr (r.pos+(r.old.length:Int))=((r.pos.toNat+r.old.length:Nat) : Int)∧wr (r.pos+(r.old.length:Int))=r.pos+(r.old.length:Int)∧r.pos.toNat≤400∧r.old.length≤40∧r.new.length≤40:=by
 have h:vrI n r=true:=by revert h;cases vrI n r<;>simp
 obtain ⟨_,hl,_,_⟩:=X42 h
 have hp:0≤r.pos∧r.pos≤400:=by simp only [vrI,Bool.and_eq_true,X02] at h;omega
 have e:wr (r.pos+(r.old.length:Int))=r.pos+(r.old.length:Int):=X11 (by omega) (by omega)
 rw [e]
 refine ⟨by omega,by omega,rfl,by omega,hl.1,hl.2⟩
theorem Xfi{m:Nat}{x:Int}(h:decide ((m:Int)<x)=false) : x≤(m:Int):=by simpa using h
theorem Xe0{a b:Bool}{c:Bool}{d:Bool}(h:(!a||!b||c||!d)=false) : a=true∧b=true∧c=false∧d=true:=by revert h;cases a<;>cases b<;>cases c<;>cases d<;>simp
abbrev cZ:Cx:=⟨0,[]⟩
end Go.Proofs.YtlfjcmldfbfdbaaGreat
namespace Go.Proofs.YtlfjcmldfbfdbaaGreat
open Go.RowKit
theorem Xc8{c:Cx}{r:Rp}(h:((!validS c.n r)||decide ((c.gs.length:Int)<wr (r.pos+(r.old.length:Int)))||decide (400<(c.gs.length:Int)-(r.old.length:Int)+(r.new.length:Int)))=true) : applyS c r=none:=by
 unfold applyS
 rw [if_neg]
 rintro ⟨h1,_⟩
 simp only [fitS,Bool.and_eq_true,decide_eq_true_eq] at h1
 obtain ⟨⟨h2,h3⟩,h4⟩:=h1
 have h5:=X4l (n:=c.n) (r:=r) (by rw [← X3l,h2];rfl)
 rw [h2,h5.2.2.1] at h
 simp at h
 omega
theorem Xer{c:Cx}{r:Rp}(h:((!validS c.n r)||decide ((c.gs.length:Int)<wr (r.pos+(r.old.length:Int)))||decide (400<(c.gs.length:Int)-(r.old.length:Int)+(r.new.length:Int)))=false) :
  fitS c r=true∧vrI c.n r=true∧r.pos+(r.old.length:Int)≤(c.gs.length:Int):=by
 simp only [Bool.or_eq_false_iff,Bool.not_eq_false',decide_eq_false_iff_not] at h
 obtain ⟨⟨h1,h2⟩,h3⟩:=h
 have h5:=X4l (n:=c.n) (r:=r) (by rw [← X3l,h1];rfl)
 rw [h5.2.2.1] at h2
 refine ⟨?_,by rw [← X3l];exact h1,by omega⟩
 simp only [fitS,h1,Bool.true_and,Bool.and_eq_true,decide_eq_true_eq]
 omega
theorem Xdx{α:Type}{l m:List α}{p k:Nat}{u v:α}(h:(l.drop p).take k=m.take k)(hu:m[k]? = some u)(hv:l[p+k]? = some v)(he:v=u) : (l.drop p).take (k+1)=m.take (k+1):=by
 subst he
 exact X67 h (by rw [List.getElem?_drop];exact hv) hu rfl
theorem Xec{α:Type}{l m:List α}{p:Nat}(h:(l.drop p).take m.length=m.take m.length) : (l.take (p+m.length)).drop p=m:=by
 rw [List.drop_take,show p+m.length-p=m.length from by omega,h,List.take_length]
theorem Xim{α:Type}{l m:List α}{p k:Nat}{u v:α}(hu:m[k]? = some u)(hv:l[p+k]? = some v)(hne:¬ v=u) : ¬ (l.take (p+m.length)).drop p=m:=fun h=>by
 have hk:=(List.getElem?_eq_some_iff.1 hu).1
 rw [← h,List.getElem?_drop,List.getElem?_take_of_lt (by omega),hv] at hu
 injection hu with hu
 exact hne hu
def midS(c:Cx)(r:Rp) : Cx:=⟨c.n,c.gs.take r.pos.toNat++r.new++c.gs.drop (r.pos.toNat+r.old.length)⟩
theorem X6z{c:Cx}{r:Rp}(h1:fitS c r=true)(h2:(c.gs.take (r.pos.toNat+r.old.length)).drop r.pos.toNat=r.old) : applyS c r=some (midS c r):=by
 unfold applyS midS
 rw [if_pos ⟨h1,h2⟩]
theorem Xaz{c:Cx}{r:Rp}(h2:¬ (c.gs.take (r.pos.toNat+r.old.length)).drop r.pos.toNat=r.old) : applyS c r=none:=by
 unfold applyS
 rw [if_neg fun h=>h2 h.2]
theorem Xah{l:List Sr}{k:Nat}{u:Sr}(h:l[k]? = some u) : (l.map Sr.rp).drop k=u.rp::(l.map Sr.rp).drop (k+1):=X4d (by rw [List.getElem?_map,h];rfl)
theorem Xgv{c:Cx}(h:cOk c=true) : c.gs.length≤400:=(X20 h).2.1
def szF:List Sr→Int→Int
 | [],t=>t
 | s::l,t=>if szR s.rp t<0 then -1 else szF l (szR s.rp t)
def szL(l:List Sr)(t:Int) : Int:=if t-(l.length:Int)<0 then -1 else szF l (t-(l.length:Int))
def szZ(c:Cx)(l:List Sr)(d:Cx)(t:Int) : Int:=if szG c.gs t<0 then -1 else if szL l (szG c.gs t)<0 then -1 else szG d.gs (szL l (szG c.gs t))
instance:DecidableEq Rp:=fun a b=>decidable_of_iff (a.pos=b.pos∧a.old=b.old∧a.new=b.new) (by cases a;cases b;simp)
end Go.Proofs.YtlfjcmldfbfdbaaGreat
set_option maxRecDepth 4000
namespace Go.Proofs.YtlfjcmldfbfdbaaGreat
open Go.RowKit
theorem F93(w0:World)(ls:List Sl)(Al:Option Addr)(cl:Nat)(hr_ls:Rd w0 w0.heap.size 66 encS Al ls)(hall:∀ s ∈ ls,Rd w0 w0.heap.size 3 encI s.A s.l)(hln:ls.length≤1000)(hsum:(ls.flatMap Sl.l).length≤1000000000) : Ret Tryz.prog 159 [.slice Al ls.length cl] w0 (fun v w=>∃ A c,v=.slice A (ls.flatMap Sl.l).length c∧Own w w0.heap.size 3 1 encI A c (ls.flatMap Sl.l)∧Below w0.heap.size w0 w):=by
 refine enter Tryz.func159 rfl 36 rfl rfl ?_
 intro a hf
 have hW:Below w0.heap.size w0 w0:=Below.refl _ _
 refine Zs hf fun _ hK2=>?_
 refine Za rfl ?_
 refine Zt hK2 fun a hf=>?_
 refine Zs hf fun _ hK4=>?_
 refine Za rfl ?_
 refine Zt hK4 fun a hf=>?_
 refine wp_seq_k fun _ hK5=>?_
 refine Zs hf fun _ hK6=>?_
 refine Zm rfl<|Ze (X0v rfl X7y)<|Zm rfl ?_
 refine Zt hK6 fun a hf=>?_
 refine wp_block ?_
 refine X0j (σ:=Nat) (fun (k:Nat) (a:Act) (w:World)=>Fr a 36 [(0,.slice Al ls.length cl),(3,vi (((ls.take k).flatMap Sl.l).length:Int)),(9,.slice Al ls.length cl),(10,vi (ls.length:Int)),(11,vi (k:Int))]∧(k≤ls.length)∧Below w0.heap.size w0 w) (fun (k:Nat)=>ls.length-k) 0 ?_ ?_
 ·exact ⟨hf.sub ⟨rfl,rfl,rfl,rfl,rfl,trivial⟩,(Nat.zero_le _),hW⟩
 rintro k a w1 ⟨hf,hk,hW⟩
 refine Zs hf fun _ hK7=>?_
 refine Ze (X1k rfl rfl) ?_
 refine Zt hK7 fun a hf=>?_
 refine wp_seq_k fun _ hK8=>?_
 refine Xi hf rfl (fun hc9=>?_) (fun hc9=>?_)
 ·have hc9b:=hc9
  have hc9:=of_decide_eq_true hc9
  obtain ⟨u10,hu10⟩:=Xx (l:=ls) (k:=k) (by omega)
  have hst:=X3r (f:=Sl.l) hu10
  have hle:=X4t Sl.l ls (k+1)
  rw [hst,List.length_append] at hle
  refine wp_skip ?_
  refine hK8 _ _ ?_
  refine wp_seq_k fun _ hK11=>?_
  refine wp_block ?_
  refine Zs hf fun _ hK12=>?_
  refine Zi (k:=k) (u:=u10) (enc:=encS) (l:=ls) trivial rfl rfl X7y Xje Xao (hr_ls.below' hW) hu10 rfl ?_;intro p14 hat13
  have hr15:Rd w1 w0.heap.size 3 encI u10.A u10.l:=(hall u10 (List.mem_of_getElem? hu10)).below' hW
  refine Ze (X0 rfl Xj9 hat13)<|Za rfl ?_
  refine Zt hK12 fun a hf=>?_
  refine Zs hf fun _ hK16=>?_
  refine Zm rfl<|Zm rfl<|Ze (X0v rfl X16)<|Ze (Xv rfl rfl (by omega) (by omega))<|Za rfl ?_
  refine Zt hK16 fun a hf=>?_
  refine Zs hf fun _ hK17=>?_
  refine Zm rfl<|Ze (X1k rfl rfl) ?_
  refine Zt hK17 fun a hf=>?_
  refine Xi hf rfl (fun hc18=>?_) (fun hc18=>?_)
  ·have hc18b:=hc18
   have hc18:=of_decide_eq_true hc18
   exact absurd hc18 (by omega)
  have hc18b:=hc18
  have hc18:=of_decide_eq_false hc18
  refine wp_skip ?_
  refine Xf ?_
  refine hK11 _ _ ?_
  refine Zr hf ?_
  refine Ze (Xv rfl rfl (by omega) (by omega))<|Zm rfl ?_
  refine Zn fun a hf=>?_
  have hjj:((((ls.take k).flatMap Sl.l).length:Int)+(u10.l.length:Int))=(((ls.take (k+1)).flatMap Sl.l).length:Int):=by rw [hst,List.length_append];omega
  rw [hjj] at hf
  refine Xn ?_
  exact ⟨k+1,⟨hf.sub ⟨rfl,rfl,rfl,rfl,rfl,trivial⟩,(by omega),hW⟩,(by omega)⟩
 have hc9b:=hc9
 have hc9:=of_decide_eq_false hc9
 refine wp_exit ?_
 refine Xs ?_
 refine Xs ?_
 refine X0h ?_
 refine hK5 _ _ ?_
 refine Zs hf fun _ hK19=>?_
 refine Zm rfl ?_
 refine Zf (Vc (Xp7 _ (((ls.take k).flatMap Sl.l).length) (by have:=X4t Sl.l ls k;omega)) Xke) ?_;rintro _ w2 ⟨A21,c21,rfl,ho21,hE⟩
 replace ho21:=ho21.lower hW.size
 replace hW:=btr hW hE
 refine Za rfl ?_
 refine Zt hK19 fun a hf=>?_
 refine wp_seq_k fun _ hK22=>?_
 refine Zs hf fun _ hK23=>?_
 refine Zm rfl<|Ze (X0v rfl X7y)<|Zm rfl ?_
 refine Zt hK23 fun a hf=>?_
 refine wp_block ?_
 refine X0j (σ:=Nat×(List Int)) (fun (s:Nat×(List Int)) (a:Act) (w:World)=>match s with|(j,l)=>∃ A24 c24,Fr a 36 [(6,.slice A24 l.length c24),(25,.slice Al ls.length cl),(26,vi (ls.length:Int)),(27,vi (j:Int))]∧(j≤ls.length)∧(l=(ls.take j).flatMap Sl.l)∧Own w w0.heap.size 3 1 encI A24 c24 l∧Below w0.heap.size w0 w) (fun (s:Nat×(List Int))=>match s with|(j,l)=>ls.length-j) (0,[]) ?_ ?_
 ·exact ⟨A21,c21,hf.sub ⟨rfl,rfl,rfl,rfl,trivial⟩,(Nat.zero_le _),rfl,ho21,hW⟩
 rintro ⟨j,l⟩ a w3 ⟨A24,c24,hf,hj,hl,ho24,hW⟩
 refine Zs hf fun _ hK25=>?_
 refine Ze (X1k rfl rfl) ?_
 refine Zt hK25 fun a hf=>?_
 refine wp_seq_k fun _ hK26=>?_
 refine Xi hf rfl (fun hc27=>?_) (fun hc27=>?_)
 ·have hc27b:=hc27
  have hc27:=of_decide_eq_true hc27
  obtain ⟨u28,hu28⟩:=Xx (l:=ls) (k:=j) (by omega)
  have hst:=X3r (f:=Sl.l) hu28
  have hle:=X4t Sl.l ls (j+1)
  rw [hst,List.length_append,← hl] at hle
  refine wp_skip ?_
  refine hK26 _ _ ?_
  refine wp_seq_k fun _ hK29=>?_
  refine wp_block ?_
  refine Zs hf fun _ hK30=>?_
  refine Zi (k:=j) (u:=u28) (enc:=encS) (l:=ls) trivial rfl rfl X7y Xje Xao (hr_ls.below' hW) hu28 rfl ?_;intro p32 hat31
  have hr33:Rd w3 w0.heap.size 3 encI u28.A u28.l:=(hall u28 (List.mem_of_getElem? hu28)).below' hW
  refine Ze (X0 rfl Xj9 hat31)<|Za rfl ?_
  refine Zt hK30 fun a hf=>?_
  refine Zr hf ?_
  refine Zm rfl<|Zm rfl ?_
  refine Zf (X0f (enc:=encI) (l:=(l)) (l2:=(u28.l)) (B0:=w0.heap.size) rfl rfl X16 X2d X0z X3h ho24 hr33 (by simp only [maxLen];omega) (by omega) hW.size) ?_;rintro _ w4 ⟨A34,c34,rfl,ho34,hg,hat⟩
  have hown:Own _ w0.heap.size 3 1 encI _ _ (l):=ho24
  clear hat
  replace hr33:=hr33.appB hown hg (Nat.le_refl _)
  replace hW:=Below.app hW hown hg (Nat.le_refl _) hW.size
  clear hown hg
  refine Za rfl ?_
  refine Zn fun a hf=>?_
  refine Xf ?_
  refine hK29 _ _ ?_
  refine Zr hf ?_
  refine Ze (Xv rfl rfl (by omega) (by omega))<|Zm rfl ?_
  refine Zn fun a hf=>?_
  refine Xn ?_
  exact ⟨(j+1,l++u28.l),⟨A34,c34,hf.sub ⟨rfl,rfl,rfl,rfl,trivial⟩,(by omega),(by rw [hst,hl]),ho34,hW⟩,(by first|omega|(dsimp only;omega))⟩
 have hc27b:=hc27
 have hc27:=of_decide_eq_false hc27
 refine wp_exit ?_
 refine Xs ?_
 refine Xs ?_
 refine X0h ?_
 refine hK22 _ _ ?_
 refine Zs hf fun _ hK35=>?_
 refine Zm rfl<|Za rfl ?_
 refine Zt hK35 fun a hf=>?_
 refine wp_ret (X2 hf (Xo hf rfl rfl) ?_)
 have hfin:l=ls.flatMap Sl.l:=by rw [hl];exact X6a _ (by omega)
 rw [← hfin]
 exact ⟨A24,c24,rfl,ho24,hW⟩
theorem F47(w0:World)(Ap:Option Addr)(cp:Nat)(p:List Int)(hr_p:Rd w0 w0.heap.size 3 encI Ap p)(Aq:Option Addr)(cq:Nat)(q:List Int)(hr_q:Rd w0 w0.heap.size 3 encI Aq q)(hpl:p.length≤100000000)(hql:q.length≤100000000) : Ret Tryz.prog 99 [.slice Ap p.length cp,.slice Aq q.length cq] w0 (fun v w=>∃ A c,v=.slice A (unionI p q).length c∧Own w w0.heap.size 3 1 encI A c (unionI p q)∧Below w0.heap.size w0 w):=by
 refine enter Tryz.func99 rfl 14 rfl rfl ?_
 intro a hf
 have hW:Below w0.heap.size w0 w0:=Below.refl _ _
 refine Zs hf fun _ hK3=>?_
 refine Za rfl ?_
 refine Zt hK3 fun a hf=>?_
 refine Zs hf fun _ hK5=>?_
 refine Zm rfl<|Zm rfl ?_
 refine Zf (X4 (k:=2) (vs:=[.slice Ap p.length cp,.slice Aq q.length cq]) (zs:=[.slice Ap p.length cp,.slice Aq q.length cq]) rfl X7y Xkg rfl rfl) ?_;rintro _ w1 ⟨b6,rfl,hl6,hE,hB6⟩
 have hlo6:=Nat.le_trans hW.size hl6
 replace hW:=btr hW hE
 refine Zf (Vc (F93 _ [(⟨Ap,cp,p⟩ : Sl),(⟨Aq,cq,q⟩ : Sl)] (some ⟨b6,0,none⟩) 2 (Rd.of_blk hB6 rfl _ hB6.lt) (fun s hs=>by rcases List.mem_cons.1 hs with rfl|hs;exact (hr_p.below' hW).top;rw [List.mem_singleton.1 hs];exact (hr_q.below' hW).top) (by simp) (by simp;omega)) Xnb) ?_;rintro _ w2 ⟨A8,c8,rfl,ho8,hE⟩
 replace ho8:=ho8.lower hW.size
 replace hB6:=hB6.below hE
 replace hW:=btr hW hE
 refine Za rfl ?_
 refine Zt hK5 fun a hf=>?_
 refine Zs hf fun _ hK9=>?_
 refine Zm rfl ?_
 refine Zf (Vc (F94 _ w0.heap.size A8 c8 (List.flatMap Sl.l [(⟨Ap,cp,p⟩ : Sl),(⟨Aq,cq,q⟩ : Sl)]) ho8 (by simp;omega)) Xmo) ?_;rintro _ w3 ⟨hnew,hg⟩
 have hown:=ho8
 replace hW:=Below.app hW hown hg (Nat.le_refl _) hW.size
 clear hown hg;clear ho8;have ho8:=hnew;clear hnew
 refine Zt hK9 fun a hf=>?_
 refine Zs hf fun _ hK10=>?_
 refine Zm rfl ?_
 refine Zf (Vc (Xot _ w0.heap.size A8 c8 (sortI (List.flatMap Sl.l [(⟨Ap,cp,p⟩ : Sl),(⟨Aq,cq,q⟩ : Sl)])) ((List.flatMap Sl.l [(⟨Ap,cp,p⟩ : Sl),(⟨Aq,cq,q⟩ : Sl)]).length) (by simp [sortI]) ho8 (by simp [sortI];omega)) Xn2) ?_;rintro _ w4 ⟨rfl,hnew,hg⟩
 have hown:=ho8
 replace hW:=Below.app hW hown hg (Nat.le_refl _) hW.size
 clear hown hg;clear ho8;have ho8:=hnew;clear hnew
 refine Za rfl ?_
 refine Zt hK10 fun a hf=>?_
 refine wp_ret (X2 hf (Xo hf rfl rfl) ?_)
 have hfin:unionI p q=Lib.compact (sortI (List.flatMap Sl.l [(⟨Ap,cp,p⟩ : Sl),(⟨Aq,cq,q⟩ : Sl)])):=by unfold unionI;congr 2
 rw [hfin]
 exact ⟨A8,c8,rfl,ho8,hW⟩
theorem F96(w0:World)(g:Gt) : Ret Tryz.prog 58 [.agg #[vi g.k,vi g.a,vi g.b]] w0 (fun v w=>∃ A c,v=.slice A (qubI g).length c∧Own w w0.heap.size 3 1 encI A c (qubI g)∧Below w0.heap.size w0 w):=by
 refine enter Tryz.func58 rfl 19 rfl rfl ?_
 intro a hf
 have hW:Below w0.heap.size w0 w0:=Below.refl _ _
 refine Zs hf fun _ hK1=>?_
 refine Zf (X0p (zs:=[vi g.k,vi g.a,vi g.b]) rfl rfl) ?_;rintro _ w1 ⟨b2,rfl,hl2,hE,hB2⟩
 have hlo2:=Nat.le_trans hW.size hl2
 replace hW:=btr hW hE
 refine Za rfl ?_
 refine Zt hK1 fun a hf=>?_
 refine wp_seq_k fun _ hK4=>?_
 refine wp_block ?_
 refine Zs hf fun _ hK5=>?_
 refine Ze (Vd rfl X0g 0)<|Ze (X0 rfl X5 (hB2.at 0))<|Ze (X0u rfl rfl)<|Za rfl ?_
 refine Zt hK5 fun a hf=>?_
 refine Xi hf rfl (fun hc6=>?_) (fun hc6=>?_)
 ·have hc6b:=hc6
  have hfin:qubI g=[]:=by rw [qubI,if_pos (by simpa using hc6)]
  refine Zs hf fun _ hK7=>?_
  refine Za rfl ?_
  refine Zt hK7 fun a hf=>?_
  refine wp_ret ?_
  refine Xy ?_
  refine X8 ?_
  refine X2 hf (Xo hf rfl rfl) ?_
  rw [hfin]
  exact ⟨none,0,rfl,(Own.nil _ _ _ _ _),hW⟩
 have hc6b:=hc6
 have h12:¬ g.k=12:=by simpa using hc6
 refine Zs hf fun _ hK9=>?_
 refine Ze (Vd rfl X0g 0)<|Ze (X0 rfl X5 (hB2.at 0)) ?_
 refine Zf (Vc (F99 _ g.k) Xas) ?_;rintro _ _ ⟨rfl,rfl⟩
 refine Za rfl ?_
 refine Zt hK9 fun a hf=>?_
 refine Xi hf rfl (fun hc10=>?_) (fun hc10=>?_)
 ·have hc10b:=hc10
  have hfin:qubI g=[g.a,g.b]:=by rw [qubI,if_neg h12,if_pos hc10]
  refine Zs hf fun _ hK11=>?_
  refine Ze (Vd rfl X0t 1)<|Ze (X0 rfl X5 (hB2.at 1))<|Ze (Vd rfl X12 2)<|Ze (X0 rfl X5 (hB2.at 2)) ?_
  refine Zf (X4 (k:=2) (vs:=[vi g.a,vi g.b]) (zs:=[vi g.a,vi g.b]) rfl X16 X2d rfl rfl) ?_;rintro _ w2 ⟨b12,rfl,hl12,hE,hB12⟩
  have hlo12:=Nat.le_trans hW.size hl12
  replace hB2:=hB2.below hE
  replace hW:=btr hW hE
  refine Za rfl ?_
  refine Zt hK11 fun a hf=>?_
  refine wp_ret ?_
  refine Xy ?_
  refine X8 ?_
  refine X2 hf (Xo hf rfl rfl) ?_
  rw [hfin]
  exact ⟨(some ⟨b12,0,none⟩),2,rfl,(Own.of_blkL X0z hB12 hlo12 rfl rfl (by decide)),hW⟩
 have hc10b:=hc10
 have hfin:qubI g=[g.a]:=by rw [qubI,if_neg h12,if_neg (by rw [hc10];simp)]
 refine wp_skip ?_
 refine Xf ?_
 refine hK4 _ _ ?_
 refine Zs hf fun _ hK14=>?_
 refine Ze (Vd rfl X0t 1)<|Ze (X0 rfl X5 (hB2.at 1)) ?_
 refine Zf (X4 (k:=1) (vs:=[vi g.a]) (zs:=[vi g.a]) rfl X16 X2d rfl rfl) ?_;rintro _ w3 ⟨b15,rfl,hl15,hE,hB15⟩
 have hlo15:=Nat.le_trans hW.size hl15
 replace hB2:=hB2.below hE
 replace hW:=btr hW hE
 refine Za rfl ?_
 refine Zt hK14 fun a hf=>?_
 refine wp_ret (X2 hf (Xo hf rfl rfl) ?_)
 rw [hfin]
 exact ⟨(some ⟨b15,0,none⟩),1,rfl,(Own.of_blkL X0z hB15 hlo15 rfl rfl (by decide)),hW⟩
theorem F48(w0:World)(Al:Option Addr)(cl:Nat)(l:List Gt)(hr_l:Rd w0 w0.heap.size 24 encG Al l)(hln:l.length≤10000000) : Ret Tryz.prog 100 [.slice Al l.length cl] w0 (fun v w=>∃ A c,v=.slice A (usedI l).length c∧Own w w0.heap.size 3 1 encI A c (usedI l)∧Below w0.heap.size w0 w):=by
 refine enter Tryz.func100 rfl 20 rfl rfl ?_
 intro a hf
 have hW:Below w0.heap.size w0 w0:=Below.refl _ _
 refine Zs hf fun _ hK2=>?_
 refine Za rfl ?_
 refine Zt hK2 fun a hf=>?_
 refine Zs hf fun _ hK4=>?_
 refine Zf (X4 (k:=0) (vs:=[]) (zs:=[]) rfl X16 X2d rfl rfl) ?_;rintro _ w1 ⟨b5,rfl,hl5,hE,hB5⟩
 have hlo5:=Nat.le_trans hW.size hl5
 replace hW:=btr hW hE
 refine Za rfl ?_
 refine Zt hK4 fun a hf=>?_
 refine wp_seq_k fun _ hK7=>?_
 refine Zs hf fun _ hK8=>?_
 refine Zm rfl<|Ze (X0v rfl Xd)<|Zm rfl ?_
 refine Zt hK8 fun a hf=>?_
 refine wp_block ?_
 refine X0j (σ:=Nat×(List Int)) (fun (s:Nat×(List Int)) (a:Act) (w:World)=>match s with|(k,m)=>∃ A9 c9,Fr a 20 [(3,.slice A9 m.length c9),(7,.slice Al l.length cl),(8,vi (l.length:Int)),(9,vi (k:Int))]∧(k≤l.length)∧(m=(l.take k).flatMap qubI)∧Own w w0.heap.size 3 1 encI A9 c9 m∧Below w0.heap.size w0 w) (fun (s:Nat×(List Int))=>match s with|(k,m)=>l.length-k) (0,[]) ?_ ?_
 ·exact ⟨some ⟨b5,0,none⟩,0,hf.sub ⟨rfl,rfl,rfl,rfl,trivial⟩,(Nat.zero_le _),rfl,(Own.empty hB5 hlo5),hW⟩
 rintro ⟨k,m⟩ a w2 ⟨A9,c9,hf,hk,hm,ho9,hW⟩
 refine Zs hf fun _ hK10=>?_
 refine Ze (X1k rfl rfl) ?_
 refine Zt hK10 fun a hf=>?_
 refine wp_seq_k fun _ hK11=>?_
 refine Xi hf rfl (fun hc12=>?_) (fun hc12=>?_)
 ·have hc12b:=hc12
  have hc12:=of_decide_eq_true hc12
  obtain ⟨u13,hu13⟩:=Xx (l:=l) (k:=k) (by omega)
  have hst:=X3r (f:=qubI) hu13
  have hqb:=X7l (l.take k)
  have hq2:=Xbp u13
  have hlt:=List.length_take_le k l
  rw [← hm] at hqb
  refine wp_skip ?_
  refine hK11 _ _ ?_
  refine wp_seq_k fun _ hK14=>?_
  refine wp_block ?_
  refine Zs hf fun _ hK15=>?_
  refine Zi (k:=k) (u:=u13) (enc:=encG) (l:=l) trivial rfl rfl Xd X0a Xb (hr_l.below' hW) hu13 rfl ?_;intro p17 hat16
  refine Ze (Xj (l:=[vi u13.k,vi u13.a,vi u13.b]) rfl X08 hat16 rfl) ?_
  refine Zf (Xa (zs:=[vi 0,vi 0,vi 0]) X2l rfl) ?_;rintro _ w3 ⟨b18,rfl,hl18,hE,hB18⟩
  have hlo18:=Nat.le_trans hW.size hl18
  have haw1_18:=(hr_l.below' hW).away hl18
  replace ho9:=ho9.below hE
  replace hW:=btr hW hE
  refine Zo (Vw [vi u13.k,vi u13.a,vi u13.b] X0a hB18) ?_;rintro _ w4 ⟨ho,hb⟩
  have hold:=hB18
  replace ho9:=ho9.onlyT ho hold rfl
  replace hW:=Below.only hW ho hlo18
  clear hold
  have hB18:=hb
  clear hb ho
  refine Zt hK15 fun a hf=>?_
  refine Zr hf ?_
  refine Zm rfl<|Ze (Vn X08 hB18) ?_
  refine Zf (Vc (F96 _ u13) Xnh) ?_;rintro _ w5 ⟨A19,c19,rfl,ho19,hE⟩
  replace ho19:=ho19.lower hW.size
  replace hB18:=hB18.below hE
  replace ho9:=ho9.below hE
  replace hW:=btr hW hE
  refine Zf (X0f (enc:=encI) (l:=(m)) (l2:=((qubI u13))) (B0:=w0.heap.size) rfl rfl X16 X2d X0z X3h ho9 ho19.rd (by simp only [maxLen];omega) (by omega) hW.size) ?_;rintro _ w6 ⟨A20,c20,rfl,ho20,hg,hat⟩
  have hown:Own _ w0.heap.size 3 1 encI _ _ (m):=ho9
  clear hat
  replace hB18:=hB18.appT hown hg rfl
  replace hW:=Below.app hW hown hg (Nat.le_refl _) hW.size
  clear hown hg
  refine Za rfl ?_
  refine Zn fun a hf=>?_
  refine Xf ?_
  refine hK14 _ _ ?_
  refine Zr hf ?_
  refine Ze (Xv rfl rfl (by omega) (by omega))<|Zm rfl ?_
  refine Zn fun a hf=>?_
  refine Xn ?_
  exact ⟨(k+1,m++qubI u13),⟨A20,c20,hf.sub ⟨rfl,rfl,rfl,rfl,trivial⟩,(by omega),(by rw [hst,hm]),ho20,hW⟩,(by first|omega|(dsimp only;omega))⟩
 have hc12b:=hc12
 have hc12:=of_decide_eq_false hc12
 refine wp_exit ?_
 refine Xs ?_
 refine Xs ?_
 refine X0h ?_
 refine hK7 _ _ ?_
 refine Zs hf fun _ hK21=>?_
 refine Zm rfl ?_
 refine Zf (Vc (F47 _ A9 c9 m ho9.rd.top none 0 ([] : List Int) (Rd.nil _ _ _ _ _) (by have:=X7l (l.take k);have:=List.length_take_le k l;rw [hm];omega) (by simp)) Xj5) ?_;rintro _ w7 ⟨A23,c23,rfl,ho23,hE⟩
 replace ho23:=ho23.lower hW.size
 replace ho9:=ho9.below hE
 replace hW:=btr hW hE
 refine Za rfl ?_
 refine Zt hK21 fun a hf=>?_
 refine wp_ret (X2 hf (Xo hf rfl rfl) ?_)
 have hfin:usedI l=unionI m []:=by rw [usedI,hm,X6a _ (show l.length≤k by omega)]
 rw [hfin]
 exact ⟨A23,c23,rfl,ho23,hW⟩
end Go.Proofs.YtlfjcmldfbfdbaaGreat
set_option maxRecDepth 4000
namespace Go.Proofs.YtlfjcmldfbfdbaaGreat
open Go.RowKit
theorem F49(w0:World)(Al:Option Addr)(cl:Nat)(l:List Int)(hr_l:Rd w0 w0.heap.size 3 encI Al l)(hq:∀ x ∈ l,0≤x∧x≤4)(hln:l.length≤1000000) : Ret Tryz.prog 101 [.slice Al l.length cl] w0 (fun v w=>∃ A c,v=.slice A (numbI l).length c∧Own w w0.heap.size 3 1 encI A c (numbI l)∧Below w0.heap.size w0 w):=by
 refine enter Tryz.func101 rfl 20 rfl rfl ?_
 intro a hf
 have hW:Below w0.heap.size w0 w0:=Below.refl _ _
 refine Zs hf fun _ hK2=>?_
 refine Za rfl ?_
 refine Zt hK2 fun a hf=>?_
 refine Zs hf fun _ hK4=>?_
 refine Zf (X43 (m:=5) (enc:=encI) (z0:=0) rfl rfl X16 X2d z_3 rfl X0z (by decide) (by decide)) ?_;rintro _ w1 ⟨b5,rfl,hl5,hE,hB5⟩
 have hlo5:=Nat.le_trans hW.size hl5
 have haw1_5:=(hr_l.below' hW).away hl5
 replace hW:=btr hW hE
 refine Za rfl ?_
 refine Zt hK4 fun a hf=>?_
 refine wp_seq_k fun _ hK7=>?_
 refine Zs hf fun _ hK8=>?_
 refine Zm rfl<|Ze (X0v rfl X16)<|Zm rfl ?_
 refine Zt hK8 fun a hf=>?_
 refine wp_block ?_
 refine X0j (σ:=Nat×(List Int)) (fun (s:Nat×(List Int)) (a:Act) (w:World)=>match s with|(k,to)=>Fr a 20 [(3,.slice (some ⟨b5,0,none⟩) 5 5),(7,.slice Al l.length cl),(8,vi (l.length:Int)),(9,vi (k:Int))]∧(k≤l.length)∧(to=numbI (l.take k))∧Blk w b5 3 (to.flatMap encI)∧Below w0.heap.size w0 w) (fun (s:Nat×(List Int))=>match s with|(k,to)=>l.length-k) (0,[0,0,0,0,0]) ?_ ?_
 ·exact ⟨hf.sub ⟨rfl,rfl,rfl,rfl,trivial⟩,(Nat.zero_le _),rfl,hB5,hW⟩
 rintro ⟨k,to⟩ a w2 ⟨hf,hk,hto,hB5,hW⟩
 have hlt:to.length=5:=by rw [hto,X5y]
 refine Zs hf fun _ hK9=>?_
 refine Ze (X1k rfl rfl) ?_
 refine Zt hK9 fun a hf=>?_
 refine wp_seq_k fun _ hK10=>?_
 refine Xi hf rfl (fun hc11=>?_) (fun hc11=>?_)
 ·have hc11b:=hc11
  have hc11:=of_decide_eq_true hc11
  obtain ⟨u12,hu12⟩:=Xx (l:=l) (k:=k) (by omega)
  have hb:=hq u12 (List.mem_of_getElem? hu12)
  refine wp_skip ?_
  refine hK10 _ _ ?_
  refine wp_seq_k fun _ hK13=>?_
  refine wp_block ?_
  refine Zs hf fun _ hK14=>?_
  refine Zm rfl ?_
  refine Zi (k:=k) (u:=u12) (enc:=encI) (l:=l) trivial rfl rfl X16 X2c X0z (hr_l.below' hW) hu12 rfl ?_;intro p16 hat15
  refine Ze (X0 rfl X5 hat15)<|Za rfl<|Za rfl ?_
  refine Zt hK14 fun a hf=>?_
  refine Zr hf ?_
  refine Zm rfl<|Zm rfl<|Zm rfl<|Ze (Xdk (k:=u12.toNat) (off:=u12.toNat*1) rfl rfl X16 X2c (by omega) (by omega) rfl) ?_
  refine Zo (Xdb (enc:=encI) (l:=to) (u:=(k:Int)) (k:=u12.toNat) rfl rfl X2c hB5 X0z X3h rfl (by omega)) ?_;rintro _ w3 ⟨ho,hb⟩
  have hold:=hB5
  replace hW:=Below.only hW ho hlo5
  clear hold
  have hB5:=hb
  clear hb ho
  refine Zn fun a hf=>?_
  refine Xf ?_
  refine hK13 _ _ ?_
  refine Zr hf ?_
  refine Ze (Xv rfl rfl (by omega) (by omega))<|Zm rfl ?_
  refine Zn fun a hf=>?_
  refine Xn ?_
  exact ⟨(k+1,(to.set (u12.toNat) (k:Int))),⟨hf.sub ⟨rfl,rfl,rfl,rfl,trivial⟩,(by omega),(by rw [X8s hu12,hto]),hB5,hW⟩,(by first|omega|(dsimp only;omega))⟩
 have hc11b:=hc11
 have hc11:=of_decide_eq_false hc11
 refine wp_exit ?_
 refine Xs ?_
 refine Xs ?_
 refine X0h ?_
 refine hK7 _ _ ?_
 refine Zs hf fun _ hK17=>?_
 refine Zm rfl<|Za rfl ?_
 refine Zt hK17 fun a hf=>?_
 refine wp_ret (X2 hf (Xo hf rfl rfl) ?_)
 have hmk:to.length=5:=hlt
 have hmkb:5≤maxLen:=by simp [maxLen]
 have hfin:numbI l=to:=by rw [hto,List.take_of_length_le (by omega)]
 rw [hfin]
 exact ⟨(some ⟨b5,0,none⟩),5,by rw [hmk],(Own.of_flat X0z hB5 hlo5 hmk hmkb),hW⟩
theorem F51(w0:World)(Al:Option Addr)(cl:Nat)(l:List Gt)(hr_l:Rd w0 w0.heap.size 24 encG Al l)(Ato:Option Addr)(cto:Nat)(to:List Int)(hr_to:Rd w0 w0.heap.size 3 encI Ato to)(L:Nat)(hq:∀ g ∈ l,(g.k≠12→0≤g.a∧g.a<(L:Int))∧(inR g.k 9 11=true→0≤g.b∧g.b<(L:Int)))(hto:to.length=L)(hln:l.length≤1000000) : Ret Tryz.prog 103 [.slice Al l.length cl,.slice Ato to.length cto] w0 (fun v w=>∃ A c,v=.slice A (mapI l to).length c∧Own w w0.heap.size 24 3 encG A c (mapI l to)∧Below w0.heap.size w0 w):=by
 refine enter Tryz.func103 rfl 39 rfl rfl ?_
 intro a hf
 have hW:Below w0.heap.size w0 w0:=Below.refl _ _
 refine Zs hf fun _ hK3=>?_
 refine Za rfl ?_
 refine Zt hK3 fun a hf=>?_
 refine Zs hf fun _ hK5=>?_
 refine Zf (X4 (k:=0) (vs:=[]) (zs:=[]) rfl Xd Xe rfl rfl) ?_;rintro _ w1 ⟨b6,rfl,hl6,hE,hB6⟩
 have hlo6:=Nat.le_trans hW.size hl6
 have haw1_6:=(hr_l.below' hW).away hl6
 replace hW:=btr hW hE
 refine Za rfl ?_
 refine Zt hK5 fun a hf=>?_
 refine wp_seq_k fun _ hK8=>?_
 refine Zs hf fun _ hK9=>?_
 refine Zm rfl<|Ze (X0v rfl Xd)<|Zm rfl ?_
 refine Zt hK9 fun a hf=>?_
 refine wp_block ?_
 refine X0j (σ:=Nat×(List Gt)) (fun (s:Nat×(List Gt)) (a:Act) (w:World)=>match s with|(k,m)=>∃ A10 c10,Fr a 39 [(1,.slice Ato to.length cto),(5,.slice A10 m.length c10),(9,.slice Al l.length cl),(10,vi (l.length:Int)),(11,vi (k:Int))]∧(k≤l.length)∧(m=(l.take k).map (mapG to))∧Own w w0.heap.size 24 3 encG A10 c10 m∧Below w0.heap.size w0 w) (fun (s:Nat×(List Gt))=>match s with|(k,m)=>l.length-k) (0,[]) ?_ ?_
 ·exact ⟨some ⟨b6,0,none⟩,0,hf.sub ⟨rfl,rfl,rfl,rfl,rfl,trivial⟩,(Nat.zero_le _),rfl,(Own.empty hB6 hlo6),hW⟩
 rintro ⟨k,m⟩ a w2 ⟨A10,c10,hf,hk,hm,ho10,hW⟩
 have hml:m.length=k:=by rw [hm,List.length_map,List.length_take,Nat.min_eq_left hk]
 refine Zs hf fun _ hK11=>?_
 refine Ze (X1k rfl rfl) ?_
 refine Zt hK11 fun a hf=>?_
 refine wp_seq_k fun _ hK12=>?_
 refine Xi hf rfl (fun hc13=>?_) (fun hc13=>?_)
 ·have hc13b:=hc13
  have hc13:=of_decide_eq_true hc13
  obtain ⟨u14,hu14⟩:=Xx (l:=l) (k:=k) (by omega)
  have hb:=hq u14 (List.mem_of_getElem? hu14)
  have hst:=Xbf (f:=mapG to) hu14
  refine wp_skip ?_
  refine hK12 _ _ ?_
  refine wp_seq_k fun _ hK15=>?_
  refine wp_block ?_
  refine Zs hf fun _ hK16=>?_
  refine Zi (k:=k) (u:=u14) (enc:=encG) (l:=l) trivial rfl rfl Xd X0a Xb (hr_l.below' hW) hu14 rfl ?_;intro p18 hat17
  refine Ze (Xj (l:=[vi u14.k,vi u14.a,vi u14.b]) rfl X08 hat17 rfl) ?_
  refine Zf (Xa (zs:=[vi 0,vi 0,vi 0]) X2l rfl) ?_;rintro _ w3 ⟨b19,rfl,hl19,hE,hB19⟩
  have hlo19:=Nat.le_trans hW.size hl19
  have haw10_19:=ho10.away hl19
  have haw1_19:=(hr_l.below' hW).away hl19
  replace ho10:=ho10.below hE
  replace hW:=btr hW hE
  refine Zo (Vw [vi u14.k,vi u14.a,vi u14.b] X0a hB19) ?_;rintro _ w4 ⟨ho,hb⟩
  have hold:=hB19
  replace ho10:=ho10.onlyA ho haw10_19
  replace hW:=Below.only hW ho hlo19
  clear hold
  have hB19:=hb
  clear hb ho
  refine Zt hK16 fun a hf=>?_
  refine wp_seq_k fun _ hK20=>?_
  refine Zs hf fun _ hK21=>?_
  refine Ze (Vd rfl X0g 0)<|Ze (X0 rfl X5 (hB19.at 0))<|Ze (X2z rfl rfl) ?_
  refine Zt hK21 fun a hf=>?_
  refine Xi hf rfl (fun hc22=>?_) (fun hc22=>?_)
  ·have hc22b:=hc22
   have h12:¬ u14.k=12:=by simpa using hc22
   have ha:=hb.1 h12
   refine Zr hf ?_
   refine Zm rfl<|Ze (Vd rfl X0t 1)<|Ze (X0 rfl X5 (hB19.at 1)) ?_
   refine Zi (k:=u14.a.toNat) (u:=(to.getD u14.a.toNat 0)) (enc:=encI) (l:=to) trivial rfl rfl X16 X2c X0z (hr_to.below' hW) (X5r (by omega)) (by omega) ?_;intro p24 hat23
   refine Ze (X0 rfl X5 hat23)<|Ze (Vd rfl X0t 1) ?_
   refine Zo (Vu (vs:=[vi (to.getD u14.a.toNat 0)]) (l':=[vi u14.k,vi (to.getD u14.a.toNat 0),vi u14.b]) rfl rfl X2c hB19) ?_;rintro _ w5 ⟨ho,hb⟩
   have hold:=hB19
   replace ho10:=ho10.onlyA ho haw10_19
   replace hW:=Below.only hW ho hlo19
   clear hold
   have hB19:=hb
   clear hb ho
   refine Zt hK20 fun a hf=>?_
   refine wp_seq_k fun _ hK25=>?_
   refine Zs hf fun _ hK26=>?_
   refine Ze (Vd rfl X0g 0)<|Ze (X0 rfl X5 (hB19.at 0)) ?_
   refine Zf (Vc (F99 _ u14.k) Xas) ?_;rintro _ _ ⟨rfl,rfl⟩
   refine Zt hK26 fun a hf=>?_
   refine Xi hf rfl (fun hc27=>?_) (fun hc27=>?_)
   ·have hc27b:=hc27
    have h9:inR u14.k 9 11=true:=hc27
    have hb2:=hb.2 h9
    have hmg:mapG to u14=⟨u14.k,to.getD u14.a.toNat 0,to.getD u14.b.toNat 0⟩:=by rw [mapG,if_neg h12,if_pos h9]
    refine Zr hf ?_
    refine Zm rfl<|Ze (Vd rfl X12 2)<|Ze (X0 rfl X5 (hB19.at 2)) ?_
    refine Zi (k:=u14.b.toNat) (u:=(to.getD u14.b.toNat 0)) (enc:=encI) (l:=to) trivial rfl rfl X16 X2c X0z (hr_to.below' hW) (X5r (by omega)) (by omega) ?_;intro p29 hat28
    refine Ze (X0 rfl X5 hat28)<|Ze (Vd rfl X12 2) ?_
    refine Zo (Vu (vs:=[vi (to.getD u14.b.toNat 0)]) (l':=[vi u14.k,vi (to.getD u14.a.toNat 0),vi (to.getD u14.b.toNat 0)]) rfl rfl X2c hB19) ?_;rintro _ w6 ⟨ho,hb⟩
    have hold:=hB19
    replace ho10:=ho10.onlyA ho haw10_19
    replace hW:=Below.only hW ho hlo19
    clear hold
    have hB19:=hb
    clear hb ho
    refine Zt hK25 fun a hf=>?_
    refine Zr hf ?_
    refine Zm rfl<|Ze (Vn X08 hB19) ?_
    refine Zf (X4 (k:=1) (vs:=[.agg #[vi u14.k,vi (to.getD u14.a.toNat 0),vi (to.getD u14.b.toNat 0)]]) (zs:=[vi u14.k,vi (to.getD u14.a.toNat 0),vi (to.getD u14.b.toNat 0)]) rfl Xd Xe rfl rfl) ?_;rintro _ w7 ⟨b30,rfl,hl30,hE,hB30⟩
    have hne19_30:b19≠b30:=by have:=hB19.lt;omega
    have hlo30:=Nat.le_trans hW.size hl30
    have haw10_30:=ho10.away hl30
    have haw1_30:=(hr_l.below' hW).away hl30
    replace hB19:=hB19.below hE
    replace ho10:=ho10.below hE
    replace hW:=btr hW hE
    refine Zf (X0f (enc:=encG) (l:=(m)) (l2:=([(⟨u14.k,(to.getD u14.a.toNat 0),(to.getD u14.b.toNat 0)⟩ : Gt)])) (B0:=w0.heap.size) rfl rfl Xd Xe Xb Xp ho10 (Rd.of_blk hB30 rfl _ hB30.lt) (by simp only [maxLen];simp;omega) (by simp;omega) hW.size) ?_;rintro _ w8 ⟨A32,c32,rfl,ho32,hg,hat⟩
    have hown:Own _ w0.heap.size 24 3 encG _ _ (m):=ho10
    have haw32_19:=hat _ hB19.lt haw10_19
    have haw32_30:=hat _ hB30.lt haw10_30
    clear hat
    replace hB19:=hB19.appA hg haw10_19
    replace hW:=Below.app hW hown hg (Nat.le_refl _) hW.size
    clear hown hg
    refine Za rfl ?_
    refine Zn fun a hf=>?_
    refine Xf ?_
    refine hK15 _ _ ?_
    refine Zr hf ?_
    refine Ze (Xv rfl rfl (by omega) (by omega))<|Zm rfl ?_
    refine Zn fun a hf=>?_
    rw [hmg] at hst
    refine Xn ?_
    exact ⟨(k+1,m++[(⟨u14.k,(to.getD u14.a.toNat 0),(to.getD u14.b.toNat 0)⟩ : Gt)]),⟨A32,c32,hf.sub ⟨rfl,rfl,rfl,rfl,rfl,trivial⟩,(by omega),(by rw [hst,hm]),ho32,hW⟩,(by first|omega|(dsimp only;omega))⟩
   have hc27b:=hc27
   have h9:¬ inR u14.k 9 11=true:=by rw [hc27];simp
   have hmg:mapG to u14=⟨u14.k,to.getD u14.a.toNat 0,u14.b⟩:=by rw [mapG,if_neg h12,if_neg h9]
   refine wp_skip ?_
   refine hK25 _ _ ?_
   refine Zr hf ?_
   refine Zm rfl<|Ze (Vn X08 hB19) ?_
   refine Zf (X4 (k:=1) (vs:=[.agg #[vi u14.k,vi (to.getD u14.a.toNat 0),vi u14.b]]) (zs:=[vi u14.k,vi (to.getD u14.a.toNat 0),vi u14.b]) rfl Xd Xe rfl rfl) ?_;rintro _ w9 ⟨b33,rfl,hl33,hE,hB33⟩
   have hne19_33:b19≠b33:=by have:=hB19.lt;omega
   have hlo33:=Nat.le_trans hW.size hl33
   have haw10_33:=ho10.away hl33
   have haw1_33:=(hr_l.below' hW).away hl33
   replace hB19:=hB19.below hE
   replace ho10:=ho10.below hE
   replace hW:=btr hW hE
   refine Zf (X0f (enc:=encG) (l:=(m)) (l2:=([(⟨u14.k,(to.getD u14.a.toNat 0),u14.b⟩ : Gt)])) (B0:=w0.heap.size) rfl rfl Xd Xe Xb Xp ho10 (Rd.of_blk hB33 rfl _ hB33.lt) (by simp only [maxLen];simp;omega) (by simp;omega) hW.size) ?_;rintro _ w10 ⟨A35,c35,rfl,ho35,hg,hat⟩
   have hown:Own _ w0.heap.size 24 3 encG _ _ (m):=ho10
   have haw35_19:=hat _ hB19.lt haw10_19
   have haw35_33:=hat _ hB33.lt haw10_33
   clear hat
   replace hB19:=hB19.appA hg haw10_19
   replace hW:=Below.app hW hown hg (Nat.le_refl _) hW.size
   clear hown hg
   refine Za rfl ?_
   refine Zn fun a hf=>?_
   refine Xf ?_
   refine hK15 _ _ ?_
   refine Zr hf ?_
   refine Ze (Xv rfl rfl (by omega) (by omega))<|Zm rfl ?_
   refine Zn fun a hf=>?_
   rw [hmg] at hst
   refine Xn ?_
   exact ⟨(k+1,m++[(⟨u14.k,(to.getD u14.a.toNat 0),u14.b⟩ : Gt)]),⟨A35,c35,hf.sub ⟨rfl,rfl,rfl,rfl,rfl,trivial⟩,(by omega),(by rw [hst,hm]),ho35,hW⟩,(by first|omega|(dsimp only;omega))⟩
  have hc22b:=hc22
  have h12:u14.k=12:=by simpa using hc22
  refine wp_skip ?_
  refine hK20 _ _ ?_
  refine wp_seq_k fun _ hK36=>?_
  refine Zs hf fun _ hK37=>?_
  refine Ze (Vd rfl X0g 0)<|Ze (X0 rfl X5 (hB19.at 0)) ?_
  refine Zf (Vc (F99 _ u14.k) Xas) ?_;rintro _ _ ⟨rfl,rfl⟩
  refine Zt hK37 fun a hf=>?_
  refine Xi hf rfl (fun hc38=>?_) (fun hc38=>?_)
  ·have hc38b:=hc38
   exact absurd (X02.1 hc38) (by omega)
  have hc38b:=hc38
  have h9:¬ inR u14.k 9 11=true:=by rw [hc38];simp
  have hmg:mapG to u14=u14:=by rw [mapG,if_pos h12,if_neg h9]
  refine wp_skip ?_
  refine hK36 _ _ ?_
  refine Zr hf ?_
  refine Zm rfl<|Ze (Vn X08 hB19) ?_
  refine Zf (X4 (k:=1) (vs:=[.agg #[vi u14.k,vi u14.a,vi u14.b]]) (zs:=[vi u14.k,vi u14.a,vi u14.b]) rfl Xd Xe rfl rfl) ?_;rintro _ w11 ⟨b39,rfl,hl39,hE,hB39⟩
  have hne19_39:b19≠b39:=by have:=hB19.lt;omega
  have hlo39:=Nat.le_trans hW.size hl39
  have haw10_39:=ho10.away hl39
  have haw1_39:=(hr_l.below' hW).away hl39
  replace hB19:=hB19.below hE
  replace ho10:=ho10.below hE
  replace hW:=btr hW hE
  refine Zf (X0f (enc:=encG) (l:=(m)) (l2:=([u14])) (B0:=w0.heap.size) rfl rfl Xd Xe Xb Xp ho10 (Rd.of_blk hB39 rfl _ hB39.lt) (by simp only [maxLen];simp;omega) (by simp;omega) hW.size) ?_;rintro _ w12 ⟨A41,c41,rfl,ho41,hg,hat⟩
  have hown:Own _ w0.heap.size 24 3 encG _ _ (m):=ho10
  have haw41_19:=hat _ hB19.lt haw10_19
  have haw41_39:=hat _ hB39.lt haw10_39
  clear hat
  replace hB19:=hB19.appA hg haw10_19
  replace hW:=Below.app hW hown hg (Nat.le_refl _) hW.size
  clear hown hg
  refine Za rfl ?_
  refine Zn fun a hf=>?_
  refine Xf ?_
  refine hK15 _ _ ?_
  refine Zr hf ?_
  refine Ze (Xv rfl rfl (by omega) (by omega))<|Zm rfl ?_
  refine Zn fun a hf=>?_
  rw [hmg] at hst
  refine Xn ?_
  exact ⟨(k+1,m++[u14]),⟨A41,c41,hf.sub ⟨rfl,rfl,rfl,rfl,rfl,trivial⟩,(by omega),(by rw [hst,hm]),ho41,hW⟩,(by first|omega|(dsimp only;omega))⟩
 have hc13b:=hc13
 have hc13:=of_decide_eq_false hc13
 refine wp_exit ?_
 refine Xs ?_
 refine Xs ?_
 refine X0h ?_
 refine hK8 _ _ ?_
 refine Zs hf fun _ hK42=>?_
 refine Zm rfl<|Za rfl ?_
 refine Zt hK42 fun a hf=>?_
 refine wp_ret (X2 hf (Xo hf rfl rfl) ?_)
 have hfin:mapI l to=m:=by rw [hm,List.take_of_length_le (by omega)];rfl
 rw [hfin]
 exact ⟨A10,c10,rfl,ho10,hW⟩
theorem F46(w0:World)(n:Int)(r:Rp)(Ar:Option Addr)(cr:Nat)(hr_r:Rd w0 w0.heap.size 24 encG Ar r.old)(Br:Option Addr)(dr:Nat)(hs_r:Rd w0 w0.heap.size 24 encG Br r.new)(hla:r.old.length≤2305843009213693951)(hlb:r.new.length≤2305843009213693951) : Ret Tryz.prog 98 [vi n,.agg #[vi r.pos,.slice Ar r.old.length cr,.slice Br r.new.length dr]] w0 (fun v w=>v=.bool (vrI n r)∧Below w0.heap.size w0 w):=by
 refine enter Tryz.func98 rfl 36 rfl rfl ?_
 intro a hf
 have hW:Below w0.heap.size w0 w0:=Below.refl _ _
 refine Zs hf fun _ hK3=>?_
 refine Zf (X0p (zs:=[vi r.pos,.slice Ar r.old.length cr,.slice Br r.new.length dr]) rfl rfl) ?_;rintro _ w1 ⟨b4,rfl,hl4,hE,hB4⟩
 have hlo4:=Nat.le_trans hW.size hl4
 replace hW:=btr hW hE
 refine Za rfl ?_
 refine Zt hK3 fun a hf=>?_
 refine wp_seq_k fun _ hK5=>?_
 refine X09 (fun a w=>Fr a 36 [(4,.bool ((((((inR n 1 5)&&(inR r.pos 0 400))&&(decide ((r.old.length:Int)≤40)))&&(decide ((r.new.length:Int)≤40)))&&(!(r.old.any fun x=>!gOk n x)))&&(!(r.new.any fun x=>!gOk n x))))]∧Below w1.heap.size w1 w) ?_ ?_
 ·have hEc:Below w1.heap.size w1 w1:=Below.refl _ _
  refine Zr hf ?_
  refine Zm rfl ?_
  refine Zf (Vc (F91 _ n 1 5) X39) ?_;rintro _ _ ⟨rfl,rfl⟩
  refine Zm rfl ?_
  refine Zg 7 rfl (fun hg6=>?_) (fun hg6=>?_)
  ·refine Zv ⟨_,_,rfl,rfl,hg6⟩ (Vd rfl X27 0) ?_
   refine Zv ⟨_,_,rfl,rfl,hg6⟩ (X0 rfl X5 (hB4.at 0)) ?_
   refine Zk ⟨_,_,rfl,rfl,hg6⟩ (Vc (F91 _ r.pos 0 400) X39) ?_;rintro _ _ ⟨rfl,rfl⟩
   refine Ze (Xc rfl hg6 rfl)<|Zm rfl ?_
   refine Zg 12 rfl (fun hg7=>?_) (fun hg7=>?_)
   ·refine Zv ⟨_,_,rfl,rfl,hg7⟩ (Vd rfl X1s 1) ?_
    refine Zv ⟨_,_,rfl,rfl,hg7⟩ (X0 rfl X06 (hB4.at 1)) ?_
    refine Zv ⟨_,_,rfl,rfl,hg7⟩ (X0v rfl Xd) ?_
    refine Zv ⟨_,_,rfl,rfl,hg7⟩ (X64 rfl rfl) ?_
    refine Ze (Xc rfl hg7 rfl)<|Zm rfl ?_
    refine Zg 18 rfl (fun hg8=>?_) (fun hg8=>?_)
    ·refine Zv ⟨_,_,rfl,rfl,hg8⟩ (Vd rfl X1m 2) ?_
     refine Zv ⟨_,_,rfl,rfl,hg8⟩ (X0 rfl X06 (hB4.at 2)) ?_
     refine Zv ⟨_,_,rfl,rfl,hg8⟩ (X0v rfl Xd) ?_
     refine Zv ⟨_,_,rfl,rfl,hg8⟩ (X64 rfl rfl) ?_
     refine Ze (Xc rfl hg8 rfl)<|Zm rfl ?_
     refine Zg 24 rfl (fun hg9=>?_) (fun hg9=>?_)
     ·refine Zv ⟨_,_,rfl,rfl,hg9⟩ (X9 rfl) ?_
      refine Zv ⟨_,_,rfl,rfl,hg9⟩ (Vd rfl X1s 1) ?_
      refine Zv ⟨_,_,rfl,rfl,hg9⟩ (X0 rfl X06 (hB4.at 1)) ?_
      refine Zk ⟨_,_,rfl,rfl,hg9⟩ (Vc (F92 _ n Ar cr r.old (hr_r.below' hW).top hla) Xiv) ?_;rintro _ w2 ⟨rfl,hE⟩
      replace hB4:=hB4.below hE
      replace hW:=btr hW hE
      replace hEc:=btr hEc hE
      refine Ze (Xc rfl hg9 rfl)<|Zm rfl ?_
      refine Zg 30 rfl (fun hg10=>?_) (fun hg10=>?_)
      ·refine Zv ⟨_,_,rfl,rfl,hg10⟩ (X9 rfl) ?_
       refine Zv ⟨_,_,rfl,rfl,hg10⟩ (Vd rfl X1m 2) ?_
       refine Zv ⟨_,_,rfl,rfl,hg10⟩ (X0 rfl X06 (hB4.at 2)) ?_
       refine Zk ⟨_,_,rfl,rfl,hg10⟩ (Vc (F92 _ n Br dr r.new (hs_r.below' hW).top hlb) Xiv) ?_;rintro _ w3 ⟨rfl,hE⟩
       replace hB4:=hB4.below hE
       replace hW:=btr hW hE
       replace hEc:=btr hEc hE
       refine Ze (Xc rfl hg10 rfl)<|Za rfl ?_
       refine Zn fun a hf=>?_
       have hEE:Below w1.heap.size w1 w3:=hEc
       exact ⟨hf.sub ⟨X1 rfl (by first|rfl|(simp only [hg6,hg7,hg8,hg9,hg10,bs];done)|simp [hg6,hg7,hg8,hg9,hg10]),trivial⟩,hEE⟩
      refine Zp ⟨_,_,rfl,rfl,hg10⟩ ?_
      refine Zp ⟨_,_,rfl,rfl,hg10⟩ ?_
      refine Zp ⟨_,_,rfl,rfl,hg10⟩ ?_
      refine Zp ⟨_,_,rfl,rfl,hg10⟩ ?_
      refine Ze (X7 rfl hg10 rfl)<|Za rfl ?_
      refine Zn fun a hf=>?_
      have hEE:Below w1.heap.size w1 w2:=hEc
      exact ⟨hf.sub ⟨X1 rfl (by first|rfl|(simp only [hg6,hg7,hg8,hg9,hg10,bs];done)|simp [hg6,hg7,hg8,hg9,hg10]),trivial⟩,hEE⟩
     refine Zp ⟨_,_,rfl,rfl,hg9⟩ ?_
     refine Zp ⟨_,_,rfl,rfl,hg9⟩ ?_
     refine Zp ⟨_,_,rfl,rfl,hg9⟩ ?_
     refine Zp ⟨_,_,rfl,rfl,hg9⟩ ?_
     refine Ze (X7 rfl hg9 rfl)<|Zm rfl<|Zp ⟨_,_,rfl,rfl,rfl⟩ ?_
     refine Zp ⟨_,_,rfl,rfl,rfl⟩ ?_
     refine Zp ⟨_,_,rfl,rfl,rfl⟩ ?_
     refine Zp ⟨_,_,rfl,rfl,rfl⟩ ?_
     refine Ze (X7 rfl rfl rfl)<|Za rfl ?_
     refine Zn fun a hf=>?_
     have hEE:Below w1.heap.size w1 w1:=hEc
     exact ⟨hf.sub ⟨X1 rfl (by first|rfl|(simp only [hg6,hg7,hg8,hg9,bs];done)|simp [hg6,hg7,hg8,hg9]),trivial⟩,hEE⟩
    refine Zp ⟨_,_,rfl,rfl,hg8⟩ ?_
    refine Zp ⟨_,_,rfl,rfl,hg8⟩ ?_
    refine Zp ⟨_,_,rfl,rfl,hg8⟩ ?_
    refine Zp ⟨_,_,rfl,rfl,hg8⟩ ?_
    refine Ze (X7 rfl hg8 rfl)<|Zm rfl<|Zp ⟨_,_,rfl,rfl,rfl⟩ ?_
    refine Zp ⟨_,_,rfl,rfl,rfl⟩ ?_
    refine Zp ⟨_,_,rfl,rfl,rfl⟩ ?_
    refine Zp ⟨_,_,rfl,rfl,rfl⟩ ?_
    refine Ze (X7 rfl rfl rfl)<|Zm rfl<|Zp ⟨_,_,rfl,rfl,rfl⟩ ?_
    refine Zp ⟨_,_,rfl,rfl,rfl⟩ ?_
    refine Zp ⟨_,_,rfl,rfl,rfl⟩ ?_
    refine Zp ⟨_,_,rfl,rfl,rfl⟩ ?_
    refine Ze (X7 rfl rfl rfl)<|Za rfl ?_
    refine Zn fun a hf=>?_
    have hEE:Below w1.heap.size w1 w1:=hEc
    exact ⟨hf.sub ⟨X1 rfl (by first|rfl|(simp only [hg6,hg7,hg8,bs];done)|simp [hg6,hg7,hg8]),trivial⟩,hEE⟩
   refine Zp ⟨_,_,rfl,rfl,hg7⟩ ?_
   refine Zp ⟨_,_,rfl,rfl,hg7⟩ ?_
   refine Zp ⟨_,_,rfl,rfl,hg7⟩ ?_
   refine Zp ⟨_,_,rfl,rfl,hg7⟩ ?_
   refine Ze (X7 rfl hg7 rfl)<|Zm rfl<|Zp ⟨_,_,rfl,rfl,rfl⟩ ?_
   refine Zp ⟨_,_,rfl,rfl,rfl⟩ ?_
   refine Zp ⟨_,_,rfl,rfl,rfl⟩ ?_
   refine Zp ⟨_,_,rfl,rfl,rfl⟩ ?_
   refine Ze (X7 rfl rfl rfl)<|Zm rfl<|Zp ⟨_,_,rfl,rfl,rfl⟩ ?_
   refine Zp ⟨_,_,rfl,rfl,rfl⟩ ?_
   refine Zp ⟨_,_,rfl,rfl,rfl⟩ ?_
   refine Zp ⟨_,_,rfl,rfl,rfl⟩ ?_
   refine Ze (X7 rfl rfl rfl)<|Zm rfl<|Zp ⟨_,_,rfl,rfl,rfl⟩ ?_
   refine Zp ⟨_,_,rfl,rfl,rfl⟩ ?_
   refine Zp ⟨_,_,rfl,rfl,rfl⟩ ?_
   refine Zp ⟨_,_,rfl,rfl,rfl⟩ ?_
   refine Ze (X7 rfl rfl rfl)<|Za rfl ?_
   refine Zn fun a hf=>?_
   have hEE:Below w1.heap.size w1 w1:=hEc
   exact ⟨hf.sub ⟨X1 rfl (by first|rfl|(simp only [hg6,hg7,bs];done)|simp [hg6,hg7]),trivial⟩,hEE⟩
  refine Zp ⟨_,_,rfl,rfl,hg6⟩ ?_
  refine Zp ⟨_,_,rfl,rfl,hg6⟩ ?_
  refine Zp ⟨_,_,rfl,rfl,hg6⟩ ?_
  refine Ze (X7 rfl hg6 rfl)<|Zm rfl<|Zp ⟨_,_,rfl,rfl,rfl⟩ ?_
  refine Zp ⟨_,_,rfl,rfl,rfl⟩ ?_
  refine Zp ⟨_,_,rfl,rfl,rfl⟩ ?_
  refine Zp ⟨_,_,rfl,rfl,rfl⟩ ?_
  refine Ze (X7 rfl rfl rfl)<|Zm rfl<|Zp ⟨_,_,rfl,rfl,rfl⟩ ?_
  refine Zp ⟨_,_,rfl,rfl,rfl⟩ ?_
  refine Zp ⟨_,_,rfl,rfl,rfl⟩ ?_
  refine Zp ⟨_,_,rfl,rfl,rfl⟩ ?_
  refine Ze (X7 rfl rfl rfl)<|Zm rfl<|Zp ⟨_,_,rfl,rfl,rfl⟩ ?_
  refine Zp ⟨_,_,rfl,rfl,rfl⟩ ?_
  refine Zp ⟨_,_,rfl,rfl,rfl⟩ ?_
  refine Zp ⟨_,_,rfl,rfl,rfl⟩ ?_
  refine Ze (X7 rfl rfl rfl)<|Zm rfl<|Zp ⟨_,_,rfl,rfl,rfl⟩ ?_
  refine Zp ⟨_,_,rfl,rfl,rfl⟩ ?_
  refine Zp ⟨_,_,rfl,rfl,rfl⟩ ?_
  refine Zp ⟨_,_,rfl,rfl,rfl⟩ ?_
  refine Ze (X7 rfl rfl rfl)<|Za rfl ?_
  refine Zn fun a hf=>?_
  have hEE:Below w1.heap.size w1 w1:=hEc
  exact ⟨hf.sub ⟨X1 rfl (by first|rfl|(simp only [hg6,bs];done)|simp [hg6]),trivial⟩,hEE⟩
 rintro a w4 ⟨hf,hE⟩
 replace hB4:=hB4.below hE
 replace hW:=btr hW hE
 refine hK5 _ _ ?_
 refine wp_ret (X2 hf (Xo hf rfl rfl) ?_)
 exact ⟨by simp only [vrI],hW⟩
end Go.Proofs.YtlfjcmldfbfdbaaGreat
set_option maxRecDepth 4000
namespace Go.Proofs.YtlfjcmldfbfdbaaGreat
open Go.RowKit
theorem Xo0(w0:World)(c:Cx)(Ac:Option Addr)(cc:Nat)(hr_c:Rd w0 w0.heap.size 24 encG Ac c.gs)(m:Mx)(Am:Option Addr)(cm:Nat)(hr_m:Rd w0 w0.heap.size 98 encD Am m.cells)(hc:cOk c=true)(hm:mOk m=true)(hr:m.rows=((2^c.n.toNat:Nat) : Int)) : Ret Tryz.prog 168 [.agg #[vi c.n,.slice Ac c.gs.length cc],.agg #[vi m.rows,vi m.cols,.slice Am m.cells.length cm],.bool true] w0 (fun v w=>∃ A c1,v=.tuple #[mV A c1 ((applI c.n c.gs m).getD mZ),.bool (applI c.n c.gs m).isSome]∧Rd w w.heap.size 98 encD A ((applI c.n c.gs m).getD mZ).cells∧Below w0.heap.size w0 w):=by
 obtain ⟨hn,hlen,hgs⟩:=X20 hc
 refine enter Tryz.func168 rfl 40 rfl rfl ?_
 intro a hf
 have hW:Below w0.heap.size w0 w0:=Below.refl _ _
 refine Zs hf fun _ hK3=>?_
 refine Zf (X0p (zs:=[vi c.n,.slice Ac c.gs.length cc]) rfl rfl) ?_;rintro _ w1 ⟨b4,rfl,hl4,hE,hB4⟩
 have hlo4:=Nat.le_trans hW.size hl4
 replace hW:=btr hW hE
 refine Zf (X0p (zs:=[vi m.rows,vi m.cols,.slice Am m.cells.length cm]) rfl rfl) ?_;rintro _ w2 ⟨b5,rfl,hl5,hE,hB5⟩
 have hlo5:=Nat.le_trans hW.size hl5
 replace hB4:=hB4.below hE
 replace hW:=btr hW hE
 refine Zf (Xa (zs:=[vi 0,vi 0,.slice none 0 0]) X1y rfl) ?_;rintro _ w3 ⟨b7,rfl,hl7,hE,hB7⟩
 have hne5_7:b5≠b7:=by have:=hB5.lt;omega
 have hlo7:=Nat.le_trans hW.size hl7
 replace hB4:=hB4.below hE
 replace hB5:=hB5.below hE
 replace hW:=btr hW hE
 refine Za rfl ?_
 refine Zt hK3 fun a hf=>?_
 refine wp_seq_k fun _ hK8=>?_
 refine Zs hf fun _ hK9=>?_
 refine Za rfl ?_
 refine Zt hK9 fun a hf=>?_
 refine wp_block ?_
 refine X0j (σ:=Nat×Mx×Bool) (fun (s:Nat×Mx×Bool) (a:Act) (w:World)=>match s with|(i,x,b)=>∃ A10 c10,Fr a 40 [(2,.bool b),(3,.pointer (some ⟨b4,0,none⟩)),(4,.pointer (some ⟨b5,0,none⟩)),(6,.pointer (some ⟨b7,0,none⟩)),(8,vi (i:Int))]∧((if b=true then applI c.n (c.gs.drop i) x else none)=(applI c.n c.gs m))∧(b=false→x=mZ)∧(b=true→mOk x=true∧x.rows=((2^c.n.toNat:Nat) : Int))∧(i≤c.gs.length)∧Blk w b4 31 [vi c.n,.slice Ac c.gs.length cc]∧Blk w b5 38 [vi x.rows,vi x.cols,.slice A10 x.cells.length c10]∧Blk w b7 38 [vi 0,vi 0,.slice none 0 0]∧Rd w w.heap.size 98 encD A10 x.cells∧Below w0.heap.size w0 w) (fun (s:Nat×Mx×Bool)=>match s with|(i,x,b)=>c.gs.length-i) (0,m,true) ?_ ?_
 ·exact ⟨Am,cm,hf.sub ⟨rfl,rfl,rfl,rfl,rfl,trivial⟩,rfl,(by simp),(fun _=>⟨hm,hr⟩),(Nat.zero_le _),hB4,hB5,hB7,(hr_m.below' hW).top,hW⟩
 rintro ⟨i,x,b⟩ a w4 ⟨A10,c10,hf,hinv,hz,hok,hi,hB4,hB5,hB7,hr10,hW⟩
 refine wp_seq_k fun _ hK11=>?_
 refine wp_seq_k fun _ hK12=>?_
 refine X09 (fun a w=>Fr a 40 [(2,.bool b),(3,.pointer (some ⟨b4,0,none⟩)),(4,.pointer (some ⟨b5,0,none⟩)),(6,.pointer (some ⟨b7,0,none⟩)),(8,vi (i:Int)),(18,.bool ((decide ((i:Int)<(c.gs.length:Int)))&&b))]∧w4=w) ?_ ?_
 ·refine Zr hf ?_
  refine Zm rfl<|Ze (Vd rfl Xw 1)<|Ze (X0 rfl X06 (hB4.at 1))<|Ze (X0v rfl Xd)<|Ze (X1k rfl rfl) ?_
  refine Zm rfl ?_
  refine Zg 16 rfl (fun hg13=>?_) (fun hg13=>?_)
  ·refine Zv ⟨_,_,rfl,rfl,hg13⟩ (X9 rfl) ?_
   refine Ze (Xc rfl hg13 rfl) ?_
   refine Zn fun a hf=>?_
   exact ⟨hf.sub ⟨rfl,rfl,rfl,rfl,rfl,X1 rfl (by first|rfl|(simp only [hg13,bs];done)|simp [hg13]),trivial⟩,rfl⟩
  refine Zp ⟨_,_,rfl,rfl,hg13⟩ ?_
  refine Ze (X7 rfl hg13 rfl) ?_
  refine Zn fun a hf=>?_
  exact ⟨hf.sub ⟨rfl,rfl,rfl,rfl,rfl,X1 rfl (by first|rfl|(simp only [hg13,bs];done)|simp [hg13]),trivial⟩,rfl⟩
 rintro a _ ⟨hf,rfl⟩
 refine hK12 _ _ ?_
 refine Xi hf rfl (fun hc14=>?_) (fun hc14=>?_)
 ·have hc14b:=hc14
  have hlt:(i:Int)<c.gs.length∧b=true:=by simpa using hc14
  have hb1:=hlt.2
  obtain ⟨u,hu⟩:=Xx (l:=c.gs) (k:=i) (by omega)
  have hgu:=hgs u (List.mem_of_getElem? hu)
  obtain ⟨hg1,hg2⟩:=X69 hgu
  have hma:=X6j hg2 (hok hb1).1 (by rw [(hok hb1).2];rfl)
  have hdr:=X4d hu
  refine wp_skip ?_
  refine hK11 _ _ ?_
  refine wp_seq_k fun _ hK15=>?_
  refine wp_block ?_
  refine wp_seq_k fun _ hK16=>?_
  refine X09 (fun a w=>∃ b21 A19 c19,Fr a 40 [(3,.pointer (some ⟨b4,0,none⟩)),(4,.pointer (some ⟨b5,0,none⟩)),(6,.pointer (some ⟨b7,0,none⟩)),(8,vi (i:Int)),(9,.pointer (some ⟨b21,0,none⟩))]∧w0.heap.size≤b21∧Blk w b21 38 [vi (((gateI c.n u).getD mZ).rows),vi (((gateI c.n u).getD mZ).cols),.slice A19 (((gateI c.n u).getD mZ).cells).length c19]∧b5≠b21∧b7≠b21∧Own w w0.heap.size 98 5 encD A19 c19 (((gateI c.n u).getD mZ).cells)∧Below w4.heap.size w4 w) ?_ ?_
  ·have hEc:Below w4.heap.size w4 w4:=Below.refl _ _
   refine Xu none (fun j=>[12].contains j) mixed ?_
   intro w5 hE
   replace hB4:=hB4.below hE
   replace hB5:=hB5.below hE
   replace hB7:=hB7.below hE
   replace hr10:=hr10.below hE
   replace hW:=btr hW hE
   replace hEc:=btr hEc hE
   refine Yb hf ?_
   refine Yo 0 rfl (fun _=>Vd rfl X1b 0)<|Ye 1 rfl (X0 rfl X5 (hB4.at 0))<|Yo 2 rfl (fun _=>Vd rfl Xw 1)<|Ye 3 rfl (X0 rfl X06 (hB4.at 1))<|Yo 4 rfl (fun _=>X9 rfl) ?_
   refine Yi (k:=i) (u:=u) (enc:=encG) (l:=c.gs) 5 rfl trivial rfl rfl Xd X0a Xb (hr_c.below' hW) hu rfl ?_;intro p18 hat17
   refine Ye 6 rfl (Xj (l:=[vi u.k,vi u.a,vi u.b]) rfl X08 hat17 rfl) ?_
   have hJc:Below w5.heap.size w5 w5:=Below.refl _ _
   refine Yc [0,1,2,3,4,5,6,7,8,9,10,11] 2 (fun a w=>∃ b21 A19 c19,Fr a 40 [(3,.pointer (some ⟨b4,0,none⟩)),(4,.pointer (some ⟨b5,0,none⟩)),(6,.pointer (some ⟨b7,0,none⟩)),(8,vi (i:Int)),(9,.pointer (some ⟨b21,0,none⟩)),(30,.agg #[vi (((gateI c.n u).getD mZ).rows),vi (((gateI c.n u).getD mZ).cols),.slice A19 (((gateI c.n u).getD mZ).cells).length c19]),(31,.bool ((gateI c.n u).isSome))]∧w0.heap.size≤b21∧Blk w b21 38 [vi 0,vi 0,.slice none 0 0]∧b5≠b21∧b7≠b21∧w5.heap.size≤b21∧w4.heap.size≤b21∧Own w w0.heap.size 98 5 encD A19 c19 (((gateI c.n u).getD mZ).cells)∧Below w5.heap.size w5 w) ?_ ?_
   ·rintro a w6 ⟨b21,A19,c19,hf,hlo21,hB21,hne5_21,hne7_21,hlj21,hlc21,ho19,hE⟩
    clear hJc
    have hJc:=hE
    replace hB4:=hB4.below hE
    replace hB5:=hB5.below hE
    replace hB7:=hB7.below hE
    replace hr10:=hr10.below hE
    replace hW:=btr hW hE
    replace hEc:=btr hEc hE
    refine Yb hf ?_
    refine Y1 12 ?_
    refine Yh rfl trivial rfl (Vw [vi (((gateI c.n u).getD mZ).rows),vi (((gateI c.n u).getD mZ).cols),.slice A19 (((gateI c.n u).getD mZ).cells).length c19] X18 hB21) ?_;rintro _ w7 ⟨ho,hb⟩
    have hold:=hB21
    replace hB4:=hB4.only ho (Blk.ne hB4 hold rfl)
    replace hB5:=hB5.only ho (by omega)
    replace hB7:=hB7.only ho (by omega)
    replace hr10:=hr10.onlyT ho hold rfl
    replace ho19:=ho19.onlyT ho hold rfl
    replace hEc:=Below.only hEc ho hlc21
    replace hJc:=Below.only hJc ho hlj21
    replace hW:=Below.only hW ho hlo21
    clear hold
    have hB21:=hb
    clear hb ho
    refine Yo 13 rfl (fun _=>X0x rfl) ?_
    refine Yd fun a hf=>?_
    have hEE:Below w4.heap.size w4 w7:=hEc
    exact ⟨b21,A19,c19,hf.sub ⟨rfl,rfl,rfl,rfl,rfl,trivial⟩,hlo21,hB21,hne5_21,hne7_21,ho19,hEE⟩
   intro hJ19
   refine Y2 7 11 ?_ ?_
   ·refine Yk rfl trivial (Vc (Xnj _ c.n u) Xgb) (fun _ _ ⟨A21,c21,_,ho21,hE⟩=>hE) ?_;rintro _ w8 ⟨A21,c21,rfl,ho21,hE⟩
    replace ho21:=ho21.lower hW.size
    replace hB4:=hB4.below hE
    replace hB5:=hB5.below hE
    replace hB7:=hB7.below hE
    replace hr10:=hr10.below hE
    replace hW:=btr hW hE
    replace hEc:=btr hEc hE
    replace hJc:=btr hJc hE
    refine Yo 8 rfl (fun _=>X9 rfl)<|Yo 9 rfl (fun _=>X3 (vs:=[.agg #[vi (((gateI c.n u).getD mZ).rows),vi (((gateI c.n u).getD mZ).cols),.slice A21 (((gateI c.n u).getD mZ).cells).length c21],.bool ((gateI c.n u).isSome)]) rfl rfl)<|Yo 10 rfl (fun _=>X3 (vs:=[.agg #[vi (((gateI c.n u).getD mZ).rows),vi (((gateI c.n u).getD mZ).cols),.slice A21 (((gateI c.n u).getD mZ).cells).length c21],.bool ((gateI c.n u).isSome)]) rfl rfl) ?_
    refine Y1 11 ?_
    refine Yk rfl trivial (Xa (zs:=[vi 0,vi 0,.slice none 0 0]) X1y rfl) (fun _ _ ⟨_,_,_,h,_⟩=>h) ?_;rintro _ w9 ⟨b23,rfl,hl23,hE,hB23⟩
    have hne5_23:b5≠b23:=by have:=hB5.lt;omega
    have hne7_23:b7≠b23:=by have:=hB7.lt;omega
    have hlo23:=Nat.le_trans hW.size hl23
    have hlc23:=Nat.le_trans hEc.size hl23
    have hlj23:=Nat.le_trans hJc.size hl23
    replace hB4:=hB4.below hE
    replace hB5:=hB5.below hE
    replace hB7:=hB7.below hE
    replace hr10:=hr10.below hE
    replace ho21:=ho21.below hE
    replace hW:=btr hW hE
    replace hEc:=btr hEc hE
    replace hJc:=btr hJc hE
    exact fun a hf=>hJ19 _ a _ rfl ⟨b23,A21,c21,hf.sub ⟨rfl,rfl,rfl,rfl,rfl,rfl,rfl,trivial⟩,hlo23,hB23,hne5_23,hne7_23,hlj23,hlc23,ho21,hJc⟩
   refine Yk rfl trivial (Xa (zs:=[vi 0,vi 0,.slice none 0 0]) X1y rfl) (fun _ _ ⟨_,_,_,h,_⟩=>h) ?_;rintro _ w10 ⟨b25,rfl,hl25,hE,hB25⟩
   have hne5_25:b5≠b25:=by have:=hB5.lt;omega
   have hne7_25:b7≠b25:=by have:=hB7.lt;omega
   have hlo25:=Nat.le_trans hW.size hl25
   have hlc25:=Nat.le_trans hEc.size hl25
   have hlj25:=Nat.le_trans hJc.size hl25
   replace hB4:=hB4.below hE
   replace hB5:=hB5.below hE
   replace hB7:=hB7.below hE
   replace hr10:=hr10.below hE
   replace hW:=btr hW hE
   replace hEc:=btr hEc hE
   replace hJc:=btr hJc hE
   refine Y1 7 ?_
   refine Yk rfl trivial (Vc (Xnj _ c.n u) Xgb) (fun _ _ ⟨A26,c26,_,ho26,hE⟩=>hE) ?_;rintro _ w11 ⟨A26,c26,rfl,ho26,hE⟩
   replace ho26:=ho26.lower hW.size
   replace hB4:=hB4.below hE
   replace hB5:=hB5.below hE
   replace hB7:=hB7.below hE
   replace hB25:=hB25.below hE
   replace hr10:=hr10.below hE
   replace hW:=btr hW hE
   replace hEc:=btr hEc hE
   replace hJc:=btr hJc hE
   refine Yo 8 rfl (fun _=>X9 rfl)<|Yo 9 rfl (fun _=>X3 (vs:=[.agg #[vi (((gateI c.n u).getD mZ).rows),vi (((gateI c.n u).getD mZ).cols),.slice A26 (((gateI c.n u).getD mZ).cells).length c26],.bool ((gateI c.n u).isSome)]) rfl rfl)<|Yo 10 rfl (fun _=>X3 (vs:=[.agg #[vi (((gateI c.n u).getD mZ).rows),vi (((gateI c.n u).getD mZ).cols),.slice A26 (((gateI c.n u).getD mZ).cells).length c26],.bool ((gateI c.n u).isSome)]) rfl rfl) ?_
   exact fun a hf=>hJ19 _ a _ rfl ⟨b25,A26,c26,hf.sub ⟨rfl,rfl,rfl,rfl,rfl,rfl,rfl,trivial⟩,hlo25,hB25,hne5_25,hne7_25,hlj25,hlc25,ho26,hJc⟩
  rintro a w12 ⟨b21,A19,c19,hf,hlo21,hB21,hne5_21,hne7_21,ho19,hE⟩
  replace hB4:=hB4.below hE
  replace hB5:=hB5.below hE
  replace hB7:=hB7.below hE
  replace hr10:=hr10.below hE
  replace hW:=btr hW hE
  refine hK16 _ _ ?_
  refine Zr hf ?_
  refine Ze (Vn X0q hB21)<|Ze (Vn X0q hB5) ?_
  refine Zf (Vc (Xpg _ ((gateI c.n u).getD mZ) A19 c19 ho19.rd.top x A10 c10 hr10.top (by rw [hg1,Option.getD_some];exact Xg2 hn) (Xf8 (hok hb1).1)) Xle) ?_;rintro _ w13 ⟨A27,c27,rfl,ho27,hE⟩
  replace ho27:=ho27.lower hW.size
  replace hB4:=hB4.below hE
  replace hB5:=hB5.below hE
  replace hB7:=hB7.below hE
  replace hB21:=hB21.below hE
  replace hr10:=hr10.below hE
  replace ho19:=ho19.below hE
  replace hW:=btr hW hE
  refine Zm rfl<|Ze (X3 (vs:=[.agg #[vi (((mulI ((gateI c.n u).getD mZ) x).getD mZ).rows),vi (((mulI ((gateI c.n u).getD mZ) x).getD mZ).cols),.slice A27 (((mulI ((gateI c.n u).getD mZ) x).getD mZ).cells).length c27],.bool ((mulI ((gateI c.n u).getD mZ) x).isSome)]) rfl rfl)<|Ze (X3 (vs:=[.agg #[vi (((mulI ((gateI c.n u).getD mZ) x).getD mZ).rows),vi (((mulI ((gateI c.n u).getD mZ) x).getD mZ).cols),.slice A27 (((mulI ((gateI c.n u).getD mZ) x).getD mZ).cells).length c27],.bool ((mulI ((gateI c.n u).getD mZ) x).isSome)]) rfl rfl) ?_
  refine Zo (Vw [vi (((mulI ((gateI c.n u).getD mZ) x).getD mZ).rows),vi (((mulI ((gateI c.n u).getD mZ) x).getD mZ).cols),.slice A27 (((mulI ((gateI c.n u).getD mZ) x).getD mZ).cells).length c27] X18 hB5) ?_;rintro _ w14 ⟨ho,hb⟩
  have hold:=hB5
  replace hB4:=hB4.only ho (Blk.ne hB4 hold rfl)
  replace hB7:=hB7.only ho (by omega)
  replace hB21:=hB21.only ho (by omega)
  replace hr10:=hr10.onlyT ho hold rfl
  replace ho19:=ho19.onlyT ho hold rfl
  replace ho27:=ho27.onlyT ho hold rfl
  replace hW:=Below.only hW ho hlo5
  clear hold
  have hB5:=hb
  clear hb ho
  refine Za rfl ?_
  refine Zn fun a hf=>?_
  refine Xf ?_
  refine hK15 _ _ ?_
  refine Zr hf ?_
  refine Zm rfl<|Ze (Xv rfl rfl (by omega) (by omega))<|Za rfl ?_
  refine Zn fun a hf=>?_
  refine Xn ?_
  exact ⟨(i+1,((mulI ((gateI c.n u).getD mZ) x).getD mZ),(mulI ((gateI c.n u).getD mZ) x).isSome),⟨A27,c27,hf.sub ⟨rfl,rfl,rfl,rfl,rfl,trivial⟩,(by rw [← hinv,if_pos hb1,hdr,applI];cases mulI ((gateI c.n u).getD mZ) x<;>rfl),(by cases mulI ((gateI c.n u).getD mZ) x<;>simp),(by rw [hg1,Option.getD_some];intro h0;cases h1:mulI (gateS c.n u) x with|none=>rw [h1] at h0;cases h0|some x1=>exact ⟨(hma.1 x1 h1).2.1,by rw [Option.getD_some,(hma.1 x1 h1).2.2.1];rfl⟩),(by omega),hB4,hB5,hB7,ho27.rd,hW⟩,(by first|omega|(dsimp only;omega))⟩
 have hc14b:=hc14
 have hend:b=true→¬ (i:Int)<c.gs.length:=by intro h0;subst h0;simpa using hc14
 refine wp_exit ?_
 refine Xs ?_
 refine Xs ?_
 refine X0h ?_
 refine hK8 _ _ ?_
 refine Zs hf fun _ hK28=>?_
 refine Ze (Vn X0q hB5)<|Zm rfl ?_
 refine Zo (Vw [vi x.rows,vi x.cols,.slice A10 x.cells.length c10] X18 hB7) ?_;rintro _ w15 ⟨ho,hb⟩
 have hold:=hB7
 replace hB4:=hB4.only ho (Blk.ne hB4 hold rfl)
 replace hB5:=hB5.only ho (by omega)
 replace hr10:=hr10.onlyT ho hold rfl
 replace hW:=Below.only hW ho hlo7
 clear hold
 have hB7:=hb
 clear hb ho
 refine Za rfl ?_
 refine Zt hK28 fun a hf=>?_
 refine wp_ret (X2 hf (X0r hf rfl (ResV.cellN (l:=[vi x.rows,vi x.cols,.slice A10 x.cells.length c10]) rfl X0q (hB7.at 0) rfl) rfl) ?_)
 have hfin:applI c.n c.gs m=if b=true then some x else none:=by rw [← hinv];cases b with|false=>rfl|true=>rw [if_pos rfl,if_pos rfl,List.drop_of_length_le (by have:=hend rfl;omega)];rfl
 have h1:(applI c.n c.gs m).getD mZ=x:=by rw [hfin];cases b with|false=>exact (hz rfl).symm|true=>rfl
 have h2:(applI c.n c.gs m).isSome=b:=by rw [hfin];cases b<;>rfl
 rw [h1,h2]
 exact ⟨A10,c10,rfl,hr10.top,hW⟩
end Go.Proofs.YtlfjcmldfbfdbaaGreat
set_option maxRecDepth 4000
namespace Go.Proofs.YtlfjcmldfbfdbaaGreat
open Go.RowKit
theorem Xmu(w0:World)(d:Nat)(h:isDimB (d:Int)=true) : Ret Tryz.prog 167 [vi (d:Int)] w0 (fun v w=>∃ A c,v=.tuple #[mV A c (unitS d),.bool true]∧Own w w0.heap.size 98 5 encD A c (unitS d).cells∧Below w0.heap.size w0 w):=by
 have h1:=Xob w0 (d:Int)
 rw [(X4a h).1] at h1
 exact h1
theorem F97(w0:World)(c:Cx)(Ac:Option Addr)(cc:Nat)(hr_c:Rd w0 w0.heap.size 24 encG Ac c.gs)(hlc:c.gs.length≤2305843009213693951) : Ret Tryz.prog 114 [.agg #[vi c.n,.slice Ac c.gs.length cc]] w0 (fun v w=>∃ A c1,v=.tuple #[mV A c1 ((opI c).getD mZ),.bool (opI c).isSome]∧Rd w w.heap.size 98 encD A ((opI c).getD mZ).cells∧Below w0.heap.size w0 w):=by
 refine enter Tryz.func114 rfl 23 rfl rfl ?_
 intro a hf
 have hW:Below w0.heap.size w0 w0:=Below.refl _ _
 refine Zs hf fun _ hK2=>?_
 refine Zf (X0p (zs:=[vi c.n,.slice Ac c.gs.length cc]) rfl rfl) ?_;rintro _ w1 ⟨b3,rfl,hl3,hE,hB3⟩
 have hlo3:=Nat.le_trans hW.size hl3
 replace hW:=btr hW hE
 refine Zf (Xa (zs:=[vi 0,vi 0,.slice none 0 0]) X1y rfl) ?_;rintro _ w2 ⟨b5,rfl,hl5,hE,hB5⟩
 have hlo5:=Nat.le_trans hW.size hl5
 replace hB3:=hB3.below hE
 replace hW:=btr hW hE
 refine Za rfl ?_
 refine Zt hK2 fun a hf=>?_
 refine wp_seq_k fun _ hK6=>?_
 refine Zs hf fun _ hK7=>?_
 refine Ze (Vn X0c hB3) ?_
 refine Zf (Vc (F55 _ c Ac cc (hr_c.below' hW).top hlc) Xdi) ?_;rintro _ w3 ⟨rfl,hE⟩
 replace hB3:=hB3.below hE
 replace hB5:=hB5.below hE
 replace hW:=btr hW hE
 refine Ze (X15 rfl) ?_
 refine Zt hK7 fun a hf=>?_
 refine Xi hf rfl (fun hc8=>?_) (fun hc8=>?_)
 ·have hc8b:=hc8
  have hn:¬ cOk c=true:=by revert hc8;cases cOk c<;>simp
  refine Zs hf fun _ hK9=>?_
  refine Ze (Xh (ps:=[]) (cs:=[vi 0,vi 0,.slice none 0 0]) rfl (fun _=>by first|rfl|kernel_rfl)) ?_
  refine Zo (Vw [vi 0,vi 0,.slice none 0 0] X18 hB5) ?_;rintro _ w4 ⟨ho,hb⟩
  have hold:=hB5
  replace hB3:=hB3.only ho (Blk.ne hB3 hold rfl)
  replace hW:=Below.only hW ho hlo5
  clear hold
  have hB5:=hb
  clear hb ho
  refine Za rfl ?_
  refine Zt hK9 fun a hf=>?_
  refine wp_ret ?_
  refine X8 ?_
  refine X2 hf (X0r hf rfl (ResV.cellN (l:=[vi 0,vi 0,.slice none 0 0]) rfl X0q (hB5.at 0) rfl) rfl) ?_
  have hfin:opI c=none:=by rw [opI,if_neg hn]
  rw [hfin]
  exact ⟨none,0,rfl,(Rd.nil _ 0 _ _ _).top,hW⟩
 have hc8b:=hc8
 have hc:cOk c=true:=by revert hc8;cases cOk c<;>simp
 obtain ⟨hn,hlen,hgs⟩:=X20 hc
 obtain ⟨d,hd⟩ : ∃ d:Nat,d=2^c.n.toNat:=⟨_,rfl⟩
 refine wp_skip ?_
 refine hK6 _ _ ?_
 refine Zs hf fun _ hK11=>?_
 refine Ze (Vd rfl X1b 0)<|Ze (X0 rfl X5 (hB3.at 0))<|Ze (Xb1 (m:=c.n.toNat) (D:=d) rfl rfl (by omega) ⟨hd,by omega⟩) ?_
 refine Zf (Vc (Xmu _ d (by rw [hd];exact X31 hn)) Xlg) ?_;rintro _ w5 ⟨A12,c12,rfl,ho12,hE⟩
 replace ho12:=ho12.lower hW.size
 replace hB3:=hB3.below hE
 replace hB5:=hB5.below hE
 replace hW:=btr hW hE
 refine Zm rfl<|Ze (X3 (vs:=[.agg #[vi ((unitS d).rows),vi ((unitS d).cols),.slice A12 ((unitS d).cells).length c12],.bool true]) rfl rfl)<|Ze (X3 (vs:=[.agg #[vi ((unitS d).rows),vi ((unitS d).cols),.slice A12 ((unitS d).cells).length c12],.bool true]) rfl rfl) ?_
 refine Zf (Xa (zs:=[vi 0,vi 0,.slice none 0 0]) X1y rfl) ?_;rintro _ w6 ⟨b14,rfl,hl14,hE,hB14⟩
 have hne5_14:b5≠b14:=by have:=hB5.lt;omega
 have hlo14:=Nat.le_trans hW.size hl14
 replace hB3:=hB3.below hE
 replace hB5:=hB5.below hE
 replace ho12:=ho12.below hE
 replace hW:=btr hW hE
 refine Zo (Vw [vi ((unitS d).rows),vi ((unitS d).cols),.slice A12 ((unitS d).cells).length c12] X18 hB14) ?_;rintro _ w7 ⟨ho,hb⟩
 have hold:=hB14
 replace hB3:=hB3.only ho (Blk.ne hB3 hold rfl)
 replace hB5:=hB5.only ho (by omega)
 replace ho12:=ho12.onlyT ho hold rfl
 replace hW:=Below.only hW ho hlo14
 clear hold
 have hB14:=hb
 clear hb ho
 refine Za rfl ?_
 refine Zt hK11 fun a hf=>?_
 refine Zs hf fun _ hK15=>?_
 refine Ze (Vn X0c hB3)<|Ze (Vn X0q hB14)<|Zm rfl ?_
 refine Zf (Vc (Xo0 _ c Ac cc (hr_c.below' hW).top (unitS d) A12 c12 ho12.rd.top hc (X4a (by rw [hd];exact X31 hn)).2 (by rw [← hd];rfl)) Xl1) ?_;rintro _ w8 ⟨A16,c16,rfl,hr16,hE⟩
 replace hB3:=hB3.below hE
 replace hB5:=hB5.below hE
 replace hB14:=hB14.below hE
 replace ho12:=ho12.below hE
 replace hW:=btr hW hE
 refine Ze (X3 (vs:=[.agg #[vi (((applI c.n c.gs (unitS d)).getD mZ).rows),vi (((applI c.n c.gs (unitS d)).getD mZ).cols),.slice A16 (((applI c.n c.gs (unitS d)).getD mZ).cells).length c16],.bool ((applI c.n c.gs (unitS d)).isSome)]) rfl rfl)<|Ze (X3 (vs:=[.agg #[vi (((applI c.n c.gs (unitS d)).getD mZ).rows),vi (((applI c.n c.gs (unitS d)).getD mZ).cols),.slice A16 (((applI c.n c.gs (unitS d)).getD mZ).cells).length c16],.bool ((applI c.n c.gs (unitS d)).isSome)]) rfl rfl) ?_
 refine Zo (Vw [vi (((applI c.n c.gs (unitS d)).getD mZ).rows),vi (((applI c.n c.gs (unitS d)).getD mZ).cols),.slice A16 (((applI c.n c.gs (unitS d)).getD mZ).cells).length c16] X18 hB5) ?_;rintro _ w9 ⟨ho,hb⟩
 have hold:=hB5
 replace hB3:=hB3.only ho (Blk.ne hB3 hold rfl)
 replace hB14:=hB14.only ho (by omega)
 replace ho12:=ho12.onlyT ho hold rfl
 replace hr16:=hr16.onlyT ho hold rfl
 replace hW:=Below.only hW ho hlo5
 clear hold
 have hB5:=hb
 clear hb ho
 refine Za rfl ?_
 refine Zt hK15 fun a hf=>?_
 refine wp_ret (X2 hf (X0r hf rfl (ResV.cellN (l:=[vi (((applI c.n c.gs (unitS d)).getD mZ).rows),vi (((applI c.n c.gs (unitS d)).getD mZ).cols),.slice A16 (((applI c.n c.gs (unitS d)).getD mZ).cells).length c16]) rfl X0q (hB5.at 0) rfl) rfl) ?_)
 have hfin:opI c=applI c.n c.gs (unitS d):=by rw [opI,if_pos hc,← hd,(X4a (by rw [hd];exact X31 hn)).1];rfl
 rw [hfin]
 exact ⟨A16,c16,rfl,hr16.top,hW⟩
theorem F50(w0:World)(p:Cx)(Ap:Option Addr)(cp:Nat)(hr_p:Rd w0 w0.heap.size 24 encG Ap p.gs)(q:Cx)(Aq:Option Addr)(cq:Nat)(hr_q:Rd w0 w0.heap.size 24 encG Aq q.gs)(hla:p.gs.length≤2305843009213693951)(hlb:q.gs.length≤2305843009213693951) : Ret Tryz.prog 102 [.agg #[vi p.n,.slice Ap p.gs.length cp],.agg #[vi q.n,.slice Aq q.gs.length cq]] w0 (fun v w=>v=.tuple #[.bool ((sameI p q).1),.bool ((sameI p q).2)]∧Below w0.heap.size w0 w):=by
 refine enter Tryz.func102 rfl 45 rfl rfl ?_
 intro a hf
 have hW:Below w0.heap.size w0 w0:=Below.refl _ _
 refine Zs hf fun _ hK3=>?_
 refine Zf (X0p (zs:=[vi p.n,.slice Ap p.gs.length cp]) rfl rfl) ?_;rintro _ w1 ⟨b4,rfl,hl4,hE,hB4⟩
 have hlo4:=Nat.le_trans hW.size hl4
 replace hW:=btr hW hE
 refine Zf (X0p (zs:=[vi q.n,.slice Aq q.gs.length cq]) rfl rfl) ?_;rintro _ w2 ⟨b5,rfl,hl5,hE,hB5⟩
 have hne4_5:b4≠b5:=by have:=hB4.lt;omega
 have hlo5:=Nat.le_trans hW.size hl5
 replace hB4:=hB4.below hE
 replace hW:=btr hW hE
 refine Za rfl<|Za rfl ?_
 refine Zt hK3 fun a hf=>?_
 refine Zs hf fun _ hK6=>?_
 refine Ze (Vn X0c hB4) ?_
 refine Zf (Vc (F97 _ p Ap cp (hr_p.below' hW).top hla) Xj6) ?_;rintro _ w3 ⟨A7,c7,rfl,hr7,hE⟩
 replace hB4:=hB4.below hE
 replace hB5:=hB5.below hE
 replace hW:=btr hW hE
 refine Zm rfl<|Ze (X3 (vs:=[.agg #[vi (((opI p).getD mZ).rows),vi (((opI p).getD mZ).cols),.slice A7 (((opI p).getD mZ).cells).length c7],.bool ((opI p).isSome)]) rfl rfl)<|Ze (X3 (vs:=[.agg #[vi (((opI p).getD mZ).rows),vi (((opI p).getD mZ).cols),.slice A7 (((opI p).getD mZ).cells).length c7],.bool ((opI p).isSome)]) rfl rfl) ?_
 refine Zf (Xa (zs:=[vi 0,vi 0,.slice none 0 0]) X1y rfl) ?_;rintro _ w4 ⟨b9,rfl,hl9,hE,hB9⟩
 have hlo9:=Nat.le_trans hW.size hl9
 replace hB4:=hB4.below hE
 replace hB5:=hB5.below hE
 replace hr7:=hr7.below hE
 replace hW:=btr hW hE
 refine Zo (Vw [vi (((opI p).getD mZ).rows),vi (((opI p).getD mZ).cols),.slice A7 (((opI p).getD mZ).cells).length c7] X18 hB9) ?_;rintro _ w5 ⟨ho,hb⟩
 have hold:=hB9
 replace hB4:=hB4.only ho (Blk.ne hB4 hold rfl)
 replace hB5:=hB5.only ho (Blk.ne hB5 hold rfl)
 replace hr7:=hr7.onlyT ho hold rfl
 replace hW:=Below.only hW ho hlo9
 clear hold
 have hB9:=hb
 clear hb ho
 refine Za rfl ?_
 refine Zt hK6 fun a hf=>?_
 refine Zs hf fun _ hK10=>?_
 refine Ze (Vn X0c hB5) ?_
 refine Zf (Vc (F97 _ q Aq cq (hr_q.below' hW).top hlb) Xj6) ?_;rintro _ w6 ⟨A11,c11,rfl,hr11,hE⟩
 replace hB4:=hB4.below hE
 replace hB5:=hB5.below hE
 replace hB9:=hB9.below hE
 replace hr7:=hr7.below hE
 replace hW:=btr hW hE
 refine Zm rfl<|Ze (X3 (vs:=[.agg #[vi (((opI q).getD mZ).rows),vi (((opI q).getD mZ).cols),.slice A11 (((opI q).getD mZ).cells).length c11],.bool ((opI q).isSome)]) rfl rfl)<|Ze (X3 (vs:=[.agg #[vi (((opI q).getD mZ).rows),vi (((opI q).getD mZ).cols),.slice A11 (((opI q).getD mZ).cells).length c11],.bool ((opI q).isSome)]) rfl rfl) ?_
 refine Zf (Xa (zs:=[vi 0,vi 0,.slice none 0 0]) X1y rfl) ?_;rintro _ w7 ⟨b13,rfl,hl13,hE,hB13⟩
 have hne9_13:b9≠b13:=by have:=hB9.lt;omega
 have hlo13:=Nat.le_trans hW.size hl13
 replace hB4:=hB4.below hE
 replace hB5:=hB5.below hE
 replace hB9:=hB9.below hE
 replace hr7:=hr7.below hE
 replace hr11:=hr11.below hE
 replace hW:=btr hW hE
 refine Zo (Vw [vi (((opI q).getD mZ).rows),vi (((opI q).getD mZ).cols),.slice A11 (((opI q).getD mZ).cells).length c11] X18 hB13) ?_;rintro _ w8 ⟨ho,hb⟩
 have hold:=hB13
 replace hB4:=hB4.only ho (Blk.ne hB4 hold rfl)
 replace hB5:=hB5.only ho (Blk.ne hB5 hold rfl)
 replace hB9:=hB9.only ho (by omega)
 replace hr7:=hr7.onlyT ho hold rfl
 replace hr11:=hr11.onlyT ho hold rfl
 replace hW:=Below.only hW ho hlo13
 clear hold
 have hB13:=hb
 clear hb ho
 refine Za rfl ?_
 refine Zt hK10 fun a hf=>?_
 refine wp_seq_k fun _ hK14=>?_
 refine wp_seq_k fun _ hK15=>?_
 refine X09 (fun a w=>Fr a 45 [(6,.pointer (some ⟨b9,0,none⟩)),(8,.pointer (some ⟨b13,0,none⟩)),(35,.bool (((!((opI p).isSome))||(!((opI q).isSome)))||(p.n != q.n)))]∧w8=w) ?_ ?_
 ·refine Zr hf ?_
  refine Zm rfl<|Ze (X15 rfl)<|Zm rfl ?_
  refine Zg 25 rfl (fun hg16=>?_) (fun hg16=>?_)
  ·refine Zp ⟨_,_,rfl,rfl,hg16⟩ ?_
   refine Zp ⟨_,_,rfl,rfl,hg16⟩ ?_
   refine Ze (Xc rfl hg16 rfl)<|Zm rfl<|Zp ⟨_,_,rfl,rfl,rfl⟩ ?_
   refine Zp ⟨_,_,rfl,rfl,rfl⟩ ?_
   refine Zp ⟨_,_,rfl,rfl,rfl⟩ ?_
   refine Zp ⟨_,_,rfl,rfl,rfl⟩ ?_
   refine Zp ⟨_,_,rfl,rfl,rfl⟩ ?_
   refine Ze (Xc rfl rfl rfl) ?_
   refine Zn fun a hf=>?_
   exact ⟨hf.sub ⟨rfl,rfl,X1 rfl (by first|rfl|(simp only [hg16,bs];done)|simp [hg16]),trivial⟩,rfl⟩
  refine Zv ⟨_,_,rfl,rfl,hg16⟩ (X9 rfl) ?_
  refine Zv ⟨_,_,rfl,rfl,hg16⟩ (X15 rfl) ?_
  refine Ze (X7 rfl hg16 rfl)<|Zm rfl ?_
  refine Zg 29 rfl (fun hg17=>?_) (fun hg17=>?_)
  ·refine Zp ⟨_,_,rfl,rfl,hg17⟩ ?_
   refine Zp ⟨_,_,rfl,rfl,hg17⟩ ?_
   refine Zp ⟨_,_,rfl,rfl,hg17⟩ ?_
   refine Zp ⟨_,_,rfl,rfl,hg17⟩ ?_
   refine Zp ⟨_,_,rfl,rfl,hg17⟩ ?_
   refine Ze (Xc rfl hg17 rfl) ?_
   refine Zn fun a hf=>?_
   exact ⟨hf.sub ⟨rfl,rfl,X1 rfl (by first|rfl|(simp only [hg16,hg17,bs];done)|simp [hg16,hg17]),trivial⟩,rfl⟩
  refine Zv ⟨_,_,rfl,rfl,hg17⟩ (Vd rfl X1b 0) ?_
  refine Zv ⟨_,_,rfl,rfl,hg17⟩ (X0 rfl X5 (hB4.at 0)) ?_
  refine Zv ⟨_,_,rfl,rfl,hg17⟩ (Vd rfl X1b 0) ?_
  refine Zv ⟨_,_,rfl,rfl,hg17⟩ (X0 rfl X5 (hB5.at 0)) ?_
  refine Zv ⟨_,_,rfl,rfl,hg17⟩ (X2z rfl rfl) ?_
  refine Ze (X7 rfl hg17 rfl) ?_
  refine Zn fun a hf=>?_
  exact ⟨hf.sub ⟨rfl,rfl,X1 rfl (by first|rfl|(simp only [hg16,hg17,bs];done)|simp [hg16,hg17]),trivial⟩,rfl⟩
 rintro a _ ⟨hf,rfl⟩
 refine hK15 _ _ ?_
 refine Xi hf rfl (fun hc18=>?_) (fun hc18=>?_)
 ·have hc18b:=hc18
  have hn:sameI p q=(false,false):=by rw [sameI,if_neg];intro h0;simp only [Bool.and_eq_true,beq_iff_eq] at h0;revert hc18;rw [h0.1.1,h0.1.2,h0.2];simp
  refine Zs hf fun _ hK19=>?_
  refine Za rfl<|Za rfl ?_
  refine Zt hK19 fun a hf=>?_
  refine wp_ret ?_
  refine X8 ?_
  refine X2 hf (X0r hf rfl rfl rfl) ?_
  exact ⟨by rw [hn],hW⟩
 have hc18b:=hc18
 have hy:sameI p q=(mOk ((opI p).getD mZ)&&mOk ((opI q).getD mZ)&&eqPh ((opI p).getD mZ) ((opI q).getD mZ),mOk ((opI p).getD mZ)&&mOk ((opI q).getD mZ)):=by rw [sameI,if_pos];revert hc18;cases (opI p).isSome<;>cases (opI q).isSome<;>simp
 refine wp_skip ?_
 refine hK14 _ _ ?_
 refine Zs hf fun _ hK20=>?_
 refine Ze (Vn X0q hB9)<|Ze (Vn X0q hB13) ?_
 refine Zf (Vc (F98 _ ((opI p).getD mZ) A7 c7 hr7.top ((opI q).getD mZ) A11 c11 hr11.top (Xc5 p) (Xc5 q)) Xn8) ?_;rintro _ w9 ⟨ix,rfl,hE⟩
 replace hB9:=hB9.below hE
 replace hB13:=hB13.below hE
 replace hr7:=hr7.below hE
 replace hr11:=hr11.below hE
 replace hW:=btr hW hE
 refine Zm rfl<|Ze (X3 (vs:=[vi ix,.bool (mOk ((opI p).getD mZ)&&mOk ((opI q).getD mZ)&&eqPh ((opI p).getD mZ) ((opI q).getD mZ)),.bool (mOk ((opI p).getD mZ)&&mOk ((opI q).getD mZ))]) rfl rfl)<|Ze (X3 (vs:=[vi ix,.bool (mOk ((opI p).getD mZ)&&mOk ((opI q).getD mZ)&&eqPh ((opI p).getD mZ) ((opI q).getD mZ)),.bool (mOk ((opI p).getD mZ)&&mOk ((opI q).getD mZ))]) rfl rfl)<|Ze (X3 (vs:=[vi ix,.bool (mOk ((opI p).getD mZ)&&mOk ((opI q).getD mZ)&&eqPh ((opI p).getD mZ) ((opI q).getD mZ)),.bool (mOk ((opI p).getD mZ)&&mOk ((opI q).getD mZ))]) rfl rfl)<|Za rfl ?_
 refine Za rfl<|Za rfl ?_
 refine Zt hK20 fun a hf=>?_
 refine Zs hf fun _ hK21=>?_
 refine Zm rfl<|Zm rfl<|Za rfl<|Za rfl ?_
 refine Zt hK21 fun a hf=>?_
 refine wp_ret (X2 hf (X0r hf rfl rfl rfl) ?_)
 exact ⟨by rw [hy],hW⟩
end Go.Proofs.YtlfjcmldfbfdbaaGreat
set_option maxRecDepth 4000
namespace Go.Proofs.YtlfjcmldfbfdbaaGreat
open Go.RowKit
theorem Xoj(w0:World)(d:Nat)(hd:d≤32) : Ret Tryz.prog 149 [vi (d:Int)] w0 (fun v w=>∃ A c,v=mV A c (unitS d)∧Own w w0.heap.size 98 5 encD A c (unitS d).cells∧Below w0.heap.size w0 w):=by
 have hdd:d*d≤1024:=X2q hd hd
 refine enter Tryz.func149 rfl 27 rfl rfl ?_
 intro a hf
 have hW:Below w0.heap.size w0 w0:=Below.refl _ _
 refine Zs hf fun _ hK1=>?_
 refine Zf (Xa (zs:=[vi 0,vi 0,.slice none 0 0]) X1y rfl) ?_;rintro _ w1 ⟨b3,rfl,hl3,hE,hB3⟩
 have hlo3:=Nat.le_trans hW.size hl3
 replace hW:=btr hW hE
 refine Zt hK1 fun a hf=>?_
 refine Zs hf fun _ hK4=>?_
 refine Zm rfl<|Zm rfl<|Zm rfl<|Zm rfl<|Ze (Xal (m:=d) (k:=d) rfl rfl (by omega)) ?_
 refine Zf (X43 (m:=(d*d:Nat)) (enc:=encD) (z0:=dZ) rfl rfl X1j X2k X1n rfl X1e (by omega) (by omega)) ?_;rintro _ w2 ⟨b5,rfl,hl5,hE,hB5⟩
 have hlo5:=Nat.le_trans hW.size hl5
 replace hB3:=hB3.below hE
 replace hW:=btr hW hE
 refine Ze (Xh (ps:=[(0,vi (d:Int)),(1,vi (d:Int)),(2,.slice (some ⟨b5,0,none⟩) (d*d:Nat) (d*d:Nat))]) (cs:=[vi (d:Int),vi (d:Int),.slice (some ⟨b5,0,none⟩) (d*d:Nat) (d*d:Nat)]) rfl (fun _=>by first|rfl|kernel_rfl)) ?_
 refine Zf (Xa (zs:=[vi 0,vi 0,.slice none 0 0]) X1y rfl) ?_;rintro _ w3 ⟨b9,rfl,hl9,hE,hB9⟩
 have hne3_9:b3≠b9:=by have:=hB3.lt;omega
 have hlo9:=Nat.le_trans hW.size hl9
 replace hB3:=hB3.below hE
 replace hB5:=hB5.below hE
 replace hW:=btr hW hE
 refine Zo (Vw [vi (d:Int),vi (d:Int),.slice (some ⟨b5,0,none⟩) (d*d:Nat) (d*d:Nat)] X18 hB9) ?_;rintro _ w4 ⟨ho,hb⟩
 have hold:=hB9
 replace hB3:=hB3.only ho (by omega)
 replace hB5:=hB5.only ho (Blk.ne hB5 hold rfl)
 replace hW:=Below.only hW ho hlo9
 clear hold
 have hB9:=hb
 clear hb ho
 refine Zt hK4 fun a hf=>?_
 refine wp_seq_k fun _ hK10=>?_
 refine Zs hf fun _ hK11=>?_
 refine Za rfl ?_
 refine Zt hK11 fun a hf=>?_
 refine wp_block ?_
 refine X0j (σ:=Nat×(List Dy)) (fun (s:Nat×(List Dy)) (a:Act) (w:World)=>match s with|(i,l)=>Fr a 27 [(0,vi (d:Int)),(2,.pointer (some ⟨b3,0,none⟩)),(3,.pointer (some ⟨b9,0,none⟩)),(4,vi (i:Int))]∧(i≤d)∧(l=unitP d i)∧Blk w b3 38 [vi 0,vi 0,.slice none 0 0]∧Blk w b5 98 (l.flatMap encD)∧Blk w b9 38 [vi (d:Int),vi (d:Int),.slice (some ⟨b5,0,none⟩) (d*d:Nat) (d*d:Nat)]∧Below w0.heap.size w0 w) (fun (s:Nat×(List Dy))=>match s with|(i,l)=>d-i) (0,List.replicate (d*d) dZ) ?_ ?_
 ·exact ⟨hf.sub ⟨rfl,rfl,rfl,rfl,trivial⟩,(Nat.zero_le _),(Xbq d),hB3,hB5,hB9,hW⟩
 rintro ⟨i,l⟩ a w5 ⟨hf,hi,hl,hB3,hB5,hB9,hW⟩
 refine wp_seq_k fun _ hK12=>?_
 refine Zs hf fun _ hK13=>?_
 refine Zm rfl<|Zm rfl<|Ze (X1k rfl rfl) ?_
 refine Zt hK13 fun a hf=>?_
 refine Xi hf rfl (fun hc14=>?_) (fun hc14=>?_)
 ·have hc14b:=hc14
  have hc14:=of_decide_eq_true hc14
  have hi1:i<d:=by have:=hc14;omega
  have hgb:=X2q (show i≤32 by omega) hd
  refine wp_skip ?_
  refine hK12 _ _ ?_
  refine wp_seq_k fun _ hK15=>?_
  refine wp_block ?_
  refine Xu none (fun j=>[9].contains j) mixed ?_
  intro w6 hE
  replace hB3:=hB3.below hE
  replace hB5:=hB5.below hE
  replace hB9:=hB9.below hE
  replace hW:=btr hW hE
  refine Yb hf ?_
  refine Yo 0 rfl (fun _=>Vd rfl X1o 2)<|Ye 1 rfl (X0 rfl X2p (hB9.at 2))<|Yo 2 rfl (fun _=>X9 rfl)<|Yo 3 rfl (fun _=>X9 rfl)<|Yo 4 rfl (fun _=>Xal (m:=i) (k:=d) rfl rfl (by have:=X2q (show i≤32 by omega) hd;omega)) ?_
  refine Yo 5 rfl (fun _=>X9 rfl)<|Yo 6 rfl (fun _=>Xv rfl rfl (by omega) (by omega)) ?_
  refine Y1 7 ?_
  refine Yk rfl trivial (Vc (Xak _ 0) X4n) (fun _ _ ⟨_,hE⟩=>hE) ?_;rintro _ w7 ⟨rfl,hE⟩
  replace hB3:=hB3.below hE
  replace hB5:=hB5.below hE
  replace hB9:=hB9.below hE
  replace hW:=btr hW hE
  refine Yo 8 rfl (fun _=>Xdk (k:=(i*d+i)) (off:=(i*d+i)*5) rfl rfl X1j Xr (by omega) (X3b hi1 hi1) rfl) ?_
  refine Y1 9 ?_
  refine Yh rfl trivial rfl (Xdb (enc:=encD) (l:=l) (u:=(dPow 0)) (k:=(i*d+i)) rfl rfl Xr hB5 X1e X5k rfl (by rw [hl,X9f];exact X3b hi1 hi1)) ?_;rintro _ w8 ⟨ho,hb⟩
  have hold:=hB5
  replace hB3:=hB3.only ho (Blk.ne hB3 hold rfl)
  replace hB9:=hB9.only ho (Blk.ne hB9 hold rfl)
  replace hW:=Below.only hW ho hlo5
  clear hold
  have hB5:=hb
  clear hb ho
  refine Yd fun a hf=>?_
  refine Xf ?_
  refine hK15 _ _ ?_
  refine Zr hf ?_
  refine Zm rfl<|Ze (Xv rfl rfl (by omega) (by omega))<|Za rfl ?_
  refine Zn fun a hf=>?_
  refine Xn ?_
  exact ⟨(i+1,(l.set (i*d+i) (dPow 0))),⟨hf.sub ⟨rfl,rfl,rfl,rfl,trivial⟩,(by omega),(by rw [hl];exact Xcc hi1),hB3,hB5,hB9,hW⟩,(by first|omega|(dsimp only;omega))⟩
 have hc14b:=hc14
 have hc14:=of_decide_eq_false hc14
 have hi1:i=d:=by have:=hc14;omega
 refine wp_exit ?_
 refine Xs ?_
 refine Xs ?_
 refine X0h ?_
 refine hK10 _ _ ?_
 refine Zs hf fun _ hK16=>?_
 refine Ze (Vn X0q hB9) ?_
 refine Zo (Vw [vi (d:Int),vi (d:Int),.slice (some ⟨b5,0,none⟩) (d*d:Nat) (d*d:Nat)] X18 hB3) ?_;rintro _ w9 ⟨ho,hb⟩
 have hold:=hB3
 replace hB5:=hB5.only ho (Blk.ne hB5 hold rfl)
 replace hB9:=hB9.only ho (by omega)
 replace hW:=Below.only hW ho hlo3
 clear hold
 have hB3:=hb
 clear hb ho
 refine Zt hK16 fun a hf=>?_
 refine wp_ret (X2 hf (Xo hf rfl (ResV.cellN (l:=[vi (d:Int),vi (d:Int),.slice (some ⟨b5,0,none⟩) (d*d:Nat) (d*d:Nat)]) rfl X0q (hB3.at 0) rfl)) ?_)
 have hmk:l.length=d*d:=by rw [hl,X9f]
 have hmkb:d*d≤maxLen:=by simp only [maxLen];omega
 have hfin:(unitS d).cells=l:=by rw [Xbr,hl,hi1]
 exact ⟨(some ⟨b5,0,none⟩),(d*d:Nat),by show _=Value.agg #[vi (d:Int),vi (d:Int),.slice _ (unitS d).cells.length _];rw [hfin,hmk],by rw [hfin];exact (Own.of_flat X1e hB5 hlo5 hmk hmkb),hW⟩
theorem Xp6(w0:World)(bV:Nat)(f:Bool)(hBV:Blk w0 bV 142 [.bool f])(p:Mx)(Ap:Option Addr)(cp:Nat)(hr_p:Rd w0 w0.heap.size 98 encD Ap p.cells)(q:Mx)(Aq:Option Addr)(cq:Nat)(hr_q:Rd w0 w0.heap.size 98 encD Aq q.cells)(hp:mOk p=true)(hq:mOk q=true)(hpq:p.cols=q.rows) : Ret Tryz.prog 127 [.pointer (some ⟨bV,0,none⟩),.agg #[vi p.rows,vi p.cols,.slice Ap p.cells.length cp],.agg #[vi q.rows,vi q.cols,.slice Aq q.cells.length cq]] w0 (fun v w=>∃ A c1,v=mV A c1 ((timesS f p q).2)∧Own w w0.heap.size 98 5 encD A c1 ((timesS f p q).2).cells∧Kept bV w0.heap.size w0 w∧Blk w bV 142 [.bool ((timesS f p q).1)]):=by
 have hltV:=hBV.lt
 have hpl:=X2y hp
 have hql:=X2y hq
 have hpa:=X2w hp
 have hqa:=X2w hq
 have hlp:p.cells.length≤1024:=by rw [hpl.2.2];exact X2q (by omega) (by omega)
 have hlq:q.cells.length≤1024:=by rw [hql.2.2];exact X2q (by omega) (by omega)
 have ec1:p.cols=(p.cols.toNat:Int):=by omega
 have ec2:q.cols=(q.cols.toNat:Int):=by omega
 suffices hgoal:Ret Tryz.prog 127 [.pointer (some ⟨bV,0,none⟩),.agg #[vi p.rows,vi (p.cols.toNat:Int),.slice Ap p.cells.length cp],.agg #[vi q.rows,vi (q.cols.toNat:Int),.slice Aq q.cells.length cq]] w0 (fun v w=>∃ A c1,v=.agg #[vi p.rows,vi (q.cols.toNat:Int),.slice A (timesS f p q).2.cells.length c1]∧Own w w0.heap.size 98 5 encD A c1 (timesS f p q).2.cells∧Kept bV w0.heap.size w0 w∧Blk w bV 142 [.bool (timesS f p q).1]) by rw [← ec1,← ec2] at hgoal;exact hgoal
 refine enter Tryz.func127 rfl 75 rfl rfl ?_
 intro a hf
 have hW:Kept bV w0.heap.size w0 w0:=Kept.refl _ _ _
 refine Zs hf fun _ hK3=>?_
 refine Zf (X0p (zs:=[vi p.rows,vi (p.cols.toNat:Int),.slice Ap p.cells.length cp]) rfl rfl) ?_;rintro _ w1 ⟨b4,rfl,hl4,hE,hB4⟩
 have hlo4:=Nat.le_trans hW.size hl4
 replace hBV:=hBV.below hE
 replace hr_p:=hr_p.below hE
 replace hr_q:=hr_q.below hE
 replace hW:=ktr hW hE
 refine Zf (X0p (zs:=[vi q.rows,vi (q.cols.toNat:Int),.slice Aq q.cells.length cq]) rfl rfl) ?_;rintro _ w2 ⟨b5,rfl,hl5,hE,hB5⟩
 have hne4_5:b4≠b5:=by have:=hB4.lt;omega
 have hlo5:=Nat.le_trans hW.size hl5
 replace hBV:=hBV.below hE
 replace hB4:=hB4.below hE
 replace hr_p:=hr_p.below hE
 replace hr_q:=hr_q.below hE
 replace hW:=ktr hW hE
 refine Zf (Xa (zs:=[vi 0,vi 0,.slice none 0 0]) X1y rfl) ?_;rintro _ w3 ⟨b7,rfl,hl7,hE,hB7⟩
 have hne4_7:b4≠b7:=by have:=hB4.lt;omega
 have hne5_7:b5≠b7:=by have:=hB5.lt;omega
 have hlo7:=Nat.le_trans hW.size hl7
 replace hBV:=hBV.below hE
 replace hB4:=hB4.below hE
 replace hB5:=hB5.below hE
 replace hr_p:=hr_p.below hE
 replace hr_q:=hr_q.below hE
 replace hW:=ktr hW hE
 refine Zt hK3 fun a hf=>?_
 refine Zs hf fun _ hK8=>?_
 refine Ze (Vd rfl X26 0)<|Ze (X0 rfl X5 (hB4.at 0))<|Ze (Vd rfl X1q 1)<|Ze (X0 rfl X5 (hB5.at 1))<|Ze (Xh (ps:=[(0,vi p.rows),(1,vi (q.cols.toNat:Int))]) (cs:=[vi p.rows,vi (q.cols.toNat:Int),.slice none 0 0]) rfl (fun _=>by first|rfl|kernel_rfl)) ?_
 refine Zf (Xa (zs:=[vi 0,vi 0,.slice none 0 0]) X1y rfl) ?_;rintro _ w4 ⟨b11,rfl,hl11,hE,hB11⟩
 have hne4_11:b4≠b11:=by have:=hB4.lt;omega
 have hne5_11:b5≠b11:=by have:=hB5.lt;omega
 have hne7_11:b7≠b11:=by have:=hB7.lt;omega
 have hlo11:=Nat.le_trans hW.size hl11
 replace hBV:=hBV.below hE
 replace hB4:=hB4.below hE
 replace hB5:=hB5.below hE
 replace hB7:=hB7.below hE
 replace hr_p:=hr_p.below hE
 replace hr_q:=hr_q.below hE
 replace hW:=ktr hW hE
 refine Zo (Vw [vi p.rows,vi (q.cols.toNat:Int),.slice none 0 0] X18 hB11) ?_;rintro _ w5 ⟨ho,hb⟩
 have hold:=hB11
 replace hBV:=hBV.only ho (Blk.ne hBV hold rfl)
 replace hB4:=hB4.only ho (by omega)
 replace hB5:=hB5.only ho (by omega)
 replace hB7:=hB7.only ho (by omega)
 replace hr_p:=hr_p.onlyT ho hold rfl
 replace hr_q:=hr_q.onlyT ho hold rfl
 replace hW:=Kept.only hW ho hlo11
 clear hold
 have hB11:=hb
 clear hb ho
 refine Zt hK8 fun a hf=>?_
 refine wp_seq_k fun _ hK12=>?_
 refine Zs hf fun _ hK13=>?_
 refine Za rfl ?_
 refine Zt hK13 fun a hf=>?_
 refine wp_block ?_
 refine X0j (σ:=Nat×(List Dy)×Bool) (fun (s:Nat×(List Dy)×Bool) (a:Act) (w:World)=>match s with|(i,l,f1)=>∃ A14 c14,Fr a 75 [(0,.pointer (some ⟨bV,0,none⟩)),(4,.pointer (some ⟨b4,0,none⟩)),(5,.pointer (some ⟨b5,0,none⟩)),(6,.pointer (some ⟨b7,0,none⟩)),(7,.pointer (some ⟨b11,0,none⟩)),(8,vi (i:Int))]∧((i:Int)≤p.rows)∧(timesL f p q (i*q.cols.toNat)=(f1,l))∧Blk w bV 142 [.bool f1]∧Blk w b4 38 [vi p.rows,vi (p.cols.toNat:Int),.slice Ap p.cells.length cp]∧Blk w b5 38 [vi q.rows,vi (q.cols.toNat:Int),.slice Aq q.cells.length cq]∧Blk w b7 38 [vi 0,vi 0,.slice none 0 0]∧Blk w b11 38 [vi p.rows,vi (q.cols.toNat:Int),.slice A14 l.length c14]∧Rd w w0.heap.size 98 encD Ap p.cells∧Rd w w0.heap.size 98 encD Aq q.cells∧Own w w0.heap.size 98 5 encD A14 c14 l∧Kept bV w0.heap.size w0 w) (fun (s:Nat×(List Dy)×Bool)=>match s with|(i,l,f1)=>(p.rows-i).toNat) (0,[],f) ?_ ?_
 ·exact ⟨none,0,hf.sub ⟨rfl,rfl,rfl,rfl,rfl,rfl,trivial⟩,(by omega),(by rw [Nat.zero_mul];rfl),hBV,hB4,hB5,hB7,hB11,hr_p,hr_q,(Own.nil _ _ _ _ _),hW⟩
 rintro ⟨i,l,f1⟩ a w6 ⟨A14,c14,hf,hi,hl,hBV,hB4,hB5,hB7,hB11,hr_p,hr_q,ho14,hW⟩
 refine wp_seq_k fun _ hK15=>?_
 refine Zs hf fun _ hK16=>?_
 refine Zm rfl<|Ze (Vd rfl X26 0)<|Ze (X0 rfl X5 (hB4.at 0))<|Ze (X1k rfl rfl) ?_
 refine Zt hK16 fun a hf=>?_
 refine Xi hf rfl (fun hc17=>?_) (fun hc17=>?_)
 ·have hc17b:=hc17
  have hc17:=of_decide_eq_true hc17
  have hi1:(i:Int)<p.rows:=hc17
  refine wp_skip ?_
  refine hK15 _ _ ?_
  refine wp_seq_k fun _ hK18=>?_
  refine wp_block ?_
  refine Zs hf fun _ hK19=>?_
  refine Za rfl ?_
  refine Zt hK19 fun a hf=>?_
  refine wp_block ?_
  refine X0j (σ:=Nat×(List Dy)×Bool) (fun (s:Nat×(List Dy)×Bool) (a:Act) (w:World)=>match s with|(j,l2,f2)=>∃ A20 c20,Fr a 75 [(0,.pointer (some ⟨bV,0,none⟩)),(4,.pointer (some ⟨b4,0,none⟩)),(5,.pointer (some ⟨b5,0,none⟩)),(6,.pointer (some ⟨b7,0,none⟩)),(7,.pointer (some ⟨b11,0,none⟩)),(8,vi (i:Int)),(9,vi (j:Int))]∧(j≤q.cols.toNat)∧(timesL f p q (i*q.cols.toNat+j)=(f2,l2))∧Blk w bV 142 [.bool f2]∧Blk w b4 38 [vi p.rows,vi (p.cols.toNat:Int),.slice Ap p.cells.length cp]∧Blk w b5 38 [vi q.rows,vi (q.cols.toNat:Int),.slice Aq q.cells.length cq]∧Blk w b7 38 [vi 0,vi 0,.slice none 0 0]∧Blk w b11 38 [vi p.rows,vi (q.cols.toNat:Int),.slice A20 l2.length c20]∧Rd w w0.heap.size 98 encD Ap p.cells∧Rd w w0.heap.size 98 encD Aq q.cells∧Own w w0.heap.size 98 5 encD A20 c20 l2∧Kept bV w0.heap.size w0 w) (fun (s:Nat×(List Dy)×Bool)=>match s with|(j,l2,f2)=>q.cols.toNat-j) (0,l,f1) ?_ ?_
  ·exact ⟨A14,c14,hf.sub ⟨rfl,rfl,rfl,rfl,rfl,rfl,rfl,trivial⟩,(Nat.zero_le _),hl,hBV,hB4,hB5,hB7,hB11,hr_p,hr_q,ho14,hW⟩
  rintro ⟨j,l2,f2⟩ a w7 ⟨A20,c20,hf,hj,hl2,hBV,hB4,hB5,hB7,hB11,hr_p,hr_q,ho20,hW⟩
  refine wp_seq_k fun _ hK21=>?_
  refine Zs hf fun _ hK22=>?_
  refine Zm rfl<|Ze (Vd rfl X1q 1)<|Ze (X0 rfl X5 (hB5.at 1))<|Ze (X1k rfl rfl) ?_
  refine Zt hK22 fun a hf=>?_
  refine Xi hf rfl (fun hc23=>?_) (fun hc23=>?_)
  ·have hc23b:=hc23
   have hc23:=of_decide_eq_true hc23
   have hj1:j<q.cols.toNat:=by have:=hc23;omega
   have hlen:l2.length=i*q.cols.toNat+j:=by have:=X7o f p q (i*q.cols.toNat+j);rw [hl2] at this;exact this
   have hgr:=X2q (show i≤32 by omega) (show q.cols.toNat≤32 by omega)
   have hts:=Xbc (f:=f) (a:=p) (b:=q) (i:=i) hj1
   rw [hl2] at hts
   refine wp_skip ?_
   refine hK21 _ _ ?_
   refine wp_seq_k fun _ hK24=>?_
   refine wp_block ?_
   refine Zs hf fun _ hK25=>?_
   refine Ze (Xh (ps:=[]) (cs:=[vi 0,vi 0,vi 0,vi 0,vi 0]) rfl (fun _=>by first|rfl|kernel_rfl)) ?_
   refine Zf (Xa (zs:=[vi 0,vi 0,vi 0,vi 0,vi 0]) X1n rfl) ?_;rintro _ w8 ⟨b26,rfl,hl26,hE,hB26⟩
   have hlo26:=Nat.le_trans hW.size hl26
   have haw1_26:=hr_p.away hl26
   have haw2_26:=hr_q.away hl26
   have haw20_26:=ho20.away hl26
   replace hBV:=hBV.below hE
   replace hB4:=hB4.below hE
   replace hB5:=hB5.below hE
   replace hB7:=hB7.below hE
   replace hB11:=hB11.below hE
   replace hr_p:=hr_p.below hE
   replace hr_q:=hr_q.below hE
   replace ho20:=ho20.below hE
   replace hW:=ktr hW hE
   refine Zo (Vw [vi 0,vi 0,vi 0,vi 0,vi 0] Xr hB26) ?_;rintro _ w9 ⟨ho,hb⟩
   have hold:=hB26
   replace hBV:=hBV.only ho (Blk.ne hBV hold rfl)
   replace hB4:=hB4.only ho (Blk.ne hB4 hold rfl)
   replace hB5:=hB5.only ho (Blk.ne hB5 hold rfl)
   replace hB7:=hB7.only ho (Blk.ne hB7 hold rfl)
   replace hB11:=hB11.only ho (Blk.ne hB11 hold rfl)
   replace hr_p:=hr_p.only ho hlo26
   replace hr_q:=hr_q.only ho hlo26
   replace ho20:=ho20.onlyA ho haw20_26
   replace hW:=Kept.only hW ho hlo26
   clear hold
   have hB26:=hb
   clear hb ho
   refine Zt hK25 fun a hf=>?_
   refine wp_seq_k fun _ hK27=>?_
   refine Zs hf fun _ hK28=>?_
   refine Za rfl ?_
   refine Zt hK28 fun a hf=>?_
   refine wp_block ?_
   refine X0j (σ:=Nat×Dy×Bool) (fun (s:Nat×Dy×Bool) (a:Act) (w:World)=>match s with|(k,sum,f3)=>Fr a 75 [(0,.pointer (some ⟨bV,0,none⟩)),(4,.pointer (some ⟨b4,0,none⟩)),(5,.pointer (some ⟨b5,0,none⟩)),(6,.pointer (some ⟨b7,0,none⟩)),(7,.pointer (some ⟨b11,0,none⟩)),(8,vi (i:Int)),(9,vi (j:Int)),(10,.pointer (some ⟨b26,0,none⟩)),(11,vi (k:Int))]∧(k≤p.cols.toNat)∧(dotS f2 p q i j k=(f3,sum))∧Blk w bV 142 [.bool f3]∧Blk w b4 38 [vi p.rows,vi (p.cols.toNat:Int),.slice Ap p.cells.length cp]∧Blk w b5 38 [vi q.rows,vi (q.cols.toNat:Int),.slice Aq q.cells.length cq]∧Blk w b7 38 [vi 0,vi 0,.slice none 0 0]∧Blk w b11 38 [vi p.rows,vi (q.cols.toNat:Int),.slice A20 l2.length c20]∧Blk w b26 98 [vi sum.num.a,vi sum.num.b,vi sum.num.c,vi sum.num.d,vi sum.exp]∧Rd w w0.heap.size 98 encD Ap p.cells∧Rd w w0.heap.size 98 encD Aq q.cells∧Own w w0.heap.size 98 5 encD A20 c20 l2∧Kept bV w0.heap.size w0 w) (fun (s:Nat×Dy×Bool)=>match s with|(k,sum,f3)=>p.cols.toNat-k) (0,dZ,f2) ?_ ?_
   ·exact ⟨hf.sub ⟨rfl,rfl,rfl,rfl,rfl,rfl,rfl,rfl,rfl,trivial⟩,(Nat.zero_le _),rfl,hBV,hB4,hB5,hB7,hB11,hB26,hr_p,hr_q,ho20,hW⟩
   rintro ⟨k,sum,f3⟩ a w10 ⟨hf,hk,hs,hBV,hB4,hB5,hB7,hB11,hB26,hr_p,hr_q,ho20,hW⟩
   have hse:0≤sum.exp∧sum.exp≤60:=by have:=X89 hpa hqa f2 i j k;rw [hs] at this;exact this
   refine wp_seq_k fun _ hK29=>?_
   refine wp_seq_k fun _ hK30=>?_
   refine X09 (fun a w=>Fr a 75 [(0,.pointer (some ⟨bV,0,none⟩)),(4,.pointer (some ⟨b4,0,none⟩)),(5,.pointer (some ⟨b5,0,none⟩)),(6,.pointer (some ⟨b7,0,none⟩)),(7,.pointer (some ⟨b11,0,none⟩)),(8,vi (i:Int)),(9,vi (j:Int)),(10,.pointer (some ⟨b26,0,none⟩)),(11,vi (k:Int)),(40,.bool ((decide ((k:Int)<(p.cols.toNat:Int)))&&(!f3)))]∧w10=w) ?_ ?_
   ·refine Zr hf ?_
    refine Zm rfl<|Ze (Vd rfl X1q 1)<|Ze (X0 rfl X5 (hB4.at 1))<|Ze (X1k rfl rfl)<|Zm rfl ?_
    refine Zg 34 rfl (fun hg31=>?_) (fun hg31=>?_)
    ·refine Zv ⟨_,_,rfl,rfl,hg31⟩ (X9 rfl) ?_
     refine Zv ⟨_,_,rfl,rfl,hg31⟩ (X38 rfl) ?_
     refine Zv ⟨_,_,rfl,rfl,hg31⟩ (Vd rfl X4p 0) ?_
     refine Zv ⟨_,_,rfl,rfl,hg31⟩ (X0 rfl Xk0 (hBV.at 0)) ?_
     refine Zv ⟨_,_,rfl,rfl,hg31⟩ (X15 rfl) ?_
     refine Ze (Xc rfl hg31 rfl) ?_
     refine Zn fun a hf=>?_
     exact ⟨hf.sub ⟨rfl,rfl,rfl,rfl,rfl,rfl,rfl,rfl,rfl,X1 rfl (by first|rfl|(simp only [hc17b,hc23b,hg31,bs];done)|simp [hc17b,hc23b,hg31]),trivial⟩,rfl⟩
    refine Zp ⟨_,_,rfl,rfl,hg31⟩ ?_
    refine Zp ⟨_,_,rfl,rfl,hg31⟩ ?_
    refine Zp ⟨_,_,rfl,rfl,hg31⟩ ?_
    refine Zp ⟨_,_,rfl,rfl,hg31⟩ ?_
    refine Zp ⟨_,_,rfl,rfl,hg31⟩ ?_
    refine Ze (X7 rfl hg31 rfl) ?_
    refine Zn fun a hf=>?_
    exact ⟨hf.sub ⟨rfl,rfl,rfl,rfl,rfl,rfl,rfl,rfl,rfl,X1 rfl (by first|rfl|(simp only [hc17b,hc23b,hg31,bs];done)|simp [hc17b,hc23b,hg31]),trivial⟩,rfl⟩
   rintro a _ ⟨hf,rfl⟩
   refine hK30 _ _ ?_
   refine Xi hf rfl (fun hc32=>?_) (fun hc32=>?_)
   ·have hc32b:=hc32
    have hlt:(k:Int)<(p.cols.toNat:Int)∧f3=false:=by simpa using hc32
    have hk1:k<p.cols.toNat:=by omega
    have hg1:=X2q (show i≤32 by omega) (show p.cols.toNat≤32 by omega)
    have hg2:=X2q (show k≤32 by omega) (show q.cols.toNat≤32 by omega)
    have hnx:=Xgt hs hlt.2
    refine wp_skip ?_
    refine hK29 _ _ ?_
    refine wp_seq_k fun _ hK33=>?_
    refine wp_block ?_
    refine Xu (some bV) (fun j=>[25].contains j) mixed ?_
    intro w11 hE
    replace hBV:=hBV.below hE
    replace hB4:=hB4.below hE
    replace hB5:=hB5.below hE
    replace hB7:=hB7.below hE
    replace hB11:=hB11.below hE
    replace hB26:=hB26.below hE
    replace hr_p:=hr_p.below hE
    replace hr_q:=hr_q.below hE
    replace ho20:=ho20.below hE
    replace hW:=ktr hW hE
    refine Yb hf ?_
    refine Yo 0 rfl (fun _=>X9 rfl) ?_
    refine Yw 1 rfl trivial (fun w1 h1=>Xj (l:=[vi sum.num.a,vi sum.num.b,vi sum.num.c,vi sum.num.d,vi sum.exp]) rfl Xg ((hB26.only h1 (Blk.ne hB26 hBV rfl)).at 0) rfl) ?_
    refine Yo 2 rfl (fun _=>X9 rfl)<|Yo 3 rfl (fun _=>Vd rfl X1o 2) ?_
    refine Yw 4 rfl trivial (fun w1 h1=>X0 rfl X2p ((hB4.only h1 (Blk.ne hB4 hBV rfl)).at 2)) ?_
    refine Yo 5 rfl (fun _=>X9 rfl)<|Yo 6 rfl (fun _=>Vd rfl X1q 1) ?_
    refine Yw 7 rfl trivial (fun w1 h1=>X0 rfl X5 ((hB4.only h1 (Blk.ne hB4 hBV rfl)).at 1)) ?_
    refine Yo 8 rfl (fun _=>Xal (m:=i) (k:=p.cols.toNat) rfl rfl (by have:=X2q (show i≤32 by omega) (show p.cols.toNat≤32 by omega);omega))<|Yo 9 rfl (fun _=>X9 rfl)<|Yo 10 rfl (fun _=>Xv rfl rfl (by omega) (by omega)) ?_
    refine Ya (k:=(i*p.cols.toNat+k)) (u:=(p.at i k)) (enc:=encD) (l:=p.cells) 11 rfl trivial hBV rfl rfl rfl X1j Xr X1e hr_p (Mx.at_get (by rw [hpl.2.2];exact X3b (by omega) (by omega))) (by omega) ?_;intro p35 hat34 hat34n
    refine Yw 12 rfl trivial (fun w1 h1=>Xj (l:=[vi ((p.at i k).num.a),vi ((p.at i k).num.b),vi ((p.at i k).num.c),vi ((p.at i k).num.d),vi ((p.at i k).exp)]) rfl Xg (hat34.only h1 hat34n) rfl) ?_
    refine Yo 13 rfl (fun _=>Vd rfl X1o 2) ?_
    refine Yw 14 rfl trivial (fun w1 h1=>X0 rfl X2p ((hB5.only h1 (Blk.ne hB5 hBV rfl)).at 2)) ?_
    refine Yo 15 rfl (fun _=>X9 rfl)<|Yo 16 rfl (fun _=>Vd rfl X1q 1) ?_
    refine Yw 17 rfl trivial (fun w1 h1=>X0 rfl X5 ((hB5.only h1 (Blk.ne hB5 hBV rfl)).at 1)) ?_
    refine Yo 18 rfl (fun _=>Xal (m:=k) (k:=q.cols.toNat) rfl rfl (by have:=X2q (show k≤32 by omega) (show q.cols.toNat≤32 by omega);omega))<|Yo 19 rfl (fun _=>X9 rfl)<|Yo 20 rfl (fun _=>Xv rfl rfl (by omega) (by omega)) ?_
    refine Ya (k:=(k*q.cols.toNat+j)) (u:=(q.at k j)) (enc:=encD) (l:=q.cells) 21 rfl trivial hBV rfl rfl rfl X1j Xr X1e hr_q (Mx.at_get (by rw [hql.2.2];exact X3b (by omega) (by omega))) (by omega) ?_;intro p37 hat36 hat36n
    refine Yw 22 rfl trivial (fun w1 h1=>Xj (l:=[vi ((q.at k j).num.a),vi ((q.at k j).num.b),vi ((q.at k j).num.c),vi ((q.at k j).num.d),vi ((q.at k j).exp)]) rfl Xg (hat36.only h1 hat36n) rfl) ?_
    refine Y1 23 ?_
    refine Yf rfl trivial (EfW.mono (Vc (Xov _ bV f3 hBV (p.at i k) (q.at k j) (X2t (Mx.at_ok hpa i k)) (X2t (Mx.at_ok hqa k j))) Xl4) (fun _ _ h=>⟨fun _=>by obtain ⟨rfl,hK,hbn⟩:=h;exact hK.keep,h⟩)) ?_;rintro _ w12 ⟨rfl,hK,hbn⟩
    obtain ⟨wm,hO,hm,hE⟩:=hK.mid;clear hm
    have hold:=hBV
    replace hB4:=hB4.only hO (Blk.ne hB4 hold rfl)
    replace hB5:=hB5.only hO (Blk.ne hB5 hold rfl)
    replace hB7:=hB7.only hO (Blk.ne hB7 hold rfl)
    replace hB11:=hB11.only hO (Blk.ne hB11 hold rfl)
    replace hB26:=hB26.only hO (Blk.ne hB26 hold rfl)
    replace hr_p:=hr_p.onlyT hO hold rfl
    replace hr_q:=hr_q.onlyT hO hold rfl
    replace ho20:=ho20.onlyT hO hold rfl
    replace hW:=hW.self hO
    replace hB4:=hB4.below hE
    replace hB5:=hB5.below hE
    replace hB7:=hB7.below hE
    replace hB11:=hB11.below hE
    replace hB26:=hB26.below hE
    replace hr_p:=hr_p.below hE
    replace hr_q:=hr_q.below hE
    replace ho20:=ho20.below hE
    replace hW:=ktr hW hE
    clear hold hE hO hK;replace hBV:=hbn;clear hbn
    refine Y1 24 ?_
    refine Yf rfl trivial (EfW.mono (Vc (Xou _ bV ((sMul f3 (p.at i k) (q.at k j)).1) hBV sum ((sMul f3 (p.at i k) (q.at k j)).2) hse (Xaj (X2t (Mx.at_ok hpa i k)) (X2t (Mx.at_ok hqa k j)))) Xju) (fun _ _ h=>⟨fun _=>by obtain ⟨rfl,hK,hbn⟩:=h;exact hK.keep,h⟩)) ?_;rintro _ w13 ⟨rfl,hK,hbn⟩
    obtain ⟨wm,hO,hm,hE⟩:=hK.mid;clear hm
    have hold:=hBV
    replace hB4:=hB4.only hO (Blk.ne hB4 hold rfl)
    replace hB5:=hB5.only hO (Blk.ne hB5 hold rfl)
    replace hB7:=hB7.only hO (Blk.ne hB7 hold rfl)
    replace hB11:=hB11.only hO (Blk.ne hB11 hold rfl)
    replace hB26:=hB26.only hO (Blk.ne hB26 hold rfl)
    replace hr_p:=hr_p.onlyT hO hold rfl
    replace hr_q:=hr_q.onlyT hO hold rfl
    replace ho20:=ho20.onlyT hO hold rfl
    replace hW:=hW.self hO
    replace hB4:=hB4.below hE
    replace hB5:=hB5.below hE
    replace hB7:=hB7.below hE
    replace hB11:=hB11.below hE
    replace hB26:=hB26.below hE
    replace hr_p:=hr_p.below hE
    replace hr_q:=hr_q.below hE
    replace ho20:=ho20.below hE
    replace hW:=ktr hW hE
    clear hold hE hO hK;replace hBV:=hbn;clear hbn
    refine Y1 25 ?_
    refine Yh rfl trivial rfl (Vw [vi (((sAdd ((sMul f3 (p.at i k) (q.at k j)).1) sum ((sMul f3 (p.at i k) (q.at k j)).2)).2).num.a),vi (((sAdd ((sMul f3 (p.at i k) (q.at k j)).1) sum ((sMul f3 (p.at i k) (q.at k j)).2)).2).num.b),vi (((sAdd ((sMul f3 (p.at i k) (q.at k j)).1) sum ((sMul f3 (p.at i k) (q.at k j)).2)).2).num.c),vi (((sAdd ((sMul f3 (p.at i k) (q.at k j)).1) sum ((sMul f3 (p.at i k) (q.at k j)).2)).2).num.d),vi (((sAdd ((sMul f3 (p.at i k) (q.at k j)).1) sum ((sMul f3 (p.at i k) (q.at k j)).2)).2).exp)] Xr hB26) ?_;rintro _ w14 ⟨ho,hb⟩
    have hold:=hB26
    replace hBV:=hBV.only ho (Blk.ne hBV hold rfl)
    replace hB4:=hB4.only ho (Blk.ne hB4 hold rfl)
    replace hB5:=hB5.only ho (Blk.ne hB5 hold rfl)
    replace hB7:=hB7.only ho (Blk.ne hB7 hold rfl)
    replace hB11:=hB11.only ho (Blk.ne hB11 hold rfl)
    replace hr_p:=hr_p.only ho hlo26
    replace hr_q:=hr_q.only ho hlo26
    replace ho20:=ho20.onlyA ho haw20_26
    replace hW:=Kept.only hW ho hlo26
    clear hold
    have hB26:=hb
    clear hb ho
    refine Yd fun a hf=>?_
    refine Xf ?_
    refine hK33 _ _ ?_
    refine Zr hf ?_
    refine Zm rfl<|Ze (Xv rfl rfl (by omega) (by omega))<|Za rfl ?_
    refine Zn fun a hf=>?_
    refine Xn ?_
    exact ⟨(k+1,(sAdd (sMul f3 (p.at i k) (q.at k j)).1 sum (sMul f3 (p.at i k) (q.at k j)).2).2,(sAdd (sMul f3 (p.at i k) (q.at k j)).1 sum (sMul f3 (p.at i k) (q.at k j)).2).1),⟨hf.sub ⟨rfl,rfl,rfl,rfl,rfl,rfl,rfl,rfl,rfl,trivial⟩,(by omega),hnx,hBV,hB4,hB5,hB7,hB11,hB26,hr_p,hr_q,ho20,hW⟩,(by first|omega|(dsimp only;omega))⟩
   have hc32b:=hc32
   have hend:f3=true∨k=p.cols.toNat:=by (cases f3 with|true=>exact .inl rfl|false=>exact .inr (by have h9:¬ (k:Int)<(p.cols.toNat:Int):=(by simpa using hc32);omega))
   have hde:=Xh8 hs hk hend
   rw [hde] at hts
   refine wp_exit ?_
   refine Xs ?_
   refine Xs ?_
   refine X0h ?_
   refine hK27 _ _ ?_
   refine Zr hf ?_
   refine Ze (Vd rfl X1o 2)<|Ze (X0 rfl X2p (hB11.at 2))<|Ze (Vn Xg hB26) ?_
   refine Zf (X4 (k:=1) (vs:=[.agg #[vi sum.num.a,vi sum.num.b,vi sum.num.c,vi sum.num.d,vi sum.exp]]) (zs:=[vi sum.num.a,vi sum.num.b,vi sum.num.c,vi sum.num.d,vi sum.exp]) rfl X1j X2k rfl rfl) ?_;rintro _ w15 ⟨b38,rfl,hl38,hE,hB38⟩
   have hne26_38:b26≠b38:=by have:=hB26.lt;omega
   have hlo38:=Nat.le_trans hW.size hl38
   have haw1_38:=hr_p.away hl38
   have haw2_38:=hr_q.away hl38
   have haw20_38:=ho20.away hl38
   replace hBV:=hBV.below hE
   replace hB4:=hB4.below hE
   replace hB5:=hB5.below hE
   replace hB7:=hB7.below hE
   replace hB11:=hB11.below hE
   replace hB26:=hB26.below hE
   replace hr_p:=hr_p.below hE
   replace hr_q:=hr_q.below hE
   replace ho20:=ho20.below hE
   replace hW:=ktr hW hE
   refine Zf (X0f (enc:=encD) (l:=(l2)) (l2:=([sum])) (B0:=w0.heap.size) rfl rfl X1j X2k X1e X5k ho20 (Rd.of_blk hB38 rfl _ hB38.lt) (by simp only [maxLen];simp;omega) (by simp;omega) hW.size) ?_;rintro _ w16 ⟨A40,c40,rfl,ho40,hg,hat⟩
   have hown:Own _ w0.heap.size 98 5 encD _ _ (l2):=ho20
   have haw40_26:=hat _ hB26.lt haw20_26
   have haw40_38:=hat _ hB38.lt haw20_38
   clear hat
   replace hBV:=hBV.appT hown hg rfl
   replace hB4:=hB4.appT hown hg rfl
   replace hB5:=hB5.appT hown hg rfl
   replace hB7:=hB7.appT hown hg rfl
   replace hB11:=hB11.appT hown hg rfl
   replace hB26:=hB26.appA hg haw20_26
   replace hr_p:=hr_p.appB hown hg (Nat.le_refl _)
   replace hr_q:=hr_q.appB hown hg (Nat.le_refl _)
   replace hW:=Kept.app hW hown hg (Nat.le_refl _) hW.size
   clear hown hg
   refine Ze (Vd rfl X1o 2) ?_
   refine Zo (Vu (vs:=[.slice A40 (l2++([sum])).length c40]) (l':=[vi p.rows,vi (q.cols.toNat:Int),.slice A40 (l2++([sum])).length c40]) rfl rfl Xbs hB11) ?_;rintro _ w17 ⟨ho,hb⟩
   have hold:=hB11
   replace hBV:=hBV.only ho (Blk.ne hBV hold rfl)
   replace hB4:=hB4.only ho (by omega)
   replace hB5:=hB5.only ho (by omega)
   replace hB7:=hB7.only ho (by omega)
   replace hB26:=hB26.only ho (Blk.ne hB26 hold rfl)
   replace hr_p:=hr_p.onlyT ho hold rfl
   replace hr_q:=hr_q.onlyT ho hold rfl
   replace ho40:=ho40.onlyT ho hold rfl
   replace hW:=Kept.only hW ho hlo11
   clear hold
   have hB11:=hb
   clear hb ho
   refine Zn fun a hf=>?_
   refine Xf ?_
   refine hK24 _ _ ?_
   refine Zr hf ?_
   refine Zm rfl<|Ze (Xv rfl rfl (by omega) (by omega))<|Za rfl ?_
   refine Zn fun a hf=>?_
   refine Xn ?_
   exact ⟨(j+1,l2++[sum],f3),⟨A40,c40,hf.sub ⟨rfl,rfl,rfl,rfl,rfl,rfl,rfl,trivial⟩,(by omega),hts,hBV,hB4,hB5,hB7,hB11,hr_p,hr_q,ho40,hW⟩,(by first|omega|(dsimp only;omega))⟩
  have hc23b:=hc23
  have hc23:=of_decide_eq_false hc23
  have hj1:j=q.cols.toNat:=by have:=hc23;omega
  refine wp_exit ?_
  refine Xs ?_
  refine Xs ?_
  refine X0h ?_
  refine Xf ?_
  refine hK18 _ _ ?_
  refine Zr hf ?_
  refine Zm rfl<|Ze (Xv rfl rfl (by omega) (by omega))<|Za rfl ?_
  refine Zn fun a hf=>?_
  refine Xn ?_
  exact ⟨(i+1,l2,f2),⟨A20,c20,hf.sub ⟨rfl,rfl,rfl,rfl,rfl,rfl,trivial⟩,(by omega),(by rw [Nat.add_mul,Nat.one_mul,← hj1];rw [← hj1] at hl2;exact hl2),hBV,hB4,hB5,hB7,hB11,hr_p,hr_q,ho20,hW⟩,(by first|omega|(dsimp only;omega))⟩
 have hc17b:=hc17
 have hc17:=of_decide_eq_false hc17
 have hi1:i=p.rows.toNat:=by have:=hc17;omega
 refine wp_exit ?_
 refine Xs ?_
 refine Xs ?_
 refine X0h ?_
 refine hK12 _ _ ?_
 refine Zs hf fun _ hK41=>?_
 refine Ze (Vn X0q hB11) ?_
 refine Zo (Vw [vi p.rows,vi (q.cols.toNat:Int),.slice A14 l.length c14] X18 hB7) ?_;rintro _ w18 ⟨ho,hb⟩
 have hold:=hB7
 replace hBV:=hBV.only ho (Blk.ne hBV hold rfl)
 replace hB4:=hB4.only ho (by omega)
 replace hB5:=hB5.only ho (by omega)
 replace hB11:=hB11.only ho (by omega)
 replace hr_p:=hr_p.onlyT ho hold rfl
 replace hr_q:=hr_q.onlyT ho hold rfl
 replace ho14:=ho14.onlyT ho hold rfl
 replace hW:=Kept.only hW ho hlo7
 clear hold
 have hB7:=hb
 clear hb ho
 refine Zt hK41 fun a hf=>?_
 refine wp_ret (X2 hf (Xo hf rfl (ResV.cellN (l:=[vi p.rows,vi (q.cols.toNat:Int),.slice A14 l.length c14]) rfl X0q (hB7.at 0) rfl)) ?_)
 have hfin:timesS f p q=(f1,⟨p.rows,q.cols,l⟩):=by rw [timesS,← hi1,hl]
 rw [hfin]
 exact ⟨A14,c14,rfl,ho14,hW,hBV⟩
end Go.Proofs.YtlfjcmldfbfdbaaGreat
set_option maxRecDepth 4000
namespace Go.Proofs.YtlfjcmldfbfdbaaGreat
open Go.RowKit
theorem Xnx(w0:World)(bV:Nat)(f:Bool)(hBV:Blk w0 bV 142 [.bool f])(c:Cx)(Ac:Option Addr)(cc:Nat)(hr_c:Rd w0 w0.heap.size 24 encG Ac c.gs)(m:Mx)(Am:Option Addr)(cm:Nat)(hr_m:Rd w0 w0.heap.size 98 encD Am m.cells)(hc:cOk c=true)(hm:mOk m=true)(hr:m.rows=((2^c.n.toNat:Nat) : Int)) : Ret Tryz.prog 148 [.pointer (some ⟨bV,0,none⟩),.agg #[vi c.n,.slice Ac c.gs.length cc],.agg #[vi m.rows,vi m.cols,.slice Am m.cells.length cm]] w0 (fun v w=>∃ A c1,v=mV A c1 ((runS c.n f c.gs m).2)∧Rd w w.heap.size 98 encD A ((runS c.n f c.gs m).2).cells∧Kept bV w0.heap.size w0 w∧Blk w bV 142 [.bool ((runS c.n f c.gs m).1)]):=by
 have hltV:=hBV.lt
 obtain ⟨hn,hlen,hgs⟩:=X20 hc
 refine enter Tryz.func148 rfl 30 rfl rfl ?_
 intro a hf
 have hW:Kept bV w0.heap.size w0 w0:=Kept.refl _ _ _
 refine Zs hf fun _ hK3=>?_
 refine Zf (X0p (zs:=[vi c.n,.slice Ac c.gs.length cc]) rfl rfl) ?_;rintro _ w1 ⟨b4,rfl,hl4,hE,hB4⟩
 have hlo4:=Nat.le_trans hW.size hl4
 replace hBV:=hBV.below hE
 replace hr_c:=hr_c.below hE
 replace hr_m:=hr_m.below hE
 replace hW:=ktr hW hE
 refine Zf (X0p (zs:=[vi m.rows,vi m.cols,.slice Am m.cells.length cm]) rfl rfl) ?_;rintro _ w2 ⟨b5,rfl,hl5,hE,hB5⟩
 have hlo5:=Nat.le_trans hW.size hl5
 replace hBV:=hBV.below hE
 replace hB4:=hB4.below hE
 replace hr_c:=hr_c.below hE
 replace hr_m:=hr_m.below hE
 replace hW:=ktr hW hE
 refine Zf (Xa (zs:=[vi 0,vi 0,.slice none 0 0]) X1y rfl) ?_;rintro _ w3 ⟨b7,rfl,hl7,hE,hB7⟩
 have hne5_7:b5≠b7:=by have:=hB5.lt;omega
 have hlo7:=Nat.le_trans hW.size hl7
 replace hBV:=hBV.below hE
 replace hB4:=hB4.below hE
 replace hB5:=hB5.below hE
 replace hr_c:=hr_c.below hE
 replace hr_m:=hr_m.below hE
 replace hW:=ktr hW hE
 refine Zt hK3 fun a hf=>?_
 refine wp_seq_k fun _ hK8=>?_
 refine Zs hf fun _ hK9=>?_
 refine Ze (Vd rfl Xw 1)<|Ze (X0 rfl X06 (hB4.at 1))<|Ze (X0v rfl Xd)<|Zm rfl ?_
 refine Zt hK9 fun a hf=>?_
 refine wp_block ?_
 refine X0j (σ:=Nat×Mx×Bool) (fun (s:Nat×Mx×Bool) (a:Act) (w:World)=>match s with|(k,x,f1)=>∃ A10 c10,Fr a 30 [(0,.pointer (some ⟨bV,0,none⟩)),(4,.pointer (some ⟨b4,0,none⟩)),(5,.pointer (some ⟨b5,0,none⟩)),(6,.pointer (some ⟨b7,0,none⟩)),(10,.slice Ac c.gs.length cc),(11,vi (c.gs.length:Int)),(12,vi (k:Int))]∧(runS c.n f1 (c.gs.drop k) x=runS c.n f c.gs m)∧(f1=false→mOk x=true∧x.rows=((2^c.n.toNat:Nat) : Int))∧(k≤c.gs.length)∧Blk w bV 142 [.bool f1]∧Blk w b4 31 [vi c.n,.slice Ac c.gs.length cc]∧Blk w b5 38 [vi x.rows,vi x.cols,.slice A10 x.cells.length c10]∧Blk w b7 38 [vi 0,vi 0,.slice none 0 0]∧Rd w w0.heap.size 24 encG Ac c.gs∧Rd w w.heap.size 98 encD A10 x.cells∧Kept bV w0.heap.size w0 w) (fun (s:Nat×Mx×Bool)=>match s with|(k,x,f1)=>c.gs.length-k) (0,m,f) ?_ ?_
 ·exact ⟨Am,cm,hf.sub ⟨rfl,rfl,rfl,rfl,rfl,rfl,rfl,trivial⟩,rfl,(fun _=>⟨hm,hr⟩),(Nat.zero_le _),hBV,hB4,hB5,hB7,hr_c,hr_m.top,hW⟩
 rintro ⟨k,x,f1⟩ a w4 ⟨A10,c10,hf,hinv,hok,hk,hBV,hB4,hB5,hB7,hr_c,hr10,hW⟩
 refine Zs hf fun _ hK11=>?_
 refine Ze (X1k rfl rfl) ?_
 refine Zt hK11 fun a hf=>?_
 refine wp_seq_k fun _ hK12=>?_
 refine Xi hf rfl (fun hc13=>?_) (fun hc13=>?_)
 ·have hc13b:=hc13
  have hc13:=of_decide_eq_true hc13
  obtain ⟨u14,hu14⟩:=Xx (l:=c.gs) (k:=k) (by omega)
  have hgu:=hgs u14 (List.mem_of_getElem? hu14)
  obtain ⟨hg1,hg2⟩:=X69 hgu
  have hdr:=X4d hu14
  refine wp_skip ?_
  refine hK12 _ _ ?_
  refine wp_seq_k fun _ hK15=>?_
  refine wp_block ?_
  refine Zs hf fun _ hK16=>?_
  refine Zi (k:=k) (u:=u14) (enc:=encG) (l:=c.gs) trivial rfl rfl Xd X0a Xb hr_c hu14 rfl ?_;intro p18 hat17
  refine Ze (Xj (l:=[vi u14.k,vi u14.a,vi u14.b]) rfl X08 hat17 rfl) ?_
  refine Zf (Xa (zs:=[vi 0,vi 0,vi 0]) X2l rfl) ?_;rintro _ w5 ⟨b19,rfl,hl19,hE,hB19⟩
  have hlo19:=Nat.le_trans hW.size hl19
  have haw1_19:=hr_c.away hl19
  replace hBV:=hBV.below hE
  replace hB4:=hB4.below hE
  replace hB5:=hB5.below hE
  replace hB7:=hB7.below hE
  replace hr_c:=hr_c.below hE
  replace hr10:=hr10.below hE
  replace hW:=ktr hW hE
  refine Zo (Vw [vi u14.k,vi u14.a,vi u14.b] X0a hB19) ?_;rintro _ w6 ⟨ho,hb⟩
  have hold:=hB19
  replace hBV:=hBV.only ho (Blk.ne hBV hold rfl)
  replace hB4:=hB4.only ho (Blk.ne hB4 hold rfl)
  replace hB5:=hB5.only ho (Blk.ne hB5 hold rfl)
  replace hB7:=hB7.only ho (Blk.ne hB7 hold rfl)
  replace hr_c:=hr_c.only ho hlo19
  replace hr10:=hr10.onlyT ho hold rfl
  replace hW:=Kept.only hW ho hlo19
  clear hold
  have hB19:=hb
  clear hb ho
  refine Zt hK16 fun a hf=>?_
  refine Zs hf fun _ hK20=>?_
  refine Zm rfl<|Ze (X38 rfl)<|Ze (Vd rfl X4p 0)<|Ze (X0 rfl Xk0 (hBV.at 0))<|Ze (X15 rfl) ?_
  refine Zt hK20 fun a hf=>?_
  refine Xi hf rfl (fun hc21=>?_) (fun hc21=>?_)
  ·have hc21b:=hc21
   have hb1:f1=false:=by simpa using hc21
   have hma:=X6j hg2 (hok hb1).1 (by rw [(hok hb1).2];rfl)
   have hrn:runS c.n f1 (c.gs.drop k) x=runS c.n (timesS f1 (gateS c.n u14) x).1 (c.gs.drop (k+1)) (timesS f1 (gateS c.n u14) x).2:=by rw [hb1,hdr,runS,if_neg (by decide)]
   refine Xu (some bV) (fun j=>[7].contains j) mixed ?_
   intro w7 hE
   replace hBV:=hBV.below hE
   replace hB4:=hB4.below hE
   replace hB5:=hB5.below hE
   replace hB7:=hB7.below hE
   replace hB19:=hB19.below hE
   replace hr_c:=hr_c.below hE
   replace hr10:=hr10.below hE
   replace hW:=ktr hW hE
   refine Yb hf ?_
   refine Yo 0 rfl (fun _=>X9 rfl)<|Yo 1 rfl (fun _=>Vd rfl X1b 0) ?_
   refine Yw 2 rfl trivial (fun w1 h1=>X0 rfl X5 ((hB4.only h1 (Blk.ne hB4 hBV rfl)).at 0)) ?_
   refine Yw 3 rfl trivial (fun w1 h1=>Xj (l:=[vi u14.k,vi u14.a,vi u14.b]) rfl X08 ((hB19.only h1 (Blk.ne hB19 hBV rfl)).at 0) rfl) ?_
   refine Yw 5 rfl trivial (fun w1 h1=>Xj (l:=[vi x.rows,vi x.cols,.slice A10 x.cells.length c10]) rfl X0q ((hB5.only h1 (Blk.ne hB5 hBV rfl)).at 0) rfl) ?_
   refine Y1 4 ?_
   refine Yf rfl trivial (EfW.mono (Vc (Xoy _ c.n u14 hgu) Xjy) (fun _ _ h=>⟨fun _=>by obtain ⟨A22,c22,rfl,ho22,hE⟩:=h;exact Keep.of_below hE,h⟩)) ?_;rintro _ w8 ⟨A22,c22,rfl,ho22,hE⟩
   replace ho22:=ho22.lower hW.size
   replace hBV:=hBV.below hE
   replace hB4:=hB4.below hE
   replace hB5:=hB5.below hE
   replace hB7:=hB7.below hE
   replace hB19:=hB19.below hE
   replace hr_c:=hr_c.below hE
   replace hr10:=hr10.below hE
   replace hW:=ktr hW hE
   refine Y1 6 ?_
   refine Yf rfl trivial (EfW.mono (Vc (Xp6 _ bV f1 hBV (gateS c.n u14) A22 c22 ho22.rd.top x A10 c10 hr10.top hg2 (hok hb1).1 (by rw [(hok hb1).2];rfl)) Xl8) (fun _ _ h=>⟨fun _=>by obtain ⟨A23,c23,rfl,ho23,hK,hbn⟩:=h;exact hK.keep,h⟩)) ?_;rintro _ w9 ⟨A23,c23,rfl,ho23,hK,hbn⟩
   have hlv:=hW.size
   obtain ⟨wm,hO,hm,hE⟩:=hK.mid;clear hm
   have hold:=hBV
   replace hB4:=hB4.only hO (Blk.ne hB4 hold rfl)
   replace hB5:=hB5.only hO (Blk.ne hB5 hold rfl)
   replace hB7:=hB7.only hO (Blk.ne hB7 hold rfl)
   replace hB19:=hB19.only hO (Blk.ne hB19 hold rfl)
   replace hr_c:=hr_c.onlyT hO hold rfl
   replace hr10:=hr10.onlyT hO hold rfl
   replace ho22:=ho22.onlyT hO hold rfl
   replace hW:=hW.self hO
   replace hB4:=hB4.below hE
   replace hB5:=hB5.below hE
   replace hB7:=hB7.below hE
   replace hB19:=hB19.below hE
   replace hr_c:=hr_c.below hE
   replace hr10:=hr10.below hE
   replace ho22:=ho22.below hE
   replace hW:=ktr hW hE
   clear hold hE hO hK;replace hBV:=hbn;clear hbn
   replace ho23:=ho23.lower hlv;clear hlv
   refine Y1 7 ?_
   refine Yh rfl trivial rfl (Vw [vi (((timesS f1 (gateS c.n u14) x).2).rows),vi (((timesS f1 (gateS c.n u14) x).2).cols),.slice A23 (((timesS f1 (gateS c.n u14) x).2).cells).length c23] X18 hB5) ?_;rintro _ w10 ⟨ho,hb⟩
   have hold:=hB5
   replace hBV:=hBV.only ho (Blk.ne hBV hold rfl)
   replace hB4:=hB4.only ho (Blk.ne hB4 hold rfl)
   replace hB7:=hB7.only ho (by omega)
   replace hB19:=hB19.only ho (Blk.ne hB19 hold rfl)
   replace hr_c:=hr_c.onlyT ho hold rfl
   replace hr10:=hr10.onlyT ho hold rfl
   replace ho22:=ho22.onlyT ho hold rfl
   replace ho23:=ho23.onlyT ho hold rfl
   replace hW:=Kept.only hW ho hlo5
   clear hold
   have hB5:=hb
   clear hb ho
   refine Yd fun a hf=>?_
   refine Xf ?_
   refine hK15 _ _ ?_
   refine Zr hf ?_
   refine Ze (Xv rfl rfl (by omega) (by omega))<|Zm rfl ?_
   refine Zn fun a hf=>?_
   refine Xn ?_
   exact ⟨(k+1,(timesS f1 (gateS c.n u14) x).2,(timesS f1 (gateS c.n u14) x).1),⟨A23,c23,hf.sub ⟨rfl,rfl,rfl,rfl,rfl,rfl,rfl,trivial⟩,(by rw [← hinv,hrn]),(by rw [hb1];intro h0;cases h1:mulI (gateS c.n u14) x with|none=>rw [hma.2 h1] at h0;cases h0|some x1=>rw [(hma.1 x1 h1).1];exact ⟨(hma.1 x1 h1).2.1,by rw [(hma.1 x1 h1).2.2.1];rfl⟩),(by omega),hBV,hB4,hB5,hB7,hr_c,ho23.rd,hW⟩,(by first|omega|(dsimp only;omega))⟩
  have hc21b:=hc21
  have hb1:f1=true:=by simpa using hc21
  have hrn:runS c.n f1 (c.gs.drop k) x=runS c.n f1 (c.gs.drop (k+1)) x:=by rw [hb1,X6e,X6e]
  refine wp_skip ?_
  refine Xf ?_
  refine hK15 _ _ ?_
  refine Zr hf ?_
  refine Ze (Xv rfl rfl (by omega) (by omega))<|Zm rfl ?_
  refine Zn fun a hf=>?_
  refine Xn ?_
  exact ⟨(k+1,x,f1),⟨A10,c10,hf.sub ⟨rfl,rfl,rfl,rfl,rfl,rfl,rfl,trivial⟩,(by rw [← hinv,hrn]),(fun h0=>by rw [hb1] at h0;cases h0),(by omega),hBV,hB4,hB5,hB7,hr_c,hr10.top,hW⟩,(by first|omega|(dsimp only;omega))⟩
 have hc13b:=hc13
 have hc13:=of_decide_eq_false hc13
 refine wp_exit ?_
 refine Xs ?_
 refine Xs ?_
 refine X0h ?_
 refine hK8 _ _ ?_
 refine Zs hf fun _ hK24=>?_
 refine Ze (Vn X0q hB5) ?_
 refine Zo (Vw [vi x.rows,vi x.cols,.slice A10 x.cells.length c10] X18 hB7) ?_;rintro _ w11 ⟨ho,hb⟩
 have hold:=hB7
 replace hBV:=hBV.only ho (Blk.ne hBV hold rfl)
 replace hB4:=hB4.only ho (Blk.ne hB4 hold rfl)
 replace hB5:=hB5.only ho (by omega)
 replace hr_c:=hr_c.onlyT ho hold rfl
 replace hr10:=hr10.onlyT ho hold rfl
 replace hW:=Kept.only hW ho hlo7
 clear hold
 have hB7:=hb
 clear hb ho
 refine Zt hK24 fun a hf=>?_
 refine wp_ret (X2 hf (Xo hf rfl (ResV.cellN (l:=[vi x.rows,vi x.cols,.slice A10 x.cells.length c10]) rfl X0q (hB7.at 0) rfl)) ?_)
 have hfin:runS c.n f c.gs m=(f1,x):=by rw [← hinv,List.drop_of_length_le (by omega)];rfl
 rw [hfin]
 exact ⟨A10,c10,rfl,hr10.top,hW,hBV⟩
theorem Xo9(w0:World)(bV:Nat)(f:Bool)(hBV:Blk w0 bV 142 [.bool f])(m:Mx)(Am:Option Addr)(cm:Nat)(hr_m:Rd w0 w0.heap.size 98 encD Am m.cells) : Ret Tryz.prog 147 [.pointer (some ⟨bV,0,none⟩),.agg #[vi m.rows,vi m.cols,.slice Am m.cells.length cm]] w0 (fun v w=>∃ A c1,v=.tuple #[mV A c1 (if f=true then mZ else m),.bool (!f)]∧Rd w w.heap.size 98 encD A (if f=true then mZ else m).cells∧Kept bV w0.heap.size w0 w∧Blk w bV 142 [.bool f]):=by
 have hltV:=hBV.lt
 refine enter Tryz.func147 rfl 12 rfl rfl ?_
 intro a hf
 have hW:Kept bV w0.heap.size w0 w0:=Kept.refl _ _ _
 refine Zs hf fun _ hK2=>?_
 refine Zf (X0p (zs:=[vi m.rows,vi m.cols,.slice Am m.cells.length cm]) rfl rfl) ?_;rintro _ w1 ⟨b3,rfl,hl3,hE,hB3⟩
 have hlo3:=Nat.le_trans hW.size hl3
 replace hBV:=hBV.below hE
 replace hr_m:=hr_m.below hE
 replace hW:=ktr hW hE
 refine Zf (Xa (zs:=[vi 0,vi 0,.slice none 0 0]) X1y rfl) ?_;rintro _ w2 ⟨b5,rfl,hl5,hE,hB5⟩
 have hne3_5:b3≠b5:=by have:=hB3.lt;omega
 have hlo5:=Nat.le_trans hW.size hl5
 replace hBV:=hBV.below hE
 replace hB3:=hB3.below hE
 replace hr_m:=hr_m.below hE
 replace hW:=ktr hW hE
 refine Za rfl ?_
 refine Zt hK2 fun a hf=>?_
 refine wp_seq_k fun _ hK6=>?_
 refine Zs hf fun _ hK7=>?_
 refine Zm rfl<|Ze (X38 rfl)<|Ze (Vd rfl X4p 0)<|Ze (X0 rfl Xk0 (hBV.at 0)) ?_
 refine Zt hK7 fun a hf=>?_
 refine Xi hf rfl (fun hc8=>?_) (fun hc8=>?_)
 ·have hc8b:=hc8
  have hb:f=true:=hc8
  have hfin:(if f=true then mZ else m)=mZ:=if_pos hb
  have hfi2:(!f)=false:=by rw [hb];rfl
  refine Zs hf fun _ hK9=>?_
  refine Ze (Xh (ps:=[]) (cs:=[vi 0,vi 0,.slice none 0 0]) rfl (fun _=>by first|rfl|kernel_rfl)) ?_
  refine Zo (Vw [vi 0,vi 0,.slice none 0 0] X18 hB5) ?_;rintro _ w3 ⟨ho,hb⟩
  have hold:=hB5
  replace hBV:=hBV.only ho (Blk.ne hBV hold rfl)
  replace hB3:=hB3.only ho (by omega)
  replace hr_m:=hr_m.onlyT ho hold rfl
  replace hW:=Kept.only hW ho hlo5
  clear hold
  have hB5:=hb
  clear hb ho
  refine Za rfl ?_
  refine Zt hK9 fun a hf=>?_
  refine wp_ret ?_
  refine X8 ?_
  refine X2 hf (X0r hf rfl (ResV.cellN (l:=[vi 0,vi 0,.slice none 0 0]) rfl X0q (hB5.at 0) rfl) rfl) ?_
  rw [hfin,hfi2]
  exact ⟨none,0,rfl,(Rd.nil _ 0 _ _ _).top,hW,hBV⟩
 have hc8b:=hc8
 have hb:f=false:=hc8
 have hfin:(if f=true then mZ else m)=m:=if_neg (by rw [hb];simp)
 have hfi2:(!f)=true:=by rw [hb];rfl
 refine wp_skip ?_
 refine hK6 _ _ ?_
 refine Zs hf fun _ hK11=>?_
 refine Ze (Vn X0q hB3) ?_
 refine Zo (Vw [vi m.rows,vi m.cols,.slice Am m.cells.length cm] X18 hB5) ?_;rintro _ w4 ⟨ho,hb⟩
 have hold:=hB5
 replace hBV:=hBV.only ho (Blk.ne hBV hold rfl)
 replace hB3:=hB3.only ho (by omega)
 replace hr_m:=hr_m.onlyT ho hold rfl
 replace hW:=Kept.only hW ho hlo5
 clear hold
 have hB5:=hb
 clear hb ho
 refine Za rfl ?_
 refine Zt hK11 fun a hf=>?_
 refine wp_ret (X2 hf (X0r hf rfl (ResV.cellN (l:=[vi m.rows,vi m.cols,.slice Am m.cells.length cm]) rfl X0q (hB5.at 0) rfl) rfl) ?_)
 rw [hfin,hfi2]
 exact ⟨Am,cm,rfl,hr_m.top,hW,hBV⟩
theorem Xn7(w0:World)(c:Cx)(Ac:Option Addr)(cc:Nat)(hr_c:Rd w0 w0.heap.size 24 encG Ac c.gs) : Ret Tryz.prog 85 [.agg #[vi c.n,.slice Ac c.gs.length cc]] w0 (fun v w=>∃ A c1,v=.tuple #[mV A c1 ((opS c).getD mZ),.bool (opS c).isSome]∧Rd w w.heap.size 98 encD A ((opS c).getD mZ).cells∧Below w0.heap.size w0 w):=by
 refine enter Tryz.func85 rfl 23 rfl rfl ?_
 intro a hf
 have hW:Below w0.heap.size w0 w0:=Below.refl _ _
 refine Zs hf fun _ hK2=>?_
 refine Zf (X0p (zs:=[vi c.n,.slice Ac c.gs.length cc]) rfl rfl) ?_;rintro _ w1 ⟨b3,rfl,hl3,hE,hB3⟩
 have hlo3:=Nat.le_trans hW.size hl3
 replace hW:=btr hW hE
 refine Zf (Xa (zs:=[vi 0,vi 0,.slice none 0 0]) X1y rfl) ?_;rintro _ w2 ⟨b5,rfl,hl5,hE,hB5⟩
 have hlo5:=Nat.le_trans hW.size hl5
 replace hB3:=hB3.below hE
 replace hW:=btr hW hE
 refine Za rfl ?_
 refine Zt hK2 fun a hf=>?_
 refine wp_seq_k fun _ hK6=>?_
 refine Zs hf fun _ hK7=>?_
 refine Ze (Vn X0c hB3) ?_
 refine Zf (Vc (F53 _ c Ac cc (hr_c.below' hW).top) Xf0) ?_;rintro _ w3 ⟨rfl,hE⟩
 replace hB3:=hB3.below hE
 replace hB5:=hB5.below hE
 replace hW:=btr hW hE
 refine Ze (X15 rfl) ?_
 refine Zt hK7 fun a hf=>?_
 refine Xi hf rfl (fun hc8=>?_) (fun hc8=>?_)
 ·have hc8b:=hc8
  have hn:¬ cOk c=true:=by revert hc8;cases cOk c<;>simp
  refine Zs hf fun _ hK9=>?_
  refine Ze (Xh (ps:=[]) (cs:=[vi 0,vi 0,.slice none 0 0]) rfl (fun _=>by first|rfl|kernel_rfl)) ?_
  refine Zo (Vw [vi 0,vi 0,.slice none 0 0] X18 hB5) ?_;rintro _ w4 ⟨ho,hb⟩
  have hold:=hB5
  replace hB3:=hB3.only ho (Blk.ne hB3 hold rfl)
  replace hW:=Below.only hW ho hlo5
  clear hold
  have hB5:=hb
  clear hb ho
  refine Za rfl ?_
  refine Zt hK9 fun a hf=>?_
  refine wp_ret ?_
  refine X8 ?_
  refine X2 hf (X0r hf rfl (ResV.cellN (l:=[vi 0,vi 0,.slice none 0 0]) rfl X0q (hB5.at 0) rfl) rfl) ?_
  have hfin:opS c=none:=by rw [opS,if_neg hn]
  rw [hfin]
  exact ⟨none,0,rfl,(Rd.nil _ 0 _ _ _).top,hW⟩
 have hc8b:=hc8
 have hc:cOk c=true:=by revert hc8;cases cOk c<;>simp
 obtain ⟨hn,hlen,hgs⟩:=X20 hc
 obtain ⟨d,hd⟩ : ∃ d:Nat,d=2^c.n.toNat:=⟨_,rfl⟩
 refine wp_skip ?_
 refine hK6 _ _ ?_
 refine Zs hf fun _ hK11=>?_
 refine Ze (Xh (ps:=[]) (cs:=[.bool false]) rfl (fun _=>by first|rfl|kernel_rfl)) ?_
 refine Zf (X0p (zs:=[.bool false]) rfl rfl) ?_;rintro _ w5 ⟨b12,rfl,hl12,hE,hB12⟩
 have hlo12:=Nat.le_trans hW.size hl12
 replace hB3:=hB3.below hE
 replace hB5:=hB5.below hE
 replace hW:=btr hW hE
 refine Za rfl ?_
 refine Zt hK11 fun a hf=>?_
 refine wp_seq_k fun _ hK13=>?_
 refine Xu (some b12) (fun j=>[12].contains j) mixed ?_
 intro w6 hE
 replace hB3:=hB3.below hE
 replace hB5:=hB5.below hE
 replace hB12:=hB12.below hE
 replace hW:=btr hW hE
 refine Yb hf ?_
 refine Yo 0 rfl (fun _=>X9 rfl)<|Yo 1 rfl (fun _=>X9 rfl) ?_
 refine Yw 2 rfl trivial (fun w1 h1=>Xj (l:=[vi c.n,.slice Ac c.gs.length cc]) rfl X0c ((hB3.only h1 (Blk.ne hB3 hB12 rfl)).at 0) rfl) ?_
 refine Yo 3 rfl (fun _=>Vd rfl X1b 0) ?_
 refine Yw 4 rfl trivial (fun w1 h1=>X0 rfl X5 ((hB3.only h1 (Blk.ne hB3 hB12 rfl)).at 0)) ?_
 refine Yo 5 rfl (fun _=>Xc2 (m:=c.n.toNat) Tryz.underlying3 Tryz.underlying165 rfl (by omega) (by omega))<|Yo 6 rfl (fun _=>Xb1 (m:=c.n.toNat) (D:=d) rfl rfl rfl ⟨hd,by omega⟩) ?_
 refine Y1 7 ?_
 refine Yf rfl trivial (EfW.mono (Vc (Xoj _ d (by rw [hd];exact X4i hn.2)) Xjt) (fun _ _ h=>⟨fun _=>by obtain ⟨A14,c14,rfl,ho14,hE⟩:=h;exact Keep.of_below hE,h⟩)) ?_;rintro _ w7 ⟨A14,c14,rfl,ho14,hE⟩
 replace ho14:=ho14.lower hW.size
 replace hB3:=hB3.below hE
 replace hB5:=hB5.below hE
 replace hB12:=hB12.below hE
 replace hW:=btr hW hE
 refine Y1 8 ?_
 refine Yf rfl trivial (EfW.mono (Vc (Xnx _ b12 false hB12 c Ac cc (hr_c.below' hW).top (unitS d) A14 c14 ho14.rd.top hc (X4a (by rw [hd];exact X31 hn)).2 (by rw [← hd];rfl)) Xk9) (fun _ _ h=>⟨fun _=>by obtain ⟨A15,c15,rfl,hr15,hK,hbn⟩:=h;exact hK.keep,h⟩)) ?_;rintro _ w8 ⟨A15,c15,rfl,hr15,hK,hbn⟩
 obtain ⟨wm,hO,hm,hE⟩:=hK.mid;clear hm
 have hold:=hB12
 replace hB3:=hB3.only hO (Blk.ne hB3 hold rfl)
 replace hB5:=hB5.only hO (Blk.ne hB5 hold rfl)
 replace ho14:=ho14.onlyT hO hold rfl
 replace hW:=Below.only hW hO hlo12
 replace hB3:=hB3.below hE
 replace hB5:=hB5.below hE
 replace ho14:=ho14.below hE
 replace hW:=btr hW hE
 clear hold hE hO hK;replace hB12:=hbn;clear hbn
 refine Y1 9 ?_
 refine Yf rfl trivial (EfW.mono (Vc (Xo9 _ b12 ((runS c.n false c.gs (unitS d)).1) hB12 ((runS c.n false c.gs (unitS d)).2) A15 c15 hr15.top) Xkr) (fun _ _ h=>⟨fun _=>by obtain ⟨A16,c16,rfl,hr16,hK,hbn⟩:=h;exact hK.keep,h⟩)) ?_;rintro _ w9 ⟨A16,c16,rfl,hr16,hK,hbn⟩
 obtain ⟨wm,hO,hm,hE⟩:=hK.mid;clear hm
 have hold:=hB12
 replace hB3:=hB3.only hO (Blk.ne hB3 hold rfl)
 replace hB5:=hB5.only hO (Blk.ne hB5 hold rfl)
 replace ho14:=ho14.onlyT hO hold rfl
 replace hr15:=hr15.onlyT hO hold rfl
 replace hW:=Below.only hW hO hlo12
 replace hB3:=hB3.below hE
 replace hB5:=hB5.below hE
 replace ho14:=ho14.below hE
 replace hr15:=hr15.below hE
 replace hW:=btr hW hE
 clear hold hE hO hK;replace hB12:=hbn;clear hbn
 refine Yo 10 rfl (fun _=>X3 (vs:=[.agg #[vi ((if ((runS c.n false c.gs (unitS d)).1)=true then mZ else ((runS c.n false c.gs (unitS d)).2)).rows),vi ((if ((runS c.n false c.gs (unitS d)).1)=true then mZ else ((runS c.n false c.gs (unitS d)).2)).cols),.slice A16 ((if ((runS c.n false c.gs (unitS d)).1)=true then mZ else ((runS c.n false c.gs (unitS d)).2)).cells).length c16],.bool (!((runS c.n false c.gs (unitS d)).1))]) rfl rfl)<|Yo 11 rfl (fun _=>X3 (vs:=[.agg #[vi ((if ((runS c.n false c.gs (unitS d)).1)=true then mZ else ((runS c.n false c.gs (unitS d)).2)).rows),vi ((if ((runS c.n false c.gs (unitS d)).1)=true then mZ else ((runS c.n false c.gs (unitS d)).2)).cols),.slice A16 ((if ((runS c.n false c.gs (unitS d)).1)=true then mZ else ((runS c.n false c.gs (unitS d)).2)).cells).length c16],.bool (!((runS c.n false c.gs (unitS d)).1))]) rfl rfl) ?_
 refine Y1 12 ?_
 refine Yh rfl trivial rfl (Vw [vi ((if ((runS c.n false c.gs (unitS d)).1)=true then mZ else ((runS c.n false c.gs (unitS d)).2)).rows),vi ((if ((runS c.n false c.gs (unitS d)).1)=true then mZ else ((runS c.n false c.gs (unitS d)).2)).cols),.slice A16 ((if ((runS c.n false c.gs (unitS d)).1)=true then mZ else ((runS c.n false c.gs (unitS d)).2)).cells).length c16] X18 hB5) ?_;rintro _ w10 ⟨ho,hb⟩
 have hold:=hB5
 replace hB3:=hB3.only ho (Blk.ne hB3 hold rfl)
 replace hB12:=hB12.only ho (Blk.ne hB12 hold rfl)
 replace ho14:=ho14.onlyT ho hold rfl
 replace hr15:=hr15.onlyT ho hold rfl
 replace hr16:=hr16.onlyT ho hold rfl
 replace hW:=Below.only hW ho hlo5
 clear hold
 have hB5:=hb
 clear hb ho
 refine Yo 13 rfl (fun _=>X0x rfl) ?_
 refine Yd fun a hf=>?_
 refine hK13 _ _ ?_
 refine wp_ret (X2 hf (X0r hf rfl (ResV.cellN (l:=[vi ((if ((runS c.n false c.gs (unitS d)).1)=true then mZ else ((runS c.n false c.gs (unitS d)).2)).rows),vi ((if ((runS c.n false c.gs (unitS d)).1)=true then mZ else ((runS c.n false c.gs (unitS d)).2)).cols),.slice A16 ((if ((runS c.n false c.gs (unitS d)).1)=true then mZ else ((runS c.n false c.gs (unitS d)).2)).cells).length c16]) rfl X0q (hB5.at 0) rfl) rfl) ?_)
 have hfi1:(opS c).getD mZ=if (runS c.n false c.gs (unitS d)).1=true then mZ else (runS c.n false c.gs (unitS d)).2:=by rw [opS,if_pos hc,← hd];split<;>rfl
 have hfi2:(opS c).isSome = !(runS c.n false c.gs (unitS d)).1:=by rw [opS,if_pos hc,← hd];cases (runS c.n false c.gs (unitS d)).1<;>rfl
 rw [hfi1,hfi2]
 exact ⟨A16,c16,rfl,hr16.top,hW⟩
theorem F88(w0:World)(p:Cx)(Ap:Option Addr)(cp:Nat)(hr_p:Rd w0 w0.heap.size 24 encG Ap p.gs)(q:Cx)(Aq:Option Addr)(cq:Nat)(hr_q:Rd w0 w0.heap.size 24 encG Aq q.gs) : Ret Tryz.prog 22 [.agg #[vi p.n,.slice Ap p.gs.length cp],.agg #[vi q.n,.slice Aq q.gs.length cq]] w0 (fun v w=>v=.tuple #[.bool ((sameS p q).1),.bool ((sameS p q).2)]∧Below w0.heap.size w0 w):=by
 refine enter Tryz.func22 rfl 42 rfl rfl ?_
 intro a hf
 have hW:Below w0.heap.size w0 w0:=Below.refl _ _
 refine Zs hf fun _ hK3=>?_
 refine Zf (X0p (zs:=[vi p.n,.slice Ap p.gs.length cp]) rfl rfl) ?_;rintro _ w1 ⟨b4,rfl,hl4,hE,hB4⟩
 have hlo4:=Nat.le_trans hW.size hl4
 replace hW:=btr hW hE
 refine Zf (X0p (zs:=[vi q.n,.slice Aq q.gs.length cq]) rfl rfl) ?_;rintro _ w2 ⟨b5,rfl,hl5,hE,hB5⟩
 have hne4_5:b4≠b5:=by have:=hB4.lt;omega
 have hlo5:=Nat.le_trans hW.size hl5
 replace hB4:=hB4.below hE
 replace hW:=btr hW hE
 refine Za rfl<|Za rfl ?_
 refine Zt hK3 fun a hf=>?_
 refine Zs hf fun _ hK6=>?_
 refine Ze (Vn X0c hB4) ?_
 refine Zf (Vc (Xn7 _ p Ap cp (hr_p.below' hW).top) Xh7) ?_;rintro _ w3 ⟨A7,c7,rfl,hr7,hE⟩
 replace hB4:=hB4.below hE
 replace hB5:=hB5.below hE
 replace hW:=btr hW hE
 refine Zm rfl<|Ze (X3 (vs:=[.agg #[vi (((opS p).getD mZ).rows),vi (((opS p).getD mZ).cols),.slice A7 (((opS p).getD mZ).cells).length c7],.bool ((opS p).isSome)]) rfl rfl)<|Ze (X3 (vs:=[.agg #[vi (((opS p).getD mZ).rows),vi (((opS p).getD mZ).cols),.slice A7 (((opS p).getD mZ).cells).length c7],.bool ((opS p).isSome)]) rfl rfl) ?_
 refine Zf (Xa (zs:=[vi 0,vi 0,.slice none 0 0]) X1y rfl) ?_;rintro _ w4 ⟨b9,rfl,hl9,hE,hB9⟩
 have hlo9:=Nat.le_trans hW.size hl9
 replace hB4:=hB4.below hE
 replace hB5:=hB5.below hE
 replace hr7:=hr7.below hE
 replace hW:=btr hW hE
 refine Zo (Vw [vi (((opS p).getD mZ).rows),vi (((opS p).getD mZ).cols),.slice A7 (((opS p).getD mZ).cells).length c7] X18 hB9) ?_;rintro _ w5 ⟨ho,hb⟩
 have hold:=hB9
 replace hB4:=hB4.only ho (Blk.ne hB4 hold rfl)
 replace hB5:=hB5.only ho (Blk.ne hB5 hold rfl)
 replace hr7:=hr7.onlyT ho hold rfl
 replace hW:=Below.only hW ho hlo9
 clear hold
 have hB9:=hb
 clear hb ho
 refine Za rfl ?_
 refine Zt hK6 fun a hf=>?_
 refine Zs hf fun _ hK10=>?_
 refine Ze (Vn X0c hB5) ?_
 refine Zf (Vc (Xn7 _ q Aq cq (hr_q.below' hW).top) Xh7) ?_;rintro _ w6 ⟨A11,c11,rfl,hr11,hE⟩
 replace hB4:=hB4.below hE
 replace hB5:=hB5.below hE
 replace hB9:=hB9.below hE
 replace hr7:=hr7.below hE
 replace hW:=btr hW hE
 refine Zm rfl<|Ze (X3 (vs:=[.agg #[vi (((opS q).getD mZ).rows),vi (((opS q).getD mZ).cols),.slice A11 (((opS q).getD mZ).cells).length c11],.bool ((opS q).isSome)]) rfl rfl)<|Ze (X3 (vs:=[.agg #[vi (((opS q).getD mZ).rows),vi (((opS q).getD mZ).cols),.slice A11 (((opS q).getD mZ).cells).length c11],.bool ((opS q).isSome)]) rfl rfl) ?_
 refine Zf (Xa (zs:=[vi 0,vi 0,.slice none 0 0]) X1y rfl) ?_;rintro _ w7 ⟨b13,rfl,hl13,hE,hB13⟩
 have hne9_13:b9≠b13:=by have:=hB9.lt;omega
 have hlo13:=Nat.le_trans hW.size hl13
 replace hB4:=hB4.below hE
 replace hB5:=hB5.below hE
 replace hB9:=hB9.below hE
 replace hr7:=hr7.below hE
 replace hr11:=hr11.below hE
 replace hW:=btr hW hE
 refine Zo (Vw [vi (((opS q).getD mZ).rows),vi (((opS q).getD mZ).cols),.slice A11 (((opS q).getD mZ).cells).length c11] X18 hB13) ?_;rintro _ w8 ⟨ho,hb⟩
 have hold:=hB13
 replace hB4:=hB4.only ho (Blk.ne hB4 hold rfl)
 replace hB5:=hB5.only ho (Blk.ne hB5 hold rfl)
 replace hB9:=hB9.only ho (by omega)
 replace hr7:=hr7.onlyT ho hold rfl
 replace hr11:=hr11.onlyT ho hold rfl
 replace hW:=Below.only hW ho hlo13
 clear hold
 have hB13:=hb
 clear hb ho
 refine Za rfl ?_
 refine Zt hK10 fun a hf=>?_
 refine wp_seq_k fun _ hK14=>?_
 refine wp_seq_k fun _ hK15=>?_
 refine X09 (fun a w=>Fr a 42 [(6,.pointer (some ⟨b9,0,none⟩)),(8,.pointer (some ⟨b13,0,none⟩)),(34,.bool (((!((opS p).isSome))||(!((opS q).isSome)))||(p.n != q.n)))]∧w8=w) ?_ ?_
 ·refine Zr hf ?_
  refine Zm rfl<|Ze (X15 rfl)<|Zm rfl ?_
  refine Zg 24 rfl (fun hg16=>?_) (fun hg16=>?_)
  ·refine Zp ⟨_,_,rfl,rfl,hg16⟩ ?_
   refine Zp ⟨_,_,rfl,rfl,hg16⟩ ?_
   refine Ze (Xc rfl hg16 rfl)<|Zm rfl<|Zp ⟨_,_,rfl,rfl,rfl⟩ ?_
   refine Zp ⟨_,_,rfl,rfl,rfl⟩ ?_
   refine Zp ⟨_,_,rfl,rfl,rfl⟩ ?_
   refine Zp ⟨_,_,rfl,rfl,rfl⟩ ?_
   refine Zp ⟨_,_,rfl,rfl,rfl⟩ ?_
   refine Ze (Xc rfl rfl rfl) ?_
   refine Zn fun a hf=>?_
   exact ⟨hf.sub ⟨rfl,rfl,X1 rfl (by first|rfl|(simp only [hg16,bs];done)|simp [hg16]),trivial⟩,rfl⟩
  refine Zv ⟨_,_,rfl,rfl,hg16⟩ (X9 rfl) ?_
  refine Zv ⟨_,_,rfl,rfl,hg16⟩ (X15 rfl) ?_
  refine Ze (X7 rfl hg16 rfl)<|Zm rfl ?_
  refine Zg 28 rfl (fun hg17=>?_) (fun hg17=>?_)
  ·refine Zp ⟨_,_,rfl,rfl,hg17⟩ ?_
   refine Zp ⟨_,_,rfl,rfl,hg17⟩ ?_
   refine Zp ⟨_,_,rfl,rfl,hg17⟩ ?_
   refine Zp ⟨_,_,rfl,rfl,hg17⟩ ?_
   refine Zp ⟨_,_,rfl,rfl,hg17⟩ ?_
   refine Ze (Xc rfl hg17 rfl) ?_
   refine Zn fun a hf=>?_
   exact ⟨hf.sub ⟨rfl,rfl,X1 rfl (by first|rfl|(simp only [hg16,hg17,bs];done)|simp [hg16,hg17]),trivial⟩,rfl⟩
  refine Zv ⟨_,_,rfl,rfl,hg17⟩ (Vd rfl X1b 0) ?_
  refine Zv ⟨_,_,rfl,rfl,hg17⟩ (X0 rfl X5 (hB4.at 0)) ?_
  refine Zv ⟨_,_,rfl,rfl,hg17⟩ (Vd rfl X1b 0) ?_
  refine Zv ⟨_,_,rfl,rfl,hg17⟩ (X0 rfl X5 (hB5.at 0)) ?_
  refine Zv ⟨_,_,rfl,rfl,hg17⟩ (X2z rfl rfl) ?_
  refine Ze (X7 rfl hg17 rfl) ?_
  refine Zn fun a hf=>?_
  exact ⟨hf.sub ⟨rfl,rfl,X1 rfl (by first|rfl|(simp only [hg16,hg17,bs];done)|simp [hg16,hg17]),trivial⟩,rfl⟩
 rintro a _ ⟨hf,rfl⟩
 refine hK15 _ _ ?_
 refine Xi hf rfl (fun hc18=>?_) (fun hc18=>?_)
 ·have hc18b:=hc18
  have hn:sameS p q=(false,false):=by rw [sameS,if_neg];intro h0;simp only [Bool.and_eq_true,beq_iff_eq] at h0;revert hc18;rw [h0.1.1,h0.1.2,h0.2];simp
  refine Zs hf fun _ hK19=>?_
  refine Za rfl<|Za rfl ?_
  refine Zt hK19 fun a hf=>?_
  refine wp_ret ?_
  refine X8 ?_
  refine X2 hf (X0r hf rfl rfl rfl) ?_
  exact ⟨by rw [hn],hW⟩
 have hc18b:=hc18
 obtain ⟨⟨hs1,hs2⟩,hs3⟩ : ((opS p).isSome=true∧(opS q).isSome=true)∧p.n=q.n:=by revert hc18;cases (opS p).isSome<;>cases (opS q).isSome<;>simp
 have hy:sameS p q=(phaseS ((opS p).getD mZ) ((opS q).getD mZ),true):=by rw [sameS,if_pos];simp [hs1,hs2,hs3]
 refine wp_skip ?_
 refine hK14 _ _ ?_
 refine Zs hf fun _ hK20=>?_
 refine Ze (Vn X0q hB9)<|Ze (Vn X0q hB13) ?_
 refine Zf (Vc (Xnw _ ((opS p).getD mZ) A7 c7 hr7.top ((opS q).getD mZ) A11 c11 hr11.top (Xhe hs1 hs2 hs3) (Xlj q)) Xly) ?_;rintro _ w9 ⟨ix,rfl,hE⟩
 replace hB9:=hB9.below hE
 replace hB13:=hB13.below hE
 replace hr7:=hr7.below hE
 replace hr11:=hr11.below hE
 replace hW:=btr hW hE
 refine Zm rfl<|Ze (X3 (vs:=[vi ix,.bool (phaseS ((opS p).getD mZ) ((opS q).getD mZ))]) rfl rfl)<|Ze (X3 (vs:=[vi ix,.bool (phaseS ((opS p).getD mZ) ((opS q).getD mZ))]) rfl rfl)<|Za rfl<|Za rfl ?_
 refine Zt hK20 fun a hf=>?_
 refine Zs hf fun _ hK21=>?_
 refine Zm rfl<|Za rfl<|Za rfl ?_
 refine Zt hK21 fun a hf=>?_
 refine wp_ret (X2 hf (X0r hf rfl rfl rfl) ?_)
 exact ⟨by rw [hy],hW⟩
end Go.Proofs.YtlfjcmldfbfdbaaGreat
set_option maxRecDepth 4000
namespace Go.Proofs.YtlfjcmldfbfdbaaGreat
open Go.RowKit
theorem F43(w0:World)(n:Int)(r:Rp)(Ar:Option Addr)(cr:Nat)(hr_r:Rd w0 w0.heap.size 24 encG Ar r.old)(Br:Option Addr)(dr:Nat)(hs_r:Rd w0 w0.heap.size 24 encG Br r.new)(hla:r.old.length≤2305843009213693951)(hlb:r.new.length≤2305843009213693951) : Ret Tryz.prog 104 [vi n,.agg #[vi r.pos,.slice Ar r.old.length cr,.slice Br r.new.length dr]] w0 (fun v w=>v=.bool (validS n r)∧Below w0.heap.size w0 w):=by
 refine enter Tryz.func104 rfl 24 rfl rfl ?_
 intro a hf
 have hW:Below w0.heap.size w0 w0:=Below.refl _ _
 refine Zs hf fun _ hK3=>?_
 refine Zf (X0p (zs:=[vi r.pos,.slice Ar r.old.length cr,.slice Br r.new.length dr]) rfl rfl) ?_;rintro _ w1 ⟨b4,rfl,hl4,hE,hB4⟩
 have hlo4:=Nat.le_trans hW.size hl4
 replace hW:=btr hW hE
 refine Za rfl ?_
 refine Zt hK3 fun a hf=>?_
 refine wp_seq_k fun _ hK5=>?_
 refine X09 (fun a w=>Fr a 24 [(4,.bool ((((inR n 1 5)&&(inR r.pos 0 400))&&(!(r.old.any fun x=>!gOk n x)&&decide ((r.old.length:Int)≤40)))&&(!(r.new.any fun x=>!gOk n x)&&decide ((r.new.length:Int)≤40))))]∧Below w1.heap.size w1 w) ?_ ?_
 ·have hEc:Below w1.heap.size w1 w1:=Below.refl _ _
  refine Zr hf ?_
  refine Zm rfl ?_
  refine Zf (Vc (F85 _ n 1 5) X3m) ?_;rintro _ _ ⟨rfl,rfl⟩
  refine Zm rfl ?_
  refine Zg 7 rfl (fun hg6=>?_) (fun hg6=>?_)
  ·refine Zv ⟨_,_,rfl,rfl,hg6⟩ (Vd rfl X27 0) ?_
   refine Zv ⟨_,_,rfl,rfl,hg6⟩ (X0 rfl X5 (hB4.at 0)) ?_
   refine Zk ⟨_,_,rfl,rfl,hg6⟩ (Vc (F85 _ r.pos 0 400) X3m) ?_;rintro _ _ ⟨rfl,rfl⟩
   refine Ze (Xc rfl hg6 rfl)<|Zm rfl ?_
   refine Zg 12 rfl (fun hg7=>?_) (fun hg7=>?_)
   ·refine Zv ⟨_,_,rfl,rfl,hg7⟩ (X9 rfl) ?_
    refine Zv ⟨_,_,rfl,rfl,hg7⟩ (Vd rfl X1s 1) ?_
    refine Zv ⟨_,_,rfl,rfl,hg7⟩ (X0 rfl X06 (hB4.at 1)) ?_
    refine Zk ⟨_,_,rfl,rfl,hg7⟩ (Vc (F86 _ n Ar cr r.old (hr_r.below' hW).top 40 (X02.1 (show inR n 1 5=true by assumption)) hla) Xit) ?_;rintro _ w2 ⟨rfl,hE⟩
    replace hB4:=hB4.below hE
    replace hW:=btr hW hE
    replace hEc:=btr hEc hE
    refine Ze (Xc rfl hg7 rfl)<|Zm rfl ?_
    refine Zg 18 rfl (fun hg8=>?_) (fun hg8=>?_)
    ·refine Zv ⟨_,_,rfl,rfl,hg8⟩ (X9 rfl) ?_
     refine Zv ⟨_,_,rfl,rfl,hg8⟩ (Vd rfl X1m 2) ?_
     refine Zv ⟨_,_,rfl,rfl,hg8⟩ (X0 rfl X06 (hB4.at 2)) ?_
     refine Zk ⟨_,_,rfl,rfl,hg8⟩ (Vc (F86 _ n Br dr r.new (hs_r.below' hW).top 40 (X02.1 (show inR n 1 5=true by assumption)) hlb) Xit) ?_;rintro _ w3 ⟨rfl,hE⟩
     replace hB4:=hB4.below hE
     replace hW:=btr hW hE
     replace hEc:=btr hEc hE
     refine Ze (Xc rfl hg8 rfl)<|Za rfl ?_
     refine Zn fun a hf=>?_
     have hEE:Below w1.heap.size w1 w3:=hEc
     exact ⟨hf.sub ⟨X1 rfl (by first|rfl|(simp only [hg6,hg7,hg8,bs];done)|simp [hg6,hg7,hg8]),trivial⟩,hEE⟩
    refine Zp ⟨_,_,rfl,rfl,hg8⟩ ?_
    refine Zp ⟨_,_,rfl,rfl,hg8⟩ ?_
    refine Zp ⟨_,_,rfl,rfl,hg8⟩ ?_
    refine Zp ⟨_,_,rfl,rfl,hg8⟩ ?_
    refine Ze (X7 rfl hg8 rfl)<|Za rfl ?_
    refine Zn fun a hf=>?_
    have hEE:Below w1.heap.size w1 w2:=hEc
    exact ⟨hf.sub ⟨X1 rfl (by first|rfl|(simp only [hg6,hg7,hg8,bs];done)|simp [hg6,hg7,hg8]),trivial⟩,hEE⟩
   refine Zp ⟨_,_,rfl,rfl,hg7⟩ ?_
   refine Zp ⟨_,_,rfl,rfl,hg7⟩ ?_
   refine Zp ⟨_,_,rfl,rfl,hg7⟩ ?_
   refine Zp ⟨_,_,rfl,rfl,hg7⟩ ?_
   refine Ze (X7 rfl hg7 rfl)<|Zm rfl<|Zp ⟨_,_,rfl,rfl,rfl⟩ ?_
   refine Zp ⟨_,_,rfl,rfl,rfl⟩ ?_
   refine Zp ⟨_,_,rfl,rfl,rfl⟩ ?_
   refine Zp ⟨_,_,rfl,rfl,rfl⟩ ?_
   refine Ze (X7 rfl rfl rfl)<|Za rfl ?_
   refine Zn fun a hf=>?_
   have hEE:Below w1.heap.size w1 w1:=hEc
   exact ⟨hf.sub ⟨X1 rfl (by first|rfl|(simp only [hg6,hg7,bs];done)|simp [hg6,hg7]),trivial⟩,hEE⟩
  refine Zp ⟨_,_,rfl,rfl,hg6⟩ ?_
  refine Zp ⟨_,_,rfl,rfl,hg6⟩ ?_
  refine Zp ⟨_,_,rfl,rfl,hg6⟩ ?_
  refine Ze (X7 rfl hg6 rfl)<|Zm rfl<|Zp ⟨_,_,rfl,rfl,rfl⟩ ?_
  refine Zp ⟨_,_,rfl,rfl,rfl⟩ ?_
  refine Zp ⟨_,_,rfl,rfl,rfl⟩ ?_
  refine Zp ⟨_,_,rfl,rfl,rfl⟩ ?_
  refine Ze (X7 rfl rfl rfl)<|Zm rfl<|Zp ⟨_,_,rfl,rfl,rfl⟩ ?_
  refine Zp ⟨_,_,rfl,rfl,rfl⟩ ?_
  refine Zp ⟨_,_,rfl,rfl,rfl⟩ ?_
  refine Zp ⟨_,_,rfl,rfl,rfl⟩ ?_
  refine Ze (X7 rfl rfl rfl)<|Za rfl ?_
  refine Zn fun a hf=>?_
  have hEE:Below w1.heap.size w1 w1:=hEc
  exact ⟨hf.sub ⟨X1 rfl (by first|rfl|(simp only [hg6,bs];done)|simp [hg6]),trivial⟩,hEE⟩
 rintro a w4 ⟨hf,hE⟩
 replace hB4:=hB4.below hE
 replace hW:=btr hW hE
 refine hK5 _ _ ?_
 refine wp_ret (X2 hf (Xo hf rfl rfl) ?_)
 exact ⟨by simp only [validS],hW⟩
theorem Xmz(w0:World)(Al:Option Addr)(cl:Nat)(l:List Int)(hr_l:Rd w0 w0.heap.size 3 encI Al l)(n:Int)(B0:Nat)(ho:Own w0 B0 3 1 encI Al cl l)(hB0:B0≤w0.heap.size)(hln:l.length≤1000000000) : Ret Tryz.prog 124 [.slice Al l.length cl,vi n] w0 (fun v w=>∃ A c,v=.slice A (putI l n).length c∧Own w B0 3 1 encI A c (putI l n)∧Below w0.heap.size w0 w):=by
 refine enter Tryz.func124 rfl 48 rfl rfl ?_
 intro a hf
 have hW:Below w0.heap.size w0 w0:=Below.refl _ _
 refine Zs hf fun _ hK2=>?_
 refine Za rfl ?_
 refine Zt hK2 fun a hf=>?_
 refine Zs hf fun _ hK4=>?_
 refine Za rfl ?_
 refine Zt hK4 fun a hf=>?_
 refine wp_seq_k fun _ hK5=>?_
 refine wp_block ?_
 refine X0j (σ:=Nat) (fun (k:Nat) (a:Act) (w:World)=>Fr a 48 [(0,.slice Al l.length cl),(1,vi n),(5,vi (k:Int))]∧(k≤l.length)∧((l.take k).all (fun x=>decide (x<n))=true)∧Below w0.heap.size w0 w) (fun (k:Nat)=>l.length-k) 0 ?_ ?_
 ·exact ⟨hf.sub ⟨rfl,rfl,rfl,trivial⟩,(Nat.zero_le _),rfl,hW⟩
 rintro k a w1 ⟨hf,hk,hpre,hW⟩
 refine wp_seq_k fun _ hK6=>?_
 refine wp_seq_k fun _ hK7=>?_
 refine X09 (fun a w=>Fr a 48 [(0,.slice Al l.length cl),(1,vi n),(5,vi (k:Int)),(18,.bool (decide ((k:Int)<(l.length:Int))&&decide ((l.getD k 0)<n)))]∧w1=w) ?_ ?_
 ·refine Zr hf ?_
  refine Zm rfl<|Zm rfl<|Ze (X0v rfl X16)<|Ze (X1k rfl rfl)<|Zm rfl ?_
  refine Zg 11 rfl (fun hg8=>?_) (fun hg8=>?_)
  ·refine Zv ⟨_,_,rfl,rfl,hg8⟩ (X9 rfl) ?_
   refine Zv ⟨_,_,rfl,rfl,hg8⟩ (X9 rfl) ?_
   refine Zi (k:=k) (u:=(l.getD k 0)) (enc:=encI) (l:=l) ⟨_,_,rfl,rfl,hg8⟩ rfl rfl X16 X2c X0z (hr_l.below' hW) (X8t (by assumption)) rfl ?_;intro p10 hat9
   refine Zv ⟨_,_,rfl,rfl,hg8⟩ (X0 rfl X5 hat9) ?_
   refine Zv ⟨_,_,rfl,rfl,hg8⟩ (X9 rfl) ?_
   refine Zv ⟨_,_,rfl,rfl,hg8⟩ (X1k rfl rfl) ?_
   refine Ze (Xc rfl hg8 rfl) ?_
   refine Zn fun a hf=>?_
   exact ⟨hf.sub ⟨rfl,rfl,rfl,X1 rfl (by first|rfl|(simp only [hg8,bs];done)|simp [hg8]),trivial⟩,rfl⟩
  refine Zp ⟨_,_,rfl,rfl,hg8⟩ ?_
  refine Zp ⟨_,_,rfl,rfl,hg8⟩ ?_
  refine Zp ⟨_,_,rfl,rfl,hg8⟩ ?_
  refine Zp ⟨_,_,rfl,rfl,hg8⟩ ?_
  refine Zp ⟨_,_,rfl,rfl,hg8⟩ ?_
  refine Zp ⟨_,_,rfl,rfl,hg8⟩ ?_
  refine Ze (X7 rfl hg8 rfl) ?_
  refine Zn fun a hf=>?_
  exact ⟨hf.sub ⟨rfl,rfl,rfl,X1 rfl (by first|rfl|(simp only [hg8,bs];done)|simp [hg8]),trivial⟩,rfl⟩
 rintro a _ ⟨hf,rfl⟩
 refine hK7 _ _ ?_
 refine Xi hf rfl (fun hc11=>?_) (fun hc11=>?_)
 ·have hc11b:=hc11
  have hlt:(k:Int)<l.length∧l.getD k 0<n:=by simpa using hc11
  have hk1:k<l.length:=by omega
  refine wp_skip ?_
  refine hK6 _ _ ?_
  refine wp_block ?_
  refine Zr hf ?_
  refine Zm rfl<|Ze (Xv rfl rfl (by omega) (by omega))<|Za rfl ?_
  refine Zn fun a hf=>?_
  refine Xf ?_
  refine Xn ?_
  exact ⟨k+1,⟨hf.sub ⟨rfl,rfl,rfl,trivial⟩,(by omega),(X2u hpre (X5r hk1) (by simpa using hlt.2)),hW⟩,(by omega)⟩
 have hc11b:=hc11
 have hst:k<l.length→¬ l.getD k 0<n:=by intro h0 h1;revert hc11;simp only [h1,decide_true,Bool.and_true,decide_eq_false_iff_not];omega
 have hpa:=Xgf l n k hpre hk hst
 refine wp_exit ?_
 refine Xs ?_
 refine Xs ?_
 refine X0h ?_
 refine hK5 _ _ ?_
 refine wp_seq_k fun _ hK12=>?_
 refine wp_seq_k fun _ hK13=>?_
 refine X09 (fun a w=>Fr a 48 [(0,.slice Al l.length cl),(1,vi n),(5,vi (k:Int)),(32,.bool (decide ((k:Int)<(l.length:Int))&&(l.getD k 0)==n))]∧w1=w) ?_ ?_
 ·refine Zr hf ?_
  refine Zm rfl<|Zm rfl<|Ze (X0v rfl X16)<|Ze (X1k rfl rfl)<|Zm rfl ?_
  refine Zg 25 rfl (fun hg14=>?_) (fun hg14=>?_)
  ·refine Zv ⟨_,_,rfl,rfl,hg14⟩ (X9 rfl) ?_
   refine Zv ⟨_,_,rfl,rfl,hg14⟩ (X9 rfl) ?_
   refine Zi (k:=k) (u:=(l.getD k 0)) (enc:=encI) (l:=l) ⟨_,_,rfl,rfl,hg14⟩ rfl rfl X16 X2c X0z (hr_l.below' hW) (X8t (by assumption)) rfl ?_;intro p16 hat15
   refine Zv ⟨_,_,rfl,rfl,hg14⟩ (X0 rfl X5 hat15) ?_
   refine Zv ⟨_,_,rfl,rfl,hg14⟩ (X9 rfl) ?_
   refine Zv ⟨_,_,rfl,rfl,hg14⟩ (X0u rfl rfl) ?_
   refine Ze (Xc rfl hg14 rfl) ?_
   refine Zn fun a hf=>?_
   exact ⟨hf.sub ⟨rfl,rfl,rfl,X1 rfl (by first|rfl|(simp only [hc11b,hg14,bs];done)|simp [hc11b,hg14]),trivial⟩,rfl⟩
  refine Zp ⟨_,_,rfl,rfl,hg14⟩ ?_
  refine Zp ⟨_,_,rfl,rfl,hg14⟩ ?_
  refine Zp ⟨_,_,rfl,rfl,hg14⟩ ?_
  refine Zp ⟨_,_,rfl,rfl,hg14⟩ ?_
  refine Zp ⟨_,_,rfl,rfl,hg14⟩ ?_
  refine Zp ⟨_,_,rfl,rfl,hg14⟩ ?_
  refine Ze (X7 rfl hg14 rfl) ?_
  refine Zn fun a hf=>?_
  exact ⟨hf.sub ⟨rfl,rfl,rfl,X1 rfl (by first|rfl|(simp only [hc11b,hg14,bs];done)|simp [hc11b,hg14]),trivial⟩,rfl⟩
 rintro a _ ⟨hf,rfl⟩
 refine hK13 _ _ ?_
 refine Xi hf rfl (fun hc17=>?_) (fun hc17=>?_)
 ·have hc17b:=hc17
  have hyy:k<l.length∧l.getD k 0=n:=by have h9:(k:Int)<l.length∧l.getD k 0=n:=(by simpa using hc17);omega
  have hfin:=hpa.1 hyy
  refine Zs hf fun _ hK18=>?_
  refine Zm rfl<|Za rfl ?_
  refine Zt hK18 fun a hf=>?_
  refine wp_ret ?_
  refine X8 ?_
  refine X2 hf (Xo hf rfl rfl) ?_
  rw [hfin]
  exact ⟨_,_,rfl,ho.below hW,hW⟩
 have hc17b:=hc17
 have hfin:=hpa.2 (fun h0=>by revert hc17;rw [h0.2];simp;omega)
 refine wp_skip ?_
 refine hK12 _ _ ?_
 refine Zs hf fun _ hK19=>?_
 refine Zf (X4 (k:=0) (vs:=[]) (zs:=[]) rfl X16 X2d rfl rfl) ?_;rintro _ w2 ⟨b20,rfl,hl20,hE,hB20⟩
 have hlo20:=Nat.le_trans hW.size hl20
 have haw1_20:=(hr_l.below' hW).away hl20
 replace hW:=btr hW hE
 refine Zm rfl<|Zm rfl ?_
 have hr22:=((hr_l.below' hW).top).takeK X0z k
 refine Ze (X7u (l:=l) (k:=k) rfl rfl X16 X2c rfl hk ho.cap) ?_
 refine Zf (X0f (enc:=encI) (l:=([] : List Int)) (l2:=((l.take k))) (B0:=w0.heap.size) rfl rfl X16 X2d X0z X3h (Own.empty hB20 hlo20) hr22 (by simp only [maxLen];simp;omega) (by simp;omega) hW.size) ?_;rintro _ w3 ⟨A23,c23,rfl,ho23,hg,hat⟩
 have hown:Own _ w0.heap.size 3 1 encI _ _ ([] : List Int):=(Own.empty hB20 hlo20)
 clear hat
 replace hW:=Below.app hW hown hg (Nat.le_refl _) hW.size
 clear hown hg
 simp only [List.nil_append] at ho23
 refine Za rfl ?_
 refine Zt hK19 fun a hf=>?_
 refine Zs hf fun _ hK24=>?_
 refine Zm rfl<|Zm rfl ?_
 refine Zf (X4 (k:=1) (vs:=[vi n]) (zs:=[vi n]) rfl X16 X2d rfl rfl) ?_;rintro _ w4 ⟨b25,rfl,hl25,hE,hB25⟩
 have hlo25:=Nat.le_trans hW.size hl25
 have haw1_25:=(hr_l.below' hW).away hl25
 have haw23_25:=ho23.away hl25
 replace ho23:=ho23.below hE
 replace hW:=btr hW hE
 refine Zf (X0f (enc:=encI) (l:=((l.take k))) (l2:=([n])) (B0:=w0.heap.size) rfl rfl X16 X2d X0z X3h ho23 (Rd.of_blk hB25 rfl _ hB25.lt) (by simp only [maxLen];simp;omega) (by simp;omega) hW.size) ?_;rintro _ w5 ⟨A27,c27,rfl,ho27,hg,hat⟩
 have hown:Own _ w0.heap.size 3 1 encI _ _ ((l.take k)):=ho23
 have haw27_25:=hat _ hB25.lt haw23_25
 clear hat
 replace hW:=Below.app hW hown hg (Nat.le_refl _) hW.size
 clear hown hg
 refine Za rfl ?_
 refine Zt hK24 fun a hf=>?_
 refine Zs hf fun _ hK28=>?_
 refine Zm rfl<|Zm rfl<|Zm rfl ?_
 have hr29:=((hr_l.below' hW).top).dropK X0z (c:=cl) ho.cap k
 refine Ze (X6c (l:=l) (k:=k) rfl rfl X16 X2c rfl hk) ?_
 refine Zf (X0f (enc:=encI) (l:=((l.take k)++([n]))) (l2:=((l.drop k))) (B0:=w0.heap.size) rfl rfl X16 X2d X0z X3h ho27 hr29 (by simp only [maxLen];simp;omega) (by simp;omega) hW.size) ?_;rintro _ w6 ⟨A30,c30,rfl,ho30,hg,hat⟩
 have hown:Own _ w0.heap.size 3 1 encI _ _ ((l.take k)++([n])):=ho27
 clear hat
 replace hW:=Below.app hW hown hg (Nat.le_refl _) hW.size
 clear hown hg
 refine Za rfl ?_
 refine Zt hK28 fun a hf=>?_
 refine wp_ret (X2 hf (Xo hf rfl rfl) ?_)
 rw [hfin]
 exact ⟨A30,c30,rfl,(ho30).lower hB0,hW⟩
theorem F87(w0:World)(Al:Option Addr)(cl:Nat)(l:List Gt)(hr_l:Rd w0 w0.heap.size 24 encG Al l)(hln:l.length≤10000000) : Ret Tryz.prog 145 [.slice Al l.length cl] w0 (fun v w=>∃ A c,v=.slice A (usedS l).length c∧Own w w0.heap.size 3 1 encI A c (usedS l)∧Below w0.heap.size w0 w):=by
 refine enter Tryz.func145 rfl 28 rfl rfl ?_
 intro a hf
 have hW:Below w0.heap.size w0 w0:=Below.refl _ _
 refine Zs hf fun _ hK2=>?_
 refine Za rfl ?_
 refine Zt hK2 fun a hf=>?_
 refine Zs hf fun _ hK4=>?_
 refine Za rfl ?_
 refine Zt hK4 fun a hf=>?_
 refine wp_seq_k fun _ hK6=>?_
 refine Zs hf fun _ hK7=>?_
 refine Zm rfl<|Ze (X0v rfl Xd)<|Zm rfl ?_
 refine Zt hK7 fun a hf=>?_
 refine wp_block ?_
 refine X0j (σ:=Nat×(List Int)) (fun (s:Nat×(List Int)) (a:Act) (w:World)=>match s with|(k,m)=>∃ A8 c8,Fr a 28 [(3,.slice A8 m.length c8),(6,.slice Al l.length cl),(7,vi (l.length:Int)),(8,vi (k:Int))]∧(k≤l.length)∧(m=(l.take k).foldl usedStep [])∧Own w w0.heap.size 3 1 encI A8 c8 m∧Below w0.heap.size w0 w) (fun (s:Nat×(List Int))=>match s with|(k,m)=>l.length-k) (0,[]) ?_ ?_
 ·exact ⟨none,0,hf.sub ⟨rfl,rfl,rfl,rfl,trivial⟩,(Nat.zero_le _),rfl,(Own.nil _ _ _ _ _),hW⟩
 rintro ⟨k,m⟩ a w1 ⟨A8,c8,hf,hk,hm,ho8,hW⟩
 have hml:m.length≤2*k:=by have:=X3u (l.take k) [];rw [← hm,List.length_take] at this;simp only [List.length_nil] at this;omega
 refine Zs hf fun _ hK9=>?_
 refine Ze (X1k rfl rfl) ?_
 refine Zt hK9 fun a hf=>?_
 refine wp_seq_k fun _ hK10=>?_
 refine Xi hf rfl (fun hc11=>?_) (fun hc11=>?_)
 ·have hc11b:=hc11
  have hc11:=of_decide_eq_true hc11
  obtain ⟨u12,hu12⟩:=Xx (l:=l) (k:=k) (by omega)
  have hst:=Xcj (f:=usedStep) (b:=[]) hu12
  refine wp_skip ?_
  refine hK10 _ _ ?_
  refine wp_seq_k fun _ hK13=>?_
  refine wp_block ?_
  refine Zs hf fun _ hK14=>?_
  refine Zi (k:=k) (u:=u12) (enc:=encG) (l:=l) trivial rfl rfl Xd X0a Xb (hr_l.below' hW) hu12 rfl ?_;intro p16 hat15
  refine Ze (Xj (l:=[vi u12.k,vi u12.a,vi u12.b]) rfl X08 hat15 rfl) ?_
  refine Zf (Xa (zs:=[vi 0,vi 0,vi 0]) X2l rfl) ?_;rintro _ w2 ⟨b17,rfl,hl17,hE,hB17⟩
  have hlo17:=Nat.le_trans hW.size hl17
  have haw1_17:=(hr_l.below' hW).away hl17
  replace ho8:=ho8.below hE
  replace hW:=btr hW hE
  refine Zo (Vw [vi u12.k,vi u12.a,vi u12.b] X0a hB17) ?_;rintro _ w3 ⟨ho,hb⟩
  have hold:=hB17
  replace ho8:=ho8.onlyT ho hold rfl
  replace hW:=Below.only hW ho hlo17
  clear hold
  have hB17:=hb
  clear hb ho
  refine Zt hK14 fun a hf=>?_
  refine wp_seq_k fun _ hK18=>?_
  refine Zs hf fun _ hK19=>?_
  refine Ze (Vd rfl X0g 0)<|Ze (X0 rfl X5 (hB17.at 0))<|Ze (X0u rfl rfl) ?_
  refine Zt hK19 fun a hf=>?_
  refine Xi hf rfl (fun hc20=>?_) (fun hc20=>?_)
  ·have hc20b:=hc20
   have hus:usedStep m u12=m:=by rw [usedStep,if_pos (by simpa using hc20)]
   refine wp_exit ?_
   refine Xs ?_
   refine X0h ?_
   refine hK13 _ _ ?_
   refine Zr hf ?_
   refine Ze (Xv rfl rfl (by omega) (by omega))<|Zm rfl ?_
   refine Zn fun a hf=>?_
   refine Xn ?_
   exact ⟨(k+1,m),⟨A8,c8,hf.sub ⟨rfl,rfl,rfl,rfl,trivial⟩,(by omega),(by rw [hst,← hm,hus]),ho8,hW⟩,(by first|omega|(dsimp only;omega))⟩
  have hc20b:=hc20
  have h12:¬ u12.k=12:=by simpa using hc20
  refine wp_skip ?_
  refine hK18 _ _ ?_
  refine Zs hf fun _ hK21=>?_
  refine Zm rfl<|Ze (Vd rfl X0t 1)<|Ze (X0 rfl X5 (hB17.at 1)) ?_
  refine Zf (Vc (Xmz _ A8 c8 m ho8.rd.top u12.a w0.heap.size ho8 hW.size (by have:=X4v m u12.a;omega)) Xfp) ?_;rintro _ w4 ⟨A22,c22,rfl,ho22,hE⟩
  replace hB17:=hB17.below hE
  replace ho8:=ho8.below hE
  replace hW:=btr hW hE
  refine Za rfl ?_
  refine Zt hK21 fun a hf=>?_
  refine Zs hf fun _ hK23=>?_
  refine Ze (Vd rfl X0g 0)<|Ze (X0 rfl X5 (hB17.at 0)) ?_
  refine Zf (Vc (F85 _ u12.k 9 11) X3m) ?_;rintro _ _ ⟨rfl,rfl⟩
  refine Zt hK23 fun a hf=>?_
  refine Xi hf rfl (fun hc24=>?_) (fun hc24=>?_)
  ·have hc24b:=hc24
   have hus:usedStep m u12=putI (putI m u12.a) u12.b:=by rw [usedStep,if_neg h12,if_pos hc24]
   refine Zr hf ?_
   refine Zm rfl<|Ze (Vd rfl X12 2)<|Ze (X0 rfl X5 (hB17.at 2)) ?_
   refine Zf (Vc (Xmz _ A22 c22 (putI m u12.a) ho22.rd.top u12.b w0.heap.size ho22 hW.size (by have:=X4v m u12.a;omega)) Xfp) ?_;rintro _ w5 ⟨A25,c25,rfl,ho25,hE⟩
   replace hB17:=hB17.below hE
   replace ho22:=ho22.below hE
   replace hW:=btr hW hE
   refine Za rfl ?_
   refine Zn fun a hf=>?_
   refine Xf ?_
   refine hK13 _ _ ?_
   refine Zr hf ?_
   refine Ze (Xv rfl rfl (by omega) (by omega))<|Zm rfl ?_
   refine Zn fun a hf=>?_
   refine Xn ?_
   exact ⟨(k+1,putI (putI m u12.a) u12.b),⟨A25,c25,hf.sub ⟨rfl,rfl,rfl,rfl,trivial⟩,(by omega),(by rw [hst,← hm,hus]),ho25,hW⟩,(by first|omega|(dsimp only;omega))⟩
  have hc24b:=hc24
  have hus:usedStep m u12=putI m u12.a:=by rw [usedStep,if_neg h12,if_neg (by rw [hc24];simp)]
  refine wp_skip ?_
  refine Xf ?_
  refine hK13 _ _ ?_
  refine Zr hf ?_
  refine Ze (Xv rfl rfl (by omega) (by omega))<|Zm rfl ?_
  refine Zn fun a hf=>?_
  refine Xn ?_
  exact ⟨(k+1,putI m u12.a),⟨A22,c22,hf.sub ⟨rfl,rfl,rfl,rfl,trivial⟩,(by omega),(by rw [hst,← hm,hus]),ho22,hW⟩,(by first|omega|(dsimp only;omega))⟩
 have hc11b:=hc11
 have hc11:=of_decide_eq_false hc11
 refine wp_exit ?_
 refine Xs ?_
 refine Xs ?_
 refine X0h ?_
 refine hK6 _ _ ?_
 refine Zs hf fun _ hK26=>?_
 refine Zm rfl<|Za rfl ?_
 refine Zt hK26 fun a hf=>?_
 refine wp_ret (X2 hf (Xo hf rfl rfl) ?_)
 have hfin:usedS l=m:=by rw [hm,List.take_of_length_le (by omega)];rfl
 rw [hfin]
 exact ⟨A8,c8,rfl,ho8,hW⟩
end Go.Proofs.YtlfjcmldfbfdbaaGreat
