/-
  What is proved: for every drawn circuit, the schedule is accepted and keeps the operator, and the least number of layers is at most the depth: the law returns true at every input and leaves its arguments as they were. Conditions: none.
-/
import Derived.Test.YtlfjcmldfbfdbaaGreatE4
import Derived.Test.YtlfjcmldfbfdbaaGreatE3
import Derived.Test.YtlfjcmldfbfdbaaGreatE2
import Derived.Deep.Strs
import Derived.WalkKit
import Derived.ProofKit
import Derived.OpenShut
import Derived.Deep.Slices
import Derived.Deep.Fields
import Derived.ChangeSame
import Derived.Lib.SmallJoins
import Derived.Test.YtlfjcmldfbfdbaaGreatE1
import Derived.WalkSpells
set_option linter.unusedVariables false
set_option linter.unusedSimpArgs false
set_option maxRecDepth 4000
namespace Go.Proofs.YtlfjcmldfbfdbaaGreat
open Go.RowKit
theorem F60(w0:World)(bV:Nat)(hBV:MemoG w0 bV)(c:Cx)(A:Option Addr)(cc:Nat)(hr_c:Rd w0 w0.heap.size 24 encG A c.gs)(hc:cOk c=true)(i:Nat)(hi:i<c.gs.length)(k:Int)(B:Option Addr)(cs:Nat)(out:List Int)(hr_o:Rd w0 w0.heap.size 3 encI B out)(hlo:out.length=c.gs.length) : Ret Tryz.prog 105 [.agg #[vi c.n,.slice A c.gs.length cc,.map (some bV)],vi (i:Int),vi k,.slice B out.length cs] w0 (fun v w=>v=.bool (fitsI c.gs i k out)∧Kept bV w0.heap.size w0 w∧MemoG w bV):=by
 have hltV:=hBV.lt;obtain ⟨hcn,hcl,hcg⟩:=X0x hc;refine enter Tryz.func105 rfl 68 rfl rfl ?_;intro a hf
 have hW:Kept bV w0.heap.size w0 w0:=Kept.refl _ _ _
 refine Zs hf fun _ hK3=>?_;refine Zf (X0p (zs:=[vi c.n,.slice A c.gs.length cc,.map (some bV)]) rfl rfl) ?_;rintro _ w1 ⟨b4,rfl,hl4,hE,hB4⟩;have hlo4:=Nat.le_trans hW.size hl4;replace hBV:=hBV.below hE;replace hr_c:=hr_c.below hE;replace hr_o:=hr_o.below hE;replace hW:=ktr hW hE;refine Za rfl ?_;refine Zt hK3 fun a hf=>?_;refine wp_seq_k fun _ hK5=>?_;refine Zs hf fun _ hK6=>?_;refine Ze (Vd rfl X30 0)<|Ze (Vd rfl X0k 1)<|Ze (X0 rfl X14 (hB4.at 1))<|Ze (X0y rfl X0c)<|Zm rfl ?_;refine Zt hK6 fun a hf=>?_;refine wp_block ?_;refine Xx (σ:=Nat) (fun (j:Nat) (a:Act) (w:World)=>Fr a 68 [(1,vi (i:Int)),(2,vi k),(3,.slice B out.length cs),(4,.pointer (some ⟨b4,0,none⟩)),(13,vi (c.gs.length:Int)),(14,vi (j:Int))]∧(j≤c.gs.length)∧((List.range j).any (fitC c.gs i k out)=false)∧MemoG w bV∧Blk w b4 127 [vi c.n,.slice A c.gs.length cc,.map (some bV)]∧Rd w w0.heap.size 24 encG A c.gs∧Rd w w0.heap.size 3 encI B out∧Kept bV w0.heap.size w0 w) (fun (j:Nat)=>c.gs.length-j) 0 ?_ ?_
 ·exact ⟨hf.sub ⟨rfl,rfl,rfl,rfl,rfl,rfl,trivial⟩,(Nat.zero_le _),rfl,hBV,hB4,hr_c,hr_o,hW⟩
 rintro j a w2 ⟨hf,hj,hA,hBV,hB4,hr_c,hr_o,hW⟩;refine Zs hf fun _ hK7=>?_;refine Ze (X0l rfl rfl) ?_;refine Zt hK7 fun a hf=>?_;refine wp_seq_k fun _ hK8=>?_
 refine Xe hf rfl (fun hc9=>?_) (fun hc9=>?_)
 ·have hc9b:=hc9;have hc9:=of_decide_eq_true hc9
  obtain ⟨u10,hu10⟩:=Xl (l:=c.gs) (k:=j) (by omega)
  refine wp_skip ?_;refine hK8 _ _ ?_;refine wp_seq_k fun _ hK11=>?_;refine wp_block ?_;refine Zs hf fun _ hK12=>?_;refine Zm rfl<|Za rfl ?_;refine Zt hK12 fun a hf=>?_;refine wp_seq_k fun _ hK13=>?_;refine wp_seq_k fun _ hK14=>?_;refine X08 (fun a w=>Fr a 68 [(1,vi (i:Int)),(2,vi k),(3,.slice B out.length cs),(4,.pointer (some ⟨b4,0,none⟩)),(9,vi (j:Int)),(13,vi (c.gs.length:Int)),(14,vi (j:Int)),(40,.bool (((decide ((j:Int)<(i:Int)))&&(!commI (c.gs.getD j gZ) (c.gs.getD i gZ)))&&(((out.getD j 0)==0)||(decide (k≤(out.getD j 0))))))]∧MemoG w bV∧Blk w b4 127 [vi c.n,.slice A c.gs.length cc,.map (some bV)]∧Rd w w0.heap.size 24 encG A c.gs∧Rd w w0.heap.size 3 encI B out∧Kept bV w0.heap.size w0 w) ?_ ?_
  ·refine Zr hf ?_;refine Zm rfl<|Zm rfl<|Ze (X0l rfl rfl)<|Zm rfl ?_
   refine Zg 20 rfl (fun hg15=>?_) (fun hg15=>?_)
   ·refine Zv ⟨_,_,rfl,rfl,hg15⟩ (Vn X4v hB4) ?_;refine Zv ⟨_,_,rfl,rfl,hg15⟩ (X2 rfl) ?_;refine Zv ⟨_,_,rfl,rfl,hg15⟩ (X2 rfl) ?_;refine Zk ⟨_,_,rfl,rfl,hg15⟩ (Vc (Xuf _ bV hBV c A cc hr_c.top hc i hi j (by omega)) Xli) ?_;rintro _ w3 ⟨rfl,hK,hbn⟩;obtain ⟨wm,hO,hm,hE⟩:=hK.mid;clear hm;have hold:=hBV;replace hB4:=hB4.onlyM hO hold;replace hr_c:=hr_c.onlyM hO hold;replace hr_o:=hr_o.onlyM hO hold;replace hW:=hW.self hO;replace hB4:=hB4.below hE;replace hr_c:=hr_c.below hE;replace hr_o:=hr_o.below hE;replace hW:=ktr hW hE
    clear hold hE hO hK;replace hBV:=hbn;clear hbn;refine Ze (Xb rfl hg15 rfl)<|Zm rfl ?_
    refine Zg 26 rfl (fun hg16=>?_) (fun hg16=>?_)
    ·refine Zv ⟨_,_,rfl,rfl,hg16⟩ (X2 rfl) ?_;refine Zv ⟨_,_,rfl,rfl,hg16⟩ (X2 rfl) ?_;refine Zi (k:=j) (u:=(out.getD j 0)) (enc:=encI) (l:=out) ⟨_,_,rfl,rfl,hg16⟩ rfl rfl Xg X0h X6 hr_o (X1i 0 (by omega)) rfl ?_;intro p18 hat17;refine Zv ⟨_,_,rfl,rfl,hg16⟩ (X0 rfl X4 hat17) ?_;refine Zv ⟨_,_,rfl,rfl,hg16⟩ (X0u rfl rfl) ?_;refine Zv ⟨_,_,rfl,rfl,hg16⟩ (X2 rfl) ?_
     refine Zg 32 rfl (fun hg19=>?_) (fun hg19=>?_)
     ·refine Zp ⟨_,_,rfl,rfl,hg19⟩ ?_;refine Zp ⟨_,_,rfl,rfl,hg19⟩ ?_;refine Zp ⟨_,_,rfl,rfl,hg19⟩ ?_;refine Zp ⟨_,_,rfl,rfl,hg19⟩ ?_;refine Zp ⟨_,_,rfl,rfl,hg19⟩ ?_;refine Zp ⟨_,_,rfl,rfl,hg19⟩ ?_;refine Zv ⟨_,_,rfl,rfl,hg16⟩ (Xb rfl hg19 rfl) ?_;refine Ze (Xb rfl hg16 rfl) ?_;refine Zn fun a hf=>?_;exact ⟨hf.sub ⟨rfl,rfl,rfl,rfl,rfl,rfl,rfl,X1 rfl (by first|rfl|(simp only [hc9b,hg15,hg16,hg19,bs];done)|simp [hc9b,hg15,hg16,hg19]),trivial⟩,hBV,hB4,hr_c,hr_o,hW⟩
     refine Zv ⟨_,_,rfl,rfl,hg19⟩ (X2 rfl) ?_;refine Zv ⟨_,_,rfl,rfl,hg19⟩ (X2 rfl) ?_;refine Zi (k:=j) (u:=(out.getD j 0)) (enc:=encI) (l:=out) ⟨_,_,rfl,rfl,hg19⟩ rfl rfl Xg X0h X6 hr_o (X1i 0 (by omega)) rfl ?_;intro p21 hat20;refine Zv ⟨_,_,rfl,rfl,hg19⟩ (X0 rfl X4 hat20) ?_;refine Zv ⟨_,_,rfl,rfl,hg19⟩ (X2 rfl) ?_;refine Zv ⟨_,_,rfl,rfl,hg19⟩ (Xde rfl rfl) ?_;refine Zv ⟨_,_,rfl,rfl,hg16⟩ (X9 rfl hg19 rfl) ?_;refine Ze (Xb rfl hg16 rfl) ?_;refine Zn fun a hf=>?_;exact ⟨hf.sub ⟨rfl,rfl,rfl,rfl,rfl,rfl,rfl,X1 rfl (by first|rfl|(simp only [hc9b,hg15,hg16,hg19,bs];done)|simp [hc9b,hg15,hg16,hg19]),trivial⟩,hBV,hB4,hr_c,hr_o,hW⟩
    refine Zp ⟨_,_,rfl,rfl,hg16⟩ ?_;refine Zp ⟨_,_,rfl,rfl,hg16⟩ ?_;refine Zp ⟨_,_,rfl,rfl,hg16⟩ ?_;refine Zp ⟨_,_,rfl,rfl,hg16⟩ ?_;refine Zp ⟨_,_,rfl,rfl,hg16⟩ ?_;refine Zp ⟨_,_,rfl,rfl,hg16⟩ ?_;refine Zp ⟨_,_,rfl,rfl,trivial⟩ ?_;refine Zp ⟨_,_,rfl,rfl,trivial⟩ ?_;refine Zp ⟨_,_,rfl,rfl,trivial⟩ ?_;refine Zp ⟨_,_,rfl,rfl,trivial⟩ ?_;refine Zp ⟨_,_,rfl,rfl,trivial⟩ ?_;refine Zp ⟨_,_,rfl,rfl,trivial⟩ ?_;refine Zp ⟨_,_,rfl,rfl,hg16⟩ ?_;refine Ze (X9 rfl hg16 rfl) ?_;refine Zn fun a hf=>?_;exact ⟨hf.sub ⟨rfl,rfl,rfl,rfl,rfl,rfl,rfl,X1 rfl (by first|rfl|(simp only [hc9b,hg15,hg16,bs];done)|simp [hc9b,hg15,hg16]),trivial⟩,hBV,hB4,hr_c,hr_o,hW⟩
   refine Zp ⟨_,_,rfl,rfl,hg15⟩ ?_;refine Zp ⟨_,_,rfl,rfl,hg15⟩ ?_;refine Zp ⟨_,_,rfl,rfl,hg15⟩ ?_;refine Zp ⟨_,_,rfl,rfl,hg15⟩ ?_;refine Ze (X9 rfl hg15 rfl)<|Zm rfl<|Zp ⟨_,_,rfl,rfl,rfl⟩ ?_;refine Zp ⟨_,_,rfl,rfl,rfl⟩ ?_;refine Zp ⟨_,_,rfl,rfl,rfl⟩ ?_;refine Zp ⟨_,_,rfl,rfl,rfl⟩ ?_;refine Zp ⟨_,_,rfl,rfl,rfl⟩ ?_;refine Zp ⟨_,_,rfl,rfl,rfl⟩ ?_;refine Zp ⟨_,_,rfl,rfl,trivial⟩ ?_;refine Zp ⟨_,_,rfl,rfl,trivial⟩ ?_;refine Zp ⟨_,_,rfl,rfl,trivial⟩ ?_;refine Zp ⟨_,_,rfl,rfl,trivial⟩ ?_;refine Zp ⟨_,_,rfl,rfl,trivial⟩ ?_;refine Zp ⟨_,_,rfl,rfl,trivial⟩ ?_;refine Zp ⟨_,_,rfl,rfl,rfl⟩ ?_;refine Ze (X9 rfl rfl rfl) ?_;refine Zn fun a hf=>?_;exact ⟨hf.sub ⟨rfl,rfl,rfl,rfl,rfl,rfl,rfl,X1 rfl (by first|rfl|(simp only [hc9b,hg15,bs];done)|simp [hc9b,hg15]),trivial⟩,hBV,hB4,hr_c,hr_o,hW⟩
  rintro a w4 ⟨hf,hBV,hB4,hr_c,hr_o,hW⟩;refine hK14 _ _ ?_
  refine Xe hf rfl (fun hc22=>?_) (fun hc22=>?_)
  ·have hc22b:=hc22
   have hp:fitA c.gs i k out j=true:=by unfold fitA;rw [← Xlj];exact hc22
   refine Zs hf fun _ hK23=>?_;refine Za rfl ?_;refine Zt hK23 fun a hf=>?_;refine wp_ret ?_;refine X5 ?_;refine Xr ?_;refine X5 ?_;refine X5 ?_;refine Xr ?_;refine X5 ?_;refine X3 hf (Xq hf rfl rfl) ?_
   have hfin:fitsI c.gs i k out=false:=by rw [fitsI,X2h (j:=j) (by omega) (show fitC c.gs i k out j=true by rw [fitC,hp];rfl)];rfl
   exact ⟨by rw [hfin],hW,hBV⟩
  have hc22b:=hc22
  have hpA:fitA c.gs i k out j=false:=by unfold fitA;rw [← Xlj];exact hc22
  refine wp_skip ?_;refine hK13 _ _ ?_;refine wp_seq_k fun _ hK24=>?_;refine X08 (fun a w=>Fr a 68 [(1,vi (i:Int)),(2,vi k),(3,.slice B out.length cs),(4,.pointer (some ⟨b4,0,none⟩)),(13,vi (c.gs.length:Int)),(14,vi (j:Int)),(66,.bool ((((j:Int) != (i:Int))&&((out.getD j 0)==k))&&(comI (c.gs.getD j gZ) (c.gs.getD i gZ))))]∧Below w4.heap.size w4 w) ?_ ?_
  ·have hEc:Below w4.heap.size w4 w4:=Below.refl _ _
   refine X05 none (fun _=>false) mixed ?_;intro w5 hE;replace hBV:=hBV.below hE;replace hB4:=hB4.below hE;replace hr_c:=hr_c.below hE;replace hr_o:=hr_o.below hE;replace hW:=ktr hW hE;replace hEc:=btr hEc hE;refine Yb hf ?_;refine Yo 0 rfl (fun _=>X2 rfl)<|Yo 1 rfl (fun _=>X2 rfl)<|Yo 2 rfl (fun _=>X29 rfl rfl)<|Yo 3 rfl (fun _=>X2 rfl) ?_
   refine Yl 44 rfl (fun hg25=>?_) (fun hg25=>?_)
   ·refine Yu 4 rfl ⟨_,_,rfl,rfl,hg25⟩ (fun _=>X2 rfl) ?_;refine Yu 5 rfl ⟨_,_,rfl,rfl,hg25⟩ (fun _=>X2 rfl) ?_;refine Yi (k:=j) (u:=(out.getD j 0)) (enc:=encI) (l:=out) 6 rfl ⟨_,_,rfl,rfl,hg25⟩ rfl rfl Xg X0h X6 hr_o (X1i 0 (by omega)) rfl ?_;intro p27 hat26;refine Yv 7 rfl ⟨_,_,rfl,rfl,hg25⟩ (X0 rfl X4 hat26) ?_;refine Yu 8 rfl ⟨_,_,rfl,rfl,hg25⟩ (fun _=>X2 rfl) ?_;refine Yu 9 rfl ⟨_,_,rfl,rfl,hg25⟩ (fun _=>X0u rfl rfl) ?_;refine Yo 10 rfl (fun _=>Xb rfl hg25 rfl)<|Yo 11 rfl (fun _=>X2 rfl) ?_
    refine Yl 52 rfl (fun hg28=>?_) (fun hg28=>?_)
    ·refine Yu 12 rfl ⟨_,_,rfl,rfl,hg28⟩ (fun _=>Vd rfl X30 0) ?_;refine Yu 13 rfl ⟨_,_,rfl,rfl,hg28⟩ (fun _=>Vd rfl X0k 1) ?_;refine Yv 14 rfl ⟨_,_,rfl,rfl,hg28⟩ (X0 rfl X14 (hB4.at 1)) ?_;refine Yu 15 rfl ⟨_,_,rfl,rfl,hg28⟩ (fun _=>X2 rfl) ?_;refine Yi (k:=j) (u:=(c.gs.getD j gZ)) (enc:=encG) (l:=c.gs) 16 rfl ⟨_,_,rfl,rfl,hg28⟩ rfl rfl X0c X0g X0d hr_c (X9o (by omega)) rfl ?_;intro p30 hat29;refine Yv 17 rfl ⟨_,_,rfl,rfl,hg28⟩ (X09 (l:=[vi ((c.gs.getD j gZ).k),vi ((c.gs.getD j gZ).a),vi ((c.gs.getD j gZ).b)]) rfl Xt hat29 rfl) ?_;refine Yu 18 rfl ⟨_,_,rfl,rfl,hg28⟩ (fun _=>Vd rfl X30 0) ?_;refine Yu 19 rfl ⟨_,_,rfl,rfl,hg28⟩ (fun _=>Vd rfl X0k 1) ?_;refine Yv 20 rfl ⟨_,_,rfl,rfl,hg28⟩ (X0 rfl X14 (hB4.at 1)) ?_;refine Yu 21 rfl ⟨_,_,rfl,rfl,hg28⟩ (fun _=>X2 rfl) ?_;refine Yi (k:=i) (u:=(c.gs.getD i gZ)) (enc:=encG) (l:=c.gs) 22 rfl ⟨_,_,rfl,rfl,hg28⟩ rfl rfl X0c X0g X0d hr_c (X9o (by omega)) rfl ?_;intro p32 hat31;refine Yv 23 rfl ⟨_,_,rfl,rfl,hg28⟩ (X09 (l:=[vi ((c.gs.getD i gZ).k),vi ((c.gs.getD i gZ).a),vi ((c.gs.getD i gZ).b)]) rfl Xt hat31 rfl) ?_;refine Y1 24 ?_;refine Yk rfl ⟨_,_,rfl,rfl,hg28⟩ (Vc (Xqi _ (c.gs.getD j gZ) (c.gs.getD i gZ)) Xfj) (fun _ _ ⟨_,hE⟩=>hE) ?_;rintro _ w6 ⟨rfl,hE⟩;replace hBV:=hBV.below hE;replace hB4:=hB4.below hE;replace hr_c:=hr_c.below hE;replace hr_o:=hr_o.below hE;replace hW:=ktr hW hE;replace hEc:=btr hEc hE;refine Yo 25 rfl (fun _=>Xb rfl hg28 rfl) ?_;refine Yd fun a hf=>?_
     have hEE:Below w4.heap.size w4 w6:=hEc
     exact ⟨hf.sub ⟨rfl,rfl,rfl,rfl,rfl,rfl,X1 rfl (by first|rfl|(simp only [hc9b,hc22b,hg25,hg28,bs];done)|simp [hc9b,hc22b,hg25,hg28]),trivial⟩,hEE⟩
    refine Yp 12 rfl ⟨_,_,rfl,rfl,hg28⟩ ?_;refine Yp 13 rfl ⟨_,_,rfl,rfl,hg28⟩ ?_;refine Yp 14 rfl ⟨_,_,rfl,rfl,hg28⟩ ?_;refine Yp 15 rfl ⟨_,_,rfl,rfl,hg28⟩ ?_;refine Yp 16 rfl ⟨_,_,rfl,rfl,hg28⟩ ?_;refine Yp 17 rfl ⟨_,_,rfl,rfl,hg28⟩ ?_;refine Yp 18 rfl ⟨_,_,rfl,rfl,hg28⟩ ?_;refine Yp 19 rfl ⟨_,_,rfl,rfl,hg28⟩ ?_;refine Yp 20 rfl ⟨_,_,rfl,rfl,hg28⟩ ?_;refine Yp 21 rfl ⟨_,_,rfl,rfl,hg28⟩ ?_;refine Yp 22 rfl ⟨_,_,rfl,rfl,hg28⟩ ?_;refine Yp 23 rfl ⟨_,_,rfl,rfl,hg28⟩ ?_;refine Y1 24 ?_;refine Yq rfl ⟨_,_,rfl,rfl,hg28⟩ ?_;refine Yo 25 rfl (fun _=>X9 rfl hg28 rfl) ?_;refine Yd fun a hf=>?_
    have hEE:Below w4.heap.size w4 w5:=hEc
    exact ⟨hf.sub ⟨rfl,rfl,rfl,rfl,rfl,rfl,X1 rfl (by first|rfl|(simp only [hc9b,hc22b,hg25,hg28,bs];done)|simp [hc9b,hc22b,hg25,hg28]),trivial⟩,hEE⟩
   refine Yp 4 rfl ⟨_,_,rfl,rfl,hg25⟩ ?_;refine Yp 5 rfl ⟨_,_,rfl,rfl,hg25⟩ ?_;refine Yp 6 rfl ⟨_,_,rfl,rfl,hg25⟩ ?_;refine Yp 7 rfl ⟨_,_,rfl,rfl,hg25⟩ ?_;refine Yp 8 rfl ⟨_,_,rfl,rfl,hg25⟩ ?_;refine Yp 9 rfl ⟨_,_,rfl,rfl,hg25⟩ ?_;refine Yo 10 rfl (fun _=>X9 rfl hg25 rfl)<|Yo 11 rfl (fun _=>X2 rfl)<|Yp 12 rfl ⟨_,_,rfl,rfl,rfl⟩ ?_;refine Yp 13 rfl ⟨_,_,rfl,rfl,rfl⟩ ?_;refine Yp 14 rfl ⟨_,_,rfl,rfl,rfl⟩ ?_;refine Yp 15 rfl ⟨_,_,rfl,rfl,rfl⟩ ?_;refine Yp 16 rfl ⟨_,_,rfl,rfl,rfl⟩ ?_;refine Yp 17 rfl ⟨_,_,rfl,rfl,rfl⟩ ?_;refine Yp 18 rfl ⟨_,_,rfl,rfl,rfl⟩ ?_;refine Yp 19 rfl ⟨_,_,rfl,rfl,rfl⟩ ?_;refine Yp 20 rfl ⟨_,_,rfl,rfl,rfl⟩ ?_;refine Yp 21 rfl ⟨_,_,rfl,rfl,rfl⟩ ?_;refine Yp 22 rfl ⟨_,_,rfl,rfl,rfl⟩ ?_;refine Yp 23 rfl ⟨_,_,rfl,rfl,rfl⟩ ?_;refine Y1 24 ?_;refine Yq rfl ⟨_,_,rfl,rfl,rfl⟩ ?_;refine Yo 25 rfl (fun _=>X9 rfl rfl rfl) ?_;refine Yd fun a hf=>?_
   have hEE:Below w4.heap.size w4 w5:=hEc
   exact ⟨hf.sub ⟨rfl,rfl,rfl,rfl,rfl,rfl,X1 rfl (by first|rfl|(simp only [hc9b,hc22b,hg25,bs];done)|simp [hc9b,hc22b,hg25]),trivial⟩,hEE⟩
  rintro a w7 ⟨hf,hE⟩;replace hBV:=hBV.below hE;replace hB4:=hB4.below hE;replace hr_c:=hr_c.below hE;replace hr_o:=hr_o.below hE;replace hW:=ktr hW hE;refine hK24 _ _ ?_
  refine Xe hf rfl (fun hc33=>?_) (fun hc33=>?_)
  ·have hc33b:=hc33
   have hp:fitB c.gs i k out j=true:=by unfold fitB;rw [← Xbe];exact hc33
   refine Zs hf fun _ hK34=>?_;refine Za rfl ?_;refine Zt hK34 fun a hf=>?_;refine wp_ret ?_;refine Xr ?_;refine X5 ?_;refine X5 ?_;refine Xr ?_;refine X5 ?_;refine X3 hf (Xq hf rfl rfl) ?_
   have hfin:fitsI c.gs i k out=false:=by rw [fitsI,X2h (j:=j) (by omega) (show fitC c.gs i k out j=true by rw [fitC,hp,Bool.or_true])];rfl
   exact ⟨by rw [hfin],hW,hBV⟩
  have hc33b:=hc33
  have hpB:fitB c.gs i k out j=false:=by unfold fitB;rw [← Xbe];exact hc33
  have hnx:=X2b hA (show fitC c.gs i k out j=false by rw [fitC,hpA,hpB];rfl)
  refine wp_skip ?_;refine Xd ?_;refine hK11 _ _ ?_;refine Zr hf ?_;refine Ze (Xp rfl rfl (by omega) (by omega))<|Zm rfl ?_;refine Zn fun a hf=>?_;refine Xc ?_;exact ⟨j+1,⟨hf.sub ⟨rfl,rfl,rfl,rfl,rfl,rfl,trivial⟩,(by omega),hnx,hBV,hB4,hr_c,hr_o,hW⟩,(by omega)⟩
 have hc9b:=hc9;have hc9:=of_decide_eq_false hc9;refine wp_exit ?_;refine Xf ?_;refine Xf ?_;refine Xy ?_;refine hK5 _ _ ?_;refine Zs hf fun _ hK35=>?_;refine Za rfl ?_;refine Zt hK35 fun a hf=>?_
 refine wp_ret (X3 hf (Xq hf rfl rfl) ?_)
 have hfin:fitsI c.gs i k out=true:=by rw [fitsI,← show j=c.gs.length from by omega,hA];rfl
 exact ⟨by rw [hfin],hW,hBV⟩
theorem F58(w0:World)(c:Cx)(Ac:Option Addr)(cc:Nat)(hr_c:Rd w0 w0.heap.size 24 encG Ac c.gs)(As:Option Addr)(cs:Nat)(s:List Int)(hr_s:Rd w0 w0.heap.size 3 encI As s)(k:Int)(i:Nat)(Afo:Option Addr)(cfo:Nat)(fo:List Int)(hr_fo:Rd w0 w0.heap.size 3 encI Afo fo)(hls:s.length=c.gs.length)(hi:i<c.gs.length)(hfo:∀ x ∈ fo,0≤x∧x<(i:Int))(hln:c.gs.length≤2305843009213693951)(hlf:fo.length≤2305843009213693951) : Ret Tryz.prog 107 [.agg #[vi c.n,.slice Ac c.gs.length cc],.slice As s.length cs,vi k,vi (i:Int),.slice Afo fo.length cfo] w0 (fun v w=>v=.bool (freeS c.gs s k i fo)∧Below w0.heap.size w0 w):=by
 refine enter Tryz.func107 rfl 64 rfl rfl ?_;intro a hf
 have hW:Below w0.heap.size w0 w0:=Below.refl _ _
 refine Zs hf fun _ hK4=>?_;refine Zf (X0p (zs:=[vi c.n,.slice Ac c.gs.length cc]) rfl rfl) ?_;rintro _ w1 ⟨b5,rfl,hl5,hE,hB5⟩;have hlo5:=Nat.le_trans hW.size hl5;replace hW:=btr hW hE;refine Za rfl ?_;refine Zt hK4 fun a hf=>?_;refine wp_seq_k fun _ hK6=>?_;refine Zs hf fun _ hK7=>?_;refine Zm rfl<|Ze (X0y rfl Xg)<|Zm rfl ?_;refine Zt hK7 fun a hf=>?_;refine wp_block ?_;refine Xx (σ:=Nat) (fun (p:Nat) (a:Act) (w:World)=>Fr a 64 [(1,.slice As s.length cs),(2,vi k),(3,vi (i:Int)),(5,.pointer (some ⟨b5,0,none⟩)),(15,.slice Afo fo.length cfo),(16,vi (fo.length:Int)),(17,vi (p:Int))]∧(p≤fo.length)∧((fo.take p).all (fun x=>!freeA s k x)=true)∧Blk w b5 31 [vi c.n,.slice Ac c.gs.length cc]∧Below w0.heap.size w0 w) (fun (p:Nat)=>fo.length+1-p) 0 ?_ ?_
 ·exact ⟨hf.sub ⟨rfl,rfl,rfl,rfl,rfl,rfl,rfl,trivial⟩,(Nat.zero_le _),rfl,hB5,hW⟩
 rintro p a w2 ⟨hf,hk,hpre,hB5,hW⟩;refine Zs hf fun _ hK8=>?_;refine Ze (X0l rfl rfl) ?_;refine Zt hK8 fun a hf=>?_;refine wp_seq_k fun _ hK9=>?_
 refine Xe hf rfl (fun hc10=>?_) (fun hc10=>?_)
 ·have hc10b:=hc10;have hc10:=of_decide_eq_true hc10
  obtain ⟨u11,hu11⟩:=Xl (l:=fo) (k:=p) (by omega)
  obtain ⟨hu1,hu2⟩:=hfo _ (List.mem_of_getElem? hu11);obtain ⟨q,hq⟩:=Int.eq_ofNat_of_zero_le hu1
  have hqn:u11.toNat=q:=by omega
  refine wp_skip ?_;refine hK9 _ _ ?_;refine wp_seq_k fun _ hK12=>?_;refine wp_block ?_;refine Zs hf fun _ hK13=>?_;refine Zi (k:=p) (u:=u11) (enc:=encI) (l:=fo) trivial rfl rfl Xg X0h X6 (hr_fo.below' hW) hu11 rfl ?_;intro p15 hat14;refine Ze (X0 rfl X4 hat14)<|Za rfl ?_;refine Zt hK13 fun a hf=>?_;refine wp_seq_k fun _ hK16=>?_;refine X08 (fun a w=>Fr a 64 [(1,.slice As s.length cs),(2,vi k),(3,vi (i:Int)),(5,.pointer (some ⟨b5,0,none⟩)),(15,.slice Afo fo.length cfo),(16,vi (fo.length:Int)),(17,vi (p:Int)),(33,.bool ((decide ((s.getD q 0)<0))||(decide (k≤(s.getD q 0)))))]∧w2=w) ?_ ?_
  ·refine Zr hf ?_;refine Zm rfl<|Zm rfl ?_;refine Zi (k:=q) (u:=(s.getD q 0)) (enc:=encI) (l:=s) trivial rfl rfl Xg X0h X6 (hr_s.below' hW) (X1i 0 (by omega)) hq ?_;intro p18 hat17;refine Ze (X0 rfl X4 hat17)<|Ze (X0l rfl rfl)<|Zm rfl ?_
   refine Zg 26 rfl (fun hg19=>?_) (fun hg19=>?_)
   ·refine Zp ⟨_,_,rfl,rfl,hg19⟩ ?_;refine Zp ⟨_,_,rfl,rfl,hg19⟩ ?_;refine Zp ⟨_,_,rfl,rfl,hg19⟩ ?_;refine Zp ⟨_,_,rfl,rfl,hg19⟩ ?_;refine Zp ⟨_,_,rfl,rfl,hg19⟩ ?_;refine Zp ⟨_,_,rfl,rfl,hg19⟩ ?_;refine Ze (Xb rfl hg19 rfl) ?_;refine Zn fun a hf=>?_;exact ⟨hf.sub ⟨rfl,rfl,rfl,rfl,rfl,rfl,rfl,X1 rfl (by first|rfl|(simp only [hc10b,hg19,bs];done)|simp [hc10b,hg19]),trivial⟩,rfl⟩
   refine Zv ⟨_,_,rfl,rfl,hg19⟩ (X2 rfl) ?_;refine Zv ⟨_,_,rfl,rfl,hg19⟩ (X2 rfl) ?_;refine Zi (k:=q) (u:=(s.getD q 0)) (enc:=encI) (l:=s) ⟨_,_,rfl,rfl,hg19⟩ rfl rfl Xg X0h X6 (hr_s.below' hW) (X1i 0 (by omega)) hq ?_;intro p21 hat20;refine Zv ⟨_,_,rfl,rfl,hg19⟩ (X0 rfl X4 hat20) ?_;refine Zv ⟨_,_,rfl,rfl,hg19⟩ (X2 rfl) ?_;refine Zv ⟨_,_,rfl,rfl,hg19⟩ (Xde rfl rfl) ?_;refine Ze (X9 rfl hg19 rfl) ?_;refine Zn fun a hf=>?_;exact ⟨hf.sub ⟨rfl,rfl,rfl,rfl,rfl,rfl,rfl,X1 rfl (by first|rfl|(simp only [hc10b,hg19,bs];done)|simp [hc10b,hg19]),trivial⟩,rfl⟩
  rintro a _ ⟨hf,rfl⟩;refine hK16 _ _ ?_
  refine Xe hf rfl (fun hc22=>?_) (fun hc22=>?_)
  ·have hc22b:=hc22
   have hp:freeA s k u11=true:=by unfold freeA;rw [hqn];exact hc22
   have hb2:=X3c hu11 hp;refine Zs hf fun _ hK23=>?_;refine Za rfl ?_;refine Zt hK23 fun a hf=>?_;refine wp_ret ?_;refine Xr ?_;refine X5 ?_;refine X5 ?_;refine Xr ?_;refine X5 ?_;refine X3 hf (Xq hf rfl rfl) ?_
   have hfin:freeS c.gs s k i fo=false:=by rw [freeS,hb2];rfl
   exact ⟨by rw [hfin],hW⟩
  have hc22b:=hc22
  have hok:(!freeA s k u11)=true:=by unfold freeA;rw [hqn,show (decide (s.getD q 0<0)||decide (k≤s.getD q 0))=false from hc22];rfl
  refine wp_skip ?_;refine Xd ?_;refine hK12 _ _ ?_;refine Zr hf ?_;refine Ze (Xp rfl rfl (by omega) (by omega))<|Zm rfl ?_;refine Zn fun a hf=>?_;refine Xc ?_;exact ⟨p+1,⟨hf.sub ⟨rfl,rfl,rfl,rfl,rfl,rfl,rfl,trivial⟩,(by omega),(X2a hpre hu11 hok),hB5,hW⟩,(by omega)⟩
 have hc10b:=hc10;have hc10:=of_decide_eq_false hc10
 have hAf:fo.any (freeA s k)=false:=X2v (X24 hpre (by omega))
 refine wp_exit ?_;refine Xf ?_;refine Xf ?_;refine Xy ?_;refine hK6 _ _ ?_;refine wp_seq_k fun _ hK24=>?_;refine Zs hf fun _ hK25=>?_;refine Ze (Vd rfl X0k 1)<|Ze (X0 rfl X14 (hB5.at 1))<|Ze (X0y rfl X0c)<|Zm rfl ?_;refine Zt hK25 fun a hf=>?_;refine wp_block ?_;refine Xx (σ:=Nat) (fun (j:Nat) (a:Act) (w:World)=>Fr a 64 [(1,.slice As s.length cs),(2,vi k),(3,vi (i:Int)),(5,.pointer (some ⟨b5,0,none⟩)),(36,.slice Ac c.gs.length cc),(37,vi (c.gs.length:Int)),(38,vi (j:Int))]∧(j≤c.gs.length)∧((List.range j).any (freeB c.gs s k i)=false)∧Blk w b5 31 [vi c.n,.slice Ac c.gs.length cc]∧Below w0.heap.size w0 w) (fun (j:Nat)=>c.gs.length-j) 0 ?_ ?_
 ·exact ⟨hf.sub ⟨rfl,rfl,rfl,rfl,rfl,rfl,rfl,trivial⟩,(Nat.zero_le _),rfl,hB5,hW⟩
 rintro j a w3 ⟨hf,hj,hA,hB5,hW⟩;refine Zs hf fun _ hK26=>?_;refine Ze (X0l rfl rfl) ?_;refine Zt hK26 fun a hf=>?_;refine wp_seq_k fun _ hK27=>?_
 refine Xe hf rfl (fun hc28=>?_) (fun hc28=>?_)
 ·have hc28b:=hc28;have hc28:=of_decide_eq_true hc28
  obtain ⟨u29,hu29⟩:=Xl (l:=c.gs) (k:=j) (by omega)
  have hgj:=X3v hu29;refine wp_skip ?_;refine hK27 _ _ ?_;refine wp_seq_k fun _ hK30=>?_;refine wp_block ?_;refine Zs hf fun _ hK31=>?_;refine Zm rfl ?_;refine Zi (k:=j) (u:=u29) (enc:=encG) (l:=c.gs) trivial rfl rfl X0c X0g X0d (hr_c.below' hW) hu29 rfl ?_;intro p33 hat32;refine Ze (X09 (l:=[vi u29.k,vi u29.a,vi u29.b]) rfl Xt hat32 rfl) ?_;refine Zf (Xa (zs:=[vi 0,vi 0,vi 0]) X32 rfl) ?_;rintro _ w4 ⟨b34,rfl,hl34,hE,hB34⟩;have hlo34:=Nat.le_trans hW.size hl34;have haw1_34:=(hr_c.below' hW).away hl34;replace hB5:=hB5.below hE;replace hW:=btr hW hE;refine Za rfl ?_;refine Zo (Vw [vi u29.k,vi u29.a,vi u29.b] X0g hB34) ?_;rintro _ w5 ⟨ho,hb⟩;have hold:=hB34;replace hB5:=hB5.only ho (Blk.ne hB5 hold rfl);replace hW:=Below.only hW ho hlo34;clear hold;have hB34:=hb;clear hb ho;refine Zt hK31 fun a hf=>?_;refine wp_seq_k fun _ hK35=>?_;refine X08 (fun a w=>Fr a 64 [(1,.slice As s.length cs),(2,vi k),(3,vi (i:Int)),(5,.pointer (some ⟨b5,0,none⟩)),(36,.slice Ac c.gs.length cc),(37,vi (c.gs.length:Int)),(38,vi (j:Int)),(62,.bool ((((j:Int) != (i:Int))&&((s.getD j 0)==k))&&(comS (c.gs.getD i gZ) u29)))]∧Below w5.heap.size w5 w) ?_ ?_
  ·have hEc:Below w5.heap.size w5 w5:=Below.refl _ _
   refine X05 none (fun _=>false) mixed ?_;intro w6 hE;replace hB5:=hB5.below hE;replace hB34:=hB34.below hE;replace hW:=btr hW hE;replace hEc:=btr hEc hE;refine Yb hf ?_;refine Yo 0 rfl (fun _=>X2 rfl)<|Yo 1 rfl (fun _=>X2 rfl)<|Yo 2 rfl (fun _=>X29 rfl rfl)<|Yo 3 rfl (fun _=>X2 rfl) ?_
   refine Yl 46 rfl (fun hg36=>?_) (fun hg36=>?_)
   ·refine Yu 4 rfl ⟨_,_,rfl,rfl,hg36⟩ (fun _=>X2 rfl) ?_;refine Yu 5 rfl ⟨_,_,rfl,rfl,hg36⟩ (fun _=>X2 rfl) ?_;refine Yi (k:=j) (u:=(s.getD j 0)) (enc:=encI) (l:=s) 6 rfl ⟨_,_,rfl,rfl,hg36⟩ rfl rfl Xg X0h X6 (hr_s.below' hW) (X1i 0 (by omega)) rfl ?_;intro p38 hat37;refine Yv 7 rfl ⟨_,_,rfl,rfl,hg36⟩ (X0 rfl X4 hat37) ?_;refine Yu 8 rfl ⟨_,_,rfl,rfl,hg36⟩ (fun _=>X2 rfl) ?_;refine Yu 9 rfl ⟨_,_,rfl,rfl,hg36⟩ (fun _=>X0u rfl rfl) ?_;refine Yo 10 rfl (fun _=>Xb rfl hg36 rfl)<|Yo 11 rfl (fun _=>X2 rfl) ?_
    refine Yl 54 rfl (fun hg39=>?_) (fun hg39=>?_)
    ·refine Yu 12 rfl ⟨_,_,rfl,rfl,hg39⟩ (fun _=>Vd rfl X0k 1) ?_;refine Yv 13 rfl ⟨_,_,rfl,rfl,hg39⟩ (X0 rfl X14 (hB5.at 1)) ?_;refine Yu 14 rfl ⟨_,_,rfl,rfl,hg39⟩ (fun _=>X2 rfl) ?_;refine Yi (k:=i) (u:=(c.gs.getD i gZ)) (enc:=encG) (l:=c.gs) 15 rfl ⟨_,_,rfl,rfl,hg39⟩ rfl rfl X0c X0g X0d (hr_c.below' hW) (X9o (by omega)) rfl ?_;intro p41 hat40;refine Yv 16 rfl ⟨_,_,rfl,rfl,hg39⟩ (X09 (l:=[vi ((c.gs.getD i gZ).k),vi ((c.gs.getD i gZ).a),vi ((c.gs.getD i gZ).b)]) rfl Xt hat40 rfl) ?_;refine Yv 17 rfl ⟨_,_,rfl,rfl,hg39⟩ (Vn Xt hB34) ?_;refine Y1 18 ?_;refine Yk rfl ⟨_,_,rfl,rfl,hg39⟩ (Vc (Xod _ (c.gs.getD i gZ) u29) Xc6) (fun _ _ ⟨_,hE⟩=>hE) ?_;rintro _ w7 ⟨rfl,hE⟩;replace hB5:=hB5.below hE;replace hB34:=hB34.below hE;replace hW:=btr hW hE;replace hEc:=btr hEc hE;refine Yo 19 rfl (fun _=>Xb rfl hg39 rfl) ?_;refine Yd fun a hf=>?_
     have hEE:Below w5.heap.size w5 w7:=hEc
     exact ⟨hf.sub ⟨rfl,rfl,rfl,rfl,rfl,rfl,rfl,X1 rfl (by first|rfl|(simp only [hc10b,hc28b,hg36,hg39,bs];done)|simp [hc10b,hc28b,hg36,hg39]),trivial⟩,hEE⟩
    refine Yp 12 rfl ⟨_,_,rfl,rfl,hg39⟩ ?_;refine Yp 13 rfl ⟨_,_,rfl,rfl,hg39⟩ ?_;refine Yp 14 rfl ⟨_,_,rfl,rfl,hg39⟩ ?_;refine Yp 15 rfl ⟨_,_,rfl,rfl,hg39⟩ ?_;refine Yp 16 rfl ⟨_,_,rfl,rfl,hg39⟩ ?_;refine Yp 17 rfl ⟨_,_,rfl,rfl,hg39⟩ ?_;refine Y1 18 ?_;refine Yq rfl ⟨_,_,rfl,rfl,hg39⟩ ?_;refine Yo 19 rfl (fun _=>X9 rfl hg39 rfl) ?_;refine Yd fun a hf=>?_
    have hEE:Below w5.heap.size w5 w6:=hEc
    exact ⟨hf.sub ⟨rfl,rfl,rfl,rfl,rfl,rfl,rfl,X1 rfl (by first|rfl|(simp only [hc10b,hc28b,hg36,hg39,bs];done)|simp [hc10b,hc28b,hg36,hg39]),trivial⟩,hEE⟩
   refine Yp 4 rfl ⟨_,_,rfl,rfl,hg36⟩ ?_;refine Yp 5 rfl ⟨_,_,rfl,rfl,hg36⟩ ?_;refine Yp 6 rfl ⟨_,_,rfl,rfl,hg36⟩ ?_;refine Yp 7 rfl ⟨_,_,rfl,rfl,hg36⟩ ?_;refine Yp 8 rfl ⟨_,_,rfl,rfl,hg36⟩ ?_;refine Yp 9 rfl ⟨_,_,rfl,rfl,hg36⟩ ?_;refine Yo 10 rfl (fun _=>X9 rfl hg36 rfl)<|Yo 11 rfl (fun _=>X2 rfl)<|Yp 12 rfl ⟨_,_,rfl,rfl,rfl⟩ ?_;refine Yp 13 rfl ⟨_,_,rfl,rfl,rfl⟩ ?_;refine Yp 14 rfl ⟨_,_,rfl,rfl,rfl⟩ ?_;refine Yp 15 rfl ⟨_,_,rfl,rfl,rfl⟩ ?_;refine Yp 16 rfl ⟨_,_,rfl,rfl,rfl⟩ ?_;refine Yp 17 rfl ⟨_,_,rfl,rfl,rfl⟩ ?_;refine Y1 18 ?_;refine Yq rfl ⟨_,_,rfl,rfl,rfl⟩ ?_;refine Yo 19 rfl (fun _=>X9 rfl rfl rfl) ?_;refine Yd fun a hf=>?_
   have hEE:Below w5.heap.size w5 w6:=hEc
   exact ⟨hf.sub ⟨rfl,rfl,rfl,rfl,rfl,rfl,rfl,X1 rfl (by first|rfl|(simp only [hc10b,hc28b,hg36,bs];done)|simp [hc10b,hc28b,hg36]),trivial⟩,hEE⟩
  rintro a w8 ⟨hf,hE⟩;replace hB5:=hB5.below hE;replace hB34:=hB34.below hE;replace hW:=btr hW hE;refine hK35 _ _ ?_
  refine Xe hf rfl (fun hc42=>?_) (fun hc42=>?_)
  ·have hc42b:=hc42
   have hp:freeB c.gs s k i j=true:=by unfold freeB;rw [← Xbe,hgj];exact hc42
   refine Zs hf fun _ hK43=>?_;refine Za rfl ?_;refine Zt hK43 fun a hf=>?_;refine wp_ret ?_;refine Xr ?_;refine X5 ?_;refine X5 ?_;refine Xr ?_;refine X5 ?_;refine X3 hf (Xq hf rfl rfl) ?_
   have hfin:freeS c.gs s k i fo=false:=by rw [freeS,hAf,X2h (j:=j) (by omega) hp];rfl
   exact ⟨by rw [hfin],hW⟩
  have hc42b:=hc42
  have hp:freeB c.gs s k i j=false:=by unfold freeB;rw [← Xbe,hgj];exact hc42
  have hnx:=X2b hA hp;refine wp_skip ?_;refine Xd ?_;refine hK30 _ _ ?_;refine Zr hf ?_;refine Ze (Xp rfl rfl (by omega) (by omega))<|Zm rfl ?_;refine Zn fun a hf=>?_;refine Xc ?_;exact ⟨j+1,⟨hf.sub ⟨rfl,rfl,rfl,rfl,rfl,rfl,rfl,trivial⟩,(by omega),hnx,hB5,hW⟩,(by omega)⟩
 have hc28b:=hc28;have hc28:=of_decide_eq_false hc28;refine wp_exit ?_;refine Xf ?_;refine Xf ?_;refine Xy ?_;refine hK24 _ _ ?_;refine Zs hf fun _ hK44=>?_;refine Za rfl ?_;refine Zt hK44 fun a hf=>?_
 refine wp_ret (X3 hf (Xq hf rfl rfl) ?_)
 have hfin:freeS c.gs s k i fo=true:=by rw [freeS,hAf,← show j=c.gs.length from by omega,hA];rfl
 exact ⟨by rw [hfin],hW⟩
set_option maxHeartbeats 1000000
theorem F22(w0:World)(c:Cx)(Ac:Option Addr)(cc:Nat)(hr_c:Rd w0 w0.heap.size 24 encG Ac c.gs)(hln:c.gs.length≤2305843009213693951) : Ret Tryz.prog 35 [.agg #[vi c.n,.slice Ac c.gs.length cc]] w0 (fun v w=>∃ A c1,v=.tuple #[.slice A (schedOf c).length c1,.bool (cOk c)]∧Own w w0.heap.size 3 1 encI A c1 (schedOf c)∧Below w0.heap.size w0 w):=by
 refine enter Tryz.func35 rfl 73 rfl rfl ?_;intro a hf
 have hW:Below w0.heap.size w0 w0:=Below.refl _ _
 refine Zs hf fun _ hK2=>?_;refine Zf (X0p (zs:=[vi c.n,.slice Ac c.gs.length cc]) rfl rfl) ?_;rintro _ w1 ⟨b3,rfl,hl3,hE,hB3⟩;have hlo3:=Nat.le_trans hW.size hl3;replace hW:=btr hW hE;refine Za rfl<|Za rfl ?_;refine Zt hK2 fun a hf=>?_;refine wp_seq_k fun _ hK5=>?_;refine Zs hf fun _ hK6=>?_;refine Ze (Vn X0q hB3) ?_;refine Zf (Vc (F55 _ c Ac cc (hr_c.below' hW).top hln) Xd3) ?_;rintro _ w2 ⟨rfl,hE⟩;replace hB3:=hB3.below hE;replace hW:=btr hW hE;refine Ze (X16 rfl) ?_;refine Zt hK6 fun a hf=>?_
 refine Xe hf rfl (fun hc7=>?_) (fun hc7=>?_)
 ·have hc7b:=hc7
  have hcf:cOk c=false:=by revert hc7;cases cOk c<;>simp
  refine Zs hf fun _ hK8=>?_;refine Za rfl<|Za rfl ?_;refine Zt hK8 fun a hf=>?_;refine wp_ret ?_;refine X5 ?_;refine X3 hf (X15 hf rfl rfl rfl) ?_
  rw [X41 (by rw [hcf];simp),hcf]
  exact ⟨none,0,rfl,(Own.nil _ _ _ _ _),hW⟩
 have hc7b:=hc7
 have hc:cOk c=true:=by revert hc7;cases cOk c<;>simp
 obtain ⟨hcn,hcl,hcg⟩:=X0x hc;have hrun0:=(X4f hc).symm;refine wp_skip ?_;refine hK5 _ _ ?_;refine wp_seq_k fun _ hK10=>?_;refine X08 (fun a w=>∃ b11 b13 b16,Fr a 73 [(1,.pointer (some ⟨b3,0,none⟩)),(4,.pointer (some ⟨b16,0,none⟩)),(5,.slice (some ⟨b13,0,none⟩) c.gs.length c.gs.length),(6,vi 0)]∧w0.heap.size≤b11∧MemoG w b11∧w0.heap.size≤b13∧Blk w b13 3 ((List.replicate c.gs.length 0).flatMap encI)∧w0.heap.size≤b16∧Blk w b16 127 [vi c.n,.slice Ac c.gs.length cc,.map (some b11)]∧Below w2.heap.size w2 w) ?_ ?_
 ·have hEc:Below w2.heap.size w2 w2:=Below.refl _ _
  refine X05 none (fun j=>[8].contains j) mixed ?_;intro w3 hE;replace hB3:=hB3.below hE;replace hW:=btr hW hE;replace hEc:=btr hEc hE;refine Yb hf ?_;refine Ye 0 rfl (Vn X0q hB3)<|Yo 3 rfl (fun _=>Vd rfl X0k 1) ?_
  have hJc:Below w3.heap.size w3 w3:=Below.refl _ _
  refine Yc [0,1,2,3,4,5,6,7] 3 (fun a w=>∃ b11 b13 b16,Fr a 73 [(1,.pointer (some ⟨b3,0,none⟩)),(4,.pointer (some ⟨b16,0,none⟩)),(17,.agg #[vi c.n,.slice Ac c.gs.length cc,.map (some b11)]),(21,.slice (some ⟨b13,0,none⟩) c.gs.length c.gs.length)]∧w0.heap.size≤b11∧MemoG w b11∧w0.heap.size≤b13∧Blk w b13 3 ((List.replicate c.gs.length 0).flatMap encI)∧w0.heap.size≤b16∧Blk w b16 127 [vi 0,.slice none 0 0,.map none]∧w3.heap.size≤b11∧w2.heap.size≤b11∧w3.heap.size≤b13∧w2.heap.size≤b13∧w3.heap.size≤b16∧w2.heap.size≤b16∧Below w3.heap.size w3 w) ?_ ?_
  ·rintro a w4 ⟨b11,b13,b16,hf,hlo11,hB11,hlo13,hB13,hlo16,hB16,hlj11,hlc11,hlj13,hlc13,hlj16,hlc16,hE⟩;clear hJc;have hJc:=hE;replace hB3:=hB3.below hE;replace hW:=btr hW hE;replace hEc:=btr hEc hE;refine Yb hf ?_;refine Y1 8 ?_;refine Yh rfl trivial rfl (Vw [vi c.n,.slice Ac c.gs.length cc,.map (some b11)] X9l hB16) ?_;rintro _ w5 ⟨ho,hb⟩;have hold:=hB16;replace hB3:=hB3.only ho (Blk.ne hB3 hold rfl);replace hB11:=hB11.only ho (hB11.ne hold);replace hB13:=hB13.only ho (Blk.ne hB13 hold rfl);replace hEc:=Below.only hEc ho hlc16;replace hJc:=Below.only hJc ho hlj16;replace hW:=Below.only hW ho hlo16;clear hold;have hB16:=hb;clear hb ho;refine Yo 9 rfl (fun _=>X1s rfl)<|Yo 10 rfl (fun _=>X1s rfl) ?_;refine Yd fun a hf=>?_
   have hEE:Below w2.heap.size w2 w5:=hEc
   exact ⟨b11,b13,b16,hf.sub ⟨rfl,rfl,rfl,rfl,trivial⟩,hlo11,hB11,hlo13,hB13,hlo16,hB16,hEE⟩
  intro hJ11;refine Yc [0,1,2,3,4,5,7,8] 3 (fun a w=>∃ b11 b18,Fr a 73 [(1,.pointer (some ⟨b3,0,none⟩)),(4,.pointer (some ⟨b18,0,none⟩)),(20,vi (c.gs.length:Int))]∧w0.heap.size≤b11∧MemoG w b11∧w0.heap.size≤b18∧Blk w b18 127 [vi c.n,.slice Ac c.gs.length cc,.map (some b11)]∧w3.heap.size≤b11∧w2.heap.size≤b11∧w3.heap.size≤b18∧w2.heap.size≤b18∧Below w3.heap.size w3 w) ?_ ?_
  ·rintro a w6 ⟨b11,b18,hf,hlo11,hB11,hlo18,hB18,hlj11,hlc11,hlj18,hlc18,hE⟩;clear hJc;have hJc:=hE;replace hB3:=hB3.below hE;replace hW:=btr hW hE;replace hEc:=btr hEc hE;refine Yb hf ?_;refine Y1 6 ?_;refine Yk rfl trivial (X21 (m:=c.gs.length) (enc:=encI) (z0:=0) rfl rfl Xg X19 z_3 rfl X6 (by omega) (by omega)) (fun _ _ ⟨_,_,_,h,_⟩=>h) ?_;rintro _ w7 ⟨b15,rfl,hl15,hE,hB15⟩;have hlo15:=Nat.le_trans hW.size hl15;have hlc15:=Nat.le_trans hEc.size hl15;have hlj15:=Nat.le_trans hJc.size hl15;replace hB3:=hB3.below hE;replace hB11:=hB11.below hE;replace hB18:=hB18.below hE;replace hW:=btr hW hE;replace hEc:=btr hEc hE;replace hJc:=btr hJc hE;refine Yo 9 rfl (fun _=>X1s rfl)<|Yo 10 rfl (fun _=>X1s rfl) ?_;refine Yd fun a hf=>?_
   have hEE:Below w2.heap.size w2 w7:=hEc
   exact ⟨b11,b15,b18,hf.sub ⟨rfl,(by first|rfl|(simp [look,hc7b])),(by first|rfl|(simp [look,hc7b])),rfl,trivial⟩,hlo11,hB11,hlo15,hB15,hlo18,hB18,hEE⟩
  intro hJ13;refine Yc [0,1,2,3,4,5,6] 4 (fun a w=>∃ b11 b13,Fr a 73 [(1,.pointer (some ⟨b3,0,none⟩)),(17,.agg #[vi c.n,.slice Ac c.gs.length cc,.map (some b11)]),(21,.slice (some ⟨b13,0,none⟩) c.gs.length c.gs.length)]∧w0.heap.size≤b11∧MemoG w b11∧w0.heap.size≤b13∧Blk w b13 3 ((List.replicate c.gs.length 0).flatMap encI)∧w3.heap.size≤b11∧w2.heap.size≤b11∧w3.heap.size≤b13∧w2.heap.size≤b13∧Below w3.heap.size w3 w) ?_ ?_
  ·rintro a w8 ⟨b11,b13,hf,hlo11,hB11,hlo13,hB13,hlj11,hlc11,hlj13,hlc13,hE⟩;clear hJc;have hJc:=hE;replace hB3:=hB3.below hE;replace hW:=btr hW hE;replace hEc:=btr hEc hE;refine Yb hf ?_;refine Y1 7 ?_;refine Yk rfl trivial (Xa (zs:=[vi 0,.slice none 0 0,.map none]) X85 rfl) (fun _ _ ⟨_,_,_,h,_⟩=>h) ?_;rintro _ w9 ⟨b20,rfl,hl20,hE,hB20⟩;have hlo20:=Nat.le_trans hW.size hl20;have hlc20:=Nat.le_trans hEc.size hl20;have hlj20:=Nat.le_trans hJc.size hl20;replace hB3:=hB3.below hE;replace hB11:=hB11.below hE;replace hB13:=hB13.below hE;replace hW:=btr hW hE;replace hEc:=btr hEc hE;replace hJc:=btr hJc hE;exact fun a hf=>hJ11 _ a _ rfl ⟨b11,b13,b20,hf.sub ⟨rfl,rfl,rfl,rfl,trivial⟩,hlo11,hB11,hlo13,hB13,hlo20,hB20,hlj11,hlc11,hlj13,hlc13,hlj20,hlc20,hJc⟩
  intro hJ17;refine Yc [0,1,2,3,4,5,7] 4 (fun a w=>∃ b11 b18,Fr a 73 [(1,.pointer (some ⟨b3,0,none⟩)),(4,.pointer (some ⟨b18,0,none⟩)),(17,.agg #[vi c.n,.slice Ac c.gs.length cc,.map (some b11)]),(20,vi (c.gs.length:Int))]∧w0.heap.size≤b11∧MemoG w b11∧w0.heap.size≤b18∧Blk w b18 127 [vi 0,.slice none 0 0,.map none]∧w3.heap.size≤b11∧w2.heap.size≤b11∧w3.heap.size≤b18∧w2.heap.size≤b18∧Below w3.heap.size w3 w) ?_ ?_
  ·rintro a w10 ⟨b11,b18,hf,hlo11,hB11,hlo18,hB18,hlj11,hlc11,hlj18,hlc18,hE⟩;clear hJc;have hJc:=hE;replace hB3:=hB3.below hE;replace hW:=btr hW hE;replace hEc:=btr hEc hE;refine Yb hf ?_;refine Y2 6 8 ?_ ?_
   ·refine Yk rfl trivial (X21 (m:=c.gs.length) (enc:=encI) (z0:=0) rfl rfl Xg X19 z_3 rfl X6 (by omega) (by omega)) (fun _ _ ⟨_,_,_,h,_⟩=>h) ?_;rintro _ w11 ⟨b23,rfl,hl23,hE,hB23⟩;have hlo23:=Nat.le_trans hW.size hl23;have hlc23:=Nat.le_trans hEc.size hl23;have hlj23:=Nat.le_trans hJc.size hl23;replace hB3:=hB3.below hE;replace hB11:=hB11.below hE;replace hB18:=hB18.below hE;replace hW:=btr hW hE;replace hEc:=btr hEc hE;replace hJc:=btr hJc hE;exact fun a hf=>hJ11 _ a _ rfl ⟨b11,b23,b18,hf.sub ⟨rfl,rfl,rfl,rfl,trivial⟩,hlo11,hB11,hlo23,hB23,hlo18,hB18,hlj11,hlc11,hlj23,hlc23,hlj18,hlc18,hJc⟩
   refine Yh rfl trivial rfl (Vw [vi c.n,.slice Ac c.gs.length cc,.map (some b11)] X9l hB18) ?_;rintro _ w12 ⟨ho,hb⟩;have hold:=hB18;replace hB3:=hB3.only ho (Blk.ne hB3 hold rfl);replace hB11:=hB11.only ho (hB11.ne hold);replace hEc:=Below.only hEc ho hlc18;replace hJc:=Below.only hJc ho hlj18;replace hW:=Below.only hW ho hlo18;clear hold;have hB18:=hb;clear hb ho;exact fun a hf=>hJ13 _ a _ rfl ⟨b11,b18,hf.sub ⟨rfl,rfl,rfl,trivial⟩,hlo11,hB11,hlo18,hB18,hlj11,hlc11,hlj18,hlc18,hJc⟩
  intro hJ21;refine Yc [0,1,2,3,4,5] 5 (fun a w=>∃ b11,Fr a 73 [(1,.pointer (some ⟨b3,0,none⟩)),(17,.agg #[vi c.n,.slice Ac c.gs.length cc,.map (some b11)]),(20,vi (c.gs.length:Int))]∧w0.heap.size≤b11∧MemoG w b11∧w3.heap.size≤b11∧w2.heap.size≤b11∧Below w3.heap.size w3 w) ?_ ?_
  ·rintro a w13 ⟨b11,hf,hlo11,hB11,hlj11,hlc11,hE⟩;clear hJc;have hJc:=hE;replace hB3:=hB3.below hE;replace hW:=btr hW hE;replace hEc:=btr hEc hE;refine Yb hf ?_;refine Y2 6 7 ?_ ?_
   ·refine Yk rfl trivial (X21 (m:=c.gs.length) (enc:=encI) (z0:=0) rfl rfl Xg X19 z_3 rfl X6 (by omega) (by omega)) (fun _ _ ⟨_,_,_,h,_⟩=>h) ?_;rintro _ w14 ⟨b27,rfl,hl27,hE,hB27⟩;have hlo27:=Nat.le_trans hW.size hl27;have hlc27:=Nat.le_trans hEc.size hl27;have hlj27:=Nat.le_trans hJc.size hl27;replace hB3:=hB3.below hE;replace hB11:=hB11.below hE;replace hW:=btr hW hE;replace hEc:=btr hEc hE;replace hJc:=btr hJc hE;exact fun a hf=>hJ17 _ a _ rfl ⟨b11,b27,hf.sub ⟨rfl,rfl,rfl,trivial⟩,hlo11,hB11,hlo27,hB27,hlj11,hlc11,hlj27,hlc27,hJc⟩
   refine Yk rfl trivial (Xa (zs:=[vi 0,.slice none 0 0,.map none]) X85 rfl) (fun _ _ ⟨_,_,_,h,_⟩=>h) ?_;rintro _ w15 ⟨b30,rfl,hl30,hE,hB30⟩;have hlo30:=Nat.le_trans hW.size hl30;have hlc30:=Nat.le_trans hEc.size hl30;have hlj30:=Nat.le_trans hJc.size hl30;replace hB3:=hB3.below hE;replace hB11:=hB11.below hE;replace hW:=btr hW hE;replace hEc:=btr hEc hE;replace hJc:=btr hJc hE;exact fun a hf=>hJ21 _ a _ rfl ⟨b11,b30,hf.sub ⟨rfl,rfl,rfl,rfl,trivial⟩,hlo11,hB11,hlo30,hB30,hlj11,hlc11,hlj30,hlc30,hJc⟩
  intro hJ25;refine Yc [0,3,4,5,6,7] 5 (fun a w=>∃ b27 b32,Fr a 73 [(1,.pointer (some ⟨b3,0,none⟩)),(4,.pointer (some ⟨b32,0,none⟩)),(15,.agg #[vi c.n,.slice Ac c.gs.length cc]),(21,.slice (some ⟨b27,0,none⟩) c.gs.length c.gs.length)]∧w0.heap.size≤b27∧Blk w b27 3 ((List.replicate c.gs.length 0).flatMap encI)∧w0.heap.size≤b32∧Blk w b32 127 [vi 0,.slice none 0 0,.map none]∧w3.heap.size≤b27∧w2.heap.size≤b27∧w3.heap.size≤b32∧w2.heap.size≤b32∧Below w3.heap.size w3 w) ?_ ?_
  ·rintro a w16 ⟨b27,b32,hf,hlo27,hB27,hlo32,hB32,hlj27,hlc27,hlj32,hlc32,hE⟩;clear hJc;have hJc:=hE;replace hB3:=hB3.below hE;replace hW:=btr hW hE;replace hEc:=btr hEc hE;refine Yb hf ?_;refine Y1 1 ?_;refine Yk rfl trivial (X2y) (fun _ _ ⟨_,_,_,h,_⟩=>h) ?_;rintro _ w17 ⟨b33,rfl,hl33,hE,hB33⟩;have hlo33:=Nat.le_trans hW.size hl33;have hlc33:=Nat.le_trans hEc.size hl33;have hlj33:=Nat.le_trans hJc.size hl33;replace hB3:=hB3.below hE;replace hB27:=hB27.below hE;replace hB32:=hB32.below hE;replace hW:=btr hW hE;replace hEc:=btr hEc hE;replace hJc:=btr hJc hE;refine Yo 2 rfl (fun _=>Xz (ps:=[(0,.agg #[vi c.n,.slice Ac c.gs.length cc]),(1,.map (some b33))]) (cs:=[vi c.n,.slice Ac c.gs.length cc,.map (some b33)]) rfl (fun _=>by first|rfl|kernel_rfl)) ?_;exact fun a hf=>hJ11 _ a _ rfl ⟨b33,b27,b32,hf.sub ⟨rfl,rfl,rfl,rfl,trivial⟩,hlo33,hB33,hlo27,hB27,hlo32,hB32,hlj33,hlc33,hlj27,hlc27,hlj32,hlc32,hJc⟩
  intro hJ31;refine Yc [0,1,2,3,7] 6 (fun a w=>∃ b11 b24,Fr a 73 [(1,.pointer (some ⟨b3,0,none⟩)),(4,.pointer (some ⟨b24,0,none⟩)),(17,.agg #[vi c.n,.slice Ac c.gs.length cc,.map (some b11)]),(18,.pointer (some ⟨b3,1,none⟩))]∧w0.heap.size≤b11∧MemoG w b11∧w0.heap.size≤b24∧Blk w b24 127 [vi 0,.slice none 0 0,.map none]∧w3.heap.size≤b11∧w2.heap.size≤b11∧w3.heap.size≤b24∧w2.heap.size≤b24∧Below w3.heap.size w3 w) ?_ ?_
  ·rintro a w18 ⟨b11,b24,hf,hlo11,hB11,hlo24,hB24,hlj11,hlc11,hlj24,hlc24,hE⟩;clear hJc;have hJc:=hE;replace hB3:=hB3.below hE;replace hW:=btr hW hE;replace hEc:=btr hEc hE;refine Yb hf ?_;refine Y2 4 8 ?_ ?_
   ·refine Yz rfl trivial (Uev (X0 rfl X14 (hB3.at 1))) ?_;refine Yo 5 rfl (fun _=>X0y rfl X0c) ?_;exact fun a hf=>hJ21 _ a _ rfl ⟨b11,b24,hf.sub ⟨rfl,rfl,rfl,rfl,trivial⟩,hlo11,hB11,hlo24,hB24,hlj11,hlc11,hlj24,hlc24,hJc⟩
   refine Yh rfl trivial rfl (Vw [vi c.n,.slice Ac c.gs.length cc,.map (some b11)] X9l hB24) ?_;rintro _ w19 ⟨ho,hb⟩;have hold:=hB24;replace hB3:=hB3.only ho (Blk.ne hB3 hold rfl);replace hB11:=hB11.only ho (hB11.ne hold);replace hEc:=Below.only hEc ho hlc24;replace hJc:=Below.only hJc ho hlj24;replace hW:=Below.only hW ho hlo24;clear hold;have hB24:=hb;clear hb ho;refine Y1 4 ?_;refine Yz rfl trivial (Uev (X0 rfl X14 (hB3.at 1))) ?_;refine Yo 5 rfl (fun _=>X0y rfl X0c) ?_;exact fun a hf=>hJ13 _ a _ rfl ⟨b11,b24,hf.sub ⟨rfl,rfl,rfl,trivial⟩,hlo11,hB11,hlo24,hB24,hlj11,hlc11,hlj24,hlc24,hJc⟩
  intro hJ35;refine Yc [0,3,4,5,7] 6 (fun a w=>∃ b36,Fr a 73 [(1,.pointer (some ⟨b3,0,none⟩)),(4,.pointer (some ⟨b36,0,none⟩)),(15,.agg #[vi c.n,.slice Ac c.gs.length cc]),(20,vi (c.gs.length:Int))]∧w0.heap.size≤b36∧Blk w b36 127 [vi 0,.slice none 0 0,.map none]∧w3.heap.size≤b36∧w2.heap.size≤b36∧Below w3.heap.size w3 w) ?_ ?_
  ·rintro a w20 ⟨b36,hf,hlo36,hB36,hlj36,hlc36,hE⟩;clear hJc;have hJc:=hE;replace hB3:=hB3.below hE;replace hW:=btr hW hE;replace hEc:=btr hEc hE;refine Yb hf ?_;refine Y2 1 6 ?_ ?_
   ·refine Yk rfl trivial (X2y) (fun _ _ ⟨_,_,_,h,_⟩=>h) ?_;rintro _ w21 ⟨b39,rfl,hl39,hE,hB39⟩;have hlo39:=Nat.le_trans hW.size hl39;have hlc39:=Nat.le_trans hEc.size hl39;have hlj39:=Nat.le_trans hJc.size hl39;replace hB3:=hB3.below hE;replace hB36:=hB36.below hE;replace hW:=btr hW hE;replace hEc:=btr hEc hE;replace hJc:=btr hJc hE;refine Yo 2 rfl (fun _=>Xz (ps:=[(0,.agg #[vi c.n,.slice Ac c.gs.length cc]),(1,.map (some b39))]) (cs:=[vi c.n,.slice Ac c.gs.length cc,.map (some b39)]) rfl (fun _=>by first|rfl|kernel_rfl)) ?_;exact fun a hf=>hJ21 _ a _ rfl ⟨b39,b36,hf.sub ⟨rfl,rfl,rfl,rfl,trivial⟩,hlo39,hB39,hlo36,hB36,hlj39,hlc39,hlj36,hlc36,hJc⟩
   refine Yk rfl trivial (X21 (m:=c.gs.length) (enc:=encI) (z0:=0) rfl rfl Xg X19 z_3 rfl X6 (by omega) (by omega)) (fun _ _ ⟨_,_,_,h,_⟩=>h) ?_;rintro _ w22 ⟨b41,rfl,hl41,hE,hB41⟩;have hlo41:=Nat.le_trans hW.size hl41;have hlc41:=Nat.le_trans hEc.size hl41;have hlj41:=Nat.le_trans hJc.size hl41;replace hB3:=hB3.below hE;replace hB36:=hB36.below hE;replace hW:=btr hW hE;replace hEc:=btr hEc hE;replace hJc:=btr hJc hE;exact fun a hf=>hJ31 _ a _ rfl ⟨b41,b36,hf.sub ⟨rfl,rfl,rfl,rfl,trivial⟩,hlo41,hB41,hlo36,hB36,hlj41,hlc41,hlj36,hlc36,hJc⟩
  intro hJ37;refine Y3 1 4 7 ?_ ?_ ?_
  ·refine Yk rfl trivial (X2y) (fun _ _ ⟨_,_,_,h,_⟩=>h) ?_;rintro _ w23 ⟨b43,rfl,hl43,hE,hB43⟩;have hlo43:=Nat.le_trans hW.size hl43;have hlc43:=Nat.le_trans hEc.size hl43;have hlj43:=Nat.le_trans hJc.size hl43;replace hB3:=hB3.below hE;replace hW:=btr hW hE;replace hEc:=btr hEc hE;replace hJc:=btr hJc hE;refine Yo 2 rfl (fun _=>Xz (ps:=[(0,.agg #[vi c.n,.slice Ac c.gs.length cc]),(1,.map (some b43))]) (cs:=[vi c.n,.slice Ac c.gs.length cc,.map (some b43)]) rfl (fun _=>by first|rfl|kernel_rfl)) ?_;refine Y2 4 7 ?_ ?_
   ·refine Yz rfl trivial (Uev (X0 rfl X14 (hB3.at 1))) ?_;refine Yo 5 rfl (fun _=>X0y rfl X0c) ?_;exact fun a hf=>hJ25 _ a _ rfl ⟨b43,hf.sub ⟨rfl,rfl,rfl,trivial⟩,hlo43,hB43,hlj43,hlc43,hJc⟩
   refine Yk rfl trivial (Xa (zs:=[vi 0,.slice none 0 0,.map none]) X85 rfl) (fun _ _ ⟨_,_,_,h,_⟩=>h) ?_;rintro _ w24 ⟨b46,rfl,hl46,hE,hB46⟩;have hlo46:=Nat.le_trans hW.size hl46;have hlc46:=Nat.le_trans hEc.size hl46;have hlj46:=Nat.le_trans hJc.size hl46;replace hB3:=hB3.below hE;replace hB43:=hB43.below hE;replace hW:=btr hW hE;replace hEc:=btr hEc hE;replace hJc:=btr hJc hE;exact fun a hf=>hJ35 _ a _ rfl ⟨b43,b46,hf.sub ⟨rfl,rfl,rfl,rfl,trivial⟩,hlo43,hB43,hlo46,hB46,hlj43,hlc43,hlj46,hlc46,hJc⟩
  ·refine Yz rfl trivial (Uev (X0 rfl X14 (hB3.at 1))) ?_;refine Yo 5 rfl (fun _=>X0y rfl X0c) ?_;refine Y3 1 6 7 ?_ ?_ ?_
   ·refine Yk rfl trivial (X2y) (fun _ _ ⟨_,_,_,h,_⟩=>h) ?_;rintro _ w25 ⟨b47,rfl,hl47,hE,hB47⟩;have hlo47:=Nat.le_trans hW.size hl47;have hlc47:=Nat.le_trans hEc.size hl47;have hlj47:=Nat.le_trans hJc.size hl47;replace hB3:=hB3.below hE;replace hW:=btr hW hE;replace hEc:=btr hEc hE;replace hJc:=btr hJc hE;refine Yo 2 rfl (fun _=>Xz (ps:=[(0,.agg #[vi c.n,.slice Ac c.gs.length cc]),(1,.map (some b47))]) (cs:=[vi c.n,.slice Ac c.gs.length cc,.map (some b47)]) rfl (fun _=>by first|rfl|kernel_rfl)) ?_;exact fun a hf=>hJ25 _ a _ rfl ⟨b47,hf.sub ⟨rfl,rfl,rfl,trivial⟩,hlo47,hB47,hlj47,hlc47,hJc⟩
   ·refine Yk rfl trivial (X21 (m:=c.gs.length) (enc:=encI) (z0:=0) rfl rfl Xg X19 z_3 rfl X6 (by omega) (by omega)) (fun _ _ ⟨_,_,_,h,_⟩=>h) ?_;rintro _ w26 ⟨b49,rfl,hl49,hE,hB49⟩;have hlo49:=Nat.le_trans hW.size hl49;have hlc49:=Nat.le_trans hEc.size hl49;have hlj49:=Nat.le_trans hJc.size hl49;replace hB3:=hB3.below hE;replace hW:=btr hW hE;replace hEc:=btr hEc hE;replace hJc:=btr hJc hE;refine Y2 1 7 ?_ ?_
    ·refine Yk rfl trivial (X2y) (fun _ _ ⟨_,_,_,h,_⟩=>h) ?_;rintro _ w27 ⟨b51,rfl,hl51,hE,hB51⟩;have hlo51:=Nat.le_trans hW.size hl51;have hlc51:=Nat.le_trans hEc.size hl51;have hlj51:=Nat.le_trans hJc.size hl51;replace hB3:=hB3.below hE;replace hB49:=hB49.below hE;replace hW:=btr hW hE;replace hEc:=btr hEc hE;replace hJc:=btr hJc hE;refine Yo 2 rfl (fun _=>Xz (ps:=[(0,.agg #[vi c.n,.slice Ac c.gs.length cc]),(1,.map (some b51))]) (cs:=[vi c.n,.slice Ac c.gs.length cc,.map (some b51)]) rfl (fun _=>by first|rfl|kernel_rfl)) ?_;exact fun a hf=>hJ17 _ a _ rfl ⟨b51,b49,hf.sub ⟨rfl,rfl,rfl,trivial⟩,hlo51,hB51,hlo49,hB49,hlj51,hlc51,hlj49,hlc49,hJc⟩
    refine Yk rfl trivial (Xa (zs:=[vi 0,.slice none 0 0,.map none]) X85 rfl) (fun _ _ ⟨_,_,_,h,_⟩=>h) ?_;rintro _ w28 ⟨b54,rfl,hl54,hE,hB54⟩;have hlo54:=Nat.le_trans hW.size hl54;have hlc54:=Nat.le_trans hEc.size hl54;have hlj54:=Nat.le_trans hJc.size hl54;replace hB3:=hB3.below hE;replace hB49:=hB49.below hE;replace hW:=btr hW hE;replace hEc:=btr hEc hE;replace hJc:=btr hJc hE;exact fun a hf=>hJ31 _ a _ rfl ⟨b49,b54,hf.sub ⟨rfl,rfl,rfl,rfl,trivial⟩,hlo49,hB49,hlo54,hB54,hlj49,hlc49,hlj54,hlc54,hJc⟩
   refine Yk rfl trivial (Xa (zs:=[vi 0,.slice none 0 0,.map none]) X85 rfl) (fun _ _ ⟨_,_,_,h,_⟩=>h) ?_;rintro _ w29 ⟨b56,rfl,hl56,hE,hB56⟩;have hlo56:=Nat.le_trans hW.size hl56;have hlc56:=Nat.le_trans hEc.size hl56;have hlj56:=Nat.le_trans hJc.size hl56;replace hB3:=hB3.below hE;replace hW:=btr hW hE;replace hEc:=btr hEc hE;replace hJc:=btr hJc hE;exact fun a hf=>hJ37 _ a _ rfl ⟨b56,hf.sub ⟨rfl,rfl,rfl,rfl,trivial⟩,hlo56,hB56,hlj56,hlc56,hJc⟩
  refine Yk rfl trivial (Xa (zs:=[vi 0,.slice none 0 0,.map none]) X85 rfl) (fun _ _ ⟨_,_,_,h,_⟩=>h) ?_;rintro _ w30 ⟨b58,rfl,hl58,hE,hB58⟩;have hlo58:=Nat.le_trans hW.size hl58;have hlc58:=Nat.le_trans hEc.size hl58;have hlj58:=Nat.le_trans hJc.size hl58;replace hB3:=hB3.below hE;replace hW:=btr hW hE;replace hEc:=btr hEc hE;replace hJc:=btr hJc hE;refine Y2 1 4 ?_ ?_
  ·refine Yk rfl trivial (X2y) (fun _ _ ⟨_,_,_,h,_⟩=>h) ?_;rintro _ w31 ⟨b59,rfl,hl59,hE,hB59⟩;have hlo59:=Nat.le_trans hW.size hl59;have hlc59:=Nat.le_trans hEc.size hl59;have hlj59:=Nat.le_trans hJc.size hl59;replace hB3:=hB3.below hE;replace hB58:=hB58.below hE;replace hW:=btr hW hE;replace hEc:=btr hEc hE;replace hJc:=btr hJc hE;refine Yo 2 rfl (fun _=>Xz (ps:=[(0,.agg #[vi c.n,.slice Ac c.gs.length cc]),(1,.map (some b59))]) (cs:=[vi c.n,.slice Ac c.gs.length cc,.map (some b59)]) rfl (fun _=>by first|rfl|kernel_rfl)) ?_;exact fun a hf=>hJ35 _ a _ rfl ⟨b59,b58,hf.sub ⟨rfl,rfl,rfl,rfl,trivial⟩,hlo59,hB59,hlo58,hB58,hlj59,hlc59,hlj58,hlc58,hJc⟩
  refine Yz rfl trivial (Uev (X0 rfl X14 (hB3.at 1))) ?_;refine Yo 5 rfl (fun _=>X0y rfl X0c) ?_;exact fun a hf=>hJ37 _ a _ rfl ⟨b58,hf.sub ⟨rfl,rfl,rfl,rfl,trivial⟩,hlo58,hB58,hlj58,hlc58,hJc⟩
 rintro a w32 ⟨b11,b13,b16,hf,hlo11,hB11,hlo13,hB13,hlo16,hB16,hE⟩;replace hB3:=hB3.below hE;replace hW:=btr hW hE;refine hK10 _ _ ?_;refine wp_seq_k fun _ hK61=>?_;refine Zs hf fun _ hK62=>?_;refine Ze (Vd rfl X0k 1)<|Ze (X0 rfl X14 (hB3.at 1))<|Ze (X0y rfl X0c)<|Zm rfl ?_;refine Zt hK62 fun a hf=>?_;refine wp_block ?_;refine Xx (σ:=Nat×Int) (fun (s:Nat×Int) (a:Act) (w:World)=>match s with|(k,z)=>Fr a 73 [(1,.pointer (some ⟨b3,0,none⟩)),(4,.pointer (some ⟨b16,0,none⟩)),(5,.slice (some ⟨b13,0,none⟩) c.gs.length c.gs.length),(6,vi z),(23,.slice Ac c.gs.length cc),(24,vi (c.gs.length:Int)),(25,vi (k:Int))]∧(k≤c.gs.length)∧(z=(cntW (c.gs.take k) : Int))∧Blk w b3 31 [vi c.n,.slice Ac c.gs.length cc]∧MemoG w b11∧Blk w b13 3 ((List.replicate c.gs.length 0).flatMap encI)∧Blk w b16 127 [vi c.n,.slice Ac c.gs.length cc,.map (some b11)]∧Below w0.heap.size w0 w) (fun (s:Nat×Int)=>match s with|(k,z)=>c.gs.length-k) (0,0) ?_ ?_
 ·exact ⟨hf.sub ⟨rfl,rfl,rfl,rfl,rfl,rfl,rfl,trivial⟩,(Nat.zero_le _),(by simp [cntW]),hB3,hB11,hB13,hB16,hW⟩
 rintro ⟨k,z⟩ a w33 ⟨hf,hk,hz,hB3,hB11,hB13,hB16,hW⟩;refine Zs hf fun _ hK63=>?_;refine Ze (X0l rfl rfl) ?_;refine Zt hK63 fun a hf=>?_;refine wp_seq_k fun _ hK64=>?_
 refine Xe hf rfl (fun hc65=>?_) (fun hc65=>?_)
 ·have hc65b:=hc65;have hc65:=of_decide_eq_true hc65
  obtain ⟨u66,hu66⟩:=Xl (l:=c.gs) (k:=k) (by omega)
  have hcs:=Xur hu66;have hcw:=Xg4 (c.gs.take k);have hct:=List.length_take_le k c.gs
  have hif:0≤(if (u66.k != 12)=true then (1:Int) else 0)∧(if (u66.k != 12)=true then (1:Int) else 0)≤1:=by split<;>omega
  refine wp_skip ?_;refine hK64 _ _ ?_;refine wp_seq_k fun _ hK67=>?_;refine wp_block ?_;refine Zs hf fun _ hK68=>?_;refine Zi (k:=k) (u:=u66) (enc:=encG) (l:=c.gs) trivial rfl rfl X0c X0g X0d (hr_c.below' hW) hu66 rfl ?_;intro p70 hat69;refine Ze (X09 (l:=[vi u66.k,vi u66.a,vi u66.b]) rfl Xt hat69 rfl) ?_;refine Zf (Xa (zs:=[vi 0,vi 0,vi 0]) X32 rfl) ?_;rintro _ w34 ⟨b71,rfl,hl71,hE,hB71⟩;have hlo71:=Nat.le_trans hW.size hl71;have haw1_71:=(hr_c.below' hW).away hl71;replace hB3:=hB3.below hE;replace hB11:=hB11.below hE;replace hB13:=hB13.below hE;replace hB16:=hB16.below hE;replace hW:=btr hW hE;refine Zo (Vw [vi u66.k,vi u66.a,vi u66.b] X0g hB71) ?_;rintro _ w35 ⟨ho,hb⟩;have hold:=hB71;replace hB3:=hB3.only ho (Blk.ne hB3 hold rfl);replace hB11:=hB11.only ho (hB11.ne hold);replace hB13:=hB13.only ho (Blk.ne hB13 hold rfl);replace hB16:=hB16.only ho (Blk.ne hB16 hold rfl);replace hW:=Below.only hW ho hlo71;clear hold;have hB71:=hb;clear hb ho;refine Zt hK68 fun a hf=>?_;refine Zr hf ?_;refine Zm rfl<|Ze (Vd rfl X0i 0)<|Ze (X0 rfl X4 (hB71.at 0))<|Ze (X29 rfl rfl) ?_;refine Zf (Vc (F59 _ (u66.k != 12)) Xh9) ?_;rintro _ _ ⟨rfl,rfl⟩;refine Ze (Xp rfl rfl (by omega) (by omega))<|Za rfl ?_;refine Zn fun a hf=>?_;refine Xd ?_;refine hK67 _ _ ?_;refine Zr hf ?_;refine Ze (Xp rfl rfl (by omega) (by omega))<|Zm rfl ?_;refine Zn fun a hf=>?_;refine Xc ?_;exact ⟨(k+1,z+(if (u66.k != 12)=true then 1 else 0)),⟨hf.sub ⟨rfl,rfl,rfl,rfl,rfl,rfl,rfl,trivial⟩,(by omega),(by rw [hcs,hz]),hB3,hB11,hB13,hB16,hW⟩,(by first|omega|(dsimp only;omega))⟩
 have hc65b:=hc65;have hc65:=of_decide_eq_false hc65
 have hz0:z=(cntZ c.gs (List.replicate c.gs.length 0) : Int):=by rw [X9e,hz,List.take_of_length_le (by omega)];rfl
 refine wp_exit ?_;refine Xf ?_;refine Xf ?_;refine Xy ?_;refine hK61 _ _ ?_;refine wp_seq_k fun _ hK72=>?_;refine Zs hf fun _ hK73=>?_;refine Za rfl ?_;refine Zt hK73 fun a hf=>?_;refine wp_block ?_;refine Xx (σ:=Nat×Int×(List Int)×Int) (fun (s:Nat×Int×(List Int)×Int) (a:Act) (w:World)=>match s with|(f,kk,out,y)=>Fr a 73 [(1,.pointer (some ⟨b3,0,none⟩)),(4,.pointer (some ⟨b16,0,none⟩)),(5,.slice (some ⟨b13,0,none⟩) c.gs.length c.gs.length),(6,vi y),(9,vi kk)]∧(Sch c.gs kk out)∧(1≤kk)∧(kk+(f:Int)=(c.gs.length:Int)+1)∧(runI c.gs f kk out=schedOf c)∧(cntZ c.gs out≤f)∧(y=(cntZ c.gs out:Int))∧Blk w b3 31 [vi c.n,.slice Ac c.gs.length cc]∧MemoG w b11∧Blk w b13 3 (out.flatMap encI)∧Blk w b16 127 [vi c.n,.slice Ac c.gs.length cc,.map (some b11)]∧Below w0.heap.size w0 w) (fun (s:Nat×Int×(List Int)×Int)=>match s with|(f,kk,out,y)=>f) (c.gs.length,1,(List.replicate c.gs.length 0),z) ?_ ?_
 ·exact ⟨hf.sub ⟨rfl,rfl,rfl,rfl,rfl,trivial⟩,(X9n _),(by omega),(by omega),hrun0,(X58 _ _),hz0,hB3,hB11,hB13,hB16,hW⟩
 rintro ⟨f,kk,out,y⟩ a w36 ⟨hf,hS,hkk,hkf,hrun,hcf,hy,hB3,hB11,hB13,hB16,hW⟩;refine wp_seq_k fun _ hK74=>?_;refine Zs hf fun _ hK75=>?_;refine Zm rfl<|Ze (X3e rfl rfl) ?_;refine Zt hK75 fun a hf=>?_
 refine Xe hf rfl (fun hc76=>?_) (fun hc76=>?_)
 ·have hc76b:=hc76;have hc76:=of_decide_eq_true hc76
  obtain ⟨f',hf',hrn,hcn',hSn⟩:=Xbr hS hkk hcf hrun (by omega)
  refine wp_skip ?_;refine hK74 _ _ ?_;refine wp_seq_k fun _ hK77=>?_;refine wp_block ?_;refine Zs hf fun _ hK78=>?_;refine Ze (Vd rfl X0k 1)<|Ze (X0 rfl X14 (hB3.at 1))<|Ze (X0y rfl X0c)<|Zm rfl ?_;refine Zt hK78 fun a hf=>?_;refine wp_block ?_;refine Xx (σ:=Nat×(List Int)×Int) (fun (s:Nat×(List Int)×Int) (a:Act) (w:World)=>match s with|(i,o2,y2)=>Fr a 73 [(1,.pointer (some ⟨b3,0,none⟩)),(4,.pointer (some ⟨b16,0,none⟩)),(5,.slice (some ⟨b13,0,none⟩) c.gs.length c.gs.length),(6,vi y2),(9,vi kk),(41,.slice Ac c.gs.length cc),(42,vi (c.gs.length:Int)),(43,vi (i:Int))]∧(i≤c.gs.length)∧(o2=sweepN c.gs kk out i)∧(SchM c.gs kk o2)∧(y2=(cntZ c.gs o2:Int))∧Blk w b3 31 [vi c.n,.slice Ac c.gs.length cc]∧MemoG w b11∧Blk w b13 3 (o2.flatMap encI)∧Blk w b16 127 [vi c.n,.slice Ac c.gs.length cc,.map (some b11)]∧Below w0.heap.size w0 w) (fun (s:Nat×(List Int)×Int)=>match s with|(i,o2,y2)=>c.gs.length-i) (0,out,y) ?_ ?_
  ·exact ⟨hf.sub ⟨rfl,rfl,rfl,rfl,rfl,rfl,rfl,rfl,trivial⟩,(Nat.zero_le _),rfl,hS.mid,hy,hB3,hB11,hB13,hB16,hW⟩
  rintro ⟨i,o2,y2⟩ a w37 ⟨hf,hi,ho2,hM,hy2,hB3,hB11,hB13,hB16,hW⟩;refine Zs hf fun _ hK79=>?_;refine Ze (X0l rfl rfl) ?_;refine Zt hK79 fun a hf=>?_;refine wp_seq_k fun _ hK80=>?_
  refine Xe hf rfl (fun hc81=>?_) (fun hc81=>?_)
  ·have hc81b:=hc81;have hc81:=of_decide_eq_true hc81
   obtain ⟨u82,hu82⟩:=Xl (l:=c.gs) (k:=i) (by omega)
   have hgi:=X3v hu82;have hcl2:=X58 c.gs o2
   have hlo2:o2.length=c.gs.length:=hM.len
   have hin:i<c.gs.length:=by omega
   have hnM:=hM.step hkk hin;have hns:=X2e c.gs kk out i
   rw [← ho2] at hns
   refine wp_skip ?_;refine hK80 _ _ ?_;refine wp_seq_k fun _ hK83=>?_;refine wp_block ?_;refine Zs hf fun _ hK84=>?_;refine Zm rfl ?_;refine Zi (k:=i) (u:=u82) (enc:=encG) (l:=c.gs) trivial rfl rfl X0c X0g X0d (hr_c.below' hW) hu82 rfl ?_;intro p86 hat85;refine Ze (X09 (l:=[vi u82.k,vi u82.a,vi u82.b]) rfl Xt hat85 rfl) ?_;refine Zf (Xa (zs:=[vi 0,vi 0,vi 0]) X32 rfl) ?_;rintro _ w38 ⟨b87,rfl,hl87,hE,hB87⟩;have hlo87:=Nat.le_trans hW.size hl87;have haw1_87:=(hr_c.below' hW).away hl87;replace hB3:=hB3.below hE;replace hB11:=hB11.below hE;replace hB13:=hB13.below hE;replace hB16:=hB16.below hE;replace hW:=btr hW hE;refine Za rfl ?_;refine Zo (Vw [vi u82.k,vi u82.a,vi u82.b] X0g hB87) ?_;rintro _ w39 ⟨ho,hb⟩;have hold:=hB87;replace hB3:=hB3.only ho (Blk.ne hB3 hold rfl);replace hB11:=hB11.only ho (hB11.ne hold);replace hB13:=hB13.only ho (Blk.ne hB13 hold rfl);replace hB16:=hB16.only ho (Blk.ne hB16 hold rfl);replace hW:=Below.only hW ho hlo87;clear hold;have hB87:=hb;clear hb ho;refine Zt hK84 fun a hf=>?_;refine wp_seq_k fun _ hK88=>?_;refine X08 (fun a w=>Fr a 73 [(1,.pointer (some ⟨b3,0,none⟩)),(4,.pointer (some ⟨b16,0,none⟩)),(5,.slice (some ⟨b13,0,none⟩) c.gs.length c.gs.length),(6,vi y2),(9,vi kk),(10,vi (i:Int)),(41,.slice Ac c.gs.length cc),(42,vi (c.gs.length:Int)),(43,vi (i:Int)),(64,.bool (((u82.k != 12)&&((o2.getD i 0)==0))&&(fitsI c.gs i kk o2)))]∧Blk w b3 31 [vi c.n,.slice Ac c.gs.length cc]∧MemoG w b11∧Blk w b13 3 (o2.flatMap encI)∧Blk w b16 127 [vi c.n,.slice Ac c.gs.length cc,.map (some b11)]∧Blk w b87 24 [vi u82.k,vi u82.a,vi u82.b]∧Below w0.heap.size w0 w) ?_ ?_
   ·refine Zr hf ?_;refine Ze (Vd rfl X0i 0)<|Ze (X0 rfl X4 (hB87.at 0))<|Ze (X29 rfl rfl)<|Zm rfl ?_
    refine Zg 51 rfl (fun hg89=>?_) (fun hg89=>?_)
    ·refine Zv ⟨_,_,rfl,rfl,hg89⟩ (X2 rfl) ?_;refine Zv ⟨_,_,rfl,rfl,hg89⟩ (X2 rfl) ?_;refine Zj (k:=i) (u:=(o2.getD i 0)) (enc:=encI) (l:=o2) ⟨_,_,rfl,rfl,hg89⟩ rfl (by omega) rfl Xg X0h X6 (Rd.of_blk hB13 rfl _ hB13.lt) (X1i 0 (by omega)) rfl ?_;intro p91 hat90;refine Zv ⟨_,_,rfl,rfl,hg89⟩ (X0 rfl X4 hat90) ?_;refine Zv ⟨_,_,rfl,rfl,hg89⟩ (X0u rfl rfl) ?_;refine Ze (Xb rfl hg89 rfl)<|Zm rfl ?_
     refine Zg 58 rfl (fun hg92=>?_) (fun hg92=>?_)
     ·refine Zv ⟨_,_,rfl,rfl,hg92⟩ (Vn X4v hB16) ?_;refine Zv ⟨_,_,rfl,rfl,hg92⟩ (X2 rfl) ?_;refine Zv ⟨_,_,rfl,rfl,hg92⟩ (X2 rfl) ?_;refine Zv ⟨_,_,rfl,rfl,hg92⟩ (X2 rfl) ?_;refine Zk ⟨_,_,rfl,rfl,hg92⟩ (X1z (vs:=[.agg #[vi c.n,.slice Ac c.gs.length cc,.map (some b11)],vi (i:Int),vi kk,.slice (some ⟨b13,0,none⟩) c.gs.length c.gs.length]) rfl Xuq (by have hq:=F60 _ b11 hB11 c Ac cc (hr_c.below' hW).top hc i (by omega) kk (some ⟨b13,0,none⟩) c.gs.length o2 (Rd.of_blk hB13 rfl _ hB13.lt) hM.len;rw [hM.len] at hq;exact hq)) ?_;rintro _ w40 ⟨rfl,hK,hbn⟩;obtain ⟨wm,hO,hm,hE⟩:=hK.mid;clear hm;have hold:=hB11;replace hB3:=hB3.onlyM hO hold;replace hB13:=hB13.onlyM hO hold;replace hB16:=hB16.onlyM hO hold;replace hB87:=hB87.onlyM hO hold;replace hW:=Below.only hW hO hlo11;replace hB3:=hB3.below hE;replace hB13:=hB13.below hE;replace hB16:=hB16.below hE;replace hB87:=hB87.below hE;replace hW:=btr hW hE
      clear hold hE hO hK;replace hB11:=hbn;clear hbn;refine Ze (Xb rfl hg92 rfl) ?_;refine Zn fun a hf=>?_;exact ⟨hf.sub ⟨rfl,rfl,rfl,rfl,rfl,rfl,rfl,rfl,rfl,X1 rfl (by first|rfl|(simp only [hc7b,hc65b,hc76b,hc81b,hg89,hg92,bs];done)|simp [hc7b,hc65b,hc76b,hc81b,hg89,hg92]),trivial⟩,hB3,hB11,hB13,hB16,hB87,hW⟩
     refine Zp ⟨_,_,rfl,rfl,hg92⟩ ?_;refine Zp ⟨_,_,rfl,rfl,hg92⟩ ?_;refine Zp ⟨_,_,rfl,rfl,hg92⟩ ?_;refine Zp ⟨_,_,rfl,rfl,hg92⟩ ?_;refine Zp ⟨_,_,rfl,rfl,hg92⟩ ?_;refine Ze (X9 rfl hg92 rfl) ?_;refine Zn fun a hf=>?_;exact ⟨hf.sub ⟨rfl,rfl,rfl,rfl,rfl,rfl,rfl,rfl,rfl,X1 rfl (by first|rfl|(simp only [hc7b,hc65b,hc76b,hc81b,hg89,hg92,bs];done)|simp [hc7b,hc65b,hc76b,hc81b,hg89,hg92]),trivial⟩,hB3,hB11,hB13,hB16,hB87,hW⟩
    refine Zp ⟨_,_,rfl,rfl,hg89⟩ ?_;refine Zp ⟨_,_,rfl,rfl,hg89⟩ ?_;refine Zp ⟨_,_,rfl,rfl,hg89⟩ ?_;refine Zp ⟨_,_,rfl,rfl,hg89⟩ ?_;refine Zp ⟨_,_,rfl,rfl,hg89⟩ ?_;refine Ze (X9 rfl hg89 rfl)<|Zm rfl<|Zp ⟨_,_,rfl,rfl,rfl⟩ ?_;refine Zp ⟨_,_,rfl,rfl,rfl⟩ ?_;refine Zp ⟨_,_,rfl,rfl,rfl⟩ ?_;refine Zp ⟨_,_,rfl,rfl,rfl⟩ ?_;refine Zp ⟨_,_,rfl,rfl,rfl⟩ ?_;refine Ze (X9 rfl rfl rfl) ?_;refine Zn fun a hf=>?_;exact ⟨hf.sub ⟨rfl,rfl,rfl,rfl,rfl,rfl,rfl,rfl,rfl,X1 rfl (by first|rfl|(simp only [hc7b,hc65b,hc76b,hc81b,hg89,bs];done)|simp [hc7b,hc65b,hc76b,hc81b,hg89]),trivial⟩,hB3,hB11,hB13,hB16,hB87,hW⟩
   rintro a w41 ⟨hf,hB3,hB11,hB13,hB16,hB87,hW⟩;refine hK88 _ _ ?_
   refine Xe hf rfl (fun hc93=>?_) (fun hc93=>?_)
   ·have hc93b:=hc93
    have hmy:mayI c.gs kk o2 i=true:=by unfold mayI;rw [hgi];exact hc93
    have hst:stepI c.gs kk o2 i=o2.set i kk:=by rw [stepI,if_pos hmy]
    have hct:=X74 hM.len hin (by omega) hmy
    rw [hst] at hnM hns
    refine Zs hf fun _ hK94=>?_;refine Zm rfl<|Zm rfl<|Zm rfl<|Ze (X5s (k:=i) (off:=i*1) rfl rfl Xg X0h rfl (by omega) rfl) ?_;refine Zo (X6y (enc:=encI) (l:=o2) (u:=kk) (k:=i) rfl rfl X0h hB13 X6 X1n rfl (by omega)) ?_;rintro _ w42 ⟨ho,hb⟩;have hold:=hB13;replace hB3:=hB3.only ho (Blk.ne hB3 hold rfl);replace hB11:=hB11.only ho (hB11.ne hold);replace hB16:=hB16.only ho (Blk.ne hB16 hold rfl);replace hW:=Below.only hW ho hlo13;clear hold;have hB13:=hb;clear hb ho;refine Zt hK94 fun a hf=>?_;refine Zr hf ?_;refine Zm rfl<|Ze (X0s rfl rfl (by omega) (by omega))<|Za rfl ?_;refine Zn fun a hf=>?_;refine Xd ?_;refine hK83 _ _ ?_;refine Zr hf ?_;refine Ze (Xp rfl rfl (by omega) (by omega))<|Zm rfl ?_;refine Zn fun a hf=>?_;refine Xc ?_;exact ⟨(i+1,(o2.set i kk),y2-1),⟨hf.sub ⟨rfl,rfl,rfl,rfl,rfl,rfl,rfl,rfl,trivial⟩,(by omega),hns.symm,hnM,(by omega),hB3,hB11,hB13,hB16,hW⟩,(by first|omega|(dsimp only;omega))⟩
   have hc93b:=hc93
   have hmy:¬ mayI c.gs kk o2 i=true:=by unfold mayI;rw [hgi];intro h9;rw [hc93] at h9;cases h9
   have hst:stepI c.gs kk o2 i=o2:=by rw [stepI,if_neg hmy]
   rw [hst] at hnM hns
   refine wp_skip ?_;refine Xd ?_;refine hK83 _ _ ?_;refine Zr hf ?_;refine Ze (Xp rfl rfl (by omega) (by omega))<|Zm rfl ?_;refine Zn fun a hf=>?_;refine Xc ?_;exact ⟨(i+1,o2,y2),⟨hf.sub ⟨rfl,rfl,rfl,rfl,rfl,rfl,rfl,rfl,trivial⟩,(by omega),hns.symm,hnM,(by omega),hB3,hB11,hB13,hB16,hW⟩,(by first|omega|(dsimp only;omega))⟩
  have hc81b:=hc81;have hc81:=of_decide_eq_false hc81
  have hie:i=c.gs.length:=by omega
  rw [hie] at ho2
  rw [← ho2] at hrn hcn' hSn
  refine wp_exit ?_;refine Xf ?_;refine Xf ?_;refine Xy ?_;refine Xd ?_;refine hK77 _ _ ?_;refine Zr hf ?_;refine Zm rfl<|Ze (Xp rfl rfl (by omega) (by omega))<|Za rfl ?_;refine Zn fun a hf=>?_;refine Xc ?_;exact ⟨(f',kk+1,o2,y2),⟨hf.sub ⟨rfl,rfl,rfl,rfl,rfl,trivial⟩,hSn,(by omega),(by omega),hrn,hcn',hy2,hB3,hB11,hB13,hB16,hW⟩,(by first|omega|(dsimp only;omega))⟩
 have hc76b:=hc76;have hc76:=of_decide_eq_false hc76
 have hfin:=Xek hrun (by omega)
 refine wp_exit ?_;refine Xf ?_;refine Xf ?_;refine Xy ?_;refine hK72 _ _ ?_;refine Zs hf fun _ hK95=>?_;refine Zm rfl<|Za rfl<|Za rfl ?_;refine Zt hK95 fun a hf=>?_
 refine wp_ret (X3 hf (X15 hf rfl rfl rfl) ?_)
 have hmk:out.length=c.gs.length:=hS.len
 have hmkb:c.gs.length≤maxLen:=by simp only [maxLen];omega
 have hown:=(Own.of_flat X6 hB13 hlo13 hmk hmkb)
 rw [← hfin] at hown
 rw [hc]
 exact ⟨(some ⟨b13,0,none⟩),c.gs.length,by rw [X51 hc],hown,hW⟩
theorem F57(w0:World)(A:Option Addr)(ca:Nat)(gs:List Gt)(hr_gs:Rd w0 w0.heap.size 24 encG A gs)(hp:gs.length≤ca)(n:Int)(hgo:∀ g ∈ gs,gOk n g=true)(hln:gs.length≤400) : Ret Tryz.prog 106 [.slice A gs.length ca] w0 (fun v w=>∃ A c m,v=.slice A m.length c∧Own w w0.heap.size 66 1 encS A c m∧DeepI w w.heap.size m∧LowI w0.heap.size m∧m.map Sl.l=followsS gs gs.length∧Below w0.heap.size w0 w):=by
 refine enter Tryz.func106 rfl 44 rfl rfl ?_;intro a hf
 have hW:Below w0.heap.size w0 w0:=Below.refl _ _
 refine Zs hf fun _ hK2=>?_;refine Za rfl ?_;refine Zt hK2 fun a hf=>?_;refine Zs hf fun _ hK4=>?_;refine Zm rfl<|Ze (X0y rfl X0c) ?_;refine Zf (X21 (m:=gs.length) (enc:=encS) (z0:=sN) rfl rfl X4k Xkb Xvc rfl X3u (by omega) (by omega)) ?_;rintro _ w1 ⟨b5,rfl,hl5,hE,hB5⟩;have hlo5:=Nat.le_trans hW.size hl5;replace hW:=btr hW hE;refine Za rfl ?_;refine Zt hK4 fun a hf=>?_;refine wp_seq_k fun _ hK7=>?_;refine Zs hf fun _ hK8=>?_;refine Zm rfl<|Ze (X0y rfl X0c)<|Zm rfl ?_;refine Zt hK8 fun a hf=>?_;refine wp_block ?_;refine Xx (σ:=Nat×(List Sl)) (fun (s:Nat×(List Sl)) (a:Act) (w:World)=>match s with|(i,m)=>Fr a 44 [(0,.slice A gs.length ca),(3,.slice (some ⟨b5,0,none⟩) gs.length gs.length),(11,.slice A gs.length ca),(12,vi (gs.length:Int)),(13,vi (i:Int))]∧(i≤gs.length)∧(m.length=gs.length)∧((m.take i).map Sl.l=followsS gs i)∧(∀ q,i≤q→q<gs.length→m[q]? = some sN)∧(LowI w0.heap.size (m.take i))∧Blk w b5 66 (m.flatMap encS)∧gs.length≤ca∧DeepI w w.heap.size (m.take i)∧Below w0.heap.size w0 w) (fun (s:Nat×(List Sl))=>match s with|(i,m)=>gs.length-i) (0,(List.replicate gs.length sN)) ?_ ?_
 ·exact ⟨hf.sub ⟨rfl,rfl,rfl,rfl,rfl,trivial⟩,(Nat.zero_le _),(by simp),rfl,(fun q _ hq=>by rw [List.getElem?_replicate,if_pos hq]),(LowI.nil _),hB5,hp,(DeepI.nil _ _),hW⟩
 rintro ⟨i,m⟩ a w2 ⟨hf,hi,hml,hmp,hrest,hlw,hB5,hp,hdi,hW⟩;refine Zs hf fun _ hK9=>?_;refine Ze (X0l rfl rfl) ?_;refine Zt hK9 fun a hf=>?_;refine wp_seq_k fun _ hK10=>?_
 refine Xe hf rfl (fun hc11=>?_) (fun hc11=>?_)
 ·have hc11b:=hc11;have hc11:=of_decide_eq_true hc11
  obtain ⟨u12,hu12⟩:=Xl (l:=gs) (k:=i) (by omega)
  obtain ⟨B1,hB1⟩ : ∃ B1,B1=w2.heap.size:=⟨_,rfl⟩
  have hd1:DeepI w2 B1 (m.take i):=by rw [hB1];exact hdi.top
  have hs1:B1≤w2.heap.size:=by omega
  have hlB1:w0.heap.size≤B1:=by rw [hB1];exact hW.size
  clear hdi;have hgi:=X3v hu12;have hmi:=List.mem_of_getElem? hu12
  have hin:i<gs.length:=by omega
  have hti:(gs.take i).length=i:=by rw [List.length_take];omega
  refine wp_skip ?_;refine hK10 _ _ ?_;refine wp_seq_k fun _ hK13=>?_;refine wp_block ?_;refine Zs hf fun _ hK14=>?_;refine Zm rfl ?_;refine Zi (k:=i) (u:=u12) (enc:=encG) (l:=gs) trivial rfl rfl X0c X0g X0d (hr_gs.below' hW) hu12 rfl ?_;intro p16 hat15;refine Ze (X09 (l:=[vi u12.k,vi u12.a,vi u12.b]) rfl Xt hat15 rfl) ?_;refine Zf (Xa (zs:=[vi 0,vi 0,vi 0]) X32 rfl) ?_;rintro _ w3 ⟨b17,rfl,hl17,hE,hB17⟩;have hlo17:=Nat.le_trans hW.size hl17;have haw1_17:=(hr_gs.below' hW).away hl17;replace hB5:=hB5.below hE;replace hd1:=hd1.below hE;replace hs1:=Nat.le_trans hs1 hE.size;replace hW:=btr hW hE;refine Za rfl ?_;refine Zo (Vw [vi u12.k,vi u12.a,vi u12.b] X0g hB17) ?_;rintro _ w4 ⟨ho,hb⟩;have hold:=hB17;replace hB5:=hB5.only ho (Blk.ne hB5 hold rfl);replace hd1:=hd1.onlyT ho hold rfl;replace hs1:=Nat.le_trans hs1 (Nat.le_of_eq ho.size.symm);replace hW:=Below.only hW ho hlo17;clear hold;have hB17:=hb;clear hb ho;refine Zt hK14 fun a hf=>?_;refine Zs hf fun _ hK18=>?_;refine Zm rfl<|Zm rfl ?_;have hr19:=((hr_gs.below' hW).top).takeK X0d i;refine Ze (X8z (l:=gs) (k:=i) rfl rfl X0c X0g rfl (by omega) hp)<|Ze (X0y rfl X0c)<|Zm rfl ?_;refine Zt hK18 fun a hf=>?_;refine wp_block ?_;refine Xx (σ:=Nat×(List Sl)×Sl) (fun (s:Nat×(List Sl)×Sl) (a:Act) (w:World)=>match s with|(j,m2,r)=>Fr a 44 [(0,.slice A gs.length ca),(3,.slice (some ⟨b5,0,none⟩) gs.length gs.length),(4,vi (i:Int)),(5,.pointer (some ⟨b17,0,none⟩)),(11,.slice A gs.length ca),(12,vi (gs.length:Int)),(13,vi (i:Int)),(20,.slice A (gs.take i).length ca),(21,vi ((gs.take i).length:Int)),(22,vi (j:Int))]∧(j≤i)∧(m2.length=gs.length)∧(m2[i]? = some r)∧(r.l=folS gs i j)∧(m2.take i=m.take i)∧(∀ q,i<q→q<gs.length→m2[q]? = some sN)∧Blk w b5 66 (m2.flatMap encS)∧Blk w b17 24 [vi u12.k,vi u12.a,vi u12.b]∧Rd w w4.heap.size 24 encG A (gs.take i)∧gs.length≤ca∧DeepI w B1 (m.take i)∧B1≤w.heap.size∧Own w B1 3 1 encI r.A r.c r.l∧Below w0.heap.size w0 w) (fun (s:Nat×(List Sl)×Sl)=>match s with|(j,m2,r)=>i-j) (0,m,sN) ?_ ?_
  ·exact ⟨hf.sub ⟨rfl,rfl,rfl,rfl,rfl,rfl,rfl,rfl,rfl,rfl,trivial⟩,(Nat.zero_le _),hml,(hrest i (Nat.le_refl _) hin),rfl,rfl,(fun q h1 h2=>hrest q (by omega) h2),hB5,hB17,hr19,hp,hd1,hs1,(Own.nil _ _ _ _ _),hW⟩
  rintro ⟨j,m2,r⟩ a w5 ⟨hf,hj,hml2,hr2,hrl,hm2t,hrest2,hB5,hB17,hr19,hp,hd1,hs1,hor,hW⟩;refine Zs hf fun _ hK20=>?_;refine Ze (X0l rfl rfl) ?_;refine Zt hK20 fun a hf=>?_;refine wp_seq_k fun _ hK21=>?_
  refine Xe hf rfl (fun hc22=>?_) (fun hc22=>?_)
  ·have hc22b:=hc22;have hc22:=of_decide_eq_true hc22
   obtain ⟨u23,hu23⟩:=Xl (l:=(gs.take i)) (k:=j) (by omega)
   obtain ⟨hgj,hmj⟩:=X7y hu23;refine wp_skip ?_;refine hK21 _ _ ?_;refine wp_seq_k fun _ hK24=>?_;refine wp_block ?_;refine Zs hf fun _ hK25=>?_;refine Zm rfl ?_;refine Zi (k:=j) (u:=u23) (enc:=encG) (l:=(gs.take i)) trivial rfl rfl X0c X0g X0d hr19 hu23 rfl ?_;intro p27 hat26;refine Ze (X09 (l:=[vi u23.k,vi u23.a,vi u23.b]) rfl Xt hat26 rfl) ?_;refine Zf (Xa (zs:=[vi 0,vi 0,vi 0]) X32 rfl) ?_;rintro _ w6 ⟨b28,rfl,hl28,hE,hB28⟩
   have hne17_28:b17≠b28:=by have:=hB17.lt;omega
   have hlo28:=Nat.le_trans hW.size hl28;have haw1_28:=(hr_gs.below' hW).away hl28;have haw19_28:=hr19.away hl28;replace hB5:=hB5.below hE;replace hB17:=hB17.below hE;replace hr19:=hr19.below hE;replace hd1:=hd1.below hE;replace hs1:=Nat.le_trans hs1 hE.size;replace hor:=hor.below hE;replace hW:=btr hW hE;refine Za rfl ?_;refine Zo (Vw [vi u23.k,vi u23.a,vi u23.b] X0g hB28) ?_;rintro _ w7 ⟨ho,hb⟩;have hold:=hB28;replace hB5:=hB5.only ho (Blk.ne hB5 hold rfl);replace hB17:=hB17.only ho (by omega);replace hr19:=hr19.onlyA ho haw19_28;replace hd1:=hd1.onlyT ho hold rfl;replace hs1:=Nat.le_trans hs1 (Nat.le_of_eq ho.size.symm);replace hor:=hor.onlyT ho hold rfl;replace hW:=Below.only hW ho hlo28;clear hold;have hB28:=hb;clear hb ho;refine Zt hK25 fun a hf=>?_;refine Zs hf fun _ hK29=>?_;refine Ze (Vn Xt hB17)<|Ze (Vn Xt hB28) ?_;refine Zf (Vc (Xup _ u12 u23 n (hgo _ hmi) (hgo _ hmj)) Xk9) ?_;rintro _ w8 ⟨rfl,hE⟩;replace hB5:=hB5.below hE;replace hB17:=hB17.below hE;replace hB28:=hB28.below hE;replace hr19:=hr19.below hE;replace hd1:=hd1.below hE;replace hs1:=Nat.le_trans hs1 hE.size;replace hor:=hor.below hE;replace hW:=btr hW hE;refine Ze (X16 rfl) ?_;refine Zt hK29 fun a hf=>?_
   refine Xe hf rfl (fun hc30=>?_) (fun hc30=>?_)
   ·have hc30b:=hc30
    have hcm:commS (gs.getD i gZ) (gs.getD j gZ)=false:=by rw [hgi,hgj];simpa using hc30
    have hfs:folS gs i (j+1)=r.l++[(j:Int)]:=by rw [Xag,if_neg (by rw [hcm];simp),hrl]
    have hrn:r.l.length≤j:=by rw [hrl];exact Xgk _ _ _
    refine Zr hf ?_;refine Zm rfl<|Zm rfl<|Zm rfl<|Zm rfl ?_;refine Zj (k:=i) (u:=r) (enc:=encS) (l:=m2) trivial rfl (by omega) rfl X4k Xas X3u (Rd.of_blk hB5 rfl _ hB5.lt) hr2 rfl ?_;intro p32 hat31;refine Ze (X0 rfl Xai hat31)<|Zm rfl ?_;refine Zf (Xm (k:=1) (vs:=[vi (j:Int)]) (zs:=[vi (j:Int)]) rfl Xg X19 rfl rfl) ?_;rintro _ w9 ⟨b34,rfl,hl34,hE,hB34⟩;have hlo34:=Nat.le_trans hW.size hl34;have haw33_34:=hor.away hl34;replace hB5:=hB5.below hE;replace hB17:=hB17.below hE;replace hr19:=hr19.below hE;replace hor:=hor.below hE;replace hd1:=hd1.below hE;replace hs1:=Nat.le_trans hs1 hE.size;replace hW:=btr hW hE;refine Zf (X1h (enc:=encI) (l:=(r.l)) (l2:=([(j:Int)])) (B0:=B1) rfl rfl Xg X19 X6 X1n hor (Rd.of_blk hB34 rfl _ hB34.lt) (by simp only [maxLen];simp;omega) (by simp;omega) hs1) ?_;rintro _ w10 ⟨A36,c36,rfl,ho36,hg,hat⟩
    have hown:Own _ B1 3 1 encI _ _ (r.l):=hor
    have haw36_34:=hat _ hB34.lt haw33_34;clear hat;replace hB5:=hB5.appT hown hg rfl;replace hB17:=hB17.appT hown hg rfl;replace hr19:=hr19.appT hown hg rfl;replace hd1:=hd1.appB hown hg (Nat.le_refl _);replace hs1:=Nat.le_trans hs1 hg.size;replace hW:=Below.app hW hown hg hlB1 hW.size;clear hown hg;refine Ze (X5s (k:=i) (off:=i*1) rfl rfl X4k Xas rfl (by omega) rfl) ?_;refine Zo (X6y (enc:=encS) (l:=m2) (u:=(⟨A36,c36,r.l++([(j:Int)])⟩ : Sl)) (k:=i) rfl rfl Xas hB5 X3u Xjn rfl (by omega)) ?_;rintro _ w11 ⟨ho,hb⟩;have hold:=hB5;replace hB17:=hB17.only ho (Blk.ne hB17 hold rfl);replace hr19:=hr19.onlyT ho hold rfl;replace ho36:=ho36.onlyT ho hold rfl;replace hd1:=hd1.onlyT ho hold rfl;replace hs1:=Nat.le_trans hs1 (Nat.le_of_eq ho.size.symm);replace hW:=Below.only hW ho hlo5;clear hold;have hB5:=hb;clear hb ho;refine Zn fun a hf=>?_;refine Xd ?_;refine hK24 _ _ ?_;refine Zr hf ?_;refine Ze (Xp rfl rfl (by omega) (by omega))<|Zm rfl ?_;refine Zn fun a hf=>?_;refine Xc ?_;exact ⟨(j+1,(m2.set i (⟨A36,c36,r.l++([(j:Int)])⟩ : Sl)),(⟨A36,c36,r.l++([(j:Int)])⟩ : Sl)),⟨hf.sub ⟨rfl,rfl,rfl,rfl,rfl,rfl,rfl,rfl,rfl,rfl,trivial⟩,(by omega),(by simp;exact hml2),(Xnz (by omega)),hfs.symm,(Xho.trans hm2t),(fun q h1 h2=>(Xi1 h1).trans (hrest2 q h1 h2)),hB5,hB17,hr19,hp,hd1,hs1,ho36,hW⟩,(by first|omega|(dsimp only;omega))⟩
   have hc30b:=hc30
   have hcm:commS (gs.getD i gZ) (gs.getD j gZ)=true:=by rw [hgi,hgj];simpa using hc30
   have hfs:folS gs i (j+1)=r.l:=by rw [Xag,if_pos hcm,hrl]
   refine wp_skip ?_;refine Xd ?_;refine hK24 _ _ ?_;refine Zr hf ?_;refine Ze (Xp rfl rfl (by omega) (by omega))<|Zm rfl ?_;refine Zn fun a hf=>?_;refine Xc ?_;exact ⟨(j+1,m2,r),⟨hf.sub ⟨rfl,rfl,rfl,rfl,rfl,rfl,rfl,rfl,rfl,rfl,trivial⟩,(by omega),hml2,hr2,hfs.symm,hm2t,hrest2,hB5,hB17,hr19,hp,hd1,hs1,hor,hW⟩,(by first|omega|(dsimp only;omega))⟩
  have hc22b:=hc22;have hc22:=of_decide_eq_false hc22
  have hji:j=i:=by omega
  rw [hji] at hrl
  refine wp_exit ?_;refine Xf ?_;refine Xf ?_;refine Xy ?_;refine Xd ?_;refine hK13 _ _ ?_;refine Zr hf ?_;refine Ze (Xp rfl rfl (by omega) (by omega))<|Zm rfl ?_;refine Zn fun a hf=>?_;refine Xc ?_;exact ⟨(i+1,m2),⟨hf.sub ⟨rfl,rfl,rfl,rfl,rfl,trivial⟩,(by omega),hml2,(by rw [Xkq hr2,hm2t,List.map_append,hmp,X9z,List.map_cons,hrl];rfl),(fun q h1 h2=>hrest2 q (by omega) h2),(by rw [Xkq hr2,hm2t];exact hlw.snoc (fun p hp=>Nat.le_trans hlB1 (hor.lowp p hp))),hB5,hp,((hd1.top.snoc hor.rd).eq (by rw [Xkq hr2,hm2t])),hW⟩,(by first|omega|(dsimp only;omega))⟩
 have hc11b:=hc11;have hc11:=of_decide_eq_false hc11;refine wp_exit ?_;refine Xf ?_;refine Xf ?_;refine Xy ?_;refine hK7 _ _ ?_;refine Zs hf fun _ hK37=>?_;refine Zm rfl<|Za rfl ?_;refine Zt hK37 fun a hf=>?_
 refine wp_ret (X3 hf (Xq hf rfl rfl) ?_)
 have hmk:m.length=gs.length:=hml
 have hmkb:gs.length≤maxLen:=by simp only [maxLen];omega
 have hown:=(Own.of_flat X3u hB5 hlo5 hmk hmkb)
 have hmt:m.take i=m:=List.take_of_length_le (by omega)
 rw [hmt] at hdi hmp hlw
 exact ⟨(some ⟨b5,0,none⟩),gs.length,m,by rw [hml],hown,hdi.top,hlw,by rw [hmp,show i=gs.length from by omega],hW⟩
theorem F21(w0:World)(c:Cx)(Ac:Option Addr)(cc:Nat)(hr_c:Rd w0 w0.heap.size 24 encG Ac c.gs)(hp_c:c.gs.length≤cc)(hln:c.gs.length≤2305843009213693951) : Ret Tryz.prog 36 [.agg #[vi c.n,.slice Ac c.gs.length cc]] w0 (fun v w=>∃ A c1,v=.tuple #[.slice A (schedOf c).length c1,.bool (cOk c)]∧Own w w0.heap.size 3 1 encI A c1 (schedOf c)∧Below w0.heap.size w0 w):=by
 refine enter Tryz.func36 rfl 69 rfl rfl ?_;intro a hf
 have hW:Below w0.heap.size w0 w0:=Below.refl _ _
 refine Zs hf fun _ hK2=>?_;refine Zf (X0p (zs:=[vi c.n,.slice Ac c.gs.length cc]) rfl rfl) ?_;rintro _ w1 ⟨b3,rfl,hl3,hE,hB3⟩;have hlo3:=Nat.le_trans hW.size hl3;replace hW:=btr hW hE;refine Za rfl<|Za rfl ?_;refine Zt hK2 fun a hf=>?_;refine wp_seq_k fun _ hK5=>?_;refine Zs hf fun _ hK6=>?_;refine Ze (Vn X0q hB3) ?_;refine Zf (Vc (F53 _ c Ac cc (hr_c.below' hW).top) Xp9) ?_;rintro _ w2 ⟨rfl,hE⟩;replace hB3:=hB3.below hE;replace hW:=btr hW hE;refine Ze (X16 rfl) ?_;refine Zt hK6 fun a hf=>?_
 refine Xe hf rfl (fun hc7=>?_) (fun hc7=>?_)
 ·have hc7b:=hc7
  have hcf:cOk c=false:=by revert hc7;cases cOk c<;>simp
  refine Zs hf fun _ hK8=>?_;refine Za rfl<|Za rfl ?_;refine Zt hK8 fun a hf=>?_;refine wp_ret ?_;refine X5 ?_;refine X3 hf (X15 hf rfl rfl rfl) ?_
  rw [X41 (by rw [hcf];simp),hcf]
  exact ⟨none,0,rfl,(Own.nil _ _ _ _ _),hW⟩
 have hc7b:=hc7
 have hc:cOk c=true:=by revert hc7;cases cOk c<;>simp
 obtain ⟨hcn,hcl,hcg⟩:=X0x hc;have hrun0:=(X4f hc).symm;refine wp_skip ?_;refine hK5 _ _ ?_;refine Zs hf fun _ hK10=>?_;refine Za rfl ?_;refine Zt hK10 fun a hf=>?_;refine Zs hf fun _ hK12=>?_;refine Za rfl ?_;refine Zt hK12 fun a hf=>?_;refine wp_seq_k fun _ hK13=>?_;refine Zs hf fun _ hK14=>?_;refine Ze (Vd rfl X0k 1)<|Ze (X0 rfl X14 (hB3.at 1))<|Ze (X0y rfl X0c)<|Zm rfl ?_;refine Zt hK14 fun a hf=>?_;refine wp_block ?_;refine Xx (σ:=Nat×(List Int)×Int) (fun (s:Nat×(List Int)×Int) (a:Act) (w:World)=>match s with|(k,m,z)=>∃ A15 c15,Fr a 69 [(1,.pointer (some ⟨b3,0,none⟩)),(4,.slice A15 m.length c15),(5,vi z),(15,.slice Ac c.gs.length cc),(16,vi (c.gs.length:Int)),(17,vi (k:Int))]∧(k≤c.gs.length)∧(m=ini (c.gs.take k))∧(z=(cntW (c.gs.take k) : Int))∧Blk w b3 31 [vi c.n,.slice Ac c.gs.length cc]∧Own w w0.heap.size 3 1 encI A15 c15 m∧c.gs.length≤cc∧Below w0.heap.size w0 w) (fun (s:Nat×(List Int)×Int)=>match s with|(k,m,z)=>c.gs.length-k) (0,[],0) ?_ ?_
 ·exact ⟨none,0,hf.sub ⟨rfl,rfl,rfl,rfl,rfl,rfl,trivial⟩,(Nat.zero_le _),rfl,(by simp [cntW]),hB3,(Own.nil _ _ _ _ _),hp_c,hW⟩
 rintro ⟨k,m,z⟩ a w3 ⟨A15,c15,hf,hk,hm,hz,hB3,ho15,hp_c,hW⟩;refine Zs hf fun _ hK16=>?_;refine Ze (X0l rfl rfl) ?_;refine Zt hK16 fun a hf=>?_;refine wp_seq_k fun _ hK17=>?_
 refine Xe hf rfl (fun hc18=>?_) (fun hc18=>?_)
 ·have hc18b:=hc18;have hc18:=of_decide_eq_true hc18
  obtain ⟨u19,hu19⟩:=Xl (l:=c.gs) (k:=k) (by omega)
  have hmk9:m.length≤k:=by rw [hm,Xh4];exact List.length_take_le _ _
  have hcw:=Xg4 (c.gs.take k);have hct:=List.length_take_le k c.gs;refine wp_skip ?_;refine hK17 _ _ ?_;refine wp_seq_k fun _ hK20=>?_;refine wp_block ?_;refine Zs hf fun _ hK21=>?_;refine Zi (k:=k) (u:=u19) (enc:=encG) (l:=c.gs) trivial rfl rfl X0c X0g X0d (hr_c.below' hW) hu19 rfl ?_;intro p23 hat22;refine Ze (X09 (l:=[vi u19.k,vi u19.a,vi u19.b]) rfl Xt hat22 rfl) ?_;refine Zf (Xa (zs:=[vi 0,vi 0,vi 0]) X32 rfl) ?_;rintro _ w4 ⟨b24,rfl,hl24,hE,hB24⟩;have hlo24:=Nat.le_trans hW.size hl24;have haw1_24:=(hr_c.below' hW).away hl24;replace hB3:=hB3.below hE;replace ho15:=ho15.below hE;replace hW:=btr hW hE;refine Zo (Vw [vi u19.k,vi u19.a,vi u19.b] X0g hB24) ?_;rintro _ w5 ⟨ho,hb⟩;have hold:=hB24;replace hB3:=hB3.only ho (Blk.ne hB3 hold rfl);replace ho15:=ho15.onlyT ho hold rfl;replace hW:=Below.only hW ho hlo24;clear hold;have hB24:=hb;clear hb ho;refine Zt hK21 fun a hf=>?_;refine Zs hf fun _ hK25=>?_;refine Ze (Vd rfl X0i 0)<|Ze (X0 rfl X4 (hB24.at 0))<|Ze (X0u rfl rfl) ?_;refine Zt hK25 fun a hf=>?_
  refine Xe hf rfl (fun hc26=>?_) (fun hc26=>?_)
  ·have hc26b:=hc26;obtain ⟨hs1,hs2⟩:=Xp7 hu19 hc26;refine Zr hf ?_;refine Zm rfl ?_;refine Zf (Xm (k:=1) (vs:=[vi 0]) (zs:=[vi 0]) rfl Xg X19 rfl rfl) ?_;rintro _ w6 ⟨b27,rfl,hl27,hE,hB27⟩;have hlo27:=Nat.le_trans hW.size hl27;have haw15_27:=ho15.away hl27;replace hB3:=hB3.below hE;replace ho15:=ho15.below hE;replace hW:=btr hW hE;refine Zf (X1h (enc:=encI) (l:=(m)) (l2:=([0])) (B0:=w0.heap.size) rfl rfl Xg X19 X6 X1n ho15 (Rd.of_blk hB27 rfl _ hB27.lt) (by simp only [maxLen];simp;omega) (by simp;omega) hW.size) ?_;rintro _ w7 ⟨A29,c29,rfl,ho29,hg,hat⟩
   have hown:Own _ w0.heap.size 3 1 encI _ _ (m):=ho15
   have haw29_27:=hat _ hB27.lt haw15_27;clear hat;replace hB3:=hB3.appT hown hg rfl;replace hW:=Below.app hW hown hg (Nat.le_refl _) hW.size;clear hown hg;refine Za rfl ?_;refine Zn fun a hf=>?_;refine Xd ?_;refine hK20 _ _ ?_;refine Zr hf ?_;refine Ze (Xp rfl rfl (by omega) (by omega))<|Zm rfl ?_;refine Zn fun a hf=>?_;refine Xc ?_;exact ⟨(k+1,m++([0]),z),⟨A29,c29,hf.sub ⟨rfl,rfl,rfl,rfl,rfl,rfl,trivial⟩,(by omega),(by rw [hs1,hm]),(by omega),hB3,ho29,hp_c,hW⟩,(by first|omega|(dsimp only;omega))⟩
  have hc26b:=hc26;obtain ⟨hs1,hs2⟩:=Xpc hu19 hc26;refine Zs hf fun _ hK30=>?_;refine Zm rfl ?_;refine Zf (Xm (k:=1) (vs:=[vi (-1)]) (zs:=[vi (-1)]) rfl Xg X19 rfl rfl) ?_;rintro _ w8 ⟨b31,rfl,hl31,hE,hB31⟩;have hlo31:=Nat.le_trans hW.size hl31;have haw15_31:=ho15.away hl31;replace hB3:=hB3.below hE;replace ho15:=ho15.below hE;replace hW:=btr hW hE;refine Zf (X1h (enc:=encI) (l:=(m)) (l2:=([-1])) (B0:=w0.heap.size) rfl rfl Xg X19 X6 X1n ho15 (Rd.of_blk hB31 rfl _ hB31.lt) (by simp only [maxLen];simp;omega) (by simp;omega) hW.size) ?_;rintro _ w9 ⟨A33,c33,rfl,ho33,hg,hat⟩
  have hown:Own _ w0.heap.size 3 1 encI _ _ (m):=ho15
  have haw33_31:=hat _ hB31.lt haw15_31;clear hat;replace hB3:=hB3.appT hown hg rfl;replace hW:=Below.app hW hown hg (Nat.le_refl _) hW.size;clear hown hg;refine Za rfl ?_;refine Zt hK30 fun a hf=>?_;refine Zr hf ?_;refine Zm rfl<|Ze (Xp rfl rfl (by omega) (by omega))<|Za rfl ?_;refine Zn fun a hf=>?_;refine Xd ?_;refine hK20 _ _ ?_;refine Zr hf ?_;refine Ze (Xp rfl rfl (by omega) (by omega))<|Zm rfl ?_;refine Zn fun a hf=>?_;refine Xc ?_;exact ⟨(k+1,m++([-1]),z+1),⟨A33,c33,hf.sub ⟨rfl,rfl,rfl,rfl,rfl,rfl,trivial⟩,(by omega),(by rw [hs1,hm]),(by omega),hB3,ho33,hp_c,hW⟩,(by first|omega|(dsimp only;omega))⟩
 have hc18b:=hc18;have hc18:=of_decide_eq_false hc18
 have hmi:m=ini c.gs:=by rw [hm,List.take_of_length_le (by omega)]
 have hml:m.length=c.gs.length:=by rw [hmi,Xh4]
 rw [hml] at hf
 have hz0:z=(cntZ c.gs (List.replicate c.gs.length 0) : Int):=by rw [X9e,hz,List.take_of_length_le (by omega)];rfl
 have hlay0:m=conv c.gs (List.replicate c.gs.length 0):=by rw [hmi,Xdz]
 refine wp_exit ?_;refine Xf ?_;refine Xf ?_;refine Xy ?_;refine hK13 _ _ ?_;refine Zs hf fun _ hK34=>?_;refine Ze (Vd rfl X0k 1)<|Ze (X0 rfl X14 (hB3.at 1)) ?_;refine Zf (Vc (F57 _ Ac cc c.gs (hr_c.below' hW).top hp_c c.n hcg hcl) Xuk) ?_;rintro _ w10 ⟨A35,c35,m8,rfl,ho35,hd8,hlw8,hmm8,hE⟩;have hu8:=ho15.und;replace ho35:=ho35.lower hW.size;replace hB3:=hB3.below hE;replace ho15:=ho15.below hE;replace hW:=btr hW hE
 obtain ⟨B8,hB8⟩ : ∃ B8,B8=w10.heap.size:=⟨_,rfl⟩
 rw [← hB8] at hd8
 clear hB8;refine Za rfl ?_;refine Zt hK34 fun a hf=>?_;refine wp_seq_k fun _ hK36=>?_;refine Zs hf fun _ hK37=>?_;refine Za rfl ?_;refine Zt hK37 fun a hf=>?_;refine wp_block ?_;refine Xx (σ:=Nat×Int×(List Int)×Int×(List Int)) (fun (s:Nat×Int×(List Int)×Int×(List Int)) (a:Act) (w:World)=>match s with|(f,kk,out,y,lay)=>Fr a 69 [(1,.pointer (some ⟨b3,0,none⟩)),(4,.slice A15 c.gs.length c15),(5,vi y),(8,.slice A35 m8.length c35),(9,vi kk)]∧(Sch c.gs kk out)∧(1≤kk)∧(kk+(f:Int)=(c.gs.length:Int)+1)∧(runI c.gs f kk out=schedOf c)∧(cntZ c.gs out≤f)∧(y=(cntZ c.gs out:Int))∧(lay=conv c.gs out)∧Blk w b3 31 [vi c.n,.slice Ac c.gs.length cc]∧Own w w0.heap.size 3 1 encI A15 c15 lay∧Own w w0.heap.size 66 1 encS A35 c35 m8∧c.gs.length≤cc∧DeepI w B8 m8∧Below w0.heap.size w0 w) (fun (s:Nat×Int×(List Int)×Int×(List Int))=>match s with|(f,kk,out,y,lay)=>f) (c.gs.length,1,(List.replicate c.gs.length 0),z,m) ?_ ?_
 ·exact ⟨hf.sub ⟨rfl,rfl,rfl,rfl,rfl,trivial⟩,(X9n _),(by omega),(by omega),hrun0,(X58 _ _),hz0,hlay0,hB3,ho15,ho35,hp_c,hd8,hW⟩
 rintro ⟨f,kk,out,y,lay⟩ a w11 ⟨hf,hS,hkk,hkf,hrun,hcf,hy,hlay,hB3,ho15,ho35,hp_c,hd8,hW⟩;refine wp_seq_k fun _ hK38=>?_;refine Zs hf fun _ hK39=>?_;refine Zm rfl<|Ze (X3e rfl rfl) ?_;refine Zt hK39 fun a hf=>?_
 refine Xe hf rfl (fun hc40=>?_) (fun hc40=>?_)
 ·have hc40b:=hc40;have hc40:=of_decide_eq_true hc40
  obtain ⟨f',hf',hrn,hcn',hSn⟩:=Xbr hS hkk hcf hrun (by omega)
  refine wp_skip ?_;refine hK38 _ _ ?_;refine wp_seq_k fun _ hK41=>?_;refine wp_block ?_;refine Zs hf fun _ hK42=>?_;refine Zm rfl<|Ze (X0y rfl Xg)<|Zm rfl ?_;refine Zt hK42 fun a hf=>?_;refine wp_block ?_;refine Xx (σ:=Nat×(List Int)×Int×(List Int)) (fun (s:Nat×(List Int)×Int×(List Int)) (a:Act) (w:World)=>match s with|(i,o2,y2,l2)=>Fr a 69 [(1,.pointer (some ⟨b3,0,none⟩)),(4,.slice A15 c.gs.length c15),(5,vi y2),(8,.slice A35 m8.length c35),(9,vi kk),(41,vi (c.gs.length:Int)),(42,vi (i:Int))]∧(i≤c.gs.length)∧(o2=sweepN c.gs kk out i)∧(SchM c.gs kk o2)∧(y2=(cntZ c.gs o2:Int))∧(l2=conv c.gs o2)∧Blk w b3 31 [vi c.n,.slice Ac c.gs.length cc]∧Own w w0.heap.size 3 1 encI A15 c15 l2∧Own w w0.heap.size 66 1 encS A35 c35 m8∧c.gs.length≤cc∧DeepI w B8 m8∧Below w0.heap.size w0 w) (fun (s:Nat×(List Int)×Int×(List Int))=>match s with|(i,o2,y2,l2)=>c.gs.length-i) (0,out,y,lay) ?_ ?_
  ·exact ⟨hf.sub ⟨rfl,rfl,rfl,rfl,rfl,rfl,rfl,trivial⟩,(Nat.zero_le _),rfl,hS.mid,hy,hlay,hB3,ho15,ho35,hp_c,hd8,hW⟩
  rintro ⟨i,o2,y2,l2⟩ a w12 ⟨hf,hi,ho2,hM,hy2,hl2,hB3,ho15,ho35,hp_c,hd8,hW⟩;refine Zs hf fun _ hK43=>?_;refine Ze (X0l rfl rfl) ?_;refine Zt hK43 fun a hf=>?_;refine wp_seq_k fun _ hK44=>?_
  refine Xe hf rfl (fun hc45=>?_) (fun hc45=>?_)
  ·have hc45b:=hc45;have hc45:=of_decide_eq_true hc45
   obtain ⟨u46,hu46⟩:=Xl (l:=c.gs) (k:=i) (by omega)
   have hcl2:=X58 c.gs o2
   have hlo2:o2.length=c.gs.length:=hM.len
   have hin:i<c.gs.length:=by omega
   have hnM:=hM.step hkk hin;have hns:=X2e c.gs kk out i
   rw [← ho2] at hns
   have hll2:l2.length=c.gs.length:=by rw [hl2];exact Xdy hM.len
   obtain ⟨u8,hm8,hfl⟩:=Xsa hmm8 hin
   have hfx:∀ x ∈ u8.l,0≤x∧x<(i:Int):=by rw [hfl];exact fun x hx=>Xmr hx
   have hfy:u8.l.length≤2305843009213693951:=by rw [hfl];exact Nat.le_trans (Xgk _ _ _) (by omega)
   refine wp_skip ?_;refine hK44 _ _ ?_;refine wp_seq_k fun _ hK47=>?_;refine wp_block ?_;refine Zs hf fun _ hK48=>?_;refine Zm rfl<|Za rfl ?_;refine Zt hK48 fun a hf=>?_;refine wp_seq_k fun _ hK49=>?_;refine X08 (fun a w=>Fr a 69 [(1,.pointer (some ⟨b3,0,none⟩)),(4,.slice A15 c.gs.length c15),(5,vi y2),(8,.slice A35 m8.length c35),(9,vi kk),(10,vi (i:Int)),(41,vi (c.gs.length:Int)),(42,vi (i:Int)),(60,.bool ((decide ((l2.getD i 0)<0))&&(freeS c.gs l2 kk i u8.l)))]∧Below w12.heap.size w12 w) ?_ ?_
   ·have hEc:Below w12.heap.size w12 w12:=Below.refl _ _
    refine X05 none (fun _=>false) mixed ?_;intro w13 hE;replace hB3:=hB3.below hE;replace ho15:=ho15.below hE;replace ho35:=ho35.below hE;replace hd8:=hd8.below hE;replace hW:=btr hW hE;replace hEc:=btr hEc hE;refine Yb hf ?_;refine Yo 0 rfl (fun _=>X2 rfl)<|Yo 1 rfl (fun _=>X2 rfl) ?_;refine Yj (k:=i) (u:=(l2.getD i 0)) (enc:=encI) (l:=l2) 2 rfl trivial rfl (by omega) rfl Xg X0h X6 ho15.rd (X1i 0 (by omega)) rfl ?_;intro p51 hat50;refine Ye 3 rfl (X0 rfl X4 hat50)<|Yo 4 rfl (fun _=>X0l rfl rfl)<|Yo 5 rfl (fun _=>X2 rfl) ?_
    refine Yl 50 rfl (fun hg52=>?_) (fun hg52=>?_)
    ·refine Yv 6 rfl ⟨_,_,rfl,rfl,hg52⟩ (Vn X0q hB3) ?_;refine Yu 7 rfl ⟨_,_,rfl,rfl,hg52⟩ (fun _=>X2 rfl) ?_;refine Yu 8 rfl ⟨_,_,rfl,rfl,hg52⟩ (fun _=>X2 rfl) ?_;refine Yu 9 rfl ⟨_,_,rfl,rfl,hg52⟩ (fun _=>X2 rfl) ?_;refine Yu 10 rfl ⟨_,_,rfl,rfl,hg52⟩ (fun _=>X2 rfl) ?_;refine Yu 11 rfl ⟨_,_,rfl,rfl,hg52⟩ (fun _=>X2 rfl) ?_;refine Yi (k:=i) (u:=u8) (enc:=encS) (l:=m8) 12 rfl ⟨_,_,rfl,rfl,hg52⟩ rfl rfl X4k Xas X3u ho35.rd hm8 rfl ?_;intro p54 hat53;have hr55:=hd8 _ (List.mem_of_getElem? hm8);refine Yv 13 rfl ⟨_,_,rfl,rfl,hg52⟩ (X0 rfl Xai hat53) ?_;refine Y1 14 ?_;refine Yf rfl ⟨_,_,rfl,rfl,hg52⟩ (EfW.mono (X1z (vs:=[.agg #[vi c.n,.slice Ac c.gs.length cc],.slice A15 c.gs.length c15,vi kk,vi (i:Int),.slice u8.A u8.l.length u8.c]) rfl Xt9 (by have hq:=F58 _ c Ac cc (hr_c.below' hW).top A15 c15 l2 ho15.rd.top kk i u8.A u8.c u8.l hr55.top (by omega) hin hfx (by omega) hfy;rw [hll2] at hq;exact hq)) (fun _ _ h=>⟨fun _=>by obtain ⟨rfl,hE⟩:=h;exact hE,h⟩)) ?_;rintro _ w14 ⟨rfl,hE⟩;replace hB3:=hB3.below hE;replace ho15:=ho15.below hE;replace ho35:=ho35.below hE;replace hr55:=hr55.below hE;replace hd8:=hd8.below hE;replace hW:=btr hW hE;replace hEc:=btr hEc hE;refine Yo 15 rfl (fun _=>Xb rfl hg52 rfl) ?_;refine Yd fun a hf=>?_
     have hEE:Below w12.heap.size w12 w14:=hEc
     exact ⟨hf.sub ⟨rfl,rfl,rfl,rfl,rfl,rfl,rfl,rfl,X1 rfl (by first|rfl|(simp only [hc7b,hc18b,hc40b,hc45b,hg52,bs];done)|simp [hc7b,hc18b,hc40b,hc45b,hg52]),trivial⟩,hEE⟩
    refine Yp 6 rfl ⟨_,_,rfl,rfl,hg52⟩ ?_;refine Yp 7 rfl ⟨_,_,rfl,rfl,hg52⟩ ?_;refine Yp 8 rfl ⟨_,_,rfl,rfl,hg52⟩ ?_;refine Yp 9 rfl ⟨_,_,rfl,rfl,hg52⟩ ?_;refine Yp 10 rfl ⟨_,_,rfl,rfl,hg52⟩ ?_;refine Yp 11 rfl ⟨_,_,rfl,rfl,hg52⟩ ?_;refine Yp 12 rfl ⟨_,_,rfl,rfl,hg52⟩ ?_;refine Yp 13 rfl ⟨_,_,rfl,rfl,hg52⟩ ?_;refine Y1 14 ?_;refine Yq rfl ⟨_,_,rfl,rfl,hg52⟩ ?_;refine Yo 15 rfl (fun _=>X9 rfl hg52 rfl) ?_;refine Yd fun a hf=>?_
    have hEE:Below w12.heap.size w12 w13:=hEc
    exact ⟨hf.sub ⟨rfl,rfl,rfl,rfl,rfl,rfl,rfl,rfl,X1 rfl (by first|rfl|(simp only [hc7b,hc18b,hc40b,hc45b,hg52,bs];done)|simp [hc7b,hc18b,hc40b,hc45b,hg52]),trivial⟩,hEE⟩
   rintro a w15 ⟨hf,hE⟩;replace hB3:=hB3.below hE;replace ho15:=ho15.below hE;replace ho35:=ho35.below hE;replace hd8:=hd8.below hE;replace hW:=btr hW hE;refine hK49 _ _ ?_
   refine Xe hf rfl (fun hc56=>?_) (fun hc56=>?_)
   ·have hc56b:=hc56
    have hmy:mayI c.gs kk o2 i=true:=by rw [← Xlr hcg hkk hM hin,← hl2,← hfl];exact hc56
    have h12:¬ (c.gs.getD i gZ).k=12:=by intro h9;unfold mayI at hmy;rw [h9] at hmy;simp at hmy
    have hst:stepI c.gs kk o2 i=o2.set i kk:=by rw [stepI,if_pos hmy]
    have hct:=X74 hM.len hin (by omega) hmy
    rw [hst] at hnM hns
    refine Zs hf fun _ hK57=>?_;refine Zm rfl<|Zm rfl<|Zm rfl<|Ze (X1m (k:=i) rfl rfl Xg X0h ho15 (by omega) rfl (by omega)) ?_;refine Zo (X1l (enc:=encI) (l:=l2) (vs:=[vi kk]) (x0:=(l2.getD i 0)) (u:=kk) (k:=i) (j:=0) (n1:=1) rfl rfl X0h ho15 X6 rfl rfl rfl rfl (by decide) (X1i 0 (by omega)) rfl) ?_;rintro _ w16 ⟨hnew,hg⟩;have hown:=ho15;replace hB3:=hB3.appT hown hg rfl;replace ho35:=ho35.appT hown hg rfl;replace hd8:=hd8.appL hlw8 hu8 hg;replace hW:=Below.app hW hown hg (Nat.le_refl _) hW.size
    clear hown hg;clear ho15;have ho15:=hnew;clear hnew;refine Zt hK57 fun a hf=>?_;refine Zr hf ?_;refine Zm rfl<|Ze (X0s rfl rfl (by omega) (by omega))<|Za rfl ?_;refine Zn fun a hf=>?_;refine Xd ?_;refine hK47 _ _ ?_;refine Zr hf ?_;refine Ze (Xp rfl rfl (by omega) (by omega))<|Zm rfl ?_;refine Zn fun a hf=>?_;refine Xc ?_;exact ⟨(i+1,(o2.set i kk),y2-1,(l2.set i kk)),⟨hf.sub ⟨rfl,rfl,rfl,rfl,rfl,rfl,rfl,trivial⟩,(by omega),hns.symm,hnM,(by omega),(by rw [Xe6 (X1i gZ hin) h12 (by omega),← hl2]),hB3,ho15,ho35,hp_c,hd8,hW⟩,(by first|omega|(dsimp only;omega))⟩
   have hc56b:=hc56
   have hmy:¬ mayI c.gs kk o2 i=true:=by rw [← Xlr hcg hkk hM hin,← hl2,← hfl];intro h9;rw [hc56] at h9;cases h9
   have hst:stepI c.gs kk o2 i=o2:=by rw [stepI,if_neg hmy]
   rw [hst] at hnM hns
   refine wp_skip ?_;refine Xd ?_;refine hK47 _ _ ?_;refine Zr hf ?_;refine Ze (Xp rfl rfl (by omega) (by omega))<|Zm rfl ?_;refine Zn fun a hf=>?_;refine Xc ?_;exact ⟨(i+1,o2,y2,l2),⟨hf.sub ⟨rfl,rfl,rfl,rfl,rfl,rfl,rfl,trivial⟩,(by omega),hns.symm,hnM,(by omega),hl2,hB3,ho15,ho35,hp_c,hd8,hW⟩,(by first|omega|(dsimp only;omega))⟩
  have hc45b:=hc45;have hc45:=of_decide_eq_false hc45
  have hie:i=c.gs.length:=by omega
  rw [hie] at ho2
  rw [← ho2] at hrn hcn' hSn
  refine wp_exit ?_;refine Xf ?_;refine Xf ?_;refine Xy ?_;refine Xd ?_;refine hK41 _ _ ?_;refine Zr hf ?_;refine Zm rfl<|Ze (Xp rfl rfl (by omega) (by omega))<|Za rfl ?_;refine Zn fun a hf=>?_;refine Xc ?_;exact ⟨(f',kk+1,o2,y2,l2),⟨hf.sub ⟨rfl,rfl,rfl,rfl,rfl,trivial⟩,hSn,(by omega),(by omega),hrn,hcn',hy2,hl2,hB3,ho15,ho35,hp_c,hd8,hW⟩,(by first|omega|(dsimp only;omega))⟩
 have hc40b:=hc40;have hc40:=of_decide_eq_false hc40
 have hfin:=Xek hrun (by omega)
 refine wp_exit ?_;refine Xf ?_;refine Xf ?_;refine Xy ?_;refine hK36 _ _ ?_;refine Zs hf fun _ hK58=>?_;refine Zm rfl<|Za rfl<|Za rfl ?_;refine Zt hK58 fun a hf=>?_
 refine wp_ret (X3 hf (X15 hf rfl rfl rfl) ?_)
 have e9:lay=schedOf c:=by rw [hlay,hfin,Xic hS (by omega)]
 have hown:=ho15
 rw [e9] at hown
 rw [hc]
 exact ⟨A15,c15,by rw [X51 hc],hown,hW⟩
end Go.Proofs.YtlfjcmldfbfdbaaGreat
namespace Go.Proofs.YtlfjcmldfbfdbaaGreat
open Go.RowKit Go.ChangeShapes Go.WideShapes Go.Deep Go.Joins
theorem Xml{α:Type}{n:Nat}{Q:Nat→α→Prop}(h:∀ i,i<n→∃ g,Q i g) : ∃ l:List α,l.length=n∧∀ i g,l[i]? = some g→Q i g:=by
 induction n with
 | zero=>exact ⟨[],rfl,fun i g h=>by simp at h⟩
 | succ n ih=>
  obtain ⟨l,h1,h2⟩:=ih fun i hi=>h i (by omega)
  obtain ⟨g,hg⟩:=h n (by omega)
  refine ⟨l++[g],by simp [h1],fun i g' hi=>?_⟩
  rcases Nat.lt_or_ge i n with hin|hin
  ·rw [List.getElem?_append_left (by omega)] at hi
   exact h2 i g' hi
  ·rw [List.getElem?_append_right (by omega)] at hi
   have:i-l.length=0:=by
    rcases Nat.eq_zero_or_pos (i-l.length) with h|h
    ·exact h
    ·rw [List.getElem?_eq_none (by simp;omega)] at hi;cases hi
   rw [this] at hi
   injection hi with hi
   subst hi
   have:i=n:=by omega
   subst this
   exact hg
theorem Xdm{α:Type}{w:World}{enc:α→List Value}{sz:Nat}(hsz:∀ x,(enc x).length=sz)(h0:0<sz){p:Addr}{l:List α}
  (h:∀ i g,l[i]? = some g→∀ j v,(enc g)[j]? = some v→w.cell? (p.add (i*sz+j))=some v) : ∃ E,Rd w w.heap.size E enc (some p) l:=by
 by_cases hl:l=[]
 ·subst hl;exact ⟨0,Rd.nil _ _ _ _ _⟩
 ·obtain ⟨g0,l',rfl⟩:=List.exists_cons_of_ne_nil hl
  obtain ⟨v0,hv0⟩ : ∃ v,(enc g0)[0]? = some v:=⟨_,List.getElem?_eq_getElem (by rw [hsz];exact h0)⟩
  have hc:=h 0 g0 rfl 0 v0 hv0;obtain ⟨b,off,spot⟩:=p;have hb:=Xge hc
  rw [X4d] at hb
  have hsp:spot=none:=by
   cases spot with
   | none=>rfl
   | some s=>simp [World.cell?,Addr.add] at hc;split at hc<;>simp_all
  subst hsp
  have hobj:∃ cs E fz,w.heap[b]? = some (.cells cs E fz):=by
   rw [X1x] at hc
   simp only [World.cell?] at hc
   split at hc
   ·rename_i c E fz hh;exact ⟨c,E,fz,hh⟩
   ·cases hc
  obtain ⟨cs,E,fz,hh⟩:=hobj
  refine ⟨E,fun _=>⟨b,off,cs,fz,rfl,hb,hh,fun j v hj=>?_⟩⟩
  have hjl:j<((g0::l').flatMap enc).length:=(List.getElem?_eq_some_iff.1 hj).1
  rw [X04 hsz] at hjl
  obtain ⟨x,hx,h1⟩:=X8b hsz hjl
  rw [h1] at hj
  have:=h _ _ hx _ _ hj
  rw [X1x,show j/sz*sz+j % sz=j from by rw [Nat.mul_comm];exact Nat.div_add_mod j sz] at this
  simpa [World.cell?,hh] using this
section
variable {H : Type} {enc : TypeId × Value → H} {w : World} {base fuel : Nat} {spare : Nat → Bool} {held : Bool}
end
section
variable {H : Type} {enc : TypeId × Value → H} {w : World} {base fuel : Nat} {spare : Nat → Bool} {held : Bool}
end
section
variable {H : Type} {enc : TypeId × Value → H} {w : World} {base fuel : Nat} {spare : Nat → Bool} {held : Bool}
end
end Go.Proofs.YtlfjcmldfbfdbaaGreat
namespace Go.Proofs.YtlfjcmldfbfdbaaGreat
open Go.ChangeShapes Go.WideShapes Go.ChangeAt Go.RowKit Go.Deep Go.Joins
set_option linter.unusedVariables false
theorem own:ownKnob Tryz.prog.godebug=none:=by kernel_rfl
theorem Xgw:laidOutB Tryz.prog=true:=by kernel_rfl
section
variable {H : Type} {enc : TypeId × Value → H} {P : Program}
theorem Xey{f:Func}{s:ChangeSpec}{fresh handsOn:Bool}{W W':World}{args:Array Value}{v:Value}{ds gs:List (DataW H)}{before pa pv:List MemPlace}
  (hW:DataW.Whole enc P f.params.toList s.vars false W args.toList ds gs before)
  (hres:∀ (b:Nat) (sp:Nat→Bool) (hd:Bool),DataW.TrodAll enc P W' b sp hd f.resultTypes.toList (v.resultList f.resultTypes.size) (s.fn H (ds++gs)).results [])
  (hargs:∀ sp:Nat→Bool,(∀ p ∈ before,sp p.block=true)→DataW.TrodAll enc P W' 0 sp true f.params.toList args.toList (s.fn H (ds++gs)).args pa)
  (hvars:∀ sp:Nat→Bool,(∀ p ∈ before,sp p.block=true)→DataW.TrodVars enc P W' sp s.vars (s.fn H (ds++gs)).vars pv)
  (hps:before=pa++pv) (hb:Below W.heap.size W W') :
  s.post enc P f false fresh handsOn false W args v W':=by
 have hlt:∀ p ∈ before,p.block<W.heap.size:=fun p hp=>hW.lt p hp
 have hold:∀ p ∈ before,(fun b=>decide (b<W.heap.size)) p.block=true:=fun p hp=>by simpa using hlt p hp
 refine ⟨ds,gs,before,[],pa,pv,hW,hres _ _ _,hargs _ hold,hvars _ hold,World.keptBut_mono (fun p hp=>⟨hp,?_⟩) (hb.frame (· ∈ before)),fun h=>by cases h⟩
 rw [hps,List.mem_append] at hp
 exact Or.inr hp
end
end Go.Proofs.YtlfjcmldfbfdbaaGreat
namespace Go.Proofs.YtlfjcmldfbfdbaaGreat
open Go.RowKit
def without(x y:Nat) : Nat:=x ^^^ (x &&& y)
def setN(x:Nat) : List Nat:=(List.range 62).filter x.testBit
def setI(x:Nat) : List Int:=(setN x).map fun (k:Nat)=>(k:Int)
def maskOf(p:Nat→Bool) : Nat→Nat
 | 0=>0
 | m+1=>maskOf p m ||| (if p m=true then 2^m else 0)
theorem Xb6(g h:Gt) : comS g h=comS h g:=by
 rw [Bool.eq_iff_iff,X2d,X2d]
 exact ⟨fun ⟨x,h1,h2⟩=>⟨x,h2,h1⟩,fun ⟨x,h1,h2⟩=>⟨x,h2,h1⟩⟩
theorem Xdj{g h:Gt}(hk:g.k=12) : comS g h=false:=by
 rw [Bool.eq_false_iff];intro e
 obtain ⟨x,hx,_⟩:=X2d.1 e;exact X4g hx hk
theorem X73{g h:Gt}(hk:h.k=12) : comS g h=false:=by rw [Xb6];exact Xdj hk
theorem X9j{g h:Gt}(hc:comS g h=false) : commS g h=true:=by rw [commS,if_neg (by rw [hc];simp)]
def RpL(p q:Gt×Nat) : Prop:=p.1.k≠12→q.1.k≠12→(commS q.1 p.1=false→p.2<q.2)∧(p.2=q.2→comS q.1 p.1=false)
def SchP(gs:List Gt)(t:Nat) : Prop:=∃ ps:List (Gt×Nat),ps.map Prod.fst=gs∧ps.Pairwise RpL∧∀ p ∈ ps,p.1.k≠12→1≤p.2∧p.2≤t
def nonW(g:Gt) : Bool:=g.k != 12
def Good(gs:List Gt)(f:Nat→Int)(i:Nat) : Prop:=∀ j,j<i→(commS (gs.getD i gZ) (gs.getD j gZ)=false→f j<f i)∧(f j=f i→comS (gs.getD i gZ) (gs.getD j gZ)=false)
def OkL(gs:List Gt)(t:Nat)(f:Nat→Int)(i:Nat) : Prop:=(gs.getD i gZ).k≠12→1≤f i∧f i≤(t:Int)∧Good gs f i
theorem X6f{gs:List Gt}{t:Nat}{f:Nat→Int}(h:∀ i,i<gs.length→OkL gs t f i) : SchP gs t:=by
 refine ⟨(List.range gs.length).map fun i=>(gs.getD i gZ,(f i).toNat),?_,?_,?_⟩
 ·rw [List.map_map]
  apply List.ext_getElem (by simp)
  intro i h1 h2
  simp only [List.getElem_map,List.getElem_range,Function.comp_apply]
  rw [List.getD_eq_getElem?_getD,List.getElem?_eq_getElem h2];rfl
 ·rw [List.pairwise_map]
  refine (List.pairwise_lt_range (n:=gs.length)).imp_of_mem ?_;intro j i hj hi hji h3 h4
  have hi':=List.mem_range.1 hi
  have hj':=List.mem_range.1 hj
  obtain ⟨a1,a2,a3⟩:=h i hi' h4;obtain ⟨b1,_,_⟩:=h j hj' h3;obtain ⟨c1,c2⟩:=a3 j hji
  refine ⟨fun hc=>?_,fun he=>c2 ?_⟩
  ·have:=c1 hc
   show (f j).toNat<(f i).toNat
   omega
  ·have:(f j).toNat=(f i).toNat:=he
   omega
 ·intro p hp hk;obtain ⟨i,hi,rfl⟩:=List.mem_map.1 hp;obtain ⟨a1,a2,_⟩:=h i (List.mem_range.1 hi) hk
  show 1≤(f i).toNat∧(f i).toNat≤t
  omega
theorem Xex{gs:List Gt}{t:Nat}(h:SchP gs t) : ∃ f:Nat→Int,∀ i,i<gs.length→OkL gs t f i:=by
 obtain ⟨ps,rfl,h2,h3⟩:=h
 refine ⟨fun i=>((ps.map Prod.snd).getD i 0:Nat),fun i hi hk=>?_⟩
 rw [List.length_map] at hi
 have g1:∀ j,j<ps.length→∀ (hj:j<ps.length),(ps.map Prod.fst).getD j gZ=(ps[j]).1∧(ps.map Prod.snd).getD j 0=(ps[j]).2:=fun j _ hj=>by
  constructor<;>rw [List.getD_eq_getElem?_getD,List.getElem?_map,List.getElem?_eq_getElem hj]<;>rfl
 obtain ⟨e1,e2⟩:=g1 i hi hi
 rw [e1] at hk
 obtain ⟨b1,b2⟩:=h3 _ (List.getElem_mem hi) hk
 refine ⟨by dsimp only;rw [e2];omega,by dsimp only;rw [e2];omega,fun j hj=>?_⟩
 dsimp only
 obtain ⟨d1,d2⟩:=g1 j (by omega) (by omega)
 rw [e1,e2,d1,d2]
 have hR:=(List.pairwise_iff_getElem.1 h2) j i (by omega) hi hj
 by_cases hjk:(ps[j]).1.k=12
 ·exact ⟨fun hc=>(by rw [X9j (X73 hjk)] at hc;cases hc),fun _=>X73 hjk⟩
 ·obtain ⟨r1,r2⟩:=hR hjk hk;exact ⟨fun hc=>Int.ofNat_lt.2 (r1 hc),fun he=>r2 (Int.ofNat.inj he)⟩
theorem Xc9(gs:List Gt) : SchP gs gs.length:=by
 refine X6f (f:=fun i=>(i:Int)+1) fun i hi _=>⟨by dsimp only;omega,by dsimp only;omega,fun j hj=>⟨fun _=>by dsimp only;omega,fun he=>by dsimp only at he;omega⟩⟩
def layI(gs:List Gt)(t:Nat) : Nat→List Int→Bool
 | 0,_=>true
 | n+1,al=>if (gs.getD (gs.length-(n+1)) gZ).k=12 then layI gs t n al else (List.range t).any fun x=>decide (faultS gs (al.set (gs.length-(n+1)) ((x:Int)+1)) (gs.length-(n+1))=0)&&layI gs t n (al.set (gs.length-(n+1)) ((x:Int)+1))
theorem X4n{gs:List Gt}{s:List Int}{i:Nat}(hk:(gs.getD i gZ).k≠12)(hx:inR (s.getD i 0) 1 400=true) : faultS gs s i=0↔Good gs (fun j=>s.getD j 0) i:=by
 rw [faultS,faultG,if_neg hk,if_pos hx]
 have hA:∀ j,pA gs s (gs.getD i gZ) (s.getD i 0) j=false↔(commS (gs.getD i gZ) (gs.getD j gZ)=false→s.getD j 0<s.getD i 0):=fun j=>by
  rw [pA]
  cases commS (gs.getD i gZ) (gs.getD j gZ)<;>simp
 have hB:∀ j,pB gs s (gs.getD i gZ) (s.getD i 0) j=false↔(s.getD j 0=s.getD i 0→comS (gs.getD i gZ) (gs.getD j gZ)=false):=fun j=>by
  rw [pB]
  cases comS (gs.getD i gZ) (gs.getD j gZ)<;>simp
 constructor
 ·intro h j hj
  split at h
  ·cases h
  ·rename_i h1
   split at h
   ·cases h
   ·rename_i h2
    refine ⟨(hA j).1 ?_,(hB j).1 ?_⟩
    ·rw [Bool.eq_false_iff];intro e;exact h1 (X2h hj e)
    ·rw [Bool.eq_false_iff];intro e;exact h2 (X2h hj e)
 ·intro h
  have h1:(List.range i).any (pA gs s (gs.getD i gZ) (s.getD i 0))=false:=by
   rw [List.any_eq_false];intro j hj;rw [(hA j).2 (h j (List.mem_range.1 hj)).1];simp
  have h2:(List.range i).any (pB gs s (gs.getD i gZ) (s.getD i 0))=false:=by
   rw [List.any_eq_false];intro j hj;rw [(hB j).2 (h j (List.mem_range.1 hj)).2];simp
  rw [if_neg (by rw [h1];simp),if_neg (by rw [h2];simp)]
theorem X62{gs:List Gt}{f f':Nat→Int}{i:Nat}(h:∀ j,j≤i→(gs.getD j gZ).k≠12→f j=f' j)(hk:(gs.getD i gZ).k≠12)(hg:Good gs f i) : Good gs f' i:=by
 intro j hj
 by_cases hjk:(gs.getD j gZ).k=12
 ·exact ⟨fun hc=>(by rw [X9j (X73 hjk)] at hc;cases hc),fun _=>X73 hjk⟩
 ·have e1:=h j (by omega) hjk
  have e2:=h i (Nat.le_refl _) hk
  have:=hg j hj
  rw [e1,e2] at this;exact this
theorem X3m{al:List Int}{i j:Nat}{x:Int}(hi:i<al.length) : (al.set i x).getD j 0=if j=i then x else al.getD j 0:=by
 rw [List.getD_eq_getElem?_getD,List.getElem?_set,List.getD_eq_getElem?_getD]
 by_cases h:i=j
 ·rw [if_pos h,if_pos h.symm,if_pos (by omega)];rfl
 ·rw [if_neg h,if_neg (fun e=>h e.symm)]
theorem Xbt{gs:List Gt}{t:Nat}(ht:t≤400) : ∀ (n:Nat) (al:List Int),al.length=gs.length→n≤gs.length→
  (layI gs t n al=true↔∃ f:Nat→Int,(∀ j,j<gs.length-n→f j=al.getD j 0)∧∀ i,gs.length-n≤i→i<gs.length→OkL gs t f i)
 | 0,al,hl,_=>⟨fun _=>⟨fun j=>al.getD j 0,fun _ _=>rfl,fun i h1 h2=>by omega⟩,fun _=>rfl⟩
 | n+1,al,hl,hn=>by
  have hi:gs.length-(n+1)<gs.length:=by omega
  have hs:gs.length-n=gs.length-(n+1)+1:=by omega
  rw [layI]
  generalize hI:gs.length-(n+1)=I at *
  by_cases hk:(gs.getD I gZ).k=12
  ·rw [if_pos hk,Xbt ht n al hl (by omega)]
   constructor
   ·rintro ⟨f,h1,h2⟩
    refine ⟨f,fun j hj=>h1 j (by omega),fun i hi1 hi2=>?_⟩
    by_cases hiI:i=I
    ·intro h;rw [hiI] at h;exact absurd hk h
    ·exact h2 i (by omega) hi2
   ·rintro ⟨f,h1,h2⟩
    refine ⟨fun j=>if j=I then al.getD j 0 else f j,fun j hj=>?_,fun i hi1 hi2 h3=>?_⟩
    ·dsimp only
     split
     ·rfl
     ·exact h1 j (by omega)
    ·obtain ⟨a1,a2,a3⟩:=h2 i (by omega) hi2 h3
     have hne:i≠I:=by omega
     dsimp only
     rw [if_neg hne]
     refine ⟨a1,a2,X62 (f:=f) (fun j _ hj2=>?_) h3 a3⟩
     have:j≠I:=fun e=>hj2 (by rw [e];exact hk)
     rw [if_neg this]
  ·rw [if_neg hk,List.any_eq_true]
   have key:∀ x:Int,1≤x→x≤(t:Int)→((decide (faultS gs (al.set I x) I=0)&&layI gs t n (al.set I x))=true↔
     Good gs (fun j=>(al.set I x).getD j 0) I∧∃ f:Nat→Int,(∀ j,j<I+1→f j=(al.set I x).getD j 0)∧∀ i,I+1≤i→i<gs.length→OkL gs t f i):=fun x hx1 hx2=>by
    have hxI:(al.set I x).getD I 0=x:=by rw [X3m (by omega),if_pos rfl]
    rw [Bool.and_eq_true,decide_eq_true_iff,X4n hk (by rw [hxI];exact Xo.2 (by omega)),Xbt ht n _ (by rw [List.length_set];exact hl) (by omega),hs]
   constructor
   ·rintro ⟨x,hx,h⟩
    have hx':=List.mem_range.1 hx
    obtain ⟨hg,f,h1,h2⟩:=(key ((x:Int)+1) (by omega) (by omega)).1 h
    have hfI:f I=(x:Int)+1:=by rw [h1 I (by omega),X3m (by omega),if_pos rfl]
    refine ⟨f,fun j hj=>by rw [h1 j (by omega),X3m (by omega),if_neg (by omega)],fun i hi1 hi2=>?_⟩
    by_cases hiI:i=I
    ·intro _
     rw [hiI]
     exact ⟨by omega,by omega,X62 (fun j hj _=>(h1 j (by omega)).symm) hk hg⟩
    ·exact h2 i (by omega) hi2
   ·rintro ⟨f,h1,h2⟩;obtain ⟨a1,a2,a3⟩:=h2 I (Nat.le_refl _) hi hk
    have hag:∀ j,j<I+1→f j=(al.set I (f I)).getD j 0:=fun j hj=>by
     rw [X3m (by omega)]
     split
     ·rename_i e;rw [e]
     ·exact h1 j (by omega)
    refine ⟨(f I).toNat-1,List.mem_range.2 (by omega),?_⟩
    rw [show (((f I).toNat-1:Nat) : Int)+1=f I from by omega]
    exact (key (f I) a1 a2).2 ⟨X62 (fun j hj _=>hag j (by omega)) hk a3,f,hag,fun i hi1 hi2=>h2 i (by omega) hi2⟩
def zerosL(n:Nat) : List Int:=List.replicate n 0
theorem X7b{gs:List Gt}{t:Nat}(ht:t≤400) : layI gs t gs.length (zerosL gs.length)=true↔SchP gs t:=by
 rw [Xbt ht _ _ (by simp [zerosL]) (Nat.le_refl _)]
 constructor
 ·rintro ⟨f,_,h⟩;exact X6f fun i hi=>h i (by omega) hi
 ·intro h;obtain ⟨f,hf⟩:=Xex h;exact ⟨f,fun j hj=>by omega,fun i _ hi=>hf i hi⟩
def leastL(gs:List Gt) : Nat:=((List.range (gs.length+1)).find? fun t=>layI gs t gs.length (zerosL gs.length)).getD 0
theorem Xfi{p:Nat→Bool} : ∀ {n t:Nat},t<n→p t=true→(∀ j,j<t→p j=false)→(List.range n).find? p=some t
 | n,t,h1,h2,h3=>by
  rw [show n=t+((n-t-1)+1) from by omega,List.range_add,List.find?_append]
  rw [List.find?_eq_none.2 (fun x hx=>by rw [h3 x (List.mem_range.1 hx)];simp),List.range_succ_eq_map]
  simp [h2]
theorem Xjb{gs:List Gt}{t:Nat}(hl:gs.length≤400)(h1:SchP gs t)(h2:∀ j,j<t→¬ SchP gs j) : leastL gs=t:=by
 have ht:t≤gs.length:=by
  rcases Nat.lt_or_ge gs.length t with h|h
  ·exact absurd (Xc9 gs) (h2 _ h)
  ·exact h
 rw [leastL,Xfi (t:=t) (by omega) ((X7b (by omega)).2 h1) (fun j hj=>by rw [Bool.eq_false_iff];intro e;exact h2 j hj ((X7b (by omega)).1 e))]
 rfl
section
variable (l : List Gt)
def foP(i j:Nat) : Bool:=decide (j<i)&&!commS (l.getD i gZ) (l.getD j gZ)
def shP(i j:Nat) : Bool:=i != j&&comS (l.getD i gZ) (l.getD j gZ)
def foM(i:Nat) : Nat:=maskOf (foP l i) l.length
def shM(i:Nat) : Nat:=maskOf (shP l i) l.length
def okAt(d s i:Nat) : Bool:=shM l i &&& s==0&&without (foM l i) d==0
def stepB(d s:Nat) : Bool:=s &&& d==0&&(setN s).all (okAt l d s)
def fullM:Nat:=2^l.length-1
inductive Rch:Nat→Nat→Prop
 | zero:Rch 0 0
 | step {k d s:Nat} (h:Rch k d) (h1:1≤s) (h2:s<2^l.length) (h3:stepB l d s=true) : Rch (k+1) (d ||| s)
end
section
variable {l : List Gt}
def lowM(l:List Gt)(f:Nat→Nat)(s:Nat) : Nat:=maskOf (fun i=>decide (f i≤s)) l.length
def stepsL(l:List Gt)(d:Nat) : List Nat:=(List.range' 1 (2^l.length-1)).filter (stepB l d)
theorem X5r{d s:Nat} : s ∈ stepsL l d↔1≤s∧s<2^l.length∧stepB l d s=true:=by
 rw [stepsL,List.mem_filter,List.mem_range'_1]
 have:0<2^l.length:=Nat.pow_pos (by decide)
 constructor
 ·rintro ⟨h1,h2⟩;exact ⟨by omega,by omega,h2⟩
 ·rintro ⟨h1,h2,h3⟩;exact ⟨by omega,h3⟩
structure Bfs (l:List Gt) (far:List Int) (L:List Nat) (i q:Nat) : Prop where
 flen:far.length=2^l.length
 inL:∀ x ∈ L,x<2^l.length∧∃ d:Nat,far.getD x 0=(d:Int)∧Rch l d x
 neg:∀ x,x<2^l.length→0≤far.getD x 0→x ∈ L
 nod:L.Nodup
 srt:L.Pairwise (fun x y=>far.getD x 0≤far.getD y 0)
 cap:i<L.length→∀ y ∈ L,far.getD y 0≤far.getD (L.getD i 0) 0+1
 done:∀ j,j<i→j<L.length→∀ s ∈ stepsL l (L.getD j 0),0≤far.getD (L.getD j 0 ||| s) 0∧far.getD (L.getD j 0 ||| s) 0≤far.getD (L.getD j 0) 0+1
 part:i<L.length→∀ s ∈ (stepsL l (L.getD i 0)).take q,0≤far.getD (L.getD i 0 ||| s) 0∧far.getD (L.getD i 0 ||| s) 0≤far.getD (L.getD i 0) 0+1
 zero:0 ∈ L
theorem X4a{L:List Nat}{k:Nat}(h:k<L.length) : L.getD k 0 ∈ L:=by
 rw [List.getD_eq_getElem?_getD,List.getElem?_eq_getElem h];exact List.getElem_mem h
theorem Xhq{L M:List Nat}{k:Nat}(h:k<L.length) : (L++M).getD k 0=L.getD k 0:=by
 simp only [List.getD_eq_getElem?_getD];rw [List.getElem?_append_left h]
theorem Bfs.inj{far:List Int}{L:List Nat}{i q:Nat}(h:Bfs l far L i q)(hi:i<L.length) : L.getD i 0<2^l.length:=(h.inL _ (X4a hi)).1
theorem Bfs.old{far:List Int}{L:List Nat}{i q s:Nat}(h:Bfs l far L i q)(hi:i<L.length)(hs:(stepsL l (L.getD i 0))[q]? = some s)(hf:0≤far.getD (L.getD i 0 ||| s) 0) : Bfs l far L i (q+1):=by
 refine ⟨h.flen,h.inL,h.neg,h.nod,h.srt,h.cap,h.done,fun _ s' hs'=>?_,h.zero⟩
 obtain ⟨hq,hqe⟩:=List.getElem?_eq_some_iff.1 hs;have hm:=X5r.1 (hqe▸List.getElem_mem hq)
 rw [List.take_succ_eq_append_getElem hq,List.mem_append] at hs'
 rcases hs' with hs'|hs'
 ·exact h.part hi s' hs'
 ·rw [List.mem_singleton.1 hs',hqe]
  exact ⟨hf,h.cap hi _ (h.neg _ (Nat.or_lt_two_pow (h.inj hi) hm.2.1) hf)⟩
theorem Bfs.new{far:List Int}{L:List Nat}{i q s:Nat}(h:Bfs l far L i q)(hi:i<L.length)(hs:(stepsL l (L.getD i 0))[q]? = some s)(hf:far.getD (L.getD i 0 ||| s) 0<0) :
  Bfs l (far.set (L.getD i 0 ||| s) (far.getD (L.getD i 0) 0+1)) (L++[L.getD i 0 ||| s]) i (q+1):=by
 obtain ⟨hq,hqe⟩:=List.getElem?_eq_some_iff.1 hs;have hm:=X5r.1 (hqe▸List.getElem_mem hq)
 have hx:L.getD i 0 ||| s<2^l.length:=Nat.or_lt_two_pow (h.inj hi) hm.2.1
 obtain ⟨x,hxe⟩ : ∃ x,x=L.getD i 0 ||| s:=⟨_,rfl⟩
 have hxL:x ∉ L:=fun hc=>by
  obtain ⟨_,d,hd,_⟩:=h.inL x hc
  rw [← hxe] at hf
  omega
 have hget:∀ y,(far.set x (far.getD (L.getD i 0) 0+1)).getD y 0=if y=x then far.getD (L.getD i 0) 0+1 else far.getD y 0:=fun y=>X3m (by rw [h.flen,hxe];exact hx)
 have hgL:∀ y ∈ L,(far.set x (far.getD (L.getD i 0) 0+1)).getD y 0=far.getD y 0:=fun y hy=>by
  rw [hget,if_neg (fun e:y=x=>hxL (e▸hy))]
 have hiL:=hgL _ (X4a hi)
 have hge:∀ j,j<L.length→(L++[x]).getD j 0=L.getD j 0:=fun j hj=>Xhq hj
 obtain ⟨_,di,hdi,hri⟩:=h.inL _ (X4a hi)
 rw [← hxe] at hf hx ⊢
 have mono:∀ y,y<2^l.length→0≤far.getD y 0→(far.set x (far.getD (L.getD i 0) 0+1)).getD y 0=far.getD y 0:=fun y h1 h2=>hgL y (h.neg y h1 h2)
 refine ⟨by rw [List.length_set];exact h.flen,fun y hy=>?_,fun y hy h0=>?_,?_,?_,fun _ y hy=>?_,fun j hj hjl s' hs'=>?_,fun _ s' hs'=>?_,List.mem_append_left _ h.zero⟩
 ·rcases List.mem_append.1 hy with hy|hy
  ·rw [hgL y hy];exact h.inL y hy
  ·rw [List.mem_singleton.1 hy]
   refine ⟨hx,di+1,by rw [hget,if_pos rfl,hdi];rfl,?_⟩
   rw [hxe];exact Rch.step hri hm.1 hm.2.1 hm.2.2
 ·rw [hget] at h0
  split at h0
  ·rename_i e;rw [e];simp
  ·exact List.mem_append_left _ (h.neg y hy h0)
 ·rw [List.nodup_append]
  exact ⟨h.nod,by simp,fun y hy z hz e=>hxL (by rw [List.mem_singleton.1 hz] at e;exact e▸hy)⟩
 ·rw [List.pairwise_append]
  refine ⟨h.srt.imp_of_mem fun {y z} hy hz hyz=>by rw [hgL y hy,hgL z hz];exact hyz,by simp,fun y hy z hz=>?_⟩
  rw [List.mem_singleton.1 hz,hgL y hy,hget,if_pos rfl]
  exact h.cap hi y hy
 ·rw [hge i hi,hiL]
  rcases List.mem_append.1 hy with hy|hy
  ·rw [hgL y hy];exact h.cap hi y hy
  ·rw [List.mem_singleton.1 hy,hget,if_pos rfl];omega
 ·have hjL:j<L.length:=by omega
  rw [hge j hjL] at hs' ⊢
  rw [hgL _ (X4a hjL)]
  obtain ⟨e1,e2⟩:=h.done j hj hjL s' hs'
  rw [mono _ (Nat.or_lt_two_pow (h.inL _ (X4a hjL)).1 (X5r.1 hs').2.1) e1]
  exact ⟨e1,e2⟩
 ·rw [hge i hi] at hs' ⊢
  rw [hiL]
  rw [List.take_succ_eq_append_getElem hq,List.mem_append] at hs'
  rcases hs' with hs'|hs'
  ·obtain ⟨e1,e2⟩:=h.part hi s' hs'
   rw [mono _ (Nat.or_lt_two_pow (h.inj hi) (X5r.1 (List.mem_of_mem_take hs')).2.1) e1]
   exact ⟨e1,e2⟩
  ·rw [List.mem_singleton.1 hs',hqe,← hxe,hget,if_pos rfl];omega
theorem Bfs.next{far:List Int}{L:List Nat}{i q:Nat}(h:Bfs l far L i q)(hi:i<L.length)(hq:(stepsL l (L.getD i 0)).length≤q) : Bfs l far L (i+1) 0:=by
 refine ⟨h.flen,h.inL,h.neg,h.nod,h.srt,fun hi1 y hy=>?_,fun j hj hjl s hs=>?_,fun _ s hs=>by simp at hs,h.zero⟩
 ·have h1:=h.cap hi y hy
  have h2:=(List.pairwise_iff_getElem.1 h.srt) i (i+1) hi hi1 (by omega)
  have g1:L.getD i 0=L[i]:=by rw [List.getD_eq_getElem?_getD,List.getElem?_eq_getElem hi];rfl
  have g2:L.getD (i+1) 0=L[i+1]:=by rw [List.getD_eq_getElem?_getD,List.getElem?_eq_getElem hi1];rfl
  rw [g1] at h1
  rw [g2];omega
 ·by_cases hji:j=i
  ·subst hji
   exact h.part hi s (by rw [List.take_of_length_le hq];exact hs)
  ·exact h.done j (by omega) hjl s hs
end
def cI(l:List Nat) : List Int:=l.map fun (k:Nat)=>(k:Int)
def maskV(l:List Int) : Nat:=l.foldl (fun q v=>q ||| 2^v.toNat) 0
def foL(l:List Gt) : List Int:=cI ((List.range l.length).map (foM l))
def shL(l:List Gt) : List Int:=cI ((List.range l.length).map (shM l))
theorem Xmh{l:List Gt}{i:Nat}(hi:i<l.length) : (shL l)[i]? = some ((shM l i:Nat) : Int):=by simp [shL,cI,hi]
theorem Xom(l:List Gt) : (shL l).length=l.length:=by simp [shL,cI]
structure ShM (l:List Gt) (i j:Nat) (m:List Int) : Prop where
 len:m.length=l.length
 lo:∀ q,q<i→m.getD q 0=((shM l q:Nat) : Int)
 at':i<l.length→m.getD i 0=((maskOf (shP l i) j:Nat) : Int)
 up:∀ q,i<q→q<l.length→m.getD q 0=0
theorem ShM.no{l:List Gt}{i j:Nat}{m:List Int}(h:ShM l i j m)(hp:shP l i j=false) : ShM l i (j+1) m:=
 ⟨h.len,h.lo,fun hi=>by rw [h.at' hi,maskOf,if_neg (by rw [hp];simp),Nat.or_zero],h.up⟩
theorem ShM.next{l:List Gt}{i:Nat}{m:List Int}(h:ShM l i l.length m)(hi:i<l.length) : ShM l (i+1) 0 m:=
 ⟨h.len,fun q hq=>by
  by_cases e:q=i
  ·rw [e];exact h.at' hi
  ·exact h.lo q (by omega),fun h1=>by rw [h.up _ (by omega) h1];rfl,fun q h1 h2=>h.up q (by omega) h2⟩
theorem ShM.done{l:List Gt}{i j:Nat}{m:List Int}(h:ShM l i j m)(hi:l.length≤i) : m=shL l:=by
 apply List.ext_getElem?
 intro q
 rcases Nat.lt_or_ge q l.length with h1|h1
 ·rw [Xmh h1,X1o (by rw [h.len];exact h1),h.lo q (by omega)]
 ·rw [List.getElem?_eq_none (by rw [h.len];exact h1),List.getElem?_eq_none (by rw [Xom];exact h1)]
def stepsU(l:List Gt)(d k:Nat) : List Nat:=(List.range' 1 (k-1)).filter (stepB l d)
def llB(c:Cx) : Bool:=cOk c&&decide ((c.gs.filter nonW).length≤8)
def llI(c:Cx) : Int:=if llB c=true then (leastL c.gs:Int) else 0
theorem Xj6{p:Gt→Bool}{l:List Gt}{k:Nat}{u:Gt}(h:l[k]? = some u) : (l.take (k+1)).filter p=(l.take k).filter p++(if p u=true then [u] else []):=by
 obtain ⟨h1,h2⟩:=List.getElem?_eq_some_iff.1 h
 rw [List.take_succ_eq_append_getElem h1,h2,List.filter_append]
 congr 1
 by_cases hp:p u=true
 ·rw [if_pos hp,List.filter_cons_of_pos hp];rfl
 ·rw [if_neg hp,List.filter_cons_of_neg hp];rfl
structure TurnV (w w':World) (b:Nat) (r:Option Nat) : Prop where
 os:w'.os=w.os
 tape:w'.tape=w.tape
 output:w'.output=w.output
 size:w.heap.size≤w'.heap.size
 block:∀ k,k<w.heap.size→k≠b→some k≠r→w'.heap[k]? = w.heap[k]?
theorem TurnV.refl(w:World)(b:Nat)(r:Option Nat) : TurnV w w b r:=⟨rfl,rfl,rfl,Nat.le_refl _,fun _ _ _ _=>rfl⟩
section
variable {w0 w w' : World} {b : Nat} {r : Option Nat} {A : Option Addr} {n m c c' : Nat}
theorem tvbel(h:TurnV w0 w b r)(hE:Below w.heap.size w w') : TurnV w0 w' b r:=
 ⟨hE.os.trans h.os,hE.tape.trans h.tape,hE.output.trans h.output,Nat.le_trans h.size hE.size,fun k hk h1 h2=>(hE.block k (Nat.lt_of_lt_of_le hk h.size)).trans (h.block k hk h1 h2)⟩
theorem tvv(h:TurnV w0 w b r)(ho:Only b w w') : TurnV w0 w' b r:=
 ⟨ho.os.trans h.os,ho.tape.trans h.tape,ho.output.trans h.output,by rw [ho.size];exact h.size,fun k hk h1 h2=>(ho.block k h1).trans (h.block k hk h1 h2)⟩
theorem tvr(h:TurnV w0 w b (Value.slice A n c).ownBlock)(k:w.grownBy w' (Value.slice A m c').ownBlock) : TurnV w0 w' b (Value.slice A n c).ownBlock:=
 ⟨k.os.trans h.os,k.tape.trans h.tape,k.output.trans h.output,Nat.le_trans h.size k.size,fun q hq h1 h2=>(k.block q (Nat.lt_of_lt_of_le hq h.size) (by rw [X8m A m n c' c];exact h2)).trans (h.block q hq h1 h2)⟩
theorem TurnV.mid(h:TurnV w w' b (Value.slice A n c).ownBlock)(hb:b<w.heap.size) : ∃ w1,Only b w w1∧w1.grownBy w' (Value.slice A n c).ownBlock:=by
 cases hx:w'.heap[b]? with
 | none=>
  have:=Array.getElem?_eq_none_iff.1 hx
  have:=h.size
  omega
 | some o=>
  refine ⟨{ w with heap:=w.heap.setIfInBounds b o },⟨rfl,rfl,rfl,by simp,fun k hk=>?_⟩,⟨h.os,h.tape,h.output,by simpa using h.size,fun k hk hn=>?_⟩⟩
  ·show (w.heap.setIfInBounds b o)[k]? = _
   rw [Array.getElem?_setIfInBounds_ne (Ne.symm hk)]
  ·show w'.heap[k]? = (w.heap.setIfInBounds b o)[k]?
   have hk':k<w.heap.size:=by simpa using hk
   by_cases hkb:k=b
   ·subst hkb
    rw [hx,Array.getElem?_setIfInBounds_self_of_lt hk']
   ·rw [Array.getElem?_setIfInBounds_ne (Ne.symm hkb)]
    exact h.block k hk' hkb hn
end
theorem MemoG.app{α:Type}{w w':World}{b B:Nat}{E:TypeId}{sz:Nat}{enc:α→List Value}{A:Option Addr}{n c c':Nat}{l:List α}(h:MemoG w b)(ho:Own w B E sz enc A c l)(hg:w.grownBy w' (Value.slice A n c').ownBlock) : MemoG w' b:=by
 obtain ⟨l2,cl,hL,hg2⟩:=h
 refine ⟨l2,cl,?_,hg2⟩
 have hlt:=hL.lt
 refine (hg.block b hlt fun hk=>?_).trans hL
 rw [X8m A n l.length c' c] at hk
 obtain ⟨_,_,cs,fz,h3⟩:=ho.block hk.symm
 unfold MemoL at hL
 rw [hL] at h3;cases h3
theorem Own.onlyM{α:Type}{w w':World}{b B:Nat}{E:TypeId}{sz:Nat}{enc:α→List Value}{A:Option Addr}{c:Nat}{l:List α}(h:Own w B E sz enc A c l)(ho:Only b w w')(hm:MemoG w b) : Own w' B E sz enc A c l:=by
 refine ⟨h.1,?_⟩
 rcases h.2 with k1|⟨g,cap,cur,k1,k2,k3,k4⟩
 ·exact .inl k1
 ·refine .inr ⟨g,cap,cur,k1,k2,(ho.block g fun e=>?_).trans k3,k4⟩
  obtain ⟨l2,cl,hL,_⟩:=hm
  unfold MemoL at hL
  rw [e,hL] at k3;cases k3
theorem Xcc{gs:List Gt}{t n:Nat}{al:List Int}(h:0<n) : layI gs t n al=if (gs.getD (gs.length-n) gZ).k=12 then layI gs t (n-1) al else (List.range t).any fun x=>decide (faultS gs (al.set (gs.length-n) ((x:Int)+1)) (gs.length-n)=0)&&layI gs t (n-1) (al.set (gs.length-n) ((x:Int)+1)):=by
 obtain ⟨k,rfl⟩ : ∃ k,n=k+1:=⟨n-1,by omega⟩
 rfl
def tryL(gs:List Gt)(t n:Nat)(al:List Int)(x:Nat) : Bool:=decide (faultS gs (al.set (gs.length-n) ((x:Int)+1)) (gs.length-n)=0)&&layI gs t (n-1) (al.set (gs.length-n) ((x:Int)+1))
theorem Xnb{gs:List Gt}{t n x:Nat}{al:List Int}(h:0<n)(hk:¬ (gs.getD (gs.length-n) gZ).k=12)(hx:x<t)(hp:tryL gs t n al x=true) : layI gs t n al=true:=by
 rw [Xcc h,if_neg hk];exact List.any_eq_true.2 ⟨x,List.mem_range.2 hx,hp⟩
theorem Xlq{gs:List Gt}{t n:Nat}{al:List Int}(h:0<n)(hk:¬ (gs.getD (gs.length-n) gZ).k=12)(hp:(List.range t).any (tryL gs t n al)=false) : layI gs t n al=false:=by
 rw [Xcc h,if_neg hk];exact hp
theorem Xj5{al al2:List Int}{i:Nat}(h:∀ z,al2.set i z=al.set i z)(hi:i<al.length)(h0:al.getD i 0=0) : al2.set i 0=al:=by
 rw [h]
 apply List.ext_getElem?
 intro q
 rw [List.getElem?_set]
 split
 ·rename_i e;subst e
  rw [X1o hi,h0]
 ·rfl
def cntP(p:Int→Bool)(gs:List Gt) : Nat:=(gs.filter fun g=>p g.k).length
theorem Xet(gs:List Gt) : cntP (fun k=>k != 12) gs=(gs.filter nonW).length:=rfl
theorem X80{gs:List Gt}(hl:gs.length≤400) : leastL gs≤gs.length∧layI gs (leastL gs) gs.length (zerosL gs.length)=true∧∀ j,j<leastL gs→layI gs j gs.length (zerosL gs.length)=false:=by
 obtain ⟨t,h1,h2⟩ : ∃ t,SchP gs t∧∀ j,j<t→¬ SchP gs j:=by
  have:∀ n,(∃ t,t≤n∧SchP gs t)→∃ t,SchP gs t∧∀ j,j<t→¬ SchP gs j:=by
   intro n
   induction n with
   | zero=>rintro ⟨t,h1,h2⟩;exact ⟨t,h2,fun j hj=>by omega⟩
   | succ n ih=>
    rintro ⟨t,h1,h2⟩
    by_cases hx:∃ t,t≤n∧SchP gs t
    ·exact ih hx
    ·exact ⟨t,h2,fun j hj hs=>hx ⟨j,by omega,hs⟩⟩
  exact this gs.length ⟨_,Nat.le_refl _,Xc9 gs⟩
 have ht:t≤gs.length:=by
  rcases Nat.lt_or_ge gs.length t with h|h
  ·exact absurd (Xc9 gs) (h2 _ h)
  ·exact h
 rw [Xjb hl h1 h2]
 exact ⟨ht,(X7b (by omega)).2 h1,fun j hj=>by rw [Bool.eq_false_iff];intro e;exact h2 j hj ((X7b (by omega)).1 e)⟩
def LaySt(n:Nat) : Prop:=∀ (w0:World) (bV:Nat) (hBV:MemoG w0 bV) (c:Cx) (A:Option Addr) (cc:Nat) (hr_c:Rd w0 w0.heap.size 24 encG A c.gs) (hc:cOk c=true) (B0:Nat) (Aa:Option Addr) (ca:Nat) (al:List Int) (ho:Own w0 B0 3 1 encI Aa ca al) (hal:al.length=c.gs.length) (hz:∀ j,c.gs.length-n≤j→al.getD j 0=0) (hn:n≤c.gs.length) (t:Nat) (ht:t≤400) (p:Int) (hp:p=((c.gs.length-n:Nat) : Int)),Ret Tryz.prog 117 [.agg #[vi c.n,.slice A c.gs.length cc,.map (some bV)],vi p,vi (t:Int),.slice Aa al.length ca] w0 (fun v w=>v=.bool (layI c.gs t n al)∧(∃ al3,Own w B0 3 1 encI Aa ca al3∧al3.length=al.length∧(layI c.gs t n al=false→al3=al))∧MemoG w bV∧TurnV w0 w bV (Value.slice Aa al.length ca).ownBlock)
theorem Xto(n:Nat)(ih:∀ m,m<n→LaySt m)(w0:World)(bV:Nat)(hBV:MemoG w0 bV)(c:Cx)(A:Option Addr)(cc:Nat)(hr_c:Rd w0 w0.heap.size 24 encG A c.gs)(hc:cOk c=true)(B0:Nat)(Aa:Option Addr)(ca:Nat)(al:List Int)(ho:Own w0 B0 3 1 encI Aa ca al)(hal:al.length=c.gs.length)(hz:∀ j,c.gs.length-n≤j→al.getD j 0=0)(hn:n≤c.gs.length)(t:Nat)(ht:t≤400)(p:Int)(hp:p=((c.gs.length-n:Nat) : Int)) : Ret Tryz.prog 117 [.agg #[vi c.n,.slice A c.gs.length cc,.map (some bV)],vi p,vi (t:Int),.slice Aa al.length ca] w0 (fun v w=>v=.bool (layI c.gs t n al)∧(∃ al3,Own w B0 3 1 encI Aa ca al3∧al3.length=al.length∧(layI c.gs t n al=false→al3=al))∧MemoG w bV∧TurnV w0 w bV (Value.slice Aa al.length ca).ownBlock):=by
 subst hp
 have hltV:=hBV.lt;obtain ⟨hcn,hcl,hcg⟩:=X0x hc;refine enter Tryz.func117 rfl 55 rfl rfl ?_;intro a hf
 have hW:TurnV w0 w0 bV (Value.slice Aa al.length ca).ownBlock:=TurnV.refl _ _ _
 refine Zs hf fun _ hK3=>?_;refine Zf (X0p (zs:=[vi c.n,.slice A c.gs.length cc,.map (some bV)]) rfl rfl) ?_;rintro _ w1 ⟨b4,rfl,hl4,hE,hB4⟩;have hlo4:=Nat.le_trans hW.size hl4;replace hBV:=hBV.below hE;replace hr_c:=hr_c.below hE;replace ho:=ho.below hE;replace hW:=tvbel hW hE;refine Za rfl ?_;refine Zt hK3 fun a hf=>?_;refine wp_seq_k fun _ hK5=>?_;refine Zs hf fun _ hK6=>?_;refine Zm rfl<|Ze (Vd rfl X30 0)<|Ze (Vd rfl X0k 1)<|Ze (X0 rfl X14 (hB4.at 1))<|Ze (X0y rfl X0c) ?_;refine Ze (X0u rfl rfl) ?_;refine Zt hK6 fun a hf=>?_
 refine Xe hf rfl (fun hc7=>?_) (fun hc7=>?_)
 ·have hc7b:=hc7
  have hn0:n=0:=by have:=eq_of_beq hc7;omega
  have hfin:layI c.gs t n al=true:=by rw [hn0];rfl
  refine Zs hf fun _ hK8=>?_;refine Za rfl ?_;refine Zt hK8 fun a hf=>?_;refine wp_ret ?_;refine X5 ?_;refine X3 hf (Xq hf rfl rfl) ?_;exact ⟨by rw [hfin],⟨al,ho,rfl,fun _=>rfl⟩,hBV,hW⟩
 have hc7b:=hc7
 have h0:0<n:=Nat.pos_of_ne_zero fun h9=>by rw [h9] at hc7;simp at hc7
 have hIl:c.gs.length-n<c.gs.length:=by omega
 refine wp_skip ?_;refine hK5 _ _ ?_;refine wp_seq_k fun _ hK9=>?_;refine Zs hf fun _ hK10=>?_;refine Ze (Vd rfl X30 0)<|Ze (Vd rfl X0k 1)<|Ze (X0 rfl X14 (hB4.at 1))<|Zm rfl ?_;refine Zi (k:=(c.gs.length-n)) (u:=(c.gs.getD (c.gs.length-n) gZ)) (enc:=encG) (l:=c.gs) trivial rfl rfl X0c X0g X0d hr_c (X9o (by omega)) rfl ?_;intro p12 hat11;refine Ze (Xrh rfl X0i)<|Ze (X0 rfl X4 (hat11.drop 0))<|Ze (X0u rfl rfl) ?_;refine Zt hK10 fun a hf=>?_
 refine Xe hf rfl (fun hc13=>?_) (fun hc13=>?_)
 ·have hc13b:=hc13
  have hk12:(c.gs.getD (c.gs.length-n) gZ).k=12:=eq_of_beq hc13
  have hfin:layI c.gs t n al=layI c.gs t (n-1) al:=by rw [Xcc h0,if_pos hk12]
  refine Zs hf fun _ hK14=>?_;refine Ze (Vn X4v hB4)<|Zm rfl<|Ze (Xp rfl rfl (by omega) (by omega))<|Zm rfl<|Zm rfl ?_;refine Zf (X1z (vs:=[.agg #[vi c.n,.slice A c.gs.length cc,.map (some bV)],vi (((c.gs.length-n:Nat) : Int)+1),vi (t:Int),.slice Aa al.length ca]) rfl Xch (ih (n-1) (by omega) _ bV hBV c A cc hr_c.top hc B0 Aa ca al ho hal (fun j hj=>hz j (by omega)) (by omega) t ht (((c.gs.length-n:Nat) : Int)+1) (by omega))) ?_;rintro _ w2 ⟨rfl,⟨al3,hnew,hl3,hq3⟩,hbn,ht⟩;obtain ⟨wm,hO,hg0⟩:=ht.mid hBV.lt;clear ht
  have hg:wm.grownBy w2 (Value.slice Aa al.length ca).ownBlock:=gcast hg0;clear hg0
  have hold:=hBV;replace hB4:=hB4.onlyM hO hold;replace hr_c:=hr_c.onlyM hO hold;replace ho:=ho.onlyM hO hold;replace hW:=tvv hW hO
  clear hold;have hown:=ho;replace hB4:=hB4.appT hown hg rfl;replace hr_c:=hr_c.appT hown hg rfl;replace hW:=tvr hW hg
  clear hown hg hO;clear ho;have ho:=hnew;clear hnew;replace hBV:=hbn;clear hbn;refine Za rfl ?_;refine Zt hK14 fun a hf=>?_;refine wp_ret ?_;refine X5 ?_;refine X3 hf (Xq hf rfl rfl) ?_;exact ⟨by rw [hfin],⟨al3,ho,hl3,fun h9=>hq3 (by rw [← hfin];exact h9)⟩,hBV,hW⟩
 have hc13b:=hc13
 have hk12:¬ (c.gs.getD (c.gs.length-n) gZ).k=12:=by simpa using hc13
 have hz0:=hz (c.gs.length-n) (Nat.le_refl _);refine wp_skip ?_;refine hK9 _ _ ?_;refine wp_seq_k fun _ hK15=>?_;refine Zs hf fun _ hK16=>?_;refine Za rfl ?_;refine Zt hK16 fun a hf=>?_;refine wp_block ?_;refine Xx (σ:=Nat×(List Int)) (fun (s:Nat×(List Int)) (a:Act) (w:World)=>match s with|(y,al2)=>Fr a 55 [(1,vi ((c.gs.length-n:Nat) : Int)),(2,vi (t:Int)),(3,.slice Aa al.length ca),(4,.pointer (some ⟨b4,0,none⟩)),(9,vi (y:Int))]∧(1≤y)∧(y≤t+1)∧(∀ z,al2.set (c.gs.length-n) z=al.set (c.gs.length-n) z)∧(al2.length=al.length)∧((List.range (y-1)).any (tryL c.gs t n al)=false)∧MemoG w bV∧Blk w b4 127 [vi c.n,.slice A c.gs.length cc,.map (some bV)]∧Rd w w0.heap.size 24 encG A c.gs∧Own w B0 3 1 encI Aa ca al2∧TurnV w0 w bV (Value.slice Aa al.length ca).ownBlock) (fun (s:Nat×(List Int))=>match s with|(y,al2)=>t+1-y) (1,al) ?_ ?_
 ·exact ⟨hf.sub ⟨rfl,rfl,rfl,rfl,rfl,trivial⟩,(Nat.le_refl _),(by omega),(fun _=>rfl),rfl,rfl,hBV,hB4,hr_c,ho,hW⟩
 rintro ⟨y,al2⟩ a w3 ⟨hf,hy,hyt,hS,hml,hF,hBV,hB4,hr_c,ho,hW⟩;refine wp_seq_k fun _ hK17=>?_;refine Zs hf fun _ hK18=>?_;refine Zm rfl<|Zm rfl<|Ze (X7h rfl rfl) ?_;refine Zt hK18 fun a hf=>?_
 refine Xe hf rfl (fun hc19=>?_) (fun hc19=>?_)
 ·have hc19b:=hc19;have hc19:=of_decide_eq_true hc19;have hSy:=hS (y:Int)
  have hy1:((y-1:Nat) : Int)+1=(y:Int):=by omega
  have hfe:faultI c.gs (al2.set (c.gs.length-n) (y:Int)) (c.gs.length-n)=faultS c.gs (al2.set (c.gs.length-n) (y:Int)) (c.gs.length-n):=Xcm hcg hIl
  refine wp_skip ?_;refine hK17 _ _ ?_;refine wp_seq_k fun _ hK20=>?_;refine wp_block ?_;refine Zs hf fun _ hK21=>?_;refine Zm rfl<|Zm rfl<|Zm rfl<|Ze (X1m (k:=(c.gs.length-n)) rfl rfl Xg X0h ho (by omega) rfl (by omega)) ?_;refine Zo (X1l (enc:=encI) (l:=al2) (vs:=[vi (y:Int)]) (x0:=(al2.getD (c.gs.length-n) 0)) (u:=(y:Int)) (k:=(c.gs.length-n)) (j:=0) (n1:=1) rfl rfl X0h ho X6 rfl rfl rfl rfl (by decide) (X1o (by omega)) rfl) ?_;rintro _ w4 ⟨hnew,hg⟩;have hown:=ho;replace hBV:=hBV.app hown hg;replace hB4:=hB4.appT hown hg rfl;replace hr_c:=hr_c.appT hown hg rfl;replace hW:=tvr hW hg
  clear hown hg;clear ho;have ho:=hnew;clear hnew;refine Zt hK21 fun a hf=>?_;refine Zs hf fun _ hK22=>?_;refine Ze (Vn X4v hB4)<|Zm rfl<|Zm rfl ?_;refine Zf (X1z (vs:=[.agg #[vi c.n,.slice A c.gs.length cc,.map (some bV)],vi ((c.gs.length-n:Nat) : Int),.slice Aa al.length ca]) rfl Xp8 (by have hq:=F56 _ bV hBV c A cc hr_c.top hc (c.gs.length-n:Nat) hIl Aa ca (al2.set (c.gs.length-n) (y:Int)) ho.rd.top (by rw [List.length_set];omega);rw [(show (al2.set (c.gs.length-n) (y:Int)).length=al.length from by rw [List.length_set];exact hml)] at hq;exact hq)) ?_;rintro _ w5 ⟨rfl,hK,hbn⟩;obtain ⟨wm,hO,hm,hE⟩:=hK.mid;clear hm;have hold:=hBV;replace hB4:=hB4.onlyM hO hold;replace hr_c:=hr_c.onlyM hO hold;replace ho:=ho.onlyM hO hold;replace hW:=tvv hW hO;replace hB4:=hB4.below hE;replace hr_c:=hr_c.below hE;replace ho:=ho.below hE;replace hW:=tvbel hW hE
  clear hold hE hO hK;replace hBV:=hbn;clear hbn;refine Ze (X0u rfl rfl)<|Zm rfl ?_
  refine Zg 44 rfl (fun hg23=>?_) (fun hg23=>?_)
  ·refine Zv ⟨_,_,rfl,rfl,hg23⟩ (Vn X4v hB4) ?_;refine Zv ⟨_,_,rfl,rfl,hg23⟩ (X2 rfl) ?_;refine Zv ⟨_,_,rfl,rfl,hg23⟩ (Xp rfl rfl (by omega) (by omega)) ?_;refine Zv ⟨_,_,rfl,rfl,hg23⟩ (X2 rfl) ?_;refine Zv ⟨_,_,rfl,rfl,hg23⟩ (X2 rfl) ?_;refine Zk ⟨_,_,rfl,rfl,hg23⟩ (X1z (vs:=[.agg #[vi c.n,.slice A c.gs.length cc,.map (some bV)],vi (((c.gs.length-n:Nat) : Int)+1),vi (t:Int),.slice Aa al.length ca]) rfl Xch (by have hq:=ih (n-1) (by omega) _ bV hBV c A cc hr_c.top hc B0 Aa ca (al2.set (c.gs.length-n) (y:Int)) ho (by rw [List.length_set];omega) (fun j hj=>by rw [hSy,X3m (by omega),if_neg (by omega)];exact hz j (by omega)) (by omega) t ht (((c.gs.length-n:Nat) : Int)+1) (by omega);rw [(show (al2.set (c.gs.length-n) (y:Int)).length=al.length from by rw [List.length_set];exact hml)] at hq;exact hq)) ?_;rintro _ w6 ⟨rfl,⟨al3,hnew,hl3,hq3⟩,hbn,ht⟩;obtain ⟨wm,hO,hg0⟩:=ht.mid hBV.lt;clear ht
   have hg:wm.grownBy w6 (Value.slice Aa (al2.set (c.gs.length-n) (y:Int)).length ca).ownBlock:=gcast hg0;clear hg0
   have hold:=hBV;replace hB4:=hB4.onlyM hO hold;replace hr_c:=hr_c.onlyM hO hold;replace ho:=ho.onlyM hO hold;replace hW:=tvv hW hO
   clear hold;have hown:=ho;replace hB4:=hB4.appT hown hg rfl;replace hr_c:=hr_c.appT hown hg rfl;replace hW:=tvr hW hg
   clear hown hg hO;clear ho;have ho:=hnew;clear hnew;replace hBV:=hbn;clear hbn;refine Ze (Xb rfl hg23 rfl) ?_;refine Zt hK22 fun a hf=>?_
   refine Xe hf rfl (fun hc24=>?_) (fun hc24=>?_)
   ·have hc24b:=hc24;have hg44:=hg23
    have hfin:layI c.gs t n al=true:=Xnb h0 hk12 (x:=y-1) (by omega) (by rw [tryL,hy1,← hSy,← hfe,decide_eq_true (eq_of_beq hg44),hc24];rfl)
    refine Zs hf fun _ hK25=>?_;refine Za rfl ?_;refine Zt hK25 fun a hf=>?_;refine wp_ret ?_;refine Xr ?_;refine X5 ?_;refine X5 ?_;refine Xr ?_;refine X5 ?_;refine X3 hf (Xq hf rfl rfl) ?_;exact ⟨by rw [hfin],⟨al3,ho,hl3,fun h9=>by rw [hfin] at h9;cases h9⟩,hBV,hW⟩
   have hc24b:=hc24;have hc51:=hc24
   have hfn:(List.range (y+1-1)).any (tryL c.gs t n al)=false:=by
    rw [show y+1-1=y-1+1 from by omega]
    refine X2b hF ?_
    rw [tryL,hy1,← hSy,hc51,Bool.and_false]
   refine wp_skip ?_;refine Xd ?_;refine hK20 _ _ ?_;refine Zr hf ?_;refine Zm rfl<|Ze (Xp rfl rfl (by omega) (by omega))<|Za rfl ?_;refine Zn fun a hf=>?_;refine Xc ?_;exact ⟨(y+1,al3),⟨hf.sub ⟨rfl,rfl,rfl,rfl,rfl,trivial⟩,(by omega),(by omega),(fun z=>by rw [hq3 hc51,List.set_set,hS]),hl3,hfn,hBV,hB4,hr_c,ho,hW⟩,(by first|omega|(dsimp only;omega))⟩
  refine Zp ⟨_,_,rfl,rfl,hg23⟩ ?_;refine Zp ⟨_,_,rfl,rfl,hg23⟩ ?_;refine Zp ⟨_,_,rfl,rfl,hg23⟩ ?_;refine Zp ⟨_,_,rfl,rfl,hg23⟩ ?_;refine Zp ⟨_,_,rfl,rfl,hg23⟩ ?_;refine Zp ⟨_,_,rfl,rfl,hg23⟩ ?_;refine Ze (X9 rfl hg23 rfl) ?_;refine Zt hK22 fun a hf=>?_;refine X6n hf rfl ?_;refine wp_skip ?_;refine Xd ?_;refine hK20 _ _ ?_;refine Zr hf ?_;refine Zm rfl<|Ze (Xp rfl rfl (by omega) (by omega))<|Za rfl ?_;refine Zn fun a hf=>?_;refine Xc ?_
  exact ⟨(y+1,(al2.set (c.gs.length-n) (y:Int))),⟨hf.sub ⟨rfl,rfl,rfl,rfl,rfl,trivial⟩,(by omega),(by omega),(fun z=>by rw [List.set_set,hS]),(by rw [List.length_set];exact hml),(by
   rw [show y+1-1=y-1+1 from by omega]
   refine X2b hF ?_
   rw [tryL,hy1,← hSy,← hfe]
   have:=hg23
   rw [beq_eq_false_iff_ne] at this
   rw [decide_eq_false this];rfl),hBV,hB4,hr_c,ho,hW⟩,(by first|omega|(dsimp only;omega))⟩
 have hc19b:=hc19;have hc19:=of_decide_eq_false hc19
 have hty:y-1=t:=by omega
 rw [hty] at hF
 have hfin:layI c.gs t n al=false:=Xlq h0 hk12 hF
 have hback:=Xj5 hS (by omega) hz0
 refine wp_exit ?_;refine Xf ?_;refine Xf ?_;refine Xy ?_;refine hK15 _ _ ?_;refine Zs hf fun _ hK26=>?_;refine Zm rfl<|Zm rfl<|Ze (X1m (k:=(c.gs.length-n)) rfl rfl Xg X0h ho (by omega) rfl (by omega)) ?_;refine Zo (X1l (enc:=encI) (l:=al2) (vs:=[vi 0]) (x0:=(al2.getD (c.gs.length-n) 0)) (u:=0) (k:=(c.gs.length-n)) (j:=0) (n1:=1) rfl rfl X0h ho X6 rfl rfl rfl rfl (by decide) (X1o (by omega)) rfl) ?_;rintro _ w7 ⟨hnew,hg⟩;have hown:=ho;replace hBV:=hBV.app hown hg;replace hB4:=hB4.appT hown hg rfl;replace hr_c:=hr_c.appT hown hg rfl;replace hW:=tvr hW hg
 clear hown hg;clear ho;have ho:=hnew;clear hnew;refine Zt hK26 fun a hf=>?_;refine Zs hf fun _ hK27=>?_;refine Za rfl ?_;refine Zt hK27 fun a hf=>?_
 refine wp_ret (X3 hf (Xq hf rfl rfl) ?_)
 rw [hback] at ho
 exact ⟨by rw [hfin],⟨al,ho,rfl,fun _=>rfl⟩,hBV,hW⟩
theorem Xly:∀ n,LaySt n:=fun n=>Nat.strongRecOn (motive:=LaySt) n fun n ih=>Xto n ih
theorem Xtz(w0:World)(k:Int) : Ret Tryz.prog 116 [vi k] w0 (fun v w=>v=.bool (k != 12)∧Below w0.heap.size w0 w):=by
 refine enter Tryz.func116 rfl 5 rfl rfl ?_;intro a hf
 have hW:Below w0.heap.size w0 w0:=Below.refl _ _
 refine Zs hf fun _ hK1=>?_;refine Za rfl ?_;refine Zt hK1 fun a hf=>?_;refine Zs hf fun _ hK2=>?_;refine Zm rfl<|Ze (X29 rfl rfl)<|Za rfl ?_;refine Zt hK2 fun a hf=>?_
 refine wp_ret (X3 hf (Xq hf rfl rfl) ?_)
 exact ⟨rfl,hW⟩
theorem Xti(w0:World)(c:Cx)(Ac:Option Addr)(cc:Nat)(hr_c:Rd w0 w0.heap.size 24 encG Ac c.gs)(kpp:FuncId)(ppp:List Value)(Fpp:FuncF Tryz.prog kpp)(pp:Int→Bool)(hpp:∀ x w,Below w0.heap.size w0 w→Ret Tryz.prog kpp ([vi x]++ppp) w (fun v w'=>v=.bool (pp x)∧Below w.heap.size w w'))(hln:c.gs.length≤2305843009213693951) : Ret Tryz.prog 115 [.agg #[vi c.n,.slice Ac c.gs.length cc],.func (.func kpp) #[] ppp.toArray] w0 (fun v w=>v=.tuple #[vi (if cOk c=true then ((cntP pp c.gs:Nat) : Int) else 0),.bool (cOk c)]∧Below w0.heap.size w0 w):=by
 refine enter Tryz.func115 rfl 27 rfl rfl ?_;intro a hf
 have hW:Below w0.heap.size w0 w0:=Below.refl _ _
 refine Zs hf fun _ hK2=>?_;refine Zf (X0p (zs:=[vi c.n,.slice Ac c.gs.length cc]) rfl rfl) ?_;rintro _ w1 ⟨b3,rfl,hl3,hE,hB3⟩;have hlo3:=Nat.le_trans hW.size hl3;replace hW:=btr hW hE;refine Za rfl<|Za rfl ?_;refine Zt hK2 fun a hf=>?_;refine wp_seq_k fun _ hK4=>?_;refine Zs hf fun _ hK5=>?_;refine Ze (Vn X0q hB3) ?_;refine Zf (Vc (F55 _ c Ac cc (hr_c.below' hW).top hln) Xd3) ?_;rintro _ w2 ⟨rfl,hE⟩;replace hB3:=hB3.below hE;replace hW:=btr hW hE;refine Ze (X16 rfl) ?_;refine Zt hK5 fun a hf=>?_
 refine Xe hf rfl (fun hc6=>?_) (fun hc6=>?_)
 ·have hc6b:=hc6
  have hcf:cOk c=false:=by revert hc6;cases cOk c<;>simp
  refine Zs hf fun _ hK7=>?_;refine Za rfl<|Za rfl ?_;refine Zt hK7 fun a hf=>?_;refine wp_ret ?_;refine X5 ?_;refine X3 hf (X15 hf rfl rfl rfl) ?_;exact ⟨by rw [hcf];rfl,hW⟩
 have hc6b:=hc6
 have hc:cOk c=true:=by revert hc6;cases cOk c<;>simp
 obtain ⟨hcn,hcl,hcg⟩:=X0x hc;refine wp_skip ?_;refine hK4 _ _ ?_;refine Zs hf fun _ hK8=>?_;refine Za rfl ?_;refine Zt hK8 fun a hf=>?_;refine wp_seq_k fun _ hK9=>?_;refine Zs hf fun _ hK10=>?_;refine Ze (Vd rfl X0k 1)<|Ze (X0 rfl X14 (hB3.at 1))<|Ze (X0y rfl X0c)<|Zm rfl ?_;refine Zt hK10 fun a hf=>?_;refine wp_block ?_;refine Xx (σ:=Nat×Int) (fun (s:Nat×Int) (a:Act) (w:World)=>match s with|(k,z)=>Fr a 27 [(1,.func (.func kpp) #[] ppp.toArray),(6,vi z),(13,.slice Ac c.gs.length cc),(14,vi (c.gs.length:Int)),(15,vi (k:Int))]∧(k≤c.gs.length)∧(z=((((c.gs.take k).filter fun g=>pp g.k).length:Nat) : Int))∧Below w0.heap.size w0 w) (fun (s:Nat×Int)=>match s with|(k,z)=>c.gs.length-k) (0,0) ?_ ?_
 ·exact ⟨hf.sub ⟨rfl,rfl,rfl,rfl,rfl,trivial⟩,(Nat.zero_le _),rfl,hW⟩
 rintro ⟨k,z⟩ a w3 ⟨hf,hk,hz,hW⟩;refine Zs hf fun _ hK11=>?_;refine Ze (X0l rfl rfl) ?_;refine Zt hK11 fun a hf=>?_;refine wp_seq_k fun _ hK12=>?_
 refine Xe hf rfl (fun hc13=>?_) (fun hc13=>?_)
 ·have hc13b:=hc13;have hc13:=of_decide_eq_true hc13
  obtain ⟨u14,hu14⟩:=Xl (l:=c.gs) (k:=k) (by omega)
  have hft:=Xj6 (p:=fun g=>pp g.k) hu14
  have hfl9:((c.gs.take k).filter fun g=>pp g.k).length≤k:=Nat.le_trans (List.length_filter_le _ _) (List.length_take_le _ _)
  refine wp_skip ?_;refine hK12 _ _ ?_;refine wp_seq_k fun _ hK15=>?_;refine wp_block ?_;refine Zs hf fun _ hK16=>?_;refine Zi (k:=k) (u:=u14) (enc:=encG) (l:=c.gs) trivial rfl rfl X0c X0g X0d (hr_c.below' hW) hu14 rfl ?_;intro p18 hat17;refine Ze (X09 (l:=[vi u14.k,vi u14.a,vi u14.b]) rfl Xt hat17 rfl) ?_;refine Zf (Xa (zs:=[vi 0,vi 0,vi 0]) X32 rfl) ?_;rintro _ w4 ⟨b19,rfl,hl19,hE,hB19⟩;have hlo19:=Nat.le_trans hW.size hl19;have haw1_19:=(hr_c.below' hW).away hl19;replace hW:=btr hW hE;refine Zo (Vw [vi u14.k,vi u14.a,vi u14.b] X0g hB19) ?_;rintro _ w5 ⟨ho,hb⟩;have hold:=hB19;replace hW:=Below.only hW ho hlo19;clear hold;have hB19:=hb;clear hb ho;refine Zt hK16 fun a hf=>?_;refine Zs hf fun _ hK20=>?_;refine Zm rfl<|Ze (Vd rfl X0i 0)<|Ze (X0 rfl X4 (hB19.at 0)) ?_;refine Zf (X37 (cs:=ppp) (vs:=[vi u14.k]) rfl rfl Fpp (hpp u14.k _ hW)) ?_;rintro _ w6 ⟨rfl,hE⟩;replace hB19:=hB19.below hE;replace hW:=btr hW hE;refine Zt hK20 fun a hf=>?_
  refine Xe hf rfl (fun hc21=>?_) (fun hc21=>?_)
  ·have hc21b:=hc21
   rw [if_pos hc21] at hft
   refine Zr hf ?_;refine Zm rfl<|Ze (Xp rfl rfl (by omega) (by omega))<|Za rfl ?_;refine Zn fun a hf=>?_;refine Xd ?_;refine hK15 _ _ ?_;refine Zr hf ?_;refine Ze (Xp rfl rfl (by omega) (by omega))<|Zm rfl ?_;refine Zn fun a hf=>?_;refine Xc ?_;exact ⟨(k+1,z+1),⟨hf.sub ⟨rfl,rfl,rfl,rfl,rfl,trivial⟩,(by omega),(by rw [hft];simp only [List.length_append,List.length_cons,List.length_nil];omega),hW⟩,(by first|omega|(dsimp only;omega))⟩
  have hc21b:=hc21
  rw [if_neg (by rw [hc21];simp),List.append_nil] at hft
  refine wp_skip ?_;refine Xd ?_;refine hK15 _ _ ?_;refine Zr hf ?_;refine Ze (Xp rfl rfl (by omega) (by omega))<|Zm rfl ?_;refine Zn fun a hf=>?_;refine Xc ?_;exact ⟨(k+1,z),⟨hf.sub ⟨rfl,rfl,rfl,rfl,rfl,trivial⟩,(by omega),(by rw [hft];exact hz),hW⟩,(by first|omega|(dsimp only;omega))⟩
 have hc13b:=hc13;have hc13:=of_decide_eq_false hc13
 have hfin:z=((cntP pp c.gs:Nat) : Int):=by rw [hz,List.take_of_length_le (by omega)];rfl
 refine wp_exit ?_;refine Xf ?_;refine Xf ?_;refine Xy ?_;refine hK9 _ _ ?_;refine Zs hf fun _ hK22=>?_;refine Zm rfl<|Za rfl<|Za rfl ?_;refine Zt hK22 fun a hf=>?_
 refine wp_ret (X3 hf (X15 hf rfl rfl rfl) ?_)
 exact ⟨by rw [if_pos hc,hc,hfin],hW⟩
theorem Xiv{n:Nat}(j:Nat) : (List.replicate n (0:Int)).getD j 0=0:=by
 rw [List.getD_eq_getElem?_getD,List.getElem?_replicate]
 split<;>rfl
theorem Xu4(w0:World)(c:Cx)(Ac:Option Addr)(cc:Nat)(hr_c:Rd w0 w0.heap.size 24 encG Ac c.gs)(hln:c.gs.length≤2305843009213693951) : Ret Tryz.prog 44 [.agg #[vi c.n,.slice Ac c.gs.length cc]] w0 (fun v w=>v=.tuple #[vi (llI c),.bool (llB c)]∧Below w0.heap.size w0 w):=by
 refine enter Tryz.func44 rfl 32 rfl rfl ?_;intro a hf
 have hW:Below w0.heap.size w0 w0:=Below.refl _ _
 refine Zs hf fun _ hK2=>?_;refine Zf (X0p (zs:=[vi c.n,.slice Ac c.gs.length cc]) rfl rfl) ?_;rintro _ w1 ⟨b3,rfl,hl3,hE,hB3⟩;have hlo3:=Nat.le_trans hW.size hl3;replace hW:=btr hW hE;refine Za rfl<|Za rfl ?_;refine Zt hK2 fun a hf=>?_;refine Zs hf fun _ hK4=>?_;refine Ze (Vn X0q hB3) ?_;refine Zf (Vc (Xti _ c Ac cc (hr_c.below' hW).top 116 [] Xo7 (fun k=>k != 12) (fun x w' _=>Xtz w' x) hln) Xnq) ?_;rintro _ w2 ⟨rfl,hE⟩;replace hB3:=hB3.below hE;replace hW:=btr hW hE;refine Zm rfl<|Ze (X8 (vs:=[vi (if cOk c=true then ((cntP (fun k=>k != 12) c.gs:Nat) : Int) else 0),.bool (cOk c)]) rfl rfl)<|Ze (X8 (vs:=[vi (if cOk c=true then ((cntP (fun k=>k != 12) c.gs:Nat) : Int) else 0),.bool (cOk c)]) rfl rfl)<|Za rfl<|Za rfl ?_;refine Zt hK4 fun a hf=>?_;refine wp_seq_k fun _ hK5=>?_;refine wp_seq_k fun _ hK6=>?_;refine X08 (fun a w=>Fr a 32 [(1,.pointer (some ⟨b3,0,none⟩)),(18,.bool ((!(cOk c))||(decide (8<(if cOk c=true then ((cntP (fun k=>k != 12) c.gs:Nat) : Int) else 0)))))]∧w2=w) ?_ ?_
 ·refine Zr hf ?_;refine Zm rfl<|Ze (X16 rfl)<|Zm rfl ?_
  refine Zg 15 rfl (fun hg7=>?_) (fun hg7=>?_)
  ·refine Zp ⟨_,_,rfl,rfl,hg7⟩ ?_;refine Zp ⟨_,_,rfl,rfl,hg7⟩ ?_;refine Ze (Xb rfl hg7 rfl) ?_;refine Zn fun a hf=>?_;exact ⟨hf.sub ⟨rfl,X1 rfl (by first|rfl|(simp only [hg7,bs];done)|simp [hg7]),trivial⟩,rfl⟩
  refine Zv ⟨_,_,rfl,rfl,hg7⟩ (X2 rfl) ?_;refine Zv ⟨_,_,rfl,rfl,hg7⟩ (X3e rfl rfl) ?_;refine Ze (X9 rfl hg7 rfl) ?_;refine Zn fun a hf=>?_;exact ⟨hf.sub ⟨rfl,X1 rfl (by first|rfl|(simp only [hg7,bs];done)|simp [hg7]),trivial⟩,rfl⟩
 rintro a _ ⟨hf,rfl⟩;refine hK6 _ _ ?_
 refine Xe hf rfl (fun hc8=>?_) (fun hc8=>?_)
 ·have hc8b:=hc8
  have hlb:llB c=false:=by
   rw [llB,← Xet]
   cases hco:cOk c
   ·rfl
   ·rw [hco] at hc8
    have h9:(8:Int)<((cntP (fun k=>k != 12) c.gs:Nat) : Int):=by simpa using hc8
    rw [decide_eq_false (by omega)];rfl
  have hli:llI c=0:=by rw [llI,hlb];rfl
  refine Zs hf fun _ hK9=>?_;refine Za rfl<|Za rfl ?_;refine Zt hK9 fun a hf=>?_;refine wp_ret ?_;refine X5 ?_;refine X3 hf (X15 hf rfl rfl rfl) ?_;exact ⟨by rw [hli,hlb],hW⟩
 have hc8b:=hc8
 have hlc:cOk c=true∧llB c=true:=by
  rw [llB,← Xet]
  cases hco:cOk c
  ·rw [hco] at hc8;simp at hc8
  ·rw [hco] at hc8
   have h9:¬ (8:Int)<((cntP (fun k=>k != 12) c.gs:Nat) : Int):=by simpa using hc8
   rw [decide_eq_true (by omega)];exact ⟨rfl,rfl⟩
 obtain ⟨hc,hlb⟩:=hlc
 have hli:llI c=(leastL c.gs:Int):=by rw [llI,if_pos hlb]
 obtain ⟨hcn,hcl,hcg⟩:=X0x hc;obtain ⟨hls1,hls2,hls3⟩:=X80 hcl;refine wp_skip ?_;refine hK5 _ _ ?_;refine Zs hf fun _ hK10=>?_;refine Ze (Vn X0q hB3) ?_;refine Zf (X2y) ?_;rintro _ w3 ⟨b11,rfl,hl11,hE,hB11⟩;have hlo11:=Nat.le_trans hW.size hl11;replace hB3:=hB3.below hE;replace hW:=btr hW hE;refine Ze (Xz (ps:=[(0,.agg #[vi c.n,.slice Ac c.gs.length cc]),(1,.map (some b11))]) (cs:=[vi c.n,.slice Ac c.gs.length cc,.map (some b11)]) rfl (fun _=>by first|rfl|kernel_rfl)) ?_;refine Zf (Xa (zs:=[vi 0,.slice none 0 0,.map none]) X85 rfl) ?_;rintro _ w4 ⟨b14,rfl,hl14,hE,hB14⟩;have hlo14:=Nat.le_trans hW.size hl14;replace hB3:=hB3.below hE;replace hB11:=hB11.below hE;replace hW:=btr hW hE;refine Zo (Vw [vi c.n,.slice Ac c.gs.length cc,.map (some b11)] X9l hB14) ?_;rintro _ w5 ⟨ho,hb⟩;have hold:=hB14;replace hB3:=hB3.only ho (Blk.ne hB3 hold rfl);replace hB11:=hB11.only ho (hB11.ne hold);replace hW:=Below.only hW ho hlo14;clear hold;have hB14:=hb;clear hb ho;refine Zt hK10 fun a hf=>?_;refine Zs hf fun _ hK15=>?_;refine Za rfl ?_;refine Zt hK15 fun a hf=>?_;refine wp_block ?_;refine Xx (σ:=Nat) (fun (k:Nat) (a:Act) (w:World)=>Fr a 32 [(1,.pointer (some ⟨b3,0,none⟩)),(6,.pointer (some ⟨b14,0,none⟩)),(7,vi (k:Int))]∧(k≤leastL c.gs)∧Blk w b3 31 [vi c.n,.slice Ac c.gs.length cc]∧MemoG w b11∧Blk w b14 127 [vi c.n,.slice Ac c.gs.length cc,.map (some b11)]∧Below w0.heap.size w0 w) (fun (k:Nat)=>leastL c.gs-k) 0 ?_ ?_
 ·exact ⟨hf.sub ⟨rfl,rfl,rfl,trivial⟩,(Nat.zero_le _),hB3,hB11,hB14,hW⟩
 rintro k a w6 ⟨hf,hk,hB3,hB11,hB14,hW⟩;refine wp_seq_k fun _ hK16=>?_;refine wp_block ?_;refine wp_seq_k fun _ hK17=>?_;refine X05 (some b11) (fun j=>[6].contains j) mixed ?_;intro w7 hE;replace hB3:=hB3.below hE;replace hB11:=hB11.below hE;replace hB14:=hB14.below hE;replace hW:=btr hW hE;refine Yb hf ?_;refine Yw 0 rfl trivial (fun w1 h1=>X09 (l:=[vi c.n,.slice Ac c.gs.length cc,.map (some b11)]) rfl X4v ((hB14.onlyM h1 hB11).at 0) rfl) ?_;refine Yo 1 rfl (fun _=>X2 rfl)<|Yo 2 rfl (fun _=>Vd rfl X0k 1) ?_;refine Yw 3 rfl trivial (fun w1 h1=>X0 rfl X14 ((hB3.onlyM h1 hB11).at 1)) ?_;refine Yo 4 rfl (fun _=>X0y rfl X0c) ?_;refine Y1 5 ?_;refine Yf rfl trivial (EfW.mono (X21 (m:=c.gs.length) (enc:=encI) (z0:=0) rfl rfl Xg X19 z_3 rfl X6 (by omega) (by omega)) (fun _ _ h=>⟨fun _=>by obtain ⟨_,_,_,hE,_⟩:=h;exact Keep.of_below hE,h⟩)) ?_;rintro _ w8 ⟨b18,rfl,hl18,hE,hB18⟩;have hlo18:=Nat.le_trans hW.size hl18;replace hB3:=hB3.below hE;replace hB11:=hB11.below hE;replace hB14:=hB14.below hE;replace hW:=btr hW hE;refine Y1 6 ?_;refine Yt rfl trivial rfl (X1z (vs:=[.agg #[vi c.n,.slice Ac c.gs.length cc,.map (some b11)],vi 0,vi (k:Int),.slice (some ⟨b18,0,none⟩) c.gs.length c.gs.length]) rfl Xch (by have hq:=Xly c.gs.length _ b11 hB11 c Ac cc (hr_c.below' hW).top hc w0.heap.size (some ⟨b18,0,none⟩) c.gs.length (List.replicate c.gs.length 0) (Own.of_flat X6 hB18 hlo18 (by simp) (by simp only [maxLen];omega)) (by simp) (fun j _=>Xiv j) (Nat.le_refl _) k (by omega) 0 (by omega);rw [List.length_replicate] at hq;exact hq)) ?_;rintro _ w9 ⟨rfl,⟨al3,hnew,hl3,hq3⟩,hbn,ht⟩;obtain ⟨wm,hO,hg0⟩:=ht.mid hB11.lt;clear ht
 have hg:wm.grownBy w9 (Value.slice (some ⟨b18,0,none⟩) (List.replicate c.gs.length 0).length c.gs.length).ownBlock:=gcast hg0;clear hg0
 have hown:Own w8 w0.heap.size 3 1 encI (some ⟨b18,0,none⟩) c.gs.length (List.replicate c.gs.length 0):=(Own.of_flat X6 hB18 hlo18 (by simp) (by simp only [maxLen];omega))
 have hold:=hB11;replace hB3:=hB3.onlyM hO hold;replace hB14:=hB14.onlyM hO hold;replace hW:=Below.only hW hO hlo11
 replace hown:=hown.onlyM hO hold;clear hold;replace hB3:=hB3.appT hown hg rfl;replace hB14:=hB14.appT hown hg rfl;replace hW:=Below.app hW hown hg (Nat.le_refl _) hW.size
 clear hown hg hO;replace hB11:=hbn;clear hbn;refine Yd fun a hf=>?_;refine hK17 _ _ ?_
 refine Xe hf rfl (fun hc20=>?_) (fun hc20=>?_)
 ·have hc20b:=hc20
  have hke:k=leastL c.gs:=Nat.le_antisymm hk (Nat.le_of_not_lt fun h9=>by have h8:=hls3 k h9;rw [zerosL,hc20] at h8;cases h8)
  refine Zs hf fun _ hK21=>?_;refine Zm rfl<|Za rfl<|Za rfl ?_;refine Zt hK21 fun a hf=>?_;refine wp_ret ?_;refine Xr ?_;refine X5 ?_;refine X5 ?_;refine Xr ?_;refine X3 hf (X15 hf rfl rfl rfl) ?_;exact ⟨by rw [hli,hlb,hke],hW⟩
 have hc20b:=hc20
 have hkl:k<leastL c.gs:=Nat.lt_of_le_of_ne hk fun h9=>by have h8:=hls2;rw [← h9,zerosL,hc20] at h8;cases h8
 refine wp_skip ?_;refine Xd ?_;refine hK16 _ _ ?_;refine Zr hf ?_;refine Zm rfl<|Ze (Xp rfl rfl (by omega) (by omega))<|Za rfl ?_;refine Zn fun a hf=>?_;refine Xc ?_;exact ⟨k+1,⟨hf.sub ⟨rfl,rfl,rfl,trivial⟩,(by omega),hB3,hB11,hB14,hW⟩,(by omega)⟩
end Go.Proofs.YtlfjcmldfbfdbaaGreat
namespace Go.Proofs.YtlfjcmldfbfdbaaGreat
instance:_root_.Add Rg:=⟨fun x y=>⟨x.a+y.a,x.b+y.b,x.c+y.c,x.d+y.d⟩⟩
instance:_root_.Mul Rg:=⟨fun x y=>⟨x.a*y.a-x.b*y.d-x.c*y.c-x.d*y.b,x.a*y.b+x.b*y.a-x.c*y.d-x.d*y.c,x.a*y.c+x.b*y.b+x.c*y.a-x.d*y.d,x.a*y.d+x.b*y.c+x.c*y.b+x.d*y.a⟩⟩
instance:_root_.Neg Rg:=⟨fun x=>⟨-x.a,-x.b,-x.c,-x.d⟩⟩
instance:_root_.Sub Rg:=⟨fun x y=>⟨x.a-y.a,x.b-y.b,x.c-y.c,x.d-y.d⟩⟩
instance:NatCast Rg:=⟨fun n=>⟨n,0,0,0⟩⟩
instance:IntCast Rg:=⟨fun n=>⟨n,0,0,0⟩⟩
instance (n:Nat) : OfNat Rg n:=⟨⟨n,0,0,0⟩⟩
def rgPow(x:Rg) : Nat→Rg
 | 0=>1
 | n+1=>rgPow x n*x
instance:HPow Rg Nat Rg:=⟨rgPow⟩
instance:SMul Nat Rg:=⟨fun n x=>(n:Rg)*x⟩
instance:SMul Int Rg:=⟨fun n x=>(n:Rg)*x⟩
theorem X2r{x y:Rg}(h1:x.a=y.a)(h2:x.b=y.b)(h3:x.c=y.c)(h4:x.d=y.d) : x=y:=by
 obtain ⟨x1,x2,x3,x4⟩:=x;obtain ⟨y1,y2,y3,y4⟩:=y
 simp only at h1 h2 h3 h4
 subst h1 h2 h3 h4
 rfl
theorem Xkp(x y:Rg) : (x+y).a=x.a+y.a:=rfl
theorem Xj0(x y:Rg) : (x+y).b=x.b+y.b:=rfl
theorem Xjl(x y:Rg) : (x+y).c=x.c+y.c:=rfl
theorem Xlx(x y:Rg) : (x+y).d=x.d+y.d:=rfl
theorem X8c(x y:Rg) : (x*y).a=x.a*y.a-x.b*y.d-x.c*y.c-x.d*y.b:=rfl
theorem X87(x y:Rg) : (x*y).b=x.a*y.b+x.b*y.a-x.c*y.d-x.d*y.c:=rfl
theorem X8a(x y:Rg) : (x*y).c=x.a*y.c+x.b*y.b+x.c*y.a-x.d*y.d:=rfl
theorem X82(x y:Rg) : (x*y).d=x.a*y.d+x.b*y.c+x.c*y.b+x.d*y.a:=rfl
theorem X02(a:Rg) : a+0=a:=X2r (Int.add_zero _) (Int.add_zero _) (Int.add_zero _) (Int.add_zero _)
theorem X03(a:Rg) : a*1=a:=by
 have e1:(1:Rg).a=1:=rfl
 have e2:(1:Rg).b=0:=rfl
 have e3:(1:Rg).c=0:=rfl
 have e4:(1:Rg).d=0:=rfl
 apply X2r<;>simp only [X8c,X87,X8a,X82,e1,e2,e3,e4]<;>grind
theorem Xs(a:Rg) : 0*a=0:=by
 have e1:(0:Rg).a=0:=rfl
 have e2:(0:Rg).b=0:=rfl
 have e3:(0:Rg).c=0:=rfl
 have e4:(0:Rg).d=0:=rfl
 apply X2r<;>simp only [X8c,X87,X8a,X82,e1,e2,e3,e4]<;>grind
theorem Xu(a b:Rg) : a*b=b*a:=by (apply X2r<;>simp only [Xkp,Xj0,Xjl,Xlx,X8c,X87,X8a,X82]<;>grind)
theorem X07(a b c:Rg) : a*(b+c)=a*b+a*c:=by (apply X2r<;>simp only [Xkp,Xj0,Xjl,Xlx,X8c,X87,X8a,X82]<;>grind)
theorem X01(a b:Rg) : a+b=b+a:=X2r (Int.add_comm _ _) (Int.add_comm _ _) (Int.add_comm _ _) (Int.add_comm _ _)
theorem Xv(a b c:Rg) : a+b+c=a+(b+c):=X2r (Int.add_assoc _ _ _) (Int.add_assoc _ _ _) (Int.add_assoc _ _ _) (Int.add_assoc _ _ _)
theorem Xh(a b c:Rg) : a*b*c=a*(b*c):=by (apply X2r<;>simp only [Xkp,Xj0,Xjl,Xlx,X8c,X87,X8a,X82]<;>grind)
theorem Xn(a:Rg) : 1*a=a:=by rw [Xu,X03]
theorem X00(a:Rg) : a*0=0:=by rw [Xu,Xs]
theorem X06(a:Rg) : 0+a=a:=by rw [X01,X02]
theorem X0b(a b c:Rg) : (a+b)*c=a*c+b*c:=by rw [Xu,X07,Xu c a,Xu c b]
theorem Xi(a b c:Rg) : a*(b*c)=b*(a*c):=by rw [← Xh,← Xh,Xu a b]
theorem Xj(a b c:Rg) : a+(b+c)=b+(a+c):=by rw [← Xv,← Xv,X01 a b]
def s2:Rg:=⟨0,1,0,-1⟩
def om:Rg:=⟨0,1,0,0⟩
theorem Xux:s2*s2=2:=by decide
theorem Xfr{x y:Rg}(h:2*x=2*y) : x=y:=by
 have e1:(2:Rg).a=2:=rfl
 have e2:(2:Rg).b=0:=rfl
 have e3:(2:Rg).c=0:=rfl
 have e4:(2:Rg).d=0:=rfl
 have h1:=congrArg Rg.a h;have h2:=congrArg Rg.b h;have h3:=congrArg Rg.c h;have h4:=congrArg Rg.d h
 simp only [X8c,X87,X8a,X82,e1,e2,e3,e4] at h1 h2 h3 h4
 apply X2r<;>omega
theorem Xhh{x y:Rg}(h:s2*x=s2*y) : x=y:=by
 apply Xfr
 rw [← Xux,Xh,Xh,h]
theorem X3a:∀ (m:Nat) {x y:Rg},s2^m*x=s2^m*y→x=y
 | 0,x,y,h=>by
  have e:s2^0=1:=rfl
  rwa [e,Xn,Xn] at h
 | m+1,x,y,h=>by
  have e:s2^(m+1)=s2^m*s2:=rfl
  rw [e] at h
  refine Xhh (X3a m ?_)
  rw [← Xh,← Xh]
  exact h
theorem X2n(x:Rg)(m n:Nat) : x^(m+n)=x^m*x^n:=by
 induction n with
 | zero=>show _=_*(1:Rg);rw [X03];rfl
 | succ n ih=>
  have e1:x^(m+(n+1))=x^(m+n)*x:=rfl
  have e2:x^(n+1)=x^n*x:=rfl
  rw [e1,e2,ih]
  exact Xh _ _ _
theorem Xhc{x y:Rg}(hx:rOk x=true)(hy:rOk y=true) : rAdd x y=x+y:=by
 have h1:=X28.1 hx;have h2:=X28.1 hy
 refine X2r ?_ ?_ ?_ ?_<;>exact X0f (by omega) (by omega)
theorem X1w{p q:Int}(h1:-1000000000≤p∧p≤1000000000)(h2:-1000000000≤q∧q≤1000000000) : -1000000000000000000≤p*q∧p*q≤1000000000000000000:=by
 have h:(p*q).natAbs≤1000000000*1000000000:=by
  rw [Int.natAbs_mul]
  exact Nat.mul_le_mul (by omega) (by omega)
 omega
theorem Xs3{p q r t:Int}(h1:-1000000000000000000≤p∧p≤1000000000000000000)(h2:-1000000000000000000≤q∧q≤1000000000000000000)(h3:-1000000000000000000≤r∧r≤1000000000000000000)(h4:-1000000000000000000≤t∧t≤1000000000000000000) :
  wr (wr (wr (wr p-wr q)-wr r)-wr t)=p-q-r-t:=by
 have e1:wr p=p:=X0f (by omega) (by omega)
 have e2:wr q=q:=X0f (by omega) (by omega)
 have e3:wr r=r:=X0f (by omega) (by omega)
 have e4:wr t=t:=X0f (by omega) (by omega)
 have e5:wr (p-q)=p-q:=X0f (by omega) (by omega)
 have e6:wr (p-q-r)=p-q-r:=X0f (by omega) (by omega)
 rw [e1,e2,e3,e4,e5,e6]
 exact X0f (by omega) (by omega)
theorem Xs9{p q r t:Int}(h1:-1000000000000000000≤p∧p≤1000000000000000000)(h2:-1000000000000000000≤q∧q≤1000000000000000000)(h3:-1000000000000000000≤r∧r≤1000000000000000000)(h4:-1000000000000000000≤t∧t≤1000000000000000000) :
  wr (wr (wr (wr p+wr q)-wr r)-wr t)=p+q-r-t:=by
 have e1:wr p=p:=X0f (by omega) (by omega)
 have e2:wr q=q:=X0f (by omega) (by omega)
 have e3:wr r=r:=X0f (by omega) (by omega)
 have e4:wr t=t:=X0f (by omega) (by omega)
 have e5:wr (p+q)=p+q:=X0f (by omega) (by omega)
 have e6:wr (p+q-r)=p+q-r:=X0f (by omega) (by omega)
 rw [e1,e2,e3,e4,e5,e6]
 exact X0f (by omega) (by omega)
theorem Xq3{p q r t:Int}(h1:-1000000000000000000≤p∧p≤1000000000000000000)(h2:-1000000000000000000≤q∧q≤1000000000000000000)(h3:-1000000000000000000≤r∧r≤1000000000000000000)(h4:-1000000000000000000≤t∧t≤1000000000000000000) :
  wr (wr (wr (wr p+wr q)+wr r)-wr t)=p+q+r-t:=by
 have e1:wr p=p:=X0f (by omega) (by omega)
 have e2:wr q=q:=X0f (by omega) (by omega)
 have e3:wr r=r:=X0f (by omega) (by omega)
 have e4:wr t=t:=X0f (by omega) (by omega)
 have e5:wr (p+q)=p+q:=X0f (by omega) (by omega)
 have e6:wr (p+q+r)=p+q+r:=X0f (by omega) (by omega)
 rw [e1,e2,e3,e4,e5,e6]
 exact X0f (by omega) (by omega)
theorem Xs5{p q r t:Int}(h1:-1000000000000000000≤p∧p≤1000000000000000000)(h2:-1000000000000000000≤q∧q≤1000000000000000000)(h3:-1000000000000000000≤r∧r≤1000000000000000000)(h4:-1000000000000000000≤t∧t≤1000000000000000000) :
  wr (wr (wr (wr p+wr q)+wr r)+wr t)=p+q+r+t:=by
 have e1:wr p=p:=X0f (by omega) (by omega)
 have e2:wr q=q:=X0f (by omega) (by omega)
 have e3:wr r=r:=X0f (by omega) (by omega)
 have e4:wr t=t:=X0f (by omega) (by omega)
 have e5:wr (p+q)=p+q:=X0f (by omega) (by omega)
 have e6:wr (p+q+r)=p+q+r:=X0f (by omega) (by omega)
 rw [e1,e2,e3,e4,e5,e6]
 exact X0f (by omega) (by omega)
theorem Xgc{x y:Rg}(hx:rOk x=true)(hy:rOk y=true) : rMul x y=x*y:=by
 obtain ⟨a1,a2,a3,a4⟩:=X28.1 hx;obtain ⟨b1,b2,b3,b4⟩:=X28.1 hy
 have p11:=X1w a1 b1
 have p12:=X1w a1 b2
 have p13:=X1w a1 b3
 have p14:=X1w a1 b4
 have p21:=X1w a2 b1
 have p22:=X1w a2 b2
 have p23:=X1w a2 b3
 have p24:=X1w a2 b4
 have p31:=X1w a3 b1
 have p32:=X1w a3 b2
 have p33:=X1w a3 b3
 have p34:=X1w a3 b4
 have p41:=X1w a4 b1
 have p42:=X1w a4 b2
 have p43:=X1w a4 b3
 have p44:=X1w a4 b4
 unfold rMul
 refine X2r ?_ ?_ ?_ ?_
 ·exact Xs3 p11 p24 p33 p42
 ·exact Xs9 p12 p21 p34 p43
 ·exact Xq3 p13 p22 p31 p44
 ·exact Xs5 p14 p23 p32 p41
theorem X98(x:Rg) : s2*x=⟨x.b-x.d,x.a+x.c,x.b+x.d,x.c-x.a⟩:=by
 have e1:s2.a=0:=rfl
 have e2:s2.b=1:=rfl
 have e3:s2.c=0:=rfl
 have e4:s2.d = -1:=rfl
 refine X2r ?_ ?_ ?_ ?_<;>simp only [X8c,X87,X8a,X82,e1,e2,e3,e4]<;>grind
theorem X99{x:Rg}(hx:rOk x=true) : rRoot x=s2*x:=by
 have h1:=X28.1 hx
 rw [X98]
 refine X2r ?_ ?_ ?_ ?_<;>exact X0f (by omega) (by omega)
theorem Xj4{x:Rg}(hx:rOk x=true)(he:rEven x=true) : s2*rHalf x=x:=by
 have h1:=X28.1 hx;have h2:=(X5o hx).1 he
 have e:=X99 hx
 rw [X98] at e
 have hh:rHalf x=⟨(x.b-x.d)/2,(x.a+x.c)/2,(x.b+x.d)/2,(x.c-x.a)/2⟩:=by
  unfold rHalf
  rw [e]
  dsimp only
  rw [Int.tdiv_eq_ediv_of_dvd (by omega),Int.tdiv_eq_ediv_of_dvd (by omega),Int.tdiv_eq_ediv_of_dvd (by omega),Int.tdiv_eq_ediv_of_dvd (by omega)]
  rw [X0f (by omega) (by omega),X0f (by omega) (by omega),X0f (by omega) (by omega),X0f (by omega) (by omega)]
 rw [X98,hh]
 refine X2r ?_ ?_ ?_ ?_<;>dsimp only<;>omega
theorem Xk3{x y:Rg}(hx:rOk x=true)(h:x=s2*y) : rEven x=true:=by
 rw [X5o hx]
 rw [h,X98]
 dsimp only
 omega
theorem X9y(x:Rg)(n:Nat) : x^(n+1)=x^n*x:=rfl
theorem X4x(x:Rg) : x^0=1:=rfl
def V(x:Dy)(m:Nat)(z:Rg) : Prop:=0≤x.exp∧∃ k:Nat,x.exp+k=m∧z=s2^k*x.num
theorem Xou:∀ (m:Nat) (x:Rg),rOk x=true→V (dLow x m) m x
 | 0,x,h=>by
  rw [X23 (by omega)]
  refine ⟨by dsimp only;omega,0,by dsimp only;omega,?_⟩
  rw [X4x];exact (Xn _).symm
 | m+1,x,h=>by
  by_cases he:rEven x=true
  ·rw [X49 (by omega) he,show ((m+1:Nat) : Int)-1=(m:Int) from by omega]
   obtain ⟨h0,k,h1,h2⟩:=Xou m _ (X75 h)
   refine ⟨h0,k+1,by omega,?_⟩
   have e:=Xj4 h he
   rw [h2] at e
   rw [X9y]
   refine e.symm.trans ?_
   simp only [Xs,X00,Xn,X03,X02,X06,X07,X0b,Xh,Xi,Xu,Xv,Xj,X01]
  ·have he':rEven x=false:=by simpa using he
   rw [X23 fun _=>he']
   refine ⟨by dsimp only;omega,0,by dsimp only;omega,?_⟩
   rw [X4x];exact (Xn _).symm
theorem Xr5{x:Rg}{e:Int}(h:rOk x=true)(h0:0≤e) : V (dLow x e) e.toNat x:=by
 obtain ⟨m,rfl⟩ : ∃ m:Nat,e=m:=⟨e.toNat,by omega⟩
 exact Xou m x h
theorem V.up{x:Dy}{m:Nat}{z:Rg}(h:V x m z)(k:Nat) : V x (m+k) (s2^k*z):=by
 obtain ⟨h0,j,h1,h2⟩:=h
 refine ⟨h0,j+k,by omega,?_⟩
 rw [X2n,h2]
 simp only [Xs,X00,Xn,X03,X02,X06,X07,X0b,Xh,Xi,Xu,Xv,Xj,X01]
theorem V.fun{x:Dy}{m:Nat}{z z':Rg}(h:V x m z)(h':V x m z') : z=z':=by
 obtain ⟨_,k,h1,h2⟩:=h;obtain ⟨_,j,h3,h4⟩:=h'
 obtain rfl:j=k:=by omega
 rw [h2,h4]
theorem V.cross{x:Dy}{m m':Nat}{z z':Rg}(h:V x m z)(h':V x m' z') : s2^m'*z=s2^m*z':=by
 have e1:=h.up m'
 have e2:=h'.up m
 rw [Nat.add_comm m' m] at e2
 exact e1.fun e2
theorem Xpk{x:Rg}{e:Int}{w:Dy}(h:dOf x e=some w) : V w e.toNat x∧dOk w=true:=by
 unfold dOf at h
 split at h
 ·rename_i h1
  simp only [Bool.and_eq_true,Xo] at h1
  injection h with h
  subst h
  exact ⟨Xr5 h1.1 h1.2.1,X77 h1.1 h1.2.1 h1.2.2⟩
 ·cases h
theorem X2t{x:Dy}(h:dOk x=true) : rOk x.num=true∧(0≤x.exp∧x.exp≤60):=⟨(X1t.1 h).1,(X1t.1 h).2.1⟩
theorem Xp4{x y w:Dy}{m n:Nat}{z z':Rg}(h:dMulI x y=some w)(hx:V x m z)(hy:V y n z') : V w (m+n) (z*z')∧dOk w=true:=by
 unfold dMulI at h
 split at h
 ·rename_i h1
  simp only [Bool.and_eq_true] at h1
  obtain ⟨⟨h1,h2⟩,h3⟩:=h1
  have k1:=X2t h1
  have k2:=X2t h2
  rw [rIf1,if_pos h3] at h
  have hv:=Xpk h
  refine ⟨?_,hv.2⟩
  rw [Xgc k1.1 k2.1] at hv
  obtain ⟨_,j,h4,h5⟩:=hx;obtain ⟨_,l,h6,h7⟩:=hy
  have e:=hv.1.up (j+l)
  rw [show (x.exp+y.exp).toNat+(j+l)=m+n from by omega,X2n] at e
  rw [h5,h7]
  have e2:s2^j*x.num*(s2^l*y.num)=s2^j*s2^l*(x.num*y.num):=by simp only [Xs,X00,Xn,X03,X02,X06,X07,X0b,Xh,Xi,Xu,Xv,Xj,X01]
  rw [e2]
  exact e
 ·cases h
theorem X53:∀ (n:Nat) (y:Rg),rOk y=true→(raiseI n y).2=true→(raiseI n y).1=s2^n*y∧rOk (raiseI n y).1=true
 | 0,y,h,_=>⟨by rw [X4x];show y=_;exact (Xn _).symm,h⟩
 | n+1,y,h,h2=>by
  rw [raiseI] at h2 ⊢
  rw [X5q h] at h2 ⊢
  by_cases hr:rOk (rRoot y)=true
  ·rw [if_pos hr] at h2 ⊢
   obtain ⟨e1,e2⟩:=X53 n _ hr h2
   refine ⟨?_,e2⟩
   rw [e1,X99 h,X9y]
   exact (Xh _ _ _).symm
  ·rw [if_neg hr] at h2
   cases h2
theorem Xov{x y w:Dy}{m:Nat}{z z':Rg}(h:dAddI x y=some w)(hx:V x m z)(hy:V y m z') : V w m (z+z')∧dOk w=true:=by
 unfold dAddI at h
 split at h
 ·rename_i h1
  simp only [Bool.and_eq_true] at h1
  obtain ⟨h1,h2⟩:=h1
  have k1:=X2t h1
  have k2:=X2t h2
  split at h
  ·rename_i h3
   simp only [Bool.and_eq_true] at h3
   obtain ⟨⟨h3,h4⟩,h5⟩:=h3
   have r1:=X53 _ _ k1.1 h3
   have r2:=X53 _ _ k2.1 h4
   rw [rIf1,if_pos h5] at h
   have hv:=Xpk h
   refine ⟨?_,hv.2⟩
   have e0:rAdd (dRaise x (max x.exp y.exp)).1 (dRaise y (max x.exp y.exp)).1=(dRaise x (max x.exp y.exp)).1+(dRaise y (max x.exp y.exp)).1:=Xhc r1.2 r2.2
   rw [e0] at hv
   obtain ⟨_,j,h6,h7⟩:=hx;obtain ⟨_,l,h8,h9⟩:=hy
   obtain ⟨k,hk⟩ : ∃ k:Nat,max x.exp y.exp+k=m:=⟨(m-max x.exp y.exp).toNat,by omega⟩
   have e:=hv.1.up k
   rw [show (max x.exp y.exp).toNat+k=m from by omega] at e
   have q1:s2^k*(dRaise x (max x.exp y.exp)).1=z:=by
    rw [h7,show j=k+(max x.exp y.exp-x.exp).toNat from by omega,X2n]
    have:=r1.1
    unfold dRaise
    rw [this]
    simp only [Xs,X00,Xn,X03,X02,X06,X07,X0b,Xh,Xi,Xu,Xv,Xj,X01]
   have q2:s2^k*(dRaise y (max x.exp y.exp)).1=z':=by
    rw [h9,show l=k+(max x.exp y.exp-y.exp).toNat from by omega,X2n]
    have:=r2.1
    unfold dRaise
    rw [this]
    simp only [Xs,X00,Xn,X03,X02,X06,X07,X0b,Xh,Xi,Xu,Xv,Xj,X01]
   rw [← q1,← q2,← X07]
   exact e
  ·cases h
 ·cases h
theorem Xpa{x y:Dy}{m:Nat}{z:Rg}(hx:dOk x=true)(hy:dOk y=true)(h1:V x m z)(h2:V y m z) : x=y:=by
 have kx:=X1t.1 hx
 have ky:=X1t.1 hy
 obtain ⟨_,j,a1,a2⟩:=h1;obtain ⟨_,l,b1,b2⟩:=h2
 have key:∀ {x y:Dy} {j l:Nat},rOk y.num=true→(y.exp=0∨rEven y.num=false)→0≤x.exp→x.exp+j=m→y.exp+l=m→s2^j*x.num=s2^l*y.num→y.exp≤x.exp:=fun {x y j l} k1 k2 k3 a1 b1 e=>by
  rcases k2 with k2|k2
  ·omega
  ·by_cases hlt:y.exp≤x.exp
   ·exact hlt
   ·exfalso
    obtain ⟨t,ht⟩ : ∃ t,j=l+(t+1):=⟨j-l-1,by omega⟩
    rw [ht,X2n] at e
    have e2:s2^l*(s2^(t+1)*x.num)=s2^l*y.num:=by rw [← Xh];exact e
    have e3:=X3a l e2
    have e4:y.num=s2*(s2^t*x.num):=by rw [← e3,X9y];simp only [Xs,X00,Xn,X03,X02,X06,X07,X0b,Xh,Xi,Xu,Xv,Xj,X01]
    rw [Xk3 k1 e4] at k2
    cases k2
 have le1:=key (x:=x) (y:=y) ky.1 ky.2.2 kx.2.1.1 a1 b1 (by rw [← a2,← b2])
 have le2:=key (x:=y) (y:=x) kx.1 kx.2.2 ky.2.1.1 b1 a1 (by rw [← a2,← b2])
 obtain rfl:j=l:=by omega
 have e:=X3a j (a2.symm.trans b2)
 have e2:x.exp=y.exp:=by omega
 cases x
 cases y
 simp only at e e2
 rw [e,e2]
theorem X60(m:Nat) : V dZ m 0:=⟨by decide,m,by show (0:Int)+m=m;omega,by
 show (0:Rg)=s2^m*0
 exact (X00 _).symm⟩
theorem Xqh(x:Rg) : om*x=⟨-x.d,x.a,x.b,x.c⟩:=by
 have e1:om.a=0:=rfl
 have e2:om.b=1:=rfl
 have e3:om.c=0:=rfl
 have e4:om.d=0:=rfl
 refine X2r ?_ ?_ ?_ ?_<;>simp only [X8c,X87,X8a,X82,e1,e2,e3,e4]<;>grind
abbrev St:=(Nat→Bool)→Rg
def flipB(β:Nat→Bool)(q:Nat) : Nat→Bool:=fun p=>if p=q then !β p else β p
def u1(k:Int)(x y:Bool) : Rg:=
 if k=1 then (if x&&y then -1 else 1) else if k=2 then (if x=y then 0 else 1) else if k=3 then (if x=y then 0 else if y then om^6 else om^2)
 else if x=y then (if x then om^(turnOf k).toNat else 1) else 0
def act(g:Gt)(v:St) : St:=fun β=>
 if g.k=12 then om*v β
 else if g.k=9 then v (if β g.a.toNat then flipB β g.b.toNat else β)
 else if g.k=10 then (if β g.a.toNat&&β g.b.toNat then om^4 else 1)*v β
 else if g.k=11 then v (if β g.a.toNat=β g.b.toNat then β else flipB (flipB β g.a.toNat) g.b.toNat)
 else u1 g.k (β g.a.toNat) (β g.a.toNat)*v β+u1 g.k (β g.a.toNat) (!β g.a.toNat)*v (flipB β g.a.toNat)
def hN(g:Gt) : Nat:=if g.k=1 then 1 else 0
def run:List Gt→St→St
 | [],v=>v
 | g::l,v=>run l (act g v)
def hs:List Gt→Nat
 | []=>0
 | g::l=>hN g+hs l
def sumN(f:Nat→Rg) : Nat→Rg
 | 0=>0
 | n+1=>sumN f n+f n
theorem Xcx{f:Nat→Rg} : ∀ n,(∀ k,k<n→f k=0)→sumN f n=0
 | 0,_=>rfl
 | n+1,h=>by rw [sumN,Xcx n fun k hk=>h k (by omega),h n (by omega)];rfl
theorem X4r{f:Nat→Rg}{t:Nat} : ∀ n,t<n→(∀ k,k<n→k≠t→f k=0)→sumN f n=f t
 | 0,h,_=>by omega
 | n+1,h,h0=>by
  rw [sumN]
  by_cases e:t=n
  ·subst e
   rw [Xcx t fun k hk=>h0 k (by omega) (by omega)]
   simp only [Xs,X00,Xn,X03,X02,X06,X07,X0b,Xh,Xi,Xu,Xv,Xj,X01]
  ·rw [X4r n (by omega) fun k hk hne=>h0 k (by omega) hne,h0 n (by omega) (by omega)]
   simp only [Xs,X00,Xn,X03,X02,X06,X07,X0b,Xh,Xi,Xu,Xv,Xj,X01]
theorem Xgy{f:Nat→Rg}{t u:Nat}(htu:t≠u) : ∀ n,t<n→u<n→(∀ k,k<n→k≠t→k≠u→f k=0)→sumN f n=f t+f u
 | 0,h,_,_=>by omega
 | n+1,h,h',h0=>by
  rw [sumN]
  by_cases e:t=n
  ·subst e
   rw [X4r (t:=u) t (by omega) fun k hk hne=>h0 k (by omega) (by omega) hne]
   simp only [Xs,X00,Xn,X03,X02,X06,X07,X0b,Xh,Xi,Xu,Xv,Xj,X01]
  ·by_cases e2:u=n
   ·subst e2
    rw [X4r (t:=t) u (by omega) fun k hk hne=>h0 k (by omega) hne (by omega)]
   ·rw [Xgy htu n (by omega) (by omega) fun k hk a b=>h0 k (by omega) a b,h0 n (by omega) (by omega) (by omega)]
    simp only [Xs,X00,Xn,X03,X02,X06,X07,X0b,Xh,Xi,Xu,Xv,Xj,X01]
theorem X7d{f g:Nat→Rg} : ∀ n,(∀ k,k<n→f k=g k)→sumN f n=sumN g n
 | 0,_=>rfl
 | n+1,h=>by rw [sumN,sumN,X7d n fun k hk=>h k (by omega),h n (by omega)]
def pt(N:Nat)(i:Nat) : Nat→Bool:=fun q=>decide (q<N)&&(bitT (N-1-q) i==1)
def chkPt:Bool:=(List.range 6).all fun n=>(List.range (2^n)).all fun i=>(List.range (2^n)).all fun j=>(i==j)||(List.range n).any fun q=>bitT (n-1-q) i != bitT (n-1-q) j
theorem Xfm:chkPt=true:=by kernel_rfl
theorem X8s(p s:Nat) : bitT p s=0∨bitT p s=1:=by
 have h:=X2p ((p:Int)+1) s 0
 rw [Xf8,show ((p:Int)+1-1-0).toNat=p from by omega] at h
 exact h
theorem Xlc{N i j:Nat}(hN:N≤5)(hi:i<2^N)(hj:j<2^N)(h:∀ q,q<N→pt N i q=pt N j q) : i=j:=by
 have hc:=Xfm
 simp only [chkPt,List.all_eq_true,List.mem_range] at hc
 have hc:=hc N (by omega) i hi j hj
 simp only [Bool.or_eq_true,beq_iff_eq,List.any_eq_true,List.mem_range,bne_iff_ne] at hc
 rcases hc with hc|⟨q,hq,hne⟩
 ·exact hc
 ·have h1:=h q hq
  simp only [pt,hq,decide_true,Bool.true_and] at h1
  rcases X8s (N-1-q) i with e1|e1<;>rcases X8s (N-1-q) j with e2|e2<;>rw [e1,e2] at h1 hne<;>simp_all
theorem X6x{N:Nat}(h:N≤5) : 2^N≤32:=Nat.le_trans (Nat.pow_le_pow_right (by decide) h) (by decide)
theorem Xh3{N i q:Nat}(hN:N≤5)(hi:i<2^N)(hq:q<N) : pt N (flipT (N-1-q) i).toNat=flipB (pt N i) q:=by
 have hb:=X4e (p:=N-1-q) (s:=i) (by omega) (Nat.lt_of_lt_of_le hi (X6x hN))
 funext p
 unfold flipB pt
 by_cases hp:p<N
 ·simp only [hp,decide_true,Bool.true_and]
  by_cases e:p=q
  ·subst e
   rw [if_pos rfl,hb.bit]
   rcases X8s (N-1-p) i with e1|e1<;>rw [e1]<;>rfl
  ·rw [if_neg e,hb.other _ (by omega) (by omega)]
 ·simp only [hp,decide_false,Bool.false_and]
  rw [if_neg (by omega)]
theorem Xbf{N i q:Nat}(hq:q<N) : bitF (N:Int) (i:Int) (q:Int)=if pt N i q then 1 else 0:=by
 rw [Xf8,show ((N:Int)-1-(q:Int)).toNat=N-1-q from by omega]
 simp only [pt,hq,decide_true,Bool.true_and,beq_iff_eq]
 rcases X8s (N-1-q) i with e|e<;>rw [e]<;>rfl
def zc(N:Nat)(g:Gt)(i k:Nat) : Rg:=
 if g.k=12 then (if i=k then om else 0)
 else if inR g.k 9 11=true then (if toS N g i=(k:Int) then om^(if czI N g i=true then 4 else 0) else 0)
 else if (i:Int)=k∨flipF N i g.a=(k:Int) then u1 g.k (bitF N i g.a==1) (bitF N k g.a==1) else 0
theorem Xfh{x:Dy}{z:Rg}{m:Nat}(h1:x.exp=m)(h2:x.num=z) : V x m z:=⟨by omega,0,by omega,by rw [← h2,X4x];exact (Xn _).symm⟩
theorem Xnh{k:Int}(h:1≤k∧k≤8){x y:Int}(hx:x=0∨x=1)(hy:y=0∨y=1) : V (entryI k x y) (if k=1 then 1 else 0) (u1 k (x==1) (y==1)):=by
 have:k=1∨k=2∨k=3∨k=4∨k=5∨k=6∨k=7∨k=8:=by omega
 rcases this with rfl|rfl|rfl|rfl|rfl|rfl|rfl|rfl<;>rcases hx with rfl|rfl<;>rcases hy with rfl|rfl<;>exact Xfh (by decide) (by decide)
theorem X6d{N:Nat}{g:Gt}(hg:gOk N g=true)(i k:Nat) : V (cellI N g i k) (hN g) (zc N g i k):=by
 obtain ⟨hn,hk,ha,hb⟩:=X11 hg
 unfold cellI zc hN
 by_cases h12:g.k=12
 ·have h1:¬ g.k=1:=by omega
  rw [if_pos h12,if_pos h12,if_neg h1]
  by_cases e:i=k
  ·have e':(i:Int)=k:=by omega
   rw [if_pos e,if_pos e']
   exact Xfh (by decide) (by decide)
  ·have e':¬ (i:Int)=k:=by omega
   rw [if_neg e,if_neg e']
   exact X60 0
 ·rw [if_neg h12,if_neg h12]
  by_cases h9:inR g.k 9 11=true
  ·rw [if_pos h9,if_pos h9]
   have:=Xo.1 h9
   have h1:¬ g.k=1:=by omega
   rw [if_neg h1]
   by_cases e:toS N g i=(k:Int)
   ·rw [if_pos e,if_pos e]
    by_cases e2:czI N g i=true
    ·rw [if_pos e2,if_pos e2]
     exact Xfh (by decide) (by decide)
    ·rw [if_neg e2,if_neg e2]
     exact Xfh (by decide) (by decide)
   ·rw [if_neg e,if_neg e]
    exact X60 0
  ·rw [if_neg h9,if_neg h9]
   have h8:¬ (9≤g.k∧g.k≤11):=fun h=>h9 (Xo.2 h)
   by_cases e:(i:Int)=k∨flipF N i g.a=(k:Int)
   ·rw [if_pos e,if_pos e]
    exact Xnh (by omega) (X2p _ _ _) (X2p _ _ _)
   ·rw [if_neg e,if_neg e]
    exact X60 _
theorem X70{N:Nat}{g:Gt}(hg:gOk N g=true){i:Nat}(hi:i<2^N)(w:St) : sumN (fun k=>zc N g i k*w (pt N k)) (2^N)=act g w (pt N i):=by
 obtain ⟨hn,hk,ha,hb⟩:=X11 hg
 have hN:N≤5:=by omega
 unfold act
 by_cases h12:g.k=12
 ·rw [if_pos h12,X4r (t:=i) _ hi fun k hk' hne=>by
   simp only [zc,if_pos h12]
   rw [if_neg (by omega)]
   exact Xs _]
  simp only [zc,if_pos h12,if_true]
 ·rw [if_neg h12]
  obtain ⟨A,hA⟩ : ∃ A:Nat,g.a=A:=⟨g.a.toNat,by have:=ha h12;omega⟩
  have hA5:A<N:=by have:=ha h12;omega
  by_cases h9:inR g.k 9 11=true
  ·have h9':=Xo.1 h9
   obtain ⟨B,hB⟩ : ∃ B:Nat,g.b=B:=⟨g.b.toNat,by have:=hb h9';omega⟩
   have hB5:B<N:=by have:=hb h9';omega
   obtain ⟨t,ht,ht2,_,_⟩:=Xbg hg (s:=i) hi h9'
   rw [Int.toNat_natCast] at ht
   rw [X4r (t:=t) _ ht fun k hk' hne=>by
    simp only [zc,if_neg h12,if_pos h9,ht2]
    rw [if_neg (by omega)]
    exact Xs _]
   simp only [zc,if_neg h12,if_pos h9,ht2,if_true]
   have bA:=Xbf (i:=i) hA5
   have bB:=Xbf (i:=i) hB5
   have fl:∀ {j q:Nat},j<2^N→q<N→flipF N j q=((flipT (N-1-q) j).toNat:Int)∧(flipT (N-1-q) j).toNat<2^N∧pt N (flipT (N-1-q) j).toNat=flipB (pt N j) q:=fun {j q} hj hq=>by
    rw [X5l,show ((N:Int)-1-(q:Int)).toNat=N-1-q from by omega]
    exact ⟨(X4e (p:=N-1-q) (s:=j) (by omega) (Nat.lt_of_lt_of_le hj (X6x hN))).nat,X4h hN hq hj,Xh3 hN hj hq⟩
   rw [hA,hB,Int.toNat_natCast,Int.toNat_natCast]
   unfold toS at ht2
   rw [hA,hB] at ht2
   by_cases k9:g.k=9
   ·have hc:czI N g i=false:=by unfold czI;rw [k9];rfl
    rw [if_pos k9,hc,if_neg (by decide)]
    rw [if_pos k9,bA] at ht2
    have e1:om^0=1:=rfl
    rw [e1]
    cases hp:pt N i A
    ·rw [hp] at ht2
     simp only [Bool.false_eq_true,if_false] at ht2
     rw [if_neg (by decide)] at ht2
     obtain rfl:i=t:=by omega
     simp only [Bool.false_eq_true,if_false]
     simp only [e1,Xn]
    ·rw [hp,if_pos rfl,if_pos rfl,(fl hi hB5).1] at ht2
     rw [if_pos rfl,← (fl hi hB5).2.2,show (flipT (N-1-B) i).toNat=t from by omega]
     simp only [e1,Xn]
   ·rw [if_neg k9] at ht2 ⊢
    by_cases k10:g.k=10
    ·rw [if_pos k10]
     rw [if_neg (by omega)] at ht2
     obtain rfl:i=t:=by omega
     have hc:czI N g i=(pt N i A&&pt N i B):=by
      unfold czI
      rw [k10,hA,hB,bA,bB]
      cases pt N i A<;>cases pt N i B<;>rfl
     rw [hc]
     cases pt N i A&&pt N i B<;>rfl
    ·have k11:g.k=11:=by omega
     have hc:czI N g i=false:=by unfold czI;rw [k11];rfl
     rw [if_neg k10,if_pos k11,hc,if_neg (by decide)]
     rw [if_pos k11,bA,bB] at ht2
     have e1:om^0=1:=rfl
     rw [e1]
     by_cases hp:pt N i A=pt N i B
     ·rw [hp,if_neg (fun h=>h rfl)] at ht2
      obtain rfl:i=t:=by omega
      rw [if_pos hp]
      simp only [e1,Xn]
     ·rw [if_pos (by revert hp;cases pt N i A<;>cases pt N i B<;>simp),(fl hi hA5).1,(fl (fl hi hA5).2.1 hB5).1] at ht2
      rw [if_neg hp,← (fl hi hA5).2.2,← (fl (fl hi hA5).2.1 hB5).2.2]
      rw [show (flipT (N-1-B) (flipT (N-1-A) i).toNat).toNat=t from by omega]
      simp only [e1,Xn]
  ·have h8:¬ (9≤g.k∧g.k≤11):=fun h=>h9 (Xo.2 h)
   rw [if_neg (by omega),if_neg (by omega),if_neg (by omega),hA,Int.toNat_natCast]
   have bo:=X4e (p:=N-1-A) (s:=i) (by omega) (Nat.lt_of_lt_of_le hi (X6x hN))
   have fs:=X4h hN hA5 hi
   have fp:=Xh3 hN hi hA5
   have fe:flipF N i A=((flipT (N-1-A) i).toNat:Int):=by
    rw [X5l,show ((N:Int)-1-(A:Int)).toNat=N-1-A from by omega]
    exact bo.nat
   generalize (flipT (N-1-A) i).toNat=t at fs fp fe
   have hne:i≠t:=by
    rintro rfl
    have:=congrFun fp A
    simp [flipB] at this
   have bA:=Xbf (i:=i) hA5
   have bT:=Xbf (i:=t) hA5
   have hT:pt N t A = !pt N i A:=by rw [fp];simp [flipB]
   rw [Xgy hne _ hi fs fun k hk' n1 n2=>by
    simp only [zc,if_neg h12,if_neg h9,hA,fe]
    rw [if_neg (by omega)]
    exact Xs _]
   simp only [zc,if_neg h12,if_neg h9,hA,fe,true_or,or_true,if_true,bA,bT,hT]
   rw [← fp]
   cases pt N i A<;>rfl
theorem Xh0{g:Nat→Option Dy} : ∀ {n:Nat} {l:List Dy},seqO g n=some l→∀ k,k<n→g k=some (l.getD k dZ)
 | 0,l,_,k,hk=>by omega
 | n+1,l,h,k,hk=>by
  simp only [seqO] at h
  split at h
  ·rename_i l' x h1 h2
   injection h with h
   subst h
   have hl:=X56 h1
   by_cases e:k=n
   ·subst e
    rw [h2,List.getD_eq_getElem?_getD,List.getElem?_append_right (by omega),hl,Nat.sub_self]
    rfl
   ·rw [Xh0 h1 k (by omega),List.getD_eq_getElem?_getD,List.getD_eq_getElem?_getD,List.getElem?_append_left (by omega)]
  ·cases h
theorem X71{R C:Int}{f:Nat→Nat→Option Dy}{M:Mx}(h:matOf R C f=some M) : (∀ i j,i<R.toNat→j<C.toNat→f i j=some (M.at i j))∧M.rows=R∧M.cols=C∧M.cells.length=R.toNat*C.toNat:=by
 unfold matOf at h
 split at h
 ·cases hs:seqO (gridG f C.toNat) (R.toNat*C.toNat) with
  | none=>rw [hs] at h;cases h
  | some l=>
   rw [hs] at h
   injection h with h
   subst h
   refine ⟨fun i j hi hj=>?_,rfl,rfl,X56 hs⟩
   have:=Xh0 hs (i*C.toNat+j) (X4q hi hj)
   rw [X8u hj] at this
   exact this
 ·cases h
theorem X6g{a b:Mx}{i j m m':Nat}{za zb:Nat→Rg} : ∀ n {s:Dy},(∀ k,k<n→V (a.at i k) m (za k))→(∀ k,k<n→V (b.at k j) m' (zb k))→dotI a b i j n=some s→V s (m+m') (sumN (fun k=>za k*zb k) n)
 | 0,s,_,_,h=>by
  injection h with h
  subst h
  exact X60 _
 | n+1,s,ha,hb,h=>by
  rw [dotI] at h
  cases h1:dotI a b i j n with
  | none=>rw [h1] at h;cases h
  | some t=>
   rw [h1,Option.bind_some] at h
   cases h2:dMulI (a.at i n) (b.at n j) with
   | none=>rw [h2] at h;cases h
   | some x=>
    rw [h2,Option.bind_some] at h
    exact (Xov h (X6g n (fun k hk=>ha k (by omega)) (fun k hk=>hb k (by omega)) h1) (Xp4 h2 (ha n (by omega)) (hb n (by omega))).1).1
theorem X38{N:Nat}{g:Gt}(hg:gOk N g=true){i k:Nat}(hi:i<2^N)(hk:k<2^N) : (gateS N g).at i k=cellI N g i k:=by
 have h:=(X1d hg).1
 unfold gateI at h
 rw [if_pos hg] at h
 have:=(X71 h).1 i k (by rw [Int.toNat_natCast,Int.toNat_natCast];exact hi) (by rw [Int.toNat_natCast,Int.toNat_natCast];exact hk)
 exact (Option.some.inj this).symm
theorem X7w{a b M:Mx}(h:mulI a b=some M) : (∀ i j,i<a.rows.toNat→j<b.cols.toNat→dotI a b i j a.cols.toNat=some (M.at i j))∧M.rows=a.rows∧M.cols=b.cols∧a.cols=b.rows∧M.cells.length=a.rows.toNat*b.cols.toNat:=by
 unfold mulI at h
 split at h
 ·rename_i h1
  simp only [Bool.and_eq_true,beq_iff_eq] at h1
  obtain ⟨p1,p2,p3,p4⟩:=X71 h;exact ⟨p1,p2,p3,h1.2,p4⟩
 ·cases h
theorem X9u{N:Nat}{C:Nat}{j:Nat}(hj:j<C) : ∀ (l:List Gt) {m0:Nat} {M0 M:Mx} {v:St},(∀ g ∈ l,gOk N g=true)→M0.cols=(C:Int)→(∀ i,i<2^N→V (M0.at i j) m0 (v (pt N i)))→applI N l M0=some M→
  (∀ i,i<2^N→V (M.at i j) (m0+hs l) (run l v (pt N i)))∧M.cols=(C:Int)
 | [],m0,M0,M,v,_,hc,h0,h=>by
  injection h with h
  subst h
  exact ⟨h0,hc⟩
 | g::l,m0,M0,M,v,hg,hc,h0,h=>by
  have hg1:=hg g (by simp)
  rw [applI,(X1d hg1).1,Option.getD_some] at h
  cases h1:mulI (gateS N g) M0 with
  | none=>rw [h1] at h;cases h
  | some M1=>
   rw [h1,Option.bind_some] at h
   obtain ⟨q1,q2,q3,q4,_⟩:=X7w h1
   have e1:(gateS (N:Int) g).rows.toNat=2^N:=by
    show ((2^(N:Int).toNat:Nat) : Int).toNat=2^N
    rw [Int.toNat_natCast,Int.toNat_natCast]
   have e2:(gateS (N:Int) g).cols.toNat=2^N:=by
    show ((2^(N:Int).toNat:Nat) : Int).toNat=2^N
    rw [Int.toNat_natCast,Int.toNat_natCast]
   rw [e1,e2,hc,Int.toNat_natCast] at q1
   have key:∀ i,i<2^N→V (M1.at i j) (m0+hN g) (act g v (pt N i)):=fun i hi=>by
    have:=X6g (m:=hN g) (m':=m0) (za:=fun k=>zc N g i k) (zb:=fun k=>v (pt N k)) (2^N) (fun k hk=>by rw [X38 hg1 hi hk];exact X6d hg1 i k) (fun k hk=>h0 k hk) (q1 i j hi hj)
    rw [X70 hg1 hi] at this
    rw [Nat.add_comm]
    exact this
   have:=X9u hj l (fun g' hg'=>hg g' (by simp [hg'])) (q3.trans hc) key h
   rw [Nat.add_assoc] at this
   exact this
def eb(N j:Nat) : St:=fun β=>if ∀ q,q<N→β q=pt N j q then 1 else 0
theorem Xcn{N i j:Nat}(hN:N≤5)(hi:i<2^N)(hj:j<2^N) : eb N j (pt N i)=if i=j then 1 else 0:=by
 unfold eb
 by_cases e:i=j
 ·subst e
  rw [if_pos rfl,if_pos fun q _=>rfl]
 ·rw [if_neg e,if_neg fun h=>e (Xlc hN hi hj h)]
theorem Xjq{c:Cx}{N:Nat}{M:Mx}(hn:c.n=N)(h:opI c=some M) : (∀ i j,i<2^N→j<2^N→V (M.at i j) (hs c.gs) (run c.gs (eb N j) (pt N i)))∧mOk M=true∧M.rows=((2^N:Nat) : Int)∧M.cols=((2^N:Nat) : Int):=by
 have hop:=Xpg c
 rw [hop.1] at h
 have hm:=hop.2 M h
 rw [hn,Int.toNat_natCast] at hm
 rw [← hop.1] at h
 unfold opI at h
 split at h
 ·rename_i hc
  obtain ⟨hn5,_,hg⟩:=X0x hc
  have hN:N≤5:=by omega
  rw [hn] at h hg hn5
  cases hi0:idI ((2^(N:Int).toNat:Nat) : Int) with
  | none=>rw [hi0] at h;cases h
  | some U=>
   rw [hi0,Option.bind_some] at h
   unfold idI at hi0
   obtain ⟨u1,u2,u3,_⟩:=X71 hi0
   rw [Int.toNat_natCast,Int.toNat_natCast] at u1
   refine ⟨fun i j hi hj=>?_,hm.1,hm.2,?_⟩
   ·have:=(X9u (N:=N) (C:=2^N) hj c.gs (m0:=0) (v:=eb N j) hg (by rw [u3,Int.toNat_natCast]) (fun i hi=>by
     have e:=Option.some.inj (u1 i j hi hj)
     rw [← e,Xcn hN hi hj]
     by_cases e2:i=j
     ·rw [if_pos e2,if_pos e2]
      exact Xfh (by decide) (by decide)
     ·rw [if_neg e2,if_neg e2]
      exact X60 0) h).1 i hi
    rw [Nat.zero_add] at this
    exact this
   ·exact (X9u (N:=N) (C:=2^N) (j:=0) (Nat.pow_pos (by decide)) c.gs (m0:=0) (v:=eb N 0) hg (by rw [u3,Int.toNat_natCast]) (fun i hi=>by
     have e:=Option.some.inj (u1 i 0 hi (Nat.pow_pos (by decide)))
     rw [← e,Xcn hN hi (Nat.pow_pos (by decide))]
     by_cases e2:i=0
     ·rw [if_pos e2,if_pos e2]
      exact Xfh (by decide) (by decide)
     ·rw [if_neg e2,if_neg e2]
      exact X60 0) h).2
 ·cases h
theorem Xn5(g:Gt)(v w:St) : act g (fun β=>v β+w β)=fun β=>act g v β+act g w β:=by
 funext β
 unfold act
 split
 ·simp only [Xs,X00,Xn,X03,X02,X06,X07,X0b,Xh,Xi,Xu,Xv,Xj,X01]
 ·split
  ·rfl
  ·split
   ·simp only [Xs,X00,Xn,X03,X02,X06,X07,X0b,Xh,Xi,Xu,Xv,Xj,X01]
   ·split
    ·rfl
    ·simp only [Xs,X00,Xn,X03,X02,X06,X07,X0b,Xh,Xi,Xu,Xv,Xj,X01]
theorem Xlz(g:Gt)(c:Rg)(v:St) : act g (fun β=>c*v β)=fun β=>c*act g v β:=by
 funext β
 unfold act
 split
 ·simp only [Xs,X00,Xn,X03,X02,X06,X07,X0b,Xh,Xi,Xu,Xv,Xj,X01]
 ·split
  ·rfl
  ·split
   ·simp only [Xs,X00,Xn,X03,X02,X06,X07,X0b,Xh,Xi,Xu,Xv,Xj,X01]
   ·split
    ·rfl
    ·simp only [Xs,X00,Xn,X03,X02,X06,X07,X0b,Xh,Xi,Xu,Xv,Xj,X01]
theorem Xgo:∀ (l:List Gt) (v w:St),run l (fun β=>v β+w β)=fun β=>run l v β+run l w β
 | [],_,_=>rfl
 | g::l,v,w=>by rw [run,Xn5,Xgo l];rfl
theorem X9f:∀ (l:List Gt) (c:Rg) (v:St),run l (fun β=>c*v β)=fun β=>c*run l v β
 | [],_,_=>rfl
 | g::l,c,v=>by rw [run,Xlz,X9f l];rfl
theorem Xkl:∀ (l:List Gt),run l (fun _=>0)=fun _=>0:=fun l=>by
 have:=X9f l 0 (fun _=>0)
 have e:(fun _:Nat→Bool=>(0:Rg)*0)=fun _=>0:=by funext β;exact Xs 0
 rw [e] at this
 rw [this]
 funext β
 exact Xs _
theorem Xgg(l:List Gt)(c:Nat→Rg)(f:Nat→St) : ∀ n,run l (fun β=>sumN (fun k=>c k*f k β) n)=fun β=>sumN (fun k=>c k*run l (f k) β) n
 | 0=>Xkl l
 | n+1=>by
  show run l (fun β=>sumN (fun k=>c k*f k β) n+c n*f n β)=_
  rw [Xgo l (fun β=>sumN (fun k=>c k*f k β) n) (fun β=>c n*f n β),Xgg l c f n,X9f]
  rfl
def Low(N:Nat)(g:Gt) : Prop:=(g.k≠12→g.a.toNat<N)∧(9≤g.k∧g.k≤11→g.b.toNat<N)
theorem Xj3{N:Nat}{g:Gt}(h:gOk N g=true) : Low N g:=by
 obtain ⟨_,_,ha,hb⟩:=X11 h;exact ⟨fun h=>by have:=ha h;omega,fun h=>by have:=hb h;omega⟩
def Co(N:Nat)(β γ:Nat→Bool) : Prop:=∀ q,N≤q→β q=γ q
theorem Co.flip{N q:Nat}{β γ:Nat→Bool}(h:Co N β γ)(hq:q<N) : Co N β (flipB γ q):=fun p hp=>by
 unfold flipB
 rw [if_neg (by omega)]
 exact h p hp
theorem Xqv{N:Nat}{g:Gt}(hg:Low N g){β:Nat→Bool}{v w:St}(h:∀ γ,Co N β γ→v γ=w γ) : ∀ γ,Co N β γ→act g v γ=act g w γ:=fun γ hγ=>by
 unfold act
 split
 ·rw [h γ hγ]
 ·rename_i h12
  have ha:=hg.1 h12
  split
  ·have hb:=hg.2 (by omega)
   split
   ·exact h _ (hγ.flip hb)
   ·exact h _ hγ
  ·split
   ·rw [h γ hγ]
   ·split
    ·have hb:=hg.2 (by omega)
     split
     ·exact h _ hγ
     ·exact h _ ((hγ.flip ha).flip hb)
    ·rw [h γ hγ,h _ (hγ.flip ha)]
theorem Xjs{N:Nat}{β:Nat→Bool} : ∀ (l:List Gt) {v w:St},(∀ g ∈ l,Low N g)→(∀ γ,Co N β γ→v γ=w γ)→∀ γ,Co N β γ→run l v γ=run l w γ
 | [],_,_,_,h=>h
 | g::l,v,w,hg,h=>Xjs l (fun g' hg'=>hg g' (by simp [hg'])) (Xqv (hg g (by simp)) h)
def Dep(N:Nat)(v:St) : Prop:=∀ β γ,(∀ q,q<N→β q=γ q)→v β=v γ
theorem X5g{N q:Nat}{β γ:Nat→Bool}(h:∀ q,q<N→β q=γ q)(hq:q<N) : ∀ p,p<N→flipB β q p=flipB γ q p:=fun p hp=>by
 unfold flipB
 rw [h p hp]
theorem Xns{N:Nat}{g:Gt}(hg:Low N g){v:St}(h:Dep N v) : Dep N (act g v):=fun β γ e=>by
 unfold act
 split
 ·rw [h β γ e]
 ·rename_i h12
  have ha:=hg.1 h12
  rw [e _ ha]
  split
  ·have hb:=hg.2 (by omega)
   split
   ·exact h _ _ (X5g e hb)
   ·exact h _ _ e
  ·split
   ·have hb:=hg.2 (by omega)
    rw [e _ hb,h β γ e]
   ·split
    ·have hb:=hg.2 (by omega)
     rw [e _ hb]
     split
     ·exact h _ _ e
     ·exact h _ _ (X5g (X5g e ha) hb)
    ·rw [h β γ e,h _ _ (X5g e ha)]
theorem Xhb{N:Nat} : ∀ (l:List Gt) {v:St},(∀ g ∈ l,Low N g)→Dep N v→Dep N (run l v)
 | [],_,_,h=>h
 | g::l,v,hg,h=>Xhb l (fun g' hg'=>hg g' (by simp [hg'])) (Xns (hg g (by simp)) h)
theorem Xj7(N j:Nat) : Dep N (eb N j):=fun β γ e=>by
 unfold eb
 congr 1
 apply propext
 exact ⟨fun h q hq=>(e q hq).symm.trans (h q hq),fun h q hq=>(e q hq).trans (h q hq)⟩
def bools:List Bool:=[false,true]
def chkSur:Bool:=(List.range 6).all fun n=>bools.all fun a=>bools.all fun b=>bools.all fun c=>bools.all fun d=>bools.all fun e=>(List.range (2^n)).any fun i=>(List.range n).all fun q=>pt n i q==[a,b,c,d,e].getD q false
theorem Xew:chkSur=true:=by kernel_rfl
theorem X4b(b:Bool) : b ∈ bools:=by cases b<;>simp [bools]
theorem Xkz{N:Nat}(hN:N≤5)(β:Nat→Bool) : ∃ i,i<2^N∧∀ q,q<N→pt N i q=β q:=by
 have h:=Xew
 simp only [chkSur,List.all_eq_true,List.mem_range] at h
 have h:=h N (by omega) _ (X4b (β 0)) _ (X4b (β 1)) _ (X4b (β 2)) _ (X4b (β 3)) _ (X4b (β 4))
 simp only [List.any_eq_true,List.mem_range,List.all_eq_true,beq_iff_eq] at h
 obtain ⟨i,hi,h⟩:=h
 refine ⟨i,hi,fun q hq=>?_⟩
 rw [h q hq]
 have:q=0∨q=1∨q=2∨q=3∨q=4:=by omega
 rcases this with rfl|rfl|rfl|rfl|rfl<;>rfl
def put(N j:Nat)(β:Nat→Bool) : Nat→Bool:=fun q=>if q<N then pt N j q else β q
theorem Xhu{N:Nat}(hN:N≤5){l:List Gt}(hl:∀ g ∈ l,Low N g)(v:St)(β:Nat→Bool) : ∃ i,i<2^N∧(∀ q,q<N→pt N i q=β q)∧∀ l:List Gt,(∀ g ∈ l,Low N g)→run l v β=sumN (fun j=>v (put N j β)*run l (eb N j) (pt N i)) (2^N):=by
 obtain ⟨i,hi,hb⟩:=Xkz hN β
 refine ⟨i,hi,hb,fun l hl=>?_⟩
 have h1:∀ γ,Co N β γ→v γ=(fun γ=>sumN (fun j=>v (put N j β)*eb N j γ) (2^N)) γ:=fun γ hγ=>by
  obtain ⟨t,ht,hb'⟩:=Xkz hN γ
  have e:put N t β=γ:=by
   funext q
   unfold put
   by_cases hq:q<N
   ·rw [if_pos hq,hb' q hq]
   ·rw [if_neg hq,hγ q (by omega)]
  show v γ=sumN _ _
  rw [X4r (t:=t) _ ht fun k hk hne=>by
   have:eb N k γ=0:=by
    unfold eb
    rw [if_neg fun h=>hne (Xlc hN hk ht fun q hq=>by rw [hb' q hq,h q hq])]
   rw [this]
   exact X00 _]
  have:eb N t γ=1:=by
   unfold eb
   rw [if_pos fun q hq=>(hb' q hq).symm]
  rw [this,e]
  exact (X03 _).symm
 rw [Xjs l hl h1 β fun _ _=>rfl,Xgg]
 refine X7d _ fun k hk=>?_
 rw [Xhb l hl (Xj7 N k) β (pt N i) fun q hq=>(hb q hq).symm]
theorem run_basis'{N:Nat}(hN:N≤5)(v:St)(β:Nat→Bool) : ∃ i,i<2^N∧(∀ q,q<N→pt N i q=β q)∧∀ l:List Gt,(∀ g ∈ l,Low N g)→run l v β=sumN (fun j=>v (put N j β)*run l (eb N j) (pt N i)) (2^N):=
 Xhu hN (l:=[]) (fun g hg=>by simp at hg) v β
def inj(us:List Int)(β γ:Nat→Bool) : Nat→Bool:=fun p=>if (p:Int) ∈ us then γ (lastN us p us.length).toNat else β p
theorem X78{us:List Int}{q:Nat}(hq:(q:Int) ∈ us)(β γ:Nat→Bool) : flipB (inj us β γ) q=inj us β (flipB γ (lastN us q us.length).toNat):=by
 funext p
 unfold flipB inj
 obtain ⟨j,_,hj,hj2⟩:=X3j hq
 by_cases e:p=q
 ·subst e
  rw [if_pos rfl,if_pos hq,if_pos hq]
  dsimp only
  rw [if_pos rfl]
 ·rw [if_neg e]
  by_cases hp:(p:Int) ∈ us
  ·rw [if_pos hp,if_pos hp]
   obtain ⟨i,_,hi,hi2⟩:=X3j hp
   dsimp only
   rw [if_neg fun h=>?_]
   rw [hi,hj] at h
   simp only [Int.toNat_natCast] at h
   subst h
   rw [hi2] at hj2
   omega
  ·rw [if_neg hp,if_neg hp]
theorem Xez{us:List Int}{q:Nat}(hq:(q:Int) ∈ us)(β γ:Nat→Bool) : inj us β γ q=γ (lastN us q us.length).toNat:=by
 unfold inj;rw [if_pos hq]
theorem Xnu{us:List Int}{n:Int}{g:Gt}(h:GoodG us n g)(v:St)(β γ:Nat→Bool) : act g v (inj us β γ)=act (smallG us g) (fun γ=>v (inj us β γ)) γ:=by
 obtain ⟨_,_,ha,hb⟩:=X11 h.ok
 unfold act
 show _=if g.k=12 then _ else if g.k=9 then _ else if g.k=10 then _ else if g.k=11 then _ else _
 by_cases h12:g.k=12
 ·rw [if_pos h12,if_pos h12]
 ·rw [if_neg h12,if_neg h12]
  have hA:(smallG us g).a=lastN us g.a us.length:=by unfold smallG;rw [if_neg h12]
  obtain ⟨A,hgA⟩ : ∃ A:Nat,g.a=A:=⟨g.a.toNat,by have:=ha h12;omega⟩
  have mA:(A:Int) ∈ us:=h.use _ (by
   unfold qubI
   rw [if_neg h12,← hgA]
   split<;>simp)
  rw [hA,hgA,Int.toNat_natCast,Xez mA]
  by_cases h9:inR g.k 9 11=true
  ·have h9':=Xo.1 h9
   have hB:(smallG us g).b=lastN us g.b us.length:=by unfold smallG;rw [if_pos h9]
   obtain ⟨B,hgB⟩ : ∃ B:Nat,g.b=B:=⟨g.b.toNat,by have:=hb h9';omega⟩
   have mB:(B:Int) ∈ us:=h.use _ (by
    unfold qubI
    rw [if_neg h12,← hgB,if_pos h9]
    simp)
   rw [hB,hgB,Int.toNat_natCast,Xez mB,X78 mA,X78 mB,X78 mB]
   by_cases k9:g.k=9
   ·rw [if_pos k9,if_pos k9]
    split<;>rfl
   ·rw [if_neg k9,if_neg k9]
    by_cases k10:g.k=10
    ·rw [if_pos k10,if_pos k10]
    ·rw [if_neg k10,if_neg k10]
     by_cases k11:g.k=11
     ·rw [if_pos k11,if_pos k11]
      split<;>rfl
     ·omega
  ·have h8:¬ (9≤g.k∧g.k≤11):=fun h=>h9 (Xo.2 h)
   rw [if_neg (by omega),if_neg (by omega),if_neg (by omega),if_neg (by omega),if_neg (by omega),if_neg (by omega),X78 mA]
   rfl
theorem X7c{us:List Int}{n:Int}(β:Nat→Bool) : ∀ (l:List Gt) (v:St),(∀ g ∈ l,GoodG us n g)→∀ γ,run l v (inj us β γ)=run (l.map (smallG us)) (fun γ=>v (inj us β γ)) γ
 | [],v,_,γ=>rfl
 | g::l,v,h,γ=>by
  rw [run,X7c β l _ (fun g' hg'=>h g' (by simp [hg'])),List.map_cons,run]
  congr 1
  funext γ'
  exact Xnu (h g (by simp)) v β γ'
theorem Xs4{us:List Int}(hs:∀ x ∈ us,0≤x)(β:Nat→Bool) : inj us β (fun j=>β (us.getD j 0).toNat)=β:=by
 funext p
 unfold inj
 by_cases hp:(p:Int) ∈ us
 ·rw [if_pos hp]
  obtain ⟨i,_,hi,hi2⟩:=X3j hp
  dsimp only
  rw [hi,Int.toNat_natCast,hi2,Int.toNat_natCast]
 ·rw [if_neg hp]
def Eqv(l m:List Gt) : Prop:=∃ k:Nat,∀ v β,s2^hs m*run l v β=om^k*(s2^hs l*run m v β)
theorem Eqv.refl(l:List Gt) : Eqv l l:=⟨0,fun v β=>by rw [X4x];exact (Xn _).symm⟩
theorem Eqv.trans{l m n:List Gt}(h1:Eqv l m)(h2:Eqv m n) : Eqv l n:=by
 obtain ⟨k,h1⟩:=h1;obtain ⟨j,h2⟩:=h2
 refine ⟨k+j,fun v β=>X3a (hs m) ?_⟩
 have e1:=h1 v β
 have e2:=h2 v β
 rw [X2n]
 rw [show s2^hs m*(s2^hs n*run l v β)=s2^hs n*(s2^hs m*run l v β) by simp only [Xs,X00,Xn,X03,X02,X06,X07,X0b,Xh,Xi,Xu,Xv,Xj,X01],e1,show s2^hs n*(om^k*(s2^hs l*run m v β))=om^k*(s2^hs l*(s2^hs n*run m v β)) by simp only [Xs,X00,Xn,X03,X02,X06,X07,X0b,Xh,Xi,Xu,Xv,Xj,X01],e2]
 simp only [Xs,X00,Xn,X03,X02,X06,X07,X0b,Xh,Xi,Xu,Xv,Xj,X01]
theorem X8j:∀ (l m:List Gt) (v:St),run (l++m) v=run m (run l v)
 | [],_,_=>rfl
 | g::l,m,v=>by rw [List.cons_append,run,run,X8j l m]
end Go.Proofs.YtlfjcmldfbfdbaaGreat
namespace Go.Proofs.YtlfjcmldfbfdbaaGreat
open Go.RowKit
def encU(i:Int) : List Value:=[.int .u8 i]
theorem Xds:∀ x,(encU x).length=1:=fun _=>rfl
abbrev wu(i:Int) : Int:=IntKind.u64.wrap i
theorem X7t(i:Int) : 0≤bits .and .u64 i 255∧bits .and .u64 i 255≤255:=by
 have key:∀ b:BitVec 64,0≤IntKind.u64.wrap ((b &&& BitVec.ofInt 64 255).toNat:Int)∧IntKind.u64.wrap ((b &&& BitVec.ofInt 64 255).toNat:Int)≤255:=fun b=>by
  have h1:(BitVec.ofInt 64 255).toNat=255:=by decide
  have h:(b &&& BitVec.ofInt 64 255).toNat≤255:=by
   rw [BitVec.toNat_and,h1]
   exact Nat.and_le_right
  have h2:IntKind.u64.wrap ((b &&& BitVec.ofInt 64 255).toNat:Int)=((b &&& BitVec.ofInt 64 255).toNat:Int):=by
   generalize (b &&& BitVec.ofInt 64 255).toNat=m at h
   simp only [IntKind.wrap,IntKind.bits,IntKind.signed]
   simp
   omega
  rw [h2]
  omega
 exact key _
theorem Xg2(i:Int) : 0≤bits .and .u64 i 255∧bits .and .u64 i 255≤9223372036854775807:=⟨(X7t i).1,Int.le_trans (X7t i).2 (by decide)⟩
theorem pk{x n:Int}(hx:0≤x)(hn:1<n) : 0≤x.tmod n∧(x.tmod n=0∨x.tmod n<n):=⟨Int.tmod_nonneg _ hx,.inr (Int.tmod_lt_of_pos _ (by omega))⟩
theorem X34{l:List Int}{k:Nat}(h:k<l.length) : l[k]? = some (l.getD k 0):=by
 rw [List.getD_eq_getElem?_getD,List.getElem?_eq_getElem h];rfl
theorem Xin{l:List Int}{k:Nat}(h:k<l.length) : l.getD k 0 ∈ l:=List.mem_of_getElem? (X34 h)
section
variable {P : Program} {a : Act} {w : World} {n : Nat} {e : Env} {ty : TypeId} {pos : String} {af : Array Edge} {g : Option (Nat × Bool)} {d : Option Tmp}
variable {s t t' : TypeId} {x y : Operand} {i j : Int}
theorem Xn0(hf:Fr a n e)(hx:ev e x=some (.int .u64 i))(hy:ev e y=some (.int .u64 j)) : Ev P ⟨d,.binOp .mul t x y t',ty,pos,af,g⟩ a w (.int .u64 (wu (i*j))):=fun w' _=>by
 simp [execOp,hf.ev hx,hf.ev hy,eqGuard,binOp,Op.intArith]
theorem Xp2(hx:ev e x=some (.int .u64 i))(hy:ev e y=some (.int .u64 j)) : EvW P ⟨d,.binOp .mul t x y t',ty,pos,af,g⟩ n e w (.int .u64 (wu (i*j))):=fun a hf=>Xn0 hf hx hy
theorem Xnm(hf:Fr a n e)(hx:ev e x=some (.int .u64 i))(hy:ev e y=some (.int .u64 j)) : Ev P ⟨d,.binOp .add t x y t',ty,pos,af,g⟩ a w (.int .u64 (wu (i+j))):=fun w' _=>by
 simp [execOp,hf.ev hx,hf.ev hy,eqGuard,binOp,Op.intArith]
theorem Xgt(hx:ev e x=some (.int .u64 i))(hy:ev e y=some (.int .u64 j)) : EvW P ⟨d,.binOp .add t x y t',ty,pos,af,g⟩ n e w (.int .u64 (wu (i+j))):=fun a hf=>Xnm hf hx hy
theorem Xn8(hf:Fr a n e)(hx:ev e x=some (.int .u64 i))(hy:ev e y=some (.int .u64 j)) : Ev P ⟨d,.binOp .and t x y t',ty,pos,af,g⟩ a w (.int .u64 (bits .and .u64 i j)):=fun w' _=>by
 simp [execOp,hf.ev hx,hf.ev hy,eqGuard,binOp,Op.intBits,bits]
theorem Xoz(hx:ev e x=some (.int .u64 i))(hy:ev e y=some (.int .u64 j)) : EvW P ⟨d,.binOp .and t x y t',ty,pos,af,g⟩ n e w (.int .u64 (bits .and .u64 i j)):=fun a hf=>Xn8 hf hx hy
theorem Xnl{m:Nat}(hf:Fr a n e)(hx:ev e x=some (.int .u64 i))(hy:ev e y=some (.int .u64 j))(hj:j=(m:Int))(hm:m≤64) : Ev P ⟨d,.binOp .shr t x y t',ty,pos,af,g⟩ a w (.int .u64 (i/2^m)):=fun w' _=>by
 subst hj
 have hm':min m 64=m:=by omega
 simp [execOp,hf.ev hx,hf.ev hy,eqGuard,binOp,Op.shift,IntKind.bits,hm']
theorem Xpe{m:Nat}(hx:ev e x=some (.int .u64 i))(hy:ev e y=some (.int .u64 j))(hj:j=(m:Int))(hm:m≤64) : EvW P ⟨d,.binOp .shr t x y t',ty,pos,af,g⟩ n e w (.int .u64 (i/2^m)):=fun a hf=>Xnl hf hx hy hj hm
theorem Xpu(hs:P.underlying s=some (.int .i64))(ht:P.underlying t=some (.int .u64))(hf:Fr a n e)(hx:ev e x=some (.int .i64 i)) : Ev P ⟨d,.convert s t x,ty,pos,af,g⟩ a w (.int .u64 (wu i)):=fun w' _=>by
 simp [execOp,hf.ev hx,convert,X0e hs,X0e ht,Conv.intToInt]
theorem Xth(hs:P.underlying s=some (.int .i64))(ht:P.underlying t=some (.int .u64))(hx:ev e x=some (.int .i64 i)) : EvW P ⟨d,.convert s t x,ty,pos,af,g⟩ n e w (.int .u64 (wu i)):=fun a hf=>Xpu hs ht hf hx
theorem Xqn(hs:P.underlying s=some (.int .u64))(ht:P.underlying t=some (.int .i64))(hf:Fr a n e)(hx:ev e x=some (.int .u64 i))(h:0≤i∧i≤9223372036854775807) : Ev P ⟨d,.convert s t x,ty,pos,af,g⟩ a w (.int .i64 i):=fun w' _=>by
 have h2:IntKind.i64.wrap i=i:=IntWalk.i64_in _ ⟨by omega,by omega⟩
 simp [execOp,hf.ev hx,convert,X0e hs,X0e ht,Conv.intToInt,h2]
theorem Xtl(hs:P.underlying s=some (.int .u64))(ht:P.underlying t=some (.int .i64))(hx:ev e x=some (.int .u64 i))(h:0≤i∧i≤9223372036854775807) : EvW P ⟨d,.convert s t x,ty,pos,af,g⟩ n e w (.int .i64 i):=fun a hf=>Xqn hs ht hf hx h
theorem Xqa(hs:P.underlying s=some (.int .u8))(ht:P.underlying t=some (.int .i64))(hf:Fr a n e)(hx:ev e x=some (.int .u8 i))(h:0≤i∧i≤255) : Ev P ⟨d,.convert s t x,ty,pos,af,g⟩ a w (.int .i64 i):=fun w' _=>by
 have h2:IntKind.i64.wrap i=i:=IntWalk.i64_in _ ⟨by omega,by omega⟩
 simp [execOp,hf.ev hx,convert,X0e hs,X0e ht,Conv.intToInt,h2]
theorem Xw2(hs:P.underlying s=some (.int .u8))(ht:P.underlying t=some (.int .i64))(hx:ev e x=some (.int .u8 i))(h:0≤i∧i≤255) : EvW P ⟨d,.convert s t x,ty,pos,af,g⟩ n e w (.int .i64 i):=fun a hf=>Xqa hs ht hf hx h
end
theorem Xox(w0:World)(bV:Nat){Xcd:TypeId}(Acd:Option Addr)(ccd:Nat)(code:List Int)(hr_code:Rd w0 w0.heap.size Xcd encU Acd code)(hcd:∀ x ∈ code,0≤x∧x≤255)(hav:AwayR code Acd bV)(t:Nat)(sd:Int)(hBV:Blk w0 bV 80 [.slice Acd code.length ccd,vi (t:Int),.int .u64 sd])(ht:t+1≤100000000) : Ret Tryz.prog 118 [.pointer (some ⟨bV,0,none⟩)] w0 (fun v w=>∃ (x:Int) (t1:Nat) (s1:Int),v=vi x∧(0≤x∧x≤255)∧(t≤t1∧t1≤t+1)∧Kept bV w0.heap.size w0 w∧Blk w bV 80 [.slice Acd code.length ccd,vi (t1:Int),.int .u64 s1]):=by
 have hltV:=hBV.lt;refine enter Tryz.func118 rfl 62 rfl rfl ?_;intro a hf
 have hW:Kept bV w0.heap.size w0 w0:=Kept.refl _ _ _
 refine Zs hf fun _ hK2=>?_;refine Za rfl ?_;refine Zt hK2 fun a hf=>?_;refine Zs hf fun _ hK3=>?_;refine Za rfl ?_;refine Zt hK3 fun a hf=>?_;refine wp_seq_k fun _ hK4=>?_;refine wp_seq_k fun _ hK5=>?_;refine X05 none (fun _=>false) mixed ?_;intro w1 hE;replace hBV:=hBV.below hE;replace hr_code:=hr_code.below hE;replace hW:=ktr hW hE;refine Yb hf ?_;refine Yo 0 rfl (fun _=>X2 rfl)<|Yo 1 rfl (fun _=>X43 rfl)<|Yo 2 rfl (fun _=>Vd rfl X2w 1)<|Ye 3 rfl (X0 rfl X4 (hBV.at 1))<|Yo 4 rfl (fun _=>X2 rfl) ?_;refine Yo 5 rfl (fun _=>X43 rfl)<|Yo 6 rfl (fun _=>Vd rfl X5i 0)<|Ye 7 rfl (X0 rfl X8l (hBV.at 0))<|Yo 8 rfl (fun _=>X0y rfl X5k)<|Yo 9 rfl (fun _=>X0l rfl rfl) ?_;refine Yd fun a hf=>?_;refine hK5 _ _ ?_
 refine Xe hf rfl (fun hc6=>?_) (fun hc6=>?_)
 ·have hc6b:=hc6;have hc6:=of_decide_eq_true hc6
  obtain ⟨u7,hu7⟩:=Xl (l:=code) (k:=t) (by omega)
  have hbx:=hcd _ (List.mem_of_getElem? hu7);refine X05 none (fun _=>false) mixed ?_;intro w2 hE;replace hBV:=hBV.below hE;replace hr_code:=hr_code.below hE;replace hW:=ktr hW hE;refine Yb hf ?_;refine Yo 0 rfl (fun _=>X2 rfl)<|Yo 1 rfl (fun _=>X43 rfl)<|Yo 2 rfl (fun _=>Vd rfl X5i 0)<|Ye 3 rfl (X0 rfl X8l (hBV.at 0))<|Yo 4 rfl (fun _=>X2 rfl) ?_;refine Yo 5 rfl (fun _=>X43 rfl)<|Yo 6 rfl (fun _=>Vd rfl X2w 1)<|Ye 7 rfl (X0 rfl X4 (hBV.at 1)) ?_;refine Yi (k:=t) (u:=u7) (enc:=encU) (l:=code) 8 rfl trivial rfl rfl X5k Xwr Xds hr_code hu7 rfl ?_;intro p9 hat8;refine Ye 9 rfl (X0 rfl Xw5 hat8)<|Yo 10 rfl (fun _=>Xw2 Tryz.underlying5 Tryz.underlying3 rfl (hcd _ (List.mem_of_getElem? hu7)))<|Yo 11 rfl (fun _=>X1s rfl) ?_;refine Yd fun a hf=>?_;refine hK4 _ _ ?_;refine Zs hf fun _ hK10=>?_;refine Zm rfl<|Ze (X43 rfl)<|Ze (Vd rfl X2w 1)<|Ze (X0 rfl X4 (hBV.at 1))<|Ze (Xp rfl rfl (by omega) (by omega)) ?_;refine Ze (X43 rfl)<|Ze (Vd rfl X2w 1) ?_;refine Zo (X52 (vs:=[vi ((t:Int)+1)]) (l':=[.slice Acd code.length ccd,vi ((t:Int)+1),.int .u64 sd]) rfl rfl X0h hBV rfl rfl rfl rfl rfl) ?_;rintro _ w3 ⟨ho,hb⟩;have hold:=hBV;replace hr_code:=hr_code.onlyA ho hav;replace hW:=hW.self ho;clear hold;have hBV:=hb;clear hb ho;refine Zt hK10 fun a hf=>?_;refine Zs hf fun _ hK11=>?_;refine Zm rfl<|Zm rfl<|Ze (X43 rfl)<|Ze (Vd rfl X3l 2)<|Ze (X0 rfl Xck (hBV.at 2)) ?_;refine Ze (Xp2 rfl rfl)<|Zm rfl<|Ze (Xth Tryz.underlying3 Tryz.underlying78 rfl)<|Ze (Xgt rfl rfl)<|Ze (Xgt rfl rfl) ?_;refine Ze (X43 rfl)<|Ze (Vd rfl X3l 2) ?_;refine Zo (X52 (vs:=[.int .u64 (wu ((wu ((wu (sd*6364136223846793005))+(wu u7)))+1442695040888963407))]) (l':=[.slice Acd code.length ccd,vi ((t:Int)+1),.int .u64 (wu ((wu ((wu (sd*6364136223846793005))+(wu u7)))+1442695040888963407))]) rfl rfl Xm7 hBV rfl rfl rfl rfl rfl) ?_;rintro _ w4 ⟨ho,hb⟩
  have hold:=hBV;replace hr_code:=hr_code.onlyA ho hav;replace hW:=hW.self ho;clear hold;have hBV:=hb;clear hb ho;refine Zt hK11 fun a hf=>?_;refine wp_seq_k fun _ hK12=>?_;refine wp_seq_k fun _ hK13=>?_;refine X05 none (fun _=>false) mixed ?_;intro w5 hE;replace hBV:=hBV.below hE;replace hr_code:=hr_code.below hE;replace hW:=ktr hW hE;refine Yb hf ?_;refine Yo 0 rfl (fun _=>X2 rfl)<|Yo 1 rfl (fun _=>X43 rfl)<|Yo 2 rfl (fun _=>Vd rfl X2w 1)<|Ye 3 rfl (X0 rfl X4 (hBV.at 1))<|Yo 4 rfl (fun _=>X2 rfl) ?_;refine Yo 5 rfl (fun _=>X43 rfl)<|Yo 6 rfl (fun _=>Vd rfl X5i 0)<|Ye 7 rfl (X0 rfl X8l (hBV.at 0))<|Yo 8 rfl (fun _=>X0y rfl X5k)<|Yo 9 rfl (fun _=>X7h rfl rfl) ?_;refine Yd fun a hf=>?_;refine hK13 _ _ ?_
  refine Xe hf rfl (fun hc14=>?_) (fun hc14=>?_)
  ·have hc14b:=hc14;have hc14:=of_decide_eq_true hc14;refine Zs hf fun _ hK15=>?_;refine Zm rfl<|Za rfl ?_;refine Zt hK15 fun a hf=>?_;refine wp_ret ?_;refine X5 ?_;refine X3 hf (Xq hf rfl rfl) ?_;exact ⟨_,t+1,_,rfl,(by first|omega|exact X7t _),⟨by omega,by omega⟩,hW,hBV⟩
  have hc14b:=hc14;have hc14:=of_decide_eq_false hc14;refine wp_skip ?_;refine hK12 _ _ ?_;refine Zs hf fun _ hK16=>?_;refine Zm rfl<|Ze (X43 rfl)<|Ze (Vd rfl X3l 2)<|Ze (X0 rfl Xck (hBV.at 2))<|Ze (Xpe (m:=40) rfl rfl rfl (by decide)) ?_;refine Ze (Xoz rfl rfl)<|Ze (Xtl Tryz.underlying78 Tryz.underlying3 rfl (Xg2 _))<|Za rfl ?_;refine Zt hK16 fun a hf=>?_
  refine wp_ret (X3 hf (Xq hf rfl rfl) ?_)
  exact ⟨_,t+1,_,rfl,(by first|omega|exact X7t _),⟨by omega,by omega⟩,hW,hBV⟩
 have hc6b:=hc6;have hc6:=of_decide_eq_false hc6;refine wp_skip ?_;refine hK4 _ _ ?_;refine Zs hf fun _ hK17=>?_;refine Zm rfl<|Ze (X43 rfl)<|Ze (Vd rfl X2w 1)<|Ze (X0 rfl X4 (hBV.at 1))<|Ze (Xp rfl rfl (by omega) (by omega)) ?_;refine Ze (X43 rfl)<|Ze (Vd rfl X2w 1) ?_;refine Zo (X52 (vs:=[vi ((t:Int)+1)]) (l':=[.slice Acd code.length ccd,vi ((t:Int)+1),.int .u64 sd]) rfl rfl X0h hBV rfl rfl rfl rfl rfl) ?_;rintro _ w6 ⟨ho,hb⟩;have hold:=hBV;replace hr_code:=hr_code.onlyA ho hav;replace hW:=hW.self ho;clear hold;have hBV:=hb;clear hb ho;refine Zt hK17 fun a hf=>?_;refine Zs hf fun _ hK18=>?_;refine Zm rfl<|Zm rfl<|Ze (X43 rfl)<|Ze (Vd rfl X3l 2)<|Ze (X0 rfl Xck (hBV.at 2)) ?_;refine Ze (Xp2 rfl rfl)<|Zm rfl<|Ze (Xth Tryz.underlying3 Tryz.underlying78 rfl)<|Ze (Xgt rfl rfl)<|Ze (Xgt rfl rfl) ?_;refine Ze (X43 rfl)<|Ze (Vd rfl X3l 2) ?_;refine Zo (X52 (vs:=[.int .u64 (wu ((wu ((wu (sd*6364136223846793005))+(wu 0)))+1442695040888963407))]) (l':=[.slice Acd code.length ccd,vi ((t:Int)+1),.int .u64 (wu ((wu ((wu (sd*6364136223846793005))+(wu 0)))+1442695040888963407))]) rfl rfl Xm7 hBV rfl rfl rfl rfl rfl) ?_;rintro _ w7 ⟨ho,hb⟩;have hold:=hBV;replace hr_code:=hr_code.onlyA ho hav;replace hW:=hW.self ho;clear hold;have hBV:=hb;clear hb ho;refine Zt hK18 fun a hf=>?_;refine wp_seq_k fun _ hK19=>?_;refine wp_seq_k fun _ hK20=>?_;refine X05 none (fun _=>false) mixed ?_;intro w8 hE;replace hBV:=hBV.below hE;replace hr_code:=hr_code.below hE;replace hW:=ktr hW hE;refine Yb hf ?_;refine Yo 0 rfl (fun _=>X2 rfl)<|Yo 1 rfl (fun _=>X43 rfl)<|Yo 2 rfl (fun _=>Vd rfl X2w 1)<|Ye 3 rfl (X0 rfl X4 (hBV.at 1))<|Yo 4 rfl (fun _=>X2 rfl) ?_;refine Yo 5 rfl (fun _=>X43 rfl)<|Yo 6 rfl (fun _=>Vd rfl X5i 0)<|Ye 7 rfl (X0 rfl X8l (hBV.at 0))<|Yo 8 rfl (fun _=>X0y rfl X5k)<|Yo 9 rfl (fun _=>X7h rfl rfl) ?_
 refine Yd fun a hf=>?_;refine hK20 _ _ ?_
 refine Xe hf rfl (fun hc21=>?_) (fun hc21=>?_)
 ·have hc21b:=hc21;have hc21:=of_decide_eq_true hc21;refine Zs hf fun _ hK22=>?_;refine Zm rfl<|Za rfl ?_;refine Zt hK22 fun a hf=>?_;refine wp_ret ?_;refine X5 ?_;refine X3 hf (Xq hf rfl rfl) ?_;exact ⟨_,t+1,_,rfl,(by first|omega|exact X7t _),⟨by omega,by omega⟩,hW,hBV⟩
 have hc21b:=hc21;have hc21:=of_decide_eq_false hc21;refine wp_skip ?_;refine hK19 _ _ ?_;refine Zs hf fun _ hK23=>?_;refine Zm rfl<|Ze (X43 rfl)<|Ze (Vd rfl X3l 2)<|Ze (X0 rfl Xck (hBV.at 2))<|Ze (Xpe (m:=40) rfl rfl rfl (by decide)) ?_;refine Ze (Xoz rfl rfl)<|Ze (Xtl Tryz.underlying78 Tryz.underlying3 rfl (Xg2 _))<|Za rfl ?_;refine Zt hK23 fun a hf=>?_
 refine wp_ret (X3 hf (Xq hf rfl rfl) ?_)
 exact ⟨_,t+1,_,rfl,(by first|omega|exact X7t _),⟨by omega,by omega⟩,hW,hBV⟩
theorem X3w(w0:World)(bV:Nat){Xcd:TypeId}(Acd:Option Addr)(ccd:Nat)(code:List Int)(hr_code:Rd w0 w0.heap.size Xcd encU Acd code)(hcd:∀ x ∈ code,0≤x∧x≤255)(hav:AwayR code Acd bV)(t:Nat)(sd:Int)(hBV:Blk w0 bV 80 [.slice Acd code.length ccd,vi (t:Int),.int .u64 sd])(n:Int)(ht:t+2≤100000000) : Ret Tryz.prog 46 [.pointer (some ⟨bV,0,none⟩),vi n] w0 (fun v w=>∃ (x:Int) (t1:Nat) (s1:Int),v=vi x∧(0≤x∧(x=0∨x<n))∧(t≤t1∧t1≤t+2)∧Kept bV w0.heap.size w0 w∧Blk w bV 80 [.slice Acd code.length ccd,vi (t1:Int),.int .u64 s1]):=by
 have hltV:=hBV.lt;refine enter Tryz.func46 rfl 20 rfl rfl ?_;intro a hf
 have hW:Kept bV w0.heap.size w0 w0:=Kept.refl _ _ _
 refine Zs hf fun _ hK2=>?_;refine Za rfl ?_;refine Zt hK2 fun a hf=>?_;refine wp_seq_k fun _ hK3=>?_;refine Zs hf fun _ hK4=>?_;refine Zm rfl<|Ze (X7h rfl rfl) ?_;refine Zt hK4 fun a hf=>?_
 refine Xe hf rfl (fun hc5=>?_) (fun hc5=>?_)
 ·have hc5b:=hc5;have hc5:=of_decide_eq_true hc5
  have hn1:n≤1:=hc5
  refine Zs hf fun _ hK6=>?_;refine Za rfl ?_;refine Zt hK6 fun a hf=>?_;refine wp_ret ?_;refine X5 ?_;refine X3 hf (Xq hf rfl rfl) ?_;exact ⟨0,t,sd,rfl,⟨by omega,.inl rfl⟩,⟨by omega,by omega⟩,hW,hBV⟩
 have hc5b:=hc5;have hc5:=of_decide_eq_false hc5
 have hn1:1<n:=by have:=hc5;omega
 refine wp_skip ?_;refine hK3 _ _ ?_;refine Zs hf fun _ hK7=>?_;refine Zm rfl ?_;refine Zf (Vc (Xox _ bV Acd ccd code hr_code.top hcd hav t sd hBV (by omega)) Xg3) ?_;rintro _ w1 ⟨xz9,tz9,sz9,rfl,hPz9,htz9,hK,hbn⟩;obtain ⟨wm,hO,hm,hE⟩:=hK.mid;clear hm;have hold:=hBV;replace hr_code:=hr_code.onlyA hO hav;replace hW:=hW.self hO;replace hr_code:=hr_code.below hE;replace hW:=ktr hW hE
 clear hold hE hO hK;replace hBV:=hbn;clear hbn;refine Za rfl ?_;refine Zt hK7 fun a hf=>?_;refine wp_seq_k fun _ hK8=>?_;refine Zs hf fun _ hK9=>?_;refine Zm rfl<|Ze (X3e rfl rfl) ?_;refine Zt hK9 fun a hf=>?_
 refine Xe hf rfl (fun hc10=>?_) (fun hc10=>?_)
 ·have hc10b:=hc10;have hc10:=of_decide_eq_true hc10;refine Zr hf ?_;refine Zm rfl<|Ze (Xal rfl rfl (by omega) (by omega))<|Zm rfl ?_;refine Zf (Vc (Xox _ bV Acd ccd code hr_code.top hcd hav tz9 sz9 hBV (by omega)) Xg3) ?_;rintro _ w2 ⟨xz15,tz15,sz15,rfl,hPz15,htz15,hK,hbn⟩;obtain ⟨wm,hO,hm,hE⟩:=hK.mid;clear hm;have hold:=hBV;replace hr_code:=hr_code.onlyA hO hav;replace hW:=hW.self hO;replace hr_code:=hr_code.below hE;replace hW:=ktr hW hE
  clear hold hE hO hK;replace hBV:=hbn;clear hbn;refine Ze (Xp rfl rfl (by omega) (by omega))<|Za rfl ?_;refine Zt hK8 fun a hf=>?_;refine Zs hf fun _ hK11=>?_;refine Zm rfl<|Zm rfl<|Ze (X90 rfl rfl (by simp;omega))<|Za rfl ?_;refine Zt hK11 fun a hf=>?_
  refine wp_ret (X3 hf (Xq hf rfl rfl) ?_)
  exact ⟨_,_,_,rfl,pk (by omega) hn1,⟨by omega,by omega⟩,hW,hBV⟩
 have hc10b:=hc10;have hc10:=of_decide_eq_false hc10;refine wp_skip ?_;refine hK8 _ _ ?_;refine Zs hf fun _ hK12=>?_;refine Zm rfl<|Zm rfl<|Ze (X90 rfl rfl (by simp;omega))<|Za rfl ?_;refine Zt hK12 fun a hf=>?_
 refine wp_ret (X3 hf (Xq hf rfl rfl) ?_)
 exact ⟨_,_,_,rfl,pk (by omega) hn1,⟨by omega,by omega⟩,hW,hBV⟩
theorem Xcy(w0:World)(bV:Nat){Xcd:TypeId}(Acd:Option Addr)(ccd:Nat)(code:List Int)(hr_code:Rd w0 w0.heap.size Xcd encU Acd code)(hcd:∀ x ∈ code,0≤x∧x≤255)(hav:AwayR code Acd bV)(t:Nat)(sd:Int)(hBV:Blk w0 bV 80 [.slice Acd code.length ccd,vi (t:Int),.int .u64 sd])(n:Int)(ht:t+2≤100000000) : Ret Tryz.prog 47 [.pointer (some ⟨bV,0,none⟩),vi n] w0 (fun v w=>∃ (x:Bool) (t1:Nat) (s1:Int),v=.bool x∧(True)∧(t≤t1∧t1≤t+2)∧Kept bV w0.heap.size w0 w∧Blk w bV 80 [.slice Acd code.length ccd,vi (t1:Int),.int .u64 s1]):=by
 have hltV:=hBV.lt;refine enter Tryz.func47 rfl 9 rfl rfl ?_;intro a hf
 have hW:Kept bV w0.heap.size w0 w0:=Kept.refl _ _ _
 refine Zs hf fun _ hK2=>?_;refine Za rfl ?_;refine Zt hK2 fun a hf=>?_;refine Zs hf fun _ hK3=>?_;refine Zm rfl<|Zm rfl ?_;refine Zf (Vc (X3w _ bV Acd ccd code hr_code.top hcd hav t sd hBV n (by omega)) X26) ?_;rintro _ w1 ⟨xz7,tz7,sz7,rfl,hPz7,htz7,hK,hbn⟩;obtain ⟨wm,hO,hm,hE⟩:=hK.mid;clear hm;have hold:=hBV;replace hr_code:=hr_code.onlyA hO hav;replace hW:=hW.self hO;replace hr_code:=hr_code.below hE;replace hW:=ktr hW hE
 clear hold hE hO hK;replace hBV:=hbn;clear hbn;refine Ze (X0u rfl rfl)<|Za rfl ?_;refine Zt hK3 fun a hf=>?_
 refine wp_ret (X3 hf (Xq hf rfl rfl) ?_)
 exact ⟨_,_,_,rfl,trivial,⟨by omega,by omega⟩,hW,hBV⟩
theorem Xjk(w0:World)(bV:Nat){Xcd:TypeId}(Acd:Option Addr)(ccd:Nat)(code:List Int)(hr_code:Rd w0 w0.heap.size Xcd encU Acd code)(hcd:∀ x ∈ code,0≤x∧x≤255)(hav:AwayR code Acd bV)(t:Nat)(sd:Int)(hBV:Blk w0 bV 80 [.slice Acd code.length ccd,vi (t:Int),.int .u64 sd])(Al:Option Addr)(cl:Nat)(l:List Int)(hr_l:Rd w0 w0.heap.size 3 encI Al l)(hl0:0<l.length)(hln:l.length≤1000)(ht:t+2≤100000000) : Ret Tryz.prog 109 [.pointer (some ⟨bV,0,none⟩),.slice Al l.length cl] w0 (fun v w=>∃ (x:Int) (t1:Nat) (s1:Int),v=vi x∧(x ∈ l)∧(t≤t1∧t1≤t+2)∧Kept bV w0.heap.size w0 w∧Blk w bV 80 [.slice Acd code.length ccd,vi (t1:Int),.int .u64 s1]):=by
 have hltV:=hBV.lt;refine enter Tryz.func109 rfl 12 rfl rfl ?_;intro a hf
 have hW:Kept bV w0.heap.size w0 w0:=Kept.refl _ _ _
 refine Zs hf fun _ hK3=>?_;refine Za rfl ?_;refine Zt hK3 fun a hf=>?_;refine Zs hf fun _ hK4=>?_;refine Zm rfl<|Zm rfl<|Zm rfl<|Ze (X0y rfl Xg) ?_;refine Zf (Vc (X3w _ bV Acd ccd code hr_code.top hcd hav t sd hBV (l.length:Int) (by omega)) X26) ?_;rintro _ w1 ⟨xz9,tz9,sz9,rfl,hPz9,htz9,hK,hbn⟩;obtain ⟨wm,hO,hm,hE⟩:=hK.mid;clear hm;have hold:=hBV;replace hr_code:=hr_code.onlyA hO hav;replace hr_l:=hr_l.onlyT hO hold rfl;replace hW:=hW.self hO;replace hr_code:=hr_code.below hE;replace hr_l:=hr_l.below hE;replace hW:=ktr hW hE
 clear hold hE hO hK;replace hBV:=hbn;clear hbn;refine Zi (k:=xz9.toNat) (u:=(l.getD xz9.toNat 0)) (enc:=encI) (l:=l) trivial rfl rfl Xg X0h X6 hr_l (X34 (by omega)) (by omega) ?_;intro p6 hat5;refine Ze (X0 rfl X4 hat5)<|Za rfl ?_;refine Zt hK4 fun a hf=>?_
 refine wp_ret (X3 hf (Xq hf rfl rfl) ?_)
 exact ⟨_,_,_,rfl,Xin (by omega),⟨by omega,by omega⟩,hW,hBV⟩
theorem Xt6(w0:World)(bV:Nat){Xcd:TypeId}(Acd:Option Addr)(ccd:Nat)(code:List Int)(hr_code:Rd w0 w0.heap.size Xcd encU Acd code)(hcd:∀ x ∈ code,0≤x∧x≤255)(hav:AwayR code Acd bV)(t:Nat)(sd:Int)(hBV:Blk w0 bV 80 [.slice Acd code.length ccd,vi (t:Int),.int .u64 sd])(n:Int)(Al:Option Addr)(cl:Nat)(l:List Int)(hr_l:Rd w0 w0.heap.size 3 encI Al l)(hn:1≤n∧n≤100)(hl0:0<l.length)(hln:l.length≤1000)(ht:t+6≤100000000) : Ret Tryz.prog 49 [.pointer (some ⟨bV,0,none⟩),vi n,.slice Al l.length cl] w0 (fun v w=>∃ (x:Gt) (t1:Nat) (s1:Int),v=gV x∧(True)∧(t≤t1∧t1≤t+6)∧Kept bV w0.heap.size w0 w∧Blk w bV 80 [.slice Acd code.length ccd,vi (t1:Int),.int .u64 s1]):=by
 have hltV:=hBV.lt;refine enter Tryz.func49 rfl 42 rfl rfl ?_;intro a hf
 have hW:Kept bV w0.heap.size w0 w0:=Kept.refl _ _ _
 refine Zs hf fun _ hK3=>?_;refine Zf (Xa (zs:=[vi 0,vi 0,vi 0]) X32 rfl) ?_;rintro _ w1 ⟨b4,rfl,hl4,hE,hB4⟩;have hlo4:=Nat.le_trans hW.size hl4;have haw1_4:=hr_code.away hl4;replace hBV:=hBV.below hE;replace hr_code:=hr_code.below hE;replace hr_l:=hr_l.below hE;replace hW:=ktr hW hE;refine Zt hK3 fun a hf=>?_;refine Zs hf fun _ hK5=>?_;refine Zm rfl<|Zm rfl<|Zm rfl<|Ze (X0y rfl Xg) ?_;refine Zf (Vc (X3w _ bV Acd ccd code hr_code.top hcd hav t sd hBV (l.length:Int) (by omega)) X26) ?_;rintro _ w2 ⟨xz12,tz12,sz12,rfl,hPz12,htz12,hK,hbn⟩;obtain ⟨wm,hO,hm,hE⟩:=hK.mid;clear hm;have hold:=hBV;replace hB4:=hB4.only hO (Blk.ne hB4 hold rfl);replace hr_code:=hr_code.onlyA hO hav;replace hr_l:=hr_l.onlyT hO hold rfl;replace hW:=hW.self hO;replace hB4:=hB4.below hE;replace hr_code:=hr_code.below hE;replace hr_l:=hr_l.below hE;replace hW:=ktr hW hE
 clear hold hE hO hK;replace hBV:=hbn;clear hbn;refine Zi (k:=xz12.toNat) (u:=(l.getD xz12.toNat 0)) (enc:=encI) (l:=l) trivial rfl rfl Xg X0h X6 hr_l (X34 (by omega)) (by omega) ?_;intro p7 hat6;refine Ze (X0 rfl X4 hat6)<|Ze (Xz (ps:=[(0,vi (l.getD xz12.toNat 0))]) (cs:=[vi (l.getD xz12.toNat 0),vi 0,vi 0]) rfl (fun _=>by first|rfl|kernel_rfl)) ?_;refine Zf (Xa (zs:=[vi 0,vi 0,vi 0]) X32 rfl) ?_;rintro _ w3 ⟨b8,rfl,hl8,hE,hB8⟩
 have hne4_8:b4≠b8:=by have:=hB4.lt;omega
 have hlo8:=Nat.le_trans hW.size hl8;have haw1_8:=hr_code.away hl8;replace hBV:=hBV.below hE;replace hB4:=hB4.below hE;replace hr_code:=hr_code.below hE;replace hr_l:=hr_l.below hE;replace hW:=ktr hW hE;refine Zo (Vw [vi (l.getD xz12.toNat 0),vi 0,vi 0] X0g hB8) ?_;rintro _ w4 ⟨ho,hb⟩;have hold:=hB8;replace hBV:=hBV.only ho (Blk.ne hBV hold rfl);replace hB4:=hB4.only ho (by omega);replace hr_code:=hr_code.only ho hlo8;replace hr_l:=hr_l.onlyT ho hold rfl;replace hW:=Kept.only hW ho hlo8;clear hold;have hB8:=hb;clear hb ho;refine Zt hK5 fun a hf=>?_;refine wp_seq_k fun _ hK9=>?_;refine Zs hf fun _ hK10=>?_;refine Ze (Vd rfl X0i 0)<|Ze (X0 rfl X4 (hB8.at 0))<|Ze (X0u rfl rfl) ?_;refine Zt hK10 fun a hf=>?_
 refine Xe hf rfl (fun hc11=>?_) (fun hc11=>?_)
 ·have hc11b:=hc11;refine Zs hf fun _ hK12=>?_;refine Ze (Vn Xt hB8) ?_;refine Zo (Vw [vi (l.getD xz12.toNat 0),vi 0,vi 0] X0g hB4) ?_;rintro _ w5 ⟨ho,hb⟩;have hold:=hB4;replace hBV:=hBV.only ho (Blk.ne hBV hold rfl);replace hB8:=hB8.only ho (by omega);replace hr_code:=hr_code.only ho hlo4;replace hW:=Kept.only hW ho hlo4;clear hold;have hB4:=hb;clear hb ho;refine Zt hK12 fun a hf=>?_;refine wp_ret ?_;refine X5 ?_;refine X3 hf (Xq hf rfl (ResV.cellN (l:=[vi (l.getD xz12.toNat 0),vi 0,vi 0]) rfl Xt (hB4.at 0) rfl)) ?_;exact ⟨⟨_,_,_⟩,_,_,rfl,trivial,⟨by omega,by omega⟩,hW,hBV⟩
 have hc11b:=hc11;refine wp_skip ?_;refine hK9 _ _ ?_;refine Zs hf fun _ hK13=>?_;refine Zm rfl<|Zm rfl ?_;refine Zf (Vc (X3w _ bV Acd ccd code hr_code.top hcd hav tz12 sz12 hBV n (by omega)) X26) ?_;rintro _ w6 ⟨xz22,tz22,sz22,rfl,hPz22,htz22,hK,hbn⟩;obtain ⟨wm,hO,hm,hE⟩:=hK.mid;clear hm;have hold:=hBV;replace hB4:=hB4.only hO (Blk.ne hB4 hold rfl);replace hB8:=hB8.only hO (Blk.ne hB8 hold rfl);replace hr_code:=hr_code.onlyA hO hav;replace hW:=hW.self hO;replace hB4:=hB4.below hE;replace hB8:=hB8.below hE;replace hr_code:=hr_code.below hE;replace hW:=ktr hW hE
 clear hold hE hO hK;replace hBV:=hbn;clear hbn;refine Ze (Vd rfl X0r 1) ?_;refine Zo (Vu (vs:=[vi xz22]) (l':=[vi (l.getD xz12.toNat 0),vi xz22,vi 0]) rfl rfl X0h hB8) ?_;rintro _ w7 ⟨ho,hb⟩;have hold:=hB8;replace hBV:=hBV.only ho (Blk.ne hBV hold rfl);replace hB4:=hB4.only ho (by omega);replace hr_code:=hr_code.only ho hlo8;replace hW:=Kept.only hW ho hlo8;clear hold;have hB8:=hb;clear hb ho;refine Zt hK13 fun a hf=>?_;refine wp_seq_k fun _ hK14=>?_;refine Zs hf fun _ hK15=>?_;refine Ze (Vd rfl X0i 0)<|Ze (X0 rfl X4 (hB8.at 0)) ?_;refine Zf (Vc (F85 _ (l.getD xz12.toNat 0) 9 11) X6v) ?_;rintro _ _ ⟨rfl,rfl⟩;refine Zt hK15 fun a hf=>?_
 refine Xe hf rfl (fun hc16=>?_) (fun hc16=>?_)
 ·have hc16b:=hc16;refine wp_seq_k fun _ hK17=>?_;refine Zs hf fun _ hK18=>?_;refine Zm rfl<|Ze (X0u rfl rfl) ?_;refine Zt hK18 fun a hf=>?_
  refine Xe hf rfl (fun hc19=>?_) (fun hc19=>?_)
  ·have hc19b:=hc19;refine Zs hf fun _ hK20=>?_;refine Ze (Xz (ps:=[(0,vi 1)]) (cs:=[vi 1,vi 0,vi 0]) rfl (fun _=>by first|rfl|kernel_rfl)) ?_;refine Zo (Vw [vi 1,vi 0,vi 0] X0g hB4) ?_;rintro _ w8 ⟨ho,hb⟩;have hold:=hB4;replace hBV:=hBV.only ho (Blk.ne hBV hold rfl);replace hB8:=hB8.only ho (by omega);replace hr_code:=hr_code.only ho hlo4;replace hW:=Kept.only hW ho hlo4;clear hold;have hB4:=hb;clear hb ho;refine Zt hK20 fun a hf=>?_;refine wp_ret ?_;refine X5 ?_;refine X5 ?_;refine X3 hf (Xq hf rfl (ResV.cellN (l:=[vi 1,vi 0,vi 0]) rfl Xt (hB4.at 0) rfl)) ?_;exact ⟨⟨_,_,_⟩,_,_,rfl,trivial,⟨by omega,by omega⟩,hW,hBV⟩
  have hc19b:=hc19;refine wp_skip ?_;refine hK17 _ _ ?_;refine X05 (some bV) (fun j=>[11].contains j) mixed ?_;intro w9 hE;replace hBV:=hBV.below hE;replace hB4:=hB4.below hE;replace hB8:=hB8.below hE;replace hr_code:=hr_code.below hE;replace hW:=ktr hW hE;refine Yb hf ?_;refine Yo 0 rfl (fun _=>Vd rfl X0r 1) ?_;refine Yw 1 rfl trivial (fun w1 h1=>X0 rfl X4 ((hB8.only h1 (Blk.ne hB8 hBV rfl)).at 1)) ?_;refine Yo 2 rfl (fun _=>Xp rfl rfl (by omega) (by omega))<|Yo 3 rfl (fun _=>X2 rfl)<|Yo 4 rfl (fun _=>X2 rfl)<|Yo 5 rfl (fun _=>X0s rfl rfl (by omega) (by omega))<|Yo 8 rfl (fun _=>X2 rfl) ?_;refine Y1 6 ?_;refine Yf rfl trivial (EfW.mono (Vc (X3w _ bV Acd ccd code hr_code.top hcd hav tz22 sz22 hBV (n-1) (by omega)) X26) (fun _ _ h=>⟨fun _=>by obtain ⟨xz36,tz36,sz36,rfl,hPz36,htz36,hK,hbn⟩:=h;exact hK.keep,h⟩)) ?_;rintro _ w10 ⟨xz36,tz36,sz36,rfl,hPz36,htz36,hK,hbn⟩;obtain ⟨wm,hO,hm,hE⟩:=hK.mid;clear hm;have hold:=hBV;replace hB4:=hB4.only hO (Blk.ne hB4 hold rfl);replace hB8:=hB8.only hO (Blk.ne hB8 hold rfl);replace hr_code:=hr_code.onlyA hO hav;replace hW:=hW.self hO;replace hB4:=hB4.below hE;replace hB8:=hB8.below hE;replace hr_code:=hr_code.below hE;replace hW:=ktr hW hE
  clear hold hE hO hK;replace hBV:=hbn;clear hbn;refine Yo 7 rfl (fun _=>Xp rfl rfl (by omega) (by omega))<|Yo 9 rfl (fun _=>X90 rfl rfl (by simp;omega))<|Yo 10 rfl (fun _=>Vd rfl X10 2) ?_;refine Y1 11 ?_;refine Yh rfl trivial rfl (Vu (vs:=[vi (((xz22+1)+xz36).tmod n)]) (l':=[vi (l.getD xz12.toNat 0),vi xz22,vi (((xz22+1)+xz36).tmod n)]) rfl rfl X0h hB8) ?_;rintro _ w11 ⟨ho,hb⟩;have hold:=hB8;replace hBV:=hBV.only ho (Blk.ne hBV hold rfl);replace hB4:=hB4.only ho (by omega);replace hr_code:=hr_code.only ho hlo8;replace hW:=Kept.only hW ho hlo8;clear hold;have hB8:=hb;clear hb ho;refine Yd fun a hf=>?_;refine hK14 _ _ ?_;refine Zs hf fun _ hK21=>?_;refine Ze (Vn Xt hB8) ?_;refine Zo (Vw [vi (l.getD xz12.toNat 0),vi xz22,vi (((xz22+1)+xz36).tmod n)] X0g hB4) ?_;rintro _ w12 ⟨ho,hb⟩;have hold:=hB4;replace hBV:=hBV.only ho (Blk.ne hBV hold rfl);replace hB8:=hB8.only ho (by omega);replace hW:=Kept.only hW ho hlo4;clear hold;have hB4:=hb;clear hb ho;refine Zt hK21 fun a hf=>?_
  refine wp_ret (X3 hf (Xq hf rfl (ResV.cellN (l:=[vi (l.getD xz12.toNat 0),vi xz22,vi (((xz22+1)+xz36).tmod n)]) rfl Xt (hB4.at 0) rfl)) ?_)
  exact ⟨⟨_,_,_⟩,_,_,rfl,trivial,⟨by omega,by omega⟩,hW,hBV⟩
 have hc16b:=hc16;refine wp_skip ?_;refine hK14 _ _ ?_;refine Zs hf fun _ hK22=>?_;refine Ze (Vn Xt hB8) ?_;refine Zo (Vw [vi (l.getD xz12.toNat 0),vi xz22,vi 0] X0g hB4) ?_;rintro _ w13 ⟨ho,hb⟩;have hold:=hB4;replace hBV:=hBV.only ho (Blk.ne hBV hold rfl);replace hB8:=hB8.only ho (by omega);replace hr_code:=hr_code.only ho hlo4;replace hW:=Kept.only hW ho hlo4;clear hold;have hB4:=hb;clear hb ho;refine Zt hK22 fun a hf=>?_
 refine wp_ret (X3 hf (Xq hf rfl (ResV.cellN (l:=[vi (l.getD xz12.toNat 0),vi xz22,vi 0]) rfl Xt (hB4.at 0) rfl)) ?_)
 exact ⟨⟨_,_,_⟩,_,_,rfl,trivial,⟨by omega,by omega⟩,hW,hBV⟩
theorem Xp3(w0:World)(bV:Nat){Xcd:TypeId}(Acd:Option Addr)(ccd:Nat)(code:List Int)(hr_code:Rd w0 w0.heap.size Xcd encU Acd code)(hcd:∀ x ∈ code,0≤x∧x≤255)(hav:AwayR code Acd bV)(t:Nat)(sd:Int)(hBV:Blk w0 bV 80 [.slice Acd code.length ccd,vi (t:Int),.int .u64 sd])(n:Int)(most:Int)(Al:Option Addr)(cl:Nat)(l:List Int)(hr_l:Rd w0 w0.heap.size 3 encI Al l)(hn:1≤n∧n≤100)(hm:0≤most∧most≤1000)(hl0:0<l.length)(hln:l.length≤1000)(ht:t+(2+6*most.toNat)≤100000000) : Ret Tryz.prog 153 [.pointer (some ⟨bV,0,none⟩),vi n,vi most,.slice Al l.length cl] w0 (fun v w=>∃ (c:Cx) (A:Option Addr) (e:Nat) (t1:Nat) (s1:Int),v=.agg #[vi c.n,.slice A c.gs.length e]∧(c.n=n∧(c.gs.length:Int)≤most)∧(t≤t1∧t1≤t+(2+6*most.toNat))∧Own w w0.heap.size 24 3 encG A e c.gs∧Kept bV w0.heap.size w0 w∧Blk w bV 80 [.slice Acd code.length ccd,vi (t1:Int),.int .u64 s1]):=by
 have hltV:=hBV.lt;refine enter Tryz.func153 rfl 31 rfl rfl ?_;intro a hf
 have hW:Kept bV w0.heap.size w0 w0:=Kept.refl _ _ _
 refine Zs hf fun _ hK3=>?_;refine Zf (Xa (zs:=[vi 0,.slice none 0 0]) X5t rfl) ?_;rintro _ w1 ⟨b5,rfl,hl5,hE,hB5⟩;have hlo5:=Nat.le_trans hW.size hl5;have haw1_5:=hr_code.away hl5;replace hBV:=hBV.below hE;replace hr_code:=hr_code.below hE;replace hr_l:=hr_l.below hE;replace hW:=ktr hW hE;refine Zt hK3 fun a hf=>?_;refine Zs hf fun _ hK6=>?_;refine Zm rfl<|Ze (Xz (ps:=[(0,vi n)]) (cs:=[vi n,.slice none 0 0]) rfl (fun _=>by first|rfl|kernel_rfl)) ?_;refine Zf (Xa (zs:=[vi 0,.slice none 0 0]) X5t rfl) ?_;rintro _ w2 ⟨b9,rfl,hl9,hE,hB9⟩
 have hne5_9:b5≠b9:=by have:=hB5.lt;omega
 have hlo9:=Nat.le_trans hW.size hl9;have haw1_9:=hr_code.away hl9;replace hBV:=hBV.below hE;replace hB5:=hB5.below hE;replace hr_code:=hr_code.below hE;replace hr_l:=hr_l.below hE;replace hW:=ktr hW hE;refine Zo (Vw [vi n,.slice none 0 0] X22 hB9) ?_;rintro _ w3 ⟨ho,hb⟩;have hold:=hB9;replace hBV:=hBV.only ho (Blk.ne hBV hold rfl);replace hB5:=hB5.only ho (by omega);replace hr_code:=hr_code.only ho hlo9;replace hr_l:=hr_l.onlyT ho hold rfl;replace hW:=Kept.only hW ho hlo9;clear hold;have hB9:=hb;clear hb ho;refine Zt hK6 fun a hf=>?_;refine wp_seq_k fun _ hK10=>?_;refine Zs hf fun _ hK11=>?_;refine Zm rfl<|Zm rfl<|Ze (Xp rfl rfl (by omega) (by omega)) ?_;refine Zf (Vc (X3w _ bV Acd ccd code hr_code.top hcd hav t sd hBV (most+1) (by omega)) X26) ?_;rintro _ w4 ⟨xz16,tz16,sz16,rfl,hPz16,htz16,hK,hbn⟩;obtain ⟨wm,hO,hm,hE⟩:=hK.mid;clear hm;have hold:=hBV;replace hB5:=hB5.only hO (Blk.ne hB5 hold rfl);replace hB9:=hB9.only hO (Blk.ne hB9 hold rfl);replace hr_code:=hr_code.onlyA hO hav;replace hr_l:=hr_l.onlyT hO hold rfl;replace hW:=hW.self hO;replace hB5:=hB5.below hE;replace hB9:=hB9.below hE;replace hr_code:=hr_code.below hE;replace hr_l:=hr_l.below hE;replace hW:=ktr hW hE
 clear hold hE hO hK;replace hBV:=hbn;clear hbn;refine Za rfl ?_;refine Zt hK11 fun a hf=>?_;refine wp_block ?_;refine Xx (σ:=Int×(List Gt)×Nat×Int) (fun (s:Int×(List Gt)×Nat×Int) (a:Act) (w:World)=>match s with|(j,gs,t2,s2)=>∃ A12 c12,Fr a 31 [(0,.pointer (some ⟨bV,0,none⟩)),(1,vi n),(3,.slice Al l.length cl),(8,.pointer (some ⟨b5,0,none⟩)),(9,.pointer (some ⟨b9,0,none⟩)),(10,vi j)]∧(0≤j∧j+gs.length≤most)∧(t≤t2∧t2+6*j.toNat≤t+(2+6*most.toNat))∧Blk w bV 80 [.slice Acd code.length ccd,vi (t2:Int),.int .u64 s2]∧Blk w b5 31 [vi 0,.slice none 0 0]∧Blk w b9 31 [vi n,.slice A12 gs.length c12]∧Rd w w0.heap.size Xcd encU Acd code∧Rd w w0.heap.size 3 encI Al l∧Own w w0.heap.size 24 3 encG A12 c12 gs∧Kept bV w0.heap.size w0 w) (fun (s:Int×(List Gt)×Nat×Int)=>match s with|(j,gs,t2,s2)=>j.toNat) (xz16,[],tz16,sz16) ?_ ?_
 ·exact ⟨none,0,hf.sub ⟨rfl,rfl,rfl,rfl,rfl,rfl,trivial⟩,(by simp;omega),(by omega),hBV,hB5,hB9,hr_code,hr_l,(Own.nil _ _ _ _ _),hW⟩
 rintro ⟨j,gs,t2,s2⟩ a w5 ⟨A12,c12,hf,hj,htt,hBV,hB5,hB9,hr_code,hr_l,ho12,hW⟩;refine wp_seq_k fun _ hK13=>?_;refine Zs hf fun _ hK14=>?_;refine Zm rfl<|Ze (X3e rfl rfl) ?_;refine Zt hK14 fun a hf=>?_
 refine Xe hf rfl (fun hc15=>?_) (fun hc15=>?_)
 ·have hc15b:=hc15;have hc15:=of_decide_eq_true hc15;refine wp_skip ?_;refine hK13 _ _ ?_;refine wp_seq_k fun _ hK16=>?_;refine wp_block ?_;refine X05 (some bV) (fun j=>[7,9].contains j) mixed ?_;intro w6 hE;replace hBV:=hBV.below hE;replace hB5:=hB5.below hE;replace hB9:=hB9.below hE;replace hr_code:=hr_code.below hE;replace hr_l:=hr_l.below hE;replace ho12:=ho12.below hE;replace hW:=ktr hW hE;refine Yb hf ?_;refine Yo 0 rfl (fun _=>Vd rfl X0k 1) ?_;refine Yw 1 rfl trivial (fun w1 h1=>X0 rfl X14 ((hB9.only h1 (Blk.ne hB9 hBV rfl)).at 1)) ?_;refine Yo 2 rfl (fun _=>X2 rfl)<|Yo 3 rfl (fun _=>X2 rfl)<|Yo 4 rfl (fun _=>X2 rfl) ?_;refine Y1 5 ?_;refine Yf rfl trivial (EfW.mono (Vc (Xt6 _ bV Acd ccd code hr_code.top hcd hav t2 s2 hBV n Al cl l hr_l.top hn hl0 hln (by omega)) Xo5) (fun _ _ h=>⟨fun _=>by obtain ⟨xz26,tz26,sz26,rfl,hPz26,htz26,hK,hbn⟩:=h;exact hK.keep,h⟩)) ?_;rintro _ w7 ⟨xz26,tz26,sz26,rfl,hPz26,htz26,hK,hbn⟩;obtain ⟨wm,hO,hm,hE⟩:=hK.mid;clear hm;have hold:=hBV;replace hB5:=hB5.only hO (Blk.ne hB5 hold rfl);replace hB9:=hB9.only hO (Blk.ne hB9 hold rfl);replace hr_code:=hr_code.onlyA hO hav;replace hr_l:=hr_l.onlyT hO hold rfl;replace ho12:=ho12.onlyT hO hold rfl;replace hW:=hW.self hO;replace hB5:=hB5.below hE;replace hB9:=hB9.below hE;replace hr_code:=hr_code.below hE;replace hr_l:=hr_l.below hE;replace ho12:=ho12.below hE;replace hW:=ktr hW hE
  clear hold hE hO hK;replace hBV:=hbn;clear hbn;refine Y1 6 ?_;refine Yf rfl trivial (EfW.mono (Xm (k:=1) (vs:=[.agg #[vi xz26.k,vi xz26.a,vi xz26.b]]) (zs:=[vi xz26.k,vi xz26.a,vi xz26.b]) rfl X0c X1v rfl rfl) (fun _ _ h=>⟨fun _=>by obtain ⟨_,_,_,hE,_⟩:=h;exact Keep.of_below hE,h⟩)) ?_;rintro _ w8 ⟨b17,rfl,hl17,hE,hB17⟩;have hlo17:=Nat.le_trans hW.size hl17;have haw1_17:=hr_code.away hl17;have haw12_17:=ho12.away hl17;replace hBV:=hBV.below hE;replace hB5:=hB5.below hE;replace hB9:=hB9.below hE;replace hr_code:=hr_code.below hE;replace hr_l:=hr_l.below hE;replace ho12:=ho12.below hE;replace hW:=ktr hW hE;refine Y1 7 ?_;refine Yt rfl trivial rfl (X1h (enc:=encG) (l:=(gs)) (l2:=([xz26])) (B0:=w0.heap.size) rfl rfl X0c X1v X0d X45 ho12 (Rd.of_blk hB17 rfl _ hB17.lt) (by simp only [maxLen];simp;omega) (by simp;omega) hW.size) ?_;rintro _ w9 ⟨A19,c19,rfl,ho19,hg,hat⟩
  have hown:Own _ w0.heap.size 24 3 encG _ _ (gs):=ho12
  have haw19_17:=hat _ hB17.lt haw12_17;clear hat;replace hBV:=hBV.appT hown hg rfl;replace hB5:=hB5.appT hown hg rfl;replace hB9:=hB9.appT hown hg rfl;replace hr_code:=hr_code.appB hown hg (Nat.le_refl _);replace hr_l:=hr_l.appT hown hg rfl;replace hW:=Kept.app hW hown hg (Nat.le_refl _) hW.size;clear hown hg;refine Yo 8 rfl (fun _=>Vd rfl X0k 1) ?_;refine Y1 9 ?_;refine Yh rfl trivial rfl (Vu (vs:=[.slice A19 (gs++([xz26])).length c19]) (l':=[vi n,.slice A19 (gs++([xz26])).length c19]) rfl rfl Xl8 hB9) ?_;rintro _ w10 ⟨ho,hb⟩;have hold:=hB9;replace hBV:=hBV.only ho (Blk.ne hBV hold rfl);replace hB5:=hB5.only ho (by omega);replace hr_code:=hr_code.only ho hlo9;replace hr_l:=hr_l.onlyT ho hold rfl;replace ho19:=ho19.onlyT ho hold rfl;replace hW:=Kept.only hW ho hlo9;clear hold;have hB9:=hb;clear hb ho;refine Yd fun a hf=>?_;refine Xd ?_;refine hK16 _ _ ?_;refine Zr hf ?_;refine Zm rfl<|Ze (X0s rfl rfl (by omega) (by omega))<|Za rfl ?_;refine Zn fun a hf=>?_;refine Xc ?_;exact ⟨(j-1,gs++[xz26],tz26,sz26),⟨A19,c19,hf.sub ⟨rfl,rfl,rfl,rfl,rfl,rfl,trivial⟩,(by simp;omega),(by omega),hBV,hB5,hB9,hr_code,hr_l,ho19,hW⟩,(by first|omega|(dsimp only;omega))⟩
 have hc15b:=hc15;have hc15:=of_decide_eq_false hc15;refine wp_exit ?_;refine Xf ?_;refine Xf ?_;refine Xy ?_;refine hK10 _ _ ?_;refine Zs hf fun _ hK20=>?_;refine Ze (Vn X0q hB9) ?_;refine Zo (Vw [vi n,.slice A12 gs.length c12] X22 hB5) ?_;rintro _ w11 ⟨ho,hb⟩;have hold:=hB5;replace hBV:=hBV.only ho (Blk.ne hBV hold rfl);replace hB9:=hB9.only ho (by omega);replace hr_code:=hr_code.only ho hlo5;replace hr_l:=hr_l.onlyT ho hold rfl;replace ho12:=ho12.onlyT ho hold rfl;replace hW:=Kept.only hW ho hlo5;clear hold;have hB5:=hb;clear hb ho;refine Zt hK20 fun a hf=>?_
 refine wp_ret (X3 hf (Xq hf rfl (ResV.cellN (l:=[vi n,.slice A12 gs.length c12]) rfl X0q (hB5.at 0) rfl)) ?_)
 exact ⟨⟨n,gs⟩,A12,c12,_,_,rfl,⟨rfl,by show (gs.length:Int)≤most;omega⟩,⟨by omega,by omega⟩,ho12,hW,hBV⟩
theorem Xu8(w0:World)(bV:Nat){Xcd:TypeId}(Acd:Option Addr)(ccd:Nat)(code:List Int)(hr_code:Rd w0 w0.heap.size Xcd encU Acd code)(hcd:∀ x ∈ code,0≤x∧x≤255)(hav:AwayR code Acd bV)(t:Nat)(sd:Int)(hBV:Blk w0 bV 80 [.slice Acd code.length ccd,vi (t:Int),.int .u64 sd])(ht:t+52≤100000000) : Ret Tryz.prog 152 [.pointer (some ⟨bV,0,none⟩)] w0 (fun v w=>∃ (c:Cx) (A:Option Addr) (e:Nat) (t1:Nat) (s1:Int),v=.agg #[vi c.n,.slice A c.gs.length e]∧((1≤c.n∧c.n≤3)∧c.gs.length≤8)∧(t≤t1∧t1≤t+52)∧Own w w0.heap.size 24 3 encG A e c.gs∧Kept bV w0.heap.size w0 w∧Blk w bV 80 [.slice Acd code.length ccd,vi (t1:Int),.int .u64 s1]):=by
 have hltV:=hBV.lt;refine enter Tryz.func152 rfl 9 rfl rfl ?_;intro a hf
 have hW:Kept bV w0.heap.size w0 w0:=Kept.refl _ _ _
 refine Zs hf fun _ hK2=>?_;refine Zf (Xa (zs:=[vi 0,.slice none 0 0]) X5t rfl) ?_;rintro _ w1 ⟨b4,rfl,hl4,hE,hB4⟩;have hlo4:=Nat.le_trans hW.size hl4;have haw1_4:=hr_code.away hl4;replace hBV:=hBV.below hE;replace hr_code:=hr_code.below hE;replace hW:=ktr hW hE;refine Zt hK2 fun a hf=>?_;refine Zs hf fun _ hK5=>?_;refine Zm rfl<|Zm rfl ?_;refine Zf (Xm (k:=4) (vs:=[vi 1,vi 2,vi 2,vi 3]) (zs:=[vi 1,vi 2,vi 2,vi 3]) rfl Xg X19 rfl rfl) ?_;rintro _ w2 ⟨b6,rfl,hl6,hE,hB6⟩;have hlo6:=Nat.le_trans hW.size hl6;have haw1_6:=hr_code.away hl6;replace hBV:=hBV.below hE;replace hB4:=hB4.below hE;replace hr_code:=hr_code.below hE;replace hW:=ktr hW hE;refine Zf (Vc (Xjk _ bV Acd ccd code hr_code.top hcd hav t sd hBV (some ⟨b6,0,none⟩) 4 ([1,2,2,3]) (Rd.of_blk hB6 rfl _ hB6.lt) (by simp) (by simp) (by omega)) Xbs) ?_;rintro _ w3 ⟨xz6,tz6,sz6,rfl,hPz6,htz6,hK,hbn⟩;obtain ⟨wm,hO,hm,hE⟩:=hK.mid;clear hm;have hold:=hBV;replace hB4:=hB4.only hO (Blk.ne hB4 hold rfl);replace hB6:=hB6.only hO (Blk.ne hB6 hold rfl);replace hr_code:=hr_code.onlyA hO hav;replace hW:=hW.self hO;replace hB4:=hB4.below hE;replace hB6:=hB6.below hE;replace hr_code:=hr_code.below hE;replace hW:=ktr hW hE
 clear hold hE hO hK;replace hBV:=hbn;clear hbn;refine Zf (Xm (k:=15) (vs:=[vi 1,vi 2,vi 3,vi 4,vi 5,vi 6,vi 7,vi 8,vi 9,vi 9,vi 10,vi 11,vi 12,vi 7,vi 1]) (zs:=[vi 1,vi 2,vi 3,vi 4,vi 5,vi 6,vi 7,vi 8,vi 9,vi 9,vi 10,vi 11,vi 12,vi 7,vi 1]) rfl Xg X19 rfl rfl) ?_;rintro _ w4 ⟨b8,rfl,hl8,hE,hB8⟩
 have hne6_8:b6≠b8:=by have:=hB6.lt;omega
 have hlo8:=Nat.le_trans hW.size hl8;have haw1_8:=hr_code.away hl8;replace hBV:=hBV.below hE;replace hB4:=hB4.below hE;replace hB6:=hB6.below hE;replace hr_code:=hr_code.below hE;replace hW:=ktr hW hE;refine Zf (Vc (Xp3 _ bV Acd ccd code hr_code.top hcd hav tz6 sz6 hBV xz6 8 (some ⟨b8,0,none⟩) 15 ([1,2,3,4,5,6,7,8,9,9,10,11,12,7,1]) (Rd.of_blk hB8 rfl _ hB8.lt) (by simp at hPz6;omega) (by omega) (by simp) (by simp) (by omega)) Xg5) ?_;rintro _ w5 ⟨cz8,Az8,ez8,tz8,sz8,rfl,hPz8,htz8,hoz8,hK,hbn⟩;have hlv:=hW.size;obtain ⟨wm,hO,hm,hE⟩:=hK.mid;clear hm;have hold:=hBV;replace hB4:=hB4.only hO (Blk.ne hB4 hold rfl);replace hB6:=hB6.only hO (Blk.ne hB6 hold rfl);replace hB8:=hB8.only hO (Blk.ne hB8 hold rfl);replace hr_code:=hr_code.onlyA hO hav;replace hW:=hW.self hO;replace hB4:=hB4.below hE;replace hB6:=hB6.below hE;replace hB8:=hB8.below hE;replace hr_code:=hr_code.below hE;replace hW:=ktr hW hE
 clear hold hE hO hK;replace hBV:=hbn;clear hbn
 replace hoz8:=hoz8.lower hlv;clear hlv;refine Zo (Vw [vi cz8.n,.slice Az8 cz8.gs.length ez8] X22 hB4) ?_;rintro _ w6 ⟨ho,hb⟩;have hold:=hB4;replace hBV:=hBV.only ho (Blk.ne hBV hold rfl);replace hB6:=hB6.only ho (Blk.ne hB6 hold rfl);replace hB8:=hB8.only ho (Blk.ne hB8 hold rfl);replace hr_code:=hr_code.only ho hlo4;replace hoz8:=hoz8.onlyT ho hold rfl;replace hW:=Kept.only hW ho hlo4;clear hold;have hB4:=hb;clear hb ho;refine Zt hK5 fun a hf=>?_
 refine wp_ret (X3 hf (Xq hf rfl (ResV.cellN (l:=[vi cz8.n,.slice Az8 cz8.gs.length ez8]) rfl X0q (hB4.at 0) rfl)) ?_)
 exact ⟨_,Az8,ez8,_,_,rfl,⟨(by simp at hPz6;omega),(by omega)⟩,⟨by omega,by omega⟩,hoz8,hW,hBV⟩
theorem Xuh(w0:World)(bV:Nat){Xcd:TypeId}(Acd:Option Addr)(ccd:Nat)(code:List Int)(hr_code:Rd w0 w0.heap.size Xcd encU Acd code)(hcd:∀ x ∈ code,0≤x∧x≤255)(hav:AwayR code Acd bV)(t:Nat)(sd:Int)(hBV:Blk w0 bV 80 [.slice Acd code.length ccd,vi (t:Int),.int .u64 sd])(ht:t+60≤100000000) : Ret Tryz.prog 90 [.pointer (some ⟨bV,0,none⟩)] w0 (fun v w=>∃ (c:Cx) (A:Option Addr) (e:Nat) (t1:Nat) (s1:Int),v=.agg #[vi c.n,.slice A c.gs.length e]∧((0≤c.n∧c.n≤6)∧c.gs.length≤9)∧(t≤t1∧t1≤t+60)∧Own w w0.heap.size 24 3 encG A e c.gs∧Kept bV w0.heap.size w0 w∧Blk w bV 80 [.slice Acd code.length ccd,vi (t1:Int),.int .u64 s1]):=by
 have hltV:=hBV.lt;refine enter Tryz.func90 rfl 31 rfl rfl ?_;intro a hf
 have hW:Kept bV w0.heap.size w0 w0:=Kept.refl _ _ _
 refine Zs hf fun _ hK2=>?_;refine Zf (Xa (zs:=[vi 0,.slice none 0 0]) X5t rfl) ?_;rintro _ w1 ⟨b4,rfl,hl4,hE,hB4⟩;have hlo4:=Nat.le_trans hW.size hl4;have haw1_4:=hr_code.away hl4;replace hBV:=hBV.below hE;replace hr_code:=hr_code.below hE;replace hW:=ktr hW hE;refine Zt hK2 fun a hf=>?_;refine Zs hf fun _ hK5=>?_;refine Zm rfl ?_;refine Zf (Vc (Xu8 _ bV Acd ccd code hr_code.top hcd hav t sd hBV (by omega)) Xng) ?_;rintro _ w2 ⟨cz5,Az5,ez5,tz5,sz5,rfl,hPz5,htz5,hoz5,hK,hbn⟩;have hlv:=hW.size;obtain ⟨wm,hO,hm,hE⟩:=hK.mid;clear hm;have hold:=hBV;replace hB4:=hB4.only hO (Blk.ne hB4 hold rfl);replace hr_code:=hr_code.onlyA hO hav;replace hW:=hW.self hO;replace hB4:=hB4.below hE;replace hr_code:=hr_code.below hE;replace hW:=ktr hW hE
 clear hold hE hO hK;replace hBV:=hbn;clear hbn
 replace hoz5:=hoz5.lower hlv;clear hlv;refine Zf (Xa (zs:=[vi 0,.slice none 0 0]) X5t rfl) ?_;rintro _ w3 ⟨b8,rfl,hl8,hE,hB8⟩
 have hne4_8:b4≠b8:=by have:=hB4.lt;omega
 have hlo8:=Nat.le_trans hW.size hl8;have haw1_8:=hr_code.away hl8;replace hBV:=hBV.below hE;replace hB4:=hB4.below hE;replace hr_code:=hr_code.below hE;replace hoz5:=hoz5.below hE;replace hW:=ktr hW hE;refine Zo (Vw [vi cz5.n,.slice Az5 cz5.gs.length ez5] X22 hB8) ?_;rintro _ w4 ⟨ho,hb⟩;have hold:=hB8;replace hBV:=hBV.only ho (Blk.ne hBV hold rfl);replace hB4:=hB4.only ho (by omega);replace hr_code:=hr_code.only ho hlo8;replace hoz5:=hoz5.onlyT ho hold rfl;replace hW:=Kept.only hW ho hlo8;clear hold;have hB8:=hb;clear hb ho;refine Zt hK5 fun a hf=>?_;refine wp_seq_k fun _ hK9=>?_;refine Zs hf fun _ hK10=>?_;refine Zm rfl ?_;refine Zf (Vc (X3w _ bV Acd ccd code hr_code.top hcd hav tz5 sz5 hBV 14 (by omega)) X26) ?_;rintro _ w5 ⟨xz7,tz7,sz7,rfl,hPz7,htz7,hK,hbn⟩;obtain ⟨wm,hO,hm,hE⟩:=hK.mid;clear hm;have hold:=hBV;replace hB4:=hB4.only hO (Blk.ne hB4 hold rfl);replace hB8:=hB8.only hO (Blk.ne hB8 hold rfl);replace hr_code:=hr_code.onlyA hO hav;replace hoz5:=hoz5.onlyT hO hold rfl;replace hW:=hW.self hO;replace hB4:=hB4.below hE;replace hB8:=hB8.below hE;replace hr_code:=hr_code.below hE;replace hoz5:=hoz5.below hE;replace hW:=ktr hW hE
 clear hold hE hO hK;replace hBV:=hbn;clear hbn;refine Zt hK10 fun a hf=>?_;refine wp_block ?_;refine Zs hf fun _ hK11=>?_;refine Ze (X0u rfl rfl)<|Za rfl ?_;refine Zt hK11 fun a hf=>?_
 refine Xe hf rfl (fun hc12=>?_) (fun hc12=>?_)
 ·have hc12b:=hc12;refine Zr hf ?_;refine Zm rfl ?_;refine Zf (Xm (k:=4) (vs:=[vi 0,vi 1,vi 5,vi 6]) (zs:=[vi 0,vi 1,vi 5,vi 6]) rfl Xg X19 rfl rfl) ?_;rintro _ w6 ⟨b13,rfl,hl13,hE,hB13⟩;have hlo13:=Nat.le_trans hW.size hl13;have haw1_13:=hr_code.away hl13;replace hBV:=hBV.below hE;replace hB4:=hB4.below hE;replace hB8:=hB8.below hE;replace hr_code:=hr_code.below hE;replace hoz5:=hoz5.below hE;replace hW:=ktr hW hE;refine Zf (Vc (Xjk _ bV Acd ccd code hr_code.top hcd hav tz7 sz7 hBV (some ⟨b13,0,none⟩) 4 ([0,1,5,6]) (Rd.of_blk hB13 rfl _ hB13.lt) (by simp) (by simp) (by omega)) Xbs) ?_;rintro _ w7 ⟨xz12,tz12,sz12,rfl,hPz12,htz12,hK,hbn⟩;obtain ⟨wm,hO,hm,hE⟩:=hK.mid;clear hm;have hold:=hBV;replace hB4:=hB4.only hO (Blk.ne hB4 hold rfl);replace hB8:=hB8.only hO (Blk.ne hB8 hold rfl);replace hB13:=hB13.only hO (Blk.ne hB13 hold rfl);replace hr_code:=hr_code.onlyA hO hav;replace hoz5:=hoz5.onlyT hO hold rfl;replace hW:=hW.self hO;replace hB4:=hB4.below hE;replace hB8:=hB8.below hE;replace hB13:=hB13.below hE;replace hr_code:=hr_code.below hE;replace hoz5:=hoz5.below hE;replace hW:=ktr hW hE
  clear hold hE hO hK;replace hBV:=hbn;clear hbn;refine Ze (Vd rfl X3h 0) ?_;refine Zo (Vu (vs:=[vi xz12]) (l':=[vi xz12,.slice Az5 cz5.gs.length ez5]) rfl rfl X0h hB8) ?_;rintro _ w8 ⟨ho,hb⟩;have hold:=hB8;replace hBV:=hBV.only ho (Blk.ne hBV hold rfl);replace hB4:=hB4.only ho (by omega);replace hB13:=hB13.only ho (Blk.ne hB13 hold rfl);replace hr_code:=hr_code.only ho hlo8;replace hoz5:=hoz5.onlyT ho hold rfl;replace hW:=Kept.only hW ho hlo8;clear hold;have hB8:=hb;clear hb ho;refine Zn fun a hf=>?_;refine Xd ?_;refine hK9 _ _ ?_;refine Zs hf fun _ hK15=>?_;refine Ze (Vn X0q hB8) ?_;refine Zo (Vw [vi xz12,.slice Az5 cz5.gs.length ez5] X22 hB4) ?_;rintro _ w9 ⟨ho,hb⟩;have hold:=hB4;replace hBV:=hBV.only ho (Blk.ne hBV hold rfl);replace hB8:=hB8.only ho (by omega);replace hoz5:=hoz5.onlyT ho hold rfl;replace hW:=Kept.only hW ho hlo4;clear hold;have hB4:=hb;clear hb ho;refine Zt hK15 fun a hf=>?_
  refine wp_ret (X3 hf (Xq hf rfl (ResV.cellN (l:=[vi xz12,.slice Az5 cz5.gs.length ez5]) rfl X0q (hB4.at 0) rfl)) ?_)
  exact ⟨⟨xz12,cz5.gs⟩,Az5,ez5,_,_,rfl,⟨(by simp at hPz12;show 0≤xz12∧xz12≤6;omega),(by show cz5.gs.length≤9;omega)⟩,⟨by omega,by omega⟩,hoz5,hW,hBV⟩
 have hc12b:=hc12;refine Zs hf fun _ hK16=>?_;refine Ze (X0u rfl rfl)<|Za rfl ?_;refine Zt hK16 fun a hf=>?_
 refine Xe hf rfl (fun hc17=>?_) (fun hc17=>?_)
 ·have hc17b:=hc17;refine X05 (some bV) (fun j=>[12,14].contains j) mixed ?_;intro w10 hE;replace hBV:=hBV.below hE;replace hB4:=hB4.below hE;replace hB8:=hB8.below hE;replace hr_code:=hr_code.below hE;replace hoz5:=hoz5.below hE;replace hW:=ktr hW hE;refine Yb hf ?_;refine Yo 0 rfl (fun _=>Vd rfl X0k 1) ?_;refine Yw 1 rfl trivial (fun w1 h1=>X0 rfl X14 ((hB8.only h1 (Blk.ne hB8 hBV rfl)).at 1)) ?_;refine Yo 2 rfl (fun _=>X2 rfl)<|Yo 4 rfl (fun _=>X2 rfl)<|Yo 7 rfl (fun _=>X2 rfl) ?_;refine Y1 3 ?_;refine Yf rfl trivial (EfW.mono (Vc (X3w _ bV Acd ccd code hr_code.top hcd hav tz7 sz7 hBV 14 (by omega)) X26) (fun _ _ h=>⟨fun _=>by obtain ⟨xz19,tz19,sz19,rfl,hPz19,htz19,hK,hbn⟩:=h;exact hK.keep,h⟩)) ?_;rintro _ w11 ⟨xz19,tz19,sz19,rfl,hPz19,htz19,hK,hbn⟩;obtain ⟨wm,hO,hm,hE⟩:=hK.mid;clear hm;have hold:=hBV;replace hB4:=hB4.only hO (Blk.ne hB4 hold rfl);replace hB8:=hB8.only hO (Blk.ne hB8 hold rfl);replace hr_code:=hr_code.onlyA hO hav;replace hoz5:=hoz5.onlyT hO hold rfl;replace hW:=hW.self hO;replace hB4:=hB4.below hE;replace hB8:=hB8.below hE;replace hr_code:=hr_code.below hE;replace hoz5:=hoz5.below hE;replace hW:=ktr hW hE
  clear hold hE hO hK;replace hBV:=hbn;clear hbn;refine Y1 5 ?_;refine Yf rfl trivial (EfW.mono (Vc (X3w _ bV Acd ccd code hr_code.top hcd hav tz19 sz19 hBV 4 (by omega)) X26) (fun _ _ h=>⟨fun _=>by obtain ⟨xz21,tz21,sz21,rfl,hPz21,htz21,hK,hbn⟩:=h;exact hK.keep,h⟩)) ?_;rintro _ w12 ⟨xz21,tz21,sz21,rfl,hPz21,htz21,hK,hbn⟩;obtain ⟨wm,hO,hm,hE⟩:=hK.mid;clear hm;have hold:=hBV;replace hB4:=hB4.only hO (Blk.ne hB4 hold rfl);replace hB8:=hB8.only hO (Blk.ne hB8 hold rfl);replace hr_code:=hr_code.onlyA hO hav;replace hoz5:=hoz5.onlyT hO hold rfl;replace hW:=hW.self hO;replace hB4:=hB4.below hE;replace hB8:=hB8.below hE;replace hr_code:=hr_code.below hE;replace hoz5:=hoz5.below hE;replace hW:=ktr hW hE
  clear hold hE hO hK;replace hBV:=hbn;clear hbn;refine Yo 6 rfl (fun _=>X0s rfl rfl (by omega) (by omega)) ?_;refine Y1 8 ?_;refine Yf rfl trivial (EfW.mono (Vc (X3w _ bV Acd ccd code hr_code.top hcd hav tz21 sz21 hBV 4 (by omega)) X26) (fun _ _ h=>⟨fun _=>by obtain ⟨xz24,tz24,sz24,rfl,hPz24,htz24,hK,hbn⟩:=h;exact hK.keep,h⟩)) ?_;rintro _ w13 ⟨xz24,tz24,sz24,rfl,hPz24,htz24,hK,hbn⟩;obtain ⟨wm,hO,hm,hE⟩:=hK.mid;clear hm;have hold:=hBV;replace hB4:=hB4.only hO (Blk.ne hB4 hold rfl);replace hB8:=hB8.only hO (Blk.ne hB8 hold rfl);replace hr_code:=hr_code.onlyA hO hav;replace hoz5:=hoz5.onlyT hO hold rfl;replace hW:=hW.self hO;replace hB4:=hB4.below hE;replace hB8:=hB8.below hE;replace hr_code:=hr_code.below hE;replace hoz5:=hoz5.below hE;replace hW:=ktr hW hE
  clear hold hE hO hK;replace hBV:=hbn;clear hbn;refine Yo 9 rfl (fun _=>X0s rfl rfl (by omega) (by omega))<|Yo 10 rfl (fun _=>Xz (ps:=[(0,vi xz19),(1,vi (xz21-1)),(2,vi (xz24-1))]) (cs:=[vi xz19,vi (xz21-1),vi (xz24-1)]) rfl (fun _=>by first|rfl|kernel_rfl)) ?_;refine Y1 11 ?_;refine Yf rfl trivial (EfW.mono (Xm (k:=1) (vs:=[.agg #[vi xz19,vi (xz21-1),vi (xz24-1)]]) (zs:=[vi xz19,vi (xz21-1),vi (xz24-1)]) rfl X0c X1v rfl rfl) (fun _ _ h=>⟨fun _=>by obtain ⟨_,_,_,hE,_⟩:=h;exact Keep.of_below hE,h⟩)) ?_;rintro _ w14 ⟨b18,rfl,hl18,hE,hB18⟩;have hlo18:=Nat.le_trans hW.size hl18;have haw1_18:=hr_code.away hl18;have haw6_18:=hoz5.away hl18;replace hBV:=hBV.below hE;replace hB4:=hB4.below hE;replace hB8:=hB8.below hE;replace hr_code:=hr_code.below hE;replace hoz5:=hoz5.below hE;replace hW:=ktr hW hE;refine Y1 12 ?_;refine Yt rfl trivial rfl (X1h (enc:=encG) (l:=(cz5.gs)) (l2:=([(⟨xz19,xz21-1,xz24-1⟩ : Gt)])) (B0:=w0.heap.size) rfl rfl X0c X1v X0d X45 hoz5 (Rd.of_blk hB18 rfl _ hB18.lt) (by simp only [maxLen];simp;omega) (by simp;omega) hW.size) ?_;rintro _ w15 ⟨A20,c20,rfl,ho20,hg,hat⟩
  have hown:Own _ w0.heap.size 24 3 encG _ _ (cz5.gs):=hoz5
  have haw20_18:=hat _ hB18.lt haw6_18;clear hat;replace hBV:=hBV.appT hown hg rfl;replace hB4:=hB4.appT hown hg rfl;replace hB8:=hB8.appT hown hg rfl;replace hr_code:=hr_code.appB hown hg (Nat.le_refl _);replace hW:=Kept.app hW hown hg (Nat.le_refl _) hW.size;clear hown hg;refine Yo 13 rfl (fun _=>Vd rfl X0k 1) ?_;refine Y1 14 ?_;refine Yh rfl trivial rfl (Vu (vs:=[.slice A20 (cz5.gs++([(⟨xz19,xz21-1,xz24-1⟩ : Gt)])).length c20]) (l':=[vi cz5.n,.slice A20 (cz5.gs++([(⟨xz19,xz21-1,xz24-1⟩ : Gt)])).length c20]) rfl rfl Xl8 hB8) ?_;rintro _ w16 ⟨ho,hb⟩;have hold:=hB8;replace hBV:=hBV.only ho (Blk.ne hBV hold rfl);replace hB4:=hB4.only ho (by omega);replace hr_code:=hr_code.only ho hlo8;replace ho20:=ho20.onlyT ho hold rfl;replace hW:=Kept.only hW ho hlo8;clear hold;have hB8:=hb;clear hb ho;refine Yd fun a hf=>?_;refine Xd ?_;refine hK9 _ _ ?_;refine Zs hf fun _ hK21=>?_;refine Ze (Vn X0q hB8) ?_;refine Zo (Vw [vi cz5.n,.slice A20 (cz5.gs++([(⟨xz19,xz21-1,xz24-1⟩ : Gt)])).length c20] X22 hB4) ?_;rintro _ w17 ⟨ho,hb⟩;have hold:=hB4;replace hBV:=hBV.only ho (Blk.ne hBV hold rfl);replace hB8:=hB8.only ho (by omega);replace ho20:=ho20.onlyT ho hold rfl;replace hW:=Kept.only hW ho hlo4;clear hold;have hB4:=hb;clear hb ho;refine Zt hK21 fun a hf=>?_
  refine wp_ret (X3 hf (Xq hf rfl (ResV.cellN (l:=[vi cz5.n,.slice A20 (cz5.gs++([(⟨xz19,xz21-1,xz24-1⟩ : Gt)])).length c20]) rfl X0q (hB4.at 0) rfl)) ?_)
  exact ⟨⟨cz5.n,cz5.gs++[⟨xz19,xz21-1,xz24-1⟩]⟩,A20,c20,_,_,rfl,⟨(by show 0≤cz5.n∧cz5.n≤6;omega),(by show (cz5.gs++_).length≤9;simp;omega)⟩,⟨by omega,by omega⟩,ho20,hW,hBV⟩
 have hc17b:=hc17;refine wp_skip ?_;refine Xd ?_;refine hK9 _ _ ?_;refine Zs hf fun _ hK22=>?_;refine Ze (Vn X0q hB8) ?_;refine Zo (Vw [vi cz5.n,.slice Az5 cz5.gs.length ez5] X22 hB4) ?_;rintro _ w18 ⟨ho,hb⟩;have hold:=hB4;replace hBV:=hBV.only ho (Blk.ne hBV hold rfl);replace hB8:=hB8.only ho (by omega);replace hr_code:=hr_code.only ho hlo4;replace hoz5:=hoz5.onlyT ho hold rfl;replace hW:=Kept.only hW ho hlo4;clear hold;have hB4:=hb;clear hb ho;refine Zt hK22 fun a hf=>?_
 refine wp_ret (X3 hf (Xq hf rfl (ResV.cellN (l:=[vi cz5.n,.slice Az5 cz5.gs.length ez5]) rfl X0q (hB4.at 0) rfl)) ?_)
 exact ⟨cz5,Az5,ez5,_,_,rfl,⟨(by omega),(by omega)⟩,⟨by omega,by omega⟩,hoz5,hW,hBV⟩
theorem Xue(w0:World)(bV:Nat){Xcd:TypeId}(Acd:Option Addr)(ccd:Nat)(code:List Int)(hr_code:Rd w0 w0.heap.size Xcd encU Acd code)(hcd:∀ x ∈ code,0≤x∧x≤255)(hav:AwayR code Acd bV)(t:Nat)(sd:Int)(hBV:Blk w0 bV 80 [.slice Acd code.length ccd,vi (t:Int),.int .u64 sd])(most:Int)(hm:0≤most∧most≤1000)(ht:t+(4+6*most.toNat)≤100000000) : Ret Tryz.prog 128 [.pointer (some ⟨bV,0,none⟩),vi most] w0 (fun v w=>∃ (c:Cx) (A:Option Addr) (e:Nat) (t1:Nat) (s1:Int),v=.agg #[vi c.n,.slice A c.gs.length e]∧((2≤c.n∧c.n≤4)∧(c.gs.length:Int)≤most)∧(t≤t1∧t1≤t+(4+6*most.toNat))∧Own w w0.heap.size 24 3 encG A e c.gs∧Kept bV w0.heap.size w0 w∧Blk w bV 80 [.slice Acd code.length ccd,vi (t1:Int),.int .u64 s1]):=by
 have hltV:=hBV.lt;refine enter Tryz.func128 rfl 12 rfl rfl ?_;intro a hf
 have hW:Kept bV w0.heap.size w0 w0:=Kept.refl _ _ _
 refine Zs hf fun _ hK2=>?_;refine Zf (Xa (zs:=[vi 0,.slice none 0 0]) X5t rfl) ?_;rintro _ w1 ⟨b4,rfl,hl4,hE,hB4⟩;have hlo4:=Nat.le_trans hW.size hl4;have haw1_4:=hr_code.away hl4;replace hBV:=hBV.below hE;replace hr_code:=hr_code.below hE;replace hW:=ktr hW hE;refine Zt hK2 fun a hf=>?_;refine Zs hf fun _ hK5=>?_;refine Zm rfl<|Zm rfl ?_;refine Zf (Vc (X3w _ bV Acd ccd code hr_code.top hcd hav t sd hBV 3 (by omega)) X26) ?_;rintro _ w2 ⟨xz7,tz7,sz7,rfl,hPz7,htz7,hK,hbn⟩;obtain ⟨wm,hO,hm,hE⟩:=hK.mid;clear hm;have hold:=hBV;replace hB4:=hB4.only hO (Blk.ne hB4 hold rfl);replace hr_code:=hr_code.onlyA hO hav;replace hW:=hW.self hO;replace hB4:=hB4.below hE;replace hr_code:=hr_code.below hE;replace hW:=ktr hW hE
 clear hold hE hO hK;replace hBV:=hbn;clear hbn;refine Ze (Xp rfl rfl (by omega) (by omega))<|Zm rfl ?_;refine Zf (Xm (k:=12) (vs:=[vi 1,vi 2,vi 4,vi 5,vi 7,vi 7,vi 8,vi 9,vi 9,vi 9,vi 10,vi 12]) (zs:=[vi 1,vi 2,vi 4,vi 5,vi 7,vi 7,vi 8,vi 9,vi 9,vi 9,vi 10,vi 12]) rfl Xg X19 rfl rfl) ?_;rintro _ w3 ⟨b6,rfl,hl6,hE,hB6⟩;have hlo6:=Nat.le_trans hW.size hl6;have haw1_6:=hr_code.away hl6;replace hBV:=hBV.below hE;replace hB4:=hB4.below hE;replace hr_code:=hr_code.below hE;replace hW:=ktr hW hE;refine Zf (Vc (Xp3 _ bV Acd ccd code hr_code.top hcd hav tz7 sz7 hBV (2+xz7) most (some ⟨b6,0,none⟩) 12 ([1,2,4,5,7,7,8,9,9,9,10,12]) (Rd.of_blk hB6 rfl _ hB6.lt) (by omega) (by omega) (by simp) (by simp) (by omega)) Xg5) ?_;rintro _ w4 ⟨cz11,Az11,ez11,tz11,sz11,rfl,hPz11,htz11,hoz11,hK,hbn⟩;have hlv:=hW.size;obtain ⟨wm,hO,hm,hE⟩:=hK.mid;clear hm;have hold:=hBV;replace hB4:=hB4.only hO (Blk.ne hB4 hold rfl);replace hB6:=hB6.only hO (Blk.ne hB6 hold rfl);replace hr_code:=hr_code.onlyA hO hav;replace hW:=hW.self hO;replace hB4:=hB4.below hE;replace hB6:=hB6.below hE;replace hr_code:=hr_code.below hE;replace hW:=ktr hW hE
 clear hold hE hO hK;replace hBV:=hbn;clear hbn
 replace hoz11:=hoz11.lower hlv;clear hlv;refine Zo (Vw [vi cz11.n,.slice Az11 cz11.gs.length ez11] X22 hB4) ?_;rintro _ w5 ⟨ho,hb⟩;have hold:=hB4;replace hBV:=hBV.only ho (Blk.ne hBV hold rfl);replace hB6:=hB6.only ho (Blk.ne hB6 hold rfl);replace hr_code:=hr_code.only ho hlo4;replace hoz11:=hoz11.onlyT ho hold rfl;replace hW:=Kept.only hW ho hlo4;clear hold;have hB4:=hb;clear hb ho;refine Zt hK5 fun a hf=>?_
 refine wp_ret (X3 hf (Xq hf rfl (ResV.cellN (l:=[vi cz11.n,.slice Az11 cz11.gs.length ez11]) rfl X0q (hB4.at 0) rfl)) ?_)
 exact ⟨_,Az11,ez11,_,_,rfl,⟨(by omega),(by omega)⟩,⟨by omega,by omega⟩,hoz11,hW,hBV⟩
def bkG(g:Gt) : Gt:=⟨if g.k=5∨g.k=7 then g.k+1 else if g.k=6∨g.k=8 then g.k-1 else g.k,g.a,g.b⟩
def bkN(g:Gt) : Int:=if g.k=12 then 7 else 1
def metS(x y:Gt) : Bool:=(usedS [x]).any fun q=>(usedS [y]).any fun z=>z==q
def nextC(g:Gt) : List Gt→Nat→Nat
 | [],j=>j
 | h::l,j=>if metS g h=true then j else nextC g l (j+1)
def canJ(g:Gt)(gs:List Gt)(i:Nat) : Nat:=nextC g (gs.drop (i+1)) (i+1)
def canR(gs:List Gt)(i j:Nat) : Rp:=⟨i,(gs.take (j+1)).drop i,(gs.take j).drop (i+1)⟩
def canB(g:Gt)(gs:List Gt)(i j:Nat) : Bool:=g.k != 12&&(decide ((j:Int)<(gs.length:Int))&&(decide ((j:Int)-(i:Int)<40)&&decide (gs[j]? = some (bkG g))))
def canAt(gs:List Gt)(i:Nat) : Option Rp:=match gs[i]? with
 | none=>none
 | some g=>if canB g gs i (canJ g gs i)=true then some (canR gs i (canJ g gs i)) else none
def canF(gs:List Gt) : Nat→Option Rp
 | 0=>none
 | n+1=>match canF gs n with
  | some r=>some r
  | none=>canAt gs n
def canS(gs:List Gt) : Option Rp:=canF gs gs.length
def rpZ:Rp:=⟨0,[],[]⟩
theorem DeepR.nil(w:World)(B:Nat)(E:TypeId) : DeepR w B E []:=fun s hs=>by simp at hs
theorem DeepR.snoc{w:World}{B:Nat}{E:TypeId}{l:List Sr}{x:Sr}(h:DeepR w B E l)(h1:Rd w B E encG x.A x.old)(h2:Rd w B E encG x.B x.new) : DeepR w B E (l++[x]):=fun s hs=>by
 rcases List.mem_append.1 hs with hs|hs
 ·exact h s hs
 ·rw [List.mem_singleton] at hs
  subst hs
  exact ⟨h1,h2⟩
section
variable {P : Program} {a : Act} {w : World} {n : Nat} {e : Env} {ty : TypeId} {pos : String} {af : Array Edge} {g : Option (Nat × Bool)} {d : Option Tmp}
end
theorem Xed(g:Gt) : ∀ (l:List Gt) (j:Nat),j≤nextC g l j
 | [],j=>Nat.le_refl _
 | h::l,j=>by
  unfold nextC
  split
  ·exact Nat.le_refl _
  ·exact Nat.le_trans (Nat.le_succ j) (Xed g l (j+1))
theorem Xb9{gs:List Gt}{r:Rp} : ∀ n,canF gs n=some r→∃ i,i<n∧canAt gs i=some r
 | 0,h=>by cases h
 | n+1,h=>by
  unfold canF at h
  split at h
  ·rename_i r' h1
   injection h with h
   subst h
   obtain ⟨i,h2,h3⟩:=Xb9 n h1;exact ⟨i,by omega,h3⟩
  ·exact ⟨n,by omega,h⟩
theorem Xi7{gs:List Gt}{r:Rp}(h:canS gs=some r) : ∃ i j g,gs[i]? = some g∧gs[j]? = some (bkG g)∧g.k≠12∧i<j∧j<gs.length∧j<i+40∧j=canJ g gs i∧r=canR gs i j:=by
 obtain ⟨i,hi,h1⟩:=Xb9 _ h
 unfold canAt at h1
 split at h1
 ·cases h1
 ·rename_i g hg
  split at h1
  ·rename_i hb
   injection h1 with h1
   unfold canB at hb
   simp only [Bool.and_eq_true,bne_iff_ne,decide_eq_true_eq] at hb
   have:=Xed g (gs.drop (i+1)) (i+1)
   exact ⟨i,canJ g gs i,g,hg,hb.2.2.2,hb.1,by unfold canJ;omega,by omega,by omega,rfl,h1.symm⟩
  ·cases h1
theorem Xsb{n:Int}{gs:List Gt}{r:Rp}(hc:cOk ⟨n,gs⟩=true)(h:canS gs=some r) :
  ∃ d,applyS ⟨n,gs⟩ r=some d∧d.n=n∧cOk d=true∧d.gs.length+2=gs.length∧r.old.length≤41∧r.new.length≤41:=by
 obtain ⟨i,j,g,hi,hj,hk,hij,hjl,h40,_,rfl⟩:=Xi7 h;obtain ⟨hn,hl,hg⟩:=X0x hc
 dsimp only at hn hl hg
 have lo:(canR gs i j).old.length=j+1-i:=by simp [canR];omega
 have ln:(canR gs i j).new.length=j-i-1:=by simp [canR];omega
 have e2:((gs.take ((canR gs i j).pos.toNat+(canR gs i j).old.length)).drop (canR gs i j).pos.toNat)=(canR gs i j).old:=by
  rw [lo]
  show (gs.take ((i:Int).toNat+(j+1-i))).drop (i:Int).toNat=(gs.take (j+1)).drop i
  rw [Int.toNat_natCast,show i+(j+1-i)=j+1 by omega]
 have mo:∀ x ∈ (canR gs i j).old,gOk n x=true:=fun x hx=>hg x (List.mem_of_mem_take (List.mem_of_mem_drop hx))
 have mn:∀ x ∈ (canR gs i j).new,gOk n x=true:=fun x hx=>hg x (List.mem_of_mem_take (List.mem_of_mem_drop hx))
 have hv:validS n (canR gs i j)=true:=by
  unfold validS
  simp only [Bool.and_eq_true,Xo,decide_eq_true_eq,Bool.not_eq_true',List.any_eq_false,lo,ln]
  refine ⟨⟨⟨hn,?_⟩,⟨fun x hx=>by simp [mo x hx],by omega⟩⟩,⟨fun x hx=>by simp [mn x hx],by omega⟩⟩
  show 0≤(i:Int)∧(i:Int)≤400
  omega
 have hf:fitS ⟨n,gs⟩ (canR gs i j)=true:=by
  unfold fitS
  rw [hv,lo,ln]
  simp only [Bool.true_and,Bool.and_eq_true,decide_eq_true_eq]
  constructor
  ·show (i:Int)+((j+1-i:Nat) : Int)≤(gs.length:Int)
   omega
  ·omega
 have ha:=Xdu hf e2;have hk2:=(Xlg hc).2 _ ha
 refine ⟨_,ha,hk2.2.1,hk2.1,?_,by omega,by omega⟩
 show (gs.take (canR gs i j).pos.toNat++(canR gs i j).new++gs.drop ((canR gs i j).pos.toNat+(canR gs i j).old.length)).length+2=_
 rw [List.length_append,List.length_append,ln,lo,List.length_take,List.length_drop]
 show min (i:Int).toNat gs.length+(j-i-1)+(gs.length-((i:Int).toNat+(j+1-i)))+2=gs.length
 rw [Int.toNat_natCast]
 omega
def canRun(n:Int) : Nat→List Gt→List Rp×Cx
 | 0,gs=>([],⟨n,gs⟩)
 | k+1,gs=>match canS gs with
  | none=>([],⟨n,gs⟩)
  | some r=>(r::(canRun n k ((applyS ⟨n,gs⟩ r).getD cZ).gs).1,(canRun n k ((applyS ⟨n,gs⟩ r).getD cZ).gs).2)
def canC(c:Cx) : Cx×List Rp×Cx:=if cOk c=true then (c,canRun c.n c.gs.length c.gs) else (cZ,[],cZ)
theorem Xd7{n:Int}{gs:List Gt}(h:canS gs=none) : ∀ k,canRun n k gs=([],⟨n,gs⟩)
 | 0=>rfl
 | k+1=>by unfold canRun;rw [h]
theorem Xct{n:Int}{gs:List Gt}{r:Rp}(h:canS gs=some r)(k:Nat) : canRun n (k+1) gs=(r::(canRun n k ((applyS ⟨n,gs⟩ r).getD cZ).gs).1,(canRun n k ((applyS ⟨n,gs⟩ r).getD cZ).gs).2):=by
 conv=>lhs;unfold canRun
 rw [h]
structure CanI (c:Cx) (l:List Sr) (d:Cx) (k:Nat) : Prop where
 run:canRun c.n c.gs.length c.gs=(l.map Sr.rp++(canRun c.n k d.gs).1,(canRun c.n k d.gs).2)
 ok:cOk d=true
 n:d.n=c.n
 le:d.gs.length≤k
 len:l.length+d.gs.length≤c.gs.length
 small:∀ s ∈ l,s.old.length≤41∧s.new.length≤41
theorem CanI.start{c:Cx}(h:cOk c=true) : CanI c [] c c.gs.length:=⟨rfl,h,rfl,Nat.le_refl _,by simp,fun s hs=>by simp at hs⟩
theorem CanI.next{c d:Cx}{l:List Sr}{k:Nat}(h:CanI c l d k){r:Rp}(hr:canS d.gs=some r){s:Sr}(hs:s.rp=r) : ∃ k',k=k'+1∧CanI c (l++[s]) ((applyS d r).getD cZ) k':=by
 have hd:d=⟨c.n,d.gs⟩:=by cases d;have:=h.n;simp only at this;rw [this]
 have hok:=h.ok
 rw [hd] at hok
 obtain ⟨e,he,e1,e2,e3,e4,e5⟩:=Xsb hok hr;have hle:=h.le
 obtain ⟨k',rfl⟩ : ∃ k',k=k'+1:=⟨k-1,by omega⟩
 have hd2:applyS d r=some e:=by rw [hd];exact he
 refine ⟨k',rfl,?_⟩
 rw [hd2,Option.getD_some]
 have hrun:=h.run
 rw [Xct hr k',he,Option.getD_some] at hrun
 refine ⟨?_,e2,e1,by omega,by have:=h.len;simp;omega,fun x hx=>?_⟩
 ·rw [hrun,List.map_append,List.append_assoc]
  simp [hs]
 ·rcases List.mem_append.1 hx with hx|hx
  ·exact h.small x hx
  ·rw [List.mem_singleton] at hx
   subst hx
   subst hs
   exact ⟨e4,e5⟩
theorem CanI.done{c d:Cx}{l:List Sr}{k:Nat}(h:CanI c l d k)(hc:cOk c=true)(hn:canS d.gs=none) : canC c=(c,l.map Sr.rp,d):=by
 unfold canC
 rw [if_pos hc,h.run,Xd7 hn k,List.append_nil]
 have:=h.n
 cases d
 simp only at this
 rw [this]
theorem DeepR.drop{w:World}{B:Nat}{E:TypeId}{l:List Sr}(h:DeepR w B E l)(k:Nat) : DeepR w B E (l.drop k):=fun s hs=>h s (List.mem_of_mem_drop hs)
section
variable {P : Program} {a : Act} {w : World} {n : Nat} {e : Env} {ty : TypeId} {pos : String} {af : Array Edge} {g : Option (Nat × Bool)} {d : Option Tmp}
variable {t t' : TypeId} {x y : Operand} {i j k : Int}
end
end Go.Proofs.YtlfjcmldfbfdbaaGreat
namespace Go.Proofs.YtlfjcmldfbfdbaaGreat
open Go.RowKit Go.ChangeShapes Go.WideShapes Go.Deep Go.Joins
theorem Xqx:Tryz.prog.cellsOf 5=1:=by kernel_rfl
theorem Xkr{n:Int}(h:(Lit.int .u8 n).wf=true) : 0≤n∧n≤255:=by
 have h1:IntKind.u8.min=0:=rfl
 have h2:IntKind.u8.max=255:=rfl
 simp [Lit.wf] at h
 omega
set_option maxRecDepth 100000 in
theorem X9i{H:Type}{enc:TypeId×Value→H}{w:World}{base b0:Nat}{spare:Nat→Bool}{held:Bool}{r:Reach}{v:Value}{d:DataW H}{p:List MemPlace}(hv:Value.okWide Tryz.prog w r b0 22 v)(h:DataW.Trod enc Tryz.prog w base spare held 22 v d p)(hsp:∀ b,spare b=true) :
  ∃ (A:Option Addr) (l:List Int) (k:Nat) (E:TypeId),v=.slice A l.length k∧Rd w w.heap.size E encU A l∧(∀ x ∈ l,0≤x∧x≤255):=by
 obtain ⟨a1,n1,k1,rfl⟩:=okWide_slice Tryz.underlying22 hv;obtain ⟨fuel,hf⟩:=h
 have key:∃ (A:Option Addr) (l:List Int) (c:Nat) (E:TypeId),(Value.slice a1 n1 k1).cells.toList=[Value.slice A l.length c]∧Rd w w.heap.size E encU A l∧(∀ x ∈ l,0≤x∧x≤255):=by
  rcases open_slice Tryz.underlying22 hf with ⟨hcs,_⟩|⟨a,len,cap,m,n,D,Pl,hcs,hb,hl,hm,hmm,_,hi⟩
  ·exact ⟨none,[],0,0,hcs,Rd.nil _ _ _ _ _,by simp⟩
  ·rw [Xqx] at hi
   have hlm:len≤m:=by rw [hmm,hsp];simpa using hl
   obtain ⟨l,h1,h2⟩:=Xml (n:=len) (Q:=fun i g=>(0≤g∧g≤255)∧∀ j v,(encU g)[j]? = some v→w.cell? (a.add (i*1+j))=some v) fun i hilt=>by
    obtain ⟨cs',hc,ht⟩:=hi i (by omega)
    obtain ⟨g,rfl,_,hwf⟩:=DataW.trod_int Tryz.underlying5 ht;obtain ⟨_,_,hat⟩:=World.cells?_some hc
    refine ⟨g,Xkr hwf,fun j v hj=>?_⟩
    have hj3:j<1:=by have:=(List.getElem?_eq_some_iff.1 hj).1;simpa [encU] using this
    rw [← X6k,hat j hj3]
    exact hj
   obtain ⟨E,hr⟩:=Xdm Xds (by decide) fun i g hig=>(h2 i g hig).2
   refine ⟨some a,l,cap,E,by rw [hcs,h1],hr,fun x hx=>?_⟩
   obtain ⟨i,hi9,e⟩:=List.getElem_of_mem hx;exact (h2 i x (by rw [List.getElem?_eq_getElem hi9,e])).1
 obtain ⟨A,l,c,E,e0,hr,hb⟩:=key
 simp [Value.cells] at e0
 obtain ⟨rfl,rfl,rfl⟩:=e0;exact ⟨_,l,_,E,rfl,hr,hb⟩
end Go.Proofs.YtlfjcmldfbfdbaaGreat
namespace Go.Proofs.YtlfjcmldfbfdbaaGreat
open Go.RowKit
def isTk(k:Int) : Bool:=k==7||k==8
def tcN(l:List Gt) : Nat:=l.countP fun g=>isTk g.k
section
variable {P : Program} {a : Act} {w : World} {n : Nat} {e : Env} {ty : TypeId} {pos : String} {af : Array Edge} {g : Option (Nat × Bool)} {d : Option Tmp}
end
end Go.Proofs.YtlfjcmldfbfdbaaGreat
namespace Go.Proofs.YtlfjcmldfbfdbaaGreat
def xb(β m:Nat→Bool) : Nat→Bool:=fun p=>β p != m p
def msk(g:Gt)(β:Nat→Bool) : Nat→Bool:=fun p=>
 if g.k=9 then decide (p=g.b.toNat)&&β g.a.toNat
 else if g.k=11 then (decide (p=g.a.toNat)||decide (p=g.b.toNat))&&(β g.a.toNat != β g.b.toNat)
 else false
def oneK(k:Int) : Bool:=decide (k≠12∧¬ (9≤k∧k≤11))
def flp(g:Gt) : Nat→Bool:=fun p=>oneK g.k&&decide (p=g.a.toNat)
def c0(g:Gt)(β:Nat→Bool) : Rg:=
 if g.k=12 then om else if g.k=9 then 1 else if g.k=10 then (if β g.a.toNat&&β g.b.toNat then om^4 else 1) else if g.k=11 then 1 else u1 g.k (β g.a.toNat) (β g.a.toNat)
def c1(g:Gt)(β:Nat→Bool) : Rg:=if oneK g.k=true then u1 g.k (β g.a.toNat) (!β g.a.toNat) else 0
theorem Xbc(β m:Nat→Bool)(h:∀ p,m p=false) : xb β m=β:=by
 funext p;unfold xb;rw [h];cases β p<;>rfl
theorem Xn2(β:Nat→Bool)(q:Nat) : flipB β q=xb β fun p=>decide (p=q):=by
 funext p
 unfold flipB xb
 by_cases e:p=q<;>simp [e]
theorem Xon{k:Int}(h12:k≠12)(h9:¬ (9≤k∧k≤11)) : oneK k=true:=decide_eq_true ⟨h12,h9⟩
theorem X8g{k:Int}(h:k=12∨(9≤k∧k≤11)) : oneK k=false:=decide_eq_false (by omega)
def TwoQ(g:Gt) : Prop:=9≤g.k∧g.k≤11→g.a.toNat≠g.b.toNat
theorem X3p{g:Gt}(ht:TwoQ g)(v:St)(β:Nat→Bool) : act g v β=c0 g β*v (xb β (msk g β))+c1 g β*v (xb β (flp g)):=by
 unfold act
 by_cases h12:g.k=12
 ·rw [if_pos h12,Xbc β (msk g β) fun p=>by unfold msk;rw [if_neg (by omega),if_neg (by omega)]]
  unfold c0 c1
  rw [if_pos h12,X8g (by omega),if_neg Bool.false_ne_true]
  simp only [Xs,X00,Xn,X03,X02,X06,X07,X0b,Xh,Xi,Xu,Xv,Xj,X01]
 ·rw [if_neg h12]
  by_cases h9:g.k=9
  ·rw [if_pos h9]
   have e:(if β g.a.toNat then flipB β g.b.toNat else β)=xb β (msk g β):=by
    funext p
    unfold msk xb
    dsimp only
    rw [if_pos h9]
    cases β g.a.toNat
    ·simp
    ·rw [if_pos rfl]
     unfold flipB
     by_cases e:p=g.b.toNat<;>simp [e]
   rw [e]
   unfold c0 c1
   rw [if_neg h12,if_pos h9,X8g (by omega),if_neg Bool.false_ne_true]
   simp only [Xs,X00,Xn,X03,X02,X06,X07,X0b,Xh,Xi,Xu,Xv,Xj,X01]
  ·rw [if_neg h9]
   by_cases h10:g.k=10
   ·rw [if_pos h10,Xbc β (msk g β) fun p=>by unfold msk;rw [if_neg (by omega),if_neg (by omega)]]
    unfold c0 c1
    rw [if_neg h12,if_neg h9,if_pos h10,X8g (by omega),if_neg Bool.false_ne_true]
    simp only [Xs,X00,Xn,X03,X02,X06,X07,X0b,Xh,Xi,Xu,Xv,Xj,X01]
   ·rw [if_neg h10]
    by_cases h11:g.k=11
    ·rw [if_pos h11]
     have hab:=ht (by omega)
     have e:(if β g.a.toNat=β g.b.toNat then β else flipB (flipB β g.a.toNat) g.b.toNat)=xb β (msk g β):=by
      funext p
      unfold msk xb
      dsimp only
      rw [if_neg h9,if_pos h11]
      by_cases e0:β g.a.toNat=β g.b.toNat
      ·rw [if_pos e0,e0];simp
      ·rw [if_neg e0]
       have e1:(β g.a.toNat != β g.b.toNat)=true:=by simpa using e0
       rw [e1]
       unfold flipB
       by_cases e2:p=g.b.toNat
       ·subst e2
        rw [if_pos rfl,if_neg (fun h=>hab h.symm)]
        simp
       ·rw [if_neg e2]
        by_cases e3:p=g.a.toNat<;>simp [e2,e3]
     rw [e]
     unfold c0 c1
     rw [if_neg h12,if_neg h9,if_neg h10,if_pos h11,X8g (by omega),if_neg Bool.false_ne_true]
     simp only [Xs,X00,Xn,X03,X02,X06,X07,X0b,Xh,Xi,Xu,Xv,Xj,X01]
    ·rw [if_neg h11]
     have ho:=Xon h12 (by omega)
     have e:flipB β g.a.toNat=xb β (flp g):=by
      rw [Xn2]
      congr 1
      funext p
      unfold flp
      rw [ho];simp
     rw [Xbc β (msk g β) fun p=>by unfold msk;rw [if_neg h9,if_neg h11],e]
     unfold c0 c1
     rw [if_neg h12,if_neg h9,if_neg h10,if_neg h11,ho,if_pos rfl]
def Sup(g:Gt)(q:Nat) : Prop:=(g.k≠12∧q=g.a.toNat)∨((9≤g.k∧g.k≤11)∧q=g.b.toNat)
def Dis(g h:Gt) : Prop:=∀ q,Sup g q→¬ Sup h q
theorem Dis.symm{g h:Gt}(hd:Dis g h) : Dis h g:=fun q h1 h2=>hd q h2 h1
theorem Xc8{g:Gt}{β γ:Nat→Bool}(h:∀ q,Sup g q→β q=γ q) : c0 g β=c0 g γ:=by
 unfold c0
 split
 ·rfl
 ·rename_i h12
  have ha:=h _ (.inl ⟨h12,rfl⟩)
  split
  ·rfl
  ·split
   ·rw [ha,h _ (.inr ⟨by omega,rfl⟩)]
   ·split
    ·rfl
    ·rw [ha]
theorem Xca{g:Gt}{β γ:Nat→Bool}(h:∀ q,Sup g q→β q=γ q) : c1 g β=c1 g γ:=by
 unfold c1
 split
 ·rename_i ho
  have:=of_decide_eq_true ho
  rw [h _ (.inl ⟨this.1,rfl⟩)]
 ·rfl
theorem X8i{g:Gt}{β γ:Nat→Bool}(h:∀ q,Sup g q→β q=γ q) : msk g β=msk g γ:=by
 funext p
 unfold msk
 split
 ·rw [h _ (.inl ⟨by omega,rfl⟩)]
 ·split
  ·rw [h _ (.inl ⟨by omega,rfl⟩),h _ (.inr ⟨by omega,rfl⟩)]
  ·rfl
theorem Xg0{g:Gt}{β:Nat→Bool}{q:Nat}(h:¬ Sup g q) : msk g β q=false:=by
 unfold msk
 split
 ·rename_i h9
  rw [decide_eq_false fun e=>h (.inr ⟨by omega,e⟩)];rfl
 ·split
  ·rename_i h11
   rw [decide_eq_false fun e=>h (.inr ⟨by omega,e⟩),decide_eq_false fun e=>h (.inl ⟨by omega,e⟩)];rfl
  ·rfl
theorem Xgb{g:Gt}{q:Nat}(h:¬ Sup g q) : flp g q=false:=by
 unfold flp
 cases ho:oneK g.k
 ·rfl
 ·have:=of_decide_eq_true ho
  rw [decide_eq_false fun e=>h (.inl ⟨this.1,e⟩)];rfl
theorem X8q(β m m':Nat→Bool) : xb (xb β m) m'=xb (xb β m') m:=by
 funext p;unfold xb;cases β p<;>cases m p<;>cases m' p<;>rfl
theorem Xbq{g h:Gt}(hd:Dis g h){β m:Nat→Bool}(hm:∀ q,¬ Sup g q→m q=false) : ∀ q,Sup h q→xb β m q=β q:=fun q hq=>by
 unfold xb
 rw [hm q fun h1=>hd q h1 hq]
 cases β q<;>rfl
theorem Xd5{g h:Gt}(hg:TwoQ g)(hh:TwoQ h)(hd:Dis g h)(v:St) : act g (act h v)=act h (act g v):=by
 funext β
 rw [X3p hg,X3p hh,X3p hh,X3p hh,X3p hg v,X3p hg v]
 have a1:=Xbq hd (β:=β) (m:=msk g β) fun q hq=>Xg0 hq
 have a2:=Xbq hd (β:=β) (m:=flp g) fun q hq=>Xgb hq
 have b1:=Xbq hd.symm (β:=β) (m:=msk h β) fun q hq=>Xg0 hq
 have b2:=Xbq hd.symm (β:=β) (m:=flp h) fun q hq=>Xgb hq
 rw [Xc8 a1,Xc8 a2,Xca a1,Xca a2,X8i a1,X8i a2,Xc8 b1,Xc8 b2,Xca b1,Xca b2,X8i b1,X8i b2]
 rw [X8q β (msk h β) (msk g β),X8q β (msk h β) (flp g),X8q β (flp h) (msk g β),X8q β (flp h) (flp g)]
 simp only [Xs,X00,Xn,X03,X02,X06,X07,X0b,Xh,Xi,Xu,Xv,Xj,X01]
def bkK(k:Int) : Int:=if k=5∨k=7 then k+1 else if k=6∨k=8 then k-1 else k
def qN(z:Rg) : Int:=z.a*z.a+z.b*z.b+z.c*z.c+z.d*z.d
theorem X6l(x:Int) : 0≤x*x:=by
 have:=Int.natAbs_mul_self (a:=x)
 omega
theorem Xl9(z:Rg) : 0≤qN z:=by
 have h1:=X6l z.a;have h2:=X6l z.b;have h3:=X6l z.c;have h4:=X6l z.d
 unfold qN
 omega
theorem Xt0(z:Rg) : qN (s2*z)=2*qN z:=by
 rw [X98]
 unfold qN
 dsimp only
 grind
theorem Xtm(z:Rg) : qN (om*z)=qN z:=by
 rw [Xqh]
 unfold qN
 dsimp only
 grind
theorem Xjc:∀ (k:Nat) (z:Rg),qN (om^k*z)=qN z
 | 0,z=>by rw [X4x,show (1:Rg)*z=z from Xn z]
 | k+1,z=>by rw [X9y,show om^k*om*z=om^k*(om*z) from Xh _ _ _,Xjc k,Xtm]
theorem Xju:∀ (k:Nat) (z:Rg),qN (s2^k*z)=2^k*qN z
 | 0,z=>by rw [X4x,show (1:Rg)*z=z from Xn z];omega
 | k+1,z=>by
  rw [X9y,show s2^k*s2*z=s2^k*(s2*z) from Xh _ _ _,Xju k,Xt0,Int.pow_succ]
  grind
theorem Xsk(x y:Rg) : qN (x+y)≤2*qN x+2*qN y:=by
 have h:∀ p q:Int,(p+q)*(p+q)≤2*(p*p)+2*(q*q):=fun p q=>by
  have h1:=X6l (p-q)
  have e:(p-q)*(p-q)=2*(p*p)+2*(q*q)-(p+q)*(p+q):=by grind
  omega
 have h1:=h x.a y.a;have h2:=h x.b y.b;have h3:=h x.c y.c;have h4:=h x.d y.d
 show (x.a+y.a)*(x.a+y.a)+(x.b+y.b)*(x.b+y.b)+(x.c+y.c)*(x.c+y.c)+(x.d+y.d)*(x.d+y.d)≤_
 unfold qN
 omega
theorem Xgs{x r:Int}(hr:0≤r)(h:x*x≤r*r) : -r≤x∧x≤r:=by
 have h1:=Int.natAbs_mul_self (a:=x);have h2:=Int.natAbs_mul_self (a:=r)
 have h3:x.natAbs*x.natAbs≤r.natAbs*r.natAbs:=by omega
 have h4:x.natAbs≤r.natAbs:=by
  rcases Nat.lt_or_ge r.natAbs x.natAbs with h5|h5
  ·exact absurd (Nat.mul_lt_mul'' h5 h5) (Nat.not_lt.2 h3)
  ·exact h5
 omega
def Cb(K:Int)(z:Rg) : Prop:=(-K≤z.a∧z.a≤K)∧(-K≤z.b∧z.b≤K)∧(-K≤z.c∧z.c≤K)∧(-K≤z.d∧z.d≤K)
theorem Xp0{r:Int}(hr:0≤r){z:Rg}(h:qN z≤r*r) : Cb r z:=by
 have h1:=X6l z.a;have h2:=X6l z.b;have h3:=X6l z.c;have h4:=X6l z.d
 unfold qN at h
 exact ⟨Xgs hr (by omega),Xgs hr (by omega),Xgs hr (by omega),Xgs hr (by omega)⟩
theorem Xgh{x r:Int}(h:-r≤x∧x≤r) : x*x≤r*r:=by
 have h1:=Int.natAbs_mul_self (a:=x);have h2:=Int.natAbs_mul_self (a:=r)
 have:=Nat.mul_le_mul (show x.natAbs≤r.natAbs by omega) (show x.natAbs≤r.natAbs by omega)
 omega
theorem Xub{r:Int}{z:Rg}(h:Cb r z) : qN z≤4*(r*r):=by
 have h1:=Xgh h.1;have h2:=Xgh h.2.1;have h3:=Xgh h.2.2.1;have h4:=Xgh h.2.2.2
 unfold qN
 omega
theorem Xs2{r t:Int}{x y:Rg}(hx:Cb r x)(hy:Cb t y) : Cb (r+t) (x+y):=by
 obtain ⟨⟨a1,a2⟩,⟨a3,a4⟩,⟨a5,a6⟩,⟨a7,a8⟩⟩:=hx;obtain ⟨⟨b1,b2⟩,⟨b3,b4⟩,⟨b5,b6⟩,⟨b7,b8⟩⟩:=hy
 refine ⟨?_,?_,?_,?_⟩
 ·show -(r+t)≤x.a+y.a∧x.a+y.a≤r+t;omega
 ·show -(r+t)≤x.b+y.b∧x.b+y.b≤r+t;omega
 ·show -(r+t)≤x.c+y.c∧x.c+y.c≤r+t;omega
 ·show -(r+t)≤x.d+y.d∧x.d+y.d≤r+t;omega
def BB:Int:=1000000000000000000
theorem Xbd{z:Rg}(h:qN z≤BB) : rOk z=true:=by
 obtain ⟨h1,h2,h3,h4⟩:=Xp0 (r:=1000000000) (by decide) (z:=z) (Int.le_trans h (by decide))
 exact X28.2 ⟨h1,h2,h3,h4⟩
theorem X6i(k:Nat) : (1:Int)≤2^k:=by
 induction k with
 | zero=>decide
 | succ k ih=>rw [Int.pow_succ];omega
theorem Xoj{k:Nat}{x:Int}(h:0≤x) : x≤2^k*x:=by
 have:=Int.mul_le_mul_of_nonneg_right (X6i k) h
 omega
theorem X8r{j i:Nat}{y z:Rg}(hz:z=s2^j*y)(hi:i≤j) : qN (s2^i*y)≤qN z:=by
 rw [hz,show j=(j-i)+i by omega,X2n,show s2^(j-i)*s2^i*y=s2^(j-i)*(s2^i*y) from Xh _ _ _,Xju (j-i)]
 exact Xoj (Xl9 _)
def Un(z:Rg) : Prop:=z=0∨∃ j:Nat,z=om^j
theorem Xbo{z w:Rg}(h:Un z) : qN (z*w)≤qN w:=by
 rcases h with rfl|⟨j,rfl⟩
 ·rw [show (0:Rg)*w=0 from Xs w]
  have:qN 0=0:=rfl
  have:=Xl9 w
  omega
 ·rw [Xjc];exact Int.le_refl _
theorem X4m:Un 0:=.inl rfl
theorem X9x(j:Nat) : Un (om^j):=.inr ⟨j,rfl⟩
theorem X7u:Un 1:=.inr ⟨0,rfl⟩
theorem Xqy:Un (-1):=.inr ⟨4,by rfl⟩
theorem Xmb(k:Int)(x y:Bool) : Un (u1 k x y):=by
 unfold u1
 split
 ·split
  ·exact Xqy
  ·exact X7u
 ·split
  ·split
   ·exact X4m
   ·exact X7u
  ·split
   ·split
    ·exact X4m
    ·split
     ·exact X9x 6
     ·exact X9x 2
   ·split
    ·split
     ·exact X9x _
     ·exact X7u
    ·exact X4m
theorem Xwt(g:Gt)(β:Nat→Bool) : Un (c0 g β)∧Un (c1 g β):=by
 constructor
 ·unfold c0
  split
  ·exact X9x 1
  ·split
   ·exact X7u
   ·split
    ·split
     ·exact X9x 4
     ·exact X7u
    ·split
     ·exact X7u
     ·exact Xmb _ _ _
 ·unfold c1
  split
  ·exact Xmb _ _ _
  ·exact X4m
theorem Xsj(g:Gt)(hk:1≤g.k∧g.k≤12)(β:Nat→Bool) : g.k=1∨c0 g β=0∨c1 g β=0:=by
 by_cases h1:g.k=1
 ·exact .inl h1
 ·right
  by_cases ho:oneK g.k=true
  ·have h:=of_decide_eq_true ho
   have h9:¬ g.k=9:=by omega
   have h10:¬ g.k=10:=by omega
   have h11:¬ g.k=11:=by omega
   unfold c0 c1
   rw [if_neg h.1,if_neg h9,if_neg h10,if_neg h11,if_pos ho]
   unfold u1
   rw [if_neg h1,if_neg h1]
   by_cases h2:g.k=2
   ·left;rw [if_pos h2,if_pos rfl]
   ·rw [if_neg h2,if_neg h2]
    by_cases h3:g.k=3
    ·left;rw [if_pos h3,if_pos rfl]
    ·right
     rw [if_neg h3,if_neg (by cases β g.a.toNat<;>simp)]
  ·right
   unfold c1
   rw [if_neg ho]
theorem Xr1{g:Gt}(ht:TwoQ g)(hk:1≤g.k∧g.k≤12){v:St}{R:Int}(hv:∀ β,qN (v β)≤R)(β:Nat→Bool) : qN (act g v β)≤4^hN g*R:=by
 rw [X3p ht]
 obtain ⟨u0,u1⟩:=Xwt g β
 have b0:=Int.le_trans (Xbo (w:=v (xb β (msk g β))) u0) (hv _)
 have b1:=Int.le_trans (Xbo (w:=v (xb β (flp g))) u1) (hv _)
 have hR:0≤R:=Int.le_trans (Xl9 _) (hv β)
 by_cases h1:g.k=1
 ·have:=Xsk (c0 g β*v (xb β (msk g β))) (c1 g β*v (xb β (flp g)))
  unfold hN
  rw [if_pos h1,show (4:Int)^1=4 from rfl]
  omega
 ·unfold hN
  rw [if_neg h1,show (4:Int)^0=1 from rfl]
  rcases Xsj g hk β with h|h|h
  ·exact absurd h h1
  ·rw [h,show (0:Rg)*v (xb β (msk g β))+c1 g β*v (xb β (flp g))=c1 g β*v (xb β (flp g)) by simp only [Xs,X00,Xn,X03,X02,X06,X07,X0b,Xh,Xi,Xu,Xv,Xj,X01]]
   omega
  ·rw [h,show c0 g β*v (xb β (msk g β))+(0:Rg)*v (xb β (flp g))=c0 g β*v (xb β (msk g β)) by simp only [Xs,X00,Xn,X03,X02,X06,X07,X0b,Xh,Xi,Xu,Xv,Xj,X01]]
   omega
theorem X96{n:Int}{g:Gt}(h:gOk n g=true) : TwoQ g∧(1≤g.k∧g.k≤12):=by
 obtain ⟨_,hk,ha,hb⟩:=X11 h
 refine ⟨fun h9=>?_,by omega⟩
 have h1:=ha (by omega)
 have h2:=hb h9
 omega
theorem Xir{x y:Dy}{m n:Nat}{z z':Rg}(hx:V x m z)(hy:V y n z')(ox:dOk x=true)(oy:dOk y=true)(he:m+n≤60)(hb:qN (z*z')≤BB) : ∃ w,dMulI x y=some w:=by
 have k1:=X2t ox
 have k2:=X2t oy
 obtain ⟨_,j,h1,h2⟩:=hx;obtain ⟨_,l,h3,h4⟩:=hy
 have e:z*z'=s2^(j+l)*(x.num*y.num):=by rw [h2,h4,X2n];simp only [Xs,X00,Xn,X03,X02,X06,X07,X0b,Xh,Xi,Xu,Xv,Xj,X01]
 have b:=X8r (i:=0) e (Nat.zero_le _)
 rw [X4x,show (1:Rg)*(x.num*y.num)=x.num*y.num from Xn _] at b
 have hr:rOk (rMul x.num y.num)=true:=by rw [Xgc k1.1 k2.1];exact Xbd (Int.le_trans b hb)
 have h9:rIf2 (rMul x.num y.num) [x.num,y.num]=true:=by simp [rIf2,hr,k1.1,k2.1]
 unfold dMulI
 rw [if_pos (by rw [ox,oy,h9];rfl)]
 unfold dOf
 unfold rIf1
 rw [if_pos h9,if_pos (by rw [hr];simp only [Bool.true_and,Xo];omega)]
 exact ⟨_,rfl⟩
theorem X69:∀ (k:Nat) (y:Rg),(∀ i,i≤k→rOk (s2^i*y)=true)→(raiseI k y).2=true
 | 0,y,_=>rfl
 | k+1,y,h=>by
  have h0:=h 0 (Nat.zero_le _)
  have h1:=h 1 (by omega)
  rw [X4x,show (1:Rg)*y=y from Xn y] at h0
  rw [show s2^1*y=s2*y by rw [X9y,X4x,Xn]] at h1
  have e:=X99 h0
  unfold raiseI
  rw [e,if_pos (by simp [rIf2,h0,h1])]
  exact X69 k _ fun i hi=>by
   have:=h (i+1) (by omega)
   rw [X9y,show s2^i*s2*y=s2^i*(s2*y) from Xh _ _ _] at this
   exact this
theorem Xis{x y:Dy}{m:Nat}{z z':Rg}(hx:V x m z)(hy:V y m z')(ox:dOk x=true)(oy:dOk y=true)(bx:qN z≤BB)(b_y:qN z'≤BB)(bs:qN (z+z')≤BB) : ∃ w,dAddI x y=some w:=by
 have k1:=X2t ox
 have k2:=X2t oy
 obtain ⟨_,j,h1,h2⟩:=hx;obtain ⟨_,l,h3,h4⟩:=hy
 have p1:(dRaise x (max x.exp y.exp)).2=true:=X69 _ _ fun i hi=>Xbd (Int.le_trans (X8r h2 (by omega)) bx)
 have p2:(dRaise y (max x.exp y.exp)).2=true:=X69 _ _ fun i hi=>Xbd (Int.le_trans (X8r h4 (by omega)) b_y)
 have r1:=X53 _ _ k1.1 p1
 have r2:=X53 _ _ k2.1 p2
 have e0:rAdd (dRaise x (max x.exp y.exp)).1 (dRaise y (max x.exp y.exp)).1=(dRaise x (max x.exp y.exp)).1+(dRaise y (max x.exp y.exp)).1:=Xhc r1.2 r2.2
 obtain ⟨t,ht⟩ : ∃ t:Nat,max x.exp y.exp+t=m:=⟨(m-max x.exp y.exp).toNat,by omega⟩
 have q1:z=s2^t*(dRaise x (max x.exp y.exp)).1:=by
  have:=r1.1
  unfold dRaise
  rw [this,h2,show j=t+(max x.exp y.exp-x.exp).toNat from by omega,X2n]
  simp only [Xs,X00,Xn,X03,X02,X06,X07,X0b,Xh,Xi,Xu,Xv,Xj,X01]
 have q2:z'=s2^t*(dRaise y (max x.exp y.exp)).1:=by
  have:=r2.1
  unfold dRaise
  rw [this,h4,show l=t+(max x.exp y.exp-y.exp).toNat from by omega,X2n]
  simp only [Xs,X00,Xn,X03,X02,X06,X07,X0b,Xh,Xi,Xu,Xv,Xj,X01]
 have q3:z+z'=s2^t*((dRaise x (max x.exp y.exp)).1+(dRaise y (max x.exp y.exp)).1):=by rw [q1,q2];simp only [Xs,X00,Xn,X03,X02,X06,X07,X0b,Xh,Xi,Xu,Xv,Xj,X01]
 have b:=X8r (i:=0) q3 (Nat.zero_le _)
 rw [X4x,show (1:Rg)*((dRaise x (max x.exp y.exp)).1+(dRaise y (max x.exp y.exp)).1)=(dRaise x (max x.exp y.exp)).1+(dRaise y (max x.exp y.exp)).1 from Xn _,← e0] at b
 have hr:=Xbd (Int.le_trans b bs)
 have h9:rIf2 (rAdd (dRaise x (max x.exp y.exp)).1 (dRaise y (max x.exp y.exp)).1) [(dRaise x (max x.exp y.exp)).1,(dRaise y (max x.exp y.exp)).1]=true:=by
  have o1:rOk (dRaise x (max x.exp y.exp)).1=true:=r1.2
  have o2:rOk (dRaise y (max x.exp y.exp)).1=true:=r2.2
  simp [rIf2,hr,o1,o2]
 unfold dAddI
 rw [if_pos (by rw [ox,oy];rfl),if_pos (by rw [p1,p2,h9];rfl)]
 unfold dOf
 unfold rIf1
 rw [if_pos h9,if_pos (by rw [hr];simp only [Bool.true_and,Xo];omega)]
 exact ⟨_,rfl⟩
theorem Xps:dOk dZ=true:=by decide
theorem X7l{a b:Mx}{i j m m':Nat}{za zb:Nat→Rg}{r:Int}(hr:0≤r)(hm:m+m'≤60) : ∀ n,(∀ k,k<n→V (a.at i k) m (za k)∧dOk (a.at i k)=true∧Un (za k))→(∀ k,k<n→V (b.at k j) m' (zb k)∧dOk (b.at k j)=true∧qN (zb k)≤r*r)→
  (n:Int)*r≤500000000→∃ s,dotI a b i j n=some s∧dOk s=true∧Cb (n*r) (sumN (fun k=>za k*zb k) n)
 | 0,_,_,_=>⟨dZ,rfl,Xps,by unfold Cb sumN;simp;decide⟩
 | n+1,ha,hb,hn=>by
  have hn':((n+1:Nat) : Int)*r=(n:Int)*r+r:=by grind
  rw [hn'] at hn ⊢
  have hnr:0≤(n:Int)*r:=Int.mul_nonneg (by omega) hr
  obtain ⟨s,h1,h2,h3⟩:=X7l (a:=a) (b:=b) (i:=i) (j:=j) hr hm n (fun k hk=>ha k (by omega)) (fun k hk=>hb k (by omega)) (by omega)
  obtain ⟨va,oa,ua⟩:=ha n (by omega)
  obtain ⟨vb,ob,rb⟩:=hb n (by omega)
  have hrB:r*r≤BB:=by
   have:=Int.mul_le_mul (show r≤500000000 by omega) (show r≤500000000 by omega) hr (by decide)
   unfold BB
   omega
  have hp:=Int.le_trans (Xbo (w:=zb n) ua) rb;obtain ⟨x,h4⟩:=Xir va vb oa ob hm (Int.le_trans hp hrB);have hvx:=Xp4 h4 va vb
  have hvs:=X6g n (fun k hk=>(ha k (by omega)).1) (fun k hk=>(hb k (by omega)).1) h1
  have hc:Cb ((n:Int)*r+r) (sumN (fun k=>za k*zb k) n+za n*zb n):=Xs2 h3 (Xp0 hr hp)
  have big:∀ {K:Int} {z:Rg},0≤K→K≤500000000→Cb K z→qN z≤BB:=fun {K z} h0 hK h=>by
   have h5:=Xub h
   have:=Int.mul_le_mul hK hK h0 (by decide)
   unfold BB
   omega
  obtain ⟨w,h5⟩:=Xis hvs hvx.1 h2 hvx.2 (big hnr (by omega) h3) (Int.le_trans hp hrB) (big (by omega) (by omega) hc)
  refine ⟨w,?_,(Xov h5 hvs hvx.1).2,hc⟩
  rw [dotI,h1,Option.bind_some,h4,Option.bind_some,h5]
theorem Xfw{f:Nat→Option Dy} : ∀ n,(∀ k,k<n→∃ z,f k=some z)→∃ l,seqO f n=some l
 | 0,_=>⟨[],rfl⟩
 | n+1,h=>by
  obtain ⟨l,h1⟩:=Xfw n fun k hk=>h k (by omega)
  obtain ⟨z,h2⟩:=h n (by omega)
  exact ⟨_,X7e h1 h2⟩
theorem Xea{R C:Int}{f:Nat→Nat→Option Dy}(hR:isDimB R=true)(hC:isDimB C=true)(h:∀ i j,i<R.toNat→j<C.toNat→∃ z,f i j=some z) : ∃ M,matOf R C f=some M:=by
 obtain ⟨l,hl⟩:=Xfw (f:=gridG f C.toNat) (R.toNat*C.toNat) fun k hk=>by
  have hC0:0<C.toNat:=by have:=X2q hC;omega
  exact h _ _ (Nat.div_lt_of_lt_mul (by rw [Nat.mul_comm];exact hk)) (Nat.mod_lt _ hC0)
 exact ⟨⟨R,C,l⟩,by unfold matOf;rw [if_pos (by rw [hR,hC];rfl),hl];rfl⟩
theorem Xk4{N:Nat}{g:Gt}(i k:Nat) : Un (zc N g i k):=by
 unfold zc
 split
 ·split
  ·exact X9x 1
  ·exact X4m
 ·split
  ·split
   ·exact X9x _
   ·exact X4m
  ·split
   ·exact Xmb _ _ _
   ·exact X4m
theorem Xul(k:Nat) : (4:Int)^k=2^k*2^k:=by
 induction k with
 | zero=>rfl
 | succ k ih=>rw [Int.pow_succ,Int.pow_succ,ih];grind
theorem Xo6{a b:Nat}(h:a≤b) : (2:Int)^a≤2^b:=by
 obtain ⟨c,rfl⟩ : ∃ c,b=a+c:=⟨b-a,by omega⟩
 rw [Int.pow_add]
 have h1:=X6i c;have h2:=X6i a
 have:=Int.mul_le_mul_of_nonneg_left h1 (show 0≤(2:Int)^a by omega)
 omega
theorem Xaj{N C:Nat}(hN5:1≤N∧N≤5) : ∀ (l:List Gt) {m0:Nat} {M0:Mx} {v:Nat→St},(∀ g ∈ l,gOk N g=true)→m0+hs l≤23→mOk M0=true→M0.rows=((2^N:Nat) : Int)→M0.cols=(C:Int)→
  (∀ i j,i<2^N→j<C→V (M0.at i j) m0 (v j (pt N i)))→(∀ j β,qN (v j β)≤4^m0)→∃ M,applI N l M0=some M
 | [],m0,M0,v,_,_,_,_,_,_,_=>⟨M0,rfl⟩
 | g::l,m0,M0,v,hg,hh,hk,hr,hc,h0,hb=>by
  have hg1:=hg g (by simp)
  have hge:=X1d hg1
  have e2:(gateS (N:Int) g).cols.toNat=2^N:=by
   show ((2^(N:Int).toNat:Nat) : Int).toNat=2^N
   rw [Int.toNat_natCast,Int.toNat_natCast]
  have er:(gateS (N:Int) g).rows=((2^N:Nat) : Int):=by
   show ((2^(N:Int).toNat:Nat) : Int)=_
   rw [Int.toNat_natCast]
  have ec:(gateS (N:Int) g).cols=((2^N:Nat) : Int):=by
   show ((2^(N:Int).toNat:Nat) : Int)=_
   rw [Int.toNat_natCast]
  have h1:hN g≤1:=by unfold hN;split<;>omega
  rw [hs] at hh
  have hcell:∀ i j,i<2^N→j<C→∃ s,dotI (gateS N g) M0 i j (2^N)=some s:=fun i j hi hj=>by
   have p32:=X6x hN5.2
   have q1:(2:Int)^m0≤2^23:=Xo6 (by omega)
   have q2:=X6i m0
   obtain ⟨s,h,_⟩:=X7l (a:=gateS N g) (b:=M0) (i:=i) (j:=j) (m:=hN g) (m':=m0) (za:=fun k=>zc N g i k) (zb:=fun k=>v j (pt N k)) (r:=2^m0) (by omega) (by omega) (2^N)
    (fun k hk'=>⟨by rw [X38 hg1 hi hk'];exact X6d hg1 i k,Mx.at_ok (X2f hge.2) i k,Xk4 i k⟩)
    (fun k hk'=>⟨h0 k j hk' hj,Mx.at_ok (X2f hk) k j,by rw [← Xul];exact hb j _⟩)
    (by
     have h5:(((2^N:Nat) : Int))*2^m0≤32*2^m0:=Int.mul_le_mul_of_nonneg_right (by omega) (by omega)
     have h6:(2:Int)^23=8388608:=rfl
     omega)
   exact ⟨s,h⟩
  have hdim:=X44 hk;have hdg:=X44 hge.2
  obtain ⟨M1,hM1⟩ : ∃ M1,mulI (gateS N g) M0=some M1:=by
   unfold mulI
   rw [if_pos (by rw [hge.2,hk,ec,hr];simp),e2]
   refine Xea hdg.1 hdim.2 fun i j hi hj=>hcell i j ?_ ?_
   ·rw [er,Int.toNat_natCast] at hi;exact hi
   ·rw [hc,Int.toNat_natCast] at hj;exact hj
  obtain ⟨q1,q2,q3,q4,_⟩:=X7w hM1
  have hok1:=((X2x hge.2 hk (by rw [ec,hr])).1 M1 hM1)
  rw [applI,hge.1,Option.getD_some,hM1,Option.bind_some]
  refine Xaj hN5 l (m0:=m0+hN g) (v:=fun j=>act g (v j)) (fun g' hg'=>hg g' (by simp [hg'])) (by omega) hok1.2.1 (by rw [q2,er]) (by rw [q3,hc]) (fun i j hi hj=>?_) (fun j β=>?_)
  ·have q1':=q1 i j (by rw [er,Int.toNat_natCast];exact hi) (by rw [hc,Int.toNat_natCast];exact hj)
   rw [e2] at q1'
   have:=X6g (m:=hN g) (m':=m0) (za:=fun k=>zc N g i k) (zb:=fun k=>v j (pt N k)) (2^N) (fun k hk'=>by rw [X38 hg1 hi hk'];exact X6d hg1 i k) (fun k hk'=>h0 k j hk' hj) q1'
   rw [X70 hg1 hi] at this
   rw [Nat.add_comm]
   exact this
  ·have ht:=X96 hg1
   have:=Xr1 ht.1 ht.2 (hb j) β
   rw [Int.pow_add,Int.mul_comm]
   exact this
theorem Xc7{c:Cx}(hc:cOk c=true)(hh:hs c.gs≤23) : ∃ M,opI c=some M:=by
 obtain ⟨hn,_,hg⟩:=X0x hc
 obtain ⟨N,hN⟩ : ∃ N:Nat,c.n=N:=⟨c.n.toNat,by omega⟩
 rw [hN] at hn hg
 have hd:=X2g (n:=(N:Int)) hn
 rw [Int.toNat_natCast] at hd
 obtain ⟨u1,u2⟩:=X3t hd
 have hu:idI (((2^N:Nat)) : Int)=some (unitS (2^N)):=u1
 unfold opI
 rw [if_pos hc,hN,Int.toNat_natCast,hu,Option.bind_some]
 unfold idI at hu
 obtain ⟨p1,p2,p3,_⟩:=X71 hu
 rw [Int.toNat_natCast] at p1
 refine Xaj (C:=2^N) (by omega) c.gs (m0:=0) (v:=fun j=>eb N j) hg (by omega) u2 p2 p3 (fun i j hi hj=>?_) (fun j β=>?_)
 ·have e:=Option.some.inj (p1 i j hi hj)
  rw [← e,Xcn (by omega) hi hj]
  by_cases e2:i=j
  ·rw [if_pos e2,if_pos e2]
   exact Xfh (by decide) (by decide)
  ·rw [if_neg e2,if_neg e2]
   exact X60 0
 ·unfold eb
  split
  ·exact (by decide:qN 1≤4^0)
  ·exact (by decide:qN 0≤4^0)
theorem Xow:∀ l:List Gt,hs l≤l.length
 | []=>Nat.le_refl _
 | g::l=>by
  have:=Xow l
  have h1:hN g≤1:=by unfold hN;split<;>omega
  rw [hs,List.length_cons]
  omega
theorem Xqs{n:Int}{l:List Gt}(hn:1≤n∧n≤5)(hl:l.length≤400)(hg:∀ g ∈ l,gOk n g=true) : cOk ⟨n,l⟩=true:=by
 simp only [cOk,Bool.and_eq_true,Xo,decide_eq_true_eq,Bool.not_eq_true',List.any_eq_false]
 exact ⟨⟨hn,by omega⟩,fun g h=>by simp [hg g h]⟩
end Go.Proofs.YtlfjcmldfbfdbaaGreat
