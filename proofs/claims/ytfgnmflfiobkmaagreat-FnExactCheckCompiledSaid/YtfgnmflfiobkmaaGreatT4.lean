/-
  The walks and laws of CheckCompiled, in short rules said of every frame.
-/
import Derived.Test.YtfgnmflfiobkmaaGreatT3
import Derived.Test.YtfgnmflfiobkmaaGreatT1
import Derived.Test.YtfgnmflfiobkmaaGreatT2
import Derived.WideKeyRuns
set_option linter.unusedVariables false
set_option linter.unusedSimpArgs false
set_option maxRecDepth 4000
namespace Go.Proofs.YtfgnmflfiobkmaaGreat
open Go.RowKit
theorem F89(w0:World)(Al:Option Addr)(cl:Nat)(l:List Gt)(hr_l:Rd w0 w0.heap.size 107 encG Al l)(Aus:Option Addr)(cus:Nat)(us:List Int)(hr_us:Rd w0 w0.heap.size 3 encI Aus us)(hln:l.length≤10000000)(hlu:us.length≤100000000) : Ret Tryz.prog 89 [.slice Al l.length cl,.slice Aus us.length cus] w0 (fun v w=>∃ A c1,v=.agg #[vi (⟨max 1 (us.length:Int),l.map (smallG us)⟩ : Cx).n,.slice A (⟨max 1 (us.length:Int),l.map (smallG us)⟩ : Cx).gs.length c1]∧Own w w0.heap.size 107 3 encG A c1 (⟨max 1 (us.length:Int),l.map (smallG us)⟩ : Cx).gs∧Below w0.heap.size w0 w):=by
 refine enter Tryz.func89 rfl 62 rfl rfl ?_
 intro a hf
 have hW:Below w0.heap.size w0 w0:=Below.refl _ _
 refine Zs hf fun _ hK3=>?_
 refine Zf (Xa (zs:=[vi 0,.slice none 0 0]) X3n rfl) ?_;rintro _ w1 ⟨b5,rfl,hl5,hE,hB5⟩
 have hlo5:=Nat.le_trans hW.size hl5
 replace hW:=btr hW hE
 refine Zt hK3 fun a hf=>?_
 refine Zs hf fun _ hK6=>?_
 refine Zm rfl<|Ze (X0d rfl X0b) ?_
 refine Zf (Vc (Xsh _ 1 (us.length:Int)) Xlc) ?_;rintro _ _ ⟨rfl,rfl⟩
 refine Ze (X01 (ps:=[(0,vi (max 1 (us.length:Int)))]) (cs:=[vi (max 1 (us.length:Int)),.slice none 0 0]) rfl (fun _=>by first|rfl|kernel_rfl)) ?_
 refine Zf (Xa (zs:=[vi 0,.slice none 0 0]) X3n rfl) ?_;rintro _ w2 ⟨b9,rfl,hl9,hE,hB9⟩
 have hne5_9:b5≠b9:=by have:=hB5.lt;omega
 have hlo9:=Nat.le_trans hW.size hl9
 replace hB5:=hB5.below hE
 replace hW:=btr hW hE
 refine Zo (Vw [vi (max 1 (us.length:Int)),.slice none 0 0] X1j hB9) ?_;rintro _ w3 ⟨ho,hb⟩
 have hold:=hB9
 replace hB5:=hB5.only ho (by omega)
 replace hW:=Below.only hW ho hlo9
 clear hold
 have hB9:=hb
 clear hb ho
 refine Zt hK6 fun a hf=>?_
 refine wp_seq_k fun _ hK10=>?_
 refine Zs hf fun _ hK11=>?_
 refine Zm rfl<|Ze (X0d rfl X02)<|Zm rfl ?_
 refine Zt hK11 fun a hf=>?_
 refine wp_block ?_
 refine X04 (σ:=Nat×(List Gt)) (fun (s:Nat×(List Gt)) (a:Act) (w:World)=>match s with|(k,m)=>∃ A12 c12,Fr a 62 [(1,.slice Aus us.length cus),(4,.pointer (some ⟨b5,0,none⟩)),(5,.pointer (some ⟨b9,0,none⟩)),(15,.slice Al l.length cl),(16,vi (l.length:Int)),(17,vi (k:Int))]∧(k≤l.length)∧(m=(l.take k).map (smallG us))∧Blk w b5 41 [vi 0,.slice none 0 0]∧Blk w b9 41 [vi (max 1 (us.length:Int)),.slice A12 m.length c12]∧Own w w0.heap.size 107 3 encG A12 c12 m∧Below w0.heap.size w0 w) (fun (s:Nat×(List Gt))=>match s with|(k,m)=>l.length-k) (0,[]) ?_ ?_
 · exact ⟨none,0,hf.sub ⟨rfl,rfl,rfl,rfl,rfl,rfl,trivial⟩,(Nat.zero_le _),rfl,hB5,hB9,(Own.nil _ _ _ _ _),hW⟩
 rintro ⟨k,m⟩ a w4 ⟨A12,c12,hf,hk,hm,hB5,hB9,ho12,hW⟩
 have hml:m.length=k:=by rw [hm,List.length_map,List.length_take,Nat.min_eq_left hk]
 refine Zs hf fun _ hK13=>?_
 refine Ze (X0m rfl rfl) ?_
 refine Zt hK13 fun a hf=>?_
 refine wp_seq_k fun _ hK14=>?_
 refine Xb hf rfl (fun hc15=>?_) (fun hc15=>?_)
 ·have hc15b:=hc15
  have hc15:=of_decide_eq_true hc15
  obtain ⟨u16,hu16⟩:=Xf (l:=l) (k:=k) (by omega)
  have hst:=X3v (f:=smallG us) hu16
  refine wp_skip ?_
  refine hK14 _ _ ?_
  refine wp_seq_k fun _ hK17=>?_
  refine wp_block ?_
  refine Zs hf fun _ hK18=>?_
  refine Zi (k:=k) (u:=u16) (enc:=encG) (l:=l) trivial rfl rfl X02 X0o Xq (hr_l.below' hW) hu16 rfl ?_;intro p20 hat19
  refine Ze (Xi (l:=[vi u16.k,vi u16.a,vi u16.b]) rfl X0k hat19 rfl) ?_
  refine Zf (Xa (zs:=[vi 0,vi 0,vi 0]) X39 rfl) ?_;rintro _ w5 ⟨b21,rfl,hl21,hE,hB21⟩
  have hlo21:=Nat.le_trans hW.size hl21
  have haw1_21:=(hr_l.below' hW).away hl21
  have haw12_21:=ho12.away hl21
  replace hB5:=hB5.below hE
  replace hB9:=hB9.below hE
  replace ho12:=ho12.below hE
  replace hW:=btr hW hE
  refine Zo (Vw [vi u16.k,vi u16.a,vi u16.b] X0o hB21) ?_;rintro _ w6 ⟨ho,hb⟩
  have hold:=hB21
  replace hB5:=hB5.only ho (Blk.ne hB5 hold rfl)
  replace hB9:=hB9.only ho (Blk.ne hB9 hold rfl)
  replace ho12:=ho12.onlyA ho haw12_21
  replace hW:=Below.only hW ho hlo21
  clear hold
  have hB21:=hb
  clear hb ho
  refine Zt hK18 fun a hf=>?_
  refine Zs hf fun _ hK22=>?_
  refine Ze (Vd rfl X0f 0)<|Ze (X0 rfl X5 (hB21.at 0))<|Ze (X01 (ps:=[(0,vi u16.k)]) (cs:=[vi u16.k,vi 0,vi 0]) rfl (fun _=>by first|rfl|kernel_rfl)) ?_
  refine Zf (Xa (zs:=[vi 0,vi 0,vi 0]) X39 rfl) ?_;rintro _ w7 ⟨b23,rfl,hl23,hE,hB23⟩
  have hne21_23:b21≠b23:=by have:=hB21.lt;omega
  have hlo23:=Nat.le_trans hW.size hl23
  have haw1_23:=(hr_l.below' hW).away hl23
  have haw12_23:=ho12.away hl23
  replace hB5:=hB5.below hE
  replace hB9:=hB9.below hE
  replace hB21:=hB21.below hE
  replace ho12:=ho12.below hE
  replace hW:=btr hW hE
  refine Zo (Vw [vi u16.k,vi 0,vi 0] X0o hB23) ?_;rintro _ w8 ⟨ho,hb⟩
  have hold:=hB23
  replace hB5:=hB5.only ho (Blk.ne hB5 hold rfl)
  replace hB9:=hB9.only ho (Blk.ne hB9 hold rfl)
  replace hB21:=hB21.only ho (by omega)
  replace ho12:=ho12.onlyA ho haw12_23
  replace hW:=Below.only hW ho hlo23
  clear hold
  have hB23:=hb
  clear hb ho
  refine Zt hK22 fun a hf=>?_
  refine wp_seq_k fun _ hK24=>?_
  refine Zs hf fun _ hK25=>?_
  refine Zm rfl<|Ze (X0d rfl X0b)<|Zm rfl ?_
  refine Zt hK25 fun a hf=>?_
  refine wp_block ?_
  refine X04 (σ:=Nat×Int×Int) (fun (s:Nat×Int×Int) (a:Act) (w:World)=>match s with|(j,x,y)=>Fr a 62 [(1,.slice Aus us.length cus),(4,.pointer (some ⟨b5,0,none⟩)),(5,.pointer (some ⟨b9,0,none⟩)),(7,.pointer (some ⟨b21,0,none⟩)),(8,.pointer (some ⟨b23,0,none⟩)),(15,.slice Al l.length cl),(16,vi (l.length:Int)),(17,vi (k:Int)),(24,.slice Aus us.length cus),(25,vi (us.length:Int)),(26,vi (j:Int))]∧(j≤us.length)∧(x=if u16.k=12 then 0 else lastN us u16.a j)∧(y=if inR u16.k 9 11=true then lastN us u16.b j else 0)∧Blk w b5 41 [vi 0,.slice none 0 0]∧Blk w b9 41 [vi (max 1 (us.length:Int)),.slice A12 m.length c12]∧Blk w b21 107 [vi u16.k,vi u16.a,vi u16.b]∧Blk w b23 107 [vi u16.k,vi x,vi y]∧Own w w0.heap.size 107 3 encG A12 c12 m∧Below w0.heap.size w0 w) (fun (s:Nat×Int×Int)=>match s with|(j,x,y)=>us.length-j) (0,0,0) ?_ ?_
  · exact ⟨hf.sub ⟨rfl,rfl,rfl,rfl,rfl,rfl,rfl,rfl,rfl,rfl,rfl,trivial⟩,(Nat.zero_le _),(by split<;>rfl),(by split<;>rfl),hB5,hB9,hB21,hB23,ho12,hW⟩
  rintro ⟨j,x,y⟩ a w9 ⟨hf,hj,hx,hy,hB5,hB9,hB21,hB23,ho12,hW⟩
  refine Zs hf fun _ hK26=>?_
  refine Ze (X0m rfl rfl) ?_
  refine Zt hK26 fun a hf=>?_
  refine wp_seq_k fun _ hK27=>?_
  refine Xb hf rfl (fun hc28=>?_) (fun hc28=>?_)
  ·have hc28b:=hc28
   have hc28:=of_decide_eq_true hc28
   obtain ⟨u29,hu29⟩:=Xf (l:=us) (k:=j) (by omega)
   refine wp_skip ?_
   refine hK27 _ _ ?_
   refine wp_seq_k fun _ hK30=>?_
   refine wp_block ?_
   refine Zs hf fun _ hK31=>?_
   refine Zm rfl ?_
   refine Zi (k:=j) (u:=u29) (enc:=encI) (l:=us) trivial rfl rfl X0b X0z Xz (hr_us.below' hW) hu29 rfl ?_;intro p33 hat32
   refine Ze (X0 rfl X5 hat32)<|Za rfl<|Za rfl ?_
   refine Zt hK31 fun a hf=>?_
   refine wp_seq_k fun _ hK34=>?_
   refine wp_seq_k fun _ hK35=>?_
   refine X06 (fun a w=>Fr a 62 [(1,.slice Aus us.length cus),(4,.pointer (some ⟨b5,0,none⟩)),(5,.pointer (some ⟨b9,0,none⟩)),(7,.pointer (some ⟨b21,0,none⟩)),(8,.pointer (some ⟨b23,0,none⟩)),(9,vi (j:Int)),(10,vi u29),(15,.slice Al l.length cl),(16,vi (l.length:Int)),(17,vi (k:Int)),(24,.slice Aus us.length cus),(25,vi (us.length:Int)),(26,vi (j:Int)),(39,.bool ((u16.k != 12)&&(u29==u16.a)))]∧w9=w) ?_ ?_
   ·refine Zr hf ?_
    refine Ze (Vd rfl X0f 0)<|Ze (X0 rfl X5 (hB21.at 0))<|Ze (X1g rfl rfl)<|Zm rfl ?_
    refine Zg 34 rfl (fun hg36=>?_) (fun hg36=>?_)
    ·refine Zv ⟨_,_,rfl,rfl,hg36⟩ (X8 rfl) ?_
     refine Zv ⟨_,_,rfl,rfl,hg36⟩ (Vd rfl X0a 1) ?_
     refine Zv ⟨_,_,rfl,rfl,hg36⟩ (X0 rfl X5 (hB21.at 1)) ?_
     refine Zv ⟨_,_,rfl,rfl,hg36⟩ (X0s rfl rfl) ?_
     refine Ze (X9 rfl hg36 rfl) ?_
     refine Zn fun a hf=>?_
     exact ⟨hf.sub ⟨rfl,rfl,rfl,rfl,rfl,rfl,rfl,rfl,rfl,rfl,rfl,rfl,rfl,X1 rfl (by first|rfl|(simp only [hc15b,hc28b,hg36,bs];done)|simp [hc15b,hc28b,hg36]),trivial⟩,rfl⟩
    refine Zp ⟨_,_,rfl,rfl,hg36⟩ ?_
    refine Zp ⟨_,_,rfl,rfl,hg36⟩ ?_
    refine Zp ⟨_,_,rfl,rfl,hg36⟩ ?_
    refine Zp ⟨_,_,rfl,rfl,hg36⟩ ?_
    refine Ze (X7 rfl hg36 rfl) ?_
    refine Zn fun a hf=>?_
    exact ⟨hf.sub ⟨rfl,rfl,rfl,rfl,rfl,rfl,rfl,rfl,rfl,rfl,rfl,rfl,rfl,X1 rfl (by first|rfl|(simp only [hc15b,hc28b,hg36,bs];done)|simp [hc15b,hc28b,hg36]),trivial⟩,rfl⟩
   rintro a _ ⟨hf,rfl⟩
   refine hK35 _ _ ?_
   refine Xb hf rfl (fun hc37=>?_) (fun hc37=>?_)
   ·have hc37b:=hc37
    refine Zr hf ?_
    refine Zm rfl<|Ze (Vd rfl X0a 1) ?_
    refine Zo (Vu (vs:=[vi (j:Int)]) (l':=[vi u16.k,vi (j:Int),vi y]) rfl rfl X0z hB23) ?_;rintro _ w10 ⟨ho,hb⟩
    have hold:=hB23
    replace hB5:=hB5.only ho (Blk.ne hB5 hold rfl)
    replace hB9:=hB9.only ho (Blk.ne hB9 hold rfl)
    replace hB21:=hB21.only ho (by omega)
    replace ho12:=ho12.onlyA ho haw12_23
    replace hW:=Below.only hW ho hlo23
    clear hold
    have hB23:=hb
    clear hb ho
    refine Zt hK34 fun a hf=>?_
    refine wp_seq_k fun _ hK38=>?_
    refine X06 (fun a w=>Fr a 62 [(1,.slice Aus us.length cus),(4,.pointer (some ⟨b5,0,none⟩)),(5,.pointer (some ⟨b9,0,none⟩)),(7,.pointer (some ⟨b21,0,none⟩)),(8,.pointer (some ⟨b23,0,none⟩)),(9,vi (j:Int)),(15,.slice Al l.length cl),(16,vi (l.length:Int)),(17,vi (k:Int)),(24,.slice Aus us.length cus),(25,vi (us.length:Int)),(26,vi (j:Int)),(50,.bool ((inR u16.k 9 11)&&(u29==u16.b)))]∧w10=w) ?_ ?_
    ·refine Zr hf ?_
     refine Ze (Vd rfl X0f 0)<|Ze (X0 rfl X5 (hB21.at 0)) ?_
     refine Zf (Vc (F85 _ u16.k 9 11) X2q) ?_;rintro _ _ ⟨rfl,rfl⟩
     refine Zm rfl ?_
     refine Zg 45 rfl (fun hg39=>?_) (fun hg39=>?_)
     ·refine Zv ⟨_,_,rfl,rfl,hg39⟩ (X8 rfl) ?_
      refine Zv ⟨_,_,rfl,rfl,hg39⟩ (Vd rfl X0n 2) ?_
      refine Zv ⟨_,_,rfl,rfl,hg39⟩ (X0 rfl X5 (hB21.at 2)) ?_
      refine Zv ⟨_,_,rfl,rfl,hg39⟩ (X0s rfl rfl) ?_
      refine Ze (X9 rfl hg39 rfl) ?_
      refine Zn fun a hf=>?_
      exact ⟨hf.sub ⟨rfl,rfl,rfl,rfl,rfl,rfl,rfl,rfl,rfl,rfl,rfl,rfl,X1 rfl (by first|rfl|(simp only [hc15b,hc28b,hc37b,hg39,bs];done)|simp [hc15b,hc28b,hc37b,hg39]),trivial⟩,rfl⟩
     refine Zp ⟨_,_,rfl,rfl,hg39⟩ ?_
     refine Zp ⟨_,_,rfl,rfl,hg39⟩ ?_
     refine Zp ⟨_,_,rfl,rfl,hg39⟩ ?_
     refine Zp ⟨_,_,rfl,rfl,hg39⟩ ?_
     refine Ze (X7 rfl hg39 rfl) ?_
     refine Zn fun a hf=>?_
     exact ⟨hf.sub ⟨rfl,rfl,rfl,rfl,rfl,rfl,rfl,rfl,rfl,rfl,rfl,rfl,X1 rfl (by first|rfl|(simp only [hc15b,hc28b,hc37b,hg39,bs];done)|simp [hc15b,hc28b,hc37b,hg39]),trivial⟩,rfl⟩
    rintro a _ ⟨hf,rfl⟩
    refine hK38 _ _ ?_
    refine Xb hf rfl (fun hc40=>?_) (fun hc40=>?_)
    ·have hc40b:=hc40
     refine Zr hf ?_
     refine Zm rfl<|Ze (Vd rfl X0n 2) ?_
     refine Zo (Vu (vs:=[vi (j:Int)]) (l':=[vi u16.k,vi (j:Int),vi (j:Int)]) rfl rfl X0z hB23) ?_;rintro _ w11 ⟨ho,hb⟩
     have hold:=hB23
     replace hB5:=hB5.only ho (Blk.ne hB5 hold rfl)
     replace hB9:=hB9.only ho (Blk.ne hB9 hold rfl)
     replace hB21:=hB21.only ho (by omega)
     replace ho12:=ho12.onlyA ho haw12_23
     replace hW:=Below.only hW ho hlo23
     clear hold
     have hB23:=hb
     clear hb ho
     refine Zn fun a hf=>?_
     refine Xn ?_
     refine hK30 _ _ ?_
     refine Zr hf ?_
     refine Ze (Xy rfl rfl (by omega) (by omega))<|Zm rfl ?_
     refine Zn fun a hf=>?_
     refine Xk ?_
     exact ⟨(j+1,(j:Int),(j:Int)),⟨hf.sub ⟨rfl,rfl,rfl,rfl,rfl,rfl,rfl,rfl,rfl,rfl,rfl,trivial⟩,(by omega),(by first|exact X5v hu29 (by assumption)|exact X5q hu29 hx (by assumption)),(by first|exact X5r hu29 (by assumption)|exact X5w hu29 hy (by assumption)),hB5,hB9,hB21,hB23,ho12,hW⟩,(by first|omega|(dsimp only;omega))⟩
    have hc40b:=hc40
    refine wp_skip ?_
    refine Xn ?_
    refine hK30 _ _ ?_
    refine Zr hf ?_
    refine Ze (Xy rfl rfl (by omega) (by omega))<|Zm rfl ?_
    refine Zn fun a hf=>?_
    refine Xk ?_
    exact ⟨(j+1,(j:Int),y),⟨hf.sub ⟨rfl,rfl,rfl,rfl,rfl,rfl,rfl,rfl,rfl,rfl,rfl,trivial⟩,(by omega),(by first|exact X5v hu29 (by assumption)|exact X5q hu29 hx (by assumption)),(by first|exact X5r hu29 (by assumption)|exact X5w hu29 hy (by assumption)),hB5,hB9,hB21,hB23,ho12,hW⟩,(by first|omega|(dsimp only;omega))⟩
   have hc37b:=hc37
   refine wp_skip ?_
   refine hK34 _ _ ?_
   refine wp_seq_k fun _ hK41=>?_
   refine X06 (fun a w=>Fr a 62 [(1,.slice Aus us.length cus),(4,.pointer (some ⟨b5,0,none⟩)),(5,.pointer (some ⟨b9,0,none⟩)),(7,.pointer (some ⟨b21,0,none⟩)),(8,.pointer (some ⟨b23,0,none⟩)),(9,vi (j:Int)),(15,.slice Al l.length cl),(16,vi (l.length:Int)),(17,vi (k:Int)),(24,.slice Aus us.length cus),(25,vi (us.length:Int)),(26,vi (j:Int)),(50,.bool ((inR u16.k 9 11)&&(u29==u16.b)))]∧w9=w) ?_ ?_
   ·refine Zr hf ?_
    refine Ze (Vd rfl X0f 0)<|Ze (X0 rfl X5 (hB21.at 0)) ?_
    refine Zf (Vc (F85 _ u16.k 9 11) X2q) ?_;rintro _ _ ⟨rfl,rfl⟩
    refine Zm rfl ?_
    refine Zg 45 rfl (fun hg42=>?_) (fun hg42=>?_)
    ·refine Zv ⟨_,_,rfl,rfl,hg42⟩ (X8 rfl) ?_
     refine Zv ⟨_,_,rfl,rfl,hg42⟩ (Vd rfl X0n 2) ?_
     refine Zv ⟨_,_,rfl,rfl,hg42⟩ (X0 rfl X5 (hB21.at 2)) ?_
     refine Zv ⟨_,_,rfl,rfl,hg42⟩ (X0s rfl rfl) ?_
     refine Ze (X9 rfl hg42 rfl) ?_
     refine Zn fun a hf=>?_
     exact ⟨hf.sub ⟨rfl,rfl,rfl,rfl,rfl,rfl,rfl,rfl,rfl,rfl,rfl,rfl,X1 rfl (by first|rfl|(simp only [hc15b,hc28b,hc37b,hg42,bs];done)|simp [hc15b,hc28b,hc37b,hg42]),trivial⟩,rfl⟩
    refine Zp ⟨_,_,rfl,rfl,hg42⟩ ?_
    refine Zp ⟨_,_,rfl,rfl,hg42⟩ ?_
    refine Zp ⟨_,_,rfl,rfl,hg42⟩ ?_
    refine Zp ⟨_,_,rfl,rfl,hg42⟩ ?_
    refine Ze (X7 rfl hg42 rfl) ?_
    refine Zn fun a hf=>?_
    exact ⟨hf.sub ⟨rfl,rfl,rfl,rfl,rfl,rfl,rfl,rfl,rfl,rfl,rfl,rfl,X1 rfl (by first|rfl|(simp only [hc15b,hc28b,hc37b,hg42,bs];done)|simp [hc15b,hc28b,hc37b,hg42]),trivial⟩,rfl⟩
   rintro a _ ⟨hf,rfl⟩
   refine hK41 _ _ ?_
   refine Xb hf rfl (fun hc43=>?_) (fun hc43=>?_)
   ·have hc43b:=hc43
    refine Zr hf ?_
    refine Zm rfl<|Ze (Vd rfl X0n 2) ?_
    refine Zo (Vu (vs:=[vi (j:Int)]) (l':=[vi u16.k,vi x,vi (j:Int)]) rfl rfl X0z hB23) ?_;rintro _ w12 ⟨ho,hb⟩
    have hold:=hB23
    replace hB5:=hB5.only ho (Blk.ne hB5 hold rfl)
    replace hB9:=hB9.only ho (Blk.ne hB9 hold rfl)
    replace hB21:=hB21.only ho (by omega)
    replace ho12:=ho12.onlyA ho haw12_23
    replace hW:=Below.only hW ho hlo23
    clear hold
    have hB23:=hb
    clear hb ho
    refine Zn fun a hf=>?_
    refine Xn ?_
    refine hK30 _ _ ?_
    refine Zr hf ?_
    refine Ze (Xy rfl rfl (by omega) (by omega))<|Zm rfl ?_
    refine Zn fun a hf=>?_
    refine Xk ?_
    exact ⟨(j+1,x,(j:Int)),⟨hf.sub ⟨rfl,rfl,rfl,rfl,rfl,rfl,rfl,rfl,rfl,rfl,rfl,trivial⟩,(by omega),(by first|exact X5v hu29 (by assumption)|exact X5q hu29 hx (by assumption)),(by first|exact X5r hu29 (by assumption)|exact X5w hu29 hy (by assumption)),hB5,hB9,hB21,hB23,ho12,hW⟩,(by first|omega|(dsimp only;omega))⟩
   have hc43b:=hc43
   refine wp_skip ?_
   refine Xn ?_
   refine hK30 _ _ ?_
   refine Zr hf ?_
   refine Ze (Xy rfl rfl (by omega) (by omega))<|Zm rfl ?_
   refine Zn fun a hf=>?_
   refine Xk ?_
   exact ⟨(j+1,x,y),⟨hf.sub ⟨rfl,rfl,rfl,rfl,rfl,rfl,rfl,rfl,rfl,rfl,rfl,trivial⟩,(by omega),(by first|exact X5v hu29 (by assumption)|exact X5q hu29 hx (by assumption)),(by first|exact X5r hu29 (by assumption)|exact X5w hu29 hy (by assumption)),hB5,hB9,hB21,hB23,ho12,hW⟩,(by first|omega|(dsimp only;omega))⟩
  have hc28b:=hc28
  have hc28:=of_decide_eq_false hc28
  have hjl:j=us.length:=by omega
  refine wp_exit ?_
  refine Xm ?_
  refine Xm ?_
  refine X03 ?_
  refine hK24 _ _ ?_
  refine Zr hf ?_
  refine Ze (Vd rfl X07 1)<|Ze (X0 rfl X0e (hB9.at 1))<|Ze (Vn X0k hB23) ?_
  refine Zf (Xv (k:=1) (vs:=[.agg #[vi u16.k,vi x,vi y]]) (zs:=[vi u16.k,vi x,vi y]) rfl X02 X0r rfl rfl) ?_;rintro _ w13 ⟨b44,rfl,hl44,hE,hB44⟩
  have hne21_44:b21≠b44:=by have:=hB21.lt;omega
  have hne23_44:b23≠b44:=by have:=hB23.lt;omega
  have hlo44:=Nat.le_trans hW.size hl44
  have haw1_44:=(hr_l.below' hW).away hl44
  have haw12_44:=ho12.away hl44
  replace hB5:=hB5.below hE
  replace hB9:=hB9.below hE
  replace hB21:=hB21.below hE
  replace hB23:=hB23.below hE
  replace ho12:=ho12.below hE
  replace hW:=btr hW hE
  refine Zf (X10 (enc:=encG) (l:=(m)) (l2:=([(⟨u16.k,x,y⟩ : Gt)])) (B0:=w0.heap.size) rfl rfl X02 X0r Xq X0y ho12 (Rd.of_blk hB44 rfl _ hB44.lt) (by simp only [maxLen];simp;omega) (by simp;omega) hW.size) ?_;rintro _ w14 ⟨A46,c46,rfl,ho46,hg,hat⟩
  have hown:Own _ w0.heap.size 107 3 encG _ _ (m):=ho12
  have haw46_21:=hat _ hB21.lt haw12_21
  have haw46_23:=hat _ hB23.lt haw12_23
  have haw46_44:=hat _ hB44.lt haw12_44
  clear hat
  replace hB5:=hB5.appT hown hg rfl
  replace hB9:=hB9.appT hown hg rfl
  replace hB21:=hB21.appA hg haw12_21
  replace hB23:=hB23.appA hg haw12_23
  replace hW:=Below.app hW hown hg (Nat.le_refl _) hW.size
  clear hown hg
  refine Ze (Vd rfl X07 1) ?_
  refine Zo (Vu (vs:=[.slice A46 (m++([(⟨u16.k,x,y⟩ : Gt)])).length c46]) (l':=[vi (max 1 (us.length:Int)),.slice A46 (m++([(⟨u16.k,x,y⟩ : Gt)])).length c46]) rfl rfl X4a hB9) ?_;rintro _ w15 ⟨ho,hb⟩
  have hold:=hB9
  replace hB5:=hB5.only ho (by omega)
  replace hB21:=hB21.only ho (Blk.ne hB21 hold rfl)
  replace hB23:=hB23.only ho (Blk.ne hB23 hold rfl)
  replace ho46:=ho46.onlyT ho hold rfl
  replace hW:=Below.only hW ho hlo9
  clear hold
  have hB9:=hb
  clear hb ho
  refine Zn fun a hf=>?_
  refine Xn ?_
  refine hK17 _ _ ?_
  refine Zr hf ?_
  refine Ze (Xy rfl rfl (by omega) (by omega))<|Zm rfl ?_
  refine Zn fun a hf=>?_
  refine Xk ?_
  exact ⟨(k+1,m++[(⟨u16.k,x,y⟩ : Gt)]),⟨A46,c46,hf.sub ⟨rfl,rfl,rfl,rfl,rfl,rfl,trivial⟩,(by omega),(by rw [hst,hm,smallG,← hjl,← hx,← hy]),hB5,hB9,ho46,hW⟩,(by first|omega|(dsimp only;omega))⟩
 have hc15b:=hc15
 have hc15:=of_decide_eq_false hc15
 refine wp_exit ?_
 refine Xm ?_
 refine Xm ?_
 refine X03 ?_
 refine hK10 _ _ ?_
 refine Zs hf fun _ hK47=>?_
 refine Ze (Vn X0c hB9) ?_
 refine Zo (Vw [vi (max 1 (us.length:Int)),.slice A12 m.length c12] X1j hB5) ?_;rintro _ w16 ⟨ho,hb⟩
 have hold:=hB5
 replace hB9:=hB9.only ho (by omega)
 replace ho12:=ho12.onlyT ho hold rfl
 replace hW:=Below.only hW ho hlo5
 clear hold
 have hB5:=hb
 clear hb ho
 refine Zt hK47 fun a hf=>?_
 refine wp_ret (X2 hf (Xh hf rfl (ResV.cellN (l:=[vi (max 1 (us.length:Int)),.slice A12 m.length c12]) rfl X0c (hB5.at 0) rfl)) ?_)
 have hfin:l.map (smallG us)=m:=by rw [hm,List.take_of_length_le (by omega)]
 rw [hfin]
 exact ⟨A12,c12,rfl,ho12,hW⟩
end Go.Proofs.YtfgnmflfiobkmaaGreat
set_option maxRecDepth 4000
namespace Go.Proofs.YtfgnmflfiobkmaaGreat
open Go.RowKit
theorem F44(w0:World)(r:Rp)(Ar:Option Addr)(cr:Nat)(hr_r:Rd w0 w0.heap.size 107 encG Ar r.old)(Br:Option Addr)(dr:Nat)(hs_r:Rd w0 w0.heap.size 107 encG Br r.new)(hla:r.old.length≤1000000)(hlb:r.new.length≤1000000) : Ret Tryz.prog 44 [.agg #[vi r.pos,.slice Ar r.old.length cr,.slice Br r.new.length dr]] w0 (fun v w=>v=.tuple #[.bool ((justS r).1),.bool ((justS r).2)]∧Below w0.heap.size w0 w):=by
 refine enter Tryz.func44 rfl 24 rfl rfl ?_
 intro a hf
 have hW:Below w0.heap.size w0 w0:=Below.refl _ _
 refine Zs hf fun _ hK3=>?_
 refine Zf (Xu (zs:=[vi r.pos,.slice Ar r.old.length cr,.slice Br r.new.length dr]) rfl rfl) ?_;rintro _ w1 ⟨b4,rfl,hl4,hE,hB4⟩
 have hlo4:=Nat.le_trans hW.size hl4
 replace hW:=btr hW hE
 refine Za rfl<|Za rfl ?_
 refine Zt hK3 fun a hf=>?_
 refine wp_seq_k fun _ hK5=>?_
 refine X05 none (fun j=>[6].contains j) mixed ?_
 intro w2 hE
 replace hB4:=hB4.below hE
 replace hW:=btr hW hE
 refine Yb hf ?_
 refine Yo 1 rfl (fun _=>Vd rfl X1o 1)<|Ye 2 rfl (X0 rfl X0e (hB4.at 1))<|Yo 4 rfl (fun _=>Vd rfl X21 2)<|Ye 5 rfl (X0 rfl X0e (hB4.at 2)) ?_
 refine Y1 0 ?_
 refine Yk rfl trivial (Xv (k:=0) (vs:=[]) (zs:=[]) rfl X02 X0r rfl rfl) (fun _ _ ⟨_,_,_,h,_⟩=>h) ?_;rintro _ w3 ⟨b6,rfl,hl6,hE,hB6⟩
 have hlo6:=Nat.le_trans hW.size hl6
 have haw1_6:=(hr_r.below' hW).away hl6
 have haw2_6:=(hs_r.below' hW).away hl6
 replace hB4:=hB4.below hE
 replace hW:=btr hW hE
 refine Y1 3 ?_
 refine Yk rfl trivial (X7t (enc:=encG) (l2:=(r.old)) rfl rfl X02 X0r Xq X0y hB6 (hr_r.below' hW) (by simp only [maxLen];omega) (by omega)) (fun _ _ ⟨A8,c8,_,ho8,hE⟩=>hE) ?_;rintro _ w4 ⟨A8,c8,rfl,ho8,hE⟩
 replace ho8:=ho8.lower hlo6
 replace hB4:=hB4.below hE
 replace hW:=btr hW hE
 refine Y1 6 ?_
 refine Yt rfl trivial rfl (X10 (enc:=encG) (l:=(r.old)) (l2:=(r.new)) (B0:=w0.heap.size) rfl rfl X02 X0r Xq X0y ho8 (hs_r.below' hW) (by simp only [maxLen];omega) (by omega) hW.size) ?_;rintro _ w5 ⟨A9,c9,rfl,ho9,hg,hat⟩
 have hown:Own _ w0.heap.size 107 3 encG _ _ (r.old):=ho8
 clear hat
 replace hB4:=hB4.appT hown hg rfl
 replace hW:=Below.app hW hown hg (Nat.le_refl _) hW.size
 clear hown hg
 refine Y1 7 ?_
 refine Yk rfl trivial (Vc (F87 _ A9 c9 (r.old++r.new) ho9.rd.top (by simp;omega)) Xqa) (fun _ _ ⟨A10,c10,_,ho10,hE⟩=>hE) ?_;rintro _ w6 ⟨A10,c10,rfl,ho10,hE⟩
 replace ho10:=ho10.lower hW.size
 replace hB4:=hB4.below hE
 replace ho9:=ho9.below hE
 replace hW:=btr hW hE
 refine Yo 8 rfl (fun _=>X0p rfl) ?_
 refine Yd fun a hf=>?_
 refine hK5 _ _ ?_
 refine wp_seq_k fun _ hK11=>?_
 refine X05 none (fun _=>false) mixed ?_
 intro w7 hE
 replace hB4:=hB4.below hE
 replace ho10:=ho10.below hE
 replace hW:=btr hW hE
 refine Yb hf ?_
 refine Yo 0 rfl (fun _=>Vd rfl X1o 1)<|Ye 1 rfl (X0 rfl X0e (hB4.at 1))<|Yo 2 rfl (fun _=>X8 rfl)<|Yo 4 rfl (fun _=>Vd rfl X21 2)<|Ye 5 rfl (X0 rfl X0e (hB4.at 2)) ?_
 refine Yo 6 rfl (fun _=>X8 rfl) ?_
 refine Y1 3 ?_
 refine Yk rfl trivial (Vc (F89 _ Ar cr r.old (hr_r.below' hW).top A10 c10 (usedS (r.old++r.new)) ho10.rd.top (by omega) (by have:=X9a (r.old++r.new);simp only [List.length_append] at this;omega)) Xkj) (fun _ _ ⟨A12,c12,_,ho12,hE⟩=>hE) ?_;rintro _ w8 ⟨A12,c12,rfl,ho12,hE⟩
 replace ho12:=ho12.lower hW.size
 replace hB4:=hB4.below hE
 replace ho10:=ho10.below hE
 replace hW:=btr hW hE
 refine Y1 7 ?_
 refine Yk rfl trivial (Vc (F89 _ Br dr r.new (hs_r.below' hW).top A10 c10 (usedS (r.old++r.new)) ho10.rd.top (by omega) (by have:=X9a (r.old++r.new);simp only [List.length_append] at this;omega)) Xkj) (fun _ _ ⟨A13,c13,_,ho13,hE⟩=>hE) ?_;rintro _ w9 ⟨A13,c13,rfl,ho13,hE⟩
 replace ho13:=ho13.lower hW.size
 replace hB4:=hB4.below hE
 replace ho10:=ho10.below hE
 replace ho12:=ho12.below hE
 replace hW:=btr hW hE
 refine Y1 8 ?_
 refine Yk rfl trivial (Vc (F88 _ (⟨max 1 ((usedS (r.old++r.new)).length:Int),r.old.map (smallG (usedS (r.old++r.new)))⟩ : Cx) A12 c12 ho12.rd.top (⟨max 1 ((usedS (r.old++r.new)).length:Int),r.new.map (smallG (usedS (r.old++r.new)))⟩ : Cx) A13 c13 ho13.rd.top) Xqh) (fun _ _ ⟨_,hE⟩=>hE) ?_;rintro _ w10 ⟨rfl,hE⟩
 replace hB4:=hB4.below hE
 replace ho10:=ho10.below hE
 replace ho12:=ho12.below hE
 replace ho13:=ho13.below hE
 replace hW:=btr hW hE
 refine Yo 9 rfl (fun _=>X6 (vs:=[.bool ((sameS (⟨max 1 ((usedS (r.old++r.new)).length:Int),r.old.map (smallG (usedS (r.old++r.new)))⟩ : Cx) (⟨max 1 ((usedS (r.old++r.new)).length:Int),r.new.map (smallG (usedS (r.old++r.new)))⟩ : Cx)).1),.bool ((sameS (⟨max 1 ((usedS (r.old++r.new)).length:Int),r.old.map (smallG (usedS (r.old++r.new)))⟩ : Cx) (⟨max 1 ((usedS (r.old++r.new)).length:Int),r.new.map (smallG (usedS (r.old++r.new)))⟩ : Cx)).2)]) rfl rfl)<|Yo 10 rfl (fun _=>X6 (vs:=[.bool ((sameS (⟨max 1 ((usedS (r.old++r.new)).length:Int),r.old.map (smallG (usedS (r.old++r.new)))⟩ : Cx) (⟨max 1 ((usedS (r.old++r.new)).length:Int),r.new.map (smallG (usedS (r.old++r.new)))⟩ : Cx)).1),.bool ((sameS (⟨max 1 ((usedS (r.old++r.new)).length:Int),r.old.map (smallG (usedS (r.old++r.new)))⟩ : Cx) (⟨max 1 ((usedS (r.old++r.new)).length:Int),r.new.map (smallG (usedS (r.old++r.new)))⟩ : Cx)).2)]) rfl rfl)<|Yo 11 rfl (fun _=>X0p rfl)<|Yo 12 rfl (fun _=>X0p rfl) ?_
 refine Yd fun a hf=>?_
 refine hK11 _ _ ?_
 refine wp_ret (X2 hf (X0q hf rfl rfl rfl) ?_)
 exact ⟨rfl,hW⟩
theorem F10(w0:World)(n:Int)(r:Rp)(Ar:Option Addr)(cr:Nat)(hr_r:Rd w0 w0.heap.size 107 encG Ar r.old)(Br:Option Addr)(dr:Nat)(hs_r:Rd w0 w0.heap.size 107 encG Br r.new)(hla:r.old.length≤1048576)(hlb:r.new.length≤1048576) : Ret Tryz.prog 10 [vi n,.agg #[vi r.pos,.slice Ar r.old.length cr,.slice Br r.new.length dr]] w0 (fun v w=>v=.tuple #[.bool ((specJ n r).1),.bool ((specJ n r).2)]∧Below w0.heap.size w0 w):=by
 refine enter Tryz.func10 rfl 14 rfl rfl ?_
 intro a hf
 have hW:Below w0.heap.size w0 w0:=Below.refl _ _
 refine Zs hf fun _ hK3=>?_
 refine Zf (Xu (zs:=[vi r.pos,.slice Ar r.old.length cr,.slice Br r.new.length dr]) rfl rfl) ?_;rintro _ w1 ⟨b4,rfl,hl4,hE,hB4⟩
 have hlo4:=Nat.le_trans hW.size hl4
 replace hW:=btr hW hE
 refine Za rfl<|Za rfl ?_
 refine Zt hK3 fun a hf=>?_
 refine wp_seq_k fun _ hK5=>?_
 refine Zs hf fun _ hK6=>?_
 refine Zm rfl<|Ze (Vn X2u hB4) ?_
 refine Zf (Vc (F43 _ n r Ar cr (hr_r.below' hW).top Br dr (hs_r.below' hW).top (by omega) (by omega)) Xkd) ?_;rintro _ w2 ⟨rfl,hE⟩
 replace hB4:=hB4.below hE
 replace hW:=btr hW hE
 refine Ze (X09 rfl) ?_
 refine Zt hK6 fun a hf=>?_
 refine Xb hf rfl (fun hc7=>?_) (fun hc7=>?_)
 ·have hc7b:=hc7
  have hn:¬ validS n r=true:=by revert hc7;cases validS n r<;>simp
  refine Zs hf fun _ hK8=>?_
  refine Za rfl<|Za rfl ?_
  refine Zt hK8 fun a hf=>?_
  refine wp_ret ?_
  refine X3 ?_
  refine X2 hf (X0q hf rfl rfl rfl) ?_
  exact ⟨by rw [specJ,if_neg hn],hW⟩
 have hc7b:=hc7
 have hy:validS n r=true:=by revert hc7;cases validS n r<;>simp
 have hy2:=hy
 rw [X37] at hy2
 obtain ⟨hn,hl,ho,hw⟩:=X3x hy2
 refine wp_skip ?_
 refine hK5 _ _ ?_
 refine Zs hf fun _ hK9=>?_
 refine Ze (Vn X2u hB4) ?_
 refine Zf (Vc (F44 _ r Ar cr (hr_r.below' hW).top Br dr (hs_r.below' hW).top (by omega) (by omega)) Xk2) ?_;rintro _ w3 ⟨rfl,hE⟩
 replace hB4:=hB4.below hE
 replace hW:=btr hW hE
 refine Ze (X6 (vs:=[.bool ((justS r).1),.bool ((justS r).2)]) rfl rfl)<|Ze (X6 (vs:=[.bool ((justS r).1),.bool ((justS r).2)]) rfl rfl)<|Za rfl<|Za rfl ?_
 refine Zt hK9 fun a hf=>?_
 refine wp_ret (X2 hf (X0q hf rfl rfl rfl) ?_)
 exact ⟨by rw [specJ,if_pos hy],hW⟩
theorem F12(w0:World)(n:Int)(r:Rp)(Ar:Option Addr)(cr:Nat)(hr_r:Rd w0 w0.heap.size 107 encG Ar r.old)(Br:Option Addr)(dr:Nat)(hs_r:Rd w0 w0.heap.size 107 encG Br r.new)(hla:r.old.length≤1048576)(hlb:r.new.length≤1048576) : Ret Tryz.prog 12 [vi n,.agg #[vi r.pos,.slice Ar r.old.length cr,.slice Br r.new.length dr]] w0 (fun v w=>v=.tuple #[.bool ((implJ n r).1),.bool ((implJ n r).2)]∧Below w0.heap.size w0 w):=by
 refine enter Tryz.func12 rfl 40 rfl rfl ?_
 intro a hf
 have hW:Below w0.heap.size w0 w0:=Below.refl _ _
 refine Zs hf fun _ hK3=>?_
 refine Zf (Xu (zs:=[vi r.pos,.slice Ar r.old.length cr,.slice Br r.new.length dr]) rfl rfl) ?_;rintro _ w1 ⟨b4,rfl,hl4,hE,hB4⟩
 have hlo4:=Nat.le_trans hW.size hl4
 replace hW:=btr hW hE
 refine Za rfl<|Za rfl ?_
 refine Zt hK3 fun a hf=>?_
 refine wp_seq_k fun _ hK5=>?_
 refine Zs hf fun _ hK6=>?_
 refine Zm rfl<|Ze (Vn X2u hB4) ?_
 refine Zf (Vc (F46 _ n r Ar cr (hr_r.below' hW).top Br dr (hs_r.below' hW).top (by omega) (by omega)) Xjx) ?_;rintro _ w2 ⟨rfl,hE⟩
 replace hB4:=hB4.below hE
 replace hW:=btr hW hE
 refine Ze (X09 rfl) ?_
 refine Zt hK6 fun a hf=>?_
 refine Xb hf rfl (fun hc7=>?_) (fun hc7=>?_)
 ·have hc7b:=hc7
  have hn:¬ vrI n r=true:=by revert hc7;cases vrI n r<;>simp
  refine Zs hf fun _ hK8=>?_
  refine Za rfl<|Za rfl ?_
  refine Zt hK8 fun a hf=>?_
  refine wp_ret ?_
  refine X3 ?_
  refine X2 hf (X0q hf rfl rfl rfl) ?_
  exact ⟨by rw [implJ,if_neg hn],hW⟩
 have hc7b:=hc7
 have hy:vrI n r=true:=by revert hc7;cases vrI n r<;>simp
 obtain ⟨hn,hl,ho,hw⟩:=X3x hy
 refine wp_skip ?_
 refine hK5 _ _ ?_
 refine wp_seq_k fun _ hK9=>?_
 refine X05 none (fun _=>false) mixed ?_
 intro w3 hE
 replace hB4:=hB4.below hE
 replace hW:=btr hW hE
 refine Yb hf ?_
 refine Yo 0 rfl (fun _=>Vd rfl X1o 1)<|Ye 1 rfl (X0 rfl X0e (hB4.at 1))<|Yo 3 rfl (fun _=>Vd rfl X21 2)<|Ye 4 rfl (X0 rfl X0e (hB4.at 2)) ?_
 refine Y1 2 ?_
 refine Yk rfl trivial (Vc (F48 _ Ar cr r.old (hr_r.below' hW).top (by omega)) Xk9) (fun _ _ ⟨A10,c10,_,ho10,hE⟩=>hE) ?_;rintro _ w4 ⟨A10,c10,rfl,ho10,hE⟩
 replace ho10:=ho10.lower hW.size
 replace hB4:=hB4.below hE
 replace hW:=btr hW hE
 refine Y1 5 ?_
 refine Yk rfl trivial (Vc (F48 _ Br dr r.new (hs_r.below' hW).top (by omega)) Xk9) (fun _ _ ⟨A11,c11,_,ho11,hE⟩=>hE) ?_;rintro _ w5 ⟨A11,c11,rfl,ho11,hE⟩
 replace ho11:=ho11.lower hW.size
 replace hB4:=hB4.below hE
 replace ho10:=ho10.below hE
 replace hW:=btr hW hE
 refine Y1 6 ?_
 refine Yk rfl trivial (Vc (F47 _ A10 c10 (usedI r.old) ho10.rd.top A11 c11 (usedI r.new) ho11.rd.top (by have:=X68 r.old;omega) (by have:=X68 r.new;omega)) Xju) (fun _ _ ⟨A12,c12,_,ho12,hE⟩=>hE) ?_;rintro _ w6 ⟨A12,c12,rfl,ho12,hE⟩
 replace ho12:=ho12.lower hW.size
 replace hB4:=hB4.below hE
 replace ho10:=ho10.below hE
 replace ho11:=ho11.below hE
 replace hW:=btr hW hE
 refine Yo 7 rfl (fun _=>X0p rfl) ?_
 refine Yd fun a hf=>?_
 refine hK9 _ _ ?_
 refine Zs hf fun _ hK13=>?_
 refine Zm rfl ?_
 refine Zf (Vc (F49 _ A12 c12 (unionI (usedI r.old) (usedI r.new)) ho12.rd.top (Xjj hy) (by have:=X9g (usedI r.old) (usedI r.new);have:=X68 r.old;have:=X68 r.new;omega)) Xq2) ?_;rintro _ w7 ⟨A14,c14,rfl,ho14,hE⟩
 replace ho14:=ho14.lower hW.size
 replace hB4:=hB4.below hE
 replace ho12:=ho12.below hE
 replace hW:=btr hW hE
 refine Zm rfl<|Ze (X0d rfl X0b)<|Ze (Xnz rfl rfl)<|Za rfl<|Za rfl ?_
 refine Zt hK13 fun a hf=>?_
 refine wp_seq_k fun _ hK15=>?_
 refine X05 none (fun _=>false) mixed ?_
 intro w8 hE
 replace hB4:=hB4.below hE
 replace ho14:=ho14.below hE
 replace hW:=btr hW hE
 refine Yb hf ?_
 refine Yo 0 rfl (fun _=>X8 rfl)<|Yo 1 rfl (fun _=>Vd rfl X1o 1)<|Ye 2 rfl (X0 rfl X0e (hB4.at 1))<|Yo 3 rfl (fun _=>X8 rfl)<|Yo 6 rfl (fun _=>X8 rfl) ?_
 refine Yo 7 rfl (fun _=>Vd rfl X21 2)<|Ye 8 rfl (X0 rfl X0e (hB4.at 2))<|Yo 9 rfl (fun _=>X8 rfl) ?_
 refine Y1 4 ?_
 refine Yk rfl trivial (Vc (F51 _ Ar cr r.old (hr_r.below' hW).top A14 c14 (numbI (unionI (usedI r.old) (usedI r.new))) ho14.rd.top 5 (X8t ho) (X5m _) (by omega)) Xh0) (fun _ _ ⟨A16,c16,_,ho16,hE⟩=>hE) ?_;rintro _ w9 ⟨A16,c16,rfl,ho16,hE⟩
 replace ho16:=ho16.lower hW.size
 replace hB4:=hB4.below hE
 replace ho14:=ho14.below hE
 replace hW:=btr hW hE
 refine Yo 5 rfl (fun _=>X01 (ps:=[(0,vi (max ((unionI (usedI r.old) (usedI r.new)).length:Int) 1)),(1,.slice A16 (mapI r.old (numbI (unionI (usedI r.old) (usedI r.new)))).length c16)]) (cs:=[vi (max ((unionI (usedI r.old) (usedI r.new)).length:Int) 1),.slice A16 (mapI r.old (numbI (unionI (usedI r.old) (usedI r.new)))).length c16]) rfl (fun _=>by first|rfl|kernel_rfl)) ?_
 refine Y1 10 ?_
 refine Yk rfl trivial (Vc (F51 _ Br dr r.new (hs_r.below' hW).top A14 c14 (numbI (unionI (usedI r.old) (usedI r.new))) ho14.rd.top 5 (X8t hw) (X5m _) (by omega)) Xh0) (fun _ _ ⟨A18,c18,_,ho18,hE⟩=>hE) ?_;rintro _ w10 ⟨A18,c18,rfl,ho18,hE⟩
 replace ho18:=ho18.lower hW.size
 replace hB4:=hB4.below hE
 replace ho14:=ho14.below hE
 replace ho16:=ho16.below hE
 replace hW:=btr hW hE
 refine Yo 11 rfl (fun _=>X01 (ps:=[(0,vi (max ((unionI (usedI r.old) (usedI r.new)).length:Int) 1)),(1,.slice A18 (mapI r.new (numbI (unionI (usedI r.old) (usedI r.new)))).length c18)]) (cs:=[vi (max ((unionI (usedI r.old) (usedI r.new)).length:Int) 1),.slice A18 (mapI r.new (numbI (unionI (usedI r.old) (usedI r.new)))).length c18]) rfl (fun _=>by first|rfl|kernel_rfl)) ?_
 refine Y1 12 ?_
 refine Yk rfl trivial (Vc (F50 _ (⟨max ((unionI (usedI r.old) (usedI r.new)).length:Int) 1,(mapI r.old (numbI (unionI (usedI r.old) (usedI r.new))))⟩ : Cx) A16 c16 ho16.rd.top (⟨max ((unionI (usedI r.old) (usedI r.new)).length:Int) 1,(mapI r.new (numbI (unionI (usedI r.old) (usedI r.new))))⟩ : Cx) A18 c18 ho18.rd.top (by simp [mapI];omega) (by simp [mapI];omega)) Xpe) (fun _ _ ⟨_,hE⟩=>hE) ?_;rintro _ w11 ⟨rfl,hE⟩
 replace hB4:=hB4.below hE
 replace ho14:=ho14.below hE
 replace ho16:=ho16.below hE
 replace ho18:=ho18.below hE
 replace hW:=btr hW hE
 refine Yo 13 rfl (fun _=>X6 (vs:=[.bool ((sameI (⟨max ((unionI (usedI r.old) (usedI r.new)).length:Int) 1,(mapI r.old (numbI (unionI (usedI r.old) (usedI r.new))))⟩ : Cx) (⟨max ((unionI (usedI r.old) (usedI r.new)).length:Int) 1,(mapI r.new (numbI (unionI (usedI r.old) (usedI r.new))))⟩ : Cx)).1),.bool ((sameI (⟨max ((unionI (usedI r.old) (usedI r.new)).length:Int) 1,(mapI r.old (numbI (unionI (usedI r.old) (usedI r.new))))⟩ : Cx) (⟨max ((unionI (usedI r.old) (usedI r.new)).length:Int) 1,(mapI r.new (numbI (unionI (usedI r.old) (usedI r.new))))⟩ : Cx)).2)]) rfl rfl)<|Yo 14 rfl (fun _=>X6 (vs:=[.bool ((sameI (⟨max ((unionI (usedI r.old) (usedI r.new)).length:Int) 1,(mapI r.old (numbI (unionI (usedI r.old) (usedI r.new))))⟩ : Cx) (⟨max ((unionI (usedI r.old) (usedI r.new)).length:Int) 1,(mapI r.new (numbI (unionI (usedI r.old) (usedI r.new))))⟩ : Cx)).1),.bool ((sameI (⟨max ((unionI (usedI r.old) (usedI r.new)).length:Int) 1,(mapI r.old (numbI (unionI (usedI r.old) (usedI r.new))))⟩ : Cx) (⟨max ((unionI (usedI r.old) (usedI r.new)).length:Int) 1,(mapI r.new (numbI (unionI (usedI r.old) (usedI r.new))))⟩ : Cx)).2)]) rfl rfl)<|Yo 15 rfl (fun _=>X0p rfl)<|Yo 16 rfl (fun _=>X0p rfl) ?_
 refine Yd fun a hf=>?_
 refine hK15 _ _ ?_
 refine wp_ret (X2 hf (X0q hf rfl rfl rfl) ?_)
 exact ⟨by rw [implJ,if_pos hy];rfl,hW⟩
end Go.Proofs.YtfgnmflfiobkmaaGreat
set_option maxRecDepth 4000
namespace Go.Proofs.YtfgnmflfiobkmaaGreat
open Go.RowKit
theorem F42(w0:World){X_l:TypeId}(Al:Option Addr)(cl:Nat)(l:List Gt)(hr_l:Rd w0 w0.heap.size X_l encG Al l)(t:Int)(ht:0≤t∧t≤1048576)(hln:l.length≤9223372036854775807) : Ret Tryz.prog 42 [.slice Al l.length cl,vi t] w0 (fun v w=>v=vi (szG l t)∧w0=w):=by
 refine enter Tryz.func42 rfl 12 rfl rfl ?_
 intro a hf
 have hW:Below w0.heap.size w0 w0:=Below.refl _ _
 refine Zs hf fun _ hK2=>?_
 refine Za rfl ?_
 refine Zt hK2 fun a hf=>?_
 refine Zs hf fun _ hK3=>?_
 refine Zm rfl<|Zm rfl<|Ze (X0d rfl Xdx)<|Ze (X11 rfl rfl (by omega) (by omega))<|Za rfl ?_
 refine Zt hK3 fun a hf=>?_
 refine wp_seq_k fun _ hK4=>?_
 refine Zs hf fun _ hK5=>?_
 refine Zm rfl<|Ze (X0m rfl rfl) ?_
 refine Zt hK5 fun a hf=>?_
 refine Xb hf rfl (fun hc6=>?_) (fun hc6=>?_)
 ·have hc6b:=hc6
  have hc6:=of_decide_eq_true hc6
  have hfin:szG l t = -1:=by rw [szG,if_pos hc6]
  refine Zs hf fun _ hK7=>?_
  refine Za rfl ?_
  refine Zt hK7 fun a hf=>?_
  refine wp_ret ?_
  refine X3 ?_
  refine X2 hf (Xh hf rfl rfl) ?_
  exact ⟨by rw [hfin],rfl⟩
 have hc6b:=hc6
 have hc6:=of_decide_eq_false hc6
 have hfin:szG l t=t-(l.length:Int):=by rw [szG,if_neg hc6]
 refine wp_skip ?_
 refine hK4 _ _ ?_
 refine Zs hf fun _ hK8=>?_
 refine Zm rfl<|Za rfl ?_
 refine Zt hK8 fun a hf=>?_
 refine wp_ret (X2 hf (Xh hf rfl rfl) ?_)
 exact ⟨by rw [hfin],rfl⟩
theorem F9(w0:World){Xr Yr:TypeId}(r:Rp)(Ar:Option Addr)(cr:Nat)(hr_r:Rd w0 w0.heap.size Xr encG Ar r.old)(Br:Option Addr)(dr:Nat)(hs_r:Rd w0 w0.heap.size Yr encG Br r.new)(t:Int)(ht:0≤t∧t≤1048576)(hla:r.old.length≤9223372036854775807)(hlb:r.new.length≤9223372036854775807) : Ret Tryz.prog 9 [.agg #[vi r.pos,.slice Ar r.old.length cr,.slice Br r.new.length dr],vi t] w0 (fun v w=>v=vi (szR r t)∧Below w0.heap.size w0 w):=by
 refine enter Tryz.func9 rfl 18 rfl rfl ?_
 intro a hf
 have hW:Below w0.heap.size w0 w0:=Below.refl _ _
 refine Zs hf fun _ hK3=>?_
 refine Zf (Xu (zs:=[vi r.pos,.slice Ar r.old.length cr,.slice Br r.new.length dr]) rfl rfl) ?_;rintro _ w1 ⟨b4,rfl,hl4,hE,hB4⟩
 have hlo4:=Nat.le_trans hW.size hl4
 replace hW:=btr hW hE
 refine Za rfl ?_
 refine Zt hK3 fun a hf=>?_
 refine Zs hf fun _ hK5=>?_
 refine Ze (Vd rfl Xdh 1)<|Ze (X0 rfl X95 (hB4.at 1))<|Zm rfl ?_
 refine Zf (Vc (F42 _ Ar cr r.old (hr_r.below' hW).top t ht hla) Xhk) ?_;rintro _ _ ⟨rfl,rfl⟩
 refine Za rfl ?_
 refine Zt hK5 fun a hf=>?_
 refine wp_seq_k fun _ hK6=>?_
 refine Zs hf fun _ hK7=>?_
 refine Zm rfl<|Ze (X0m rfl rfl) ?_
 refine Zt hK7 fun a hf=>?_
 refine Xb hf rfl (fun hc8=>?_) (fun hc8=>?_)
 ·have hc8b:=hc8
  have hc8:=of_decide_eq_true hc8
  have hfin:szR r t = -1:=by rw [szR,if_pos hc8]
  refine Zs hf fun _ hK9=>?_
  refine Za rfl ?_
  refine Zt hK9 fun a hf=>?_
  refine wp_ret ?_
  refine X3 ?_
  refine X2 hf (Xh hf rfl rfl) ?_
  exact ⟨by rw [hfin],hW⟩
 have hc8b:=hc8
 have hc8:=of_decide_eq_false hc8
 have hne:¬ szG r.old t<0:=hc8
 refine wp_skip ?_
 refine hK6 _ _ ?_
 refine Zs hf fun _ hK10=>?_
 refine Ze (Vd rfl Xd1 2)<|Ze (X0 rfl X95 (hB4.at 2))<|Zm rfl ?_
 refine Zf (Vc (F42 _ Br dr r.new (hs_r.below' hW).top (szG r.old t) (by have:=X3f hne;omega) hlb) Xhk) ?_;rintro _ _ ⟨rfl,rfl⟩
 refine Za rfl ?_
 refine Zt hK10 fun a hf=>?_
 refine wp_seq_k fun _ hK11=>?_
 refine Zs hf fun _ hK12=>?_
 refine Zm rfl<|Ze (X0m rfl rfl) ?_
 refine Zt hK12 fun a hf=>?_
 refine Xb hf rfl (fun hc13=>?_) (fun hc13=>?_)
 ·have hc13b:=hc13
  have hc13:=of_decide_eq_true hc13
  have hfin:szR r t = -1:=by rw [szR,if_neg hne,if_pos hc13]
  refine Zs hf fun _ hK14=>?_
  refine Za rfl ?_
  refine Zt hK14 fun a hf=>?_
  refine wp_ret ?_
  refine X3 ?_
  refine X2 hf (Xh hf rfl rfl) ?_
  exact ⟨by rw [hfin],hW⟩
 have hc13b:=hc13
 have hc13:=of_decide_eq_false hc13
 have hfin:szR r t=szG r.new (szG r.old t):=by rw [szR,if_neg hne,if_neg hc13]
 refine wp_skip ?_
 refine hK11 _ _ ?_
 refine Zs hf fun _ hK15=>?_
 refine Zm rfl<|Za rfl ?_
 refine Zt hK15 fun a hf=>?_
 refine wp_ret (X2 hf (Xh hf rfl rfl) ?_)
 exact ⟨by rw [hfin],hW⟩
theorem F90(w0:World)(x:Gt) : Ret Tryz.prog 90 [.agg #[vi x.k,vi x.a,vi x.b]] w0 (fun v w=>v=gV x∧Below w0.heap.size w0 w):=by
 refine enter Tryz.func90 rfl 14 rfl rfl ?_
 intro a hf
 have hW:Below w0.heap.size w0 w0:=Below.refl _ _
 refine Zs hf fun _ hK1=>?_
 refine Zf (Xu (zs:=[vi x.k,vi x.a,vi x.b]) rfl rfl) ?_;rintro _ w1 ⟨b2,rfl,hl2,hE,hB2⟩
 have hlo2:=Nat.le_trans hW.size hl2
 replace hW:=btr hW hE
 refine Zf (Xa (zs:=[vi 0,vi 0,vi 0]) X39 rfl) ?_;rintro _ w2 ⟨b3,rfl,hl3,hE,hB3⟩
 have hlo3:=Nat.le_trans hW.size hl3
 replace hB2:=hB2.below hE
 replace hW:=btr hW hE
 refine Zt hK1 fun a hf=>?_
 refine Zs hf fun _ hK4=>?_
 refine Zf (Xa (zs:=[vi 0,vi 0,vi 0]) X39 rfl) ?_;rintro _ w3 ⟨b5,rfl,hl5,hE,hB5⟩
 have hne3_5:b3≠b5:=by have:=hB3.lt;omega
 have hlo5:=Nat.le_trans hW.size hl5
 replace hB2:=hB2.below hE
 replace hB3:=hB3.below hE
 replace hW:=btr hW hE
 refine Zt hK4 fun a hf=>?_
 refine Zs hf fun _ hK6=>?_
 refine Ze (Vd rfl Xhz 0)<|Ze (X0 rfl X5 (hB2.at 0))<|Ze (Vd rfl X0f 0) ?_
 refine Zo (Vu (vs:=[vi x.k]) (l':=[vi x.k,vi 0,vi 0]) rfl rfl X0z hB5) ?_;rintro _ w4 ⟨ho,hb⟩
 have hold:=hB5
 replace hB2:=hB2.only ho (Blk.ne hB2 hold rfl)
 replace hB3:=hB3.only ho (by omega)
 replace hW:=Below.only hW ho hlo5
 clear hold
 have hB5:=hb
 clear hb ho
 refine Zt hK6 fun a hf=>?_
 refine Zs hf fun _ hK7=>?_
 refine Ze (Vd rfl Xgj 1)<|Ze (X0 rfl X5 (hB2.at 1))<|Ze (Vd rfl X0a 1) ?_
 refine Zo (Vu (vs:=[vi x.a]) (l':=[vi x.k,vi x.a,vi 0]) rfl rfl X0z hB5) ?_;rintro _ w5 ⟨ho,hb⟩
 have hold:=hB5
 replace hB2:=hB2.only ho (Blk.ne hB2 hold rfl)
 replace hB3:=hB3.only ho (by omega)
 replace hW:=Below.only hW ho hlo5
 clear hold
 have hB5:=hb
 clear hb ho
 refine Zt hK7 fun a hf=>?_
 refine Zs hf fun _ hK8=>?_
 refine Ze (Vd rfl Xh8 2)<|Ze (X0 rfl X5 (hB2.at 2))<|Ze (Vd rfl X0n 2) ?_
 refine Zo (Vu (vs:=[vi x.b]) (l':=[vi x.k,vi x.a,vi x.b]) rfl rfl X0z hB5) ?_;rintro _ w6 ⟨ho,hb⟩
 have hold:=hB5
 replace hB2:=hB2.only ho (Blk.ne hB2 hold rfl)
 replace hB3:=hB3.only ho (by omega)
 replace hW:=Below.only hW ho hlo5
 clear hold
 have hB5:=hb
 clear hb ho
 refine Zt hK8 fun a hf=>?_
 refine Zs hf fun _ hK9=>?_
 refine Ze (Vn X0k hB5) ?_
 refine Zo (Vw [vi x.k,vi x.a,vi x.b] X0o hB3) ?_;rintro _ w7 ⟨ho,hb⟩
 have hold:=hB3
 replace hB5:=hB5.only ho (by omega)
 replace hW:=Below.only hW ho hlo3
 clear hold
 have hB3:=hb
 clear hb ho
 refine Zt hK9 fun a hf=>?_
 refine wp_ret (X2 hf (Xh hf rfl (ResV.cellN (l:=[vi x.k,vi x.a,vi x.b]) rfl X0k (hB3.at 0) rfl)) ?_)
 exact ⟨rfl,hW⟩
theorem F45(w0:World){X_l:TypeId}(Al:Option Addr)(cl:Nat)(l:List Gt)(hr_l:Rd w0 w0.heap.size X_l encG Al l)(hln:l.length≤1048576) : Ret Tryz.prog 45 [.slice Al l.length cl] w0 (fun v w=>∃ A c,v=.slice A l.length c∧Own w w0.heap.size 107 3 encG A c l∧Below w0.heap.size w0 w):=by
 refine enter Tryz.func45 rfl 23 rfl rfl ?_
 intro a hf
 have hW:Below w0.heap.size w0 w0:=Below.refl _ _
 refine Zs hf fun _ hK2=>?_
 refine Za rfl ?_
 refine Zt hK2 fun a hf=>?_
 refine Zs hf fun _ hK4=>?_
 refine Zm rfl<|Ze (X0d rfl Xdx) ?_
 refine Zf (X1n (m:=l.length) (enc:=encG) (z0:=(⟨0,0,0⟩ : Gt)) rfl rfl X02 X0r X39 rfl Xq (by omega) (by omega)) ?_;rintro _ w1 ⟨b5,rfl,hl5,hE,hB5⟩
 have hlo5:=Nat.le_trans hW.size hl5
 replace hW:=btr hW hE
 refine Za rfl ?_
 refine Zt hK4 fun a hf=>?_
 refine wp_seq_k fun _ hK7=>?_
 refine Zs hf fun _ hK8=>?_
 refine Za rfl ?_
 refine Zt hK8 fun a hf=>?_
 refine wp_block ?_
 refine X04 (σ:=Nat×(List Gt)) (fun (s:Nat×(List Gt)) (a:Act) (w:World)=>match s with|(k,m)=>Fr a 23 [(0,.slice Al l.length cl),(3,.slice (some ⟨b5,0,none⟩) l.length l.length),(4,vi (k:Int))]∧(k≤l.length)∧(m.length=l.length)∧(m.take k=l.take k)∧Blk w b5 107 (m.flatMap encG)∧Below w0.heap.size w0 w) (fun (s:Nat×(List Gt))=>match s with|(k,m)=>l.length-k) (0,List.replicate l.length (⟨0,0,0⟩ : Gt)) ?_ ?_
 · exact ⟨hf.sub ⟨rfl,rfl,rfl,trivial⟩,(Nat.zero_le _),(by simp),rfl,hB5,hW⟩
 rintro ⟨k,m⟩ a w2 ⟨hf,hk,hml,hpre,hB5,hW⟩
 refine wp_seq_k fun _ hK9=>?_
 refine Zs hf fun _ hK10=>?_
 refine Zm rfl<|Zm rfl<|Ze (X0d rfl Xdx)<|Ze (X0m rfl rfl) ?_
 refine Zt hK10 fun a hf=>?_
 refine Xb hf rfl (fun hc11=>?_) (fun hc11=>?_)
 ·have hc11b:=hc11
  have hc11:=of_decide_eq_true hc11
  obtain ⟨u12,hu12⟩:=Xf (l:=l) (k:=k) (by omega)
  refine wp_skip ?_
  refine hK9 _ _ ?_
  refine wp_seq_k fun _ hK13=>?_
  refine wp_block ?_
  refine Zr hf ?_
  refine Zm rfl<|Zm rfl<|Zm rfl<|Zm rfl ?_
  refine Zi (k:=k) (u:=u12) (enc:=encG) (l:=l) trivial rfl rfl Xdx Xm6 Xq (hr_l.below' hW) hu12 rfl ?_;intro p15 hat14
  refine Ze (Xi (l:=[vi u12.k,vi u12.a,vi u12.b]) rfl Xkr hat14 rfl) ?_
  refine Zf (Vc (F90 _ u12) Xq6) ?_;rintro _ w3 ⟨rfl,hE⟩
  replace hB5:=hB5.below hE
  replace hW:=btr hW hE
  refine Ze (X3h (k:=k) (off:=k*3) rfl rfl X02 X0o rfl (by omega) rfl) ?_
  refine Zo (X3i (enc:=encG) (l:=m) (u:=u12) (k:=k) rfl rfl X0o hB5 Xq X0y rfl (by omega)) ?_;rintro _ w4 ⟨ho,hb⟩
  have hold:=hB5
  replace hW:=Below.only hW ho hlo5
  clear hold
  have hB5:=hb
  clear hb ho
  refine Zn fun a hf=>?_
  refine Xn ?_
  refine hK13 _ _ ?_
  refine Zr hf ?_
  refine Zm rfl<|Ze (Xy rfl rfl (by omega) (by omega))<|Za rfl ?_
  refine Zn fun a hf=>?_
  refine Xk ?_
  exact ⟨(k+1,(m.set k u12)),⟨hf.sub ⟨rfl,rfl,rfl,trivial⟩,(by omega),(by simp;exact hml),(X5s hpre (by omega) hu12),hB5,hW⟩,(by first|omega|(dsimp only;omega))⟩
 have hc11b:=hc11
 have hc11:=of_decide_eq_false hc11
 refine wp_exit ?_
 refine Xm ?_
 refine Xm ?_
 refine X03 ?_
 refine hK7 _ _ ?_
 refine Zs hf fun _ hK16=>?_
 refine Zm rfl<|Za rfl ?_
 refine Zt hK16 fun a hf=>?_
 refine wp_ret (X2 hf (Xh hf rfl rfl) ?_)
 have hmk:m.length=l.length:=hml
 have hmkb:l.length≤maxLen:=by simp only [maxLen];omega
 have hfin:m=l:=by rw [List.take_of_length_le (by omega),List.take_of_length_le (by omega)] at hpre;exact hpre
 have hown:=(Own.of_flat Xq hB5 hlo5 hmk hmkb)
 rw [hfin] at hown
 exact ⟨(some ⟨b5,0,none⟩),l.length,rfl,hown,hW⟩
theorem F11(w0:World){Xr Yr:TypeId}(r:Rp)(Ar:Option Addr)(cr:Nat)(hr_r:Rd w0 w0.heap.size Xr encG Ar r.old)(Br:Option Addr)(dr:Nat)(hs_r:Rd w0 w0.heap.size Yr encG Br r.new)(hla:r.old.length≤1048576)(hlb:r.new.length≤1048576) : Ret Tryz.prog 11 [.agg #[vi r.pos,.slice Ar r.old.length cr,.slice Br r.new.length dr]] w0 (fun v w=>∃ A c B d,v=.agg #[vi r.pos,.slice A r.old.length c,.slice B r.new.length d]∧Own w w0.heap.size 107 3 encG A c r.old∧Own w w0.heap.size 107 3 encG B d r.new∧Below w0.heap.size w0 w):=by
 refine enter Tryz.func11 rfl 16 rfl rfl ?_
 intro a hf
 have hW:Below w0.heap.size w0 w0:=Below.refl _ _
 refine Zs hf fun _ hK3=>?_
 refine Zf (Xu (zs:=[vi r.pos,.slice Ar r.old.length cr,.slice Br r.new.length dr]) rfl rfl) ?_;rintro _ w1 ⟨b4,rfl,hl4,hE,hB4⟩
 have hlo4:=Nat.le_trans hW.size hl4
 replace hW:=btr hW hE
 refine Zf (Xa (zs:=[vi 0,.slice none 0 0,.slice none 0 0]) Xed rfl) ?_;rintro _ w2 ⟨b7,rfl,hl7,hE,hB7⟩
 have hlo7:=Nat.le_trans hW.size hl7
 replace hB4:=hB4.below hE
 replace hW:=btr hW hE
 refine Zt hK3 fun a hf=>?_
 refine Zs hf fun _ hK8=>?_
 refine Zf (Xa (zs:=[vi 0,.slice none 0 0,.slice none 0 0]) Xed rfl) ?_;rintro _ w3 ⟨b11,rfl,hl11,hE,hB11⟩
 have hne7_11:b7≠b11:=by have:=hB7.lt;omega
 have hlo11:=Nat.le_trans hW.size hl11
 replace hB4:=hB4.below hE
 replace hB7:=hB7.below hE
 replace hW:=btr hW hE
 refine Zt hK8 fun a hf=>?_
 refine Zs hf fun _ hK12=>?_
 refine Ze (Vd rfl Xil 0)<|Ze (X0 rfl X5 (hB4.at 0))<|Ze (Vd rfl X28 0) ?_
 refine Zo (Vu (vs:=[vi r.pos]) (l':=[vi r.pos,.slice none 0 0,.slice none 0 0]) rfl rfl X0z hB11) ?_;rintro _ w4 ⟨ho,hb⟩
 have hold:=hB11
 replace hB4:=hB4.only ho (Blk.ne hB4 hold rfl)
 replace hB7:=hB7.only ho (by omega)
 replace hW:=Below.only hW ho hlo11
 clear hold
 have hB11:=hb
 clear hb ho
 refine Zt hK12 fun a hf=>?_
 refine Zs hf fun _ hK13=>?_
 refine Ze (Vd rfl Xdh 1)<|Ze (X0 rfl X95 (hB4.at 1)) ?_
 refine Zf (Vc (F45 _ Ar cr r.old (hr_r.below' hW).top hla) Xhc) ?_;rintro _ w5 ⟨A14,c14,rfl,ho14,hE⟩
 replace ho14:=ho14.lower hW.size
 replace hB4:=hB4.below hE
 replace hB7:=hB7.below hE
 replace hB11:=hB11.below hE
 replace hW:=btr hW hE
 refine Ze (Vd rfl X1o 1) ?_
 refine Zo (Vu (vs:=[.slice A14 r.old.length c14]) (l':=[vi r.pos,.slice A14 r.old.length c14,.slice none 0 0]) rfl rfl X4a hB11) ?_;rintro _ w6 ⟨ho,hb⟩
 have hold:=hB11
 replace hB4:=hB4.only ho (Blk.ne hB4 hold rfl)
 replace hB7:=hB7.only ho (by omega)
 replace ho14:=ho14.onlyT ho hold rfl
 replace hW:=Below.only hW ho hlo11
 clear hold
 have hB11:=hb
 clear hb ho
 refine Zt hK13 fun a hf=>?_
 refine Zs hf fun _ hK15=>?_
 refine Ze (Vd rfl Xd1 2)<|Ze (X0 rfl X95 (hB4.at 2)) ?_
 refine Zf (Vc (F45 _ Br dr r.new (hs_r.below' hW).top hlb) Xhc) ?_;rintro _ w7 ⟨A16,c16,rfl,ho16,hE⟩
 replace ho16:=ho16.lower hW.size
 replace hB4:=hB4.below hE
 replace hB7:=hB7.below hE
 replace hB11:=hB11.below hE
 replace ho14:=ho14.below hE
 replace hW:=btr hW hE
 refine Ze (Vd rfl X21 2) ?_
 refine Zo (Vu (vs:=[.slice A16 r.new.length c16]) (l':=[vi r.pos,.slice A14 r.old.length c14,.slice A16 r.new.length c16]) rfl rfl X4a hB11) ?_;rintro _ w8 ⟨ho,hb⟩
 have hold:=hB11
 replace hB4:=hB4.only ho (Blk.ne hB4 hold rfl)
 replace hB7:=hB7.only ho (by omega)
 replace ho14:=ho14.onlyT ho hold rfl
 replace ho16:=ho16.onlyT ho hold rfl
 replace hW:=Below.only hW ho hlo11
 clear hold
 have hB11:=hb
 clear hb ho
 refine Zt hK15 fun a hf=>?_
 refine Zs hf fun _ hK17=>?_
 refine Ze (Vn X2u hB11) ?_
 refine Zo (Vw [vi r.pos,.slice A14 r.old.length c14,.slice A16 r.new.length c16] X57 hB7) ?_;rintro _ w9 ⟨ho,hb⟩
 have hold:=hB7
 replace hB11:=hB11.only ho (by omega)
 replace ho14:=ho14.onlyT ho hold rfl
 replace ho16:=ho16.onlyT ho hold rfl
 replace hW:=Below.only hW ho hlo7
 clear hold
 have hB7:=hb
 clear hb ho
 refine Zt hK17 fun a hf=>?_
 refine wp_ret (X2 hf (Xh hf rfl (ResV.cellN (l:=[vi r.pos,.slice A14 r.old.length c14,.slice A16 r.new.length c16]) rfl X2u (hB7.at 0) rfl)) ?_)
 exact ⟨A14,c14,A16,c16,rfl,ho14,ho16,hW⟩
theorem F13(w0:World)(p:Rp)(Ap:Option Addr)(cp:Nat)(hr_p:Rd w0 w0.heap.size 107 encG Ap p.old)(Bp:Option Addr)(dp:Nat)(hs_p:Rd w0 w0.heap.size 107 encG Bp p.new)(q:Rp)(Aq:Option Addr)(cq:Nat)(hr_q:Rd w0 w0.heap.size 107 encG Aq q.old)(Bq:Option Addr)(dq:Nat)(hs_q:Rd w0 w0.heap.size 107 encG Bq q.new)(hla:p.old.length≤2305843009213693951)(hlb:p.new.length≤2305843009213693951) : Ret Tryz.prog 13 [.agg #[vi p.pos,.slice Ap p.old.length cp,.slice Bp p.new.length dp],.agg #[vi q.pos,.slice Aq q.old.length cq,.slice Bq q.new.length dq]] w0 (fun v w=>v=.bool (decide (p.pos=q.pos)&&decide (p.old=q.old)&&decide (p.new=q.new))∧Below w0.heap.size w0 w):=by
 refine enter Tryz.func13 rfl 22 rfl rfl ?_
 intro a hf
 have hW:Below w0.heap.size w0 w0:=Below.refl _ _
 refine Zs hf fun _ hK5=>?_
 refine Zf (Xu (zs:=[vi p.pos,.slice Ap p.old.length cp,.slice Bp p.new.length dp]) rfl rfl) ?_;rintro _ w1 ⟨b6,rfl,hl6,hE,hB6⟩
 have hlo6:=Nat.le_trans hW.size hl6
 replace hW:=btr hW hE
 refine Zf (Xu (zs:=[vi q.pos,.slice Aq q.old.length cq,.slice Bq q.new.length dq]) rfl rfl) ?_;rintro _ w2 ⟨b7,rfl,hl7,hE,hB7⟩
 have hne6_7:b6≠b7:=by have:=hB6.lt;omega
 have hlo7:=Nat.le_trans hW.size hl7
 replace hB6:=hB6.below hE
 replace hW:=btr hW hE
 refine Za rfl ?_
 refine Zt hK5 fun a hf=>?_
 refine wp_seq_k fun _ hK8=>?_
 refine Zs hf fun _ hK9=>?_
 refine Ze (Vd rfl X28 0)<|Ze (X0 rfl X5 (hB6.at 0))<|Ze (Vd rfl X28 0)<|Ze (X0 rfl X5 (hB7.at 0))<|Ze (X1g rfl rfl) ?_
 refine Zt hK9 fun a hf=>?_
 refine Xb hf rfl (fun hc10=>?_) (fun hc10=>?_)
 ·have hc10b:=hc10
  have hn:¬ p.pos=q.pos:=by simpa using hc10
  refine Zs hf fun _ hK11=>?_
  refine Za rfl ?_
  refine Zt hK11 fun a hf=>?_
  refine wp_ret ?_
  refine X3 ?_
  refine X2 hf (Xh hf rfl rfl) ?_
  exact ⟨by simp [hn],hW⟩
 have hc10b:=hc10
 have e1:p.pos=q.pos:=by simpa using hc10
 refine wp_skip ?_
 refine hK8 _ _ ?_
 refine wp_seq_k fun _ hK12=>?_
 refine Zs hf fun _ hK13=>?_
 refine Ze (Vd rfl X1o 1)<|Ze (X0 rfl X0e (hB6.at 1))<|Ze (Vd rfl X1o 1)<|Ze (X0 rfl X0e (hB7.at 1)) ?_
 refine Zf (Vc (F52 _ Ap cp p.old (hr_p.below' hW).top Aq cq q.old (hr_q.below' hW).top hla) Xi1) ?_;rintro _ w3 ⟨rfl,hE⟩
 replace hB6:=hB6.below hE
 replace hB7:=hB7.below hE
 replace hW:=btr hW hE
 refine Ze (X09 rfl) ?_
 refine Zt hK13 fun a hf=>?_
 refine Xb hf rfl (fun hc14=>?_) (fun hc14=>?_)
 ·have hc14b:=hc14
  have hn:¬ p.old=q.old:=by simpa using hc14
  refine Zs hf fun _ hK15=>?_
  refine Za rfl ?_
  refine Zt hK15 fun a hf=>?_
  refine wp_ret ?_
  refine X3 ?_
  refine X2 hf (Xh hf rfl rfl) ?_
  exact ⟨by simp [hn],hW⟩
 have hc14b:=hc14
 have e2:p.old=q.old:=by simpa using hc14
 refine wp_skip ?_
 refine hK12 _ _ ?_
 refine wp_seq_k fun _ hK16=>?_
 refine Zs hf fun _ hK17=>?_
 refine Ze (Vd rfl X21 2)<|Ze (X0 rfl X0e (hB6.at 2))<|Ze (Vd rfl X21 2)<|Ze (X0 rfl X0e (hB7.at 2)) ?_
 refine Zf (Vc (F52 _ Bp dp p.new (hs_p.below' hW).top Bq dq q.new (hs_q.below' hW).top hlb) Xi1) ?_;rintro _ w4 ⟨rfl,hE⟩
 replace hB6:=hB6.below hE
 replace hB7:=hB7.below hE
 replace hW:=btr hW hE
 refine Ze (X09 rfl) ?_
 refine Zt hK17 fun a hf=>?_
 refine Xb hf rfl (fun hc18=>?_) (fun hc18=>?_)
 ·have hc18b:=hc18
  have hn:¬ p.new=q.new:=by simpa using hc18
  refine Zs hf fun _ hK19=>?_
  refine Za rfl ?_
  refine Zt hK19 fun a hf=>?_
  refine wp_ret ?_
  refine X3 ?_
  refine X2 hf (Xh hf rfl rfl) ?_
  exact ⟨by simp [hn],hW⟩
 have hc18b:=hc18
 have e3:p.new=q.new:=by simpa using hc18
 refine wp_skip ?_
 refine hK16 _ _ ?_
 refine Zs hf fun _ hK20=>?_
 refine Za rfl ?_
 refine Zt hK20 fun a hf=>?_
 refine wp_ret (X2 hf (Xh hf rfl rfl) ?_)
 exact ⟨by simp [e1,e2,e3],hW⟩
theorem F3(w0:World)(n:Int){Xr Yr:TypeId}(r:Rp)(Ar:Option Addr)(cr:Nat)(hr_r:Rd w0 w0.heap.size Xr encG Ar r.old)(Br:Option Addr)(dr:Nat)(hs_r:Rd w0 w0.heap.size Yr encG Br r.new)(hla:r.old.length≤9223372036854775807)(hlb:r.new.length≤9223372036854775807) : Ret Tryz.prog 3 [vi n,.agg #[vi r.pos,.slice Ar r.old.length cr,.slice Br r.new.length dr]] w0 (fun v w=>v=.bool true∧Below w0.heap.size w0 w):=by
 refine enter Tryz.func3 rfl 44 rfl rfl ?_
 intro a hf
 have hW:Below w0.heap.size w0 w0:=Below.refl _ _
 refine Zs hf fun _ hK3=>?_
 refine Zf (Xu (zs:=[vi r.pos,.slice Ar r.old.length cr,.slice Br r.new.length dr]) rfl rfl) ?_;rintro _ w1 ⟨b4,rfl,hl4,hE,hB4⟩
 have hlo4:=Nat.le_trans hW.size hl4
 replace hW:=btr hW hE
 refine Za rfl ?_
 refine Zt hK3 fun a hf=>?_
 refine Zs hf fun _ hK5=>?_
 refine Za rfl ?_
 refine Zt hK5 fun a hf=>?_
 refine Zs hf fun _ hK6=>?_
 refine Ze (Vn X97 hB4)<|Zm rfl ?_
 refine Zf (Vc (F9 _ r Ar cr (hr_r.below' hW).top Br dr (hs_r.below' hW).top 1048576 (by omega) hla hlb) Xpp) ?_;rintro _ w2 ⟨rfl,hE⟩
 replace hB4:=hB4.below hE
 replace hW:=btr hW hE
 refine Za rfl ?_
 refine Zt hK6 fun a hf=>?_
 refine wp_seq_k fun _ hK7=>?_
 refine Zs hf fun _ hK8=>?_
 refine Zm rfl<|Ze (X0m rfl rfl) ?_
 refine Zt hK8 fun a hf=>?_
 refine Xb hf rfl (fun hc9=>?_) (fun hc9=>?_)
 ·have hc9b:=hc9
  have hc9:=of_decide_eq_true hc9
  refine Zs hf fun _ hK10=>?_
  refine Za rfl ?_
  refine Zt hK10 fun a hf=>?_
  refine wp_ret ?_
  refine X3 ?_
  refine X2 hf (Xh hf rfl rfl) ?_
  exact ⟨rfl,hW⟩
 have hc9b:=hc9
 have hc9:=of_decide_eq_false hc9
 have hsz:=Xcs hc9
 have hl1:r.old.length≤1048576:=by omega
 have hl2:r.new.length≤1048576:=by omega
 refine wp_skip ?_
 refine hK7 _ _ ?_
 refine Zs hf fun _ hK11=>?_
 refine Zm rfl<|Ze (Vn X97 hB4) ?_
 refine Zf (Vc (F11 _ r Ar cr (hr_r.below' hW).top Br dr (hs_r.below' hW).top hl1 hl2) Xdv) ?_;rintro _ w3 ⟨A12,c12,A13,c13,rfl,ho12,ho13,hE⟩
 replace ho12:=ho12.lower hW.size
 replace ho13:=ho13.lower hW.size
 replace hB4:=hB4.below hE
 replace hW:=btr hW hE
 refine Zf (Vc (F10 _ n r A12 c12 ho12.rd.top A13 c13 ho13.rd.top hl1 hl2) Xpk) ?_;rintro _ w4 ⟨rfl,hE⟩
 replace hB4:=hB4.below hE
 replace ho12:=ho12.below hE
 replace ho13:=ho13.below hE
 replace hW:=btr hW hE
 refine Zm rfl<|Ze (X6 (vs:=[.bool ((specJ n r).1),.bool ((specJ n r).2)]) rfl rfl)<|Ze (X6 (vs:=[.bool ((specJ n r).1),.bool ((specJ n r).2)]) rfl rfl)<|Za rfl<|Za rfl ?_
 refine Zt hK11 fun a hf=>?_
 refine Zs hf fun _ hK14=>?_
 refine Ze (Vn X97 hB4) ?_
 refine Zf (Vc (F11 _ r Ar cr (hr_r.below' hW).top Br dr (hs_r.below' hW).top hl1 hl2) Xdv) ?_;rintro _ w5 ⟨A15,c15,A16,c16,rfl,ho15,ho16,hE⟩
 replace ho15:=ho15.lower hW.size
 replace ho16:=ho16.lower hW.size
 replace hB4:=hB4.below hE
 replace hW:=btr hW hE
 refine Zf (Xa (zs:=[vi 0,.slice none 0 0,.slice none 0 0]) Xed rfl) ?_;rintro _ w6 ⟨b19,rfl,hl19,hE,hB19⟩
 have hlo19:=Nat.le_trans hW.size hl19
 replace hB4:=hB4.below hE
 replace ho15:=ho15.below hE
 replace ho16:=ho16.below hE
 replace hW:=btr hW hE
 refine Zo (Vw [vi r.pos,.slice A15 r.old.length c15,.slice A16 r.new.length c16] X57 hB19) ?_;rintro _ w7 ⟨ho,hb⟩
 have hold:=hB19
 replace hB4:=hB4.only ho (Blk.ne hB4 hold rfl)
 replace ho15:=ho15.onlyT ho hold rfl
 replace ho16:=ho16.onlyT ho hold rfl
 replace hW:=Below.only hW ho hlo19
 clear hold
 have hB19:=hb
 clear hb ho
 refine Zt hK14 fun a hf=>?_
 refine Zs hf fun _ hK20=>?_
 refine Zm rfl<|Ze (Vn X2u hB19) ?_
 refine Zf (Vc (F12 _ n r A15 c15 ho15.rd.top A16 c16 ho16.rd.top hl1 hl2) Xk3) ?_;rintro _ w8 ⟨rfl,hE⟩
 replace hB4:=hB4.below hE
 replace hB19:=hB19.below hE
 replace ho15:=ho15.below hE
 replace ho16:=ho16.below hE
 replace hW:=btr hW hE
 refine Zm rfl<|Ze (X6 (vs:=[.bool ((implJ n r).1),.bool ((implJ n r).2)]) rfl rfl)<|Ze (X6 (vs:=[.bool ((implJ n r).1),.bool ((implJ n r).2)]) rfl rfl)<|Za rfl<|Za rfl ?_
 refine Zt hK20 fun a hf=>?_
 refine wp_seq_k fun _ hK21=>?_
 refine wp_seq_k fun _ hK22=>?_
 refine X06 (fun a w=>Fr a 44 [(3,.pointer (some ⟨b4,0,none⟩)),(8,.pointer (some ⟨b19,0,none⟩)),(38,.bool ((((implJ n r).1) != ((specJ n r).1))||(((implJ n r).2) != ((specJ n r).2))))]∧w8=w) ?_ ?_
 ·refine Zr hf ?_
  refine Zm rfl<|Zm rfl<|Ze (Xfx Tryz.underlying4 rfl rfl)<|Zm rfl ?_
  refine Zg 34 rfl (fun hg23=>?_) (fun hg23=>?_)
  ·refine Zp ⟨_,_,rfl,rfl,hg23⟩ ?_
   refine Zp ⟨_,_,rfl,rfl,hg23⟩ ?_
   refine Zp ⟨_,_,rfl,rfl,hg23⟩ ?_
   refine Ze (X9 rfl hg23 rfl) ?_
   refine Zn fun a hf=>?_
   exact ⟨hf.sub ⟨rfl,rfl,X1 rfl (by first|rfl|(simp only [hc9b,hg23,bs];done)|simp [hc9b,hg23]),trivial⟩,rfl⟩
  refine Zv ⟨_,_,rfl,rfl,hg23⟩ (X8 rfl) ?_
  refine Zv ⟨_,_,rfl,rfl,hg23⟩ (X8 rfl) ?_
  refine Zv ⟨_,_,rfl,rfl,hg23⟩ (Xfx Tryz.underlying4 rfl rfl) ?_
  refine Ze (X7 rfl hg23 rfl) ?_
  refine Zn fun a hf=>?_
  exact ⟨hf.sub ⟨rfl,rfl,X1 rfl (by first|rfl|(simp only [hc9b,hg23,bs];done)|simp [hc9b,hg23]),trivial⟩,rfl⟩
 rintro a _ ⟨hf,rfl⟩
 refine hK22 _ _ ?_
 refine Xb hf rfl (fun hc24=>?_) (fun hc24=>?_)
 ·have hc24b:=hc24
  rw [Xb2] at hc24;simp at hc24
 have hc24b:=hc24
 refine wp_skip ?_
 refine hK21 _ _ ?_
 refine wp_seq_k fun _ hK25=>?_
 refine wp_seq_k fun _ hK26=>?_
 refine X05 none (fun _=>false) mixed ?_
 intro w9 hE
 replace hB4:=hB4.below hE
 replace hB19:=hB19.below hE
 replace ho15:=ho15.below hE
 replace ho16:=ho16.below hE
 replace hW:=btr hW hE
 refine Yb hf ?_
 refine Ye 0 rfl (Vn X2u hB19)<|Ye 1 rfl (Vn X97 hB4) ?_
 refine Y1 2 ?_
 refine Yk rfl trivial (Vc (F11 _ r Ar cr (hr_r.below' hW).top Br dr (hs_r.below' hW).top hl1 hl2) Xdv) (fun _ _ ⟨A27,c27,A28,c28,_,ho27,ho28,hE⟩=>hE) ?_;rintro _ w10 ⟨A27,c27,A28,c28,rfl,ho27,ho28,hE⟩
 replace ho27:=ho27.lower hW.size
 replace ho28:=ho28.lower hW.size
 replace hB4:=hB4.below hE
 replace hB19:=hB19.below hE
 replace ho15:=ho15.below hE
 replace ho16:=ho16.below hE
 replace hW:=btr hW hE
 refine Y1 3 ?_
 refine Yk rfl trivial (Vc (F13 _ r A15 c15 ho15.rd.top A16 c16 ho16.rd.top r A27 c27 ho27.rd.top A28 c28 ho28.rd.top (by omega) (by omega)) Xki) (fun _ _ ⟨_,hE⟩=>hE) ?_;rintro _ w11 ⟨rfl,hE⟩
 replace hB4:=hB4.below hE
 replace hB19:=hB19.below hE
 replace ho15:=ho15.below hE
 replace ho16:=ho16.below hE
 replace ho27:=ho27.below hE
 replace ho28:=ho28.below hE
 replace hW:=btr hW hE
 refine Yo 4 rfl (fun _=>X09 rfl) ?_
 refine Yd fun a hf=>?_
 refine hK26 _ _ ?_
 refine Xb hf rfl (fun hc29=>?_) (fun hc29=>?_)
 ·have hc29b:=hc29
  simp at hc29
 have hc29b:=hc29
 refine wp_skip ?_
 refine hK25 _ _ ?_
 refine Zs hf fun _ hK30=>?_
 refine Za rfl ?_
 refine Zt hK30 fun a hf=>?_
 refine wp_ret (X2 hf (Xh hf rfl rfl) ?_)
 exact ⟨rfl,hW⟩
end Go.Proofs.YtfgnmflfiobkmaaGreat
set_option maxRecDepth 4000
namespace Go.Proofs.YtfgnmflfiobkmaaGreat
open Go.RowKit
theorem Xpo(w0:World)(Ap:Option Addr)(cp:Nat)(p:List Gt)(hr_p:Rd w0 w0.heap.size 107 encG Ap p)(Aq:Option Addr)(cq:Nat)(q:List Gt)(hr_q:Rd w0 w0.heap.size 107 encG Aq q)(hln:p.length≤2305843009213693951) : Ret Tryz.prog 109 [.slice Ap p.length cp,.slice Aq q.length cq] w0 (fun v w=>v=.bool (decide (p=q))∧Below w0.heap.size w0 w):=by
 refine enter Tryz.func109 rfl 26 rfl rfl ?_
 intro a hf
 have hW:Below w0.heap.size w0 w0:=Below.refl _ _
 refine Zs hf fun _ hK3=>?_
 refine Za rfl ?_
 refine Zt hK3 fun a hf=>?_
 refine wp_seq_k fun _ hK4=>?_
 refine Zs hf fun _ hK5=>?_
 refine Zm rfl<|Ze (X0d rfl X02)<|Zm rfl<|Ze (X0d rfl X02)<|Ze (X1g rfl rfl) ?_
 refine Zt hK5 fun a hf=>?_
 refine Xb hf rfl (fun hc6=>?_) (fun hc6=>?_)
 ·have hc6b:=hc6
  have hne:¬ p=q:=by intro h9;rw [h9] at hc6;simp at hc6
  refine Zs hf fun _ hK7=>?_
  refine Za rfl ?_
  refine Zt hK7 fun a hf=>?_
  refine wp_ret ?_
  refine X3 ?_
  refine X2 hf (Xh hf rfl rfl) ?_
  exact ⟨by simp [hne],hW⟩
 have hc6b:=hc6
 have hll:p.length=q.length:=by have h9:(p.length:Int)=q.length:=(by simpa using hc6);omega
 refine wp_skip ?_
 refine hK4 _ _ ?_
 refine wp_seq_k fun _ hK8=>?_
 refine Zs hf fun _ hK9=>?_
 refine Zm rfl<|Ze (X0d rfl X02)<|Zm rfl ?_
 refine Zt hK9 fun a hf=>?_
 refine wp_block ?_
 refine X04 (σ:=Nat) (fun (k:Nat) (a:Act) (w:World)=>Fr a 26 [(0,.slice Ap p.length cp),(1,.slice Aq q.length cq),(12,vi (p.length:Int)),(13,vi (k:Int))]∧(k≤p.length)∧(p.take k=q.take k)∧Below w0.heap.size w0 w) (fun (k:Nat)=>p.length-k) 0 ?_ ?_
 · exact ⟨hf.sub ⟨rfl,rfl,rfl,rfl,trivial⟩,(Nat.zero_le _),(by simp),hW⟩
 rintro k a w1 ⟨hf,hk,hpre,hW⟩
 refine Zs hf fun _ hK10=>?_
 refine Ze (X0m rfl rfl) ?_
 refine Zt hK10 fun a hf=>?_
 refine wp_seq_k fun _ hK11=>?_
 refine Xb hf rfl (fun hc12=>?_) (fun hc12=>?_)
 ·have hc12b:=hc12
  have hc12:=of_decide_eq_true hc12
  obtain ⟨u13,hu13⟩:=Xf (l:=p) (k:=k) (by omega)
  obtain ⟨v9,hv9⟩:=Xf (l:=q) (k:=k) (by omega)
  refine wp_skip ?_
  refine hK11 _ _ ?_
  refine wp_seq_k fun _ hK14=>?_
  refine wp_block ?_
  refine Zs hf fun _ hK15=>?_
  refine Zm rfl<|Za rfl ?_
  refine Zt hK15 fun a hf=>?_
  refine wp_seq_k fun _ hK16=>?_
  refine X05 none (fun _=>false) mixed ?_
  intro w2 hE
  replace hW:=btr hW hE
  refine Yb hf ?_
  refine Yo 0 rfl (fun _=>X8 rfl)<|Yo 1 rfl (fun _=>X8 rfl) ?_
  refine Yi (k:=k) (u:=u13) (enc:=encG) (l:=p) 2 rfl trivial rfl rfl X02 X0o Xq (hr_p.below' hW) hu13 rfl ?_;intro p18 hat17
  refine Ye 3 rfl (Xi (l:=[vi u13.k,vi u13.a,vi u13.b]) rfl X0k hat17 rfl)<|Yo 4 rfl (fun _=>X8 rfl)<|Yo 5 rfl (fun _=>X8 rfl) ?_
  refine Yi (k:=k) (u:=v9) (enc:=encG) (l:=q) 6 rfl trivial rfl rfl X02 X0o Xq (hr_q.below' hW) hv9 rfl ?_;intro p20 hat19
  refine Ye 7 rfl (Xi (l:=[vi v9.k,vi v9.a,vi v9.b]) rfl X0k hat19 rfl)<|Yo 8 rfl (fun _=>Xaw rfl rfl Xc8 (fun w=>Xcr 9998 u13 v9 w)) ?_
  refine Yd fun a hf=>?_
  refine hK16 _ _ ?_
  refine Xb hf rfl (fun hc21=>?_) (fun hc21=>?_)
  ·have hc21b:=hc21
   have hne:¬ p=q:=by rintro rfl;rw [hu13] at hv9;injection hv9 with e9;revert hc21;simp [e9]
   refine Zs hf fun _ hK22=>?_
   refine Za rfl ?_
   refine Zt hK22 fun a hf=>?_
   refine wp_ret ?_
   refine Xj ?_
   refine X3 ?_
   refine X3 ?_
   refine Xj ?_
   refine X3 ?_
   refine X2 hf (Xh hf rfl rfl) ?_
   exact ⟨by simp [hne],hW⟩
  have hc21b:=hc21
  have he9:u13=v9:=by revert hc21;simp
  refine wp_skip ?_
  refine Xn ?_
  refine hK14 _ _ ?_
  refine Zr hf ?_
  refine Ze (Xy rfl rfl (by omega) (by omega))<|Zm rfl ?_
  refine Zn fun a hf=>?_
  refine Xk ?_
  exact ⟨k+1,⟨hf.sub ⟨rfl,rfl,rfl,rfl,trivial⟩,(by omega),(X31 hpre hu13 hv9 he9),hW⟩,(by omega)⟩
 have hc12b:=hc12
 have hc12:=of_decide_eq_false hc12
 refine wp_exit ?_
 refine Xm ?_
 refine Xm ?_
 refine X03 ?_
 refine hK8 _ _ ?_
 refine Zs hf fun _ hK23=>?_
 refine Za rfl ?_
 refine Zt hK23 fun a hf=>?_
 refine wp_ret (X2 hf (Xh hf rfl rfl) ?_)
 have he:p=q:=by rw [List.take_of_length_le (by omega),List.take_of_length_le (by omega)] at hpre;exact hpre
 exact ⟨by simp [he],hW⟩
theorem Xpx(w0:World)(n:Int)(Al:Option Addr)(cl:Nat)(l:List Gt)(hr_l:Rd w0 w0.heap.size 107 encG Al l)(hln:l.length≤1000000000) : Ret Tryz.prog 110 [vi n,.slice Al l.length cl] w0 (fun v w=>∃ A c1,v=.tuple #[.agg #[vi ((cIf ⟨n,l⟩).getD cZ).n,.slice A ((cIf ⟨n,l⟩).getD cZ).gs.length c1],.bool (cIf ⟨n,l⟩).isSome]∧Own w w0.heap.size 107 3 encG A c1 ((cIf ⟨n,l⟩).getD cZ).gs∧Below w0.heap.size w0 w):=by
 refine enter Tryz.func110 rfl 17 rfl rfl ?_
 intro a hf
 have hW:Below w0.heap.size w0 w0:=Below.refl _ _
 refine Zs hf fun _ hK2=>?_
 refine Zf (Xa (zs:=[vi 0,.slice none 0 0]) X3n rfl) ?_;rintro _ w1 ⟨b4,rfl,hl4,hE,hB4⟩
 have hlo4:=Nat.le_trans hW.size hl4
 replace hW:=btr hW hE
 refine Za rfl ?_
 refine Zt hK2 fun a hf=>?_
 refine Zs hf fun _ hK5=>?_
 refine Zm rfl ?_
 refine Zf (Xv (k:=0) (vs:=[]) (zs:=[]) rfl X02 X0r rfl rfl) ?_;rintro _ w2 ⟨b6,rfl,hl6,hE,hB6⟩
 have hlo6:=Nat.le_trans hW.size hl6
 have haw1_6:=(hr_l.below' hW).away hl6
 replace hB4:=hB4.below hE
 replace hW:=btr hW hE
 refine Zm rfl ?_
 refine Zf (X10 (enc:=encG) (l:=([] : List Gt)) (l2:=(l)) (B0:=w0.heap.size) rfl rfl X02 X0r Xq X0y (Own.empty hB6 hlo6) (hr_l.below' hW) (by simp only [maxLen];simp;omega) (by simp;omega) hW.size) ?_;rintro _ w3 ⟨A8,c8,rfl,ho8,hg,hat⟩
 have hown:Own _ w0.heap.size 107 3 encG _ _ ([] : List Gt):=(Own.empty hB6 hlo6)
 clear hat
 replace hB4:=hB4.appT hown hg rfl
 replace hW:=Below.app hW hown hg (Nat.le_refl _) hW.size
 clear hown hg
 simp only [List.nil_append] at ho8
 refine Ze (X01 (ps:=[(0,vi n),(1,.slice A8 l.length c8)]) (cs:=[vi n,.slice A8 l.length c8]) rfl (fun _=>by first|rfl|kernel_rfl)) ?_
 refine Zf (Xa (zs:=[vi 0,.slice none 0 0]) X3n rfl) ?_;rintro _ w4 ⟨b11,rfl,hl11,hE,hB11⟩
 have hne4_11:b4≠b11:=by have:=hB4.lt;omega
 have hlo11:=Nat.le_trans hW.size hl11
 replace hB4:=hB4.below hE
 replace ho8:=ho8.below hE
 replace hW:=btr hW hE
 refine Zo (Vw [vi n,.slice A8 l.length c8] X1j hB11) ?_;rintro _ w5 ⟨ho,hb⟩
 have hold:=hB11
 replace hB4:=hB4.only ho (by omega)
 replace ho8:=ho8.onlyT ho hold rfl
 replace hW:=Below.only hW ho hlo11
 clear hold
 have hB11:=hb
 clear hb ho
 refine Zt hK5 fun a hf=>?_
 refine wp_seq_k fun _ hK12=>?_
 refine Zs hf fun _ hK13=>?_
 refine Ze (Vn X0c hB11) ?_
 refine Zf (Vc (F55 _ (⟨n,l⟩ : Cx) A8 c8 ho8.rd.top (by show l.length≤_;omega)) Xar) ?_;rintro _ w6 ⟨rfl,hE⟩
 replace hB4:=hB4.below hE
 replace hB11:=hB11.below hE
 replace ho8:=ho8.below hE
 replace hW:=btr hW hE
 refine Ze (X09 rfl) ?_
 refine Zt hK13 fun a hf=>?_
 refine Xb hf rfl (fun hc14=>?_) (fun hc14=>?_)
 ·have hc14b:=hc14
  have hfin:cIf ⟨n,l⟩=none:=by rw [cIf,if_neg];revert hc14;cases cOk ⟨n,l⟩<;>simp
  refine Zs hf fun _ hK15=>?_
  refine Ze (X01 (ps:=[]) (cs:=[vi 0,.slice none 0 0]) rfl (fun _=>by first|rfl|kernel_rfl)) ?_
  refine Zo (Vw [vi 0,.slice none 0 0] X1j hB4) ?_;rintro _ w7 ⟨ho,hb⟩
  have hold:=hB4
  replace hB11:=hB11.only ho (by omega)
  replace ho8:=ho8.onlyT ho hold rfl
  replace hW:=Below.only hW ho hlo4
  clear hold
  have hB4:=hb
  clear hb ho
  refine Za rfl ?_
  refine Zt hK15 fun a hf=>?_
  refine wp_ret ?_
  refine X3 ?_
  refine X2 hf (X0q hf rfl (ResV.cellN (l:=[vi 0,.slice none 0 0]) rfl X0c (hB4.at 0) rfl) rfl) ?_
  rw [hfin]
  exact ⟨none,0,rfl,(Own.nil _ _ _ _ _),hW⟩
 have hc14b:=hc14
 have hfin:cIf ⟨n,l⟩=some ⟨n,l⟩:=by rw [cIf,if_pos];revert hc14;cases cOk ⟨n,l⟩<;>simp
 refine wp_skip ?_
 refine hK12 _ _ ?_
 refine Zs hf fun _ hK17=>?_
 refine Ze (Vn X0c hB11) ?_
 refine Zo (Vw [vi n,.slice A8 l.length c8] X1j hB4) ?_;rintro _ w8 ⟨ho,hb⟩
 have hold:=hB4
 replace hB11:=hB11.only ho (by omega)
 replace ho8:=ho8.onlyT ho hold rfl
 replace hW:=Below.only hW ho hlo4
 clear hold
 have hB4:=hb
 clear hb ho
 refine Za rfl ?_
 refine Zt hK17 fun a hf=>?_
 refine wp_ret (X2 hf (X0q hf rfl (ResV.cellN (l:=[vi n,.slice A8 l.length c8]) rfl X0c (hB4.at 0) rfl) rfl) ?_)
 rw [hfin]
 exact ⟨A8,c8,rfl,ho8,hW⟩
theorem Xsy(w0:World)(ls:List Sg)(Al:Option Addr)(cl:Nat)(hr_ls:Rd w0 w0.heap.size 28 encSg Al ls)(hall:∀ s ∈ ls,Rd w0 w0.heap.size 107 encG s.A s.l)(hln:ls.length≤1000)(hsum:(ls.flatMap Sg.l).length≤1000000000) : Ret Tryz.prog 111 [.slice Al ls.length cl] w0 (fun v w=>∃ A c,v=.slice A (ls.flatMap Sg.l).length c∧Own w w0.heap.size 107 3 encG A c (ls.flatMap Sg.l)∧Below w0.heap.size w0 w):=by
 refine enter Tryz.func111 rfl 36 rfl rfl ?_
 intro a hf
 have hW:Below w0.heap.size w0 w0:=Below.refl _ _
 refine Zs hf fun _ hK2=>?_
 refine Za rfl ?_
 refine Zt hK2 fun a hf=>?_
 refine Zs hf fun _ hK4=>?_
 refine Za rfl ?_
 refine Zt hK4 fun a hf=>?_
 refine wp_seq_k fun _ hK5=>?_
 refine Zs hf fun _ hK6=>?_
 refine Zm rfl<|Ze (X0d rfl X7z)<|Zm rfl ?_
 refine Zt hK6 fun a hf=>?_
 refine wp_block ?_
 refine X04 (σ:=Nat) (fun (k:Nat) (a:Act) (w:World)=>Fr a 36 [(0,.slice Al ls.length cl),(3,vi (((ls.take k).flatMap Sg.l).length:Int)),(9,.slice Al ls.length cl),(10,vi (ls.length:Int)),(11,vi (k:Int))]∧(k≤ls.length)∧Below w0.heap.size w0 w) (fun (k:Nat)=>ls.length-k) 0 ?_ ?_
 · exact ⟨hf.sub ⟨rfl,rfl,rfl,rfl,rfl,trivial⟩,(Nat.zero_le _),hW⟩
 rintro k a w1 ⟨hf,hk,hW⟩
 refine Zs hf fun _ hK7=>?_
 refine Ze (X0m rfl rfl) ?_
 refine Zt hK7 fun a hf=>?_
 refine wp_seq_k fun _ hK8=>?_
 refine Xb hf rfl (fun hc9=>?_) (fun hc9=>?_)
 ·have hc9b:=hc9
  have hc9:=of_decide_eq_true hc9
  obtain ⟨u10,hu10⟩:=Xf (l:=ls) (k:=k) (by omega)
  have hst:=X3s (f:=Sg.l) hu10
  have hle:=X4r Sg.l ls (k+1)
  rw [hst,List.length_append] at hle
  refine wp_skip ?_
  refine hK8 _ _ ?_
  refine wp_seq_k fun _ hK11=>?_
  refine wp_block ?_
  refine Zs hf fun _ hK12=>?_
  refine Zi (k:=k) (u:=u10) (enc:=encSg) (l:=ls) trivial rfl rfl X7z X4a X8u (hr_ls.below' hW) hu10 rfl ?_;intro p14 hat13
  have hr15:Rd w1 w0.heap.size 107 encG u10.A u10.l:=(hall u10 (List.mem_of_getElem? hu10)).below' hW
  refine Ze (X0 rfl X0e hat13)<|Za rfl ?_
  refine Zt hK12 fun a hf=>?_
  refine Zs hf fun _ hK16=>?_
  refine Zm rfl<|Zm rfl<|Ze (X0d rfl X02)<|Ze (Xy rfl rfl (by omega) (by omega))<|Za rfl ?_
  refine Zt hK16 fun a hf=>?_
  refine Zs hf fun _ hK17=>?_
  refine Zm rfl<|Ze (X0m rfl rfl) ?_
  refine Zt hK17 fun a hf=>?_
  refine Xb hf rfl (fun hc18=>?_) (fun hc18=>?_)
  ·have hc18b:=hc18
   have hc18:=of_decide_eq_true hc18
   exact absurd hc18 (by omega)
  have hc18b:=hc18
  have hc18:=of_decide_eq_false hc18
  refine wp_skip ?_
  refine Xn ?_
  refine hK11 _ _ ?_
  refine Zr hf ?_
  refine Ze (Xy rfl rfl (by omega) (by omega))<|Zm rfl ?_
  refine Zn fun a hf=>?_
  have hjj:((((ls.take k).flatMap Sg.l).length:Int)+(u10.l.length:Int))=(((ls.take (k+1)).flatMap Sg.l).length:Int):=by rw [hst,List.length_append];omega
  rw [hjj] at hf
  refine Xk ?_
  exact ⟨k+1,⟨hf.sub ⟨rfl,rfl,rfl,rfl,rfl,trivial⟩,(by omega),hW⟩,(by omega)⟩
 have hc9b:=hc9
 have hc9:=of_decide_eq_false hc9
 refine wp_exit ?_
 refine Xm ?_
 refine Xm ?_
 refine X03 ?_
 refine hK5 _ _ ?_
 refine Zs hf fun _ hK19=>?_
 refine Zm rfl ?_
 refine Zf (Vc (Xrm _ (((ls.take k).flatMap Sg.l).length) (by have:=X4r Sg.l ls k;omega)) Xkl) ?_;rintro _ w2 ⟨A21,c21,rfl,ho21,hE⟩
 replace ho21:=ho21.lower hW.size
 replace hW:=btr hW hE
 refine Za rfl ?_
 refine Zt hK19 fun a hf=>?_
 refine wp_seq_k fun _ hK22=>?_
 refine Zs hf fun _ hK23=>?_
 refine Zm rfl<|Ze (X0d rfl X7z)<|Zm rfl ?_
 refine Zt hK23 fun a hf=>?_
 refine wp_block ?_
 refine X04 (σ:=Nat×(List Gt)) (fun (s:Nat×(List Gt)) (a:Act) (w:World)=>match s with|(j,l)=>∃ A24 c24,Fr a 36 [(6,.slice A24 l.length c24),(25,.slice Al ls.length cl),(26,vi (ls.length:Int)),(27,vi (j:Int))]∧(j≤ls.length)∧(l=(ls.take j).flatMap Sg.l)∧Own w w0.heap.size 107 3 encG A24 c24 l∧Below w0.heap.size w0 w) (fun (s:Nat×(List Gt))=>match s with|(j,l)=>ls.length-j) (0,[]) ?_ ?_
 · exact ⟨A21,c21,hf.sub ⟨rfl,rfl,rfl,rfl,trivial⟩,(Nat.zero_le _),rfl,ho21,hW⟩
 rintro ⟨j,l⟩ a w3 ⟨A24,c24,hf,hj,hl,ho24,hW⟩
 refine Zs hf fun _ hK25=>?_
 refine Ze (X0m rfl rfl) ?_
 refine Zt hK25 fun a hf=>?_
 refine wp_seq_k fun _ hK26=>?_
 refine Xb hf rfl (fun hc27=>?_) (fun hc27=>?_)
 ·have hc27b:=hc27
  have hc27:=of_decide_eq_true hc27
  obtain ⟨u28,hu28⟩:=Xf (l:=ls) (k:=j) (by omega)
  have hst:=X3s (f:=Sg.l) hu28
  have hle:=X4r Sg.l ls (j+1)
  rw [hst,List.length_append,← hl] at hle
  refine wp_skip ?_
  refine hK26 _ _ ?_
  refine wp_seq_k fun _ hK29=>?_
  refine wp_block ?_
  refine Zs hf fun _ hK30=>?_
  refine Zi (k:=j) (u:=u28) (enc:=encSg) (l:=ls) trivial rfl rfl X7z X4a X8u (hr_ls.below' hW) hu28 rfl ?_;intro p32 hat31
  have hr33:Rd w3 w0.heap.size 107 encG u28.A u28.l:=(hall u28 (List.mem_of_getElem? hu28)).below' hW
  refine Ze (X0 rfl X0e hat31)<|Za rfl ?_
  refine Zt hK30 fun a hf=>?_
  refine Zr hf ?_
  refine Zm rfl<|Zm rfl ?_
  refine Zf (X10 (enc:=encG) (l:=(l)) (l2:=(u28.l)) (B0:=w0.heap.size) rfl rfl X02 X0r Xq X0y ho24 hr33 (by simp only [maxLen];omega) (by omega) hW.size) ?_;rintro _ w4 ⟨A34,c34,rfl,ho34,hg,hat⟩
  have hown:Own _ w0.heap.size 107 3 encG _ _ (l):=ho24
  clear hat
  replace hr33:=hr33.appB hown hg (Nat.le_refl _)
  replace hW:=Below.app hW hown hg (Nat.le_refl _) hW.size
  clear hown hg
  refine Za rfl ?_
  refine Zn fun a hf=>?_
  refine Xn ?_
  refine hK29 _ _ ?_
  refine Zr hf ?_
  refine Ze (Xy rfl rfl (by omega) (by omega))<|Zm rfl ?_
  refine Zn fun a hf=>?_
  refine Xk ?_
  exact ⟨(j+1,l++u28.l),⟨A34,c34,hf.sub ⟨rfl,rfl,rfl,rfl,trivial⟩,(by omega),(by rw [hst,hl]),ho34,hW⟩,(by first|omega|(dsimp only;omega))⟩
 have hc27b:=hc27
 have hc27:=of_decide_eq_false hc27
 refine wp_exit ?_
 refine Xm ?_
 refine Xm ?_
 refine X03 ?_
 refine hK22 _ _ ?_
 refine Zs hf fun _ hK35=>?_
 refine Zm rfl<|Za rfl ?_
 refine Zt hK35 fun a hf=>?_
 refine wp_ret (X2 hf (Xh hf rfl rfl) ?_)
 have hfin:l=ls.flatMap Sg.l:=by rw [hl];exact X6e _ (by omega)
 rw [← hfin]
 exact ⟨A24,c24,rfl,ho24,hW⟩
theorem F67(w0:World)(p:Cx)(Ap:Option Addr)(cp:Nat)(hr_p:Rd w0 w0.heap.size 107 encG Ap p.gs)(q:Cx)(Aq:Option Addr)(cq:Nat)(hr_q:Rd w0 w0.heap.size 107 encG Aq q.gs)(hln:p.gs.length≤2305843009213693951) : Ret Tryz.prog 67 [.agg #[vi p.n,.slice Ap p.gs.length cp],.agg #[vi q.n,.slice Aq q.gs.length cq]] w0 (fun v w=>v=.bool (eqC p q)∧Below w0.heap.size w0 w):=by
 refine enter Tryz.func67 rfl 17 rfl rfl ?_
 intro a hf
 have hW:Below w0.heap.size w0 w0:=Below.refl _ _
 refine Zs hf fun _ hK3=>?_
 refine Zf (Xu (zs:=[vi p.n,.slice Ap p.gs.length cp]) rfl rfl) ?_;rintro _ w1 ⟨b4,rfl,hl4,hE,hB4⟩
 have hlo4:=Nat.le_trans hW.size hl4
 replace hW:=btr hW hE
 refine Zf (Xu (zs:=[vi q.n,.slice Aq q.gs.length cq]) rfl rfl) ?_;rintro _ w2 ⟨b5,rfl,hl5,hE,hB5⟩
 have hne4_5:b4≠b5:=by have:=hB4.lt;omega
 have hlo5:=Nat.le_trans hW.size hl5
 replace hB4:=hB4.below hE
 replace hW:=btr hW hE
 refine Za rfl ?_
 refine Zt hK3 fun a hf=>?_
 refine wp_seq_k fun _ hK6=>?_
 refine X06 (fun a w=>Fr a 17 [(4,.bool ((p.n==q.n)&&(decide (p.gs=q.gs))))]∧Below w2.heap.size w2 w) ?_ ?_
 ·have hEc:Below w2.heap.size w2 w2:=Below.refl _ _
  refine Zr hf ?_
  refine Ze (Vd rfl X0t 0)<|Ze (X0 rfl X5 (hB4.at 0))<|Ze (Vd rfl X0t 0)<|Ze (X0 rfl X5 (hB5.at 0))<|Ze (X0s rfl rfl) ?_
  refine Zm rfl ?_
  refine Zg 10 rfl (fun hg7=>?_) (fun hg7=>?_)
  ·refine Zv ⟨_,_,rfl,rfl,hg7⟩ (Vd rfl X07 1) ?_
   refine Zv ⟨_,_,rfl,rfl,hg7⟩ (X0 rfl X0e (hB4.at 1)) ?_
   refine Zv ⟨_,_,rfl,rfl,hg7⟩ (Vd rfl X07 1) ?_
   refine Zv ⟨_,_,rfl,rfl,hg7⟩ (X0 rfl X0e (hB5.at 1)) ?_
   refine Zk ⟨_,_,rfl,rfl,hg7⟩ (Vc (Xpo _ Ap cp p.gs (hr_p.below' hW).top Aq cq q.gs (hr_q.below' hW).top hln) Xft) ?_;rintro _ w3 ⟨rfl,hE⟩
   replace hB4:=hB4.below hE
   replace hB5:=hB5.below hE
   replace hW:=btr hW hE
   replace hEc:=btr hEc hE
   refine Ze (X9 rfl hg7 rfl)<|Za rfl ?_
   refine Zn fun a hf=>?_
   have hEE:Below w2.heap.size w2 w3:=hEc
   exact ⟨hf.sub ⟨X1 rfl (by first|rfl|(simp only [hg7,bs];done)|simp [hg7]),trivial⟩,hEE⟩
  refine Zp ⟨_,_,rfl,rfl,hg7⟩ ?_
  refine Zp ⟨_,_,rfl,rfl,hg7⟩ ?_
  refine Zp ⟨_,_,rfl,rfl,hg7⟩ ?_
  refine Zp ⟨_,_,rfl,rfl,hg7⟩ ?_
  refine Zp ⟨_,_,rfl,rfl,hg7⟩ ?_
  refine Ze (X7 rfl hg7 rfl)<|Za rfl ?_
  refine Zn fun a hf=>?_
  have hEE:Below w2.heap.size w2 w2:=hEc
  exact ⟨hf.sub ⟨X1 rfl (by first|rfl|(simp only [hg7,bs];done)|simp [hg7]),trivial⟩,hEE⟩
 rintro a w4 ⟨hf,hE⟩
 replace hB4:=hB4.below hE
 replace hB5:=hB5.below hE
 replace hW:=btr hW hE
 refine hK6 _ _ ?_
 refine wp_ret (X2 hf (Xh hf rfl rfl) ?_)
 exact ⟨by simp only [eqC],hW⟩
end Go.Proofs.YtfgnmflfiobkmaaGreat
set_option maxRecDepth 4000
namespace Go.Proofs.YtfgnmflfiobkmaaGreat
open Go.RowKit
theorem F66(w0:World)(c:Cx)(Ac:Option Addr)(cc:Nat)(hr_c:Rd w0 w0.heap.size 107 encG Ac c.gs)(hp_c:c.gs.length≤cc)(r:Rp)(Ar:Option Addr)(cr:Nat)(hr_r:Rd w0 w0.heap.size 107 encG Ar r.old)(Br:Option Addr)(dr:Nat)(hs_r:Rd w0 w0.heap.size 107 encG Br r.new)(hlc:c.gs.length≤100000000)(hla:r.old.length≤100000000)(hlb:r.new.length≤100000000) : Ret Tryz.prog 66 [.agg #[vi c.n,.slice Ac c.gs.length cc],.agg #[vi r.pos,.slice Ar r.old.length cr,.slice Br r.new.length dr]] w0 (fun v w=>∃ A c1,v=.tuple #[.agg #[vi ((applyI c r).getD cZ).n,.slice A ((applyI c r).getD cZ).gs.length c1],.bool (applyI c r).isSome]∧Own w w0.heap.size 107 3 encG A c1 ((applyI c r).getD cZ).gs∧Below w0.heap.size w0 w):=by
 refine enter Tryz.func66 rfl 61 rfl rfl ?_
 intro a hf
 have hW:Below w0.heap.size w0 w0:=Below.refl _ _
 refine Zs hf fun _ hK4=>?_
 refine Zf (Xu (zs:=[vi c.n,.slice Ac c.gs.length cc]) rfl rfl) ?_;rintro _ w1 ⟨b5,rfl,hl5,hE,hB5⟩
 have hlo5:=Nat.le_trans hW.size hl5
 replace hW:=btr hW hE
 refine Zf (Xu (zs:=[vi r.pos,.slice Ar r.old.length cr,.slice Br r.new.length dr]) rfl rfl) ?_;rintro _ w2 ⟨b6,rfl,hl6,hE,hB6⟩
 have hlo6:=Nat.le_trans hW.size hl6
 replace hB5:=hB5.below hE
 replace hW:=btr hW hE
 refine Zf (Xa (zs:=[vi 0,.slice none 0 0]) X3n rfl) ?_;rintro _ w3 ⟨b8,rfl,hl8,hE,hB8⟩
 have hne5_8:b5≠b8:=by have:=hB5.lt;omega
 have hlo8:=Nat.le_trans hW.size hl8
 replace hB5:=hB5.below hE
 replace hB6:=hB6.below hE
 replace hW:=btr hW hE
 refine Za rfl ?_
 refine Zt hK4 fun a hf=>?_
 refine Zs hf fun _ hK9=>?_
 refine Ze (Vd rfl X28 0)<|Ze (X0 rfl X5 (hB6.at 0))<|Ze (Vd rfl X1o 1)<|Ze (X0 rfl X0e (hB6.at 1))<|Ze (X0d rfl X02) ?_
 refine Ze (X22 rfl rfl)<|Za rfl ?_
 refine Zt hK9 fun a hf=>?_
 refine wp_seq_k fun _ hK10=>?_
 refine wp_seq_k fun _ hK11=>?_
 refine X06 (fun a w=>Fr a 61 [(2,.pointer (some ⟨b5,0,none⟩)),(3,.pointer (some ⟨b6,0,none⟩)),(4,.pointer (some ⟨b8,0,none⟩)),(6,vi (wr (r.pos+(r.old.length:Int)))),(41,.bool ((((!(cOk c))||(!(vrI c.n r)))||(decide ((c.gs.length:Int)<(wr (r.pos+(r.old.length:Int))))))||(!(decide (((c.gs.take (r.pos.toNat+r.old.length)).drop r.pos.toNat)=r.old)))))]∧Below w3.heap.size w3 w) ?_ ?_
 ·have hEc:Below w3.heap.size w3 w3:=Below.refl _ _
  refine X05 none (fun _=>false) mixed ?_
  intro w4 hE
  replace hB5:=hB5.below hE
  replace hB6:=hB6.below hE
  replace hB8:=hB8.below hE
  replace hW:=btr hW hE
  replace hEc:=btr hEc hE
  refine Yb hf ?_
  refine Ye 0 rfl (Vn X0c hB5) ?_
  refine Y1 1 ?_
  refine Yk rfl trivial (Vc (F55 _ c Ac cc (hr_c.below' hW).top (by omega)) Xar) (fun _ _ ⟨_,hE⟩=>hE) ?_;rintro _ w5 ⟨rfl,hE⟩
  replace hB5:=hB5.below hE
  replace hB6:=hB6.below hE
  replace hB8:=hB8.below hE
  replace hW:=btr hW hE
  replace hEc:=btr hEc hE
  refine Yo 2 rfl (fun _=>X09 rfl)<|Yo 3 rfl (fun _=>X8 rfl) ?_
  refine Yl 16 rfl (fun hg12=>?_) (fun hg12=>?_)
  ·refine Yp 4 rfl ⟨_,_,rfl,rfl,hg12⟩ ?_
   refine Yp 5 rfl ⟨_,_,rfl,rfl,hg12⟩ ?_
   refine Yp 6 rfl ⟨_,_,rfl,rfl,hg12⟩ ?_
   refine Y1 7 ?_
   refine Yq rfl ⟨_,_,rfl,rfl,hg12⟩ ?_
   refine Yp 8 rfl ⟨_,_,rfl,rfl,hg12⟩ ?_
   refine Yo 9 rfl (fun _=>X9 rfl hg12 rfl)<|Yo 10 rfl (fun _=>X8 rfl)<|Yp 11 rfl ⟨_,_,rfl,rfl,rfl⟩ ?_
   refine Yp 12 rfl ⟨_,_,rfl,rfl,rfl⟩ ?_
   refine Yp 13 rfl ⟨_,_,rfl,rfl,rfl⟩ ?_
   refine Yp 14 rfl ⟨_,_,rfl,rfl,rfl⟩ ?_
   refine Yp 15 rfl ⟨_,_,rfl,rfl,rfl⟩ ?_
   refine Yo 16 rfl (fun _=>X9 rfl rfl rfl)<|Yo 17 rfl (fun _=>X8 rfl)<|Yp 18 rfl ⟨_,_,rfl,rfl,rfl⟩ ?_
   refine Yp 19 rfl ⟨_,_,rfl,rfl,rfl⟩ ?_
   refine Yp 20 rfl ⟨_,_,rfl,rfl,rfl⟩ ?_
   refine Yp 21 rfl ⟨_,_,rfl,rfl,rfl⟩ ?_
   refine Yp 22 rfl ⟨_,_,rfl,rfl,rfl⟩ ?_
   refine Yp 23 rfl ⟨_,_,rfl,rfl,rfl⟩ ?_
   refine Yp 24 rfl ⟨_,_,rfl,rfl,rfl⟩ ?_
   refine Yp 25 rfl ⟨_,_,rfl,rfl,rfl⟩ ?_
   refine Y1 26 ?_
   refine Yq rfl ⟨_,_,rfl,rfl,rfl⟩ ?_
   refine Yp 27 rfl ⟨_,_,rfl,rfl,rfl⟩ ?_
   refine Yo 28 rfl (fun _=>X9 rfl rfl rfl) ?_
   refine Yd fun a hf=>?_
   have hEE:Below w3.heap.size w3 w5:=hEc
   exact ⟨hf.sub ⟨rfl,rfl,rfl,rfl,X1 rfl (by first|rfl|(simp only [hg12,bs];done)|simp [hg12]),trivial⟩,hEE⟩
  refine Yu 4 rfl ⟨_,_,rfl,rfl,hg12⟩ (fun _=>Vd rfl X0t 0) ?_
  refine Yv 5 rfl ⟨_,_,rfl,rfl,hg12⟩ (X0 rfl X5 (hB5.at 0)) ?_
  refine Yv 6 rfl ⟨_,_,rfl,rfl,hg12⟩ (Vn X2u hB6) ?_
  refine Y1 7 ?_
  refine Yk rfl ⟨_,_,rfl,rfl,hg12⟩ (Vc (F46 _ c.n r Ar cr (hr_r.below' hW).top Br dr (hs_r.below' hW).top (by omega) (by omega)) Xjx) (fun _ _ ⟨_,hE⟩=>hE) ?_;rintro _ w6 ⟨rfl,hE⟩
  replace hB5:=hB5.below hE
  replace hB6:=hB6.below hE
  replace hB8:=hB8.below hE
  replace hW:=btr hW hE
  replace hEc:=btr hEc hE
  refine Yu 8 rfl ⟨_,_,rfl,rfl,hg12⟩ (fun _=>X09 rfl) ?_
  refine Yo 9 rfl (fun _=>X7 rfl hg12 rfl)<|Yo 10 rfl (fun _=>X8 rfl) ?_
  refine Yl 23 rfl (fun hg13=>?_) (fun hg13=>?_)
  ·refine Yp 11 rfl ⟨_,_,rfl,rfl,hg13⟩ ?_
   refine Yp 12 rfl ⟨_,_,rfl,rfl,hg13⟩ ?_
   refine Yp 13 rfl ⟨_,_,rfl,rfl,hg13⟩ ?_
   refine Yp 14 rfl ⟨_,_,rfl,rfl,hg13⟩ ?_
   refine Yp 15 rfl ⟨_,_,rfl,rfl,hg13⟩ ?_
   refine Yo 16 rfl (fun _=>X9 rfl hg13 rfl)<|Yo 17 rfl (fun _=>X8 rfl)<|Yp 18 rfl ⟨_,_,rfl,rfl,rfl⟩ ?_
   refine Yp 19 rfl ⟨_,_,rfl,rfl,rfl⟩ ?_
   refine Yp 20 rfl ⟨_,_,rfl,rfl,rfl⟩ ?_
   refine Yp 21 rfl ⟨_,_,rfl,rfl,rfl⟩ ?_
   refine Yp 22 rfl ⟨_,_,rfl,rfl,rfl⟩ ?_
   refine Yp 23 rfl ⟨_,_,rfl,rfl,rfl⟩ ?_
   refine Yp 24 rfl ⟨_,_,rfl,rfl,rfl⟩ ?_
   refine Yp 25 rfl ⟨_,_,rfl,rfl,rfl⟩ ?_
   refine Y1 26 ?_
   refine Yq rfl ⟨_,_,rfl,rfl,rfl⟩ ?_
   refine Yp 27 rfl ⟨_,_,rfl,rfl,rfl⟩ ?_
   refine Yo 28 rfl (fun _=>X9 rfl rfl rfl) ?_
   refine Yd fun a hf=>?_
   have hEE:Below w3.heap.size w3 w6:=hEc
   exact ⟨hf.sub ⟨rfl,rfl,rfl,rfl,X1 rfl (by first|rfl|(simp only [hg12,hg13,bs];done)|simp [hg12,hg13]),trivial⟩,hEE⟩
  refine Yu 11 rfl ⟨_,_,rfl,rfl,hg13⟩ (fun _=>X8 rfl) ?_
  refine Yu 12 rfl ⟨_,_,rfl,rfl,hg13⟩ (fun _=>Vd rfl X07 1) ?_
  refine Yv 13 rfl ⟨_,_,rfl,rfl,hg13⟩ (X0 rfl X0e (hB5.at 1)) ?_
  refine Yu 14 rfl ⟨_,_,rfl,rfl,hg13⟩ (fun _=>X0d rfl X02) ?_
  refine Yu 15 rfl ⟨_,_,rfl,rfl,hg13⟩ (fun _=>X42 rfl rfl) ?_
  refine Yo 16 rfl (fun _=>X7 rfl hg13 rfl)<|Yo 17 rfl (fun _=>X8 rfl) ?_
  refine Yl 30 rfl (fun hg14=>?_) (fun hg14=>?_)
  ·refine Yp 18 rfl ⟨_,_,rfl,rfl,hg14⟩ ?_
   refine Yp 19 rfl ⟨_,_,rfl,rfl,hg14⟩ ?_
   refine Yp 20 rfl ⟨_,_,rfl,rfl,hg14⟩ ?_
   refine Yp 21 rfl ⟨_,_,rfl,rfl,hg14⟩ ?_
   refine Yp 22 rfl ⟨_,_,rfl,rfl,hg14⟩ ?_
   refine Yp 23 rfl ⟨_,_,rfl,rfl,hg14⟩ ?_
   refine Yp 24 rfl ⟨_,_,rfl,rfl,hg14⟩ ?_
   refine Yp 25 rfl ⟨_,_,rfl,rfl,hg14⟩ ?_
   refine Y1 26 ?_
   refine Yq rfl ⟨_,_,rfl,rfl,hg14⟩ ?_
   refine Yp 27 rfl ⟨_,_,rfl,rfl,hg14⟩ ?_
   refine Yo 28 rfl (fun _=>X9 rfl hg14 rfl) ?_
   refine Yd fun a hf=>?_
   have hEE:Below w3.heap.size w3 w6:=hEc
   exact ⟨hf.sub ⟨rfl,rfl,rfl,rfl,X1 rfl (by first|rfl|(simp only [hg12,hg13,hg14,bs];done)|simp [hg12,hg13,hg14]),trivial⟩,hEE⟩
  refine Yu 18 rfl ⟨_,_,rfl,rfl,hg14⟩ (fun _=>Vd rfl X07 1) ?_
  refine Yv 19 rfl ⟨_,_,rfl,rfl,hg14⟩ (X0 rfl X0e (hB5.at 1)) ?_
  refine Yu 20 rfl ⟨_,_,rfl,rfl,hg14⟩ (fun _=>Vd rfl X28 0) ?_
  refine Yv 21 rfl ⟨_,_,rfl,rfl,hg14⟩ (X0 rfl X5 (hB6.at 0)) ?_
  refine Yu 22 rfl ⟨_,_,rfl,rfl,hg14⟩ (fun _=>X8 rfl) ?_
  have hr15:=(((hr_c.below' hW).top).takeK Xq (r.pos.toNat+r.old.length)).dropK Xq (c:=cc) (Xdu hp_c (r.pos.toNat+r.old.length)) r.pos.toNat
  refine Yu 23 rfl ⟨_,_,rfl,rfl,hg14⟩ (fun _=>Xjp (l:=c.gs) (k:=r.pos.toNat) (m:=(r.pos.toNat+r.old.length)) rfl rfl rfl X02 X0o (X4e (by assumption)).1 (X4e (by assumption)).2.1 (Nat.le_add_right _ _) (by have h8:=(X4e (by assumption));have h9:=Xgh (m:=c.gs.length) (by assumption);simp only [wr] at h8 h9;omega) hp_c) ?_
  refine Yu 24 rfl ⟨_,_,rfl,rfl,hg14⟩ (fun _=>Vd rfl X1o 1) ?_
  refine Yv 25 rfl ⟨_,_,rfl,rfl,hg14⟩ (X0 rfl X0e (hB6.at 1)) ?_
  refine Y1 26 ?_
  refine Yk rfl ⟨_,_,rfl,rfl,hg14⟩ (Vc (Xpo _ (if cc=r.pos.toNat then Ac else Ac.map (·.add (r.pos.toNat*3))) (cc-r.pos.toNat) ((c.gs.take (r.pos.toNat+r.old.length)).drop r.pos.toNat) hr15.top Ar cr r.old (hr_r.below' hW).top (by simp;omega)) Xft) (fun _ _ ⟨_,hE⟩=>hE) ?_;rintro _ w7 ⟨rfl,hE⟩
  replace hB5:=hB5.below hE
  replace hB6:=hB6.below hE
  replace hB8:=hB8.below hE
  replace hr15:=hr15.below hE
  replace hW:=btr hW hE
  replace hEc:=btr hEc hE
  refine Yu 27 rfl ⟨_,_,rfl,rfl,hg14⟩ (fun _=>X09 rfl) ?_
  refine Yo 28 rfl (fun _=>X7 rfl hg14 rfl) ?_
  refine Yd fun a hf=>?_
  have hEE:Below w3.heap.size w3 w7:=hEc
  exact ⟨hf.sub ⟨rfl,rfl,rfl,rfl,X1 rfl (by first|rfl|(simp only [hg12,hg13,hg14,bs];done)|simp [hg12,hg13,hg14]),trivial⟩,hEE⟩
 rintro a w8 ⟨hf,hE⟩
 replace hB5:=hB5.below hE
 replace hB6:=hB6.below hE
 replace hB8:=hB8.below hE
 replace hW:=btr hW hE
 refine hK11 _ _ ?_
 refine Xb hf rfl (fun hc16=>?_) (fun hc16=>?_)
 ·have hc16b:=hc16
  have hfin:applyI c r=none:=by unfold applyI;rw [if_neg];intro h0;simp only [fitI,Bool.and_eq_true,decide_eq_true_eq] at h0;obtain ⟨⟨⟨h1,h2⟩,h3⟩,h4⟩:=h0;have h8:=X4e (n:=c.n) (r:=r) (by rw [h2];rfl);revert hc16;rw [h1,h2,h8.2.2.1,h4];simp;omega
  refine Zs hf fun _ hK17=>?_
  refine Ze (X01 (ps:=[]) (cs:=[vi 0,.slice none 0 0]) rfl (fun _=>by first|rfl|kernel_rfl)) ?_
  refine Zo (Vw [vi 0,.slice none 0 0] X1j hB8) ?_;rintro _ w9 ⟨ho,hb⟩
  have hold:=hB8
  replace hB5:=hB5.only ho (by omega)
  replace hB6:=hB6.only ho (Blk.ne hB6 hold rfl)
  replace hW:=Below.only hW ho hlo8
  clear hold
  have hB8:=hb
  clear hb ho
  refine Za rfl ?_
  refine Zt hK17 fun a hf=>?_
  refine wp_ret ?_
  refine X3 ?_
  refine X2 hf (X0q hf rfl (ResV.cellN (l:=[vi 0,.slice none 0 0]) rfl X0c (hB8.at 0) rfl) rfl) ?_
  rw [hfin]
  exact ⟨none,0,rfl,(Own.nil _ _ _ _ _),hW⟩
 have hc16b:=hc16
 obtain ⟨h1,h2,h3,h4⟩:=Xes hc16
 have he:=X4e (n:=c.n) (r:=r) (by rw [h2];rfl)
 have hle:r.pos+(r.old.length:Int)≤(c.gs.length:Int):=by have:=Xgh h3;omega
 have hfin:applyI c r=cIf (midC c r):=by unfold applyI;rw [if_pos];simp only [fitI,h1,h2,Bool.true_and,Bool.and_eq_true,decide_eq_true_eq];exact ⟨hle,by simpa using h4⟩
 refine wp_skip ?_
 refine hK10 _ _ ?_
 refine wp_seq_k fun _ hK19=>?_
 refine X05 none (fun j=>[18].contains j) mixed ?_
 intro w10 hE
 replace hB5:=hB5.below hE
 replace hB6:=hB6.below hE
 replace hB8:=hB8.below hE
 replace hW:=btr hW hE
 refine Yb hf ?_
 refine Yo 0 rfl (fun _=>Vd rfl X0t 0)<|Ye 1 rfl (X0 rfl X5 (hB5.at 0))<|Yo 2 rfl (fun _=>Vd rfl X07 1)<|Ye 3 rfl (X0 rfl X0e (hB5.at 1))<|Yo 4 rfl (fun _=>Vd rfl X28 0) ?_
 refine Ye 5 rfl (X0 rfl X5 (hB6.at 0)) ?_
 have hr20:=((hr_c.below' hW).top).takeK Xq r.pos.toNat
 refine Yo 6 rfl (fun _=>X6h (l:=c.gs) (k:=r.pos.toNat) rfl rfl X02 X0o he.1 (by omega) hp_c)<|Yo 7 rfl (fun _=>Vd rfl X21 2)<|Ye 8 rfl (X0 rfl X0e (hB6.at 2))<|Yo 9 rfl (fun _=>Vd rfl X07 1)<|Ye 10 rfl (X0 rfl X0e (hB5.at 1)) ?_
 refine Yo 11 rfl (fun _=>X8 rfl) ?_
 have hr21:=((hr_c.below' hW).top).dropK Xq (c:=cc) hp_c (r.pos.toNat+r.old.length)
 refine Yo 12 rfl (fun _=>Xbv (l:=c.gs) (k:=(r.pos.toNat+r.old.length)) rfl rfl X02 X0o he.2.1 (by omega)) ?_
 refine Y1 13 ?_
 refine Yk rfl trivial (Xv (k:=3) (vs:=[.slice Ac (c.gs.take r.pos.toNat).length cc,.slice Br r.new.length dr,.slice (if cc=(r.pos.toNat+r.old.length) then Ac else Ac.map (·.add ((r.pos.toNat+r.old.length)*3))) (c.gs.drop (r.pos.toNat+r.old.length)).length (cc-(r.pos.toNat+r.old.length))]) (zs:=[.slice Ac (c.gs.take r.pos.toNat).length cc,.slice Br r.new.length dr,.slice (if cc=(r.pos.toNat+r.old.length) then Ac else Ac.map (·.add ((r.pos.toNat+r.old.length)*3))) (c.gs.drop (r.pos.toNat+r.old.length)).length (cc-(r.pos.toNat+r.old.length))]) rfl X7z Xn1 rfl rfl) (fun _ _ ⟨_,_,_,h,_⟩=>h) ?_;rintro _ w11 ⟨b22,rfl,hl22,hE,hB22⟩
 have hlo22:=Nat.le_trans hW.size hl22
 replace hB5:=hB5.below hE
 replace hB6:=hB6.below hE
 replace hB8:=hB8.below hE
 replace hr20:=hr20.below hE
 replace hr21:=hr21.below hE
 replace hW:=btr hW hE
 refine Y1 14 ?_
 refine Yk rfl trivial (Vc (Xsy _ [(⟨Ac,cc,(c.gs.take r.pos.toNat)⟩ : Sg),(⟨Br,dr,r.new⟩ : Sg),(⟨(if cc=(r.pos.toNat+r.old.length) then Ac else Ac.map (·.add ((r.pos.toNat+r.old.length)*3))),(cc-(r.pos.toNat+r.old.length)),(c.gs.drop (r.pos.toNat+r.old.length))⟩ : Sg)] (some ⟨b22,0,none⟩) 3 (Rd.of_blk hB22 rfl _ hB22.lt) (fun s hs=>by simp only [List.mem_cons,List.not_mem_nil,or_false] at hs;rcases hs with rfl|rfl|rfl;exact hr20.top;exact (hs_r.below' hW).top;exact hr21.top) (by simp) (by simp;omega)) Xn6) (fun _ _ ⟨A24,c24,_,ho24,hE⟩=>hE) ?_;rintro _ w12 ⟨A24,c24,rfl,ho24,hE⟩
 replace ho24:=ho24.lower hW.size
 replace hB5:=hB5.below hE
 replace hB6:=hB6.below hE
 replace hB8:=hB8.below hE
 replace hB22:=hB22.below hE
 replace hr20:=hr20.below hE
 replace hr21:=hr21.below hE
 replace hW:=btr hW hE
 refine Y1 15 ?_
 refine Yk rfl trivial (Vc (Xpx _ c.n A24 c24 (List.flatMap Sg.l [(⟨Ac,cc,(c.gs.take r.pos.toNat)⟩ : Sg),(⟨Br,dr,r.new⟩ : Sg),(⟨(if cc=(r.pos.toNat+r.old.length) then Ac else Ac.map (·.add ((r.pos.toNat+r.old.length)*3))),(cc-(r.pos.toNat+r.old.length)),(c.gs.drop (r.pos.toNat+r.old.length))⟩ : Sg)]) ho24.rd.top (by simp;omega)) Xg3) (fun _ _ ⟨A25,c25,_,ho25,hE⟩=>hE) ?_;rintro _ w13 ⟨A25,c25,rfl,ho25,hE⟩
 replace ho25:=ho25.lower hW.size
 replace hB5:=hB5.below hE
 replace hB6:=hB6.below hE
 replace hB8:=hB8.below hE
 replace hB22:=hB22.below hE
 replace hr20:=hr20.below hE
 replace hr21:=hr21.below hE
 replace ho24:=ho24.below hE
 replace hW:=btr hW hE
 refine Yo 16 rfl (fun _=>X6 (vs:=[.agg #[vi (((cIf ⟨c.n,(List.flatMap Sg.l [(⟨Ac,cc,(c.gs.take r.pos.toNat)⟩ : Sg),(⟨Br,dr,r.new⟩ : Sg),(⟨(if cc=(r.pos.toNat+r.old.length) then Ac else Ac.map (·.add ((r.pos.toNat+r.old.length)*3))),(cc-(r.pos.toNat+r.old.length)),(c.gs.drop (r.pos.toNat+r.old.length))⟩ : Sg)])⟩).getD cZ).n),.slice A25 (((cIf ⟨c.n,(List.flatMap Sg.l [(⟨Ac,cc,(c.gs.take r.pos.toNat)⟩ : Sg),(⟨Br,dr,r.new⟩ : Sg),(⟨(if cc=(r.pos.toNat+r.old.length) then Ac else Ac.map (·.add ((r.pos.toNat+r.old.length)*3))),(cc-(r.pos.toNat+r.old.length)),(c.gs.drop (r.pos.toNat+r.old.length))⟩ : Sg)])⟩).getD cZ).gs).length c25],.bool ((cIf ⟨c.n,(List.flatMap Sg.l [(⟨Ac,cc,(c.gs.take r.pos.toNat)⟩ : Sg),(⟨Br,dr,r.new⟩ : Sg),(⟨(if cc=(r.pos.toNat+r.old.length) then Ac else Ac.map (·.add ((r.pos.toNat+r.old.length)*3))),(cc-(r.pos.toNat+r.old.length)),(c.gs.drop (r.pos.toNat+r.old.length))⟩ : Sg)])⟩).isSome)]) rfl rfl)<|Yo 17 rfl (fun _=>X6 (vs:=[.agg #[vi (((cIf ⟨c.n,(List.flatMap Sg.l [(⟨Ac,cc,(c.gs.take r.pos.toNat)⟩ : Sg),(⟨Br,dr,r.new⟩ : Sg),(⟨(if cc=(r.pos.toNat+r.old.length) then Ac else Ac.map (·.add ((r.pos.toNat+r.old.length)*3))),(cc-(r.pos.toNat+r.old.length)),(c.gs.drop (r.pos.toNat+r.old.length))⟩ : Sg)])⟩).getD cZ).n),.slice A25 (((cIf ⟨c.n,(List.flatMap Sg.l [(⟨Ac,cc,(c.gs.take r.pos.toNat)⟩ : Sg),(⟨Br,dr,r.new⟩ : Sg),(⟨(if cc=(r.pos.toNat+r.old.length) then Ac else Ac.map (·.add ((r.pos.toNat+r.old.length)*3))),(cc-(r.pos.toNat+r.old.length)),(c.gs.drop (r.pos.toNat+r.old.length))⟩ : Sg)])⟩).getD cZ).gs).length c25],.bool ((cIf ⟨c.n,(List.flatMap Sg.l [(⟨Ac,cc,(c.gs.take r.pos.toNat)⟩ : Sg),(⟨Br,dr,r.new⟩ : Sg),(⟨(if cc=(r.pos.toNat+r.old.length) then Ac else Ac.map (·.add ((r.pos.toNat+r.old.length)*3))),(cc-(r.pos.toNat+r.old.length)),(c.gs.drop (r.pos.toNat+r.old.length))⟩ : Sg)])⟩).isSome)]) rfl rfl) ?_
 refine Y1 18 ?_
 refine Yh rfl trivial rfl (Vw [vi (((cIf ⟨c.n,(List.flatMap Sg.l [(⟨Ac,cc,(c.gs.take r.pos.toNat)⟩ : Sg),(⟨Br,dr,r.new⟩ : Sg),(⟨(if cc=(r.pos.toNat+r.old.length) then Ac else Ac.map (·.add ((r.pos.toNat+r.old.length)*3))),(cc-(r.pos.toNat+r.old.length)),(c.gs.drop (r.pos.toNat+r.old.length))⟩ : Sg)])⟩).getD cZ).n),.slice A25 (((cIf ⟨c.n,(List.flatMap Sg.l [(⟨Ac,cc,(c.gs.take r.pos.toNat)⟩ : Sg),(⟨Br,dr,r.new⟩ : Sg),(⟨(if cc=(r.pos.toNat+r.old.length) then Ac else Ac.map (·.add ((r.pos.toNat+r.old.length)*3))),(cc-(r.pos.toNat+r.old.length)),(c.gs.drop (r.pos.toNat+r.old.length))⟩ : Sg)])⟩).getD cZ).gs).length c25] X1j hB8) ?_;rintro _ w14 ⟨ho,hb⟩
 have hold:=hB8
 replace hB5:=hB5.only ho (by omega)
 replace hB6:=hB6.only ho (Blk.ne hB6 hold rfl)
 replace hB22:=hB22.only ho (Blk.ne hB22 hold rfl)
 replace hr20:=hr20.onlyT ho hold rfl
 replace hr21:=hr21.onlyT ho hold rfl
 replace ho24:=ho24.onlyT ho hold rfl
 replace ho25:=ho25.onlyT ho hold rfl
 replace hW:=Below.only hW ho hlo8
 clear hold
 have hB8:=hb
 clear hb ho
 refine Yo 19 rfl (fun _=>X0p rfl) ?_
 refine Yd fun a hf=>?_
 refine hK19 _ _ ?_
 refine wp_ret (X2 hf (X0q hf rfl (ResV.cellN (l:=[vi (((cIf ⟨c.n,(List.flatMap Sg.l [(⟨Ac,cc,(c.gs.take r.pos.toNat)⟩ : Sg),(⟨Br,dr,r.new⟩ : Sg),(⟨(if cc=(r.pos.toNat+r.old.length) then Ac else Ac.map (·.add ((r.pos.toNat+r.old.length)*3))),(cc-(r.pos.toNat+r.old.length)),(c.gs.drop (r.pos.toNat+r.old.length))⟩ : Sg)])⟩).getD cZ).n),.slice A25 (((cIf ⟨c.n,(List.flatMap Sg.l [(⟨Ac,cc,(c.gs.take r.pos.toNat)⟩ : Sg),(⟨Br,dr,r.new⟩ : Sg),(⟨(if cc=(r.pos.toNat+r.old.length) then Ac else Ac.map (·.add ((r.pos.toNat+r.old.length)*3))),(cc-(r.pos.toNat+r.old.length)),(c.gs.drop (r.pos.toNat+r.old.length))⟩ : Sg)])⟩).getD cZ).gs).length c25]) rfl X0c (hB8.at 0) rfl) rfl) ?_)
 rw [hfin]
 exact ⟨A25,c25,rfl,ho25,hW⟩
end Go.Proofs.YtfgnmflfiobkmaaGreat
set_option maxRecDepth 4000
namespace Go.Proofs.YtfgnmflfiobkmaaGreat
open Go.RowKit
theorem F64(w0:World)(p:Cx)(Ap:Option Addr)(cp:Nat)(hr_p:Rd w0 w0.heap.size 107 encG Ap p.gs)(q:Cx)(Aq:Option Addr)(cq:Nat)(hr_q:Rd w0 w0.heap.size 107 encG Aq q.gs)(hln:p.gs.length≤2305843009213693951) : Ret Tryz.prog 64 [.agg #[vi p.n,.slice Ap p.gs.length cp],.agg #[vi q.n,.slice Aq q.gs.length cq]] w0 (fun v w=>v=.bool (eqC p q)∧Below w0.heap.size w0 w):=by
 refine enter Tryz.func64 rfl 38 rfl rfl ?_
 intro a hf
 have hW:Below w0.heap.size w0 w0:=Below.refl _ _
 refine Zs hf fun _ hK3=>?_
 refine Zf (Xu (zs:=[vi p.n,.slice Ap p.gs.length cp]) rfl rfl) ?_;rintro _ w1 ⟨b4,rfl,hl4,hE,hB4⟩
 have hlo4:=Nat.le_trans hW.size hl4
 replace hW:=btr hW hE
 refine Zf (Xu (zs:=[vi q.n,.slice Aq q.gs.length cq]) rfl rfl) ?_;rintro _ w2 ⟨b5,rfl,hl5,hE,hB5⟩
 have hne4_5:b4≠b5:=by have:=hB4.lt;omega
 have hlo5:=Nat.le_trans hW.size hl5
 replace hB4:=hB4.below hE
 replace hW:=btr hW hE
 refine Za rfl ?_
 refine Zt hK3 fun a hf=>?_
 refine wp_seq_k fun _ hK6=>?_
 refine wp_seq_k fun _ hK7=>?_
 refine X06 (fun a w=>Fr a 38 [(2,.pointer (some ⟨b4,0,none⟩)),(3,.pointer (some ⟨b5,0,none⟩)),(19,.bool ((p.n != q.n)||((p.gs.length:Int) != (q.gs.length:Int))))]∧w2=w) ?_ ?_
 ·refine Zr hf ?_
  refine Ze (Vd rfl X0t 0)<|Ze (X0 rfl X5 (hB4.at 0))<|Ze (Vd rfl X0t 0)<|Ze (X0 rfl X5 (hB5.at 0))<|Ze (X1g rfl rfl) ?_
  refine Zm rfl ?_
  refine Zg 11 rfl (fun hg8=>?_) (fun hg8=>?_)
  ·refine Zp ⟨_,_,rfl,rfl,hg8⟩ ?_
   refine Zp ⟨_,_,rfl,rfl,hg8⟩ ?_
   refine Zp ⟨_,_,rfl,rfl,hg8⟩ ?_
   refine Zp ⟨_,_,rfl,rfl,hg8⟩ ?_
   refine Zp ⟨_,_,rfl,rfl,hg8⟩ ?_
   refine Zp ⟨_,_,rfl,rfl,hg8⟩ ?_
   refine Zp ⟨_,_,rfl,rfl,hg8⟩ ?_
   refine Ze (X9 rfl hg8 rfl) ?_
   refine Zn fun a hf=>?_
   exact ⟨hf.sub ⟨rfl,rfl,X1 rfl (by first|rfl|(simp only [hg8,bs];done)|simp [hg8]),trivial⟩,rfl⟩
  refine Zv ⟨_,_,rfl,rfl,hg8⟩ (Vd rfl X07 1) ?_
  refine Zv ⟨_,_,rfl,rfl,hg8⟩ (X0 rfl X0e (hB4.at 1)) ?_
  refine Zv ⟨_,_,rfl,rfl,hg8⟩ (X0d rfl X02) ?_
  refine Zv ⟨_,_,rfl,rfl,hg8⟩ (Vd rfl X07 1) ?_
  refine Zv ⟨_,_,rfl,rfl,hg8⟩ (X0 rfl X0e (hB5.at 1)) ?_
  refine Zv ⟨_,_,rfl,rfl,hg8⟩ (X0d rfl X02) ?_
  refine Zv ⟨_,_,rfl,rfl,hg8⟩ (X1g rfl rfl) ?_
  refine Ze (X7 rfl hg8 rfl) ?_
  refine Zn fun a hf=>?_
  exact ⟨hf.sub ⟨rfl,rfl,X1 rfl (by first|rfl|(simp only [hg8,bs];done)|simp [hg8]),trivial⟩,rfl⟩
 rintro a _ ⟨hf,rfl⟩
 refine hK7 _ _ ?_
 refine Xb hf rfl (fun hc9=>?_) (fun hc9=>?_)
 ·have hc9b:=hc9
  have hne:eqC p q=false:=by unfold eqC;revert hc9;by_cases e1:p.n=q.n<;>by_cases e2:p.gs=q.gs<;>simp [e1,e2]
  refine Zs hf fun _ hK10=>?_
  refine Za rfl ?_
  refine Zt hK10 fun a hf=>?_
  refine wp_ret ?_
  refine X3 ?_
  refine X2 hf (Xh hf rfl rfl) ?_
  exact ⟨by rw [hne],hW⟩
 have hc9b:=hc9
 have hnl:p.n=q.n∧p.gs.length=q.gs.length:=by revert hc9;by_cases e1:p.n=q.n<;>simp [e1];omega
 refine wp_skip ?_
 refine hK6 _ _ ?_
 refine wp_seq_k fun _ hK11=>?_
 refine Zs hf fun _ hK12=>?_
 refine Ze (Vd rfl X07 1)<|Ze (X0 rfl X0e (hB4.at 1))<|Ze (X0d rfl X02)<|Zm rfl ?_
 refine Zt hK12 fun a hf=>?_
 refine wp_block ?_
 refine X04 (σ:=Nat) (fun (k:Nat) (a:Act) (w:World)=>Fr a 38 [(2,.pointer (some ⟨b4,0,none⟩)),(3,.pointer (some ⟨b5,0,none⟩)),(22,vi (p.gs.length:Int)),(23,vi (k:Int))]∧(k≤p.gs.length)∧(p.gs.take k=q.gs.take k)∧Blk w b4 41 [vi p.n,.slice Ap p.gs.length cp]∧Blk w b5 41 [vi q.n,.slice Aq q.gs.length cq]∧Below w0.heap.size w0 w) (fun (k:Nat)=>p.gs.length-k) 0 ?_ ?_
 · exact ⟨hf.sub ⟨rfl,rfl,rfl,rfl,trivial⟩,(Nat.zero_le _),(by simp),hB4,hB5,hW⟩
 rintro k a w3 ⟨hf,hk,hpre,hB4,hB5,hW⟩
 refine Zs hf fun _ hK13=>?_
 refine Ze (X0m rfl rfl) ?_
 refine Zt hK13 fun a hf=>?_
 refine wp_seq_k fun _ hK14=>?_
 refine Xb hf rfl (fun hc15=>?_) (fun hc15=>?_)
 ·have hc15b:=hc15
  have hc15:=of_decide_eq_true hc15
  obtain ⟨u16,hu16⟩:=Xf (l:=p.gs) (k:=k) (by omega)
  obtain ⟨v9,hv9⟩:=Xf (l:=q.gs) (k:=k) (by omega)
  refine wp_skip ?_
  refine hK14 _ _ ?_
  refine wp_seq_k fun _ hK17=>?_
  refine wp_block ?_
  refine Zs hf fun _ hK18=>?_
  refine Zm rfl<|Za rfl ?_
  refine Zt hK18 fun a hf=>?_
  refine wp_seq_k fun _ hK19=>?_
  refine X05 none (fun _=>false) mixed ?_
  intro w4 hE
  replace hB4:=hB4.below hE
  replace hB5:=hB5.below hE
  replace hW:=btr hW hE
  refine Yb hf ?_
  refine Yo 0 rfl (fun _=>Vd rfl X07 1)<|Ye 1 rfl (X0 rfl X0e (hB4.at 1))<|Yo 2 rfl (fun _=>X8 rfl) ?_
  refine Yi (k:=k) (u:=u16) (enc:=encG) (l:=p.gs) 3 rfl trivial rfl rfl X02 X0o Xq (hr_p.below' hW) hu16 rfl ?_;intro p21 hat20
  refine Ye 4 rfl (Xi (l:=[vi u16.k,vi u16.a,vi u16.b]) rfl X0k hat20 rfl)<|Yo 5 rfl (fun _=>Vd rfl X07 1)<|Ye 6 rfl (X0 rfl X0e (hB5.at 1))<|Yo 7 rfl (fun _=>X8 rfl) ?_
  refine Yi (k:=k) (u:=v9) (enc:=encG) (l:=q.gs) 8 rfl trivial rfl rfl X02 X0o Xq (hr_q.below' hW) hv9 rfl ?_;intro p23 hat22
  refine Ye 9 rfl (Xi (l:=[vi v9.k,vi v9.a,vi v9.b]) rfl X0k hat22 rfl)<|Yo 10 rfl (fun _=>Xaw rfl rfl Xc8 (fun w=>Xcr 9998 u16 v9 w)) ?_
  refine Yd fun a hf=>?_
  refine hK19 _ _ ?_
  refine Xb hf rfl (fun hc24=>?_) (fun hc24=>?_)
  ·have hc24b:=hc24
   have hne:eqC p q=false:=by have h8:¬ p.gs=q.gs:=(by intro e8;rw [e8] at hu16;rw [hu16] at hv9;injection hv9 with e9;revert hc24;simp [e9]);unfold eqC;simp [h8]
   refine Zs hf fun _ hK25=>?_
   refine Za rfl ?_
   refine Zt hK25 fun a hf=>?_
   refine wp_ret ?_
   refine Xj ?_
   refine X3 ?_
   refine X3 ?_
   refine Xj ?_
   refine X3 ?_
   refine X2 hf (Xh hf rfl rfl) ?_
   exact ⟨by rw [hne],hW⟩
  have hc24b:=hc24
  have he9:u16=v9:=by revert hc24;simp
  refine wp_skip ?_
  refine Xn ?_
  refine hK17 _ _ ?_
  refine Zr hf ?_
  refine Ze (Xy rfl rfl (by omega) (by omega))<|Zm rfl ?_
  refine Zn fun a hf=>?_
  refine Xk ?_
  exact ⟨k+1,⟨hf.sub ⟨rfl,rfl,rfl,rfl,trivial⟩,(by omega),(X31 hpre hu16 hv9 he9),hB4,hB5,hW⟩,(by omega)⟩
 have hc15b:=hc15
 have hc15:=of_decide_eq_false hc15
 refine wp_exit ?_
 refine Xm ?_
 refine Xm ?_
 refine X03 ?_
 refine hK11 _ _ ?_
 refine Zs hf fun _ hK26=>?_
 refine Za rfl ?_
 refine Zt hK26 fun a hf=>?_
 refine wp_ret (X2 hf (Xh hf rfl rfl) ?_)
 have he:p.gs=q.gs:=by rw [List.take_of_length_le (by omega),List.take_of_length_le (by omega)] at hpre;exact hpre
 exact ⟨by simp [eqC,he,hnl.1],hW⟩
theorem F63(w0:World)(c:Cx)(Ac:Option Addr)(cc:Nat)(hr_c:Rd w0 w0.heap.size 107 encG Ac c.gs)(hp_c:c.gs.length≤cc)(r:Rp)(Ar:Option Addr)(cr:Nat)(hr_r:Rd w0 w0.heap.size 107 encG Ar r.old)(Br:Option Addr)(dr:Nat)(hs_r:Rd w0 w0.heap.size 107 encG Br r.new)(hlc:c.gs.length≤100000000)(hla:r.old.length≤100000000)(hlb:r.new.length≤100000000) : Ret Tryz.prog 63 [.agg #[vi c.n,.slice Ac c.gs.length cc],.agg #[vi r.pos,.slice Ar r.old.length cr,.slice Br r.new.length dr]] w0 (fun v w=>∃ A c1,v=.tuple #[.agg #[vi ((applyS c r).getD cZ).n,.slice A ((applyS c r).getD cZ).gs.length c1],.bool (applyS c r).isSome]∧Own w w0.heap.size 107 3 encG A c1 ((applyS c r).getD cZ).gs∧Below w0.heap.size w0 w):=by
 refine enter Tryz.func63 rfl 91 rfl rfl ?_
 intro a hf
 have hW:Below w0.heap.size w0 w0:=Below.refl _ _
 refine Zs hf fun _ hK4=>?_
 refine Zf (Xu (zs:=[vi c.n,.slice Ac c.gs.length cc]) rfl rfl) ?_;rintro _ w1 ⟨b5,rfl,hl5,hE,hB5⟩
 have hlo5:=Nat.le_trans hW.size hl5
 replace hW:=btr hW hE
 refine Zf (Xu (zs:=[vi r.pos,.slice Ar r.old.length cr,.slice Br r.new.length dr]) rfl rfl) ?_;rintro _ w2 ⟨b6,rfl,hl6,hE,hB6⟩
 have hlo6:=Nat.le_trans hW.size hl6
 replace hB5:=hB5.below hE
 replace hW:=btr hW hE
 refine Zf (Xa (zs:=[vi 0,.slice none 0 0]) X3n rfl) ?_;rintro _ w3 ⟨b8,rfl,hl8,hE,hB8⟩
 have hne5_8:b5≠b8:=by have:=hB5.lt;omega
 have hlo8:=Nat.le_trans hW.size hl8
 replace hB5:=hB5.below hE
 replace hB6:=hB6.below hE
 replace hW:=btr hW hE
 refine Za rfl ?_
 refine Zt hK4 fun a hf=>?_
 refine wp_seq_k fun _ hK9=>?_
 refine wp_seq_k fun _ hK10=>?_
 refine X06 (fun a w=>Fr a 91 [(2,.pointer (some ⟨b5,0,none⟩)),(3,.pointer (some ⟨b6,0,none⟩)),(4,.pointer (some ⟨b8,0,none⟩)),(39,.bool (((!(validS c.n r))||(decide ((c.gs.length:Int)<(wr (r.pos+(r.old.length:Int))))))||(decide (400<(((c.gs.length:Int)-(r.old.length:Int))+(r.new.length:Int))))))]∧Below w3.heap.size w3 w) ?_ ?_
 ·have hEc:Below w3.heap.size w3 w3:=Below.refl _ _
  refine Zr hf ?_
  refine Ze (Vd rfl X0t 0)<|Ze (X0 rfl X5 (hB5.at 0))<|Ze (Vn X2u hB6) ?_
  refine Zf (Vc (F43 _ c.n r Ar cr (hr_r.below' hW).top Br dr (hs_r.below' hW).top (by omega) (by omega)) Xkd) ?_;rintro _ w4 ⟨rfl,hE⟩
  replace hB5:=hB5.below hE
  replace hB6:=hB6.below hE
  replace hB8:=hB8.below hE
  replace hW:=btr hW hE
  replace hEc:=btr hEc hE
  refine Ze (X09 rfl)<|Zm rfl ?_
  refine Zg 14 rfl (fun hg11=>?_) (fun hg11=>?_)
  ·refine Zp ⟨_,_,rfl,rfl,hg11⟩ ?_
   refine Zp ⟨_,_,rfl,rfl,hg11⟩ ?_
   refine Zp ⟨_,_,rfl,rfl,hg11⟩ ?_
   refine Zp ⟨_,_,rfl,rfl,hg11⟩ ?_
   refine Zp ⟨_,_,rfl,rfl,hg11⟩ ?_
   refine Zp ⟨_,_,rfl,rfl,hg11⟩ ?_
   refine Zp ⟨_,_,rfl,rfl,hg11⟩ ?_
   refine Zp ⟨_,_,rfl,rfl,hg11⟩ ?_
   refine Zp ⟨_,_,rfl,rfl,hg11⟩ ?_
   refine Zp ⟨_,_,rfl,rfl,hg11⟩ ?_
   refine Ze (X9 rfl hg11 rfl)<|Zm rfl<|Zp ⟨_,_,rfl,rfl,rfl⟩ ?_
   refine Zp ⟨_,_,rfl,rfl,rfl⟩ ?_
   refine Zp ⟨_,_,rfl,rfl,rfl⟩ ?_
   refine Zp ⟨_,_,rfl,rfl,rfl⟩ ?_
   refine Zp ⟨_,_,rfl,rfl,rfl⟩ ?_
   refine Zp ⟨_,_,rfl,rfl,rfl⟩ ?_
   refine Zp ⟨_,_,rfl,rfl,rfl⟩ ?_
   refine Zp ⟨_,_,rfl,rfl,rfl⟩ ?_
   refine Zp ⟨_,_,rfl,rfl,rfl⟩ ?_
   refine Zp ⟨_,_,rfl,rfl,rfl⟩ ?_
   refine Zp ⟨_,_,rfl,rfl,rfl⟩ ?_
   refine Zp ⟨_,_,rfl,rfl,rfl⟩ ?_
   refine Ze (X9 rfl rfl rfl) ?_
   refine Zn fun a hf=>?_
   have hEE:Below w3.heap.size w3 w4:=hEc
   exact ⟨hf.sub ⟨rfl,rfl,rfl,X1 rfl (by first|rfl|(simp only [hg11,bs];done)|simp [hg11]),trivial⟩,hEE⟩
  refine Zv ⟨_,_,rfl,rfl,hg11⟩ (Vd rfl X28 0) ?_
  refine Zv ⟨_,_,rfl,rfl,hg11⟩ (X0 rfl X5 (hB6.at 0)) ?_
  refine Zv ⟨_,_,rfl,rfl,hg11⟩ (Vd rfl X1o 1) ?_
  refine Zv ⟨_,_,rfl,rfl,hg11⟩ (X0 rfl X0e (hB6.at 1)) ?_
  refine Zv ⟨_,_,rfl,rfl,hg11⟩ (X0d rfl X02) ?_
  refine Zv ⟨_,_,rfl,rfl,hg11⟩ (X22 rfl rfl) ?_
  refine Zv ⟨_,_,rfl,rfl,hg11⟩ (Vd rfl X07 1) ?_
  refine Zv ⟨_,_,rfl,rfl,hg11⟩ (X0 rfl X0e (hB5.at 1)) ?_
  refine Zv ⟨_,_,rfl,rfl,hg11⟩ (X0d rfl X02) ?_
  refine Zv ⟨_,_,rfl,rfl,hg11⟩ (X42 rfl rfl) ?_
  refine Ze (X7 rfl hg11 rfl)<|Zm rfl ?_
  refine Zg 26 rfl (fun hg12=>?_) (fun hg12=>?_)
  ·refine Zp ⟨_,_,rfl,rfl,hg12⟩ ?_
   refine Zp ⟨_,_,rfl,rfl,hg12⟩ ?_
   refine Zp ⟨_,_,rfl,rfl,hg12⟩ ?_
   refine Zp ⟨_,_,rfl,rfl,hg12⟩ ?_
   refine Zp ⟨_,_,rfl,rfl,hg12⟩ ?_
   refine Zp ⟨_,_,rfl,rfl,hg12⟩ ?_
   refine Zp ⟨_,_,rfl,rfl,hg12⟩ ?_
   refine Zp ⟨_,_,rfl,rfl,hg12⟩ ?_
   refine Zp ⟨_,_,rfl,rfl,hg12⟩ ?_
   refine Zp ⟨_,_,rfl,rfl,hg12⟩ ?_
   refine Zp ⟨_,_,rfl,rfl,hg12⟩ ?_
   refine Zp ⟨_,_,rfl,rfl,hg12⟩ ?_
   refine Ze (X9 rfl hg12 rfl) ?_
   refine Zn fun a hf=>?_
   have hEE:Below w3.heap.size w3 w4:=hEc
   exact ⟨hf.sub ⟨rfl,rfl,rfl,X1 rfl (by first|rfl|(simp only [hg11,hg12,bs];done)|simp [hg11,hg12]),trivial⟩,hEE⟩
  refine Zv ⟨_,_,rfl,rfl,hg12⟩ (Vd rfl X07 1) ?_
  refine Zv ⟨_,_,rfl,rfl,hg12⟩ (X0 rfl X0e (hB5.at 1)) ?_
  refine Zv ⟨_,_,rfl,rfl,hg12⟩ (X0d rfl X02) ?_
  refine Zv ⟨_,_,rfl,rfl,hg12⟩ (Vd rfl X1o 1) ?_
  refine Zv ⟨_,_,rfl,rfl,hg12⟩ (X0 rfl X0e (hB6.at 1)) ?_
  refine Zv ⟨_,_,rfl,rfl,hg12⟩ (X0d rfl X02) ?_
  refine Zv ⟨_,_,rfl,rfl,hg12⟩ (X11 rfl rfl (by omega) (by omega)) ?_
  refine Zv ⟨_,_,rfl,rfl,hg12⟩ (Vd rfl X21 2) ?_
  refine Zv ⟨_,_,rfl,rfl,hg12⟩ (X0 rfl X0e (hB6.at 2)) ?_
  refine Zv ⟨_,_,rfl,rfl,hg12⟩ (X0d rfl X02) ?_
  refine Zv ⟨_,_,rfl,rfl,hg12⟩ (Xy rfl rfl (by omega) (by omega)) ?_
  refine Zv ⟨_,_,rfl,rfl,hg12⟩ (X42 rfl rfl) ?_
  refine Ze (X7 rfl hg12 rfl) ?_
  refine Zn fun a hf=>?_
  have hEE:Below w3.heap.size w3 w4:=hEc
  exact ⟨hf.sub ⟨rfl,rfl,rfl,X1 rfl (by first|rfl|(simp only [hg11,hg12,bs];done)|simp [hg11,hg12]),trivial⟩,hEE⟩
 rintro a w5 ⟨hf,hE⟩
 replace hB5:=hB5.below hE
 replace hB6:=hB6.below hE
 replace hB8:=hB8.below hE
 replace hW:=btr hW hE
 refine hK10 _ _ ?_
 refine Xb hf rfl (fun hc13=>?_) (fun hc13=>?_)
 ·have hc13b:=hc13
  have hfin:=Xc4 hc13
  refine Zs hf fun _ hK14=>?_
  refine Ze (X01 (ps:=[]) (cs:=[vi 0,.slice none 0 0]) rfl (fun _=>by first|rfl|kernel_rfl)) ?_
  refine Zo (Vw [vi 0,.slice none 0 0] X1j hB8) ?_;rintro _ w6 ⟨ho,hb⟩
  have hold:=hB8
  replace hB5:=hB5.only ho (by omega)
  replace hB6:=hB6.only ho (Blk.ne hB6 hold rfl)
  replace hW:=Below.only hW ho hlo8
  clear hold
  have hB8:=hb
  clear hb ho
  refine Za rfl ?_
  refine Zt hK14 fun a hf=>?_
  refine wp_ret ?_
  refine X3 ?_
  refine X2 hf (X0q hf rfl (ResV.cellN (l:=[vi 0,.slice none 0 0]) rfl X0c (hB8.at 0) rfl) rfl) ?_
  rw [hfin]
  exact ⟨none,0,rfl,(Own.nil _ _ _ _ _),hW⟩
 have hc13b:=hc13
 obtain ⟨hfit,hv,hle⟩:=Xef hc13
 have he:=X4e (n:=c.n) (r:=r) (by rw [hv];rfl)
 refine wp_skip ?_
 refine hK9 _ _ ?_
 refine wp_seq_k fun _ hK16=>?_
 refine Zs hf fun _ hK17=>?_
 refine Ze (Vd rfl X1o 1)<|Ze (X0 rfl X0e (hB6.at 1))<|Ze (X0d rfl X02)<|Zm rfl ?_
 refine Zt hK17 fun a hf=>?_
 refine wp_block ?_
 refine X04 (σ:=Nat) (fun (k:Nat) (a:Act) (w:World)=>Fr a 91 [(2,.pointer (some ⟨b5,0,none⟩)),(3,.pointer (some ⟨b6,0,none⟩)),(4,.pointer (some ⟨b8,0,none⟩)),(42,.slice Ar r.old.length cr),(43,vi (r.old.length:Int)),(44,vi (k:Int))]∧(k≤r.old.length)∧((c.gs.drop r.pos.toNat).take k=r.old.take k)∧Blk w b5 41 [vi c.n,.slice Ac c.gs.length cc]∧Blk w b6 30 [vi r.pos,.slice Ar r.old.length cr,.slice Br r.new.length dr]∧Blk w b8 41 [vi 0,.slice none 0 0]∧c.gs.length≤cc∧Below w0.heap.size w0 w) (fun (k:Nat)=>r.old.length-k) 0 ?_ ?_
 · exact ⟨hf.sub ⟨rfl,rfl,rfl,rfl,rfl,rfl,trivial⟩,(Nat.zero_le _),(by simp),hB5,hB6,hB8,hp_c,hW⟩
 rintro k a w7 ⟨hf,hk,hpre,hB5,hB6,hB8,hp_c,hW⟩
 refine Zs hf fun _ hK18=>?_
 refine Ze (X0m rfl rfl) ?_
 refine Zt hK18 fun a hf=>?_
 refine wp_seq_k fun _ hK19=>?_
 refine Xb hf rfl (fun hc20=>?_) (fun hc20=>?_)
 ·have hc20b:=hc20
  have hc20:=of_decide_eq_true hc20
  obtain ⟨u21,hu21⟩:=Xf (l:=r.old) (k:=k) (by omega)
  obtain ⟨v9,hv9⟩:=Xf (l:=c.gs) (k:=r.pos.toNat+k) (by omega)
  refine wp_skip ?_
  refine hK19 _ _ ?_
  refine wp_seq_k fun _ hK22=>?_
  refine wp_block ?_
  refine Zs hf fun _ hK23=>?_
  refine Zm rfl ?_
  refine Zi (k:=k) (u:=u21) (enc:=encG) (l:=r.old) trivial rfl rfl X02 X0o Xq (hr_r.below' hW) hu21 rfl ?_;intro p25 hat24
  refine Ze (Xi (l:=[vi u21.k,vi u21.a,vi u21.b]) rfl X0k hat24 rfl) ?_
  refine Zf (Xa (zs:=[vi 0,vi 0,vi 0]) X39 rfl) ?_;rintro _ w8 ⟨b26,rfl,hl26,hE,hB26⟩
  have hlo26:=Nat.le_trans hW.size hl26
  have haw1_26:=(hr_c.below' hW).away hl26
  have haw2_26:=(hr_r.below' hW).away hl26
  have haw3_26:=(hs_r.below' hW).away hl26
  replace hB5:=hB5.below hE
  replace hB6:=hB6.below hE
  replace hB8:=hB8.below hE
  replace hW:=btr hW hE
  refine Za rfl ?_
  refine Zo (Vw [vi u21.k,vi u21.a,vi u21.b] X0o hB26) ?_;rintro _ w9 ⟨ho,hb⟩
  have hold:=hB26
  replace hB5:=hB5.only ho (Blk.ne hB5 hold rfl)
  replace hB6:=hB6.only ho (Blk.ne hB6 hold rfl)
  replace hB8:=hB8.only ho (Blk.ne hB8 hold rfl)
  replace hW:=Below.only hW ho hlo26
  clear hold
  have hB26:=hb
  clear hb ho
  refine Zt hK23 fun a hf=>?_
  refine wp_seq_k fun _ hK27=>?_
  refine X05 none (fun _=>false) mixed ?_
  intro w10 hE
  replace hB5:=hB5.below hE
  replace hB6:=hB6.below hE
  replace hB8:=hB8.below hE
  replace hB26:=hB26.below hE
  replace hW:=btr hW hE
  refine Yb hf ?_
  refine Yo 0 rfl (fun _=>Vd rfl X07 1)<|Ye 1 rfl (X0 rfl X0e (hB5.at 1))<|Yo 2 rfl (fun _=>Vd rfl X28 0)<|Ye 3 rfl (X0 rfl X5 (hB6.at 0))<|Yo 4 rfl (fun _=>X8 rfl) ?_
  refine Yo 5 rfl (fun _=>Xy rfl rfl (by omega) (by omega)) ?_
  refine Yi (k:=(r.pos.toNat+k)) (u:=v9) (enc:=encG) (l:=c.gs) 6 rfl trivial rfl rfl X02 X0o Xq (hr_c.below' hW) hv9 (by omega) ?_;intro p29 hat28
  refine Ye 7 rfl (Xi (l:=[vi v9.k,vi v9.a,vi v9.b]) rfl X0k hat28 rfl)<|Ye 8 rfl (Vn X0k hB26)<|Yo 9 rfl (fun _=>Xaw rfl rfl Xc8 (fun w=>Xcr 9998 v9 u21 w)) ?_
  refine Yd fun a hf=>?_
  refine hK27 _ _ ?_
  refine Xb hf rfl (fun hc30=>?_) (fun hc30=>?_)
  ·have hc30b:=hc30
   have hfin:applyS c r=none:=Xbd (Xit hu21 hv9 (by revert hc30;simp))
   refine Zs hf fun _ hK31=>?_
   refine Ze (X01 (ps:=[]) (cs:=[vi 0,.slice none 0 0]) rfl (fun _=>by first|rfl|kernel_rfl)) ?_
   refine Zo (Vw [vi 0,.slice none 0 0] X1j hB8) ?_;rintro _ w11 ⟨ho,hb⟩
   have hold:=hB8
   replace hB5:=hB5.only ho (by omega)
   replace hB6:=hB6.only ho (Blk.ne hB6 hold rfl)
   replace hW:=Below.only hW ho hlo8
   clear hold
   have hB8:=hb
   clear hb ho
   refine Za rfl ?_
   refine Zt hK31 fun a hf=>?_
   refine wp_ret ?_
   refine Xj ?_
   refine X3 ?_
   refine X3 ?_
   refine Xj ?_
   refine X3 ?_
   refine X2 hf (X0q hf rfl (ResV.cellN (l:=[vi 0,.slice none 0 0]) rfl X0c (hB8.at 0) rfl) rfl) ?_
   rw [hfin]
   exact ⟨none,0,rfl,(Own.nil _ _ _ _ _),hW⟩
  have hc30b:=hc30
  have he9:v9=u21:=by revert hc30;simp
  refine wp_skip ?_
  refine Xn ?_
  refine hK22 _ _ ?_
  refine Zr hf ?_
  refine Ze (Xy rfl rfl (by omega) (by omega))<|Zm rfl ?_
  refine Zn fun a hf=>?_
  refine Xk ?_
  exact ⟨k+1,⟨hf.sub ⟨rfl,rfl,rfl,rfl,rfl,rfl,trivial⟩,(by omega),(Xe6 hpre hu21 hv9 he9),hB5,hB6,hB8,hp_c,hW⟩,(by omega)⟩
 have hc20b:=hc20
 have hc20:=of_decide_eq_false hc20
 have hk1:k=r.old.length:=by omega
 have hfin:applyS c r=some (midS c r):=Xao hfit (Xf5 (by rw [hk1] at hpre;exact hpre))
 refine wp_exit ?_
 refine Xm ?_
 refine Xm ?_
 refine X03 ?_
 refine hK16 _ _ ?_
 refine wp_seq_k fun _ hK33=>?_
 refine X06 (fun a w=>∃ b40 A37 c37,Fr a 91 [(2,.pointer (some ⟨b5,0,none⟩)),(3,.pointer (some ⟨b6,0,none⟩)),(4,.pointer (some ⟨b8,0,none⟩)),(8,.pointer (some ⟨b40,0,none⟩))]∧w0.heap.size≤b40∧Blk w b40 41 [vi c.n,.slice A37 (c.gs.take r.pos.toNat).length c37]∧b5≠b40∧b8≠b40∧Own w w0.heap.size 107 3 encG A37 c37 (c.gs.take r.pos.toNat)∧Below w7.heap.size w7 w) ?_ ?_
 ·have hEc:Below w7.heap.size w7 w7:=Below.refl _ _
  refine X05 none (fun j=>[11].contains j) mixed ?_
  intro w12 hE
  replace hB5:=hB5.below hE
  replace hB6:=hB6.below hE
  replace hB8:=hB8.below hE
  replace hW:=btr hW hE
  replace hEc:=btr hEc hE
  refine Yb hf ?_
  refine Yo 0 rfl (fun _=>Vd rfl X0t 0)<|Ye 1 rfl (X0 rfl X5 (hB5.at 0))<|Yo 3 rfl (fun _=>Vd rfl X07 1)<|Ye 4 rfl (X0 rfl X0e (hB5.at 1))<|Yo 5 rfl (fun _=>Vd rfl X28 0) ?_
  refine Ye 6 rfl (X0 rfl X5 (hB6.at 0)) ?_
  have hr34:=((hr_c.below' hW).top).takeK Xq r.pos.toNat
  refine Yo 7 rfl (fun _=>X6h (l:=c.gs) (k:=r.pos.toNat) rfl rfl X02 X0o he.1 (by omega) hp_c) ?_
  have hJc:Below w12.heap.size w12 w12:=Below.refl _ _
  refine Yc [0,1,2,3,4,5,6,7,8,9,10] 1 (fun a w=>∃ b40 A37 c37,Fr a 91 [(2,.pointer (some ⟨b5,0,none⟩)),(3,.pointer (some ⟨b6,0,none⟩)),(4,.pointer (some ⟨b8,0,none⟩)),(8,.pointer (some ⟨b40,0,none⟩)),(70,.agg #[vi c.n,.slice A37 (c.gs.take r.pos.toNat).length c37])]∧w0.heap.size≤b40∧Blk w b40 41 [vi 0,.slice none 0 0]∧b5≠b40∧b8≠b40∧w12.heap.size≤b40∧w7.heap.size≤b40∧Own w w0.heap.size 107 3 encG A37 c37 (c.gs.take r.pos.toNat)∧Below w12.heap.size w12 w) ?_ ?_
  ·rintro a w13 ⟨b40,A37,c37,hf,hlo40,hB40,hne5_40,hne8_40,hlj40,hlc40,ho37,hE⟩
   clear hJc
   have hJc:=hE
   replace hB5:=hB5.below hE
   replace hB6:=hB6.below hE
   replace hB8:=hB8.below hE
   replace hr34:=hr34.below hE
   replace hW:=btr hW hE
   replace hEc:=btr hEc hE
   refine Yb hf ?_
   refine Y1 11 ?_
   refine Yh rfl trivial rfl (Vw [vi c.n,.slice A37 (c.gs.take r.pos.toNat).length c37] X1j hB40) ?_;rintro _ w14 ⟨ho,hb⟩
   have hold:=hB40
   replace hB5:=hB5.only ho (by omega)
   replace hB6:=hB6.only ho (Blk.ne hB6 hold rfl)
   replace hB8:=hB8.only ho (by omega)
   replace hr34:=hr34.onlyT ho hold rfl
   replace ho37:=ho37.onlyT ho hold rfl
   replace hEc:=Below.only hEc ho hlc40
   replace hJc:=Below.only hJc ho hlj40
   replace hW:=Below.only hW ho hlo40
   clear hold
   have hB40:=hb
   clear hb ho
   refine Yd fun a hf=>?_
   have hEE:Below w7.heap.size w7 w14:=hEc
   exact ⟨b40,A37,c37,hf.sub ⟨rfl,rfl,rfl,rfl,trivial⟩,hlo40,hB40,hne5_40,hne8_40,ho37,hEE⟩
  intro hJ35
  refine Yc [0,1,2,3,4,5,6,7,10] 3 (fun a w=>∃ b35 b42,Fr a 91 [(2,.pointer (some ⟨b5,0,none⟩)),(3,.pointer (some ⟨b6,0,none⟩)),(4,.pointer (some ⟨b8,0,none⟩)),(8,.pointer (some ⟨b42,0,none⟩)),(62,vi c.n),(63,.slice (some ⟨b35,0,none⟩) 0 0),(68,.slice Ac (c.gs.take r.pos.toNat).length cc)]∧w0.heap.size≤b35∧Blk w b35 107 []∧w0.heap.size≤b42∧Blk w b42 41 [vi 0,.slice none 0 0]∧b5≠b42∧b8≠b42∧w12.heap.size≤b35∧w7.heap.size≤b35∧w12.heap.size≤b42∧w7.heap.size≤b42∧AwayR c.gs Ac b35∧AwayR r.old Ar b35∧AwayR r.new Br b35∧AwayR (c.gs.take r.pos.toNat) Ac b35∧Below w12.heap.size w12 w) ?_ ?_
  ·rintro a w15 ⟨b35,b42,hf,hlo35,hB35,hlo42,hB42,hne5_42,hne8_42,hlj35,hlc35,hlj42,hlc42,haw1_35,haw2_35,haw3_35,haw34_35,hE⟩
   clear hJc
   have hJc:=hE
   replace hB5:=hB5.below hE
   replace hB6:=hB6.below hE
   replace hB8:=hB8.below hE
   replace hr34:=hr34.below hE
   replace hW:=btr hW hE
   replace hEc:=btr hEc hE
   refine Yb hf ?_
   refine Y1 8 ?_
   refine Yk rfl trivial (X7t (enc:=encG) (l2:=((c.gs.take r.pos.toNat))) rfl rfl X02 X0r Xq X0y hB35 hr34 (by simp only [maxLen];simp;omega) (by simp;omega)) (fun _ _ ⟨A39,c39,_,ho39,hE⟩=>hE) ?_;rintro _ w16 ⟨A39,c39,rfl,ho39,hE⟩
   replace ho39:=ho39.lower hlo35
   replace hB5:=hB5.below hE
   replace hB6:=hB6.below hE
   replace hB8:=hB8.below hE
   replace hB42:=hB42.below hE
   replace hr34:=hr34.below hE
   replace hW:=btr hW hE
   replace hEc:=btr hEc hE
   replace hJc:=btr hJc hE
   refine Yo 9 rfl (fun _=>X01 (ps:=[(0,vi c.n),(1,.slice A39 (c.gs.take r.pos.toNat).length c39)]) (cs:=[vi c.n,.slice A39 (c.gs.take r.pos.toNat).length c39]) rfl (fun _=>by first|rfl|kernel_rfl)) ?_
   exact fun a hf=>hJ35 _ a _ rfl ⟨b42,A39,c39,hf.sub ⟨rfl,rfl,rfl,rfl,rfl,trivial⟩,hlo42,hB42,hne5_42,hne8_42,hlj42,hlc42,ho39,hJc⟩
  intro hJ37
  refine Y2 2 10 ?_ ?_
  ·refine Yk rfl trivial (Xv (k:=0) (vs:=[]) (zs:=[]) rfl X02 X0r rfl rfl) (fun _ _ ⟨_,_,_,h,_⟩=>h) ?_;rintro _ w17 ⟨b41,rfl,hl41,hE,hB41⟩
   have hlo41:=Nat.le_trans hW.size hl41
   have hlc41:=Nat.le_trans hEc.size hl41
   have hlj41:=Nat.le_trans hJc.size hl41
   have haw1_41:=(hr_c.below' hW).away hl41
   have haw2_41:=(hr_r.below' hW).away hl41
   have haw3_41:=(hs_r.below' hW).away hl41
   have haw34_41:=hr34.away hl41
   replace hB5:=hB5.below hE
   replace hB6:=hB6.below hE
   replace hB8:=hB8.below hE
   replace hr34:=hr34.below hE
   replace hW:=btr hW hE
   replace hEc:=btr hEc hE
   replace hJc:=btr hJc hE
   refine Y2 8 10 ?_ ?_
   ·refine Yk rfl trivial (X7t (enc:=encG) (l2:=((c.gs.take r.pos.toNat))) rfl rfl X02 X0r Xq X0y hB41 hr34 (by simp only [maxLen];simp;omega) (by simp;omega)) (fun _ _ ⟨A43,c43,_,ho43,hE⟩=>hE) ?_;rintro _ w18 ⟨A43,c43,rfl,ho43,hE⟩
    replace ho43:=ho43.lower hlo41
    replace hB5:=hB5.below hE
    replace hB6:=hB6.below hE
    replace hB8:=hB8.below hE
    replace hr34:=hr34.below hE
    replace hW:=btr hW hE
    replace hEc:=btr hEc hE
    replace hJc:=btr hJc hE
    refine Yo 9 rfl (fun _=>X01 (ps:=[(0,vi c.n),(1,.slice A43 (c.gs.take r.pos.toNat).length c43)]) (cs:=[vi c.n,.slice A43 (c.gs.take r.pos.toNat).length c43]) rfl (fun _=>by first|rfl|kernel_rfl)) ?_
    refine Y1 10 ?_
    refine Yk rfl trivial (Xa (zs:=[vi 0,.slice none 0 0]) X3n rfl) (fun _ _ ⟨_,_,_,h,_⟩=>h) ?_;rintro _ w19 ⟨b46,rfl,hl46,hE,hB46⟩
    have hne5_46:b5≠b46:=by have:=hB5.lt;omega
    have hne8_46:b8≠b46:=by have:=hB8.lt;omega
    have hlo46:=Nat.le_trans hW.size hl46
    have hlc46:=Nat.le_trans hEc.size hl46
    have hlj46:=Nat.le_trans hJc.size hl46
    replace hB5:=hB5.below hE
    replace hB6:=hB6.below hE
    replace hB8:=hB8.below hE
    replace hr34:=hr34.below hE
    replace ho43:=ho43.below hE
    replace hW:=btr hW hE
    replace hEc:=btr hEc hE
    replace hJc:=btr hJc hE
    exact fun a hf=>hJ35 _ a _ rfl ⟨b46,A43,c43,hf.sub ⟨rfl,rfl,rfl,rfl,rfl,trivial⟩,hlo46,hB46,hne5_46,hne8_46,hlj46,hlc46,ho43,hJc⟩
   refine Yk rfl trivial (Xa (zs:=[vi 0,.slice none 0 0]) X3n rfl) (fun _ _ ⟨_,_,_,h,_⟩=>h) ?_;rintro _ w20 ⟨b48,rfl,hl48,hE,hB48⟩
   have hne5_48:b5≠b48:=by have:=hB5.lt;omega
   have hne8_48:b8≠b48:=by have:=hB8.lt;omega
   have hlo48:=Nat.le_trans hW.size hl48
   have hlc48:=Nat.le_trans hEc.size hl48
   have hlj48:=Nat.le_trans hJc.size hl48
   replace hB5:=hB5.below hE
   replace hB6:=hB6.below hE
   replace hB8:=hB8.below hE
   replace hB41:=hB41.below hE
   replace hr34:=hr34.below hE
   replace hW:=btr hW hE
   replace hEc:=btr hEc hE
   replace hJc:=btr hJc hE
   exact fun a hf=>hJ37 _ a _ rfl ⟨b41,b48,hf.sub ⟨rfl,rfl,rfl,rfl,rfl,rfl,rfl,trivial⟩,hlo41,hB41,hlo48,hB48,hne5_48,hne8_48,hlj41,hlc41,hlj48,hlc48,haw1_41,haw2_41,haw3_41,haw34_41,hJc⟩
  refine Yk rfl trivial (Xa (zs:=[vi 0,.slice none 0 0]) X3n rfl) (fun _ _ ⟨_,_,_,h,_⟩=>h) ?_;rintro _ w21 ⟨b50,rfl,hl50,hE,hB50⟩
  have hne5_50:b5≠b50:=by have:=hB5.lt;omega
  have hne8_50:b8≠b50:=by have:=hB8.lt;omega
  have hlo50:=Nat.le_trans hW.size hl50
  have hlc50:=Nat.le_trans hEc.size hl50
  have hlj50:=Nat.le_trans hJc.size hl50
  replace hB5:=hB5.below hE
  replace hB6:=hB6.below hE
  replace hB8:=hB8.below hE
  replace hr34:=hr34.below hE
  replace hW:=btr hW hE
  replace hEc:=btr hEc hE
  replace hJc:=btr hJc hE
  refine Y1 2 ?_
  refine Yk rfl trivial (Xv (k:=0) (vs:=[]) (zs:=[]) rfl X02 X0r rfl rfl) (fun _ _ ⟨_,_,_,h,_⟩=>h) ?_;rintro _ w22 ⟨b51,rfl,hl51,hE,hB51⟩
  have hlo51:=Nat.le_trans hW.size hl51
  have hlc51:=Nat.le_trans hEc.size hl51
  have hlj51:=Nat.le_trans hJc.size hl51
  have haw1_51:=(hr_c.below' hW).away hl51
  have haw2_51:=(hr_r.below' hW).away hl51
  have haw3_51:=(hs_r.below' hW).away hl51
  have haw34_51:=hr34.away hl51
  replace hB5:=hB5.below hE
  replace hB6:=hB6.below hE
  replace hB8:=hB8.below hE
  replace hB50:=hB50.below hE
  replace hr34:=hr34.below hE
  replace hW:=btr hW hE
  replace hEc:=btr hEc hE
  replace hJc:=btr hJc hE
  exact fun a hf=>hJ37 _ a _ rfl ⟨b51,b50,hf.sub ⟨rfl,rfl,rfl,rfl,rfl,rfl,rfl,trivial⟩,hlo51,hB51,hlo50,hB50,hne5_50,hne8_50,hlj51,hlc51,hlj50,hlc50,haw1_51,haw2_51,haw3_51,haw34_51,hJc⟩
 rintro a w23 ⟨b40,A37,c37,hf,hlo40,hB40,hne5_40,hne8_40,ho37,hE⟩
 replace hB5:=hB5.below hE
 replace hB6:=hB6.below hE
 replace hB8:=hB8.below hE
 replace hW:=btr hW hE
 refine hK33 _ _ ?_
 refine Zs hf fun _ hK53=>?_
 refine Ze (Vd rfl X07 1)<|Ze (X0 rfl X0e (hB40.at 1))<|Ze (Vd rfl X21 2)<|Ze (X0 rfl X0e (hB6.at 2)) ?_
 refine Zf (X10 (enc:=encG) (l:=((c.gs.take r.pos.toNat))) (l2:=(r.new)) (B0:=w0.heap.size) rfl rfl X02 X0r Xq X0y ho37 (hs_r.below' hW) (by simp only [maxLen];simp;omega) (by simp;omega) hW.size) ?_;rintro _ w24 ⟨A54,c54,rfl,ho54,hg,hat⟩
 have hown:Own _ w0.heap.size 107 3 encG _ _ ((c.gs.take r.pos.toNat)):=ho37
 clear hat
 replace hB5:=hB5.appT hown hg rfl
 replace hB6:=hB6.appT hown hg rfl
 replace hB8:=hB8.appT hown hg rfl
 replace hB40:=hB40.appT hown hg rfl
 replace hW:=Below.app hW hown hg (Nat.le_refl _) hW.size
 clear hown hg
 refine Ze (Vd rfl X07 1) ?_
 refine Zo (Vu (vs:=[.slice A54 ((c.gs.take r.pos.toNat)++r.new).length c54]) (l':=[vi c.n,.slice A54 ((c.gs.take r.pos.toNat)++r.new).length c54]) rfl rfl X4a hB40) ?_;rintro _ w25 ⟨ho,hb⟩
 have hold:=hB40
 replace hB5:=hB5.only ho (by omega)
 replace hB6:=hB6.only ho (Blk.ne hB6 hold rfl)
 replace hB8:=hB8.only ho (by omega)
 replace ho54:=ho54.onlyT ho hold rfl
 replace hW:=Below.only hW ho hlo40
 clear hold
 have hB40:=hb
 clear hb ho
 refine Zt hK53 fun a hf=>?_
 refine wp_seq_k fun _ hK55=>?_
 refine X05 none (fun j=>[11,13].contains j) mixed ?_
 intro w26 hE
 replace hB5:=hB5.below hE
 replace hB6:=hB6.below hE
 replace hB8:=hB8.below hE
 replace hB40:=hB40.below hE
 replace ho54:=ho54.below hE
 replace hW:=btr hW hE
 refine Yb hf ?_
 refine Yo 0 rfl (fun _=>Vd rfl X07 1)<|Ye 1 rfl (X0 rfl X0e (hB40.at 1))<|Yo 2 rfl (fun _=>Vd rfl X07 1)<|Ye 3 rfl (X0 rfl X0e (hB5.at 1))<|Yo 4 rfl (fun _=>Vd rfl X28 0) ?_
 refine Ye 5 rfl (X0 rfl X5 (hB6.at 0))<|Yo 6 rfl (fun _=>Vd rfl X1o 1)<|Ye 7 rfl (X0 rfl X0e (hB6.at 1))<|Yo 8 rfl (fun _=>X0d rfl X02)<|Yo 9 rfl (fun _=>Xy rfl rfl (by omega) (by omega)) ?_
 have hr56:=((hr_c.below' hW).top).dropK Xq (c:=cc) hp_c (r.pos.toNat+r.old.length)
 refine Yo 10 rfl (fun _=>Xbv (l:=c.gs) (k:=(r.pos.toNat+r.old.length)) rfl rfl X02 X0o (by omega) (by omega)) ?_
 refine Y1 11 ?_
 refine Yt rfl trivial rfl (X10 (enc:=encG) (l:=((c.gs.take r.pos.toNat)++r.new)) (l2:=((c.gs.drop (r.pos.toNat+r.old.length)))) (B0:=w0.heap.size) rfl rfl X02 X0r Xq X0y ho54 hr56 (by simp only [maxLen];simp;omega) (by simp;omega) hW.size) ?_;rintro _ w27 ⟨A57,c57,rfl,ho57,hg,hat⟩
 have hown:Own _ w0.heap.size 107 3 encG _ _ ((c.gs.take r.pos.toNat)++r.new):=ho54
 clear hat
 replace hB5:=hB5.appT hown hg rfl
 replace hB6:=hB6.appT hown hg rfl
 replace hB8:=hB8.appT hown hg rfl
 replace hB40:=hB40.appT hown hg rfl
 replace hW:=Below.app hW hown hg (Nat.le_refl _) hW.size
 clear hown hg
 refine Yo 12 rfl (fun _=>Vd rfl X07 1) ?_
 refine Y1 13 ?_
 refine Yh rfl trivial rfl (Vu (vs:=[.slice A57 (((c.gs.take r.pos.toNat)++r.new)++(c.gs.drop (r.pos.toNat+r.old.length))).length c57]) (l':=[vi c.n,.slice A57 (((c.gs.take r.pos.toNat)++r.new)++(c.gs.drop (r.pos.toNat+r.old.length))).length c57]) rfl rfl X4a hB40) ?_;rintro _ w28 ⟨ho,hb⟩
 have hold:=hB40
 replace hB5:=hB5.only ho (by omega)
 replace hB6:=hB6.only ho (Blk.ne hB6 hold rfl)
 replace hB8:=hB8.only ho (by omega)
 replace ho57:=ho57.onlyT ho hold rfl
 replace hW:=Below.only hW ho hlo40
 clear hold
 have hB40:=hb
 clear hb ho
 refine Yd fun a hf=>?_
 refine hK55 _ _ ?_
 refine Zs hf fun _ hK58=>?_
 refine Ze (Vn X0c hB40) ?_
 refine Zo (Vw [vi c.n,.slice A57 (((c.gs.take r.pos.toNat)++r.new)++(c.gs.drop (r.pos.toNat+r.old.length))).length c57] X1j hB8) ?_;rintro _ w29 ⟨ho,hb⟩
 have hold:=hB8
 replace hB40:=hB40.only ho (by omega)
 replace ho57:=ho57.onlyT ho hold rfl
 replace hW:=Below.only hW ho hlo8
 clear hold
 have hB8:=hb
 clear hb ho
 refine Za rfl ?_
 refine Zt hK58 fun a hf=>?_
 refine wp_ret (X2 hf (X0q hf rfl (ResV.cellN (l:=[vi c.n,.slice A57 (((c.gs.take r.pos.toNat)++r.new)++(c.gs.drop (r.pos.toNat+r.old.length))).length c57]) rfl X0c (hB8.at 0) rfl) rfl) ?_)
 rw [hfin]
 exact ⟨A57,c57,rfl,ho57,hW⟩
end Go.Proofs.YtfgnmflfiobkmaaGreat
set_option maxRecDepth 4000
namespace Go.Proofs.YtfgnmflfiobkmaaGreat
open Go.RowKit
theorem F27(w0:World)(c:Cx)(Ac:Option Addr)(cc:Nat)(hr_c:Rd w0 w0.heap.size 107 encG Ac c.gs)(hp_c:c.gs.length≤cc)(Al:Option Addr)(cl:Nat)(l:List Sr)(hr_l:Rd w0 w0.heap.size 30 encSr Al l)(hd_l:DeepR w0 w0.heap.size 107 l)(d:Cx)(Ad:Option Addr)(cd:Nat)(hr_d:Rd w0 w0.heap.size 107 encG Ad d.gs)(hlc:c.gs.length≤1048576)(hls:l.length≤1048576)(hll:∀ s ∈ l,s.old.length≤1048576∧s.new.length≤1048576)(hld:d.gs.length≤1048576) : Ret Tryz.prog 27 [.agg #[vi c.n,.slice Ac c.gs.length cc,.slice Al l.length cl,vi d.n,.slice Ad d.gs.length cd]] w0 (fun v w=>v=.tuple #[vi ((checkS c d (l.map Sr.rp)).1),.bool ((checkS c d (l.map Sr.rp)).2)]∧Below w0.heap.size w0 w):=by
 refine enter Tryz.func27 rfl 65 rfl rfl ?_
 intro a hf
 have hW:Below w0.heap.size w0 w0:=Below.refl _ _
 refine Zs hf fun _ hK4=>?_
 refine Zf (Xu (zs:=[vi c.n,.slice Ac c.gs.length cc,.slice Al l.length cl,vi d.n,.slice Ad d.gs.length cd]) rfl rfl) ?_;rintro _ w1 ⟨b5,rfl,hl5,hE,hB5⟩
 have hlo5:=Nat.le_trans hW.size hl5
 replace hd_l:=hd_l.below hE
 replace hW:=btr hW hE
 refine Za rfl<|Za rfl ?_
 refine Zt hK4 fun a hf=>?_
 refine wp_seq_k fun _ hK6=>?_
 refine wp_seq_k fun _ hK7=>?_
 refine X06 (fun a w=>Fr a 65 [(1,.pointer (some ⟨b5,0,none⟩)),(20,.bool ((!(cOk c))||(decide (400<(l.length:Int)))))]∧Below w1.heap.size w1 w) ?_ ?_
 ·have hEc:Below w1.heap.size w1 w1:=Below.refl _ _
  refine Zr hf ?_
  refine Ze (Vd rfl X2x 0)<|Ze (Xi (l:=[vi c.n,.slice Ac c.gs.length cc]) rfl X0c ((hB5.at 0).take 2) rfl) ?_
  refine Zf (Vc (F53 _ c Ac cc (hr_c.below' hW).top) Xgp) ?_;rintro _ w2 ⟨rfl,hE⟩
  replace hB5:=hB5.below hE
  replace hd_l:=hd_l.below hE
  replace hW:=btr hW hE
  replace hEc:=btr hEc hE
  refine Ze (X09 rfl)<|Zm rfl ?_
  refine Zg 15 rfl (fun hg8=>?_) (fun hg8=>?_)
  ·refine Zp ⟨_,_,rfl,rfl,hg8⟩ ?_
   refine Zp ⟨_,_,rfl,rfl,hg8⟩ ?_
   refine Zp ⟨_,_,rfl,rfl,hg8⟩ ?_
   refine Zp ⟨_,_,rfl,rfl,hg8⟩ ?_
   refine Ze (X9 rfl hg8 rfl) ?_
   refine Zn fun a hf=>?_
   have hEE:Below w1.heap.size w1 w2:=hEc
   exact ⟨hf.sub ⟨rfl,X1 rfl (by first|rfl|(simp only [hg8,bs];done)|simp [hg8]),trivial⟩,hEE⟩
  refine Zv ⟨_,_,rfl,rfl,hg8⟩ (Vd rfl X2y 2) ?_
  refine Zv ⟨_,_,rfl,rfl,hg8⟩ (X0 rfl X6u (hB5.at 2)) ?_
  refine Zv ⟨_,_,rfl,rfl,hg8⟩ (X0d rfl X3g) ?_
  refine Zv ⟨_,_,rfl,rfl,hg8⟩ (X42 rfl rfl) ?_
  refine Ze (X7 rfl hg8 rfl) ?_
  refine Zn fun a hf=>?_
  have hEE:Below w1.heap.size w1 w2:=hEc
  exact ⟨hf.sub ⟨rfl,X1 rfl (by first|rfl|(simp only [hg8,bs];done)|simp [hg8]),trivial⟩,hEE⟩
 rintro a w3 ⟨hf,hE⟩
 replace hB5:=hB5.below hE
 replace hd_l:=hd_l.below hE
 replace hW:=btr hW hE
 refine hK7 _ _ ?_
 refine Xb hf rfl (fun hc9=>?_) (fun hc9=>?_)
 ·have hc9b:=hc9
  have hn:checkS c d (l.map Sr.rp)=(0,false):=by unfold checkS;rw [if_neg];revert hc9;rw [List.length_map];cases cOk c<;>simp
  refine Zs hf fun _ hK10=>?_
  refine Za rfl<|Za rfl ?_
  refine Zt hK10 fun a hf=>?_
  refine wp_ret ?_
  refine X3 ?_
  refine X2 hf (X0q hf rfl rfl rfl) ?_
  exact ⟨by rw [hn],hW⟩
 have hc9b:=hc9
 obtain ⟨hc,hl4⟩ : cOk c=true∧(l.length:Int)≤400:=by revert hc9;cases cOk c<;>simp
 have hy:checkS c d (l.map Sr.rp)=(checkLS 0 c d (l.map Sr.rp),true):=by unfold checkS;rw [if_pos];rw [List.length_map,hc,decide_eq_true hl4];rfl
 refine wp_skip ?_
 refine hK6 _ _ ?_
 refine Zs hf fun _ hK11=>?_
 refine Ze (Vd rfl X2x 0)<|Ze (Xi (l:=[vi c.n,.slice Ac c.gs.length cc]) rfl X0c ((hB5.at 0).take 2) rfl) ?_
 refine Zf (Xa (zs:=[vi 0,.slice none 0 0]) X3n rfl) ?_;rintro _ w4 ⟨b13,rfl,hl13,hE,hB13⟩
 have hlo13:=Nat.le_trans hW.size hl13
 replace hB5:=hB5.below hE
 replace hd_l:=hd_l.below hE
 replace hW:=btr hW hE
 refine Zo (Vw [vi c.n,.slice Ac c.gs.length cc] X1j hB13) ?_;rintro _ w5 ⟨ho,hb⟩
 have hold:=hB13
 replace hB5:=hB5.only ho (Blk.ne hB5 hold rfl)
 replace hd_l:=hd_l.only ho hlo13
 replace hW:=Below.only hW ho hlo13
 clear hold
 have hB13:=hb
 clear hb ho
 refine Zt hK11 fun a hf=>?_
 refine wp_seq_k fun _ hK14=>?_
 refine Zs hf fun _ hK15=>?_
 refine Ze (Vd rfl X2y 2)<|Ze (X0 rfl X6u (hB5.at 2))<|Ze (X0d rfl X3g)<|Zm rfl ?_
 refine Zt hK15 fun a hf=>?_
 refine wp_block ?_
 refine X04 (σ:=Nat×Cx) (fun (s:Nat×Cx) (a:Act) (w:World)=>match s with|(k,x)=>∃ A16 c16,Fr a 65 [(1,.pointer (some ⟨b5,0,none⟩)),(4,.pointer (some ⟨b13,0,none⟩)),(24,.slice Al l.length cl),(25,vi (l.length:Int)),(26,vi (k:Int))]∧(k≤l.length)∧(cOk x=true)∧(checkLS k x d ((l.map Sr.rp).drop k)=checkLS 0 c d (l.map Sr.rp))∧Blk w b5 60 [vi c.n,.slice Ac c.gs.length cc,.slice Al l.length cl,vi d.n,.slice Ad d.gs.length cd]∧Blk w b13 41 [vi x.n,.slice A16 x.gs.length c16]∧Rd w w.heap.size 107 encG A16 x.gs∧c.gs.length≤cc∧DeepR w w0.heap.size 107 l∧x.gs.length≤c16∧Below w0.heap.size w0 w) (fun (s:Nat×Cx)=>match s with|(k,x)=>l.length-k) (0,c) ?_ ?_
 · exact ⟨Ac,cc,hf.sub ⟨rfl,rfl,rfl,rfl,rfl,trivial⟩,(Nat.zero_le _),hc,rfl,hB5,hB13,(hr_c.below' hW).top,hp_c,hd_l,hp_c,hW⟩
 rintro ⟨k,x⟩ a w6 ⟨A16,c16,hf,hk,hx,hinv,hB5,hB13,hr16,hp_c,hd_l,hcp16,hW⟩
 have hxl:=Xgz hx
 refine Zs hf fun _ hK17=>?_
 refine Ze (X0m rfl rfl) ?_
 refine Zt hK17 fun a hf=>?_
 refine wp_seq_k fun _ hK18=>?_
 refine Xb hf rfl (fun hc19=>?_) (fun hc19=>?_)
 ·have hc19b:=hc19
  have hc19:=of_decide_eq_true hc19
  obtain ⟨u20,hu20⟩:=Xf (l:=l) (k:=k) (by omega)
  have hsu:=hll u20 (List.mem_of_getElem? hu20)
  have hdr:=Xbi hu20
  rw [hdr] at hinv
  refine wp_skip ?_
  refine hK18 _ _ ?_
  refine wp_seq_k fun _ hK21=>?_
  refine wp_block ?_
  refine Zs hf fun _ hK22=>?_
  refine Zm rfl ?_
  refine Zi (k:=k) (u:=u20) (enc:=encSr) (l:=l) trivial rfl rfl X3g X57 X1w (hr_l.below' hW) hu20 rfl ?_;intro p24 hat23
  have hr25:=(hd_l u20 (List.mem_of_getElem? hu20)).1
  have hr26:=(hd_l u20 (List.mem_of_getElem? hu20)).2
  refine Ze (Xi (l:=[vi u20.pos,.slice u20.A u20.old.length u20.c,.slice u20.B u20.new.length u20.d]) rfl X2u hat23 rfl) ?_
  refine Zf (Xa (zs:=[vi 0,.slice none 0 0,.slice none 0 0]) Xed rfl) ?_;rintro _ w7 ⟨b29,rfl,hl29,hE,hB29⟩
  have hlo29:=Nat.le_trans hW.size hl29
  have haw2_29:=(hr_l.below' hW).away hl29
  replace hB5:=hB5.below hE
  replace hB13:=hB13.below hE
  replace hr16:=hr16.below hE
  replace hr25:=hr25.below hE
  replace hr26:=hr26.below hE
  replace hd_l:=hd_l.below hE
  replace hW:=btr hW hE
  refine Za rfl ?_
  refine Zo (Vw [vi u20.pos,.slice u20.A u20.old.length u20.c,.slice u20.B u20.new.length u20.d] X57 hB29) ?_;rintro _ w8 ⟨ho,hb⟩
  have hold:=hB29
  replace hB5:=hB5.only ho (Blk.ne hB5 hold rfl)
  replace hB13:=hB13.only ho (Blk.ne hB13 hold rfl)
  replace hr16:=hr16.onlyT ho hold rfl
  replace hr25:=hr25.onlyT ho hold rfl
  replace hr26:=hr26.onlyT ho hold rfl
  replace hd_l:=hd_l.only ho hlo29
  replace hW:=Below.only hW ho hlo29
  clear hold
  have hB29:=hb
  clear hb ho
  refine Zt hK22 fun a hf=>?_
  refine Zs hf fun _ hK30=>?_
  refine Ze (Vn X0c hB13)<|Ze (Vn X2u hB29) ?_
  refine Zf (Vc (F63 _ x A16 c16 hr16.top hcp16 u20.rp u20.A u20.c hr25.top u20.B u20.d hr26.top (by omega) (Nat.le_trans hsu.1 (by decide)) (Nat.le_trans hsu.2 (by decide))) Xqe) ?_;rintro _ w9 ⟨A31,c31,rfl,ho31,hE⟩
  replace ho31:=ho31.lower hW.size
  replace hB5:=hB5.below hE
  replace hB13:=hB13.below hE
  replace hB29:=hB29.below hE
  replace hr16:=hr16.below hE
  replace hr25:=hr25.below hE
  replace hr26:=hr26.below hE
  replace hd_l:=hd_l.below hE
  replace hW:=btr hW hE
  refine Zm rfl<|Ze (X6 (vs:=[.agg #[vi (((applyS x u20.rp).getD cZ).n),.slice A31 (((applyS x u20.rp).getD cZ).gs).length c31],.bool ((applyS x u20.rp).isSome)]) rfl rfl)<|Ze (X6 (vs:=[.agg #[vi (((applyS x u20.rp).getD cZ).n),.slice A31 (((applyS x u20.rp).getD cZ).gs).length c31],.bool ((applyS x u20.rp).isSome)]) rfl rfl) ?_
  refine Zf (Xa (zs:=[vi 0,.slice none 0 0]) X3n rfl) ?_;rintro _ w10 ⟨b33,rfl,hl33,hE,hB33⟩
  have hne13_33:b13≠b33:=by have:=hB13.lt;omega
  have hlo33:=Nat.le_trans hW.size hl33
  replace hB5:=hB5.below hE
  replace hB13:=hB13.below hE
  replace hB29:=hB29.below hE
  replace hr16:=hr16.below hE
  replace hr25:=hr25.below hE
  replace hr26:=hr26.below hE
  replace ho31:=ho31.below hE
  replace hd_l:=hd_l.below hE
  replace hW:=btr hW hE
  refine Zo (Vw [vi (((applyS x u20.rp).getD cZ).n),.slice A31 (((applyS x u20.rp).getD cZ).gs).length c31] X1j hB33) ?_;rintro _ w11 ⟨ho,hb⟩
  have hold:=hB33
  replace hB5:=hB5.only ho (Blk.ne hB5 hold rfl)
  replace hB13:=hB13.only ho (by omega)
  replace hB29:=hB29.only ho (Blk.ne hB29 hold rfl)
  replace hr16:=hr16.onlyT ho hold rfl
  replace hr25:=hr25.onlyT ho hold rfl
  replace hr26:=hr26.onlyT ho hold rfl
  replace ho31:=ho31.onlyT ho hold rfl
  replace hd_l:=hd_l.only ho hlo33
  replace hW:=Below.only hW ho hlo33
  clear hold
  have hB33:=hb
  clear hb ho
  refine Za rfl ?_
  refine Zt hK30 fun a hf=>?_
  refine wp_seq_k fun _ hK34=>?_
  refine Zs hf fun _ hK35=>?_
  refine Zm rfl<|Ze (X09 rfl) ?_
  refine Zt hK35 fun a hf=>?_
  refine Xb hf rfl (fun hc36=>?_) (fun hc36=>?_)
  ·have hc36b:=hc36
   have hap:applyS x u20.rp=none:=by revert hc36;cases applyS x u20.rp<;>simp
   have hfin:checkLS 0 c d (l.map Sr.rp)=(k:Int)+1:=by rw [← hinv,checkLS,hap];rfl
   refine Zs hf fun _ hK37=>?_
   refine Zm rfl<|Ze (Xy rfl rfl (by omega) (by omega))<|Za rfl<|Za rfl ?_
   refine Zt hK37 fun a hf=>?_
   refine wp_ret ?_
   refine X3 ?_
   refine Xj ?_
   refine X3 ?_
   refine X3 ?_
   refine Xj ?_
   refine X3 ?_
   refine X2 hf (X0q hf rfl rfl rfl) ?_
   exact ⟨by rw [hy,← hfin],hW⟩
  have hc36b:=hc36
  obtain ⟨x1,hap⟩ : ∃ x1,applyS x u20.rp=some x1:=by revert hc36;cases applyS x u20.rp<;>simp
  obtain ⟨hx1,hx2,hx3⟩:=(X7g (r:=u20.rp) hx).2 x1 hap
  obtain ⟨_,hv2,_,_⟩:=X3x hx3
  have hv3:u20.old.length≤40∧u20.new.length≤40:=hv2
  refine wp_skip ?_
  refine hK34 _ _ ?_
  refine wp_seq_k fun _ hK38=>?_
  refine Zs hf fun _ hK39=>?_
  refine Ze (Vn X2u hB29) ?_
  refine Zf (Vc (F44 _ u20.rp u20.A u20.c hr25.top u20.B u20.d hr26.top (Nat.le_trans hv3.1 (by decide)) (Nat.le_trans hv3.2 (by decide))) Xk2) ?_;rintro _ w12 ⟨rfl,hE⟩
  replace hB5:=hB5.below hE
  replace hB13:=hB13.below hE
  replace hB29:=hB29.below hE
  replace hB33:=hB33.below hE
  replace hr16:=hr16.below hE
  replace hr25:=hr25.below hE
  replace hr26:=hr26.below hE
  replace ho31:=ho31.below hE
  replace hd_l:=hd_l.below hE
  replace hW:=btr hW hE
  refine Zm rfl<|Ze (X6 (vs:=[.bool ((justS u20.rp).1),.bool ((justS u20.rp).2)]) rfl rfl)<|Ze (X6 (vs:=[.bool ((justS u20.rp).1),.bool ((justS u20.rp).2)]) rfl rfl)<|Za rfl<|Za rfl ?_
  refine Zt hK39 fun a hf=>?_
  refine wp_seq_k fun _ hK40=>?_
  refine X06 (fun a w=>Fr a 65 [(1,.pointer (some ⟨b5,0,none⟩)),(4,.pointer (some ⟨b13,0,none⟩)),(5,vi (k:Int)),(7,.pointer (some ⟨b33,0,none⟩)),(24,.slice Al l.length cl),(25,vi (l.length:Int)),(26,vi (k:Int)),(51,.bool ((!((justS u20.rp).1))||(!((justS u20.rp).2))))]∧w12=w) ?_ ?_
  ·refine Zr hf ?_
   refine Zm rfl<|Ze (X09 rfl)<|Zm rfl ?_
   refine Zg 48 rfl (fun hg41=>?_) (fun hg41=>?_)
   ·refine Zp ⟨_,_,rfl,rfl,hg41⟩ ?_
    refine Zp ⟨_,_,rfl,rfl,hg41⟩ ?_
    refine Ze (X9 rfl hg41 rfl) ?_
    refine Zn fun a hf=>?_
    exact ⟨hf.sub ⟨rfl,rfl,rfl,rfl,rfl,rfl,rfl,X1 rfl (by first|rfl|(simp only [hc9b,hc19b,hc36b,hg41,bs];done)|simp [hc9b,hc19b,hc36b,hg41]),trivial⟩,rfl⟩
   refine Zv ⟨_,_,rfl,rfl,hg41⟩ (X8 rfl) ?_
   refine Zv ⟨_,_,rfl,rfl,hg41⟩ (X09 rfl) ?_
   refine Ze (X7 rfl hg41 rfl) ?_
   refine Zn fun a hf=>?_
   exact ⟨hf.sub ⟨rfl,rfl,rfl,rfl,rfl,rfl,rfl,X1 rfl (by first|rfl|(simp only [hc9b,hc19b,hc36b,hg41,bs];done)|simp [hc9b,hc19b,hc36b,hg41]),trivial⟩,rfl⟩
  rintro a _ ⟨hf,rfl⟩
  refine hK40 _ _ ?_
  refine Xb hf rfl (fun hc42=>?_) (fun hc42=>?_)
  ·have hc42b:=hc42
   have hfin:checkLS 0 c d (l.map Sr.rp)=(k:Int)+1:=by rw [← hinv,checkLS,if_neg];rw [hap];revert hc42;simp only [Sr.rp];cases (justS _).1<;>cases (justS _).2<;>simp
   refine Zs hf fun _ hK43=>?_
   refine Zm rfl<|Ze (Xy rfl rfl (by omega) (by omega))<|Za rfl<|Za rfl ?_
   refine Zt hK43 fun a hf=>?_
   refine wp_ret ?_
   refine X3 ?_
   refine Xj ?_
   refine X3 ?_
   refine X3 ?_
   refine Xj ?_
   refine X3 ?_
   refine X2 hf (X0q hf rfl rfl rfl) ?_
   exact ⟨by rw [hy,← hfin],hW⟩
  have hc42b:=hc42
  have hst:checkLS (k+1) x1 d ((l.map Sr.rp).drop (k+1))=checkLS 0 c d (l.map Sr.rp):=by rw [← hinv,checkLS,if_pos];rw [hap];rfl;rw [hap];revert hc42;simp only [Sr.rp];cases (justS _).1<;>cases (justS _).2<;>simp
  refine wp_skip ?_
  refine hK38 _ _ ?_
  refine Zr hf ?_
  refine Ze (Vn X0c hB33) ?_
  refine Zo (Vw [vi (((applyS x u20.rp).getD cZ).n),.slice A31 (((applyS x u20.rp).getD cZ).gs).length c31] X1j hB13) ?_;rintro _ w13 ⟨ho,hb⟩
  have hold:=hB13
  replace hB5:=hB5.only ho (Blk.ne hB5 hold rfl)
  replace hB33:=hB33.only ho (by omega)
  replace hr16:=hr16.onlyT ho hold rfl
  replace ho31:=ho31.onlyT ho hold rfl
  replace hd_l:=hd_l.only ho hlo13
  replace hW:=Below.only hW ho hlo13
  clear hold
  have hB13:=hb
  clear hb ho
  refine Zn fun a hf=>?_
  refine Xn ?_
  refine hK21 _ _ ?_
  refine Zr hf ?_
  refine Ze (Xy rfl rfl (by omega) (by omega))<|Zm rfl ?_
  refine Zn fun a hf=>?_
  refine Xk ?_
  exact ⟨(k+1,((applyS x u20.rp).getD cZ)),⟨A31,c31,hf.sub ⟨rfl,rfl,rfl,rfl,rfl,trivial⟩,(by omega),(by rw [hap];exact hx1),(by rw [hap];exact hst),hB5,hB13,ho31.rd,hp_c,hd_l,ho31.cap,hW⟩,(by first|omega|(dsimp only;omega))⟩
 have hc19b:=hc19
 have hc19:=of_decide_eq_false hc19
 have hdk:(l.map Sr.rp).drop k=[]:=List.drop_of_length_le (by rw [List.length_map];omega)
 have hkl:k=l.length:=by omega
 rw [hdk,checkLS] at hinv
 refine wp_exit ?_
 refine Xm ?_
 refine Xm ?_
 refine X03 ?_
 refine hK14 _ _ ?_
 refine wp_seq_k fun _ hK44=>?_
 refine Zs hf fun _ hK45=>?_
 refine Ze (Vn X0c hB13)<|Ze (Vd rfl X2z 3)<|Ze (Xi (l:=[vi d.n,.slice Ad d.gs.length cd]) rfl X0c ((hB5.at 3).take 2) rfl) ?_
 refine Zf (Vc (F64 _ x A16 c16 hr16.top d Ad cd (hr_d.below' hW).top (by omega)) Xgq) ?_;rintro _ w14 ⟨rfl,hE⟩
 replace hB5:=hB5.below hE
 replace hB13:=hB13.below hE
 replace hr16:=hr16.below hE
 replace hd_l:=hd_l.below hE
 replace hW:=btr hW hE
 refine Ze (X09 rfl) ?_
 refine Zt hK45 fun a hf=>?_
 refine Xb hf rfl (fun hc46=>?_) (fun hc46=>?_)
 ·have hc46b:=hc46
  have hq:eqC x d=false:=by revert hc46;cases eqC x d<;>simp
  rw [hq,if_neg (by decide)] at hinv
  refine Zs hf fun _ hK47=>?_
  refine Ze (Vd rfl X2y 2)<|Ze (X0 rfl X6u (hB5.at 2))<|Ze (X0d rfl X3g)<|Ze (Xy rfl rfl (by omega) (by omega))<|Za rfl ?_
  refine Za rfl ?_
  refine Zt hK47 fun a hf=>?_
  refine wp_ret ?_
  refine X3 ?_
  refine X2 hf (X0q hf rfl rfl rfl) ?_
  exact ⟨by rw [hy,← hinv,hkl],hW⟩
 have hc46b:=hc46
 have hq:eqC x d=true:=by revert hc46;cases eqC x d<;>simp
 rw [hq,if_pos rfl] at hinv
 refine wp_skip ?_
 refine hK44 _ _ ?_
 refine Zs hf fun _ hK48=>?_
 refine Za rfl<|Za rfl ?_
 refine Zt hK48 fun a hf=>?_
 refine wp_ret (X2 hf (X0q hf rfl rfl rfl) ?_)
 exact ⟨by rw [hy,← hinv],hW⟩
end Go.Proofs.YtfgnmflfiobkmaaGreat
set_option maxRecDepth 4000
namespace Go.Proofs.YtfgnmflfiobkmaaGreat
open Go.RowKit
theorem F29(w0:World)(c:Cx)(Ac:Option Addr)(cc:Nat)(hr_c:Rd w0 w0.heap.size 107 encG Ac c.gs)(hp_c:c.gs.length≤cc)(Al:Option Addr)(cl:Nat)(l:List Sr)(hr_l:Rd w0 w0.heap.size 30 encSr Al l)(hd_l:DeepR w0 w0.heap.size 107 l)(d:Cx)(Ad:Option Addr)(cd:Nat)(hr_d:Rd w0 w0.heap.size 107 encG Ad d.gs)(hlc:c.gs.length≤1048576)(hls:l.length≤1048576)(hll:∀ s ∈ l,s.old.length≤1048576∧s.new.length≤1048576)(hld:d.gs.length≤1048576) : Ret Tryz.prog 29 [.agg #[vi c.n,.slice Ac c.gs.length cc,.slice Al l.length cl,vi d.n,.slice Ad d.gs.length cd]] w0 (fun v w=>v=.tuple #[vi ((checkI c d (l.map Sr.rp)).1),.bool ((checkI c d (l.map Sr.rp)).2)]∧Below w0.heap.size w0 w):=by
 refine enter Tryz.func29 rfl 67 rfl rfl ?_
 intro a hf
 have hW:Below w0.heap.size w0 w0:=Below.refl _ _
 refine Zs hf fun _ hK4=>?_
 refine Zf (Xu (zs:=[vi c.n,.slice Ac c.gs.length cc,.slice Al l.length cl,vi d.n,.slice Ad d.gs.length cd]) rfl rfl) ?_;rintro _ w1 ⟨b5,rfl,hl5,hE,hB5⟩
 have hlo5:=Nat.le_trans hW.size hl5
 replace hd_l:=hd_l.below hE
 replace hW:=btr hW hE
 refine Za rfl<|Za rfl ?_
 refine Zt hK4 fun a hf=>?_
 refine wp_seq_k fun _ hK6=>?_
 refine wp_seq_k fun _ hK7=>?_
 refine X06 (fun a w=>Fr a 67 [(1,.pointer (some ⟨b5,0,none⟩)),(20,.bool ((!(cOk c))||(decide (400<(l.length:Int)))))]∧Below w1.heap.size w1 w) ?_ ?_
 ·have hEc:Below w1.heap.size w1 w1:=Below.refl _ _
  refine Zr hf ?_
  refine Ze (Vd rfl X2x 0)<|Ze (Xi (l:=[vi c.n,.slice Ac c.gs.length cc]) rfl X0c ((hB5.at 0).take 2) rfl) ?_
  refine Zf (Vc (F55 _ c Ac cc (hr_c.below' hW).top (by omega)) Xar) ?_;rintro _ w2 ⟨rfl,hE⟩
  replace hB5:=hB5.below hE
  replace hd_l:=hd_l.below hE
  replace hW:=btr hW hE
  replace hEc:=btr hEc hE
  refine Ze (X09 rfl)<|Zm rfl ?_
  refine Zg 15 rfl (fun hg8=>?_) (fun hg8=>?_)
  ·refine Zp ⟨_,_,rfl,rfl,hg8⟩ ?_
   refine Zp ⟨_,_,rfl,rfl,hg8⟩ ?_
   refine Zp ⟨_,_,rfl,rfl,hg8⟩ ?_
   refine Zp ⟨_,_,rfl,rfl,hg8⟩ ?_
   refine Ze (X9 rfl hg8 rfl) ?_
   refine Zn fun a hf=>?_
   have hEE:Below w1.heap.size w1 w2:=hEc
   exact ⟨hf.sub ⟨rfl,X1 rfl (by first|rfl|(simp only [hg8,bs];done)|simp [hg8]),trivial⟩,hEE⟩
  refine Zv ⟨_,_,rfl,rfl,hg8⟩ (Vd rfl X2y 2) ?_
  refine Zv ⟨_,_,rfl,rfl,hg8⟩ (X0 rfl X6u (hB5.at 2)) ?_
  refine Zv ⟨_,_,rfl,rfl,hg8⟩ (X0d rfl X3g) ?_
  refine Zv ⟨_,_,rfl,rfl,hg8⟩ (X42 rfl rfl) ?_
  refine Ze (X7 rfl hg8 rfl) ?_
  refine Zn fun a hf=>?_
  have hEE:Below w1.heap.size w1 w2:=hEc
  exact ⟨hf.sub ⟨rfl,X1 rfl (by first|rfl|(simp only [hg8,bs];done)|simp [hg8]),trivial⟩,hEE⟩
 rintro a w3 ⟨hf,hE⟩
 replace hB5:=hB5.below hE
 replace hd_l:=hd_l.below hE
 replace hW:=btr hW hE
 refine hK7 _ _ ?_
 refine Xb hf rfl (fun hc9=>?_) (fun hc9=>?_)
 ·have hc9b:=hc9
  have hn:checkI c d (l.map Sr.rp)=(0,false):=by unfold checkI;rw [if_neg];revert hc9;rw [List.length_map];cases cOk c<;>simp
  refine Zs hf fun _ hK10=>?_
  refine Za rfl<|Za rfl ?_
  refine Zt hK10 fun a hf=>?_
  refine wp_ret ?_
  refine X3 ?_
  refine X2 hf (X0q hf rfl rfl rfl) ?_
  exact ⟨by rw [hn],hW⟩
 have hc9b:=hc9
 obtain ⟨hc,hl4⟩ : cOk c=true∧(l.length:Int)≤400:=by revert hc9;cases cOk c<;>simp
 have hy:checkI c d (l.map Sr.rp)=(checkLI 0 c d (l.map Sr.rp),true):=by unfold checkI;rw [if_pos];rw [List.length_map,hc,decide_eq_true hl4];rfl
 refine wp_skip ?_
 refine hK6 _ _ ?_
 refine Zs hf fun _ hK11=>?_
 refine Ze (Vd rfl X2x 0)<|Ze (Xi (l:=[vi c.n,.slice Ac c.gs.length cc]) rfl X0c ((hB5.at 0).take 2) rfl) ?_
 refine Zf (Xa (zs:=[vi 0,.slice none 0 0]) X3n rfl) ?_;rintro _ w4 ⟨b13,rfl,hl13,hE,hB13⟩
 have hlo13:=Nat.le_trans hW.size hl13
 replace hB5:=hB5.below hE
 replace hd_l:=hd_l.below hE
 replace hW:=btr hW hE
 refine Zo (Vw [vi c.n,.slice Ac c.gs.length cc] X1j hB13) ?_;rintro _ w5 ⟨ho,hb⟩
 have hold:=hB13
 replace hB5:=hB5.only ho (Blk.ne hB5 hold rfl)
 replace hd_l:=hd_l.only ho hlo13
 replace hW:=Below.only hW ho hlo13
 clear hold
 have hB13:=hb
 clear hb ho
 refine Zt hK11 fun a hf=>?_
 refine wp_seq_k fun _ hK14=>?_
 refine Zs hf fun _ hK15=>?_
 refine Ze (Vd rfl X2y 2)<|Ze (X0 rfl X6u (hB5.at 2))<|Ze (X0d rfl X3g)<|Zm rfl ?_
 refine Zt hK15 fun a hf=>?_
 refine wp_block ?_
 refine X04 (σ:=Nat×Cx) (fun (s:Nat×Cx) (a:Act) (w:World)=>match s with|(k,x)=>∃ A16 c16,Fr a 67 [(1,.pointer (some ⟨b5,0,none⟩)),(4,.pointer (some ⟨b13,0,none⟩)),(24,.slice Al l.length cl),(25,vi (l.length:Int)),(26,vi (k:Int))]∧(k≤l.length)∧(cOk x=true)∧(checkLI k x d ((l.map Sr.rp).drop k)=checkLI 0 c d (l.map Sr.rp))∧Blk w b5 60 [vi c.n,.slice Ac c.gs.length cc,.slice Al l.length cl,vi d.n,.slice Ad d.gs.length cd]∧Blk w b13 41 [vi x.n,.slice A16 x.gs.length c16]∧Rd w w.heap.size 107 encG A16 x.gs∧c.gs.length≤cc∧DeepR w w0.heap.size 107 l∧x.gs.length≤c16∧Below w0.heap.size w0 w) (fun (s:Nat×Cx)=>match s with|(k,x)=>l.length-k) (0,c) ?_ ?_
 · exact ⟨Ac,cc,hf.sub ⟨rfl,rfl,rfl,rfl,rfl,trivial⟩,(Nat.zero_le _),hc,rfl,hB5,hB13,(hr_c.below' hW).top,hp_c,hd_l,hp_c,hW⟩
 rintro ⟨k,x⟩ a w6 ⟨A16,c16,hf,hk,hx,hinv,hB5,hB13,hr16,hp_c,hd_l,hcp16,hW⟩
 have hxl:=Xgz hx
 refine Zs hf fun _ hK17=>?_
 refine Ze (X0m rfl rfl) ?_
 refine Zt hK17 fun a hf=>?_
 refine wp_seq_k fun _ hK18=>?_
 refine Xb hf rfl (fun hc19=>?_) (fun hc19=>?_)
 ·have hc19b:=hc19
  have hc19:=of_decide_eq_true hc19
  obtain ⟨u20,hu20⟩:=Xf (l:=l) (k:=k) (by omega)
  have hsu:=hll u20 (List.mem_of_getElem? hu20)
  have hdr:=Xbi hu20
  rw [hdr] at hinv
  refine wp_skip ?_
  refine hK18 _ _ ?_
  refine wp_seq_k fun _ hK21=>?_
  refine wp_block ?_
  refine Zs hf fun _ hK22=>?_
  refine Zm rfl ?_
  refine Zi (k:=k) (u:=u20) (enc:=encSr) (l:=l) trivial rfl rfl X3g X57 X1w (hr_l.below' hW) hu20 rfl ?_;intro p24 hat23
  have hr25:=(hd_l u20 (List.mem_of_getElem? hu20)).1
  have hr26:=(hd_l u20 (List.mem_of_getElem? hu20)).2
  refine Ze (Xi (l:=[vi u20.pos,.slice u20.A u20.old.length u20.c,.slice u20.B u20.new.length u20.d]) rfl X2u hat23 rfl) ?_
  refine Zf (Xa (zs:=[vi 0,.slice none 0 0,.slice none 0 0]) Xed rfl) ?_;rintro _ w7 ⟨b29,rfl,hl29,hE,hB29⟩
  have hlo29:=Nat.le_trans hW.size hl29
  have haw2_29:=(hr_l.below' hW).away hl29
  replace hB5:=hB5.below hE
  replace hB13:=hB13.below hE
  replace hr16:=hr16.below hE
  replace hr25:=hr25.below hE
  replace hr26:=hr26.below hE
  replace hd_l:=hd_l.below hE
  replace hW:=btr hW hE
  refine Za rfl ?_
  refine Zo (Vw [vi u20.pos,.slice u20.A u20.old.length u20.c,.slice u20.B u20.new.length u20.d] X57 hB29) ?_;rintro _ w8 ⟨ho,hb⟩
  have hold:=hB29
  replace hB5:=hB5.only ho (Blk.ne hB5 hold rfl)
  replace hB13:=hB13.only ho (Blk.ne hB13 hold rfl)
  replace hr16:=hr16.onlyT ho hold rfl
  replace hr25:=hr25.onlyT ho hold rfl
  replace hr26:=hr26.onlyT ho hold rfl
  replace hd_l:=hd_l.only ho hlo29
  replace hW:=Below.only hW ho hlo29
  clear hold
  have hB29:=hb
  clear hb ho
  refine Zt hK22 fun a hf=>?_
  refine Zs hf fun _ hK30=>?_
  refine Ze (Vn X0c hB13)<|Ze (Vn X2u hB29) ?_
  refine Zf (Vc (F66 _ x A16 c16 hr16.top hcp16 u20.rp u20.A u20.c hr25.top u20.B u20.d hr26.top (by omega) (Nat.le_trans hsu.1 (by decide)) (Nat.le_trans hsu.2 (by decide))) Xox) ?_;rintro _ w9 ⟨A31,c31,rfl,ho31,hE⟩
  replace ho31:=ho31.lower hW.size
  replace hB5:=hB5.below hE
  replace hB13:=hB13.below hE
  replace hB29:=hB29.below hE
  replace hr16:=hr16.below hE
  replace hr25:=hr25.below hE
  replace hr26:=hr26.below hE
  replace hd_l:=hd_l.below hE
  replace hW:=btr hW hE
  refine Zm rfl<|Ze (X6 (vs:=[.agg #[vi (((applyI x u20.rp).getD cZ).n),.slice A31 (((applyI x u20.rp).getD cZ).gs).length c31],.bool ((applyI x u20.rp).isSome)]) rfl rfl)<|Ze (X6 (vs:=[.agg #[vi (((applyI x u20.rp).getD cZ).n),.slice A31 (((applyI x u20.rp).getD cZ).gs).length c31],.bool ((applyI x u20.rp).isSome)]) rfl rfl) ?_
  refine Zf (Xa (zs:=[vi 0,.slice none 0 0]) X3n rfl) ?_;rintro _ w10 ⟨b33,rfl,hl33,hE,hB33⟩
  have hne13_33:b13≠b33:=by have:=hB13.lt;omega
  have hlo33:=Nat.le_trans hW.size hl33
  replace hB5:=hB5.below hE
  replace hB13:=hB13.below hE
  replace hB29:=hB29.below hE
  replace hr16:=hr16.below hE
  replace hr25:=hr25.below hE
  replace hr26:=hr26.below hE
  replace ho31:=ho31.below hE
  replace hd_l:=hd_l.below hE
  replace hW:=btr hW hE
  refine Zo (Vw [vi (((applyI x u20.rp).getD cZ).n),.slice A31 (((applyI x u20.rp).getD cZ).gs).length c31] X1j hB33) ?_;rintro _ w11 ⟨ho,hb⟩
  have hold:=hB33
  replace hB5:=hB5.only ho (Blk.ne hB5 hold rfl)
  replace hB13:=hB13.only ho (by omega)
  replace hB29:=hB29.only ho (Blk.ne hB29 hold rfl)
  replace hr16:=hr16.onlyT ho hold rfl
  replace hr25:=hr25.onlyT ho hold rfl
  replace hr26:=hr26.onlyT ho hold rfl
  replace ho31:=ho31.onlyT ho hold rfl
  replace hd_l:=hd_l.only ho hlo33
  replace hW:=Below.only hW ho hlo33
  clear hold
  have hB33:=hb
  clear hb ho
  refine Za rfl ?_
  refine Zt hK30 fun a hf=>?_
  refine Zs hf fun _ hK34=>?_
  refine Ze (Vd rfl X0t 0)<|Ze (X0 rfl X5 (hB13.at 0))<|Ze (Vn X2u hB29) ?_
  refine Zf (Vc (F12 _ x.n u20.rp u20.A u20.c hr25.top u20.B u20.d hr26.top hsu.1 hsu.2) Xk3) ?_;rintro _ w12 ⟨rfl,hE⟩
  replace hB5:=hB5.below hE
  replace hB13:=hB13.below hE
  replace hB29:=hB29.below hE
  replace hB33:=hB33.below hE
  replace hr16:=hr16.below hE
  replace hr25:=hr25.below hE
  replace hr26:=hr26.below hE
  replace ho31:=ho31.below hE
  replace hd_l:=hd_l.below hE
  replace hW:=btr hW hE
  refine Zm rfl<|Ze (X6 (vs:=[.bool ((implJ x.n u20.rp).1),.bool ((implJ x.n u20.rp).2)]) rfl rfl)<|Ze (X6 (vs:=[.bool ((implJ x.n u20.rp).1),.bool ((implJ x.n u20.rp).2)]) rfl rfl)<|Za rfl<|Za rfl ?_
  refine Zt hK34 fun a hf=>?_
  refine wp_seq_k fun _ hK35=>?_
  refine wp_seq_k fun _ hK36=>?_
  refine X06 (fun a w=>Fr a 67 [(1,.pointer (some ⟨b5,0,none⟩)),(4,.pointer (some ⟨b13,0,none⟩)),(5,vi (k:Int)),(7,.pointer (some ⟨b33,0,none⟩)),(24,.slice Al l.length cl),(25,vi (l.length:Int)),(26,vi (k:Int)),(53,.bool (((!((applyI x u20.rp).isSome))||(!((implJ x.n u20.rp).2)))||(!((implJ x.n u20.rp).1))))]∧w12=w) ?_ ?_
  ·refine Zr hf ?_
   refine Zm rfl<|Ze (X09 rfl)<|Zm rfl ?_
   refine Zg 46 rfl (fun hg37=>?_) (fun hg37=>?_)
   ·refine Zp ⟨_,_,rfl,rfl,hg37⟩ ?_
    refine Zp ⟨_,_,rfl,rfl,hg37⟩ ?_
    refine Ze (X9 rfl hg37 rfl)<|Zm rfl<|Zp ⟨_,_,rfl,rfl,rfl⟩ ?_
    refine Zp ⟨_,_,rfl,rfl,rfl⟩ ?_
    refine Ze (X9 rfl rfl rfl) ?_
    refine Zn fun a hf=>?_
    exact ⟨hf.sub ⟨rfl,rfl,rfl,rfl,rfl,rfl,rfl,X1 rfl (by first|rfl|(simp only [hc9b,hc19b,hg37,bs];done)|simp [hc9b,hc19b,hg37]),trivial⟩,rfl⟩
   refine Zv ⟨_,_,rfl,rfl,hg37⟩ (X8 rfl) ?_
   refine Zv ⟨_,_,rfl,rfl,hg37⟩ (X09 rfl) ?_
   refine Ze (X7 rfl hg37 rfl)<|Zm rfl ?_
   refine Zg 50 rfl (fun hg38=>?_) (fun hg38=>?_)
   ·refine Zp ⟨_,_,rfl,rfl,hg38⟩ ?_
    refine Zp ⟨_,_,rfl,rfl,hg38⟩ ?_
    refine Ze (X9 rfl hg38 rfl) ?_
    refine Zn fun a hf=>?_
    exact ⟨hf.sub ⟨rfl,rfl,rfl,rfl,rfl,rfl,rfl,X1 rfl (by first|rfl|(simp only [hc9b,hc19b,hg37,hg38,bs];done)|simp [hc9b,hc19b,hg37,hg38]),trivial⟩,rfl⟩
   refine Zv ⟨_,_,rfl,rfl,hg38⟩ (X8 rfl) ?_
   refine Zv ⟨_,_,rfl,rfl,hg38⟩ (X09 rfl) ?_
   refine Ze (X7 rfl hg38 rfl) ?_
   refine Zn fun a hf=>?_
   exact ⟨hf.sub ⟨rfl,rfl,rfl,rfl,rfl,rfl,rfl,X1 rfl (by first|rfl|(simp only [hc9b,hc19b,hg37,hg38,bs];done)|simp [hc9b,hc19b,hg37,hg38]),trivial⟩,rfl⟩
  rintro a _ ⟨hf,rfl⟩
  refine hK36 _ _ ?_
  refine Xb hf rfl (fun hc39=>?_) (fun hc39=>?_)
  ·have hc39b:=hc39
   have hfin:checkLI 0 c d (l.map Sr.rp)=(k:Int)+1:=by rw [← hinv,checkLI,if_neg];revert hc39;cases (applyI x u20.rp).isSome<;>cases (implJ x.n u20.rp).1<;>cases (implJ x.n u20.rp).2<;>simp
   refine Zs hf fun _ hK40=>?_
   refine Zm rfl<|Ze (Xy rfl rfl (by omega) (by omega))<|Za rfl<|Za rfl ?_
   refine Zt hK40 fun a hf=>?_
   refine wp_ret ?_
   refine X3 ?_
   refine Xj ?_
   refine X3 ?_
   refine X3 ?_
   refine Xj ?_
   refine X3 ?_
   refine X2 hf (X0q hf rfl rfl rfl) ?_
   exact ⟨by rw [hy,← hfin],hW⟩
  have hc39b:=hc39
  have hj3:((applyI x u20.rp).isSome&&(implJ x.n u20.rp).2&&(implJ x.n u20.rp).1)=true:=by revert hc39;cases (applyI x u20.rp).isSome<;>cases (implJ x.n u20.rp).1<;>cases (implJ x.n u20.rp).2<;>simp
  have hst:checkLI (k+1) ((applyI x u20.rp).getD cZ) d ((l.map Sr.rp).drop (k+1))=checkLI 0 c d (l.map Sr.rp):=by rw [← hinv,checkLI,if_pos hj3]
  obtain ⟨x1,hap⟩ : ∃ x1,applyI x u20.rp=some x1:=by revert hj3;cases applyI x u20.rp<;>simp
  have hx1:cOk x1=true:=by have h9:=X7g (r:=u20.rp) hx;rw [h9.1] at hap;exact (h9.2 x1 hap).1
  refine wp_skip ?_
  refine hK35 _ _ ?_
  refine Zr hf ?_
  refine Ze (Vn X0c hB33) ?_
  refine Zo (Vw [vi (((applyI x u20.rp).getD cZ).n),.slice A31 (((applyI x u20.rp).getD cZ).gs).length c31] X1j hB13) ?_;rintro _ w13 ⟨ho,hb⟩
  have hold:=hB13
  replace hB5:=hB5.only ho (Blk.ne hB5 hold rfl)
  replace hB33:=hB33.only ho (by omega)
  replace hr16:=hr16.onlyT ho hold rfl
  replace ho31:=ho31.onlyT ho hold rfl
  replace hd_l:=hd_l.only ho hlo13
  replace hW:=Below.only hW ho hlo13
  clear hold
  have hB13:=hb
  clear hb ho
  refine Zn fun a hf=>?_
  refine Xn ?_
  refine hK21 _ _ ?_
  refine Zr hf ?_
  refine Ze (Xy rfl rfl (by omega) (by omega))<|Zm rfl ?_
  refine Zn fun a hf=>?_
  refine Xk ?_
  exact ⟨(k+1,((applyI x u20.rp).getD cZ)),⟨A31,c31,hf.sub ⟨rfl,rfl,rfl,rfl,rfl,trivial⟩,(by omega),(by rw [hap];exact hx1),hst,hB5,hB13,ho31.rd,hp_c,hd_l,ho31.cap,hW⟩,(by first|omega|(dsimp only;omega))⟩
 have hc19b:=hc19
 have hc19:=of_decide_eq_false hc19
 have hdk:(l.map Sr.rp).drop k=[]:=List.drop_of_length_le (by rw [List.length_map];omega)
 have hkl:k=l.length:=by omega
 rw [hdk,checkLI] at hinv
 refine wp_exit ?_
 refine Xm ?_
 refine Xm ?_
 refine X03 ?_
 refine hK14 _ _ ?_
 refine wp_seq_k fun _ hK41=>?_
 refine Zs hf fun _ hK42=>?_
 refine Ze (Vn X0c hB13)<|Ze (Vd rfl X2z 3)<|Ze (Xi (l:=[vi d.n,.slice Ad d.gs.length cd]) rfl X0c ((hB5.at 3).take 2) rfl) ?_
 refine Zf (Vc (F67 _ x A16 c16 hr16.top d Ad cd (hr_d.below' hW).top (by omega)) Xi4) ?_;rintro _ w14 ⟨rfl,hE⟩
 replace hB5:=hB5.below hE
 replace hB13:=hB13.below hE
 replace hr16:=hr16.below hE
 replace hd_l:=hd_l.below hE
 replace hW:=btr hW hE
 refine Ze (X09 rfl) ?_
 refine Zt hK42 fun a hf=>?_
 refine Xb hf rfl (fun hc43=>?_) (fun hc43=>?_)
 ·have hc43b:=hc43
  have hq:eqC x d=false:=by revert hc43;cases eqC x d<;>simp
  rw [hq,if_neg (by decide)] at hinv
  refine Zs hf fun _ hK44=>?_
  refine Ze (Vd rfl X2y 2)<|Ze (X0 rfl X6u (hB5.at 2))<|Ze (X0d rfl X3g)<|Ze (Xy rfl rfl (by omega) (by omega))<|Za rfl ?_
  refine Za rfl ?_
  refine Zt hK44 fun a hf=>?_
  refine wp_ret ?_
  refine X3 ?_
  refine X2 hf (X0q hf rfl rfl rfl) ?_
  exact ⟨by rw [hy,← hinv,hkl],hW⟩
 have hc43b:=hc43
 have hq:eqC x d=true:=by revert hc43;cases eqC x d<;>simp
 rw [hq,if_pos rfl] at hinv
 refine wp_skip ?_
 refine hK41 _ _ ?_
 refine Zs hf fun _ hK45=>?_
 refine Za rfl<|Za rfl ?_
 refine Zt hK45 fun a hf=>?_
 refine wp_ret (X2 hf (X0q hf rfl rfl rfl) ?_)
 exact ⟨by rw [hy,← hinv],hW⟩
end Go.Proofs.YtfgnmflfiobkmaaGreat
set_option maxRecDepth 4000
namespace Go.Proofs.YtfgnmflfiobkmaaGreat
open Go.RowKit
theorem F14(w0:World){Xc:TypeId}(c:Cx)(Ac:Option Addr)(cc:Nat)(hr_c:Rd w0 w0.heap.size Xc encG Ac c.gs)(t:Int)(ht:0≤t∧t≤1048576)(hlc:c.gs.length≤9223372036854775807) : Ret Tryz.prog 14 [.agg #[vi c.n,.slice Ac c.gs.length cc],vi t] w0 (fun v w=>v=vi (szG c.gs t)∧Below w0.heap.size w0 w):=by
 refine enter Tryz.func14 rfl 12 rfl rfl ?_
 intro a hf
 have hW:Below w0.heap.size w0 w0:=Below.refl _ _
 refine Zs hf fun _ hK2=>?_
 refine Zf (Xu (zs:=[vi c.n,.slice Ac c.gs.length cc]) rfl rfl) ?_;rintro _ w1 ⟨b3,rfl,hl3,hE,hB3⟩
 have hlo3:=Nat.le_trans hW.size hl3
 replace hW:=btr hW hE
 refine Za rfl ?_
 refine Zt hK2 fun a hf=>?_
 refine Zs hf fun _ hK4=>?_
 refine Ze (Vd rfl Xd5 1)<|Ze (X0 rfl X95 (hB3.at 1))<|Zm rfl ?_
 refine Zf (Vc (F42 _ Ac cc c.gs (hr_c.below' hW).top t ht hlc) Xhk) ?_;rintro _ _ ⟨rfl,rfl⟩
 refine Za rfl ?_
 refine Zt hK4 fun a hf=>?_
 refine wp_seq_k fun _ hK5=>?_
 refine Zs hf fun _ hK6=>?_
 refine Zm rfl<|Ze (X0m rfl rfl) ?_
 refine Zt hK6 fun a hf=>?_
 refine Xb hf rfl (fun hc7=>?_) (fun hc7=>?_)
 ·have hc7b:=hc7
  have hc7:=of_decide_eq_true hc7
  have hfin:szG c.gs t = -1:=Xa3 hc7
  refine Zs hf fun _ hK8=>?_
  refine Za rfl ?_
  refine Zt hK8 fun a hf=>?_
  refine wp_ret ?_
  refine X3 ?_
  refine X2 hf (Xh hf rfl rfl) ?_
  exact ⟨by rw [hfin],hW⟩
 have hc7b:=hc7
 have hc7:=of_decide_eq_false hc7
 have hne:=hc7
 refine wp_skip ?_
 refine hK5 _ _ ?_
 refine Zs hf fun _ hK9=>?_
 refine Zm rfl<|Za rfl ?_
 refine Zt hK9 fun a hf=>?_
 refine wp_ret (X2 hf (Xh hf rfl rfl) ?_)
 exact ⟨rfl,hW⟩
theorem F16(w0:World){Xc:TypeId}(c:Cx)(Ac:Option Addr)(cc:Nat)(hr_c:Rd w0 w0.heap.size Xc encG Ac c.gs)(hlc:c.gs.length≤1048576) : Ret Tryz.prog 16 [.agg #[vi c.n,.slice Ac c.gs.length cc]] w0 (fun v w=>∃ A c1,v=.agg #[vi c.n,.slice A c.gs.length c1]∧Own w w0.heap.size 107 3 encG A c1 c.gs∧Below w0.heap.size w0 w):=by
 refine enter Tryz.func16 rfl 12 rfl rfl ?_
 intro a hf
 have hW:Below w0.heap.size w0 w0:=Below.refl _ _
 refine Zs hf fun _ hK2=>?_
 refine Zf (Xu (zs:=[vi c.n,.slice Ac c.gs.length cc]) rfl rfl) ?_;rintro _ w1 ⟨b3,rfl,hl3,hE,hB3⟩
 have hlo3:=Nat.le_trans hW.size hl3
 replace hW:=btr hW hE
 refine Zf (Xa (zs:=[vi 0,.slice none 0 0]) X3n rfl) ?_;rintro _ w2 ⟨b5,rfl,hl5,hE,hB5⟩
 have hlo5:=Nat.le_trans hW.size hl5
 replace hB3:=hB3.below hE
 replace hW:=btr hW hE
 refine Zt hK2 fun a hf=>?_
 refine Zs hf fun _ hK6=>?_
 refine Zf (Xa (zs:=[vi 0,.slice none 0 0]) X3n rfl) ?_;rintro _ w3 ⟨b8,rfl,hl8,hE,hB8⟩
 have hne5_8:b5≠b8:=by have:=hB5.lt;omega
 have hlo8:=Nat.le_trans hW.size hl8
 replace hB3:=hB3.below hE
 replace hB5:=hB5.below hE
 replace hW:=btr hW hE
 refine Zt hK6 fun a hf=>?_
 refine Zs hf fun _ hK9=>?_
 refine Ze (Vd rfl Xim 0)<|Ze (X0 rfl X5 (hB3.at 0))<|Ze (Vd rfl X0t 0) ?_
 refine Zo (Vu (vs:=[vi c.n]) (l':=[vi c.n,.slice none 0 0]) rfl rfl X0z hB8) ?_;rintro _ w4 ⟨ho,hb⟩
 have hold:=hB8
 replace hB3:=hB3.only ho (Blk.ne hB3 hold rfl)
 replace hB5:=hB5.only ho (by omega)
 replace hW:=Below.only hW ho hlo8
 clear hold
 have hB8:=hb
 clear hb ho
 refine Zt hK9 fun a hf=>?_
 refine Zs hf fun _ hK10=>?_
 refine Ze (Vd rfl Xd5 1)<|Ze (X0 rfl X95 (hB3.at 1)) ?_
 refine Zf (Vc (F45 _ Ac cc c.gs (hr_c.below' hW).top hlc) Xhc) ?_;rintro _ w5 ⟨A11,c11,rfl,ho11,hE⟩
 replace ho11:=ho11.lower hW.size
 replace hB3:=hB3.below hE
 replace hB5:=hB5.below hE
 replace hB8:=hB8.below hE
 replace hW:=btr hW hE
 refine Ze (Vd rfl X07 1) ?_
 refine Zo (Vu (vs:=[.slice A11 c.gs.length c11]) (l':=[vi c.n,.slice A11 c.gs.length c11]) rfl rfl X4a hB8) ?_;rintro _ w6 ⟨ho,hb⟩
 have hold:=hB8
 replace hB3:=hB3.only ho (Blk.ne hB3 hold rfl)
 replace hB5:=hB5.only ho (by omega)
 replace ho11:=ho11.onlyT ho hold rfl
 replace hW:=Below.only hW ho hlo8
 clear hold
 have hB8:=hb
 clear hb ho
 refine Zt hK10 fun a hf=>?_
 refine Zs hf fun _ hK12=>?_
 refine Ze (Vn X0c hB8) ?_
 refine Zo (Vw [vi c.n,.slice A11 c.gs.length c11] X1j hB5) ?_;rintro _ w7 ⟨ho,hb⟩
 have hold:=hB5
 replace hB8:=hB8.only ho (by omega)
 replace ho11:=ho11.onlyT ho hold rfl
 replace hW:=Below.only hW ho hlo5
 clear hold
 have hB5:=hb
 clear hb ho
 refine Zt hK12 fun a hf=>?_
 refine wp_ret (X2 hf (Xh hf rfl (ResV.cellN (l:=[vi c.n,.slice A11 c.gs.length c11]) rfl X0c (hB5.at 0) rfl)) ?_)
 exact ⟨A11,c11,rfl,ho11,hW⟩
theorem F19(w0:World)(p:Cx)(Ap:Option Addr)(cp:Nat)(hr_p:Rd w0 w0.heap.size 107 encG Ap p.gs)(q:Cx)(Aq:Option Addr)(cq:Nat)(hr_q:Rd w0 w0.heap.size 107 encG Aq q.gs)(hln:p.gs.length≤2305843009213693951) : Ret Tryz.prog 19 [.agg #[vi p.n,.slice Ap p.gs.length cp],.agg #[vi q.n,.slice Aq q.gs.length cq]] w0 (fun v w=>v=.bool (eqC p q)∧Below w0.heap.size w0 w):=by
 refine enter Tryz.func19 rfl 16 rfl rfl ?_
 intro a hf
 have hW:Below w0.heap.size w0 w0:=Below.refl _ _
 refine Zs hf fun _ hK3=>?_
 refine Zf (Xu (zs:=[vi p.n,.slice Ap p.gs.length cp]) rfl rfl) ?_;rintro _ w1 ⟨b4,rfl,hl4,hE,hB4⟩
 have hlo4:=Nat.le_trans hW.size hl4
 replace hW:=btr hW hE
 refine Zf (Xu (zs:=[vi q.n,.slice Aq q.gs.length cq]) rfl rfl) ?_;rintro _ w2 ⟨b5,rfl,hl5,hE,hB5⟩
 have hne4_5:b4≠b5:=by have:=hB4.lt;omega
 have hlo5:=Nat.le_trans hW.size hl5
 replace hB4:=hB4.below hE
 replace hW:=btr hW hE
 refine Za rfl ?_
 refine Zt hK3 fun a hf=>?_
 refine wp_seq_k fun _ hK6=>?_
 refine Zs hf fun _ hK7=>?_
 refine Ze (Vd rfl X0t 0)<|Ze (X0 rfl X5 (hB4.at 0))<|Ze (Vd rfl X0t 0)<|Ze (X0 rfl X5 (hB5.at 0))<|Ze (X1g rfl rfl) ?_
 refine Zt hK7 fun a hf=>?_
 refine Xb hf rfl (fun hc8=>?_) (fun hc8=>?_)
 ·have hc8b:=hc8
  have hn:¬ p.n=q.n:=by simpa using hc8
  refine Zs hf fun _ hK9=>?_
  refine Za rfl ?_
  refine Zt hK9 fun a hf=>?_
  refine wp_ret ?_
  refine X3 ?_
  refine X2 hf (Xh hf rfl rfl) ?_
  exact ⟨by simp [eqC,hn],hW⟩
 have hc8b:=hc8
 have e1:p.n=q.n:=by simpa using hc8
 refine wp_skip ?_
 refine hK6 _ _ ?_
 refine wp_seq_k fun _ hK10=>?_
 refine Zs hf fun _ hK11=>?_
 refine Ze (Vd rfl X07 1)<|Ze (X0 rfl X0e (hB4.at 1))<|Ze (Vd rfl X07 1)<|Ze (X0 rfl X0e (hB5.at 1)) ?_
 refine Zf (Vc (F52 _ Ap cp p.gs (hr_p.below' hW).top Aq cq q.gs (hr_q.below' hW).top hln) Xi1) ?_;rintro _ w3 ⟨rfl,hE⟩
 replace hB4:=hB4.below hE
 replace hB5:=hB5.below hE
 replace hW:=btr hW hE
 refine Ze (X09 rfl) ?_
 refine Zt hK11 fun a hf=>?_
 refine Xb hf rfl (fun hc12=>?_) (fun hc12=>?_)
 ·have hc12b:=hc12
  have hn:¬ p.gs=q.gs:=by simpa using hc12
  refine Zs hf fun _ hK13=>?_
  refine Za rfl ?_
  refine Zt hK13 fun a hf=>?_
  refine wp_ret ?_
  refine X3 ?_
  refine X2 hf (Xh hf rfl rfl) ?_
  exact ⟨by simp [eqC,hn],hW⟩
 have hc12b:=hc12
 have e2:p.gs=q.gs:=by simpa using hc12
 refine wp_skip ?_
 refine hK10 _ _ ?_
 refine Zs hf fun _ hK14=>?_
 refine Za rfl ?_
 refine Zt hK14 fun a hf=>?_
 refine wp_ret (X2 hf (Xh hf rfl rfl) ?_)
 exact ⟨by simp [eqC,e1,e2],hW⟩
theorem F62(w0:World){Xl:TypeId}(Al:Option Addr)(cl:Nat)(l:List Sr)(hr_l:Rd w0 w0.heap.size Xl encSr Al l)(hd_l:DeepX w0 w0.heap.size l)(t:Int)(ht:0≤t∧t≤1048576)(hln:l.length≤9223372036854775807)(hll:∀ s ∈ l,s.old.length≤9223372036854775807∧s.new.length≤9223372036854775807) : Ret Tryz.prog 62 [.slice Al l.length cl,vi t] w0 (fun v w=>v=vi (szL l t)∧Below w0.heap.size w0 w):=by
 refine enter Tryz.func62 rfl 27 rfl rfl ?_
 intro a hf
 have hW:Below w0.heap.size w0 w0:=Below.refl _ _
 refine Zs hf fun _ hK2=>?_
 refine Za rfl ?_
 refine Zt hK2 fun a hf=>?_
 refine Zs hf fun _ hK3=>?_
 refine Zm rfl<|Zm rfl<|Ze (X0d rfl X8m)<|Ze (X11 rfl rfl (by omega) (by omega))<|Za rfl ?_
 refine Zt hK3 fun a hf=>?_
 refine wp_seq_k fun _ hK4=>?_
 refine Zs hf fun _ hK5=>?_
 refine Zm rfl<|Ze (X0m rfl rfl) ?_
 refine Zt hK5 fun a hf=>?_
 refine Xb hf rfl (fun hc6=>?_) (fun hc6=>?_)
 ·have hc6b:=hc6
  have hc6:=of_decide_eq_true hc6
  have hfin:szL l t = -1:=by rw [szL,if_pos hc6]
  refine Zs hf fun _ hK7=>?_
  refine Za rfl ?_
  refine Zt hK7 fun a hf=>?_
  refine wp_ret ?_
  refine X3 ?_
  refine X2 hf (Xh hf rfl rfl) ?_
  exact ⟨by rw [hfin],hW⟩
 have hc6b:=hc6
 have hc6:=of_decide_eq_false hc6
 have hne:=hc6
 refine wp_skip ?_
 refine hK4 _ _ ?_
 refine wp_seq_k fun _ hK8=>?_
 refine Zs hf fun _ hK9=>?_
 refine Za rfl ?_
 refine Zt hK9 fun a hf=>?_
 refine wp_block ?_
 refine X04 (σ:=Nat×Int) (fun (s:Nat×Int) (a:Act) (w:World)=>match s with|(k,x)=>Fr a 27 [(0,.slice Al l.length cl),(1,vi x),(5,vi (k:Int))]∧(k≤l.length)∧(0≤x∧x≤1048576)∧(szF (l.drop k) x=szF l (t-(l.length:Int)))∧DeepX w w0.heap.size l∧Below w0.heap.size w0 w) (fun (s:Nat×Int)=>match s with|(k,x)=>l.length-k) (0,t-(l.length:Int)) ?_ ?_
 · exact ⟨hf.sub ⟨rfl,rfl,rfl,trivial⟩,(Nat.zero_le _),(by omega),rfl,hd_l,hW⟩
 rintro ⟨k,x⟩ a w1 ⟨hf,hk,hx,hinv,hd_l,hW⟩
 refine wp_seq_k fun _ hK10=>?_
 refine Zs hf fun _ hK11=>?_
 refine Zm rfl<|Zm rfl<|Ze (X0d rfl X8m)<|Ze (X0m rfl rfl) ?_
 refine Zt hK11 fun a hf=>?_
 refine Xb hf rfl (fun hc12=>?_) (fun hc12=>?_)
 ·have hc12b:=hc12
  have hc12:=of_decide_eq_true hc12
  obtain ⟨u13,hu13⟩:=Xf (l:=l) (k:=k) (by omega)
  have hsu:=hll u13 (List.mem_of_getElem? hu13)
  have hsf:=Xg0 hu13 x
  refine wp_skip ?_
  refine hK10 _ _ ?_
  refine wp_seq_k fun _ hK14=>?_
  refine wp_block ?_
  refine Zs hf fun _ hK15=>?_
  refine Zm rfl<|Zm rfl ?_
  refine Zi (k:=k) (u:=u13) (enc:=encSr) (l:=l) trivial rfl rfl X8m Xk5 X1w (hr_l.below' hW) hu13 rfl ?_;intro p17 hat16
  obtain ⟨E18,hr18⟩:=(hd_l u13 (List.mem_of_getElem? hu13)).1
  obtain ⟨E19,hr19⟩:=(hd_l u13 (List.mem_of_getElem? hu13)).2
  refine Ze (Xi (l:=[vi u13.pos,.slice u13.A u13.old.length u13.c,.slice u13.B u13.new.length u13.d]) rfl X97 hat16 rfl)<|Zm rfl ?_
  refine Zf (Vc (F9 _ u13.rp u13.A u13.c hr18.top u13.B u13.d hr19.top x (by omega) hsu.1 hsu.2) Xpp) ?_;rintro _ w2 ⟨rfl,hE⟩
  replace hr18:=hr18.below hE
  replace hr19:=hr19.below hE
  replace hd_l:=hd_l.below hE
  replace hW:=btr hW hE
  refine Za rfl ?_
  refine Zt hK15 fun a hf=>?_
  refine Zs hf fun _ hK20=>?_
  refine Zm rfl<|Ze (X0m rfl rfl) ?_
  refine Zt hK20 fun a hf=>?_
  refine Xb hf rfl (fun hc21=>?_) (fun hc21=>?_)
  ·have hc21b:=hc21
   have hc21:=of_decide_eq_true hc21
   have hfin:szL l t = -1:=by rw [szL,if_neg hne,← hinv,hsf,if_pos hc21]
   refine Zs hf fun _ hK22=>?_
   refine Za rfl ?_
   refine Zt hK22 fun a hf=>?_
   refine wp_ret ?_
   refine Xj ?_
   refine X3 ?_
   refine X3 ?_
   refine Xj ?_
   refine X3 ?_
   refine X2 hf (Xh hf rfl rfl) ?_
   exact ⟨by rw [hfin],hW⟩
  have hc21b:=hc21
  have hc21:=of_decide_eq_false hc21
  have hx1:=Xcs hc21
  rw [if_neg hc21] at hsf
  refine wp_skip ?_
  refine Xn ?_
  refine hK14 _ _ ?_
  refine Zr hf ?_
  refine Zm rfl<|Ze (Xy rfl rfl (by omega) (by omega))<|Za rfl ?_
  refine Zn fun a hf=>?_
  refine Xk ?_
  exact ⟨(k+1,(szR u13.rp x)),⟨hf.sub ⟨rfl,rfl,rfl,trivial⟩,(by omega),(by omega),(by rw [← hsf,hinv]),hd_l,hW⟩,(by first|omega|(dsimp only;omega))⟩
 have hc12b:=hc12
 have hc12:=of_decide_eq_false hc12
 refine wp_exit ?_
 refine Xm ?_
 refine Xm ?_
 refine X03 ?_
 refine hK8 _ _ ?_
 refine Zs hf fun _ hK23=>?_
 refine Zm rfl<|Za rfl ?_
 refine Zt hK23 fun a hf=>?_
 refine wp_ret (X2 hf (Xh hf rfl rfl) ?_)
 have hfin:szL l t=x:=by rw [szL,if_neg hne,← hinv,List.drop_of_length_le (by omega)];rfl
 exact ⟨by rw [hfin],hW⟩
theorem F26(w0:World){Xc:TypeId}(c:Cx)(Ac:Option Addr)(cc:Nat)(hr_c:Rd w0 w0.heap.size Xc encG Ac c.gs){Xl:TypeId}(Al:Option Addr)(cl:Nat)(l:List Sr)(hr_l:Rd w0 w0.heap.size Xl encSr Al l)(hd_l:DeepX w0 w0.heap.size l){Xd:TypeId}(d:Cx)(Ad:Option Addr)(cd:Nat)(hr_d:Rd w0 w0.heap.size Xd encG Ad d.gs)(t:Int)(ht:0≤t∧t≤1048576)(hlc:c.gs.length≤9223372036854775807)(hls:l.length≤9223372036854775807)(hll:∀ s ∈ l,s.old.length≤9223372036854775807∧s.new.length≤9223372036854775807)(hld:d.gs.length≤9223372036854775807) : Ret Tryz.prog 26 [.agg #[vi c.n,.slice Ac c.gs.length cc,.slice Al l.length cl,vi d.n,.slice Ad d.gs.length cd],vi t] w0 (fun v w=>v=vi (szZ c l d t)∧Below w0.heap.size w0 w):=by
 refine enter Tryz.func26 rfl 24 rfl rfl ?_
 intro a hf
 have hW:Below w0.heap.size w0 w0:=Below.refl _ _
 refine Zs hf fun _ hK4=>?_
 refine Zf (Xu (zs:=[vi c.n,.slice Ac c.gs.length cc,.slice Al l.length cl,vi d.n,.slice Ad d.gs.length cd]) rfl rfl) ?_;rintro _ w1 ⟨b5,rfl,hl5,hE,hB5⟩
 have hlo5:=Nat.le_trans hW.size hl5
 replace hd_l:=hd_l.below hE
 replace hW:=btr hW hE
 refine Za rfl ?_
 refine Zt hK4 fun a hf=>?_
 refine Zs hf fun _ hK6=>?_
 refine Ze (Vd rfl Xd3 0)<|Ze (Xi (l:=[vi c.n,.slice Ac c.gs.length cc]) rfl X55 ((hB5.at 0).take 2) rfl)<|Zm rfl ?_
 refine Zf (Vc (F14 _ c Ac cc (hr_c.below' hW).top t ht hlc) Xdi) ?_;rintro _ w2 ⟨rfl,hE⟩
 replace hB5:=hB5.below hE
 replace hd_l:=hd_l.below hE
 replace hW:=btr hW hE
 refine Za rfl ?_
 refine Zt hK6 fun a hf=>?_
 refine wp_seq_k fun _ hK7=>?_
 refine Zs hf fun _ hK8=>?_
 refine Zm rfl<|Ze (X0m rfl rfl) ?_
 refine Zt hK8 fun a hf=>?_
 refine Xb hf rfl (fun hc9=>?_) (fun hc9=>?_)
 ·have hc9b:=hc9
  have hc9:=of_decide_eq_true hc9
  have hfin:szZ c l d t = -1:=by rw [szZ,if_pos hc9]
  refine Zs hf fun _ hK10=>?_
  refine Za rfl ?_
  refine Zt hK10 fun a hf=>?_
  refine wp_ret ?_
  refine X3 ?_
  refine X2 hf (Xh hf rfl rfl) ?_
  exact ⟨by rw [hfin],hW⟩
 have hc9b:=hc9
 have hc9:=of_decide_eq_false hc9
 have hn1:¬ szG c.gs t<0:=hc9
 refine wp_skip ?_
 refine hK7 _ _ ?_
 refine Zs hf fun _ hK11=>?_
 refine Ze (Vd rfl Xdj 2)<|Ze (X0 rfl Xkf (hB5.at 2))<|Zm rfl ?_
 refine Zf (Vc (F62 _ Al cl l (hr_l.below' hW).top hd_l.top (szG c.gs t) (by have:=X3f hn1;omega) hls hll) Xpt) ?_;rintro _ w3 ⟨rfl,hE⟩
 replace hB5:=hB5.below hE
 replace hd_l:=hd_l.below hE
 replace hW:=btr hW hE
 refine Za rfl ?_
 refine Zt hK11 fun a hf=>?_
 refine wp_seq_k fun _ hK12=>?_
 refine Zs hf fun _ hK13=>?_
 refine Zm rfl<|Ze (X0m rfl rfl) ?_
 refine Zt hK13 fun a hf=>?_
 refine Xb hf rfl (fun hc14=>?_) (fun hc14=>?_)
 ·have hc14b:=hc14
  have hc14:=of_decide_eq_true hc14
  have hfin:szZ c l d t = -1:=by rw [szZ,if_neg hn1,if_pos hc14]
  refine Zs hf fun _ hK15=>?_
  refine Za rfl ?_
  refine Zt hK15 fun a hf=>?_
  refine wp_ret ?_
  refine X3 ?_
  refine X2 hf (Xh hf rfl rfl) ?_
  exact ⟨by rw [hfin],hW⟩
 have hc14b:=hc14
 have hc14:=of_decide_eq_false hc14
 have hn2:¬ szL l (szG c.gs t)<0:=hc14
 refine wp_skip ?_
 refine hK12 _ _ ?_
 refine Zs hf fun _ hK16=>?_
 refine Ze (Vd rfl Xe1 3)<|Ze (Xi (l:=[vi d.n,.slice Ad d.gs.length cd]) rfl X55 ((hB5.at 3).take 2) rfl)<|Zm rfl ?_
 refine Zf (Vc (F14 _ d Ad cd (hr_d.below' hW).top (szL l (szG c.gs t)) (by have:=X3f hn1;have:=Xhx hn2;omega) hld) Xdi) ?_;rintro _ w4 ⟨rfl,hE⟩
 replace hB5:=hB5.below hE
 replace hd_l:=hd_l.below hE
 replace hW:=btr hW hE
 refine Za rfl ?_
 refine Zt hK16 fun a hf=>?_
 refine wp_seq_k fun _ hK17=>?_
 refine Zs hf fun _ hK18=>?_
 refine Zm rfl<|Ze (X0m rfl rfl) ?_
 refine Zt hK18 fun a hf=>?_
 refine Xb hf rfl (fun hc19=>?_) (fun hc19=>?_)
 ·have hc19b:=hc19
  have hc19:=of_decide_eq_true hc19
  have hfin:szZ c l d t = -1:=by rw [szZ,if_neg hn1,if_neg hn2];exact Xa3 hc19
  refine Zs hf fun _ hK20=>?_
  refine Za rfl ?_
  refine Zt hK20 fun a hf=>?_
  refine wp_ret ?_
  refine X3 ?_
  refine X2 hf (Xh hf rfl rfl) ?_
  exact ⟨by rw [hfin],hW⟩
 have hc19b:=hc19
 have hc19:=of_decide_eq_false hc19
 have hfin:szZ c l d t=szG d.gs (szL l (szG c.gs t)):=by rw [szZ,if_neg hn1,if_neg hn2]
 refine wp_skip ?_
 refine hK17 _ _ ?_
 refine Zs hf fun _ hK21=>?_
 refine Zm rfl<|Za rfl ?_
 refine Zt hK21 fun a hf=>?_
 refine wp_ret (X2 hf (Xh hf rfl rfl) ?_)
 exact ⟨by rw [hfin],hW⟩
end Go.Proofs.YtfgnmflfiobkmaaGreat
set_option maxRecDepth 4000
namespace Go.Proofs.YtfgnmflfiobkmaaGreat
open Go.RowKit
theorem F65(w0:World){Xl:TypeId}(Al:Option Addr)(cl:Nat)(l:List Sr)(hr_l:Rd w0 w0.heap.size Xl encSr Al l)(hd_l:DeepX w0 w0.heap.size l)(hls:l.length≤1048576)(hll:∀ s ∈ l,s.old.length≤1048576∧s.new.length≤1048576) : Ret Tryz.prog 65 [.slice Al l.length cl] w0 (fun v w=>∃ A c m,v=.slice A m.length c∧Own w w0.heap.size 30 3 encSr A c m∧DeepR w w.heap.size 107 m∧m.map Sr.rp=l.map Sr.rp∧Below w0.heap.size w0 w):=by
 refine enter Tryz.func65 rfl 23 rfl rfl ?_
 intro a hf
 have hW:Below w0.heap.size w0 w0:=Below.refl _ _
 refine Zs hf fun _ hK2=>?_
 refine Za rfl ?_
 refine Zt hK2 fun a hf=>?_
 refine Zs hf fun _ hK4=>?_
 refine Zm rfl<|Ze (X0d rfl X8m) ?_
 refine Zf (X1n (m:=l.length) (enc:=encSr) (z0:=srZ) rfl rfl X3g Xl1 Xed rfl X1w (by omega) (by omega)) ?_;rintro _ w1 ⟨b5,rfl,hl5,hE,hB5⟩
 have hlo5:=Nat.le_trans hW.size hl5
 replace hd_l:=hd_l.below hE
 replace hW:=btr hW hE
 have hdp6:=DeepR.zero w1 w1.heap.size 107 l.length
 refine Za rfl ?_
 refine Zt hK4 fun a hf=>?_
 refine wp_seq_k fun _ hK7=>?_
 refine Zs hf fun _ hK8=>?_
 refine Za rfl ?_
 refine Zt hK8 fun a hf=>?_
 refine wp_block ?_
 refine X04 (σ:=Nat×(List Sr)) (fun (s:Nat×(List Sr)) (a:Act) (w:World)=>match s with|(k,m)=>Fr a 23 [(0,.slice Al l.length cl),(3,.slice (some ⟨b5,0,none⟩) l.length l.length),(4,vi (k:Int))]∧(k≤l.length)∧(m.length=l.length)∧((m.take k).map Sr.rp=(l.take k).map Sr.rp)∧Blk w b5 30 (m.flatMap encSr)∧DeepX w w0.heap.size l∧DeepR w w.heap.size 107 m∧Below w0.heap.size w0 w) (fun (s:Nat×(List Sr))=>match s with|(k,m)=>l.length-k) (0,List.replicate l.length srZ) ?_ ?_
 · exact ⟨hf.sub ⟨rfl,rfl,rfl,trivial⟩,(Nat.zero_le _),(by simp),rfl,hB5,hd_l,hdp6.top,hW⟩
 rintro ⟨k,m⟩ a w2 ⟨hf,hk,hml,hpre,hB5,hd_l,hdp6,hW⟩
 refine wp_seq_k fun _ hK9=>?_
 refine Zs hf fun _ hK10=>?_
 refine Zm rfl<|Zm rfl<|Ze (X0d rfl X8m)<|Ze (X0m rfl rfl) ?_
 refine Zt hK10 fun a hf=>?_
 refine Xb hf rfl (fun hc11=>?_) (fun hc11=>?_)
 ·have hc11b:=hc11
  have hc11:=of_decide_eq_true hc11
  obtain ⟨u12,hu12⟩:=Xf (l:=l) (k:=k) (by omega)
  have hsu:=hll u12 (List.mem_of_getElem? hu12)
  refine wp_skip ?_
  refine hK9 _ _ ?_
  refine wp_seq_k fun _ hK13=>?_
  refine wp_block ?_
  refine Zr hf ?_
  refine Zm rfl<|Zm rfl<|Zm rfl<|Zm rfl ?_
  refine Zi (k:=k) (u:=u12) (enc:=encSr) (l:=l) trivial rfl rfl X8m Xk5 X1w (hr_l.below' hW) hu12 rfl ?_;intro p15 hat14
  obtain ⟨E16,hr16⟩:=(hd_l u12 (List.mem_of_getElem? hu12)).1
  obtain ⟨E17,hr17⟩:=(hd_l u12 (List.mem_of_getElem? hu12)).2
  refine Ze (Xi (l:=[vi u12.pos,.slice u12.A u12.old.length u12.c,.slice u12.B u12.new.length u12.d]) rfl X97 hat14 rfl) ?_
  refine Zf (Vc (F11 _ u12.rp u12.A u12.c hr16.top u12.B u12.d hr17.top hsu.1 hsu.2) Xdv) ?_;rintro _ w3 ⟨A18,c18,A19,c19,rfl,ho18,ho19,hE⟩
  replace ho18:=ho18.lower hW.size
  replace ho19:=ho19.lower hW.size
  replace hB5:=hB5.below hE
  replace hr16:=hr16.below hE
  replace hr17:=hr17.below hE
  replace hd_l:=hd_l.below hE
  replace hdp6:=hdp6.below hE
  replace hW:=btr hW hE
  refine Ze (X3h (k:=k) (off:=k*3) rfl rfl X3g X57 rfl (by omega) rfl) ?_
  refine Zo (X3i (enc:=encSr) (l:=m) (u:=(⟨u12.rp.pos,A18,c18,u12.rp.old,A19,c19,u12.rp.new⟩ : Sr)) (k:=k) rfl rfl X57 hB5 X1w Xf0 rfl (by omega)) ?_;rintro _ w4 ⟨ho,hb⟩
  have hold:=hB5
  replace hr16:=hr16.only ho hlo5
  replace hr17:=hr17.only ho hlo5
  replace ho18:=ho18.onlyT ho hold rfl
  replace ho19:=ho19.onlyT ho hold rfl
  replace hd_l:=hd_l.only ho hlo5
  replace hdp6:=hdp6.onlyT ho hold rfl
  replace hW:=Below.only hW ho hlo5
  clear hold
  have hB5:=hb
  clear hb ho
  replace hdp6:=DeepR.set (hdp6.top) (x:=(⟨u12.rp.pos,A18,c18,u12.rp.old,A19,c19,u12.rp.new⟩ : Sr)) (ho18.rd.top) (ho19.rd.top) k
  refine Zn fun a hf=>?_
  refine Xn ?_
  refine hK13 _ _ ?_
  refine Zr hf ?_
  refine Zm rfl<|Ze (Xy rfl rfl (by omega) (by omega))<|Za rfl ?_
  refine Zn fun a hf=>?_
  refine Xk ?_
  exact ⟨(k+1,(m.set k (⟨u12.rp.pos,A18,c18,u12.rp.old,A19,c19,u12.rp.new⟩ : Sr))),⟨hf.sub ⟨rfl,rfl,rfl,trivial⟩,(by omega),(by simp;exact hml),(Xf9 hpre (by omega) hu12 rfl),hB5,hd_l,hdp6.top,hW⟩,(by first|omega|(dsimp only;omega))⟩
 have hc11b:=hc11
 have hc11:=of_decide_eq_false hc11
 have hke:k=l.length:=by omega
 refine wp_exit ?_
 refine Xm ?_
 refine Xm ?_
 refine X03 ?_
 refine hK7 _ _ ?_
 refine Zs hf fun _ hK20=>?_
 refine Zm rfl<|Za rfl ?_
 refine Zt hK20 fun a hf=>?_
 refine wp_ret (X2 hf (Xh hf rfl rfl) ?_)
 have hmk:m.length=l.length:=hml
 have hmkb:l.length≤maxLen:=by simp only [maxLen];omega
 rw [List.take_of_length_le (by omega),List.take_of_length_le (by omega)] at hpre
 exact ⟨_,_,m,by rw [hmk],Own.of_flat X1w hB5 hlo5 hmk hmkb,hdp6.top,hpre,hW⟩
theorem F28(w0:World){Xc:TypeId}(c:Cx)(Ac:Option Addr)(cc:Nat)(hr_c:Rd w0 w0.heap.size Xc encG Ac c.gs){Xl:TypeId}(Al:Option Addr)(cl:Nat)(l:List Sr)(hr_l:Rd w0 w0.heap.size Xl encSr Al l)(hd_l:DeepX w0 w0.heap.size l){Xd:TypeId}(d:Cx)(Ad:Option Addr)(cd:Nat)(hr_d:Rd w0 w0.heap.size Xd encG Ad d.gs)(hlc:c.gs.length≤1048576)(hls:l.length≤1048576)(hll:∀ s ∈ l,s.old.length≤1048576∧s.new.length≤1048576)(hld:d.gs.length≤1048576) : Ret Tryz.prog 28 [.agg #[vi c.n,.slice Ac c.gs.length cc,.slice Al l.length cl,vi d.n,.slice Ad d.gs.length cd]] w0 (fun v w=>∃ A1 e1 A2 e2 m A3 e3,v=.agg #[vi c.n,.slice A1 c.gs.length e1,.slice A2 m.length e2,vi d.n,.slice A3 d.gs.length e3]∧Own w w0.heap.size 107 3 encG A1 e1 c.gs∧Own w w0.heap.size 30 3 encSr A2 e2 m∧DeepR w w.heap.size 107 m∧m.map Sr.rp=l.map Sr.rp∧Own w w0.heap.size 107 3 encG A3 e3 d.gs∧Below w0.heap.size w0 w):=by
 refine enter Tryz.func28 rfl 17 rfl rfl ?_
 intro a hf
 have hW:Below w0.heap.size w0 w0:=Below.refl _ _
 refine Zs hf fun _ hK4=>?_
 refine Zf (Xu (zs:=[vi c.n,.slice Ac c.gs.length cc,.slice Al l.length cl,vi d.n,.slice Ad d.gs.length cd]) rfl rfl) ?_;rintro _ w1 ⟨b5,rfl,hl5,hE,hB5⟩
 have hlo5:=Nat.le_trans hW.size hl5
 replace hd_l:=hd_l.below hE
 replace hW:=btr hW hE
 refine Zf (Xa (zs:=[vi 0,.slice none 0 0,.slice none 0 0,vi 0,.slice none 0 0]) Xok rfl) ?_;rintro _ w2 ⟨b9,rfl,hl9,hE,hB9⟩
 have hlo9:=Nat.le_trans hW.size hl9
 replace hB5:=hB5.below hE
 replace hd_l:=hd_l.below hE
 replace hW:=btr hW hE
 refine Zt hK4 fun a hf=>?_
 refine Zs hf fun _ hK10=>?_
 refine Zf (Xa (zs:=[vi 0,.slice none 0 0,.slice none 0 0,vi 0,.slice none 0 0]) Xok rfl) ?_;rintro _ w3 ⟨b14,rfl,hl14,hE,hB14⟩
 have hne9_14:b9≠b14:=by have:=hB9.lt;omega
 have hlo14:=Nat.le_trans hW.size hl14
 replace hB5:=hB5.below hE
 replace hB9:=hB9.below hE
 replace hd_l:=hd_l.below hE
 replace hW:=btr hW hE
 refine Zt hK10 fun a hf=>?_
 refine Zs hf fun _ hK15=>?_
 refine Ze (Vd rfl Xd3 0)<|Ze (Xi (l:=[vi c.n,.slice Ac c.gs.length cc]) rfl X55 ((hB5.at 0).take 2) rfl) ?_
 refine Zf (Vc (F16 _ c Ac cc (hr_c.below' hW).top hlc) X99) ?_;rintro _ w4 ⟨A16,c16,rfl,ho16,hE⟩
 replace ho16:=ho16.lower hW.size
 replace hB5:=hB5.below hE
 replace hB9:=hB9.below hE
 replace hB14:=hB14.below hE
 replace hd_l:=hd_l.below hE
 replace hW:=btr hW hE
 refine Ze (Vd rfl X2x 0) ?_
 refine Zo (Vu (vs:=[vi c.n,.slice A16 c.gs.length c16]) (l':=[vi c.n,.slice A16 c.gs.length c16,.slice none 0 0,vi 0,.slice none 0 0]) rfl rfl X1j hB14) ?_;rintro _ w5 ⟨ho,hb⟩
 have hold:=hB14
 replace hB5:=hB5.only ho (Blk.ne hB5 hold rfl)
 replace hB9:=hB9.only ho (by omega)
 replace ho16:=ho16.onlyT ho hold rfl
 replace hd_l:=hd_l.only ho hlo14
 replace hW:=Below.only hW ho hlo14
 clear hold
 have hB14:=hb
 clear hb ho
 refine Zt hK15 fun a hf=>?_
 refine Zs hf fun _ hK17=>?_
 refine Ze (Vd rfl Xdj 2)<|Ze (X0 rfl Xkf (hB5.at 2)) ?_
 refine Zf (Vc (F65 _ Al cl l (hr_l.below' hW).top hd_l.top hls hll) Xp3) ?_;rintro _ w6 ⟨A18,c18,m18,rfl,ho18,hd18,hm18,hE⟩
 replace ho18:=ho18.lower hW.size
 replace hB5:=hB5.below hE
 replace hB9:=hB9.below hE
 replace hB14:=hB14.below hE
 replace ho16:=ho16.below hE
 replace hd_l:=hd_l.below hE
 replace hW:=btr hW hE
 refine Ze (Vd rfl X2y 2) ?_
 refine Zo (Vu (vs:=[.slice A18 m18.length c18]) (l':=[vi c.n,.slice A16 c.gs.length c16,.slice A18 m18.length c18,vi 0,.slice none 0 0]) rfl rfl Xov hB14) ?_;rintro _ w7 ⟨ho,hb⟩
 have hold:=hB14
 replace hB5:=hB5.only ho (Blk.ne hB5 hold rfl)
 replace hB9:=hB9.only ho (by omega)
 replace ho16:=ho16.onlyT ho hold rfl
 replace ho18:=ho18.onlyT ho hold rfl
 replace hd_l:=hd_l.only ho hlo14
 replace hd18:=hd18.onlyT ho hold rfl
 replace hW:=Below.only hW ho hlo14
 clear hold
 have hB14:=hb
 clear hb ho
 refine Zt hK17 fun a hf=>?_
 refine Zs hf fun _ hK19=>?_
 refine Ze (Vd rfl Xe1 3)<|Ze (Xi (l:=[vi d.n,.slice Ad d.gs.length cd]) rfl X55 ((hB5.at 3).take 2) rfl) ?_
 refine Zf (Vc (F16 _ d Ad cd (hr_d.below' hW).top hld) X99) ?_;rintro _ w8 ⟨A20,c20,rfl,ho20,hE⟩
 replace ho20:=ho20.lower hW.size
 replace hB5:=hB5.below hE
 replace hB9:=hB9.below hE
 replace hB14:=hB14.below hE
 replace ho16:=ho16.below hE
 replace ho18:=ho18.below hE
 replace hd_l:=hd_l.below hE
 replace hd18:=hd18.below hE
 replace hW:=btr hW hE
 refine Ze (Vd rfl X2z 3) ?_
 refine Zo (Vu (vs:=[vi d.n,.slice A20 d.gs.length c20]) (l':=[vi c.n,.slice A16 c.gs.length c16,.slice A18 m18.length c18,vi d.n,.slice A20 d.gs.length c20]) rfl rfl X1j hB14) ?_;rintro _ w9 ⟨ho,hb⟩
 have hold:=hB14
 replace hB5:=hB5.only ho (Blk.ne hB5 hold rfl)
 replace hB9:=hB9.only ho (by omega)
 replace ho16:=ho16.onlyT ho hold rfl
 replace ho18:=ho18.onlyT ho hold rfl
 replace ho20:=ho20.onlyT ho hold rfl
 replace hd_l:=hd_l.only ho hlo14
 replace hd18:=hd18.onlyT ho hold rfl
 replace hW:=Below.only hW ho hlo14
 clear hold
 have hB14:=hb
 clear hb ho
 refine Zt hK19 fun a hf=>?_
 refine Zs hf fun _ hK21=>?_
 refine Ze (Vn X8v hB14) ?_
 refine Zo (Vw [vi c.n,.slice A16 c.gs.length c16,.slice A18 m18.length c18,vi d.n,.slice A20 d.gs.length c20] Xk1 hB9) ?_;rintro _ w10 ⟨ho,hb⟩
 have hold:=hB9
 replace hB14:=hB14.only ho (by omega)
 replace ho16:=ho16.onlyT ho hold rfl
 replace ho18:=ho18.onlyT ho hold rfl
 replace ho20:=ho20.onlyT ho hold rfl
 replace hd_l:=hd_l.only ho hlo9
 replace hd18:=hd18.onlyT ho hold rfl
 replace hW:=Below.only hW ho hlo9
 clear hold
 have hB9:=hb
 clear hb ho
 refine Zt hK21 fun a hf=>?_
 refine wp_ret (X2 hf (Xh hf rfl (ResV.cellN (l:=[vi c.n,.slice A16 c.gs.length c16,.slice A18 m18.length c18,vi d.n,.slice A20 d.gs.length c20]) rfl X8v (hB9.at 0) rfl)) ?_)
 exact ⟨_,_,_,_,_,_,_,rfl,ho16,ho18,hd18.top,hm18,ho20,hW⟩
end Go.Proofs.YtfgnmflfiobkmaaGreat
set_option maxRecDepth 4000
namespace Go.Proofs.YtfgnmflfiobkmaaGreat
open Go.RowKit
theorem F68(w0:World)(Ap:Option Addr)(cp:Nat)(p:List Sr)(hr_p:Rd w0 w0.heap.size 30 encSr Ap p)(hd_p:DeepR w0 w0.heap.size 107 p)(Aq:Option Addr)(cq:Nat)(q:List Sr)(hr_q:Rd w0 w0.heap.size 30 encSr Aq q)(hd_q:DeepR w0 w0.heap.size 107 q)(hln:p.length≤2305843009213693951)(hll:∀ s ∈ p,s.old.length≤2305843009213693951∧s.new.length≤2305843009213693951) : Ret Tryz.prog 68 [.slice Ap p.length cp,.slice Aq q.length cq] w0 (fun v w=>v=.bool (decide (p.map Sr.rp=q.map Sr.rp))∧Below w0.heap.size w0 w):=by
 refine enter Tryz.func68 rfl 27 rfl rfl ?_
 intro a hf
 have hW:Below w0.heap.size w0 w0:=Below.refl _ _
 refine Zs hf fun _ hK3=>?_
 refine Za rfl ?_
 refine Zt hK3 fun a hf=>?_
 refine wp_seq_k fun _ hK4=>?_
 refine Zs hf fun _ hK5=>?_
 refine Zm rfl<|Ze (X0d rfl X3g)<|Zm rfl<|Ze (X0d rfl X3g)<|Ze (X1g rfl rfl) ?_
 refine Zt hK5 fun a hf=>?_
 refine Xb hf rfl (fun hc6=>?_) (fun hc6=>?_)
 ·have hc6b:=hc6
  have hne:¬ p.map Sr.rp=q.map Sr.rp:=by intro h9;have h8:=congrArg List.length h9;rw [List.length_map,List.length_map] at h8;rw [h8] at hc6;simp at hc6
  refine Zs hf fun _ hK7=>?_
  refine Za rfl ?_
  refine Zt hK7 fun a hf=>?_
  refine wp_ret ?_
  refine X3 ?_
  refine X2 hf (Xh hf rfl rfl) ?_
  exact ⟨by simp [hne],hW⟩
 have hc6b:=hc6
 have hpq:p.length=q.length:=by have h9:(p.length:Int)=q.length:=(by simpa using hc6);omega
 refine wp_skip ?_
 refine hK4 _ _ ?_
 refine wp_seq_k fun _ hK8=>?_
 refine Zs hf fun _ hK9=>?_
 refine Za rfl ?_
 refine Zt hK9 fun a hf=>?_
 refine wp_block ?_
 refine X04 (σ:=Nat) (fun (k:Nat) (a:Act) (w:World)=>Fr a 27 [(0,.slice Ap p.length cp),(1,.slice Aq q.length cq),(5,vi (k:Int))]∧(k≤p.length)∧((p.take k).map Sr.rp=(q.take k).map Sr.rp)∧DeepR w w0.heap.size 107 p∧DeepR w w0.heap.size 107 q∧Below w0.heap.size w0 w) (fun (k:Nat)=>p.length-k) 0 ?_ ?_
 · exact ⟨hf.sub ⟨rfl,rfl,rfl,trivial⟩,(Nat.zero_le _),rfl,hd_p,hd_q,hW⟩
 rintro k a w1 ⟨hf,hk,hpre,hd_p,hd_q,hW⟩
 refine wp_seq_k fun _ hK10=>?_
 refine Zs hf fun _ hK11=>?_
 refine Zm rfl<|Zm rfl<|Ze (X0d rfl X3g)<|Ze (X0m rfl rfl) ?_
 refine Zt hK11 fun a hf=>?_
 refine Xb hf rfl (fun hc12=>?_) (fun hc12=>?_)
 ·have hc12b:=hc12
  have hc12:=of_decide_eq_true hc12
  obtain ⟨u13,hu13⟩:=Xf (l:=p) (k:=k) (by omega)
  obtain ⟨v9,hv9⟩:=Xf (l:=q) (k:=k) (by omega)
  have hsu:=hll u13 (List.mem_of_getElem? hu13)
  refine wp_skip ?_
  refine hK10 _ _ ?_
  refine wp_seq_k fun _ hK14=>?_
  refine wp_block ?_
  refine wp_seq_k fun _ hK15=>?_
  refine X05 none (fun _=>false) mixed ?_
  intro w2 hE
  replace hd_p:=hd_p.below hE
  replace hd_q:=hd_q.below hE
  replace hW:=btr hW hE
  refine Yb hf ?_
  refine Yo 0 rfl (fun _=>X8 rfl)<|Yo 1 rfl (fun _=>X8 rfl) ?_
  refine Yi (k:=k) (u:=u13) (enc:=encSr) (l:=p) 2 rfl trivial rfl rfl X3g X57 X1w (hr_p.below' hW) hu13 rfl ?_;intro p17 hat16
  have hr18:=(hd_p u13 (List.mem_of_getElem? hu13)).1
  have hr19:=(hd_p u13 (List.mem_of_getElem? hu13)).2
  refine Ye 3 rfl (Xi (l:=[vi u13.pos,.slice u13.A u13.old.length u13.c,.slice u13.B u13.new.length u13.d]) rfl X2u hat16 rfl)<|Yo 4 rfl (fun _=>X8 rfl)<|Yo 5 rfl (fun _=>X8 rfl) ?_
  refine Yi (k:=k) (u:=v9) (enc:=encSr) (l:=q) 6 rfl trivial rfl rfl X3g X57 X1w (hr_q.below' hW) hv9 rfl ?_;intro p21 hat20
  have hr22:=(hd_q v9 (List.mem_of_getElem? hv9)).1
  have hr23:=(hd_q v9 (List.mem_of_getElem? hv9)).2
  refine Ye 7 rfl (Xi (l:=[vi v9.pos,.slice v9.A v9.old.length v9.c,.slice v9.B v9.new.length v9.d]) rfl X2u hat20 rfl) ?_
  refine Y1 8 ?_
  refine Yk rfl trivial (Vc (F13 _ u13.rp u13.A u13.c hr18.top u13.B u13.d hr19.top v9.rp v9.A v9.c hr22.top v9.B v9.d hr23.top hsu.1 hsu.2) Xki) (fun _ _ ⟨_,hE⟩=>hE) ?_;rintro _ w3 ⟨rfl,hE⟩
  replace hr18:=hr18.below hE
  replace hr19:=hr19.below hE
  replace hr22:=hr22.below hE
  replace hr23:=hr23.below hE
  replace hd_p:=hd_p.below hE
  replace hd_q:=hd_q.below hE
  replace hW:=btr hW hE
  refine Yo 9 rfl (fun _=>X09 rfl) ?_
  refine Yd fun a hf=>?_
  refine hK15 _ _ ?_
  refine Xb hf rfl (fun hc24=>?_) (fun hc24=>?_)
  ·have hc24b:=hc24
   have hne:=Xle hu13 hv9 (fun h9=>by obtain ⟨h6,h7,h8⟩:=Xfo.1 h9;revert hc24;simp [h6,h7,h8])
   refine Zs hf fun _ hK25=>?_
   refine Za rfl ?_
   refine Zt hK25 fun a hf=>?_
   refine wp_ret ?_
   refine Xj ?_
   refine X3 ?_
   refine X3 ?_
   refine Xj ?_
   refine X3 ?_
   refine X2 hf (Xh hf rfl rfl) ?_
   exact ⟨by simp [hne],hW⟩
  have hc24b:=hc24
  have he9:(u13).rp=v9.rp:=Xfo.2 (by revert hc24;simp;intro a b c;exact ⟨a,b,c⟩)
  refine wp_skip ?_
  refine Xn ?_
  refine hK14 _ _ ?_
  refine Zr hf ?_
  refine Zm rfl<|Ze (Xy rfl rfl (by omega) (by omega))<|Za rfl ?_
  refine Zn fun a hf=>?_
  refine Xk ?_
  exact ⟨k+1,⟨hf.sub ⟨rfl,rfl,rfl,trivial⟩,(by omega),(Xnr hpre hu13 hv9 he9),hd_p,hd_q,hW⟩,(by omega)⟩
 have hc12b:=hc12
 have hc12:=of_decide_eq_false hc12
 refine wp_exit ?_
 refine Xm ?_
 refine Xm ?_
 refine X03 ?_
 refine hK8 _ _ ?_
 refine Zs hf fun _ hK26=>?_
 refine Za rfl ?_
 refine Zt hK26 fun a hf=>?_
 refine wp_ret (X2 hf (Xh hf rfl rfl) ?_)
 have he:p.map Sr.rp=q.map Sr.rp:=by rw [List.take_of_length_le (by omega),List.take_of_length_le (by omega)] at hpre;exact hpre
 exact ⟨by simp [he],hW⟩
theorem F30(w0:World)(c:Cx)(Ac:Option Addr)(cc:Nat)(hr_c:Rd w0 w0.heap.size 107 encG Ac c.gs)(Al:Option Addr)(cl:Nat)(l:List Sr)(hr_l:Rd w0 w0.heap.size 30 encSr Al l)(hd_l:DeepR w0 w0.heap.size 107 l)(d:Cx)(Ad:Option Addr)(cd:Nat)(hr_d:Rd w0 w0.heap.size 107 encG Ad d.gs)(e:Cx)(Ae:Option Addr)(ce:Nat)(hr_e:Rd w0 w0.heap.size 107 encG Ae e.gs)(Am:Option Addr)(cm:Nat)(m:List Sr)(hr_m:Rd w0 w0.heap.size 30 encSr Am m)(hd_m:DeepR w0 w0.heap.size 107 m)(f:Cx)(Af:Option Addr)(cf:Nat)(hr_f:Rd w0 w0.heap.size 107 encG Af f.gs)(hlc:c.gs.length≤2305843009213693951)(hls:l.length≤2305843009213693951)(hll:∀ s ∈ l,s.old.length≤2305843009213693951∧s.new.length≤2305843009213693951)(hld:d.gs.length≤2305843009213693951) : Ret Tryz.prog 30 [.agg #[vi c.n,.slice Ac c.gs.length cc,.slice Al l.length cl,vi d.n,.slice Ad d.gs.length cd],.agg #[vi e.n,.slice Ae e.gs.length ce,.slice Am m.length cm,vi f.n,.slice Af f.gs.length cf]] w0 (fun v w=>v=.bool (eqC c e&&decide (l.map Sr.rp=m.map Sr.rp)&&eqC d f)∧Below w0.heap.size w0 w):=by
 refine enter Tryz.func30 rfl 23 rfl rfl ?_
 intro a hf
 have hW:Below w0.heap.size w0 w0:=Below.refl _ _
 refine Zs hf fun _ hK7=>?_
 refine Zf (Xu (zs:=[vi c.n,.slice Ac c.gs.length cc,.slice Al l.length cl,vi d.n,.slice Ad d.gs.length cd]) rfl rfl) ?_;rintro _ w1 ⟨b8,rfl,hl8,hE,hB8⟩
 have hlo8:=Nat.le_trans hW.size hl8
 replace hd_l:=hd_l.below hE
 replace hd_m:=hd_m.below hE
 replace hW:=btr hW hE
 refine Zf (Xu (zs:=[vi e.n,.slice Ae e.gs.length ce,.slice Am m.length cm,vi f.n,.slice Af f.gs.length cf]) rfl rfl) ?_;rintro _ w2 ⟨b9,rfl,hl9,hE,hB9⟩
 have hne8_9:b8≠b9:=by have:=hB8.lt;omega
 have hlo9:=Nat.le_trans hW.size hl9
 replace hB8:=hB8.below hE
 replace hd_l:=hd_l.below hE
 replace hd_m:=hd_m.below hE
 replace hW:=btr hW hE
 refine Za rfl ?_
 refine Zt hK7 fun a hf=>?_
 refine wp_seq_k fun _ hK10=>?_
 refine Zs hf fun _ hK11=>?_
 refine Ze (Vd rfl X2x 0)<|Ze (Xi (l:=[vi c.n,.slice Ac c.gs.length cc]) rfl X0c ((hB8.at 0).take 2) rfl)<|Ze (Vd rfl X2x 0)<|Ze (Xi (l:=[vi e.n,.slice Ae e.gs.length ce]) rfl X0c ((hB9.at 0).take 2) rfl) ?_
 refine Zf (Vc (F19 _ c Ac cc (hr_c.below' hW).top e Ae ce (hr_e.below' hW).top hlc) Xdk) ?_;rintro _ w3 ⟨rfl,hE⟩
 replace hB8:=hB8.below hE
 replace hB9:=hB9.below hE
 replace hd_l:=hd_l.below hE
 replace hd_m:=hd_m.below hE
 replace hW:=btr hW hE
 refine Ze (X09 rfl) ?_
 refine Zt hK11 fun a hf=>?_
 refine Xb hf rfl (fun hc12=>?_) (fun hc12=>?_)
 ·have hc12b:=hc12
  have hn:eqC c e=false:=by simpa using hc12
  refine Zs hf fun _ hK13=>?_
  refine Za rfl ?_
  refine Zt hK13 fun a hf=>?_
  refine wp_ret ?_
  refine X3 ?_
  refine X2 hf (Xh hf rfl rfl) ?_
  exact ⟨by simp [hn],hW⟩
 have hc12b:=hc12
 have e1:eqC c e=true:=by simpa using hc12
 refine wp_skip ?_
 refine hK10 _ _ ?_
 refine wp_seq_k fun _ hK14=>?_
 refine Zs hf fun _ hK15=>?_
 refine Ze (Vd rfl X2y 2)<|Ze (X0 rfl X6u (hB8.at 2))<|Ze (Vd rfl X2y 2)<|Ze (X0 rfl X6u (hB9.at 2)) ?_
 refine Zf (Vc (F68 _ Al cl l (hr_l.below' hW).top hd_l.top Am cm m (hr_m.below' hW).top hd_m.top hls hll) Xqd) ?_;rintro _ w4 ⟨rfl,hE⟩
 replace hB8:=hB8.below hE
 replace hB9:=hB9.below hE
 replace hd_l:=hd_l.below hE
 replace hd_m:=hd_m.below hE
 replace hW:=btr hW hE
 refine Ze (X09 rfl) ?_
 refine Zt hK15 fun a hf=>?_
 refine Xb hf rfl (fun hc16=>?_) (fun hc16=>?_)
 ·have hc16b:=hc16
  have hn:¬ l.map Sr.rp=m.map Sr.rp:=by simpa using hc16
  refine Zs hf fun _ hK17=>?_
  refine Za rfl ?_
  refine Zt hK17 fun a hf=>?_
  refine wp_ret ?_
  refine X3 ?_
  refine X2 hf (Xh hf rfl rfl) ?_
  exact ⟨by simp [hn],hW⟩
 have hc16b:=hc16
 have e2:l.map Sr.rp=m.map Sr.rp:=by simpa using hc16
 refine wp_skip ?_
 refine hK14 _ _ ?_
 refine wp_seq_k fun _ hK18=>?_
 refine Zs hf fun _ hK19=>?_
 refine Ze (Vd rfl X2z 3)<|Ze (Xi (l:=[vi d.n,.slice Ad d.gs.length cd]) rfl X0c ((hB8.at 3).take 2) rfl)<|Ze (Vd rfl X2z 3)<|Ze (Xi (l:=[vi f.n,.slice Af f.gs.length cf]) rfl X0c ((hB9.at 3).take 2) rfl) ?_
 refine Zf (Vc (F19 _ d Ad cd (hr_d.below' hW).top f Af cf (hr_f.below' hW).top hld) Xdk) ?_;rintro _ w5 ⟨rfl,hE⟩
 replace hB8:=hB8.below hE
 replace hB9:=hB9.below hE
 replace hd_l:=hd_l.below hE
 replace hd_m:=hd_m.below hE
 replace hW:=btr hW hE
 refine Ze (X09 rfl) ?_
 refine Zt hK19 fun a hf=>?_
 refine Xb hf rfl (fun hc20=>?_) (fun hc20=>?_)
 ·have hc20b:=hc20
  have hn:eqC d f=false:=by simpa using hc20
  refine Zs hf fun _ hK21=>?_
  refine Za rfl ?_
  refine Zt hK21 fun a hf=>?_
  refine wp_ret ?_
  refine X3 ?_
  refine X2 hf (Xh hf rfl rfl) ?_
  exact ⟨by simp [hn],hW⟩
 have hc20b:=hc20
 have e3:eqC d f=true:=by simpa using hc20
 refine wp_skip ?_
 refine hK18 _ _ ?_
 refine Zs hf fun _ hK22=>?_
 refine Za rfl ?_
 refine Zt hK22 fun a hf=>?_
 refine wp_ret (X2 hf (Xh hf rfl rfl) ?_)
 exact ⟨by simp [e1,e2,e3],hW⟩
end Go.Proofs.YtfgnmflfiobkmaaGreat
namespace Go.Proofs.YtfgnmflfiobkmaaGreat
open Go.RowKit
def comS(g h:Gt) : Bool:=(qubI g).any fun x=>(qubI h).any fun y=>y==x
def comI(g h:Gt) : Bool:=(qubI g).any fun x=>(qubI h).any fun y=>x==y
theorem Xig{g h:Gt} : comI g h=true↔∃ x,x ∈ qubI g∧x ∈ qubI h:=by
 simp only [comI,List.any_eq_true,beq_iff_eq]
 exact ⟨fun ⟨x,h1,y,h2,e⟩=>⟨x,h1,e▸h2⟩,fun ⟨x,h1,h2⟩=>⟨x,h1,x,h2,rfl⟩⟩
theorem Xgd{g h:Gt} : comS g h=true↔∃ x,x ∈ qubI g∧x ∈ qubI h:=by
 simp only [comS,List.any_eq_true,beq_iff_eq]
 exact ⟨fun ⟨x,h1,y,h2,e⟩=>⟨x,h1,e▸h2⟩,fun ⟨x,h1,h2⟩=>⟨x,h1,x,h2,rfl⟩⟩
theorem Xo7(k:Int) : (k==9||k==10||k==11)=inR k 9 11:=by
 rw [Bool.eq_iff_iff,Xs]
 simp only [Bool.or_eq_true,beq_iff_eq]
 omega
section
variable {p q : Mx}
end
end Go.Proofs.YtfgnmflfiobkmaaGreat
namespace Go.Proofs.YtfgnmflfiobkmaaGreat
open Go.RowKit
def gZ:Gt:=⟨0,0,0⟩
def eqM(p q:Mx) : Bool:=decide (p.rows=q.rows)&&decide (p.cols=q.cols)&&decide (p.cells=q.cells)
def unionS(g h:Gt) : List Int:=(qubI g++qubI h).foldl putI []
structure PairOk (us:List Int) (g h:Gt) : Prop where
 inc:Inc us
 low:∀ x ∈ us,0≤x∧x≤4
 one:1≤us.length
 len:us.length≤5
 gk:¬ g.k=12
 hk:¬ h.k=12
 ga:g.a ∈ us
 ha:h.a ∈ us
 gb:inR g.k 9 11=true→g.b ∈ us
 hb:inR h.k 9 11=true→h.b ∈ us
 gs:gOk (us.length:Int) (smallG us g)=true
 hs:gOk (us.length:Int) (smallG us h)=true
def commS(g h:Gt) : Bool:=if comS g h=true then
  eqM (timesS false (gateS ((unionS g h).length:Int) (smallG (unionS g h) g)) (gateS ((unionS g h).length:Int) (smallG (unionS g h) h))).2
   (timesS (timesS false (gateS ((unionS g h).length:Int) (smallG (unionS g h) g)) (gateS ((unionS g h).length:Int) (smallG (unionS g h) h))).1 (gateS ((unionS g h).length:Int) (smallG (unionS g h) h)) (gateS ((unionS g h).length:Int) (smallG (unionS g h) g))).2
 else true
def commI(g h:Gt) : Bool:=if comI g h=true then
  eqM ((opI ⟨((unionI (qubI g) (qubI h)).length:Int),mapI [g,h] (numbI (unionI (qubI g) (qubI h)))⟩).getD mZ) ((opI ⟨((unionI (qubI g) (qubI h)).length:Int),[mapG (numbI (unionI (qubI g) (qubI h))) h,mapG (numbI (unionI (qubI g) (qubI h))) g]⟩).getD mZ)
 else true
section
variable (gs : List Gt) (s : List Int) (g : Gt) (x : Int)
def pA(j:Nat) : Bool:=decide (x≤s.getD j 0)&&!commS g (gs.getD j gZ)
def pB(j:Nat) : Bool:=s.getD j 0==x&&comS g (gs.getD j gZ)
def faultG(i:Nat) : Int:=if g.k=12 then (if x=0 then 0 else 1) else if inR x 1 400=true then (if (List.range i).any (pA gs s g x)=true then 2 else if (List.range i).any (pB gs s g x)=true then 3 else 0) else 1
def faultS(i:Nat) : Int:=faultG gs s (gs.getD i gZ) (s.getD i 0) i
def qA(j:Nat) : Bool:=!commI (gs.getD j gZ) g&&decide (x≤s.getD j 0)
def qB(j:Nat) : Bool:=s.getD j 0==x&&comI (gs.getD j gZ) g
def faultH(i:Nat) : Int:=if (g.k==12&&x != 0||g.k != 12&&!inR x 1 400)=true then 1 else if (List.range i).any (qA gs s g x)=true then 2 else if (List.range i).any (qB gs s g x)=true then 3 else 0
def faultI(i:Nat) : Int:=faultH gs s (gs.getD i gZ) (s.getD i 0) i
end
def firstF(f:Nat→Int) : Nat→Nat→Int×Int
 | 0,_=>(0,0)
 | n+1,i=>if f i=0 then firstF f n (i+1) else (f i,(i:Int))
def schedS(gs:List Gt)(s:List Int) : Int×Int:=if s.length=gs.length then firstF (faultS gs s) gs.length 0 else (1,0)
def schedI(gs:List Gt)(s:List Int) : Int×Int:=if s.length=gs.length then firstF (faultI gs s) gs.length 0 else (1,0)
def specC(c:Cx)(s:List Int) : Int×Int×Bool:=if cOk c=true then ((schedS c.gs s).1,(schedS c.gs s).2,true) else (0,0,false)
def implC(c:Cx)(s:List Int) : Int×Int×Bool:=if cOk c=true then ((schedI c.gs s).1,(schedI c.gs s).2,true) else (0,0,false)
section
variable {f : Nat → Int} {n i : Nat} {r : Int × Int} {x : Int}
end
section
variable {p : Nat → Bool} {i j : Nat}
theorem X2f(hj:j<i)(h:p j=true) : (List.range i).any p=true:=List.any_eq_true.2 ⟨j,List.mem_range.2 hj,h⟩
theorem X2i(h:(List.range j).any p=false)(hp:p j=false) : (List.range (j+1)).any p=false:=by
 rw [List.range_succ,List.any_append,h];simp [hp]
end
theorem Xa9{gs:List Gt}{i:Nat}{u:Gt}(h:gs[i]? = some u) : gs.getD i gZ=u:=by rw [List.getD_eq_getElem?_getD,h];rfl
theorem Xer{gs:List Gt}{i j:Nat}{u:Gt}(h:(gs.take i)[j]? = some u) : gs.getD j gZ=u∧u ∈ gs:=by
 have hj:j<i:=by
  have:=(List.getElem?_eq_some_iff.1 h).1
  rw [List.length_take] at this
  omega
 rw [List.getElem?_take_of_lt hj] at h
 exact ⟨Xa9 h,List.mem_of_getElem? h⟩
section
variable {gs : List Gt} {s : List Int} {i : Nat} {g : Gt}
end
end Go.Proofs.YtfgnmflfiobkmaaGreat
set_option maxRecDepth 4000
namespace Go.Proofs.YtfgnmflfiobkmaaGreat
open Go.RowKit
theorem Xoz(w0:World)(Al:Option Addr)(cl:Nat)(l:List Int)(hr_l:Rd w0 w0.heap.size 3 encI Al l)(x:Int)(hln:l.length≤2305843009213693951) : Ret Tryz.prog 147 [.slice Al l.length cl,vi x] w0 (fun v w=>v=.bool (l.any fun y=>y==x)∧Below w0.heap.size w0 w):=by
 refine enter Tryz.func147 rfl 17 rfl rfl ?_
 intro a hf
 have hW:Below w0.heap.size w0 w0:=Below.refl _ _
 refine Zs hf fun _ hK2=>?_
 refine Za rfl ?_
 refine Zt hK2 fun a hf=>?_
 refine wp_seq_k fun _ hK3=>?_
 refine Zs hf fun _ hK4=>?_
 refine Zm rfl<|Ze (X0d rfl X0b)<|Zm rfl ?_
 refine Zt hK4 fun a hf=>?_
 refine wp_block ?_
 refine X04 (σ:=Nat) (fun (k:Nat) (a:Act) (w:World)=>Fr a 17 [(1,vi x),(7,.slice Al l.length cl),(8,vi (l.length:Int)),(9,vi (k:Int))]∧(k≤l.length)∧((l.take k).all (fun y=>!(y==x))=true)∧Below w0.heap.size w0 w) (fun (k:Nat)=>l.length+1-k) 0 ?_ ?_
 · exact ⟨hf.sub ⟨rfl,rfl,rfl,rfl,trivial⟩,(Nat.zero_le _),(by simp),hW⟩
 rintro k a w1 ⟨hf,hk,hpre,hW⟩
 refine Zs hf fun _ hK5=>?_
 refine Ze (X0m rfl rfl) ?_
 refine Zt hK5 fun a hf=>?_
 refine wp_seq_k fun _ hK6=>?_
 refine Xb hf rfl (fun hc7=>?_) (fun hc7=>?_)
 ·have hc7b:=hc7
  have hc7:=of_decide_eq_true hc7
  obtain ⟨u8,hu8⟩:=Xf (l:=l) (k:=k) (by omega)
  refine wp_skip ?_
  refine hK6 _ _ ?_
  refine wp_seq_k fun _ hK9=>?_
  refine wp_block ?_
  refine Zs hf fun _ hK10=>?_
  refine Zi (k:=k) (u:=u8) (enc:=encI) (l:=l) trivial rfl rfl X0b X0z Xz (hr_l.below' hW) hu8 rfl ?_;intro p12 hat11
  refine Ze (X0 rfl X5 hat11)<|Za rfl ?_
  refine Zt hK10 fun a hf=>?_
  refine Zs hf fun _ hK13=>?_
  refine Zm rfl<|Zm rfl<|Ze (X0s rfl rfl) ?_
  refine Zt hK13 fun a hf=>?_
  refine Xb hf rfl (fun hc14=>?_) (fun hc14=>?_)
  ·have hc14b:=hc14
   have hb2:l.any (fun y=>y==x)=true:=X1y hu8 hc14
   refine Zs hf fun _ hK15=>?_
   refine Za rfl ?_
   refine Zt hK15 fun a hf=>?_
   refine wp_ret ?_
   refine Xj ?_
   refine X3 ?_
   refine X3 ?_
   refine Xj ?_
   refine X3 ?_
   refine X2 hf (Xh hf rfl rfl) ?_
   exact ⟨by rw [hb2],hW⟩
  have hc14b:=hc14
  have hok:(!(u8==x))=true:=by rw [hc14];rfl
  refine wp_skip ?_
  refine Xn ?_
  refine hK9 _ _ ?_
  refine Zr hf ?_
  refine Ze (Xy rfl rfl (by omega) (by omega))<|Zm rfl ?_
  refine Zn fun a hf=>?_
  refine Xk ?_
  exact ⟨k+1,⟨hf.sub ⟨rfl,rfl,rfl,rfl,trivial⟩,(by omega),(X1l hpre hu8 hok),hW⟩,(by omega)⟩
 have hc7b:=hc7
 have hc7:=of_decide_eq_false hc7
 refine wp_exit ?_
 refine Xm ?_
 refine Xm ?_
 refine X03 ?_
 refine hK3 _ _ ?_
 refine Zs hf fun _ hK16=>?_
 refine Za rfl ?_
 refine Zt hK16 fun a hf=>?_
 refine wp_ret (X2 hf (Xh hf rfl rfl) ?_)
 have hb2:l.any (fun y=>y==x)=false:=X1s (X1h hpre (by omega))
 exact ⟨by rw [hb2],hW⟩
theorem Xm1(w0:World)(g:Gt) : Ret Tryz.prog 119 [.agg #[vi g.k,vi g.a,vi g.b]] w0 (fun v w=>v=.bool (inR g.k 9 11)∧Below w0.heap.size w0 w):=by
 refine enter Tryz.func119 rfl 16 rfl rfl ?_
 intro a hf
 have hW:Below w0.heap.size w0 w0:=Below.refl _ _
 refine Zs hf fun _ hK1=>?_
 refine Zf (Xu (zs:=[vi g.k,vi g.a,vi g.b]) rfl rfl) ?_;rintro _ w1 ⟨b2,rfl,hl2,hE,hB2⟩
 have hlo2:=Nat.le_trans hW.size hl2
 replace hW:=btr hW hE
 refine Za rfl ?_
 refine Zt hK1 fun a hf=>?_
 refine wp_seq_k fun _ hK3=>?_
 refine X06 (fun a w=>Fr a 16 [(2,.bool (((g.k==9)||(g.k==10))||(g.k==11)))]∧w1=w) ?_ ?_
 ·refine Zr hf ?_
  refine Ze (Vd rfl X0f 0)<|Ze (X0 rfl X5 (hB2.at 0))<|Ze (X0s rfl rfl)<|Zm rfl ?_
  refine Zg 6 rfl (fun hg4=>?_) (fun hg4=>?_)
  ·refine Zp ⟨_,_,rfl,rfl,hg4⟩ ?_
   refine Zp ⟨_,_,rfl,rfl,hg4⟩ ?_
   refine Zp ⟨_,_,rfl,rfl,hg4⟩ ?_
   refine Ze (X9 rfl hg4 rfl)<|Zm rfl<|Zp ⟨_,_,rfl,rfl,rfl⟩ ?_
   refine Zp ⟨_,_,rfl,rfl,rfl⟩ ?_
   refine Zp ⟨_,_,rfl,rfl,rfl⟩ ?_
   refine Ze (X9 rfl rfl rfl)<|Za rfl ?_
   refine Zn fun a hf=>?_
   exact ⟨hf.sub ⟨X1 rfl (by first|rfl|(simp only [hg4,bs];done)|simp [hg4]),trivial⟩,rfl⟩
  refine Zv ⟨_,_,rfl,rfl,hg4⟩ (Vd rfl X0f 0) ?_
  refine Zv ⟨_,_,rfl,rfl,hg4⟩ (X0 rfl X5 (hB2.at 0)) ?_
  refine Zv ⟨_,_,rfl,rfl,hg4⟩ (X0s rfl rfl) ?_
  refine Ze (X7 rfl hg4 rfl)<|Zm rfl ?_
  refine Zg 11 rfl (fun hg5=>?_) (fun hg5=>?_)
  ·refine Zp ⟨_,_,rfl,rfl,hg5⟩ ?_
   refine Zp ⟨_,_,rfl,rfl,hg5⟩ ?_
   refine Zp ⟨_,_,rfl,rfl,hg5⟩ ?_
   refine Ze (X9 rfl hg5 rfl)<|Za rfl ?_
   refine Zn fun a hf=>?_
   exact ⟨hf.sub ⟨X1 rfl (by first|rfl|(simp only [hg4,hg5,bs];done)|simp [hg4,hg5]),trivial⟩,rfl⟩
  refine Zv ⟨_,_,rfl,rfl,hg5⟩ (Vd rfl X0f 0) ?_
  refine Zv ⟨_,_,rfl,rfl,hg5⟩ (X0 rfl X5 (hB2.at 0)) ?_
  refine Zv ⟨_,_,rfl,rfl,hg5⟩ (X0s rfl rfl) ?_
  refine Ze (X7 rfl hg5 rfl)<|Za rfl ?_
  refine Zn fun a hf=>?_
  exact ⟨hf.sub ⟨X1 rfl (by first|rfl|(simp only [hg4,hg5,bs];done)|simp [hg4,hg5]),trivial⟩,rfl⟩
 rintro a _ ⟨hf,rfl⟩
 refine hK3 _ _ ?_
 refine wp_ret (X2 hf (Xh hf rfl rfl) ?_)
 exact ⟨congrArg Value.bool (Xo7 g.k),hW⟩
theorem Xpg(w0:World)(g:Gt) : Ret Tryz.prog 142 [.agg #[vi g.k,vi g.a,vi g.b]] w0 (fun v w=>∃ A c,v=.slice A (qubI g).length c∧Own w w0.heap.size 3 1 encI A c (qubI g)∧Below w0.heap.size w0 w):=by
 refine enter Tryz.func142 rfl 18 rfl rfl ?_
 intro a hf
 have hW:Below w0.heap.size w0 w0:=Below.refl _ _
 refine Zs hf fun _ hK1=>?_
 refine Zf (Xu (zs:=[vi g.k,vi g.a,vi g.b]) rfl rfl) ?_;rintro _ w1 ⟨b2,rfl,hl2,hE,hB2⟩
 have hlo2:=Nat.le_trans hW.size hl2
 replace hW:=btr hW hE
 refine Za rfl ?_
 refine Zt hK1 fun a hf=>?_
 refine wp_seq_k fun _ hK4=>?_
 refine wp_block ?_
 refine Zs hf fun _ hK5=>?_
 refine Ze (Vd rfl X0f 0)<|Ze (X0 rfl X5 (hB2.at 0))<|Ze (X0s rfl rfl)<|Za rfl ?_
 refine Zt hK5 fun a hf=>?_
 refine Xb hf rfl (fun hc6=>?_) (fun hc6=>?_)
 ·have hc6b:=hc6
  have hfin:qubI g=[]:=by rw [qubI,if_pos (by simpa using hc6)]
  refine Zs hf fun _ hK7=>?_
  refine Za rfl ?_
  refine Zt hK7 fun a hf=>?_
  refine wp_ret ?_
  refine Xj ?_
  refine X3 ?_
  refine X2 hf (Xh hf rfl rfl) ?_
  rw [hfin]
  exact ⟨none,0,rfl,(Own.nil _ _ _ _ _),hW⟩
 have hc6b:=hc6
 have h12:¬ g.k=12:=by simpa using hc6
 refine Zs hf fun _ hK9=>?_
 refine Ze (Vn X0k hB2) ?_
 refine Zf (Vc (Xm1 _ g) Xbt) ?_;rintro _ w2 ⟨rfl,hE⟩
 replace hB2:=hB2.below hE
 replace hW:=btr hW hE
 refine Za rfl ?_
 refine Zt hK9 fun a hf=>?_
 refine Xb hf rfl (fun hc10=>?_) (fun hc10=>?_)
 ·have hc10b:=hc10
  have hfin:qubI g=[g.a,g.b]:=by rw [qubI,if_neg h12,if_pos hc10]
  refine Zs hf fun _ hK11=>?_
  refine Ze (Vd rfl X0a 1)<|Ze (X0 rfl X5 (hB2.at 1))<|Ze (Vd rfl X0n 2)<|Ze (X0 rfl X5 (hB2.at 2)) ?_
  refine Zf (Xv (k:=2) (vs:=[vi g.a,vi g.b]) (zs:=[vi g.a,vi g.b]) rfl X0b X2b rfl rfl) ?_;rintro _ w3 ⟨b12,rfl,hl12,hE,hB12⟩
  have hlo12:=Nat.le_trans hW.size hl12
  replace hB2:=hB2.below hE
  replace hW:=btr hW hE
  refine Za rfl ?_
  refine Zt hK11 fun a hf=>?_
  refine wp_ret ?_
  refine Xj ?_
  refine X3 ?_
  refine X2 hf (Xh hf rfl rfl) ?_
  rw [hfin]
  exact ⟨(some ⟨b12,0,none⟩),2,rfl,(Own.of_blkL Xz hB12 hlo12 rfl rfl (by decide)),hW⟩
 have hc10b:=hc10
 have hfin:qubI g=[g.a]:=by rw [qubI,if_neg h12,if_neg (by rw [hc10];simp)]
 refine wp_skip ?_
 refine Xn ?_
 refine hK4 _ _ ?_
 refine Zs hf fun _ hK14=>?_
 refine Ze (Vd rfl X0a 1)<|Ze (X0 rfl X5 (hB2.at 1)) ?_
 refine Zf (Xv (k:=1) (vs:=[vi g.a]) (zs:=[vi g.a]) rfl X0b X2b rfl rfl) ?_;rintro _ w4 ⟨b15,rfl,hl15,hE,hB15⟩
 have hlo15:=Nat.le_trans hW.size hl15
 replace hB2:=hB2.below hE
 replace hW:=btr hW hE
 refine Za rfl ?_
 refine Zt hK14 fun a hf=>?_
 refine wp_ret (X2 hf (Xh hf rfl rfl) ?_)
 rw [hfin]
 exact ⟨(some ⟨b15,0,none⟩),1,rfl,(Own.of_blkL Xz hB15 hlo15 rfl rfl (by decide)),hW⟩
theorem F17(w0:World){X_l:TypeId}(Al:Option Addr)(cl:Nat)(l:List Int)(hr_l:Rd w0 w0.heap.size X_l encI Al l)(hln:l.length≤1048576) : Ret Tryz.prog 17 [.slice Al l.length cl] w0 (fun v w=>∃ A c,v=.slice A l.length c∧Own w w0.heap.size 3 1 encI A c l∧Below w0.heap.size w0 w):=by
 refine enter Tryz.func17 rfl 22 rfl rfl ?_
 intro a hf
 have hW:Below w0.heap.size w0 w0:=Below.refl _ _
 refine Zs hf fun _ hK2=>?_
 refine Za rfl ?_
 refine Zt hK2 fun a hf=>?_
 refine Zs hf fun _ hK4=>?_
 refine Zm rfl<|Ze (X0d rfl X0b) ?_
 refine Zf (X1n (m:=l.length) (enc:=encI) (z0:=0) rfl rfl X0b X2b z_3 rfl Xz (by omega) (by omega)) ?_;rintro _ w1 ⟨b5,rfl,hl5,hE,hB5⟩
 have hlo5:=Nat.le_trans hW.size hl5
 replace hW:=btr hW hE
 refine Za rfl ?_
 refine Zt hK4 fun a hf=>?_
 refine wp_seq_k fun _ hK7=>?_
 refine Zs hf fun _ hK8=>?_
 refine Za rfl ?_
 refine Zt hK8 fun a hf=>?_
 refine wp_block ?_
 refine X04 (σ:=Nat×(List Int)) (fun (s:Nat×(List Int)) (a:Act) (w:World)=>match s with|(k,m)=>Fr a 22 [(0,.slice Al l.length cl),(3,.slice (some ⟨b5,0,none⟩) l.length l.length),(4,vi (k:Int))]∧(k≤l.length)∧(m.length=l.length)∧(m.take k=l.take k)∧Blk w b5 3 (m.flatMap encI)∧Below w0.heap.size w0 w) (fun (s:Nat×(List Int))=>match s with|(k,m)=>l.length-k) (0,List.replicate l.length 0) ?_ ?_
 · exact ⟨hf.sub ⟨rfl,rfl,rfl,trivial⟩,(Nat.zero_le _),(by simp),rfl,hB5,hW⟩
 rintro ⟨k,m⟩ a w2 ⟨hf,hk,hml,hpre,hB5,hW⟩
 refine wp_seq_k fun _ hK9=>?_
 refine Zs hf fun _ hK10=>?_
 refine Zm rfl<|Zm rfl<|Ze (X0d rfl X0b)<|Ze (X0m rfl rfl) ?_
 refine Zt hK10 fun a hf=>?_
 refine Xb hf rfl (fun hc11=>?_) (fun hc11=>?_)
 ·have hc11b:=hc11
  have hc11:=of_decide_eq_true hc11
  obtain ⟨u12,hu12⟩:=Xf (l:=l) (k:=k) (by omega)
  refine wp_skip ?_
  refine hK9 _ _ ?_
  refine wp_seq_k fun _ hK13=>?_
  refine wp_block ?_
  refine Zr hf ?_
  refine Zm rfl<|Zm rfl<|Zm rfl<|Zm rfl ?_
  refine Zi (k:=k) (u:=u12) (enc:=encI) (l:=l) trivial rfl rfl X0b X0z Xz (hr_l.below' hW) hu12 rfl ?_;intro p15 hat14
  refine Ze (X0 rfl X5 hat14)<|Ze (X3h (k:=k) (off:=k*1) rfl rfl X0b X0z rfl (by omega) rfl) ?_
  refine Zo (X3i (enc:=encI) (l:=m) (u:=u12) (k:=k) rfl rfl X0z hB5 Xz X2r rfl (by omega)) ?_;rintro _ w3 ⟨ho,hb⟩
  have hold:=hB5
  replace hW:=Below.only hW ho hlo5
  clear hold
  have hB5:=hb
  clear hb ho
  refine Zn fun a hf=>?_
  refine Xn ?_
  refine hK13 _ _ ?_
  refine Zr hf ?_
  refine Zm rfl<|Ze (Xy rfl rfl (by omega) (by omega))<|Za rfl ?_
  refine Zn fun a hf=>?_
  refine Xk ?_
  exact ⟨(k+1,(m.set k u12)),⟨hf.sub ⟨rfl,rfl,rfl,trivial⟩,(by omega),(by simp;exact hml),(X5s hpre (by omega) hu12),hB5,hW⟩,(by first|omega|(dsimp only;omega))⟩
 have hc11b:=hc11
 have hc11:=of_decide_eq_false hc11
 refine wp_exit ?_
 refine Xm ?_
 refine Xm ?_
 refine X03 ?_
 refine hK7 _ _ ?_
 refine Zs hf fun _ hK16=>?_
 refine Zm rfl<|Za rfl ?_
 refine Zt hK16 fun a hf=>?_
 refine wp_ret (X2 hf (Xh hf rfl rfl) ?_)
 have hmk:m.length=l.length:=hml
 have hmkb:l.length≤maxLen:=by simp only [maxLen];omega
 have hfin:m=l:=by rw [List.take_of_length_le (by omega),List.take_of_length_le (by omega)] at hpre;exact hpre
 have hown:=(Own.of_flat Xz hB5 hlo5 hmk hmkb)
 rw [hfin] at hown
 exact ⟨(some ⟨b5,0,none⟩),l.length,rfl,hown,hW⟩
theorem F20(w0:World)(Ap:Option Addr)(cp:Nat)(p:List Int)(hr_p:Rd w0 w0.heap.size 3 encI Ap p)(Aq:Option Addr)(cq:Nat)(q:List Int)(hr_q:Rd w0 w0.heap.size 3 encI Aq q)(hln:p.length≤2305843009213693951) : Ret Tryz.prog 20 [.slice Ap p.length cp,.slice Aq q.length cq] w0 (fun v w=>v=.bool (decide (p=q))∧Below w0.heap.size w0 w):=by
 refine enter Tryz.func20 rfl 26 rfl rfl ?_
 intro a hf
 have hW:Below w0.heap.size w0 w0:=Below.refl _ _
 refine Zs hf fun _ hK3=>?_
 refine Za rfl ?_
 refine Zt hK3 fun a hf=>?_
 refine wp_seq_k fun _ hK4=>?_
 refine Zs hf fun _ hK5=>?_
 refine Zm rfl<|Ze (X0d rfl X0b)<|Zm rfl<|Ze (X0d rfl X0b)<|Ze (X1g rfl rfl) ?_
 refine Zt hK5 fun a hf=>?_
 refine Xb hf rfl (fun hc6=>?_) (fun hc6=>?_)
 ·have hc6b:=hc6
  have hne:¬ p=q:=by intro h9;rw [h9] at hc6;simp at hc6
  refine Zs hf fun _ hK7=>?_
  refine Za rfl ?_
  refine Zt hK7 fun a hf=>?_
  refine wp_ret ?_
  refine X3 ?_
  refine X2 hf (Xh hf rfl rfl) ?_
  exact ⟨by simp [hne],hW⟩
 have hc6b:=hc6
 have hll:p.length=q.length:=by have h9:(p.length:Int)=q.length:=(by simpa using hc6);omega
 refine wp_skip ?_
 refine hK4 _ _ ?_
 refine wp_seq_k fun _ hK8=>?_
 refine Zs hf fun _ hK9=>?_
 refine Za rfl ?_
 refine Zt hK9 fun a hf=>?_
 refine wp_block ?_
 refine X04 (σ:=Nat) (fun (k:Nat) (a:Act) (w:World)=>Fr a 26 [(0,.slice Ap p.length cp),(1,.slice Aq q.length cq),(5,vi (k:Int))]∧(k≤p.length)∧(p.take k=q.take k)∧Below w0.heap.size w0 w) (fun (k:Nat)=>p.length-k) 0 ?_ ?_
 · exact ⟨hf.sub ⟨rfl,rfl,rfl,trivial⟩,(Nat.zero_le _),(by simp),hW⟩
 rintro k a w1 ⟨hf,hk,hpre,hW⟩
 refine wp_seq_k fun _ hK10=>?_
 refine Zs hf fun _ hK11=>?_
 refine Zm rfl<|Zm rfl<|Ze (X0d rfl X0b)<|Ze (X0m rfl rfl) ?_
 refine Zt hK11 fun a hf=>?_
 refine Xb hf rfl (fun hc12=>?_) (fun hc12=>?_)
 ·have hc12b:=hc12
  have hc12:=of_decide_eq_true hc12
  obtain ⟨u13,hu13⟩:=Xf (l:=p) (k:=k) (by omega)
  obtain ⟨v9,hv9⟩:=Xf (l:=q) (k:=k) (by omega)
  refine wp_skip ?_
  refine hK10 _ _ ?_
  refine wp_seq_k fun _ hK14=>?_
  refine wp_block ?_
  refine wp_seq_k fun _ hK15=>?_
  refine X05 none (fun _=>false) mixed ?_
  intro w2 hE
  replace hW:=btr hW hE
  refine Yb hf ?_
  refine Yo 0 rfl (fun _=>X8 rfl)<|Yo 1 rfl (fun _=>X8 rfl) ?_
  refine Yi (k:=k) (u:=u13) (enc:=encI) (l:=p) 2 rfl trivial rfl rfl X0b X0z Xz (hr_p.below' hW) hu13 rfl ?_;intro p17 hat16
  refine Ye 3 rfl (X0 rfl X5 hat16)<|Yo 4 rfl (fun _=>X8 rfl)<|Yo 5 rfl (fun _=>X8 rfl) ?_
  refine Yi (k:=k) (u:=v9) (enc:=encI) (l:=q) 6 rfl trivial rfl rfl X0b X0z Xz (hr_q.below' hW) hv9 rfl ?_;intro p19 hat18
  refine Ye 7 rfl (X0 rfl X5 hat18)<|Yo 8 rfl (fun _=>X1g rfl rfl) ?_
  refine Yd fun a hf=>?_
  refine hK15 _ _ ?_
  refine Xb hf rfl (fun hc20=>?_) (fun hc20=>?_)
  ·have hc20b:=hc20
   have hne:¬ p=q:=by rintro rfl;rw [hu13] at hv9;injection hv9 with e9;revert hc20;simp [e9]
   refine Zs hf fun _ hK21=>?_
   refine Za rfl ?_
   refine Zt hK21 fun a hf=>?_
   refine wp_ret ?_
   refine Xj ?_
   refine X3 ?_
   refine X3 ?_
   refine Xj ?_
   refine X3 ?_
   refine X2 hf (Xh hf rfl rfl) ?_
   exact ⟨by simp [hne],hW⟩
  have hc20b:=hc20
  have he9:u13=v9:=by simpa using hc20
  refine wp_skip ?_
  refine Xn ?_
  refine hK14 _ _ ?_
  refine Zr hf ?_
  refine Zm rfl<|Ze (Xy rfl rfl (by omega) (by omega))<|Za rfl ?_
  refine Zn fun a hf=>?_
  refine Xk ?_
  exact ⟨k+1,⟨hf.sub ⟨rfl,rfl,rfl,trivial⟩,(by omega),(X31 hpre hu13 hv9 he9),hW⟩,(by omega)⟩
 have hc12b:=hc12
 have hc12:=of_decide_eq_false hc12
 refine wp_exit ?_
 refine Xm ?_
 refine Xm ?_
 refine X03 ?_
 refine hK8 _ _ ?_
 refine Zs hf fun _ hK22=>?_
 refine Za rfl ?_
 refine Zt hK22 fun a hf=>?_
 refine wp_ret (X2 hf (Xh hf rfl rfl) ?_)
 have he:p=q:=by rw [List.take_of_length_le (by omega),List.take_of_length_le (by omega)] at hpre;exact hpre
 exact ⟨by simp [he],hW⟩
end Go.Proofs.YtfgnmflfiobkmaaGreat
set_option maxRecDepth 4000
namespace Go.Proofs.YtfgnmflfiobkmaaGreat
open Go.RowKit
theorem Xrq(w0:World)(Al:Option Addr)(cl:Nat)(l:List Int)(hr_l:Rd w0 w0.heap.size 3 encI Al l)(x:Int)(hln:l.length≤2305843009213693951) : Ret Tryz.prog 204 [.slice Al l.length cl,vi x] w0 (fun v w=>∃ i:Int,v=vi i∧decide (0≤i)=(l.any fun y=>x==y)∧Below w0.heap.size w0 w):=by
 refine enter Tryz.func204 rfl 19 rfl rfl ?_
 intro a hf
 have hW:Below w0.heap.size w0 w0:=Below.refl _ _
 refine Zs hf fun _ hK2=>?_
 refine Za rfl ?_
 refine Zt hK2 fun a hf=>?_
 refine wp_seq_k fun _ hK3=>?_
 refine Zs hf fun _ hK4=>?_
 refine Zm rfl<|Ze (X0d rfl X0b)<|Zm rfl ?_
 refine Zt hK4 fun a hf=>?_
 refine wp_block ?_
 refine X04 (σ:=Nat) (fun (k:Nat) (a:Act) (w:World)=>Fr a 19 [(0,.slice Al l.length cl),(1,vi x),(7,vi (l.length:Int)),(8,vi (k:Int))]∧(k≤l.length)∧((l.take k).all (fun y=>!(x==y))=true)∧Below w0.heap.size w0 w) (fun (k:Nat)=>l.length+1-k) 0 ?_ ?_
 · exact ⟨hf.sub ⟨rfl,rfl,rfl,rfl,trivial⟩,(Nat.zero_le _),(by simp),hW⟩
 rintro k a w1 ⟨hf,hk,hpre,hW⟩
 refine Zs hf fun _ hK5=>?_
 refine Ze (X0m rfl rfl) ?_
 refine Zt hK5 fun a hf=>?_
 refine wp_seq_k fun _ hK6=>?_
 refine Xb hf rfl (fun hc7=>?_) (fun hc7=>?_)
 ·have hc7b:=hc7
  have hc7:=of_decide_eq_true hc7
  obtain ⟨u8,hu8⟩:=Xf (l:=l) (k:=k) (by omega)
  refine wp_skip ?_
  refine hK6 _ _ ?_
  refine wp_seq_k fun _ hK9=>?_
  refine wp_block ?_
  refine Zs hf fun _ hK10=>?_
  refine Zm rfl<|Za rfl ?_
  refine Zt hK10 fun a hf=>?_
  refine Zs hf fun _ hK11=>?_
  refine Zm rfl<|Zm rfl<|Zm rfl ?_
  refine Zi (k:=k) (u:=u8) (enc:=encI) (l:=l) trivial rfl rfl X0b X0z Xz (hr_l.below' hW) hu8 rfl ?_;intro p13 hat12
  refine Ze (X0 rfl X5 hat12)<|Ze (X0s rfl rfl) ?_
  refine Zt hK11 fun a hf=>?_
  refine Xb hf rfl (fun hc14=>?_) (fun hc14=>?_)
  ·have hc14b:=hc14
   have hb2:l.any (fun y=>x==y)=true:=X1y hu8 hc14
   refine Zs hf fun _ hK15=>?_
   refine Zm rfl<|Za rfl ?_
   refine Zt hK15 fun a hf=>?_
   refine wp_ret ?_
   refine Xj ?_
   refine X3 ?_
   refine X3 ?_
   refine Xj ?_
   refine X3 ?_
   refine X2 hf (Xh hf rfl rfl) ?_
   exact ⟨_,rfl,by rw [hb2];simp,hW⟩
  have hc14b:=hc14
  have hok:(!(x==u8))=true:=by rw [hc14];rfl
  refine wp_skip ?_
  refine Xn ?_
  refine hK9 _ _ ?_
  refine Zr hf ?_
  refine Ze (Xy rfl rfl (by omega) (by omega))<|Zm rfl ?_
  refine Zn fun a hf=>?_
  refine Xk ?_
  exact ⟨k+1,⟨hf.sub ⟨rfl,rfl,rfl,rfl,trivial⟩,(by omega),(X1l hpre hu8 hok),hW⟩,(by omega)⟩
 have hc7b:=hc7
 have hc7:=of_decide_eq_false hc7
 refine wp_exit ?_
 refine Xm ?_
 refine Xm ?_
 refine X03 ?_
 refine hK3 _ _ ?_
 refine Zs hf fun _ hK16=>?_
 refine Za rfl ?_
 refine Zt hK16 fun a hf=>?_
 refine wp_ret (X2 hf (Xh hf rfl rfl) ?_)
 have hb2:l.any (fun y=>x==y)=false:=X1s (X1h hpre (by omega))
 exact ⟨_,rfl,by rw [hb2];rfl,hW⟩
theorem Xpn(w0:World)(Al:Option Addr)(cl:Nat)(l:List Int)(hr_l:Rd w0 w0.heap.size 3 encI Al l)(x:Int)(hln:l.length≤2305843009213693951) : Ret Tryz.prog 152 [.slice Al l.length cl,vi x] w0 (fun v w=>v=.bool (l.any fun y=>x==y)∧Below w0.heap.size w0 w):=by
 refine enter Tryz.func152 rfl 9 rfl rfl ?_
 intro a hf
 have hW:Below w0.heap.size w0 w0:=Below.refl _ _
 refine Zs hf fun _ hK2=>?_
 refine Za rfl ?_
 refine Zt hK2 fun a hf=>?_
 refine Zs hf fun _ hK3=>?_
 refine Zm rfl<|Zm rfl ?_
 refine Zf (Vc (Xrq _ Al cl l (hr_l.below' hW).top x hln) Xn9) ?_;rintro _ w1 ⟨ix,rfl,hix,hE⟩
 replace hW:=btr hW hE
 refine Ze (X7j rfl rfl)<|Za rfl ?_
 refine Zt hK3 fun a hf=>?_
 refine wp_ret (X2 hf (Xh hf rfl rfl) ?_)
 exact ⟨by rw [← hix],hW⟩
theorem Xso(w0:World)(Al:Option Addr)(cl:Nat)(l:List Int)(hr_l:Rd w0 w0.heap.size 3 encI Al l)(kq:FuncId)(pq:List Value)(Fq:FuncF Tryz.prog kq)(q:Int→Bool)(hq:∀ x w,Below w0.heap.size w0 w→Ret Tryz.prog kq ([vi x]++pq) w (fun v w'=>v=.bool (q x)∧Below w.heap.size w w'))(hln:l.length≤2305843009213693951) : Ret Tryz.prog 203 [.slice Al l.length cl,.func (.func kq) #[] pq.toArray] w0 (fun v w=>∃ i:Int,v=vi i∧decide (0≤i)=l.any q∧Below w0.heap.size w0 w):=by
 refine enter Tryz.func203 rfl 19 rfl rfl ?_
 intro a hf
 have hW:Below w0.heap.size w0 w0:=Below.refl _ _
 refine Zs hf fun _ hK2=>?_
 refine Za rfl ?_
 refine Zt hK2 fun a hf=>?_
 refine wp_seq_k fun _ hK3=>?_
 refine Zs hf fun _ hK4=>?_
 refine Zm rfl<|Ze (X0d rfl X0b)<|Zm rfl ?_
 refine Zt hK4 fun a hf=>?_
 refine wp_block ?_
 refine X04 (σ:=Nat) (fun (k:Nat) (a:Act) (w:World)=>Fr a 19 [(0,.slice Al l.length cl),(1,.func (.func kq) #[] pq.toArray),(7,vi (l.length:Int)),(8,vi (k:Int))]∧(k≤l.length)∧((l.take k).all (fun x=>!q x)=true)∧Below w0.heap.size w0 w) (fun (k:Nat)=>l.length+1-k) 0 ?_ ?_
 · exact ⟨hf.sub ⟨rfl,rfl,rfl,rfl,trivial⟩,(Nat.zero_le _),(by simp),hW⟩
 rintro k a w1 ⟨hf,hk,hpre,hW⟩
 refine Zs hf fun _ hK5=>?_
 refine Ze (X0m rfl rfl) ?_
 refine Zt hK5 fun a hf=>?_
 refine wp_seq_k fun _ hK6=>?_
 refine Xb hf rfl (fun hc7=>?_) (fun hc7=>?_)
 ·have hc7b:=hc7
  have hc7:=of_decide_eq_true hc7
  obtain ⟨u8,hu8⟩:=Xf (l:=l) (k:=k) (by omega)
  refine wp_skip ?_
  refine hK6 _ _ ?_
  refine wp_seq_k fun _ hK9=>?_
  refine wp_block ?_
  refine Zs hf fun _ hK10=>?_
  refine Zm rfl<|Za rfl ?_
  refine Zt hK10 fun a hf=>?_
  refine Zs hf fun _ hK11=>?_
  refine Zm rfl<|Zm rfl<|Zm rfl ?_
  refine Zi (k:=k) (u:=u8) (enc:=encI) (l:=l) trivial rfl rfl X0b X0z Xz (hr_l.below' hW) hu8 rfl ?_;intro p13 hat12
  refine Ze (X0 rfl X5 hat12) ?_
  refine Zf (X7m (cs:=pq) (vs:=[vi u8]) rfl rfl Fq (hq u8 _ hW)) ?_;rintro _ w2 ⟨rfl,hE⟩
  replace hW:=btr hW hE
  refine Zt hK11 fun a hf=>?_
  refine Xb hf rfl (fun hc14=>?_) (fun hc14=>?_)
  ·have hc14b:=hc14
   have hb2:l.any q=true:=X1y hu8 hc14
   refine Zs hf fun _ hK15=>?_
   refine Zm rfl<|Za rfl ?_
   refine Zt hK15 fun a hf=>?_
   refine wp_ret ?_
   refine Xj ?_
   refine X3 ?_
   refine X3 ?_
   refine Xj ?_
   refine X3 ?_
   refine X2 hf (Xh hf rfl rfl) ?_
   exact ⟨_,rfl,by rw [hb2];simp,hW⟩
  have hc14b:=hc14
  have hok:(!q u8)=true:=by revert hc14;cases q u8<;>simp
  refine wp_skip ?_
  refine Xn ?_
  refine hK9 _ _ ?_
  refine Zr hf ?_
  refine Ze (Xy rfl rfl (by omega) (by omega))<|Zm rfl ?_
  refine Zn fun a hf=>?_
  refine Xk ?_
  exact ⟨k+1,⟨hf.sub ⟨rfl,rfl,rfl,rfl,trivial⟩,(by omega),(X1l hpre hu8 hok),hW⟩,(by omega)⟩
 have hc7b:=hc7
 have hc7:=of_decide_eq_false hc7
 refine wp_exit ?_
 refine Xm ?_
 refine Xm ?_
 refine X03 ?_
 refine hK3 _ _ ?_
 refine Zs hf fun _ hK16=>?_
 refine Za rfl ?_
 refine Zt hK16 fun a hf=>?_
 refine wp_ret (X2 hf (Xh hf rfl rfl) ?_)
 have hb2:l.any q=false:=X1s (X1h hpre (by omega))
 exact ⟨_,rfl,by rw [hb2];rfl,hW⟩
theorem Xqr(w0:World)(Al:Option Addr)(cl:Nat)(l:List Int)(hr_l:Rd w0 w0.heap.size 3 encI Al l)(kq:FuncId)(pq:List Value)(Fq:FuncF Tryz.prog kq)(q:Int→Bool)(hq:∀ x w,Below w0.heap.size w0 w→Ret Tryz.prog kq ([vi x]++pq) w (fun v w'=>v=.bool (q x)∧Below w.heap.size w w'))(hln:l.length≤2305843009213693951) : Ret Tryz.prog 150 [.slice Al l.length cl,.func (.func kq) #[] pq.toArray] w0 (fun v w=>v=.bool (l.any q)∧Below w0.heap.size w0 w):=by
 refine enter Tryz.func150 rfl 9 rfl rfl ?_
 intro a hf
 have hW:Below w0.heap.size w0 w0:=Below.refl _ _
 refine Zs hf fun _ hK2=>?_
 refine Za rfl ?_
 refine Zt hK2 fun a hf=>?_
 refine Zs hf fun _ hK3=>?_
 refine Zm rfl<|Zm rfl ?_
 refine Zf (Vc (Xso _ Al cl l (hr_l.below' hW).top kq pq Fq q (fun x w' hE'=>hq x w' (hW.trans (hE'.mono hW.size))) hln) Xnt) ?_;rintro _ w1 ⟨ix,rfl,hix,hE⟩
 replace hW:=btr hW hE
 refine Ze (X7j rfl rfl)<|Za rfl ?_
 refine Zt hK3 fun a hf=>?_
 refine wp_ret (X2 hf (Xh hf rfl rfl) ?_)
 exact ⟨by rw [← hix],hW⟩
theorem Xrj(w0:World)(x:Int)(h:Gt)(ba:Nat)(hBa:Blk w0 ba 107 [vi h.k,vi h.a,vi h.b]) : Ret Tryz.prog 151 [vi x,.pointer (some ⟨ba,0,none⟩)] w0 (fun v w=>v=.bool ((qubI h).any fun y=>x==y)∧Below w0.heap.size w0 w):=by
 have hltba:=hBa.lt
 refine enter Tryz.func151 rfl 8 rfl rfl ?_
 intro a hf
 have hW:Below w0.heap.size w0 w0:=Below.refl _ _
 refine Zs hf fun _ hK1=>?_
 refine Za rfl ?_
 refine Zt hK1 fun a hf=>?_
 refine Zs hf fun _ hK2=>?_
 refine Ze (Xi (l:=[vi h.k,vi h.a,vi h.b]) rfl X0k (hBa.at 0) rfl) ?_
 refine Zf (Vc (F96 _ h) Xhj) ?_;rintro _ w1 ⟨A3,c3,rfl,ho3,hE⟩
 replace ho3:=ho3.lower hW.size
 replace hBa:=hBa.below hE
 replace hW:=btr hW hE
 refine Zm rfl ?_
 refine Zf (Vc (Xpn _ A3 c3 (qubI h) ho3.rd.top x (by have:=X36 h;omega)) Xgt) ?_;rintro _ w2 ⟨rfl,hE⟩
 replace hBa:=hBa.below hE
 replace ho3:=ho3.below hE
 replace hW:=btr hW hE
 refine Za rfl ?_
 refine Zt hK2 fun a hf=>?_
 refine wp_ret (X2 hf (Xh hf rfl rfl) ?_)
 exact ⟨rfl,hW⟩
theorem Xqt(w0:World)(g:Gt)(h:Gt) : Ret Tryz.prog 108 [.agg #[vi g.k,vi g.a,vi g.b],.agg #[vi h.k,vi h.a,vi h.b]] w0 (fun v w=>v=.bool (comI g h)∧Below w0.heap.size w0 w):=by
 refine enter Tryz.func108 rfl 9 rfl rfl ?_
 intro a hf
 have hW:Below w0.heap.size w0 w0:=Below.refl _ _
 refine Zs hf fun _ hK1=>?_
 refine Zf (Xu (zs:=[vi g.k,vi g.a,vi g.b]) rfl rfl) ?_;rintro _ w1 ⟨b2,rfl,hl2,hE,hB2⟩
 have hlo2:=Nat.le_trans hW.size hl2
 replace hW:=btr hW hE
 refine Zf (Xu (zs:=[vi h.k,vi h.a,vi h.b]) rfl rfl) ?_;rintro _ w2 ⟨b3,rfl,hl3,hE,hB3⟩
 have hne2_3:b2≠b3:=by have:=hB2.lt;omega
 have hlo3:=Nat.le_trans hW.size hl3
 replace hB2:=hB2.below hE
 replace hW:=btr hW hE
 refine Za rfl ?_
 refine Zt hK1 fun a hf=>?_
 refine Zs hf fun _ hK4=>?_
 refine Ze (Vn X0k hB2) ?_
 refine Zf (Vc (F96 _ g) Xhj) ?_;rintro _ w3 ⟨A5,c5,rfl,ho5,hE⟩
 replace ho5:=ho5.lower hW.size
 replace hB2:=hB2.below hE
 replace hB3:=hB3.below hE
 replace hW:=btr hW hE
 refine Ze (X34 (vs:=[.pointer (some ⟨b3,0,none⟩)]) rfl) ?_
 refine Zf (Vc (Xqr _ A5 c5 (qubI g) ho5.rd.top 151 [.pointer (some ⟨b3,0,none⟩)] Xnx (fun x=>(qubI h).any fun y=>x==y) (fun x w' hE'=>Xrj w' x h _ (hB3.below hE')) (by have:=X36 g;omega)) Xks) ?_;rintro _ w4 ⟨rfl,hE⟩
 replace hB2:=hB2.below hE
 replace hB3:=hB3.below hE
 replace ho5:=ho5.below hE
 replace hW:=btr hW hE
 refine Za rfl ?_
 refine Zt hK4 fun a hf=>?_
 refine wp_ret (X2 hf (Xh hf rfl rfl) ?_)
 exact ⟨rfl,hW⟩
end Go.Proofs.YtfgnmflfiobkmaaGreat
set_option maxHeartbeats 1000000
set_option maxRecDepth 4000
namespace Go.Proofs.YtfgnmflfiobkmaaGreat
open Go.RowKit
end Go.Proofs.YtfgnmflfiobkmaaGreat
set_option maxRecDepth 4000
namespace Go.Proofs.YtfgnmflfiobkmaaGreat
open Go.RowKit
end Go.Proofs.YtfgnmflfiobkmaaGreat
namespace Go.Proofs.YtfgnmflfiobkmaaGreat
open Go.RowKit
def kV(x y:Gt) : Value:=.agg #[.int .i64 x.k,.int .i64 x.a,.int .i64 x.b,.int .i64 y.k,.int .i64 y.a,.int .i64 y.b]
structure Me where (x y:Gt) (v:Bool) (born:Nat)
def entM(m:Me) : MapEntry:={ key:=kV m.x m.y,val:=.bool m.v,born:=m.born }
def findM(l:List Me)(x y:Gt) : Option Bool:=(l.find? fun m=>decide (x=m.x)&&decide (y=m.y)).map Me.v
def GoodM(l:List Me) : Prop:=∀ m ∈ l,m.v = !commI m.x m.y
def MemoL(w:World)(b:Nat)(l:List Me)(clock:Nat) : Prop:=w.heap[b]? = some (.map (l.map entM).toArray clock)
def MemoG(w:World)(b:Nat) : Prop:=∃ l clock,MemoL w b l clock∧GoodM l
def MemoN(x y:Gt)(w:World)(b:Nat) : Prop:=∃ l clock,MemoL w b l clock∧GoodM l∧findM l x y=none
theorem MemoL.lt{w:World}{b clock:Nat}{l:List Me}(h:MemoL w b l clock) : b<w.heap.size:=by
 rcases Nat.lt_or_ge b w.heap.size with h'|h'
 ·exact h'
 ·simp [MemoL,Array.getElem?_eq_none h'] at h
theorem MemoL.below{w w':World}{b clock:Nat}{l:List Me}(h:MemoL w b l clock)(hb:Below w.heap.size w w') : MemoL w' b l clock:=(hb.block b h.lt).trans h
theorem MemoL.only{w w':World}{b b' clock:Nat}{l:List Me}(h:MemoL w b l clock)(ho:Only b' w w')(hne:b≠b') : MemoL w' b l clock:=(ho.block b hne).trans h
theorem MemoL.ne{w:World}{b b' clock:Nat}{l:List Me}{T:TypeId}{cs:List Value}(h:MemoL w b l clock)(hb:Blk w b' T cs) : b≠b':=by
 rintro rfl
 unfold MemoL at h
 unfold Blk at hb
 rw [h] at hb
 cases hb
section
variable {w w' : World} {b b' : Nat} {x y : Gt}
theorem MemoG.lt(h:MemoG w b) : b<w.heap.size:=let ⟨_,_,h,_⟩:=h;h.lt
theorem MemoG.below(h:MemoG w b)(hb:Below w.heap.size w w') : MemoG w' b:=let ⟨l,c,h,g⟩:=h;⟨l,c,h.below hb,g⟩
theorem MemoG.only(h:MemoG w b)(ho:Only b' w w')(hne:b≠b') : MemoG w' b:=let ⟨l,c,h,g⟩:=h;⟨l,c,h.only ho hne,g⟩
theorem MemoG.ne{T:TypeId}{cs:List Value}(h:MemoG w b)(hb:Blk w b' T cs) : b≠b':=let ⟨_,_,h,_⟩:=h;h.ne hb
theorem MemoG.good(h:MemoG w b) : MemoG w b:=h
theorem MemoN.good(h:MemoN x y w b) : MemoG w b:=let ⟨l,c,h,g,_⟩:=h;⟨l,c,h,g⟩
theorem MemoN.lt(h:MemoN x y w b) : b<w.heap.size:=let ⟨_,_,h,_⟩:=h;h.lt
theorem MemoN.below(h:MemoN x y w b)(hb:Below w.heap.size w w') : MemoN x y w' b:=let ⟨l,c,h,g⟩:=h;⟨l,c,h.below hb,g⟩
theorem MemoN.only(h:MemoN x y w b)(ho:Only b' w w')(hne:b≠b') : MemoN x y w' b:=let ⟨l,c,h,g⟩:=h;⟨l,c,h.only ho hne,g⟩
theorem MemoN.ne{T:TypeId}{cs:List Value}(h:MemoN x y w b)(hb:Blk w b' T cs) : b≠b':=let ⟨_,_,h,_⟩:=h;h.ne hb
theorem Blk.onlyM{T:TypeId}{cs:List Value}(h:Blk w b' T cs)(ho:Only b w w')(hm:MemoG w b) : Blk w' b' T cs:=h.only ho (Ne.symm (hm.ne h))
theorem Rd.onlyM{α:Type}{B:Nat}{E:TypeId}{enc:α→List Value}{A:Option Addr}{l:List α}(h:Rd w B E enc A l)(ho:Only b w w')(hm:MemoG w b) : Rd w' B E enc A l:=h.chg fun k cs fz _ hk=>ho.block k fun e=>by
 obtain ⟨_,_,hL,_⟩:=hm
 unfold MemoL at hL
 rw [e,hL] at hk
 cases hk
end
theorem Xej{l:List Me}{x y:Gt}{v:Bool}(h:GoodM l)(hf:findM l x y=some v) : v = !commI x y:=by
 unfold findM at hf
 rw [Option.map_eq_some_iff] at hf
 obtain ⟨m,h1,h2⟩:=hf
 have h3:=List.find?_some h1
 simp only [Bool.and_eq_true,decide_eq_true_eq] at h3
 rw [← h2,h m (List.mem_of_find?_eq_some h1),h3.1,h3.2]
def LookM(w:World)(b:Nat)(x y:Gt)(v k:Bool) : Prop:=∃ l clock,MemoL w b l clock∧((k=true∧findM l x y=some v)∨(k=false∧v=false∧findM l x y=none))
theorem MemoG.look{w:World}{b:Nat}(h:MemoG w b)(x y:Gt) : ∃ v k,LookM w b x y v k∧(k=true→v = !commI x y)∧(k=false→MemoN x y w b):=by
 obtain ⟨l,clock,hL,hg⟩:=h
 cases hf:findM l x y with
 | none=>exact ⟨false,false,⟨l,clock,hL,.inr ⟨rfl,rfl,hf⟩⟩,(fun h=>by cases h),fun _=>⟨l,clock,hL,hg,hf⟩⟩
 | some v=>exact ⟨v,true,⟨l,clock,hL,.inl ⟨rfl,hf⟩⟩,fun _=>Xej hg hf,(fun h=>by cases h)⟩
section
variable {a : Act} {w : World} {n : Nat} {e : Env} {ty : TypeId} {pos : String} {af : Array Edge} {g : Option (Nat × Bool)} {d : Option Tmp} {x y : Gt} {b : Nat}
end
section
variable {P : Program} {a : Act} {w : World} {n : Nat} {e : Env} {ty : TypeId} {pos : String} {af : Array Edge} {g : Option (Nat × Bool)} {d : Option Tmp}
end
section
variable {P : Program} {a : Act} {w : World} {n : Nat} {e : Env} {α : Type} {ops : Array Oper} {ty : TypeId} {pos : String} {af : Array Edge} {g : Option (Nat × Bool)} {d : Nat}
end
theorem X6t{gs:List Gt}{i:Nat}(h:i<gs.length) : gs[i]? = some (gs.getD i gZ):=by
 rw [List.getD_eq_getElem?_getD,List.getElem?_eq_getElem h];rfl
section
variable {gs : List Gt} {s : List Int} {i : Nat} {g : Gt}
end
end Go.Proofs.YtfgnmflfiobkmaaGreat
namespace Go.Proofs.YtfgnmflfiobkmaaGreat
open Go.RowKit
end Go.Proofs.YtfgnmflfiobkmaaGreat
namespace Go.Proofs.YtfgnmflfiobkmaaGreat
open Go.RowKit
def RB(k:Int)(x:Rg) : Prop:=(-k≤x.a∧x.a≤k)∧(-k≤x.b∧x.b≤k)∧(-k≤x.c∧x.c≤k)∧(-k≤x.d∧x.d≤k)
def SM(e:Int)(k:Int)(x:Dy) : Prop:=dOk x=true∧RB k x.num∧x.exp≤e
theorem RB.ok{k:Int}{x:Rg}(h:RB k x)(hk:k≤1000000000) : rOk x=true:=by
 unfold RB at h
 exact X4w.2 (by omega)
theorem RB.root{k:Int}{x:Rg}(h:RB k x)(hk:k≤1000000000) : RB (2*k) (rRoot x):=by
 unfold RB at *
 simp only [rRoot]
 rw [X17 (by omega) (by omega),X17 (by omega) (by omega),X17 (by omega) (by omega),X17 (by omega) (by omega)]
 omega
theorem RB.half{k:Int}{x:Rg}(h:RB k x)(h0:0≤k)(hk:k≤1000000000) : RB k (rHalf x):=by
 have h1:=h.root hk
 unfold RB at *
 simp only [rHalf]
 have hd:∀ i:Int,-(2*k)≤i→i≤2*k→-k≤wr (i.tdiv 2)∧wr (i.tdiv 2)≤k:=fun i a b=>by
  have:-k≤i.tdiv 2∧i.tdiv 2≤k:=by
   rcases Int.le_total 0 i with h|h
   ·rw [Int.tdiv_eq_ediv_of_nonneg h];omega
   ·have e:i.tdiv 2 = -((-i).tdiv 2):=by rw [Int.neg_tdiv,Int.neg_neg]
    rw [e,Int.tdiv_eq_ediv_of_nonneg (by omega)];omega
  rw [X17 (by omega) (by omega)]
  exact this
 exact ⟨hd _ h1.1.1 h1.1.2,hd _ h1.2.1.1 h1.2.1.2,hd _ h1.2.2.1.1 h1.2.2.1.2,hd _ h1.2.2.2.1 h1.2.2.2.2⟩
theorem RB.low{k:Int}(h0:0≤k)(hk:k≤1000000000) : ∀ (n:Nat) {x:Rg},RB k x→RB k (lowN n x).1
 | 0,_,h=>h
 | n+1,x,h=>by
  rw [lowN]
  split
  ·exact RB.low h0 hk n (h.half h0 hk)
  ·exact h
theorem one_mul{a b:Int}(ha:-1≤a∧a≤1)(hb:-1≤b∧b≤1) : -1≤a*b∧a*b≤1:=by
 have:a = -1∨a=0∨a=1:=by omega
 rcases this with rfl|rfl|rfl<;>omega
theorem w4:∀ p q r s:Int,(-1≤p∧p≤1)→(-1≤q∧q≤1)→(-1≤r∧r≤1)→(-1≤s∧s≤1)→(-4≤wr (wr (wr (wr p-wr q)-wr r)-wr s)∧wr (wr (wr (wr p-wr q)-wr r)-wr s)≤4)∧(-4≤wr (wr (wr (wr p+wr q)-wr r)-wr s)∧wr (wr (wr (wr p+wr q)-wr r)-wr s)≤4)∧(-4≤wr (wr (wr (wr p+wr q)+wr r)-wr s)∧wr (wr (wr (wr p+wr q)+wr r)-wr s)≤4)∧(-4≤wr (wr (wr (wr p+wr q)+wr r)+wr s)∧wr (wr (wr (wr p+wr q)+wr r)+wr s)≤4):=fun p q r s hp hq hr hs=>by
 have a1:wr p=p:=X17 (by omega) (by omega)
 have a2:wr q=q:=X17 (by omega) (by omega)
 have a3:wr r=r:=X17 (by omega) (by omega)
 have a4:wr s=s:=X17 (by omega) (by omega)
 have b1:wr (p-q)=p-q:=X17 (by omega) (by omega)
 have b2:wr (p+q)=p+q:=X17 (by omega) (by omega)
 have c1:wr (p-q-r)=p-q-r:=X17 (by omega) (by omega)
 have c2:wr (p+q-r)=p+q-r:=X17 (by omega) (by omega)
 have c3:wr (p+q+r)=p+q+r:=X17 (by omega) (by omega)
 have d1:wr (p-q-r-s)=p-q-r-s:=X17 (by omega) (by omega)
 have d2:wr (p+q-r-s)=p+q-r-s:=X17 (by omega) (by omega)
 have d3:wr (p+q+r-s)=p+q+r-s:=X17 (by omega) (by omega)
 have d4:wr (p+q+r+s)=p+q+r+s:=X17 (by omega) (by omega)
 rw [a1,a2,a3,a4,b1,b2,c1,c2,c3,d1,d2,d3,d4]
 refine ⟨⟨?_,?_⟩,⟨?_,?_⟩,⟨?_,?_⟩,?_,?_⟩<;>omega
def dotK:Nat→Int
 | 0=>0
 | n+1=>4*dotK n+16
end Go.Proofs.YtfgnmflfiobkmaaGreat
namespace Go.Proofs.YtfgnmflfiobkmaaGreat
open Go.RowKit
def smB(z:Dy) : Bool:=dOk z&&inR z.num.a (-1) 1&&inR z.num.b (-1) 1&&inR z.num.c (-1) 1&&inR z.num.d (-1) 1&&decide (z.exp≤1)
theorem X6j{p q:Nat→Bool}{i:Nat}(h:∀ j,j<i→p j=q j) : (List.range i).any p=(List.range i).any q:=by
 rw [Bool.eq_iff_iff,List.any_eq_true,List.any_eq_true]
 exact ⟨fun ⟨j,h1,h2⟩=>⟨j,h1,by rw [← h j (List.mem_range.1 h1)];exact h2⟩,fun ⟨j,h1,h2⟩=>⟨j,h1,by rw [h j (List.mem_range.1 h1)];exact h2⟩⟩
end Go.Proofs.YtfgnmflfiobkmaaGreat
namespace Go.Proofs.YtfgnmflfiobkmaaGreat
open Go.RowKit
def fitA(gs:List Gt)(i:Nat)(k:Int)(out:List Int)(j:Nat) : Bool:=decide (j<i)&&!commI (gs.getD j gZ) (gs.getD i gZ)&&(out.getD j 0==0||decide (k≤out.getD j 0))
def fitB(gs:List Gt)(i:Nat)(k:Int)(out:List Int)(j:Nat) : Bool:=decide (j≠i)&&out.getD j 0==k&&comI (gs.getD j gZ) (gs.getD i gZ)
def fitC(gs:List Gt)(i:Nat)(k:Int)(out:List Int)(j:Nat) : Bool:=fitA gs i k out j||fitB gs i k out j
def fitsI(gs:List Gt)(i:Nat)(k:Int)(out:List Int) : Bool:=!(List.range gs.length).any (fitC gs i k out)
def mayI(gs:List Gt)(k:Int)(out:List Int)(i:Nat) : Bool:=(gs.getD i gZ).k != 12&&out.getD i 0==0&&fitsI gs i k out
def stepI(gs:List Gt)(k:Int)(out:List Int)(i:Nat) : List Int:=if mayI gs k out i=true then out.set i k else out
def sweepN(gs:List Gt)(k:Int)(out:List Int)(i:Nat) : List Int:=(List.range i).foldl (stepI gs k) out
def cntZ:List Gt→List Int→Nat
 | g::gs,x::xs=>(if g.k≠12∧x=0 then 1 else 0)+cntZ gs xs
 | _,_=>0
def runI(gs:List Gt) : Nat→Int→List Int→List Int
 | 0,_,out=>out
 | f+1,k,out=>if cntZ gs out=0 then out else runI gs f (k+1) (sweepN gs k out gs.length)
def schedOf(c:Cx) : List Int:=if cOk c=true then runI c.gs c.gs.length 1 (List.replicate c.gs.length 0) else []
theorem getD_some{α:Type}{l:List α}{i:Nat}{d x:α}(h:l[i]? = some x) : l.getD i d=x:=by rw [List.getD_eq_getElem?_getD,h];rfl
theorem X14{α:Type}{l:List α}{i:Nat}(d:α)(h:i<l.length) : l[i]? = some (l.getD i d):=by
 rw [List.getD_eq_getElem?_getD,List.getElem?_eq_getElem h];rfl
structure Sch (gs:List Gt) (k:Int) (out:List Int) : Prop where
 len:out.length=gs.length
 low:∀ j,j<gs.length→0≤out.getD j 0∧out.getD j 0<k
 w:∀ j,j<gs.length→(gs.getD j gZ).k=12→out.getD j 0=0
structure SchM (gs:List Gt) (k:Int) (out:List Int) : Prop where
 len:out.length=gs.length
 low:∀ j,j<gs.length→0≤out.getD j 0∧out.getD j 0≤k
 w:∀ j,j<gs.length→(gs.getD j gZ).k=12→out.getD j 0=0
theorem Sch.mid{gs:List Gt}{k:Int}{out:List Int}(h:Sch gs k out) : SchM gs k out:=⟨h.len,fun j hj=>⟨(h.low j hj).1,by have:=(h.low j hj).2;omega⟩,h.w⟩
def cvt(g:Gt)(x:Int) : Int:=if g.k=12 then 0 else if x=0 then -1 else x
def conv:List Gt→List Int→List Int
 | g::gs,x::xs=>cvt g x::conv gs xs
 | _,_=>[]
def folS(gs:List Gt)(i:Nat)(j:Nat) : List Int:=((List.range j).filter fun q=>!commS (gs.getD i gZ) (gs.getD q gZ)).map fun (q:Nat)=>(q:Int)
def followsS(gs:List Gt)(i:Nat) : List (List Int):=(List.range i).map fun q=>folS gs q q
def freeA(lay:List Int)(k:Int)(j:Int) : Bool:=decide (lay.getD j.toNat 0<0)||decide (k≤lay.getD j.toNat 0)
def freeB(gs:List Gt)(lay:List Int)(k:Int)(i j:Nat) : Bool:=decide (j≠i)&&lay.getD j 0==k&&comS (gs.getD i gZ) (gs.getD j gZ)
def freeS(gs:List Gt)(lay:List Int)(k:Int)(i:Nat)(fol:List Int) : Bool:=!fol.any (freeA lay k)&&!(List.range gs.length).any (freeB gs lay k i)
end Go.Proofs.YtfgnmflfiobkmaaGreat
namespace Go.Proofs.YtfgnmflfiobkmaaGreat
open Go.RowKit
def sN:Sl:=⟨none,0,[]⟩
def ini(gs:List Gt) : List Int:=gs.map fun g=>if g.k=12 then 0 else -1
def cntW(gs:List Gt) : Nat:=(gs.filter fun g=>g.k != 12).length
end Go.Proofs.YtfgnmflfiobkmaaGreat
namespace Go.Proofs.YtfgnmflfiobkmaaGreat
open Go.RowKit
structure Ed where (a b:Int) deriving DecidableEq
def encE(x:Ed) : List Value:=[.int .i64 x.a,.int .i64 x.b]
theorem X19:∀ x,(encE x).length=2:=fun _=>rfl
theorem Xg8:∀ x,(encE x).all one=true:=fun _=>rfl
abbrev eV(x:Ed) : Value:=.agg #[.int .i64 x.a,.int .i64 x.b]
def encB(b:Bool) : List Value:=[.bool b]
theorem X20:∀ x,(encB x).length=1:=fun _=>rfl
theorem Xgm:∀ x,(encB x).all one=true:=fun _=>rfl
structure Gp where (n:Int) (es:List Ed)
structure Ro where (st:List Int) (steps:List Gt)
def eZ:Ed:=⟨0,0⟩
def ordE(es:List Ed)(i:Nat)(e:Ed) : Bool:=decide (0<i)&&(decide (e.a<(es.getD (i-1) eZ).a)||(es.getD (i-1) eZ).a==e.a&&decide (e.b≤(es.getD (i-1) eZ).b))
def badS(n:Int)(es:List Ed)(i:Nat) : Bool:=!inR (es.getD i eZ).a 0 (wr ((es.getD i eZ).b-1))||!inR (es.getD i eZ).b 0 (wr (n-1))||ordE es i (es.getD i eZ)
def badI(n:Int)(es:List Ed)(i:Nat) : Bool:=(decide ((es.getD i eZ).a<0)||decide ((es.getD i eZ).b≤(es.getD i eZ).a)||decide (n≤(es.getD i eZ).b))||ordE es i (es.getD i eZ)
def gpS(g:Gp) : Bool:=!(List.range g.es.length).any (badS g.n g.es)&&inR g.n 1 8
def gpI(g:Gp) : Bool:=inR g.n 1 8&&!(List.range g.es.length).any (badI g.n g.es)
def i64(x:Int) : Prop:=-9223372036854775808≤x∧x≤9223372036854775807
theorem Xci{x:Int}(h:-9223372036854775808<x∧x≤9223372036854775807) : wr (x-1)=x-1:=X17 (by omega) (by omega)
theorem Xmt{n:Int}{es:List Ed}{i:Nat}(hn:inR n 1 8=true) : badS n es i=badI n es i:=by
 obtain ⟨h1,h2⟩:=Xs.1 hn
 unfold badS badI
 rw [Xci (by omega:-9223372036854775808<n∧n≤9223372036854775807)]
 generalize es.getD i eZ=e
 congr 1
 by_cases hb:inR e.b 0 (n-1)=true
 ·obtain ⟨h3,h4⟩:=Xs.1 hb
  rw [hb,Xci (by omega:-9223372036854775808<e.b∧e.b≤9223372036854775807),Bool.eq_iff_iff]
  simp [inR]
  omega
 ·have hb':inR e.b 0 (n-1)=false:=Bool.eq_false_iff.2 hb
  rw [hb',Bool.not_false,Bool.or_true,Bool.eq_iff_iff]
  simp [inR] at hb'
  simp
  omega
theorem Xq9(g:Gp) : gpS g=gpI g:=by
 unfold gpS gpI
 rw [Bool.and_comm]
 by_cases h:inR g.n 1 8=true
 ·rw [h,X6j fun i _=>Xmt h]
 ·rw [Bool.eq_false_iff.2 h];rfl
theorem Xlw{g:Gp}(h:gpI g=true) : 1≤g.n∧g.n≤8:=by
 unfold gpI at h
 exact Xs.1 (Bool.and_eq_true _ _▸h).1
theorem Xa1{g:Gp}(h:gpI g=true) : ∀ e ∈ g.es,0≤e.a∧e.a<e.b∧e.b<g.n:=fun e he=>by
 obtain ⟨i,hi⟩:=List.mem_iff_getElem?.1 he
 have hil:i<g.es.length:=(List.getElem?_eq_some_iff.1 hi).1
 unfold gpI at h
 have h2:=(Bool.and_eq_true _ _▸h).2
 rw [Bool.not_eq_true',List.any_eq_false] at h2
 have h3:=h2 i (List.mem_range.2 hil)
 unfold badI at h3
 rw [getD_some hi] at h3
 simp at h3
 omega
def edgS(g:Gp)(a b:Int) : Bool:=g.es.any fun e=>e.a==a&&e.b==b||e.a==b&&e.b==a
def edgI(g:Gp)(a b:Int) : Bool:=g.es.any fun e=>decide ((⟨min a b,max a b⟩ : Ed)=e)
theorem Xg4{g:Gp}(h:gpI g=true)(a b:Int) : edgS g a b=edgI g a b:=by
 unfold edgS edgI
 rw [Bool.eq_iff_iff,List.any_eq_true,List.any_eq_true]
 constructor
 ·rintro ⟨e,he,h1⟩
  have:=Xa1 h e he
  refine ⟨e,he,?_⟩
  simp at h1
  rw [decide_eq_true_eq]
  cases e with
  | mk x y=>
   simp at *
   omega
 ·rintro ⟨e,he,h1⟩
  have:=Xa1 h e he
  refine ⟨e,he,?_⟩
  rw [decide_eq_true_eq] at h1
  subst h1
  simp at *
  omega
def badP(n:Int)(p:List Int)(i:Nat) : Bool:=!inR (p.getD i 0) 0 (wr (n-1))||(p.take i).any fun y=>y==p.getD i 0
def badQ(n:Int)(p:List Int)(i:Nat) : Bool:=!inR (p.getD i 0) 0 (wr (n-1))||(p.take i).any fun y=>p.getD i 0==y
def plS(n m:Int)(p:List Int) : Bool:=!(List.range p.length).any (badP n p)&&(p.length:Int)==m
def plI(n m:Int)(p:List Int) : Bool:=!(List.range p.length).any (badQ n p)&&(p.length:Int)==m
theorem Xfe(l:List Int)(x:Int) : (l.any fun y=>y==x)=l.any fun y=>x==y:=by
 congr 1;funext y;rw [Bool.eq_iff_iff,beq_iff_eq,beq_iff_eq];exact eq_comm
theorem Xkc(n m:Int)(p:List Int) : plS n m p=plI n m p:=by
 unfold plS plI
 congr 2
 exact X6j fun i _=>by unfold badP badQ;rw [Xfe]
def swapP(p:List Int)(a b:Int) : List Int:=p.map fun k=>if k=a then b else if k=b then a else k
theorem X2k(p:List Int)(a b:Int) : (swapP p a b).length=p.length:=by simp [swapP]
def redA(gs:List Gt)(done:List Bool)(k i:Nat) : Bool:=!done.getD i false&&comS (gs.getD i gZ) (gs.getD k gZ)
def redB(gs:List Gt)(done:List Bool)(k i:Nat) : Bool:=!done.getD i false&&comI (gs.getD i gZ) (gs.getD k gZ)
def redS(gs:List Gt)(done:List Bool)(k:Int) : Bool:=inR k 0 ((gs.length:Int)-1)&&!done.getD k.toNat false&&!(List.range k.toNat).any (redA gs done k.toNat)
def redI(gs:List Gt)(done:List Bool)(k:Int) : Bool:=inR k 0 ((gs.length:Int)-1)&&!done.getD k.toNat false&&!(List.range k.toNat).any (redB gs done k.toNat)
theorem Xp4(g h:Gt) : comS g h=comI g h:=by
 rw [Bool.eq_iff_iff,Xgd,Xig]
theorem Xfg(gs:List Gt)(done:List Bool)(k:Int) : redS gs done k=redI gs done k:=by
 unfold redS redI
 congr 2
 exact X6j fun i _=>by unfold redA redB;rw [Xp4]
def nearS(g:Gp)(p:List Int)(x:Gt) : Bool:=!inR x.k 9 11||edgS g (p.getD x.a.toNat 0) (p.getD x.b.toNat 0)
def nearI(g:Gp)(p:List Int)(x:Gt) : Bool:=!inR x.k 9 11||edgI g (p.getD x.a.toNat 0) (p.getD x.b.toNat 0)
section
variable (E : Int → Int → Bool) (N : List Int → Gt → Bool) (R : List Bool → Int → Bool) (gs : List Gt)
def stp(s:Gt)(p:List Int)(d:List Bool) : Int×List Int×List Bool:=
 if s.k = -1 then (if E s.a s.b=true then (0,swapP p s.a s.b,d) else (2,p,d))
 else if (s.a != 0||s.b != 0||!R d s.k)=true then (3,p,d)
 else if N p (gs.getD s.k.toNat gZ)=true then (0,p,d.set s.k.toNat true) else (4,p,d)
def playL:Nat→List Gt→List Int→List Bool→Int×Int×List Int×List Bool
 | i,[],p,d=>if d.any (fun x=>!x)=true then (5,(i:Int),p,d) else (0,0,p,d)
 | i,s::l,p,d=>if (stp E N R gs s p d).1=0 then playL (i+1) l (stp E N R gs s p d).2.1 (stp E N R gs s p d).2.2 else ((stp E N R gs s p d).1,(i:Int),p,d)
def moved(s:Gt)(p:List Int) : Gt:=if s.k = -1 then ⟨11,s.a,s.b⟩ else mapG p (gs.getD s.k.toNat gZ)
def nextP(s:Gt)(p:List Int) : List Int:=if s.k = -1 then swapP p s.a s.b else p
def buildL:List Gt→List Int→List Gt
 | [],_=>[]
 | s::l,p=>moved gs s p::buildL l (nextP s p)
end
def stpS(g:Gp)(gs:List Gt):=stp (edgS g) (nearS g) (redS gs) gs
def stpI(g:Gp)(gs:List Gt):=stp (edgI g) (nearI g) (redI gs) gs
def playS(g:Gp)(gs:List Gt):=playL (edgS g) (nearS g) (redS gs) gs
def playI(g:Gp)(gs:List Gt):=playL (edgI g) (nearI g) (redI gs) gs
def runG(g:Gp)(c:Cx)(r:Ro) : Int×Int:=if plS g.n c.n r.st=true then ((playS g c.gs 0 r.steps r.st (List.replicate c.gs.length false)).1,(playS g c.gs 0 r.steps r.st (List.replicate c.gs.length false)).2.1) else (1,0)
def runR(g:Gp)(c:Cx)(r:Ro) : Int×Int:=if plI g.n c.n r.st=true then ((playI g c.gs 0 r.steps r.st (List.replicate c.gs.length false)).1,(playI g c.gs 0 r.steps r.st (List.replicate c.gs.length false)).2.1) else (1,0)
theorem Xja{g:Gp}(h:gpI g=true) : edgS g=edgI g:=by funext a b;exact Xg4 h a b
theorem Xhu{g:Gp}(h:gpI g=true) : nearS g=nearI g:=by funext p x;unfold nearS nearI;rw [Xg4 h]
theorem Xjm(gs:List Gt) : redS gs=redI gs:=by funext d k;exact Xfg gs d k
theorem Xid{g:Gp}(h:gpI g=true)(gs:List Gt) : playS g gs=playI g gs:=by unfold playS playI;rw [Xja h,Xhu h,Xjm]
theorem Xdc{g:Gp}(h:gpI g=true)(c:Cx)(r:Ro) : runG g c r=runR g c r:=by unfold runG runR;rw [Xid h,Xkc]
def fitsS(g:Gp)(c:Cx) : Bool:=gpS g&&cOk c&&decide (c.n≤g.n)
def fitsR(g:Gp)(c:Cx) : Bool:=gpI g&&cOk c&&decide (c.n≤g.n)
theorem X67(g:Gp)(c:Cx) : fitsS g c=fitsR g c:=by unfold fitsS fitsR;rw [Xq9]
def chkRS(g:Gp)(c:Cx)(r:Ro) : Int×Int×Bool:=if fitsS g c=true then ((runG g c r).1,(runG g c r).2,true) else (0,0,false)
def chkRI(g:Gp)(c:Cx)(r:Ro) : Int×Int×Bool:=if fitsR g c=true then ((runR g c r).1,(runR g c r).2,true) else (0,0,false)
theorem Xe2(g:Gp)(c:Cx)(r:Ro) : chkRS g c r=chkRI g c r:=by
 unfold chkRS chkRI
 rw [X67]
 split
 ·rename_i h
  unfold fitsR at h
  rw [Xdc (by simp only [Bool.and_eq_true] at h;exact h.1.1)]
 ·rfl
def rcS(g:Gp)(c:Cx)(r:Ro) : Option Cx:=if fitsS g c=true∧g.n≤5∧r.steps.length≤400 then (if (runG g c r).1=0 then some ⟨g.n,buildL c.gs r.steps r.st⟩ else none) else none
def rcI(g:Gp)(c:Cx)(r:Ro) : Option Cx:=if (chkRI g c r).2.2=true∧(chkRI g c r).1=0∧g.n≤5 then cIf ⟨g.n,buildL c.gs r.steps r.st⟩ else none
theorem X6d(gs:List Gt) : ∀ (l:List Gt) (p:List Int),(buildL gs l p).length=l.length
 | [],_=>rfl
 | s::l,p=>by rw [buildL,List.length_cons,List.length_cons,X6d gs l]
end Go.Proofs.YtfgnmflfiobkmaaGreat
namespace Go.Proofs.YtfgnmflfiobkmaaGreat
open Go.RowKit
structure PlOk (n m:Int) (p:List Int) : Prop where
 len:(p.length:Int)=m
 low:∀ i,i<p.length→0≤p.getD i 0∧p.getD i 0<n
 ne:∀ i j,i<p.length→j<p.length→i≠j→p.getD i 0≠p.getD j 0
theorem Xlz{n m:Int}{p:List Int}(hn:1≤n∧n≤8)(h:plI n m p=true) : PlOk n m p:=by
 unfold plI at h
 rw [Bool.and_eq_true,Bool.not_eq_true',List.any_eq_false] at h
 have hb:∀ i,i<p.length→(0≤p.getD i 0∧p.getD i 0<n)∧∀ y ∈ p.take i,p.getD i 0≠y:=fun i hi=>by
  have h1:=h.1 i (List.mem_range.2 hi)
  unfold badQ at h1
  rw [Xci (by omega)] at h1
  simp only [Bool.or_eq_true,Bool.not_eq_true',not_or,Bool.not_eq_false] at h1
  have h2:=Xs.1 h1.1
  refine ⟨by omega,fun y hy e=>h1.2 (List.any_eq_true.2 ⟨y,hy,by rw [e];exact beq_self_eq_true _⟩)⟩
 have hlt:∀ i j,i<p.length→j<i→p.getD i 0≠p.getD j 0:=fun i j hi hj=>by
  refine (hb i hi).2 _ ?_
  have h3:=X14 (0:Int) (show j<p.length by omega)
  exact List.mem_of_getElem? (show (p.take i)[j]? = some _ by rw [List.getElem?_take_of_lt hj];exact h3)
 refine ⟨by simpa using h.2,fun i hi=>(hb i hi).1,fun i j hi hj hne=>?_⟩
 rcases Nat.lt_or_gt_of_ne hne with h4|h4
 ·exact (hlt j i hj h4).symm
 ·exact hlt i j hi h4
theorem X6o(p:List Int)(a b:Int)(i:Nat)(hi:i<p.length) : (swapP p a b).getD i 0=if p.getD i 0=a then b else if p.getD i 0=b then a else p.getD i 0:=by
 refine getD_some ?_
 unfold swapP
 rw [List.getElem?_map,X14 0 hi];rfl
theorem PlOk.swap{n m a b:Int}{p:List Int}(h:PlOk n m p)(ha:0≤a∧a<n)(hb:0≤b∧b<n)(hab:a≠b) : PlOk n m (swapP p a b):=by
 refine ⟨by rw [X2k];exact h.len,fun i hi=>?_,fun i j hi hj hne=>?_⟩
 ·rw [X2k] at hi
  rw [X6o p a b i hi]
  have:=h.low i hi
  split
  ·exact hb
  ·split
   ·exact ha
   ·exact this
 ·rw [X2k] at hi hj
  rw [X6o p a b i hi,X6o p a b j hj]
  have h1:=h.ne i j hi hj hne
  generalize p.getD i 0=x at *
  generalize p.getD j 0=y at *
  by_cases e1:x=a<;>by_cases e2:y=a<;>by_cases e3:x=b<;>by_cases e4:y=b<;>simp [e1,e2,e3,e4]<;>omega
theorem Xiw{g:Gp}(hg:gpI g=true){a b:Int}(h:edgI g a b=true) : (0≤a∧a<g.n)∧(0≤b∧b<g.n)∧a≠b:=by
 unfold edgI at h
 obtain ⟨e,he,h1⟩:=List.any_eq_true.1 h
 have:=Xa1 hg e he
 rw [decide_eq_true_eq] at h1
 subst h1
 simp only at this
 omega
theorem Xo0{n m:Int}{p:List Int}{x:Gt}(h:PlOk n m p)(hn:1≤n∧n≤5)(hx:gOk m x=true) : gOk n (mapG p x)=true:=by
 obtain ⟨h1,h2,h3,h4⟩:=X1e hx
 have hk:(mapG p x).k=x.k:=rfl
 unfold gOk at hx ⊢
 rw [Bool.and_eq_true,Bool.and_eq_true] at hx ⊢
 rw [hk]
 refine ⟨⟨Xs.2 hn,hx.1.2⟩,?_⟩
 have hx2:=hx.2
 have hl:=h.len
 by_cases k12:x.k=12
 ·rw [if_pos k12] at hx2 ⊢
  have:inR x.k 9 11=false:=by rw [k12];rfl
  simp only [mapG,k12,if_true]
  rw [if_neg (by simp [inR])]
  exact hx2
 ·rw [if_neg k12] at hx2 ⊢
  by_cases k9:inR x.k 9 11=true
  ·rw [if_pos k9] at hx2 ⊢
   simp only [Bool.and_eq_true] at hx2
   obtain ⟨⟨ha,hb⟩,hab⟩:=hx2
   have ha':=Xs.1 ha
   have hb':=Xs.1 hb
   have hab':x.a≠x.b:=by simpa using hab
   have ea:(mapG p x).a=p.getD x.a.toNat 0:=by simp only [mapG];rw [if_neg k12]
   have eb:(mapG p x).b=p.getD x.b.toNat 0:=by simp only [mapG];rw [if_pos k9]
   rw [ea,eb]
   have l1:=h.low x.a.toNat (by omega)
   have l2:=h.low x.b.toNat (by omega)
   have l3:=h.ne x.a.toNat x.b.toNat (by omega) (by omega) (by omega)
   simp only [Bool.and_eq_true]
   exact ⟨⟨Xs.2 (by omega),Xs.2 (by omega)⟩,by rw [bne_iff_ne];exact l3⟩
  ·rw [if_neg k9] at hx2 ⊢
   simp only [Bool.and_eq_true] at hx2
   have ha':=Xs.1 hx2.1
   have ea:(mapG p x).a=p.getD x.a.toNat 0:=by simp only [mapG];rw [if_neg k12]
   have eb:(mapG p x).b=x.b:=by simp only [mapG];rw [if_neg k9]
   rw [ea,eb]
   have l1:=h.low x.a.toNat (by omega)
   simp only [Bool.and_eq_true]
   exact ⟨Xs.2 (by omega),hx2.2⟩
theorem Xmi{g:Gp}{c:Cx}{s:Gt}{p:List Int}{d:List Bool}(hg:gpI g=true)(hc:cOk c=true)(hn:g.n≤5)(hp:PlOk g.n c.n p)(h:(stpI g c.gs s p d).1=0) : gOk g.n (moved c.gs s p)=true∧(stpI g c.gs s p d).2.1=nextP s p∧PlOk g.n c.n (nextP s p):=by
 have h8:=Xlw hg
 unfold stpI stp at h ⊢
 unfold moved nextP
 by_cases hk:s.k = -1
 ·rw [if_pos hk] at h
  rw [if_pos hk,if_pos hk,if_pos hk]
  by_cases he:edgI g s.a s.b=true
  ·rw [if_pos he]
   obtain ⟨l1,l2,l3⟩:=Xiw hg he
   refine ⟨?_,rfl,hp.swap l1 l2 l3⟩
   have:inR g.n 1 5=true:=Xs.2 (by omega)
   unfold gOk
   rw [this,Xs.2 (show 0≤s.a∧s.a≤g.n-1 by omega),Xs.2 (show 0≤s.b∧s.b≤g.n-1 by omega)]
   simp [inR,l3]
  ·rw [if_neg he] at h;simp at h
 ·rw [if_neg hk] at h
  rw [if_neg hk,if_neg hk,if_neg hk]
  by_cases h1:(s.a != 0||s.b != 0||!redI c.gs d s.k)=true
  ·rw [if_pos h1] at h;simp at h
  ·rw [if_neg h1] at h
   rw [if_neg h1]
   have hr:redI c.gs d s.k=true:=by revert h1;cases redI c.gs d s.k<;>simp
   unfold redI at hr
   simp only [Bool.and_eq_true] at hr
   have hk':=Xs.1 hr.1.1
   by_cases h2:nearI g p (c.gs.getD s.k.toNat gZ)=true
   ·rw [if_pos h2]
    exact ⟨Xo0 hp (by omega) ((X1r hc).2.2 _ (List.mem_of_getElem? (X6t (by omega)))),rfl,hp⟩
   ·rw [if_neg h2] at h;simp at h
theorem Xaj{g:Gp}{c:Cx}(hg:gpI g=true)(hc:cOk c=true)(hn:g.n≤5) : ∀ (l:List Gt) (i:Nat) (p:List Int) (d:List Bool),PlOk g.n c.n p→(playI g c.gs i l p d).1=0→∀ x ∈ buildL c.gs l p,gOk g.n x=true
 | [],_,_,_,_,_,x,hx=>by cases hx
 | s::l,i,p,d,hp,h,x,hx=>by
  unfold playI playL at h
  by_cases h0:(stpI g c.gs s p d).1=0
  ·have h0':(stp (edgI g) (nearI g) (redI c.gs) c.gs s p d).1=0:=h0
   rw [if_pos h0'] at h
   obtain ⟨o1,o2,o3⟩:=Xmi hg hc hn hp h0
   rw [buildL] at hx
   rcases List.mem_cons.1 hx with rfl|hx
   ·exact o1
   ·refine Xaj hg hc hn l (i+1) (nextP s p) (stpI g c.gs s p d).2.2 o3 ?_ x hx
    have e:(stp (edgI g) (nearI g) (redI c.gs) c.gs s p d).2.1=nextP s p:=o2
    rw [e] at h
    exact h
  ·have h0':¬ (stp (edgI g) (nearI g) (redI c.gs) c.gs s p d).1=0:=h0
   rw [if_neg h0'] at h
   exact absurd h h0
theorem Xjy(g:Gp)(c:Cx)(r:Ro) : rcS g c r=rcI g c r:=by
 unfold rcS rcI
 rw [← Xe2]
 unfold chkRS
 by_cases hf:fitsS g c=true
 ·have hf':=hf
  rw [X67] at hf'
  unfold fitsR at hf'
  simp only [Bool.and_eq_true] at hf'
  obtain ⟨⟨hg,hc⟩,_⟩:=hf'
  rw [if_pos hf]
  by_cases hn:g.n≤5
  ·by_cases h0:(runG g c r).1=0
   ·rw [if_pos (⟨rfl,h0,hn⟩ : _∧_∧_)]
    have h1:=h0
    rw [Xdc hg] at h1
    unfold runR at h1
    by_cases hp:plI g.n c.n r.st=true
    ·rw [if_pos hp] at h1
     have hb:=Xaj hg hc hn r.steps 0 r.st _ (Xlz (Xlw hg) hp) h1
     have hany:(buildL c.gs r.steps r.st).any (fun x=>!gOk g.n x)=false:=by
      rw [List.any_eq_false]
      intro x hx
      rw [hb x hx];simp
     have hin:inR g.n 1 5=true:=Xs.2 (by have:=Xlw hg;omega)
     unfold cIf cOk
     rw [hany,hin,X6d]
     by_cases hl:r.steps.length≤400
     ·rw [if_pos ⟨hf,hn,hl⟩,if_pos h0,if_pos]
      simp;omega
     ·rw [if_neg (fun h=>hl h.2.2),if_neg]
      simp;omega
    ·rw [if_neg hp] at h1;simp at h1
   ·rw [if_neg (fun h:_∧_∧_=>h0 h.2.1)]
    split
    ·first|rfl|rw [if_neg h0]
    ·rfl
  ·rw [if_neg (fun h:_∧_∧_=>hn h.2.1),if_neg (fun h:_∧_∧_=>hn h.2.2)]
 ·rw [if_neg (fun h:_∧_∧_=>hf h.1),if_neg hf,if_neg (by simp)]
end Go.Proofs.YtfgnmflfiobkmaaGreat
namespace Go.Proofs.YtfgnmflfiobkmaaGreat
open Go.RowKit
set_option maxRecDepth 8000
theorem eqE(d:Nat)(x y:Ed)(w:World) : (Op.equalIn (d+2) 164 (eV x) (eV y)).run Tryz.prog w=.ok (decide (x=y)) w:=by
 have hf:=X51 Tryz.underlying164
 refine (run_equalIn_struct w (d+1) 164 _ _ (by rw [hf];exact Tryz.underlying164) (by kernel_rfl)).trans ?_
 rw [hf]
 have:decide (x=y)=(decide (x.a=y.a)&&(decide (x.b=y.b)&&true)):=by
  obtain ⟨a,b⟩:=x
  obtain ⟨a',b'⟩:=y
  simp
 rw [this]
 refine X18 (by decide) X5 Tryz.underlying3 rfl rfl fun _=>?_
 refine X18 (by decide) X5 Tryz.underlying3 rfl rfl fun _=>?_
 rfl
theorem Xlv:Tryz.prog.eqGuardType Tryz.prog.depth 164=false:=by kernel_rfl
theorem z_4:ZeroT Tryz.prog 4 (.bool false):=X16 (by kernel_rfl)
def szn(n:Nat)(t:Int) : Int:=if t-(n:Int)<0 then -1 else t-(n:Int)
theorem X4h{n:Nat}{t:Int}(h:¬ szn n t<0) : (n:Int)≤t∧szn n t=t-(n:Int):=by
 unfold szn at *
 split at h
 ·omega
 ·rename_i h1;rw [if_neg h1];omega
theorem Xcy{n:Nat}{t:Int}(h:szn n t<0) : szn n t = -1:=by
 unfold szn at *
 split
 ·rfl
 ·rename_i h1;rw [if_neg h1] at h;omega
def szO(r:Ro)(t:Int) : Int:=if szn r.st.length t<0 then -1 else szn r.steps.length (szn r.st.length t)
def szK(c:Cx)(l:List Sr)(d:Cx)(r:Ro)(o:Cx)(t:Int) : Int:=if szZ c l d t<0 then -1 else if szO r (szZ c l d t)<0 then -1 else szG o.gs (szO r (szZ c l d t))
theorem Xgu{r:Ro}{t:Int}(h:¬ szO r t<0) : (r.st.length:Int)≤t∧(r.steps.length:Int)≤t∧szO r t≤t:=by
 unfold szO at *
 by_cases h1:szn r.st.length t<0
 ·rw [if_pos h1] at h;omega
 ·rw [if_neg h1] at h ⊢
  obtain ⟨a1,a2⟩:=X4h h1
  obtain ⟨b1,b2⟩:=X4h h
  omega
theorem Xa6{c d:Cx}{l:List Sr}{t:Int}(ht:0≤t∧t≤1048576)(h:¬ szZ c l d t<0) : szZ c l d t≤t∧c.gs.length≤1048576∧l.length≤1048576∧(∀ s ∈ l,s.old.length≤1048576∧s.new.length≤1048576)∧d.gs.length≤1048576:=by
 unfold szZ at *
 by_cases h1:szG c.gs t<0
 ·rw [if_pos h1] at h;omega
 ·rw [if_neg h1] at h ⊢
  have a1:=X3f h1
  by_cases h2:szL l (szG c.gs t)<0
  ·rw [if_pos h2] at h;omega
  ·rw [if_neg h2] at h ⊢
   obtain ⟨b1,b2,b3⟩:=Xhx h2
   have c1:=X3f h
   refine ⟨by omega,by omega,by omega,fun s hs=>?_,by omega⟩
   have:=b2 s hs
   omega
theorem Xmm{c d o:Cx}{l:List Sr}{r:Ro}{t:Int}(ht:0≤t∧t≤1048576)(h:¬ szK c l d r o t<0) : c.gs.length≤1048576∧l.length≤1048576∧(∀ s ∈ l,s.old.length≤1048576∧s.new.length≤1048576)∧d.gs.length≤1048576∧r.st.length≤1048576∧r.steps.length≤1048576∧o.gs.length≤1048576:=by
 unfold szK at h
 by_cases h1:szZ c l d t<0
 ·rw [if_pos h1] at h;omega
 ·rw [if_neg h1] at h
  obtain ⟨a1,a2,a3,a4,a5⟩:=Xa6 ht h1
  by_cases h2:szO r (szZ c l d t)<0
  ·rw [if_pos h2] at h;omega
  ·rw [if_neg h2] at h
   obtain ⟨b1,b2,b3⟩:=Xgu h2
   have c1:=X3f h
   exact ⟨a2,a3,a4,a5,by omega,by omega,by omega⟩
theorem X4t{k:Nat}(h:decide ((0:Int)<(k:Int))=true) : (k:Int)-1=((k-1:Nat) : Int):=by
 have:=of_decide_eq_true h
 omega
theorem X9r(k:Nat) : decide ((0:Int)<(k:Int))=decide (0<k):=by rw [Bool.eq_iff_iff];simp
theorem X75{k:Int}{n:Nat}(h:(!inR k 0 ((n:Int)-1))=false) : 0≤k∧k<(n:Int):=by
 have:=Xs.1 (show inR k 0 ((n:Int)-1)=true by simpa using h)
 omega
theorem X3l{n:Int}{x:Gt}(hx:gOk n x=true)(h:(!inR x.k 9 11)=false) : (0≤x.a∧x.a<n)∧0≤x.b∧x.b<n:=by
 obtain ⟨h1,h2,h3,h4⟩:=X1e hx
 have h5:=Xs.1 (show inR x.k 9 11=true by simpa using h)
 have h6:=h4 h5
 have h7:=h3 (by omega)
 omega
def swf(a b k:Int) : Int:=if k=a then b else if k=b then a else k
def mixP(p:List Int)(a b:Int)(k:Nat) : List Int:=(p.take k).map (swf a b)++p.drop k
theorem Xdf(p:List Int)(a b:Int)(k:Nat)(hk:p.length≤k) : mixP p a b k=swapP p a b:=by
 unfold mixP swapP
 rw [List.take_of_length_le hk,List.drop_of_length_le hk,List.append_nil];rfl
theorem X72{p:List Int}{a b x u:Int}{k:Nat}(h:p[k]? = some u)(hx:x=swf a b u) : (mixP p a b k).set k x=mixP p a b (k+1):=by
 obtain ⟨h1,h2⟩:=List.getElem?_eq_some_iff.1 h
 have hl:((p.take k).map (swf a b)).length=k:=by simp;omega
 unfold mixP
 rw [List.set_append_right _ _ (by omega),hl,Nat.sub_self,List.drop_eq_getElem_cons h1,List.set_cons_zero,List.take_succ_eq_append_getElem h1,h2,List.map_append,hx]
 simp
theorem Xaz{p:List Int}{a b u:Int}{k:Nat}(h:p[k]? = some u)(hx:u=swf a b u) : mixP p a b k=mixP p a b (k+1):=by
 obtain ⟨h1,h2⟩:=List.getElem?_eq_some_iff.1 h
 unfold mixP
 rw [List.drop_eq_getElem_cons h1,h2,List.take_succ_eq_append_getElem h1,h2,List.map_append,List.append_assoc]
 simp only [List.map_cons,List.map_nil,List.singleton_append]
 rw [← hx]
theorem X5l{p:List Int}{a b u:Int}{k:Nat}(h:p[k]? = some u) : (mixP p a b k)[k]? = some u:=by
 obtain ⟨h1,h2⟩:=List.getElem?_eq_some_iff.1 h
 have hl:((p.take k).map (swf a b)).length=k:=by simp;omega
 unfold mixP
 rw [List.getElem?_append_right (by omega),hl,Nat.sub_self,List.getElem?_drop]
 simpa using h
theorem Xjz{a b u:Int}(h:(u==a)=true) : b=swf a b u:=by rw [swf,if_pos (eq_of_beq h)]
theorem Xk0{a b u:Int}(h:(u==a)=false)(h2:(u==b)=true) : a=swf a b u:=by rw [swf,if_neg (by simpa using h),if_pos (eq_of_beq h2)]
theorem Xkh{a b u:Int}(h:(u==a)=false)(h2:(u==b)=false) : u=swf a b u:=by rw [swf,if_neg (by simpa using h),if_neg (by simpa using h2)]
section
variable {P : Program} {a : Act} {w : World} {n : Nat} {e : Env} {ty : TypeId} {pos : String} {af : Array Edge} {g : Option (Nat × Bool)} {d : Option Tmp}
theorem Xof{x y:Operand}{i j:Int}{ts:Array TypeId}(hf:Fr a n e)(hx:ev e x=some (.int .i64 i))(hy:ev e y=some (.int .i64 j)) : Ev P ⟨d,.call ⟨.builtin .min,#[x,y],ts⟩,ty,pos,af,g⟩ a w (.int .i64 (min i j)):=fun w' _=>by
 simp [execOp,resolve,invoke,builtin,Builtin.min_,Builtin.min2,hf.ev hx,hf.ev hy,Int.min_def]
 split<;>simp<;>omega
theorem Xsc{x y:Operand}{i j:Int}{ts:Array TypeId}(hx:ev e x=some (.int .i64 i))(hy:ev e y=some (.int .i64 j)) : EvW P ⟨d,.call ⟨.builtin .min,#[x,y],ts⟩,ty,pos,af,g⟩ n e w (.int .i64 (min i j)):=fun a hf=>Xof hf hx hy
theorem X6y(l:List Bool) : (l.any fun x=>!x)=decide (0<((l.filter fun x=>!x).length:Int)):=by
 induction l with
 | nil=>rfl
 | cons x l ih=>
  rw [List.any_cons,List.filter_cons,ih]
  cases x
  ·simp
  ·simp
theorem X9i:∀ {l:List Bool} {k:Nat},l[k]? = some false→(((l.set k true).filter fun x=>!x).length:Int)+1=((l.filter fun x=>!x).length:Int)
 | [],k,h=>by simp at h
 | x::l,0,h=>by simp at h;subst h;simp
 | x::l,k+1,h=>by
  have ih:=X9i (l:=l) (k:=k) (by simpa using h)
  simp only [List.set_cons_succ,List.filter_cons]
  cases x<;>simp<;>omega
end
theorem Xjh{α:Type}{l:List α}{b:Bool}{q:α→Bool}(h:l.all (fun x=>!(b&&q x))=true) : (b&&l.any q)=false:=by
 cases b
 ·rfl
 ·rw [Bool.true_and]
  exact X1s (by simpa using h)
theorem Xoo(w0:World)(A:Option Addr)(c:Nat)(l:List Int)(hr:Rd w0 w0.heap.size 3 encI A l)(hln:l.length≤1000000000) :
  Ret Tryz.prog 164 [.slice A l.length c] w0 (fun v w=>∃ A' c',v=.slice A' l.length c'∧Own w w0.heap.size 3 1 encI A' c' l∧Below w0.heap.size w0 w):=by
 by_cases h0:l=[]
 ·subst h0
  cases A with
  | none=>
   refine Calls.mono (Tryz.slices_Clone_int_nil 0 c w0) fun e w ⟨e1,e2⟩=>⟨_,e1,none,0,rfl,?_⟩
   subst e2
   exact ⟨Own.nil _ _ _ _ _,Below.refl _ _⟩
  | some p=>
   refine Calls.mono (Tryz.slices_Clone_int_zero p c w0) fun e w ⟨v,e1,e2,e3,e4⟩=>⟨_,e1,?_⟩
   rcases e2.2 with ⟨h1,_⟩|⟨g,cap,cur,h1,h2⟩
   ·exact absurd h1 e3
   ·exact ⟨_,_,h1,by rw [h1] at e2;exact e2,e4⟩
 ·obtain ⟨b,off,cs,fz,h1,h2,h3,h4⟩:=hr h0
  subst h1
  refine Calls.mono (Tryz.slices_Clone_int b off l.length c l w0 (Nat.le_refl _) (by omega) fun j hj=>?_) fun e w ⟨v,e1,e2,e3,e4⟩=>⟨_,e1,?_⟩
  ·have h5:=h4 j (.int .i64 (l.getD j 0)) (by rw [X52,List.getElem?_map,X14 0 hj];rfl)
   simpa [World.cell?,h3] using h5
  ·rw [List.take_length,← X52] at e2
   rcases e2.2 with ⟨h1,_⟩|⟨g,cap,cur,h1,h2⟩
   ·exact absurd h1 e3
   ·exact ⟨_,_,h1,by rw [h1] at e2;exact e2,e4⟩
end Go.Proofs.YtfgnmflfiobkmaaGreat
namespace Go.Proofs.YtfgnmflfiobkmaaGreat
open Go.RowKit
section
variable {E : Int → Int → Bool} {N : List Int → Gt → Bool} {R : List Bool → Int → Bool} {gs l : List Gt} {s : Gt} {p p' : List Int} {d d' : List Bool} {i : Nat} {x : Int} {fin : Int × Int × List Int × List Bool}
theorem X6a(h:playL E N R gs i (s::l) p d=fin)(hs:stp E N R gs s p d=(x,p',d'))(hx:¬ x=0) : fin=(x,(i:Int),p,d):=by
 rw [playL,hs,if_neg hx] at h
 exact h.symm
theorem Xdn(h:playL E N R gs i (s::l) p d=fin)(hs:stp E N R gs s p d=(0,p',d')) : playL E N R gs (i+1) l p' d'=fin:=by
 rw [playL,hs,if_pos rfl] at h
 exact h
theorem X96(h:playL E N R gs i [] p d=fin)(hd:(d.any fun x=>!x)=true) : fin=(5,(i:Int),p,d):=by
 rw [playL,if_pos hd] at h
 exact h.symm
theorem X8e(h:playL E N R gs i [] p d=fin)(hd:(d.any fun x=>!x)=false) : fin=(0,0,p,d):=by
 rw [playL,if_neg (by rw [hd];simp)] at h
 exact h.symm
theorem X81(hk:(s.k == -1)=true)(he:E s.a s.b=true) : stp E N R gs s p d=(0,swapP p s.a s.b,d):=by rw [stp,if_pos (eq_of_beq hk),if_pos he]
theorem X7f(hk:(s.k == -1)=true)(he:E s.a s.b=false) : stp E N R gs s p d=(2,p,d):=by rw [stp,if_pos (eq_of_beq hk),if_neg (by rw [he];simp)]
theorem X7w(hk:(s.k == -1)=false)(h:(s.a != 0||s.b != 0||!R d s.k)=true) : stp E N R gs s p d=(3,p,d):=by rw [stp,if_neg (by simpa using hk),if_pos h]
theorem Xae(hk:(s.k == -1)=false)(h:(s.a != 0||s.b != 0||!R d s.k)=false)(hn:N p (gs.getD s.k.toNat gZ)=false) : stp E N R gs s p d=(4,p,d):=by rw [stp,if_neg (by simpa using hk),if_neg (by rw [h];simp),if_neg (by rw [hn];simp)]
theorem X83(hk:(s.k == -1)=false)(h:(s.a != 0||s.b != 0||!R d s.k)=false)(hn:N p (gs.getD s.k.toNat gZ)=true) : stp E N R gs s p d=(0,p,d.set s.k.toNat true):=by rw [stp,if_neg (by simpa using hk),if_neg (by rw [h];simp),if_pos hn]
theorem Xdg(h:(playL E N R gs i (s::l) p d).1=0) : (stp E N R gs s p d).1=0∧(playL E N R gs (i+1) l (stp E N R gs s p d).2.1 (stp E N R gs s p d).2.2).1=0:=by
 rw [playL] at h
 by_cases h0:(stp E N R gs s p d).1=0
 ·rw [if_pos h0] at h;exact ⟨h0,h⟩
 ·rw [if_neg h0] at h;exact absurd h h0
theorem Xal(hk:(s.k == -1)=true)(h:(stp E N R gs s p d).1=0) : E s.a s.b=true∧(stp E N R gs s p d).2.1=swapP p s.a s.b∧(stp E N R gs s p d).2.2=d:=by
 cases he:E s.a s.b with
 | true=>rw [X81 hk he];exact ⟨rfl,rfl,rfl⟩
 | false=>rw [X7f hk he] at h;simp at h
theorem Xam(hk:(s.k == -1)=false)(h:(stp E N R gs s p d).1=0) : (s.a != 0||s.b != 0||!R d s.k)=false∧N p (gs.getD s.k.toNat gZ)=true∧(stp E N R gs s p d).2.1=p∧(stp E N R gs s p d).2.2=d.set s.k.toNat true:=by
 cases h1:(s.a != 0||s.b != 0||!R d s.k) with
 | true=>rw [X7w hk h1] at h;simp at h
 | false=>
  cases h2:N p (gs.getD s.k.toNat gZ) with
  | false=>rw [Xae hk h1 h2] at h;simp at h
  | true=>rw [X83 hk h1 h2];exact ⟨rfl,rfl,rfl,rfl⟩
end
theorem X7y{gs:List Gt}{d:List Bool}{k:Int}(h:redS gs d k=true) : 0≤k∧k<(gs.length:Int)∧d.getD k.toNat false=false:=by
 unfold redS at h
 simp only [Bool.and_eq_true,Bool.not_eq_true'] at h
 have:=Xs.1 h.1.1
 exact ⟨by omega,by omega,h.1.2⟩
theorem Xbp{gs:List Gt}{d:List Bool}{k:Int}(h:redI gs d k=true) : 0≤k∧k<(gs.length:Int)∧d.getD k.toNat false=false:=by
 rw [← Xfg] at h;exact X7y h
theorem X9w{a b r:Bool}(h:(a||b||!r)=false) : r=true:=by revert h;cases a<;>cases b<;>cases r<;>simp
theorem Xgr(n:Nat) : ((List.replicate n false).filter fun x=>!x).length=n:=by
 rw [List.filter_replicate];simp
theorem Xkk(l:List Bool) : (l.any fun y=>false==y)=l.any fun x=>!x:=by
 congr 1;funext y;cases y<;>rfl
theorem Xa8{n m:Int}{p:List Int}(h:plS n m p=true) : (p.length:Int)=m:=by
 unfold plS at h
 rw [Bool.and_eq_true] at h
 exact eq_of_beq h.2
theorem Xcw{n m:Int}{p:List Int}(h:plI n m p=true) : (p.length:Int)=m:=by rw [← Xkc] at h;exact Xa8 h
theorem X76{g:Gp}{c:Cx}(h:fitsS g c=true) : gpI g=true∧cOk c=true∧c.n≤g.n:=by
 rw [X67] at h
 unfold fitsR at h
 simp only [Bool.and_eq_true,decide_eq_true_eq] at h
 exact ⟨h.1.1,h.1.2,h.2⟩
theorem Xb1{g:Gp}{c:Cx}(h:fitsR g c=true) : gpI g=true∧cOk c=true∧c.n≤g.n:=by rw [← X67] at h;exact X76 h
theorem Xcz{g:Gp}{c:Cx}{r:Ro}{x:Int×Int×List Int×List Bool}(h:plS g.n c.n r.st=true)(hp:playS g c.gs 0 r.steps r.st (List.replicate c.gs.length false)=x) : runG g c r=(x.1,x.2.1):=by rw [runG,if_pos h,hp]
theorem Xdw{g:Gp}{c:Cx}{r:Ro}{x:Int×Int×List Int×List Bool}(h:plI g.n c.n r.st=true)(hp:playI g c.gs 0 r.steps r.st (List.replicate c.gs.length false)=x) : runR g c r=(x.1,x.2.1):=by rw [runR,if_pos h,hp]
theorem Xd4{g:Gp}{c:Cx}{r:Ro}(h:plS g.n c.n r.st=false) : runG g c r=(1,0):=by rw [runG,if_neg (by rw [h];simp)]
theorem Xdt{g:Gp}{c:Cx}{r:Ro}(h:plI g.n c.n r.st=false) : runR g c r=(1,0):=by rw [runR,if_neg (by rw [h];simp)]
theorem Xme{p:List Int}{x:Gt}(h:(x.k != 12)=false) : mapG p x=x:=by
 have h12:x.k=12:=by simpa using h
 rw [mapG,if_pos h12,if_neg (by rw [h12];simp [inR])]
theorem Xoh{p:List Int}{x:Gt}(h:(x.k != 12)=true)(h9:inR x.k 9 11=false) : mapG p x=⟨x.k,p.getD x.a.toNat 0,x.b⟩:=by rw [mapG,if_neg (by simpa using h),if_neg (by rw [h9];simp)]
theorem Xqn{p:List Int}{x:Gt}(h9:inR x.k 9 11=true) : mapG p x=⟨x.k,p.getD x.a.toNat 0,p.getD x.b.toNat 0⟩:=by
 have:=Xs.1 h9
 rw [mapG,if_neg (by omega),if_pos h9]
end Go.Proofs.YtfgnmflfiobkmaaGreat
namespace Go.Proofs.YtfgnmflfiobkmaaGreat
open Go.RowKit
structure Turn2 (w w':World) (r1 r2:Option Nat) : Prop where
 os:w'.os=w.os
 tape:w'.tape=w.tape
 output:w'.output=w.output
 size:w.heap.size≤w'.heap.size
 block:∀ k,k<w.heap.size→some k≠r1→some k≠r2→w'.heap[k]? = w.heap[k]?
theorem Turn2.refl(w:World)(r1 r2:Option Nat) : Turn2 w w r1 r2:=⟨rfl,rfl,rfl,Nat.le_refl _,fun _ _ _ _=>rfl⟩
section
variable {w0 w w' : World} {r1 r2 : Option Nat} {A : Option Addr} {n m c c' : Nat}
theorem X8w(h:Turn2 w0 w r1 r2)(hE:Below w.heap.size w w') : Turn2 w0 w' r1 r2:=
 ⟨hE.os.trans h.os,hE.tape.trans h.tape,hE.output.trans h.output,Nat.le_trans h.size hE.size,fun k hk h1 h2=>(hE.block k (Nat.lt_of_lt_of_le hk h.size)).trans (h.block k hk h1 h2)⟩
theorem t2l(h:Turn2 w0 w (Value.slice A n c).ownBlock r2)(k:w.grownBy w' (Value.slice A m c').ownBlock) : Turn2 w0 w' (Value.slice A n c).ownBlock r2:=
 ⟨k.os.trans h.os,k.tape.trans h.tape,k.output.trans h.output,Nat.le_trans h.size k.size,fun q hq h1 h2=>(k.block q (Nat.lt_of_lt_of_le hq h.size) (by rw [X73 A m n c' c];exact h1)).trans (h.block q hq h1 h2)⟩
theorem t2r(h:Turn2 w0 w r1 (Value.slice A n c).ownBlock)(k:w.grownBy w' (Value.slice A m c').ownBlock) : Turn2 w0 w' r1 (Value.slice A n c).ownBlock:=
 ⟨k.os.trans h.os,k.tape.trans h.tape,k.output.trans h.output,Nat.le_trans h.size k.size,fun q hq h1 h2=>(k.block q (Nat.lt_of_lt_of_le hq h.size) (by rw [X73 A m n c' c];exact h2)).trans (h.block q hq h1 h2)⟩
end
section
variable {α β γ : Type} {w0 w w' : World} {B B1 B2 : Nat} {E1 E2 : TypeId} {s1 s2 : Nat} {f1 : α → List Value} {f2 : β → List Value} {A1 A2 : Option Addr} {c1 c2 n1 n2 : Nat} {l1 : List α} {l2 : List β}
theorem X6p{A:Option Addr}{c n k:Nat}{l:List α}{E:TypeId}{s:Nat}{f:α→List Value}(h:Own w B E s f A c l)(hk:some k=(Value.slice A n c).ownBlock) : B≤k∧∃ cs fz,w.heap[k]? = some (.cells cs E fz):=by
 rw [X73 A n l.length c c] at hk
 obtain ⟨h1,_,h2⟩:=h.block hk.symm
 exact ⟨h1,h2⟩
theorem Blk.t2{b:Nat}{T:TypeId}{lc:List Value}(h:Blk w b T lc)(o1:Own w B1 E1 s1 f1 A1 c1 l1)(o2:Own w B2 E2 s2 f2 A2 c2 l2)(ht:Turn2 w w' (Value.slice A1 n1 c1).ownBlock (Value.slice A2 n2 c2).ownBlock)(h1:Nat.beq E1 T=false)(h2:Nat.beq E2 T=false) : Blk w' b T lc:=by
 refine (ht.block b h.lt (fun hk=>?_) (fun hk=>?_)).trans h
 ·obtain ⟨_,cs,fz,h3⟩:=X6p o1 hk
  unfold Blk at h;rw [h3] at h;injection h with h;injection h with _ e _;subst e;simp at h1
 ·obtain ⟨_,cs,fz,h3⟩:=X6p o2 hk
  unfold Blk at h;rw [h3] at h;injection h with h;injection h with _ e _;subst e;simp at h2
theorem Own.t2{A:Option Addr}{c:Nat}{l:List γ}{E:TypeId}{s:Nat}{f:γ→List Value}(h:Own w B E s f A c l)(o1:Own w B1 E1 s1 f1 A1 c1 l1)(o2:Own w B2 E2 s2 f2 A2 c2 l2)(ht:Turn2 w w' (Value.slice A1 n1 c1).ownBlock (Value.slice A2 n2 c2).ownBlock)(h1:Nat.beq E1 E=false)(h2:Nat.beq E2 E=false) : Own w' B E s f A c l:=by
 refine ⟨h.1,?_⟩
 rcases h.2 with k1|⟨g,cap,cur,k1,k2,k3,k4⟩
 ·exact .inl k1
 ·refine .inr ⟨g,cap,cur,k1,k2,(ht.block g (Array.getElem?_eq_some_iff.1 k3).1 (fun hk=>?_) (fun hk=>?_)).trans k3,k4⟩
  ·obtain ⟨_,cs,fz,h3⟩:=X6p o1 hk
   rw [h3] at k3;injection k3 with k3;injection k3 with _ e _;subst e;simp at h1
  ·obtain ⟨_,cs,fz,h3⟩:=X6p o2 hk
   rw [h3] at k3;injection k3 with k3;injection k3 with _ e _;subst e;simp at h2
theorem Below.t2(h:Below B w0 w)(o1:Own w B1 E1 s1 f1 A1 c1 l1)(o2:Own w B2 E2 s2 f2 A2 c2 l2)(ht:Turn2 w w' (Value.slice A1 n1 c1).ownBlock (Value.slice A2 n2 c2).ownBlock)(hB1:B≤B1)(hB2:B≤B2)(hs:B≤w.heap.size) : Below B w0 w':=
 ⟨ht.os.trans h.os,ht.tape.trans h.tape,ht.output.trans h.output,Nat.le_trans h.size ht.size,fun k hk=>(ht.block k (by omega) (fun e=>by have:=(X6p o1 e).1;omega) (fun e=>by have:=(X6p o2 e).1;omega)).trans (h.block k hk)⟩
end
section
variable {E : Int → Int → Bool} {N : List Int → Gt → Bool} {R : List Bool → Int → Bool} {gs l : List Gt} {s : Gt} {p : List Int} {d : List Bool} {i : Nat} {fin : Int × Int × List Int × List Bool}
theorem Xc2(h:playL E N R gs i (s::l) p d=fin)(hx:¬ (stp E N R gs s p d).1=0) : fin=((stp E N R gs s p d).1,(i:Int),p,d):=by
 rw [playL,if_neg hx] at h
 exact h.symm
theorem Xhw(h:playL E N R gs i (s::l) p d=fin)(hx:(stp E N R gs s p d).1=0) : playL E N R gs (i+1) l (stp E N R gs s p d).2.1 (stp E N R gs s p d).2.2=fin:=by
 rw [playL,if_pos hx] at h
 exact h
theorem Xih:(stp E N R gs s p d).2.1.length=p.length∧(stp E N R gs s p d).2.2.length=d.length:=by
 unfold stp
 split
 ·split
  ·exact ⟨X2k _ _ _,rfl⟩
  ·exact ⟨rfl,rfl⟩
 ·split
  ·exact ⟨rfl,rfl⟩
  ·split
   ·exact ⟨rfl,by simp⟩
   ·exact ⟨rfl,rfl⟩
end
theorem Xj7{gs:List Gt}{k:Nat}{x:Gt}(h:gs[k]? = some x) : (gs.take (k+1)).drop k=[x]:=by
 obtain ⟨h1,h2⟩:=List.getElem?_eq_some_iff.1 h
 rw [List.take_succ_eq_append_getElem h1,h2,List.drop_left' (by rw [List.length_take];omega)]
end Go.Proofs.YtfgnmflfiobkmaaGreat
namespace Go.Proofs.YtfgnmflfiobkmaaGreat
open Go.RowKit
theorem Xc7{g:Gp}{gs l:List Gt}{s:Gt}{i:Nat}{p:List Int}{d:List Bool}{fin:Int×Int×List Int×List Bool}(h:playI g gs i (s::l) p d=fin)(hx:((stpI g gs s p d).1 != 0)=true) : fin=((stpI g gs s p d).1,(i:Int),p,d):=
 Xc2 h (show ¬ (stpI g gs s p d).1=0 from bne_iff_ne.1 hx)
theorem Xhs{g:Gp}{gs l:List Gt}{s:Gt}{i:Nat}{p:List Int}{d:List Bool}{fin:Int×Int×List Int×List Bool}(h:playI g gs i (s::l) p d=fin)(hx:((stpI g gs s p d).1 != 0)=false) : playI g gs (i+1) l (stpI g gs s p d).2.1 (stpI g gs s p d).2.2=fin:=
 Xhw h (show (stpI g gs s p d).1=0 by simpa using hx)
theorem X3t(g:Gp)(gs:List Gt)(s:Gt)(p:List Int)(d:List Bool) : (stpI g gs s p d).2.1.length=p.length∧(stpI g gs s p d).2.2.length=d.length:=Xih
def ccB(f e k r o:Bool) : Int×Bool:=if f=true then (if e=true then (if k=true then (if r=true then (if o=true then (0,true) else (4,true)) else (3,true)) else (2,true)) else (1,true)) else (0,false)
def ccS(g:Gp)(e c:Cx)(l:List Rp)(d:Cx)(r:Ro)(o:Cx) : Int×Bool:=ccB (fitsS g e) (eqC c e) ((checkS c d l).2&&(checkS c d l).1==0) ((chkRS g d r).2.2&&(chkRS g d r).1==0) ((rcS g d r).isSome&&eqC ((rcS g d r).getD cZ) o)
def ccI(g:Gp)(e c:Cx)(l:List Rp)(d:Cx)(r:Ro)(o:Cx) : Int×Bool:=ccB (fitsR g e) (eqC c e) ((checkI c d l).2&&(checkI c d l).1==0) ((chkRI g d r).2.2&&(chkRI g d r).1==0) ((rcI g d r).isSome&&eqC ((rcI g d r).getD cZ) o)
theorem Xom(g:Gp)(e c:Cx)(l:List Rp)(d:Cx)(r:Ro)(o:Cx) : ccI g e c l d r o=ccS g e c l d r o:=by
 unfold ccI ccS
 rw [← X67,Xi7,← Xe2,← Xjy]
theorem Xdq{g:Gp}{d:Cx}{r:Ro}(h:r.steps.length≤1048576) : ((rcS g d r).getD cZ).gs.length≤2305843009213693951:=by
 unfold rcS
 split
 ·split
  ·show (buildL _ _ _).length≤_
   rw [X6d];omega
  ·exact Nat.zero_le _
 ·exact Nat.zero_le _
theorem Xiv{g:Gp}{d:Cx}{r:Ro}(h:r.steps.length≤1048576) : ((rcI g d r).getD cZ).gs.length≤2305843009213693951:=by rw [← Xjy];exact Xdq h
end Go.Proofs.YtfgnmflfiobkmaaGreat
