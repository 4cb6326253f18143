/-
  What is proved: for every two circuits, the program's VerifyEqual answers as the reference's does and leaves its arguments as they were, and the arguments read as before. Conditions: the table of math/bits holds what the program's text lays there; the card ties that to the text.
-/
import Derived.Test.YtiejkplemjkjoaaGreatDoorF2
import Derived.Test.YtiejkplemjkjoaaGreatDoorF4
import Derived.Test.YtiejkplemjkjoaaGreatDoorF1
import Derived.Test.YtiejkplemjkjoaaGreatDoorF3
import Derived.Test.YtiejkplemjkjoaaGreatDoorRows
import Derived.Lib.LaidU8
import Derived.MakeChecks
import Derived.Test.YtiejkplemjkjoaaGreatDoorCards
import Derived.Test.YtiejkplemjkjoaaGreatDoorTie
import Derived.Lay
set_option linter.unusedVariables false
set_option linter.unusedSimpArgs false
set_option linter.unusedSectionVars false
set_option maxRecDepth 4000
namespace Go.Proofs.YtiejkplemjkjoaaGreatDoor
open Go.RowKit
theorem Xnn(w0:World)(p:Ps)(Ap:Option Addr)(cp:Nat)(hr_p:Rd w0 w0.heap.size 59 encT Ap p.ts)(Bp:Option Addr)(dp:Nat)(hs_p:Rd w0 w0.heap.size 62 encA Bp p.out)(hmk:∀ t ∈ p.ts,Mk t.m)(hbd0:-1000≤p.ins∧p.ins≤1000)(hln:p.ts.length≤100000000)(hlo:p.out.length≤100000000) : Ret Tryz.prog 10 [.agg #[vi p.ins,vi p.vars,vi p.root,vi p.phase,.slice Ap p.ts.length cp,.slice Bp p.out.length dp]] w0 (fun v w=>v=.tuple #[vi (if (validP p&&idP p)=true then p.phase else 0),.bool (validP p&&idP p),.bool (validP p)]∧Below w0.heap.size w0 w):=by
 refine enter Tryz.func10 rfl 40 rfl rfl ?_;intro a hf
 have hW:Below w0.heap.size w0 w0:=Below.refl _ _
 refine Zs hf fun _ hK3=>?_;refine Zf (X0t (zs:=[vi p.ins,vi p.vars,vi p.root,vi p.phase,.slice Ap p.ts.length cp,.slice Bp p.out.length dp]) rfl rfl) ?_;rintro _ w1 ⟨b4,rfl,hl4,hE,hB4⟩;have hlo4:=Nat.le_trans hW.size hl4;replace hW:=btr hW hE;refine Za rfl<|Za rfl<|Za rfl ?_;refine Zt hK3 fun a hf=>?_;refine wp_seq_k fun _ hK5=>?_;refine Zs hf fun _ hK6=>?_;refine Ze (Vn Xe hB4) ?_;refine Zf (Vc (Xcc _ p Ap cp (hr_p.below' hW).top Bp dp (hs_p.below' hW).top hmk hbd0 hln hlo) X6q) ?_;rintro _ w2 ⟨rfl,hE⟩;replace hB4:=hB4.below hE;replace hW:=btr hW hE;refine Ze (X1d rfl) ?_;refine Zt hK6 fun a hf=>?_
 refine X9 hf rfl (fun hc7=>?_) (fun hc7=>?_)
 ·have hc7b:=hc7
  have hv9:validP p=false:=by have:=hc7;simpa using this
  refine Zs hf fun _ hK8=>?_;refine Za rfl<|Za rfl<|Za rfl ?_;refine Zt hK8 fun a hf=>?_;refine wp_ret ?_;refine X3 ?_;refine X4 hf (X27 hf rfl rfl rfl rfl) ?_
  rw [hv9];exact ⟨rfl,hW⟩
 have hc7b:=hc7
 have hv9:validP p=true:=by have:=hc7;simpa using this
 have hR0:=VPr.of hv9;have hlo5:=hR0.out;refine wp_skip ?_;refine hK5 _ _ ?_;refine wp_seq_k fun _ hK9=>?_;refine wp_seq_k fun _ hK10=>?_;refine X0u (fun a w=>Fr a 40 [(1,.pointer (some ⟨b4,0,none⟩)),(23,.bool (((p.vars != 0)||(decide (0<(p.ts.length:Int))))||(p.root != 0)))]∧w2=w) ?_ ?_
 ·refine Zr hf ?_;refine Ze (Vd rfl X0k 1)<|Ze (X0 rfl X2 (hB4.at 1))<|Ze (X3k rfl rfl)<|Zm rfl ?_
  refine Zg 13 rfl (fun hg11=>?_) (fun hg11=>?_)
  ·refine Zp ⟨_,_,rfl,rfl,hg11⟩ ?_;refine Zp ⟨_,_,rfl,rfl,hg11⟩ ?_;refine Zp ⟨_,_,rfl,rfl,hg11⟩ ?_;refine Zp ⟨_,_,rfl,rfl,hg11⟩ ?_;refine Ze (Xb rfl hg11 rfl)<|Zm rfl<|Zp ⟨_,_,rfl,rfl,rfl⟩ ?_;refine Zp ⟨_,_,rfl,rfl,rfl⟩ ?_;refine Zp ⟨_,_,rfl,rfl,rfl⟩ ?_;refine Ze (Xb rfl rfl rfl) ?_;refine Zn fun a hf=>?_;exact ⟨hf.sub ⟨rfl,X1 rfl (by first|rfl|(simp only [hc7b,hg11,bs];done)|simp [hc7b,hg11]),trivial⟩,rfl⟩
  refine Zv ⟨_,_,rfl,rfl,hg11⟩ (Vd rfl X02 4) ?_;refine Zv ⟨_,_,rfl,rfl,hg11⟩ (X0 rfl X0a (hB4.at 4)) ?_;refine Zv ⟨_,_,rfl,rfl,hg11⟩ (X0x rfl Xp) ?_;refine Zv ⟨_,_,rfl,rfl,hg11⟩ (X4m rfl rfl) ?_;refine Ze (Xo rfl hg11 rfl)<|Zm rfl ?_
  refine Zg 19 rfl (fun hg12=>?_) (fun hg12=>?_)
  ·refine Zp ⟨_,_,rfl,rfl,hg12⟩ ?_;refine Zp ⟨_,_,rfl,rfl,hg12⟩ ?_;refine Zp ⟨_,_,rfl,rfl,hg12⟩ ?_;refine Ze (Xb rfl hg12 rfl) ?_;refine Zn fun a hf=>?_;exact ⟨hf.sub ⟨rfl,X1 rfl (by first|rfl|(simp only [hc7b,hg11,hg12,bs];done)|simp [hc7b,hg11,hg12]),trivial⟩,rfl⟩
  refine Zv ⟨_,_,rfl,rfl,hg12⟩ (Vd rfl X0d 2) ?_;refine Zv ⟨_,_,rfl,rfl,hg12⟩ (X0 rfl X2 (hB4.at 2)) ?_;refine Zv ⟨_,_,rfl,rfl,hg12⟩ (X3k rfl rfl) ?_;refine Ze (Xo rfl hg12 rfl) ?_;refine Zn fun a hf=>?_;exact ⟨hf.sub ⟨rfl,X1 rfl (by first|rfl|(simp only [hc7b,hg11,hg12,bs];done)|simp [hc7b,hg11,hg12]),trivial⟩,rfl⟩
 rintro a _ ⟨hf,rfl⟩;refine hK10 _ _ ?_
 refine X9 hf rfl (fun hc13=>?_) (fun hc13=>?_)
 ·have hc13b:=hc13
  have hi9:idP p=false:=by rw [X68];have h7:=hc13;rw [show idH p=false from by unfold idH;revert h7;by_cases h1:p.vars=0<;>by_cases h2:p.ts.length=0<;>by_cases h3:p.root=0<;>simp [h1,h2,h3]<;>omega];rfl
  refine Zs hf fun _ hK14=>?_;refine Za rfl<|Za rfl<|Za rfl ?_;refine Zt hK14 fun a hf=>?_;refine wp_ret ?_;refine X3 ?_;refine X4 hf (X27 hf rfl rfl rfl rfl) ?_
  rw [hv9,hi9];exact ⟨rfl,hW⟩
 have hc13b:=hc13
 have hi8:idH p=true:=by have h7:=hc13;unfold idH;revert h7;by_cases h1:p.vars=0<;>by_cases h2:p.ts.length=0<;>by_cases h3:p.root=0<;>simp [h1,h2,h3]<;>omega
 refine wp_skip ?_;refine hK9 _ _ ?_;refine wp_seq_k fun _ hK15=>?_;refine Zs hf fun _ hK16=>?_;refine Ze (Vd rfl Xq 5)<|Ze (X0 rfl Xs (hB4.at 5))<|Ze (X0x rfl Xl)<|Zm rfl ?_;refine Zt hK16 fun a hf=>?_;refine wp_block ?_;refine Xx (σ:=Nat) (fun (k:Nat) (a:Act) (w:World)=>Fr a 40 [(1,.pointer (some ⟨b4,0,none⟩)),(25,.slice Bp p.out.length dp),(26,vi (p.out.length:Int)),(27,vi (k:Int))]∧(k≤p.out.length)∧(idK p.out k=true)∧Blk w b4 26 [vi p.ins,vi p.vars,vi p.root,vi p.phase,.slice Ap p.ts.length cp,.slice Bp p.out.length dp]∧Below w0.heap.size w0 w) (fun (k:Nat)=>p.out.length-k) 0 ?_ ?_
 ·exact ⟨hf.sub ⟨rfl,rfl,rfl,rfl,trivial⟩,(Nat.zero_le _),rfl,hB4,hW⟩
 rintro k a w3 ⟨hf,hk,hpre,hB4,hW⟩;refine Zs hf fun _ hK17=>?_;refine Ze (X1a rfl rfl) ?_;refine Zt hK17 fun a hf=>?_;refine wp_seq_k fun _ hK18=>?_
 refine X9 hf rfl (fun hc19=>?_) (fun hc19=>?_)
 ·have hc19b:=hc19;have hc19:=of_decide_eq_true hc19
  obtain ⟨u20,hu20⟩:=Xf (l:=p.out) (k:=k) (by omega)
  have hge:p.out.getD k afZ=u20:=by rw [List.getD_eq_getElem?_getD,hu20];rfl
  refine wp_skip ?_;refine hK18 _ _ ?_;refine wp_seq_k fun _ hK21=>?_;refine wp_block ?_;refine Zs hf fun _ hK22=>?_;refine Zm rfl ?_;refine Zi (k:=k) (u:=u20) (enc:=encA) (l:=p.out) trivial rfl rfl Xl Xi Xk (hs_p.below' hW) hu20 rfl ?_;intro p24 hat23;refine Ze (X07 (l:=[vi u20.m,vi u20.t]) rfl Xy hat23 rfl) ?_;refine Zf (X6 (zs:=[vi 0,vi 0]) X0m rfl) ?_;rintro _ w4 ⟨b25,rfl,hl25,hE,hB25⟩;have hlo25:=Nat.le_trans hW.size hl25;have haw2_25:=(hs_p.below' hW).away hl25;replace hB4:=hB4.below hE;replace hW:=btr hW hE;refine Za rfl ?_;refine Zo (Vw [vi u20.m,vi u20.t] Xi hB25) ?_;rintro _ w5 ⟨ho,hb⟩;have hold:=hB25;replace hB4:=hB4.only ho (Blk.ne hB4 hold rfl);replace hW:=Below.only hW ho hlo25;clear hold;have hB25:=hb;clear hb ho;refine Zt hK22 fun a hf=>?_;refine wp_seq_k fun _ hK26=>?_;refine Xv none (fun _=>false) mixed ?_;intro w6 hE;replace hB4:=hB4.below hE;replace hB25:=hB25.below hE;replace hW:=btr hW hE;refine Yb hf ?_;refine Ye 0 rfl (Vn Xy hB25)<|Yo 1 rfl (fun _=>Xa rfl)<|Yo 2 rfl (fun _=>Vx (X22 (m:=k) rfl rfl rfl (by omega)) (X3i (by omega)))<|Yo 3 rfl (fun _=>Xz (ps:=[(0,vi ((2^k:Nat) : Int))]) (cs:=[vi ((2^k:Nat) : Int),vi 0]) rfl (fun _=>by first|rfl|kernel_rfl))<|Yo 4 rfl (fun _=>Xom rfl rfl Xip (fun w=>Xhn 9998 u20 (⟨((2^k:Nat) : Int),0⟩ : Af) w)) ?_;refine Yd fun a hf=>?_;refine hK26 _ _ ?_
  refine X9 hf rfl (fun hc27=>?_) (fun hc27=>?_)
  ·have hc27b:=hc27
   have hi9:idP p=false:=by rw [X68,Xbz (k:=k) (l:=p.out) (by omega) (by rw [hge];have h7:(!decide (u20=varA k))=true:=hc27;exact of_decide_eq_false (by simpa only [Bool.not_eq_true'] using h7))];simp
   refine Zs hf fun _ hK28=>?_;refine Za rfl<|Za rfl<|Za rfl ?_;refine Zt hK28 fun a hf=>?_;refine wp_ret ?_;refine Xm ?_;refine X3 ?_;refine X3 ?_;refine Xm ?_;refine X3 ?_;refine X4 hf (X27 hf rfl rfl rfl rfl) ?_
   rw [hv9,hi9];exact ⟨rfl,hW⟩
  have hc27b:=hc27
  have hid:p.out.getD k afZ=varA k:=by rw [hge];have h7:(!decide (u20=varA k))=false:=hc27;exact of_decide_eq_true (by simpa only [Bool.not_eq_false'] using h7)
  refine wp_skip ?_;refine X5 ?_;refine hK21 _ _ ?_;refine Zr hf ?_;refine Ze (Xu rfl rfl (by omega) (by omega))<|Zm rfl ?_;refine Zn fun a hf=>?_;refine X8 ?_;exact ⟨k+1,⟨hf.sub ⟨rfl,rfl,rfl,rfl,trivial⟩,(by omega),(Xb2 hpre hid),hB4,hW⟩,(by omega)⟩
 have hc19b:=hc19;have hc19:=of_decide_eq_false hc19
 have hkx:k=p.out.length:=by have:=hc19;omega
 subst hkx
 have hi9:idP p=true:=by rw [X68,hi8,hpre];rfl
 refine wp_exit ?_;refine Xh ?_;refine Xh ?_;refine Xt ?_;refine hK15 _ _ ?_;refine Zs hf fun _ hK29=>?_;refine Ze (Vd rfl X0p 3)<|Ze (X0 rfl X2 (hB4.at 3))<|Za rfl<|Za rfl<|Za rfl ?_;refine Zt hK29 fun a hf=>?_
 refine wp_ret (X4 hf (X27 hf rfl rfl rfl rfl) ?_)
 rw [hv9,hi9];exact ⟨rfl,hW⟩
theorem Xpa(w0:World)(p:Ps)(Ap:Option Addr)(cp:Nat)(hr_p:Rd w0 w0.heap.size 59 encT Ap p.ts)(Bp:Option Addr)(dp:Nat)(hs_p:Rd w0 w0.heap.size 62 encA Bp p.out)(hv9:validP p=true) : Ret Tryz.prog 38 [.agg #[vi p.ins,vi p.vars,vi p.root,vi p.phase,.slice Ap p.ts.length cp,.slice Bp p.out.length dp]] w0 (fun v w=>v=.bool (idP p)∧Below w0.heap.size w0 w):=by
 have hR0:=VPr.of hv9;have hlo5:=hR0.out;have hvr:=hR0.v.vars;refine enter Tryz.func38 rfl 39 rfl rfl ?_;intro a hf
 have hW:Below w0.heap.size w0 w0:=Below.refl _ _
 refine Zs hf fun _ hK3=>?_;refine Zf (X0t (zs:=[vi p.ins,vi p.vars,vi p.root,vi p.phase,.slice Ap p.ts.length cp,.slice Bp p.out.length dp]) rfl rfl) ?_;rintro _ w1 ⟨b4,rfl,hl4,hE,hB4⟩;have hlo4:=Nat.le_trans hW.size hl4;replace hW:=btr hW hE;refine Za rfl ?_;refine Zt hK3 fun a hf=>?_;refine wp_seq_k fun _ hK5=>?_;refine wp_seq_k fun _ hK6=>?_;refine X0u (fun a w=>Fr a 39 [(1,.pointer (some ⟨b4,0,none⟩)),(18,.bool (((decide (0<p.vars))||(p.root != 0))||(decide (0<(p.ts.length:Int)))))]∧w1=w) ?_ ?_
 ·refine Zr hf ?_;refine Ze (Vd rfl X0k 1)<|Ze (X0 rfl X2 (hB4.at 1))<|Ze (X4m rfl rfl)<|Zm rfl ?_
  refine Zg 8 rfl (fun hg7=>?_) (fun hg7=>?_)
  ·refine Zp ⟨_,_,rfl,rfl,hg7⟩ ?_;refine Zp ⟨_,_,rfl,rfl,hg7⟩ ?_;refine Zp ⟨_,_,rfl,rfl,hg7⟩ ?_;refine Ze (Xb rfl hg7 rfl)<|Zm rfl<|Zp ⟨_,_,rfl,rfl,rfl⟩ ?_;refine Zp ⟨_,_,rfl,rfl,rfl⟩ ?_;refine Zp ⟨_,_,rfl,rfl,rfl⟩ ?_;refine Zp ⟨_,_,rfl,rfl,rfl⟩ ?_;refine Ze (Xb rfl rfl rfl) ?_;refine Zn fun a hf=>?_;exact ⟨hf.sub ⟨rfl,X1 rfl (by first|rfl|(simp only [hg7,bs];done)|simp [hg7]),trivial⟩,rfl⟩
  refine Zv ⟨_,_,rfl,rfl,hg7⟩ (Vd rfl X0d 2) ?_;refine Zv ⟨_,_,rfl,rfl,hg7⟩ (X0 rfl X2 (hB4.at 2)) ?_;refine Zv ⟨_,_,rfl,rfl,hg7⟩ (X3k rfl rfl) ?_;refine Ze (Xo rfl hg7 rfl)<|Zm rfl ?_
  refine Zg 13 rfl (fun hg8=>?_) (fun hg8=>?_)
  ·refine Zp ⟨_,_,rfl,rfl,hg8⟩ ?_;refine Zp ⟨_,_,rfl,rfl,hg8⟩ ?_;refine Zp ⟨_,_,rfl,rfl,hg8⟩ ?_;refine Zp ⟨_,_,rfl,rfl,hg8⟩ ?_;refine Ze (Xb rfl hg8 rfl) ?_;refine Zn fun a hf=>?_;exact ⟨hf.sub ⟨rfl,X1 rfl (by first|rfl|(simp only [hg7,hg8,bs];done)|simp [hg7,hg8]),trivial⟩,rfl⟩
  refine Zv ⟨_,_,rfl,rfl,hg8⟩ (Vd rfl X02 4) ?_;refine Zv ⟨_,_,rfl,rfl,hg8⟩ (X0 rfl X0a (hB4.at 4)) ?_;refine Zv ⟨_,_,rfl,rfl,hg8⟩ (X0x rfl Xp) ?_;refine Zv ⟨_,_,rfl,rfl,hg8⟩ (X4m rfl rfl) ?_;refine Ze (Xo rfl hg8 rfl) ?_;refine Zn fun a hf=>?_;exact ⟨hf.sub ⟨rfl,X1 rfl (by first|rfl|(simp only [hg7,hg8,bs];done)|simp [hg7,hg8]),trivial⟩,rfl⟩
 rintro a _ ⟨hf,rfl⟩;refine hK6 _ _ ?_
 refine X9 hf rfl (fun hc9=>?_) (fun hc9=>?_)
 ·have hc9b:=hc9
  have hi9:idP p=false:=by rw [X68];have h7:=hc9;rw [show idH p=false from by unfold idH;revert h7;by_cases h1:p.vars=0<;>by_cases h2:p.ts.length=0<;>by_cases h3:p.root=0<;>simp [h1,h2,h3]<;>omega];rfl
  refine Zs hf fun _ hK10=>?_;refine Za rfl ?_;refine Zt hK10 fun a hf=>?_;refine wp_ret ?_;refine X3 ?_;refine X4 hf (X01 hf rfl rfl) ?_
  rw [hi9];exact ⟨rfl,hW⟩
 have hc9b:=hc9
 have hi8:idH p=true:=by have h7:=hc9;unfold idH;revert h7;by_cases h1:p.vars=0<;>by_cases h2:p.ts.length=0<;>by_cases h3:p.root=0<;>simp [h1,h2,h3]<;>omega
 refine wp_skip ?_;refine hK5 _ _ ?_;refine wp_seq_k fun _ hK11=>?_;refine Zs hf fun _ hK12=>?_;refine Ze (Vd rfl Xq 5)<|Ze (X0 rfl Xs (hB4.at 5))<|Ze (X0x rfl Xl)<|Zm rfl ?_;refine Zt hK12 fun a hf=>?_;refine wp_block ?_;refine Xx (σ:=Nat) (fun (k:Nat) (a:Act) (w:World)=>Fr a 39 [(20,.slice Bp p.out.length dp),(21,vi (p.out.length:Int)),(22,vi (k:Int))]∧(k≤p.out.length)∧(idK p.out k=true)∧Below w0.heap.size w0 w) (fun (k:Nat)=>p.out.length-k) 0 ?_ ?_
 ·exact ⟨hf.sub ⟨rfl,rfl,rfl,trivial⟩,(Nat.zero_le _),rfl,hW⟩
 rintro k a w2 ⟨hf,hk,hpre,hW⟩;refine Zs hf fun _ hK13=>?_;refine Ze (X1a rfl rfl) ?_;refine Zt hK13 fun a hf=>?_;refine wp_seq_k fun _ hK14=>?_
 refine X9 hf rfl (fun hc15=>?_) (fun hc15=>?_)
 ·have hc15b:=hc15;have hc15:=of_decide_eq_true hc15
  obtain ⟨u16,hu16⟩:=Xf (l:=p.out) (k:=k) (by omega)
  have hge:p.out.getD k afZ=u16:=by rw [List.getD_eq_getElem?_getD,hu16];rfl
  refine wp_skip ?_;refine hK14 _ _ ?_;refine wp_seq_k fun _ hK17=>?_;refine wp_block ?_;refine Zs hf fun _ hK18=>?_;refine Zm rfl ?_;refine Zi (k:=k) (u:=u16) (enc:=encA) (l:=p.out) trivial rfl rfl Xl Xi Xk (hs_p.below' hW) hu16 rfl ?_;intro p20 hat19;refine Ze (X07 (l:=[vi u16.m,vi u16.t]) rfl Xy hat19 rfl) ?_;refine Zf (X6 (zs:=[vi 0,vi 0]) X0m rfl) ?_;rintro _ w3 ⟨b21,rfl,hl21,hE,hB21⟩;have hlo21:=Nat.le_trans hW.size hl21;have haw2_21:=(hs_p.below' hW).away hl21;replace hW:=btr hW hE;refine Za rfl ?_;refine Zo (Vw [vi u16.m,vi u16.t] Xi hB21) ?_;rintro _ w4 ⟨ho,hb⟩;have hold:=hB21;replace hW:=Below.only hW ho hlo21;clear hold;have hB21:=hb;clear hb ho;refine Zt hK18 fun a hf=>?_;refine wp_seq_k fun _ hK22=>?_;refine X0u (fun a w=>Fr a 39 [(20,.slice Bp p.out.length dp),(21,vi (p.out.length:Int)),(22,vi (k:Int)),(37,.bool ((u16.m != ((2^k:Nat) : Int))||(u16.t != 0)))]∧w4=w) ?_ ?_
  ·refine Zr hf ?_;refine Ze (Vd rfl X00 0)<|Ze (X0 rfl X2 (hB21.at 0))<|Zm rfl<|Ze (X2q (m:=k) Tryz.underlying3 Tryz.underlying109 rfl rfl (by omega))<|Ze (Vx (X22 (m:=k) rfl rfl rfl (by omega)) (X3i (by omega))) ?_;refine Ze (X3k rfl rfl)<|Zm rfl ?_
   refine Zg 33 rfl (fun hg23=>?_) (fun hg23=>?_)
   ·refine Zp ⟨_,_,rfl,rfl,hg23⟩ ?_;refine Zp ⟨_,_,rfl,rfl,hg23⟩ ?_;refine Zp ⟨_,_,rfl,rfl,hg23⟩ ?_;refine Ze (Xb rfl hg23 rfl) ?_;refine Zn fun a hf=>?_;exact ⟨hf.sub ⟨rfl,rfl,rfl,X1 rfl (by first|rfl|(simp only [hc9b,hc15b,hg23,bs];done)|simp [hc9b,hc15b,hg23]),trivial⟩,rfl⟩
   refine Zv ⟨_,_,rfl,rfl,hg23⟩ (Vd rfl X03 1) ?_;refine Zv ⟨_,_,rfl,rfl,hg23⟩ (X0 rfl X2 (hB21.at 1)) ?_;refine Zv ⟨_,_,rfl,rfl,hg23⟩ (X3k rfl rfl) ?_;refine Ze (Xo rfl hg23 rfl) ?_;refine Zn fun a hf=>?_;exact ⟨hf.sub ⟨rfl,rfl,rfl,X1 rfl (by first|rfl|(simp only [hc9b,hc15b,hg23,bs];done)|simp [hc9b,hc15b,hg23]),trivial⟩,rfl⟩
  rintro a _ ⟨hf,rfl⟩;refine hK22 _ _ ?_
  refine X9 hf rfl (fun hc24=>?_) (fun hc24=>?_)
  ·have hc24b:=hc24
   have hi9:idP p=false:=by rw [X68,Xbz (k:=k) (l:=p.out) (by omega) (by rw [hge];intro e;have:=hc24;rw [e] at this;simp [varA] at this)];simp
   refine Zs hf fun _ hK25=>?_;refine Za rfl ?_;refine Zt hK25 fun a hf=>?_;refine wp_ret ?_;refine Xm ?_;refine X3 ?_;refine X3 ?_;refine Xm ?_;refine X3 ?_;refine X4 hf (X01 hf rfl rfl) ?_
   rw [hi9];exact ⟨rfl,hW⟩
  have hc24b:=hc24
  have hid:p.out.getD k afZ=varA k:=by rw [hge];exact Xoi hc24
  refine wp_skip ?_;refine X5 ?_;refine hK17 _ _ ?_;refine Zr hf ?_;refine Ze (Xu rfl rfl (by omega) (by omega))<|Zm rfl ?_;refine Zn fun a hf=>?_;refine X8 ?_;exact ⟨k+1,⟨hf.sub ⟨rfl,rfl,rfl,trivial⟩,(by omega),(Xb2 hpre hid),hW⟩,(by omega)⟩
 have hc15b:=hc15;have hc15:=of_decide_eq_false hc15
 have hkx:k=p.out.length:=by have:=hc15;omega
 subst hkx
 have hi9:idP p=true:=by rw [X68,hi8,hpre];rfl
 refine wp_exit ?_;refine Xh ?_;refine Xh ?_;refine Xt ?_;refine hK11 _ _ ?_;refine Zs hf fun _ hK26=>?_;refine Za rfl ?_;refine Zt hK26 fun a hf=>?_
 refine wp_ret (X4 hf (X01 hf rfl rfl) ?_)
 rw [hi9];exact ⟨rfl,hW⟩
theorem Xon(w0:World)(c:Cx)(Ac:Option Addr)(cc:Nat)(hr_c:Rd w0 w0.heap.size 114 encG Ac c.gs)(hln0:c.gs.length≤2305843009213693951) : Ret Tryz.prog 96 [.agg #[vi c.n,.slice Ac c.gs.length cc]] w0 (fun v w=>∃ A c1,v=.tuple #[.agg #[vi ((invO c).getD cZ).n,.slice A ((invO c).getD cZ).gs.length c1],.bool (invO c).isSome]∧Own w w0.heap.size 114 3 encG A c1 ((invO c).getD cZ).gs∧Below w0.heap.size w0 w):=by
 refine enter Tryz.func96 rfl 46 rfl rfl ?_;intro a hf
 have hW:Below w0.heap.size w0 w0:=Below.refl _ _
 refine Zs hf fun _ hK2=>?_;refine Zf (X0t (zs:=[vi c.n,.slice Ac c.gs.length cc]) rfl rfl) ?_;rintro _ w1 ⟨b3,rfl,hl3,hE,hB3⟩;have hlo3:=Nat.le_trans hW.size hl3;replace hW:=btr hW hE;refine Zf (X6 (zs:=[vi 0,.slice none 0 0]) X40 rfl) ?_;rintro _ w2 ⟨b5,rfl,hl5,hE,hB5⟩
 have hne3_5:b3≠b5:=by have:=hB3.lt;omega
 have hlo5:=Nat.le_trans hW.size hl5;replace hB3:=hB3.below hE;replace hW:=btr hW hE;refine Za rfl ?_;refine Zt hK2 fun a hf=>?_;refine wp_seq_k fun _ hK6=>?_;refine Zs hf fun _ hK7=>?_;refine Ze (Vn X0s hB3) ?_;refine Zf (Vc (F55 _ c Ac cc (hr_c.below' hW).top hln0) Xaw) ?_;rintro _ w3 ⟨rfl,hE⟩;replace hB3:=hB3.below hE;replace hB5:=hB5.below hE;replace hW:=btr hW hE;refine Ze (X1d rfl) ?_;refine Zt hK7 fun a hf=>?_
 refine X9 hf rfl (fun hc8=>?_) (fun hc8=>?_)
 ·have hc8b:=hc8
  have hv9:cOk c=false:=by have:=hc8;simpa using this
  have hfin:invO c=none:=by unfold invO;rw [hv9];rfl
  refine Zs hf fun _ hK9=>?_;refine Ze (Xz (ps:=[]) (cs:=[vi 0,.slice none 0 0]) rfl (fun _=>by first|rfl|kernel_rfl)) ?_;refine Zo (Vw [vi 0,.slice none 0 0] X1q hB5) ?_;rintro _ w4 ⟨ho,hb⟩;have hold:=hB5;replace hB3:=hB3.only ho (by omega);replace hW:=Below.only hW ho hlo5;clear hold;have hB5:=hb;clear hb ho;refine Za rfl ?_;refine Zt hK9 fun a hf=>?_;refine wp_ret ?_;refine X3 ?_;refine X4 hf (X2l hf rfl (ResV.cellN (l:=[vi 0,.slice none 0 0]) rfl X0s (hB5.at 0) rfl) rfl) ?_
  rw [hfin]
  exact ⟨none,0,rfl,(Own.nil _ _ _ _ _),hW⟩
 have hc8b:=hc8
 have hv9:cOk c=true:=by have:=hc8;simpa using this
 have hci:=X2h.1 hv9;have hgk:=hci.2.2;have hgl:=hci.2.1
 have hn5:c.n≤5:=(X0v.1 hci.1).2
 refine wp_skip ?_;refine hK6 _ _ ?_;refine Zs hf fun _ hK11=>?_;refine Zf (Xn (k:=0) (vs:=[]) (zs:=[]) rfl X13 X1s rfl rfl) ?_;rintro _ w5 ⟨b12,rfl,hl12,hE,hB12⟩;have hlo12:=Nat.le_trans hW.size hl12;have haw1_12:=(hr_c.below' hW).away hl12;replace hB3:=hB3.below hE;replace hB5:=hB5.below hE;replace hW:=btr hW hE;refine Za rfl ?_;refine Zt hK11 fun a hf=>?_;refine wp_seq_k fun _ hK14=>?_;refine Zs hf fun _ hK15=>?_;refine Ze (Vd rfl X0z 1)<|Ze (X0 rfl X25 (hB3.at 1))<|Ze (X0x rfl X13)<|Ze (Vx (X16 rfl rfl (by omega) (by omega)) (show _=((c.gs.length:Int)-1-((0:Nat) : Int)) from (by omega)))<|Za rfl ?_;refine Zt hK15 fun a hf=>?_;refine wp_block ?_;refine Xx (σ:=Nat×(List Gt)) (fun (s:Nat×(List Gt)) (a:Act) (w:World)=>match s with|(k,l)=>∃ A16 c16,Fr a 46 [(1,.pointer (some ⟨b3,0,none⟩)),(2,.pointer (some ⟨b5,0,none⟩)),(4,.slice A16 l.length c16),(5,vi ((c.gs.length:Int)-1-(k:Int)))]∧(k≤c.gs.length)∧(l=(c.gs.reverse.take k).flatMap invG)∧(l.length≤7*k)∧Blk w b3 48 [vi c.n,.slice Ac c.gs.length cc]∧Blk w b5 48 [vi 0,.slice none 0 0]∧Own w w0.heap.size 114 3 encG A16 c16 l∧Below w0.heap.size w0 w) (fun (s:Nat×(List Gt))=>match s with|(k,l)=>c.gs.length-k) (0,[]) ?_ ?_
 ·exact ⟨some ⟨b12,0,none⟩,0,hf.sub ⟨rfl,rfl,rfl,rfl,trivial⟩,(Nat.zero_le _),rfl,(Nat.le_refl _),hB3,hB5,(Own.empty hB12 hlo12),hW⟩
 rintro ⟨k,l⟩ a w6 ⟨A16,c16,hf,hk,hl,hll,hB3,hB5,ho16,hW⟩;refine wp_seq_k fun _ hK17=>?_;refine Zs hf fun _ hK18=>?_;refine Zm rfl<|Ze (Xa0 rfl rfl) ?_;refine Zt hK18 fun a hf=>?_
 refine X9 hf rfl (fun hc19=>?_) (fun hc19=>?_)
 ·have hc19b:=hc19;have hc19:=of_decide_eq_true hc19
  have hki:k<c.gs.length:=by have:=hc19;omega
  have hbn:=Xfb (c.gs.getD (c.gs.length-1-k) gZ);refine wp_skip ?_;refine hK17 _ _ ?_;refine wp_seq_k fun _ hK20=>?_;refine wp_block ?_;refine Zs hf fun _ hK21=>?_;refine Ze (Vd rfl X0z 1)<|Ze (X0 rfl X25 (hB3.at 1))<|Zm rfl ?_;refine Zi (k:=(c.gs.length-1-k)) (u:=(c.gs.getD (c.gs.length-1-k) gZ)) (enc:=encG) (l:=c.gs) trivial rfl rfl X13 X14 X0w (hr_c.below' hW) (Xd1 (by omega)) (by omega) ?_;intro p23 hat22;refine Ze (X07 (l:=[vi ((c.gs.getD (c.gs.length-1-k) gZ).k),vi ((c.gs.getD (c.gs.length-1-k) gZ).a),vi ((c.gs.getD (c.gs.length-1-k) gZ).b)]) rfl X0f hat22 rfl) ?_;refine Zf (Vc (Xpk _ (c.gs.getD (c.gs.length-1-k) gZ) _ (hgk _ (List.mem_of_getElem? (Xd1 (by omega)))) hn5) Xhr) ?_;rintro _ w7 ⟨rfl,hE⟩;replace hB3:=hB3.below hE;replace hB5:=hB5.below hE;replace ho16:=ho16.below hE;replace hW:=btr hW hE;refine Zm rfl<|Ze (Xg (vs:=[.agg #[vi ((bkG (c.gs.getD (c.gs.length-1-k) gZ)).k),vi ((bkG (c.gs.getD (c.gs.length-1-k) gZ)).a),vi ((bkG (c.gs.getD (c.gs.length-1-k) gZ)).b)],vi (bkN (c.gs.getD (c.gs.length-1-k) gZ)),.bool true]) rfl rfl)<|Ze (Xg (vs:=[.agg #[vi ((bkG (c.gs.getD (c.gs.length-1-k) gZ)).k),vi ((bkG (c.gs.getD (c.gs.length-1-k) gZ)).a),vi ((bkG (c.gs.getD (c.gs.length-1-k) gZ)).b)],vi (bkN (c.gs.getD (c.gs.length-1-k) gZ)),.bool true]) rfl rfl)<|Ze (Xg (vs:=[.agg #[vi ((bkG (c.gs.getD (c.gs.length-1-k) gZ)).k),vi ((bkG (c.gs.getD (c.gs.length-1-k) gZ)).a),vi ((bkG (c.gs.getD (c.gs.length-1-k) gZ)).b)],vi (bkN (c.gs.getD (c.gs.length-1-k) gZ)),.bool true]) rfl rfl) ?_;refine Zf (X6 (zs:=[vi 0,vi 0,vi 0]) X5b rfl) ?_;rintro _ w8 ⟨b24,rfl,hl24,hE,hB24⟩;have hlo24:=Nat.le_trans hW.size hl24;have haw16_24:=ho16.away hl24;have haw1_24:=(hr_c.below' hW).away hl24;replace hB3:=hB3.below hE;replace hB5:=hB5.below hE;replace ho16:=ho16.below hE
  replace hW:=btr hW hE;refine Zo (Vw [vi ((bkG (c.gs.getD (c.gs.length-1-k) gZ)).k),vi ((bkG (c.gs.getD (c.gs.length-1-k) gZ)).a),vi ((bkG (c.gs.getD (c.gs.length-1-k) gZ)).b)] X14 hB24) ?_;rintro _ w9 ⟨ho,hb⟩;have hold:=hB24;replace hB3:=hB3.only ho (Blk.ne hB3 hold rfl);replace hB5:=hB5.only ho (Blk.ne hB5 hold rfl);replace ho16:=ho16.onlyA ho haw16_24;replace hW:=Below.only hW ho hlo24;clear hold;have hB24:=hb;clear hb ho;refine Za rfl<|Za rfl ?_;refine Zt hK21 fun a hf=>?_;refine Zs hf fun _ hK25=>?_;refine Zm rfl<|Zm rfl ?_;refine Zt hK25 fun a hf=>?_;refine wp_block ?_;refine Xx (σ:=Nat×(List Gt)) (fun (s:Nat×(List Gt)) (a:Act) (w:World)=>match s with|(j,l2)=>∃ A26 c26,Fr a 46 [(1,.pointer (some ⟨b3,0,none⟩)),(2,.pointer (some ⟨b5,0,none⟩)),(4,.slice A26 l2.length c26),(5,vi ((c.gs.length:Int)-1-(k:Int))),(6,.pointer (some ⟨b24,0,none⟩)),(32,vi (bkN (c.gs.getD (c.gs.length-1-k) gZ))),(33,vi (j:Int))]∧((j:Int)≤bkN (c.gs.getD (c.gs.length-1-k) gZ))∧(l2=l++List.replicate j (bkG (c.gs.getD (c.gs.length-1-k) gZ)))∧(l2.length=l.length+j)∧Blk w b3 48 [vi c.n,.slice Ac c.gs.length cc]∧Blk w b5 48 [vi 0,.slice none 0 0]∧Blk w b24 114 [vi ((bkG (c.gs.getD (c.gs.length-1-k) gZ)).k),vi ((bkG (c.gs.getD (c.gs.length-1-k) gZ)).a),vi ((bkG (c.gs.getD (c.gs.length-1-k) gZ)).b)]∧Own w w0.heap.size 114 3 encG A26 c26 l2∧Away A26 b24∧Below w0.heap.size w0 w) (fun (s:Nat×(List Gt))=>match s with|(j,l2)=>(bkN (c.gs.getD (c.gs.length-1-k) gZ)).toNat-j) (0,l) ?_ ?_
  ·exact ⟨A16,c16,hf.sub ⟨rfl,rfl,rfl,rfl,rfl,rfl,rfl,trivial⟩,(by omega),(by simp),rfl,hB3,hB5,hB24,ho16,haw16_24,hW⟩
  rintro ⟨j,l2⟩ a w10 ⟨A26,c26,hf,hj,hl2,hll2,hB3,hB5,hB24,ho26,haw26_24,hW⟩;refine Zs hf fun _ hK27=>?_;refine Ze (X1a rfl rfl) ?_;refine Zt hK27 fun a hf=>?_;refine wp_seq_k fun _ hK28=>?_
  refine X9 hf rfl (fun hc29=>?_) (fun hc29=>?_)
  ·have hc29b:=hc29;have hc29:=of_decide_eq_true hc29;refine wp_skip ?_;refine hK28 _ _ ?_;refine wp_seq_k fun _ hK30=>?_;refine wp_block ?_;refine Zr hf ?_;refine Zm rfl<|Ze (Vn X0f hB24) ?_;refine Zf (Xn (k:=1) (vs:=[.agg #[vi ((bkG (c.gs.getD (c.gs.length-1-k) gZ)).k),vi ((bkG (c.gs.getD (c.gs.length-1-k) gZ)).a),vi ((bkG (c.gs.getD (c.gs.length-1-k) gZ)).b)]]) (zs:=[vi ((bkG (c.gs.getD (c.gs.length-1-k) gZ)).k),vi ((bkG (c.gs.getD (c.gs.length-1-k) gZ)).a),vi ((bkG (c.gs.getD (c.gs.length-1-k) gZ)).b)]) rfl X13 X1s rfl rfl) ?_;rintro _ w11 ⟨b31,rfl,hl31,hE,hB31⟩
   have hne24_31:b24≠b31:=by have:=hB24.lt;omega
   have hlo31:=Nat.le_trans hW.size hl31;have haw26_31:=ho26.away hl31;have haw1_31:=(hr_c.below' hW).away hl31;replace hB3:=hB3.below hE;replace hB5:=hB5.below hE;replace hB24:=hB24.below hE;replace ho26:=ho26.below hE;replace hW:=btr hW hE;refine Zf (X11 (enc:=encG) (l:=(l2)) (l2:=([(bkG (c.gs.getD (c.gs.length-1-k) gZ))])) (B0:=w0.heap.size) rfl rfl X13 X1s X0w X2o ho26 (Rd.of_blk hB31 rfl _ hB31.lt) (by simp only [maxLen];simp;omega) (by simp;omega) hW.size) ?_;rintro _ w12 ⟨A33,c33,rfl,ho33,hg,hat⟩
   have hown:Own _ w0.heap.size 114 3 encG _ _ (l2):=ho26
   have haw33_24:=hat _ hB24.lt haw26_24;have haw33_31:=hat _ hB31.lt haw26_31;clear hat;replace hB3:=hB3.appT hown hg rfl;replace hB5:=hB5.appT hown hg rfl;replace hB24:=hB24.appA hg haw26_24;replace hW:=Below.app hW hown hg (Nat.le_refl _) hW.size;clear hown hg;refine Za rfl ?_;refine Zn fun a hf=>?_;refine X5 ?_;refine hK30 _ _ ?_;refine Zr hf ?_;refine Ze (Xu rfl rfl (by omega) (by omega))<|Zm rfl ?_;refine Zn fun a hf=>?_;refine X8 ?_;exact ⟨(j+1,l2++([(bkG (c.gs.getD (c.gs.length-1-k) gZ))])),⟨A33,c33,hf.sub ⟨rfl,rfl,rfl,rfl,rfl,rfl,rfl,trivial⟩,(by omega),(by rw [hl2,Xag,List.append_assoc]),(by simp;omega),hB3,hB5,hB24,ho33,haw33_24,hW⟩,(by first|omega|(dsimp only;omega))⟩
  have hc29b:=hc29;have hc29:=of_decide_eq_false hc29
  have hjx:bkN (c.gs.getD (c.gs.length-1-k) gZ)≤(j:Int):=by have:=hc29;omega
  refine wp_exit ?_;refine Xh ?_;refine Xh ?_;refine Xt ?_;refine X5 ?_;refine hK20 _ _ ?_;refine Zr hf ?_;refine Zm rfl<|Ze (Vx (X16 rfl rfl (by omega) (by omega)) (show _=((c.gs.length:Int)-1-((k+1:Nat) : Int)) from (by omega)))<|Za rfl ?_;refine Zn fun a hf=>?_;refine X8 ?_;exact ⟨(k+1,l2),⟨A26,c26,hf.sub ⟨rfl,rfl,rfl,rfl,trivial⟩,(by omega),(by rw [X9z hki,hl2,← hl,show (bkN (c.gs.getD (c.gs.length-1-k) gZ)).toNat=j from by have:=hjx;omega]),(by omega),hB3,hB5,ho26,hW⟩,(by first|omega|(dsimp only;omega))⟩
 have hc19b:=hc19;have hc19:=of_decide_eq_false hc19
 have hkx:k=c.gs.length:=by have:=hc19;omega
 have hfin:invO c=cIf ⟨c.n,l⟩:=by rw [← Xiy hv9,hl,hkx,← List.length_reverse,List.take_length];rfl
 refine wp_exit ?_;refine Xh ?_;refine Xh ?_;refine Xt ?_;refine hK14 _ _ ?_;refine Zs hf fun _ hK34=>?_;refine Ze (Vd rfl X1g 0)<|Ze (X0 rfl X2 (hB3.at 0))<|Zm rfl ?_;refine Zf (Vc (Xpn _ c.n A16 c16 l ho16.rd.top (by omega)) Xfe) ?_;rintro _ w13 ⟨A35,c35,rfl,ho35,hE⟩;replace ho35:=ho35.lower hW.size;replace hB3:=hB3.below hE;replace hB5:=hB5.below hE;replace ho16:=ho16.below hE;replace hW:=btr hW hE;refine Ze (Xg (vs:=[.agg #[vi (((cIf ⟨c.n,l⟩).getD cZ).n),.slice A35 (((cIf ⟨c.n,l⟩).getD cZ).gs).length c35],.bool ((cIf ⟨c.n,l⟩).isSome)]) rfl rfl)<|Ze (Xg (vs:=[.agg #[vi (((cIf ⟨c.n,l⟩).getD cZ).n),.slice A35 (((cIf ⟨c.n,l⟩).getD cZ).gs).length c35],.bool ((cIf ⟨c.n,l⟩).isSome)]) rfl rfl) ?_;refine Zo (Vw [vi (((cIf ⟨c.n,l⟩).getD cZ).n),.slice A35 (((cIf ⟨c.n,l⟩).getD cZ).gs).length c35] X1q hB5) ?_;rintro _ w14 ⟨ho,hb⟩;have hold:=hB5;replace hB3:=hB3.only ho (by omega);replace ho16:=ho16.onlyT ho hold rfl;replace ho35:=ho35.onlyT ho hold rfl;replace hW:=Below.only hW ho hlo5;clear hold;have hB5:=hb;clear hb ho;refine Za rfl ?_;refine Zt hK34 fun a hf=>?_
 refine wp_ret (X4 hf (X2l hf rfl (ResV.cellN (l:=[vi (((cIf ⟨c.n,l⟩).getD cZ).n),.slice A35 (((cIf ⟨c.n,l⟩).getD cZ).gs).length c35]) rfl X0s (hB5.at 0) rfl) rfl) ?_)
 rw [hfin]
 exact ⟨A35,c35,rfl,ho35,hW⟩
theorem Xpo(w0:World)(p:Cx)(Ap:Option Addr)(cp:Nat)(hr_p:Rd w0 w0.heap.size 114 encG Ap p.gs)(q:Cx)(Aq:Option Addr)(cq:Nat)(hr_q:Rd w0 w0.heap.size 114 encG Aq q.gs)(hlp:p.gs.length≤2000000)(hlq:q.gs.length≤2000000) : Ret Tryz.prog 97 [.agg #[vi p.n,.slice Ap p.gs.length cp],.agg #[vi q.n,.slice Aq q.gs.length cq]] w0 (fun v w=>∃ A c1,v=.tuple #[.agg #[vi ((conO p q).getD cZ).n,.slice A ((conO p q).getD cZ).gs.length c1],.bool (conO p q).isSome]∧Own w w0.heap.size 114 3 encG A c1 ((conO p q).getD cZ).gs∧Below w0.heap.size w0 w):=by
 refine enter Tryz.func97 rfl 33 rfl rfl ?_;intro a hf
 have hW:Below w0.heap.size w0 w0:=Below.refl _ _
 refine Zs hf fun _ hK3=>?_;refine Zf (X0t (zs:=[vi p.n,.slice Ap p.gs.length cp]) rfl rfl) ?_;rintro _ w1 ⟨b4,rfl,hl4,hE,hB4⟩;have hlo4:=Nat.le_trans hW.size hl4;replace hW:=btr hW hE;refine Zf (X0t (zs:=[vi q.n,.slice Aq q.gs.length cq]) rfl rfl) ?_;rintro _ w2 ⟨b5,rfl,hl5,hE,hB5⟩
 have hne4_5:b4≠b5:=by have:=hB4.lt;omega
 have hlo5:=Nat.le_trans hW.size hl5;replace hB4:=hB4.below hE;replace hW:=btr hW hE;refine Zf (X6 (zs:=[vi 0,.slice none 0 0]) X40 rfl) ?_;rintro _ w3 ⟨b7,rfl,hl7,hE,hB7⟩
 have hne4_7:b4≠b7:=by have:=hB4.lt;omega
 have hne5_7:b5≠b7:=by have:=hB5.lt;omega
 have hlo7:=Nat.le_trans hW.size hl7;replace hB4:=hB4.below hE;replace hB5:=hB5.below hE;replace hW:=btr hW hE;refine Za rfl ?_;refine Zt hK3 fun a hf=>?_;refine wp_seq_k fun _ hK8=>?_;refine wp_seq_k fun _ hK9=>?_;refine X0u (fun a w=>Fr a 33 [(2,.pointer (some ⟨b4,0,none⟩)),(3,.pointer (some ⟨b5,0,none⟩)),(4,.pointer (some ⟨b7,0,none⟩)),(20,.bool (((!(cOk p))||(!(cOk q)))||(p.n != q.n)))]∧Below w3.heap.size w3 w) ?_ ?_
 ·have hEc:Below w3.heap.size w3 w3:=Below.refl _ _
  refine Zr hf ?_;refine Ze (Vn X0s hB4) ?_;refine Zf (Vc (F55 _ p Ap cp (hr_p.below' hW).top (by omega)) Xaw) ?_;rintro _ w4 ⟨rfl,hE⟩;replace hB4:=hB4.below hE;replace hB5:=hB5.below hE;replace hB7:=hB7.below hE;replace hW:=btr hW hE;replace hEc:=btr hEc hE;refine Ze (X1d rfl)<|Zm rfl ?_
  refine Zg 9 rfl (fun hg10=>?_) (fun hg10=>?_)
  ·refine Zp ⟨_,_,rfl,rfl,hg10⟩ ?_;refine Zp ⟨_,_,rfl,rfl,hg10⟩ ?_;refine Zp ⟨_,_,rfl,rfl,hg10⟩ ?_;refine Ze (Xb rfl hg10 rfl)<|Zm rfl<|Zp ⟨_,_,rfl,rfl,rfl⟩ ?_;refine Zp ⟨_,_,rfl,rfl,rfl⟩ ?_;refine Zp ⟨_,_,rfl,rfl,rfl⟩ ?_;refine Zp ⟨_,_,rfl,rfl,rfl⟩ ?_;refine Zp ⟨_,_,rfl,rfl,rfl⟩ ?_;refine Ze (Xb rfl rfl rfl) ?_;refine Zn fun a hf=>?_
   have hEE:Below w3.heap.size w3 w4:=hEc
   exact ⟨hf.sub ⟨rfl,rfl,rfl,X1 rfl (by first|rfl|(simp only [hg10,bs];done)|simp [hg10]),trivial⟩,hEE⟩
  refine Zv ⟨_,_,rfl,rfl,hg10⟩ (Vn X0s hB5) ?_;refine Zk ⟨_,_,rfl,rfl,hg10⟩ (Vc (F55 _ q Aq cq (hr_q.below' hW).top (by omega)) Xaw) ?_;rintro _ w5 ⟨rfl,hE⟩;replace hB4:=hB4.below hE;replace hB5:=hB5.below hE;replace hB7:=hB7.below hE;replace hW:=btr hW hE;replace hEc:=btr hEc hE;refine Zv ⟨_,_,rfl,rfl,hg10⟩ (X1d rfl) ?_;refine Ze (Xo rfl hg10 rfl)<|Zm rfl ?_
  refine Zg 14 rfl (fun hg11=>?_) (fun hg11=>?_)
  ·refine Zp ⟨_,_,rfl,rfl,hg11⟩ ?_;refine Zp ⟨_,_,rfl,rfl,hg11⟩ ?_;refine Zp ⟨_,_,rfl,rfl,hg11⟩ ?_;refine Zp ⟨_,_,rfl,rfl,hg11⟩ ?_;refine Zp ⟨_,_,rfl,rfl,hg11⟩ ?_;refine Ze (Xb rfl hg11 rfl) ?_;refine Zn fun a hf=>?_
   have hEE:Below w3.heap.size w3 w5:=hEc
   exact ⟨hf.sub ⟨rfl,rfl,rfl,X1 rfl (by first|rfl|(simp only [hg10,hg11,bs];done)|simp [hg10,hg11]),trivial⟩,hEE⟩
  refine Zv ⟨_,_,rfl,rfl,hg11⟩ (Vd rfl X1g 0) ?_;refine Zv ⟨_,_,rfl,rfl,hg11⟩ (X0 rfl X2 (hB4.at 0)) ?_;refine Zv ⟨_,_,rfl,rfl,hg11⟩ (Vd rfl X1g 0) ?_;refine Zv ⟨_,_,rfl,rfl,hg11⟩ (X0 rfl X2 (hB5.at 0)) ?_;refine Zv ⟨_,_,rfl,rfl,hg11⟩ (X3k rfl rfl) ?_;refine Ze (Xo rfl hg11 rfl) ?_;refine Zn fun a hf=>?_
  have hEE:Below w3.heap.size w3 w5:=hEc
  exact ⟨hf.sub ⟨rfl,rfl,rfl,X1 rfl (by first|rfl|(simp only [hg10,hg11,bs];done)|simp [hg10,hg11]),trivial⟩,hEE⟩
 rintro a w6 ⟨hf,hE⟩;replace hB4:=hB4.below hE;replace hB5:=hB5.below hE;replace hB7:=hB7.below hE;replace hW:=btr hW hE;refine hK9 _ _ ?_
 refine X9 hf rfl (fun hc12=>?_) (fun hc12=>?_)
 ·have hc12b:=hc12
  have hfin:conO p q=none:=by unfold conO;have h7:=hc12;rw [if_neg];revert h7;cases cOk p<;>cases cOk q<;>by_cases e9:p.n=q.n<;>simp [e9]
  refine Zs hf fun _ hK13=>?_;refine Ze (Xz (ps:=[]) (cs:=[vi 0,.slice none 0 0]) rfl (fun _=>by first|rfl|kernel_rfl)) ?_;refine Zo (Vw [vi 0,.slice none 0 0] X1q hB7) ?_;rintro _ w7 ⟨ho,hb⟩;have hold:=hB7;replace hB4:=hB4.only ho (by omega);replace hB5:=hB5.only ho (by omega);replace hW:=Below.only hW ho hlo7;clear hold;have hB7:=hb;clear hb ho;refine Za rfl ?_;refine Zt hK13 fun a hf=>?_;refine wp_ret ?_;refine X3 ?_;refine X4 hf (X2l hf rfl (ResV.cellN (l:=[vi 0,.slice none 0 0]) rfl X0s (hB7.at 0) rfl) rfl) ?_
  rw [hfin]
  exact ⟨none,0,rfl,(Own.nil _ _ _ _ _),hW⟩
 have hc12b:=hc12
 have h7:cOk p=true∧cOk q=true∧p.n=q.n:=by have h7:=hc12;revert h7;cases cOk p<;>cases cOk q<;>simp
 have hfin:conO p q=cIf ⟨p.n,p.gs++(q.gs++[])⟩:=by rw [List.append_nil,Xce h7.1 h7.2.1 h7.2.2]
 refine wp_skip ?_;refine hK8 _ _ ?_;refine wp_seq_k fun _ hK15=>?_;refine Xv none (fun j=>[11].contains j) mixed ?_;intro w8 hE;replace hB4:=hB4.below hE;replace hB5:=hB5.below hE;replace hB7:=hB7.below hE;replace hW:=btr hW hE;refine Yb hf ?_;refine Yo 0 rfl (fun _=>Vd rfl X1g 0)<|Ye 1 rfl (X0 rfl X2 (hB4.at 0))<|Yo 2 rfl (fun _=>Vd rfl X0z 1)<|Ye 3 rfl (X0 rfl X25 (hB4.at 1))<|Yo 4 rfl (fun _=>Vd rfl X0z 1) ?_;refine Ye 5 rfl (X0 rfl X25 (hB5.at 1)) ?_;refine Y1 6 ?_;refine Yk rfl trivial (Xn (k:=2) (vs:=[.slice Ap p.gs.length cp,.slice Aq q.gs.length cq]) (zs:=[.slice Ap p.gs.length cp,.slice Aq q.gs.length cq]) rfl X7l Xm2 rfl rfl) (fun _ _ ⟨_,_,_,h,_⟩=>h) ?_;rintro _ w9 ⟨b16,rfl,hl16,hE,hB16⟩;have hlo16:=Nat.le_trans hW.size hl16;replace hB4:=hB4.below hE;replace hB5:=hB5.below hE;replace hB7:=hB7.below hE;replace hW:=btr hW hE;refine Y1 7 ?_;refine Yk rfl trivial (Vc (Xqm _ [(⟨Ap,cp,p.gs⟩ : Sg),(⟨Aq,cq,q.gs⟩ : Sg)] (some ⟨b16,0,none⟩) 2 (Rd.of_blk hB16 rfl _ hB16.lt) (fun s hs=>by simp only [List.mem_cons,List.not_mem_nil,or_false] at hs;rcases hs with rfl|rfl;exact (hr_p.below' hW).top;exact (hr_q.below' hW).top) (by simp) (by simp;omega)) Xlq) (fun _ _ ⟨A18,c18,_,ho18,hE⟩=>hE) ?_;rintro _ w10 ⟨A18,c18,rfl,ho18,hE⟩;replace ho18:=ho18.lower hW.size;replace hB4:=hB4.below hE;replace hB5:=hB5.below hE;replace hB7:=hB7.below hE;replace hB16:=hB16.below hE;replace hW:=btr hW hE;refine Y1 8 ?_;refine Yk rfl trivial (Vc (Xpn _ p.n A18 c18 (List.flatMap Sg.l [(⟨Ap,cp,p.gs⟩ : Sg),(⟨Aq,cq,q.gs⟩ : Sg)]) ho18.rd.top (by simp;omega)) Xfe) (fun _ _ ⟨A19,c19,_,ho19,hE⟩=>hE) ?_;rintro _ w11 ⟨A19,c19,rfl,ho19,hE⟩;replace ho19:=ho19.lower hW.size;replace hB4:=hB4.below hE;replace hB5:=hB5.below hE;replace hB7:=hB7.below hE;replace hB16:=hB16.below hE;replace ho18:=ho18.below hE
 replace hW:=btr hW hE;refine Yo 9 rfl (fun _=>Xg (vs:=[.agg #[vi (((cIf ⟨p.n,(List.flatMap Sg.l [(⟨Ap,cp,p.gs⟩ : Sg),(⟨Aq,cq,q.gs⟩ : Sg)])⟩).getD cZ).n),.slice A19 (((cIf ⟨p.n,(List.flatMap Sg.l [(⟨Ap,cp,p.gs⟩ : Sg),(⟨Aq,cq,q.gs⟩ : Sg)])⟩).getD cZ).gs).length c19],.bool ((cIf ⟨p.n,(List.flatMap Sg.l [(⟨Ap,cp,p.gs⟩ : Sg),(⟨Aq,cq,q.gs⟩ : Sg)])⟩).isSome)]) rfl rfl)<|Yo 10 rfl (fun _=>Xg (vs:=[.agg #[vi (((cIf ⟨p.n,(List.flatMap Sg.l [(⟨Ap,cp,p.gs⟩ : Sg),(⟨Aq,cq,q.gs⟩ : Sg)])⟩).getD cZ).n),.slice A19 (((cIf ⟨p.n,(List.flatMap Sg.l [(⟨Ap,cp,p.gs⟩ : Sg),(⟨Aq,cq,q.gs⟩ : Sg)])⟩).getD cZ).gs).length c19],.bool ((cIf ⟨p.n,(List.flatMap Sg.l [(⟨Ap,cp,p.gs⟩ : Sg),(⟨Aq,cq,q.gs⟩ : Sg)])⟩).isSome)]) rfl rfl) ?_;refine Y1 11 ?_;refine Yh rfl trivial rfl (Vw [vi (((cIf ⟨p.n,(List.flatMap Sg.l [(⟨Ap,cp,p.gs⟩ : Sg),(⟨Aq,cq,q.gs⟩ : Sg)])⟩).getD cZ).n),.slice A19 (((cIf ⟨p.n,(List.flatMap Sg.l [(⟨Ap,cp,p.gs⟩ : Sg),(⟨Aq,cq,q.gs⟩ : Sg)])⟩).getD cZ).gs).length c19] X1q hB7) ?_;rintro _ w12 ⟨ho,hb⟩;have hold:=hB7;replace hB4:=hB4.only ho (by omega);replace hB5:=hB5.only ho (by omega);replace hB16:=hB16.only ho (Blk.ne hB16 hold rfl);replace ho18:=ho18.onlyT ho hold rfl;replace ho19:=ho19.onlyT ho hold rfl;replace hW:=Below.only hW ho hlo7;clear hold;have hB7:=hb;clear hb ho;refine Yo 12 rfl (fun _=>X1r rfl) ?_;refine Yd fun a hf=>?_;refine hK15 _ _ ?_
 refine wp_ret (X4 hf (X2l hf rfl (ResV.cellN (l:=[vi (((cIf ⟨p.n,(List.flatMap Sg.l [(⟨Ap,cp,p.gs⟩ : Sg),(⟨Aq,cq,q.gs⟩ : Sg)])⟩).getD cZ).n),.slice A19 (((cIf ⟨p.n,(List.flatMap Sg.l [(⟨Ap,cp,p.gs⟩ : Sg),(⟨Aq,cq,q.gs⟩ : Sg)])⟩).getD cZ).gs).length c19]) rfl X0s (hB7.at 0) rfl) rfl) ?_)
 rw [hfin]
 exact ⟨A19,c19,rfl,ho19,hW⟩
theorem Xnt(w0:World)(p:Cx)(Ap:Option Addr)(cp:Nat)(hr_p:Rd w0 w0.heap.size 114 encG Ap p.gs)(q:Cx)(Aq:Option Addr)(cq:Nat)(hr_q:Rd w0 w0.heap.size 114 encG Aq q.gs)(hlp:p.gs.length≤2000000)(hlq:q.gs.length≤2000000) : Ret Tryz.prog 51 [.agg #[vi p.n,.slice Ap p.gs.length cp],.agg #[vi q.n,.slice Aq q.gs.length cq]] w0 (fun v w=>∃ A c1,v=.tuple #[.agg #[vi ((((invO q).bind (conO p))).getD cZ).n,.slice A ((((invO q).bind (conO p))).getD cZ).gs.length c1],.bool (((invO q).bind (conO p))).isSome]∧Own w w0.heap.size 114 3 encG A c1 ((((invO q).bind (conO p))).getD cZ).gs∧Below w0.heap.size w0 w):=by
 refine enter Tryz.func51 rfl 21 rfl rfl ?_;intro a hf
 have hW:Below w0.heap.size w0 w0:=Below.refl _ _
 refine Zs hf fun _ hK3=>?_;refine Zf (X0t (zs:=[vi p.n,.slice Ap p.gs.length cp]) rfl rfl) ?_;rintro _ w1 ⟨b4,rfl,hl4,hE,hB4⟩;have hlo4:=Nat.le_trans hW.size hl4;replace hW:=btr hW hE;refine Zf (X0t (zs:=[vi q.n,.slice Aq q.gs.length cq]) rfl rfl) ?_;rintro _ w2 ⟨b5,rfl,hl5,hE,hB5⟩
 have hne4_5:b4≠b5:=by have:=hB4.lt;omega
 have hlo5:=Nat.le_trans hW.size hl5;replace hB4:=hB4.below hE;replace hW:=btr hW hE;refine Zf (X6 (zs:=[vi 0,.slice none 0 0]) X40 rfl) ?_;rintro _ w3 ⟨b7,rfl,hl7,hE,hB7⟩
 have hne4_7:b4≠b7:=by have:=hB4.lt;omega
 have hne5_7:b5≠b7:=by have:=hB5.lt;omega
 have hlo7:=Nat.le_trans hW.size hl7;replace hB4:=hB4.below hE;replace hB5:=hB5.below hE;replace hW:=btr hW hE;refine Za rfl ?_;refine Zt hK3 fun a hf=>?_;refine Zs hf fun _ hK8=>?_;refine Ze (Vn X0s hB5) ?_;refine Zf (Vc (Xon _ q Aq cq (hr_q.below' hW).top (by omega)) Xjx) ?_;rintro _ w4 ⟨A9,c9,rfl,ho9,hE⟩;replace ho9:=ho9.lower hW.size;replace hB4:=hB4.below hE;replace hB5:=hB5.below hE;replace hB7:=hB7.below hE;replace hW:=btr hW hE;refine Zm rfl<|Ze (Xg (vs:=[.agg #[vi (((invO q).getD cZ).n),.slice A9 (((invO q).getD cZ).gs).length c9],.bool ((invO q).isSome)]) rfl rfl)<|Ze (Xg (vs:=[.agg #[vi (((invO q).getD cZ).n),.slice A9 (((invO q).getD cZ).gs).length c9],.bool ((invO q).isSome)]) rfl rfl) ?_;refine Zf (X6 (zs:=[vi 0,.slice none 0 0]) X40 rfl) ?_;rintro _ w5 ⟨b11,rfl,hl11,hE,hB11⟩
 have hne4_11:b4≠b11:=by have:=hB4.lt;omega
 have hne5_11:b5≠b11:=by have:=hB5.lt;omega
 have hne7_11:b7≠b11:=by have:=hB7.lt;omega
 have hlo11:=Nat.le_trans hW.size hl11;replace hB4:=hB4.below hE;replace hB5:=hB5.below hE;replace hB7:=hB7.below hE;replace ho9:=ho9.below hE;replace hW:=btr hW hE;refine Zo (Vw [vi (((invO q).getD cZ).n),.slice A9 (((invO q).getD cZ).gs).length c9] X1q hB11) ?_;rintro _ w6 ⟨ho,hb⟩;have hold:=hB11;replace hB4:=hB4.only ho (by omega);replace hB5:=hB5.only ho (by omega);replace hB7:=hB7.only ho (by omega);replace ho9:=ho9.onlyT ho hold rfl;replace hW:=Below.only hW ho hlo11;clear hold;have hB11:=hb;clear hb ho;refine Za rfl ?_;refine Zt hK8 fun a hf=>?_;refine wp_seq_k fun _ hK12=>?_;refine Zs hf fun _ hK13=>?_;refine Zm rfl<|Ze (X1d rfl) ?_;refine Zt hK13 fun a hf=>?_
 refine X9 hf rfl (fun hc14=>?_) (fun hc14=>?_)
 ·have hc14b:=hc14
  have hfin:(invO q).bind (conO p)=none:=by have h7:=hc14;cases e:invO q with
   | none=>rfl
   | some x=>rw [e] at h7;simp at h7
  refine Zs hf fun _ hK15=>?_;refine Ze (Xz (ps:=[]) (cs:=[vi 0,.slice none 0 0]) rfl (fun _=>by first|rfl|kernel_rfl)) ?_;refine Zo (Vw [vi 0,.slice none 0 0] X1q hB7) ?_;rintro _ w7 ⟨ho,hb⟩;have hold:=hB7;replace hB4:=hB4.only ho (by omega);replace hB11:=hB11.only ho (by omega);replace ho9:=ho9.onlyT ho hold rfl;replace hW:=Below.only hW ho hlo7;clear hold;have hB7:=hb;clear hb ho;refine Za rfl ?_;refine Zt hK15 fun a hf=>?_;refine wp_ret ?_;refine X3 ?_;refine X4 hf (X2l hf rfl (ResV.cellN (l:=[vi 0,.slice none 0 0]) rfl X0s (hB7.at 0) rfl) rfl) ?_
  rw [hfin]
  exact ⟨none,0,rfl,(Own.nil _ _ _ _ _),hW⟩
 have hc14b:=hc14
 obtain ⟨x9,hx9⟩ : ∃ x,invO q=some x:=Option.isSome_iff_exists.1 (by have:=hc14;simpa using this)
 refine wp_skip ?_;refine hK12 _ _ ?_;refine Zs hf fun _ hK17=>?_;refine Ze (Vn X0s hB4)<|Ze (Vn X0s hB11) ?_;refine Zf (Vc (Xpo _ p Ap cp (hr_p.below' hW).top ((invO q).getD cZ) A9 c9 ho9.rd.top hlp (Xdd q)) Xib) ?_;rintro _ w8 ⟨A18,c18,rfl,ho18,hE⟩;replace ho18:=ho18.lower hW.size;replace hB4:=hB4.below hE;replace hB7:=hB7.below hE;replace hB11:=hB11.below hE;replace ho9:=ho9.below hE;replace hW:=btr hW hE;refine Ze (Xg (vs:=[.agg #[vi (((conO p ((invO q).getD cZ)).getD cZ).n),.slice A18 (((conO p ((invO q).getD cZ)).getD cZ).gs).length c18],.bool ((conO p ((invO q).getD cZ)).isSome)]) rfl rfl)<|Ze (Xg (vs:=[.agg #[vi (((conO p ((invO q).getD cZ)).getD cZ).n),.slice A18 (((conO p ((invO q).getD cZ)).getD cZ).gs).length c18],.bool ((conO p ((invO q).getD cZ)).isSome)]) rfl rfl) ?_;refine Zo (Vw [vi (((conO p ((invO q).getD cZ)).getD cZ).n),.slice A18 (((conO p ((invO q).getD cZ)).getD cZ).gs).length c18] X1q hB7) ?_;rintro _ w9 ⟨ho,hb⟩;have hold:=hB7;replace hB4:=hB4.only ho (by omega);replace hB11:=hB11.only ho (by omega);replace ho9:=ho9.onlyT ho hold rfl;replace ho18:=ho18.onlyT ho hold rfl;replace hW:=Below.only hW ho hlo7;clear hold;have hB7:=hb;clear hb ho;refine Za rfl ?_;refine Zt hK17 fun a hf=>?_
 refine wp_ret (X4 hf (X2l hf rfl (ResV.cellN (l:=[vi (((conO p ((invO q).getD cZ)).getD cZ).n),.slice A18 (((conO p ((invO q).getD cZ)).getD cZ).gs).length c18]) rfl X0s (hB7.at 0) rfl) rfl) ?_)
 rw [hx9] at *
 exact ⟨A18,c18,rfl,ho18,hW⟩
theorem Xpm(w0:World)(c:Cx)(Ac:Option Addr)(cc:Nat)(hr_c:Rd w0 w0.heap.size 114 encG Ac c.gs)(hln:c.gs.length≤100000) : Ret Tryz.prog 35 [.agg #[vi c.n,.slice Ac c.gs.length cc]] w0 (fun v w=>∃ A9 c9,v=.agg #[vi c.n,.slice A9 (invL c.gs).length c9]∧Own w w0.heap.size 114 3 encG A9 c9 (invL c.gs)∧Below w0.heap.size w0 w):=by
 refine enter Tryz.func35 rfl 38 rfl rfl ?_;intro a hf
 have hW:Below w0.heap.size w0 w0:=Below.refl _ _
 refine Zs hf fun _ hK2=>?_;refine Zf (X0t (zs:=[vi c.n,.slice Ac c.gs.length cc]) rfl rfl) ?_;rintro _ w1 ⟨b3,rfl,hl3,hE,hB3⟩;have hlo3:=Nat.le_trans hW.size hl3;replace hW:=btr hW hE;refine Zf (X6 (zs:=[vi 0,.slice none 0 0]) X40 rfl) ?_;rintro _ w2 ⟨b5,rfl,hl5,hE,hB5⟩
 have hne3_5:b3≠b5:=by have:=hB3.lt;omega
 have hlo5:=Nat.le_trans hW.size hl5;replace hB3:=hB3.below hE;replace hW:=btr hW hE;refine Zt hK2 fun a hf=>?_;refine Zs hf fun _ hK6=>?_;refine Ze (Vd rfl X1g 0)<|Ze (X0 rfl X2 (hB3.at 0))<|Ze (Xz (ps:=[(0,vi c.n)]) (cs:=[vi c.n,.slice none 0 0]) rfl (fun _=>by first|rfl|kernel_rfl)) ?_;refine Zf (X6 (zs:=[vi 0,.slice none 0 0]) X40 rfl) ?_;rintro _ w3 ⟨b9,rfl,hl9,hE,hB9⟩
 have hne3_9:b3≠b9:=by have:=hB3.lt;omega
 have hne5_9:b5≠b9:=by have:=hB5.lt;omega
 have hlo9:=Nat.le_trans hW.size hl9;replace hB3:=hB3.below hE;replace hB5:=hB5.below hE;replace hW:=btr hW hE;refine Zo (Vw [vi c.n,.slice none 0 0] X1q hB9) ?_;rintro _ w4 ⟨ho,hb⟩;have hold:=hB9;replace hB3:=hB3.only ho (by omega);replace hB5:=hB5.only ho (by omega);replace hW:=Below.only hW ho hlo9;clear hold;have hB9:=hb;clear hb ho;refine Zt hK6 fun a hf=>?_;refine wp_seq_k fun _ hK10=>?_;refine Zs hf fun _ hK11=>?_;refine Ze (Vd rfl X0z 1)<|Ze (X0 rfl X25 (hB3.at 1))<|Ze (X0x rfl X13)<|Ze (Vx (X16 rfl rfl (by omega) (by omega)) (show _=((c.gs.length:Int)-1-((0:Nat) : Int)) from (by omega)))<|Za rfl ?_;refine Zt hK11 fun a hf=>?_;refine wp_block ?_;refine Xx (σ:=Nat×(List Gt)) (fun (s:Nat×(List Gt)) (a:Act) (w:World)=>match s with|(k,l)=>∃ A12 c12,Fr a 38 [(1,.pointer (some ⟨b3,0,none⟩)),(2,.pointer (some ⟨b5,0,none⟩)),(3,.pointer (some ⟨b9,0,none⟩)),(4,vi ((c.gs.length:Int)-1-(k:Int)))]∧(k≤c.gs.length)∧(l=(c.gs.reverse.take k).flatMap invG)∧(l.length≤7*k)∧Blk w b3 48 [vi c.n,.slice Ac c.gs.length cc]∧Blk w b5 48 [vi 0,.slice none 0 0]∧Blk w b9 48 [vi c.n,.slice A12 l.length c12]∧Own w w0.heap.size 114 3 encG A12 c12 l∧Below w0.heap.size w0 w) (fun (s:Nat×(List Gt))=>match s with|(k,l)=>c.gs.length-k) (0,[]) ?_ ?_
 ·exact ⟨none,0,hf.sub ⟨rfl,rfl,rfl,rfl,trivial⟩,(Nat.zero_le _),rfl,(Nat.le_refl _),hB3,hB5,hB9,(Own.nil _ _ _ _ _),hW⟩
 rintro ⟨k,l⟩ a w5 ⟨A12,c12,hf,hk,hl,hll,hB3,hB5,hB9,ho12,hW⟩;refine wp_seq_k fun _ hK13=>?_;refine Zs hf fun _ hK14=>?_;refine Zm rfl<|Ze (Xa0 rfl rfl) ?_;refine Zt hK14 fun a hf=>?_
 refine X9 hf rfl (fun hc15=>?_) (fun hc15=>?_)
 ·have hc15b:=hc15;have hc15:=of_decide_eq_true hc15
  have hki:k<c.gs.length:=by have:=hc15;omega
  have hbn:=Xfb (c.gs.getD (c.gs.length-1-k) gZ);refine wp_skip ?_;refine hK13 _ _ ?_;refine wp_seq_k fun _ hK16=>?_;refine wp_block ?_;refine Zs hf fun _ hK17=>?_;refine Ze (Vd rfl X0z 1)<|Ze (X0 rfl X25 (hB3.at 1))<|Zm rfl ?_;refine Zi (k:=(c.gs.length-1-k)) (u:=(c.gs.getD (c.gs.length-1-k) gZ)) (enc:=encG) (l:=c.gs) trivial rfl rfl X13 X14 X0w (hr_c.below' hW) (Xd1 (by omega)) (by omega) ?_;intro p19 hat18;refine Ze (X07 (l:=[vi ((c.gs.getD (c.gs.length-1-k) gZ).k),vi ((c.gs.getD (c.gs.length-1-k) gZ).a),vi ((c.gs.getD (c.gs.length-1-k) gZ).b)]) rfl X0f hat18 rfl) ?_;refine Zf (Vc (Xpe _ (c.gs.getD (c.gs.length-1-k) gZ)) Xh4) ?_;rintro _ w6 ⟨rfl,hE⟩;replace hB3:=hB3.below hE;replace hB5:=hB5.below hE;replace hB9:=hB9.below hE;replace ho12:=ho12.below hE;replace hW:=btr hW hE;refine Zm rfl<|Ze (Xg (vs:=[.agg #[vi ((bkG (c.gs.getD (c.gs.length-1-k) gZ)).k),vi ((bkG (c.gs.getD (c.gs.length-1-k) gZ)).a),vi ((bkG (c.gs.getD (c.gs.length-1-k) gZ)).b)],vi (bkN (c.gs.getD (c.gs.length-1-k) gZ))]) rfl rfl)<|Ze (Vx (Xg (vs:=[.agg #[vi ((bkG (c.gs.getD (c.gs.length-1-k) gZ)).k),vi ((bkG (c.gs.getD (c.gs.length-1-k) gZ)).a),vi ((bkG (c.gs.getD (c.gs.length-1-k) gZ)).b)],vi (bkN (c.gs.getD (c.gs.length-1-k) gZ))]) rfl rfl) (show _=(bkN (c.gs.getD (c.gs.length-1-k) gZ)-((0:Nat) : Int)) from (by omega))) ?_;refine Zf (X6 (zs:=[vi 0,vi 0,vi 0]) X5b rfl) ?_;rintro _ w7 ⟨b20,rfl,hl20,hE,hB20⟩;have hlo20:=Nat.le_trans hW.size hl20;have haw1_20:=(hr_c.below' hW).away hl20;have haw12_20:=ho12.away hl20;replace hB3:=hB3.below hE;replace hB5:=hB5.below hE;replace hB9:=hB9.below hE;replace ho12:=ho12.below hE;replace hW:=btr hW hE;refine Zo (Vw [vi ((bkG (c.gs.getD (c.gs.length-1-k) gZ)).k),vi ((bkG (c.gs.getD (c.gs.length-1-k) gZ)).a),vi ((bkG (c.gs.getD (c.gs.length-1-k) gZ)).b)] X14 hB20) ?_;rintro _ w8 ⟨ho,hb⟩
  have hold:=hB20;replace hB3:=hB3.only ho (Blk.ne hB3 hold rfl);replace hB5:=hB5.only ho (Blk.ne hB5 hold rfl);replace hB9:=hB9.only ho (Blk.ne hB9 hold rfl);replace ho12:=ho12.onlyA ho haw12_20;replace hW:=Below.only hW ho hlo20;clear hold;have hB20:=hb;clear hb ho;refine Za rfl ?_;refine Zt hK17 fun a hf=>?_;refine wp_block ?_;refine Xx (σ:=Nat×(List Gt)) (fun (s:Nat×(List Gt)) (a:Act) (w:World)=>match s with|(j,l2)=>∃ A21 c21,Fr a 38 [(1,.pointer (some ⟨b3,0,none⟩)),(2,.pointer (some ⟨b5,0,none⟩)),(3,.pointer (some ⟨b9,0,none⟩)),(4,vi ((c.gs.length:Int)-1-(k:Int))),(5,.pointer (some ⟨b20,0,none⟩)),(6,vi (bkN (c.gs.getD (c.gs.length-1-k) gZ)-(j:Int)))]∧((j:Int)≤bkN (c.gs.getD (c.gs.length-1-k) gZ))∧(l2=l++List.replicate j (bkG (c.gs.getD (c.gs.length-1-k) gZ)))∧(l2.length=l.length+j)∧Blk w b3 48 [vi c.n,.slice Ac c.gs.length cc]∧Blk w b5 48 [vi 0,.slice none 0 0]∧Blk w b9 48 [vi c.n,.slice A21 l2.length c21]∧Blk w b20 114 [vi ((bkG (c.gs.getD (c.gs.length-1-k) gZ)).k),vi ((bkG (c.gs.getD (c.gs.length-1-k) gZ)).a),vi ((bkG (c.gs.getD (c.gs.length-1-k) gZ)).b)]∧Own w w0.heap.size 114 3 encG A21 c21 l2∧Away A21 b20∧Below w0.heap.size w0 w) (fun (s:Nat×(List Gt))=>match s with|(j,l2)=>(bkN (c.gs.getD (c.gs.length-1-k) gZ)).toNat-j) (0,l) ?_ ?_
  ·exact ⟨A12,c12,hf.sub ⟨rfl,rfl,rfl,rfl,rfl,rfl,trivial⟩,(by omega),(by simp),rfl,hB3,hB5,hB9,hB20,ho12,haw12_20,hW⟩
  rintro ⟨j,l2⟩ a w9 ⟨A21,c21,hf,hj,hl2,hll2,hB3,hB5,hB9,hB20,ho21,haw21_20,hW⟩;refine wp_seq_k fun _ hK22=>?_;refine Zs hf fun _ hK23=>?_;refine Zm rfl<|Ze (X4m rfl rfl) ?_;refine Zt hK23 fun a hf=>?_
  refine X9 hf rfl (fun hc24=>?_) (fun hc24=>?_)
  ·have hc24b:=hc24;have hc24:=of_decide_eq_true hc24;refine wp_skip ?_;refine hK22 _ _ ?_;refine wp_seq_k fun _ hK25=>?_;refine wp_block ?_;refine Zr hf ?_;refine Ze (Vd rfl X0z 1)<|Ze (X0 rfl X25 (hB9.at 1))<|Ze (Vn X0f hB20) ?_;refine Zf (Xn (k:=1) (vs:=[.agg #[vi ((bkG (c.gs.getD (c.gs.length-1-k) gZ)).k),vi ((bkG (c.gs.getD (c.gs.length-1-k) gZ)).a),vi ((bkG (c.gs.getD (c.gs.length-1-k) gZ)).b)]]) (zs:=[vi ((bkG (c.gs.getD (c.gs.length-1-k) gZ)).k),vi ((bkG (c.gs.getD (c.gs.length-1-k) gZ)).a),vi ((bkG (c.gs.getD (c.gs.length-1-k) gZ)).b)]) rfl X13 X1s rfl rfl) ?_;rintro _ w10 ⟨b26,rfl,hl26,hE,hB26⟩
   have hne20_26:b20≠b26:=by have:=hB20.lt;omega
   have hlo26:=Nat.le_trans hW.size hl26;have haw1_26:=(hr_c.below' hW).away hl26;have haw21_26:=ho21.away hl26;replace hB3:=hB3.below hE;replace hB5:=hB5.below hE;replace hB9:=hB9.below hE;replace hB20:=hB20.below hE;replace ho21:=ho21.below hE;replace hW:=btr hW hE;refine Zf (X11 (enc:=encG) (l:=(l2)) (l2:=([(bkG (c.gs.getD (c.gs.length-1-k) gZ))])) (B0:=w0.heap.size) rfl rfl X13 X1s X0w X2o ho21 (Rd.of_blk hB26 rfl _ hB26.lt) (by simp only [maxLen];simp;omega) (by simp;omega) hW.size) ?_;rintro _ w11 ⟨A28,c28,rfl,ho28,hg,hat⟩
   have hown:Own _ w0.heap.size 114 3 encG _ _ (l2):=ho21
   have haw28_20:=hat _ hB20.lt haw21_20;have haw28_26:=hat _ hB26.lt haw21_26;clear hat;replace hB3:=hB3.appT hown hg rfl;replace hB5:=hB5.appT hown hg rfl;replace hB9:=hB9.appT hown hg rfl;replace hB20:=hB20.appA hg haw21_20;replace hW:=Below.app hW hown hg (Nat.le_refl _) hW.size;clear hown hg;refine Ze (Vd rfl X0z 1) ?_;refine Zo (Vu (vs:=[.slice A28 (l2++([(bkG (c.gs.getD (c.gs.length-1-k) gZ))])).length c28]) (l':=[vi c.n,.slice A28 (l2++([(bkG (c.gs.getD (c.gs.length-1-k) gZ))])).length c28]) rfl rfl X9q hB9) ?_;rintro _ w12 ⟨ho,hb⟩;have hold:=hB9;replace hB3:=hB3.only ho (by omega);replace hB5:=hB5.only ho (by omega);replace hB20:=hB20.only ho (Blk.ne hB20 hold rfl);replace ho28:=ho28.onlyT ho hold rfl;replace hW:=Below.only hW ho hlo9;clear hold;have hB9:=hb;clear hb ho;refine Zn fun a hf=>?_;refine X5 ?_;refine hK25 _ _ ?_;refine Zr hf ?_;refine Zm rfl<|Ze (Vx (X16 rfl rfl (by omega) (by omega)) (show _=(bkN (c.gs.getD (c.gs.length-1-k) gZ)-((j+1:Nat) : Int)) from (by omega)))<|Za rfl ?_;refine Zn fun a hf=>?_;refine X8 ?_;exact ⟨(j+1,l2++([(bkG (c.gs.getD (c.gs.length-1-k) gZ))])),⟨A28,c28,hf.sub ⟨rfl,rfl,rfl,rfl,rfl,rfl,trivial⟩,(by omega),(by rw [hl2,Xag,List.append_assoc]),(by simp;omega),hB3,hB5,hB9,hB20,ho28,haw28_20,hW⟩,(by first|omega|(dsimp only;omega))⟩
  have hc24b:=hc24;have hc24:=of_decide_eq_false hc24
  have hjx:bkN (c.gs.getD (c.gs.length-1-k) gZ)≤(j:Int):=by have:=hc24;omega
  refine wp_exit ?_;refine Xh ?_;refine Xh ?_;refine Xt ?_;refine X5 ?_;refine hK16 _ _ ?_;refine Zr hf ?_;refine Zm rfl<|Ze (Vx (X16 rfl rfl (by omega) (by omega)) (show _=((c.gs.length:Int)-1-((k+1:Nat) : Int)) from (by omega)))<|Za rfl ?_;refine Zn fun a hf=>?_;refine X8 ?_;exact ⟨(k+1,l2),⟨A21,c21,hf.sub ⟨rfl,rfl,rfl,rfl,trivial⟩,(by omega),(by rw [X9z hki,hl2,← hl,show (bkN (c.gs.getD (c.gs.length-1-k) gZ)).toNat=j from by have:=hjx;omega]),(by omega),hB3,hB5,hB9,ho21,hW⟩,(by first|omega|(dsimp only;omega))⟩
 have hc15b:=hc15;have hc15:=of_decide_eq_false hc15
 have hkx:k=c.gs.length:=by have:=hc15;omega
 have hfin:l=invL c.gs:=by rw [hl,hkx,← List.length_reverse,List.take_length];rfl
 refine wp_exit ?_;refine Xh ?_;refine Xh ?_;refine Xt ?_;refine hK10 _ _ ?_;refine Zs hf fun _ hK29=>?_;refine Ze (Vn X0s hB9) ?_;refine Zo (Vw [vi c.n,.slice A12 l.length c12] X1q hB5) ?_;rintro _ w13 ⟨ho,hb⟩;have hold:=hB5;replace hB3:=hB3.only ho (by omega);replace hB9:=hB9.only ho (by omega);replace ho12:=ho12.onlyT ho hold rfl;replace hW:=Below.only hW ho hlo5;clear hold;have hB5:=hb;clear hb ho;refine Zt hK29 fun a hf=>?_
 refine wp_ret (X4 hf (X01 hf rfl (ResV.cellN (l:=[vi c.n,.slice A12 l.length c12]) rfl X0s (hB5.at 0) rfl)) ?_)
 have hl9:=hfin
 subst hl9
 exact ⟨A12,c12,rfl,ho12,hW⟩
theorem Xpd(w0:World)(c:Cx)(Ac:Option Addr)(cc:Nat)(hr_c:Rd w0 w0.heap.size 114 encG Ac c.gs)(hln0:c.gs.length≤2000000) : Ret Tryz.prog 49 [.agg #[vi c.n,.slice Ac c.gs.length cc]] w0 (fun v w=>∃ A c1,v=.tuple #[.agg #[vi ((invO c).getD cZ).n,.slice A ((invO c).getD cZ).gs.length c1],.bool (invO c).isSome]∧Own w w0.heap.size 114 3 encG A c1 ((invO c).getD cZ).gs∧Below w0.heap.size w0 w):=by
 refine enter Tryz.func49 rfl 17 rfl rfl ?_;intro a hf
 have hW:Below w0.heap.size w0 w0:=Below.refl _ _
 refine Zs hf fun _ hK2=>?_;refine Zf (X0t (zs:=[vi c.n,.slice Ac c.gs.length cc]) rfl rfl) ?_;rintro _ w1 ⟨b3,rfl,hl3,hE,hB3⟩;have hlo3:=Nat.le_trans hW.size hl3;replace hW:=btr hW hE;refine Zf (X6 (zs:=[vi 0,.slice none 0 0]) X40 rfl) ?_;rintro _ w2 ⟨b5,rfl,hl5,hE,hB5⟩
 have hne3_5:b3≠b5:=by have:=hB3.lt;omega
 have hlo5:=Nat.le_trans hW.size hl5;replace hB3:=hB3.below hE;replace hW:=btr hW hE;refine Za rfl ?_;refine Zt hK2 fun a hf=>?_;refine wp_seq_k fun _ hK6=>?_;refine Zs hf fun _ hK7=>?_;refine Ze (Vn X0s hB3) ?_;refine Zf (Vc (F53 _ c Ac cc (hr_c.below' hW).top) Xgu) ?_;rintro _ w3 ⟨rfl,hE⟩;replace hB3:=hB3.below hE;replace hB5:=hB5.below hE;replace hW:=btr hW hE;refine Ze (X1d rfl) ?_;refine Zt hK7 fun a hf=>?_
 refine X9 hf rfl (fun hc8=>?_) (fun hc8=>?_)
 ·have hc8b:=hc8
  have hv9:cOk c=false:=by have:=hc8;simpa using this
  have hfin:invO c=none:=by unfold invO;rw [hv9];rfl
  refine Zs hf fun _ hK9=>?_;refine Ze (Xz (ps:=[]) (cs:=[vi 0,.slice none 0 0]) rfl (fun _=>by first|rfl|kernel_rfl)) ?_;refine Zo (Vw [vi 0,.slice none 0 0] X1q hB5) ?_;rintro _ w4 ⟨ho,hb⟩;have hold:=hB5;replace hB3:=hB3.only ho (by omega);replace hW:=Below.only hW ho hlo5;clear hold;have hB5:=hb;clear hb ho;refine Za rfl ?_;refine Zt hK9 fun a hf=>?_;refine wp_ret ?_;refine X3 ?_;refine X4 hf (X2l hf rfl (ResV.cellN (l:=[vi 0,.slice none 0 0]) rfl X0s (hB5.at 0) rfl) rfl) ?_
  rw [hfin]
  exact ⟨none,0,rfl,(Own.nil _ _ _ _ _),hW⟩
 have hc8b:=hc8
 have hv9:cOk c=true:=by have:=hc8;simpa using this
 refine wp_skip ?_;refine hK6 _ _ ?_;refine Zs hf fun _ hK11=>?_;refine Ze (Vn X0s hB3) ?_;refine Zf (Vc (Xpm _ c Ac cc (hr_c.below' hW).top (by have:=X2h.1 hv9;omega)) Xi5) ?_;rintro _ w5 ⟨A12,c12,rfl,ho12,hE⟩;replace ho12:=ho12.lower hW.size;replace hB3:=hB3.below hE;replace hB5:=hB5.below hE;replace hW:=btr hW hE;refine Zf (X6 (zs:=[vi 0,.slice none 0 0]) X40 rfl) ?_;rintro _ w6 ⟨b14,rfl,hl14,hE,hB14⟩
 have hne3_14:b3≠b14:=by have:=hB3.lt;omega
 have hne5_14:b5≠b14:=by have:=hB5.lt;omega
 have hlo14:=Nat.le_trans hW.size hl14;replace hB3:=hB3.below hE;replace hB5:=hB5.below hE;replace ho12:=ho12.below hE;replace hW:=btr hW hE;refine Zo (Vw [vi c.n,.slice A12 (invL c.gs).length c12] X1q hB14) ?_;rintro _ w7 ⟨ho,hb⟩;have hold:=hB14;replace hB3:=hB3.only ho (by omega);replace hB5:=hB5.only ho (by omega);replace ho12:=ho12.onlyT ho hold rfl;replace hW:=Below.only hW ho hlo14;clear hold;have hB14:=hb;clear hb ho;refine Zt hK11 fun a hf=>?_;refine wp_seq_k fun _ hK15=>?_;refine Zs hf fun _ hK16=>?_;refine Ze (Vd rfl X0z 1)<|Ze (X0 rfl X25 (hB14.at 1))<|Ze (X0x rfl X13)<|Ze (X4m rfl rfl) ?_;refine Zt hK16 fun a hf=>?_
 refine X9 hf rfl (fun hc17=>?_) (fun hc17=>?_)
 ·have hc17b:=hc17;have hc17:=of_decide_eq_true hc17
  have hfin:invO c=none:=by unfold invO;rw [if_neg];have:=hc17;simp [hv9];omega
  refine Zs hf fun _ hK18=>?_;refine Ze (Xz (ps:=[]) (cs:=[vi 0,.slice none 0 0]) rfl (fun _=>by first|rfl|kernel_rfl)) ?_;refine Zo (Vw [vi 0,.slice none 0 0] X1q hB5) ?_;rintro _ w8 ⟨ho,hb⟩;have hold:=hB5;replace hB14:=hB14.only ho (by omega);replace ho12:=ho12.onlyT ho hold rfl;replace hW:=Below.only hW ho hlo5;clear hold;have hB5:=hb;clear hb ho;refine Za rfl ?_;refine Zt hK18 fun a hf=>?_;refine wp_ret ?_;refine X3 ?_;refine X4 hf (X2l hf rfl (ResV.cellN (l:=[vi 0,.slice none 0 0]) rfl X0s (hB5.at 0) rfl) rfl) ?_
  rw [hfin]
  exact ⟨none,0,rfl,(Own.nil _ _ _ _ _),hW⟩
 have hc17b:=hc17;have hc17:=of_decide_eq_false hc17
 have hfin:invO c=some ⟨c.n,invL c.gs⟩:=by unfold invO;rw [if_pos];have:=hc17;simp [hv9];omega
 refine wp_skip ?_;refine hK15 _ _ ?_;refine Zs hf fun _ hK20=>?_;refine Ze (Vn X0s hB14) ?_;refine Zo (Vw [vi c.n,.slice A12 (invL c.gs).length c12] X1q hB5) ?_;rintro _ w9 ⟨ho,hb⟩;have hold:=hB5;replace hB14:=hB14.only ho (by omega);replace ho12:=ho12.onlyT ho hold rfl;replace hW:=Below.only hW ho hlo5;clear hold;have hB5:=hb;clear hb ho;refine Za rfl ?_;refine Zt hK20 fun a hf=>?_
 refine wp_ret (X4 hf (X2l hf rfl (ResV.cellN (l:=[vi c.n,.slice A12 (invL c.gs).length c12]) rfl X0s (hB5.at 0) rfl) rfl) ?_)
 rw [hfin]
 exact ⟨A12,c12,rfl,ho12,hW⟩
theorem Xpz(w0:World)(p:Cx)(Ap:Option Addr)(cp:Nat)(hr_p:Rd w0 w0.heap.size 114 encG Ap p.gs)(q:Cx)(Aq:Option Addr)(cq:Nat)(hr_q:Rd w0 w0.heap.size 114 encG Aq q.gs)(hlp:p.gs.length≤2000000)(hlq:q.gs.length≤2000000) : Ret Tryz.prog 34 [.agg #[vi p.n,.slice Ap p.gs.length cp],.agg #[vi q.n,.slice Aq q.gs.length cq]] w0 (fun v w=>∃ A c1,v=.tuple #[.agg #[vi ((conO p q).getD cZ).n,.slice A ((conO p q).getD cZ).gs.length c1],.bool (conO p q).isSome]∧Own w w0.heap.size 114 3 encG A c1 ((conO p q).getD cZ).gs∧Below w0.heap.size w0 w):=by
 refine enter Tryz.func34 rfl 42 rfl rfl ?_;intro a hf
 have hW:Below w0.heap.size w0 w0:=Below.refl _ _
 refine Zs hf fun _ hK3=>?_;refine Zf (X0t (zs:=[vi p.n,.slice Ap p.gs.length cp]) rfl rfl) ?_;rintro _ w1 ⟨b4,rfl,hl4,hE,hB4⟩;have hlo4:=Nat.le_trans hW.size hl4;replace hW:=btr hW hE;refine Zf (X0t (zs:=[vi q.n,.slice Aq q.gs.length cq]) rfl rfl) ?_;rintro _ w2 ⟨b5,rfl,hl5,hE,hB5⟩
 have hne4_5:b4≠b5:=by have:=hB4.lt;omega
 have hlo5:=Nat.le_trans hW.size hl5;replace hB4:=hB4.below hE;replace hW:=btr hW hE;refine Zf (X6 (zs:=[vi 0,.slice none 0 0]) X40 rfl) ?_;rintro _ w3 ⟨b7,rfl,hl7,hE,hB7⟩
 have hne4_7:b4≠b7:=by have:=hB4.lt;omega
 have hne5_7:b5≠b7:=by have:=hB5.lt;omega
 have hlo7:=Nat.le_trans hW.size hl7;replace hB4:=hB4.below hE;replace hB5:=hB5.below hE;replace hW:=btr hW hE;refine Za rfl ?_;refine Zt hK3 fun a hf=>?_;refine wp_seq_k fun _ hK8=>?_;refine wp_seq_k fun _ hK9=>?_;refine X0u (fun a w=>Fr a 42 [(2,.pointer (some ⟨b4,0,none⟩)),(3,.pointer (some ⟨b5,0,none⟩)),(4,.pointer (some ⟨b7,0,none⟩)),(31,.bool ((((!(cOk p))||(!(cOk q)))||(p.n != q.n))||(decide (400<((p.gs.length:Int)+(q.gs.length:Int))))))]∧Below w3.heap.size w3 w) ?_ ?_
 ·have hEc:Below w3.heap.size w3 w3:=Below.refl _ _
  refine Zr hf ?_;refine Ze (Vn X0s hB4) ?_;refine Zf (Vc (F53 _ p Ap cp (hr_p.below' hW).top) Xgu) ?_;rintro _ w4 ⟨rfl,hE⟩;replace hB4:=hB4.below hE;replace hB5:=hB5.below hE;replace hB7:=hB7.below hE;replace hW:=btr hW hE;replace hEc:=btr hEc hE;refine Ze (X1d rfl)<|Zm rfl ?_
  refine Zg 10 rfl (fun hg10=>?_) (fun hg10=>?_)
  ·refine Zp ⟨_,_,rfl,rfl,hg10⟩ ?_;refine Zp ⟨_,_,rfl,rfl,hg10⟩ ?_;refine Zp ⟨_,_,rfl,rfl,hg10⟩ ?_;refine Ze (Xb rfl hg10 rfl)<|Zm rfl<|Zp ⟨_,_,rfl,rfl,rfl⟩ ?_;refine Zp ⟨_,_,rfl,rfl,rfl⟩ ?_;refine Zp ⟨_,_,rfl,rfl,rfl⟩ ?_;refine Zp ⟨_,_,rfl,rfl,rfl⟩ ?_;refine Zp ⟨_,_,rfl,rfl,rfl⟩ ?_;refine Ze (Xb rfl rfl rfl)<|Zm rfl<|Zp ⟨_,_,rfl,rfl,rfl⟩ ?_;refine Zp ⟨_,_,rfl,rfl,rfl⟩ ?_;refine Zp ⟨_,_,rfl,rfl,rfl⟩ ?_;refine Zp ⟨_,_,rfl,rfl,rfl⟩ ?_;refine Zp ⟨_,_,rfl,rfl,rfl⟩ ?_;refine Zp ⟨_,_,rfl,rfl,rfl⟩ ?_;refine Zp ⟨_,_,rfl,rfl,rfl⟩ ?_;refine Zp ⟨_,_,rfl,rfl,rfl⟩ ?_;refine Ze (Xb rfl rfl rfl) ?_;refine Zn fun a hf=>?_
   have hEE:Below w3.heap.size w3 w4:=hEc
   exact ⟨hf.sub ⟨rfl,rfl,rfl,X1 rfl (by first|rfl|(simp only [hg10,bs];done)|simp [hg10]),trivial⟩,hEE⟩
  refine Zv ⟨_,_,rfl,rfl,hg10⟩ (Vn X0s hB5) ?_;refine Zk ⟨_,_,rfl,rfl,hg10⟩ (Vc (F53 _ q Aq cq (hr_q.below' hW).top) Xgu) ?_;rintro _ w5 ⟨rfl,hE⟩;replace hB4:=hB4.below hE;replace hB5:=hB5.below hE;replace hB7:=hB7.below hE;replace hW:=btr hW hE;replace hEc:=btr hEc hE;refine Zv ⟨_,_,rfl,rfl,hg10⟩ (X1d rfl) ?_;refine Ze (Xo rfl hg10 rfl)<|Zm rfl ?_
  refine Zg 15 rfl (fun hg11=>?_) (fun hg11=>?_)
  ·refine Zp ⟨_,_,rfl,rfl,hg11⟩ ?_;refine Zp ⟨_,_,rfl,rfl,hg11⟩ ?_;refine Zp ⟨_,_,rfl,rfl,hg11⟩ ?_;refine Zp ⟨_,_,rfl,rfl,hg11⟩ ?_;refine Zp ⟨_,_,rfl,rfl,hg11⟩ ?_;refine Ze (Xb rfl hg11 rfl)<|Zm rfl<|Zp ⟨_,_,rfl,rfl,rfl⟩ ?_;refine Zp ⟨_,_,rfl,rfl,rfl⟩ ?_;refine Zp ⟨_,_,rfl,rfl,rfl⟩ ?_;refine Zp ⟨_,_,rfl,rfl,rfl⟩ ?_;refine Zp ⟨_,_,rfl,rfl,rfl⟩ ?_;refine Zp ⟨_,_,rfl,rfl,rfl⟩ ?_;refine Zp ⟨_,_,rfl,rfl,rfl⟩ ?_;refine Zp ⟨_,_,rfl,rfl,rfl⟩ ?_;refine Ze (Xb rfl rfl rfl) ?_;refine Zn fun a hf=>?_
   have hEE:Below w3.heap.size w3 w5:=hEc
   exact ⟨hf.sub ⟨rfl,rfl,rfl,X1 rfl (by first|rfl|(simp only [hg10,hg11,bs];done)|simp [hg10,hg11]),trivial⟩,hEE⟩
  refine Zv ⟨_,_,rfl,rfl,hg11⟩ (Vd rfl X1g 0) ?_;refine Zv ⟨_,_,rfl,rfl,hg11⟩ (X0 rfl X2 (hB4.at 0)) ?_;refine Zv ⟨_,_,rfl,rfl,hg11⟩ (Vd rfl X1g 0) ?_;refine Zv ⟨_,_,rfl,rfl,hg11⟩ (X0 rfl X2 (hB5.at 0)) ?_;refine Zv ⟨_,_,rfl,rfl,hg11⟩ (X3k rfl rfl) ?_;refine Ze (Xo rfl hg11 rfl)<|Zm rfl ?_
  refine Zg 22 rfl (fun hg12=>?_) (fun hg12=>?_)
  ·refine Zp ⟨_,_,rfl,rfl,hg12⟩ ?_;refine Zp ⟨_,_,rfl,rfl,hg12⟩ ?_;refine Zp ⟨_,_,rfl,rfl,hg12⟩ ?_;refine Zp ⟨_,_,rfl,rfl,hg12⟩ ?_;refine Zp ⟨_,_,rfl,rfl,hg12⟩ ?_;refine Zp ⟨_,_,rfl,rfl,hg12⟩ ?_;refine Zp ⟨_,_,rfl,rfl,hg12⟩ ?_;refine Zp ⟨_,_,rfl,rfl,hg12⟩ ?_;refine Ze (Xb rfl hg12 rfl) ?_;refine Zn fun a hf=>?_
   have hEE:Below w3.heap.size w3 w5:=hEc
   exact ⟨hf.sub ⟨rfl,rfl,rfl,X1 rfl (by first|rfl|(simp only [hg10,hg11,hg12,bs];done)|simp [hg10,hg11,hg12]),trivial⟩,hEE⟩
  refine Zv ⟨_,_,rfl,rfl,hg12⟩ (Vd rfl X0z 1) ?_;refine Zv ⟨_,_,rfl,rfl,hg12⟩ (X0 rfl X25 (hB4.at 1)) ?_;refine Zv ⟨_,_,rfl,rfl,hg12⟩ (X0x rfl X13) ?_;refine Zv ⟨_,_,rfl,rfl,hg12⟩ (Vd rfl X0z 1) ?_;refine Zv ⟨_,_,rfl,rfl,hg12⟩ (X0 rfl X25 (hB5.at 1)) ?_;refine Zv ⟨_,_,rfl,rfl,hg12⟩ (X0x rfl X13) ?_;refine Zv ⟨_,_,rfl,rfl,hg12⟩ (Xu rfl rfl (by omega) (by omega)) ?_;refine Zv ⟨_,_,rfl,rfl,hg12⟩ (X4m rfl rfl) ?_;refine Ze (Xo rfl hg12 rfl) ?_;refine Zn fun a hf=>?_
  have hEE:Below w3.heap.size w3 w5:=hEc
  exact ⟨hf.sub ⟨rfl,rfl,rfl,X1 rfl (by first|rfl|(simp only [hg10,hg11,hg12,bs];done)|simp [hg10,hg11,hg12]),trivial⟩,hEE⟩
 rintro a w6 ⟨hf,hE⟩;replace hB4:=hB4.below hE;replace hB5:=hB5.below hE;replace hB7:=hB7.below hE;replace hW:=btr hW hE;refine hK9 _ _ ?_
 refine X9 hf rfl (fun hc13=>?_) (fun hc13=>?_)
 ·have hc13b:=hc13
  have hfin:conO p q=none:=by unfold conO;have h7:=hc13;rw [if_neg];revert h7;cases cOk p<;>cases cOk q<;>simp<;>omega
  refine Zs hf fun _ hK14=>?_;refine Ze (Xz (ps:=[]) (cs:=[vi 0,.slice none 0 0]) rfl (fun _=>by first|rfl|kernel_rfl)) ?_;refine Zo (Vw [vi 0,.slice none 0 0] X1q hB7) ?_;rintro _ w7 ⟨ho,hb⟩;have hold:=hB7;replace hB4:=hB4.only ho (by omega);replace hB5:=hB5.only ho (by omega);replace hW:=Below.only hW ho hlo7;clear hold;have hB7:=hb;clear hb ho;refine Za rfl ?_;refine Zt hK14 fun a hf=>?_;refine wp_ret ?_;refine X3 ?_;refine X4 hf (X2l hf rfl (ResV.cellN (l:=[vi 0,.slice none 0 0]) rfl X0s (hB7.at 0) rfl) rfl) ?_
  rw [hfin]
  exact ⟨none,0,rfl,(Own.nil _ _ _ _ _),hW⟩
 have hc13b:=hc13
 have hfin:conO p q=some ⟨p.n,p.gs++q.gs⟩:=by unfold conO;have h7:=hc13;rw [if_pos];revert h7;cases cOk p<;>cases cOk q<;>simp<;>omega
 refine wp_skip ?_;refine hK8 _ _ ?_;refine Zs hf fun _ hK16=>?_;refine Ze (Vn X0s hB4) ?_;refine Zf (Vc (Xoe _ p Ap cp (hr_p.below' hW).top (by omega)) Xka) ?_;rintro _ w8 ⟨A17,c17,rfl,ho17,hE⟩;replace ho17:=ho17.lower hW.size;replace hB4:=hB4.below hE;replace hB5:=hB5.below hE;replace hB7:=hB7.below hE;replace hW:=btr hW hE;refine Zf (X6 (zs:=[vi 0,.slice none 0 0]) X40 rfl) ?_;rintro _ w9 ⟨b19,rfl,hl19,hE,hB19⟩
 have hne4_19:b4≠b19:=by have:=hB4.lt;omega
 have hne5_19:b5≠b19:=by have:=hB5.lt;omega
 have hne7_19:b7≠b19:=by have:=hB7.lt;omega
 have hlo19:=Nat.le_trans hW.size hl19;replace hB4:=hB4.below hE;replace hB5:=hB5.below hE;replace hB7:=hB7.below hE;replace ho17:=ho17.below hE;replace hW:=btr hW hE;refine Zo (Vw [vi p.n,.slice A17 p.gs.length c17] X1q hB19) ?_;rintro _ w10 ⟨ho,hb⟩;have hold:=hB19;replace hB4:=hB4.only ho (by omega);replace hB5:=hB5.only ho (by omega);replace hB7:=hB7.only ho (by omega);replace ho17:=ho17.onlyT ho hold rfl;replace hW:=Below.only hW ho hlo19;clear hold;have hB19:=hb;clear hb ho;refine Zt hK16 fun a hf=>?_;refine Zs hf fun _ hK20=>?_;refine Ze (Vd rfl X0z 1)<|Ze (X0 rfl X25 (hB19.at 1))<|Ze (Vd rfl X0z 1)<|Ze (X0 rfl X25 (hB5.at 1)) ?_;refine Zf (X11 (enc:=encG) (l:=(p.gs)) (l2:=(q.gs)) (B0:=w0.heap.size) rfl rfl X13 X1s X0w X2o ho17 (hr_q.below' hW) (by simp only [maxLen];omega) (by omega) hW.size) ?_;rintro _ w11 ⟨A21,c21,rfl,ho21,hg,hat⟩
 have hown:Own _ w0.heap.size 114 3 encG _ _ (p.gs):=ho17
 clear hat;replace hB5:=hB5.appT hown hg rfl;replace hB7:=hB7.appT hown hg rfl;replace hB19:=hB19.appT hown hg rfl;replace hW:=Below.app hW hown hg (Nat.le_refl _) hW.size;clear hown hg;refine Ze (Vd rfl X0z 1) ?_;refine Zo (Vu (vs:=[.slice A21 (p.gs++q.gs).length c21]) (l':=[vi p.n,.slice A21 (p.gs++q.gs).length c21]) rfl rfl X9q hB19) ?_;rintro _ w12 ⟨ho,hb⟩;have hold:=hB19;replace hB5:=hB5.only ho (by omega);replace hB7:=hB7.only ho (by omega);replace ho21:=ho21.onlyT ho hold rfl;replace hW:=Below.only hW ho hlo19;clear hold;have hB19:=hb;clear hb ho;refine Zt hK20 fun a hf=>?_;refine Zs hf fun _ hK22=>?_;refine Ze (Vn X0s hB19) ?_;refine Zo (Vw [vi p.n,.slice A21 (p.gs++q.gs).length c21] X1q hB7) ?_;rintro _ w13 ⟨ho,hb⟩;have hold:=hB7;replace hB19:=hB19.only ho (by omega);replace ho21:=ho21.onlyT ho hold rfl;replace hW:=Below.only hW ho hlo7;clear hold;have hB7:=hb;clear hb ho;refine Za rfl ?_;refine Zt hK22 fun a hf=>?_
 refine wp_ret (X4 hf (X2l hf rfl (ResV.cellN (l:=[vi p.n,.slice A21 (p.gs++q.gs).length c21]) rfl X0s (hB7.at 0) rfl) rfl) ?_)
 rw [hfin]
 exact ⟨A21,c21,rfl,ho21,hW⟩
theorem Xp2(w0:World)(p:Cx)(Ap:Option Addr)(cp:Nat)(hr_p:Rd w0 w0.heap.size 114 encG Ap p.gs)(q:Cx)(Aq:Option Addr)(cq:Nat)(hr_q:Rd w0 w0.heap.size 114 encG Aq q.gs)(hlp:p.gs.length≤2000000)(hlq:q.gs.length≤2000000) : Ret Tryz.prog 17 [.agg #[vi p.n,.slice Ap p.gs.length cp],.agg #[vi q.n,.slice Aq q.gs.length cq]] w0 (fun v w=>v=.tuple #[vi ((veM p q).1),vi ((veM p q).2.1),.bool ((veM p q).2.2)]∧Below w0.heap.size w0 w):=by
 refine enter Tryz.func17 rfl 51 rfl rfl ?_;intro a hf
 have hW:Below w0.heap.size w0 w0:=Below.refl _ _
 refine Zs hf fun _ hK3=>?_;refine Zf (X0t (zs:=[vi p.n,.slice Ap p.gs.length cp]) rfl rfl) ?_;rintro _ w1 ⟨b4,rfl,hl4,hE,hB4⟩;have hlo4:=Nat.le_trans hW.size hl4;replace hW:=btr hW hE;refine Zf (X0t (zs:=[vi q.n,.slice Aq q.gs.length cq]) rfl rfl) ?_;rintro _ w2 ⟨b5,rfl,hl5,hE,hB5⟩
 have hne4_5:b4≠b5:=by have:=hB4.lt;omega
 have hlo5:=Nat.le_trans hW.size hl5;replace hB4:=hB4.below hE;replace hW:=btr hW hE;refine Za rfl<|Za rfl<|Za rfl ?_;refine Zt hK3 fun a hf=>?_;refine Zs hf fun _ hK6=>?_;refine Ze (Vn X0s hB5) ?_;refine Zf (Vc (Xpd _ q Aq cq (hr_q.below' hW).top hlq) Xix) ?_;rintro _ w3 ⟨A7,c7,rfl,ho7,hE⟩;replace ho7:=ho7.lower hW.size;replace hB4:=hB4.below hE;replace hB5:=hB5.below hE;replace hW:=btr hW hE;refine Zm rfl<|Ze (Xg (vs:=[.agg #[vi (((invO q).getD cZ).n),.slice A7 (((invO q).getD cZ).gs).length c7],.bool ((invO q).isSome)]) rfl rfl)<|Ze (Xg (vs:=[.agg #[vi (((invO q).getD cZ).n),.slice A7 (((invO q).getD cZ).gs).length c7],.bool ((invO q).isSome)]) rfl rfl) ?_;refine Zf (X6 (zs:=[vi 0,.slice none 0 0]) X40 rfl) ?_;rintro _ w4 ⟨b9,rfl,hl9,hE,hB9⟩
 have hne4_9:b4≠b9:=by have:=hB4.lt;omega
 have hne5_9:b5≠b9:=by have:=hB5.lt;omega
 have hlo9:=Nat.le_trans hW.size hl9;replace hB4:=hB4.below hE;replace hB5:=hB5.below hE;replace ho7:=ho7.below hE;replace hW:=btr hW hE;refine Zo (Vw [vi (((invO q).getD cZ).n),.slice A7 (((invO q).getD cZ).gs).length c7] X1q hB9) ?_;rintro _ w5 ⟨ho,hb⟩;have hold:=hB9;replace hB4:=hB4.only ho (by omega);replace hB5:=hB5.only ho (by omega);replace ho7:=ho7.onlyT ho hold rfl;replace hW:=Below.only hW ho hlo9;clear hold;have hB9:=hb;clear hb ho;refine Za rfl ?_;refine Zt hK6 fun a hf=>?_;refine Zs hf fun _ hK10=>?_;refine Ze (Vn X0s hB4)<|Ze (Vn X0s hB9) ?_;refine Zf (Vc (Xpz _ p Ap cp (hr_p.below' hW).top ((invO q).getD cZ) A7 c7 ho7.rd.top hlp (Xdd q)) Xiu) ?_;rintro _ w6 ⟨A11,c11,rfl,ho11,hE⟩;replace ho11:=ho11.lower hW.size;replace hB4:=hB4.below hE;replace hB9:=hB9.below hE;replace ho7:=ho7.below hE;replace hW:=btr hW hE;refine Zm rfl<|Ze (Xg (vs:=[.agg #[vi (((conO p ((invO q).getD cZ)).getD cZ).n),.slice A11 (((conO p ((invO q).getD cZ)).getD cZ).gs).length c11],.bool ((conO p ((invO q).getD cZ)).isSome)]) rfl rfl)<|Ze (Xg (vs:=[.agg #[vi (((conO p ((invO q).getD cZ)).getD cZ).n),.slice A11 (((conO p ((invO q).getD cZ)).getD cZ).gs).length c11],.bool ((conO p ((invO q).getD cZ)).isSome)]) rfl rfl) ?_;refine Zf (X6 (zs:=[vi 0,.slice none 0 0]) X40 rfl) ?_;rintro _ w7 ⟨b13,rfl,hl13,hE,hB13⟩
 have hne4_13:b4≠b13:=by have:=hB4.lt;omega
 have hne9_13:b9≠b13:=by have:=hB9.lt;omega
 have hlo13:=Nat.le_trans hW.size hl13;replace hB4:=hB4.below hE;replace hB9:=hB9.below hE;replace ho7:=ho7.below hE;replace ho11:=ho11.below hE;replace hW:=btr hW hE;refine Zo (Vw [vi (((conO p ((invO q).getD cZ)).getD cZ).n),.slice A11 (((conO p ((invO q).getD cZ)).getD cZ).gs).length c11] X1q hB13) ?_;rintro _ w8 ⟨ho,hb⟩;have hold:=hB13;replace hB4:=hB4.only ho (by omega);replace hB9:=hB9.only ho (by omega);replace ho7:=ho7.onlyT ho hold rfl;replace ho11:=ho11.onlyT ho hold rfl;replace hW:=Below.only hW ho hlo13;clear hold;have hB13:=hb;clear hb ho;refine Za rfl ?_;refine Zt hK10 fun a hf=>?_;refine wp_seq_k fun _ hK14=>?_;refine wp_seq_k fun _ hK15=>?_;refine X0u (fun a w=>Fr a 51 [(9,.pointer (some ⟨b13,0,none⟩)),(29,.bool ((!((invO q).isSome))||(!((conO p ((invO q).getD cZ)).isSome))))]∧w8=w) ?_ ?_
 ·refine Zr hf ?_;refine Zm rfl<|Ze (X1d rfl)<|Zm rfl ?_
  refine Zg 26 rfl (fun hg16=>?_) (fun hg16=>?_)
  ·refine Zp ⟨_,_,rfl,rfl,hg16⟩ ?_;refine Zp ⟨_,_,rfl,rfl,hg16⟩ ?_;refine Ze (Xb rfl hg16 rfl) ?_;refine Zn fun a hf=>?_;exact ⟨hf.sub ⟨rfl,X1 rfl (by first|rfl|(simp only [hg16,bs];done)|simp [hg16]),trivial⟩,rfl⟩
  refine Zv ⟨_,_,rfl,rfl,hg16⟩ (Xa rfl) ?_;refine Zv ⟨_,_,rfl,rfl,hg16⟩ (X1d rfl) ?_;refine Ze (Xo rfl hg16 rfl) ?_;refine Zn fun a hf=>?_;exact ⟨hf.sub ⟨rfl,X1 rfl (by first|rfl|(simp only [hg16,bs];done)|simp [hg16]),trivial⟩,rfl⟩
 rintro a _ ⟨hf,rfl⟩;refine hK15 _ _ ?_
 refine X9 hf rfl (fun hc17=>?_) (fun hc17=>?_)
 ·have hc17b:=hc17;have hfin:=Xjq hc17;refine Zs hf fun _ hK18=>?_;refine Za rfl<|Za rfl<|Za rfl ?_;refine Zt hK18 fun a hf=>?_;refine wp_ret ?_;refine X3 ?_;refine X4 hf (X27 hf rfl rfl rfl rfl) ?_
  rw [hfin]
  exact ⟨rfl,hW⟩
 have hc17b:=hc17;obtain ⟨hok9,hve⟩:=Xht hc17;refine wp_skip ?_;refine hK14 _ _ ?_;refine Zs hf fun _ hK19=>?_;refine Ze (Vn X0s hB13) ?_;refine Zf (Vc (Xod _ ((conO p ((invO q).getD cZ)).getD cZ) A11 c11 ho11.rd.top hok9) Xjk) ?_;rintro _ w9 ⟨A20,c20,A21,c21,rfl,hr20,hr21,hE⟩;replace hB13:=hB13.below hE;replace ho11:=ho11.below hE;replace hW:=btr hW hE;refine Zm rfl<|Ze (Xg (vs:=[.agg #[vi (((psC ((conO p ((invO q).getD cZ)).getD cZ)).getD psZ).ins),vi (((psC ((conO p ((invO q).getD cZ)).getD cZ)).getD psZ).vars),vi (((psC ((conO p ((invO q).getD cZ)).getD cZ)).getD psZ).root),vi (((psC ((conO p ((invO q).getD cZ)).getD cZ)).getD psZ).phase),.slice A20 (((psC ((conO p ((invO q).getD cZ)).getD cZ)).getD psZ).ts).length c20,.slice A21 (((psC ((conO p ((invO q).getD cZ)).getD cZ)).getD psZ).out).length c21],.bool ((psC ((conO p ((invO q).getD cZ)).getD cZ)).isSome)]) rfl rfl)<|Ze (Xg (vs:=[.agg #[vi (((psC ((conO p ((invO q).getD cZ)).getD cZ)).getD psZ).ins),vi (((psC ((conO p ((invO q).getD cZ)).getD cZ)).getD psZ).vars),vi (((psC ((conO p ((invO q).getD cZ)).getD cZ)).getD psZ).root),vi (((psC ((conO p ((invO q).getD cZ)).getD cZ)).getD psZ).phase),.slice A20 (((psC ((conO p ((invO q).getD cZ)).getD cZ)).getD psZ).ts).length c20,.slice A21 (((psC ((conO p ((invO q).getD cZ)).getD cZ)).getD psZ).out).length c21],.bool ((psC ((conO p ((invO q).getD cZ)).getD cZ)).isSome)]) rfl rfl) ?_;refine Zf (X6 (zs:=[vi 0,vi 0,vi 0,vi 0,.slice none 0 0,.slice none 0 0]) X15 rfl) ?_;rintro _ w10 ⟨b24,rfl,hl24,hE,hB24⟩;have hlo24:=Nat.le_trans hW.size hl24;replace hB13:=hB13.below hE;replace ho11:=ho11.below hE;replace hr20:=hr20.below hE;replace hr21:=hr21.below hE;replace hW:=btr hW hE;refine Zo (Vw [vi (((psC ((conO p ((invO q).getD cZ)).getD cZ)).getD psZ).ins),vi (((psC ((conO p ((invO q).getD cZ)).getD cZ)).getD psZ).vars),vi (((psC ((conO p ((invO q).getD cZ)).getD cZ)).getD psZ).root),vi (((psC ((conO p ((invO q).getD cZ)).getD cZ)).getD psZ).phase),.slice A20 (((psC ((conO p ((invO q).getD cZ)).getD cZ)).getD psZ).ts).length c20,.slice A21 (((psC ((conO p ((invO q).getD cZ)).getD cZ)).getD psZ).out).length c21] Xw hB24) ?_;rintro _ w11 ⟨ho,hb⟩
 have hold:=hB24;replace hB13:=hB13.only ho (Blk.ne hB13 hold rfl);replace ho11:=ho11.onlyT ho hold rfl;replace hr20:=hr20.onlyT ho hold rfl;replace hr21:=hr21.onlyT ho hold rfl;replace hW:=Below.only hW ho hlo24;clear hold;have hB24:=hb;clear hb ho;refine Za rfl ?_;refine Zt hK19 fun a hf=>?_;refine wp_seq_k fun _ hK25=>?_;refine Zs hf fun _ hK26=>?_;refine Zm rfl<|Ze (X1d rfl) ?_;refine Zt hK26 fun a hf=>?_
 refine X9 hf rfl (fun hc27=>?_) (fun hc27=>?_)
 ·have hc27b:=hc27
  have hfin:veM p q=(0,0,false):=hve.trans (Xl7 (by have h7:=hc27;simpa using h7))
  refine Zs hf fun _ hK28=>?_;refine Za rfl<|Za rfl<|Za rfl ?_;refine Zt hK28 fun a hf=>?_;refine wp_ret ?_;refine X3 ?_;refine X4 hf (X27 hf rfl rfl rfl rfl) ?_
  rw [hfin]
  exact ⟨rfl,hW⟩
 have hc27b:=hc27
 have hpc:=X42 (d:=psZ) (o:=psC ((conO p ((invO q).getD cZ)).getD cZ)) (by have h7:=hc27;simpa using h7)
 have hvd:=X8k hok9 hpc;have hvr:=X8o hvd
 have hfn:veM p q=veP ((psC ((conO p ((invO q).getD cZ)).getD cZ)).getD psZ):=hve.trans (Xkq hpc)
 refine wp_skip ?_;refine hK25 _ _ ?_;refine Zs hf fun _ hK29=>?_;refine Ze (Vn Xe hB24) ?_;refine Zf (Vc (Xog _ ((psC ((conO p ((invO q).getD cZ)).getD cZ)).getD psZ) A20 c20 hr20.top A21 c21 hr21.top hvd) Xiw) ?_;rintro _ w12 ⟨A30,c30,A31,c31,rfl,hr30,hr31,hE⟩;replace hB24:=hB24.below hE;replace hr20:=hr20.below hE;replace hr21:=hr21.below hE;replace hW:=btr hW hE;refine Zm rfl<|Ze (Xg (vs:=[.agg #[vi (((redP ((psC ((conO p ((invO q).getD cZ)).getD cZ)).getD psZ)).1).ins),vi (((redP ((psC ((conO p ((invO q).getD cZ)).getD cZ)).getD psZ)).1).vars),vi (((redP ((psC ((conO p ((invO q).getD cZ)).getD cZ)).getD psZ)).1).root),vi (((redP ((psC ((conO p ((invO q).getD cZ)).getD cZ)).getD psZ)).1).phase),.slice A30 (((redP ((psC ((conO p ((invO q).getD cZ)).getD cZ)).getD psZ)).1).ts).length c30,.slice A31 (((redP ((psC ((conO p ((invO q).getD cZ)).getD cZ)).getD psZ)).1).out).length c31],vi (((redP ((psC ((conO p ((invO q).getD cZ)).getD cZ)).getD psZ)).2:Nat) : Int)]) rfl rfl)<|Ze (Xg (vs:=[.agg #[vi (((redP ((psC ((conO p ((invO q).getD cZ)).getD cZ)).getD psZ)).1).ins),vi (((redP ((psC ((conO p ((invO q).getD cZ)).getD cZ)).getD psZ)).1).vars),vi (((redP ((psC ((conO p ((invO q).getD cZ)).getD cZ)).getD psZ)).1).root),vi (((redP ((psC ((conO p ((invO q).getD cZ)).getD cZ)).getD psZ)).1).phase),.slice A30 (((redP ((psC ((conO p ((invO q).getD cZ)).getD cZ)).getD psZ)).1).ts).length c30,.slice A31 (((redP ((psC ((conO p ((invO q).getD cZ)).getD cZ)).getD psZ)).1).out).length c31],vi (((redP ((psC ((conO p ((invO q).getD cZ)).getD cZ)).getD psZ)).2:Nat) : Int)]) rfl rfl) ?_;refine Zo (Vw [vi (((redP ((psC ((conO p ((invO q).getD cZ)).getD cZ)).getD psZ)).1).ins),vi (((redP ((psC ((conO p ((invO q).getD cZ)).getD cZ)).getD psZ)).1).vars),vi (((redP ((psC ((conO p ((invO q).getD cZ)).getD cZ)).getD psZ)).1).root),vi (((redP ((psC ((conO p ((invO q).getD cZ)).getD cZ)).getD psZ)).1).phase),.slice A30 (((redP ((psC ((conO p ((invO q).getD cZ)).getD cZ)).getD psZ)).1).ts).length c30,.slice A31 (((redP ((psC ((conO p ((invO q).getD cZ)).getD cZ)).getD psZ)).1).out).length c31] Xw hB24) ?_;rintro _ w13 ⟨ho,hb⟩
 have hold:=hB24;replace hr20:=hr20.onlyT ho hold rfl;replace hr21:=hr21.onlyT ho hold rfl;replace hr30:=hr30.onlyT ho hold rfl;replace hr31:=hr31.onlyT ho hold rfl;replace hW:=Below.only hW ho hlo24;clear hold;have hB24:=hb;clear hb ho;refine Zt hK29 fun a hf=>?_;refine wp_seq_k fun _ hK32=>?_;refine wp_block ?_;refine Zs hf fun _ hK33=>?_;refine Ze (Vn Xe hB24) ?_;refine Zf (Vc (Xpa _ ((redP ((psC ((conO p ((invO q).getD cZ)).getD cZ)).getD psZ)).1) A30 c30 hr30.top A31 c31 hr31.top hvr) Xhf) ?_;rintro _ w14 ⟨rfl,hE⟩;replace hB24:=hB24.below hE;replace hr30:=hr30.below hE;replace hr31:=hr31.below hE;replace hW:=btr hW hE;refine Za rfl ?_;refine Zt hK33 fun a hf=>?_
 refine X9 hf rfl (fun hc34=>?_) (fun hc34=>?_)
 ·have hc34b:=hc34;have hfin:=hfn.trans (ve1 hc34);refine wp_seq_k fun _ hK35=>?_;refine Xv none (fun _=>false) mixed ?_;intro w15 hE;replace hB24:=hB24.below hE;replace hr30:=hr30.below hE;replace hr31:=hr31.below hE;replace hW:=btr hW hE;refine Yb hf ?_;refine Yo 0 rfl (fun _=>Vd rfl X0p 3)<|Ye 1 rfl (X0 rfl X2 (hB24.at 3))<|Yo 2 rfl (fun _=>X1r rfl)<|Yo 3 rfl (fun _=>X1r rfl)<|Yo 4 rfl (fun _=>X1r rfl) ?_;refine Yd fun a hf=>?_;refine hK35 _ _ ?_;refine wp_ret ?_;refine Xm ?_;refine X3 ?_;refine X4 hf (X27 hf rfl rfl rfl rfl) ?_
  rw [hfin]
  exact ⟨rfl,hW⟩
 have hc34b:=hc34;have hi9:=hc34;refine Zs hf fun _ hK36=>?_;refine Ze (Vd rfl X0k 1)<|Ze (X0 rfl X2 (hB24.at 1))<|Ze (X0g rfl rfl)<|Za rfl ?_;refine Zt hK36 fun a hf=>?_
 refine X9 hf rfl (fun hc37=>?_) (fun hc37=>?_)
 ·have hc37b:=hc37
  have hfin:=hfn.trans (ve2 hi9 (by have h7:=hc37;simpa using h7))
  refine Zs hf fun _ hK38=>?_;refine Za rfl<|Za rfl<|Za rfl ?_;refine Zt hK38 fun a hf=>?_;refine wp_ret ?_;refine Xm ?_;refine X3 ?_;refine X4 hf (X27 hf rfl rfl rfl rfl) ?_
  rw [hfin]
  exact ⟨rfl,hW⟩
 have hc37b:=hc37
 have hfin:=hfn.trans (ve3 hi9 (by have h7:=hc37;simpa using h7))
 refine wp_skip ?_;refine X5 ?_;refine hK32 _ _ ?_;refine Zs hf fun _ hK39=>?_;refine Za rfl<|Za rfl<|Za rfl ?_;refine Zt hK39 fun a hf=>?_
 refine wp_ret (X4 hf (X27 hf rfl rfl rfl rfl) ?_)
 rw [hfin]
 exact ⟨rfl,hW⟩
theorem Xq0(w0:World)(p:Cx)(Ap:Option Addr)(cp:Nat)(hr_p:Rd w0 w0.heap.size 114 encG Ap p.gs)(q:Cx)(Aq:Option Addr)(cq:Nat)(hr_q:Rd w0 w0.heap.size 114 encG Aq q.gs)(hlp:p.gs.length≤2000000)(hlq:q.gs.length≤2000000)(hTab:TabAt w0)(h1w:1<w0.heap.size) : Ret Tryz.prog 19 [.agg #[vi p.n,.slice Ap p.gs.length cp],.agg #[vi q.n,.slice Aq q.gs.length cq]] w0 (fun v w=>v=.tuple #[vi ((veM p q).1),vi ((veM p q).2.1),.bool ((veM p q).2.2)]∧Below w0.heap.size w0 w):=by
 refine enter Tryz.func19 rfl 53 rfl rfl ?_;intro a hf
 have hW:Below w0.heap.size w0 w0:=Below.refl _ _
 refine Zs hf fun _ hK3=>?_;refine Zf (X0t (zs:=[vi p.n,.slice Ap p.gs.length cp]) rfl rfl) ?_;rintro _ w1 ⟨b4,rfl,hl4,hE,hB4⟩;have hlo4:=Nat.le_trans hW.size hl4;replace hW:=btr hW hE;refine Zf (X0t (zs:=[vi q.n,.slice Aq q.gs.length cq]) rfl rfl) ?_;rintro _ w2 ⟨b5,rfl,hl5,hE,hB5⟩
 have hne4_5:b4≠b5:=by have:=hB4.lt;omega
 have hlo5:=Nat.le_trans hW.size hl5;replace hB4:=hB4.below hE;replace hW:=btr hW hE;refine Za rfl<|Za rfl<|Za rfl ?_;refine Zt hK3 fun a hf=>?_;refine Zs hf fun _ hK6=>?_;refine Ze (Vn X0s hB4)<|Ze (Vn X0s hB5) ?_;refine Zf (Vc (Xnt _ p Ap cp (hr_p.below' hW).top q Aq cq (hr_q.below' hW).top hlp hlq) Xjn) ?_;rintro _ w3 ⟨A7,c7,rfl,ho7,hE⟩;replace ho7:=ho7.lower hW.size;replace hB4:=hB4.below hE;replace hB5:=hB5.below hE;replace hW:=btr hW hE;refine Zm rfl<|Ze (Xg (vs:=[.agg #[vi (((((invO q).bind (conO p))).getD cZ).n),.slice A7 (((((invO q).bind (conO p))).getD cZ).gs).length c7],.bool ((((invO q).bind (conO p))).isSome)]) rfl rfl)<|Ze (Xg (vs:=[.agg #[vi (((((invO q).bind (conO p))).getD cZ).n),.slice A7 (((((invO q).bind (conO p))).getD cZ).gs).length c7],.bool ((((invO q).bind (conO p))).isSome)]) rfl rfl) ?_;refine Zf (X6 (zs:=[vi 0,.slice none 0 0]) X40 rfl) ?_;rintro _ w4 ⟨b9,rfl,hl9,hE,hB9⟩
 have hne4_9:b4≠b9:=by have:=hB4.lt;omega
 have hne5_9:b5≠b9:=by have:=hB5.lt;omega
 have hlo9:=Nat.le_trans hW.size hl9;replace hB4:=hB4.below hE;replace hB5:=hB5.below hE;replace ho7:=ho7.below hE;replace hW:=btr hW hE;refine Zo (Vw [vi (((((invO q).bind (conO p))).getD cZ).n),.slice A7 (((((invO q).bind (conO p))).getD cZ).gs).length c7] X1q hB9) ?_;rintro _ w5 ⟨ho,hb⟩;have hold:=hB9;replace hB4:=hB4.only ho (by omega);replace hB5:=hB5.only ho (by omega);replace ho7:=ho7.onlyT ho hold rfl;replace hW:=Below.only hW ho hlo9;clear hold;have hB9:=hb;clear hb ho;refine Za rfl ?_;refine Zt hK6 fun a hf=>?_;refine Zs hf fun _ hK10=>?_;refine Ze (Vn X0s hB9) ?_;refine Zf (Vc (Xny _ ((((invO q).bind (conO p))).getD cZ) A7 c7 ho7.rd.top (Nat.le_trans (Xj9 p q) (by decide))) Xhi) ?_;rintro _ w6 ⟨A11,c11,A12,c12,rfl,hr11,hr12,hE⟩;replace hB9:=hB9.below hE;replace ho7:=ho7.below hE;replace hW:=btr hW hE;refine Zm rfl<|Ze (Xg (vs:=[.agg #[vi (((psO ((((invO q).bind (conO p))).getD cZ)).getD psZ).ins),vi (((psO ((((invO q).bind (conO p))).getD cZ)).getD psZ).vars),vi (((psO ((((invO q).bind (conO p))).getD cZ)).getD psZ).root),vi (((psO ((((invO q).bind (conO p))).getD cZ)).getD psZ).phase),.slice A11 (((psO ((((invO q).bind (conO p))).getD cZ)).getD psZ).ts).length c11,.slice A12 (((psO ((((invO q).bind (conO p))).getD cZ)).getD psZ).out).length c12],.bool ((psO ((((invO q).bind (conO p))).getD cZ)).isSome)]) rfl rfl)<|Ze (Xg (vs:=[.agg #[vi (((psO ((((invO q).bind (conO p))).getD cZ)).getD psZ).ins),vi (((psO ((((invO q).bind (conO p))).getD cZ)).getD psZ).vars),vi (((psO ((((invO q).bind (conO p))).getD cZ)).getD psZ).root),vi (((psO ((((invO q).bind (conO p))).getD cZ)).getD psZ).phase),.slice A11 (((psO ((((invO q).bind (conO p))).getD cZ)).getD psZ).ts).length c11,.slice A12 (((psO ((((invO q).bind (conO p))).getD cZ)).getD psZ).out).length c12],.bool ((psO ((((invO q).bind (conO p))).getD cZ)).isSome)]) rfl rfl) ?_;refine Zf (X6 (zs:=[vi 0,vi 0,vi 0,vi 0,.slice none 0 0,.slice none 0 0]) X15 rfl) ?_;rintro _ w7 ⟨b15,rfl,hl15,hE,hB15⟩
 have hlo15:=Nat.le_trans hW.size hl15;replace hB9:=hB9.below hE;replace ho7:=ho7.below hE;replace hr11:=hr11.below hE;replace hr12:=hr12.below hE;replace hW:=btr hW hE;refine Zo (Vw [vi (((psO ((((invO q).bind (conO p))).getD cZ)).getD psZ).ins),vi (((psO ((((invO q).bind (conO p))).getD cZ)).getD psZ).vars),vi (((psO ((((invO q).bind (conO p))).getD cZ)).getD psZ).root),vi (((psO ((((invO q).bind (conO p))).getD cZ)).getD psZ).phase),.slice A11 (((psO ((((invO q).bind (conO p))).getD cZ)).getD psZ).ts).length c11,.slice A12 (((psO ((((invO q).bind (conO p))).getD cZ)).getD psZ).out).length c12] Xw hB15) ?_;rintro _ w8 ⟨ho,hb⟩;have hold:=hB15;replace hB9:=hB9.only ho (Blk.ne hB9 hold rfl);replace ho7:=ho7.onlyT ho hold rfl;replace hr11:=hr11.onlyT ho hold rfl;replace hr12:=hr12.onlyT ho hold rfl;replace hW:=Below.only hW ho hlo15;clear hold;have hB15:=hb;clear hb ho;refine Za rfl ?_;refine Zt hK10 fun a hf=>?_;refine wp_seq_k fun _ hK16=>?_;refine wp_seq_k fun _ hK17=>?_;refine X0u (fun a w=>Fr a 53 [(9,.pointer (some ⟨b15,0,none⟩)),(33,.bool ((!((((invO q).bind (conO p))).isSome))||(!((psO ((((invO q).bind (conO p))).getD cZ)).isSome))))]∧w8=w) ?_ ?_
 ·refine Zr hf ?_;refine Zm rfl<|Ze (X1d rfl)<|Zm rfl ?_
  refine Zg 30 rfl (fun hg18=>?_) (fun hg18=>?_)
  ·refine Zp ⟨_,_,rfl,rfl,hg18⟩ ?_;refine Zp ⟨_,_,rfl,rfl,hg18⟩ ?_;refine Ze (Xb rfl hg18 rfl) ?_;refine Zn fun a hf=>?_;exact ⟨hf.sub ⟨rfl,X1 rfl (by first|rfl|(simp only [hg18,bs];done)|simp [hg18]),trivial⟩,rfl⟩
  refine Zv ⟨_,_,rfl,rfl,hg18⟩ (Xa rfl) ?_;refine Zv ⟨_,_,rfl,rfl,hg18⟩ (X1d rfl) ?_;refine Ze (Xo rfl hg18 rfl) ?_;refine Zn fun a hf=>?_;exact ⟨hf.sub ⟨rfl,X1 rfl (by first|rfl|(simp only [hg18,bs];done)|simp [hg18]),trivial⟩,rfl⟩
 rintro a _ ⟨hf,rfl⟩;refine hK17 _ _ ?_
 refine X9 hf rfl (fun hc19=>?_) (fun hc19=>?_)
 ·have hc19b:=hc19;have hfin:=Xjc hc19;refine Zs hf fun _ hK20=>?_;refine Za rfl<|Za rfl<|Za rfl ?_;refine Zt hK20 fun a hf=>?_;refine wp_ret ?_;refine X3 ?_;refine X4 hf (X27 hf rfl rfl rfl rfl) ?_
  rw [hfin]
  exact ⟨rfl,hW⟩
 have hc19b:=hc19;obtain ⟨hvd,hfn⟩:=Xiz hc19;have hR:=VPr.of hvd;have hrd:=Xfz hvd
 have hvr:validP (rdP ((psO (((invO q).bind (conO p)).getD cZ)).getD psZ)).1=true:=by rw [hrd];exact X8o hvd
 have hS:=VPr.of hvr;refine wp_skip ?_;refine hK16 _ _ ?_;refine Zs hf fun _ hK21=>?_;refine Ze (Vn Xe hB15) ?_;refine Zf (Vc (Xob _ ((psO ((((invO q).bind (conO p))).getD cZ)).getD psZ) A11 c11 hr11.top A12 c12 hr12.top hR.v.ts.mks (by have:=hR.v.ins;omega) (Nat.le_trans hR.len (by decide)) (Nat.le_trans hR.out (by decide)) (hTab.up hW h1w) (by have:=hW.size;omega)) Xhm) ?_;rintro _ w9 ⟨A22,c22,A23,c23,rfl,hr22,hr23,hE⟩;replace hB15:=hB15.below hE;replace hr11:=hr11.below hE;replace hr12:=hr12.below hE;replace hW:=btr hW hE;refine Zm rfl<|Ze (Xg (vs:=[.agg #[vi (((rdP ((psO ((((invO q).bind (conO p))).getD cZ)).getD psZ)).1).ins),vi (((rdP ((psO ((((invO q).bind (conO p))).getD cZ)).getD psZ)).1).vars),vi (((rdP ((psO ((((invO q).bind (conO p))).getD cZ)).getD psZ)).1).root),vi (((rdP ((psO ((((invO q).bind (conO p))).getD cZ)).getD psZ)).1).phase),.slice A22 (((rdP ((psO ((((invO q).bind (conO p))).getD cZ)).getD psZ)).1).ts).length c22,.slice A23 (((rdP ((psO ((((invO q).bind (conO p))).getD cZ)).getD psZ)).1).out).length c23],vi (((rdP ((psO ((((invO q).bind (conO p))).getD cZ)).getD psZ)).2:Nat) : Int),.bool (validP ((psO ((((invO q).bind (conO p))).getD cZ)).getD psZ))]) rfl rfl)<|Ze (Xg (vs:=[.agg #[vi (((rdP ((psO ((((invO q).bind (conO p))).getD cZ)).getD psZ)).1).ins),vi (((rdP ((psO ((((invO q).bind (conO p))).getD cZ)).getD psZ)).1).vars),vi (((rdP ((psO ((((invO q).bind (conO p))).getD cZ)).getD psZ)).1).root),vi (((rdP ((psO ((((invO q).bind (conO p))).getD cZ)).getD psZ)).1).phase),.slice A22 (((rdP ((psO ((((invO q).bind (conO p))).getD cZ)).getD psZ)).1).ts).length c22,.slice A23 (((rdP ((psO ((((invO q).bind (conO p))).getD cZ)).getD psZ)).1).out).length c23],vi (((rdP ((psO ((((invO q).bind (conO p))).getD cZ)).getD psZ)).2:Nat) : Int),.bool (validP ((psO ((((invO q).bind (conO p))).getD cZ)).getD psZ))]) rfl rfl)<|Ze (Xg (vs:=[.agg #[vi (((rdP ((psO ((((invO q).bind (conO p))).getD cZ)).getD psZ)).1).ins),vi (((rdP ((psO ((((invO q).bind (conO p))).getD cZ)).getD psZ)).1).vars),vi (((rdP ((psO ((((invO q).bind (conO p))).getD cZ)).getD psZ)).1).root),vi (((rdP ((psO ((((invO q).bind (conO p))).getD cZ)).getD psZ)).1).phase),.slice A22 (((rdP ((psO ((((invO q).bind (conO p))).getD cZ)).getD psZ)).1).ts).length c22,.slice A23 (((rdP ((psO ((((invO q).bind (conO p))).getD cZ)).getD psZ)).1).out).length c23],vi (((rdP ((psO ((((invO q).bind (conO p))).getD cZ)).getD psZ)).2:Nat) : Int),.bool (validP ((psO ((((invO q).bind (conO p))).getD cZ)).getD psZ))]) rfl rfl) ?_
 refine Zf (X6 (zs:=[vi 0,vi 0,vi 0,vi 0,.slice none 0 0,.slice none 0 0]) X15 rfl) ?_;rintro _ w10 ⟨b26,rfl,hl26,hE,hB26⟩
 have hne15_26:b15≠b26:=by have:=hB15.lt;omega
 have hlo26:=Nat.le_trans hW.size hl26;replace hB15:=hB15.below hE;replace hr11:=hr11.below hE;replace hr12:=hr12.below hE;replace hr22:=hr22.below hE;replace hr23:=hr23.below hE;replace hW:=btr hW hE;refine Zo (Vw [vi (((rdP ((psO ((((invO q).bind (conO p))).getD cZ)).getD psZ)).1).ins),vi (((rdP ((psO ((((invO q).bind (conO p))).getD cZ)).getD psZ)).1).vars),vi (((rdP ((psO ((((invO q).bind (conO p))).getD cZ)).getD psZ)).1).root),vi (((rdP ((psO ((((invO q).bind (conO p))).getD cZ)).getD psZ)).1).phase),.slice A22 (((rdP ((psO ((((invO q).bind (conO p))).getD cZ)).getD psZ)).1).ts).length c22,.slice A23 (((rdP ((psO ((((invO q).bind (conO p))).getD cZ)).getD psZ)).1).out).length c23] Xw hB26) ?_;rintro _ w11 ⟨ho,hb⟩;have hold:=hB26;replace hB15:=hB15.only ho (by omega);replace hr11:=hr11.onlyT ho hold rfl;replace hr12:=hr12.onlyT ho hold rfl;replace hr22:=hr22.onlyT ho hold rfl;replace hr23:=hr23.onlyT ho hold rfl;replace hW:=Below.only hW ho hlo26;clear hold;have hB26:=hb;clear hb ho;refine Za rfl<|Za rfl ?_;refine Zt hK21 fun a hf=>?_;refine Zs hf fun _ hK27=>?_;refine Ze (Vn Xe hB26) ?_;refine Zf (Vc (Xnn _ ((rdP ((psO ((((invO q).bind (conO p))).getD cZ)).getD psZ)).1) A22 c22 hr22.top A23 c23 hr23.top hS.v.ts.mks (by have:=hS.v.ins;omega) (Nat.le_trans hS.len (by decide)) (Nat.le_trans hS.out (by decide))) Xih) ?_;rintro _ w12 ⟨rfl,hE⟩;replace hB26:=hB26.below hE;replace hr22:=hr22.below hE;replace hr23:=hr23.below hE;replace hW:=btr hW hE;refine Zm rfl<|Ze (Xg (vs:=[vi (if (validP ((rdP ((psO ((((invO q).bind (conO p))).getD cZ)).getD psZ)).1)&&idP ((rdP ((psO ((((invO q).bind (conO p))).getD cZ)).getD psZ)).1))=true then ((rdP ((psO ((((invO q).bind (conO p))).getD cZ)).getD psZ)).1).phase else 0),.bool (validP ((rdP ((psO ((((invO q).bind (conO p))).getD cZ)).getD psZ)).1)&&idP ((rdP ((psO ((((invO q).bind (conO p))).getD cZ)).getD psZ)).1)),.bool (validP ((rdP ((psO ((((invO q).bind (conO p))).getD cZ)).getD psZ)).1))]) rfl rfl)<|Ze (Xg (vs:=[vi (if (validP ((rdP ((psO ((((invO q).bind (conO p))).getD cZ)).getD psZ)).1)&&idP ((rdP ((psO ((((invO q).bind (conO p))).getD cZ)).getD psZ)).1))=true then ((rdP ((psO ((((invO q).bind (conO p))).getD cZ)).getD psZ)).1).phase else 0),.bool (validP ((rdP ((psO ((((invO q).bind (conO p))).getD cZ)).getD psZ)).1)&&idP ((rdP ((psO ((((invO q).bind (conO p))).getD cZ)).getD psZ)).1)),.bool (validP ((rdP ((psO ((((invO q).bind (conO p))).getD cZ)).getD psZ)).1))]) rfl rfl)<|Ze (Xg (vs:=[vi (if (validP ((rdP ((psO ((((invO q).bind (conO p))).getD cZ)).getD psZ)).1)&&idP ((rdP ((psO ((((invO q).bind (conO p))).getD cZ)).getD psZ)).1))=true then ((rdP ((psO ((((invO q).bind (conO p))).getD cZ)).getD psZ)).1).phase else 0),.bool (validP ((rdP ((psO ((((invO q).bind (conO p))).getD cZ)).getD psZ)).1)&&idP ((rdP ((psO ((((invO q).bind (conO p))).getD cZ)).getD psZ)).1)),.bool (validP ((rdP ((psO ((((invO q).bind (conO p))).getD cZ)).getD psZ)).1))]) rfl rfl)<|Za rfl ?_
 refine Za rfl<|Za rfl ?_;refine Zt hK27 fun a hf=>?_;refine wp_seq_k fun _ hK28=>?_;refine wp_block ?_;refine Zs hf fun _ hK29=>?_;refine Zm rfl<|Za rfl ?_;refine Zt hK29 fun a hf=>?_
 refine X9 hf rfl (fun hc30=>?_) (fun hc30=>?_)
 ·have hc30b:=hc30
  have hi9:idP (redP ((psO (((invO q).bind (conO p)).getD cZ)).getD psZ)).1=true:=by have h7:=hc30;rw [hvr,hrd,Bool.true_and] at h7;exact h7
  have hfin:=hfn.trans (ve1 hi9)
  have hph:(if (validP (rdP ((psO (((invO q).bind (conO p)).getD cZ)).getD psZ)).1&&idP (rdP ((psO (((invO q).bind (conO p)).getD cZ)).getD psZ)).1)=true then (rdP ((psO (((invO q).bind (conO p)).getD cZ)).getD psZ)).1.phase else 0)=(redP ((psO (((invO q).bind (conO p)).getD cZ)).getD psZ)).1.phase:=by rw [if_pos hc30,hrd]
  rw [← hph] at hfin
  refine Zs hf fun _ hK31=>?_;refine Zm rfl<|Za rfl<|Za rfl<|Za rfl ?_;refine Zt hK31 fun a hf=>?_;refine wp_ret ?_;refine Xm ?_;refine X3 ?_;refine X4 hf (X27 hf rfl rfl rfl rfl) ?_
  rw [hfin]
  exact ⟨rfl,hW⟩
 have hc30b:=hc30
 have hi9:idP (redP ((psO (((invO q).bind (conO p)).getD cZ)).getD psZ)).1=false:=by have h7:=hc30;rw [hvr,hrd,Bool.true_and] at h7;exact h7
 refine Zs hf fun _ hK32=>?_;refine Ze (Vd rfl X0k 1)<|Ze (X0 rfl X2 (hB26.at 1))<|Ze (X0g rfl rfl)<|Za rfl ?_;refine Zt hK32 fun a hf=>?_
 refine X9 hf rfl (fun hc33=>?_) (fun hc33=>?_)
 ·have hc33b:=hc33
  have hfin:=hfn.trans (ve2 hi9 (by have h7:=hc33;rw [hrd] at h7;simpa using h7))
  refine Zs hf fun _ hK34=>?_;refine Za rfl<|Za rfl<|Za rfl ?_;refine Zt hK34 fun a hf=>?_;refine wp_ret ?_;refine Xm ?_;refine X3 ?_;refine X4 hf (X27 hf rfl rfl rfl rfl) ?_
  rw [hfin]
  exact ⟨rfl,hW⟩
 have hc33b:=hc33
 have hfin:=hfn.trans (ve3 hi9 (by have h7:=hc33;rw [hrd] at h7;simpa using h7))
 refine wp_skip ?_;refine X5 ?_;refine hK28 _ _ ?_;refine Zs hf fun _ hK35=>?_;refine Za rfl<|Za rfl<|Za rfl ?_;refine Zt hK35 fun a hf=>?_
 refine wp_ret (X4 hf (X27 hf rfl rfl rfl rfl) ?_)
 rw [hfin]
 exact ⟨rfl,hW⟩
theorem Xox(w0:World){Xc:TypeId}(c:Cx)(Ac:Option Addr)(cc:Nat)(hr_c:Rd w0 w0.heap.size Xc encG Ac c.gs){Xd:TypeId}(d:Cx)(Ad:Option Addr)(cd:Nat)(hr_d:Rd w0 w0.heap.size Xd encG Ad d.gs)(hlc:c.gs.length≤9223372036854775807)(hld:d.gs.length≤9223372036854775807)(hTab:TabAt w0)(h1w:1<w0.heap.size) : Ret Tryz.prog 4 [.agg #[vi c.n,.slice Ac c.gs.length cc],.agg #[vi d.n,.slice Ad d.gs.length cd]] w0 (fun v w=>v=.bool true∧Below w0.heap.size w0 w):=by
 refine enter Tryz.func4 rfl 67 rfl rfl ?_;intro a hf
 have hW:Below w0.heap.size w0 w0:=Below.refl _ _
 refine Zs hf fun _ hK3=>?_;refine Zf (X0t (zs:=[vi c.n,.slice Ac c.gs.length cc]) rfl rfl) ?_;rintro _ w1 ⟨b4,rfl,hl4,hE,hB4⟩;have hlo4:=Nat.le_trans hW.size hl4;have haw1_4:=(hr_c.below' hW).away hl4;replace hW:=btr hW hE;refine Zf (X0t (zs:=[vi d.n,.slice Ad d.gs.length cd]) rfl rfl) ?_;rintro _ w2 ⟨b5,rfl,hl5,hE,hB5⟩
 have hne4_5:b4≠b5:=by have:=hB4.lt;omega
 have hlo5:=Nat.le_trans hW.size hl5;have haw1_5:=(hr_c.below' hW).away hl5;replace hB4:=hB4.below hE;replace hW:=btr hW hE;refine Za rfl ?_;refine Zt hK3 fun a hf=>?_;refine Zs hf fun _ hK6=>?_;refine Za rfl ?_;refine Zt hK6 fun a hf=>?_;refine Zs hf fun _ hK7=>?_;refine Ze (Vn X6k hB4)<|Zm rfl ?_;refine Zf (Vc (F14 _ c Ac cc (hr_c.below' hW).top 1048576 (by omega) hlc) Xlb) ?_;rintro _ w3 ⟨rfl,hE⟩;replace hB4:=hB4.below hE;replace hB5:=hB5.below hE;replace hW:=btr hW hE;refine Za rfl ?_;refine Zt hK7 fun a hf=>?_;refine wp_seq_k fun _ hK8=>?_;refine Zs hf fun _ hK9=>?_;refine Zm rfl<|Ze (X1a rfl rfl) ?_;refine Zt hK9 fun a hf=>?_
 refine X9 hf rfl (fun hc10=>?_) (fun hc10=>?_)
 ·have hc10b:=hc10;have hc10:=of_decide_eq_true hc10;refine Zs hf fun _ hK11=>?_;refine Za rfl ?_;refine Zt hK11 fun a hf=>?_;refine wp_ret ?_;refine X3 ?_;refine X4 hf (X01 hf rfl rfl) ?_;exact ⟨rfl,hW⟩
 have hc10b:=hc10;have hc10:=of_decide_eq_false hc10;have hn1:=hc10
 have hc1:c.gs.length≤1048576:=by have:=X9j hc10;omega
 refine wp_skip ?_;refine hK8 _ _ ?_;refine Zs hf fun _ hK12=>?_;refine Ze (Vn X6k hB5)<|Zm rfl ?_;refine Zf (Vc (F14 _ d Ad cd (hr_d.below' hW).top (szG c.gs 1048576) (by have:=X9j hn1;omega) hld) Xlb) ?_;rintro _ w4 ⟨rfl,hE⟩;replace hB4:=hB4.below hE;replace hB5:=hB5.below hE;replace hW:=btr hW hE;refine Za rfl ?_;refine Zt hK12 fun a hf=>?_;refine wp_seq_k fun _ hK13=>?_;refine Zs hf fun _ hK14=>?_;refine Zm rfl<|Ze (X1a rfl rfl) ?_;refine Zt hK14 fun a hf=>?_
 refine X9 hf rfl (fun hc15=>?_) (fun hc15=>?_)
 ·have hc15b:=hc15;have hc15:=of_decide_eq_true hc15;refine Zs hf fun _ hK16=>?_;refine Za rfl ?_;refine Zt hK16 fun a hf=>?_;refine wp_ret ?_;refine X3 ?_;refine X4 hf (X01 hf rfl rfl) ?_;exact ⟨rfl,hW⟩
 have hc15b:=hc15;have hc15:=of_decide_eq_false hc15
 have hd1:d.gs.length≤1048576:=by have:=X9j hn1;have:=X9j hc15;omega
 refine wp_skip ?_;refine hK13 _ _ ?_;refine wp_seq_k fun _ hK17=>?_;refine Xv none (fun _=>false) mixed ?_;intro w5 hE;replace hB4:=hB4.below hE;replace hB5:=hB5.below hE;replace hW:=btr hW hE;refine Yb hf ?_;refine Ye 0 rfl (Vn X6k hB4)<|Ye 2 rfl (Vn X6k hB5) ?_;refine Y1 1 ?_;refine Yk rfl trivial (Vc (F16 _ c Ac cc (hr_c.below' hW).top hc1) X8h) (fun _ _ ⟨A18,c18,_,ho18,hE⟩=>hE) ?_;rintro _ w6 ⟨A18,c18,rfl,ho18,hE⟩;replace ho18:=ho18.lower hW.size;replace hB4:=hB4.below hE;replace hB5:=hB5.below hE;replace hW:=btr hW hE;refine Y1 3 ?_;refine Yk rfl trivial (Vc (F16 _ d Ad cd (hr_d.below' hW).top hd1) X8h) (fun _ _ ⟨A19,c19,_,ho19,hE⟩=>hE) ?_;rintro _ w7 ⟨A19,c19,rfl,ho19,hE⟩;replace ho19:=ho19.lower hW.size;replace hB4:=hB4.below hE;replace hB5:=hB5.below hE;replace ho18:=ho18.below hE;replace hW:=btr hW hE;refine Y1 4 ?_;refine Yk rfl trivial (Vc (Xp2 _ c A18 c18 ho18.rd.top d A19 c19 ho19.rd.top (Nat.le_trans hc1 (by decide)) (Nat.le_trans hd1 (by decide))) Xk3) (fun _ _ ⟨_,hE⟩=>hE) ?_;rintro _ w8 ⟨rfl,hE⟩;replace hB4:=hB4.below hE;replace hB5:=hB5.below hE;replace ho18:=ho18.below hE;replace ho19:=ho19.below hE;replace hW:=btr hW hE;refine Yo 5 rfl (fun _=>Xa rfl)<|Yo 6 rfl (fun _=>Xg (vs:=[vi ((veM c d).1),vi ((veM c d).2.1),.bool ((veM c d).2.2)]) rfl rfl)<|Yo 7 rfl (fun _=>Xg (vs:=[vi ((veM c d).1),vi ((veM c d).2.1),.bool ((veM c d).2.2)]) rfl rfl)<|Yo 8 rfl (fun _=>Xg (vs:=[vi ((veM c d).1),vi ((veM c d).2.1),.bool ((veM c d).2.2)]) rfl rfl)<|Yo 9 rfl (fun _=>X1r rfl) ?_;refine Yo 10 rfl (fun _=>X1r rfl)<|Yo 11 rfl (fun _=>X1r rfl) ?_;refine Yd fun a hf=>?_;refine hK17 _ _ ?_;refine Zs hf fun _ hK20=>?_;refine Ze (Vn X6k hB4) ?_;refine Zf (Vc (F16 _ c Ac cc (hr_c.below' hW).top hc1) X8h) ?_;rintro _ w9 ⟨A21,c21,rfl,ho21,hE⟩;replace ho21:=ho21.lower hW.size
 replace hB4:=hB4.below hE;replace hB5:=hB5.below hE;replace hW:=btr hW hE;refine Zf (X6 (zs:=[vi 0,.slice none 0 0]) X40 rfl) ?_;rintro _ w10 ⟨b23,rfl,hl23,hE,hB23⟩;have hlo23:=Nat.le_trans hW.size hl23;have haw1_23:=(hr_c.below' hW).away hl23;replace hB4:=hB4.below hE;replace hB5:=hB5.below hE;replace ho21:=ho21.below hE;replace hW:=btr hW hE;refine Zo (Vw [vi c.n,.slice A21 c.gs.length c21] X1q hB23) ?_;rintro _ w11 ⟨ho,hb⟩;have hold:=hB23;replace hB4:=hB4.only ho (Blk.ne hB4 hold rfl);replace hB5:=hB5.only ho (Blk.ne hB5 hold rfl);replace ho21:=ho21.onlyT ho hold rfl;replace hW:=Below.only hW ho hlo23;clear hold;have hB23:=hb;clear hb ho;refine Zt hK20 fun a hf=>?_;refine Zs hf fun _ hK24=>?_;refine Ze (Vn X6k hB5) ?_;refine Zf (Vc (F16 _ d Ad cd (hr_d.below' hW).top hd1) X8h) ?_;rintro _ w12 ⟨A25,c25,rfl,ho25,hE⟩;replace ho25:=ho25.lower hW.size;replace hB4:=hB4.below hE;replace hB5:=hB5.below hE;replace hB23:=hB23.below hE;replace ho21:=ho21.below hE;replace hW:=btr hW hE;refine Zf (X6 (zs:=[vi 0,.slice none 0 0]) X40 rfl) ?_;rintro _ w13 ⟨b27,rfl,hl27,hE,hB27⟩
 have hne23_27:b23≠b27:=by have:=hB23.lt;omega
 have hlo27:=Nat.le_trans hW.size hl27;have haw1_27:=(hr_c.below' hW).away hl27;replace hB4:=hB4.below hE;replace hB5:=hB5.below hE;replace hB23:=hB23.below hE;replace ho21:=ho21.below hE;replace ho25:=ho25.below hE;replace hW:=btr hW hE;refine Zo (Vw [vi d.n,.slice A25 d.gs.length c25] X1q hB27) ?_;rintro _ w14 ⟨ho,hb⟩;have hold:=hB27;replace hB4:=hB4.only ho (Blk.ne hB4 hold rfl);replace hB5:=hB5.only ho (Blk.ne hB5 hold rfl);replace hB23:=hB23.only ho (by omega);replace ho21:=ho21.onlyT ho hold rfl;replace ho25:=ho25.onlyT ho hold rfl;replace hW:=Below.only hW ho hlo27;clear hold;have hB27:=hb;clear hb ho;refine Zt hK24 fun a hf=>?_;refine Zs hf fun _ hK28=>?_;refine Ze (Vn X0s hB23)<|Ze (Vn X0s hB27) ?_;refine Zf (Vc (Xq0 _ c A21 c21 ho21.rd.top d A25 c25 ho25.rd.top (Nat.le_trans hc1 (by decide)) (Nat.le_trans hd1 (by decide)) (hTab.up hW h1w) (by have:=hW.size;omega)) Xi8) ?_;rintro _ w15 ⟨rfl,hE⟩;replace hB4:=hB4.below hE;replace hB5:=hB5.below hE;replace hB23:=hB23.below hE;replace hB27:=hB27.below hE;replace ho21:=ho21.below hE;replace ho25:=ho25.below hE;replace hW:=btr hW hE;refine Zm rfl<|Ze (Xg (vs:=[vi ((veM c d).1),vi ((veM c d).2.1),.bool ((veM c d).2.2)]) rfl rfl)<|Ze (Xg (vs:=[vi ((veM c d).1),vi ((veM c d).2.1),.bool ((veM c d).2.2)]) rfl rfl)<|Ze (Xg (vs:=[vi ((veM c d).1),vi ((veM c d).2.1),.bool ((veM c d).2.2)]) rfl rfl)<|Za rfl ?_;refine Za rfl<|Za rfl ?_;refine Zt hK28 fun a hf=>?_;refine wp_seq_k fun _ hK29=>?_;refine wp_seq_k fun _ hK30=>?_;refine X0u (fun a w=>Fr a 67 [(2,.pointer (some ⟨b4,0,none⟩)),(3,.pointer (some ⟨b5,0,none⟩)),(9,.pointer (some ⟨b23,0,none⟩)),(10,.pointer (some ⟨b27,0,none⟩)),(56,.bool (((((veM c d).1) != ((veM c d).1))||(((veM c d).2.1) != ((veM c d).2.1)))||(((veM c d).2.2) != ((veM c d).2.2))))]∧w15=w) ?_ ?_
 ·refine Zr hf ?_;refine Zm rfl<|Zm rfl<|Ze (X3k rfl rfl)<|Zm rfl ?_
  refine Zg 47 rfl (fun hg31=>?_) (fun hg31=>?_)
  ·refine Zp ⟨_,_,rfl,rfl,hg31⟩ ?_;refine Zp ⟨_,_,rfl,rfl,hg31⟩ ?_;refine Zp ⟨_,_,rfl,rfl,hg31⟩ ?_;refine Ze (Xb rfl hg31 rfl)<|Zm rfl<|Zp ⟨_,_,rfl,rfl,rfl⟩ ?_;refine Zp ⟨_,_,rfl,rfl,rfl⟩ ?_;refine Zp ⟨_,_,rfl,rfl,rfl⟩ ?_;refine Ze (Xb rfl rfl rfl) ?_;refine Zn fun a hf=>?_;exact ⟨hf.sub ⟨rfl,rfl,rfl,rfl,X1 rfl (by first|rfl|(simp only [hc10b,hc15b,hg31,bs];done)|simp [hc10b,hc15b,hg31]),trivial⟩,rfl⟩
  refine Zv ⟨_,_,rfl,rfl,hg31⟩ (Xa rfl) ?_;refine Zv ⟨_,_,rfl,rfl,hg31⟩ (Xa rfl) ?_;refine Zv ⟨_,_,rfl,rfl,hg31⟩ (X3k rfl rfl) ?_;refine Ze (Xo rfl hg31 rfl)<|Zm rfl ?_
  refine Zg 52 rfl (fun hg32=>?_) (fun hg32=>?_)
  ·refine Zp ⟨_,_,rfl,rfl,hg32⟩ ?_;refine Zp ⟨_,_,rfl,rfl,hg32⟩ ?_;refine Zp ⟨_,_,rfl,rfl,hg32⟩ ?_;refine Ze (Xb rfl hg32 rfl) ?_;refine Zn fun a hf=>?_;exact ⟨hf.sub ⟨rfl,rfl,rfl,rfl,X1 rfl (by first|rfl|(simp only [hc10b,hc15b,hg31,hg32,bs];done)|simp [hc10b,hc15b,hg31,hg32]),trivial⟩,rfl⟩
  refine Zv ⟨_,_,rfl,rfl,hg32⟩ (Xa rfl) ?_;refine Zv ⟨_,_,rfl,rfl,hg32⟩ (Xa rfl) ?_;refine Zv ⟨_,_,rfl,rfl,hg32⟩ (Xoo Tryz.underlying4 rfl rfl) ?_;refine Ze (Xo rfl hg32 rfl) ?_;refine Zn fun a hf=>?_;exact ⟨hf.sub ⟨rfl,rfl,rfl,rfl,X1 rfl (by first|rfl|(simp only [hc10b,hc15b,hg31,hg32,bs];done)|simp [hc10b,hc15b,hg31,hg32]),trivial⟩,rfl⟩
 rintro a _ ⟨hf,rfl⟩;refine hK30 _ _ ?_
 refine X9 hf rfl (fun hc33=>?_) (fun hc33=>?_)
 ·have hc33b:=hc33
  simp at hc33
 have hc33b:=hc33;refine wp_skip ?_;refine hK29 _ _ ?_;refine wp_seq_k fun _ hK34=>?_;refine wp_seq_k fun _ hK35=>?_;refine Xv none (fun _=>false) mixed ?_;intro w16 hE;replace hB4:=hB4.below hE;replace hB5:=hB5.below hE;replace hB23:=hB23.below hE;replace hB27:=hB27.below hE;replace ho21:=ho21.below hE;replace ho25:=ho25.below hE;replace hW:=btr hW hE;refine Yb hf ?_;refine Ye 0 rfl (Vn X0s hB23)<|Ye 1 rfl (Vn X6k hB4) ?_;refine Y1 2 ?_;refine Yk rfl trivial (Vc (F16 _ c Ac cc (hr_c.below' hW).top hc1) X8h) (fun _ _ ⟨A36,c36,_,ho36,hE⟩=>hE) ?_;rintro _ w17 ⟨A36,c36,rfl,ho36,hE⟩;replace ho36:=ho36.lower hW.size;replace hB4:=hB4.below hE;replace hB5:=hB5.below hE;replace hB23:=hB23.below hE;replace hB27:=hB27.below hE;replace ho21:=ho21.below hE;replace ho25:=ho25.below hE;replace hW:=btr hW hE;refine Y1 3 ?_;refine Yk rfl trivial (Vc (F19 _ c A21 c21 ho21.rd.top c A36 c36 ho36.rd.top (Nat.le_trans hc1 (by decide))) Xku) (fun _ _ ⟨_,hE⟩=>hE) ?_;rintro _ w18 ⟨rfl,hE⟩;replace hB4:=hB4.below hE;replace hB5:=hB5.below hE;replace hB23:=hB23.below hE;replace hB27:=hB27.below hE;replace ho21:=ho21.below hE;replace ho25:=ho25.below hE;replace ho36:=ho36.below hE;replace hW:=btr hW hE;refine Yo 4 rfl (fun _=>X1d rfl) ?_;refine Yd fun a hf=>?_;refine hK35 _ _ ?_
 refine X9 hf rfl (fun hc37=>?_) (fun hc37=>?_)
 ·have hc37b:=hc37
  simp [eqC] at hc37
 have hc37b:=hc37;refine wp_skip ?_;refine hK34 _ _ ?_;refine wp_seq_k fun _ hK38=>?_;refine wp_seq_k fun _ hK39=>?_;refine Xv none (fun _=>false) mixed ?_;intro w19 hE;replace hB5:=hB5.below hE;replace hB27:=hB27.below hE;replace ho25:=ho25.below hE;replace hW:=btr hW hE;refine Yb hf ?_;refine Ye 0 rfl (Vn X0s hB27)<|Ye 1 rfl (Vn X6k hB5) ?_;refine Y1 2 ?_;refine Yk rfl trivial (Vc (F16 _ d Ad cd (hr_d.below' hW).top hd1) X8h) (fun _ _ ⟨A40,c40,_,ho40,hE⟩=>hE) ?_;rintro _ w20 ⟨A40,c40,rfl,ho40,hE⟩;replace ho40:=ho40.lower hW.size;replace hB5:=hB5.below hE;replace hB27:=hB27.below hE;replace ho25:=ho25.below hE;replace hW:=btr hW hE;refine Y1 3 ?_;refine Yk rfl trivial (Vc (F19 _ d A25 c25 ho25.rd.top d A40 c40 ho40.rd.top (Nat.le_trans hd1 (by decide))) Xku) (fun _ _ ⟨_,hE⟩=>hE) ?_;rintro _ w21 ⟨rfl,hE⟩;replace hB5:=hB5.below hE;replace hB27:=hB27.below hE;replace ho25:=ho25.below hE;replace ho40:=ho40.below hE;replace hW:=btr hW hE;refine Yo 4 rfl (fun _=>X1d rfl) ?_;refine Yd fun a hf=>?_;refine hK39 _ _ ?_
 refine X9 hf rfl (fun hc41=>?_) (fun hc41=>?_)
 ·have hc41b:=hc41
  simp [eqC] at hc41
 have hc41b:=hc41;refine wp_skip ?_;refine hK38 _ _ ?_;refine Zs hf fun _ hK42=>?_;refine Za rfl ?_;refine Zt hK42 fun a hf=>?_
 refine wp_ret (X4 hf (X01 hf rfl rfl) ?_)
 exact ⟨rfl,hW⟩
theorem Xpr : Tryz.prog.globalNamed "math/bits.deBruijn64tab" = some 1 := by kernel_rfl
theorem Xqq:(Tryz.prog.globals[1]?).map (·.type)=some 184:=by kernel_rfl
theorem Xqh:(Rows.laid_math_bits_deBruijn64tab:DataW Unit)=Lib.tabData .u8 (dbN.map fun (n:Nat)=>(n:Int)):=by kernel_rfl
theorem Xmo {W : World} (h : laidMetH Tryz.prog [("math/bits.deBruijn32tab", Rows.laid_math_bits_deBruijn32tab), ("math/bits.deBruijn64tab", Rows.laid_math_bits_deBruijn64tab)] W) : TabAt W ∧ 1 < W.heap.size := by
 rw [MakeChecks.laidMetH_plain _ _ _ (by kernel_rfl)] at h
 obtain ⟨g,t,cs,fuel,p,h1,h2,h3,h4⟩:=Lib.laidMet.reads h (.tail _ (.head _))
 obtain rfl:=Option.some.inj (Xpr.symm.trans h1)
 obtain rfl:=Option.some.inj (Xqq.symm.trans h2)
 rw [Xqh] at h4
 have hc:=Lib.cells_of_tab Tryz.underlying184 Tryz.underlying5 (by kernel_rfl) (by kernel_rfl) h4
 have hcell:∀ i,W.cell? ⟨1,i,none⟩=dbL[i]?:=fun i=>by
  rw [World.var?_cell Xpr h3 i,← Array.getElem?_toList,hc,List.map_map]
  rfl
 have ht:TabAt W:=fun j v hj=>by
  rw [show (⟨1,0,none⟩ : Addr).add j=⟨1,j,none⟩ from by rw [X1b];congr 1;omega,hcell j]
  exact hj
 exact ⟨ht,World.block_lt_of_cell? _ _ (u:=.int .u8 0) ((hcell 0).trans rfl)⟩
end Go.Proofs.YtiejkplemjkjoaaGreatDoor
namespace Go.Proofs.YtiejkplemjkjoaaGreatDoor
open Go.ChangeShapes Go.WideShapes Go.ChangeAt Go.RowKit Go.Deep Go.Joins
set_option linter.unusedVariables false
set_option maxRecDepth 100000 in
theorem X8v(os:Os)(started:os.Started)(H:Type)(enc:TypeId×Value→H) :
  ReturnsInHanded {} Tryz.checked os 4 .any (fun w args=>(Rows.fnExactVerifyEqualSpec.pre enc Tryz.prog Tryz.f4 [] false w args∧laidMetH Tryz.prog Rows.fnExactVerifyEqualRow.laid w)∧sizedMet enc Tryz.prog Tryz.f4 (OpenSpec.ofChange Rows.fnExactVerifyEqualSpec) false w args)
   (Rows.fnExactVerifyEqualSpec.post enc Tryz.prog Tryz.f4 false true false false):=by
 refine returnsInHanded_of_change_and (C:=Tryz.checked) (X:=fun w _=>laidMetH Tryz.prog Rows.fnExactVerifyEqualRow.laid w) (fun _ _ _ hh h=>h.of_heap hh) own started (by kernel_rfl) Tryz.func4
  (ChangeSpec.witness_shaped (enc:=enc) (C:=Tryz.checked) (os:=os) (X:=fun w _=>laidMetH Tryz.prog Rows.fnExactVerifyEqualRow.laid w) false (World.laidAll Tryz.prog os Rows.fnExactVerifyEqualRow.laid) #[.agg #[.int .i64 0,.slice none 0 0],.agg #[.int .i64 0,.slice none 0 0]] 8 (World.laidAll_os _ _ _)
   (World.shaped_of_ZipB (by kernel_rfl) (by kernel_rfl)) (by kernel_rfl) (by kernel_rfl) (by kernel_rfl)
   (by rw [MakeChecks.laidMetH_plain _ _ _ (by kernel_rfl)];exact laidMet_laidAll _ (by kernel_rfl) (by kernel_rfl))) ?_
 intro W base args ds gs before hval0 hW _ _ hL _
 have hval:∀ (j:Nat) t v,Tryz.f4.params[j]? = some t→args[j]? = some v→Value.okWide Tryz.prog W .any base t v:=hval0
 have hW':=hW
 obtain ⟨p,q,hA0,hV,rfl,hfz,hnd⟩:=hW
 have hA:DataW.TrodAll enc Tryz.prog W 0 (fun _=>true) true Tryz.f4.params.toList args.toList ds p:=hA0
 rw [Tryz.params4] at hA hval
 obtain ⟨v0,v1,d0,d1,p0,p1,rfl,rfl,rfl,h0,h1⟩:=trodAll_two hA;obtain ⟨rfl,rfl⟩:=trodVars_none hV;have h0k:=h0;have h1k:=h1
 obtain ⟨c,A,i,E,rfl,hr0,hl0⟩:=X8s (hval 0 42 v0 rfl rfl) h0 (fun _=>rfl)
 obtain ⟨d,B,k,F,rfl,hr1,hl1⟩:=X8s (hval 1 42 v1 rfl rfl) h1 (fun _=>rfl)
 clear hA0 hval0
 simp only [List.append_nil] at hW'
 have hlt:∀ x ∈ p0++p1,x.block<W.heap.size:=fun x hx=>hW'.lt x (by simpa using hx)
 obtain ⟨hTab,h1w⟩:=Xmo hL;refine Calls.mono (Xox W c A i hr0 d B k hr1 hl0 hl1 hTab h1w) fun r W' ⟨v,he,hv,hb⟩=>?_
 subst hv
 refine ⟨_,he,Xbm (pa:=p0++p1) (pv:=[]) hW' (fun _ _ _=>trodAll_mk1 (shut_bool Tryz.underlying4 true)) (fun sp hsp=>?_) (fun _ _=>rfl) (by simp) hb⟩
 exact trodAll_mk2 (WideElems.Trod_stays Xd7 (by kernel_rfl) (of_decide_eq_true (by kernel_rfl)) h0k (fun x hx=>hb.same (hlt x (List.mem_append_left _ hx))) (fun x hx=>hsp x (by simp [hx])))
  (WideElems.Trod_stays Xd7 (by kernel_rfl) (of_decide_eq_true (by kernel_rfl)) h1k (fun x hx=>hb.same (hlt x (List.mem_append_right _ hx))) (fun x hx=>hsp x (by simp [hx])))
theorem Xe4:Rows.FnExactVerifyEqualSaid:=
 OpenClaim.holds_of_wide 4 Tryz.f4 rfl rfl rfl rfl rfl rfl rfl ⟨rfl,rfl,rfl,rfl,rfl⟩ rfl rfl rfl rfl rfl (by kernel_rfl) Tryz.func4 (by kernel_rfl)
  (of_decide_eq_true (by kernel_rfl)) (by unfold Func.isWrapper;first|(rw [if_pos (by decide +kernel)];kernel_rfl)|(rw [if_neg (by decide +kernel)];exact ⟨rfl,rfl⟩))
  (fun os started H enc _=>X8v os started H enc)
theorem Xfg : Tryz.prog.funcNamed "loop.example/g00864/laws.FnExactVerifyEqual" = some 4 := by kernel_rfl
theorem Xad:Tryz.prog.wantsStandIn 42=false:=by kernel_rfl
theorem vereq_holds:Rows.FnExactVerifyEqualCardSaid:=
 Claim7.holds_tied_plain_at .later [] [.data, .data] true (true, "d49622009df6ece1f7faf11a605e53968dab1119d698954f967f11d3268751d3") false
  Xe4 (fun _ h=>by cases h) (by kernel_rfl) (fun _ h=>by cases h) fnExactVerifyEqual_row_tie rfl ⟨rfl,rfl⟩ (by kernel_rfl) rfl
  (fun f fn hf hfn=>by
   obtain rfl:f=4:=Option.some.inj (Xfg.symm.trans hf) |>.symm
   obtain rfl:fn=Tryz.f4:=(Option.some.inj (Tryz.func4.symm.trans hfn)).symm
   exact ⟨by kernel_rfl,fun j t ht=>by
    rw [Tryz.params4] at ht
    have hm:=Array.mem_of_getElem? ht
    simp only [List.mem_toArray,List.mem_cons,List.mem_nil_iff,or_false] at hm
    rcases hm with rfl|rfl<;>exact Xad⟩)
  (by kernel_rfl)
end Go.Proofs.YtiejkplemjkjoaaGreatDoor
