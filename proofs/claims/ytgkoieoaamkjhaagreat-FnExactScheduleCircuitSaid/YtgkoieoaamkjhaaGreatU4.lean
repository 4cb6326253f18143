/-
  What is proved: for every circuit and every list of layers, the program's ScheduleCircuit returns what the reference's returns, leaves its arguments as they were, and returns memory of its own. Conditions: none.
-/
import Derived.Test.YtgkoieoaamkjhaaGreatU3
import Derived.Test.YtgkoieoaamkjhaaGreatU2
import Derived.WideKeyRuns
set_option linter.unusedVariables false
set_option linter.unusedSimpArgs false
set_option maxRecDepth 4000
namespace Go.Proofs.YtgkoieoaamkjhaaGreat
open Go.RowKit
theorem F54(w0:World)(c:Cx)(Ac:Option Addr)(cc:Nat)(hr_c:Rd w0 w0.heap.size 55 encG Ac c.gs)(hp_c:c.gs.length≤cc)(As:Option Addr)(cs:Nat)(s:List Int)(hr_s:Rd w0 w0.heap.size 3 encI As s)(hc:cOk c=true) : Ret Tryz.prog 19 [.agg #[vi c.n,.slice Ac c.gs.length cc],.slice As s.length cs] w0 (fun v w=>v=.tuple #[vi ((schedS c.gs s).1),vi ((schedS c.gs s).2)]∧Below w0.heap.size w0 w):=by
 obtain ⟨hcn,hcl,hcg⟩:=X2g hc
 refine enter Tryz.func19 rfl 96 rfl rfl ?_
 intro a hf
 have hW:Below w0.heap.size w0 w0:=Below.refl _ _
 refine Zs hf fun _ hK3=>?_
 refine Zf (X08 (zs:=[vi c.n,.slice Ac c.gs.length cc]) rfl rfl) ?_;rintro _ w1 ⟨b4,rfl,hl4,hE,hB4⟩
 have hlo4:=Nat.le_trans hW.size hl4
 replace hW:=btr hW hE
 refine Za rfl<|Za rfl ?_
 refine Zt hK3 fun a hf=>?_
 refine wp_seq_k fun _ hK5=>?_
 refine Zs hf fun _ hK6=>?_
 refine Zm rfl<|Ze (X0q rfl Xj)<|Ze (Vd rfl X0h 1)<|Ze (X0 rfl X18 (hB4.at 1))<|Ze (X0q rfl X07) ?_
 refine Ze (X1e rfl rfl) ?_
 refine Zt hK6 fun a hf=>?_
 refine Xd hf rfl (fun hc7=>?_) (fun hc7=>?_)
 ·have hc7b:=hc7
  have hfin:schedS c.gs s=(1,0):=by rw [schedS,if_neg];simp at hc7;omega
  refine Zs hf fun _ hK8=>?_
  refine Za rfl<|Za rfl ?_
  refine Zt hK8 fun a hf=>?_
  refine wp_ret ?_
  refine X4 ?_
  refine X5 hf (X0z hf rfl rfl rfl) ?_
  exact ⟨by rw [hfin],hW⟩
 have hc7b:=hc7
 have hls:s.length=c.gs.length:=by simp at hc7;omega
 refine wp_skip ?_
 refine hK5 _ _ ?_
 refine wp_seq_k fun _ hK9=>?_
 refine Zs hf fun _ hK10=>?_
 refine Ze (Vd rfl X0h 1)<|Ze (X0 rfl X18 (hB4.at 1))<|Ze (X0q rfl X07)<|Zm rfl ?_
 refine Zt hK10 fun a hf=>?_
 refine wp_block ?_
 refine Xt (σ:=Nat) (fun (i:Nat) (a:Act) (w:World)=>Fr a 96 [(1,.slice As s.length cs),(2,.pointer (some ⟨b4,0,none⟩)),(19,.slice Ac c.gs.length cc),(20,vi (c.gs.length:Int)),(21,vi (i:Int))]∧(i≤c.gs.length)∧(firstF (faultS c.gs s) (c.gs.length-i) i=schedS c.gs s)∧Blk w b4 29 [vi c.n,.slice Ac c.gs.length cc]∧c.gs.length≤cc∧Below w0.heap.size w0 w) (fun (i:Nat)=>c.gs.length-i) 0 ?_ ?_
 ·exact ⟨hf.sub ⟨rfl,rfl,rfl,rfl,rfl,trivial⟩,(Nat.zero_le _),(by rw [schedS,if_pos hls];rfl),hB4,hp_c,hW⟩
 rintro i a w2 ⟨hf,hi,hinv,hB4,hp_c,hW⟩
 refine Zs hf fun _ hK11=>?_
 refine Ze (X06 rfl rfl) ?_
 refine Zt hK11 fun a hf=>?_
 refine wp_seq_k fun _ hK12=>?_
 refine Xd hf rfl (fun hc13=>?_) (fun hc13=>?_)
 ·have hc13b:=hc13
  have hc13:=of_decide_eq_true hc13
  obtain ⟨u14,hu14⟩:=Xi (l:=c.gs) (k:=i) (by omega)
  have hin:i<c.gs.length:=by omega
  have hgi:=X3k hu14
  have hgu:=hcg _ (List.mem_of_getElem? hu14)
  have hti:(c.gs.take i).length=i:=by rw [List.length_take];omega
  refine wp_skip ?_
  refine hK12 _ _ ?_
  refine wp_seq_k fun _ hK15=>?_
  refine wp_block ?_
  refine Zs hf fun _ hK16=>?_
  refine Zm rfl ?_
  refine Zi (k:=i) (u:=u14) (enc:=encG) (l:=c.gs) trivial rfl rfl X07 X0b Xx (hr_c.below' hW) hu14 rfl ?_;intro p18 hat17
  refine Ze (Xz (l:=[vi u14.k,vi u14.a,vi u14.b]) rfl Xu hat17 rfl) ?_
  refine Zf (X8 (zs:=[vi 0,vi 0,vi 0]) X3g rfl) ?_;rintro _ w3 ⟨b19,rfl,hl19,hE,hB19⟩
  have hlo19:=Nat.le_trans hW.size hl19
  have haw1_19:=(hr_c.below' hW).away hl19
  replace hB4:=hB4.below hE
  replace hW:=btr hW hE
  refine Za rfl ?_
  refine Zo (Vw [vi u14.k,vi u14.a,vi u14.b] X0b hB19) ?_;rintro _ w4 ⟨ho,hb⟩
  have hold:=hB19
  replace hB4:=hB4.only ho (Blk.ne hB4 hold rfl)
  replace hW:=Below.only hW ho hlo19
  clear hold
  have hB19:=hb
  clear hb ho
  refine Zt hK16 fun a hf=>?_
  refine wp_seq_k fun _ hK20=>?_
  refine Zs hf fun _ hK21=>?_
  refine Ze (Vd rfl X04 0)<|Ze (X0 rfl X3 (hB19.at 0))<|Ze (X0j rfl rfl) ?_
  refine Zt hK21 fun a hf=>?_
  refine Xd hf rfl (fun hc22=>?_) (fun hc22=>?_)
  ·have hc22b:=hc22
   have h12:=hc22
   refine wp_seq_k fun _ hK23=>?_
   refine Zs hf fun _ hK24=>?_
   refine Zm rfl<|Zm rfl ?_
   refine Zi (k:=i) (u:=(s.getD i 0)) (enc:=encI) (l:=s) trivial rfl rfl Xj X0a X7 (hr_s.below' hW) (X0x (by omega)) rfl ?_;intro p26 hat25
   refine Ze (X0 rfl X3 hat25)<|Ze (X1e rfl rfl) ?_
   refine Zt hK24 fun a hf=>?_
   refine Xd hf rfl (fun hc27=>?_) (fun hc27=>?_)
   ·have hc27b:=hc27
    have hfin:=X2t hinv hin (Xgd hgi h12 hc27) (by decide)
    refine Zs hf fun _ hK28=>?_
    refine Zm rfl<|Za rfl<|Za rfl ?_
    refine Zt hK28 fun a hf=>?_
    refine wp_ret ?_
    refine X4 ?_
    refine X4 ?_
    refine Xk ?_
    refine X4 ?_
    refine X4 ?_
    refine Xk ?_
    refine X4 ?_
    refine X5 hf (X0z hf rfl rfl rfl) ?_
    exact ⟨by rw [hfin],hW⟩
   have hc27b:=hc27
   have hnx:=X44 hinv hin (Xgf hgi h12 hc27)
   refine wp_skip ?_
   refine hK23 _ _ ?_
   refine wp_exit ?_
   refine Xf ?_
   refine Xs ?_
   refine hK15 _ _ ?_
   refine Zr hf ?_
   refine Ze (Xp rfl rfl (by omega) (by omega))<|Zm rfl ?_
   refine Zn fun a hf=>?_
   refine Xg ?_
   exact ⟨i+1,⟨hf.sub ⟨rfl,rfl,rfl,rfl,rfl,trivial⟩,(by omega),hnx,hB4,hp_c,hW⟩,(by omega)⟩
  have hc22b:=hc22
  have h12:=hc22
  refine wp_skip ?_
  refine hK20 _ _ ?_
  refine wp_seq_k fun _ hK29=>?_
  refine Zs hf fun _ hK30=>?_
  refine Zm rfl<|Zm rfl ?_
  refine Zi (k:=i) (u:=(s.getD i 0)) (enc:=encI) (l:=s) trivial rfl rfl Xj X0a X7 (hr_s.below' hW) (X0x (by omega)) rfl ?_;intro p32 hat31
  refine Ze (X0 rfl X3 hat31) ?_
  refine Zf (Vc (F85 _ (s.getD i 0) 1 400) X5b) ?_;rintro _ _ ⟨rfl,rfl⟩
  refine Ze (X0u rfl) ?_
  refine Zt hK30 fun a hf=>?_
  refine Xd hf rfl (fun hc33=>?_) (fun hc33=>?_)
  ·have hc33b:=hc33
   have hfin:=X2t hinv hin (Xik hgi h12 hc33) (by decide)
   refine Zs hf fun _ hK34=>?_
   refine Zm rfl<|Za rfl<|Za rfl ?_
   refine Zt hK34 fun a hf=>?_
   refine wp_ret ?_
   refine X4 ?_
   refine Xk ?_
   refine X4 ?_
   refine X4 ?_
   refine Xk ?_
   refine X4 ?_
   refine X5 hf (X0z hf rfl rfl rfl) ?_
   exact ⟨by rw [hfin],hW⟩
  have hc33b:=hc33
  have hx:=hc33
  refine wp_skip ?_
  refine hK29 _ _ ?_
  refine wp_seq_k fun _ hK35=>?_
  refine Zs hf fun _ hK36=>?_
  refine Ze (Vd rfl X0h 1)<|Ze (X0 rfl X18 (hB4.at 1))<|Zm rfl ?_
  have hr37:=((hr_c.below' hW).top).takeK Xx i
  refine Ze (Xai (l:=c.gs) (k:=i) rfl rfl X07 X0b rfl (by omega) hp_c)<|Ze (X0q rfl X07)<|Zm rfl ?_
  refine Zt hK36 fun a hf=>?_
  refine wp_block ?_
  refine Xt (σ:=Nat) (fun (j:Nat) (a:Act) (w:World)=>Fr a 96 [(1,.slice As s.length cs),(2,.pointer (some ⟨b4,0,none⟩)),(6,vi (i:Int)),(7,.pointer (some ⟨b19,0,none⟩)),(19,.slice Ac c.gs.length cc),(20,vi (c.gs.length:Int)),(21,vi (i:Int)),(45,.slice Ac (c.gs.take i).length cc),(46,vi ((c.gs.take i).length:Int)),(47,vi (j:Int))]∧(j≤i)∧((List.range j).any (pA c.gs s u14 (s.getD i 0))=false)∧Blk w b4 29 [vi c.n,.slice Ac c.gs.length cc]∧Blk w b19 55 [vi u14.k,vi u14.a,vi u14.b]∧Rd w w4.heap.size 55 encG Ac (c.gs.take i)∧c.gs.length≤cc∧Below w0.heap.size w0 w) (fun (j:Nat)=>i-j) 0 ?_ ?_
  ·exact ⟨hf.sub ⟨rfl,rfl,rfl,rfl,rfl,rfl,rfl,rfl,rfl,rfl,trivial⟩,(Nat.zero_le _),rfl,hB4,hB19,hr37,hp_c,hW⟩
  rintro j a w5 ⟨hf,hj,hA,hB4,hB19,hr37,hp_c,hW⟩
  refine Zs hf fun _ hK38=>?_
  refine Ze (X06 rfl rfl) ?_
  refine Zt hK38 fun a hf=>?_
  refine wp_seq_k fun _ hK39=>?_
  refine Xd hf rfl (fun hc40=>?_) (fun hc40=>?_)
  ·have hc40b:=hc40
   have hc40:=of_decide_eq_true hc40
   obtain ⟨u41,hu41⟩:=Xi (l:=(c.gs.take i)) (k:=j) (by omega)
   obtain ⟨hgj,hmj⟩:=X79 hu41
   refine wp_skip ?_
   refine hK39 _ _ ?_
   refine wp_seq_k fun _ hK42=>?_
   refine wp_block ?_
   refine Zs hf fun _ hK43=>?_
   refine Zm rfl ?_
   refine Zi (k:=j) (u:=u41) (enc:=encG) (l:=(c.gs.take i)) trivial rfl rfl X07 X0b Xx hr37 hu41 rfl ?_;intro p45 hat44
   refine Ze (Xz (l:=[vi u41.k,vi u41.a,vi u41.b]) rfl Xu hat44 rfl) ?_
   refine Zf (X8 (zs:=[vi 0,vi 0,vi 0]) X3g rfl) ?_;rintro _ w6 ⟨b46,rfl,hl46,hE,hB46⟩
   have hne19_46:b19≠b46:=by have:=hB19.lt;omega
   have hlo46:=Nat.le_trans hW.size hl46
   have haw1_46:=(hr_c.below' hW).away hl46
   have haw37_46:=hr37.away hl46
   replace hB4:=hB4.below hE
   replace hB19:=hB19.below hE
   replace hr37:=hr37.below hE
   replace hW:=btr hW hE
   refine Za rfl ?_
   refine Zo (Vw [vi u41.k,vi u41.a,vi u41.b] X0b hB46) ?_;rintro _ w7 ⟨ho,hb⟩
   have hold:=hB46
   replace hB4:=hB4.only ho (Blk.ne hB4 hold rfl)
   replace hB19:=hB19.only ho (by omega)
   replace hr37:=hr37.onlyA ho haw37_46
   replace hW:=Below.only hW ho hlo46
   clear hold
   have hB46:=hb
   clear hb ho
   refine Zt hK43 fun a hf=>?_
   refine wp_seq_k fun _ hK47=>?_
   refine Xy (fun a w=>Fr a 96 [(1,.slice As s.length cs),(2,.pointer (some ⟨b4,0,none⟩)),(6,vi (i:Int)),(7,.pointer (some ⟨b19,0,none⟩)),(19,.slice Ac c.gs.length cc),(20,vi (c.gs.length:Int)),(21,vi (i:Int)),(45,.slice Ac (c.gs.take i).length cc),(46,vi ((c.gs.take i).length:Int)),(47,vi (j:Int)),(66,.bool ((decide ((s.getD i 0)≤(s.getD j 0)))&&(!(commS u14 u41))))]∧Below w7.heap.size w7 w) ?_ ?_
   ·have hEc:Below w7.heap.size w7 w7:=Below.refl _ _
    refine Xw none (fun _=>false) mixed ?_
    intro w8 hE
    replace hB4:=hB4.below hE
    replace hB19:=hB19.below hE
    replace hB46:=hB46.below hE
    replace hr37:=hr37.below hE
    replace hW:=btr hW hE
    replace hEc:=btr hEc hE
    refine Yb hf ?_
    refine Yo 0 rfl (fun _=>X2 rfl)<|Yo 1 rfl (fun _=>X2 rfl) ?_
    refine Yi (k:=j) (u:=(s.getD j 0)) (enc:=encI) (l:=s) 2 rfl trivial rfl rfl Xj X0a X7 (hr_s.below' hW) (X0x (by omega)) rfl ?_;intro p49 hat48
    refine Ye 3 rfl (X0 rfl X3 hat48)<|Yo 4 rfl (fun _=>X2 rfl)<|Yo 5 rfl (fun _=>X2 rfl) ?_
    refine Yi (k:=i) (u:=(s.getD i 0)) (enc:=encI) (l:=s) 6 rfl trivial rfl rfl Xj X0a X7 (hr_s.below' hW) (X0x (by omega)) rfl ?_;intro p51 hat50
    refine Ye 7 rfl (X0 rfl X3 hat50)<|Yo 8 rfl (fun _=>Xcp rfl rfl)<|Yo 9 rfl (fun _=>X2 rfl) ?_
    refine Yl 61 rfl (fun hg52=>?_) (fun hg52=>?_)
    ·refine Yv 10 rfl ⟨_,_,rfl,rfl,hg52⟩ (Vn Xu hB19) ?_
     refine Yv 11 rfl ⟨_,_,rfl,rfl,hg52⟩ (Vn Xu hB46) ?_
     refine Y1 12 ?_
     refine Yk rfl ⟨_,_,rfl,rfl,hg52⟩ (Vc (Xll _ u14 u41 c.n hgu (hcg _ hmj)) Xhc) (fun _ _ ⟨_,hE⟩=>hE) ?_;rintro _ w9 ⟨rfl,hE⟩
     replace hB4:=hB4.below hE
     replace hB19:=hB19.below hE
     replace hB46:=hB46.below hE
     replace hr37:=hr37.below hE
     replace hW:=btr hW hE
     replace hEc:=btr hEc hE
     refine Yu 13 rfl ⟨_,_,rfl,rfl,hg52⟩ (fun _=>X0u rfl) ?_
     refine Yo 14 rfl (fun _=>Xe rfl hg52 rfl) ?_
     refine Yd fun a hf=>?_
     have hEE:Below w7.heap.size w7 w9:=hEc
     exact ⟨hf.sub ⟨rfl,rfl,rfl,rfl,rfl,rfl,rfl,rfl,rfl,rfl,X1 rfl (by first|rfl|(simp only [hc7b,hc13b,hc22b,hc33b,hc40b,hg52,bs];done)|simp [hc7b,hc13b,hc22b,hc33b,hc40b,hg52]),trivial⟩,hEE⟩
    refine Yp 10 rfl ⟨_,_,rfl,rfl,hg52⟩ ?_
    refine Yp 11 rfl ⟨_,_,rfl,rfl,hg52⟩ ?_
    refine Y1 12 ?_
    refine Yq rfl ⟨_,_,rfl,rfl,hg52⟩ ?_
    refine Yp 13 rfl ⟨_,_,rfl,rfl,hg52⟩ ?_
    refine Yo 14 rfl (fun _=>Xa rfl hg52 rfl) ?_
    refine Yd fun a hf=>?_
    have hEE:Below w7.heap.size w7 w8:=hEc
    exact ⟨hf.sub ⟨rfl,rfl,rfl,rfl,rfl,rfl,rfl,rfl,rfl,rfl,X1 rfl (by first|rfl|(simp only [hc7b,hc13b,hc22b,hc33b,hc40b,hg52,bs];done)|simp [hc7b,hc13b,hc22b,hc33b,hc40b,hg52]),trivial⟩,hEE⟩
   rintro a w10 ⟨hf,hE⟩
   replace hB4:=hB4.below hE
   replace hB19:=hB19.below hE
   replace hB46:=hB46.below hE
   replace hr37:=hr37.below hE
   replace hW:=btr hW hE
   refine hK47 _ _ ?_
   refine Xd hf rfl (fun hc53=>?_) (fun hc53=>?_)
   ·have hc53b:=hc53
    have hp:=hc53
    rw [← hgj] at hp
    have hfin:=X2t hinv hin (Xl8 hgi h12 hx (X3m (j:=j) (by omega) hp)) (by decide)
    refine Zs hf fun _ hK54=>?_
    refine Zm rfl<|Za rfl<|Za rfl ?_
    refine Zt hK54 fun a hf=>?_
    refine wp_ret ?_
    refine Xk ?_
    refine X4 ?_
    refine X4 ?_
    refine Xk ?_
    refine X4 ?_
    refine Xk ?_
    refine X4 ?_
    refine X4 ?_
    refine Xk ?_
    refine X4 ?_
    refine X5 hf (X0z hf rfl rfl rfl) ?_
    exact ⟨by rw [hfin],hW⟩
   have hc53b:=hc53
   have hp:=hc53
   rw [← hgj] at hp
   have hnA:=X2y hA hp
   refine wp_skip ?_
   refine Xh ?_
   refine hK42 _ _ ?_
   refine Zr hf ?_
   refine Ze (Xp rfl rfl (by omega) (by omega))<|Zm rfl ?_
   refine Zn fun a hf=>?_
   refine Xg ?_
   exact ⟨j+1,⟨hf.sub ⟨rfl,rfl,rfl,rfl,rfl,rfl,rfl,rfl,rfl,rfl,trivial⟩,(by omega),hnA,hB4,hB19,hr37,hp_c,hW⟩,(by omega)⟩
  have hc40b:=hc40
  have hc40:=of_decide_eq_false hc40
  have hA2:=hA
  rw [show j=i from by omega] at hA2
  refine wp_exit ?_
  refine Xf ?_
  refine Xf ?_
  refine Xs ?_
  refine hK35 _ _ ?_
  refine Zs hf fun _ hK55=>?_
  refine Ze (Vd rfl X0h 1)<|Ze (X0 rfl X18 (hB4.at 1))<|Zm rfl ?_
  have hr56:=((hr_c.below' hW).top).takeK Xx i
  refine Ze (Xai (l:=c.gs) (k:=i) rfl rfl X07 X0b rfl (by omega) hp_c)<|Ze (X0q rfl X07)<|Zm rfl ?_
  refine Zt hK55 fun a hf=>?_
  refine wp_block ?_
  refine Xt (σ:=Nat) (fun (q:Nat) (a:Act) (w:World)=>Fr a 96 [(1,.slice As s.length cs),(2,.pointer (some ⟨b4,0,none⟩)),(6,vi (i:Int)),(7,.pointer (some ⟨b19,0,none⟩)),(19,.slice Ac c.gs.length cc),(20,vi (c.gs.length:Int)),(21,vi (i:Int)),(72,.slice Ac (c.gs.take i).length cc),(73,vi ((c.gs.take i).length:Int)),(74,vi (q:Int))]∧(q≤i)∧((List.range q).any (pB c.gs s u14 (s.getD i 0))=false)∧Blk w b4 29 [vi c.n,.slice Ac c.gs.length cc]∧Blk w b19 55 [vi u14.k,vi u14.a,vi u14.b]∧Rd w w5.heap.size 55 encG Ac (c.gs.take i)∧c.gs.length≤cc∧Below w0.heap.size w0 w) (fun (q:Nat)=>i-q) 0 ?_ ?_
  ·exact ⟨hf.sub ⟨rfl,rfl,rfl,rfl,rfl,rfl,rfl,rfl,rfl,rfl,trivial⟩,(Nat.zero_le _),rfl,hB4,hB19,hr56,hp_c,hW⟩
  rintro q a w11 ⟨hf,hq,hB,hB4,hB19,hr56,hp_c,hW⟩
  refine Zs hf fun _ hK57=>?_
  refine Ze (X06 rfl rfl) ?_
  refine Zt hK57 fun a hf=>?_
  refine wp_seq_k fun _ hK58=>?_
  refine Xd hf rfl (fun hc59=>?_) (fun hc59=>?_)
  ·have hc59b:=hc59
   have hc59:=of_decide_eq_true hc59
   obtain ⟨u60,hu60⟩:=Xi (l:=(c.gs.take i)) (k:=q) (by omega)
   obtain ⟨hgq,hmq⟩:=X79 hu60
   refine wp_skip ?_
   refine hK58 _ _ ?_
   refine wp_seq_k fun _ hK61=>?_
   refine wp_block ?_
   refine Zs hf fun _ hK62=>?_
   refine Zm rfl ?_
   refine Zi (k:=q) (u:=u60) (enc:=encG) (l:=(c.gs.take i)) trivial rfl rfl X07 X0b Xx hr56 hu60 rfl ?_;intro p64 hat63
   refine Ze (Xz (l:=[vi u60.k,vi u60.a,vi u60.b]) rfl Xu hat63 rfl) ?_
   refine Zf (X8 (zs:=[vi 0,vi 0,vi 0]) X3g rfl) ?_;rintro _ w12 ⟨b65,rfl,hl65,hE,hB65⟩
   have hne19_65:b19≠b65:=by have:=hB19.lt;omega
   have hlo65:=Nat.le_trans hW.size hl65
   have haw1_65:=(hr_c.below' hW).away hl65
   have haw56_65:=hr56.away hl65
   replace hB4:=hB4.below hE
   replace hB19:=hB19.below hE
   replace hr56:=hr56.below hE
   replace hW:=btr hW hE
   refine Za rfl ?_
   refine Zo (Vw [vi u60.k,vi u60.a,vi u60.b] X0b hB65) ?_;rintro _ w13 ⟨ho,hb⟩
   have hold:=hB65
   replace hB4:=hB4.only ho (Blk.ne hB4 hold rfl)
   replace hB19:=hB19.only ho (by omega)
   replace hr56:=hr56.onlyA ho haw56_65
   replace hW:=Below.only hW ho hlo65
   clear hold
   have hB65:=hb
   clear hb ho
   refine Zt hK62 fun a hf=>?_
   refine wp_seq_k fun _ hK66=>?_
   refine Xy (fun a w=>Fr a 96 [(1,.slice As s.length cs),(2,.pointer (some ⟨b4,0,none⟩)),(6,vi (i:Int)),(7,.pointer (some ⟨b19,0,none⟩)),(19,.slice Ac c.gs.length cc),(20,vi (c.gs.length:Int)),(21,vi (i:Int)),(72,.slice Ac (c.gs.take i).length cc),(73,vi ((c.gs.take i).length:Int)),(74,vi (q:Int)),(92,.bool (((s.getD q 0)==(s.getD i 0))&&(comS u14 u60)))]∧Below w13.heap.size w13 w) ?_ ?_
   ·have hEc:Below w13.heap.size w13 w13:=Below.refl _ _
    refine Xw none (fun _=>false) mixed ?_
    intro w14 hE
    replace hB4:=hB4.below hE
    replace hB19:=hB19.below hE
    replace hB65:=hB65.below hE
    replace hr56:=hr56.below hE
    replace hW:=btr hW hE
    replace hEc:=btr hEc hE
    refine Yb hf ?_
    refine Yo 0 rfl (fun _=>X2 rfl)<|Yo 1 rfl (fun _=>X2 rfl) ?_
    refine Yi (k:=q) (u:=(s.getD q 0)) (enc:=encI) (l:=s) 2 rfl trivial rfl rfl Xj X0a X7 (hr_s.below' hW) (X0x (by omega)) rfl ?_;intro p68 hat67
    refine Ye 3 rfl (X0 rfl X3 hat67)<|Yo 4 rfl (fun _=>X2 rfl)<|Yo 5 rfl (fun _=>X2 rfl) ?_
    refine Yi (k:=i) (u:=(s.getD i 0)) (enc:=encI) (l:=s) 6 rfl trivial rfl rfl Xj X0a X7 (hr_s.below' hW) (X0x (by omega)) rfl ?_;intro p70 hat69
    refine Ye 7 rfl (X0 rfl X3 hat69)<|Yo 8 rfl (fun _=>X0j rfl rfl)<|Yo 9 rfl (fun _=>X2 rfl) ?_
    refine Yl 88 rfl (fun hg71=>?_) (fun hg71=>?_)
    ·refine Yv 10 rfl ⟨_,_,rfl,rfl,hg71⟩ (Vn Xu hB19) ?_
     refine Yv 11 rfl ⟨_,_,rfl,rfl,hg71⟩ (Vn Xu hB65) ?_
     refine Y1 12 ?_
     refine Yk rfl ⟨_,_,rfl,rfl,hg71⟩ (Vc (Xl0 _ u14 u60) Xel) (fun _ _ ⟨_,hE⟩=>hE) ?_;rintro _ w15 ⟨rfl,hE⟩
     replace hB4:=hB4.below hE
     replace hB19:=hB19.below hE
     replace hB65:=hB65.below hE
     replace hr56:=hr56.below hE
     replace hW:=btr hW hE
     replace hEc:=btr hEc hE
     refine Yo 13 rfl (fun _=>Xe rfl hg71 rfl) ?_
     refine Yd fun a hf=>?_
     have hEE:Below w13.heap.size w13 w15:=hEc
     exact ⟨hf.sub ⟨rfl,rfl,rfl,rfl,rfl,rfl,rfl,rfl,rfl,rfl,X1 rfl (by first|rfl|(simp only [hc7b,hc13b,hc22b,hc33b,hc40b,hc59b,hg71,bs];done)|simp [hc7b,hc13b,hc22b,hc33b,hc40b,hc59b,hg71]),trivial⟩,hEE⟩
    refine Yp 10 rfl ⟨_,_,rfl,rfl,hg71⟩ ?_
    refine Yp 11 rfl ⟨_,_,rfl,rfl,hg71⟩ ?_
    refine Y1 12 ?_
    refine Yq rfl ⟨_,_,rfl,rfl,hg71⟩ ?_
    refine Yo 13 rfl (fun _=>Xa rfl hg71 rfl) ?_
    refine Yd fun a hf=>?_
    have hEE:Below w13.heap.size w13 w14:=hEc
    exact ⟨hf.sub ⟨rfl,rfl,rfl,rfl,rfl,rfl,rfl,rfl,rfl,rfl,X1 rfl (by first|rfl|(simp only [hc7b,hc13b,hc22b,hc33b,hc40b,hc59b,hg71,bs];done)|simp [hc7b,hc13b,hc22b,hc33b,hc40b,hc59b,hg71]),trivial⟩,hEE⟩
   rintro a w16 ⟨hf,hE⟩
   replace hB4:=hB4.below hE
   replace hB19:=hB19.below hE
   replace hB65:=hB65.below hE
   replace hr56:=hr56.below hE
   replace hW:=btr hW hE
   refine hK66 _ _ ?_
   refine Xd hf rfl (fun hc72=>?_) (fun hc72=>?_)
   ·have hc72b:=hc72
    have hp:=hc72
    rw [← hgq] at hp
    have hfin:=X2t hinv hin (Xk2 hgi h12 hx hA2 (X3m (j:=q) (by omega) hp)) (by decide)
    refine Zs hf fun _ hK73=>?_
    refine Zm rfl<|Za rfl<|Za rfl ?_
    refine Zt hK73 fun a hf=>?_
    refine wp_ret ?_
    refine Xk ?_
    refine X4 ?_
    refine X4 ?_
    refine Xk ?_
    refine Xk ?_
    refine X4 ?_
    refine X4 ?_
    refine Xk ?_
    refine X4 ?_
    refine X5 hf (X0z hf rfl rfl rfl) ?_
    exact ⟨by rw [hfin],hW⟩
   have hc72b:=hc72
   have hp:=hc72
   rw [← hgq] at hp
   have hnB:=X2y hB hp
   refine wp_skip ?_
   refine Xh ?_
   refine hK61 _ _ ?_
   refine Zr hf ?_
   refine Ze (Xp rfl rfl (by omega) (by omega))<|Zm rfl ?_
   refine Zn fun a hf=>?_
   refine Xg ?_
   exact ⟨q+1,⟨hf.sub ⟨rfl,rfl,rfl,rfl,rfl,rfl,rfl,rfl,rfl,rfl,trivial⟩,(by omega),hnB,hB4,hB19,hr56,hp_c,hW⟩,(by omega)⟩
  have hc59b:=hc59
  have hc59:=of_decide_eq_false hc59
  rw [show q=i from by omega] at hB
  have hnx:=X44 hinv hin (Xkk hgi h12 hx hA2 hB)
  refine wp_exit ?_
  refine Xf ?_
  refine Xf ?_
  refine Xs ?_
  refine Xh ?_
  refine hK15 _ _ ?_
  refine Zr hf ?_
  refine Ze (Xp rfl rfl (by omega) (by omega))<|Zm rfl ?_
  refine Zn fun a hf=>?_
  refine Xg ?_
  exact ⟨i+1,⟨hf.sub ⟨rfl,rfl,rfl,rfl,rfl,trivial⟩,(by omega),hnx,hB4,hp_c,hW⟩,(by omega)⟩
 have hc13b:=hc13
 have hc13:=of_decide_eq_false hc13
 have hfin:=X7p hinv (by omega)
 refine wp_exit ?_
 refine Xf ?_
 refine Xf ?_
 refine Xs ?_
 refine hK9 _ _ ?_
 refine Zs hf fun _ hK74=>?_
 refine Za rfl<|Za rfl ?_
 refine Zt hK74 fun a hf=>?_
 refine wp_ret (X5 hf (X0z hf rfl rfl rfl) ?_)
 exact ⟨by rw [hfin],hW⟩
end Go.Proofs.YtgkoieoaamkjhaaGreat
set_option maxHeartbeats 1000000
set_option maxRecDepth 4000
namespace Go.Proofs.YtgkoieoaamkjhaaGreat
open Go.RowKit
theorem Xlo(w0:World)(Al:Option Addr)(cl:Nat)(l:List Gt)(hr_l:Rd w0 w0.heap.size 55 encG Al l)(Ato:Option Addr)(cto:Nat)(to:List Int)(hr_to:Rd w0 w0.heap.size 3 encI Ato to)(hq:∀ g ∈ l,(g.k≠12→0≤g.a∧g.a<5)∧(inR g.k 9 11=true→0≤g.b∧g.b<5))(hto:to.length=5)(hln:l.length≤1000000) : Ret Tryz.prog 83 [.slice Al l.length cl,.slice Ato 5 cto] w0 (fun v w=>∃ A c,v=.slice A (mapI l to).length c∧Own w w0.heap.size 55 3 encG A c (mapI l to)∧Below w0.heap.size w0 w):=by
 have h:=F51 w0 Al cl l hr_l Ato cto to hr_to 5 hq hto hln
 rw [hto] at h
 exact h
theorem Xm4(w0:World)(g:Gt)(h:Gt)(n:Int)(hg:gOk n g=true)(hh:gOk n h=true) : Ret Tryz.prog 67 [.agg #[vi g.k,vi g.a,vi g.b],.agg #[vi h.k,vi h.a,vi h.b]] w0 (fun v w=>v=.bool (commI g h)∧Below w0.heap.size w0 w):=by
 have hql:=X27 g
 have hqh:=X27 h
 refine enter Tryz.func67 rfl 64 rfl rfl ?_
 intro a hf
 have hW:Below w0.heap.size w0 w0:=Below.refl _ _
 refine Zs hf fun _ hK1=>?_
 refine Zf (X08 (zs:=[vi g.k,vi g.a,vi g.b]) rfl rfl) ?_;rintro _ w1 ⟨b2,rfl,hl2,hE,hB2⟩
 have hlo2:=Nat.le_trans hW.size hl2
 replace hW:=btr hW hE
 refine Zf (X08 (zs:=[vi h.k,vi h.a,vi h.b]) rfl rfl) ?_;rintro _ w2 ⟨b3,rfl,hl3,hE,hB3⟩
 have hne2_3:b2≠b3:=by have:=hB2.lt;omega
 have hlo3:=Nat.le_trans hW.size hl3
 replace hB2:=hB2.below hE
 replace hW:=btr hW hE
 refine Za rfl ?_
 refine Zt hK1 fun a hf=>?_
 refine wp_seq_k fun _ hK4=>?_
 refine Zs hf fun _ hK5=>?_
 refine Ze (Vn Xu hB2)<|Ze (Vn Xu hB3) ?_
 refine Zf (Vc (Xk6 _ g h) Xev) ?_;rintro _ w3 ⟨rfl,hE⟩
 replace hB2:=hB2.below hE
 replace hB3:=hB3.below hE
 replace hW:=btr hW hE
 refine Ze (X0u rfl) ?_
 refine Zt hK5 fun a hf=>?_
 refine Xd hf rfl (fun hc6=>?_) (fun hc6=>?_)
 ·have hc6b:=hc6
  have hfin:commI g h=true:=by rw [commI,if_neg];revert hc6;cases comI g h<;>simp
  refine Zs hf fun _ hK7=>?_
  refine Za rfl ?_
  refine Zt hK7 fun a hf=>?_
  refine wp_ret ?_
  refine X4 ?_
  refine X5 hf (Xl hf rfl rfl) ?_
  exact ⟨by rw [hfin],hW⟩
 have hc6b:=hc6
 have hc:comI g h=true:=by revert hc6;cases comI g h<;>simp
 have P:PairOk (unionI (qubI g) (qubI h)) g h:=X84 hg hh (Xb5.1 hc) (X6s _ _) (fun x=>X74 _ _ x)
 have hlu:=P.len
 refine wp_skip ?_
 refine hK4 _ _ ?_
 refine Zs hf fun _ hK8=>?_
 refine Zf (X4a (m:=5) (enc:=encI) (z0:=0) rfl rfl Xj X1o z_3 rfl X7 (by decide) (by decide)) ?_;rintro _ w4 ⟨b9,rfl,hl9,hE,hB9⟩
 have hlo9:=Nat.le_trans hW.size hl9
 replace hB2:=hB2.below hE
 replace hB3:=hB3.below hE
 replace hW:=btr hW hE
 refine Za rfl<|Za rfl ?_
 refine Zt hK8 fun a hf=>?_
 refine wp_seq_k fun _ hK11=>?_
 refine wp_seq_k fun _ hK12=>?_
 refine Xw none (fun _=>false) mixed ?_
 intro w5 hE
 replace hB2:=hB2.below hE
 replace hB3:=hB3.below hE
 replace hB9:=hB9.below hE
 replace hW:=btr hW hE
 refine Yb hf ?_
 refine Ye 0 rfl (Vn Xu hB2)<|Ye 2 rfl (Vn Xu hB3)<|Yo 6 rfl (fun _=>X2 rfl) ?_
 refine Y1 1 ?_
 refine Yk rfl trivial (Vc (F96 _ g) Xbe) (fun _ _ ⟨A13,c13,_,ho13,hE⟩=>hE) ?_;rintro _ w6 ⟨A13,c13,rfl,ho13,hE⟩
 have haw13_9:=ho13.awayNew hB9.lt
 replace ho13:=ho13.lower hW.size
 replace hB2:=hB2.below hE
 replace hB3:=hB3.below hE
 replace hB9:=hB9.below hE
 replace hW:=btr hW hE
 refine Y1 3 ?_
 refine Yk rfl trivial (Vc (F96 _ h) Xbe) (fun _ _ ⟨A14,c14,_,ho14,hE⟩=>hE) ?_;rintro _ w7 ⟨A14,c14,rfl,ho14,hE⟩
 have haw14_9:=ho14.awayNew hB9.lt
 replace ho14:=ho14.lower hW.size
 replace hB2:=hB2.below hE
 replace hB3:=hB3.below hE
 replace hB9:=hB9.below hE
 replace ho13:=ho13.below hE
 replace hW:=btr hW hE
 refine Y1 4 ?_
 refine Yk rfl trivial (Vc (F47 _ A13 c13 (qubI g) ho13.rd.top A14 c14 (qubI h) ho14.rd.top (by omega) (by omega)) Xkg) (fun _ _ ⟨A15,c15,_,ho15,hE⟩=>hE) ?_;rintro _ w8 ⟨A15,c15,rfl,ho15,hE⟩
 have haw15_9:=ho15.awayNew hB9.lt
 replace ho15:=ho15.lower hW.size
 replace hB2:=hB2.below hE
 replace hB3:=hB3.below hE
 replace hB9:=hB9.below hE
 replace ho13:=ho13.below hE
 replace ho14:=ho14.below hE
 replace hW:=btr hW hE
 refine Yo 5 rfl (fun _=>X0q rfl Xj) ?_
 refine Yd fun a hf=>?_
 refine hK12 _ _ ?_
 refine wp_block ?_
 refine Xt (σ:=Nat×(List Int)) (fun (s:Nat×(List Int)) (a:Act) (w:World)=>match s with|(k,to)=>Fr a 64 [(2,.pointer (some ⟨b2,0,none⟩)),(3,.pointer (some ⟨b3,0,none⟩)),(5,.slice (some ⟨b9,0,none⟩) 5 5),(6,vi (k:Int)),(23,.slice A15 (unionI (qubI g) (qubI h)).length c15),(24,vi ((unionI (qubI g) (qubI h)).length:Int)),(25,vi (k:Int))]∧(k≤(unionI (qubI g) (qubI h)).length)∧(to=numbI ((unionI (qubI g) (qubI h)).take k))∧Blk w b2 55 [vi g.k,vi g.a,vi g.b]∧Blk w b3 55 [vi h.k,vi h.a,vi h.b]∧Blk w b9 3 (to.flatMap encI)∧Own w w0.heap.size 3 1 encI A15 c15 (unionI (qubI g) (qubI h))∧Below w0.heap.size w0 w) (fun (s:Nat×(List Int))=>match s with|(k,to)=>(unionI (qubI g) (qubI h)).length-k) (0,[0,0,0,0,0]) ?_ ?_
 ·exact ⟨hf.sub ⟨rfl,rfl,rfl,rfl,rfl,rfl,rfl,trivial⟩,(Nat.zero_le _),rfl,hB2,hB3,hB9,ho15,hW⟩
 rintro ⟨k,to⟩ a w9 ⟨hf,hk,hto,hB2,hB3,hB9,ho15,hW⟩
 have hlt:to.length=5:=by rw [hto,X95]
 refine Zs hf fun _ hK16=>?_
 refine Ze (X06 rfl rfl) ?_
 refine Zt hK16 fun a hf=>?_
 refine wp_seq_k fun _ hK17=>?_
 refine Xd hf rfl (fun hc18=>?_) (fun hc18=>?_)
 ·have hc18b:=hc18
  have hc18:=of_decide_eq_true hc18
  obtain ⟨u19,hu19⟩:=Xi (l:=(unionI (qubI g) (qubI h))) (k:=k) (by omega)
  have hb:=P.low u19 (List.mem_of_getElem? hu19)
  refine wp_skip ?_
  refine hK17 _ _ ?_
  refine wp_seq_k fun _ hK20=>?_
  refine wp_block ?_
  refine Zs hf fun _ hK21=>?_
  refine Zi (k:=k) (u:=u19) (enc:=encI) (l:=(unionI (qubI g) (qubI h))) trivial rfl rfl Xj X0a X7 ho15.rd hu19 rfl ?_;intro p23 hat22
  refine Ze (X0 rfl X3 hat22)<|Za rfl ?_
  refine Zt hK21 fun a hf=>?_
  refine Zs hf fun _ hK24=>?_
  refine Zm rfl<|Zm rfl<|Zm rfl<|Ze (X87 (k:=u19.toNat) (off:=u19.toNat*1) rfl rfl Xj X0a (by omega) (by omega) rfl) ?_
  refine Zo (X7u (enc:=encI) (l:=to) (u:=(k:Int)) (k:=u19.toNat) rfl rfl X0a hB9 X7 X20 rfl (by omega)) ?_;rintro _ w10 ⟨ho,hb⟩
  have hold:=hB9
  replace hB2:=hB2.only ho (Blk.ne hB2 hold rfl)
  replace hB3:=hB3.only ho (Blk.ne hB3 hold rfl)
  replace ho15:=ho15.onlyA ho haw15_9
  replace hW:=Below.only hW ho hlo9
  clear hold
  have hB9:=hb
  clear hb ho
  refine Zt hK24 fun a hf=>?_
  refine Zr hf ?_
  refine Zm rfl<|Ze (Xp rfl rfl (by omega) (by omega))<|Za rfl ?_
  refine Zn fun a hf=>?_
  refine Xh ?_
  refine hK20 _ _ ?_
  refine Zr hf ?_
  refine Ze (Xp rfl rfl (by omega) (by omega))<|Zm rfl ?_
  refine Zn fun a hf=>?_
  refine Xg ?_
  exact ⟨(k+1,(to.set (u19.toNat) (k:Int))),⟨hf.sub ⟨rfl,rfl,rfl,rfl,rfl,rfl,rfl,trivial⟩,(by omega),(by rw [X6r hu19,hto]),hB2,hB3,hB9,ho15,hW⟩,(by first|omega|(dsimp only;omega))⟩
 have hc18b:=hc18
 have hc18:=of_decide_eq_false hc18
 have hfin:commI g h=eqM ((opI ⟨(k:Int),mapI [g,h] to⟩).getD mZ) ((opI ⟨(k:Int),[mapG to h,mapG to g]⟩).getD mZ):=by rw [commI,if_pos hc,hto,List.take_of_length_le (by omega),show k=(unionI (qubI g) (qubI h)).length from by omega]
 refine wp_exit ?_
 refine Xf ?_
 refine Xf ?_
 refine Xs ?_
 refine hK11 _ _ ?_
 refine Zs hf fun _ hK25=>?_
 refine Ze (Vn Xu hB2)<|Ze (Vn Xu hB3) ?_
 refine Zf (Xn (k:=2) (vs:=[.agg #[vi g.k,vi g.a,vi g.b],.agg #[vi h.k,vi h.a,vi h.b]]) (zs:=[vi g.k,vi g.a,vi g.b,vi h.k,vi h.a,vi h.b]) rfl X07 X1c rfl rfl) ?_;rintro _ w11 ⟨b26,rfl,hl26,hE,hB26⟩
 have hne2_26:b2≠b26:=by have:=hB2.lt;omega
 have hne3_26:b3≠b26:=by have:=hB3.lt;omega
 have hlo26:=Nat.le_trans hW.size hl26
 replace hB2:=hB2.below hE
 replace hB3:=hB3.below hE
 replace hB9:=hB9.below hE
 replace ho15:=ho15.below hE
 replace hW:=btr hW hE
 refine Zm rfl ?_
 refine Zf (Vc (Xlo _ (some ⟨b26,0,none⟩) 2 ([g,h]) (Rd.of_blk hB26 rfl _ hB26.lt) (some ⟨b9,0,none⟩) 5 to (Rd.of_blk hB9 rfl _ hB9.lt) (Xbw (n:=n) (l:=[g,h]) (fun x hx=>by rcases List.mem_cons.1 hx with rfl|hx;exact hg;rw [List.mem_singleton.1 hx];exact hh)) hlt (by simp)) Xl2) ?_;rintro _ w12 ⟨A28,c28,rfl,ho28,hE⟩
 have haw28_2:=ho28.awayNew hB2.lt
 have haw28_3:=ho28.awayNew hB3.lt
 have haw28_26:=ho28.awayNew hB26.lt
 replace ho28:=ho28.lower hW.size
 replace hB2:=hB2.below hE
 replace hB3:=hB3.below hE
 replace hB9:=hB9.below hE
 replace hB26:=hB26.below hE
 replace ho15:=ho15.below hE
 replace hW:=btr hW hE
 refine Za rfl ?_
 refine Zt hK25 fun a hf=>?_
 refine Zs hf fun _ hK29=>?_
 refine Zm rfl<|Zm rfl<|Ze (Xr (ps:=[(0,vi (k:Int)),(1,.slice A28 (mapI ([g,h]) to).length c28)]) (cs:=[vi (k:Int),.slice A28 (mapI ([g,h]) to).length c28]) rfl (fun _=>by first|rfl|kernel_rfl)) ?_
 refine Zf (Vc (F97 _ (⟨(k:Int),(mapI ([g,h]) to)⟩ : Cx) A28 c28 ho28.rd.top (by simp [mapI])) Xdi) ?_;rintro _ w13 ⟨A31,c31,rfl,hr31,hE⟩
 replace ho28:=ho28.below hE
 replace hW:=btr hW hE
 refine Zm rfl<|Ze (X9 (vs:=[.agg #[vi (((opI (⟨(k:Int),(mapI ([g,h]) to)⟩ : Cx)).getD mZ).rows),vi (((opI (⟨(k:Int),(mapI ([g,h]) to)⟩ : Cx)).getD mZ).cols),.slice A31 (((opI (⟨(k:Int),(mapI ([g,h]) to)⟩ : Cx)).getD mZ).cells).length c31],.bool ((opI (⟨(k:Int),(mapI ([g,h]) to)⟩ : Cx)).isSome)]) rfl rfl)<|Ze (X9 (vs:=[.agg #[vi (((opI (⟨(k:Int),(mapI ([g,h]) to)⟩ : Cx)).getD mZ).rows),vi (((opI (⟨(k:Int),(mapI ([g,h]) to)⟩ : Cx)).getD mZ).cols),.slice A31 (((opI (⟨(k:Int),(mapI ([g,h]) to)⟩ : Cx)).getD mZ).cells).length c31],.bool ((opI (⟨(k:Int),(mapI ([g,h]) to)⟩ : Cx)).isSome)]) rfl rfl) ?_
 refine Zf (X8 (zs:=[vi 0,vi 0,.slice none 0 0]) X0t rfl) ?_;rintro _ w14 ⟨b33,rfl,hl33,hE,hB33⟩
 have hlo33:=Nat.le_trans hW.size hl33
 replace ho28:=ho28.below hE
 replace hr31:=hr31.below hE
 replace hW:=btr hW hE
 refine Zo (Vw [vi (((opI (⟨(k:Int),(mapI ([g,h]) to)⟩ : Cx)).getD mZ).rows),vi (((opI (⟨(k:Int),(mapI ([g,h]) to)⟩ : Cx)).getD mZ).cols),.slice A31 (((opI (⟨(k:Int),(mapI ([g,h]) to)⟩ : Cx)).getD mZ).cells).length c31] X15 hB33) ?_;rintro _ w15 ⟨ho,hb⟩
 have hold:=hB33
 replace ho28:=ho28.onlyT ho hold rfl
 replace hr31:=hr31.onlyT ho hold rfl
 replace hW:=Below.only hW ho hlo33
 clear hold
 have hB33:=hb
 clear hb ho
 refine Za rfl ?_
 refine Zt hK29 fun a hf=>?_
 refine wp_seq_k fun _ hK34=>?_
 refine Xy (fun a w=>∃ b44 A42 c42,Fr a 64 [(10,.pointer (some ⟨b33,0,none⟩)),(12,.pointer (some ⟨b44,0,none⟩))]∧w0.heap.size≤b44∧Blk w b44 84 [vi (((opI (⟨(k:Int),[(mapG to h),(mapG to g)]⟩ : Cx)).getD mZ).rows),vi (((opI (⟨(k:Int),[(mapG to h),(mapG to g)]⟩ : Cx)).getD mZ).cols),.slice A42 (((opI (⟨(k:Int),[(mapG to h),(mapG to g)]⟩ : Cx)).getD mZ).cells).length c42]∧b33≠b44∧Rd w w.heap.size 97 encD A42 (((opI (⟨(k:Int),[(mapG to h),(mapG to g)]⟩ : Cx)).getD mZ).cells)∧Below w15.heap.size w15 w) ?_ ?_
 ·have hEc:Below w15.heap.size w15 w15:=Below.refl _ _
  refine Xw none (fun j=>[14].contains j) mixed ?_
  intro w16 hE
  replace hB33:=hB33.below hE
  replace ho28:=ho28.below hE
  replace hr31:=hr31.below hE
  replace hW:=btr hW hE
  replace hEc:=btr hEc hE
  refine Yb hf ?_
  refine Yo 0 rfl (fun _=>X2 rfl)<|Yo 1 rfl (fun _=>X2 rfl) ?_
  refine Yi (k:=1) (u:=(mapG to h)) (enc:=encG) (l:=(mapI ([g,h]) to)) 2 rfl trivial rfl rfl X07 X0b Xx ho28.rd rfl rfl ?_;intro p36 hat35
  refine Ye 3 rfl (Xz (l:=[vi ((mapG to h).k),vi ((mapG to h).a),vi ((mapG to h).b)]) rfl Xu hat35 rfl)<|Yo 4 rfl (fun _=>X2 rfl) ?_
  refine Yi (k:=0) (u:=(mapG to g)) (enc:=encG) (l:=(mapI ([g,h]) to)) 5 rfl trivial rfl rfl X07 X0b Xx ho28.rd rfl rfl ?_;intro p38 hat37
  refine Ye 6 rfl (Xz (l:=[vi ((mapG to g).k),vi ((mapG to g).a),vi ((mapG to g).b)]) rfl Xu hat37 rfl) ?_
  have hJc:Below w16.heap.size w16 w16:=Below.refl _ _
  refine Yc [0,1,2,3,4,5,6,7,8,9,10,11,12,13] 2 (fun a w=>∃ b44 A42 c42,Fr a 64 [(10,.pointer (some ⟨b33,0,none⟩)),(12,.pointer (some ⟨b44,0,none⟩)),(59,.agg #[vi (((opI (⟨(k:Int),[(mapG to h),(mapG to g)]⟩ : Cx)).getD mZ).rows),vi (((opI (⟨(k:Int),[(mapG to h),(mapG to g)]⟩ : Cx)).getD mZ).cols),.slice A42 (((opI (⟨(k:Int),[(mapG to h),(mapG to g)]⟩ : Cx)).getD mZ).cells).length c42]),(60,.bool ((opI (⟨(k:Int),[(mapG to h),(mapG to g)]⟩ : Cx)).isSome))]∧w0.heap.size≤b44∧Blk w b44 84 [vi 0,vi 0,.slice none 0 0]∧b33≠b44∧w16.heap.size≤b44∧w15.heap.size≤b44∧Rd w w.heap.size 97 encD A42 (((opI (⟨(k:Int),[(mapG to h),(mapG to g)]⟩ : Cx)).getD mZ).cells)∧Below w16.heap.size w16 w) ?_ ?_
  ·rintro a w17 ⟨b44,A42,c42,hf,hlo44,hB44,hne33_44,hlj44,hlc44,hr42,hE⟩
   clear hJc
   have hJc:=hE
   replace hB33:=hB33.below hE
   replace ho28:=ho28.below hE
   replace hr31:=hr31.below hE
   replace hW:=btr hW hE
   replace hEc:=btr hEc hE
   refine Yb hf ?_
   refine Y1 14 ?_
   refine Yh rfl trivial rfl (Vw [vi (((opI (⟨(k:Int),[(mapG to h),(mapG to g)]⟩ : Cx)).getD mZ).rows),vi (((opI (⟨(k:Int),[(mapG to h),(mapG to g)]⟩ : Cx)).getD mZ).cols),.slice A42 (((opI (⟨(k:Int),[(mapG to h),(mapG to g)]⟩ : Cx)).getD mZ).cells).length c42] X15 hB44) ?_;rintro _ w18 ⟨ho,hb⟩
   have hold:=hB44
   replace hB33:=hB33.only ho (by omega)
   replace ho28:=ho28.onlyT ho hold rfl
   replace hr31:=hr31.onlyT ho hold rfl
   replace hr42:=hr42.onlyT ho hold rfl
   replace hEc:=Below.only hEc ho hlc44
   replace hJc:=Below.only hJc ho hlj44
   replace hW:=Below.only hW ho hlo44
   clear hold
   have hB44:=hb
   clear hb ho
   refine Yo 15 rfl (fun _=>X1s rfl) ?_
   refine Yd fun a hf=>?_
   have hEE:Below w15.heap.size w15 w18:=hEc
   exact ⟨b44,A42,c42,hf.sub ⟨rfl,rfl,trivial⟩,hlo44,hB44,hne33_44,hr42.top,hEE⟩
  intro hJ39
  refine Yc [0,1,2,3,4,5,6,7,8,13] 6 (fun a w=>∃ b39 b46,Fr a 64 [(10,.pointer (some ⟨b33,0,none⟩)),(12,.pointer (some ⟨b46,0,none⟩)),(57,.agg #[vi (k:Int),.slice (some ⟨b39,0,none⟩) ([(mapG to h),(mapG to g)]).length 2])]∧w0.heap.size≤b39∧Blk w b39 55 [vi ((mapG to h).k),vi ((mapG to h).a),vi ((mapG to h).b),vi ((mapG to g).k),vi ((mapG to g).a),vi ((mapG to g).b)]∧w0.heap.size≤b46∧Blk w b46 84 [vi 0,vi 0,.slice none 0 0]∧b33≠b46∧w16.heap.size≤b39∧w15.heap.size≤b39∧w16.heap.size≤b46∧w15.heap.size≤b46∧Away A28 b39∧Below w16.heap.size w16 w) ?_ ?_
  ·rintro a w19 ⟨b39,b46,hf,hlo39,hB39,hlo46,hB46,hne33_46,hlj39,hlc39,hlj46,hlc46,haw28_39,hE⟩
   clear hJc
   have hJc:=hE
   replace hB33:=hB33.below hE
   replace ho28:=ho28.below hE
   replace hr31:=hr31.below hE
   replace hW:=btr hW hE
   replace hEc:=btr hEc hE
   refine Yb hf ?_
   refine Y1 9 ?_
   refine Yk rfl trivial (Vc (F97 _ (⟨(k:Int),[(mapG to h),(mapG to g)]⟩ : Cx) (some ⟨b39,0,none⟩) 2 (Rd.of_blk hB39 rfl _ hB39.lt) (by simp)) Xdi) (fun _ _ ⟨A43,c43,_,hr43,hE⟩=>hE) ?_;rintro _ w20 ⟨A43,c43,rfl,hr43,hE⟩
   replace hB33:=hB33.below hE
   replace hB39:=hB39.below hE
   replace hB46:=hB46.below hE
   replace ho28:=ho28.below hE
   replace hr31:=hr31.below hE
   replace hW:=btr hW hE
   replace hEc:=btr hEc hE
   replace hJc:=btr hJc hE
   refine Yo 10 rfl (fun _=>X2 rfl)<|Yo 11 rfl (fun _=>X9 (vs:=[.agg #[vi (((opI (⟨(k:Int),[(mapG to h),(mapG to g)]⟩ : Cx)).getD mZ).rows),vi (((opI (⟨(k:Int),[(mapG to h),(mapG to g)]⟩ : Cx)).getD mZ).cols),.slice A43 (((opI (⟨(k:Int),[(mapG to h),(mapG to g)]⟩ : Cx)).getD mZ).cells).length c43],.bool ((opI (⟨(k:Int),[(mapG to h),(mapG to g)]⟩ : Cx)).isSome)]) rfl rfl)<|Yo 12 rfl (fun _=>X9 (vs:=[.agg #[vi (((opI (⟨(k:Int),[(mapG to h),(mapG to g)]⟩ : Cx)).getD mZ).rows),vi (((opI (⟨(k:Int),[(mapG to h),(mapG to g)]⟩ : Cx)).getD mZ).cols),.slice A43 (((opI (⟨(k:Int),[(mapG to h),(mapG to g)]⟩ : Cx)).getD mZ).cells).length c43],.bool ((opI (⟨(k:Int),[(mapG to h),(mapG to g)]⟩ : Cx)).isSome)]) rfl rfl) ?_
   exact fun a hf=>hJ39 _ a _ rfl ⟨b46,A43,c43,hf.sub ⟨rfl,rfl,rfl,rfl,trivial⟩,hlo46,hB46,hne33_46,hlj46,hlc46,hr43.top,hJc⟩
  intro hJ41
  refine Y2 7 13 ?_ ?_
  ·refine Yk rfl trivial (Xn (k:=2) (vs:=[.agg #[vi ((mapG to h).k),vi ((mapG to h).a),vi ((mapG to h).b)],.agg #[vi ((mapG to g).k),vi ((mapG to g).a),vi ((mapG to g).b)]]) (zs:=[vi ((mapG to h).k),vi ((mapG to h).a),vi ((mapG to h).b),vi ((mapG to g).k),vi ((mapG to g).a),vi ((mapG to g).b)]) rfl X07 X1c rfl rfl) (fun _ _ ⟨_,_,_,h,_⟩=>h) ?_;rintro _ w21 ⟨b44,rfl,hl44,hE,hB44⟩
   have hlo44:=Nat.le_trans hW.size hl44
   have hlc44:=Nat.le_trans hEc.size hl44
   have hlj44:=Nat.le_trans hJc.size hl44
   have haw28_44:=ho28.away hl44
   replace hB33:=hB33.below hE
   replace ho28:=ho28.below hE
   replace hr31:=hr31.below hE
   replace hW:=btr hW hE
   replace hEc:=btr hEc hE
   replace hJc:=btr hJc hE
   refine Yo 8 rfl (fun _=>Xr (ps:=[(0,vi (k:Int)),(1,.slice (some ⟨b44,0,none⟩) ([(mapG to h),(mapG to g)]).length 2)]) (cs:=[vi (k:Int),.slice (some ⟨b44,0,none⟩) ([(mapG to h),(mapG to g)]).length 2]) rfl (fun _=>by first|rfl|kernel_rfl)) ?_
   refine Y2 9 13 ?_ ?_
   ·refine Yk rfl trivial (Vc (F97 _ (⟨(k:Int),[(mapG to h),(mapG to g)]⟩ : Cx) (some ⟨b44,0,none⟩) 2 (Rd.of_blk hB44 rfl _ hB44.lt) (by simp)) Xdi) (fun _ _ ⟨A47,c47,_,hr47,hE⟩=>hE) ?_;rintro _ w22 ⟨A47,c47,rfl,hr47,hE⟩
    replace hB33:=hB33.below hE
    replace hB44:=hB44.below hE
    replace ho28:=ho28.below hE
    replace hr31:=hr31.below hE
    replace hW:=btr hW hE
    replace hEc:=btr hEc hE
    replace hJc:=btr hJc hE
    refine Yo 10 rfl (fun _=>X2 rfl)<|Yo 11 rfl (fun _=>X9 (vs:=[.agg #[vi (((opI (⟨(k:Int),[(mapG to h),(mapG to g)]⟩ : Cx)).getD mZ).rows),vi (((opI (⟨(k:Int),[(mapG to h),(mapG to g)]⟩ : Cx)).getD mZ).cols),.slice A47 (((opI (⟨(k:Int),[(mapG to h),(mapG to g)]⟩ : Cx)).getD mZ).cells).length c47],.bool ((opI (⟨(k:Int),[(mapG to h),(mapG to g)]⟩ : Cx)).isSome)]) rfl rfl)<|Yo 12 rfl (fun _=>X9 (vs:=[.agg #[vi (((opI (⟨(k:Int),[(mapG to h),(mapG to g)]⟩ : Cx)).getD mZ).rows),vi (((opI (⟨(k:Int),[(mapG to h),(mapG to g)]⟩ : Cx)).getD mZ).cols),.slice A47 (((opI (⟨(k:Int),[(mapG to h),(mapG to g)]⟩ : Cx)).getD mZ).cells).length c47],.bool ((opI (⟨(k:Int),[(mapG to h),(mapG to g)]⟩ : Cx)).isSome)]) rfl rfl) ?_
    refine Y1 13 ?_
    refine Yk rfl trivial (X8 (zs:=[vi 0,vi 0,.slice none 0 0]) X0t rfl) (fun _ _ ⟨_,_,_,h,_⟩=>h) ?_;rintro _ w23 ⟨b49,rfl,hl49,hE,hB49⟩
    have hne33_49:b33≠b49:=by have:=hB33.lt;omega
    have hlo49:=Nat.le_trans hW.size hl49
    have hlc49:=Nat.le_trans hEc.size hl49
    have hlj49:=Nat.le_trans hJc.size hl49
    replace hB33:=hB33.below hE
    replace hB44:=hB44.below hE
    replace ho28:=ho28.below hE
    replace hr31:=hr31.below hE
    replace hr47:=hr47.below hE
    replace hW:=btr hW hE
    replace hEc:=btr hEc hE
    replace hJc:=btr hJc hE
    exact fun a hf=>hJ39 _ a _ rfl ⟨b49,A47,c47,hf.sub ⟨rfl,rfl,rfl,rfl,trivial⟩,hlo49,hB49,hne33_49,hlj49,hlc49,hr47.top,hJc⟩
   refine Yk rfl trivial (X8 (zs:=[vi 0,vi 0,.slice none 0 0]) X0t rfl) (fun _ _ ⟨_,_,_,h,_⟩=>h) ?_;rintro _ w24 ⟨b51,rfl,hl51,hE,hB51⟩
   have hne33_51:b33≠b51:=by have:=hB33.lt;omega
   have hlo51:=Nat.le_trans hW.size hl51
   have hlc51:=Nat.le_trans hEc.size hl51
   have hlj51:=Nat.le_trans hJc.size hl51
   replace hB33:=hB33.below hE
   replace hB44:=hB44.below hE
   replace ho28:=ho28.below hE
   replace hr31:=hr31.below hE
   replace hW:=btr hW hE
   replace hEc:=btr hEc hE
   replace hJc:=btr hJc hE
   exact fun a hf=>hJ41 _ a _ rfl ⟨b44,b51,hf.sub ⟨rfl,rfl,rfl,trivial⟩,hlo44,hB44,hlo51,hB51,hne33_51,hlj44,hlc44,hlj51,hlc51,haw28_44,hJc⟩
  refine Yk rfl trivial (X8 (zs:=[vi 0,vi 0,.slice none 0 0]) X0t rfl) (fun _ _ ⟨_,_,_,h,_⟩=>h) ?_;rintro _ w25 ⟨b53,rfl,hl53,hE,hB53⟩
  have hne33_53:b33≠b53:=by have:=hB33.lt;omega
  have hlo53:=Nat.le_trans hW.size hl53
  have hlc53:=Nat.le_trans hEc.size hl53
  have hlj53:=Nat.le_trans hJc.size hl53
  replace hB33:=hB33.below hE
  replace ho28:=ho28.below hE
  replace hr31:=hr31.below hE
  replace hW:=btr hW hE
  replace hEc:=btr hEc hE
  replace hJc:=btr hJc hE
  refine Y1 7 ?_
  refine Yk rfl trivial (Xn (k:=2) (vs:=[.agg #[vi ((mapG to h).k),vi ((mapG to h).a),vi ((mapG to h).b)],.agg #[vi ((mapG to g).k),vi ((mapG to g).a),vi ((mapG to g).b)]]) (zs:=[vi ((mapG to h).k),vi ((mapG to h).a),vi ((mapG to h).b),vi ((mapG to g).k),vi ((mapG to g).a),vi ((mapG to g).b)]) rfl X07 X1c rfl rfl) (fun _ _ ⟨_,_,_,h,_⟩=>h) ?_;rintro _ w26 ⟨b54,rfl,hl54,hE,hB54⟩
  have hlo54:=Nat.le_trans hW.size hl54
  have hlc54:=Nat.le_trans hEc.size hl54
  have hlj54:=Nat.le_trans hJc.size hl54
  have haw28_54:=ho28.away hl54
  replace hB33:=hB33.below hE
  replace hB53:=hB53.below hE
  replace ho28:=ho28.below hE
  replace hr31:=hr31.below hE
  replace hW:=btr hW hE
  replace hEc:=btr hEc hE
  replace hJc:=btr hJc hE
  refine Yo 8 rfl (fun _=>Xr (ps:=[(0,vi (k:Int)),(1,.slice (some ⟨b54,0,none⟩) ([(mapG to h),(mapG to g)]).length 2)]) (cs:=[vi (k:Int),.slice (some ⟨b54,0,none⟩) ([(mapG to h),(mapG to g)]).length 2]) rfl (fun _=>by first|rfl|kernel_rfl)) ?_
  exact fun a hf=>hJ41 _ a _ rfl ⟨b54,b53,hf.sub ⟨rfl,rfl,rfl,trivial⟩,hlo54,hB54,hlo53,hB53,hne33_53,hlj54,hlc54,hlj53,hlc53,haw28_54,hJc⟩
 rintro a w27 ⟨b44,A42,c42,hf,hlo44,hB44,hne33_44,hr42,hE⟩
 replace hB33:=hB33.below hE
 replace ho28:=ho28.below hE
 replace hr31:=hr31.below hE
 replace hW:=btr hW hE
 refine hK34 _ _ ?_
 refine Zs hf fun _ hK57=>?_
 refine Ze (Vn X0o hB33)<|Ze (Vn X0o hB44) ?_
 refine Zf (Vc (Xmy _ ((opI (⟨(k:Int),(mapI ([g,h]) to)⟩ : Cx)).getD mZ) A31 c31 hr31.top ((opI (⟨(k:Int),[(mapG to h),(mapG to g)]⟩ : Cx)).getD mZ) A42 c42 hr42.top (Xi1 _)) Xi8) ?_;rintro _ w28 ⟨rfl,hE⟩
 replace hB33:=hB33.below hE
 replace hB44:=hB44.below hE
 replace hr31:=hr31.below hE
 replace hr42:=hr42.below hE
 replace hW:=btr hW hE
 refine Za rfl ?_
 refine Zt hK57 fun a hf=>?_
 refine wp_ret (X5 hf (Xl hf rfl rfl) ?_)
 exact ⟨by rw [hfin];rfl,hW⟩
end Go.Proofs.YtgkoieoaamkjhaaGreat
namespace Go.Proofs.YtgkoieoaamkjhaaGreat
open Go.RowKit
def kV(x y:Gt) : Value:=.agg #[.int .i64 x.k,.int .i64 x.a,.int .i64 x.b,.int .i64 y.k,.int .i64 y.a,.int .i64 y.b]
theorem Xep:Tryz.prog.cellsOf 55=3:=by kernel_rfl
theorem eqK(x y x' y':Gt)(w:World) : (Op.equal 102 (kV x y) (kV x' y')).run Tryz.prog w=.ok (decide (x=x')&&decide (y=y')) w:=by
 obtain ⟨i,hi,_⟩:=Xu.2
 unfold Op.equal kV
 refine (run_equalIn_array w 9999 _ _ Tryz.underlying102 hi).trans ?_
 rw [Xep,show List.range 2=[0,1] from rfl]
 simp only [Op.eqItems,Sem.run_bind,X2r Xu,Result.andThen_ok]
 rw [show (Op.equalIn 9999 55 (.agg (#[Value.int .i64 x.k,.int .i64 x.a,.int .i64 x.b,.int .i64 y.k,.int .i64 y.a,.int .i64 y.b].extract (0*3) (0*3+3))) (.agg (#[Value.int .i64 x'.k,.int .i64 x'.a,.int .i64 x'.b,.int .i64 y'.k,.int .i64 y'.a,.int .i64 y'.b].extract (0*3) (0*3+3)))).run Tryz.prog w=.ok (decide (x=x')) w from Xe7 9997 x x' w]
 simp only [Result.andThen_ok]
 by_cases h:x=x'
 ·rw [decide_eq_true h]
  simp only [Bool.not_true,Bool.false_eq_true,if_false,Sem.run_bind,X2r Xu,Result.andThen_ok,Bool.true_and]
  rw [show (Op.equalIn 9999 55 (.agg (#[Value.int .i64 x.k,.int .i64 x.a,.int .i64 x.b,.int .i64 y.k,.int .i64 y.a,.int .i64 y.b].extract (1*3) (1*3+3))) (.agg (#[Value.int .i64 x'.k,.int .i64 x'.a,.int .i64 x'.b,.int .i64 y'.k,.int .i64 y'.a,.int .i64 y'.b].extract (1*3) (1*3+3)))).run Tryz.prog w=.ok (decide (y=y')) w from Xe7 9997 y y' w]
  simp only [Result.andThen_ok]
  by_cases h2:y=y'
  ·rw [decide_eq_true h2];rfl
  ·rw [decide_eq_false h2];rfl
 ·rw [decide_eq_false h]
  rfl
theorem Xbq(em:Bool)(n:Nat)(g:Gt)(w:World) : (Instr.checkKey em (n+2) 55 (gV g)).run Tryz.prog w=.ok () w:=by
 rw [Instr.checkKey]
 simp only [Sem.run_bind,X09 Tryz.underlying55,Result.andThen_ok]
 simp [X4v X3,MapKept.run_checkKey Tryz.underlying3 (show MapKept.IsKey (.int .i64) (.int .i64 _) from rfl),gV]
theorem Xaj(em:Bool)(x y:Gt)(w:World) : (Instr.checkKey em 10000 102 (kV x y)).run Tryz.prog w=.ok () w:=by
 rw [show (10000:Nat)=9999+1 from rfl,Instr.checkKey]
 simp only [Sem.run_bind,X09 Tryz.underlying102,Result.andThen_ok,kV]
 simp only [Std.Legacy.Range.forIn_eq_forIn_range',Std.Legacy.Range.size,Nat.sub_zero,Nat.add_one_sub_one,Nat.div_one]
 rw [show List.range' 0 2=[0,1] from rfl]
 simp only [List.forIn_cons,List.forIn_nil,Sem.run_bind,run_sizeOf' Xu.2,X2r Xu,Result.andThen_ok]
 rw [show (Instr.checkKey em 9999 55 (.agg (#[Value.int .i64 x.k,.int .i64 x.a,.int .i64 x.b,.int .i64 y.k,.int .i64 y.a,.int .i64 y.b].extract (0*3) (0*3+3)))).run Tryz.prog w=.ok () w from Xbq em 9997 x w]
 simp only [Result.andThen_ok,Sem.run_bind,Sem.run_pure,run_sizeOf' Xu.2,X2r Xu]
 rw [show (Instr.checkKey em 9999 55 (.agg (#[Value.int .i64 x.k,.int .i64 x.a,.int .i64 x.b,.int .i64 y.k,.int .i64 y.a,.int .i64 y.b].extract (1*3) (1*3+3)))).run Tryz.prog w=.ok () w from Xbq em 9997 y w]
 rfl
structure Me where (x y:Gt) (v:Bool) (born:Nat)
def entM(m:Me) : MapEntry:={ key:=kV m.x m.y,val:=.bool m.v,born:=m.born }
def findM(l:List Me)(x y:Gt) : Option Bool:=(l.find? fun m=>decide (x=m.x)&&decide (y=m.y)).map Me.v
def GoodM(l:List Me) : Prop:=∀ m ∈ l,m.v = !commI m.x m.y
def MemoL(w:World)(b:Nat)(l:List Me)(clock:Nat) : Prop:=w.heap[b]? = some (.map (l.map entM).toArray clock)
def MemoG(w:World)(b:Nat) : Prop:=∃ l clock,MemoL w b l clock∧GoodM l
def MemoN(x y:Gt)(w:World)(b:Nat) : Prop:=∃ l clock,MemoL w b l clock∧GoodM l∧findM l x y=none
theorem MemoL.lt{w:World}{b clock:Nat}{l:List Me}(h:MemoL w b l clock) : b<w.heap.size:=by
 rcases Nat.lt_or_ge b w.heap.size with h'|h'
 ·exact h'
 ·simp [MemoL,Array.getElem?_eq_none h'] at h
theorem MemoL.below{w w':World}{b clock:Nat}{l:List Me}(h:MemoL w b l clock)(hb:Below w.heap.size w w') : MemoL w' b l clock:=(hb.block b h.lt).trans h
theorem MemoL.only{w w':World}{b b' clock:Nat}{l:List Me}(h:MemoL w b l clock)(ho:Only b' w w')(hne:b≠b') : MemoL w' b l clock:=(ho.block b hne).trans h
theorem MemoL.ne{w:World}{b b' clock:Nat}{l:List Me}{T:TypeId}{cs:List Value}(h:MemoL w b l clock)(hb:Blk w b' T cs) : b≠b':=by
 rintro rfl
 unfold MemoL at h
 unfold Blk at hb
 rw [h] at hb
 cases hb
section
variable {w w' : World} {b b' : Nat} {x y : Gt}
theorem MemoG.lt(h:MemoG w b) : b<w.heap.size:=let ⟨_,_,h,_⟩:=h;h.lt
theorem MemoG.below(h:MemoG w b)(hb:Below w.heap.size w w') : MemoG w' b:=let ⟨l,c,h,g⟩:=h;⟨l,c,h.below hb,g⟩
theorem MemoG.only(h:MemoG w b)(ho:Only b' w w')(hne:b≠b') : MemoG w' b:=let ⟨l,c,h,g⟩:=h;⟨l,c,h.only ho hne,g⟩
theorem MemoG.ne{T:TypeId}{cs:List Value}(h:MemoG w b)(hb:Blk w b' T cs) : b≠b':=let ⟨_,_,h,_⟩:=h;h.ne hb
theorem MemoG.good(h:MemoG w b) : MemoG w b:=h
theorem MemoN.good(h:MemoN x y w b) : MemoG w b:=let ⟨l,c,h,g,_⟩:=h;⟨l,c,h,g⟩
theorem MemoN.lt(h:MemoN x y w b) : b<w.heap.size:=let ⟨_,_,h,_⟩:=h;h.lt
theorem MemoN.below(h:MemoN x y w b)(hb:Below w.heap.size w w') : MemoN x y w' b:=let ⟨l,c,h,g⟩:=h;⟨l,c,h.below hb,g⟩
theorem MemoN.only(h:MemoN x y w b)(ho:Only b' w w')(hne:b≠b') : MemoN x y w' b:=let ⟨l,c,h,g⟩:=h;⟨l,c,h.only ho hne,g⟩
theorem MemoN.ne{T:TypeId}{cs:List Value}(h:MemoN x y w b)(hb:Blk w b' T cs) : b≠b':=let ⟨_,_,h,_⟩:=h;h.ne hb
theorem Blk.onlyM{T:TypeId}{cs:List Value}(h:Blk w b' T cs)(ho:Only b w w')(hm:MemoG w b) : Blk w' b' T cs:=h.only ho (Ne.symm (hm.ne h))
theorem Rd.onlyM{α:Type}{B:Nat}{E:TypeId}{enc:α→List Value}{A:Option Addr}{l:List α}(h:Rd w B E enc A l)(ho:Only b w w')(hm:MemoG w b) : Rd w' B E enc A l:=h.chg fun k cs fz _ hk=>ho.block k fun e=>by
 obtain ⟨_,_,hL,_⟩:=hm
 unfold MemoL at hL
 rw [e,hL] at hk
 cases hk
end
theorem X5y{x y:Gt}(w:World) : ∀ (l:List Me) (i:Nat),(findM l x y=none∧(Instr.findAsking 102 (kV x y) (l.map entM) i).run Tryz.prog w=.ok none w)∨∃ j v,findM l x y=some v∧(Instr.findAsking 102 (kV x y) (l.map entM) i).run Tryz.prog w=.ok (some (j,.bool v)) w
 | [],i=>.inl ⟨rfl,rfl⟩
 | m::l,i=>by
  have he:=eqK x y m.x m.y w
  cases hb:(decide (x=m.x)&&decide (y=m.y)) with
  | true=>
   right
   refine ⟨i,m.v,by simp only [findM,List.find?_cons,hb,Option.map_some],?_⟩
   simp only [List.map_cons,Instr.findAsking,Sem.run_bind]
   rw [show (Op.equal 102 (kV x y) (entM m).key).run Tryz.prog w=_ from he,hb]
   rfl
  | false=>
   have hf:findM (m::l) x y=findM l x y:=by simp only [findM,List.find?_cons,hb]
   have hs:(Instr.findAsking 102 (kV x y) ((m::l).map entM) i).run Tryz.prog w=(Instr.findAsking 102 (kV x y) (l.map entM) (i+1)).run Tryz.prog w:=by
    simp only [List.map_cons,Instr.findAsking,Sem.run_bind]
    rw [show (Op.equal 102 (kV x y) (entM m).key).run Tryz.prog w=_ from he,hb]
    rfl
   rw [hf,hs]
   exact X5y w l (i+1)
theorem Xbx{l:List Me}{x y:Gt}{v:Bool}(h:GoodM l)(hf:findM l x y=some v) : v = !commI x y:=by
 unfold findM at hf
 rw [Option.map_eq_some_iff] at hf
 obtain ⟨m,h1,h2⟩:=hf
 have h3:=List.find?_some h1
 simp only [Bool.and_eq_true,decide_eq_true_eq] at h3
 rw [← h2,h m (List.mem_of_find?_eq_some h1),h3.1,h3.2]
def LookM(w:World)(b:Nat)(x y:Gt)(v k:Bool) : Prop:=∃ l clock,MemoL w b l clock∧((k=true∧findM l x y=some v)∨(k=false∧v=false∧findM l x y=none))
theorem MemoG.look{w:World}{b:Nat}(h:MemoG w b)(x y:Gt) : ∃ v k,LookM w b x y v k∧(k=true→v = !commI x y)∧(k=false→MemoN x y w b):=by
 obtain ⟨l,clock,hL,hg⟩:=h
 cases hf:findM l x y with
 | none=>exact ⟨false,false,⟨l,clock,hL,.inr ⟨rfl,rfl,hf⟩⟩,(fun h=>by cases h),fun _=>⟨l,clock,hL,hg,hf⟩⟩
 | some v=>exact ⟨v,true,⟨l,clock,hL,.inl ⟨rfl,hf⟩⟩,fun _=>Xbx hg hf,(fun h=>by cases h)⟩
section
variable {a : Act} {w : World} {n : Nat} {e : Env} {ty : TypeId} {pos : String} {af : Array Edge} {g : Option (Nat × Bool)} {d : Option Tmp} {x y : Gt} {b : Nat}
theorem X5r(w:World)(l:List Me) : (Instr.findKey 102 (kV x y) (l.map entM)).run Tryz.prog w=(Instr.findAsking 102 (kV x y) (l.map entM) 0).run Tryz.prog w:=
 run_findKey_eq w (by rw [Tryz.underlying102]) _ _
set_option maxRecDepth 20000 in
theorem Xdx{m q:Operand}{v k:Bool}(hf:Fr a n e)(hm:ev e m=some (.map (some b)))(hx:ev e q=some (kV x y))(h:LookM w b x y v k) :
  Ev Tryz.prog ⟨d,.lookup 64 m q true,ty,pos,af,g⟩ a w (.tuple #[.bool v,.bool k]):=fun w' hw=>by
 obtain ⟨l,clock,hL,hc⟩:=h
 have hL':=hL.below hw
 unfold MemoL at hL'
 have hz:(zeroValue 4).run Tryz.prog w'=.ok (.bool false) w':=by kernel_rfl
 rcases X5y (x:=x) (y:=y) w' l 0 with ⟨h1,h2⟩|⟨j,u,h1,h2⟩
 ·rcases hc with ⟨_,hc⟩|⟨rfl,rfl,_⟩
  ·rw [h1] at hc;cases hc
  ·simp [execOp,Instr.lookup,hf.ev hm,hf.ev hx,X09 Tryz.underlying64,getObj,Sem.run,hL',Xaj,X5r,h2,hz]
 ·rcases hc with ⟨rfl,hc⟩|⟨_,_,hc⟩
  ·rw [h1] at hc
   injection hc with hc
   subst hc
   simp [execOp,Instr.lookup,hf.ev hm,hf.ev hx,X09 Tryz.underlying64,getObj,Sem.run,hL',Xaj,X5r,h2]
  ·rw [h1] at hc;cases hc
set_option maxRecDepth 20000 in
theorem Xj0{m q:Operand}{v k:Bool}(hm:ev e m=some (.map (some b)))(hx:ev e q=some (kV x y))(h:LookM w b x y v k) : EvW Tryz.prog ⟨d,.lookup 64 m q true,ty,pos,af,g⟩ n e w (.tuple #[.bool v,.bool k]):=fun a hf=>Xdx hf hm hx h
set_option maxRecDepth 20000 in
theorem Xal{m q z:Operand}{v:Bool}(hf:Fr a n e)(hm:ev e m=some (.map (some b)))(hx:ev e q=some (kV x y))(hy:ev e z=some (.bool v))(h:MemoN x y w b)(hv:v = !commI x y) :
  Ef Tryz.prog ⟨d,.mapUpdate 64 m q z,ty,pos,af,g⟩ a w (fun _ w'=>Only b w w'∧MemoG w' b):=by
 obtain ⟨l,clock,hL,hg,hn⟩:=h
 have hlt:=hL.lt
 have hfd:(Instr.findKey 102 (kV x y) (l.map entM)).run Tryz.prog w=.ok none w:=by
  rw [X5r]
  rcases X5y (x:=x) (y:=y) w l 0 with ⟨_,h2⟩|⟨j,u,h1,_⟩
  ·exact h2
  ·rw [hn] at h1;cases h1
 unfold MemoL at hL
 refine (Ef.of_skip (w':={ w with heap:=w.heap.setIfInBounds b (.map ((l++[(⟨x,y,v,clock⟩ : Me)]).map entM).toArray (clock+1)) }) ?_).mono fun _ w' ⟨_,e2⟩=>?_
 ·simp [execOp,Instr.mapUpdate,hf.ev hm,hf.ev hx,hf.ev hy,X09 Tryz.underlying64,getObj,hL,Xaj,hfd,setObj,Sem.run,entM]
 ·subst e2
  refine ⟨⟨rfl,rfl,rfl,by simp,fun k hk=>?_⟩,l++[(⟨x,y,v,clock⟩ : Me)],clock+1,?_,fun m hm=>?_⟩
  ·show (w.heap.setIfInBounds b _)[k]? = _
   rw [Array.getElem?_setIfInBounds_ne (Ne.symm hk)]
  ·show (w.heap.setIfInBounds b _)[b]? = _
   simp [hlt]
  ·rcases List.mem_append.1 hm with hm|hm
   ·exact hg m hm
   ·rw [List.mem_singleton.1 hm];exact hv
set_option maxRecDepth 20000 in
theorem Xf6{m q z:Operand}{v:Bool}(hm:ev e m=some (.map (some b)))(hx:ev e q=some (kV x y))(hy:ev e z=some (.bool v))(h:MemoN x y w b)(hv:v = !commI x y) : EfW Tryz.prog ⟨d,.mapUpdate 64 m q z,ty,pos,af,g⟩ n e w (fun _ w'=>Only b w w'∧MemoG w' b):=fun a hf=>Xal hf hm hx hy h hv
theorem X9l:Ef Tryz.prog ⟨d,.makeMap 64 none,ty,pos,af,g⟩ a w (fun v w'=>∃ b,v=.map (some b)∧w.heap.size≤b∧Below w.heap.size w w'∧MemoG w' b):=
 X6i.mono fun _ _ ⟨b,h1,h2,h3,h4⟩=>⟨b,h1,h2,h3,[],0,h4,fun m hm=>by cases hm⟩
theorem Xcs{n:Nat}{e:List (Nat×Value)}  : EfW Tryz.prog ⟨d,.makeMap 64 none,ty,pos,af,g⟩ n e w (fun v w'=>∃ b,v=.map (some b)∧w.heap.size≤b∧Below w.heap.size w w'∧MemoG w' b):=fun a _=>X9l
end
section
variable {P : Program} {a : Act} {w : World} {n : Nat} {e : Env} {ty : TypeId} {pos : String} {af : Array Edge} {g : Option (Nat × Bool)} {d : Option Tmp}
theorem X94{T E:TypeId}{len sz b off m k:Nat}{x y:Operand}{i:Int}(hf:Fr a n e)(hx:ev e x=some (.pointer (some ⟨b,off,none⟩)))(hy:ev e y=some (.int .i64 i))(hT:P.underlying T=some (.array len E))(hs:SizeT P E sz)(hi:i=(k:Int))(hk:k<len)(hm:off+k*sz=m) :
  Ev P ⟨d,.indexAddr T x y,ty,pos,af,g⟩ a w (.pointer (some ⟨b,m,none⟩)):=fun w' _=>by
 subst hi hm
 have h1:=X09 (P:=P) hT w'
 have h2:=run_sizeOf' hs w'
 simp [execOp,Instr.indexAt,asIntOf,Instr.sureAddr,hf.ev hx,hf.ev hy,h1,h2,hk,X19]
theorem X6y{T E:TypeId}{len sz b off m k:Nat}{x y:Operand}{i:Int}(hx:ev e x=some (.pointer (some ⟨b,off,none⟩)))(hy:ev e y=some (.int .i64 i))(hT:P.underlying T=some (.array len E))(hs:SizeT P E sz)(hi:i=(k:Int))(hk:k<len)(hm:off+k*sz=m) : EvW P ⟨d,.indexAddr T x y,ty,pos,af,g⟩ n e w (.pointer (some ⟨b,m,none⟩)):=fun a hf=>X94 hf hx hy hT hs hi hk hm
end
theorem Rd.atM{α:Type}{w:World}{B b0:Nat}{E:TypeId}{enc:α→List Value}{A:Option Addr}{l:List α}{sz:Nat}(hsz:∀ x,(enc x).length=sz)(h:Rd w B E enc A l){k:Nat}{x:α}(hk:l[k]? = some x)
  (hb:MemoG w b0) : ∃ p,A=some p∧At w (p.add (k*sz)) (enc x)∧(p.add (k*sz)).block≠b0:=by
 obtain ⟨p,h1,h2⟩:=h.at hsz hk
 refine ⟨p,h1,h2,?_⟩
 have hl:l≠[]:=by rintro rfl;simp at hk
 obtain ⟨b,off,cs,fz,h3,h4,h5,h6⟩:=h hl
 rw [h1] at h3
 injection h3 with h3
 subst h3
 rw [X2x]
 rintro rfl
 obtain ⟨_,_,hL,_⟩:=hb
 unfold MemoL at hL
 rw [h5] at hL
 cases hL
section
variable {P : Program} {a : Act} {w : World} {n : Nat} {e : Env} {α : Type} {ops : Array Oper} {ty : TypeId} {pos : String} {af : Array Edge} {g : Option (Nat × Bool)} {d : Nat}
theorem Xc0{b0:Nat}{Q:Act→World→Prop}{tl:Nat→Bool}{fuel:Nat}{done:List Nat}{T E:TypeId}{sz B:Nat}{x y:Operand}{enc:α→List Value}{A:Option Addr}{c:Nat}{l:List α}{k:Nat}{i:Int}{u:α}(j:Nat)
  (ho:ops[j]? = some ⟨some d,.indexAddr T x y,ty,pos,af,g⟩) (hm:mayFirst ops done j=true) (hf:Fr a n e) (hw:Want ops ⟨some d,.indexAddr T x y,ty,pos,af,g⟩ e) (hn:Nat.blt d n=true)
  (hb:MemoG w b0)
  (hx:ev e x=some (.slice A l.length c)) (hy:ev e y=some (.int .i64 i)) (hT:SliceT P T E) (hs:SizeT P E sz) (hsz:∀ x,(enc x).length=sz) (hr:Rd w B E enc A l) (hk:l[k]? = some u) (hi:i=(k:Int))
  (h:∀ a' p,At w p (enc u)→p.block≠b0→Fr a' n ((d,.pointer (some p))::e)→wpS P ops (some b0) tl Q fuel (mask ops (j::done)) a' w) : wpS P ops (some b0) tl Q (fuel+1) (mask ops done) a w:=by
 obtain ⟨p,rfl,hat,hne⟩:=hr.atM hsz hk hb
 exact Xbl j ho hm hf hw rfl hn (fun w=>X3h hf hx hy hT hs hi (List.getElem?_eq_some_iff.1 hk).1) fun a' hf'=>h a' _ hat hne hf'
theorem Yy{b0:Nat}{Q:Act→World→Prop}{tl:Nat→Bool}{fuel:Nat}{done:List Nat}{T E:TypeId}{sz B:Nat}{x y:Operand}{enc:α→List Value}{A:Option Addr}{c:Nat}{l:List α}{k:Nat}{i:Int}{u:α}(j:Nat)
  (ho:ops[j]? = some ⟨some d,.indexAddr T x y,ty,pos,af,g⟩) (hw:Want ops ⟨some d,.indexAddr T x y,ty,pos,af,g⟩ e) (hb:MemoG w b0)
  (hx:ev e x=some (.slice A l.length c)) (hy:ev e y=some (.int .i64 i)) (hT:SliceT P T E) (hs:SizeT P E sz) (hsz:∀ x,(enc x).length=sz) (hr:Rd w B E enc A l) (hk:l[k]? = some u) (hi:i=(k:Int))
  (h:∀ p,At w p (enc u)→p.block≠b0→WS P ops (some b0) tl Q fuel (j::done) n ((d,.pointer (some p))::e) w) (hm:mayFirst ops done j=true:=by kernel_rfl) (hn:Nat.blt d n=true:=by rfl) : WS P ops (some b0) tl Q (fuel+1) done n e w:=
 fun _ hf=>Xc0 j ho hm hf hw hn hb hx hy hT hs hsz hr hk hi fun a' p hp hne hf'=>h p hp hne a' hf'
end
theorem X8z{gs:List Gt}{i:Nat}(h:i<gs.length) : gs[i]? = some (gs.getD i gZ):=by
 rw [List.getD_eq_getElem?_getD,List.getElem?_eq_getElem h];rfl
section
variable {gs : List Gt} {s : List Int} {i : Nat} {g : Gt}
theorem Xkx(hg:gs.getD i gZ=g)(h:(g.k==12&&s.getD i 0 != 0||g.k != 12&&!inR (s.getD i 0) 1 400)=true) : faultI gs s i=1:=by
 rw [faultI,hg,faultH,if_pos h]
theorem Xk8(hg:gs.getD i gZ=g)(h:(g.k==12&&s.getD i 0 != 0||g.k != 12&&!inR (s.getD i 0) 1 400)=false)(ha:(List.range i).any (qA gs s g (s.getD i 0))=true) : faultI gs s i=2:=by
 rw [faultI,hg,faultH,if_neg (by rw [h];simp),if_pos ha]
theorem Xkv(hg:gs.getD i gZ=g)(h:(g.k==12&&s.getD i 0 != 0||g.k != 12&&!inR (s.getD i 0) 1 400)=false)(ha:(List.range i).any (qA gs s g (s.getD i 0))=false)(hb:(List.range i).any (qB gs s g (s.getD i 0))=true) : faultI gs s i=3:=by
 rw [faultI,hg,faultH,if_neg (by rw [h];simp),if_neg (by rw [ha];simp),if_pos hb]
theorem Xl7(hg:gs.getD i gZ=g)(h:(g.k==12&&s.getD i 0 != 0||g.k != 12&&!inR (s.getD i 0) 1 400)=false)(ha:(List.range i).any (qA gs s g (s.getD i 0))=false)(hb:(List.range i).any (qB gs s g (s.getD i 0))=false) : faultI gs s i=0:=by
 rw [faultI,hg,faultH,if_neg (by rw [h];simp),if_neg (by rw [ha];simp),if_neg (by rw [hb];simp)]
end
end Go.Proofs.YtgkoieoaamkjhaaGreat
set_option maxHeartbeats 1000000
set_option maxRecDepth 4000
namespace Go.Proofs.YtgkoieoaamkjhaaGreat
open Go.RowKit
theorem Xn7(w0:World)(bV:Nat)(hBV:MemoG w0 bV)(c:Cx)(A:Option Addr)(cc:Nat)(hr_c:Rd w0 w0.heap.size 55 encG A c.gs)(hc:cOk c=true)(i:Nat)(hi:i<c.gs.length)(j:Nat)(hj:j<c.gs.length) : Ret Tryz.prog 57 [.agg #[vi c.n,.slice A c.gs.length cc,.map (some bV)],vi (i:Int),vi (j:Int)] w0 (fun v w=>v=.bool (!commI (c.gs.getD j gZ) (c.gs.getD i gZ))∧Kept bV w0.heap.size w0 w∧MemoG w bV):=by
 have hltV:=hBV.lt
 obtain ⟨hcn,hcl,hcg⟩:=X2g hc
 obtain ⟨y,hy9⟩:=Xi (l:=c.gs) (k:=i) hi
 have ey:=X3k hy9
 have hgy:=hcg _ (List.mem_of_getElem? hy9)
 obtain ⟨x,hx9⟩:=Xi (l:=c.gs) (k:=j) hj
 have ex:=X3k hx9
 have hgx:=hcg _ (List.mem_of_getElem? hx9)
 refine enter Tryz.func57 rfl 43 rfl rfl ?_
 intro a hf
 have hW:Kept bV w0.heap.size w0 w0:=Kept.refl _ _ _
 refine Zs hf fun _ hK2=>?_
 refine Zf (X08 (zs:=[vi c.n,.slice A c.gs.length cc,.map (some bV)]) rfl rfl) ?_;rintro _ w1 ⟨b3,rfl,hl3,hE,hB3⟩
 have hlo3:=Nat.le_trans hW.size hl3
 replace hBV:=hBV.below hE
 replace hr_c:=hr_c.below hE
 replace hW:=ktr hW hE
 refine Za rfl ?_
 refine Zt hK2 fun a hf=>?_
 refine wp_seq_k fun _ hK4=>?_
 refine Xw none (fun j=>[14].contains j) mixed ?_
 intro w2 hE
 replace hBV:=hBV.below hE
 replace hB3:=hB3.below hE
 replace hr_c:=hr_c.below hE
 replace hW:=ktr hW hE
 refine Yb hf ?_
 refine Yo 0 rfl (fun _=>Vd rfl X4j 0)<|Yo 1 rfl (fun _=>Vd rfl X0h 1)<|Ye 2 rfl (X0 rfl X18 (hB3.at 1))<|Yo 3 rfl (fun _=>X2 rfl) ?_
 refine Yi (k:=j) (u:=x) (enc:=encG) (l:=c.gs) 4 rfl trivial rfl rfl X07 X0b Xx hr_c hx9 rfl ?_;intro p6 hat5
 refine Ye 5 rfl (Xz (l:=[vi x.k,vi x.a,vi x.b]) rfl Xu hat5 rfl)<|Yo 6 rfl (fun _=>Vd rfl X4j 0)<|Yo 7 rfl (fun _=>Vd rfl X0h 1)<|Ye 8 rfl (X0 rfl X18 (hB3.at 1))<|Yo 9 rfl (fun _=>X2 rfl) ?_
 refine Yi (k:=i) (u:=y) (enc:=encG) (l:=c.gs) 10 rfl trivial rfl rfl X07 X0b Xx hr_c hy9 rfl ?_;intro p8 hat7
 refine Ye 11 rfl (Xz (l:=[vi y.k,vi y.a,vi y.b]) rfl Xu hat7 rfl)<|Yo 12 rfl (fun _=>Xr (ps:=[(0,.agg #[vi x.k,vi x.a,vi x.b]),(1,.agg #[vi y.k,vi y.a,vi y.b])]) (cs:=[vi x.k,vi x.a,vi x.b,vi y.k,vi y.a,vi y.b]) rfl (fun _=>by first|rfl|kernel_rfl)) ?_
 refine Y1 13 ?_
 refine Yk rfl trivial (X8 (zs:=[vi 0,vi 0,vi 0,vi 0,vi 0,vi 0]) Xk3 rfl) (fun _ _ ⟨_,_,_,h,_⟩=>h) ?_;rintro _ w3 ⟨b9,rfl,hl9,hE,hB9⟩
 have hlo9:=Nat.le_trans hW.size hl9
 replace hBV:=hBV.below hE
 replace hB3:=hB3.below hE
 replace hr_c:=hr_c.below hE
 replace hW:=ktr hW hE
 refine Y1 14 ?_
 refine Yh rfl trivial rfl (Vw [vi x.k,vi x.a,vi x.b,vi y.k,vi y.a,vi y.b] Xj7 hB9) ?_;rintro _ w4 ⟨ho,hb⟩
 have hold:=hB9
 replace hBV:=hBV.only ho (hBV.ne hold)
 replace hB3:=hB3.only ho (Blk.ne hB3 hold rfl)
 replace hr_c:=hr_c.onlyT ho hold rfl
 replace hW:=Kept.only hW ho hlo9
 clear hold
 have hB9:=hb
 clear hb ho
 refine Yd fun a hf=>?_
 refine hK4 _ _ ?_
 refine Zs hf fun _ hK10=>?_
 refine Ze (Vd rfl X9t 2)<|Ze (X0 rfl Xez (hB3.at 2))<|Ze (Vn Xdo hB9) ?_
 obtain ⟨vq,kq,hlk,hvk,hnf⟩:=hBV.look x y
 refine Ze (Xj0 rfl rfl hlk)<|Zm rfl<|Ze (X9 (vs:=[.bool vq,.bool kq]) rfl rfl)<|Ze (X9 (vs:=[.bool vq,.bool kq]) rfl rfl)<|Za rfl ?_
 refine Za rfl ?_
 refine Zt hK10 fun a hf=>?_
 refine wp_seq_k fun _ hK11=>?_
 refine Zs hf fun _ hK12=>?_
 refine Zm rfl<|Ze (X0u rfl) ?_
 refine Zt hK12 fun a hf=>?_
 refine Xd hf rfl (fun hc13=>?_) (fun hc13=>?_)
 ·have hc13b:=hc13
  replace hBV:=hnf (by simpa using hc13)
  refine Zs hf fun _ hK14=>?_
  refine Ze (X6y (k:=0) (sz:=3) rfl rfl Tryz.underlying102 X0b rfl (by decide) (m:=0) rfl)<|Ze (Xz (l:=[vi x.k,vi x.a,vi x.b]) rfl Xu ((hB9.at 0).take 3) rfl)<|Ze (X6y (k:=1) (sz:=3) rfl rfl Tryz.underlying102 X0b rfl (by decide) (m:=3) rfl)<|Ze (Xz (l:=[vi y.k,vi y.a,vi y.b]) rfl Xu ((hB9.at 3).take 3) rfl) ?_
  refine Zf (Vc (Xm4 _ x y c.n hgx hgy) Xhe) ?_;rintro _ w5 ⟨rfl,hE⟩
  replace hBV:=hBV.below hE
  replace hB3:=hB3.below hE
  replace hB9:=hB9.below hE
  replace hr_c:=hr_c.below hE
  replace hW:=ktr hW hE
  refine Ze (X0u rfl)<|Za rfl ?_
  refine Zt hK14 fun a hf=>?_
  refine Zr hf ?_
  refine Ze (Vd rfl X9t 2)<|Ze (X0 rfl Xez (hB3.at 2))<|Ze (Vn Xdo hB9)<|Zm rfl ?_
  refine Zo (Xf6 (x:=x) (y:=y) (v:=!(commI x y)) rfl rfl rfl hBV rfl) ?_;rintro _ w6 ⟨ho,hmap⟩
  have hmo:=hBV.good
  replace hB3:=hB3.onlyM ho hmo
  replace hB9:=hB9.onlyM ho hmo
  replace hr_c:=hr_c.onlyM ho hmo
  replace hW:=hW.self ho
  replace hBV:=hmap;clear hmap ho hmo
  refine Zt hK11 fun a hf=>?_
  refine Zs hf fun _ hK15=>?_
  refine Zm rfl<|Za rfl ?_
  refine Zt hK15 fun a hf=>?_
  refine wp_ret (X5 hf (Xl hf rfl rfl) ?_)
  exact ⟨by rw [ex,ey],hW,hBV⟩
 have hc13b:=hc13
 have hk9:kq=true:=by simpa using hc13
 have hv9:=hvk hk9
 refine wp_skip ?_
 refine hK11 _ _ ?_
 refine Zs hf fun _ hK16=>?_
 refine Zm rfl<|Za rfl ?_
 refine Zt hK16 fun a hf=>?_
 refine wp_ret (X5 hf (Xl hf rfl rfl) ?_)
 exact ⟨by rw [ex,ey,hv9],hW,hBV⟩
end Go.Proofs.YtgkoieoaamkjhaaGreat
set_option maxRecDepth 4000
namespace Go.Proofs.YtgkoieoaamkjhaaGreat
open Go.RowKit
theorem F56(w0:World)(bV:Nat)(hBV:MemoG w0 bV)(c:Cx)(A:Option Addr)(cc:Nat)(hr_c:Rd w0 w0.heap.size 55 encG A c.gs)(hc:cOk c=true)(i:Nat)(hi:i<c.gs.length)(B:Option Addr)(cs:Nat)(s:List Int)(hr_s:Rd w0 w0.heap.size 3 encI B s)(hls:s.length=c.gs.length) : Ret Tryz.prog 41 [.agg #[vi c.n,.slice A c.gs.length cc,.map (some bV)],vi (i:Int),.slice B s.length cs] w0 (fun v w=>v=vi (faultI c.gs s i)∧Kept bV w0.heap.size w0 w∧MemoG w bV):=by
 have hltV:=hBV.lt
 obtain ⟨hcn,hcl,hcg⟩:=X2g hc
 obtain ⟨y,hy9⟩:=Xi (l:=c.gs) (k:=i) hi
 have ey:=X3k hy9
 have hgy:=hcg _ (List.mem_of_getElem? hy9)
 refine enter Tryz.func41 rfl 83 rfl rfl ?_
 intro a hf
 have hW:Kept bV w0.heap.size w0 w0:=Kept.refl _ _ _
 refine Zs hf fun _ hK3=>?_
 refine Zf (X08 (zs:=[vi c.n,.slice A c.gs.length cc,.map (some bV)]) rfl rfl) ?_;rintro _ w1 ⟨b4,rfl,hl4,hE,hB4⟩
 have hlo4:=Nat.le_trans hW.size hl4
 replace hBV:=hBV.below hE
 replace hr_c:=hr_c.below hE
 replace hr_s:=hr_s.below hE
 replace hW:=ktr hW hE
 refine Za rfl ?_
 refine Zt hK3 fun a hf=>?_
 refine Zs hf fun _ hK5=>?_
 refine Ze (Vd rfl X4j 0)<|Ze (Vd rfl X0h 1)<|Ze (X0 rfl X18 (hB4.at 1))<|Zm rfl ?_
 refine Zi (k:=i) (u:=y) (enc:=encG) (l:=c.gs) trivial rfl rfl X07 X0b Xx hr_c hy9 rfl ?_;intro p7 hat6
 refine Ze (Xz (l:=[vi y.k,vi y.a,vi y.b]) rfl Xu hat6 rfl) ?_
 refine Zf (X8 (zs:=[vi 0,vi 0,vi 0]) X3g rfl) ?_;rintro _ w2 ⟨b8,rfl,hl8,hE,hB8⟩
 have hlo8:=Nat.le_trans hW.size hl8
 have haw1_8:=hr_c.away hl8
 replace hBV:=hBV.below hE
 replace hB4:=hB4.below hE
 replace hr_c:=hr_c.below hE
 replace hr_s:=hr_s.below hE
 replace hW:=ktr hW hE
 refine Zo (Vw [vi y.k,vi y.a,vi y.b] X0b hB8) ?_;rintro _ w3 ⟨ho,hb⟩
 have hold:=hB8
 replace hBV:=hBV.only ho (hBV.ne hold)
 replace hB4:=hB4.only ho (Blk.ne hB4 hold rfl)
 replace hr_c:=hr_c.only ho hlo8
 replace hr_s:=hr_s.onlyT ho hold rfl
 replace hW:=Kept.only hW ho hlo8
 clear hold
 have hB8:=hb
 clear hb ho
 refine Zt hK5 fun a hf=>?_
 refine wp_seq_k fun _ hK9=>?_
 refine wp_seq_k fun _ hK10=>?_
 refine Xy (fun a w=>Fr a 83 [(1,vi (i:Int)),(2,.slice B s.length cs),(3,.pointer (some ⟨b4,0,none⟩)),(7,.pointer (some ⟨b8,0,none⟩)),(38,.bool (((y.k==12)&&((s.getD i 0) != 0))||((y.k != 12)&&(!(inR (s.getD i 0) 1 400)))))]∧w3=w) ?_ ?_
 ·refine Zr hf ?_
  refine Ze (Vd rfl X04 0)<|Ze (X0 rfl X3 (hB8.at 0))<|Ze (X0j rfl rfl)<|Zm rfl ?_
  refine Zg 19 rfl (fun hg11=>?_) (fun hg11=>?_)
  ·refine Zv ⟨_,_,rfl,rfl,hg11⟩ (X2 rfl) ?_
   refine Zv ⟨_,_,rfl,rfl,hg11⟩ (X2 rfl) ?_
   refine Zi (k:=i) (u:=(s.getD i 0)) (enc:=encI) (l:=s) ⟨_,_,rfl,rfl,hg11⟩ rfl rfl Xj X0a X7 hr_s (X0x (by omega)) rfl ?_;intro p13 hat12
   refine Zv ⟨_,_,rfl,rfl,hg11⟩ (X0 rfl X3 hat12) ?_
   refine Zv ⟨_,_,rfl,rfl,hg11⟩ (X1e rfl rfl) ?_
   refine Ze (Xe rfl hg11 rfl)<|Zm rfl ?_
   refine Zg 26 rfl (fun hg14=>?_) (fun hg14=>?_)
   ·refine Zp ⟨_,_,rfl,rfl,hg14⟩ ?_
    refine Zp ⟨_,_,rfl,rfl,hg14⟩ ?_
    refine Zp ⟨_,_,rfl,rfl,hg14⟩ ?_
    refine Zp ⟨_,_,rfl,rfl,hg14⟩ ?_
    refine Zp ⟨_,_,rfl,rfl,trivial⟩ ?_
    refine Zp ⟨_,_,rfl,rfl,trivial⟩ ?_
    refine Zp ⟨_,_,rfl,rfl,trivial⟩ ?_
    refine Zp ⟨_,_,rfl,rfl,trivial⟩ ?_
    refine Zp ⟨_,_,rfl,rfl,trivial⟩ ?_
    refine Zp ⟨_,_,rfl,rfl,trivial⟩ ?_
    refine Zp ⟨_,_,rfl,rfl,hg14⟩ ?_
    refine Ze (Xe rfl hg14 rfl) ?_
    refine Zn fun a hf=>?_
    exact ⟨hf.sub ⟨rfl,rfl,rfl,rfl,X1 rfl (by first|rfl|(simp only [hg11,hg14,bs];done)|simp [hg11,hg14]),trivial⟩,rfl⟩
   refine Zv ⟨_,_,rfl,rfl,hg14⟩ (Vd rfl X04 0) ?_
   refine Zv ⟨_,_,rfl,rfl,hg14⟩ (X0 rfl X3 (hB8.at 0)) ?_
   refine Zv ⟨_,_,rfl,rfl,hg14⟩ (X1e rfl rfl) ?_
   refine Zv ⟨_,_,rfl,rfl,hg14⟩ (X2 rfl) ?_
   refine Zg 30 rfl (fun hg15=>?_) (fun hg15=>?_)
   ·refine Zv ⟨_,_,rfl,rfl,hg15⟩ (X2 rfl) ?_
    refine Zv ⟨_,_,rfl,rfl,hg15⟩ (X2 rfl) ?_
    refine Zi (k:=i) (u:=(s.getD i 0)) (enc:=encI) (l:=s) ⟨_,_,rfl,rfl,hg15⟩ rfl rfl Xj X0a X7 hr_s (X0x (by omega)) rfl ?_;intro p17 hat16
    refine Zv ⟨_,_,rfl,rfl,hg15⟩ (X0 rfl X3 hat16) ?_
    refine Zk ⟨_,_,rfl,rfl,hg15⟩ (Vc (F91 _ (s.getD i 0) 1 400) X2o) ?_;rintro _ _ ⟨rfl,rfl⟩
    refine Zv ⟨_,_,rfl,rfl,hg15⟩ (X0u rfl) ?_
    refine Zv ⟨_,_,rfl,rfl,hg14⟩ (Xe rfl hg15 rfl) ?_
    refine Ze (Xa rfl hg14 rfl) ?_
    refine Zn fun a hf=>?_
    exact ⟨hf.sub ⟨rfl,rfl,rfl,rfl,X1 rfl (by first|rfl|(simp only [hg11,hg14,hg15,bs];done)|simp [hg11,hg14,hg15]),trivial⟩,rfl⟩
   refine Zp ⟨_,_,rfl,rfl,hg15⟩ ?_
   refine Zp ⟨_,_,rfl,rfl,hg15⟩ ?_
   refine Zp ⟨_,_,rfl,rfl,hg15⟩ ?_
   refine Zp ⟨_,_,rfl,rfl,hg15⟩ ?_
   refine Zp ⟨_,_,rfl,rfl,hg15⟩ ?_
   refine Zp ⟨_,_,rfl,rfl,hg15⟩ ?_
   refine Zv ⟨_,_,rfl,rfl,hg14⟩ (Xa rfl hg15 rfl) ?_
   refine Ze (Xa rfl hg14 rfl) ?_
   refine Zn fun a hf=>?_
   exact ⟨hf.sub ⟨rfl,rfl,rfl,rfl,X1 rfl (by first|rfl|(simp only [hg11,hg14,hg15,bs];done)|simp [hg11,hg14,hg15]),trivial⟩,rfl⟩
  refine Zp ⟨_,_,rfl,rfl,hg11⟩ ?_
  refine Zp ⟨_,_,rfl,rfl,hg11⟩ ?_
  refine Zp ⟨_,_,rfl,rfl,hg11⟩ ?_
  refine Zp ⟨_,_,rfl,rfl,hg11⟩ ?_
  refine Zp ⟨_,_,rfl,rfl,hg11⟩ ?_
  refine Ze (Xa rfl hg11 rfl)<|Zm rfl<|Zv ⟨_,_,rfl,rfl,rfl⟩ (Vd rfl X04 0) ?_
  refine Zv ⟨_,_,rfl,rfl,rfl⟩ (X0 rfl X3 (hB8.at 0)) ?_
  refine Zv ⟨_,_,rfl,rfl,rfl⟩ (X1e rfl rfl) ?_
  refine Zv ⟨_,_,rfl,rfl,rfl⟩ (X2 rfl) ?_
  refine Zg 30 rfl (fun hg18=>?_) (fun hg18=>?_)
  ·refine Zv ⟨_,_,rfl,rfl,hg18⟩ (X2 rfl) ?_
   refine Zv ⟨_,_,rfl,rfl,hg18⟩ (X2 rfl) ?_
   refine Zi (k:=i) (u:=(s.getD i 0)) (enc:=encI) (l:=s) ⟨_,_,rfl,rfl,hg18⟩ rfl rfl Xj X0a X7 hr_s (X0x (by omega)) rfl ?_;intro p20 hat19
   refine Zv ⟨_,_,rfl,rfl,hg18⟩ (X0 rfl X3 hat19) ?_
   refine Zk ⟨_,_,rfl,rfl,hg18⟩ (Vc (F91 _ (s.getD i 0) 1 400) X2o) ?_;rintro _ _ ⟨rfl,rfl⟩
   refine Zv ⟨_,_,rfl,rfl,hg18⟩ (X0u rfl) ?_
   refine Zv ⟨_,_,rfl,rfl,rfl⟩ (Xe rfl hg18 rfl) ?_
   refine Ze (Xa rfl rfl rfl) ?_
   refine Zn fun a hf=>?_
   exact ⟨hf.sub ⟨rfl,rfl,rfl,rfl,X1 rfl (by first|rfl|(simp only [hg11,hg18,bs];done)|simp [hg11,hg18]),trivial⟩,rfl⟩
  refine Zp ⟨_,_,rfl,rfl,hg18⟩ ?_
  refine Zp ⟨_,_,rfl,rfl,hg18⟩ ?_
  refine Zp ⟨_,_,rfl,rfl,hg18⟩ ?_
  refine Zp ⟨_,_,rfl,rfl,hg18⟩ ?_
  refine Zp ⟨_,_,rfl,rfl,hg18⟩ ?_
  refine Zp ⟨_,_,rfl,rfl,hg18⟩ ?_
  refine Zv ⟨_,_,rfl,rfl,rfl⟩ (Xa rfl hg18 rfl) ?_
  refine Ze (Xa rfl rfl rfl) ?_
  refine Zn fun a hf=>?_
  exact ⟨hf.sub ⟨rfl,rfl,rfl,rfl,X1 rfl (by first|rfl|(simp only [hg11,hg18,bs];done)|simp [hg11,hg18]),trivial⟩,rfl⟩
 rintro a _ ⟨hf,rfl⟩
 refine hK10 _ _ ?_
 refine Xd hf rfl (fun hc21=>?_) (fun hc21=>?_)
 ·have hc21b:=hc21
  have hfin:=Xkx ey hc21
  refine Zs hf fun _ hK22=>?_
  refine Za rfl ?_
  refine Zt hK22 fun a hf=>?_
  refine wp_ret ?_
  refine X4 ?_
  refine X5 hf (Xl hf rfl rfl) ?_
  exact ⟨by rw [hfin],hW,hBV⟩
 have hc21b:=hc21
 have h38:=hc21
 refine wp_skip ?_
 refine hK9 _ _ ?_
 refine wp_seq_k fun _ hK23=>?_
 refine Zs hf fun _ hK24=>?_
 refine Zm rfl<|Zm rfl ?_
 refine Zt hK24 fun a hf=>?_
 refine wp_block ?_
 refine Xt (σ:=Nat) (fun (j:Nat) (a:Act) (w:World)=>Fr a 83 [(1,vi (i:Int)),(2,.slice B s.length cs),(3,.pointer (some ⟨b4,0,none⟩)),(7,.pointer (some ⟨b8,0,none⟩)),(39,vi (i:Int)),(40,vi (j:Int))]∧(j≤i)∧((List.range j).any (qA c.gs s y (s.getD i 0))=false)∧MemoG w bV∧Blk w b4 66 [vi c.n,.slice A c.gs.length cc,.map (some bV)]∧Blk w b8 55 [vi y.k,vi y.a,vi y.b]∧Rd w w0.heap.size 55 encG A c.gs∧Rd w w0.heap.size 3 encI B s∧Kept bV w0.heap.size w0 w) (fun (j:Nat)=>i-j) 0 ?_ ?_
 ·exact ⟨hf.sub ⟨rfl,rfl,rfl,rfl,rfl,rfl,trivial⟩,(Nat.zero_le _),rfl,hBV,hB4,hB8,hr_c,hr_s,hW⟩
 rintro j a w4 ⟨hf,hj,hA,hBV,hB4,hB8,hr_c,hr_s,hW⟩
 refine Zs hf fun _ hK25=>?_
 refine Ze (X06 rfl rfl) ?_
 refine Zt hK25 fun a hf=>?_
 refine wp_seq_k fun _ hK26=>?_
 refine Xd hf rfl (fun hc27=>?_) (fun hc27=>?_)
 ·have hc27b:=hc27
  have hc27:=of_decide_eq_true hc27
  refine wp_skip ?_
  refine hK26 _ _ ?_
  refine wp_seq_k fun _ hK28=>?_
  refine wp_block ?_
  refine Zs hf fun _ hK29=>?_
  refine Zm rfl<|Za rfl ?_
  refine Zt hK29 fun a hf=>?_
  refine wp_seq_k fun _ hK30=>?_
  refine Xy (fun a w=>Fr a 83 [(1,vi (i:Int)),(2,.slice B s.length cs),(3,.pointer (some ⟨b4,0,none⟩)),(7,.pointer (some ⟨b8,0,none⟩)),(39,vi (i:Int)),(40,vi (j:Int)),(57,.bool ((!commI (c.gs.getD j gZ) (c.gs.getD i gZ))&&(decide ((s.getD i 0)≤(s.getD j 0)))))]∧MemoG w bV∧Blk w b4 66 [vi c.n,.slice A c.gs.length cc,.map (some bV)]∧Blk w b8 55 [vi y.k,vi y.a,vi y.b]∧Rd w w0.heap.size 55 encG A c.gs∧Rd w w0.heap.size 3 encI B s∧Kept bV w0.heap.size w0 w) ?_ ?_
  ·refine Xw (some bV) (fun _=>false) mixed ?_
   intro w5 hE
   replace hBV:=hBV.below hE
   replace hB4:=hB4.below hE
   replace hB8:=hB8.below hE
   replace hr_c:=hr_c.below hE
   replace hr_s:=hr_s.below hE
   replace hW:=ktr hW hE
   refine Yb hf ?_
   refine Yw 0 rfl trivial (fun w1 h1=>Xz (l:=[vi c.n,.slice A c.gs.length cc,.map (some bV)]) rfl Xex ((hB4.onlyM h1 hBV).at 0) rfl) ?_
   refine Yo 1 rfl (fun _=>X2 rfl)<|Yo 2 rfl (fun _=>X2 rfl) ?_
   refine Y1 3 ?_
   refine Yf rfl trivial (EfW.mono (Vc (Xn7 _ bV hBV c A cc hr_c.top hc i hi j (by omega)) Xh9) (fun _ _ h=>⟨fun _=>by obtain ⟨rfl,hK,hbn⟩:=h;exact hK.keep,h⟩)) ?_;rintro _ w6 ⟨rfl,hK,hbn⟩
   obtain ⟨wm,hO,hm,hE⟩:=hK.mid;clear hm
   have hold:=hBV
   replace hB4:=hB4.onlyM hO hold
   replace hB8:=hB8.onlyM hO hold
   replace hr_c:=hr_c.onlyM hO hold
   replace hr_s:=hr_s.onlyM hO hold
   replace hW:=hW.self hO
   replace hB4:=hB4.below hE
   replace hB8:=hB8.below hE
   replace hr_c:=hr_c.below hE
   replace hr_s:=hr_s.below hE
   replace hW:=ktr hW hE
   clear hold hE hO hK;replace hBV:=hbn;clear hbn
   refine Yo 4 rfl (fun _=>X2 rfl) ?_
   refine Yl 47 rfl (fun hg31=>?_) (fun hg31=>?_)
   ·refine Yu 5 rfl ⟨_,_,rfl,rfl,hg31⟩ (fun _=>X2 rfl) ?_
    refine Yu 6 rfl ⟨_,_,rfl,rfl,hg31⟩ (fun _=>X2 rfl) ?_
    refine Yy (k:=i) (u:=(s.getD i 0)) (enc:=encI) (l:=s) 7 rfl ⟨_,_,rfl,rfl,hg31⟩ hBV rfl rfl Xj X0a X7 hr_s (X0x (by omega)) rfl ?_;intro p33 hat32 hat32n
    refine Yw 8 rfl ⟨_,_,rfl,rfl,hg31⟩ (fun w1 h1=>X0 rfl X3 (hat32.only h1 hat32n)) ?_
    refine Yu 9 rfl ⟨_,_,rfl,rfl,hg31⟩ (fun _=>X2 rfl) ?_
    refine Yu 10 rfl ⟨_,_,rfl,rfl,hg31⟩ (fun _=>X2 rfl) ?_
    refine Yy (k:=j) (u:=(s.getD j 0)) (enc:=encI) (l:=s) 11 rfl ⟨_,_,rfl,rfl,hg31⟩ hBV rfl rfl Xj X0a X7 hr_s (X0x (by omega)) rfl ?_;intro p35 hat34 hat34n
    refine Yw 12 rfl ⟨_,_,rfl,rfl,hg31⟩ (fun w1 h1=>X0 rfl X3 (hat34.only h1 hat34n)) ?_
    refine Yu 13 rfl ⟨_,_,rfl,rfl,hg31⟩ (fun _=>Xax rfl rfl) ?_
    refine Yo 14 rfl (fun _=>Xe rfl hg31 rfl) ?_
    refine Yd fun a hf=>?_
    exact ⟨hf.sub ⟨rfl,rfl,rfl,rfl,rfl,rfl,X1 rfl (by first|rfl|(simp only [hc21b,hc27b,hg31,bs];done)|simp [hc21b,hc27b,hg31]),trivial⟩,hBV,hB4,hB8,hr_c,hr_s,hW⟩
   refine Yp 5 rfl ⟨_,_,rfl,rfl,hg31⟩ ?_
   refine Yp 6 rfl ⟨_,_,rfl,rfl,hg31⟩ ?_
   refine Yp 7 rfl ⟨_,_,rfl,rfl,hg31⟩ ?_
   refine Yp 8 rfl ⟨_,_,rfl,rfl,hg31⟩ ?_
   refine Yp 9 rfl ⟨_,_,rfl,rfl,hg31⟩ ?_
   refine Yp 10 rfl ⟨_,_,rfl,rfl,hg31⟩ ?_
   refine Yp 11 rfl ⟨_,_,rfl,rfl,hg31⟩ ?_
   refine Yp 12 rfl ⟨_,_,rfl,rfl,hg31⟩ ?_
   refine Yp 13 rfl ⟨_,_,rfl,rfl,hg31⟩ ?_
   refine Yo 14 rfl (fun _=>Xa rfl hg31 rfl) ?_
   refine Yd fun a hf=>?_
   exact ⟨hf.sub ⟨rfl,rfl,rfl,rfl,rfl,rfl,X1 rfl (by first|rfl|(simp only [hc21b,hc27b,hg31,bs];done)|simp [hc21b,hc27b,hg31]),trivial⟩,hBV,hB4,hB8,hr_c,hr_s,hW⟩
  rintro a w7 ⟨hf,hBV,hB4,hB8,hr_c,hr_s,hW⟩
  refine hK30 _ _ ?_
  refine Xd hf rfl (fun hc36=>?_) (fun hc36=>?_)
  ·have hc36b:=hc36
   have hp:=hc36
   rw [ey] at hp
   have hfin:=Xk8 ey h38 (X3m (j:=j) (by omega) hp)
   refine Zs hf fun _ hK37=>?_
   refine Za rfl ?_
   refine Zt hK37 fun a hf=>?_
   refine wp_ret ?_
   refine Xk ?_
   refine X4 ?_
   refine X4 ?_
   refine Xk ?_
   refine X4 ?_
   refine X5 hf (Xl hf rfl rfl) ?_
   exact ⟨by rw [hfin],hW,hBV⟩
  have hc36b:=hc36
  have hp:=hc36
  rw [ey] at hp
  have hnA:=X2y hA hp
  refine wp_skip ?_
  refine Xh ?_
  refine hK28 _ _ ?_
  refine Zr hf ?_
  refine Ze (Xp rfl rfl (by omega) (by omega))<|Zm rfl ?_
  refine Zn fun a hf=>?_
  refine Xg ?_
  exact ⟨j+1,⟨hf.sub ⟨rfl,rfl,rfl,rfl,rfl,rfl,trivial⟩,(by omega),hnA,hBV,hB4,hB8,hr_c,hr_s,hW⟩,(by omega)⟩
 have hc27b:=hc27
 have hc27:=of_decide_eq_false hc27
 have hA2:=hA
 rw [show j=i from by omega] at hA2
 refine wp_exit ?_
 refine Xf ?_
 refine Xf ?_
 refine Xs ?_
 refine hK23 _ _ ?_
 refine wp_seq_k fun _ hK38=>?_
 refine Zs hf fun _ hK39=>?_
 refine Zm rfl<|Zm rfl ?_
 refine Zt hK39 fun a hf=>?_
 refine wp_block ?_
 refine Xt (σ:=Nat) (fun (q:Nat) (a:Act) (w:World)=>Fr a 83 [(1,vi (i:Int)),(2,.slice B s.length cs),(3,.pointer (some ⟨b4,0,none⟩)),(7,.pointer (some ⟨b8,0,none⟩)),(59,vi (i:Int)),(60,vi (q:Int))]∧(q≤i)∧((List.range q).any (qB c.gs s y (s.getD i 0))=false)∧MemoG w bV∧Blk w b4 66 [vi c.n,.slice A c.gs.length cc,.map (some bV)]∧Blk w b8 55 [vi y.k,vi y.a,vi y.b]∧Rd w w0.heap.size 55 encG A c.gs∧Rd w w0.heap.size 3 encI B s∧Kept bV w0.heap.size w0 w) (fun (q:Nat)=>i-q) 0 ?_ ?_
 ·exact ⟨hf.sub ⟨rfl,rfl,rfl,rfl,rfl,rfl,trivial⟩,(Nat.zero_le _),rfl,hBV,hB4,hB8,hr_c,hr_s,hW⟩
 rintro q a w8 ⟨hf,hq,hB,hBV,hB4,hB8,hr_c,hr_s,hW⟩
 refine Zs hf fun _ hK40=>?_
 refine Ze (X06 rfl rfl) ?_
 refine Zt hK40 fun a hf=>?_
 refine wp_seq_k fun _ hK41=>?_
 refine Xd hf rfl (fun hc42=>?_) (fun hc42=>?_)
 ·have hc42b:=hc42
  have hc42:=of_decide_eq_true hc42
  refine wp_skip ?_
  refine hK41 _ _ ?_
  refine wp_seq_k fun _ hK43=>?_
  refine wp_block ?_
  refine Zs hf fun _ hK44=>?_
  refine Zm rfl<|Za rfl ?_
  refine Zt hK44 fun a hf=>?_
  refine wp_seq_k fun _ hK45=>?_
  refine Xy (fun a w=>Fr a 83 [(1,vi (i:Int)),(2,.slice B s.length cs),(3,.pointer (some ⟨b4,0,none⟩)),(7,.pointer (some ⟨b8,0,none⟩)),(59,vi (i:Int)),(60,vi (q:Int)),(81,.bool (((s.getD q 0)==(s.getD i 0))&&(comI (c.gs.getD q gZ) y)))]∧Below w8.heap.size w8 w) ?_ ?_
  ·have hEc:Below w8.heap.size w8 w8:=Below.refl _ _
   refine Xw none (fun _=>false) mixed ?_
   intro w9 hE
   replace hBV:=hBV.below hE
   replace hB4:=hB4.below hE
   replace hB8:=hB8.below hE
   replace hr_c:=hr_c.below hE
   replace hr_s:=hr_s.below hE
   replace hW:=ktr hW hE
   replace hEc:=btr hEc hE
   refine Yb hf ?_
   refine Yo 0 rfl (fun _=>X2 rfl)<|Yo 1 rfl (fun _=>X2 rfl) ?_
   refine Yi (k:=q) (u:=(s.getD q 0)) (enc:=encI) (l:=s) 2 rfl trivial rfl rfl Xj X0a X7 hr_s (X0x (by omega)) rfl ?_;intro p47 hat46
   refine Ye 3 rfl (X0 rfl X3 hat46)<|Yo 4 rfl (fun _=>X2 rfl)<|Yo 5 rfl (fun _=>X2 rfl) ?_
   refine Yi (k:=i) (u:=(s.getD i 0)) (enc:=encI) (l:=s) 6 rfl trivial rfl rfl Xj X0a X7 hr_s (X0x (by omega)) rfl ?_;intro p49 hat48
   refine Ye 7 rfl (X0 rfl X3 hat48)<|Yo 8 rfl (fun _=>X0j rfl rfl)<|Yo 9 rfl (fun _=>X2 rfl) ?_
   refine Yl 72 rfl (fun hg50=>?_) (fun hg50=>?_)
   ·refine Yu 10 rfl ⟨_,_,rfl,rfl,hg50⟩ (fun _=>Vd rfl X4j 0) ?_
    refine Yu 11 rfl ⟨_,_,rfl,rfl,hg50⟩ (fun _=>Vd rfl X0h 1) ?_
    refine Yv 12 rfl ⟨_,_,rfl,rfl,hg50⟩ (X0 rfl X18 (hB4.at 1)) ?_
    refine Yu 13 rfl ⟨_,_,rfl,rfl,hg50⟩ (fun _=>X2 rfl) ?_
    refine Yi (k:=q) (u:=(c.gs.getD q gZ)) (enc:=encG) (l:=c.gs) 14 rfl ⟨_,_,rfl,rfl,hg50⟩ rfl rfl X07 X0b Xx hr_c (X8z (by omega)) rfl ?_;intro p52 hat51
    refine Yv 15 rfl ⟨_,_,rfl,rfl,hg50⟩ (Xz (l:=[vi ((c.gs.getD q gZ).k),vi ((c.gs.getD q gZ).a),vi ((c.gs.getD q gZ).b)]) rfl Xu hat51 rfl) ?_
    refine Yv 16 rfl ⟨_,_,rfl,rfl,hg50⟩ (Vn Xu hB8) ?_
    refine Y1 17 ?_
    refine Yk rfl ⟨_,_,rfl,rfl,hg50⟩ (Vc (Xk6 _ (c.gs.getD q gZ) y) Xev) (fun _ _ ⟨_,hE⟩=>hE) ?_;rintro _ w10 ⟨rfl,hE⟩
    replace hBV:=hBV.below hE
    replace hB4:=hB4.below hE
    replace hB8:=hB8.below hE
    replace hr_c:=hr_c.below hE
    replace hr_s:=hr_s.below hE
    replace hW:=ktr hW hE
    replace hEc:=btr hEc hE
    refine Yo 18 rfl (fun _=>Xe rfl hg50 rfl) ?_
    refine Yd fun a hf=>?_
    have hEE:Below w8.heap.size w8 w10:=hEc
    exact ⟨hf.sub ⟨rfl,rfl,rfl,rfl,rfl,rfl,X1 rfl (by first|rfl|(simp only [hc21b,hc27b,hc42b,hg50,bs];done)|simp [hc21b,hc27b,hc42b,hg50]),trivial⟩,hEE⟩
   refine Yp 10 rfl ⟨_,_,rfl,rfl,hg50⟩ ?_
   refine Yp 11 rfl ⟨_,_,rfl,rfl,hg50⟩ ?_
   refine Yp 12 rfl ⟨_,_,rfl,rfl,hg50⟩ ?_
   refine Yp 13 rfl ⟨_,_,rfl,rfl,hg50⟩ ?_
   refine Yp 14 rfl ⟨_,_,rfl,rfl,hg50⟩ ?_
   refine Yp 15 rfl ⟨_,_,rfl,rfl,hg50⟩ ?_
   refine Yp 16 rfl ⟨_,_,rfl,rfl,hg50⟩ ?_
   refine Y1 17 ?_
   refine Yq rfl ⟨_,_,rfl,rfl,hg50⟩ ?_
   refine Yo 18 rfl (fun _=>Xa rfl hg50 rfl) ?_
   refine Yd fun a hf=>?_
   have hEE:Below w8.heap.size w8 w9:=hEc
   exact ⟨hf.sub ⟨rfl,rfl,rfl,rfl,rfl,rfl,X1 rfl (by first|rfl|(simp only [hc21b,hc27b,hc42b,hg50,bs];done)|simp [hc21b,hc27b,hc42b,hg50]),trivial⟩,hEE⟩
  rintro a w11 ⟨hf,hE⟩
  replace hBV:=hBV.below hE
  replace hB4:=hB4.below hE
  replace hB8:=hB8.below hE
  replace hr_c:=hr_c.below hE
  replace hr_s:=hr_s.below hE
  replace hW:=ktr hW hE
  refine hK45 _ _ ?_
  refine Xd hf rfl (fun hc53=>?_) (fun hc53=>?_)
  ·have hc53b:=hc53
   have hfin:=Xkv ey h38 hA2 (X3m (j:=q) (by omega) hc53)
   refine Zs hf fun _ hK54=>?_
   refine Za rfl ?_
   refine Zt hK54 fun a hf=>?_
   refine wp_ret ?_
   refine Xk ?_
   refine X4 ?_
   refine X4 ?_
   refine Xk ?_
   refine X4 ?_
   refine X5 hf (Xl hf rfl rfl) ?_
   exact ⟨by rw [hfin],hW,hBV⟩
  have hc53b:=hc53
  have hnB:=X2y hB hc53
  refine wp_skip ?_
  refine Xh ?_
  refine hK43 _ _ ?_
  refine Zr hf ?_
  refine Ze (Xp rfl rfl (by omega) (by omega))<|Zm rfl ?_
  refine Zn fun a hf=>?_
  refine Xg ?_
  exact ⟨q+1,⟨hf.sub ⟨rfl,rfl,rfl,rfl,rfl,rfl,trivial⟩,(by omega),hnB,hBV,hB4,hB8,hr_c,hr_s,hW⟩,(by omega)⟩
 have hc42b:=hc42
 have hc42:=of_decide_eq_false hc42
 rw [show q=i from by omega] at hB
 have hfin:=Xl7 ey h38 hA2 hB
 refine wp_exit ?_
 refine Xf ?_
 refine Xf ?_
 refine Xs ?_
 refine hK38 _ _ ?_
 refine Zs hf fun _ hK55=>?_
 refine Za rfl ?_
 refine Zt hK55 fun a hf=>?_
 refine wp_ret (X5 hf (Xl hf rfl rfl) ?_)
 exact ⟨by rw [hfin],hW,hBV⟩
end Go.Proofs.YtgkoieoaamkjhaaGreat
set_option maxRecDepth 4000
namespace Go.Proofs.YtgkoieoaamkjhaaGreat
open Go.RowKit
theorem F18(w0:World)(c:Cx)(Ac:Option Addr)(cc:Nat)(hr_c:Rd w0 w0.heap.size 55 encG Ac c.gs)(As:Option Addr)(cs:Nat)(s:List Int)(hr_s:Rd w0 w0.heap.size 3 encI As s)(hln:c.gs.length≤2305843009213693951) : Ret Tryz.prog 22 [.agg #[vi c.n,.slice Ac c.gs.length cc],.slice As s.length cs] w0 (fun v w=>v=.tuple #[vi ((implC c s).1),vi ((implC c s).2.1),.bool ((implC c s).2.2)]∧Below w0.heap.size w0 w):=by
 refine enter Tryz.func22 rfl 37 rfl rfl ?_
 intro a hf
 have hW:Below w0.heap.size w0 w0:=Below.refl _ _
 refine Zs hf fun _ hK3=>?_
 refine Zf (X08 (zs:=[vi c.n,.slice Ac c.gs.length cc]) rfl rfl) ?_;rintro _ w1 ⟨b4,rfl,hl4,hE,hB4⟩
 have hlo4:=Nat.le_trans hW.size hl4
 replace hW:=btr hW hE
 refine Za rfl<|Za rfl<|Za rfl ?_
 refine Zt hK3 fun a hf=>?_
 refine wp_seq_k fun _ hK5=>?_
 refine Zs hf fun _ hK6=>?_
 refine Ze (Vn X12 hB4) ?_
 refine Zf (Vc (F55 _ c Ac cc (hr_c.below' hW).top hln) Xgu) ?_;rintro _ w2 ⟨rfl,hE⟩
 replace hB4:=hB4.below hE
 replace hW:=btr hW hE
 refine Ze (X0u rfl) ?_
 refine Zt hK6 fun a hf=>?_
 refine Xd hf rfl (fun hc7=>?_) (fun hc7=>?_)
 ·have hc7b:=hc7
  have hfin:implC c s=(0,0,false):=by rw [implC,if_neg];revert hc7;cases cOk c<;>simp
  refine Zs hf fun _ hK8=>?_
  refine Za rfl<|Za rfl<|Za rfl ?_
  refine Zt hK8 fun a hf=>?_
  refine wp_ret ?_
  refine X4 ?_
  refine X5 hf (Xg1 hf rfl rfl rfl rfl) ?_
  exact ⟨by rw [hfin],hW⟩
 have hc7b:=hc7
 have hc:cOk c=true:=by revert hc7;cases cOk c<;>simp
 have hy:implC c s=((schedI c.gs s).1,(schedI c.gs s).2,true):=by rw [implC,if_pos hc]
 refine wp_skip ?_
 refine hK5 _ _ ?_
 refine wp_seq_k fun _ hK9=>?_
 refine Zs hf fun _ hK10=>?_
 refine Zm rfl<|Ze (X0q rfl Xj)<|Ze (Vd rfl X0h 1)<|Ze (X0 rfl X18 (hB4.at 1))<|Ze (X0q rfl X07) ?_
 refine Ze (X1e rfl rfl) ?_
 refine Zt hK10 fun a hf=>?_
 refine Xd hf rfl (fun hc11=>?_) (fun hc11=>?_)
 ·have hc11b:=hc11
  have hfin:implC c s=(1,0,true):=by rw [hy,schedI,if_neg];simp at hc11;omega
  refine Zs hf fun _ hK12=>?_
  refine Za rfl<|Za rfl<|Za rfl ?_
  refine Zt hK12 fun a hf=>?_
  refine wp_ret ?_
  refine X4 ?_
  refine X5 hf (Xg1 hf rfl rfl rfl rfl) ?_
  exact ⟨by rw [hfin],hW⟩
 have hc11b:=hc11
 have hls:s.length=c.gs.length:=by simp at hc11;omega
 refine wp_skip ?_
 refine hK9 _ _ ?_
 refine Zs hf fun _ hK13=>?_
 refine Ze (Vn X12 hB4) ?_
 refine Zf (Xcs) ?_;rintro _ w3 ⟨b14,rfl,hl14,hE,hB14⟩
 have hlo14:=Nat.le_trans hW.size hl14
 replace hB4:=hB4.below hE
 replace hW:=btr hW hE
 refine Ze (Xr (ps:=[(0,.agg #[vi c.n,.slice Ac c.gs.length cc]),(1,.map (some b14))]) (cs:=[vi c.n,.slice Ac c.gs.length cc,.map (some b14)]) rfl (fun _=>by first|rfl|kernel_rfl)) ?_
 refine Zf (X8 (zs:=[vi 0,.slice none 0 0,.map none]) Xlj rfl) ?_;rintro _ w4 ⟨b17,rfl,hl17,hE,hB17⟩
 have hlo17:=Nat.le_trans hW.size hl17
 replace hB4:=hB4.below hE
 replace hB14:=hB14.below hE
 replace hW:=btr hW hE
 refine Zo (Vw [vi c.n,.slice Ac c.gs.length cc,.map (some b14)] Xj9 hB17) ?_;rintro _ w5 ⟨ho,hb⟩
 have hold:=hB17
 replace hB4:=hB4.only ho (Blk.ne hB4 hold rfl)
 replace hB14:=hB14.only ho (hB14.ne hold)
 replace hW:=Below.only hW ho hlo17
 clear hold
 have hB17:=hb
 clear hb ho
 refine Zt hK13 fun a hf=>?_
 refine wp_seq_k fun _ hK18=>?_
 refine Zs hf fun _ hK19=>?_
 refine Ze (Vd rfl X0h 1)<|Ze (X0 rfl X18 (hB4.at 1))<|Ze (X0q rfl X07)<|Zm rfl ?_
 refine Zt hK19 fun a hf=>?_
 refine wp_block ?_
 refine Xt (σ:=Nat) (fun (i:Nat) (a:Act) (w:World)=>Fr a 37 [(1,.slice As s.length cs),(7,.pointer (some ⟨b17,0,none⟩)),(24,vi (c.gs.length:Int)),(25,vi (i:Int))]∧(i≤c.gs.length)∧(firstF (faultI c.gs s) (c.gs.length-i) i=schedI c.gs s)∧MemoG w b14∧Blk w b17 66 [vi c.n,.slice Ac c.gs.length cc,.map (some b14)]∧Below w0.heap.size w0 w) (fun (i:Nat)=>c.gs.length-i) 0 ?_ ?_
 ·exact ⟨hf.sub ⟨rfl,rfl,rfl,rfl,trivial⟩,(Nat.zero_le _),(by rw [schedI,if_pos hls];rfl),hB14,hB17,hW⟩
 rintro i a w6 ⟨hf,hi,hinv,hB14,hB17,hW⟩
 refine Zs hf fun _ hK20=>?_
 refine Ze (X06 rfl rfl) ?_
 refine Zt hK20 fun a hf=>?_
 refine wp_seq_k fun _ hK21=>?_
 refine Xd hf rfl (fun hc22=>?_) (fun hc22=>?_)
 ·have hc22b:=hc22
  have hc22:=of_decide_eq_true hc22
  obtain ⟨u23,hu23⟩:=Xi (l:=c.gs) (k:=i) (by omega)
  have hin:i<c.gs.length:=by omega
  refine wp_skip ?_
  refine hK21 _ _ ?_
  refine wp_seq_k fun _ hK24=>?_
  refine wp_block ?_
  refine Zs hf fun _ hK25=>?_
  refine Zm rfl<|Za rfl ?_
  refine Zt hK25 fun a hf=>?_
  refine Zs hf fun _ hK26=>?_
  refine Ze (Vn Xex hB17)<|Zm rfl<|Zm rfl ?_
  refine Zf (Vc (F56 _ b14 hB14 c Ac cc (hr_c.below' hW).top hc i hin As cs s (hr_s.below' hW).top hls) Xkw) ?_;rintro _ w7 ⟨rfl,hK,hbn⟩
  obtain ⟨wm,hO,hm,hE⟩:=hK.mid;clear hm
  have hold:=hB14
  replace hB17:=hB17.onlyM hO hold
  replace hW:=Below.only hW hO hlo14
  replace hB17:=hB17.below hE
  replace hW:=btr hW hE
  clear hold hE hO hK;replace hB14:=hbn;clear hbn
  refine Za rfl ?_
  refine Zt hK26 fun a hf=>?_
  refine Zs hf fun _ hK27=>?_
  refine Zm rfl<|Ze (X1e rfl rfl) ?_
  refine Zt hK27 fun a hf=>?_
  refine Xd hf rfl (fun hc28=>?_) (fun hc28=>?_)
  ·have hc28b:=hc28
   have hfin:implC c s=(faultI c.gs s i,(i:Int),true):=by rw [hy,X2t hinv hin rfl (by simpa using hc28)]
   refine Zs hf fun _ hK29=>?_
   refine Zm rfl<|Zm rfl<|Za rfl<|Za rfl<|Za rfl ?_
   refine Zt hK29 fun a hf=>?_
   refine wp_ret ?_
   refine Xk ?_
   refine X4 ?_
   refine X4 ?_
   refine Xk ?_
   refine X4 ?_
   refine X5 hf (Xg1 hf rfl rfl rfl rfl) ?_
   exact ⟨by rw [hfin],hW⟩
  have hc28b:=hc28
  have hnx:=X44 hinv hin (by simpa using hc28)
  refine wp_skip ?_
  refine Xh ?_
  refine hK24 _ _ ?_
  refine Zr hf ?_
  refine Ze (Xp rfl rfl (by omega) (by omega))<|Zm rfl ?_
  refine Zn fun a hf=>?_
  refine Xg ?_
  exact ⟨i+1,⟨hf.sub ⟨rfl,rfl,rfl,rfl,trivial⟩,(by omega),hnx,hB14,hB17,hW⟩,(by omega)⟩
 have hc22b:=hc22
 have hc22:=of_decide_eq_false hc22
 have hfin:implC c s=(0,0,true):=by rw [hy,X7p hinv (by omega)]
 refine wp_exit ?_
 refine Xf ?_
 refine Xf ?_
 refine Xs ?_
 refine hK18 _ _ ?_
 refine Zs hf fun _ hK30=>?_
 refine Za rfl<|Za rfl<|Za rfl ?_
 refine Zt hK30 fun a hf=>?_
 refine wp_ret (X5 hf (Xg1 hf rfl rfl rfl rfl) ?_)
 exact ⟨by rw [hfin],hW⟩
end Go.Proofs.YtgkoieoaamkjhaaGreat
namespace Go.Proofs.YtgkoieoaamkjhaaGreat
open Go.RowKit
theorem X7h:∀ n:Nat,lowN n ⟨0,0,0,0⟩=(⟨0,0,0,0⟩,0)
 | 0=>rfl
 | n+1=>by
  rw [lowN,if_pos (show rEven ⟨0,0,0,0⟩=true from rfl)]
  exact X7h n
theorem Xct{e:Int}(h:0≤e) : dLow ⟨0,0,0,0⟩ e=dZ:=by
 unfold dLow
 rw [X7h]
 split
 ·rfl
 ·obtain rfl:e=0:=by omega
  rfl
theorem Xcb{z:Dy}(h:dOk z=true) : dMulI z dZ=some dZ:=by
 have hz:=X1i.1 h
 have h0:rMul z.num ⟨0,0,0,0⟩=⟨0,0,0,0⟩:=by simp [rMul,wr0]
 have h1:rOk ⟨0,0,0,0⟩=true:=rfl
 unfold dMulI
 rw [h,X6p,show dZ.num=⟨0,0,0,0⟩ from rfl,rIf1,X1q hz.1 h1,h0,h1]
 simp only [Bool.and_self,if_true]
 unfold dOf
 rw [h1,show z.exp+dZ.exp=z.exp from by simp [dZ],Xq.2 hz.2.1]
 simp only [Bool.and_self,if_true]
 rw [Xct hz.2.1.1]
theorem Xd1{z:Dy}(h:dOk z=true) : dLow z.num z.exp=z:=by
 have hz:=X1i.1 h
 exact X1x fun h0=>by rcases hz.2.2 with h4|h4;exact absurd h4 (by omega);exact h4
theorem X5s:∀ n:Nat,raiseI n ⟨0,0,0,0⟩=(⟨0,0,0,0⟩,true)
 | 0=>rfl
 | n+1=>by
  rw [raiseI,show rRoot ⟨0,0,0,0⟩=⟨0,0,0,0⟩ from rfl,if_pos (show rIf2 ⟨0,0,0,0⟩ [⟨0,0,0,0⟩]=true from rfl)]
  exact X5s n
theorem Xcn{x:Rg}(h:rOk x=true) : rAdd ⟨0,0,0,0⟩ x=x∧rAdd x ⟨0,0,0,0⟩=x:=by
 have h1:=X35.1 h
 obtain ⟨a,b,c,d⟩:=x
 dsimp only at h1
 simp only [rAdd,Int.zero_add,Int.add_zero]
 rw [X0m (by omega) (by omega),X0m (by omega) (by omega),X0m (by omega) (by omega),X0m (by omega) (by omega)]
 exact ⟨rfl,rfl⟩
theorem X54{z:Dy}(h:dOk z=true) : dAddI dZ z=some z∧dAddI z dZ=some z:=by
 have hz:=X1i.1 h
 have e1:max dZ.exp z.exp=z.exp:=by simp only [dZ];omega
 have e2:max z.exp dZ.exp=z.exp:=by simp only [dZ];omega
 have r1:dRaise dZ z.exp=(⟨0,0,0,0⟩,true):=X5s _
 have r2:dRaise z z.exp=(z.num,true):=by unfold dRaise;rw [show (z.exp-z.exp).toNat=0 from by omega];rfl
 have a:=Xcn hz.1
 have h0:rOk ⟨0,0,0,0⟩=true:=rfl
 have hof:dOf z.num z.exp=some z:=by
  unfold dOf
  rw [hz.1,Xq.2 hz.2.1]
  simp only [Bool.and_self,if_true]
  rw [Xd1 h]
 refine ⟨?_,?_⟩
 ·unfold dAddI
  rw [h,X6p,e1,r1,r2,rIf1,a.1,X1q h0 hz.1,hz.1]
  simp only [Bool.and_self,if_true]
  exact hof
 ·unfold dAddI
  rw [h,X6p,e2,r1,r2,rIf1,a.2,X1q hz.1 h0,hz.1]
  simp only [Bool.and_self,if_true]
  exact hof
theorem Xa7(z:Dy) : dTurn ((0:Nat) : Int) z=z:=rfl
theorem Xfh{d i j:Nat}(hi:i<d)(hj:j<d) : (unitS d).at i j=if i=j then dPow 0 else dZ:=by
 unfold Mx.at unitS
 simp only [Int.toNat_natCast]
 have hlt:i*d+j<d*d:=X3t hi hj
 rw [List.getD_eq_getElem?_getD,List.getElem?_eq_getElem (by rw [X2d];exact hlt)]
 simp only [gridL,List.getElem_map,List.getElem_range,Option.getD_some]
 exact X5v hj
theorem X8o{m:Mx}{d i j:Nat}(hm:AllOk m)(hj:j<d) : ∀ n,n≤d→dotI m (unitS d) i j n=some (if j<n then m.at i j else dZ)
 | 0,_=>by simp [dotI]
 | n+1,hn=>by
  rw [dotI,X8o hm hj n (by omega),Xfh (by omega) hj]
  have hok:=Mx.at_ok hm i n
  by_cases h:n=j
  ·subst h
   have ht:=Xc3 hok (k:=0) (by decide)
   rw [if_pos rfl,if_neg (Nat.lt_irrefl _),if_pos (Nat.lt_succ_self _)]
   show (dMulI (m.at i n) (dPow ((0:Nat) : Int))).bind _=_
   rw [ht,Xa7]
   exact (X54 hok).1
  ·rw [if_neg h]
   simp only [Option.bind_some]
   rw [Xcb hok]
   simp only [Option.bind_some]
   by_cases hl:j<n
   ·rw [if_pos hl,if_pos (by omega)]
    exact (X54 (Mx.at_ok hm i j)).2
   ·rw [if_neg hl,if_neg (by omega)]
    exact (X54 X6p).1
theorem X6f{f g:Nat→Option Dy} : ∀ n,(∀ k,k<n→f k=g k)→seqO f n=seqO g n
 | 0,_=>rfl
 | n+1,h=>by rw [seqO,seqO,X6f n (fun k hk=>h k (by omega)),h n (by omega)]
theorem Xa1{R C:Int}{f g:Nat→Nat→Option Dy}(h:∀ i j,i<R.toNat→j<C.toNat→f i j=g i j) : matOf R C f=matOf R C g:=by
 unfold matOf
 rw [X6f (f:=gridG f C.toNat) (g:=gridG g C.toNat)]
 intro k hk
 have hc:0<C.toNat:=by
  rcases Nat.eq_zero_or_pos C.toNat with h0|h0
  ·rw [h0,Nat.mul_zero] at hk;omega
  ·exact h0
 exact h _ _ (Nat.div_lt_of_lt_mul (by rwa [Nat.mul_comm])) (Nat.mod_lt _ hc)
theorem Xg0{n:Int}{g:Gt}{i j:Nat}(hi:i<2^n.toNat)(hj:j<2^n.toNat) : (gateS n g).at i j=cellS n g i j:=by
 unfold Mx.at gateS
 simp only [Int.toNat_natCast]
 rw [List.getD_eq_getElem?_getD,List.getElem?_eq_getElem (by rw [X2d];exact X3t hi hj)]
 simp only [gridL,List.getElem_map,List.getElem_range,Option.getD_some]
 exact X5v (f:=fun i j=>cellS n g i j) hj
theorem Xce{n:Int}{g:Gt}(hg:gOk n g=true) : mulI (gateS n g) (unitS (2^n.toNat))=some (gateS n g):=by
 have hok:=(X1j hg).2
 have hd:=X1w (X0y hg).1
 have hu:=(X2s hd).2
 unfold mulI
 rw [hok,hu,show ((gateS n g).cols==(unitS (2^n.toNat)).rows)=true from by simp [gateS,unitS]]
 simp only [Bool.and_self,if_true]
 rw [show (gateS n g).rows=((2^n.toNat:Nat) : Int) from rfl,show (gateS n g).cols=((2^n.toNat:Nat) : Int) from rfl,show (unitS (2^n.toNat)).cols=((2^n.toNat:Nat) : Int) from rfl]
 simp only [Int.toNat_natCast]
 rw [Xa1 (g:=fun i j=>some (cellS n g i j)) fun i j hi hj=>?_,X43 hd hd (fun i j=>cellS n g i j)]
 ·simp only [Int.toNat_natCast];rfl
 ·simp only [Int.toNat_natCast] at hi hj
  rw [X8o (X4d hok) hj _ (Nat.le_refl _),if_pos hj,Xg0 hi hj]
end Go.Proofs.YtgkoieoaamkjhaaGreat
namespace Go.Proofs.YtgkoieoaamkjhaaGreat
open Go.RowKit
def RB(k:Int)(x:Rg) : Prop:=(-k≤x.a∧x.a≤k)∧(-k≤x.b∧x.b≤k)∧(-k≤x.c∧x.c≤k)∧(-k≤x.d∧x.d≤k)
def SM(e:Int)(k:Int)(x:Dy) : Prop:=dOk x=true∧RB k x.num∧x.exp≤e
theorem RB.ok{k:Int}{x:Rg}(h:RB k x)(hk:k≤1000000000) : rOk x=true:=by
 unfold RB at h
 exact X35.2 (by omega)
theorem RB.root{k:Int}{x:Rg}(h:RB k x)(hk:k≤1000000000) : RB (2*k) (rRoot x):=by
 unfold RB at *
 simp only [rRoot]
 rw [X0m (by omega) (by omega),X0m (by omega) (by omega),X0m (by omega) (by omega),X0m (by omega) (by omega)]
 omega
theorem RB.half{k:Int}{x:Rg}(h:RB k x)(h0:0≤k)(hk:k≤1000000000) : RB k (rHalf x):=by
 have h1:=h.root hk
 unfold RB at *
 simp only [rHalf]
 have hd:∀ i:Int,-(2*k)≤i→i≤2*k→-k≤wr (i.tdiv 2)∧wr (i.tdiv 2)≤k:=fun i a b=>by
  have:-k≤i.tdiv 2∧i.tdiv 2≤k:=by
   rcases Int.le_total 0 i with h|h
   ·rw [Int.tdiv_eq_ediv_of_nonneg h];omega
   ·have e:i.tdiv 2 = -((-i).tdiv 2):=by rw [Int.neg_tdiv,Int.neg_neg]
    rw [e,Int.tdiv_eq_ediv_of_nonneg (by omega)];omega
  rw [X0m (by omega) (by omega)]
  exact this
 exact ⟨hd _ h1.1.1 h1.1.2,hd _ h1.2.1.1 h1.2.1.2,hd _ h1.2.2.1.1 h1.2.2.1.2,hd _ h1.2.2.2.1 h1.2.2.2.2⟩
theorem RB.low{k:Int}(h0:0≤k)(hk:k≤1000000000) : ∀ (n:Nat) {x:Rg},RB k x→RB k (lowN n x).1
 | 0,_,h=>h
 | n+1,x,h=>by
  rw [lowN]
  split
  ·exact RB.low h0 hk n (h.half h0 hk)
  ·exact h
theorem RB.raise{k:Int}(hk:4*k≤1000000000)(h0:0≤k){n:Nat}(hn:n≤2){x:Rg}(h:RB k x) : (raiseI n x).2=true∧RB (4*k) (raiseI n x).1:=by
 have m:∀ {a b:Int} {y:Rg},RB a y→a≤b→RB b y:=fun h hab=>by unfold RB at *;omega
 have step:∀ {a:Int} {y:Rg},0≤a→2*a≤1000000000→RB a y→rIf2 (rRoot y) [y]=true:=fun ha h2 h=>by
  rw [X50 (h.ok (by omega))];exact (h.root (by omega)).ok h2
 match n,hn with
 | 0,_=>exact ⟨rfl,m h (by omega)⟩
 | 1,_=>
  rw [raiseI,if_pos (step h0 (by omega) h)]
  exact ⟨rfl,m (h.root (by omega)) (by omega)⟩
 | 2,_=>
  have h1:=h.root (by omega)
  rw [raiseI,if_pos (step h0 (by omega) h),raiseI,if_pos (step (by omega) (by omega) h1)]
  exact ⟨rfl,m (h1.root (by omega)) (by omega)⟩
theorem X8v{k e:Int}{x:Rg}(h:RB k x)(h0:0≤k)(hk:k≤1000000000)(he:0≤e)(he2:e≤60) : ∃ z,dOf x e=some z∧SM e k z:=by
 refine ⟨dLow x e,?_,X5x (h.ok hk) he he2,RB.low h0 hk _ h,(X53 he).2⟩
 unfold dOf
 rw [h.ok hk,Xq.2 ⟨he,he2⟩];rfl
theorem one_mul{a b:Int}(ha:-1≤a∧a≤1)(hb:-1≤b∧b≤1) : -1≤a*b∧a*b≤1:=by
 have:a = -1∨a=0∨a=1:=by omega
 rcases this with rfl|rfl|rfl<;>omega
theorem w4:∀ p q r s:Int,(-1≤p∧p≤1)→(-1≤q∧q≤1)→(-1≤r∧r≤1)→(-1≤s∧s≤1)→(-4≤wr (wr (wr (wr p-wr q)-wr r)-wr s)∧wr (wr (wr (wr p-wr q)-wr r)-wr s)≤4)∧(-4≤wr (wr (wr (wr p+wr q)-wr r)-wr s)∧wr (wr (wr (wr p+wr q)-wr r)-wr s)≤4)∧(-4≤wr (wr (wr (wr p+wr q)+wr r)-wr s)∧wr (wr (wr (wr p+wr q)+wr r)-wr s)≤4)∧(-4≤wr (wr (wr (wr p+wr q)+wr r)+wr s)∧wr (wr (wr (wr p+wr q)+wr r)+wr s)≤4):=fun p q r s hp hq hr hs=>by
 have a1:wr p=p:=X0m (by omega) (by omega)
 have a2:wr q=q:=X0m (by omega) (by omega)
 have a3:wr r=r:=X0m (by omega) (by omega)
 have a4:wr s=s:=X0m (by omega) (by omega)
 have b1:wr (p-q)=p-q:=X0m (by omega) (by omega)
 have b2:wr (p+q)=p+q:=X0m (by omega) (by omega)
 have c1:wr (p-q-r)=p-q-r:=X0m (by omega) (by omega)
 have c2:wr (p+q-r)=p+q-r:=X0m (by omega) (by omega)
 have c3:wr (p+q+r)=p+q+r:=X0m (by omega) (by omega)
 have d1:wr (p-q-r-s)=p-q-r-s:=X0m (by omega) (by omega)
 have d2:wr (p+q-r-s)=p+q-r-s:=X0m (by omega) (by omega)
 have d3:wr (p+q+r-s)=p+q+r-s:=X0m (by omega) (by omega)
 have d4:wr (p+q+r+s)=p+q+r+s:=X0m (by omega) (by omega)
 rw [a1,a2,a3,a4,b1,b2,c1,c2,c3,d1,d2,d3,d4]
 refine ⟨⟨?_,?_⟩,⟨?_,?_⟩,⟨?_,?_⟩,?_,?_⟩<;>omega
theorem Xc2{x y:Dy}(hx:SM 1 1 x)(hy:SM 1 1 y) : ∃ z,dMulI x y=some z∧SM 2 4 z:=by
 obtain ⟨ox,⟨xa,xb,xc,xd⟩,ex⟩:=hx
 obtain ⟨oy,⟨ya,yb,yc,yd⟩,ey⟩:=hy
 have hx0:=X1f ox
 have hy0:=X1f oy
 have hm:RB 4 (rMul x.num y.num):=by
  unfold RB
  simp only [rMul]
  exact ⟨(w4 _ _ _ _ (one_mul xa ya) (one_mul xb yd) (one_mul xc yc) (one_mul xd yb)).1,(w4 _ _ _ _ (one_mul xa yb) (one_mul xb ya) (one_mul xc yd) (one_mul xd yc)).2.1,(w4 _ _ _ _ (one_mul xa yc) (one_mul xb yb) (one_mul xc ya) (one_mul xd yd)).2.2.1,(w4 _ _ _ _ (one_mul xa yd) (one_mul xb yc) (one_mul xc yb) (one_mul xd ya)).2.2.2⟩
 have ho:=hm.ok (by decide)
 obtain ⟨z,h1,h2,h3,h4⟩:=X8v hm (by decide) (by decide) (show 0≤x.exp+y.exp by omega) (by omega)
 refine ⟨z,?_,h2,h3,by omega⟩
 unfold dMulI
 rw [ox,oy,rIf1,X1q (X1i.1 ox).1 (X1i.1 oy).1,ho]
 exact h1
theorem Xd4{k:Int}{s x:Dy}(h0:0≤k)(hk:4*k+16≤1000000000)(hs:SM 2 k s)(hx:SM 2 4 x) : ∃ z,dAddI s x=some z∧SM 2 (4*k+16) z:=by
 obtain ⟨os,bs,es⟩:=hs
 obtain ⟨ox,bx,ex⟩:=hx
 have hs0:=X1f os
 have hx0:=X1f ox
 obtain ⟨r1,b1⟩:=bs.raise (n:=(max s.exp x.exp-s.exp).toNat) (by omega) h0 (by omega)
 obtain ⟨r2,b2⟩:=bx.raise (n:=(max s.exp x.exp-x.exp).toNat) (by decide) (by decide) (by omega)
 have hb:RB (4*k+16) (rAdd (dRaise s (max s.exp x.exp)).1 (dRaise x (max s.exp x.exp)).1):=by
  unfold RB at *
  simp only [rAdd,dRaise]
  rw [X0m (by omega) (by omega),X0m (by omega) (by omega),X0m (by omega) (by omega),X0m (by omega) (by omega)]
  omega
 have ho:=hb.ok hk
 obtain ⟨z,h1,h2,h3,h4⟩:=X8v hb (by omega) hk (show 0≤max s.exp x.exp by omega) (by omega)
 refine ⟨z,?_,h2,h3,by omega⟩
 unfold dAddI
 have i2:rIf2 (rAdd (dRaise s (max s.exp x.exp)).1 (dRaise x (max s.exp x.exp)).1) [(dRaise s (max s.exp x.exp)).1,(dRaise x (max s.exp x.exp)).1]=true:=by
  exact (X1q (x:=(dRaise s (max s.exp x.exp)).1) (y:=(dRaise x (max s.exp x.exp)).1) (b1.ok (by omega)) (b2.ok (by decide))).trans ho
 rw [os,ox,rIf1,i2,show (dRaise s (max s.exp x.exp)).2=true from r1,show (dRaise x (max s.exp x.exp)).2=true from r2]
 exact h1
def dotK:Nat→Int
 | 0=>0
 | n+1=>4*dotK n+16
theorem X51:∀ n,0≤dotK n∧dotK n≤dotK (n+1)
 | 0=>by decide
 | n+1=>by have:=X51 n;simp only [dotK] at *;omega
theorem Xfl{n:Nat}(h:n≤8) : dotK n≤1000000000:=by
 have:∀ d n,n+d=8→dotK n≤dotK 8:=fun d=>by
  induction d with
  | zero=>intro n hn;rw [show n=8 from by omega];exact Int.le_refl _
  | succ d ih=>intro n hn;exact Int.le_trans (X51 n).2 (ih (n+1) (by omega))
 exact Int.le_trans (this (8-n) n (by omega)) (by decide)
theorem X8s{a b:Mx}{i j:Nat}(ha:∀ i j,SM 1 1 (a.at i j))(hb:∀ i j,SM 1 1 (b.at i j)) : ∀ n,n≤8→∃ z,dotI a b i j n=some z∧SM 2 (dotK n) z
 | 0,_=>⟨dZ,rfl,by decide,by unfold RB dotK dZ;decide,by decide⟩
 | n+1,h=>by
  obtain ⟨s,h1,h2⟩:=X8s (i:=i) (j:=j) ha hb n (by omega)
  obtain ⟨x,h3,h4⟩:=Xc2 (ha i n) (hb n j)
  obtain ⟨z,h5,h6⟩:=Xd4 (X51 n).1 (by have:=Xfl h;simp only [dotK] at this;exact this) h2 h4
  refine ⟨z,?_,h6⟩
  rw [dotI,h1,Option.bind_some,h3,Option.bind_some]
  exact h5
end Go.Proofs.YtgkoieoaamkjhaaGreat
namespace Go.Proofs.YtgkoieoaamkjhaaGreat
open Go.RowKit
def smB(z:Dy) : Bool:=dOk z&&inR z.num.a (-1) 1&&inR z.num.b (-1) 1&&inR z.num.c (-1) 1&&inR z.num.d (-1) 1&&decide (z.exp≤1)
theorem Xdy{z:Dy}(h:smB z=true) : SM 1 1 z:=by
 simp only [smB,Bool.and_eq_true,Xq,decide_eq_true_eq] at h
 obtain ⟨⟨⟨⟨⟨h1,h2⟩,h3⟩,h4⟩,h5⟩,h6⟩:=h
 exact ⟨h1,⟨h2,h3,h4,h5⟩,h6⟩
theorem Xei{k:Int}(h:1≤k∧k≤8){i j:Int}(hi:i=0∨i=1)(hj:j=0∨j=1) : smB (entryI k i j)=true:=by
 have:k=1∨k=2∨k=3∨k=4∨k=5∨k=6∨k=7∨k=8:=by omega
 rcases this with rfl|rfl|rfl|rfl|rfl|rfl|rfl|rfl<;>rcases hi with rfl|rfl<;>rcases hj with rfl|rfl<;>rfl
theorem Xg8{n:Int}{g:Gt}(hg:gOk n g=true)(i j:Int) : smB (cellI n g i j)=true:=by
 obtain ⟨hn,hk0,ha,hb⟩:=X0y hg
 unfold cellI
 split
 ·split<;>rfl
 ·split
  ·split
   ·split<;>rfl
   ·rfl
  ·rename_i h1 h2
   split
   ·exact Xei (by have h3:¬ (9≤g.k∧g.k≤11):=fun h=>h2 (Xq.2 h);omega) (X2a _ _ _) (X2a _ _ _)
   ·rfl
theorem Xb8{n:Int}{g:Gt}(hg:gOk n g=true)(i j:Nat) : SM 1 1 ((gateS n g).at i j):=by
 have hall:∀ x ∈ (gateS n g).cells,smB x=true:=fun x hx=>by
  have he:gridL (fun i j=>cellI n g i j) (2^n.toNat) (2^n.toNat*2^n.toNat)=gridL (fun i j=>cellS n g i j) (2^n.toNat) (2^n.toNat*2^n.toNat):=X5e fun i j hi hj=>Xbd hg hi hj
  simp only [gateS] at hx
  rw [← he] at hx
  obtain ⟨i,j,_,_,rfl⟩:=X56 hx
  exact Xg8 hg _ _
 unfold Mx.at
 rw [List.getD_eq_getElem?_getD]
 cases h:(gateS n g).cells[i*(gateS n g).cols.toNat+j]? with
 | none=>exact Xdy rfl
 | some x=>exact Xdy (hall x (List.mem_of_getElem? h))
theorem X9y{f:Nat→Option Dy} : ∀ n,(∀ k,k<n→∃ z,f k=some z)→∃ l,seqO f n=some l
 | 0,_=>⟨[],rfl⟩
 | n+1,h=>by
  obtain ⟨l,hl⟩:=X9y n fun k hk=>h k (by omega)
  obtain ⟨z,hz⟩:=h n (by omega)
  exact ⟨_,X6u hl hz⟩
theorem Xgr{n:Int}(h:n≤3) : 2^n.toNat≤8:=Nat.pow_le_pow_right (n:=2) (by decide) (show n.toNat≤3 by omega)
theorem Xbg{n:Int}{g h:Gt}(hg:gOk n g=true)(hh:gOk n h=true)(hn:n≤3) : ∃ m,mulI (gateS n g) (gateS n h)=some m:=by
 have hd:=X1w (X0y hg).1
 unfold mulI
 rw [(X1j hg).2,(X1j hh).2,show ((gateS n g).cols==(gateS n h).rows)=true from by simp [gateS]]
 simp only [Bool.and_self,if_true]
 unfold matOf
 rw [show (gateS n g).rows=((2^n.toNat:Nat) : Int) from rfl,show (gateS n h).cols=((2^n.toNat:Nat) : Int) from rfl,hd]
 simp only [Bool.and_self,if_true]
 obtain ⟨l,hl⟩:=X9y (f:=gridG (fun i j=>dotI (gateS n g) (gateS n h) i j (gateS n g).cols.toNat) (((2^n.toNat:Nat) : Int)).toNat) ((((2^n.toNat:Nat) : Int)).toNat*(((2^n.toNat:Nat) : Int)).toNat) fun k _=>by
  obtain ⟨z,hz,_⟩:=X8s (i:=k/(((2^n.toNat:Nat) : Int)).toNat) (j:=k % (((2^n.toNat:Nat) : Int)).toNat) (Xb8 hg) (Xb8 hh) (gateS n g).cols.toNat (by rw [show (gateS n g).cols=((2^n.toNat:Nat) : Int) from rfl,Int.toNat_natCast];exact Xgr hn)
  exact ⟨z,hz⟩
 rw [hl]
 exact ⟨_,rfl⟩
theorem Xd8{n:Int}{g h:Gt}(hg:gOk n g=true)(hh:gOk n h=true) : opI ⟨n,[g,h]⟩=(mulI (gateS n h) (gateS n g)):=by
 have hn:=(X0y hg).1
 have hok:cOk ⟨n,[g,h]⟩=true:=by
  unfold cOk
  simp [hg,hh,Xq.2 hn]
 rw [opI,if_pos hok,(X2s (X1w hn)).1]
 simp only [Option.bind_some,applI]
 rw [(X1j hg).1,(X1j hh).1]
 simp only [Option.getD_some]
 rw [Xce hg]
 simp only [Option.bind_some]
 cases mulI (gateS n h) (gateS n g)<;>rfl
theorem Xbr{g:Gt}{x:Int}(h:x ∈ qubI g) : ∃ y,∀ z ∈ qubI g,z=x∨z=y:=by
 unfold qubI at *
 split at h
 ·cases h
 ·rename_i h12
  rw [if_neg h12]
  split at h
  ·rename_i h9
   rw [if_pos h9]
   rcases List.mem_cons.1 h with rfl|h
   ·exact ⟨g.b,fun z hz=>by simpa using hz⟩
   ·obtain rfl:=List.mem_singleton.1 h
    exact ⟨g.a,fun z hz=>by
     have:z=g.a∨z=g.b:=by simpa using hz
     exact this.symm⟩
  ·rename_i h9
   rw [if_neg h9]
   obtain rfl:=List.mem_singleton.1 h
   exact ⟨g.a,fun z hz=>.inl (by simpa using hz)⟩
theorem Xby{l:List Int}(hi:Inc l){p q r:Int}(h:∀ x ∈ l,x=p∨x=q∨x=r) : l.length≤3:=by
 rcases Nat.lt_or_ge 3 l.length with h4|h4
 ·have a:=fun (i j:Nat) (hj:j<l.length) (hij:i<j)=>List.pairwise_iff_getElem.1 hi i j (by omega) hj hij
  have a1:=a 0 1 (by omega) (by omega)
  have a2:=a 1 2 (by omega) (by omega)
  have a3:=a 2 3 (by omega) (by omega)
  have b0:=h _ (List.getElem_mem (show 0<l.length by omega))
  have b1:=h _ (List.getElem_mem (show 1<l.length by omega))
  have b2:=h _ (List.getElem_mem (show 2<l.length by omega))
  have b3:=h _ (List.getElem_mem (show 3<l.length by omega))
  omega
 ·exact h4
theorem X8q{g h:Gt}(hc:comS g h=true) : (unionS g h).length≤3:=by
 obtain ⟨x,h1,h2⟩:=X3f.1 hc
 obtain ⟨y,hy⟩:=Xbr h1
 obtain ⟨z,hz⟩:=Xbr h2
 refine Xby (X34 g h) (p:=x) (q:=y) (r:=z) fun u hu=>?_
 rcases X22.1 hu with h|h
 ·rcases hy u h with h|h<;>simp [h]
 ·rcases hz u h with h|h<;>simp [h]
theorem Xfs{n:Int}{g h:Gt}(hg:gOk n g=true)(hh:gOk n h=true) : commI h g=commS g h:=by
 by_cases hc:comS g h=true
 ·have hc':comI h g=true:=by rw [← Xa5];exact hc
  have hU:unionI (qubI h) (qubI g)=unionS g h:=Xb1 _ _ (X6s _ _) (X34 g h) (fun x=>by rw [X74,X22];exact Or.comm)
  have P:PairOk (unionS g h) g h:=X84 hg hh (X3f.1 hc) (X34 g h) (fun x=>X22)
  have h3:=X8q hc
  have m1:mapG (numbI (unionS g h)) g=smallG (unionS g h) g:=X7c P.low ⟨hg,fun x hx=>X22.2 (.inl hx)⟩
  have m2:mapG (numbI (unionS g h)) h=smallG (unionS g h) h:=X7c P.low ⟨hh,fun x hx=>X22.2 (.inr hx)⟩
  rw [commI,if_pos hc',commS,if_pos hc,hU]
  simp only [mapI,List.map_cons,List.map_nil,m1,m2]
  rw [Xd8 P.hs P.gs,Xd8 P.gs P.hs]
  obtain ⟨A,hA⟩:=Xbg P.gs P.hs (by omega)
  obtain ⟨B,hB⟩:=Xbg P.hs P.gs (by omega)
  have tA:=((X3n (X1j P.gs).2 (X1j P.hs).2 rfl).1 A hA).1
  have tB:=((X3n (X1j P.hs).2 (X1j P.gs).2 rfl).1 B hB).1
  rw [hA,hB,tA]
  dsimp only
  rw [tB]
  rfl
 ·have hc':¬ comI h g=true:=by rw [← Xa5];exact hc
  rw [commI,if_neg hc',commS,if_neg hc]
theorem X7f{p q:Nat→Bool}{i:Nat}(h:∀ j,j<i→p j=q j) : (List.range i).any p=(List.range i).any q:=by
 rw [Bool.eq_iff_iff,List.any_eq_true,List.any_eq_true]
 exact ⟨fun ⟨j,h1,h2⟩=>⟨j,h1,by rw [← h j (List.mem_range.1 h1)];exact h2⟩,fun ⟨j,h1,h2⟩=>⟨j,h1,by rw [h j (List.mem_range.1 h1)];exact h2⟩⟩
theorem X9h{p:Nat→Bool}{i:Nat}(h:∀ j,p j=false) : (List.range i).any p=false:=by
 rw [List.any_eq_false]
 intro j _
 rw [h j];simp
theorem Xfd{n:Int}{gs:List Gt}{s:List Int}(hg:∀ g ∈ gs,gOk n g=true){i:Nat}(hi:i<gs.length) : faultI gs s i=faultS gs s i:=by
 have hin:∀ j,j<gs.length→gOk n (gs.getD j gZ)=true:=fun j hj=>hg _ (List.mem_of_getElem? (X8z hj))
 unfold faultI faultS
 have hgi:=hin i hi
 have ea:(List.range i).any (qA gs s (gs.getD i gZ) (s.getD i 0))=(List.range i).any (pA gs s (gs.getD i gZ) (s.getD i 0)):=X7f fun j hj=>by
  rw [qA,pA,Xfs hgi (hin j (by omega)),Bool.and_comm]
 have eb:(List.range i).any (qB gs s (gs.getD i gZ) (s.getD i 0))=(List.range i).any (pB gs s (gs.getD i gZ) (s.getD i 0)):=X7f fun j hj=>by
  rw [qB,pB,Xa5]
 unfold faultH faultG
 rw [ea,eb]
 generalize gs.getD i gZ=g at *
 generalize s.getD i 0=x at *
 by_cases h12:g.k=12
 ·have h0:∀ h,comS g h=false:=fun h=>by
   rw [Bool.eq_false_iff];intro e
   obtain ⟨x,hx,_⟩:=X3f.1 e
   exact X4c hx h12
  have za:(List.range i).any (pA gs s g x)=false:=X9h fun j=>by
   rw [pA,commS,if_neg (by rw [h0];simp)];simp
  have zb:(List.range i).any (pB gs s g x)=false:=X9h fun j=>by
   rw [pB,h0];simp
  rw [za,zb,if_pos h12]
  by_cases hx:x=0
  ·rw [if_pos hx,hx,h12];rfl
  ·rw [if_neg hx,if_pos (by simp [h12,hx])]
 ·rw [if_neg h12]
  by_cases hr:inR (x) 1 400=true
  ·rw [if_pos hr,if_neg (by simp [h12,hr])]
  ·rw [if_neg hr,if_pos (by simp [h12];simpa using hr)]
theorem X5a{f g:Nat→Int} : ∀ (n i:Nat),(∀ j,i≤j→j<i+n→f j=g j)→firstF f n i=firstF g n i
 | 0,_,_=>rfl
 | n+1,i,h=>by
  rw [firstF,firstF,h i (by omega) (by omega),X5a n (i+1) fun j h1 h2=>h j (by omega) (by omega)]
theorem Xdt(c:Cx)(s:List Int) : implC c s=specC c s:=by
 unfold implC specC
 split
 ·rename_i hc
  have h:schedI c.gs s=schedS c.gs s:=by
   unfold schedI schedS
   rw [X5a c.gs.length 0 fun j _ hj=>Xfd (X2g hc).2.2 (by omega)]
  rw [h]
 ·rfl
end Go.Proofs.YtgkoieoaamkjhaaGreat
set_option maxRecDepth 4000
namespace Go.Proofs.YtgkoieoaamkjhaaGreat
open Go.RowKit
theorem F24(w0:World)(B0:Nat)(A:Option Addr)(c:Nat)(l:List Int)(ho:Own w0 B0 3 1 encI A c l)(k:Int)(hk:0≤k∧k≤1000000000000)(hln:l.length≤1000000000) : Ret Tryz.prog 13 [.slice A l.length c,vi k] w0 (fun v w=>v=vi (k+(l.length:Int))∧Own w B0 3 1 encI A c (markI k l.length)∧w0.grownBy w (Value.slice A l.length c).ownBlock):=by
 refine enter Tryz.func13 rfl 19 rfl rfl ?_
 intro a hf
 have hW:w0.grownBy w0 (Value.slice A l.length c).ownBlock:=World.grownBy.refl _ _
 refine Zs hf fun _ hK2=>?_
 refine Za rfl ?_
 refine Zt hK2 fun a hf=>?_
 refine wp_seq_k fun _ hK3=>?_
 refine Zs hf fun _ hK4=>?_
 refine Za rfl ?_
 refine Zt hK4 fun a hf=>?_
 refine wp_block ?_
 refine Xt (σ:=Nat×Int×(List Int)) (fun (s:Nat×Int×(List Int)) (a:Act) (w:World)=>match s with|(j,q,m)=>Fr a 19 [(0,.slice A l.length c),(1,vi q),(5,vi (j:Int))]∧(q=k+(j:Int))∧(j≤l.length)∧(m.length=l.length)∧(m.take j=markI k j)∧Own w B0 3 1 encI A c m∧w0.grownBy w (Value.slice A l.length c).ownBlock) (fun (s:Nat×Int×(List Int))=>match s with|(j,q,m)=>l.length-j) (0,k,l) ?_ ?_
 ·exact ⟨hf.sub ⟨rfl,rfl,rfl,trivial⟩,(by simp),(Nat.zero_le _),rfl,rfl,ho,hW⟩
 rintro ⟨j,q,m⟩ a w1 ⟨hf,hq,hj,hml,hp,ho,hW⟩
 refine wp_seq_k fun _ hK5=>?_
 refine Zs hf fun _ hK6=>?_
 refine Zm rfl<|Zm rfl<|Ze (X0q rfl Xj)<|Ze (X06 rfl rfl) ?_
 refine Zt hK6 fun a hf=>?_
 refine Xd hf rfl (fun hc7=>?_) (fun hc7=>?_)
 ·have hc7b:=hc7
  have hc7:=of_decide_eq_true hc7
  obtain ⟨u8,hu8⟩:=Xi (l:=l) (k:=j) (by omega)
  obtain ⟨x0,hx0⟩:=Xi (l:=m) (k:=j) (by omega)
  refine wp_skip ?_
  refine hK5 _ _ ?_
  refine wp_seq_k fun _ hK9=>?_
  refine wp_block ?_
  refine Zs hf fun _ hK10=>?_
  refine Zm rfl<|Zm rfl<|Zm rfl<|Ze (X0r (k:=j) rfl rfl Xj X0a ho hml.symm rfl (by omega)) ?_
  refine Zo (X0s (enc:=encI) (l:=m) (vs:=[vi q]) (x0:=x0) (u:=q) (k:=j) (j:=0) (n1:=1) rfl rfl X0a ho X7 rfl rfl rfl rfl (by decide) hx0 rfl) ?_;rintro _ w2 ⟨hnew,hg⟩
  have hown:=ho
  replace hW:=gtr hW hg
  clear hown hg;clear ho;have ho:=hnew;clear hnew
  refine Zt hK10 fun a hf=>?_
  refine Zr hf ?_
  refine Zm rfl<|Ze (Xp rfl rfl (by omega) (by omega))<|Za rfl ?_
  refine Zn fun a hf=>?_
  refine Xh ?_
  refine hK9 _ _ ?_
  refine Zr hf ?_
  refine Zm rfl<|Ze (Xp rfl rfl (by omega) (by omega))<|Za rfl ?_
  refine Zn fun a hf=>?_
  refine Xg ?_
  exact ⟨(j+1,q+1,(m.set j q)),⟨hf.sub ⟨rfl,rfl,rfl,trivial⟩,(by omega),(by omega),(by simp;exact hml),(Xa6 hp (by omega) hq),ho,hW⟩,(by first|omega|(dsimp only;omega))⟩
 have hc7b:=hc7
 have hc7:=of_decide_eq_false hc7
 refine wp_exit ?_
 refine Xf ?_
 refine Xf ?_
 refine Xs ?_
 refine hK3 _ _ ?_
 refine Zs hf fun _ hK11=>?_
 refine Zm rfl<|Za rfl ?_
 refine Zt hK11 fun a hf=>?_
 refine wp_ret (X5 hf (Xl hf rfl rfl) ?_)
 have hfin:m=markI k l.length:=by rw [← show j=l.length from by omega,← hp,List.take_of_length_le (by omega)]
 have hjl:j=l.length:=by omega
 rw [hfin] at ho
 exact ⟨by rw [hq,hjl],ho,hW⟩
theorem F61(w0:World)(B0:Nat)(A:Option Addr)(c:Nat)(l:List Gt)(ho:Own w0 B0 55 3 encG A c l)(k:Int)(hk:0≤k∧k≤1000000000000)(hln:l.length≤1000000000) : Ret Tryz.prog 26 [.slice A l.length c,vi k] w0 (fun v w=>v=vi (k+3*(l.length:Int))∧Own w B0 55 3 encG A c (markG k l.length)∧w0.grownBy w (Value.slice A l.length c).ownBlock):=by
 refine enter Tryz.func26 rfl 34 rfl rfl ?_
 intro a hf
 have hW:w0.grownBy w0 (Value.slice A l.length c).ownBlock:=World.grownBy.refl _ _
 refine Zs hf fun _ hK2=>?_
 refine Za rfl ?_
 refine Zt hK2 fun a hf=>?_
 refine wp_seq_k fun _ hK3=>?_
 refine Zs hf fun _ hK4=>?_
 refine Za rfl ?_
 refine Zt hK4 fun a hf=>?_
 refine wp_block ?_
 refine Xt (σ:=Nat×Int×(List Gt)) (fun (s:Nat×Int×(List Gt)) (a:Act) (w:World)=>match s with|(j,q,m)=>Fr a 34 [(0,.slice A l.length c),(1,vi q),(5,vi (j:Int))]∧(q=k+3*(j:Int))∧(j≤l.length)∧(m.length=l.length)∧(m.take j=markG k j)∧Own w B0 55 3 encG A c m∧w0.grownBy w (Value.slice A l.length c).ownBlock) (fun (s:Nat×Int×(List Gt))=>match s with|(j,q,m)=>l.length-j) (0,k,l) ?_ ?_
 ·exact ⟨hf.sub ⟨rfl,rfl,rfl,trivial⟩,(by simp),(Nat.zero_le _),rfl,rfl,ho,hW⟩
 rintro ⟨j,q,m⟩ a w1 ⟨hf,hq,hj,hml,hp,ho,hW⟩
 refine wp_seq_k fun _ hK5=>?_
 refine Zs hf fun _ hK6=>?_
 refine Zm rfl<|Zm rfl<|Ze (X0q rfl X07)<|Ze (X06 rfl rfl) ?_
 refine Zt hK6 fun a hf=>?_
 refine Xd hf rfl (fun hc7=>?_) (fun hc7=>?_)
 ·have hc7b:=hc7
  have hc7:=of_decide_eq_true hc7
  obtain ⟨u8,hu8⟩:=Xi (l:=l) (k:=j) (by omega)
  obtain ⟨x0,hx0⟩:=Xi (l:=m) (k:=j) (by omega)
  refine wp_skip ?_
  refine hK5 _ _ ?_
  refine wp_seq_k fun _ hK9=>?_
  refine wp_block ?_
  refine Zs hf fun _ hK10=>?_
  refine Zm rfl<|Zm rfl<|Zm rfl<|Ze (X0r (k:=j) rfl rfl X07 X0b ho hml.symm rfl (by omega))<|Ze (X52 rfl X04 (m':=j*3+0) rfl) ?_
  refine Zo (X0s (enc:=encG) (l:=m) (vs:=[vi q]) (x0:=x0) (u:=(⟨q,x0.a,x0.b⟩ : Gt)) (k:=j) (j:=0) (n1:=1) rfl rfl X0a ho Xx rfl rfl rfl rfl (by decide) hx0 rfl) ?_;rintro _ w2 ⟨hnew,hg⟩
  have hown:=ho
  replace hW:=gtr hW hg
  clear hown hg;clear ho;have ho:=hnew;clear hnew
  refine Zt hK10 fun a hf=>?_
  refine Zs hf fun _ hK11=>?_
  refine Zm rfl<|Ze (Xp rfl rfl (by omega) (by omega))<|Za rfl ?_
  refine Zt hK11 fun a hf=>?_
  refine Zs hf fun _ hK12=>?_
  refine Zm rfl<|Zm rfl<|Zm rfl<|Ze (X0r (k:=j) rfl rfl X07 X0b ho (by simp;omega) rfl (by simp;omega))<|Ze (X52 rfl X05 (m':=j*3+1) rfl) ?_
  refine Zo (X0s (enc:=encG) (l:=(m.set j (⟨q,x0.a,x0.b⟩ : Gt))) (vs:=[vi (q+1)]) (x0:=(⟨q,x0.a,x0.b⟩ : Gt)) (u:=(⟨(⟨q,x0.a,x0.b⟩ : Gt).k,q+1,(⟨q,x0.a,x0.b⟩ : Gt).b⟩ : Gt)) (k:=j) (j:=1) (n1:=1) rfl rfl X0a ho Xx rfl rfl rfl rfl (by decide) (Xbk (by omega)) rfl) ?_;rintro _ w3 ⟨hnew,hg⟩
  have hown:=ho
  replace hW:=gtr hW hg
  clear hown hg;clear ho;have ho:=hnew;clear hnew
  refine Zt hK12 fun a hf=>?_
  refine Zs hf fun _ hK13=>?_
  refine Zm rfl<|Ze (Xp rfl rfl (by omega) (by omega))<|Za rfl ?_
  refine Zt hK13 fun a hf=>?_
  refine Zs hf fun _ hK14=>?_
  refine Zm rfl<|Zm rfl<|Zm rfl<|Ze (X0r (k:=j) rfl rfl X07 X0b ho (by simp;omega) rfl (by simp;omega))<|Ze (X52 rfl X0g (m':=j*3+2) rfl) ?_
  refine Zo (X0s (enc:=encG) (l:=((m.set j (⟨q,x0.a,x0.b⟩ : Gt)).set j (⟨(⟨q,x0.a,x0.b⟩ : Gt).k,q+1,(⟨q,x0.a,x0.b⟩ : Gt).b⟩ : Gt))) (vs:=[vi ((q+1)+1)]) (x0:=(⟨q,q+1,x0.b⟩ : Gt)) (u:=(⟨(⟨q,q+1,x0.b⟩ : Gt).k,(⟨q,q+1,x0.b⟩ : Gt).a,(q+1)+1⟩ : Gt)) (k:=j) (j:=2) (n1:=1) rfl rfl X0a ho Xx rfl rfl rfl rfl (by decide) (Xbk (by simp;omega)) rfl) ?_;rintro _ w4 ⟨hnew,hg⟩
  have hown:=ho
  replace hW:=gtr hW hg
  clear hown hg;clear ho;have ho:=hnew;clear hnew
  refine Zt hK14 fun a hf=>?_
  refine Zr hf ?_
  refine Zm rfl<|Ze (Xp rfl rfl (by omega) (by omega))<|Za rfl ?_
  refine Zn fun a hf=>?_
  refine Xh ?_
  refine hK9 _ _ ?_
  refine Zr hf ?_
  refine Zm rfl<|Ze (Xp rfl rfl (by omega) (by omega))<|Za rfl ?_
  refine Zn fun a hf=>?_
  refine Xg ?_
  exact ⟨(j+1,q+1+1+1,(((m.set j (⟨q,x0.a,x0.b⟩ : Gt)).set j (⟨(⟨q,x0.a,x0.b⟩ : Gt).k,q+1,(⟨q,x0.a,x0.b⟩ : Gt).b⟩ : Gt)).set j (⟨(⟨q,q+1,x0.b⟩ : Gt).k,(⟨q,q+1,x0.b⟩ : Gt).a,(q+1)+1⟩ : Gt))),⟨hf.sub ⟨rfl,rfl,rfl,trivial⟩,(by omega),(by omega),(by simp;exact hml),(by rw [List.set_set,List.set_set];exact Xaq hp (by omega) hq (by dsimp only;omega) (by dsimp only;omega)),ho,hW⟩,(by first|omega|(dsimp only;omega))⟩
 have hc7b:=hc7
 have hc7:=of_decide_eq_false hc7
 refine wp_exit ?_
 refine Xf ?_
 refine Xf ?_
 refine Xs ?_
 refine hK3 _ _ ?_
 refine Zs hf fun _ hK15=>?_
 refine Zm rfl<|Za rfl ?_
 refine Zt hK15 fun a hf=>?_
 refine wp_ret (X5 hf (Xl hf rfl rfl) ?_)
 have hfin:m=markG k l.length:=by rw [← show j=l.length from by omega,← hp,List.take_of_length_le (by omega)]
 have hjl:j=l.length:=by omega
 rw [hfin] at ho
 exact ⟨by rw [hq,hjl],ho,hW⟩
theorem F23(w0:World)(B0:Nat)(A:Option Addr)(c:Nat)(l:List Gt)(ho:Own w0 B0 55 3 encG A c l)(n k:Int)(hk:0≤k∧k≤1000000000000)(hln:l.length≤1000000000) : Ret Tryz.prog 12 [.agg #[vi n,.slice A l.length c],vi k] w0 (fun v w=>v=vi (k+3*(l.length:Int))∧Own w B0 55 3 encG A c (markG k l.length)∧w0.grownBy w (Value.slice A l.length c).ownBlock):=by
 refine enter Tryz.func12 rfl 10 rfl rfl ?_
 intro a hf
 have hW:w0.grownBy w0 (Value.slice A l.length c).ownBlock:=World.grownBy.refl _ _
 refine Zs hf fun _ hK2=>?_
 refine Zf (X08 (zs:=[vi n,.slice A l.length c]) rfl rfl) ?_;rintro _ w1 ⟨b3,rfl,hl3,hE,hB3⟩
 have hlo3:=Nat.le_trans hW.size hl3
 replace ho:=ho.below hE
 replace hW:=gbel hW hE
 refine Za rfl ?_
 refine Zt hK2 fun a hf=>?_
 refine Zs hf fun _ hK4=>?_
 refine Ze (Vd rfl X0h 1)<|Ze (X0 rfl X18 (hB3.at 1))<|Zm rfl ?_
 refine Zf (Vc (F61 _ B0 A c l ho k hk hln) Xle) ?_;rintro _ w2 ⟨rfl,hnew,hg⟩
 have hown:=ho
 replace hB3:=hB3.appT hown hg rfl
 replace hW:=gtr hW hg
 clear hown hg;clear ho;have ho:=hnew;clear hnew
 refine Za rfl ?_
 refine Zt hK4 fun a hf=>?_
 refine Zs hf fun _ hK5=>?_
 refine Zm rfl<|Za rfl ?_
 refine Zt hK5 fun a hf=>?_
 refine wp_ret (X5 hf (Xl hf rfl rfl) ?_)
 exact ⟨rfl,ho,hW⟩
end Go.Proofs.YtgkoieoaamkjhaaGreat
namespace Go.Proofs.YtgkoieoaamkjhaaGreat
def ltK(key:Int→Int)(i k:Int) : Prop:=key i<key k∨(key i=key k∧i<k)
theorem ltK.irr{key:Int→Int}{i:Int}(h:ltK key i i) : False:=by unfold ltK at h;omega
theorem ltK.trans{key:Int→Int}{i j k:Int}(h:ltK key i j)(h2:ltK key j k) : ltK key i k:=by unfold ltK at *;omega
theorem ltK.asymm{key:Int→Int}{i j:Int}(h:ltK key i j)(h2:ltK key j i) : False:=(h.trans h2).irr
theorem ltK.of_le{key:Int→Int}{i j:Int}(h:¬ key j<key i)(h2:i<j) : ltK key i j:=by unfold ltK;omega
def Srt(key:Int→Int)(l:List Int) : Prop:=l.Pairwise (ltK key)
theorem Xen{key:Int→Int}{l1 l2:List Int}(h1:Srt key l1)(h2:Srt key l2)(hp:l1.Perm l2) : l1=l2:=
 List.Perm.eq_of_pairwise (fun _ _ _ _ x y=>(x.asymm y).elim) h1 h2 hp
theorem X4k{key:Int→Int}{l1 l2:List Int} : Srt key (l1++l2)↔Srt key l1∧Srt key l2∧∀ x ∈ l1,∀ y ∈ l2,ltK key x y:=List.pairwise_append
theorem Xbh{key:Int→Int}{x:Int} : Srt key [x]:=List.pairwise_singleton _ _
theorem Xb4{key:Int→Int} : Srt key []:=List.Pairwise.nil
theorem X63{l1 l2:List Int}{k:Nat}(h:k<l1.length) : (l1++l2).getD k 0=l1.getD k 0:=by
 simp only [List.getD_eq_getElem?_getD];rw [List.getElem?_append_left h]
theorem X47{l1 l2:List Int}{k:Nat}(h:l1.length≤k) : (l1++l2).getD k 0=l2.getD (k-l1.length) 0:=by
 simp only [List.getD_eq_getElem?_getD];rw [List.getElem?_append_right h]
theorem X26{l:List Int}{k:Nat}(h:k<l.length) : l.getD k 0 ∈ l:=by
 rw [List.getD_eq_getElem?_getD,List.getElem?_eq_getElem h];exact List.getElem_mem h
theorem X5m{key:Int→Int}{l:List Int}(h:Srt key l){i j:Nat}(hij:i<j)(hj:j<l.length) : ltK key (l.getD i 0) (l.getD j 0):=by
 rw [List.getD_eq_getElem?_getD,List.getD_eq_getElem?_getD,List.getElem?_eq_getElem hj,List.getElem?_eq_getElem (Nat.lt_trans hij hj)]
 exact (List.pairwise_iff_getElem.1 h) i j (Nat.lt_trans hij hj) hj hij
def Cut(pr:Nat→Prop)(lo hi st r:Nat) : Prop:=lo≤st∧st≤r∧r≤hi∧(∀ c,lo≤c→c<st→pr c)∧(∀ c,r≤c→c<hi→¬ pr c)
def Down(pr:Nat→Prop)(lo hi:Nat) : Prop:=∀ c c',lo≤c→c<c'→c'<hi→pr c'→pr c
theorem X3q{pr:Nat→Prop}{lo hi:Nat}(h:lo≤hi) : Cut pr lo hi lo hi:=⟨Nat.le_refl _,h,Nat.le_refl _,fun _ _ _=>by omega,fun _ _ _=>by omega⟩
theorem X8d{pr:Nat→Prop}{lo hi st r c:Nat}(h:Cut pr lo hi st r)(hm:Down pr lo hi)(h1:st≤c)(h2:c<r)(hc:pr c) : Cut pr lo hi (c+1) r:=by
 obtain ⟨a,b,d,e,f⟩:=h
 refine ⟨by omega,by omega,d,fun x hx hx2=>?_,f⟩
 by_cases hxc:x=c
 ·rw [hxc];exact hc
 ·exact hm x c hx (by omega) (by omega) hc
theorem X4g{pr:Nat→Prop}{lo hi st r c:Nat}(h:Cut pr lo hi st r)(hm:Down pr lo hi)(h1:st≤c)(h2:c<r)(hc:¬ pr c) : Cut pr lo hi st c:=by
 obtain ⟨a,b,d,e,f⟩:=h
 refine ⟨a,h1,by omega,e,fun x hx hx2=>?_⟩
 by_cases hxc:x=c
 ·rw [hxc];exact hc
 ·exact fun hp=>hc (hm c x (by omega) (by omega) hx2 hp)
theorem X1g{l:List Int}{k:Nat}(h:k<l.length) : l.take (k+1)=l.take k++[l.getD k 0]:=by
 rw [List.take_succ_eq_append_getElem h,List.getD_eq_getElem?_getD,List.getElem?_eq_getElem h];rfl
theorem X1b{l:List Int}{k:Nat}(h:k<l.length) : l.drop k=l.getD k 0::l.drop (k+1):=by
 rw [List.drop_eq_getElem_cons h,List.getD_eq_getElem?_getD,List.getElem?_eq_getElem h];rfl
theorem X5k{key:Int→Int}{S:List Int}{x:Int}{j:Nat}(hS:Srt key S)(h1:∀ y ∈ S.take j,ltK key y x)(h2:∀ y ∈ S.drop j,ltK key x y) : Srt key (S.take j++x::S.drop j):=by
 rw [← List.take_append_drop j S] at hS
 obtain ⟨a,b,c⟩:=X4k.1 hS
 refine X4k.2 ⟨a,List.pairwise_cons.2 ⟨h2,b⟩,fun y hy z hz=>?_⟩
 rcases List.mem_cons.1 hz with rfl|hz
 ·exact h1 y hy
 ·exact c y hy z hz
theorem X66{S:List Int}{x:Int}{j:Nat} : (S.take j++x::S.drop j).Perm (S++[x]):=by
 refine (List.perm_middle).trans ?_
 rw [List.take_append_drop]
 exact (List.perm_append_singleton x S).symm
theorem X3p{key:Int→Int}{S:List Int}{x:Int}(hS:Srt key S){j:Nat}(hj:j+1≤S.length)(h:ltK key (S.getD j 0) x) : ∀ y ∈ S.take (j+1),ltK key y x:=by
 intro y hy
 rw [X1g (by omega)] at hy
 rcases List.mem_append.1 hy with hy|hy
 ·obtain ⟨i,hi,rfl⟩:=List.getElem_of_mem hy
  have hi':i<j:=by rw [List.length_take] at hi;omega
  have:=X5m hS hi' (by omega)
  rw [List.getElem_take]
  rw [List.getD_eq_getElem?_getD,List.getElem?_eq_getElem (by omega:i<S.length)] at this
  exact this.trans h
 ·rw [List.mem_singleton.1 hy];exact h
theorem X75{key:Int→Int}{S:List Int}{x:Int}(hS:Srt key S){j:Nat}(hj:j<S.length)(h:ltK key x (S.getD j 0)) : ∀ y ∈ S.drop j,ltK key x y:=by
 intro y hy
 rw [X1b hj] at hy
 rcases List.mem_cons.1 hy with rfl|hy
 ·exact h
 ·obtain ⟨i,hi,rfl⟩:=List.getElem_of_mem hy
  have hl:i<(S.drop (j+1)).length:=hi
  rw [List.length_drop] at hl
  have:=X5m hS (show j<j+1+i by omega) (by omega)
  rw [List.getElem_drop]
  rw [List.getD_eq_getElem?_getD (i:=j+1+i),List.getElem?_eq_getElem (by omega:j+1+i<S.length)] at this
  exact h.trans this
theorem cross{key:Int→Int}{L R:List Int}(hL:Srt key L)(hR:Srt key R){u v:Nat}(hu:u≤L.length)(hv:v≤R.length)
  (h1:0<u→v<R.length→ltK key (L.getD (u-1) 0) (R.getD v 0)) (h2:0<v→u<L.length→ltK key (R.getD (v-1) 0) (L.getD u 0)) :
  ∀ x ∈ L.take u++R.take v,∀ y ∈ L.drop u++R.drop v,ltK key x y:=by
 intro x hx y hy
 rw [← List.take_append_drop u L] at hL
 rw [← List.take_append_drop v R] at hR
 obtain ⟨_,_,hLc⟩:=X4k.1 hL
 obtain ⟨_,_,hRc⟩:=X4k.1 hR
 rw [List.take_append_drop] at hL hR
 rcases List.mem_append.1 hx with hx|hx<;>rcases List.mem_append.1 hy with hy|hy
 ·exact hLc x hx y hy
 ·have hu0:0<u:=by
   rcases Nat.eq_zero_or_pos u with e|e;· rw [e] at hx;simp at hx
   exact e
  have hv0:v<R.length:=by
   rcases Nat.lt_or_ge v R.length with e|e;· exact e
   rw [List.drop_eq_nil_of_le e] at hy;simp at hy
  have h:=h1 hu0 hv0
  have hxs:=X3p hL (j:=u-1) (by omega) h x (by rw [show u-1+1=u from by omega];exact hx)
  exact (X75 hR hv0 hxs) y hy
 ·have hv0:0<v:=by
   rcases Nat.eq_zero_or_pos v with e|e;· rw [e] at hx;simp at hx
   exact e
  have hu0:u<L.length:=by
   rcases Nat.lt_or_ge u L.length with e|e;· exact e
   rw [List.drop_eq_nil_of_le e] at hy;simp at hy
  have h:=h2 hv0 hu0
  have hxs:=X3p hR (j:=v-1) (by omega) h x (by rw [show v-1+1=v from by omega];exact hx)
  exact (X75 hL hu0 hxs) y hy
 ·exact hRc x hx y hy
def Merged(key:Int→Int)(L R M:List Int) : Prop:=Srt key M∧M.Perm (L++R)
theorem Merged.len{key:Int→Int}{L R M:List Int}(h:Merged key L R M) : M.length=L.length+R.length:=by rw [h.2.length_eq,List.length_append]
theorem Merged.mem{key:Int→Int}{L R M:List Int}(h:Merged key L R M){x:Int}(hx:x ∈ M) : x ∈ L∨x ∈ R:=List.mem_append.1 (h.2.mem_iff.1 hx)
theorem X0e{key:Int→Int}{R:List Int}(h:Srt key R) : Merged key [] R R:=⟨h,List.Perm.refl _⟩
theorem X0d{key:Int→Int}{L:List Int}(h:Srt key L) : Merged key L [] L:=⟨h,by rw [List.append_nil]⟩
theorem X0i{key:Int→Int}{L R M1 M2:List Int}{u v:Nat}(hc:∀ x ∈ L.take u++R.take v,∀ y ∈ L.drop u++R.drop v,ltK key x y)
  (h1:Merged key (L.take u) (R.take v) M1) (h2:Merged key (L.drop u) (R.drop v) M2) : Merged key L R (M1++M2):=by
 refine ⟨X4k.2 ⟨h1.1,h2.1,fun x hx y hy=>hc x (h1.2.mem_iff.1 hx) y (h2.2.mem_iff.1 hy)⟩,?_⟩
 refine (List.Perm.append h1.2 h2.2).trans ?_
 calc (L.take u++R.take v++(L.drop u++R.drop v)).Perm (L.take u++(R.take v++(L.drop u++R.drop v))):=by rw [List.append_assoc]
  _ |>.Perm (L.take u++(L.drop u++(R.take v++R.drop v))):=by
    refine List.Perm.append_left _ ?_
    rw [← List.append_assoc,← List.append_assoc]
    exact List.Perm.append_right _ List.perm_append_comm
  _ |>.Perm (L++R):=by rw [← List.append_assoc,List.take_append_drop,List.take_append_drop]
def ran(a b:Nat) : List Int:=(List.range' a (b-a)).map (fun k:Nat=>(k:Int))
theorem X24{a b:Nat} : (ran a b).length=b-a:=by simp [ran]
theorem X89{a b:Nat}{x:Int} : x ∈ ran a b↔(a:Int)≤x∧x<(b:Int):=by
 simp only [ran,List.mem_map,List.mem_range'_1]
 constructor
 ·rintro ⟨k,hk,rfl⟩;omega
 ·intro h;exact ⟨x.toNat,by omega,by omega⟩
theorem Xbi{a b:Nat} : (ran a b).Pairwise (· < ·):=by
 rw [ran,List.pairwise_map]
 exact (List.pairwise_lt_range' (s:=a) (n:=b-a)).imp (fun h=>by omega)
theorem X7w{a m b:Nat}(h:a≤m)(h2:m≤b) : ran a m++ran m b=ran a b:=by
 simp only [ran,← List.map_append]
 rw [show m=a+(m-a) from by omega,show a+(m-a)-a=m-a from by omega,show b-(a+(m-a))=b-m from by omega]
 rw [List.range'_append_1,show m-a+(b-m)=b-a from by omega]
theorem X6c{a b:Nat}(h:a≤b) : ran a (b+1)=ran a b++[(b:Int)]:=by
 rw [← X7w h (Nat.le_succ b)]
 congr 1
 simp [ran,List.range'_succ]
def SortedR(key:Int→Int)(a b:Nat)(S:List Int) : Prop:=Srt key S∧S.Perm (ran a b)
theorem SortedR.len{key:Int→Int}{a b:Nat}{S:List Int}(h:SortedR key a b S) : S.length=b-a:=by rw [h.2.length_eq,X24]
theorem SortedR.mem{key:Int→Int}{a b:Nat}{S:List Int}(h:SortedR key a b S){x:Int}(hx:x ∈ S) : (a:Int)≤x∧x<(b:Int):=X89.1 (h.2.mem_iff.1 hx)
theorem SortedR.merge{key:Int→Int}{a m b:Nat}{L R M:List Int}(h:a≤m)(h2:m≤b)(hL:SortedR key a m L)(hR:SortedR key m b R)(hM:Merged key L R M) : SortedR key a b M:=
 ⟨hM.1,hM.2.trans (by rw [← X7w h h2];exact List.Perm.append hL.2 hR.2)⟩
theorem SortedR.uniq{key:Int→Int}{a b:Nat}{S S':List Int}(h:SortedR key a b S)(h':SortedR key a b S') : S=S':=Xen h.1 h'.1 (h.2.trans h'.2.symm)
inductive Blocks (key:Int→Int) (b n:Nat) : Nat→List Int→Prop
 | nil {a:Nat} (h:n≤a) : Blocks key b n a []
 | cons {a:Nat} {S l:List Int} (h:a<n) (hS:SortedR key a (min (a+b) n) S) (hl:Blocks key b n (a+b) l) : Blocks key b n a (S++l)
theorem Blocks.len{key:Int→Int}{b n a:Nat}{l:List Int}(h:Blocks key b n a l) : l.length=n-a:=by
 induction h with
 | nil h=>simp;omega
 | cons h hS hl ih=>rw [List.length_append,hS.len,ih];omega
theorem Blocks.one{key:Int→Int}{b n a:Nat}{S:List Int}(h:a<n)(hb:n≤a+b)(hS:SortedR key a n S) : Blocks key b n a S:=by
 have:=Blocks.cons (key:=key) (b:=b) (l:=[]) h (by rw [Nat.min_eq_right hb];exact hS) (Blocks.nil hb)
 rwa [List.append_nil] at this
inductive Head (key:Int→Int) (b:Nat) : Nat→List Int→Prop
 | nil:Head key b 0 []
 | snoc {a:Nat} {S l:List Int} (hl:Head key b a l) (hS:SortedR key a (a+b) S) : Head key b (a+b) (l++S)
theorem Head.len{key:Int→Int}{b a:Nat}{l:List Int}(h:Head key b a l) : l.length=a:=by
 induction h with
 | nil=>rfl
 | snoc hl hS ih=>rw [List.length_append,ih,hS.len];omega
theorem Head.blocks{key:Int→Int}{b n a:Nat}{l T:List Int}(h:Head key b a l)(hT:Blocks key b n a T)(ha:a≤n)(hb:0<b) : Blocks key b n 0 (l++T):=by
 induction h generalizing T with
 | nil=>exact hT
 | snoc hl hS ih=>
  rw [List.append_assoc]
  exact ih (Blocks.cons (by omega) (by rw [Nat.min_eq_left (by omega)];exact hS) hT) (by omega)
end Go.Proofs.YtgkoieoaamkjhaaGreat
namespace Go.Proofs.YtgkoieoaamkjhaaGreat
instance (key:Int→Int) (i k:Int) : Decidable (ltK key i k):=by unfold ltK;infer_instance
def insF(key:Int→Int)(x:Int) : List Int→List Int
 | []=>[x]
 | y::l=>if ltK key y x then y::insF key x l else x::y::l
def srtF(key:Int→Int) : Nat→List Int
 | 0=>[]
 | n+1=>insF key (n:Int) (srtF key n)
theorem X4y{key:Int→Int}{x:Int} : ∀ l:List Int,(insF key x l).Perm (l++[x])
 | []=>List.Perm.refl _
 | y::l=>by
  rw [insF]
  split
  ·exact (X4y l).cons y
  ·exact (List.perm_append_singleton x (y::l)).symm
theorem X9j{key:Int→Int}{x:Int} : ∀ {l:List Int},Srt key l→(∀ y ∈ l,y≠x)→Srt key (insF key x l)
 | [],_,_=>Xbh
 | y::l,h,hn=>by
  obtain ⟨h1,h2⟩:=List.pairwise_cons.1 h
  rw [insF]
  split
  ·rename_i hc
   refine List.pairwise_cons.2 ⟨fun z hz=>?_,X9j h2 fun z hz=>hn z (List.mem_cons_of_mem _ hz)⟩
   rcases List.mem_append.1 ((X4y l).mem_iff.1 hz) with hz|hz
   ·exact h1 z hz
   ·rw [List.mem_singleton.1 hz];exact hc
  ·rename_i hc
   have hxy:ltK key x y:=by
    have:=hn y (List.mem_cons_self ..)
    unfold ltK at hc ⊢;omega
   exact List.pairwise_cons.2 ⟨fun z hz=>by
    rcases List.mem_cons.1 hz with rfl|hz
    ·exact hxy
    ·exact hxy.trans (h1 z hz),h⟩
theorem X28{key:Int→Int} : ∀ n:Nat,SortedR key 0 n (srtF key n)
 | 0=>⟨Xb4,by simp [srtF,ran]⟩
 | n+1=>by
  have ih:=X28 (key:=key) n
  refine ⟨X9j ih.1 fun y hy=>by have:=ih.mem hy;omega,?_⟩
  rw [X6c (Nat.zero_le n)]
  exact (X4y _).trans (ih.2.append_right _)
theorem X17{key:Int→Int}{n:Nat} : (srtF key n).length=n:=by rw [(X28 n).len];omega
theorem X9x{key:Int→Int}{n:Nat}{x:Int}(h:x ∈ srtF key n) : 0≤x∧x<(n:Int):=by have:=(X28 n).mem h;omega
theorem X7i{key:Int→Int}{n:Nat}{S:List Int}(h:SortedR key 0 n S) : S=srtF key n:=h.uniq (X28 n)
theorem Xcv{key:Int→Int}{n k:Nat}(hk:k≤n)(h1:∀ y ∈ (srtF key n).drop k,key (n:Int)<key y)(h2:0<k→key ((srtF key n).getD (k-1) 0)≤key (n:Int)) :
  (srtF key n).take k++(n:Int)::(srtF key n).drop k=srtF key (n+1):=by
 have hs:=X28 (key:=key) n
 refine X7i ⟨X5k hs.1 (fun y hy=>?_) (fun y hy=>Or.inl (h1 y hy)),?_⟩
 ·have hk0:0<k:=by
   rcases Nat.eq_zero_or_pos k with e|e
   ·rw [e] at hy;simp at hy
   ·exact e
  have hlen:=X17 (key:=key) (n:=n)
  have hm:=X9x (X26 (l:=srtF key n) (k:=k-1) (by omega))
  refine X3p hs.1 (j:=k-1) (by omega) (ltK.of_le (by have:=h2 hk0;omega) hm.2) y (by rw [show k-1+1=k from by omega];exact hy)
 ·rw [X6c (Nat.zero_le n)]
  exact X66.trans (hs.2.append_right _)
end Go.Proofs.YtgkoieoaamkjhaaGreat
namespace Go.Proofs.YtgkoieoaamkjhaaGreat
open Go.RowKit
section
variable {P : Program} {a : Act} {w w' : World} {n : Nat} {e : Env} {ty : TypeId} {pos : String} {af : Array Edge} {g : Option (Nat × Bool)} {d : Option Tmp} {s t t' : TypeId} {x y : Operand} {i j : Int}
theorem Xhp(m:Nat)(hm:m≤9223372036854775807) : IntKind.u64.wrap (m:Int)=(m:Int):=by
 simp only [IntKind.wrap]
 simp only [IntKind.bits,IntKind.signed,Bool.false_and,Bool.false_eq_true,if_false]
 omega
theorem Xgo{m:Nat}(hs:P.underlying s=some (.int .i64))(ht:P.underlying t=some (.int .u64))(hf:Fr a n e)(hx:ev e x=some (.int .i64 i))(hi:i=(m:Int))(hm:m≤9223372036854775807) :
  Ev P ⟨d,.convert s t x,ty,pos,af,g⟩ a w (.int .u64 (m:Int)):=fun w' _=>by
 subst hi
 simp [execOp,hf.ev hx,convert,X09 hs,X09 ht,Conv.intToInt,Xhp m hm]
theorem X9b{m:Nat}(hs:P.underlying s=some (.int .i64))(ht:P.underlying t=some (.int .u64))(hx:ev e x=some (.int .i64 i))(hi:i=(m:Int))(hm:m≤9223372036854775807) : EvW P ⟨d,.convert s t x,ty,pos,af,g⟩ n e w (.int .u64 (m:Int)):=fun a hf=>Xgo hs ht hf hx hi hm
theorem Xgs{m:Nat}(hs:P.underlying s=some (.int .u64))(ht:P.underlying t=some (.int .i64))(hf:Fr a n e)(hx:ev e x=some (.int .u64 (m:Int)))(hm:m≤9223372036854775807) :
  Ev P ⟨d,.convert s t x,ty,pos,af,g⟩ a w (.int .i64 (m:Int)):=fun w' _=>by
 have h:IntKind.i64.wrap (m:Int)=(m:Int):=IntWalk.i64_in _ ⟨by omega,by omega⟩
 simp [execOp,hf.ev hx,convert,X09 hs,X09 ht,Conv.intToInt,h]
theorem X9k{m:Nat}(hs:P.underlying s=some (.int .u64))(ht:P.underlying t=some (.int .i64))(hx:ev e x=some (.int .u64 (m:Int)))(hm:m≤9223372036854775807) : EvW P ⟨d,.convert s t x,ty,pos,af,g⟩ n e w (.int .i64 (m:Int)):=fun a hf=>Xgs hs ht hf hx hm
theorem Xg5{m:Nat}(hf:Fr a n e)(hx:ev e x=some (.int .u64 (m:Int)))(hy:ev e y=some (.int .u64 1)) : Ev P ⟨d,.binOp .shr t x y t',ty,pos,af,g⟩ a w (.int .u64 ((m/2:Nat) : Int)):=fun w' _=>by
 simp [execOp,hf.ev hx,hf.ev hy,eqGuard,binOp,Op.shift,IntKind.bits,Int.fdiv_eq_ediv_of_nonneg]
theorem X9s{m:Nat}(hx:ev e x=some (.int .u64 (m:Int)))(hy:ev e y=some (.int .u64 1)) : EvW P ⟨d,.binOp .shr t x y t',ty,pos,af,g⟩ n e w (.int .u64 ((m/2:Nat) : Int)):=fun a hf=>Xg5 hf hx hy
end
theorem X10{l:List Int}{k:Nat}(h:k<l.length) : l[k]? = some (l.getD k 0):=by
 rw [List.getD_eq_getElem?_getD,List.getElem?_eq_getElem h];rfl
section
variable {U V W : List Int} {x y : Int} {p q : Nat}
theorem Xn3(hp:U.length=p) : (U++x::(V++y::W))[p]? = some x:=by
 subst hp;rw [List.getElem?_append_right (Nat.le_refl _),Nat.sub_self];rfl
theorem Xkp(hp:U.length=p)(hq:p+1+V.length=q) : (U++x::(V++y::W))[q]? = some y:=by
 subst hp;subst hq
 rw [List.getElem?_append_right (by omega),show U.length+1+V.length-U.length=V.length+1 from by omega,List.getElem?_cons_succ,List.getElem?_append_right (Nat.le_refl _),Nat.sub_self];rfl
theorem Xdp(hp:U.length=p) : (U++x::(V++y::W)).set p y=U++y::(V++y::W):=by
 subst hp;rw [List.set_append_right _ _ (Nat.le_refl _),Nat.sub_self];rfl
theorem Xfi(hp:U.length=p)(hq:p+1+V.length=q) : (U++y::(V++y::W)).set q x=U++y::(V++x::W):=by
 subst hp;subst hq
 rw [List.set_append_right _ _ (by omega),show U.length+1+V.length-U.length=V.length+1 from by omega,List.set_cons_succ,List.set_append_right _ _ (Nat.le_refl _),Nat.sub_self];rfl
theorem Xgp(hp:U.length=p)(hq:p+1+V.length=q) : ((U++x::(V++y::W)).set p y).set q x=U++y::(V++x::W):=by
 rw [Xdp hp,Xfi hp hq]
theorem Xkn(hp:U.length=p)(hq:p+1+V.length=q) : ((U++x::(V++y::W)).set p y)[q]? = some y:=by
 rw [Xdp hp,Xkp hp hq]
end
def swL(P X Y Z Q:List Int)(i:Nat) : List Int:=P++((Z.take i++X.drop i)++(Y++((X.take i++Z.drop i)++Q)))
theorem Xdv{P X Y Z Q:List Int} : P++(X++(Y++(Z++Q)))=swL P X Y Z Q 0:=by simp [swL]
theorem Xgc{P X Y Z Q:List Int}{i:Nat}(hX:X.length≤i)(hZ:Z.length=X.length) : swL P X Y Z Q i=P++(Z++(Y++(X++Q))):=by
 rw [swL,List.take_of_length_le (by omega),List.drop_eq_nil_of_le hX,List.take_of_length_le hX,List.drop_eq_nil_of_le (by omega),List.append_nil,List.append_nil]
theorem Xdf{P X Y Z Q:List Int}{i:Nat}(hi:i<X.length)(hZ:Z.length=X.length) :
  swL P X Y Z Q i=(P++Z.take i)++X.getD i 0::((X.drop (i+1)++(Y++X.take i))++Z.getD i 0::(Z.drop (i+1)++Q))∧
  swL P X Y Z Q (i+1)=(P++Z.take i)++Z.getD i 0::((X.drop (i+1)++(Y++X.take i))++X.getD i 0::(Z.drop (i+1)++Q)):=by
 constructor
 ·rw [swL,X1b hi,X1b (l:=Z) (by omega)];simp [List.append_assoc]
 ·rw [swL,X1g (l:=X) hi,X1g (l:=Z) (by omega)];simp [List.append_assoc]
section
variable {key : Int → Int} {cf : Int → Int → Int} {P L R Q : List Int} {n : Int} {a m b : Nat}
def Cmp(key:Int→Int)(cf:Int→Int→Int)(n:Int) : Prop:=∀ x y,0≤x→x<n→0≤y→y<n→(cf x y<0↔key x<key y)
def In(n:Int)(l:List Int) : Prop:=∀ x ∈ l,0≤x∧x<n
theorem In.get{l:List Int}(h:In n l){k:Nat}(hk:k<l.length) : 0≤l.getD k 0∧l.getD k 0<n:=h _ (X26 hk)
theorem X86{x y:Int}(h:Cmp key cf n)(hx:0≤x∧x<n)(hy:0≤y∧y<n)(ho:y<x) : decide (cf x y<0)=true↔ltK key x y:=by
 rw [decide_eq_true_iff,h x y hx.1 hx.2 hy.1 hy.2]
 unfold ltK;omega
theorem X82{x y:Int}(h:Cmp key cf n)(hx:0≤x∧x<n)(hy:0≤y∧y<n)(ho:y<x) : decide (cf x y<0)=false↔ltK key y x:=by
 rw [decide_eq_false_iff_not,h x y hx.1 hx.2 hy.1 hy.2]
 unfold ltK;omega
theorem X3u{k:Nat}(ha:P.length=a)(h1:a≤k)(h2:k<a+L.length) : (P++(L++(R++Q))).getD k 0=L.getD (k-a) 0:=by
 rw [X47 (by omega),X63 (by omega),ha]
theorem X3x{k:Nat}(ha:P.length=a)(hm:a+L.length=m)(h1:m≤k)(h2:k<m+R.length) : (P++(L++(R++Q))).getD k 0=R.getD (k-m) 0:=by
 rw [X47 (by omega),X47 (by omega),X63 (by omega)]
 congr 1;omega
structure Two (key:Int→Int) (P L R:List Int) (a m b:Nat) (n:Int) : Prop where
 ha:P.length=a
 hm:a+L.length=m
 hb:m+R.length=b
 hL:Srt key L
 hR:Srt key R
 lt:∀ x ∈ L,∀ y ∈ R,x<y
 iL:In n L
 iR:In n R
variable (h : Two key P L R a m b n)
include h
theorem Two.inl{k:Nat}(h1:a≤k)(h2:k<m) : 0≤(P++(L++(R++Q))).getD k 0∧(P++(L++(R++Q))).getD k 0<n:=by
 have:=h.hm;rw [X3u h.ha h1 (by omega)];exact h.iL.get (by omega)
theorem Two.inr{k:Nat}(h1:m≤k)(h2:k<b) : 0≤(P++(L++(R++Q))).getD k 0∧(P++(L++(R++Q))).getD k 0<n:=by
 have:=h.hb;rw [X3x h.ha h.hm h1 (by omega)];exact h.iR.get (by omega)
theorem Two.ord{i k:Nat}(h1:a≤i)(h2:i<m)(h3:m≤k)(h4:k<b) : (P++(L++(R++Q))).getD i 0<(P++(L++(R++Q))).getD k 0:=by
 have e1:=h.hm
 have e2:=h.hb
 rw [X3u h.ha h1 (by omega),X3x h.ha h.hm h3 (by omega)]
 exact h.lt _ (X26 (by omega)) _ (X26 (by omega))
theorem Two.srtL{i k:Nat}(h1:a≤i)(h2:i<k)(h3:k<m) : ltK key ((P++(L++(R++Q))).getD i 0) ((P++(L++(R++Q))).getD k 0):=by
 have e1:=h.hm
 rw [X3u h.ha h1 (by omega),X3u h.ha (by omega) (by omega)]
 exact X5m h.hL (by omega) (by omega)
theorem Two.srtR{i k:Nat}(h1:m≤i)(h2:i<k)(h3:k<b) : ltK key ((P++(L++(R++Q))).getD i 0) ((P++(L++(R++Q))).getD k 0):=by
 have e1:=h.hb
 rw [X3x h.ha h.hm h1 (by omega),X3x h.ha h.hm (by omega) (by omega)]
 exact X5m h.hR (by omega) (by omega)
def prS(key:Int→Int)(l:List Int)(p:Nat)(c:Nat) : Prop:=ltK key (l.getD c 0) (l.getD (p-c) 0)
theorem Two.down{p lo hi:Nat}(h1:a≤lo)(h2:hi≤m)(h3:m+hi≤p+1)(h4:p<lo+b) : Down (prS key (P++(L++(R++Q))) p) lo hi:=by
 intro c c' hc hcc hc' hp
 unfold prS at hp ⊢
 exact ((h.srtL (Q:=Q) (show a≤c by omega) hcc (by omega)).trans hp).trans (h.srtR (by omega) (by omega) (by omega))
theorem Two.cut{p lo hi s:Nat}(h1:a≤lo)(h2:hi≤m)(h3:m+hi≤p+1)(h4:p<lo+b)(hlh:lo≤hi)(hc:Cut (prS key (P++(L++(R++Q))) p) lo hi s s)
  (h5:lo=a∨p+1=lo+b) (h6:hi=m∨p+1=m+hi) : ∃ u v,s=a+u∧u≤L.length∧v≤R.length∧p+1=s+(m+v)∧
   (∀ x ∈ L.take u++R.take v,∀ y ∈ L.drop u++R.drop v,ltK key x y):=by
 have e1:=h.hm
 have e2:=h.hb
 obtain ⟨c1,c2,c3,c4,c5⟩:=hc
 refine ⟨s-a,p+1-s-m,by omega,by omega,by omega,by omega,cross h.hL h.hR (by omega) (by omega) (fun hu hv=>?_) (fun hv hu=>?_)⟩
 ·have:=c4 (s-1) (by omega) (by omega)
  unfold prS at this
  rw [X3u h.ha (by omega) (by omega),X3x h.ha h.hm (by omega) (by omega)] at this
  rw [show s-a-1=s-1-a from by omega,show p+1-s-m=p-(s-1)-m from by omega]
  exact this
 ·have h0:=c5 s (by omega) (by omega)
  unfold prS at h0
  rw [X3u h.ha (by omega) (by omega),X3x h.ha h.hm (by omega) (by omega)] at h0
  have hne:=h.lt _ (X26 (l:=L) (k:=s-a) (by omega)) _ (X26 (l:=R) (k:=p-s-m) (by omega))
  rw [show p+1-s-m-1=p-s-m from by omega]
  unfold ltK at h0 ⊢
  omega
end
end Go.Proofs.YtgkoieoaamkjhaaGreat
namespace Go.Proofs.YtgkoieoaamkjhaaGreat
open Go.RowKit
section
variable {U W : List Int} {x y : Int} {p : Nat}
theorem X4e(hp:U.length=p) : (U++x::W)[p]? = some x:=by
 subst hp;rw [List.getElem?_append_right (Nat.le_refl _),Nat.sub_self];rfl
theorem Xab(hp:U.length=p) : (U++y::x::W)[p+1]? = some x∧(U++y::x::W)[p]? = some y∧((U++y::x::W).set (p+1) y)[p]? = some y∧((U++y::x::W).set (p+1) y).set p x=U++x::y::W:=by
 have h1:(U++y::x::W).set (p+1) y=U++y::y::W:=by
  subst hp;rw [List.set_append_right _ _ (Nat.le_succ _),show U.length+1-U.length=1 from by omega];rfl
 refine ⟨?_,X4e hp,?_,?_⟩
 ·subst hp;rw [List.getElem?_append_right (Nat.le_succ _),show U.length+1-U.length=1 from by omega];rfl
 ·rw [h1];exact X4e hp
 ·rw [h1];subst hp;rw [List.set_append_right _ _ (Nat.le_refl _),Nat.sub_self];rfl
theorem Xih(hp:U.length=p) : (U++x::y::W)[p+1]? = some y∧(U++x::y::W)[p]? = some x∧((U++x::y::W).set p y)[p+1]? = some y∧((U++x::y::W).set p y).set (p+1) x=U++y::x::W:=by
 have h1:(U++x::y::W).set p y=U++y::y::W:=by
  subst hp;rw [List.set_append_right _ _ (Nat.le_refl _),Nat.sub_self];rfl
 refine ⟨?_,X4e hp,?_,?_⟩
 ·subst hp;rw [List.getElem?_append_right (Nat.le_succ _),show U.length+1-U.length=1 from by omega];rfl
 ·rw [h1];subst hp;rw [List.getElem?_append_right (Nat.le_succ _),show U.length+1-U.length=1 from by omega];rfl
 ·rw [h1];subst hp;rw [List.set_append_right _ _ (Nat.le_succ _),show U.length+1-U.length=1 from by omega];rfl
end
section
variable {key : Int → Int} {cf : Int → Int → Int} {P X S Q m m2 : List Int} {n : Int} {i j : Nat}
theorem Xcc:Srt key (X.take 1):=by
 cases X with
 | nil=>exact Xb4
 | cons x l=>exact Xbh
structure Ins (key:Int→Int) (P X S Q:List Int) (n:Int) (i j:Nat) (m2:List Int) : Prop where
 hi:i<X.length
 hj:j≤i
 hS:Srt key S
 hl:S.length=i
 hp:S.Perm (X.take i)
 hm:m2=P++(S.take j++(X.getD i 0::(S.drop j++(X.drop (i+1)++Q))))
 up:∀ y ∈ S.drop j,ltK key (X.getD i 0) y
 hX:X.Pairwise (· < ·)
 hn:In n X
theorem Xd3(hi:i<X.length)(hS:Srt key S)(hp:S.Perm (X.take i))(hm:m=P++(S++(X.drop i++Q)))(hX:X.Pairwise (· < ·))(hn:In n X) : Ins key P X S Q n i i m:=by
 have hl:S.length=i:=by rw [hp.length_eq,List.length_take];omega
 refine ⟨hi,Nat.le_refl _,hS,hl,hp,?_,?_,hX,hn⟩
 ·rw [hm,List.take_of_length_le (by omega),show S.drop i=[] from List.drop_eq_nil_of_le (by omega),X1b hi];rfl
 ·rw [List.drop_eq_nil_of_le (by omega)];intro y hy;cases hy
section
variable (h : Ins key P X S Q n i j m2)
include h
theorem Ins.len:m2.length=P.length+X.length+Q.length:=by
 have:=h.hi
 have:=h.hj
 have:=h.hl
 rw [h.hm];simp only [List.length_append,List.length_cons,List.length_take,List.length_drop];omega
theorem Ins.pl:(P++S.take j).length=P.length+j:=by
 have:=h.hj
 have:=h.hl
 simp only [List.length_append,List.length_take];omega
theorem Ins.at:m2[P.length+j]? = some (X.getD i 0):=by
 rw [h.hm,← List.append_assoc];exact X4e h.pl
theorem Ins.inx:0≤X.getD i 0∧X.getD i 0<n:=h.hn.get h.hi
theorem Ins.mem{y:Int}(hy:y ∈ S) : y ∈ X:=List.mem_of_mem_take (h.hp.mem_iff.1 hy)
theorem Ins.lt{y:Int}(hy:y ∈ S) : y<X.getD i 0:=by
 obtain ⟨k,hk,rfl⟩:=List.getElem_of_mem (h.hp.mem_iff.1 hy)
 rw [List.length_take] at hk
 have:=(List.pairwise_iff_getElem.1 h.hX) k i (by omega) h.hi (by omega)
 rw [List.getElem_take,List.getD_eq_getElem?_getD,List.getElem?_eq_getElem h.hi];exact this
theorem Ins.sm(h0:0<j) : S.getD (j-1) 0 ∈ S:=X26 (by have:=h.hj;have:=h.hl;omega)
theorem Ins.ins(h0:0<j) : 0≤S.getD (j-1) 0∧S.getD (j-1) 0<n:=h.hn _ (h.mem (h.sm h0))
theorem Ins.form(h0:0<j) : m2=(P++S.take (j-1))++S.getD (j-1) 0::X.getD i 0::(S.drop j++(X.drop (i+1)++Q)):=by
 have h1:=h.hj
 have h2:=h.hl
 have h3:=X1g (l:=S) (k:=j-1) (by omega)
 rw [show j-1+1=j from by omega] at h3
 rw [h.hm,h3];simp [List.append_assoc]
theorem Ins.pl1(h0:0<j) : (P++S.take (j-1)).length=P.length+j-1:=by
 have:=h.hj
 have:=h.hl
 simp only [List.length_append,List.length_take];omega
theorem Ins.at1(h0:0<j) : m2[P.length+j-1]? = some (S.getD (j-1) 0):=by
 rw [h.form h0];exact X4e (h.pl1 h0)
theorem Ins.at2(h0:0<j) : (m2.set (P.length+j) (S.getD (j-1) 0))[P.length+j-1]? = some (S.getD (j-1) 0):=by
 have:=(Xab (x:=X.getD i 0) (y:=S.getD (j-1) 0) (W:=S.drop j++(X.drop (i+1)++Q)) (h.pl1 h0)).2.2.1
 rw [← h.form h0,show P.length+j-1+1=P.length+j from by omega] at this
 exact this
theorem Ins.next(h0:0<j)(hlt:ltK key (X.getD i 0) (S.getD (j-1) 0)) : Ins key P X S Q n i (j-1) ((m2.set (P.length+j) (S.getD (j-1) 0)).set (P.length+j-1) (X.getD i 0)):=by
 have h1:=h.hj
 have h2:=h.hl
 have h3:=(Xab (x:=X.getD i 0) (y:=S.getD (j-1) 0) (W:=S.drop j++(X.drop (i+1)++Q)) (h.pl1 h0)).2.2.2
 rw [← h.form h0,show P.length+j-1+1=P.length+j from by omega] at h3
 have h4:=X1b (l:=S) (k:=j-1) (by omega)
 rw [show j-1+1=j from by omega] at h4
 refine ⟨h.hi,by omega,h.hS,h.hl,h.hp,?_,?_,h.hX,h.hn⟩
 ·rw [h3,h4];simp [List.append_assoc]
 ·rw [h4];intro y hy
  rcases List.mem_cons.1 hy with rfl|hy
  ·exact hlt
  ·exact h.up y hy
theorem Ins.cmp(h0:0<j)(hck:Cmp key cf n)(hd:decide (cf (X.getD i 0) (S.getD (j-1) 0)<0)=true) : ltK key (X.getD i 0) (S.getD (j-1) 0):=
 (X86 hck h.inx (h.ins h0) (h.lt (h.sm h0))).1 hd
theorem Ins.done(hck:Cmp key cf n)(hd:0<j→decide (cf (X.getD i 0) (S.getD (j-1) 0)<0)=false) : Srt key (S.take j++X.getD i 0::S.drop j)∧(S.take j++X.getD i 0::S.drop j).Perm (X.take (i+1))∧m2=P++((S.take j++X.getD i 0::S.drop j)++(X.drop (i+1)++Q)):=by
 have h1:=h.hj
 have h2:=h.hl
 refine ⟨X5k h.hS (fun y hy=>?_) h.up,?_,?_⟩
 ·have h0:0<j:=by
   rcases Nat.eq_zero_or_pos j with e|e
   ·rw [e] at hy;simp at hy
   ·exact e
  refine X3p h.hS (j:=j-1) (by omega) ((X82 hck h.inx (h.ins h0) (h.lt (h.sm h0))).1 (hd h0)) y (by rw [show j-1+1=j from by omega];exact hy)
 ·rw [X1g h.hi]
  exact X66.trans (h.hp.append_right _)
 ·rw [h.hm];simp [List.append_assoc]
end
end
section
variable {key : Int → Int} {cf : Int → Int → Int} {P L R Q l : List Int} {n : Int} {a m b i : Nat}
def prA(key:Int→Int)(l:List Int)(a:Nat)(c:Nat) : Prop:=ltK key (l.getD c 0) (l.getD a 0)
def prB(key:Int→Int)(l:List Int)(m:Nat)(c:Nat) : Prop:=ltK key (l.getD c 0) (l.getD m 0)
variable (h : Two key P L R a m b n)
include h
theorem Two.downA:Down (prA key (P++(L++(R++Q))) a) m b:=by
 intro c c' hc hcc hc' hp
 unfold prA at hp ⊢
 exact (h.srtR hc hcc hc').trans hp
theorem Two.downB:Down (prB key (P++(L++(R++Q))) m) a m:=by
 intro c c' hc hcc hc' hp
 unfold prB at hp ⊢
 exact (h.srtL hc hcc hc').trans hp
theorem Two.cmpA{c:Nat}(hL:m=a+1)(h1:m≤c)(h2:c<b)(hck:Cmp key cf n) :
  (decide (cf ((P++(L++(R++Q))).getD c 0) ((P++(L++(R++Q))).getD a 0)<0)=true→prA key (P++(L++(R++Q))) a c)∧(decide (cf ((P++(L++(R++Q))).getD c 0) ((P++(L++(R++Q))).getD a 0)<0)=false→¬ prA key (P++(L++(R++Q))) a c):=by
 have e:=h.ord (Q:=Q) (Nat.le_refl a) (by omega) h1 h2
 exact ⟨fun hd=>(X86 hck (h.inr h1 h2) (h.inl (Nat.le_refl _) (by omega)) e).1 hd,fun hd hp=>((X82 hck (h.inr h1 h2) (h.inl (Nat.le_refl _) (by omega)) e).1 hd).asymm hp⟩
theorem Two.cmpB{c:Nat}(hR:b=m+1)(h1:a≤c)(h2:c<m)(hck:Cmp key cf n) :
  (decide (cf ((P++(L++(R++Q))).getD m 0) ((P++(L++(R++Q))).getD c 0)<0)=true→¬ prB key (P++(L++(R++Q))) m c)∧(decide (cf ((P++(L++(R++Q))).getD m 0) ((P++(L++(R++Q))).getD c 0)<0)=false→prB key (P++(L++(R++Q))) m c):=by
 have e:=h.ord (Q:=Q) h1 h2 (Nat.le_refl m) (by omega)
 exact ⟨fun hd hp=>((X86 hck (h.inr (Nat.le_refl _) (by omega)) (h.inl h1 h2) e).1 hd).asymm hp,fun hd=>(X82 hck (h.inr (Nat.le_refl _) (by omega)) (h.inl h1 h2) e).1 hd⟩
theorem Two.cmpS{c p:Nat}(h1:a≤c)(h2:c<m)(h3:m+c≤p)(h4:p<c+b)(hck:Cmp key cf n) :
  (decide (cf ((P++(L++(R++Q))).getD (p-c) 0) ((P++(L++(R++Q))).getD c 0)<0)=true→¬ prS key (P++(L++(R++Q))) p c)∧(decide (cf ((P++(L++(R++Q))).getD (p-c) 0) ((P++(L++(R++Q))).getD c 0)<0)=false→prS key (P++(L++(R++Q))) p c):=by
 have e:=h.ord (Q:=Q) h1 h2 (show m≤p-c by omega) (by omega)
 exact ⟨fun hd hp=>((X86 hck (h.inr (by omega) (by omega)) (h.inl h1 h2) e).1 hd).asymm hp,fun hd=>(X82 hck (h.inr (by omega) (by omega)) (h.inl h1 h2) e).1 hd⟩
theorem Two.lenl:(P++(L++(R++Q))).length=b+Q.length:=by
 have:=h.ha
 have:=h.hm
 have:=h.hb
 simp only [List.length_append];omega
theorem Two.endA(hL:m=a+1)(hc:Cut (prA key (P++(L++(R++Q))) a) m b i i) : ∃ x v,L=[x]∧i=m+v∧v≤R.length∧Merged key L R (R.take v++x::R.drop v):=by
 have e1:=h.ha
 have e2:=h.hm
 have e3:=h.hb
 obtain ⟨c1,c2,c3,c4,c5⟩:=hc
 obtain ⟨x,rfl⟩ : ∃ x,L=[x]:=List.length_eq_one_iff.1 (by omega)
 refine ⟨x,i-m,rfl,by omega,by omega,X5k h.hR (fun y hy=>?_) (fun y hy=>?_),?_⟩
 ·obtain ⟨k,hk,rfl⟩:=List.getElem_of_mem hy
  rw [List.length_take] at hk
  have:=c4 (m+k) (by omega) (by omega)
  unfold prA at this
  rw [X3x h.ha h.hm (by omega) (by omega),X3u h.ha (Nat.le_refl _) (by simp),Nat.sub_self,show m+k-m=k from by omega] at this
  rw [List.getElem_take]
  rw [List.getD_eq_getElem?_getD,List.getElem?_eq_getElem (by omega:k<R.length)] at this
  exact this
 ·obtain ⟨k,hk,rfl⟩:=List.getElem_of_mem hy
  rw [List.length_drop] at hk
  have:=c5 (i+k) (by omega) (by omega)
  unfold prA at this
  rw [X3x h.ha h.hm (by omega) (by omega),X3u h.ha (Nat.le_refl _) (by simp),Nat.sub_self,show i+k-m=i-m+k from by omega] at this
  rw [List.getElem_drop]
  have hlt:=h.lt x (by simp) (R[i-m+k]'(by omega)) (List.getElem_mem _)
  rw [List.getD_eq_getElem?_getD,List.getElem?_eq_getElem (by omega:i-m+k<R.length)] at this
  simp only [Option.getD_some,List.getD_cons_zero] at this
  unfold ltK at this ⊢;omega
 ·refine (List.perm_middle).trans ?_
  rw [List.take_append_drop];exact List.Perm.refl _
theorem Two.lo{u v:Nat}(hu:u≤L.length)(hv:v≤R.length) : Two key P (L.take u) (R.take v) a (a+u) (a+u+v) n:=by
 refine ⟨h.ha,by rw [List.length_take];omega,by rw [List.length_take];omega,h.hL.sublist (List.take_sublist _ _),h.hR.sublist (List.take_sublist _ _),fun x hx y hy=>h.lt x (List.mem_of_mem_take hx) y (List.mem_of_mem_take hy),fun x hx=>h.iL x (List.mem_of_mem_take hx),fun x hx=>h.iR x (List.mem_of_mem_take hx)⟩
theorem Two.hi{u v:Nat}{M:List Int}(hu:u≤L.length)(hv:v≤R.length)(hM:Merged key (L.take u) (R.take v) M) : Two key (P++M) (L.drop u) (R.drop v) (a+u+v) (m+v) b n:=by
 have e1:=h.ha
 have e2:=h.hm
 have e3:=h.hb
 have e4:=hM.len
 rw [List.length_take,List.length_take] at e4
 refine ⟨by rw [List.length_append];omega,by rw [List.length_drop];omega,by rw [List.length_drop];omega,h.hL.sublist (List.drop_sublist _ _),h.hR.sublist (List.drop_sublist _ _),fun x hx y hy=>h.lt x (List.mem_of_mem_drop hx) y (List.mem_of_mem_drop hy),fun x hx=>h.iL x (List.mem_of_mem_drop hx),fun x hx=>h.iR x (List.mem_of_mem_drop hx)⟩
theorem Two.endB(hR:b=m+1)(hc:Cut (prB key (P++(L++(R++Q))) m) a m i i) : ∃ x u,R=[x]∧i=a+u∧u≤L.length∧Merged key L R (L.take u++x::L.drop u):=by
 have e1:=h.ha
 have e2:=h.hm
 have e3:=h.hb
 obtain ⟨c1,c2,c3,c4,c5⟩:=hc
 obtain ⟨x,rfl⟩ : ∃ x,R=[x]:=List.length_eq_one_iff.1 (by omega)
 refine ⟨x,i-a,rfl,by omega,by omega,X5k h.hL (fun y hy=>?_) (fun y hy=>?_),X66⟩
 ·obtain ⟨k,hk,rfl⟩:=List.getElem_of_mem hy
  rw [List.length_take] at hk
  have:=c4 (a+k) (by omega) (by omega)
  unfold prB at this
  rw [X3u h.ha (by omega) (by omega),X3x h.ha h.hm (Nat.le_refl _) (by simp),Nat.sub_self,show a+k-a=k from by omega] at this
  rw [List.getElem_take]
  rw [List.getD_eq_getElem?_getD,List.getElem?_eq_getElem (by omega:k<L.length)] at this
  exact this
 ·obtain ⟨k,hk,rfl⟩:=List.getElem_of_mem hy
  rw [List.length_drop] at hk
  have:=c5 (i+k) (by omega) (by omega)
  unfold prB at this
  rw [X3u h.ha (by omega) (by omega),X3x h.ha h.hm (Nat.le_refl _) (by simp),Nat.sub_self,show i+k-a=i-a+k from by omega] at this
  rw [List.getElem_drop]
  have hlt:=h.lt (L[i-a+k]'(by omega)) (List.getElem_mem _) x (by simp)
  rw [List.getD_eq_getElem?_getD,List.getElem?_eq_getElem (by omega:i-a+k<L.length)] at this
  simp only [Option.getD_some,List.getD_cons_zero] at this
  unfold ltK at this ⊢;omega
end
end Go.Proofs.YtgkoieoaamkjhaaGreat
set_option maxRecDepth 4000
namespace Go.Proofs.YtgkoieoaamkjhaaGreat
open Go.RowKit
theorem Xii(w0:World)(B0:Nat)(A:Option Addr)(c:Nat)(l:List Int)(ho:Own w0 B0 3 1 encI A c l)(p q r:Int)(vf:Value)(P X Y Z Q:List Int)(hl:l=P++(X++(Y++(Z++Q))))(hp:p=(P.length:Int))(hq:q=((P.length+X.length+Y.length:Nat) : Int))(hr:r=(X.length:Int))(hZ:Z.length=X.length)(hln:l.length≤1000000000) : Ret Tryz.prog 100 [.slice A l.length c,vi p,vi q,vi r,vf] w0 (fun v w=>Own w B0 3 1 encI A c (P++(Z++(Y++(X++Q))))∧w0.grownBy w (Value.slice A l.length c).ownBlock):=by
 subst hp hq hr
 have hll:l.length=P.length+X.length+Y.length+Z.length+Q.length:=by rw [hl];simp only [List.length_append];omega
 refine enter Tryz.func100 rfl 38 rfl rfl ?_
 intro a hf
 have hW:w0.grownBy w0 (Value.slice A l.length c).ownBlock:=World.grownBy.refl _ _
 refine Zs hf fun _ hK2=>?_
 refine Za rfl ?_
 refine Zt hK2 fun a hf=>?_
 refine wp_block ?_
 refine Xt (σ:=Nat×(List Int)) (fun (s:Nat×(List Int)) (a:Act) (w:World)=>match s with|(i,m)=>Fr a 38 [(0,.slice A l.length c),(1,vi (P.length:Int)),(2,vi ((P.length+X.length+Y.length:Nat) : Int)),(3,vi (X.length:Int)),(10,vi (i:Int))]∧(i≤X.length)∧(m=swL P X Y Z Q i)∧(m.length=l.length)∧Own w B0 3 1 encI A c m∧w0.grownBy w (Value.slice A l.length c).ownBlock) (fun (s:Nat×(List Int))=>match s with|(i,m)=>X.length-i) (0,l) ?_ ?_
 ·exact ⟨hf.sub ⟨rfl,rfl,rfl,rfl,rfl,trivial⟩,(Nat.zero_le _),(by rw [hl];exact Xdv),rfl,ho,hW⟩
 rintro ⟨i,m⟩ a w1 ⟨hf,hi,hm,hml,ho,hW⟩
 refine wp_seq_k fun _ hK3=>?_
 refine Zs hf fun _ hK4=>?_
 refine Zm rfl<|Zm rfl<|Ze (X06 rfl rfl) ?_
 refine Zt hK4 fun a hf=>?_
 refine Xd hf rfl (fun hc5=>?_) (fun hc5=>?_)
 ·have hc5b:=hc5
  have hc5:=of_decide_eq_true hc5
  obtain ⟨u6,hu6⟩:=Xi (l:=X) (k:=i) (by omega)
  have hiX:i<X.length:=by omega
  obtain ⟨hf1,hf2⟩:=Xdf (P:=P) (Y:=Y) (Q:=Q) hiX hZ
  have hPl:(P++Z.take i).length=P.length+i:=by simp;omega
  have hVl:P.length+i+1+(X.drop (i+1)++(Y++X.take i)).length=P.length+X.length+Y.length+i:=by simp;omega
  have hx1:m[P.length+i]? = some (X.getD i 0):=by rw [hm,hf1];exact Xn3 hPl
  have hx2:m[P.length+X.length+Y.length+i]? = some (Z.getD i 0):=by rw [hm,hf1];exact Xkp hPl hVl
  have hx3:(m.set (P.length+i) (Z.getD i 0))[P.length+X.length+Y.length+i]? = some (Z.getD i 0):=by rw [hm,hf1];exact Xkn hPl hVl
  have hx4:(m.set (P.length+i) (Z.getD i 0)).set (P.length+X.length+Y.length+i) (X.getD i 0)=swL P X Y Z Q (i+1):=by rw [hm,hf1,hf2];exact Xgp hPl hVl
  refine wp_skip ?_
  refine hK3 _ _ ?_
  refine wp_seq_k fun _ hK7=>?_
  refine wp_block ?_
  refine Xw none (fun j=>[21,23].contains j) mixed ?_
  intro w2 hE
  replace ho:=ho.below hE
  replace hW:=gbel hW hE
  refine Yb hf ?_
  refine Yo 0 rfl (fun _=>X2 rfl)<|Yo 1 rfl (fun _=>X2 rfl)<|Yo 2 rfl (fun _=>X2 rfl)<|Yo 3 rfl (fun _=>Xp rfl rfl (by omega) (by omega))<|Yo 4 rfl (fun _=>X2 rfl) ?_
  refine Yo 5 rfl (fun _=>X2 rfl)<|Yo 6 rfl (fun _=>X2 rfl)<|Yo 7 rfl (fun _=>Xp rfl rfl (by omega) (by omega))<|Yo 8 rfl (fun _=>X2 rfl)<|Yo 9 rfl (fun _=>X2 rfl) ?_
  refine Yo 10 rfl (fun _=>X2 rfl)<|Yo 11 rfl (fun _=>Xp rfl rfl (by omega) (by omega)) ?_
  refine Yj (k:=(P.length+X.length+Y.length+i)) (u:=(Z.getD i 0)) (enc:=encI) (l:=m) 12 rfl trivial rfl (by omega) rfl Xj X0a X7 ho.rd hx2 (by omega) ?_;intro p9 hat8
  refine Ye 13 rfl (X0 rfl X3 hat8)<|Yo 14 rfl (fun _=>X2 rfl)<|Yo 15 rfl (fun _=>X2 rfl)<|Yo 16 rfl (fun _=>X2 rfl)<|Yo 17 rfl (fun _=>Xp rfl rfl (by omega) (by omega)) ?_
  refine Yj (k:=(P.length+i)) (u:=(X.getD i 0)) (enc:=encI) (l:=m) 18 rfl trivial rfl (by omega) rfl Xj X0a X7 ho.rd hx1 (by omega) ?_;intro p11 hat10
  refine Ye 19 rfl (X0 rfl X3 hat10)<|Yo 20 rfl (fun _=>X0r (k:=(P.length+i)) rfl rfl Xj X0a ho (by omega) (by omega) (by omega)) ?_
  refine Y1 21 ?_
  refine Yh rfl trivial rfl (X0s (enc:=encI) (l:=m) (vs:=[vi (Z.getD i 0)]) (x0:=(X.getD i 0)) (u:=(Z.getD i 0)) (k:=(P.length+i)) (j:=0) (n1:=1) rfl rfl X0a ho X7 rfl rfl rfl rfl (by decide) hx1 rfl) ?_;rintro _ w3 ⟨hnew,hg⟩
  have hown:=ho
  replace hW:=gtr hW hg
  clear hown hg;clear ho;have ho:=hnew;clear hnew
  refine Y1 22 ?_
  refine Yz rfl trivial (Uev (X0r (k:=(P.length+X.length+Y.length+i)) rfl rfl Xj X0a ho (by simp;omega) (by omega) (by simp;omega))) ?_
  refine Y1 23 ?_
  refine Yh rfl trivial rfl (X0s (enc:=encI) (l:=(m.set (P.length+i) (Z.getD i 0))) (vs:=[vi (X.getD i 0)]) (x0:=(Z.getD i 0)) (u:=(X.getD i 0)) (k:=(P.length+X.length+Y.length+i)) (j:=0) (n1:=1) rfl rfl X0a ho X7 rfl rfl rfl rfl (by decide) hx3 rfl) ?_;rintro _ w4 ⟨hnew,hg⟩
  have hown:=ho
  replace hW:=gtr hW hg
  clear hown hg;clear ho;have ho:=hnew;clear hnew
  refine Yd fun a hf=>?_
  refine Xh ?_
  refine hK7 _ _ ?_
  refine Zr hf ?_
  refine Zm rfl<|Ze (Xp rfl rfl (by omega) (by omega))<|Za rfl ?_
  refine Zn fun a hf=>?_
  refine Xg ?_
  exact ⟨(i+1,((m.set (P.length+i) (Z.getD i 0)).set (P.length+X.length+Y.length+i) (X.getD i 0))),⟨hf.sub ⟨rfl,rfl,rfl,rfl,rfl,trivial⟩,(by omega),hx4,(by simp;exact hml),ho,hW⟩,(by first|omega|(dsimp only;omega))⟩
 have hc5b:=hc5
 have hc5:=of_decide_eq_false hc5
 refine wp_exit ?_
 refine Xf ?_
 refine Xf ?_
 refine Xs ?_
 refine X1r hf (X2i rfl) ?_
 rw [hm,Xgc (by omega) hZ] at ho
 exact ⟨ho,hW⟩
end Go.Proofs.YtgkoieoaamkjhaaGreat
set_option maxRecDepth 4000
namespace Go.Proofs.YtgkoieoaamkjhaaGreat
open Go.RowKit
theorem Xki(w0:World)(B0:Nat)(A:Option Addr)(c:Nat)(l:List Int)(ho:Own w0 B0 3 1 encI A c l)(p q r:Int)(vf:Value)(P U V Q:List Int)(hl:l=P++(U++(V++Q)))(hp:p=(P.length:Int))(hq:q=((P.length+U.length:Nat) : Int))(hr:r=((P.length+U.length+V.length:Nat) : Int))(hU:0<U.length)(hV:0<V.length)(hln:l.length≤1000000000) : Ret Tryz.prog 88 [.slice A l.length c,vi p,vi q,vi r,vf] w0 (fun v w=>Own w B0 3 1 encI A c (P++(V++(U++Q)))∧w0.grownBy w (Value.slice A l.length c).ownBlock):=by
 subst hp hq hr
 have hll:l.length=P.length+U.length+V.length+Q.length:=by rw [hl];simp only [List.length_append];omega
 refine enter Tryz.func88 rfl 58 rfl rfl ?_
 intro a hf
 have hW:w0.grownBy w0 (Value.slice A l.length c).ownBlock:=World.grownBy.refl _ _
 refine Zs hf fun _ hK2=>?_
 refine Zm rfl<|Zm rfl<|Ze (X0c rfl rfl (by omega) (by omega))<|Za rfl ?_
 refine Zt hK2 fun a hf=>?_
 refine Zs hf fun _ hK3=>?_
 refine Zm rfl<|Zm rfl<|Ze (X0c rfl rfl (by omega) (by omega))<|Za rfl ?_
 refine Zt hK3 fun a hf=>?_
 refine wp_seq_k fun _ hK4=>?_
 refine wp_block ?_
 refine Xt (σ:=Int×Int×(List Int)×(List Int)×(List Int)×(List Int)×(List Int)) (fun (s:Int×Int×(List Int)×(List Int)×(List Int)×(List Int)×(List Int)) (a:Act) (w:World)=>match s with|(i,j,q,P1,U1,V1,Q1)=>Fr a 58 [(0,.slice A l.length c),(2,vi ((P.length+U.length:Nat) : Int)),(4,vf),(10,vi i),(11,vi j)]∧(i=(U1.length:Int))∧(j=(V1.length:Int))∧(q=P1++(U1++(V1++Q1)))∧(P1++(V1++(U1++Q1))=P++(V++(U++Q)))∧(P1.length+U1.length=P.length+U.length)∧(0<U1.length)∧(0<V1.length)∧(q.length=l.length)∧Own w B0 3 1 encI A c q∧w0.grownBy w (Value.slice A l.length c).ownBlock) (fun (s:Int×Int×(List Int)×(List Int)×(List Int)×(List Int)×(List Int))=>match s with|(i,j,q,P1,U1,V1,Q1)=>U1.length+V1.length) ((((P.length+U.length:Nat) : Int)-(P.length:Int)),(((P.length+U.length+V.length:Nat) : Int)-((P.length+U.length:Nat) : Int)),l,P,U,V,Q) ?_ ?_
 ·exact ⟨hf.sub ⟨rfl,rfl,rfl,rfl,rfl,trivial⟩,(by omega),(by omega),hl,rfl,rfl,hU,hV,rfl,ho,hW⟩
 rintro ⟨i,j,q,P1,U1,V1,Q1⟩ a w1 ⟨hf,hi,hj,hq,hT,hPU,hU1,hV1,hql,ho,hW⟩
 have hsum:P1.length+U1.length+V1.length+Q1.length=l.length:=by rw [← hql,hq];simp only [List.length_append];omega
 refine wp_seq_k fun _ hK5=>?_
 refine Zs hf fun _ hK6=>?_
 refine Zm rfl<|Zm rfl<|Ze (X1e rfl rfl) ?_
 refine Zt hK6 fun a hf=>?_
 refine Xd hf rfl (fun hc7=>?_) (fun hc7=>?_)
 ·have hc7b:=hc7
  have hij:i≠j:=by simpa using hc7
  refine wp_skip ?_
  refine hK5 _ _ ?_
  refine wp_block ?_
  refine Zs hf fun _ hK8=>?_
  refine Zm rfl<|Zm rfl<|Ze (X5i rfl rfl) ?_
  refine Zt hK8 fun a hf=>?_
  refine Xd hf rfl (fun hc9=>?_) (fun hc9=>?_)
  ·have hc9b:=hc9
   have hc9:=of_decide_eq_true hc9
   have hk9:V1.length<U1.length:=by omega
   refine Zs hf fun _ hK10=>?_
   refine Zm rfl<|Zm rfl<|Zm rfl<|Ze (X0c rfl rfl (by omega) (by omega))<|Zm rfl ?_
   refine Zm rfl<|Zm rfl ?_
   refine Zf (X1v (vs:=[.slice A l.length c,vi (((P.length+U.length:Nat) : Int)-i),vi ((P.length+U.length:Nat) : Int),vi j,vf]) rfl Xat (by have hq:=Xii _ B0 A c q ho (((P.length+U.length:Nat) : Int)-i) ((P.length+U.length:Nat) : Int) j vf P1 (U1.take V1.length) (U1.drop V1.length) V1 Q1 (by rw [hq,← List.append_assoc (U1.take V1.length),List.take_append_drop]) (by omega) (by simp only [List.length_take,List.length_drop];omega) (by simp only [List.length_take,List.length_drop];omega) (by simp only [List.length_take,List.length_drop];omega) (by omega);rw [hql] at hq;exact hq)) ?_;rintro _ w2 ⟨hnew,hg⟩
   have hown:=ho
   replace hW:=gtr hW hg
   clear hown hg;clear ho;have ho:=hnew;clear hnew
   refine Zt hK10 fun a hf=>?_
   refine Zr hf ?_
   refine Zm rfl<|Zm rfl<|Ze (X0c rfl rfl (by omega) (by omega))<|Za rfl ?_
   refine Zn fun a hf=>?_
   refine Xh ?_
   refine Xg ?_
   exact ⟨(i-j,j,(P1++(V1++((U1.drop V1.length)++((U1.take V1.length)++Q1)))),(P1++V1),(U1.drop V1.length),(U1.take V1.length),Q1),⟨hf.sub ⟨rfl,rfl,rfl,rfl,rfl,trivial⟩,(by simp only [List.length_take,List.length_drop];omega),(by simp only [List.length_take,List.length_drop];omega),(by simp only [List.append_assoc]),(by rw [← hT,List.append_assoc,← List.append_assoc (U1.take V1.length),List.take_append_drop]),(by simp only [List.length_append,List.length_drop];omega),(by simp only [List.length_take,List.length_drop];omega),(by simp only [List.length_take,List.length_drop];omega),(by rw [← hql,hq];simp only [List.length_append,List.length_take,List.length_drop];omega),ho,hW⟩,(by simp only [List.length_take,List.length_drop];omega)⟩
  have hc9b:=hc9
  have hc9:=of_decide_eq_false hc9
  have hk9:U1.length<V1.length:=by omega
  refine Zs hf fun _ hK11=>?_
  refine Zm rfl<|Zm rfl<|Zm rfl<|Ze (X0c rfl rfl (by omega) (by omega))<|Zm rfl ?_
  refine Zm rfl<|Ze (Xp rfl rfl (by omega) (by omega))<|Zm rfl<|Ze (X0c rfl rfl (by omega) (by omega))<|Zm rfl ?_
  refine Zm rfl ?_
  refine Zf (X1v (vs:=[.slice A l.length c,vi (((P.length+U.length:Nat) : Int)-i),vi ((((P.length+U.length:Nat) : Int)+j)-i),vi i,vf]) rfl Xat (by have hq:=Xii _ B0 A c q ho (((P.length+U.length:Nat) : Int)-i) ((((P.length+U.length:Nat) : Int)+j)-i) i vf P1 U1 (V1.take (V1.length-U1.length)) (V1.drop (V1.length-U1.length)) Q1 (by rw [hq,← List.append_assoc (V1.take (V1.length-U1.length)),List.take_append_drop]) (by omega) (by simp only [List.length_take,List.length_drop];omega) hi (by simp only [List.length_take,List.length_drop];omega) (by omega);rw [hql] at hq;exact hq)) ?_;rintro _ w3 ⟨hnew,hg⟩
  have hown:=ho
  replace hW:=gtr hW hg
  clear hown hg;clear ho;have ho:=hnew;clear hnew
  refine Zt hK11 fun a hf=>?_
  refine Zr hf ?_
  refine Zm rfl<|Zm rfl<|Ze (X0c rfl rfl (by omega) (by omega))<|Za rfl ?_
  refine Zn fun a hf=>?_
  refine Xh ?_
  refine Xg ?_
  exact ⟨(i,j-i,(P1++((V1.drop (V1.length-U1.length))++((V1.take (V1.length-U1.length))++(U1++Q1)))),P1,(V1.drop (V1.length-U1.length)),(V1.take (V1.length-U1.length)),(U1++Q1)),⟨hf.sub ⟨rfl,rfl,rfl,rfl,rfl,trivial⟩,(by simp only [List.length_take,List.length_drop];omega),(by simp only [List.length_take,List.length_drop];omega),rfl,(by rw [← hT,← List.append_assoc (V1.take (V1.length-U1.length)),List.take_append_drop]),(by simp only [List.length_drop];omega),(by simp only [List.length_take,List.length_drop];omega),(by simp only [List.length_take,List.length_drop];omega),(by rw [← hql,hq];simp only [List.length_append,List.length_take,List.length_drop];omega),ho,hW⟩,(by simp only [List.length_take,List.length_drop];omega)⟩
 have hc7b:=hc7
 have hij:i=j:=by simpa using hc7
 refine wp_exit ?_
 refine Xf ?_
 refine Xf ?_
 refine Xs ?_
 refine hK4 _ _ ?_
 refine Zr hf ?_
 refine Zm rfl<|Zm rfl<|Zm rfl<|Ze (X0c rfl rfl (by omega) (by omega))<|Zm rfl ?_
 refine Zm rfl<|Zm rfl ?_
 refine Zf (X1v (vs:=[.slice A l.length c,vi (((P.length+U.length:Nat) : Int)-i),vi ((P.length+U.length:Nat) : Int),vi i,vf]) rfl Xat (by have hq:=Xii _ B0 A c q ho (((P.length+U.length:Nat) : Int)-i) ((P.length+U.length:Nat) : Int) i vf P1 U1 [] V1 Q1 hq (by omega) (by simp;omega) hi (by omega) (by omega);rw [hql] at hq;exact hq)) ?_;rintro _ w4 ⟨hnew,hg⟩
 have hown:=ho
 replace hW:=gtr hW hg
 clear hown hg;clear ho;have ho:=hnew;clear hnew
 refine Zn fun a hf=>?_
 refine X1r hf (X2i rfl) ?_
 have ho2:Own _ B0 3 1 encI A c (P1++(V1++(U1++Q1))):=ho
 rw [hT] at ho2
 exact ⟨ho2,hW⟩
end Go.Proofs.YtgkoieoaamkjhaaGreat
set_option maxRecDepth 4000
namespace Go.Proofs.YtgkoieoaamkjhaaGreat
open Go.RowKit
theorem Xkh(w0:World)(B0:Nat)(A:Option Addr)(c:Nat)(l:List Int)(ho:Own w0 B0 3 1 encI A c l)(p q:Int)(kf:FuncId)(pf:List Value)(Ff:FuncF Tryz.prog kf)(cf:Int→Int→Int)(key:Int→Int)(n:Int)(hcmp:∀ x y w,0≤x→x<n→0≤y→y<n→w0.grownBy w (Value.slice A l.length c).ownBlock→Ret Tryz.prog kf ([vi x,vi y]++pf) w (fun v w'=>v=vi (cf x y)∧Below w.heap.size w w'))(hck:Cmp key cf n)(P X Q:List Int)(hl:l=P++(X++Q))(hp:p=(P.length:Int))(hq:q=((P.length+X.length:Nat) : Int))(hX:X.Pairwise (· < ·))(hin:In n X)(hln:l.length≤1000000000) : Ret Tryz.prog 72 [.slice A l.length c,vi p,vi q,.func (.func kf) #[] pf.toArray] w0 (fun v w=>∃ S,(Srt key S∧S.Perm X)∧Own w B0 3 1 encI A c (P++(S++Q))∧w0.grownBy w (Value.slice A l.length c).ownBlock):=by
 subst hp hq
 have hll:l.length=P.length+X.length+Q.length:=by rw [hl];simp only [List.length_append];omega
 refine enter Tryz.func72 rfl 53 rfl rfl ?_
 intro a hf
 have hW:w0.grownBy w0 (Value.slice A l.length c).ownBlock:=World.grownBy.refl _ _
 refine Zs hf fun _ hK2=>?_
 refine Zm rfl<|Ze (Xp rfl rfl (by omega) (by omega))<|Za rfl ?_
 refine Zt hK2 fun a hf=>?_
 refine wp_block ?_
 refine Xt (σ:=Nat×(List Int)×(List Int)) (fun (s:Nat×(List Int)×(List Int)) (a:Act) (w:World)=>match s with|(i,m,S)=>Fr a 53 [(0,.slice A l.length c),(1,vi (P.length:Int)),(2,vi ((P.length+X.length:Nat) : Int)),(3,.func (.func kf) #[] pf.toArray),(8,vi ((P.length+i:Nat) : Int))]∧(1≤i)∧(m=P++(S++(X.drop i++Q)))∧(Srt key S)∧(S.Perm (X.take i))∧(m.length=l.length)∧Own w B0 3 1 encI A c m∧w0.grownBy w (Value.slice A l.length c).ownBlock) (fun (s:Nat×(List Int)×(List Int))=>match s with|(i,m,S)=>X.length-i) (1,l,(X.take 1)) ?_ ?_
 ·exact ⟨hf.sub ⟨rfl,rfl,rfl,rfl,rfl,trivial⟩,(Nat.le_refl _),(by rw [hl,← List.append_assoc (X.take 1),List.take_append_drop]),Xcc,(List.Perm.refl _),rfl,ho,hW⟩
 rintro ⟨i,m,S⟩ a w1 ⟨hf,hi1,hm,hS,hpm,hml,ho,hW⟩
 refine wp_seq_k fun _ hK3=>?_
 refine Zs hf fun _ hK4=>?_
 refine Zm rfl<|Zm rfl<|Ze (X06 rfl rfl) ?_
 refine Zt hK4 fun a hf=>?_
 refine Xd hf rfl (fun hc5=>?_) (fun hc5=>?_)
 ·have hc5b:=hc5
  have hc5:=of_decide_eq_true hc5
  have hiX:i<X.length:=by omega
  refine wp_skip ?_
  refine hK3 _ _ ?_
  refine wp_seq_k fun _ hK6=>?_
  refine wp_block ?_
  refine Zs hf fun _ hK7=>?_
  refine Zm rfl<|Za rfl ?_
  refine Zt hK7 fun a hf=>?_
  refine wp_block ?_
  refine Xt (σ:=Int×Nat×(List Int)) (fun (s:Int×Nat×(List Int)) (a:Act) (w:World)=>match s with|(jz,j,m2)=>Fr a 53 [(0,.slice A l.length c),(1,vi (P.length:Int)),(2,vi ((P.length+X.length:Nat) : Int)),(3,.func (.func kf) #[] pf.toArray),(8,vi ((P.length+i:Nat) : Int)),(9,vi jz)]∧(jz=((P.length+j:Nat) : Int))∧(j≤i)∧(Ins key P X S Q n i j m2)∧Own w B0 3 1 encI A c m2∧w0.grownBy w (Value.slice A l.length c).ownBlock) (fun (s:Int×Nat×(List Int))=>match s with|(jz,j,m2)=>j) (((P.length+i:Nat) : Int),i,m) ?_ ?_
  ·exact ⟨hf.sub ⟨rfl,rfl,rfl,rfl,rfl,rfl,trivial⟩,rfl,(Nat.le_refl _),(Xd3 hiX hS hpm hm hX hin),ho,hW⟩
  rintro ⟨jz,j,m2⟩ a w2 ⟨hf,hjz,hjle,hI,ho,hW⟩
  refine wp_seq_k fun _ hK8=>?_
  refine wp_seq_k fun _ hK9=>?_
  refine Xy (fun a w=>Fr a 53 [(0,.slice A l.length c),(1,vi (P.length:Int)),(2,vi ((P.length+X.length:Nat) : Int)),(3,.func (.func kf) #[] pf.toArray),(8,vi ((P.length+i:Nat) : Int)),(9,vi jz),(34,.bool ((decide ((P.length:Int)<jz))&&(decide ((cf (X.getD i 0) (S.getD (j-1) 0))<0))))]∧Below w2.heap.size w2 w) ?_ ?_
  ·have hEc:Below w2.heap.size w2 w2:=Below.refl _ _
   refine Xw none (fun _=>false) mixed ?_
   intro w3 hE
   replace ho:=ho.below hE
   replace hW:=gbel hW hE
   replace hEc:=btr hEc hE
   refine Yb hf ?_
   refine Yo 0 rfl (fun _=>X2 rfl)<|Yo 1 rfl (fun _=>X2 rfl)<|Yo 2 rfl (fun _=>X5i rfl rfl)<|Yo 3 rfl (fun _=>X2 rfl) ?_
   refine Yl 21 rfl (fun hg10=>?_) (fun hg10=>?_)
   ·refine Yu 4 rfl ⟨_,_,rfl,rfl,hg10⟩ (fun _=>X2 rfl) ?_
    refine Yu 5 rfl ⟨_,_,rfl,rfl,hg10⟩ (fun _=>X2 rfl) ?_
    refine Yu 6 rfl ⟨_,_,rfl,rfl,hg10⟩ (fun _=>X2 rfl) ?_
    refine Yj (k:=(P.length+j)) (u:=(X.getD i 0)) (enc:=encI) (l:=m2) 7 rfl ⟨_,_,rfl,rfl,hg10⟩ rfl (by have:=hI.len;omega) rfl Xj X0a X7 ho.rd hI.at hjz ?_;intro p12 hat11
    refine Yv 8 rfl ⟨_,_,rfl,rfl,hg10⟩ (X0 rfl X3 hat11) ?_
    refine Yu 9 rfl ⟨_,_,rfl,rfl,hg10⟩ (fun _=>X2 rfl) ?_
    refine Yu 10 rfl ⟨_,_,rfl,rfl,hg10⟩ (fun _=>X2 rfl) ?_
    refine Yu 11 rfl ⟨_,_,rfl,rfl,hg10⟩ (fun _=>X0c rfl rfl (by omega) (by omega)) ?_
    refine Yj (k:=(P.length+j-1)) (u:=(S.getD (j-1) 0)) (enc:=encI) (l:=m2) 12 rfl ⟨_,_,rfl,rfl,hg10⟩ rfl (by have:=hI.len;omega) rfl Xj X0a X7 ho.rd (hI.at1 (by have:=of_decide_eq_true hg10;omega)) (by have:=of_decide_eq_true hg10;omega) ?_;intro p14 hat13
    refine Yv 13 rfl ⟨_,_,rfl,rfl,hg10⟩ (X0 rfl X3 hat13) ?_
    refine Y1 14 ?_
    refine Yk rfl ⟨_,_,rfl,rfl,hg10⟩ (X29 (cs:=pf) (vs:=[vi (X.getD i 0),vi (S.getD (j-1) 0)]) rfl rfl Ff (hcmp (X.getD i 0) (S.getD (j-1) 0) _ hI.inx.1 hI.inx.2 (hI.ins (by have:=of_decide_eq_true hg10;omega)).1 (hI.ins (by have:=of_decide_eq_true hg10;omega)).2 hW)) (fun _ _ ⟨_,hE⟩=>hE) ?_;rintro _ w4 ⟨rfl,hE⟩
    replace ho:=ho.below hE
    replace hW:=gbel hW hE
    replace hEc:=btr hEc hE
    refine Yu 15 rfl ⟨_,_,rfl,rfl,hg10⟩ (fun _=>X06 rfl rfl) ?_
    refine Yo 16 rfl (fun _=>Xe rfl hg10 rfl) ?_
    refine Yd fun a hf=>?_
    have hEE:Below w2.heap.size w2 w4:=hEc
    exact ⟨hf.sub ⟨rfl,rfl,rfl,rfl,rfl,rfl,X1 rfl (by first|rfl|(simp only [hc5b,hg10,bs];done)|simp [hc5b,hg10]),trivial⟩,hEE⟩
   refine Yp 4 rfl ⟨_,_,rfl,rfl,hg10⟩ ?_
   refine Yp 5 rfl ⟨_,_,rfl,rfl,hg10⟩ ?_
   refine Yp 6 rfl ⟨_,_,rfl,rfl,hg10⟩ ?_
   refine Yp 7 rfl ⟨_,_,rfl,rfl,hg10⟩ ?_
   refine Yp 8 rfl ⟨_,_,rfl,rfl,hg10⟩ ?_
   refine Yp 9 rfl ⟨_,_,rfl,rfl,hg10⟩ ?_
   refine Yp 10 rfl ⟨_,_,rfl,rfl,hg10⟩ ?_
   refine Yp 11 rfl ⟨_,_,rfl,rfl,hg10⟩ ?_
   refine Yp 12 rfl ⟨_,_,rfl,rfl,hg10⟩ ?_
   refine Yp 13 rfl ⟨_,_,rfl,rfl,hg10⟩ ?_
   refine Y1 14 ?_
   refine Yq rfl ⟨_,_,rfl,rfl,hg10⟩ ?_
   refine Yp 15 rfl ⟨_,_,rfl,rfl,hg10⟩ ?_
   refine Yo 16 rfl (fun _=>Xa rfl hg10 rfl) ?_
   refine Yd fun a hf=>?_
   have hEE:Below w2.heap.size w2 w3:=hEc
   exact ⟨hf.sub ⟨rfl,rfl,rfl,rfl,rfl,rfl,X1 rfl (by first|rfl|(simp only [hc5b,hg10,bs];done)|simp [hc5b,hg10]),trivial⟩,hEE⟩
  rintro a w5 ⟨hf,hE⟩
  replace ho:=ho.below hE
  replace hW:=gbel hW hE
  refine hK9 _ _ ?_
  refine Xd hf rfl (fun hc15=>?_) (fun hc15=>?_)
  ·have hc15b:=hc15
   obtain ⟨h341,h342⟩:=Bool.and_eq_true_iff.1 hc15
   have hj0:0<j:=by have:=of_decide_eq_true h341;omega
   have hnx:=hI.next hj0 (hI.cmp hj0 hck h342)
   refine wp_skip ?_
   refine hK8 _ _ ?_
   refine wp_seq_k fun _ hK16=>?_
   refine wp_block ?_
   refine Xw none (fun j=>[15,17].contains j) mixed ?_
   intro w6 hE
   replace ho:=ho.below hE
   replace hW:=gbel hW hE
   refine Yb hf ?_
   refine Yo 0 rfl (fun _=>X2 rfl)<|Yo 1 rfl (fun _=>X2 rfl)<|Yo 2 rfl (fun _=>X2 rfl)<|Yo 3 rfl (fun _=>X2 rfl)<|Yo 4 rfl (fun _=>X0c rfl rfl (by omega) (by omega)) ?_
   refine Yo 5 rfl (fun _=>X2 rfl)<|Yo 6 rfl (fun _=>X2 rfl)<|Yo 7 rfl (fun _=>X0c rfl rfl (by omega) (by omega)) ?_
   refine Yj (k:=(P.length+j-1)) (u:=(S.getD (j-1) 0)) (enc:=encI) (l:=m2) 8 rfl trivial rfl (by have:=hI.len;omega) rfl Xj X0a X7 ho.rd (hI.at1 hj0) (by omega) ?_;intro p18 hat17
   refine Ye 9 rfl (X0 rfl X3 hat17)<|Yo 10 rfl (fun _=>X2 rfl)<|Yo 11 rfl (fun _=>X2 rfl) ?_
   refine Yj (k:=(P.length+j)) (u:=(X.getD i 0)) (enc:=encI) (l:=m2) 12 rfl trivial rfl (by have:=hI.len;omega) rfl Xj X0a X7 ho.rd hI.at hjz ?_;intro p20 hat19
   refine Ye 13 rfl (X0 rfl X3 hat19)<|Yo 14 rfl (fun _=>X0r (k:=(P.length+j)) rfl rfl Xj X0a ho (by have:=hI.len;omega) hjz (by have:=hI.len;have:=hI.hi;have:=hI.hj;omega)) ?_
   refine Y1 15 ?_
   refine Yh rfl trivial rfl (X0s (enc:=encI) (l:=m2) (vs:=[vi (S.getD (j-1) 0)]) (x0:=(X.getD i 0)) (u:=(S.getD (j-1) 0)) (k:=(P.length+j)) (j:=0) (n1:=1) rfl rfl X0a ho X7 rfl rfl rfl rfl (by decide) hI.at rfl) ?_;rintro _ w7 ⟨hnew,hg⟩
   have hown:=ho
   replace hW:=gtr hW hg
   clear hown hg;clear ho;have ho:=hnew;clear hnew
   refine Y1 16 ?_
   refine Yz rfl trivial (Uev (X0r (k:=(P.length+j-1)) rfl rfl Xj X0a ho (by rw [List.length_set];have:=hI.len;omega) (by omega) (by rw [List.length_set];have:=hI.len;have:=hI.hi;have:=hI.hj;omega))) ?_
   refine Y1 17 ?_
   refine Yh rfl trivial rfl (X0s (enc:=encI) (l:=(m2.set (P.length+j) (S.getD (j-1) 0))) (vs:=[vi (X.getD i 0)]) (x0:=(S.getD (j-1) 0)) (u:=(X.getD i 0)) (k:=(P.length+j-1)) (j:=0) (n1:=1) rfl rfl X0a ho X7 rfl rfl rfl rfl (by decide) (hI.at2 hj0) rfl) ?_;rintro _ w8 ⟨hnew,hg⟩
   have hown:=ho
   replace hW:=gtr hW hg
   clear hown hg;clear ho;have ho:=hnew;clear hnew
   refine Yd fun a hf=>?_
   refine Xh ?_
   refine hK16 _ _ ?_
   refine Zr hf ?_
   refine Zm rfl<|Ze (X0c rfl rfl (by omega) (by omega))<|Za rfl ?_
   refine Zn fun a hf=>?_
   refine Xg ?_
   exact ⟨(jz-1,j-1,((m2.set (P.length+j) (S.getD (j-1) 0)).set (P.length+j-1) (X.getD i 0))),⟨hf.sub ⟨rfl,rfl,rfl,rfl,rfl,rfl,trivial⟩,(by omega),(by omega),hnx,ho,hW⟩,(by first|omega|(dsimp only;omega))⟩
  have hc15b:=hc15
  obtain ⟨hd1,hd2,hd3⟩:=hI.done hck (fun h0=>by
   rw [decide_eq_true (by omega),Bool.true_and] at hc15
   exact hc15)
  refine wp_exit ?_
  refine Xf ?_
  refine Xf ?_
  refine Xs ?_
  refine Xh ?_
  refine hK6 _ _ ?_
  refine Zr hf ?_
  refine Zm rfl<|Ze (Xp rfl rfl (by omega) (by omega))<|Za rfl ?_
  refine Zn fun a hf=>?_
  refine Xg ?_
  exact ⟨(i+1,m2,(S.take j++(X.getD i 0)::S.drop j)),⟨hf.sub ⟨rfl,rfl,rfl,rfl,rfl,trivial⟩,(by omega),hd3,hd1,hd2,(by have:=hI.len;omega),ho,hW⟩,(by first|omega|(dsimp only;omega))⟩
 have hc5b:=hc5
 have hc5:=of_decide_eq_false hc5
 have hXe:X.length≤i:=by omega
 refine wp_exit ?_
 refine Xf ?_
 refine Xf ?_
 refine Xs ?_
 refine X1r hf (X2i rfl) ?_
 rw [hm,List.drop_eq_nil_of_le hXe] at ho
 rw [List.take_of_length_le hXe] at hpm
 exact ⟨S,⟨hS,hpm⟩,ho,hW⟩
end Go.Proofs.YtgkoieoaamkjhaaGreat
namespace Go.Proofs.YtgkoieoaamkjhaaGreat
open Go.RowKit
section
variable {key : Int → Int} {P S1 S2 T H d : List Int} {n : Int} {k b N : Nat}
theorem Xde{k m b2:Nat}(hP:P.length=k)(h1:SortedR key k m S1)(h2:SortedR key m b2 S2)(hk:k≤m)(hm:m≤b2)(hn:(b2:Int)≤n) : Two key P S1 S2 k m b2 n:=by
 refine ⟨hP,by rw [h1.len];omega,by rw [h2.len];omega,h1.1,h2.1,fun x hx y hy=>?_,fun x hx=>?_,fun x hx=>?_⟩
 ·have:=h1.mem hx
  have:=h2.mem hy
  omega
 ·have:=h1.mem hx;omega
 ·have:=h2.mem hx;omega
theorem Xaz(h:Blocks key b N k T)(hb:0<b)(hk:k+2*b≤N) : ∃ S1 S2 T',T=S1++(S2++T')∧SortedR key k (k+b) S1∧SortedR key (k+b) (k+2*b) S2∧Blocks key b N (k+2*b) T':=by
 cases h with
 | nil h=>omega
 | cons h hS hl=>
  cases hl with
  | nil h2=>omega
  | cons h2 hS2 hl2=>
   rw [Nat.min_eq_left (by omega)] at hS hS2
   rw [show k+b+b=k+2*b from by omega] at hS2 hl2
   exact ⟨_,_,_,rfl,hS,hS2,hl2⟩
theorem Xa3(h:Blocks key b N k T)(hb:0<b)(hk:k+b<N)(hk2:N<k+2*b) : ∃ S1 S2,T=S1++(S2++[])∧SortedR key k (k+b) S1∧SortedR key (k+b) N S2:=by
 cases h with
 | nil h=>omega
 | cons h hS hl=>
  cases hl with
  | nil h2=>omega
  | cons h2 hS2 hl2=>
   rw [Nat.min_eq_left (by omega)] at hS
   rw [Nat.min_eq_right (by omega)] at hS2
   cases hl2 with
   | nil h3=>exact ⟨_,_,rfl,hS,hS2⟩
   | cons h3 _ _=>omega
theorem X8w(h:Blocks key b N k T)(hk:N≤k+b) : Blocks key (b*2) N k T:=by
 cases h with
 | nil h=>exact Blocks.nil h
 | cons h hS hl=>
  rw [Nat.min_eq_right hk] at hS
  cases hl with
  | nil h2=>exact Blocks.cons h (by rw [Nat.min_eq_right (by omega)];exact hS) (Blocks.nil (by omega))
  | cons h2 _ _=>omega
theorem Xa8(h:Blocks key b N 0 d)(hN:N≤b) : d=srtF key N:=by
 cases h with
 | nil h=>
  have:N=0:=by omega
  subst this;rfl
 | cons h hS hl=>
  rw [Nat.zero_add,Nat.min_eq_right hN] at hS
  cases hl with
  | nil h2=>rw [List.append_nil];exact X7i hS
  | cons h2 _ _=>omega
theorem Xfb{S:List Int}(h:Head key b k H)(hS:SortedR key k N S)(hk:k≤N)(hk2:N<k+b)(hb:0<b) : Blocks key b N 0 (H++(S++[])):=by
 rw [List.append_nil]
 refine h.blocks ?_ hk hb
 by_cases hkN:k<N
 ·exact Blocks.one hkN (by omega) hS
 ·have hl:=hS.len
  rw [show N-k=0 from by omega] at hl
  rw [List.eq_nil_of_length_eq_zero hl]
  exact Blocks.nil (by omega)
theorem Xc4{M:List Int}(h:Head key (2*b) k H)(h1:SortedR key k (k+b) S1)(h2:SortedR key (k+b) N S2)(hM:Merged key S1 S2 M)(hb:0<b)(hk:k+b<N)(hk2:N<k+2*b) : Blocks key (b*2) N 0 (H++(M++[])):=by
 rw [List.append_nil,Nat.mul_comm]
 exact h.blocks (Blocks.one (by omega) (by omega) (h1.merge (by omega) (by omega) h2 hM)) (by omega) (by omega)
theorem Xcg(h:Head key (2*b) k H)(hT:Blocks key b N k T)(hk:N≤k+b)(hkN:k≤N)(hb:0<b) : Blocks key (b*2) N 0 (H++T):=by
 have h2:=X8w hT hk
 rw [Nat.mul_comm] at h2 ⊢
 exact h.blocks h2 hkN (by omega)
end
end Go.Proofs.YtgkoieoaamkjhaaGreat
set_option maxHeartbeats 1000000
set_option maxRecDepth 4000
namespace Go.Proofs.YtgkoieoaamkjhaaGreat
open Go.RowKit
def SymSt(N:Nat) : Prop:=∀ (w0:World) (B0:Nat) (A:Option Addr) (c:Nat) (l:List Int) (ho:Own w0 B0 3 1 encI A c l) (p q r:Int) (kf:FuncId) (pf:List Value) (Ff:FuncF Tryz.prog kf) (cf:Int→Int→Int) (key:Int→Int) (n:Int) (hcmp:∀ x y w,0≤x→x<n→0≤y→y<n→w0.grownBy w (Value.slice A l.length c).ownBlock→Ret Tryz.prog kf ([vi x,vi y]++pf) w (fun v w'=>v=vi (cf x y)∧Below w.heap.size w w')) (hck:Cmp key cf n) (P L R Q:List Int) (ia im ib:Nat) (hl:l=P++(L++(R++Q))) (hp:p=(ia:Int)) (hq:q=(im:Int)) (hr:r=(ib:Int)) (h2:Two key P L R ia im ib n) (hL:0<L.length) (hR:0<R.length) (hln:l.length≤1000000000) (hN:L.length+R.length≤N),Ret Tryz.prog 73 [.slice A l.length c,vi p,vi q,vi r,.func (.func kf) #[] pf.toArray] w0 (fun v w=>∃ M,Merged key L R M∧Own w B0 3 1 encI A c (P++(M++Q))∧w0.grownBy w (Value.slice A l.length c).ownBlock)
theorem Xlz(N:Nat)(ih:SymSt N)(w0:World)(B0:Nat)(A:Option Addr)(c:Nat)(l:List Int)(ho:Own w0 B0 3 1 encI A c l)(p q r:Int)(kf:FuncId)(pf:List Value)(Ff:FuncF Tryz.prog kf)(cf:Int→Int→Int)(key:Int→Int)(n:Int)(hcmp:∀ x y w,0≤x→x<n→0≤y→y<n→w0.grownBy w (Value.slice A l.length c).ownBlock→Ret Tryz.prog kf ([vi x,vi y]++pf) w (fun v w'=>v=vi (cf x y)∧Below w.heap.size w w'))(hck:Cmp key cf n)(P L R Q:List Int)(ia im ib:Nat)(hl:l=P++(L++(R++Q)))(hp:p=(ia:Int))(hq:q=(im:Int))(hr:r=(ib:Int))(h2:Two key P L R ia im ib n)(hL:0<L.length)(hR:0<R.length)(hln:l.length≤1000000000)(hN:L.length+R.length≤N+1) : Ret Tryz.prog 73 [.slice A l.length c,vi p,vi q,vi r,.func (.func kf) #[] pf.toArray] w0 (fun v w=>∃ M,Merged key L R M∧Own w B0 3 1 encI A c (P++(M++Q))∧w0.grownBy w (Value.slice A l.length c).ownBlock):=by
 subst hp hq hr
 have hll:l.length=ib+Q.length:=by rw [hl];exact h2.lenl
 have hia:=h2.ha
 have him:=h2.hm
 have hib:=h2.hb
 refine enter Tryz.func73 rfl 220 rfl rfl ?_
 intro a hf
 have hW:w0.grownBy w0 (Value.slice A l.length c).ownBlock:=World.grownBy.refl _ _
 refine wp_seq_k fun _ hK2=>?_
 refine Zs hf fun _ hK3=>?_
 refine Zm rfl<|Zm rfl<|Ze (X0c rfl rfl (by omega) (by omega))<|Ze (X0j rfl rfl) ?_
 refine Zt hK3 fun a hf=>?_
 refine Xd hf rfl (fun hc4=>?_) (fun hc4=>?_)
 ·have hc4b:=hc4
  have hL1:im=ia+1:=by have:=eq_of_beq hc4;omega
  have hdn:=h2.downA (Q:=Q)
  rw [← hl] at hdn
  refine Zs hf fun _ hK5=>?_
  refine Zm rfl<|Za rfl ?_
  refine Zt hK5 fun a hf=>?_
  refine Zs hf fun _ hK6=>?_
  refine Zm rfl<|Za rfl ?_
  refine Zt hK6 fun a hf=>?_
  refine wp_seq_k fun _ hK7=>?_
  refine wp_block ?_
  refine Xt (σ:=Nat×Nat) (fun (s:Nat×Nat) (a:Act) (w:World)=>match s with|(sx,r)=>Fr a 220 [(0,.slice A l.length c),(1,vi (ia:Int)),(4,.func (.func kf) #[] pf.toArray),(10,vi (sx:Int)),(11,vi (r:Int))]∧(Cut (prA key l ia) im ib sx r)∧Own w B0 3 1 encI A c l∧w0.grownBy w (Value.slice A l.length c).ownBlock) (fun (s:Nat×Nat)=>match s with|(sx,r)=>r-sx) (im,ib) ?_ ?_
  ·exact ⟨hf.sub ⟨rfl,rfl,rfl,rfl,rfl,trivial⟩,(X3q (by omega)),ho,hW⟩
  rintro ⟨sx,r⟩ a w1 ⟨hf,hcut,ho,hW⟩
  obtain ⟨hs1,hs2,hs3,hs4,hs5⟩:=id hcut
  refine wp_seq_k fun _ hK8=>?_
  refine Zs hf fun _ hK9=>?_
  refine Zm rfl<|Zm rfl<|Ze (X06 rfl rfl) ?_
  refine Zt hK9 fun a hf=>?_
  refine Xd hf rfl (fun hc10=>?_) (fun hc10=>?_)
  ·have hc10b:=hc10
   have hc10:=of_decide_eq_true hc10
   have hdA:0≤l.getD ((sx+r)/2) 0∧l.getD ((sx+r)/2) 0<n:=by rw [hl];exact h2.inr (by omega) (by omega)
   have hdB:0≤l.getD ia 0∧l.getD ia 0<n:=by rw [hl];exact h2.inl (by omega) (by omega)
   have hA9:=h2.cmpA (Q:=Q) (c:=((sx+r)/2)) hL1 (by omega) (by omega) hck
   rw [← hl] at hA9
   refine wp_skip ?_
   refine hK8 _ _ ?_
   refine wp_block ?_
   refine Zs hf fun _ hK11=>?_
   refine Zm rfl<|Zm rfl<|Ze (Xp rfl rfl (by omega) (by omega))<|Ze (X9b (m:=(sx+r)) Tryz.underlying3 Tryz.underlying60 rfl (by omega) (by omega))<|Ze (X9s (m:=(sx+r)) rfl rfl) ?_
   refine Ze (X9k (m:=((sx+r)/2:Nat)) Tryz.underlying60 Tryz.underlying3 rfl (by omega))<|Za rfl ?_
   refine Zt hK11 fun a hf=>?_
   refine wp_seq_k fun _ hK12=>?_
   refine Xw none (fun _=>false) mixed ?_
   intro w2 hE
   replace ho:=ho.below hE
   replace hW:=gbel hW hE
   refine Yb hf ?_
   refine Yo 0 rfl (fun _=>X2 rfl)<|Yo 1 rfl (fun _=>X2 rfl)<|Yo 2 rfl (fun _=>X2 rfl) ?_
   refine Yi (k:=((sx+r)/2)) (u:=(l.getD ((sx+r)/2) 0)) (enc:=encI) (l:=l) 3 rfl trivial rfl rfl Xj X0a X7 ho.rd (X10 (by omega)) rfl ?_;intro p14 hat13
   refine Ye 4 rfl (X0 rfl X3 hat13)<|Yo 5 rfl (fun _=>X2 rfl)<|Yo 6 rfl (fun _=>X2 rfl) ?_
   refine Yi (k:=ia) (u:=(l.getD ia 0)) (enc:=encI) (l:=l) 7 rfl trivial rfl rfl Xj X0a X7 ho.rd (X10 (by omega)) rfl ?_;intro p16 hat15
   refine Ye 8 rfl (X0 rfl X3 hat15) ?_
   refine Y1 9 ?_
   refine Yk rfl trivial (X29 (cs:=pf) (vs:=[vi (l.getD ((sx+r)/2) 0),vi (l.getD ia 0)]) rfl rfl Ff (hcmp (l.getD ((sx+r)/2) 0) (l.getD ia 0) _ hdA.1 hdA.2 hdB.1 hdB.2 hW)) (fun _ _ ⟨_,hE⟩=>hE) ?_;rintro _ w3 ⟨rfl,hE⟩
   replace ho:=ho.below hE
   replace hW:=gbel hW hE
   refine Yo 10 rfl (fun _=>X06 rfl rfl) ?_
   refine Yd fun a hf=>?_
   refine hK12 _ _ ?_
   refine Xd hf rfl (fun hc17=>?_) (fun hc17=>?_)
   ·have hc17b:=hc17
    have hc17:=of_decide_eq_true hc17
    have hnx:=X8d hcut hdn (by omega) (by omega) (hA9.1 hc17b)
    refine Zr hf ?_
    refine Zm rfl<|Ze (Xp rfl rfl (by omega) (by omega))<|Za rfl ?_
    refine Zn fun a hf=>?_
    refine Xh ?_
    refine Xg ?_
    exact ⟨((((sx+r)/2)+1),r),⟨hf.sub ⟨rfl,rfl,rfl,rfl,rfl,trivial⟩,hnx,ho,hW⟩,(by first|omega|(dsimp only;omega))⟩
   have hc17b:=hc17
   have hc17:=of_decide_eq_false hc17
   have hnx:=X4g hcut hdn (by omega) (by omega) (hA9.2 hc17b)
   refine Zr hf ?_
   refine Zm rfl<|Za rfl ?_
   refine Zn fun a hf=>?_
   refine Xh ?_
   refine Xg ?_
   exact ⟨(sx,((sx+r)/2)),⟨hf.sub ⟨rfl,rfl,rfl,rfl,rfl,trivial⟩,hnx,ho,hW⟩,(by first|omega|(dsimp only;omega))⟩
  have hc10b:=hc10
  have hc10:=of_decide_eq_false hc10
  have hsr:sx=r:=by omega
  rw [← hsr,hl] at hcut
  obtain ⟨x,v,hLx,hsv,hv,hM⟩:=h2.endA hL1 hcut
  refine wp_exit ?_
  refine Xf ?_
  refine Xf ?_
  refine Xs ?_
  refine hK7 _ _ ?_
  refine wp_seq_k fun _ hK18=>?_
  refine Zs hf fun _ hK19=>?_
  refine Zm rfl<|Za rfl ?_
  refine Zt hK19 fun a hf=>?_
  refine wp_block ?_
  refine Xt (σ:=Nat×(List Int)) (fun (s:Nat×(List Int)) (a:Act) (w:World)=>match s with|(k,m2)=>Fr a 220 [(0,.slice A l.length c),(10,vi (sx:Int)),(13,vi ((ia+k:Nat) : Int))]∧(k≤v)∧(m2=P++(R.take k++(x::(R.drop k++Q))))∧(m2.length=l.length)∧Own w B0 3 1 encI A c m2∧w0.grownBy w (Value.slice A l.length c).ownBlock) (fun (s:Nat×(List Int))=>match s with|(k,m2)=>v-k) (0,l) ?_ ?_
  ·exact ⟨hf.sub ⟨rfl,rfl,rfl,trivial⟩,(Nat.zero_le _),(by rw [hl,hLx];simp),rfl,ho,hW⟩
  rintro ⟨k,m2⟩ a w4 ⟨hf,hk,hm2,hml,ho,hW⟩
  refine wp_seq_k fun _ hK20=>?_
  refine Zs hf fun _ hK21=>?_
  refine Zm rfl<|Zm rfl<|Ze (X0c rfl rfl (by omega) (by omega))<|Ze (X06 rfl rfl) ?_
  refine Zt hK21 fun a hf=>?_
  refine Xd hf rfl (fun hc22=>?_) (fun hc22=>?_)
  ·have hc22b:=hc22
   have hc22:=of_decide_eq_true hc22
   have hkv:k<v:=by omega
   have hf1:m2=(P++R.take k)++x::R.getD k 0::(R.drop (k+1)++Q):=by rw [hm2,X1b (l:=R) (by omega)];simp [List.append_assoc]
   have hUl:(P++R.take k).length=ia+k:=by simp only [List.length_append,List.length_take];omega
   obtain ⟨g1,g2,g3,g4⟩:=Xih (x:=x) (y:=R.getD k 0) (W:=R.drop (k+1)++Q) hUl
   rw [← hf1] at g1 g2 g3 g4
   refine wp_skip ?_
   refine hK20 _ _ ?_
   refine wp_seq_k fun _ hK23=>?_
   refine wp_block ?_
   refine Xw none (fun j=>[15,17].contains j) mixed ?_
   intro w5 hE
   replace ho:=ho.below hE
   replace hW:=gbel hW hE
   refine Yb hf ?_
   refine Yo 0 rfl (fun _=>X2 rfl)<|Yo 1 rfl (fun _=>X2 rfl)<|Yo 2 rfl (fun _=>X2 rfl)<|Yo 3 rfl (fun _=>X2 rfl)<|Yo 4 rfl (fun _=>Xp rfl rfl (by omega) (by omega)) ?_
   refine Yo 5 rfl (fun _=>X2 rfl)<|Yo 6 rfl (fun _=>X2 rfl)<|Yo 7 rfl (fun _=>Xp rfl rfl (by omega) (by omega)) ?_
   refine Yj (k:=(ia+k+1)) (u:=(R.getD k 0)) (enc:=encI) (l:=m2) 8 rfl trivial rfl (by omega) rfl Xj X0a X7 ho.rd g1 (by omega) ?_;intro p25 hat24
   refine Ye 9 rfl (X0 rfl X3 hat24)<|Yo 10 rfl (fun _=>X2 rfl)<|Yo 11 rfl (fun _=>X2 rfl) ?_
   refine Yj (k:=(ia+k)) (u:=x) (enc:=encI) (l:=m2) 12 rfl trivial rfl (by omega) rfl Xj X0a X7 ho.rd g2 rfl ?_;intro p27 hat26
   refine Ye 13 rfl (X0 rfl X3 hat26)<|Yo 14 rfl (fun _=>X0r (k:=(ia+k)) rfl rfl Xj X0a ho (by omega) rfl (by omega)) ?_
   refine Y1 15 ?_
   refine Yh rfl trivial rfl (X0s (enc:=encI) (l:=m2) (vs:=[vi (R.getD k 0)]) (x0:=x) (u:=(R.getD k 0)) (k:=(ia+k)) (j:=0) (n1:=1) rfl rfl X0a ho X7 rfl rfl rfl rfl (by decide) g2 rfl) ?_;rintro _ w6 ⟨hnew,hg⟩
   have hown:=ho
   replace hW:=gtr hW hg
   clear hown hg;clear ho;have ho:=hnew;clear hnew
   refine Y1 16 ?_
   refine Yz rfl trivial (Uev (X0r (k:=(ia+k+1)) rfl rfl Xj X0a ho (by rw [List.length_set];omega) (by omega) (by rw [List.length_set];omega))) ?_
   refine Y1 17 ?_
   refine Yh rfl trivial rfl (X0s (enc:=encI) (l:=(m2.set (ia+k) (R.getD k 0))) (vs:=[vi x]) (x0:=(R.getD k 0)) (u:=x) (k:=(ia+k+1)) (j:=0) (n1:=1) rfl rfl X0a ho X7 rfl rfl rfl rfl (by decide) g3 rfl) ?_;rintro _ w7 ⟨hnew,hg⟩
   have hown:=ho
   replace hW:=gtr hW hg
   clear hown hg;clear ho;have ho:=hnew;clear hnew
   refine Yd fun a hf=>?_
   refine Xh ?_
   refine hK23 _ _ ?_
   refine Zr hf ?_
   refine Zm rfl<|Ze (Xp rfl rfl (by omega) (by omega))<|Za rfl ?_
   refine Zn fun a hf=>?_
   refine Xg ?_
   exact ⟨(k+1,((m2.set (ia+k) (R.getD k 0)).set (ia+k+1) x)),⟨hf.sub ⟨rfl,rfl,rfl,trivial⟩,(by omega),(by rw [g4,X1g (l:=R) (by omega)];simp [List.append_assoc]),(by simp only [List.length_set];exact hml),ho,hW⟩,(by first|omega|(dsimp only;omega))⟩
  have hc22b:=hc22
  have hc22:=of_decide_eq_false hc22
  have hkv:k=v:=by omega
  refine wp_exit ?_
  refine Xf ?_
  refine Xf ?_
  refine Xs ?_
  refine hK18 _ _ ?_
  refine wp_ret ?_
  refine X4 ?_
  refine X5 hf (X2i rfl) ?_
  have e9:P++(R.take v++(x::(R.drop v++Q)))=P++((R.take v++x::R.drop v)++Q):=by simp [List.append_assoc]
  rw [hm2,hkv,e9] at ho
  exact ⟨_,hM,ho,hW⟩
 have hc4b:=hc4
 refine wp_skip ?_
 refine hK2 _ _ ?_
 refine wp_seq_k fun _ hK28=>?_
 refine Zs hf fun _ hK29=>?_
 refine Zm rfl<|Zm rfl<|Ze (X0c rfl rfl (by omega) (by omega))<|Ze (X0j rfl rfl) ?_
 refine Zt hK29 fun a hf=>?_
 refine Xd hf rfl (fun hc30=>?_) (fun hc30=>?_)
 ·have hc30b:=hc30
  have hR1:ib=im+1:=by have:=eq_of_beq hc30;omega
  have hdn:=h2.downB (Q:=Q)
  rw [← hl] at hdn
  refine Zs hf fun _ hK31=>?_
  refine Zm rfl<|Za rfl ?_
  refine Zt hK31 fun a hf=>?_
  refine Zs hf fun _ hK32=>?_
  refine Zm rfl<|Za rfl ?_
  refine Zt hK32 fun a hf=>?_
  refine wp_seq_k fun _ hK33=>?_
  refine wp_block ?_
  refine Xt (σ:=Nat×Nat) (fun (s:Nat×Nat) (a:Act) (w:World)=>match s with|(sx,r)=>Fr a 220 [(0,.slice A l.length c),(2,vi (im:Int)),(4,.func (.func kf) #[] pf.toArray),(14,vi (sx:Int)),(15,vi (r:Int))]∧(Cut (prB key l im) ia im sx r)∧Own w B0 3 1 encI A c l∧w0.grownBy w (Value.slice A l.length c).ownBlock) (fun (s:Nat×Nat)=>match s with|(sx,r)=>r-sx) (ia,im) ?_ ?_
  ·exact ⟨hf.sub ⟨rfl,rfl,rfl,rfl,rfl,trivial⟩,(X3q (by omega)),ho,hW⟩
  rintro ⟨sx,r⟩ a w8 ⟨hf,hcut,ho,hW⟩
  obtain ⟨hs1,hs2,hs3,hs4,hs5⟩:=id hcut
  refine wp_seq_k fun _ hK34=>?_
  refine Zs hf fun _ hK35=>?_
  refine Zm rfl<|Zm rfl<|Ze (X06 rfl rfl) ?_
  refine Zt hK35 fun a hf=>?_
  refine Xd hf rfl (fun hc36=>?_) (fun hc36=>?_)
  ·have hc36b:=hc36
   have hc36:=of_decide_eq_true hc36
   have hdA:0≤l.getD im 0∧l.getD im 0<n:=by rw [hl];exact h2.inr (by omega) (by omega)
   have hdB:0≤l.getD ((sx+r)/2) 0∧l.getD ((sx+r)/2) 0<n:=by rw [hl];exact h2.inl (by omega) (by omega)
   have hA9:=h2.cmpB (Q:=Q) (c:=((sx+r)/2)) hR1 (by omega) (by omega) hck
   rw [← hl] at hA9
   refine wp_skip ?_
   refine hK34 _ _ ?_
   refine wp_block ?_
   refine Zs hf fun _ hK37=>?_
   refine Zm rfl<|Zm rfl<|Ze (Xp rfl rfl (by omega) (by omega))<|Ze (X9b (m:=(sx+r)) Tryz.underlying3 Tryz.underlying60 rfl (by omega) (by omega))<|Ze (X9s (m:=(sx+r)) rfl rfl) ?_
   refine Ze (X9k (m:=((sx+r)/2:Nat)) Tryz.underlying60 Tryz.underlying3 rfl (by omega))<|Za rfl ?_
   refine Zt hK37 fun a hf=>?_
   refine wp_seq_k fun _ hK38=>?_
   refine Xw none (fun _=>false) mixed ?_
   intro w9 hE
   replace ho:=ho.below hE
   replace hW:=gbel hW hE
   refine Yb hf ?_
   refine Yo 0 rfl (fun _=>X2 rfl)<|Yo 1 rfl (fun _=>X2 rfl)<|Yo 2 rfl (fun _=>X2 rfl) ?_
   refine Yi (k:=im) (u:=(l.getD im 0)) (enc:=encI) (l:=l) 3 rfl trivial rfl rfl Xj X0a X7 ho.rd (X10 (by omega)) rfl ?_;intro p40 hat39
   refine Ye 4 rfl (X0 rfl X3 hat39)<|Yo 5 rfl (fun _=>X2 rfl)<|Yo 6 rfl (fun _=>X2 rfl) ?_
   refine Yi (k:=((sx+r)/2)) (u:=(l.getD ((sx+r)/2) 0)) (enc:=encI) (l:=l) 7 rfl trivial rfl rfl Xj X0a X7 ho.rd (X10 (by omega)) rfl ?_;intro p42 hat41
   refine Ye 8 rfl (X0 rfl X3 hat41) ?_
   refine Y1 9 ?_
   refine Yk rfl trivial (X29 (cs:=pf) (vs:=[vi (l.getD im 0),vi (l.getD ((sx+r)/2) 0)]) rfl rfl Ff (hcmp (l.getD im 0) (l.getD ((sx+r)/2) 0) _ hdA.1 hdA.2 hdB.1 hdB.2 hW)) (fun _ _ ⟨_,hE⟩=>hE) ?_;rintro _ w10 ⟨rfl,hE⟩
   replace ho:=ho.below hE
   replace hW:=gbel hW hE
   refine Yo 10 rfl (fun _=>X06 rfl rfl)<|Yo 11 rfl (fun _=>X0u rfl) ?_
   refine Yd fun a hf=>?_
   refine hK38 _ _ ?_
   refine Xd hf rfl (fun hc43=>?_) (fun hc43=>?_)
   ·have hc43b:=hc43
    have hq9:=hc43
    rw [Bool.not_eq_true'] at hq9
    have hnx:=X8d hcut hdn (by omega) (by omega) (hA9.2 hq9)
    refine Zr hf ?_
    refine Zm rfl<|Ze (Xp rfl rfl (by omega) (by omega))<|Za rfl ?_
    refine Zn fun a hf=>?_
    refine Xh ?_
    refine Xg ?_
    exact ⟨((((sx+r)/2)+1),r),⟨hf.sub ⟨rfl,rfl,rfl,rfl,rfl,trivial⟩,hnx,ho,hW⟩,(by first|omega|(dsimp only;omega))⟩
   have hc43b:=hc43
   have hq9:=hc43
   rw [Bool.not_eq_false'] at hq9
   have hnx:=X4g hcut hdn (by omega) (by omega) (hA9.1 hq9)
   refine Zr hf ?_
   refine Zm rfl<|Za rfl ?_
   refine Zn fun a hf=>?_
   refine Xh ?_
   refine Xg ?_
   exact ⟨(sx,((sx+r)/2)),⟨hf.sub ⟨rfl,rfl,rfl,rfl,rfl,trivial⟩,hnx,ho,hW⟩,(by first|omega|(dsimp only;omega))⟩
  have hc36b:=hc36
  have hc36:=of_decide_eq_false hc36
  have hsr:sx=r:=by omega
  rw [← hsr,hl] at hcut
  obtain ⟨x,u,hRx,hsu,hu,hM⟩:=h2.endB hR1 hcut
  refine wp_exit ?_
  refine Xf ?_
  refine Xf ?_
  refine Xs ?_
  refine hK33 _ _ ?_
  refine wp_seq_k fun _ hK44=>?_
  refine Zs hf fun _ hK45=>?_
  refine Zm rfl<|Za rfl ?_
  refine Zt hK45 fun a hf=>?_
  refine wp_block ?_
  refine Xt (σ:=Int×Nat×(List Int)) (fun (s:Int×Nat×(List Int)) (a:Act) (w:World)=>match s with|(kz,k,m2)=>Fr a 220 [(0,.slice A l.length c),(14,vi (sx:Int)),(17,vi kz)]∧(kz=((ia+k:Nat) : Int))∧(u≤k)∧(k≤L.length)∧(m2=P++(L.take k++(x::(L.drop k++Q))))∧(m2.length=l.length)∧Own w B0 3 1 encI A c m2∧w0.grownBy w (Value.slice A l.length c).ownBlock) (fun (s:Int×Nat×(List Int))=>match s with|(kz,k,m2)=>k) ((im:Int),L.length,l) ?_ ?_
  ·exact ⟨hf.sub ⟨rfl,rfl,rfl,trivial⟩,(by omega),hu,(Nat.le_refl _),(by rw [hl,hRx,List.take_of_length_le (Nat.le_refl _),List.drop_eq_nil_of_le (Nat.le_refl _)];rfl),rfl,ho,hW⟩
  rintro ⟨kz,k,m2⟩ a w11 ⟨hf,hkz,hku,hkl,hm2,hml,ho,hW⟩
  refine wp_seq_k fun _ hK46=>?_
  refine Zs hf fun _ hK47=>?_
  refine Zm rfl<|Zm rfl<|Ze (X5i rfl rfl) ?_
  refine Zt hK47 fun a hf=>?_
  refine Xd hf rfl (fun hc48=>?_) (fun hc48=>?_)
  ·have hc48b:=hc48
   have hc48:=of_decide_eq_true hc48
   have hk1:u<k:=by omega
   have hts:=X1g (l:=L) (k:=k-1) (by omega)
   have hdsp:=X1b (l:=L) (k:=k-1) (by omega)
   rw [show k-1+1=k from by omega] at hts hdsp
   have hf1:m2=(P++L.take (k-1))++L.getD (k-1) 0::x::(L.drop k++Q):=by rw [hm2,hts];simp [List.append_assoc]
   have hUl:(P++L.take (k-1)).length=ia+k-1:=by simp only [List.length_append,List.length_take];omega
   obtain ⟨g1,g2,g3,g4⟩:=Xab (x:=x) (y:=L.getD (k-1) 0) (W:=L.drop k++Q) hUl
   rw [← hf1,show ia+k-1+1=ia+k from by omega] at g1 g3 g4
   rw [← hf1] at g2
   refine wp_skip ?_
   refine hK46 _ _ ?_
   refine wp_seq_k fun _ hK49=>?_
   refine wp_block ?_
   refine Xw none (fun j=>[15,17].contains j) mixed ?_
   intro w12 hE
   replace ho:=ho.below hE
   replace hW:=gbel hW hE
   refine Yb hf ?_
   refine Yo 0 rfl (fun _=>X2 rfl)<|Yo 1 rfl (fun _=>X2 rfl)<|Yo 2 rfl (fun _=>X2 rfl)<|Yo 3 rfl (fun _=>X2 rfl)<|Yo 4 rfl (fun _=>X0c rfl rfl (by omega) (by omega)) ?_
   refine Yo 5 rfl (fun _=>X2 rfl)<|Yo 6 rfl (fun _=>X2 rfl)<|Yo 7 rfl (fun _=>X0c rfl rfl (by omega) (by omega)) ?_
   refine Yj (k:=(ia+k-1)) (u:=(L.getD (k-1) 0)) (enc:=encI) (l:=m2) 8 rfl trivial rfl (by omega) rfl Xj X0a X7 ho.rd g2 (by omega) ?_;intro p51 hat50
   refine Ye 9 rfl (X0 rfl X3 hat50)<|Yo 10 rfl (fun _=>X2 rfl)<|Yo 11 rfl (fun _=>X2 rfl) ?_
   refine Yj (k:=(ia+k)) (u:=x) (enc:=encI) (l:=m2) 12 rfl trivial rfl (by omega) rfl Xj X0a X7 ho.rd g1 hkz ?_;intro p53 hat52
   refine Ye 13 rfl (X0 rfl X3 hat52)<|Yo 14 rfl (fun _=>X0r (k:=(ia+k)) rfl rfl Xj X0a ho (by omega) hkz (by omega)) ?_
   refine Y1 15 ?_
   refine Yh rfl trivial rfl (X0s (enc:=encI) (l:=m2) (vs:=[vi (L.getD (k-1) 0)]) (x0:=x) (u:=(L.getD (k-1) 0)) (k:=(ia+k)) (j:=0) (n1:=1) rfl rfl X0a ho X7 rfl rfl rfl rfl (by decide) g1 rfl) ?_;rintro _ w13 ⟨hnew,hg⟩
   have hown:=ho
   replace hW:=gtr hW hg
   clear hown hg;clear ho;have ho:=hnew;clear hnew
   refine Y1 16 ?_
   refine Yz rfl trivial (Uev (X0r (k:=(ia+k-1)) rfl rfl Xj X0a ho (by rw [List.length_set];omega) (by omega) (by rw [List.length_set];omega))) ?_
   refine Y1 17 ?_
   refine Yh rfl trivial rfl (X0s (enc:=encI) (l:=(m2.set (ia+k) (L.getD (k-1) 0))) (vs:=[vi x]) (x0:=(L.getD (k-1) 0)) (u:=x) (k:=(ia+k-1)) (j:=0) (n1:=1) rfl rfl X0a ho X7 rfl rfl rfl rfl (by decide) g3 rfl) ?_;rintro _ w14 ⟨hnew,hg⟩
   have hown:=ho
   replace hW:=gtr hW hg
   clear hown hg;clear ho;have ho:=hnew;clear hnew
   refine Yd fun a hf=>?_
   refine Xh ?_
   refine hK49 _ _ ?_
   refine Zr hf ?_
   refine Zm rfl<|Ze (X0c rfl rfl (by omega) (by omega))<|Za rfl ?_
   refine Zn fun a hf=>?_
   refine Xg ?_
   exact ⟨(kz-1,k-1,((m2.set (ia+k) (L.getD (k-1) 0)).set (ia+k-1) x)),⟨hf.sub ⟨rfl,rfl,rfl,trivial⟩,(by omega),(by omega),(by omega),(by rw [g4,hdsp];simp [List.append_assoc]),(by simp only [List.length_set];exact hml),ho,hW⟩,(by first|omega|(dsimp only;omega))⟩
  have hc48b:=hc48
  have hc48:=of_decide_eq_false hc48
  have hkv:k=u:=by omega
  refine wp_exit ?_
  refine Xf ?_
  refine Xf ?_
  refine Xs ?_
  refine hK44 _ _ ?_
  refine wp_ret ?_
  refine X4 ?_
  refine X5 hf (X2i rfl) ?_
  have e9:P++(L.take u++(x::(L.drop u++Q)))=P++((L.take u++x::L.drop u)++Q):=by simp [List.append_assoc]
  rw [hm2,hkv,e9] at ho
  exact ⟨_,hM,ho,hW⟩
 have hc30b:=hc30
 refine wp_skip ?_
 refine hK28 _ _ ?_
 refine Zs hf fun _ hK54=>?_
 refine Zm rfl<|Zm rfl<|Ze (Xp rfl rfl (by omega) (by omega))<|Ze (X9b (m:=(ia+ib)) Tryz.underlying3 Tryz.underlying60 rfl (by omega) (by omega))<|Ze (X9s (m:=(ia+ib)) rfl rfl) ?_
 refine Ze (X9k (m:=((ia+ib)/2:Nat)) Tryz.underlying60 Tryz.underlying3 rfl (by omega))<|Za rfl ?_
 refine Zt hK54 fun a hf=>?_
 refine Zs hf fun _ hK55=>?_
 refine Zm rfl<|Zm rfl<|Ze (Xp rfl rfl (by omega) (by omega))<|Za rfl ?_
 refine Zt hK55 fun a hf=>?_
 refine Zs hf fun _ hK56=>?_
 refine Za rfl<|Za rfl ?_
 refine Zt hK56 fun a hf=>?_
 refine wp_seq_k fun _ hK57=>?_
 refine Zs hf fun _ hK58=>?_
 refine Zm rfl<|Zm rfl<|Ze (X5i rfl rfl) ?_
 refine Zt hK58 fun a hf=>?_
 refine Xd hf rfl (fun hc59=>?_) (fun hc59=>?_)
 ·have hc59b:=hc59
  have hc59:=of_decide_eq_true hc59
  obtain ⟨lo,hi,pp,hlo,hhi,hpp⟩ : ∃ lo hi pp:Nat,lo=((ia+ib)/2)+im-ib∧hi=((ia+ib)/2)∧pp=((ia+ib)/2)+im-1:=⟨_,_,_,rfl,rfl,rfl⟩
  have hdn:=h2.down (Q:=Q) (p:=pp) (lo:=lo) (hi:=hi) (by omega) (by omega) (by omega) (by omega)
  rw [← hl] at hdn
  refine Zs hf fun _ hK60=>?_
  refine Zm rfl<|Zm rfl<|Ze (X0c rfl rfl (by omega) (by omega))<|Za rfl ?_
  refine Zt hK60 fun a hf=>?_
  refine Zr hf ?_
  refine Zm rfl<|Za rfl ?_
  refine Zt hK57 fun a hf=>?_
  refine Zs hf fun _ hK61=>?_
  refine Zm rfl<|Ze (X0c rfl rfl (by omega) (by omega))<|Za rfl ?_
  refine Zt hK61 fun a hf=>?_
  refine wp_seq_k fun _ hK62=>?_
  refine wp_block ?_
  refine Xt (σ:=Int×Nat×Int×Nat) (fun (s:Int×Nat×Int×Nat) (a:Act) (w:World)=>match s with|(st,sx,rr,r)=>Fr a 220 [(0,.slice A l.length c),(1,vi (ia:Int)),(2,vi (im:Int)),(3,vi (ib:Int)),(4,.func (.func kf) #[] pf.toArray),(18,vi (((ia+ib)/2:Nat) : Int)),(19,vi ((((ia+ib)/2:Nat) : Int)+(im:Int))),(20,vi st),(21,vi rr),(22,vi (((((ia+ib)/2:Nat) : Int)+(im:Int))-1))]∧(st=(sx:Int))∧(rr=(r:Int))∧(Cut (prS key l pp) lo hi sx r)∧Own w B0 3 1 encI A c l∧w0.grownBy w (Value.slice A l.length c).ownBlock) (fun (s:Int×Nat×Int×Nat)=>match s with|(st,sx,rr,r)=>r-sx) ((((((ia+ib)/2) : Nat) : Int)+(im:Int)-(ib:Int)),lo,((((ia+ib)/2) : Nat) : Int),hi) ?_ ?_
  ·exact ⟨hf.sub ⟨rfl,rfl,rfl,rfl,rfl,rfl,rfl,rfl,rfl,rfl,trivial⟩,(by omega),(by omega),(X3q (by omega)),ho,hW⟩
  rintro ⟨st,sx,rr,r⟩ a w15 ⟨hf,hst,hrr,hcut,ho,hW⟩
  obtain ⟨hs1,hs2,hs3,hs4,hs5⟩:=id hcut
  refine wp_seq_k fun _ hK63=>?_
  refine Zs hf fun _ hK64=>?_
  refine Zm rfl<|Zm rfl<|Ze (X06 rfl rfl) ?_
  refine Zt hK64 fun a hf=>?_
  refine Xd hf rfl (fun hc65=>?_) (fun hc65=>?_)
  ·have hc65b:=hc65
   have hc65:=of_decide_eq_true hc65
   have hdA:0≤l.getD (pp-((sx+r)/2)) 0∧l.getD (pp-((sx+r)/2)) 0<n:=by rw [hl];exact h2.inr (by omega) (by omega)
   have hdB:0≤l.getD ((sx+r)/2) 0∧l.getD ((sx+r)/2) 0<n:=by rw [hl];exact h2.inl (by omega) (by omega)
   have hA9:=h2.cmpS (Q:=Q) (c:=((sx+r)/2)) (p:=pp) (by omega) (by omega) (by omega) (by omega) hck
   rw [← hl] at hA9
   refine wp_skip ?_
   refine hK63 _ _ ?_
   refine wp_block ?_
   refine Zs hf fun _ hK66=>?_
   refine Zm rfl<|Zm rfl<|Ze (Xp rfl rfl (by omega) (by omega))<|Ze (X9b (m:=(sx+r)) Tryz.underlying3 Tryz.underlying60 rfl (by omega) (by omega))<|Ze (X9s (m:=(sx+r)) rfl rfl) ?_
   refine Ze (X9k (m:=((sx+r)/2:Nat)) Tryz.underlying60 Tryz.underlying3 rfl (by omega))<|Za rfl ?_
   refine Zt hK66 fun a hf=>?_
   refine wp_seq_k fun _ hK67=>?_
   refine Xw none (fun _=>false) mixed ?_
   intro w16 hE
   replace ho:=ho.below hE
   replace hW:=gbel hW hE
   refine Yb hf ?_
   refine Yo 0 rfl (fun _=>X2 rfl)<|Yo 1 rfl (fun _=>X2 rfl)<|Yo 2 rfl (fun _=>X2 rfl)<|Yo 3 rfl (fun _=>X2 rfl)<|Yo 4 rfl (fun _=>X0c rfl rfl (by omega) (by omega)) ?_
   refine Yi (k:=(pp-((sx+r)/2))) (u:=(l.getD (pp-((sx+r)/2)) 0)) (enc:=encI) (l:=l) 5 rfl trivial rfl rfl Xj X0a X7 ho.rd (X10 (by omega)) (by omega) ?_;intro p69 hat68
   refine Ye 6 rfl (X0 rfl X3 hat68)<|Yo 7 rfl (fun _=>X2 rfl)<|Yo 8 rfl (fun _=>X2 rfl) ?_
   refine Yi (k:=((sx+r)/2)) (u:=(l.getD ((sx+r)/2) 0)) (enc:=encI) (l:=l) 9 rfl trivial rfl rfl Xj X0a X7 ho.rd (X10 (by omega)) rfl ?_;intro p71 hat70
   refine Ye 10 rfl (X0 rfl X3 hat70) ?_
   refine Y1 11 ?_
   refine Yk rfl trivial (X29 (cs:=pf) (vs:=[vi (l.getD (pp-((sx+r)/2)) 0),vi (l.getD ((sx+r)/2) 0)]) rfl rfl Ff (hcmp (l.getD (pp-((sx+r)/2)) 0) (l.getD ((sx+r)/2) 0) _ hdA.1 hdA.2 hdB.1 hdB.2 hW)) (fun _ _ ⟨_,hE⟩=>hE) ?_;rintro _ w17 ⟨rfl,hE⟩
   replace ho:=ho.below hE
   replace hW:=gbel hW hE
   refine Yo 12 rfl (fun _=>X06 rfl rfl)<|Yo 13 rfl (fun _=>X0u rfl) ?_
   refine Yd fun a hf=>?_
   refine hK67 _ _ ?_
   refine Xd hf rfl (fun hc72=>?_) (fun hc72=>?_)
   ·have hc72b:=hc72
    have hq9:=hc72
    rw [Bool.not_eq_true'] at hq9
    have hnx:=X8d hcut hdn (by omega) (by omega) (hA9.2 hq9)
    refine Zr hf ?_
    refine Zm rfl<|Ze (Xp rfl rfl (by omega) (by omega))<|Za rfl ?_
    refine Zn fun a hf=>?_
    refine Xh ?_
    refine Xg ?_
    exact ⟨((((((sx+r)/2) : Nat) : Int)+1),(((sx+r)/2)+1),rr,r),⟨hf.sub ⟨rfl,rfl,rfl,rfl,rfl,rfl,rfl,rfl,rfl,rfl,trivial⟩,(by omega),hrr,hnx,ho,hW⟩,(by first|omega|(dsimp only;omega))⟩
   have hc72b:=hc72
   have hq9:=hc72
   rw [Bool.not_eq_false'] at hq9
   have hnx:=X4g hcut hdn (by omega) (by omega) (hA9.1 hq9)
   refine Zr hf ?_
   refine Zm rfl<|Za rfl ?_
   refine Zn fun a hf=>?_
   refine Xh ?_
   refine Xg ?_
   exact ⟨(st,sx,((((sx+r)/2) : Nat) : Int),((sx+r)/2)),⟨hf.sub ⟨rfl,rfl,rfl,rfl,rfl,rfl,rfl,rfl,rfl,rfl,trivial⟩,hst,rfl,hnx,ho,hW⟩,(by first|omega|(dsimp only;omega))⟩
  have hc65b:=hc65
  have hc65:=of_decide_eq_false hc65
  have hsr:sx=r:=by omega
  rw [← hsr,hl] at hcut
  obtain ⟨u,v,hsu,hu,hv,hpv,hX⟩:=h2.cut (p:=pp) (lo:=lo) (hi:=hi) (by omega) (by omega) (by omega) (by omega) (by omega) hcut (by omega) (by omega)
  refine wp_exit ?_
  refine Xf ?_
  refine Xf ?_
  refine Xs ?_
  refine hK62 _ _ ?_
  refine Zs hf fun _ hK73=>?_
  refine Zm rfl<|Zm rfl<|Ze (X0c rfl rfl (by omega) (by omega))<|Za rfl ?_
  refine Zt hK73 fun a hf=>?_
  refine wp_seq_k fun _ hK74=>?_
  refine wp_seq_k fun _ hK75=>?_
  refine Xy (fun a w=>Fr a 220 [(0,.slice A l.length c),(1,vi (ia:Int)),(2,vi (im:Int)),(3,vi (ib:Int)),(4,.func (.func kf) #[] pf.toArray),(18,vi (((ia+ib)/2:Nat) : Int)),(20,vi st),(24,vi (((((ia+ib)/2:Nat) : Int)+(im:Int))-st)),(185,.bool ((decide (st<(im:Int)))&&(decide ((im:Int)<(((((ia+ib)/2:Nat) : Int)+(im:Int))-st)))))]∧w15=w) ?_ ?_
  ·refine Zr hf ?_
   refine Zm rfl<|Zm rfl<|Ze (X06 rfl rfl)<|Zm rfl ?_
   refine Zg 181 rfl (fun hg76=>?_) (fun hg76=>?_)
   ·refine Zv ⟨_,_,rfl,rfl,hg76⟩ (X2 rfl) ?_
    refine Zv ⟨_,_,rfl,rfl,hg76⟩ (X2 rfl) ?_
    refine Zv ⟨_,_,rfl,rfl,hg76⟩ (X06 rfl rfl) ?_
    refine Ze (Xe rfl hg76 rfl) ?_
    refine Zn fun a hf=>?_
    exact ⟨hf.sub ⟨rfl,rfl,rfl,rfl,rfl,rfl,rfl,rfl,X1 rfl (by first|rfl|(simp only [hc4b,hc30b,hc59b,hc65b,hg76,bs];done)|simp [hc4b,hc30b,hc59b,hc65b,hg76]),trivial⟩,rfl⟩
   refine Zp ⟨_,_,rfl,rfl,hg76⟩ ?_
   refine Zp ⟨_,_,rfl,rfl,hg76⟩ ?_
   refine Zp ⟨_,_,rfl,rfl,hg76⟩ ?_
   refine Ze (Xa rfl hg76 rfl) ?_
   refine Zn fun a hf=>?_
   exact ⟨hf.sub ⟨rfl,rfl,rfl,rfl,rfl,rfl,rfl,rfl,X1 rfl (by first|rfl|(simp only [hc4b,hc30b,hc59b,hc65b,hg76,bs];done)|simp [hc4b,hc30b,hc59b,hc65b,hg76]),trivial⟩,rfl⟩
  rintro a _ ⟨hf,rfl⟩
  refine hK75 _ _ ?_
  refine Xd hf rfl (fun hc77=>?_) (fun hc77=>?_)
  ·have hc77b:=hc77
   obtain ⟨h91,h92⟩:=Bool.and_eq_true_iff.1 hc77
   replace h91:=of_decide_eq_true h91
   replace h92:=of_decide_eq_true h92
   refine Zr hf ?_
   refine Zm rfl<|Zm rfl<|Zm rfl<|Zm rfl<|Zm rfl ?_
   refine Zf (Vc (Xki _ B0 A c l ho st (im:Int) (((((ia+ib)/2:Nat) : Int)+(im:Int))-st) (.func (.func kf) #[] pf.toArray) (P++L.take u) (L.drop u) (R.take v) (R.drop v++Q) (by rw [hl,List.append_assoc,← List.append_assoc (L.take u),List.take_append_drop,← List.append_assoc (R.take v),List.take_append_drop]) (by simp only [List.length_append,List.length_take];omega) (by simp only [List.length_append,List.length_take,List.length_drop];omega) (by simp only [List.length_append,List.length_take,List.length_drop];omega) (by simp only [List.length_drop];omega) (by simp only [List.length_take];omega) (by omega)) Xfg) ?_;rintro _ w18 ⟨hnew,hg⟩
   have hown:=ho
   replace hW:=gtr hW hg
   clear hown hg;clear ho;have ho:=hnew;clear hnew
   refine Zt hK74 fun a hf=>?_
   refine wp_seq_k fun _ hK78=>?_
   refine wp_seq_k fun _ hK79=>?_
   refine Xy (fun a w=>Fr a 220 [(0,.slice A l.length c),(1,vi (ia:Int)),(3,vi (ib:Int)),(4,.func (.func kf) #[] pf.toArray),(18,vi (((ia+ib)/2:Nat) : Int)),(20,vi st),(24,vi (((((ia+ib)/2:Nat) : Int)+(im:Int))-st)),(199,.bool ((decide ((ia:Int)<st))&&(decide (st<(((ia+ib)/2:Nat) : Int)))))]∧w18=w) ?_ ?_
   ·refine Zr hf ?_
    refine Zm rfl<|Zm rfl<|Ze (X06 rfl rfl)<|Zm rfl ?_
    refine Zg 195 rfl (fun hg80=>?_) (fun hg80=>?_)
    ·refine Zv ⟨_,_,rfl,rfl,hg80⟩ (X2 rfl) ?_
     refine Zv ⟨_,_,rfl,rfl,hg80⟩ (X2 rfl) ?_
     refine Zv ⟨_,_,rfl,rfl,hg80⟩ (X06 rfl rfl) ?_
     refine Ze (Xe rfl hg80 rfl) ?_
     refine Zn fun a hf=>?_
     exact ⟨hf.sub ⟨rfl,rfl,rfl,rfl,rfl,rfl,rfl,X1 rfl (by first|rfl|(simp only [hc4b,hc30b,hc59b,hc65b,hc77b,hg80,bs];done)|simp [hc4b,hc30b,hc59b,hc65b,hc77b,hg80]),trivial⟩,rfl⟩
    refine Zp ⟨_,_,rfl,rfl,hg80⟩ ?_
    refine Zp ⟨_,_,rfl,rfl,hg80⟩ ?_
    refine Zp ⟨_,_,rfl,rfl,hg80⟩ ?_
    refine Ze (Xa rfl hg80 rfl) ?_
    refine Zn fun a hf=>?_
    exact ⟨hf.sub ⟨rfl,rfl,rfl,rfl,rfl,rfl,rfl,X1 rfl (by first|rfl|(simp only [hc4b,hc30b,hc59b,hc65b,hc77b,hg80,bs];done)|simp [hc4b,hc30b,hc59b,hc65b,hc77b,hg80]),trivial⟩,rfl⟩
   rintro a _ ⟨hf,rfl⟩
   refine hK79 _ _ ?_
   refine Xd hf rfl (fun hc81=>?_) (fun hc81=>?_)
   ·have hc81b:=hc81
    have hd1:((P++L.take u)++((R.take v)++((L.drop u)++(R.drop v++Q))))=P++(L.take u++(R.take v++(L.drop u++(R.drop v++Q)))):=by rw [List.append_assoc]
    have hl1:((P++L.take u)++((R.take v)++((L.drop u)++(R.drop v++Q)))).length=l.length:=by rw [hd1,hll];simp only [List.length_append,List.length_take,List.length_drop];omega
    obtain ⟨h93,h94⟩:=Bool.and_eq_true_iff.1 hc81
    replace h93:=of_decide_eq_true h93
    replace h94:=of_decide_eq_true h94
    refine Zr hf ?_
    refine Zm rfl<|Zm rfl<|Zm rfl<|Zm rfl<|Zm rfl ?_
    refine Zf (X1v (vs:=[.slice A l.length c,vi (ia:Int),vi st,vi (((ia+ib)/2:Nat) : Int),.func (.func kf) #[] pf.toArray]) rfl X1z (by have hq:=ih _ B0 A c ((P++L.take u)++((R.take v)++((L.drop u)++(R.drop v++Q)))) ho (ia:Int) st (((ia+ib)/2:Nat) : Int) kf pf Ff cf key n (fun x y w' a1 a2 a3 a4 hg'=>hcmp x y w' a1 a2 a3 a4 (gtr hW hg')) hck P (L.take u) (R.take v) (L.drop u++(R.drop v++Q)) ia (ia+u) (ia+u+v) hd1 rfl (by omega) (by omega) (h2.lo hu hv) (by simp only [List.length_take];omega) (by simp only [List.length_take];omega) (by omega) (by simp only [List.length_take];omega);rw [hl1] at hq;exact hq)) ?_;rintro _ w19 ⟨M1,hM1,hnew,hg⟩
    have hown:=ho
    replace hW:=gtr hW hg
    clear hown hg;clear ho;have ho:=hnew;clear hnew
    refine Zt hK78 fun a hf=>?_
    refine wp_seq_k fun _ hK82=>?_
    refine Xy (fun a w=>Fr a 220 [(0,.slice A l.length c),(3,vi (ib:Int)),(4,.func (.func kf) #[] pf.toArray),(18,vi (((ia+ib)/2:Nat) : Int)),(24,vi (((((ia+ib)/2:Nat) : Int)+(im:Int))-st)),(213,.bool ((decide ((((ia+ib)/2:Nat) : Int)<(((((ia+ib)/2:Nat) : Int)+(im:Int))-st)))&&(decide ((((((ia+ib)/2:Nat) : Int)+(im:Int))-st)<(ib:Int)))))]∧w19=w) ?_ ?_
    ·refine Zr hf ?_
     refine Zm rfl<|Zm rfl<|Ze (X06 rfl rfl)<|Zm rfl ?_
     refine Zg 209 rfl (fun hg83=>?_) (fun hg83=>?_)
     ·refine Zv ⟨_,_,rfl,rfl,hg83⟩ (X2 rfl) ?_
      refine Zv ⟨_,_,rfl,rfl,hg83⟩ (X2 rfl) ?_
      refine Zv ⟨_,_,rfl,rfl,hg83⟩ (X06 rfl rfl) ?_
      refine Ze (Xe rfl hg83 rfl) ?_
      refine Zn fun a hf=>?_
      exact ⟨hf.sub ⟨rfl,rfl,rfl,rfl,rfl,X1 rfl (by first|rfl|(simp only [hc4b,hc30b,hc59b,hc65b,hc77b,hc81b,hg83,bs];done)|simp [hc4b,hc30b,hc59b,hc65b,hc77b,hc81b,hg83]),trivial⟩,rfl⟩
     refine Zp ⟨_,_,rfl,rfl,hg83⟩ ?_
     refine Zp ⟨_,_,rfl,rfl,hg83⟩ ?_
     refine Zp ⟨_,_,rfl,rfl,hg83⟩ ?_
     refine Ze (Xa rfl hg83 rfl) ?_
     refine Zn fun a hf=>?_
     exact ⟨hf.sub ⟨rfl,rfl,rfl,rfl,rfl,X1 rfl (by first|rfl|(simp only [hc4b,hc30b,hc59b,hc65b,hc77b,hc81b,hg83,bs];done)|simp [hc4b,hc30b,hc59b,hc65b,hc77b,hc81b,hg83]),trivial⟩,rfl⟩
    rintro a _ ⟨hf,rfl⟩
    refine hK82 _ _ ?_
    refine Xd hf rfl (fun hc84=>?_) (fun hc84=>?_)
    ·have hc84b:=hc84
     have hd2:(P++(M1++(L.drop u++(R.drop v++Q))))=P++(M1++(L.drop u++(R.drop v++Q))):=rfl
     have hM1l:=hM1.len
     have hl2:(P++(M1++(L.drop u++(R.drop v++Q)))).length=l.length:=by rw [hd2,hll];simp only [List.length_append,List.length_take,List.length_drop] at hM1l ⊢;omega
     obtain ⟨h95,h96⟩:=Bool.and_eq_true_iff.1 hc84
     replace h95:=of_decide_eq_true h95
     replace h96:=of_decide_eq_true h96
     refine Zr hf ?_
     refine Zm rfl<|Zm rfl<|Zm rfl<|Zm rfl<|Zm rfl ?_
     refine Zf (X1v (vs:=[.slice A l.length c,vi (((ia+ib)/2:Nat) : Int),vi (((((ia+ib)/2:Nat) : Int)+(im:Int))-st),vi (ib:Int),.func (.func kf) #[] pf.toArray]) rfl X1z (by have hq:=ih _ B0 A c (P++(M1++(L.drop u++(R.drop v++Q)))) ho (((ia+ib)/2:Nat) : Int) (((((ia+ib)/2:Nat) : Int)+(im:Int))-st) (ib:Int) kf pf Ff cf key n (fun x y w' a1 a2 a3 a4 hg'=>hcmp x y w' a1 a2 a3 a4 (gtr hW hg')) hck (P++M1) (L.drop u) (R.drop v) Q (ia+u+v) (im+v) ib (by rw [hd2,List.append_assoc]) (by omega) (by omega) rfl (h2.hi hu hv hM1) (by simp only [List.length_drop];omega) (by simp only [List.length_drop];omega) (by omega) (by simp only [List.length_drop];omega);rw [hl2] at hq;exact hq)) ?_;rintro _ w20 ⟨M2,hM2,hnew,hg⟩
     have hown:=ho
     replace hW:=gtr hW hg
     clear hown hg;clear ho;have ho:=hnew;clear hnew
     refine Zn fun a hf=>?_
     refine X1r hf (X2i rfl) ?_
     have e9:((P++M1)++(M2++Q))=P++((M1++M2)++Q):=by simp only [List.append_assoc]
     rw [e9] at ho
     exact ⟨_,X0i hX hM1 hM2,ho,hW⟩
    have hc84b:=hc84
    have hd2:(P++(M1++(L.drop u++(R.drop v++Q))))=P++(M1++(L.drop u++(R.drop v++Q))):=rfl
    have hM1l:=hM1.len
    have hl2:(P++(M1++(L.drop u++(R.drop v++Q)))).length=l.length:=by rw [hd2,hll];simp only [List.length_append,List.length_take,List.length_drop] at hM1l ⊢;omega
    refine wp_skip ?_
    refine X1r hf (X2i rfl) ?_
    have h9:L.length≤u∨R.length≤v:=by
     by_cases h8:((((ia+ib)/2) : Nat) : Int)<(((ia+ib)/2) : Nat)+(im:Int)-st
     ·rw [decide_eq_true h8,Bool.true_and] at hc84
      have:=of_decide_eq_false hc84
      omega
     ·omega
    have hM2:Merged key (L.drop u) (R.drop v) (L.drop u++R.drop v):=by
     rcases h9 with h9|h9
     ·rw [List.drop_eq_nil_of_le h9];exact X0e (h2.hi hu hv hM1).hR
     ·rw [List.drop_eq_nil_of_le h9,List.append_nil];exact X0d (h2.hi hu hv hM1).hL
    have e9:(P++(M1++(L.drop u++(R.drop v++Q))))=P++((M1++(L.drop u++R.drop v))++Q):=by rw [hd2];simp only [List.append_assoc]
    rw [e9] at ho
    exact ⟨_,X0i hX hM1 hM2,ho,hW⟩
   have hc81b:=hc81
   refine wp_skip ?_
   refine hK78 _ _ ?_
   refine wp_seq_k fun _ hK85=>?_
   refine Xy (fun a w=>Fr a 220 [(0,.slice A l.length c),(3,vi (ib:Int)),(4,.func (.func kf) #[] pf.toArray),(18,vi (((ia+ib)/2:Nat) : Int)),(24,vi (((((ia+ib)/2:Nat) : Int)+(im:Int))-st)),(213,.bool ((decide ((((ia+ib)/2:Nat) : Int)<(((((ia+ib)/2:Nat) : Int)+(im:Int))-st)))&&(decide ((((((ia+ib)/2:Nat) : Int)+(im:Int))-st)<(ib:Int)))))]∧w18=w) ?_ ?_
   ·refine Zr hf ?_
    refine Zm rfl<|Zm rfl<|Ze (X06 rfl rfl)<|Zm rfl ?_
    refine Zg 209 rfl (fun hg86=>?_) (fun hg86=>?_)
    ·refine Zv ⟨_,_,rfl,rfl,hg86⟩ (X2 rfl) ?_
     refine Zv ⟨_,_,rfl,rfl,hg86⟩ (X2 rfl) ?_
     refine Zv ⟨_,_,rfl,rfl,hg86⟩ (X06 rfl rfl) ?_
     refine Ze (Xe rfl hg86 rfl) ?_
     refine Zn fun a hf=>?_
     exact ⟨hf.sub ⟨rfl,rfl,rfl,rfl,rfl,X1 rfl (by first|rfl|(simp only [hc4b,hc30b,hc59b,hc65b,hc77b,hc81b,hg86,bs];done)|simp [hc4b,hc30b,hc59b,hc65b,hc77b,hc81b,hg86]),trivial⟩,rfl⟩
    refine Zp ⟨_,_,rfl,rfl,hg86⟩ ?_
    refine Zp ⟨_,_,rfl,rfl,hg86⟩ ?_
    refine Zp ⟨_,_,rfl,rfl,hg86⟩ ?_
    refine Ze (Xa rfl hg86 rfl) ?_
    refine Zn fun a hf=>?_
    exact ⟨hf.sub ⟨rfl,rfl,rfl,rfl,rfl,X1 rfl (by first|rfl|(simp only [hc4b,hc30b,hc59b,hc65b,hc77b,hc81b,hg86,bs];done)|simp [hc4b,hc30b,hc59b,hc65b,hc77b,hc81b,hg86]),trivial⟩,rfl⟩
   rintro a _ ⟨hf,rfl⟩
   refine hK85 _ _ ?_
   refine Xd hf rfl (fun hc87=>?_) (fun hc87=>?_)
   ·have hc87b:=hc87
    have hd1:((P++L.take u)++((R.take v)++((L.drop u)++(R.drop v++Q))))=P++(L.take u++(R.take v++(L.drop u++(R.drop v++Q)))):=by rw [List.append_assoc]
    have hl1:((P++L.take u)++((R.take v)++((L.drop u)++(R.drop v++Q)))).length=l.length:=by rw [hd1,hll];simp only [List.length_append,List.length_take,List.length_drop];omega
    obtain ⟨M1,hM1,hd2⟩ : ∃ M1,Merged key (L.take u) (R.take v) M1∧((P++L.take u)++((R.take v)++((L.drop u)++(R.drop v++Q))))=P++(M1++(L.drop u++(R.drop v++Q))):=by
     refine ⟨L.take u++R.take v,?_,by rw [hd1,List.append_assoc]⟩
     have h9:u=0∨v=0:=by
      by_cases h8:(ia:Int)<st
      ·rw [decide_eq_true h8,Bool.true_and] at hc81
       have:=of_decide_eq_false hc81
       omega
      ·omega
     rcases h9 with h9|h9
     ·subst h9;exact X0e (h2.lo (Nat.zero_le _) hv).hR
     ·subst h9;rw [List.take_zero,List.append_nil];exact X0d (h2.lo hu (Nat.zero_le _)).hL
    have hM1l:=hM1.len
    have hl2:((P++L.take u)++((R.take v)++((L.drop u)++(R.drop v++Q)))).length=l.length:=by rw [hd2,hll];simp only [List.length_append,List.length_take,List.length_drop] at hM1l ⊢;omega
    obtain ⟨h95,h96⟩:=Bool.and_eq_true_iff.1 hc87
    replace h95:=of_decide_eq_true h95
    replace h96:=of_decide_eq_true h96
    refine Zr hf ?_
    refine Zm rfl<|Zm rfl<|Zm rfl<|Zm rfl<|Zm rfl ?_
    refine Zf (X1v (vs:=[.slice A l.length c,vi (((ia+ib)/2:Nat) : Int),vi (((((ia+ib)/2:Nat) : Int)+(im:Int))-st),vi (ib:Int),.func (.func kf) #[] pf.toArray]) rfl X1z (by have hq:=ih _ B0 A c ((P++L.take u)++((R.take v)++((L.drop u)++(R.drop v++Q)))) ho (((ia+ib)/2:Nat) : Int) (((((ia+ib)/2:Nat) : Int)+(im:Int))-st) (ib:Int) kf pf Ff cf key n (fun x y w' a1 a2 a3 a4 hg'=>hcmp x y w' a1 a2 a3 a4 (gtr hW hg')) hck (P++M1) (L.drop u) (R.drop v) Q (ia+u+v) (im+v) ib (by rw [hd2,List.append_assoc]) (by omega) (by omega) rfl (h2.hi hu hv hM1) (by simp only [List.length_drop];omega) (by simp only [List.length_drop];omega) (by omega) (by simp only [List.length_drop];omega);rw [hl2] at hq;exact hq)) ?_;rintro _ w21 ⟨M2,hM2,hnew,hg⟩
    have hown:=ho
    replace hW:=gtr hW hg
    clear hown hg;clear ho;have ho:=hnew;clear hnew
    refine Zn fun a hf=>?_
    refine X1r hf (X2i rfl) ?_
    have e9:((P++M1)++(M2++Q))=P++((M1++M2)++Q):=by simp only [List.append_assoc]
    rw [e9] at ho
    exact ⟨_,X0i hX hM1 hM2,ho,hW⟩
   have hc87b:=hc87
   have hd1:((P++L.take u)++((R.take v)++((L.drop u)++(R.drop v++Q))))=P++(L.take u++(R.take v++(L.drop u++(R.drop v++Q)))):=by rw [List.append_assoc]
   have hl1:((P++L.take u)++((R.take v)++((L.drop u)++(R.drop v++Q)))).length=l.length:=by rw [hd1,hll];simp only [List.length_append,List.length_take,List.length_drop];omega
   obtain ⟨M1,hM1,hd2⟩ : ∃ M1,Merged key (L.take u) (R.take v) M1∧((P++L.take u)++((R.take v)++((L.drop u)++(R.drop v++Q))))=P++(M1++(L.drop u++(R.drop v++Q))):=by
    refine ⟨L.take u++R.take v,?_,by rw [hd1,List.append_assoc]⟩
    have h9:u=0∨v=0:=by
     by_cases h8:(ia:Int)<st
     ·rw [decide_eq_true h8,Bool.true_and] at hc81
      have:=of_decide_eq_false hc81
      omega
     ·omega
    rcases h9 with h9|h9
    ·subst h9;exact X0e (h2.lo (Nat.zero_le _) hv).hR
    ·subst h9;rw [List.take_zero,List.append_nil];exact X0d (h2.lo hu (Nat.zero_le _)).hL
   have hM1l:=hM1.len
   have hl2:((P++L.take u)++((R.take v)++((L.drop u)++(R.drop v++Q)))).length=l.length:=by rw [hd2,hll];simp only [List.length_append,List.length_take,List.length_drop] at hM1l ⊢;omega
   refine wp_skip ?_
   refine X1r hf (X2i rfl) ?_
   have h9:L.length≤u∨R.length≤v:=by
    by_cases h8:((((ia+ib)/2) : Nat) : Int)<(((ia+ib)/2) : Nat)+(im:Int)-st
    ·rw [decide_eq_true h8,Bool.true_and] at hc87
     have:=of_decide_eq_false hc87
     omega
    ·omega
   have hM2:Merged key (L.drop u) (R.drop v) (L.drop u++R.drop v):=by
    rcases h9 with h9|h9
    ·rw [List.drop_eq_nil_of_le h9];exact X0e (h2.hi hu hv hM1).hR
    ·rw [List.drop_eq_nil_of_le h9,List.append_nil];exact X0d (h2.hi hu hv hM1).hL
   have e9:((P++L.take u)++((R.take v)++((L.drop u)++(R.drop v++Q))))=P++((M1++(L.drop u++R.drop v))++Q):=by rw [hd2];simp only [List.append_assoc]
   rw [e9] at ho
   exact ⟨_,X0i hX hM1 hM2,ho,hW⟩
  have hc77b:=hc77
  have hd1:l=P++(L.take u++(R.take v++(L.drop u++(R.drop v++Q)))):=by
   have h9:L.length≤u∨v=0:=by
    by_cases h8:st<(im:Int)
    ·rw [decide_eq_true h8,Bool.true_and] at hc77
     have:=of_decide_eq_false hc77
     omega
    ·omega
   rw [hl]
   rcases h9 with h9|h9
   ·rw [List.take_of_length_le h9,List.drop_eq_nil_of_le h9,List.nil_append,← List.append_assoc (R.take v),List.take_append_drop]
   ·subst h9
    rw [List.take_zero,List.drop_zero,List.nil_append,← List.append_assoc (L.take u),List.take_append_drop]
  have hl1:l.length=l.length:=rfl
  refine wp_skip ?_
  refine hK74 _ _ ?_
  refine wp_seq_k fun _ hK88=>?_
  refine wp_seq_k fun _ hK89=>?_
  refine Xy (fun a w=>Fr a 220 [(0,.slice A l.length c),(1,vi (ia:Int)),(3,vi (ib:Int)),(4,.func (.func kf) #[] pf.toArray),(18,vi (((ia+ib)/2:Nat) : Int)),(20,vi st),(24,vi (((((ia+ib)/2:Nat) : Int)+(im:Int))-st)),(199,.bool ((decide ((ia:Int)<st))&&(decide (st<(((ia+ib)/2:Nat) : Int)))))]∧w15=w) ?_ ?_
  ·refine Zr hf ?_
   refine Zm rfl<|Zm rfl<|Ze (X06 rfl rfl)<|Zm rfl ?_
   refine Zg 195 rfl (fun hg90=>?_) (fun hg90=>?_)
   ·refine Zv ⟨_,_,rfl,rfl,hg90⟩ (X2 rfl) ?_
    refine Zv ⟨_,_,rfl,rfl,hg90⟩ (X2 rfl) ?_
    refine Zv ⟨_,_,rfl,rfl,hg90⟩ (X06 rfl rfl) ?_
    refine Ze (Xe rfl hg90 rfl) ?_
    refine Zn fun a hf=>?_
    exact ⟨hf.sub ⟨rfl,rfl,rfl,rfl,rfl,rfl,rfl,X1 rfl (by first|rfl|(simp only [hc4b,hc30b,hc59b,hc65b,hc77b,hg90,bs];done)|simp [hc4b,hc30b,hc59b,hc65b,hc77b,hg90]),trivial⟩,rfl⟩
   refine Zp ⟨_,_,rfl,rfl,hg90⟩ ?_
   refine Zp ⟨_,_,rfl,rfl,hg90⟩ ?_
   refine Zp ⟨_,_,rfl,rfl,hg90⟩ ?_
   refine Ze (Xa rfl hg90 rfl) ?_
   refine Zn fun a hf=>?_
   exact ⟨hf.sub ⟨rfl,rfl,rfl,rfl,rfl,rfl,rfl,X1 rfl (by first|rfl|(simp only [hc4b,hc30b,hc59b,hc65b,hc77b,hg90,bs];done)|simp [hc4b,hc30b,hc59b,hc65b,hc77b,hg90]),trivial⟩,rfl⟩
  rintro a _ ⟨hf,rfl⟩
  refine hK89 _ _ ?_
  refine Xd hf rfl (fun hc91=>?_) (fun hc91=>?_)
  ·have hc91b:=hc91
   obtain ⟨h93,h94⟩:=Bool.and_eq_true_iff.1 hc91
   replace h93:=of_decide_eq_true h93
   replace h94:=of_decide_eq_true h94
   refine Zr hf ?_
   refine Zm rfl<|Zm rfl<|Zm rfl<|Zm rfl<|Zm rfl ?_
   refine Zf (X1v (vs:=[.slice A l.length c,vi (ia:Int),vi st,vi (((ia+ib)/2:Nat) : Int),.func (.func kf) #[] pf.toArray]) rfl X1z (ih _ B0 A c l ho (ia:Int) st (((ia+ib)/2:Nat) : Int) kf pf Ff cf key n (fun x y w' a1 a2 a3 a4 hg'=>hcmp x y w' a1 a2 a3 a4 (gtr hW hg')) hck P (L.take u) (R.take v) (L.drop u++(R.drop v++Q)) ia (ia+u) (ia+u+v) hd1 rfl (by omega) (by omega) (h2.lo hu hv) (by simp only [List.length_take];omega) (by simp only [List.length_take];omega) (by omega) (by simp only [List.length_take];omega))) ?_;rintro _ w22 ⟨M1,hM1,hnew,hg⟩
   have hown:=ho
   replace hW:=gtr hW hg
   clear hown hg;clear ho;have ho:=hnew;clear hnew
   refine Zt hK88 fun a hf=>?_
   refine wp_seq_k fun _ hK92=>?_
   refine Xy (fun a w=>Fr a 220 [(0,.slice A l.length c),(3,vi (ib:Int)),(4,.func (.func kf) #[] pf.toArray),(18,vi (((ia+ib)/2:Nat) : Int)),(24,vi (((((ia+ib)/2:Nat) : Int)+(im:Int))-st)),(213,.bool ((decide ((((ia+ib)/2:Nat) : Int)<(((((ia+ib)/2:Nat) : Int)+(im:Int))-st)))&&(decide ((((((ia+ib)/2:Nat) : Int)+(im:Int))-st)<(ib:Int)))))]∧w22=w) ?_ ?_
   ·refine Zr hf ?_
    refine Zm rfl<|Zm rfl<|Ze (X06 rfl rfl)<|Zm rfl ?_
    refine Zg 209 rfl (fun hg93=>?_) (fun hg93=>?_)
    ·refine Zv ⟨_,_,rfl,rfl,hg93⟩ (X2 rfl) ?_
     refine Zv ⟨_,_,rfl,rfl,hg93⟩ (X2 rfl) ?_
     refine Zv ⟨_,_,rfl,rfl,hg93⟩ (X06 rfl rfl) ?_
     refine Ze (Xe rfl hg93 rfl) ?_
     refine Zn fun a hf=>?_
     exact ⟨hf.sub ⟨rfl,rfl,rfl,rfl,rfl,X1 rfl (by first|rfl|(simp only [hc4b,hc30b,hc59b,hc65b,hc77b,hc91b,hg93,bs];done)|simp [hc4b,hc30b,hc59b,hc65b,hc77b,hc91b,hg93]),trivial⟩,rfl⟩
    refine Zp ⟨_,_,rfl,rfl,hg93⟩ ?_
    refine Zp ⟨_,_,rfl,rfl,hg93⟩ ?_
    refine Zp ⟨_,_,rfl,rfl,hg93⟩ ?_
    refine Ze (Xa rfl hg93 rfl) ?_
    refine Zn fun a hf=>?_
    exact ⟨hf.sub ⟨rfl,rfl,rfl,rfl,rfl,X1 rfl (by first|rfl|(simp only [hc4b,hc30b,hc59b,hc65b,hc77b,hc91b,hg93,bs];done)|simp [hc4b,hc30b,hc59b,hc65b,hc77b,hc91b,hg93]),trivial⟩,rfl⟩
   rintro a _ ⟨hf,rfl⟩
   refine hK92 _ _ ?_
   refine Xd hf rfl (fun hc94=>?_) (fun hc94=>?_)
   ·have hc94b:=hc94
    have hd2:(P++(M1++(L.drop u++(R.drop v++Q))))=P++(M1++(L.drop u++(R.drop v++Q))):=rfl
    have hM1l:=hM1.len
    have hl2:(P++(M1++(L.drop u++(R.drop v++Q)))).length=l.length:=by rw [hd2,hll];simp only [List.length_append,List.length_take,List.length_drop] at hM1l ⊢;omega
    obtain ⟨h95,h96⟩:=Bool.and_eq_true_iff.1 hc94
    replace h95:=of_decide_eq_true h95
    replace h96:=of_decide_eq_true h96
    refine Zr hf ?_
    refine Zm rfl<|Zm rfl<|Zm rfl<|Zm rfl<|Zm rfl ?_
    refine Zf (X1v (vs:=[.slice A l.length c,vi (((ia+ib)/2:Nat) : Int),vi (((((ia+ib)/2:Nat) : Int)+(im:Int))-st),vi (ib:Int),.func (.func kf) #[] pf.toArray]) rfl X1z (by have hq:=ih _ B0 A c (P++(M1++(L.drop u++(R.drop v++Q)))) ho (((ia+ib)/2:Nat) : Int) (((((ia+ib)/2:Nat) : Int)+(im:Int))-st) (ib:Int) kf pf Ff cf key n (fun x y w' a1 a2 a3 a4 hg'=>hcmp x y w' a1 a2 a3 a4 (gtr hW hg')) hck (P++M1) (L.drop u) (R.drop v) Q (ia+u+v) (im+v) ib (by rw [hd2,List.append_assoc]) (by omega) (by omega) rfl (h2.hi hu hv hM1) (by simp only [List.length_drop];omega) (by simp only [List.length_drop];omega) (by omega) (by simp only [List.length_drop];omega);rw [hl2] at hq;exact hq)) ?_;rintro _ w23 ⟨M2,hM2,hnew,hg⟩
    have hown:=ho
    replace hW:=gtr hW hg
    clear hown hg;clear ho;have ho:=hnew;clear hnew
    refine Zn fun a hf=>?_
    refine X1r hf (X2i rfl) ?_
    have e9:((P++M1)++(M2++Q))=P++((M1++M2)++Q):=by simp only [List.append_assoc]
    rw [e9] at ho
    exact ⟨_,X0i hX hM1 hM2,ho,hW⟩
   have hc94b:=hc94
   have hd2:(P++(M1++(L.drop u++(R.drop v++Q))))=P++(M1++(L.drop u++(R.drop v++Q))):=rfl
   have hM1l:=hM1.len
   have hl2:(P++(M1++(L.drop u++(R.drop v++Q)))).length=l.length:=by rw [hd2,hll];simp only [List.length_append,List.length_take,List.length_drop] at hM1l ⊢;omega
   refine wp_skip ?_
   refine X1r hf (X2i rfl) ?_
   have h9:L.length≤u∨R.length≤v:=by
    by_cases h8:((((ia+ib)/2) : Nat) : Int)<(((ia+ib)/2) : Nat)+(im:Int)-st
    ·rw [decide_eq_true h8,Bool.true_and] at hc94
     have:=of_decide_eq_false hc94
     omega
    ·omega
   have hM2:Merged key (L.drop u) (R.drop v) (L.drop u++R.drop v):=by
    rcases h9 with h9|h9
    ·rw [List.drop_eq_nil_of_le h9];exact X0e (h2.hi hu hv hM1).hR
    ·rw [List.drop_eq_nil_of_le h9,List.append_nil];exact X0d (h2.hi hu hv hM1).hL
   have e9:(P++(M1++(L.drop u++(R.drop v++Q))))=P++((M1++(L.drop u++R.drop v))++Q):=by rw [hd2];simp only [List.append_assoc]
   rw [e9] at ho
   exact ⟨_,X0i hX hM1 hM2,ho,hW⟩
  have hc91b:=hc91
  refine wp_skip ?_
  refine hK88 _ _ ?_
  refine wp_seq_k fun _ hK95=>?_
  refine Xy (fun a w=>Fr a 220 [(0,.slice A l.length c),(3,vi (ib:Int)),(4,.func (.func kf) #[] pf.toArray),(18,vi (((ia+ib)/2:Nat) : Int)),(24,vi (((((ia+ib)/2:Nat) : Int)+(im:Int))-st)),(213,.bool ((decide ((((ia+ib)/2:Nat) : Int)<(((((ia+ib)/2:Nat) : Int)+(im:Int))-st)))&&(decide ((((((ia+ib)/2:Nat) : Int)+(im:Int))-st)<(ib:Int)))))]∧w15=w) ?_ ?_
  ·refine Zr hf ?_
   refine Zm rfl<|Zm rfl<|Ze (X06 rfl rfl)<|Zm rfl ?_
   refine Zg 209 rfl (fun hg96=>?_) (fun hg96=>?_)
   ·refine Zv ⟨_,_,rfl,rfl,hg96⟩ (X2 rfl) ?_
    refine Zv ⟨_,_,rfl,rfl,hg96⟩ (X2 rfl) ?_
    refine Zv ⟨_,_,rfl,rfl,hg96⟩ (X06 rfl rfl) ?_
    refine Ze (Xe rfl hg96 rfl) ?_
    refine Zn fun a hf=>?_
    exact ⟨hf.sub ⟨rfl,rfl,rfl,rfl,rfl,X1 rfl (by first|rfl|(simp only [hc4b,hc30b,hc59b,hc65b,hc77b,hc91b,hg96,bs];done)|simp [hc4b,hc30b,hc59b,hc65b,hc77b,hc91b,hg96]),trivial⟩,rfl⟩
   refine Zp ⟨_,_,rfl,rfl,hg96⟩ ?_
   refine Zp ⟨_,_,rfl,rfl,hg96⟩ ?_
   refine Zp ⟨_,_,rfl,rfl,hg96⟩ ?_
   refine Ze (Xa rfl hg96 rfl) ?_
   refine Zn fun a hf=>?_
   exact ⟨hf.sub ⟨rfl,rfl,rfl,rfl,rfl,X1 rfl (by first|rfl|(simp only [hc4b,hc30b,hc59b,hc65b,hc77b,hc91b,hg96,bs];done)|simp [hc4b,hc30b,hc59b,hc65b,hc77b,hc91b,hg96]),trivial⟩,rfl⟩
  rintro a _ ⟨hf,rfl⟩
  refine hK95 _ _ ?_
  refine Xd hf rfl (fun hc97=>?_) (fun hc97=>?_)
  ·have hc97b:=hc97
   obtain ⟨M1,hM1,hd2⟩ : ∃ M1,Merged key (L.take u) (R.take v) M1∧l=P++(M1++(L.drop u++(R.drop v++Q))):=by
    refine ⟨L.take u++R.take v,?_,by rw [hd1,List.append_assoc]⟩
    have h9:u=0∨v=0:=by
     by_cases h8:(ia:Int)<st
     ·rw [decide_eq_true h8,Bool.true_and] at hc91
      have:=of_decide_eq_false hc91
      omega
     ·omega
    rcases h9 with h9|h9
    ·subst h9;exact X0e (h2.lo (Nat.zero_le _) hv).hR
    ·subst h9;rw [List.take_zero,List.append_nil];exact X0d (h2.lo hu (Nat.zero_le _)).hL
   obtain ⟨h95,h96⟩:=Bool.and_eq_true_iff.1 hc97
   replace h95:=of_decide_eq_true h95
   replace h96:=of_decide_eq_true h96
   refine Zr hf ?_
   refine Zm rfl<|Zm rfl<|Zm rfl<|Zm rfl<|Zm rfl ?_
   refine Zf (X1v (vs:=[.slice A l.length c,vi (((ia+ib)/2:Nat) : Int),vi (((((ia+ib)/2:Nat) : Int)+(im:Int))-st),vi (ib:Int),.func (.func kf) #[] pf.toArray]) rfl X1z (ih _ B0 A c l ho (((ia+ib)/2:Nat) : Int) (((((ia+ib)/2:Nat) : Int)+(im:Int))-st) (ib:Int) kf pf Ff cf key n (fun x y w' a1 a2 a3 a4 hg'=>hcmp x y w' a1 a2 a3 a4 (gtr hW hg')) hck (P++M1) (L.drop u) (R.drop v) Q (ia+u+v) (im+v) ib (by rw [hd2,List.append_assoc]) (by omega) (by omega) rfl (h2.hi hu hv hM1) (by simp only [List.length_drop];omega) (by simp only [List.length_drop];omega) (by omega) (by simp only [List.length_drop];omega))) ?_;rintro _ w24 ⟨M2,hM2,hnew,hg⟩
   have hown:=ho
   replace hW:=gtr hW hg
   clear hown hg;clear ho;have ho:=hnew;clear hnew
   refine Zn fun a hf=>?_
   refine X1r hf (X2i rfl) ?_
   have e9:((P++M1)++(M2++Q))=P++((M1++M2)++Q):=by simp only [List.append_assoc]
   rw [e9] at ho
   exact ⟨_,X0i hX hM1 hM2,ho,hW⟩
  have hc97b:=hc97
  obtain ⟨M1,hM1,hd2⟩ : ∃ M1,Merged key (L.take u) (R.take v) M1∧l=P++(M1++(L.drop u++(R.drop v++Q))):=by
   refine ⟨L.take u++R.take v,?_,by rw [hd1,List.append_assoc]⟩
   have h9:u=0∨v=0:=by
    by_cases h8:(ia:Int)<st
    ·rw [decide_eq_true h8,Bool.true_and] at hc91
     have:=of_decide_eq_false hc91
     omega
    ·omega
   rcases h9 with h9|h9
   ·subst h9;exact X0e (h2.lo (Nat.zero_le _) hv).hR
   ·subst h9;rw [List.take_zero,List.append_nil];exact X0d (h2.lo hu (Nat.zero_le _)).hL
  refine wp_skip ?_
  refine X1r hf (X2i rfl) ?_
  have h9:L.length≤u∨R.length≤v:=by
   by_cases h8:((((ia+ib)/2) : Nat) : Int)<(((ia+ib)/2) : Nat)+(im:Int)-st
   ·rw [decide_eq_true h8,Bool.true_and] at hc97
    have:=of_decide_eq_false hc97
    omega
   ·omega
  have hM2:Merged key (L.drop u) (R.drop v) (L.drop u++R.drop v):=by
   rcases h9 with h9|h9
   ·rw [List.drop_eq_nil_of_le h9];exact X0e (h2.hi hu hv hM1).hR
   ·rw [List.drop_eq_nil_of_le h9,List.append_nil];exact X0d (h2.hi hu hv hM1).hL
  have e9:l=P++((M1++(L.drop u++R.drop v))++Q):=by rw [hd2];simp only [List.append_assoc]
  rw [e9] at ho
  exact ⟨_,X0i hX hM1 hM2,ho,hW⟩
 have hc59b:=hc59
 have hc59:=of_decide_eq_false hc59
 obtain ⟨lo,hi,pp,hlo,hhi,hpp⟩ : ∃ lo hi pp:Nat,lo=ia∧hi=im∧pp=((ia+ib)/2)+im-1:=⟨_,_,_,rfl,rfl,rfl⟩
 have hdn:=h2.down (Q:=Q) (p:=pp) (lo:=lo) (hi:=hi) (by omega) (by omega) (by omega) (by omega)
 rw [← hl] at hdn
 refine Zs hf fun _ hK98=>?_
 refine Zm rfl<|Za rfl ?_
 refine Zt hK98 fun a hf=>?_
 refine Zr hf ?_
 refine Zm rfl<|Za rfl ?_
 refine Zt hK57 fun a hf=>?_
 refine Zs hf fun _ hK99=>?_
 refine Zm rfl<|Ze (X0c rfl rfl (by omega) (by omega))<|Za rfl ?_
 refine Zt hK99 fun a hf=>?_
 refine wp_seq_k fun _ hK100=>?_
 refine wp_block ?_
 refine Xt (σ:=Int×Nat×Int×Nat) (fun (s:Int×Nat×Int×Nat) (a:Act) (w:World)=>match s with|(st,sx,rr,r)=>Fr a 220 [(0,.slice A l.length c),(1,vi (ia:Int)),(2,vi (im:Int)),(3,vi (ib:Int)),(4,.func (.func kf) #[] pf.toArray),(18,vi (((ia+ib)/2:Nat) : Int)),(19,vi ((((ia+ib)/2:Nat) : Int)+(im:Int))),(20,vi st),(21,vi rr),(22,vi (((((ia+ib)/2:Nat) : Int)+(im:Int))-1))]∧(st=(sx:Int))∧(rr=(r:Int))∧(Cut (prS key l pp) lo hi sx r)∧Own w B0 3 1 encI A c l∧w0.grownBy w (Value.slice A l.length c).ownBlock) (fun (s:Int×Nat×Int×Nat)=>match s with|(st,sx,rr,r)=>r-sx) ((ia:Int),lo,(im:Int),hi) ?_ ?_
 ·exact ⟨hf.sub ⟨rfl,rfl,rfl,rfl,rfl,rfl,rfl,rfl,rfl,rfl,trivial⟩,(by omega),(by omega),(X3q (by omega)),ho,hW⟩
 rintro ⟨st,sx,rr,r⟩ a w25 ⟨hf,hst,hrr,hcut,ho,hW⟩
 obtain ⟨hs1,hs2,hs3,hs4,hs5⟩:=id hcut
 refine wp_seq_k fun _ hK101=>?_
 refine Zs hf fun _ hK102=>?_
 refine Zm rfl<|Zm rfl<|Ze (X06 rfl rfl) ?_
 refine Zt hK102 fun a hf=>?_
 refine Xd hf rfl (fun hc103=>?_) (fun hc103=>?_)
 ·have hc103b:=hc103
  have hc103:=of_decide_eq_true hc103
  have hdA:0≤l.getD (pp-((sx+r)/2)) 0∧l.getD (pp-((sx+r)/2)) 0<n:=by rw [hl];exact h2.inr (by omega) (by omega)
  have hdB:0≤l.getD ((sx+r)/2) 0∧l.getD ((sx+r)/2) 0<n:=by rw [hl];exact h2.inl (by omega) (by omega)
  have hA9:=h2.cmpS (Q:=Q) (c:=((sx+r)/2)) (p:=pp) (by omega) (by omega) (by omega) (by omega) hck
  rw [← hl] at hA9
  refine wp_skip ?_
  refine hK101 _ _ ?_
  refine wp_block ?_
  refine Zs hf fun _ hK104=>?_
  refine Zm rfl<|Zm rfl<|Ze (Xp rfl rfl (by omega) (by omega))<|Ze (X9b (m:=(sx+r)) Tryz.underlying3 Tryz.underlying60 rfl (by omega) (by omega))<|Ze (X9s (m:=(sx+r)) rfl rfl) ?_
  refine Ze (X9k (m:=((sx+r)/2:Nat)) Tryz.underlying60 Tryz.underlying3 rfl (by omega))<|Za rfl ?_
  refine Zt hK104 fun a hf=>?_
  refine wp_seq_k fun _ hK105=>?_
  refine Xw none (fun _=>false) mixed ?_
  intro w26 hE
  replace ho:=ho.below hE
  replace hW:=gbel hW hE
  refine Yb hf ?_
  refine Yo 0 rfl (fun _=>X2 rfl)<|Yo 1 rfl (fun _=>X2 rfl)<|Yo 2 rfl (fun _=>X2 rfl)<|Yo 3 rfl (fun _=>X2 rfl)<|Yo 4 rfl (fun _=>X0c rfl rfl (by omega) (by omega)) ?_
  refine Yi (k:=(pp-((sx+r)/2))) (u:=(l.getD (pp-((sx+r)/2)) 0)) (enc:=encI) (l:=l) 5 rfl trivial rfl rfl Xj X0a X7 ho.rd (X10 (by omega)) (by omega) ?_;intro p107 hat106
  refine Ye 6 rfl (X0 rfl X3 hat106)<|Yo 7 rfl (fun _=>X2 rfl)<|Yo 8 rfl (fun _=>X2 rfl) ?_
  refine Yi (k:=((sx+r)/2)) (u:=(l.getD ((sx+r)/2) 0)) (enc:=encI) (l:=l) 9 rfl trivial rfl rfl Xj X0a X7 ho.rd (X10 (by omega)) rfl ?_;intro p109 hat108
  refine Ye 10 rfl (X0 rfl X3 hat108) ?_
  refine Y1 11 ?_
  refine Yk rfl trivial (X29 (cs:=pf) (vs:=[vi (l.getD (pp-((sx+r)/2)) 0),vi (l.getD ((sx+r)/2) 0)]) rfl rfl Ff (hcmp (l.getD (pp-((sx+r)/2)) 0) (l.getD ((sx+r)/2) 0) _ hdA.1 hdA.2 hdB.1 hdB.2 hW)) (fun _ _ ⟨_,hE⟩=>hE) ?_;rintro _ w27 ⟨rfl,hE⟩
  replace ho:=ho.below hE
  replace hW:=gbel hW hE
  refine Yo 12 rfl (fun _=>X06 rfl rfl)<|Yo 13 rfl (fun _=>X0u rfl) ?_
  refine Yd fun a hf=>?_
  refine hK105 _ _ ?_
  refine Xd hf rfl (fun hc110=>?_) (fun hc110=>?_)
  ·have hc110b:=hc110
   have hq9:=hc110
   rw [Bool.not_eq_true'] at hq9
   have hnx:=X8d hcut hdn (by omega) (by omega) (hA9.2 hq9)
   refine Zr hf ?_
   refine Zm rfl<|Ze (Xp rfl rfl (by omega) (by omega))<|Za rfl ?_
   refine Zn fun a hf=>?_
   refine Xh ?_
   refine Xg ?_
   exact ⟨((((((sx+r)/2) : Nat) : Int)+1),(((sx+r)/2)+1),rr,r),⟨hf.sub ⟨rfl,rfl,rfl,rfl,rfl,rfl,rfl,rfl,rfl,rfl,trivial⟩,(by omega),hrr,hnx,ho,hW⟩,(by first|omega|(dsimp only;omega))⟩
  have hc110b:=hc110
  have hq9:=hc110
  rw [Bool.not_eq_false'] at hq9
  have hnx:=X4g hcut hdn (by omega) (by omega) (hA9.1 hq9)
  refine Zr hf ?_
  refine Zm rfl<|Za rfl ?_
  refine Zn fun a hf=>?_
  refine Xh ?_
  refine Xg ?_
  exact ⟨(st,sx,((((sx+r)/2) : Nat) : Int),((sx+r)/2)),⟨hf.sub ⟨rfl,rfl,rfl,rfl,rfl,rfl,rfl,rfl,rfl,rfl,trivial⟩,hst,rfl,hnx,ho,hW⟩,(by first|omega|(dsimp only;omega))⟩
 have hc103b:=hc103
 have hc103:=of_decide_eq_false hc103
 have hsr:sx=r:=by omega
 rw [← hsr,hl] at hcut
 obtain ⟨u,v,hsu,hu,hv,hpv,hX⟩:=h2.cut (p:=pp) (lo:=lo) (hi:=hi) (by omega) (by omega) (by omega) (by omega) (by omega) hcut (by omega) (by omega)
 refine wp_exit ?_
 refine Xf ?_
 refine Xf ?_
 refine Xs ?_
 refine hK100 _ _ ?_
 refine Zs hf fun _ hK111=>?_
 refine Zm rfl<|Zm rfl<|Ze (X0c rfl rfl (by omega) (by omega))<|Za rfl ?_
 refine Zt hK111 fun a hf=>?_
 refine wp_seq_k fun _ hK112=>?_
 refine wp_seq_k fun _ hK113=>?_
 refine Xy (fun a w=>Fr a 220 [(0,.slice A l.length c),(1,vi (ia:Int)),(2,vi (im:Int)),(3,vi (ib:Int)),(4,.func (.func kf) #[] pf.toArray),(18,vi (((ia+ib)/2:Nat) : Int)),(20,vi st),(24,vi (((((ia+ib)/2:Nat) : Int)+(im:Int))-st)),(185,.bool ((decide (st<(im:Int)))&&(decide ((im:Int)<(((((ia+ib)/2:Nat) : Int)+(im:Int))-st)))))]∧w25=w) ?_ ?_
 ·refine Zr hf ?_
  refine Zm rfl<|Zm rfl<|Ze (X06 rfl rfl)<|Zm rfl ?_
  refine Zg 181 rfl (fun hg114=>?_) (fun hg114=>?_)
  ·refine Zv ⟨_,_,rfl,rfl,hg114⟩ (X2 rfl) ?_
   refine Zv ⟨_,_,rfl,rfl,hg114⟩ (X2 rfl) ?_
   refine Zv ⟨_,_,rfl,rfl,hg114⟩ (X06 rfl rfl) ?_
   refine Ze (Xe rfl hg114 rfl) ?_
   refine Zn fun a hf=>?_
   exact ⟨hf.sub ⟨rfl,rfl,rfl,rfl,rfl,rfl,rfl,rfl,X1 rfl (by first|rfl|(simp only [hc4b,hc30b,hc59b,hc103b,hg114,bs];done)|simp [hc4b,hc30b,hc59b,hc103b,hg114]),trivial⟩,rfl⟩
  refine Zp ⟨_,_,rfl,rfl,hg114⟩ ?_
  refine Zp ⟨_,_,rfl,rfl,hg114⟩ ?_
  refine Zp ⟨_,_,rfl,rfl,hg114⟩ ?_
  refine Ze (Xa rfl hg114 rfl) ?_
  refine Zn fun a hf=>?_
  exact ⟨hf.sub ⟨rfl,rfl,rfl,rfl,rfl,rfl,rfl,rfl,X1 rfl (by first|rfl|(simp only [hc4b,hc30b,hc59b,hc103b,hg114,bs];done)|simp [hc4b,hc30b,hc59b,hc103b,hg114]),trivial⟩,rfl⟩
 rintro a _ ⟨hf,rfl⟩
 refine hK113 _ _ ?_
 refine Xd hf rfl (fun hc115=>?_) (fun hc115=>?_)
 ·have hc115b:=hc115
  obtain ⟨h91,h92⟩:=Bool.and_eq_true_iff.1 hc115
  replace h91:=of_decide_eq_true h91
  replace h92:=of_decide_eq_true h92
  refine Zr hf ?_
  refine Zm rfl<|Zm rfl<|Zm rfl<|Zm rfl<|Zm rfl ?_
  refine Zf (Vc (Xki _ B0 A c l ho st (im:Int) (((((ia+ib)/2:Nat) : Int)+(im:Int))-st) (.func (.func kf) #[] pf.toArray) (P++L.take u) (L.drop u) (R.take v) (R.drop v++Q) (by rw [hl,List.append_assoc,← List.append_assoc (L.take u),List.take_append_drop,← List.append_assoc (R.take v),List.take_append_drop]) (by simp only [List.length_append,List.length_take];omega) (by simp only [List.length_append,List.length_take,List.length_drop];omega) (by simp only [List.length_append,List.length_take,List.length_drop];omega) (by simp only [List.length_drop];omega) (by simp only [List.length_take];omega) (by omega)) Xfg) ?_;rintro _ w28 ⟨hnew,hg⟩
  have hown:=ho
  replace hW:=gtr hW hg
  clear hown hg;clear ho;have ho:=hnew;clear hnew
  refine Zt hK112 fun a hf=>?_
  refine wp_seq_k fun _ hK116=>?_
  refine wp_seq_k fun _ hK117=>?_
  refine Xy (fun a w=>Fr a 220 [(0,.slice A l.length c),(1,vi (ia:Int)),(3,vi (ib:Int)),(4,.func (.func kf) #[] pf.toArray),(18,vi (((ia+ib)/2:Nat) : Int)),(20,vi st),(24,vi (((((ia+ib)/2:Nat) : Int)+(im:Int))-st)),(199,.bool ((decide ((ia:Int)<st))&&(decide (st<(((ia+ib)/2:Nat) : Int)))))]∧w28=w) ?_ ?_
  ·refine Zr hf ?_
   refine Zm rfl<|Zm rfl<|Ze (X06 rfl rfl)<|Zm rfl ?_
   refine Zg 195 rfl (fun hg118=>?_) (fun hg118=>?_)
   ·refine Zv ⟨_,_,rfl,rfl,hg118⟩ (X2 rfl) ?_
    refine Zv ⟨_,_,rfl,rfl,hg118⟩ (X2 rfl) ?_
    refine Zv ⟨_,_,rfl,rfl,hg118⟩ (X06 rfl rfl) ?_
    refine Ze (Xe rfl hg118 rfl) ?_
    refine Zn fun a hf=>?_
    exact ⟨hf.sub ⟨rfl,rfl,rfl,rfl,rfl,rfl,rfl,X1 rfl (by first|rfl|(simp only [hc4b,hc30b,hc59b,hc103b,hc115b,hg118,bs];done)|simp [hc4b,hc30b,hc59b,hc103b,hc115b,hg118]),trivial⟩,rfl⟩
   refine Zp ⟨_,_,rfl,rfl,hg118⟩ ?_
   refine Zp ⟨_,_,rfl,rfl,hg118⟩ ?_
   refine Zp ⟨_,_,rfl,rfl,hg118⟩ ?_
   refine Ze (Xa rfl hg118 rfl) ?_
   refine Zn fun a hf=>?_
   exact ⟨hf.sub ⟨rfl,rfl,rfl,rfl,rfl,rfl,rfl,X1 rfl (by first|rfl|(simp only [hc4b,hc30b,hc59b,hc103b,hc115b,hg118,bs];done)|simp [hc4b,hc30b,hc59b,hc103b,hc115b,hg118]),trivial⟩,rfl⟩
  rintro a _ ⟨hf,rfl⟩
  refine hK117 _ _ ?_
  refine Xd hf rfl (fun hc119=>?_) (fun hc119=>?_)
  ·have hc119b:=hc119
   have hd1:((P++L.take u)++((R.take v)++((L.drop u)++(R.drop v++Q))))=P++(L.take u++(R.take v++(L.drop u++(R.drop v++Q)))):=by rw [List.append_assoc]
   have hl1:((P++L.take u)++((R.take v)++((L.drop u)++(R.drop v++Q)))).length=l.length:=by rw [hd1,hll];simp only [List.length_append,List.length_take,List.length_drop];omega
   obtain ⟨h93,h94⟩:=Bool.and_eq_true_iff.1 hc119
   replace h93:=of_decide_eq_true h93
   replace h94:=of_decide_eq_true h94
   refine Zr hf ?_
   refine Zm rfl<|Zm rfl<|Zm rfl<|Zm rfl<|Zm rfl ?_
   refine Zf (X1v (vs:=[.slice A l.length c,vi (ia:Int),vi st,vi (((ia+ib)/2:Nat) : Int),.func (.func kf) #[] pf.toArray]) rfl X1z (by have hq:=ih _ B0 A c ((P++L.take u)++((R.take v)++((L.drop u)++(R.drop v++Q)))) ho (ia:Int) st (((ia+ib)/2:Nat) : Int) kf pf Ff cf key n (fun x y w' a1 a2 a3 a4 hg'=>hcmp x y w' a1 a2 a3 a4 (gtr hW hg')) hck P (L.take u) (R.take v) (L.drop u++(R.drop v++Q)) ia (ia+u) (ia+u+v) hd1 rfl (by omega) (by omega) (h2.lo hu hv) (by simp only [List.length_take];omega) (by simp only [List.length_take];omega) (by omega) (by simp only [List.length_take];omega);rw [hl1] at hq;exact hq)) ?_;rintro _ w29 ⟨M1,hM1,hnew,hg⟩
   have hown:=ho
   replace hW:=gtr hW hg
   clear hown hg;clear ho;have ho:=hnew;clear hnew
   refine Zt hK116 fun a hf=>?_
   refine wp_seq_k fun _ hK120=>?_
   refine Xy (fun a w=>Fr a 220 [(0,.slice A l.length c),(3,vi (ib:Int)),(4,.func (.func kf) #[] pf.toArray),(18,vi (((ia+ib)/2:Nat) : Int)),(24,vi (((((ia+ib)/2:Nat) : Int)+(im:Int))-st)),(213,.bool ((decide ((((ia+ib)/2:Nat) : Int)<(((((ia+ib)/2:Nat) : Int)+(im:Int))-st)))&&(decide ((((((ia+ib)/2:Nat) : Int)+(im:Int))-st)<(ib:Int)))))]∧w29=w) ?_ ?_
   ·refine Zr hf ?_
    refine Zm rfl<|Zm rfl<|Ze (X06 rfl rfl)<|Zm rfl ?_
    refine Zg 209 rfl (fun hg121=>?_) (fun hg121=>?_)
    ·refine Zv ⟨_,_,rfl,rfl,hg121⟩ (X2 rfl) ?_
     refine Zv ⟨_,_,rfl,rfl,hg121⟩ (X2 rfl) ?_
     refine Zv ⟨_,_,rfl,rfl,hg121⟩ (X06 rfl rfl) ?_
     refine Ze (Xe rfl hg121 rfl) ?_
     refine Zn fun a hf=>?_
     exact ⟨hf.sub ⟨rfl,rfl,rfl,rfl,rfl,X1 rfl (by first|rfl|(simp only [hc4b,hc30b,hc59b,hc103b,hc115b,hc119b,hg121,bs];done)|simp [hc4b,hc30b,hc59b,hc103b,hc115b,hc119b,hg121]),trivial⟩,rfl⟩
    refine Zp ⟨_,_,rfl,rfl,hg121⟩ ?_
    refine Zp ⟨_,_,rfl,rfl,hg121⟩ ?_
    refine Zp ⟨_,_,rfl,rfl,hg121⟩ ?_
    refine Ze (Xa rfl hg121 rfl) ?_
    refine Zn fun a hf=>?_
    exact ⟨hf.sub ⟨rfl,rfl,rfl,rfl,rfl,X1 rfl (by first|rfl|(simp only [hc4b,hc30b,hc59b,hc103b,hc115b,hc119b,hg121,bs];done)|simp [hc4b,hc30b,hc59b,hc103b,hc115b,hc119b,hg121]),trivial⟩,rfl⟩
   rintro a _ ⟨hf,rfl⟩
   refine hK120 _ _ ?_
   refine Xd hf rfl (fun hc122=>?_) (fun hc122=>?_)
   ·have hc122b:=hc122
    have hd2:(P++(M1++(L.drop u++(R.drop v++Q))))=P++(M1++(L.drop u++(R.drop v++Q))):=rfl
    have hM1l:=hM1.len
    have hl2:(P++(M1++(L.drop u++(R.drop v++Q)))).length=l.length:=by rw [hd2,hll];simp only [List.length_append,List.length_take,List.length_drop] at hM1l ⊢;omega
    obtain ⟨h95,h96⟩:=Bool.and_eq_true_iff.1 hc122
    replace h95:=of_decide_eq_true h95
    replace h96:=of_decide_eq_true h96
    refine Zr hf ?_
    refine Zm rfl<|Zm rfl<|Zm rfl<|Zm rfl<|Zm rfl ?_
    refine Zf (X1v (vs:=[.slice A l.length c,vi (((ia+ib)/2:Nat) : Int),vi (((((ia+ib)/2:Nat) : Int)+(im:Int))-st),vi (ib:Int),.func (.func kf) #[] pf.toArray]) rfl X1z (by have hq:=ih _ B0 A c (P++(M1++(L.drop u++(R.drop v++Q)))) ho (((ia+ib)/2:Nat) : Int) (((((ia+ib)/2:Nat) : Int)+(im:Int))-st) (ib:Int) kf pf Ff cf key n (fun x y w' a1 a2 a3 a4 hg'=>hcmp x y w' a1 a2 a3 a4 (gtr hW hg')) hck (P++M1) (L.drop u) (R.drop v) Q (ia+u+v) (im+v) ib (by rw [hd2,List.append_assoc]) (by omega) (by omega) rfl (h2.hi hu hv hM1) (by simp only [List.length_drop];omega) (by simp only [List.length_drop];omega) (by omega) (by simp only [List.length_drop];omega);rw [hl2] at hq;exact hq)) ?_;rintro _ w30 ⟨M2,hM2,hnew,hg⟩
    have hown:=ho
    replace hW:=gtr hW hg
    clear hown hg;clear ho;have ho:=hnew;clear hnew
    refine Zn fun a hf=>?_
    refine X1r hf (X2i rfl) ?_
    have e9:((P++M1)++(M2++Q))=P++((M1++M2)++Q):=by simp only [List.append_assoc]
    rw [e9] at ho
    exact ⟨_,X0i hX hM1 hM2,ho,hW⟩
   have hc122b:=hc122
   have hd2:(P++(M1++(L.drop u++(R.drop v++Q))))=P++(M1++(L.drop u++(R.drop v++Q))):=rfl
   have hM1l:=hM1.len
   have hl2:(P++(M1++(L.drop u++(R.drop v++Q)))).length=l.length:=by rw [hd2,hll];simp only [List.length_append,List.length_take,List.length_drop] at hM1l ⊢;omega
   refine wp_skip ?_
   refine X1r hf (X2i rfl) ?_
   have h9:L.length≤u∨R.length≤v:=by
    by_cases h8:((((ia+ib)/2) : Nat) : Int)<(((ia+ib)/2) : Nat)+(im:Int)-st
    ·rw [decide_eq_true h8,Bool.true_and] at hc122
     have:=of_decide_eq_false hc122
     omega
    ·omega
   have hM2:Merged key (L.drop u) (R.drop v) (L.drop u++R.drop v):=by
    rcases h9 with h9|h9
    ·rw [List.drop_eq_nil_of_le h9];exact X0e (h2.hi hu hv hM1).hR
    ·rw [List.drop_eq_nil_of_le h9,List.append_nil];exact X0d (h2.hi hu hv hM1).hL
   have e9:(P++(M1++(L.drop u++(R.drop v++Q))))=P++((M1++(L.drop u++R.drop v))++Q):=by rw [hd2];simp only [List.append_assoc]
   rw [e9] at ho
   exact ⟨_,X0i hX hM1 hM2,ho,hW⟩
  have hc119b:=hc119
  refine wp_skip ?_
  refine hK116 _ _ ?_
  refine wp_seq_k fun _ hK123=>?_
  refine Xy (fun a w=>Fr a 220 [(0,.slice A l.length c),(3,vi (ib:Int)),(4,.func (.func kf) #[] pf.toArray),(18,vi (((ia+ib)/2:Nat) : Int)),(24,vi (((((ia+ib)/2:Nat) : Int)+(im:Int))-st)),(213,.bool ((decide ((((ia+ib)/2:Nat) : Int)<(((((ia+ib)/2:Nat) : Int)+(im:Int))-st)))&&(decide ((((((ia+ib)/2:Nat) : Int)+(im:Int))-st)<(ib:Int)))))]∧w28=w) ?_ ?_
  ·refine Zr hf ?_
   refine Zm rfl<|Zm rfl<|Ze (X06 rfl rfl)<|Zm rfl ?_
   refine Zg 209 rfl (fun hg124=>?_) (fun hg124=>?_)
   ·refine Zv ⟨_,_,rfl,rfl,hg124⟩ (X2 rfl) ?_
    refine Zv ⟨_,_,rfl,rfl,hg124⟩ (X2 rfl) ?_
    refine Zv ⟨_,_,rfl,rfl,hg124⟩ (X06 rfl rfl) ?_
    refine Ze (Xe rfl hg124 rfl) ?_
    refine Zn fun a hf=>?_
    exact ⟨hf.sub ⟨rfl,rfl,rfl,rfl,rfl,X1 rfl (by first|rfl|(simp only [hc4b,hc30b,hc59b,hc103b,hc115b,hc119b,hg124,bs];done)|simp [hc4b,hc30b,hc59b,hc103b,hc115b,hc119b,hg124]),trivial⟩,rfl⟩
   refine Zp ⟨_,_,rfl,rfl,hg124⟩ ?_
   refine Zp ⟨_,_,rfl,rfl,hg124⟩ ?_
   refine Zp ⟨_,_,rfl,rfl,hg124⟩ ?_
   refine Ze (Xa rfl hg124 rfl) ?_
   refine Zn fun a hf=>?_
   exact ⟨hf.sub ⟨rfl,rfl,rfl,rfl,rfl,X1 rfl (by first|rfl|(simp only [hc4b,hc30b,hc59b,hc103b,hc115b,hc119b,hg124,bs];done)|simp [hc4b,hc30b,hc59b,hc103b,hc115b,hc119b,hg124]),trivial⟩,rfl⟩
  rintro a _ ⟨hf,rfl⟩
  refine hK123 _ _ ?_
  refine Xd hf rfl (fun hc125=>?_) (fun hc125=>?_)
  ·have hc125b:=hc125
   have hd1:((P++L.take u)++((R.take v)++((L.drop u)++(R.drop v++Q))))=P++(L.take u++(R.take v++(L.drop u++(R.drop v++Q)))):=by rw [List.append_assoc]
   have hl1:((P++L.take u)++((R.take v)++((L.drop u)++(R.drop v++Q)))).length=l.length:=by rw [hd1,hll];simp only [List.length_append,List.length_take,List.length_drop];omega
   obtain ⟨M1,hM1,hd2⟩ : ∃ M1,Merged key (L.take u) (R.take v) M1∧((P++L.take u)++((R.take v)++((L.drop u)++(R.drop v++Q))))=P++(M1++(L.drop u++(R.drop v++Q))):=by
    refine ⟨L.take u++R.take v,?_,by rw [hd1,List.append_assoc]⟩
    have h9:u=0∨v=0:=by
     by_cases h8:(ia:Int)<st
     ·rw [decide_eq_true h8,Bool.true_and] at hc119
      have:=of_decide_eq_false hc119
      omega
     ·omega
    rcases h9 with h9|h9
    ·subst h9;exact X0e (h2.lo (Nat.zero_le _) hv).hR
    ·subst h9;rw [List.take_zero,List.append_nil];exact X0d (h2.lo hu (Nat.zero_le _)).hL
   have hM1l:=hM1.len
   have hl2:((P++L.take u)++((R.take v)++((L.drop u)++(R.drop v++Q)))).length=l.length:=by rw [hd2,hll];simp only [List.length_append,List.length_take,List.length_drop] at hM1l ⊢;omega
   obtain ⟨h95,h96⟩:=Bool.and_eq_true_iff.1 hc125
   replace h95:=of_decide_eq_true h95
   replace h96:=of_decide_eq_true h96
   refine Zr hf ?_
   refine Zm rfl<|Zm rfl<|Zm rfl<|Zm rfl<|Zm rfl ?_
   refine Zf (X1v (vs:=[.slice A l.length c,vi (((ia+ib)/2:Nat) : Int),vi (((((ia+ib)/2:Nat) : Int)+(im:Int))-st),vi (ib:Int),.func (.func kf) #[] pf.toArray]) rfl X1z (by have hq:=ih _ B0 A c ((P++L.take u)++((R.take v)++((L.drop u)++(R.drop v++Q)))) ho (((ia+ib)/2:Nat) : Int) (((((ia+ib)/2:Nat) : Int)+(im:Int))-st) (ib:Int) kf pf Ff cf key n (fun x y w' a1 a2 a3 a4 hg'=>hcmp x y w' a1 a2 a3 a4 (gtr hW hg')) hck (P++M1) (L.drop u) (R.drop v) Q (ia+u+v) (im+v) ib (by rw [hd2,List.append_assoc]) (by omega) (by omega) rfl (h2.hi hu hv hM1) (by simp only [List.length_drop];omega) (by simp only [List.length_drop];omega) (by omega) (by simp only [List.length_drop];omega);rw [hl2] at hq;exact hq)) ?_;rintro _ w31 ⟨M2,hM2,hnew,hg⟩
   have hown:=ho
   replace hW:=gtr hW hg
   clear hown hg;clear ho;have ho:=hnew;clear hnew
   refine Zn fun a hf=>?_
   refine X1r hf (X2i rfl) ?_
   have e9:((P++M1)++(M2++Q))=P++((M1++M2)++Q):=by simp only [List.append_assoc]
   rw [e9] at ho
   exact ⟨_,X0i hX hM1 hM2,ho,hW⟩
  have hc125b:=hc125
  have hd1:((P++L.take u)++((R.take v)++((L.drop u)++(R.drop v++Q))))=P++(L.take u++(R.take v++(L.drop u++(R.drop v++Q)))):=by rw [List.append_assoc]
  have hl1:((P++L.take u)++((R.take v)++((L.drop u)++(R.drop v++Q)))).length=l.length:=by rw [hd1,hll];simp only [List.length_append,List.length_take,List.length_drop];omega
  obtain ⟨M1,hM1,hd2⟩ : ∃ M1,Merged key (L.take u) (R.take v) M1∧((P++L.take u)++((R.take v)++((L.drop u)++(R.drop v++Q))))=P++(M1++(L.drop u++(R.drop v++Q))):=by
   refine ⟨L.take u++R.take v,?_,by rw [hd1,List.append_assoc]⟩
   have h9:u=0∨v=0:=by
    by_cases h8:(ia:Int)<st
    ·rw [decide_eq_true h8,Bool.true_and] at hc119
     have:=of_decide_eq_false hc119
     omega
    ·omega
   rcases h9 with h9|h9
   ·subst h9;exact X0e (h2.lo (Nat.zero_le _) hv).hR
   ·subst h9;rw [List.take_zero,List.append_nil];exact X0d (h2.lo hu (Nat.zero_le _)).hL
  have hM1l:=hM1.len
  have hl2:((P++L.take u)++((R.take v)++((L.drop u)++(R.drop v++Q)))).length=l.length:=by rw [hd2,hll];simp only [List.length_append,List.length_take,List.length_drop] at hM1l ⊢;omega
  refine wp_skip ?_
  refine X1r hf (X2i rfl) ?_
  have h9:L.length≤u∨R.length≤v:=by
   by_cases h8:((((ia+ib)/2) : Nat) : Int)<(((ia+ib)/2) : Nat)+(im:Int)-st
   ·rw [decide_eq_true h8,Bool.true_and] at hc125
    have:=of_decide_eq_false hc125
    omega
   ·omega
  have hM2:Merged key (L.drop u) (R.drop v) (L.drop u++R.drop v):=by
   rcases h9 with h9|h9
   ·rw [List.drop_eq_nil_of_le h9];exact X0e (h2.hi hu hv hM1).hR
   ·rw [List.drop_eq_nil_of_le h9,List.append_nil];exact X0d (h2.hi hu hv hM1).hL
  have e9:((P++L.take u)++((R.take v)++((L.drop u)++(R.drop v++Q))))=P++((M1++(L.drop u++R.drop v))++Q):=by rw [hd2];simp only [List.append_assoc]
  rw [e9] at ho
  exact ⟨_,X0i hX hM1 hM2,ho,hW⟩
 have hc115b:=hc115
 have hd1:l=P++(L.take u++(R.take v++(L.drop u++(R.drop v++Q)))):=by
  have h9:L.length≤u∨v=0:=by
   by_cases h8:st<(im:Int)
   ·rw [decide_eq_true h8,Bool.true_and] at hc115
    have:=of_decide_eq_false hc115
    omega
   ·omega
  rw [hl]
  rcases h9 with h9|h9
  ·rw [List.take_of_length_le h9,List.drop_eq_nil_of_le h9,List.nil_append,← List.append_assoc (R.take v),List.take_append_drop]
  ·subst h9
   rw [List.take_zero,List.drop_zero,List.nil_append,← List.append_assoc (L.take u),List.take_append_drop]
 have hl1:l.length=l.length:=rfl
 refine wp_skip ?_
 refine hK112 _ _ ?_
 refine wp_seq_k fun _ hK126=>?_
 refine wp_seq_k fun _ hK127=>?_
 refine Xy (fun a w=>Fr a 220 [(0,.slice A l.length c),(1,vi (ia:Int)),(3,vi (ib:Int)),(4,.func (.func kf) #[] pf.toArray),(18,vi (((ia+ib)/2:Nat) : Int)),(20,vi st),(24,vi (((((ia+ib)/2:Nat) : Int)+(im:Int))-st)),(199,.bool ((decide ((ia:Int)<st))&&(decide (st<(((ia+ib)/2:Nat) : Int)))))]∧w25=w) ?_ ?_
 ·refine Zr hf ?_
  refine Zm rfl<|Zm rfl<|Ze (X06 rfl rfl)<|Zm rfl ?_
  refine Zg 195 rfl (fun hg128=>?_) (fun hg128=>?_)
  ·refine Zv ⟨_,_,rfl,rfl,hg128⟩ (X2 rfl) ?_
   refine Zv ⟨_,_,rfl,rfl,hg128⟩ (X2 rfl) ?_
   refine Zv ⟨_,_,rfl,rfl,hg128⟩ (X06 rfl rfl) ?_
   refine Ze (Xe rfl hg128 rfl) ?_
   refine Zn fun a hf=>?_
   exact ⟨hf.sub ⟨rfl,rfl,rfl,rfl,rfl,rfl,rfl,X1 rfl (by first|rfl|(simp only [hc4b,hc30b,hc59b,hc103b,hc115b,hg128,bs];done)|simp [hc4b,hc30b,hc59b,hc103b,hc115b,hg128]),trivial⟩,rfl⟩
  refine Zp ⟨_,_,rfl,rfl,hg128⟩ ?_
  refine Zp ⟨_,_,rfl,rfl,hg128⟩ ?_
  refine Zp ⟨_,_,rfl,rfl,hg128⟩ ?_
  refine Ze (Xa rfl hg128 rfl) ?_
  refine Zn fun a hf=>?_
  exact ⟨hf.sub ⟨rfl,rfl,rfl,rfl,rfl,rfl,rfl,X1 rfl (by first|rfl|(simp only [hc4b,hc30b,hc59b,hc103b,hc115b,hg128,bs];done)|simp [hc4b,hc30b,hc59b,hc103b,hc115b,hg128]),trivial⟩,rfl⟩
 rintro a _ ⟨hf,rfl⟩
 refine hK127 _ _ ?_
 refine Xd hf rfl (fun hc129=>?_) (fun hc129=>?_)
 ·have hc129b:=hc129
  obtain ⟨h93,h94⟩:=Bool.and_eq_true_iff.1 hc129
  replace h93:=of_decide_eq_true h93
  replace h94:=of_decide_eq_true h94
  refine Zr hf ?_
  refine Zm rfl<|Zm rfl<|Zm rfl<|Zm rfl<|Zm rfl ?_
  refine Zf (X1v (vs:=[.slice A l.length c,vi (ia:Int),vi st,vi (((ia+ib)/2:Nat) : Int),.func (.func kf) #[] pf.toArray]) rfl X1z (ih _ B0 A c l ho (ia:Int) st (((ia+ib)/2:Nat) : Int) kf pf Ff cf key n (fun x y w' a1 a2 a3 a4 hg'=>hcmp x y w' a1 a2 a3 a4 (gtr hW hg')) hck P (L.take u) (R.take v) (L.drop u++(R.drop v++Q)) ia (ia+u) (ia+u+v) hd1 rfl (by omega) (by omega) (h2.lo hu hv) (by simp only [List.length_take];omega) (by simp only [List.length_take];omega) (by omega) (by simp only [List.length_take];omega))) ?_;rintro _ w32 ⟨M1,hM1,hnew,hg⟩
  have hown:=ho
  replace hW:=gtr hW hg
  clear hown hg;clear ho;have ho:=hnew;clear hnew
  refine Zt hK126 fun a hf=>?_
  refine wp_seq_k fun _ hK130=>?_
  refine Xy (fun a w=>Fr a 220 [(0,.slice A l.length c),(3,vi (ib:Int)),(4,.func (.func kf) #[] pf.toArray),(18,vi (((ia+ib)/2:Nat) : Int)),(24,vi (((((ia+ib)/2:Nat) : Int)+(im:Int))-st)),(213,.bool ((decide ((((ia+ib)/2:Nat) : Int)<(((((ia+ib)/2:Nat) : Int)+(im:Int))-st)))&&(decide ((((((ia+ib)/2:Nat) : Int)+(im:Int))-st)<(ib:Int)))))]∧w32=w) ?_ ?_
  ·refine Zr hf ?_
   refine Zm rfl<|Zm rfl<|Ze (X06 rfl rfl)<|Zm rfl ?_
   refine Zg 209 rfl (fun hg131=>?_) (fun hg131=>?_)
   ·refine Zv ⟨_,_,rfl,rfl,hg131⟩ (X2 rfl) ?_
    refine Zv ⟨_,_,rfl,rfl,hg131⟩ (X2 rfl) ?_
    refine Zv ⟨_,_,rfl,rfl,hg131⟩ (X06 rfl rfl) ?_
    refine Ze (Xe rfl hg131 rfl) ?_
    refine Zn fun a hf=>?_
    exact ⟨hf.sub ⟨rfl,rfl,rfl,rfl,rfl,X1 rfl (by first|rfl|(simp only [hc4b,hc30b,hc59b,hc103b,hc115b,hc129b,hg131,bs];done)|simp [hc4b,hc30b,hc59b,hc103b,hc115b,hc129b,hg131]),trivial⟩,rfl⟩
   refine Zp ⟨_,_,rfl,rfl,hg131⟩ ?_
   refine Zp ⟨_,_,rfl,rfl,hg131⟩ ?_
   refine Zp ⟨_,_,rfl,rfl,hg131⟩ ?_
   refine Ze (Xa rfl hg131 rfl) ?_
   refine Zn fun a hf=>?_
   exact ⟨hf.sub ⟨rfl,rfl,rfl,rfl,rfl,X1 rfl (by first|rfl|(simp only [hc4b,hc30b,hc59b,hc103b,hc115b,hc129b,hg131,bs];done)|simp [hc4b,hc30b,hc59b,hc103b,hc115b,hc129b,hg131]),trivial⟩,rfl⟩
  rintro a _ ⟨hf,rfl⟩
  refine hK130 _ _ ?_
  refine Xd hf rfl (fun hc132=>?_) (fun hc132=>?_)
  ·have hc132b:=hc132
   have hd2:(P++(M1++(L.drop u++(R.drop v++Q))))=P++(M1++(L.drop u++(R.drop v++Q))):=rfl
   have hM1l:=hM1.len
   have hl2:(P++(M1++(L.drop u++(R.drop v++Q)))).length=l.length:=by rw [hd2,hll];simp only [List.length_append,List.length_take,List.length_drop] at hM1l ⊢;omega
   obtain ⟨h95,h96⟩:=Bool.and_eq_true_iff.1 hc132
   replace h95:=of_decide_eq_true h95
   replace h96:=of_decide_eq_true h96
   refine Zr hf ?_
   refine Zm rfl<|Zm rfl<|Zm rfl<|Zm rfl<|Zm rfl ?_
   refine Zf (X1v (vs:=[.slice A l.length c,vi (((ia+ib)/2:Nat) : Int),vi (((((ia+ib)/2:Nat) : Int)+(im:Int))-st),vi (ib:Int),.func (.func kf) #[] pf.toArray]) rfl X1z (by have hq:=ih _ B0 A c (P++(M1++(L.drop u++(R.drop v++Q)))) ho (((ia+ib)/2:Nat) : Int) (((((ia+ib)/2:Nat) : Int)+(im:Int))-st) (ib:Int) kf pf Ff cf key n (fun x y w' a1 a2 a3 a4 hg'=>hcmp x y w' a1 a2 a3 a4 (gtr hW hg')) hck (P++M1) (L.drop u) (R.drop v) Q (ia+u+v) (im+v) ib (by rw [hd2,List.append_assoc]) (by omega) (by omega) rfl (h2.hi hu hv hM1) (by simp only [List.length_drop];omega) (by simp only [List.length_drop];omega) (by omega) (by simp only [List.length_drop];omega);rw [hl2] at hq;exact hq)) ?_;rintro _ w33 ⟨M2,hM2,hnew,hg⟩
   have hown:=ho
   replace hW:=gtr hW hg
   clear hown hg;clear ho;have ho:=hnew;clear hnew
   refine Zn fun a hf=>?_
   refine X1r hf (X2i rfl) ?_
   have e9:((P++M1)++(M2++Q))=P++((M1++M2)++Q):=by simp only [List.append_assoc]
   rw [e9] at ho
   exact ⟨_,X0i hX hM1 hM2,ho,hW⟩
  have hc132b:=hc132
  have hd2:(P++(M1++(L.drop u++(R.drop v++Q))))=P++(M1++(L.drop u++(R.drop v++Q))):=rfl
  have hM1l:=hM1.len
  have hl2:(P++(M1++(L.drop u++(R.drop v++Q)))).length=l.length:=by rw [hd2,hll];simp only [List.length_append,List.length_take,List.length_drop] at hM1l ⊢;omega
  refine wp_skip ?_
  refine X1r hf (X2i rfl) ?_
  have h9:L.length≤u∨R.length≤v:=by
   by_cases h8:((((ia+ib)/2) : Nat) : Int)<(((ia+ib)/2) : Nat)+(im:Int)-st
   ·rw [decide_eq_true h8,Bool.true_and] at hc132
    have:=of_decide_eq_false hc132
    omega
   ·omega
  have hM2:Merged key (L.drop u) (R.drop v) (L.drop u++R.drop v):=by
   rcases h9 with h9|h9
   ·rw [List.drop_eq_nil_of_le h9];exact X0e (h2.hi hu hv hM1).hR
   ·rw [List.drop_eq_nil_of_le h9,List.append_nil];exact X0d (h2.hi hu hv hM1).hL
  have e9:(P++(M1++(L.drop u++(R.drop v++Q))))=P++((M1++(L.drop u++R.drop v))++Q):=by rw [hd2];simp only [List.append_assoc]
  rw [e9] at ho
  exact ⟨_,X0i hX hM1 hM2,ho,hW⟩
 have hc129b:=hc129
 refine wp_skip ?_
 refine hK126 _ _ ?_
 refine wp_seq_k fun _ hK133=>?_
 refine Xy (fun a w=>Fr a 220 [(0,.slice A l.length c),(3,vi (ib:Int)),(4,.func (.func kf) #[] pf.toArray),(18,vi (((ia+ib)/2:Nat) : Int)),(24,vi (((((ia+ib)/2:Nat) : Int)+(im:Int))-st)),(213,.bool ((decide ((((ia+ib)/2:Nat) : Int)<(((((ia+ib)/2:Nat) : Int)+(im:Int))-st)))&&(decide ((((((ia+ib)/2:Nat) : Int)+(im:Int))-st)<(ib:Int)))))]∧w25=w) ?_ ?_
 ·refine Zr hf ?_
  refine Zm rfl<|Zm rfl<|Ze (X06 rfl rfl)<|Zm rfl ?_
  refine Zg 209 rfl (fun hg134=>?_) (fun hg134=>?_)
  ·refine Zv ⟨_,_,rfl,rfl,hg134⟩ (X2 rfl) ?_
   refine Zv ⟨_,_,rfl,rfl,hg134⟩ (X2 rfl) ?_
   refine Zv ⟨_,_,rfl,rfl,hg134⟩ (X06 rfl rfl) ?_
   refine Ze (Xe rfl hg134 rfl) ?_
   refine Zn fun a hf=>?_
   exact ⟨hf.sub ⟨rfl,rfl,rfl,rfl,rfl,X1 rfl (by first|rfl|(simp only [hc4b,hc30b,hc59b,hc103b,hc115b,hc129b,hg134,bs];done)|simp [hc4b,hc30b,hc59b,hc103b,hc115b,hc129b,hg134]),trivial⟩,rfl⟩
  refine Zp ⟨_,_,rfl,rfl,hg134⟩ ?_
  refine Zp ⟨_,_,rfl,rfl,hg134⟩ ?_
  refine Zp ⟨_,_,rfl,rfl,hg134⟩ ?_
  refine Ze (Xa rfl hg134 rfl) ?_
  refine Zn fun a hf=>?_
  exact ⟨hf.sub ⟨rfl,rfl,rfl,rfl,rfl,X1 rfl (by first|rfl|(simp only [hc4b,hc30b,hc59b,hc103b,hc115b,hc129b,hg134,bs];done)|simp [hc4b,hc30b,hc59b,hc103b,hc115b,hc129b,hg134]),trivial⟩,rfl⟩
 rintro a _ ⟨hf,rfl⟩
 refine hK133 _ _ ?_
 refine Xd hf rfl (fun hc135=>?_) (fun hc135=>?_)
 ·have hc135b:=hc135
  obtain ⟨M1,hM1,hd2⟩ : ∃ M1,Merged key (L.take u) (R.take v) M1∧l=P++(M1++(L.drop u++(R.drop v++Q))):=by
   refine ⟨L.take u++R.take v,?_,by rw [hd1,List.append_assoc]⟩
   have h9:u=0∨v=0:=by
    by_cases h8:(ia:Int)<st
    ·rw [decide_eq_true h8,Bool.true_and] at hc129
     have:=of_decide_eq_false hc129
     omega
    ·omega
   rcases h9 with h9|h9
   ·subst h9;exact X0e (h2.lo (Nat.zero_le _) hv).hR
   ·subst h9;rw [List.take_zero,List.append_nil];exact X0d (h2.lo hu (Nat.zero_le _)).hL
  obtain ⟨h95,h96⟩:=Bool.and_eq_true_iff.1 hc135
  replace h95:=of_decide_eq_true h95
  replace h96:=of_decide_eq_true h96
  refine Zr hf ?_
  refine Zm rfl<|Zm rfl<|Zm rfl<|Zm rfl<|Zm rfl ?_
  refine Zf (X1v (vs:=[.slice A l.length c,vi (((ia+ib)/2:Nat) : Int),vi (((((ia+ib)/2:Nat) : Int)+(im:Int))-st),vi (ib:Int),.func (.func kf) #[] pf.toArray]) rfl X1z (ih _ B0 A c l ho (((ia+ib)/2:Nat) : Int) (((((ia+ib)/2:Nat) : Int)+(im:Int))-st) (ib:Int) kf pf Ff cf key n (fun x y w' a1 a2 a3 a4 hg'=>hcmp x y w' a1 a2 a3 a4 (gtr hW hg')) hck (P++M1) (L.drop u) (R.drop v) Q (ia+u+v) (im+v) ib (by rw [hd2,List.append_assoc]) (by omega) (by omega) rfl (h2.hi hu hv hM1) (by simp only [List.length_drop];omega) (by simp only [List.length_drop];omega) (by omega) (by simp only [List.length_drop];omega))) ?_;rintro _ w34 ⟨M2,hM2,hnew,hg⟩
  have hown:=ho
  replace hW:=gtr hW hg
  clear hown hg;clear ho;have ho:=hnew;clear hnew
  refine Zn fun a hf=>?_
  refine X1r hf (X2i rfl) ?_
  have e9:((P++M1)++(M2++Q))=P++((M1++M2)++Q):=by simp only [List.append_assoc]
  rw [e9] at ho
  exact ⟨_,X0i hX hM1 hM2,ho,hW⟩
 have hc135b:=hc135
 obtain ⟨M1,hM1,hd2⟩ : ∃ M1,Merged key (L.take u) (R.take v) M1∧l=P++(M1++(L.drop u++(R.drop v++Q))):=by
  refine ⟨L.take u++R.take v,?_,by rw [hd1,List.append_assoc]⟩
  have h9:u=0∨v=0:=by
   by_cases h8:(ia:Int)<st
   ·rw [decide_eq_true h8,Bool.true_and] at hc129
    have:=of_decide_eq_false hc129
    omega
   ·omega
  rcases h9 with h9|h9
  ·subst h9;exact X0e (h2.lo (Nat.zero_le _) hv).hR
  ·subst h9;rw [List.take_zero,List.append_nil];exact X0d (h2.lo hu (Nat.zero_le _)).hL
 refine wp_skip ?_
 refine X1r hf (X2i rfl) ?_
 have h9:L.length≤u∨R.length≤v:=by
  by_cases h8:((((ia+ib)/2) : Nat) : Int)<(((ia+ib)/2) : Nat)+(im:Int)-st
  ·rw [decide_eq_true h8,Bool.true_and] at hc135
   have:=of_decide_eq_false hc135
   omega
  ·omega
 have hM2:Merged key (L.drop u) (R.drop v) (L.drop u++R.drop v):=by
  rcases h9 with h9|h9
  ·rw [List.drop_eq_nil_of_le h9];exact X0e (h2.hi hu hv hM1).hR
  ·rw [List.drop_eq_nil_of_le h9,List.append_nil];exact X0d (h2.hi hu hv hM1).hL
 have e9:l=P++((M1++(L.drop u++R.drop v))++Q):=by rw [hd2];simp only [List.append_assoc]
 rw [e9] at ho
 exact ⟨_,X0i hX hM1 hM2,ho,hW⟩
theorem X8f:∀ N,SymSt N
 | 0=>fun _ _ _ _ _ _ _ _ _ _ _ _ _ _ _ _ _ _ _ _ _ _ _ _ _ _ _ _ _ hL _ _ hN=>by omega
 | N+1=>Xlz N (X8f N)
end Go.Proofs.YtgkoieoaamkjhaaGreat
set_option maxRecDepth 4000
namespace Go.Proofs.YtgkoieoaamkjhaaGreat
open Go.RowKit
theorem Xmx(w0:World)(B0:Nat)(A:Option Addr)(c:Nat)(l:List Int)(ho:Own w0 B0 3 1 encI A c l)(p:Int)(kf:FuncId)(pf:List Value)(Ff:FuncF Tryz.prog kf)(cf:Int→Int→Int)(key:Int→Int)(n:Int)(hcmp:∀ x y w,0≤x→x<n→0≤y→y<n→w0.grownBy w (Value.slice A l.length c).ownBlock→Ret Tryz.prog kf ([vi x,vi y]++pf) w (fun v w'=>v=vi (cf x y)∧Below w.heap.size w w'))(hck:Cmp key cf n)(N:Nat)(hl:l=ran 0 N)(hp:p=(N:Int))(hn:(N:Int)≤n)(hln:l.length≤1000000000) : Ret Tryz.prog 59 [.slice A l.length c,vi p,.func (.func kf) #[] pf.toArray] w0 (fun v w=>Own w B0 3 1 encI A c (srtF key N)∧w0.grownBy w (Value.slice A l.length c).ownBlock):=by
 subst hp
 have hll:l.length=N:=by rw [hl,X24];omega
 refine enter Tryz.func59 rfl 63 rfl rfl ?_
 intro a hf
 have hW:w0.grownBy w0 (Value.slice A l.length c).ownBlock:=World.grownBy.refl _ _
 refine Zs hf fun _ hK2=>?_
 refine Za rfl ?_
 refine Zt hK2 fun a hf=>?_
 refine Zs hf fun _ hK3=>?_
 refine Zm rfl<|Za rfl<|Za rfl ?_
 refine Zt hK3 fun a hf=>?_
 refine wp_seq_k fun _ hK4=>?_
 refine wp_block ?_
 refine Xt (σ:=Nat×(List Int)×(List Int)) (fun (s:Nat×(List Int)×(List Int)) (a:Act) (w:World)=>match s with|(ka,H,m)=>Fr a 63 [(0,.slice A l.length c),(1,vi (N:Int)),(2,.func (.func kf) #[] pf.toArray),(6,vi 20),(7,vi (ka:Int)),(8,vi ((ka+20:Nat) : Int))]∧(ka≤N)∧(Head key 20 ka H)∧(m=H++ran ka N)∧(m.length=l.length)∧Own w B0 3 1 encI A c m∧w0.grownBy w (Value.slice A l.length c).ownBlock) (fun (s:Nat×(List Int)×(List Int))=>match s with|(ka,H,m)=>N-ka) (0,[],l) ?_ ?_
 ·exact ⟨hf.sub ⟨rfl,rfl,rfl,rfl,rfl,rfl,trivial⟩,(Nat.zero_le _),Head.nil,(by rw [hl];rfl),rfl,ho,hW⟩
 rintro ⟨ka,H,m⟩ a w1 ⟨hf,hka,hH,hm,hml,ho,hW⟩
 refine wp_seq_k fun _ hK5=>?_
 refine Zs hf fun _ hK6=>?_
 refine Zm rfl<|Zm rfl<|Ze (Xax rfl rfl) ?_
 refine Zt hK6 fun a hf=>?_
 refine Xd hf rfl (fun hc7=>?_) (fun hc7=>?_)
 ·have hc7b:=hc7
  have hc7:=of_decide_eq_true hc7
  refine wp_skip ?_
  refine hK5 _ _ ?_
  refine wp_block ?_
  refine Zs hf fun _ hK8=>?_
  refine Zm rfl<|Zm rfl<|Zm rfl<|Zm rfl ?_
  refine Zf (X1v (vs:=[.slice A l.length c,vi (ka:Int),vi ((ka+20:Nat) : Int),.func (.func kf) #[] pf.toArray]) rfl Xds (by have hq:=Xkh _ B0 A c m ho (ka:Int) ((ka+20:Nat) : Int) kf pf Ff cf key n (fun x y w' a1 a2 a3 a4 hg'=>hcmp x y w' a1 a2 a3 a4 (gtr hW hg')) hck H (ran ka (ka+20)) (ran (ka+20) N) (by rw [hm,(X7w (a:=ka) (m:=ka+20) (b:=N) (by omega) (by omega))]) (by rw [hH.len]) (by rw [hH.len,X24];omega) Xbi (fun x hx=>by have:=X89.1 hx;omega) (by omega);rw [hml] at hq;exact hq)) ?_;rintro _ w2 ⟨S1,hS1,hnew,hg⟩
  have hown:=ho
  replace hW:=gtr hW hg
  clear hown hg;clear ho;have ho:=hnew;clear hnew
  refine Zt hK8 fun a hf=>?_
  refine Zs hf fun _ hK9=>?_
  refine Zm rfl<|Za rfl ?_
  refine Zt hK9 fun a hf=>?_
  refine Zr hf ?_
  refine Zm rfl<|Zm rfl<|Ze (Xp rfl rfl (by omega) (by omega))<|Za rfl ?_
  refine Zn fun a hf=>?_
  refine Xh ?_
  refine Xg ?_
  exact ⟨(ka+20,(H++S1),(H++(S1++(ran (ka+20) N)))),⟨hf.sub ⟨rfl,rfl,rfl,rfl,rfl,rfl,trivial⟩,(by omega),(hH.snoc hS1),(by rw [List.append_assoc]),(by rw [List.length_append,List.length_append,hH.len,hS1.2.length_eq,X24,X24];omega),ho,hW⟩,(by first|omega|(dsimp only;omega))⟩
 have hc7b:=hc7
 have hc7:=of_decide_eq_false hc7
 refine wp_exit ?_
 refine Xf ?_
 refine Xf ?_
 refine Xs ?_
 refine hK4 _ _ ?_
 refine Zs hf fun _ hK10=>?_
 refine Zm rfl<|Zm rfl<|Zm rfl<|Zm rfl ?_
 refine Zf (X1v (vs:=[.slice A l.length c,vi (ka:Int),vi (N:Int),.func (.func kf) #[] pf.toArray]) rfl Xds (by have hq:=Xkh _ B0 A c m ho (ka:Int) (N:Int) kf pf Ff cf key n (fun x y w' a1 a2 a3 a4 hg'=>hcmp x y w' a1 a2 a3 a4 (gtr hW hg')) hck H (ran ka N) [] (by rw [hm,List.append_nil]) (by rw [hH.len]) (by rw [hH.len,X24];omega) Xbi (fun x hx=>by have:=X89.1 hx;omega) (by omega);rw [hml] at hq;exact hq)) ?_;rintro _ w3 ⟨S2,hS2,hnew,hg⟩
 have hown:=ho
 replace hW:=gtr hW hg
 clear hown hg;clear ho;have ho:=hnew;clear hnew
 refine Zt hK10 fun a hf=>?_
 refine wp_block ?_
 refine Xt (σ:=Nat×(List Int)) (fun (s:Nat×(List Int)) (a:Act) (w:World)=>match s with|(bs,d)=>Fr a 63 [(0,.slice A l.length c),(1,vi (N:Int)),(2,.func (.func kf) #[] pf.toArray),(6,vi (bs:Int))]∧(20≤bs)∧(Blocks key bs N 0 d)∧(d.length=l.length)∧Own w B0 3 1 encI A c d∧w0.grownBy w (Value.slice A l.length c).ownBlock) (fun (s:Nat×(List Int))=>match s with|(bs,d)=>N-bs) (20,(H++(S2++[]))) ?_ ?_
 ·exact ⟨hf.sub ⟨rfl,rfl,rfl,rfl,trivial⟩,(Nat.le_refl _),(Xfb hH hS2 hka (by omega) (by omega)),(by rw [List.length_append,List.length_append,hH.len,hS2.2.length_eq,X24];simp;omega),ho,hW⟩
 rintro ⟨bs,d⟩ a w4 ⟨hf,hbs,hB,hdl,ho,hW⟩
 refine wp_seq_k fun _ hK11=>?_
 refine Zs hf fun _ hK12=>?_
 refine Zm rfl<|Zm rfl<|Ze (X06 rfl rfl) ?_
 refine Zt hK12 fun a hf=>?_
 refine Xd hf rfl (fun hc13=>?_) (fun hc13=>?_)
 ·have hc13b:=hc13
  have hc13:=of_decide_eq_true hc13
  refine wp_skip ?_
  refine hK11 _ _ ?_
  refine wp_block ?_
  refine Zs hf fun _ hK14=>?_
  refine Zm rfl<|Ze (X5q (m:=2) (k:=bs) rfl rfl (by omega))<|Za rfl<|Za rfl ?_
  refine Zt hK14 fun a hf=>?_
  refine wp_seq_k fun _ hK15=>?_
  refine wp_block ?_
  refine Xt (σ:=Int×Int×Nat×(List Int)×(List Int)×(List Int)) (fun (s:Int×Int×Nat×(List Int)×(List Int)×(List Int)) (a:Act) (w:World)=>match s with|(az,bz,ka,H,T,m)=>Fr a 63 [(0,.slice A l.length c),(1,vi (N:Int)),(2,.func (.func kf) #[] pf.toArray),(6,vi (bs:Int)),(7,vi az),(8,vi bz)]∧(az=(ka:Int))∧(bz=((ka+2*bs:Nat) : Int))∧(ka≤N)∧(Head key (2*bs) ka H)∧(Blocks key bs N ka T)∧(m=H++T)∧(m.length=l.length)∧Own w B0 3 1 encI A c m∧w0.grownBy w (Value.slice A l.length c).ownBlock) (fun (s:Int×Int×Nat×(List Int)×(List Int)×(List Int))=>match s with|(az,bz,ka,H,T,m)=>N-ka) (0,((2*bs:Nat) : Int),0,[],d,d) ?_ ?_
  ·exact ⟨hf.sub ⟨rfl,rfl,rfl,rfl,rfl,rfl,trivial⟩,rfl,(by omega),(Nat.zero_le _),Head.nil,hB,rfl,hdl,ho,hW⟩
  rintro ⟨az,bz,ka,H,T,m⟩ a w5 ⟨hf,haz,hbz,hka,hH,hT,hm,hml,ho,hW⟩
  refine wp_seq_k fun _ hK16=>?_
  refine Zs hf fun _ hK17=>?_
  refine Zm rfl<|Zm rfl<|Ze (Xax rfl rfl) ?_
  refine Zt hK17 fun a hf=>?_
  refine Xd hf rfl (fun hc18=>?_) (fun hc18=>?_)
  ·have hc18b:=hc18
   have hc18:=of_decide_eq_true hc18
   obtain ⟨S1,S2,T2,hT1,hT2,hT3,hT4⟩:=Xaz hT (by omega) (by omega)
   refine wp_skip ?_
   refine hK16 _ _ ?_
   refine wp_block ?_
   refine Zs hf fun _ hK19=>?_
   refine Zm rfl<|Zm rfl<|Zm rfl<|Zm rfl<|Ze (Xp rfl rfl (by omega) (by omega)) ?_
   refine Zm rfl<|Zm rfl ?_
   refine Zf (X1v (vs:=[.slice A l.length c,vi az,vi (az+(bs:Int)),vi bz,.func (.func kf) #[] pf.toArray]) rfl X1z (by have hq:=X8f _ _ B0 A c m ho az (az+(bs:Int)) bz kf pf Ff cf key n (fun x y w' a1 a2 a3 a4 hg'=>hcmp x y w' a1 a2 a3 a4 (gtr hW hg')) hck H S1 S2 T2 ka (ka+bs) (ka+2*bs) (by rw [hm,hT1]) haz (by omega) hbz (Xde hH.len hT2 hT3 (by omega) (by omega) (by omega)) (by rw [hT2.len];omega) (by rw [hT3.len];omega) (by omega) (Nat.le_refl _);rw [hml] at hq;exact hq)) ?_;rintro _ w6 ⟨M3,hM3,hnew,hg⟩
   have hown:=ho
   replace hW:=gtr hW hg
   clear hown hg;clear ho;have ho:=hnew;clear hnew
   refine Zt hK19 fun a hf=>?_
   refine Zs hf fun _ hK20=>?_
   refine Zm rfl<|Za rfl ?_
   refine Zt hK20 fun a hf=>?_
   refine Zr hf ?_
   refine Zm rfl<|Zm rfl<|Ze (X5q (m:=2) (k:=bs) rfl rfl (by omega))<|Ze (Xp rfl rfl (by omega) (by omega))<|Za rfl ?_
   refine Zn fun a hf=>?_
   refine Xh ?_
   refine Xg ?_
   exact ⟨(bz,(bz+((2*bs:Nat) : Int)),ka+2*bs,(H++M3),T2,(H++(M3++T2))),⟨hf.sub ⟨rfl,rfl,rfl,rfl,rfl,rfl,trivial⟩,hbz,(by omega),(by omega),(hH.snoc (hT2.merge (by omega) (by omega) hT3 hM3)),hT4,(by rw [List.append_assoc]),(by rw [← hml,hm,hT1];simp only [List.length_append,hM3.len];omega),ho,hW⟩,(by first|omega|(dsimp only;omega))⟩
  have hc18b:=hc18
  have hc18:=of_decide_eq_false hc18
  refine wp_exit ?_
  refine Xf ?_
  refine Xf ?_
  refine Xs ?_
  refine hK15 _ _ ?_
  refine wp_seq_k fun _ hK21=>?_
  refine Zs hf fun _ hK22=>?_
  refine Zm rfl<|Zm rfl<|Ze (Xp rfl rfl (by omega) (by omega))<|Za rfl ?_
  refine Zt hK22 fun a hf=>?_
  refine Zs hf fun _ hK23=>?_
  refine Zm rfl<|Zm rfl<|Ze (X06 rfl rfl) ?_
  refine Zt hK23 fun a hf=>?_
  refine Xd hf rfl (fun hc24=>?_) (fun hc24=>?_)
  ·have hc24b:=hc24
   have hc24:=of_decide_eq_true hc24
   obtain ⟨S1,S2,hT1,hT2,hT3⟩:=Xa3 hT (by omega) (by omega) (by omega)
   refine Zr hf ?_
   refine Zm rfl<|Zm rfl<|Zm rfl<|Zm rfl<|Zm rfl ?_
   refine Zf (X1v (vs:=[.slice A l.length c,vi az,vi (az+(bs:Int)),vi (N:Int),.func (.func kf) #[] pf.toArray]) rfl X1z (by have hq:=X8f _ _ B0 A c m ho az (az+(bs:Int)) (N:Int) kf pf Ff cf key n (fun x y w' a1 a2 a3 a4 hg'=>hcmp x y w' a1 a2 a3 a4 (gtr hW hg')) hck H S1 S2 [] ka (ka+bs) N (by rw [hm,hT1]) haz (by omega) rfl (Xde hH.len hT2 hT3 (by omega) (by omega) (by omega)) (by rw [hT2.len];omega) (by rw [hT3.len];omega) (by omega) (Nat.le_refl _);rw [hml] at hq;exact hq)) ?_;rintro _ w7 ⟨M4,hM4,hnew,hg⟩
   have hown:=ho
   replace hW:=gtr hW hg
   clear hown hg;clear ho;have ho:=hnew;clear hnew
   refine Zt hK21 fun a hf=>?_
   refine Zr hf ?_
   refine Zm rfl<|Ze (X5q (m:=bs) (k:=2) rfl rfl (by omega))<|Za rfl ?_
   refine Zn fun a hf=>?_
   refine Xh ?_
   refine Xg ?_
   exact ⟨(bs*2,(H++(M4++[]))),⟨hf.sub ⟨rfl,rfl,rfl,rfl,trivial⟩,(by omega),(Xc4 hH hT2 hT3 hM4 (by omega) (by omega) (by omega)),(by rw [← hml,hm,hT1];simp only [List.length_append,hM4.len,List.length_nil];omega),ho,hW⟩,(by first|omega|(dsimp only;omega))⟩
  have hc24b:=hc24
  have hc24:=of_decide_eq_false hc24
  refine wp_skip ?_
  refine hK21 _ _ ?_
  refine Zr hf ?_
  refine Zm rfl<|Ze (X5q (m:=bs) (k:=2) rfl rfl (by omega))<|Za rfl ?_
  refine Zn fun a hf=>?_
  refine Xh ?_
  refine Xg ?_
  exact ⟨(bs*2,m),⟨hf.sub ⟨rfl,rfl,rfl,rfl,trivial⟩,(by omega),(by rw [hm];exact Xcg hH hT (by omega) hka (by omega)),hml,ho,hW⟩,(by first|omega|(dsimp only;omega))⟩
 have hc13b:=hc13
 have hc13:=of_decide_eq_false hc13
 refine wp_exit ?_
 refine Xf ?_
 refine Xf ?_
 refine Xs ?_
 refine X1r hf (X2i rfl) ?_
 rw [Xa8 hB (by omega)] at ho
 exact ⟨ho,hW⟩
theorem Xne(w0:World)(B0:Nat)(A:Option Addr)(c:Nat)(l:List Int)(ho:Own w0 B0 3 1 encI A c l)(kf:FuncId)(pf:List Value)(Ff:FuncF Tryz.prog kf)(cf:Int→Int→Int)(key:Int→Int)(n:Int)(hcmp:∀ x y w,0≤x→x<n→0≤y→y<n→w0.grownBy w (Value.slice A l.length c).ownBlock→Ret Tryz.prog kf ([vi x,vi y]++pf) w (fun v w'=>v=vi (cf x y)∧Below w.heap.size w w'))(hck:Cmp key cf n)(N:Nat)(hl:l=ran 0 N)(hn:(N:Int)≤n)(hln:l.length≤1000000000) : Ret Tryz.prog 42 [.slice A l.length c,.func (.func kf) #[] pf.toArray] w0 (fun v w=>Own w B0 3 1 encI A c (srtF key N)∧w0.grownBy w (Value.slice A l.length c).ownBlock):=by
 have hll:l.length=N:=by rw [hl,X24];omega
 refine enter Tryz.func42 rfl 9 rfl rfl ?_
 intro a hf
 have hW:w0.grownBy w0 (Value.slice A l.length c).ownBlock:=World.grownBy.refl _ _
 refine Zr hf ?_
 refine Zm rfl<|Zm rfl<|Ze (X0q rfl Xj)<|Zm rfl ?_
 refine Zf (Vc (Xmx _ B0 A c l ho (l.length:Int) kf pf Ff cf key n (fun x y w' a1 a2 a3 a4 hg'=>hcmp x y w' a1 a2 a3 a4 (gtr hW hg')) hck N hl (by rw [hll]) hn hln) Xh4) ?_;rintro _ w1 ⟨hnew,hg⟩
 have hown:=ho
 replace hW:=gtr hW hg
 clear hown hg;clear ho;have ho:=hnew;clear hnew
 refine Zn fun a hf=>?_
 refine X1r hf (X2i rfl) ?_
 exact ⟨ho,hW⟩
end Go.Proofs.YtgkoieoaamkjhaaGreat
namespace Go.Proofs.YtgkoieoaamkjhaaGreat
open Go.RowKit
def cfun(k1 k2:Int→Int)(x y:Int) : Int:=if (k1 x != k1 y)=true then k1 x-k1 y else k2 x-k2 y
def keyS(s:List Int)(i:Int) : Int:=s.getD i.toNat 0
def gateAt(gs:List Gt)(i:Int) : Gt:=gs.getD i.toNat gZ
def sortG(key:Int→Int)(gs:List Gt) : List Gt:=(srtF key gs.length).map (gateAt gs)
def sortC(key:Int→Int)(c:Cx) : Cx:=⟨c.n,sortG key c.gs⟩
def scO(c:Cx)(s:List Int) : Option Cx:=if cOk c=true∧(schedS c.gs s).1=0 then some (sortC (keyS s) c) else none
theorem Xdn{s:List Int}{n:Int} : Cmp (keyS s) (cfun (keyS s) (fun _=>0)) n:=by
 intro x y _ _ _ _
 unfold cfun
 dsimp only
 split
 ·omega
 ·rename_i h
  have:keyS s x=keyS s y:=by simpa using h
  omega
theorem X6e{f:Nat→Int} : ∀ (n i:Nat),(firstF f n i).1=0→∀ j,i≤j→j<i+n→f j=0
 | 0,i,_,j,h1,h2=>by omega
 | n+1,i,h,j,h1,h2=>by
  rw [firstF] at h
  split at h
  ·rename_i h0
   by_cases hj:j=i
   ·rw [hj];exact h0
   ·exact X6e n (i+1) h j (by omega) (by omega)
  ·rename_i h0;exact absurd h h0
theorem X31{gs:List Gt}{s:List Int}(h:(schedS gs s).1=0) : s.length=gs.length∧∀ i,i<gs.length→0≤s.getD i 0∧s.getD i 0≤400:=by
 unfold schedS at h
 split at h
 ·rename_i hl
  refine ⟨hl,fun i hi=>?_⟩
  have h0:=X6e _ _ h i (Nat.zero_le _) (by omega)
  rw [faultS,faultG] at h0
  split at h0
  ·split at h0
   ·rename_i hx;omega
   ·omega
  ·split at h0
   ·rename_i hr
    have:=Xq.1 hr
    omega
   ·omega
 ·cases h
theorem X8p{gs:List Gt}{s:List Int}(h:(schedS gs s).1=0)(x:Int)(h1:0≤x)(h2:x<(gs.length:Int)) : 0≤keyS s x∧keyS s x≤1000000∧(0:Int)≤0∧(0:Int)≤1000000:=by
 have:=(X31 h).2 x.toNat (by omega)
 unfold keyS;omega
theorem X67{c:Cx}{s:List Int}(h:cOk c=false∨(schedS c.gs s).1≠0) : scO c s=none:=by
 rw [scO,if_neg];rintro ⟨h1,h2⟩
 rcases h with h|h
 ·rw [h] at h1;cases h1
 ·exact h h2
theorem X97{c:Cx}{s:List Int}(h1:cOk c=true)(h2:(schedS c.gs s).1=0) : scO c s=some (sortC (keyS s) c):=by rw [scO,if_pos ⟨h1,h2⟩]
theorem X71{c:Cx}{s:List Int} : (implC c s).1=(if cOk c=true then (schedS c.gs s).1 else 0)∧(implC c s).2.2=cOk c:=by
 rw [Xdt,specC]
 split
 ·rename_i h;exact ⟨rfl,h.symm⟩
 ·rename_i h;exact ⟨rfl,by simpa using h⟩
theorem Xd2{key:Int→Int}{gs:List Gt} : (sortG key gs).length=gs.length:=by rw [sortG,List.length_map,X17]
theorem Xaa{key:Int→Int}{gs g:List Gt}{k:Nat}{x:Int}(hk:k<gs.length)(hx:x=(srtF key gs.length).getD k 0)(hg:g=((srtF key gs.length).take k).map (gateAt gs)) : g++[gs.getD x.toNat gZ]=((srtF key gs.length).take (k+1)).map (gateAt gs):=by
 rw [X1g (by rw [X17];exact hk),List.map_append,← hg,hx];rfl
section
variable {β : Type} {f : Int → β} {S : List Int} {q : List β} {j : Nat} {x : Int}
structure Hole (f:Int→β) (S:List Int) (q:List β) (j:Nat) : Prop where
 hj:j≤S.length
 hl:q.length=S.length+1
 lo:q.take j=(S.take j).map f
 up:q.drop (j+1)=(S.drop j).map f
theorem X5o{y:β}(hq:q=S.map f) : Hole f S (q++[y]) S.length:=by
 subst hq
 refine ⟨Nat.le_refl _,by simp,?_,?_⟩
 ·rw [List.take_append_of_le_length (by simp),List.take_of_length_le (by simp),List.take_of_length_le (Nat.le_refl _)]
 ·rw [List.drop_eq_nil_of_le (by simp),List.drop_eq_nil_of_le (Nat.le_refl _)];rfl
theorem Hole.get(h:Hole f S q j)(h0:0<j) : q[j-1]? = some (f (S.getD (j-1) 0)):=by
 have h1:=h.hj
 have e:(q.take j)[j-1]? = ((S.take j).map f)[j-1]?:=by rw [h.lo]
 rw [List.getElem?_take_of_lt (by omega),List.getElem?_map,List.getElem?_take_of_lt (by omega)] at e
 rw [e,X10 (by omega)];rfl
theorem Hole.step(h:Hole f S q j)(h0:0<j) : Hole f S (q.set j (f (S.getD (j-1) 0))) (j-1):=by
 have h1:=h.hj
 have h2:=h.hl
 refine ⟨by omega,by simpa using h.hl,?_,?_⟩
 ·rw [List.take_set_of_le (by omega)]
  have:=congrArg (List.take (j-1)) h.lo
  rw [List.take_take,← List.map_take,List.take_take,show min (j-1) j=j-1 from by omega] at this
  exact this
 ·rw [show j-1+1=j from by omega,X1b (l:=S) (by omega),show j-1+1=j from by omega,List.map_cons,← h.up]
  rw [List.drop_eq_getElem_cons (by simpa using by omega),List.getElem_set_self,List.drop_set_of_lt (by omega)]
theorem Hole.fill(h:Hole f S q j) : q.set j (f x)=(S.take j++x::S.drop j).map f:=by
 have h1:=h.hj
 have h2:=h.hl
 rw [List.map_append,List.map_cons,← h.lo,← h.up,List.set_eq_take_append_cons_drop,if_pos (by omega)]
end
structure InsR (key:Int→Int) (k:Nat) (q:List Int) (gs:List Gt) (gl:List Gt) (j:Nat) : Prop where
 hq:Hole key (srtF key k) q j
 hg:Hole (gateAt gs) (srtF key k) gl j
 up:∀ y ∈ (srtF key k).drop j,key (k:Int)<key y
theorem Xak{key:Int→Int}{k:Nat}{q:List Int}{gs gl:List Gt}{x:Int}{u:Gt}(hq:q=(srtF key k).map key)(hg:gl=(srtF key k).map (gateAt gs)) : InsR key k (q++[x]) gs (gl++[u]) k:=by
 have h1:=X5o (f:=key) (S:=srtF key k) (y:=x) hq
 have h2:=X5o (f:=gateAt gs) (S:=srtF key k) (y:=u) hg
 rw [X17] at h1 h2
 exact ⟨h1,h2,fun y hy=>by rw [List.drop_eq_nil_of_le (by rw [X17];exact Nat.le_refl _)] at hy;cases hy⟩
theorem InsR.next{key:Int→Int}{k:Nat}{q:List Int}{gs gl:List Gt}{j:Nat}(h:InsR key k q gs gl j)(h0:0<j)(hlt:key (k:Int)<key ((srtF key k).getD (j-1) 0)) :
  InsR key k (q.set j (key ((srtF key k).getD (j-1) 0))) gs (gl.set j (gateAt gs ((srtF key k).getD (j-1) 0))) (j-1):=by
 have h1:=h.hq.hj
 refine ⟨h.hq.step h0,h.hg.step h0,fun y hy=>?_⟩
 rw [X1b (by omega),show j-1+1=j from by omega] at hy
 rcases List.mem_cons.1 hy with rfl|hy
 ·exact hlt
 ·exact h.up y hy
theorem InsR.done{key:Int→Int}{k:Nat}{q:List Int}{gs gl:List Gt}{j:Nat}(h:InsR key k q gs gl j)(hd:0<j→key ((srtF key k).getD (j-1) 0)≤key (k:Int)) :
  q.set j (key (k:Int))=(srtF key (k+1)).map key∧gl.set j (gateAt gs (k:Int))=(srtF key (k+1)).map (gateAt gs):=by
 have h1:=h.hq.hj
 rw [X17] at h1
 have hs:=Xcv (key:=key) h1 h.up hd
 exact ⟨by rw [h.hq.fill,hs],by rw [h.hg.fill,hs]⟩
end Go.Proofs.YtgkoieoaamkjhaaGreat
set_option maxRecDepth 4000
namespace Go.Proofs.YtgkoieoaamkjhaaGreat
open Go.RowKit
theorem F71(w0:World)(bl:Nat)(B:Option Addr)(cs:Nat)(s:List Int)(hBl:Blk w0 bl 25 [.slice B s.length cs])(hr_s:Rd w0 w0.heap.size 3 encI B s)(x:Int)(hx:0≤x)(hxs:x<(s.length:Int)) : Ret Tryz.prog 24 [vi x,.pointer (some ⟨bl,0,none⟩)] w0 (fun v w=>v=.tuple #[vi (keyS s x),vi 0]∧Below w0.heap.size w0 w):=by
 refine enter Tryz.func24 rfl 9 rfl rfl ?_
 intro a hf
 have hW:Below w0.heap.size w0 w0:=Below.refl _ _
 refine Zs hf fun _ hK2=>?_
 refine Za rfl<|Za rfl ?_
 refine Zt hK2 fun a hf=>?_
 refine Zs hf fun _ hK3=>?_
 refine Ze (X0 rfl Xb9 (hBl.at 0))<|Zm rfl ?_
 refine Zi (k:=x.toNat) (u:=(s.getD x.toNat 0)) (enc:=encI) (l:=s) trivial rfl rfl Xj X0a X7 (hr_s.below' hW) (X10 (by omega)) (by omega) ?_;intro p5 hat4
 refine Ze (X0 rfl X3 hat4)<|Za rfl<|Za rfl ?_
 refine Zt hK3 fun a hf=>?_
 refine wp_ret (X5 hf (X0z hf rfl rfl rfl) ?_)
 exact ⟨rfl,hW⟩
end Go.Proofs.YtgkoieoaamkjhaaGreat
set_option maxRecDepth 4000
namespace Go.Proofs.YtgkoieoaamkjhaaGreat
open Go.RowKit
theorem Xm8(w0:World)(bk:Nat)(kf:FuncId)(pf:List Value)(Ff:FuncF Tryz.prog kf)(hBk:Blk w0 bk 51 [.func (.func kf) #[] pf.toArray])(k1 k2:Int→Int)(n:Int)(hkey:∀ x w,0≤x→x<n→Below w0.heap.size w0 w→Ret Tryz.prog kf ([vi x]++pf) w (fun v w'=>v=.tuple #[vi (k1 x),vi (k2 x)]∧Below w.heap.size w w'))(hkb:∀ x,0≤x→x<n→0≤k1 x∧k1 x≤1000000∧0≤k2 x∧k2 x≤1000000)(x y:Int)(hx0:0≤x)(hxn:x<n)(hy0:0≤y)(hyn:y<n) : Ret Tryz.prog 43 [vi x,vi y,.pointer (some ⟨bk,0,none⟩)] w0 (fun v w=>v=vi (cfun k1 k2 x y)∧Below w0.heap.size w0 w):=by
 have hbx:=hkb x hx0 hxn
 have hby:=hkb y hy0 hyn
 refine enter Tryz.func43 rfl 31 rfl rfl ?_
 intro a hf
 have hW:Below w0.heap.size w0 w0:=Below.refl _ _
 refine Zs hf fun _ hK1=>?_
 refine Za rfl ?_
 refine Zt hK1 fun a hf=>?_
 refine Zs hf fun _ hK2=>?_
 refine Ze (X0 rfl Xe5 (hBk.at 0))<|Zm rfl ?_
 refine Zf (X29 (cs:=pf) (vs:=[vi x]) rfl rfl Ff (hkey x _ hx0 hxn hW)) ?_;rintro _ w1 ⟨rfl,hE⟩
 replace hBk:=hBk.below hE
 replace hW:=btr hW hE
 refine Zm rfl<|Ze (X9 (vs:=[vi (k1 x),vi (k2 x)]) rfl rfl)<|Ze (X9 (vs:=[vi (k1 x),vi (k2 x)]) rfl rfl)<|Za rfl<|Za rfl ?_
 refine Zt hK2 fun a hf=>?_
 refine Zs hf fun _ hK3=>?_
 refine Ze (X0 rfl Xe5 (hBk.at 0))<|Zm rfl ?_
 refine Zf (X29 (cs:=pf) (vs:=[vi y]) rfl rfl Ff (hkey y _ hy0 hyn hW)) ?_;rintro _ w2 ⟨rfl,hE⟩
 replace hBk:=hBk.below hE
 replace hW:=btr hW hE
 refine Zm rfl<|Ze (X9 (vs:=[vi (k1 y),vi (k2 y)]) rfl rfl)<|Ze (X9 (vs:=[vi (k1 y),vi (k2 y)]) rfl rfl)<|Za rfl<|Za rfl ?_
 refine Zt hK3 fun a hf=>?_
 refine wp_seq_k fun _ hK4=>?_
 refine Zs hf fun _ hK5=>?_
 refine Zm rfl<|Zm rfl<|Ze (X1e rfl rfl) ?_
 refine Zt hK5 fun a hf=>?_
 refine Xd hf rfl (fun hc6=>?_) (fun hc6=>?_)
 ·have hc6b:=hc6
  have h24:=hc6
  refine Zs hf fun _ hK7=>?_
  refine Zm rfl<|Zm rfl<|Ze (X0c rfl rfl (by omega) (by omega))<|Za rfl ?_
  refine Zt hK7 fun a hf=>?_
  refine wp_ret ?_
  refine X4 ?_
  refine X5 hf (Xl hf rfl rfl) ?_
  exact ⟨by rw [cfun,if_pos h24],hW⟩
 have hc6b:=hc6
 have h24:=hc6
 refine wp_skip ?_
 refine hK4 _ _ ?_
 refine Zs hf fun _ hK8=>?_
 refine Zm rfl<|Zm rfl<|Ze (X0c rfl rfl (by omega) (by omega))<|Za rfl ?_
 refine Zt hK8 fun a hf=>?_
 refine wp_ret (X5 hf (Xl hf rfl rfl) ?_)
 exact ⟨by rw [cfun,if_neg (by rw [h24];simp)],hW⟩
end Go.Proofs.YtgkoieoaamkjhaaGreat
