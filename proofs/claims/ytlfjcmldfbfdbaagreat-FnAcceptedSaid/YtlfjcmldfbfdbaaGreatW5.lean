/-
  What is proved: for all drawn certificates, an accepted one leads to a circuit with the same operator up to a phase, and joined certificates remain accepted: the law returns true at every input and leaves its arguments as they were. Conditions: none.
-/
import Derived.Test.YtlfjcmldfbfdbaaGreatW4
import Derived.Test.YtlfjcmldfbfdbaaGreatW3
set_option linter.unusedVariables false
set_option linter.unusedSimpArgs false
set_option maxHeartbeats 1000000
set_option maxRecDepth 4000
namespace Go.Proofs.YtlfjcmldfbfdbaaGreat
open Go.RowKit
theorem Xja(w0:World)(x:Int)(y:Int) : Ret Tryz.prog 119 [vi x,vi y] w0 (fun v w=>v=vi (min x y)∧Below w0.heap.size w0 w):=by
 refine enter Tryz.func119 rfl 10 rfl rfl ?_
 intro a hf
 have hW:Below w0.heap.size w0 w0:=Below.refl _ _
 refine Zs hf fun _ hK1=>?_
 refine Za rfl ?_
 refine Zt hK1 fun a hf=>?_
 refine wp_seq_k fun _ hK2=>?_
 refine Zs hf fun _ hK3=>?_
 refine Zm rfl<|Zm rfl<|Ze (X1k rfl rfl) ?_
 refine Zt hK3 fun a hf=>?_
 refine Xi hf rfl (fun hc4=>?_) (fun hc4=>?_)
 ·have hc4b:=hc4
  have hc4:=of_decide_eq_true hc4
  refine Zs hf fun _ hK5=>?_
  refine Zm rfl<|Za rfl ?_
  refine Zt hK5 fun a hf=>?_
  refine wp_ret ?_
  refine X8 ?_
  refine X2 hf (Xo hf rfl rfl) ?_
  exact ⟨by rw [Int.min_eq_left (by omega)],hW⟩
 have hc4b:=hc4
 have hc4:=of_decide_eq_false hc4
 refine wp_skip ?_
 refine hK2 _ _ ?_
 refine Zs hf fun _ hK6=>?_
 refine Zm rfl<|Za rfl ?_
 refine Zt hK6 fun a hf=>?_
 refine wp_ret (X2 hf (Xo hf rfl rfl) ?_)
 exact ⟨by rw [Int.min_eq_right (by omega)],hW⟩
theorem Xjh(w0:World)(x:Gt) : Ret Tryz.prog 154 [.agg #[vi x.k,vi x.a,vi x.b]] w0 (fun v w=>v=.tuple #[gV (bkG x),vi (bkN x)]∧Below w0.heap.size w0 w):=by
 refine enter Tryz.func154 rfl 24 rfl rfl ?_
 intro a hf
 have hW:Below w0.heap.size w0 w0:=Below.refl _ _
 refine Zs hf fun _ hK1=>?_
 refine Zf (X0p (zs:=[vi x.k,vi x.a,vi x.b]) rfl rfl) ?_;rintro _ w1 ⟨b2,rfl,hl2,hE,hB2⟩
 have hlo2:=Nat.le_trans hW.size hl2
 replace hW:=btr hW hE
 refine Zf (Xa (zs:=[vi 0,vi 0,vi 0]) X2l rfl) ?_;rintro _ w2 ⟨b3,rfl,hl3,hE,hB3⟩
 have hne2_3:b2≠b3:=by have:=hB2.lt;omega
 have hlo3:=Nat.le_trans hW.size hl3
 replace hB2:=hB2.below hE
 replace hW:=btr hW hE
 refine Za rfl ?_
 refine Zt hK1 fun a hf=>?_
 refine wp_seq_k fun _ hK4=>?_
 refine Zs hf fun _ hK5=>?_
 refine Ze (Vd rfl X0g 0)<|Ze (X0 rfl X5 (hB2.at 0)) ?_
 refine Zt hK5 fun a hf=>?_
 refine wp_block ?_
 refine wp_seq_k fun _ hK6=>?_
 refine Zs hf fun _ hK7=>?_
 refine Ze (X0u rfl rfl)<|Za rfl ?_
 refine Zt hK7 fun a hf=>?_
 refine Xi hf rfl (fun hc8=>?_) (fun hc8=>?_)
 ·have hc8b:=hc8
  have ehc8:=eq_of_beq hc8
  refine wp_skip ?_
  refine hK6 _ _ ?_
  refine Xbx hf (X1 rfl hc8b) ?_
  refine Zr hf ?_
  refine Ze (Vd rfl X0g 0)<|Ze (X0 rfl X5 (hB2.at 0))<|Ze (Xv rfl rfl (by omega) (by omega))<|Ze (Vd rfl X0g 0) ?_
  refine Zo (Vu (vs:=[vi (x.k+1)]) (l':=[vi (x.k+1),vi x.a,vi x.b]) rfl rfl X2c hB2) ?_;rintro _ w3 ⟨ho,hb⟩
  have hold:=hB2
  replace hB3:=hB3.only ho (by omega)
  replace hW:=Below.only hW ho hlo2
  clear hold
  have hB2:=hb
  clear hb ho
  refine Zn fun a hf=>?_
  refine Xf ?_
  refine hK4 _ _ ?_
  refine Zs hf fun _ hK9=>?_
  refine Ze (Vn X08 hB2) ?_
  refine Zo (Vw [vi (x.k+1),vi x.a,vi x.b] X0a hB3) ?_;rintro _ w4 ⟨ho,hb⟩
  have hold:=hB3
  replace hB2:=hB2.only ho (by omega)
  replace hW:=Below.only hW ho hlo3
  clear hold
  have hB3:=hb
  clear hb ho
  refine Za rfl ?_
  refine Zt hK9 fun a hf=>?_
  refine wp_ret (X2 hf (X0r hf rfl (ResV.cellN (l:=[vi (x.k+1),vi x.a,vi x.b]) rfl X08 (hB3.at 0) rfl) rfl) ?_)
  exact ⟨by simp [bkG,bkN, *],hW⟩
 have hc8b:=hc8
 have ehc8:=ne_of_beq_false hc8
 refine Zr hf ?_
 refine Ze (X0u rfl rfl)<|Za rfl ?_
 refine Zt hK6 fun a hf=>?_
 refine Xi hf rfl (fun hc10=>?_) (fun hc10=>?_)
 ·have hc10b:=hc10
  have ehc10:=eq_of_beq hc10
  refine Zr hf ?_
  refine Ze (Vd rfl X0g 0)<|Ze (X0 rfl X5 (hB2.at 0))<|Ze (Xv rfl rfl (by omega) (by omega))<|Ze (Vd rfl X0g 0) ?_
  refine Zo (Vu (vs:=[vi (x.k+1)]) (l':=[vi (x.k+1),vi x.a,vi x.b]) rfl rfl X2c hB2) ?_;rintro _ w5 ⟨ho,hb⟩
  have hold:=hB2
  replace hB3:=hB3.only ho (by omega)
  replace hW:=Below.only hW ho hlo2
  clear hold
  have hB2:=hb
  clear hb ho
  refine Zn fun a hf=>?_
  refine Xf ?_
  refine hK4 _ _ ?_
  refine Zs hf fun _ hK11=>?_
  refine Ze (Vn X08 hB2) ?_
  refine Zo (Vw [vi (x.k+1),vi x.a,vi x.b] X0a hB3) ?_;rintro _ w6 ⟨ho,hb⟩
  have hold:=hB3
  replace hB2:=hB2.only ho (by omega)
  replace hW:=Below.only hW ho hlo3
  clear hold
  have hB3:=hb
  clear hb ho
  refine Za rfl ?_
  refine Zt hK11 fun a hf=>?_
  refine wp_ret (X2 hf (X0r hf rfl (ResV.cellN (l:=[vi (x.k+1),vi x.a,vi x.b]) rfl X08 (hB3.at 0) rfl) rfl) ?_)
  exact ⟨by simp [bkG,bkN, *],hW⟩
 have hc10b:=hc10
 have ehc10:=ne_of_beq_false hc10
 refine wp_seq_k fun _ hK12=>?_
 refine Zs hf fun _ hK13=>?_
 refine Ze (X0u rfl rfl)<|Za rfl ?_
 refine Zt hK13 fun a hf=>?_
 refine Xi hf rfl (fun hc14=>?_) (fun hc14=>?_)
 ·have hc14b:=hc14
  have ehc14:=eq_of_beq hc14
  refine wp_skip ?_
  refine hK12 _ _ ?_
  refine Xbx hf (X1 rfl hc14b) ?_
  refine Zr hf ?_
  refine Ze (Vd rfl X0g 0)<|Ze (X0 rfl X5 (hB2.at 0))<|Ze (X1d rfl rfl (by omega) (by omega))<|Ze (Vd rfl X0g 0) ?_
  refine Zo (Vu (vs:=[vi (x.k-1)]) (l':=[vi (x.k-1),vi x.a,vi x.b]) rfl rfl X2c hB2) ?_;rintro _ w7 ⟨ho,hb⟩
  have hold:=hB2
  replace hB3:=hB3.only ho (by omega)
  replace hW:=Below.only hW ho hlo2
  clear hold
  have hB2:=hb
  clear hb ho
  refine Zn fun a hf=>?_
  refine Xf ?_
  refine hK4 _ _ ?_
  refine Zs hf fun _ hK15=>?_
  refine Ze (Vn X08 hB2) ?_
  refine Zo (Vw [vi (x.k-1),vi x.a,vi x.b] X0a hB3) ?_;rintro _ w8 ⟨ho,hb⟩
  have hold:=hB3
  replace hB2:=hB2.only ho (by omega)
  replace hW:=Below.only hW ho hlo3
  clear hold
  have hB3:=hb
  clear hb ho
  refine Za rfl ?_
  refine Zt hK15 fun a hf=>?_
  refine wp_ret (X2 hf (X0r hf rfl (ResV.cellN (l:=[vi (x.k-1),vi x.a,vi x.b]) rfl X08 (hB3.at 0) rfl) rfl) ?_)
  exact ⟨by simp [bkG,bkN, *],hW⟩
 have hc14b:=hc14
 have ehc14:=ne_of_beq_false hc14
 refine Zr hf ?_
 refine Ze (X0u rfl rfl)<|Za rfl ?_
 refine Zt hK12 fun a hf=>?_
 refine Xi hf rfl (fun hc16=>?_) (fun hc16=>?_)
 ·have hc16b:=hc16
  have ehc16:=eq_of_beq hc16
  refine Zr hf ?_
  refine Ze (Vd rfl X0g 0)<|Ze (X0 rfl X5 (hB2.at 0))<|Ze (X1d rfl rfl (by omega) (by omega))<|Ze (Vd rfl X0g 0) ?_
  refine Zo (Vu (vs:=[vi (x.k-1)]) (l':=[vi (x.k-1),vi x.a,vi x.b]) rfl rfl X2c hB2) ?_;rintro _ w9 ⟨ho,hb⟩
  have hold:=hB2
  replace hB3:=hB3.only ho (by omega)
  replace hW:=Below.only hW ho hlo2
  clear hold
  have hB2:=hb
  clear hb ho
  refine Zn fun a hf=>?_
  refine Xf ?_
  refine hK4 _ _ ?_
  refine Zs hf fun _ hK17=>?_
  refine Ze (Vn X08 hB2) ?_
  refine Zo (Vw [vi (x.k-1),vi x.a,vi x.b] X0a hB3) ?_;rintro _ w10 ⟨ho,hb⟩
  have hold:=hB3
  replace hB2:=hB2.only ho (by omega)
  replace hW:=Below.only hW ho hlo3
  clear hold
  have hB3:=hb
  clear hb ho
  refine Za rfl ?_
  refine Zt hK17 fun a hf=>?_
  refine wp_ret (X2 hf (X0r hf rfl (ResV.cellN (l:=[vi (x.k-1),vi x.a,vi x.b]) rfl X08 (hB3.at 0) rfl) rfl) ?_)
  exact ⟨by simp [bkG,bkN, *],hW⟩
 have hc16b:=hc16
 have ehc16:=ne_of_beq_false hc16
 refine Zs hf fun _ hK18=>?_
 refine Ze (X0u rfl rfl)<|Za rfl ?_
 refine Zt hK18 fun a hf=>?_
 refine Xi hf rfl (fun hc19=>?_) (fun hc19=>?_)
 ·have hc19b:=hc19
  have ehc19:=eq_of_beq hc19
  refine Zs hf fun _ hK20=>?_
  refine Ze (Vn X08 hB2) ?_
  refine Zo (Vw [vi x.k,vi x.a,vi x.b] X0a hB3) ?_;rintro _ w11 ⟨ho,hb⟩
  have hold:=hB3
  replace hB2:=hB2.only ho (by omega)
  replace hW:=Below.only hW ho hlo3
  clear hold
  have hB3:=hb
  clear hb ho
  refine Za rfl ?_
  refine Zt hK20 fun a hf=>?_
  refine wp_ret ?_
  refine Xy ?_
  refine X8 ?_
  refine X2 hf (X0r hf rfl (ResV.cellN (l:=[vi x.k,vi x.a,vi x.b]) rfl X08 (hB3.at 0) rfl) rfl) ?_
  exact ⟨by simp [bkG,bkN, *],hW⟩
 have hc19b:=hc19
 have ehc19:=ne_of_beq_false hc19
 refine wp_skip ?_
 refine Xf ?_
 refine hK4 _ _ ?_
 refine Zs hf fun _ hK21=>?_
 refine Ze (Vn X08 hB2) ?_
 refine Zo (Vw [vi x.k,vi x.a,vi x.b] X0a hB3) ?_;rintro _ w12 ⟨ho,hb⟩
 have hold:=hB3
 replace hB2:=hB2.only ho (by omega)
 replace hW:=Below.only hW ho hlo3
 clear hold
 have hB3:=hb
 clear hb ho
 refine Za rfl ?_
 refine Zt hK21 fun a hf=>?_
 refine wp_ret (X2 hf (X0r hf rfl (ResV.cellN (l:=[vi x.k,vi x.a,vi x.b]) rfl X08 (hB3.at 0) rfl) rfl) ?_)
 exact ⟨by simp [bkG,bkN, *],hW⟩
theorem Xnc(w0:World)(bV:Nat){Xcd:TypeId}(Acd:Option Addr)(ccd:Nat)(code:List Int)(hr_code:Rd w0 w0.heap.size Xcd encU Acd code)(hcd:∀ x ∈ code,0≤x∧x≤255)(hav:AwayR code Acd bV)(t:Nat)(sd:Int)(hBV:Blk w0 bV 80 [.slice Acd code.length ccd,vi (t:Int),.int .u64 sd])(ht:t+84≤100000000) : Ret Tryz.prog 91 [.pointer (some ⟨bV,0,none⟩)] w0 (fun v w=>∃ (c:Cx) (A:Option Addr) (e:Nat) (t1:Nat) (s1:Int),v=.agg #[vi c.n,.slice A c.gs.length e]∧((1≤c.n∧c.n≤3)∧c.gs.length≤14)∧(t≤t1∧t1≤t+84)∧Own w w0.heap.size 24 3 encG A e c.gs∧Kept bV w0.heap.size w0 w∧Blk w bV 80 [.slice Acd code.length ccd,vi (t1:Int),.int .u64 s1]):=by
 have hltV:=hBV.lt
 refine enter Tryz.func91 rfl 88 rfl rfl ?_
 intro a hf
 have hW:Kept bV w0.heap.size w0 w0:=Kept.refl _ _ _
 refine Zs hf fun _ hK2=>?_
 refine Zf (Xa (zs:=[vi 0,.slice none 0 0]) X37 rfl) ?_;rintro _ w1 ⟨b4,rfl,hl4,hE,hB4⟩
 have hlo4:=Nat.le_trans hW.size hl4
 have haw1_4:=hr_code.away hl4
 replace hBV:=hBV.below hE
 replace hr_code:=hr_code.below hE
 replace hW:=ktr hW hE
 refine Zt hK2 fun a hf=>?_
 refine Zs hf fun _ hK5=>?_
 refine Zm rfl ?_
 refine Zf (Vc (X24 _ bV Acd ccd code hr_code.top hcd hav t sd hBV 3 (by omega)) X1f) ?_;rintro _ w2 ⟨xz13,tz13,sz13,rfl,hPz13,htz13,hK,hbn⟩
 obtain ⟨wm,hO,hm,hE⟩:=hK.mid;clear hm
 have hold:=hBV
 replace hB4:=hB4.only hO (Blk.ne hB4 hold rfl)
 replace hr_code:=hr_code.onlyA hO hav
 replace hW:=hW.self hO
 replace hB4:=hB4.below hE
 replace hr_code:=hr_code.below hE
 replace hW:=ktr hW hE
 clear hold hE hO hK;replace hBV:=hbn;clear hbn
 refine Ze (Xv rfl rfl (by omega) (by omega))<|Za rfl ?_
 refine Zt hK5 fun a hf=>?_
 refine Zs hf fun _ hK6=>?_
 refine Zm rfl<|Zm rfl ?_
 refine Zf (X4 (k:=14) (vs:=[vi 1,vi 1,vi 2,vi 3,vi 4,vi 5,vi 6,vi 7,vi 8,vi 9,vi 9,vi 10,vi 11,vi 12]) (zs:=[vi 1,vi 1,vi 2,vi 3,vi 4,vi 5,vi 6,vi 7,vi 8,vi 9,vi 9,vi 10,vi 11,vi 12]) rfl X16 X2d rfl rfl) ?_;rintro _ w3 ⟨b7,rfl,hl7,hE,hB7⟩
 have hlo7:=Nat.le_trans hW.size hl7
 have haw1_7:=hr_code.away hl7
 replace hBV:=hBV.below hE
 replace hB4:=hB4.below hE
 replace hr_code:=hr_code.below hE
 replace hW:=ktr hW hE
 refine Zf (Vc (Xh2 _ bV Acd ccd code hr_code.top hcd hav tz13 sz13 hBV (1+xz13) 8 (some ⟨b7,0,none⟩) 14 ([1,1,2,3,4,5,6,7,8,9,9,10,11,12]) (Rd.of_blk hB7 rfl _ hB7.lt) (by omega) (by omega) (by simp) (by simp) (by omega)) X9r) ?_;rintro _ w4 ⟨cz18,Az18,ez18,tz18,sz18,rfl,hPz18,htz18,hoz18,hK,hbn⟩
 have hlv:=hW.size
 obtain ⟨wm,hO,hm,hE⟩:=hK.mid;clear hm
 have hold:=hBV
 replace hB4:=hB4.only hO (Blk.ne hB4 hold rfl)
 replace hB7:=hB7.only hO (Blk.ne hB7 hold rfl)
 replace hr_code:=hr_code.onlyA hO hav
 replace hW:=hW.self hO
 replace hB4:=hB4.below hE
 replace hB7:=hB7.below hE
 replace hr_code:=hr_code.below hE
 replace hW:=ktr hW hE
 clear hold hE hO hK;replace hBV:=hbn;clear hbn
 replace hoz18:=hoz18.lower hlv;clear hlv
 refine Zf (Xa (zs:=[vi 0,.slice none 0 0]) X37 rfl) ?_;rintro _ w5 ⟨b11,rfl,hl11,hE,hB11⟩
 have hne4_11:b4≠b11:=by have:=hB4.lt;omega
 have hlo11:=Nat.le_trans hW.size hl11
 have haw1_11:=hr_code.away hl11
 replace hBV:=hBV.below hE
 replace hB4:=hB4.below hE
 replace hB7:=hB7.below hE
 replace hr_code:=hr_code.below hE
 replace hoz18:=hoz18.below hE
 replace hW:=ktr hW hE
 refine Zo (Vw [vi cz18.n,.slice Az18 cz18.gs.length ez18] X1h hB11) ?_;rintro _ w6 ⟨ho,hb⟩
 have hold:=hB11
 replace hBV:=hBV.only ho (Blk.ne hBV hold rfl)
 replace hB4:=hB4.only ho (by omega)
 replace hB7:=hB7.only ho (Blk.ne hB7 hold rfl)
 replace hr_code:=hr_code.only ho hlo11
 replace hoz18:=hoz18.onlyT ho hold rfl
 replace hW:=Kept.only hW ho hlo11
 clear hold
 have hB11:=hb
 clear hb ho
 refine Zt hK6 fun a hf=>?_
 refine wp_seq_k fun _ hK12=>?_
 refine Zs hf fun _ hK13=>?_
 refine Zm rfl ?_
 refine Zf (Vc (X24 _ bV Acd ccd code hr_code.top hcd hav tz18 sz18 hBV 4 (by omega)) X1f) ?_;rintro _ w7 ⟨xz20,tz20,sz20,rfl,hPz20,htz20,hK,hbn⟩
 obtain ⟨wm,hO,hm,hE⟩:=hK.mid;clear hm
 have hold:=hBV
 replace hB4:=hB4.only hO (Blk.ne hB4 hold rfl)
 replace hB11:=hB11.only hO (Blk.ne hB11 hold rfl)
 replace hr_code:=hr_code.onlyA hO hav
 replace hoz18:=hoz18.onlyT hO hold rfl
 replace hW:=hW.self hO
 replace hB4:=hB4.below hE
 replace hB11:=hB11.below hE
 replace hr_code:=hr_code.below hE
 replace hoz18:=hoz18.below hE
 replace hW:=ktr hW hE
 clear hold hE hO hK;replace hBV:=hbn;clear hbn
 refine Za rfl ?_
 refine Zt hK13 fun a hf=>?_
 refine wp_block ?_
 refine X0j (σ:=Int×(List Gt)×Nat×Int) (fun (s:Int×(List Gt)×Nat×Int) (a:Act) (w:World)=>match s with|(j,gs,t2,s2)=>∃ A14 c14,Fr a 88 [(0,.pointer (some ⟨bV,0,none⟩)),(2,.pointer (some ⟨b4,0,none⟩)),(3,vi (1+xz13)),(4,.pointer (some ⟨b11,0,none⟩)),(5,vi j)]∧(0≤j∧j≤3∧gs.length+2*j≤14)∧(t≤t2∧t2+10*j.toNat≤t+84)∧Blk w bV 80 [.slice Acd code.length ccd,vi (t2:Int),.int .u64 s2]∧Blk w b4 31 [vi 0,.slice none 0 0]∧Blk w b11 31 [vi cz18.n,.slice A14 gs.length c14]∧Rd w w0.heap.size Xcd encU Acd code∧Own w w0.heap.size 24 3 encG A14 c14 gs∧Kept bV w0.heap.size w0 w) (fun (s:Int×(List Gt)×Nat×Int)=>match s with|(j,gs,t2,s2)=>j.toNat) (xz20,cz18.gs,tz20,sz20) ?_ ?_
 ·exact ⟨Az18,ez18,hf.sub ⟨rfl,rfl,rfl,rfl,rfl,trivial⟩,(by omega),(by omega),hBV,hB4,hB11,hr_code,hoz18,hW⟩
 rintro ⟨j,gs,t2,s2⟩ a w8 ⟨A14,c14,hf,hj,htt,hBV,hB4,hB11,hr_code,ho14,hW⟩
 refine wp_seq_k fun _ hK15=>?_
 refine Zs hf fun _ hK16=>?_
 refine Zm rfl<|Ze (X3d rfl rfl) ?_
 refine Zt hK16 fun a hf=>?_
 refine Xi hf rfl (fun hc17=>?_) (fun hc17=>?_)
 ·have hc17b:=hc17
  have hc17:=of_decide_eq_true hc17
  refine wp_skip ?_
  refine hK15 _ _ ?_
  refine wp_seq_k fun _ hK18=>?_
  refine wp_block ?_
  refine Zs hf fun _ hK19=>?_
  refine Zm rfl<|Zm rfl ?_
  refine Zf (X4 (k:=9) (vs:=[vi 1,vi 4,vi 5,vi 7,vi 8,vi 9,vi 9,vi 10,vi 11]) (zs:=[vi 1,vi 4,vi 5,vi 7,vi 8,vi 9,vi 9,vi 10,vi 11]) rfl X16 X2d rfl rfl) ?_;rintro _ w9 ⟨b20,rfl,hl20,hE,hB20⟩
  have hlo20:=Nat.le_trans hW.size hl20
  have haw1_20:=hr_code.away hl20
  replace hBV:=hBV.below hE
  replace hB4:=hB4.below hE
  replace hB11:=hB11.below hE
  replace hr_code:=hr_code.below hE
  replace ho14:=ho14.below hE
  replace hW:=ktr hW hE
  refine Zf (Vc (Xjd _ bV Acd ccd code hr_code.top hcd hav t2 s2 hBV (1+xz13) (some ⟨b20,0,none⟩) 9 ([1,4,5,7,8,9,9,10,11]) (Rd.of_blk hB20 rfl _ hB20.lt) (by omega) (by simp) (by simp) (by omega)) Xde) ?_;rintro _ w10 ⟨xz28,tz28,sz28,rfl,hPz28,htz28,hK,hbn⟩
  obtain ⟨wm,hO,hm,hE⟩:=hK.mid;clear hm
  have hold:=hBV
  replace hB4:=hB4.only hO (Blk.ne hB4 hold rfl)
  replace hB11:=hB11.only hO (Blk.ne hB11 hold rfl)
  replace hB20:=hB20.only hO (Blk.ne hB20 hold rfl)
  replace hr_code:=hr_code.onlyA hO hav
  replace ho14:=ho14.onlyT hO hold rfl
  replace hW:=hW.self hO
  replace hB4:=hB4.below hE
  replace hB11:=hB11.below hE
  replace hB20:=hB20.below hE
  replace hr_code:=hr_code.below hE
  replace ho14:=ho14.below hE
  replace hW:=ktr hW hE
  clear hold hE hO hK;replace hBV:=hbn;clear hbn
  refine Zf (Xa (zs:=[vi 0,vi 0,vi 0]) X2l rfl) ?_;rintro _ w11 ⟨b22,rfl,hl22,hE,hB22⟩
  have hlo22:=Nat.le_trans hW.size hl22
  have haw1_22:=hr_code.away hl22
  have haw14_22:=ho14.away hl22
  replace hBV:=hBV.below hE
  replace hB4:=hB4.below hE
  replace hB11:=hB11.below hE
  replace hB20:=hB20.below hE
  replace hr_code:=hr_code.below hE
  replace ho14:=ho14.below hE
  replace hW:=ktr hW hE
  refine Zo (Vw [vi xz28.k,vi xz28.a,vi xz28.b] X0a hB22) ?_;rintro _ w12 ⟨ho,hb⟩
  have hold:=hB22
  replace hBV:=hBV.only ho (Blk.ne hBV hold rfl)
  replace hB4:=hB4.only ho (Blk.ne hB4 hold rfl)
  replace hB11:=hB11.only ho (Blk.ne hB11 hold rfl)
  replace hB20:=hB20.only ho (Blk.ne hB20 hold rfl)
  replace hr_code:=hr_code.only ho hlo22
  replace ho14:=ho14.onlyA ho haw14_22
  replace hW:=Kept.only hW ho hlo22
  clear hold
  have hB22:=hb
  clear hb ho
  refine Zt hK19 fun a hf=>?_
  refine Zs hf fun _ hK23=>?_
  refine Ze (Vn X08 hB22) ?_
  refine Zf (Vc (Xjh _ xz28) Xd5) ?_;rintro _ w13 ⟨rfl,hE⟩
  replace hBV:=hBV.below hE
  replace hB4:=hB4.below hE
  replace hB11:=hB11.below hE
  replace hB22:=hB22.below hE
  replace hr_code:=hr_code.below hE
  replace ho14:=ho14.below hE
  replace hW:=ktr hW hE
  refine Zm rfl<|Ze (X3 (vs:=[.agg #[vi ((bkG xz28).k),vi ((bkG xz28).a),vi ((bkG xz28).b)],vi (bkN xz28)]) rfl rfl)<|Ze (X3 (vs:=[.agg #[vi ((bkG xz28).k),vi ((bkG xz28).a),vi ((bkG xz28).b)],vi (bkN xz28)]) rfl rfl) ?_
  refine Zf (Xa (zs:=[vi 0,vi 0,vi 0]) X2l rfl) ?_;rintro _ w14 ⟨b24,rfl,hl24,hE,hB24⟩
  have hne22_24:b22≠b24:=by have:=hB22.lt;omega
  have hlo24:=Nat.le_trans hW.size hl24
  have haw1_24:=hr_code.away hl24
  have haw14_24:=ho14.away hl24
  replace hBV:=hBV.below hE
  replace hB4:=hB4.below hE
  replace hB11:=hB11.below hE
  replace hB22:=hB22.below hE
  replace hr_code:=hr_code.below hE
  replace ho14:=ho14.below hE
  replace hW:=ktr hW hE
  refine Zo (Vw [vi ((bkG xz28).k),vi ((bkG xz28).a),vi ((bkG xz28).b)] X0a hB24) ?_;rintro _ w15 ⟨ho,hb⟩
  have hold:=hB24
  replace hBV:=hBV.only ho (Blk.ne hBV hold rfl)
  replace hB4:=hB4.only ho (Blk.ne hB4 hold rfl)
  replace hB11:=hB11.only ho (Blk.ne hB11 hold rfl)
  replace hB22:=hB22.only ho (by omega)
  replace hr_code:=hr_code.only ho hlo24
  replace ho14:=ho14.onlyA ho haw14_24
  replace hW:=Kept.only hW ho hlo24
  clear hold
  have hB24:=hb
  clear hb ho
  refine Za rfl ?_
  refine Zt hK23 fun a hf=>?_
  refine Zs hf fun _ hK25=>?_
  refine Zm rfl<|Ze (Vd rfl Xw 1)<|Ze (X0 rfl X06 (hB11.at 1))<|Ze (X0v rfl Xd)<|Ze (Xv rfl rfl (by omega) (by omega)) ?_
  refine Zf (Vc (X24 _ bV Acd ccd code hr_code.top hcd hav tz28 sz28 hBV ((gs.length:Int)+1) (by omega)) X1f) ?_;rintro _ w16 ⟨xz39,tz39,sz39,rfl,hPz39,htz39,hK,hbn⟩
  obtain ⟨wm,hO,hm,hE⟩:=hK.mid;clear hm
  have hold:=hBV
  replace hB4:=hB4.only hO (Blk.ne hB4 hold rfl)
  replace hB11:=hB11.only hO (Blk.ne hB11 hold rfl)
  replace hB22:=hB22.only hO (Blk.ne hB22 hold rfl)
  replace hB24:=hB24.only hO (Blk.ne hB24 hold rfl)
  replace hr_code:=hr_code.onlyA hO hav
  replace ho14:=ho14.onlyT hO hold rfl
  replace hW:=hW.self hO
  replace hB4:=hB4.below hE
  replace hB11:=hB11.below hE
  replace hB22:=hB22.below hE
  replace hB24:=hB24.below hE
  replace hr_code:=hr_code.below hE
  replace ho14:=ho14.below hE
  replace hW:=ktr hW hE
  clear hold hE hO hK;replace hBV:=hbn;clear hbn
  have hlA:(gs.take xz39.toNat++[xz28]++gs.drop xz39.toNat).length=gs.length+1:=by simp;omega
  refine Za rfl ?_
  refine Zt hK25 fun a hf=>?_
  refine Zs hf fun _ hK26=>?_
  refine Zf (X4 (k:=0) (vs:=[]) (zs:=[]) rfl Xd Xe rfl rfl) ?_;rintro _ w17 ⟨b27,rfl,hl27,hE,hB27⟩
  have hne22_27:b22≠b27:=by have:=hB22.lt;omega
  have hne24_27:b24≠b27:=by have:=hB24.lt;omega
  have hlo27:=Nat.le_trans hW.size hl27
  have haw1_27:=hr_code.away hl27
  have haw14_27:=ho14.away hl27
  replace hBV:=hBV.below hE
  replace hB4:=hB4.below hE
  replace hB11:=hB11.below hE
  replace hB22:=hB22.below hE
  replace hB24:=hB24.below hE
  replace hr_code:=hr_code.below hE
  replace ho14:=ho14.below hE
  replace hW:=ktr hW hE
  refine Ze (Vd rfl Xw 1)<|Ze (X0 rfl X06 (hB11.at 1))<|Zm rfl ?_
  have hr29:=(ho14.rd.top).dropK Xb (c:=c14) ho14.cap xz39.toNat
  refine Ze (X6c (l:=gs) (k:=xz39.toNat) rfl rfl Xd X0a (by omega) (by omega)) ?_
  refine Zf (X10 (enc:=encG) (l2:=((gs.drop xz39.toNat))) rfl rfl Xd Xe Xb Xp hB27 hr29 (by simp only [maxLen];simp;omega) (by simp;omega)) ?_;rintro _ w18 ⟨A30,c30,rfl,ho30,hE,hat⟩
  have haw30_22:=hat _ hB22.lt hne22_27
  have haw30_24:=hat _ hB24.lt hne24_27
  have hap14_30:=Apart.new0 ho14 haw14_27 hat
  clear hat
  replace ho30:=ho30.lower hlo27
  replace hBV:=hBV.below hE
  replace hB4:=hB4.below hE
  replace hB11:=hB11.below hE
  replace hB22:=hB22.below hE
  replace hB24:=hB24.below hE
  replace hr_code:=hr_code.below hE
  replace ho14:=ho14.below hE
  replace hr29:=hr29.below hE
  replace hW:=ktr hW hE
  refine Za rfl ?_
  refine Zt hK26 fun a hf=>?_
  refine wp_seq_k fun _ hK31=>?_
  refine X09 (fun a w=>∃ A39 c39,Fr a 88 [(0,.pointer (some ⟨bV,0,none⟩)),(2,.pointer (some ⟨b4,0,none⟩)),(3,vi (1+xz13)),(4,.pointer (some ⟨b11,0,none⟩)),(5,vi j),(7,.pointer (some ⟨b24,0,none⟩)),(9,vi xz39)]∧Own w w0.heap.size 24 3 encG A39 c39 (((gs.take xz39.toNat)++([xz28]))++(gs.drop xz39.toNat))∧Blk w bV 80 [.slice Acd code.length ccd,vi (tz39:Int),.int .u64 sz39]∧Blk w b4 31 [vi 0,.slice none 0 0]∧Blk w b11 31 [vi cz18.n,.slice A39 (((gs.take xz39.toNat)++([xz28]))++(gs.drop xz39.toNat)).length c39]∧Blk w b22 24 [vi xz28.k,vi xz28.a,vi xz28.b]∧Blk w b24 24 [vi ((bkG xz28).k),vi ((bkG xz28).a),vi ((bkG xz28).b)]∧Rd w w0.heap.size Xcd encU Acd code∧Own w w0.heap.size 24 3 encG A14 c14 gs∧Own w w0.heap.size 24 3 encG A30 c30 (gs.drop xz39.toNat)∧Kept bV w0.heap.size w0 w) ?_ ?_
  ·refine Xu none (fun j=>[8,10,12].contains j) mixed ?_
   intro w19 hE
   replace hBV:=hBV.below hE
   replace hB4:=hB4.below hE
   replace hB11:=hB11.below hE
   replace hB22:=hB22.below hE
   replace hB24:=hB24.below hE
   replace hr_code:=hr_code.below hE
   replace ho14:=ho14.below hE
   replace ho30:=ho30.below hE
   replace hW:=ktr hW hE
   refine Yb hf ?_
   refine Yo 1 rfl (fun _=>Vd rfl Xw 1)<|Ye 2 rfl (X0 rfl X06 (hB11.at 1))<|Yo 3 rfl (fun _=>X9 rfl) ?_
   have hr32:=(ho14.rd.top).takeK Xb xz39.toNat
   refine Yo 4 rfl (fun _=>X7u (l:=gs) (k:=xz39.toNat) rfl rfl Xd X0a (by omega) (by omega) ho14.cap)<|Ye 6 rfl (Vn X08 hB22)<|Yo 9 rfl (fun _=>X9 rfl) ?_
   refine Y2 0 7 ?_ ?_
   ·refine Yk rfl trivial (X4 (k:=0) (vs:=[]) (zs:=[]) rfl Xd Xe rfl rfl) (fun _ _ ⟨_,_,_,h,_⟩=>h) ?_;rintro _ w20 ⟨b33,rfl,hl33,hE,hB33⟩
    have hne22_33:b22≠b33:=by have:=hB22.lt;omega
    have hne24_33:b24≠b33:=by have:=hB24.lt;omega
    have hlo33:=Nat.le_trans hW.size hl33
    have haw1_33:=hr_code.away hl33
    have haw14_33:=ho14.away hl33
    have haw30_33:=ho30.away hl33
    have haw32_33:=hr32.away hl33
    replace hBV:=hBV.below hE
    replace hB4:=hB4.below hE
    replace hB11:=hB11.below hE
    replace hB22:=hB22.below hE
    replace hB24:=hB24.below hE
    replace hr_code:=hr_code.below hE
    replace ho14:=ho14.below hE
    replace ho30:=ho30.below hE
    replace hr32:=hr32.below hE
    replace hW:=ktr hW hE
    refine Y2 5 7 ?_ ?_
    ·refine Yk rfl trivial (X10 (enc:=encG) (l2:=((gs.take xz39.toNat))) rfl rfl Xd Xe Xb Xp hB33 hr32 (by simp only [maxLen];simp;omega) (by simp;omega)) (fun _ _ ⟨A35,c35,_,ho35,hE,hat⟩=>hE) ?_;rintro _ w21 ⟨A35,c35,rfl,ho35,hE,hat⟩
     have haw35_22:=hat _ hB22.lt hne22_33
     have haw35_24:=hat _ hB24.lt hne24_33
     have hap14_35:=Apart.new0 ho14 haw14_33 hat
     have hap30_35:=Apart.new0 ho30 haw30_33 hat
     clear hat
     replace ho35:=ho35.lower hlo33
     replace hBV:=hBV.below hE
     replace hB4:=hB4.below hE
     replace hB11:=hB11.below hE
     replace hB22:=hB22.below hE
     replace hB24:=hB24.below hE
     replace hr_code:=hr_code.below hE
     replace ho14:=ho14.below hE
     replace ho30:=ho30.below hE
     replace hr32:=hr32.below hE
     replace hW:=ktr hW hE
     refine Y1 7 ?_
     refine Yk rfl trivial (X4 (k:=1) (vs:=[.agg #[vi xz28.k,vi xz28.a,vi xz28.b]]) (zs:=[vi xz28.k,vi xz28.a,vi xz28.b]) rfl Xd Xe rfl rfl) (fun _ _ ⟨_,_,_,h,_⟩=>h) ?_;rintro _ w22 ⟨b36,rfl,hl36,hE,hB36⟩
     have hne22_36:b22≠b36:=by have:=hB22.lt;omega
     have hne24_36:b24≠b36:=by have:=hB24.lt;omega
     have hlo36:=Nat.le_trans hW.size hl36
     have haw1_36:=hr_code.away hl36
     have haw14_36:=ho14.away hl36
     have haw30_36:=ho30.away hl36
     have haw32_36:=hr32.away hl36
     have haw35_36:=ho35.away hl36
     replace hBV:=hBV.below hE
     replace hB4:=hB4.below hE
     replace hB11:=hB11.below hE
     replace hB22:=hB22.below hE
     replace hB24:=hB24.below hE
     replace hr_code:=hr_code.below hE
     replace ho14:=ho14.below hE
     replace ho30:=ho30.below hE
     replace hr32:=hr32.below hE
     replace ho35:=ho35.below hE
     replace hW:=ktr hW hE
     refine Y1 8 ?_
     refine Yt rfl trivial rfl (X0f (enc:=encG) (l:=((gs.take xz39.toNat))) (l2:=([xz28])) (B0:=w0.heap.size) rfl rfl Xd Xe Xb Xp ho35 (Rd.of_blk hB36 rfl _ hB36.lt) (by simp only [maxLen];simp;omega) (by simp;omega) hW.size) ?_;rintro _ w23 ⟨A38,c38,rfl,ho38,hg,hat⟩
     have hown:Own _ w0.heap.size 24 3 encG _ _ ((gs.take xz39.toNat)):=ho35
     have haw38_22:=hat _ hB22.lt haw35_22
     have haw38_24:=hat _ hB24.lt haw35_24
     have haw38_36:=hat _ hB36.lt haw35_36
     have hap14_38:=Apart.app ho14 hap14_35 hat
     have hap30_38:=Apart.app ho30 hap30_35 hat
     clear hat
     replace hBV:=hBV.appT hown hg rfl
     replace hB4:=hB4.appT hown hg rfl
     replace hB11:=hB11.appT hown hg rfl
     replace hB22:=hB22.appA hg haw35_22
     replace hB24:=hB24.appA hg haw35_24
     replace hr_code:=hr_code.appB hown hg (Nat.le_refl _)
     replace ho14:=ho14.appP hg hap14_35
     replace ho30:=ho30.appP hg hap30_35
     replace hW:=Kept.app hW hown hg (Nat.le_refl _) hW.size
     clear hown hg
     refine Y1 10 ?_
     refine Yt rfl trivial rfl (X0f (enc:=encG) (l:=((gs.take xz39.toNat)++([xz28]))) (l2:=((gs.drop xz39.toNat))) (B0:=w0.heap.size) rfl rfl Xd Xe Xb Xp ho38 ho30.rd (by simp only [maxLen];simp;omega) (by simp;omega) hW.size) ?_;rintro _ w24 ⟨A39,c39,rfl,ho39,hg,hat⟩
     have hown:Own _ w0.heap.size 24 3 encG _ _ ((gs.take xz39.toNat)++([xz28])):=ho38
     have haw39_22:=hat _ hB22.lt haw38_22
     have haw39_24:=hat _ hB24.lt haw38_24
     have hap14_39:=Apart.app ho14 hap14_38 hat
     have hap30_39:=Apart.app ho30 hap30_38 hat
     clear hat
     replace hBV:=hBV.appT hown hg rfl
     replace hB4:=hB4.appT hown hg rfl
     replace hB11:=hB11.appT hown hg rfl
     replace hB22:=hB22.appA hg haw38_22
     replace hB24:=hB24.appA hg haw38_24
     replace hr_code:=hr_code.appB hown hg (Nat.le_refl _)
     replace ho14:=ho14.appP hg hap14_38
     replace ho30:=ho30.appP hg hap30_38
     replace hW:=Kept.app hW hown hg (Nat.le_refl _) hW.size
     clear hown hg
     refine Yo 11 rfl (fun _=>Vd rfl Xw 1) ?_
     refine Y1 12 ?_
     refine Yh rfl trivial rfl (Vu (vs:=[.slice A39 (((gs.take xz39.toNat)++([xz28]))++(gs.drop xz39.toNat)).length c39]) (l':=[vi cz18.n,.slice A39 (((gs.take xz39.toNat)++([xz28]))++(gs.drop xz39.toNat)).length c39]) rfl rfl X2i hB11) ?_;rintro _ w25 ⟨ho,hb⟩
     have hold:=hB11
     replace hBV:=hBV.only ho (Blk.ne hBV hold rfl)
     replace hB4:=hB4.only ho (by omega)
     replace hB22:=hB22.only ho (Blk.ne hB22 hold rfl)
     replace hB24:=hB24.only ho (Blk.ne hB24 hold rfl)
     replace hr_code:=hr_code.only ho hlo11
     replace ho14:=ho14.onlyT ho hold rfl
     replace ho30:=ho30.onlyT ho hold rfl
     replace ho39:=ho39.onlyT ho hold rfl
     replace hW:=Kept.only hW ho hlo11
     clear hold
     have hB11:=hb
     clear hb ho
     refine Yd fun a hf=>?_
     exact ⟨A39,c39,hf.sub ⟨rfl,rfl,rfl,rfl,rfl,rfl,rfl,trivial⟩,ho39,hBV,hB4,hB11,hB22,hB24,hr_code,ho14,ho30,hW⟩
    refine Yk rfl trivial (X4 (k:=1) (vs:=[.agg #[vi xz28.k,vi xz28.a,vi xz28.b]]) (zs:=[vi xz28.k,vi xz28.a,vi xz28.b]) rfl Xd Xe rfl rfl) (fun _ _ ⟨_,_,_,h,_⟩=>h) ?_;rintro _ w26 ⟨b40,rfl,hl40,hE,hB40⟩
    have hne22_40:b22≠b40:=by have:=hB22.lt;omega
    have hne24_40:b24≠b40:=by have:=hB24.lt;omega
    have hne33_40:b33≠b40:=by have:=hB33.lt;omega
    have hlo40:=Nat.le_trans hW.size hl40
    have haw1_40:=hr_code.away hl40
    have haw14_40:=ho14.away hl40
    have haw30_40:=ho30.away hl40
    have haw32_40:=hr32.away hl40
    replace hBV:=hBV.below hE
    replace hB4:=hB4.below hE
    replace hB11:=hB11.below hE
    replace hB22:=hB22.below hE
    replace hB24:=hB24.below hE
    replace hB33:=hB33.below hE
    replace hr_code:=hr_code.below hE
    replace ho14:=ho14.below hE
    replace ho30:=ho30.below hE
    replace hr32:=hr32.below hE
    replace hW:=ktr hW hE
    refine Y1 5 ?_
    refine Yk rfl trivial (X10 (enc:=encG) (l2:=((gs.take xz39.toNat))) rfl rfl Xd Xe Xb Xp hB33 hr32 (by simp only [maxLen];simp;omega) (by simp;omega)) (fun _ _ ⟨A42,c42,_,ho42,hE,hat⟩=>hE) ?_;rintro _ w27 ⟨A42,c42,rfl,ho42,hE,hat⟩
    have haw42_22:=hat _ hB22.lt hne22_33
    have haw42_24:=hat _ hB24.lt hne24_33
    have haw42_40:=hat _ hB40.lt (Ne.symm hne33_40)
    have hap14_42:=Apart.new0 ho14 haw14_33 hat
    have hap30_42:=Apart.new0 ho30 haw30_33 hat
    clear hat
    replace ho42:=ho42.lower hlo33
    replace hBV:=hBV.below hE
    replace hB4:=hB4.below hE
    replace hB11:=hB11.below hE
    replace hB22:=hB22.below hE
    replace hB24:=hB24.below hE
    replace hB40:=hB40.below hE
    replace hr_code:=hr_code.below hE
    replace ho14:=ho14.below hE
    replace ho30:=ho30.below hE
    replace hr32:=hr32.below hE
    replace hW:=ktr hW hE
    refine Y1 8 ?_
    refine Yt rfl trivial rfl (X0f (enc:=encG) (l:=((gs.take xz39.toNat))) (l2:=([xz28])) (B0:=w0.heap.size) rfl rfl Xd Xe Xb Xp ho42 (Rd.of_blk hB40 rfl _ hB40.lt) (by simp only [maxLen];simp;omega) (by simp;omega) hW.size) ?_;rintro _ w28 ⟨A43,c43,rfl,ho43,hg,hat⟩
    have hown:Own _ w0.heap.size 24 3 encG _ _ ((gs.take xz39.toNat)):=ho42
    have haw43_22:=hat _ hB22.lt haw42_22
    have haw43_24:=hat _ hB24.lt haw42_24
    have haw43_40:=hat _ hB40.lt haw42_40
    have hap14_43:=Apart.app ho14 hap14_42 hat
    have hap30_43:=Apart.app ho30 hap30_42 hat
    clear hat
    replace hBV:=hBV.appT hown hg rfl
    replace hB4:=hB4.appT hown hg rfl
    replace hB11:=hB11.appT hown hg rfl
    replace hB22:=hB22.appA hg haw42_22
    replace hB24:=hB24.appA hg haw42_24
    replace hr_code:=hr_code.appB hown hg (Nat.le_refl _)
    replace ho14:=ho14.appP hg hap14_42
    replace ho30:=ho30.appP hg hap30_42
    replace hW:=Kept.app hW hown hg (Nat.le_refl _) hW.size
    clear hown hg
    refine Y1 10 ?_
    refine Yt rfl trivial rfl (X0f (enc:=encG) (l:=((gs.take xz39.toNat)++([xz28]))) (l2:=((gs.drop xz39.toNat))) (B0:=w0.heap.size) rfl rfl Xd Xe Xb Xp ho43 ho30.rd (by simp only [maxLen];simp;omega) (by simp;omega) hW.size) ?_;rintro _ w29 ⟨A44,c44,rfl,ho44,hg,hat⟩
    have hown:Own _ w0.heap.size 24 3 encG _ _ ((gs.take xz39.toNat)++([xz28])):=ho43
    have haw44_22:=hat _ hB22.lt haw43_22
    have haw44_24:=hat _ hB24.lt haw43_24
    have hap14_44:=Apart.app ho14 hap14_43 hat
    have hap30_44:=Apart.app ho30 hap30_43 hat
    clear hat
    replace hBV:=hBV.appT hown hg rfl
    replace hB4:=hB4.appT hown hg rfl
    replace hB11:=hB11.appT hown hg rfl
    replace hB22:=hB22.appA hg haw43_22
    replace hB24:=hB24.appA hg haw43_24
    replace hr_code:=hr_code.appB hown hg (Nat.le_refl _)
    replace ho14:=ho14.appP hg hap14_43
    replace ho30:=ho30.appP hg hap30_43
    replace hW:=Kept.app hW hown hg (Nat.le_refl _) hW.size
    clear hown hg
    refine Yo 11 rfl (fun _=>Vd rfl Xw 1) ?_
    refine Y1 12 ?_
    refine Yh rfl trivial rfl (Vu (vs:=[.slice A44 (((gs.take xz39.toNat)++([xz28]))++(gs.drop xz39.toNat)).length c44]) (l':=[vi cz18.n,.slice A44 (((gs.take xz39.toNat)++([xz28]))++(gs.drop xz39.toNat)).length c44]) rfl rfl X2i hB11) ?_;rintro _ w30 ⟨ho,hb⟩
    have hold:=hB11
    replace hBV:=hBV.only ho (Blk.ne hBV hold rfl)
    replace hB4:=hB4.only ho (by omega)
    replace hB22:=hB22.only ho (Blk.ne hB22 hold rfl)
    replace hB24:=hB24.only ho (Blk.ne hB24 hold rfl)
    replace hr_code:=hr_code.only ho hlo11
    replace ho14:=ho14.onlyT ho hold rfl
    replace ho30:=ho30.onlyT ho hold rfl
    replace ho44:=ho44.onlyT ho hold rfl
    replace hW:=Kept.only hW ho hlo11
    clear hold
    have hB11:=hb
    clear hb ho
    refine Yd fun a hf=>?_
    exact ⟨A44,c44,hf.sub ⟨rfl,rfl,rfl,rfl,rfl,rfl,rfl,trivial⟩,ho44,hBV,hB4,hB11,hB22,hB24,hr_code,ho14,ho30,hW⟩
   refine Yk rfl trivial (X4 (k:=1) (vs:=[.agg #[vi xz28.k,vi xz28.a,vi xz28.b]]) (zs:=[vi xz28.k,vi xz28.a,vi xz28.b]) rfl Xd Xe rfl rfl) (fun _ _ ⟨_,_,_,h,_⟩=>h) ?_;rintro _ w31 ⟨b45,rfl,hl45,hE,hB45⟩
   have hne22_45:b22≠b45:=by have:=hB22.lt;omega
   have hne24_45:b24≠b45:=by have:=hB24.lt;omega
   have hlo45:=Nat.le_trans hW.size hl45
   have haw1_45:=hr_code.away hl45
   have haw14_45:=ho14.away hl45
   have haw30_45:=ho30.away hl45
   have haw32_45:=hr32.away hl45
   replace hBV:=hBV.below hE
   replace hB4:=hB4.below hE
   replace hB11:=hB11.below hE
   replace hB22:=hB22.below hE
   replace hB24:=hB24.below hE
   replace hr_code:=hr_code.below hE
   replace ho14:=ho14.below hE
   replace ho30:=ho30.below hE
   replace hr32:=hr32.below hE
   replace hW:=ktr hW hE
   refine Y1 0 ?_
   refine Yk rfl trivial (X4 (k:=0) (vs:=[]) (zs:=[]) rfl Xd Xe rfl rfl) (fun _ _ ⟨_,_,_,h,_⟩=>h) ?_;rintro _ w32 ⟨b47,rfl,hl47,hE,hB47⟩
   have hne22_47:b22≠b47:=by have:=hB22.lt;omega
   have hne24_47:b24≠b47:=by have:=hB24.lt;omega
   have hne45_47:b45≠b47:=by have:=hB45.lt;omega
   have hlo47:=Nat.le_trans hW.size hl47
   have haw1_47:=hr_code.away hl47
   have haw14_47:=ho14.away hl47
   have haw30_47:=ho30.away hl47
   have haw32_47:=hr32.away hl47
   replace hBV:=hBV.below hE
   replace hB4:=hB4.below hE
   replace hB11:=hB11.below hE
   replace hB22:=hB22.below hE
   replace hB24:=hB24.below hE
   replace hB45:=hB45.below hE
   replace hr_code:=hr_code.below hE
   replace ho14:=ho14.below hE
   replace ho30:=ho30.below hE
   replace hr32:=hr32.below hE
   replace hW:=ktr hW hE
   refine Y1 5 ?_
   refine Yk rfl trivial (X10 (enc:=encG) (l2:=((gs.take xz39.toNat))) rfl rfl Xd Xe Xb Xp hB47 hr32 (by simp only [maxLen];simp;omega) (by simp;omega)) (fun _ _ ⟨A49,c49,_,ho49,hE,hat⟩=>hE) ?_;rintro _ w33 ⟨A49,c49,rfl,ho49,hE,hat⟩
   have haw49_22:=hat _ hB22.lt hne22_47
   have haw49_24:=hat _ hB24.lt hne24_47
   have haw49_45:=hat _ hB45.lt hne45_47
   have hap14_49:=Apart.new0 ho14 haw14_47 hat
   have hap30_49:=Apart.new0 ho30 haw30_47 hat
   clear hat
   replace ho49:=ho49.lower hlo47
   replace hBV:=hBV.below hE
   replace hB4:=hB4.below hE
   replace hB11:=hB11.below hE
   replace hB22:=hB22.below hE
   replace hB24:=hB24.below hE
   replace hB45:=hB45.below hE
   replace hr_code:=hr_code.below hE
   replace ho14:=ho14.below hE
   replace ho30:=ho30.below hE
   replace hr32:=hr32.below hE
   replace hW:=ktr hW hE
   refine Y1 8 ?_
   refine Yt rfl trivial rfl (X0f (enc:=encG) (l:=((gs.take xz39.toNat))) (l2:=([xz28])) (B0:=w0.heap.size) rfl rfl Xd Xe Xb Xp ho49 (Rd.of_blk hB45 rfl _ hB45.lt) (by simp only [maxLen];simp;omega) (by simp;omega) hW.size) ?_;rintro _ w34 ⟨A50,c50,rfl,ho50,hg,hat⟩
   have hown:Own _ w0.heap.size 24 3 encG _ _ ((gs.take xz39.toNat)):=ho49
   have haw50_22:=hat _ hB22.lt haw49_22
   have haw50_24:=hat _ hB24.lt haw49_24
   have haw50_45:=hat _ hB45.lt haw49_45
   have hap14_50:=Apart.app ho14 hap14_49 hat
   have hap30_50:=Apart.app ho30 hap30_49 hat
   clear hat
   replace hBV:=hBV.appT hown hg rfl
   replace hB4:=hB4.appT hown hg rfl
   replace hB11:=hB11.appT hown hg rfl
   replace hB22:=hB22.appA hg haw49_22
   replace hB24:=hB24.appA hg haw49_24
   replace hr_code:=hr_code.appB hown hg (Nat.le_refl _)
   replace ho14:=ho14.appP hg hap14_49
   replace ho30:=ho30.appP hg hap30_49
   replace hW:=Kept.app hW hown hg (Nat.le_refl _) hW.size
   clear hown hg
   refine Y1 10 ?_
   refine Yt rfl trivial rfl (X0f (enc:=encG) (l:=((gs.take xz39.toNat)++([xz28]))) (l2:=((gs.drop xz39.toNat))) (B0:=w0.heap.size) rfl rfl Xd Xe Xb Xp ho50 ho30.rd (by simp only [maxLen];simp;omega) (by simp;omega) hW.size) ?_;rintro _ w35 ⟨A51,c51,rfl,ho51,hg,hat⟩
   have hown:Own _ w0.heap.size 24 3 encG _ _ ((gs.take xz39.toNat)++([xz28])):=ho50
   have haw51_22:=hat _ hB22.lt haw50_22
   have haw51_24:=hat _ hB24.lt haw50_24
   have hap14_51:=Apart.app ho14 hap14_50 hat
   have hap30_51:=Apart.app ho30 hap30_50 hat
   clear hat
   replace hBV:=hBV.appT hown hg rfl
   replace hB4:=hB4.appT hown hg rfl
   replace hB11:=hB11.appT hown hg rfl
   replace hB22:=hB22.appA hg haw50_22
   replace hB24:=hB24.appA hg haw50_24
   replace hr_code:=hr_code.appB hown hg (Nat.le_refl _)
   replace ho14:=ho14.appP hg hap14_50
   replace ho30:=ho30.appP hg hap30_50
   replace hW:=Kept.app hW hown hg (Nat.le_refl _) hW.size
   clear hown hg
   refine Yo 11 rfl (fun _=>Vd rfl Xw 1) ?_
   refine Y1 12 ?_
   refine Yh rfl trivial rfl (Vu (vs:=[.slice A51 (((gs.take xz39.toNat)++([xz28]))++(gs.drop xz39.toNat)).length c51]) (l':=[vi cz18.n,.slice A51 (((gs.take xz39.toNat)++([xz28]))++(gs.drop xz39.toNat)).length c51]) rfl rfl X2i hB11) ?_;rintro _ w36 ⟨ho,hb⟩
   have hold:=hB11
   replace hBV:=hBV.only ho (Blk.ne hBV hold rfl)
   replace hB4:=hB4.only ho (by omega)
   replace hB22:=hB22.only ho (Blk.ne hB22 hold rfl)
   replace hB24:=hB24.only ho (Blk.ne hB24 hold rfl)
   replace hr_code:=hr_code.only ho hlo11
   replace ho14:=ho14.onlyT ho hold rfl
   replace ho30:=ho30.onlyT ho hold rfl
   replace ho51:=ho51.onlyT ho hold rfl
   replace hW:=Kept.only hW ho hlo11
   clear hold
   have hB11:=hb
   clear hb ho
   refine Yd fun a hf=>?_
   exact ⟨A51,c51,hf.sub ⟨rfl,rfl,rfl,rfl,rfl,rfl,rfl,trivial⟩,ho51,hBV,hB4,hB11,hB22,hB24,hr_code,ho14,ho30,hW⟩
  rintro a w37 ⟨A39,c39,hf,ho39,hBV,hB4,hB11,hB22,hB24,hr_code,ho14,ho30,hW⟩
  refine hK31 _ _ ?_
  refine Zs hf fun _ hK52=>?_
  refine Zm rfl<|Ze (Xv rfl rfl (by omega) (by omega))<|Zm rfl<|Ze (Vd rfl Xw 1)<|Ze (X0 rfl X06 (hB11.at 1)) ?_
  refine Ze (X0v rfl Xd)<|Zm rfl<|Ze (X1d rfl rfl (by omega) (by omega)) ?_
  refine Zf (Vc (Xja _ 3 (((((gs.take xz39.toNat)++([xz28]))++(gs.drop xz39.toNat)).length:Int)-xz39)) Xcy) ?_;rintro _ w38 ⟨rfl,hE⟩
  replace hBV:=hBV.below hE
  replace hB4:=hB4.below hE
  replace hB11:=hB11.below hE
  replace hB24:=hB24.below hE
  replace hr_code:=hr_code.below hE
  replace ho39:=ho39.below hE
  replace hW:=ktr hW hE
  refine Zf (Vc (X24 _ bV Acd ccd code hr_code.top hcd hav tz39 sz39 hBV (min 3 (((((gs.take xz39.toNat)++([xz28]))++(gs.drop xz39.toNat)).length:Int)-xz39)) (by omega)) X1f) ?_;rintro _ w39 ⟨xz67,tz67,sz67,rfl,hPz67,htz67,hK,hbn⟩
  obtain ⟨wm,hO,hm,hE⟩:=hK.mid;clear hm
  have hold:=hBV
  replace hB4:=hB4.only hO (Blk.ne hB4 hold rfl)
  replace hB11:=hB11.only hO (Blk.ne hB11 hold rfl)
  replace hB24:=hB24.only hO (Blk.ne hB24 hold rfl)
  replace hr_code:=hr_code.onlyA hO hav
  replace ho39:=ho39.onlyT hO hold rfl
  replace hW:=hW.self hO
  replace hB4:=hB4.below hE
  replace hB11:=hB11.below hE
  replace hB24:=hB24.below hE
  replace hr_code:=hr_code.below hE
  replace ho39:=ho39.below hE
  replace hW:=ktr hW hE
  clear hold hE hO hK;replace hBV:=hbn;clear hbn
  refine Ze (Xv rfl rfl (by omega) (by omega))<|Za rfl ?_
  refine Zt hK52 fun a hf=>?_
  refine Zs hf fun _ hK53=>?_
  refine Zf (X4 (k:=0) (vs:=[]) (zs:=[]) rfl Xd Xe rfl rfl) ?_;rintro _ w40 ⟨b54,rfl,hl54,hE,hB54⟩
  have hne24_54:b24≠b54:=by have:=hB24.lt;omega
  have hlo54:=Nat.le_trans hW.size hl54
  have haw1_54:=hr_code.away hl54
  have haw39_54:=ho39.away hl54
  replace hBV:=hBV.below hE
  replace hB4:=hB4.below hE
  replace hB11:=hB11.below hE
  replace hB24:=hB24.below hE
  replace hr_code:=hr_code.below hE
  replace ho39:=ho39.below hE
  replace hW:=ktr hW hE
  refine Ze (Vd rfl Xw 1)<|Ze (X0 rfl X06 (hB11.at 1))<|Zm rfl ?_
  have hr56:=(ho39.rd.top).dropK Xb (c:=c39) ho39.cap ((xz39+1+xz67).toNat)
  refine Ze (X6c (l:=(((gs.take xz39.toNat)++([xz28]))++(gs.drop xz39.toNat))) (k:=(xz39+1+xz67).toNat) rfl rfl Xd X0a (by omega) (by omega)) ?_
  refine Zf (X10 (enc:=encG) (l2:=(((((gs.take xz39.toNat)++([xz28]))++(gs.drop xz39.toNat)).drop ((xz39+1+xz67).toNat)))) rfl rfl Xd Xe Xb Xp hB54 hr56 (by simp only [maxLen];simp;omega) (by simp;omega)) ?_;rintro _ w41 ⟨A57,c57,rfl,ho57,hE,hat⟩
  have haw57_24:=hat _ hB24.lt hne24_54
  have hap39_57:=Apart.new0 ho39 haw39_54 hat
  clear hat
  replace ho57:=ho57.lower hlo54
  replace hBV:=hBV.below hE
  replace hB4:=hB4.below hE
  replace hB11:=hB11.below hE
  replace hB24:=hB24.below hE
  replace hr_code:=hr_code.below hE
  replace ho39:=ho39.below hE
  replace hr56:=hr56.below hE
  replace hW:=ktr hW hE
  refine Za rfl ?_
  refine Zt hK53 fun a hf=>?_
  refine X09 (fun a w=>∃ A65 c65,Fr a 88 [(0,.pointer (some ⟨bV,0,none⟩)),(2,.pointer (some ⟨b4,0,none⟩)),(3,vi (1+xz13)),(4,.pointer (some ⟨b11,0,none⟩)),(5,vi j)]∧Own w w0.heap.size 24 3 encG A65 c65 ((((((gs.take xz39.toNat)++([xz28]))++(gs.drop xz39.toNat)).take ((xz39+1+xz67).toNat))++([(bkG xz28)]))++((((gs.take xz39.toNat)++([xz28]))++(gs.drop xz39.toNat)).drop ((xz39+1+xz67).toNat)))∧Blk w bV 80 [.slice Acd code.length ccd,vi (tz67:Int),.int .u64 sz67]∧Blk w b4 31 [vi 0,.slice none 0 0]∧Blk w b11 31 [vi cz18.n,.slice A65 ((((((gs.take xz39.toNat)++([xz28]))++(gs.drop xz39.toNat)).take ((xz39+1+xz67).toNat))++([(bkG xz28)]))++((((gs.take xz39.toNat)++([xz28]))++(gs.drop xz39.toNat)).drop ((xz39+1+xz67).toNat))).length c65]∧Blk w b24 24 [vi ((bkG xz28).k),vi ((bkG xz28).a),vi ((bkG xz28).b)]∧Rd w w0.heap.size Xcd encU Acd code∧Own w w0.heap.size 24 3 encG A39 c39 (((gs.take xz39.toNat)++([xz28]))++(gs.drop xz39.toNat))∧Own w w0.heap.size 24 3 encG A57 c57 ((((gs.take xz39.toNat)++([xz28]))++(gs.drop xz39.toNat)).drop ((xz39+1+xz67).toNat))∧Kept bV w0.heap.size w0 w) ?_ ?_
  ·refine Xu none (fun j=>[8,10,12].contains j) mixed ?_
   intro w42 hE
   replace hBV:=hBV.below hE
   replace hB4:=hB4.below hE
   replace hB11:=hB11.below hE
   replace hB24:=hB24.below hE
   replace hr_code:=hr_code.below hE
   replace ho39:=ho39.below hE
   replace ho57:=ho57.below hE
   replace hW:=ktr hW hE
   refine Yb hf ?_
   refine Yo 1 rfl (fun _=>Vd rfl Xw 1)<|Ye 2 rfl (X0 rfl X06 (hB11.at 1))<|Yo 3 rfl (fun _=>X9 rfl) ?_
   have hr58:=(ho39.rd.top).takeK Xb ((xz39+1+xz67).toNat)
   refine Yo 4 rfl (fun _=>X7u (l:=(((gs.take xz39.toNat)++([xz28]))++(gs.drop xz39.toNat))) (k:=(xz39+1+xz67).toNat) rfl rfl Xd X0a (by omega) (by omega) ho39.cap)<|Ye 6 rfl (Vn X08 hB24)<|Yo 9 rfl (fun _=>X9 rfl) ?_
   refine Y2 0 7 ?_ ?_
   ·refine Yk rfl trivial (X4 (k:=0) (vs:=[]) (zs:=[]) rfl Xd Xe rfl rfl) (fun _ _ ⟨_,_,_,h,_⟩=>h) ?_;rintro _ w43 ⟨b59,rfl,hl59,hE,hB59⟩
    have hne24_59:b24≠b59:=by have:=hB24.lt;omega
    have hlo59:=Nat.le_trans hW.size hl59
    have haw1_59:=hr_code.away hl59
    have haw39_59:=ho39.away hl59
    have haw57_59:=ho57.away hl59
    have haw58_59:=hr58.away hl59
    replace hBV:=hBV.below hE
    replace hB4:=hB4.below hE
    replace hB11:=hB11.below hE
    replace hB24:=hB24.below hE
    replace hr_code:=hr_code.below hE
    replace ho39:=ho39.below hE
    replace ho57:=ho57.below hE
    replace hr58:=hr58.below hE
    replace hW:=ktr hW hE
    refine Y2 5 7 ?_ ?_
    ·refine Yk rfl trivial (X10 (enc:=encG) (l2:=(((((gs.take xz39.toNat)++([xz28]))++(gs.drop xz39.toNat)).take ((xz39+1+xz67).toNat)))) rfl rfl Xd Xe Xb Xp hB59 hr58 (by simp only [maxLen];simp;omega) (by simp;omega)) (fun _ _ ⟨A61,c61,_,ho61,hE,hat⟩=>hE) ?_;rintro _ w44 ⟨A61,c61,rfl,ho61,hE,hat⟩
     have haw61_24:=hat _ hB24.lt hne24_59
     have hap39_61:=Apart.new0 ho39 haw39_59 hat
     have hap57_61:=Apart.new0 ho57 haw57_59 hat
     clear hat
     replace ho61:=ho61.lower hlo59
     replace hBV:=hBV.below hE
     replace hB4:=hB4.below hE
     replace hB11:=hB11.below hE
     replace hB24:=hB24.below hE
     replace hr_code:=hr_code.below hE
     replace ho39:=ho39.below hE
     replace ho57:=ho57.below hE
     replace hr58:=hr58.below hE
     replace hW:=ktr hW hE
     refine Y1 7 ?_
     refine Yk rfl trivial (X4 (k:=1) (vs:=[.agg #[vi ((bkG xz28).k),vi ((bkG xz28).a),vi ((bkG xz28).b)]]) (zs:=[vi ((bkG xz28).k),vi ((bkG xz28).a),vi ((bkG xz28).b)]) rfl Xd Xe rfl rfl) (fun _ _ ⟨_,_,_,h,_⟩=>h) ?_;rintro _ w45 ⟨b62,rfl,hl62,hE,hB62⟩
     have hne24_62:b24≠b62:=by have:=hB24.lt;omega
     have hlo62:=Nat.le_trans hW.size hl62
     have haw1_62:=hr_code.away hl62
     have haw39_62:=ho39.away hl62
     have haw57_62:=ho57.away hl62
     have haw58_62:=hr58.away hl62
     have haw61_62:=ho61.away hl62
     replace hBV:=hBV.below hE
     replace hB4:=hB4.below hE
     replace hB11:=hB11.below hE
     replace hB24:=hB24.below hE
     replace hr_code:=hr_code.below hE
     replace ho39:=ho39.below hE
     replace ho57:=ho57.below hE
     replace hr58:=hr58.below hE
     replace ho61:=ho61.below hE
     replace hW:=ktr hW hE
     refine Y1 8 ?_
     refine Yt rfl trivial rfl (X0f (enc:=encG) (l:=(((((gs.take xz39.toNat)++([xz28]))++(gs.drop xz39.toNat)).take ((xz39+1+xz67).toNat)))) (l2:=([(bkG xz28)])) (B0:=w0.heap.size) rfl rfl Xd Xe Xb Xp ho61 (Rd.of_blk hB62 rfl _ hB62.lt) (by simp only [maxLen];simp;omega) (by simp;omega) hW.size) ?_;rintro _ w46 ⟨A64,c64,rfl,ho64,hg,hat⟩
     have hown:Own _ w0.heap.size 24 3 encG _ _ (((((gs.take xz39.toNat)++([xz28]))++(gs.drop xz39.toNat)).take ((xz39+1+xz67).toNat))):=ho61
     have haw64_24:=hat _ hB24.lt haw61_24
     have haw64_62:=hat _ hB62.lt haw61_62
     have hap39_64:=Apart.app ho39 hap39_61 hat
     have hap57_64:=Apart.app ho57 hap57_61 hat
     clear hat
     replace hBV:=hBV.appT hown hg rfl
     replace hB4:=hB4.appT hown hg rfl
     replace hB11:=hB11.appT hown hg rfl
     replace hB24:=hB24.appA hg haw61_24
     replace hr_code:=hr_code.appB hown hg (Nat.le_refl _)
     replace ho39:=ho39.appP hg hap39_61
     replace ho57:=ho57.appP hg hap57_61
     replace hW:=Kept.app hW hown hg (Nat.le_refl _) hW.size
     clear hown hg
     refine Y1 10 ?_
     refine Yt rfl trivial rfl (X0f (enc:=encG) (l:=(((((gs.take xz39.toNat)++([xz28]))++(gs.drop xz39.toNat)).take ((xz39+1+xz67).toNat))++([(bkG xz28)]))) (l2:=(((((gs.take xz39.toNat)++([xz28]))++(gs.drop xz39.toNat)).drop ((xz39+1+xz67).toNat)))) (B0:=w0.heap.size) rfl rfl Xd Xe Xb Xp ho64 ho57.rd (by simp only [maxLen];simp;omega) (by simp;omega) hW.size) ?_;rintro _ w47 ⟨A65,c65,rfl,ho65,hg,hat⟩
     have hown:Own _ w0.heap.size 24 3 encG _ _ (((((gs.take xz39.toNat)++([xz28]))++(gs.drop xz39.toNat)).take ((xz39+1+xz67).toNat))++([(bkG xz28)])):=ho64
     have haw65_24:=hat _ hB24.lt haw64_24
     have hap39_65:=Apart.app ho39 hap39_64 hat
     have hap57_65:=Apart.app ho57 hap57_64 hat
     clear hat
     replace hBV:=hBV.appT hown hg rfl
     replace hB4:=hB4.appT hown hg rfl
     replace hB11:=hB11.appT hown hg rfl
     replace hB24:=hB24.appA hg haw64_24
     replace hr_code:=hr_code.appB hown hg (Nat.le_refl _)
     replace ho39:=ho39.appP hg hap39_64
     replace ho57:=ho57.appP hg hap57_64
     replace hW:=Kept.app hW hown hg (Nat.le_refl _) hW.size
     clear hown hg
     refine Yo 11 rfl (fun _=>Vd rfl Xw 1) ?_
     refine Y1 12 ?_
     refine Yh rfl trivial rfl (Vu (vs:=[.slice A65 ((((((gs.take xz39.toNat)++([xz28]))++(gs.drop xz39.toNat)).take ((xz39+1+xz67).toNat))++([(bkG xz28)]))++((((gs.take xz39.toNat)++([xz28]))++(gs.drop xz39.toNat)).drop ((xz39+1+xz67).toNat))).length c65]) (l':=[vi cz18.n,.slice A65 ((((((gs.take xz39.toNat)++([xz28]))++(gs.drop xz39.toNat)).take ((xz39+1+xz67).toNat))++([(bkG xz28)]))++((((gs.take xz39.toNat)++([xz28]))++(gs.drop xz39.toNat)).drop ((xz39+1+xz67).toNat))).length c65]) rfl rfl X2i hB11) ?_;rintro _ w48 ⟨ho,hb⟩
     have hold:=hB11
     replace hBV:=hBV.only ho (Blk.ne hBV hold rfl)
     replace hB4:=hB4.only ho (by omega)
     replace hB24:=hB24.only ho (Blk.ne hB24 hold rfl)
     replace hr_code:=hr_code.only ho hlo11
     replace ho39:=ho39.onlyT ho hold rfl
     replace ho57:=ho57.onlyT ho hold rfl
     replace ho65:=ho65.onlyT ho hold rfl
     replace hW:=Kept.only hW ho hlo11
     clear hold
     have hB11:=hb
     clear hb ho
     refine Yd fun a hf=>?_
     exact ⟨A65,c65,hf.sub ⟨rfl,rfl,rfl,rfl,rfl,trivial⟩,ho65,hBV,hB4,hB11,hB24,hr_code,ho39,ho57,hW⟩
    refine Yk rfl trivial (X4 (k:=1) (vs:=[.agg #[vi ((bkG xz28).k),vi ((bkG xz28).a),vi ((bkG xz28).b)]]) (zs:=[vi ((bkG xz28).k),vi ((bkG xz28).a),vi ((bkG xz28).b)]) rfl Xd Xe rfl rfl) (fun _ _ ⟨_,_,_,h,_⟩=>h) ?_;rintro _ w49 ⟨b66,rfl,hl66,hE,hB66⟩
    have hne24_66:b24≠b66:=by have:=hB24.lt;omega
    have hne59_66:b59≠b66:=by have:=hB59.lt;omega
    have hlo66:=Nat.le_trans hW.size hl66
    have haw1_66:=hr_code.away hl66
    have haw39_66:=ho39.away hl66
    have haw57_66:=ho57.away hl66
    have haw58_66:=hr58.away hl66
    replace hBV:=hBV.below hE
    replace hB4:=hB4.below hE
    replace hB11:=hB11.below hE
    replace hB24:=hB24.below hE
    replace hB59:=hB59.below hE
    replace hr_code:=hr_code.below hE
    replace ho39:=ho39.below hE
    replace ho57:=ho57.below hE
    replace hr58:=hr58.below hE
    replace hW:=ktr hW hE
    refine Y1 5 ?_
    refine Yk rfl trivial (X10 (enc:=encG) (l2:=(((((gs.take xz39.toNat)++([xz28]))++(gs.drop xz39.toNat)).take ((xz39+1+xz67).toNat)))) rfl rfl Xd Xe Xb Xp hB59 hr58 (by simp only [maxLen];simp;omega) (by simp;omega)) (fun _ _ ⟨A68,c68,_,ho68,hE,hat⟩=>hE) ?_;rintro _ w50 ⟨A68,c68,rfl,ho68,hE,hat⟩
    have haw68_24:=hat _ hB24.lt hne24_59
    have haw68_66:=hat _ hB66.lt (Ne.symm hne59_66)
    have hap39_68:=Apart.new0 ho39 haw39_59 hat
    have hap57_68:=Apart.new0 ho57 haw57_59 hat
    clear hat
    replace ho68:=ho68.lower hlo59
    replace hBV:=hBV.below hE
    replace hB4:=hB4.below hE
    replace hB11:=hB11.below hE
    replace hB24:=hB24.below hE
    replace hB66:=hB66.below hE
    replace hr_code:=hr_code.below hE
    replace ho39:=ho39.below hE
    replace ho57:=ho57.below hE
    replace hr58:=hr58.below hE
    replace hW:=ktr hW hE
    refine Y1 8 ?_
    refine Yt rfl trivial rfl (X0f (enc:=encG) (l:=(((((gs.take xz39.toNat)++([xz28]))++(gs.drop xz39.toNat)).take ((xz39+1+xz67).toNat)))) (l2:=([(bkG xz28)])) (B0:=w0.heap.size) rfl rfl Xd Xe Xb Xp ho68 (Rd.of_blk hB66 rfl _ hB66.lt) (by simp only [maxLen];simp;omega) (by simp;omega) hW.size) ?_;rintro _ w51 ⟨A69,c69,rfl,ho69,hg,hat⟩
    have hown:Own _ w0.heap.size 24 3 encG _ _ (((((gs.take xz39.toNat)++([xz28]))++(gs.drop xz39.toNat)).take ((xz39+1+xz67).toNat))):=ho68
    have haw69_24:=hat _ hB24.lt haw68_24
    have haw69_66:=hat _ hB66.lt haw68_66
    have hap39_69:=Apart.app ho39 hap39_68 hat
    have hap57_69:=Apart.app ho57 hap57_68 hat
    clear hat
    replace hBV:=hBV.appT hown hg rfl
    replace hB4:=hB4.appT hown hg rfl
    replace hB11:=hB11.appT hown hg rfl
    replace hB24:=hB24.appA hg haw68_24
    replace hr_code:=hr_code.appB hown hg (Nat.le_refl _)
    replace ho39:=ho39.appP hg hap39_68
    replace ho57:=ho57.appP hg hap57_68
    replace hW:=Kept.app hW hown hg (Nat.le_refl _) hW.size
    clear hown hg
    refine Y1 10 ?_
    refine Yt rfl trivial rfl (X0f (enc:=encG) (l:=(((((gs.take xz39.toNat)++([xz28]))++(gs.drop xz39.toNat)).take ((xz39+1+xz67).toNat))++([(bkG xz28)]))) (l2:=(((((gs.take xz39.toNat)++([xz28]))++(gs.drop xz39.toNat)).drop ((xz39+1+xz67).toNat)))) (B0:=w0.heap.size) rfl rfl Xd Xe Xb Xp ho69 ho57.rd (by simp only [maxLen];simp;omega) (by simp;omega) hW.size) ?_;rintro _ w52 ⟨A70,c70,rfl,ho70,hg,hat⟩
    have hown:Own _ w0.heap.size 24 3 encG _ _ (((((gs.take xz39.toNat)++([xz28]))++(gs.drop xz39.toNat)).take ((xz39+1+xz67).toNat))++([(bkG xz28)])):=ho69
    have haw70_24:=hat _ hB24.lt haw69_24
    have hap39_70:=Apart.app ho39 hap39_69 hat
    have hap57_70:=Apart.app ho57 hap57_69 hat
    clear hat
    replace hBV:=hBV.appT hown hg rfl
    replace hB4:=hB4.appT hown hg rfl
    replace hB11:=hB11.appT hown hg rfl
    replace hB24:=hB24.appA hg haw69_24
    replace hr_code:=hr_code.appB hown hg (Nat.le_refl _)
    replace ho39:=ho39.appP hg hap39_69
    replace ho57:=ho57.appP hg hap57_69
    replace hW:=Kept.app hW hown hg (Nat.le_refl _) hW.size
    clear hown hg
    refine Yo 11 rfl (fun _=>Vd rfl Xw 1) ?_
    refine Y1 12 ?_
    refine Yh rfl trivial rfl (Vu (vs:=[.slice A70 ((((((gs.take xz39.toNat)++([xz28]))++(gs.drop xz39.toNat)).take ((xz39+1+xz67).toNat))++([(bkG xz28)]))++((((gs.take xz39.toNat)++([xz28]))++(gs.drop xz39.toNat)).drop ((xz39+1+xz67).toNat))).length c70]) (l':=[vi cz18.n,.slice A70 ((((((gs.take xz39.toNat)++([xz28]))++(gs.drop xz39.toNat)).take ((xz39+1+xz67).toNat))++([(bkG xz28)]))++((((gs.take xz39.toNat)++([xz28]))++(gs.drop xz39.toNat)).drop ((xz39+1+xz67).toNat))).length c70]) rfl rfl X2i hB11) ?_;rintro _ w53 ⟨ho,hb⟩
    have hold:=hB11
    replace hBV:=hBV.only ho (Blk.ne hBV hold rfl)
    replace hB4:=hB4.only ho (by omega)
    replace hB24:=hB24.only ho (Blk.ne hB24 hold rfl)
    replace hr_code:=hr_code.only ho hlo11
    replace ho39:=ho39.onlyT ho hold rfl
    replace ho57:=ho57.onlyT ho hold rfl
    replace ho70:=ho70.onlyT ho hold rfl
    replace hW:=Kept.only hW ho hlo11
    clear hold
    have hB11:=hb
    clear hb ho
    refine Yd fun a hf=>?_
    exact ⟨A70,c70,hf.sub ⟨rfl,rfl,rfl,rfl,rfl,trivial⟩,ho70,hBV,hB4,hB11,hB24,hr_code,ho39,ho57,hW⟩
   refine Yk rfl trivial (X4 (k:=1) (vs:=[.agg #[vi ((bkG xz28).k),vi ((bkG xz28).a),vi ((bkG xz28).b)]]) (zs:=[vi ((bkG xz28).k),vi ((bkG xz28).a),vi ((bkG xz28).b)]) rfl Xd Xe rfl rfl) (fun _ _ ⟨_,_,_,h,_⟩=>h) ?_;rintro _ w54 ⟨b71,rfl,hl71,hE,hB71⟩
   have hne24_71:b24≠b71:=by have:=hB24.lt;omega
   have hlo71:=Nat.le_trans hW.size hl71
   have haw1_71:=hr_code.away hl71
   have haw39_71:=ho39.away hl71
   have haw57_71:=ho57.away hl71
   have haw58_71:=hr58.away hl71
   replace hBV:=hBV.below hE
   replace hB4:=hB4.below hE
   replace hB11:=hB11.below hE
   replace hB24:=hB24.below hE
   replace hr_code:=hr_code.below hE
   replace ho39:=ho39.below hE
   replace ho57:=ho57.below hE
   replace hr58:=hr58.below hE
   replace hW:=ktr hW hE
   refine Y1 0 ?_
   refine Yk rfl trivial (X4 (k:=0) (vs:=[]) (zs:=[]) rfl Xd Xe rfl rfl) (fun _ _ ⟨_,_,_,h,_⟩=>h) ?_;rintro _ w55 ⟨b73,rfl,hl73,hE,hB73⟩
   have hne24_73:b24≠b73:=by have:=hB24.lt;omega
   have hne71_73:b71≠b73:=by have:=hB71.lt;omega
   have hlo73:=Nat.le_trans hW.size hl73
   have haw1_73:=hr_code.away hl73
   have haw39_73:=ho39.away hl73
   have haw57_73:=ho57.away hl73
   have haw58_73:=hr58.away hl73
   replace hBV:=hBV.below hE
   replace hB4:=hB4.below hE
   replace hB11:=hB11.below hE
   replace hB24:=hB24.below hE
   replace hB71:=hB71.below hE
   replace hr_code:=hr_code.below hE
   replace ho39:=ho39.below hE
   replace ho57:=ho57.below hE
   replace hr58:=hr58.below hE
   replace hW:=ktr hW hE
   refine Y1 5 ?_
   refine Yk rfl trivial (X10 (enc:=encG) (l2:=(((((gs.take xz39.toNat)++([xz28]))++(gs.drop xz39.toNat)).take ((xz39+1+xz67).toNat)))) rfl rfl Xd Xe Xb Xp hB73 hr58 (by simp only [maxLen];simp;omega) (by simp;omega)) (fun _ _ ⟨A75,c75,_,ho75,hE,hat⟩=>hE) ?_;rintro _ w56 ⟨A75,c75,rfl,ho75,hE,hat⟩
   have haw75_24:=hat _ hB24.lt hne24_73
   have haw75_71:=hat _ hB71.lt hne71_73
   have hap39_75:=Apart.new0 ho39 haw39_73 hat
   have hap57_75:=Apart.new0 ho57 haw57_73 hat
   clear hat
   replace ho75:=ho75.lower hlo73
   replace hBV:=hBV.below hE
   replace hB4:=hB4.below hE
   replace hB11:=hB11.below hE
   replace hB24:=hB24.below hE
   replace hB71:=hB71.below hE
   replace hr_code:=hr_code.below hE
   replace ho39:=ho39.below hE
   replace ho57:=ho57.below hE
   replace hr58:=hr58.below hE
   replace hW:=ktr hW hE
   refine Y1 8 ?_
   refine Yt rfl trivial rfl (X0f (enc:=encG) (l:=(((((gs.take xz39.toNat)++([xz28]))++(gs.drop xz39.toNat)).take ((xz39+1+xz67).toNat)))) (l2:=([(bkG xz28)])) (B0:=w0.heap.size) rfl rfl Xd Xe Xb Xp ho75 (Rd.of_blk hB71 rfl _ hB71.lt) (by simp only [maxLen];simp;omega) (by simp;omega) hW.size) ?_;rintro _ w57 ⟨A76,c76,rfl,ho76,hg,hat⟩
   have hown:Own _ w0.heap.size 24 3 encG _ _ (((((gs.take xz39.toNat)++([xz28]))++(gs.drop xz39.toNat)).take ((xz39+1+xz67).toNat))):=ho75
   have haw76_24:=hat _ hB24.lt haw75_24
   have haw76_71:=hat _ hB71.lt haw75_71
   have hap39_76:=Apart.app ho39 hap39_75 hat
   have hap57_76:=Apart.app ho57 hap57_75 hat
   clear hat
   replace hBV:=hBV.appT hown hg rfl
   replace hB4:=hB4.appT hown hg rfl
   replace hB11:=hB11.appT hown hg rfl
   replace hB24:=hB24.appA hg haw75_24
   replace hr_code:=hr_code.appB hown hg (Nat.le_refl _)
   replace ho39:=ho39.appP hg hap39_75
   replace ho57:=ho57.appP hg hap57_75
   replace hW:=Kept.app hW hown hg (Nat.le_refl _) hW.size
   clear hown hg
   refine Y1 10 ?_
   refine Yt rfl trivial rfl (X0f (enc:=encG) (l:=(((((gs.take xz39.toNat)++([xz28]))++(gs.drop xz39.toNat)).take ((xz39+1+xz67).toNat))++([(bkG xz28)]))) (l2:=(((((gs.take xz39.toNat)++([xz28]))++(gs.drop xz39.toNat)).drop ((xz39+1+xz67).toNat)))) (B0:=w0.heap.size) rfl rfl Xd Xe Xb Xp ho76 ho57.rd (by simp only [maxLen];simp;omega) (by simp;omega) hW.size) ?_;rintro _ w58 ⟨A77,c77,rfl,ho77,hg,hat⟩
   have hown:Own _ w0.heap.size 24 3 encG _ _ (((((gs.take xz39.toNat)++([xz28]))++(gs.drop xz39.toNat)).take ((xz39+1+xz67).toNat))++([(bkG xz28)])):=ho76
   have haw77_24:=hat _ hB24.lt haw76_24
   have hap39_77:=Apart.app ho39 hap39_76 hat
   have hap57_77:=Apart.app ho57 hap57_76 hat
   clear hat
   replace hBV:=hBV.appT hown hg rfl
   replace hB4:=hB4.appT hown hg rfl
   replace hB11:=hB11.appT hown hg rfl
   replace hB24:=hB24.appA hg haw76_24
   replace hr_code:=hr_code.appB hown hg (Nat.le_refl _)
   replace ho39:=ho39.appP hg hap39_76
   replace ho57:=ho57.appP hg hap57_76
   replace hW:=Kept.app hW hown hg (Nat.le_refl _) hW.size
   clear hown hg
   refine Yo 11 rfl (fun _=>Vd rfl Xw 1) ?_
   refine Y1 12 ?_
   refine Yh rfl trivial rfl (Vu (vs:=[.slice A77 ((((((gs.take xz39.toNat)++([xz28]))++(gs.drop xz39.toNat)).take ((xz39+1+xz67).toNat))++([(bkG xz28)]))++((((gs.take xz39.toNat)++([xz28]))++(gs.drop xz39.toNat)).drop ((xz39+1+xz67).toNat))).length c77]) (l':=[vi cz18.n,.slice A77 ((((((gs.take xz39.toNat)++([xz28]))++(gs.drop xz39.toNat)).take ((xz39+1+xz67).toNat))++([(bkG xz28)]))++((((gs.take xz39.toNat)++([xz28]))++(gs.drop xz39.toNat)).drop ((xz39+1+xz67).toNat))).length c77]) rfl rfl X2i hB11) ?_;rintro _ w59 ⟨ho,hb⟩
   have hold:=hB11
   replace hBV:=hBV.only ho (Blk.ne hBV hold rfl)
   replace hB4:=hB4.only ho (by omega)
   replace hB24:=hB24.only ho (Blk.ne hB24 hold rfl)
   replace hr_code:=hr_code.only ho hlo11
   replace ho39:=ho39.onlyT ho hold rfl
   replace ho57:=ho57.onlyT ho hold rfl
   replace ho77:=ho77.onlyT ho hold rfl
   replace hW:=Kept.only hW ho hlo11
   clear hold
   have hB11:=hb
   clear hb ho
   refine Yd fun a hf=>?_
   exact ⟨A77,c77,hf.sub ⟨rfl,rfl,rfl,rfl,rfl,trivial⟩,ho77,hBV,hB4,hB11,hB24,hr_code,ho39,ho57,hW⟩
  rintro a w60 ⟨A65,c65,hf,ho65,hBV,hB4,hB11,hB24,hr_code,ho39,ho57,hW⟩
  refine Xf ?_
  refine hK18 _ _ ?_
  refine Zr hf ?_
  refine Zm rfl<|Ze (X1d rfl rfl (by omega) (by omega))<|Za rfl ?_
  refine Zn fun a hf=>?_
  refine Xn ?_
  exact ⟨(j-1,(((((gs.take xz39.toNat)++([xz28]))++(gs.drop xz39.toNat)).take ((xz39+1+xz67).toNat))++([(bkG xz28)]))++((((gs.take xz39.toNat)++([xz28]))++(gs.drop xz39.toNat)).drop ((xz39+1+xz67).toNat)),tz67,sz67),⟨A65,c65,hf.sub ⟨rfl,rfl,rfl,rfl,rfl,trivial⟩,(by simp;omega),(by omega),hBV,hB4,hB11,hr_code,ho65,hW⟩,(by first|omega|(dsimp only;omega))⟩
 have hc17b:=hc17
 have hc17:=of_decide_eq_false hc17
 refine wp_exit ?_
 refine Xs ?_
 refine Xs ?_
 refine X0h ?_
 refine hK12 _ _ ?_
 refine Zs hf fun _ hK78=>?_
 refine Ze (Vn X0c hB11) ?_
 refine Zo (Vw [vi cz18.n,.slice A14 gs.length c14] X1h hB4) ?_;rintro _ w61 ⟨ho,hb⟩
 have hold:=hB4
 replace hBV:=hBV.only ho (Blk.ne hBV hold rfl)
 replace hB11:=hB11.only ho (by omega)
 replace hr_code:=hr_code.only ho hlo4
 replace ho14:=ho14.onlyT ho hold rfl
 replace hW:=Kept.only hW ho hlo4
 clear hold
 have hB4:=hb
 clear hb ho
 refine Zt hK78 fun a hf=>?_
 refine wp_ret (X2 hf (Xo hf rfl (ResV.cellN (l:=[vi cz18.n,.slice A14 gs.length c14]) rfl X0c (hB4.at 0) rfl)) ?_)
 exact ⟨⟨_,gs⟩,A14,c14,_,_,rfl,⟨(by show 1≤cz18.n∧cz18.n≤3;omega),(by show gs.length≤14;omega)⟩,⟨by omega,by omega⟩,ho14,hW,hBV⟩
end Go.Proofs.YtlfjcmldfbfdbaaGreat
namespace Go.Proofs.YtlfjcmldfbfdbaaGreat
open Go.RowKit
theorem DeepR.nil(w:World)(B:Nat)(E:TypeId) : DeepR w B E []:=fun s hs=>by simp at hs
theorem DeepR.snoc{w:World}{B:Nat}{E:TypeId}{l:List Sr}{x:Sr}(h:DeepR w B E l)(h1:Rd w B E encG x.A x.old)(h2:Rd w B E encG x.B x.new) : DeepR w B E (l++[x]):=fun s hs=>by
 rcases List.mem_append.1 hs with hs|hs
 ·exact h s hs
 ·rw [List.mem_singleton] at hs
  subst hs
  exact ⟨h1,h2⟩
section
variable {P : Program} {a : Act} {w : World} {n : Nat} {e : Env} {ty : TypeId} {pos : String} {af : Array Edge} {g : Option (Nat × Bool)} {d : Option Tmp}
theorem Xeh{T f k:Nat}{x:Operand}{vs:List Value}{v:Value}(hf:Fr a n e)(hx:ev e x=some (.agg vs.toArray))(hF:∃ fs F,P.underlying T=some (.struct fs)∧fs[f]? = some F∧F.offset=k∧OneT P F.type)(hv:vs[k]? = some v) : Ev P ⟨d,.field T x f,ty,pos,af,g⟩ a w v:=fun w' _=>by
 obtain ⟨fs,F,h1,h2,h3,dd,h4,h5⟩:=hF
 have h6:=X3e (P:=P) (w:=w') ⟨dd,h4,h5⟩
 simp [execOp,hf.ev hx,Instr.field,X0s h1,h2,asAgg,part,h6,h3,hv]
theorem Xhz{T f k:Nat}{x:Operand}{vs:List Value}{v:Value}(hx:ev e x=some (.agg vs.toArray))(hF:∃ fs F,P.underlying T=some (.struct fs)∧fs[f]? = some F∧F.offset=k∧OneT P F.type)(hv:vs[k]? = some v) : EvW P ⟨d,.field T x f,ty,pos,af,g⟩ n e w v:=fun a hf=>Xeh hf hx hF hv
end
theorem X5z{l:List Gt}{k:Nat}(d:Gt)(h:k<l.length) : l[k]? = some (l.getD k d):=by
 rw [List.getD_eq_getElem?_getD,List.getElem?_eq_getElem h];rfl
theorem Xbg(g:Gt) : ∀ (l:List Gt) (j:Nat),j≤nextC g l j
 | [],j=>Nat.le_refl _
 | h::l,j=>by
  unfold nextC
  split
  ·exact Nat.le_refl _
  ·exact Nat.le_trans (Nat.le_succ j) (Xbg g l (j+1))
theorem X8x{gs:List Gt}{r:Rp} : ∀ n,canF gs n=some r→∃ i,i<n∧canAt gs i=some r
 | 0,h=>by cases h
 | n+1,h=>by
  unfold canF at h
  split at h
  ·rename_i r' h1
   injection h with h
   subst h
   obtain ⟨i,h2,h3⟩:=X8x n h1
   exact ⟨i,by omega,h3⟩
  ·exact ⟨n,by omega,h⟩
theorem Xed{gs:List Gt}{r:Rp}(h:canS gs=some r) : ∃ i j g,gs[i]? = some g∧gs[j]? = some (bkG g)∧g.k≠12∧i<j∧j<gs.length∧j<i+40∧j=canJ g gs i∧r=canR gs i j:=by
 obtain ⟨i,hi,h1⟩:=X8x _ h
 unfold canAt at h1
 split at h1
 ·cases h1
 ·rename_i g hg
  split at h1
  ·rename_i hb
   injection h1 with h1
   unfold canB at hb
   simp only [Bool.and_eq_true,bne_iff_ne,decide_eq_true_eq] at hb
   have:=Xbg g (gs.drop (i+1)) (i+1)
   exact ⟨i,canJ g gs i,g,hg,hb.2.2.2,hb.1,by unfold canJ;omega,by omega,by omega,rfl,h1.symm⟩
  ·cases h1
theorem Xcl{n:Int}{gs:List Gt}{r:Rp}(hc:cOk ⟨n,gs⟩=true)(h:canS gs=some r) :
  ∃ d,applyS ⟨n,gs⟩ r=some d∧d.n=n∧cOk d=true∧d.gs.length+2=gs.length∧r.old.length≤41∧r.new.length≤41:=by
 obtain ⟨i,j,g,hi,hj,hk,hij,hjl,h40,_,rfl⟩:=Xed h
 obtain ⟨hn,hl,hg⟩:=X20 hc
 dsimp only at hn hl hg
 have lo:(canR gs i j).old.length=j+1-i:=by simp [canR];omega
 have ln:(canR gs i j).new.length=j-i-1:=by simp [canR];omega
 have e2:((gs.take ((canR gs i j).pos.toNat+(canR gs i j).old.length)).drop (canR gs i j).pos.toNat)=(canR gs i j).old:=by
  rw [lo]
  show (gs.take ((i:Int).toNat+(j+1-i))).drop (i:Int).toNat=(gs.take (j+1)).drop i
  rw [Int.toNat_natCast,show i+(j+1-i)=j+1 by omega]
 have mo:∀ x ∈ (canR gs i j).old,gOk n x=true:=fun x hx=>hg x (List.mem_of_mem_take (List.mem_of_mem_drop hx))
 have mn:∀ x ∈ (canR gs i j).new,gOk n x=true:=fun x hx=>hg x (List.mem_of_mem_take (List.mem_of_mem_drop hx))
 have hv:validS n (canR gs i j)=true:=by
  unfold validS
  simp only [Bool.and_eq_true,X02,decide_eq_true_eq,Bool.not_eq_true',List.any_eq_false,lo,ln]
  refine ⟨⟨⟨hn,?_⟩,⟨fun x hx=>by simp [mo x hx],by omega⟩⟩,⟨fun x hx=>by simp [mn x hx],by omega⟩⟩
  show 0≤(i:Int)∧(i:Int)≤400
  omega
 have hf:fitS ⟨n,gs⟩ (canR gs i j)=true:=by
  unfold fitS
  rw [hv,lo,ln]
  simp only [Bool.true_and,Bool.and_eq_true,decide_eq_true_eq]
  constructor
  ·show (i:Int)+((j+1-i:Nat) : Int)≤(gs.length:Int)
   omega
  ·omega
 have ha:=X6z hf e2
 have hk2:=(X4h hc).2 _ ha
 refine ⟨_,ha,hk2.2.1,hk2.1,?_,by omega,by omega⟩
 show (gs.take (canR gs i j).pos.toNat++(canR gs i j).new++gs.drop ((canR gs i j).pos.toNat+(canR gs i j).old.length)).length+2=_
 rw [List.length_append,List.length_append,ln,lo,List.length_take,List.length_drop]
 show min (i:Int).toNat gs.length+(j-i-1)+(gs.length-((i:Int).toNat+(j+1-i)))+2=gs.length
 rw [Int.toNat_natCast]
 omega
def canRun(n:Int) : Nat→List Gt→List Rp×Cx
 | 0,gs=>([],⟨n,gs⟩)
 | k+1,gs=>match canS gs with
  | none=>([],⟨n,gs⟩)
  | some r=>(r::(canRun n k ((applyS ⟨n,gs⟩ r).getD cZ).gs).1,(canRun n k ((applyS ⟨n,gs⟩ r).getD cZ).gs).2)
def canC(c:Cx) : Cx×List Rp×Cx:=if cOk c=true then (c,canRun c.n c.gs.length c.gs) else (cZ,[],cZ)
theorem X6t{n:Int}{gs:List Gt}(h:canS gs=none) : ∀ k,canRun n k gs=([],⟨n,gs⟩)
 | 0=>rfl
 | k+1=>by unfold canRun;rw [h]
theorem X6u{n:Int}{gs:List Gt}{r:Rp}(h:canS gs=some r)(k:Nat) : canRun n (k+1) gs=(r::(canRun n k ((applyS ⟨n,gs⟩ r).getD cZ).gs).1,(canRun n k ((applyS ⟨n,gs⟩ r).getD cZ).gs).2):=by
 conv=>lhs;unfold canRun
 rw [h]
structure CanI (c:Cx) (l:List Sr) (d:Cx) (k:Nat) : Prop where
 run:canRun c.n c.gs.length c.gs=(l.map Sr.rp++(canRun c.n k d.gs).1,(canRun c.n k d.gs).2)
 ok:cOk d=true
 n:d.n=c.n
 le:d.gs.length≤k
 len:l.length+d.gs.length≤c.gs.length
 small:∀ s ∈ l,s.old.length≤41∧s.new.length≤41
theorem CanI.start{c:Cx}(h:cOk c=true) : CanI c [] c c.gs.length:=⟨rfl,h,rfl,Nat.le_refl _,by simp,fun s hs=>by simp at hs⟩
theorem CanI.next{c d:Cx}{l:List Sr}{k:Nat}(h:CanI c l d k){r:Rp}(hr:canS d.gs=some r){s:Sr}(hs:s.rp=r) : ∃ k',k=k'+1∧CanI c (l++[s]) ((applyS d r).getD cZ) k':=by
 have hd:d=⟨c.n,d.gs⟩:=by cases d;have:=h.n;simp only at this;rw [this]
 have hok:=h.ok
 rw [hd] at hok
 obtain ⟨e,he,e1,e2,e3,e4,e5⟩:=Xcl hok hr
 have hle:=h.le
 obtain ⟨k',rfl⟩ : ∃ k',k=k'+1:=⟨k-1,by omega⟩
 have hd2:applyS d r=some e:=by rw [hd];exact he
 refine ⟨k',rfl,?_⟩
 rw [hd2,Option.getD_some]
 have hrun:=h.run
 rw [X6u hr k',he,Option.getD_some] at hrun
 refine ⟨?_,e2,e1,by omega,by have:=h.len;simp;omega,fun x hx=>?_⟩
 ·rw [hrun,List.map_append,List.append_assoc]
  simp [hs]
 ·rcases List.mem_append.1 hx with hx|hx
  ·exact h.small x hx
  ·rw [List.mem_singleton] at hx
   subst hx
   subst hs
   exact ⟨e4,e5⟩
theorem CanI.done{c d:Cx}{l:List Sr}{k:Nat}(h:CanI c l d k)(hc:cOk c=true)(hn:canS d.gs=none) : canC c=(c,l.map Sr.rp,d):=by
 unfold canC
 rw [if_pos hc,h.run,X6t hn k,List.append_nil]
 have:=h.n
 cases d
 simp only at this
 rw [this]
#print axioms CanI.next
end Go.Proofs.YtlfjcmldfbfdbaaGreat
set_option maxRecDepth 4000
namespace Go.Proofs.YtlfjcmldfbfdbaaGreat
open Go.RowKit
theorem Xnm(w0:World)(x:Gt)(y:Gt) : Ret Tryz.prog 157 [.agg #[vi x.k,vi x.a,vi x.b],.agg #[vi y.k,vi y.a,vi y.b]] w0 (fun v w=>v=.bool (metS x y)∧Below w0.heap.size w0 w):=by
 refine enter Tryz.func157 rfl 21 rfl rfl ?_
 intro a hf
 have hW:Below w0.heap.size w0 w0:=Below.refl _ _
 refine Zs hf fun _ hK1=>?_
 refine Zf (X0p (zs:=[vi x.k,vi x.a,vi x.b]) rfl rfl) ?_;rintro _ w1 ⟨b2,rfl,hl2,hE,hB2⟩
 have hlo2:=Nat.le_trans hW.size hl2
 replace hW:=btr hW hE
 refine Zf (X0p (zs:=[vi y.k,vi y.a,vi y.b]) rfl rfl) ?_;rintro _ w2 ⟨b3,rfl,hl3,hE,hB3⟩
 have hne2_3:b2≠b3:=by have:=hB2.lt;omega
 have hlo3:=Nat.le_trans hW.size hl3
 replace hB2:=hB2.below hE
 replace hW:=btr hW hE
 refine Za rfl ?_
 refine Zt hK1 fun a hf=>?_
 refine wp_seq_k fun _ hK4=>?_
 refine Zs hf fun _ hK5=>?_
 refine Ze (Vn X08 hB2) ?_
 refine Zf (X4 (k:=1) (vs:=[.agg #[vi x.k,vi x.a,vi x.b]]) (zs:=[vi x.k,vi x.a,vi x.b]) rfl Xd Xe rfl rfl) ?_;rintro _ w3 ⟨b6,rfl,hl6,hE,hB6⟩
 have hne2_6:b2≠b6:=by have:=hB2.lt;omega
 have hne3_6:b3≠b6:=by have:=hB3.lt;omega
 have hlo6:=Nat.le_trans hW.size hl6
 replace hB2:=hB2.below hE
 replace hB3:=hB3.below hE
 replace hW:=btr hW hE
 refine Zf (Vc (F87 _ (some ⟨b6,0,none⟩) 1 ([x]) (Rd.of_blk hB6 rfl _ hB6.lt) (by simp)) Xfs) ?_;rintro _ w4 ⟨A8,c8,rfl,ho8,hE⟩
 replace ho8:=ho8.lower hW.size
 replace hB2:=hB2.below hE
 replace hB3:=hB3.below hE
 replace hB6:=hB6.below hE
 replace hW:=btr hW hE
 refine Ze (X0v rfl X16)<|Zm rfl ?_
 refine Zt hK5 fun a hf=>?_
 refine wp_block ?_
 refine X0j (σ:=Nat) (fun (k:Nat) (a:Act) (w:World)=>Fr a 21 [(3,.pointer (some ⟨b3,0,none⟩)),(9,.slice A8 (usedS ([x])).length c8),(10,vi ((usedS ([x])).length:Int)),(11,vi (k:Int))]∧(k≤(usedS [x]).length)∧(((usedS [x]).take k).any (fun q=>(usedS [y]).any fun z=>z==q)=false)∧Blk w b3 24 [vi y.k,vi y.a,vi y.b]∧Own w w0.heap.size 3 1 encI A8 c8 (usedS ([x]))∧Below w0.heap.size w0 w) (fun (k:Nat)=>(usedS [x]).length-k) 0 ?_ ?_
 ·exact ⟨hf.sub ⟨rfl,rfl,rfl,rfl,trivial⟩,(Nat.zero_le _),(by simp),hB3,ho8,hW⟩
 rintro k a w5 ⟨hf,hk,hpre,hB3,ho8,hW⟩
 have hux:=X56 [x]
 simp at hux
 refine Zs hf fun _ hK9=>?_
 refine Ze (X1k rfl rfl) ?_
 refine Zt hK9 fun a hf=>?_
 refine wp_seq_k fun _ hK10=>?_
 refine Xi hf rfl (fun hc11=>?_) (fun hc11=>?_)
 ·have hc11b:=hc11
  have hc11:=of_decide_eq_true hc11
  obtain ⟨u12,hu12⟩:=Xx (l:=(usedS ([x]))) (k:=k) (by omega)
  refine wp_skip ?_
  refine hK10 _ _ ?_
  refine wp_seq_k fun _ hK13=>?_
  refine wp_block ?_
  refine Zs hf fun _ hK14=>?_
  refine Zi (k:=k) (u:=u12) (enc:=encI) (l:=(usedS ([x]))) trivial rfl rfl X16 X2c X0z ho8.rd hu12 rfl ?_;intro p16 hat15
  refine Ze (X0 rfl X5 hat15)<|Za rfl ?_
  refine Zt hK14 fun a hf=>?_
  refine Zs hf fun _ hK17=>?_
  refine Ze (Vn X08 hB3) ?_
  refine Zf (X4 (k:=1) (vs:=[.agg #[vi y.k,vi y.a,vi y.b]]) (zs:=[vi y.k,vi y.a,vi y.b]) rfl Xd Xe rfl rfl) ?_;rintro _ w6 ⟨b18,rfl,hl18,hE,hB18⟩
  have hne3_18:b3≠b18:=by have:=hB3.lt;omega
  have hlo18:=Nat.le_trans hW.size hl18
  replace hB3:=hB3.below hE
  replace ho8:=ho8.below hE
  replace hW:=btr hW hE
  refine Zf (Vc (F87 _ (some ⟨b18,0,none⟩) 1 ([y]) (Rd.of_blk hB18 rfl _ hB18.lt) (by simp)) Xfs) ?_;rintro _ w7 ⟨A20,c20,rfl,ho20,hE⟩
  replace ho20:=ho20.lower hW.size
  replace hB3:=hB3.below hE
  replace hB18:=hB18.below hE
  replace ho8:=ho8.below hE
  replace hW:=btr hW hE
  refine Zm rfl ?_
  refine Zf (Vc (Xog _ A20 c20 (usedS ([y])) ho20.rd.top u12 (by have:=X56 [y];simp at this;omega)) Xlr) ?_;rintro _ w8 ⟨rfl,hE⟩
  replace hB3:=hB3.below hE
  replace hB18:=hB18.below hE
  replace ho8:=ho8.below hE
  replace ho20:=ho20.below hE
  replace hW:=btr hW hE
  refine Zt hK17 fun a hf=>?_
  refine Xi hf rfl (fun hc21=>?_) (fun hc21=>?_)
  ·have hc21b:=hc21
   have hfin:metS x y=true:=Xoi hu12 hc21
   refine Zs hf fun _ hK22=>?_
   refine Za rfl ?_
   refine Zt hK22 fun a hf=>?_
   refine wp_ret ?_
   refine Xy ?_
   refine X8 ?_
   refine X8 ?_
   refine Xy ?_
   refine X8 ?_
   refine X2 hf (Xo hf rfl rfl) ?_
   exact ⟨by rw [hfin],hW⟩
  have hc21b:=hc21
  have hne:=hc21
  refine wp_skip ?_
  refine Xf ?_
  refine hK13 _ _ ?_
  refine Zr hf ?_
  refine Ze (Xv rfl rfl (by omega) (by omega))<|Zm rfl ?_
  refine Zn fun a hf=>?_
  refine Xn ?_
  exact ⟨k+1,⟨hf.sub ⟨rfl,rfl,rfl,rfl,trivial⟩,(by omega),(Xp2 hpre hu12 hne),hB3,ho8,hW⟩,(by omega)⟩
 have hc11b:=hc11
 have hc11:=of_decide_eq_false hc11
 have hfin:metS x y=false:=Xnv hpre (by omega)
 refine wp_exit ?_
 refine Xs ?_
 refine Xs ?_
 refine X0h ?_
 refine hK4 _ _ ?_
 refine Zs hf fun _ hK23=>?_
 refine Za rfl ?_
 refine Zt hK23 fun a hf=>?_
 refine wp_ret (X2 hf (Xo hf rfl rfl) ?_)
 exact ⟨by rw [hfin],hW⟩
theorem Xdj(w0:World)(c:Cx)(Ac:Option Addr)(cc:Nat)(hr_c:Rd w0 w0.heap.size 24 encG Ac c.gs)(hln:c.gs.length≤100000000) : Ret Tryz.prog 94 [.agg #[vi c.n,.slice Ac c.gs.length cc]] w0 (fun v w=>∃ A e,v=.agg #[vi c.n,.slice A c.gs.length e]∧Own w w0.heap.size 24 3 encG A e c.gs∧Below w0.heap.size w0 w):=by
 refine enter Tryz.func94 rfl 10 rfl rfl ?_
 intro a hf
 have hW:Below w0.heap.size w0 w0:=Below.refl _ _
 refine Zs hf fun _ hK2=>?_
 refine Zf (X0p (zs:=[vi c.n,.slice Ac c.gs.length cc]) rfl rfl) ?_;rintro _ w1 ⟨b3,rfl,hl3,hE,hB3⟩
 have hlo3:=Nat.le_trans hW.size hl3
 replace hW:=btr hW hE
 refine Zf (Xa (zs:=[vi 0,.slice none 0 0]) X37 rfl) ?_;rintro _ w2 ⟨b5,rfl,hl5,hE,hB5⟩
 have hne3_5:b3≠b5:=by have:=hB3.lt;omega
 have hlo5:=Nat.le_trans hW.size hl5
 replace hB3:=hB3.below hE
 replace hW:=btr hW hE
 refine Zt hK2 fun a hf=>?_
 refine wp_seq_k fun _ hK6=>?_
 refine X09 (fun a w=>∃ A9 c9,Fr a 10 [(2,.pointer (some ⟨b5,0,none⟩))]∧Own w w0.heap.size 24 3 encG A9 c9 c.gs∧Blk w b3 31 [vi c.n,.slice Ac c.gs.length cc]∧Blk w b5 31 [vi c.n,.slice A9 c.gs.length c9]∧Below w0.heap.size w0 w) ?_ ?_
 ·refine Xu none (fun j=>[5,7].contains j) mixed ?_
  intro w3 hE
  replace hB3:=hB3.below hE
  replace hB5:=hB5.below hE
  replace hW:=btr hW hE
  refine Yb hf ?_
  refine Yo 0 rfl (fun _=>Vd rfl X1b 0)<|Yo 3 rfl (fun _=>Vd rfl Xw 1)<|Ye 4 rfl (X0 rfl X06 (hB3.at 1)) ?_
  refine Y2 1 2 ?_ ?_
  ·refine Yz rfl trivial (Uev (X0 rfl X5 (hB3.at 0))) ?_
   refine Y1 2 ?_
   refine Yk rfl trivial (X4 (k:=0) (vs:=[]) (zs:=[]) rfl Xd Xe rfl rfl) (fun _ _ ⟨_,_,_,h,_⟩=>h) ?_;rintro _ w4 ⟨b7,rfl,hl7,hE,hB7⟩
   have hlo7:=Nat.le_trans hW.size hl7
   have haw1_7:=(hr_c.below' hW).away hl7
   replace hB3:=hB3.below hE
   replace hB5:=hB5.below hE
   replace hW:=btr hW hE
   refine Y1 5 ?_
   refine Yt rfl trivial rfl (X2e (enc:=encG) (l2:=(c.gs)) rfl rfl Xd Xe Xb Xp hB7 (hr_c.below' hW) (by simp only [maxLen];omega) (by omega)) ?_;rintro _ w5 ⟨A9,c9,rfl,ho9,hE⟩
   replace ho9:=ho9.lower hlo7
   replace hB3:=hB3.below hE
   replace hB5:=hB5.below hE
   replace hW:=btr hW hE
   refine Yo 6 rfl (fun _=>Xh (ps:=[(0,vi c.n),(1,.slice A9 c.gs.length c9)]) (cs:=[vi c.n,.slice A9 c.gs.length c9]) rfl (fun _=>by first|rfl|kernel_rfl)) ?_
   refine Y1 7 ?_
   refine Yh rfl trivial rfl (Vw [vi c.n,.slice A9 c.gs.length c9] X1h hB5) ?_;rintro _ w6 ⟨ho,hb⟩
   have hold:=hB5
   replace hB3:=hB3.only ho (by omega)
   replace ho9:=ho9.onlyT ho hold rfl
   replace hW:=Below.only hW ho hlo5
   clear hold
   have hB5:=hb
   clear hb ho
   refine Yd fun a hf=>?_
   exact ⟨A9,c9,hf.sub ⟨rfl,trivial⟩,ho9,hB3,hB5,hW⟩
  refine Yk rfl trivial (X4 (k:=0) (vs:=[]) (zs:=[]) rfl Xd Xe rfl rfl) (fun _ _ ⟨_,_,_,h,_⟩=>h) ?_;rintro _ w7 ⟨b11,rfl,hl11,hE,hB11⟩
  have hlo11:=Nat.le_trans hW.size hl11
  have haw1_11:=(hr_c.below' hW).away hl11
  replace hB3:=hB3.below hE
  replace hB5:=hB5.below hE
  replace hW:=btr hW hE
  refine Y2 1 5 ?_ ?_
  ·refine Yz rfl trivial (Uev (X0 rfl X5 (hB3.at 0))) ?_
   refine Y1 5 ?_
   refine Yt rfl trivial rfl (X2e (enc:=encG) (l2:=(c.gs)) rfl rfl Xd Xe Xb Xp hB11 (hr_c.below' hW) (by simp only [maxLen];omega) (by omega)) ?_;rintro _ w8 ⟨A13,c13,rfl,ho13,hE⟩
   replace ho13:=ho13.lower hlo11
   replace hB3:=hB3.below hE
   replace hB5:=hB5.below hE
   replace hW:=btr hW hE
   refine Yo 6 rfl (fun _=>Xh (ps:=[(0,vi c.n),(1,.slice A13 c.gs.length c13)]) (cs:=[vi c.n,.slice A13 c.gs.length c13]) rfl (fun _=>by first|rfl|kernel_rfl)) ?_
   refine Y1 7 ?_
   refine Yh rfl trivial rfl (Vw [vi c.n,.slice A13 c.gs.length c13] X1h hB5) ?_;rintro _ w9 ⟨ho,hb⟩
   have hold:=hB5
   replace hB3:=hB3.only ho (by omega)
   replace ho13:=ho13.onlyT ho hold rfl
   replace hW:=Below.only hW ho hlo5
   clear hold
   have hB5:=hb
   clear hb ho
   refine Yd fun a hf=>?_
   exact ⟨A13,c13,hf.sub ⟨rfl,trivial⟩,ho13,hB3,hB5,hW⟩
  refine Yt rfl trivial rfl (X2e (enc:=encG) (l2:=(c.gs)) rfl rfl Xd Xe Xb Xp hB11 (hr_c.below' hW) (by simp only [maxLen];omega) (by omega)) ?_;rintro _ w10 ⟨A15,c15,rfl,ho15,hE⟩
  replace ho15:=ho15.lower hlo11
  replace hB3:=hB3.below hE
  replace hB5:=hB5.below hE
  replace hW:=btr hW hE
  refine Y1 1 ?_
  refine Yz rfl trivial (Uev (X0 rfl X5 (hB3.at 0))) ?_
  refine Yo 6 rfl (fun _=>Xh (ps:=[(0,vi c.n),(1,.slice A15 c.gs.length c15)]) (cs:=[vi c.n,.slice A15 c.gs.length c15]) rfl (fun _=>by first|rfl|kernel_rfl)) ?_
  refine Y1 7 ?_
  refine Yh rfl trivial rfl (Vw [vi c.n,.slice A15 c.gs.length c15] X1h hB5) ?_;rintro _ w11 ⟨ho,hb⟩
  have hold:=hB5
  replace hB3:=hB3.only ho (by omega)
  replace ho15:=ho15.onlyT ho hold rfl
  replace hW:=Below.only hW ho hlo5
  clear hold
  have hB5:=hb
  clear hb ho
  refine Yd fun a hf=>?_
  exact ⟨A15,c15,hf.sub ⟨rfl,trivial⟩,ho15,hB3,hB5,hW⟩
 rintro a w12 ⟨A9,c9,hf,ho9,hB3,hB5,hW⟩
 refine hK6 _ _ ?_
 refine wp_ret (X2 hf (Xo hf rfl (ResV.cellN (l:=[vi c.n,.slice A9 c.gs.length c9]) rfl X0c (hB5.at 0) rfl)) ?_)
 exact ⟨A9,c9,rfl,ho9,hW⟩
end Go.Proofs.YtlfjcmldfbfdbaaGreat
set_option maxRecDepth 4000
namespace Go.Proofs.YtlfjcmldfbfdbaaGreat
open Go.RowKit
theorem Xmt(w0:World)(c:Cx)(Ac:Option Addr)(cc:Nat)(hr_c:Rd w0 w0.heap.size 24 encG Ac c.gs)(hp_c:c.gs.length≤cc)(hln:c.gs.length≤100000000) : Ret Tryz.prog 95 [.agg #[vi c.n,.slice Ac c.gs.length cc]] w0 (fun v w=>∃ A e B f,v=.tuple #[.agg #[vi ((canS c.gs).getD rpZ).pos,.slice A ((canS c.gs).getD rpZ).old.length e,.slice B ((canS c.gs).getD rpZ).new.length f],.bool (canS c.gs).isSome]∧Rd w w.heap.size 24 encG A ((canS c.gs).getD rpZ).old∧Rd w w.heap.size 24 encG B ((canS c.gs).getD rpZ).new∧Below w0.heap.size w0 w):=by
 refine enter Tryz.func95 rfl 86 rfl rfl ?_
 intro a hf
 have hW:Below w0.heap.size w0 w0:=Below.refl _ _
 refine Zs hf fun _ hK2=>?_
 refine Zf (X0p (zs:=[vi c.n,.slice Ac c.gs.length cc]) rfl rfl) ?_;rintro _ w1 ⟨b3,rfl,hl3,hE,hB3⟩
 have hlo3:=Nat.le_trans hW.size hl3
 replace hW:=btr hW hE
 refine Zf (Xa (zs:=[vi 0,.slice none 0 0,.slice none 0 0]) Xa0 rfl) ?_;rintro _ w2 ⟨b6,rfl,hl6,hE,hB6⟩
 have hlo6:=Nat.le_trans hW.size hl6
 replace hB3:=hB3.below hE
 replace hW:=btr hW hE
 refine Za rfl ?_
 refine Zt hK2 fun a hf=>?_
 refine wp_seq_k fun _ hK7=>?_
 refine Zs hf fun _ hK8=>?_
 refine Ze (Vd rfl Xw 1)<|Ze (X0 rfl X06 (hB3.at 1))<|Ze (X0v rfl Xd)<|Zm rfl ?_
 refine Zt hK8 fun a hf=>?_
 refine wp_block ?_
 refine X0j (σ:=Nat) (fun (i:Nat) (a:Act) (w:World)=>Fr a 86 [(1,.pointer (some ⟨b3,0,none⟩)),(2,.pointer (some ⟨b6,0,none⟩)),(10,.slice Ac c.gs.length cc),(11,vi (c.gs.length:Int)),(12,vi (i:Int))]∧(i≤c.gs.length)∧(canF c.gs i=none)∧Blk w b3 31 [vi c.n,.slice Ac c.gs.length cc]∧Blk w b6 62 [vi 0,.slice none 0 0,.slice none 0 0]∧c.gs.length≤cc∧Below w0.heap.size w0 w) (fun (i:Nat)=>c.gs.length-i) 0 ?_ ?_
 ·exact ⟨hf.sub ⟨rfl,rfl,rfl,rfl,rfl,trivial⟩,(Nat.zero_le _),rfl,hB3,hB6,hp_c,hW⟩
 rintro i a w3 ⟨hf,hi,hpre,hB3,hB6,hp_c,hW⟩
 refine Zs hf fun _ hK9=>?_
 refine Ze (X1k rfl rfl) ?_
 refine Zt hK9 fun a hf=>?_
 refine wp_seq_k fun _ hK10=>?_
 refine Xi hf rfl (fun hc11=>?_) (fun hc11=>?_)
 ·have hc11b:=hc11
  have hc11:=of_decide_eq_true hc11
  obtain ⟨u12,hu12⟩:=Xx (l:=c.gs) (k:=i) (by omega)
  refine wp_skip ?_
  refine hK10 _ _ ?_
  refine wp_seq_k fun _ hK13=>?_
  refine wp_block ?_
  refine Zs hf fun _ hK14=>?_
  refine Zm rfl ?_
  refine Zi (k:=i) (u:=u12) (enc:=encG) (l:=c.gs) trivial rfl rfl Xd X0a Xb (hr_c.below' hW) hu12 rfl ?_;intro p16 hat15
  refine Ze (Xj (l:=[vi u12.k,vi u12.a,vi u12.b]) rfl X08 hat15 rfl) ?_
  refine Zf (Xa (zs:=[vi 0,vi 0,vi 0]) X2l rfl) ?_;rintro _ w4 ⟨b17,rfl,hl17,hE,hB17⟩
  have hlo17:=Nat.le_trans hW.size hl17
  have haw1_17:=(hr_c.below' hW).away hl17
  replace hB3:=hB3.below hE
  replace hB6:=hB6.below hE
  replace hW:=btr hW hE
  refine Za rfl ?_
  refine Zo (Vw [vi u12.k,vi u12.a,vi u12.b] X0a hB17) ?_;rintro _ w5 ⟨ho,hb⟩
  have hold:=hB17
  replace hB3:=hB3.only ho (Blk.ne hB3 hold rfl)
  replace hB6:=hB6.only ho (Blk.ne hB6 hold rfl)
  replace hW:=Below.only hW ho hlo17
  clear hold
  have hB17:=hb
  clear hb ho
  refine Zt hK14 fun a hf=>?_
  refine Zs hf fun _ hK18=>?_
  refine Ze (Vn X08 hB17) ?_
  refine Zf (Vc (Xjh _ u12) Xd5) ?_;rintro _ w6 ⟨rfl,hE⟩
  replace hB3:=hB3.below hE
  replace hB6:=hB6.below hE
  replace hB17:=hB17.below hE
  replace hW:=btr hW hE
  refine Zm rfl<|Ze (X3 (vs:=[.agg #[vi ((bkG u12).k),vi ((bkG u12).a),vi ((bkG u12).b)],vi (bkN u12)]) rfl rfl)<|Ze (X3 (vs:=[.agg #[vi ((bkG u12).k),vi ((bkG u12).a),vi ((bkG u12).b)],vi (bkN u12)]) rfl rfl) ?_
  refine Zf (Xa (zs:=[vi 0,vi 0,vi 0]) X2l rfl) ?_;rintro _ w7 ⟨b19,rfl,hl19,hE,hB19⟩
  have hne17_19:b17≠b19:=by have:=hB17.lt;omega
  have hlo19:=Nat.le_trans hW.size hl19
  have haw1_19:=(hr_c.below' hW).away hl19
  replace hB3:=hB3.below hE
  replace hB6:=hB6.below hE
  replace hB17:=hB17.below hE
  replace hW:=btr hW hE
  refine Zo (Vw [vi ((bkG u12).k),vi ((bkG u12).a),vi ((bkG u12).b)] X0a hB19) ?_;rintro _ w8 ⟨ho,hb⟩
  have hold:=hB19
  replace hB3:=hB3.only ho (Blk.ne hB3 hold rfl)
  replace hB6:=hB6.only ho (Blk.ne hB6 hold rfl)
  replace hB17:=hB17.only ho (by omega)
  replace hW:=Below.only hW ho hlo19
  clear hold
  have hB19:=hb
  clear hb ho
  refine Za rfl ?_
  refine Zt hK18 fun a hf=>?_
  refine Zs hf fun _ hK20=>?_
  refine Zm rfl<|Ze (Xv rfl rfl (by omega) (by omega))<|Za rfl ?_
  refine Zt hK20 fun a hf=>?_
  refine wp_seq_k fun _ hK21=>?_
  refine wp_block ?_
  refine X0j (σ:=Nat) (fun (j:Nat) (a:Act) (w:World)=>Fr a 86 [(1,.pointer (some ⟨b3,0,none⟩)),(2,.pointer (some ⟨b6,0,none⟩)),(4,vi (i:Int)),(5,.pointer (some ⟨b17,0,none⟩)),(6,.pointer (some ⟨b19,0,none⟩)),(8,vi (j:Int)),(10,.slice Ac c.gs.length cc),(11,vi (c.gs.length:Int)),(12,vi (i:Int))]∧(i+1≤j∧j≤c.gs.length)∧(canJ u12 c.gs i=nextC u12 (c.gs.drop j) j)∧Blk w b3 31 [vi c.n,.slice Ac c.gs.length cc]∧Blk w b6 62 [vi 0,.slice none 0 0,.slice none 0 0]∧Blk w b17 24 [vi u12.k,vi u12.a,vi u12.b]∧Blk w b19 24 [vi ((bkG u12).k),vi ((bkG u12).a),vi ((bkG u12).b)]∧c.gs.length≤cc∧Below w0.heap.size w0 w) (fun (j:Nat)=>c.gs.length-j) (i+1) ?_ ?_
  ·exact ⟨hf.sub ⟨rfl,rfl,rfl,rfl,rfl,rfl,rfl,rfl,rfl,trivial⟩,(by omega),rfl,hB3,hB6,hB17,hB19,hp_c,hW⟩
  rintro j a w9 ⟨hf,hj,hjn,hB3,hB6,hB17,hB19,hp_c,hW⟩
  refine wp_seq_k fun _ hK22=>?_
  refine wp_seq_k fun _ hK23=>?_
  refine Xu none (fun _=>false) mixed ?_
  intro w10 hE
  replace hB3:=hB3.below hE
  replace hB6:=hB6.below hE
  replace hB17:=hB17.below hE
  replace hB19:=hB19.below hE
  replace hW:=btr hW hE
  refine Yb hf ?_
  refine Yo 0 rfl (fun _=>X9 rfl)<|Yo 1 rfl (fun _=>Vd rfl Xw 1)<|Ye 2 rfl (X0 rfl X06 (hB3.at 1))<|Yo 3 rfl (fun _=>X0v rfl Xd)<|Yo 4 rfl (fun _=>X1k rfl rfl) ?_
  refine Yo 5 rfl (fun _=>X9 rfl) ?_
  refine Yl 29 rfl (fun hg24=>?_) (fun hg24=>?_)
  ·have hq2:=hg24
   have hq2i:=of_decide_eq_true hg24
   obtain ⟨v9,hv9⟩:=Xx (l:=c.gs) (k:=j) (by have:=of_decide_eq_true hg24;omega)
   refine Yv 6 rfl ⟨_,_,rfl,rfl,hg24⟩ (Vn X08 hB17) ?_
   refine Yu 7 rfl ⟨_,_,rfl,rfl,hg24⟩ (fun _=>Vd rfl Xw 1) ?_
   refine Yv 8 rfl ⟨_,_,rfl,rfl,hg24⟩ (X0 rfl X06 (hB3.at 1)) ?_
   refine Yu 9 rfl ⟨_,_,rfl,rfl,hg24⟩ (fun _=>X9 rfl) ?_
   refine Yi (k:=j) (u:=v9) (enc:=encG) (l:=c.gs) 10 rfl ⟨_,_,rfl,rfl,hg24⟩ rfl rfl Xd X0a Xb (hr_c.below' hW) hv9 rfl ?_;intro p26 hat25
   refine Yv 11 rfl ⟨_,_,rfl,rfl,hg24⟩ (Xj (l:=[vi v9.k,vi v9.a,vi v9.b]) rfl X08 hat25 rfl) ?_
   refine Y1 12 ?_
   refine Yk rfl ⟨_,_,rfl,rfl,hg24⟩ (Vc (Xnm _ u12 v9) Xie) (fun _ _ ⟨_,hE⟩=>hE) ?_;rintro _ w11 ⟨rfl,hE⟩
   replace hB3:=hB3.below hE
   replace hB6:=hB6.below hE
   replace hB17:=hB17.below hE
   replace hB19:=hB19.below hE
   replace hW:=btr hW hE
   refine Yu 13 rfl ⟨_,_,rfl,rfl,hg24⟩ (fun _=>X15 rfl) ?_
   refine Yo 14 rfl (fun _=>Xc rfl hg24 rfl) ?_
   refine Yd fun a hf=>?_
   refine hK23 _ _ ?_
   refine Xi hf rfl (fun hc27=>?_) (fun hc27=>?_)
   ·have hc27b:=hc27
    have hno9:metS u12 v9=false:=by simpa using hc27
    refine wp_skip ?_
    refine hK22 _ _ ?_
    refine wp_block ?_
    refine Zr hf ?_
    refine Zm rfl<|Ze (Xv rfl rfl (by omega) (by omega))<|Za rfl ?_
    refine Zn fun a hf=>?_
    refine Xf ?_
    refine Xn ?_
    exact ⟨j+1,⟨hf.sub ⟨rfl,rfl,rfl,rfl,rfl,rfl,rfl,rfl,rfl,trivial⟩,(by omega),(hjn.trans (Xcf hv9 hno9)),hB3,hB6,hB17,hB19,hp_c,hW⟩,(by omega)⟩
   have hc27b:=hc27
   have hje:canJ u12 c.gs i=j:=hjn.trans (Xdy hv9 (by simpa using hc27))
   refine wp_exit ?_
   refine Xs ?_
   refine Xs ?_
   refine X0h ?_
   refine hK21 _ _ ?_
   refine wp_seq_k fun _ hK28=>?_
   refine Xu none (fun _=>false) mixed ?_
   intro w12 hE
   replace hB3:=hB3.below hE
   replace hB6:=hB6.below hE
   replace hB17:=hB17.below hE
   replace hB19:=hB19.below hE
   replace hW:=btr hW hE
   refine Yb hf ?_
   refine Yo 0 rfl (fun _=>Vd rfl X0g 0)<|Ye 1 rfl (X0 rfl X5 (hB17.at 0))<|Yo 2 rfl (fun _=>X2z rfl rfl)<|Yo 3 rfl (fun _=>X9 rfl) ?_
   refine Yl 44 rfl (fun hg29=>?_) (fun hg29=>?_)
   ·have hq1:=hg29
    refine Yu 4 rfl ⟨_,_,rfl,rfl,hg29⟩ (fun _=>X9 rfl) ?_
    refine Yu 5 rfl ⟨_,_,rfl,rfl,hg29⟩ (fun _=>Vd rfl Xw 1) ?_
    refine Yv 6 rfl ⟨_,_,rfl,rfl,hg29⟩ (X0 rfl X06 (hB3.at 1)) ?_
    refine Yu 7 rfl ⟨_,_,rfl,rfl,hg29⟩ (fun _=>X0v rfl Xd) ?_
    refine Yu 8 rfl ⟨_,_,rfl,rfl,hg29⟩ (fun _=>X1k rfl rfl) ?_
    refine Yo 9 rfl (fun _=>Xc rfl hg29 rfl)<|Yo 10 rfl (fun _=>X9 rfl)<|Yu 11 rfl ⟨_,_,rfl,rfl,hg24⟩ (fun _=>X9 rfl) ?_
    refine Yu 12 rfl ⟨_,_,rfl,rfl,hg24⟩ (fun _=>X9 rfl) ?_
    refine Yu 13 rfl ⟨_,_,rfl,rfl,hg24⟩ (fun _=>X1d rfl rfl (by omega) (by omega)) ?_
    refine Yu 14 rfl ⟨_,_,rfl,rfl,hg24⟩ (fun _=>X1k rfl rfl) ?_
    refine Yo 15 rfl (fun _=>Xc rfl hg24 rfl)<|Yo 16 rfl (fun _=>X9 rfl) ?_
    refine Yl 57 rfl (fun hg30=>?_) (fun hg30=>?_)
    ·have hq3:=hg30
     refine Yu 17 rfl ⟨_,_,rfl,rfl,hg30⟩ (fun _=>Vd rfl Xw 1) ?_
     refine Yv 18 rfl ⟨_,_,rfl,rfl,hg30⟩ (X0 rfl X06 (hB3.at 1)) ?_
     refine Yu 19 rfl ⟨_,_,rfl,rfl,hg30⟩ (fun _=>X9 rfl) ?_
     refine Yi (k:=j) (u:=v9) (enc:=encG) (l:=c.gs) 20 rfl ⟨_,_,rfl,rfl,hg30⟩ rfl rfl Xd X0a Xb (hr_c.below' hW) hv9 rfl ?_;intro p32 hat31
     refine Yv 21 rfl ⟨_,_,rfl,rfl,hg30⟩ (Xj (l:=[vi v9.k,vi v9.a,vi v9.b]) rfl X08 hat31 rfl) ?_
     refine Yv 22 rfl ⟨_,_,rfl,rfl,hg30⟩ (Vn X08 hB19) ?_
     refine Yu 23 rfl ⟨_,_,rfl,rfl,hg30⟩ (fun _=>Xml rfl rfl Xa9 (fun w=>X9v 9998 v9 (bkG u12) w)) ?_
     refine Yo 24 rfl (fun _=>Xc rfl hg30 rfl) ?_
     refine Yd fun a hf=>?_
     refine hK28 _ _ ?_
     refine Xi hf rfl (fun hc33=>?_) (fun hc33=>?_)
     ·have hc33b:=hc33
      have hc33:=of_decide_eq_true hc33
      have hfin:canS c.gs=some (canR c.gs i j):=Xfk hpre (by rw [Xca hu12 (by rw [hje];unfold canB;rw [hq1,hq2,hq3,hv9,decide_eq_true (congrArg some hc33)];rfl),hje]) (by omega)
      refine wp_seq_k fun _ hK34=>?_
      refine Xu none (fun j=>[18].contains j) mixed ?_
      intro w13 hE
      replace hB3:=hB3.below hE
      replace hB6:=hB6.below hE
      replace hW:=btr hW hE
      refine Yb hf ?_
      refine Yo 0 rfl (fun _=>X9 rfl)<|Yo 2 rfl (fun _=>Vd rfl Xw 1)<|Ye 3 rfl (X0 rfl X06 (hB3.at 1))<|Yo 4 rfl (fun _=>X9 rfl)<|Yo 5 rfl (fun _=>X9 rfl) ?_
      refine Yo 6 rfl (fun _=>Xv rfl rfl (by omega) (by omega)) ?_
      have hr35:=(((hr_c.below' hW).top).takeK Xb (j+1)).dropK Xb (c:=cc) (X79 hp_c (j+1)) i
      refine Yo 7 rfl (fun _=>Xdp (l:=c.gs) (k:=i) (m:=(j+1)) rfl rfl rfl Xd X0a rfl (by omega) (by omega) (by omega) hp_c)<|Yo 10 rfl (fun _=>Vd rfl Xw 1)<|Ye 11 rfl (X0 rfl X06 (hB3.at 1))<|Yo 12 rfl (fun _=>X9 rfl)<|Yo 13 rfl (fun _=>Xv rfl rfl (by omega) (by omega)) ?_
      refine Yo 14 rfl (fun _=>X9 rfl) ?_
      have hr36:=(((hr_c.below' hW).top).takeK Xb j).dropK Xb (c:=cc) (X79 hp_c j) (i+1)
      refine Yo 15 rfl (fun _=>Xdp (l:=c.gs) (k:=(i+1)) (m:=j) rfl rfl rfl Xd X0a (by omega) rfl (by omega) (by omega) hp_c) ?_
      refine Y2 1 9 ?_ ?_
      ·refine Yk rfl trivial (X4 (k:=0) (vs:=[]) (zs:=[]) rfl Xd Xe rfl rfl) (fun _ _ ⟨_,_,_,h,_⟩=>h) ?_;rintro _ w14 ⟨b37,rfl,hl37,hE,hB37⟩
       have hlo37:=Nat.le_trans hW.size hl37
       have haw1_37:=(hr_c.below' hW).away hl37
       have haw35_37:=hr35.away hl37
       have haw36_37:=hr36.away hl37
       replace hB3:=hB3.below hE
       replace hB6:=hB6.below hE
       replace hr35:=hr35.below hE
       replace hr36:=hr36.below hE
       replace hW:=btr hW hE
       refine Y2 8 9 ?_ ?_
       ·refine Yk rfl trivial (X10 (enc:=encG) (l2:=(((c.gs.take (j+1)).drop i))) rfl rfl Xd Xe Xb Xp hB37 hr35 (by simp only [maxLen];simp;omega) (by simp;omega)) (fun _ _ ⟨A39,c39,_,ho39,hE,hat⟩=>hE) ?_;rintro _ w15 ⟨A39,c39,rfl,ho39,hE,hat⟩
        clear hat
        replace ho39:=ho39.lower hlo37
        replace hB3:=hB3.below hE
        replace hB6:=hB6.below hE
        replace hr35:=hr35.below hE
        replace hr36:=hr36.below hE
        replace hW:=btr hW hE
        refine Y1 9 ?_
        refine Yk rfl trivial (X4 (k:=0) (vs:=[]) (zs:=[]) rfl Xd Xe rfl rfl) (fun _ _ ⟨_,_,_,h,_⟩=>h) ?_;rintro _ w16 ⟨b40,rfl,hl40,hE,hB40⟩
        have hlo40:=Nat.le_trans hW.size hl40
        have haw1_40:=(hr_c.below' hW).away hl40
        have haw35_40:=hr35.away hl40
        have haw36_40:=hr36.away hl40
        have haw39_40:=ho39.away hl40
        replace hB3:=hB3.below hE
        replace hB6:=hB6.below hE
        replace hr35:=hr35.below hE
        replace hr36:=hr36.below hE
        replace ho39:=ho39.below hE
        replace hW:=btr hW hE
        refine Y1 16 ?_
        refine Yk rfl trivial (X10 (enc:=encG) (l2:=(((c.gs.take j).drop (i+1)))) rfl rfl Xd Xe Xb Xp hB40 hr36 (by simp only [maxLen];simp;omega) (by simp;omega)) (fun _ _ ⟨A42,c42,_,ho42,hE,hat⟩=>hE) ?_;rintro _ w17 ⟨A42,c42,rfl,ho42,hE,hat⟩
        have hap39_42:=Apart.new0 ho39 haw39_40 hat
        clear hat
        replace ho42:=ho42.lower hlo40
        replace hB3:=hB3.below hE
        replace hB6:=hB6.below hE
        replace hr35:=hr35.below hE
        replace hr36:=hr36.below hE
        replace ho39:=ho39.below hE
        replace hW:=btr hW hE
        refine Yo 17 rfl (fun _=>Xh (ps:=[(0,vi (i:Int)),(1,.slice A39 ((c.gs.take (j+1)).drop i).length c39),(2,.slice A42 ((c.gs.take j).drop (i+1)).length c42)]) (cs:=[vi (i:Int),.slice A39 ((c.gs.take (j+1)).drop i).length c39,.slice A42 ((c.gs.take j).drop (i+1)).length c42]) rfl (fun _=>by first|rfl|kernel_rfl)) ?_
        refine Y1 18 ?_
        refine Yh rfl trivial rfl (Vw [vi (i:Int),.slice A39 ((c.gs.take (j+1)).drop i).length c39,.slice A42 ((c.gs.take j).drop (i+1)).length c42] X23 hB6) ?_;rintro _ w18 ⟨ho,hb⟩
        have hold:=hB6
        replace hB3:=hB3.only ho (Blk.ne hB3 hold rfl)
        replace hr35:=hr35.onlyT ho hold rfl
        replace hr36:=hr36.onlyT ho hold rfl
        replace ho39:=ho39.onlyT ho hold rfl
        replace ho42:=ho42.onlyT ho hold rfl
        replace hW:=Below.only hW ho hlo6
        clear hold
        have hB6:=hb
        clear hb ho
        refine Yo 19 rfl (fun _=>X0x rfl) ?_
        refine Yd fun a hf=>?_
        refine hK34 _ _ ?_
        refine wp_ret ?_
        refine Xy ?_
        refine X8 ?_
        refine X8 ?_
        refine Xy ?_
        refine X8 ?_
        refine X2 hf (X0r hf rfl (ResV.cellN (l:=[vi (i:Int),.slice A39 ((c.gs.take (j+1)).drop i).length c39,.slice A42 ((c.gs.take j).drop (i+1)).length c42]) rfl X1i (hB6.at 0) rfl) rfl) ?_
        rw [hfin]
        exact ⟨_,_,_,_,rfl,ho39.rd.top,ho42.rd.top,hW⟩
       refine Yk rfl trivial (X4 (k:=0) (vs:=[]) (zs:=[]) rfl Xd Xe rfl rfl) (fun _ _ ⟨_,_,_,h,_⟩=>h) ?_;rintro _ w19 ⟨b45,rfl,hl45,hE,hB45⟩
       have hne37_45:b37≠b45:=by have:=hB37.lt;omega
       have hlo45:=Nat.le_trans hW.size hl45
       have haw1_45:=(hr_c.below' hW).away hl45
       have haw35_45:=hr35.away hl45
       have haw36_45:=hr36.away hl45
       replace hB3:=hB3.below hE
       replace hB6:=hB6.below hE
       replace hB37:=hB37.below hE
       replace hr35:=hr35.below hE
       replace hr36:=hr36.below hE
       replace hW:=btr hW hE
       refine Y1 8 ?_
       refine Yk rfl trivial (X10 (enc:=encG) (l2:=(((c.gs.take (j+1)).drop i))) rfl rfl Xd Xe Xb Xp hB37 hr35 (by simp only [maxLen];simp;omega) (by simp;omega)) (fun _ _ ⟨A47,c47,_,ho47,hE,hat⟩=>hE) ?_;rintro _ w20 ⟨A47,c47,rfl,ho47,hE,hat⟩
       have haw47_45:=hat _ hB45.lt (Ne.symm hne37_45)
       clear hat
       replace ho47:=ho47.lower hlo37
       replace hB3:=hB3.below hE
       replace hB6:=hB6.below hE
       replace hB45:=hB45.below hE
       replace hr35:=hr35.below hE
       replace hr36:=hr36.below hE
       replace hW:=btr hW hE
       refine Y1 16 ?_
       refine Yk rfl trivial (X10 (enc:=encG) (l2:=(((c.gs.take j).drop (i+1)))) rfl rfl Xd Xe Xb Xp hB45 hr36 (by simp only [maxLen];simp;omega) (by simp;omega)) (fun _ _ ⟨A48,c48,_,ho48,hE,hat⟩=>hE) ?_;rintro _ w21 ⟨A48,c48,rfl,ho48,hE,hat⟩
       have hap47_48:=Apart.new0 ho47 haw47_45 hat
       clear hat
       replace ho48:=ho48.lower hlo45
       replace hB3:=hB3.below hE
       replace hB6:=hB6.below hE
       replace hr35:=hr35.below hE
       replace hr36:=hr36.below hE
       replace ho47:=ho47.below hE
       replace hW:=btr hW hE
       refine Yo 17 rfl (fun _=>Xh (ps:=[(0,vi (i:Int)),(1,.slice A47 ((c.gs.take (j+1)).drop i).length c47),(2,.slice A48 ((c.gs.take j).drop (i+1)).length c48)]) (cs:=[vi (i:Int),.slice A47 ((c.gs.take (j+1)).drop i).length c47,.slice A48 ((c.gs.take j).drop (i+1)).length c48]) rfl (fun _=>by first|rfl|kernel_rfl)) ?_
       refine Y1 18 ?_
       refine Yh rfl trivial rfl (Vw [vi (i:Int),.slice A47 ((c.gs.take (j+1)).drop i).length c47,.slice A48 ((c.gs.take j).drop (i+1)).length c48] X23 hB6) ?_;rintro _ w22 ⟨ho,hb⟩
       have hold:=hB6
       replace hB3:=hB3.only ho (Blk.ne hB3 hold rfl)
       replace hr35:=hr35.onlyT ho hold rfl
       replace hr36:=hr36.onlyT ho hold rfl
       replace ho47:=ho47.onlyT ho hold rfl
       replace ho48:=ho48.onlyT ho hold rfl
       replace hW:=Below.only hW ho hlo6
       clear hold
       have hB6:=hb
       clear hb ho
       refine Yo 19 rfl (fun _=>X0x rfl) ?_
       refine Yd fun a hf=>?_
       refine hK34 _ _ ?_
       refine wp_ret ?_
       refine Xy ?_
       refine X8 ?_
       refine X8 ?_
       refine Xy ?_
       refine X8 ?_
       refine X2 hf (X0r hf rfl (ResV.cellN (l:=[vi (i:Int),.slice A47 ((c.gs.take (j+1)).drop i).length c47,.slice A48 ((c.gs.take j).drop (i+1)).length c48]) rfl X1i (hB6.at 0) rfl) rfl) ?_
       rw [hfin]
       exact ⟨_,_,_,_,rfl,ho47.rd.top,ho48.rd.top,hW⟩
      refine Yk rfl trivial (X4 (k:=0) (vs:=[]) (zs:=[]) rfl Xd Xe rfl rfl) (fun _ _ ⟨_,_,_,h,_⟩=>h) ?_;rintro _ w23 ⟨b51,rfl,hl51,hE,hB51⟩
      have hlo51:=Nat.le_trans hW.size hl51
      have haw1_51:=(hr_c.below' hW).away hl51
      have haw35_51:=hr35.away hl51
      have haw36_51:=hr36.away hl51
      replace hB3:=hB3.below hE
      replace hB6:=hB6.below hE
      replace hr35:=hr35.below hE
      replace hr36:=hr36.below hE
      replace hW:=btr hW hE
      refine Y1 1 ?_
      refine Yk rfl trivial (X4 (k:=0) (vs:=[]) (zs:=[]) rfl Xd Xe rfl rfl) (fun _ _ ⟨_,_,_,h,_⟩=>h) ?_;rintro _ w24 ⟨b53,rfl,hl53,hE,hB53⟩
      have hne51_53:b51≠b53:=by have:=hB51.lt;omega
      have hlo53:=Nat.le_trans hW.size hl53
      have haw1_53:=(hr_c.below' hW).away hl53
      have haw35_53:=hr35.away hl53
      have haw36_53:=hr36.away hl53
      replace hB3:=hB3.below hE
      replace hB6:=hB6.below hE
      replace hB51:=hB51.below hE
      replace hr35:=hr35.below hE
      replace hr36:=hr36.below hE
      replace hW:=btr hW hE
      refine Y1 8 ?_
      refine Yk rfl trivial (X10 (enc:=encG) (l2:=(((c.gs.take (j+1)).drop i))) rfl rfl Xd Xe Xb Xp hB53 hr35 (by simp only [maxLen];simp;omega) (by simp;omega)) (fun _ _ ⟨A55,c55,_,ho55,hE,hat⟩=>hE) ?_;rintro _ w25 ⟨A55,c55,rfl,ho55,hE,hat⟩
      have haw55_51:=hat _ hB51.lt hne51_53
      clear hat
      replace ho55:=ho55.lower hlo53
      replace hB3:=hB3.below hE
      replace hB6:=hB6.below hE
      replace hB51:=hB51.below hE
      replace hr35:=hr35.below hE
      replace hr36:=hr36.below hE
      replace hW:=btr hW hE
      refine Y1 16 ?_
      refine Yk rfl trivial (X10 (enc:=encG) (l2:=(((c.gs.take j).drop (i+1)))) rfl rfl Xd Xe Xb Xp hB51 hr36 (by simp only [maxLen];simp;omega) (by simp;omega)) (fun _ _ ⟨A56,c56,_,ho56,hE,hat⟩=>hE) ?_;rintro _ w26 ⟨A56,c56,rfl,ho56,hE,hat⟩
      have hap55_56:=Apart.new0 ho55 haw55_51 hat
      clear hat
      replace ho56:=ho56.lower hlo51
      replace hB3:=hB3.below hE
      replace hB6:=hB6.below hE
      replace hr35:=hr35.below hE
      replace hr36:=hr36.below hE
      replace ho55:=ho55.below hE
      replace hW:=btr hW hE
      refine Yo 17 rfl (fun _=>Xh (ps:=[(0,vi (i:Int)),(1,.slice A55 ((c.gs.take (j+1)).drop i).length c55),(2,.slice A56 ((c.gs.take j).drop (i+1)).length c56)]) (cs:=[vi (i:Int),.slice A55 ((c.gs.take (j+1)).drop i).length c55,.slice A56 ((c.gs.take j).drop (i+1)).length c56]) rfl (fun _=>by first|rfl|kernel_rfl)) ?_
      refine Y1 18 ?_
      refine Yh rfl trivial rfl (Vw [vi (i:Int),.slice A55 ((c.gs.take (j+1)).drop i).length c55,.slice A56 ((c.gs.take j).drop (i+1)).length c56] X23 hB6) ?_;rintro _ w27 ⟨ho,hb⟩
      have hold:=hB6
      replace hB3:=hB3.only ho (Blk.ne hB3 hold rfl)
      replace hr35:=hr35.onlyT ho hold rfl
      replace hr36:=hr36.onlyT ho hold rfl
      replace ho55:=ho55.onlyT ho hold rfl
      replace ho56:=ho56.onlyT ho hold rfl
      replace hW:=Below.only hW ho hlo6
      clear hold
      have hB6:=hb
      clear hb ho
      refine Yo 19 rfl (fun _=>X0x rfl) ?_
      refine Yd fun a hf=>?_
      refine hK34 _ _ ?_
      refine wp_ret ?_
      refine Xy ?_
      refine X8 ?_
      refine X8 ?_
      refine Xy ?_
      refine X8 ?_
      refine X2 hf (X0r hf rfl (ResV.cellN (l:=[vi (i:Int),.slice A55 ((c.gs.take (j+1)).drop i).length c55,.slice A56 ((c.gs.take j).drop (i+1)).length c56]) rfl X1i (hB6.at 0) rfl) rfl) ?_
      rw [hfin]
      exact ⟨_,_,_,_,rfl,ho55.rd.top,ho56.rd.top,hW⟩
     have hc33b:=hc33
     have hc33:=of_decide_eq_false hc33
     have hno:canAt c.gs i=none:=X34 hu12 (by rw [hje];unfold canB;rw [hv9,decide_eq_false (fun e9=>hc33 (Option.some.inj e9))];simp)
     refine wp_skip ?_
     refine Xf ?_
     refine hK13 _ _ ?_
     refine Zr hf ?_
     refine Ze (Xv rfl rfl (by omega) (by omega))<|Zm rfl ?_
     refine Zn fun a hf=>?_
     refine Xn ?_
     exact ⟨i+1,⟨hf.sub ⟨rfl,rfl,rfl,rfl,rfl,trivial⟩,(by omega),(X3k hpre hno),hB3,hB6,hp_c,hW⟩,(by omega)⟩
    have hq3:=hg30
    have hno:canAt c.gs i=none:=X34 hu12 (by rw [hje];unfold canB;rw [hq3];simp)
    refine Yp 17 rfl ⟨_,_,rfl,rfl,hg30⟩ ?_
    refine Yp 18 rfl ⟨_,_,rfl,rfl,hg30⟩ ?_
    refine Yp 19 rfl ⟨_,_,rfl,rfl,hg30⟩ ?_
    refine Yp 20 rfl ⟨_,_,rfl,rfl,hg30⟩ ?_
    refine Yp 21 rfl ⟨_,_,rfl,rfl,hg30⟩ ?_
    refine Yp 22 rfl ⟨_,_,rfl,rfl,hg30⟩ ?_
    refine Yp 23 rfl ⟨_,_,rfl,rfl,hg30⟩ ?_
    refine Yo 24 rfl (fun _=>X7 rfl hg30 rfl) ?_
    refine Yd fun a hf=>?_
    refine hK28 _ _ ?_
    refine X50 hf rfl ?_
    refine wp_skip ?_
    refine Xf ?_
    refine hK13 _ _ ?_
    refine Zr hf ?_
    refine Ze (Xv rfl rfl (by omega) (by omega))<|Zm rfl ?_
    refine Zn fun a hf=>?_
    refine Xn ?_
    exact ⟨i+1,⟨hf.sub ⟨rfl,rfl,rfl,rfl,rfl,trivial⟩,(by omega),(X3k hpre hno),hB3,hB6,hp_c,hW⟩,(by omega)⟩
   have hq1:=hg29
   have hno:canAt c.gs i=none:=X34 hu12 (by rw [hje];unfold canB;rw [hq1];simp)
   refine Yp 4 rfl ⟨_,_,rfl,rfl,hg29⟩ ?_
   refine Yp 5 rfl ⟨_,_,rfl,rfl,hg29⟩ ?_
   refine Yp 6 rfl ⟨_,_,rfl,rfl,hg29⟩ ?_
   refine Yp 7 rfl ⟨_,_,rfl,rfl,hg29⟩ ?_
   refine Yp 8 rfl ⟨_,_,rfl,rfl,hg29⟩ ?_
   refine Yo 9 rfl (fun _=>X7 rfl hg29 rfl)<|Yo 10 rfl (fun _=>X9 rfl)<|Yp 11 rfl ⟨_,_,rfl,rfl,rfl⟩ ?_
   refine Yp 12 rfl ⟨_,_,rfl,rfl,rfl⟩ ?_
   refine Yp 13 rfl ⟨_,_,rfl,rfl,rfl⟩ ?_
   refine Yp 14 rfl ⟨_,_,rfl,rfl,rfl⟩ ?_
   refine Yo 15 rfl (fun _=>X7 rfl rfl rfl)<|Yo 16 rfl (fun _=>X9 rfl)<|Yp 17 rfl ⟨_,_,rfl,rfl,rfl⟩ ?_
   refine Yp 18 rfl ⟨_,_,rfl,rfl,rfl⟩ ?_
   refine Yp 19 rfl ⟨_,_,rfl,rfl,rfl⟩ ?_
   refine Yp 20 rfl ⟨_,_,rfl,rfl,rfl⟩ ?_
   refine Yp 21 rfl ⟨_,_,rfl,rfl,rfl⟩ ?_
   refine Yp 22 rfl ⟨_,_,rfl,rfl,rfl⟩ ?_
   refine Yp 23 rfl ⟨_,_,rfl,rfl,rfl⟩ ?_
   refine Yo 24 rfl (fun _=>X7 rfl rfl rfl) ?_
   refine Yd fun a hf=>?_
   refine hK28 _ _ ?_
   refine X50 hf rfl ?_
   refine wp_skip ?_
   refine Xf ?_
   refine hK13 _ _ ?_
   refine Zr hf ?_
   refine Ze (Xv rfl rfl (by omega) (by omega))<|Zm rfl ?_
   refine Zn fun a hf=>?_
   refine Xn ?_
   exact ⟨i+1,⟨hf.sub ⟨rfl,rfl,rfl,rfl,rfl,trivial⟩,(by omega),(X3k hpre hno),hB3,hB6,hp_c,hW⟩,(by omega)⟩
  have hq2:=hg24
  have hq2i:=of_decide_eq_false hg24
  have hje:canJ u12 c.gs i=j:=hjn.trans (Xe8 (by have:=of_decide_eq_false hg24;omega))
  have hno:canAt c.gs i=none:=X34 hu12 (by rw [hje];unfold canB;rw [hq2];simp)
  refine Yp 6 rfl ⟨_,_,rfl,rfl,hg24⟩ ?_
  refine Yp 7 rfl ⟨_,_,rfl,rfl,hg24⟩ ?_
  refine Yp 8 rfl ⟨_,_,rfl,rfl,hg24⟩ ?_
  refine Yp 9 rfl ⟨_,_,rfl,rfl,hg24⟩ ?_
  refine Yp 10 rfl ⟨_,_,rfl,rfl,hg24⟩ ?_
  refine Yp 11 rfl ⟨_,_,rfl,rfl,hg24⟩ ?_
  refine Y1 12 ?_
  refine Yq rfl ⟨_,_,rfl,rfl,hg24⟩ ?_
  refine Yp 13 rfl ⟨_,_,rfl,rfl,hg24⟩ ?_
  refine Yo 14 rfl (fun _=>X7 rfl hg24 rfl) ?_
  refine Yd fun a hf=>?_
  refine hK23 _ _ ?_
  refine X50 hf rfl ?_
  refine wp_exit ?_
  refine Xs ?_
  refine Xs ?_
  refine X0h ?_
  refine hK21 _ _ ?_
  refine wp_seq_k fun _ hK59=>?_
  refine Xu none (fun _=>false) mixed ?_
  intro w28 hE
  replace hB3:=hB3.below hE
  replace hB6:=hB6.below hE
  replace hB17:=hB17.below hE
  replace hB19:=hB19.below hE
  replace hW:=btr hW hE
  refine Yb hf ?_
  refine Yo 0 rfl (fun _=>Vd rfl X0g 0)<|Ye 1 rfl (X0 rfl X5 (hB17.at 0))<|Yo 2 rfl (fun _=>X2z rfl rfl)<|Yo 3 rfl (fun _=>X9 rfl) ?_
  refine Yl 44 rfl (fun hg60=>?_) (fun hg60=>?_)
  ·have hq1:=hg60
   refine Yu 4 rfl ⟨_,_,rfl,rfl,hg60⟩ (fun _=>X9 rfl) ?_
   refine Yu 5 rfl ⟨_,_,rfl,rfl,hg60⟩ (fun _=>Vd rfl Xw 1) ?_
   refine Yv 6 rfl ⟨_,_,rfl,rfl,hg60⟩ (X0 rfl X06 (hB3.at 1)) ?_
   refine Yu 7 rfl ⟨_,_,rfl,rfl,hg60⟩ (fun _=>X0v rfl Xd) ?_
   refine Yu 8 rfl ⟨_,_,rfl,rfl,hg60⟩ (fun _=>X1k rfl rfl) ?_
   refine Yo 9 rfl (fun _=>Xc rfl hg60 rfl)<|Yo 10 rfl (fun _=>X9 rfl)<|Yp 11 rfl ⟨_,_,rfl,rfl,hg24⟩ ?_
   refine Yp 12 rfl ⟨_,_,rfl,rfl,hg24⟩ ?_
   refine Yp 13 rfl ⟨_,_,rfl,rfl,hg24⟩ ?_
   refine Yp 14 rfl ⟨_,_,rfl,rfl,hg24⟩ ?_
   refine Yo 15 rfl (fun _=>X7 rfl hg24 rfl)<|Yo 16 rfl (fun _=>X9 rfl)<|Yp 17 rfl ⟨_,_,rfl,rfl,rfl⟩ ?_
   refine Yp 18 rfl ⟨_,_,rfl,rfl,rfl⟩ ?_
   refine Yp 19 rfl ⟨_,_,rfl,rfl,rfl⟩ ?_
   refine Yp 20 rfl ⟨_,_,rfl,rfl,rfl⟩ ?_
   refine Yp 21 rfl ⟨_,_,rfl,rfl,rfl⟩ ?_
   refine Yp 22 rfl ⟨_,_,rfl,rfl,rfl⟩ ?_
   refine Yp 23 rfl ⟨_,_,rfl,rfl,rfl⟩ ?_
   refine Yo 24 rfl (fun _=>X7 rfl rfl rfl) ?_
   refine Yd fun a hf=>?_
   refine hK59 _ _ ?_
   refine X50 hf rfl ?_
   refine wp_skip ?_
   refine Xf ?_
   refine hK13 _ _ ?_
   refine Zr hf ?_
   refine Ze (Xv rfl rfl (by omega) (by omega))<|Zm rfl ?_
   refine Zn fun a hf=>?_
   refine Xn ?_
   exact ⟨i+1,⟨hf.sub ⟨rfl,rfl,rfl,rfl,rfl,trivial⟩,(by omega),(X3k hpre hno),hB3,hB6,hp_c,hW⟩,(by omega)⟩
  have hq1:=hg60
  have hno:canAt c.gs i=none:=X34 hu12 (by rw [hje];unfold canB;rw [hq1];simp)
  refine Yp 4 rfl ⟨_,_,rfl,rfl,hg60⟩ ?_
  refine Yp 5 rfl ⟨_,_,rfl,rfl,hg60⟩ ?_
  refine Yp 6 rfl ⟨_,_,rfl,rfl,hg60⟩ ?_
  refine Yp 7 rfl ⟨_,_,rfl,rfl,hg60⟩ ?_
  refine Yp 8 rfl ⟨_,_,rfl,rfl,hg60⟩ ?_
  refine Yo 9 rfl (fun _=>X7 rfl hg60 rfl)<|Yo 10 rfl (fun _=>X9 rfl)<|Yp 11 rfl ⟨_,_,rfl,rfl,rfl⟩ ?_
  refine Yp 12 rfl ⟨_,_,rfl,rfl,rfl⟩ ?_
  refine Yp 13 rfl ⟨_,_,rfl,rfl,rfl⟩ ?_
  refine Yp 14 rfl ⟨_,_,rfl,rfl,rfl⟩ ?_
  refine Yo 15 rfl (fun _=>X7 rfl rfl rfl)<|Yo 16 rfl (fun _=>X9 rfl)<|Yp 17 rfl ⟨_,_,rfl,rfl,rfl⟩ ?_
  refine Yp 18 rfl ⟨_,_,rfl,rfl,rfl⟩ ?_
  refine Yp 19 rfl ⟨_,_,rfl,rfl,rfl⟩ ?_
  refine Yp 20 rfl ⟨_,_,rfl,rfl,rfl⟩ ?_
  refine Yp 21 rfl ⟨_,_,rfl,rfl,rfl⟩ ?_
  refine Yp 22 rfl ⟨_,_,rfl,rfl,rfl⟩ ?_
  refine Yp 23 rfl ⟨_,_,rfl,rfl,rfl⟩ ?_
  refine Yo 24 rfl (fun _=>X7 rfl rfl rfl) ?_
  refine Yd fun a hf=>?_
  refine hK59 _ _ ?_
  refine X50 hf rfl ?_
  refine wp_skip ?_
  refine Xf ?_
  refine hK13 _ _ ?_
  refine Zr hf ?_
  refine Ze (Xv rfl rfl (by omega) (by omega))<|Zm rfl ?_
  refine Zn fun a hf=>?_
  refine Xn ?_
  exact ⟨i+1,⟨hf.sub ⟨rfl,rfl,rfl,rfl,rfl,trivial⟩,(by omega),(X3k hpre hno),hB3,hB6,hp_c,hW⟩,(by omega)⟩
 have hc11b:=hc11
 have hc11:=of_decide_eq_false hc11
 have hfin:canS c.gs=none:=by rw [canS,← show i=c.gs.length by omega];exact hpre
 refine wp_exit ?_
 refine Xs ?_
 refine Xs ?_
 refine X0h ?_
 refine hK7 _ _ ?_
 refine Zs hf fun _ hK61=>?_
 refine Ze (Xh (ps:=[]) (cs:=[vi 0,.slice none 0 0,.slice none 0 0]) rfl (fun _=>by first|rfl|kernel_rfl)) ?_
 refine Zo (Vw [vi 0,.slice none 0 0,.slice none 0 0] X23 hB6) ?_;rintro _ w29 ⟨ho,hb⟩
 have hold:=hB6
 replace hB3:=hB3.only ho (Blk.ne hB3 hold rfl)
 replace hW:=Below.only hW ho hlo6
 clear hold
 have hB6:=hb
 clear hb ho
 refine Za rfl ?_
 refine Zt hK61 fun a hf=>?_
 refine wp_ret (X2 hf (X0r hf rfl (ResV.cellN (l:=[vi 0,.slice none 0 0,.slice none 0 0]) rfl X1i (hB6.at 0) rfl) rfl) ?_)
 rw [hfin]
 exact ⟨_,_,_,_,rfl,(Rd.nil _ _ _ _ _),(Rd.nil _ _ _ _ _),hW⟩
end Go.Proofs.YtlfjcmldfbfdbaaGreat
set_option maxRecDepth 4000
namespace Go.Proofs.YtlfjcmldfbfdbaaGreat
open Go.RowKit
theorem Xj3(w0:World)(c:Cx)(Ac:Option Addr)(cc:Nat)(hr_c:Rd w0 w0.heap.size 24 encG Ac c.gs)(hln:c.gs.length≤100000000) : Ret Tryz.prog 29 [.agg #[vi c.n,.slice Ac c.gs.length cc]] w0 (fun v w=>∃ (l:List Sr) (A:Option Addr) (e:Nat) (B:Option Addr) (f:Nat) (D:Option Addr) (g:Nat),v=.tuple #[.agg #[vi (canC c).1.n,.slice A (canC c).1.gs.length e,.slice B l.length f,vi (canC c).2.2.n,.slice D (canC c).2.2.gs.length g],.bool (cOk c)]∧l.map Sr.rp=(canC c).2.1∧((canC c).1.gs.length≤e∧(canC c).2.2.gs.length≤g)∧Rd w w.heap.size 24 encG A (canC c).1.gs∧Rd w w.heap.size 24 encG D (canC c).2.2.gs∧Own w w0.heap.size 62 3 encSr B f l∧DeepR w w.heap.size 24 l∧Below w0.heap.size w0 w):=by
 refine enter Tryz.func29 rfl 39 rfl rfl ?_
 intro a hf
 have hW:Below w0.heap.size w0 w0:=Below.refl _ _
 refine Zs hf fun _ hK2=>?_
 refine Zf (X0p (zs:=[vi c.n,.slice Ac c.gs.length cc]) rfl rfl) ?_;rintro _ w1 ⟨b3,rfl,hl3,hE,hB3⟩
 have hlo3:=Nat.le_trans hW.size hl3
 replace hW:=btr hW hE
 refine Zf (Xa (zs:=[vi 0,.slice none 0 0,.slice none 0 0,vi 0,.slice none 0 0]) X3g rfl) ?_;rintro _ w2 ⟨b7,rfl,hl7,hE,hB7⟩
 have hlo7:=Nat.le_trans hW.size hl7
 replace hB3:=hB3.below hE
 replace hW:=btr hW hE
 refine Za rfl ?_
 refine Zt hK2 fun a hf=>?_
 refine wp_seq_k fun _ hK8=>?_
 refine Zs hf fun _ hK9=>?_
 refine Ze (Vn X0c hB3) ?_
 refine Zf (Vc (F53 _ c Ac cc (hr_c.below' hW).top) Xf0) ?_;rintro _ w3 ⟨rfl,hE⟩
 replace hB3:=hB3.below hE
 replace hB7:=hB7.below hE
 replace hW:=btr hW hE
 refine Ze (X15 rfl) ?_
 refine Zt hK9 fun a hf=>?_
 refine Xi hf rfl (fun hc10=>?_) (fun hc10=>?_)
 ·have hc10b:=hc10
  have hc:cOk c=false:=by revert hc10;cases cOk c<;>simp
  have hfin:canC c=(cZ,[],cZ):=by unfold canC;rw [if_neg (by rw [hc];decide)]
  refine Zs hf fun _ hK11=>?_
  refine Ze (Xh (ps:=[]) (cs:=[vi 0,.slice none 0 0,.slice none 0 0,vi 0,.slice none 0 0]) rfl (fun _=>by first|rfl|kernel_rfl)) ?_
  refine Zo (Vw [vi 0,.slice none 0 0,.slice none 0 0,vi 0,.slice none 0 0] X13 hB7) ?_;rintro _ w4 ⟨ho,hb⟩
  have hold:=hB7
  replace hB3:=hB3.only ho (Blk.ne hB3 hold rfl)
  replace hW:=Below.only hW ho hlo7
  clear hold
  have hB7:=hb
  clear hb ho
  refine Za rfl ?_
  refine Zt hK11 fun a hf=>?_
  refine wp_ret ?_
  refine X8 ?_
  refine X2 hf (X0r hf rfl (ResV.cellN (l:=[vi 0,.slice none 0 0,.slice none 0 0,vi 0,.slice none 0 0]) rfl X0l (hB7.at 0) rfl) rfl) ?_
  rw [hfin,hc]
  exact ⟨[],_,_,_,_,_,_,rfl,rfl,⟨(Nat.zero_le _),(Nat.zero_le _)⟩,(Rd.nil _ _ _ _ _),(Rd.nil _ _ _ _ _),(Own.nil _ _ _ _ _),(DeepR.nil _ _ _),hW⟩
 have hc10b:=hc10
 have hc:cOk c=true:=by revert hc10;cases cOk c<;>simp
 refine wp_skip ?_
 refine hK8 _ _ ?_
 refine wp_seq_k fun _ hK15=>?_
 refine X09 (fun a w=>∃ b24 A16 c16 A17 c17,Fr a 39 [(2,.pointer (some ⟨b7,0,none⟩)),(4,.pointer (some ⟨b24,0,none⟩))]∧w0.heap.size≤b24∧Blk w b24 46 [vi c.n,.slice A16 c.gs.length c16,.slice none 0 0,vi c.n,.slice A17 c.gs.length c17]∧b7≠b24∧Own w w0.heap.size 24 3 encG A16 c16 c.gs∧Own w w0.heap.size 24 3 encG A17 c17 c.gs∧Below w3.heap.size w3 w) ?_ ?_
 ·have hEc:Below w3.heap.size w3 w3:=Below.refl _ _
  refine Xu none (fun j=>[6].contains j) mixed ?_
  intro w5 hE
  replace hB3:=hB3.below hE
  replace hB7:=hB7.below hE
  replace hW:=btr hW hE
  replace hEc:=btr hEc hE
  refine Yb hf ?_
  refine Ye 0 rfl (Vn X0c hB3)<|Ye 2 rfl (Vn X0c hB3) ?_
  have hJc:Below w5.heap.size w5 w5:=Below.refl _ _
  refine Yc [0,1,2,3,4,5] 1 (fun a w=>∃ b24 A16 c16 A17 c17,Fr a 39 [(2,.pointer (some ⟨b7,0,none⟩)),(4,.pointer (some ⟨b24,0,none⟩)),(15,.agg #[vi c.n,.slice A16 c.gs.length c16,.slice none 0 0,vi c.n,.slice A17 c.gs.length c17])]∧w0.heap.size≤b24∧Blk w b24 46 [vi 0,.slice none 0 0,.slice none 0 0,vi 0,.slice none 0 0]∧b7≠b24∧w5.heap.size≤b24∧w3.heap.size≤b24∧Own w w0.heap.size 24 3 encG A16 c16 c.gs∧Own w w0.heap.size 24 3 encG A17 c17 c.gs∧Below w5.heap.size w5 w) ?_ ?_
  ·rintro a w6 ⟨b24,A16,c16,A17,c17,hf,hlo24,hB24,hne7_24,hlj24,hlc24,ho16,ho17,hE⟩
   clear hJc
   have hJc:=hE
   replace hB3:=hB3.below hE
   replace hB7:=hB7.below hE
   replace hW:=btr hW hE
   replace hEc:=btr hEc hE
   refine Yb hf ?_
   refine Y1 6 ?_
   refine Yh rfl trivial rfl (Vw [vi c.n,.slice A16 c.gs.length c16,.slice none 0 0,vi c.n,.slice A17 c.gs.length c17] X13 hB24) ?_;rintro _ w7 ⟨ho,hb⟩
   have hold:=hB24
   replace hB3:=hB3.only ho (Blk.ne hB3 hold rfl)
   replace hB7:=hB7.only ho (by omega)
   replace ho16:=ho16.onlyT ho hold rfl
   replace ho17:=ho17.onlyT ho hold rfl
   replace hEc:=Below.only hEc ho hlc24
   replace hJc:=Below.only hJc ho hlj24
   replace hW:=Below.only hW ho hlo24
   clear hold
   have hB24:=hb
   clear hb ho
   refine Yd fun a hf=>?_
   have hEE:Below w3.heap.size w3 w7:=hEc
   exact ⟨b24,A16,c16,A17,c17,hf.sub ⟨rfl,rfl,trivial⟩,hlo24,hB24,hne7_24,ho16,ho17,hEE⟩
  intro hJ16
  refine Yc [0,1,2,5] 3 (fun a w=>∃ b28 A16 c16,Fr a 39 [(2,.pointer (some ⟨b7,0,none⟩)),(4,.pointer (some ⟨b28,0,none⟩)),(12,.agg #[vi c.n,.slice A16 c.gs.length c16]),(13,.agg #[vi c.n,.slice Ac c.gs.length cc])]∧w0.heap.size≤b28∧Blk w b28 46 [vi 0,.slice none 0 0,.slice none 0 0,vi 0,.slice none 0 0]∧b7≠b28∧w5.heap.size≤b28∧w3.heap.size≤b28∧Own w w0.heap.size 24 3 encG A16 c16 c.gs∧Below w5.heap.size w5 w) ?_ ?_
  ·rintro a w8 ⟨b28,A16,c16,hf,hlo28,hB28,hne7_28,hlj28,hlc28,ho16,hE⟩
   clear hJc
   have hJc:=hE
   replace hB3:=hB3.below hE
   replace hB7:=hB7.below hE
   replace hW:=btr hW hE
   replace hEc:=btr hEc hE
   refine Yb hf ?_
   refine Y1 3 ?_
   refine Yk rfl trivial (Vc (Xdj _ c Ac cc (hr_c.below' hW).top (by omega)) X7d) (fun _ _ ⟨A20,c20,_,ho20,hE⟩=>hE) ?_;rintro _ w9 ⟨A20,c20,rfl,ho20,hE⟩
   replace ho20:=ho20.lower hW.size
   replace hB3:=hB3.below hE
   replace hB7:=hB7.below hE
   replace hB28:=hB28.below hE
   replace ho16:=ho16.below hE
   replace hW:=btr hW hE
   replace hEc:=btr hEc hE
   replace hJc:=btr hJc hE
   refine Yo 4 rfl (fun _=>Xh (ps:=[(0,.agg #[vi c.n,.slice A16 c.gs.length c16]),(2,.agg #[vi c.n,.slice A20 c.gs.length c20])]) (cs:=[vi c.n,.slice A16 c.gs.length c16,.slice none 0 0,vi c.n,.slice A20 c.gs.length c20]) rfl (fun _=>by first|rfl|kernel_rfl)) ?_
   exact fun a hf=>hJ16 _ a _ rfl ⟨b28,A16,c16,A20,c20,hf.sub ⟨rfl,rfl,rfl,trivial⟩,hlo28,hB28,hne7_28,hlj28,hlc28,ho16,ho20,hJc⟩
  intro hJ18
  refine Y2 1 5 ?_ ?_
  ·refine Yk rfl trivial (Vc (Xdj _ c Ac cc (hr_c.below' hW).top (by omega)) X7d) (fun _ _ ⟨A24,c24,_,ho24,hE⟩=>hE) ?_;rintro _ w10 ⟨A24,c24,rfl,ho24,hE⟩
   replace ho24:=ho24.lower hW.size
   replace hB3:=hB3.below hE
   replace hB7:=hB7.below hE
   replace hW:=btr hW hE
   replace hEc:=btr hEc hE
   replace hJc:=btr hJc hE
   refine Y2 3 5 ?_ ?_
   ·refine Yk rfl trivial (Vc (Xdj _ c Ac cc (hr_c.below' hW).top (by omega)) X7d) (fun _ _ ⟨A25,c25,_,ho25,hE⟩=>hE) ?_;rintro _ w11 ⟨A25,c25,rfl,ho25,hE⟩
    replace ho25:=ho25.lower hW.size
    replace hB3:=hB3.below hE
    replace hB7:=hB7.below hE
    replace ho24:=ho24.below hE
    replace hW:=btr hW hE
    replace hEc:=btr hEc hE
    replace hJc:=btr hJc hE
    refine Yo 4 rfl (fun _=>Xh (ps:=[(0,.agg #[vi c.n,.slice A24 c.gs.length c24]),(2,.agg #[vi c.n,.slice A25 c.gs.length c25])]) (cs:=[vi c.n,.slice A24 c.gs.length c24,.slice none 0 0,vi c.n,.slice A25 c.gs.length c25]) rfl (fun _=>by first|rfl|kernel_rfl)) ?_
    refine Y1 5 ?_
    refine Yk rfl trivial (Xa (zs:=[vi 0,.slice none 0 0,.slice none 0 0,vi 0,.slice none 0 0]) X3g rfl) (fun _ _ ⟨_,_,_,h,_⟩=>h) ?_;rintro _ w12 ⟨b32,rfl,hl32,hE,hB32⟩
    have hne7_32:b7≠b32:=by have:=hB7.lt;omega
    have hlo32:=Nat.le_trans hW.size hl32
    have hlc32:=Nat.le_trans hEc.size hl32
    have hlj32:=Nat.le_trans hJc.size hl32
    replace hB3:=hB3.below hE
    replace hB7:=hB7.below hE
    replace ho24:=ho24.below hE
    replace ho25:=ho25.below hE
    replace hW:=btr hW hE
    replace hEc:=btr hEc hE
    replace hJc:=btr hJc hE
    exact fun a hf=>hJ16 _ a _ rfl ⟨b32,A24,c24,A25,c25,hf.sub ⟨rfl,rfl,rfl,trivial⟩,hlo32,hB32,hne7_32,hlj32,hlc32,ho24,ho25,hJc⟩
   refine Yk rfl trivial (Xa (zs:=[vi 0,.slice none 0 0,.slice none 0 0,vi 0,.slice none 0 0]) X3g rfl) (fun _ _ ⟨_,_,_,h,_⟩=>h) ?_;rintro _ w13 ⟨b36,rfl,hl36,hE,hB36⟩
   have hne7_36:b7≠b36:=by have:=hB7.lt;omega
   have hlo36:=Nat.le_trans hW.size hl36
   have hlc36:=Nat.le_trans hEc.size hl36
   have hlj36:=Nat.le_trans hJc.size hl36
   replace hB3:=hB3.below hE
   replace hB7:=hB7.below hE
   replace ho24:=ho24.below hE
   replace hW:=btr hW hE
   replace hEc:=btr hEc hE
   replace hJc:=btr hJc hE
   exact fun a hf=>hJ18 _ a _ rfl ⟨b36,A24,c24,hf.sub ⟨rfl,rfl,rfl,rfl,trivial⟩,hlo36,hB36,hne7_36,hlj36,hlc36,ho24,hJc⟩
  refine Yk rfl trivial (Xa (zs:=[vi 0,.slice none 0 0,.slice none 0 0,vi 0,.slice none 0 0]) X3g rfl) (fun _ _ ⟨_,_,_,h,_⟩=>h) ?_;rintro _ w14 ⟨b40,rfl,hl40,hE,hB40⟩
  have hne7_40:b7≠b40:=by have:=hB7.lt;omega
  have hlo40:=Nat.le_trans hW.size hl40
  have hlc40:=Nat.le_trans hEc.size hl40
  have hlj40:=Nat.le_trans hJc.size hl40
  replace hB3:=hB3.below hE
  replace hB7:=hB7.below hE
  replace hW:=btr hW hE
  replace hEc:=btr hEc hE
  replace hJc:=btr hJc hE
  refine Y1 1 ?_
  refine Yk rfl trivial (Vc (Xdj _ c Ac cc (hr_c.below' hW).top (by omega)) X7d) (fun _ _ ⟨A41,c41,_,ho41,hE⟩=>hE) ?_;rintro _ w15 ⟨A41,c41,rfl,ho41,hE⟩
  replace ho41:=ho41.lower hW.size
  replace hB3:=hB3.below hE
  replace hB7:=hB7.below hE
  replace hB40:=hB40.below hE
  replace hW:=btr hW hE
  replace hEc:=btr hEc hE
  replace hJc:=btr hJc hE
  exact fun a hf=>hJ18 _ a _ rfl ⟨b40,A41,c41,hf.sub ⟨rfl,rfl,rfl,rfl,trivial⟩,hlo40,hB40,hne7_40,hlj40,hlc40,ho41,hJc⟩
 rintro a w16 ⟨b24,A16,c16,A17,c17,hf,hlo24,hB24,hne7_24,ho16,ho17,hE⟩
 replace hB3:=hB3.below hE
 replace hB7:=hB7.below hE
 replace hW:=btr hW hE
 refine hK15 _ _ ?_
 refine wp_block ?_
 refine X0j (σ:=(List Sr)×Int×(List Gt)×Nat) (fun (s:(List Sr)×Int×(List Gt)×Nat) (a:Act) (w:World)=>match s with|(l,n1,gs,k)=>∃ A42 c42 A43 c43,Fr a 39 [(2,.pointer (some ⟨b7,0,none⟩)),(4,.pointer (some ⟨b24,0,none⟩))]∧(CanI c l ⟨n1,gs⟩ k)∧Blk w b7 46 [vi 0,.slice none 0 0,.slice none 0 0,vi 0,.slice none 0 0]∧Blk w b24 46 [vi c.n,.slice A16 c.gs.length c16,.slice A42 l.length c42,vi n1,.slice A43 gs.length c43]∧Own w w0.heap.size 24 3 encG A16 c16 c.gs∧Own w w0.heap.size 62 3 encSr A42 c42 l∧Own w w0.heap.size 24 3 encG A43 c43 gs∧DeepR w w.heap.size 24 l∧Below w0.heap.size w0 w) (fun (s:(List Sr)×Int×(List Gt)×Nat)=>match s with|(l,n1,gs,k)=>k) ([],c.n,c.gs,c.gs.length) ?_ ?_
 ·exact ⟨none,0,A17,c17,hf.sub ⟨rfl,rfl,trivial⟩,(CanI.start hc),hB7,hB24,ho16,(Own.nil _ _ _ _ _),ho17,(DeepR.nil _ _ _),hW⟩
 rintro ⟨l,n1,gs,k⟩ a w17 ⟨A42,c42,A43,c43,hf,hin,hB7,hB24,ho16,ho42,ho43,hdp42,hW⟩
 refine wp_block ?_
 refine Zs hf fun _ hK44=>?_
 refine Ze (Vd rfl X1l 3)<|Ze (Xj (l:=[vi n1,.slice A43 gs.length c43]) rfl X0c ((hB24.at 3).take 2) rfl) ?_
 refine Zf (Vc (Xmt _ (⟨n1,gs⟩ : Cx) A43 c43 ho43.rd.top ho43.cap (by have:=hin.len;omega)) Xi9) ?_;rintro _ w18 ⟨A45,c45,A46,c46,rfl,hr45,hr46,hE⟩
 replace hB7:=hB7.below hE
 replace hB24:=hB24.below hE
 replace ho16:=ho16.below hE
 replace ho42:=ho42.below hE
 replace ho43:=ho43.below hE
 replace hdp42:=hdp42.below hE
 replace hW:=btr hW hE
 refine Zm rfl<|Ze (X3 (vs:=[.agg #[vi (((canS (⟨n1,gs⟩ : Cx).gs).getD rpZ).pos),.slice A45 (((canS (⟨n1,gs⟩ : Cx).gs).getD rpZ).old).length c45,.slice A46 (((canS (⟨n1,gs⟩ : Cx).gs).getD rpZ).new).length c46],.bool ((canS (⟨n1,gs⟩ : Cx).gs).isSome)]) rfl rfl)<|Ze (X3 (vs:=[.agg #[vi (((canS (⟨n1,gs⟩ : Cx).gs).getD rpZ).pos),.slice A45 (((canS (⟨n1,gs⟩ : Cx).gs).getD rpZ).old).length c45,.slice A46 (((canS (⟨n1,gs⟩ : Cx).gs).getD rpZ).new).length c46],.bool ((canS (⟨n1,gs⟩ : Cx).gs).isSome)]) rfl rfl) ?_
 refine Zf (Xa (zs:=[vi 0,.slice none 0 0,.slice none 0 0]) Xa0 rfl) ?_;rintro _ w19 ⟨b49,rfl,hl49,hE,hB49⟩
 have hlo49:=Nat.le_trans hW.size hl49
 have haw42_49:=ho42.away hl49
 replace hB7:=hB7.below hE
 replace hB24:=hB24.below hE
 replace ho16:=ho16.below hE
 replace ho42:=ho42.below hE
 replace ho43:=ho43.below hE
 replace hr45:=hr45.below hE
 replace hr46:=hr46.below hE
 replace hdp42:=hdp42.below hE
 replace hW:=btr hW hE
 refine Zo (Vw [vi (((canS (⟨n1,gs⟩ : Cx).gs).getD rpZ).pos),.slice A45 (((canS (⟨n1,gs⟩ : Cx).gs).getD rpZ).old).length c45,.slice A46 (((canS (⟨n1,gs⟩ : Cx).gs).getD rpZ).new).length c46] X23 hB49) ?_;rintro _ w20 ⟨ho,hb⟩
 have hold:=hB49
 replace hB7:=hB7.only ho (Blk.ne hB7 hold rfl)
 replace hB24:=hB24.only ho (Blk.ne hB24 hold rfl)
 replace ho16:=ho16.onlyT ho hold rfl
 replace ho42:=ho42.onlyA ho haw42_49
 replace ho43:=ho43.onlyT ho hold rfl
 replace hr45:=hr45.onlyT ho hold rfl
 replace hr46:=hr46.onlyT ho hold rfl
 replace hdp42:=hdp42.onlyT ho hold rfl
 replace hW:=Below.only hW ho hlo49
 clear hold
 have hB49:=hb
 clear hb ho
 refine Za rfl ?_
 refine Zt hK44 fun a hf=>?_
 refine wp_seq_k fun _ hK50=>?_
 refine Zs hf fun _ hK51=>?_
 refine Zm rfl<|Ze (X15 rfl) ?_
 refine Zt hK51 fun a hf=>?_
 refine Xi hf rfl (fun hc52=>?_) (fun hc52=>?_)
 ·have hc52b:=hc52
  have hno:canS gs=none:=by revert hc52;cases canS gs<;>simp
  have hfin:=hin.done hc hno
  refine Zs hf fun _ hK53=>?_
  refine Ze (Vn X0l hB24) ?_
  refine Zo (Vw [vi c.n,.slice A16 c.gs.length c16,.slice A42 l.length c42,vi n1,.slice A43 gs.length c43] X13 hB7) ?_;rintro _ w21 ⟨ho,hb⟩
  have hold:=hB7
  replace hB24:=hB24.only ho (by omega)
  replace hB49:=hB49.only ho (Blk.ne hB49 hold rfl)
  replace ho16:=ho16.onlyT ho hold rfl
  replace ho42:=ho42.onlyT ho hold rfl
  replace ho43:=ho43.onlyT ho hold rfl
  replace hr45:=hr45.onlyT ho hold rfl
  replace hr46:=hr46.onlyT ho hold rfl
  replace hdp42:=hdp42.onlyT ho hold rfl
  replace hW:=Below.only hW ho hlo7
  clear hold
  have hB7:=hb
  clear hb ho
  refine Za rfl ?_
  refine Zt hK53 fun a hf=>?_
  refine wp_ret ?_
  refine X8 ?_
  refine Xy ?_
  refine X8 ?_
  refine Xy ?_
  refine X2 hf (X0r hf rfl (ResV.cellN (l:=[vi c.n,.slice A16 c.gs.length c16,.slice A42 l.length c42,vi n1,.slice A43 gs.length c43]) rfl X0l (hB7.at 0) rfl) rfl) ?_
  rw [hfin,hc]
  exact ⟨l,_,_,_,_,_,_,rfl,rfl,⟨ho16.cap,ho43.cap⟩,ho16.rd.top,ho43.rd.top,ho42,(hdp42.top),hW⟩
 have hc52b:=hc52
 have hlen:l.length+gs.length≤c.gs.length:=hin.len
 have hr9:canS gs=some ((canS gs).getD rpZ):=by revert hc52;cases canS gs<;>simp
 obtain ⟨_,_,_,_,_,hl41,hl42⟩:=Xcl hin.ok hr9
 refine wp_skip ?_
 refine hK50 _ _ ?_
 refine Zs hf fun _ hK54=>?_
 refine Ze (Vd rfl X0y 2)<|Ze (X0 rfl X1z (hB24.at 2))<|Ze (Vn X1i hB49) ?_
 refine Zf (X4 (k:=1) (vs:=[.agg #[vi (((canS (⟨n1,gs⟩ : Cx).gs).getD rpZ).pos),.slice A45 (((canS (⟨n1,gs⟩ : Cx).gs).getD rpZ).old).length c45,.slice A46 (((canS (⟨n1,gs⟩ : Cx).gs).getD rpZ).new).length c46]]) (zs:=[vi (((canS (⟨n1,gs⟩ : Cx).gs).getD rpZ).pos),.slice A45 (((canS (⟨n1,gs⟩ : Cx).gs).getD rpZ).old).length c45,.slice A46 (((canS (⟨n1,gs⟩ : Cx).gs).getD rpZ).new).length c46]) rfl X17 X1w rfl rfl) ?_;rintro _ w22 ⟨b55,rfl,hl55,hE,hB55⟩
 have hne49_55:b49≠b55:=by have:=hB49.lt;omega
 have hlo55:=Nat.le_trans hW.size hl55
 have haw42_55:=ho42.away hl55
 replace hB7:=hB7.below hE
 replace hB24:=hB24.below hE
 replace hB49:=hB49.below hE
 replace ho16:=ho16.below hE
 replace ho42:=ho42.below hE
 replace ho43:=ho43.below hE
 replace hr45:=hr45.below hE
 replace hr46:=hr46.below hE
 replace hdp42:=hdp42.below hE
 replace hW:=btr hW hE
 refine Zf (X0f (enc:=encSr) (l:=(l)) (l2:=([(⟨((canS (⟨n1,gs⟩ : Cx).gs).getD rpZ).pos,A45,c45,((canS (⟨n1,gs⟩ : Cx).gs).getD rpZ).old,A46,c46,((canS (⟨n1,gs⟩ : Cx).gs).getD rpZ).new⟩ : Sr)])) (B0:=w0.heap.size) rfl rfl X17 X1w X19 X1t ho42 (Rd.of_blk hB55 rfl _ hB55.lt) (by simp only [maxLen];simp;omega) (by simp;omega) hW.size) ?_;rintro _ w23 ⟨A57,c57,rfl,ho57,hg,hat⟩
 have hown:Own _ w0.heap.size 62 3 encSr _ _ (l):=ho42
 have haw57_49:=hat _ hB49.lt haw42_49
 have haw57_55:=hat _ hB55.lt haw42_55
 clear hat
 have hdp57:=DeepR.snoc (l:=l) (x:=(⟨((canS (⟨n1,gs⟩ : Cx).gs).getD rpZ).pos,A45,c45,((canS (⟨n1,gs⟩ : Cx).gs).getD rpZ).old,A46,c46,((canS (⟨n1,gs⟩ : Cx).gs).getD rpZ).new⟩ : Sr)) hdp42.top hr45.top hr46.top
 replace hB7:=hB7.appT hown hg rfl
 replace hB24:=hB24.appT hown hg rfl
 replace hB49:=hB49.appA hg haw42_49
 replace ho16:=ho16.appT hown hg rfl
 replace ho43:=ho43.appT hown hg rfl
 replace hr45:=hr45.appT hown hg rfl
 replace hr46:=hr46.appT hown hg rfl
 replace hdp57:=hdp57.appT hown hg rfl
 replace hW:=Below.app hW hown hg (Nat.le_refl _) hW.size
 clear hown hg
 refine Ze (Vd rfl X0y 2) ?_
 refine Zo (Vu (vs:=[.slice A57 (l++([(⟨((canS (⟨n1,gs⟩ : Cx).gs).getD rpZ).pos,A45,c45,((canS (⟨n1,gs⟩ : Cx).gs).getD rpZ).old,A46,c46,((canS (⟨n1,gs⟩ : Cx).gs).getD rpZ).new⟩ : Sr)])).length c57]) (l':=[vi c.n,.slice A16 c.gs.length c16,.slice A57 (l++([(⟨((canS (⟨n1,gs⟩ : Cx).gs).getD rpZ).pos,A45,c45,((canS (⟨n1,gs⟩ : Cx).gs).getD rpZ).old,A46,c46,((canS (⟨n1,gs⟩ : Cx).gs).getD rpZ).new⟩ : Sr)])).length c57,vi n1,.slice A43 gs.length c43]) rfl rfl Xb3 hB24) ?_;rintro _ w24 ⟨ho,hb⟩
 have hold:=hB24
 replace hB7:=hB7.only ho (by omega)
 replace hB49:=hB49.only ho (Blk.ne hB49 hold rfl)
 replace ho16:=ho16.onlyT ho hold rfl
 replace ho43:=ho43.onlyT ho hold rfl
 replace hr45:=hr45.onlyT ho hold rfl
 replace hr46:=hr46.onlyT ho hold rfl
 replace ho57:=ho57.onlyT ho hold rfl
 replace hdp57:=hdp57.onlyT ho hold rfl
 replace hW:=Below.only hW ho hlo24
 clear hold
 have hB24:=hb
 clear hb ho
 refine Zt hK54 fun a hf=>?_
 refine Zr hf ?_
 refine Ze (Vd rfl X1l 3)<|Ze (Xj (l:=[vi n1,.slice A43 gs.length c43]) rfl X0c ((hB24.at 3).take 2) rfl)<|Ze (Vn X1i hB49) ?_
 refine Zf (Vc (F63 _ (⟨n1,gs⟩ : Cx) A43 c43 ho43.rd.top ho43.cap ((canS (⟨n1,gs⟩ : Cx).gs).getD rpZ) A45 c45 hr45.top A46 c46 hr46.top (by have:=hin.len;omega) (Nat.le_trans hl41 (by decide)) (Nat.le_trans hl42 (by decide))) Xey) ?_;rintro _ w25 ⟨A58,c58,rfl,ho58,hE⟩
 replace ho58:=ho58.lower hW.size
 replace hB7:=hB7.below hE
 replace hB24:=hB24.below hE
 replace hB49:=hB49.below hE
 replace ho16:=ho16.below hE
 replace ho43:=ho43.below hE
 replace hr45:=hr45.below hE
 replace hr46:=hr46.below hE
 replace ho57:=ho57.below hE
 replace hdp57:=hdp57.below hE
 replace hW:=btr hW hE
 refine Zm rfl<|Ze (X3 (vs:=[.agg #[vi (((applyS (⟨n1,gs⟩ : Cx) ((canS (⟨n1,gs⟩ : Cx).gs).getD rpZ)).getD cZ).n),.slice A58 (((applyS (⟨n1,gs⟩ : Cx) ((canS (⟨n1,gs⟩ : Cx).gs).getD rpZ)).getD cZ).gs).length c58],.bool ((applyS (⟨n1,gs⟩ : Cx) ((canS (⟨n1,gs⟩ : Cx).gs).getD rpZ)).isSome)]) rfl rfl)<|Ze (X3 (vs:=[.agg #[vi (((applyS (⟨n1,gs⟩ : Cx) ((canS (⟨n1,gs⟩ : Cx).gs).getD rpZ)).getD cZ).n),.slice A58 (((applyS (⟨n1,gs⟩ : Cx) ((canS (⟨n1,gs⟩ : Cx).gs).getD rpZ)).getD cZ).gs).length c58],.bool ((applyS (⟨n1,gs⟩ : Cx) ((canS (⟨n1,gs⟩ : Cx).gs).getD rpZ)).isSome)]) rfl rfl)<|Ze (Vd rfl X1l 3) ?_
 refine Zo (Vu (vs:=[vi (((applyS (⟨n1,gs⟩ : Cx) ((canS (⟨n1,gs⟩ : Cx).gs).getD rpZ)).getD cZ).n),.slice A58 (((applyS (⟨n1,gs⟩ : Cx) ((canS (⟨n1,gs⟩ : Cx).gs).getD rpZ)).getD cZ).gs).length c58]) (l':=[vi c.n,.slice A16 c.gs.length c16,.slice A57 (l++([(⟨((canS (⟨n1,gs⟩ : Cx).gs).getD rpZ).pos,A45,c45,((canS (⟨n1,gs⟩ : Cx).gs).getD rpZ).old,A46,c46,((canS (⟨n1,gs⟩ : Cx).gs).getD rpZ).new⟩ : Sr)])).length c57,vi (((applyS (⟨n1,gs⟩ : Cx) ((canS (⟨n1,gs⟩ : Cx).gs).getD rpZ)).getD cZ).n),.slice A58 (((applyS (⟨n1,gs⟩ : Cx) ((canS (⟨n1,gs⟩ : Cx).gs).getD rpZ)).getD cZ).gs).length c58]) rfl rfl X1h hB24) ?_;rintro _ w26 ⟨ho,hb⟩
 have hold:=hB24
 replace hB7:=hB7.only ho (by omega)
 replace hB49:=hB49.only ho (Blk.ne hB49 hold rfl)
 replace ho16:=ho16.onlyT ho hold rfl
 replace ho43:=ho43.onlyT ho hold rfl
 replace hr45:=hr45.onlyT ho hold rfl
 replace hr46:=hr46.onlyT ho hold rfl
 replace ho57:=ho57.onlyT ho hold rfl
 replace ho58:=ho58.onlyT ho hold rfl
 replace hdp57:=hdp57.onlyT ho hold rfl
 replace hW:=Below.only hW ho hlo24
 clear hold
 have hB24:=hb
 clear hb ho
 refine Zn fun a hf=>?_
 refine Xf ?_
 obtain ⟨k2,hk2,hin2⟩:=hin.next hr9 (s:=⟨((canS (⟨n1,gs⟩ : Cx).gs).getD rpZ).pos,A45,c45,((canS (⟨n1,gs⟩ : Cx).gs).getD rpZ).old,A46,c46,((canS (⟨n1,gs⟩ : Cx).gs).getD rpZ).new⟩) rfl
 refine Xn ?_
 exact ⟨(l++([(⟨((canS (⟨n1,gs⟩ : Cx).gs).getD rpZ).pos,A45,c45,((canS (⟨n1,gs⟩ : Cx).gs).getD rpZ).old,A46,c46,((canS (⟨n1,gs⟩ : Cx).gs).getD rpZ).new⟩ : Sr)]),((applyS (⟨n1,gs⟩ : Cx) ((canS (⟨n1,gs⟩ : Cx).gs).getD rpZ)).getD cZ).n,((applyS (⟨n1,gs⟩ : Cx) ((canS (⟨n1,gs⟩ : Cx).gs).getD rpZ)).getD cZ).gs,k2),⟨A57,c57,A58,c58,hf.sub ⟨rfl,rfl,trivial⟩,hin2,hB7,hB24,ho16,ho57,ho58,hdp57.top,hW⟩,(by first|omega|(dsimp only;omega))⟩
end Go.Proofs.YtlfjcmldfbfdbaaGreat
set_option maxRecDepth 4000
namespace Go.Proofs.YtlfjcmldfbfdbaaGreat
open Go.RowKit
theorem Xmm(w0:World)(bV:Nat){Xcd:TypeId}(Acd:Option Addr)(ccd:Nat)(code:List Int)(hr_code:Rd w0 w0.heap.size Xcd encU Acd code)(hcd:∀ x ∈ code,0≤x∧x≤255)(hav:AwayR code Acd bV)(t:Nat)(sd:Int)(hBV:Blk w0 bV 80 [.slice Acd code.length ccd,vi (t:Int),.int .u64 sd])(c:Cx)(Ac:Option Addr)(cc:Nat)(hr_c:Rd w0 w0.heap.size 24 encG Ac c.gs)(hp_c:c.gs.length≤cc)(hcn:c.n≤100)(hln:c.gs.length≤1000)(ht:t+26≤100000000) : Ret Tryz.prog 151 [.pointer (some ⟨bV,0,none⟩),.agg #[vi c.n,.slice Ac c.gs.length cc]] w0 (fun v w=>∃ (r:Rp) (A:Option Addr) (e:Nat) (B:Option Addr) (f:Nat) (t1:Nat) (s1:Int),v=.agg #[vi r.pos,.slice A r.old.length e,.slice B r.new.length f]∧(r.old.length≤41∧r.new.length≤41)∧(t≤t1∧t1≤t+26)∧Rd w w.heap.size 24 encG A r.old∧Rd w w.heap.size 24 encG B r.new∧Kept bV w0.heap.size w0 w∧Blk w bV 80 [.slice Acd code.length ccd,vi (t1:Int),.int .u64 s1]):=by
 have hltV:=hBV.lt
 refine enter Tryz.func151 rfl 102 rfl rfl ?_
 intro a hf
 have hW:Kept bV w0.heap.size w0 w0:=Kept.refl _ _ _
 refine Zs hf fun _ hK3=>?_
 refine Zf (X0p (zs:=[vi c.n,.slice Ac c.gs.length cc]) rfl rfl) ?_;rintro _ w1 ⟨b4,rfl,hl4,hE,hB4⟩
 have hlo4:=Nat.le_trans hW.size hl4
 have haw1_4:=hr_code.away hl4
 replace hBV:=hBV.below hE
 replace hr_code:=hr_code.below hE
 replace hr_c:=hr_c.below hE
 replace hW:=ktr hW hE
 refine Zf (Xa (zs:=[vi 0,.slice none 0 0,.slice none 0 0]) Xa0 rfl) ?_;rintro _ w2 ⟨b7,rfl,hl7,hE,hB7⟩
 have hlo7:=Nat.le_trans hW.size hl7
 have haw1_7:=hr_code.away hl7
 replace hBV:=hBV.below hE
 replace hB4:=hB4.below hE
 replace hr_code:=hr_code.below hE
 replace hr_c:=hr_c.below hE
 replace hW:=ktr hW hE
 refine Zt hK3 fun a hf=>?_
 refine Zs hf fun _ hK8=>?_
 refine Zm rfl<|Ze (Vd rfl Xw 1)<|Ze (X0 rfl X06 (hB4.at 1))<|Ze (X0v rfl Xd)<|Ze (Xv rfl rfl (by omega) (by omega)) ?_
 refine Zf (Vc (X24 _ bV Acd ccd code hr_code.top hcd hav t sd hBV ((c.gs.length:Int)+1) (by omega)) X1f) ?_;rintro _ w3 ⟨xz14,tz14,sz14,rfl,hPz14,htz14,hK,hbn⟩
 obtain ⟨wm,hO,hm,hE⟩:=hK.mid;clear hm
 have hold:=hBV
 replace hB4:=hB4.only hO (Blk.ne hB4 hold rfl)
 replace hB7:=hB7.only hO (Blk.ne hB7 hold rfl)
 replace hr_code:=hr_code.onlyA hO hav
 replace hr_c:=hr_c.onlyT hO hold rfl
 replace hW:=hW.self hO
 replace hB4:=hB4.below hE
 replace hB7:=hB7.below hE
 replace hr_code:=hr_code.below hE
 replace hr_c:=hr_c.below hE
 replace hW:=ktr hW hE
 clear hold hE hO hK;replace hBV:=hbn;clear hbn
 refine Za rfl ?_
 refine Zt hK8 fun a hf=>?_
 refine Zs hf fun _ hK9=>?_
 refine Zm rfl<|Ze (Vd rfl Xw 1)<|Ze (X0 rfl X06 (hB4.at 1))<|Ze (X0v rfl Xd)<|Zm rfl ?_
 refine Ze (X1d rfl rfl (by omega) (by omega)) ?_
 refine Zf (Vc (Xja _ 4 ((c.gs.length:Int)-xz14)) Xcy) ?_;rintro _ w4 ⟨rfl,hE⟩
 replace hBV:=hBV.below hE
 replace hB4:=hB4.below hE
 replace hB7:=hB7.below hE
 replace hr_code:=hr_code.below hE
 replace hr_c:=hr_c.below hE
 replace hW:=ktr hW hE
 refine Ze (Xv rfl rfl (by omega) (by omega)) ?_
 refine Zf (Vc (X24 _ bV Acd ccd code hr_code.top hcd hav tz14 sz14 hBV ((min 4 ((c.gs.length:Int)-xz14))+1) (by omega)) X1f) ?_;rintro _ w5 ⟨xz23,tz23,sz23,rfl,hPz23,htz23,hK,hbn⟩
 obtain ⟨wm,hO,hm,hE⟩:=hK.mid;clear hm
 have hold:=hBV
 replace hB4:=hB4.only hO (Blk.ne hB4 hold rfl)
 replace hB7:=hB7.only hO (Blk.ne hB7 hold rfl)
 replace hr_code:=hr_code.onlyA hO hav
 replace hr_c:=hr_c.onlyT hO hold rfl
 replace hW:=hW.self hO
 replace hB4:=hB4.below hE
 replace hB7:=hB7.below hE
 replace hr_code:=hr_code.below hE
 replace hr_c:=hr_c.below hE
 replace hW:=ktr hW hE
 clear hold hE hO hK;replace hBV:=hbn;clear hbn
 refine Za rfl ?_
 refine Zt hK9 fun a hf=>?_
 refine Zs hf fun _ hK10=>?_
 refine Zm rfl ?_
 refine Zf (X4 (k:=0) (vs:=[]) (zs:=[]) rfl Xd Xe rfl rfl) ?_;rintro _ w6 ⟨b11,rfl,hl11,hE,hB11⟩
 have hlo11:=Nat.le_trans hW.size hl11
 have haw1_11:=hr_code.away hl11
 have haw2_11:=hr_c.away hl11
 replace hBV:=hBV.below hE
 replace hB4:=hB4.below hE
 replace hB7:=hB7.below hE
 replace hr_code:=hr_code.below hE
 replace hr_c:=hr_c.below hE
 replace hW:=ktr hW hE
 refine Ze (Vd rfl Xw 1)<|Ze (X0 rfl X06 (hB4.at 1))<|Zm rfl<|Zm rfl<|Zm rfl ?_
 refine Ze (Xv rfl rfl (by omega) (by omega)) ?_
 have hr13:=((hr_c.top).takeK Xb ((xz14+xz23).toNat)).dropK Xb (c:=cc) (X79 hp_c ((xz14+xz23).toNat)) xz14.toNat
 refine Ze (Xdp (l:=c.gs) (k:=xz14.toNat) (m:=(xz14+xz23).toNat) rfl rfl rfl Xd X0a (by omega) (by omega) (by omega) (by omega) hp_c) ?_
 refine Zf (X10 (enc:=encG) (l2:=(((c.gs.take ((xz14+xz23).toNat)).drop xz14.toNat))) rfl rfl Xd Xe Xb Xp hB11 hr13 (by simp only [maxLen];simp;omega) (by simp;omega)) ?_;rintro _ w7 ⟨A14,c14,rfl,ho14,hE,hat⟩
 clear hat
 replace ho14:=ho14.lower hlo11
 replace hBV:=hBV.below hE
 replace hB4:=hB4.below hE
 replace hB7:=hB7.below hE
 replace hr_code:=hr_code.below hE
 replace hr_c:=hr_c.below hE
 replace hr13:=hr13.below hE
 replace hW:=ktr hW hE
 refine Ze (Xh (ps:=[(0,vi xz14),(1,.slice A14 ((c.gs.take ((xz14+xz23).toNat)).drop xz14.toNat).length c14)]) (cs:=[vi xz14,.slice A14 ((c.gs.take ((xz14+xz23).toNat)).drop xz14.toNat).length c14,.slice none 0 0]) rfl (fun _=>by first|rfl|kernel_rfl)) ?_
 refine Zf (Xa (zs:=[vi 0,.slice none 0 0,.slice none 0 0]) Xa0 rfl) ?_;rintro _ w8 ⟨b19,rfl,hl19,hE,hB19⟩
 have hne7_19:b7≠b19:=by have:=hB7.lt;omega
 have hlo19:=Nat.le_trans hW.size hl19
 have haw1_19:=hr_code.away hl19
 replace hBV:=hBV.below hE
 replace hB4:=hB4.below hE
 replace hB7:=hB7.below hE
 replace hr_code:=hr_code.below hE
 replace hr_c:=hr_c.below hE
 replace hr13:=hr13.below hE
 replace ho14:=ho14.below hE
 replace hW:=ktr hW hE
 refine Zo (Vw [vi xz14,.slice A14 ((c.gs.take ((xz14+xz23).toNat)).drop xz14.toNat).length c14,.slice none 0 0] X23 hB19) ?_;rintro _ w9 ⟨ho,hb⟩
 have hold:=hB19
 replace hBV:=hBV.only ho (Blk.ne hBV hold rfl)
 replace hB4:=hB4.only ho (Blk.ne hB4 hold rfl)
 replace hB7:=hB7.only ho (by omega)
 replace hr_code:=hr_code.only ho hlo19
 replace hr_c:=hr_c.onlyT ho hold rfl
 replace hr13:=hr13.onlyT ho hold rfl
 replace ho14:=ho14.onlyT ho hold rfl
 replace hW:=Kept.only hW ho hlo19
 clear hold
 have hB19:=hb
 clear hb ho
 refine Zt hK10 fun a hf=>?_
 refine Zs hf fun _ hK20=>?_
 refine Zf (X4 (k:=0) (vs:=[]) (zs:=[]) rfl Xd Xe rfl rfl) ?_;rintro _ w10 ⟨b21,rfl,hl21,hE,hB21⟩
 have hlo21:=Nat.le_trans hW.size hl21
 have haw1_21:=hr_code.away hl21
 have haw2_21:=hr_c.away hl21
 have haw14_21:=ho14.away hl21
 replace hBV:=hBV.below hE
 replace hB4:=hB4.below hE
 replace hB7:=hB7.below hE
 replace hB19:=hB19.below hE
 replace hr_code:=hr_code.below hE
 replace hr_c:=hr_c.below hE
 replace ho14:=ho14.below hE
 replace hW:=ktr hW hE
 refine Ze (Vd rfl X1s 1)<|Ze (X0 rfl X06 (hB19.at 1)) ?_
 refine Zf (X10 (enc:=encG) (l2:=(((c.gs.take ((xz14+xz23).toNat)).drop xz14.toNat))) rfl rfl Xd Xe Xb Xp hB21 ho14.rd (by simp only [maxLen];simp;omega) (by simp;omega)) ?_;rintro _ w11 ⟨A23,c23,rfl,ho23,hE,hat⟩
 have hap14_23:=Apart.new0 ho14 haw14_21 hat
 clear hat
 replace ho23:=ho23.lower hlo21
 replace hBV:=hBV.below hE
 replace hB4:=hB4.below hE
 replace hB7:=hB7.below hE
 replace hB19:=hB19.below hE
 replace hr_code:=hr_code.below hE
 replace hr_c:=hr_c.below hE
 replace ho14:=ho14.below hE
 replace hW:=ktr hW hE
 refine Ze (Vd rfl X1m 2) ?_
 refine Zo (Vu (vs:=[.slice A23 ((c.gs.take ((xz14+xz23).toNat)).drop xz14.toNat).length c23]) (l':=[vi xz14,.slice A14 ((c.gs.take ((xz14+xz23).toNat)).drop xz14.toNat).length c14,.slice A23 ((c.gs.take ((xz14+xz23).toNat)).drop xz14.toNat).length c23]) rfl rfl X2i hB19) ?_;rintro _ w12 ⟨ho,hb⟩
 have hold:=hB19
 replace hBV:=hBV.only ho (Blk.ne hBV hold rfl)
 replace hB4:=hB4.only ho (Blk.ne hB4 hold rfl)
 replace hB7:=hB7.only ho (by omega)
 replace hr_code:=hr_code.only ho hlo19
 replace hr_c:=hr_c.onlyT ho hold rfl
 replace ho14:=ho14.onlyT ho hold rfl
 replace ho23:=ho23.onlyT ho hold rfl
 replace hW:=Kept.only hW ho hlo19
 clear hold
 have hB19:=hb
 clear hb ho
 refine Zt hK20 fun a hf=>?_
 refine wp_seq_k fun _ hK24=>?_
 refine Zs hf fun _ hK25=>?_
 refine Zm rfl ?_
 refine Zf (Vc (X24 _ bV Acd ccd code hr_code.top hcd hav tz23 sz23 hBV 8 (by omega)) X1f) ?_;rintro _ w13 ⟨xz41,tz41,sz41,rfl,hPz41,htz41,hK,hbn⟩
 obtain ⟨wm,hO,hm,hE⟩:=hK.mid;clear hm
 have hold:=hBV
 replace hB4:=hB4.only hO (Blk.ne hB4 hold rfl)
 replace hB7:=hB7.only hO (Blk.ne hB7 hold rfl)
 replace hB19:=hB19.only hO (Blk.ne hB19 hold rfl)
 replace hr_code:=hr_code.onlyA hO hav
 replace hr_c:=hr_c.onlyT hO hold rfl
 replace ho14:=ho14.onlyT hO hold rfl
 replace ho23:=ho23.onlyT hO hold rfl
 replace hW:=hW.self hO
 replace hB4:=hB4.below hE
 replace hB7:=hB7.below hE
 replace hB19:=hB19.below hE
 replace hr_code:=hr_code.below hE
 replace hr_c:=hr_c.below hE
 replace ho14:=ho14.below hE
 replace ho23:=ho23.below hE
 replace hW:=ktr hW hE
 clear hold hE hO hK;replace hBV:=hbn;clear hbn
 refine Zt hK25 fun a hf=>?_
 refine wp_block ?_
 refine Zs hf fun _ hK26=>?_
 refine Ze (X0u rfl rfl)<|Za rfl ?_
 refine Zt hK26 fun a hf=>?_
 refine Xi hf rfl (fun hc27=>?_) (fun hc27=>?_)
 ·have hc27b:=hc27
  refine Zr hf ?_
  refine Zm rfl<|Ze (Vd rfl X1b 0)<|Ze (X0 rfl X5 (hB4.at 0)) ?_
  refine Zf (Vc (Xns _ 1 c.n) Xgj) ?_;rintro _ _ ⟨rfl,rfl⟩
  refine Zf (X4 (k:=6) (vs:=[vi 1,vi 4,vi 5,vi 7,vi 9,vi 12]) (zs:=[vi 1,vi 4,vi 5,vi 7,vi 9,vi 12]) rfl X16 X2d rfl rfl) ?_;rintro _ w14 ⟨b28,rfl,hl28,hE,hB28⟩
  have hlo28:=Nat.le_trans hW.size hl28
  have haw1_28:=hr_code.away hl28
  replace hBV:=hBV.below hE
  replace hB4:=hB4.below hE
  replace hB7:=hB7.below hE
  replace hB19:=hB19.below hE
  replace hr_code:=hr_code.below hE
  replace hr_c:=hr_c.below hE
  replace ho14:=ho14.below hE
  replace ho23:=ho23.below hE
  replace hW:=ktr hW hE
  refine Zf (Vc (Xh2 _ bV Acd ccd code hr_code.top hcd hav tz41 sz41 hBV (max 1 c.n) 3 (some ⟨b28,0,none⟩) 6 ([1,4,5,7,9,12]) (Rd.of_blk hB28 rfl _ hB28.lt) (by omega) (by omega) (by simp) (by simp) (by omega)) X9r) ?_;rintro _ w15 ⟨cz49,Az49,ez49,tz49,sz49,rfl,hPz49,htz49,hoz49,hK,hbn⟩
  have hlv:=hW.size
  obtain ⟨wm,hO,hm,hE⟩:=hK.mid;clear hm
  have hold:=hBV
  replace hB4:=hB4.only hO (Blk.ne hB4 hold rfl)
  replace hB7:=hB7.only hO (Blk.ne hB7 hold rfl)
  replace hB19:=hB19.only hO (Blk.ne hB19 hold rfl)
  replace hB28:=hB28.only hO (Blk.ne hB28 hold rfl)
  replace hr_code:=hr_code.onlyA hO hav
  replace hr_c:=hr_c.onlyT hO hold rfl
  replace ho14:=ho14.onlyT hO hold rfl
  replace ho23:=ho23.onlyT hO hold rfl
  replace hW:=hW.self hO
  replace hB4:=hB4.below hE
  replace hB7:=hB7.below hE
  replace hB19:=hB19.below hE
  replace hB28:=hB28.below hE
  replace hr_code:=hr_code.below hE
  replace hr_c:=hr_c.below hE
  replace ho14:=ho14.below hE
  replace ho23:=ho23.below hE
  replace hW:=ktr hW hE
  clear hold hE hO hK;replace hBV:=hbn;clear hbn
  replace hoz49:=hoz49.lower hlv;clear hlv
  refine Ze (Xhz (vs:=[vi cz49.n,.slice Az49 cz49.gs.length ez49]) rfl ⟨_,_,Tryz.underlying31,rfl,rfl,X06⟩ rfl)<|Ze (Vd rfl X1m 2) ?_
  refine Zo (Vu (vs:=[.slice Az49 cz49.gs.length ez49]) (l':=[vi xz14,.slice A14 ((c.gs.take ((xz14+xz23).toNat)).drop xz14.toNat).length c14,.slice Az49 cz49.gs.length ez49]) rfl rfl X2i hB19) ?_;rintro _ w16 ⟨ho,hb⟩
  have hold:=hB19
  replace hBV:=hBV.only ho (Blk.ne hBV hold rfl)
  replace hB4:=hB4.only ho (Blk.ne hB4 hold rfl)
  replace hB7:=hB7.only ho (by omega)
  replace hB28:=hB28.only ho (Blk.ne hB28 hold rfl)
  replace hr_code:=hr_code.only ho hlo19
  replace hr_c:=hr_c.onlyT ho hold rfl
  replace ho14:=ho14.onlyT ho hold rfl
  replace ho23:=ho23.onlyT ho hold rfl
  replace hoz49:=hoz49.onlyT ho hold rfl
  replace hW:=Kept.only hW ho hlo19
  clear hold
  have hB19:=hb
  clear hb ho
  refine Zn fun a hf=>?_
  refine Xf ?_
  refine hK24 _ _ ?_
  refine Zs hf fun _ hK31=>?_
  refine Ze (Vn X1i hB19) ?_
  refine Zo (Vw [vi xz14,.slice A14 ((c.gs.take ((xz14+xz23).toNat)).drop xz14.toNat).length c14,.slice Az49 cz49.gs.length ez49] X23 hB7) ?_;rintro _ w17 ⟨ho,hb⟩
  have hold:=hB7
  replace hBV:=hBV.only ho (Blk.ne hBV hold rfl)
  replace hB19:=hB19.only ho (by omega)
  replace ho14:=ho14.onlyT ho hold rfl
  replace hoz49:=hoz49.onlyT ho hold rfl
  replace hW:=Kept.only hW ho hlo7
  clear hold
  have hB7:=hb
  clear hb ho
  refine Zt hK31 fun a hf=>?_
  refine wp_ret (X2 hf (Xo hf rfl (ResV.cellN (l:=[vi xz14,.slice A14 ((c.gs.take ((xz14+xz23).toNat)).drop xz14.toNat).length c14,.slice Az49 cz49.gs.length ez49]) rfl X1i (hB7.at 0) rfl)) ?_)
  exact ⟨⟨xz14,((c.gs.take ((xz14+xz23).toNat)).drop xz14.toNat),cz49.gs⟩,A14,c14,Az49,ez49,_,_,(by first|rfl|simp),⟨(by show (((c.gs.take ((xz14+xz23).toNat)).drop xz14.toNat)).length≤41;first|omega|(simp;omega)|simp),(by show (cz49.gs).length≤41;first|omega|(simp;omega)|simp)⟩,⟨by omega,by omega⟩,ho14.rd.top,hoz49.rd.top,hW,hBV⟩
 have hc27b:=hc27
 refine Zs hf fun _ hK32=>?_
 refine Ze (X0u rfl rfl)<|Za rfl ?_
 refine Zt hK32 fun a hf=>?_
 refine Xi hf rfl (fun hc33=>?_) (fun hc33=>?_)
 ·have hc33b:=hc33
  refine Xu (some bV) (fun j=>[6,8].contains j) mixed ?_
  intro w18 hE
  replace hBV:=hBV.below hE
  replace hB7:=hB7.below hE
  replace hB19:=hB19.below hE
  replace hr_code:=hr_code.below hE
  replace ho14:=ho14.below hE
  replace ho23:=ho23.below hE
  replace hW:=ktr hW hE
  refine Yb hf ?_
  refine Yo 0 rfl (fun _=>Vd rfl X1s 1) ?_
  refine Yw 1 rfl trivial (fun w1 h1=>X0 rfl X06 ((hB19.only h1 (Blk.ne hB19 hBV rfl)).at 1)) ?_
  refine Yo 2 rfl (fun _=>X9 rfl) ?_
  refine Y1 3 ?_
  refine Yf rfl trivial (EfW.mono (Vc (X24 _ bV Acd ccd code hr_code.top hcd hav tz41 sz41 hBV 13 (by omega)) X1f) (fun _ _ h=>⟨fun _=>by obtain ⟨xz57,tz57,sz57,rfl,hPz57,htz57,hK,hbn⟩:=h;exact hK.keep,h⟩)) ?_;rintro _ w19 ⟨xz57,tz57,sz57,rfl,hPz57,htz57,hK,hbn⟩
  obtain ⟨wm,hO,hm,hE⟩:=hK.mid;clear hm
  have hold:=hBV
  replace hB7:=hB7.only hO (Blk.ne hB7 hold rfl)
  replace hB19:=hB19.only hO (Blk.ne hB19 hold rfl)
  replace hr_code:=hr_code.onlyA hO hav
  replace ho14:=ho14.onlyT hO hold rfl
  replace ho23:=ho23.onlyT hO hold rfl
  replace hW:=hW.self hO
  replace hB7:=hB7.below hE
  replace hB19:=hB19.below hE
  replace hr_code:=hr_code.below hE
  replace ho14:=ho14.below hE
  replace ho23:=ho23.below hE
  replace hW:=ktr hW hE
  clear hold hE hO hK;replace hBV:=hbn;clear hbn
  refine Yo 4 rfl (fun _=>Xh (ps:=[(0,vi xz57)]) (cs:=[vi xz57,vi 0,vi 0]) rfl (fun _=>by first|rfl|kernel_rfl)) ?_
  refine Y1 5 ?_
  refine Yf rfl trivial (EfW.mono (X4 (k:=1) (vs:=[.agg #[vi xz57,vi 0,vi 0]]) (zs:=[vi xz57,vi 0,vi 0]) rfl Xd Xe rfl rfl) (fun _ _ h=>⟨fun _=>by obtain ⟨_,_,_,hE,_⟩:=h;exact Keep.of_below hE,h⟩)) ?_;rintro _ w20 ⟨b34,rfl,hl34,hE,hB34⟩
  have hlo34:=Nat.le_trans hW.size hl34
  have haw1_34:=hr_code.away hl34
  have haw14_34:=ho14.away hl34
  have haw23_34:=ho23.away hl34
  replace hBV:=hBV.below hE
  replace hB7:=hB7.below hE
  replace hB19:=hB19.below hE
  replace hr_code:=hr_code.below hE
  replace ho14:=ho14.below hE
  replace ho23:=ho23.below hE
  replace hW:=ktr hW hE
  refine Y1 6 ?_
  refine Yt rfl trivial rfl (X0f (enc:=encG) (l:=(((c.gs.take ((xz14+xz23).toNat)).drop xz14.toNat))) (l2:=([(⟨xz57,0,0⟩ : Gt)])) (B0:=w0.heap.size) rfl rfl Xd Xe Xb Xp ho14 (Rd.of_blk hB34 rfl _ hB34.lt) (by simp only [maxLen];simp;omega) (by simp;omega) hW.size) ?_;rintro _ w21 ⟨A36,c36,rfl,ho36,hg,hat⟩
  have hown:Own _ w0.heap.size 24 3 encG _ _ (((c.gs.take ((xz14+xz23).toNat)).drop xz14.toNat)):=ho14
  have haw36_34:=hat _ hB34.lt haw14_34
  have hap23_36:=Apart.app ho23 hap14_23.symm hat
  clear hat
  replace hBV:=hBV.appT hown hg rfl
  replace hB7:=hB7.appT hown hg rfl
  replace hB19:=hB19.appT hown hg rfl
  replace hr_code:=hr_code.appB hown hg (Nat.le_refl _)
  replace ho23:=ho23.appP hg hap14_23.symm
  replace hW:=Kept.app hW hown hg (Nat.le_refl _) hW.size
  clear hown hg
  refine Yo 7 rfl (fun _=>Vd rfl X1s 1) ?_
  refine Y1 8 ?_
  refine Yh rfl trivial rfl (Vu (vs:=[.slice A36 (((c.gs.take ((xz14+xz23).toNat)).drop xz14.toNat)++([(⟨xz57,0,0⟩ : Gt)])).length c36]) (l':=[vi xz14,.slice A36 (((c.gs.take ((xz14+xz23).toNat)).drop xz14.toNat)++([(⟨xz57,0,0⟩ : Gt)])).length c36,.slice A23 ((c.gs.take ((xz14+xz23).toNat)).drop xz14.toNat).length c23]) rfl rfl X2i hB19) ?_;rintro _ w22 ⟨ho,hb⟩
  have hold:=hB19
  replace hBV:=hBV.only ho (Blk.ne hBV hold rfl)
  replace hB7:=hB7.only ho (by omega)
  replace hr_code:=hr_code.only ho hlo19
  replace ho23:=ho23.onlyT ho hold rfl
  replace ho36:=ho36.onlyT ho hold rfl
  replace hW:=Kept.only hW ho hlo19
  clear hold
  have hB19:=hb
  clear hb ho
  refine Yd fun a hf=>?_
  refine Xf ?_
  refine hK24 _ _ ?_
  refine Zs hf fun _ hK37=>?_
  refine Ze (Vn X1i hB19) ?_
  refine Zo (Vw [vi xz14,.slice A36 (((c.gs.take ((xz14+xz23).toNat)).drop xz14.toNat)++([(⟨xz57,0,0⟩ : Gt)])).length c36,.slice A23 ((c.gs.take ((xz14+xz23).toNat)).drop xz14.toNat).length c23] X23 hB7) ?_;rintro _ w23 ⟨ho,hb⟩
  have hold:=hB7
  replace hBV:=hBV.only ho (Blk.ne hBV hold rfl)
  replace hB19:=hB19.only ho (by omega)
  replace ho23:=ho23.onlyT ho hold rfl
  replace ho36:=ho36.onlyT ho hold rfl
  replace hW:=Kept.only hW ho hlo7
  clear hold
  have hB7:=hb
  clear hb ho
  refine Zt hK37 fun a hf=>?_
  refine wp_ret (X2 hf (Xo hf rfl (ResV.cellN (l:=[vi xz14,.slice A36 (((c.gs.take ((xz14+xz23).toNat)).drop xz14.toNat)++([(⟨xz57,0,0⟩ : Gt)])).length c36,.slice A23 ((c.gs.take ((xz14+xz23).toNat)).drop xz14.toNat).length c23]) rfl X1i (hB7.at 0) rfl)) ?_)
  exact ⟨⟨xz14,((c.gs.take ((xz14+xz23).toNat)).drop xz14.toNat)++([(⟨xz57,0,0⟩ : Gt)]),((c.gs.take ((xz14+xz23).toNat)).drop xz14.toNat)⟩,A36,c36,A23,c23,_,_,(by first|rfl|simp),⟨(by show (((c.gs.take ((xz14+xz23).toNat)).drop xz14.toNat)++([(⟨xz57,0,0⟩ : Gt)])).length≤41;first|omega|(simp;omega)|simp),(by show (((c.gs.take ((xz14+xz23).toNat)).drop xz14.toNat)).length≤41;first|omega|(simp;omega)|simp)⟩,⟨by omega,by omega⟩,ho36.rd.top,ho23.rd.top,hW,hBV⟩
 have hc33b:=hc33
 refine Zs hf fun _ hK38=>?_
 refine Ze (X0u rfl rfl)<|Za rfl ?_
 refine Zt hK38 fun a hf=>?_
 refine Xi hf rfl (fun hc39=>?_) (fun hc39=>?_)
 ·have hc39b:=hc39
  refine Zr hf ?_
  refine Zm rfl ?_
  refine Zf (X4 (k:=3) (vs:=[vi (-1),vi 0,vi 401]) (zs:=[vi (-1),vi 0,vi 401]) rfl X16 X2d rfl rfl) ?_;rintro _ w24 ⟨b40,rfl,hl40,hE,hB40⟩
  have hlo40:=Nat.le_trans hW.size hl40
  have haw1_40:=hr_code.away hl40
  replace hBV:=hBV.below hE
  replace hB7:=hB7.below hE
  replace hB19:=hB19.below hE
  replace hr_code:=hr_code.below hE
  replace ho14:=ho14.below hE
  replace ho23:=ho23.below hE
  replace hW:=ktr hW hE
  refine Zf (Vc (Xfo _ bV Acd ccd code hr_code.top hcd hav tz41 sz41 hBV (some ⟨b40,0,none⟩) 3 ([-1,0,401]) (Rd.of_blk hB40 rfl _ hB40.lt) (by simp) (by simp) (by omega)) X9p) ?_;rintro _ w25 ⟨xz66,tz66,sz66,rfl,hPz66,htz66,hK,hbn⟩
  obtain ⟨wm,hO,hm,hE⟩:=hK.mid;clear hm
  have hold:=hBV
  replace hB7:=hB7.only hO (Blk.ne hB7 hold rfl)
  replace hB19:=hB19.only hO (Blk.ne hB19 hold rfl)
  replace hB40:=hB40.only hO (Blk.ne hB40 hold rfl)
  replace hr_code:=hr_code.onlyA hO hav
  replace ho14:=ho14.onlyT hO hold rfl
  replace ho23:=ho23.onlyT hO hold rfl
  replace hW:=hW.self hO
  replace hB7:=hB7.below hE
  replace hB19:=hB19.below hE
  replace hB40:=hB40.below hE
  replace hr_code:=hr_code.below hE
  replace ho14:=ho14.below hE
  replace ho23:=ho23.below hE
  replace hW:=ktr hW hE
  clear hold hE hO hK;replace hBV:=hbn;clear hbn
  refine Ze (Vd rfl X27 0) ?_
  refine Zo (Vu (vs:=[vi xz66]) (l':=[vi xz66,.slice A14 ((c.gs.take ((xz14+xz23).toNat)).drop xz14.toNat).length c14,.slice A23 ((c.gs.take ((xz14+xz23).toNat)).drop xz14.toNat).length c23]) rfl rfl X2c hB19) ?_;rintro _ w26 ⟨ho,hb⟩
  have hold:=hB19
  replace hBV:=hBV.only ho (Blk.ne hBV hold rfl)
  replace hB7:=hB7.only ho (by omega)
  replace hB40:=hB40.only ho (Blk.ne hB40 hold rfl)
  replace hr_code:=hr_code.only ho hlo19
  replace ho14:=ho14.onlyT ho hold rfl
  replace ho23:=ho23.onlyT ho hold rfl
  replace hW:=Kept.only hW ho hlo19
  clear hold
  have hB19:=hb
  clear hb ho
  refine Zn fun a hf=>?_
  refine Xf ?_
  refine hK24 _ _ ?_
  refine Zs hf fun _ hK42=>?_
  refine Ze (Vn X1i hB19) ?_
  refine Zo (Vw [vi xz66,.slice A14 ((c.gs.take ((xz14+xz23).toNat)).drop xz14.toNat).length c14,.slice A23 ((c.gs.take ((xz14+xz23).toNat)).drop xz14.toNat).length c23] X23 hB7) ?_;rintro _ w27 ⟨ho,hb⟩
  have hold:=hB7
  replace hBV:=hBV.only ho (Blk.ne hBV hold rfl)
  replace hB19:=hB19.only ho (by omega)
  replace ho14:=ho14.onlyT ho hold rfl
  replace ho23:=ho23.onlyT ho hold rfl
  replace hW:=Kept.only hW ho hlo7
  clear hold
  have hB7:=hb
  clear hb ho
  refine Zt hK42 fun a hf=>?_
  refine wp_ret (X2 hf (Xo hf rfl (ResV.cellN (l:=[vi xz66,.slice A14 ((c.gs.take ((xz14+xz23).toNat)).drop xz14.toNat).length c14,.slice A23 ((c.gs.take ((xz14+xz23).toNat)).drop xz14.toNat).length c23]) rfl X1i (hB7.at 0) rfl)) ?_)
  exact ⟨⟨xz66,((c.gs.take ((xz14+xz23).toNat)).drop xz14.toNat),((c.gs.take ((xz14+xz23).toNat)).drop xz14.toNat)⟩,A14,c14,A23,c23,_,_,(by first|rfl|simp),⟨(by show (((c.gs.take ((xz14+xz23).toNat)).drop xz14.toNat)).length≤41;first|omega|(simp;omega)|simp),(by show (((c.gs.take ((xz14+xz23).toNat)).drop xz14.toNat)).length≤41;first|omega|(simp;omega)|simp)⟩,⟨by omega,by omega⟩,ho14.rd.top,ho23.rd.top,hW,hBV⟩
 have hc39b:=hc39
 refine Zs hf fun _ hK43=>?_
 refine Ze (X0u rfl rfl)<|Za rfl ?_
 refine Zt hK43 fun a hf=>?_
 refine Xi hf rfl (fun hc44=>?_) (fun hc44=>?_)
 ·have hc44b:=hc44
  refine Zr hf ?_
  refine Ze (Vd rfl X1m 2)<|Ze (X0 rfl X06 (hB19.at 2))<|Ze (Xh (ps:=[(0,vi 12)]) (cs:=[vi 12,vi 0,vi 0]) rfl (fun _=>by first|rfl|kernel_rfl)) ?_
  refine Zf (X4 (k:=1) (vs:=[.agg #[vi 12,vi 0,vi 0]]) (zs:=[vi 12,vi 0,vi 0]) rfl Xd Xe rfl rfl) ?_;rintro _ w28 ⟨b45,rfl,hl45,hE,hB45⟩
  have hlo45:=Nat.le_trans hW.size hl45
  have haw14_45:=ho14.away hl45
  have haw23_45:=ho23.away hl45
  replace hBV:=hBV.below hE
  replace hB7:=hB7.below hE
  replace hB19:=hB19.below hE
  replace ho14:=ho14.below hE
  replace ho23:=ho23.below hE
  replace hW:=ktr hW hE
  refine Zf (X0f (enc:=encG) (l:=(((c.gs.take ((xz14+xz23).toNat)).drop xz14.toNat))) (l2:=([(⟨12,0,0⟩ : Gt)])) (B0:=w0.heap.size) rfl rfl Xd Xe Xb Xp ho23 (Rd.of_blk hB45 rfl _ hB45.lt) (by simp only [maxLen];simp;omega) (by simp;omega) hW.size) ?_;rintro _ w29 ⟨A47,c47,rfl,ho47,hg,hat⟩
  have hown:Own _ w0.heap.size 24 3 encG _ _ (((c.gs.take ((xz14+xz23).toNat)).drop xz14.toNat)):=ho23
  have haw47_45:=hat _ hB45.lt haw23_45
  have hap14_47:=Apart.app ho14 hap14_23 hat
  clear hat
  replace hBV:=hBV.appT hown hg rfl
  replace hB7:=hB7.appT hown hg rfl
  replace hB19:=hB19.appT hown hg rfl
  replace ho14:=ho14.appP hg hap14_23
  replace hW:=Kept.app hW hown hg (Nat.le_refl _) hW.size
  clear hown hg
  refine Ze (Vd rfl X1m 2) ?_
  refine Zo (Vu (vs:=[.slice A47 (((c.gs.take ((xz14+xz23).toNat)).drop xz14.toNat)++([(⟨12,0,0⟩ : Gt)])).length c47]) (l':=[vi xz14,.slice A14 ((c.gs.take ((xz14+xz23).toNat)).drop xz14.toNat).length c14,.slice A47 (((c.gs.take ((xz14+xz23).toNat)).drop xz14.toNat)++([(⟨12,0,0⟩ : Gt)])).length c47]) rfl rfl X2i hB19) ?_;rintro _ w30 ⟨ho,hb⟩
  have hold:=hB19
  replace hBV:=hBV.only ho (Blk.ne hBV hold rfl)
  replace hB7:=hB7.only ho (by omega)
  replace ho14:=ho14.onlyT ho hold rfl
  replace ho47:=ho47.onlyT ho hold rfl
  replace hW:=Kept.only hW ho hlo19
  clear hold
  have hB19:=hb
  clear hb ho
  refine Zn fun a hf=>?_
  refine Xf ?_
  refine hK24 _ _ ?_
  refine Zs hf fun _ hK48=>?_
  refine Ze (Vn X1i hB19) ?_
  refine Zo (Vw [vi xz14,.slice A14 ((c.gs.take ((xz14+xz23).toNat)).drop xz14.toNat).length c14,.slice A47 (((c.gs.take ((xz14+xz23).toNat)).drop xz14.toNat)++([(⟨12,0,0⟩ : Gt)])).length c47] X23 hB7) ?_;rintro _ w31 ⟨ho,hb⟩
  have hold:=hB7
  replace hBV:=hBV.only ho (Blk.ne hBV hold rfl)
  replace hB19:=hB19.only ho (by omega)
  replace ho14:=ho14.onlyT ho hold rfl
  replace ho47:=ho47.onlyT ho hold rfl
  replace hW:=Kept.only hW ho hlo7
  clear hold
  have hB7:=hb
  clear hb ho
  refine Zt hK48 fun a hf=>?_
  refine wp_ret (X2 hf (Xo hf rfl (ResV.cellN (l:=[vi xz14,.slice A14 ((c.gs.take ((xz14+xz23).toNat)).drop xz14.toNat).length c14,.slice A47 (((c.gs.take ((xz14+xz23).toNat)).drop xz14.toNat)++([(⟨12,0,0⟩ : Gt)])).length c47]) rfl X1i (hB7.at 0) rfl)) ?_)
  exact ⟨⟨xz14,((c.gs.take ((xz14+xz23).toNat)).drop xz14.toNat),((c.gs.take ((xz14+xz23).toNat)).drop xz14.toNat)++([(⟨12,0,0⟩ : Gt)])⟩,A14,c14,A47,c47,_,_,(by first|rfl|simp),⟨(by show (((c.gs.take ((xz14+xz23).toNat)).drop xz14.toNat)).length≤41;first|omega|(simp;omega)|simp),(by show (((c.gs.take ((xz14+xz23).toNat)).drop xz14.toNat)++([(⟨12,0,0⟩ : Gt)])).length≤41;first|omega|(simp;omega)|simp)⟩,⟨by omega,by omega⟩,ho14.rd.top,ho47.rd.top,hW,hBV⟩
 have hc44b:=hc44
 refine Zs hf fun _ hK49=>?_
 refine Ze (X0u rfl rfl)<|Za rfl ?_
 refine Zt hK49 fun a hf=>?_
 refine Xi hf rfl (fun hc50=>?_) (fun hc50=>?_)
 ·have hc50b:=hc50
  refine Zs hf fun _ hK51=>?_
  refine Ze (Vd rfl X1m 2)<|Ze (X0 rfl X06 (hB19.at 2))<|Ze (X0v rfl Xd)<|Ze (X3d rfl rfl) ?_
  refine Zt hK51 fun a hf=>?_
  refine Xi hf rfl (fun hc52=>?_) (fun hc52=>?_)
  ·have hc52b:=hc52
   have hc52:=of_decide_eq_true hc52
   refine Zs hf fun _ hK53=>?_
   refine Ze (Vd rfl X1m 2)<|Ze (X0 rfl X06 (hB19.at 2)) ?_
   refine Zi (k:=0) (u:=(((c.gs.take ((xz14+xz23).toNat)).drop xz14.toNat).getD 0 (⟨0,0,0⟩ : Gt))) (enc:=encG) (l:=((c.gs.take ((xz14+xz23).toNat)).drop xz14.toNat)) trivial rfl rfl Xd X0a Xb ho23.rd (X5z _ (by omega)) rfl ?_;intro p55 hat54
   refine Ze (Xj (l:=[vi ((((c.gs.take ((xz14+xz23).toNat)).drop xz14.toNat).getD 0 (⟨0,0,0⟩ : Gt)).k),vi ((((c.gs.take ((xz14+xz23).toNat)).drop xz14.toNat).getD 0 (⟨0,0,0⟩ : Gt)).a),vi ((((c.gs.take ((xz14+xz23).toNat)).drop xz14.toNat).getD 0 (⟨0,0,0⟩ : Gt)).b)]) rfl X08 hat54 rfl) ?_
   refine Zf (Xa (zs:=[vi 0,vi 0,vi 0]) X2l rfl) ?_;rintro _ w32 ⟨b56,rfl,hl56,hE,hB56⟩
   have hlo56:=Nat.le_trans hW.size hl56
   have haw14_56:=ho14.away hl56
   have haw23_56:=ho23.away hl56
   replace hBV:=hBV.below hE
   replace hB7:=hB7.below hE
   replace hB19:=hB19.below hE
   replace ho14:=ho14.below hE
   replace ho23:=ho23.below hE
   replace hW:=ktr hW hE
   refine Zo (Vw [vi ((((c.gs.take ((xz14+xz23).toNat)).drop xz14.toNat).getD 0 (⟨0,0,0⟩ : Gt)).k),vi ((((c.gs.take ((xz14+xz23).toNat)).drop xz14.toNat).getD 0 (⟨0,0,0⟩ : Gt)).a),vi ((((c.gs.take ((xz14+xz23).toNat)).drop xz14.toNat).getD 0 (⟨0,0,0⟩ : Gt)).b)] X0a hB56) ?_;rintro _ w33 ⟨ho,hb⟩
   have hold:=hB56
   replace hBV:=hBV.only ho (Blk.ne hBV hold rfl)
   replace hB7:=hB7.only ho (Blk.ne hB7 hold rfl)
   replace hB19:=hB19.only ho (Blk.ne hB19 hold rfl)
   replace ho14:=ho14.onlyA ho haw14_56
   replace ho23:=ho23.onlyA ho haw23_56
   replace hW:=Kept.only hW ho hlo56
   clear hold
   have hB56:=hb
   clear hb ho
   refine Zt hK53 fun a hf=>?_
   refine wp_seq_k fun _ hK57=>?_
   refine Xu none (fun j=>[7].contains j) mixed ?_
   intro w34 hE
   replace hBV:=hBV.below hE
   replace hB7:=hB7.below hE
   replace hB19:=hB19.below hE
   replace hB56:=hB56.below hE
   replace ho14:=ho14.below hE
   replace ho23:=ho23.below hE
   replace hW:=ktr hW hE
   refine Yb hf ?_
   refine Yo 0 rfl (fun _=>Vd rfl X1m 2)<|Ye 1 rfl (X0 rfl X06 (hB19.at 2))<|Yo 2 rfl (fun _=>Vd rfl X1m 2)<|Ye 3 rfl (X0 rfl X06 (hB19.at 2)) ?_
   refine Yi (k:=1) (u:=(((c.gs.take ((xz14+xz23).toNat)).drop xz14.toNat).getD 1 (⟨0,0,0⟩ : Gt))) (enc:=encG) (l:=((c.gs.take ((xz14+xz23).toNat)).drop xz14.toNat)) 4 rfl trivial rfl rfl Xd X0a Xb ho23.rd (X5z _ (by omega)) rfl ?_;intro p59 hat58
   refine Ye 5 rfl (Xj (l:=[vi ((((c.gs.take ((xz14+xz23).toNat)).drop xz14.toNat).getD 1 (⟨0,0,0⟩ : Gt)).k),vi ((((c.gs.take ((xz14+xz23).toNat)).drop xz14.toNat).getD 1 (⟨0,0,0⟩ : Gt)).a),vi ((((c.gs.take ((xz14+xz23).toNat)).drop xz14.toNat).getD 1 (⟨0,0,0⟩ : Gt)).b)]) rfl X08 hat58 rfl)<|Yo 6 rfl (fun _=>X6o (k:=0) rfl rfl Xd X0a ho23 rfl rfl (by omega)) ?_
   refine Y1 7 ?_
   refine Yh rfl trivial rfl (X6k (enc:=encG) (l:=((c.gs.take ((xz14+xz23).toNat)).drop xz14.toNat)) (vs:=[vi ((((c.gs.take ((xz14+xz23).toNat)).drop xz14.toNat).getD 1 (⟨0,0,0⟩ : Gt)).k),vi ((((c.gs.take ((xz14+xz23).toNat)).drop xz14.toNat).getD 1 (⟨0,0,0⟩ : Gt)).a),vi ((((c.gs.take ((xz14+xz23).toNat)).drop xz14.toNat).getD 1 (⟨0,0,0⟩ : Gt)).b)]) (x0:=(((c.gs.take (xz14+xz23).toNat).drop xz14.toNat).getD 0 (⟨0,0,0⟩ : Gt))) (u:=(((c.gs.take ((xz14+xz23).toNat)).drop xz14.toNat).getD 1 (⟨0,0,0⟩ : Gt))) (k:=0) (j:=0) (n1:=3) rfl rfl X0a ho23 Xb rfl rfl rfl rfl (by decide) (X5z _ (by omega)) rfl) ?_;rintro _ w35 ⟨hnew,hg⟩
   have hown:=ho23
   replace hBV:=hBV.appT hown hg rfl
   replace hB7:=hB7.appT hown hg rfl
   replace hB19:=hB19.appT hown hg rfl
   replace hB56:=hB56.appA hg haw23_56
   replace ho14:=ho14.appP hg hap14_23
   replace hW:=Kept.app hW hown hg (Nat.le_refl _) hW.size
   clear hown hg;clear ho23;have ho23:=hnew;clear hnew
   refine Yd fun a hf=>?_
   refine hK57 _ _ ?_
   refine Zr hf ?_
   refine Ze (Vd rfl X1m 2)<|Ze (X0 rfl X06 (hB19.at 2))<|Ze (Vn X08 hB56)<|Ze (X6o (k:=1) rfl rfl Xd X0a ho23 (by simp) rfl (by rw [List.length_set];omega)) ?_
   refine Zo (X6k (enc:=encG) (l:=(((c.gs.take ((xz14+xz23).toNat)).drop xz14.toNat).set 0 (((c.gs.take ((xz14+xz23).toNat)).drop xz14.toNat).getD 1 (⟨0,0,0⟩ : Gt)))) (vs:=[vi ((((c.gs.take ((xz14+xz23).toNat)).drop xz14.toNat).getD 0 (⟨0,0,0⟩ : Gt)).k),vi ((((c.gs.take ((xz14+xz23).toNat)).drop xz14.toNat).getD 0 (⟨0,0,0⟩ : Gt)).a),vi ((((c.gs.take ((xz14+xz23).toNat)).drop xz14.toNat).getD 0 (⟨0,0,0⟩ : Gt)).b)]) (x0:=((((c.gs.take (xz14+xz23).toNat).drop xz14.toNat).set 0 (((c.gs.take (xz14+xz23).toNat).drop xz14.toNat).getD 1 (⟨0,0,0⟩ : Gt))).getD 1 (⟨0,0,0⟩ : Gt))) (u:=(((c.gs.take ((xz14+xz23).toNat)).drop xz14.toNat).getD 0 (⟨0,0,0⟩ : Gt))) (k:=1) (j:=0) (n1:=3) rfl rfl X0a ho23 Xb rfl rfl rfl rfl (by decide) (X5z _ (by rw [List.length_set];omega)) rfl) ?_;rintro _ w36 ⟨hnew,hg⟩
   have hown:=ho23
   replace hBV:=hBV.appT hown hg rfl
   replace hB7:=hB7.appT hown hg rfl
   replace hB19:=hB19.appT hown hg rfl
   replace hB56:=hB56.appA hg haw23_56
   replace ho14:=ho14.appP hg hap14_23
   replace hW:=Kept.app hW hown hg (Nat.le_refl _) hW.size
   clear hown hg;clear ho23;have ho23:=hnew;clear hnew
   refine Zn fun a hf=>?_
   refine Xf ?_
   refine hK24 _ _ ?_
   refine Zs hf fun _ hK60=>?_
   refine Ze (Vn X1i hB19) ?_
   refine Zo (Vw [vi xz14,.slice A14 ((c.gs.take ((xz14+xz23).toNat)).drop xz14.toNat).length c14,.slice A23 ((c.gs.take ((xz14+xz23).toNat)).drop xz14.toNat).length c23] X23 hB7) ?_;rintro _ w37 ⟨ho,hb⟩
   have hold:=hB7
   replace hBV:=hBV.only ho (Blk.ne hBV hold rfl)
   replace hB19:=hB19.only ho (by omega)
   replace ho14:=ho14.onlyT ho hold rfl
   replace ho23:=ho23.onlyT ho hold rfl
   replace hW:=Kept.only hW ho hlo7
   clear hold
   have hB7:=hb
   clear hb ho
   refine Zt hK60 fun a hf=>?_
   refine wp_ret (X2 hf (Xo hf rfl (ResV.cellN (l:=[vi xz14,.slice A14 ((c.gs.take ((xz14+xz23).toNat)).drop xz14.toNat).length c14,.slice A23 ((c.gs.take ((xz14+xz23).toNat)).drop xz14.toNat).length c23]) rfl X1i (hB7.at 0) rfl)) ?_)
   exact ⟨⟨xz14,((c.gs.take ((xz14+xz23).toNat)).drop xz14.toNat),((((c.gs.take ((xz14+xz23).toNat)).drop xz14.toNat).set 0 (((c.gs.take ((xz14+xz23).toNat)).drop xz14.toNat).getD 1 (⟨0,0,0⟩ : Gt))).set 1 (((c.gs.take ((xz14+xz23).toNat)).drop xz14.toNat).getD 0 (⟨0,0,0⟩ : Gt)))⟩,A14,c14,A23,c23,_,_,(by first|rfl|simp),⟨(by show (((c.gs.take ((xz14+xz23).toNat)).drop xz14.toNat)).length≤41;first|omega|(simp;omega)|simp),(by show (((((c.gs.take ((xz14+xz23).toNat)).drop xz14.toNat).set 0 (((c.gs.take ((xz14+xz23).toNat)).drop xz14.toNat).getD 1 (⟨0,0,0⟩ : Gt))).set 1 (((c.gs.take ((xz14+xz23).toNat)).drop xz14.toNat).getD 0 (⟨0,0,0⟩ : Gt)))).length≤41;first|omega|(simp;omega)|simp)⟩,⟨by omega,by omega⟩,ho14.rd.top,ho23.rd.top,hW,hBV⟩
  have hc52b:=hc52
  have hc52:=of_decide_eq_false hc52
  refine wp_skip ?_
  refine Xf ?_
  refine hK24 _ _ ?_
  refine Zs hf fun _ hK61=>?_
  refine Ze (Vn X1i hB19) ?_
  refine Zo (Vw [vi xz14,.slice A14 ((c.gs.take ((xz14+xz23).toNat)).drop xz14.toNat).length c14,.slice A23 ((c.gs.take ((xz14+xz23).toNat)).drop xz14.toNat).length c23] X23 hB7) ?_;rintro _ w38 ⟨ho,hb⟩
  have hold:=hB7
  replace hBV:=hBV.only ho (Blk.ne hBV hold rfl)
  replace hB19:=hB19.only ho (by omega)
  replace ho14:=ho14.onlyT ho hold rfl
  replace ho23:=ho23.onlyT ho hold rfl
  replace hW:=Kept.only hW ho hlo7
  clear hold
  have hB7:=hb
  clear hb ho
  refine Zt hK61 fun a hf=>?_
  refine wp_ret (X2 hf (Xo hf rfl (ResV.cellN (l:=[vi xz14,.slice A14 ((c.gs.take ((xz14+xz23).toNat)).drop xz14.toNat).length c14,.slice A23 ((c.gs.take ((xz14+xz23).toNat)).drop xz14.toNat).length c23]) rfl X1i (hB7.at 0) rfl)) ?_)
  exact ⟨⟨xz14,((c.gs.take ((xz14+xz23).toNat)).drop xz14.toNat),((c.gs.take ((xz14+xz23).toNat)).drop xz14.toNat)⟩,A14,c14,A23,c23,_,_,(by first|rfl|simp),⟨(by show (((c.gs.take ((xz14+xz23).toNat)).drop xz14.toNat)).length≤41;first|omega|(simp;omega)|simp),(by show (((c.gs.take ((xz14+xz23).toNat)).drop xz14.toNat)).length≤41;first|omega|(simp;omega)|simp)⟩,⟨by omega,by omega⟩,ho14.rd.top,ho23.rd.top,hW,hBV⟩
 have hc50b:=hc50
 refine Zs hf fun _ hK62=>?_
 refine Ze (X0u rfl rfl)<|Za rfl ?_
 refine Zt hK62 fun a hf=>?_
 refine Xi hf rfl (fun hc63=>?_) (fun hc63=>?_)
 ·have hc63b:=hc63
  refine Zr hf ?_
  refine Zf (X43 (m:=41) (enc:=encG) (z0:=(⟨0,0,0⟩ : Gt)) rfl rfl Xd Xe X2l rfl Xb (by decide) (by decide)) ?_;rintro _ w39 ⟨b64,rfl,hl64,hE,hB64⟩
  have hlo64:=Nat.le_trans hW.size hl64
  have haw14_64:=ho14.away hl64
  have haw23_64:=ho23.away hl64
  replace hBV:=hBV.below hE
  replace hB7:=hB7.below hE
  replace hB19:=hB19.below hE
  replace ho14:=ho14.below hE
  replace ho23:=ho23.below hE
  replace hW:=ktr hW hE
  refine Ze (Vd rfl X1s 1) ?_
  refine Zo (Vu (vs:=[.slice (some ⟨b64,0,none⟩) 41 41]) (l':=[vi xz14,.slice (some ⟨b64,0,none⟩) 41 41,.slice A23 ((c.gs.take ((xz14+xz23).toNat)).drop xz14.toNat).length c23]) rfl rfl X2i hB19) ?_;rintro _ w40 ⟨ho,hb⟩
  have hold:=hB19
  replace hBV:=hBV.only ho (Blk.ne hBV hold rfl)
  replace hB7:=hB7.only ho (by omega)
  replace hB64:=hB64.only ho (Blk.ne hB64 hold rfl)
  replace ho14:=ho14.onlyT ho hold rfl
  replace ho23:=ho23.onlyT ho hold rfl
  replace hW:=Kept.only hW ho hlo19
  clear hold
  have hB19:=hb
  clear hb ho
  refine Zn fun a hf=>?_
  refine Xf ?_
  refine hK24 _ _ ?_
  refine Zs hf fun _ hK66=>?_
  refine Ze (Vn X1i hB19) ?_
  refine Zo (Vw [vi xz14,.slice (some ⟨b64,0,none⟩) 41 41,.slice A23 ((c.gs.take ((xz14+xz23).toNat)).drop xz14.toNat).length c23] X23 hB7) ?_;rintro _ w41 ⟨ho,hb⟩
  have hold:=hB7
  replace hBV:=hBV.only ho (Blk.ne hBV hold rfl)
  replace hB19:=hB19.only ho (by omega)
  replace hB64:=hB64.only ho (Blk.ne hB64 hold rfl)
  replace ho23:=ho23.onlyT ho hold rfl
  replace hW:=Kept.only hW ho hlo7
  clear hold
  have hB7:=hb
  clear hb ho
  refine Zt hK66 fun a hf=>?_
  refine wp_ret (X2 hf (Xo hf rfl (ResV.cellN (l:=[vi xz14,.slice (some ⟨b64,0,none⟩) 41 41,.slice A23 ((c.gs.take ((xz14+xz23).toNat)).drop xz14.toNat).length c23]) rfl X1i (hB7.at 0) rfl)) ?_)
  exact ⟨⟨xz14,(List.replicate 41 (⟨0,0,0⟩ : Gt)),((c.gs.take ((xz14+xz23).toNat)).drop xz14.toNat)⟩,some ⟨b64,0,none⟩,41,A23,c23,_,_,(by first|rfl|simp),⟨(by show ((List.replicate 41 (⟨0,0,0⟩ : Gt))).length≤41;first|omega|(simp;omega)|simp),(by show (((c.gs.take ((xz14+xz23).toNat)).drop xz14.toNat)).length≤41;first|omega|(simp;omega)|simp)⟩,⟨by omega,by omega⟩,(Rd.of_blk hB64 rfl _ hB64.lt),ho23.rd.top,hW,hBV⟩
 have hc63b:=hc63
 refine wp_skip ?_
 refine Xf ?_
 refine hK24 _ _ ?_
 refine Zs hf fun _ hK67=>?_
 refine Ze (Vn X1i hB19) ?_
 refine Zo (Vw [vi xz14,.slice A14 ((c.gs.take ((xz14+xz23).toNat)).drop xz14.toNat).length c14,.slice A23 ((c.gs.take ((xz14+xz23).toNat)).drop xz14.toNat).length c23] X23 hB7) ?_;rintro _ w42 ⟨ho,hb⟩
 have hold:=hB7
 replace hBV:=hBV.only ho (Blk.ne hBV hold rfl)
 replace hB19:=hB19.only ho (by omega)
 replace ho14:=ho14.onlyT ho hold rfl
 replace ho23:=ho23.onlyT ho hold rfl
 replace hW:=Kept.only hW ho hlo7
 clear hold
 have hB7:=hb
 clear hb ho
 refine Zt hK67 fun a hf=>?_
 refine wp_ret (X2 hf (Xo hf rfl (ResV.cellN (l:=[vi xz14,.slice A14 ((c.gs.take ((xz14+xz23).toNat)).drop xz14.toNat).length c14,.slice A23 ((c.gs.take ((xz14+xz23).toNat)).drop xz14.toNat).length c23]) rfl X1i (hB7.at 0) rfl)) ?_)
 exact ⟨⟨xz14,((c.gs.take ((xz14+xz23).toNat)).drop xz14.toNat),((c.gs.take ((xz14+xz23).toNat)).drop xz14.toNat)⟩,A14,c14,A23,c23,_,_,(by first|rfl|simp),⟨(by show (((c.gs.take ((xz14+xz23).toNat)).drop xz14.toNat)).length≤41;first|omega|(simp;omega)|simp),(by show (((c.gs.take ((xz14+xz23).toNat)).drop xz14.toNat)).length≤41;first|omega|(simp;omega)|simp)⟩,⟨by omega,by omega⟩,ho14.rd.top,ho23.rd.top,hW,hBV⟩
end Go.Proofs.YtlfjcmldfbfdbaaGreat
namespace Go.Proofs.YtlfjcmldfbfdbaaGreat
open Go.RowKit
theorem X60{n:Int} : ∀ (k:Nat) (gs:List Gt),cOk ⟨n,gs⟩=true→(canRun n k gs).1.length+(canRun n k gs).2.gs.length≤gs.length∧(∀ r ∈ (canRun n k gs).1,r.old.length≤41∧r.new.length≤41)∧(canRun n k gs).2.n=n
 | 0,gs,_=>⟨by simp [canRun],fun r hr=>by simp [canRun] at hr,rfl⟩
 | k+1,gs,h=>by
  cases hs:canS gs with
  | none=>rw [X6t hs];exact ⟨by simp,fun r hr=>by simp at hr,rfl⟩
  | some r=>
   obtain ⟨d,hd,e1,e2,e3,e4,e5⟩:=Xcl h hs
   rw [X6u hs,hd,Option.getD_some]
   have hok:cOk ⟨n,d.gs⟩=true:=by rw [← e1];exact e2
   obtain ⟨i1,i2,i3⟩:=X60 k d.gs hok
   refine ⟨by simp only [List.length_cons];omega,fun x hx=>?_,i3⟩
   rcases List.mem_cons.1 hx with hx|hx
   ·subst hx;exact ⟨e4,e5⟩
   ·exact i2 x hx
theorem X84{c:Cx}{m:Nat}(h:c.gs.length≤m)(hn:0≤c.n∧c.n≤100) : (canC c).1.gs.length≤m∧(canC c).2.1.length≤m∧(canC c).2.2.gs.length≤m∧(∀ r ∈ (canC c).2.1,r.old.length≤41∧r.new.length≤41)∧(0≤(canC c).2.2.n∧(canC c).2.2.n≤100)∧(0≤(canC c).1.n∧(canC c).1.n≤100):=by
 unfold canC
 split
 ·rename_i hc
  obtain ⟨i1,i2,i3⟩:=X60 (n:=c.n) c.gs.length c.gs hc
  exact ⟨h,by dsimp only;omega,by dsimp only;omega,i2,by dsimp only;rw [i3];exact hn,hn⟩
 ·exact ⟨Nat.zero_le _,Nat.zero_le _,Nat.zero_le _,fun r hr=>by simp at hr,by decide,by decide⟩
theorem X8r{l:List Sr}{m:List Rp}(h:l.map Sr.rp=m)(hs:∀ r ∈ m,r.old.length≤41∧r.new.length≤41) : l.length=m.length∧∀ s ∈ l,s.old.length≤41∧s.new.length≤41:=by
 subst h
 exact ⟨by simp,fun s hs'=>hs s.rp (List.mem_map_of_mem hs')⟩
theorem X55{l:List Sr}{x:Sr}(h:∀ s ∈ l,s.old.length≤41∧s.new.length≤41)(hx:x.old.length≤41∧x.new.length≤41) : ∀ s ∈ l++[x],s.old.length≤41∧s.new.length≤41:=fun s hs=>by
 rcases List.mem_append.1 hs with hs|hs
 ·exact h s hs
 ·rw [List.mem_singleton] at hs
  subst hs
  exact hx
theorem Xab{l m:List Sr}{k:Nat}{u x:Sr}(h:m.map Sr.rp=(l.map Sr.rp).take k)(hu:l[k]? = some u)(hx:x.rp=u.rp) : (m++[x]).map Sr.rp=(l.map Sr.rp).take (k+1):=by
 obtain ⟨h1,h2⟩:=List.getElem?_eq_some_iff.1 hu
 rw [List.map_append,h,List.take_succ_eq_append_getElem (by simpa using h1)]
 simp [hx,h2]
theorem Xeq{c:Cx}{r:Rp}(hn:0≤c.n∧c.n≤100) : ((applyS c r).getD cZ).gs.length≤c.gs.length+r.new.length∧0≤((applyS c r).getD cZ).n∧((applyS c r).getD cZ).n≤100:=by
 unfold applyS
 split
 ·rename_i h
  refine ⟨?_,hn.1,hn.2⟩
  rw [Option.getD_some]
  simp only [List.length_append,List.length_take,List.length_drop]
  omega
 ·exact ⟨Nat.zero_le _,by decide,by decide⟩
theorem X74{d:Cx} : ∀ (l:List Rp) (i j:Nat) (c:Cx),checkLS i c d l=0→checkLS j c d l=0
 | [],i,j,c,h=>by
  unfold checkLS at h ⊢
  split at h
  ·rename_i h1;rw [if_pos h1]
  ·omega
 | r::l,i,j,c,h=>by
  unfold checkLS at h ⊢
  split at h
  ·rename_i h1;rw [if_pos h1];exact X74 l (i+1) (j+1) _ h
  ·omega
theorem X71{d b e:Cx}(hd:eqC d b=true){l2:List Rp}(h2:checkLS 0 b e l2=0) : ∀ (l:List Rp) (i:Nat) (c:Cx),checkLS i c d l=0→checkLS i c e (l++l2)=0
 | [],i,c,h=>by
  unfold checkLS at h
  split at h
  ·rename_i h1
   unfold eqC at h1 hd
   simp only [Bool.and_eq_true,beq_iff_eq,decide_eq_true_eq] at h1 hd
   have:c=b:=by cases c;cases b;simp only at h1 hd;rw [h1.1,h1.2,hd.1,hd.2]
   rw [this]
   exact X74 l2 0 i b h2
  ·omega
 | r::l,i,c,h=>by
  rw [List.cons_append]
  unfold checkLS at h ⊢
  split at h
  ·rename_i h1;rw [if_pos h1];exact X71 hd h2 l (i+1) _ h
  ·omega
theorem Xba{a d b e:Cx}{l l2:List Rp}(h1:checkS a d l=(0,true))(h2:checkS b e l2=(0,true))(hd:eqC d b=true)(hl:l.length+l2.length≤400) : checkI a e (l++l2)=(0,true):=by
 rw [X7z]
 unfold checkS at h1 h2 ⊢
 split at h1
 ·rename_i k1
  split at h2
  ·simp only [Bool.and_eq_true,decide_eq_true_eq] at k1
   rw [if_pos (by simp only [Bool.and_eq_true,decide_eq_true_eq];exact ⟨k1.1,by simp;omega⟩),X71 hd (Prod.mk.inj h2).1 l 0 a (Prod.mk.inj h1).1]
  ·cases h2
 ·cases h1
#print axioms Xba
end Go.Proofs.YtlfjcmldfbfdbaaGreat
set_option maxRecDepth 4000
namespace Go.Proofs.YtlfjcmldfbfdbaaGreat
open Go.RowKit
theorem Xfc(w0:World)(bV:Nat){Xcd:TypeId}(Acd:Option Addr)(ccd:Nat)(code:List Int)(hr_code:Rd w0 w0.heap.size Xcd encU Acd code)(hcd:∀ x ∈ code,0≤x∧x≤255)(hav:AwayR code Acd bV)(t:Nat)(sd:Int)(hBV:Blk w0 bV 80 [.slice Acd code.length ccd,vi (t:Int),.int .u64 sd])(ht:t+150≤100000000) : Ret Tryz.prog 87 [.pointer (some ⟨bV,0,none⟩)] w0 (fun v w=>∃ (c:Cx) (l:List Sr) (d:Cx) (A:Option Addr) (e:Nat) (B:Option Addr) (f:Nat) (D:Option Addr) (g:Nat) (t1:Nat) (s1:Int),v=.agg #[vi c.n,.slice A c.gs.length e,.slice B l.length f,vi d.n,.slice D d.gs.length g]∧(c.gs.length≤500∧l.length≤500∧d.gs.length≤500∧(0≤d.n∧d.n≤100)∧∀ s ∈ l,s.old.length≤41∧s.new.length≤41)∧(t≤t1∧t1≤t+150)∧(c.gs.length≤e∧d.gs.length≤g)∧Rd w w.heap.size 24 encG A c.gs∧Rd w w.heap.size 24 encG D d.gs∧Own w w0.heap.size 62 3 encSr B f l∧DeepR w w.heap.size 24 l∧Kept bV w0.heap.size w0 w∧Blk w bV 80 [.slice Acd code.length ccd,vi (t1:Int),.int .u64 s1]):=by
 have hltV:=hBV.lt
 refine enter Tryz.func87 rfl 59 rfl rfl ?_
 intro a hf
 have hW:Kept bV w0.heap.size w0 w0:=Kept.refl _ _ _
 refine Zs hf fun _ hK2=>?_
 refine Zf (Xa (zs:=[vi 0,.slice none 0 0,.slice none 0 0,vi 0,.slice none 0 0]) X3g rfl) ?_;rintro _ w1 ⟨b6,rfl,hl6,hE,hB6⟩
 have hlo6:=Nat.le_trans hW.size hl6
 have haw1_6:=hr_code.away hl6
 replace hBV:=hBV.below hE
 replace hr_code:=hr_code.below hE
 replace hW:=ktr hW hE
 refine Zt hK2 fun a hf=>?_
 refine Zs hf fun _ hK7=>?_
 refine Zm rfl ?_
 refine Zf (Vc (Xnc _ bV Acd ccd code hr_code.top hcd hav t sd hBV (by omega)) Xhx) ?_;rintro _ w2 ⟨cz13,Az13,ez13,tz13,sz13,rfl,hPz13,htz13,hoz13,hK,hbn⟩
 have hlv:=hW.size
 obtain ⟨wm,hO,hm,hE⟩:=hK.mid;clear hm
 have hold:=hBV
 replace hB6:=hB6.only hO (Blk.ne hB6 hold rfl)
 replace hr_code:=hr_code.onlyA hO hav
 replace hW:=hW.self hO
 replace hB6:=hB6.below hE
 replace hr_code:=hr_code.below hE
 replace hW:=ktr hW hE
 clear hold hE hO hK;replace hBV:=hbn;clear hbn
 replace hoz13:=hoz13.lower hlv;clear hlv
 refine Zf (Vc (Xj3 _ cz13 Az13 ez13 hoz13.rd.top (by omega)) Xcq) ?_;rintro _ w3 ⟨lz14,Az14,ez14,Bz14,fz14,Dz14,gz14,rfl,hlmz14,⟨hcbz14,hcdz14⟩,hraz14,hrdz14,hoz14,hdpz14,hE⟩
 replace hoz14:=hoz14.lower hW.size
 replace hBV:=hBV.below hE
 replace hB6:=hB6.below hE
 replace hr_code:=hr_code.below hE
 replace hoz13:=hoz13.below hE
 replace hW:=ktr hW hE
 obtain ⟨hb1,hb2,hb3,hb4,hb5,hb6⟩:=X84 (m:=14) hPz13.2 ⟨by omega,by omega⟩
 obtain ⟨hbl,hbs⟩:=X8r hlmz14 hb4
 refine Zm rfl<|Ze (X3 (vs:=[.agg #[vi ((canC cz13).1.n),.slice Az14 ((canC cz13).1.gs).length ez14,.slice Bz14 lz14.length fz14,vi ((canC cz13).2.2.n),.slice Dz14 ((canC cz13).2.2.gs).length gz14],.bool (cOk cz13)]) rfl rfl)<|Ze (X3 (vs:=[.agg #[vi ((canC cz13).1.n),.slice Az14 ((canC cz13).1.gs).length ez14,.slice Bz14 lz14.length fz14,vi ((canC cz13).2.2.n),.slice Dz14 ((canC cz13).2.2.gs).length gz14],.bool (cOk cz13)]) rfl rfl) ?_
 refine Zf (Xa (zs:=[vi 0,.slice none 0 0,.slice none 0 0,vi 0,.slice none 0 0]) X3g rfl) ?_;rintro _ w4 ⟨b15,rfl,hl15,hE,hB15⟩
 have hne6_15:b6≠b15:=by have:=hB6.lt;omega
 have hlo15:=Nat.le_trans hW.size hl15
 have haw1_15:=hr_code.away hl15
 replace hBV:=hBV.below hE
 replace hB6:=hB6.below hE
 replace hr_code:=hr_code.below hE
 replace hoz13:=hoz13.below hE
 replace hraz14:=hraz14.below hE
 replace hoz14:=hoz14.below hE
 replace hrdz14:=hrdz14.below hE
 replace hdpz14:=hdpz14.below hE
 replace hW:=ktr hW hE
 refine Zo (Vw [vi ((canC cz13).1.n),.slice Az14 ((canC cz13).1.gs).length ez14,.slice Bz14 lz14.length fz14,vi ((canC cz13).2.2.n),.slice Dz14 ((canC cz13).2.2.gs).length gz14] X13 hB15) ?_;rintro _ w5 ⟨ho,hb⟩
 have hold:=hB15
 replace hBV:=hBV.only ho (Blk.ne hBV hold rfl)
 replace hB6:=hB6.only ho (by omega)
 replace hr_code:=hr_code.only ho hlo15
 replace hoz13:=hoz13.onlyT ho hold rfl
 replace hraz14:=hraz14.onlyT ho hold rfl
 replace hoz14:=hoz14.onlyT ho hold rfl
 replace hrdz14:=hrdz14.onlyT ho hold rfl
 replace hdpz14:=hdpz14.onlyT ho hold rfl
 replace hW:=Kept.only hW ho hlo15
 clear hold
 have hB15:=hb
 clear hb ho
 refine Za rfl ?_
 refine Zt hK7 fun a hf=>?_
 refine wp_seq_k fun _ hK16=>?_
 refine Zs hf fun _ hK17=>?_
 refine Zm rfl ?_
 refine Zf (Vc (X24 _ bV Acd ccd code hr_code.top hcd hav tz13 sz13 hBV 3 (by omega)) X1f) ?_;rintro _ w6 ⟨xz18,tz18,sz18,rfl,hPz18,htz18,hK,hbn⟩
 obtain ⟨wm,hO,hm,hE⟩:=hK.mid;clear hm
 have hold:=hBV
 replace hB6:=hB6.only hO (Blk.ne hB6 hold rfl)
 replace hB15:=hB15.only hO (Blk.ne hB15 hold rfl)
 replace hr_code:=hr_code.onlyA hO hav
 replace hraz14:=hraz14.onlyT hO hold rfl
 replace hoz14:=hoz14.onlyT hO hold rfl
 replace hrdz14:=hrdz14.onlyT hO hold rfl
 replace hdpz14:=hdpz14.onlyT hO hold rfl
 replace hW:=hW.self hO
 replace hB6:=hB6.below hE
 replace hB15:=hB15.below hE
 replace hr_code:=hr_code.below hE
 replace hraz14:=hraz14.below hE
 replace hoz14:=hoz14.below hE
 replace hrdz14:=hrdz14.below hE
 replace hdpz14:=hdpz14.below hE
 replace hW:=ktr hW hE
 clear hold hE hO hK;replace hBV:=hbn;clear hbn
 refine Za rfl ?_
 refine Zt hK17 fun a hf=>?_
 refine wp_block ?_
 refine X0j (σ:=Int×(List Sr)×Int×(List Gt)×Nat×Int) (fun (s:Int×(List Sr)×Int×(List Gt)×Nat×Int) (a:Act) (w:World)=>match s with|(j,l,n1,gs,t2,s2)=>∃ A18 c18 A19 c19,Fr a 59 [(0,.pointer (some ⟨bV,0,none⟩)),(2,.pointer (some ⟨b6,0,none⟩)),(3,.pointer (some ⟨b15,0,none⟩)),(5,vi j)]∧(0≤j∧j≤2∧l.length+j≤16∧gs.length+41*j≤96)∧(0≤n1∧n1≤100)∧(∀ s ∈ l,s.old.length≤41∧s.new.length≤41)∧(t≤t2∧t2+28*j.toNat≤t+150)∧Blk w bV 80 [.slice Acd code.length ccd,vi (t2:Int),.int .u64 s2]∧Blk w b6 46 [vi 0,.slice none 0 0,.slice none 0 0,vi 0,.slice none 0 0]∧Blk w b15 46 [vi ((canC cz13).1.n),.slice Az14 ((canC cz13).1.gs).length ez14,.slice A18 l.length c18,vi n1,.slice A19 gs.length c19]∧Rd w w0.heap.size Xcd encU Acd code∧Rd w w3.heap.size 24 encG Az14 ((canC cz13).1.gs)∧Own w w0.heap.size 62 3 encSr A18 c18 l∧Rd w w.heap.size 24 encG A19 gs∧((canC cz13).1.gs).length≤ez14∧DeepR w w.heap.size 24 l∧gs.length≤c19∧Kept bV w0.heap.size w0 w) (fun (s:Int×(List Sr)×Int×(List Gt)×Nat×Int)=>match s with|(j,l,n1,gs,t2,s2)=>j.toNat) (xz18,lz14,(canC cz13).2.2.n,(canC cz13).2.2.gs,tz18,sz18) ?_ ?_
 ·exact ⟨Bz14,fz14,Dz14,gz14,hf.sub ⟨rfl,rfl,rfl,rfl,trivial⟩,(by omega),hb5,hbs,(by omega),hBV,hB6,hB15,hr_code,hraz14,hoz14,hrdz14.top,hcbz14,hdpz14.top,hcdz14,hW⟩
 rintro ⟨j,l,n1,gs,t2,s2⟩ a w7 ⟨A18,c18,A19,c19,hf,hj,hn1,hsm,htt,hBV,hB6,hB15,hr_code,hraz14,ho18,hr19,hcbz14,hdp18,hcp19,hW⟩
 refine wp_seq_k fun _ hK20=>?_
 refine Zs hf fun _ hK21=>?_
 refine Zm rfl<|Ze (X3d rfl rfl) ?_
 refine Zt hK21 fun a hf=>?_
 refine Xi hf rfl (fun hc22=>?_) (fun hc22=>?_)
 ·have hc22b:=hc22
  have hc22:=of_decide_eq_true hc22
  refine wp_skip ?_
  refine hK20 _ _ ?_
  refine wp_seq_k fun _ hK23=>?_
  refine wp_block ?_
  refine Zs hf fun _ hK24=>?_
  refine Zm rfl<|Ze (Vd rfl X1l 3)<|Ze (Xj (l:=[vi n1,.slice A19 gs.length c19]) rfl X0c ((hB15.at 3).take 2) rfl) ?_
  refine Zf (Vc (Xmm _ bV Acd ccd code hr_code.top hcd hav t2 s2 hBV (⟨n1,gs⟩ : Cx) A19 c19 hr19.top hcp19 (by show n1≤100;omega) (by show gs.length≤1000;omega) (by omega)) Xi8) ?_;rintro _ w8 ⟨rz26,Az26,ez26,Bz26,fz26,tz26,sz26,rfl,hPz26,htz26,hroz26,hrnz26,hK,hbn⟩
  obtain ⟨wm,hO,hm,hE⟩:=hK.mid;clear hm
  have hold:=hBV
  replace hB6:=hB6.only hO (Blk.ne hB6 hold rfl)
  replace hB15:=hB15.only hO (Blk.ne hB15 hold rfl)
  replace hr_code:=hr_code.onlyA hO hav
  replace hraz14:=hraz14.onlyT hO hold rfl
  replace ho18:=ho18.onlyT hO hold rfl
  replace hr19:=hr19.onlyT hO hold rfl
  replace hdp18:=hdp18.onlyT hO hold rfl
  replace hW:=hW.self hO
  replace hB6:=hB6.below hE
  replace hB15:=hB15.below hE
  replace hr_code:=hr_code.below hE
  replace hraz14:=hraz14.below hE
  replace ho18:=ho18.below hE
  replace hr19:=hr19.below hE
  replace hdp18:=hdp18.below hE
  replace hW:=ktr hW hE
  clear hold hE hO hK;replace hBV:=hbn;clear hbn
  refine Zf (Xa (zs:=[vi 0,.slice none 0 0,.slice none 0 0]) Xa0 rfl) ?_;rintro _ w9 ⟨b29,rfl,hl29,hE,hB29⟩
  have hlo29:=Nat.le_trans hW.size hl29
  have haw1_29:=hr_code.away hl29
  have haw18_29:=ho18.away hl29
  replace hBV:=hBV.below hE
  replace hB6:=hB6.below hE
  replace hB15:=hB15.below hE
  replace hr_code:=hr_code.below hE
  replace hraz14:=hraz14.below hE
  replace ho18:=ho18.below hE
  replace hr19:=hr19.below hE
  replace hroz26:=hroz26.below hE
  replace hrnz26:=hrnz26.below hE
  replace hdp18:=hdp18.below hE
  replace hW:=ktr hW hE
  refine Zo (Vw [vi rz26.pos,.slice Az26 rz26.old.length ez26,.slice Bz26 rz26.new.length fz26] X23 hB29) ?_;rintro _ w10 ⟨ho,hb⟩
  have hold:=hB29
  replace hBV:=hBV.only ho (Blk.ne hBV hold rfl)
  replace hB6:=hB6.only ho (Blk.ne hB6 hold rfl)
  replace hB15:=hB15.only ho (Blk.ne hB15 hold rfl)
  replace hr_code:=hr_code.only ho hlo29
  replace hraz14:=hraz14.onlyT ho hold rfl
  replace ho18:=ho18.onlyA ho haw18_29
  replace hr19:=hr19.onlyT ho hold rfl
  replace hroz26:=hroz26.onlyT ho hold rfl
  replace hrnz26:=hrnz26.onlyT ho hold rfl
  replace hdp18:=hdp18.onlyT ho hold rfl
  replace hW:=Kept.only hW ho hlo29
  clear hold
  have hB29:=hb
  clear hb ho
  refine Zt hK24 fun a hf=>?_
  refine Zs hf fun _ hK30=>?_
  refine Ze (Vd rfl X1l 3)<|Ze (Xj (l:=[vi n1,.slice A19 gs.length c19]) rfl X0c ((hB15.at 3).take 2) rfl)<|Ze (Vn X1i hB29) ?_
  refine Zf (Vc (F63 _ (⟨n1,gs⟩ : Cx) A19 c19 hr19.top hcp19 rz26 Az26 ez26 hroz26.top Bz26 fz26 hrnz26.top (by show gs.length≤100000000;omega) (by omega) (by omega)) Xey) ?_;rintro _ w11 ⟨A31,c31,rfl,ho31,hE⟩
  replace ho31:=ho31.lower hW.size
  replace hBV:=hBV.below hE
  replace hB6:=hB6.below hE
  replace hB15:=hB15.below hE
  replace hB29:=hB29.below hE
  replace hr_code:=hr_code.below hE
  replace hraz14:=hraz14.below hE
  replace ho18:=ho18.below hE
  replace hr19:=hr19.below hE
  replace hroz26:=hroz26.below hE
  replace hrnz26:=hrnz26.below hE
  replace hdp18:=hdp18.below hE
  replace hW:=ktr hW hE
  have hal:=Xeq (c:=(⟨n1,gs⟩ : Cx)) (r:=rz26) hn1
  refine Zm rfl<|Ze (X3 (vs:=[.agg #[vi (((applyS (⟨n1,gs⟩ : Cx) rz26).getD cZ).n),.slice A31 (((applyS (⟨n1,gs⟩ : Cx) rz26).getD cZ).gs).length c31],.bool ((applyS (⟨n1,gs⟩ : Cx) rz26).isSome)]) rfl rfl)<|Ze (X3 (vs:=[.agg #[vi (((applyS (⟨n1,gs⟩ : Cx) rz26).getD cZ).n),.slice A31 (((applyS (⟨n1,gs⟩ : Cx) rz26).getD cZ).gs).length c31],.bool ((applyS (⟨n1,gs⟩ : Cx) rz26).isSome)]) rfl rfl) ?_
  refine Zf (Xa (zs:=[vi 0,.slice none 0 0]) X37 rfl) ?_;rintro _ w12 ⟨b33,rfl,hl33,hE,hB33⟩
  have hlo33:=Nat.le_trans hW.size hl33
  have haw1_33:=hr_code.away hl33
  replace hBV:=hBV.below hE
  replace hB6:=hB6.below hE
  replace hB15:=hB15.below hE
  replace hB29:=hB29.below hE
  replace hr_code:=hr_code.below hE
  replace hraz14:=hraz14.below hE
  replace ho18:=ho18.below hE
  replace hr19:=hr19.below hE
  replace hroz26:=hroz26.below hE
  replace hrnz26:=hrnz26.below hE
  replace ho31:=ho31.below hE
  replace hdp18:=hdp18.below hE
  replace hW:=ktr hW hE
  refine Zo (Vw [vi (((applyS (⟨n1,gs⟩ : Cx) rz26).getD cZ).n),.slice A31 (((applyS (⟨n1,gs⟩ : Cx) rz26).getD cZ).gs).length c31] X1h hB33) ?_;rintro _ w13 ⟨ho,hb⟩
  have hold:=hB33
  replace hBV:=hBV.only ho (Blk.ne hBV hold rfl)
  replace hB6:=hB6.only ho (Blk.ne hB6 hold rfl)
  replace hB15:=hB15.only ho (Blk.ne hB15 hold rfl)
  replace hB29:=hB29.only ho (Blk.ne hB29 hold rfl)
  replace hr_code:=hr_code.only ho hlo33
  replace hraz14:=hraz14.onlyT ho hold rfl
  replace ho18:=ho18.onlyT ho hold rfl
  replace hr19:=hr19.onlyT ho hold rfl
  replace hroz26:=hroz26.onlyT ho hold rfl
  replace hrnz26:=hrnz26.onlyT ho hold rfl
  replace ho31:=ho31.onlyT ho hold rfl
  replace hdp18:=hdp18.onlyT ho hold rfl
  replace hW:=Kept.only hW ho hlo33
  clear hold
  have hB33:=hb
  clear hb ho
  refine Za rfl ?_
  refine Zt hK30 fun a hf=>?_
  refine Zs hf fun _ hK34=>?_
  refine Ze (Vn X1i hB29) ?_
  refine Zf (Vc (F44 _ rz26 Az26 ez26 hroz26.top Bz26 fz26 hrnz26.top (by omega) (by omega)) Xiw) ?_;rintro _ w14 ⟨rfl,hE⟩
  replace hBV:=hBV.below hE
  replace hB6:=hB6.below hE
  replace hB15:=hB15.below hE
  replace hB29:=hB29.below hE
  replace hB33:=hB33.below hE
  replace hr_code:=hr_code.below hE
  replace hraz14:=hraz14.below hE
  replace ho18:=ho18.below hE
  replace hr19:=hr19.below hE
  replace hroz26:=hroz26.below hE
  replace hrnz26:=hrnz26.below hE
  replace ho31:=ho31.below hE
  replace hdp18:=hdp18.below hE
  replace hW:=ktr hW hE
  refine Zm rfl<|Ze (X3 (vs:=[.bool ((justS rz26).1),.bool ((justS rz26).2)]) rfl rfl)<|Ze (X3 (vs:=[.bool ((justS rz26).1),.bool ((justS rz26).2)]) rfl rfl)<|Za rfl<|Za rfl ?_
  refine Zt hK34 fun a hf=>?_
  refine Zs hf fun _ hK35=>?_
  refine Zm rfl<|Zm rfl ?_
  refine Zg 40 rfl (fun hg36=>?_) (fun hg36=>?_)
  ·refine Zv ⟨_,_,rfl,rfl,hg36⟩ (X9 rfl) ?_
   refine Zv ⟨_,_,rfl,rfl,hg36⟩ (X9 rfl) ?_
   refine Zg 42 rfl (fun hg37=>?_) (fun hg37=>?_)
   ·refine Zv ⟨_,_,rfl,rfl,hg37⟩ (X9 rfl) ?_
    refine Zv ⟨_,_,rfl,rfl,hg36⟩ (Xc rfl hg37 rfl) ?_
    refine Zv ⟨_,_,rfl,rfl,hg36⟩ (X9 rfl) ?_
    refine Zg 45 rfl (fun hg38=>?_) (fun hg38=>?_)
    ·refine Zp ⟨_,_,rfl,rfl,hg38⟩ ?_
     refine Zp ⟨_,_,rfl,rfl,hg38⟩ ?_
     refine Zv ⟨_,_,rfl,rfl,hg36⟩ (Xc rfl hg38 rfl) ?_
     refine Ze (Xc rfl hg36 rfl) ?_
     refine Zt hK35 fun a hf=>?_
     refine Xbx hf rfl ?_
     refine Zs hf fun _ hK39=>?_
     refine Ze (Vd rfl X0y 2)<|Ze (X0 rfl X1z (hB15.at 2))<|Ze (Vn X1i hB29) ?_
     refine Zf (X4 (k:=1) (vs:=[.agg #[vi rz26.pos,.slice Az26 rz26.old.length ez26,.slice Bz26 rz26.new.length fz26]]) (zs:=[vi rz26.pos,.slice Az26 rz26.old.length ez26,.slice Bz26 rz26.new.length fz26]) rfl X17 X1w rfl rfl) ?_;rintro _ w15 ⟨b40,rfl,hl40,hE,hB40⟩
     have hne29_40:b29≠b40:=by have:=hB29.lt;omega
     have hlo40:=Nat.le_trans hW.size hl40
     have haw1_40:=hr_code.away hl40
     have haw18_40:=ho18.away hl40
     replace hBV:=hBV.below hE
     replace hB6:=hB6.below hE
     replace hB15:=hB15.below hE
     replace hB29:=hB29.below hE
     replace hB33:=hB33.below hE
     replace hr_code:=hr_code.below hE
     replace hraz14:=hraz14.below hE
     replace ho18:=ho18.below hE
     replace hr19:=hr19.below hE
     replace hroz26:=hroz26.below hE
     replace hrnz26:=hrnz26.below hE
     replace ho31:=ho31.below hE
     replace hdp18:=hdp18.below hE
     replace hW:=ktr hW hE
     refine Zf (X0f (enc:=encSr) (l:=(l)) (l2:=([(⟨rz26.pos,Az26,ez26,rz26.old,Bz26,fz26,rz26.new⟩ : Sr)])) (B0:=w0.heap.size) rfl rfl X17 X1w X19 X1t ho18 (Rd.of_blk hB40 rfl _ hB40.lt) (by simp only [maxLen];simp;omega) (by simp;omega) hW.size) ?_;rintro _ w16 ⟨A42,c42,rfl,ho42,hg,hat⟩
     have hown:Own _ w0.heap.size 62 3 encSr _ _ (l):=ho18
     have haw42_29:=hat _ hB29.lt haw18_29
     have haw42_40:=hat _ hB40.lt haw18_40
     clear hat
     have hdp42:=DeepR.snoc (l:=l) (x:=(⟨rz26.pos,Az26,ez26,rz26.old,Bz26,fz26,rz26.new⟩ : Sr)) hdp18.top hroz26.top hrnz26.top
     replace hBV:=hBV.appT hown hg rfl
     replace hB6:=hB6.appT hown hg rfl
     replace hB15:=hB15.appT hown hg rfl
     replace hB29:=hB29.appA hg haw18_29
     replace hB33:=hB33.appT hown hg rfl
     replace hr_code:=hr_code.appB hown hg (Nat.le_refl _)
     replace hraz14:=hraz14.appT hown hg rfl
     replace hr19:=hr19.appT hown hg rfl
     replace hroz26:=hroz26.appT hown hg rfl
     replace hrnz26:=hrnz26.appT hown hg rfl
     replace ho31:=ho31.appT hown hg rfl
     replace hdp42:=hdp42.appT hown hg rfl
     replace hW:=Kept.app hW hown hg (Nat.le_refl _) hW.size
     clear hown hg
     refine Ze (Vd rfl X0y 2) ?_
     refine Zo (Vu (vs:=[.slice A42 (l++([(⟨rz26.pos,Az26,ez26,rz26.old,Bz26,fz26,rz26.new⟩ : Sr)])).length c42]) (l':=[vi ((canC cz13).1.n),.slice Az14 ((canC cz13).1.gs).length ez14,.slice A42 (l++([(⟨rz26.pos,Az26,ez26,rz26.old,Bz26,fz26,rz26.new⟩ : Sr)])).length c42,vi n1,.slice A19 gs.length c19]) rfl rfl Xb3 hB15) ?_;rintro _ w17 ⟨ho,hb⟩
     have hold:=hB15
     replace hBV:=hBV.only ho (Blk.ne hBV hold rfl)
     replace hB6:=hB6.only ho (by omega)
     replace hB29:=hB29.only ho (Blk.ne hB29 hold rfl)
     replace hB33:=hB33.only ho (Blk.ne hB33 hold rfl)
     replace hr_code:=hr_code.only ho hlo15
     replace hraz14:=hraz14.onlyT ho hold rfl
     replace hr19:=hr19.onlyT ho hold rfl
     replace hroz26:=hroz26.onlyT ho hold rfl
     replace hrnz26:=hrnz26.onlyT ho hold rfl
     replace ho31:=ho31.onlyT ho hold rfl
     replace ho42:=ho42.onlyT ho hold rfl
     replace hdp42:=hdp42.onlyT ho hold rfl
     replace hW:=Kept.only hW ho hlo15
     clear hold
     have hB15:=hb
     clear hb ho
     refine Zt hK39 fun a hf=>?_
     refine Zr hf ?_
     refine Ze (Vn X0c hB33)<|Ze (Vd rfl X1l 3) ?_
     refine Zo (Vu (vs:=[vi (((applyS (⟨n1,gs⟩ : Cx) rz26).getD cZ).n),.slice A31 (((applyS (⟨n1,gs⟩ : Cx) rz26).getD cZ).gs).length c31]) (l':=[vi ((canC cz13).1.n),.slice Az14 ((canC cz13).1.gs).length ez14,.slice A42 (l++([(⟨rz26.pos,Az26,ez26,rz26.old,Bz26,fz26,rz26.new⟩ : Sr)])).length c42,vi (((applyS (⟨n1,gs⟩ : Cx) rz26).getD cZ).n),.slice A31 (((applyS (⟨n1,gs⟩ : Cx) rz26).getD cZ).gs).length c31]) rfl rfl X1h hB15) ?_;rintro _ w18 ⟨ho,hb⟩
     have hold:=hB15
     replace hBV:=hBV.only ho (Blk.ne hBV hold rfl)
     replace hB6:=hB6.only ho (by omega)
     replace hB33:=hB33.only ho (Blk.ne hB33 hold rfl)
     replace hr_code:=hr_code.only ho hlo15
     replace hraz14:=hraz14.onlyT ho hold rfl
     replace hr19:=hr19.onlyT ho hold rfl
     replace ho31:=ho31.onlyT ho hold rfl
     replace ho42:=ho42.onlyT ho hold rfl
     replace hdp42:=hdp42.onlyT ho hold rfl
     replace hW:=Kept.only hW ho hlo15
     clear hold
     have hB15:=hb
     clear hb ho
     refine Zn fun a hf=>?_
     refine Xf ?_
     refine hK23 _ _ ?_
     refine Zr hf ?_
     refine Zm rfl<|Ze (X1d rfl rfl (by omega) (by omega))<|Za rfl ?_
     refine Zn fun a hf=>?_
     refine Xn ?_
     exact ⟨(j-1,l++([(⟨rz26.pos,Az26,ez26,rz26.old,Bz26,fz26,rz26.new⟩ : Sr)]),((applyS (⟨n1,gs⟩ : Cx) rz26).getD cZ).n,((applyS (⟨n1,gs⟩ : Cx) rz26).getD cZ).gs,tz26,sz26),⟨A42,c42,A31,c31,hf.sub ⟨rfl,rfl,rfl,rfl,trivial⟩,(by dsimp only at hal;simp;omega),(by first|exact hn1|exact hal.2),(by first|exact hsm|exact X55 hsm hPz26),(by omega),hBV,hB6,hB15,hr_code,hraz14,ho42,ho31.rd,hcbz14,hdp42.top,ho31.cap,hW⟩,(by first|omega|(dsimp only;omega))⟩
    refine Zv ⟨_,_,rfl,rfl,hg38⟩ (X9 rfl) ?_
    refine Zk ⟨_,_,rfl,rfl,hg38⟩ (Vc (Xf2 _ bV Acd ccd code hr_code.top hcd hav tz26 sz26 hBV 3 (by omega)) Xaa) ?_;rintro _ w19 ⟨xz47,tz47,sz47,rfl,hPz47,htz47,hK,hbn⟩
    obtain ⟨wm,hO,hm,hE⟩:=hK.mid;clear hm
    have hold:=hBV
    replace hB6:=hB6.only hO (Blk.ne hB6 hold rfl)
    replace hB15:=hB15.only hO (Blk.ne hB15 hold rfl)
    replace hB29:=hB29.only hO (Blk.ne hB29 hold rfl)
    replace hB33:=hB33.only hO (Blk.ne hB33 hold rfl)
    replace hr_code:=hr_code.onlyA hO hav
    replace hraz14:=hraz14.onlyT hO hold rfl
    replace ho18:=ho18.onlyT hO hold rfl
    replace hr19:=hr19.onlyT hO hold rfl
    replace hroz26:=hroz26.onlyT hO hold rfl
    replace hrnz26:=hrnz26.onlyT hO hold rfl
    replace ho31:=ho31.onlyT hO hold rfl
    replace hdp18:=hdp18.onlyT hO hold rfl
    replace hW:=hW.self hO
    replace hB6:=hB6.below hE
    replace hB15:=hB15.below hE
    replace hB29:=hB29.below hE
    replace hB33:=hB33.below hE
    replace hr_code:=hr_code.below hE
    replace hraz14:=hraz14.below hE
    replace ho18:=ho18.below hE
    replace hr19:=hr19.below hE
    replace hroz26:=hroz26.below hE
    replace hrnz26:=hrnz26.below hE
    replace ho31:=ho31.below hE
    replace hdp18:=hdp18.below hE
    replace hW:=ktr hW hE
    clear hold hE hO hK;replace hBV:=hbn;clear hbn
    refine Zv ⟨_,_,rfl,rfl,hg36⟩ (X7 rfl hg38 rfl) ?_
    refine Ze (Xc rfl hg36 rfl) ?_
    refine Zt hK35 fun a hf=>?_
    refine Xi hf rfl (fun hc43=>?_) (fun hc43=>?_)
    ·have hc43b:=hc43
     refine Zs hf fun _ hK44=>?_
     refine Ze (Vd rfl X0y 2)<|Ze (X0 rfl X1z (hB15.at 2))<|Ze (Vn X1i hB29) ?_
     refine Zf (X4 (k:=1) (vs:=[.agg #[vi rz26.pos,.slice Az26 rz26.old.length ez26,.slice Bz26 rz26.new.length fz26]]) (zs:=[vi rz26.pos,.slice Az26 rz26.old.length ez26,.slice Bz26 rz26.new.length fz26]) rfl X17 X1w rfl rfl) ?_;rintro _ w20 ⟨b45,rfl,hl45,hE,hB45⟩
     have hne29_45:b29≠b45:=by have:=hB29.lt;omega
     have hlo45:=Nat.le_trans hW.size hl45
     have haw1_45:=hr_code.away hl45
     have haw18_45:=ho18.away hl45
     replace hBV:=hBV.below hE
     replace hB6:=hB6.below hE
     replace hB15:=hB15.below hE
     replace hB29:=hB29.below hE
     replace hB33:=hB33.below hE
     replace hr_code:=hr_code.below hE
     replace hraz14:=hraz14.below hE
     replace ho18:=ho18.below hE
     replace hr19:=hr19.below hE
     replace hroz26:=hroz26.below hE
     replace hrnz26:=hrnz26.below hE
     replace ho31:=ho31.below hE
     replace hdp18:=hdp18.below hE
     replace hW:=ktr hW hE
     refine Zf (X0f (enc:=encSr) (l:=(l)) (l2:=([(⟨rz26.pos,Az26,ez26,rz26.old,Bz26,fz26,rz26.new⟩ : Sr)])) (B0:=w0.heap.size) rfl rfl X17 X1w X19 X1t ho18 (Rd.of_blk hB45 rfl _ hB45.lt) (by simp only [maxLen];simp;omega) (by simp;omega) hW.size) ?_;rintro _ w21 ⟨A47,c47,rfl,ho47,hg,hat⟩
     have hown:Own _ w0.heap.size 62 3 encSr _ _ (l):=ho18
     have haw47_29:=hat _ hB29.lt haw18_29
     have haw47_45:=hat _ hB45.lt haw18_45
     clear hat
     have hdp47:=DeepR.snoc (l:=l) (x:=(⟨rz26.pos,Az26,ez26,rz26.old,Bz26,fz26,rz26.new⟩ : Sr)) hdp18.top hroz26.top hrnz26.top
     replace hBV:=hBV.appT hown hg rfl
     replace hB6:=hB6.appT hown hg rfl
     replace hB15:=hB15.appT hown hg rfl
     replace hB29:=hB29.appA hg haw18_29
     replace hB33:=hB33.appT hown hg rfl
     replace hr_code:=hr_code.appB hown hg (Nat.le_refl _)
     replace hraz14:=hraz14.appT hown hg rfl
     replace hr19:=hr19.appT hown hg rfl
     replace hroz26:=hroz26.appT hown hg rfl
     replace hrnz26:=hrnz26.appT hown hg rfl
     replace ho31:=ho31.appT hown hg rfl
     replace hdp47:=hdp47.appT hown hg rfl
     replace hW:=Kept.app hW hown hg (Nat.le_refl _) hW.size
     clear hown hg
     refine Ze (Vd rfl X0y 2) ?_
     refine Zo (Vu (vs:=[.slice A47 (l++([(⟨rz26.pos,Az26,ez26,rz26.old,Bz26,fz26,rz26.new⟩ : Sr)])).length c47]) (l':=[vi ((canC cz13).1.n),.slice Az14 ((canC cz13).1.gs).length ez14,.slice A47 (l++([(⟨rz26.pos,Az26,ez26,rz26.old,Bz26,fz26,rz26.new⟩ : Sr)])).length c47,vi n1,.slice A19 gs.length c19]) rfl rfl Xb3 hB15) ?_;rintro _ w22 ⟨ho,hb⟩
     have hold:=hB15
     replace hBV:=hBV.only ho (Blk.ne hBV hold rfl)
     replace hB6:=hB6.only ho (by omega)
     replace hB29:=hB29.only ho (Blk.ne hB29 hold rfl)
     replace hB33:=hB33.only ho (Blk.ne hB33 hold rfl)
     replace hr_code:=hr_code.only ho hlo15
     replace hraz14:=hraz14.onlyT ho hold rfl
     replace hr19:=hr19.onlyT ho hold rfl
     replace hroz26:=hroz26.onlyT ho hold rfl
     replace hrnz26:=hrnz26.onlyT ho hold rfl
     replace ho31:=ho31.onlyT ho hold rfl
     replace ho47:=ho47.onlyT ho hold rfl
     replace hdp47:=hdp47.onlyT ho hold rfl
     replace hW:=Kept.only hW ho hlo15
     clear hold
     have hB15:=hb
     clear hb ho
     refine Zt hK44 fun a hf=>?_
     refine Zr hf ?_
     refine Ze (Vn X0c hB33)<|Ze (Vd rfl X1l 3) ?_
     refine Zo (Vu (vs:=[vi (((applyS (⟨n1,gs⟩ : Cx) rz26).getD cZ).n),.slice A31 (((applyS (⟨n1,gs⟩ : Cx) rz26).getD cZ).gs).length c31]) (l':=[vi ((canC cz13).1.n),.slice Az14 ((canC cz13).1.gs).length ez14,.slice A47 (l++([(⟨rz26.pos,Az26,ez26,rz26.old,Bz26,fz26,rz26.new⟩ : Sr)])).length c47,vi (((applyS (⟨n1,gs⟩ : Cx) rz26).getD cZ).n),.slice A31 (((applyS (⟨n1,gs⟩ : Cx) rz26).getD cZ).gs).length c31]) rfl rfl X1h hB15) ?_;rintro _ w23 ⟨ho,hb⟩
     have hold:=hB15
     replace hBV:=hBV.only ho (Blk.ne hBV hold rfl)
     replace hB6:=hB6.only ho (by omega)
     replace hB33:=hB33.only ho (Blk.ne hB33 hold rfl)
     replace hr_code:=hr_code.only ho hlo15
     replace hraz14:=hraz14.onlyT ho hold rfl
     replace hr19:=hr19.onlyT ho hold rfl
     replace ho31:=ho31.onlyT ho hold rfl
     replace ho47:=ho47.onlyT ho hold rfl
     replace hdp47:=hdp47.onlyT ho hold rfl
     replace hW:=Kept.only hW ho hlo15
     clear hold
     have hB15:=hb
     clear hb ho
     refine Zn fun a hf=>?_
     refine Xf ?_
     refine hK23 _ _ ?_
     refine Zr hf ?_
     refine Zm rfl<|Ze (X1d rfl rfl (by omega) (by omega))<|Za rfl ?_
     refine Zn fun a hf=>?_
     refine Xn ?_
     exact ⟨(j-1,l++([(⟨rz26.pos,Az26,ez26,rz26.old,Bz26,fz26,rz26.new⟩ : Sr)]),((applyS (⟨n1,gs⟩ : Cx) rz26).getD cZ).n,((applyS (⟨n1,gs⟩ : Cx) rz26).getD cZ).gs,tz47,sz47),⟨A47,c47,A31,c31,hf.sub ⟨rfl,rfl,rfl,rfl,trivial⟩,(by dsimp only at hal;simp;omega),(by first|exact hn1|exact hal.2),(by first|exact hsm|exact X55 hsm hPz26),(by omega),hBV,hB6,hB15,hr_code,hraz14,ho47,ho31.rd,hcbz14,hdp47.top,ho31.cap,hW⟩,(by first|omega|(dsimp only;omega))⟩
    have hc43b:=hc43
    refine wp_skip ?_
    refine Xf ?_
    refine hK23 _ _ ?_
    refine Zr hf ?_
    refine Zm rfl<|Ze (X1d rfl rfl (by omega) (by omega))<|Za rfl ?_
    refine Zn fun a hf=>?_
    refine Xn ?_
    exact ⟨(j-1,l,n1,gs,tz47,sz47),⟨A18,c18,A19,c19,hf.sub ⟨rfl,rfl,rfl,rfl,trivial⟩,(by dsimp only at hal;simp;omega),(by first|exact hn1|exact hal.2),(by first|exact hsm|exact X55 hsm hPz26),(by omega),hBV,hB6,hB15,hr_code,hraz14,ho18,hr19.top,hcbz14,hdp18.top,hcp19,hW⟩,(by first|omega|(dsimp only;omega))⟩
   refine Zp ⟨_,_,rfl,rfl,hg37⟩ ?_
   refine Zv ⟨_,_,rfl,rfl,hg36⟩ (X7 rfl hg37 rfl) ?_
   refine Zv ⟨_,_,rfl,rfl,hg36⟩ (X9 rfl) ?_
   refine Zv ⟨_,_,rfl,rfl,rfl⟩ (X9 rfl) ?_
   refine Zk ⟨_,_,rfl,rfl,rfl⟩ (Vc (Xf2 _ bV Acd ccd code hr_code.top hcd hav tz26 sz26 hBV 3 (by omega)) Xaa) ?_;rintro _ w24 ⟨xz47,tz47,sz47,rfl,hPz47,htz47,hK,hbn⟩
   obtain ⟨wm,hO,hm,hE⟩:=hK.mid;clear hm
   have hold:=hBV
   replace hB6:=hB6.only hO (Blk.ne hB6 hold rfl)
   replace hB15:=hB15.only hO (Blk.ne hB15 hold rfl)
   replace hB29:=hB29.only hO (Blk.ne hB29 hold rfl)
   replace hB33:=hB33.only hO (Blk.ne hB33 hold rfl)
   replace hr_code:=hr_code.onlyA hO hav
   replace hraz14:=hraz14.onlyT hO hold rfl
   replace ho18:=ho18.onlyT hO hold rfl
   replace hr19:=hr19.onlyT hO hold rfl
   replace hroz26:=hroz26.onlyT hO hold rfl
   replace hrnz26:=hrnz26.onlyT hO hold rfl
   replace ho31:=ho31.onlyT hO hold rfl
   replace hdp18:=hdp18.onlyT hO hold rfl
   replace hW:=hW.self hO
   replace hB6:=hB6.below hE
   replace hB15:=hB15.below hE
   replace hB29:=hB29.below hE
   replace hB33:=hB33.below hE
   replace hr_code:=hr_code.below hE
   replace hraz14:=hraz14.below hE
   replace ho18:=ho18.below hE
   replace hr19:=hr19.below hE
   replace hroz26:=hroz26.below hE
   replace hrnz26:=hrnz26.below hE
   replace ho31:=ho31.below hE
   replace hdp18:=hdp18.below hE
   replace hW:=ktr hW hE
   clear hold hE hO hK;replace hBV:=hbn;clear hbn
   refine Zv ⟨_,_,rfl,rfl,hg36⟩ (X7 rfl rfl rfl) ?_
   refine Ze (Xc rfl hg36 rfl) ?_
   refine Zt hK35 fun a hf=>?_
   refine Xi hf rfl (fun hc48=>?_) (fun hc48=>?_)
   ·have hc48b:=hc48
    refine Zs hf fun _ hK49=>?_
    refine Ze (Vd rfl X0y 2)<|Ze (X0 rfl X1z (hB15.at 2))<|Ze (Vn X1i hB29) ?_
    refine Zf (X4 (k:=1) (vs:=[.agg #[vi rz26.pos,.slice Az26 rz26.old.length ez26,.slice Bz26 rz26.new.length fz26]]) (zs:=[vi rz26.pos,.slice Az26 rz26.old.length ez26,.slice Bz26 rz26.new.length fz26]) rfl X17 X1w rfl rfl) ?_;rintro _ w25 ⟨b50,rfl,hl50,hE,hB50⟩
    have hne29_50:b29≠b50:=by have:=hB29.lt;omega
    have hlo50:=Nat.le_trans hW.size hl50
    have haw1_50:=hr_code.away hl50
    have haw18_50:=ho18.away hl50
    replace hBV:=hBV.below hE
    replace hB6:=hB6.below hE
    replace hB15:=hB15.below hE
    replace hB29:=hB29.below hE
    replace hB33:=hB33.below hE
    replace hr_code:=hr_code.below hE
    replace hraz14:=hraz14.below hE
    replace ho18:=ho18.below hE
    replace hr19:=hr19.below hE
    replace hroz26:=hroz26.below hE
    replace hrnz26:=hrnz26.below hE
    replace ho31:=ho31.below hE
    replace hdp18:=hdp18.below hE
    replace hW:=ktr hW hE
    refine Zf (X0f (enc:=encSr) (l:=(l)) (l2:=([(⟨rz26.pos,Az26,ez26,rz26.old,Bz26,fz26,rz26.new⟩ : Sr)])) (B0:=w0.heap.size) rfl rfl X17 X1w X19 X1t ho18 (Rd.of_blk hB50 rfl _ hB50.lt) (by simp only [maxLen];simp;omega) (by simp;omega) hW.size) ?_;rintro _ w26 ⟨A52,c52,rfl,ho52,hg,hat⟩
    have hown:Own _ w0.heap.size 62 3 encSr _ _ (l):=ho18
    have haw52_29:=hat _ hB29.lt haw18_29
    have haw52_50:=hat _ hB50.lt haw18_50
    clear hat
    have hdp52:=DeepR.snoc (l:=l) (x:=(⟨rz26.pos,Az26,ez26,rz26.old,Bz26,fz26,rz26.new⟩ : Sr)) hdp18.top hroz26.top hrnz26.top
    replace hBV:=hBV.appT hown hg rfl
    replace hB6:=hB6.appT hown hg rfl
    replace hB15:=hB15.appT hown hg rfl
    replace hB29:=hB29.appA hg haw18_29
    replace hB33:=hB33.appT hown hg rfl
    replace hr_code:=hr_code.appB hown hg (Nat.le_refl _)
    replace hraz14:=hraz14.appT hown hg rfl
    replace hr19:=hr19.appT hown hg rfl
    replace hroz26:=hroz26.appT hown hg rfl
    replace hrnz26:=hrnz26.appT hown hg rfl
    replace ho31:=ho31.appT hown hg rfl
    replace hdp52:=hdp52.appT hown hg rfl
    replace hW:=Kept.app hW hown hg (Nat.le_refl _) hW.size
    clear hown hg
    refine Ze (Vd rfl X0y 2) ?_
    refine Zo (Vu (vs:=[.slice A52 (l++([(⟨rz26.pos,Az26,ez26,rz26.old,Bz26,fz26,rz26.new⟩ : Sr)])).length c52]) (l':=[vi ((canC cz13).1.n),.slice Az14 ((canC cz13).1.gs).length ez14,.slice A52 (l++([(⟨rz26.pos,Az26,ez26,rz26.old,Bz26,fz26,rz26.new⟩ : Sr)])).length c52,vi n1,.slice A19 gs.length c19]) rfl rfl Xb3 hB15) ?_;rintro _ w27 ⟨ho,hb⟩
    have hold:=hB15
    replace hBV:=hBV.only ho (Blk.ne hBV hold rfl)
    replace hB6:=hB6.only ho (by omega)
    replace hB29:=hB29.only ho (Blk.ne hB29 hold rfl)
    replace hB33:=hB33.only ho (Blk.ne hB33 hold rfl)
    replace hr_code:=hr_code.only ho hlo15
    replace hraz14:=hraz14.onlyT ho hold rfl
    replace hr19:=hr19.onlyT ho hold rfl
    replace hroz26:=hroz26.onlyT ho hold rfl
    replace hrnz26:=hrnz26.onlyT ho hold rfl
    replace ho31:=ho31.onlyT ho hold rfl
    replace ho52:=ho52.onlyT ho hold rfl
    replace hdp52:=hdp52.onlyT ho hold rfl
    replace hW:=Kept.only hW ho hlo15
    clear hold
    have hB15:=hb
    clear hb ho
    refine Zt hK49 fun a hf=>?_
    refine Zr hf ?_
    refine Ze (Vn X0c hB33)<|Ze (Vd rfl X1l 3) ?_
    refine Zo (Vu (vs:=[vi (((applyS (⟨n1,gs⟩ : Cx) rz26).getD cZ).n),.slice A31 (((applyS (⟨n1,gs⟩ : Cx) rz26).getD cZ).gs).length c31]) (l':=[vi ((canC cz13).1.n),.slice Az14 ((canC cz13).1.gs).length ez14,.slice A52 (l++([(⟨rz26.pos,Az26,ez26,rz26.old,Bz26,fz26,rz26.new⟩ : Sr)])).length c52,vi (((applyS (⟨n1,gs⟩ : Cx) rz26).getD cZ).n),.slice A31 (((applyS (⟨n1,gs⟩ : Cx) rz26).getD cZ).gs).length c31]) rfl rfl X1h hB15) ?_;rintro _ w28 ⟨ho,hb⟩
    have hold:=hB15
    replace hBV:=hBV.only ho (Blk.ne hBV hold rfl)
    replace hB6:=hB6.only ho (by omega)
    replace hB33:=hB33.only ho (Blk.ne hB33 hold rfl)
    replace hr_code:=hr_code.only ho hlo15
    replace hraz14:=hraz14.onlyT ho hold rfl
    replace hr19:=hr19.onlyT ho hold rfl
    replace ho31:=ho31.onlyT ho hold rfl
    replace ho52:=ho52.onlyT ho hold rfl
    replace hdp52:=hdp52.onlyT ho hold rfl
    replace hW:=Kept.only hW ho hlo15
    clear hold
    have hB15:=hb
    clear hb ho
    refine Zn fun a hf=>?_
    refine Xf ?_
    refine hK23 _ _ ?_
    refine Zr hf ?_
    refine Zm rfl<|Ze (X1d rfl rfl (by omega) (by omega))<|Za rfl ?_
    refine Zn fun a hf=>?_
    refine Xn ?_
    exact ⟨(j-1,l++([(⟨rz26.pos,Az26,ez26,rz26.old,Bz26,fz26,rz26.new⟩ : Sr)]),((applyS (⟨n1,gs⟩ : Cx) rz26).getD cZ).n,((applyS (⟨n1,gs⟩ : Cx) rz26).getD cZ).gs,tz47,sz47),⟨A52,c52,A31,c31,hf.sub ⟨rfl,rfl,rfl,rfl,trivial⟩,(by dsimp only at hal;simp;omega),(by first|exact hn1|exact hal.2),(by first|exact hsm|exact X55 hsm hPz26),(by omega),hBV,hB6,hB15,hr_code,hraz14,ho52,ho31.rd,hcbz14,hdp52.top,ho31.cap,hW⟩,(by first|omega|(dsimp only;omega))⟩
   have hc48b:=hc48
   refine wp_skip ?_
   refine Xf ?_
   refine hK23 _ _ ?_
   refine Zr hf ?_
   refine Zm rfl<|Ze (X1d rfl rfl (by omega) (by omega))<|Za rfl ?_
   refine Zn fun a hf=>?_
   refine Xn ?_
   exact ⟨(j-1,l,n1,gs,tz47,sz47),⟨A18,c18,A19,c19,hf.sub ⟨rfl,rfl,rfl,rfl,trivial⟩,(by dsimp only at hal;simp;omega),(by first|exact hn1|exact hal.2),(by first|exact hsm|exact X55 hsm hPz26),(by omega),hBV,hB6,hB15,hr_code,hraz14,ho18,hr19.top,hcbz14,hdp18.top,hcp19,hW⟩,(by first|omega|(dsimp only;omega))⟩
  refine Zp ⟨_,_,rfl,rfl,hg36⟩ ?_
  refine Zp ⟨_,_,rfl,rfl,hg36⟩ ?_
  refine Zp ⟨_,_,rfl,rfl,trivial⟩ ?_
  refine Zp ⟨_,_,rfl,rfl,hg36⟩ ?_
  refine Zp ⟨_,_,rfl,rfl,hg36⟩ ?_
  refine Zp ⟨_,_,rfl,rfl,trivial⟩ ?_
  refine Zp ⟨_,_,rfl,rfl,trivial⟩ ?_
  refine Zp ⟨_,_,rfl,rfl,hg36⟩ ?_
  refine Ze (X7 rfl hg36 rfl) ?_
  refine Zt hK35 fun a hf=>?_
  refine X50 hf rfl ?_
  refine wp_skip ?_
  refine Xf ?_
  refine hK23 _ _ ?_
  refine Zr hf ?_
  refine Zm rfl<|Ze (X1d rfl rfl (by omega) (by omega))<|Za rfl ?_
  refine Zn fun a hf=>?_
  refine Xn ?_
  exact ⟨(j-1,l,n1,gs,tz26,sz26),⟨A18,c18,A19,c19,hf.sub ⟨rfl,rfl,rfl,rfl,trivial⟩,(by dsimp only at hal;simp;omega),(by first|exact hn1|exact hal.2),(by first|exact hsm|exact X55 hsm hPz26),(by omega),hBV,hB6,hB15,hr_code,hraz14,ho18,hr19.top,hcbz14,hdp18.top,hcp19,hW⟩,(by first|omega|(dsimp only;omega))⟩
 have hc22b:=hc22
 have hc22:=of_decide_eq_false hc22
 refine wp_exit ?_
 refine Xs ?_
 refine Xs ?_
 refine X0h ?_
 refine hK16 _ _ ?_
 refine Zs hf fun _ hK53=>?_
 refine Ze (Vn X0l hB15) ?_
 refine Zo (Vw [vi ((canC cz13).1.n),.slice Az14 ((canC cz13).1.gs).length ez14,.slice A18 l.length c18,vi n1,.slice A19 gs.length c19] X13 hB6) ?_;rintro _ w29 ⟨ho,hb⟩
 have hold:=hB6
 replace hBV:=hBV.only ho (Blk.ne hBV hold rfl)
 replace hB15:=hB15.only ho (by omega)
 replace hr_code:=hr_code.only ho hlo6
 replace hraz14:=hraz14.onlyT ho hold rfl
 replace ho18:=ho18.onlyT ho hold rfl
 replace hr19:=hr19.onlyT ho hold rfl
 replace hdp18:=hdp18.onlyT ho hold rfl
 replace hW:=Kept.only hW ho hlo6
 clear hold
 have hB6:=hb
 clear hb ho
 refine Zt hK53 fun a hf=>?_
 refine wp_ret (X2 hf (Xo hf rfl (ResV.cellN (l:=[vi ((canC cz13).1.n),.slice Az14 ((canC cz13).1.gs).length ez14,.slice A18 l.length c18,vi n1,.slice A19 gs.length c19]) rfl X0l (hB6.at 0) rfl)) ?_)
 exact ⟨⟨(canC cz13).1.n,(canC cz13).1.gs⟩,l,⟨n1,gs⟩,_,_,_,_,_,_,_,_,rfl,⟨(by show (canC cz13).1.gs.length≤500;omega),(by omega),(by show gs.length≤500;omega),hn1,hsm⟩,⟨by omega,by omega⟩,⟨hcbz14,hcp19⟩,hraz14.top,hr19.top,ho18,(hdp18.top),hW,hBV⟩
end Go.Proofs.YtlfjcmldfbfdbaaGreat
set_option maxRecDepth 4000
namespace Go.Proofs.YtlfjcmldfbfdbaaGreat
open Go.RowKit
theorem X7p(w0:World)(c:Cx)(Ac:Option Addr)(cc:Nat)(hr_c:Rd w0 w0.heap.size 24 encG Ac c.gs)(hln:c.gs.length≤100000000) : Ret Tryz.prog 88 [.agg #[vi c.n,.slice Ac c.gs.length cc]] w0 (fun v w=>∃ A e,v=.agg #[vi c.n,.slice A c.gs.length e]∧Own w w0.heap.size 24 3 encG A e c.gs∧Below w0.heap.size w0 w):=by
 refine enter Tryz.func88 rfl 10 rfl rfl ?_
 intro a hf
 have hW:Below w0.heap.size w0 w0:=Below.refl _ _
 refine Zs hf fun _ hK2=>?_
 refine Zf (X0p (zs:=[vi c.n,.slice Ac c.gs.length cc]) rfl rfl) ?_;rintro _ w1 ⟨b3,rfl,hl3,hE,hB3⟩
 have hlo3:=Nat.le_trans hW.size hl3
 replace hW:=btr hW hE
 refine Zf (Xa (zs:=[vi 0,.slice none 0 0]) X37 rfl) ?_;rintro _ w2 ⟨b5,rfl,hl5,hE,hB5⟩
 have hne3_5:b3≠b5:=by have:=hB3.lt;omega
 have hlo5:=Nat.le_trans hW.size hl5
 replace hB3:=hB3.below hE
 replace hW:=btr hW hE
 refine Zt hK2 fun a hf=>?_
 refine wp_seq_k fun _ hK6=>?_
 refine X09 (fun a w=>∃ A9 c9,Fr a 10 [(2,.pointer (some ⟨b5,0,none⟩))]∧Own w w0.heap.size 24 3 encG A9 c9 c.gs∧Blk w b3 31 [vi c.n,.slice Ac c.gs.length cc]∧Blk w b5 31 [vi c.n,.slice A9 c.gs.length c9]∧Below w0.heap.size w0 w) ?_ ?_
 ·refine Xu none (fun j=>[5,7].contains j) mixed ?_
  intro w3 hE
  replace hB3:=hB3.below hE
  replace hB5:=hB5.below hE
  replace hW:=btr hW hE
  refine Yb hf ?_
  refine Yo 0 rfl (fun _=>Vd rfl X1b 0)<|Yo 3 rfl (fun _=>Vd rfl Xw 1)<|Ye 4 rfl (X0 rfl X06 (hB3.at 1)) ?_
  refine Y2 1 2 ?_ ?_
  ·refine Yz rfl trivial (Uev (X0 rfl X5 (hB3.at 0))) ?_
   refine Y1 2 ?_
   refine Yk rfl trivial (X4 (k:=0) (vs:=[]) (zs:=[]) rfl Xd Xe rfl rfl) (fun _ _ ⟨_,_,_,h,_⟩=>h) ?_;rintro _ w4 ⟨b7,rfl,hl7,hE,hB7⟩
   have hlo7:=Nat.le_trans hW.size hl7
   have haw1_7:=(hr_c.below' hW).away hl7
   replace hB3:=hB3.below hE
   replace hB5:=hB5.below hE
   replace hW:=btr hW hE
   refine Y1 5 ?_
   refine Yt rfl trivial rfl (X2e (enc:=encG) (l2:=(c.gs)) rfl rfl Xd Xe Xb Xp hB7 (hr_c.below' hW) (by simp only [maxLen];omega) (by omega)) ?_;rintro _ w5 ⟨A9,c9,rfl,ho9,hE⟩
   replace ho9:=ho9.lower hlo7
   replace hB3:=hB3.below hE
   replace hB5:=hB5.below hE
   replace hW:=btr hW hE
   refine Yo 6 rfl (fun _=>Xh (ps:=[(0,vi c.n),(1,.slice A9 c.gs.length c9)]) (cs:=[vi c.n,.slice A9 c.gs.length c9]) rfl (fun _=>by first|rfl|kernel_rfl)) ?_
   refine Y1 7 ?_
   refine Yh rfl trivial rfl (Vw [vi c.n,.slice A9 c.gs.length c9] X1h hB5) ?_;rintro _ w6 ⟨ho,hb⟩
   have hold:=hB5
   replace hB3:=hB3.only ho (by omega)
   replace ho9:=ho9.onlyT ho hold rfl
   replace hW:=Below.only hW ho hlo5
   clear hold
   have hB5:=hb
   clear hb ho
   refine Yd fun a hf=>?_
   exact ⟨A9,c9,hf.sub ⟨rfl,trivial⟩,ho9,hB3,hB5,hW⟩
  refine Yk rfl trivial (X4 (k:=0) (vs:=[]) (zs:=[]) rfl Xd Xe rfl rfl) (fun _ _ ⟨_,_,_,h,_⟩=>h) ?_;rintro _ w7 ⟨b11,rfl,hl11,hE,hB11⟩
  have hlo11:=Nat.le_trans hW.size hl11
  have haw1_11:=(hr_c.below' hW).away hl11
  replace hB3:=hB3.below hE
  replace hB5:=hB5.below hE
  replace hW:=btr hW hE
  refine Y2 1 5 ?_ ?_
  ·refine Yz rfl trivial (Uev (X0 rfl X5 (hB3.at 0))) ?_
   refine Y1 5 ?_
   refine Yt rfl trivial rfl (X2e (enc:=encG) (l2:=(c.gs)) rfl rfl Xd Xe Xb Xp hB11 (hr_c.below' hW) (by simp only [maxLen];omega) (by omega)) ?_;rintro _ w8 ⟨A13,c13,rfl,ho13,hE⟩
   replace ho13:=ho13.lower hlo11
   replace hB3:=hB3.below hE
   replace hB5:=hB5.below hE
   replace hW:=btr hW hE
   refine Yo 6 rfl (fun _=>Xh (ps:=[(0,vi c.n),(1,.slice A13 c.gs.length c13)]) (cs:=[vi c.n,.slice A13 c.gs.length c13]) rfl (fun _=>by first|rfl|kernel_rfl)) ?_
   refine Y1 7 ?_
   refine Yh rfl trivial rfl (Vw [vi c.n,.slice A13 c.gs.length c13] X1h hB5) ?_;rintro _ w9 ⟨ho,hb⟩
   have hold:=hB5
   replace hB3:=hB3.only ho (by omega)
   replace ho13:=ho13.onlyT ho hold rfl
   replace hW:=Below.only hW ho hlo5
   clear hold
   have hB5:=hb
   clear hb ho
   refine Yd fun a hf=>?_
   exact ⟨A13,c13,hf.sub ⟨rfl,trivial⟩,ho13,hB3,hB5,hW⟩
  refine Yt rfl trivial rfl (X2e (enc:=encG) (l2:=(c.gs)) rfl rfl Xd Xe Xb Xp hB11 (hr_c.below' hW) (by simp only [maxLen];omega) (by omega)) ?_;rintro _ w10 ⟨A15,c15,rfl,ho15,hE⟩
  replace ho15:=ho15.lower hlo11
  replace hB3:=hB3.below hE
  replace hB5:=hB5.below hE
  replace hW:=btr hW hE
  refine Y1 1 ?_
  refine Yz rfl trivial (Uev (X0 rfl X5 (hB3.at 0))) ?_
  refine Yo 6 rfl (fun _=>Xh (ps:=[(0,vi c.n),(1,.slice A15 c.gs.length c15)]) (cs:=[vi c.n,.slice A15 c.gs.length c15]) rfl (fun _=>by first|rfl|kernel_rfl)) ?_
  refine Y1 7 ?_
  refine Yh rfl trivial rfl (Vw [vi c.n,.slice A15 c.gs.length c15] X1h hB5) ?_;rintro _ w11 ⟨ho,hb⟩
  have hold:=hB5
  replace hB3:=hB3.only ho (by omega)
  replace ho15:=ho15.onlyT ho hold rfl
  replace hW:=Below.only hW ho hlo5
  clear hold
  have hB5:=hb
  clear hb ho
  refine Yd fun a hf=>?_
  exact ⟨A15,c15,hf.sub ⟨rfl,trivial⟩,ho15,hB3,hB5,hW⟩
 rintro a w12 ⟨A9,c9,hf,ho9,hB3,hB5,hW⟩
 refine hK6 _ _ ?_
 refine wp_ret (X2 hf (Xo hf rfl (ResV.cellN (l:=[vi c.n,.slice A9 c.gs.length c9]) rfl X0c (hB5.at 0) rfl)) ?_)
 exact ⟨A9,c9,rfl,ho9,hW⟩
end Go.Proofs.YtlfjcmldfbfdbaaGreat
set_option maxHeartbeats 1000000
set_option maxRecDepth 4000
namespace Go.Proofs.YtlfjcmldfbfdbaaGreat
open Go.RowKit
theorem X81(w0:World)(Al:Option Addr)(cl:Nat)(l:List Sr)(hr_l:Rd w0 w0.heap.size 62 encSr Al l)(hd_l:DeepR w0 w0.heap.size 24 l)(hln:l.length≤100000)(hll:∀ s ∈ l,s.old.length≤100000∧s.new.length≤100000) : Ret Tryz.prog 89 [.slice Al l.length cl] w0 (fun v w=>∃ (m:List Sr) (A:Option Addr) (e:Nat),v=.slice A m.length e∧m.map Sr.rp=l.map Sr.rp∧Own w w0.heap.size 62 3 encSr A e m∧DeepR w w.heap.size 24 m∧Below w0.heap.size w0 w):=by
 refine enter Tryz.func89 rfl 29 rfl rfl ?_
 intro a hf
 have hW:Below w0.heap.size w0 w0:=Below.refl _ _
 refine Zs hf fun _ hK2=>?_
 refine Za rfl ?_
 refine Zt hK2 fun a hf=>?_
 refine Zs hf fun _ hK4=>?_
 refine Zf (X4 (k:=0) (vs:=[]) (zs:=[]) rfl X17 X1w rfl rfl) ?_;rintro _ w1 ⟨b5,rfl,hl5,hE,hB5⟩
 have hlo5:=Nat.le_trans hW.size hl5
 have haw1_5:=(hr_l.below' hW).away hl5
 replace hd_l:=hd_l.below hE
 replace hW:=btr hW hE
 refine Za rfl ?_
 refine Zt hK4 fun a hf=>?_
 refine wp_seq_k fun _ hK7=>?_
 refine Zs hf fun _ hK8=>?_
 refine Zm rfl<|Ze (X0v rfl X17)<|Zm rfl ?_
 refine Zt hK8 fun a hf=>?_
 refine wp_block ?_
 refine X0j (σ:=Nat×(List Sr)) (fun (s:Nat×(List Sr)) (a:Act) (w:World)=>match s with|(k,m)=>∃ A9 c9,Fr a 29 [(3,.slice A9 m.length c9),(7,.slice Al l.length cl),(8,vi (l.length:Int)),(9,vi (k:Int))]∧(k≤l.length)∧(m.map Sr.rp=(l.map Sr.rp).take k)∧Own w w0.heap.size 62 3 encSr A9 c9 m∧DeepR w w.heap.size 24 m∧DeepR w w0.heap.size 24 l∧Below w0.heap.size w0 w) (fun (s:Nat×(List Sr))=>match s with|(k,m)=>l.length-k) (0,[]) ?_ ?_
 ·exact ⟨some ⟨b5,0,none⟩,0,hf.sub ⟨rfl,rfl,rfl,rfl,trivial⟩,(Nat.zero_le _),rfl,(Own.empty hB5 hlo5),(DeepR.nil _ _ _),hd_l,hW⟩
 rintro ⟨k,m⟩ a w2 ⟨A9,c9,hf,hk,hm,ho9,hdpm,hd_l,hW⟩
 have hml:m.length=k:=by have:=congrArg List.length hm;simp at this;omega
 refine Zs hf fun _ hK10=>?_
 refine Ze (X1k rfl rfl) ?_
 refine Zt hK10 fun a hf=>?_
 refine wp_seq_k fun _ hK11=>?_
 refine Xi hf rfl (fun hc12=>?_) (fun hc12=>?_)
 ·have hc12b:=hc12
  have hc12:=of_decide_eq_true hc12
  obtain ⟨u13,hu13⟩:=Xx (l:=l) (k:=k) (by omega)
  have hub:=hll _ (List.mem_of_getElem? hu13)
  refine wp_skip ?_
  refine hK11 _ _ ?_
  refine wp_seq_k fun _ hK14=>?_
  refine wp_block ?_
  refine Zs hf fun _ hK15=>?_
  refine Zi (k:=k) (u:=u13) (enc:=encSr) (l:=l) trivial rfl rfl X17 X23 X19 (hr_l.below' hW) hu13 rfl ?_;intro p17 hat16
  have hr18:=(hd_l u13 (List.mem_of_getElem? hu13)).1
  have hr19:=(hd_l u13 (List.mem_of_getElem? hu13)).2
  refine Ze (Xj (l:=[vi u13.pos,.slice u13.A u13.old.length u13.c,.slice u13.B u13.new.length u13.d]) rfl X1i hat16 rfl) ?_
  refine Zf (Xa (zs:=[vi 0,.slice none 0 0,.slice none 0 0]) Xa0 rfl) ?_;rintro _ w3 ⟨b22,rfl,hl22,hE,hB22⟩
  have hlo22:=Nat.le_trans hW.size hl22
  have haw9_22:=ho9.away hl22
  have haw1_22:=(hr_l.below' hW).away hl22
  replace ho9:=ho9.below hE
  replace hr18:=hr18.below hE
  replace hr19:=hr19.below hE
  replace hdpm:=hdpm.below hE
  replace hd_l:=hd_l.below hE
  replace hW:=btr hW hE
  refine Zo (Vw [vi u13.pos,.slice u13.A u13.old.length u13.c,.slice u13.B u13.new.length u13.d] X23 hB22) ?_;rintro _ w4 ⟨ho,hb⟩
  have hold:=hB22
  replace ho9:=ho9.onlyA ho haw9_22
  replace hr18:=hr18.onlyT ho hold rfl
  replace hr19:=hr19.onlyT ho hold rfl
  replace hdpm:=hdpm.onlyT ho hold rfl
  replace hd_l:=hd_l.only ho hlo22
  replace hW:=Below.only hW ho hlo22
  clear hold
  have hB22:=hb
  clear hb ho
  refine Zt hK15 fun a hf=>?_
  refine Xu none (fun j=>[13].contains j) mixed ?_
  intro w5 hE
  replace hB22:=hB22.below hE
  replace ho9:=ho9.below hE
  replace hr18:=hr18.below hE
  replace hr19:=hr19.below hE
  replace hdpm:=hdpm.below hE
  replace hd_l:=hd_l.below hE
  replace hW:=btr hW hE
  refine Yb hf ?_
  refine Yo 0 rfl (fun _=>X9 rfl)<|Yo 1 rfl (fun _=>Vd rfl X27 0)<|Ye 2 rfl (X0 rfl X5 (hB22.at 0))<|Yo 4 rfl (fun _=>Vd rfl X1s 1)<|Ye 5 rfl (X0 rfl X06 (hB22.at 1)) ?_
  refine Yo 8 rfl (fun _=>Vd rfl X1m 2)<|Ye 9 rfl (X0 rfl X06 (hB22.at 2)) ?_
  refine Y2 3 7 ?_ ?_
  ·refine Yk rfl trivial (X4 (k:=0) (vs:=[]) (zs:=[]) rfl Xd Xe rfl rfl) (fun _ _ ⟨_,_,_,h,_⟩=>h) ?_;rintro _ w6 ⟨b23,rfl,hl23,hE,hB23⟩
   have hlo23:=Nat.le_trans hW.size hl23
   have haw18_23:=hr18.away hl23
   have haw19_23:=hr19.away hl23
   replace hB22:=hB22.below hE
   replace ho9:=ho9.below hE
   replace hr18:=hr18.below hE
   replace hr19:=hr19.below hE
   replace hdpm:=hdpm.below hE
   replace hd_l:=hd_l.below hE
   replace hW:=btr hW hE
   refine Y2 6 7 ?_ ?_
   ·refine Yk rfl trivial (X10 (enc:=encG) (l2:=(u13.old)) rfl rfl Xd Xe Xb Xp hB23 hr18 (by simp only [maxLen];omega) (by omega)) (fun _ _ ⟨A25,c25,_,ho25,hE,hat⟩=>hE) ?_;rintro _ w7 ⟨A25,c25,rfl,ho25,hE,hat⟩
    clear hat
    replace ho25:=ho25.lower hlo23
    replace hB22:=hB22.below hE
    replace ho9:=ho9.below hE
    replace hr18:=hr18.below hE
    replace hr19:=hr19.below hE
    replace hdpm:=hdpm.below hE
    replace hd_l:=hd_l.below hE
    replace hW:=btr hW hE
    refine Y1 7 ?_
    refine Yk rfl trivial (X4 (k:=0) (vs:=[]) (zs:=[]) rfl Xd Xe rfl rfl) (fun _ _ ⟨_,_,_,h,_⟩=>h) ?_;rintro _ w8 ⟨b26,rfl,hl26,hE,hB26⟩
    have hlo26:=Nat.le_trans hW.size hl26
    have haw18_26:=hr18.away hl26
    have haw19_26:=hr19.away hl26
    have haw25_26:=ho25.away hl26
    replace hB22:=hB22.below hE
    replace ho9:=ho9.below hE
    replace hr18:=hr18.below hE
    replace hr19:=hr19.below hE
    replace ho25:=ho25.below hE
    replace hdpm:=hdpm.below hE
    replace hd_l:=hd_l.below hE
    replace hW:=btr hW hE
    refine Y1 10 ?_
    refine Yk rfl trivial (X10 (enc:=encG) (l2:=(u13.new)) rfl rfl Xd Xe Xb Xp hB26 hr19 (by simp only [maxLen];omega) (by omega)) (fun _ _ ⟨A28,c28,_,ho28,hE,hat⟩=>hE) ?_;rintro _ w9 ⟨A28,c28,rfl,ho28,hE,hat⟩
    have hap25_28:=Apart.new0 ho25 haw25_26 hat
    clear hat
    replace ho28:=ho28.lower hlo26
    replace hB22:=hB22.below hE
    replace ho9:=ho9.below hE
    replace hr18:=hr18.below hE
    replace hr19:=hr19.below hE
    replace ho25:=ho25.below hE
    replace hdpm:=hdpm.below hE
    replace hd_l:=hd_l.below hE
    replace hW:=btr hW hE
    refine Yo 11 rfl (fun _=>Xh (ps:=[(0,vi u13.pos),(1,.slice A25 u13.old.length c25),(2,.slice A28 u13.new.length c28)]) (cs:=[vi u13.pos,.slice A25 u13.old.length c25,.slice A28 u13.new.length c28]) rfl (fun _=>by first|rfl|kernel_rfl)) ?_
    refine Y1 12 ?_
    refine Yk rfl trivial (X4 (k:=1) (vs:=[.agg #[vi u13.pos,.slice A25 u13.old.length c25,.slice A28 u13.new.length c28]]) (zs:=[vi u13.pos,.slice A25 u13.old.length c25,.slice A28 u13.new.length c28]) rfl X17 X1w rfl rfl) (fun _ _ ⟨_,_,_,h,_⟩=>h) ?_;rintro _ w10 ⟨b31,rfl,hl31,hE,hB31⟩
    have hne22_31:b22≠b31:=by have:=hB22.lt;omega
    have hlo31:=Nat.le_trans hW.size hl31
    have haw9_31:=ho9.away hl31
    have haw1_31:=(hr_l.below' hW).away hl31
    replace hB22:=hB22.below hE
    replace ho9:=ho9.below hE
    replace hr18:=hr18.below hE
    replace hr19:=hr19.below hE
    replace ho25:=ho25.below hE
    replace ho28:=ho28.below hE
    replace hdpm:=hdpm.below hE
    replace hd_l:=hd_l.below hE
    replace hW:=btr hW hE
    refine Y1 13 ?_
    refine Yt rfl trivial rfl (X0f (enc:=encSr) (l:=(m)) (l2:=([(⟨u13.pos,A25,c25,u13.old,A28,c28,u13.new⟩ : Sr)])) (B0:=w0.heap.size) rfl rfl X17 X1w X19 X1t ho9 (Rd.of_blk hB31 rfl _ hB31.lt) (by simp only [maxLen];simp;omega) (by simp;omega) hW.size) ?_;rintro _ w11 ⟨A33,c33,rfl,ho33,hg,hat⟩
    have hown:Own _ w0.heap.size 62 3 encSr _ _ (m):=ho9
    have haw33_22:=hat _ hB22.lt haw9_22
    have haw33_31:=hat _ hB31.lt haw9_31
    clear hat
    have hdp33:=DeepR.snoc (l:=m) (x:=(⟨u13.pos,A25,c25,u13.old,A28,c28,u13.new⟩ : Sr)) hdpm.top ho25.rd.top ho28.rd.top
    replace hB22:=hB22.appA hg haw9_22
    replace hr18:=hr18.appT hown hg rfl
    replace hr19:=hr19.appT hown hg rfl
    replace ho25:=ho25.appT hown hg rfl
    replace ho28:=ho28.appT hown hg rfl
    replace hd_l:=hd_l.appB hown hg (Nat.le_refl _)
    replace hdp33:=hdp33.appT hown hg rfl
    replace hW:=Below.app hW hown hg (Nat.le_refl _) hW.size
    clear hown hg
    refine Yo 14 rfl (fun _=>X0x rfl) ?_
    refine Yd fun a hf=>?_
    refine Xf ?_
    refine hK14 _ _ ?_
    refine Zr hf ?_
    refine Ze (Xv rfl rfl (by omega) (by omega))<|Zm rfl ?_
    refine Zn fun a hf=>?_
    refine Xn ?_
    exact ⟨(k+1,m++([(⟨u13.pos,A25,c25,u13.old,A28,c28,u13.new⟩ : Sr)])),⟨A33,c33,hf.sub ⟨rfl,rfl,rfl,rfl,trivial⟩,(by omega),(Xab hm hu13 rfl),ho33,hdp33.top,hd_l,hW⟩,(by first|omega|(dsimp only;omega))⟩
   refine Yk rfl trivial (X4 (k:=0) (vs:=[]) (zs:=[]) rfl Xd Xe rfl rfl) (fun _ _ ⟨_,_,_,h,_⟩=>h) ?_;rintro _ w12 ⟨b34,rfl,hl34,hE,hB34⟩
   have hne23_34:b23≠b34:=by have:=hB23.lt;omega
   have hlo34:=Nat.le_trans hW.size hl34
   have haw18_34:=hr18.away hl34
   have haw19_34:=hr19.away hl34
   replace hB22:=hB22.below hE
   replace hB23:=hB23.below hE
   replace ho9:=ho9.below hE
   replace hr18:=hr18.below hE
   replace hr19:=hr19.below hE
   replace hdpm:=hdpm.below hE
   replace hd_l:=hd_l.below hE
   replace hW:=btr hW hE
   refine Y1 6 ?_
   refine Yk rfl trivial (X10 (enc:=encG) (l2:=(u13.old)) rfl rfl Xd Xe Xb Xp hB23 hr18 (by simp only [maxLen];omega) (by omega)) (fun _ _ ⟨A36,c36,_,ho36,hE,hat⟩=>hE) ?_;rintro _ w13 ⟨A36,c36,rfl,ho36,hE,hat⟩
   have haw36_34:=hat _ hB34.lt (Ne.symm hne23_34)
   clear hat
   replace ho36:=ho36.lower hlo23
   replace hB22:=hB22.below hE
   replace hB34:=hB34.below hE
   replace ho9:=ho9.below hE
   replace hr18:=hr18.below hE
   replace hr19:=hr19.below hE
   replace hdpm:=hdpm.below hE
   replace hd_l:=hd_l.below hE
   replace hW:=btr hW hE
   refine Y1 10 ?_
   refine Yk rfl trivial (X10 (enc:=encG) (l2:=(u13.new)) rfl rfl Xd Xe Xb Xp hB34 hr19 (by simp only [maxLen];omega) (by omega)) (fun _ _ ⟨A37,c37,_,ho37,hE,hat⟩=>hE) ?_;rintro _ w14 ⟨A37,c37,rfl,ho37,hE,hat⟩
   have hap36_37:=Apart.new0 ho36 haw36_34 hat
   clear hat
   replace ho37:=ho37.lower hlo34
   replace hB22:=hB22.below hE
   replace ho9:=ho9.below hE
   replace hr18:=hr18.below hE
   replace hr19:=hr19.below hE
   replace ho36:=ho36.below hE
   replace hdpm:=hdpm.below hE
   replace hd_l:=hd_l.below hE
   replace hW:=btr hW hE
   refine Yo 11 rfl (fun _=>Xh (ps:=[(0,vi u13.pos),(1,.slice A36 u13.old.length c36),(2,.slice A37 u13.new.length c37)]) (cs:=[vi u13.pos,.slice A36 u13.old.length c36,.slice A37 u13.new.length c37]) rfl (fun _=>by first|rfl|kernel_rfl)) ?_
   refine Y1 12 ?_
   refine Yk rfl trivial (X4 (k:=1) (vs:=[.agg #[vi u13.pos,.slice A36 u13.old.length c36,.slice A37 u13.new.length c37]]) (zs:=[vi u13.pos,.slice A36 u13.old.length c36,.slice A37 u13.new.length c37]) rfl X17 X1w rfl rfl) (fun _ _ ⟨_,_,_,h,_⟩=>h) ?_;rintro _ w15 ⟨b40,rfl,hl40,hE,hB40⟩
   have hne22_40:b22≠b40:=by have:=hB22.lt;omega
   have hlo40:=Nat.le_trans hW.size hl40
   have haw9_40:=ho9.away hl40
   have haw1_40:=(hr_l.below' hW).away hl40
   replace hB22:=hB22.below hE
   replace ho9:=ho9.below hE
   replace hr18:=hr18.below hE
   replace hr19:=hr19.below hE
   replace ho36:=ho36.below hE
   replace ho37:=ho37.below hE
   replace hdpm:=hdpm.below hE
   replace hd_l:=hd_l.below hE
   replace hW:=btr hW hE
   refine Y1 13 ?_
   refine Yt rfl trivial rfl (X0f (enc:=encSr) (l:=(m)) (l2:=([(⟨u13.pos,A36,c36,u13.old,A37,c37,u13.new⟩ : Sr)])) (B0:=w0.heap.size) rfl rfl X17 X1w X19 X1t ho9 (Rd.of_blk hB40 rfl _ hB40.lt) (by simp only [maxLen];simp;omega) (by simp;omega) hW.size) ?_;rintro _ w16 ⟨A42,c42,rfl,ho42,hg,hat⟩
   have hown:Own _ w0.heap.size 62 3 encSr _ _ (m):=ho9
   have haw42_22:=hat _ hB22.lt haw9_22
   have haw42_40:=hat _ hB40.lt haw9_40
   clear hat
   have hdp42:=DeepR.snoc (l:=m) (x:=(⟨u13.pos,A36,c36,u13.old,A37,c37,u13.new⟩ : Sr)) hdpm.top ho36.rd.top ho37.rd.top
   replace hB22:=hB22.appA hg haw9_22
   replace hr18:=hr18.appT hown hg rfl
   replace hr19:=hr19.appT hown hg rfl
   replace ho36:=ho36.appT hown hg rfl
   replace ho37:=ho37.appT hown hg rfl
   replace hd_l:=hd_l.appB hown hg (Nat.le_refl _)
   replace hdp42:=hdp42.appT hown hg rfl
   replace hW:=Below.app hW hown hg (Nat.le_refl _) hW.size
   clear hown hg
   refine Yo 14 rfl (fun _=>X0x rfl) ?_
   refine Yd fun a hf=>?_
   refine Xf ?_
   refine hK14 _ _ ?_
   refine Zr hf ?_
   refine Ze (Xv rfl rfl (by omega) (by omega))<|Zm rfl ?_
   refine Zn fun a hf=>?_
   refine Xn ?_
   exact ⟨(k+1,m++([(⟨u13.pos,A36,c36,u13.old,A37,c37,u13.new⟩ : Sr)])),⟨A42,c42,hf.sub ⟨rfl,rfl,rfl,rfl,trivial⟩,(by omega),(Xab hm hu13 rfl),ho42,hdp42.top,hd_l,hW⟩,(by first|omega|(dsimp only;omega))⟩
  refine Yk rfl trivial (X4 (k:=0) (vs:=[]) (zs:=[]) rfl Xd Xe rfl rfl) (fun _ _ ⟨_,_,_,h,_⟩=>h) ?_;rintro _ w17 ⟨b43,rfl,hl43,hE,hB43⟩
  have hlo43:=Nat.le_trans hW.size hl43
  have haw18_43:=hr18.away hl43
  have haw19_43:=hr19.away hl43
  replace hB22:=hB22.below hE
  replace ho9:=ho9.below hE
  replace hr18:=hr18.below hE
  replace hr19:=hr19.below hE
  replace hdpm:=hdpm.below hE
  replace hd_l:=hd_l.below hE
  replace hW:=btr hW hE
  refine Y1 3 ?_
  refine Yk rfl trivial (X4 (k:=0) (vs:=[]) (zs:=[]) rfl Xd Xe rfl rfl) (fun _ _ ⟨_,_,_,h,_⟩=>h) ?_;rintro _ w18 ⟨b45,rfl,hl45,hE,hB45⟩
  have hne43_45:b43≠b45:=by have:=hB43.lt;omega
  have hlo45:=Nat.le_trans hW.size hl45
  have haw18_45:=hr18.away hl45
  have haw19_45:=hr19.away hl45
  replace hB22:=hB22.below hE
  replace hB43:=hB43.below hE
  replace ho9:=ho9.below hE
  replace hr18:=hr18.below hE
  replace hr19:=hr19.below hE
  replace hdpm:=hdpm.below hE
  replace hd_l:=hd_l.below hE
  replace hW:=btr hW hE
  refine Y1 6 ?_
  refine Yk rfl trivial (X10 (enc:=encG) (l2:=(u13.old)) rfl rfl Xd Xe Xb Xp hB45 hr18 (by simp only [maxLen];omega) (by omega)) (fun _ _ ⟨A47,c47,_,ho47,hE,hat⟩=>hE) ?_;rintro _ w19 ⟨A47,c47,rfl,ho47,hE,hat⟩
  have haw47_43:=hat _ hB43.lt hne43_45
  clear hat
  replace ho47:=ho47.lower hlo45
  replace hB22:=hB22.below hE
  replace hB43:=hB43.below hE
  replace ho9:=ho9.below hE
  replace hr18:=hr18.below hE
  replace hr19:=hr19.below hE
  replace hdpm:=hdpm.below hE
  replace hd_l:=hd_l.below hE
  replace hW:=btr hW hE
  refine Y1 10 ?_
  refine Yk rfl trivial (X10 (enc:=encG) (l2:=(u13.new)) rfl rfl Xd Xe Xb Xp hB43 hr19 (by simp only [maxLen];omega) (by omega)) (fun _ _ ⟨A48,c48,_,ho48,hE,hat⟩=>hE) ?_;rintro _ w20 ⟨A48,c48,rfl,ho48,hE,hat⟩
  have hap47_48:=Apart.new0 ho47 haw47_43 hat
  clear hat
  replace ho48:=ho48.lower hlo43
  replace hB22:=hB22.below hE
  replace ho9:=ho9.below hE
  replace hr18:=hr18.below hE
  replace hr19:=hr19.below hE
  replace ho47:=ho47.below hE
  replace hdpm:=hdpm.below hE
  replace hd_l:=hd_l.below hE
  replace hW:=btr hW hE
  refine Yo 11 rfl (fun _=>Xh (ps:=[(0,vi u13.pos),(1,.slice A47 u13.old.length c47),(2,.slice A48 u13.new.length c48)]) (cs:=[vi u13.pos,.slice A47 u13.old.length c47,.slice A48 u13.new.length c48]) rfl (fun _=>by first|rfl|kernel_rfl)) ?_
  refine Y1 12 ?_
  refine Yk rfl trivial (X4 (k:=1) (vs:=[.agg #[vi u13.pos,.slice A47 u13.old.length c47,.slice A48 u13.new.length c48]]) (zs:=[vi u13.pos,.slice A47 u13.old.length c47,.slice A48 u13.new.length c48]) rfl X17 X1w rfl rfl) (fun _ _ ⟨_,_,_,h,_⟩=>h) ?_;rintro _ w21 ⟨b51,rfl,hl51,hE,hB51⟩
  have hne22_51:b22≠b51:=by have:=hB22.lt;omega
  have hlo51:=Nat.le_trans hW.size hl51
  have haw9_51:=ho9.away hl51
  have haw1_51:=(hr_l.below' hW).away hl51
  replace hB22:=hB22.below hE
  replace ho9:=ho9.below hE
  replace hr18:=hr18.below hE
  replace hr19:=hr19.below hE
  replace ho47:=ho47.below hE
  replace ho48:=ho48.below hE
  replace hdpm:=hdpm.below hE
  replace hd_l:=hd_l.below hE
  replace hW:=btr hW hE
  refine Y1 13 ?_
  refine Yt rfl trivial rfl (X0f (enc:=encSr) (l:=(m)) (l2:=([(⟨u13.pos,A47,c47,u13.old,A48,c48,u13.new⟩ : Sr)])) (B0:=w0.heap.size) rfl rfl X17 X1w X19 X1t ho9 (Rd.of_blk hB51 rfl _ hB51.lt) (by simp only [maxLen];simp;omega) (by simp;omega) hW.size) ?_;rintro _ w22 ⟨A53,c53,rfl,ho53,hg,hat⟩
  have hown:Own _ w0.heap.size 62 3 encSr _ _ (m):=ho9
  have haw53_22:=hat _ hB22.lt haw9_22
  have haw53_51:=hat _ hB51.lt haw9_51
  clear hat
  have hdp53:=DeepR.snoc (l:=m) (x:=(⟨u13.pos,A47,c47,u13.old,A48,c48,u13.new⟩ : Sr)) hdpm.top ho47.rd.top ho48.rd.top
  replace hB22:=hB22.appA hg haw9_22
  replace hr18:=hr18.appT hown hg rfl
  replace hr19:=hr19.appT hown hg rfl
  replace ho47:=ho47.appT hown hg rfl
  replace ho48:=ho48.appT hown hg rfl
  replace hd_l:=hd_l.appB hown hg (Nat.le_refl _)
  replace hdp53:=hdp53.appT hown hg rfl
  replace hW:=Below.app hW hown hg (Nat.le_refl _) hW.size
  clear hown hg
  refine Yo 14 rfl (fun _=>X0x rfl) ?_
  refine Yd fun a hf=>?_
  refine Xf ?_
  refine hK14 _ _ ?_
  refine Zr hf ?_
  refine Ze (Xv rfl rfl (by omega) (by omega))<|Zm rfl ?_
  refine Zn fun a hf=>?_
  refine Xn ?_
  exact ⟨(k+1,m++([(⟨u13.pos,A47,c47,u13.old,A48,c48,u13.new⟩ : Sr)])),⟨A53,c53,hf.sub ⟨rfl,rfl,rfl,rfl,trivial⟩,(by omega),(Xab hm hu13 rfl),ho53,hdp53.top,hd_l,hW⟩,(by first|omega|(dsimp only;omega))⟩
 have hc12b:=hc12
 have hc12:=of_decide_eq_false hc12
 refine wp_exit ?_
 refine Xs ?_
 refine Xs ?_
 refine X0h ?_
 refine hK7 _ _ ?_
 refine Zs hf fun _ hK54=>?_
 refine Zm rfl<|Za rfl ?_
 refine Zt hK54 fun a hf=>?_
 refine wp_ret (X2 hf (Xo hf rfl rfl) ?_)
 exact ⟨m,_,_,rfl,(by rw [hm,List.take_of_length_le (by simp;omega)]),ho9,(hdpm.top),hW⟩
end Go.Proofs.YtlfjcmldfbfdbaaGreat
namespace Go.Proofs.YtlfjcmldfbfdbaaGreat
open Go.RowKit
theorem DeepR.drop{w:World}{B:Nat}{E:TypeId}{l:List Sr}(h:DeepR w B E l)(k:Nat) : DeepR w B E (l.drop k):=fun s hs=>h s (List.mem_of_mem_drop hs)
theorem DeepR.cat{w:World}{B:Nat}{E:TypeId}{l m:List Sr}(h:DeepR w B E l)(h2:DeepR w B E m) : DeepR w B E (l++m):=fun s hs=>(List.mem_append.1 hs).elim (h s) (h2 s)
section
variable {P : Program} {a : Act} {w : World} {n : Nat} {e : Env} {ty : TypeId} {pos : String} {af : Array Edge} {g : Option (Nat × Bool)} {d : Option Tmp}
variable {t t' : TypeId} {x y : Operand} {i j k : Int}
theorem Xi0(hf:Fr a n e)(hx:ev e x=some (.int .i64 i))(hy:ev e y=some (.int .i64 j))(hk:i+j=k)(h1:-9223372036854775808≤k)(h2:k≤9223372036854775807) : Ev P ⟨d,.binOp .add t x y t',ty,pos,af,g⟩ a w (.int .i64 k):=by
 subst hk
 exact Xd2 hf hx hy h1 h2
theorem Xmi(hx:ev e x=some (.int .i64 i))(hy:ev e y=some (.int .i64 j))(hk:i+j=k)(h1:-9223372036854775808≤k)(h2:k≤9223372036854775807) : EvW P ⟨d,.binOp .add t x y t',ty,pos,af,g⟩ n e w (.int .i64 k):=fun a hf=>Xi0 hf hx hy hk h1 h2
end
theorem X41{l:List Sr}{x:Sr}{k:Nat}(h:∀ s ∈ l,s.old.length≤41∧s.new.length≤41)(hx:x.old.length≤41∧x.new.length≤41) : ∀ s ∈ l.set k x,s.old.length≤41∧s.new.length≤41:=fun s hs=>by
 rcases List.mem_or_eq_of_mem_set hs with hs|hs
 ·exact h s hs
 ·rw [hs];exact hx
theorem X2x{l:List Sr}{k:Nat}(h:∀ s ∈ l,s.old.length≤41∧s.new.length≤41) : ∀ s ∈ l.drop k,s.old.length≤41∧s.new.length≤41:=fun s hs=>h s (List.mem_of_mem_drop hs)
theorem X3x{m:Nat} : ∀ s ∈ List.replicate m srZ,s.old.length≤41∧s.new.length≤41:=fun s hs=>by
 rw [(List.mem_replicate.1 hs).2];decide
theorem X9a{l a b:List Sr}(h:l.map Sr.rp=a.map Sr.rp++b.map Sr.rp)(ha:∀ s ∈ a,s.old.length≤41∧s.new.length≤41)(hb:∀ s ∈ b,s.old.length≤41∧s.new.length≤41) : ∀ s ∈ l,s.old.length≤1048576∧s.new.length≤1048576:=fun s hs=>by
 have h1:s.rp ∈ a.map Sr.rp++b.map Sr.rp:=by rw [← h];exact List.mem_map_of_mem hs
 rcases List.mem_append.1 h1 with h2|h2
 ·obtain ⟨x,hx,e⟩:=List.mem_map.1 h2
  have:=ha x hx
  simp only [Sr.rp,Rp.mk.injEq] at e
  rw [← e.2.1,← e.2.2];omega
 ·obtain ⟨x,hx,e⟩:=List.mem_map.1 h2
  have:=hb x hx
  simp only [Sr.rp,Rp.mk.injEq] at e
  rw [← e.2.1,← e.2.2];omega
theorem Xcr{a d b e:Cx}{l l2:List Sr}(hok:(eqC d b&&decide ((l.length:Int)+(l2.length:Int)≤400))=true)
  (h:(((((checkS a d (l.map Sr.rp)).2&&(checkS b e (l2.map Sr.rp)).2)&&((checkS a d (l.map Sr.rp)).1==0))&&((checkS b e (l2.map Sr.rp)).1==0))&&((!(checkI a e (l.map Sr.rp++l2.map Sr.rp)).2)||((checkI a e (l.map Sr.rp++l2.map Sr.rp)).1 != 0)))=true) : False:=by
 simp only [Bool.and_eq_true,beq_iff_eq,decide_eq_true_eq] at h hok
 obtain ⟨⟨⟨⟨h1,h2⟩,h3⟩,h4⟩,h5⟩:=h
 have k1:checkS a d (l.map Sr.rp)=(0,true):=by rw [← h1,← h3]
 have k2:checkS b e (l2.map Sr.rp)=(0,true):=by rw [← h2,← h4]
 rw [Xba k1 k2 hok.1 (by simp only [List.length_map];omega)] at h5
 simp at h5
end Go.Proofs.YtlfjcmldfbfdbaaGreat
set_option maxHeartbeats 1000000
set_option maxRecDepth 4000
namespace Go.Proofs.YtlfjcmldfbfdbaaGreat
open Go.RowKit
theorem Xis(w0:World)(bV:Nat){Xcd:TypeId}(Acd:Option Addr)(ccd:Nat)(code:List Int)(hr_code:Rd w0 w0.heap.size Xcd encU Acd code)(hcd:∀ x ∈ code,0≤x∧x≤255)(hav:AwayR code Acd bV)(t:Nat)(sd:Int)(hBV:Blk w0 bV 80 [.slice Acd code.length ccd,vi (t:Int),.int .u64 sd])(ht:t+214≤100000000) : Ret Tryz.prog 80 [.pointer (some ⟨bV,0,none⟩)] w0 (fun v w=>∃ (c:Cx) (l:List Sr) (d:Cx) (A:Option Addr) (e:Nat) (B:Option Addr) (f:Nat) (D:Option Addr) (g:Nat) (t1:Nat) (s1:Int),v=.agg #[vi c.n,.slice A c.gs.length e,.slice B l.length f,vi d.n,.slice D d.gs.length g]∧(c.gs.length≤1000∧l.length≤1000∧d.gs.length≤1000∧(True)∧∀ s ∈ l,s.old.length≤41∧s.new.length≤41)∧(t≤t1∧t1≤t+214)∧(c.gs.length≤e∧d.gs.length≤g)∧Rd w w.heap.size 24 encG A c.gs∧Rd w w.heap.size 24 encG D d.gs∧Rd w w.heap.size 62 encSr B l∧DeepR w w.heap.size 24 l∧Kept bV w0.heap.size w0 w∧Blk w bV 80 [.slice Acd code.length ccd,vi (t1:Int),.int .u64 s1]):=by
 have hltV:=hBV.lt
 refine enter Tryz.func80 rfl 68 rfl rfl ?_
 intro a hf
 have hW:Kept bV w0.heap.size w0 w0:=Kept.refl _ _ _
 refine Zs hf fun _ hK2=>?_
 refine Zf (Xa (zs:=[vi 0,.slice none 0 0,.slice none 0 0,vi 0,.slice none 0 0]) X3g rfl) ?_;rintro _ w1 ⟨b6,rfl,hl6,hE,hB6⟩
 have hlo6:=Nat.le_trans hW.size hl6
 have haw1_6:=hr_code.away hl6
 replace hBV:=hBV.below hE
 replace hr_code:=hr_code.below hE
 replace hW:=ktr hW hE
 refine Zt hK2 fun a hf=>?_
 refine Zs hf fun _ hK7=>?_
 refine Zm rfl ?_
 refine Zf (Vc (Xfc _ bV Acd ccd code hr_code.top hcd hav t sd hBV (by omega)) Xa5) ?_;rintro _ w2 ⟨cz5,lz5,dz5,Az5,ez5,Bz5,fz5,Dz5,gz5,tz5,sz5,rfl,hPz5,htz5,⟨hcbz5,hcdz5⟩,hraz5,hrdz5,hoz5,hdpz5,hK,hbn⟩
 have hlv:=hW.size
 obtain ⟨wm,hO,hm,hE⟩:=hK.mid;clear hm
 have hold:=hBV
 replace hB6:=hB6.only hO (Blk.ne hB6 hold rfl)
 replace hr_code:=hr_code.onlyA hO hav
 replace hW:=hW.self hO
 replace hB6:=hB6.below hE
 replace hr_code:=hr_code.below hE
 replace hW:=ktr hW hE
 clear hold hE hO hK;replace hBV:=hbn;clear hbn
 replace hoz5:=hoz5.lower hlv;clear hlv
 obtain ⟨hc5,hl5,hd5,hn5,hs5⟩:=hPz5
 refine Zf (Xa (zs:=[vi 0,.slice none 0 0,.slice none 0 0,vi 0,.slice none 0 0]) X3g rfl) ?_;rintro _ w3 ⟨b14,rfl,hl14,hE,hB14⟩
 have hne6_14:b6≠b14:=by have:=hB6.lt;omega
 have hlo14:=Nat.le_trans hW.size hl14
 have haw1_14:=hr_code.away hl14
 replace hBV:=hBV.below hE
 replace hB6:=hB6.below hE
 replace hr_code:=hr_code.below hE
 replace hraz5:=hraz5.below hE
 replace hoz5:=hoz5.below hE
 replace hrdz5:=hrdz5.below hE
 replace hdpz5:=hdpz5.below hE
 replace hW:=ktr hW hE
 refine Zo (Vw [vi cz5.n,.slice Az5 cz5.gs.length ez5,.slice Bz5 lz5.length fz5,vi dz5.n,.slice Dz5 dz5.gs.length gz5] X13 hB14) ?_;rintro _ w4 ⟨ho,hb⟩
 have hold:=hB14
 replace hBV:=hBV.only ho (Blk.ne hBV hold rfl)
 replace hB6:=hB6.only ho (by omega)
 replace hr_code:=hr_code.only ho hlo14
 replace hraz5:=hraz5.onlyT ho hold rfl
 replace hoz5:=hoz5.onlyT ho hold rfl
 replace hrdz5:=hrdz5.onlyT ho hold rfl
 replace hdpz5:=hdpz5.onlyT ho hold rfl
 replace hW:=Kept.only hW ho hlo14
 clear hold
 have hB14:=hb
 clear hb ho
 refine Zt hK7 fun a hf=>?_
 refine wp_seq_k fun _ hK15=>?_
 refine Zs hf fun _ hK16=>?_
 refine Zm rfl ?_
 refine Zf (Vc (X24 _ bV Acd ccd code hr_code.top hcd hav tz5 sz5 hBV 14 (by omega)) X1f) ?_;rintro _ w5 ⟨xz7,tz7,sz7,rfl,hPz7,htz7,hK,hbn⟩
 obtain ⟨wm,hO,hm,hE⟩:=hK.mid;clear hm
 have hold:=hBV
 replace hB6:=hB6.only hO (Blk.ne hB6 hold rfl)
 replace hB14:=hB14.only hO (Blk.ne hB14 hold rfl)
 replace hr_code:=hr_code.onlyA hO hav
 replace hraz5:=hraz5.onlyT hO hold rfl
 replace hoz5:=hoz5.onlyT hO hold rfl
 replace hrdz5:=hrdz5.onlyT hO hold rfl
 replace hdpz5:=hdpz5.onlyT hO hold rfl
 replace hW:=hW.self hO
 replace hB6:=hB6.below hE
 replace hB14:=hB14.below hE
 replace hr_code:=hr_code.below hE
 replace hraz5:=hraz5.below hE
 replace hoz5:=hoz5.below hE
 replace hrdz5:=hrdz5.below hE
 replace hdpz5:=hdpz5.below hE
 replace hW:=ktr hW hE
 clear hold hE hO hK;replace hBV:=hbn;clear hbn
 refine Zt hK16 fun a hf=>?_
 refine wp_block ?_
 refine Zs hf fun _ hK17=>?_
 refine Ze (X0u rfl rfl)<|Za rfl ?_
 refine Zt hK17 fun a hf=>?_
 refine Xi hf rfl (fun hc18=>?_) (fun hc18=>?_)
 ·have hc18b:=hc18
  refine Zr hf ?_
  replace hraz5:=hraz5.top
  replace hdpz5:=hdpz5.top
  replace hrdz5:=hrdz5.top
  refine Zf (X4 (k:=0) (vs:=[]) (zs:=[]) rfl Xd Xe rfl rfl) ?_;rintro _ w6 ⟨b19,rfl,hl19,hE,hB19⟩
  have hlo19:=Nat.le_trans hW.size hl19
  have haw1_19:=hr_code.away hl19
  have haw8_19:=hraz5.away hl19
  have haw10_19:=hrdz5.away hl19
  replace hBV:=hBV.below hE
  replace hB6:=hB6.below hE
  replace hB14:=hB14.below hE
  replace hr_code:=hr_code.below hE
  replace hraz5:=hraz5.below hE
  replace hoz5:=hoz5.below hE
  replace hrdz5:=hrdz5.below hE
  replace hdpz5:=hdpz5.below hE
  replace hW:=ktr hW hE
  refine Ze (Vd rfl X1l 3)<|Ze (Vd rfl Xw 4)<|Ze (X0 rfl X06 (hB14.at 4)) ?_
  refine Zf (X2e (enc:=encG) (l2:=(dz5.gs)) rfl rfl Xd Xe Xb Xp hB19 hrdz5 (by simp only [maxLen];omega) (by omega)) ?_;rintro _ w7 ⟨A21,c21,rfl,ho21,hE⟩
  have hz21:=hB19.lt
  have hy21:=hE.size
  replace hBV:=hBV.below hE
  replace hB6:=hB6.below hE
  replace hB14:=hB14.below hE
  replace hr_code:=hr_code.below hE
  replace hraz5:=hraz5.below hE
  replace hoz5:=hoz5.below hE
  replace hrdz5:=hrdz5.below hE
  replace hdpz5:=hdpz5.below hE
  replace hW:=ktr hW hE
  refine Ze (Xh (ps:=[(0,vi 1)]) (cs:=[vi 1,vi 0,vi 0]) rfl (fun _=>by first|rfl|kernel_rfl)) ?_
  refine Zf (X4 (k:=1) (vs:=[.agg #[vi 1,vi 0,vi 0]]) (zs:=[vi 1,vi 0,vi 0]) rfl Xd Xe rfl rfl) ?_;rintro _ w8 ⟨b22,rfl,hl22,hE,hB22⟩
  have hlo22:=Nat.le_trans hW.size hl22
  have haw1_22:=hr_code.away hl22
  have haw8_22:=hraz5.away hl22
  have haw10_22:=hrdz5.away hl22
  have haw21_22:=ho21.away hl22
  replace hBV:=hBV.below hE
  replace hB6:=hB6.below hE
  replace hB14:=hB14.below hE
  replace hr_code:=hr_code.below hE
  replace hraz5:=hraz5.below hE
  replace hoz5:=hoz5.below hE
  replace hrdz5:=hrdz5.below hE
  replace ho21:=ho21.below hE
  replace hdpz5:=hdpz5.below hE
  replace hW:=ktr hW hE
  refine Zf (X0f (enc:=encG) (l:=(dz5.gs)) (l2:=([(⟨1,0,0⟩ : Gt)])) (B0:=b19) rfl rfl Xd Xe Xb Xp ho21 (Rd.of_blk hB22 rfl _ hB22.lt) (by simp only [maxLen];simp;omega) (by simp;omega) (by have:=hB22.lt;omega)) ?_;rintro _ w9 ⟨A24,c24,rfl,ho24,hg,hat⟩
  have hown:Own _ b19 24 3 encG _ _ (dz5.gs):=ho21
  have haw24_22:=hat _ hB22.lt haw21_22
  clear hat
  replace hBV:=hBV.appT hown hg rfl
  replace hB6:=hB6.appT hown hg rfl
  replace hB14:=hB14.appT hown hg rfl
  replace hr_code:=hr_code.appB hown hg hlo19
  replace hraz5:=hraz5.appB hown hg hl19
  replace hoz5:=hoz5.appT hown hg rfl
  replace hrdz5:=hrdz5.appB hown hg hl19
  replace hdpz5:=hdpz5.appB hown hg hl19
  replace hW:=Kept.app hW hown hg hlo19 hW.size
  clear hown hg
  refine Ze (Vd rfl X1l 3)<|Ze (Vd rfl Xw 4) ?_
  refine Zo (Vu (vs:=[.slice A24 (dz5.gs++([(⟨1,0,0⟩ : Gt)])).length c24]) (l':=[vi cz5.n,.slice Az5 cz5.gs.length ez5,.slice Bz5 lz5.length fz5,vi dz5.n,.slice A24 (dz5.gs++([(⟨1,0,0⟩ : Gt)])).length c24]) rfl rfl X2i hB14) ?_;rintro _ w10 ⟨ho,hb⟩
  have hold:=hB14
  replace hBV:=hBV.only ho (Blk.ne hBV hold rfl)
  replace hB6:=hB6.only ho (by omega)
  replace hr_code:=hr_code.only ho hlo14
  replace hraz5:=hraz5.onlyT ho hold rfl
  replace hoz5:=hoz5.onlyT ho hold rfl
  replace hrdz5:=hrdz5.onlyT ho hold rfl
  replace ho24:=ho24.onlyT ho hold rfl
  replace hdpz5:=hdpz5.onlyT ho hold rfl
  replace hW:=Kept.only hW ho hlo14
  clear hold
  have hB14:=hb
  clear hb ho
  refine Zn fun a hf=>?_
  refine Xf ?_
  refine hK15 _ _ ?_
  refine Zs hf fun _ hK25=>?_
  refine Ze (Vn X0l hB14) ?_
  refine Zo (Vw [vi cz5.n,.slice Az5 cz5.gs.length ez5,.slice Bz5 lz5.length fz5,vi dz5.n,.slice A24 (dz5.gs++([(⟨1,0,0⟩ : Gt)])).length c24] X13 hB6) ?_;rintro _ w11 ⟨ho,hb⟩
  have hold:=hB6
  replace hBV:=hBV.only ho (Blk.ne hBV hold rfl)
  replace hB14:=hB14.only ho (by omega)
  replace hraz5:=hraz5.onlyT ho hold rfl
  replace hoz5:=hoz5.onlyT ho hold rfl
  replace ho24:=ho24.onlyT ho hold rfl
  replace hdpz5:=hdpz5.onlyT ho hold rfl
  replace hW:=Kept.only hW ho hlo6
  clear hold
  have hB6:=hb
  clear hb ho
  refine Zt hK25 fun a hf=>?_
  refine wp_ret (X2 hf (Xo hf rfl (ResV.cellN (l:=[vi cz5.n,.slice Az5 cz5.gs.length ez5,.slice Bz5 lz5.length fz5,vi dz5.n,.slice A24 (dz5.gs++([(⟨1,0,0⟩ : Gt)])).length c24]) rfl X0l (hB6.at 0) rfl)) ?_)
  exact ⟨⟨cz5.n,cz5.gs⟩,lz5,⟨dz5.n,dz5.gs++([(⟨1,0,0⟩ : Gt)])⟩,Az5,ez5,Bz5,fz5,A24,c24,_,_,(by first|rfl|(simp;done)),⟨(by first|omega|(dsimp only;omega)|(simp;omega)|(dsimp only;simp;omega)),(by first|omega|(dsimp only;omega)|(simp;omega)|(dsimp only;simp;omega)),(by first|omega|(dsimp only;omega)|(simp;omega)|(dsimp only;simp;omega)),trivial,(by first|exact hs5|exact X2x hs5|exact X41 hs5 (x:=⟨_,v9.A,v9.c,v9.old,v9.B,v9.d,v9.new⟩) (hs5 v9 (List.mem_of_getElem? hv9))|exact X3x)⟩,⟨by omega,by omega⟩,⟨hcbz5,ho24.cap⟩,hraz5.top,ho24.rd.top,hoz5.rd.top,(hdpz5.top),hW,hBV⟩
 have hc18b:=hc18
 refine Zs hf fun _ hK26=>?_
 refine Ze (X0u rfl rfl)<|Za rfl ?_
 refine Zt hK26 fun a hf=>?_
 refine Xi hf rfl (fun hc27=>?_) (fun hc27=>?_)
 ·have hc27b:=hc27
  refine Zr hf ?_
  refine Zm rfl ?_
  refine Zf (Vc (Xmp _ bV Acd ccd code hr_code.top hcd hav tz7 sz7 hBV (by omega)) Xhf) ?_;rintro _ w12 ⟨cz23,Az23,ez23,tz23,sz23,rfl,hPz23,htz23,hoz23,hK,hbn⟩
  have hlv:=hW.size
  obtain ⟨wm,hO,hm,hE⟩:=hK.mid;clear hm
  have hold:=hBV
  replace hB6:=hB6.only hO (Blk.ne hB6 hold rfl)
  replace hB14:=hB14.only hO (Blk.ne hB14 hold rfl)
  replace hr_code:=hr_code.onlyA hO hav
  replace hraz5:=hraz5.onlyT hO hold rfl
  replace hoz5:=hoz5.onlyT hO hold rfl
  replace hrdz5:=hrdz5.onlyT hO hold rfl
  replace hdpz5:=hdpz5.onlyT hO hold rfl
  replace hW:=hW.self hO
  replace hB6:=hB6.below hE
  replace hB14:=hB14.below hE
  replace hr_code:=hr_code.below hE
  replace hraz5:=hraz5.below hE
  replace hoz5:=hoz5.below hE
  replace hrdz5:=hrdz5.below hE
  replace hdpz5:=hdpz5.below hE
  replace hW:=ktr hW hE
  clear hold hE hO hK;replace hBV:=hbn;clear hbn
  replace hoz23:=hoz23.lower hlv;clear hlv
  refine Ze (Vd rfl X21 0) ?_
  refine Zo (Vu (vs:=[vi cz23.n,.slice Az23 cz23.gs.length ez23]) (l':=[vi cz23.n,.slice Az23 cz23.gs.length ez23,.slice Bz5 lz5.length fz5,vi dz5.n,.slice Dz5 dz5.gs.length gz5]) rfl rfl X1h hB14) ?_;rintro _ w13 ⟨ho,hb⟩
  have hold:=hB14
  replace hBV:=hBV.only ho (Blk.ne hBV hold rfl)
  replace hB6:=hB6.only ho (by omega)
  replace hr_code:=hr_code.only ho hlo14
  replace hraz5:=hraz5.onlyT ho hold rfl
  replace hoz5:=hoz5.onlyT ho hold rfl
  replace hrdz5:=hrdz5.onlyT ho hold rfl
  replace hoz23:=hoz23.onlyT ho hold rfl
  replace hdpz5:=hdpz5.onlyT ho hold rfl
  replace hW:=Kept.only hW ho hlo14
  clear hold
  have hB14:=hb
  clear hb ho
  refine Zn fun a hf=>?_
  refine Xf ?_
  refine hK15 _ _ ?_
  refine Zs hf fun _ hK29=>?_
  refine Ze (Vn X0l hB14) ?_
  refine Zo (Vw [vi cz23.n,.slice Az23 cz23.gs.length ez23,.slice Bz5 lz5.length fz5,vi dz5.n,.slice Dz5 dz5.gs.length gz5] X13 hB6) ?_;rintro _ w14 ⟨ho,hb⟩
  have hold:=hB6
  replace hBV:=hBV.only ho (Blk.ne hBV hold rfl)
  replace hB14:=hB14.only ho (by omega)
  replace hoz5:=hoz5.onlyT ho hold rfl
  replace hrdz5:=hrdz5.onlyT ho hold rfl
  replace hoz23:=hoz23.onlyT ho hold rfl
  replace hdpz5:=hdpz5.onlyT ho hold rfl
  replace hW:=Kept.only hW ho hlo6
  clear hold
  have hB6:=hb
  clear hb ho
  refine Zt hK29 fun a hf=>?_
  refine wp_ret (X2 hf (Xo hf rfl (ResV.cellN (l:=[vi cz23.n,.slice Az23 cz23.gs.length ez23,.slice Bz5 lz5.length fz5,vi dz5.n,.slice Dz5 dz5.gs.length gz5]) rfl X0l (hB6.at 0) rfl)) ?_)
  exact ⟨⟨cz23.n,cz23.gs⟩,lz5,⟨dz5.n,dz5.gs⟩,Az23,ez23,Bz5,fz5,Dz5,gz5,_,_,(by first|rfl|(simp;done)),⟨(by first|omega|(dsimp only;omega)|(simp;omega)|(dsimp only;simp;omega)),(by first|omega|(dsimp only;omega)|(simp;omega)|(dsimp only;simp;omega)),(by first|omega|(dsimp only;omega)|(simp;omega)|(dsimp only;simp;omega)),trivial,(by first|exact hs5|exact X2x hs5|exact X41 hs5 (x:=⟨_,v9.A,v9.c,v9.old,v9.B,v9.d,v9.new⟩) (hs5 v9 (List.mem_of_getElem? hv9))|exact X3x)⟩,⟨by omega,by omega⟩,⟨hoz23.cap,hcdz5⟩,hoz23.rd.top,hrdz5.top,hoz5.rd.top,(hdpz5.top),hW,hBV⟩
 have hc27b:=hc27
 refine Zs hf fun _ hK30=>?_
 refine Ze (X0u rfl rfl)<|Za rfl ?_
 refine Zt hK30 fun a hf=>?_
 refine Xi hf rfl (fun hc31=>?_) (fun hc31=>?_)
 ·have hc31b:=hc31
  refine Zs hf fun _ hK32=>?_
  refine Ze (Vd rfl X0y 2)<|Ze (X0 rfl X1z (hB14.at 2))<|Ze (X0v rfl X17)<|Ze (X3d rfl rfl) ?_
  refine Zt hK32 fun a hf=>?_
  refine Xi hf rfl (fun hc33=>?_) (fun hc33=>?_)
  ·have hc33b:=hc33
   have hc33:=of_decide_eq_true hc33
   refine Zr hf ?_
   refine Ze (Vd rfl X0y 2)<|Ze (X0 rfl X1z (hB14.at 2)) ?_
   have hr34:=(hoz5.rd.top).dropK X19 (c:=fz5) hoz5.cap 1
   have hdp34:=DeepR.drop (hdpz5.top) 1
   refine Ze (X6c (l:=lz5) (k:=1) rfl rfl X17 X23 rfl (by omega))<|Ze (Vd rfl X0y 2) ?_
   refine Zo (Vu (vs:=[.slice (if fz5=1 then Bz5 else Bz5.map (·.add (1*3))) (lz5.drop 1).length (fz5-1)]) (l':=[vi cz5.n,.slice Az5 cz5.gs.length ez5,.slice (if fz5=1 then Bz5 else Bz5.map (·.add (1*3))) (lz5.drop 1).length (fz5-1),vi dz5.n,.slice Dz5 dz5.gs.length gz5]) rfl rfl Xb3 hB14) ?_;rintro _ w15 ⟨ho,hb⟩
   have hold:=hB14
   replace hBV:=hBV.only ho (Blk.ne hBV hold rfl)
   replace hB6:=hB6.only ho (by omega)
   replace hraz5:=hraz5.onlyT ho hold rfl
   replace hoz5:=hoz5.onlyT ho hold rfl
   replace hrdz5:=hrdz5.onlyT ho hold rfl
   replace hr34:=hr34.onlyT ho hold rfl
   replace hdpz5:=hdpz5.onlyT ho hold rfl
   replace hdp34:=hdp34.onlyT ho hold rfl
   replace hW:=Kept.only hW ho hlo14
   clear hold
   have hB14:=hb
   clear hb ho
   refine Zn fun a hf=>?_
   refine Xf ?_
   refine hK15 _ _ ?_
   refine Zs hf fun _ hK35=>?_
   refine Ze (Vn X0l hB14) ?_
   refine Zo (Vw [vi cz5.n,.slice Az5 cz5.gs.length ez5,.slice (if fz5=1 then Bz5 else Bz5.map (·.add (1*3))) (lz5.drop 1).length (fz5-1),vi dz5.n,.slice Dz5 dz5.gs.length gz5] X13 hB6) ?_;rintro _ w16 ⟨ho,hb⟩
   have hold:=hB6
   replace hBV:=hBV.only ho (Blk.ne hBV hold rfl)
   replace hB14:=hB14.only ho (by omega)
   replace hraz5:=hraz5.onlyT ho hold rfl
   replace hrdz5:=hrdz5.onlyT ho hold rfl
   replace hr34:=hr34.onlyT ho hold rfl
   replace hdp34:=hdp34.onlyT ho hold rfl
   replace hW:=Kept.only hW ho hlo6
   clear hold
   have hB6:=hb
   clear hb ho
   refine Zt hK35 fun a hf=>?_
   refine wp_ret (X2 hf (Xo hf rfl (ResV.cellN (l:=[vi cz5.n,.slice Az5 cz5.gs.length ez5,.slice (if fz5=1 then Bz5 else Bz5.map (·.add (1*3))) (lz5.drop 1).length (fz5-1),vi dz5.n,.slice Dz5 dz5.gs.length gz5]) rfl X0l (hB6.at 0) rfl)) ?_)
   exact ⟨⟨cz5.n,cz5.gs⟩,(lz5.drop 1),⟨dz5.n,dz5.gs⟩,Az5,ez5,(if fz5=1 then Bz5 else Bz5.map (·.add (1*3))),(fz5-1),Dz5,gz5,_,_,(by first|rfl|(simp;done)),⟨(by first|omega|(dsimp only;omega)|(simp;omega)|(dsimp only;simp;omega)),(by first|omega|(dsimp only;omega)|(simp;omega)|(dsimp only;simp;omega)),(by first|omega|(dsimp only;omega)|(simp;omega)|(dsimp only;simp;omega)),trivial,(by first|exact hs5|exact X2x hs5|exact X41 hs5 (x:=⟨_,v9.A,v9.c,v9.old,v9.B,v9.d,v9.new⟩) (hs5 v9 (List.mem_of_getElem? hv9))|exact X3x)⟩,⟨by omega,by omega⟩,⟨hcbz5,hcdz5⟩,hraz5.top,hrdz5.top,hr34.top,(hdp34.top),hW,hBV⟩
  have hc33b:=hc33
  have hc33:=of_decide_eq_false hc33
  refine wp_skip ?_
  refine Xf ?_
  refine hK15 _ _ ?_
  refine Zs hf fun _ hK36=>?_
  refine Ze (Vn X0l hB14) ?_
  refine Zo (Vw [vi cz5.n,.slice Az5 cz5.gs.length ez5,.slice Bz5 lz5.length fz5,vi dz5.n,.slice Dz5 dz5.gs.length gz5] X13 hB6) ?_;rintro _ w17 ⟨ho,hb⟩
  have hold:=hB6
  replace hBV:=hBV.only ho (Blk.ne hBV hold rfl)
  replace hB14:=hB14.only ho (by omega)
  replace hraz5:=hraz5.onlyT ho hold rfl
  replace hoz5:=hoz5.onlyT ho hold rfl
  replace hrdz5:=hrdz5.onlyT ho hold rfl
  replace hdpz5:=hdpz5.onlyT ho hold rfl
  replace hW:=Kept.only hW ho hlo6
  clear hold
  have hB6:=hb
  clear hb ho
  refine Zt hK36 fun a hf=>?_
  refine wp_ret (X2 hf (Xo hf rfl (ResV.cellN (l:=[vi cz5.n,.slice Az5 cz5.gs.length ez5,.slice Bz5 lz5.length fz5,vi dz5.n,.slice Dz5 dz5.gs.length gz5]) rfl X0l (hB6.at 0) rfl)) ?_)
  exact ⟨⟨cz5.n,cz5.gs⟩,lz5,⟨dz5.n,dz5.gs⟩,Az5,ez5,Bz5,fz5,Dz5,gz5,_,_,(by first|rfl|(simp;done)),⟨(by first|omega|(dsimp only;omega)|(simp;omega)|(dsimp only;simp;omega)),(by first|omega|(dsimp only;omega)|(simp;omega)|(dsimp only;simp;omega)),(by first|omega|(dsimp only;omega)|(simp;omega)|(dsimp only;simp;omega)),trivial,(by first|exact hs5|exact X2x hs5|exact X41 hs5 (x:=⟨_,v9.A,v9.c,v9.old,v9.B,v9.d,v9.new⟩) (hs5 v9 (List.mem_of_getElem? hv9))|exact X3x)⟩,⟨by omega,by omega⟩,⟨hcbz5,hcdz5⟩,hraz5.top,hrdz5.top,hoz5.rd.top,(hdpz5.top),hW,hBV⟩
 have hc31b:=hc31
 refine Zs hf fun _ hK37=>?_
 refine Ze (X0u rfl rfl)<|Za rfl ?_
 refine Zt hK37 fun a hf=>?_
 refine Xi hf rfl (fun hc38=>?_) (fun hc38=>?_)
 ·have hc38b:=hc38
  refine Zs hf fun _ hK39=>?_
  refine Ze (Vd rfl X0y 2)<|Ze (X0 rfl X1z (hB14.at 2))<|Ze (X0v rfl X17)<|Ze (X3d rfl rfl) ?_
  refine Zt hK39 fun a hf=>?_
  refine Xi hf rfl (fun hc40=>?_) (fun hc40=>?_)
  ·have hc40b:=hc40
   have hc40:=of_decide_eq_true hc40
   refine Xu (some bV) (fun j=>[13].contains j) mixed ?_
   intro w18 hE
   replace hBV:=hBV.below hE
   replace hB6:=hB6.below hE
   replace hB14:=hB14.below hE
   replace hr_code:=hr_code.below hE
   replace hraz5:=hraz5.below hE
   replace hoz5:=hoz5.below hE
   replace hrdz5:=hrdz5.below hE
   replace hdpz5:=hdpz5.below hE
   replace hW:=ktr hW hE
   refine Yb hf ?_
   refine Yo 0 rfl (fun _=>Vd rfl X0y 2) ?_
   refine Yw 1 rfl trivial (fun w1 h1=>X0 rfl X1z ((hB14.only h1 (Blk.ne hB14 hBV rfl)).at 2)) ?_
   refine Yo 2 rfl (fun _=>X9 rfl)<|Yo 3 rfl (fun _=>Vd rfl X0y 2) ?_
   refine Yw 4 rfl trivial (fun w1 h1=>X0 rfl X1z ((hB14.only h1 (Blk.ne hB14 hBV rfl)).at 2)) ?_
   refine Yo 5 rfl (fun _=>X0v rfl X17) ?_
   refine Y1 6 ?_
   refine Yf rfl trivial (EfW.mono (Vc (X24 _ bV Acd ccd code hr_code.top hcd hav tz7 sz7 hBV (lz5.length:Int) (by omega)) X1f) (fun _ _ h=>⟨fun _=>by obtain ⟨xz47,tz47,sz47,rfl,hPz47,htz47,hK,hbn⟩:=h;exact hK.keep,h⟩)) ?_;rintro _ w19 ⟨xz47,tz47,sz47,rfl,hPz47,htz47,hK,hbn⟩
   obtain ⟨wm,hO,hm,hE⟩:=hK.mid;clear hm
   have hold:=hBV
   replace hB6:=hB6.only hO (Blk.ne hB6 hold rfl)
   replace hB14:=hB14.only hO (Blk.ne hB14 hold rfl)
   replace hr_code:=hr_code.onlyA hO hav
   replace hraz5:=hraz5.onlyT hO hold rfl
   replace hoz5:=hoz5.onlyT hO hold rfl
   replace hrdz5:=hrdz5.onlyT hO hold rfl
   replace hdpz5:=hdpz5.onlyT hO hold rfl
   replace hW:=hW.self hO
   replace hB6:=hB6.below hE
   replace hB14:=hB14.below hE
   replace hr_code:=hr_code.below hE
   replace hraz5:=hraz5.below hE
   replace hoz5:=hoz5.below hE
   replace hrdz5:=hrdz5.below hE
   replace hdpz5:=hdpz5.below hE
   replace hW:=ktr hW hE
   clear hold hE hO hK;replace hBV:=hbn;clear hbn
   obtain ⟨v9,hv9⟩:=Xx (l:=lz5) (k:=xz47.toNat) (by omega)
   refine Ya (k:=xz47.toNat) (u:=v9) (enc:=encSr) (l:=lz5) 7 rfl trivial hBV rfl rfl rfl X17 X23 X19 hoz5.rd hv9 (by omega) ?_;intro p42 hat41 hat41n
   refine Yo 8 rfl (fun _=>Xm5 rfl X27) ?_
   refine Yw 9 rfl trivial (fun w1 h1=>X0 rfl X5 ((hat41.only h1 hat41n).drop 0)) ?_
   refine Yo 10 rfl (fun _=>X25 rfl rfl)<|Yo 11 rfl (fun _=>X6o (k:=xz47.toNat) rfl rfl X17 X23 hoz5 rfl (by omega) (by omega))<|Yo 12 rfl (fun _=>Xe1 rfl X27 (m':=xz47.toNat*3+0) rfl) ?_
   refine Y1 13 ?_
   refine Yh rfl trivial rfl (X6k (enc:=encSr) (l:=lz5) (vs:=[vi (wr (v9.pos+1))]) (x0:=v9) (u:=(⟨wr (v9.pos+1),v9.A,v9.c,v9.old,v9.B,v9.d,v9.new⟩ : Sr)) (k:=xz47.toNat) (j:=0) (n1:=1) rfl rfl X2c hoz5 X19 rfl rfl rfl rfl (by decide) hv9 rfl) ?_;rintro _ w20 ⟨hnew,hg⟩
   have hown:=hoz5
   replace hBV:=hBV.appT hown hg rfl
   replace hB6:=hB6.appT hown hg rfl
   replace hB14:=hB14.appT hown hg rfl
   replace hr_code:=hr_code.appB hown hg (Nat.le_refl _)
   replace hraz5:=hraz5.appT hown hg rfl
   replace hrdz5:=hrdz5.appT hown hg rfl
   replace hW:=Kept.app hW hown hg (Nat.le_refl _) hW.size
   replace hdpz5:=hdpz5.appT hown hg rfl
   replace hdpz5:=DeepR.set (hdpz5.top) (x:=(⟨wr (v9.pos+1),v9.A,v9.c,v9.old,v9.B,v9.d,v9.new⟩ : Sr)) (hdpz5 _ (List.mem_of_getElem? hv9)).1.top (hdpz5 _ (List.mem_of_getElem? hv9)).2.top xz47.toNat
   clear hown hg;clear hoz5;have hoz5:=hnew;clear hnew
   refine Yd fun a hf=>?_
   refine Xf ?_
   refine hK15 _ _ ?_
   refine Zs hf fun _ hK43=>?_
   refine Ze (Vn X0l hB14) ?_
   refine Zo (Vw [vi cz5.n,.slice Az5 cz5.gs.length ez5,.slice Bz5 lz5.length fz5,vi dz5.n,.slice Dz5 dz5.gs.length gz5] X13 hB6) ?_;rintro _ w21 ⟨ho,hb⟩
   have hold:=hB6
   replace hBV:=hBV.only ho (Blk.ne hBV hold rfl)
   replace hB14:=hB14.only ho (by omega)
   replace hraz5:=hraz5.onlyT ho hold rfl
   replace hrdz5:=hrdz5.onlyT ho hold rfl
   replace hoz5:=hoz5.onlyT ho hold rfl
   replace hdpz5:=hdpz5.onlyT ho hold rfl
   replace hW:=Kept.only hW ho hlo6
   clear hold
   have hB6:=hb
   clear hb ho
   refine Zt hK43 fun a hf=>?_
   refine wp_ret (X2 hf (Xo hf rfl (ResV.cellN (l:=[vi cz5.n,.slice Az5 cz5.gs.length ez5,.slice Bz5 lz5.length fz5,vi dz5.n,.slice Dz5 dz5.gs.length gz5]) rfl X0l (hB6.at 0) rfl)) ?_)
   exact ⟨⟨cz5.n,cz5.gs⟩,(lz5.set xz47.toNat (⟨wr (v9.pos+1),v9.A,v9.c,v9.old,v9.B,v9.d,v9.new⟩ : Sr)),⟨dz5.n,dz5.gs⟩,Az5,ez5,Bz5,fz5,Dz5,gz5,_,_,(by first|rfl|(simp;done)),⟨(by first|omega|(dsimp only;omega)|(simp;omega)|(dsimp only;simp;omega)),(by first|omega|(dsimp only;omega)|(simp;omega)|(dsimp only;simp;omega)),(by first|omega|(dsimp only;omega)|(simp;omega)|(dsimp only;simp;omega)),trivial,(by first|exact hs5|exact X2x hs5|exact X41 hs5 (x:=⟨_,v9.A,v9.c,v9.old,v9.B,v9.d,v9.new⟩) (hs5 v9 (List.mem_of_getElem? hv9))|exact X3x)⟩,⟨by omega,by omega⟩,⟨hcbz5,hcdz5⟩,hraz5.top,hrdz5.top,hoz5.rd.top,(hdpz5.top),hW,hBV⟩
  have hc40b:=hc40
  have hc40:=of_decide_eq_false hc40
  refine wp_skip ?_
  refine Xf ?_
  refine hK15 _ _ ?_
  refine Zs hf fun _ hK44=>?_
  refine Ze (Vn X0l hB14) ?_
  refine Zo (Vw [vi cz5.n,.slice Az5 cz5.gs.length ez5,.slice Bz5 lz5.length fz5,vi dz5.n,.slice Dz5 dz5.gs.length gz5] X13 hB6) ?_;rintro _ w22 ⟨ho,hb⟩
  have hold:=hB6
  replace hBV:=hBV.only ho (Blk.ne hBV hold rfl)
  replace hB14:=hB14.only ho (by omega)
  replace hr_code:=hr_code.only ho hlo6
  replace hraz5:=hraz5.onlyT ho hold rfl
  replace hoz5:=hoz5.onlyT ho hold rfl
  replace hrdz5:=hrdz5.onlyT ho hold rfl
  replace hdpz5:=hdpz5.onlyT ho hold rfl
  replace hW:=Kept.only hW ho hlo6
  clear hold
  have hB6:=hb
  clear hb ho
  refine Zt hK44 fun a hf=>?_
  refine wp_ret (X2 hf (Xo hf rfl (ResV.cellN (l:=[vi cz5.n,.slice Az5 cz5.gs.length ez5,.slice Bz5 lz5.length fz5,vi dz5.n,.slice Dz5 dz5.gs.length gz5]) rfl X0l (hB6.at 0) rfl)) ?_)
  exact ⟨⟨cz5.n,cz5.gs⟩,lz5,⟨dz5.n,dz5.gs⟩,Az5,ez5,Bz5,fz5,Dz5,gz5,_,_,(by first|rfl|(simp;done)),⟨(by first|omega|(dsimp only;omega)|(simp;omega)|(dsimp only;simp;omega)),(by first|omega|(dsimp only;omega)|(simp;omega)|(dsimp only;simp;omega)),(by first|omega|(dsimp only;omega)|(simp;omega)|(dsimp only;simp;omega)),trivial,(by first|exact hs5|exact X2x hs5|exact X41 hs5 (x:=⟨_,v9.A,v9.c,v9.old,v9.B,v9.d,v9.new⟩) (hs5 v9 (List.mem_of_getElem? hv9))|exact X3x)⟩,⟨by omega,by omega⟩,⟨hcbz5,hcdz5⟩,hraz5.top,hrdz5.top,hoz5.rd.top,(hdpz5.top),hW,hBV⟩
 have hc38b:=hc38
 refine Zs hf fun _ hK45=>?_
 refine Ze (X0u rfl rfl)<|Za rfl ?_
 refine Zt hK45 fun a hf=>?_
 refine Xi hf rfl (fun hc46=>?_) (fun hc46=>?_)
 ·have hc46b:=hc46
  refine Zs hf fun _ hK47=>?_
  refine Zm rfl ?_
  refine Zf (Vc (Xf2 _ bV Acd ccd code hr_code.top hcd hav tz7 sz7 hBV 3 (by omega)) Xaa) ?_;rintro _ w23 ⟨xz57,tz57,sz57,rfl,hPz57,htz57,hK,hbn⟩
  obtain ⟨wm,hO,hm,hE⟩:=hK.mid;clear hm
  have hold:=hBV
  replace hB6:=hB6.only hO (Blk.ne hB6 hold rfl)
  replace hB14:=hB14.only hO (Blk.ne hB14 hold rfl)
  replace hr_code:=hr_code.onlyA hO hav
  replace hraz5:=hraz5.onlyT hO hold rfl
  replace hoz5:=hoz5.onlyT hO hold rfl
  replace hrdz5:=hrdz5.onlyT hO hold rfl
  replace hdpz5:=hdpz5.onlyT hO hold rfl
  replace hW:=hW.self hO
  replace hB6:=hB6.below hE
  replace hB14:=hB14.below hE
  replace hr_code:=hr_code.below hE
  replace hraz5:=hraz5.below hE
  replace hoz5:=hoz5.below hE
  replace hrdz5:=hrdz5.below hE
  replace hdpz5:=hdpz5.below hE
  replace hW:=ktr hW hE
  clear hold hE hO hK;replace hBV:=hbn;clear hbn
  refine Zt hK47 fun a hf=>?_
  refine Xi hf rfl (fun hc48=>?_) (fun hc48=>?_)
  ·have hc48b:=hc48
   refine Xu (some bV) (fun j=>[9].contains j) mixed ?_
   intro w24 hE
   replace hBV:=hBV.below hE
   replace hB6:=hB6.below hE
   replace hB14:=hB14.below hE
   replace hr_code:=hr_code.below hE
   replace hraz5:=hraz5.below hE
   replace hoz5:=hoz5.below hE
   replace hrdz5:=hrdz5.below hE
   replace hdpz5:=hdpz5.below hE
   replace hW:=ktr hW hE
   refine Yb hf ?_
   refine Yo 0 rfl (fun _=>Vd rfl X21 0) ?_
   refine Yw 1 rfl trivial (fun w1 h1=>Xj (l:=[vi cz5.n,.slice Az5 cz5.gs.length ez5]) rfl X0c (((hB14.only h1 (Blk.ne hB14 hBV rfl)).at 0).take 2) rfl) ?_
   refine Yo 2 rfl (fun _=>X9 rfl)<|Yo 6 rfl (fun _=>Vd rfl X21 0) ?_
   refine Yw 7 rfl trivial (fun w1 h1=>Xj (l:=[vi cz5.n,.slice Az5 cz5.gs.length ez5]) rfl X0c (((hB14.only h1 (Blk.ne hB14 hBV rfl)).at 0).take 2) rfl) ?_
   refine Y1 3 ?_
   refine Yf rfl trivial (EfW.mono (Vc (X24 _ bV Acd ccd code hr_code.top hcd hav tz57 sz57 hBV 2 (by omega)) X1f) (fun _ _ h=>⟨fun _=>by obtain ⟨xz61,tz61,sz61,rfl,hPz61,htz61,hK,hbn⟩:=h;exact hK.keep,h⟩)) ?_;rintro _ w25 ⟨xz61,tz61,sz61,rfl,hPz61,htz61,hK,hbn⟩
   obtain ⟨wm,hO,hm,hE⟩:=hK.mid;clear hm
   have hold:=hBV
   replace hB6:=hB6.only hO (Blk.ne hB6 hold rfl)
   replace hB14:=hB14.only hO (Blk.ne hB14 hold rfl)
   replace hr_code:=hr_code.onlyA hO hav
   replace hraz5:=hraz5.onlyT hO hold rfl
   replace hoz5:=hoz5.onlyT hO hold rfl
   replace hrdz5:=hrdz5.onlyT hO hold rfl
   replace hdpz5:=hdpz5.onlyT hO hold rfl
   replace hW:=hW.self hO
   replace hB6:=hB6.below hE
   replace hB14:=hB14.below hE
   replace hr_code:=hr_code.below hE
   replace hraz5:=hraz5.below hE
   replace hoz5:=hoz5.below hE
   replace hrdz5:=hrdz5.below hE
   replace hdpz5:=hdpz5.below hE
   replace hW:=ktr hW hE
   clear hold hE hO hK;replace hBV:=hbn;clear hbn
   refine Yo 4 rfl (fun _=>Xmi (k:=((400+xz61.toNat:Nat) : Int)) rfl rfl (by omega) (by omega) (by omega)) ?_
   refine Y1 5 ?_
   refine Yf rfl trivial (EfW.mono (X43 (m:=(400+xz61.toNat:Nat)) (enc:=encSr) (z0:=srZ) rfl rfl X17 X1w Xa0 rfl X19 (by omega) (by omega)) (fun _ _ h=>⟨fun _=>by obtain ⟨_,_,_,hE,_⟩:=h;exact Keep.of_below hE,h⟩)) ?_;rintro _ w26 ⟨b49,rfl,hl49,hE,hB49⟩
   have hlo49:=Nat.le_trans hW.size hl49
   have haw1_49:=hr_code.away hl49
   have haw9_49:=hoz5.away hl49
   replace hBV:=hBV.below hE
   replace hB6:=hB6.below hE
   replace hB14:=hB14.below hE
   replace hr_code:=hr_code.below hE
   replace hraz5:=hraz5.below hE
   replace hoz5:=hoz5.below hE
   replace hrdz5:=hrdz5.below hE
   replace hdpz5:=hdpz5.below hE
   replace hW:=ktr hW hE
   have hdp50:DeepR w26 w26.heap.size 24 (List.replicate (400+xz61.toNat:Nat) srZ):=DeepR.zero _ _ _ _
   refine Yo 8 rfl (fun _=>Xh (ps:=[(0,.agg #[vi cz5.n,.slice Az5 cz5.gs.length ez5]),(1,.slice (some ⟨b49,0,none⟩) (400+xz61.toNat:Nat) (400+xz61.toNat:Nat)),(2,.agg #[vi cz5.n,.slice Az5 cz5.gs.length ez5])]) (cs:=[vi cz5.n,.slice Az5 cz5.gs.length ez5,.slice (some ⟨b49,0,none⟩) (400+xz61.toNat:Nat) (400+xz61.toNat:Nat),vi cz5.n,.slice Az5 cz5.gs.length ez5]) rfl (fun _=>by first|rfl|kernel_rfl)) ?_
   refine Y1 9 ?_
   refine Yh rfl trivial rfl (Vw [vi cz5.n,.slice Az5 cz5.gs.length ez5,.slice (some ⟨b49,0,none⟩) (400+xz61.toNat:Nat) (400+xz61.toNat:Nat),vi cz5.n,.slice Az5 cz5.gs.length ez5] X13 hB14) ?_;rintro _ w27 ⟨ho,hb⟩
   have hold:=hB14
   replace hBV:=hBV.only ho (Blk.ne hBV hold rfl)
   replace hB6:=hB6.only ho (by omega)
   replace hB49:=hB49.only ho (Blk.ne hB49 hold rfl)
   replace hr_code:=hr_code.only ho hlo14
   replace hraz5:=hraz5.onlyT ho hold rfl
   replace hoz5:=hoz5.onlyT ho hold rfl
   replace hrdz5:=hrdz5.onlyT ho hold rfl
   replace hdpz5:=hdpz5.onlyT ho hold rfl
   replace hdp50:=hdp50.onlyT ho hold rfl
   replace hW:=Kept.only hW ho hlo14
   clear hold
   have hB14:=hb
   clear hb ho
   refine Yd fun a hf=>?_
   refine Xf ?_
   refine hK15 _ _ ?_
   refine Zs hf fun _ hK54=>?_
   refine Ze (Vn X0l hB14) ?_
   refine Zo (Vw [vi cz5.n,.slice Az5 cz5.gs.length ez5,.slice (some ⟨b49,0,none⟩) (400+xz61.toNat:Nat) (400+xz61.toNat:Nat),vi cz5.n,.slice Az5 cz5.gs.length ez5] X13 hB6) ?_;rintro _ w28 ⟨ho,hb⟩
   have hold:=hB6
   replace hBV:=hBV.only ho (Blk.ne hBV hold rfl)
   replace hB14:=hB14.only ho (by omega)
   replace hB49:=hB49.only ho (Blk.ne hB49 hold rfl)
   replace hraz5:=hraz5.onlyT ho hold rfl
   replace hdp50:=hdp50.onlyT ho hold rfl
   replace hW:=Kept.only hW ho hlo6
   clear hold
   have hB6:=hb
   clear hb ho
   refine Zt hK54 fun a hf=>?_
   refine wp_ret (X2 hf (Xo hf rfl (ResV.cellN (l:=[vi cz5.n,.slice Az5 cz5.gs.length ez5,.slice (some ⟨b49,0,none⟩) (400+xz61.toNat:Nat) (400+xz61.toNat:Nat),vi cz5.n,.slice Az5 cz5.gs.length ez5]) rfl X0l (hB6.at 0) rfl)) ?_)
   exact ⟨⟨cz5.n,cz5.gs⟩,(List.replicate (400+xz61.toNat:Nat) srZ),⟨cz5.n,cz5.gs⟩,Az5,ez5,(some ⟨b49,0,none⟩),(400+xz61.toNat:Nat),Az5,ez5,_,_,(by first|rfl|(simp;done)),⟨(by first|omega|(dsimp only;omega)|(simp;omega)|(dsimp only;simp;omega)),(by first|omega|(dsimp only;omega)|(simp;omega)|(dsimp only;simp;omega)),(by first|omega|(dsimp only;omega)|(simp;omega)|(dsimp only;simp;omega)),trivial,(by first|exact hs5|exact X2x hs5|exact X41 hs5 (x:=⟨_,v9.A,v9.c,v9.old,v9.B,v9.d,v9.new⟩) (hs5 v9 (List.mem_of_getElem? hv9))|exact X3x)⟩,⟨by omega,by omega⟩,⟨hcbz5,hcbz5⟩,hraz5.top,hraz5.top,(Rd.of_blk hB49 rfl _ hB49.lt),(hdp50.top),hW,hBV⟩
  have hc48b:=hc48
  refine wp_skip ?_
  refine Xf ?_
  refine hK15 _ _ ?_
  refine Zs hf fun _ hK55=>?_
  refine Ze (Vn X0l hB14) ?_
  refine Zo (Vw [vi cz5.n,.slice Az5 cz5.gs.length ez5,.slice Bz5 lz5.length fz5,vi dz5.n,.slice Dz5 dz5.gs.length gz5] X13 hB6) ?_;rintro _ w29 ⟨ho,hb⟩
  have hold:=hB6
  replace hBV:=hBV.only ho (Blk.ne hBV hold rfl)
  replace hB14:=hB14.only ho (by omega)
  replace hr_code:=hr_code.only ho hlo6
  replace hraz5:=hraz5.onlyT ho hold rfl
  replace hoz5:=hoz5.onlyT ho hold rfl
  replace hrdz5:=hrdz5.onlyT ho hold rfl
  replace hdpz5:=hdpz5.onlyT ho hold rfl
  replace hW:=Kept.only hW ho hlo6
  clear hold
  have hB6:=hb
  clear hb ho
  refine Zt hK55 fun a hf=>?_
  refine wp_ret (X2 hf (Xo hf rfl (ResV.cellN (l:=[vi cz5.n,.slice Az5 cz5.gs.length ez5,.slice Bz5 lz5.length fz5,vi dz5.n,.slice Dz5 dz5.gs.length gz5]) rfl X0l (hB6.at 0) rfl)) ?_)
  exact ⟨⟨cz5.n,cz5.gs⟩,lz5,⟨dz5.n,dz5.gs⟩,Az5,ez5,Bz5,fz5,Dz5,gz5,_,_,(by first|rfl|(simp;done)),⟨(by first|omega|(dsimp only;omega)|(simp;omega)|(dsimp only;simp;omega)),(by first|omega|(dsimp only;omega)|(simp;omega)|(dsimp only;simp;omega)),(by first|omega|(dsimp only;omega)|(simp;omega)|(dsimp only;simp;omega)),trivial,(by first|exact hs5|exact X2x hs5|exact X41 hs5 (x:=⟨_,v9.A,v9.c,v9.old,v9.B,v9.d,v9.new⟩) (hs5 v9 (List.mem_of_getElem? hv9))|exact X3x)⟩,⟨by omega,by omega⟩,⟨hcbz5,hcdz5⟩,hraz5.top,hrdz5.top,hoz5.rd.top,(hdpz5.top),hW,hBV⟩
 have hc46b:=hc46
 refine wp_skip ?_
 refine Xf ?_
 refine hK15 _ _ ?_
 refine Zs hf fun _ hK56=>?_
 refine Ze (Vn X0l hB14) ?_
 refine Zo (Vw [vi cz5.n,.slice Az5 cz5.gs.length ez5,.slice Bz5 lz5.length fz5,vi dz5.n,.slice Dz5 dz5.gs.length gz5] X13 hB6) ?_;rintro _ w30 ⟨ho,hb⟩
 have hold:=hB6
 replace hBV:=hBV.only ho (Blk.ne hBV hold rfl)
 replace hB14:=hB14.only ho (by omega)
 replace hr_code:=hr_code.only ho hlo6
 replace hraz5:=hraz5.onlyT ho hold rfl
 replace hoz5:=hoz5.onlyT ho hold rfl
 replace hrdz5:=hrdz5.onlyT ho hold rfl
 replace hdpz5:=hdpz5.onlyT ho hold rfl
 replace hW:=Kept.only hW ho hlo6
 clear hold
 have hB6:=hb
 clear hb ho
 refine Zt hK56 fun a hf=>?_
 refine wp_ret (X2 hf (Xo hf rfl (ResV.cellN (l:=[vi cz5.n,.slice Az5 cz5.gs.length ez5,.slice Bz5 lz5.length fz5,vi dz5.n,.slice Dz5 dz5.gs.length gz5]) rfl X0l (hB6.at 0) rfl)) ?_)
 exact ⟨⟨cz5.n,cz5.gs⟩,lz5,⟨dz5.n,dz5.gs⟩,Az5,ez5,Bz5,fz5,Dz5,gz5,_,_,(by first|rfl|(simp;done)),⟨(by first|omega|(dsimp only;omega)|(simp;omega)|(dsimp only;simp;omega)),(by first|omega|(dsimp only;omega)|(simp;omega)|(dsimp only;simp;omega)),(by first|omega|(dsimp only;omega)|(simp;omega)|(dsimp only;simp;omega)),trivial,(by first|exact hs5|exact X2x hs5|exact X41 hs5 (x:=⟨_,v9.A,v9.c,v9.old,v9.B,v9.d,v9.new⟩) (hs5 v9 (List.mem_of_getElem? hv9))|exact X3x)⟩,⟨by omega,by omega⟩,⟨hcbz5,hcdz5⟩,hraz5.top,hrdz5.top,hoz5.rd.top,(hdpz5.top),hW,hBV⟩
end Go.Proofs.YtlfjcmldfbfdbaaGreat
