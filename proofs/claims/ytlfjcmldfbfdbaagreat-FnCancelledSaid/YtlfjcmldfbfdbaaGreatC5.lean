/-
  What is proved: for all drawn circuits, cancelling inverses yields an accepted certificate without remaining pairs and with no more gates: the law returns true at every input and leaves its arguments as they were. Conditions: none.
-/
import Derived.Test.YtlfjcmldfbfdbaaGreatC4
import Derived.Test.YtlfjcmldfbfdbaaGreatC3
import Derived.WalkSpells
set_option linter.unusedVariables false
set_option linter.unusedSimpArgs false
set_option maxHeartbeats 1000000
set_option maxRecDepth 4000
namespace Go.Proofs.YtlfjcmldfbfdbaaGreat
open Go.RowKit
theorem Xkr(w0:World)(x:Int)(y:Int) : Ret Tryz.prog 119 [vi x,vi y] w0 (fun v w=>v=vi (min x y)∧Below w0.heap.size w0 w):=by
 refine enter Tryz.func119 rfl 10 rfl rfl ?_
 intro a hf
 have hW:Below w0.heap.size w0 w0:=Below.refl _ _
 refine Zs hf fun _ hK1=>?_
 refine Za rfl ?_
 refine Zt hK1 fun a hf=>?_
 refine wp_seq_k fun _ hK2=>?_
 refine Zs hf fun _ hK3=>?_
 refine Zm rfl<|Zm rfl<|Ze (X18 rfl rfl) ?_
 refine Zt hK3 fun a hf=>?_
 refine Xo hf rfl (fun hc4=>?_) (fun hc4=>?_)
 ·have hc4b:=hc4
  have hc4:=of_decide_eq_true hc4
  refine Zs hf fun _ hK5=>?_
  refine Zm rfl<|Za rfl ?_
  refine Zt hK5 fun a hf=>?_
  refine wp_ret ?_
  refine X6 ?_
  refine X2 hf (Xz hf rfl rfl) ?_
  exact ⟨by rw [Int.min_eq_left (by omega)],hW⟩
 have hc4b:=hc4
 have hc4:=of_decide_eq_false hc4
 refine wp_skip ?_
 refine hK2 _ _ ?_
 refine Zs hf fun _ hK6=>?_
 refine Zm rfl<|Za rfl ?_
 refine Zt hK6 fun a hf=>?_
 refine wp_ret (X2 hf (Xz hf rfl rfl) ?_)
 exact ⟨by rw [Int.min_eq_right (by omega)],hW⟩
theorem Xkz(w0:World)(x:Gt) : Ret Tryz.prog 154 [.agg #[vi x.k,vi x.a,vi x.b]] w0 (fun v w=>v=.tuple #[gV (bkG x),vi (bkN x)]∧Below w0.heap.size w0 w):=by
 refine enter Tryz.func154 rfl 24 rfl rfl ?_
 intro a hf
 have hW:Below w0.heap.size w0 w0:=Below.refl _ _
 refine Zs hf fun _ hK1=>?_
 refine Zf (X0j (zs:=[vi x.k,vi x.a,vi x.b]) rfl rfl) ?_;rintro _ w1 ⟨b2,rfl,hl2,hE,hB2⟩
 have hlo2:=Nat.le_trans hW.size hl2
 replace hW:=btr hW hE
 refine Zf (X9 (zs:=[vi 0,vi 0,vi 0]) X1z rfl) ?_;rintro _ w2 ⟨b3,rfl,hl3,hE,hB3⟩
 have hne2_3:b2≠b3:=by have:=hB2.lt;omega
 have hlo3:=Nat.le_trans hW.size hl3
 replace hB2:=hB2.below hE
 replace hW:=btr hW hE
 refine Za rfl ?_
 refine Zt hK1 fun a hf=>?_
 refine wp_seq_k fun _ hK4=>?_
 refine Zs hf fun _ hK5=>?_
 refine Ze (Vd rfl X0c 0)<|Ze (X0 rfl X5 (hB2.at 0)) ?_
 refine Zt hK5 fun a hf=>?_
 refine wp_block ?_
 refine wp_seq_k fun _ hK6=>?_
 refine Zs hf fun _ hK7=>?_
 refine Ze (X0x rfl rfl)<|Za rfl ?_
 refine Zt hK7 fun a hf=>?_
 refine Xo hf rfl (fun hc8=>?_) (fun hc8=>?_)
 ·have hc8b:=hc8
  have ehc8:=eq_of_beq hc8
  refine wp_skip ?_
  refine hK6 _ _ ?_
  refine Xfw hf (X1 rfl hc8b) ?_
  refine Zr hf ?_
  refine Ze (Vd rfl X0c 0)<|Ze (X0 rfl X5 (hB2.at 0))<|Ze (X07 rfl rfl (by omega) (by omega))<|Ze (Vd rfl X0c 0) ?_
  refine Zo (Vu (vs:=[vi (x.k+1)]) (l':=[vi (x.k+1),vi x.a,vi x.b]) rfl rfl X1v hB2) ?_;rintro _ w3 ⟨ho,hb⟩
  have hold:=hB2
  replace hB3:=hB3.only ho (by omega)
  replace hW:=Below.only hW ho hlo2
  clear hold
  have hB2:=hb
  clear hb ho
  refine Zn fun a hf=>?_
  refine Xj ?_
  refine hK4 _ _ ?_
  refine Zs hf fun _ hK9=>?_
  refine Ze (Vn X01 hB2) ?_
  refine Zo (Vw [vi (x.k+1),vi x.a,vi x.b] X08 hB3) ?_;rintro _ w4 ⟨ho,hb⟩
  have hold:=hB3
  replace hB2:=hB2.only ho (by omega)
  replace hW:=Below.only hW ho hlo3
  clear hold
  have hB3:=hb
  clear hb ho
  refine Za rfl ?_
  refine Zt hK9 fun a hf=>?_
  refine wp_ret (X2 hf (X0t hf rfl (ResV.cellN (l:=[vi (x.k+1),vi x.a,vi x.b]) rfl X01 (hB3.at 0) rfl) rfl) ?_)
  exact ⟨by simp [bkG,bkN, *],hW⟩
 have hc8b:=hc8
 have ehc8:=ne_of_beq_false hc8
 refine Zr hf ?_
 refine Ze (X0x rfl rfl)<|Za rfl ?_
 refine Zt hK6 fun a hf=>?_
 refine Xo hf rfl (fun hc10=>?_) (fun hc10=>?_)
 ·have hc10b:=hc10
  have ehc10:=eq_of_beq hc10
  refine Zr hf ?_
  refine Ze (Vd rfl X0c 0)<|Ze (X0 rfl X5 (hB2.at 0))<|Ze (X07 rfl rfl (by omega) (by omega))<|Ze (Vd rfl X0c 0) ?_
  refine Zo (Vu (vs:=[vi (x.k+1)]) (l':=[vi (x.k+1),vi x.a,vi x.b]) rfl rfl X1v hB2) ?_;rintro _ w5 ⟨ho,hb⟩
  have hold:=hB2
  replace hB3:=hB3.only ho (by omega)
  replace hW:=Below.only hW ho hlo2
  clear hold
  have hB2:=hb
  clear hb ho
  refine Zn fun a hf=>?_
  refine Xj ?_
  refine hK4 _ _ ?_
  refine Zs hf fun _ hK11=>?_
  refine Ze (Vn X01 hB2) ?_
  refine Zo (Vw [vi (x.k+1),vi x.a,vi x.b] X08 hB3) ?_;rintro _ w6 ⟨ho,hb⟩
  have hold:=hB3
  replace hB2:=hB2.only ho (by omega)
  replace hW:=Below.only hW ho hlo3
  clear hold
  have hB3:=hb
  clear hb ho
  refine Za rfl ?_
  refine Zt hK11 fun a hf=>?_
  refine wp_ret (X2 hf (X0t hf rfl (ResV.cellN (l:=[vi (x.k+1),vi x.a,vi x.b]) rfl X01 (hB3.at 0) rfl) rfl) ?_)
  exact ⟨by simp [bkG,bkN, *],hW⟩
 have hc10b:=hc10
 have ehc10:=ne_of_beq_false hc10
 refine wp_seq_k fun _ hK12=>?_
 refine Zs hf fun _ hK13=>?_
 refine Ze (X0x rfl rfl)<|Za rfl ?_
 refine Zt hK13 fun a hf=>?_
 refine Xo hf rfl (fun hc14=>?_) (fun hc14=>?_)
 ·have hc14b:=hc14
  have ehc14:=eq_of_beq hc14
  refine wp_skip ?_
  refine hK12 _ _ ?_
  refine Xfw hf (X1 rfl hc14b) ?_
  refine Zr hf ?_
  refine Ze (Vd rfl X0c 0)<|Ze (X0 rfl X5 (hB2.at 0))<|Ze (X1e rfl rfl (by omega) (by omega))<|Ze (Vd rfl X0c 0) ?_
  refine Zo (Vu (vs:=[vi (x.k-1)]) (l':=[vi (x.k-1),vi x.a,vi x.b]) rfl rfl X1v hB2) ?_;rintro _ w7 ⟨ho,hb⟩
  have hold:=hB2
  replace hB3:=hB3.only ho (by omega)
  replace hW:=Below.only hW ho hlo2
  clear hold
  have hB2:=hb
  clear hb ho
  refine Zn fun a hf=>?_
  refine Xj ?_
  refine hK4 _ _ ?_
  refine Zs hf fun _ hK15=>?_
  refine Ze (Vn X01 hB2) ?_
  refine Zo (Vw [vi (x.k-1),vi x.a,vi x.b] X08 hB3) ?_;rintro _ w8 ⟨ho,hb⟩
  have hold:=hB3
  replace hB2:=hB2.only ho (by omega)
  replace hW:=Below.only hW ho hlo3
  clear hold
  have hB3:=hb
  clear hb ho
  refine Za rfl ?_
  refine Zt hK15 fun a hf=>?_
  refine wp_ret (X2 hf (X0t hf rfl (ResV.cellN (l:=[vi (x.k-1),vi x.a,vi x.b]) rfl X01 (hB3.at 0) rfl) rfl) ?_)
  exact ⟨by simp [bkG,bkN, *],hW⟩
 have hc14b:=hc14
 have ehc14:=ne_of_beq_false hc14
 refine Zr hf ?_
 refine Ze (X0x rfl rfl)<|Za rfl ?_
 refine Zt hK12 fun a hf=>?_
 refine Xo hf rfl (fun hc16=>?_) (fun hc16=>?_)
 ·have hc16b:=hc16
  have ehc16:=eq_of_beq hc16
  refine Zr hf ?_
  refine Ze (Vd rfl X0c 0)<|Ze (X0 rfl X5 (hB2.at 0))<|Ze (X1e rfl rfl (by omega) (by omega))<|Ze (Vd rfl X0c 0) ?_
  refine Zo (Vu (vs:=[vi (x.k-1)]) (l':=[vi (x.k-1),vi x.a,vi x.b]) rfl rfl X1v hB2) ?_;rintro _ w9 ⟨ho,hb⟩
  have hold:=hB2
  replace hB3:=hB3.only ho (by omega)
  replace hW:=Below.only hW ho hlo2
  clear hold
  have hB2:=hb
  clear hb ho
  refine Zn fun a hf=>?_
  refine Xj ?_
  refine hK4 _ _ ?_
  refine Zs hf fun _ hK17=>?_
  refine Ze (Vn X01 hB2) ?_
  refine Zo (Vw [vi (x.k-1),vi x.a,vi x.b] X08 hB3) ?_;rintro _ w10 ⟨ho,hb⟩
  have hold:=hB3
  replace hB2:=hB2.only ho (by omega)
  replace hW:=Below.only hW ho hlo3
  clear hold
  have hB3:=hb
  clear hb ho
  refine Za rfl ?_
  refine Zt hK17 fun a hf=>?_
  refine wp_ret (X2 hf (X0t hf rfl (ResV.cellN (l:=[vi (x.k-1),vi x.a,vi x.b]) rfl X01 (hB3.at 0) rfl) rfl) ?_)
  exact ⟨by simp [bkG,bkN, *],hW⟩
 have hc16b:=hc16
 have ehc16:=ne_of_beq_false hc16
 refine Zs hf fun _ hK18=>?_
 refine Ze (X0x rfl rfl)<|Za rfl ?_
 refine Zt hK18 fun a hf=>?_
 refine Xo hf rfl (fun hc19=>?_) (fun hc19=>?_)
 ·have hc19b:=hc19
  have ehc19:=eq_of_beq hc19
  refine Zs hf fun _ hK20=>?_
  refine Ze (Vn X01 hB2) ?_
  refine Zo (Vw [vi x.k,vi x.a,vi x.b] X08 hB3) ?_;rintro _ w11 ⟨ho,hb⟩
  have hold:=hB3
  replace hB2:=hB2.only ho (by omega)
  replace hW:=Below.only hW ho hlo3
  clear hold
  have hB3:=hb
  clear hb ho
  refine Za rfl ?_
  refine Zt hK20 fun a hf=>?_
  refine wp_ret ?_
  refine X05 ?_
  refine X6 ?_
  refine X2 hf (X0t hf rfl (ResV.cellN (l:=[vi x.k,vi x.a,vi x.b]) rfl X01 (hB3.at 0) rfl) rfl) ?_
  exact ⟨by simp [bkG,bkN, *],hW⟩
 have hc19b:=hc19
 have ehc19:=ne_of_beq_false hc19
 refine wp_skip ?_
 refine Xj ?_
 refine hK4 _ _ ?_
 refine Zs hf fun _ hK21=>?_
 refine Ze (Vn X01 hB2) ?_
 refine Zo (Vw [vi x.k,vi x.a,vi x.b] X08 hB3) ?_;rintro _ w12 ⟨ho,hb⟩
 have hold:=hB3
 replace hB2:=hB2.only ho (by omega)
 replace hW:=Below.only hW ho hlo3
 clear hold
 have hB3:=hb
 clear hb ho
 refine Za rfl ?_
 refine Zt hK21 fun a hf=>?_
 refine wp_ret (X2 hf (X0t hf rfl (ResV.cellN (l:=[vi x.k,vi x.a,vi x.b]) rfl X01 (hB3.at 0) rfl) rfl) ?_)
 exact ⟨by simp [bkG,bkN, *],hW⟩
theorem Xkp(w0:World)(bV:Nat){Xcd:TypeId}(Acd:Option Addr)(ccd:Nat)(code:List Int)(hr_code:Rd w0 w0.heap.size Xcd encU Acd code)(hcd:∀ x ∈ code,0≤x∧x≤255)(hav:AwayR code Acd bV)(t:Nat)(sd:Int)(hBV:Blk w0 bV 80 [.slice Acd code.length ccd,vi (t:Int),.int .u64 sd])(ht:t+84≤100000000) : Ret Tryz.prog 91 [.pointer (some ⟨bV,0,none⟩)] w0 (fun v w=>∃ (c:Cx) (A:Option Addr) (e:Nat) (t1:Nat) (s1:Int),v=.agg #[vi c.n,.slice A c.gs.length e]∧((1≤c.n∧c.n≤3)∧c.gs.length≤14)∧(t≤t1∧t1≤t+84)∧Own w w0.heap.size 24 3 encG A e c.gs∧Kept bV w0.heap.size w0 w∧Blk w bV 80 [.slice Acd code.length ccd,vi (t1:Int),.int .u64 s1]):=by
 have hltV:=hBV.lt
 refine enter Tryz.func91 rfl 88 rfl rfl ?_
 intro a hf
 have hW:Kept bV w0.heap.size w0 w0:=Kept.refl _ _ _
 refine Zs hf fun _ hK2=>?_
 refine Zf (X9 (zs:=[vi 0,.slice none 0 0]) X2x rfl) ?_;rintro _ w1 ⟨b4,rfl,hl4,hE,hB4⟩
 have hlo4:=Nat.le_trans hW.size hl4
 have haw1_4:=hr_code.away hl4
 replace hBV:=hBV.below hE
 replace hr_code:=hr_code.below hE
 replace hW:=ktr hW hE
 refine Zt hK2 fun a hf=>?_
 refine Zs hf fun _ hK5=>?_
 refine Zm rfl ?_
 refine Zf (Vc (X2h _ bV Acd ccd code hr_code.top hcd hav t sd hBV 3 (by omega)) X1j) ?_;rintro _ w2 ⟨xz13,tz13,sz13,rfl,hPz13,htz13,hK,hbn⟩
 obtain ⟨wm,hO,hm,hE⟩:=hK.mid;clear hm
 have hold:=hBV
 replace hB4:=hB4.only hO (Blk.ne hB4 hold rfl)
 replace hr_code:=hr_code.onlyA hO hav
 replace hW:=hW.self hO
 replace hB4:=hB4.below hE
 replace hr_code:=hr_code.below hE
 replace hW:=ktr hW hE
 clear hold hE hO hK;replace hBV:=hbn;clear hbn
 refine Ze (X07 rfl rfl (by omega) (by omega))<|Za rfl ?_
 refine Zt hK5 fun a hf=>?_
 refine Zs hf fun _ hK6=>?_
 refine Zm rfl<|Zm rfl ?_
 refine Zf (X8 (k:=14) (vs:=[vi 1,vi 1,vi 2,vi 3,vi 4,vi 5,vi 6,vi 7,vi 8,vi 9,vi 9,vi 10,vi 11,vi 12]) (zs:=[vi 1,vi 1,vi 2,vi 3,vi 4,vi 5,vi 6,vi 7,vi 8,vi 9,vi 9,vi 10,vi 11,vi 12]) rfl X0z X2b rfl rfl) ?_;rintro _ w3 ⟨b7,rfl,hl7,hE,hB7⟩
 have hlo7:=Nat.le_trans hW.size hl7
 have haw1_7:=hr_code.away hl7
 replace hBV:=hBV.below hE
 replace hB4:=hB4.below hE
 replace hr_code:=hr_code.below hE
 replace hW:=ktr hW hE
 refine Zf (Vc (Xhq _ bV Acd ccd code hr_code.top hcd hav tz13 sz13 hBV (1+xz13) 8 (some ⟨b7,0,none⟩) 14 ([1,1,2,3,4,5,6,7,8,9,9,10,11,12]) (Rd.of_blk hB7 rfl _ hB7.lt) (by omega) (by omega) (by simp) (by simp) (by omega)) Xac) ?_;rintro _ w4 ⟨cz18,Az18,ez18,tz18,sz18,rfl,hPz18,htz18,hoz18,hK,hbn⟩
 have hlv:=hW.size
 obtain ⟨wm,hO,hm,hE⟩:=hK.mid;clear hm
 have hold:=hBV
 replace hB4:=hB4.only hO (Blk.ne hB4 hold rfl)
 replace hB7:=hB7.only hO (Blk.ne hB7 hold rfl)
 replace hr_code:=hr_code.onlyA hO hav
 replace hW:=hW.self hO
 replace hB4:=hB4.below hE
 replace hB7:=hB7.below hE
 replace hr_code:=hr_code.below hE
 replace hW:=ktr hW hE
 clear hold hE hO hK;replace hBV:=hbn;clear hbn
 replace hoz18:=hoz18.lower hlv;clear hlv
 refine Zf (X9 (zs:=[vi 0,.slice none 0 0]) X2x rfl) ?_;rintro _ w5 ⟨b11,rfl,hl11,hE,hB11⟩
 have hne4_11:b4≠b11:=by have:=hB4.lt;omega
 have hlo11:=Nat.le_trans hW.size hl11
 have haw1_11:=hr_code.away hl11
 replace hBV:=hBV.below hE
 replace hB4:=hB4.below hE
 replace hB7:=hB7.below hE
 replace hr_code:=hr_code.below hE
 replace hoz18:=hoz18.below hE
 replace hW:=ktr hW hE
 refine Zo (Vw [vi cz18.n,.slice Az18 cz18.gs.length ez18] X1c hB11) ?_;rintro _ w6 ⟨ho,hb⟩
 have hold:=hB11
 replace hBV:=hBV.only ho (Blk.ne hBV hold rfl)
 replace hB4:=hB4.only ho (by omega)
 replace hB7:=hB7.only ho (Blk.ne hB7 hold rfl)
 replace hr_code:=hr_code.only ho hlo11
 replace hoz18:=hoz18.onlyT ho hold rfl
 replace hW:=Kept.only hW ho hlo11
 clear hold
 have hB11:=hb
 clear hb ho
 refine Zt hK6 fun a hf=>?_
 refine wp_seq_k fun _ hK12=>?_
 refine Zs hf fun _ hK13=>?_
 refine Zm rfl ?_
 refine Zf (Vc (X2h _ bV Acd ccd code hr_code.top hcd hav tz18 sz18 hBV 4 (by omega)) X1j) ?_;rintro _ w7 ⟨xz20,tz20,sz20,rfl,hPz20,htz20,hK,hbn⟩
 obtain ⟨wm,hO,hm,hE⟩:=hK.mid;clear hm
 have hold:=hBV
 replace hB4:=hB4.only hO (Blk.ne hB4 hold rfl)
 replace hB11:=hB11.only hO (Blk.ne hB11 hold rfl)
 replace hr_code:=hr_code.onlyA hO hav
 replace hoz18:=hoz18.onlyT hO hold rfl
 replace hW:=hW.self hO
 replace hB4:=hB4.below hE
 replace hB11:=hB11.below hE
 replace hr_code:=hr_code.below hE
 replace hoz18:=hoz18.below hE
 replace hW:=ktr hW hE
 clear hold hE hO hK;replace hBV:=hbn;clear hbn
 refine Za rfl ?_
 refine Zt hK13 fun a hf=>?_
 refine wp_block ?_
 refine X0g (σ:=Int×(List Gt)×Nat×Int) (fun (s:Int×(List Gt)×Nat×Int) (a:Act) (w:World)=>match s with|(j,gs,t2,s2)=>∃ A14 c14,Fr a 88 [(0,.pointer (some ⟨bV,0,none⟩)),(2,.pointer (some ⟨b4,0,none⟩)),(3,vi (1+xz13)),(4,.pointer (some ⟨b11,0,none⟩)),(5,vi j)]∧(0≤j∧j≤3∧gs.length+2*j≤14)∧(t≤t2∧t2+10*j.toNat≤t+84)∧Blk w bV 80 [.slice Acd code.length ccd,vi (t2:Int),.int .u64 s2]∧Blk w b4 31 [vi 0,.slice none 0 0]∧Blk w b11 31 [vi cz18.n,.slice A14 gs.length c14]∧Rd w w0.heap.size Xcd encU Acd code∧Own w w0.heap.size 24 3 encG A14 c14 gs∧Kept bV w0.heap.size w0 w) (fun (s:Int×(List Gt)×Nat×Int)=>match s with|(j,gs,t2,s2)=>j.toNat) (xz20,cz18.gs,tz20,sz20) ?_ ?_
 ·exact ⟨Az18,ez18,hf.sub ⟨rfl,rfl,rfl,rfl,rfl,trivial⟩,(by omega),(by omega),hBV,hB4,hB11,hr_code,hoz18,hW⟩
 rintro ⟨j,gs,t2,s2⟩ a w8 ⟨A14,c14,hf,hj,htt,hBV,hB4,hB11,hr_code,ho14,hW⟩
 refine wp_seq_k fun _ hK15=>?_
 refine Zs hf fun _ hK16=>?_
 refine Zm rfl<|Ze (X3p rfl rfl) ?_
 refine Zt hK16 fun a hf=>?_
 refine Xo hf rfl (fun hc17=>?_) (fun hc17=>?_)
 ·have hc17b:=hc17
  have hc17:=of_decide_eq_true hc17
  refine wp_skip ?_
  refine hK15 _ _ ?_
  refine wp_seq_k fun _ hK18=>?_
  refine wp_block ?_
  refine Zs hf fun _ hK19=>?_
  refine Zm rfl<|Zm rfl ?_
  refine Zf (X8 (k:=9) (vs:=[vi 1,vi 4,vi 5,vi 7,vi 8,vi 9,vi 9,vi 10,vi 11]) (zs:=[vi 1,vi 4,vi 5,vi 7,vi 8,vi 9,vi 9,vi 10,vi 11]) rfl X0z X2b rfl rfl) ?_;rintro _ w9 ⟨b20,rfl,hl20,hE,hB20⟩
  have hlo20:=Nat.le_trans hW.size hl20
  have haw1_20:=hr_code.away hl20
  replace hBV:=hBV.below hE
  replace hB4:=hB4.below hE
  replace hB11:=hB11.below hE
  replace hr_code:=hr_code.below hE
  replace ho14:=ho14.below hE
  replace hW:=ktr hW hE
  refine Zf (Vc (Xkv _ bV Acd ccd code hr_code.top hcd hav t2 s2 hBV (1+xz13) (some ⟨b20,0,none⟩) 9 ([1,4,5,7,8,9,9,10,11]) (Rd.of_blk hB20 rfl _ hB20.lt) (by omega) (by simp) (by simp) (by omega)) Xe6) ?_;rintro _ w10 ⟨xz28,tz28,sz28,rfl,hPz28,htz28,hK,hbn⟩
  obtain ⟨wm,hO,hm,hE⟩:=hK.mid;clear hm
  have hold:=hBV
  replace hB4:=hB4.only hO (Blk.ne hB4 hold rfl)
  replace hB11:=hB11.only hO (Blk.ne hB11 hold rfl)
  replace hB20:=hB20.only hO (Blk.ne hB20 hold rfl)
  replace hr_code:=hr_code.onlyA hO hav
  replace ho14:=ho14.onlyT hO hold rfl
  replace hW:=hW.self hO
  replace hB4:=hB4.below hE
  replace hB11:=hB11.below hE
  replace hB20:=hB20.below hE
  replace hr_code:=hr_code.below hE
  replace ho14:=ho14.below hE
  replace hW:=ktr hW hE
  clear hold hE hO hK;replace hBV:=hbn;clear hbn
  refine Zf (X9 (zs:=[vi 0,vi 0,vi 0]) X1z rfl) ?_;rintro _ w11 ⟨b22,rfl,hl22,hE,hB22⟩
  have hlo22:=Nat.le_trans hW.size hl22
  have haw1_22:=hr_code.away hl22
  have haw14_22:=ho14.away hl22
  replace hBV:=hBV.below hE
  replace hB4:=hB4.below hE
  replace hB11:=hB11.below hE
  replace hB20:=hB20.below hE
  replace hr_code:=hr_code.below hE
  replace ho14:=ho14.below hE
  replace hW:=ktr hW hE
  refine Zo (Vw [vi xz28.k,vi xz28.a,vi xz28.b] X08 hB22) ?_;rintro _ w12 ⟨ho,hb⟩
  have hold:=hB22
  replace hBV:=hBV.only ho (Blk.ne hBV hold rfl)
  replace hB4:=hB4.only ho (Blk.ne hB4 hold rfl)
  replace hB11:=hB11.only ho (Blk.ne hB11 hold rfl)
  replace hB20:=hB20.only ho (Blk.ne hB20 hold rfl)
  replace hr_code:=hr_code.only ho hlo22
  replace ho14:=ho14.onlyA ho haw14_22
  replace hW:=Kept.only hW ho hlo22
  clear hold
  have hB22:=hb
  clear hb ho
  refine Zt hK19 fun a hf=>?_
  refine Zs hf fun _ hK23=>?_
  refine Ze (Vn X01 hB22) ?_
  refine Zf (Vc (Xkz _ xz28) Xde) ?_;rintro _ w13 ⟨rfl,hE⟩
  replace hBV:=hBV.below hE
  replace hB4:=hB4.below hE
  replace hB11:=hB11.below hE
  replace hB22:=hB22.below hE
  replace hr_code:=hr_code.below hE
  replace ho14:=ho14.below hE
  replace hW:=ktr hW hE
  refine Zm rfl<|Ze (X3 (vs:=[.agg #[vi ((bkG xz28).k),vi ((bkG xz28).a),vi ((bkG xz28).b)],vi (bkN xz28)]) rfl rfl)<|Ze (X3 (vs:=[.agg #[vi ((bkG xz28).k),vi ((bkG xz28).a),vi ((bkG xz28).b)],vi (bkN xz28)]) rfl rfl) ?_
  refine Zf (X9 (zs:=[vi 0,vi 0,vi 0]) X1z rfl) ?_;rintro _ w14 ⟨b24,rfl,hl24,hE,hB24⟩
  have hne22_24:b22≠b24:=by have:=hB22.lt;omega
  have hlo24:=Nat.le_trans hW.size hl24
  have haw1_24:=hr_code.away hl24
  have haw14_24:=ho14.away hl24
  replace hBV:=hBV.below hE
  replace hB4:=hB4.below hE
  replace hB11:=hB11.below hE
  replace hB22:=hB22.below hE
  replace hr_code:=hr_code.below hE
  replace ho14:=ho14.below hE
  replace hW:=ktr hW hE
  refine Zo (Vw [vi ((bkG xz28).k),vi ((bkG xz28).a),vi ((bkG xz28).b)] X08 hB24) ?_;rintro _ w15 ⟨ho,hb⟩
  have hold:=hB24
  replace hBV:=hBV.only ho (Blk.ne hBV hold rfl)
  replace hB4:=hB4.only ho (Blk.ne hB4 hold rfl)
  replace hB11:=hB11.only ho (Blk.ne hB11 hold rfl)
  replace hB22:=hB22.only ho (by omega)
  replace hr_code:=hr_code.only ho hlo24
  replace ho14:=ho14.onlyA ho haw14_24
  replace hW:=Kept.only hW ho hlo24
  clear hold
  have hB24:=hb
  clear hb ho
  refine Za rfl ?_
  refine Zt hK23 fun a hf=>?_
  refine Zs hf fun _ hK25=>?_
  refine Zm rfl<|Ze (Vd rfl X00 1)<|Ze (X0 rfl X0d (hB11.at 1))<|Ze (X0y rfl Xg)<|Ze (X07 rfl rfl (by omega) (by omega)) ?_
  refine Zf (Vc (X2h _ bV Acd ccd code hr_code.top hcd hav tz28 sz28 hBV ((gs.length:Int)+1) (by omega)) X1j) ?_;rintro _ w16 ⟨xz39,tz39,sz39,rfl,hPz39,htz39,hK,hbn⟩
  obtain ⟨wm,hO,hm,hE⟩:=hK.mid;clear hm
  have hold:=hBV
  replace hB4:=hB4.only hO (Blk.ne hB4 hold rfl)
  replace hB11:=hB11.only hO (Blk.ne hB11 hold rfl)
  replace hB22:=hB22.only hO (Blk.ne hB22 hold rfl)
  replace hB24:=hB24.only hO (Blk.ne hB24 hold rfl)
  replace hr_code:=hr_code.onlyA hO hav
  replace ho14:=ho14.onlyT hO hold rfl
  replace hW:=hW.self hO
  replace hB4:=hB4.below hE
  replace hB11:=hB11.below hE
  replace hB22:=hB22.below hE
  replace hB24:=hB24.below hE
  replace hr_code:=hr_code.below hE
  replace ho14:=ho14.below hE
  replace hW:=ktr hW hE
  clear hold hE hO hK;replace hBV:=hbn;clear hbn
  have hlA:(gs.take xz39.toNat++[xz28]++gs.drop xz39.toNat).length=gs.length+1:=by simp;omega
  refine Za rfl ?_
  refine Zt hK25 fun a hf=>?_
  refine Zs hf fun _ hK26=>?_
  refine Zf (X8 (k:=0) (vs:=[]) (zs:=[]) rfl Xg Xm rfl rfl) ?_;rintro _ w17 ⟨b27,rfl,hl27,hE,hB27⟩
  have hne22_27:b22≠b27:=by have:=hB22.lt;omega
  have hne24_27:b24≠b27:=by have:=hB24.lt;omega
  have hlo27:=Nat.le_trans hW.size hl27
  have haw1_27:=hr_code.away hl27
  have haw14_27:=ho14.away hl27
  replace hBV:=hBV.below hE
  replace hB4:=hB4.below hE
  replace hB11:=hB11.below hE
  replace hB22:=hB22.below hE
  replace hB24:=hB24.below hE
  replace hr_code:=hr_code.below hE
  replace ho14:=ho14.below hE
  replace hW:=ktr hW hE
  refine Ze (Vd rfl X00 1)<|Ze (X0 rfl X0d (hB11.at 1))<|Zm rfl ?_
  have hr29:=(ho14.rd.top).dropK Xe (c:=c14) ho14.cap xz39.toNat
  refine Ze (X8h (l:=gs) (k:=xz39.toNat) rfl rfl Xg X08 (by omega) (by omega)) ?_
  refine Zf (X1b (enc:=encG) (l2:=((gs.drop xz39.toNat))) rfl rfl Xg Xm Xe X0b hB27 hr29 (by simp only [maxLen];simp;omega) (by simp;omega)) ?_;rintro _ w18 ⟨A30,c30,rfl,ho30,hE,hat⟩
  have haw30_22:=hat _ hB22.lt hne22_27
  have haw30_24:=hat _ hB24.lt hne24_27
  have hap14_30:=Apart.new0 ho14 haw14_27 hat
  clear hat
  replace ho30:=ho30.lower hlo27
  replace hBV:=hBV.below hE
  replace hB4:=hB4.below hE
  replace hB11:=hB11.below hE
  replace hB22:=hB22.below hE
  replace hB24:=hB24.below hE
  replace hr_code:=hr_code.below hE
  replace ho14:=ho14.below hE
  replace hr29:=hr29.below hE
  replace hW:=ktr hW hE
  refine Za rfl ?_
  refine Zt hK26 fun a hf=>?_
  refine wp_seq_k fun _ hK31=>?_
  refine X0h (fun a w=>∃ A39 c39,Fr a 88 [(0,.pointer (some ⟨bV,0,none⟩)),(2,.pointer (some ⟨b4,0,none⟩)),(3,vi (1+xz13)),(4,.pointer (some ⟨b11,0,none⟩)),(5,vi j),(7,.pointer (some ⟨b24,0,none⟩)),(9,vi xz39)]∧Own w w0.heap.size 24 3 encG A39 c39 (((gs.take xz39.toNat)++([xz28]))++(gs.drop xz39.toNat))∧Blk w bV 80 [.slice Acd code.length ccd,vi (tz39:Int),.int .u64 sz39]∧Blk w b4 31 [vi 0,.slice none 0 0]∧Blk w b11 31 [vi cz18.n,.slice A39 (((gs.take xz39.toNat)++([xz28]))++(gs.drop xz39.toNat)).length c39]∧Blk w b22 24 [vi xz28.k,vi xz28.a,vi xz28.b]∧Blk w b24 24 [vi ((bkG xz28).k),vi ((bkG xz28).a),vi ((bkG xz28).b)]∧Rd w w0.heap.size Xcd encU Acd code∧Own w w0.heap.size 24 3 encG A14 c14 gs∧Own w w0.heap.size 24 3 encG A30 c30 (gs.drop xz39.toNat)∧Kept bV w0.heap.size w0 w) ?_ ?_
  ·refine X09 none (fun j=>[8,10,12].contains j) mixed ?_
   intro w19 hE
   replace hBV:=hBV.below hE
   replace hB4:=hB4.below hE
   replace hB11:=hB11.below hE
   replace hB22:=hB22.below hE
   replace hB24:=hB24.below hE
   replace hr_code:=hr_code.below hE
   replace ho14:=ho14.below hE
   replace ho30:=ho30.below hE
   replace hW:=ktr hW hE
   refine Yb hf ?_
   refine Yo 1 rfl (fun _=>Vd rfl X00 1)<|Ye 2 rfl (X0 rfl X0d (hB11.at 1))<|Yo 3 rfl (fun _=>X7 rfl) ?_
   have hr32:=(ho14.rd.top).takeK Xe xz39.toNat
   refine Yo 4 rfl (fun _=>X83 (l:=gs) (k:=xz39.toNat) rfl rfl Xg X08 (by omega) (by omega) ho14.cap)<|Ye 6 rfl (Vn X01 hB22)<|Yo 9 rfl (fun _=>X7 rfl) ?_
   refine Y2 0 7 ?_ ?_
   ·refine Yk rfl trivial (X8 (k:=0) (vs:=[]) (zs:=[]) rfl Xg Xm rfl rfl) (fun _ _ ⟨_,_,_,h,_⟩=>h) ?_;rintro _ w20 ⟨b33,rfl,hl33,hE,hB33⟩
    have hne22_33:b22≠b33:=by have:=hB22.lt;omega
    have hne24_33:b24≠b33:=by have:=hB24.lt;omega
    have hlo33:=Nat.le_trans hW.size hl33
    have haw1_33:=hr_code.away hl33
    have haw14_33:=ho14.away hl33
    have haw30_33:=ho30.away hl33
    have haw32_33:=hr32.away hl33
    replace hBV:=hBV.below hE
    replace hB4:=hB4.below hE
    replace hB11:=hB11.below hE
    replace hB22:=hB22.below hE
    replace hB24:=hB24.below hE
    replace hr_code:=hr_code.below hE
    replace ho14:=ho14.below hE
    replace ho30:=ho30.below hE
    replace hr32:=hr32.below hE
    replace hW:=ktr hW hE
    refine Y2 5 7 ?_ ?_
    ·refine Yk rfl trivial (X1b (enc:=encG) (l2:=((gs.take xz39.toNat))) rfl rfl Xg Xm Xe X0b hB33 hr32 (by simp only [maxLen];simp;omega) (by simp;omega)) (fun _ _ ⟨A35,c35,_,ho35,hE,hat⟩=>hE) ?_;rintro _ w21 ⟨A35,c35,rfl,ho35,hE,hat⟩
     have haw35_22:=hat _ hB22.lt hne22_33
     have haw35_24:=hat _ hB24.lt hne24_33
     have hap14_35:=Apart.new0 ho14 haw14_33 hat
     have hap30_35:=Apart.new0 ho30 haw30_33 hat
     clear hat
     replace ho35:=ho35.lower hlo33
     replace hBV:=hBV.below hE
     replace hB4:=hB4.below hE
     replace hB11:=hB11.below hE
     replace hB22:=hB22.below hE
     replace hB24:=hB24.below hE
     replace hr_code:=hr_code.below hE
     replace ho14:=ho14.below hE
     replace ho30:=ho30.below hE
     replace hr32:=hr32.below hE
     replace hW:=ktr hW hE
     refine Y1 7 ?_
     refine Yk rfl trivial (X8 (k:=1) (vs:=[.agg #[vi xz28.k,vi xz28.a,vi xz28.b]]) (zs:=[vi xz28.k,vi xz28.a,vi xz28.b]) rfl Xg Xm rfl rfl) (fun _ _ ⟨_,_,_,h,_⟩=>h) ?_;rintro _ w22 ⟨b36,rfl,hl36,hE,hB36⟩
     have hne22_36:b22≠b36:=by have:=hB22.lt;omega
     have hne24_36:b24≠b36:=by have:=hB24.lt;omega
     have hlo36:=Nat.le_trans hW.size hl36
     have haw1_36:=hr_code.away hl36
     have haw14_36:=ho14.away hl36
     have haw30_36:=ho30.away hl36
     have haw32_36:=hr32.away hl36
     have haw35_36:=ho35.away hl36
     replace hBV:=hBV.below hE
     replace hB4:=hB4.below hE
     replace hB11:=hB11.below hE
     replace hB22:=hB22.below hE
     replace hB24:=hB24.below hE
     replace hr_code:=hr_code.below hE
     replace ho14:=ho14.below hE
     replace ho30:=ho30.below hE
     replace hr32:=hr32.below hE
     replace ho35:=ho35.below hE
     replace hW:=ktr hW hE
     refine Y1 8 ?_
     refine Yt rfl trivial rfl (X0q (enc:=encG) (l:=((gs.take xz39.toNat))) (l2:=([xz28])) (B0:=w0.heap.size) rfl rfl Xg Xm Xe X0b ho35 (Rd.of_blk hB36 rfl _ hB36.lt) (by simp only [maxLen];simp;omega) (by simp;omega) hW.size) ?_;rintro _ w23 ⟨A38,c38,rfl,ho38,hg,hat⟩
     have hown:Own _ w0.heap.size 24 3 encG _ _ ((gs.take xz39.toNat)):=ho35
     have haw38_22:=hat _ hB22.lt haw35_22
     have haw38_24:=hat _ hB24.lt haw35_24
     have haw38_36:=hat _ hB36.lt haw35_36
     have hap14_38:=Apart.app ho14 hap14_35 hat
     have hap30_38:=Apart.app ho30 hap30_35 hat
     clear hat
     replace hBV:=hBV.appT hown hg rfl
     replace hB4:=hB4.appT hown hg rfl
     replace hB11:=hB11.appT hown hg rfl
     replace hB22:=hB22.appA hg haw35_22
     replace hB24:=hB24.appA hg haw35_24
     replace hr_code:=hr_code.appB hown hg (Nat.le_refl _)
     replace ho14:=ho14.appP hg hap14_35
     replace ho30:=ho30.appP hg hap30_35
     replace hW:=Kept.app hW hown hg (Nat.le_refl _) hW.size
     clear hown hg
     refine Y1 10 ?_
     refine Yt rfl trivial rfl (X0q (enc:=encG) (l:=((gs.take xz39.toNat)++([xz28]))) (l2:=((gs.drop xz39.toNat))) (B0:=w0.heap.size) rfl rfl Xg Xm Xe X0b ho38 ho30.rd (by simp only [maxLen];simp;omega) (by simp;omega) hW.size) ?_;rintro _ w24 ⟨A39,c39,rfl,ho39,hg,hat⟩
     have hown:Own _ w0.heap.size 24 3 encG _ _ ((gs.take xz39.toNat)++([xz28])):=ho38
     have haw39_22:=hat _ hB22.lt haw38_22
     have haw39_24:=hat _ hB24.lt haw38_24
     have hap14_39:=Apart.app ho14 hap14_38 hat
     have hap30_39:=Apart.app ho30 hap30_38 hat
     clear hat
     replace hBV:=hBV.appT hown hg rfl
     replace hB4:=hB4.appT hown hg rfl
     replace hB11:=hB11.appT hown hg rfl
     replace hB22:=hB22.appA hg haw38_22
     replace hB24:=hB24.appA hg haw38_24
     replace hr_code:=hr_code.appB hown hg (Nat.le_refl _)
     replace ho14:=ho14.appP hg hap14_38
     replace ho30:=ho30.appP hg hap30_38
     replace hW:=Kept.app hW hown hg (Nat.le_refl _) hW.size
     clear hown hg
     refine Yo 11 rfl (fun _=>Vd rfl X00 1) ?_
     refine Y1 12 ?_
     refine Yh rfl trivial rfl (Vu (vs:=[.slice A39 (((gs.take xz39.toNat)++([xz28]))++(gs.drop xz39.toNat)).length c39]) (l':=[vi cz18.n,.slice A39 (((gs.take xz39.toNat)++([xz28]))++(gs.drop xz39.toNat)).length c39]) rfl rfl X2j hB11) ?_;rintro _ w25 ⟨ho,hb⟩
     have hold:=hB11
     replace hBV:=hBV.only ho (Blk.ne hBV hold rfl)
     replace hB4:=hB4.only ho (by omega)
     replace hB22:=hB22.only ho (Blk.ne hB22 hold rfl)
     replace hB24:=hB24.only ho (Blk.ne hB24 hold rfl)
     replace hr_code:=hr_code.only ho hlo11
     replace ho14:=ho14.onlyT ho hold rfl
     replace ho30:=ho30.onlyT ho hold rfl
     replace ho39:=ho39.onlyT ho hold rfl
     replace hW:=Kept.only hW ho hlo11
     clear hold
     have hB11:=hb
     clear hb ho
     refine Yd fun a hf=>?_
     exact ⟨A39,c39,hf.sub ⟨rfl,rfl,rfl,rfl,rfl,rfl,rfl,trivial⟩,ho39,hBV,hB4,hB11,hB22,hB24,hr_code,ho14,ho30,hW⟩
    refine Yk rfl trivial (X8 (k:=1) (vs:=[.agg #[vi xz28.k,vi xz28.a,vi xz28.b]]) (zs:=[vi xz28.k,vi xz28.a,vi xz28.b]) rfl Xg Xm rfl rfl) (fun _ _ ⟨_,_,_,h,_⟩=>h) ?_;rintro _ w26 ⟨b40,rfl,hl40,hE,hB40⟩
    have hne22_40:b22≠b40:=by have:=hB22.lt;omega
    have hne24_40:b24≠b40:=by have:=hB24.lt;omega
    have hne33_40:b33≠b40:=by have:=hB33.lt;omega
    have hlo40:=Nat.le_trans hW.size hl40
    have haw1_40:=hr_code.away hl40
    have haw14_40:=ho14.away hl40
    have haw30_40:=ho30.away hl40
    have haw32_40:=hr32.away hl40
    replace hBV:=hBV.below hE
    replace hB4:=hB4.below hE
    replace hB11:=hB11.below hE
    replace hB22:=hB22.below hE
    replace hB24:=hB24.below hE
    replace hB33:=hB33.below hE
    replace hr_code:=hr_code.below hE
    replace ho14:=ho14.below hE
    replace ho30:=ho30.below hE
    replace hr32:=hr32.below hE
    replace hW:=ktr hW hE
    refine Y1 5 ?_
    refine Yk rfl trivial (X1b (enc:=encG) (l2:=((gs.take xz39.toNat))) rfl rfl Xg Xm Xe X0b hB33 hr32 (by simp only [maxLen];simp;omega) (by simp;omega)) (fun _ _ ⟨A42,c42,_,ho42,hE,hat⟩=>hE) ?_;rintro _ w27 ⟨A42,c42,rfl,ho42,hE,hat⟩
    have haw42_22:=hat _ hB22.lt hne22_33
    have haw42_24:=hat _ hB24.lt hne24_33
    have haw42_40:=hat _ hB40.lt (Ne.symm hne33_40)
    have hap14_42:=Apart.new0 ho14 haw14_33 hat
    have hap30_42:=Apart.new0 ho30 haw30_33 hat
    clear hat
    replace ho42:=ho42.lower hlo33
    replace hBV:=hBV.below hE
    replace hB4:=hB4.below hE
    replace hB11:=hB11.below hE
    replace hB22:=hB22.below hE
    replace hB24:=hB24.below hE
    replace hB40:=hB40.below hE
    replace hr_code:=hr_code.below hE
    replace ho14:=ho14.below hE
    replace ho30:=ho30.below hE
    replace hr32:=hr32.below hE
    replace hW:=ktr hW hE
    refine Y1 8 ?_
    refine Yt rfl trivial rfl (X0q (enc:=encG) (l:=((gs.take xz39.toNat))) (l2:=([xz28])) (B0:=w0.heap.size) rfl rfl Xg Xm Xe X0b ho42 (Rd.of_blk hB40 rfl _ hB40.lt) (by simp only [maxLen];simp;omega) (by simp;omega) hW.size) ?_;rintro _ w28 ⟨A43,c43,rfl,ho43,hg,hat⟩
    have hown:Own _ w0.heap.size 24 3 encG _ _ ((gs.take xz39.toNat)):=ho42
    have haw43_22:=hat _ hB22.lt haw42_22
    have haw43_24:=hat _ hB24.lt haw42_24
    have haw43_40:=hat _ hB40.lt haw42_40
    have hap14_43:=Apart.app ho14 hap14_42 hat
    have hap30_43:=Apart.app ho30 hap30_42 hat
    clear hat
    replace hBV:=hBV.appT hown hg rfl
    replace hB4:=hB4.appT hown hg rfl
    replace hB11:=hB11.appT hown hg rfl
    replace hB22:=hB22.appA hg haw42_22
    replace hB24:=hB24.appA hg haw42_24
    replace hr_code:=hr_code.appB hown hg (Nat.le_refl _)
    replace ho14:=ho14.appP hg hap14_42
    replace ho30:=ho30.appP hg hap30_42
    replace hW:=Kept.app hW hown hg (Nat.le_refl _) hW.size
    clear hown hg
    refine Y1 10 ?_
    refine Yt rfl trivial rfl (X0q (enc:=encG) (l:=((gs.take xz39.toNat)++([xz28]))) (l2:=((gs.drop xz39.toNat))) (B0:=w0.heap.size) rfl rfl Xg Xm Xe X0b ho43 ho30.rd (by simp only [maxLen];simp;omega) (by simp;omega) hW.size) ?_;rintro _ w29 ⟨A44,c44,rfl,ho44,hg,hat⟩
    have hown:Own _ w0.heap.size 24 3 encG _ _ ((gs.take xz39.toNat)++([xz28])):=ho43
    have haw44_22:=hat _ hB22.lt haw43_22
    have haw44_24:=hat _ hB24.lt haw43_24
    have hap14_44:=Apart.app ho14 hap14_43 hat
    have hap30_44:=Apart.app ho30 hap30_43 hat
    clear hat
    replace hBV:=hBV.appT hown hg rfl
    replace hB4:=hB4.appT hown hg rfl
    replace hB11:=hB11.appT hown hg rfl
    replace hB22:=hB22.appA hg haw43_22
    replace hB24:=hB24.appA hg haw43_24
    replace hr_code:=hr_code.appB hown hg (Nat.le_refl _)
    replace ho14:=ho14.appP hg hap14_43
    replace ho30:=ho30.appP hg hap30_43
    replace hW:=Kept.app hW hown hg (Nat.le_refl _) hW.size
    clear hown hg
    refine Yo 11 rfl (fun _=>Vd rfl X00 1) ?_
    refine Y1 12 ?_
    refine Yh rfl trivial rfl (Vu (vs:=[.slice A44 (((gs.take xz39.toNat)++([xz28]))++(gs.drop xz39.toNat)).length c44]) (l':=[vi cz18.n,.slice A44 (((gs.take xz39.toNat)++([xz28]))++(gs.drop xz39.toNat)).length c44]) rfl rfl X2j hB11) ?_;rintro _ w30 ⟨ho,hb⟩
    have hold:=hB11
    replace hBV:=hBV.only ho (Blk.ne hBV hold rfl)
    replace hB4:=hB4.only ho (by omega)
    replace hB22:=hB22.only ho (Blk.ne hB22 hold rfl)
    replace hB24:=hB24.only ho (Blk.ne hB24 hold rfl)
    replace hr_code:=hr_code.only ho hlo11
    replace ho14:=ho14.onlyT ho hold rfl
    replace ho30:=ho30.onlyT ho hold rfl
    replace ho44:=ho44.onlyT ho hold rfl
    replace hW:=Kept.only hW ho hlo11
    clear hold
    have hB11:=hb
    clear hb ho
    refine Yd fun a hf=>?_
    exact ⟨A44,c44,hf.sub ⟨rfl,rfl,rfl,rfl,rfl,rfl,rfl,trivial⟩,ho44,hBV,hB4,hB11,hB22,hB24,hr_code,ho14,ho30,hW⟩
   refine Yk rfl trivial (X8 (k:=1) (vs:=[.agg #[vi xz28.k,vi xz28.a,vi xz28.b]]) (zs:=[vi xz28.k,vi xz28.a,vi xz28.b]) rfl Xg Xm rfl rfl) (fun _ _ ⟨_,_,_,h,_⟩=>h) ?_;rintro _ w31 ⟨b45,rfl,hl45,hE,hB45⟩
   have hne22_45:b22≠b45:=by have:=hB22.lt;omega
   have hne24_45:b24≠b45:=by have:=hB24.lt;omega
   have hlo45:=Nat.le_trans hW.size hl45
   have haw1_45:=hr_code.away hl45
   have haw14_45:=ho14.away hl45
   have haw30_45:=ho30.away hl45
   have haw32_45:=hr32.away hl45
   replace hBV:=hBV.below hE
   replace hB4:=hB4.below hE
   replace hB11:=hB11.below hE
   replace hB22:=hB22.below hE
   replace hB24:=hB24.below hE
   replace hr_code:=hr_code.below hE
   replace ho14:=ho14.below hE
   replace ho30:=ho30.below hE
   replace hr32:=hr32.below hE
   replace hW:=ktr hW hE
   refine Y1 0 ?_
   refine Yk rfl trivial (X8 (k:=0) (vs:=[]) (zs:=[]) rfl Xg Xm rfl rfl) (fun _ _ ⟨_,_,_,h,_⟩=>h) ?_;rintro _ w32 ⟨b47,rfl,hl47,hE,hB47⟩
   have hne22_47:b22≠b47:=by have:=hB22.lt;omega
   have hne24_47:b24≠b47:=by have:=hB24.lt;omega
   have hne45_47:b45≠b47:=by have:=hB45.lt;omega
   have hlo47:=Nat.le_trans hW.size hl47
   have haw1_47:=hr_code.away hl47
   have haw14_47:=ho14.away hl47
   have haw30_47:=ho30.away hl47
   have haw32_47:=hr32.away hl47
   replace hBV:=hBV.below hE
   replace hB4:=hB4.below hE
   replace hB11:=hB11.below hE
   replace hB22:=hB22.below hE
   replace hB24:=hB24.below hE
   replace hB45:=hB45.below hE
   replace hr_code:=hr_code.below hE
   replace ho14:=ho14.below hE
   replace ho30:=ho30.below hE
   replace hr32:=hr32.below hE
   replace hW:=ktr hW hE
   refine Y1 5 ?_
   refine Yk rfl trivial (X1b (enc:=encG) (l2:=((gs.take xz39.toNat))) rfl rfl Xg Xm Xe X0b hB47 hr32 (by simp only [maxLen];simp;omega) (by simp;omega)) (fun _ _ ⟨A49,c49,_,ho49,hE,hat⟩=>hE) ?_;rintro _ w33 ⟨A49,c49,rfl,ho49,hE,hat⟩
   have haw49_22:=hat _ hB22.lt hne22_47
   have haw49_24:=hat _ hB24.lt hne24_47
   have haw49_45:=hat _ hB45.lt hne45_47
   have hap14_49:=Apart.new0 ho14 haw14_47 hat
   have hap30_49:=Apart.new0 ho30 haw30_47 hat
   clear hat
   replace ho49:=ho49.lower hlo47
   replace hBV:=hBV.below hE
   replace hB4:=hB4.below hE
   replace hB11:=hB11.below hE
   replace hB22:=hB22.below hE
   replace hB24:=hB24.below hE
   replace hB45:=hB45.below hE
   replace hr_code:=hr_code.below hE
   replace ho14:=ho14.below hE
   replace ho30:=ho30.below hE
   replace hr32:=hr32.below hE
   replace hW:=ktr hW hE
   refine Y1 8 ?_
   refine Yt rfl trivial rfl (X0q (enc:=encG) (l:=((gs.take xz39.toNat))) (l2:=([xz28])) (B0:=w0.heap.size) rfl rfl Xg Xm Xe X0b ho49 (Rd.of_blk hB45 rfl _ hB45.lt) (by simp only [maxLen];simp;omega) (by simp;omega) hW.size) ?_;rintro _ w34 ⟨A50,c50,rfl,ho50,hg,hat⟩
   have hown:Own _ w0.heap.size 24 3 encG _ _ ((gs.take xz39.toNat)):=ho49
   have haw50_22:=hat _ hB22.lt haw49_22
   have haw50_24:=hat _ hB24.lt haw49_24
   have haw50_45:=hat _ hB45.lt haw49_45
   have hap14_50:=Apart.app ho14 hap14_49 hat
   have hap30_50:=Apart.app ho30 hap30_49 hat
   clear hat
   replace hBV:=hBV.appT hown hg rfl
   replace hB4:=hB4.appT hown hg rfl
   replace hB11:=hB11.appT hown hg rfl
   replace hB22:=hB22.appA hg haw49_22
   replace hB24:=hB24.appA hg haw49_24
   replace hr_code:=hr_code.appB hown hg (Nat.le_refl _)
   replace ho14:=ho14.appP hg hap14_49
   replace ho30:=ho30.appP hg hap30_49
   replace hW:=Kept.app hW hown hg (Nat.le_refl _) hW.size
   clear hown hg
   refine Y1 10 ?_
   refine Yt rfl trivial rfl (X0q (enc:=encG) (l:=((gs.take xz39.toNat)++([xz28]))) (l2:=((gs.drop xz39.toNat))) (B0:=w0.heap.size) rfl rfl Xg Xm Xe X0b ho50 ho30.rd (by simp only [maxLen];simp;omega) (by simp;omega) hW.size) ?_;rintro _ w35 ⟨A51,c51,rfl,ho51,hg,hat⟩
   have hown:Own _ w0.heap.size 24 3 encG _ _ ((gs.take xz39.toNat)++([xz28])):=ho50
   have haw51_22:=hat _ hB22.lt haw50_22
   have haw51_24:=hat _ hB24.lt haw50_24
   have hap14_51:=Apart.app ho14 hap14_50 hat
   have hap30_51:=Apart.app ho30 hap30_50 hat
   clear hat
   replace hBV:=hBV.appT hown hg rfl
   replace hB4:=hB4.appT hown hg rfl
   replace hB11:=hB11.appT hown hg rfl
   replace hB22:=hB22.appA hg haw50_22
   replace hB24:=hB24.appA hg haw50_24
   replace hr_code:=hr_code.appB hown hg (Nat.le_refl _)
   replace ho14:=ho14.appP hg hap14_50
   replace ho30:=ho30.appP hg hap30_50
   replace hW:=Kept.app hW hown hg (Nat.le_refl _) hW.size
   clear hown hg
   refine Yo 11 rfl (fun _=>Vd rfl X00 1) ?_
   refine Y1 12 ?_
   refine Yh rfl trivial rfl (Vu (vs:=[.slice A51 (((gs.take xz39.toNat)++([xz28]))++(gs.drop xz39.toNat)).length c51]) (l':=[vi cz18.n,.slice A51 (((gs.take xz39.toNat)++([xz28]))++(gs.drop xz39.toNat)).length c51]) rfl rfl X2j hB11) ?_;rintro _ w36 ⟨ho,hb⟩
   have hold:=hB11
   replace hBV:=hBV.only ho (Blk.ne hBV hold rfl)
   replace hB4:=hB4.only ho (by omega)
   replace hB22:=hB22.only ho (Blk.ne hB22 hold rfl)
   replace hB24:=hB24.only ho (Blk.ne hB24 hold rfl)
   replace hr_code:=hr_code.only ho hlo11
   replace ho14:=ho14.onlyT ho hold rfl
   replace ho30:=ho30.onlyT ho hold rfl
   replace ho51:=ho51.onlyT ho hold rfl
   replace hW:=Kept.only hW ho hlo11
   clear hold
   have hB11:=hb
   clear hb ho
   refine Yd fun a hf=>?_
   exact ⟨A51,c51,hf.sub ⟨rfl,rfl,rfl,rfl,rfl,rfl,rfl,trivial⟩,ho51,hBV,hB4,hB11,hB22,hB24,hr_code,ho14,ho30,hW⟩
  rintro a w37 ⟨A39,c39,hf,ho39,hBV,hB4,hB11,hB22,hB24,hr_code,ho14,ho30,hW⟩
  refine hK31 _ _ ?_
  refine Zs hf fun _ hK52=>?_
  refine Zm rfl<|Ze (X07 rfl rfl (by omega) (by omega))<|Zm rfl<|Ze (Vd rfl X00 1)<|Ze (X0 rfl X0d (hB11.at 1)) ?_
  refine Ze (X0y rfl Xg)<|Zm rfl<|Ze (X1e rfl rfl (by omega) (by omega)) ?_
  refine Zf (Vc (Xkr _ 3 (((((gs.take xz39.toNat)++([xz28]))++(gs.drop xz39.toNat)).length:Int)-xz39)) Xda) ?_;rintro _ w38 ⟨rfl,hE⟩
  replace hBV:=hBV.below hE
  replace hB4:=hB4.below hE
  replace hB11:=hB11.below hE
  replace hB24:=hB24.below hE
  replace hr_code:=hr_code.below hE
  replace ho39:=ho39.below hE
  replace hW:=ktr hW hE
  refine Zf (Vc (X2h _ bV Acd ccd code hr_code.top hcd hav tz39 sz39 hBV (min 3 (((((gs.take xz39.toNat)++([xz28]))++(gs.drop xz39.toNat)).length:Int)-xz39)) (by omega)) X1j) ?_;rintro _ w39 ⟨xz67,tz67,sz67,rfl,hPz67,htz67,hK,hbn⟩
  obtain ⟨wm,hO,hm,hE⟩:=hK.mid;clear hm
  have hold:=hBV
  replace hB4:=hB4.only hO (Blk.ne hB4 hold rfl)
  replace hB11:=hB11.only hO (Blk.ne hB11 hold rfl)
  replace hB24:=hB24.only hO (Blk.ne hB24 hold rfl)
  replace hr_code:=hr_code.onlyA hO hav
  replace ho39:=ho39.onlyT hO hold rfl
  replace hW:=hW.self hO
  replace hB4:=hB4.below hE
  replace hB11:=hB11.below hE
  replace hB24:=hB24.below hE
  replace hr_code:=hr_code.below hE
  replace ho39:=ho39.below hE
  replace hW:=ktr hW hE
  clear hold hE hO hK;replace hBV:=hbn;clear hbn
  refine Ze (X07 rfl rfl (by omega) (by omega))<|Za rfl ?_
  refine Zt hK52 fun a hf=>?_
  refine Zs hf fun _ hK53=>?_
  refine Zf (X8 (k:=0) (vs:=[]) (zs:=[]) rfl Xg Xm rfl rfl) ?_;rintro _ w40 ⟨b54,rfl,hl54,hE,hB54⟩
  have hne24_54:b24≠b54:=by have:=hB24.lt;omega
  have hlo54:=Nat.le_trans hW.size hl54
  have haw1_54:=hr_code.away hl54
  have haw39_54:=ho39.away hl54
  replace hBV:=hBV.below hE
  replace hB4:=hB4.below hE
  replace hB11:=hB11.below hE
  replace hB24:=hB24.below hE
  replace hr_code:=hr_code.below hE
  replace ho39:=ho39.below hE
  replace hW:=ktr hW hE
  refine Ze (Vd rfl X00 1)<|Ze (X0 rfl X0d (hB11.at 1))<|Zm rfl ?_
  have hr56:=(ho39.rd.top).dropK Xe (c:=c39) ho39.cap ((xz39+1+xz67).toNat)
  refine Ze (X8h (l:=(((gs.take xz39.toNat)++([xz28]))++(gs.drop xz39.toNat))) (k:=(xz39+1+xz67).toNat) rfl rfl Xg X08 (by omega) (by omega)) ?_
  refine Zf (X1b (enc:=encG) (l2:=(((((gs.take xz39.toNat)++([xz28]))++(gs.drop xz39.toNat)).drop ((xz39+1+xz67).toNat)))) rfl rfl Xg Xm Xe X0b hB54 hr56 (by simp only [maxLen];simp;omega) (by simp;omega)) ?_;rintro _ w41 ⟨A57,c57,rfl,ho57,hE,hat⟩
  have haw57_24:=hat _ hB24.lt hne24_54
  have hap39_57:=Apart.new0 ho39 haw39_54 hat
  clear hat
  replace ho57:=ho57.lower hlo54
  replace hBV:=hBV.below hE
  replace hB4:=hB4.below hE
  replace hB11:=hB11.below hE
  replace hB24:=hB24.below hE
  replace hr_code:=hr_code.below hE
  replace ho39:=ho39.below hE
  replace hr56:=hr56.below hE
  replace hW:=ktr hW hE
  refine Za rfl ?_
  refine Zt hK53 fun a hf=>?_
  refine X0h (fun a w=>∃ A65 c65,Fr a 88 [(0,.pointer (some ⟨bV,0,none⟩)),(2,.pointer (some ⟨b4,0,none⟩)),(3,vi (1+xz13)),(4,.pointer (some ⟨b11,0,none⟩)),(5,vi j)]∧Own w w0.heap.size 24 3 encG A65 c65 ((((((gs.take xz39.toNat)++([xz28]))++(gs.drop xz39.toNat)).take ((xz39+1+xz67).toNat))++([(bkG xz28)]))++((((gs.take xz39.toNat)++([xz28]))++(gs.drop xz39.toNat)).drop ((xz39+1+xz67).toNat)))∧Blk w bV 80 [.slice Acd code.length ccd,vi (tz67:Int),.int .u64 sz67]∧Blk w b4 31 [vi 0,.slice none 0 0]∧Blk w b11 31 [vi cz18.n,.slice A65 ((((((gs.take xz39.toNat)++([xz28]))++(gs.drop xz39.toNat)).take ((xz39+1+xz67).toNat))++([(bkG xz28)]))++((((gs.take xz39.toNat)++([xz28]))++(gs.drop xz39.toNat)).drop ((xz39+1+xz67).toNat))).length c65]∧Blk w b24 24 [vi ((bkG xz28).k),vi ((bkG xz28).a),vi ((bkG xz28).b)]∧Rd w w0.heap.size Xcd encU Acd code∧Own w w0.heap.size 24 3 encG A39 c39 (((gs.take xz39.toNat)++([xz28]))++(gs.drop xz39.toNat))∧Own w w0.heap.size 24 3 encG A57 c57 ((((gs.take xz39.toNat)++([xz28]))++(gs.drop xz39.toNat)).drop ((xz39+1+xz67).toNat))∧Kept bV w0.heap.size w0 w) ?_ ?_
  ·refine X09 none (fun j=>[8,10,12].contains j) mixed ?_
   intro w42 hE
   replace hBV:=hBV.below hE
   replace hB4:=hB4.below hE
   replace hB11:=hB11.below hE
   replace hB24:=hB24.below hE
   replace hr_code:=hr_code.below hE
   replace ho39:=ho39.below hE
   replace ho57:=ho57.below hE
   replace hW:=ktr hW hE
   refine Yb hf ?_
   refine Yo 1 rfl (fun _=>Vd rfl X00 1)<|Ye 2 rfl (X0 rfl X0d (hB11.at 1))<|Yo 3 rfl (fun _=>X7 rfl) ?_
   have hr58:=(ho39.rd.top).takeK Xe ((xz39+1+xz67).toNat)
   refine Yo 4 rfl (fun _=>X83 (l:=(((gs.take xz39.toNat)++([xz28]))++(gs.drop xz39.toNat))) (k:=(xz39+1+xz67).toNat) rfl rfl Xg X08 (by omega) (by omega) ho39.cap)<|Ye 6 rfl (Vn X01 hB24)<|Yo 9 rfl (fun _=>X7 rfl) ?_
   refine Y2 0 7 ?_ ?_
   ·refine Yk rfl trivial (X8 (k:=0) (vs:=[]) (zs:=[]) rfl Xg Xm rfl rfl) (fun _ _ ⟨_,_,_,h,_⟩=>h) ?_;rintro _ w43 ⟨b59,rfl,hl59,hE,hB59⟩
    have hne24_59:b24≠b59:=by have:=hB24.lt;omega
    have hlo59:=Nat.le_trans hW.size hl59
    have haw1_59:=hr_code.away hl59
    have haw39_59:=ho39.away hl59
    have haw57_59:=ho57.away hl59
    have haw58_59:=hr58.away hl59
    replace hBV:=hBV.below hE
    replace hB4:=hB4.below hE
    replace hB11:=hB11.below hE
    replace hB24:=hB24.below hE
    replace hr_code:=hr_code.below hE
    replace ho39:=ho39.below hE
    replace ho57:=ho57.below hE
    replace hr58:=hr58.below hE
    replace hW:=ktr hW hE
    refine Y2 5 7 ?_ ?_
    ·refine Yk rfl trivial (X1b (enc:=encG) (l2:=(((((gs.take xz39.toNat)++([xz28]))++(gs.drop xz39.toNat)).take ((xz39+1+xz67).toNat)))) rfl rfl Xg Xm Xe X0b hB59 hr58 (by simp only [maxLen];simp;omega) (by simp;omega)) (fun _ _ ⟨A61,c61,_,ho61,hE,hat⟩=>hE) ?_;rintro _ w44 ⟨A61,c61,rfl,ho61,hE,hat⟩
     have haw61_24:=hat _ hB24.lt hne24_59
     have hap39_61:=Apart.new0 ho39 haw39_59 hat
     have hap57_61:=Apart.new0 ho57 haw57_59 hat
     clear hat
     replace ho61:=ho61.lower hlo59
     replace hBV:=hBV.below hE
     replace hB4:=hB4.below hE
     replace hB11:=hB11.below hE
     replace hB24:=hB24.below hE
     replace hr_code:=hr_code.below hE
     replace ho39:=ho39.below hE
     replace ho57:=ho57.below hE
     replace hr58:=hr58.below hE
     replace hW:=ktr hW hE
     refine Y1 7 ?_
     refine Yk rfl trivial (X8 (k:=1) (vs:=[.agg #[vi ((bkG xz28).k),vi ((bkG xz28).a),vi ((bkG xz28).b)]]) (zs:=[vi ((bkG xz28).k),vi ((bkG xz28).a),vi ((bkG xz28).b)]) rfl Xg Xm rfl rfl) (fun _ _ ⟨_,_,_,h,_⟩=>h) ?_;rintro _ w45 ⟨b62,rfl,hl62,hE,hB62⟩
     have hne24_62:b24≠b62:=by have:=hB24.lt;omega
     have hlo62:=Nat.le_trans hW.size hl62
     have haw1_62:=hr_code.away hl62
     have haw39_62:=ho39.away hl62
     have haw57_62:=ho57.away hl62
     have haw58_62:=hr58.away hl62
     have haw61_62:=ho61.away hl62
     replace hBV:=hBV.below hE
     replace hB4:=hB4.below hE
     replace hB11:=hB11.below hE
     replace hB24:=hB24.below hE
     replace hr_code:=hr_code.below hE
     replace ho39:=ho39.below hE
     replace ho57:=ho57.below hE
     replace hr58:=hr58.below hE
     replace ho61:=ho61.below hE
     replace hW:=ktr hW hE
     refine Y1 8 ?_
     refine Yt rfl trivial rfl (X0q (enc:=encG) (l:=(((((gs.take xz39.toNat)++([xz28]))++(gs.drop xz39.toNat)).take ((xz39+1+xz67).toNat)))) (l2:=([(bkG xz28)])) (B0:=w0.heap.size) rfl rfl Xg Xm Xe X0b ho61 (Rd.of_blk hB62 rfl _ hB62.lt) (by simp only [maxLen];simp;omega) (by simp;omega) hW.size) ?_;rintro _ w46 ⟨A64,c64,rfl,ho64,hg,hat⟩
     have hown:Own _ w0.heap.size 24 3 encG _ _ (((((gs.take xz39.toNat)++([xz28]))++(gs.drop xz39.toNat)).take ((xz39+1+xz67).toNat))):=ho61
     have haw64_24:=hat _ hB24.lt haw61_24
     have haw64_62:=hat _ hB62.lt haw61_62
     have hap39_64:=Apart.app ho39 hap39_61 hat
     have hap57_64:=Apart.app ho57 hap57_61 hat
     clear hat
     replace hBV:=hBV.appT hown hg rfl
     replace hB4:=hB4.appT hown hg rfl
     replace hB11:=hB11.appT hown hg rfl
     replace hB24:=hB24.appA hg haw61_24
     replace hr_code:=hr_code.appB hown hg (Nat.le_refl _)
     replace ho39:=ho39.appP hg hap39_61
     replace ho57:=ho57.appP hg hap57_61
     replace hW:=Kept.app hW hown hg (Nat.le_refl _) hW.size
     clear hown hg
     refine Y1 10 ?_
     refine Yt rfl trivial rfl (X0q (enc:=encG) (l:=(((((gs.take xz39.toNat)++([xz28]))++(gs.drop xz39.toNat)).take ((xz39+1+xz67).toNat))++([(bkG xz28)]))) (l2:=(((((gs.take xz39.toNat)++([xz28]))++(gs.drop xz39.toNat)).drop ((xz39+1+xz67).toNat)))) (B0:=w0.heap.size) rfl rfl Xg Xm Xe X0b ho64 ho57.rd (by simp only [maxLen];simp;omega) (by simp;omega) hW.size) ?_;rintro _ w47 ⟨A65,c65,rfl,ho65,hg,hat⟩
     have hown:Own _ w0.heap.size 24 3 encG _ _ (((((gs.take xz39.toNat)++([xz28]))++(gs.drop xz39.toNat)).take ((xz39+1+xz67).toNat))++([(bkG xz28)])):=ho64
     have haw65_24:=hat _ hB24.lt haw64_24
     have hap39_65:=Apart.app ho39 hap39_64 hat
     have hap57_65:=Apart.app ho57 hap57_64 hat
     clear hat
     replace hBV:=hBV.appT hown hg rfl
     replace hB4:=hB4.appT hown hg rfl
     replace hB11:=hB11.appT hown hg rfl
     replace hB24:=hB24.appA hg haw64_24
     replace hr_code:=hr_code.appB hown hg (Nat.le_refl _)
     replace ho39:=ho39.appP hg hap39_64
     replace ho57:=ho57.appP hg hap57_64
     replace hW:=Kept.app hW hown hg (Nat.le_refl _) hW.size
     clear hown hg
     refine Yo 11 rfl (fun _=>Vd rfl X00 1) ?_
     refine Y1 12 ?_
     refine Yh rfl trivial rfl (Vu (vs:=[.slice A65 ((((((gs.take xz39.toNat)++([xz28]))++(gs.drop xz39.toNat)).take ((xz39+1+xz67).toNat))++([(bkG xz28)]))++((((gs.take xz39.toNat)++([xz28]))++(gs.drop xz39.toNat)).drop ((xz39+1+xz67).toNat))).length c65]) (l':=[vi cz18.n,.slice A65 ((((((gs.take xz39.toNat)++([xz28]))++(gs.drop xz39.toNat)).take ((xz39+1+xz67).toNat))++([(bkG xz28)]))++((((gs.take xz39.toNat)++([xz28]))++(gs.drop xz39.toNat)).drop ((xz39+1+xz67).toNat))).length c65]) rfl rfl X2j hB11) ?_;rintro _ w48 ⟨ho,hb⟩
     have hold:=hB11
     replace hBV:=hBV.only ho (Blk.ne hBV hold rfl)
     replace hB4:=hB4.only ho (by omega)
     replace hB24:=hB24.only ho (Blk.ne hB24 hold rfl)
     replace hr_code:=hr_code.only ho hlo11
     replace ho39:=ho39.onlyT ho hold rfl
     replace ho57:=ho57.onlyT ho hold rfl
     replace ho65:=ho65.onlyT ho hold rfl
     replace hW:=Kept.only hW ho hlo11
     clear hold
     have hB11:=hb
     clear hb ho
     refine Yd fun a hf=>?_
     exact ⟨A65,c65,hf.sub ⟨rfl,rfl,rfl,rfl,rfl,trivial⟩,ho65,hBV,hB4,hB11,hB24,hr_code,ho39,ho57,hW⟩
    refine Yk rfl trivial (X8 (k:=1) (vs:=[.agg #[vi ((bkG xz28).k),vi ((bkG xz28).a),vi ((bkG xz28).b)]]) (zs:=[vi ((bkG xz28).k),vi ((bkG xz28).a),vi ((bkG xz28).b)]) rfl Xg Xm rfl rfl) (fun _ _ ⟨_,_,_,h,_⟩=>h) ?_;rintro _ w49 ⟨b66,rfl,hl66,hE,hB66⟩
    have hne24_66:b24≠b66:=by have:=hB24.lt;omega
    have hne59_66:b59≠b66:=by have:=hB59.lt;omega
    have hlo66:=Nat.le_trans hW.size hl66
    have haw1_66:=hr_code.away hl66
    have haw39_66:=ho39.away hl66
    have haw57_66:=ho57.away hl66
    have haw58_66:=hr58.away hl66
    replace hBV:=hBV.below hE
    replace hB4:=hB4.below hE
    replace hB11:=hB11.below hE
    replace hB24:=hB24.below hE
    replace hB59:=hB59.below hE
    replace hr_code:=hr_code.below hE
    replace ho39:=ho39.below hE
    replace ho57:=ho57.below hE
    replace hr58:=hr58.below hE
    replace hW:=ktr hW hE
    refine Y1 5 ?_
    refine Yk rfl trivial (X1b (enc:=encG) (l2:=(((((gs.take xz39.toNat)++([xz28]))++(gs.drop xz39.toNat)).take ((xz39+1+xz67).toNat)))) rfl rfl Xg Xm Xe X0b hB59 hr58 (by simp only [maxLen];simp;omega) (by simp;omega)) (fun _ _ ⟨A68,c68,_,ho68,hE,hat⟩=>hE) ?_;rintro _ w50 ⟨A68,c68,rfl,ho68,hE,hat⟩
    have haw68_24:=hat _ hB24.lt hne24_59
    have haw68_66:=hat _ hB66.lt (Ne.symm hne59_66)
    have hap39_68:=Apart.new0 ho39 haw39_59 hat
    have hap57_68:=Apart.new0 ho57 haw57_59 hat
    clear hat
    replace ho68:=ho68.lower hlo59
    replace hBV:=hBV.below hE
    replace hB4:=hB4.below hE
    replace hB11:=hB11.below hE
    replace hB24:=hB24.below hE
    replace hB66:=hB66.below hE
    replace hr_code:=hr_code.below hE
    replace ho39:=ho39.below hE
    replace ho57:=ho57.below hE
    replace hr58:=hr58.below hE
    replace hW:=ktr hW hE
    refine Y1 8 ?_
    refine Yt rfl trivial rfl (X0q (enc:=encG) (l:=(((((gs.take xz39.toNat)++([xz28]))++(gs.drop xz39.toNat)).take ((xz39+1+xz67).toNat)))) (l2:=([(bkG xz28)])) (B0:=w0.heap.size) rfl rfl Xg Xm Xe X0b ho68 (Rd.of_blk hB66 rfl _ hB66.lt) (by simp only [maxLen];simp;omega) (by simp;omega) hW.size) ?_;rintro _ w51 ⟨A69,c69,rfl,ho69,hg,hat⟩
    have hown:Own _ w0.heap.size 24 3 encG _ _ (((((gs.take xz39.toNat)++([xz28]))++(gs.drop xz39.toNat)).take ((xz39+1+xz67).toNat))):=ho68
    have haw69_24:=hat _ hB24.lt haw68_24
    have haw69_66:=hat _ hB66.lt haw68_66
    have hap39_69:=Apart.app ho39 hap39_68 hat
    have hap57_69:=Apart.app ho57 hap57_68 hat
    clear hat
    replace hBV:=hBV.appT hown hg rfl
    replace hB4:=hB4.appT hown hg rfl
    replace hB11:=hB11.appT hown hg rfl
    replace hB24:=hB24.appA hg haw68_24
    replace hr_code:=hr_code.appB hown hg (Nat.le_refl _)
    replace ho39:=ho39.appP hg hap39_68
    replace ho57:=ho57.appP hg hap57_68
    replace hW:=Kept.app hW hown hg (Nat.le_refl _) hW.size
    clear hown hg
    refine Y1 10 ?_
    refine Yt rfl trivial rfl (X0q (enc:=encG) (l:=(((((gs.take xz39.toNat)++([xz28]))++(gs.drop xz39.toNat)).take ((xz39+1+xz67).toNat))++([(bkG xz28)]))) (l2:=(((((gs.take xz39.toNat)++([xz28]))++(gs.drop xz39.toNat)).drop ((xz39+1+xz67).toNat)))) (B0:=w0.heap.size) rfl rfl Xg Xm Xe X0b ho69 ho57.rd (by simp only [maxLen];simp;omega) (by simp;omega) hW.size) ?_;rintro _ w52 ⟨A70,c70,rfl,ho70,hg,hat⟩
    have hown:Own _ w0.heap.size 24 3 encG _ _ (((((gs.take xz39.toNat)++([xz28]))++(gs.drop xz39.toNat)).take ((xz39+1+xz67).toNat))++([(bkG xz28)])):=ho69
    have haw70_24:=hat _ hB24.lt haw69_24
    have hap39_70:=Apart.app ho39 hap39_69 hat
    have hap57_70:=Apart.app ho57 hap57_69 hat
    clear hat
    replace hBV:=hBV.appT hown hg rfl
    replace hB4:=hB4.appT hown hg rfl
    replace hB11:=hB11.appT hown hg rfl
    replace hB24:=hB24.appA hg haw69_24
    replace hr_code:=hr_code.appB hown hg (Nat.le_refl _)
    replace ho39:=ho39.appP hg hap39_69
    replace ho57:=ho57.appP hg hap57_69
    replace hW:=Kept.app hW hown hg (Nat.le_refl _) hW.size
    clear hown hg
    refine Yo 11 rfl (fun _=>Vd rfl X00 1) ?_
    refine Y1 12 ?_
    refine Yh rfl trivial rfl (Vu (vs:=[.slice A70 ((((((gs.take xz39.toNat)++([xz28]))++(gs.drop xz39.toNat)).take ((xz39+1+xz67).toNat))++([(bkG xz28)]))++((((gs.take xz39.toNat)++([xz28]))++(gs.drop xz39.toNat)).drop ((xz39+1+xz67).toNat))).length c70]) (l':=[vi cz18.n,.slice A70 ((((((gs.take xz39.toNat)++([xz28]))++(gs.drop xz39.toNat)).take ((xz39+1+xz67).toNat))++([(bkG xz28)]))++((((gs.take xz39.toNat)++([xz28]))++(gs.drop xz39.toNat)).drop ((xz39+1+xz67).toNat))).length c70]) rfl rfl X2j hB11) ?_;rintro _ w53 ⟨ho,hb⟩
    have hold:=hB11
    replace hBV:=hBV.only ho (Blk.ne hBV hold rfl)
    replace hB4:=hB4.only ho (by omega)
    replace hB24:=hB24.only ho (Blk.ne hB24 hold rfl)
    replace hr_code:=hr_code.only ho hlo11
    replace ho39:=ho39.onlyT ho hold rfl
    replace ho57:=ho57.onlyT ho hold rfl
    replace ho70:=ho70.onlyT ho hold rfl
    replace hW:=Kept.only hW ho hlo11
    clear hold
    have hB11:=hb
    clear hb ho
    refine Yd fun a hf=>?_
    exact ⟨A70,c70,hf.sub ⟨rfl,rfl,rfl,rfl,rfl,trivial⟩,ho70,hBV,hB4,hB11,hB24,hr_code,ho39,ho57,hW⟩
   refine Yk rfl trivial (X8 (k:=1) (vs:=[.agg #[vi ((bkG xz28).k),vi ((bkG xz28).a),vi ((bkG xz28).b)]]) (zs:=[vi ((bkG xz28).k),vi ((bkG xz28).a),vi ((bkG xz28).b)]) rfl Xg Xm rfl rfl) (fun _ _ ⟨_,_,_,h,_⟩=>h) ?_;rintro _ w54 ⟨b71,rfl,hl71,hE,hB71⟩
   have hne24_71:b24≠b71:=by have:=hB24.lt;omega
   have hlo71:=Nat.le_trans hW.size hl71
   have haw1_71:=hr_code.away hl71
   have haw39_71:=ho39.away hl71
   have haw57_71:=ho57.away hl71
   have haw58_71:=hr58.away hl71
   replace hBV:=hBV.below hE
   replace hB4:=hB4.below hE
   replace hB11:=hB11.below hE
   replace hB24:=hB24.below hE
   replace hr_code:=hr_code.below hE
   replace ho39:=ho39.below hE
   replace ho57:=ho57.below hE
   replace hr58:=hr58.below hE
   replace hW:=ktr hW hE
   refine Y1 0 ?_
   refine Yk rfl trivial (X8 (k:=0) (vs:=[]) (zs:=[]) rfl Xg Xm rfl rfl) (fun _ _ ⟨_,_,_,h,_⟩=>h) ?_;rintro _ w55 ⟨b73,rfl,hl73,hE,hB73⟩
   have hne24_73:b24≠b73:=by have:=hB24.lt;omega
   have hne71_73:b71≠b73:=by have:=hB71.lt;omega
   have hlo73:=Nat.le_trans hW.size hl73
   have haw1_73:=hr_code.away hl73
   have haw39_73:=ho39.away hl73
   have haw57_73:=ho57.away hl73
   have haw58_73:=hr58.away hl73
   replace hBV:=hBV.below hE
   replace hB4:=hB4.below hE
   replace hB11:=hB11.below hE
   replace hB24:=hB24.below hE
   replace hB71:=hB71.below hE
   replace hr_code:=hr_code.below hE
   replace ho39:=ho39.below hE
   replace ho57:=ho57.below hE
   replace hr58:=hr58.below hE
   replace hW:=ktr hW hE
   refine Y1 5 ?_
   refine Yk rfl trivial (X1b (enc:=encG) (l2:=(((((gs.take xz39.toNat)++([xz28]))++(gs.drop xz39.toNat)).take ((xz39+1+xz67).toNat)))) rfl rfl Xg Xm Xe X0b hB73 hr58 (by simp only [maxLen];simp;omega) (by simp;omega)) (fun _ _ ⟨A75,c75,_,ho75,hE,hat⟩=>hE) ?_;rintro _ w56 ⟨A75,c75,rfl,ho75,hE,hat⟩
   have haw75_24:=hat _ hB24.lt hne24_73
   have haw75_71:=hat _ hB71.lt hne71_73
   have hap39_75:=Apart.new0 ho39 haw39_73 hat
   have hap57_75:=Apart.new0 ho57 haw57_73 hat
   clear hat
   replace ho75:=ho75.lower hlo73
   replace hBV:=hBV.below hE
   replace hB4:=hB4.below hE
   replace hB11:=hB11.below hE
   replace hB24:=hB24.below hE
   replace hB71:=hB71.below hE
   replace hr_code:=hr_code.below hE
   replace ho39:=ho39.below hE
   replace ho57:=ho57.below hE
   replace hr58:=hr58.below hE
   replace hW:=ktr hW hE
   refine Y1 8 ?_
   refine Yt rfl trivial rfl (X0q (enc:=encG) (l:=(((((gs.take xz39.toNat)++([xz28]))++(gs.drop xz39.toNat)).take ((xz39+1+xz67).toNat)))) (l2:=([(bkG xz28)])) (B0:=w0.heap.size) rfl rfl Xg Xm Xe X0b ho75 (Rd.of_blk hB71 rfl _ hB71.lt) (by simp only [maxLen];simp;omega) (by simp;omega) hW.size) ?_;rintro _ w57 ⟨A76,c76,rfl,ho76,hg,hat⟩
   have hown:Own _ w0.heap.size 24 3 encG _ _ (((((gs.take xz39.toNat)++([xz28]))++(gs.drop xz39.toNat)).take ((xz39+1+xz67).toNat))):=ho75
   have haw76_24:=hat _ hB24.lt haw75_24
   have haw76_71:=hat _ hB71.lt haw75_71
   have hap39_76:=Apart.app ho39 hap39_75 hat
   have hap57_76:=Apart.app ho57 hap57_75 hat
   clear hat
   replace hBV:=hBV.appT hown hg rfl
   replace hB4:=hB4.appT hown hg rfl
   replace hB11:=hB11.appT hown hg rfl
   replace hB24:=hB24.appA hg haw75_24
   replace hr_code:=hr_code.appB hown hg (Nat.le_refl _)
   replace ho39:=ho39.appP hg hap39_75
   replace ho57:=ho57.appP hg hap57_75
   replace hW:=Kept.app hW hown hg (Nat.le_refl _) hW.size
   clear hown hg
   refine Y1 10 ?_
   refine Yt rfl trivial rfl (X0q (enc:=encG) (l:=(((((gs.take xz39.toNat)++([xz28]))++(gs.drop xz39.toNat)).take ((xz39+1+xz67).toNat))++([(bkG xz28)]))) (l2:=(((((gs.take xz39.toNat)++([xz28]))++(gs.drop xz39.toNat)).drop ((xz39+1+xz67).toNat)))) (B0:=w0.heap.size) rfl rfl Xg Xm Xe X0b ho76 ho57.rd (by simp only [maxLen];simp;omega) (by simp;omega) hW.size) ?_;rintro _ w58 ⟨A77,c77,rfl,ho77,hg,hat⟩
   have hown:Own _ w0.heap.size 24 3 encG _ _ (((((gs.take xz39.toNat)++([xz28]))++(gs.drop xz39.toNat)).take ((xz39+1+xz67).toNat))++([(bkG xz28)])):=ho76
   have haw77_24:=hat _ hB24.lt haw76_24
   have hap39_77:=Apart.app ho39 hap39_76 hat
   have hap57_77:=Apart.app ho57 hap57_76 hat
   clear hat
   replace hBV:=hBV.appT hown hg rfl
   replace hB4:=hB4.appT hown hg rfl
   replace hB11:=hB11.appT hown hg rfl
   replace hB24:=hB24.appA hg haw76_24
   replace hr_code:=hr_code.appB hown hg (Nat.le_refl _)
   replace ho39:=ho39.appP hg hap39_76
   replace ho57:=ho57.appP hg hap57_76
   replace hW:=Kept.app hW hown hg (Nat.le_refl _) hW.size
   clear hown hg
   refine Yo 11 rfl (fun _=>Vd rfl X00 1) ?_
   refine Y1 12 ?_
   refine Yh rfl trivial rfl (Vu (vs:=[.slice A77 ((((((gs.take xz39.toNat)++([xz28]))++(gs.drop xz39.toNat)).take ((xz39+1+xz67).toNat))++([(bkG xz28)]))++((((gs.take xz39.toNat)++([xz28]))++(gs.drop xz39.toNat)).drop ((xz39+1+xz67).toNat))).length c77]) (l':=[vi cz18.n,.slice A77 ((((((gs.take xz39.toNat)++([xz28]))++(gs.drop xz39.toNat)).take ((xz39+1+xz67).toNat))++([(bkG xz28)]))++((((gs.take xz39.toNat)++([xz28]))++(gs.drop xz39.toNat)).drop ((xz39+1+xz67).toNat))).length c77]) rfl rfl X2j hB11) ?_;rintro _ w59 ⟨ho,hb⟩
   have hold:=hB11
   replace hBV:=hBV.only ho (Blk.ne hBV hold rfl)
   replace hB4:=hB4.only ho (by omega)
   replace hB24:=hB24.only ho (Blk.ne hB24 hold rfl)
   replace hr_code:=hr_code.only ho hlo11
   replace ho39:=ho39.onlyT ho hold rfl
   replace ho57:=ho57.onlyT ho hold rfl
   replace ho77:=ho77.onlyT ho hold rfl
   replace hW:=Kept.only hW ho hlo11
   clear hold
   have hB11:=hb
   clear hb ho
   refine Yd fun a hf=>?_
   exact ⟨A77,c77,hf.sub ⟨rfl,rfl,rfl,rfl,rfl,trivial⟩,ho77,hBV,hB4,hB11,hB24,hr_code,ho39,ho57,hW⟩
  rintro a w60 ⟨A65,c65,hf,ho65,hBV,hB4,hB11,hB24,hr_code,ho39,ho57,hW⟩
  refine Xj ?_
  refine hK18 _ _ ?_
  refine Zr hf ?_
  refine Zm rfl<|Ze (X1e rfl rfl (by omega) (by omega))<|Za rfl ?_
  refine Zn fun a hf=>?_
  refine Xs ?_
  exact ⟨(j-1,(((((gs.take xz39.toNat)++([xz28]))++(gs.drop xz39.toNat)).take ((xz39+1+xz67).toNat))++([(bkG xz28)]))++((((gs.take xz39.toNat)++([xz28]))++(gs.drop xz39.toNat)).drop ((xz39+1+xz67).toNat)),tz67,sz67),⟨A65,c65,hf.sub ⟨rfl,rfl,rfl,rfl,rfl,trivial⟩,(by simp;omega),(by omega),hBV,hB4,hB11,hr_code,ho65,hW⟩,(by first|omega|(dsimp only;omega))⟩
 have hc17b:=hc17
 have hc17:=of_decide_eq_false hc17
 refine wp_exit ?_
 refine X02 ?_
 refine X02 ?_
 refine X0f ?_
 refine hK12 _ _ ?_
 refine Zs hf fun _ hK78=>?_
 refine Ze (Vn X0p hB11) ?_
 refine Zo (Vw [vi cz18.n,.slice A14 gs.length c14] X1c hB4) ?_;rintro _ w61 ⟨ho,hb⟩
 have hold:=hB4
 replace hBV:=hBV.only ho (Blk.ne hBV hold rfl)
 replace hB11:=hB11.only ho (by omega)
 replace hr_code:=hr_code.only ho hlo4
 replace ho14:=ho14.onlyT ho hold rfl
 replace hW:=Kept.only hW ho hlo4
 clear hold
 have hB4:=hb
 clear hb ho
 refine Zt hK78 fun a hf=>?_
 refine wp_ret (X2 hf (Xz hf rfl (ResV.cellN (l:=[vi cz18.n,.slice A14 gs.length c14]) rfl X0p (hB4.at 0) rfl)) ?_)
 exact ⟨⟨_,gs⟩,A14,c14,_,_,rfl,⟨(by show 1≤cz18.n∧cz18.n≤3;omega),(by show gs.length≤14;omega)⟩,⟨by omega,by omega⟩,ho14,hW,hBV⟩
end Go.Proofs.YtlfjcmldfbfdbaaGreat
namespace Go.Proofs.YtlfjcmldfbfdbaaGreat
open Go.RowKit
theorem DeepR.nil(w:World)(B:Nat)(E:TypeId) : DeepR w B E []:=fun s hs=>by simp at hs
theorem DeepR.snoc{w:World}{B:Nat}{E:TypeId}{l:List Sr}{x:Sr}(h:DeepR w B E l)(h1:Rd w B E encG x.A x.old)(h2:Rd w B E encG x.B x.new) : DeepR w B E (l++[x]):=fun s hs=>by
 rcases List.mem_append.1 hs with hs|hs
 ·exact h s hs
 ·rw [List.mem_singleton] at hs
  subst hs
  exact ⟨h1,h2⟩
section
variable {P : Program} {a : Act} {w : World} {n : Nat} {e : Env} {ty : TypeId} {pos : String} {af : Array Edge} {g : Option (Nat × Bool)} {d : Option Tmp}
theorem Xf2{T f k:Nat}{x:Operand}{vs:List Value}{v:Value}(hf:Fr a n e)(hx:ev e x=some (.agg vs.toArray))(hF:∃ fs F,P.underlying T=some (.struct fs)∧fs[f]? = some F∧F.offset=k∧OneT P F.type)(hv:vs[k]? = some v) : Ev P ⟨d,.field T x f,ty,pos,af,g⟩ a w v:=fun w' _=>by
 obtain ⟨fs,F,h1,h2,h3,dd,h4,h5⟩:=hF
 have h6:=X3g (P:=P) (w:=w') ⟨dd,h4,h5⟩
 simp [execOp,hf.ev hx,Instr.field,X0r h1,h2,asAgg,part,h6,h3,hv]
theorem Xj7{T f k:Nat}{x:Operand}{vs:List Value}{v:Value}(hx:ev e x=some (.agg vs.toArray))(hF:∃ fs F,P.underlying T=some (.struct fs)∧fs[f]? = some F∧F.offset=k∧OneT P F.type)(hv:vs[k]? = some v) : EvW P ⟨d,.field T x f,ty,pos,af,g⟩ n e w v:=fun a hf=>Xf2 hf hx hF hv
end
theorem X6h{l:List Gt}{k:Nat}(d:Gt)(h:k<l.length) : l[k]? = some (l.getD k d):=by
 rw [List.getD_eq_getElem?_getD,List.getElem?_eq_getElem h];rfl
theorem Xb8(g:Gt) : ∀ (l:List Gt) (j:Nat),j≤nextC g l j
 | [],j=>Nat.le_refl _
 | h::l,j=>by
  unfold nextC
  split
  ·exact Nat.le_refl _
  ·exact Nat.le_trans (Nat.le_succ j) (Xb8 g l (j+1))
theorem X9f{gs:List Gt}{r:Rp} : ∀ n,canF gs n=some r→∃ i,i<n∧canAt gs i=some r
 | 0,h=>by cases h
 | n+1,h=>by
  unfold canF at h
  split at h
  ·rename_i r' h1
   injection h with h
   subst h
   obtain ⟨i,h2,h3⟩:=X9f n h1
   exact ⟨i,by omega,h3⟩
  ·exact ⟨n,by omega,h⟩
theorem X6y{gs:List Gt}{r:Rp}(h:canS gs=some r) : ∃ i j g,gs[i]? = some g∧gs[j]? = some (bkG g)∧g.k≠12∧i<j∧j<gs.length∧j<i+40∧j=canJ g gs i∧r=canR gs i j:=by
 obtain ⟨i,hi,h1⟩:=X9f _ h
 unfold canAt at h1
 split at h1
 ·cases h1
 ·rename_i g hg
  split at h1
  ·rename_i hb
   injection h1 with h1
   unfold canB at hb
   simp only [Bool.and_eq_true,bne_iff_ne,decide_eq_true_eq] at hb
   have:=Xb8 g (gs.drop (i+1)) (i+1)
   exact ⟨i,canJ g gs i,g,hg,hb.2.2.2,hb.1,by unfold canJ;omega,by omega,by omega,rfl,h1.symm⟩
  ·cases h1
theorem X6x{n:Int}{gs:List Gt}{r:Rp}(hc:cOk ⟨n,gs⟩=true)(h:canS gs=some r) :
  ∃ d,applyS ⟨n,gs⟩ r=some d∧d.n=n∧cOk d=true∧d.gs.length+2=gs.length∧r.old.length≤41∧r.new.length≤41:=by
 obtain ⟨i,j,g,hi,hj,hk,hij,hjl,h40,_,rfl⟩:=X6y h
 obtain ⟨hn,hl,hg⟩:=X1l hc
 dsimp only at hn hl hg
 have lo:(canR gs i j).old.length=j+1-i:=by simp [canR];omega
 have ln:(canR gs i j).new.length=j-i-1:=by simp [canR];omega
 have e2:((gs.take ((canR gs i j).pos.toNat+(canR gs i j).old.length)).drop (canR gs i j).pos.toNat)=(canR gs i j).old:=by
  rw [lo]
  show (gs.take ((i:Int).toNat+(j+1-i))).drop (i:Int).toNat=(gs.take (j+1)).drop i
  rw [Int.toNat_natCast,show i+(j+1-i)=j+1 by omega]
 have mo:∀ x ∈ (canR gs i j).old,gOk n x=true:=fun x hx=>hg x (List.mem_of_mem_take (List.mem_of_mem_drop hx))
 have mn:∀ x ∈ (canR gs i j).new,gOk n x=true:=fun x hx=>hg x (List.mem_of_mem_take (List.mem_of_mem_drop hx))
 have hv:validS n (canR gs i j)=true:=by
  unfold validS
  simp only [Bool.and_eq_true,Xv,decide_eq_true_eq,Bool.not_eq_true',List.any_eq_false,lo,ln]
  refine ⟨⟨⟨hn,?_⟩,⟨fun x hx=>by simp [mo x hx],by omega⟩⟩,⟨fun x hx=>by simp [mn x hx],by omega⟩⟩
  show 0≤(i:Int)∧(i:Int)≤400
  omega
 have hf:fitS ⟨n,gs⟩ (canR gs i j)=true:=by
  unfold fitS
  rw [hv,lo,ln]
  simp only [Bool.true_and,Bool.and_eq_true,decide_eq_true_eq]
  constructor
  ·show (i:Int)+((j+1-i:Nat) : Int)≤(gs.length:Int)
   omega
  ·omega
 have ha:=X7e hf e2
 have hk2:=(X49 hc).2 _ ha
 refine ⟨_,ha,hk2.2.1,hk2.1,?_,by omega,by omega⟩
 show (gs.take (canR gs i j).pos.toNat++(canR gs i j).new++gs.drop ((canR gs i j).pos.toNat+(canR gs i j).old.length)).length+2=_
 rw [List.length_append,List.length_append,ln,lo,List.length_take,List.length_drop]
 show min (i:Int).toNat gs.length+(j-i-1)+(gs.length-((i:Int).toNat+(j+1-i)))+2=gs.length
 rw [Int.toNat_natCast]
 omega
def canRun(n:Int) : Nat→List Gt→List Rp×Cx
 | 0,gs=>([],⟨n,gs⟩)
 | k+1,gs=>match canS gs with
  | none=>([],⟨n,gs⟩)
  | some r=>(r::(canRun n k ((applyS ⟨n,gs⟩ r).getD cZ).gs).1,(canRun n k ((applyS ⟨n,gs⟩ r).getD cZ).gs).2)
def canC(c:Cx) : Cx×List Rp×Cx:=if cOk c=true then (c,canRun c.n c.gs.length c.gs) else (cZ,[],cZ)
theorem X3b{n:Int}{gs:List Gt}(h:canS gs=none) : ∀ k,canRun n k gs=([],⟨n,gs⟩)
 | 0=>rfl
 | k+1=>by unfold canRun;rw [h]
theorem X4m{n:Int}{gs:List Gt}{r:Rp}(h:canS gs=some r)(k:Nat) : canRun n (k+1) gs=(r::(canRun n k ((applyS ⟨n,gs⟩ r).getD cZ).gs).1,(canRun n k ((applyS ⟨n,gs⟩ r).getD cZ).gs).2):=by
 conv=>lhs;unfold canRun
 rw [h]
structure CanI (c:Cx) (l:List Sr) (d:Cx) (k:Nat) : Prop where
 run:canRun c.n c.gs.length c.gs=(l.map Sr.rp++(canRun c.n k d.gs).1,(canRun c.n k d.gs).2)
 ok:cOk d=true
 n:d.n=c.n
 le:d.gs.length≤k
 len:l.length+d.gs.length≤c.gs.length
 small:∀ s ∈ l,s.old.length≤41∧s.new.length≤41
theorem CanI.start{c:Cx}(h:cOk c=true) : CanI c [] c c.gs.length:=⟨rfl,h,rfl,Nat.le_refl _,by simp,fun s hs=>by simp at hs⟩
theorem CanI.next{c d:Cx}{l:List Sr}{k:Nat}(h:CanI c l d k){r:Rp}(hr:canS d.gs=some r){s:Sr}(hs:s.rp=r) : ∃ k',k=k'+1∧CanI c (l++[s]) ((applyS d r).getD cZ) k':=by
 have hd:d=⟨c.n,d.gs⟩:=by cases d;have:=h.n;simp only at this;rw [this]
 have hok:=h.ok
 rw [hd] at hok
 obtain ⟨e,he,e1,e2,e3,e4,e5⟩:=X6x hok hr
 have hle:=h.le
 obtain ⟨k',rfl⟩ : ∃ k',k=k'+1:=⟨k-1,by omega⟩
 have hd2:applyS d r=some e:=by rw [hd];exact he
 refine ⟨k',rfl,?_⟩
 rw [hd2,Option.getD_some]
 have hrun:=h.run
 rw [X4m hr k',he,Option.getD_some] at hrun
 refine ⟨?_,e2,e1,by omega,by have:=h.len;simp;omega,fun x hx=>?_⟩
 ·rw [hrun,List.map_append,List.append_assoc]
  simp [hs]
 ·rcases List.mem_append.1 hx with hx|hx
  ·exact h.small x hx
  ·rw [List.mem_singleton] at hx
   subst hx
   subst hs
   exact ⟨e4,e5⟩
theorem CanI.done{c d:Cx}{l:List Sr}{k:Nat}(h:CanI c l d k)(hc:cOk c=true)(hn:canS d.gs=none) : canC c=(c,l.map Sr.rp,d):=by
 unfold canC
 rw [if_pos hc,h.run,X3b hn k,List.append_nil]
 have:=h.n
 cases d
 simp only at this
 rw [this]
#print axioms CanI.next
end Go.Proofs.YtlfjcmldfbfdbaaGreat
set_option maxRecDepth 4000
namespace Go.Proofs.YtlfjcmldfbfdbaaGreat
open Go.RowKit
theorem Xp6(w0:World)(x:Gt)(y:Gt) : Ret Tryz.prog 157 [.agg #[vi x.k,vi x.a,vi x.b],.agg #[vi y.k,vi y.a,vi y.b]] w0 (fun v w=>v=.bool (metS x y)∧Below w0.heap.size w0 w):=by
 refine enter Tryz.func157 rfl 21 rfl rfl ?_
 intro a hf
 have hW:Below w0.heap.size w0 w0:=Below.refl _ _
 refine Zs hf fun _ hK1=>?_
 refine Zf (X0j (zs:=[vi x.k,vi x.a,vi x.b]) rfl rfl) ?_;rintro _ w1 ⟨b2,rfl,hl2,hE,hB2⟩
 have hlo2:=Nat.le_trans hW.size hl2
 replace hW:=btr hW hE
 refine Zf (X0j (zs:=[vi y.k,vi y.a,vi y.b]) rfl rfl) ?_;rintro _ w2 ⟨b3,rfl,hl3,hE,hB3⟩
 have hne2_3:b2≠b3:=by have:=hB2.lt;omega
 have hlo3:=Nat.le_trans hW.size hl3
 replace hB2:=hB2.below hE
 replace hW:=btr hW hE
 refine Za rfl ?_
 refine Zt hK1 fun a hf=>?_
 refine wp_seq_k fun _ hK4=>?_
 refine Zs hf fun _ hK5=>?_
 refine Ze (Vn X01 hB2) ?_
 refine Zf (X8 (k:=1) (vs:=[.agg #[vi x.k,vi x.a,vi x.b]]) (zs:=[vi x.k,vi x.a,vi x.b]) rfl Xg Xm rfl rfl) ?_;rintro _ w3 ⟨b6,rfl,hl6,hE,hB6⟩
 have hne2_6:b2≠b6:=by have:=hB2.lt;omega
 have hne3_6:b3≠b6:=by have:=hB3.lt;omega
 have hlo6:=Nat.le_trans hW.size hl6
 replace hB2:=hB2.below hE
 replace hB3:=hB3.below hE
 replace hW:=btr hW hE
 refine Zf (Vc (F87 _ (some ⟨b6,0,none⟩) 1 ([x]) (Rd.of_blk hB6 rfl _ hB6.lt) (by simp)) Xhi) ?_;rintro _ w4 ⟨A8,c8,rfl,ho8,hE⟩
 replace ho8:=ho8.lower hW.size
 replace hB2:=hB2.below hE
 replace hB3:=hB3.below hE
 replace hB6:=hB6.below hE
 replace hW:=btr hW hE
 refine Ze (X0y rfl X0z)<|Zm rfl ?_
 refine Zt hK5 fun a hf=>?_
 refine wp_block ?_
 refine X0g (σ:=Nat) (fun (k:Nat) (a:Act) (w:World)=>Fr a 21 [(3,.pointer (some ⟨b3,0,none⟩)),(9,.slice A8 (usedS ([x])).length c8),(10,vi ((usedS ([x])).length:Int)),(11,vi (k:Int))]∧(k≤(usedS [x]).length)∧(((usedS [x]).take k).any (fun q=>(usedS [y]).any fun z=>z==q)=false)∧Blk w b3 24 [vi y.k,vi y.a,vi y.b]∧Own w w0.heap.size 3 1 encI A8 c8 (usedS ([x]))∧Below w0.heap.size w0 w) (fun (k:Nat)=>(usedS [x]).length-k) 0 ?_ ?_
 ·exact ⟨hf.sub ⟨rfl,rfl,rfl,rfl,trivial⟩,(Nat.zero_le _),(by simp),hB3,ho8,hW⟩
 rintro k a w5 ⟨hf,hk,hpre,hB3,ho8,hW⟩
 have hux:=X53 [x]
 simp at hux
 refine Zs hf fun _ hK9=>?_
 refine Ze (X18 rfl rfl) ?_
 refine Zt hK9 fun a hf=>?_
 refine wp_seq_k fun _ hK10=>?_
 refine Xo hf rfl (fun hc11=>?_) (fun hc11=>?_)
 ·have hc11b:=hc11
  have hc11:=of_decide_eq_true hc11
  obtain ⟨u12,hu12⟩:=X06 (l:=(usedS ([x]))) (k:=k) (by omega)
  refine wp_skip ?_
  refine hK10 _ _ ?_
  refine wp_seq_k fun _ hK13=>?_
  refine wp_block ?_
  refine Zs hf fun _ hK14=>?_
  refine Zi (k:=k) (u:=u12) (enc:=encI) (l:=(usedS ([x]))) trivial rfl rfl X0z X1v X0w ho8.rd hu12 rfl ?_;intro p16 hat15
  refine Ze (X0 rfl X5 hat15)<|Za rfl ?_
  refine Zt hK14 fun a hf=>?_
  refine Zs hf fun _ hK17=>?_
  refine Ze (Vn X01 hB3) ?_
  refine Zf (X8 (k:=1) (vs:=[.agg #[vi y.k,vi y.a,vi y.b]]) (zs:=[vi y.k,vi y.a,vi y.b]) rfl Xg Xm rfl rfl) ?_;rintro _ w6 ⟨b18,rfl,hl18,hE,hB18⟩
  have hne3_18:b3≠b18:=by have:=hB3.lt;omega
  have hlo18:=Nat.le_trans hW.size hl18
  replace hB3:=hB3.below hE
  replace ho8:=ho8.below hE
  replace hW:=btr hW hE
  refine Zf (Vc (F87 _ (some ⟨b18,0,none⟩) 1 ([y]) (Rd.of_blk hB18 rfl _ hB18.lt) (by simp)) Xhi) ?_;rintro _ w7 ⟨A20,c20,rfl,ho20,hE⟩
  replace ho20:=ho20.lower hW.size
  replace hB3:=hB3.below hE
  replace hB18:=hB18.below hE
  replace ho8:=ho8.below hE
  replace hW:=btr hW hE
  refine Zm rfl ?_
  refine Zf (Vc (Xro _ A20 c20 (usedS ([y])) ho20.rd.top u12 (by have:=X53 [y];simp at this;omega)) Xlc) ?_;rintro _ w8 ⟨rfl,hE⟩
  replace hB3:=hB3.below hE
  replace hB18:=hB18.below hE
  replace ho8:=ho8.below hE
  replace ho20:=ho20.below hE
  replace hW:=btr hW hE
  refine Zt hK17 fun a hf=>?_
  refine Xo hf rfl (fun hc21=>?_) (fun hc21=>?_)
  ·have hc21b:=hc21
   have hfin:metS x y=true:=Xqv hu12 hc21
   refine Zs hf fun _ hK22=>?_
   refine Za rfl ?_
   refine Zt hK22 fun a hf=>?_
   refine wp_ret ?_
   refine X05 ?_
   refine X6 ?_
   refine X6 ?_
   refine X05 ?_
   refine X6 ?_
   refine X2 hf (Xz hf rfl rfl) ?_
   exact ⟨by rw [hfin],hW⟩
  have hc21b:=hc21
  have hne:=hc21
  refine wp_skip ?_
  refine Xj ?_
  refine hK13 _ _ ?_
  refine Zr hf ?_
  refine Ze (X07 rfl rfl (by omega) (by omega))<|Zm rfl ?_
  refine Zn fun a hf=>?_
  refine Xs ?_
  exact ⟨k+1,⟨hf.sub ⟨rfl,rfl,rfl,rfl,trivial⟩,(by omega),(Xq5 hpre hu12 hne),hB3,ho8,hW⟩,(by omega)⟩
 have hc11b:=hc11
 have hc11:=of_decide_eq_false hc11
 have hfin:metS x y=false:=Xrb hpre (by omega)
 refine wp_exit ?_
 refine X02 ?_
 refine X02 ?_
 refine X0f ?_
 refine hK4 _ _ ?_
 refine Zs hf fun _ hK23=>?_
 refine Za rfl ?_
 refine Zt hK23 fun a hf=>?_
 refine wp_ret (X2 hf (Xz hf rfl rfl) ?_)
 exact ⟨by rw [hfin],hW⟩
theorem Xdk(w0:World)(c:Cx)(Ac:Option Addr)(cc:Nat)(hr_c:Rd w0 w0.heap.size 24 encG Ac c.gs)(hln:c.gs.length≤100000000) : Ret Tryz.prog 94 [.agg #[vi c.n,.slice Ac c.gs.length cc]] w0 (fun v w=>∃ A e,v=.agg #[vi c.n,.slice A c.gs.length e]∧Own w w0.heap.size 24 3 encG A e c.gs∧Below w0.heap.size w0 w):=by
 refine enter Tryz.func94 rfl 10 rfl rfl ?_
 intro a hf
 have hW:Below w0.heap.size w0 w0:=Below.refl _ _
 refine Zs hf fun _ hK2=>?_
 refine Zf (X0j (zs:=[vi c.n,.slice Ac c.gs.length cc]) rfl rfl) ?_;rintro _ w1 ⟨b3,rfl,hl3,hE,hB3⟩
 have hlo3:=Nat.le_trans hW.size hl3
 replace hW:=btr hW hE
 refine Zf (X9 (zs:=[vi 0,.slice none 0 0]) X2x rfl) ?_;rintro _ w2 ⟨b5,rfl,hl5,hE,hB5⟩
 have hne3_5:b3≠b5:=by have:=hB3.lt;omega
 have hlo5:=Nat.le_trans hW.size hl5
 replace hB3:=hB3.below hE
 replace hW:=btr hW hE
 refine Zt hK2 fun a hf=>?_
 refine wp_seq_k fun _ hK6=>?_
 refine X0h (fun a w=>∃ A9 c9,Fr a 10 [(2,.pointer (some ⟨b5,0,none⟩))]∧Own w w0.heap.size 24 3 encG A9 c9 c.gs∧Blk w b3 31 [vi c.n,.slice Ac c.gs.length cc]∧Blk w b5 31 [vi c.n,.slice A9 c.gs.length c9]∧Below w0.heap.size w0 w) ?_ ?_
 ·refine X09 none (fun j=>[5,7].contains j) mixed ?_
  intro w3 hE
  replace hB3:=hB3.below hE
  replace hB5:=hB5.below hE
  replace hW:=btr hW hE
  refine Yb hf ?_
  refine Yo 0 rfl (fun _=>Vd rfl X17 0)<|Yo 3 rfl (fun _=>Vd rfl X00 1)<|Ye 4 rfl (X0 rfl X0d (hB3.at 1)) ?_
  refine Y2 1 2 ?_ ?_
  ·refine Yz rfl trivial (Uev (X0 rfl X5 (hB3.at 0))) ?_
   refine Y1 2 ?_
   refine Yk rfl trivial (X8 (k:=0) (vs:=[]) (zs:=[]) rfl Xg Xm rfl rfl) (fun _ _ ⟨_,_,_,h,_⟩=>h) ?_;rintro _ w4 ⟨b7,rfl,hl7,hE,hB7⟩
   have hlo7:=Nat.le_trans hW.size hl7
   have haw1_7:=(hr_c.below' hW).away hl7
   replace hB3:=hB3.below hE
   replace hB5:=hB5.below hE
   replace hW:=btr hW hE
   refine Y1 5 ?_
   refine Yt rfl trivial rfl (X37 (enc:=encG) (l2:=(c.gs)) rfl rfl Xg Xm Xe X0b hB7 (hr_c.below' hW) (by simp only [maxLen];omega) (by omega)) ?_;rintro _ w5 ⟨A9,c9,rfl,ho9,hE⟩
   replace ho9:=ho9.lower hlo7
   replace hB3:=hB3.below hE
   replace hB5:=hB5.below hE
   replace hW:=btr hW hE
   refine Yo 6 rfl (fun _=>Xu (ps:=[(0,vi c.n),(1,.slice A9 c.gs.length c9)]) (cs:=[vi c.n,.slice A9 c.gs.length c9]) rfl (fun _=>by first|rfl|kernel_rfl)) ?_
   refine Y1 7 ?_
   refine Yh rfl trivial rfl (Vw [vi c.n,.slice A9 c.gs.length c9] X1c hB5) ?_;rintro _ w6 ⟨ho,hb⟩
   have hold:=hB5
   replace hB3:=hB3.only ho (by omega)
   replace ho9:=ho9.onlyT ho hold rfl
   replace hW:=Below.only hW ho hlo5
   clear hold
   have hB5:=hb
   clear hb ho
   refine Yd fun a hf=>?_
   exact ⟨A9,c9,hf.sub ⟨rfl,trivial⟩,ho9,hB3,hB5,hW⟩
  refine Yk rfl trivial (X8 (k:=0) (vs:=[]) (zs:=[]) rfl Xg Xm rfl rfl) (fun _ _ ⟨_,_,_,h,_⟩=>h) ?_;rintro _ w7 ⟨b11,rfl,hl11,hE,hB11⟩
  have hlo11:=Nat.le_trans hW.size hl11
  have haw1_11:=(hr_c.below' hW).away hl11
  replace hB3:=hB3.below hE
  replace hB5:=hB5.below hE
  replace hW:=btr hW hE
  refine Y2 1 5 ?_ ?_
  ·refine Yz rfl trivial (Uev (X0 rfl X5 (hB3.at 0))) ?_
   refine Y1 5 ?_
   refine Yt rfl trivial rfl (X37 (enc:=encG) (l2:=(c.gs)) rfl rfl Xg Xm Xe X0b hB11 (hr_c.below' hW) (by simp only [maxLen];omega) (by omega)) ?_;rintro _ w8 ⟨A13,c13,rfl,ho13,hE⟩
   replace ho13:=ho13.lower hlo11
   replace hB3:=hB3.below hE
   replace hB5:=hB5.below hE
   replace hW:=btr hW hE
   refine Yo 6 rfl (fun _=>Xu (ps:=[(0,vi c.n),(1,.slice A13 c.gs.length c13)]) (cs:=[vi c.n,.slice A13 c.gs.length c13]) rfl (fun _=>by first|rfl|kernel_rfl)) ?_
   refine Y1 7 ?_
   refine Yh rfl trivial rfl (Vw [vi c.n,.slice A13 c.gs.length c13] X1c hB5) ?_;rintro _ w9 ⟨ho,hb⟩
   have hold:=hB5
   replace hB3:=hB3.only ho (by omega)
   replace ho13:=ho13.onlyT ho hold rfl
   replace hW:=Below.only hW ho hlo5
   clear hold
   have hB5:=hb
   clear hb ho
   refine Yd fun a hf=>?_
   exact ⟨A13,c13,hf.sub ⟨rfl,trivial⟩,ho13,hB3,hB5,hW⟩
  refine Yt rfl trivial rfl (X37 (enc:=encG) (l2:=(c.gs)) rfl rfl Xg Xm Xe X0b hB11 (hr_c.below' hW) (by simp only [maxLen];omega) (by omega)) ?_;rintro _ w10 ⟨A15,c15,rfl,ho15,hE⟩
  replace ho15:=ho15.lower hlo11
  replace hB3:=hB3.below hE
  replace hB5:=hB5.below hE
  replace hW:=btr hW hE
  refine Y1 1 ?_
  refine Yz rfl trivial (Uev (X0 rfl X5 (hB3.at 0))) ?_
  refine Yo 6 rfl (fun _=>Xu (ps:=[(0,vi c.n),(1,.slice A15 c.gs.length c15)]) (cs:=[vi c.n,.slice A15 c.gs.length c15]) rfl (fun _=>by first|rfl|kernel_rfl)) ?_
  refine Y1 7 ?_
  refine Yh rfl trivial rfl (Vw [vi c.n,.slice A15 c.gs.length c15] X1c hB5) ?_;rintro _ w11 ⟨ho,hb⟩
  have hold:=hB5
  replace hB3:=hB3.only ho (by omega)
  replace ho15:=ho15.onlyT ho hold rfl
  replace hW:=Below.only hW ho hlo5
  clear hold
  have hB5:=hb
  clear hb ho
  refine Yd fun a hf=>?_
  exact ⟨A15,c15,hf.sub ⟨rfl,trivial⟩,ho15,hB3,hB5,hW⟩
 rintro a w12 ⟨A9,c9,hf,ho9,hB3,hB5,hW⟩
 refine hK6 _ _ ?_
 refine wp_ret (X2 hf (Xz hf rfl (ResV.cellN (l:=[vi c.n,.slice A9 c.gs.length c9]) rfl X0p (hB5.at 0) rfl)) ?_)
 exact ⟨A9,c9,rfl,ho9,hW⟩
end Go.Proofs.YtlfjcmldfbfdbaaGreat
set_option maxRecDepth 4000
namespace Go.Proofs.YtlfjcmldfbfdbaaGreat
open Go.RowKit
theorem Xoj(w0:World)(c:Cx)(Ac:Option Addr)(cc:Nat)(hr_c:Rd w0 w0.heap.size 24 encG Ac c.gs)(hp_c:c.gs.length≤cc)(hln:c.gs.length≤100000000) : Ret Tryz.prog 95 [.agg #[vi c.n,.slice Ac c.gs.length cc]] w0 (fun v w=>∃ A e B f,v=.tuple #[.agg #[vi ((canS c.gs).getD rpZ).pos,.slice A ((canS c.gs).getD rpZ).old.length e,.slice B ((canS c.gs).getD rpZ).new.length f],.bool (canS c.gs).isSome]∧Rd w w.heap.size 24 encG A ((canS c.gs).getD rpZ).old∧Rd w w.heap.size 24 encG B ((canS c.gs).getD rpZ).new∧Below w0.heap.size w0 w):=by
 refine enter Tryz.func95 rfl 86 rfl rfl ?_
 intro a hf
 have hW:Below w0.heap.size w0 w0:=Below.refl _ _
 refine Zs hf fun _ hK2=>?_
 refine Zf (X0j (zs:=[vi c.n,.slice Ac c.gs.length cc]) rfl rfl) ?_;rintro _ w1 ⟨b3,rfl,hl3,hE,hB3⟩
 have hlo3:=Nat.le_trans hW.size hl3
 replace hW:=btr hW hE
 refine Zf (X9 (zs:=[vi 0,.slice none 0 0,.slice none 0 0]) X7g rfl) ?_;rintro _ w2 ⟨b6,rfl,hl6,hE,hB6⟩
 have hlo6:=Nat.le_trans hW.size hl6
 replace hB3:=hB3.below hE
 replace hW:=btr hW hE
 refine Za rfl ?_
 refine Zt hK2 fun a hf=>?_
 refine wp_seq_k fun _ hK7=>?_
 refine Zs hf fun _ hK8=>?_
 refine Ze (Vd rfl X00 1)<|Ze (X0 rfl X0d (hB3.at 1))<|Ze (X0y rfl Xg)<|Zm rfl ?_
 refine Zt hK8 fun a hf=>?_
 refine wp_block ?_
 refine X0g (σ:=Nat) (fun (i:Nat) (a:Act) (w:World)=>Fr a 86 [(1,.pointer (some ⟨b3,0,none⟩)),(2,.pointer (some ⟨b6,0,none⟩)),(10,.slice Ac c.gs.length cc),(11,vi (c.gs.length:Int)),(12,vi (i:Int))]∧(i≤c.gs.length)∧(canF c.gs i=none)∧Blk w b3 31 [vi c.n,.slice Ac c.gs.length cc]∧Blk w b6 62 [vi 0,.slice none 0 0,.slice none 0 0]∧c.gs.length≤cc∧Below w0.heap.size w0 w) (fun (i:Nat)=>c.gs.length-i) 0 ?_ ?_
 ·exact ⟨hf.sub ⟨rfl,rfl,rfl,rfl,rfl,trivial⟩,(Nat.zero_le _),rfl,hB3,hB6,hp_c,hW⟩
 rintro i a w3 ⟨hf,hi,hpre,hB3,hB6,hp_c,hW⟩
 refine Zs hf fun _ hK9=>?_
 refine Ze (X18 rfl rfl) ?_
 refine Zt hK9 fun a hf=>?_
 refine wp_seq_k fun _ hK10=>?_
 refine Xo hf rfl (fun hc11=>?_) (fun hc11=>?_)
 ·have hc11b:=hc11
  have hc11:=of_decide_eq_true hc11
  obtain ⟨u12,hu12⟩:=X06 (l:=c.gs) (k:=i) (by omega)
  refine wp_skip ?_
  refine hK10 _ _ ?_
  refine wp_seq_k fun _ hK13=>?_
  refine wp_block ?_
  refine Zs hf fun _ hK14=>?_
  refine Zm rfl ?_
  refine Zi (k:=i) (u:=u12) (enc:=encG) (l:=c.gs) trivial rfl rfl Xg X08 Xe (hr_c.below' hW) hu12 rfl ?_;intro p16 hat15
  refine Ze (X0a (l:=[vi u12.k,vi u12.a,vi u12.b]) rfl X01 hat15 rfl) ?_
  refine Zf (X9 (zs:=[vi 0,vi 0,vi 0]) X1z rfl) ?_;rintro _ w4 ⟨b17,rfl,hl17,hE,hB17⟩
  have hlo17:=Nat.le_trans hW.size hl17
  have haw1_17:=(hr_c.below' hW).away hl17
  replace hB3:=hB3.below hE
  replace hB6:=hB6.below hE
  replace hW:=btr hW hE
  refine Za rfl ?_
  refine Zo (Vw [vi u12.k,vi u12.a,vi u12.b] X08 hB17) ?_;rintro _ w5 ⟨ho,hb⟩
  have hold:=hB17
  replace hB3:=hB3.only ho (Blk.ne hB3 hold rfl)
  replace hB6:=hB6.only ho (Blk.ne hB6 hold rfl)
  replace hW:=Below.only hW ho hlo17
  clear hold
  have hB17:=hb
  clear hb ho
  refine Zt hK14 fun a hf=>?_
  refine Zs hf fun _ hK18=>?_
  refine Ze (Vn X01 hB17) ?_
  refine Zf (Vc (Xkz _ u12) Xde) ?_;rintro _ w6 ⟨rfl,hE⟩
  replace hB3:=hB3.below hE
  replace hB6:=hB6.below hE
  replace hB17:=hB17.below hE
  replace hW:=btr hW hE
  refine Zm rfl<|Ze (X3 (vs:=[.agg #[vi ((bkG u12).k),vi ((bkG u12).a),vi ((bkG u12).b)],vi (bkN u12)]) rfl rfl)<|Ze (X3 (vs:=[.agg #[vi ((bkG u12).k),vi ((bkG u12).a),vi ((bkG u12).b)],vi (bkN u12)]) rfl rfl) ?_
  refine Zf (X9 (zs:=[vi 0,vi 0,vi 0]) X1z rfl) ?_;rintro _ w7 ⟨b19,rfl,hl19,hE,hB19⟩
  have hne17_19:b17≠b19:=by have:=hB17.lt;omega
  have hlo19:=Nat.le_trans hW.size hl19
  have haw1_19:=(hr_c.below' hW).away hl19
  replace hB3:=hB3.below hE
  replace hB6:=hB6.below hE
  replace hB17:=hB17.below hE
  replace hW:=btr hW hE
  refine Zo (Vw [vi ((bkG u12).k),vi ((bkG u12).a),vi ((bkG u12).b)] X08 hB19) ?_;rintro _ w8 ⟨ho,hb⟩
  have hold:=hB19
  replace hB3:=hB3.only ho (Blk.ne hB3 hold rfl)
  replace hB6:=hB6.only ho (Blk.ne hB6 hold rfl)
  replace hB17:=hB17.only ho (by omega)
  replace hW:=Below.only hW ho hlo19
  clear hold
  have hB19:=hb
  clear hb ho
  refine Za rfl ?_
  refine Zt hK18 fun a hf=>?_
  refine Zs hf fun _ hK20=>?_
  refine Zm rfl<|Ze (X07 rfl rfl (by omega) (by omega))<|Za rfl ?_
  refine Zt hK20 fun a hf=>?_
  refine wp_seq_k fun _ hK21=>?_
  refine wp_block ?_
  refine X0g (σ:=Nat) (fun (j:Nat) (a:Act) (w:World)=>Fr a 86 [(1,.pointer (some ⟨b3,0,none⟩)),(2,.pointer (some ⟨b6,0,none⟩)),(4,vi (i:Int)),(5,.pointer (some ⟨b17,0,none⟩)),(6,.pointer (some ⟨b19,0,none⟩)),(8,vi (j:Int)),(10,.slice Ac c.gs.length cc),(11,vi (c.gs.length:Int)),(12,vi (i:Int))]∧(i+1≤j∧j≤c.gs.length)∧(canJ u12 c.gs i=nextC u12 (c.gs.drop j) j)∧Blk w b3 31 [vi c.n,.slice Ac c.gs.length cc]∧Blk w b6 62 [vi 0,.slice none 0 0,.slice none 0 0]∧Blk w b17 24 [vi u12.k,vi u12.a,vi u12.b]∧Blk w b19 24 [vi ((bkG u12).k),vi ((bkG u12).a),vi ((bkG u12).b)]∧c.gs.length≤cc∧Below w0.heap.size w0 w) (fun (j:Nat)=>c.gs.length-j) (i+1) ?_ ?_
  ·exact ⟨hf.sub ⟨rfl,rfl,rfl,rfl,rfl,rfl,rfl,rfl,rfl,trivial⟩,(by omega),rfl,hB3,hB6,hB17,hB19,hp_c,hW⟩
  rintro j a w9 ⟨hf,hj,hjn,hB3,hB6,hB17,hB19,hp_c,hW⟩
  refine wp_seq_k fun _ hK22=>?_
  refine wp_seq_k fun _ hK23=>?_
  refine X09 none (fun _=>false) mixed ?_
  intro w10 hE
  replace hB3:=hB3.below hE
  replace hB6:=hB6.below hE
  replace hB17:=hB17.below hE
  replace hB19:=hB19.below hE
  replace hW:=btr hW hE
  refine Yb hf ?_
  refine Yo 0 rfl (fun _=>X7 rfl)<|Yo 1 rfl (fun _=>Vd rfl X00 1)<|Ye 2 rfl (X0 rfl X0d (hB3.at 1))<|Yo 3 rfl (fun _=>X0y rfl Xg)<|Yo 4 rfl (fun _=>X18 rfl rfl) ?_
  refine Yo 5 rfl (fun _=>X7 rfl) ?_
  refine Yl 29 rfl (fun hg24=>?_) (fun hg24=>?_)
  ·have hq2:=hg24
   have hq2i:=of_decide_eq_true hg24
   obtain ⟨v9,hv9⟩:=X06 (l:=c.gs) (k:=j) (by have:=of_decide_eq_true hg24;omega)
   refine Yv 6 rfl ⟨_,_,rfl,rfl,hg24⟩ (Vn X01 hB17) ?_
   refine Yu 7 rfl ⟨_,_,rfl,rfl,hg24⟩ (fun _=>Vd rfl X00 1) ?_
   refine Yv 8 rfl ⟨_,_,rfl,rfl,hg24⟩ (X0 rfl X0d (hB3.at 1)) ?_
   refine Yu 9 rfl ⟨_,_,rfl,rfl,hg24⟩ (fun _=>X7 rfl) ?_
   refine Yi (k:=j) (u:=v9) (enc:=encG) (l:=c.gs) 10 rfl ⟨_,_,rfl,rfl,hg24⟩ rfl rfl Xg X08 Xe (hr_c.below' hW) hv9 rfl ?_;intro p26 hat25
   refine Yv 11 rfl ⟨_,_,rfl,rfl,hg24⟩ (X0a (l:=[vi v9.k,vi v9.a,vi v9.b]) rfl X01 hat25 rfl) ?_
   refine Y1 12 ?_
   refine Yk rfl ⟨_,_,rfl,rfl,hg24⟩ (Vc (Xp6 _ u12 v9) Xir) (fun _ _ ⟨_,hE⟩=>hE) ?_;rintro _ w11 ⟨rfl,hE⟩
   replace hB3:=hB3.below hE
   replace hB6:=hB6.below hE
   replace hB17:=hB17.below hE
   replace hB19:=hB19.below hE
   replace hW:=btr hW hE
   refine Yu 13 rfl ⟨_,_,rfl,rfl,hg24⟩ (fun _=>X11 rfl) ?_
   refine Yo 14 rfl (fun _=>Xa rfl hg24 rfl) ?_
   refine Yd fun a hf=>?_
   refine hK23 _ _ ?_
   refine Xo hf rfl (fun hc27=>?_) (fun hc27=>?_)
   ·have hc27b:=hc27
    have hno9:metS u12 v9=false:=by simpa using hc27
    refine wp_skip ?_
    refine hK22 _ _ ?_
    refine wp_block ?_
    refine Zr hf ?_
    refine Zm rfl<|Ze (X07 rfl rfl (by omega) (by omega))<|Za rfl ?_
    refine Zn fun a hf=>?_
    refine Xj ?_
    refine Xs ?_
    exact ⟨j+1,⟨hf.sub ⟨rfl,rfl,rfl,rfl,rfl,rfl,rfl,rfl,rfl,trivial⟩,(by omega),(hjn.trans (X8d hv9 hno9)),hB3,hB6,hB17,hB19,hp_c,hW⟩,(by omega)⟩
   have hc27b:=hc27
   have hje:canJ u12 c.gs i=j:=hjn.trans (X9g hv9 (by simpa using hc27))
   refine wp_exit ?_
   refine X02 ?_
   refine X02 ?_
   refine X0f ?_
   refine hK21 _ _ ?_
   refine wp_seq_k fun _ hK28=>?_
   refine X09 none (fun _=>false) mixed ?_
   intro w12 hE
   replace hB3:=hB3.below hE
   replace hB6:=hB6.below hE
   replace hB17:=hB17.below hE
   replace hB19:=hB19.below hE
   replace hW:=btr hW hE
   refine Yb hf ?_
   refine Yo 0 rfl (fun _=>Vd rfl X0c 0)<|Ye 1 rfl (X0 rfl X5 (hB17.at 0))<|Yo 2 rfl (fun _=>X2v rfl rfl)<|Yo 3 rfl (fun _=>X7 rfl) ?_
   refine Yl 44 rfl (fun hg29=>?_) (fun hg29=>?_)
   ·have hq1:=hg29
    refine Yu 4 rfl ⟨_,_,rfl,rfl,hg29⟩ (fun _=>X7 rfl) ?_
    refine Yu 5 rfl ⟨_,_,rfl,rfl,hg29⟩ (fun _=>Vd rfl X00 1) ?_
    refine Yv 6 rfl ⟨_,_,rfl,rfl,hg29⟩ (X0 rfl X0d (hB3.at 1)) ?_
    refine Yu 7 rfl ⟨_,_,rfl,rfl,hg29⟩ (fun _=>X0y rfl Xg) ?_
    refine Yu 8 rfl ⟨_,_,rfl,rfl,hg29⟩ (fun _=>X18 rfl rfl) ?_
    refine Yo 9 rfl (fun _=>Xa rfl hg29 rfl)<|Yo 10 rfl (fun _=>X7 rfl)<|Yu 11 rfl ⟨_,_,rfl,rfl,hg24⟩ (fun _=>X7 rfl) ?_
    refine Yu 12 rfl ⟨_,_,rfl,rfl,hg24⟩ (fun _=>X7 rfl) ?_
    refine Yu 13 rfl ⟨_,_,rfl,rfl,hg24⟩ (fun _=>X1e rfl rfl (by omega) (by omega)) ?_
    refine Yu 14 rfl ⟨_,_,rfl,rfl,hg24⟩ (fun _=>X18 rfl rfl) ?_
    refine Yo 15 rfl (fun _=>Xa rfl hg24 rfl)<|Yo 16 rfl (fun _=>X7 rfl) ?_
    refine Yl 57 rfl (fun hg30=>?_) (fun hg30=>?_)
    ·have hq3:=hg30
     refine Yu 17 rfl ⟨_,_,rfl,rfl,hg30⟩ (fun _=>Vd rfl X00 1) ?_
     refine Yv 18 rfl ⟨_,_,rfl,rfl,hg30⟩ (X0 rfl X0d (hB3.at 1)) ?_
     refine Yu 19 rfl ⟨_,_,rfl,rfl,hg30⟩ (fun _=>X7 rfl) ?_
     refine Yi (k:=j) (u:=v9) (enc:=encG) (l:=c.gs) 20 rfl ⟨_,_,rfl,rfl,hg30⟩ rfl rfl Xg X08 Xe (hr_c.below' hW) hv9 rfl ?_;intro p32 hat31
     refine Yv 21 rfl ⟨_,_,rfl,rfl,hg30⟩ (X0a (l:=[vi v9.k,vi v9.a,vi v9.b]) rfl X01 hat31 rfl) ?_
     refine Yv 22 rfl ⟨_,_,rfl,rfl,hg30⟩ (Vn X01 hB19) ?_
     refine Yu 23 rfl ⟨_,_,rfl,rfl,hg30⟩ (fun _=>Xl7 rfl rfl X81 (fun w=>X84 9998 v9 (bkG u12) w)) ?_
     refine Yo 24 rfl (fun _=>Xa rfl hg30 rfl) ?_
     refine Yd fun a hf=>?_
     refine hK28 _ _ ?_
     refine Xo hf rfl (fun hc33=>?_) (fun hc33=>?_)
     ·have hc33b:=hc33
      have hc33:=of_decide_eq_true hc33
      have hfin:canS c.gs=some (canR c.gs i j):=Xbb hpre (by rw [X7v hu12 (by rw [hje];unfold canB;rw [hq1,hq2,hq3,hv9,decide_eq_true (congrArg some hc33)];rfl),hje]) (by omega)
      refine wp_seq_k fun _ hK34=>?_
      refine X09 none (fun j=>[18].contains j) mixed ?_
      intro w13 hE
      replace hB3:=hB3.below hE
      replace hB6:=hB6.below hE
      replace hW:=btr hW hE
      refine Yb hf ?_
      refine Yo 0 rfl (fun _=>X7 rfl)<|Yo 2 rfl (fun _=>Vd rfl X00 1)<|Ye 3 rfl (X0 rfl X0d (hB3.at 1))<|Yo 4 rfl (fun _=>X7 rfl)<|Yo 5 rfl (fun _=>X7 rfl) ?_
      refine Yo 6 rfl (fun _=>X07 rfl rfl (by omega) (by omega)) ?_
      have hr35:=(((hr_c.below' hW).top).takeK Xe (j+1)).dropK Xe (c:=cc) (X4x hp_c (j+1)) i
      refine Yo 7 rfl (fun _=>X9t (l:=c.gs) (k:=i) (m:=(j+1)) rfl rfl rfl Xg X08 rfl (by omega) (by omega) (by omega) hp_c)<|Yo 10 rfl (fun _=>Vd rfl X00 1)<|Ye 11 rfl (X0 rfl X0d (hB3.at 1))<|Yo 12 rfl (fun _=>X7 rfl)<|Yo 13 rfl (fun _=>X07 rfl rfl (by omega) (by omega)) ?_
      refine Yo 14 rfl (fun _=>X7 rfl) ?_
      have hr36:=(((hr_c.below' hW).top).takeK Xe j).dropK Xe (c:=cc) (X4x hp_c j) (i+1)
      refine Yo 15 rfl (fun _=>X9t (l:=c.gs) (k:=(i+1)) (m:=j) rfl rfl rfl Xg X08 (by omega) rfl (by omega) (by omega) hp_c) ?_
      refine Y2 1 9 ?_ ?_
      ·refine Yk rfl trivial (X8 (k:=0) (vs:=[]) (zs:=[]) rfl Xg Xm rfl rfl) (fun _ _ ⟨_,_,_,h,_⟩=>h) ?_;rintro _ w14 ⟨b37,rfl,hl37,hE,hB37⟩
       have hlo37:=Nat.le_trans hW.size hl37
       have haw1_37:=(hr_c.below' hW).away hl37
       have haw35_37:=hr35.away hl37
       have haw36_37:=hr36.away hl37
       replace hB3:=hB3.below hE
       replace hB6:=hB6.below hE
       replace hr35:=hr35.below hE
       replace hr36:=hr36.below hE
       replace hW:=btr hW hE
       refine Y2 8 9 ?_ ?_
       ·refine Yk rfl trivial (X1b (enc:=encG) (l2:=(((c.gs.take (j+1)).drop i))) rfl rfl Xg Xm Xe X0b hB37 hr35 (by simp only [maxLen];simp;omega) (by simp;omega)) (fun _ _ ⟨A39,c39,_,ho39,hE,hat⟩=>hE) ?_;rintro _ w15 ⟨A39,c39,rfl,ho39,hE,hat⟩
        clear hat
        replace ho39:=ho39.lower hlo37
        replace hB3:=hB3.below hE
        replace hB6:=hB6.below hE
        replace hr35:=hr35.below hE
        replace hr36:=hr36.below hE
        replace hW:=btr hW hE
        refine Y1 9 ?_
        refine Yk rfl trivial (X8 (k:=0) (vs:=[]) (zs:=[]) rfl Xg Xm rfl rfl) (fun _ _ ⟨_,_,_,h,_⟩=>h) ?_;rintro _ w16 ⟨b40,rfl,hl40,hE,hB40⟩
        have hlo40:=Nat.le_trans hW.size hl40
        have haw1_40:=(hr_c.below' hW).away hl40
        have haw35_40:=hr35.away hl40
        have haw36_40:=hr36.away hl40
        have haw39_40:=ho39.away hl40
        replace hB3:=hB3.below hE
        replace hB6:=hB6.below hE
        replace hr35:=hr35.below hE
        replace hr36:=hr36.below hE
        replace ho39:=ho39.below hE
        replace hW:=btr hW hE
        refine Y1 16 ?_
        refine Yk rfl trivial (X1b (enc:=encG) (l2:=(((c.gs.take j).drop (i+1)))) rfl rfl Xg Xm Xe X0b hB40 hr36 (by simp only [maxLen];simp;omega) (by simp;omega)) (fun _ _ ⟨A42,c42,_,ho42,hE,hat⟩=>hE) ?_;rintro _ w17 ⟨A42,c42,rfl,ho42,hE,hat⟩
        have hap39_42:=Apart.new0 ho39 haw39_40 hat
        clear hat
        replace ho42:=ho42.lower hlo40
        replace hB3:=hB3.below hE
        replace hB6:=hB6.below hE
        replace hr35:=hr35.below hE
        replace hr36:=hr36.below hE
        replace ho39:=ho39.below hE
        replace hW:=btr hW hE
        refine Yo 17 rfl (fun _=>Xu (ps:=[(0,vi (i:Int)),(1,.slice A39 ((c.gs.take (j+1)).drop i).length c39),(2,.slice A42 ((c.gs.take j).drop (i+1)).length c42)]) (cs:=[vi (i:Int),.slice A39 ((c.gs.take (j+1)).drop i).length c39,.slice A42 ((c.gs.take j).drop (i+1)).length c42]) rfl (fun _=>by first|rfl|kernel_rfl)) ?_
        refine Y1 18 ?_
        refine Yh rfl trivial rfl (Vw [vi (i:Int),.slice A39 ((c.gs.take (j+1)).drop i).length c39,.slice A42 ((c.gs.take j).drop (i+1)).length c42] X1u hB6) ?_;rintro _ w18 ⟨ho,hb⟩
        have hold:=hB6
        replace hB3:=hB3.only ho (Blk.ne hB3 hold rfl)
        replace hr35:=hr35.onlyT ho hold rfl
        replace hr36:=hr36.onlyT ho hold rfl
        replace ho39:=ho39.onlyT ho hold rfl
        replace ho42:=ho42.onlyT ho hold rfl
        replace hW:=Below.only hW ho hlo6
        clear hold
        have hB6:=hb
        clear hb ho
        refine Yo 19 rfl (fun _=>X12 rfl) ?_
        refine Yd fun a hf=>?_
        refine hK34 _ _ ?_
        refine wp_ret ?_
        refine X05 ?_
        refine X6 ?_
        refine X6 ?_
        refine X05 ?_
        refine X6 ?_
        refine X2 hf (X0t hf rfl (ResV.cellN (l:=[vi (i:Int),.slice A39 ((c.gs.take (j+1)).drop i).length c39,.slice A42 ((c.gs.take j).drop (i+1)).length c42]) rfl X15 (hB6.at 0) rfl) rfl) ?_
        rw [hfin]
        exact ⟨_,_,_,_,rfl,ho39.rd.top,ho42.rd.top,hW⟩
       refine Yk rfl trivial (X8 (k:=0) (vs:=[]) (zs:=[]) rfl Xg Xm rfl rfl) (fun _ _ ⟨_,_,_,h,_⟩=>h) ?_;rintro _ w19 ⟨b45,rfl,hl45,hE,hB45⟩
       have hne37_45:b37≠b45:=by have:=hB37.lt;omega
       have hlo45:=Nat.le_trans hW.size hl45
       have haw1_45:=(hr_c.below' hW).away hl45
       have haw35_45:=hr35.away hl45
       have haw36_45:=hr36.away hl45
       replace hB3:=hB3.below hE
       replace hB6:=hB6.below hE
       replace hB37:=hB37.below hE
       replace hr35:=hr35.below hE
       replace hr36:=hr36.below hE
       replace hW:=btr hW hE
       refine Y1 8 ?_
       refine Yk rfl trivial (X1b (enc:=encG) (l2:=(((c.gs.take (j+1)).drop i))) rfl rfl Xg Xm Xe X0b hB37 hr35 (by simp only [maxLen];simp;omega) (by simp;omega)) (fun _ _ ⟨A47,c47,_,ho47,hE,hat⟩=>hE) ?_;rintro _ w20 ⟨A47,c47,rfl,ho47,hE,hat⟩
       have haw47_45:=hat _ hB45.lt (Ne.symm hne37_45)
       clear hat
       replace ho47:=ho47.lower hlo37
       replace hB3:=hB3.below hE
       replace hB6:=hB6.below hE
       replace hB45:=hB45.below hE
       replace hr35:=hr35.below hE
       replace hr36:=hr36.below hE
       replace hW:=btr hW hE
       refine Y1 16 ?_
       refine Yk rfl trivial (X1b (enc:=encG) (l2:=(((c.gs.take j).drop (i+1)))) rfl rfl Xg Xm Xe X0b hB45 hr36 (by simp only [maxLen];simp;omega) (by simp;omega)) (fun _ _ ⟨A48,c48,_,ho48,hE,hat⟩=>hE) ?_;rintro _ w21 ⟨A48,c48,rfl,ho48,hE,hat⟩
       have hap47_48:=Apart.new0 ho47 haw47_45 hat
       clear hat
       replace ho48:=ho48.lower hlo45
       replace hB3:=hB3.below hE
       replace hB6:=hB6.below hE
       replace hr35:=hr35.below hE
       replace hr36:=hr36.below hE
       replace ho47:=ho47.below hE
       replace hW:=btr hW hE
       refine Yo 17 rfl (fun _=>Xu (ps:=[(0,vi (i:Int)),(1,.slice A47 ((c.gs.take (j+1)).drop i).length c47),(2,.slice A48 ((c.gs.take j).drop (i+1)).length c48)]) (cs:=[vi (i:Int),.slice A47 ((c.gs.take (j+1)).drop i).length c47,.slice A48 ((c.gs.take j).drop (i+1)).length c48]) rfl (fun _=>by first|rfl|kernel_rfl)) ?_
       refine Y1 18 ?_
       refine Yh rfl trivial rfl (Vw [vi (i:Int),.slice A47 ((c.gs.take (j+1)).drop i).length c47,.slice A48 ((c.gs.take j).drop (i+1)).length c48] X1u hB6) ?_;rintro _ w22 ⟨ho,hb⟩
       have hold:=hB6
       replace hB3:=hB3.only ho (Blk.ne hB3 hold rfl)
       replace hr35:=hr35.onlyT ho hold rfl
       replace hr36:=hr36.onlyT ho hold rfl
       replace ho47:=ho47.onlyT ho hold rfl
       replace ho48:=ho48.onlyT ho hold rfl
       replace hW:=Below.only hW ho hlo6
       clear hold
       have hB6:=hb
       clear hb ho
       refine Yo 19 rfl (fun _=>X12 rfl) ?_
       refine Yd fun a hf=>?_
       refine hK34 _ _ ?_
       refine wp_ret ?_
       refine X05 ?_
       refine X6 ?_
       refine X6 ?_
       refine X05 ?_
       refine X6 ?_
       refine X2 hf (X0t hf rfl (ResV.cellN (l:=[vi (i:Int),.slice A47 ((c.gs.take (j+1)).drop i).length c47,.slice A48 ((c.gs.take j).drop (i+1)).length c48]) rfl X15 (hB6.at 0) rfl) rfl) ?_
       rw [hfin]
       exact ⟨_,_,_,_,rfl,ho47.rd.top,ho48.rd.top,hW⟩
      refine Yk rfl trivial (X8 (k:=0) (vs:=[]) (zs:=[]) rfl Xg Xm rfl rfl) (fun _ _ ⟨_,_,_,h,_⟩=>h) ?_;rintro _ w23 ⟨b51,rfl,hl51,hE,hB51⟩
      have hlo51:=Nat.le_trans hW.size hl51
      have haw1_51:=(hr_c.below' hW).away hl51
      have haw35_51:=hr35.away hl51
      have haw36_51:=hr36.away hl51
      replace hB3:=hB3.below hE
      replace hB6:=hB6.below hE
      replace hr35:=hr35.below hE
      replace hr36:=hr36.below hE
      replace hW:=btr hW hE
      refine Y1 1 ?_
      refine Yk rfl trivial (X8 (k:=0) (vs:=[]) (zs:=[]) rfl Xg Xm rfl rfl) (fun _ _ ⟨_,_,_,h,_⟩=>h) ?_;rintro _ w24 ⟨b53,rfl,hl53,hE,hB53⟩
      have hne51_53:b51≠b53:=by have:=hB51.lt;omega
      have hlo53:=Nat.le_trans hW.size hl53
      have haw1_53:=(hr_c.below' hW).away hl53
      have haw35_53:=hr35.away hl53
      have haw36_53:=hr36.away hl53
      replace hB3:=hB3.below hE
      replace hB6:=hB6.below hE
      replace hB51:=hB51.below hE
      replace hr35:=hr35.below hE
      replace hr36:=hr36.below hE
      replace hW:=btr hW hE
      refine Y1 8 ?_
      refine Yk rfl trivial (X1b (enc:=encG) (l2:=(((c.gs.take (j+1)).drop i))) rfl rfl Xg Xm Xe X0b hB53 hr35 (by simp only [maxLen];simp;omega) (by simp;omega)) (fun _ _ ⟨A55,c55,_,ho55,hE,hat⟩=>hE) ?_;rintro _ w25 ⟨A55,c55,rfl,ho55,hE,hat⟩
      have haw55_51:=hat _ hB51.lt hne51_53
      clear hat
      replace ho55:=ho55.lower hlo53
      replace hB3:=hB3.below hE
      replace hB6:=hB6.below hE
      replace hB51:=hB51.below hE
      replace hr35:=hr35.below hE
      replace hr36:=hr36.below hE
      replace hW:=btr hW hE
      refine Y1 16 ?_
      refine Yk rfl trivial (X1b (enc:=encG) (l2:=(((c.gs.take j).drop (i+1)))) rfl rfl Xg Xm Xe X0b hB51 hr36 (by simp only [maxLen];simp;omega) (by simp;omega)) (fun _ _ ⟨A56,c56,_,ho56,hE,hat⟩=>hE) ?_;rintro _ w26 ⟨A56,c56,rfl,ho56,hE,hat⟩
      have hap55_56:=Apart.new0 ho55 haw55_51 hat
      clear hat
      replace ho56:=ho56.lower hlo51
      replace hB3:=hB3.below hE
      replace hB6:=hB6.below hE
      replace hr35:=hr35.below hE
      replace hr36:=hr36.below hE
      replace ho55:=ho55.below hE
      replace hW:=btr hW hE
      refine Yo 17 rfl (fun _=>Xu (ps:=[(0,vi (i:Int)),(1,.slice A55 ((c.gs.take (j+1)).drop i).length c55),(2,.slice A56 ((c.gs.take j).drop (i+1)).length c56)]) (cs:=[vi (i:Int),.slice A55 ((c.gs.take (j+1)).drop i).length c55,.slice A56 ((c.gs.take j).drop (i+1)).length c56]) rfl (fun _=>by first|rfl|kernel_rfl)) ?_
      refine Y1 18 ?_
      refine Yh rfl trivial rfl (Vw [vi (i:Int),.slice A55 ((c.gs.take (j+1)).drop i).length c55,.slice A56 ((c.gs.take j).drop (i+1)).length c56] X1u hB6) ?_;rintro _ w27 ⟨ho,hb⟩
      have hold:=hB6
      replace hB3:=hB3.only ho (Blk.ne hB3 hold rfl)
      replace hr35:=hr35.onlyT ho hold rfl
      replace hr36:=hr36.onlyT ho hold rfl
      replace ho55:=ho55.onlyT ho hold rfl
      replace ho56:=ho56.onlyT ho hold rfl
      replace hW:=Below.only hW ho hlo6
      clear hold
      have hB6:=hb
      clear hb ho
      refine Yo 19 rfl (fun _=>X12 rfl) ?_
      refine Yd fun a hf=>?_
      refine hK34 _ _ ?_
      refine wp_ret ?_
      refine X05 ?_
      refine X6 ?_
      refine X6 ?_
      refine X05 ?_
      refine X6 ?_
      refine X2 hf (X0t hf rfl (ResV.cellN (l:=[vi (i:Int),.slice A55 ((c.gs.take (j+1)).drop i).length c55,.slice A56 ((c.gs.take j).drop (i+1)).length c56]) rfl X15 (hB6.at 0) rfl) rfl) ?_
      rw [hfin]
      exact ⟨_,_,_,_,rfl,ho55.rd.top,ho56.rd.top,hW⟩
     have hc33b:=hc33
     have hc33:=of_decide_eq_false hc33
     have hno:canAt c.gs i=none:=X1q hu12 (by rw [hje];unfold canB;rw [hv9,decide_eq_false (fun e9=>hc33 (Option.some.inj e9))];simp)
     refine wp_skip ?_
     refine Xj ?_
     refine hK13 _ _ ?_
     refine Zr hf ?_
     refine Ze (X07 rfl rfl (by omega) (by omega))<|Zm rfl ?_
     refine Zn fun a hf=>?_
     refine Xs ?_
     exact ⟨i+1,⟨hf.sub ⟨rfl,rfl,rfl,rfl,rfl,trivial⟩,(by omega),(X1w hpre hno),hB3,hB6,hp_c,hW⟩,(by omega)⟩
    have hq3:=hg30
    have hno:canAt c.gs i=none:=X1q hu12 (by rw [hje];unfold canB;rw [hq3];simp)
    refine Yp 17 rfl ⟨_,_,rfl,rfl,hg30⟩ ?_
    refine Yp 18 rfl ⟨_,_,rfl,rfl,hg30⟩ ?_
    refine Yp 19 rfl ⟨_,_,rfl,rfl,hg30⟩ ?_
    refine Yp 20 rfl ⟨_,_,rfl,rfl,hg30⟩ ?_
    refine Yp 21 rfl ⟨_,_,rfl,rfl,hg30⟩ ?_
    refine Yp 22 rfl ⟨_,_,rfl,rfl,hg30⟩ ?_
    refine Yp 23 rfl ⟨_,_,rfl,rfl,hg30⟩ ?_
    refine Yo 24 rfl (fun _=>Xc rfl hg30 rfl) ?_
    refine Yd fun a hf=>?_
    refine hK28 _ _ ?_
    refine X2q hf rfl ?_
    refine wp_skip ?_
    refine Xj ?_
    refine hK13 _ _ ?_
    refine Zr hf ?_
    refine Ze (X07 rfl rfl (by omega) (by omega))<|Zm rfl ?_
    refine Zn fun a hf=>?_
    refine Xs ?_
    exact ⟨i+1,⟨hf.sub ⟨rfl,rfl,rfl,rfl,rfl,trivial⟩,(by omega),(X1w hpre hno),hB3,hB6,hp_c,hW⟩,(by omega)⟩
   have hq1:=hg29
   have hno:canAt c.gs i=none:=X1q hu12 (by rw [hje];unfold canB;rw [hq1];simp)
   refine Yp 4 rfl ⟨_,_,rfl,rfl,hg29⟩ ?_
   refine Yp 5 rfl ⟨_,_,rfl,rfl,hg29⟩ ?_
   refine Yp 6 rfl ⟨_,_,rfl,rfl,hg29⟩ ?_
   refine Yp 7 rfl ⟨_,_,rfl,rfl,hg29⟩ ?_
   refine Yp 8 rfl ⟨_,_,rfl,rfl,hg29⟩ ?_
   refine Yo 9 rfl (fun _=>Xc rfl hg29 rfl)<|Yo 10 rfl (fun _=>X7 rfl)<|Yp 11 rfl ⟨_,_,rfl,rfl,rfl⟩ ?_
   refine Yp 12 rfl ⟨_,_,rfl,rfl,rfl⟩ ?_
   refine Yp 13 rfl ⟨_,_,rfl,rfl,rfl⟩ ?_
   refine Yp 14 rfl ⟨_,_,rfl,rfl,rfl⟩ ?_
   refine Yo 15 rfl (fun _=>Xc rfl rfl rfl)<|Yo 16 rfl (fun _=>X7 rfl)<|Yp 17 rfl ⟨_,_,rfl,rfl,rfl⟩ ?_
   refine Yp 18 rfl ⟨_,_,rfl,rfl,rfl⟩ ?_
   refine Yp 19 rfl ⟨_,_,rfl,rfl,rfl⟩ ?_
   refine Yp 20 rfl ⟨_,_,rfl,rfl,rfl⟩ ?_
   refine Yp 21 rfl ⟨_,_,rfl,rfl,rfl⟩ ?_
   refine Yp 22 rfl ⟨_,_,rfl,rfl,rfl⟩ ?_
   refine Yp 23 rfl ⟨_,_,rfl,rfl,rfl⟩ ?_
   refine Yo 24 rfl (fun _=>Xc rfl rfl rfl) ?_
   refine Yd fun a hf=>?_
   refine hK28 _ _ ?_
   refine X2q hf rfl ?_
   refine wp_skip ?_
   refine Xj ?_
   refine hK13 _ _ ?_
   refine Zr hf ?_
   refine Ze (X07 rfl rfl (by omega) (by omega))<|Zm rfl ?_
   refine Zn fun a hf=>?_
   refine Xs ?_
   exact ⟨i+1,⟨hf.sub ⟨rfl,rfl,rfl,rfl,rfl,trivial⟩,(by omega),(X1w hpre hno),hB3,hB6,hp_c,hW⟩,(by omega)⟩
  have hq2:=hg24
  have hq2i:=of_decide_eq_false hg24
  have hje:canJ u12 c.gs i=j:=hjn.trans (X9o (by have:=of_decide_eq_false hg24;omega))
  have hno:canAt c.gs i=none:=X1q hu12 (by rw [hje];unfold canB;rw [hq2];simp)
  refine Yp 6 rfl ⟨_,_,rfl,rfl,hg24⟩ ?_
  refine Yp 7 rfl ⟨_,_,rfl,rfl,hg24⟩ ?_
  refine Yp 8 rfl ⟨_,_,rfl,rfl,hg24⟩ ?_
  refine Yp 9 rfl ⟨_,_,rfl,rfl,hg24⟩ ?_
  refine Yp 10 rfl ⟨_,_,rfl,rfl,hg24⟩ ?_
  refine Yp 11 rfl ⟨_,_,rfl,rfl,hg24⟩ ?_
  refine Y1 12 ?_
  refine Yq rfl ⟨_,_,rfl,rfl,hg24⟩ ?_
  refine Yp 13 rfl ⟨_,_,rfl,rfl,hg24⟩ ?_
  refine Yo 14 rfl (fun _=>Xc rfl hg24 rfl) ?_
  refine Yd fun a hf=>?_
  refine hK23 _ _ ?_
  refine X2q hf rfl ?_
  refine wp_exit ?_
  refine X02 ?_
  refine X02 ?_
  refine X0f ?_
  refine hK21 _ _ ?_
  refine wp_seq_k fun _ hK59=>?_
  refine X09 none (fun _=>false) mixed ?_
  intro w28 hE
  replace hB3:=hB3.below hE
  replace hB6:=hB6.below hE
  replace hB17:=hB17.below hE
  replace hB19:=hB19.below hE
  replace hW:=btr hW hE
  refine Yb hf ?_
  refine Yo 0 rfl (fun _=>Vd rfl X0c 0)<|Ye 1 rfl (X0 rfl X5 (hB17.at 0))<|Yo 2 rfl (fun _=>X2v rfl rfl)<|Yo 3 rfl (fun _=>X7 rfl) ?_
  refine Yl 44 rfl (fun hg60=>?_) (fun hg60=>?_)
  ·have hq1:=hg60
   refine Yu 4 rfl ⟨_,_,rfl,rfl,hg60⟩ (fun _=>X7 rfl) ?_
   refine Yu 5 rfl ⟨_,_,rfl,rfl,hg60⟩ (fun _=>Vd rfl X00 1) ?_
   refine Yv 6 rfl ⟨_,_,rfl,rfl,hg60⟩ (X0 rfl X0d (hB3.at 1)) ?_
   refine Yu 7 rfl ⟨_,_,rfl,rfl,hg60⟩ (fun _=>X0y rfl Xg) ?_
   refine Yu 8 rfl ⟨_,_,rfl,rfl,hg60⟩ (fun _=>X18 rfl rfl) ?_
   refine Yo 9 rfl (fun _=>Xa rfl hg60 rfl)<|Yo 10 rfl (fun _=>X7 rfl)<|Yp 11 rfl ⟨_,_,rfl,rfl,hg24⟩ ?_
   refine Yp 12 rfl ⟨_,_,rfl,rfl,hg24⟩ ?_
   refine Yp 13 rfl ⟨_,_,rfl,rfl,hg24⟩ ?_
   refine Yp 14 rfl ⟨_,_,rfl,rfl,hg24⟩ ?_
   refine Yo 15 rfl (fun _=>Xc rfl hg24 rfl)<|Yo 16 rfl (fun _=>X7 rfl)<|Yp 17 rfl ⟨_,_,rfl,rfl,rfl⟩ ?_
   refine Yp 18 rfl ⟨_,_,rfl,rfl,rfl⟩ ?_
   refine Yp 19 rfl ⟨_,_,rfl,rfl,rfl⟩ ?_
   refine Yp 20 rfl ⟨_,_,rfl,rfl,rfl⟩ ?_
   refine Yp 21 rfl ⟨_,_,rfl,rfl,rfl⟩ ?_
   refine Yp 22 rfl ⟨_,_,rfl,rfl,rfl⟩ ?_
   refine Yp 23 rfl ⟨_,_,rfl,rfl,rfl⟩ ?_
   refine Yo 24 rfl (fun _=>Xc rfl rfl rfl) ?_
   refine Yd fun a hf=>?_
   refine hK59 _ _ ?_
   refine X2q hf rfl ?_
   refine wp_skip ?_
   refine Xj ?_
   refine hK13 _ _ ?_
   refine Zr hf ?_
   refine Ze (X07 rfl rfl (by omega) (by omega))<|Zm rfl ?_
   refine Zn fun a hf=>?_
   refine Xs ?_
   exact ⟨i+1,⟨hf.sub ⟨rfl,rfl,rfl,rfl,rfl,trivial⟩,(by omega),(X1w hpre hno),hB3,hB6,hp_c,hW⟩,(by omega)⟩
  have hq1:=hg60
  have hno:canAt c.gs i=none:=X1q hu12 (by rw [hje];unfold canB;rw [hq1];simp)
  refine Yp 4 rfl ⟨_,_,rfl,rfl,hg60⟩ ?_
  refine Yp 5 rfl ⟨_,_,rfl,rfl,hg60⟩ ?_
  refine Yp 6 rfl ⟨_,_,rfl,rfl,hg60⟩ ?_
  refine Yp 7 rfl ⟨_,_,rfl,rfl,hg60⟩ ?_
  refine Yp 8 rfl ⟨_,_,rfl,rfl,hg60⟩ ?_
  refine Yo 9 rfl (fun _=>Xc rfl hg60 rfl)<|Yo 10 rfl (fun _=>X7 rfl)<|Yp 11 rfl ⟨_,_,rfl,rfl,rfl⟩ ?_
  refine Yp 12 rfl ⟨_,_,rfl,rfl,rfl⟩ ?_
  refine Yp 13 rfl ⟨_,_,rfl,rfl,rfl⟩ ?_
  refine Yp 14 rfl ⟨_,_,rfl,rfl,rfl⟩ ?_
  refine Yo 15 rfl (fun _=>Xc rfl rfl rfl)<|Yo 16 rfl (fun _=>X7 rfl)<|Yp 17 rfl ⟨_,_,rfl,rfl,rfl⟩ ?_
  refine Yp 18 rfl ⟨_,_,rfl,rfl,rfl⟩ ?_
  refine Yp 19 rfl ⟨_,_,rfl,rfl,rfl⟩ ?_
  refine Yp 20 rfl ⟨_,_,rfl,rfl,rfl⟩ ?_
  refine Yp 21 rfl ⟨_,_,rfl,rfl,rfl⟩ ?_
  refine Yp 22 rfl ⟨_,_,rfl,rfl,rfl⟩ ?_
  refine Yp 23 rfl ⟨_,_,rfl,rfl,rfl⟩ ?_
  refine Yo 24 rfl (fun _=>Xc rfl rfl rfl) ?_
  refine Yd fun a hf=>?_
  refine hK59 _ _ ?_
  refine X2q hf rfl ?_
  refine wp_skip ?_
  refine Xj ?_
  refine hK13 _ _ ?_
  refine Zr hf ?_
  refine Ze (X07 rfl rfl (by omega) (by omega))<|Zm rfl ?_
  refine Zn fun a hf=>?_
  refine Xs ?_
  exact ⟨i+1,⟨hf.sub ⟨rfl,rfl,rfl,rfl,rfl,trivial⟩,(by omega),(X1w hpre hno),hB3,hB6,hp_c,hW⟩,(by omega)⟩
 have hc11b:=hc11
 have hc11:=of_decide_eq_false hc11
 have hfin:canS c.gs=none:=by rw [canS,← show i=c.gs.length by omega];exact hpre
 refine wp_exit ?_
 refine X02 ?_
 refine X02 ?_
 refine X0f ?_
 refine hK7 _ _ ?_
 refine Zs hf fun _ hK61=>?_
 refine Ze (Xu (ps:=[]) (cs:=[vi 0,.slice none 0 0,.slice none 0 0]) rfl (fun _=>by first|rfl|kernel_rfl)) ?_
 refine Zo (Vw [vi 0,.slice none 0 0,.slice none 0 0] X1u hB6) ?_;rintro _ w29 ⟨ho,hb⟩
 have hold:=hB6
 replace hB3:=hB3.only ho (Blk.ne hB3 hold rfl)
 replace hW:=Below.only hW ho hlo6
 clear hold
 have hB6:=hb
 clear hb ho
 refine Za rfl ?_
 refine Zt hK61 fun a hf=>?_
 refine wp_ret (X2 hf (X0t hf rfl (ResV.cellN (l:=[vi 0,.slice none 0 0,.slice none 0 0]) rfl X15 (hB6.at 0) rfl) rfl) ?_)
 rw [hfin]
 exact ⟨_,_,_,_,rfl,(Rd.nil _ _ _ _ _),(Rd.nil _ _ _ _ _),hW⟩
end Go.Proofs.YtlfjcmldfbfdbaaGreat
set_option maxRecDepth 4000
namespace Go.Proofs.YtlfjcmldfbfdbaaGreat
open Go.RowKit
theorem Xpd(w0:World)(c:Cx)(Ac:Option Addr)(cc:Nat)(hr_c:Rd w0 w0.heap.size 24 encG Ac c.gs)(hln:c.gs.length≤100000000) : Ret Tryz.prog 29 [.agg #[vi c.n,.slice Ac c.gs.length cc]] w0 (fun v w=>∃ (l:List Sr) (A:Option Addr) (e:Nat) (B:Option Addr) (f:Nat) (D:Option Addr) (g:Nat),v=.tuple #[.agg #[vi (canC c).1.n,.slice A (canC c).1.gs.length e,.slice B l.length f,vi (canC c).2.2.n,.slice D (canC c).2.2.gs.length g],.bool (cOk c)]∧l.map Sr.rp=(canC c).2.1∧((canC c).1.gs.length≤e∧(canC c).2.2.gs.length≤g)∧Rd w w.heap.size 24 encG A (canC c).1.gs∧Rd w w.heap.size 24 encG D (canC c).2.2.gs∧Own w w0.heap.size 62 3 encSr B f l∧DeepR w w.heap.size 24 l∧Below w0.heap.size w0 w):=by
 refine enter Tryz.func29 rfl 39 rfl rfl ?_
 intro a hf
 have hW:Below w0.heap.size w0 w0:=Below.refl _ _
 refine Zs hf fun _ hK2=>?_
 refine Zf (X0j (zs:=[vi c.n,.slice Ac c.gs.length cc]) rfl rfl) ?_;rintro _ w1 ⟨b3,rfl,hl3,hE,hB3⟩
 have hlo3:=Nat.le_trans hW.size hl3
 replace hW:=btr hW hE
 refine Zf (X9 (zs:=[vi 0,.slice none 0 0,.slice none 0 0,vi 0,.slice none 0 0]) Xar rfl) ?_;rintro _ w2 ⟨b7,rfl,hl7,hE,hB7⟩
 have hlo7:=Nat.le_trans hW.size hl7
 replace hB3:=hB3.below hE
 replace hW:=btr hW hE
 refine Za rfl ?_
 refine Zt hK2 fun a hf=>?_
 refine wp_seq_k fun _ hK8=>?_
 refine Zs hf fun _ hK9=>?_
 refine Ze (Vn X0p hB3) ?_
 refine Zf (Vc (F53 _ c Ac cc (hr_c.below' hW).top) Xdd) ?_;rintro _ w3 ⟨rfl,hE⟩
 replace hB3:=hB3.below hE
 replace hB7:=hB7.below hE
 replace hW:=btr hW hE
 refine Ze (X11 rfl) ?_
 refine Zt hK9 fun a hf=>?_
 refine Xo hf rfl (fun hc10=>?_) (fun hc10=>?_)
 ·have hc10b:=hc10
  have hc:cOk c=false:=by revert hc10;cases cOk c<;>simp
  have hfin:canC c=(cZ,[],cZ):=by unfold canC;rw [if_neg (by rw [hc];decide)]
  refine Zs hf fun _ hK11=>?_
  refine Ze (Xu (ps:=[]) (cs:=[vi 0,.slice none 0 0,.slice none 0 0,vi 0,.slice none 0 0]) rfl (fun _=>by first|rfl|kernel_rfl)) ?_
  refine Zo (Vw [vi 0,.slice none 0 0,.slice none 0 0,vi 0,.slice none 0 0] X66 hB7) ?_;rintro _ w4 ⟨ho,hb⟩
  have hold:=hB7
  replace hB3:=hB3.only ho (Blk.ne hB3 hold rfl)
  replace hW:=Below.only hW ho hlo7
  clear hold
  have hB7:=hb
  clear hb ho
  refine Za rfl ?_
  refine Zt hK11 fun a hf=>?_
  refine wp_ret ?_
  refine X6 ?_
  refine X2 hf (X0t hf rfl (ResV.cellN (l:=[vi 0,.slice none 0 0,.slice none 0 0,vi 0,.slice none 0 0]) rfl X68 (hB7.at 0) rfl) rfl) ?_
  rw [hfin,hc]
  exact ⟨[],_,_,_,_,_,_,rfl,rfl,⟨(Nat.zero_le _),(Nat.zero_le _)⟩,(Rd.nil _ _ _ _ _),(Rd.nil _ _ _ _ _),(Own.nil _ _ _ _ _),(DeepR.nil _ _ _),hW⟩
 have hc10b:=hc10
 have hc:cOk c=true:=by revert hc10;cases cOk c<;>simp
 refine wp_skip ?_
 refine hK8 _ _ ?_
 refine wp_seq_k fun _ hK15=>?_
 refine X0h (fun a w=>∃ b24 A16 c16 A17 c17,Fr a 39 [(2,.pointer (some ⟨b7,0,none⟩)),(4,.pointer (some ⟨b24,0,none⟩))]∧w0.heap.size≤b24∧Blk w b24 46 [vi c.n,.slice A16 c.gs.length c16,.slice none 0 0,vi c.n,.slice A17 c.gs.length c17]∧b7≠b24∧Own w w0.heap.size 24 3 encG A16 c16 c.gs∧Own w w0.heap.size 24 3 encG A17 c17 c.gs∧Below w3.heap.size w3 w) ?_ ?_
 ·have hEc:Below w3.heap.size w3 w3:=Below.refl _ _
  refine X09 none (fun j=>[6].contains j) mixed ?_
  intro w5 hE
  replace hB3:=hB3.below hE
  replace hB7:=hB7.below hE
  replace hW:=btr hW hE
  replace hEc:=btr hEc hE
  refine Yb hf ?_
  refine Ye 0 rfl (Vn X0p hB3)<|Ye 2 rfl (Vn X0p hB3) ?_
  have hJc:Below w5.heap.size w5 w5:=Below.refl _ _
  refine Yc [0,1,2,3,4,5] 1 (fun a w=>∃ b24 A16 c16 A17 c17,Fr a 39 [(2,.pointer (some ⟨b7,0,none⟩)),(4,.pointer (some ⟨b24,0,none⟩)),(15,.agg #[vi c.n,.slice A16 c.gs.length c16,.slice none 0 0,vi c.n,.slice A17 c.gs.length c17])]∧w0.heap.size≤b24∧Blk w b24 46 [vi 0,.slice none 0 0,.slice none 0 0,vi 0,.slice none 0 0]∧b7≠b24∧w5.heap.size≤b24∧w3.heap.size≤b24∧Own w w0.heap.size 24 3 encG A16 c16 c.gs∧Own w w0.heap.size 24 3 encG A17 c17 c.gs∧Below w5.heap.size w5 w) ?_ ?_
  ·rintro a w6 ⟨b24,A16,c16,A17,c17,hf,hlo24,hB24,hne7_24,hlj24,hlc24,ho16,ho17,hE⟩
   clear hJc
   have hJc:=hE
   replace hB3:=hB3.below hE
   replace hB7:=hB7.below hE
   replace hW:=btr hW hE
   replace hEc:=btr hEc hE
   refine Yb hf ?_
   refine Y1 6 ?_
   refine Yh rfl trivial rfl (Vw [vi c.n,.slice A16 c.gs.length c16,.slice none 0 0,vi c.n,.slice A17 c.gs.length c17] X66 hB24) ?_;rintro _ w7 ⟨ho,hb⟩
   have hold:=hB24
   replace hB3:=hB3.only ho (Blk.ne hB3 hold rfl)
   replace hB7:=hB7.only ho (by omega)
   replace ho16:=ho16.onlyT ho hold rfl
   replace ho17:=ho17.onlyT ho hold rfl
   replace hEc:=Below.only hEc ho hlc24
   replace hJc:=Below.only hJc ho hlj24
   replace hW:=Below.only hW ho hlo24
   clear hold
   have hB24:=hb
   clear hb ho
   refine Yd fun a hf=>?_
   have hEE:Below w3.heap.size w3 w7:=hEc
   exact ⟨b24,A16,c16,A17,c17,hf.sub ⟨rfl,rfl,trivial⟩,hlo24,hB24,hne7_24,ho16,ho17,hEE⟩
  intro hJ16
  refine Yc [0,1,2,5] 3 (fun a w=>∃ b28 A16 c16,Fr a 39 [(2,.pointer (some ⟨b7,0,none⟩)),(4,.pointer (some ⟨b28,0,none⟩)),(12,.agg #[vi c.n,.slice A16 c.gs.length c16]),(13,.agg #[vi c.n,.slice Ac c.gs.length cc])]∧w0.heap.size≤b28∧Blk w b28 46 [vi 0,.slice none 0 0,.slice none 0 0,vi 0,.slice none 0 0]∧b7≠b28∧w5.heap.size≤b28∧w3.heap.size≤b28∧Own w w0.heap.size 24 3 encG A16 c16 c.gs∧Below w5.heap.size w5 w) ?_ ?_
  ·rintro a w8 ⟨b28,A16,c16,hf,hlo28,hB28,hne7_28,hlj28,hlc28,ho16,hE⟩
   clear hJc
   have hJc:=hE
   replace hB3:=hB3.below hE
   replace hB7:=hB7.below hE
   replace hW:=btr hW hE
   replace hEc:=btr hEc hE
   refine Yb hf ?_
   refine Y1 3 ?_
   refine Yk rfl trivial (Vc (Xdk _ c Ac cc (hr_c.below' hW).top (by omega)) X7i) (fun _ _ ⟨A20,c20,_,ho20,hE⟩=>hE) ?_;rintro _ w9 ⟨A20,c20,rfl,ho20,hE⟩
   replace ho20:=ho20.lower hW.size
   replace hB3:=hB3.below hE
   replace hB7:=hB7.below hE
   replace hB28:=hB28.below hE
   replace ho16:=ho16.below hE
   replace hW:=btr hW hE
   replace hEc:=btr hEc hE
   replace hJc:=btr hJc hE
   refine Yo 4 rfl (fun _=>Xu (ps:=[(0,.agg #[vi c.n,.slice A16 c.gs.length c16]),(2,.agg #[vi c.n,.slice A20 c.gs.length c20])]) (cs:=[vi c.n,.slice A16 c.gs.length c16,.slice none 0 0,vi c.n,.slice A20 c.gs.length c20]) rfl (fun _=>by first|rfl|kernel_rfl)) ?_
   exact fun a hf=>hJ16 _ a _ rfl ⟨b28,A16,c16,A20,c20,hf.sub ⟨rfl,rfl,rfl,trivial⟩,hlo28,hB28,hne7_28,hlj28,hlc28,ho16,ho20,hJc⟩
  intro hJ18
  refine Y2 1 5 ?_ ?_
  ·refine Yk rfl trivial (Vc (Xdk _ c Ac cc (hr_c.below' hW).top (by omega)) X7i) (fun _ _ ⟨A24,c24,_,ho24,hE⟩=>hE) ?_;rintro _ w10 ⟨A24,c24,rfl,ho24,hE⟩
   replace ho24:=ho24.lower hW.size
   replace hB3:=hB3.below hE
   replace hB7:=hB7.below hE
   replace hW:=btr hW hE
   replace hEc:=btr hEc hE
   replace hJc:=btr hJc hE
   refine Y2 3 5 ?_ ?_
   ·refine Yk rfl trivial (Vc (Xdk _ c Ac cc (hr_c.below' hW).top (by omega)) X7i) (fun _ _ ⟨A25,c25,_,ho25,hE⟩=>hE) ?_;rintro _ w11 ⟨A25,c25,rfl,ho25,hE⟩
    replace ho25:=ho25.lower hW.size
    replace hB3:=hB3.below hE
    replace hB7:=hB7.below hE
    replace ho24:=ho24.below hE
    replace hW:=btr hW hE
    replace hEc:=btr hEc hE
    replace hJc:=btr hJc hE
    refine Yo 4 rfl (fun _=>Xu (ps:=[(0,.agg #[vi c.n,.slice A24 c.gs.length c24]),(2,.agg #[vi c.n,.slice A25 c.gs.length c25])]) (cs:=[vi c.n,.slice A24 c.gs.length c24,.slice none 0 0,vi c.n,.slice A25 c.gs.length c25]) rfl (fun _=>by first|rfl|kernel_rfl)) ?_
    refine Y1 5 ?_
    refine Yk rfl trivial (X9 (zs:=[vi 0,.slice none 0 0,.slice none 0 0,vi 0,.slice none 0 0]) Xar rfl) (fun _ _ ⟨_,_,_,h,_⟩=>h) ?_;rintro _ w12 ⟨b32,rfl,hl32,hE,hB32⟩
    have hne7_32:b7≠b32:=by have:=hB7.lt;omega
    have hlo32:=Nat.le_trans hW.size hl32
    have hlc32:=Nat.le_trans hEc.size hl32
    have hlj32:=Nat.le_trans hJc.size hl32
    replace hB3:=hB3.below hE
    replace hB7:=hB7.below hE
    replace ho24:=ho24.below hE
    replace ho25:=ho25.below hE
    replace hW:=btr hW hE
    replace hEc:=btr hEc hE
    replace hJc:=btr hJc hE
    exact fun a hf=>hJ16 _ a _ rfl ⟨b32,A24,c24,A25,c25,hf.sub ⟨rfl,rfl,rfl,trivial⟩,hlo32,hB32,hne7_32,hlj32,hlc32,ho24,ho25,hJc⟩
   refine Yk rfl trivial (X9 (zs:=[vi 0,.slice none 0 0,.slice none 0 0,vi 0,.slice none 0 0]) Xar rfl) (fun _ _ ⟨_,_,_,h,_⟩=>h) ?_;rintro _ w13 ⟨b36,rfl,hl36,hE,hB36⟩
   have hne7_36:b7≠b36:=by have:=hB7.lt;omega
   have hlo36:=Nat.le_trans hW.size hl36
   have hlc36:=Nat.le_trans hEc.size hl36
   have hlj36:=Nat.le_trans hJc.size hl36
   replace hB3:=hB3.below hE
   replace hB7:=hB7.below hE
   replace ho24:=ho24.below hE
   replace hW:=btr hW hE
   replace hEc:=btr hEc hE
   replace hJc:=btr hJc hE
   exact fun a hf=>hJ18 _ a _ rfl ⟨b36,A24,c24,hf.sub ⟨rfl,rfl,rfl,rfl,trivial⟩,hlo36,hB36,hne7_36,hlj36,hlc36,ho24,hJc⟩
  refine Yk rfl trivial (X9 (zs:=[vi 0,.slice none 0 0,.slice none 0 0,vi 0,.slice none 0 0]) Xar rfl) (fun _ _ ⟨_,_,_,h,_⟩=>h) ?_;rintro _ w14 ⟨b40,rfl,hl40,hE,hB40⟩
  have hne7_40:b7≠b40:=by have:=hB7.lt;omega
  have hlo40:=Nat.le_trans hW.size hl40
  have hlc40:=Nat.le_trans hEc.size hl40
  have hlj40:=Nat.le_trans hJc.size hl40
  replace hB3:=hB3.below hE
  replace hB7:=hB7.below hE
  replace hW:=btr hW hE
  replace hEc:=btr hEc hE
  replace hJc:=btr hJc hE
  refine Y1 1 ?_
  refine Yk rfl trivial (Vc (Xdk _ c Ac cc (hr_c.below' hW).top (by omega)) X7i) (fun _ _ ⟨A41,c41,_,ho41,hE⟩=>hE) ?_;rintro _ w15 ⟨A41,c41,rfl,ho41,hE⟩
  replace ho41:=ho41.lower hW.size
  replace hB3:=hB3.below hE
  replace hB7:=hB7.below hE
  replace hB40:=hB40.below hE
  replace hW:=btr hW hE
  replace hEc:=btr hEc hE
  replace hJc:=btr hJc hE
  exact fun a hf=>hJ18 _ a _ rfl ⟨b40,A41,c41,hf.sub ⟨rfl,rfl,rfl,rfl,trivial⟩,hlo40,hB40,hne7_40,hlj40,hlc40,ho41,hJc⟩
 rintro a w16 ⟨b24,A16,c16,A17,c17,hf,hlo24,hB24,hne7_24,ho16,ho17,hE⟩
 replace hB3:=hB3.below hE
 replace hB7:=hB7.below hE
 replace hW:=btr hW hE
 refine hK15 _ _ ?_
 refine wp_block ?_
 refine X0g (σ:=(List Sr)×Int×(List Gt)×Nat) (fun (s:(List Sr)×Int×(List Gt)×Nat) (a:Act) (w:World)=>match s with|(l,n1,gs,k)=>∃ A42 c42 A43 c43,Fr a 39 [(2,.pointer (some ⟨b7,0,none⟩)),(4,.pointer (some ⟨b24,0,none⟩))]∧(CanI c l ⟨n1,gs⟩ k)∧Blk w b7 46 [vi 0,.slice none 0 0,.slice none 0 0,vi 0,.slice none 0 0]∧Blk w b24 46 [vi c.n,.slice A16 c.gs.length c16,.slice A42 l.length c42,vi n1,.slice A43 gs.length c43]∧Own w w0.heap.size 24 3 encG A16 c16 c.gs∧Own w w0.heap.size 62 3 encSr A42 c42 l∧Own w w0.heap.size 24 3 encG A43 c43 gs∧DeepR w w.heap.size 24 l∧Below w0.heap.size w0 w) (fun (s:(List Sr)×Int×(List Gt)×Nat)=>match s with|(l,n1,gs,k)=>k) ([],c.n,c.gs,c.gs.length) ?_ ?_
 ·exact ⟨none,0,A17,c17,hf.sub ⟨rfl,rfl,trivial⟩,(CanI.start hc),hB7,hB24,ho16,(Own.nil _ _ _ _ _),ho17,(DeepR.nil _ _ _),hW⟩
 rintro ⟨l,n1,gs,k⟩ a w17 ⟨A42,c42,A43,c43,hf,hin,hB7,hB24,ho16,ho42,ho43,hdp42,hW⟩
 refine wp_block ?_
 refine Zs hf fun _ hK44=>?_
 refine Ze (Vd rfl X1s 3)<|Ze (X0a (l:=[vi n1,.slice A43 gs.length c43]) rfl X0p ((hB24.at 3).take 2) rfl) ?_
 refine Zf (Vc (Xoj _ (⟨n1,gs⟩ : Cx) A43 c43 ho43.rd.top ho43.cap (by have:=hin.len;omega)) Xk1) ?_;rintro _ w18 ⟨A45,c45,A46,c46,rfl,hr45,hr46,hE⟩
 replace hB7:=hB7.below hE
 replace hB24:=hB24.below hE
 replace ho16:=ho16.below hE
 replace ho42:=ho42.below hE
 replace ho43:=ho43.below hE
 replace hdp42:=hdp42.below hE
 replace hW:=btr hW hE
 refine Zm rfl<|Ze (X3 (vs:=[.agg #[vi (((canS (⟨n1,gs⟩ : Cx).gs).getD rpZ).pos),.slice A45 (((canS (⟨n1,gs⟩ : Cx).gs).getD rpZ).old).length c45,.slice A46 (((canS (⟨n1,gs⟩ : Cx).gs).getD rpZ).new).length c46],.bool ((canS (⟨n1,gs⟩ : Cx).gs).isSome)]) rfl rfl)<|Ze (X3 (vs:=[.agg #[vi (((canS (⟨n1,gs⟩ : Cx).gs).getD rpZ).pos),.slice A45 (((canS (⟨n1,gs⟩ : Cx).gs).getD rpZ).old).length c45,.slice A46 (((canS (⟨n1,gs⟩ : Cx).gs).getD rpZ).new).length c46],.bool ((canS (⟨n1,gs⟩ : Cx).gs).isSome)]) rfl rfl) ?_
 refine Zf (X9 (zs:=[vi 0,.slice none 0 0,.slice none 0 0]) X7g rfl) ?_;rintro _ w19 ⟨b49,rfl,hl49,hE,hB49⟩
 have hlo49:=Nat.le_trans hW.size hl49
 have haw42_49:=ho42.away hl49
 replace hB7:=hB7.below hE
 replace hB24:=hB24.below hE
 replace ho16:=ho16.below hE
 replace ho42:=ho42.below hE
 replace ho43:=ho43.below hE
 replace hr45:=hr45.below hE
 replace hr46:=hr46.below hE
 replace hdp42:=hdp42.below hE
 replace hW:=btr hW hE
 refine Zo (Vw [vi (((canS (⟨n1,gs⟩ : Cx).gs).getD rpZ).pos),.slice A45 (((canS (⟨n1,gs⟩ : Cx).gs).getD rpZ).old).length c45,.slice A46 (((canS (⟨n1,gs⟩ : Cx).gs).getD rpZ).new).length c46] X1u hB49) ?_;rintro _ w20 ⟨ho,hb⟩
 have hold:=hB49
 replace hB7:=hB7.only ho (Blk.ne hB7 hold rfl)
 replace hB24:=hB24.only ho (Blk.ne hB24 hold rfl)
 replace ho16:=ho16.onlyT ho hold rfl
 replace ho42:=ho42.onlyA ho haw42_49
 replace ho43:=ho43.onlyT ho hold rfl
 replace hr45:=hr45.onlyT ho hold rfl
 replace hr46:=hr46.onlyT ho hold rfl
 replace hdp42:=hdp42.onlyT ho hold rfl
 replace hW:=Below.only hW ho hlo49
 clear hold
 have hB49:=hb
 clear hb ho
 refine Za rfl ?_
 refine Zt hK44 fun a hf=>?_
 refine wp_seq_k fun _ hK50=>?_
 refine Zs hf fun _ hK51=>?_
 refine Zm rfl<|Ze (X11 rfl) ?_
 refine Zt hK51 fun a hf=>?_
 refine Xo hf rfl (fun hc52=>?_) (fun hc52=>?_)
 ·have hc52b:=hc52
  have hno:canS gs=none:=by revert hc52;cases canS gs<;>simp
  have hfin:=hin.done hc hno
  refine Zs hf fun _ hK53=>?_
  refine Ze (Vn X68 hB24) ?_
  refine Zo (Vw [vi c.n,.slice A16 c.gs.length c16,.slice A42 l.length c42,vi n1,.slice A43 gs.length c43] X66 hB7) ?_;rintro _ w21 ⟨ho,hb⟩
  have hold:=hB7
  replace hB24:=hB24.only ho (by omega)
  replace hB49:=hB49.only ho (Blk.ne hB49 hold rfl)
  replace ho16:=ho16.onlyT ho hold rfl
  replace ho42:=ho42.onlyT ho hold rfl
  replace ho43:=ho43.onlyT ho hold rfl
  replace hr45:=hr45.onlyT ho hold rfl
  replace hr46:=hr46.onlyT ho hold rfl
  replace hdp42:=hdp42.onlyT ho hold rfl
  replace hW:=Below.only hW ho hlo7
  clear hold
  have hB7:=hb
  clear hb ho
  refine Za rfl ?_
  refine Zt hK53 fun a hf=>?_
  refine wp_ret ?_
  refine X6 ?_
  refine X05 ?_
  refine X6 ?_
  refine X05 ?_
  refine X2 hf (X0t hf rfl (ResV.cellN (l:=[vi c.n,.slice A16 c.gs.length c16,.slice A42 l.length c42,vi n1,.slice A43 gs.length c43]) rfl X68 (hB7.at 0) rfl) rfl) ?_
  rw [hfin,hc]
  exact ⟨l,_,_,_,_,_,_,rfl,rfl,⟨ho16.cap,ho43.cap⟩,ho16.rd.top,ho43.rd.top,ho42,(hdp42.top),hW⟩
 have hc52b:=hc52
 have hlen:l.length+gs.length≤c.gs.length:=hin.len
 have hr9:canS gs=some ((canS gs).getD rpZ):=by revert hc52;cases canS gs<;>simp
 obtain ⟨_,_,_,_,_,hl41,hl42⟩:=X6x hin.ok hr9
 refine wp_skip ?_
 refine hK50 _ _ ?_
 refine Zs hf fun _ hK54=>?_
 refine Ze (Vd rfl X25 2)<|Ze (X0 rfl X5u (hB24.at 2))<|Ze (Vn X15 hB49) ?_
 refine Zf (X8 (k:=1) (vs:=[.agg #[vi (((canS (⟨n1,gs⟩ : Cx).gs).getD rpZ).pos),.slice A45 (((canS (⟨n1,gs⟩ : Cx).gs).getD rpZ).old).length c45,.slice A46 (((canS (⟨n1,gs⟩ : Cx).gs).getD rpZ).new).length c46]]) (zs:=[vi (((canS (⟨n1,gs⟩ : Cx).gs).getD rpZ).pos),.slice A45 (((canS (⟨n1,gs⟩ : Cx).gs).getD rpZ).old).length c45,.slice A46 (((canS (⟨n1,gs⟩ : Cx).gs).getD rpZ).new).length c46]) rfl X34 X5c rfl rfl) ?_;rintro _ w22 ⟨b55,rfl,hl55,hE,hB55⟩
 have hne49_55:b49≠b55:=by have:=hB49.lt;omega
 have hlo55:=Nat.le_trans hW.size hl55
 have haw42_55:=ho42.away hl55
 replace hB7:=hB7.below hE
 replace hB24:=hB24.below hE
 replace hB49:=hB49.below hE
 replace ho16:=ho16.below hE
 replace ho42:=ho42.below hE
 replace ho43:=ho43.below hE
 replace hr45:=hr45.below hE
 replace hr46:=hr46.below hE
 replace hdp42:=hdp42.below hE
 replace hW:=btr hW hE
 refine Zf (X0q (enc:=encSr) (l:=(l)) (l2:=([(⟨((canS (⟨n1,gs⟩ : Cx).gs).getD rpZ).pos,A45,c45,((canS (⟨n1,gs⟩ : Cx).gs).getD rpZ).old,A46,c46,((canS (⟨n1,gs⟩ : Cx).gs).getD rpZ).new⟩ : Sr)])) (B0:=w0.heap.size) rfl rfl X34 X5c X3j X4v ho42 (Rd.of_blk hB55 rfl _ hB55.lt) (by simp only [maxLen];simp;omega) (by simp;omega) hW.size) ?_;rintro _ w23 ⟨A57,c57,rfl,ho57,hg,hat⟩
 have hown:Own _ w0.heap.size 62 3 encSr _ _ (l):=ho42
 have haw57_49:=hat _ hB49.lt haw42_49
 have haw57_55:=hat _ hB55.lt haw42_55
 clear hat
 have hdp57:=DeepR.snoc (l:=l) (x:=(⟨((canS (⟨n1,gs⟩ : Cx).gs).getD rpZ).pos,A45,c45,((canS (⟨n1,gs⟩ : Cx).gs).getD rpZ).old,A46,c46,((canS (⟨n1,gs⟩ : Cx).gs).getD rpZ).new⟩ : Sr)) hdp42.top hr45.top hr46.top
 replace hB7:=hB7.appT hown hg rfl
 replace hB24:=hB24.appT hown hg rfl
 replace hB49:=hB49.appA hg haw42_49
 replace ho16:=ho16.appT hown hg rfl
 replace ho43:=ho43.appT hown hg rfl
 replace hr45:=hr45.appT hown hg rfl
 replace hr46:=hr46.appT hown hg rfl
 replace hdp57:=hdp57.appT hown hg rfl
 replace hW:=Below.app hW hown hg (Nat.le_refl _) hW.size
 clear hown hg
 refine Ze (Vd rfl X25 2) ?_
 refine Zo (Vu (vs:=[.slice A57 (l++([(⟨((canS (⟨n1,gs⟩ : Cx).gs).getD rpZ).pos,A45,c45,((canS (⟨n1,gs⟩ : Cx).gs).getD rpZ).old,A46,c46,((canS (⟨n1,gs⟩ : Cx).gs).getD rpZ).new⟩ : Sr)])).length c57]) (l':=[vi c.n,.slice A16 c.gs.length c16,.slice A57 (l++([(⟨((canS (⟨n1,gs⟩ : Cx).gs).getD rpZ).pos,A45,c45,((canS (⟨n1,gs⟩ : Cx).gs).getD rpZ).old,A46,c46,((canS (⟨n1,gs⟩ : Cx).gs).getD rpZ).new⟩ : Sr)])).length c57,vi n1,.slice A43 gs.length c43]) rfl rfl Xca hB24) ?_;rintro _ w24 ⟨ho,hb⟩
 have hold:=hB24
 replace hB7:=hB7.only ho (by omega)
 replace hB49:=hB49.only ho (Blk.ne hB49 hold rfl)
 replace ho16:=ho16.onlyT ho hold rfl
 replace ho43:=ho43.onlyT ho hold rfl
 replace hr45:=hr45.onlyT ho hold rfl
 replace hr46:=hr46.onlyT ho hold rfl
 replace ho57:=ho57.onlyT ho hold rfl
 replace hdp57:=hdp57.onlyT ho hold rfl
 replace hW:=Below.only hW ho hlo24
 clear hold
 have hB24:=hb
 clear hb ho
 refine Zt hK54 fun a hf=>?_
 refine Zr hf ?_
 refine Ze (Vd rfl X1s 3)<|Ze (X0a (l:=[vi n1,.slice A43 gs.length c43]) rfl X0p ((hB24.at 3).take 2) rfl)<|Ze (Vn X15 hB49) ?_
 refine Zf (Vc (F63 _ (⟨n1,gs⟩ : Cx) A43 c43 ho43.rd.top ho43.cap ((canS (⟨n1,gs⟩ : Cx).gs).getD rpZ) A45 c45 hr45.top A46 c46 hr46.top (by have:=hin.len;omega) (Nat.le_trans hl41 (by decide)) (Nat.le_trans hl42 (by decide))) Xl3) ?_;rintro _ w25 ⟨A58,c58,rfl,ho58,hE⟩
 replace ho58:=ho58.lower hW.size
 replace hB7:=hB7.below hE
 replace hB24:=hB24.below hE
 replace hB49:=hB49.below hE
 replace ho16:=ho16.below hE
 replace ho43:=ho43.below hE
 replace hr45:=hr45.below hE
 replace hr46:=hr46.below hE
 replace ho57:=ho57.below hE
 replace hdp57:=hdp57.below hE
 replace hW:=btr hW hE
 refine Zm rfl<|Ze (X3 (vs:=[.agg #[vi (((applyS (⟨n1,gs⟩ : Cx) ((canS (⟨n1,gs⟩ : Cx).gs).getD rpZ)).getD cZ).n),.slice A58 (((applyS (⟨n1,gs⟩ : Cx) ((canS (⟨n1,gs⟩ : Cx).gs).getD rpZ)).getD cZ).gs).length c58],.bool ((applyS (⟨n1,gs⟩ : Cx) ((canS (⟨n1,gs⟩ : Cx).gs).getD rpZ)).isSome)]) rfl rfl)<|Ze (X3 (vs:=[.agg #[vi (((applyS (⟨n1,gs⟩ : Cx) ((canS (⟨n1,gs⟩ : Cx).gs).getD rpZ)).getD cZ).n),.slice A58 (((applyS (⟨n1,gs⟩ : Cx) ((canS (⟨n1,gs⟩ : Cx).gs).getD rpZ)).getD cZ).gs).length c58],.bool ((applyS (⟨n1,gs⟩ : Cx) ((canS (⟨n1,gs⟩ : Cx).gs).getD rpZ)).isSome)]) rfl rfl)<|Ze (Vd rfl X1s 3) ?_
 refine Zo (Vu (vs:=[vi (((applyS (⟨n1,gs⟩ : Cx) ((canS (⟨n1,gs⟩ : Cx).gs).getD rpZ)).getD cZ).n),.slice A58 (((applyS (⟨n1,gs⟩ : Cx) ((canS (⟨n1,gs⟩ : Cx).gs).getD rpZ)).getD cZ).gs).length c58]) (l':=[vi c.n,.slice A16 c.gs.length c16,.slice A57 (l++([(⟨((canS (⟨n1,gs⟩ : Cx).gs).getD rpZ).pos,A45,c45,((canS (⟨n1,gs⟩ : Cx).gs).getD rpZ).old,A46,c46,((canS (⟨n1,gs⟩ : Cx).gs).getD rpZ).new⟩ : Sr)])).length c57,vi (((applyS (⟨n1,gs⟩ : Cx) ((canS (⟨n1,gs⟩ : Cx).gs).getD rpZ)).getD cZ).n),.slice A58 (((applyS (⟨n1,gs⟩ : Cx) ((canS (⟨n1,gs⟩ : Cx).gs).getD rpZ)).getD cZ).gs).length c58]) rfl rfl X1c hB24) ?_;rintro _ w26 ⟨ho,hb⟩
 have hold:=hB24
 replace hB7:=hB7.only ho (by omega)
 replace hB49:=hB49.only ho (Blk.ne hB49 hold rfl)
 replace ho16:=ho16.onlyT ho hold rfl
 replace ho43:=ho43.onlyT ho hold rfl
 replace hr45:=hr45.onlyT ho hold rfl
 replace hr46:=hr46.onlyT ho hold rfl
 replace ho57:=ho57.onlyT ho hold rfl
 replace ho58:=ho58.onlyT ho hold rfl
 replace hdp57:=hdp57.onlyT ho hold rfl
 replace hW:=Below.only hW ho hlo24
 clear hold
 have hB24:=hb
 clear hb ho
 refine Zn fun a hf=>?_
 refine Xj ?_
 obtain ⟨k2,hk2,hin2⟩:=hin.next hr9 (s:=⟨((canS (⟨n1,gs⟩ : Cx).gs).getD rpZ).pos,A45,c45,((canS (⟨n1,gs⟩ : Cx).gs).getD rpZ).old,A46,c46,((canS (⟨n1,gs⟩ : Cx).gs).getD rpZ).new⟩) rfl
 refine Xs ?_
 exact ⟨(l++([(⟨((canS (⟨n1,gs⟩ : Cx).gs).getD rpZ).pos,A45,c45,((canS (⟨n1,gs⟩ : Cx).gs).getD rpZ).old,A46,c46,((canS (⟨n1,gs⟩ : Cx).gs).getD rpZ).new⟩ : Sr)]),((applyS (⟨n1,gs⟩ : Cx) ((canS (⟨n1,gs⟩ : Cx).gs).getD rpZ)).getD cZ).n,((applyS (⟨n1,gs⟩ : Cx) ((canS (⟨n1,gs⟩ : Cx).gs).getD rpZ)).getD cZ).gs,k2),⟨A57,c57,A58,c58,hf.sub ⟨rfl,rfl,trivial⟩,hin2,hB7,hB24,ho16,ho57,ho58,hdp57.top,hW⟩,(by first|omega|(dsimp only;omega))⟩
end Go.Proofs.YtlfjcmldfbfdbaaGreat
set_option maxRecDepth 4000
namespace Go.Proofs.YtlfjcmldfbfdbaaGreat
open Go.RowKit
theorem Xoi(w0:World)(bV:Nat){Xcd:TypeId}(Acd:Option Addr)(ccd:Nat)(code:List Int)(hr_code:Rd w0 w0.heap.size Xcd encU Acd code)(hcd:∀ x ∈ code,0≤x∧x≤255)(hav:AwayR code Acd bV)(t:Nat)(sd:Int)(hBV:Blk w0 bV 80 [.slice Acd code.length ccd,vi (t:Int),.int .u64 sd])(c:Cx)(Ac:Option Addr)(cc:Nat)(hr_c:Rd w0 w0.heap.size 24 encG Ac c.gs)(hp_c:c.gs.length≤cc)(hcn:c.n≤100)(hln:c.gs.length≤1000)(ht:t+26≤100000000) : Ret Tryz.prog 151 [.pointer (some ⟨bV,0,none⟩),.agg #[vi c.n,.slice Ac c.gs.length cc]] w0 (fun v w=>∃ (r:Rp) (A:Option Addr) (e:Nat) (B:Option Addr) (f:Nat) (t1:Nat) (s1:Int),v=.agg #[vi r.pos,.slice A r.old.length e,.slice B r.new.length f]∧(r.old.length≤41∧r.new.length≤41)∧(t≤t1∧t1≤t+26)∧Rd w w.heap.size 24 encG A r.old∧Rd w w.heap.size 24 encG B r.new∧Kept bV w0.heap.size w0 w∧Blk w bV 80 [.slice Acd code.length ccd,vi (t1:Int),.int .u64 s1]):=by
 have hltV:=hBV.lt
 refine enter Tryz.func151 rfl 102 rfl rfl ?_
 intro a hf
 have hW:Kept bV w0.heap.size w0 w0:=Kept.refl _ _ _
 refine Zs hf fun _ hK3=>?_
 refine Zf (X0j (zs:=[vi c.n,.slice Ac c.gs.length cc]) rfl rfl) ?_;rintro _ w1 ⟨b4,rfl,hl4,hE,hB4⟩
 have hlo4:=Nat.le_trans hW.size hl4
 have haw1_4:=hr_code.away hl4
 replace hBV:=hBV.below hE
 replace hr_code:=hr_code.below hE
 replace hr_c:=hr_c.below hE
 replace hW:=ktr hW hE
 refine Zf (X9 (zs:=[vi 0,.slice none 0 0,.slice none 0 0]) X7g rfl) ?_;rintro _ w2 ⟨b7,rfl,hl7,hE,hB7⟩
 have hlo7:=Nat.le_trans hW.size hl7
 have haw1_7:=hr_code.away hl7
 replace hBV:=hBV.below hE
 replace hB4:=hB4.below hE
 replace hr_code:=hr_code.below hE
 replace hr_c:=hr_c.below hE
 replace hW:=ktr hW hE
 refine Zt hK3 fun a hf=>?_
 refine Zs hf fun _ hK8=>?_
 refine Zm rfl<|Ze (Vd rfl X00 1)<|Ze (X0 rfl X0d (hB4.at 1))<|Ze (X0y rfl Xg)<|Ze (X07 rfl rfl (by omega) (by omega)) ?_
 refine Zf (Vc (X2h _ bV Acd ccd code hr_code.top hcd hav t sd hBV ((c.gs.length:Int)+1) (by omega)) X1j) ?_;rintro _ w3 ⟨xz14,tz14,sz14,rfl,hPz14,htz14,hK,hbn⟩
 obtain ⟨wm,hO,hm,hE⟩:=hK.mid;clear hm
 have hold:=hBV
 replace hB4:=hB4.only hO (Blk.ne hB4 hold rfl)
 replace hB7:=hB7.only hO (Blk.ne hB7 hold rfl)
 replace hr_code:=hr_code.onlyA hO hav
 replace hr_c:=hr_c.onlyT hO hold rfl
 replace hW:=hW.self hO
 replace hB4:=hB4.below hE
 replace hB7:=hB7.below hE
 replace hr_code:=hr_code.below hE
 replace hr_c:=hr_c.below hE
 replace hW:=ktr hW hE
 clear hold hE hO hK;replace hBV:=hbn;clear hbn
 refine Za rfl ?_
 refine Zt hK8 fun a hf=>?_
 refine Zs hf fun _ hK9=>?_
 refine Zm rfl<|Ze (Vd rfl X00 1)<|Ze (X0 rfl X0d (hB4.at 1))<|Ze (X0y rfl Xg)<|Zm rfl ?_
 refine Ze (X1e rfl rfl (by omega) (by omega)) ?_
 refine Zf (Vc (Xkr _ 4 ((c.gs.length:Int)-xz14)) Xda) ?_;rintro _ w4 ⟨rfl,hE⟩
 replace hBV:=hBV.below hE
 replace hB4:=hB4.below hE
 replace hB7:=hB7.below hE
 replace hr_code:=hr_code.below hE
 replace hr_c:=hr_c.below hE
 replace hW:=ktr hW hE
 refine Ze (X07 rfl rfl (by omega) (by omega)) ?_
 refine Zf (Vc (X2h _ bV Acd ccd code hr_code.top hcd hav tz14 sz14 hBV ((min 4 ((c.gs.length:Int)-xz14))+1) (by omega)) X1j) ?_;rintro _ w5 ⟨xz23,tz23,sz23,rfl,hPz23,htz23,hK,hbn⟩
 obtain ⟨wm,hO,hm,hE⟩:=hK.mid;clear hm
 have hold:=hBV
 replace hB4:=hB4.only hO (Blk.ne hB4 hold rfl)
 replace hB7:=hB7.only hO (Blk.ne hB7 hold rfl)
 replace hr_code:=hr_code.onlyA hO hav
 replace hr_c:=hr_c.onlyT hO hold rfl
 replace hW:=hW.self hO
 replace hB4:=hB4.below hE
 replace hB7:=hB7.below hE
 replace hr_code:=hr_code.below hE
 replace hr_c:=hr_c.below hE
 replace hW:=ktr hW hE
 clear hold hE hO hK;replace hBV:=hbn;clear hbn
 refine Za rfl ?_
 refine Zt hK9 fun a hf=>?_
 refine Zs hf fun _ hK10=>?_
 refine Zm rfl ?_
 refine Zf (X8 (k:=0) (vs:=[]) (zs:=[]) rfl Xg Xm rfl rfl) ?_;rintro _ w6 ⟨b11,rfl,hl11,hE,hB11⟩
 have hlo11:=Nat.le_trans hW.size hl11
 have haw1_11:=hr_code.away hl11
 have haw2_11:=hr_c.away hl11
 replace hBV:=hBV.below hE
 replace hB4:=hB4.below hE
 replace hB7:=hB7.below hE
 replace hr_code:=hr_code.below hE
 replace hr_c:=hr_c.below hE
 replace hW:=ktr hW hE
 refine Ze (Vd rfl X00 1)<|Ze (X0 rfl X0d (hB4.at 1))<|Zm rfl<|Zm rfl<|Zm rfl ?_
 refine Ze (X07 rfl rfl (by omega) (by omega)) ?_
 have hr13:=((hr_c.top).takeK Xe ((xz14+xz23).toNat)).dropK Xe (c:=cc) (X4x hp_c ((xz14+xz23).toNat)) xz14.toNat
 refine Ze (X9t (l:=c.gs) (k:=xz14.toNat) (m:=(xz14+xz23).toNat) rfl rfl rfl Xg X08 (by omega) (by omega) (by omega) (by omega) hp_c) ?_
 refine Zf (X1b (enc:=encG) (l2:=(((c.gs.take ((xz14+xz23).toNat)).drop xz14.toNat))) rfl rfl Xg Xm Xe X0b hB11 hr13 (by simp only [maxLen];simp;omega) (by simp;omega)) ?_;rintro _ w7 ⟨A14,c14,rfl,ho14,hE,hat⟩
 clear hat
 replace ho14:=ho14.lower hlo11
 replace hBV:=hBV.below hE
 replace hB4:=hB4.below hE
 replace hB7:=hB7.below hE
 replace hr_code:=hr_code.below hE
 replace hr_c:=hr_c.below hE
 replace hr13:=hr13.below hE
 replace hW:=ktr hW hE
 refine Ze (Xu (ps:=[(0,vi xz14),(1,.slice A14 ((c.gs.take ((xz14+xz23).toNat)).drop xz14.toNat).length c14)]) (cs:=[vi xz14,.slice A14 ((c.gs.take ((xz14+xz23).toNat)).drop xz14.toNat).length c14,.slice none 0 0]) rfl (fun _=>by first|rfl|kernel_rfl)) ?_
 refine Zf (X9 (zs:=[vi 0,.slice none 0 0,.slice none 0 0]) X7g rfl) ?_;rintro _ w8 ⟨b19,rfl,hl19,hE,hB19⟩
 have hne7_19:b7≠b19:=by have:=hB7.lt;omega
 have hlo19:=Nat.le_trans hW.size hl19
 have haw1_19:=hr_code.away hl19
 replace hBV:=hBV.below hE
 replace hB4:=hB4.below hE
 replace hB7:=hB7.below hE
 replace hr_code:=hr_code.below hE
 replace hr_c:=hr_c.below hE
 replace hr13:=hr13.below hE
 replace ho14:=ho14.below hE
 replace hW:=ktr hW hE
 refine Zo (Vw [vi xz14,.slice A14 ((c.gs.take ((xz14+xz23).toNat)).drop xz14.toNat).length c14,.slice none 0 0] X1u hB19) ?_;rintro _ w9 ⟨ho,hb⟩
 have hold:=hB19
 replace hBV:=hBV.only ho (Blk.ne hBV hold rfl)
 replace hB4:=hB4.only ho (Blk.ne hB4 hold rfl)
 replace hB7:=hB7.only ho (by omega)
 replace hr_code:=hr_code.only ho hlo19
 replace hr_c:=hr_c.onlyT ho hold rfl
 replace hr13:=hr13.onlyT ho hold rfl
 replace ho14:=ho14.onlyT ho hold rfl
 replace hW:=Kept.only hW ho hlo19
 clear hold
 have hB19:=hb
 clear hb ho
 refine Zt hK10 fun a hf=>?_
 refine Zs hf fun _ hK20=>?_
 refine Zf (X8 (k:=0) (vs:=[]) (zs:=[]) rfl Xg Xm rfl rfl) ?_;rintro _ w10 ⟨b21,rfl,hl21,hE,hB21⟩
 have hlo21:=Nat.le_trans hW.size hl21
 have haw1_21:=hr_code.away hl21
 have haw2_21:=hr_c.away hl21
 have haw14_21:=ho14.away hl21
 replace hBV:=hBV.below hE
 replace hB4:=hB4.below hE
 replace hB7:=hB7.below hE
 replace hB19:=hB19.below hE
 replace hr_code:=hr_code.below hE
 replace hr_c:=hr_c.below hE
 replace ho14:=ho14.below hE
 replace hW:=ktr hW hE
 refine Ze (Vd rfl X1p 1)<|Ze (X0 rfl X0d (hB19.at 1)) ?_
 refine Zf (X1b (enc:=encG) (l2:=(((c.gs.take ((xz14+xz23).toNat)).drop xz14.toNat))) rfl rfl Xg Xm Xe X0b hB21 ho14.rd (by simp only [maxLen];simp;omega) (by simp;omega)) ?_;rintro _ w11 ⟨A23,c23,rfl,ho23,hE,hat⟩
 have hap14_23:=Apart.new0 ho14 haw14_21 hat
 clear hat
 replace ho23:=ho23.lower hlo21
 replace hBV:=hBV.below hE
 replace hB4:=hB4.below hE
 replace hB7:=hB7.below hE
 replace hB19:=hB19.below hE
 replace hr_code:=hr_code.below hE
 replace hr_c:=hr_c.below hE
 replace ho14:=ho14.below hE
 replace hW:=ktr hW hE
 refine Ze (Vd rfl X1k 2) ?_
 refine Zo (Vu (vs:=[.slice A23 ((c.gs.take ((xz14+xz23).toNat)).drop xz14.toNat).length c23]) (l':=[vi xz14,.slice A14 ((c.gs.take ((xz14+xz23).toNat)).drop xz14.toNat).length c14,.slice A23 ((c.gs.take ((xz14+xz23).toNat)).drop xz14.toNat).length c23]) rfl rfl X2j hB19) ?_;rintro _ w12 ⟨ho,hb⟩
 have hold:=hB19
 replace hBV:=hBV.only ho (Blk.ne hBV hold rfl)
 replace hB4:=hB4.only ho (Blk.ne hB4 hold rfl)
 replace hB7:=hB7.only ho (by omega)
 replace hr_code:=hr_code.only ho hlo19
 replace hr_c:=hr_c.onlyT ho hold rfl
 replace ho14:=ho14.onlyT ho hold rfl
 replace ho23:=ho23.onlyT ho hold rfl
 replace hW:=Kept.only hW ho hlo19
 clear hold
 have hB19:=hb
 clear hb ho
 refine Zt hK20 fun a hf=>?_
 refine wp_seq_k fun _ hK24=>?_
 refine Zs hf fun _ hK25=>?_
 refine Zm rfl ?_
 refine Zf (Vc (X2h _ bV Acd ccd code hr_code.top hcd hav tz23 sz23 hBV 8 (by omega)) X1j) ?_;rintro _ w13 ⟨xz41,tz41,sz41,rfl,hPz41,htz41,hK,hbn⟩
 obtain ⟨wm,hO,hm,hE⟩:=hK.mid;clear hm
 have hold:=hBV
 replace hB4:=hB4.only hO (Blk.ne hB4 hold rfl)
 replace hB7:=hB7.only hO (Blk.ne hB7 hold rfl)
 replace hB19:=hB19.only hO (Blk.ne hB19 hold rfl)
 replace hr_code:=hr_code.onlyA hO hav
 replace hr_c:=hr_c.onlyT hO hold rfl
 replace ho14:=ho14.onlyT hO hold rfl
 replace ho23:=ho23.onlyT hO hold rfl
 replace hW:=hW.self hO
 replace hB4:=hB4.below hE
 replace hB7:=hB7.below hE
 replace hB19:=hB19.below hE
 replace hr_code:=hr_code.below hE
 replace hr_c:=hr_c.below hE
 replace ho14:=ho14.below hE
 replace ho23:=ho23.below hE
 replace hW:=ktr hW hE
 clear hold hE hO hK;replace hBV:=hbn;clear hbn
 refine Zt hK25 fun a hf=>?_
 refine wp_block ?_
 refine Zs hf fun _ hK26=>?_
 refine Ze (X0x rfl rfl)<|Za rfl ?_
 refine Zt hK26 fun a hf=>?_
 refine Xo hf rfl (fun hc27=>?_) (fun hc27=>?_)
 ·have hc27b:=hc27
  refine Zr hf ?_
  refine Zm rfl<|Ze (Vd rfl X17 0)<|Ze (X0 rfl X5 (hB4.at 0)) ?_
  refine Zf (Vc (Xoq _ 1 c.n) Xi0) ?_;rintro _ _ ⟨rfl,rfl⟩
  refine Zf (X8 (k:=6) (vs:=[vi 1,vi 4,vi 5,vi 7,vi 9,vi 12]) (zs:=[vi 1,vi 4,vi 5,vi 7,vi 9,vi 12]) rfl X0z X2b rfl rfl) ?_;rintro _ w14 ⟨b28,rfl,hl28,hE,hB28⟩
  have hlo28:=Nat.le_trans hW.size hl28
  have haw1_28:=hr_code.away hl28
  replace hBV:=hBV.below hE
  replace hB4:=hB4.below hE
  replace hB7:=hB7.below hE
  replace hB19:=hB19.below hE
  replace hr_code:=hr_code.below hE
  replace hr_c:=hr_c.below hE
  replace ho14:=ho14.below hE
  replace ho23:=ho23.below hE
  replace hW:=ktr hW hE
  refine Zf (Vc (Xhq _ bV Acd ccd code hr_code.top hcd hav tz41 sz41 hBV (max 1 c.n) 3 (some ⟨b28,0,none⟩) 6 ([1,4,5,7,9,12]) (Rd.of_blk hB28 rfl _ hB28.lt) (by omega) (by omega) (by simp) (by simp) (by omega)) Xac) ?_;rintro _ w15 ⟨cz49,Az49,ez49,tz49,sz49,rfl,hPz49,htz49,hoz49,hK,hbn⟩
  have hlv:=hW.size
  obtain ⟨wm,hO,hm,hE⟩:=hK.mid;clear hm
  have hold:=hBV
  replace hB4:=hB4.only hO (Blk.ne hB4 hold rfl)
  replace hB7:=hB7.only hO (Blk.ne hB7 hold rfl)
  replace hB19:=hB19.only hO (Blk.ne hB19 hold rfl)
  replace hB28:=hB28.only hO (Blk.ne hB28 hold rfl)
  replace hr_code:=hr_code.onlyA hO hav
  replace hr_c:=hr_c.onlyT hO hold rfl
  replace ho14:=ho14.onlyT hO hold rfl
  replace ho23:=ho23.onlyT hO hold rfl
  replace hW:=hW.self hO
  replace hB4:=hB4.below hE
  replace hB7:=hB7.below hE
  replace hB19:=hB19.below hE
  replace hB28:=hB28.below hE
  replace hr_code:=hr_code.below hE
  replace hr_c:=hr_c.below hE
  replace ho14:=ho14.below hE
  replace ho23:=ho23.below hE
  replace hW:=ktr hW hE
  clear hold hE hO hK;replace hBV:=hbn;clear hbn
  replace hoz49:=hoz49.lower hlv;clear hlv
  refine Ze (Xj7 (vs:=[vi cz49.n,.slice Az49 cz49.gs.length ez49]) rfl ⟨_,_,Tryz.underlying31,rfl,rfl,X0d⟩ rfl)<|Ze (Vd rfl X1k 2) ?_
  refine Zo (Vu (vs:=[.slice Az49 cz49.gs.length ez49]) (l':=[vi xz14,.slice A14 ((c.gs.take ((xz14+xz23).toNat)).drop xz14.toNat).length c14,.slice Az49 cz49.gs.length ez49]) rfl rfl X2j hB19) ?_;rintro _ w16 ⟨ho,hb⟩
  have hold:=hB19
  replace hBV:=hBV.only ho (Blk.ne hBV hold rfl)
  replace hB4:=hB4.only ho (Blk.ne hB4 hold rfl)
  replace hB7:=hB7.only ho (by omega)
  replace hB28:=hB28.only ho (Blk.ne hB28 hold rfl)
  replace hr_code:=hr_code.only ho hlo19
  replace hr_c:=hr_c.onlyT ho hold rfl
  replace ho14:=ho14.onlyT ho hold rfl
  replace ho23:=ho23.onlyT ho hold rfl
  replace hoz49:=hoz49.onlyT ho hold rfl
  replace hW:=Kept.only hW ho hlo19
  clear hold
  have hB19:=hb
  clear hb ho
  refine Zn fun a hf=>?_
  refine Xj ?_
  refine hK24 _ _ ?_
  refine Zs hf fun _ hK31=>?_
  refine Ze (Vn X15 hB19) ?_
  refine Zo (Vw [vi xz14,.slice A14 ((c.gs.take ((xz14+xz23).toNat)).drop xz14.toNat).length c14,.slice Az49 cz49.gs.length ez49] X1u hB7) ?_;rintro _ w17 ⟨ho,hb⟩
  have hold:=hB7
  replace hBV:=hBV.only ho (Blk.ne hBV hold rfl)
  replace hB19:=hB19.only ho (by omega)
  replace ho14:=ho14.onlyT ho hold rfl
  replace hoz49:=hoz49.onlyT ho hold rfl
  replace hW:=Kept.only hW ho hlo7
  clear hold
  have hB7:=hb
  clear hb ho
  refine Zt hK31 fun a hf=>?_
  refine wp_ret (X2 hf (Xz hf rfl (ResV.cellN (l:=[vi xz14,.slice A14 ((c.gs.take ((xz14+xz23).toNat)).drop xz14.toNat).length c14,.slice Az49 cz49.gs.length ez49]) rfl X15 (hB7.at 0) rfl)) ?_)
  exact ⟨⟨xz14,((c.gs.take ((xz14+xz23).toNat)).drop xz14.toNat),cz49.gs⟩,A14,c14,Az49,ez49,_,_,(by first|rfl|simp),⟨(by show (((c.gs.take ((xz14+xz23).toNat)).drop xz14.toNat)).length≤41;first|omega|(simp;omega)|simp),(by show (cz49.gs).length≤41;first|omega|(simp;omega)|simp)⟩,⟨by omega,by omega⟩,ho14.rd.top,hoz49.rd.top,hW,hBV⟩
 have hc27b:=hc27
 refine Zs hf fun _ hK32=>?_
 refine Ze (X0x rfl rfl)<|Za rfl ?_
 refine Zt hK32 fun a hf=>?_
 refine Xo hf rfl (fun hc33=>?_) (fun hc33=>?_)
 ·have hc33b:=hc33
  refine X09 (some bV) (fun j=>[6,8].contains j) mixed ?_
  intro w18 hE
  replace hBV:=hBV.below hE
  replace hB7:=hB7.below hE
  replace hB19:=hB19.below hE
  replace hr_code:=hr_code.below hE
  replace ho14:=ho14.below hE
  replace ho23:=ho23.below hE
  replace hW:=ktr hW hE
  refine Yb hf ?_
  refine Yo 0 rfl (fun _=>Vd rfl X1p 1) ?_
  refine Yw 1 rfl trivial (fun w1 h1=>X0 rfl X0d ((hB19.only h1 (Blk.ne hB19 hBV rfl)).at 1)) ?_
  refine Yo 2 rfl (fun _=>X7 rfl) ?_
  refine Y1 3 ?_
  refine Yf rfl trivial (EfW.mono (Vc (X2h _ bV Acd ccd code hr_code.top hcd hav tz41 sz41 hBV 13 (by omega)) X1j) (fun _ _ h=>⟨fun _=>by obtain ⟨xz57,tz57,sz57,rfl,hPz57,htz57,hK,hbn⟩:=h;exact hK.keep,h⟩)) ?_;rintro _ w19 ⟨xz57,tz57,sz57,rfl,hPz57,htz57,hK,hbn⟩
  obtain ⟨wm,hO,hm,hE⟩:=hK.mid;clear hm
  have hold:=hBV
  replace hB7:=hB7.only hO (Blk.ne hB7 hold rfl)
  replace hB19:=hB19.only hO (Blk.ne hB19 hold rfl)
  replace hr_code:=hr_code.onlyA hO hav
  replace ho14:=ho14.onlyT hO hold rfl
  replace ho23:=ho23.onlyT hO hold rfl
  replace hW:=hW.self hO
  replace hB7:=hB7.below hE
  replace hB19:=hB19.below hE
  replace hr_code:=hr_code.below hE
  replace ho14:=ho14.below hE
  replace ho23:=ho23.below hE
  replace hW:=ktr hW hE
  clear hold hE hO hK;replace hBV:=hbn;clear hbn
  refine Yo 4 rfl (fun _=>Xu (ps:=[(0,vi xz57)]) (cs:=[vi xz57,vi 0,vi 0]) rfl (fun _=>by first|rfl|kernel_rfl)) ?_
  refine Y1 5 ?_
  refine Yf rfl trivial (EfW.mono (X8 (k:=1) (vs:=[.agg #[vi xz57,vi 0,vi 0]]) (zs:=[vi xz57,vi 0,vi 0]) rfl Xg Xm rfl rfl) (fun _ _ h=>⟨fun _=>by obtain ⟨_,_,_,hE,_⟩:=h;exact Keep.of_below hE,h⟩)) ?_;rintro _ w20 ⟨b34,rfl,hl34,hE,hB34⟩
  have hlo34:=Nat.le_trans hW.size hl34
  have haw1_34:=hr_code.away hl34
  have haw14_34:=ho14.away hl34
  have haw23_34:=ho23.away hl34
  replace hBV:=hBV.below hE
  replace hB7:=hB7.below hE
  replace hB19:=hB19.below hE
  replace hr_code:=hr_code.below hE
  replace ho14:=ho14.below hE
  replace ho23:=ho23.below hE
  replace hW:=ktr hW hE
  refine Y1 6 ?_
  refine Yt rfl trivial rfl (X0q (enc:=encG) (l:=(((c.gs.take ((xz14+xz23).toNat)).drop xz14.toNat))) (l2:=([(⟨xz57,0,0⟩ : Gt)])) (B0:=w0.heap.size) rfl rfl Xg Xm Xe X0b ho14 (Rd.of_blk hB34 rfl _ hB34.lt) (by simp only [maxLen];simp;omega) (by simp;omega) hW.size) ?_;rintro _ w21 ⟨A36,c36,rfl,ho36,hg,hat⟩
  have hown:Own _ w0.heap.size 24 3 encG _ _ (((c.gs.take ((xz14+xz23).toNat)).drop xz14.toNat)):=ho14
  have haw36_34:=hat _ hB34.lt haw14_34
  have hap23_36:=Apart.app ho23 hap14_23.symm hat
  clear hat
  replace hBV:=hBV.appT hown hg rfl
  replace hB7:=hB7.appT hown hg rfl
  replace hB19:=hB19.appT hown hg rfl
  replace hr_code:=hr_code.appB hown hg (Nat.le_refl _)
  replace ho23:=ho23.appP hg hap14_23.symm
  replace hW:=Kept.app hW hown hg (Nat.le_refl _) hW.size
  clear hown hg
  refine Yo 7 rfl (fun _=>Vd rfl X1p 1) ?_
  refine Y1 8 ?_
  refine Yh rfl trivial rfl (Vu (vs:=[.slice A36 (((c.gs.take ((xz14+xz23).toNat)).drop xz14.toNat)++([(⟨xz57,0,0⟩ : Gt)])).length c36]) (l':=[vi xz14,.slice A36 (((c.gs.take ((xz14+xz23).toNat)).drop xz14.toNat)++([(⟨xz57,0,0⟩ : Gt)])).length c36,.slice A23 ((c.gs.take ((xz14+xz23).toNat)).drop xz14.toNat).length c23]) rfl rfl X2j hB19) ?_;rintro _ w22 ⟨ho,hb⟩
  have hold:=hB19
  replace hBV:=hBV.only ho (Blk.ne hBV hold rfl)
  replace hB7:=hB7.only ho (by omega)
  replace hr_code:=hr_code.only ho hlo19
  replace ho23:=ho23.onlyT ho hold rfl
  replace ho36:=ho36.onlyT ho hold rfl
  replace hW:=Kept.only hW ho hlo19
  clear hold
  have hB19:=hb
  clear hb ho
  refine Yd fun a hf=>?_
  refine Xj ?_
  refine hK24 _ _ ?_
  refine Zs hf fun _ hK37=>?_
  refine Ze (Vn X15 hB19) ?_
  refine Zo (Vw [vi xz14,.slice A36 (((c.gs.take ((xz14+xz23).toNat)).drop xz14.toNat)++([(⟨xz57,0,0⟩ : Gt)])).length c36,.slice A23 ((c.gs.take ((xz14+xz23).toNat)).drop xz14.toNat).length c23] X1u hB7) ?_;rintro _ w23 ⟨ho,hb⟩
  have hold:=hB7
  replace hBV:=hBV.only ho (Blk.ne hBV hold rfl)
  replace hB19:=hB19.only ho (by omega)
  replace ho23:=ho23.onlyT ho hold rfl
  replace ho36:=ho36.onlyT ho hold rfl
  replace hW:=Kept.only hW ho hlo7
  clear hold
  have hB7:=hb
  clear hb ho
  refine Zt hK37 fun a hf=>?_
  refine wp_ret (X2 hf (Xz hf rfl (ResV.cellN (l:=[vi xz14,.slice A36 (((c.gs.take ((xz14+xz23).toNat)).drop xz14.toNat)++([(⟨xz57,0,0⟩ : Gt)])).length c36,.slice A23 ((c.gs.take ((xz14+xz23).toNat)).drop xz14.toNat).length c23]) rfl X15 (hB7.at 0) rfl)) ?_)
  exact ⟨⟨xz14,((c.gs.take ((xz14+xz23).toNat)).drop xz14.toNat)++([(⟨xz57,0,0⟩ : Gt)]),((c.gs.take ((xz14+xz23).toNat)).drop xz14.toNat)⟩,A36,c36,A23,c23,_,_,(by first|rfl|simp),⟨(by show (((c.gs.take ((xz14+xz23).toNat)).drop xz14.toNat)++([(⟨xz57,0,0⟩ : Gt)])).length≤41;first|omega|(simp;omega)|simp),(by show (((c.gs.take ((xz14+xz23).toNat)).drop xz14.toNat)).length≤41;first|omega|(simp;omega)|simp)⟩,⟨by omega,by omega⟩,ho36.rd.top,ho23.rd.top,hW,hBV⟩
 have hc33b:=hc33
 refine Zs hf fun _ hK38=>?_
 refine Ze (X0x rfl rfl)<|Za rfl ?_
 refine Zt hK38 fun a hf=>?_
 refine Xo hf rfl (fun hc39=>?_) (fun hc39=>?_)
 ·have hc39b:=hc39
  refine Zr hf ?_
  refine Zm rfl ?_
  refine Zf (X8 (k:=3) (vs:=[vi (-1),vi 0,vi 401]) (zs:=[vi (-1),vi 0,vi 401]) rfl X0z X2b rfl rfl) ?_;rintro _ w24 ⟨b40,rfl,hl40,hE,hB40⟩
  have hlo40:=Nat.le_trans hW.size hl40
  have haw1_40:=hr_code.away hl40
  replace hBV:=hBV.below hE
  replace hB7:=hB7.below hE
  replace hB19:=hB19.below hE
  replace hr_code:=hr_code.below hE
  replace ho14:=ho14.below hE
  replace ho23:=ho23.below hE
  replace hW:=ktr hW hE
  refine Zf (Vc (Xhk _ bV Acd ccd code hr_code.top hcd hav tz41 sz41 hBV (some ⟨b40,0,none⟩) 3 ([-1,0,401]) (Rd.of_blk hB40 rfl _ hB40.lt) (by simp) (by simp) (by omega)) Xay) ?_;rintro _ w25 ⟨xz66,tz66,sz66,rfl,hPz66,htz66,hK,hbn⟩
  obtain ⟨wm,hO,hm,hE⟩:=hK.mid;clear hm
  have hold:=hBV
  replace hB7:=hB7.only hO (Blk.ne hB7 hold rfl)
  replace hB19:=hB19.only hO (Blk.ne hB19 hold rfl)
  replace hB40:=hB40.only hO (Blk.ne hB40 hold rfl)
  replace hr_code:=hr_code.onlyA hO hav
  replace ho14:=ho14.onlyT hO hold rfl
  replace ho23:=ho23.onlyT hO hold rfl
  replace hW:=hW.self hO
  replace hB7:=hB7.below hE
  replace hB19:=hB19.below hE
  replace hB40:=hB40.below hE
  replace hr_code:=hr_code.below hE
  replace ho14:=ho14.below hE
  replace ho23:=ho23.below hE
  replace hW:=ktr hW hE
  clear hold hE hO hK;replace hBV:=hbn;clear hbn
  refine Ze (Vd rfl X2t 0) ?_
  refine Zo (Vu (vs:=[vi xz66]) (l':=[vi xz66,.slice A14 ((c.gs.take ((xz14+xz23).toNat)).drop xz14.toNat).length c14,.slice A23 ((c.gs.take ((xz14+xz23).toNat)).drop xz14.toNat).length c23]) rfl rfl X1v hB19) ?_;rintro _ w26 ⟨ho,hb⟩
  have hold:=hB19
  replace hBV:=hBV.only ho (Blk.ne hBV hold rfl)
  replace hB7:=hB7.only ho (by omega)
  replace hB40:=hB40.only ho (Blk.ne hB40 hold rfl)
  replace hr_code:=hr_code.only ho hlo19
  replace ho14:=ho14.onlyT ho hold rfl
  replace ho23:=ho23.onlyT ho hold rfl
  replace hW:=Kept.only hW ho hlo19
  clear hold
  have hB19:=hb
  clear hb ho
  refine Zn fun a hf=>?_
  refine Xj ?_
  refine hK24 _ _ ?_
  refine Zs hf fun _ hK42=>?_
  refine Ze (Vn X15 hB19) ?_
  refine Zo (Vw [vi xz66,.slice A14 ((c.gs.take ((xz14+xz23).toNat)).drop xz14.toNat).length c14,.slice A23 ((c.gs.take ((xz14+xz23).toNat)).drop xz14.toNat).length c23] X1u hB7) ?_;rintro _ w27 ⟨ho,hb⟩
  have hold:=hB7
  replace hBV:=hBV.only ho (Blk.ne hBV hold rfl)
  replace hB19:=hB19.only ho (by omega)
  replace ho14:=ho14.onlyT ho hold rfl
  replace ho23:=ho23.onlyT ho hold rfl
  replace hW:=Kept.only hW ho hlo7
  clear hold
  have hB7:=hb
  clear hb ho
  refine Zt hK42 fun a hf=>?_
  refine wp_ret (X2 hf (Xz hf rfl (ResV.cellN (l:=[vi xz66,.slice A14 ((c.gs.take ((xz14+xz23).toNat)).drop xz14.toNat).length c14,.slice A23 ((c.gs.take ((xz14+xz23).toNat)).drop xz14.toNat).length c23]) rfl X15 (hB7.at 0) rfl)) ?_)
  exact ⟨⟨xz66,((c.gs.take ((xz14+xz23).toNat)).drop xz14.toNat),((c.gs.take ((xz14+xz23).toNat)).drop xz14.toNat)⟩,A14,c14,A23,c23,_,_,(by first|rfl|simp),⟨(by show (((c.gs.take ((xz14+xz23).toNat)).drop xz14.toNat)).length≤41;first|omega|(simp;omega)|simp),(by show (((c.gs.take ((xz14+xz23).toNat)).drop xz14.toNat)).length≤41;first|omega|(simp;omega)|simp)⟩,⟨by omega,by omega⟩,ho14.rd.top,ho23.rd.top,hW,hBV⟩
 have hc39b:=hc39
 refine Zs hf fun _ hK43=>?_
 refine Ze (X0x rfl rfl)<|Za rfl ?_
 refine Zt hK43 fun a hf=>?_
 refine Xo hf rfl (fun hc44=>?_) (fun hc44=>?_)
 ·have hc44b:=hc44
  refine Zr hf ?_
  refine Ze (Vd rfl X1k 2)<|Ze (X0 rfl X0d (hB19.at 2))<|Ze (Xu (ps:=[(0,vi 12)]) (cs:=[vi 12,vi 0,vi 0]) rfl (fun _=>by first|rfl|kernel_rfl)) ?_
  refine Zf (X8 (k:=1) (vs:=[.agg #[vi 12,vi 0,vi 0]]) (zs:=[vi 12,vi 0,vi 0]) rfl Xg Xm rfl rfl) ?_;rintro _ w28 ⟨b45,rfl,hl45,hE,hB45⟩
  have hlo45:=Nat.le_trans hW.size hl45
  have haw14_45:=ho14.away hl45
  have haw23_45:=ho23.away hl45
  replace hBV:=hBV.below hE
  replace hB7:=hB7.below hE
  replace hB19:=hB19.below hE
  replace ho14:=ho14.below hE
  replace ho23:=ho23.below hE
  replace hW:=ktr hW hE
  refine Zf (X0q (enc:=encG) (l:=(((c.gs.take ((xz14+xz23).toNat)).drop xz14.toNat))) (l2:=([(⟨12,0,0⟩ : Gt)])) (B0:=w0.heap.size) rfl rfl Xg Xm Xe X0b ho23 (Rd.of_blk hB45 rfl _ hB45.lt) (by simp only [maxLen];simp;omega) (by simp;omega) hW.size) ?_;rintro _ w29 ⟨A47,c47,rfl,ho47,hg,hat⟩
  have hown:Own _ w0.heap.size 24 3 encG _ _ (((c.gs.take ((xz14+xz23).toNat)).drop xz14.toNat)):=ho23
  have haw47_45:=hat _ hB45.lt haw23_45
  have hap14_47:=Apart.app ho14 hap14_23 hat
  clear hat
  replace hBV:=hBV.appT hown hg rfl
  replace hB7:=hB7.appT hown hg rfl
  replace hB19:=hB19.appT hown hg rfl
  replace ho14:=ho14.appP hg hap14_23
  replace hW:=Kept.app hW hown hg (Nat.le_refl _) hW.size
  clear hown hg
  refine Ze (Vd rfl X1k 2) ?_
  refine Zo (Vu (vs:=[.slice A47 (((c.gs.take ((xz14+xz23).toNat)).drop xz14.toNat)++([(⟨12,0,0⟩ : Gt)])).length c47]) (l':=[vi xz14,.slice A14 ((c.gs.take ((xz14+xz23).toNat)).drop xz14.toNat).length c14,.slice A47 (((c.gs.take ((xz14+xz23).toNat)).drop xz14.toNat)++([(⟨12,0,0⟩ : Gt)])).length c47]) rfl rfl X2j hB19) ?_;rintro _ w30 ⟨ho,hb⟩
  have hold:=hB19
  replace hBV:=hBV.only ho (Blk.ne hBV hold rfl)
  replace hB7:=hB7.only ho (by omega)
  replace ho14:=ho14.onlyT ho hold rfl
  replace ho47:=ho47.onlyT ho hold rfl
  replace hW:=Kept.only hW ho hlo19
  clear hold
  have hB19:=hb
  clear hb ho
  refine Zn fun a hf=>?_
  refine Xj ?_
  refine hK24 _ _ ?_
  refine Zs hf fun _ hK48=>?_
  refine Ze (Vn X15 hB19) ?_
  refine Zo (Vw [vi xz14,.slice A14 ((c.gs.take ((xz14+xz23).toNat)).drop xz14.toNat).length c14,.slice A47 (((c.gs.take ((xz14+xz23).toNat)).drop xz14.toNat)++([(⟨12,0,0⟩ : Gt)])).length c47] X1u hB7) ?_;rintro _ w31 ⟨ho,hb⟩
  have hold:=hB7
  replace hBV:=hBV.only ho (Blk.ne hBV hold rfl)
  replace hB19:=hB19.only ho (by omega)
  replace ho14:=ho14.onlyT ho hold rfl
  replace ho47:=ho47.onlyT ho hold rfl
  replace hW:=Kept.only hW ho hlo7
  clear hold
  have hB7:=hb
  clear hb ho
  refine Zt hK48 fun a hf=>?_
  refine wp_ret (X2 hf (Xz hf rfl (ResV.cellN (l:=[vi xz14,.slice A14 ((c.gs.take ((xz14+xz23).toNat)).drop xz14.toNat).length c14,.slice A47 (((c.gs.take ((xz14+xz23).toNat)).drop xz14.toNat)++([(⟨12,0,0⟩ : Gt)])).length c47]) rfl X15 (hB7.at 0) rfl)) ?_)
  exact ⟨⟨xz14,((c.gs.take ((xz14+xz23).toNat)).drop xz14.toNat),((c.gs.take ((xz14+xz23).toNat)).drop xz14.toNat)++([(⟨12,0,0⟩ : Gt)])⟩,A14,c14,A47,c47,_,_,(by first|rfl|simp),⟨(by show (((c.gs.take ((xz14+xz23).toNat)).drop xz14.toNat)).length≤41;first|omega|(simp;omega)|simp),(by show (((c.gs.take ((xz14+xz23).toNat)).drop xz14.toNat)++([(⟨12,0,0⟩ : Gt)])).length≤41;first|omega|(simp;omega)|simp)⟩,⟨by omega,by omega⟩,ho14.rd.top,ho47.rd.top,hW,hBV⟩
 have hc44b:=hc44
 refine Zs hf fun _ hK49=>?_
 refine Ze (X0x rfl rfl)<|Za rfl ?_
 refine Zt hK49 fun a hf=>?_
 refine Xo hf rfl (fun hc50=>?_) (fun hc50=>?_)
 ·have hc50b:=hc50
  refine Zs hf fun _ hK51=>?_
  refine Ze (Vd rfl X1k 2)<|Ze (X0 rfl X0d (hB19.at 2))<|Ze (X0y rfl Xg)<|Ze (X3p rfl rfl) ?_
  refine Zt hK51 fun a hf=>?_
  refine Xo hf rfl (fun hc52=>?_) (fun hc52=>?_)
  ·have hc52b:=hc52
   have hc52:=of_decide_eq_true hc52
   refine Zs hf fun _ hK53=>?_
   refine Ze (Vd rfl X1k 2)<|Ze (X0 rfl X0d (hB19.at 2)) ?_
   refine Zi (k:=0) (u:=(((c.gs.take ((xz14+xz23).toNat)).drop xz14.toNat).getD 0 (⟨0,0,0⟩ : Gt))) (enc:=encG) (l:=((c.gs.take ((xz14+xz23).toNat)).drop xz14.toNat)) trivial rfl rfl Xg X08 Xe ho23.rd (X6h _ (by omega)) rfl ?_;intro p55 hat54
   refine Ze (X0a (l:=[vi ((((c.gs.take ((xz14+xz23).toNat)).drop xz14.toNat).getD 0 (⟨0,0,0⟩ : Gt)).k),vi ((((c.gs.take ((xz14+xz23).toNat)).drop xz14.toNat).getD 0 (⟨0,0,0⟩ : Gt)).a),vi ((((c.gs.take ((xz14+xz23).toNat)).drop xz14.toNat).getD 0 (⟨0,0,0⟩ : Gt)).b)]) rfl X01 hat54 rfl) ?_
   refine Zf (X9 (zs:=[vi 0,vi 0,vi 0]) X1z rfl) ?_;rintro _ w32 ⟨b56,rfl,hl56,hE,hB56⟩
   have hlo56:=Nat.le_trans hW.size hl56
   have haw14_56:=ho14.away hl56
   have haw23_56:=ho23.away hl56
   replace hBV:=hBV.below hE
   replace hB7:=hB7.below hE
   replace hB19:=hB19.below hE
   replace ho14:=ho14.below hE
   replace ho23:=ho23.below hE
   replace hW:=ktr hW hE
   refine Zo (Vw [vi ((((c.gs.take ((xz14+xz23).toNat)).drop xz14.toNat).getD 0 (⟨0,0,0⟩ : Gt)).k),vi ((((c.gs.take ((xz14+xz23).toNat)).drop xz14.toNat).getD 0 (⟨0,0,0⟩ : Gt)).a),vi ((((c.gs.take ((xz14+xz23).toNat)).drop xz14.toNat).getD 0 (⟨0,0,0⟩ : Gt)).b)] X08 hB56) ?_;rintro _ w33 ⟨ho,hb⟩
   have hold:=hB56
   replace hBV:=hBV.only ho (Blk.ne hBV hold rfl)
   replace hB7:=hB7.only ho (Blk.ne hB7 hold rfl)
   replace hB19:=hB19.only ho (Blk.ne hB19 hold rfl)
   replace ho14:=ho14.onlyA ho haw14_56
   replace ho23:=ho23.onlyA ho haw23_56
   replace hW:=Kept.only hW ho hlo56
   clear hold
   have hB56:=hb
   clear hb ho
   refine Zt hK53 fun a hf=>?_
   refine wp_seq_k fun _ hK57=>?_
   refine X09 none (fun j=>[7].contains j) mixed ?_
   intro w34 hE
   replace hBV:=hBV.below hE
   replace hB7:=hB7.below hE
   replace hB19:=hB19.below hE
   replace hB56:=hB56.below hE
   replace ho14:=ho14.below hE
   replace ho23:=ho23.below hE
   replace hW:=ktr hW hE
   refine Yb hf ?_
   refine Yo 0 rfl (fun _=>Vd rfl X1k 2)<|Ye 1 rfl (X0 rfl X0d (hB19.at 2))<|Yo 2 rfl (fun _=>Vd rfl X1k 2)<|Ye 3 rfl (X0 rfl X0d (hB19.at 2)) ?_
   refine Yi (k:=1) (u:=(((c.gs.take ((xz14+xz23).toNat)).drop xz14.toNat).getD 1 (⟨0,0,0⟩ : Gt))) (enc:=encG) (l:=((c.gs.take ((xz14+xz23).toNat)).drop xz14.toNat)) 4 rfl trivial rfl rfl Xg X08 Xe ho23.rd (X6h _ (by omega)) rfl ?_;intro p59 hat58
   refine Ye 5 rfl (X0a (l:=[vi ((((c.gs.take ((xz14+xz23).toNat)).drop xz14.toNat).getD 1 (⟨0,0,0⟩ : Gt)).k),vi ((((c.gs.take ((xz14+xz23).toNat)).drop xz14.toNat).getD 1 (⟨0,0,0⟩ : Gt)).a),vi ((((c.gs.take ((xz14+xz23).toNat)).drop xz14.toNat).getD 1 (⟨0,0,0⟩ : Gt)).b)]) rfl X01 hat58 rfl)<|Yo 6 rfl (fun _=>X9y (k:=0) rfl rfl Xg X08 ho23 rfl rfl (by omega)) ?_
   refine Y1 7 ?_
   refine Yh rfl trivial rfl (X9i (enc:=encG) (l:=((c.gs.take ((xz14+xz23).toNat)).drop xz14.toNat)) (vs:=[vi ((((c.gs.take ((xz14+xz23).toNat)).drop xz14.toNat).getD 1 (⟨0,0,0⟩ : Gt)).k),vi ((((c.gs.take ((xz14+xz23).toNat)).drop xz14.toNat).getD 1 (⟨0,0,0⟩ : Gt)).a),vi ((((c.gs.take ((xz14+xz23).toNat)).drop xz14.toNat).getD 1 (⟨0,0,0⟩ : Gt)).b)]) (x0:=(((c.gs.take (xz14+xz23).toNat).drop xz14.toNat).getD 0 (⟨0,0,0⟩ : Gt))) (u:=(((c.gs.take ((xz14+xz23).toNat)).drop xz14.toNat).getD 1 (⟨0,0,0⟩ : Gt))) (k:=0) (j:=0) (n1:=3) rfl rfl X08 ho23 Xe rfl rfl rfl rfl (by decide) (X6h _ (by omega)) rfl) ?_;rintro _ w35 ⟨hnew,hg⟩
   have hown:=ho23
   replace hBV:=hBV.appT hown hg rfl
   replace hB7:=hB7.appT hown hg rfl
   replace hB19:=hB19.appT hown hg rfl
   replace hB56:=hB56.appA hg haw23_56
   replace ho14:=ho14.appP hg hap14_23
   replace hW:=Kept.app hW hown hg (Nat.le_refl _) hW.size
   clear hown hg;clear ho23;have ho23:=hnew;clear hnew
   refine Yd fun a hf=>?_
   refine hK57 _ _ ?_
   refine Zr hf ?_
   refine Ze (Vd rfl X1k 2)<|Ze (X0 rfl X0d (hB19.at 2))<|Ze (Vn X01 hB56)<|Ze (X9y (k:=1) rfl rfl Xg X08 ho23 (by simp) rfl (by rw [List.length_set];omega)) ?_
   refine Zo (X9i (enc:=encG) (l:=(((c.gs.take ((xz14+xz23).toNat)).drop xz14.toNat).set 0 (((c.gs.take ((xz14+xz23).toNat)).drop xz14.toNat).getD 1 (⟨0,0,0⟩ : Gt)))) (vs:=[vi ((((c.gs.take ((xz14+xz23).toNat)).drop xz14.toNat).getD 0 (⟨0,0,0⟩ : Gt)).k),vi ((((c.gs.take ((xz14+xz23).toNat)).drop xz14.toNat).getD 0 (⟨0,0,0⟩ : Gt)).a),vi ((((c.gs.take ((xz14+xz23).toNat)).drop xz14.toNat).getD 0 (⟨0,0,0⟩ : Gt)).b)]) (x0:=((((c.gs.take (xz14+xz23).toNat).drop xz14.toNat).set 0 (((c.gs.take (xz14+xz23).toNat).drop xz14.toNat).getD 1 (⟨0,0,0⟩ : Gt))).getD 1 (⟨0,0,0⟩ : Gt))) (u:=(((c.gs.take ((xz14+xz23).toNat)).drop xz14.toNat).getD 0 (⟨0,0,0⟩ : Gt))) (k:=1) (j:=0) (n1:=3) rfl rfl X08 ho23 Xe rfl rfl rfl rfl (by decide) (X6h _ (by rw [List.length_set];omega)) rfl) ?_;rintro _ w36 ⟨hnew,hg⟩
   have hown:=ho23
   replace hBV:=hBV.appT hown hg rfl
   replace hB7:=hB7.appT hown hg rfl
   replace hB19:=hB19.appT hown hg rfl
   replace hB56:=hB56.appA hg haw23_56
   replace ho14:=ho14.appP hg hap14_23
   replace hW:=Kept.app hW hown hg (Nat.le_refl _) hW.size
   clear hown hg;clear ho23;have ho23:=hnew;clear hnew
   refine Zn fun a hf=>?_
   refine Xj ?_
   refine hK24 _ _ ?_
   refine Zs hf fun _ hK60=>?_
   refine Ze (Vn X15 hB19) ?_
   refine Zo (Vw [vi xz14,.slice A14 ((c.gs.take ((xz14+xz23).toNat)).drop xz14.toNat).length c14,.slice A23 ((c.gs.take ((xz14+xz23).toNat)).drop xz14.toNat).length c23] X1u hB7) ?_;rintro _ w37 ⟨ho,hb⟩
   have hold:=hB7
   replace hBV:=hBV.only ho (Blk.ne hBV hold rfl)
   replace hB19:=hB19.only ho (by omega)
   replace ho14:=ho14.onlyT ho hold rfl
   replace ho23:=ho23.onlyT ho hold rfl
   replace hW:=Kept.only hW ho hlo7
   clear hold
   have hB7:=hb
   clear hb ho
   refine Zt hK60 fun a hf=>?_
   refine wp_ret (X2 hf (Xz hf rfl (ResV.cellN (l:=[vi xz14,.slice A14 ((c.gs.take ((xz14+xz23).toNat)).drop xz14.toNat).length c14,.slice A23 ((c.gs.take ((xz14+xz23).toNat)).drop xz14.toNat).length c23]) rfl X15 (hB7.at 0) rfl)) ?_)
   exact ⟨⟨xz14,((c.gs.take ((xz14+xz23).toNat)).drop xz14.toNat),((((c.gs.take ((xz14+xz23).toNat)).drop xz14.toNat).set 0 (((c.gs.take ((xz14+xz23).toNat)).drop xz14.toNat).getD 1 (⟨0,0,0⟩ : Gt))).set 1 (((c.gs.take ((xz14+xz23).toNat)).drop xz14.toNat).getD 0 (⟨0,0,0⟩ : Gt)))⟩,A14,c14,A23,c23,_,_,(by first|rfl|simp),⟨(by show (((c.gs.take ((xz14+xz23).toNat)).drop xz14.toNat)).length≤41;first|omega|(simp;omega)|simp),(by show (((((c.gs.take ((xz14+xz23).toNat)).drop xz14.toNat).set 0 (((c.gs.take ((xz14+xz23).toNat)).drop xz14.toNat).getD 1 (⟨0,0,0⟩ : Gt))).set 1 (((c.gs.take ((xz14+xz23).toNat)).drop xz14.toNat).getD 0 (⟨0,0,0⟩ : Gt)))).length≤41;first|omega|(simp;omega)|simp)⟩,⟨by omega,by omega⟩,ho14.rd.top,ho23.rd.top,hW,hBV⟩
  have hc52b:=hc52
  have hc52:=of_decide_eq_false hc52
  refine wp_skip ?_
  refine Xj ?_
  refine hK24 _ _ ?_
  refine Zs hf fun _ hK61=>?_
  refine Ze (Vn X15 hB19) ?_
  refine Zo (Vw [vi xz14,.slice A14 ((c.gs.take ((xz14+xz23).toNat)).drop xz14.toNat).length c14,.slice A23 ((c.gs.take ((xz14+xz23).toNat)).drop xz14.toNat).length c23] X1u hB7) ?_;rintro _ w38 ⟨ho,hb⟩
  have hold:=hB7
  replace hBV:=hBV.only ho (Blk.ne hBV hold rfl)
  replace hB19:=hB19.only ho (by omega)
  replace ho14:=ho14.onlyT ho hold rfl
  replace ho23:=ho23.onlyT ho hold rfl
  replace hW:=Kept.only hW ho hlo7
  clear hold
  have hB7:=hb
  clear hb ho
  refine Zt hK61 fun a hf=>?_
  refine wp_ret (X2 hf (Xz hf rfl (ResV.cellN (l:=[vi xz14,.slice A14 ((c.gs.take ((xz14+xz23).toNat)).drop xz14.toNat).length c14,.slice A23 ((c.gs.take ((xz14+xz23).toNat)).drop xz14.toNat).length c23]) rfl X15 (hB7.at 0) rfl)) ?_)
  exact ⟨⟨xz14,((c.gs.take ((xz14+xz23).toNat)).drop xz14.toNat),((c.gs.take ((xz14+xz23).toNat)).drop xz14.toNat)⟩,A14,c14,A23,c23,_,_,(by first|rfl|simp),⟨(by show (((c.gs.take ((xz14+xz23).toNat)).drop xz14.toNat)).length≤41;first|omega|(simp;omega)|simp),(by show (((c.gs.take ((xz14+xz23).toNat)).drop xz14.toNat)).length≤41;first|omega|(simp;omega)|simp)⟩,⟨by omega,by omega⟩,ho14.rd.top,ho23.rd.top,hW,hBV⟩
 have hc50b:=hc50
 refine Zs hf fun _ hK62=>?_
 refine Ze (X0x rfl rfl)<|Za rfl ?_
 refine Zt hK62 fun a hf=>?_
 refine Xo hf rfl (fun hc63=>?_) (fun hc63=>?_)
 ·have hc63b:=hc63
  refine Zr hf ?_
  refine Zf (X5i (m:=41) (enc:=encG) (z0:=(⟨0,0,0⟩ : Gt)) rfl rfl Xg Xm X1z rfl Xe (by decide) (by decide)) ?_;rintro _ w39 ⟨b64,rfl,hl64,hE,hB64⟩
  have hlo64:=Nat.le_trans hW.size hl64
  have haw14_64:=ho14.away hl64
  have haw23_64:=ho23.away hl64
  replace hBV:=hBV.below hE
  replace hB7:=hB7.below hE
  replace hB19:=hB19.below hE
  replace ho14:=ho14.below hE
  replace ho23:=ho23.below hE
  replace hW:=ktr hW hE
  refine Ze (Vd rfl X1p 1) ?_
  refine Zo (Vu (vs:=[.slice (some ⟨b64,0,none⟩) 41 41]) (l':=[vi xz14,.slice (some ⟨b64,0,none⟩) 41 41,.slice A23 ((c.gs.take ((xz14+xz23).toNat)).drop xz14.toNat).length c23]) rfl rfl X2j hB19) ?_;rintro _ w40 ⟨ho,hb⟩
  have hold:=hB19
  replace hBV:=hBV.only ho (Blk.ne hBV hold rfl)
  replace hB7:=hB7.only ho (by omega)
  replace hB64:=hB64.only ho (Blk.ne hB64 hold rfl)
  replace ho14:=ho14.onlyT ho hold rfl
  replace ho23:=ho23.onlyT ho hold rfl
  replace hW:=Kept.only hW ho hlo19
  clear hold
  have hB19:=hb
  clear hb ho
  refine Zn fun a hf=>?_
  refine Xj ?_
  refine hK24 _ _ ?_
  refine Zs hf fun _ hK66=>?_
  refine Ze (Vn X15 hB19) ?_
  refine Zo (Vw [vi xz14,.slice (some ⟨b64,0,none⟩) 41 41,.slice A23 ((c.gs.take ((xz14+xz23).toNat)).drop xz14.toNat).length c23] X1u hB7) ?_;rintro _ w41 ⟨ho,hb⟩
  have hold:=hB7
  replace hBV:=hBV.only ho (Blk.ne hBV hold rfl)
  replace hB19:=hB19.only ho (by omega)
  replace hB64:=hB64.only ho (Blk.ne hB64 hold rfl)
  replace ho23:=ho23.onlyT ho hold rfl
  replace hW:=Kept.only hW ho hlo7
  clear hold
  have hB7:=hb
  clear hb ho
  refine Zt hK66 fun a hf=>?_
  refine wp_ret (X2 hf (Xz hf rfl (ResV.cellN (l:=[vi xz14,.slice (some ⟨b64,0,none⟩) 41 41,.slice A23 ((c.gs.take ((xz14+xz23).toNat)).drop xz14.toNat).length c23]) rfl X15 (hB7.at 0) rfl)) ?_)
  exact ⟨⟨xz14,(List.replicate 41 (⟨0,0,0⟩ : Gt)),((c.gs.take ((xz14+xz23).toNat)).drop xz14.toNat)⟩,some ⟨b64,0,none⟩,41,A23,c23,_,_,(by first|rfl|simp),⟨(by show ((List.replicate 41 (⟨0,0,0⟩ : Gt))).length≤41;first|omega|(simp;omega)|simp),(by show (((c.gs.take ((xz14+xz23).toNat)).drop xz14.toNat)).length≤41;first|omega|(simp;omega)|simp)⟩,⟨by omega,by omega⟩,(Rd.of_blk hB64 rfl _ hB64.lt),ho23.rd.top,hW,hBV⟩
 have hc63b:=hc63
 refine wp_skip ?_
 refine Xj ?_
 refine hK24 _ _ ?_
 refine Zs hf fun _ hK67=>?_
 refine Ze (Vn X15 hB19) ?_
 refine Zo (Vw [vi xz14,.slice A14 ((c.gs.take ((xz14+xz23).toNat)).drop xz14.toNat).length c14,.slice A23 ((c.gs.take ((xz14+xz23).toNat)).drop xz14.toNat).length c23] X1u hB7) ?_;rintro _ w42 ⟨ho,hb⟩
 have hold:=hB7
 replace hBV:=hBV.only ho (Blk.ne hBV hold rfl)
 replace hB19:=hB19.only ho (by omega)
 replace ho14:=ho14.onlyT ho hold rfl
 replace ho23:=ho23.onlyT ho hold rfl
 replace hW:=Kept.only hW ho hlo7
 clear hold
 have hB7:=hb
 clear hb ho
 refine Zt hK67 fun a hf=>?_
 refine wp_ret (X2 hf (Xz hf rfl (ResV.cellN (l:=[vi xz14,.slice A14 ((c.gs.take ((xz14+xz23).toNat)).drop xz14.toNat).length c14,.slice A23 ((c.gs.take ((xz14+xz23).toNat)).drop xz14.toNat).length c23]) rfl X15 (hB7.at 0) rfl)) ?_)
 exact ⟨⟨xz14,((c.gs.take ((xz14+xz23).toNat)).drop xz14.toNat),((c.gs.take ((xz14+xz23).toNat)).drop xz14.toNat)⟩,A14,c14,A23,c23,_,_,(by first|rfl|simp),⟨(by show (((c.gs.take ((xz14+xz23).toNat)).drop xz14.toNat)).length≤41;first|omega|(simp;omega)|simp),(by show (((c.gs.take ((xz14+xz23).toNat)).drop xz14.toNat)).length≤41;first|omega|(simp;omega)|simp)⟩,⟨by omega,by omega⟩,ho14.rd.top,ho23.rd.top,hW,hBV⟩
end Go.Proofs.YtlfjcmldfbfdbaaGreat
namespace Go.Proofs.YtlfjcmldfbfdbaaGreat
open Go.RowKit
theorem X3v{n:Int} : ∀ (k:Nat) (gs:List Gt),cOk ⟨n,gs⟩=true→(canRun n k gs).1.length+(canRun n k gs).2.gs.length≤gs.length∧(∀ r ∈ (canRun n k gs).1,r.old.length≤41∧r.new.length≤41)∧(canRun n k gs).2.n=n
 | 0,gs,_=>⟨by simp [canRun],fun r hr=>by simp [canRun] at hr,rfl⟩
 | k+1,gs,h=>by
  cases hs:canS gs with
  | none=>rw [X3b hs];exact ⟨by simp,fun r hr=>by simp at hr,rfl⟩
  | some r=>
   obtain ⟨d,hd,e1,e2,e3,e4,e5⟩:=X6x h hs
   rw [X4m hs,hd,Option.getD_some]
   have hok:cOk ⟨n,d.gs⟩=true:=by rw [← e1];exact e2
   obtain ⟨i1,i2,i3⟩:=X3v k d.gs hok
   refine ⟨by simp only [List.length_cons];omega,fun x hx=>?_,i3⟩
   rcases List.mem_cons.1 hx with hx|hx
   ·subst hx;exact ⟨e4,e5⟩
   ·exact i2 x hx
theorem Xcv{c:Cx}{m:Nat}(h:c.gs.length≤m)(hn:0≤c.n∧c.n≤100) : (canC c).1.gs.length≤m∧(canC c).2.1.length≤m∧(canC c).2.2.gs.length≤m∧(∀ r ∈ (canC c).2.1,r.old.length≤41∧r.new.length≤41)∧(0≤(canC c).2.2.n∧(canC c).2.2.n≤100)∧(0≤(canC c).1.n∧(canC c).1.n≤100):=by
 unfold canC
 split
 ·rename_i hc
  obtain ⟨i1,i2,i3⟩:=X3v (n:=c.n) c.gs.length c.gs hc
  exact ⟨h,by dsimp only;omega,by dsimp only;omega,i2,by dsimp only;rw [i3];exact hn,hn⟩
 ·exact ⟨Nat.zero_le _,Nat.zero_le _,Nat.zero_le _,fun r hr=>by simp at hr,by decide,by decide⟩
theorem Xff{l:List Sr}{m:List Rp}(h:l.map Sr.rp=m)(hs:∀ r ∈ m,r.old.length≤41∧r.new.length≤41) : l.length=m.length∧∀ s ∈ l,s.old.length≤41∧s.new.length≤41:=by
 subst h
 exact ⟨by simp,fun s hs'=>hs s.rp (List.mem_map_of_mem hs')⟩
end Go.Proofs.YtlfjcmldfbfdbaaGreat
set_option maxRecDepth 4000
namespace Go.Proofs.YtlfjcmldfbfdbaaGreat
open Go.RowKit
end Go.Proofs.YtlfjcmldfbfdbaaGreat
set_option maxRecDepth 4000
namespace Go.Proofs.YtlfjcmldfbfdbaaGreat
open Go.RowKit
end Go.Proofs.YtlfjcmldfbfdbaaGreat
set_option maxHeartbeats 1000000
set_option maxRecDepth 4000
namespace Go.Proofs.YtlfjcmldfbfdbaaGreat
open Go.RowKit
end Go.Proofs.YtlfjcmldfbfdbaaGreat
namespace Go.Proofs.YtlfjcmldfbfdbaaGreat
open Go.RowKit
theorem DeepR.drop{w:World}{B:Nat}{E:TypeId}{l:List Sr}(h:DeepR w B E l)(k:Nat) : DeepR w B E (l.drop k):=fun s hs=>h s (List.mem_of_mem_drop hs)
section
variable {P : Program} {a : Act} {w : World} {n : Nat} {e : Env} {ty : TypeId} {pos : String} {af : Array Edge} {g : Option (Nat × Bool)} {d : Option Tmp}
variable {t t' : TypeId} {x y : Operand} {i j k : Int}
end
end Go.Proofs.YtlfjcmldfbfdbaaGreat
set_option maxHeartbeats 1000000
set_option maxRecDepth 4000
namespace Go.Proofs.YtlfjcmldfbfdbaaGreat
open Go.RowKit
end Go.Proofs.YtlfjcmldfbfdbaaGreat
set_option maxRecDepth 4000
namespace Go.Proofs.YtlfjcmldfbfdbaaGreat
open Go.RowKit
end Go.Proofs.YtlfjcmldfbfdbaaGreat
set_option maxRecDepth 4000
namespace Go.Proofs.YtlfjcmldfbfdbaaGreat
open Go.RowKit
theorem Xpx(w0:World){Xcd Xce:TypeId}(Ap:Option Addr)(cp:Nat)(p:List Int)(hr_p:Rd w0 w0.heap.size Xcd encU Ap p)(Aq:Option Addr)(cq:Nat)(q:List Int)(hr_q:Rd w0 w0.heap.size Xce encU Aq q) : Ret Tryz.prog 18 [.slice Ap p.length cp,.slice Aq q.length cq] w0 (fun v w=>v=.bool (decide (1048576<(p.length:Int))||decide (wr (1048576-(p.length:Int))<(q.length:Int)))∧Below w0.heap.size w0 w):=by
 refine enter Tryz.func18 rfl 16 rfl rfl ?_
 intro a hf
 have hW:Below w0.heap.size w0 w0:=Below.refl _ _
 refine Zs hf fun _ hK3=>?_
 refine Za rfl ?_
 refine Zt hK3 fun a hf=>?_
 refine wp_seq_k fun _ hK4=>?_
 refine X0h (fun a w=>Fr a 16 [(4,.bool ((decide (1048576<(p.length:Int)))||(decide ((wr (1048576-(p.length:Int)))<(q.length:Int)))))]∧w0=w) ?_ ?_
 ·refine Zr hf ?_
  refine Zm rfl<|Ze (X0y rfl X40)<|Ze (X3p rfl rfl)<|Zm rfl ?_
  refine Zg 8 rfl (fun hg5=>?_) (fun hg5=>?_)
  ·refine Zp ⟨_,_,rfl,rfl,hg5⟩ ?_
   refine Zp ⟨_,_,rfl,rfl,hg5⟩ ?_
   refine Zp ⟨_,_,rfl,rfl,hg5⟩ ?_
   refine Zp ⟨_,_,rfl,rfl,hg5⟩ ?_
   refine Zp ⟨_,_,rfl,rfl,hg5⟩ ?_
   refine Zp ⟨_,_,rfl,rfl,hg5⟩ ?_
   refine Ze (Xa rfl hg5 rfl)<|Za rfl ?_
   refine Zn fun a hf=>?_
   exact ⟨hf.sub ⟨X1 rfl (by first|rfl|(simp only [hg5,bs];done)|simp [hg5]),trivial⟩,rfl⟩
  refine Zv ⟨_,_,rfl,rfl,hg5⟩ (X7 rfl) ?_
  refine Zv ⟨_,_,rfl,rfl,hg5⟩ (X0y rfl X40) ?_
  refine Zv ⟨_,_,rfl,rfl,hg5⟩ (X7 rfl) ?_
  refine Zv ⟨_,_,rfl,rfl,hg5⟩ (X0y rfl X40) ?_
  refine Zv ⟨_,_,rfl,rfl,hg5⟩ (X3s rfl rfl) ?_
  refine Zv ⟨_,_,rfl,rfl,hg5⟩ (X3p rfl rfl) ?_
  refine Ze (Xc rfl hg5 rfl)<|Za rfl ?_
  refine Zn fun a hf=>?_
  exact ⟨hf.sub ⟨X1 rfl (by first|rfl|(simp only [hg5,bs];done)|simp [hg5]),trivial⟩,rfl⟩
 rintro a _ ⟨hf,rfl⟩
 refine hK4 _ _ ?_
 refine wp_ret (X2 hf (Xz hf rfl rfl) ?_)
 exact ⟨rfl,hW⟩
end Go.Proofs.YtlfjcmldfbfdbaaGreat
namespace Go.Proofs.YtlfjcmldfbfdbaaGreat
open Go.RowKit Go.ChangeShapes Go.WideShapes Go.Deep Go.Joins
theorem Xmo:Tryz.prog.cellsOf 5=1:=by kernel_rfl
theorem Xg4{n:Int}(h:(Lit.int .u8 n).wf=true) : 0≤n∧n≤255:=by
 have h1:IntKind.u8.min=0:=rfl
 have h2:IntKind.u8.max=255:=rfl
 simp [Lit.wf] at h
 omega
set_option maxRecDepth 100000 in
theorem X8a{H:Type}{enc:TypeId×Value→H}{w:World}{base b0:Nat}{spare:Nat→Bool}{held:Bool}{r:Reach}{v:Value}{d:DataW H}{p:List MemPlace}(hv:Value.okWide Tryz.prog w r b0 22 v)(h:DataW.Trod enc Tryz.prog w base spare held 22 v d p)(hsp:∀ b,spare b=true) :
  ∃ (A:Option Addr) (l:List Int) (k:Nat) (E:TypeId),v=.slice A l.length k∧Rd w w.heap.size E encU A l∧(∀ x ∈ l,0≤x∧x≤255):=by
 obtain ⟨a1,n1,k1,rfl⟩:=okWide_slice Tryz.underlying22 hv
 obtain ⟨fuel,hf⟩:=h
 have key:∃ (A:Option Addr) (l:List Int) (c:Nat) (E:TypeId),(Value.slice a1 n1 k1).cells.toList=[Value.slice A l.length c]∧Rd w w.heap.size E encU A l∧(∀ x ∈ l,0≤x∧x≤255):=by
  rcases open_slice Tryz.underlying22 hf with ⟨hcs,_⟩|⟨a,len,cap,m,n,D,Pl,hcs,hb,hl,hm,hmm,_,hi⟩
  ·exact ⟨none,[],0,0,hcs,Rd.nil _ _ _ _ _,by simp⟩
  ·rw [Xmo] at hi
   have hlm:len≤m:=by rw [hmm,hsp];simpa using hl
   obtain ⟨l,h1,h2⟩:=Xk8 (n:=len) (Q:=fun i g=>(0≤g∧g≤255)∧∀ j v,(encU g)[j]? = some v→w.cell? (a.add (i*1+j))=some v) fun i hilt=>by
    obtain ⟨cs',hc,ht⟩:=hi i (by omega)
    obtain ⟨g,rfl,_,hwf⟩:=DataW.trod_int Tryz.underlying5 ht
    obtain ⟨_,_,hat⟩:=World.cells?_some hc
    refine ⟨g,Xg4 hwf,fun j v hj=>?_⟩
    have hj3:j<1:=by have:=(List.getElem?_eq_some_iff.1 hj).1;simpa [encU] using this
    rw [← X5s,hat j hj3]
    exact hj
   obtain ⟨E,hr⟩:=Xbo Xbz (by decide) fun i g hig=>(h2 i g hig).2
   refine ⟨some a,l,cap,E,by rw [hcs,h1],hr,fun x hx=>?_⟩
   obtain ⟨i,hi9,e⟩:=List.getElem_of_mem hx
   exact (h2 i x (by rw [List.getElem?_eq_getElem hi9,e])).1
 obtain ⟨A,l,c,E,e0,hr,hb⟩:=key
 simp [Value.cells] at e0
 obtain ⟨rfl,rfl,rfl⟩:=e0
 exact ⟨_,l,_,E,rfl,hr,hb⟩
end Go.Proofs.YtlfjcmldfbfdbaaGreat
namespace Go.Proofs.YtlfjcmldfbfdbaaGreat
open Go.RowKit
theorem Xal(x y:Gt) : metS x y=comI x y:=by
 rw [Bool.eq_iff_iff,Xdo]
 unfold metS
 simp only [List.any_eq_true,beq_iff_eq]
 constructor
 ·rintro ⟨q,hq,z,hz,rfl⟩
  obtain ⟨g,hg,h1⟩:=(X21 _ z).1 hq
  obtain ⟨g',hg',h2⟩:=(X21 _ z).1 hz
  rw [List.mem_singleton] at hg hg'
  subst hg;subst hg'
  exact ⟨z,h1,h2⟩
 ·rintro ⟨q,h1,h2⟩
  exact ⟨q,(X21 _ q).2 ⟨x,by simp,h1⟩,q,(X21 _ q).2 ⟨y,by simp,h2⟩,rfl⟩
def isTk(k:Int) : Bool:=k==7||k==8
def tcN(l:List Gt) : Nat:=l.countP fun g=>isTk g.k
theorem Xj1{l:List Gt}{k:Nat}{u:Gt}(h:l[k]? = some u) : (tcN (l.take (k+1)) : Int)=(tcN (l.take k) : Int)+(if isTk u.k=true then 1 else 0):=by
 obtain ⟨h1,h2⟩:=List.getElem?_eq_some_iff.1 h
 unfold tcN
 rw [List.take_succ_eq_append_getElem h1,h2,List.countP_append,List.countP_singleton]
 split<;>simp
theorem Xpf(l:List Gt) : tcN l≤l.length:=List.countP_le_length
theorem Xhe{n m:Int}{g:Gt}(h:gOk n g=true)(h1:n≤m)(h2:m≤5) : gOk m g=true:=by
 unfold gOk at h ⊢
 simp only [Bool.and_eq_true,Xv] at h ⊢
 obtain ⟨⟨h3,h4⟩,h5⟩:=h
 refine ⟨⟨⟨by omega,h2⟩,h4⟩,?_⟩
 split at h5
 ·rename_i h6;rw [if_pos h6];exact h5
 ·rename_i h6
  rw [if_neg h6]
  split at h5
  ·rename_i h7
   rw [if_pos h7]
   simp only [Bool.and_eq_true,Xv] at h5 ⊢
   exact ⟨⟨by omega,by omega⟩,h5.2⟩
  ·rename_i h7
   rw [if_neg h7]
   simp only [Bool.and_eq_true,Xv] at h5 ⊢
   exact ⟨by omega,h5.2⟩
theorem Rd.nil_of{α:Type}{w:World}{B:Nat}{E:TypeId}{enc:α→List Value}{A:Option Addr}{l:List α}(h:Rd w B E enc A l)(ha:A.isNone=true) : l=[]:=by
 by_cases hl:l=[]
 ·exact hl
 ·obtain ⟨b,off,cs,fz,h1,_⟩:=h hl
  rw [h1] at ha
  cases ha
section
variable {P : Program} {a : Act} {w : World} {n : Nat} {e : Env} {ty : TypeId} {pos : String} {af : Array Edge} {g : Option (Nat × Bool)} {d : Option Tmp}
theorem Xbg{t t' E:TypeId}{x y:Operand}{A:Option Addr}{m c m' c':Nat}(hf:Fr a n e)(hx:ev e x=some (.slice A m c))(hy:ev e y=some (.slice none m' c'))(hT:SliceT P t E) : Ev P ⟨d,.binOp .eql t x y t',ty,pos,af,g⟩ a w (.bool A.isNone):=fun w' _=>by
 have h1:=Lib.run_eql_slice_nil (P:=P) w' t E A m c m' c' hT
 simp [execOp,hf.ev hx,hf.ev hy,eqGuard,h1]
theorem Xfl{t t' E:TypeId}{x y:Operand}{A:Option Addr}{m c m' c':Nat}(hx:ev e x=some (.slice A m c))(hy:ev e y=some (.slice none m' c'))(hT:SliceT P t E) : EvW P ⟨d,.binOp .eql t x y t',ty,pos,af,g⟩ n e w (.bool A.isNone):=fun a hf=>Xbg hf hx hy hT
end
end Go.Proofs.YtlfjcmldfbfdbaaGreat
set_option maxHeartbeats 1000000
set_option maxRecDepth 4000
namespace Go.Proofs.YtlfjcmldfbfdbaaGreat
open Go.RowKit
theorem Xpg(w0:World)(c:Cx)(Ac:Option Addr)(cc:Nat)(hr_c:Rd w0 w0.heap.size 24 encG Ac c.gs)(hln:c.gs.length≤2305843009213693951) : Ret Tryz.prog 28 [.agg #[vi c.n,.slice Ac c.gs.length cc]] w0 (fun v w=>v=.bool (cOk c)∧Below w0.heap.size w0 w):=by
 refine enter Tryz.func28 rfl 5 rfl rfl ?_
 intro a hf
 have hW:Below w0.heap.size w0 w0:=Below.refl _ _
 refine Zs hf fun _ hK2=>?_
 refine Zf (X0j (zs:=[vi c.n,.slice Ac c.gs.length cc]) rfl rfl) ?_;rintro _ w1 ⟨b3,rfl,hl3,hE,hB3⟩
 have hlo3:=Nat.le_trans hW.size hl3
 replace hW:=btr hW hE
 refine Za rfl ?_
 refine Zt hK2 fun a hf=>?_
 refine Zs hf fun _ hK4=>?_
 refine Ze (Vn X0p hB3) ?_
 refine Zf (Vc (F53 _ c Ac cc (hr_c.below' hW).top) Xdd) ?_;rintro _ w2 ⟨rfl,hE⟩
 replace hB3:=hB3.below hE
 replace hW:=btr hW hE
 refine Za rfl ?_
 refine Zt hK4 fun a hf=>?_
 refine wp_ret (X2 hf (Xz hf rfl rfl) ?_)
 exact ⟨rfl,hW⟩
theorem Xoo(w0:World){Xcd:TypeId}(Acd:Option Addr)(ccd:Nat)(code:List Int)(hr_code:Rd w0 w0.heap.size Xcd encU Acd code)(hcd:∀ x ∈ code,0≤x∧x≤255) : Ret Tryz.prog 26 [.slice Acd code.length ccd] w0 (fun v w=>∃ (c:Cx) (A:Option Addr) (e:Nat),v=.agg #[vi c.n,.slice A c.gs.length e]∧(0≤c.n∧c.n≤6∧c.gs.length≤14)∧Own w w0.heap.size 24 3 encG A e c.gs∧Below w0.heap.size w0 w):=by
 refine enter Tryz.func26 rfl 13 rfl rfl ?_
 intro a hf
 have hW:Below w0.heap.size w0 w0:=Below.refl _ _
 refine Zs hf fun _ hK2=>?_
 refine Zf (X9 (zs:=[vi 0,.slice none 0 0]) X2x rfl) ?_;rintro _ w1 ⟨b4,rfl,hl4,hE,hB4⟩
 have hlo4:=Nat.le_trans hW.size hl4
 have haw1_4:=(hr_code.below' hW).away hl4
 replace hW:=btr hW hE
 refine Zt hK2 fun a hf=>?_
 refine Zs hf fun _ hK5=>?_
 refine Zm rfl<|Ze (Xu (ps:=[(0,.slice Acd code.length ccd)]) (cs:=[.slice Acd code.length ccd,vi 0,.int .u64 0]) rfl (fun _=>by first|rfl|kernel_rfl)) ?_
 refine Zf (X0j (zs:=[.slice Acd code.length ccd,vi 0,.int .u64 0]) rfl rfl) ?_;rintro _ w2 ⟨b7,rfl,hl7,hE,hB7⟩
 have hlo7:=Nat.le_trans hW.size hl7
 have haw1_7:=(hr_code.below' hW).away hl7
 replace hB4:=hB4.below hE
 replace hW:=btr hW hE
 refine Za rfl ?_
 refine Zt hK5 fun a hf=>?_
 refine wp_seq_k fun _ hK8=>?_
 refine Zs hf fun _ hK9=>?_
 refine Zm rfl ?_
 refine Zf (Vc (Xl2 _ b7 Acd ccd code (hr_code.below' hW).top hcd haw1_7 0 0 hB7 12 (by omega)) Xdi) ?_;rintro _ w3 ⟨xz8,tz8,sz8,rfl,hPz8,htz8,hK,hbn⟩
 obtain ⟨wm,hO,hm,hE⟩:=hK.mid;clear hm
 have hold:=hB7
 replace hB4:=hB4.only hO (Blk.ne hB4 hold rfl)
 replace hW:=Below.only hW hO hlo7
 replace hB4:=hB4.below hE
 replace hW:=btr hW hE
 clear hold hE hO hK;replace hB7:=hbn;clear hbn
 refine Zt hK9 fun a hf=>?_
 refine Xo hf rfl (fun hc10=>?_) (fun hc10=>?_)
 ·have hc10b:=hc10
  refine Zs hf fun _ hK11=>?_
  refine Zm rfl ?_
  refine Zf (Vc (Xph _ b7 Acd ccd code (hr_code.below' hW).top hcd haw1_7 tz8 sz8 hB7 (by omega)) Xj9) ?_;rintro _ w4 ⟨cz10,Az10,ez10,tz10,sz10,rfl,hPz10,htz10,hoz10,hK,hbn⟩
  have hlv:=hW.size
  obtain ⟨wm,hO,hm,hE⟩:=hK.mid;clear hm
  have hold:=hB7
  replace hB4:=hB4.only hO (Blk.ne hB4 hold rfl)
  replace hW:=Below.only hW hO hlo7
  replace hB4:=hB4.below hE
  replace hW:=btr hW hE
  clear hold hE hO hK;replace hB7:=hbn;clear hbn
  replace hoz10:=hoz10.lower hlv;clear hlv
  refine Zo (Vw [vi cz10.n,.slice Az10 cz10.gs.length ez10] X1c hB4) ?_;rintro _ w5 ⟨ho,hb⟩
  have hold:=hB4
  replace hB7:=hB7.only ho (Blk.ne hB7 hold rfl)
  replace hoz10:=hoz10.onlyT ho hold rfl
  replace hW:=Below.only hW ho hlo4
  clear hold
  have hB4:=hb
  clear hb ho
  refine Zt hK11 fun a hf=>?_
  refine wp_ret ?_
  refine X6 ?_
  refine X2 hf (Xz hf rfl (ResV.cellN (l:=[vi cz10.n,.slice Az10 cz10.gs.length ez10]) rfl X0p (hB4.at 0) rfl)) ?_
  exact ⟨_,Az10,ez10,rfl,(by omega),hoz10,hW⟩
 have hc10b:=hc10
 refine wp_skip ?_
 refine hK8 _ _ ?_
 refine Zs hf fun _ hK13=>?_
 refine Zm rfl ?_
 refine Zf (Vc (Xkp _ b7 Acd ccd code (hr_code.below' hW).top hcd haw1_7 tz8 sz8 hB7 (by omega)) Xdf) ?_;rintro _ w6 ⟨cz12,Az12,ez12,tz12,sz12,rfl,hPz12,htz12,hoz12,hK,hbn⟩
 have hlv:=hW.size
 obtain ⟨wm,hO,hm,hE⟩:=hK.mid;clear hm
 have hold:=hB7
 replace hB4:=hB4.only hO (Blk.ne hB4 hold rfl)
 replace hW:=Below.only hW hO hlo7
 replace hB4:=hB4.below hE
 replace hW:=btr hW hE
 clear hold hE hO hK;replace hB7:=hbn;clear hbn
 replace hoz12:=hoz12.lower hlv;clear hlv
 refine Zo (Vw [vi cz12.n,.slice Az12 cz12.gs.length ez12] X1c hB4) ?_;rintro _ w7 ⟨ho,hb⟩
 have hold:=hB4
 replace hB7:=hB7.only ho (Blk.ne hB7 hold rfl)
 replace hoz12:=hoz12.onlyT ho hold rfl
 replace hW:=Below.only hW ho hlo4
 clear hold
 have hB4:=hb
 clear hb ho
 refine Zt hK13 fun a hf=>?_
 refine wp_ret (X2 hf (Xz hf rfl (ResV.cellN (l:=[vi cz12.n,.slice Az12 cz12.gs.length ez12]) rfl X0p (hB4.at 0) rfl)) ?_)
 exact ⟨_,Az12,ez12,rfl,(by omega),hoz12,hW⟩
theorem Xpj(w0:World){Xcd:TypeId}(Acd:Option Addr)(ccd:Nat)(code:List Int)(hr_code:Rd w0 w0.heap.size Xcd encU Acd code)(hcd:∀ x ∈ code,0≤x∧x≤255) : Ret Tryz.prog 97 [.slice Acd code.length ccd] w0 (fun v w=>∃ (n:Int) (r:Rp) (A:Option Addr) (e:Nat) (B:Option Addr) (f:Nat),v=.tuple #[vi n,.agg #[vi r.pos,.slice A r.old.length e,.slice B r.new.length f]]∧(r.old.length≤41∧r.new.length≤41)∧Rd w w.heap.size 24 encG A r.old∧Rd w w.heap.size 24 encG B r.new∧Below w0.heap.size w0 w):=by
 refine enter Tryz.func97 rfl 23 rfl rfl ?_
 intro a hf
 have hW:Below w0.heap.size w0 w0:=Below.refl _ _
 refine Zs hf fun _ hK2=>?_
 refine Za rfl ?_
 refine Zf (X9 (zs:=[vi 0,.slice none 0 0,.slice none 0 0]) X7g rfl) ?_;rintro _ w1 ⟨b5,rfl,hl5,hE,hB5⟩
 have hlo5:=Nat.le_trans hW.size hl5
 have haw1_5:=(hr_code.below' hW).away hl5
 replace hW:=btr hW hE
 refine Zt hK2 fun a hf=>?_
 refine Zs hf fun _ hK6=>?_
 refine Zm rfl<|Ze (Xu (ps:=[(0,.slice Acd code.length ccd)]) (cs:=[.slice Acd code.length ccd,vi 0,.int .u64 0]) rfl (fun _=>by first|rfl|kernel_rfl)) ?_
 refine Zf (X0j (zs:=[.slice Acd code.length ccd,vi 0,.int .u64 0]) rfl rfl) ?_;rintro _ w2 ⟨b8,rfl,hl8,hE,hB8⟩
 have hlo8:=Nat.le_trans hW.size hl8
 have haw1_8:=(hr_code.below' hW).away hl8
 replace hB5:=hB5.below hE
 replace hW:=btr hW hE
 refine Za rfl ?_
 refine Zt hK6 fun a hf=>?_
 refine Zs hf fun _ hK9=>?_
 refine Zm rfl ?_
 refine Zf (Vc (Xkp _ b8 Acd ccd code (hr_code.below' hW).top hcd haw1_8 0 0 hB8 (by omega)) Xdf) ?_;rintro _ w3 ⟨cz11,Az11,ez11,tz11,sz11,rfl,hPz11,htz11,hoz11,hK,hbn⟩
 have hlv:=hW.size
 obtain ⟨wm,hO,hm,hE⟩:=hK.mid;clear hm
 have hold:=hB8
 replace hB5:=hB5.only hO (Blk.ne hB5 hold rfl)
 replace hW:=Below.only hW hO hlo8
 replace hB5:=hB5.below hE
 replace hW:=btr hW hE
 clear hold hE hO hK;replace hB8:=hbn;clear hbn
 replace hoz11:=hoz11.lower hlv;clear hlv
 refine Zf (X9 (zs:=[vi 0,.slice none 0 0]) X2x rfl) ?_;rintro _ w4 ⟨b12,rfl,hl12,hE,hB12⟩
 have hlo12:=Nat.le_trans hW.size hl12
 have haw1_12:=(hr_code.below' hW).away hl12
 replace hB5:=hB5.below hE
 replace hB8:=hB8.below hE
 replace hoz11:=hoz11.below hE
 replace hW:=btr hW hE
 refine Zo (Vw [vi cz11.n,.slice Az11 cz11.gs.length ez11] X1c hB12) ?_;rintro _ w5 ⟨ho,hb⟩
 have hold:=hB12
 replace hB5:=hB5.only ho (Blk.ne hB5 hold rfl)
 replace hB8:=hB8.only ho (Blk.ne hB8 hold rfl)
 replace hoz11:=hoz11.onlyT ho hold rfl
 replace hW:=Below.only hW ho hlo12
 clear hold
 have hB12:=hb
 clear hb ho
 refine Zt hK9 fun a hf=>?_
 refine Zs hf fun _ hK13=>?_
 refine Zm rfl<|Ze (Vn X0p hB12) ?_
 refine Zf (Vc (Xoi _ b8 Acd ccd code (hr_code.below' hW).top hcd haw1_8 tz11 sz11 hB8 cz11 Az11 ez11 hoz11.rd.top hoz11.cap (by omega) (by omega) (by omega)) Xk4) ?_;rintro _ w6 ⟨rz14,Az14,ez14,Bz14,fz14,tz14,sz14,rfl,hPz14,htz14,hroz14,hrnz14,hK,hbn⟩
 obtain ⟨wm,hO,hm,hE⟩:=hK.mid;clear hm
 have hold:=hB8
 replace hB5:=hB5.only hO (Blk.ne hB5 hold rfl)
 replace hB12:=hB12.only hO (Blk.ne hB12 hold rfl)
 replace hoz11:=hoz11.onlyT hO hold rfl
 replace hW:=Below.only hW hO hlo8
 replace hB5:=hB5.below hE
 replace hB12:=hB12.below hE
 replace hoz11:=hoz11.below hE
 replace hW:=btr hW hE
 clear hold hE hO hK;replace hB8:=hbn;clear hbn
 refine Zf (X9 (zs:=[vi 0,.slice none 0 0,.slice none 0 0]) X7g rfl) ?_;rintro _ w7 ⟨b18,rfl,hl18,hE,hB18⟩
 have hne5_18:b5≠b18:=by have:=hB5.lt;omega
 have hlo18:=Nat.le_trans hW.size hl18
 have haw1_18:=(hr_code.below' hW).away hl18
 replace hB5:=hB5.below hE
 replace hB8:=hB8.below hE
 replace hB12:=hB12.below hE
 replace hoz11:=hoz11.below hE
 replace hroz14:=hroz14.below hE
 replace hrnz14:=hrnz14.below hE
 replace hW:=btr hW hE
 refine Zo (Vw [vi rz14.pos,.slice Az14 rz14.old.length ez14,.slice Bz14 rz14.new.length fz14] X1u hB18) ?_;rintro _ w8 ⟨ho,hb⟩
 have hold:=hB18
 replace hB5:=hB5.only ho (by omega)
 replace hB8:=hB8.only ho (Blk.ne hB8 hold rfl)
 replace hB12:=hB12.only ho (Blk.ne hB12 hold rfl)
 replace hoz11:=hoz11.onlyT ho hold rfl
 replace hroz14:=hroz14.onlyT ho hold rfl
 replace hrnz14:=hrnz14.onlyT ho hold rfl
 replace hW:=Below.only hW ho hlo18
 clear hold
 have hB18:=hb
 clear hb ho
 refine Zt hK13 fun a hf=>?_
 refine wp_seq_k fun _ hK19=>?_
 refine Zs hf fun _ hK20=>?_
 refine Zm rfl ?_
 refine Zf (Vc (Xl2 _ b8 Acd ccd code (hr_code.below' hW).top hcd haw1_8 tz14 sz14 hB8 8 (by omega)) Xdi) ?_;rintro _ w9 ⟨xz16,tz16,sz16,rfl,hPz16,htz16,hK,hbn⟩
 obtain ⟨wm,hO,hm,hE⟩:=hK.mid;clear hm
 have hold:=hB8
 replace hB5:=hB5.only hO (Blk.ne hB5 hold rfl)
 replace hB12:=hB12.only hO (Blk.ne hB12 hold rfl)
 replace hB18:=hB18.only hO (Blk.ne hB18 hold rfl)
 replace hoz11:=hoz11.onlyT hO hold rfl
 replace hroz14:=hroz14.onlyT hO hold rfl
 replace hrnz14:=hrnz14.onlyT hO hold rfl
 replace hW:=Below.only hW hO hlo8
 replace hB5:=hB5.below hE
 replace hB12:=hB12.below hE
 replace hB18:=hB18.below hE
 replace hoz11:=hoz11.below hE
 replace hroz14:=hroz14.below hE
 replace hrnz14:=hrnz14.below hE
 replace hW:=btr hW hE
 clear hold hE hO hK;replace hB8:=hbn;clear hbn
 refine Zt hK20 fun a hf=>?_
 refine Xo hf rfl (fun hc21=>?_) (fun hc21=>?_)
 ·have hc21b:=hc21
  refine wp_seq_k fun _ hK22=>?_
  refine X09 (some b8) (fun j=>[4].contains j) mixed ?_
  intro w10 hE
  replace hB5:=hB5.below hE
  replace hB8:=hB8.below hE
  replace hB12:=hB12.below hE
  replace hB18:=hB18.below hE
  replace hoz11:=hoz11.below hE
  replace hroz14:=hroz14.below hE
  replace hrnz14:=hrnz14.below hE
  replace hW:=btr hW hE
  refine Yb hf ?_
  refine Yo 0 rfl (fun _=>X7 rfl) ?_
  refine Yw 2 rfl trivial (fun w1 h1=>X0a (l:=[vi rz14.pos,.slice Az14 rz14.old.length ez14,.slice Bz14 rz14.new.length fz14]) rfl X15 ((hB18.only h1 (Blk.ne hB18 hB8 rfl)).at 0) rfl) ?_
  refine Y1 1 ?_
  refine Yf rfl trivial (EfW.mono (Vc (X2h _ b8 Acd ccd code (hr_code.below' hW).top hcd haw1_8 tz16 sz16 hB8 7 (by omega)) X1j) (fun _ _ h=>⟨fun _=>by obtain ⟨xz18,tz18,sz18,rfl,hPz18,htz18,hK,hbn⟩:=h;exact hK.keep,h⟩)) ?_;rintro _ w11 ⟨xz18,tz18,sz18,rfl,hPz18,htz18,hK,hbn⟩
  obtain ⟨wm,hO,hm,hE⟩:=hK.mid;clear hm
  have hold:=hB8
  replace hB5:=hB5.only hO (Blk.ne hB5 hold rfl)
  replace hB12:=hB12.only hO (Blk.ne hB12 hold rfl)
  replace hB18:=hB18.only hO (Blk.ne hB18 hold rfl)
  replace hoz11:=hoz11.onlyT hO hold rfl
  replace hroz14:=hroz14.onlyT hO hold rfl
  replace hrnz14:=hrnz14.onlyT hO hold rfl
  replace hW:=Below.only hW hO hlo8
  replace hB5:=hB5.below hE
  replace hB12:=hB12.below hE
  replace hB18:=hB18.below hE
  replace hoz11:=hoz11.below hE
  replace hroz14:=hroz14.below hE
  replace hrnz14:=hrnz14.below hE
  replace hW:=btr hW hE
  clear hold hE hO hK;replace hB8:=hbn;clear hbn
  refine Yo 3 rfl (fun _=>X12 rfl) ?_
  refine Y1 4 ?_
  refine Yh rfl trivial rfl (Vw [vi rz14.pos,.slice Az14 rz14.old.length ez14,.slice Bz14 rz14.new.length fz14] X1u hB5) ?_;rintro _ w12 ⟨ho,hb⟩
  have hold:=hB5
  replace hB8:=hB8.only ho (Blk.ne hB8 hold rfl)
  replace hB12:=hB12.only ho (Blk.ne hB12 hold rfl)
  replace hB18:=hB18.only ho (by omega)
  replace hoz11:=hoz11.onlyT ho hold rfl
  replace hroz14:=hroz14.onlyT ho hold rfl
  replace hrnz14:=hrnz14.onlyT ho hold rfl
  replace hW:=Below.only hW ho hlo5
  clear hold
  have hB5:=hb
  clear hb ho
  refine Yd fun a hf=>?_
  refine hK22 _ _ ?_
  refine wp_ret ?_
  refine X6 ?_
  refine X2 hf (X0t hf rfl rfl (ResV.cellN (l:=[vi rz14.pos,.slice Az14 rz14.old.length ez14,.slice Bz14 rz14.new.length fz14]) rfl X15 (hB5.at 0) rfl)) ?_
  exact ⟨xz18,⟨rz14.pos,rz14.old,rz14.new⟩,Az14,ez14,Bz14,fz14,rfl,hPz14,hroz14.top,hrnz14.top,hW⟩
 have hc21b:=hc21
 refine wp_skip ?_
 refine hK19 _ _ ?_
 refine wp_seq_k fun _ hK23=>?_
 refine X09 none (fun j=>[4].contains j) mixed ?_
 intro w13 hE
 replace hB5:=hB5.below hE
 replace hB8:=hB8.below hE
 replace hB12:=hB12.below hE
 replace hB18:=hB18.below hE
 replace hoz11:=hoz11.below hE
 replace hroz14:=hroz14.below hE
 replace hrnz14:=hrnz14.below hE
 replace hW:=btr hW hE
 refine Yb hf ?_
 refine Yo 0 rfl (fun _=>Vd rfl X17 0)<|Ye 1 rfl (X0 rfl X5 (hB12.at 0))<|Ye 2 rfl (Vn X15 hB18)<|Yo 3 rfl (fun _=>X12 rfl) ?_
 refine Y1 4 ?_
 refine Yh rfl trivial rfl (Vw [vi rz14.pos,.slice Az14 rz14.old.length ez14,.slice Bz14 rz14.new.length fz14] X1u hB5) ?_;rintro _ w14 ⟨ho,hb⟩
 have hold:=hB5
 replace hB8:=hB8.only ho (Blk.ne hB8 hold rfl)
 replace hB12:=hB12.only ho (Blk.ne hB12 hold rfl)
 replace hB18:=hB18.only ho (by omega)
 replace hoz11:=hoz11.onlyT ho hold rfl
 replace hroz14:=hroz14.onlyT ho hold rfl
 replace hrnz14:=hrnz14.onlyT ho hold rfl
 replace hW:=Below.only hW ho hlo5
 clear hold
 have hB5:=hb
 clear hb ho
 refine Yd fun a hf=>?_
 refine hK23 _ _ ?_
 refine wp_ret (X2 hf (X0t hf rfl rfl (ResV.cellN (l:=[vi rz14.pos,.slice Az14 rz14.old.length ez14,.slice Bz14 rz14.new.length fz14]) rfl X15 (hB5.at 0) rfl)) ?_)
 exact ⟨cz11.n,⟨rz14.pos,rz14.old,rz14.new⟩,Az14,ez14,Bz14,fz14,rfl,hPz14,hroz14.top,hrnz14.top,hW⟩
theorem Xl6(w0:World){Xcd:TypeId}(Acd:Option Addr)(ccd:Nat)(code:List Int)(hr_code:Rd w0 w0.heap.size Xcd encU Acd code)(hcd:∀ x ∈ code,0≤x∧x≤255) : Ret Tryz.prog 31 [.slice Acd code.length ccd] w0 (fun v w=>∃ (n:Int) (r:Rp) (A:Option Addr) (e:Nat) (B:Option Addr) (f:Nat),v=.tuple #[vi n,.agg #[vi r.pos,.slice A r.old.length e,.slice B r.new.length f]]∧(r.old.length≤41∧r.new.length≤41)∧Rd w w.heap.size 24 encG A r.old∧Rd w w.heap.size 24 encG B r.new∧Below w0.heap.size w0 w):=by
 refine enter Tryz.func31 rfl 8 rfl rfl ?_
 intro a hf
 have hW:Below w0.heap.size w0 w0:=Below.refl _ _
 refine Zs hf fun _ hK2=>?_
 refine Za rfl ?_
 refine Zf (X9 (zs:=[vi 0,.slice none 0 0,.slice none 0 0]) X7g rfl) ?_;rintro _ w1 ⟨b5,rfl,hl5,hE,hB5⟩
 have hlo5:=Nat.le_trans hW.size hl5
 have haw1_5:=(hr_code.below' hW).away hl5
 replace hW:=btr hW hE
 refine Zt hK2 fun a hf=>?_
 refine Zs hf fun _ hK6=>?_
 refine Zm rfl ?_
 refine Zf (Vc (Xpj _ Acd ccd code (hr_code.below' hW).top hcd) Xk7) ?_;rintro _ w2 ⟨nz5,rz5,Az5,ez5,Bz5,fz5,rfl,hPz5,hroz5,hrnz5,hE⟩
 replace hB5:=hB5.below hE
 replace hW:=btr hW hE
 refine Ze (X3 (vs:=[vi nz5,.agg #[vi rz5.pos,.slice Az5 rz5.old.length ez5,.slice Bz5 rz5.new.length fz5]]) rfl rfl)<|Ze (X3 (vs:=[vi nz5,.agg #[vi rz5.pos,.slice Az5 rz5.old.length ez5,.slice Bz5 rz5.new.length fz5]]) rfl rfl)<|Za rfl ?_
 refine Zo (Vw [vi rz5.pos,.slice Az5 rz5.old.length ez5,.slice Bz5 rz5.new.length fz5] X1u hB5) ?_;rintro _ w3 ⟨ho,hb⟩
 have hold:=hB5
 replace hroz5:=hroz5.onlyT ho hold rfl
 replace hrnz5:=hrnz5.onlyT ho hold rfl
 replace hW:=Below.only hW ho hlo5
 clear hold
 have hB5:=hb
 clear hb ho
 refine Zt hK6 fun a hf=>?_
 refine wp_ret (X2 hf (X0t hf rfl rfl (ResV.cellN (l:=[vi rz5.pos,.slice Az5 rz5.old.length ez5,.slice Bz5 rz5.new.length fz5]) rfl X15 (hB5.at 0) rfl)) ?_)
 exact ⟨nz5,⟨rz5.pos,rz5.old,rz5.new⟩,Az5,ez5,Bz5,fz5,rfl,hPz5,hroz5.top,hrnz5.top,hW⟩
theorem Xou(w0:World)(k:Int) : Ret Tryz.prog 60 [vi k] w0 (fun v w=>v=.bool (isTk k)∧Below w0.heap.size w0 w):=by
 refine enter Tryz.func60 rfl 9 rfl rfl ?_
 intro a hf
 have hW:Below w0.heap.size w0 w0:=Below.refl _ _
 refine Zs hf fun _ hK1=>?_
 refine Za rfl ?_
 refine Zt hK1 fun a hf=>?_
 refine wp_seq_k fun _ hK2=>?_
 refine X0h (fun a w=>Fr a 9 [(2,.bool ((k==7)||(k==8)))]∧w0=w) ?_ ?_
 ·refine Zr hf ?_
  refine Zm rfl<|Ze (X0x rfl rfl)<|Zm rfl ?_
  refine Zg 5 rfl (fun hg3=>?_) (fun hg3=>?_)
  ·refine Zp ⟨_,_,rfl,rfl,hg3⟩ ?_
   refine Zp ⟨_,_,rfl,rfl,hg3⟩ ?_
   refine Ze (Xa rfl hg3 rfl)<|Za rfl ?_
   refine Zn fun a hf=>?_
   exact ⟨hf.sub ⟨X1 rfl (by first|rfl|(simp only [hg3,bs];done)|simp [hg3]),trivial⟩,rfl⟩
  refine Zv ⟨_,_,rfl,rfl,hg3⟩ (X7 rfl) ?_
  refine Zv ⟨_,_,rfl,rfl,hg3⟩ (X0x rfl rfl) ?_
  refine Ze (Xc rfl hg3 rfl)<|Za rfl ?_
  refine Zn fun a hf=>?_
  exact ⟨hf.sub ⟨X1 rfl (by first|rfl|(simp only [hg3,bs];done)|simp [hg3]),trivial⟩,rfl⟩
 rintro a _ ⟨hf,rfl⟩
 refine hK2 _ _ ?_
 refine wp_ret (X2 hf (Xz hf rfl rfl) ?_)
 exact ⟨rfl,hW⟩
theorem Xl5(w0:World)(Al:Option Addr)(cl:Nat)(l:List Gt)(hr_l:Rd w0 w0.heap.size 24 encG Al l)(hln:l.length≤100000000) : Ret Tryz.prog 96 [.slice Al l.length cl] w0 (fun v w=>v=vi ((tcN l:Nat) : Int)∧Below w0.heap.size w0 w):=by
 refine enter Tryz.func96 rfl 20 rfl rfl ?_
 intro a hf
 have hW:Below w0.heap.size w0 w0:=Below.refl _ _
 refine Zs hf fun _ hK2=>?_
 refine Za rfl ?_
 refine Zt hK2 fun a hf=>?_
 refine Zs hf fun _ hK3=>?_
 refine Za rfl ?_
 refine Zt hK3 fun a hf=>?_
 refine wp_seq_k fun _ hK4=>?_
 refine Zs hf fun _ hK5=>?_
 refine Zm rfl<|Ze (X0y rfl Xg)<|Zm rfl ?_
 refine Zt hK5 fun a hf=>?_
 refine wp_block ?_
 refine X0g (σ:=Nat) (fun (k:Nat) (a:Act) (w:World)=>Fr a 20 [(3,vi ((tcN (l.take k) : Nat) : Int)),(6,.slice Al l.length cl),(7,vi (l.length:Int)),(8,vi (k:Int))]∧(k≤l.length)∧Below w0.heap.size w0 w) (fun (k:Nat)=>l.length-k) 0 ?_ ?_
 ·exact ⟨hf.sub ⟨rfl,rfl,rfl,rfl,trivial⟩,(Nat.zero_le _),hW⟩
 rintro k a w1 ⟨hf,hk,hW⟩
 refine Zs hf fun _ hK6=>?_
 refine Ze (X18 rfl rfl) ?_
 refine Zt hK6 fun a hf=>?_
 refine wp_seq_k fun _ hK7=>?_
 refine Xo hf rfl (fun hc8=>?_) (fun hc8=>?_)
 ·have hc8b:=hc8
  have hc8:=of_decide_eq_true hc8
  obtain ⟨u9,hu9⟩:=X06 (l:=l) (k:=k) (by omega)
  have hst:=Xj1 hu9
  have hle:=Xpf (l.take k)
  rw [List.length_take] at hle
  refine wp_skip ?_
  refine hK7 _ _ ?_
  refine wp_seq_k fun _ hK10=>?_
  refine wp_block ?_
  refine Zs hf fun _ hK11=>?_
  refine Zi (k:=k) (u:=u9) (enc:=encG) (l:=l) trivial rfl rfl Xg X08 Xe (hr_l.below' hW) hu9 rfl ?_;intro p13 hat12
  refine Ze (X0a (l:=[vi u9.k,vi u9.a,vi u9.b]) rfl X01 hat12 rfl) ?_
  refine Zf (X9 (zs:=[vi 0,vi 0,vi 0]) X1z rfl) ?_;rintro _ w2 ⟨b14,rfl,hl14,hE,hB14⟩
  have hlo14:=Nat.le_trans hW.size hl14
  have haw1_14:=(hr_l.below' hW).away hl14
  replace hW:=btr hW hE
  refine Zo (Vw [vi u9.k,vi u9.a,vi u9.b] X08 hB14) ?_;rintro _ w3 ⟨ho,hb⟩
  have hold:=hB14
  replace hW:=Below.only hW ho hlo14
  clear hold
  have hB14:=hb
  clear hb ho
  refine Zt hK11 fun a hf=>?_
  refine Zr hf ?_
  refine Zm rfl<|Ze (Vd rfl X0c 0)<|Ze (X0 rfl X5 (hB14.at 0)) ?_
  refine Zf (Vc (Xou _ u9.k) Xjb) ?_;rintro _ w4 ⟨rfl,hE⟩
  replace hB14:=hB14.below hE
  replace hW:=btr hW hE
  refine Zf (Vc (F59 _ (isTk u9.k)) Xdz) ?_;rintro _ _ ⟨rfl,rfl⟩
  refine Ze (X07 rfl rfl (by omega) (by omega))<|Za rfl ?_
  refine Zn fun a hf=>?_
  refine Xj ?_
  refine hK10 _ _ ?_
  refine Zr hf ?_
  refine Ze (X07 rfl rfl (by omega) (by omega))<|Zm rfl ?_
  refine Zn fun a hf=>?_
  rw [← hst] at hf
  refine Xs ?_
  exact ⟨k+1,⟨hf.sub ⟨rfl,rfl,rfl,rfl,trivial⟩,(by omega),hW⟩,(by omega)⟩
 have hc8b:=hc8
 have hc8:=of_decide_eq_false hc8
 have hkl:l.take k=l:=List.take_of_length_le (by omega)
 refine wp_exit ?_
 refine X02 ?_
 refine X02 ?_
 refine X0f ?_
 refine hK4 _ _ ?_
 refine Zs hf fun _ hK15=>?_
 refine Zm rfl<|Za rfl ?_
 refine Zt hK15 fun a hf=>?_
 refine wp_ret (X2 hf (Xz hf rfl rfl) ?_)
 rw [hkl]
 exact ⟨rfl,hW⟩
theorem Xor(w0:World)(c:Cx)(Ac:Option Addr)(cc:Nat)(hr_c:Rd w0 w0.heap.size 24 encG Ac c.gs)(Al:Option Addr)(cl:Nat)(l:List Sr)(hr_l:Rd w0 w0.heap.size 62 encSr Al l)(hd_l:DeepR w0 w0.heap.size 24 l)(d:Cx)(Ad:Option Addr)(cd:Nat)(hr_d:Rd w0 w0.heap.size 24 encG Ad d.gs)(hcO:cOk c=true)(hdO:cOk d=true)(hls:l.length≤400) : Ret Tryz.prog 30 [.agg #[vi c.n,.slice Ac c.gs.length cc,.slice Al l.length cl,vi d.n,.slice Ad d.gs.length cd]] w0 (fun v w=>v=.tuple #[.agg #[vi (l.length:Int),vi (c.gs.length:Int),vi (d.gs.length:Int),vi ((tcN c.gs:Nat) : Int),vi ((tcN d.gs:Nat) : Int)],.bool true]∧Below w0.heap.size w0 w):=by
 refine enter Tryz.func30 rfl 41 rfl rfl ?_
 intro a hf
 have hW:Below w0.heap.size w0 w0:=Below.refl _ _
 refine Zs hf fun _ hK4=>?_
 refine Zf (X0j (zs:=[vi c.n,.slice Ac c.gs.length cc,.slice Al l.length cl,vi d.n,.slice Ad d.gs.length cd]) rfl rfl) ?_;rintro _ w1 ⟨b5,rfl,hl5,hE,hB5⟩
 have hlo5:=Nat.le_trans hW.size hl5
 replace hd_l:=hd_l.below hE
 replace hW:=btr hW hE
 refine Zf (X9 (zs:=[vi 0,vi 0,vi 0,vi 0,vi 0]) Xie rfl) ?_;rintro _ w2 ⟨b6,rfl,hl6,hE,hB6⟩
 have hlo6:=Nat.le_trans hW.size hl6
 replace hB5:=hB5.below hE
 replace hd_l:=hd_l.below hE
 replace hW:=btr hW hE
 refine Za rfl ?_
 refine Zt hK4 fun a hf=>?_
 refine wp_seq_k fun _ hK7=>?_
 refine wp_seq_k fun _ hK8=>?_
 refine X0h (fun a w=>Fr a 41 [(1,.pointer (some ⟨b5,0,none⟩)),(2,.pointer (some ⟨b6,0,none⟩)),(19,.bool (((!(cOk c))||(!(cOk d)))||(decide (400<(l.length:Int)))))]∧Below w2.heap.size w2 w) ?_ ?_
 ·have hEc:Below w2.heap.size w2 w2:=Below.refl _ _
  refine Zr hf ?_
  refine Ze (Vd rfl X50 0)<|Ze (X0a (l:=[vi c.n,.slice Ac c.gs.length cc]) rfl X0p ((hB5.at 0).take 2) rfl) ?_
  refine Zf (Vc (F55 _ c Ac cc (hr_c.below' hW).top (by have:=X5h hcO;omega)) X8z) ?_;rintro _ w3 ⟨rfl,hE⟩
  replace hB5:=hB5.below hE
  replace hB6:=hB6.below hE
  replace hd_l:=hd_l.below hE
  replace hW:=btr hW hE
  replace hEc:=btr hEc hE
  refine Ze (X11 rfl)<|Zm rfl ?_
  refine Zg 8 rfl (fun hg9=>?_) (fun hg9=>?_)
  ·refine Zp ⟨_,_,rfl,rfl,hg9⟩ ?_
   refine Zp ⟨_,_,rfl,rfl,hg9⟩ ?_
   refine Zp ⟨_,_,rfl,rfl,hg9⟩ ?_
   refine Zp ⟨_,_,rfl,rfl,hg9⟩ ?_
   refine Ze (Xa rfl hg9 rfl)<|Zm rfl<|Zp ⟨_,_,rfl,rfl,rfl⟩ ?_
   refine Zp ⟨_,_,rfl,rfl,rfl⟩ ?_
   refine Zp ⟨_,_,rfl,rfl,rfl⟩ ?_
   refine Zp ⟨_,_,rfl,rfl,rfl⟩ ?_
   refine Ze (Xa rfl rfl rfl) ?_
   refine Zn fun a hf=>?_
   have hEE:Below w2.heap.size w2 w3:=hEc
   exact ⟨hf.sub ⟨rfl,rfl,X1 rfl (by first|rfl|(simp only [hg9,bs];done)|simp [hg9]),trivial⟩,hEE⟩
  refine Zv ⟨_,_,rfl,rfl,hg9⟩ (Vd rfl X1s 3) ?_
  refine Zv ⟨_,_,rfl,rfl,hg9⟩ (X0a (l:=[vi d.n,.slice Ad d.gs.length cd]) rfl X0p ((hB5.at 3).take 2) rfl) ?_
  refine Zk ⟨_,_,rfl,rfl,hg9⟩ (Vc (F55 _ d Ad cd (hr_d.below' hW).top (by have:=X5h hdO;omega)) X8z) ?_;rintro _ w4 ⟨rfl,hE⟩
  replace hB5:=hB5.below hE
  replace hB6:=hB6.below hE
  replace hd_l:=hd_l.below hE
  replace hW:=btr hW hE
  replace hEc:=btr hEc hE
  refine Zv ⟨_,_,rfl,rfl,hg9⟩ (X11 rfl) ?_
  refine Ze (Xc rfl hg9 rfl)<|Zm rfl ?_
  refine Zg 14 rfl (fun hg10=>?_) (fun hg10=>?_)
  ·refine Zp ⟨_,_,rfl,rfl,hg10⟩ ?_
   refine Zp ⟨_,_,rfl,rfl,hg10⟩ ?_
   refine Zp ⟨_,_,rfl,rfl,hg10⟩ ?_
   refine Zp ⟨_,_,rfl,rfl,hg10⟩ ?_
   refine Ze (Xa rfl hg10 rfl) ?_
   refine Zn fun a hf=>?_
   have hEE:Below w2.heap.size w2 w4:=hEc
   exact ⟨hf.sub ⟨rfl,rfl,X1 rfl (by first|rfl|(simp only [hg9,hg10,bs];done)|simp [hg9,hg10]),trivial⟩,hEE⟩
  refine Zv ⟨_,_,rfl,rfl,hg10⟩ (Vd rfl X25 2) ?_
  refine Zv ⟨_,_,rfl,rfl,hg10⟩ (X0 rfl X5u (hB5.at 2)) ?_
  refine Zv ⟨_,_,rfl,rfl,hg10⟩ (X0y rfl X34) ?_
  refine Zv ⟨_,_,rfl,rfl,hg10⟩ (X3p rfl rfl) ?_
  refine Ze (Xc rfl hg10 rfl) ?_
  refine Zn fun a hf=>?_
  have hEE:Below w2.heap.size w2 w4:=hEc
  exact ⟨hf.sub ⟨rfl,rfl,X1 rfl (by first|rfl|(simp only [hg9,hg10,bs];done)|simp [hg9,hg10]),trivial⟩,hEE⟩
 rintro a w5 ⟨hf,hE⟩
 replace hB5:=hB5.below hE
 replace hB6:=hB6.below hE
 replace hd_l:=hd_l.below hE
 replace hW:=btr hW hE
 refine hK8 _ _ ?_
 refine Xo hf rfl (fun hc11=>?_) (fun hc11=>?_)
 ·have hc11b:=hc11
  revert hc11;rw [hcO,hdO];simp;omega
 have hc11b:=hc11
 refine wp_skip ?_
 refine hK7 _ _ ?_
 refine wp_seq_k fun _ hK12=>?_
 refine X09 none (fun j=>[20].contains j) mixed ?_
 intro w6 hE
 replace hB5:=hB5.below hE
 replace hB6:=hB6.below hE
 replace hd_l:=hd_l.below hE
 replace hW:=btr hW hE
 refine Yb hf ?_
 refine Yo 0 rfl (fun _=>Vd rfl X25 2)<|Ye 1 rfl (X0 rfl X5u (hB5.at 2))<|Yo 2 rfl (fun _=>X0y rfl X34)<|Yo 3 rfl (fun _=>Vd rfl X50 0)<|Yo 4 rfl (fun _=>Vd rfl X00 1) ?_
 refine Ye 5 rfl (X0 rfl X0d (hB5.at 1))<|Yo 6 rfl (fun _=>X0y rfl Xg)<|Yo 7 rfl (fun _=>Vd rfl X1s 3)<|Yo 8 rfl (fun _=>Vd rfl X00 4)<|Ye 9 rfl (X0 rfl X0d (hB5.at 4)) ?_
 refine Yo 10 rfl (fun _=>X0y rfl Xg)<|Yo 11 rfl (fun _=>Vd rfl X50 0)<|Yo 12 rfl (fun _=>Vd rfl X00 1)<|Ye 13 rfl (X0 rfl X0d (hB5.at 1))<|Yo 15 rfl (fun _=>Vd rfl X1s 3) ?_
 refine Yo 16 rfl (fun _=>Vd rfl X00 4)<|Ye 17 rfl (X0 rfl X0d (hB5.at 4)) ?_
 refine Y1 14 ?_
 refine Yk rfl trivial (Vc (Xl5 _ Ac cc c.gs (hr_c.below' hW).top (by have:=X5h hcO;omega)) Xec) (fun _ _ ⟨_,hE⟩=>hE) ?_;rintro _ w7 ⟨rfl,hE⟩
 replace hB5:=hB5.below hE
 replace hB6:=hB6.below hE
 replace hd_l:=hd_l.below hE
 replace hW:=btr hW hE
 refine Y1 18 ?_
 refine Yk rfl trivial (Vc (Xl5 _ Ad cd d.gs (hr_d.below' hW).top (by have:=X5h hdO;omega)) Xec) (fun _ _ ⟨_,hE⟩=>hE) ?_;rintro _ w8 ⟨rfl,hE⟩
 replace hB5:=hB5.below hE
 replace hB6:=hB6.below hE
 replace hd_l:=hd_l.below hE
 replace hW:=btr hW hE
 refine Yo 19 rfl (fun _=>Xu (ps:=[(0,vi (l.length:Int)),(1,vi (c.gs.length:Int)),(2,vi (d.gs.length:Int)),(3,vi ((tcN c.gs:Nat) : Int)),(4,vi ((tcN d.gs:Nat) : Int))]) (cs:=[vi (l.length:Int),vi (c.gs.length:Int),vi (d.gs.length:Int),vi ((tcN c.gs:Nat) : Int),vi ((tcN d.gs:Nat) : Int)]) rfl (fun _=>by first|rfl|kernel_rfl)) ?_
 refine Y1 20 ?_
 refine Yh rfl trivial rfl (Vw [vi (l.length:Int),vi (c.gs.length:Int),vi (d.gs.length:Int),vi ((tcN c.gs:Nat) : Int),vi ((tcN d.gs:Nat) : Int)] Xed hB6) ?_;rintro _ w9 ⟨ho,hb⟩
 have hold:=hB6
 replace hB5:=hB5.only ho (Blk.ne hB5 hold rfl)
 replace hd_l:=hd_l.only ho hlo6
 replace hW:=Below.only hW ho hlo6
 clear hold
 have hB6:=hb
 clear hb ho
 refine Yo 21 rfl (fun _=>X12 rfl) ?_
 refine Yd fun a hf=>?_
 refine hK12 _ _ ?_
 refine wp_ret (X2 hf (X0t hf rfl (ResV.cellN (l:=[vi (l.length:Int),vi (c.gs.length:Int),vi (d.gs.length:Int),vi ((tcN c.gs:Nat) : Int),vi ((tcN d.gs:Nat) : Int)]) rfl Xk0 (hB6.at 0) rfl) rfl) ?_)
 exact ⟨rfl,hW⟩
end Go.Proofs.YtlfjcmldfbfdbaaGreat
set_option maxHeartbeats 1000000
set_option maxRecDepth 4000
namespace Go.Proofs.YtlfjcmldfbfdbaaGreat
open Go.RowKit
theorem Xkd(w0:World)(x:Gt)(n:Int)(hg:gOk n x=true)(hn5:n≤5) : Ret Tryz.prog 155 [.agg #[vi x.k,vi x.a,vi x.b]] w0 (fun v w=>v=.tuple #[gV (bkG x),vi (bkN x),.bool true]∧Below w0.heap.size w0 w):=by
 refine enter Tryz.func155 rfl 27 rfl rfl ?_
 intro a hf
 have hW:Below w0.heap.size w0 w0:=Below.refl _ _
 refine Zs hf fun _ hK1=>?_
 refine Zf (X0j (zs:=[vi x.k,vi x.a,vi x.b]) rfl rfl) ?_;rintro _ w1 ⟨b2,rfl,hl2,hE,hB2⟩
 have hlo2:=Nat.le_trans hW.size hl2
 replace hW:=btr hW hE
 refine Zf (X9 (zs:=[vi 0,vi 0,vi 0]) X1z rfl) ?_;rintro _ w2 ⟨b3,rfl,hl3,hE,hB3⟩
 have hne2_3:b2≠b3:=by have:=hB2.lt;omega
 have hlo3:=Nat.le_trans hW.size hl3
 replace hB2:=hB2.below hE
 replace hW:=btr hW hE
 refine Za rfl<|Za rfl ?_
 refine Zt hK1 fun a hf=>?_
 refine wp_seq_k fun _ hK4=>?_
 refine Zs hf fun _ hK5=>?_
 refine Ze (Vn X01 hB2) ?_
 refine Zf (Vc (Xij _ 5 x) Xau) ?_;rintro _ w3 ⟨rfl,hE⟩
 replace hB2:=hB2.below hE
 replace hB3:=hB3.below hE
 replace hW:=btr hW hE
 refine Ze (X11 rfl) ?_
 refine Zt hK5 fun a hf=>?_
 refine Xo hf rfl (fun hc6=>?_) (fun hc6=>?_)
 ·have hc6b:=hc6
  rw [Xhe hg (by omega) (by decide)] at hc6;simp at hc6
 have hc6b:=hc6
 refine wp_skip ?_
 refine hK4 _ _ ?_
 refine wp_seq_k fun _ hK7=>?_
 refine Zs hf fun _ hK8=>?_
 refine Ze (Vd rfl X0c 0)<|Ze (X0 rfl X5 (hB2.at 0)) ?_
 refine Zt hK8 fun a hf=>?_
 refine wp_block ?_
 refine Zs hf fun _ hK9=>?_
 refine Ze (X0x rfl rfl)<|Za rfl ?_
 refine Zt hK9 fun a hf=>?_
 refine Xo hf rfl (fun hc10=>?_) (fun hc10=>?_)
 ·have hc10b:=hc10
  have ehc10:=eq_of_beq hc10
  refine Zr hf ?_
  refine Ze (Vd rfl X0c 0) ?_
  refine Zo (Vu (vs:=[vi 6]) (l':=[vi 6,vi x.a,vi x.b]) rfl rfl X1v hB2) ?_;rintro _ w4 ⟨ho,hb⟩
  have hold:=hB2
  replace hB3:=hB3.only ho (by omega)
  replace hW:=Below.only hW ho hlo2
  clear hold
  have hB2:=hb
  clear hb ho
  refine Zn fun a hf=>?_
  refine Xj ?_
  refine hK7 _ _ ?_
  refine Zs hf fun _ hK11=>?_
  refine Ze (Vn X01 hB2) ?_
  refine Zo (Vw [vi 6,vi x.a,vi x.b] X08 hB3) ?_;rintro _ w5 ⟨ho,hb⟩
  have hold:=hB3
  replace hB2:=hB2.only ho (by omega)
  replace hW:=Below.only hW ho hlo3
  clear hold
  have hB3:=hb
  clear hb ho
  refine Za rfl<|Za rfl ?_
  refine Zt hK11 fun a hf=>?_
  refine wp_ret (X2 hf (Xaq hf rfl (ResV.cellN (l:=[vi 6,vi x.a,vi x.b]) rfl X01 (hB3.at 0) rfl) rfl rfl) ?_)
  exact ⟨by simp [bkG,bkN, *],hW⟩
 have hc10b:=hc10
 have ehc10:=ne_of_beq_false hc10
 refine Zs hf fun _ hK12=>?_
 refine Ze (X0x rfl rfl)<|Za rfl ?_
 refine Zt hK12 fun a hf=>?_
 refine Xo hf rfl (fun hc13=>?_) (fun hc13=>?_)
 ·have hc13b:=hc13
  have ehc13:=eq_of_beq hc13
  refine Zr hf ?_
  refine Ze (Vd rfl X0c 0) ?_
  refine Zo (Vu (vs:=[vi 5]) (l':=[vi 5,vi x.a,vi x.b]) rfl rfl X1v hB2) ?_;rintro _ w6 ⟨ho,hb⟩
  have hold:=hB2
  replace hB3:=hB3.only ho (by omega)
  replace hW:=Below.only hW ho hlo2
  clear hold
  have hB2:=hb
  clear hb ho
  refine Zn fun a hf=>?_
  refine Xj ?_
  refine hK7 _ _ ?_
  refine Zs hf fun _ hK14=>?_
  refine Ze (Vn X01 hB2) ?_
  refine Zo (Vw [vi 5,vi x.a,vi x.b] X08 hB3) ?_;rintro _ w7 ⟨ho,hb⟩
  have hold:=hB3
  replace hB2:=hB2.only ho (by omega)
  replace hW:=Below.only hW ho hlo3
  clear hold
  have hB3:=hb
  clear hb ho
  refine Za rfl<|Za rfl ?_
  refine Zt hK14 fun a hf=>?_
  refine wp_ret (X2 hf (Xaq hf rfl (ResV.cellN (l:=[vi 5,vi x.a,vi x.b]) rfl X01 (hB3.at 0) rfl) rfl rfl) ?_)
  exact ⟨by simp [bkG,bkN, *],hW⟩
 have hc13b:=hc13
 have ehc13:=ne_of_beq_false hc13
 refine Zs hf fun _ hK15=>?_
 refine Ze (X0x rfl rfl)<|Za rfl ?_
 refine Zt hK15 fun a hf=>?_
 refine Xo hf rfl (fun hc16=>?_) (fun hc16=>?_)
 ·have hc16b:=hc16
  have ehc16:=eq_of_beq hc16
  refine Zr hf ?_
  refine Ze (Vd rfl X0c 0) ?_
  refine Zo (Vu (vs:=[vi 8]) (l':=[vi 8,vi x.a,vi x.b]) rfl rfl X1v hB2) ?_;rintro _ w8 ⟨ho,hb⟩
  have hold:=hB2
  replace hB3:=hB3.only ho (by omega)
  replace hW:=Below.only hW ho hlo2
  clear hold
  have hB2:=hb
  clear hb ho
  refine Zn fun a hf=>?_
  refine Xj ?_
  refine hK7 _ _ ?_
  refine Zs hf fun _ hK17=>?_
  refine Ze (Vn X01 hB2) ?_
  refine Zo (Vw [vi 8,vi x.a,vi x.b] X08 hB3) ?_;rintro _ w9 ⟨ho,hb⟩
  have hold:=hB3
  replace hB2:=hB2.only ho (by omega)
  replace hW:=Below.only hW ho hlo3
  clear hold
  have hB3:=hb
  clear hb ho
  refine Za rfl<|Za rfl ?_
  refine Zt hK17 fun a hf=>?_
  refine wp_ret (X2 hf (Xaq hf rfl (ResV.cellN (l:=[vi 8,vi x.a,vi x.b]) rfl X01 (hB3.at 0) rfl) rfl rfl) ?_)
  exact ⟨by simp [bkG,bkN, *],hW⟩
 have hc16b:=hc16
 have ehc16:=ne_of_beq_false hc16
 refine Zs hf fun _ hK18=>?_
 refine Ze (X0x rfl rfl)<|Za rfl ?_
 refine Zt hK18 fun a hf=>?_
 refine Xo hf rfl (fun hc19=>?_) (fun hc19=>?_)
 ·have hc19b:=hc19
  have ehc19:=eq_of_beq hc19
  refine Zr hf ?_
  refine Ze (Vd rfl X0c 0) ?_
  refine Zo (Vu (vs:=[vi 7]) (l':=[vi 7,vi x.a,vi x.b]) rfl rfl X1v hB2) ?_;rintro _ w10 ⟨ho,hb⟩
  have hold:=hB2
  replace hB3:=hB3.only ho (by omega)
  replace hW:=Below.only hW ho hlo2
  clear hold
  have hB2:=hb
  clear hb ho
  refine Zn fun a hf=>?_
  refine Xj ?_
  refine hK7 _ _ ?_
  refine Zs hf fun _ hK20=>?_
  refine Ze (Vn X01 hB2) ?_
  refine Zo (Vw [vi 7,vi x.a,vi x.b] X08 hB3) ?_;rintro _ w11 ⟨ho,hb⟩
  have hold:=hB3
  replace hB2:=hB2.only ho (by omega)
  replace hW:=Below.only hW ho hlo3
  clear hold
  have hB3:=hb
  clear hb ho
  refine Za rfl<|Za rfl ?_
  refine Zt hK20 fun a hf=>?_
  refine wp_ret (X2 hf (Xaq hf rfl (ResV.cellN (l:=[vi 7,vi x.a,vi x.b]) rfl X01 (hB3.at 0) rfl) rfl rfl) ?_)
  exact ⟨by simp [bkG,bkN, *],hW⟩
 have hc19b:=hc19
 have ehc19:=ne_of_beq_false hc19
 refine Zs hf fun _ hK21=>?_
 refine Ze (X0x rfl rfl)<|Za rfl ?_
 refine Zt hK21 fun a hf=>?_
 refine Xo hf rfl (fun hc22=>?_) (fun hc22=>?_)
 ·have hc22b:=hc22
  have ehc22:=eq_of_beq hc22
  refine Zs hf fun _ hK23=>?_
  refine Ze (Vn X01 hB2) ?_
  refine Zo (Vw [vi x.k,vi x.a,vi x.b] X08 hB3) ?_;rintro _ w12 ⟨ho,hb⟩
  have hold:=hB3
  replace hB2:=hB2.only ho (by omega)
  replace hW:=Below.only hW ho hlo3
  clear hold
  have hB3:=hb
  clear hb ho
  refine Za rfl<|Za rfl ?_
  refine Zt hK23 fun a hf=>?_
  refine wp_ret ?_
  refine X05 ?_
  refine X6 ?_
  refine X2 hf (Xaq hf rfl (ResV.cellN (l:=[vi x.k,vi x.a,vi x.b]) rfl X01 (hB3.at 0) rfl) rfl rfl) ?_
  exact ⟨by simp [bkG,bkN, *],hW⟩
 have hc22b:=hc22
 have ehc22:=ne_of_beq_false hc22
 refine wp_skip ?_
 refine Xj ?_
 refine hK7 _ _ ?_
 refine Zs hf fun _ hK24=>?_
 refine Ze (Vn X01 hB2) ?_
 refine Zo (Vw [vi x.k,vi x.a,vi x.b] X08 hB3) ?_;rintro _ w13 ⟨ho,hb⟩
 have hold:=hB3
 replace hB2:=hB2.only ho (by omega)
 replace hW:=Below.only hW ho hlo3
 clear hold
 have hB3:=hb
 clear hb ho
 refine Za rfl<|Za rfl ?_
 refine Zt hK24 fun a hf=>?_
 refine wp_ret (X2 hf (Xaq hf rfl (ResV.cellN (l:=[vi x.k,vi x.a,vi x.b]) rfl X01 (hB3.at 0) rfl) rfl rfl) ?_)
 exact ⟨by simp [bkG,bkN, *],hW⟩
theorem Xkm(w0:World)(Al:Option Addr)(cl:Nat)(l:List Gt)(hr_l:Rd w0 w0.heap.size 24 encG Al l)(hln:l.length≤100000000) : Ret Tryz.prog 156 [.slice Al l.length cl] w0 (fun v w=>∃ A c,v=.slice A l.length c∧Own w w0.heap.size 24 3 encG A c l∧Below w0.heap.size w0 w):=by
 refine enter Tryz.func156 rfl 8 rfl rfl ?_
 intro a hf
 have hW:Below w0.heap.size w0 w0:=Below.refl _ _
 refine Zs hf fun _ hK2=>?_
 refine Za rfl ?_
 refine Zt hK2 fun a hf=>?_
 refine wp_seq_k fun _ hK4=>?_
 refine Zs hf fun _ hK5=>?_
 refine Zm rfl<|Ze (Xfl rfl rfl Xg) ?_
 refine Zt hK5 fun a hf=>?_
 refine Xo hf rfl (fun hc7=>?_) (fun hc7=>?_)
 ·have hc7b:=hc7
  have hln0:l=[]:=Rd.nil_of hr_l hc7
  refine Zs hf fun _ hK8=>?_
  refine Za rfl ?_
  refine Zt hK8 fun a hf=>?_
  refine wp_ret ?_
  refine X6 ?_
  refine X2 hf (Xz hf rfl rfl) ?_
  subst hln0
  exact ⟨none,0,rfl,Own.nil _ _ _ _ _,hW⟩
 have hc7b:=hc7
 refine wp_skip ?_
 refine hK4 _ _ ?_
 refine Zs hf fun _ hK10=>?_
 refine Zf (X8 (k:=0) (vs:=[]) (zs:=[]) rfl Xg Xm rfl rfl) ?_;rintro _ w1 ⟨b11,rfl,hl11,hE,hB11⟩
 have hlo11:=Nat.le_trans hW.size hl11
 have haw1_11:=(hr_l.below' hW).away hl11
 replace hW:=btr hW hE
 refine Zm rfl ?_
 refine Zf (X37 (enc:=encG) (l2:=(l)) rfl rfl Xg Xm Xe X0b hB11 (hr_l.below' hW) (by simp only [maxLen];omega) (by omega)) ?_;rintro _ w2 ⟨A13,c13,rfl,ho13,hE⟩
 replace ho13:=ho13.lower hlo11
 replace hW:=btr hW hE
 refine Za rfl ?_
 refine Zt hK10 fun a hf=>?_
 refine wp_ret (X2 hf (Xz hf rfl rfl) ?_)
 exact ⟨A13,c13,rfl,ho13,hW⟩
end Go.Proofs.YtlfjcmldfbfdbaaGreat
set_option maxHeartbeats 1000000
set_option maxRecDepth 4000
namespace Go.Proofs.YtlfjcmldfbfdbaaGreat
open Go.RowKit
theorem Xpw(w0:World)(c:Cx)(Ac:Option Addr)(cc:Nat)(hr_c:Rd w0 w0.heap.size 24 encG Ac c.gs)(hp_c:c.gs.length≤cc)(hc:cOk c=true) : Ret Tryz.prog 93 [.agg #[vi c.n,.slice Ac c.gs.length cc]] w0 (fun v w=>∃ A e B f,v=.tuple #[.agg #[vi ((canS c.gs).getD rpZ).pos,.slice A ((canS c.gs).getD rpZ).old.length e,.slice B ((canS c.gs).getD rpZ).new.length f],.bool (canS c.gs).isSome]∧Rd w w.heap.size 24 encG A ((canS c.gs).getD rpZ).old∧Rd w w.heap.size 24 encG B ((canS c.gs).getD rpZ).new∧Below w0.heap.size w0 w):=by
 have hlc:=X5h hc
 obtain ⟨hcn,hcl,hcg⟩:=X1l hc
 refine enter Tryz.func93 rfl 86 rfl rfl ?_
 intro a hf
 have hW:Below w0.heap.size w0 w0:=Below.refl _ _
 refine Zs hf fun _ hK2=>?_
 refine Zf (X0j (zs:=[vi c.n,.slice Ac c.gs.length cc]) rfl rfl) ?_;rintro _ w1 ⟨b3,rfl,hl3,hE,hB3⟩
 have hlo3:=Nat.le_trans hW.size hl3
 replace hW:=btr hW hE
 refine Zf (X9 (zs:=[vi 0,.slice none 0 0,.slice none 0 0]) X7g rfl) ?_;rintro _ w2 ⟨b6,rfl,hl6,hE,hB6⟩
 have hlo6:=Nat.le_trans hW.size hl6
 replace hB3:=hB3.below hE
 replace hW:=btr hW hE
 refine Za rfl ?_
 refine Zt hK2 fun a hf=>?_
 refine wp_seq_k fun _ hK7=>?_
 refine Zs hf fun _ hK8=>?_
 refine Ze (Vd rfl X00 1)<|Ze (X0 rfl X0d (hB3.at 1))<|Ze (X0y rfl Xg)<|Zm rfl ?_
 refine Zt hK8 fun a hf=>?_
 refine wp_block ?_
 refine X0g (σ:=Nat) (fun (i:Nat) (a:Act) (w:World)=>Fr a 86 [(1,.pointer (some ⟨b3,0,none⟩)),(2,.pointer (some ⟨b6,0,none⟩)),(11,.slice Ac c.gs.length cc),(12,vi (c.gs.length:Int)),(13,vi (i:Int))]∧(i≤c.gs.length)∧(canF c.gs i=none)∧Blk w b3 31 [vi c.n,.slice Ac c.gs.length cc]∧Blk w b6 62 [vi 0,.slice none 0 0,.slice none 0 0]∧c.gs.length≤cc∧Below w0.heap.size w0 w) (fun (i:Nat)=>c.gs.length-i) 0 ?_ ?_
 ·exact ⟨hf.sub ⟨rfl,rfl,rfl,rfl,rfl,trivial⟩,(Nat.zero_le _),rfl,hB3,hB6,hp_c,hW⟩
 rintro i a w3 ⟨hf,hi,hpre,hB3,hB6,hp_c,hW⟩
 refine Zs hf fun _ hK9=>?_
 refine Ze (X18 rfl rfl) ?_
 refine Zt hK9 fun a hf=>?_
 refine wp_seq_k fun _ hK10=>?_
 refine Xo hf rfl (fun hc11=>?_) (fun hc11=>?_)
 ·have hc11b:=hc11
  have hc11:=of_decide_eq_true hc11
  obtain ⟨u12,hu12⟩:=X06 (l:=c.gs) (k:=i) (by omega)
  refine wp_skip ?_
  refine hK10 _ _ ?_
  refine wp_seq_k fun _ hK13=>?_
  refine wp_block ?_
  refine Zs hf fun _ hK14=>?_
  refine Zm rfl ?_
  refine Zi (k:=i) (u:=u12) (enc:=encG) (l:=c.gs) trivial rfl rfl Xg X08 Xe (hr_c.below' hW) hu12 rfl ?_;intro p16 hat15
  refine Ze (X0a (l:=[vi u12.k,vi u12.a,vi u12.b]) rfl X01 hat15 rfl) ?_
  refine Zf (X9 (zs:=[vi 0,vi 0,vi 0]) X1z rfl) ?_;rintro _ w4 ⟨b17,rfl,hl17,hE,hB17⟩
  have hlo17:=Nat.le_trans hW.size hl17
  have haw1_17:=(hr_c.below' hW).away hl17
  replace hB3:=hB3.below hE
  replace hB6:=hB6.below hE
  replace hW:=btr hW hE
  refine Za rfl ?_
  refine Zo (Vw [vi u12.k,vi u12.a,vi u12.b] X08 hB17) ?_;rintro _ w5 ⟨ho,hb⟩
  have hold:=hB17
  replace hB3:=hB3.only ho (Blk.ne hB3 hold rfl)
  replace hB6:=hB6.only ho (Blk.ne hB6 hold rfl)
  replace hW:=Below.only hW ho hlo17
  clear hold
  have hB17:=hb
  clear hb ho
  refine Zt hK14 fun a hf=>?_
  refine Zs hf fun _ hK18=>?_
  refine Zm rfl<|Ze (X07 rfl rfl (by omega) (by omega))<|Za rfl ?_
  refine Zt hK18 fun a hf=>?_
  refine wp_seq_k fun _ hK19=>?_
  refine wp_block ?_
  refine X0g (σ:=Nat) (fun (j:Nat) (a:Act) (w:World)=>Fr a 86 [(1,.pointer (some ⟨b3,0,none⟩)),(2,.pointer (some ⟨b6,0,none⟩)),(4,vi (i:Int)),(5,.pointer (some ⟨b17,0,none⟩)),(6,vi (j:Int)),(11,.slice Ac c.gs.length cc),(12,vi (c.gs.length:Int)),(13,vi (i:Int))]∧(i+1≤j∧j≤c.gs.length)∧(canJ u12 c.gs i=nextC u12 (c.gs.drop j) j)∧Blk w b3 31 [vi c.n,.slice Ac c.gs.length cc]∧Blk w b6 62 [vi 0,.slice none 0 0,.slice none 0 0]∧Blk w b17 24 [vi u12.k,vi u12.a,vi u12.b]∧c.gs.length≤cc∧Below w0.heap.size w0 w) (fun (j:Nat)=>c.gs.length-j) (i+1) ?_ ?_
  ·exact ⟨hf.sub ⟨rfl,rfl,rfl,rfl,rfl,rfl,rfl,rfl,trivial⟩,(by omega),rfl,hB3,hB6,hB17,hp_c,hW⟩
  rintro j a w6 ⟨hf,hj,hjn,hB3,hB6,hB17,hp_c,hW⟩
  refine wp_seq_k fun _ hK20=>?_
  refine wp_seq_k fun _ hK21=>?_
  refine X09 none (fun _=>false) mixed ?_
  intro w7 hE
  replace hB3:=hB3.below hE
  replace hB6:=hB6.below hE
  replace hB17:=hB17.below hE
  replace hW:=btr hW hE
  refine Yb hf ?_
  refine Yo 0 rfl (fun _=>X7 rfl)<|Yo 1 rfl (fun _=>Vd rfl X00 1)<|Ye 2 rfl (X0 rfl X0d (hB3.at 1))<|Yo 3 rfl (fun _=>X0y rfl Xg)<|Yo 4 rfl (fun _=>X18 rfl rfl) ?_
  refine Yo 5 rfl (fun _=>X7 rfl) ?_
  refine Yl 25 rfl (fun hg22=>?_) (fun hg22=>?_)
  ·have hq2:=hg22
   have hq2i:=of_decide_eq_true hg22
   obtain ⟨v9,hv9⟩:=X06 (l:=c.gs) (k:=j) (by have:=of_decide_eq_true hg22;omega)
   refine Yv 6 rfl ⟨_,_,rfl,rfl,hg22⟩ (Vn X01 hB17) ?_
   refine Yu 7 rfl ⟨_,_,rfl,rfl,hg22⟩ (fun _=>Vd rfl X00 1) ?_
   refine Yv 8 rfl ⟨_,_,rfl,rfl,hg22⟩ (X0 rfl X0d (hB3.at 1)) ?_
   refine Yu 9 rfl ⟨_,_,rfl,rfl,hg22⟩ (fun _=>X7 rfl) ?_
   refine Yi (k:=j) (u:=v9) (enc:=encG) (l:=c.gs) 10 rfl ⟨_,_,rfl,rfl,hg22⟩ rfl rfl Xg X08 Xe (hr_c.below' hW) hv9 rfl ?_;intro p24 hat23
   refine Yv 11 rfl ⟨_,_,rfl,rfl,hg22⟩ (X0a (l:=[vi v9.k,vi v9.a,vi v9.b]) rfl X01 hat23 rfl) ?_
   refine Y1 12 ?_
   refine Yk rfl ⟨_,_,rfl,rfl,hg22⟩ (Vc (Xr3 _ u12 v9) Xmc) (fun _ _ ⟨_,hE⟩=>hE) ?_;rintro _ w8 ⟨rfl,hE⟩
   replace hB3:=hB3.below hE
   replace hB6:=hB6.below hE
   replace hB17:=hB17.below hE
   replace hW:=btr hW hE
   refine Yu 13 rfl ⟨_,_,rfl,rfl,hg22⟩ (fun _=>X11 rfl) ?_
   refine Yo 14 rfl (fun _=>Xa rfl hg22 rfl) ?_
   refine Yd fun a hf=>?_
   refine hK21 _ _ ?_
   refine Xo hf rfl (fun hc25=>?_) (fun hc25=>?_)
   ·have hc25b:=hc25
    have hno9:metS u12 v9=false:=by rw [Xal];simpa using hc25
    refine wp_skip ?_
    refine hK20 _ _ ?_
    refine wp_block ?_
    refine Zr hf ?_
    refine Zm rfl<|Ze (X07 rfl rfl (by omega) (by omega))<|Za rfl ?_
    refine Zn fun a hf=>?_
    refine Xj ?_
    refine Xs ?_
    exact ⟨j+1,⟨hf.sub ⟨rfl,rfl,rfl,rfl,rfl,rfl,rfl,rfl,trivial⟩,(by omega),(hjn.trans (X8d hv9 hno9)),hB3,hB6,hB17,hp_c,hW⟩,(by omega)⟩
   have hc25b:=hc25
   have hje:canJ u12 c.gs i=j:=hjn.trans (X9g hv9 (by rw [Xal];simpa using hc25))
   refine wp_exit ?_
   refine X02 ?_
   refine X02 ?_
   refine X0f ?_
   refine hK19 _ _ ?_
   refine Zs hf fun _ hK26=>?_
   refine Ze (Vn X01 hB17) ?_
   refine Zf (Vc (Xkd _ u12 c.n (hcg _ (List.mem_of_getElem? hu12)) hcn.2) Xe7) ?_;rintro _ w9 ⟨rfl,hE⟩
   replace hB3:=hB3.below hE
   replace hB6:=hB6.below hE
   replace hB17:=hB17.below hE
   replace hW:=btr hW hE
   refine Zm rfl<|Ze (X3 (vs:=[.agg #[vi ((bkG u12).k),vi ((bkG u12).a),vi ((bkG u12).b)],vi (bkN u12),.bool true]) rfl rfl)<|Ze (X3 (vs:=[.agg #[vi ((bkG u12).k),vi ((bkG u12).a),vi ((bkG u12).b)],vi (bkN u12),.bool true]) rfl rfl)<|Ze (X3 (vs:=[.agg #[vi ((bkG u12).k),vi ((bkG u12).a),vi ((bkG u12).b)],vi (bkN u12),.bool true]) rfl rfl) ?_
   refine Zf (X9 (zs:=[vi 0,vi 0,vi 0]) X1z rfl) ?_;rintro _ w10 ⟨b27,rfl,hl27,hE,hB27⟩
   have hne17_27:b17≠b27:=by have:=hB17.lt;omega
   have hlo27:=Nat.le_trans hW.size hl27
   have haw1_27:=(hr_c.below' hW).away hl27
   replace hB3:=hB3.below hE
   replace hB6:=hB6.below hE
   replace hB17:=hB17.below hE
   replace hW:=btr hW hE
   refine Zo (Vw [vi ((bkG u12).k),vi ((bkG u12).a),vi ((bkG u12).b)] X08 hB27) ?_;rintro _ w11 ⟨ho,hb⟩
   have hold:=hB27
   replace hB3:=hB3.only ho (Blk.ne hB3 hold rfl)
   replace hB6:=hB6.only ho (Blk.ne hB6 hold rfl)
   replace hB17:=hB17.only ho (by omega)
   replace hW:=Below.only hW ho hlo27
   clear hold
   have hB27:=hb
   clear hb ho
   refine Za rfl<|Za rfl ?_
   refine Zt hK26 fun a hf=>?_
   refine wp_seq_k fun _ hK28=>?_
   refine X09 none (fun _=>false) mixed ?_
   intro w12 hE
   replace hB3:=hB3.below hE
   replace hB6:=hB6.below hE
   replace hB17:=hB17.below hE
   replace hB27:=hB27.below hE
   replace hW:=btr hW hE
   refine Yb hf ?_
   refine Yo 0 rfl (fun _=>Vd rfl X0c 0)<|Ye 1 rfl (X0 rfl X5 (hB17.at 0))<|Yo 2 rfl (fun _=>X2v rfl rfl)<|Yo 3 rfl (fun _=>X7 rfl) ?_
   refine Yl 46 rfl (fun hg29=>?_) (fun hg29=>?_)
   ·have hq1:=hg29
    refine Yu 4 rfl ⟨_,_,rfl,rfl,hg29⟩ (fun _=>X7 rfl) ?_
    refine Yu 5 rfl ⟨_,_,rfl,rfl,hg29⟩ (fun _=>Vd rfl X00 1) ?_
    refine Yv 6 rfl ⟨_,_,rfl,rfl,hg29⟩ (X0 rfl X0d (hB3.at 1)) ?_
    refine Yu 7 rfl ⟨_,_,rfl,rfl,hg29⟩ (fun _=>X0y rfl Xg) ?_
    refine Yu 8 rfl ⟨_,_,rfl,rfl,hg29⟩ (fun _=>X18 rfl rfl) ?_
    refine Yo 9 rfl (fun _=>Xa rfl hg29 rfl)<|Yo 10 rfl (fun _=>X7 rfl)<|Yu 11 rfl ⟨_,_,rfl,rfl,hg22⟩ (fun _=>X7 rfl) ?_
    refine Yu 12 rfl ⟨_,_,rfl,rfl,hg22⟩ (fun _=>X7 rfl) ?_
    refine Yu 13 rfl ⟨_,_,rfl,rfl,hg22⟩ (fun _=>X1e rfl rfl (by omega) (by omega)) ?_
    refine Yu 14 rfl ⟨_,_,rfl,rfl,hg22⟩ (fun _=>X18 rfl rfl) ?_
    refine Yo 15 rfl (fun _=>Xa rfl hg22 rfl)<|Yo 16 rfl (fun _=>X7 rfl) ?_
    refine Yl 59 rfl (fun hg30=>?_) (fun hg30=>?_)
    ·have hq3:=hg30
     refine Yu 17 rfl ⟨_,_,rfl,rfl,hg30⟩ (fun _=>Vd rfl X00 1) ?_
     refine Yv 18 rfl ⟨_,_,rfl,rfl,hg30⟩ (X0 rfl X0d (hB3.at 1)) ?_
     refine Yu 19 rfl ⟨_,_,rfl,rfl,hg30⟩ (fun _=>X7 rfl) ?_
     refine Yi (k:=j) (u:=v9) (enc:=encG) (l:=c.gs) 20 rfl ⟨_,_,rfl,rfl,hg30⟩ rfl rfl Xg X08 Xe (hr_c.below' hW) hv9 rfl ?_;intro p32 hat31
     refine Yv 21 rfl ⟨_,_,rfl,rfl,hg30⟩ (X0a (l:=[vi v9.k,vi v9.a,vi v9.b]) rfl X01 hat31 rfl) ?_
     refine Yv 22 rfl ⟨_,_,rfl,rfl,hg30⟩ (Vn X01 hB27) ?_
     refine Yu 23 rfl ⟨_,_,rfl,rfl,hg30⟩ (fun _=>Xl7 rfl rfl X81 (fun w=>X84 9998 v9 (bkG u12) w)) ?_
     refine Yo 24 rfl (fun _=>Xa rfl hg30 rfl) ?_
     refine Yd fun a hf=>?_
     refine hK28 _ _ ?_
     refine Xo hf rfl (fun hc33=>?_) (fun hc33=>?_)
     ·have hc33b:=hc33
      have hc33:=of_decide_eq_true hc33
      have hfin:canS c.gs=some (canR c.gs i j):=Xbb hpre (by rw [X7v hu12 (by rw [hje];unfold canB;rw [hq1,hq2,hq3,hv9,decide_eq_true (congrArg some hc33)];rfl),hje]) (by omega)
      refine wp_seq_k fun _ hK34=>?_
      refine X09 none (fun j=>[16].contains j) mixed ?_
      intro w13 hE
      replace hB3:=hB3.below hE
      replace hB6:=hB6.below hE
      replace hW:=btr hW hE
      refine Yb hf ?_
      refine Yo 0 rfl (fun _=>X7 rfl)<|Yo 1 rfl (fun _=>Vd rfl X00 1)<|Ye 2 rfl (X0 rfl X0d (hB3.at 1))<|Yo 3 rfl (fun _=>X7 rfl)<|Yo 4 rfl (fun _=>X7 rfl) ?_
      refine Yo 5 rfl (fun _=>X07 rfl rfl (by omega) (by omega)) ?_
      have hr35:=(((hr_c.below' hW).top).takeK Xe (j+1)).dropK Xe (c:=cc) (X4x hp_c (j+1)) i
      refine Yo 6 rfl (fun _=>X9t (l:=c.gs) (k:=i) (m:=(j+1)) rfl rfl rfl Xg X08 rfl (by omega) (by omega) (by omega) hp_c)<|Yo 8 rfl (fun _=>Vd rfl X00 1)<|Ye 9 rfl (X0 rfl X0d (hB3.at 1))<|Yo 10 rfl (fun _=>X7 rfl)<|Yo 11 rfl (fun _=>X07 rfl rfl (by omega) (by omega)) ?_
      refine Yo 12 rfl (fun _=>X7 rfl) ?_
      have hr36:=(((hr_c.below' hW).top).takeK Xe j).dropK Xe (c:=cc) (X4x hp_c j) (i+1)
      refine Yo 13 rfl (fun _=>X9t (l:=c.gs) (k:=(i+1)) (m:=j) rfl rfl rfl Xg X08 (by omega) rfl (by omega) (by omega) hp_c) ?_
      refine Y1 7 ?_
      refine Yk rfl trivial (Vc (Xkm _ (if cc=i then Ac else Ac.map (·.add (i*3))) (cc-i) ((c.gs.take (j+1)).drop i) hr35.top (by simp;omega)) Xdc) (fun _ _ ⟨A37,c37,_,ho37,hE⟩=>hE) ?_;rintro _ w14 ⟨A37,c37,rfl,ho37,hE⟩
      replace ho37:=ho37.lower hW.size
      replace hB3:=hB3.below hE
      replace hB6:=hB6.below hE
      replace hr35:=hr35.below hE
      replace hr36:=hr36.below hE
      replace hW:=btr hW hE
      refine Y1 14 ?_
      refine Yk rfl trivial (Vc (Xkm _ (if cc=(i+1) then Ac else Ac.map (·.add ((i+1)*3))) (cc-(i+1)) ((c.gs.take j).drop (i+1)) hr36.top (by simp;omega)) Xdc) (fun _ _ ⟨A38,c38,_,ho38,hE⟩=>hE) ?_;rintro _ w15 ⟨A38,c38,rfl,ho38,hE⟩
      replace ho38:=ho38.lower hW.size
      replace hB3:=hB3.below hE
      replace hB6:=hB6.below hE
      replace hr35:=hr35.below hE
      replace hr36:=hr36.below hE
      replace ho37:=ho37.below hE
      replace hW:=btr hW hE
      refine Yo 15 rfl (fun _=>Xu (ps:=[(0,vi (i:Int)),(1,.slice A37 ((c.gs.take (j+1)).drop i).length c37),(2,.slice A38 ((c.gs.take j).drop (i+1)).length c38)]) (cs:=[vi (i:Int),.slice A37 ((c.gs.take (j+1)).drop i).length c37,.slice A38 ((c.gs.take j).drop (i+1)).length c38]) rfl (fun _=>by first|rfl|kernel_rfl)) ?_
      refine Y1 16 ?_
      refine Yh rfl trivial rfl (Vw [vi (i:Int),.slice A37 ((c.gs.take (j+1)).drop i).length c37,.slice A38 ((c.gs.take j).drop (i+1)).length c38] X1u hB6) ?_;rintro _ w16 ⟨ho,hb⟩
      have hold:=hB6
      replace hB3:=hB3.only ho (Blk.ne hB3 hold rfl)
      replace hr35:=hr35.onlyT ho hold rfl
      replace hr36:=hr36.onlyT ho hold rfl
      replace ho37:=ho37.onlyT ho hold rfl
      replace ho38:=ho38.onlyT ho hold rfl
      replace hW:=Below.only hW ho hlo6
      clear hold
      have hB6:=hb
      clear hb ho
      refine Yo 17 rfl (fun _=>X12 rfl) ?_
      refine Yd fun a hf=>?_
      refine hK34 _ _ ?_
      refine wp_ret ?_
      refine X05 ?_
      refine X6 ?_
      refine X6 ?_
      refine X05 ?_
      refine X6 ?_
      refine X2 hf (X0t hf rfl (ResV.cellN (l:=[vi (i:Int),.slice A37 ((c.gs.take (j+1)).drop i).length c37,.slice A38 ((c.gs.take j).drop (i+1)).length c38]) rfl X15 (hB6.at 0) rfl) rfl) ?_
      rw [hfin]
      exact ⟨_,_,_,_,rfl,ho37.rd.top,ho38.rd.top,hW⟩
     have hc33b:=hc33
     have hc33:=of_decide_eq_false hc33
     have hno:canAt c.gs i=none:=X1q hu12 (by rw [hje];unfold canB;rw [hv9,decide_eq_false (fun e9=>hc33 (Option.some.inj e9))];simp)
     refine wp_skip ?_
     refine Xj ?_
     refine hK13 _ _ ?_
     refine Zr hf ?_
     refine Ze (X07 rfl rfl (by omega) (by omega))<|Zm rfl ?_
     refine Zn fun a hf=>?_
     refine Xs ?_
     exact ⟨i+1,⟨hf.sub ⟨rfl,rfl,rfl,rfl,rfl,trivial⟩,(by omega),(X1w hpre hno),hB3,hB6,hp_c,hW⟩,(by omega)⟩
    have hq3:=hg30
    have hno:canAt c.gs i=none:=X1q hu12 (by rw [hje];unfold canB;rw [hq3];simp)
    refine Yp 17 rfl ⟨_,_,rfl,rfl,hg30⟩ ?_
    refine Yp 18 rfl ⟨_,_,rfl,rfl,hg30⟩ ?_
    refine Yp 19 rfl ⟨_,_,rfl,rfl,hg30⟩ ?_
    refine Yp 20 rfl ⟨_,_,rfl,rfl,hg30⟩ ?_
    refine Yp 21 rfl ⟨_,_,rfl,rfl,hg30⟩ ?_
    refine Yp 22 rfl ⟨_,_,rfl,rfl,hg30⟩ ?_
    refine Yp 23 rfl ⟨_,_,rfl,rfl,hg30⟩ ?_
    refine Yo 24 rfl (fun _=>Xc rfl hg30 rfl) ?_
    refine Yd fun a hf=>?_
    refine hK28 _ _ ?_
    refine X2q hf rfl ?_
    refine wp_skip ?_
    refine Xj ?_
    refine hK13 _ _ ?_
    refine Zr hf ?_
    refine Ze (X07 rfl rfl (by omega) (by omega))<|Zm rfl ?_
    refine Zn fun a hf=>?_
    refine Xs ?_
    exact ⟨i+1,⟨hf.sub ⟨rfl,rfl,rfl,rfl,rfl,trivial⟩,(by omega),(X1w hpre hno),hB3,hB6,hp_c,hW⟩,(by omega)⟩
   have hq1:=hg29
   have hno:canAt c.gs i=none:=X1q hu12 (by rw [hje];unfold canB;rw [hq1];simp)
   refine Yp 4 rfl ⟨_,_,rfl,rfl,hg29⟩ ?_
   refine Yp 5 rfl ⟨_,_,rfl,rfl,hg29⟩ ?_
   refine Yp 6 rfl ⟨_,_,rfl,rfl,hg29⟩ ?_
   refine Yp 7 rfl ⟨_,_,rfl,rfl,hg29⟩ ?_
   refine Yp 8 rfl ⟨_,_,rfl,rfl,hg29⟩ ?_
   refine Yo 9 rfl (fun _=>Xc rfl hg29 rfl)<|Yo 10 rfl (fun _=>X7 rfl)<|Yp 11 rfl ⟨_,_,rfl,rfl,rfl⟩ ?_
   refine Yp 12 rfl ⟨_,_,rfl,rfl,rfl⟩ ?_
   refine Yp 13 rfl ⟨_,_,rfl,rfl,rfl⟩ ?_
   refine Yp 14 rfl ⟨_,_,rfl,rfl,rfl⟩ ?_
   refine Yo 15 rfl (fun _=>Xc rfl rfl rfl)<|Yo 16 rfl (fun _=>X7 rfl)<|Yp 17 rfl ⟨_,_,rfl,rfl,rfl⟩ ?_
   refine Yp 18 rfl ⟨_,_,rfl,rfl,rfl⟩ ?_
   refine Yp 19 rfl ⟨_,_,rfl,rfl,rfl⟩ ?_
   refine Yp 20 rfl ⟨_,_,rfl,rfl,rfl⟩ ?_
   refine Yp 21 rfl ⟨_,_,rfl,rfl,rfl⟩ ?_
   refine Yp 22 rfl ⟨_,_,rfl,rfl,rfl⟩ ?_
   refine Yp 23 rfl ⟨_,_,rfl,rfl,rfl⟩ ?_
   refine Yo 24 rfl (fun _=>Xc rfl rfl rfl) ?_
   refine Yd fun a hf=>?_
   refine hK28 _ _ ?_
   refine X2q hf rfl ?_
   refine wp_skip ?_
   refine Xj ?_
   refine hK13 _ _ ?_
   refine Zr hf ?_
   refine Ze (X07 rfl rfl (by omega) (by omega))<|Zm rfl ?_
   refine Zn fun a hf=>?_
   refine Xs ?_
   exact ⟨i+1,⟨hf.sub ⟨rfl,rfl,rfl,rfl,rfl,trivial⟩,(by omega),(X1w hpre hno),hB3,hB6,hp_c,hW⟩,(by omega)⟩
  have hq2:=hg22
  have hq2i:=of_decide_eq_false hg22
  have hje:canJ u12 c.gs i=j:=hjn.trans (X9o (by have:=of_decide_eq_false hg22;omega))
  have hno:canAt c.gs i=none:=X1q hu12 (by rw [hje];unfold canB;rw [hq2];simp)
  refine Yp 6 rfl ⟨_,_,rfl,rfl,hg22⟩ ?_
  refine Yp 7 rfl ⟨_,_,rfl,rfl,hg22⟩ ?_
  refine Yp 8 rfl ⟨_,_,rfl,rfl,hg22⟩ ?_
  refine Yp 9 rfl ⟨_,_,rfl,rfl,hg22⟩ ?_
  refine Yp 10 rfl ⟨_,_,rfl,rfl,hg22⟩ ?_
  refine Yp 11 rfl ⟨_,_,rfl,rfl,hg22⟩ ?_
  refine Y1 12 ?_
  refine Yq rfl ⟨_,_,rfl,rfl,hg22⟩ ?_
  refine Yp 13 rfl ⟨_,_,rfl,rfl,hg22⟩ ?_
  refine Yo 14 rfl (fun _=>Xc rfl hg22 rfl) ?_
  refine Yd fun a hf=>?_
  refine hK21 _ _ ?_
  refine X2q hf rfl ?_
  refine wp_exit ?_
  refine X02 ?_
  refine X02 ?_
  refine X0f ?_
  refine hK19 _ _ ?_
  refine Zs hf fun _ hK41=>?_
  refine Ze (Vn X01 hB17) ?_
  refine Zf (Vc (Xkd _ u12 c.n (hcg _ (List.mem_of_getElem? hu12)) hcn.2) Xe7) ?_;rintro _ w17 ⟨rfl,hE⟩
  replace hB3:=hB3.below hE
  replace hB6:=hB6.below hE
  replace hB17:=hB17.below hE
  replace hW:=btr hW hE
  refine Zm rfl<|Ze (X3 (vs:=[.agg #[vi ((bkG u12).k),vi ((bkG u12).a),vi ((bkG u12).b)],vi (bkN u12),.bool true]) rfl rfl)<|Ze (X3 (vs:=[.agg #[vi ((bkG u12).k),vi ((bkG u12).a),vi ((bkG u12).b)],vi (bkN u12),.bool true]) rfl rfl)<|Ze (X3 (vs:=[.agg #[vi ((bkG u12).k),vi ((bkG u12).a),vi ((bkG u12).b)],vi (bkN u12),.bool true]) rfl rfl) ?_
  refine Zf (X9 (zs:=[vi 0,vi 0,vi 0]) X1z rfl) ?_;rintro _ w18 ⟨b42,rfl,hl42,hE,hB42⟩
  have hne17_42:b17≠b42:=by have:=hB17.lt;omega
  have hlo42:=Nat.le_trans hW.size hl42
  have haw1_42:=(hr_c.below' hW).away hl42
  replace hB3:=hB3.below hE
  replace hB6:=hB6.below hE
  replace hB17:=hB17.below hE
  replace hW:=btr hW hE
  refine Zo (Vw [vi ((bkG u12).k),vi ((bkG u12).a),vi ((bkG u12).b)] X08 hB42) ?_;rintro _ w19 ⟨ho,hb⟩
  have hold:=hB42
  replace hB3:=hB3.only ho (Blk.ne hB3 hold rfl)
  replace hB6:=hB6.only ho (Blk.ne hB6 hold rfl)
  replace hB17:=hB17.only ho (by omega)
  replace hW:=Below.only hW ho hlo42
  clear hold
  have hB42:=hb
  clear hb ho
  refine Za rfl<|Za rfl ?_
  refine Zt hK41 fun a hf=>?_
  refine wp_seq_k fun _ hK43=>?_
  refine X09 none (fun _=>false) mixed ?_
  intro w20 hE
  replace hB3:=hB3.below hE
  replace hB6:=hB6.below hE
  replace hB17:=hB17.below hE
  replace hB42:=hB42.below hE
  replace hW:=btr hW hE
  refine Yb hf ?_
  refine Yo 0 rfl (fun _=>Vd rfl X0c 0)<|Ye 1 rfl (X0 rfl X5 (hB17.at 0))<|Yo 2 rfl (fun _=>X2v rfl rfl)<|Yo 3 rfl (fun _=>X7 rfl) ?_
  refine Yl 46 rfl (fun hg44=>?_) (fun hg44=>?_)
  ·have hq1:=hg44
   refine Yu 4 rfl ⟨_,_,rfl,rfl,hg44⟩ (fun _=>X7 rfl) ?_
   refine Yu 5 rfl ⟨_,_,rfl,rfl,hg44⟩ (fun _=>Vd rfl X00 1) ?_
   refine Yv 6 rfl ⟨_,_,rfl,rfl,hg44⟩ (X0 rfl X0d (hB3.at 1)) ?_
   refine Yu 7 rfl ⟨_,_,rfl,rfl,hg44⟩ (fun _=>X0y rfl Xg) ?_
   refine Yu 8 rfl ⟨_,_,rfl,rfl,hg44⟩ (fun _=>X18 rfl rfl) ?_
   refine Yo 9 rfl (fun _=>Xa rfl hg44 rfl)<|Yo 10 rfl (fun _=>X7 rfl)<|Yp 11 rfl ⟨_,_,rfl,rfl,hg22⟩ ?_
   refine Yp 12 rfl ⟨_,_,rfl,rfl,hg22⟩ ?_
   refine Yp 13 rfl ⟨_,_,rfl,rfl,hg22⟩ ?_
   refine Yp 14 rfl ⟨_,_,rfl,rfl,hg22⟩ ?_
   refine Yo 15 rfl (fun _=>Xc rfl hg22 rfl)<|Yo 16 rfl (fun _=>X7 rfl)<|Yp 17 rfl ⟨_,_,rfl,rfl,rfl⟩ ?_
   refine Yp 18 rfl ⟨_,_,rfl,rfl,rfl⟩ ?_
   refine Yp 19 rfl ⟨_,_,rfl,rfl,rfl⟩ ?_
   refine Yp 20 rfl ⟨_,_,rfl,rfl,rfl⟩ ?_
   refine Yp 21 rfl ⟨_,_,rfl,rfl,rfl⟩ ?_
   refine Yp 22 rfl ⟨_,_,rfl,rfl,rfl⟩ ?_
   refine Yp 23 rfl ⟨_,_,rfl,rfl,rfl⟩ ?_
   refine Yo 24 rfl (fun _=>Xc rfl rfl rfl) ?_
   refine Yd fun a hf=>?_
   refine hK43 _ _ ?_
   refine X2q hf rfl ?_
   refine wp_skip ?_
   refine Xj ?_
   refine hK13 _ _ ?_
   refine Zr hf ?_
   refine Ze (X07 rfl rfl (by omega) (by omega))<|Zm rfl ?_
   refine Zn fun a hf=>?_
   refine Xs ?_
   exact ⟨i+1,⟨hf.sub ⟨rfl,rfl,rfl,rfl,rfl,trivial⟩,(by omega),(X1w hpre hno),hB3,hB6,hp_c,hW⟩,(by omega)⟩
  have hq1:=hg44
  have hno:canAt c.gs i=none:=X1q hu12 (by rw [hje];unfold canB;rw [hq1];simp)
  refine Yp 4 rfl ⟨_,_,rfl,rfl,hg44⟩ ?_
  refine Yp 5 rfl ⟨_,_,rfl,rfl,hg44⟩ ?_
  refine Yp 6 rfl ⟨_,_,rfl,rfl,hg44⟩ ?_
  refine Yp 7 rfl ⟨_,_,rfl,rfl,hg44⟩ ?_
  refine Yp 8 rfl ⟨_,_,rfl,rfl,hg44⟩ ?_
  refine Yo 9 rfl (fun _=>Xc rfl hg44 rfl)<|Yo 10 rfl (fun _=>X7 rfl)<|Yp 11 rfl ⟨_,_,rfl,rfl,rfl⟩ ?_
  refine Yp 12 rfl ⟨_,_,rfl,rfl,rfl⟩ ?_
  refine Yp 13 rfl ⟨_,_,rfl,rfl,rfl⟩ ?_
  refine Yp 14 rfl ⟨_,_,rfl,rfl,rfl⟩ ?_
  refine Yo 15 rfl (fun _=>Xc rfl rfl rfl)<|Yo 16 rfl (fun _=>X7 rfl)<|Yp 17 rfl ⟨_,_,rfl,rfl,rfl⟩ ?_
  refine Yp 18 rfl ⟨_,_,rfl,rfl,rfl⟩ ?_
  refine Yp 19 rfl ⟨_,_,rfl,rfl,rfl⟩ ?_
  refine Yp 20 rfl ⟨_,_,rfl,rfl,rfl⟩ ?_
  refine Yp 21 rfl ⟨_,_,rfl,rfl,rfl⟩ ?_
  refine Yp 22 rfl ⟨_,_,rfl,rfl,rfl⟩ ?_
  refine Yp 23 rfl ⟨_,_,rfl,rfl,rfl⟩ ?_
  refine Yo 24 rfl (fun _=>Xc rfl rfl rfl) ?_
  refine Yd fun a hf=>?_
  refine hK43 _ _ ?_
  refine X2q hf rfl ?_
  refine wp_skip ?_
  refine Xj ?_
  refine hK13 _ _ ?_
  refine Zr hf ?_
  refine Ze (X07 rfl rfl (by omega) (by omega))<|Zm rfl ?_
  refine Zn fun a hf=>?_
  refine Xs ?_
  exact ⟨i+1,⟨hf.sub ⟨rfl,rfl,rfl,rfl,rfl,trivial⟩,(by omega),(X1w hpre hno),hB3,hB6,hp_c,hW⟩,(by omega)⟩
 have hc11b:=hc11
 have hc11:=of_decide_eq_false hc11
 have hfin:canS c.gs=none:=by rw [canS,← show i=c.gs.length by omega];exact hpre
 refine wp_exit ?_
 refine X02 ?_
 refine X02 ?_
 refine X0f ?_
 refine hK7 _ _ ?_
 refine Zs hf fun _ hK45=>?_
 refine Ze (Xu (ps:=[]) (cs:=[vi 0,.slice none 0 0,.slice none 0 0]) rfl (fun _=>by first|rfl|kernel_rfl)) ?_
 refine Zo (Vw [vi 0,.slice none 0 0,.slice none 0 0] X1u hB6) ?_;rintro _ w21 ⟨ho,hb⟩
 have hold:=hB6
 replace hB3:=hB3.only ho (Blk.ne hB3 hold rfl)
 replace hW:=Below.only hW ho hlo6
 clear hold
 have hB6:=hb
 clear hb ho
 refine Za rfl ?_
 refine Zt hK45 fun a hf=>?_
 refine wp_ret (X2 hf (X0t hf rfl (ResV.cellN (l:=[vi 0,.slice none 0 0,.slice none 0 0]) rfl X15 (hB6.at 0) rfl) rfl) ?_)
 rw [hfin]
 exact ⟨_,_,_,_,rfl,(Rd.nil _ _ _ _ _),(Rd.nil _ _ _ _ _),hW⟩
end Go.Proofs.YtlfjcmldfbfdbaaGreat
set_option maxHeartbeats 1000000
set_option maxRecDepth 4000
namespace Go.Proofs.YtlfjcmldfbfdbaaGreat
open Go.RowKit
theorem Xpo(w0:World)(c:Cx)(Ac:Option Addr)(cc:Nat)(hr_c:Rd w0 w0.heap.size 24 encG Ac c.gs)(hp_c:c.gs.length≤cc)(hc:cOk c=true) : Ret Tryz.prog 92 [.agg #[vi c.n,.slice Ac c.gs.length cc],.func (.func 93) #[] #[]] w0 (fun v w=>∃ (l:List Sr) (A:Option Addr) (e:Nat) (B:Option Addr) (f:Nat) (D:Option Addr) (g:Nat),v=.tuple #[.agg #[vi (canC c).1.n,.slice A (canC c).1.gs.length e,.slice B l.length f,vi (canC c).2.2.n,.slice D (canC c).2.2.gs.length g],.bool (cOk c)]∧l.map Sr.rp=(canC c).2.1∧((canC c).1.gs.length≤e∧(canC c).2.2.gs.length≤g)∧Rd w w.heap.size 24 encG A (canC c).1.gs∧Rd w w.heap.size 24 encG D (canC c).2.2.gs∧Own w w0.heap.size 62 3 encSr B f l∧DeepR w w.heap.size 24 l∧Below w0.heap.size w0 w):=by
 have hlc:=X5h hc
 have hcf:cIf c=some c:=by unfold cIf;rw [if_pos hc]
 refine enter Tryz.func92 rfl 62 rfl rfl ?_
 intro a hf
 have hW:Below w0.heap.size w0 w0:=Below.refl _ _
 refine Zs hf fun _ hK2=>?_
 refine Zf (X0j (zs:=[vi c.n,.slice Ac c.gs.length cc]) rfl rfl) ?_;rintro _ w1 ⟨b3,rfl,hl3,hE,hB3⟩
 have hlo3:=Nat.le_trans hW.size hl3
 replace hW:=btr hW hE
 refine Zf (X9 (zs:=[vi 0,.slice none 0 0,.slice none 0 0,vi 0,.slice none 0 0]) Xar rfl) ?_;rintro _ w2 ⟨b7,rfl,hl7,hE,hB7⟩
 have hlo7:=Nat.le_trans hW.size hl7
 replace hB3:=hB3.below hE
 replace hW:=btr hW hE
 refine Za rfl ?_
 refine Zt hK2 fun a hf=>?_
 refine Zs hf fun _ hK8=>?_
 refine Ze (Vd rfl X17 0)<|Ze (X0 rfl X5 (hB3.at 0))<|Ze (Vd rfl X00 1)<|Ze (X0 rfl X0d (hB3.at 1)) ?_
 refine Zf (Vc (Xna _ c.n Ac cc c.gs (hr_c.below' hW).top (by omega)) Xd8) ?_;rintro _ w3 ⟨A9,c9,rfl,ho9,hE⟩
 replace ho9:=ho9.lower hW.size
 replace hB3:=hB3.below hE
 replace hB7:=hB7.below hE
 replace hW:=btr hW hE
 have hcf':cIf ⟨c.n,c.gs⟩=some c:=hcf
 refine Zm rfl<|Ze (X3 (vs:=[.agg #[vi (((cIf ⟨c.n,c.gs⟩).getD cZ).n),.slice A9 (((cIf ⟨c.n,c.gs⟩).getD cZ).gs).length c9],.bool ((cIf ⟨c.n,c.gs⟩).isSome)]) rfl rfl)<|Ze (X3 (vs:=[.agg #[vi (((cIf ⟨c.n,c.gs⟩).getD cZ).n),.slice A9 (((cIf ⟨c.n,c.gs⟩).getD cZ).gs).length c9],.bool ((cIf ⟨c.n,c.gs⟩).isSome)]) rfl rfl) ?_
 refine Zf (X9 (zs:=[vi 0,.slice none 0 0]) X2x rfl) ?_;rintro _ w4 ⟨b11,rfl,hl11,hE,hB11⟩
 have hne3_11:b3≠b11:=by have:=hB3.lt;omega
 have hlo11:=Nat.le_trans hW.size hl11
 replace hB3:=hB3.below hE
 replace hB7:=hB7.below hE
 replace ho9:=ho9.below hE
 replace hW:=btr hW hE
 refine Zo (Vw [vi (((cIf ⟨c.n,c.gs⟩).getD cZ).n),.slice A9 (((cIf ⟨c.n,c.gs⟩).getD cZ).gs).length c9] X1c hB11) ?_;rintro _ w5 ⟨ho,hb⟩
 have hold:=hB11
 replace hB3:=hB3.only ho (by omega)
 replace hB7:=hB7.only ho (Blk.ne hB7 hold rfl)
 replace ho9:=ho9.onlyT ho hold rfl
 replace hW:=Below.only hW ho hlo11
 clear hold
 have hB11:=hb
 clear hb ho
 refine Za rfl ?_
 refine Zt hK8 fun a hf=>?_
 refine Zs hf fun _ hK12=>?_
 refine Ze (Vn X0p hB11)<|Ze (Vn X0p hB11)<|Ze (Xu (ps:=[(0,.agg #[vi (((cIf ⟨c.n,c.gs⟩).getD cZ).n),.slice A9 (((cIf ⟨c.n,c.gs⟩).getD cZ).gs).length c9]),(2,.agg #[vi (((cIf ⟨c.n,c.gs⟩).getD cZ).n),.slice A9 (((cIf ⟨c.n,c.gs⟩).getD cZ).gs).length c9])]) (cs:=[vi (((cIf ⟨c.n,c.gs⟩).getD cZ).n),.slice A9 (((cIf ⟨c.n,c.gs⟩).getD cZ).gs).length c9,.slice none 0 0,vi (((cIf ⟨c.n,c.gs⟩).getD cZ).n),.slice A9 (((cIf ⟨c.n,c.gs⟩).getD cZ).gs).length c9]) rfl (fun _=>by first|rfl|kernel_rfl)) ?_
 refine Zf (X9 (zs:=[vi 0,.slice none 0 0,.slice none 0 0,vi 0,.slice none 0 0]) Xar rfl) ?_;rintro _ w6 ⟨b19,rfl,hl19,hE,hB19⟩
 have hne7_19:b7≠b19:=by have:=hB7.lt;omega
 have hlo19:=Nat.le_trans hW.size hl19
 replace hB3:=hB3.below hE
 replace hB7:=hB7.below hE
 replace hB11:=hB11.below hE
 replace ho9:=ho9.below hE
 replace hW:=btr hW hE
 refine Zo (Vw [vi (((cIf ⟨c.n,c.gs⟩).getD cZ).n),.slice A9 (((cIf ⟨c.n,c.gs⟩).getD cZ).gs).length c9,.slice none 0 0,vi (((cIf ⟨c.n,c.gs⟩).getD cZ).n),.slice A9 (((cIf ⟨c.n,c.gs⟩).getD cZ).gs).length c9] X66 hB19) ?_;rintro _ w7 ⟨ho,hb⟩
 have hold:=hB19
 replace hB3:=hB3.only ho (Blk.ne hB3 hold rfl)
 replace hB7:=hB7.only ho (by omega)
 replace hB11:=hB11.only ho (Blk.ne hB11 hold rfl)
 replace ho9:=ho9.onlyT ho hold rfl
 replace hW:=Below.only hW ho hlo19
 clear hold
 have hB19:=hb
 clear hb ho
 refine Zt hK12 fun a hf=>?_
 refine wp_block ?_
 refine X0g (σ:=(List Sr)×Int×(List Gt)×Nat) (fun (s:(List Sr)×Int×(List Gt)×Nat) (a:Act) (w:World)=>match s with|(l,n1,gs,k)=>∃ A20 c20 A21 c21,Fr a 62 [(1,.func (.func 93) #[] #[]),(2,.pointer (some ⟨b3,0,none⟩)),(4,.pointer (some ⟨b7,0,none⟩)),(8,.pointer (some ⟨b19,0,none⟩))]∧(CanI c l ⟨n1,gs⟩ k)∧Blk w b3 31 [vi c.n,.slice Ac c.gs.length cc]∧Blk w b7 46 [vi 0,.slice none 0 0,.slice none 0 0,vi 0,.slice none 0 0]∧Blk w b19 46 [vi (((cIf ⟨c.n,c.gs⟩).getD cZ).n),.slice A9 (((cIf ⟨c.n,c.gs⟩).getD cZ).gs).length c9,.slice A20 l.length c20,vi n1,.slice A21 gs.length c21]∧Own w w0.heap.size 24 3 encG A9 c9 (((cIf ⟨c.n,c.gs⟩).getD cZ).gs)∧Own w w0.heap.size 62 3 encSr A20 c20 l∧Rd w w.heap.size 24 encG A21 gs∧c.gs.length≤cc∧DeepR w w.heap.size 24 l∧gs.length≤c21∧Below w0.heap.size w0 w) (fun (s:(List Sr)×Int×(List Gt)×Nat)=>match s with|(l,n1,gs,k)=>k) ([],((cIf ⟨c.n,c.gs⟩).getD cZ).n,((cIf ⟨c.n,c.gs⟩).getD cZ).gs,c.gs.length) ?_ ?_
 ·exact ⟨none,0,A9,c9,hf.sub ⟨rfl,rfl,rfl,rfl,trivial⟩,(by rw [hcf'];exact CanI.start hc),hB3,hB7,hB19,ho9,(Own.nil _ _ _ _ _),ho9.rd,hp_c,(DeepR.nil _ _ _),ho9.cap,hW⟩
 rintro ⟨l,n1,gs,k⟩ a w8 ⟨A20,c20,A21,c21,hf,hin,hB3,hB7,hB19,ho9,ho20,hr21,hp_c,hdp20,hcp21,hW⟩
 refine wp_block ?_
 refine Zs hf fun _ hK22=>?_
 refine Zm rfl<|Ze (Vd rfl X1s 3)<|Ze (X0a (l:=[vi n1,.slice A21 gs.length c21]) rfl X0p ((hB19.at 3).take 2) rfl) ?_
 refine Zf (X6z (cs:=[]) (vs:=[.agg #[vi n1,.slice A21 gs.length c21]]) rfl rfl Xk2 (Xpw _ (⟨n1,gs⟩ : Cx) A21 c21 hr21.top hcp21 hin.ok)) ?_;rintro _ w9 ⟨A23,c23,A24,c24,rfl,hr23,hr24,hE⟩
 replace hB3:=hB3.below hE
 replace hB7:=hB7.below hE
 replace hB19:=hB19.below hE
 replace ho9:=ho9.below hE
 replace ho20:=ho20.below hE
 replace hr21:=hr21.below hE
 replace hdp20:=hdp20.below hE
 replace hW:=btr hW hE
 refine Zm rfl<|Ze (X3 (vs:=[.agg #[vi (((canS (⟨n1,gs⟩ : Cx).gs).getD rpZ).pos),.slice A23 (((canS (⟨n1,gs⟩ : Cx).gs).getD rpZ).old).length c23,.slice A24 (((canS (⟨n1,gs⟩ : Cx).gs).getD rpZ).new).length c24],.bool ((canS (⟨n1,gs⟩ : Cx).gs).isSome)]) rfl rfl)<|Ze (X3 (vs:=[.agg #[vi (((canS (⟨n1,gs⟩ : Cx).gs).getD rpZ).pos),.slice A23 (((canS (⟨n1,gs⟩ : Cx).gs).getD rpZ).old).length c23,.slice A24 (((canS (⟨n1,gs⟩ : Cx).gs).getD rpZ).new).length c24],.bool ((canS (⟨n1,gs⟩ : Cx).gs).isSome)]) rfl rfl) ?_
 refine Zf (X9 (zs:=[vi 0,.slice none 0 0,.slice none 0 0]) X7g rfl) ?_;rintro _ w10 ⟨b27,rfl,hl27,hE,hB27⟩
 have hlo27:=Nat.le_trans hW.size hl27
 have haw20_27:=ho20.away hl27
 replace hB3:=hB3.below hE
 replace hB7:=hB7.below hE
 replace hB19:=hB19.below hE
 replace ho9:=ho9.below hE
 replace ho20:=ho20.below hE
 replace hr21:=hr21.below hE
 replace hr23:=hr23.below hE
 replace hr24:=hr24.below hE
 replace hdp20:=hdp20.below hE
 replace hW:=btr hW hE
 refine Zo (Vw [vi (((canS (⟨n1,gs⟩ : Cx).gs).getD rpZ).pos),.slice A23 (((canS (⟨n1,gs⟩ : Cx).gs).getD rpZ).old).length c23,.slice A24 (((canS (⟨n1,gs⟩ : Cx).gs).getD rpZ).new).length c24] X1u hB27) ?_;rintro _ w11 ⟨ho,hb⟩
 have hold:=hB27
 replace hB3:=hB3.only ho (Blk.ne hB3 hold rfl)
 replace hB7:=hB7.only ho (Blk.ne hB7 hold rfl)
 replace hB19:=hB19.only ho (Blk.ne hB19 hold rfl)
 replace ho9:=ho9.onlyT ho hold rfl
 replace ho20:=ho20.onlyA ho haw20_27
 replace hr21:=hr21.onlyT ho hold rfl
 replace hr23:=hr23.onlyT ho hold rfl
 replace hr24:=hr24.onlyT ho hold rfl
 replace hdp20:=hdp20.onlyT ho hold rfl
 replace hW:=Below.only hW ho hlo27
 clear hold
 have hB27:=hb
 clear hb ho
 refine Za rfl ?_
 refine Zt hK22 fun a hf=>?_
 refine wp_seq_k fun _ hK28=>?_
 refine Zs hf fun _ hK29=>?_
 refine Zm rfl<|Ze (X11 rfl) ?_
 refine Zt hK29 fun a hf=>?_
 refine Xo hf rfl (fun hc30=>?_) (fun hc30=>?_)
 ·have hc30b:=hc30
  have hno:canS gs=none:=by revert hc30;cases canS gs<;>simp
  have hfin:=hin.done hc hno
  have hnn:n1=c.n:=hin.n
  refine Zs hf fun _ hK31=>?_
  refine Ze (Vd rfl X17 0)<|Ze (X0 rfl X5 (hB3.at 0))<|Ze (Vd rfl X1s 3)<|Ze (Vd rfl X00 4)<|Ze (X0 rfl X0d (hB19.at 4)) ?_
  refine Zf (Vc (Xna _ c.n A21 c21 gs hr21.top (by have:=hin.len;dsimp only at this;omega)) Xd8) ?_;rintro _ w12 ⟨A32,c32,rfl,ho32,hE⟩
  replace ho32:=ho32.lower hW.size
  replace hB3:=hB3.below hE
  replace hB7:=hB7.below hE
  replace hB19:=hB19.below hE
  replace hB27:=hB27.below hE
  replace ho9:=ho9.below hE
  replace ho20:=ho20.below hE
  replace hr21:=hr21.below hE
  replace hr23:=hr23.below hE
  replace hr24:=hr24.below hE
  replace hdp20:=hdp20.below hE
  replace hW:=btr hW hE
  have hcd:cIf ⟨c.n,gs⟩=some ⟨c.n,gs⟩:=by unfold cIf;rw [if_pos (by have:=hin.ok;have h9:=hin.n;dsimp only at h9;rw [h9] at this;exact this)]
  refine Zm rfl<|Ze (X3 (vs:=[.agg #[vi (((cIf ⟨c.n,gs⟩).getD cZ).n),.slice A32 (((cIf ⟨c.n,gs⟩).getD cZ).gs).length c32],.bool ((cIf ⟨c.n,gs⟩).isSome)]) rfl rfl)<|Ze (X3 (vs:=[.agg #[vi (((cIf ⟨c.n,gs⟩).getD cZ).n),.slice A32 (((cIf ⟨c.n,gs⟩).getD cZ).gs).length c32],.bool ((cIf ⟨c.n,gs⟩).isSome)]) rfl rfl)<|Ze (Vd rfl X1s 3) ?_
  refine Zo (Vu (vs:=[vi (((cIf ⟨c.n,gs⟩).getD cZ).n),.slice A32 (((cIf ⟨c.n,gs⟩).getD cZ).gs).length c32]) (l':=[vi (((cIf ⟨c.n,c.gs⟩).getD cZ).n),.slice A9 (((cIf ⟨c.n,c.gs⟩).getD cZ).gs).length c9,.slice A20 l.length c20,vi (((cIf ⟨c.n,gs⟩).getD cZ).n),.slice A32 (((cIf ⟨c.n,gs⟩).getD cZ).gs).length c32]) rfl rfl X1c hB19) ?_;rintro _ w13 ⟨ho,hb⟩
  have hold:=hB19
  replace hB3:=hB3.only ho (Blk.ne hB3 hold rfl)
  replace hB7:=hB7.only ho (by omega)
  replace hB27:=hB27.only ho (Blk.ne hB27 hold rfl)
  replace ho9:=ho9.onlyT ho hold rfl
  replace ho20:=ho20.onlyT ho hold rfl
  replace hr21:=hr21.onlyT ho hold rfl
  replace hr23:=hr23.onlyT ho hold rfl
  replace hr24:=hr24.onlyT ho hold rfl
  replace ho32:=ho32.onlyT ho hold rfl
  replace hdp20:=hdp20.onlyT ho hold rfl
  replace hW:=Below.only hW ho hlo19
  clear hold
  have hB19:=hb
  clear hb ho
  refine Zt hK31 fun a hf=>?_
  refine Zs hf fun _ hK33=>?_
  refine Ze (Vn X68 hB19) ?_
  refine Zo (Vw [vi (((cIf ⟨c.n,c.gs⟩).getD cZ).n),.slice A9 (((cIf ⟨c.n,c.gs⟩).getD cZ).gs).length c9,.slice A20 l.length c20,vi (((cIf ⟨c.n,gs⟩).getD cZ).n),.slice A32 (((cIf ⟨c.n,gs⟩).getD cZ).gs).length c32] X66 hB7) ?_;rintro _ w14 ⟨ho,hb⟩
  have hold:=hB7
  replace hB19:=hB19.only ho (by omega)
  replace ho9:=ho9.onlyT ho hold rfl
  replace ho20:=ho20.onlyT ho hold rfl
  replace ho32:=ho32.onlyT ho hold rfl
  replace hdp20:=hdp20.onlyT ho hold rfl
  replace hW:=Below.only hW ho hlo7
  clear hold
  have hB7:=hb
  clear hb ho
  refine Za rfl ?_
  refine Zt hK33 fun a hf=>?_
  refine wp_ret ?_
  refine X6 ?_
  refine X05 ?_
  refine X6 ?_
  refine X05 ?_
  refine X2 hf (X0t hf rfl (ResV.cellN (l:=[vi (((cIf ⟨c.n,c.gs⟩).getD cZ).n),.slice A9 (((cIf ⟨c.n,c.gs⟩).getD cZ).gs).length c9,.slice A20 l.length c20,vi (((cIf ⟨c.n,gs⟩).getD cZ).n),.slice A32 (((cIf ⟨c.n,gs⟩).getD cZ).gs).length c32]) rfl X68 (hB7.at 0) rfl) rfl) ?_
  rw [hfin,hc,hnn]
  rw [hcf'] at *
  rw [hcd] at *
  exact ⟨l,_,_,_,_,_,_,rfl,rfl,⟨ho9.cap,ho32.cap⟩,ho9.rd.top,ho32.rd.top,ho20,(hdp20.top),hW⟩
 have hc30b:=hc30
 have hlen:l.length+gs.length≤c.gs.length:=hin.len
 have hr9:canS gs=some ((canS gs).getD rpZ):=by revert hc30;cases canS gs<;>simp
 obtain ⟨e9,ha9,_,_,_,hl41,hl42⟩:=X6x hin.ok hr9
 have hap:applyI ⟨n1,gs⟩ ((canS gs).getD rpZ)=some e9:=by rw [(X49 hin.ok).1];exact ha9
 have hap2:(applyI ⟨n1,gs⟩ ((canS gs).getD rpZ)).getD cZ=(applyS ⟨n1,gs⟩ ((canS gs).getD rpZ)).getD cZ:=by rw [(X49 hin.ok).1]
 refine wp_skip ?_
 refine hK28 _ _ ?_
 refine Zs hf fun _ hK34=>?_
 refine Ze (Vd rfl X1s 3)<|Ze (X0a (l:=[vi n1,.slice A21 gs.length c21]) rfl X0p ((hB19.at 3).take 2) rfl)<|Ze (Vn X15 hB27) ?_
 refine Zf (Vc (F66 _ (⟨n1,gs⟩ : Cx) A21 c21 hr21.top hcp21 ((canS (⟨n1,gs⟩ : Cx).gs).getD rpZ) A23 c23 hr23.top A24 c24 hr24.top (by have:=hin.len;dsimp only at this ⊢;omega) (Nat.le_trans hl41 (by decide)) (Nat.le_trans hl42 (by decide))) Xon) ?_;rintro _ w15 ⟨A35,c35,rfl,ho35,hE⟩
 replace ho35:=ho35.lower hW.size
 replace hB3:=hB3.below hE
 replace hB7:=hB7.below hE
 replace hB19:=hB19.below hE
 replace hB27:=hB27.below hE
 replace ho9:=ho9.below hE
 replace ho20:=ho20.below hE
 replace hr21:=hr21.below hE
 replace hr23:=hr23.below hE
 replace hr24:=hr24.below hE
 replace hdp20:=hdp20.below hE
 replace hW:=btr hW hE
 refine Zm rfl<|Ze (X3 (vs:=[.agg #[vi (((applyI (⟨n1,gs⟩ : Cx) ((canS (⟨n1,gs⟩ : Cx).gs).getD rpZ)).getD cZ).n),.slice A35 (((applyI (⟨n1,gs⟩ : Cx) ((canS (⟨n1,gs⟩ : Cx).gs).getD rpZ)).getD cZ).gs).length c35],.bool ((applyI (⟨n1,gs⟩ : Cx) ((canS (⟨n1,gs⟩ : Cx).gs).getD rpZ)).isSome)]) rfl rfl)<|Ze (X3 (vs:=[.agg #[vi (((applyI (⟨n1,gs⟩ : Cx) ((canS (⟨n1,gs⟩ : Cx).gs).getD rpZ)).getD cZ).n),.slice A35 (((applyI (⟨n1,gs⟩ : Cx) ((canS (⟨n1,gs⟩ : Cx).gs).getD rpZ)).getD cZ).gs).length c35],.bool ((applyI (⟨n1,gs⟩ : Cx) ((canS (⟨n1,gs⟩ : Cx).gs).getD rpZ)).isSome)]) rfl rfl) ?_
 refine Zf (X9 (zs:=[vi 0,.slice none 0 0]) X2x rfl) ?_;rintro _ w16 ⟨b37,rfl,hl37,hE,hB37⟩
 have hne3_37:b3≠b37:=by have:=hB3.lt;omega
 have hlo37:=Nat.le_trans hW.size hl37
 replace hB3:=hB3.below hE
 replace hB7:=hB7.below hE
 replace hB19:=hB19.below hE
 replace hB27:=hB27.below hE
 replace ho9:=ho9.below hE
 replace ho20:=ho20.below hE
 replace hr21:=hr21.below hE
 replace hr23:=hr23.below hE
 replace hr24:=hr24.below hE
 replace ho35:=ho35.below hE
 replace hdp20:=hdp20.below hE
 replace hW:=btr hW hE
 refine Zo (Vw [vi (((applyI (⟨n1,gs⟩ : Cx) ((canS (⟨n1,gs⟩ : Cx).gs).getD rpZ)).getD cZ).n),.slice A35 (((applyI (⟨n1,gs⟩ : Cx) ((canS (⟨n1,gs⟩ : Cx).gs).getD rpZ)).getD cZ).gs).length c35] X1c hB37) ?_;rintro _ w17 ⟨ho,hb⟩
 have hold:=hB37
 replace hB3:=hB3.only ho (by omega)
 replace hB7:=hB7.only ho (Blk.ne hB7 hold rfl)
 replace hB19:=hB19.only ho (Blk.ne hB19 hold rfl)
 replace hB27:=hB27.only ho (Blk.ne hB27 hold rfl)
 replace ho9:=ho9.onlyT ho hold rfl
 replace ho20:=ho20.onlyT ho hold rfl
 replace hr21:=hr21.onlyT ho hold rfl
 replace hr23:=hr23.onlyT ho hold rfl
 replace hr24:=hr24.onlyT ho hold rfl
 replace ho35:=ho35.onlyT ho hold rfl
 replace hdp20:=hdp20.onlyT ho hold rfl
 replace hW:=Below.only hW ho hlo37
 clear hold
 have hB37:=hb
 clear hb ho
 refine Za rfl ?_
 refine Zt hK34 fun a hf=>?_
 refine wp_seq_k fun _ hK38=>?_
 refine Zs hf fun _ hK39=>?_
 refine Zm rfl<|Ze (X11 rfl) ?_
 refine Zt hK39 fun a hf=>?_
 refine Xo hf rfl (fun hc40=>?_) (fun hc40=>?_)
 ·have hc40b:=hc40
  rw [hap] at hc40;simp at hc40
 have hc40b:=hc40
 refine wp_skip ?_
 refine hK38 _ _ ?_
 refine X09 none (fun j=>[4,7,9].contains j) mixed ?_
 intro w18 hE
 replace hB3:=hB3.below hE
 replace hB7:=hB7.below hE
 replace hB19:=hB19.below hE
 replace hB27:=hB27.below hE
 replace hB37:=hB37.below hE
 replace ho9:=ho9.below hE
 replace ho20:=ho20.below hE
 replace hr21:=hr21.below hE
 replace hr23:=hr23.below hE
 replace hr24:=hr24.below hE
 replace ho35:=ho35.below hE
 replace hdp20:=hdp20.below hE
 replace hW:=btr hW hE
 refine Yb hf ?_
 refine Yo 0 rfl (fun _=>Vd rfl X25 2)<|Ye 1 rfl (X0 rfl X5u (hB19.at 2))<|Ye 2 rfl (Vn X15 hB27) ?_
 refine Y2 3 5 ?_ ?_
 ·refine Yk rfl trivial (X8 (k:=1) (vs:=[.agg #[vi (((canS (⟨n1,gs⟩ : Cx).gs).getD rpZ).pos),.slice A23 (((canS (⟨n1,gs⟩ : Cx).gs).getD rpZ).old).length c23,.slice A24 (((canS (⟨n1,gs⟩ : Cx).gs).getD rpZ).new).length c24]]) (zs:=[vi (((canS (⟨n1,gs⟩ : Cx).gs).getD rpZ).pos),.slice A23 (((canS (⟨n1,gs⟩ : Cx).gs).getD rpZ).old).length c23,.slice A24 (((canS (⟨n1,gs⟩ : Cx).gs).getD rpZ).new).length c24]) rfl X34 X5c rfl rfl) (fun _ _ ⟨_,_,_,h,_⟩=>h) ?_;rintro _ w19 ⟨b41,rfl,hl41,hE,hB41⟩
  have hne27_41:b27≠b41:=by have:=hB27.lt;omega
  have hlo41:=Nat.le_trans hW.size hl41
  have haw20_41:=ho20.away hl41
  replace hB3:=hB3.below hE
  replace hB7:=hB7.below hE
  replace hB19:=hB19.below hE
  replace hB27:=hB27.below hE
  replace hB37:=hB37.below hE
  replace ho9:=ho9.below hE
  replace ho20:=ho20.below hE
  replace hr21:=hr21.below hE
  replace hr23:=hr23.below hE
  replace hr24:=hr24.below hE
  replace ho35:=ho35.below hE
  replace hdp20:=hdp20.below hE
  replace hW:=btr hW hE
  refine Y2 4 5 ?_ ?_
  ·refine Yt rfl trivial rfl (X0q (enc:=encSr) (l:=(l)) (l2:=([(⟨((canS (⟨n1,gs⟩ : Cx).gs).getD rpZ).pos,A23,c23,((canS (⟨n1,gs⟩ : Cx).gs).getD rpZ).old,A24,c24,((canS (⟨n1,gs⟩ : Cx).gs).getD rpZ).new⟩ : Sr)])) (B0:=w0.heap.size) rfl rfl X34 X5c X3j X4v ho20 (Rd.of_blk hB41 rfl _ hB41.lt) (by simp only [maxLen];simp;omega) (by simp;omega) hW.size) ?_;rintro _ w20 ⟨A43,c43,rfl,ho43,hg,hat⟩
   have hown:Own _ w0.heap.size 62 3 encSr _ _ (l):=ho20
   have haw43_27:=hat _ hB27.lt haw20_27
   have haw43_41:=hat _ hB41.lt haw20_41
   clear hat
   have hdp43:=DeepR.snoc (l:=l) (x:=(⟨((canS (⟨n1,gs⟩ : Cx).gs).getD rpZ).pos,A23,c23,((canS (⟨n1,gs⟩ : Cx).gs).getD rpZ).old,A24,c24,((canS (⟨n1,gs⟩ : Cx).gs).getD rpZ).new⟩ : Sr)) hdp20.top hr23.top hr24.top
   replace hB3:=hB3.appT hown hg rfl
   replace hB7:=hB7.appT hown hg rfl
   replace hB19:=hB19.appT hown hg rfl
   replace hB27:=hB27.appA hg haw20_27
   replace hB37:=hB37.appT hown hg rfl
   replace ho9:=ho9.appT hown hg rfl
   replace hr21:=hr21.appT hown hg rfl
   replace hr23:=hr23.appT hown hg rfl
   replace hr24:=hr24.appT hown hg rfl
   replace ho35:=ho35.appT hown hg rfl
   replace hdp43:=hdp43.appT hown hg rfl
   replace hW:=Below.app hW hown hg (Nat.le_refl _) hW.size
   clear hown hg
   refine Yo 6 rfl (fun _=>Vd rfl X25 2) ?_
   refine Y2 5 7 ?_ ?_
   ·refine Yz rfl trivial (Uev (X0a (l:=[vi (((applyI (⟨n1,gs⟩ : Cx) ((canS (⟨n1,gs⟩ : Cx).gs).getD rpZ)).getD cZ).n),.slice A35 (((applyI (⟨n1,gs⟩ : Cx) ((canS (⟨n1,gs⟩ : Cx).gs).getD rpZ)).getD cZ).gs).length c35]) rfl X0p (hB37.at 0) rfl)) ?_
    refine Y1 7 ?_
    refine Yh rfl trivial rfl (Vu (vs:=[.slice A43 (l++([(⟨((canS (⟨n1,gs⟩ : Cx).gs).getD rpZ).pos,A23,c23,((canS (⟨n1,gs⟩ : Cx).gs).getD rpZ).old,A24,c24,((canS (⟨n1,gs⟩ : Cx).gs).getD rpZ).new⟩ : Sr)])).length c43]) (l':=[vi (((cIf ⟨c.n,c.gs⟩).getD cZ).n),.slice A9 (((cIf ⟨c.n,c.gs⟩).getD cZ).gs).length c9,.slice A43 (l++([(⟨((canS (⟨n1,gs⟩ : Cx).gs).getD rpZ).pos,A23,c23,((canS (⟨n1,gs⟩ : Cx).gs).getD rpZ).old,A24,c24,((canS (⟨n1,gs⟩ : Cx).gs).getD rpZ).new⟩ : Sr)])).length c43,vi n1,.slice A21 gs.length c21]) rfl rfl Xca hB19) ?_;rintro _ w21 ⟨ho,hb⟩
    have hold:=hB19
    replace hB3:=hB3.only ho (Blk.ne hB3 hold rfl)
    replace hB7:=hB7.only ho (by omega)
    replace hB27:=hB27.only ho (Blk.ne hB27 hold rfl)
    replace hB37:=hB37.only ho (Blk.ne hB37 hold rfl)
    replace ho9:=ho9.onlyT ho hold rfl
    replace hr21:=hr21.onlyT ho hold rfl
    replace hr23:=hr23.onlyT ho hold rfl
    replace hr24:=hr24.onlyT ho hold rfl
    replace ho35:=ho35.onlyT ho hold rfl
    replace ho43:=ho43.onlyT ho hold rfl
    replace hdp43:=hdp43.onlyT ho hold rfl
    replace hW:=Below.only hW ho hlo19
    clear hold
    have hB19:=hb
    clear hb ho
    refine Yo 8 rfl (fun _=>Vd rfl X1s 3) ?_
    refine Y1 9 ?_
    refine Yh rfl trivial rfl (Vu (vs:=[vi (((applyI (⟨n1,gs⟩ : Cx) ((canS (⟨n1,gs⟩ : Cx).gs).getD rpZ)).getD cZ).n),.slice A35 (((applyI (⟨n1,gs⟩ : Cx) ((canS (⟨n1,gs⟩ : Cx).gs).getD rpZ)).getD cZ).gs).length c35]) (l':=[vi (((cIf ⟨c.n,c.gs⟩).getD cZ).n),.slice A9 (((cIf ⟨c.n,c.gs⟩).getD cZ).gs).length c9,.slice A43 (l++([(⟨((canS (⟨n1,gs⟩ : Cx).gs).getD rpZ).pos,A23,c23,((canS (⟨n1,gs⟩ : Cx).gs).getD rpZ).old,A24,c24,((canS (⟨n1,gs⟩ : Cx).gs).getD rpZ).new⟩ : Sr)])).length c43,vi (((applyI (⟨n1,gs⟩ : Cx) ((canS (⟨n1,gs⟩ : Cx).gs).getD rpZ)).getD cZ).n),.slice A35 (((applyI (⟨n1,gs⟩ : Cx) ((canS (⟨n1,gs⟩ : Cx).gs).getD rpZ)).getD cZ).gs).length c35]) rfl rfl X1c hB19) ?_;rintro _ w22 ⟨ho,hb⟩
    have hold:=hB19
    replace hB3:=hB3.only ho (Blk.ne hB3 hold rfl)
    replace hB7:=hB7.only ho (by omega)
    replace hB27:=hB27.only ho (Blk.ne hB27 hold rfl)
    replace hB37:=hB37.only ho (Blk.ne hB37 hold rfl)
    replace ho9:=ho9.onlyT ho hold rfl
    replace hr21:=hr21.onlyT ho hold rfl
    replace hr23:=hr23.onlyT ho hold rfl
    replace hr24:=hr24.onlyT ho hold rfl
    replace ho35:=ho35.onlyT ho hold rfl
    replace ho43:=ho43.onlyT ho hold rfl
    replace hdp43:=hdp43.onlyT ho hold rfl
    replace hW:=Below.only hW ho hlo19
    clear hold
    have hB19:=hb
    clear hb ho
    refine Yd fun a hf=>?_
    refine Xj ?_
    obtain ⟨k2,hk2,hin2⟩:=hin.next hr9 (s:=⟨((canS (⟨n1,gs⟩ : Cx).gs).getD rpZ).pos,A23,c23,((canS (⟨n1,gs⟩ : Cx).gs).getD rpZ).old,A24,c24,((canS (⟨n1,gs⟩ : Cx).gs).getD rpZ).new⟩) rfl
    rw [← hap2] at hin2
    refine Xs ?_
    exact ⟨(l++([(⟨((canS (⟨n1,gs⟩ : Cx).gs).getD rpZ).pos,A23,c23,((canS (⟨n1,gs⟩ : Cx).gs).getD rpZ).old,A24,c24,((canS (⟨n1,gs⟩ : Cx).gs).getD rpZ).new⟩ : Sr)]),((applyI (⟨n1,gs⟩ : Cx) ((canS (⟨n1,gs⟩ : Cx).gs).getD rpZ)).getD cZ).n,((applyI (⟨n1,gs⟩ : Cx) ((canS (⟨n1,gs⟩ : Cx).gs).getD rpZ)).getD cZ).gs,k2),⟨A43,c43,A35,c35,hf.sub ⟨rfl,rfl,rfl,rfl,trivial⟩,hin2,hB3,hB7,hB19,ho9,ho43,ho35.rd,hp_c,hdp43.top,ho35.cap,hW⟩,(by first|omega|(dsimp only;omega))⟩
   refine Yh rfl trivial rfl (Vu (vs:=[.slice A43 (l++([(⟨((canS (⟨n1,gs⟩ : Cx).gs).getD rpZ).pos,A23,c23,((canS (⟨n1,gs⟩ : Cx).gs).getD rpZ).old,A24,c24,((canS (⟨n1,gs⟩ : Cx).gs).getD rpZ).new⟩ : Sr)])).length c43]) (l':=[vi (((cIf ⟨c.n,c.gs⟩).getD cZ).n),.slice A9 (((cIf ⟨c.n,c.gs⟩).getD cZ).gs).length c9,.slice A43 (l++([(⟨((canS (⟨n1,gs⟩ : Cx).gs).getD rpZ).pos,A23,c23,((canS (⟨n1,gs⟩ : Cx).gs).getD rpZ).old,A24,c24,((canS (⟨n1,gs⟩ : Cx).gs).getD rpZ).new⟩ : Sr)])).length c43,vi n1,.slice A21 gs.length c21]) rfl rfl Xca hB19) ?_;rintro _ w23 ⟨ho,hb⟩
   have hold:=hB19
   replace hB3:=hB3.only ho (Blk.ne hB3 hold rfl)
   replace hB7:=hB7.only ho (by omega)
   replace hB27:=hB27.only ho (Blk.ne hB27 hold rfl)
   replace hB37:=hB37.only ho (Blk.ne hB37 hold rfl)
   replace ho9:=ho9.onlyT ho hold rfl
   replace hr21:=hr21.onlyT ho hold rfl
   replace hr23:=hr23.onlyT ho hold rfl
   replace hr24:=hr24.onlyT ho hold rfl
   replace ho35:=ho35.onlyT ho hold rfl
   replace ho43:=ho43.onlyT ho hold rfl
   replace hdp43:=hdp43.onlyT ho hold rfl
   replace hW:=Below.only hW ho hlo19
   clear hold
   have hB19:=hb
   clear hb ho
   refine Y1 5 ?_
   refine Yz rfl trivial (Uev (X0a (l:=[vi (((applyI (⟨n1,gs⟩ : Cx) ((canS (⟨n1,gs⟩ : Cx).gs).getD rpZ)).getD cZ).n),.slice A35 (((applyI (⟨n1,gs⟩ : Cx) ((canS (⟨n1,gs⟩ : Cx).gs).getD rpZ)).getD cZ).gs).length c35]) rfl X0p (hB37.at 0) rfl)) ?_
   refine Yo 8 rfl (fun _=>Vd rfl X1s 3) ?_
   refine Y1 9 ?_
   refine Yh rfl trivial rfl (Vu (vs:=[vi (((applyI (⟨n1,gs⟩ : Cx) ((canS (⟨n1,gs⟩ : Cx).gs).getD rpZ)).getD cZ).n),.slice A35 (((applyI (⟨n1,gs⟩ : Cx) ((canS (⟨n1,gs⟩ : Cx).gs).getD rpZ)).getD cZ).gs).length c35]) (l':=[vi (((cIf ⟨c.n,c.gs⟩).getD cZ).n),.slice A9 (((cIf ⟨c.n,c.gs⟩).getD cZ).gs).length c9,.slice A43 (l++([(⟨((canS (⟨n1,gs⟩ : Cx).gs).getD rpZ).pos,A23,c23,((canS (⟨n1,gs⟩ : Cx).gs).getD rpZ).old,A24,c24,((canS (⟨n1,gs⟩ : Cx).gs).getD rpZ).new⟩ : Sr)])).length c43,vi (((applyI (⟨n1,gs⟩ : Cx) ((canS (⟨n1,gs⟩ : Cx).gs).getD rpZ)).getD cZ).n),.slice A35 (((applyI (⟨n1,gs⟩ : Cx) ((canS (⟨n1,gs⟩ : Cx).gs).getD rpZ)).getD cZ).gs).length c35]) rfl rfl X1c hB19) ?_;rintro _ w24 ⟨ho,hb⟩
   have hold:=hB19
   replace hB3:=hB3.only ho (Blk.ne hB3 hold rfl)
   replace hB7:=hB7.only ho (by omega)
   replace hB27:=hB27.only ho (Blk.ne hB27 hold rfl)
   replace hB37:=hB37.only ho (Blk.ne hB37 hold rfl)
   replace ho9:=ho9.onlyT ho hold rfl
   replace hr21:=hr21.onlyT ho hold rfl
   replace hr23:=hr23.onlyT ho hold rfl
   replace hr24:=hr24.onlyT ho hold rfl
   replace ho35:=ho35.onlyT ho hold rfl
   replace ho43:=ho43.onlyT ho hold rfl
   replace hdp43:=hdp43.onlyT ho hold rfl
   replace hW:=Below.only hW ho hlo19
   clear hold
   have hB19:=hb
   clear hb ho
   refine Yd fun a hf=>?_
   refine Xj ?_
   obtain ⟨k2,hk2,hin2⟩:=hin.next hr9 (s:=⟨((canS (⟨n1,gs⟩ : Cx).gs).getD rpZ).pos,A23,c23,((canS (⟨n1,gs⟩ : Cx).gs).getD rpZ).old,A24,c24,((canS (⟨n1,gs⟩ : Cx).gs).getD rpZ).new⟩) rfl
   rw [← hap2] at hin2
   refine Xs ?_
   exact ⟨(l++([(⟨((canS (⟨n1,gs⟩ : Cx).gs).getD rpZ).pos,A23,c23,((canS (⟨n1,gs⟩ : Cx).gs).getD rpZ).old,A24,c24,((canS (⟨n1,gs⟩ : Cx).gs).getD rpZ).new⟩ : Sr)]),((applyI (⟨n1,gs⟩ : Cx) ((canS (⟨n1,gs⟩ : Cx).gs).getD rpZ)).getD cZ).n,((applyI (⟨n1,gs⟩ : Cx) ((canS (⟨n1,gs⟩ : Cx).gs).getD rpZ)).getD cZ).gs,k2),⟨A43,c43,A35,c35,hf.sub ⟨rfl,rfl,rfl,rfl,trivial⟩,hin2,hB3,hB7,hB19,ho9,ho43,ho35.rd,hp_c,hdp43.top,ho35.cap,hW⟩,(by first|omega|(dsimp only;omega))⟩
  refine Yz rfl trivial (Uev (X0a (l:=[vi (((applyI (⟨n1,gs⟩ : Cx) ((canS (⟨n1,gs⟩ : Cx).gs).getD rpZ)).getD cZ).n),.slice A35 (((applyI (⟨n1,gs⟩ : Cx) ((canS (⟨n1,gs⟩ : Cx).gs).getD rpZ)).getD cZ).gs).length c35]) rfl X0p (hB37.at 0) rfl)) ?_
  refine Y1 4 ?_
  refine Yt rfl trivial rfl (X0q (enc:=encSr) (l:=(l)) (l2:=([(⟨((canS (⟨n1,gs⟩ : Cx).gs).getD rpZ).pos,A23,c23,((canS (⟨n1,gs⟩ : Cx).gs).getD rpZ).old,A24,c24,((canS (⟨n1,gs⟩ : Cx).gs).getD rpZ).new⟩ : Sr)])) (B0:=w0.heap.size) rfl rfl X34 X5c X3j X4v ho20 (Rd.of_blk hB41 rfl _ hB41.lt) (by simp only [maxLen];simp;omega) (by simp;omega) hW.size) ?_;rintro _ w25 ⟨A44,c44,rfl,ho44,hg,hat⟩
  have hown:Own _ w0.heap.size 62 3 encSr _ _ (l):=ho20
  have haw44_27:=hat _ hB27.lt haw20_27
  have haw44_41:=hat _ hB41.lt haw20_41
  clear hat
  have hdp44:=DeepR.snoc (l:=l) (x:=(⟨((canS (⟨n1,gs⟩ : Cx).gs).getD rpZ).pos,A23,c23,((canS (⟨n1,gs⟩ : Cx).gs).getD rpZ).old,A24,c24,((canS (⟨n1,gs⟩ : Cx).gs).getD rpZ).new⟩ : Sr)) hdp20.top hr23.top hr24.top
  replace hB3:=hB3.appT hown hg rfl
  replace hB7:=hB7.appT hown hg rfl
  replace hB19:=hB19.appT hown hg rfl
  replace hB27:=hB27.appA hg haw20_27
  replace hB37:=hB37.appT hown hg rfl
  replace ho9:=ho9.appT hown hg rfl
  replace hr21:=hr21.appT hown hg rfl
  replace hr23:=hr23.appT hown hg rfl
  replace hr24:=hr24.appT hown hg rfl
  replace ho35:=ho35.appT hown hg rfl
  replace hdp44:=hdp44.appT hown hg rfl
  replace hW:=Below.app hW hown hg (Nat.le_refl _) hW.size
  clear hown hg
  refine Yo 6 rfl (fun _=>Vd rfl X25 2) ?_
  refine Y1 7 ?_
  refine Yh rfl trivial rfl (Vu (vs:=[.slice A44 (l++([(⟨((canS (⟨n1,gs⟩ : Cx).gs).getD rpZ).pos,A23,c23,((canS (⟨n1,gs⟩ : Cx).gs).getD rpZ).old,A24,c24,((canS (⟨n1,gs⟩ : Cx).gs).getD rpZ).new⟩ : Sr)])).length c44]) (l':=[vi (((cIf ⟨c.n,c.gs⟩).getD cZ).n),.slice A9 (((cIf ⟨c.n,c.gs⟩).getD cZ).gs).length c9,.slice A44 (l++([(⟨((canS (⟨n1,gs⟩ : Cx).gs).getD rpZ).pos,A23,c23,((canS (⟨n1,gs⟩ : Cx).gs).getD rpZ).old,A24,c24,((canS (⟨n1,gs⟩ : Cx).gs).getD rpZ).new⟩ : Sr)])).length c44,vi n1,.slice A21 gs.length c21]) rfl rfl Xca hB19) ?_;rintro _ w26 ⟨ho,hb⟩
  have hold:=hB19
  replace hB3:=hB3.only ho (Blk.ne hB3 hold rfl)
  replace hB7:=hB7.only ho (by omega)
  replace hB27:=hB27.only ho (Blk.ne hB27 hold rfl)
  replace hB37:=hB37.only ho (Blk.ne hB37 hold rfl)
  replace ho9:=ho9.onlyT ho hold rfl
  replace hr21:=hr21.onlyT ho hold rfl
  replace hr23:=hr23.onlyT ho hold rfl
  replace hr24:=hr24.onlyT ho hold rfl
  replace ho35:=ho35.onlyT ho hold rfl
  replace ho44:=ho44.onlyT ho hold rfl
  replace hdp44:=hdp44.onlyT ho hold rfl
  replace hW:=Below.only hW ho hlo19
  clear hold
  have hB19:=hb
  clear hb ho
  refine Yo 8 rfl (fun _=>Vd rfl X1s 3) ?_
  refine Y1 9 ?_
  refine Yh rfl trivial rfl (Vu (vs:=[vi (((applyI (⟨n1,gs⟩ : Cx) ((canS (⟨n1,gs⟩ : Cx).gs).getD rpZ)).getD cZ).n),.slice A35 (((applyI (⟨n1,gs⟩ : Cx) ((canS (⟨n1,gs⟩ : Cx).gs).getD rpZ)).getD cZ).gs).length c35]) (l':=[vi (((cIf ⟨c.n,c.gs⟩).getD cZ).n),.slice A9 (((cIf ⟨c.n,c.gs⟩).getD cZ).gs).length c9,.slice A44 (l++([(⟨((canS (⟨n1,gs⟩ : Cx).gs).getD rpZ).pos,A23,c23,((canS (⟨n1,gs⟩ : Cx).gs).getD rpZ).old,A24,c24,((canS (⟨n1,gs⟩ : Cx).gs).getD rpZ).new⟩ : Sr)])).length c44,vi (((applyI (⟨n1,gs⟩ : Cx) ((canS (⟨n1,gs⟩ : Cx).gs).getD rpZ)).getD cZ).n),.slice A35 (((applyI (⟨n1,gs⟩ : Cx) ((canS (⟨n1,gs⟩ : Cx).gs).getD rpZ)).getD cZ).gs).length c35]) rfl rfl X1c hB19) ?_;rintro _ w27 ⟨ho,hb⟩
  have hold:=hB19
  replace hB3:=hB3.only ho (Blk.ne hB3 hold rfl)
  replace hB7:=hB7.only ho (by omega)
  replace hB27:=hB27.only ho (Blk.ne hB27 hold rfl)
  replace hB37:=hB37.only ho (Blk.ne hB37 hold rfl)
  replace ho9:=ho9.onlyT ho hold rfl
  replace hr21:=hr21.onlyT ho hold rfl
  replace hr23:=hr23.onlyT ho hold rfl
  replace hr24:=hr24.onlyT ho hold rfl
  replace ho35:=ho35.onlyT ho hold rfl
  replace ho44:=ho44.onlyT ho hold rfl
  replace hdp44:=hdp44.onlyT ho hold rfl
  replace hW:=Below.only hW ho hlo19
  clear hold
  have hB19:=hb
  clear hb ho
  refine Yd fun a hf=>?_
  refine Xj ?_
  obtain ⟨k2,hk2,hin2⟩:=hin.next hr9 (s:=⟨((canS (⟨n1,gs⟩ : Cx).gs).getD rpZ).pos,A23,c23,((canS (⟨n1,gs⟩ : Cx).gs).getD rpZ).old,A24,c24,((canS (⟨n1,gs⟩ : Cx).gs).getD rpZ).new⟩) rfl
  rw [← hap2] at hin2
  refine Xs ?_
  exact ⟨(l++([(⟨((canS (⟨n1,gs⟩ : Cx).gs).getD rpZ).pos,A23,c23,((canS (⟨n1,gs⟩ : Cx).gs).getD rpZ).old,A24,c24,((canS (⟨n1,gs⟩ : Cx).gs).getD rpZ).new⟩ : Sr)]),((applyI (⟨n1,gs⟩ : Cx) ((canS (⟨n1,gs⟩ : Cx).gs).getD rpZ)).getD cZ).n,((applyI (⟨n1,gs⟩ : Cx) ((canS (⟨n1,gs⟩ : Cx).gs).getD rpZ)).getD cZ).gs,k2),⟨A44,c44,A35,c35,hf.sub ⟨rfl,rfl,rfl,rfl,trivial⟩,hin2,hB3,hB7,hB19,ho9,ho44,ho35.rd,hp_c,hdp44.top,ho35.cap,hW⟩,(by first|omega|(dsimp only;omega))⟩
 refine Yz rfl trivial (Uev (X0a (l:=[vi (((applyI (⟨n1,gs⟩ : Cx) ((canS (⟨n1,gs⟩ : Cx).gs).getD rpZ)).getD cZ).n),.slice A35 (((applyI (⟨n1,gs⟩ : Cx) ((canS (⟨n1,gs⟩ : Cx).gs).getD rpZ)).getD cZ).gs).length c35]) rfl X0p (hB37.at 0) rfl)) ?_
 refine Y1 3 ?_
 refine Yk rfl trivial (X8 (k:=1) (vs:=[.agg #[vi (((canS (⟨n1,gs⟩ : Cx).gs).getD rpZ).pos),.slice A23 (((canS (⟨n1,gs⟩ : Cx).gs).getD rpZ).old).length c23,.slice A24 (((canS (⟨n1,gs⟩ : Cx).gs).getD rpZ).new).length c24]]) (zs:=[vi (((canS (⟨n1,gs⟩ : Cx).gs).getD rpZ).pos),.slice A23 (((canS (⟨n1,gs⟩ : Cx).gs).getD rpZ).old).length c23,.slice A24 (((canS (⟨n1,gs⟩ : Cx).gs).getD rpZ).new).length c24]) rfl X34 X5c rfl rfl) (fun _ _ ⟨_,_,_,h,_⟩=>h) ?_;rintro _ w28 ⟨b45,rfl,hl45,hE,hB45⟩
 have hne27_45:b27≠b45:=by have:=hB27.lt;omega
 have hlo45:=Nat.le_trans hW.size hl45
 have haw20_45:=ho20.away hl45
 replace hB3:=hB3.below hE
 replace hB7:=hB7.below hE
 replace hB19:=hB19.below hE
 replace hB27:=hB27.below hE
 replace hB37:=hB37.below hE
 replace ho9:=ho9.below hE
 replace ho20:=ho20.below hE
 replace hr21:=hr21.below hE
 replace hr23:=hr23.below hE
 replace hr24:=hr24.below hE
 replace ho35:=ho35.below hE
 replace hdp20:=hdp20.below hE
 replace hW:=btr hW hE
 refine Y1 4 ?_
 refine Yt rfl trivial rfl (X0q (enc:=encSr) (l:=(l)) (l2:=([(⟨((canS (⟨n1,gs⟩ : Cx).gs).getD rpZ).pos,A23,c23,((canS (⟨n1,gs⟩ : Cx).gs).getD rpZ).old,A24,c24,((canS (⟨n1,gs⟩ : Cx).gs).getD rpZ).new⟩ : Sr)])) (B0:=w0.heap.size) rfl rfl X34 X5c X3j X4v ho20 (Rd.of_blk hB45 rfl _ hB45.lt) (by simp only [maxLen];simp;omega) (by simp;omega) hW.size) ?_;rintro _ w29 ⟨A47,c47,rfl,ho47,hg,hat⟩
 have hown:Own _ w0.heap.size 62 3 encSr _ _ (l):=ho20
 have haw47_27:=hat _ hB27.lt haw20_27
 have haw47_45:=hat _ hB45.lt haw20_45
 clear hat
 have hdp47:=DeepR.snoc (l:=l) (x:=(⟨((canS (⟨n1,gs⟩ : Cx).gs).getD rpZ).pos,A23,c23,((canS (⟨n1,gs⟩ : Cx).gs).getD rpZ).old,A24,c24,((canS (⟨n1,gs⟩ : Cx).gs).getD rpZ).new⟩ : Sr)) hdp20.top hr23.top hr24.top
 replace hB3:=hB3.appT hown hg rfl
 replace hB7:=hB7.appT hown hg rfl
 replace hB19:=hB19.appT hown hg rfl
 replace hB27:=hB27.appA hg haw20_27
 replace hB37:=hB37.appT hown hg rfl
 replace ho9:=ho9.appT hown hg rfl
 replace hr21:=hr21.appT hown hg rfl
 replace hr23:=hr23.appT hown hg rfl
 replace hr24:=hr24.appT hown hg rfl
 replace ho35:=ho35.appT hown hg rfl
 replace hdp47:=hdp47.appT hown hg rfl
 replace hW:=Below.app hW hown hg (Nat.le_refl _) hW.size
 clear hown hg
 refine Yo 6 rfl (fun _=>Vd rfl X25 2) ?_
 refine Y1 7 ?_
 refine Yh rfl trivial rfl (Vu (vs:=[.slice A47 (l++([(⟨((canS (⟨n1,gs⟩ : Cx).gs).getD rpZ).pos,A23,c23,((canS (⟨n1,gs⟩ : Cx).gs).getD rpZ).old,A24,c24,((canS (⟨n1,gs⟩ : Cx).gs).getD rpZ).new⟩ : Sr)])).length c47]) (l':=[vi (((cIf ⟨c.n,c.gs⟩).getD cZ).n),.slice A9 (((cIf ⟨c.n,c.gs⟩).getD cZ).gs).length c9,.slice A47 (l++([(⟨((canS (⟨n1,gs⟩ : Cx).gs).getD rpZ).pos,A23,c23,((canS (⟨n1,gs⟩ : Cx).gs).getD rpZ).old,A24,c24,((canS (⟨n1,gs⟩ : Cx).gs).getD rpZ).new⟩ : Sr)])).length c47,vi n1,.slice A21 gs.length c21]) rfl rfl Xca hB19) ?_;rintro _ w30 ⟨ho,hb⟩
 have hold:=hB19
 replace hB3:=hB3.only ho (Blk.ne hB3 hold rfl)
 replace hB7:=hB7.only ho (by omega)
 replace hB27:=hB27.only ho (Blk.ne hB27 hold rfl)
 replace hB37:=hB37.only ho (Blk.ne hB37 hold rfl)
 replace ho9:=ho9.onlyT ho hold rfl
 replace hr21:=hr21.onlyT ho hold rfl
 replace hr23:=hr23.onlyT ho hold rfl
 replace hr24:=hr24.onlyT ho hold rfl
 replace ho35:=ho35.onlyT ho hold rfl
 replace ho47:=ho47.onlyT ho hold rfl
 replace hdp47:=hdp47.onlyT ho hold rfl
 replace hW:=Below.only hW ho hlo19
 clear hold
 have hB19:=hb
 clear hb ho
 refine Yo 8 rfl (fun _=>Vd rfl X1s 3) ?_
 refine Y1 9 ?_
 refine Yh rfl trivial rfl (Vu (vs:=[vi (((applyI (⟨n1,gs⟩ : Cx) ((canS (⟨n1,gs⟩ : Cx).gs).getD rpZ)).getD cZ).n),.slice A35 (((applyI (⟨n1,gs⟩ : Cx) ((canS (⟨n1,gs⟩ : Cx).gs).getD rpZ)).getD cZ).gs).length c35]) (l':=[vi (((cIf ⟨c.n,c.gs⟩).getD cZ).n),.slice A9 (((cIf ⟨c.n,c.gs⟩).getD cZ).gs).length c9,.slice A47 (l++([(⟨((canS (⟨n1,gs⟩ : Cx).gs).getD rpZ).pos,A23,c23,((canS (⟨n1,gs⟩ : Cx).gs).getD rpZ).old,A24,c24,((canS (⟨n1,gs⟩ : Cx).gs).getD rpZ).new⟩ : Sr)])).length c47,vi (((applyI (⟨n1,gs⟩ : Cx) ((canS (⟨n1,gs⟩ : Cx).gs).getD rpZ)).getD cZ).n),.slice A35 (((applyI (⟨n1,gs⟩ : Cx) ((canS (⟨n1,gs⟩ : Cx).gs).getD rpZ)).getD cZ).gs).length c35]) rfl rfl X1c hB19) ?_;rintro _ w31 ⟨ho,hb⟩
 have hold:=hB19
 replace hB3:=hB3.only ho (Blk.ne hB3 hold rfl)
 replace hB7:=hB7.only ho (by omega)
 replace hB27:=hB27.only ho (Blk.ne hB27 hold rfl)
 replace hB37:=hB37.only ho (Blk.ne hB37 hold rfl)
 replace ho9:=ho9.onlyT ho hold rfl
 replace hr21:=hr21.onlyT ho hold rfl
 replace hr23:=hr23.onlyT ho hold rfl
 replace hr24:=hr24.onlyT ho hold rfl
 replace ho35:=ho35.onlyT ho hold rfl
 replace ho47:=ho47.onlyT ho hold rfl
 replace hdp47:=hdp47.onlyT ho hold rfl
 replace hW:=Below.only hW ho hlo19
 clear hold
 have hB19:=hb
 clear hb ho
 refine Yd fun a hf=>?_
 refine Xj ?_
 obtain ⟨k2,hk2,hin2⟩:=hin.next hr9 (s:=⟨((canS (⟨n1,gs⟩ : Cx).gs).getD rpZ).pos,A23,c23,((canS (⟨n1,gs⟩ : Cx).gs).getD rpZ).old,A24,c24,((canS (⟨n1,gs⟩ : Cx).gs).getD rpZ).new⟩) rfl
 rw [← hap2] at hin2
 refine Xs ?_
 exact ⟨(l++([(⟨((canS (⟨n1,gs⟩ : Cx).gs).getD rpZ).pos,A23,c23,((canS (⟨n1,gs⟩ : Cx).gs).getD rpZ).old,A24,c24,((canS (⟨n1,gs⟩ : Cx).gs).getD rpZ).new⟩ : Sr)]),((applyI (⟨n1,gs⟩ : Cx) ((canS (⟨n1,gs⟩ : Cx).gs).getD rpZ)).getD cZ).n,((applyI (⟨n1,gs⟩ : Cx) ((canS (⟨n1,gs⟩ : Cx).gs).getD rpZ)).getD cZ).gs,k2),⟨A47,c47,A35,c35,hf.sub ⟨rfl,rfl,rfl,rfl,trivial⟩,hin2,hB3,hB7,hB19,ho9,ho47,ho35.rd,hp_c,hdp47.top,ho35.cap,hW⟩,(by first|omega|(dsimp only;omega))⟩
theorem Xom(w0:World)(c:Cx)(Ac:Option Addr)(cc:Nat)(hr_c:Rd w0 w0.heap.size 24 encG Ac c.gs)(hp_c:c.gs.length≤cc)(hln:c.gs.length≤100000000) : Ret Tryz.prog 27 [.agg #[vi c.n,.slice Ac c.gs.length cc]] w0 (fun v w=>∃ (l:List Sr) (A:Option Addr) (e:Nat) (B:Option Addr) (f:Nat) (D:Option Addr) (g:Nat),v=.tuple #[.agg #[vi (canC c).1.n,.slice A (canC c).1.gs.length e,.slice B l.length f,vi (canC c).2.2.n,.slice D (canC c).2.2.gs.length g],.bool (cOk c)]∧l.map Sr.rp=(canC c).2.1∧((canC c).1.gs.length≤e∧(canC c).2.2.gs.length≤g)∧Rd w w.heap.size 24 encG A (canC c).1.gs∧Rd w w.heap.size 24 encG D (canC c).2.2.gs∧Own w w0.heap.size 62 3 encSr B f l∧DeepR w w.heap.size 24 l∧Below w0.heap.size w0 w):=by
 refine enter Tryz.func27 rfl 12 rfl rfl ?_
 intro a hf
 have hW:Below w0.heap.size w0 w0:=Below.refl _ _
 refine Zs hf fun _ hK2=>?_
 refine Zf (X0j (zs:=[vi c.n,.slice Ac c.gs.length cc]) rfl rfl) ?_;rintro _ w1 ⟨b3,rfl,hl3,hE,hB3⟩
 have hlo3:=Nat.le_trans hW.size hl3
 replace hW:=btr hW hE
 refine Zf (X9 (zs:=[vi 0,.slice none 0 0,.slice none 0 0,vi 0,.slice none 0 0]) Xar rfl) ?_;rintro _ w2 ⟨b7,rfl,hl7,hE,hB7⟩
 have hlo7:=Nat.le_trans hW.size hl7
 replace hB3:=hB3.below hE
 replace hW:=btr hW hE
 refine Za rfl ?_
 refine Zt hK2 fun a hf=>?_
 refine wp_seq_k fun _ hK8=>?_
 refine Zs hf fun _ hK9=>?_
 refine Ze (Vn X0p hB3) ?_
 refine Zf (Vc (F55 _ c Ac cc (hr_c.below' hW).top (by omega)) X8z) ?_;rintro _ w3 ⟨rfl,hE⟩
 replace hB3:=hB3.below hE
 replace hB7:=hB7.below hE
 replace hW:=btr hW hE
 refine Ze (X11 rfl) ?_
 refine Zt hK9 fun a hf=>?_
 refine Xo hf rfl (fun hc10=>?_) (fun hc10=>?_)
 ·have hc10b:=hc10
  have hc:cOk c=false:=by revert hc10;cases cOk c<;>simp
  have hfin:canC c=(cZ,[],cZ):=by unfold canC;rw [if_neg (by rw [hc];decide)]
  refine Zs hf fun _ hK11=>?_
  refine Ze (Xu (ps:=[]) (cs:=[vi 0,.slice none 0 0,.slice none 0 0,vi 0,.slice none 0 0]) rfl (fun _=>by first|rfl|kernel_rfl)) ?_
  refine Zo (Vw [vi 0,.slice none 0 0,.slice none 0 0,vi 0,.slice none 0 0] X66 hB7) ?_;rintro _ w4 ⟨ho,hb⟩
  have hold:=hB7
  replace hB3:=hB3.only ho (Blk.ne hB3 hold rfl)
  replace hW:=Below.only hW ho hlo7
  clear hold
  have hB7:=hb
  clear hb ho
  refine Za rfl ?_
  refine Zt hK11 fun a hf=>?_
  refine wp_ret ?_
  refine X6 ?_
  refine X2 hf (X0t hf rfl (ResV.cellN (l:=[vi 0,.slice none 0 0,.slice none 0 0,vi 0,.slice none 0 0]) rfl X68 (hB7.at 0) rfl) rfl) ?_
  rw [hfin,hc]
  exact ⟨[],_,_,_,_,_,_,rfl,rfl,⟨(Nat.zero_le _),(Nat.zero_le _)⟩,(Rd.nil _ _ _ _ _),(Rd.nil _ _ _ _ _),(Own.nil _ _ _ _ _),(DeepR.nil _ _ _),hW⟩
 have hc10b:=hc10
 have hc:cOk c=true:=by revert hc10;cases cOk c<;>simp
 refine wp_skip ?_
 refine hK8 _ _ ?_
 refine Zs hf fun _ hK15=>?_
 refine Ze (Vn X0p hB3) ?_
 refine Zf (Vc (Xpo _ c Ac cc (hr_c.below' hW).top hp_c hc) Xil) ?_;rintro _ w5 ⟨lz9,Az9,ez9,Bz9,fz9,Dz9,gz9,rfl,hlmz9,⟨hcbz9,hcdz9⟩,hraz9,hrdz9,hoz9,hdpz9,hE⟩
 replace hoz9:=hoz9.lower hW.size
 replace hB3:=hB3.below hE
 replace hB7:=hB7.below hE
 replace hW:=btr hW hE
 refine Ze (X3 (vs:=[.agg #[vi ((canC c).1.n),.slice Az9 ((canC c).1.gs).length ez9,.slice Bz9 lz9.length fz9,vi ((canC c).2.2.n),.slice Dz9 ((canC c).2.2.gs).length gz9],.bool (cOk c)]) rfl rfl)<|Ze (X3 (vs:=[.agg #[vi ((canC c).1.n),.slice Az9 ((canC c).1.gs).length ez9,.slice Bz9 lz9.length fz9,vi ((canC c).2.2.n),.slice Dz9 ((canC c).2.2.gs).length gz9],.bool (cOk c)]) rfl rfl) ?_
 refine Zo (Vw [vi ((canC c).1.n),.slice Az9 ((canC c).1.gs).length ez9,.slice Bz9 lz9.length fz9,vi ((canC c).2.2.n),.slice Dz9 ((canC c).2.2.gs).length gz9] X66 hB7) ?_;rintro _ w6 ⟨ho,hb⟩
 have hold:=hB7
 replace hB3:=hB3.only ho (Blk.ne hB3 hold rfl)
 replace hraz9:=hraz9.onlyT ho hold rfl
 replace hoz9:=hoz9.onlyT ho hold rfl
 replace hrdz9:=hrdz9.onlyT ho hold rfl
 replace hdpz9:=hdpz9.onlyT ho hold rfl
 replace hW:=Below.only hW ho hlo7
 clear hold
 have hB7:=hb
 clear hb ho
 refine Za rfl ?_
 refine Zt hK15 fun a hf=>?_
 refine wp_ret (X2 hf (X0t hf rfl (ResV.cellN (l:=[vi ((canC c).1.n),.slice Az9 ((canC c).1.gs).length ez9,.slice Bz9 lz9.length fz9,vi ((canC c).2.2.n),.slice Dz9 ((canC c).2.2.gs).length gz9]) rfl X68 (hB7.at 0) rfl) rfl) ?_)
 exact ⟨_,_,_,_,_,_,_,rfl,hlmz9,⟨hcbz9,hcdz9⟩,hraz9.top,hrdz9.top,hoz9,(hdpz9.top),hW⟩
end Go.Proofs.YtlfjcmldfbfdbaaGreat
