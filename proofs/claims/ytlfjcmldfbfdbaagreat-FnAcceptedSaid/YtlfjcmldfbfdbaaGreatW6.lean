/-
  What is proved: for all drawn certificates, an accepted one leads to a circuit with the same operator up to a phase, and joined certificates remain accepted: the law returns true at every input and leaves its arguments as they were. Conditions: none.
-/
import Derived.Test.YtlfjcmldfbfdbaaGreatW5
import Derived.Test.YtlfjcmldfbfdbaaGreatW4
import Derived.Test.YtlfjcmldfbfdbaaGreatRows
set_option linter.unusedVariables false
set_option linter.unusedSimpArgs false
set_option maxRecDepth 4000
namespace Go.Proofs.YtlfjcmldfbfdbaaGreat
open Go.RowKit
theorem Xmj(w0:World){Xcd:TypeId}(Acd:Option Addr)(ccd:Nat)(code:List Int)(hr_code:Rd w0 w0.heap.size Xcd encU Acd code)(hcd:∀ x ∈ code,0≤x∧x≤255) : Ret Tryz.prog 19 [.slice Acd code.length ccd] w0 (fun v w=>∃ (c:Cx) (l:List Sr) (d:Cx) (A:Option Addr) (e:Nat) (B:Option Addr) (f:Nat) (D:Option Addr) (g:Nat),v=.agg #[vi c.n,.slice A c.gs.length e,.slice B l.length f,vi d.n,.slice D d.gs.length g]∧(c.gs.length≤1000∧l.length≤1000∧d.gs.length≤1000∧∀ s ∈ l,s.old.length≤41∧s.new.length≤41)∧(c.gs.length≤e∧d.gs.length≤g)∧Rd w w.heap.size 24 encG A c.gs∧Rd w w.heap.size 24 encG D d.gs∧Rd w w.heap.size 62 encSr B l∧DeepR w w.heap.size 24 l∧Below w0.heap.size w0 w):=by
 refine enter Tryz.func19 rfl 9 rfl rfl ?_
 intro a hf
 have hW:Below w0.heap.size w0 w0:=Below.refl _ _
 refine Zs hf fun _ hK2=>?_
 refine Zf (Xa (zs:=[vi 0,.slice none 0 0,.slice none 0 0,vi 0,.slice none 0 0]) X3g rfl) ?_;rintro _ w1 ⟨b6,rfl,hl6,hE,hB6⟩
 have hlo6:=Nat.le_trans hW.size hl6
 have haw1_6:=(hr_code.below' hW).away hl6
 replace hW:=btr hW hE
 refine Zt hK2 fun a hf=>?_
 refine Zs hf fun _ hK7=>?_
 refine Zm rfl<|Ze (Xh (ps:=[(0,.slice Acd code.length ccd)]) (cs:=[.slice Acd code.length ccd,vi 0,.int .u64 0]) rfl (fun _=>by first|rfl|kernel_rfl)) ?_
 refine Zf (X0p (zs:=[.slice Acd code.length ccd,vi 0,.int .u64 0]) rfl rfl) ?_;rintro _ w2 ⟨b9,rfl,hl9,hE,hB9⟩
 have hlo9:=Nat.le_trans hW.size hl9
 have haw1_9:=(hr_code.below' hW).away hl9
 replace hB6:=hB6.below hE
 replace hW:=btr hW hE
 refine Za rfl ?_
 refine Zt hK7 fun a hf=>?_
 refine Zs hf fun _ hK10=>?_
 refine Zm rfl ?_
 refine Zf (Vc (Xis _ b9 Acd ccd code (hr_code.below' hW).top hcd haw1_9 0 0 hB9 (by omega)) Xdh) ?_;rintro _ w3 ⟨cz8,lz8,dz8,Az8,ez8,Bz8,fz8,Dz8,gz8,tz8,sz8,rfl,hPz8,htz8,⟨hcbz8,hcdz8⟩,hraz8,hrdz8,hoz8,hdpz8,hK,hbn⟩
 obtain ⟨wm,hO,hm,hE⟩:=hK.mid;clear hm
 have hold:=hB9
 replace hB6:=hB6.only hO (Blk.ne hB6 hold rfl)
 replace hW:=Below.only hW hO hlo9
 replace hB6:=hB6.below hE
 replace hW:=btr hW hE
 clear hold hE hO hK;replace hB9:=hbn;clear hbn
 refine Zo (Vw [vi cz8.n,.slice Az8 cz8.gs.length ez8,.slice Bz8 lz8.length fz8,vi dz8.n,.slice Dz8 dz8.gs.length gz8] X13 hB6) ?_;rintro _ w4 ⟨ho,hb⟩
 have hold:=hB6
 replace hB9:=hB9.only ho (Blk.ne hB9 hold rfl)
 replace hraz8:=hraz8.onlyT ho hold rfl
 replace hoz8:=hoz8.onlyT ho hold rfl
 replace hrdz8:=hrdz8.onlyT ho hold rfl
 replace hdpz8:=hdpz8.onlyT ho hold rfl
 replace hW:=Below.only hW ho hlo6
 clear hold
 have hB6:=hb
 clear hb ho
 refine Zt hK10 fun a hf=>?_
 refine wp_ret (X2 hf (Xo hf rfl (ResV.cellN (l:=[vi cz8.n,.slice Az8 cz8.gs.length ez8,.slice Bz8 lz8.length fz8,vi dz8.n,.slice Dz8 dz8.gs.length gz8]) rfl X0l (hB6.at 0) rfl)) ?_)
 exact ⟨⟨cz8.n,cz8.gs⟩,lz8,⟨dz8.n,dz8.gs⟩,Az8,ez8,Bz8,fz8,Dz8,gz8,rfl,⟨hPz8.1,hPz8.2.1,hPz8.2.2.1,hPz8.2.2.2.2⟩,⟨hcbz8,hcdz8⟩,hraz8.top,hrdz8.top,hoz8.top,(hdpz8.top),hW⟩
theorem Xjb(w0:World){Xcd:TypeId}(Acd:Option Addr)(ccd:Nat)(code:List Int)(hr_code:Rd w0 w0.heap.size Xcd encU Acd code)(hcd:∀ x ∈ code,0≤x∧x≤255) : Ret Tryz.prog 23 [.slice Acd code.length ccd] w0 (fun v w=>∃ (c1:Cx) (l1:List Sr) (d1:Cx) (A1:Option Addr) (e1:Nat) (B1:Option Addr) (f1:Nat) (D1:Option Addr) (g1:Nat) (c2:Cx) (l2:List Sr) (d2:Cx) (A2:Option Addr) (e2:Nat) (B2:Option Addr) (f2:Nat) (D2:Option Addr) (g2:Nat),v=.tuple #[.agg #[vi c1.n,.slice A1 c1.gs.length e1,.slice B1 l1.length f1,vi d1.n,.slice D1 d1.gs.length g1],.agg #[vi c2.n,.slice A2 c2.gs.length e2,.slice B2 l2.length f2,vi d2.n,.slice D2 d2.gs.length g2]]∧(c1.gs.length≤1000∧l1.length≤1000∧d1.gs.length≤1000∧∀ s ∈ l1,s.old.length≤41∧s.new.length≤41)∧(c2.gs.length≤1000∧l2.length≤1000∧d2.gs.length≤1000∧∀ s ∈ l2,s.old.length≤41∧s.new.length≤41)∧(c1.gs.length≤e1∧d1.gs.length≤g1)∧Rd w w.heap.size 24 encG A1 c1.gs∧Rd w w.heap.size 24 encG D1 d1.gs∧Rd w w.heap.size 62 encSr B1 l1∧DeepR w w.heap.size 24 l1∧(c2.gs.length≤e2∧d2.gs.length≤g2)∧Rd w w.heap.size 24 encG A2 c2.gs∧Rd w w.heap.size 24 encG D2 d2.gs∧Rd w w.heap.size 62 encSr B2 l2∧DeepR w w.heap.size 24 l2∧Below w0.heap.size w0 w):=by
 refine enter Tryz.func23 rfl 38 rfl rfl ?_
 intro a hf
 have hW:Below w0.heap.size w0 w0:=Below.refl _ _
 refine Zs hf fun _ hK2=>?_
 refine Zf (Xa (zs:=[vi 0,.slice none 0 0,.slice none 0 0,vi 0,.slice none 0 0]) X3g rfl) ?_;rintro _ w1 ⟨b6,rfl,hl6,hE,hB6⟩
 have hlo6:=Nat.le_trans hW.size hl6
 have haw1_6:=(hr_code.below' hW).away hl6
 replace hW:=btr hW hE
 refine Zf (Xa (zs:=[vi 0,.slice none 0 0,.slice none 0 0,vi 0,.slice none 0 0]) X3g rfl) ?_;rintro _ w2 ⟨b10,rfl,hl10,hE,hB10⟩
 have hne6_10:b6≠b10:=by have:=hB6.lt;omega
 have hlo10:=Nat.le_trans hW.size hl10
 have haw1_10:=(hr_code.below' hW).away hl10
 replace hB6:=hB6.below hE
 replace hW:=btr hW hE
 refine Zt hK2 fun a hf=>?_
 refine Zs hf fun _ hK11=>?_
 refine Zm rfl<|Ze (Xh (ps:=[(0,.slice Acd code.length ccd)]) (cs:=[.slice Acd code.length ccd,vi 0,.int .u64 0]) rfl (fun _=>by first|rfl|kernel_rfl)) ?_
 refine Zf (X0p (zs:=[.slice Acd code.length ccd,vi 0,.int .u64 0]) rfl rfl) ?_;rintro _ w3 ⟨b13,rfl,hl13,hE,hB13⟩
 have hlo13:=Nat.le_trans hW.size hl13
 have haw1_13:=(hr_code.below' hW).away hl13
 replace hB6:=hB6.below hE
 replace hB10:=hB10.below hE
 replace hW:=btr hW hE
 refine Za rfl ?_
 refine Zt hK11 fun a hf=>?_
 refine Zs hf fun _ hK14=>?_
 refine Zm rfl ?_
 refine Zf (Vc (Xfc _ b13 Acd ccd code (hr_code.below' hW).top hcd haw1_13 0 0 hB13 (by omega)) Xa5) ?_;rintro _ w4 ⟨cz12,lz12,dz12,Az12,ez12,Bz12,fz12,Dz12,gz12,tz12,sz12,rfl,hPz12,htz12,⟨hcbz12,hcdz12⟩,hraz12,hrdz12,hoz12,hdpz12,hK,hbn⟩
 have hlv:=hW.size
 obtain ⟨wm,hO,hm,hE⟩:=hK.mid;clear hm
 have hold:=hB13
 replace hB6:=hB6.only hO (Blk.ne hB6 hold rfl)
 replace hB10:=hB10.only hO (Blk.ne hB10 hold rfl)
 replace hW:=Below.only hW hO hlo13
 replace hB6:=hB6.below hE
 replace hB10:=hB10.below hE
 replace hW:=btr hW hE
 clear hold hE hO hK;replace hB13:=hbn;clear hbn
 replace hoz12:=hoz12.lower hlv;clear hlv
 refine Zf (Xa (zs:=[vi 0,.slice none 0 0,.slice none 0 0,vi 0,.slice none 0 0]) X3g rfl) ?_;rintro _ w5 ⟨b21,rfl,hl21,hE,hB21⟩
 have hne6_21:b6≠b21:=by have:=hB6.lt;omega
 have hne10_21:b10≠b21:=by have:=hB10.lt;omega
 have hlo21:=Nat.le_trans hW.size hl21
 have haw1_21:=(hr_code.below' hW).away hl21
 replace hB6:=hB6.below hE
 replace hB10:=hB10.below hE
 replace hB13:=hB13.below hE
 replace hraz12:=hraz12.below hE
 replace hoz12:=hoz12.below hE
 replace hrdz12:=hrdz12.below hE
 replace hdpz12:=hdpz12.below hE
 replace hW:=btr hW hE
 refine Zo (Vw [vi cz12.n,.slice Az12 cz12.gs.length ez12,.slice Bz12 lz12.length fz12,vi dz12.n,.slice Dz12 dz12.gs.length gz12] X13 hB21) ?_;rintro _ w6 ⟨ho,hb⟩
 have hold:=hB21
 replace hB6:=hB6.only ho (by omega)
 replace hB10:=hB10.only ho (by omega)
 replace hB13:=hB13.only ho (Blk.ne hB13 hold rfl)
 replace hraz12:=hraz12.onlyT ho hold rfl
 replace hoz12:=hoz12.onlyT ho hold rfl
 replace hrdz12:=hrdz12.onlyT ho hold rfl
 replace hdpz12:=hdpz12.onlyT ho hold rfl
 replace hW:=Below.only hW ho hlo21
 clear hold
 have hB21:=hb
 clear hb ho
 refine Zt hK14 fun a hf=>?_
 refine Zs hf fun _ hK22=>?_
 refine Ze (Vd rfl X1l 3)<|Ze (Xj (l:=[vi dz12.n,.slice Dz12 dz12.gs.length gz12]) rfl X0c ((hB21.at 3).take 2) rfl) ?_
 refine Zf (Vc (Xj3 _ dz12 Dz12 gz12 hrdz12.top (by omega)) Xcq) ?_;rintro _ w7 ⟨lz16,Az16,ez16,Bz16,fz16,Dz16,gz16,rfl,hlmz16,⟨hcbz16,hcdz16⟩,hraz16,hrdz16,hoz16,hdpz16,hE⟩
 replace hoz16:=hoz16.lower hW.size
 replace hB6:=hB6.below hE
 replace hB10:=hB10.below hE
 replace hB13:=hB13.below hE
 replace hB21:=hB21.below hE
 replace hraz12:=hraz12.below hE
 replace hoz12:=hoz12.below hE
 replace hrdz12:=hrdz12.below hE
 replace hdpz12:=hdpz12.below hE
 replace hW:=btr hW hE
 obtain ⟨hb1,hb2,hb3,hb4,hb5,hb6⟩:=X84 (m:=1000) (c:=dz12) (by omega) hPz12.2.2.2.1
 obtain ⟨hbl,hbs⟩:=X8r hlmz16 hb4
 refine Zm rfl<|Ze (X3 (vs:=[.agg #[vi ((canC dz12).1.n),.slice Az16 ((canC dz12).1.gs).length ez16,.slice Bz16 lz16.length fz16,vi ((canC dz12).2.2.n),.slice Dz16 ((canC dz12).2.2.gs).length gz16],.bool (cOk dz12)]) rfl rfl)<|Ze (X3 (vs:=[.agg #[vi ((canC dz12).1.n),.slice Az16 ((canC dz12).1.gs).length ez16,.slice Bz16 lz16.length fz16,vi ((canC dz12).2.2.n),.slice Dz16 ((canC dz12).2.2.gs).length gz16],.bool (cOk dz12)]) rfl rfl) ?_
 refine Zf (Xa (zs:=[vi 0,.slice none 0 0,.slice none 0 0,vi 0,.slice none 0 0]) X3g rfl) ?_;rintro _ w8 ⟨b29,rfl,hl29,hE,hB29⟩
 have hne6_29:b6≠b29:=by have:=hB6.lt;omega
 have hne10_29:b10≠b29:=by have:=hB10.lt;omega
 have hne21_29:b21≠b29:=by have:=hB21.lt;omega
 have hlo29:=Nat.le_trans hW.size hl29
 have haw1_29:=(hr_code.below' hW).away hl29
 replace hB6:=hB6.below hE
 replace hB10:=hB10.below hE
 replace hB13:=hB13.below hE
 replace hB21:=hB21.below hE
 replace hraz12:=hraz12.below hE
 replace hoz12:=hoz12.below hE
 replace hrdz12:=hrdz12.below hE
 replace hraz16:=hraz16.below hE
 replace hoz16:=hoz16.below hE
 replace hrdz16:=hrdz16.below hE
 replace hdpz12:=hdpz12.below hE
 replace hdpz16:=hdpz16.below hE
 replace hW:=btr hW hE
 refine Zo (Vw [vi ((canC dz12).1.n),.slice Az16 ((canC dz12).1.gs).length ez16,.slice Bz16 lz16.length fz16,vi ((canC dz12).2.2.n),.slice Dz16 ((canC dz12).2.2.gs).length gz16] X13 hB29) ?_;rintro _ w9 ⟨ho,hb⟩
 have hold:=hB29
 replace hB6:=hB6.only ho (by omega)
 replace hB10:=hB10.only ho (by omega)
 replace hB13:=hB13.only ho (Blk.ne hB13 hold rfl)
 replace hB21:=hB21.only ho (by omega)
 replace hraz12:=hraz12.onlyT ho hold rfl
 replace hoz12:=hoz12.onlyT ho hold rfl
 replace hrdz12:=hrdz12.onlyT ho hold rfl
 replace hraz16:=hraz16.onlyT ho hold rfl
 replace hoz16:=hoz16.onlyT ho hold rfl
 replace hrdz16:=hrdz16.onlyT ho hold rfl
 replace hdpz12:=hdpz12.onlyT ho hold rfl
 replace hdpz16:=hdpz16.onlyT ho hold rfl
 replace hW:=Below.only hW ho hlo29
 clear hold
 have hB29:=hb
 clear hb ho
 refine Za rfl ?_
 refine Zt hK22 fun a hf=>?_
 refine wp_seq_k fun _ hK30=>?_
 refine Zs hf fun _ hK31=>?_
 refine Zm rfl ?_
 refine Zf (Vc (X24 _ b13 Acd ccd code (hr_code.below' hW).top hcd haw1_13 tz12 sz12 hB13 6 (by omega)) X1f) ?_;rintro _ w10 ⟨xz20,tz20,sz20,rfl,hPz20,htz20,hK,hbn⟩
 obtain ⟨wm,hO,hm,hE⟩:=hK.mid;clear hm
 have hold:=hB13
 replace hB6:=hB6.only hO (Blk.ne hB6 hold rfl)
 replace hB10:=hB10.only hO (Blk.ne hB10 hold rfl)
 replace hB21:=hB21.only hO (Blk.ne hB21 hold rfl)
 replace hB29:=hB29.only hO (Blk.ne hB29 hold rfl)
 replace hraz12:=hraz12.onlyT hO hold rfl
 replace hoz12:=hoz12.onlyT hO hold rfl
 replace hrdz12:=hrdz12.onlyT hO hold rfl
 replace hraz16:=hraz16.onlyT hO hold rfl
 replace hoz16:=hoz16.onlyT hO hold rfl
 replace hrdz16:=hrdz16.onlyT hO hold rfl
 replace hdpz12:=hdpz12.onlyT hO hold rfl
 replace hdpz16:=hdpz16.onlyT hO hold rfl
 replace hW:=Below.only hW hO hlo13
 replace hB6:=hB6.below hE
 replace hB10:=hB10.below hE
 replace hB21:=hB21.below hE
 replace hB29:=hB29.below hE
 replace hraz12:=hraz12.below hE
 replace hoz12:=hoz12.below hE
 replace hrdz12:=hrdz12.below hE
 replace hraz16:=hraz16.below hE
 replace hoz16:=hoz16.below hE
 replace hrdz16:=hrdz16.below hE
 replace hdpz12:=hdpz12.below hE
 replace hdpz16:=hdpz16.below hE
 replace hW:=btr hW hE
 clear hold hE hO hK;replace hB13:=hbn;clear hbn
 refine Zt hK31 fun a hf=>?_
 refine wp_block ?_
 refine Zs hf fun _ hK32=>?_
 refine Ze (X0u rfl rfl)<|Za rfl ?_
 refine Zt hK32 fun a hf=>?_
 refine Xi hf rfl (fun hc33=>?_) (fun hc33=>?_)
 ·have hc33b:=hc33
  refine Zr hf ?_
  refine Zm rfl ?_
  refine Zf (Vc (Xfc _ b13 Acd ccd code (hr_code.below' hW).top hcd haw1_13 tz20 sz20 hB13 (by omega)) Xa5) ?_;rintro _ w11 ⟨cz24,lz24,dz24,Az24,ez24,Bz24,fz24,Dz24,gz24,tz24,sz24,rfl,hPz24,htz24,⟨hcbz24,hcdz24⟩,hraz24,hrdz24,hoz24,hdpz24,hK,hbn⟩
  have hlv:=hW.size
  obtain ⟨wm,hO,hm,hE⟩:=hK.mid;clear hm
  have hold:=hB13
  replace hB6:=hB6.only hO (Blk.ne hB6 hold rfl)
  replace hB10:=hB10.only hO (Blk.ne hB10 hold rfl)
  replace hB21:=hB21.only hO (Blk.ne hB21 hold rfl)
  replace hB29:=hB29.only hO (Blk.ne hB29 hold rfl)
  replace hraz12:=hraz12.onlyT hO hold rfl
  replace hoz12:=hoz12.onlyT hO hold rfl
  replace hrdz12:=hrdz12.onlyT hO hold rfl
  replace hraz16:=hraz16.onlyT hO hold rfl
  replace hoz16:=hoz16.onlyT hO hold rfl
  replace hrdz16:=hrdz16.onlyT hO hold rfl
  replace hdpz12:=hdpz12.onlyT hO hold rfl
  replace hdpz16:=hdpz16.onlyT hO hold rfl
  replace hW:=Below.only hW hO hlo13
  replace hB6:=hB6.below hE
  replace hB10:=hB10.below hE
  replace hB21:=hB21.below hE
  replace hB29:=hB29.below hE
  replace hraz12:=hraz12.below hE
  replace hoz12:=hoz12.below hE
  replace hrdz12:=hrdz12.below hE
  replace hraz16:=hraz16.below hE
  replace hoz16:=hoz16.below hE
  replace hrdz16:=hrdz16.below hE
  replace hdpz12:=hdpz12.below hE
  replace hdpz16:=hdpz16.below hE
  replace hW:=btr hW hE
  clear hold hE hO hK;replace hB13:=hbn;clear hbn
  replace hoz24:=hoz24.lower hlv;clear hlv
  refine Zo (Vw [vi cz24.n,.slice Az24 cz24.gs.length ez24,.slice Bz24 lz24.length fz24,vi dz24.n,.slice Dz24 dz24.gs.length gz24] X13 hB29) ?_;rintro _ w12 ⟨ho,hb⟩
  have hold:=hB29
  replace hB6:=hB6.only ho (by omega)
  replace hB10:=hB10.only ho (by omega)
  replace hB13:=hB13.only ho (Blk.ne hB13 hold rfl)
  replace hB21:=hB21.only ho (by omega)
  replace hraz12:=hraz12.onlyT ho hold rfl
  replace hoz12:=hoz12.onlyT ho hold rfl
  replace hrdz12:=hrdz12.onlyT ho hold rfl
  replace hraz16:=hraz16.onlyT ho hold rfl
  replace hoz16:=hoz16.onlyT ho hold rfl
  replace hrdz16:=hrdz16.onlyT ho hold rfl
  replace hraz24:=hraz24.onlyT ho hold rfl
  replace hoz24:=hoz24.onlyT ho hold rfl
  replace hrdz24:=hrdz24.onlyT ho hold rfl
  replace hdpz12:=hdpz12.onlyT ho hold rfl
  replace hdpz16:=hdpz16.onlyT ho hold rfl
  replace hdpz24:=hdpz24.onlyT ho hold rfl
  replace hW:=Below.only hW ho hlo29
  clear hold
  have hB29:=hb
  clear hb ho
  refine Zn fun a hf=>?_
  refine Xf ?_
  refine hK30 _ _ ?_
  refine wp_seq_k fun _ hK37=>?_
  refine Xu none (fun j=>[2,3].contains j) mixed ?_
  intro w13 hE
  replace hB6:=hB6.below hE
  replace hB10:=hB10.below hE
  replace hB21:=hB21.below hE
  replace hB29:=hB29.below hE
  replace hraz12:=hraz12.below hE
  replace hoz12:=hoz12.below hE
  replace hrdz12:=hrdz12.below hE
  replace hraz24:=hraz24.below hE
  replace hoz24:=hoz24.below hE
  replace hrdz24:=hrdz24.below hE
  replace hdpz12:=hdpz12.below hE
  replace hdpz24:=hdpz24.below hE
  replace hW:=btr hW hE
  refine Yb hf ?_
  refine Ye 0 rfl (Vn X0l hB21) ?_
  refine Y2 1 2 ?_ ?_
  ·refine Yz rfl trivial (Uev (Xj (l:=[vi cz24.n,.slice Az24 cz24.gs.length ez24,.slice Bz24 lz24.length fz24,vi dz24.n,.slice Dz24 dz24.gs.length gz24]) rfl X0l (hB29.at 0) rfl)) ?_
   refine Y1 2 ?_
   refine Yh rfl trivial rfl (Vw [vi cz12.n,.slice Az12 cz12.gs.length ez12,.slice Bz12 lz12.length fz12,vi dz12.n,.slice Dz12 dz12.gs.length gz12] X13 hB6) ?_;rintro _ w14 ⟨ho,hb⟩
   have hold:=hB6
   replace hB10:=hB10.only ho (by omega)
   replace hB21:=hB21.only ho (by omega)
   replace hB29:=hB29.only ho (by omega)
   replace hraz12:=hraz12.onlyT ho hold rfl
   replace hoz12:=hoz12.onlyT ho hold rfl
   replace hrdz12:=hrdz12.onlyT ho hold rfl
   replace hraz24:=hraz24.onlyT ho hold rfl
   replace hoz24:=hoz24.onlyT ho hold rfl
   replace hrdz24:=hrdz24.onlyT ho hold rfl
   replace hdpz12:=hdpz12.onlyT ho hold rfl
   replace hdpz24:=hdpz24.onlyT ho hold rfl
   replace hW:=Below.only hW ho hlo6
   clear hold
   have hB6:=hb
   clear hb ho
   refine Y1 3 ?_
   refine Yh rfl trivial rfl (Vw [vi cz24.n,.slice Az24 cz24.gs.length ez24,.slice Bz24 lz24.length fz24,vi dz24.n,.slice Dz24 dz24.gs.length gz24] X13 hB10) ?_;rintro _ w15 ⟨ho,hb⟩
   have hold:=hB10
   replace hB6:=hB6.only ho (by omega)
   replace hB21:=hB21.only ho (by omega)
   replace hB29:=hB29.only ho (by omega)
   replace hraz12:=hraz12.onlyT ho hold rfl
   replace hoz12:=hoz12.onlyT ho hold rfl
   replace hrdz12:=hrdz12.onlyT ho hold rfl
   replace hraz24:=hraz24.onlyT ho hold rfl
   replace hoz24:=hoz24.onlyT ho hold rfl
   replace hrdz24:=hrdz24.onlyT ho hold rfl
   replace hdpz12:=hdpz12.onlyT ho hold rfl
   replace hdpz24:=hdpz24.onlyT ho hold rfl
   replace hW:=Below.only hW ho hlo10
   clear hold
   have hB10:=hb
   clear hb ho
   refine Yd fun a hf=>?_
   refine hK37 _ _ ?_
   refine wp_ret (X2 hf (X0r hf rfl (ResV.cellN (l:=[vi cz12.n,.slice Az12 cz12.gs.length ez12,.slice Bz12 lz12.length fz12,vi dz12.n,.slice Dz12 dz12.gs.length gz12]) rfl X0l (hB6.at 0) rfl) (ResV.cellN (l:=[vi cz24.n,.slice Az24 cz24.gs.length ez24,.slice Bz24 lz24.length fz24,vi dz24.n,.slice Dz24 dz24.gs.length gz24]) rfl X0l (hB10.at 0) rfl)) ?_)
   exact ⟨⟨cz12.n,cz12.gs⟩,lz12,⟨dz12.n,dz12.gs⟩,Az12,ez12,Bz12,fz12,Dz12,gz12,⟨cz24.n,cz24.gs⟩,lz24,⟨dz24.n,dz24.gs⟩,Az24,ez24,Bz24,fz24,Dz24,gz24,rfl,⟨(by first|omega|(dsimp only;omega)|(simp;done)),(by first|omega|(dsimp only;omega)|(simp;done)),(by first|omega|(dsimp only;omega)|(simp;done)),(by first|exact hPz12.2.2.2.2|exact hPz24.2.2.2.2|exact hPz35.2.2.2.2|exact hbs|(intro s hs;simp at hs;done))⟩,⟨(by first|omega|(dsimp only;omega)|(simp;done)),(by first|omega|(dsimp only;omega)|(simp;done)),(by first|omega|(dsimp only;omega)|(simp;done)),(by first|exact hPz12.2.2.2.2|exact hPz24.2.2.2.2|exact hPz35.2.2.2.2|exact hbs|(intro s hs;simp at hs;done))⟩,⟨hcbz12,hcdz12⟩,hraz12.top,hrdz12.top,hoz12.rd.top,(hdpz12.top),⟨hcbz24,hcdz24⟩,hraz24.top,hrdz24.top,hoz24.rd.top,(hdpz24.top),hW⟩
  refine Yh rfl trivial rfl (Vw [vi cz12.n,.slice Az12 cz12.gs.length ez12,.slice Bz12 lz12.length fz12,vi dz12.n,.slice Dz12 dz12.gs.length gz12] X13 hB6) ?_;rintro _ w16 ⟨ho,hb⟩
  have hold:=hB6
  replace hB10:=hB10.only ho (by omega)
  replace hB21:=hB21.only ho (by omega)
  replace hB29:=hB29.only ho (by omega)
  replace hraz12:=hraz12.onlyT ho hold rfl
  replace hoz12:=hoz12.onlyT ho hold rfl
  replace hrdz12:=hrdz12.onlyT ho hold rfl
  replace hraz24:=hraz24.onlyT ho hold rfl
  replace hoz24:=hoz24.onlyT ho hold rfl
  replace hrdz24:=hrdz24.onlyT ho hold rfl
  replace hdpz12:=hdpz12.onlyT ho hold rfl
  replace hdpz24:=hdpz24.onlyT ho hold rfl
  replace hW:=Below.only hW ho hlo6
  clear hold
  have hB6:=hb
  clear hb ho
  refine Y1 1 ?_
  refine Yz rfl trivial (Uev (Xj (l:=[vi cz24.n,.slice Az24 cz24.gs.length ez24,.slice Bz24 lz24.length fz24,vi dz24.n,.slice Dz24 dz24.gs.length gz24]) rfl X0l (hB29.at 0) rfl)) ?_
  refine Y1 3 ?_
  refine Yh rfl trivial rfl (Vw [vi cz24.n,.slice Az24 cz24.gs.length ez24,.slice Bz24 lz24.length fz24,vi dz24.n,.slice Dz24 dz24.gs.length gz24] X13 hB10) ?_;rintro _ w17 ⟨ho,hb⟩
  have hold:=hB10
  replace hB6:=hB6.only ho (by omega)
  replace hB21:=hB21.only ho (by omega)
  replace hB29:=hB29.only ho (by omega)
  replace hraz12:=hraz12.onlyT ho hold rfl
  replace hoz12:=hoz12.onlyT ho hold rfl
  replace hrdz12:=hrdz12.onlyT ho hold rfl
  replace hraz24:=hraz24.onlyT ho hold rfl
  replace hoz24:=hoz24.onlyT ho hold rfl
  replace hrdz24:=hrdz24.onlyT ho hold rfl
  replace hdpz12:=hdpz12.onlyT ho hold rfl
  replace hdpz24:=hdpz24.onlyT ho hold rfl
  replace hW:=Below.only hW ho hlo10
  clear hold
  have hB10:=hb
  clear hb ho
  refine Yd fun a hf=>?_
  refine hK37 _ _ ?_
  refine wp_ret (X2 hf (X0r hf rfl (ResV.cellN (l:=[vi cz12.n,.slice Az12 cz12.gs.length ez12,.slice Bz12 lz12.length fz12,vi dz12.n,.slice Dz12 dz12.gs.length gz12]) rfl X0l (hB6.at 0) rfl) (ResV.cellN (l:=[vi cz24.n,.slice Az24 cz24.gs.length ez24,.slice Bz24 lz24.length fz24,vi dz24.n,.slice Dz24 dz24.gs.length gz24]) rfl X0l (hB10.at 0) rfl)) ?_)
  exact ⟨⟨cz12.n,cz12.gs⟩,lz12,⟨dz12.n,dz12.gs⟩,Az12,ez12,Bz12,fz12,Dz12,gz12,⟨cz24.n,cz24.gs⟩,lz24,⟨dz24.n,dz24.gs⟩,Az24,ez24,Bz24,fz24,Dz24,gz24,rfl,⟨(by first|omega|(dsimp only;omega)|(simp;done)),(by first|omega|(dsimp only;omega)|(simp;done)),(by first|omega|(dsimp only;omega)|(simp;done)),(by first|exact hPz12.2.2.2.2|exact hPz24.2.2.2.2|exact hPz35.2.2.2.2|exact hbs|(intro s hs;simp at hs;done))⟩,⟨(by first|omega|(dsimp only;omega)|(simp;done)),(by first|omega|(dsimp only;omega)|(simp;done)),(by first|omega|(dsimp only;omega)|(simp;done)),(by first|exact hPz12.2.2.2.2|exact hPz24.2.2.2.2|exact hPz35.2.2.2.2|exact hbs|(intro s hs;simp at hs;done))⟩,⟨hcbz12,hcdz12⟩,hraz12.top,hrdz12.top,hoz12.rd.top,(hdpz12.top),⟨hcbz24,hcdz24⟩,hraz24.top,hrdz24.top,hoz24.rd.top,(hdpz24.top),hW⟩
 have hc33b:=hc33
 refine Zs hf fun _ hK38=>?_
 refine Ze (X0u rfl rfl)<|Za rfl ?_
 refine Zt hK38 fun a hf=>?_
 refine Xi hf rfl (fun hc39=>?_) (fun hc39=>?_)
 ·have hc39b:=hc39
  refine Zr hf ?_
  refine Ze (Vd rfl X1l 3)<|Ze (Xj (l:=[vi dz12.n,.slice Dz12 dz12.gs.length gz12]) rfl X0c ((hB21.at 3).take 2) rfl)<|Ze (Vd rfl X21 0)<|Ze (Xj (l:=[vi cz12.n,.slice Az12 cz12.gs.length ez12]) rfl X0c ((hB21.at 0).take 2) rfl)<|Ze (Xh (ps:=[(0,.agg #[vi dz12.n,.slice Dz12 dz12.gs.length gz12]),(2,.agg #[vi cz12.n,.slice Az12 cz12.gs.length ez12])]) (cs:=[vi dz12.n,.slice Dz12 dz12.gs.length gz12,.slice none 0 0,vi cz12.n,.slice Az12 cz12.gs.length ez12]) rfl (fun _=>by first|rfl|kernel_rfl)) ?_
  refine Zo (Vw [vi dz12.n,.slice Dz12 dz12.gs.length gz12,.slice none 0 0,vi cz12.n,.slice Az12 cz12.gs.length ez12] X13 hB29) ?_;rintro _ w18 ⟨ho,hb⟩
  have hold:=hB29
  replace hB6:=hB6.only ho (by omega)
  replace hB10:=hB10.only ho (by omega)
  replace hB13:=hB13.only ho (Blk.ne hB13 hold rfl)
  replace hB21:=hB21.only ho (by omega)
  replace hraz12:=hraz12.onlyT ho hold rfl
  replace hoz12:=hoz12.onlyT ho hold rfl
  replace hrdz12:=hrdz12.onlyT ho hold rfl
  replace hraz16:=hraz16.onlyT ho hold rfl
  replace hoz16:=hoz16.onlyT ho hold rfl
  replace hrdz16:=hrdz16.onlyT ho hold rfl
  replace hdpz12:=hdpz12.onlyT ho hold rfl
  replace hdpz16:=hdpz16.onlyT ho hold rfl
  replace hW:=Below.only hW ho hlo29
  clear hold
  have hB29:=hb
  clear hb ho
  refine Zn fun a hf=>?_
  refine Xf ?_
  refine hK30 _ _ ?_
  refine wp_seq_k fun _ hK43=>?_
  refine Xu none (fun j=>[2,3].contains j) mixed ?_
  intro w19 hE
  replace hB6:=hB6.below hE
  replace hB10:=hB10.below hE
  replace hB21:=hB21.below hE
  replace hB29:=hB29.below hE
  replace hraz12:=hraz12.below hE
  replace hoz12:=hoz12.below hE
  replace hrdz12:=hrdz12.below hE
  replace hdpz12:=hdpz12.below hE
  replace hW:=btr hW hE
  refine Yb hf ?_
  refine Ye 0 rfl (Vn X0l hB21) ?_
  refine Y2 1 2 ?_ ?_
  ·refine Yz rfl trivial (Uev (Xj (l:=[vi dz12.n,.slice Dz12 dz12.gs.length gz12,.slice none 0 0,vi cz12.n,.slice Az12 cz12.gs.length ez12]) rfl X0l (hB29.at 0) rfl)) ?_
   refine Y1 2 ?_
   refine Yh rfl trivial rfl (Vw [vi cz12.n,.slice Az12 cz12.gs.length ez12,.slice Bz12 lz12.length fz12,vi dz12.n,.slice Dz12 dz12.gs.length gz12] X13 hB6) ?_;rintro _ w20 ⟨ho,hb⟩
   have hold:=hB6
   replace hB10:=hB10.only ho (by omega)
   replace hB21:=hB21.only ho (by omega)
   replace hB29:=hB29.only ho (by omega)
   replace hraz12:=hraz12.onlyT ho hold rfl
   replace hoz12:=hoz12.onlyT ho hold rfl
   replace hrdz12:=hrdz12.onlyT ho hold rfl
   replace hdpz12:=hdpz12.onlyT ho hold rfl
   replace hW:=Below.only hW ho hlo6
   clear hold
   have hB6:=hb
   clear hb ho
   refine Y1 3 ?_
   refine Yh rfl trivial rfl (Vw [vi dz12.n,.slice Dz12 dz12.gs.length gz12,.slice none 0 0,vi cz12.n,.slice Az12 cz12.gs.length ez12] X13 hB10) ?_;rintro _ w21 ⟨ho,hb⟩
   have hold:=hB10
   replace hB6:=hB6.only ho (by omega)
   replace hB21:=hB21.only ho (by omega)
   replace hB29:=hB29.only ho (by omega)
   replace hraz12:=hraz12.onlyT ho hold rfl
   replace hoz12:=hoz12.onlyT ho hold rfl
   replace hrdz12:=hrdz12.onlyT ho hold rfl
   replace hdpz12:=hdpz12.onlyT ho hold rfl
   replace hW:=Below.only hW ho hlo10
   clear hold
   have hB10:=hb
   clear hb ho
   refine Yd fun a hf=>?_
   refine hK43 _ _ ?_
   refine wp_ret (X2 hf (X0r hf rfl (ResV.cellN (l:=[vi cz12.n,.slice Az12 cz12.gs.length ez12,.slice Bz12 lz12.length fz12,vi dz12.n,.slice Dz12 dz12.gs.length gz12]) rfl X0l (hB6.at 0) rfl) (ResV.cellN (l:=[vi dz12.n,.slice Dz12 dz12.gs.length gz12,.slice none 0 0,vi cz12.n,.slice Az12 cz12.gs.length ez12]) rfl X0l (hB10.at 0) rfl)) ?_)
   exact ⟨⟨cz12.n,cz12.gs⟩,lz12,⟨dz12.n,dz12.gs⟩,Az12,ez12,Bz12,fz12,Dz12,gz12,⟨dz12.n,dz12.gs⟩,([] : List Sr),⟨cz12.n,cz12.gs⟩,Dz12,gz12,none,0,Az12,ez12,rfl,⟨(by first|omega|(dsimp only;omega)|(simp;done)),(by first|omega|(dsimp only;omega)|(simp;done)),(by first|omega|(dsimp only;omega)|(simp;done)),(by first|exact hPz12.2.2.2.2|exact hPz24.2.2.2.2|exact hPz35.2.2.2.2|exact hbs|(intro s hs;simp at hs;done))⟩,⟨(by first|omega|(dsimp only;omega)|(simp;done)),(by first|omega|(dsimp only;omega)|(simp;done)),(by first|omega|(dsimp only;omega)|(simp;done)),(by first|exact hPz12.2.2.2.2|exact hPz24.2.2.2.2|exact hPz35.2.2.2.2|exact hbs|(intro s hs;simp at hs;done))⟩,⟨hcbz12,hcdz12⟩,hraz12.top,hrdz12.top,hoz12.rd.top,(hdpz12.top),⟨hcdz12,hcbz12⟩,hrdz12.top,hraz12.top,(Rd.nil _ _ _ _ _),(DeepR.nil _ _ _),hW⟩
  refine Yh rfl trivial rfl (Vw [vi cz12.n,.slice Az12 cz12.gs.length ez12,.slice Bz12 lz12.length fz12,vi dz12.n,.slice Dz12 dz12.gs.length gz12] X13 hB6) ?_;rintro _ w22 ⟨ho,hb⟩
  have hold:=hB6
  replace hB10:=hB10.only ho (by omega)
  replace hB21:=hB21.only ho (by omega)
  replace hB29:=hB29.only ho (by omega)
  replace hraz12:=hraz12.onlyT ho hold rfl
  replace hoz12:=hoz12.onlyT ho hold rfl
  replace hrdz12:=hrdz12.onlyT ho hold rfl
  replace hdpz12:=hdpz12.onlyT ho hold rfl
  replace hW:=Below.only hW ho hlo6
  clear hold
  have hB6:=hb
  clear hb ho
  refine Y1 1 ?_
  refine Yz rfl trivial (Uev (Xj (l:=[vi dz12.n,.slice Dz12 dz12.gs.length gz12,.slice none 0 0,vi cz12.n,.slice Az12 cz12.gs.length ez12]) rfl X0l (hB29.at 0) rfl)) ?_
  refine Y1 3 ?_
  refine Yh rfl trivial rfl (Vw [vi dz12.n,.slice Dz12 dz12.gs.length gz12,.slice none 0 0,vi cz12.n,.slice Az12 cz12.gs.length ez12] X13 hB10) ?_;rintro _ w23 ⟨ho,hb⟩
  have hold:=hB10
  replace hB6:=hB6.only ho (by omega)
  replace hB21:=hB21.only ho (by omega)
  replace hB29:=hB29.only ho (by omega)
  replace hraz12:=hraz12.onlyT ho hold rfl
  replace hoz12:=hoz12.onlyT ho hold rfl
  replace hrdz12:=hrdz12.onlyT ho hold rfl
  replace hdpz12:=hdpz12.onlyT ho hold rfl
  replace hW:=Below.only hW ho hlo10
  clear hold
  have hB10:=hb
  clear hb ho
  refine Yd fun a hf=>?_
  refine hK43 _ _ ?_
  refine wp_ret (X2 hf (X0r hf rfl (ResV.cellN (l:=[vi cz12.n,.slice Az12 cz12.gs.length ez12,.slice Bz12 lz12.length fz12,vi dz12.n,.slice Dz12 dz12.gs.length gz12]) rfl X0l (hB6.at 0) rfl) (ResV.cellN (l:=[vi dz12.n,.slice Dz12 dz12.gs.length gz12,.slice none 0 0,vi cz12.n,.slice Az12 cz12.gs.length ez12]) rfl X0l (hB10.at 0) rfl)) ?_)
  exact ⟨⟨cz12.n,cz12.gs⟩,lz12,⟨dz12.n,dz12.gs⟩,Az12,ez12,Bz12,fz12,Dz12,gz12,⟨dz12.n,dz12.gs⟩,([] : List Sr),⟨cz12.n,cz12.gs⟩,Dz12,gz12,none,0,Az12,ez12,rfl,⟨(by first|omega|(dsimp only;omega)|(simp;done)),(by first|omega|(dsimp only;omega)|(simp;done)),(by first|omega|(dsimp only;omega)|(simp;done)),(by first|exact hPz12.2.2.2.2|exact hPz24.2.2.2.2|exact hPz35.2.2.2.2|exact hbs|(intro s hs;simp at hs;done))⟩,⟨(by first|omega|(dsimp only;omega)|(simp;done)),(by first|omega|(dsimp only;omega)|(simp;done)),(by first|omega|(dsimp only;omega)|(simp;done)),(by first|exact hPz12.2.2.2.2|exact hPz24.2.2.2.2|exact hPz35.2.2.2.2|exact hbs|(intro s hs;simp at hs;done))⟩,⟨hcbz12,hcdz12⟩,hraz12.top,hrdz12.top,hoz12.rd.top,(hdpz12.top),⟨hcdz12,hcbz12⟩,hrdz12.top,hraz12.top,(Rd.nil _ _ _ _ _),(DeepR.nil _ _ _),hW⟩
 have hc39b:=hc39
 refine Zs hf fun _ hK44=>?_
 refine Ze (X0u rfl rfl)<|Za rfl ?_
 refine Zt hK44 fun a hf=>?_
 refine Xi hf rfl (fun hc45=>?_) (fun hc45=>?_)
 ·have hc45b:=hc45
  refine Zr hf ?_
  refine Zm rfl ?_
  refine Zf (Vc (Xis _ b13 Acd ccd code (hr_code.below' hW).top hcd haw1_13 tz20 sz20 hB13 (by omega)) Xdh) ?_;rintro _ w24 ⟨cz35,lz35,dz35,Az35,ez35,Bz35,fz35,Dz35,gz35,tz35,sz35,rfl,hPz35,htz35,⟨hcbz35,hcdz35⟩,hraz35,hrdz35,hoz35,hdpz35,hK,hbn⟩
  obtain ⟨wm,hO,hm,hE⟩:=hK.mid;clear hm
  have hold:=hB13
  replace hB6:=hB6.only hO (Blk.ne hB6 hold rfl)
  replace hB10:=hB10.only hO (Blk.ne hB10 hold rfl)
  replace hB21:=hB21.only hO (Blk.ne hB21 hold rfl)
  replace hB29:=hB29.only hO (Blk.ne hB29 hold rfl)
  replace hraz12:=hraz12.onlyT hO hold rfl
  replace hoz12:=hoz12.onlyT hO hold rfl
  replace hrdz12:=hrdz12.onlyT hO hold rfl
  replace hraz16:=hraz16.onlyT hO hold rfl
  replace hoz16:=hoz16.onlyT hO hold rfl
  replace hrdz16:=hrdz16.onlyT hO hold rfl
  replace hdpz12:=hdpz12.onlyT hO hold rfl
  replace hdpz16:=hdpz16.onlyT hO hold rfl
  replace hW:=Below.only hW hO hlo13
  replace hB6:=hB6.below hE
  replace hB10:=hB10.below hE
  replace hB21:=hB21.below hE
  replace hB29:=hB29.below hE
  replace hraz12:=hraz12.below hE
  replace hoz12:=hoz12.below hE
  replace hrdz12:=hrdz12.below hE
  replace hraz16:=hraz16.below hE
  replace hoz16:=hoz16.below hE
  replace hrdz16:=hrdz16.below hE
  replace hdpz12:=hdpz12.below hE
  replace hdpz16:=hdpz16.below hE
  replace hW:=btr hW hE
  clear hold hE hO hK;replace hB13:=hbn;clear hbn
  refine Zo (Vw [vi cz35.n,.slice Az35 cz35.gs.length ez35,.slice Bz35 lz35.length fz35,vi dz35.n,.slice Dz35 dz35.gs.length gz35] X13 hB21) ?_;rintro _ w25 ⟨ho,hb⟩
  have hold:=hB21
  replace hB6:=hB6.only ho (by omega)
  replace hB10:=hB10.only ho (by omega)
  replace hB13:=hB13.only ho (Blk.ne hB13 hold rfl)
  replace hB29:=hB29.only ho (by omega)
  replace hraz12:=hraz12.onlyT ho hold rfl
  replace hoz12:=hoz12.onlyT ho hold rfl
  replace hrdz12:=hrdz12.onlyT ho hold rfl
  replace hraz16:=hraz16.onlyT ho hold rfl
  replace hoz16:=hoz16.onlyT ho hold rfl
  replace hrdz16:=hrdz16.onlyT ho hold rfl
  replace hraz35:=hraz35.onlyT ho hold rfl
  replace hoz35:=hoz35.onlyT ho hold rfl
  replace hrdz35:=hrdz35.onlyT ho hold rfl
  replace hdpz12:=hdpz12.onlyT ho hold rfl
  replace hdpz16:=hdpz16.onlyT ho hold rfl
  replace hdpz35:=hdpz35.onlyT ho hold rfl
  replace hW:=Below.only hW ho hlo21
  clear hold
  have hB21:=hb
  clear hb ho
  refine Zn fun a hf=>?_
  refine Xf ?_
  refine hK30 _ _ ?_
  refine wp_seq_k fun _ hK49=>?_
  refine Xu none (fun j=>[2,3].contains j) mixed ?_
  intro w26 hE
  replace hB6:=hB6.below hE
  replace hB10:=hB10.below hE
  replace hB21:=hB21.below hE
  replace hB29:=hB29.below hE
  replace hraz16:=hraz16.below hE
  replace hoz16:=hoz16.below hE
  replace hrdz16:=hrdz16.below hE
  replace hraz35:=hraz35.below hE
  replace hoz35:=hoz35.below hE
  replace hrdz35:=hrdz35.below hE
  replace hdpz16:=hdpz16.below hE
  replace hdpz35:=hdpz35.below hE
  replace hW:=btr hW hE
  refine Yb hf ?_
  refine Ye 0 rfl (Vn X0l hB21) ?_
  refine Y2 1 2 ?_ ?_
  ·refine Yz rfl trivial (Uev (Xj (l:=[vi ((canC dz12).1.n),.slice Az16 ((canC dz12).1.gs).length ez16,.slice Bz16 lz16.length fz16,vi ((canC dz12).2.2.n),.slice Dz16 ((canC dz12).2.2.gs).length gz16]) rfl X0l (hB29.at 0) rfl)) ?_
   refine Y1 2 ?_
   refine Yh rfl trivial rfl (Vw [vi cz35.n,.slice Az35 cz35.gs.length ez35,.slice Bz35 lz35.length fz35,vi dz35.n,.slice Dz35 dz35.gs.length gz35] X13 hB6) ?_;rintro _ w27 ⟨ho,hb⟩
   have hold:=hB6
   replace hB10:=hB10.only ho (by omega)
   replace hB21:=hB21.only ho (by omega)
   replace hB29:=hB29.only ho (by omega)
   replace hraz16:=hraz16.onlyT ho hold rfl
   replace hoz16:=hoz16.onlyT ho hold rfl
   replace hrdz16:=hrdz16.onlyT ho hold rfl
   replace hraz35:=hraz35.onlyT ho hold rfl
   replace hoz35:=hoz35.onlyT ho hold rfl
   replace hrdz35:=hrdz35.onlyT ho hold rfl
   replace hdpz16:=hdpz16.onlyT ho hold rfl
   replace hdpz35:=hdpz35.onlyT ho hold rfl
   replace hW:=Below.only hW ho hlo6
   clear hold
   have hB6:=hb
   clear hb ho
   refine Y1 3 ?_
   refine Yh rfl trivial rfl (Vw [vi ((canC dz12).1.n),.slice Az16 ((canC dz12).1.gs).length ez16,.slice Bz16 lz16.length fz16,vi ((canC dz12).2.2.n),.slice Dz16 ((canC dz12).2.2.gs).length gz16] X13 hB10) ?_;rintro _ w28 ⟨ho,hb⟩
   have hold:=hB10
   replace hB6:=hB6.only ho (by omega)
   replace hB21:=hB21.only ho (by omega)
   replace hB29:=hB29.only ho (by omega)
   replace hraz16:=hraz16.onlyT ho hold rfl
   replace hoz16:=hoz16.onlyT ho hold rfl
   replace hrdz16:=hrdz16.onlyT ho hold rfl
   replace hraz35:=hraz35.onlyT ho hold rfl
   replace hoz35:=hoz35.onlyT ho hold rfl
   replace hrdz35:=hrdz35.onlyT ho hold rfl
   replace hdpz16:=hdpz16.onlyT ho hold rfl
   replace hdpz35:=hdpz35.onlyT ho hold rfl
   replace hW:=Below.only hW ho hlo10
   clear hold
   have hB10:=hb
   clear hb ho
   refine Yd fun a hf=>?_
   refine hK49 _ _ ?_
   refine wp_ret (X2 hf (X0r hf rfl (ResV.cellN (l:=[vi cz35.n,.slice Az35 cz35.gs.length ez35,.slice Bz35 lz35.length fz35,vi dz35.n,.slice Dz35 dz35.gs.length gz35]) rfl X0l (hB6.at 0) rfl) (ResV.cellN (l:=[vi ((canC dz12).1.n),.slice Az16 ((canC dz12).1.gs).length ez16,.slice Bz16 lz16.length fz16,vi ((canC dz12).2.2.n),.slice Dz16 ((canC dz12).2.2.gs).length gz16]) rfl X0l (hB10.at 0) rfl)) ?_)
   exact ⟨⟨cz35.n,cz35.gs⟩,lz35,⟨dz35.n,dz35.gs⟩,Az35,ez35,Bz35,fz35,Dz35,gz35,⟨(canC dz12).1.n,(canC dz12).1.gs⟩,lz16,⟨(canC dz12).2.2.n,(canC dz12).2.2.gs⟩,Az16,ez16,Bz16,fz16,Dz16,gz16,rfl,⟨(by first|omega|(dsimp only;omega)|(simp;done)),(by first|omega|(dsimp only;omega)|(simp;done)),(by first|omega|(dsimp only;omega)|(simp;done)),(by first|exact hPz12.2.2.2.2|exact hPz24.2.2.2.2|exact hPz35.2.2.2.2|exact hbs|(intro s hs;simp at hs;done))⟩,⟨(by first|omega|(dsimp only;omega)|(simp;done)),(by first|omega|(dsimp only;omega)|(simp;done)),(by first|omega|(dsimp only;omega)|(simp;done)),(by first|exact hPz12.2.2.2.2|exact hPz24.2.2.2.2|exact hPz35.2.2.2.2|exact hbs|(intro s hs;simp at hs;done))⟩,⟨hcbz35,hcdz35⟩,hraz35.top,hrdz35.top,hoz35.top,(hdpz35.top),⟨hcbz16,hcdz16⟩,hraz16.top,hrdz16.top,hoz16.rd.top,(hdpz16.top),hW⟩
  refine Yh rfl trivial rfl (Vw [vi cz35.n,.slice Az35 cz35.gs.length ez35,.slice Bz35 lz35.length fz35,vi dz35.n,.slice Dz35 dz35.gs.length gz35] X13 hB6) ?_;rintro _ w29 ⟨ho,hb⟩
  have hold:=hB6
  replace hB10:=hB10.only ho (by omega)
  replace hB21:=hB21.only ho (by omega)
  replace hB29:=hB29.only ho (by omega)
  replace hraz16:=hraz16.onlyT ho hold rfl
  replace hoz16:=hoz16.onlyT ho hold rfl
  replace hrdz16:=hrdz16.onlyT ho hold rfl
  replace hraz35:=hraz35.onlyT ho hold rfl
  replace hoz35:=hoz35.onlyT ho hold rfl
  replace hrdz35:=hrdz35.onlyT ho hold rfl
  replace hdpz16:=hdpz16.onlyT ho hold rfl
  replace hdpz35:=hdpz35.onlyT ho hold rfl
  replace hW:=Below.only hW ho hlo6
  clear hold
  have hB6:=hb
  clear hb ho
  refine Y1 1 ?_
  refine Yz rfl trivial (Uev (Xj (l:=[vi ((canC dz12).1.n),.slice Az16 ((canC dz12).1.gs).length ez16,.slice Bz16 lz16.length fz16,vi ((canC dz12).2.2.n),.slice Dz16 ((canC dz12).2.2.gs).length gz16]) rfl X0l (hB29.at 0) rfl)) ?_
  refine Y1 3 ?_
  refine Yh rfl trivial rfl (Vw [vi ((canC dz12).1.n),.slice Az16 ((canC dz12).1.gs).length ez16,.slice Bz16 lz16.length fz16,vi ((canC dz12).2.2.n),.slice Dz16 ((canC dz12).2.2.gs).length gz16] X13 hB10) ?_;rintro _ w30 ⟨ho,hb⟩
  have hold:=hB10
  replace hB6:=hB6.only ho (by omega)
  replace hB21:=hB21.only ho (by omega)
  replace hB29:=hB29.only ho (by omega)
  replace hraz16:=hraz16.onlyT ho hold rfl
  replace hoz16:=hoz16.onlyT ho hold rfl
  replace hrdz16:=hrdz16.onlyT ho hold rfl
  replace hraz35:=hraz35.onlyT ho hold rfl
  replace hoz35:=hoz35.onlyT ho hold rfl
  replace hrdz35:=hrdz35.onlyT ho hold rfl
  replace hdpz16:=hdpz16.onlyT ho hold rfl
  replace hdpz35:=hdpz35.onlyT ho hold rfl
  replace hW:=Below.only hW ho hlo10
  clear hold
  have hB10:=hb
  clear hb ho
  refine Yd fun a hf=>?_
  refine hK49 _ _ ?_
  refine wp_ret (X2 hf (X0r hf rfl (ResV.cellN (l:=[vi cz35.n,.slice Az35 cz35.gs.length ez35,.slice Bz35 lz35.length fz35,vi dz35.n,.slice Dz35 dz35.gs.length gz35]) rfl X0l (hB6.at 0) rfl) (ResV.cellN (l:=[vi ((canC dz12).1.n),.slice Az16 ((canC dz12).1.gs).length ez16,.slice Bz16 lz16.length fz16,vi ((canC dz12).2.2.n),.slice Dz16 ((canC dz12).2.2.gs).length gz16]) rfl X0l (hB10.at 0) rfl)) ?_)
  exact ⟨⟨cz35.n,cz35.gs⟩,lz35,⟨dz35.n,dz35.gs⟩,Az35,ez35,Bz35,fz35,Dz35,gz35,⟨(canC dz12).1.n,(canC dz12).1.gs⟩,lz16,⟨(canC dz12).2.2.n,(canC dz12).2.2.gs⟩,Az16,ez16,Bz16,fz16,Dz16,gz16,rfl,⟨(by first|omega|(dsimp only;omega)|(simp;done)),(by first|omega|(dsimp only;omega)|(simp;done)),(by first|omega|(dsimp only;omega)|(simp;done)),(by first|exact hPz12.2.2.2.2|exact hPz24.2.2.2.2|exact hPz35.2.2.2.2|exact hbs|(intro s hs;simp at hs;done))⟩,⟨(by first|omega|(dsimp only;omega)|(simp;done)),(by first|omega|(dsimp only;omega)|(simp;done)),(by first|omega|(dsimp only;omega)|(simp;done)),(by first|exact hPz12.2.2.2.2|exact hPz24.2.2.2.2|exact hPz35.2.2.2.2|exact hbs|(intro s hs;simp at hs;done))⟩,⟨hcbz35,hcdz35⟩,hraz35.top,hrdz35.top,hoz35.top,(hdpz35.top),⟨hcbz16,hcdz16⟩,hraz16.top,hrdz16.top,hoz16.rd.top,(hdpz16.top),hW⟩
 have hc45b:=hc45
 refine wp_skip ?_
 refine Xf ?_
 refine hK30 _ _ ?_
 refine wp_seq_k fun _ hK50=>?_
 refine Xu none (fun j=>[2,3].contains j) mixed ?_
 intro w31 hE
 replace hB6:=hB6.below hE
 replace hB10:=hB10.below hE
 replace hB13:=hB13.below hE
 replace hB21:=hB21.below hE
 replace hB29:=hB29.below hE
 replace hraz12:=hraz12.below hE
 replace hoz12:=hoz12.below hE
 replace hrdz12:=hrdz12.below hE
 replace hraz16:=hraz16.below hE
 replace hoz16:=hoz16.below hE
 replace hrdz16:=hrdz16.below hE
 replace hdpz12:=hdpz12.below hE
 replace hdpz16:=hdpz16.below hE
 replace hW:=btr hW hE
 refine Yb hf ?_
 refine Ye 0 rfl (Vn X0l hB21) ?_
 refine Y2 1 2 ?_ ?_
 ·refine Yz rfl trivial (Uev (Xj (l:=[vi ((canC dz12).1.n),.slice Az16 ((canC dz12).1.gs).length ez16,.slice Bz16 lz16.length fz16,vi ((canC dz12).2.2.n),.slice Dz16 ((canC dz12).2.2.gs).length gz16]) rfl X0l (hB29.at 0) rfl)) ?_
  refine Y1 2 ?_
  refine Yh rfl trivial rfl (Vw [vi cz12.n,.slice Az12 cz12.gs.length ez12,.slice Bz12 lz12.length fz12,vi dz12.n,.slice Dz12 dz12.gs.length gz12] X13 hB6) ?_;rintro _ w32 ⟨ho,hb⟩
  have hold:=hB6
  replace hB10:=hB10.only ho (by omega)
  replace hB13:=hB13.only ho (Blk.ne hB13 hold rfl)
  replace hB21:=hB21.only ho (by omega)
  replace hB29:=hB29.only ho (by omega)
  replace hraz12:=hraz12.onlyT ho hold rfl
  replace hoz12:=hoz12.onlyT ho hold rfl
  replace hrdz12:=hrdz12.onlyT ho hold rfl
  replace hraz16:=hraz16.onlyT ho hold rfl
  replace hoz16:=hoz16.onlyT ho hold rfl
  replace hrdz16:=hrdz16.onlyT ho hold rfl
  replace hdpz12:=hdpz12.onlyT ho hold rfl
  replace hdpz16:=hdpz16.onlyT ho hold rfl
  replace hW:=Below.only hW ho hlo6
  clear hold
  have hB6:=hb
  clear hb ho
  refine Y1 3 ?_
  refine Yh rfl trivial rfl (Vw [vi ((canC dz12).1.n),.slice Az16 ((canC dz12).1.gs).length ez16,.slice Bz16 lz16.length fz16,vi ((canC dz12).2.2.n),.slice Dz16 ((canC dz12).2.2.gs).length gz16] X13 hB10) ?_;rintro _ w33 ⟨ho,hb⟩
  have hold:=hB10
  replace hB6:=hB6.only ho (by omega)
  replace hB13:=hB13.only ho (Blk.ne hB13 hold rfl)
  replace hB21:=hB21.only ho (by omega)
  replace hB29:=hB29.only ho (by omega)
  replace hraz12:=hraz12.onlyT ho hold rfl
  replace hoz12:=hoz12.onlyT ho hold rfl
  replace hrdz12:=hrdz12.onlyT ho hold rfl
  replace hraz16:=hraz16.onlyT ho hold rfl
  replace hoz16:=hoz16.onlyT ho hold rfl
  replace hrdz16:=hrdz16.onlyT ho hold rfl
  replace hdpz12:=hdpz12.onlyT ho hold rfl
  replace hdpz16:=hdpz16.onlyT ho hold rfl
  replace hW:=Below.only hW ho hlo10
  clear hold
  have hB10:=hb
  clear hb ho
  refine Yd fun a hf=>?_
  refine hK50 _ _ ?_
  refine wp_ret (X2 hf (X0r hf rfl (ResV.cellN (l:=[vi cz12.n,.slice Az12 cz12.gs.length ez12,.slice Bz12 lz12.length fz12,vi dz12.n,.slice Dz12 dz12.gs.length gz12]) rfl X0l (hB6.at 0) rfl) (ResV.cellN (l:=[vi ((canC dz12).1.n),.slice Az16 ((canC dz12).1.gs).length ez16,.slice Bz16 lz16.length fz16,vi ((canC dz12).2.2.n),.slice Dz16 ((canC dz12).2.2.gs).length gz16]) rfl X0l (hB10.at 0) rfl)) ?_)
  exact ⟨⟨cz12.n,cz12.gs⟩,lz12,⟨dz12.n,dz12.gs⟩,Az12,ez12,Bz12,fz12,Dz12,gz12,⟨(canC dz12).1.n,(canC dz12).1.gs⟩,lz16,⟨(canC dz12).2.2.n,(canC dz12).2.2.gs⟩,Az16,ez16,Bz16,fz16,Dz16,gz16,rfl,⟨(by first|omega|(dsimp only;omega)|(simp;done)),(by first|omega|(dsimp only;omega)|(simp;done)),(by first|omega|(dsimp only;omega)|(simp;done)),(by first|exact hPz12.2.2.2.2|exact hPz24.2.2.2.2|exact hPz35.2.2.2.2|exact hbs|(intro s hs;simp at hs;done))⟩,⟨(by first|omega|(dsimp only;omega)|(simp;done)),(by first|omega|(dsimp only;omega)|(simp;done)),(by first|omega|(dsimp only;omega)|(simp;done)),(by first|exact hPz12.2.2.2.2|exact hPz24.2.2.2.2|exact hPz35.2.2.2.2|exact hbs|(intro s hs;simp at hs;done))⟩,⟨hcbz12,hcdz12⟩,hraz12.top,hrdz12.top,hoz12.rd.top,(hdpz12.top),⟨hcbz16,hcdz16⟩,hraz16.top,hrdz16.top,hoz16.rd.top,(hdpz16.top),hW⟩
 refine Yh rfl trivial rfl (Vw [vi cz12.n,.slice Az12 cz12.gs.length ez12,.slice Bz12 lz12.length fz12,vi dz12.n,.slice Dz12 dz12.gs.length gz12] X13 hB6) ?_;rintro _ w34 ⟨ho,hb⟩
 have hold:=hB6
 replace hB10:=hB10.only ho (by omega)
 replace hB13:=hB13.only ho (Blk.ne hB13 hold rfl)
 replace hB21:=hB21.only ho (by omega)
 replace hB29:=hB29.only ho (by omega)
 replace hraz12:=hraz12.onlyT ho hold rfl
 replace hoz12:=hoz12.onlyT ho hold rfl
 replace hrdz12:=hrdz12.onlyT ho hold rfl
 replace hraz16:=hraz16.onlyT ho hold rfl
 replace hoz16:=hoz16.onlyT ho hold rfl
 replace hrdz16:=hrdz16.onlyT ho hold rfl
 replace hdpz12:=hdpz12.onlyT ho hold rfl
 replace hdpz16:=hdpz16.onlyT ho hold rfl
 replace hW:=Below.only hW ho hlo6
 clear hold
 have hB6:=hb
 clear hb ho
 refine Y1 1 ?_
 refine Yz rfl trivial (Uev (Xj (l:=[vi ((canC dz12).1.n),.slice Az16 ((canC dz12).1.gs).length ez16,.slice Bz16 lz16.length fz16,vi ((canC dz12).2.2.n),.slice Dz16 ((canC dz12).2.2.gs).length gz16]) rfl X0l (hB29.at 0) rfl)) ?_
 refine Y1 3 ?_
 refine Yh rfl trivial rfl (Vw [vi ((canC dz12).1.n),.slice Az16 ((canC dz12).1.gs).length ez16,.slice Bz16 lz16.length fz16,vi ((canC dz12).2.2.n),.slice Dz16 ((canC dz12).2.2.gs).length gz16] X13 hB10) ?_;rintro _ w35 ⟨ho,hb⟩
 have hold:=hB10
 replace hB6:=hB6.only ho (by omega)
 replace hB13:=hB13.only ho (Blk.ne hB13 hold rfl)
 replace hB21:=hB21.only ho (by omega)
 replace hB29:=hB29.only ho (by omega)
 replace hraz12:=hraz12.onlyT ho hold rfl
 replace hoz12:=hoz12.onlyT ho hold rfl
 replace hrdz12:=hrdz12.onlyT ho hold rfl
 replace hraz16:=hraz16.onlyT ho hold rfl
 replace hoz16:=hoz16.onlyT ho hold rfl
 replace hrdz16:=hrdz16.onlyT ho hold rfl
 replace hdpz12:=hdpz12.onlyT ho hold rfl
 replace hdpz16:=hdpz16.onlyT ho hold rfl
 replace hW:=Below.only hW ho hlo10
 clear hold
 have hB10:=hb
 clear hb ho
 refine Yd fun a hf=>?_
 refine hK50 _ _ ?_
 refine wp_ret (X2 hf (X0r hf rfl (ResV.cellN (l:=[vi cz12.n,.slice Az12 cz12.gs.length ez12,.slice Bz12 lz12.length fz12,vi dz12.n,.slice Dz12 dz12.gs.length gz12]) rfl X0l (hB6.at 0) rfl) (ResV.cellN (l:=[vi ((canC dz12).1.n),.slice Az16 ((canC dz12).1.gs).length ez16,.slice Bz16 lz16.length fz16,vi ((canC dz12).2.2.n),.slice Dz16 ((canC dz12).2.2.gs).length gz16]) rfl X0l (hB10.at 0) rfl)) ?_)
 exact ⟨⟨cz12.n,cz12.gs⟩,lz12,⟨dz12.n,dz12.gs⟩,Az12,ez12,Bz12,fz12,Dz12,gz12,⟨(canC dz12).1.n,(canC dz12).1.gs⟩,lz16,⟨(canC dz12).2.2.n,(canC dz12).2.2.gs⟩,Az16,ez16,Bz16,fz16,Dz16,gz16,rfl,⟨(by first|omega|(dsimp only;omega)|(simp;done)),(by first|omega|(dsimp only;omega)|(simp;done)),(by first|omega|(dsimp only;omega)|(simp;done)),(by first|exact hPz12.2.2.2.2|exact hPz24.2.2.2.2|exact hPz35.2.2.2.2|exact hbs|(intro s hs;simp at hs;done))⟩,⟨(by first|omega|(dsimp only;omega)|(simp;done)),(by first|omega|(dsimp only;omega)|(simp;done)),(by first|omega|(dsimp only;omega)|(simp;done)),(by first|exact hPz12.2.2.2.2|exact hPz24.2.2.2.2|exact hPz35.2.2.2.2|exact hbs|(intro s hs;simp at hs;done))⟩,⟨hcbz12,hcdz12⟩,hraz12.top,hrdz12.top,hoz12.rd.top,(hdpz12.top),⟨hcbz16,hcdz16⟩,hraz16.top,hrdz16.top,hoz16.rd.top,(hdpz16.top),hW⟩
end Go.Proofs.YtlfjcmldfbfdbaaGreat
set_option maxRecDepth 4000
namespace Go.Proofs.YtlfjcmldfbfdbaaGreat
open Go.RowKit
theorem Xn1(w0:World){Xcd Xce:TypeId}(Ap:Option Addr)(cp:Nat)(p:List Int)(hr_p:Rd w0 w0.heap.size Xcd encU Ap p)(Aq:Option Addr)(cq:Nat)(q:List Int)(hr_q:Rd w0 w0.heap.size Xce encU Aq q) : Ret Tryz.prog 18 [.slice Ap p.length cp,.slice Aq q.length cq] w0 (fun v w=>v=.bool (decide (1048576<(p.length:Int))||decide (wr (1048576-(p.length:Int))<(q.length:Int)))∧Below w0.heap.size w0 w):=by
 refine enter Tryz.func18 rfl 16 rfl rfl ?_
 intro a hf
 have hW:Below w0.heap.size w0 w0:=Below.refl _ _
 refine Zs hf fun _ hK3=>?_
 refine Za rfl ?_
 refine Zt hK3 fun a hf=>?_
 refine wp_seq_k fun _ hK4=>?_
 refine X09 (fun a w=>Fr a 16 [(4,.bool ((decide (1048576<(p.length:Int)))||(decide ((wr (1048576-(p.length:Int)))<(q.length:Int)))))]∧w0=w) ?_ ?_
 ·refine Zr hf ?_
  refine Zm rfl<|Ze (X0v rfl X3y)<|Ze (X3d rfl rfl)<|Zm rfl ?_
  refine Zg 8 rfl (fun hg5=>?_) (fun hg5=>?_)
  ·refine Zp ⟨_,_,rfl,rfl,hg5⟩ ?_
   refine Zp ⟨_,_,rfl,rfl,hg5⟩ ?_
   refine Zp ⟨_,_,rfl,rfl,hg5⟩ ?_
   refine Zp ⟨_,_,rfl,rfl,hg5⟩ ?_
   refine Zp ⟨_,_,rfl,rfl,hg5⟩ ?_
   refine Zp ⟨_,_,rfl,rfl,hg5⟩ ?_
   refine Ze (Xc rfl hg5 rfl)<|Za rfl ?_
   refine Zn fun a hf=>?_
   exact ⟨hf.sub ⟨X1 rfl (by first|rfl|(simp only [hg5,bs];done)|simp [hg5]),trivial⟩,rfl⟩
  refine Zv ⟨_,_,rfl,rfl,hg5⟩ (X9 rfl) ?_
  refine Zv ⟨_,_,rfl,rfl,hg5⟩ (X0v rfl X3y) ?_
  refine Zv ⟨_,_,rfl,rfl,hg5⟩ (X9 rfl) ?_
  refine Zv ⟨_,_,rfl,rfl,hg5⟩ (X0v rfl X3y) ?_
  refine Zv ⟨_,_,rfl,rfl,hg5⟩ (X3j rfl rfl) ?_
  refine Zv ⟨_,_,rfl,rfl,hg5⟩ (X3d rfl rfl) ?_
  refine Ze (X7 rfl hg5 rfl)<|Za rfl ?_
  refine Zn fun a hf=>?_
  exact ⟨hf.sub ⟨X1 rfl (by first|rfl|(simp only [hg5,bs];done)|simp [hg5]),trivial⟩,rfl⟩
 rintro a _ ⟨hf,rfl⟩
 refine hK4 _ _ ?_
 refine wp_ret (X2 hf (Xo hf rfl rfl) ?_)
 exact ⟨rfl,hW⟩
theorem Xji(w0:World)(c:Cx)(Ac:Option Addr)(cc:Nat)(hr_c:Rd w0 w0.heap.size 24 encG Ac c.gs)(hp_c:c.gs.length≤cc)(Al:Option Addr)(cl:Nat)(l:List Sr)(hr_l:Rd w0 w0.heap.size 62 encSr Al l)(hd_l:DeepR w0 w0.heap.size 24 l)(d:Cx)(Ad:Option Addr)(cd:Nat)(hr_d:Rd w0 w0.heap.size 24 encG Ad d.gs)(hp_d:d.gs.length≤cd)(u:Cx)(Au:Option Addr)(cu:Nat)(hr_u:Rd w0 w0.heap.size 24 encG Au u.gs)(hp_u:u.gs.length≤cu)(Am:Option Addr)(cm:Nat)(m:List Sr)(hr_m:Rd w0 w0.heap.size 62 encSr Am m)(hd_m:DeepR w0 w0.heap.size 24 m)(y:Cx)(Ay:Option Addr)(cy:Nat)(hr_y:Rd w0 w0.heap.size 24 encG Ay y.gs)(hp_y:y.gs.length≤cy)(hlc:c.gs.length≤100000)(hll:l.length≤100000)(hls:∀ s ∈ l,s.old.length≤100000∧s.new.length≤100000)(hld:d.gs.length≤100000)(hml:m.length≤100000)(hms:∀ s ∈ m,s.old.length≤100000∧s.new.length≤100000)(hly:y.gs.length≤100000) : Ret Tryz.prog 24 [.agg #[vi c.n,.slice Ac c.gs.length cc,.slice Al l.length cl,vi d.n,.slice Ad d.gs.length cd],.agg #[vi u.n,.slice Au u.gs.length cu,.slice Am m.length cm,vi y.n,.slice Ay y.gs.length cy]] w0 (fun v w=>∃ (c1:Cx) (l1:List Sr) (d1:Cx) (A1:Option Addr) (e1:Nat) (B1:Option Addr) (f1:Nat) (D1:Option Addr) (g1:Nat),v=.tuple #[.agg #[vi c1.n,.slice A1 c1.gs.length e1,.slice B1 l1.length f1,vi d1.n,.slice D1 d1.gs.length g1],.bool (eqC d u&&decide (((l.length:Int)+(m.length:Int))≤400))]∧((eqC d u&&decide (((l.length:Int)+(m.length:Int))≤400))=true→c1=c∧l1.map Sr.rp=l.map Sr.rp++m.map Sr.rp∧d1=y)∧(c1.gs.length≤e1∧d1.gs.length≤g1)∧Rd w w.heap.size 24 encG A1 c1.gs∧Rd w w.heap.size 24 encG D1 d1.gs∧Rd w w.heap.size 62 encSr B1 l1∧DeepR w w.heap.size 24 l1∧Below w0.heap.size w0 w):=by
 refine enter Tryz.func24 rfl 37 rfl rfl ?_
 intro a hf
 have hW:Below w0.heap.size w0 w0:=Below.refl _ _
 refine Zs hf fun _ hK7=>?_
 refine Zf (X0p (zs:=[vi c.n,.slice Ac c.gs.length cc,.slice Al l.length cl,vi d.n,.slice Ad d.gs.length cd]) rfl rfl) ?_;rintro _ w1 ⟨b8,rfl,hl8,hE,hB8⟩
 have hlo8:=Nat.le_trans hW.size hl8
 replace hd_l:=hd_l.below hE
 replace hd_m:=hd_m.below hE
 replace hW:=btr hW hE
 refine Zf (X0p (zs:=[vi u.n,.slice Au u.gs.length cu,.slice Am m.length cm,vi y.n,.slice Ay y.gs.length cy]) rfl rfl) ?_;rintro _ w2 ⟨b9,rfl,hl9,hE,hB9⟩
 have hne8_9:b8≠b9:=by have:=hB8.lt;omega
 have hlo9:=Nat.le_trans hW.size hl9
 replace hB8:=hB8.below hE
 replace hd_l:=hd_l.below hE
 replace hd_m:=hd_m.below hE
 replace hW:=btr hW hE
 refine Zf (Xa (zs:=[vi 0,.slice none 0 0,.slice none 0 0,vi 0,.slice none 0 0]) X3g rfl) ?_;rintro _ w3 ⟨b13,rfl,hl13,hE,hB13⟩
 have hne8_13:b8≠b13:=by have:=hB8.lt;omega
 have hne9_13:b9≠b13:=by have:=hB9.lt;omega
 have hlo13:=Nat.le_trans hW.size hl13
 replace hB8:=hB8.below hE
 replace hB9:=hB9.below hE
 replace hd_l:=hd_l.below hE
 replace hd_m:=hd_m.below hE
 replace hW:=btr hW hE
 refine Za rfl ?_
 refine Zt hK7 fun a hf=>?_
 refine wp_seq_k fun _ hK14=>?_
 refine wp_seq_k fun _ hK15=>?_
 refine X09 (fun a w=>Fr a 37 [(2,.pointer (some ⟨b8,0,none⟩)),(3,.pointer (some ⟨b9,0,none⟩)),(4,.pointer (some ⟨b13,0,none⟩)),(21,.bool ((!(eqC d u))||(decide (400<((l.length:Int)+(m.length:Int))))))]∧Below w3.heap.size w3 w) ?_ ?_
 ·have hEc:Below w3.heap.size w3 w3:=Below.refl _ _
  refine Zr hf ?_
  refine Ze (Vd rfl X1l 3)<|Ze (Xj (l:=[vi d.n,.slice Ad d.gs.length cd]) rfl X0c ((hB8.at 3).take 2) rfl)<|Ze (Vd rfl X21 0)<|Ze (Xj (l:=[vi u.n,.slice Au u.gs.length cu]) rfl X0c ((hB9.at 0).take 2) rfl) ?_
  refine Zf (Vc (F67 _ d Ad cd (hr_d.below' hW).top u Au cu (hr_u.below' hW).top (by omega)) Xjg) ?_;rintro _ w4 ⟨rfl,hE⟩
  replace hB8:=hB8.below hE
  replace hB9:=hB9.below hE
  replace hB13:=hB13.below hE
  replace hd_l:=hd_l.below hE
  replace hd_m:=hd_m.below hE
  replace hW:=btr hW hE
  replace hEc:=btr hEc hE
  refine Ze (X15 rfl)<|Zm rfl ?_
  refine Zg 12 rfl (fun hg16=>?_) (fun hg16=>?_)
  ·refine Zp ⟨_,_,rfl,rfl,hg16⟩ ?_
   refine Zp ⟨_,_,rfl,rfl,hg16⟩ ?_
   refine Zp ⟨_,_,rfl,rfl,hg16⟩ ?_
   refine Zp ⟨_,_,rfl,rfl,hg16⟩ ?_
   refine Zp ⟨_,_,rfl,rfl,hg16⟩ ?_
   refine Zp ⟨_,_,rfl,rfl,hg16⟩ ?_
   refine Zp ⟨_,_,rfl,rfl,hg16⟩ ?_
   refine Zp ⟨_,_,rfl,rfl,hg16⟩ ?_
   refine Ze (Xc rfl hg16 rfl) ?_
   refine Zn fun a hf=>?_
   have hEE:Below w3.heap.size w3 w4:=hEc
   exact ⟨hf.sub ⟨rfl,rfl,rfl,X1 rfl (by first|rfl|(simp only [hg16,bs];done)|simp [hg16]),trivial⟩,hEE⟩
  refine Zv ⟨_,_,rfl,rfl,hg16⟩ (Vd rfl X0y 2) ?_
  refine Zv ⟨_,_,rfl,rfl,hg16⟩ (X0 rfl X1z (hB8.at 2)) ?_
  refine Zv ⟨_,_,rfl,rfl,hg16⟩ (X0v rfl X17) ?_
  refine Zv ⟨_,_,rfl,rfl,hg16⟩ (Vd rfl X0y 2) ?_
  refine Zv ⟨_,_,rfl,rfl,hg16⟩ (X0 rfl X1z (hB9.at 2)) ?_
  refine Zv ⟨_,_,rfl,rfl,hg16⟩ (X0v rfl X17) ?_
  refine Zv ⟨_,_,rfl,rfl,hg16⟩ (Xv rfl rfl (by omega) (by omega)) ?_
  refine Zv ⟨_,_,rfl,rfl,hg16⟩ (X3d rfl rfl) ?_
  refine Ze (X7 rfl hg16 rfl) ?_
  refine Zn fun a hf=>?_
  have hEE:Below w3.heap.size w3 w4:=hEc
  exact ⟨hf.sub ⟨rfl,rfl,rfl,X1 rfl (by first|rfl|(simp only [hg16,bs];done)|simp [hg16]),trivial⟩,hEE⟩
 rintro a w5 ⟨hf,hE⟩
 replace hB8:=hB8.below hE
 replace hB9:=hB9.below hE
 replace hB13:=hB13.below hE
 replace hd_l:=hd_l.below hE
 replace hd_m:=hd_m.below hE
 replace hW:=btr hW hE
 refine hK15 _ _ ?_
 refine Xi hf rfl (fun hc17=>?_) (fun hc17=>?_)
 ·have hc17b:=hc17
  have hok:(eqC d u&&decide (((l.length:Int)+(m.length:Int))≤400))=false:=by revert hc17;cases eqC d u<;>simp<;>omega
  refine Zs hf fun _ hK18=>?_
  refine Ze (Xh (ps:=[]) (cs:=[vi 0,.slice none 0 0,.slice none 0 0,vi 0,.slice none 0 0]) rfl (fun _=>by first|rfl|kernel_rfl)) ?_
  refine Zo (Vw [vi 0,.slice none 0 0,.slice none 0 0,vi 0,.slice none 0 0] X13 hB13) ?_;rintro _ w6 ⟨ho,hb⟩
  have hold:=hB13
  replace hB8:=hB8.only ho (by omega)
  replace hB9:=hB9.only ho (by omega)
  replace hd_l:=hd_l.only ho hlo13
  replace hd_m:=hd_m.only ho hlo13
  replace hW:=Below.only hW ho hlo13
  clear hold
  have hB13:=hb
  clear hb ho
  refine Za rfl ?_
  refine Zt hK18 fun a hf=>?_
  refine wp_ret ?_
  refine X8 ?_
  refine X2 hf (X0r hf rfl (ResV.cellN (l:=[vi 0,.slice none 0 0,.slice none 0 0,vi 0,.slice none 0 0]) rfl X0l (hB13.at 0) rfl) rfl) ?_
  rw [hok]
  exact ⟨⟨0,([] : List Gt)⟩,([] : List Sr),⟨0,([] : List Gt)⟩,none,0,none,0,none,0,rfl,(fun h0=>by cases h0),⟨(Nat.zero_le _),(Nat.zero_le _)⟩,(Rd.nil _ _ _ _ _),(Rd.nil _ _ _ _ _),(Rd.nil _ _ _ _ _),(DeepR.nil _ _ _),hW⟩
 have hc17b:=hc17
 have hok:(eqC d u&&decide (((l.length:Int)+(m.length:Int))≤400))=true:=by revert hc17;cases eqC d u<;>simp<;>omega
 refine wp_skip ?_
 refine hK14 _ _ ?_
 refine wp_seq_k fun _ hK22=>?_
 refine Xu none (fun j=>[9,14].contains j) mixed ?_
 intro w7 hE
 replace hB8:=hB8.below hE
 replace hB9:=hB9.below hE
 replace hB13:=hB13.below hE
 replace hd_l:=hd_l.below hE
 replace hd_m:=hd_m.below hE
 replace hW:=btr hW hE
 refine Yb hf ?_
 refine Yo 0 rfl (fun _=>Vd rfl X21 0)<|Ye 1 rfl (Xj (l:=[vi c.n,.slice Ac c.gs.length cc]) rfl X0c ((hB8.at 0).take 2) rfl)<|Yo 3 rfl (fun _=>Vd rfl X0y 2)<|Ye 4 rfl (X0 rfl X1z (hB8.at 2))<|Yo 6 rfl (fun _=>Vd rfl X0y 2) ?_
 refine Ye 7 rfl (X0 rfl X1z (hB9.at 2))<|Yo 10 rfl (fun _=>Vd rfl X1l 3) ?_
 refine Y2 2 11 ?_ ?_
 ·refine Yk rfl trivial (Vc (X7p _ c Ac cc (hr_c.below' hW).top (by omega)) X45) (fun _ _ ⟨A23,c23,_,ho23,hE⟩=>hE) ?_;rintro _ w8 ⟨A23,c23,rfl,ho23,hE⟩
  replace ho23:=ho23.lower hW.size
  replace hB8:=hB8.below hE
  replace hB9:=hB9.below hE
  replace hB13:=hB13.below hE
  replace hd_l:=hd_l.below hE
  replace hd_m:=hd_m.below hE
  replace hW:=btr hW hE
  refine Y2 5 11 ?_ ?_
  ·refine Yk rfl trivial (Vc (X81 _ Al cl l (hr_l.below' hW).top hd_l.top (by omega) hls) X3t) (fun _ _ ⟨m28,A24,c24,_,hm28,ho24,hdp24,hE⟩=>hE) ?_;rintro _ w9 ⟨m28,A24,c24,rfl,hm28,ho24,hdp24,hE⟩
   replace ho24:=ho24.lower hW.size
   replace hB8:=hB8.below hE
   replace hB9:=hB9.below hE
   replace hB13:=hB13.below hE
   replace ho23:=ho23.below hE
   replace hd_l:=hd_l.below hE
   replace hd_m:=hd_m.below hE
   replace hW:=btr hW hE
   have hlm28:m28.length=l.length:=by simpa using congrArg List.length hm28
   refine Y2 8 11 ?_ ?_
   ·refine Yk rfl trivial (Vc (X81 _ Am cm m (hr_m.below' hW).top hd_m.top (by omega) hms) X3t) (fun _ _ ⟨m31,A25,c25,_,hm31,ho25,hdp25,hE⟩=>hE) ?_;rintro _ w10 ⟨m31,A25,c25,rfl,hm31,ho25,hdp25,hE⟩
    have hap24_25:=ho24.apart ho25 (Nat.le_refl _)
    replace ho25:=ho25.lower hW.size
    replace hB8:=hB8.below hE
    replace hB9:=hB9.below hE
    replace hB13:=hB13.below hE
    replace ho23:=ho23.below hE
    replace ho24:=ho24.below hE
    replace hd_l:=hd_l.below hE
    replace hd_m:=hd_m.below hE
    replace hdp24:=hdp24.below hE
    replace hW:=btr hW hE
    have hlm31:m31.length=m.length:=by simpa using congrArg List.length hm31
    refine Y2 9 11 ?_ ?_
    ·refine Yt rfl trivial rfl (X0f (enc:=encSr) (l:=(m28)) (l2:=(m31)) (B0:=w0.heap.size) rfl rfl X17 X1w X19 X1t ho24 ho25.rd (by simp only [maxLen];omega) (by omega) hW.size) ?_;rintro _ w11 ⟨A26,c26,rfl,ho26,hg,hat⟩
     have hown:Own _ w0.heap.size 62 3 encSr _ _ (m28):=ho24
     have hap25_26:=Apart.app ho25 hap24_25.symm hat
     clear hat
     have hdp26:=DeepR.cat (hdp24.top) (hdp25.top)
     replace hB8:=hB8.appT hown hg rfl
     replace hB9:=hB9.appT hown hg rfl
     replace hB13:=hB13.appT hown hg rfl
     replace ho23:=ho23.appT hown hg rfl
     replace ho25:=ho25.appP hg hap24_25.symm
     replace hd_l:=hd_l.appB hown hg (Nat.le_refl _)
     replace hd_m:=hd_m.appB hown hg (Nat.le_refl _)
     replace hdp25:=hdp25.appT hown hg rfl
     replace hdp26:=hdp26.appT hown hg rfl
     replace hW:=Below.app hW hown hg (Nat.le_refl _) hW.size
     clear hown hg
     refine Y1 11 ?_
     refine Yz rfl trivial (Uev (Xj (l:=[vi y.n,.slice Ay y.gs.length cy]) rfl X0c ((hB9.at 3).take 2) rfl)) ?_
     refine Y1 12 ?_
     refine Yk rfl trivial (Vc (X7p _ y Ay cy (hr_y.below' hW).top (by omega)) X45) (fun _ _ ⟨A27,c27,_,ho27,hE⟩=>hE) ?_;rintro _ w12 ⟨A27,c27,rfl,ho27,hE⟩
     have hap23_27:=ho23.apart ho27 (Nat.le_refl _)
     replace ho27:=ho27.lower hW.size
     replace hB8:=hB8.below hE
     replace hB9:=hB9.below hE
     replace hB13:=hB13.below hE
     replace ho23:=ho23.below hE
     replace ho25:=ho25.below hE
     replace ho26:=ho26.below hE
     replace hd_l:=hd_l.below hE
     replace hd_m:=hd_m.below hE
     replace hdp25:=hdp25.below hE
     replace hdp26:=hdp26.below hE
     replace hW:=btr hW hE
     refine Yo 13 rfl (fun _=>Xh (ps:=[(0,.agg #[vi c.n,.slice A23 c.gs.length c23]),(1,.slice A26 (m28++m31).length c26),(2,.agg #[vi y.n,.slice A27 y.gs.length c27])]) (cs:=[vi c.n,.slice A23 c.gs.length c23,.slice A26 (m28++m31).length c26,vi y.n,.slice A27 y.gs.length c27]) rfl (fun _=>by first|rfl|kernel_rfl)) ?_
     refine Y1 14 ?_
     refine Yh rfl trivial rfl (Vw [vi c.n,.slice A23 c.gs.length c23,.slice A26 (m28++m31).length c26,vi y.n,.slice A27 y.gs.length c27] X13 hB13) ?_;rintro _ w13 ⟨ho,hb⟩
     have hold:=hB13
     replace hB8:=hB8.only ho (by omega)
     replace hB9:=hB9.only ho (by omega)
     replace ho23:=ho23.onlyT ho hold rfl
     replace ho25:=ho25.onlyT ho hold rfl
     replace ho26:=ho26.onlyT ho hold rfl
     replace ho27:=ho27.onlyT ho hold rfl
     replace hd_l:=hd_l.only ho hlo13
     replace hd_m:=hd_m.only ho hlo13
     replace hdp25:=hdp25.onlyT ho hold rfl
     replace hdp26:=hdp26.onlyT ho hold rfl
     replace hW:=Below.only hW ho hlo13
     clear hold
     have hB13:=hb
     clear hb ho
     refine Yo 15 rfl (fun _=>X0x rfl) ?_
     refine Yd fun a hf=>?_
     refine hK22 _ _ ?_
     refine wp_ret (X2 hf (X0r hf rfl (ResV.cellN (l:=[vi c.n,.slice A23 c.gs.length c23,.slice A26 (m28++m31).length c26,vi y.n,.slice A27 y.gs.length c27]) rfl X0l (hB13.at 0) rfl) rfl) ?_)
     rw [hok]
     exact ⟨⟨c.n,c.gs⟩,m28++m31,⟨y.n,y.gs⟩,A23,c23,A26,c26,A27,c27,rfl,(fun _=>⟨rfl,(by rw [List.map_append,hm28,hm31]),rfl⟩),⟨ho23.cap,ho27.cap⟩,ho23.rd.top,ho27.rd.top,ho26.rd.top,(hdp26.top),hW⟩
    refine Yz rfl trivial (Uev (Xj (l:=[vi y.n,.slice Ay y.gs.length cy]) rfl X0c ((hB9.at 3).take 2) rfl)) ?_
    refine Y1 9 ?_
    refine Yt rfl trivial rfl (X0f (enc:=encSr) (l:=(m28)) (l2:=(m31)) (B0:=w0.heap.size) rfl rfl X17 X1w X19 X1t ho24 ho25.rd (by simp only [maxLen];omega) (by omega) hW.size) ?_;rintro _ w14 ⟨A31,c31,rfl,ho31,hg,hat⟩
    have hown:Own _ w0.heap.size 62 3 encSr _ _ (m28):=ho24
    have hap25_31:=Apart.app ho25 hap24_25.symm hat
    clear hat
    have hdp31:=DeepR.cat (hdp24.top) (hdp25.top)
    replace hB8:=hB8.appT hown hg rfl
    replace hB9:=hB9.appT hown hg rfl
    replace hB13:=hB13.appT hown hg rfl
    replace ho23:=ho23.appT hown hg rfl
    replace ho25:=ho25.appP hg hap24_25.symm
    replace hd_l:=hd_l.appB hown hg (Nat.le_refl _)
    replace hd_m:=hd_m.appB hown hg (Nat.le_refl _)
    replace hdp25:=hdp25.appT hown hg rfl
    replace hdp31:=hdp31.appT hown hg rfl
    replace hW:=Below.app hW hown hg (Nat.le_refl _) hW.size
    clear hown hg
    refine Y1 12 ?_
    refine Yk rfl trivial (Vc (X7p _ y Ay cy (hr_y.below' hW).top (by omega)) X45) (fun _ _ ⟨A32,c32,_,ho32,hE⟩=>hE) ?_;rintro _ w15 ⟨A32,c32,rfl,ho32,hE⟩
    have hap23_32:=ho23.apart ho32 (Nat.le_refl _)
    replace ho32:=ho32.lower hW.size
    replace hB8:=hB8.below hE
    replace hB9:=hB9.below hE
    replace hB13:=hB13.below hE
    replace ho23:=ho23.below hE
    replace ho25:=ho25.below hE
    replace ho31:=ho31.below hE
    replace hd_l:=hd_l.below hE
    replace hd_m:=hd_m.below hE
    replace hdp25:=hdp25.below hE
    replace hdp31:=hdp31.below hE
    replace hW:=btr hW hE
    refine Yo 13 rfl (fun _=>Xh (ps:=[(0,.agg #[vi c.n,.slice A23 c.gs.length c23]),(1,.slice A31 (m28++m31).length c31),(2,.agg #[vi y.n,.slice A32 y.gs.length c32])]) (cs:=[vi c.n,.slice A23 c.gs.length c23,.slice A31 (m28++m31).length c31,vi y.n,.slice A32 y.gs.length c32]) rfl (fun _=>by first|rfl|kernel_rfl)) ?_
    refine Y1 14 ?_
    refine Yh rfl trivial rfl (Vw [vi c.n,.slice A23 c.gs.length c23,.slice A31 (m28++m31).length c31,vi y.n,.slice A32 y.gs.length c32] X13 hB13) ?_;rintro _ w16 ⟨ho,hb⟩
    have hold:=hB13
    replace hB8:=hB8.only ho (by omega)
    replace hB9:=hB9.only ho (by omega)
    replace ho23:=ho23.onlyT ho hold rfl
    replace ho25:=ho25.onlyT ho hold rfl
    replace ho31:=ho31.onlyT ho hold rfl
    replace ho32:=ho32.onlyT ho hold rfl
    replace hd_l:=hd_l.only ho hlo13
    replace hd_m:=hd_m.only ho hlo13
    replace hdp25:=hdp25.onlyT ho hold rfl
    replace hdp31:=hdp31.onlyT ho hold rfl
    replace hW:=Below.only hW ho hlo13
    clear hold
    have hB13:=hb
    clear hb ho
    refine Yo 15 rfl (fun _=>X0x rfl) ?_
    refine Yd fun a hf=>?_
    refine hK22 _ _ ?_
    refine wp_ret (X2 hf (X0r hf rfl (ResV.cellN (l:=[vi c.n,.slice A23 c.gs.length c23,.slice A31 (m28++m31).length c31,vi y.n,.slice A32 y.gs.length c32]) rfl X0l (hB13.at 0) rfl) rfl) ?_)
    rw [hok]
    exact ⟨⟨c.n,c.gs⟩,m28++m31,⟨y.n,y.gs⟩,A23,c23,A31,c31,A32,c32,rfl,(fun _=>⟨rfl,(by rw [List.map_append,hm28,hm31]),rfl⟩),⟨ho23.cap,ho32.cap⟩,ho23.rd.top,ho32.rd.top,ho31.rd.top,(hdp31.top),hW⟩
   refine Yz rfl trivial (Uev (Xj (l:=[vi y.n,.slice Ay y.gs.length cy]) rfl X0c ((hB9.at 3).take 2) rfl)) ?_
   refine Y1 8 ?_
   refine Yk rfl trivial (Vc (X81 _ Am cm m (hr_m.below' hW).top hd_m.top (by omega) hms) X3t) (fun _ _ ⟨m31,A36,c36,_,hm31,ho36,hdp36,hE⟩=>hE) ?_;rintro _ w17 ⟨m31,A36,c36,rfl,hm31,ho36,hdp36,hE⟩
   have hap24_36:=ho24.apart ho36 (Nat.le_refl _)
   replace ho36:=ho36.lower hW.size
   replace hB8:=hB8.below hE
   replace hB9:=hB9.below hE
   replace hB13:=hB13.below hE
   replace ho23:=ho23.below hE
   replace ho24:=ho24.below hE
   replace hd_l:=hd_l.below hE
   replace hd_m:=hd_m.below hE
   replace hdp24:=hdp24.below hE
   replace hW:=btr hW hE
   have hlm31:m31.length=m.length:=by simpa using congrArg List.length hm31
   refine Y1 9 ?_
   refine Yt rfl trivial rfl (X0f (enc:=encSr) (l:=(m28)) (l2:=(m31)) (B0:=w0.heap.size) rfl rfl X17 X1w X19 X1t ho24 ho36.rd (by simp only [maxLen];omega) (by omega) hW.size) ?_;rintro _ w18 ⟨A37,c37,rfl,ho37,hg,hat⟩
   have hown:Own _ w0.heap.size 62 3 encSr _ _ (m28):=ho24
   have hap36_37:=Apart.app ho36 hap24_36.symm hat
   clear hat
   have hdp37:=DeepR.cat (hdp24.top) (hdp36.top)
   replace hB8:=hB8.appT hown hg rfl
   replace hB9:=hB9.appT hown hg rfl
   replace hB13:=hB13.appT hown hg rfl
   replace ho23:=ho23.appT hown hg rfl
   replace ho36:=ho36.appP hg hap24_36.symm
   replace hd_l:=hd_l.appB hown hg (Nat.le_refl _)
   replace hd_m:=hd_m.appB hown hg (Nat.le_refl _)
   replace hdp36:=hdp36.appT hown hg rfl
   replace hdp37:=hdp37.appT hown hg rfl
   replace hW:=Below.app hW hown hg (Nat.le_refl _) hW.size
   clear hown hg
   refine Y1 12 ?_
   refine Yk rfl trivial (Vc (X7p _ y Ay cy (hr_y.below' hW).top (by omega)) X45) (fun _ _ ⟨A38,c38,_,ho38,hE⟩=>hE) ?_;rintro _ w19 ⟨A38,c38,rfl,ho38,hE⟩
   have hap23_38:=ho23.apart ho38 (Nat.le_refl _)
   replace ho38:=ho38.lower hW.size
   replace hB8:=hB8.below hE
   replace hB9:=hB9.below hE
   replace hB13:=hB13.below hE
   replace ho23:=ho23.below hE
   replace ho36:=ho36.below hE
   replace ho37:=ho37.below hE
   replace hd_l:=hd_l.below hE
   replace hd_m:=hd_m.below hE
   replace hdp36:=hdp36.below hE
   replace hdp37:=hdp37.below hE
   replace hW:=btr hW hE
   refine Yo 13 rfl (fun _=>Xh (ps:=[(0,.agg #[vi c.n,.slice A23 c.gs.length c23]),(1,.slice A37 (m28++m31).length c37),(2,.agg #[vi y.n,.slice A38 y.gs.length c38])]) (cs:=[vi c.n,.slice A23 c.gs.length c23,.slice A37 (m28++m31).length c37,vi y.n,.slice A38 y.gs.length c38]) rfl (fun _=>by first|rfl|kernel_rfl)) ?_
   refine Y1 14 ?_
   refine Yh rfl trivial rfl (Vw [vi c.n,.slice A23 c.gs.length c23,.slice A37 (m28++m31).length c37,vi y.n,.slice A38 y.gs.length c38] X13 hB13) ?_;rintro _ w20 ⟨ho,hb⟩
   have hold:=hB13
   replace hB8:=hB8.only ho (by omega)
   replace hB9:=hB9.only ho (by omega)
   replace ho23:=ho23.onlyT ho hold rfl
   replace ho36:=ho36.onlyT ho hold rfl
   replace ho37:=ho37.onlyT ho hold rfl
   replace ho38:=ho38.onlyT ho hold rfl
   replace hd_l:=hd_l.only ho hlo13
   replace hd_m:=hd_m.only ho hlo13
   replace hdp36:=hdp36.onlyT ho hold rfl
   replace hdp37:=hdp37.onlyT ho hold rfl
   replace hW:=Below.only hW ho hlo13
   clear hold
   have hB13:=hb
   clear hb ho
   refine Yo 15 rfl (fun _=>X0x rfl) ?_
   refine Yd fun a hf=>?_
   refine hK22 _ _ ?_
   refine wp_ret (X2 hf (X0r hf rfl (ResV.cellN (l:=[vi c.n,.slice A23 c.gs.length c23,.slice A37 (m28++m31).length c37,vi y.n,.slice A38 y.gs.length c38]) rfl X0l (hB13.at 0) rfl) rfl) ?_)
   rw [hok]
   exact ⟨⟨c.n,c.gs⟩,m28++m31,⟨y.n,y.gs⟩,A23,c23,A37,c37,A38,c38,rfl,(fun _=>⟨rfl,(by rw [List.map_append,hm28,hm31]),rfl⟩),⟨ho23.cap,ho38.cap⟩,ho23.rd.top,ho38.rd.top,ho37.rd.top,(hdp37.top),hW⟩
  refine Yz rfl trivial (Uev (Xj (l:=[vi y.n,.slice Ay y.gs.length cy]) rfl X0c ((hB9.at 3).take 2) rfl)) ?_
  refine Y1 5 ?_
  refine Yk rfl trivial (Vc (X81 _ Al cl l (hr_l.below' hW).top hd_l.top (by omega) hls) X3t) (fun _ _ ⟨m28,A42,c42,_,hm28,ho42,hdp42,hE⟩=>hE) ?_;rintro _ w21 ⟨m28,A42,c42,rfl,hm28,ho42,hdp42,hE⟩
  replace ho42:=ho42.lower hW.size
  replace hB8:=hB8.below hE
  replace hB9:=hB9.below hE
  replace hB13:=hB13.below hE
  replace ho23:=ho23.below hE
  replace hd_l:=hd_l.below hE
  replace hd_m:=hd_m.below hE
  replace hW:=btr hW hE
  have hlm28:m28.length=l.length:=by simpa using congrArg List.length hm28
  refine Y1 8 ?_
  refine Yk rfl trivial (Vc (X81 _ Am cm m (hr_m.below' hW).top hd_m.top (by omega) hms) X3t) (fun _ _ ⟨m31,A43,c43,_,hm31,ho43,hdp43,hE⟩=>hE) ?_;rintro _ w22 ⟨m31,A43,c43,rfl,hm31,ho43,hdp43,hE⟩
  have hap42_43:=ho42.apart ho43 (Nat.le_refl _)
  replace ho43:=ho43.lower hW.size
  replace hB8:=hB8.below hE
  replace hB9:=hB9.below hE
  replace hB13:=hB13.below hE
  replace ho23:=ho23.below hE
  replace ho42:=ho42.below hE
  replace hd_l:=hd_l.below hE
  replace hd_m:=hd_m.below hE
  replace hdp42:=hdp42.below hE
  replace hW:=btr hW hE
  have hlm31:m31.length=m.length:=by simpa using congrArg List.length hm31
  refine Y1 9 ?_
  refine Yt rfl trivial rfl (X0f (enc:=encSr) (l:=(m28)) (l2:=(m31)) (B0:=w0.heap.size) rfl rfl X17 X1w X19 X1t ho42 ho43.rd (by simp only [maxLen];omega) (by omega) hW.size) ?_;rintro _ w23 ⟨A44,c44,rfl,ho44,hg,hat⟩
  have hown:Own _ w0.heap.size 62 3 encSr _ _ (m28):=ho42
  have hap43_44:=Apart.app ho43 hap42_43.symm hat
  clear hat
  have hdp44:=DeepR.cat (hdp42.top) (hdp43.top)
  replace hB8:=hB8.appT hown hg rfl
  replace hB9:=hB9.appT hown hg rfl
  replace hB13:=hB13.appT hown hg rfl
  replace ho23:=ho23.appT hown hg rfl
  replace ho43:=ho43.appP hg hap42_43.symm
  replace hd_l:=hd_l.appB hown hg (Nat.le_refl _)
  replace hd_m:=hd_m.appB hown hg (Nat.le_refl _)
  replace hdp43:=hdp43.appT hown hg rfl
  replace hdp44:=hdp44.appT hown hg rfl
  replace hW:=Below.app hW hown hg (Nat.le_refl _) hW.size
  clear hown hg
  refine Y1 12 ?_
  refine Yk rfl trivial (Vc (X7p _ y Ay cy (hr_y.below' hW).top (by omega)) X45) (fun _ _ ⟨A45,c45,_,ho45,hE⟩=>hE) ?_;rintro _ w24 ⟨A45,c45,rfl,ho45,hE⟩
  have hap23_45:=ho23.apart ho45 (Nat.le_refl _)
  replace ho45:=ho45.lower hW.size
  replace hB8:=hB8.below hE
  replace hB9:=hB9.below hE
  replace hB13:=hB13.below hE
  replace ho23:=ho23.below hE
  replace ho43:=ho43.below hE
  replace ho44:=ho44.below hE
  replace hd_l:=hd_l.below hE
  replace hd_m:=hd_m.below hE
  replace hdp43:=hdp43.below hE
  replace hdp44:=hdp44.below hE
  replace hW:=btr hW hE
  refine Yo 13 rfl (fun _=>Xh (ps:=[(0,.agg #[vi c.n,.slice A23 c.gs.length c23]),(1,.slice A44 (m28++m31).length c44),(2,.agg #[vi y.n,.slice A45 y.gs.length c45])]) (cs:=[vi c.n,.slice A23 c.gs.length c23,.slice A44 (m28++m31).length c44,vi y.n,.slice A45 y.gs.length c45]) rfl (fun _=>by first|rfl|kernel_rfl)) ?_
  refine Y1 14 ?_
  refine Yh rfl trivial rfl (Vw [vi c.n,.slice A23 c.gs.length c23,.slice A44 (m28++m31).length c44,vi y.n,.slice A45 y.gs.length c45] X13 hB13) ?_;rintro _ w25 ⟨ho,hb⟩
  have hold:=hB13
  replace hB8:=hB8.only ho (by omega)
  replace hB9:=hB9.only ho (by omega)
  replace ho23:=ho23.onlyT ho hold rfl
  replace ho43:=ho43.onlyT ho hold rfl
  replace ho44:=ho44.onlyT ho hold rfl
  replace ho45:=ho45.onlyT ho hold rfl
  replace hd_l:=hd_l.only ho hlo13
  replace hd_m:=hd_m.only ho hlo13
  replace hdp43:=hdp43.onlyT ho hold rfl
  replace hdp44:=hdp44.onlyT ho hold rfl
  replace hW:=Below.only hW ho hlo13
  clear hold
  have hB13:=hb
  clear hb ho
  refine Yo 15 rfl (fun _=>X0x rfl) ?_
  refine Yd fun a hf=>?_
  refine hK22 _ _ ?_
  refine wp_ret (X2 hf (X0r hf rfl (ResV.cellN (l:=[vi c.n,.slice A23 c.gs.length c23,.slice A44 (m28++m31).length c44,vi y.n,.slice A45 y.gs.length c45]) rfl X0l (hB13.at 0) rfl) rfl) ?_)
  rw [hok]
  exact ⟨⟨c.n,c.gs⟩,m28++m31,⟨y.n,y.gs⟩,A23,c23,A44,c44,A45,c45,rfl,(fun _=>⟨rfl,(by rw [List.map_append,hm28,hm31]),rfl⟩),⟨ho23.cap,ho45.cap⟩,ho23.rd.top,ho45.rd.top,ho44.rd.top,(hdp44.top),hW⟩
 refine Yz rfl trivial (Uev (Xj (l:=[vi y.n,.slice Ay y.gs.length cy]) rfl X0c ((hB9.at 3).take 2) rfl)) ?_
 refine Y1 2 ?_
 refine Yk rfl trivial (Vc (X7p _ c Ac cc (hr_c.below' hW).top (by omega)) X45) (fun _ _ ⟨A49,c49,_,ho49,hE⟩=>hE) ?_;rintro _ w26 ⟨A49,c49,rfl,ho49,hE⟩
 replace ho49:=ho49.lower hW.size
 replace hB8:=hB8.below hE
 replace hB9:=hB9.below hE
 replace hB13:=hB13.below hE
 replace hd_l:=hd_l.below hE
 replace hd_m:=hd_m.below hE
 replace hW:=btr hW hE
 refine Y1 5 ?_
 refine Yk rfl trivial (Vc (X81 _ Al cl l (hr_l.below' hW).top hd_l.top (by omega) hls) X3t) (fun _ _ ⟨m28,A50,c50,_,hm28,ho50,hdp50,hE⟩=>hE) ?_;rintro _ w27 ⟨m28,A50,c50,rfl,hm28,ho50,hdp50,hE⟩
 replace ho50:=ho50.lower hW.size
 replace hB8:=hB8.below hE
 replace hB9:=hB9.below hE
 replace hB13:=hB13.below hE
 replace ho49:=ho49.below hE
 replace hd_l:=hd_l.below hE
 replace hd_m:=hd_m.below hE
 replace hW:=btr hW hE
 have hlm28:m28.length=l.length:=by simpa using congrArg List.length hm28
 refine Y1 8 ?_
 refine Yk rfl trivial (Vc (X81 _ Am cm m (hr_m.below' hW).top hd_m.top (by omega) hms) X3t) (fun _ _ ⟨m31,A51,c51,_,hm31,ho51,hdp51,hE⟩=>hE) ?_;rintro _ w28 ⟨m31,A51,c51,rfl,hm31,ho51,hdp51,hE⟩
 have hap50_51:=ho50.apart ho51 (Nat.le_refl _)
 replace ho51:=ho51.lower hW.size
 replace hB8:=hB8.below hE
 replace hB9:=hB9.below hE
 replace hB13:=hB13.below hE
 replace ho49:=ho49.below hE
 replace ho50:=ho50.below hE
 replace hd_l:=hd_l.below hE
 replace hd_m:=hd_m.below hE
 replace hdp50:=hdp50.below hE
 replace hW:=btr hW hE
 have hlm31:m31.length=m.length:=by simpa using congrArg List.length hm31
 refine Y1 9 ?_
 refine Yt rfl trivial rfl (X0f (enc:=encSr) (l:=(m28)) (l2:=(m31)) (B0:=w0.heap.size) rfl rfl X17 X1w X19 X1t ho50 ho51.rd (by simp only [maxLen];omega) (by omega) hW.size) ?_;rintro _ w29 ⟨A52,c52,rfl,ho52,hg,hat⟩
 have hown:Own _ w0.heap.size 62 3 encSr _ _ (m28):=ho50
 have hap51_52:=Apart.app ho51 hap50_51.symm hat
 clear hat
 have hdp52:=DeepR.cat (hdp50.top) (hdp51.top)
 replace hB8:=hB8.appT hown hg rfl
 replace hB9:=hB9.appT hown hg rfl
 replace hB13:=hB13.appT hown hg rfl
 replace ho49:=ho49.appT hown hg rfl
 replace ho51:=ho51.appP hg hap50_51.symm
 replace hd_l:=hd_l.appB hown hg (Nat.le_refl _)
 replace hd_m:=hd_m.appB hown hg (Nat.le_refl _)
 replace hdp51:=hdp51.appT hown hg rfl
 replace hdp52:=hdp52.appT hown hg rfl
 replace hW:=Below.app hW hown hg (Nat.le_refl _) hW.size
 clear hown hg
 refine Y1 12 ?_
 refine Yk rfl trivial (Vc (X7p _ y Ay cy (hr_y.below' hW).top (by omega)) X45) (fun _ _ ⟨A53,c53,_,ho53,hE⟩=>hE) ?_;rintro _ w30 ⟨A53,c53,rfl,ho53,hE⟩
 have hap49_53:=ho49.apart ho53 (Nat.le_refl _)
 replace ho53:=ho53.lower hW.size
 replace hB8:=hB8.below hE
 replace hB9:=hB9.below hE
 replace hB13:=hB13.below hE
 replace ho49:=ho49.below hE
 replace ho51:=ho51.below hE
 replace ho52:=ho52.below hE
 replace hd_l:=hd_l.below hE
 replace hd_m:=hd_m.below hE
 replace hdp51:=hdp51.below hE
 replace hdp52:=hdp52.below hE
 replace hW:=btr hW hE
 refine Yo 13 rfl (fun _=>Xh (ps:=[(0,.agg #[vi c.n,.slice A49 c.gs.length c49]),(1,.slice A52 (m28++m31).length c52),(2,.agg #[vi y.n,.slice A53 y.gs.length c53])]) (cs:=[vi c.n,.slice A49 c.gs.length c49,.slice A52 (m28++m31).length c52,vi y.n,.slice A53 y.gs.length c53]) rfl (fun _=>by first|rfl|kernel_rfl)) ?_
 refine Y1 14 ?_
 refine Yh rfl trivial rfl (Vw [vi c.n,.slice A49 c.gs.length c49,.slice A52 (m28++m31).length c52,vi y.n,.slice A53 y.gs.length c53] X13 hB13) ?_;rintro _ w31 ⟨ho,hb⟩
 have hold:=hB13
 replace hB8:=hB8.only ho (by omega)
 replace hB9:=hB9.only ho (by omega)
 replace ho49:=ho49.onlyT ho hold rfl
 replace ho51:=ho51.onlyT ho hold rfl
 replace ho52:=ho52.onlyT ho hold rfl
 replace ho53:=ho53.onlyT ho hold rfl
 replace hd_l:=hd_l.only ho hlo13
 replace hd_m:=hd_m.only ho hlo13
 replace hdp51:=hdp51.onlyT ho hold rfl
 replace hdp52:=hdp52.onlyT ho hold rfl
 replace hW:=Below.only hW ho hlo13
 clear hold
 have hB13:=hb
 clear hb ho
 refine Yo 15 rfl (fun _=>X0x rfl) ?_
 refine Yd fun a hf=>?_
 refine hK22 _ _ ?_
 refine wp_ret (X2 hf (X0r hf rfl (ResV.cellN (l:=[vi c.n,.slice A49 c.gs.length c49,.slice A52 (m28++m31).length c52,vi y.n,.slice A53 y.gs.length c53]) rfl X0l (hB13.at 0) rfl) rfl) ?_)
 rw [hok]
 exact ⟨⟨c.n,c.gs⟩,m28++m31,⟨y.n,y.gs⟩,A49,c49,A52,c52,A53,c53,rfl,(fun _=>⟨rfl,(by rw [List.map_append,hm28,hm31]),rfl⟩),⟨ho49.cap,ho53.cap⟩,ho49.rd.top,ho53.rd.top,ho52.rd.top,(hdp52.top),hW⟩
end Go.Proofs.YtlfjcmldfbfdbaaGreat
set_option maxRecDepth 4000
namespace Go.Proofs.YtlfjcmldfbfdbaaGreat
open Go.RowKit
theorem Xnr(w0:World){Xcd:TypeId}(Acd:Option Addr)(ccd:Nat)(code:List Int)(hr_code:Rd w0 w0.heap.size Xcd encU Acd code)(hcd:∀ x ∈ code,0≤x∧x≤255){Xce:TypeId}(Ace:Option Addr)(cce:Nat)(more:List Int)(hr_more:Rd w0 w0.heap.size Xce encU Ace more)(hcm:∀ x ∈ more,0≤x∧x≤255) : Ret Tryz.prog 4 [.slice Acd code.length ccd,.slice Ace more.length cce] w0 (fun v w=>v=.bool true∧Below w0.heap.size w0 w):=by
 refine enter Tryz.func4 rfl 127 rfl rfl ?_
 intro a hf
 have hW:Below w0.heap.size w0 w0:=Below.refl _ _
 refine Zs hf fun _ hK3=>?_
 refine Za rfl ?_
 refine Zt hK3 fun a hf=>?_
 refine wp_seq_k fun _ hK4=>?_
 refine Zs hf fun _ hK5=>?_
 refine Zm rfl<|Zm rfl ?_
 refine Zf (Vc (Xn1 _ Acd ccd code (hr_code.below' hW).top Ace cce more (hr_more.below' hW).top) Xhu) ?_;rintro _ w1 ⟨rfl,hE⟩
 replace hW:=btr hW hE
 refine Zt hK5 fun a hf=>?_
 refine Xi hf rfl (fun hc6=>?_) (fun hc6=>?_)
 ·have hc6b:=hc6
  refine Zs hf fun _ hK7=>?_
  refine Za rfl ?_
  refine Zt hK7 fun a hf=>?_
  refine wp_ret ?_
  refine X8 ?_
  refine X2 hf (Xo hf rfl rfl) ?_
  exact ⟨by first|rfl|simp,hW⟩
 have hc6b:=hc6
 refine wp_skip ?_
 refine hK4 _ _ ?_
 refine Zs hf fun _ hK8=>?_
 refine Zm rfl ?_
 refine Zf (Vc (Xmj _ Acd ccd code (hr_code.below' hW).top hcd) Xhd) ?_;rintro _ w2 ⟨cz26,lz26,dz26,Az26,ez26,Bz26,fz26,Dz26,gz26,rfl,hPz26,⟨hcbz26,hcdz26⟩,hraz26,hrdz26,hoz26,hdpz26,hE⟩
 replace hW:=btr hW hE
 refine Zf (Xa (zs:=[vi 0,.slice none 0 0,.slice none 0 0,vi 0,.slice none 0 0]) X3g rfl) ?_;rintro _ w3 ⟨b15,rfl,hl15,hE,hB15⟩
 have hlo15:=Nat.le_trans hW.size hl15
 have haw1_15:=(hr_code.below' hW).away hl15
 have haw2_15:=(hr_more.below' hW).away hl15
 replace hraz26:=hraz26.below hE
 replace hoz26:=hoz26.below hE
 replace hrdz26:=hrdz26.below hE
 replace hdpz26:=hdpz26.below hE
 replace hW:=btr hW hE
 refine Zo (Vw [vi cz26.n,.slice Az26 cz26.gs.length ez26,.slice Bz26 lz26.length fz26,vi dz26.n,.slice Dz26 dz26.gs.length gz26] X13 hB15) ?_;rintro _ w4 ⟨ho,hb⟩
 have hold:=hB15
 replace hraz26:=hraz26.onlyT ho hold rfl
 replace hoz26:=hoz26.onlyT ho hold rfl
 replace hrdz26:=hrdz26.onlyT ho hold rfl
 replace hdpz26:=hdpz26.onlyT ho hold rfl
 replace hW:=Below.only hW ho hlo15
 clear hold
 have hB15:=hb
 clear hb ho
 refine Zt hK8 fun a hf=>?_
 refine Zs hf fun _ hK16=>?_
 refine Ze (Vn X0l hB15) ?_
 refine Zf (Vc (F29 _ cz26 Az26 ez26 hraz26.top hcbz26 Bz26 fz26 lz26 hoz26.top hdpz26.top dz26 Dz26 gz26 hrdz26.top (Nat.le_trans hPz26.1 (by decide)) (Nat.le_trans hPz26.2.1 (by decide)) (fun s hs=>⟨Nat.le_trans (hPz26.2.2.2 s hs).1 (by decide),Nat.le_trans (hPz26.2.2.2 s hs).2 (by decide)⟩) (Nat.le_trans hPz26.2.2.1 (by decide))) Xh5) ?_;rintro _ w5 ⟨rfl,hE⟩
 replace hB15:=hB15.below hE
 replace hraz26:=hraz26.below hE
 replace hoz26:=hoz26.below hE
 replace hrdz26:=hrdz26.below hE
 replace hdpz26:=hdpz26.below hE
 replace hW:=btr hW hE
 refine Zm rfl<|Ze (X3 (vs:=[vi ((checkI cz26 dz26 (lz26.map Sr.rp)).1),.bool ((checkI cz26 dz26 (lz26.map Sr.rp)).2)]) rfl rfl)<|Ze (X3 (vs:=[vi ((checkI cz26 dz26 (lz26.map Sr.rp)).1),.bool ((checkI cz26 dz26 (lz26.map Sr.rp)).2)]) rfl rfl)<|Za rfl<|Za rfl ?_
 refine Zt hK16 fun a hf=>?_
 refine Zs hf fun _ hK17=>?_
 refine Ze (Vn X0l hB15) ?_
 refine Zf (Vc (F27 _ cz26 Az26 ez26 hraz26.top hcbz26 Bz26 fz26 lz26 hoz26.top hdpz26.top dz26 Dz26 gz26 hrdz26.top (Nat.le_trans hPz26.1 (by decide)) (Nat.le_trans hPz26.2.1 (by decide)) (fun s hs=>⟨Nat.le_trans (hPz26.2.2.2 s hs).1 (by decide),Nat.le_trans (hPz26.2.2.2 s hs).2 (by decide)⟩) (Nat.le_trans hPz26.2.2.1 (by decide))) Xb0) ?_;rintro _ w6 ⟨rfl,hE⟩
 replace hB15:=hB15.below hE
 replace hraz26:=hraz26.below hE
 replace hoz26:=hoz26.below hE
 replace hrdz26:=hrdz26.below hE
 replace hdpz26:=hdpz26.below hE
 replace hW:=btr hW hE
 refine Zm rfl<|Ze (X3 (vs:=[vi ((checkS cz26 dz26 (lz26.map Sr.rp)).1),.bool ((checkS cz26 dz26 (lz26.map Sr.rp)).2)]) rfl rfl)<|Ze (X3 (vs:=[vi ((checkS cz26 dz26 (lz26.map Sr.rp)).1),.bool ((checkS cz26 dz26 (lz26.map Sr.rp)).2)]) rfl rfl)<|Za rfl<|Za rfl ?_
 refine Zt hK17 fun a hf=>?_
 refine wp_seq_k fun _ hK18=>?_
 refine wp_seq_k fun _ hK19=>?_
 refine X09 (fun a w=>Fr a 127 [(1,.slice Ace more.length cce),(5,.pointer (some ⟨b15,0,none⟩)),(6,vi ((checkI cz26 dz26 (lz26.map Sr.rp)).1)),(7,.bool ((checkI cz26 dz26 (lz26.map Sr.rp)).2)),(44,.bool ((((checkI cz26 dz26 (lz26.map Sr.rp)).2) != ((checkS cz26 dz26 (lz26.map Sr.rp)).2))||(((checkI cz26 dz26 (lz26.map Sr.rp)).1) != ((checkS cz26 dz26 (lz26.map Sr.rp)).1))))]∧w6=w) ?_ ?_
 ·refine Zr hf ?_
  refine Zm rfl<|Zm rfl<|Ze (Xnl Tryz.underlying4 rfl rfl)<|Zm rfl ?_
  refine Zg 40 rfl (fun hg20=>?_) (fun hg20=>?_)
  ·refine Zp ⟨_,_,rfl,rfl,hg20⟩ ?_
   refine Zp ⟨_,_,rfl,rfl,hg20⟩ ?_
   refine Zp ⟨_,_,rfl,rfl,hg20⟩ ?_
   refine Ze (Xc rfl hg20 rfl) ?_
   refine Zn fun a hf=>?_
   exact ⟨hf.sub ⟨rfl,rfl,rfl,rfl,X1 rfl (by first|rfl|(simp only [hc6b,hg20,bs];done)|simp [hc6b,hg20]),trivial⟩,rfl⟩
  refine Zv ⟨_,_,rfl,rfl,hg20⟩ (X9 rfl) ?_
  refine Zv ⟨_,_,rfl,rfl,hg20⟩ (X9 rfl) ?_
  refine Zv ⟨_,_,rfl,rfl,hg20⟩ (X2z rfl rfl) ?_
  refine Ze (X7 rfl hg20 rfl) ?_
  refine Zn fun a hf=>?_
  exact ⟨hf.sub ⟨rfl,rfl,rfl,rfl,X1 rfl (by first|rfl|(simp only [hc6b,hg20,bs];done)|simp [hc6b,hg20]),trivial⟩,rfl⟩
 rintro a _ ⟨hf,rfl⟩
 refine hK19 _ _ ?_
 refine Xi hf rfl (fun hc21=>?_) (fun hc21=>?_)
 ·have hc21b:=hc21
  rw [X7z] at hc21;simp at hc21
 have hc21b:=hc21
 refine wp_skip ?_
 refine hK18 _ _ ?_
 refine wp_seq_k fun _ hK22=>?_
 refine wp_seq_k fun _ hK23=>?_
 refine X09 (fun a w=>Fr a 127 [(1,.slice Ace more.length cce),(5,.pointer (some ⟨b15,0,none⟩)),(49,.bool (((checkI cz26 dz26 (lz26.map Sr.rp)).2)&&(((checkI cz26 dz26 (lz26.map Sr.rp)).1)==0)))]∧w6=w) ?_ ?_
 ·refine Zr hf ?_
  refine Zm rfl<|Zm rfl ?_
  refine Zg 46 rfl (fun hg24=>?_) (fun hg24=>?_)
  ·refine Zv ⟨_,_,rfl,rfl,hg24⟩ (X9 rfl) ?_
   refine Zv ⟨_,_,rfl,rfl,hg24⟩ (X0u rfl rfl) ?_
   refine Ze (Xc rfl hg24 rfl) ?_
   refine Zn fun a hf=>?_
   exact ⟨hf.sub ⟨rfl,rfl,X1 rfl (by first|rfl|(simp only [hc6b,hc21b,hg24,bs];done)|simp [hc6b,hc21b,hg24]),trivial⟩,rfl⟩
  refine Zp ⟨_,_,rfl,rfl,hg24⟩ ?_
  refine Zp ⟨_,_,rfl,rfl,hg24⟩ ?_
  refine Ze (X7 rfl hg24 rfl) ?_
  refine Zn fun a hf=>?_
  exact ⟨hf.sub ⟨rfl,rfl,X1 rfl (by first|rfl|(simp only [hc6b,hc21b,hg24,bs];done)|simp [hc6b,hc21b,hg24]),trivial⟩,rfl⟩
 rintro a _ ⟨hf,rfl⟩
 refine hK23 _ _ ?_
 refine Xi hf rfl (fun hc25=>?_) (fun hc25=>?_)
 ·have hc25b:=hc25
  have hacc:checkS cz26 dz26 (lz26.map Sr.rp)=(0,true):=by rw [X7z] at hc25;revert hc25;cases checkS cz26 dz26 (lz26.map Sr.rp);simp;intro h1 h2;exact ⟨h2,h1⟩
  refine Zs hf fun _ hK26=>?_
  refine Ze (Vd rfl X21 0)<|Ze (Xj (l:=[vi cz26.n,.slice Az26 cz26.gs.length ez26]) rfl X0c ((hB15.at 0).take 2) rfl)<|Ze (Vd rfl X1l 3)<|Ze (Xj (l:=[vi dz26.n,.slice Dz26 dz26.gs.length gz26]) rfl X0c ((hB15.at 3).take 2) rfl) ?_
  refine Zf (Vc (F88 _ cz26 Az26 ez26 hraz26.top dz26 Dz26 gz26 hrdz26.top) Xjc) ?_;rintro _ w7 ⟨rfl,hE⟩
  replace hB15:=hB15.below hE
  replace hraz26:=hraz26.below hE
  replace hoz26:=hoz26.below hE
  replace hrdz26:=hrdz26.below hE
  replace hdpz26:=hdpz26.below hE
  replace hW:=btr hW hE
  refine Zm rfl<|Ze (X3 (vs:=[.bool ((sameS cz26 dz26).1),.bool ((sameS cz26 dz26).2)]) rfl rfl)<|Ze (X3 (vs:=[.bool ((sameS cz26 dz26).1),.bool ((sameS cz26 dz26).2)]) rfl rfl)<|Za rfl<|Za rfl ?_
  refine Zt hK26 fun a hf=>?_
  refine wp_seq_k fun _ hK27=>?_
  refine X09 (fun a w=>Fr a 127 [(1,.slice Ace more.length cce),(62,.bool (((sameS cz26 dz26).2)&&(!((sameS cz26 dz26).1))))]∧w7=w) ?_ ?_
  ·refine Zr hf ?_
   refine Zm rfl<|Zm rfl ?_
   refine Zg 59 rfl (fun hg28=>?_) (fun hg28=>?_)
   ·refine Zv ⟨_,_,rfl,rfl,hg28⟩ (X9 rfl) ?_
    refine Zv ⟨_,_,rfl,rfl,hg28⟩ (X15 rfl) ?_
    refine Ze (Xc rfl hg28 rfl) ?_
    refine Zn fun a hf=>?_
    exact ⟨hf.sub ⟨rfl,X1 rfl (by first|rfl|(simp only [hc6b,hc21b,hc25b,hg28,bs];done)|simp [hc6b,hc21b,hc25b,hg28]),trivial⟩,rfl⟩
   refine Zp ⟨_,_,rfl,rfl,hg28⟩ ?_
   refine Zp ⟨_,_,rfl,rfl,hg28⟩ ?_
   refine Ze (X7 rfl hg28 rfl) ?_
   refine Zn fun a hf=>?_
   exact ⟨hf.sub ⟨rfl,X1 rfl (by first|rfl|(simp only [hc6b,hc21b,hc25b,hg28,bs];done)|simp [hc6b,hc21b,hc25b,hg28]),trivial⟩,rfl⟩
  rintro a _ ⟨hf,rfl⟩
  refine hK27 _ _ ?_
  refine Xi hf rfl (fun hc29=>?_) (fun hc29=>?_)
  ·have hc29b:=hc29
   have h9:=Xcz hacc;revert hc29;cases hq9:(sameS cz26 dz26).2<;>simp;simp [h9 hq9]
  have hc29b:=hc29
  refine wp_skip ?_
  refine hK22 _ _ ?_
  refine Zs hf fun _ hK30=>?_
  refine Zm rfl ?_
  refine Zf (Vc (Xjb _ Ace cce more (hr_more.below' hW).top hcm) Xdo) ?_;rintro _ w8 ⟨cy65,ly65,dy65,Ay65,ey65,By65,fy65,Dy65,gy65,cz65,lz65,dz65,Az65,ez65,Bz65,fz65,Dz65,gz65,rfl,hPy65,hPz65,⟨hcby65,hcdy65⟩,hray65,hrdy65,hoy65,hdpy65,⟨hcbz65,hcdz65⟩,hraz65,hrdz65,hoz65,hdpz65,hE⟩
  replace hW:=btr hW hE
  refine Zm rfl<|Ze (X3 (vs:=[.agg #[vi cy65.n,.slice Ay65 cy65.gs.length ey65,.slice By65 ly65.length fy65,vi dy65.n,.slice Dy65 dy65.gs.length gy65],.agg #[vi cz65.n,.slice Az65 cz65.gs.length ez65,.slice Bz65 lz65.length fz65,vi dz65.n,.slice Dz65 dz65.gs.length gz65]]) rfl rfl)<|Ze (X3 (vs:=[.agg #[vi cy65.n,.slice Ay65 cy65.gs.length ey65,.slice By65 ly65.length fy65,vi dy65.n,.slice Dy65 dy65.gs.length gy65],.agg #[vi cz65.n,.slice Az65 cz65.gs.length ez65,.slice Bz65 lz65.length fz65,vi dz65.n,.slice Dz65 dz65.gs.length gz65]]) rfl rfl) ?_
  refine Zf (Xa (zs:=[vi 0,.slice none 0 0,.slice none 0 0,vi 0,.slice none 0 0]) X3g rfl) ?_;rintro _ w9 ⟨b40,rfl,hl40,hE,hB40⟩
  have hlo40:=Nat.le_trans hW.size hl40
  have haw1_40:=(hr_code.below' hW).away hl40
  have haw2_40:=(hr_more.below' hW).away hl40
  replace hray65:=hray65.below hE
  replace hoy65:=hoy65.below hE
  replace hrdy65:=hrdy65.below hE
  replace hraz65:=hraz65.below hE
  replace hoz65:=hoz65.below hE
  replace hrdz65:=hrdz65.below hE
  replace hdpy65:=hdpy65.below hE
  replace hdpz65:=hdpz65.below hE
  replace hW:=btr hW hE
  refine Zf (Xa (zs:=[vi 0,.slice none 0 0,.slice none 0 0,vi 0,.slice none 0 0]) X3g rfl) ?_;rintro _ w10 ⟨b44,rfl,hl44,hE,hB44⟩
  have hne40_44:b40≠b44:=by have:=hB40.lt;omega
  have hlo44:=Nat.le_trans hW.size hl44
  have haw1_44:=(hr_code.below' hW).away hl44
  have haw2_44:=(hr_more.below' hW).away hl44
  replace hB40:=hB40.below hE
  replace hray65:=hray65.below hE
  replace hoy65:=hoy65.below hE
  replace hrdy65:=hrdy65.below hE
  replace hraz65:=hraz65.below hE
  replace hoz65:=hoz65.below hE
  replace hrdz65:=hrdz65.below hE
  replace hdpy65:=hdpy65.below hE
  replace hdpz65:=hdpz65.below hE
  replace hW:=btr hW hE
  refine Zo (Vw [vi cy65.n,.slice Ay65 cy65.gs.length ey65,.slice By65 ly65.length fy65,vi dy65.n,.slice Dy65 dy65.gs.length gy65] X13 hB40) ?_;rintro _ w11 ⟨ho,hb⟩
  have hold:=hB40
  replace hB44:=hB44.only ho (by omega)
  replace hray65:=hray65.onlyT ho hold rfl
  replace hoy65:=hoy65.onlyT ho hold rfl
  replace hrdy65:=hrdy65.onlyT ho hold rfl
  replace hraz65:=hraz65.onlyT ho hold rfl
  replace hoz65:=hoz65.onlyT ho hold rfl
  replace hrdz65:=hrdz65.onlyT ho hold rfl
  replace hdpy65:=hdpy65.onlyT ho hold rfl
  replace hdpz65:=hdpz65.onlyT ho hold rfl
  replace hW:=Below.only hW ho hlo40
  clear hold
  have hB40:=hb
  clear hb ho
  refine Zo (Vw [vi cz65.n,.slice Az65 cz65.gs.length ez65,.slice Bz65 lz65.length fz65,vi dz65.n,.slice Dz65 dz65.gs.length gz65] X13 hB44) ?_;rintro _ w12 ⟨ho,hb⟩
  have hold:=hB44
  replace hB40:=hB40.only ho (by omega)
  replace hray65:=hray65.onlyT ho hold rfl
  replace hoy65:=hoy65.onlyT ho hold rfl
  replace hrdy65:=hrdy65.onlyT ho hold rfl
  replace hraz65:=hraz65.onlyT ho hold rfl
  replace hoz65:=hoz65.onlyT ho hold rfl
  replace hrdz65:=hrdz65.onlyT ho hold rfl
  replace hdpy65:=hdpy65.onlyT ho hold rfl
  replace hdpz65:=hdpz65.onlyT ho hold rfl
  replace hW:=Below.only hW ho hlo44
  clear hold
  have hB44:=hb
  clear hb ho
  refine Zt hK30 fun a hf=>?_
  refine Zs hf fun _ hK45=>?_
  refine Ze (Vn X0l hB40)<|Ze (Vn X0l hB44) ?_
  refine Zf (Vc (Xji _ cy65 Ay65 ey65 hray65.top hcby65 By65 fy65 ly65 hoy65.top hdpy65.top dy65 Dy65 gy65 hrdy65.top hcdy65 cz65 Az65 ez65 hraz65.top hcbz65 Bz65 fz65 lz65 hoz65.top hdpz65.top dz65 Dz65 gz65 hrdz65.top hcdz65 (Nat.le_trans hPy65.1 (by decide)) (Nat.le_trans hPy65.2.1 (by decide)) (fun s hs=>⟨Nat.le_trans (hPy65.2.2.2 s hs).1 (by decide),Nat.le_trans (hPy65.2.2.2 s hs).2 (by decide)⟩) (Nat.le_trans hPy65.2.2.1 (by decide)) (Nat.le_trans hPz65.2.1 (by decide)) (fun s hs=>⟨Nat.le_trans (hPz65.2.2.2 s hs).1 (by decide),Nat.le_trans (hPz65.2.2.2 s hs).2 (by decide)⟩) (Nat.le_trans hPz65.2.2.1 (by decide))) Xcu) ?_;rintro _ w13 ⟨cj71,lj71,dj71,Aj71,ej71,Bj71,fj71,Dj71,gj71,rfl,hPj71,⟨hcbj71,hcdj71⟩,hraj71,hrdj71,hoj71,hdpj71,hE⟩
  replace hB40:=hB40.below hE
  replace hB44:=hB44.below hE
  replace hray65:=hray65.below hE
  replace hoy65:=hoy65.below hE
  replace hrdy65:=hrdy65.below hE
  replace hraz65:=hraz65.below hE
  replace hoz65:=hoz65.below hE
  replace hrdz65:=hrdz65.below hE
  replace hdpy65:=hdpy65.below hE
  replace hdpz65:=hdpz65.below hE
  replace hW:=btr hW hE
  refine Zm rfl<|Ze (X3 (vs:=[.agg #[vi cj71.n,.slice Aj71 cj71.gs.length ej71,.slice Bj71 lj71.length fj71,vi dj71.n,.slice Dj71 dj71.gs.length gj71],.bool (eqC dy65 cz65&&decide (((ly65.length:Int)+(lz65.length:Int))≤400))]) rfl rfl)<|Ze (X3 (vs:=[.agg #[vi cj71.n,.slice Aj71 cj71.gs.length ej71,.slice Bj71 lj71.length fj71,vi dj71.n,.slice Dj71 dj71.gs.length gj71],.bool (eqC dy65 cz65&&decide (((ly65.length:Int)+(lz65.length:Int))≤400))]) rfl rfl) ?_
  refine Zf (Xa (zs:=[vi 0,.slice none 0 0,.slice none 0 0,vi 0,.slice none 0 0]) X3g rfl) ?_;rintro _ w14 ⟨b52,rfl,hl52,hE,hB52⟩
  have hne40_52:b40≠b52:=by have:=hB40.lt;omega
  have hne44_52:b44≠b52:=by have:=hB44.lt;omega
  have hlo52:=Nat.le_trans hW.size hl52
  have haw1_52:=(hr_code.below' hW).away hl52
  have haw2_52:=(hr_more.below' hW).away hl52
  replace hB40:=hB40.below hE
  replace hB44:=hB44.below hE
  replace hray65:=hray65.below hE
  replace hoy65:=hoy65.below hE
  replace hrdy65:=hrdy65.below hE
  replace hraz65:=hraz65.below hE
  replace hoz65:=hoz65.below hE
  replace hrdz65:=hrdz65.below hE
  replace hraj71:=hraj71.below hE
  replace hoj71:=hoj71.below hE
  replace hrdj71:=hrdj71.below hE
  replace hdpy65:=hdpy65.below hE
  replace hdpz65:=hdpz65.below hE
  replace hdpj71:=hdpj71.below hE
  replace hW:=btr hW hE
  refine Zo (Vw [vi cj71.n,.slice Aj71 cj71.gs.length ej71,.slice Bj71 lj71.length fj71,vi dj71.n,.slice Dj71 dj71.gs.length gj71] X13 hB52) ?_;rintro _ w15 ⟨ho,hb⟩
  have hold:=hB52
  replace hB40:=hB40.only ho (by omega)
  replace hB44:=hB44.only ho (by omega)
  replace hray65:=hray65.onlyT ho hold rfl
  replace hoy65:=hoy65.onlyT ho hold rfl
  replace hrdy65:=hrdy65.onlyT ho hold rfl
  replace hraz65:=hraz65.onlyT ho hold rfl
  replace hoz65:=hoz65.onlyT ho hold rfl
  replace hrdz65:=hrdz65.onlyT ho hold rfl
  replace hraj71:=hraj71.onlyT ho hold rfl
  replace hoj71:=hoj71.onlyT ho hold rfl
  replace hrdj71:=hrdj71.onlyT ho hold rfl
  replace hdpy65:=hdpy65.onlyT ho hold rfl
  replace hdpz65:=hdpz65.onlyT ho hold rfl
  replace hdpj71:=hdpj71.onlyT ho hold rfl
  replace hW:=Below.only hW ho hlo52
  clear hold
  have hB52:=hb
  clear hb ho
  refine Za rfl ?_
  refine Zt hK45 fun a hf=>?_
  refine wp_seq_k fun _ hK53=>?_
  refine Zs hf fun _ hK54=>?_
  refine Zm rfl ?_
  refine Zt hK54 fun a hf=>?_
  refine Xi hf rfl (fun hc55=>?_) (fun hc55=>?_)
  ·have hc55b:=hc55
   have hjo:=hPj71 hc55
   have hjl:lj71.length=ly65.length+lz65.length:=by simpa using congrArg List.length hjo.2.1
   have hjs:∀ s ∈ lj71,s.old.length≤1048576∧s.new.length≤1048576:=X9a hjo.2.1 hPy65.2.2.2 hPz65.2.2.2
   have hj1:cj71.gs.length≤1048576:=by rw [hjo.1];omega
   have hj2:lj71.length≤1048576:=by omega
   have hj3:=hjs
   have hj4:dj71.gs.length≤1048576:=by rw [hjo.2.2];omega
   refine Zs hf fun _ hK56=>?_
   refine Ze (Vn X0l hB40) ?_
   refine Zf (Vc (F27 _ cy65 Ay65 ey65 hray65.top hcby65 By65 fy65 ly65 hoy65.top hdpy65.top dy65 Dy65 gy65 hrdy65.top (Nat.le_trans hPy65.1 (by decide)) (Nat.le_trans hPy65.2.1 (by decide)) (fun s hs=>⟨Nat.le_trans (hPy65.2.2.2 s hs).1 (by decide),Nat.le_trans (hPy65.2.2.2 s hs).2 (by decide)⟩) (Nat.le_trans hPy65.2.2.1 (by decide))) Xb0) ?_;rintro _ w16 ⟨rfl,hE⟩
   replace hB40:=hB40.below hE
   replace hB44:=hB44.below hE
   replace hB52:=hB52.below hE
   replace hray65:=hray65.below hE
   replace hoy65:=hoy65.below hE
   replace hrdy65:=hrdy65.below hE
   replace hraz65:=hraz65.below hE
   replace hoz65:=hoz65.below hE
   replace hrdz65:=hrdz65.below hE
   replace hraj71:=hraj71.below hE
   replace hoj71:=hoj71.below hE
   replace hrdj71:=hrdj71.below hE
   replace hdpy65:=hdpy65.below hE
   replace hdpz65:=hdpz65.below hE
   replace hdpj71:=hdpj71.below hE
   replace hW:=btr hW hE
   refine Zm rfl<|Ze (X3 (vs:=[vi ((checkS cy65 dy65 (ly65.map Sr.rp)).1),.bool ((checkS cy65 dy65 (ly65.map Sr.rp)).2)]) rfl rfl)<|Ze (X3 (vs:=[vi ((checkS cy65 dy65 (ly65.map Sr.rp)).1),.bool ((checkS cy65 dy65 (ly65.map Sr.rp)).2)]) rfl rfl)<|Za rfl<|Za rfl ?_
   refine Zt hK56 fun a hf=>?_
   refine Zs hf fun _ hK57=>?_
   refine Ze (Vn X0l hB44) ?_
   refine Zf (Vc (F27 _ cz65 Az65 ez65 hraz65.top hcbz65 Bz65 fz65 lz65 hoz65.top hdpz65.top dz65 Dz65 gz65 hrdz65.top (Nat.le_trans hPz65.1 (by decide)) (Nat.le_trans hPz65.2.1 (by decide)) (fun s hs=>⟨Nat.le_trans (hPz65.2.2.2 s hs).1 (by decide),Nat.le_trans (hPz65.2.2.2 s hs).2 (by decide)⟩) (Nat.le_trans hPz65.2.2.1 (by decide))) Xb0) ?_;rintro _ w17 ⟨rfl,hE⟩
   replace hB40:=hB40.below hE
   replace hB44:=hB44.below hE
   replace hB52:=hB52.below hE
   replace hray65:=hray65.below hE
   replace hoy65:=hoy65.below hE
   replace hrdy65:=hrdy65.below hE
   replace hraz65:=hraz65.below hE
   replace hoz65:=hoz65.below hE
   replace hrdz65:=hrdz65.below hE
   replace hraj71:=hraj71.below hE
   replace hoj71:=hoj71.below hE
   replace hrdj71:=hrdj71.below hE
   replace hdpy65:=hdpy65.below hE
   replace hdpz65:=hdpz65.below hE
   replace hdpj71:=hdpj71.below hE
   replace hW:=btr hW hE
   refine Zm rfl<|Ze (X3 (vs:=[vi ((checkS cz65 dz65 (lz65.map Sr.rp)).1),.bool ((checkS cz65 dz65 (lz65.map Sr.rp)).2)]) rfl rfl)<|Ze (X3 (vs:=[vi ((checkS cz65 dz65 (lz65.map Sr.rp)).1),.bool ((checkS cz65 dz65 (lz65.map Sr.rp)).2)]) rfl rfl)<|Za rfl<|Za rfl ?_
   refine Zt hK57 fun a hf=>?_
   refine Zs hf fun _ hK58=>?_
   refine Ze (Vn X0l hB52) ?_
   refine Zf (Vc (F29 _ cj71 Aj71 ej71 hraj71.top hcbj71 Bj71 fj71 lj71 hoj71.top hdpj71.top dj71 Dj71 gj71 hrdj71.top hj1 hj2 hj3 hj4) Xh5) ?_;rintro _ w18 ⟨rfl,hE⟩
   replace hB40:=hB40.below hE
   replace hB44:=hB44.below hE
   replace hB52:=hB52.below hE
   replace hray65:=hray65.below hE
   replace hoy65:=hoy65.below hE
   replace hrdy65:=hrdy65.below hE
   replace hraz65:=hraz65.below hE
   replace hoz65:=hoz65.below hE
   replace hrdz65:=hrdz65.below hE
   replace hraj71:=hraj71.below hE
   replace hoj71:=hoj71.below hE
   replace hrdj71:=hrdj71.below hE
   replace hdpy65:=hdpy65.below hE
   replace hdpz65:=hdpz65.below hE
   replace hdpj71:=hdpj71.below hE
   replace hW:=btr hW hE
   refine Zm rfl<|Ze (X3 (vs:=[vi ((checkI cj71 dj71 (lj71.map Sr.rp)).1),.bool ((checkI cj71 dj71 (lj71.map Sr.rp)).2)]) rfl rfl)<|Ze (X3 (vs:=[vi ((checkI cj71 dj71 (lj71.map Sr.rp)).1),.bool ((checkI cj71 dj71 (lj71.map Sr.rp)).2)]) rfl rfl)<|Za rfl<|Za rfl ?_
   refine Zt hK58 fun a hf=>?_
   refine wp_seq_k fun _ hK59=>?_
   refine X09 (fun a w=>Fr a 127 [(12,.pointer (some ⟨b40,0,none⟩)),(13,.pointer (some ⟨b44,0,none⟩)),(15,.bool (eqC dy65 cz65&&decide (((ly65.length:Int)+(lz65.length:Int))≤400))),(109,.bool ((((((checkS cy65 dy65 (ly65.map Sr.rp)).2)&&((checkS cz65 dz65 (lz65.map Sr.rp)).2))&&(((checkS cy65 dy65 (ly65.map Sr.rp)).1)==0))&&(((checkS cz65 dz65 (lz65.map Sr.rp)).1)==0))&&((!((checkI cj71 dj71 (lj71.map Sr.rp)).2))||(((checkI cj71 dj71 (lj71.map Sr.rp)).1) != 0))))]∧w18=w) ?_ ?_
   ·refine Zr hf ?_
    refine Zm rfl<|Zm rfl ?_
    refine Zg 91 rfl (fun hg60=>?_) (fun hg60=>?_)
    ·refine Zv ⟨_,_,rfl,rfl,hg60⟩ (X9 rfl) ?_
     refine Ze (Xc rfl hg60 rfl)<|Zm rfl ?_
     refine Zg 94 rfl (fun hg61=>?_) (fun hg61=>?_)
     ·refine Zv ⟨_,_,rfl,rfl,hg61⟩ (X9 rfl) ?_
      refine Zv ⟨_,_,rfl,rfl,hg61⟩ (X0u rfl rfl) ?_
      refine Ze (Xc rfl hg61 rfl)<|Zm rfl ?_
      refine Zg 98 rfl (fun hg62=>?_) (fun hg62=>?_)
      ·refine Zv ⟨_,_,rfl,rfl,hg62⟩ (X9 rfl) ?_
       refine Zv ⟨_,_,rfl,rfl,hg62⟩ (X0u rfl rfl) ?_
       refine Ze (Xc rfl hg62 rfl)<|Zm rfl ?_
       refine Zg 102 rfl (fun hg63=>?_) (fun hg63=>?_)
       ·refine Zv ⟨_,_,rfl,rfl,hg63⟩ (X9 rfl) ?_
        refine Zv ⟨_,_,rfl,rfl,hg63⟩ (X15 rfl) ?_
        refine Zv ⟨_,_,rfl,rfl,hg63⟩ (X9 rfl) ?_
        refine Zg 105 rfl (fun hg64=>?_) (fun hg64=>?_)
        ·refine Zp ⟨_,_,rfl,rfl,hg64⟩ ?_
         refine Zp ⟨_,_,rfl,rfl,hg64⟩ ?_
         refine Zv ⟨_,_,rfl,rfl,hg63⟩ (Xc rfl hg64 rfl) ?_
         refine Ze (Xc rfl hg63 rfl) ?_
         refine Zn fun a hf=>?_
         exact ⟨hf.sub ⟨rfl,rfl,rfl,X1 rfl (by first|rfl|(simp only [hc6b,hc21b,hc25b,hc29b,hc55b,hg60,hg61,hg62,hg63,hg64,bs];done)|simp [hc6b,hc21b,hc25b,hc29b,hc55b,hg60,hg61,hg62,hg63,hg64]),trivial⟩,rfl⟩
        refine Zv ⟨_,_,rfl,rfl,hg64⟩ (X9 rfl) ?_
        refine Zv ⟨_,_,rfl,rfl,hg64⟩ (X2z rfl rfl) ?_
        refine Zv ⟨_,_,rfl,rfl,hg63⟩ (X7 rfl hg64 rfl) ?_
        refine Ze (Xc rfl hg63 rfl) ?_
        refine Zn fun a hf=>?_
        exact ⟨hf.sub ⟨rfl,rfl,rfl,X1 rfl (by first|rfl|(simp only [hc6b,hc21b,hc25b,hc29b,hc55b,hg60,hg61,hg62,hg63,hg64,bs];done)|simp [hc6b,hc21b,hc25b,hc29b,hc55b,hg60,hg61,hg62,hg63,hg64]),trivial⟩,rfl⟩
       refine Zp ⟨_,_,rfl,rfl,hg63⟩ ?_
       refine Zp ⟨_,_,rfl,rfl,hg63⟩ ?_
       refine Zp ⟨_,_,rfl,rfl,hg63⟩ ?_
       refine Zp ⟨_,_,rfl,rfl,trivial⟩ ?_
       refine Zp ⟨_,_,rfl,rfl,trivial⟩ ?_
       refine Zp ⟨_,_,rfl,rfl,hg63⟩ ?_
       refine Ze (X7 rfl hg63 rfl) ?_
       refine Zn fun a hf=>?_
       exact ⟨hf.sub ⟨rfl,rfl,rfl,X1 rfl (by first|rfl|(simp only [hc6b,hc21b,hc25b,hc29b,hc55b,hg60,hg61,hg62,hg63,bs];done)|simp [hc6b,hc21b,hc25b,hc29b,hc55b,hg60,hg61,hg62,hg63]),trivial⟩,rfl⟩
      refine Zp ⟨_,_,rfl,rfl,hg62⟩ ?_
      refine Zp ⟨_,_,rfl,rfl,hg62⟩ ?_
      refine Ze (X7 rfl hg62 rfl)<|Zm rfl<|Zp ⟨_,_,rfl,rfl,rfl⟩ ?_
      refine Zp ⟨_,_,rfl,rfl,rfl⟩ ?_
      refine Zp ⟨_,_,rfl,rfl,rfl⟩ ?_
      refine Zp ⟨_,_,rfl,rfl,trivial⟩ ?_
      refine Zp ⟨_,_,rfl,rfl,trivial⟩ ?_
      refine Zp ⟨_,_,rfl,rfl,rfl⟩ ?_
      refine Ze (X7 rfl rfl rfl) ?_
      refine Zn fun a hf=>?_
      exact ⟨hf.sub ⟨rfl,rfl,rfl,X1 rfl (by first|rfl|(simp only [hc6b,hc21b,hc25b,hc29b,hc55b,hg60,hg61,hg62,bs];done)|simp [hc6b,hc21b,hc25b,hc29b,hc55b,hg60,hg61,hg62]),trivial⟩,rfl⟩
     refine Zp ⟨_,_,rfl,rfl,hg61⟩ ?_
     refine Zp ⟨_,_,rfl,rfl,hg61⟩ ?_
     refine Ze (X7 rfl hg61 rfl)<|Zm rfl<|Zp ⟨_,_,rfl,rfl,rfl⟩ ?_
     refine Zp ⟨_,_,rfl,rfl,rfl⟩ ?_
     refine Ze (X7 rfl rfl rfl)<|Zm rfl<|Zp ⟨_,_,rfl,rfl,rfl⟩ ?_
     refine Zp ⟨_,_,rfl,rfl,rfl⟩ ?_
     refine Zp ⟨_,_,rfl,rfl,rfl⟩ ?_
     refine Zp ⟨_,_,rfl,rfl,trivial⟩ ?_
     refine Zp ⟨_,_,rfl,rfl,trivial⟩ ?_
     refine Zp ⟨_,_,rfl,rfl,rfl⟩ ?_
     refine Ze (X7 rfl rfl rfl) ?_
     refine Zn fun a hf=>?_
     exact ⟨hf.sub ⟨rfl,rfl,rfl,X1 rfl (by first|rfl|(simp only [hc6b,hc21b,hc25b,hc29b,hc55b,hg60,hg61,bs];done)|simp [hc6b,hc21b,hc25b,hc29b,hc55b,hg60,hg61]),trivial⟩,rfl⟩
    refine Zp ⟨_,_,rfl,rfl,hg60⟩ ?_
    refine Ze (X7 rfl hg60 rfl)<|Zm rfl<|Zp ⟨_,_,rfl,rfl,rfl⟩ ?_
    refine Zp ⟨_,_,rfl,rfl,rfl⟩ ?_
    refine Ze (X7 rfl rfl rfl)<|Zm rfl<|Zp ⟨_,_,rfl,rfl,rfl⟩ ?_
    refine Zp ⟨_,_,rfl,rfl,rfl⟩ ?_
    refine Ze (X7 rfl rfl rfl)<|Zm rfl<|Zp ⟨_,_,rfl,rfl,rfl⟩ ?_
    refine Zp ⟨_,_,rfl,rfl,rfl⟩ ?_
    refine Zp ⟨_,_,rfl,rfl,rfl⟩ ?_
    refine Zp ⟨_,_,rfl,rfl,trivial⟩ ?_
    refine Zp ⟨_,_,rfl,rfl,trivial⟩ ?_
    refine Zp ⟨_,_,rfl,rfl,rfl⟩ ?_
    refine Ze (X7 rfl rfl rfl) ?_
    refine Zn fun a hf=>?_
    exact ⟨hf.sub ⟨rfl,rfl,rfl,X1 rfl (by first|rfl|(simp only [hc6b,hc21b,hc25b,hc29b,hc55b,hg60,bs];done)|simp [hc6b,hc21b,hc25b,hc29b,hc55b,hg60]),trivial⟩,rfl⟩
   rintro a _ ⟨hf,rfl⟩
   refine hK59 _ _ ?_
   refine Xi hf rfl (fun hc65=>?_) (fun hc65=>?_)
   ·have hc65b:=hc65
    rw [hjo.1,hjo.2.1,hjo.2.2] at hc65;exact (Xcr (hok:=by assumption) hc65).elim
   have hc65b:=hc65
   refine wp_skip ?_
   refine hK53 _ _ ?_
   refine wp_seq_k fun _ hK66=>?_
   refine X09 (fun a w=>Fr a 127 [(4,.bool ((eqC dy65 cz65&&decide (((ly65.length:Int)+(lz65.length:Int))≤400))==((eqC dy65 cz65)&&(decide (((ly65.length:Int)+(lz65.length:Int))≤400)))))]∧Below w18.heap.size w18 w) ?_ ?_
   ·have hEc:Below w18.heap.size w18 w18:=Below.refl _ _
    refine Zr hf ?_
    refine Zm rfl<|Ze (Vd rfl X1l 3)<|Ze (Xj (l:=[vi dy65.n,.slice Dy65 dy65.gs.length gy65]) rfl X0c ((hB40.at 3).take 2) rfl)<|Ze (Vd rfl X21 0)<|Ze (Xj (l:=[vi cz65.n,.slice Az65 cz65.gs.length ez65]) rfl X0c ((hB44.at 0).take 2) rfl) ?_
    refine Zf (Vc (F64 _ dy65 Dy65 gy65 hrdy65.top cz65 Az65 ez65 hraz65.top (Nat.le_trans hPy65.2.2.1 (by decide))) Xbl) ?_;rintro _ w19 ⟨rfl,hE⟩
    replace hB40:=hB40.below hE
    replace hB44:=hB44.below hE
    replace hray65:=hray65.below hE
    replace hoy65:=hoy65.below hE
    replace hrdy65:=hrdy65.below hE
    replace hraz65:=hraz65.below hE
    replace hoz65:=hoz65.below hE
    replace hrdz65:=hrdz65.below hE
    replace hdpy65:=hdpy65.below hE
    replace hdpz65:=hdpz65.below hE
    replace hW:=btr hW hE
    replace hEc:=btr hEc hE
    refine Zm rfl ?_
    refine Zg 116 rfl (fun hg67=>?_) (fun hg67=>?_)
    ·refine Zv ⟨_,_,rfl,rfl,hg67⟩ (Vd rfl X0y 2) ?_
     refine Zv ⟨_,_,rfl,rfl,hg67⟩ (X0 rfl X1z (hB40.at 2)) ?_
     refine Zv ⟨_,_,rfl,rfl,hg67⟩ (X0v rfl X17) ?_
     refine Zv ⟨_,_,rfl,rfl,hg67⟩ (Vd rfl X0y 2) ?_
     refine Zv ⟨_,_,rfl,rfl,hg67⟩ (X0 rfl X1z (hB44.at 2)) ?_
     refine Zv ⟨_,_,rfl,rfl,hg67⟩ (X0v rfl X17) ?_
     refine Zv ⟨_,_,rfl,rfl,hg67⟩ (Xv rfl rfl (by omega) (by omega)) ?_
     refine Zv ⟨_,_,rfl,rfl,hg67⟩ (X64 rfl rfl) ?_
     refine Ze (Xc rfl hg67 rfl)<|Ze (X6x Tryz.underlying4 rfl rfl)<|Za rfl ?_
     refine Zn fun a hf=>?_
     have hEE:Below w18.heap.size w18 w19:=hEc
     exact ⟨hf.sub ⟨X1 rfl (by first|rfl|(simp only [hc6b,hc21b,hc25b,hc29b,hc55b,hc65b,hg67,bs];done)|simp [hc6b,hc21b,hc25b,hc29b,hc55b,hc65b,hg67]),trivial⟩,hEE⟩
    refine Zp ⟨_,_,rfl,rfl,hg67⟩ ?_
    refine Zp ⟨_,_,rfl,rfl,hg67⟩ ?_
    refine Zp ⟨_,_,rfl,rfl,hg67⟩ ?_
    refine Zp ⟨_,_,rfl,rfl,hg67⟩ ?_
    refine Zp ⟨_,_,rfl,rfl,hg67⟩ ?_
    refine Zp ⟨_,_,rfl,rfl,hg67⟩ ?_
    refine Zp ⟨_,_,rfl,rfl,hg67⟩ ?_
    refine Zp ⟨_,_,rfl,rfl,hg67⟩ ?_
    refine Ze (X7 rfl hg67 rfl)<|Ze (X6x Tryz.underlying4 rfl rfl)<|Za rfl ?_
    refine Zn fun a hf=>?_
    have hEE:Below w18.heap.size w18 w19:=hEc
    exact ⟨hf.sub ⟨X1 rfl (by first|rfl|(simp only [hc6b,hc21b,hc25b,hc29b,hc55b,hc65b,hg67,bs];done)|simp [hc6b,hc21b,hc25b,hc29b,hc55b,hc65b,hg67]),trivial⟩,hEE⟩
   rintro a w20 ⟨hf,hE⟩
   replace hB40:=hB40.below hE
   replace hB44:=hB44.below hE
   replace hray65:=hray65.below hE
   replace hoy65:=hoy65.below hE
   replace hrdy65:=hrdy65.below hE
   replace hraz65:=hraz65.below hE
   replace hoz65:=hoz65.below hE
   replace hrdz65:=hrdz65.below hE
   replace hdpy65:=hdpy65.below hE
   replace hdpz65:=hdpz65.below hE
   replace hW:=btr hW hE
   refine hK66 _ _ ?_
   refine wp_ret (X2 hf (Xo hf rfl rfl) ?_)
   exact ⟨by first|rfl|simp,hW⟩
  have hc55b:=hc55
  refine wp_skip ?_
  refine hK53 _ _ ?_
  refine wp_seq_k fun _ hK68=>?_
  refine X09 (fun a w=>Fr a 127 [(4,.bool ((eqC dy65 cz65&&decide (((ly65.length:Int)+(lz65.length:Int))≤400))==((eqC dy65 cz65)&&(decide (((ly65.length:Int)+(lz65.length:Int))≤400)))))]∧Below w15.heap.size w15 w) ?_ ?_
  ·have hEc:Below w15.heap.size w15 w15:=Below.refl _ _
   refine Zr hf ?_
   refine Zm rfl<|Ze (Vd rfl X1l 3)<|Ze (Xj (l:=[vi dy65.n,.slice Dy65 dy65.gs.length gy65]) rfl X0c ((hB40.at 3).take 2) rfl)<|Ze (Vd rfl X21 0)<|Ze (Xj (l:=[vi cz65.n,.slice Az65 cz65.gs.length ez65]) rfl X0c ((hB44.at 0).take 2) rfl) ?_
   refine Zf (Vc (F64 _ dy65 Dy65 gy65 hrdy65.top cz65 Az65 ez65 hraz65.top (Nat.le_trans hPy65.2.2.1 (by decide))) Xbl) ?_;rintro _ w21 ⟨rfl,hE⟩
   replace hB40:=hB40.below hE
   replace hB44:=hB44.below hE
   replace hB52:=hB52.below hE
   replace hray65:=hray65.below hE
   replace hoy65:=hoy65.below hE
   replace hrdy65:=hrdy65.below hE
   replace hraz65:=hraz65.below hE
   replace hoz65:=hoz65.below hE
   replace hrdz65:=hrdz65.below hE
   replace hraj71:=hraj71.below hE
   replace hoj71:=hoj71.below hE
   replace hrdj71:=hrdj71.below hE
   replace hdpy65:=hdpy65.below hE
   replace hdpz65:=hdpz65.below hE
   replace hdpj71:=hdpj71.below hE
   replace hW:=btr hW hE
   replace hEc:=btr hEc hE
   refine Zm rfl ?_
   refine Zg 116 rfl (fun hg69=>?_) (fun hg69=>?_)
   ·refine Zv ⟨_,_,rfl,rfl,hg69⟩ (Vd rfl X0y 2) ?_
    refine Zv ⟨_,_,rfl,rfl,hg69⟩ (X0 rfl X1z (hB40.at 2)) ?_
    refine Zv ⟨_,_,rfl,rfl,hg69⟩ (X0v rfl X17) ?_
    refine Zv ⟨_,_,rfl,rfl,hg69⟩ (Vd rfl X0y 2) ?_
    refine Zv ⟨_,_,rfl,rfl,hg69⟩ (X0 rfl X1z (hB44.at 2)) ?_
    refine Zv ⟨_,_,rfl,rfl,hg69⟩ (X0v rfl X17) ?_
    refine Zv ⟨_,_,rfl,rfl,hg69⟩ (Xv rfl rfl (by omega) (by omega)) ?_
    refine Zv ⟨_,_,rfl,rfl,hg69⟩ (X64 rfl rfl) ?_
    refine Ze (Xc rfl hg69 rfl)<|Ze (X6x Tryz.underlying4 rfl rfl)<|Za rfl ?_
    refine Zn fun a hf=>?_
    have hEE:Below w15.heap.size w15 w21:=hEc
    exact ⟨hf.sub ⟨X1 rfl (by first|rfl|(simp only [hc6b,hc21b,hc25b,hc29b,hc55b,hg69,bs];done)|simp [hc6b,hc21b,hc25b,hc29b,hc55b,hg69]),trivial⟩,hEE⟩
   refine Zp ⟨_,_,rfl,rfl,hg69⟩ ?_
   refine Zp ⟨_,_,rfl,rfl,hg69⟩ ?_
   refine Zp ⟨_,_,rfl,rfl,hg69⟩ ?_
   refine Zp ⟨_,_,rfl,rfl,hg69⟩ ?_
   refine Zp ⟨_,_,rfl,rfl,hg69⟩ ?_
   refine Zp ⟨_,_,rfl,rfl,hg69⟩ ?_
   refine Zp ⟨_,_,rfl,rfl,hg69⟩ ?_
   refine Zp ⟨_,_,rfl,rfl,hg69⟩ ?_
   refine Ze (X7 rfl hg69 rfl)<|Ze (X6x Tryz.underlying4 rfl rfl)<|Za rfl ?_
   refine Zn fun a hf=>?_
   have hEE:Below w15.heap.size w15 w21:=hEc
   exact ⟨hf.sub ⟨X1 rfl (by first|rfl|(simp only [hc6b,hc21b,hc25b,hc29b,hc55b,hg69,bs];done)|simp [hc6b,hc21b,hc25b,hc29b,hc55b,hg69]),trivial⟩,hEE⟩
  rintro a w22 ⟨hf,hE⟩
  replace hB40:=hB40.below hE
  replace hB44:=hB44.below hE
  replace hB52:=hB52.below hE
  replace hray65:=hray65.below hE
  replace hoy65:=hoy65.below hE
  replace hrdy65:=hrdy65.below hE
  replace hraz65:=hraz65.below hE
  replace hoz65:=hoz65.below hE
  replace hrdz65:=hrdz65.below hE
  replace hraj71:=hraj71.below hE
  replace hoj71:=hoj71.below hE
  replace hrdj71:=hrdj71.below hE
  replace hdpy65:=hdpy65.below hE
  replace hdpz65:=hdpz65.below hE
  replace hdpj71:=hdpj71.below hE
  replace hW:=btr hW hE
  refine hK68 _ _ ?_
  refine wp_ret (X2 hf (Xo hf rfl rfl) ?_)
  exact ⟨by first|rfl|simp,hW⟩
 have hc25b:=hc25
 refine wp_skip ?_
 refine hK22 _ _ ?_
 refine Zs hf fun _ hK70=>?_
 refine Zm rfl ?_
 refine Zf (Vc (Xjb _ Ace cce more (hr_more.below' hW).top hcm) Xdo) ?_;rintro _ w23 ⟨cy65,ly65,dy65,Ay65,ey65,By65,fy65,Dy65,gy65,cz65,lz65,dz65,Az65,ez65,Bz65,fz65,Dz65,gz65,rfl,hPy65,hPz65,⟨hcby65,hcdy65⟩,hray65,hrdy65,hoy65,hdpy65,⟨hcbz65,hcdz65⟩,hraz65,hrdz65,hoz65,hdpz65,hE⟩
 replace hB15:=hB15.below hE
 replace hraz26:=hraz26.below hE
 replace hoz26:=hoz26.below hE
 replace hrdz26:=hrdz26.below hE
 replace hdpz26:=hdpz26.below hE
 replace hW:=btr hW hE
 refine Zm rfl<|Ze (X3 (vs:=[.agg #[vi cy65.n,.slice Ay65 cy65.gs.length ey65,.slice By65 ly65.length fy65,vi dy65.n,.slice Dy65 dy65.gs.length gy65],.agg #[vi cz65.n,.slice Az65 cz65.gs.length ez65,.slice Bz65 lz65.length fz65,vi dz65.n,.slice Dz65 dz65.gs.length gz65]]) rfl rfl)<|Ze (X3 (vs:=[.agg #[vi cy65.n,.slice Ay65 cy65.gs.length ey65,.slice By65 ly65.length fy65,vi dy65.n,.slice Dy65 dy65.gs.length gy65],.agg #[vi cz65.n,.slice Az65 cz65.gs.length ez65,.slice Bz65 lz65.length fz65,vi dz65.n,.slice Dz65 dz65.gs.length gz65]]) rfl rfl) ?_
 refine Zf (Xa (zs:=[vi 0,.slice none 0 0,.slice none 0 0,vi 0,.slice none 0 0]) X3g rfl) ?_;rintro _ w24 ⟨b80,rfl,hl80,hE,hB80⟩
 have hne15_80:b15≠b80:=by have:=hB15.lt;omega
 have hlo80:=Nat.le_trans hW.size hl80
 have haw1_80:=(hr_code.below' hW).away hl80
 have haw2_80:=(hr_more.below' hW).away hl80
 replace hB15:=hB15.below hE
 replace hraz26:=hraz26.below hE
 replace hoz26:=hoz26.below hE
 replace hrdz26:=hrdz26.below hE
 replace hray65:=hray65.below hE
 replace hoy65:=hoy65.below hE
 replace hrdy65:=hrdy65.below hE
 replace hraz65:=hraz65.below hE
 replace hoz65:=hoz65.below hE
 replace hrdz65:=hrdz65.below hE
 replace hdpz26:=hdpz26.below hE
 replace hdpy65:=hdpy65.below hE
 replace hdpz65:=hdpz65.below hE
 replace hW:=btr hW hE
 refine Zf (Xa (zs:=[vi 0,.slice none 0 0,.slice none 0 0,vi 0,.slice none 0 0]) X3g rfl) ?_;rintro _ w25 ⟨b84,rfl,hl84,hE,hB84⟩
 have hne15_84:b15≠b84:=by have:=hB15.lt;omega
 have hne80_84:b80≠b84:=by have:=hB80.lt;omega
 have hlo84:=Nat.le_trans hW.size hl84
 have haw1_84:=(hr_code.below' hW).away hl84
 have haw2_84:=(hr_more.below' hW).away hl84
 replace hB15:=hB15.below hE
 replace hB80:=hB80.below hE
 replace hraz26:=hraz26.below hE
 replace hoz26:=hoz26.below hE
 replace hrdz26:=hrdz26.below hE
 replace hray65:=hray65.below hE
 replace hoy65:=hoy65.below hE
 replace hrdy65:=hrdy65.below hE
 replace hraz65:=hraz65.below hE
 replace hoz65:=hoz65.below hE
 replace hrdz65:=hrdz65.below hE
 replace hdpz26:=hdpz26.below hE
 replace hdpy65:=hdpy65.below hE
 replace hdpz65:=hdpz65.below hE
 replace hW:=btr hW hE
 refine Zo (Vw [vi cy65.n,.slice Ay65 cy65.gs.length ey65,.slice By65 ly65.length fy65,vi dy65.n,.slice Dy65 dy65.gs.length gy65] X13 hB80) ?_;rintro _ w26 ⟨ho,hb⟩
 have hold:=hB80
 replace hB15:=hB15.only ho (by omega)
 replace hB84:=hB84.only ho (by omega)
 replace hraz26:=hraz26.onlyT ho hold rfl
 replace hoz26:=hoz26.onlyT ho hold rfl
 replace hrdz26:=hrdz26.onlyT ho hold rfl
 replace hray65:=hray65.onlyT ho hold rfl
 replace hoy65:=hoy65.onlyT ho hold rfl
 replace hrdy65:=hrdy65.onlyT ho hold rfl
 replace hraz65:=hraz65.onlyT ho hold rfl
 replace hoz65:=hoz65.onlyT ho hold rfl
 replace hrdz65:=hrdz65.onlyT ho hold rfl
 replace hdpz26:=hdpz26.onlyT ho hold rfl
 replace hdpy65:=hdpy65.onlyT ho hold rfl
 replace hdpz65:=hdpz65.onlyT ho hold rfl
 replace hW:=Below.only hW ho hlo80
 clear hold
 have hB80:=hb
 clear hb ho
 refine Zo (Vw [vi cz65.n,.slice Az65 cz65.gs.length ez65,.slice Bz65 lz65.length fz65,vi dz65.n,.slice Dz65 dz65.gs.length gz65] X13 hB84) ?_;rintro _ w27 ⟨ho,hb⟩
 have hold:=hB84
 replace hB15:=hB15.only ho (by omega)
 replace hB80:=hB80.only ho (by omega)
 replace hraz26:=hraz26.onlyT ho hold rfl
 replace hoz26:=hoz26.onlyT ho hold rfl
 replace hrdz26:=hrdz26.onlyT ho hold rfl
 replace hray65:=hray65.onlyT ho hold rfl
 replace hoy65:=hoy65.onlyT ho hold rfl
 replace hrdy65:=hrdy65.onlyT ho hold rfl
 replace hraz65:=hraz65.onlyT ho hold rfl
 replace hoz65:=hoz65.onlyT ho hold rfl
 replace hrdz65:=hrdz65.onlyT ho hold rfl
 replace hdpz26:=hdpz26.onlyT ho hold rfl
 replace hdpy65:=hdpy65.onlyT ho hold rfl
 replace hdpz65:=hdpz65.onlyT ho hold rfl
 replace hW:=Below.only hW ho hlo84
 clear hold
 have hB84:=hb
 clear hb ho
 refine Zt hK70 fun a hf=>?_
 refine Zs hf fun _ hK85=>?_
 refine Ze (Vn X0l hB80)<|Ze (Vn X0l hB84) ?_
 refine Zf (Vc (Xji _ cy65 Ay65 ey65 hray65.top hcby65 By65 fy65 ly65 hoy65.top hdpy65.top dy65 Dy65 gy65 hrdy65.top hcdy65 cz65 Az65 ez65 hraz65.top hcbz65 Bz65 fz65 lz65 hoz65.top hdpz65.top dz65 Dz65 gz65 hrdz65.top hcdz65 (Nat.le_trans hPy65.1 (by decide)) (Nat.le_trans hPy65.2.1 (by decide)) (fun s hs=>⟨Nat.le_trans (hPy65.2.2.2 s hs).1 (by decide),Nat.le_trans (hPy65.2.2.2 s hs).2 (by decide)⟩) (Nat.le_trans hPy65.2.2.1 (by decide)) (Nat.le_trans hPz65.2.1 (by decide)) (fun s hs=>⟨Nat.le_trans (hPz65.2.2.2 s hs).1 (by decide),Nat.le_trans (hPz65.2.2.2 s hs).2 (by decide)⟩) (Nat.le_trans hPz65.2.2.1 (by decide))) Xcu) ?_;rintro _ w28 ⟨cj71,lj71,dj71,Aj71,ej71,Bj71,fj71,Dj71,gj71,rfl,hPj71,⟨hcbj71,hcdj71⟩,hraj71,hrdj71,hoj71,hdpj71,hE⟩
 replace hB80:=hB80.below hE
 replace hB84:=hB84.below hE
 replace hray65:=hray65.below hE
 replace hoy65:=hoy65.below hE
 replace hrdy65:=hrdy65.below hE
 replace hraz65:=hraz65.below hE
 replace hoz65:=hoz65.below hE
 replace hrdz65:=hrdz65.below hE
 replace hdpy65:=hdpy65.below hE
 replace hdpz65:=hdpz65.below hE
 replace hW:=btr hW hE
 refine Zm rfl<|Ze (X3 (vs:=[.agg #[vi cj71.n,.slice Aj71 cj71.gs.length ej71,.slice Bj71 lj71.length fj71,vi dj71.n,.slice Dj71 dj71.gs.length gj71],.bool (eqC dy65 cz65&&decide (((ly65.length:Int)+(lz65.length:Int))≤400))]) rfl rfl)<|Ze (X3 (vs:=[.agg #[vi cj71.n,.slice Aj71 cj71.gs.length ej71,.slice Bj71 lj71.length fj71,vi dj71.n,.slice Dj71 dj71.gs.length gj71],.bool (eqC dy65 cz65&&decide (((ly65.length:Int)+(lz65.length:Int))≤400))]) rfl rfl) ?_
 refine Zf (Xa (zs:=[vi 0,.slice none 0 0,.slice none 0 0,vi 0,.slice none 0 0]) X3g rfl) ?_;rintro _ w29 ⟨b92,rfl,hl92,hE,hB92⟩
 have hne80_92:b80≠b92:=by have:=hB80.lt;omega
 have hne84_92:b84≠b92:=by have:=hB84.lt;omega
 have hlo92:=Nat.le_trans hW.size hl92
 have haw1_92:=(hr_code.below' hW).away hl92
 have haw2_92:=(hr_more.below' hW).away hl92
 replace hB80:=hB80.below hE
 replace hB84:=hB84.below hE
 replace hray65:=hray65.below hE
 replace hoy65:=hoy65.below hE
 replace hrdy65:=hrdy65.below hE
 replace hraz65:=hraz65.below hE
 replace hoz65:=hoz65.below hE
 replace hrdz65:=hrdz65.below hE
 replace hraj71:=hraj71.below hE
 replace hoj71:=hoj71.below hE
 replace hrdj71:=hrdj71.below hE
 replace hdpy65:=hdpy65.below hE
 replace hdpz65:=hdpz65.below hE
 replace hdpj71:=hdpj71.below hE
 replace hW:=btr hW hE
 refine Zo (Vw [vi cj71.n,.slice Aj71 cj71.gs.length ej71,.slice Bj71 lj71.length fj71,vi dj71.n,.slice Dj71 dj71.gs.length gj71] X13 hB92) ?_;rintro _ w30 ⟨ho,hb⟩
 have hold:=hB92
 replace hB80:=hB80.only ho (by omega)
 replace hB84:=hB84.only ho (by omega)
 replace hray65:=hray65.onlyT ho hold rfl
 replace hoy65:=hoy65.onlyT ho hold rfl
 replace hrdy65:=hrdy65.onlyT ho hold rfl
 replace hraz65:=hraz65.onlyT ho hold rfl
 replace hoz65:=hoz65.onlyT ho hold rfl
 replace hrdz65:=hrdz65.onlyT ho hold rfl
 replace hraj71:=hraj71.onlyT ho hold rfl
 replace hoj71:=hoj71.onlyT ho hold rfl
 replace hrdj71:=hrdj71.onlyT ho hold rfl
 replace hdpy65:=hdpy65.onlyT ho hold rfl
 replace hdpz65:=hdpz65.onlyT ho hold rfl
 replace hdpj71:=hdpj71.onlyT ho hold rfl
 replace hW:=Below.only hW ho hlo92
 clear hold
 have hB92:=hb
 clear hb ho
 refine Za rfl ?_
 refine Zt hK85 fun a hf=>?_
 refine wp_seq_k fun _ hK93=>?_
 refine Zs hf fun _ hK94=>?_
 refine Zm rfl ?_
 refine Zt hK94 fun a hf=>?_
 refine Xi hf rfl (fun hc95=>?_) (fun hc95=>?_)
 ·have hc95b:=hc95
  have hjo:=hPj71 hc95
  have hjl:lj71.length=ly65.length+lz65.length:=by simpa using congrArg List.length hjo.2.1
  have hjs:∀ s ∈ lj71,s.old.length≤1048576∧s.new.length≤1048576:=X9a hjo.2.1 hPy65.2.2.2 hPz65.2.2.2
  have hj1:cj71.gs.length≤1048576:=by rw [hjo.1];omega
  have hj2:lj71.length≤1048576:=by omega
  have hj3:=hjs
  have hj4:dj71.gs.length≤1048576:=by rw [hjo.2.2];omega
  refine Zs hf fun _ hK96=>?_
  refine Ze (Vn X0l hB80) ?_
  refine Zf (Vc (F27 _ cy65 Ay65 ey65 hray65.top hcby65 By65 fy65 ly65 hoy65.top hdpy65.top dy65 Dy65 gy65 hrdy65.top (Nat.le_trans hPy65.1 (by decide)) (Nat.le_trans hPy65.2.1 (by decide)) (fun s hs=>⟨Nat.le_trans (hPy65.2.2.2 s hs).1 (by decide),Nat.le_trans (hPy65.2.2.2 s hs).2 (by decide)⟩) (Nat.le_trans hPy65.2.2.1 (by decide))) Xb0) ?_;rintro _ w31 ⟨rfl,hE⟩
  replace hB80:=hB80.below hE
  replace hB84:=hB84.below hE
  replace hB92:=hB92.below hE
  replace hray65:=hray65.below hE
  replace hoy65:=hoy65.below hE
  replace hrdy65:=hrdy65.below hE
  replace hraz65:=hraz65.below hE
  replace hoz65:=hoz65.below hE
  replace hrdz65:=hrdz65.below hE
  replace hraj71:=hraj71.below hE
  replace hoj71:=hoj71.below hE
  replace hrdj71:=hrdj71.below hE
  replace hdpy65:=hdpy65.below hE
  replace hdpz65:=hdpz65.below hE
  replace hdpj71:=hdpj71.below hE
  replace hW:=btr hW hE
  refine Zm rfl<|Ze (X3 (vs:=[vi ((checkS cy65 dy65 (ly65.map Sr.rp)).1),.bool ((checkS cy65 dy65 (ly65.map Sr.rp)).2)]) rfl rfl)<|Ze (X3 (vs:=[vi ((checkS cy65 dy65 (ly65.map Sr.rp)).1),.bool ((checkS cy65 dy65 (ly65.map Sr.rp)).2)]) rfl rfl)<|Za rfl<|Za rfl ?_
  refine Zt hK96 fun a hf=>?_
  refine Zs hf fun _ hK97=>?_
  refine Ze (Vn X0l hB84) ?_
  refine Zf (Vc (F27 _ cz65 Az65 ez65 hraz65.top hcbz65 Bz65 fz65 lz65 hoz65.top hdpz65.top dz65 Dz65 gz65 hrdz65.top (Nat.le_trans hPz65.1 (by decide)) (Nat.le_trans hPz65.2.1 (by decide)) (fun s hs=>⟨Nat.le_trans (hPz65.2.2.2 s hs).1 (by decide),Nat.le_trans (hPz65.2.2.2 s hs).2 (by decide)⟩) (Nat.le_trans hPz65.2.2.1 (by decide))) Xb0) ?_;rintro _ w32 ⟨rfl,hE⟩
  replace hB80:=hB80.below hE
  replace hB84:=hB84.below hE
  replace hB92:=hB92.below hE
  replace hray65:=hray65.below hE
  replace hoy65:=hoy65.below hE
  replace hrdy65:=hrdy65.below hE
  replace hraz65:=hraz65.below hE
  replace hoz65:=hoz65.below hE
  replace hrdz65:=hrdz65.below hE
  replace hraj71:=hraj71.below hE
  replace hoj71:=hoj71.below hE
  replace hrdj71:=hrdj71.below hE
  replace hdpy65:=hdpy65.below hE
  replace hdpz65:=hdpz65.below hE
  replace hdpj71:=hdpj71.below hE
  replace hW:=btr hW hE
  refine Zm rfl<|Ze (X3 (vs:=[vi ((checkS cz65 dz65 (lz65.map Sr.rp)).1),.bool ((checkS cz65 dz65 (lz65.map Sr.rp)).2)]) rfl rfl)<|Ze (X3 (vs:=[vi ((checkS cz65 dz65 (lz65.map Sr.rp)).1),.bool ((checkS cz65 dz65 (lz65.map Sr.rp)).2)]) rfl rfl)<|Za rfl<|Za rfl ?_
  refine Zt hK97 fun a hf=>?_
  refine Zs hf fun _ hK98=>?_
  refine Ze (Vn X0l hB92) ?_
  refine Zf (Vc (F29 _ cj71 Aj71 ej71 hraj71.top hcbj71 Bj71 fj71 lj71 hoj71.top hdpj71.top dj71 Dj71 gj71 hrdj71.top hj1 hj2 hj3 hj4) Xh5) ?_;rintro _ w33 ⟨rfl,hE⟩
  replace hB80:=hB80.below hE
  replace hB84:=hB84.below hE
  replace hB92:=hB92.below hE
  replace hray65:=hray65.below hE
  replace hoy65:=hoy65.below hE
  replace hrdy65:=hrdy65.below hE
  replace hraz65:=hraz65.below hE
  replace hoz65:=hoz65.below hE
  replace hrdz65:=hrdz65.below hE
  replace hraj71:=hraj71.below hE
  replace hoj71:=hoj71.below hE
  replace hrdj71:=hrdj71.below hE
  replace hdpy65:=hdpy65.below hE
  replace hdpz65:=hdpz65.below hE
  replace hdpj71:=hdpj71.below hE
  replace hW:=btr hW hE
  refine Zm rfl<|Ze (X3 (vs:=[vi ((checkI cj71 dj71 (lj71.map Sr.rp)).1),.bool ((checkI cj71 dj71 (lj71.map Sr.rp)).2)]) rfl rfl)<|Ze (X3 (vs:=[vi ((checkI cj71 dj71 (lj71.map Sr.rp)).1),.bool ((checkI cj71 dj71 (lj71.map Sr.rp)).2)]) rfl rfl)<|Za rfl<|Za rfl ?_
  refine Zt hK98 fun a hf=>?_
  refine wp_seq_k fun _ hK99=>?_
  refine X09 (fun a w=>Fr a 127 [(12,.pointer (some ⟨b80,0,none⟩)),(13,.pointer (some ⟨b84,0,none⟩)),(15,.bool (eqC dy65 cz65&&decide (((ly65.length:Int)+(lz65.length:Int))≤400))),(109,.bool ((((((checkS cy65 dy65 (ly65.map Sr.rp)).2)&&((checkS cz65 dz65 (lz65.map Sr.rp)).2))&&(((checkS cy65 dy65 (ly65.map Sr.rp)).1)==0))&&(((checkS cz65 dz65 (lz65.map Sr.rp)).1)==0))&&((!((checkI cj71 dj71 (lj71.map Sr.rp)).2))||(((checkI cj71 dj71 (lj71.map Sr.rp)).1) != 0))))]∧w33=w) ?_ ?_
  ·refine Zr hf ?_
   refine Zm rfl<|Zm rfl ?_
   refine Zg 91 rfl (fun hg100=>?_) (fun hg100=>?_)
   ·refine Zv ⟨_,_,rfl,rfl,hg100⟩ (X9 rfl) ?_
    refine Ze (Xc rfl hg100 rfl)<|Zm rfl ?_
    refine Zg 94 rfl (fun hg101=>?_) (fun hg101=>?_)
    ·refine Zv ⟨_,_,rfl,rfl,hg101⟩ (X9 rfl) ?_
     refine Zv ⟨_,_,rfl,rfl,hg101⟩ (X0u rfl rfl) ?_
     refine Ze (Xc rfl hg101 rfl)<|Zm rfl ?_
     refine Zg 98 rfl (fun hg102=>?_) (fun hg102=>?_)
     ·refine Zv ⟨_,_,rfl,rfl,hg102⟩ (X9 rfl) ?_
      refine Zv ⟨_,_,rfl,rfl,hg102⟩ (X0u rfl rfl) ?_
      refine Ze (Xc rfl hg102 rfl)<|Zm rfl ?_
      refine Zg 102 rfl (fun hg103=>?_) (fun hg103=>?_)
      ·refine Zv ⟨_,_,rfl,rfl,hg103⟩ (X9 rfl) ?_
       refine Zv ⟨_,_,rfl,rfl,hg103⟩ (X15 rfl) ?_
       refine Zv ⟨_,_,rfl,rfl,hg103⟩ (X9 rfl) ?_
       refine Zg 105 rfl (fun hg104=>?_) (fun hg104=>?_)
       ·refine Zp ⟨_,_,rfl,rfl,hg104⟩ ?_
        refine Zp ⟨_,_,rfl,rfl,hg104⟩ ?_
        refine Zv ⟨_,_,rfl,rfl,hg103⟩ (Xc rfl hg104 rfl) ?_
        refine Ze (Xc rfl hg103 rfl) ?_
        refine Zn fun a hf=>?_
        exact ⟨hf.sub ⟨rfl,rfl,rfl,X1 rfl (by first|rfl|(simp only [hc6b,hc21b,hc25b,hc95b,hg100,hg101,hg102,hg103,hg104,bs];done)|simp [hc6b,hc21b,hc25b,hc95b,hg100,hg101,hg102,hg103,hg104]),trivial⟩,rfl⟩
       refine Zv ⟨_,_,rfl,rfl,hg104⟩ (X9 rfl) ?_
       refine Zv ⟨_,_,rfl,rfl,hg104⟩ (X2z rfl rfl) ?_
       refine Zv ⟨_,_,rfl,rfl,hg103⟩ (X7 rfl hg104 rfl) ?_
       refine Ze (Xc rfl hg103 rfl) ?_
       refine Zn fun a hf=>?_
       exact ⟨hf.sub ⟨rfl,rfl,rfl,X1 rfl (by first|rfl|(simp only [hc6b,hc21b,hc25b,hc95b,hg100,hg101,hg102,hg103,hg104,bs];done)|simp [hc6b,hc21b,hc25b,hc95b,hg100,hg101,hg102,hg103,hg104]),trivial⟩,rfl⟩
      refine Zp ⟨_,_,rfl,rfl,hg103⟩ ?_
      refine Zp ⟨_,_,rfl,rfl,hg103⟩ ?_
      refine Zp ⟨_,_,rfl,rfl,hg103⟩ ?_
      refine Zp ⟨_,_,rfl,rfl,trivial⟩ ?_
      refine Zp ⟨_,_,rfl,rfl,trivial⟩ ?_
      refine Zp ⟨_,_,rfl,rfl,hg103⟩ ?_
      refine Ze (X7 rfl hg103 rfl) ?_
      refine Zn fun a hf=>?_
      exact ⟨hf.sub ⟨rfl,rfl,rfl,X1 rfl (by first|rfl|(simp only [hc6b,hc21b,hc25b,hc95b,hg100,hg101,hg102,hg103,bs];done)|simp [hc6b,hc21b,hc25b,hc95b,hg100,hg101,hg102,hg103]),trivial⟩,rfl⟩
     refine Zp ⟨_,_,rfl,rfl,hg102⟩ ?_
     refine Zp ⟨_,_,rfl,rfl,hg102⟩ ?_
     refine Ze (X7 rfl hg102 rfl)<|Zm rfl<|Zp ⟨_,_,rfl,rfl,rfl⟩ ?_
     refine Zp ⟨_,_,rfl,rfl,rfl⟩ ?_
     refine Zp ⟨_,_,rfl,rfl,rfl⟩ ?_
     refine Zp ⟨_,_,rfl,rfl,trivial⟩ ?_
     refine Zp ⟨_,_,rfl,rfl,trivial⟩ ?_
     refine Zp ⟨_,_,rfl,rfl,rfl⟩ ?_
     refine Ze (X7 rfl rfl rfl) ?_
     refine Zn fun a hf=>?_
     exact ⟨hf.sub ⟨rfl,rfl,rfl,X1 rfl (by first|rfl|(simp only [hc6b,hc21b,hc25b,hc95b,hg100,hg101,hg102,bs];done)|simp [hc6b,hc21b,hc25b,hc95b,hg100,hg101,hg102]),trivial⟩,rfl⟩
    refine Zp ⟨_,_,rfl,rfl,hg101⟩ ?_
    refine Zp ⟨_,_,rfl,rfl,hg101⟩ ?_
    refine Ze (X7 rfl hg101 rfl)<|Zm rfl<|Zp ⟨_,_,rfl,rfl,rfl⟩ ?_
    refine Zp ⟨_,_,rfl,rfl,rfl⟩ ?_
    refine Ze (X7 rfl rfl rfl)<|Zm rfl<|Zp ⟨_,_,rfl,rfl,rfl⟩ ?_
    refine Zp ⟨_,_,rfl,rfl,rfl⟩ ?_
    refine Zp ⟨_,_,rfl,rfl,rfl⟩ ?_
    refine Zp ⟨_,_,rfl,rfl,trivial⟩ ?_
    refine Zp ⟨_,_,rfl,rfl,trivial⟩ ?_
    refine Zp ⟨_,_,rfl,rfl,rfl⟩ ?_
    refine Ze (X7 rfl rfl rfl) ?_
    refine Zn fun a hf=>?_
    exact ⟨hf.sub ⟨rfl,rfl,rfl,X1 rfl (by first|rfl|(simp only [hc6b,hc21b,hc25b,hc95b,hg100,hg101,bs];done)|simp [hc6b,hc21b,hc25b,hc95b,hg100,hg101]),trivial⟩,rfl⟩
   refine Zp ⟨_,_,rfl,rfl,hg100⟩ ?_
   refine Ze (X7 rfl hg100 rfl)<|Zm rfl<|Zp ⟨_,_,rfl,rfl,rfl⟩ ?_
   refine Zp ⟨_,_,rfl,rfl,rfl⟩ ?_
   refine Ze (X7 rfl rfl rfl)<|Zm rfl<|Zp ⟨_,_,rfl,rfl,rfl⟩ ?_
   refine Zp ⟨_,_,rfl,rfl,rfl⟩ ?_
   refine Ze (X7 rfl rfl rfl)<|Zm rfl<|Zp ⟨_,_,rfl,rfl,rfl⟩ ?_
   refine Zp ⟨_,_,rfl,rfl,rfl⟩ ?_
   refine Zp ⟨_,_,rfl,rfl,rfl⟩ ?_
   refine Zp ⟨_,_,rfl,rfl,trivial⟩ ?_
   refine Zp ⟨_,_,rfl,rfl,trivial⟩ ?_
   refine Zp ⟨_,_,rfl,rfl,rfl⟩ ?_
   refine Ze (X7 rfl rfl rfl) ?_
   refine Zn fun a hf=>?_
   exact ⟨hf.sub ⟨rfl,rfl,rfl,X1 rfl (by first|rfl|(simp only [hc6b,hc21b,hc25b,hc95b,hg100,bs];done)|simp [hc6b,hc21b,hc25b,hc95b,hg100]),trivial⟩,rfl⟩
  rintro a _ ⟨hf,rfl⟩
  refine hK99 _ _ ?_
  refine Xi hf rfl (fun hc105=>?_) (fun hc105=>?_)
  ·have hc105b:=hc105
   rw [hjo.1,hjo.2.1,hjo.2.2] at hc105;exact (Xcr (hok:=by assumption) hc105).elim
  have hc105b:=hc105
  refine wp_skip ?_
  refine hK93 _ _ ?_
  refine wp_seq_k fun _ hK106=>?_
  refine X09 (fun a w=>Fr a 127 [(4,.bool ((eqC dy65 cz65&&decide (((ly65.length:Int)+(lz65.length:Int))≤400))==((eqC dy65 cz65)&&(decide (((ly65.length:Int)+(lz65.length:Int))≤400)))))]∧Below w33.heap.size w33 w) ?_ ?_
  ·have hEc:Below w33.heap.size w33 w33:=Below.refl _ _
   refine Zr hf ?_
   refine Zm rfl<|Ze (Vd rfl X1l 3)<|Ze (Xj (l:=[vi dy65.n,.slice Dy65 dy65.gs.length gy65]) rfl X0c ((hB80.at 3).take 2) rfl)<|Ze (Vd rfl X21 0)<|Ze (Xj (l:=[vi cz65.n,.slice Az65 cz65.gs.length ez65]) rfl X0c ((hB84.at 0).take 2) rfl) ?_
   refine Zf (Vc (F64 _ dy65 Dy65 gy65 hrdy65.top cz65 Az65 ez65 hraz65.top (Nat.le_trans hPy65.2.2.1 (by decide))) Xbl) ?_;rintro _ w34 ⟨rfl,hE⟩
   replace hB80:=hB80.below hE
   replace hB84:=hB84.below hE
   replace hray65:=hray65.below hE
   replace hoy65:=hoy65.below hE
   replace hrdy65:=hrdy65.below hE
   replace hraz65:=hraz65.below hE
   replace hoz65:=hoz65.below hE
   replace hrdz65:=hrdz65.below hE
   replace hdpy65:=hdpy65.below hE
   replace hdpz65:=hdpz65.below hE
   replace hW:=btr hW hE
   replace hEc:=btr hEc hE
   refine Zm rfl ?_
   refine Zg 116 rfl (fun hg107=>?_) (fun hg107=>?_)
   ·refine Zv ⟨_,_,rfl,rfl,hg107⟩ (Vd rfl X0y 2) ?_
    refine Zv ⟨_,_,rfl,rfl,hg107⟩ (X0 rfl X1z (hB80.at 2)) ?_
    refine Zv ⟨_,_,rfl,rfl,hg107⟩ (X0v rfl X17) ?_
    refine Zv ⟨_,_,rfl,rfl,hg107⟩ (Vd rfl X0y 2) ?_
    refine Zv ⟨_,_,rfl,rfl,hg107⟩ (X0 rfl X1z (hB84.at 2)) ?_
    refine Zv ⟨_,_,rfl,rfl,hg107⟩ (X0v rfl X17) ?_
    refine Zv ⟨_,_,rfl,rfl,hg107⟩ (Xv rfl rfl (by omega) (by omega)) ?_
    refine Zv ⟨_,_,rfl,rfl,hg107⟩ (X64 rfl rfl) ?_
    refine Ze (Xc rfl hg107 rfl)<|Ze (X6x Tryz.underlying4 rfl rfl)<|Za rfl ?_
    refine Zn fun a hf=>?_
    have hEE:Below w33.heap.size w33 w34:=hEc
    exact ⟨hf.sub ⟨X1 rfl (by first|rfl|(simp only [hc6b,hc21b,hc25b,hc95b,hc105b,hg107,bs];done)|simp [hc6b,hc21b,hc25b,hc95b,hc105b,hg107]),trivial⟩,hEE⟩
   refine Zp ⟨_,_,rfl,rfl,hg107⟩ ?_
   refine Zp ⟨_,_,rfl,rfl,hg107⟩ ?_
   refine Zp ⟨_,_,rfl,rfl,hg107⟩ ?_
   refine Zp ⟨_,_,rfl,rfl,hg107⟩ ?_
   refine Zp ⟨_,_,rfl,rfl,hg107⟩ ?_
   refine Zp ⟨_,_,rfl,rfl,hg107⟩ ?_
   refine Zp ⟨_,_,rfl,rfl,hg107⟩ ?_
   refine Zp ⟨_,_,rfl,rfl,hg107⟩ ?_
   refine Ze (X7 rfl hg107 rfl)<|Ze (X6x Tryz.underlying4 rfl rfl)<|Za rfl ?_
   refine Zn fun a hf=>?_
   have hEE:Below w33.heap.size w33 w34:=hEc
   exact ⟨hf.sub ⟨X1 rfl (by first|rfl|(simp only [hc6b,hc21b,hc25b,hc95b,hc105b,hg107,bs];done)|simp [hc6b,hc21b,hc25b,hc95b,hc105b,hg107]),trivial⟩,hEE⟩
  rintro a w35 ⟨hf,hE⟩
  replace hB80:=hB80.below hE
  replace hB84:=hB84.below hE
  replace hray65:=hray65.below hE
  replace hoy65:=hoy65.below hE
  replace hrdy65:=hrdy65.below hE
  replace hraz65:=hraz65.below hE
  replace hoz65:=hoz65.below hE
  replace hrdz65:=hrdz65.below hE
  replace hdpy65:=hdpy65.below hE
  replace hdpz65:=hdpz65.below hE
  replace hW:=btr hW hE
  refine hK106 _ _ ?_
  refine wp_ret (X2 hf (Xo hf rfl rfl) ?_)
  exact ⟨by first|rfl|simp,hW⟩
 have hc95b:=hc95
 refine wp_skip ?_
 refine hK93 _ _ ?_
 refine wp_seq_k fun _ hK108=>?_
 refine X09 (fun a w=>Fr a 127 [(4,.bool ((eqC dy65 cz65&&decide (((ly65.length:Int)+(lz65.length:Int))≤400))==((eqC dy65 cz65)&&(decide (((ly65.length:Int)+(lz65.length:Int))≤400)))))]∧Below w30.heap.size w30 w) ?_ ?_
 ·have hEc:Below w30.heap.size w30 w30:=Below.refl _ _
  refine Zr hf ?_
  refine Zm rfl<|Ze (Vd rfl X1l 3)<|Ze (Xj (l:=[vi dy65.n,.slice Dy65 dy65.gs.length gy65]) rfl X0c ((hB80.at 3).take 2) rfl)<|Ze (Vd rfl X21 0)<|Ze (Xj (l:=[vi cz65.n,.slice Az65 cz65.gs.length ez65]) rfl X0c ((hB84.at 0).take 2) rfl) ?_
  refine Zf (Vc (F64 _ dy65 Dy65 gy65 hrdy65.top cz65 Az65 ez65 hraz65.top (Nat.le_trans hPy65.2.2.1 (by decide))) Xbl) ?_;rintro _ w36 ⟨rfl,hE⟩
  replace hB80:=hB80.below hE
  replace hB84:=hB84.below hE
  replace hB92:=hB92.below hE
  replace hray65:=hray65.below hE
  replace hoy65:=hoy65.below hE
  replace hrdy65:=hrdy65.below hE
  replace hraz65:=hraz65.below hE
  replace hoz65:=hoz65.below hE
  replace hrdz65:=hrdz65.below hE
  replace hraj71:=hraj71.below hE
  replace hoj71:=hoj71.below hE
  replace hrdj71:=hrdj71.below hE
  replace hdpy65:=hdpy65.below hE
  replace hdpz65:=hdpz65.below hE
  replace hdpj71:=hdpj71.below hE
  replace hW:=btr hW hE
  replace hEc:=btr hEc hE
  refine Zm rfl ?_
  refine Zg 116 rfl (fun hg109=>?_) (fun hg109=>?_)
  ·refine Zv ⟨_,_,rfl,rfl,hg109⟩ (Vd rfl X0y 2) ?_
   refine Zv ⟨_,_,rfl,rfl,hg109⟩ (X0 rfl X1z (hB80.at 2)) ?_
   refine Zv ⟨_,_,rfl,rfl,hg109⟩ (X0v rfl X17) ?_
   refine Zv ⟨_,_,rfl,rfl,hg109⟩ (Vd rfl X0y 2) ?_
   refine Zv ⟨_,_,rfl,rfl,hg109⟩ (X0 rfl X1z (hB84.at 2)) ?_
   refine Zv ⟨_,_,rfl,rfl,hg109⟩ (X0v rfl X17) ?_
   refine Zv ⟨_,_,rfl,rfl,hg109⟩ (Xv rfl rfl (by omega) (by omega)) ?_
   refine Zv ⟨_,_,rfl,rfl,hg109⟩ (X64 rfl rfl) ?_
   refine Ze (Xc rfl hg109 rfl)<|Ze (X6x Tryz.underlying4 rfl rfl)<|Za rfl ?_
   refine Zn fun a hf=>?_
   have hEE:Below w30.heap.size w30 w36:=hEc
   exact ⟨hf.sub ⟨X1 rfl (by first|rfl|(simp only [hc6b,hc21b,hc25b,hc95b,hg109,bs];done)|simp [hc6b,hc21b,hc25b,hc95b,hg109]),trivial⟩,hEE⟩
  refine Zp ⟨_,_,rfl,rfl,hg109⟩ ?_
  refine Zp ⟨_,_,rfl,rfl,hg109⟩ ?_
  refine Zp ⟨_,_,rfl,rfl,hg109⟩ ?_
  refine Zp ⟨_,_,rfl,rfl,hg109⟩ ?_
  refine Zp ⟨_,_,rfl,rfl,hg109⟩ ?_
  refine Zp ⟨_,_,rfl,rfl,hg109⟩ ?_
  refine Zp ⟨_,_,rfl,rfl,hg109⟩ ?_
  refine Zp ⟨_,_,rfl,rfl,hg109⟩ ?_
  refine Ze (X7 rfl hg109 rfl)<|Ze (X6x Tryz.underlying4 rfl rfl)<|Za rfl ?_
  refine Zn fun a hf=>?_
  have hEE:Below w30.heap.size w30 w36:=hEc
  exact ⟨hf.sub ⟨X1 rfl (by first|rfl|(simp only [hc6b,hc21b,hc25b,hc95b,hg109,bs];done)|simp [hc6b,hc21b,hc25b,hc95b,hg109]),trivial⟩,hEE⟩
 rintro a w37 ⟨hf,hE⟩
 replace hB80:=hB80.below hE
 replace hB84:=hB84.below hE
 replace hB92:=hB92.below hE
 replace hray65:=hray65.below hE
 replace hoy65:=hoy65.below hE
 replace hrdy65:=hrdy65.below hE
 replace hraz65:=hraz65.below hE
 replace hoz65:=hoz65.below hE
 replace hrdz65:=hrdz65.below hE
 replace hraj71:=hraj71.below hE
 replace hoj71:=hoj71.below hE
 replace hrdj71:=hrdj71.below hE
 replace hdpy65:=hdpy65.below hE
 replace hdpz65:=hdpz65.below hE
 replace hdpj71:=hdpj71.below hE
 replace hW:=btr hW hE
 refine hK108 _ _ ?_
 refine wp_ret (X2 hf (Xo hf rfl rfl) ?_)
 exact ⟨by first|rfl|simp,hW⟩
end Go.Proofs.YtlfjcmldfbfdbaaGreat
namespace Go.Proofs.YtlfjcmldfbfdbaaGreat
open Go.RowKit Go.ChangeShapes Go.WideShapes Go.Deep Go.Joins
theorem Xlq:Tryz.prog.cellsOf 5=1:=by kernel_rfl
theorem Xgy{n:Int}(h:(Lit.int .u8 n).wf=true) : 0≤n∧n≤255:=by
 have h1:IntKind.u8.min=0:=rfl
 have h2:IntKind.u8.max=255:=rfl
 simp [Lit.wf] at h
 omega
set_option maxRecDepth 100000 in
theorem X7w{H:Type}{enc:TypeId×Value→H}{w:World}{base b0:Nat}{spare:Nat→Bool}{held:Bool}{r:Reach}{v:Value}{d:DataW H}{p:List MemPlace}(hv:Value.okWide Tryz.prog w r b0 22 v)(h:DataW.Trod enc Tryz.prog w base spare held 22 v d p)(hsp:∀ b,spare b=true) :
  ∃ (A:Option Addr) (l:List Int) (k:Nat) (E:TypeId),v=.slice A l.length k∧Rd w w.heap.size E encU A l∧(∀ x ∈ l,0≤x∧x≤255):=by
 obtain ⟨a1,n1,k1,rfl⟩:=okWide_slice Tryz.underlying22 hv
 obtain ⟨fuel,hf⟩:=h
 have key:∃ (A:Option Addr) (l:List Int) (c:Nat) (E:TypeId),(Value.slice a1 n1 k1).cells.toList=[Value.slice A l.length c]∧Rd w w.heap.size E encU A l∧(∀ x ∈ l,0≤x∧x≤255):=by
  rcases open_slice Tryz.underlying22 hf with ⟨hcs,_⟩|⟨a,len,cap,m,n,D,Pl,hcs,hb,hl,hm,hmm,_,hi⟩
  ·exact ⟨none,[],0,0,hcs,Rd.nil _ _ _ _ _,by simp⟩
  ·rw [Xlq] at hi
   have hlm:len≤m:=by rw [hmm,hsp];simpa using hl
   obtain ⟨l,h1,h2⟩:=Xhg (n:=len) (Q:=fun i g=>(0≤g∧g≤255)∧∀ j v,(encU g)[j]? = some v→w.cell? (a.add (i*1+j))=some v) fun i hilt=>by
    obtain ⟨cs',hc,ht⟩:=hi i (by omega)
    obtain ⟨g,rfl,_,hwf⟩:=DataW.trod_int Tryz.underlying5 ht
    obtain ⟨_,_,hat⟩:=World.cells?_some hc
    refine ⟨g,Xgy hwf,fun j v hj=>?_⟩
    have hj3:j<1:=by have:=(List.getElem?_eq_some_iff.1 hj).1;simpa [encU] using this
    rw [← X5w,hat j hj3]
    exact hj
   obtain ⟨E,hr⟩:=Xar Xb4 (by decide) fun i g hig=>(h2 i g hig).2
   refine ⟨some a,l,cap,E,by rw [hcs,h1],hr,fun x hx=>?_⟩
   obtain ⟨i,hi9,e⟩:=List.getElem_of_mem hx
   exact (h2 i x (by rw [List.getElem?_eq_getElem hi9,e])).1
 obtain ⟨A,l,c,E,e0,hr,hb⟩:=key
 simp [Value.cells] at e0
 obtain ⟨rfl,rfl,rfl⟩:=e0
 exact ⟨_,l,_,E,rfl,hr,hb⟩
end Go.Proofs.YtlfjcmldfbfdbaaGreat
namespace Go.Proofs.YtlfjcmldfbfdbaaGreat
open Go.ChangeShapes Go.WideShapes Go.ChangeAt Go.RowKit Go.Deep Go.Joins
set_option linter.unusedVariables false
set_option maxRecDepth 100000 in
theorem Xbw(os:Os)(started:os.Started)(H:Type)(enc:TypeId×Value→H) :
  ReturnsInHanded {} Tryz.checked os 4 .any (Rows.fnAcceptedSpec.pre6 enc Tryz.prog Tryz.f4 Rows.fnAcceptedRow.domain false) (Rows.fnAcceptedSpec.post enc Tryz.prog Tryz.f4 false true false false):=by
 refine returnsInHanded_of_change (C:=Tryz.checked) own started (by kernel_rfl) Tryz.func4
  (ChangeSpec.witness6 (enc:=enc) (C:=Tryz.checked) false ⟨#[],#[.slice none 0 0,.slice none 0 0],[]⟩ 8 (by kernel_rfl) (by kernel_rfl) (by kernel_rfl) (by kernel_rfl)) ?_
 intro W base args ds gs before hval0 hW hcnd _
 have hval:∀ (j:Nat) t v,Tryz.f4.params[j]? = some t→args[j]? = some v→Value.okWide Tryz.prog W .any base t v:=hval0
 have hW':=hW
 obtain ⟨p,q,hA0,hV,rfl,hfz,hnd⟩:=hW
 have hA:DataW.TrodAll enc Tryz.prog W 0 (fun _=>true) true Tryz.f4.params.toList args.toList ds p:=hA0
 rw [Tryz.params4] at hA hval
 obtain ⟨v0,v1,d0,d1,p0,p1,rfl,rfl,rfl,h0,h1⟩:=trodAll_two hA
 obtain ⟨rfl,rfl⟩:=trodVars_none hV
 have h0k:=h0
 have h1k:=h1
 obtain ⟨A,c,i,E,rfl,hr0,hc0⟩:=X7w (hval 0 22 v0 rfl rfl) h0 (fun _=>rfl)
 obtain ⟨B,l,k,F,rfl,hr1,hc1⟩:=X7w (hval 1 22 v1 rfl rfl) h1 (fun _=>rfl)
 clear hA0 hval0
 simp only [List.append_nil] at hW'
 have hlt:∀ x ∈ p0++p1,x.block<W.heap.size:=fun x hx=>hW'.lt x (by simpa using hx)
 refine Calls.mono (Xnr W A i c hr0 hc0 B k l hr1 hc1) fun r W' ⟨v,he,hv,hb⟩=>?_
 subst hv
 refine ⟨_,he,Xc7 (pa:=p0++p1) (pv:=[]) hW' (fun _ _ _=>trodAll_mk1 (shut_bool Tryz.underlying4 true)) (fun sp hsp=>?_) (fun _ _=>rfl) (by simp) hb⟩
 exact trodAll_mk2 (WideElems.Trod_stays Xcs (by kernel_rfl) (of_decide_eq_true (by kernel_rfl)) h0k (fun x hx=>hb.same (hlt x (List.mem_append_left _ hx))) (fun x hx=>hsp x (by simp [hx])))
  (WideElems.Trod_stays Xcs (by kernel_rfl) (of_decide_eq_true (by kernel_rfl)) h1k (fun x hx=>hb.same (hlt x (List.mem_append_right _ hx))) (fun x hx=>hsp x (by simp [hx])))
theorem acc_holds:Rows.FnAcceptedSaid:=
 OpenClaim.holds_of_wide 4 Tryz.f4 rfl rfl rfl rfl rfl rfl rfl ⟨rfl,rfl,rfl,rfl,rfl⟩ rfl rfl rfl rfl rfl (by kernel_rfl) Tryz.func4 (by kernel_rfl)
  (of_decide_eq_true (by kernel_rfl)) (by unfold Func.isWrapper;first|(rw [if_pos (by decide +kernel)];kernel_rfl)|(rw [if_neg (by decide +kernel)];exact ⟨rfl,rfl⟩))
  (fun os started H enc _=>Xbw os started H enc)
end Go.Proofs.YtlfjcmldfbfdbaaGreat
