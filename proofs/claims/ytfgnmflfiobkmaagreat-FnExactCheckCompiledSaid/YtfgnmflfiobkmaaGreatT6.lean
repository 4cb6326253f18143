/-
  The walks and laws of CheckCompiled, in short rules said of every frame.
-/
import Derived.Test.YtfgnmflfiobkmaaGreatT5
import Derived.Test.YtfgnmflfiobkmaaGreatT4
import Derived.Test.YtfgnmflfiobkmaaGreatT3
import Derived.Deep.Strs
import Derived.WalkKit
import Derived.ProofKit
import Derived.OpenShut
import Derived.Deep.Slices
import Derived.Deep.Fields
import Derived.ChangeSame
import Derived.Lib.SmallJoins
import Derived.Test.YtfgnmflfiobkmaaGreatRows
set_option linter.unusedVariables false
set_option linter.unusedSimpArgs false
set_option maxHeartbeats 1000000
set_option maxRecDepth 4000
namespace Go.Proofs.YtfgnmflfiobkmaaGreat
open Go.RowKit
theorem F82(w0:World)(g:Gp)(Ag:Option Addr)(cg:Nat)(hr_g:Rd w0 w0.heap.size 164 encE Ag g.es)(c:Cx)(Ac:Option Addr)(cc:Nat)(hr_c:Rd w0 w0.heap.size 107 encG Ac c.gs)(hp_c:c.gs.length≤cc)(r:Ro)(Ar:Option Addr)(cr:Nat)(hr_r:Rd w0 w0.heap.size 3 encI Ar r.st)(hp_r:r.st.length≤cr)(Br:Option Addr)(dr:Nat)(hs_r:Rd w0 w0.heap.size 161 encG Br r.steps)(hle:g.es.length≤1048576)(hlc:c.gs.length≤1048576)(hla:r.st.length≤1048576)(hlb:r.steps.length≤1048576) : Ret Tryz.prog 82 [.agg #[vi g.n,.slice Ag g.es.length cg],.agg #[vi c.n,.slice Ac c.gs.length cc],.agg #[.slice Ar r.st.length cr,.slice Br r.steps.length dr]] w0 (fun v w=>∃ A c1,v=.tuple #[.agg #[vi ((rcI g c r).getD cZ).n,.slice A ((rcI g c r).getD cZ).gs.length c1],.bool (rcI g c r).isSome]∧Own w w0.heap.size 107 3 encG A c1 ((rcI g c r).getD cZ).gs∧Below w0.heap.size w0 w):=by
 refine enter Tryz.func82 rfl 82 rfl rfl ?_
 intro a hf
 have hW:Below w0.heap.size w0 w0:=Below.refl _ _
 refine Zs hf fun _ hK5=>?_
 refine Zf (Xu (zs:=[vi g.n,.slice Ag g.es.length cg]) rfl rfl) ?_;rintro _ w1 ⟨b6,rfl,hl6,hE,hB6⟩
 have hlo6:=Nat.le_trans hW.size hl6
 replace hW:=btr hW hE
 refine Zf (Xu (zs:=[vi c.n,.slice Ac c.gs.length cc]) rfl rfl) ?_;rintro _ w2 ⟨b7,rfl,hl7,hE,hB7⟩
 have hlo7:=Nat.le_trans hW.size hl7
 replace hB6:=hB6.below hE
 replace hW:=btr hW hE
 refine Zf (Xu (zs:=[.slice Ar r.st.length cr,.slice Br r.steps.length dr]) rfl rfl) ?_;rintro _ w3 ⟨b8,rfl,hl8,hE,hB8⟩
 have hlo8:=Nat.le_trans hW.size hl8
 replace hB6:=hB6.below hE
 replace hB7:=hB7.below hE
 replace hW:=btr hW hE
 refine Zf (Xa (zs:=[vi 0,.slice none 0 0]) X3n rfl) ?_;rintro _ w4 ⟨b10,rfl,hl10,hE,hB10⟩
 have hne7_10:b7≠b10:=by have:=hB7.lt;omega
 have hlo10:=Nat.le_trans hW.size hl10
 replace hB6:=hB6.below hE
 replace hB7:=hB7.below hE
 replace hB8:=hB8.below hE
 replace hW:=btr hW hE
 refine Za rfl ?_
 refine Zt hK5 fun a hf=>?_
 refine wp_seq_k fun _ hK11=>?_
 refine Zs hf fun _ hK12=>?_
 refine Ze (Vn X1k hB6)<|Ze (Vn X0c hB7)<|Ze (Vn X47 hB8) ?_
 refine Zf (Vc (F81 _ g Ag cg (hr_g.below' hW).top c Ac cc (hr_c.below' hW).top hp_c r Ar cr (hr_r.below' hW).top hp_r Br dr (hs_r.below' hW).top hle hlc hla hlb) Xjq) ?_;rintro _ w5 ⟨rfl,hE⟩
 replace hB6:=hB6.below hE
 replace hB7:=hB7.below hE
 replace hB8:=hB8.below hE
 replace hB10:=hB10.below hE
 replace hW:=btr hW hE
 refine Zm rfl<|Ze (X6 (vs:=[vi ((chkRI g c r).1),vi ((chkRI g c r).2.1),.bool ((chkRI g c r).2.2)]) rfl rfl)<|Ze (X6 (vs:=[vi ((chkRI g c r).1),vi ((chkRI g c r).2.1),.bool ((chkRI g c r).2.2)]) rfl rfl)<|Ze (X6 (vs:=[vi ((chkRI g c r).1),vi ((chkRI g c r).2.1),.bool ((chkRI g c r).2.2)]) rfl rfl)<|Za rfl ?_
 refine Za rfl<|Za rfl ?_
 refine Zt hK12 fun a hf=>?_
 refine wp_seq_k fun _ hK13=>?_
 refine X06 (fun a w=>Fr a 82 [(3,.pointer (some ⟨b6,0,none⟩)),(4,.pointer (some ⟨b7,0,none⟩)),(5,.pointer (some ⟨b8,0,none⟩)),(6,.pointer (some ⟨b10,0,none⟩)),(33,.bool (((!((chkRI g c r).2.2))||(((chkRI g c r).1) != 0))||(decide (5<g.n))))]∧w5=w) ?_ ?_
 ·refine Zr hf ?_
  refine Zm rfl<|Ze (X09 rfl)<|Zm rfl ?_
  refine Zg 25 rfl (fun hg14=>?_) (fun hg14=>?_)
  ·refine Zp ⟨_,_,rfl,rfl,hg14⟩ ?_
   refine Zp ⟨_,_,rfl,rfl,hg14⟩ ?_
   refine Ze (X9 rfl hg14 rfl)<|Zm rfl<|Zp ⟨_,_,rfl,rfl,rfl⟩ ?_
   refine Zp ⟨_,_,rfl,rfl,rfl⟩ ?_
   refine Zp ⟨_,_,rfl,rfl,rfl⟩ ?_
   refine Ze (X9 rfl rfl rfl) ?_
   refine Zn fun a hf=>?_
   exact ⟨hf.sub ⟨rfl,rfl,rfl,rfl,X1 rfl (by first|rfl|(simp only [hg14,bs];done)|simp [hg14]),trivial⟩,rfl⟩
  refine Zv ⟨_,_,rfl,rfl,hg14⟩ (X8 rfl) ?_
  refine Zv ⟨_,_,rfl,rfl,hg14⟩ (X1g rfl rfl) ?_
  refine Ze (X7 rfl hg14 rfl)<|Zm rfl ?_
  refine Zg 29 rfl (fun hg15=>?_) (fun hg15=>?_)
  ·refine Zp ⟨_,_,rfl,rfl,hg15⟩ ?_
   refine Zp ⟨_,_,rfl,rfl,hg15⟩ ?_
   refine Zp ⟨_,_,rfl,rfl,hg15⟩ ?_
   refine Ze (X9 rfl hg15 rfl) ?_
   refine Zn fun a hf=>?_
   exact ⟨hf.sub ⟨rfl,rfl,rfl,rfl,X1 rfl (by first|rfl|(simp only [hg14,hg15,bs];done)|simp [hg14,hg15]),trivial⟩,rfl⟩
  refine Zv ⟨_,_,rfl,rfl,hg15⟩ (Vd rfl X1t 0) ?_
  refine Zv ⟨_,_,rfl,rfl,hg15⟩ (X0 rfl X5 (hB6.at 0)) ?_
  refine Zv ⟨_,_,rfl,rfl,hg15⟩ (X42 rfl rfl) ?_
  refine Ze (X7 rfl hg15 rfl) ?_
  refine Zn fun a hf=>?_
  exact ⟨hf.sub ⟨rfl,rfl,rfl,rfl,X1 rfl (by first|rfl|(simp only [hg14,hg15,bs];done)|simp [hg14,hg15]),trivial⟩,rfl⟩
 rintro a _ ⟨hf,rfl⟩
 refine hK13 _ _ ?_
 refine Xb hf rfl (fun hc16=>?_) (fun hc16=>?_)
 ·have hc16b:=hc16
  have hfin:rcI g c r=none:=by rw [rcI,if_neg];intro h9;revert hc16;rw [h9.1,h9.2.1];simp;omega
  refine Zs hf fun _ hK17=>?_
  refine Ze (X01 (ps:=[]) (cs:=[vi 0,.slice none 0 0]) rfl (fun _=>by first|rfl|kernel_rfl)) ?_
  refine Zo (Vw [vi 0,.slice none 0 0] X1j hB10) ?_;rintro _ w6 ⟨ho,hb⟩
  have hold:=hB10
  replace hB6:=hB6.only ho (Blk.ne hB6 hold rfl)
  replace hB7:=hB7.only ho (by omega)
  replace hB8:=hB8.only ho (Blk.ne hB8 hold rfl)
  replace hW:=Below.only hW ho hlo10
  clear hold
  have hB10:=hb
  clear hb ho
  refine Za rfl ?_
  refine Zt hK17 fun a hf=>?_
  refine wp_ret ?_
  refine X3 ?_
  refine X2 hf (X0q hf rfl (ResV.cellN (l:=[vi 0,.slice none 0 0]) rfl X0c (hB10.at 0) rfl) rfl) ?_
  rw [hfin]
  exact ⟨none,0,rfl,(Own.nil _ _ _ _ _),hW⟩
 have hc16b:=hc16
 obtain ⟨hk2,hk1,hn5⟩ : (chkRI g c r).2.2=true∧(chkRI g c r).1=0∧g.n≤5:=by revert hc16;cases (chkRI g c r).2.2<;>simp<;>omega
 have hfin:rcI g c r=cIf ⟨g.n,buildL c.gs r.steps r.st⟩:=by rw [rcI,if_pos ⟨hk2,hk1,hn5⟩]
 have hft:fitsR g c=true:=by cases h9:fitsR g c with|true=>rfl|false=>rw [chkRI,if_neg (by rw [h9];simp)] at hk2;simp at hk2
 obtain ⟨hg,hc,hcn9⟩:=Xb1 hft
 obtain ⟨hcn,hcl,hcg⟩:=X1r hc
 rw [chkRI,if_pos hft] at hk1
 have hpt:plI g.n c.n r.st=true:=by cases h9:plI g.n c.n r.st with|true=>rfl|false=>rw [Xdt h9] at hk1;simp at hk1
 rw [Xdw hpt rfl] at hk1
 have hpn0:=Xcw hpt
 refine wp_skip ?_
 refine hK11 _ _ ?_
 refine Zs hf fun _ hK19=>?_
 refine Ze (Vn X1k hB6)<|Ze (Vn X0c hB7)<|Ze (Vd rfl X2w 0)<|Ze (X0 rfl X2e (hB8.at 0)) ?_
 refine Zf (Vc (Xoj _ g Ag cg (hr_g.below' hW).top c Ac cc (hr_c.below' hW).top Ar cr r.st (hr_r.below' hW).top (by omega) (by omega)) Xfu) ?_;rintro _ w7 ⟨A20,c20,A21,c21,rfl,ho20,ho21,hE⟩
 replace ho20:=ho20.lower hW.size
 replace ho21:=ho21.lower hW.size
 replace hB6:=hB6.below hE
 replace hB7:=hB7.below hE
 replace hB8:=hB8.below hE
 replace hB10:=hB10.below hE
 replace hW:=btr hW hE
 refine Zf (Xv (k:=0) (vs:=[]) (zs:=[]) rfl X02 X0r rfl rfl) ?_;rintro _ w8 ⟨b22,rfl,hl22,hE,hB22⟩
 have hlo22:=Nat.le_trans hW.size hl22
 have haw2_22:=(hr_c.below' hW).away hl22
 replace hB6:=hB6.below hE
 replace hB7:=hB7.below hE
 replace hB8:=hB8.below hE
 replace hB10:=hB10.below hE
 replace ho20:=ho20.below hE
 replace ho21:=ho21.below hE
 replace hW:=btr hW hE
 refine Zf (Xa (zs:=[vi 0,.slice none 0 0,vi 0,.slice none 0 0,.slice none 0 0,.slice none 0 0]) Xag rfl) ?_;rintro _ w9 ⟨b28,rfl,hl28,hE,hB28⟩
 have hlo28:=Nat.le_trans hW.size hl28
 replace hB6:=hB6.below hE
 replace hB7:=hB7.below hE
 replace hB8:=hB8.below hE
 replace hB10:=hB10.below hE
 replace hB22:=hB22.below hE
 replace ho20:=ho20.below hE
 replace ho21:=ho21.below hE
 replace hW:=btr hW hE
 refine Zo (Vw [vi g.n,.slice Ag g.es.length cg,vi c.n,.slice Ac c.gs.length cc,.slice A20 r.st.length c20,.slice A21 c.gs.length c21] X44 hB28) ?_;rintro _ w10 ⟨ho,hb⟩
 have hold:=hB28
 replace hB6:=hB6.only ho (Blk.ne hB6 hold rfl)
 replace hB7:=hB7.only ho (Blk.ne hB7 hold rfl)
 replace hB8:=hB8.only ho (Blk.ne hB8 hold rfl)
 replace hB10:=hB10.only ho (Blk.ne hB10 hold rfl)
 replace hB22:=hB22.only ho (Blk.ne hB22 hold rfl)
 replace ho20:=ho20.onlyT ho hold rfl
 replace ho21:=ho21.onlyT ho hold rfl
 replace hW:=Below.only hW ho hlo28
 clear hold
 have hB28:=hb
 clear hb ho
 refine Za rfl ?_
 refine Zt hK19 fun a hf=>?_
 refine wp_seq_k fun _ hK29=>?_
 refine Zs hf fun _ hK30=>?_
 refine Ze (Vd rfl X2o 1)<|Ze (X0 rfl X64 (hB8.at 1))<|Ze (X0d rfl X2d)<|Zm rfl ?_
 refine Zt hK30 fun a hf=>?_
 refine wp_block ?_
 refine X04 (σ:=Nat×(List Int)×(List Bool)×(List Gt)) (fun (s:Nat×(List Int)×(List Bool)×(List Gt)) (a:Act) (w:World)=>match s with|(k,p,d,m)=>∃ A31 c31,Fr a 82 [(3,.pointer (some ⟨b6,0,none⟩)),(4,.pointer (some ⟨b7,0,none⟩)),(6,.pointer (some ⟨b10,0,none⟩)),(11,.pointer (some ⟨b28,0,none⟩)),(12,.slice A31 m.length c31),(42,.slice Br r.steps.length dr),(43,vi (r.steps.length:Int)),(44,vi (k:Int))]∧(k≤r.steps.length)∧(p.length=r.st.length)∧(d.length=c.gs.length)∧(m.length=k)∧((playI g c.gs k (r.steps.drop k) p d).1=0)∧(m++buildL c.gs (r.steps.drop k) p=buildL c.gs r.steps r.st)∧Blk w b6 79 [vi g.n,.slice Ag g.es.length cg]∧Blk w b7 41 [vi c.n,.slice Ac c.gs.length cc]∧Blk w b10 41 [vi 0,.slice none 0 0]∧Blk w b28 170 [vi g.n,.slice Ag g.es.length cg,vi c.n,.slice Ac c.gs.length cc,.slice A20 r.st.length c20,.slice A21 c.gs.length c21]∧Own w w0.heap.size 107 3 encG A31 c31 m∧Own w w0.heap.size 3 1 encI A20 c20 p∧Own w w0.heap.size 4 1 encB A21 c21 d∧c.gs.length≤cc∧r.st.length≤cr∧Below w0.heap.size w0 w) (fun (s:Nat×(List Int)×(List Bool)×(List Gt))=>match s with|(k,p,d,m)=>r.steps.length-k) (0,r.st,(List.replicate c.gs.length false),[]) ?_ ?_
 · exact ⟨some ⟨b22,0,none⟩,0,hf.sub ⟨rfl,rfl,rfl,rfl,rfl,rfl,rfl,rfl,trivial⟩,(Nat.zero_le _),rfl,(by simp),rfl,hk1,rfl,hB6,hB7,hB10,hB28,(Own.empty hB22 hlo22),ho20,ho21,hp_c,hp_r,hW⟩
 rintro ⟨k,p,d,m⟩ a w11 ⟨A31,c31,hf,hk,hpl,hdl,hml,hinv,hbd,hB6,hB7,hB10,hB28,ho31,ho20,ho21,hp_c,hp_r,hW⟩
 refine Zs hf fun _ hK32=>?_
 refine Ze (X0m rfl rfl) ?_
 refine Zt hK32 fun a hf=>?_
 refine wp_seq_k fun _ hK33=>?_
 refine Xb hf rfl (fun hc34=>?_) (fun hc34=>?_)
 ·have hc34b:=hc34
  have hc34:=of_decide_eq_true hc34
  obtain ⟨u35,hu35⟩:=Xf (l:=r.steps) (k:=k) (by omega)
  have hdr:=X74 hu35
  rw [hdr] at hinv hbd
  obtain ⟨ho1,ho2⟩:=Xdg hinv
  have hpn:(p.length:Int)=c.n:=by rw [hpl];exact hpn0
  refine wp_skip ?_
  refine hK33 _ _ ?_
  refine wp_seq_k fun _ hK36=>?_
  refine wp_block ?_
  refine Zs hf fun _ hK37=>?_
  refine Zi (k:=k) (u:=u35) (enc:=encG) (l:=r.steps) trivial rfl rfl X2d X2h Xq (hs_r.below' hW) hu35 rfl ?_;intro p39 hat38
  refine Ze (Xi (l:=[vi u35.k,vi u35.a,vi u35.b]) rfl X3b hat38 rfl) ?_
  refine Zf (Xa (zs:=[vi 0,vi 0,vi 0]) X79 rfl) ?_;rintro _ w12 ⟨b40,rfl,hl40,hE,hB40⟩
  have hlo40:=Nat.le_trans hW.size hl40
  have haw4_40:=(hs_r.below' hW).away hl40
  replace hB6:=hB6.below hE
  replace hB7:=hB7.below hE
  replace hB10:=hB10.below hE
  replace hB28:=hB28.below hE
  replace ho31:=ho31.below hE
  replace ho20:=ho20.below hE
  replace ho21:=ho21.below hE
  replace hW:=btr hW hE
  refine Zo (Vw [vi u35.k,vi u35.a,vi u35.b] X2h hB40) ?_;rintro _ w13 ⟨ho,hb⟩
  have hold:=hB40
  replace hB6:=hB6.only ho (Blk.ne hB6 hold rfl)
  replace hB7:=hB7.only ho (Blk.ne hB7 hold rfl)
  replace hB10:=hB10.only ho (Blk.ne hB10 hold rfl)
  replace hB28:=hB28.only ho (Blk.ne hB28 hold rfl)
  replace ho31:=ho31.onlyT ho hold rfl
  replace ho20:=ho20.onlyT ho hold rfl
  replace ho21:=ho21.onlyT ho hold rfl
  replace hW:=Below.only hW ho hlo40
  clear hold
  have hB40:=hb
  clear hb ho
  refine Zt hK37 fun a hf=>?_
  refine wp_seq_k fun _ hK41=>?_
  refine Zs hf fun _ hK42=>?_
  refine Ze (Vd rfl X1c 0)<|Ze (X0 rfl X5 (hB40.at 0))<|Ze (X0s rfl rfl) ?_
  refine Zt hK42 fun a hf=>?_
  refine Xb hf rfl (fun hc43=>?_) (fun hc43=>?_)
  ·have hc43b:=hc43
   obtain ⟨hs1,hs2,hs3⟩:=Xal hc43 ho1
   have hbd9:m++((⟨11,u35.a,u35.b⟩ : Gt)::buildL c.gs (r.steps.drop (k+1)) (stpI g c.gs u35 p d).2.1)=buildL c.gs r.steps r.st:=by rw [show (stpI g c.gs u35 p d).2.1=swapP p u35.a u35.b from hs2,← hbd,buildL,moved,nextP,if_pos (eq_of_beq hc43),if_pos (eq_of_beq hc43)]
   refine Zr hf ?_
   refine Zm rfl<|Ze (Vd rfl X1u 1)<|Ze (X0 rfl X5 (hB40.at 1))<|Ze (Vd rfl X1v 2)<|Ze (X0 rfl X5 (hB40.at 2)) ?_
   refine Ze (X01 (ps:=[(0,vi 11),(1,vi u35.a),(2,vi u35.b)]) (cs:=[vi 11,vi u35.a,vi u35.b]) rfl (fun _=>by first|rfl|kernel_rfl)) ?_
   refine Zf (Xv (k:=1) (vs:=[.agg #[vi 11,vi u35.a,vi u35.b]]) (zs:=[vi 11,vi u35.a,vi u35.b]) rfl X02 X0r rfl rfl) ?_;rintro _ w14 ⟨b44,rfl,hl44,hE,hB44⟩
   have hlo44:=Nat.le_trans hW.size hl44
   have haw31_44:=ho31.away hl44
   have haw2_44:=(hr_c.below' hW).away hl44
   replace hB6:=hB6.below hE
   replace hB7:=hB7.below hE
   replace hB10:=hB10.below hE
   replace hB28:=hB28.below hE
   replace hB40:=hB40.below hE
   replace ho31:=ho31.below hE
   replace ho20:=ho20.below hE
   replace ho21:=ho21.below hE
   replace hW:=btr hW hE
   refine Zf (X10 (enc:=encG) (l:=(m)) (l2:=([(⟨11,u35.a,u35.b⟩ : Gt)])) (B0:=w0.heap.size) rfl rfl X02 X0r Xq X0y ho31 (Rd.of_blk hB44 rfl _ hB44.lt) (by simp only [maxLen];simp;omega) (by simp;omega) hW.size) ?_;rintro _ w15 ⟨A46,c46,rfl,ho46,hg,hat⟩
   have hown:Own _ w0.heap.size 107 3 encG _ _ (m):=ho31
   have haw46_44:=hat _ hB44.lt haw31_44
   clear hat
   replace hB6:=hB6.appT hown hg rfl
   replace hB7:=hB7.appT hown hg rfl
   replace hB10:=hB10.appT hown hg rfl
   replace hB28:=hB28.appT hown hg rfl
   replace hB40:=hB40.appT hown hg rfl
   replace ho20:=ho20.appT hown hg rfl
   replace ho21:=ho21.appT hown hg rfl
   replace hW:=Below.app hW hown hg (Nat.le_refl _) hW.size
   clear hown hg
   refine Za rfl ?_
   refine Zt hK41 fun a hf=>?_
   refine Zr hf ?_
   refine Ze (Vn X29 hB28)<|Ze (Vn X3b hB40) ?_
   refine Zf (X7b (vs:=[.agg #[vi g.n,.slice Ag g.es.length cg,vi c.n,.slice Ac c.gs.length cc,.slice A20 r.st.length c20,.slice A21 c.gs.length c21],.agg #[vi u35.k,vi u35.a,vi u35.b]]) rfl Xc9 (by have hq:=Xl5 _ w0.heap.size A20 c20 p ho20 A21 c21 d ho21 g.n c.n Ag cg g.es (hr_g.below' hW).top Ac cc c.gs (hr_c.below' hW).top hp_c u35 hcg hpn hdl (by omega) (by omega) (by omega);rw [hpl,hdl] at hq;exact hq)) ?_;rintro _ w16 ⟨rfl,hnew1,hnew2,ht⟩
   have hown1:=ho20
   have hown2:=ho21
   replace hB6:=hB6.t2 hown1 hown2 ht rfl rfl
   replace hB7:=hB7.t2 hown1 hown2 ht rfl rfl
   replace hB10:=hB10.t2 hown1 hown2 ht rfl rfl
   replace hB28:=hB28.t2 hown1 hown2 ht rfl rfl
   replace hB40:=hB40.t2 hown1 hown2 ht rfl rfl
   replace ho46:=ho46.t2 hown1 hown2 ht rfl rfl
   replace hW:=Below.t2 hW hown1 hown2 ht (Nat.le_refl _) (Nat.le_refl _) hW.size
   clear hown1 hown2 ht ho20 ho21;have ho20:=hnew1;have ho21:=hnew2;clear hnew1 hnew2
   refine Zn fun a hf=>?_
   refine Xn ?_
   refine hK36 _ _ ?_
   refine Zr hf ?_
   refine Ze (Xy rfl rfl (by omega) (by omega))<|Zm rfl ?_
   refine Zn fun a hf=>?_
   refine Xk ?_
   exact ⟨(k+1,(stpI g c.gs u35 p d).2.1,(stpI g c.gs u35 p d).2.2,m++([(⟨11,u35.a,u35.b⟩ : Gt)])),⟨A46,c46,hf.sub ⟨rfl,rfl,rfl,rfl,rfl,rfl,rfl,rfl,trivial⟩,(by omega),(by rw [(X3t ..).1];exact hpl),(by rw [(X3t ..).2];exact hdl),(by simp [hml]),ho2,(by rw [← hbd9,List.append_assoc];rfl),hB6,hB7,hB10,hB28,ho46,ho20,ho21,hp_c,hp_r,hW⟩,(by first|omega|(dsimp only;omega))⟩
  have hc43b:=hc43
  obtain ⟨hs1,hs2,hs3,hs4⟩:=Xam hc43 ho1
  obtain ⟨hb0,hb1,hb2⟩:=Xbp (X9w hs1)
  obtain ⟨x9,hx9⟩:=Xf (l:=c.gs) (k:=u35.k.toNat) (by omega)
  have hxg:=hcg _ (List.mem_of_getElem? hx9)
  obtain ⟨hq1,hq2,hq3,hq4⟩:=X1e hxg
  have hcut:=Xj7 hx9
  have hbd9:m++(mapG p x9::buildL c.gs (r.steps.drop (k+1)) (stpI g c.gs u35 p d).2.1)=buildL c.gs r.steps r.st:=by rw [show (stpI g c.gs u35 p d).2.1=p from hs3,← hbd,buildL,moved,nextP,if_neg (by simpa using hc43),if_neg (by simpa using hc43),Xa9 hx9]
  refine X05 none (fun j=>[12].contains j) mixed ?_
  intro w17 hE
  replace hB6:=hB6.below hE
  replace hB7:=hB7.below hE
  replace hB10:=hB10.below hE
  replace hB28:=hB28.below hE
  replace hB40:=hB40.below hE
  replace ho31:=ho31.below hE
  replace ho20:=ho20.below hE
  replace ho21:=ho21.below hE
  replace hW:=btr hW hE
  refine Yb hf ?_
  refine Yo 0 rfl (fun _=>X8 rfl)<|Yo 1 rfl (fun _=>Vd rfl X07 1)<|Ye 2 rfl (X0 rfl X0e (hB7.at 1))<|Yo 3 rfl (fun _=>Vd rfl X1c 0)<|Ye 4 rfl (X0 rfl X5 (hB40.at 0)) ?_
  refine Yo 5 rfl (fun _=>Vd rfl X1c 0)<|Ye 6 rfl (X0 rfl X5 (hB40.at 0))<|Yo 7 rfl (fun _=>Xy rfl rfl (by omega) (by omega)) ?_
  have hr47:=(((hr_c.below' hW).top).takeK Xq (u35.k.toNat+1)).dropK Xq (c:=cc) (Xdu hp_c (u35.k.toNat+1)) u35.k.toNat
  refine Yo 8 rfl (fun _=>Xjp (l:=c.gs) (k:=u35.k.toNat) (m:=(u35.k.toNat+1)) rfl rfl rfl X02 X0o (by omega) (by omega) (by omega) (by omega) hp_c)<|Yo 9 rfl (fun _=>Vd rfl X3q 4)<|Ye 10 rfl (X0 rfl X2e (hB28.at 4)) ?_
  refine Y1 11 ?_
  refine Yf rfl trivial (EfW.mono (X7b (vs:=[.slice (if cc=u35.k.toNat then Ac else Ac.map (·.add (u35.k.toNat*3))) ((c.gs.take (u35.k.toNat+1)).drop u35.k.toNat).length (cc-u35.k.toNat),.slice A20 r.st.length c20]) rfl Xh0 (by have hq:=F51 _ (if cc=u35.k.toNat then Ac else Ac.map (·.add (u35.k.toNat*3))) (cc-u35.k.toNat) ((c.gs.take (u35.k.toNat+1)).drop u35.k.toNat) hr47.top A20 c20 p ho20.rd.top p.length (by rw [hcut];intro y hy;rw [List.mem_singleton] at hy;subst hy;exact ⟨fun h9=>by have:=hq3 h9;omega,fun h9=>by have:=hq4 (Xs.1 h9);omega⟩) rfl (by rw [hcut];simp);rw [hpl] at hq;exact hq)) (fun _ _ h=>⟨fun _=>by obtain ⟨A48,c48,rfl,ho48,hE⟩:=h;exact hE,h⟩)) ?_;rintro _ w18 ⟨A48,c48,rfl,ho48,hE⟩
  replace ho48:=ho48.lower hW.size
  replace hB6:=hB6.below hE
  replace hB7:=hB7.below hE
  replace hB10:=hB10.below hE
  replace hB28:=hB28.below hE
  replace hB40:=hB40.below hE
  replace ho31:=ho31.below hE
  replace ho20:=ho20.below hE
  replace ho21:=ho21.below hE
  replace hr47:=hr47.below hE
  replace hW:=btr hW hE
  refine Y1 12 ?_
  refine Yt rfl trivial rfl (X10 (enc:=encG) (l:=(m)) (l2:=((mapI ((c.gs.take (u35.k.toNat+1)).drop u35.k.toNat) p))) (B0:=w0.heap.size) rfl rfl X02 X0r Xq X0y ho31 ho48.rd (by simp only [maxLen];simp [mapI,hcut];omega) (by simp [mapI,hcut];omega) hW.size) ?_;rintro _ w19 ⟨A49,c49,rfl,ho49,hg,hat⟩
  have hown:Own _ w0.heap.size 107 3 encG _ _ (m):=ho31
  clear hat
  replace hB6:=hB6.appT hown hg rfl
  replace hB7:=hB7.appT hown hg rfl
  replace hB10:=hB10.appT hown hg rfl
  replace hB28:=hB28.appT hown hg rfl
  replace hB40:=hB40.appT hown hg rfl
  replace ho20:=ho20.appT hown hg rfl
  replace ho21:=ho21.appT hown hg rfl
  replace hW:=Below.app hW hown hg (Nat.le_refl _) hW.size
  clear hown hg
  refine Yo 13 rfl (fun _=>X0p rfl) ?_
  refine Yd fun a hf=>?_
  refine hK41 _ _ ?_
  refine Zr hf ?_
  refine Ze (Vn X29 hB28)<|Ze (Vn X3b hB40) ?_
  refine Zf (X7b (vs:=[.agg #[vi g.n,.slice Ag g.es.length cg,vi c.n,.slice Ac c.gs.length cc,.slice A20 r.st.length c20,.slice A21 c.gs.length c21],.agg #[vi u35.k,vi u35.a,vi u35.b]]) rfl Xc9 (by have hq:=Xl5 _ w0.heap.size A20 c20 p ho20 A21 c21 d ho21 g.n c.n Ag cg g.es (hr_g.below' hW).top Ac cc c.gs (hr_c.below' hW).top hp_c u35 hcg hpn hdl (by omega) (by omega) (by omega);rw [hpl,hdl] at hq;exact hq)) ?_;rintro _ w20 ⟨rfl,hnew1,hnew2,ht⟩
  have hown1:=ho20
  have hown2:=ho21
  replace hB6:=hB6.t2 hown1 hown2 ht rfl rfl
  replace hB7:=hB7.t2 hown1 hown2 ht rfl rfl
  replace hB10:=hB10.t2 hown1 hown2 ht rfl rfl
  replace hB28:=hB28.t2 hown1 hown2 ht rfl rfl
  replace hB40:=hB40.t2 hown1 hown2 ht rfl rfl
  replace ho49:=ho49.t2 hown1 hown2 ht rfl rfl
  replace hW:=Below.t2 hW hown1 hown2 ht (Nat.le_refl _) (Nat.le_refl _) hW.size
  clear hown1 hown2 ht ho20 ho21;have ho20:=hnew1;have ho21:=hnew2;clear hnew1 hnew2
  refine Zn fun a hf=>?_
  refine Xn ?_
  refine hK36 _ _ ?_
  refine Zr hf ?_
  refine Ze (Xy rfl rfl (by omega) (by omega))<|Zm rfl ?_
  refine Zn fun a hf=>?_
  refine Xk ?_
  exact ⟨(k+1,(stpI g c.gs u35 p d).2.1,(stpI g c.gs u35 p d).2.2,m++(mapI ((c.gs.take (u35.k.toNat+1)).drop u35.k.toNat) p)),⟨A49,c49,hf.sub ⟨rfl,rfl,rfl,rfl,rfl,rfl,rfl,rfl,trivial⟩,(by omega),(by rw [(X3t ..).1];exact hpl),(by rw [(X3t ..).2];exact hdl),(by simp [hml,mapI,hcut]),ho2,(by rw [← hbd9,List.append_assoc,hcut];rfl),hB6,hB7,hB10,hB28,ho49,ho20,ho21,hp_c,hp_r,hW⟩,(by first|omega|(dsimp only;omega))⟩
 have hc34b:=hc34
 have hc34:=of_decide_eq_false hc34
 have hdr:r.steps.drop k=[]:=List.drop_of_length_le (by omega)
 rw [hdr] at hbd
 refine wp_exit ?_
 refine Xm ?_
 refine Xm ?_
 refine X03 ?_
 refine hK29 _ _ ?_
 refine Zs hf fun _ hK50=>?_
 refine Ze (Vd rfl X1t 0)<|Ze (X0 rfl X5 (hB6.at 0))<|Zm rfl ?_
 refine Zf (Vc (Xpx _ g.n A31 c31 m ho31.rd.top (by omega)) Xg3) ?_;rintro _ w21 ⟨A51,c51,rfl,ho51,hE⟩
 replace ho51:=ho51.lower hW.size
 replace hB6:=hB6.below hE
 replace hB7:=hB7.below hE
 replace hB10:=hB10.below hE
 replace hB28:=hB28.below hE
 replace ho31:=ho31.below hE
 replace ho20:=ho20.below hE
 replace ho21:=ho21.below hE
 replace hW:=btr hW hE
 refine Ze (X6 (vs:=[.agg #[vi (((cIf ⟨g.n,m⟩).getD cZ).n),.slice A51 (((cIf ⟨g.n,m⟩).getD cZ).gs).length c51],.bool ((cIf ⟨g.n,m⟩).isSome)]) rfl rfl)<|Ze (X6 (vs:=[.agg #[vi (((cIf ⟨g.n,m⟩).getD cZ).n),.slice A51 (((cIf ⟨g.n,m⟩).getD cZ).gs).length c51],.bool ((cIf ⟨g.n,m⟩).isSome)]) rfl rfl) ?_
 refine Zo (Vw [vi (((cIf ⟨g.n,m⟩).getD cZ).n),.slice A51 (((cIf ⟨g.n,m⟩).getD cZ).gs).length c51] X1j hB10) ?_;rintro _ w22 ⟨ho,hb⟩
 have hold:=hB10
 replace hB6:=hB6.only ho (Blk.ne hB6 hold rfl)
 replace hB7:=hB7.only ho (by omega)
 replace hB28:=hB28.only ho (Blk.ne hB28 hold rfl)
 replace ho31:=ho31.onlyT ho hold rfl
 replace ho20:=ho20.onlyT ho hold rfl
 replace ho21:=ho21.onlyT ho hold rfl
 replace ho51:=ho51.onlyT ho hold rfl
 replace hW:=Below.only hW ho hlo10
 clear hold
 have hB10:=hb
 clear hb ho
 refine Za rfl ?_
 refine Zt hK50 fun a hf=>?_
 refine wp_ret (X2 hf (X0q hf rfl (ResV.cellN (l:=[vi (((cIf ⟨g.n,m⟩).getD cZ).n),.slice A51 (((cIf ⟨g.n,m⟩).getD cZ).gs).length c51]) rfl X0c (hB10.at 0) rfl) rfl) ?_)
 have hbe:buildL c.gs r.steps r.st=m:=by rw [← hbd];exact (List.append_nil m)
 rw [hfin,hbe]
 exact ⟨A51,c51,rfl,ho51,hW⟩
end Go.Proofs.YtfgnmflfiobkmaaGreat
set_option maxRecDepth 4000
namespace Go.Proofs.YtfgnmflfiobkmaaGreat
open Go.RowKit
theorem F36(w0:World)(g:Gp)(Ag:Option Addr)(cg:Nat)(hr_g:Rd w0 w0.heap.size 164 encE Ag g.es)(e:Cx)(Ae:Option Addr)(ce:Nat)(hr_e:Rd w0 w0.heap.size 107 encG Ae e.gs)(c:Cx)(Ac:Option Addr)(cc:Nat)(hr_c:Rd w0 w0.heap.size 107 encG Ac c.gs)(hp_c:c.gs.length≤cc)(Al:Option Addr)(cl:Nat)(l:List Sr)(hr_l:Rd w0 w0.heap.size 30 encSr Al l)(hd_l:DeepR w0 w0.heap.size 107 l)(d:Cx)(Ad:Option Addr)(cd:Nat)(hr_d:Rd w0 w0.heap.size 107 encG Ad d.gs)(hp_d:d.gs.length≤cd)(r:Ro)(Ar:Option Addr)(cr:Nat)(hr_r:Rd w0 w0.heap.size 3 encI Ar r.st)(hp_r:r.st.length≤cr)(Br:Option Addr)(dr:Nat)(hs_r:Rd w0 w0.heap.size 161 encG Br r.steps)(o:Cx)(Ao:Option Addr)(co:Nat)(hr_o:Rd w0 w0.heap.size 107 encG Ao o.gs)(hle:g.es.length≤1048576)(hle2:e.gs.length≤1048576)(hlc:c.gs.length≤1048576)(hls:l.length≤1048576)(hll:∀ s ∈ l,s.old.length≤1048576∧s.new.length≤1048576)(hld:d.gs.length≤1048576)(hla:r.st.length≤1048576)(hlb:r.steps.length≤1048576)(hlo:o.gs.length≤1048576) : Ret Tryz.prog 36 [.agg #[vi g.n,.slice Ag g.es.length cg],.agg #[vi e.n,.slice Ae e.gs.length ce],.agg #[vi c.n,.slice Ac c.gs.length cc,.slice Al l.length cl,vi d.n,.slice Ad d.gs.length cd,.slice Ar r.st.length cr,.slice Br r.steps.length dr,vi o.n,.slice Ao o.gs.length co]] w0 (fun v w=>v=.tuple #[vi ((ccS g e c (l.map Sr.rp) d r o).1),.bool ((ccS g e c (l.map Sr.rp) d r o).2)]∧Below w0.heap.size w0 w):=by
 refine enter Tryz.func36 rfl 73 rfl rfl ?_
 intro a hf
 have hW:Below w0.heap.size w0 w0:=Below.refl _ _
 refine Zs hf fun _ hK9=>?_
 refine Zf (Xu (zs:=[vi g.n,.slice Ag g.es.length cg]) rfl rfl) ?_;rintro _ w1 ⟨b10,rfl,hl10,hE,hB10⟩
 have hlo10:=Nat.le_trans hW.size hl10
 replace hd_l:=hd_l.below hE
 replace hW:=btr hW hE
 refine Zf (Xu (zs:=[vi e.n,.slice Ae e.gs.length ce]) rfl rfl) ?_;rintro _ w2 ⟨b11,rfl,hl11,hE,hB11⟩
 have hlo11:=Nat.le_trans hW.size hl11
 replace hB10:=hB10.below hE
 replace hd_l:=hd_l.below hE
 replace hW:=btr hW hE
 refine Zf (Xu (zs:=[vi c.n,.slice Ac c.gs.length cc,.slice Al l.length cl,vi d.n,.slice Ad d.gs.length cd,.slice Ar r.st.length cr,.slice Br r.steps.length dr,vi o.n,.slice Ao o.gs.length co]) rfl rfl) ?_;rintro _ w3 ⟨b12,rfl,hl12,hE,hB12⟩
 have hlo12:=Nat.le_trans hW.size hl12
 replace hB10:=hB10.below hE
 replace hB11:=hB11.below hE
 replace hd_l:=hd_l.below hE
 replace hW:=btr hW hE
 refine Za rfl<|Za rfl ?_
 refine Zt hK9 fun a hf=>?_
 refine wp_seq_k fun _ hK13=>?_
 refine Zs hf fun _ hK14=>?_
 refine Ze (Vn X1k hB10)<|Ze (Vn X0c hB11) ?_
 refine Zf (Vc (F75 _ g Ag cg (hr_g.below' hW).top e Ae ce (hr_e.below' hW).top (by omega) (by omega)) Xfr) ?_;rintro _ w4 ⟨rfl,hE⟩
 replace hB10:=hB10.below hE
 replace hB11:=hB11.below hE
 replace hB12:=hB12.below hE
 replace hd_l:=hd_l.below hE
 replace hW:=btr hW hE
 refine Ze (X09 rfl) ?_
 refine Zt hK14 fun a hf=>?_
 refine Xb hf rfl (fun hc15=>?_) (fun hc15=>?_)
 ·have hc15b:=hc15
  have h1:fitsS g e=false:=by revert hc15;cases fitsS g e<;>simp
  have hfin:ccS g e c (l.map Sr.rp) d r o=(0,false):=by rw [ccS,h1];rfl
  refine Zs hf fun _ hK16=>?_
  refine Za rfl<|Za rfl ?_
  refine Zt hK16 fun a hf=>?_
  refine wp_ret ?_
  refine X3 ?_
  refine X2 hf (X0q hf rfl rfl rfl) ?_
  exact ⟨by rw [hfin],hW⟩
 have hc15b:=hc15
 have h1:fitsS g e=true:=by revert hc15;cases fitsS g e<;>simp
 refine wp_skip ?_
 refine hK13 _ _ ?_
 refine wp_seq_k fun _ hK17=>?_
 refine Zs hf fun _ hK18=>?_
 refine Ze (Vd rfl X2c 0)<|Ze (Vd rfl X2x 0)<|Ze (Xi (l:=[vi c.n,.slice Ac c.gs.length cc]) rfl X0c ((hB12.at 0).take 2) rfl)<|Ze (Vn X0c hB11) ?_
 refine Zf (Vc (F64 _ c Ac cc (hr_c.below' hW).top e Ae ce (hr_e.below' hW).top (by omega)) Xgq) ?_;rintro _ w5 ⟨rfl,hE⟩
 replace hB10:=hB10.below hE
 replace hB11:=hB11.below hE
 replace hB12:=hB12.below hE
 replace hd_l:=hd_l.below hE
 replace hW:=btr hW hE
 refine Ze (X09 rfl) ?_
 refine Zt hK18 fun a hf=>?_
 refine Xb hf rfl (fun hc19=>?_) (fun hc19=>?_)
 ·have hc19b:=hc19
  have h2:eqC c e=false:=by revert hc19;cases eqC c e<;>simp
  have hfin:ccS g e c (l.map Sr.rp) d r o=(1,true):=by rw [ccS,h1,h2];rfl
  refine Zs hf fun _ hK20=>?_
  refine Za rfl<|Za rfl ?_
  refine Zt hK20 fun a hf=>?_
  refine wp_ret ?_
  refine X3 ?_
  refine X2 hf (X0q hf rfl rfl rfl) ?_
  exact ⟨by rw [hfin],hW⟩
 have hc19b:=hc19
 have h2:eqC c e=true:=by revert hc19;cases eqC c e<;>simp
 refine wp_skip ?_
 refine hK17 _ _ ?_
 refine wp_seq_k fun _ hK21=>?_
 refine Zs hf fun _ hK22=>?_
 refine Ze (Vd rfl X2c 0)<|Ze (Xi (l:=[vi c.n,.slice Ac c.gs.length cc,.slice Al l.length cl,vi d.n,.slice Ad d.gs.length cd]) rfl X8v ((hB12.at 0).take 5) rfl) ?_
 refine Zf (Vc (F27 _ c Ac cc (hr_c.below' hW).top hp_c Al cl l (hr_l.below' hW).top hd_l.top d Ad cd (hr_d.below' hW).top hlc hls hll hld) Xon) ?_;rintro _ w6 ⟨rfl,hE⟩
 replace hB10:=hB10.below hE
 replace hB12:=hB12.below hE
 replace hd_l:=hd_l.below hE
 replace hW:=btr hW hE
 refine Zm rfl<|Ze (X6 (vs:=[vi ((checkS c d (l.map Sr.rp)).1),.bool ((checkS c d (l.map Sr.rp)).2)]) rfl rfl)<|Ze (X6 (vs:=[vi ((checkS c d (l.map Sr.rp)).1),.bool ((checkS c d (l.map Sr.rp)).2)]) rfl rfl)<|Za rfl<|Za rfl ?_
 refine Zt hK22 fun a hf=>?_
 refine wp_seq_k fun _ hK23=>?_
 refine X06 (fun a w=>Fr a 73 [(3,.pointer (some ⟨b10,0,none⟩)),(5,.pointer (some ⟨b12,0,none⟩)),(36,.bool ((!((checkS c d (l.map Sr.rp)).2))||(((checkS c d (l.map Sr.rp)).1) != 0)))]∧w6=w) ?_ ?_
 ·refine Zr hf ?_
  refine Zm rfl<|Ze (X09 rfl)<|Zm rfl ?_
  refine Zg 33 rfl (fun hg24=>?_) (fun hg24=>?_)
  ·refine Zp ⟨_,_,rfl,rfl,hg24⟩ ?_
   refine Zp ⟨_,_,rfl,rfl,hg24⟩ ?_
   refine Ze (X9 rfl hg24 rfl) ?_
   refine Zn fun a hf=>?_
   exact ⟨hf.sub ⟨rfl,rfl,X1 rfl (by first|rfl|(simp only [hc15b,hc19b,hg24,bs];done)|simp [hc15b,hc19b,hg24]),trivial⟩,rfl⟩
  refine Zv ⟨_,_,rfl,rfl,hg24⟩ (X8 rfl) ?_
  refine Zv ⟨_,_,rfl,rfl,hg24⟩ (X1g rfl rfl) ?_
  refine Ze (X7 rfl hg24 rfl) ?_
  refine Zn fun a hf=>?_
  exact ⟨hf.sub ⟨rfl,rfl,X1 rfl (by first|rfl|(simp only [hc15b,hc19b,hg24,bs];done)|simp [hc15b,hc19b,hg24]),trivial⟩,rfl⟩
 rintro a _ ⟨hf,rfl⟩
 refine hK23 _ _ ?_
 refine Xb hf rfl (fun hc25=>?_) (fun hc25=>?_)
 ·have hc25b:=hc25
  have h3:((checkS c d (l.map Sr.rp)).2&&(checkS c d (l.map Sr.rp)).1==0)=false:=by revert hc25;cases (checkS c d (l.map Sr.rp)).2<;>simp [bne]
  have hfin:ccS g e c (l.map Sr.rp) d r o=(2,true):=by rw [ccS,h1,h2,h3];rfl
  refine Zs hf fun _ hK26=>?_
  refine Za rfl<|Za rfl ?_
  refine Zt hK26 fun a hf=>?_
  refine wp_ret ?_
  refine X3 ?_
  refine X2 hf (X0q hf rfl rfl rfl) ?_
  exact ⟨by rw [hfin],hW⟩
 have hc25b:=hc25
 have h3:((checkS c d (l.map Sr.rp)).2&&(checkS c d (l.map Sr.rp)).1==0)=true:=by revert hc25;cases (checkS c d (l.map Sr.rp)).2<;>simp [bne]
 refine wp_skip ?_
 refine hK21 _ _ ?_
 refine wp_seq_k fun _ hK27=>?_
 refine Zs hf fun _ hK28=>?_
 refine Ze (Vn X1k hB10)<|Ze (Vd rfl X2c 0)<|Ze (Vd rfl X2z 3)<|Ze (Xi (l:=[vi d.n,.slice Ad d.gs.length cd]) rfl X0c ((hB12.at 3).take 2) rfl)<|Ze (Vd rfl X40 5) ?_
 refine Ze (Xi (l:=[.slice Ar r.st.length cr,.slice Br r.steps.length dr]) rfl X47 ((hB12.at 5).take 2) rfl) ?_
 refine Zf (Vc (F76 _ g Ag cg (hr_g.below' hW).top d Ad cd (hr_d.below' hW).top r Ar cr (hr_r.below' hW).top hp_r Br dr (hs_r.below' hW).top hle hld hla hlb) Xow) ?_;rintro _ w7 ⟨rfl,hE⟩
 replace hB10:=hB10.below hE
 replace hB12:=hB12.below hE
 replace hd_l:=hd_l.below hE
 replace hW:=btr hW hE
 refine Zm rfl<|Ze (X6 (vs:=[vi ((chkRS g d r).1),vi ((chkRS g d r).2.1),.bool ((chkRS g d r).2.2)]) rfl rfl)<|Ze (X6 (vs:=[vi ((chkRS g d r).1),vi ((chkRS g d r).2.1),.bool ((chkRS g d r).2.2)]) rfl rfl)<|Ze (X6 (vs:=[vi ((chkRS g d r).1),vi ((chkRS g d r).2.1),.bool ((chkRS g d r).2.2)]) rfl rfl)<|Za rfl ?_
 refine Za rfl<|Za rfl ?_
 refine Zt hK28 fun a hf=>?_
 refine wp_seq_k fun _ hK29=>?_
 refine X06 (fun a w=>Fr a 73 [(3,.pointer (some ⟨b10,0,none⟩)),(5,.pointer (some ⟨b12,0,none⟩)),(53,.bool ((!((chkRS g d r).2.2))||(((chkRS g d r).1) != 0)))]∧w7=w) ?_ ?_
 ·refine Zr hf ?_
  refine Zm rfl<|Ze (X09 rfl)<|Zm rfl ?_
  refine Zg 50 rfl (fun hg30=>?_) (fun hg30=>?_)
  ·refine Zp ⟨_,_,rfl,rfl,hg30⟩ ?_
   refine Zp ⟨_,_,rfl,rfl,hg30⟩ ?_
   refine Ze (X9 rfl hg30 rfl) ?_
   refine Zn fun a hf=>?_
   exact ⟨hf.sub ⟨rfl,rfl,X1 rfl (by first|rfl|(simp only [hc15b,hc19b,hc25b,hg30,bs];done)|simp [hc15b,hc19b,hc25b,hg30]),trivial⟩,rfl⟩
  refine Zv ⟨_,_,rfl,rfl,hg30⟩ (X8 rfl) ?_
  refine Zv ⟨_,_,rfl,rfl,hg30⟩ (X1g rfl rfl) ?_
  refine Ze (X7 rfl hg30 rfl) ?_
  refine Zn fun a hf=>?_
  exact ⟨hf.sub ⟨rfl,rfl,X1 rfl (by first|rfl|(simp only [hc15b,hc19b,hc25b,hg30,bs];done)|simp [hc15b,hc19b,hc25b,hg30]),trivial⟩,rfl⟩
 rintro a _ ⟨hf,rfl⟩
 refine hK29 _ _ ?_
 refine Xb hf rfl (fun hc31=>?_) (fun hc31=>?_)
 ·have hc31b:=hc31
  have h4:((chkRS g d r).2.2&&(chkRS g d r).1==0)=false:=by revert hc31;cases (chkRS g d r).2.2<;>simp [bne]
  have hfin:ccS g e c (l.map Sr.rp) d r o=(3,true):=by rw [ccS,h1,h2,h3,h4];rfl
  refine Zs hf fun _ hK32=>?_
  refine Za rfl<|Za rfl ?_
  refine Zt hK32 fun a hf=>?_
  refine wp_ret ?_
  refine X3 ?_
  refine X2 hf (X0q hf rfl rfl rfl) ?_
  exact ⟨by rw [hfin],hW⟩
 have hc31b:=hc31
 have h4:((chkRS g d r).2.2&&(chkRS g d r).1==0)=true:=by revert hc31;cases (chkRS g d r).2.2<;>simp [bne]
 refine wp_skip ?_
 refine hK27 _ _ ?_
 refine wp_seq_k fun _ hK33=>?_
 refine Zs hf fun _ hK34=>?_
 refine Ze (Vn X1k hB10)<|Ze (Vd rfl X2c 0)<|Ze (Vd rfl X2z 3)<|Ze (Xi (l:=[vi d.n,.slice Ad d.gs.length cd]) rfl X0c ((hB12.at 3).take 2) rfl)<|Ze (Vd rfl X40 5) ?_
 refine Ze (Xi (l:=[.slice Ar r.st.length cr,.slice Br r.steps.length dr]) rfl X47 ((hB12.at 5).take 2) rfl) ?_
 refine Zf (Vc (F77 _ g Ag cg (hr_g.below' hW).top d Ad cd (hr_d.below' hW).top r Ar cr (hr_r.below' hW).top hp_r Br dr (hs_r.below' hW).top hle hld hla hlb) Xp9) ?_;rintro _ w8 ⟨A35,c35,rfl,ho35,hE⟩
 replace ho35:=ho35.lower hW.size
 replace hB10:=hB10.below hE
 replace hB12:=hB12.below hE
 replace hd_l:=hd_l.below hE
 replace hW:=btr hW hE
 refine Zm rfl<|Ze (X6 (vs:=[.agg #[vi (((rcS g d r).getD cZ).n),.slice A35 (((rcS g d r).getD cZ).gs).length c35],.bool ((rcS g d r).isSome)]) rfl rfl)<|Ze (X6 (vs:=[.agg #[vi (((rcS g d r).getD cZ).n),.slice A35 (((rcS g d r).getD cZ).gs).length c35],.bool ((rcS g d r).isSome)]) rfl rfl) ?_
 refine Zf (Xa (zs:=[vi 0,.slice none 0 0]) X3n rfl) ?_;rintro _ w9 ⟨b37,rfl,hl37,hE,hB37⟩
 have hlo37:=Nat.le_trans hW.size hl37
 replace hB10:=hB10.below hE
 replace hB12:=hB12.below hE
 replace ho35:=ho35.below hE
 replace hd_l:=hd_l.below hE
 replace hW:=btr hW hE
 refine Zo (Vw [vi (((rcS g d r).getD cZ).n),.slice A35 (((rcS g d r).getD cZ).gs).length c35] X1j hB37) ?_;rintro _ w10 ⟨ho,hb⟩
 have hold:=hB37
 replace hB10:=hB10.only ho (Blk.ne hB10 hold rfl)
 replace hB12:=hB12.only ho (Blk.ne hB12 hold rfl)
 replace ho35:=ho35.onlyT ho hold rfl
 replace hd_l:=hd_l.only ho hlo37
 replace hW:=Below.only hW ho hlo37
 clear hold
 have hB37:=hb
 clear hb ho
 refine Za rfl ?_
 refine Zt hK34 fun a hf=>?_
 refine wp_seq_k fun _ hK38=>?_
 refine X06 (fun a w=>Fr a 73 [(72,.bool ((!((rcS g d r).isSome))||(!(eqC ((rcS g d r).getD cZ) o))))]∧Below w10.heap.size w10 w) ?_ ?_
 ·have hEc:Below w10.heap.size w10 w10:=Below.refl _ _
  refine Zr hf ?_
  refine Zm rfl<|Ze (X09 rfl)<|Zm rfl ?_
  refine Zg 66 rfl (fun hg39=>?_) (fun hg39=>?_)
  ·refine Zp ⟨_,_,rfl,rfl,hg39⟩ ?_
   refine Zp ⟨_,_,rfl,rfl,hg39⟩ ?_
   refine Zp ⟨_,_,rfl,rfl,hg39⟩ ?_
   refine Zp ⟨_,_,rfl,rfl,hg39⟩ ?_
   refine Zp ⟨_,_,rfl,rfl,hg39⟩ ?_
   refine Ze (X9 rfl hg39 rfl) ?_
   refine Zn fun a hf=>?_
   have hEE:Below w10.heap.size w10 w10:=hEc
   exact ⟨hf.sub ⟨X1 rfl (by first|rfl|(simp only [hc15b,hc19b,hc25b,hc31b,hg39,bs];done)|simp [hc15b,hc19b,hc25b,hc31b,hg39]),trivial⟩,hEE⟩
  refine Zv ⟨_,_,rfl,rfl,hg39⟩ (Vn X0c hB37) ?_
  refine Zv ⟨_,_,rfl,rfl,hg39⟩ (Vd rfl X5n 7) ?_
  refine Zv ⟨_,_,rfl,rfl,hg39⟩ (Xi (l:=[vi o.n,.slice Ao o.gs.length co]) rfl X0c ((hB12.at 7).take 2) rfl) ?_
  refine Zk ⟨_,_,rfl,rfl,hg39⟩ (Vc (F64 _ ((rcS g d r).getD cZ) A35 c35 ho35.rd.top o Ao co (hr_o.below' hW).top (Xdq hlb)) Xgq) ?_;rintro _ w11 ⟨rfl,hE⟩
  replace hB12:=hB12.below hE
  replace hB37:=hB37.below hE
  replace ho35:=ho35.below hE
  replace hd_l:=hd_l.below hE
  replace hW:=btr hW hE
  replace hEc:=btr hEc hE
  refine Zv ⟨_,_,rfl,rfl,hg39⟩ (X09 rfl) ?_
  refine Ze (X7 rfl hg39 rfl) ?_
  refine Zn fun a hf=>?_
  have hEE:Below w10.heap.size w10 w11:=hEc
  exact ⟨hf.sub ⟨X1 rfl (by first|rfl|(simp only [hc15b,hc19b,hc25b,hc31b,hg39,bs];done)|simp [hc15b,hc19b,hc25b,hc31b,hg39]),trivial⟩,hEE⟩
 rintro a w12 ⟨hf,hE⟩
 replace hB12:=hB12.below hE
 replace hB37:=hB37.below hE
 replace ho35:=ho35.below hE
 replace hd_l:=hd_l.below hE
 replace hW:=btr hW hE
 refine hK38 _ _ ?_
 refine Xb hf rfl (fun hc40=>?_) (fun hc40=>?_)
 ·have hc40b:=hc40
  have h5:((rcS g d r).isSome&&eqC ((rcS g d r).getD cZ) o)=false:=by revert hc40;cases (rcS g d r).isSome<;>simp
  have hfin:ccS g e c (l.map Sr.rp) d r o=(4,true):=by rw [ccS,h1,h2,h3,h4,h5];rfl
  refine Zs hf fun _ hK41=>?_
  refine Za rfl<|Za rfl ?_
  refine Zt hK41 fun a hf=>?_
  refine wp_ret ?_
  refine X3 ?_
  refine X2 hf (X0q hf rfl rfl rfl) ?_
  exact ⟨by rw [hfin],hW⟩
 have hc40b:=hc40
 have h5:((rcS g d r).isSome&&eqC ((rcS g d r).getD cZ) o)=true:=by revert hc40;cases (rcS g d r).isSome<;>simp
 have hfin:ccS g e c (l.map Sr.rp) d r o=(0,true):=by rw [ccS,h1,h2,h3,h4,h5];rfl
 refine wp_skip ?_
 refine hK33 _ _ ?_
 refine Zs hf fun _ hK42=>?_
 refine Za rfl<|Za rfl ?_
 refine Zt hK42 fun a hf=>?_
 refine wp_ret (X2 hf (X0q hf rfl rfl rfl) ?_)
 exact ⟨by rw [hfin],hW⟩
theorem F39(w0:World)(g:Gp)(Ag:Option Addr)(cg:Nat)(hr_g:Rd w0 w0.heap.size 164 encE Ag g.es)(e:Cx)(Ae:Option Addr)(ce:Nat)(hr_e:Rd w0 w0.heap.size 107 encG Ae e.gs)(c:Cx)(Ac:Option Addr)(cc:Nat)(hr_c:Rd w0 w0.heap.size 107 encG Ac c.gs)(hp_c:c.gs.length≤cc)(Al:Option Addr)(cl:Nat)(l:List Sr)(hr_l:Rd w0 w0.heap.size 30 encSr Al l)(hd_l:DeepR w0 w0.heap.size 107 l)(d:Cx)(Ad:Option Addr)(cd:Nat)(hr_d:Rd w0 w0.heap.size 107 encG Ad d.gs)(hp_d:d.gs.length≤cd)(r:Ro)(Ar:Option Addr)(cr:Nat)(hr_r:Rd w0 w0.heap.size 3 encI Ar r.st)(hp_r:r.st.length≤cr)(Br:Option Addr)(dr:Nat)(hs_r:Rd w0 w0.heap.size 161 encG Br r.steps)(o:Cx)(Ao:Option Addr)(co:Nat)(hr_o:Rd w0 w0.heap.size 107 encG Ao o.gs)(hle:g.es.length≤1048576)(hle2:e.gs.length≤1048576)(hlc:c.gs.length≤1048576)(hls:l.length≤1048576)(hll:∀ s ∈ l,s.old.length≤1048576∧s.new.length≤1048576)(hld:d.gs.length≤1048576)(hla:r.st.length≤1048576)(hlb:r.steps.length≤1048576)(hlo:o.gs.length≤1048576) : Ret Tryz.prog 39 [.agg #[vi g.n,.slice Ag g.es.length cg],.agg #[vi e.n,.slice Ae e.gs.length ce],.agg #[vi c.n,.slice Ac c.gs.length cc,.slice Al l.length cl,vi d.n,.slice Ad d.gs.length cd,.slice Ar r.st.length cr,.slice Br r.steps.length dr,vi o.n,.slice Ao o.gs.length co]] w0 (fun v w=>v=.tuple #[vi ((ccI g e c (l.map Sr.rp) d r o).1),.bool ((ccI g e c (l.map Sr.rp) d r o).2)]∧Below w0.heap.size w0 w):=by
 refine enter Tryz.func39 rfl 73 rfl rfl ?_
 intro a hf
 have hW:Below w0.heap.size w0 w0:=Below.refl _ _
 refine Zs hf fun _ hK9=>?_
 refine Zf (Xu (zs:=[vi g.n,.slice Ag g.es.length cg]) rfl rfl) ?_;rintro _ w1 ⟨b10,rfl,hl10,hE,hB10⟩
 have hlo10:=Nat.le_trans hW.size hl10
 replace hd_l:=hd_l.below hE
 replace hW:=btr hW hE
 refine Zf (Xu (zs:=[vi e.n,.slice Ae e.gs.length ce]) rfl rfl) ?_;rintro _ w2 ⟨b11,rfl,hl11,hE,hB11⟩
 have hlo11:=Nat.le_trans hW.size hl11
 replace hB10:=hB10.below hE
 replace hd_l:=hd_l.below hE
 replace hW:=btr hW hE
 refine Zf (Xu (zs:=[vi c.n,.slice Ac c.gs.length cc,.slice Al l.length cl,vi d.n,.slice Ad d.gs.length cd,.slice Ar r.st.length cr,.slice Br r.steps.length dr,vi o.n,.slice Ao o.gs.length co]) rfl rfl) ?_;rintro _ w3 ⟨b12,rfl,hl12,hE,hB12⟩
 have hlo12:=Nat.le_trans hW.size hl12
 replace hB10:=hB10.below hE
 replace hB11:=hB11.below hE
 replace hd_l:=hd_l.below hE
 replace hW:=btr hW hE
 refine Za rfl<|Za rfl ?_
 refine Zt hK9 fun a hf=>?_
 refine wp_seq_k fun _ hK13=>?_
 refine Zs hf fun _ hK14=>?_
 refine Ze (Vn X1k hB10)<|Ze (Vn X0c hB11) ?_
 refine Zf (Vc (F80 _ g Ag cg (hr_g.below' hW).top e Ae ce (hr_e.below' hW).top (by omega) (by omega)) Xke) ?_;rintro _ w4 ⟨rfl,hE⟩
 replace hB10:=hB10.below hE
 replace hB11:=hB11.below hE
 replace hB12:=hB12.below hE
 replace hd_l:=hd_l.below hE
 replace hW:=btr hW hE
 refine Ze (X09 rfl) ?_
 refine Zt hK14 fun a hf=>?_
 refine Xb hf rfl (fun hc15=>?_) (fun hc15=>?_)
 ·have hc15b:=hc15
  have h1:fitsR g e=false:=by revert hc15;cases fitsR g e<;>simp
  have hfin:ccI g e c (l.map Sr.rp) d r o=(0,false):=by rw [ccI,h1];rfl
  refine Zs hf fun _ hK16=>?_
  refine Za rfl<|Za rfl ?_
  refine Zt hK16 fun a hf=>?_
  refine wp_ret ?_
  refine X3 ?_
  refine X2 hf (X0q hf rfl rfl rfl) ?_
  exact ⟨by rw [hfin],hW⟩
 have hc15b:=hc15
 have h1:fitsR g e=true:=by revert hc15;cases fitsR g e<;>simp
 refine wp_skip ?_
 refine hK13 _ _ ?_
 refine wp_seq_k fun _ hK17=>?_
 refine Zs hf fun _ hK18=>?_
 refine Ze (Vd rfl X2c 0)<|Ze (Vd rfl X2x 0)<|Ze (Xi (l:=[vi c.n,.slice Ac c.gs.length cc]) rfl X0c ((hB12.at 0).take 2) rfl)<|Ze (Vn X0c hB11) ?_
 refine Zf (Vc (F67 _ c Ac cc (hr_c.below' hW).top e Ae ce (hr_e.below' hW).top (by omega)) Xi4) ?_;rintro _ w5 ⟨rfl,hE⟩
 replace hB10:=hB10.below hE
 replace hB11:=hB11.below hE
 replace hB12:=hB12.below hE
 replace hd_l:=hd_l.below hE
 replace hW:=btr hW hE
 refine Ze (X09 rfl) ?_
 refine Zt hK18 fun a hf=>?_
 refine Xb hf rfl (fun hc19=>?_) (fun hc19=>?_)
 ·have hc19b:=hc19
  have h2:eqC c e=false:=by revert hc19;cases eqC c e<;>simp
  have hfin:ccI g e c (l.map Sr.rp) d r o=(1,true):=by rw [ccI,h1,h2];rfl
  refine Zs hf fun _ hK20=>?_
  refine Za rfl<|Za rfl ?_
  refine Zt hK20 fun a hf=>?_
  refine wp_ret ?_
  refine X3 ?_
  refine X2 hf (X0q hf rfl rfl rfl) ?_
  exact ⟨by rw [hfin],hW⟩
 have hc19b:=hc19
 have h2:eqC c e=true:=by revert hc19;cases eqC c e<;>simp
 refine wp_skip ?_
 refine hK17 _ _ ?_
 refine wp_seq_k fun _ hK21=>?_
 refine Zs hf fun _ hK22=>?_
 refine Ze (Vd rfl X2c 0)<|Ze (Xi (l:=[vi c.n,.slice Ac c.gs.length cc,.slice Al l.length cl,vi d.n,.slice Ad d.gs.length cd]) rfl X8v ((hB12.at 0).take 5) rfl) ?_
 refine Zf (Vc (F29 _ c Ac cc (hr_c.below' hW).top hp_c Al cl l (hr_l.below' hW).top hd_l.top d Ad cd (hr_d.below' hW).top hlc hls hll hld) Xpl) ?_;rintro _ w6 ⟨rfl,hE⟩
 replace hB10:=hB10.below hE
 replace hB12:=hB12.below hE
 replace hd_l:=hd_l.below hE
 replace hW:=btr hW hE
 refine Zm rfl<|Ze (X6 (vs:=[vi ((checkI c d (l.map Sr.rp)).1),.bool ((checkI c d (l.map Sr.rp)).2)]) rfl rfl)<|Ze (X6 (vs:=[vi ((checkI c d (l.map Sr.rp)).1),.bool ((checkI c d (l.map Sr.rp)).2)]) rfl rfl)<|Za rfl<|Za rfl ?_
 refine Zt hK22 fun a hf=>?_
 refine wp_seq_k fun _ hK23=>?_
 refine X06 (fun a w=>Fr a 73 [(3,.pointer (some ⟨b10,0,none⟩)),(5,.pointer (some ⟨b12,0,none⟩)),(36,.bool ((!((checkI c d (l.map Sr.rp)).2))||(((checkI c d (l.map Sr.rp)).1) != 0)))]∧w6=w) ?_ ?_
 ·refine Zr hf ?_
  refine Zm rfl<|Ze (X09 rfl)<|Zm rfl ?_
  refine Zg 33 rfl (fun hg24=>?_) (fun hg24=>?_)
  ·refine Zp ⟨_,_,rfl,rfl,hg24⟩ ?_
   refine Zp ⟨_,_,rfl,rfl,hg24⟩ ?_
   refine Ze (X9 rfl hg24 rfl) ?_
   refine Zn fun a hf=>?_
   exact ⟨hf.sub ⟨rfl,rfl,X1 rfl (by first|rfl|(simp only [hc15b,hc19b,hg24,bs];done)|simp [hc15b,hc19b,hg24]),trivial⟩,rfl⟩
  refine Zv ⟨_,_,rfl,rfl,hg24⟩ (X8 rfl) ?_
  refine Zv ⟨_,_,rfl,rfl,hg24⟩ (X1g rfl rfl) ?_
  refine Ze (X7 rfl hg24 rfl) ?_
  refine Zn fun a hf=>?_
  exact ⟨hf.sub ⟨rfl,rfl,X1 rfl (by first|rfl|(simp only [hc15b,hc19b,hg24,bs];done)|simp [hc15b,hc19b,hg24]),trivial⟩,rfl⟩
 rintro a _ ⟨hf,rfl⟩
 refine hK23 _ _ ?_
 refine Xb hf rfl (fun hc25=>?_) (fun hc25=>?_)
 ·have hc25b:=hc25
  have h3:((checkI c d (l.map Sr.rp)).2&&(checkI c d (l.map Sr.rp)).1==0)=false:=by revert hc25;cases (checkI c d (l.map Sr.rp)).2<;>simp [bne]
  have hfin:ccI g e c (l.map Sr.rp) d r o=(2,true):=by rw [ccI,h1,h2,h3];rfl
  refine Zs hf fun _ hK26=>?_
  refine Za rfl<|Za rfl ?_
  refine Zt hK26 fun a hf=>?_
  refine wp_ret ?_
  refine X3 ?_
  refine X2 hf (X0q hf rfl rfl rfl) ?_
  exact ⟨by rw [hfin],hW⟩
 have hc25b:=hc25
 have h3:((checkI c d (l.map Sr.rp)).2&&(checkI c d (l.map Sr.rp)).1==0)=true:=by revert hc25;cases (checkI c d (l.map Sr.rp)).2<;>simp [bne]
 refine wp_skip ?_
 refine hK21 _ _ ?_
 refine wp_seq_k fun _ hK27=>?_
 refine Zs hf fun _ hK28=>?_
 refine Ze (Vn X1k hB10)<|Ze (Vd rfl X2c 0)<|Ze (Vd rfl X2z 3)<|Ze (Xi (l:=[vi d.n,.slice Ad d.gs.length cd]) rfl X0c ((hB12.at 3).take 2) rfl)<|Ze (Vd rfl X40 5) ?_
 refine Ze (Xi (l:=[.slice Ar r.st.length cr,.slice Br r.steps.length dr]) rfl X47 ((hB12.at 5).take 2) rfl) ?_
 refine Zf (Vc (F81 _ g Ag cg (hr_g.below' hW).top d Ad cd (hr_d.below' hW).top hp_d r Ar cr (hr_r.below' hW).top hp_r Br dr (hs_r.below' hW).top hle hld hla hlb) Xjq) ?_;rintro _ w7 ⟨rfl,hE⟩
 replace hB10:=hB10.below hE
 replace hB12:=hB12.below hE
 replace hd_l:=hd_l.below hE
 replace hW:=btr hW hE
 refine Zm rfl<|Ze (X6 (vs:=[vi ((chkRI g d r).1),vi ((chkRI g d r).2.1),.bool ((chkRI g d r).2.2)]) rfl rfl)<|Ze (X6 (vs:=[vi ((chkRI g d r).1),vi ((chkRI g d r).2.1),.bool ((chkRI g d r).2.2)]) rfl rfl)<|Ze (X6 (vs:=[vi ((chkRI g d r).1),vi ((chkRI g d r).2.1),.bool ((chkRI g d r).2.2)]) rfl rfl)<|Za rfl ?_
 refine Za rfl<|Za rfl ?_
 refine Zt hK28 fun a hf=>?_
 refine wp_seq_k fun _ hK29=>?_
 refine X06 (fun a w=>Fr a 73 [(3,.pointer (some ⟨b10,0,none⟩)),(5,.pointer (some ⟨b12,0,none⟩)),(53,.bool ((!((chkRI g d r).2.2))||(((chkRI g d r).1) != 0)))]∧w7=w) ?_ ?_
 ·refine Zr hf ?_
  refine Zm rfl<|Ze (X09 rfl)<|Zm rfl ?_
  refine Zg 50 rfl (fun hg30=>?_) (fun hg30=>?_)
  ·refine Zp ⟨_,_,rfl,rfl,hg30⟩ ?_
   refine Zp ⟨_,_,rfl,rfl,hg30⟩ ?_
   refine Ze (X9 rfl hg30 rfl) ?_
   refine Zn fun a hf=>?_
   exact ⟨hf.sub ⟨rfl,rfl,X1 rfl (by first|rfl|(simp only [hc15b,hc19b,hc25b,hg30,bs];done)|simp [hc15b,hc19b,hc25b,hg30]),trivial⟩,rfl⟩
  refine Zv ⟨_,_,rfl,rfl,hg30⟩ (X8 rfl) ?_
  refine Zv ⟨_,_,rfl,rfl,hg30⟩ (X1g rfl rfl) ?_
  refine Ze (X7 rfl hg30 rfl) ?_
  refine Zn fun a hf=>?_
  exact ⟨hf.sub ⟨rfl,rfl,X1 rfl (by first|rfl|(simp only [hc15b,hc19b,hc25b,hg30,bs];done)|simp [hc15b,hc19b,hc25b,hg30]),trivial⟩,rfl⟩
 rintro a _ ⟨hf,rfl⟩
 refine hK29 _ _ ?_
 refine Xb hf rfl (fun hc31=>?_) (fun hc31=>?_)
 ·have hc31b:=hc31
  have h4:((chkRI g d r).2.2&&(chkRI g d r).1==0)=false:=by revert hc31;cases (chkRI g d r).2.2<;>simp [bne]
  have hfin:ccI g e c (l.map Sr.rp) d r o=(3,true):=by rw [ccI,h1,h2,h3,h4];rfl
  refine Zs hf fun _ hK32=>?_
  refine Za rfl<|Za rfl ?_
  refine Zt hK32 fun a hf=>?_
  refine wp_ret ?_
  refine X3 ?_
  refine X2 hf (X0q hf rfl rfl rfl) ?_
  exact ⟨by rw [hfin],hW⟩
 have hc31b:=hc31
 have h4:((chkRI g d r).2.2&&(chkRI g d r).1==0)=true:=by revert hc31;cases (chkRI g d r).2.2<;>simp [bne]
 refine wp_skip ?_
 refine hK27 _ _ ?_
 refine wp_seq_k fun _ hK33=>?_
 refine Zs hf fun _ hK34=>?_
 refine Ze (Vn X1k hB10)<|Ze (Vd rfl X2c 0)<|Ze (Vd rfl X2z 3)<|Ze (Xi (l:=[vi d.n,.slice Ad d.gs.length cd]) rfl X0c ((hB12.at 3).take 2) rfl)<|Ze (Vd rfl X40 5) ?_
 refine Ze (Xi (l:=[.slice Ar r.st.length cr,.slice Br r.steps.length dr]) rfl X47 ((hB12.at 5).take 2) rfl) ?_
 refine Zf (Vc (F82 _ g Ag cg (hr_g.below' hW).top d Ad cd (hr_d.below' hW).top hp_d r Ar cr (hr_r.below' hW).top hp_r Br dr (hs_r.below' hW).top hle hld hla hlb) Xpr) ?_;rintro _ w8 ⟨A35,c35,rfl,ho35,hE⟩
 replace ho35:=ho35.lower hW.size
 replace hB10:=hB10.below hE
 replace hB12:=hB12.below hE
 replace hd_l:=hd_l.below hE
 replace hW:=btr hW hE
 refine Zm rfl<|Ze (X6 (vs:=[.agg #[vi (((rcI g d r).getD cZ).n),.slice A35 (((rcI g d r).getD cZ).gs).length c35],.bool ((rcI g d r).isSome)]) rfl rfl)<|Ze (X6 (vs:=[.agg #[vi (((rcI g d r).getD cZ).n),.slice A35 (((rcI g d r).getD cZ).gs).length c35],.bool ((rcI g d r).isSome)]) rfl rfl) ?_
 refine Zf (Xa (zs:=[vi 0,.slice none 0 0]) X3n rfl) ?_;rintro _ w9 ⟨b37,rfl,hl37,hE,hB37⟩
 have hlo37:=Nat.le_trans hW.size hl37
 replace hB10:=hB10.below hE
 replace hB12:=hB12.below hE
 replace ho35:=ho35.below hE
 replace hd_l:=hd_l.below hE
 replace hW:=btr hW hE
 refine Zo (Vw [vi (((rcI g d r).getD cZ).n),.slice A35 (((rcI g d r).getD cZ).gs).length c35] X1j hB37) ?_;rintro _ w10 ⟨ho,hb⟩
 have hold:=hB37
 replace hB10:=hB10.only ho (Blk.ne hB10 hold rfl)
 replace hB12:=hB12.only ho (Blk.ne hB12 hold rfl)
 replace ho35:=ho35.onlyT ho hold rfl
 replace hd_l:=hd_l.only ho hlo37
 replace hW:=Below.only hW ho hlo37
 clear hold
 have hB37:=hb
 clear hb ho
 refine Za rfl ?_
 refine Zt hK34 fun a hf=>?_
 refine wp_seq_k fun _ hK38=>?_
 refine X06 (fun a w=>Fr a 73 [(72,.bool ((!((rcI g d r).isSome))||(!(eqC ((rcI g d r).getD cZ) o))))]∧Below w10.heap.size w10 w) ?_ ?_
 ·have hEc:Below w10.heap.size w10 w10:=Below.refl _ _
  refine Zr hf ?_
  refine Zm rfl<|Ze (X09 rfl)<|Zm rfl ?_
  refine Zg 66 rfl (fun hg39=>?_) (fun hg39=>?_)
  ·refine Zp ⟨_,_,rfl,rfl,hg39⟩ ?_
   refine Zp ⟨_,_,rfl,rfl,hg39⟩ ?_
   refine Zp ⟨_,_,rfl,rfl,hg39⟩ ?_
   refine Zp ⟨_,_,rfl,rfl,hg39⟩ ?_
   refine Zp ⟨_,_,rfl,rfl,hg39⟩ ?_
   refine Ze (X9 rfl hg39 rfl) ?_
   refine Zn fun a hf=>?_
   have hEE:Below w10.heap.size w10 w10:=hEc
   exact ⟨hf.sub ⟨X1 rfl (by first|rfl|(simp only [hc15b,hc19b,hc25b,hc31b,hg39,bs];done)|simp [hc15b,hc19b,hc25b,hc31b,hg39]),trivial⟩,hEE⟩
  refine Zv ⟨_,_,rfl,rfl,hg39⟩ (Vn X0c hB37) ?_
  refine Zv ⟨_,_,rfl,rfl,hg39⟩ (Vd rfl X5n 7) ?_
  refine Zv ⟨_,_,rfl,rfl,hg39⟩ (Xi (l:=[vi o.n,.slice Ao o.gs.length co]) rfl X0c ((hB12.at 7).take 2) rfl) ?_
  refine Zk ⟨_,_,rfl,rfl,hg39⟩ (Vc (F67 _ ((rcI g d r).getD cZ) A35 c35 ho35.rd.top o Ao co (hr_o.below' hW).top (Xiv hlb)) Xi4) ?_;rintro _ w11 ⟨rfl,hE⟩
  replace hB12:=hB12.below hE
  replace hB37:=hB37.below hE
  replace ho35:=ho35.below hE
  replace hd_l:=hd_l.below hE
  replace hW:=btr hW hE
  replace hEc:=btr hEc hE
  refine Zv ⟨_,_,rfl,rfl,hg39⟩ (X09 rfl) ?_
  refine Ze (X7 rfl hg39 rfl) ?_
  refine Zn fun a hf=>?_
  have hEE:Below w10.heap.size w10 w11:=hEc
  exact ⟨hf.sub ⟨X1 rfl (by first|rfl|(simp only [hc15b,hc19b,hc25b,hc31b,hg39,bs];done)|simp [hc15b,hc19b,hc25b,hc31b,hg39]),trivial⟩,hEE⟩
 rintro a w12 ⟨hf,hE⟩
 replace hB12:=hB12.below hE
 replace hB37:=hB37.below hE
 replace ho35:=ho35.below hE
 replace hd_l:=hd_l.below hE
 replace hW:=btr hW hE
 refine hK38 _ _ ?_
 refine Xb hf rfl (fun hc40=>?_) (fun hc40=>?_)
 ·have hc40b:=hc40
  have h5:((rcI g d r).isSome&&eqC ((rcI g d r).getD cZ) o)=false:=by revert hc40;cases (rcI g d r).isSome<;>simp
  have hfin:ccI g e c (l.map Sr.rp) d r o=(4,true):=by rw [ccI,h1,h2,h3,h4,h5];rfl
  refine Zs hf fun _ hK41=>?_
  refine Za rfl<|Za rfl ?_
  refine Zt hK41 fun a hf=>?_
  refine wp_ret ?_
  refine X3 ?_
  refine X2 hf (X0q hf rfl rfl rfl) ?_
  exact ⟨by rw [hfin],hW⟩
 have hc40b:=hc40
 have h5:((rcI g d r).isSome&&eqC ((rcI g d r).getD cZ) o)=true:=by revert hc40;cases (rcI g d r).isSome<;>simp
 have hfin:ccI g e c (l.map Sr.rp) d r o=(0,true):=by rw [ccI,h1,h2,h3,h4,h5];rfl
 refine wp_skip ?_
 refine hK33 _ _ ?_
 refine Zs hf fun _ hK42=>?_
 refine Za rfl<|Za rfl ?_
 refine Zt hK42 fun a hf=>?_
 refine wp_ret (X2 hf (X0q hf rfl rfl rfl) ?_)
 exact ⟨by rw [hfin],hW⟩
end Go.Proofs.YtfgnmflfiobkmaaGreat
set_option maxHeartbeats 1000000
set_option maxRecDepth 4000
namespace Go.Proofs.YtfgnmflfiobkmaaGreat
open Go.RowKit
theorem F8(w0:World){Xg:TypeId}(g:Gp)(Ag:Option Addr)(cg:Nat)(hr_g:Rd w0 w0.heap.size Xg encE Ag g.es){Xe:TypeId}(e:Cx)(Ae:Option Addr)(ce:Nat)(hr_e:Rd w0 w0.heap.size Xe encG Ae e.gs){Xc:TypeId}(c:Cx)(Ac:Option Addr)(cc:Nat)(hr_c:Rd w0 w0.heap.size Xc encG Ac c.gs){Xl:TypeId}(Al:Option Addr)(cl:Nat)(l:List Sr)(hr_l:Rd w0 w0.heap.size Xl encSr Al l)(hd_l:DeepX w0 w0.heap.size l){Xd:TypeId}(d:Cx)(Ad:Option Addr)(cd:Nat)(hr_d:Rd w0 w0.heap.size Xd encG Ad d.gs){Xr Yr:TypeId}(r:Ro)(Ar:Option Addr)(cr:Nat)(hr_r:Rd w0 w0.heap.size Xr encI Ar r.st)(Br:Option Addr)(dr:Nat)(hs_r:Rd w0 w0.heap.size Yr encG Br r.steps){Xo:TypeId}(o:Cx)(Ao:Option Addr)(co:Nat)(hr_o:Rd w0 w0.heap.size Xo encG Ao o.gs)(hlg:g.es.length≤9223372036854775807)(hle:e.gs.length≤9223372036854775807)(hlc:c.gs.length≤9223372036854775807)(hls:l.length≤9223372036854775807)(hll:∀ s ∈ l,s.old.length≤9223372036854775807∧s.new.length≤9223372036854775807)(hld:d.gs.length≤9223372036854775807)(hla:r.st.length≤9223372036854775807)(hlb:r.steps.length≤9223372036854775807)(hlo:o.gs.length≤9223372036854775807) : Ret Tryz.prog 8 [.agg #[vi g.n,.slice Ag g.es.length cg],.agg #[vi e.n,.slice Ae e.gs.length ce],.agg #[vi c.n,.slice Ac c.gs.length cc,.slice Al l.length cl,vi d.n,.slice Ad d.gs.length cd,.slice Ar r.st.length cr,.slice Br r.steps.length dr,vi o.n,.slice Ao o.gs.length co]] w0 (fun v w=>v=.bool true∧Below w0.heap.size w0 w):=by
 refine enter Tryz.func8 rfl 76 rfl rfl ?_
 intro a hf
 have hW:Below w0.heap.size w0 w0:=Below.refl _ _
 refine Zs hf fun _ hK9=>?_
 refine Zf (Xu (zs:=[vi g.n,.slice Ag g.es.length cg]) rfl rfl) ?_;rintro _ w1 ⟨b10,rfl,hl10,hE,hB10⟩
 have hlo10:=Nat.le_trans hW.size hl10
 replace hd_l:=hd_l.below hE
 replace hW:=btr hW hE
 refine Zf (Xu (zs:=[vi e.n,.slice Ae e.gs.length ce]) rfl rfl) ?_;rintro _ w2 ⟨b11,rfl,hl11,hE,hB11⟩
 have hlo11:=Nat.le_trans hW.size hl11
 replace hB10:=hB10.below hE
 replace hd_l:=hd_l.below hE
 replace hW:=btr hW hE
 refine Zf (Xu (zs:=[vi c.n,.slice Ac c.gs.length cc,.slice Al l.length cl,vi d.n,.slice Ad d.gs.length cd,.slice Ar r.st.length cr,.slice Br r.steps.length dr,vi o.n,.slice Ao o.gs.length co]) rfl rfl) ?_;rintro _ w3 ⟨b12,rfl,hl12,hE,hB12⟩
 have hlo12:=Nat.le_trans hW.size hl12
 replace hB10:=hB10.below hE
 replace hB11:=hB11.below hE
 replace hd_l:=hd_l.below hE
 replace hW:=btr hW hE
 refine Za rfl ?_
 refine Zt hK9 fun a hf=>?_
 refine Zs hf fun _ hK13=>?_
 refine Za rfl ?_
 refine Zt hK13 fun a hf=>?_
 refine Zs hf fun _ hK14=>?_
 refine Ze (Vn Xd7 hB10)<|Zm rfl ?_
 refine Zf (Vc (F34 _ g Ag cg (hr_g.below' hW).top 1048576 (by omega) hlg) Xpf) ?_;rintro _ w4 ⟨rfl,hE⟩
 replace hB10:=hB10.below hE
 replace hB11:=hB11.below hE
 replace hB12:=hB12.below hE
 replace hd_l:=hd_l.below hE
 replace hW:=btr hW hE
 refine Za rfl ?_
 refine Zt hK14 fun a hf=>?_
 refine wp_seq_k fun _ hK15=>?_
 refine Zs hf fun _ hK16=>?_
 refine Zm rfl<|Ze (X0m rfl rfl) ?_
 refine Zt hK16 fun a hf=>?_
 refine Xb hf rfl (fun hc17=>?_) (fun hc17=>?_)
 ·have hc17b:=hc17
  have hc17:=of_decide_eq_true hc17
  refine Zs hf fun _ hK18=>?_
  refine Za rfl ?_
  refine Zt hK18 fun a hf=>?_
  refine wp_ret ?_
  refine X3 ?_
  refine X2 hf (Xh hf rfl rfl) ?_
  exact ⟨rfl,hW⟩
 have hc17b:=hc17
 have hc17:=of_decide_eq_false hc17
 have hn1:¬ szn g.es.length 1048576<0:=hc17
 refine wp_skip ?_
 refine hK15 _ _ ?_
 refine Zs hf fun _ hK19=>?_
 refine Ze (Vn X55 hB11)<|Zm rfl ?_
 refine Zf (Vc (F14 _ e Ae ce (hr_e.below' hW).top (szn g.es.length 1048576) (by have:=X4h hn1;omega) hle) Xdi) ?_;rintro _ w5 ⟨rfl,hE⟩
 replace hB10:=hB10.below hE
 replace hB11:=hB11.below hE
 replace hB12:=hB12.below hE
 replace hd_l:=hd_l.below hE
 replace hW:=btr hW hE
 refine Za rfl ?_
 refine Zt hK19 fun a hf=>?_
 refine wp_seq_k fun _ hK20=>?_
 refine Zs hf fun _ hK21=>?_
 refine Zm rfl<|Ze (X0m rfl rfl) ?_
 refine Zt hK21 fun a hf=>?_
 refine Xb hf rfl (fun hc22=>?_) (fun hc22=>?_)
 ·have hc22b:=hc22
  have hc22:=of_decide_eq_true hc22
  refine Zs hf fun _ hK23=>?_
  refine Za rfl ?_
  refine Zt hK23 fun a hf=>?_
  refine wp_ret ?_
  refine X3 ?_
  refine X2 hf (Xh hf rfl rfl) ?_
  exact ⟨rfl,hW⟩
 have hc22b:=hc22
 have hc22:=of_decide_eq_false hc22
 have hn2:¬ szG e.gs (szn g.es.length 1048576)<0:=hc22
 refine wp_skip ?_
 refine hK20 _ _ ?_
 refine Zs hf fun _ hK24=>?_
 refine Ze (Vn Xdz hB12)<|Zm rfl ?_
 refine Zf (Vc (F35 _ c Ac cc (hr_c.below' hW).top Al cl l (hr_l.below' hW).top hd_l.top d Ad cd (hr_d.below' hW).top r Ar cr (hr_r.below' hW).top Br dr (hs_r.below' hW).top o Ao co (hr_o.below' hW).top (szG e.gs (szn g.es.length 1048576)) (by have:=X4h hn1;have:=X3f hn2;omega) hlc hls hll hld hla hlb hlo) Xqi) ?_;rintro _ w6 ⟨rfl,hE⟩
 replace hB10:=hB10.below hE
 replace hB11:=hB11.below hE
 replace hB12:=hB12.below hE
 replace hd_l:=hd_l.below hE
 replace hW:=btr hW hE
 refine Za rfl ?_
 refine Zt hK24 fun a hf=>?_
 refine wp_seq_k fun _ hK25=>?_
 refine Zs hf fun _ hK26=>?_
 refine Zm rfl<|Ze (X0m rfl rfl) ?_
 refine Zt hK26 fun a hf=>?_
 refine Xb hf rfl (fun hc27=>?_) (fun hc27=>?_)
 ·have hc27b:=hc27
  have hc27:=of_decide_eq_true hc27
  refine Zs hf fun _ hK28=>?_
  refine Za rfl ?_
  refine Zt hK28 fun a hf=>?_
  refine wp_ret ?_
  refine X3 ?_
  refine X2 hf (Xh hf rfl rfl) ?_
  exact ⟨rfl,hW⟩
 have hc27b:=hc27
 have hc27:=of_decide_eq_false hc27
 have hg1:g.es.length≤1048576:=by have:=X4h hn1;omega
 have he1:e.gs.length≤1048576:=by have:=X4h hn1;have:=X3f hn2;omega
 obtain ⟨hc1,hs1,hl1,hd1,ha1,hb1,ho1⟩:=Xmm (by have:=X4h hn1;have:=X3f hn2;omega) hc27
 refine wp_skip ?_
 refine hK25 _ _ ?_
 refine wp_seq_k fun _ hK29=>?_
 refine X05 none (fun _=>false) mixed ?_
 intro w7 hE
 replace hB10:=hB10.below hE
 replace hB11:=hB11.below hE
 replace hB12:=hB12.below hE
 replace hd_l:=hd_l.below hE
 replace hW:=btr hW hE
 refine Yb hf ?_
 refine Ye 0 rfl (Vn Xd7 hB10)<|Ye 2 rfl (Vn X55 hB11)<|Ye 4 rfl (Vn Xdz hB12) ?_
 refine Y1 1 ?_
 refine Yk rfl trivial (Vc (F37 _ g Ag cg (hr_g.below' hW).top hg1) Xgy) (fun _ _ ⟨A30,c30,_,ho30,hE⟩=>hE) ?_;rintro _ w8 ⟨A30,c30,rfl,ho30,hE⟩
 replace ho30:=ho30.lower hW.size
 replace hB10:=hB10.below hE
 replace hB11:=hB11.below hE
 replace hB12:=hB12.below hE
 replace hd_l:=hd_l.below hE
 replace hW:=btr hW hE
 refine Y1 3 ?_
 refine Yk rfl trivial (Vc (F16 _ e Ae ce (hr_e.below' hW).top he1) X99) (fun _ _ ⟨A31,c31,_,ho31,hE⟩=>hE) ?_;rintro _ w9 ⟨A31,c31,rfl,ho31,hE⟩
 replace ho31:=ho31.lower hW.size
 replace hB10:=hB10.below hE
 replace hB11:=hB11.below hE
 replace hB12:=hB12.below hE
 replace ho30:=ho30.below hE
 replace hd_l:=hd_l.below hE
 replace hW:=btr hW hE
 refine Y1 5 ?_
 refine Yk rfl trivial (Vc (F38 _ c Ac cc (hr_c.below' hW).top Al cl l (hr_l.below' hW).top hd_l.top d Ad cd (hr_d.below' hW).top r Ar cr (hr_r.below' hW).top Br dr (hs_r.below' hW).top o Ao co (hr_o.below' hW).top hc1 hs1 hl1 hd1 ha1 hb1 ho1) Xg7) (fun _ _ ⟨A32,c32,A33,c33,mq36,A34,c34,A35,c35,A36,c36,A37,c37,_,ho32,ho33,hd33,hq36,ho34,ho35,ho36,ho37,hE⟩=>hE) ?_;rintro _ w10 ⟨A32,c32,A33,c33,mq36,A34,c34,A35,c35,A36,c36,A37,c37,rfl,ho32,ho33,hd33,hq36,ho34,ho35,ho36,ho37,hE⟩
 replace ho32:=ho32.lower hW.size
 replace ho33:=ho33.lower hW.size
 replace ho34:=ho34.lower hW.size
 replace ho35:=ho35.lower hW.size
 replace ho36:=ho36.lower hW.size
 replace ho37:=ho37.lower hW.size
 replace hB10:=hB10.below hE
 replace hB11:=hB11.below hE
 replace hB12:=hB12.below hE
 replace ho30:=ho30.below hE
 replace ho31:=ho31.below hE
 replace hd_l:=hd_l.below hE
 replace hW:=btr hW hE
 refine Y1 6 ?_
 refine Yk rfl trivial (Vc (F36 _ g A30 c30 ho30.rd.top e A31 c31 ho31.rd.top c A32 c32 ho32.rd.top ho32.cap A33 c33 mq36 ho33.rd.top hd33.top d A34 c34 ho34.rd.top ho34.cap r A35 c35 ho35.rd.top ho35.cap A36 c36 ho36.rd.top o A37 c37 ho37.rd.top hg1 he1 hc1 (X3z hq36 hs1 hl1).1 (X3z hq36 hs1 hl1).2 hd1 ha1 hb1 ho1) Xql) (fun _ _ ⟨_,hE⟩=>hE) ?_;rintro _ w11 ⟨rfl,hE⟩
 replace hB10:=hB10.below hE
 replace hB11:=hB11.below hE
 replace hB12:=hB12.below hE
 replace ho30:=ho30.below hE
 replace ho31:=ho31.below hE
 replace ho32:=ho32.below hE
 replace ho33:=ho33.below hE
 replace ho34:=ho34.below hE
 replace ho35:=ho35.below hE
 replace ho36:=ho36.below hE
 replace ho37:=ho37.below hE
 replace hd_l:=hd_l.below hE
 replace hd33:=hd33.below hE
 replace hW:=btr hW hE
 refine Yo 7 rfl (fun _=>X8 rfl)<|Yo 8 rfl (fun _=>X6 (vs:=[vi ((ccS g e c (mq36.map Sr.rp) d r o).1),.bool ((ccS g e c (mq36.map Sr.rp) d r o).2)]) rfl rfl)<|Yo 9 rfl (fun _=>X6 (vs:=[vi ((ccS g e c (mq36.map Sr.rp) d r o).1),.bool ((ccS g e c (mq36.map Sr.rp) d r o).2)]) rfl rfl)<|Yo 10 rfl (fun _=>X0p rfl)<|Yo 11 rfl (fun _=>X0p rfl) ?_
 refine Yd fun a hf=>?_
 refine hK29 _ _ ?_
 refine Zs hf fun _ hK38=>?_
 refine Ze (Vn Xd7 hB10) ?_
 refine Zf (Vc (F37 _ g Ag cg (hr_g.below' hW).top hg1) Xgy) ?_;rintro _ w12 ⟨A39,c39,rfl,ho39,hE⟩
 replace ho39:=ho39.lower hW.size
 replace hB10:=hB10.below hE
 replace hB11:=hB11.below hE
 replace hB12:=hB12.below hE
 replace hd_l:=hd_l.below hE
 replace hW:=btr hW hE
 refine Zf (Xa (zs:=[vi 0,.slice none 0 0]) Xln rfl) ?_;rintro _ w13 ⟨b41,rfl,hl41,hE,hB41⟩
 have hlo41:=Nat.le_trans hW.size hl41
 replace hB10:=hB10.below hE
 replace hB11:=hB11.below hE
 replace hB12:=hB12.below hE
 replace ho39:=ho39.below hE
 replace hd_l:=hd_l.below hE
 replace hW:=btr hW hE
 refine Zo (Vw [vi g.n,.slice A39 g.es.length c39] Xjv hB41) ?_;rintro _ w14 ⟨ho,hb⟩
 have hold:=hB41
 replace hB10:=hB10.only ho (Blk.ne hB10 hold rfl)
 replace hB11:=hB11.only ho (Blk.ne hB11 hold rfl)
 replace hB12:=hB12.only ho (Blk.ne hB12 hold rfl)
 replace ho39:=ho39.onlyT ho hold rfl
 replace hd_l:=hd_l.only ho hlo41
 replace hW:=Below.only hW ho hlo41
 clear hold
 have hB41:=hb
 clear hb ho
 refine Zt hK38 fun a hf=>?_
 refine Zs hf fun _ hK42=>?_
 refine Ze (Vn X55 hB11) ?_
 refine Zf (Vc (F16 _ e Ae ce (hr_e.below' hW).top he1) X99) ?_;rintro _ w15 ⟨A43,c43,rfl,ho43,hE⟩
 replace ho43:=ho43.lower hW.size
 replace hB10:=hB10.below hE
 replace hB11:=hB11.below hE
 replace hB12:=hB12.below hE
 replace hB41:=hB41.below hE
 replace ho39:=ho39.below hE
 replace hd_l:=hd_l.below hE
 replace hW:=btr hW hE
 refine Zf (Xa (zs:=[vi 0,.slice none 0 0]) X3n rfl) ?_;rintro _ w16 ⟨b45,rfl,hl45,hE,hB45⟩
 have hlo45:=Nat.le_trans hW.size hl45
 replace hB10:=hB10.below hE
 replace hB11:=hB11.below hE
 replace hB12:=hB12.below hE
 replace hB41:=hB41.below hE
 replace ho39:=ho39.below hE
 replace ho43:=ho43.below hE
 replace hd_l:=hd_l.below hE
 replace hW:=btr hW hE
 refine Zo (Vw [vi e.n,.slice A43 e.gs.length c43] X1j hB45) ?_;rintro _ w17 ⟨ho,hb⟩
 have hold:=hB45
 replace hB10:=hB10.only ho (Blk.ne hB10 hold rfl)
 replace hB11:=hB11.only ho (Blk.ne hB11 hold rfl)
 replace hB12:=hB12.only ho (Blk.ne hB12 hold rfl)
 replace hB41:=hB41.only ho (Blk.ne hB41 hold rfl)
 replace ho39:=ho39.onlyT ho hold rfl
 replace ho43:=ho43.onlyT ho hold rfl
 replace hd_l:=hd_l.only ho hlo45
 replace hW:=Below.only hW ho hlo45
 clear hold
 have hB45:=hb
 clear hb ho
 refine Zt hK42 fun a hf=>?_
 refine Zs hf fun _ hK46=>?_
 refine Ze (Vn Xdz hB12) ?_
 refine Zf (Vc (F38 _ c Ac cc (hr_c.below' hW).top Al cl l (hr_l.below' hW).top hd_l.top d Ad cd (hr_d.below' hW).top r Ar cr (hr_r.below' hW).top Br dr (hs_r.below' hW).top o Ao co (hr_o.below' hW).top hc1 hs1 hl1 hd1 ha1 hb1 ho1) Xg7) ?_;rintro _ w18 ⟨A47,c47,A48,c48,mq45,A49,c49,A50,c50,A51,c51,A52,c52,rfl,ho47,ho48,hd48,hq45,ho49,ho50,ho51,ho52,hE⟩
 replace ho47:=ho47.lower hW.size
 replace ho48:=ho48.lower hW.size
 replace ho49:=ho49.lower hW.size
 replace ho50:=ho50.lower hW.size
 replace ho51:=ho51.lower hW.size
 replace ho52:=ho52.lower hW.size
 replace hB10:=hB10.below hE
 replace hB11:=hB11.below hE
 replace hB12:=hB12.below hE
 replace hB41:=hB41.below hE
 replace hB45:=hB45.below hE
 replace ho39:=ho39.below hE
 replace ho43:=ho43.below hE
 replace hd_l:=hd_l.below hE
 replace hW:=btr hW hE
 refine Zf (Xa (zs:=[vi 0,.slice none 0 0,.slice none 0 0,vi 0,.slice none 0 0,.slice none 0 0,.slice none 0 0,vi 0,.slice none 0 0]) Xlu rfl) ?_;rintro _ w19 ⟨b59,rfl,hl59,hE,hB59⟩
 have hlo59:=Nat.le_trans hW.size hl59
 replace hB10:=hB10.below hE
 replace hB11:=hB11.below hE
 replace hB12:=hB12.below hE
 replace hB41:=hB41.below hE
 replace hB45:=hB45.below hE
 replace ho39:=ho39.below hE
 replace ho43:=ho43.below hE
 replace ho47:=ho47.below hE
 replace ho48:=ho48.below hE
 replace ho49:=ho49.below hE
 replace ho50:=ho50.below hE
 replace ho51:=ho51.below hE
 replace ho52:=ho52.below hE
 replace hd_l:=hd_l.below hE
 replace hd48:=hd48.below hE
 replace hW:=btr hW hE
 refine Zo (Vw [vi c.n,.slice A47 c.gs.length c47,.slice A48 mq45.length c48,vi d.n,.slice A49 d.gs.length c49,.slice A50 r.st.length c50,.slice A51 r.steps.length c51,vi o.n,.slice A52 o.gs.length c52] Xk4 hB59) ?_;rintro _ w20 ⟨ho,hb⟩
 have hold:=hB59
 replace hB10:=hB10.only ho (Blk.ne hB10 hold rfl)
 replace hB11:=hB11.only ho (Blk.ne hB11 hold rfl)
 replace hB12:=hB12.only ho (Blk.ne hB12 hold rfl)
 replace hB41:=hB41.only ho (Blk.ne hB41 hold rfl)
 replace hB45:=hB45.only ho (Blk.ne hB45 hold rfl)
 replace ho39:=ho39.onlyT ho hold rfl
 replace ho43:=ho43.onlyT ho hold rfl
 replace ho47:=ho47.onlyT ho hold rfl
 replace ho48:=ho48.onlyT ho hold rfl
 replace ho49:=ho49.onlyT ho hold rfl
 replace ho50:=ho50.onlyT ho hold rfl
 replace ho51:=ho51.onlyT ho hold rfl
 replace ho52:=ho52.onlyT ho hold rfl
 replace hd_l:=hd_l.only ho hlo59
 replace hd48:=hd48.onlyT ho hold rfl
 replace hW:=Below.only hW ho hlo59
 clear hold
 have hB59:=hb
 clear hb ho
 refine Zt hK46 fun a hf=>?_
 refine Zs hf fun _ hK60=>?_
 refine Ze (Vn X1k hB41)<|Ze (Vn X0c hB45)<|Ze (Vn Xdr hB59) ?_
 refine Zf (Vc (F39 _ g A39 c39 ho39.rd.top e A43 c43 ho43.rd.top c A47 c47 ho47.rd.top ho47.cap A48 c48 mq45 ho48.rd.top hd48.top d A49 c49 ho49.rd.top ho49.cap r A50 c50 ho50.rd.top ho50.cap A51 c51 ho51.rd.top o A52 c52 ho52.rd.top hg1 he1 hc1 (X3z hq45 hs1 hl1).1 (X3z hq45 hs1 hl1).2 hd1 ha1 hb1 ho1) Xp2) ?_;rintro _ w21 ⟨rfl,hE⟩
 replace hB10:=hB10.below hE
 replace hB11:=hB11.below hE
 replace hB12:=hB12.below hE
 replace hB41:=hB41.below hE
 replace hB45:=hB45.below hE
 replace hB59:=hB59.below hE
 replace ho39:=ho39.below hE
 replace ho43:=ho43.below hE
 replace ho47:=ho47.below hE
 replace ho48:=ho48.below hE
 replace ho49:=ho49.below hE
 replace ho50:=ho50.below hE
 replace ho51:=ho51.below hE
 replace ho52:=ho52.below hE
 replace hd_l:=hd_l.below hE
 replace hd48:=hd48.below hE
 replace hW:=btr hW hE
 refine Zm rfl<|Ze (X6 (vs:=[vi ((ccI g e c (mq45.map Sr.rp) d r o).1),.bool ((ccI g e c (mq45.map Sr.rp) d r o).2)]) rfl rfl)<|Ze (X6 (vs:=[vi ((ccI g e c (mq45.map Sr.rp) d r o).1),.bool ((ccI g e c (mq45.map Sr.rp) d r o).2)]) rfl rfl)<|Za rfl<|Za rfl ?_
 refine Zt hK60 fun a hf=>?_
 refine wp_seq_k fun _ hK61=>?_
 refine wp_seq_k fun _ hK62=>?_
 refine X06 (fun a w=>Fr a 76 [(3,.pointer (some ⟨b10,0,none⟩)),(4,.pointer (some ⟨b11,0,none⟩)),(5,.pointer (some ⟨b12,0,none⟩)),(10,.pointer (some ⟨b41,0,none⟩)),(11,.pointer (some ⟨b45,0,none⟩)),(12,.pointer (some ⟨b59,0,none⟩)),(60,.bool ((((ccI g e c (mq45.map Sr.rp) d r o).1) != ((ccS g e c (mq36.map Sr.rp) d r o).1))||(((ccI g e c (mq45.map Sr.rp) d r o).2) != ((ccS g e c (mq36.map Sr.rp) d r o).2))))]∧w21=w) ?_ ?_
 ·refine Zr hf ?_
  refine Zm rfl<|Zm rfl<|Ze (X1g rfl rfl)<|Zm rfl ?_
  refine Zg 56 rfl (fun hg63=>?_) (fun hg63=>?_)
  ·refine Zp ⟨_,_,rfl,rfl,hg63⟩ ?_
   refine Zp ⟨_,_,rfl,rfl,hg63⟩ ?_
   refine Zp ⟨_,_,rfl,rfl,hg63⟩ ?_
   refine Ze (X9 rfl hg63 rfl) ?_
   refine Zn fun a hf=>?_
   exact ⟨hf.sub ⟨rfl,rfl,rfl,rfl,rfl,rfl,X1 rfl (by first|rfl|(simp only [hc17b,hc22b,hc27b,hg63,bs];done)|simp [hc17b,hc22b,hc27b,hg63]),trivial⟩,rfl⟩
  refine Zv ⟨_,_,rfl,rfl,hg63⟩ (X8 rfl) ?_
  refine Zv ⟨_,_,rfl,rfl,hg63⟩ (X8 rfl) ?_
  refine Zv ⟨_,_,rfl,rfl,hg63⟩ (Xfx Tryz.underlying4 rfl rfl) ?_
  refine Ze (X7 rfl hg63 rfl) ?_
  refine Zn fun a hf=>?_
  exact ⟨hf.sub ⟨rfl,rfl,rfl,rfl,rfl,rfl,X1 rfl (by first|rfl|(simp only [hc17b,hc22b,hc27b,hg63,bs];done)|simp [hc17b,hc22b,hc27b,hg63]),trivial⟩,rfl⟩
 rintro a _ ⟨hf,rfl⟩
 refine hK62 _ _ ?_
 refine Xb hf rfl (fun hc64=>?_) (fun hc64=>?_)
 ·have hc64b:=hc64
  rw [hq36,hq45,Xom] at hc64;simp at hc64
 have hc64b:=hc64
 refine wp_skip ?_
 refine hK61 _ _ ?_
 refine wp_seq_k fun _ hK65=>?_
 refine wp_seq_k fun _ hK66=>?_
 refine X05 none (fun _=>false) mixed ?_
 intro w22 hE
 replace hB10:=hB10.below hE
 replace hB11:=hB11.below hE
 replace hB12:=hB12.below hE
 replace hB41:=hB41.below hE
 replace hB45:=hB45.below hE
 replace hB59:=hB59.below hE
 replace ho39:=ho39.below hE
 replace ho43:=ho43.below hE
 replace ho47:=ho47.below hE
 replace ho48:=ho48.below hE
 replace ho49:=ho49.below hE
 replace ho50:=ho50.below hE
 replace ho51:=ho51.below hE
 replace ho52:=ho52.below hE
 replace hd_l:=hd_l.below hE
 replace hd48:=hd48.below hE
 replace hW:=btr hW hE
 refine Yb hf ?_
 refine Ye 0 rfl (Vn X1k hB41)<|Ye 1 rfl (Vn Xd7 hB10) ?_
 refine Y1 2 ?_
 refine Yk rfl trivial (Vc (F37 _ g Ag cg (hr_g.below' hW).top hg1) Xgy) (fun _ _ ⟨A67,c67,_,ho67,hE⟩=>hE) ?_;rintro _ w23 ⟨A67,c67,rfl,ho67,hE⟩
 replace ho67:=ho67.lower hW.size
 replace hB10:=hB10.below hE
 replace hB11:=hB11.below hE
 replace hB12:=hB12.below hE
 replace hB41:=hB41.below hE
 replace hB45:=hB45.below hE
 replace hB59:=hB59.below hE
 replace ho39:=ho39.below hE
 replace ho43:=ho43.below hE
 replace ho47:=ho47.below hE
 replace ho48:=ho48.below hE
 replace ho49:=ho49.below hE
 replace ho50:=ho50.below hE
 replace ho51:=ho51.below hE
 replace ho52:=ho52.below hE
 replace hd_l:=hd_l.below hE
 replace hd48:=hd48.below hE
 replace hW:=btr hW hE
 refine Y1 3 ?_
 refine Yk rfl trivial (Vc (F40 _ g A39 c39 ho39.rd.top g A67 c67 ho67.rd.top (Nat.le_trans hg1 (by decide))) Xpm) (fun _ _ ⟨_,hE⟩=>hE) ?_;rintro _ w24 ⟨rfl,hE⟩
 replace hB10:=hB10.below hE
 replace hB11:=hB11.below hE
 replace hB12:=hB12.below hE
 replace hB41:=hB41.below hE
 replace hB45:=hB45.below hE
 replace hB59:=hB59.below hE
 replace ho39:=ho39.below hE
 replace ho43:=ho43.below hE
 replace ho47:=ho47.below hE
 replace ho48:=ho48.below hE
 replace ho49:=ho49.below hE
 replace ho50:=ho50.below hE
 replace ho51:=ho51.below hE
 replace ho52:=ho52.below hE
 replace ho67:=ho67.below hE
 replace hd_l:=hd_l.below hE
 replace hd48:=hd48.below hE
 replace hW:=btr hW hE
 refine Yo 4 rfl (fun _=>X09 rfl) ?_
 refine Yd fun a hf=>?_
 refine hK66 _ _ ?_
 refine Xb hf rfl (fun hc68=>?_) (fun hc68=>?_)
 ·have hc68b:=hc68
  simp at hc68
 have hc68b:=hc68
 refine wp_skip ?_
 refine hK65 _ _ ?_
 refine wp_seq_k fun _ hK69=>?_
 refine wp_seq_k fun _ hK70=>?_
 refine X05 none (fun _=>false) mixed ?_
 intro w25 hE
 replace hB11:=hB11.below hE
 replace hB12:=hB12.below hE
 replace hB45:=hB45.below hE
 replace hB59:=hB59.below hE
 replace ho43:=ho43.below hE
 replace ho47:=ho47.below hE
 replace ho48:=ho48.below hE
 replace ho49:=ho49.below hE
 replace ho50:=ho50.below hE
 replace ho51:=ho51.below hE
 replace ho52:=ho52.below hE
 replace hd_l:=hd_l.below hE
 replace hd48:=hd48.below hE
 replace hW:=btr hW hE
 refine Yb hf ?_
 refine Ye 0 rfl (Vn X0c hB45)<|Ye 1 rfl (Vn X55 hB11) ?_
 refine Y1 2 ?_
 refine Yk rfl trivial (Vc (F16 _ e Ae ce (hr_e.below' hW).top he1) X99) (fun _ _ ⟨A71,c71,_,ho71,hE⟩=>hE) ?_;rintro _ w26 ⟨A71,c71,rfl,ho71,hE⟩
 replace ho71:=ho71.lower hW.size
 replace hB11:=hB11.below hE
 replace hB12:=hB12.below hE
 replace hB45:=hB45.below hE
 replace hB59:=hB59.below hE
 replace ho43:=ho43.below hE
 replace ho47:=ho47.below hE
 replace ho48:=ho48.below hE
 replace ho49:=ho49.below hE
 replace ho50:=ho50.below hE
 replace ho51:=ho51.below hE
 replace ho52:=ho52.below hE
 replace hd_l:=hd_l.below hE
 replace hd48:=hd48.below hE
 replace hW:=btr hW hE
 refine Y1 3 ?_
 refine Yk rfl trivial (Vc (F19 _ e A43 c43 ho43.rd.top e A71 c71 ho71.rd.top (Nat.le_trans he1 (by decide))) Xdk) (fun _ _ ⟨_,hE⟩=>hE) ?_;rintro _ w27 ⟨rfl,hE⟩
 replace hB11:=hB11.below hE
 replace hB12:=hB12.below hE
 replace hB45:=hB45.below hE
 replace hB59:=hB59.below hE
 replace ho43:=ho43.below hE
 replace ho47:=ho47.below hE
 replace ho48:=ho48.below hE
 replace ho49:=ho49.below hE
 replace ho50:=ho50.below hE
 replace ho51:=ho51.below hE
 replace ho52:=ho52.below hE
 replace ho71:=ho71.below hE
 replace hd_l:=hd_l.below hE
 replace hd48:=hd48.below hE
 replace hW:=btr hW hE
 refine Yo 4 rfl (fun _=>X09 rfl) ?_
 refine Yd fun a hf=>?_
 refine hK70 _ _ ?_
 refine Xb hf rfl (fun hc72=>?_) (fun hc72=>?_)
 ·have hc72b:=hc72
  simp [eqC] at hc72
 have hc72b:=hc72
 refine wp_skip ?_
 refine hK69 _ _ ?_
 refine wp_seq_k fun _ hK73=>?_
 refine wp_seq_k fun _ hK74=>?_
 refine X05 none (fun _=>false) mixed ?_
 intro w28 hE
 replace hB12:=hB12.below hE
 replace hB59:=hB59.below hE
 replace ho47:=ho47.below hE
 replace ho48:=ho48.below hE
 replace ho49:=ho49.below hE
 replace ho50:=ho50.below hE
 replace ho51:=ho51.below hE
 replace ho52:=ho52.below hE
 replace hd_l:=hd_l.below hE
 replace hd48:=hd48.below hE
 replace hW:=btr hW hE
 refine Yb hf ?_
 refine Ye 0 rfl (Vn Xdr hB59)<|Ye 1 rfl (Vn Xdz hB12) ?_
 refine Y1 2 ?_
 refine Yk rfl trivial (Vc (F38 _ c Ac cc (hr_c.below' hW).top Al cl l (hr_l.below' hW).top hd_l.top d Ad cd (hr_d.below' hW).top r Ar cr (hr_r.below' hW).top Br dr (hs_r.below' hW).top o Ao co (hr_o.below' hW).top hc1 hs1 hl1 hd1 ha1 hb1 ho1) Xg7) (fun _ _ ⟨A75,c75,A76,c76,mq73,A77,c77,A78,c78,A79,c79,A80,c80,_,ho75,ho76,hd76,hq73,ho77,ho78,ho79,ho80,hE⟩=>hE) ?_;rintro _ w29 ⟨A75,c75,A76,c76,mq73,A77,c77,A78,c78,A79,c79,A80,c80,rfl,ho75,ho76,hd76,hq73,ho77,ho78,ho79,ho80,hE⟩
 replace ho75:=ho75.lower hW.size
 replace ho76:=ho76.lower hW.size
 replace ho77:=ho77.lower hW.size
 replace ho78:=ho78.lower hW.size
 replace ho79:=ho79.lower hW.size
 replace ho80:=ho80.lower hW.size
 replace hB12:=hB12.below hE
 replace hB59:=hB59.below hE
 replace ho47:=ho47.below hE
 replace ho48:=ho48.below hE
 replace ho49:=ho49.below hE
 replace ho50:=ho50.below hE
 replace ho51:=ho51.below hE
 replace ho52:=ho52.below hE
 replace hd_l:=hd_l.below hE
 replace hd48:=hd48.below hE
 replace hW:=btr hW hE
 refine Y1 3 ?_
 refine Yk rfl trivial (Vc (F41 _ c A47 c47 ho47.rd.top A48 c48 mq45 ho48.rd.top hd48.top d A49 c49 ho49.rd.top r A50 c50 ho50.rd.top ho50.cap A51 c51 ho51.rd.top o A52 c52 ho52.rd.top c A75 c75 ho75.rd.top A76 c76 mq73 ho76.rd.top hd76.top d A77 c77 ho77.rd.top r A78 c78 ho78.rd.top ho78.cap A79 c79 ho79.rd.top o A80 c80 ho80.rd.top (Nat.le_trans hc1 (by decide)) (Nat.le_trans (X3z hq45 hs1 hl1).1 (by decide)) (fun s hs=>⟨Nat.le_trans ((X3z hq45 hs1 hl1).2 s hs).1 (by decide),Nat.le_trans ((X3z hq45 hs1 hl1).2 s hs).2 (by decide)⟩) (Nat.le_trans hd1 (by decide)) (Nat.le_trans ha1 (by decide)) (Nat.le_trans hb1 (by decide)) (Nat.le_trans ho1 (by decide))) Xq7) (fun _ _ ⟨_,hE⟩=>hE) ?_;rintro _ w30 ⟨rfl,hE⟩
 replace hB12:=hB12.below hE
 replace hB59:=hB59.below hE
 replace ho47:=ho47.below hE
 replace ho48:=ho48.below hE
 replace ho49:=ho49.below hE
 replace ho50:=ho50.below hE
 replace ho51:=ho51.below hE
 replace ho52:=ho52.below hE
 replace ho75:=ho75.below hE
 replace ho76:=ho76.below hE
 replace ho77:=ho77.below hE
 replace ho78:=ho78.below hE
 replace ho79:=ho79.below hE
 replace ho80:=ho80.below hE
 replace hd_l:=hd_l.below hE
 replace hd48:=hd48.below hE
 replace hd76:=hd76.below hE
 replace hW:=btr hW hE
 refine Yo 4 rfl (fun _=>X09 rfl) ?_
 refine Yd fun a hf=>?_
 refine hK74 _ _ ?_
 refine Xb hf rfl (fun hc81=>?_) (fun hc81=>?_)
 ·have hc81b:=hc81
  rw [hq45,hq73] at hc81;simp [eqC] at hc81
 have hc81b:=hc81
 refine wp_skip ?_
 refine hK73 _ _ ?_
 refine Zs hf fun _ hK82=>?_
 refine Za rfl ?_
 refine Zt hK82 fun a hf=>?_
 refine wp_ret (X2 hf (Xh hf rfl rfl) ?_)
 exact ⟨rfl,hW⟩
end Go.Proofs.YtfgnmflfiobkmaaGreat
namespace Go.Proofs.YtfgnmflfiobkmaaGreat
open Go.RowKit Go.ChangeShapes Go.WideShapes Go.Deep Go.Joins
theorem X63{α:Type}{n:Nat}{Q:Nat→α→Prop}(h:∀ i,i<n→∃ g,Q i g) : ∃ l:List α,l.length=n∧∀ i g,l[i]? = some g→Q i g:=by
 induction n with
 | zero=>exact ⟨[],rfl,fun i g h=>by simp at h⟩
 | succ n ih=>
  obtain ⟨l,h1,h2⟩:=ih fun i hi=>h i (by omega)
  obtain ⟨g,hg⟩:=h n (by omega)
  refine ⟨l++[g],by simp [h1],fun i g' hi=>?_⟩
  rcases Nat.lt_or_ge i n with hin|hin
  ·rw [List.getElem?_append_left (by omega)] at hi
   exact h2 i g' hi
  ·rw [List.getElem?_append_right (by omega)] at hi
   have:i-l.length=0:=by
    rcases Nat.eq_zero_or_pos (i-l.length) with h|h
    ·exact h
    ·rw [List.getElem?_eq_none (by simp;omega)] at hi;cases hi
   rw [this] at hi
   injection hi with hi
   subst hi
   have:i=n:=by omega
   subst this
   exact hg
theorem X2s{α:Type}{w:World}{enc:α→List Value}{sz:Nat}(hsz:∀ x,(enc x).length=sz)(h0:0<sz){p:Addr}{l:List α}
  (h:∀ i g,l[i]? = some g→∀ j v,(enc g)[j]? = some v→w.cell? (p.add (i*sz+j))=some v) : ∃ E,Rd w w.heap.size E enc (some p) l:=by
 by_cases hl:l=[]
 ·subst hl;exact ⟨0,Rd.nil _ _ _ _ _⟩
 ·obtain ⟨g0,l',rfl⟩:=List.exists_cons_of_ne_nil hl
  obtain ⟨v0,hv0⟩ : ∃ v,(enc g0)[0]? = some v:=⟨_,List.getElem?_eq_getElem (by rw [hsz];exact h0)⟩
  have hc:=h 0 g0 rfl 0 v0 hv0
  obtain ⟨b,off,spot⟩:=p
  have hb:=Xdd hc
  rw [X5c] at hb
  have hsp:spot=none:=by
   cases spot with
   | none=>rfl
   | some s=>simp [World.cell?,Addr.add] at hc;split at hc<;>simp_all
  subst hsp
  have hobj:∃ cs E fz,w.heap[b]? = some (.cells cs E fz):=by
   rw [X1q] at hc
   simp only [World.cell?] at hc
   split at hc
   ·rename_i c E fz hh;exact ⟨c,E,fz,hh⟩
   ·cases hc
  obtain ⟨cs,E,fz,hh⟩:=hobj
  refine ⟨E,fun _=>⟨b,off,cs,fz,rfl,hb,hh,fun j v hj=>?_⟩⟩
  have hjl:j<((g0::l').flatMap enc).length:=(List.getElem?_eq_some_iff.1 hj).1
  rw [X00 hsz] at hjl
  obtain ⟨x,hx,h1⟩:=X6x hsz hjl
  rw [h1] at hj
  have:=h _ _ hx _ _ hj
  rw [X1q,show j/sz*sz+j % sz=j from by rw [Nat.mul_comm];exact Nat.div_add_mod j sz] at this
  simpa [World.cell?,hh] using this
section
variable {H : Type} {enc : TypeId × Value → H} {w : World} {base fuel : Nat} {spare : Nat → Bool} {held : Bool}
theorem Xhp{α:Type}{l:List α}(h:l.length=3) : ∃ a b c,l=[a,b,c]:=by
 match l,h with
 | [a,b,c],_=>exact ⟨a,b,c,rfl⟩
theorem Xbl:Tryz.prog.cellsOf 134=3:=by kernel_rfl
theorem X5g:Tryz.prog.cellsOf 3=1:=by kernel_rfl
theorem Xe5{cs:List Value}{x:DataW H×List MemPlace}(h:DataW.trod enc Tryz.prog w base spare held fuel 134 cs=some x) : ∃ g:Gt,cs=encG g:=by
 obtain ⟨y0,y1,y2,n,_,hl,h0,h1,h2⟩:=trod_struct3 Tryz.underlying134 h
 rw [Xbl] at hl
 obtain ⟨c0,c1,c2,rfl⟩:=Xhp hl
 simp only [X5g] at h0 h1 h2
 obtain ⟨a,e0,_⟩:=DataW.trod_int Tryz.underlying3 h0
 obtain ⟨b,e1,_⟩:=DataW.trod_int Tryz.underlying3 h1
 obtain ⟨c,e2,_⟩:=DataW.trod_int Tryz.underlying3 h2
 simp at e0 e1 e2
 exact ⟨⟨a,b,c⟩,by rw [e0,e1,e2];rfl⟩
set_option maxRecDepth 100000 in
theorem X5b{cs:List Value}{x:DataW H×List MemPlace}(h:DataW.trod enc Tryz.prog w base spare held fuel 22 cs=some x)(hsp:∀ b,spare b=true) :
  ∃ A l c E,cs=[.slice A l.length c]∧Rd w w.heap.size E encG A l∧l.length≤9223372036854775807:=by
 rcases open_slice Tryz.underlying22 h with ⟨hcs,_⟩|⟨a,len,cap,m,n,D,Pl,hcs,hb,hl,hm,hmm,_,hi⟩
 ·exact ⟨none,[],0,0,hcs,Rd.nil _ _ _ _ _,by simp⟩
 ·rw [Xbl] at hi
  have hlm:len≤m:=by rw [hmm,hsp];simpa using hl
  obtain ⟨l,h1,h2⟩:=X63 (n:=len) (Q:=fun i g=>∀ j v,(encG g)[j]? = some v→w.cell? (a.add (i*3+j))=some v) fun i hilt=>by
   obtain ⟨cs',hc,ht⟩:=hi i (by omega)
   obtain ⟨g,rfl⟩:=Xe5 ht
   obtain ⟨_,_,hat⟩:=World.cells?_some hc
   refine ⟨g,fun j v hj=>?_⟩
   have hj3:j<3:=by have:=(List.getElem?_eq_some_iff.1 hj).1;simpa [encG] using this
   rw [← X23,hat j hj3]
   exact hj
  obtain ⟨E,hr⟩:=X2s Xq (by decide) h2
  refine ⟨some a,l,cap,E,by rw [hcs,h1],hr,?_⟩
  simp only [maxLen] at hm
  omega
end
end Go.Proofs.YtfgnmflfiobkmaaGreat
namespace Go.Proofs.YtfgnmflfiobkmaaGreat
open Go.RowKit Go.ChangeShapes Go.WideShapes Go.Deep Go.Joins
section
variable {H : Type} {enc : TypeId × Value → H} {w : World} {base fuel : Nat} {spare : Nat → Bool} {held : Bool}
theorem Xcv:Tryz.prog.cellsOf 24=3:=by kernel_rfl
theorem Xct:Tryz.prog.cellsOf 22=1:=by kernel_rfl
theorem X9z:Tryz.prog.cellsOf 35=2:=by kernel_rfl
theorem Xjf:Tryz.prog.cellsOf 52=1:=by kernel_rfl
theorem Xe4:Tryz.prog.cellsOf 54=5:=by kernel_rfl
theorem Xe7{cs:List Value}{x:DataW H×List MemPlace}(h:DataW.trod enc Tryz.prog w base spare held fuel 24 cs=some x)(hsp:∀ b,spare b=true) :
  ∃ s:Sr,cs=encSr s∧((∃ E,Rd w w.heap.size E encG s.A s.old)∧∃ E,Rd w w.heap.size E encG s.B s.new)∧s.old.length≤9223372036854775807∧s.new.length≤9223372036854775807:=by
 obtain ⟨y0,y1,y2,n,_,hl,h0,h1,h2⟩:=trod_struct3 Tryz.underlying24 h
 rw [Xcv] at hl
 obtain ⟨c0,c1,c2,rfl⟩:=Xhp hl
 simp only [X5g] at h0
 simp only [Xct] at h1 h2
 obtain ⟨a,e0,_⟩:=DataW.trod_int Tryz.underlying3 h0
 obtain ⟨A,l,c,E1,e1,hr1,hl1⟩:=X5b h1 hsp
 obtain ⟨B,k,d,E2,e2,hr2,hl2⟩:=X5b h2 hsp
 simp at e0 e1 e2
 exact ⟨⟨a,A,c,l,B,d,k⟩,by rw [e0,e1,e2];rfl,⟨⟨E1,hr1⟩,⟨E2,hr2⟩⟩,hl1,hl2⟩
set_option maxRecDepth 100000 in
theorem Xc5{cs:List Value}{x:DataW H×List MemPlace}(h:DataW.trod enc Tryz.prog w base spare held fuel 52 cs=some x)(hsp:∀ b,spare b=true) :
  ∃ A l c E,cs=[.slice A l.length c]∧Rd w w.heap.size E encSr A l∧DeepX w w.heap.size l∧l.length≤9223372036854775807∧∀ s ∈ l,s.old.length≤9223372036854775807∧s.new.length≤9223372036854775807:=by
 rcases open_slice Tryz.underlying52 h with ⟨hcs,_⟩|⟨a,len,cap,m,n,D,Pl,hcs,hb,hl,hm,hmm,_,hi⟩
 ·exact ⟨none,[],0,0,hcs,Rd.nil _ _ _ _ _,fun s hs=>by simp at hs,by simp,fun s hs=>by simp at hs⟩
 ·rw [Xcv] at hi
  have hlm:len≤m:=by rw [hmm,hsp];simpa using hl
  obtain ⟨l,h1,h2⟩:=X63 (n:=len) (Q:=fun i (g:Sr)=>(∀ j v,(encSr g)[j]? = some v→w.cell? (a.add (i*3+j))=some v)∧((∃ E,Rd w w.heap.size E encG g.A g.old)∧∃ E,Rd w w.heap.size E encG g.B g.new)∧g.old.length≤9223372036854775807∧g.new.length≤9223372036854775807) fun i hilt=>by
   obtain ⟨cs',hc,ht⟩:=hi i (by omega)
   obtain ⟨g,rfl,hd,hg⟩:=Xe7 ht hsp
   obtain ⟨_,_,hat⟩:=World.cells?_some hc
   refine ⟨g,fun j v hj=>?_,hd,hg⟩
   have hj3:j<3:=by have:=(List.getElem?_eq_some_iff.1 hj).1;simpa [encSr] using this
   rw [← X23,hat j hj3]
   exact hj
  obtain ⟨E,hr⟩:=X2s X1w (by decide) fun i g hg=>(h2 i g hg).1
  have hin:∀ s ∈ l,∃ i,l[i]? = some s:=fun s hs=>List.getElem?_of_mem hs
  refine ⟨some a,l,cap,E,by rw [hcs,h1],hr,fun s hs=>?_,?_,fun s hs=>?_⟩
  ·obtain ⟨i,hi⟩:=hin s hs
   exact (h2 i s hi).2.1
  ·simp only [maxLen] at hm
   omega
  ·obtain ⟨i,hi⟩:=hin s hs
   exact (h2 i s hi).2.2
set_option maxRecDepth 100000 in
theorem X2v{cs:List Value}{x:DataW H×List MemPlace}(h:DataW.trod enc Tryz.prog w base spare held fuel 35 cs=some x)(hsp:∀ b,spare b=true) :
  ∃ (c:Cx) (A:Option Addr) (k:Nat) (E:TypeId),cs=[.int .i64 c.n,.slice A c.gs.length k]∧Rd w w.heap.size E encG A c.gs∧c.gs.length≤9223372036854775807:=by
 obtain ⟨y0,y1,n,_,hl,h0,h1⟩:=trod_struct2 Tryz.underlying35 h
 rw [X9z] at hl
 match cs,hl with
 | [c0,c1],_=>
  simp only [X5g] at h0
  simp only [Xct] at h1
  obtain ⟨a,e0,_⟩:=DataW.trod_int Tryz.underlying3 h0
  obtain ⟨A,l,c,E1,e1,hr1,hl1⟩:=X5b h1 hsp
  simp at e0 e1
  exact ⟨⟨a,l⟩,A,c,E1,by rw [e0,e1],hr1,hl1⟩
end
end Go.Proofs.YtfgnmflfiobkmaaGreat
namespace Go.Proofs.YtfgnmflfiobkmaaGreat
open Go.RowKit Go.ChangeShapes Go.WideShapes Go.Deep Go.Joins
section
variable {H : Type} {enc : TypeId × Value → H} {w : World} {base fuel : Nat} {spare : Nat → Bool} {held : Bool}
set_option maxRecDepth 100000 in
theorem Xev{cs:List Value}{x:DataW H×List MemPlace}(h:DataW.trod enc Tryz.prog w base spare held fuel 36 cs=some x)(hsp:∀ b,spare b=true) :
  ∃ A l c E,cs=[.slice A l.length c]∧Rd w w.heap.size E encI A l∧l.length≤9223372036854775807:=by
 rcases open_slice Tryz.underlying36 h with ⟨hcs,_⟩|⟨a,len,cap,m,n,D,Pl,hcs,hb,hl,hm,hmm,_,hi⟩
 ·exact ⟨none,[],0,0,hcs,Rd.nil _ _ _ _ _,by simp⟩
 ·rw [X5g] at hi
  have hlm:len≤m:=by rw [hmm,hsp];simpa using hl
  obtain ⟨l,h1,h2⟩:=X63 (n:=len) (Q:=fun i g=>∀ j v,(encI g)[j]? = some v→w.cell? (a.add (i*1+j))=some v) fun i hilt=>by
   obtain ⟨cs',hc,ht⟩:=hi i (by omega)
   obtain ⟨g,rfl,_⟩:=DataW.trod_int Tryz.underlying3 ht
   obtain ⟨_,_,hat⟩:=World.cells?_some hc
   refine ⟨g,fun j v hj=>?_⟩
   have hj3:j<1:=by have:=(List.getElem?_eq_some_iff.1 hj).1;simpa [encI] using this
   rw [← X23,hat j hj3]
   exact hj
  obtain ⟨E,hr⟩:=X2s Xz (by decide) h2
  refine ⟨some a,l,cap,E,by rw [hcs,h1],hr,?_⟩
  simp only [maxLen] at hm
  omega
end
end Go.Proofs.YtfgnmflfiobkmaaGreat
namespace Go.Proofs.YtfgnmflfiobkmaaGreat
open Go.ChangeShapes Go.WideShapes Go.ChangeAt Go.RowKit Go.Deep Go.Joins
set_option linter.unusedVariables false
theorem own:ownKnob Tryz.prog.godebug=none:=by kernel_rfl
theorem X9l:laidOutB Tryz.prog=true:=by kernel_rfl
section
variable {H : Type} {enc : TypeId × Value → H} {P : Program}
theorem Xcp{f:Func}{s:ChangeSpec}{fresh handsOn:Bool}{W W':World}{args:Array Value}{v:Value}{ds gs:List (DataW H)}{before pa pv:List MemPlace}
  (hW:DataW.Whole enc P f.params.toList s.vars false W args.toList ds gs before)
  (hres:∀ (b:Nat) (sp:Nat→Bool) (hd:Bool),DataW.TrodAll enc P W' b sp hd f.resultTypes.toList (v.resultList f.resultTypes.size) (s.fn H (ds++gs)).results [])
  (hargs:∀ sp:Nat→Bool,(∀ p ∈ before,sp p.block=true)→DataW.TrodAll enc P W' 0 sp true f.params.toList args.toList (s.fn H (ds++gs)).args pa)
  (hvars:∀ sp:Nat→Bool,(∀ p ∈ before,sp p.block=true)→DataW.TrodVars enc P W' sp s.vars (s.fn H (ds++gs)).vars pv)
  (hps:before=pa++pv) (hb:Below W.heap.size W W') :
  s.post enc P f false fresh handsOn false W args v W':=by
 have hlt:∀ p ∈ before,p.block<W.heap.size:=fun p hp=>hW.lt p hp
 have hold:∀ p ∈ before,(fun b=>decide (b<W.heap.size)) p.block=true:=fun p hp=>by simpa using hlt p hp
 refine ⟨ds,gs,before,[],pa,pv,hW,hres _ _ _,hargs _ hold,hvars _ hold,World.keptBut_mono (fun p hp=>⟨hp,?_⟩) (hb.frame (· ∈ before)),fun h=>by cases h⟩
 rw [hps,List.mem_append] at hp
 exact Or.inr hp
end
set_option maxRecDepth 100000 in
theorem Xeu{H:Type}{enc:TypeId×Value→H}{w:World}{base b0:Nat}{spare:Nat→Bool}{held:Bool}{r:Reach}{v:Value}{d:DataW H}{p:List MemPlace}(hv:Value.okWide Tryz.prog w r b0 35 v)(h:DataW.Trod enc Tryz.prog w base spare held 35 v d p)(hsp:∀ b,spare b=true) :
  ∃ (c:Cx) (A:Option Addr) (k:Nat) (E:TypeId),v=.agg #[.int .i64 c.n,.slice A c.gs.length k]∧Rd w w.heap.size E encG A c.gs∧c.gs.length≤9223372036854775807:=by
 obtain ⟨⟨cs⟩,rfl,hsz⟩:=okWide_struct Tryz.underlying35 hv
 obtain ⟨fuel,hf⟩:=h
 obtain ⟨c,A,k,E,e0,hr,hl⟩:=X2v hf hsp
 simp [Value.cells] at e0
 exact ⟨c,A,k,E,by rw [e0],hr,hl⟩
end Go.Proofs.YtfgnmflfiobkmaaGreat
namespace Go.Proofs.YtfgnmflfiobkmaaGreat
open Go.RowKit Go.ChangeShapes Go.WideShapes Go.Deep Go.Joins
section
variable {H : Type} {enc : TypeId × Value → H} {w : World} {base fuel : Nat} {spare : Nat → Bool} {held : Bool}
theorem Xb6:Tryz.prog.cellsOf 166=2:=by kernel_rfl
theorem Xat:Tryz.prog.cellsOf 210=3:=by kernel_rfl
theorem Xio:Tryz.prog.cellsOf 66=1:=by kernel_rfl
theorem Xjc:Tryz.prog.cellsOf 69=1:=by kernel_rfl
theorem Xjn:Tryz.prog.cellsOf 36=1:=by kernel_rfl
theorem Xin:Tryz.prog.cellsOf 68=2:=by kernel_rfl
theorem Xde:Tryz.prog.cellsOf 71=2:=by kernel_rfl
theorem Xj1:Tryz.prog.cellsOf 73=9:=by kernel_rfl
set_option maxRecDepth 100000 in
theorem Xee{cs:List Value}{x:DataW H×List MemPlace}(h:DataW.trod enc Tryz.prog w base spare held fuel 166 cs=some x) : ∃ g:Ed,cs=encE g:=by
 obtain ⟨y0,y1,n,_,hl,h0,h1⟩:=trod_struct2 Tryz.underlying166 h
 rw [Xb6] at hl
 match cs,hl with
 | [c0,c1],_=>
  simp only [X5g] at h0 h1
  obtain ⟨a,e0,_⟩:=DataW.trod_int Tryz.underlying3 h0
  obtain ⟨b,e1,_⟩:=DataW.trod_int Tryz.underlying3 h1
  simp at e0 e1
  exact ⟨⟨a,b⟩,by rw [e0,e1];rfl⟩
set_option maxRecDepth 100000 in
theorem Xeo{cs:List Value}{x:DataW H×List MemPlace}(h:DataW.trod enc Tryz.prog w base spare held fuel 210 cs=some x) : ∃ g:Gt,cs=encG g:=by
 obtain ⟨y0,y1,y2,n,_,hl,h0,h1,h2⟩:=trod_struct3 Tryz.underlying210 h
 rw [Xat] at hl
 obtain ⟨c0,c1,c2,rfl⟩:=Xhp hl
 simp only [X5g] at h0 h1 h2
 obtain ⟨a,e0,_⟩:=DataW.trod_int Tryz.underlying3 h0
 obtain ⟨b,e1,_⟩:=DataW.trod_int Tryz.underlying3 h1
 obtain ⟨c,e2,_⟩:=DataW.trod_int Tryz.underlying3 h2
 simp at e0 e1 e2
 exact ⟨⟨a,b,c⟩,by rw [e0,e1,e2];rfl⟩
set_option maxRecDepth 100000 in
theorem Xcm{cs:List Value}{x:DataW H×List MemPlace}(h:DataW.trod enc Tryz.prog w base spare held fuel 66 cs=some x)(hsp:∀ b,spare b=true) :
  ∃ (A:Option Addr) (l:List Ed) (c:Nat) (E:TypeId),cs=[.slice A l.length c]∧Rd w w.heap.size E encE A l∧l.length≤9223372036854775807:=by
 rcases open_slice Tryz.underlying66 h with ⟨hcs,_⟩|⟨a,len,cap,m,n,D,Pl,hcs,hb,hl,hm,hmm,_,hi⟩
 ·exact ⟨none,[],0,0,hcs,Rd.nil _ _ _ _ _,by simp⟩
 ·rw [Xb6] at hi
  have hlm:len≤m:=by rw [hmm,hsp];simpa using hl
  obtain ⟨l,h1,h2⟩:=X63 (n:=len) (Q:=fun i g=>∀ j v,(encE g)[j]? = some v→w.cell? (a.add (i*2+j))=some v) fun i hilt=>by
   obtain ⟨cs',hc,ht⟩:=hi i (by omega)
   obtain ⟨g,rfl⟩:=Xee ht
   obtain ⟨_,_,hat⟩:=World.cells?_some hc
   refine ⟨g,fun j v hj=>?_⟩
   have hj3:j<2:=by have:=(List.getElem?_eq_some_iff.1 hj).1;simpa [encE] using this
   rw [← X23,hat j hj3]
   exact hj
  obtain ⟨E,hr⟩:=X2s X19 (by decide) h2
  refine ⟨some a,l,cap,E,by rw [hcs,h1],hr,?_⟩
  simp only [maxLen] at hm
  omega
set_option maxRecDepth 100000 in
theorem Xai{cs:List Value}{x:DataW H×List MemPlace}(h:DataW.trod enc Tryz.prog w base spare held fuel 69 cs=some x)(hsp:∀ b,spare b=true) :
  ∃ (A:Option Addr) (l:List Gt) (c:Nat) (E:TypeId),cs=[.slice A l.length c]∧Rd w w.heap.size E encG A l∧l.length≤9223372036854775807:=by
 rcases open_slice Tryz.underlying69 h with ⟨hcs,_⟩|⟨a,len,cap,m,n,D,Pl,hcs,hb,hl,hm,hmm,_,hi⟩
 ·exact ⟨none,[],0,0,hcs,Rd.nil _ _ _ _ _,by simp⟩
 ·rw [Xat] at hi
  have hlm:len≤m:=by rw [hmm,hsp];simpa using hl
  obtain ⟨l,h1,h2⟩:=X63 (n:=len) (Q:=fun i g=>∀ j v,(encG g)[j]? = some v→w.cell? (a.add (i*3+j))=some v) fun i hilt=>by
   obtain ⟨cs',hc,ht⟩:=hi i (by omega)
   obtain ⟨g,rfl⟩:=Xeo ht
   obtain ⟨_,_,hat⟩:=World.cells?_some hc
   refine ⟨g,fun j v hj=>?_⟩
   have hj3:j<3:=by have:=(List.getElem?_eq_some_iff.1 hj).1;simpa [encG] using this
   rw [← X23,hat j hj3]
   exact hj
  obtain ⟨E,hr⟩:=X2s Xq (by decide) h2
  refine ⟨some a,l,cap,E,by rw [hcs,h1],hr,?_⟩
  simp only [maxLen] at hm
  omega
set_option maxRecDepth 100000 in
theorem Xb4{cs:List Value}{x:DataW H×List MemPlace}(h:DataW.trod enc Tryz.prog w base spare held fuel 71 cs=some x)(hsp:∀ b,spare b=true) :
  ∃ (r:Ro) (A:Option Addr) (i:Nat) (E:TypeId) (B:Option Addr) (j:Nat) (F:TypeId),cs=[.slice A r.st.length i,.slice B r.steps.length j]∧Rd w w.heap.size E encI A r.st∧Rd w w.heap.size F encG B r.steps∧r.st.length≤9223372036854775807∧r.steps.length≤9223372036854775807:=by
 obtain ⟨y0,y1,n,_,hl,h0,h1⟩:=trod_struct2 Tryz.underlying71 h
 rw [Xde] at hl
 match cs,hl with
 | [c0,c1],_=>
  simp only [Xjn] at h0
  simp only [Xjc] at h1
  obtain ⟨A,l,i,E,e0,hr0,hl0⟩:=Xev h0 hsp
  obtain ⟨B,m,j,F,e1,hr1,hl1⟩:=Xai h1 hsp
  simp at e0 e1
  exact ⟨⟨l,m⟩,A,i,E,B,j,F,by rw [e0,e1],hr0,hr1,hl0,hl1⟩
set_option maxRecDepth 100000 in
theorem Xbw{r:Reach}{b0:Nat}{v:Value}{d:DataW H}{p:List MemPlace}(hv:Value.okWide Tryz.prog w r b0 68 v)(h:DataW.Trod enc Tryz.prog w base spare held 68 v d p)(hsp:∀ b,spare b=true) :
  ∃ (g:Gp) (A:Option Addr) (k:Nat) (E:TypeId),v=.agg #[.int .i64 g.n,.slice A g.es.length k]∧Rd w w.heap.size E encE A g.es∧g.es.length≤9223372036854775807:=by
 obtain ⟨⟨cs⟩,rfl,hsz⟩:=okWide_struct Tryz.underlying68 hv
 rw [Xin] at hsz
 obtain ⟨fuel,hf⟩:=h
 obtain ⟨y0,y1,n,_,hl,h0,h1⟩:=trod_struct2 Tryz.underlying68 hf
 match cs,hsz with
 | [c0,c1],_=>
  simp only [X5g] at h0
  simp only [Xio] at h1
  obtain ⟨a,e0,_⟩:=DataW.trod_int Tryz.underlying3 h0
  obtain ⟨A,l,k,E,e1,hr,hl1⟩:=Xcm h1 hsp
  simp [Value.cells] at e0 e1
  exact ⟨⟨a,l⟩,A,k,E,by rw [e0,e1],hr,hl1⟩
set_option maxRecDepth 100000 in
theorem Xcj{cs:List Value}{x:DataW H×List MemPlace}(h:DataW.trod enc Tryz.prog w base spare held fuel 54 cs=some x)(hsp:∀ b,spare b=true) :
  ∃ (c:Cx) (A:Option Addr) (i:Nat) (E:TypeId) (B:Option Addr) (l:List Sr) (j:Nat) (F:TypeId) (e:Cx) (C:Option Addr) (k:Nat) (G:TypeId),
   cs=[.int .i64 c.n,.slice A c.gs.length i,.slice B l.length j,.int .i64 e.n,.slice C e.gs.length k]∧Rd w w.heap.size E encG A c.gs∧Rd w w.heap.size F encSr B l∧DeepX w w.heap.size l∧Rd w w.heap.size G encG C e.gs∧
   c.gs.length≤9223372036854775807∧l.length≤9223372036854775807∧(∀ s ∈ l,s.old.length≤9223372036854775807∧s.new.length≤9223372036854775807)∧e.gs.length≤9223372036854775807:=by
 obtain ⟨y0,y1,y2,n,_,hl,h0,h1,h2⟩:=trod_struct3 Tryz.underlying54 h
 rw [Xe4] at hl
 match cs,hl with
 | [c0,c1,c2,c3,c4],_=>
  simp only [X9z] at h0 h2
  simp only [Xjf] at h1
  obtain ⟨c,A,i,E,e0,hr0,hl0⟩:=X2v h0 hsp
  obtain ⟨B,l,j,F,e1,hr1,hd1,hl1,hll⟩:=Xc5 h1 hsp
  obtain ⟨e,C,k,G,e2,hr2,hl2⟩:=X2v h2 hsp
  simp at e0 e1 e2
  refine ⟨c,A,i,E,B,l,j,F,e,C,k,G,?_,hr0,hr1,hd1,hr2,hl0,hl1,hll,hl2⟩
  rw [e0.1,e0.2,e1,e2.1,e2.2]
set_option maxRecDepth 100000 in
theorem Xex{r:Reach}{b0:Nat}{v:Value}{d:DataW H}{p:List MemPlace}(hv:Value.okWide Tryz.prog w r b0 73 v)(h:DataW.Trod enc Tryz.prog w base spare held 73 v d p)(hsp:∀ b,spare b=true) :
  ∃ (c:Cx) (A:Option Addr) (i:Nat) (E:TypeId) (B:Option Addr) (l:List Sr) (j:Nat) (F:TypeId) (e:Cx) (C:Option Addr) (k:Nat) (G:TypeId) (q:Ro) (A1:Option Addr) (i1:Nat) (E1:TypeId) (B1:Option Addr) (j1:Nat) (F1:TypeId) (o:Cx) (C1:Option Addr) (k1:Nat) (G1:TypeId),
   v=.agg #[.int .i64 c.n,.slice A c.gs.length i,.slice B l.length j,.int .i64 e.n,.slice C e.gs.length k,.slice A1 q.st.length i1,.slice B1 q.steps.length j1,.int .i64 o.n,.slice C1 o.gs.length k1]∧Rd w w.heap.size E encG A c.gs∧Rd w w.heap.size F encSr B l∧DeepX w w.heap.size l∧Rd w w.heap.size G encG C e.gs∧
   Rd w w.heap.size E1 encI A1 q.st∧Rd w w.heap.size F1 encG B1 q.steps∧Rd w w.heap.size G1 encG C1 o.gs∧
   c.gs.length≤9223372036854775807∧l.length≤9223372036854775807∧(∀ s ∈ l,s.old.length≤9223372036854775807∧s.new.length≤9223372036854775807)∧e.gs.length≤9223372036854775807∧q.st.length≤9223372036854775807∧q.steps.length≤9223372036854775807∧o.gs.length≤9223372036854775807:=by
 obtain ⟨⟨cs⟩,rfl,hsz⟩:=okWide_struct Tryz.underlying73 hv
 rw [Xj1] at hsz
 obtain ⟨fuel,hf⟩:=h
 obtain ⟨y0,y1,y2,n,_,hl,h0,h1,h2⟩:=trod_struct3 Tryz.underlying73 hf
 match cs,hsz with
 | [c0,c1,c2,c3,c4,c5,c6,c7,c8],_=>
  simp only [Xe4] at h0
  simp only [Xde] at h1
  simp only [X9z] at h2
  obtain ⟨c,A,i,E,B,l,j,F,e,C,k,G,e0,hr0,hr1,hd1,hr2,hl0,hl1,hll,hl2⟩:=Xcj h0 hsp
  obtain ⟨q,A1,i1,E1,B1,j1,F1,e1,hr3,hr4,hl3,hl4⟩:=Xb4 h1 hsp
  obtain ⟨o,C1,k1,G1,e2,hr5,hl5⟩:=X2v h2 hsp
  simp [Value.cells] at e0 e1 e2
  refine ⟨c,A,i,E,B,l,j,F,e,C,k,G,q,A1,i1,E1,B1,j1,F1,o,C1,k1,G1,?_,hr0,hr1,hd1,hr2,hr3,hr4,hr5,hl0,hl1,hll,hl2,hl3,hl4,hl5⟩
  obtain ⟨rfl,rfl,rfl,rfl,rfl⟩:=e0
  obtain ⟨rfl,rfl⟩:=e1
  obtain ⟨rfl,rfl⟩:=e2
  rfl
end
end Go.Proofs.YtfgnmflfiobkmaaGreat
namespace Go.Proofs.YtfgnmflfiobkmaaGreat
open Go.ChangeShapes Go.WideShapes Go.ChangeAt Go.RowKit Go.Deep Go.Joins
set_option linter.unusedVariables false
set_option maxRecDepth 100000 in
theorem Xbb(os:Os)(started:os.Started)(H:Type)(enc:TypeId×Value→H) :
  ReturnsInHanded {} Tryz.checked os 8 .any (Rows.fnExactCheckCompiledSpec.pre6 enc Tryz.prog Tryz.f8 Rows.fnExactCheckCompiledRow.domain false) (Rows.fnExactCheckCompiledSpec.post enc Tryz.prog Tryz.f8 false true false false):=by
 refine returnsInHanded_of_change (C:=Tryz.checked) own started (by kernel_rfl) Tryz.func8
  (ChangeSpec.witness6 (enc:=enc) (C:=Tryz.checked) false ⟨#[],#[.agg #[.int .i64 0,.slice none 0 0],.agg #[.int .i64 0,.slice none 0 0],.agg #[.int .i64 0,.slice none 0 0,.slice none 0 0,.int .i64 0,.slice none 0 0,.slice none 0 0,.slice none 0 0,.int .i64 0,.slice none 0 0]],[]⟩ 8 (by kernel_rfl) (by kernel_rfl) (by kernel_rfl) (by kernel_rfl)) ?_
 intro W base args ds gs before hval0 hW hcnd _
 have hval:∀ (j:Nat) t v,Tryz.f8.params[j]? = some t→args[j]? = some v→Value.okWide Tryz.prog W .any base t v:=hval0
 have hW':=hW
 obtain ⟨p,q,hA0,hV,rfl,hfz,hnd⟩:=hW
 have hA:DataW.TrodAll enc Tryz.prog W 0 (fun _=>true) true Tryz.f8.params.toList args.toList ds p:=hA0
 rw [Tryz.params8] at hA hval
 obtain ⟨v0,v1,v2,d0,d1,d2,p0,p1,p2,rfl,rfl,rfl,h0,h1,h2⟩:=trodAll_three hA
 obtain ⟨rfl,rfl⟩:=trodVars_none hV
 have h0k:=h0
 have h1k:=h1
 have h2k:=h2
 obtain ⟨g,A,i,E,rfl,hr0,hl0⟩:=Xbw (hval 0 68 v0 rfl rfl) h0 (fun _=>rfl)
 obtain ⟨e,B,j,F,rfl,hr1,hl1⟩:=Xeu (hval 1 35 v1 rfl rfl) h1 (fun _=>rfl)
 obtain ⟨c,A2,i2,E2,B2,l,j2,F2,d,C2,k2,G2,r,A3,i3,E3,B3,j3,F3,o,C3,k3,G3,rfl,hr2,hr3,hr4,hr5,hr6,hr7,hr8,hl2,hl3,hl4,hl5,hl6,hl7,hl8⟩:=Xex (hval 2 73 v2 rfl rfl) h2 (fun _=>rfl)
 clear hA0 hval0
 simp only [List.append_nil] at hW'
 have hlt:∀ x ∈ p0++(p1++p2),x.block<W.heap.size:=fun x hx=>hW'.lt x (by simpa using hx)
 refine Calls.mono (F8 W g A i hr0 e B j hr1 c A2 i2 hr2 B2 j2 l hr3 hr4 d C2 k2 hr5 r A3 i3 hr6 B3 j3 hr7 o C3 k3 hr8 hl0 hl1 hl2 hl3 hl4 hl5 hl6 hl7 hl8) fun r W' ⟨v,he,hv,hb⟩=>?_
 subst hv
 refine ⟨_,he,Xcp (pa:=p0++(p1++p2)) (pv:=[]) hW' (fun _ _ _=>trodAll_mk1 (shut_bool Tryz.underlying4 true)) (fun sp hsp=>?_) (fun _ _=>rfl) (by simp) hb⟩
 exact trodAll_mk3 (WideElems.Trod_stays X9l (by kernel_rfl) (of_decide_eq_true (by kernel_rfl)) h0k (fun x hx=>hb.same (hlt x (List.mem_append_left _ hx))) (fun x hx=>hsp x (by simp [hx])))
  (WideElems.Trod_stays X9l (by kernel_rfl) (of_decide_eq_true (by kernel_rfl)) h1k (fun x hx=>hb.same (hlt x (List.mem_append_right _ (List.mem_append_left _ hx)))) (fun x hx=>hsp x (by simp [hx])))
  (WideElems.Trod_stays X9l (by kernel_rfl) (of_decide_eq_true (by kernel_rfl)) h2k (fun x hx=>hb.same (hlt x (List.mem_append_right _ (List.mem_append_right _ hx)))) (fun x hx=>hsp x (by simp [hx])))
theorem comp_holds:Rows.FnExactCheckCompiledSaid:=
 OpenClaim.holds_of_wide 8 Tryz.f8 rfl rfl rfl rfl rfl rfl rfl ⟨rfl,rfl,rfl,rfl,rfl⟩ rfl rfl rfl rfl rfl (by kernel_rfl) Tryz.func8 (by kernel_rfl)
  (of_decide_eq_true (by kernel_rfl)) (by unfold Func.isWrapper;first|(rw [if_pos (by decide +kernel)];kernel_rfl)|(rw [if_neg (by decide +kernel)];exact ⟨rfl,rfl⟩))
  (fun os started H enc _=>Xbb os started H enc)
end Go.Proofs.YtfgnmflfiobkmaaGreat
