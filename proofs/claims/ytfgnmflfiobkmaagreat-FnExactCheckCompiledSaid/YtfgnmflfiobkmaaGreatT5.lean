/-
  The walks and laws of CheckCompiled, in short rules said of every frame.
-/
import Derived.Test.YtfgnmflfiobkmaaGreatT4
set_option linter.unusedVariables false
set_option linter.unusedSimpArgs false
set_option maxRecDepth 4000
namespace Go.Proofs.YtfgnmflfiobkmaaGreat
open Go.RowKit
theorem F73(w0:World){X_l:TypeId}(Al:Option Addr)(cl:Nat)(l:List Ed)(hr_l:Rd w0 w0.heap.size X_l encE Al l)(t:Int)(ht:0≤t∧t≤1048576)(hln:l.length≤9223372036854775807) : Ret Tryz.prog 73 [.slice Al l.length cl,vi t] w0 (fun v w=>v=vi (szn l.length t)∧w0=w):=by
 refine enter Tryz.func73 rfl 12 rfl rfl ?_
 intro a hf
 have hW:Below w0.heap.size w0 w0:=Below.refl _ _
 refine Zs hf fun _ hK2=>?_
 refine Za rfl ?_
 refine Zt hK2 fun a hf=>?_
 refine Zs hf fun _ hK3=>?_
 refine Zm rfl<|Zm rfl<|Ze (X0d rfl Xd0)<|Ze (X11 rfl rfl (by omega) (by omega))<|Za rfl ?_
 refine Zt hK3 fun a hf=>?_
 refine wp_seq_k fun _ hK4=>?_
 refine Zs hf fun _ hK5=>?_
 refine Zm rfl<|Ze (X0m rfl rfl) ?_
 refine Zt hK5 fun a hf=>?_
 refine Xb hf rfl (fun hc6=>?_) (fun hc6=>?_)
 ·have hc6b:=hc6
  have hc6:=of_decide_eq_true hc6
  have hfin:szn l.length t = -1:=by rw [szn,if_pos hc6]
  refine Zs hf fun _ hK7=>?_
  refine Za rfl ?_
  refine Zt hK7 fun a hf=>?_
  refine wp_ret ?_
  refine X3 ?_
  refine X2 hf (Xh hf rfl rfl) ?_
  exact ⟨by rw [hfin],rfl⟩
 have hc6b:=hc6
 have hc6:=of_decide_eq_false hc6
 have hfin:szn l.length t=t-(l.length:Int):=by rw [szn,if_neg hc6]
 refine wp_skip ?_
 refine hK4 _ _ ?_
 refine Zs hf fun _ hK8=>?_
 refine Zm rfl<|Za rfl ?_
 refine Zt hK8 fun a hf=>?_
 refine wp_ret (X2 hf (Xh hf rfl rfl) ?_)
 exact ⟨by rw [hfin],rfl⟩
theorem Xs9(w0:World){X_l:TypeId}(Al:Option Addr)(cl:Nat)(l:List Int)(hr_l:Rd w0 w0.heap.size X_l encI Al l)(t:Int)(ht:0≤t∧t≤1048576)(hln:l.length≤9223372036854775807) : Ret Tryz.prog 114 [.slice Al l.length cl,vi t] w0 (fun v w=>v=vi (szn l.length t)∧w0=w):=by
 refine enter Tryz.func114 rfl 12 rfl rfl ?_
 intro a hf
 have hW:Below w0.heap.size w0 w0:=Below.refl _ _
 refine Zs hf fun _ hK2=>?_
 refine Za rfl ?_
 refine Zt hK2 fun a hf=>?_
 refine Zs hf fun _ hK3=>?_
 refine Zm rfl<|Zm rfl<|Ze (X0d rfl X0b)<|Ze (X11 rfl rfl (by omega) (by omega))<|Za rfl ?_
 refine Zt hK3 fun a hf=>?_
 refine wp_seq_k fun _ hK4=>?_
 refine Zs hf fun _ hK5=>?_
 refine Zm rfl<|Ze (X0m rfl rfl) ?_
 refine Zt hK5 fun a hf=>?_
 refine Xb hf rfl (fun hc6=>?_) (fun hc6=>?_)
 ·have hc6b:=hc6
  have hc6:=of_decide_eq_true hc6
  have hfin:szn l.length t = -1:=by rw [szn,if_pos hc6]
  refine Zs hf fun _ hK7=>?_
  refine Za rfl ?_
  refine Zt hK7 fun a hf=>?_
  refine wp_ret ?_
  refine X3 ?_
  refine X2 hf (Xh hf rfl rfl) ?_
  exact ⟨by rw [hfin],rfl⟩
 have hc6b:=hc6
 have hc6:=of_decide_eq_false hc6
 have hfin:szn l.length t=t-(l.length:Int):=by rw [szn,if_neg hc6]
 refine wp_skip ?_
 refine hK4 _ _ ?_
 refine Zs hf fun _ hK8=>?_
 refine Zm rfl<|Za rfl ?_
 refine Zt hK8 fun a hf=>?_
 refine wp_ret (X2 hf (Xh hf rfl rfl) ?_)
 exact ⟨by rw [hfin],rfl⟩
theorem Xrh(w0:World){X_l:TypeId}(Al:Option Addr)(cl:Nat)(l:List Gt)(hr_l:Rd w0 w0.heap.size X_l encG Al l)(t:Int)(ht:0≤t∧t≤1048576)(hln:l.length≤9223372036854775807) : Ret Tryz.prog 115 [.slice Al l.length cl,vi t] w0 (fun v w=>v=vi (szn l.length t)∧w0=w):=by
 refine enter Tryz.func115 rfl 12 rfl rfl ?_
 intro a hf
 have hW:Below w0.heap.size w0 w0:=Below.refl _ _
 refine Zs hf fun _ hK2=>?_
 refine Za rfl ?_
 refine Zt hK2 fun a hf=>?_
 refine Zs hf fun _ hK3=>?_
 refine Zm rfl<|Zm rfl<|Ze (X0d rfl Xdb)<|Ze (X11 rfl rfl (by omega) (by omega))<|Za rfl ?_
 refine Zt hK3 fun a hf=>?_
 refine wp_seq_k fun _ hK4=>?_
 refine Zs hf fun _ hK5=>?_
 refine Zm rfl<|Ze (X0m rfl rfl) ?_
 refine Zt hK5 fun a hf=>?_
 refine Xb hf rfl (fun hc6=>?_) (fun hc6=>?_)
 ·have hc6b:=hc6
  have hc6:=of_decide_eq_true hc6
  have hfin:szn l.length t = -1:=by rw [szn,if_pos hc6]
  refine Zs hf fun _ hK7=>?_
  refine Za rfl ?_
  refine Zt hK7 fun a hf=>?_
  refine wp_ret ?_
  refine X3 ?_
  refine X2 hf (Xh hf rfl rfl) ?_
  exact ⟨by rw [hfin],rfl⟩
 have hc6b:=hc6
 have hc6:=of_decide_eq_false hc6
 have hfin:szn l.length t=t-(l.length:Int):=by rw [szn,if_neg hc6]
 refine wp_skip ?_
 refine hK4 _ _ ?_
 refine Zs hf fun _ hK8=>?_
 refine Zm rfl<|Za rfl ?_
 refine Zt hK8 fun a hf=>?_
 refine wp_ret (X2 hf (Xh hf rfl rfl) ?_)
 exact ⟨by rw [hfin],rfl⟩
theorem F34(w0:World){Xg:TypeId}(g:Gp)(Ag:Option Addr)(cg:Nat)(hr_g:Rd w0 w0.heap.size Xg encE Ag g.es)(t:Int)(ht:0≤t∧t≤1048576)(hln:g.es.length≤9223372036854775807) : Ret Tryz.prog 34 [.agg #[vi g.n,.slice Ag g.es.length cg],vi t] w0 (fun v w=>v=vi (szn g.es.length t)∧Below w0.heap.size w0 w):=by
 refine enter Tryz.func34 rfl 12 rfl rfl ?_
 intro a hf
 have hW:Below w0.heap.size w0 w0:=Below.refl _ _
 refine Zs hf fun _ hK2=>?_
 refine Zf (Xu (zs:=[vi g.n,.slice Ag g.es.length cg]) rfl rfl) ?_;rintro _ w1 ⟨b3,rfl,hl3,hE,hB3⟩
 have hlo3:=Nat.le_trans hW.size hl3
 replace hW:=btr hW hE
 refine Za rfl ?_
 refine Zt hK2 fun a hf=>?_
 refine Zs hf fun _ hK4=>?_
 refine Ze (Vd rfl Xda 1)<|Ze (X0 rfl Xkb (hB3.at 1))<|Zm rfl ?_
 refine Zf (Vc (F73 _ Ag cg g.es (hr_g.below' hW).top t ht hln) Xpz) ?_;rintro _ _ ⟨rfl,rfl⟩
 refine Za rfl ?_
 refine Zt hK4 fun a hf=>?_
 refine wp_seq_k fun _ hK5=>?_
 refine Zs hf fun _ hK6=>?_
 refine Zm rfl<|Ze (X0m rfl rfl) ?_
 refine Zt hK6 fun a hf=>?_
 refine Xb hf rfl (fun hc7=>?_) (fun hc7=>?_)
 ·have hc7b:=hc7
  have hc7:=of_decide_eq_true hc7
  have hfin:szn g.es.length t = -1:=Xcy hc7
  refine Zs hf fun _ hK8=>?_
  refine Za rfl ?_
  refine Zt hK8 fun a hf=>?_
  refine wp_ret ?_
  refine X3 ?_
  refine X2 hf (Xh hf rfl rfl) ?_
  exact ⟨by rw [hfin],hW⟩
 have hc7b:=hc7
 have hc7:=of_decide_eq_false hc7
 have hne:=hc7
 refine wp_skip ?_
 refine hK5 _ _ ?_
 refine Zs hf fun _ hK9=>?_
 refine Zm rfl<|Za rfl ?_
 refine Zt hK9 fun a hf=>?_
 refine wp_ret (X2 hf (Xh hf rfl rfl) ?_)
 exact ⟨rfl,hW⟩
theorem F74(w0:World){Xr Yr:TypeId}(r:Ro)(Ar:Option Addr)(cr:Nat)(hr_r:Rd w0 w0.heap.size Xr encI Ar r.st)(Br:Option Addr)(dr:Nat)(hs_r:Rd w0 w0.heap.size Yr encG Br r.steps)(t:Int)(ht:0≤t∧t≤1048576)(hla:r.st.length≤9223372036854775807)(hlb:r.steps.length≤9223372036854775807) : Ret Tryz.prog 74 [.agg #[.slice Ar r.st.length cr,.slice Br r.steps.length dr],vi t] w0 (fun v w=>v=vi (szO r t)∧Below w0.heap.size w0 w):=by
 refine enter Tryz.func74 rfl 18 rfl rfl ?_
 intro a hf
 have hW:Below w0.heap.size w0 w0:=Below.refl _ _
 refine Zs hf fun _ hK3=>?_
 refine Zf (Xu (zs:=[.slice Ar r.st.length cr,.slice Br r.steps.length dr]) rfl rfl) ?_;rintro _ w1 ⟨b4,rfl,hl4,hE,hB4⟩
 have hlo4:=Nat.le_trans hW.size hl4
 replace hW:=btr hW hE
 refine Za rfl ?_
 refine Zt hK3 fun a hf=>?_
 refine Zs hf fun _ hK5=>?_
 refine Ze (Vd rfl Xdl 0)<|Ze (X0 rfl X2e (hB4.at 0))<|Zm rfl ?_
 refine Zf (Vc (Xs9 _ Ar cr r.st (hr_r.below' hW).top t ht hla) Xnb) ?_;rintro _ _ ⟨rfl,rfl⟩
 refine Za rfl ?_
 refine Zt hK5 fun a hf=>?_
 refine wp_seq_k fun _ hK6=>?_
 refine Zs hf fun _ hK7=>?_
 refine Zm rfl<|Ze (X0m rfl rfl) ?_
 refine Zt hK7 fun a hf=>?_
 refine Xb hf rfl (fun hc8=>?_) (fun hc8=>?_)
 ·have hc8b:=hc8
  have hc8:=of_decide_eq_true hc8
  have hfin:szO r t = -1:=by rw [szO,if_pos hc8]
  refine Zs hf fun _ hK9=>?_
  refine Za rfl ?_
  refine Zt hK9 fun a hf=>?_
  refine wp_ret ?_
  refine X3 ?_
  refine X2 hf (Xh hf rfl rfl) ?_
  exact ⟨by rw [hfin],hW⟩
 have hc8b:=hc8
 have hc8:=of_decide_eq_false hc8
 have hne:¬ szn r.st.length t<0:=hc8
 refine wp_skip ?_
 refine hK6 _ _ ?_
 refine Zs hf fun _ hK10=>?_
 refine Ze (Vd rfl Xd2 1)<|Ze (X0 rfl Xjw (hB4.at 1))<|Zm rfl ?_
 refine Zf (Vc (Xrh _ Br dr r.steps (hs_r.below' hW).top (szn r.st.length t) (by have:=X4h hne;omega) hlb) Xl0) ?_;rintro _ _ ⟨rfl,rfl⟩
 refine Za rfl ?_
 refine Zt hK10 fun a hf=>?_
 refine wp_seq_k fun _ hK11=>?_
 refine Zs hf fun _ hK12=>?_
 refine Zm rfl<|Ze (X0m rfl rfl) ?_
 refine Zt hK12 fun a hf=>?_
 refine Xb hf rfl (fun hc13=>?_) (fun hc13=>?_)
 ·have hc13b:=hc13
  have hc13:=of_decide_eq_true hc13
  have hfin:szO r t = -1:=by rw [szO,if_neg hne];exact Xcy hc13
  refine Zs hf fun _ hK14=>?_
  refine Za rfl ?_
  refine Zt hK14 fun a hf=>?_
  refine wp_ret ?_
  refine X3 ?_
  refine X2 hf (Xh hf rfl rfl) ?_
  exact ⟨by rw [hfin],hW⟩
 have hc13b:=hc13
 have hc13:=of_decide_eq_false hc13
 have hfin:szO r t=szn r.steps.length (szn r.st.length t):=by rw [szO,if_neg hne]
 refine wp_skip ?_
 refine hK11 _ _ ?_
 refine Zs hf fun _ hK15=>?_
 refine Zm rfl<|Za rfl ?_
 refine Zt hK15 fun a hf=>?_
 refine wp_ret (X2 hf (Xh hf rfl rfl) ?_)
 exact ⟨by rw [hfin],hW⟩
theorem F35(w0:World){Xc:TypeId}(c:Cx)(Ac:Option Addr)(cc:Nat)(hr_c:Rd w0 w0.heap.size Xc encG Ac c.gs){Xl:TypeId}(Al:Option Addr)(cl:Nat)(l:List Sr)(hr_l:Rd w0 w0.heap.size Xl encSr Al l)(hd_l:DeepX w0 w0.heap.size l){Xd:TypeId}(d:Cx)(Ad:Option Addr)(cd:Nat)(hr_d:Rd w0 w0.heap.size Xd encG Ad d.gs){Xr Yr:TypeId}(r:Ro)(Ar:Option Addr)(cr:Nat)(hr_r:Rd w0 w0.heap.size Xr encI Ar r.st)(Br:Option Addr)(dr:Nat)(hs_r:Rd w0 w0.heap.size Yr encG Br r.steps){Xo:TypeId}(o:Cx)(Ao:Option Addr)(co:Nat)(hr_o:Rd w0 w0.heap.size Xo encG Ao o.gs)(t:Int)(ht:0≤t∧t≤1048576)(hlc:c.gs.length≤9223372036854775807)(hls:l.length≤9223372036854775807)(hll:∀ s ∈ l,s.old.length≤9223372036854775807∧s.new.length≤9223372036854775807)(hld:d.gs.length≤9223372036854775807)(hla:r.st.length≤9223372036854775807)(hlb:r.steps.length≤9223372036854775807)(hlo:o.gs.length≤9223372036854775807) : Ret Tryz.prog 35 [.agg #[vi c.n,.slice Ac c.gs.length cc,.slice Al l.length cl,vi d.n,.slice Ad d.gs.length cd,.slice Ar r.st.length cr,.slice Br r.steps.length dr,vi o.n,.slice Ao o.gs.length co],vi t] w0 (fun v w=>v=vi (szK c l d r o t)∧Below w0.heap.size w0 w):=by
 refine enter Tryz.func35 rfl 24 rfl rfl ?_
 intro a hf
 have hW:Below w0.heap.size w0 w0:=Below.refl _ _
 refine Zs hf fun _ hK7=>?_
 refine Zf (Xu (zs:=[vi c.n,.slice Ac c.gs.length cc,.slice Al l.length cl,vi d.n,.slice Ad d.gs.length cd,.slice Ar r.st.length cr,.slice Br r.steps.length dr,vi o.n,.slice Ao o.gs.length co]) rfl rfl) ?_;rintro _ w1 ⟨b8,rfl,hl8,hE,hB8⟩
 have hlo8:=Nat.le_trans hW.size hl8
 replace hd_l:=hd_l.below hE
 replace hW:=btr hW hE
 refine Za rfl ?_
 refine Zt hK7 fun a hf=>?_
 refine Zs hf fun _ hK9=>?_
 refine Ze (Vd rfl Xdy 0)<|Ze (Xi (l:=[vi c.n,.slice Ac c.gs.length cc,.slice Al l.length cl,vi d.n,.slice Ad d.gs.length cd]) rfl Xjr ((hB8.at 0).take 5) rfl)<|Zm rfl ?_
 refine Zf (Vc (F26 _ c Ac cc (hr_c.below' hW).top Al cl l (hr_l.below' hW).top hd_l.top d Ad cd (hr_d.below' hW).top t ht hlc hls hll hld) Xqc) ?_;rintro _ w2 ⟨rfl,hE⟩
 replace hB8:=hB8.below hE
 replace hd_l:=hd_l.below hE
 replace hW:=btr hW hE
 refine Za rfl ?_
 refine Zt hK9 fun a hf=>?_
 refine wp_seq_k fun _ hK10=>?_
 refine Zs hf fun _ hK11=>?_
 refine Zm rfl<|Ze (X0m rfl rfl) ?_
 refine Zt hK11 fun a hf=>?_
 refine Xb hf rfl (fun hc12=>?_) (fun hc12=>?_)
 ·have hc12b:=hc12
  have hc12:=of_decide_eq_true hc12
  have hfin:szK c l d r o t = -1:=by rw [szK,if_pos hc12]
  refine Zs hf fun _ hK13=>?_
  refine Za rfl ?_
  refine Zt hK13 fun a hf=>?_
  refine wp_ret ?_
  refine X3 ?_
  refine X2 hf (Xh hf rfl rfl) ?_
  exact ⟨by rw [hfin],hW⟩
 have hc12b:=hc12
 have hc12:=of_decide_eq_false hc12
 have hn1:¬ szZ c l d t<0:=hc12
 refine wp_skip ?_
 refine hK10 _ _ ?_
 refine Zs hf fun _ hK14=>?_
 refine Ze (Vd rfl Xcx 5)<|Ze (Xi (l:=[.slice Ar r.st.length cr,.slice Br r.steps.length dr]) rfl Xjs ((hB8.at 5).take 2) rfl)<|Zm rfl ?_
 refine Zf (Vc (F74 _ r Ar cr (hr_r.below' hW).top Br dr (hs_r.below' hW).top (szZ c l d t) (by have:=Xa6 ht hn1;omega) hla hlb) Xot) ?_;rintro _ w3 ⟨rfl,hE⟩
 replace hB8:=hB8.below hE
 replace hd_l:=hd_l.below hE
 replace hW:=btr hW hE
 refine Za rfl ?_
 refine Zt hK14 fun a hf=>?_
 refine wp_seq_k fun _ hK15=>?_
 refine Zs hf fun _ hK16=>?_
 refine Zm rfl<|Ze (X0m rfl rfl) ?_
 refine Zt hK16 fun a hf=>?_
 refine Xb hf rfl (fun hc17=>?_) (fun hc17=>?_)
 ·have hc17b:=hc17
  have hc17:=of_decide_eq_true hc17
  have hfin:szK c l d r o t = -1:=by rw [szK,if_neg hn1,if_pos hc17]
  refine Zs hf fun _ hK18=>?_
  refine Za rfl ?_
  refine Zt hK18 fun a hf=>?_
  refine wp_ret ?_
  refine X3 ?_
  refine X2 hf (Xh hf rfl rfl) ?_
  exact ⟨by rw [hfin],hW⟩
 have hc17b:=hc17
 have hc17:=of_decide_eq_false hc17
 have hn2:¬ szO r (szZ c l d t)<0:=hc17
 refine wp_skip ?_
 refine hK15 _ _ ?_
 refine Zs hf fun _ hK19=>?_
 refine Ze (Vd rfl Xdo 7)<|Ze (Xi (l:=[vi o.n,.slice Ao o.gs.length co]) rfl X55 ((hB8.at 7).take 2) rfl)<|Zm rfl ?_
 refine Zf (Vc (F14 _ o Ao co (hr_o.below' hW).top (szO r (szZ c l d t)) (by have:=Xa6 ht hn1;have:=Xgu hn2;omega) hlo) Xdi) ?_;rintro _ w4 ⟨rfl,hE⟩
 replace hB8:=hB8.below hE
 replace hd_l:=hd_l.below hE
 replace hW:=btr hW hE
 refine Za rfl ?_
 refine Zt hK19 fun a hf=>?_
 refine wp_seq_k fun _ hK20=>?_
 refine Zs hf fun _ hK21=>?_
 refine Zm rfl<|Ze (X0m rfl rfl) ?_
 refine Zt hK21 fun a hf=>?_
 refine Xb hf rfl (fun hc22=>?_) (fun hc22=>?_)
 ·have hc22b:=hc22
  have hc22:=of_decide_eq_true hc22
  have hfin:szK c l d r o t = -1:=by rw [szK,if_neg hn1,if_neg hn2];exact Xa3 hc22
  refine Zs hf fun _ hK23=>?_
  refine Za rfl ?_
  refine Zt hK23 fun a hf=>?_
  refine wp_ret ?_
  refine X3 ?_
  refine X2 hf (Xh hf rfl rfl) ?_
  exact ⟨by rw [hfin],hW⟩
 have hc22b:=hc22
 have hc22:=of_decide_eq_false hc22
 have hfin:szK c l d r o t=szG o.gs (szO r (szZ c l d t)):=by rw [szK,if_neg hn1,if_neg hn2]
 refine wp_skip ?_
 refine hK20 _ _ ?_
 refine Zs hf fun _ hK24=>?_
 refine Zm rfl<|Za rfl ?_
 refine Zt hK24 fun a hf=>?_
 refine wp_ret (X2 hf (Xh hf rfl rfl) ?_)
 exact ⟨by rw [hfin],hW⟩
theorem Xsw(w0:World)(x:Ed) : Ret Tryz.prog 120 [.agg #[vi x.a,vi x.b]] w0 (fun v w=>v=eV x∧Below w0.heap.size w0 w):=by
 refine enter Tryz.func120 rfl 11 rfl rfl ?_
 intro a hf
 have hW:Below w0.heap.size w0 w0:=Below.refl _ _
 refine Zs hf fun _ hK1=>?_
 refine Zf (Xu (zs:=[vi x.a,vi x.b]) rfl rfl) ?_;rintro _ w1 ⟨b2,rfl,hl2,hE,hB2⟩
 have hlo2:=Nat.le_trans hW.size hl2
 replace hW:=btr hW hE
 refine Zf (Xa (zs:=[vi 0,vi 0]) X8r rfl) ?_;rintro _ w2 ⟨b3,rfl,hl3,hE,hB3⟩
 have hlo3:=Nat.le_trans hW.size hl3
 replace hB2:=hB2.below hE
 replace hW:=btr hW hE
 refine Zt hK1 fun a hf=>?_
 refine Zs hf fun _ hK4=>?_
 refine Zf (Xa (zs:=[vi 0,vi 0]) X8r rfl) ?_;rintro _ w3 ⟨b5,rfl,hl5,hE,hB5⟩
 have hne3_5:b3≠b5:=by have:=hB3.lt;omega
 have hlo5:=Nat.le_trans hW.size hl5
 replace hB2:=hB2.below hE
 replace hB3:=hB3.below hE
 replace hW:=btr hW hE
 refine Zt hK4 fun a hf=>?_
 refine Zs hf fun _ hK6=>?_
 refine Ze (Vd rfl Xho 0)<|Ze (X0 rfl X5 (hB2.at 0))<|Ze (Vd rfl X1a 0) ?_
 refine Zo (Vu (vs:=[vi x.a]) (l':=[vi x.a,vi 0]) rfl rfl X0z hB5) ?_;rintro _ w4 ⟨ho,hb⟩
 have hold:=hB5
 replace hB2:=hB2.only ho (Blk.ne hB2 hold rfl)
 replace hB3:=hB3.only ho (by omega)
 replace hW:=Below.only hW ho hlo5
 clear hold
 have hB5:=hb
 clear hb ho
 refine Zt hK6 fun a hf=>?_
 refine Zs hf fun _ hK7=>?_
 refine Ze (Vd rfl Xgi 1)<|Ze (X0 rfl X5 (hB2.at 1))<|Ze (Vd rfl X1m 1) ?_
 refine Zo (Vu (vs:=[vi x.b]) (l':=[vi x.a,vi x.b]) rfl rfl X0z hB5) ?_;rintro _ w5 ⟨ho,hb⟩
 have hold:=hB5
 replace hB2:=hB2.only ho (Blk.ne hB2 hold rfl)
 replace hB3:=hB3.only ho (by omega)
 replace hW:=Below.only hW ho hlo5
 clear hold
 have hB5:=hb
 clear hb ho
 refine Zt hK7 fun a hf=>?_
 refine Zs hf fun _ hK8=>?_
 refine Ze (Vn X3m hB5) ?_
 refine Zo (Vw [vi x.a,vi x.b] X1x hB3) ?_;rintro _ w6 ⟨ho,hb⟩
 have hold:=hB3
 replace hB5:=hB5.only ho (by omega)
 replace hW:=Below.only hW ho hlo3
 clear hold
 have hB3:=hb
 clear hb ho
 refine Zt hK8 fun a hf=>?_
 refine wp_ret (X2 hf (Xh hf rfl (ResV.cellN (l:=[vi x.a,vi x.b]) rfl X3m (hB3.at 0) rfl)) ?_)
 exact ⟨rfl,hW⟩
theorem Xr2(w0:World)(x:Gt) : Ret Tryz.prog 160 [.agg #[vi x.k,vi x.a,vi x.b]] w0 (fun v w=>v=gV x∧Below w0.heap.size w0 w):=by
 refine enter Tryz.func160 rfl 14 rfl rfl ?_
 intro a hf
 have hW:Below w0.heap.size w0 w0:=Below.refl _ _
 refine Zs hf fun _ hK1=>?_
 refine Zf (Xu (zs:=[vi x.k,vi x.a,vi x.b]) rfl rfl) ?_;rintro _ w1 ⟨b2,rfl,hl2,hE,hB2⟩
 have hlo2:=Nat.le_trans hW.size hl2
 replace hW:=btr hW hE
 refine Zf (Xa (zs:=[vi 0,vi 0,vi 0]) X79 rfl) ?_;rintro _ w2 ⟨b3,rfl,hl3,hE,hB3⟩
 have hlo3:=Nat.le_trans hW.size hl3
 replace hB2:=hB2.below hE
 replace hW:=btr hW hE
 refine Zt hK1 fun a hf=>?_
 refine Zs hf fun _ hK4=>?_
 refine Zf (Xa (zs:=[vi 0,vi 0,vi 0]) X79 rfl) ?_;rintro _ w3 ⟨b5,rfl,hl5,hE,hB5⟩
 have hne3_5:b3≠b5:=by have:=hB3.lt;omega
 have hlo5:=Nat.le_trans hW.size hl5
 replace hB2:=hB2.below hE
 replace hB3:=hB3.below hE
 replace hW:=btr hW hE
 refine Zt hK4 fun a hf=>?_
 refine Zs hf fun _ hK6=>?_
 refine Ze (Vd rfl Xfb 0)<|Ze (X0 rfl X5 (hB2.at 0))<|Ze (Vd rfl X1c 0) ?_
 refine Zo (Vu (vs:=[vi x.k]) (l':=[vi x.k,vi 0,vi 0]) rfl rfl X0z hB5) ?_;rintro _ w4 ⟨ho,hb⟩
 have hold:=hB5
 replace hB2:=hB2.only ho (Blk.ne hB2 hold rfl)
 replace hB3:=hB3.only ho (by omega)
 replace hW:=Below.only hW ho hlo5
 clear hold
 have hB5:=hb
 clear hb ho
 refine Zt hK6 fun a hf=>?_
 refine Zs hf fun _ hK7=>?_
 refine Ze (Vd rfl Xh6 1)<|Ze (X0 rfl X5 (hB2.at 1))<|Ze (Vd rfl X1u 1) ?_
 refine Zo (Vu (vs:=[vi x.a]) (l':=[vi x.k,vi x.a,vi 0]) rfl rfl X0z hB5) ?_;rintro _ w5 ⟨ho,hb⟩
 have hold:=hB5
 replace hB2:=hB2.only ho (Blk.ne hB2 hold rfl)
 replace hB3:=hB3.only ho (by omega)
 replace hW:=Below.only hW ho hlo5
 clear hold
 have hB5:=hb
 clear hb ho
 refine Zt hK7 fun a hf=>?_
 refine Zs hf fun _ hK8=>?_
 refine Ze (Vd rfl Xfk 2)<|Ze (X0 rfl X5 (hB2.at 2))<|Ze (Vd rfl X1v 2) ?_
 refine Zo (Vu (vs:=[vi x.b]) (l':=[vi x.k,vi x.a,vi x.b]) rfl rfl X0z hB5) ?_;rintro _ w6 ⟨ho,hb⟩
 have hold:=hB5
 replace hB2:=hB2.only ho (Blk.ne hB2 hold rfl)
 replace hB3:=hB3.only ho (by omega)
 replace hW:=Below.only hW ho hlo5
 clear hold
 have hB5:=hb
 clear hb ho
 refine Zt hK8 fun a hf=>?_
 refine Zs hf fun _ hK9=>?_
 refine Ze (Vn X3b hB5) ?_
 refine Zo (Vw [vi x.k,vi x.a,vi x.b] X2h hB3) ?_;rintro _ w7 ⟨ho,hb⟩
 have hold:=hB3
 replace hB5:=hB5.only ho (by omega)
 replace hW:=Below.only hW ho hlo3
 clear hold
 have hB3:=hb
 clear hb ho
 refine Zt hK9 fun a hf=>?_
 refine wp_ret (X2 hf (Xh hf rfl (ResV.cellN (l:=[vi x.k,vi x.a,vi x.b]) rfl X3b (hB3.at 0) rfl)) ?_)
 exact ⟨rfl,hW⟩
theorem F78(w0:World){X_l:TypeId}(Al:Option Addr)(cl:Nat)(l:List Ed)(hr_l:Rd w0 w0.heap.size X_l encE Al l)(hln:l.length≤1048576) : Ret Tryz.prog 78 [.slice Al l.length cl] w0 (fun v w=>∃ A c,v=.slice A l.length c∧Own w w0.heap.size 164 2 encE A c l∧Below w0.heap.size w0 w):=by
 refine enter Tryz.func78 rfl 23 rfl rfl ?_
 intro a hf
 have hW:Below w0.heap.size w0 w0:=Below.refl _ _
 refine Zs hf fun _ hK2=>?_
 refine Za rfl ?_
 refine Zt hK2 fun a hf=>?_
 refine Zs hf fun _ hK4=>?_
 refine Zm rfl<|Ze (X0d rfl Xd0) ?_
 refine Zf (X1n (m:=l.length) (enc:=encE) (z0:=(⟨0,0⟩ : Ed)) rfl rfl X27 Xii X8r rfl X19 (by omega) (by omega)) ?_;rintro _ w1 ⟨b5,rfl,hl5,hE,hB5⟩
 have hlo5:=Nat.le_trans hW.size hl5
 replace hW:=btr hW hE
 refine Za rfl ?_
 refine Zt hK4 fun a hf=>?_
 refine wp_seq_k fun _ hK7=>?_
 refine Zs hf fun _ hK8=>?_
 refine Za rfl ?_
 refine Zt hK8 fun a hf=>?_
 refine wp_block ?_
 refine X04 (σ:=Nat×(List Ed)) (fun (s:Nat×(List Ed)) (a:Act) (w:World)=>match s with|(k,m)=>Fr a 23 [(0,.slice Al l.length cl),(3,.slice (some ⟨b5,0,none⟩) l.length l.length),(4,vi (k:Int))]∧(k≤l.length)∧(m.length=l.length)∧(m.take k=l.take k)∧Blk w b5 164 (m.flatMap encE)∧Below w0.heap.size w0 w) (fun (s:Nat×(List Ed))=>match s with|(k,m)=>l.length-k) (0,List.replicate l.length (⟨0,0⟩ : Ed)) ?_ ?_
 · exact ⟨hf.sub ⟨rfl,rfl,rfl,trivial⟩,(Nat.zero_le _),(by simp),rfl,hB5,hW⟩
 rintro ⟨k,m⟩ a w2 ⟨hf,hk,hml,hpre,hB5,hW⟩
 refine wp_seq_k fun _ hK9=>?_
 refine Zs hf fun _ hK10=>?_
 refine Zm rfl<|Zm rfl<|Ze (X0d rfl Xd0)<|Ze (X0m rfl rfl) ?_
 refine Zt hK10 fun a hf=>?_
 refine Xb hf rfl (fun hc11=>?_) (fun hc11=>?_)
 ·have hc11b:=hc11
  have hc11:=of_decide_eq_true hc11
  obtain ⟨u12,hu12⟩:=Xf (l:=l) (k:=k) (by omega)
  refine wp_skip ?_
  refine hK9 _ _ ?_
  refine wp_seq_k fun _ hK13=>?_
  refine wp_block ?_
  refine Zr hf ?_
  refine Zm rfl<|Zm rfl<|Zm rfl<|Zm rfl ?_
  refine Zi (k:=k) (u:=u12) (enc:=encE) (l:=l) trivial rfl rfl Xd0 Xkz X19 (hr_l.below' hW) hu12 rfl ?_;intro p15 hat14
  refine Ze (Xi (l:=[vi u12.a,vi u12.b]) rfl Xmf hat14 rfl) ?_
  refine Zf (Vc (Xsw _ u12) Xm0) ?_;rintro _ w3 ⟨rfl,hE⟩
  replace hB5:=hB5.below hE
  replace hW:=btr hW hE
  refine Ze (X3h (k:=k) (off:=k*2) rfl rfl X27 X1x rfl (by omega) rfl) ?_
  refine Zo (X3i (enc:=encE) (l:=m) (u:=u12) (k:=k) rfl rfl X1x hB5 X19 Xg8 rfl (by omega)) ?_;rintro _ w4 ⟨ho,hb⟩
  have hold:=hB5
  replace hW:=Below.only hW ho hlo5
  clear hold
  have hB5:=hb
  clear hb ho
  refine Zn fun a hf=>?_
  refine Xn ?_
  refine hK13 _ _ ?_
  refine Zr hf ?_
  refine Zm rfl<|Ze (Xy rfl rfl (by omega) (by omega))<|Za rfl ?_
  refine Zn fun a hf=>?_
  refine Xk ?_
  exact ⟨(k+1,(m.set k u12)),⟨hf.sub ⟨rfl,rfl,rfl,trivial⟩,(by omega),(by simp;exact hml),(X5s hpre (by omega) hu12),hB5,hW⟩,(by first|omega|(dsimp only;omega))⟩
 have hc11b:=hc11
 have hc11:=of_decide_eq_false hc11
 refine wp_exit ?_
 refine Xm ?_
 refine Xm ?_
 refine X03 ?_
 refine hK7 _ _ ?_
 refine Zs hf fun _ hK16=>?_
 refine Zm rfl<|Za rfl ?_
 refine Zt hK16 fun a hf=>?_
 refine wp_ret (X2 hf (Xh hf rfl rfl) ?_)
 have hmk:m.length=l.length:=hml
 have hmkb:l.length≤maxLen:=by simp only [maxLen];omega
 have hfin:m=l:=by rw [List.take_of_length_le (by omega),List.take_of_length_le (by omega)] at hpre;exact hpre
 have hown:=(Own.of_flat X19 hB5 hlo5 hmk hmkb)
 rw [hfin] at hown
 exact ⟨(some ⟨b5,0,none⟩),l.length,rfl,hown,hW⟩
theorem Xrn(w0:World){X_l:TypeId}(Al:Option Addr)(cl:Nat)(l:List Gt)(hr_l:Rd w0 w0.heap.size X_l encG Al l)(hln:l.length≤1048576) : Ret Tryz.prog 121 [.slice Al l.length cl] w0 (fun v w=>∃ A c,v=.slice A l.length c∧Own w w0.heap.size 161 3 encG A c l∧Below w0.heap.size w0 w):=by
 refine enter Tryz.func121 rfl 23 rfl rfl ?_
 intro a hf
 have hW:Below w0.heap.size w0 w0:=Below.refl _ _
 refine Zs hf fun _ hK2=>?_
 refine Za rfl ?_
 refine Zt hK2 fun a hf=>?_
 refine Zs hf fun _ hK4=>?_
 refine Zm rfl<|Ze (X0d rfl Xdb) ?_
 refine Zf (X1n (m:=l.length) (enc:=encG) (z0:=(⟨0,0,0⟩ : Gt)) rfl rfl X2d Xiz X79 rfl Xq (by omega) (by omega)) ?_;rintro _ w1 ⟨b5,rfl,hl5,hE,hB5⟩
 have hlo5:=Nat.le_trans hW.size hl5
 replace hW:=btr hW hE
 refine Za rfl ?_
 refine Zt hK4 fun a hf=>?_
 refine wp_seq_k fun _ hK7=>?_
 refine Zs hf fun _ hK8=>?_
 refine Za rfl ?_
 refine Zt hK8 fun a hf=>?_
 refine wp_block ?_
 refine X04 (σ:=Nat×(List Gt)) (fun (s:Nat×(List Gt)) (a:Act) (w:World)=>match s with|(k,m)=>Fr a 23 [(0,.slice Al l.length cl),(3,.slice (some ⟨b5,0,none⟩) l.length l.length),(4,vi (k:Int))]∧(k≤l.length)∧(m.length=l.length)∧(m.take k=l.take k)∧Blk w b5 161 (m.flatMap encG)∧Below w0.heap.size w0 w) (fun (s:Nat×(List Gt))=>match s with|(k,m)=>l.length-k) (0,List.replicate l.length (⟨0,0,0⟩ : Gt)) ?_ ?_
 · exact ⟨hf.sub ⟨rfl,rfl,rfl,trivial⟩,(Nat.zero_le _),(by simp),rfl,hB5,hW⟩
 rintro ⟨k,m⟩ a w2 ⟨hf,hk,hml,hpre,hB5,hW⟩
 refine wp_seq_k fun _ hK9=>?_
 refine Zs hf fun _ hK10=>?_
 refine Zm rfl<|Zm rfl<|Ze (X0d rfl Xdb)<|Ze (X0m rfl rfl) ?_
 refine Zt hK10 fun a hf=>?_
 refine Xb hf rfl (fun hc11=>?_) (fun hc11=>?_)
 ·have hc11b:=hc11
  have hc11:=of_decide_eq_true hc11
  obtain ⟨u12,hu12⟩:=Xf (l:=l) (k:=k) (by omega)
  refine wp_skip ?_
  refine hK9 _ _ ?_
  refine wp_seq_k fun _ hK13=>?_
  refine wp_block ?_
  refine Zr hf ?_
  refine Zm rfl<|Zm rfl<|Zm rfl<|Zm rfl ?_
  refine Zi (k:=k) (u:=u12) (enc:=encG) (l:=l) trivial rfl rfl Xdb Xmx Xq (hr_l.below' hW) hu12 rfl ?_;intro p15 hat14
  refine Ze (Xi (l:=[vi u12.k,vi u12.a,vi u12.b]) rfl Xmj hat14 rfl) ?_
  refine Zf (Vc (Xr2 _ u12) Xo5) ?_;rintro _ w3 ⟨rfl,hE⟩
  replace hB5:=hB5.below hE
  replace hW:=btr hW hE
  refine Ze (X3h (k:=k) (off:=k*3) rfl rfl X2d X2h rfl (by omega) rfl) ?_
  refine Zo (X3i (enc:=encG) (l:=m) (u:=u12) (k:=k) rfl rfl X2h hB5 Xq X0y rfl (by omega)) ?_;rintro _ w4 ⟨ho,hb⟩
  have hold:=hB5
  replace hW:=Below.only hW ho hlo5
  clear hold
  have hB5:=hb
  clear hb ho
  refine Zn fun a hf=>?_
  refine Xn ?_
  refine hK13 _ _ ?_
  refine Zr hf ?_
  refine Zm rfl<|Ze (Xy rfl rfl (by omega) (by omega))<|Za rfl ?_
  refine Zn fun a hf=>?_
  refine Xk ?_
  exact ⟨(k+1,(m.set k u12)),⟨hf.sub ⟨rfl,rfl,rfl,trivial⟩,(by omega),(by simp;exact hml),(X5s hpre (by omega) hu12),hB5,hW⟩,(by first|omega|(dsimp only;omega))⟩
 have hc11b:=hc11
 have hc11:=of_decide_eq_false hc11
 refine wp_exit ?_
 refine Xm ?_
 refine Xm ?_
 refine X03 ?_
 refine hK7 _ _ ?_
 refine Zs hf fun _ hK16=>?_
 refine Zm rfl<|Za rfl ?_
 refine Zt hK16 fun a hf=>?_
 refine wp_ret (X2 hf (Xh hf rfl rfl) ?_)
 have hmk:m.length=l.length:=hml
 have hmkb:l.length≤maxLen:=by simp only [maxLen];omega
 have hfin:m=l:=by rw [List.take_of_length_le (by omega),List.take_of_length_le (by omega)] at hpre;exact hpre
 have hown:=(Own.of_flat Xq hB5 hlo5 hmk hmkb)
 rw [hfin] at hown
 exact ⟨(some ⟨b5,0,none⟩),l.length,rfl,hown,hW⟩
theorem F37(w0:World){Xg:TypeId}(g:Gp)(Ag:Option Addr)(cg:Nat)(hr_g:Rd w0 w0.heap.size Xg encE Ag g.es)(hln:g.es.length≤1048576) : Ret Tryz.prog 37 [.agg #[vi g.n,.slice Ag g.es.length cg]] w0 (fun v w=>∃ A c1,v=.agg #[vi g.n,.slice A g.es.length c1]∧Own w w0.heap.size 164 2 encE A c1 g.es∧Below w0.heap.size w0 w):=by
 refine enter Tryz.func37 rfl 12 rfl rfl ?_
 intro a hf
 have hW:Below w0.heap.size w0 w0:=Below.refl _ _
 refine Zs hf fun _ hK2=>?_
 refine Zf (Xu (zs:=[vi g.n,.slice Ag g.es.length cg]) rfl rfl) ?_;rintro _ w1 ⟨b3,rfl,hl3,hE,hB3⟩
 have hlo3:=Nat.le_trans hW.size hl3
 replace hW:=btr hW hE
 refine Zf (Xa (zs:=[vi 0,.slice none 0 0]) Xln rfl) ?_;rintro _ w2 ⟨b5,rfl,hl5,hE,hB5⟩
 have hlo5:=Nat.le_trans hW.size hl5
 replace hB3:=hB3.below hE
 replace hW:=btr hW hE
 refine Zt hK2 fun a hf=>?_
 refine Zs hf fun _ hK6=>?_
 refine Zf (Xa (zs:=[vi 0,.slice none 0 0]) Xln rfl) ?_;rintro _ w3 ⟨b8,rfl,hl8,hE,hB8⟩
 have hne5_8:b5≠b8:=by have:=hB5.lt;omega
 have hlo8:=Nat.le_trans hW.size hl8
 replace hB3:=hB3.below hE
 replace hB5:=hB5.below hE
 replace hW:=btr hW hE
 refine Zt hK6 fun a hf=>?_
 refine Zs hf fun _ hK9=>?_
 refine Ze (Vd rfl Xje 0)<|Ze (X0 rfl X5 (hB3.at 0))<|Ze (Vd rfl X1t 0) ?_
 refine Zo (Vu (vs:=[vi g.n]) (l':=[vi g.n,.slice none 0 0]) rfl rfl X0z hB8) ?_;rintro _ w4 ⟨ho,hb⟩
 have hold:=hB8
 replace hB3:=hB3.only ho (Blk.ne hB3 hold rfl)
 replace hB5:=hB5.only ho (by omega)
 replace hW:=Below.only hW ho hlo8
 clear hold
 have hB8:=hb
 clear hb ho
 refine Zt hK9 fun a hf=>?_
 refine Zs hf fun _ hK10=>?_
 refine Ze (Vd rfl Xda 1)<|Ze (X0 rfl Xkb (hB3.at 1)) ?_
 refine Zf (Vc (F78 _ Ag cg g.es (hr_g.below' hW).top hln) Xq4) ?_;rintro _ w5 ⟨A11,c11,rfl,ho11,hE⟩
 replace ho11:=ho11.lower hW.size
 replace hB3:=hB3.below hE
 replace hB5:=hB5.below hE
 replace hB8:=hB8.below hE
 replace hW:=btr hW hE
 refine Ze (Vd rfl X2n 1) ?_
 refine Zo (Vu (vs:=[.slice A11 g.es.length c11]) (l':=[vi g.n,.slice A11 g.es.length c11]) rfl rfl Xpy hB8) ?_;rintro _ w6 ⟨ho,hb⟩
 have hold:=hB8
 replace hB3:=hB3.only ho (Blk.ne hB3 hold rfl)
 replace hB5:=hB5.only ho (by omega)
 replace ho11:=ho11.onlyT ho hold rfl
 replace hW:=Below.only hW ho hlo8
 clear hold
 have hB8:=hb
 clear hb ho
 refine Zt hK10 fun a hf=>?_
 refine Zs hf fun _ hK12=>?_
 refine Ze (Vn X1k hB8) ?_
 refine Zo (Vw [vi g.n,.slice A11 g.es.length c11] Xjv hB5) ?_;rintro _ w7 ⟨ho,hb⟩
 have hold:=hB5
 replace hB8:=hB8.only ho (by omega)
 replace ho11:=ho11.onlyT ho hold rfl
 replace hW:=Below.only hW ho hlo5
 clear hold
 have hB5:=hb
 clear hb ho
 refine Zt hK12 fun a hf=>?_
 refine wp_ret (X2 hf (Xh hf rfl (ResV.cellN (l:=[vi g.n,.slice A11 g.es.length c11]) rfl X1k (hB5.at 0) rfl)) ?_)
 exact ⟨A11,c11,rfl,ho11,hW⟩
theorem F79(w0:World){Xr Yr:TypeId}(r:Ro)(Ar:Option Addr)(cr:Nat)(hr_r:Rd w0 w0.heap.size Xr encI Ar r.st)(Br:Option Addr)(dr:Nat)(hs_r:Rd w0 w0.heap.size Yr encG Br r.steps)(hla:r.st.length≤1048576)(hlb:r.steps.length≤1048576) : Ret Tryz.prog 79 [.agg #[.slice Ar r.st.length cr,.slice Br r.steps.length dr]] w0 (fun v w=>∃ A1 e1 A2 e2,v=.agg #[.slice A1 r.st.length e1,.slice A2 r.steps.length e2]∧Own w w0.heap.size 3 1 encI A1 e1 r.st∧Own w w0.heap.size 161 3 encG A2 e2 r.steps∧Below w0.heap.size w0 w):=by
 refine enter Tryz.func79 rfl 13 rfl rfl ?_
 intro a hf
 have hW:Below w0.heap.size w0 w0:=Below.refl _ _
 refine Zs hf fun _ hK3=>?_
 refine Zf (Xu (zs:=[.slice Ar r.st.length cr,.slice Br r.steps.length dr]) rfl rfl) ?_;rintro _ w1 ⟨b4,rfl,hl4,hE,hB4⟩
 have hlo4:=Nat.le_trans hW.size hl4
 replace hW:=btr hW hE
 refine Zf (Xa (zs:=[.slice none 0 0,.slice none 0 0]) Xpi rfl) ?_;rintro _ w2 ⟨b7,rfl,hl7,hE,hB7⟩
 have hlo7:=Nat.le_trans hW.size hl7
 replace hB4:=hB4.below hE
 replace hW:=btr hW hE
 refine Zt hK3 fun a hf=>?_
 refine Zs hf fun _ hK8=>?_
 refine Zf (Xa (zs:=[.slice none 0 0,.slice none 0 0]) Xpi rfl) ?_;rintro _ w3 ⟨b11,rfl,hl11,hE,hB11⟩
 have hne7_11:b7≠b11:=by have:=hB7.lt;omega
 have hlo11:=Nat.le_trans hW.size hl11
 replace hB4:=hB4.below hE
 replace hB7:=hB7.below hE
 replace hW:=btr hW hE
 refine Zt hK8 fun a hf=>?_
 refine Zs hf fun _ hK12=>?_
 refine Ze (Vd rfl Xdl 0)<|Ze (X0 rfl X2e (hB4.at 0)) ?_
 refine Zf (Vc (F17 _ Ar cr r.st (hr_r.below' hW).top hla) Xol) ?_;rintro _ w4 ⟨A13,c13,rfl,ho13,hE⟩
 replace ho13:=ho13.lower hW.size
 replace hB4:=hB4.below hE
 replace hB7:=hB7.below hE
 replace hB11:=hB11.below hE
 replace hW:=btr hW hE
 refine Ze (Vd rfl X2w 0) ?_
 refine Zo (Vu (vs:=[.slice A13 r.st.length c13]) (l':=[.slice A13 r.st.length c13,.slice none 0 0]) rfl rfl Xfa hB11) ?_;rintro _ w5 ⟨ho,hb⟩
 have hold:=hB11
 replace hB4:=hB4.only ho (Blk.ne hB4 hold rfl)
 replace hB7:=hB7.only ho (by omega)
 replace ho13:=ho13.onlyT ho hold rfl
 replace hW:=Below.only hW ho hlo11
 clear hold
 have hB11:=hb
 clear hb ho
 refine Zt hK12 fun a hf=>?_
 refine Zs hf fun _ hK14=>?_
 refine Ze (Vd rfl Xd2 1)<|Ze (X0 rfl Xjw (hB4.at 1)) ?_
 refine Zf (Vc (Xrn _ Br dr r.steps (hs_r.below' hW).top hlb) Xmz) ?_;rintro _ w6 ⟨A15,c15,rfl,ho15,hE⟩
 replace ho15:=ho15.lower hW.size
 replace hB4:=hB4.below hE
 replace hB7:=hB7.below hE
 replace hB11:=hB11.below hE
 replace ho13:=ho13.below hE
 replace hW:=btr hW hE
 refine Ze (Vd rfl X2o 1) ?_
 refine Zo (Vu (vs:=[.slice A15 r.steps.length c15]) (l':=[.slice A13 r.st.length c13,.slice A15 r.steps.length c15]) rfl rfl Xqm hB11) ?_;rintro _ w7 ⟨ho,hb⟩
 have hold:=hB11
 replace hB4:=hB4.only ho (Blk.ne hB4 hold rfl)
 replace hB7:=hB7.only ho (by omega)
 replace ho13:=ho13.onlyT ho hold rfl
 replace ho15:=ho15.onlyT ho hold rfl
 replace hW:=Below.only hW ho hlo11
 clear hold
 have hB11:=hb
 clear hb ho
 refine Zt hK14 fun a hf=>?_
 refine Zs hf fun _ hK16=>?_
 refine Ze (Vn X47 hB11) ?_
 refine Zo (Vw [.slice A13 r.st.length c13,.slice A15 r.steps.length c15] Xk6 hB7) ?_;rintro _ w8 ⟨ho,hb⟩
 have hold:=hB7
 replace hB11:=hB11.only ho (by omega)
 replace ho13:=ho13.onlyT ho hold rfl
 replace ho15:=ho15.onlyT ho hold rfl
 replace hW:=Below.only hW ho hlo7
 clear hold
 have hB7:=hb
 clear hb ho
 refine Zt hK16 fun a hf=>?_
 refine wp_ret (X2 hf (Xh hf rfl (ResV.cellN (l:=[.slice A13 r.st.length c13,.slice A15 r.steps.length c15]) rfl X47 (hB7.at 0) rfl)) ?_)
 exact ⟨_,_,_,_,rfl,ho13,ho15,hW⟩
theorem F38(w0:World){Xc:TypeId}(c:Cx)(Ac:Option Addr)(cc:Nat)(hr_c:Rd w0 w0.heap.size Xc encG Ac c.gs){Xl:TypeId}(Al:Option Addr)(cl:Nat)(l:List Sr)(hr_l:Rd w0 w0.heap.size Xl encSr Al l)(hd_l:DeepX w0 w0.heap.size l){Xd:TypeId}(d:Cx)(Ad:Option Addr)(cd:Nat)(hr_d:Rd w0 w0.heap.size Xd encG Ad d.gs){Xr Yr:TypeId}(r:Ro)(Ar:Option Addr)(cr:Nat)(hr_r:Rd w0 w0.heap.size Xr encI Ar r.st)(Br:Option Addr)(dr:Nat)(hs_r:Rd w0 w0.heap.size Yr encG Br r.steps){Xo:TypeId}(o:Cx)(Ao:Option Addr)(co:Nat)(hr_o:Rd w0 w0.heap.size Xo encG Ao o.gs)(hlc:c.gs.length≤1048576)(hls:l.length≤1048576)(hll:∀ s ∈ l,s.old.length≤1048576∧s.new.length≤1048576)(hld:d.gs.length≤1048576)(hla:r.st.length≤1048576)(hlb:r.steps.length≤1048576)(hlo:o.gs.length≤1048576) : Ret Tryz.prog 38 [.agg #[vi c.n,.slice Ac c.gs.length cc,.slice Al l.length cl,vi d.n,.slice Ad d.gs.length cd,.slice Ar r.st.length cr,.slice Br r.steps.length dr,vi o.n,.slice Ao o.gs.length co]] w0 (fun v w=>∃ A1 e1 A2 e2 m A3 e3 A4 e4 A5 e5 A6 e6,v=.agg #[vi c.n,.slice A1 c.gs.length e1,.slice A2 m.length e2,vi d.n,.slice A3 d.gs.length e3,.slice A4 r.st.length e4,.slice A5 r.steps.length e5,vi o.n,.slice A6 o.gs.length e6]∧Own w w0.heap.size 107 3 encG A1 e1 c.gs∧Own w w0.heap.size 30 3 encSr A2 e2 m∧DeepR w w.heap.size 107 m∧m.map Sr.rp=l.map Sr.rp∧Own w w0.heap.size 107 3 encG A3 e3 d.gs∧Own w w0.heap.size 3 1 encI A4 e4 r.st∧Own w w0.heap.size 161 3 encG A5 e5 r.steps∧Own w w0.heap.size 107 3 encG A6 e6 o.gs∧Below w0.heap.size w0 w):=by
 refine enter Tryz.func38 rfl 17 rfl rfl ?_
 intro a hf
 have hW:Below w0.heap.size w0 w0:=Below.refl _ _
 refine Zs hf fun _ hK7=>?_
 refine Zf (Xu (zs:=[vi c.n,.slice Ac c.gs.length cc,.slice Al l.length cl,vi d.n,.slice Ad d.gs.length cd,.slice Ar r.st.length cr,.slice Br r.steps.length dr,vi o.n,.slice Ao o.gs.length co]) rfl rfl) ?_;rintro _ w1 ⟨b8,rfl,hl8,hE,hB8⟩
 have hlo8:=Nat.le_trans hW.size hl8
 replace hd_l:=hd_l.below hE
 replace hW:=btr hW hE
 refine Zf (Xa (zs:=[vi 0,.slice none 0 0,.slice none 0 0,vi 0,.slice none 0 0,.slice none 0 0,.slice none 0 0,vi 0,.slice none 0 0]) Xlu rfl) ?_;rintro _ w2 ⟨b15,rfl,hl15,hE,hB15⟩
 have hlo15:=Nat.le_trans hW.size hl15
 replace hB8:=hB8.below hE
 replace hd_l:=hd_l.below hE
 replace hW:=btr hW hE
 refine Zt hK7 fun a hf=>?_
 refine Zs hf fun _ hK16=>?_
 refine Zf (Xa (zs:=[vi 0,.slice none 0 0,.slice none 0 0,vi 0,.slice none 0 0,.slice none 0 0,.slice none 0 0,vi 0,.slice none 0 0]) Xlu rfl) ?_;rintro _ w3 ⟨b23,rfl,hl23,hE,hB23⟩
 have hne15_23:b15≠b23:=by have:=hB15.lt;omega
 have hlo23:=Nat.le_trans hW.size hl23
 replace hB8:=hB8.below hE
 replace hB15:=hB15.below hE
 replace hd_l:=hd_l.below hE
 replace hW:=btr hW hE
 refine Zt hK16 fun a hf=>?_
 refine Zs hf fun _ hK24=>?_
 refine Ze (Vd rfl Xdy 0)<|Ze (Xi (l:=[vi c.n,.slice Ac c.gs.length cc,.slice Al l.length cl,vi d.n,.slice Ad d.gs.length cd]) rfl Xjr ((hB8.at 0).take 5) rfl) ?_
 refine Zf (Vc (F28 _ c Ac cc (hr_c.below' hW).top Al cl l (hr_l.below' hW).top hd_l.top d Ad cd (hr_d.below' hW).top hlc hls hll hld) Xos) ?_;rintro _ w4 ⟨A25,c25,A26,c26,mq6,A27,c27,rfl,ho25,ho26,hd26,hq6,ho27,hE⟩
 replace ho25:=ho25.lower hW.size
 replace ho26:=ho26.lower hW.size
 replace ho27:=ho27.lower hW.size
 replace hB8:=hB8.below hE
 replace hB15:=hB15.below hE
 replace hB23:=hB23.below hE
 replace hd_l:=hd_l.below hE
 replace hW:=btr hW hE
 refine Ze (Vd rfl X2c 0) ?_
 refine Zo (Vu (vs:=[vi c.n,.slice A25 c.gs.length c25,.slice A26 mq6.length c26,vi d.n,.slice A27 d.gs.length c27]) (l':=[vi c.n,.slice A25 c.gs.length c25,.slice A26 mq6.length c26,vi d.n,.slice A27 d.gs.length c27,.slice none 0 0,.slice none 0 0,vi 0,.slice none 0 0]) rfl rfl Xk1 hB23) ?_;rintro _ w5 ⟨ho,hb⟩
 have hold:=hB23
 replace hB8:=hB8.only ho (Blk.ne hB8 hold rfl)
 replace hB15:=hB15.only ho (by omega)
 replace ho25:=ho25.onlyT ho hold rfl
 replace ho26:=ho26.onlyT ho hold rfl
 replace ho27:=ho27.onlyT ho hold rfl
 replace hd_l:=hd_l.only ho hlo23
 replace hd26:=hd26.onlyT ho hold rfl
 replace hW:=Below.only hW ho hlo23
 clear hold
 have hB23:=hb
 clear hb ho
 refine Zt hK24 fun a hf=>?_
 refine Zs hf fun _ hK28=>?_
 refine Ze (Vd rfl Xcx 5)<|Ze (Xi (l:=[.slice Ar r.st.length cr,.slice Br r.steps.length dr]) rfl Xjs ((hB8.at 5).take 2) rfl) ?_
 refine Zf (Vc (F79 _ r Ar cr (hr_r.below' hW).top Br dr (hs_r.below' hW).top hla hlb) Xq8) ?_;rintro _ w6 ⟨A29,c29,A30,c30,rfl,ho29,ho30,hE⟩
 replace ho29:=ho29.lower hW.size
 replace ho30:=ho30.lower hW.size
 replace hB8:=hB8.below hE
 replace hB15:=hB15.below hE
 replace hB23:=hB23.below hE
 replace ho25:=ho25.below hE
 replace ho26:=ho26.below hE
 replace ho27:=ho27.below hE
 replace hd_l:=hd_l.below hE
 replace hd26:=hd26.below hE
 replace hW:=btr hW hE
 refine Ze (Vd rfl X40 5) ?_
 refine Zo (Vu (vs:=[.slice A29 r.st.length c29,.slice A30 r.steps.length c30]) (l':=[vi c.n,.slice A25 c.gs.length c25,.slice A26 mq6.length c26,vi d.n,.slice A27 d.gs.length c27,.slice A29 r.st.length c29,.slice A30 r.steps.length c30,vi 0,.slice none 0 0]) rfl rfl Xk6 hB23) ?_;rintro _ w7 ⟨ho,hb⟩
 have hold:=hB23
 replace hB8:=hB8.only ho (Blk.ne hB8 hold rfl)
 replace hB15:=hB15.only ho (by omega)
 replace ho25:=ho25.onlyT ho hold rfl
 replace ho26:=ho26.onlyT ho hold rfl
 replace ho27:=ho27.onlyT ho hold rfl
 replace ho29:=ho29.onlyT ho hold rfl
 replace ho30:=ho30.onlyT ho hold rfl
 replace hd_l:=hd_l.only ho hlo23
 replace hd26:=hd26.onlyT ho hold rfl
 replace hW:=Below.only hW ho hlo23
 clear hold
 have hB23:=hb
 clear hb ho
 refine Zt hK28 fun a hf=>?_
 refine Zs hf fun _ hK31=>?_
 refine Ze (Vd rfl Xdo 7)<|Ze (Xi (l:=[vi o.n,.slice Ao o.gs.length co]) rfl X55 ((hB8.at 7).take 2) rfl) ?_
 refine Zf (Vc (F16 _ o Ao co (hr_o.below' hW).top hlo) X99) ?_;rintro _ w8 ⟨A32,c32,rfl,ho32,hE⟩
 replace ho32:=ho32.lower hW.size
 replace hB8:=hB8.below hE
 replace hB15:=hB15.below hE
 replace hB23:=hB23.below hE
 replace ho25:=ho25.below hE
 replace ho26:=ho26.below hE
 replace ho27:=ho27.below hE
 replace ho29:=ho29.below hE
 replace ho30:=ho30.below hE
 replace hd_l:=hd_l.below hE
 replace hd26:=hd26.below hE
 replace hW:=btr hW hE
 refine Ze (Vd rfl X5n 7) ?_
 refine Zo (Vu (vs:=[vi o.n,.slice A32 o.gs.length c32]) (l':=[vi c.n,.slice A25 c.gs.length c25,.slice A26 mq6.length c26,vi d.n,.slice A27 d.gs.length c27,.slice A29 r.st.length c29,.slice A30 r.steps.length c30,vi o.n,.slice A32 o.gs.length c32]) rfl rfl X1j hB23) ?_;rintro _ w9 ⟨ho,hb⟩
 have hold:=hB23
 replace hB8:=hB8.only ho (Blk.ne hB8 hold rfl)
 replace hB15:=hB15.only ho (by omega)
 replace ho25:=ho25.onlyT ho hold rfl
 replace ho26:=ho26.onlyT ho hold rfl
 replace ho27:=ho27.onlyT ho hold rfl
 replace ho29:=ho29.onlyT ho hold rfl
 replace ho30:=ho30.onlyT ho hold rfl
 replace ho32:=ho32.onlyT ho hold rfl
 replace hd_l:=hd_l.only ho hlo23
 replace hd26:=hd26.onlyT ho hold rfl
 replace hW:=Below.only hW ho hlo23
 clear hold
 have hB23:=hb
 clear hb ho
 refine Zt hK31 fun a hf=>?_
 refine Zs hf fun _ hK33=>?_
 refine Ze (Vn Xdr hB23) ?_
 refine Zo (Vw [vi c.n,.slice A25 c.gs.length c25,.slice A26 mq6.length c26,vi d.n,.slice A27 d.gs.length c27,.slice A29 r.st.length c29,.slice A30 r.steps.length c30,vi o.n,.slice A32 o.gs.length c32] Xk4 hB15) ?_;rintro _ w10 ⟨ho,hb⟩
 have hold:=hB15
 replace hB23:=hB23.only ho (by omega)
 replace ho25:=ho25.onlyT ho hold rfl
 replace ho26:=ho26.onlyT ho hold rfl
 replace ho27:=ho27.onlyT ho hold rfl
 replace ho29:=ho29.onlyT ho hold rfl
 replace ho30:=ho30.onlyT ho hold rfl
 replace ho32:=ho32.onlyT ho hold rfl
 replace hd_l:=hd_l.only ho hlo15
 replace hd26:=hd26.onlyT ho hold rfl
 replace hW:=Below.only hW ho hlo15
 clear hold
 have hB15:=hb
 clear hb ho
 refine Zt hK33 fun a hf=>?_
 refine wp_ret (X2 hf (Xh hf rfl (ResV.cellN (l:=[vi c.n,.slice A25 c.gs.length c25,.slice A26 mq6.length c26,vi d.n,.slice A27 d.gs.length c27,.slice A29 r.st.length c29,.slice A30 r.steps.length c30,vi o.n,.slice A32 o.gs.length c32]) rfl Xdr (hB15.at 0) rfl)) ?_)
 exact ⟨_,_,_,_,_,_,_,_,_,_,_,_,_,rfl,ho25,ho26,hd26.top,hq6,ho27,ho29,ho30,ho32,hW⟩
theorem Xrz(w0:World)(x:Ed)(y:Ed) : Ret Tryz.prog 126 [.agg #[vi x.a,vi x.b],.agg #[vi y.a,vi y.b]] w0 (fun v w=>v=.bool (decide (x=y))∧Below w0.heap.size w0 w):=by
 refine enter Tryz.func126 rfl 15 rfl rfl ?_
 intro a hf
 have hW:Below w0.heap.size w0 w0:=Below.refl _ _
 refine Zs hf fun _ hK1=>?_
 refine Zf (Xu (zs:=[vi x.a,vi x.b]) rfl rfl) ?_;rintro _ w1 ⟨b2,rfl,hl2,hE,hB2⟩
 have hlo2:=Nat.le_trans hW.size hl2
 replace hW:=btr hW hE
 refine Zf (Xu (zs:=[vi y.a,vi y.b]) rfl rfl) ?_;rintro _ w2 ⟨b3,rfl,hl3,hE,hB3⟩
 have hne2_3:b2≠b3:=by have:=hB2.lt;omega
 have hlo3:=Nat.le_trans hW.size hl3
 replace hB2:=hB2.below hE
 replace hW:=btr hW hE
 refine Za rfl ?_
 refine Zt hK1 fun a hf=>?_
 refine wp_seq_k fun _ hK4=>?_
 refine Zs hf fun _ hK5=>?_
 refine Ze (Vd rfl X1a 0)<|Ze (X0 rfl X5 (hB2.at 0))<|Ze (Vd rfl X1a 0)<|Ze (X0 rfl X5 (hB3.at 0))<|Ze (X1g rfl rfl) ?_
 refine Zt hK5 fun a hf=>?_
 refine Xb hf rfl (fun hc6=>?_) (fun hc6=>?_)
 ·have hc6b:=hc6
  have hne:¬ x=y:=by rintro rfl;simp at hc6
  refine Zs hf fun _ hK7=>?_
  refine Za rfl ?_
  refine Zt hK7 fun a hf=>?_
  refine wp_ret ?_
  refine X3 ?_
  refine X2 hf (Xh hf rfl rfl) ?_
  exact ⟨by simp [hne],hW⟩
 have hc6b:=hc6
 have e1:x.a=y.a:=by simpa using hc6
 refine wp_skip ?_
 refine hK4 _ _ ?_
 refine wp_seq_k fun _ hK8=>?_
 refine Zs hf fun _ hK9=>?_
 refine Ze (Vd rfl X1m 1)<|Ze (X0 rfl X5 (hB2.at 1))<|Ze (Vd rfl X1m 1)<|Ze (X0 rfl X5 (hB3.at 1))<|Ze (X1g rfl rfl) ?_
 refine Zt hK9 fun a hf=>?_
 refine Xb hf rfl (fun hc10=>?_) (fun hc10=>?_)
 ·have hc10b:=hc10
  have hne:¬ x=y:=by rintro rfl;simp at hc10
  refine Zs hf fun _ hK11=>?_
  refine Za rfl ?_
  refine Zt hK11 fun a hf=>?_
  refine wp_ret ?_
  refine X3 ?_
  refine X2 hf (Xh hf rfl rfl) ?_
  exact ⟨by simp [hne],hW⟩
 have hc10b:=hc10
 have e2:x.b=y.b:=by simpa using hc10
 refine wp_skip ?_
 refine hK8 _ _ ?_
 refine Zs hf fun _ hK12=>?_
 refine Za rfl ?_
 refine Zt hK12 fun a hf=>?_
 refine wp_ret (X2 hf (Xh hf rfl rfl) ?_)
 have he:x=y:=by cases x;cases y;simp_all
 exact ⟨by simp [he],hW⟩
theorem Xqq(w0:World)(x:Gt)(y:Gt) : Ret Tryz.prog 169 [.agg #[vi x.k,vi x.a,vi x.b],.agg #[vi y.k,vi y.a,vi y.b]] w0 (fun v w=>v=.bool (decide (x=y))∧Below w0.heap.size w0 w):=by
 refine enter Tryz.func169 rfl 20 rfl rfl ?_
 intro a hf
 have hW:Below w0.heap.size w0 w0:=Below.refl _ _
 refine Zs hf fun _ hK1=>?_
 refine Zf (Xu (zs:=[vi x.k,vi x.a,vi x.b]) rfl rfl) ?_;rintro _ w1 ⟨b2,rfl,hl2,hE,hB2⟩
 have hlo2:=Nat.le_trans hW.size hl2
 replace hW:=btr hW hE
 refine Zf (Xu (zs:=[vi y.k,vi y.a,vi y.b]) rfl rfl) ?_;rintro _ w2 ⟨b3,rfl,hl3,hE,hB3⟩
 have hne2_3:b2≠b3:=by have:=hB2.lt;omega
 have hlo3:=Nat.le_trans hW.size hl3
 replace hB2:=hB2.below hE
 replace hW:=btr hW hE
 refine Za rfl ?_
 refine Zt hK1 fun a hf=>?_
 refine wp_seq_k fun _ hK4=>?_
 refine Zs hf fun _ hK5=>?_
 refine Ze (Vd rfl X1c 0)<|Ze (X0 rfl X5 (hB2.at 0))<|Ze (Vd rfl X1c 0)<|Ze (X0 rfl X5 (hB3.at 0))<|Ze (X1g rfl rfl) ?_
 refine Zt hK5 fun a hf=>?_
 refine Xb hf rfl (fun hc6=>?_) (fun hc6=>?_)
 ·have hc6b:=hc6
  have hne:¬ x=y:=by rintro rfl;simp at hc6
  refine Zs hf fun _ hK7=>?_
  refine Za rfl ?_
  refine Zt hK7 fun a hf=>?_
  refine wp_ret ?_
  refine X3 ?_
  refine X2 hf (Xh hf rfl rfl) ?_
  exact ⟨by simp [hne],hW⟩
 have hc6b:=hc6
 have e1:x.k=y.k:=by simpa using hc6
 refine wp_skip ?_
 refine hK4 _ _ ?_
 refine wp_seq_k fun _ hK8=>?_
 refine Zs hf fun _ hK9=>?_
 refine Ze (Vd rfl X1u 1)<|Ze (X0 rfl X5 (hB2.at 1))<|Ze (Vd rfl X1u 1)<|Ze (X0 rfl X5 (hB3.at 1))<|Ze (X1g rfl rfl) ?_
 refine Zt hK9 fun a hf=>?_
 refine Xb hf rfl (fun hc10=>?_) (fun hc10=>?_)
 ·have hc10b:=hc10
  have hne:¬ x=y:=by rintro rfl;simp at hc10
  refine Zs hf fun _ hK11=>?_
  refine Za rfl ?_
  refine Zt hK11 fun a hf=>?_
  refine wp_ret ?_
  refine X3 ?_
  refine X2 hf (Xh hf rfl rfl) ?_
  exact ⟨by simp [hne],hW⟩
 have hc10b:=hc10
 have e2:x.a=y.a:=by simpa using hc10
 refine wp_skip ?_
 refine hK8 _ _ ?_
 refine wp_seq_k fun _ hK12=>?_
 refine Zs hf fun _ hK13=>?_
 refine Ze (Vd rfl X1v 2)<|Ze (X0 rfl X5 (hB2.at 2))<|Ze (Vd rfl X1v 2)<|Ze (X0 rfl X5 (hB3.at 2))<|Ze (X1g rfl rfl) ?_
 refine Zt hK13 fun a hf=>?_
 refine Xb hf rfl (fun hc14=>?_) (fun hc14=>?_)
 ·have hc14b:=hc14
  have hne:¬ x=y:=by rintro rfl;simp at hc14
  refine Zs hf fun _ hK15=>?_
  refine Za rfl ?_
  refine Zt hK15 fun a hf=>?_
  refine wp_ret ?_
  refine X3 ?_
  refine X2 hf (Xh hf rfl rfl) ?_
  exact ⟨by simp [hne],hW⟩
 have hc14b:=hc14
 have e3:x.b=y.b:=by simpa using hc14
 refine wp_skip ?_
 refine hK12 _ _ ?_
 refine Zs hf fun _ hK16=>?_
 refine Za rfl ?_
 refine Zt hK16 fun a hf=>?_
 refine wp_ret (X2 hf (Xh hf rfl rfl) ?_)
 have he:x=y:=by cases x;cases y;simp_all
 exact ⟨by simp [he],hW⟩
theorem F83(w0:World)(Ap:Option Addr)(cp:Nat)(p:List Ed)(hr_p:Rd w0 w0.heap.size 164 encE Ap p)(Aq:Option Addr)(cq:Nat)(q:List Ed)(hr_q:Rd w0 w0.heap.size 164 encE Aq q)(hln:p.length≤2305843009213693951) : Ret Tryz.prog 83 [.slice Ap p.length cp,.slice Aq q.length cq] w0 (fun v w=>v=.bool (decide (p=q))∧Below w0.heap.size w0 w):=by
 refine enter Tryz.func83 rfl 27 rfl rfl ?_
 intro a hf
 have hW:Below w0.heap.size w0 w0:=Below.refl _ _
 refine Zs hf fun _ hK3=>?_
 refine Za rfl ?_
 refine Zt hK3 fun a hf=>?_
 refine wp_seq_k fun _ hK4=>?_
 refine Zs hf fun _ hK5=>?_
 refine Zm rfl<|Ze (X0d rfl X27)<|Zm rfl<|Ze (X0d rfl X27)<|Ze (X1g rfl rfl) ?_
 refine Zt hK5 fun a hf=>?_
 refine Xb hf rfl (fun hc6=>?_) (fun hc6=>?_)
 ·have hc6b:=hc6
  have hne:¬ p=q:=by intro h9;rw [h9] at hc6;simp at hc6
  refine Zs hf fun _ hK7=>?_
  refine Za rfl ?_
  refine Zt hK7 fun a hf=>?_
  refine wp_ret ?_
  refine X3 ?_
  refine X2 hf (Xh hf rfl rfl) ?_
  exact ⟨by simp [hne],hW⟩
 have hc6b:=hc6
 have hll:p.length=q.length:=by have h9:(p.length:Int)=q.length:=(by simpa using hc6);omega
 refine wp_skip ?_
 refine hK4 _ _ ?_
 refine wp_seq_k fun _ hK8=>?_
 refine Zs hf fun _ hK9=>?_
 refine Za rfl ?_
 refine Zt hK9 fun a hf=>?_
 refine wp_block ?_
 refine X04 (σ:=Nat) (fun (k:Nat) (a:Act) (w:World)=>Fr a 27 [(0,.slice Ap p.length cp),(1,.slice Aq q.length cq),(5,vi (k:Int))]∧(k≤p.length)∧(p.take k=q.take k)∧Below w0.heap.size w0 w) (fun (k:Nat)=>p.length-k) 0 ?_ ?_
 · exact ⟨hf.sub ⟨rfl,rfl,rfl,trivial⟩,(Nat.zero_le _),(by simp),hW⟩
 rintro k a w1 ⟨hf,hk,hpre,hW⟩
 refine wp_seq_k fun _ hK10=>?_
 refine Zs hf fun _ hK11=>?_
 refine Zm rfl<|Zm rfl<|Ze (X0d rfl X27)<|Ze (X0m rfl rfl) ?_
 refine Zt hK11 fun a hf=>?_
 refine Xb hf rfl (fun hc12=>?_) (fun hc12=>?_)
 ·have hc12b:=hc12
  have hc12:=of_decide_eq_true hc12
  obtain ⟨u13,hu13⟩:=Xf (l:=p) (k:=k) (by omega)
  obtain ⟨v9,hv9⟩:=Xf (l:=q) (k:=k) (by omega)
  refine wp_skip ?_
  refine hK10 _ _ ?_
  refine wp_seq_k fun _ hK14=>?_
  refine wp_block ?_
  refine wp_seq_k fun _ hK15=>?_
  refine X05 none (fun _=>false) mixed ?_
  intro w2 hE
  replace hW:=btr hW hE
  refine Yb hf ?_
  refine Yo 0 rfl (fun _=>X8 rfl)<|Yo 1 rfl (fun _=>X8 rfl) ?_
  refine Yi (k:=k) (u:=u13) (enc:=encE) (l:=p) 2 rfl trivial rfl rfl X27 X1x X19 (hr_p.below' hW) hu13 rfl ?_;intro p17 hat16
  refine Ye 3 rfl (Xi (l:=[vi u13.a,vi u13.b]) rfl X3m hat16 rfl)<|Yo 4 rfl (fun _=>X8 rfl)<|Yo 5 rfl (fun _=>X8 rfl) ?_
  refine Yi (k:=k) (u:=v9) (enc:=encE) (l:=q) 6 rfl trivial rfl rfl X27 X1x X19 (hr_q.below' hW) hv9 rfl ?_;intro p19 hat18
  refine Ye 7 rfl (Xi (l:=[vi v9.a,vi v9.b]) rfl X3m hat18 rfl) ?_
  refine Y1 8 ?_
  refine Yk rfl trivial (Vc (Xrz _ u13 v9) Xmn) (fun _ _ ⟨_,hE⟩=>hE) ?_;rintro _ w3 ⟨rfl,hE⟩
  replace hW:=btr hW hE
  refine Yo 9 rfl (fun _=>X09 rfl) ?_
  refine Yd fun a hf=>?_
  refine hK15 _ _ ?_
  refine Xb hf rfl (fun hc20=>?_) (fun hc20=>?_)
  ·have hc20b:=hc20
   have hne:¬ p=q:=by rintro rfl;rw [hu13] at hv9;injection hv9 with e9;revert hc20;simp [e9]
   refine Zs hf fun _ hK21=>?_
   refine Za rfl ?_
   refine Zt hK21 fun a hf=>?_
   refine wp_ret ?_
   refine Xj ?_
   refine X3 ?_
   refine X3 ?_
   refine Xj ?_
   refine X3 ?_
   refine X2 hf (Xh hf rfl rfl) ?_
   exact ⟨by simp [hne],hW⟩
  have hc20b:=hc20
  have he9:u13=v9:=by revert hc20;simp
  refine wp_skip ?_
  refine Xn ?_
  refine hK14 _ _ ?_
  refine Zr hf ?_
  refine Zm rfl<|Ze (Xy rfl rfl (by omega) (by omega))<|Za rfl ?_
  refine Zn fun a hf=>?_
  refine Xk ?_
  exact ⟨k+1,⟨hf.sub ⟨rfl,rfl,rfl,trivial⟩,(by omega),(X31 hpre hu13 hv9 he9),hW⟩,(by omega)⟩
 have hc12b:=hc12
 have hc12:=of_decide_eq_false hc12
 refine wp_exit ?_
 refine Xm ?_
 refine Xm ?_
 refine X03 ?_
 refine hK8 _ _ ?_
 refine Zs hf fun _ hK22=>?_
 refine Za rfl ?_
 refine Zt hK22 fun a hf=>?_
 refine wp_ret (X2 hf (Xh hf rfl rfl) ?_)
 have he:p=q:=by rw [List.take_of_length_le (by omega),List.take_of_length_le (by omega)] at hpre;exact hpre
 exact ⟨by simp [he],hW⟩
theorem Xr7(w0:World)(Ap:Option Addr)(cp:Nat)(p:List Gt)(hr_p:Rd w0 w0.heap.size 161 encG Ap p)(Aq:Option Addr)(cq:Nat)(q:List Gt)(hr_q:Rd w0 w0.heap.size 161 encG Aq q)(hln:p.length≤2305843009213693951) : Ret Tryz.prog 127 [.slice Ap p.length cp,.slice Aq q.length cq] w0 (fun v w=>v=.bool (decide (p=q))∧Below w0.heap.size w0 w):=by
 refine enter Tryz.func127 rfl 27 rfl rfl ?_
 intro a hf
 have hW:Below w0.heap.size w0 w0:=Below.refl _ _
 refine Zs hf fun _ hK3=>?_
 refine Za rfl ?_
 refine Zt hK3 fun a hf=>?_
 refine wp_seq_k fun _ hK4=>?_
 refine Zs hf fun _ hK5=>?_
 refine Zm rfl<|Ze (X0d rfl X2d)<|Zm rfl<|Ze (X0d rfl X2d)<|Ze (X1g rfl rfl) ?_
 refine Zt hK5 fun a hf=>?_
 refine Xb hf rfl (fun hc6=>?_) (fun hc6=>?_)
 ·have hc6b:=hc6
  have hne:¬ p=q:=by intro h9;rw [h9] at hc6;simp at hc6
  refine Zs hf fun _ hK7=>?_
  refine Za rfl ?_
  refine Zt hK7 fun a hf=>?_
  refine wp_ret ?_
  refine X3 ?_
  refine X2 hf (Xh hf rfl rfl) ?_
  exact ⟨by simp [hne],hW⟩
 have hc6b:=hc6
 have hll:p.length=q.length:=by have h9:(p.length:Int)=q.length:=(by simpa using hc6);omega
 refine wp_skip ?_
 refine hK4 _ _ ?_
 refine wp_seq_k fun _ hK8=>?_
 refine Zs hf fun _ hK9=>?_
 refine Za rfl ?_
 refine Zt hK9 fun a hf=>?_
 refine wp_block ?_
 refine X04 (σ:=Nat) (fun (k:Nat) (a:Act) (w:World)=>Fr a 27 [(0,.slice Ap p.length cp),(1,.slice Aq q.length cq),(5,vi (k:Int))]∧(k≤p.length)∧(p.take k=q.take k)∧Below w0.heap.size w0 w) (fun (k:Nat)=>p.length-k) 0 ?_ ?_
 · exact ⟨hf.sub ⟨rfl,rfl,rfl,trivial⟩,(Nat.zero_le _),(by simp),hW⟩
 rintro k a w1 ⟨hf,hk,hpre,hW⟩
 refine wp_seq_k fun _ hK10=>?_
 refine Zs hf fun _ hK11=>?_
 refine Zm rfl<|Zm rfl<|Ze (X0d rfl X2d)<|Ze (X0m rfl rfl) ?_
 refine Zt hK11 fun a hf=>?_
 refine Xb hf rfl (fun hc12=>?_) (fun hc12=>?_)
 ·have hc12b:=hc12
  have hc12:=of_decide_eq_true hc12
  obtain ⟨u13,hu13⟩:=Xf (l:=p) (k:=k) (by omega)
  obtain ⟨v9,hv9⟩:=Xf (l:=q) (k:=k) (by omega)
  refine wp_skip ?_
  refine hK10 _ _ ?_
  refine wp_seq_k fun _ hK14=>?_
  refine wp_block ?_
  refine wp_seq_k fun _ hK15=>?_
  refine X05 none (fun _=>false) mixed ?_
  intro w2 hE
  replace hW:=btr hW hE
  refine Yb hf ?_
  refine Yo 0 rfl (fun _=>X8 rfl)<|Yo 1 rfl (fun _=>X8 rfl) ?_
  refine Yi (k:=k) (u:=u13) (enc:=encG) (l:=p) 2 rfl trivial rfl rfl X2d X2h Xq (hr_p.below' hW) hu13 rfl ?_;intro p17 hat16
  refine Ye 3 rfl (Xi (l:=[vi u13.k,vi u13.a,vi u13.b]) rfl X3b hat16 rfl)<|Yo 4 rfl (fun _=>X8 rfl)<|Yo 5 rfl (fun _=>X8 rfl) ?_
  refine Yi (k:=k) (u:=v9) (enc:=encG) (l:=q) 6 rfl trivial rfl rfl X2d X2h Xq (hr_q.below' hW) hv9 rfl ?_;intro p19 hat18
  refine Ye 7 rfl (Xi (l:=[vi v9.k,vi v9.a,vi v9.b]) rfl X3b hat18 rfl) ?_
  refine Y1 8 ?_
  refine Yk rfl trivial (Vc (Xqq _ u13 v9) Xo9) (fun _ _ ⟨_,hE⟩=>hE) ?_;rintro _ w3 ⟨rfl,hE⟩
  replace hW:=btr hW hE
  refine Yo 9 rfl (fun _=>X09 rfl) ?_
  refine Yd fun a hf=>?_
  refine hK15 _ _ ?_
  refine Xb hf rfl (fun hc20=>?_) (fun hc20=>?_)
  ·have hc20b:=hc20
   have hne:¬ p=q:=by rintro rfl;rw [hu13] at hv9;injection hv9 with e9;revert hc20;simp [e9]
   refine Zs hf fun _ hK21=>?_
   refine Za rfl ?_
   refine Zt hK21 fun a hf=>?_
   refine wp_ret ?_
   refine Xj ?_
   refine X3 ?_
   refine X3 ?_
   refine Xj ?_
   refine X3 ?_
   refine X2 hf (Xh hf rfl rfl) ?_
   exact ⟨by simp [hne],hW⟩
  have hc20b:=hc20
  have he9:u13=v9:=by revert hc20;simp
  refine wp_skip ?_
  refine Xn ?_
  refine hK14 _ _ ?_
  refine Zr hf ?_
  refine Zm rfl<|Ze (Xy rfl rfl (by omega) (by omega))<|Za rfl ?_
  refine Zn fun a hf=>?_
  refine Xk ?_
  exact ⟨k+1,⟨hf.sub ⟨rfl,rfl,rfl,trivial⟩,(by omega),(X31 hpre hu13 hv9 he9),hW⟩,(by omega)⟩
 have hc12b:=hc12
 have hc12:=of_decide_eq_false hc12
 refine wp_exit ?_
 refine Xm ?_
 refine Xm ?_
 refine X03 ?_
 refine hK8 _ _ ?_
 refine Zs hf fun _ hK22=>?_
 refine Za rfl ?_
 refine Zt hK22 fun a hf=>?_
 refine wp_ret (X2 hf (Xh hf rfl rfl) ?_)
 have he:p=q:=by rw [List.take_of_length_le (by omega),List.take_of_length_le (by omega)] at hpre;exact hpre
 exact ⟨by simp [he],hW⟩
theorem F40(w0:World)(p:Gp)(Ap:Option Addr)(cp:Nat)(hr_p:Rd w0 w0.heap.size 164 encE Ap p.es)(q:Gp)(Aq:Option Addr)(cq:Nat)(hr_q:Rd w0 w0.heap.size 164 encE Aq q.es)(hln:p.es.length≤2305843009213693951) : Ret Tryz.prog 40 [.agg #[vi p.n,.slice Ap p.es.length cp],.agg #[vi q.n,.slice Aq q.es.length cq]] w0 (fun v w=>v=.bool (decide (p.n=q.n)&&decide (p.es=q.es))∧Below w0.heap.size w0 w):=by
 refine enter Tryz.func40 rfl 16 rfl rfl ?_
 intro a hf
 have hW:Below w0.heap.size w0 w0:=Below.refl _ _
 refine Zs hf fun _ hK3=>?_
 refine Zf (Xu (zs:=[vi p.n,.slice Ap p.es.length cp]) rfl rfl) ?_;rintro _ w1 ⟨b4,rfl,hl4,hE,hB4⟩
 have hlo4:=Nat.le_trans hW.size hl4
 replace hW:=btr hW hE
 refine Zf (Xu (zs:=[vi q.n,.slice Aq q.es.length cq]) rfl rfl) ?_;rintro _ w2 ⟨b5,rfl,hl5,hE,hB5⟩
 have hne4_5:b4≠b5:=by have:=hB4.lt;omega
 have hlo5:=Nat.le_trans hW.size hl5
 replace hB4:=hB4.below hE
 replace hW:=btr hW hE
 refine Za rfl ?_
 refine Zt hK3 fun a hf=>?_
 refine wp_seq_k fun _ hK6=>?_
 refine Zs hf fun _ hK7=>?_
 refine Ze (Vd rfl X1t 0)<|Ze (X0 rfl X5 (hB4.at 0))<|Ze (Vd rfl X1t 0)<|Ze (X0 rfl X5 (hB5.at 0))<|Ze (X1g rfl rfl) ?_
 refine Zt hK7 fun a hf=>?_
 refine Xb hf rfl (fun hc8=>?_) (fun hc8=>?_)
 ·have hc8b:=hc8
  have hn:¬ p.n=q.n:=by simpa using hc8
  refine Zs hf fun _ hK9=>?_
  refine Za rfl ?_
  refine Zt hK9 fun a hf=>?_
  refine wp_ret ?_
  refine X3 ?_
  refine X2 hf (Xh hf rfl rfl) ?_
  exact ⟨by simp [hn],hW⟩
 have hc8b:=hc8
 have e1:p.n=q.n:=by simpa using hc8
 refine wp_skip ?_
 refine hK6 _ _ ?_
 refine wp_seq_k fun _ hK10=>?_
 refine Zs hf fun _ hK11=>?_
 refine Ze (Vd rfl X2n 1)<|Ze (X0 rfl X65 (hB4.at 1))<|Ze (Vd rfl X2n 1)<|Ze (X0 rfl X65 (hB5.at 1)) ?_
 refine Zf (Vc (F83 _ Ap cp p.es (hr_p.below' hW).top Aq cq q.es (hr_q.below' hW).top hln) Xqf) ?_;rintro _ w3 ⟨rfl,hE⟩
 replace hB4:=hB4.below hE
 replace hB5:=hB5.below hE
 replace hW:=btr hW hE
 refine Ze (X09 rfl) ?_
 refine Zt hK11 fun a hf=>?_
 refine Xb hf rfl (fun hc12=>?_) (fun hc12=>?_)
 ·have hc12b:=hc12
  have hn:¬ p.es=q.es:=by simpa using hc12
  refine Zs hf fun _ hK13=>?_
  refine Za rfl ?_
  refine Zt hK13 fun a hf=>?_
  refine wp_ret ?_
  refine X3 ?_
  refine X2 hf (Xh hf rfl rfl) ?_
  exact ⟨by simp [hn],hW⟩
 have hc12b:=hc12
 have e2:p.es=q.es:=by simpa using hc12
 refine wp_skip ?_
 refine hK10 _ _ ?_
 refine Zs hf fun _ hK14=>?_
 refine Za rfl ?_
 refine Zt hK14 fun a hf=>?_
 refine wp_ret (X2 hf (Xh hf rfl rfl) ?_)
 exact ⟨by simp [e1,e2],hW⟩
theorem F84(w0:World)(p:Ro)(Ap:Option Addr)(cp:Nat)(hr_p:Rd w0 w0.heap.size 3 encI Ap p.st)(hp_p:p.st.length≤cp)(Bp:Option Addr)(dp:Nat)(hs_p:Rd w0 w0.heap.size 161 encG Bp p.steps)(q:Ro)(Aq:Option Addr)(cq:Nat)(hr_q:Rd w0 w0.heap.size 3 encI Aq q.st)(hp_q:q.st.length≤cq)(Bq:Option Addr)(dq:Nat)(hs_q:Rd w0 w0.heap.size 161 encG Bq q.steps)(hla:p.st.length≤2305843009213693951)(hlb:p.steps.length≤2305843009213693951) : Ret Tryz.prog 84 [.agg #[.slice Ap p.st.length cp,.slice Bp p.steps.length dp],.agg #[.slice Aq q.st.length cq,.slice Bq q.steps.length dq]] w0 (fun v w=>v=.bool (decide (p.st=q.st)&&decide (p.steps=q.steps))∧Below w0.heap.size w0 w):=by
 refine enter Tryz.func84 rfl 17 rfl rfl ?_
 intro a hf
 have hW:Below w0.heap.size w0 w0:=Below.refl _ _
 refine Zs hf fun _ hK5=>?_
 refine Zf (Xu (zs:=[.slice Ap p.st.length cp,.slice Bp p.steps.length dp]) rfl rfl) ?_;rintro _ w1 ⟨b6,rfl,hl6,hE,hB6⟩
 have hlo6:=Nat.le_trans hW.size hl6
 replace hW:=btr hW hE
 refine Zf (Xu (zs:=[.slice Aq q.st.length cq,.slice Bq q.steps.length dq]) rfl rfl) ?_;rintro _ w2 ⟨b7,rfl,hl7,hE,hB7⟩
 have hne6_7:b6≠b7:=by have:=hB6.lt;omega
 have hlo7:=Nat.le_trans hW.size hl7
 replace hB6:=hB6.below hE
 replace hW:=btr hW hE
 refine Za rfl ?_
 refine Zt hK5 fun a hf=>?_
 refine wp_seq_k fun _ hK8=>?_
 refine Zs hf fun _ hK9=>?_
 refine Ze (Vd rfl X2w 0)<|Ze (X0 rfl X2e (hB6.at 0))<|Ze (Vd rfl X2w 0)<|Ze (X0 rfl X2e (hB7.at 0)) ?_
 refine Zf (Vc (F20 _ Ap cp p.st (hr_p.below' hW).top Aq cq q.st (hr_q.below' hW).top hla) Xp5) ?_;rintro _ w3 ⟨rfl,hE⟩
 replace hB6:=hB6.below hE
 replace hB7:=hB7.below hE
 replace hW:=btr hW hE
 refine Ze (X09 rfl) ?_
 refine Zt hK9 fun a hf=>?_
 refine Xb hf rfl (fun hc10=>?_) (fun hc10=>?_)
 ·have hc10b:=hc10
  have hn:¬ p.st=q.st:=by simpa using hc10
  refine Zs hf fun _ hK11=>?_
  refine Za rfl ?_
  refine Zt hK11 fun a hf=>?_
  refine wp_ret ?_
  refine X3 ?_
  refine X2 hf (Xh hf rfl rfl) ?_
  exact ⟨by simp [hn],hW⟩
 have hc10b:=hc10
 have e1:p.st=q.st:=by simpa using hc10
 refine wp_skip ?_
 refine hK8 _ _ ?_
 refine wp_seq_k fun _ hK12=>?_
 refine Zs hf fun _ hK13=>?_
 refine Ze (Vd rfl X2o 1)<|Ze (X0 rfl X64 (hB6.at 1))<|Ze (Vd rfl X2o 1)<|Ze (X0 rfl X64 (hB7.at 1)) ?_
 refine Zf (Vc (Xr7 _ Bp dp p.steps (hs_p.below' hW).top Bq dq q.steps (hs_q.below' hW).top hlb) Xm7) ?_;rintro _ w4 ⟨rfl,hE⟩
 replace hB6:=hB6.below hE
 replace hB7:=hB7.below hE
 replace hW:=btr hW hE
 refine Ze (X09 rfl) ?_
 refine Zt hK13 fun a hf=>?_
 refine Xb hf rfl (fun hc14=>?_) (fun hc14=>?_)
 ·have hc14b:=hc14
  have hn:¬ p.steps=q.steps:=by simpa using hc14
  refine Zs hf fun _ hK15=>?_
  refine Za rfl ?_
  refine Zt hK15 fun a hf=>?_
  refine wp_ret ?_
  refine X3 ?_
  refine X2 hf (Xh hf rfl rfl) ?_
  exact ⟨by simp [hn],hW⟩
 have hc14b:=hc14
 have e2:p.steps=q.steps:=by simpa using hc14
 refine wp_skip ?_
 refine hK12 _ _ ?_
 refine Zs hf fun _ hK16=>?_
 refine Za rfl ?_
 refine Zt hK16 fun a hf=>?_
 refine wp_ret (X2 hf (Xh hf rfl rfl) ?_)
 exact ⟨by simp [e1,e2],hW⟩
theorem F41(w0:World)(c:Cx)(Ac:Option Addr)(cc:Nat)(hr_c:Rd w0 w0.heap.size 107 encG Ac c.gs)(Al:Option Addr)(cl:Nat)(l:List Sr)(hr_l:Rd w0 w0.heap.size 30 encSr Al l)(hd_l:DeepR w0 w0.heap.size 107 l)(d:Cx)(Ad:Option Addr)(cd:Nat)(hr_d:Rd w0 w0.heap.size 107 encG Ad d.gs)(r:Ro)(Ar:Option Addr)(cr:Nat)(hr_r:Rd w0 w0.heap.size 3 encI Ar r.st)(hp_r:r.st.length≤cr)(Br:Option Addr)(dr:Nat)(hs_r:Rd w0 w0.heap.size 161 encG Br r.steps)(o:Cx)(Ao:Option Addr)(co:Nat)(hr_o:Rd w0 w0.heap.size 107 encG Ao o.gs)(e:Cx)(Ae:Option Addr)(ce:Nat)(hr_e:Rd w0 w0.heap.size 107 encG Ae e.gs)(Am:Option Addr)(cm:Nat)(m:List Sr)(hr_m:Rd w0 w0.heap.size 30 encSr Am m)(hd_m:DeepR w0 w0.heap.size 107 m)(f:Cx)(Af:Option Addr)(cf:Nat)(hr_f:Rd w0 w0.heap.size 107 encG Af f.gs)(s:Ro)(As:Option Addr)(cs:Nat)(hr_s:Rd w0 w0.heap.size 3 encI As s.st)(hp_s:s.st.length≤cs)(Bs:Option Addr)(ds:Nat)(hs_s:Rd w0 w0.heap.size 161 encG Bs s.steps)(q:Cx)(Aq:Option Addr)(cq:Nat)(hr_q:Rd w0 w0.heap.size 107 encG Aq q.gs)(hlc:c.gs.length≤2305843009213693951)(hls:l.length≤2305843009213693951)(hll:∀ s ∈ l,s.old.length≤2305843009213693951∧s.new.length≤2305843009213693951)(hld:d.gs.length≤2305843009213693951)(hla:r.st.length≤2305843009213693951)(hlb:r.steps.length≤2305843009213693951)(hlo:o.gs.length≤2305843009213693951) : Ret Tryz.prog 41 [.agg #[vi c.n,.slice Ac c.gs.length cc,.slice Al l.length cl,vi d.n,.slice Ad d.gs.length cd,.slice Ar r.st.length cr,.slice Br r.steps.length dr,vi o.n,.slice Ao o.gs.length co],.agg #[vi e.n,.slice Ae e.gs.length ce,.slice Am m.length cm,vi f.n,.slice Af f.gs.length cf,.slice As s.st.length cs,.slice Bs s.steps.length ds,vi q.n,.slice Aq q.gs.length cq]] w0 (fun v w=>v=.bool (eqC c e&&decide (l.map Sr.rp=m.map Sr.rp)&&eqC d f&&(decide (r.st=s.st)&&decide (r.steps=s.steps))&&eqC o q)∧Below w0.heap.size w0 w):=by
 refine enter Tryz.func41 rfl 23 rfl rfl ?_
 intro a hf
 have hW:Below w0.heap.size w0 w0:=Below.refl _ _
 refine Zs hf fun _ hK13=>?_
 refine Zf (Xu (zs:=[vi c.n,.slice Ac c.gs.length cc,.slice Al l.length cl,vi d.n,.slice Ad d.gs.length cd,.slice Ar r.st.length cr,.slice Br r.steps.length dr,vi o.n,.slice Ao o.gs.length co]) rfl rfl) ?_;rintro _ w1 ⟨b14,rfl,hl14,hE,hB14⟩
 have hlo14:=Nat.le_trans hW.size hl14
 replace hd_l:=hd_l.below hE
 replace hd_m:=hd_m.below hE
 replace hW:=btr hW hE
 refine Zf (Xu (zs:=[vi e.n,.slice Ae e.gs.length ce,.slice Am m.length cm,vi f.n,.slice Af f.gs.length cf,.slice As s.st.length cs,.slice Bs s.steps.length ds,vi q.n,.slice Aq q.gs.length cq]) rfl rfl) ?_;rintro _ w2 ⟨b15,rfl,hl15,hE,hB15⟩
 have hne14_15:b14≠b15:=by have:=hB14.lt;omega
 have hlo15:=Nat.le_trans hW.size hl15
 replace hB14:=hB14.below hE
 replace hd_l:=hd_l.below hE
 replace hd_m:=hd_m.below hE
 replace hW:=btr hW hE
 refine Za rfl ?_
 refine Zt hK13 fun a hf=>?_
 refine wp_seq_k fun _ hK16=>?_
 refine Zs hf fun _ hK17=>?_
 refine Ze (Vd rfl X2c 0)<|Ze (Xi (l:=[vi c.n,.slice Ac c.gs.length cc,.slice Al l.length cl,vi d.n,.slice Ad d.gs.length cd]) rfl X8v ((hB14.at 0).take 5) rfl)<|Ze (Vd rfl X2c 0)<|Ze (Xi (l:=[vi e.n,.slice Ae e.gs.length ce,.slice Am m.length cm,vi f.n,.slice Af f.gs.length cf]) rfl X8v ((hB15.at 0).take 5) rfl) ?_
 refine Zf (Vc (F30 _ c Ac cc (hr_c.below' hW).top Al cl l (hr_l.below' hW).top hd_l.top d Ad cd (hr_d.below' hW).top e Ae ce (hr_e.below' hW).top Am cm m (hr_m.below' hW).top hd_m.top f Af cf (hr_f.below' hW).top hlc hls hll hld) Xqj) ?_;rintro _ w3 ⟨rfl,hE⟩
 replace hB14:=hB14.below hE
 replace hB15:=hB15.below hE
 replace hd_l:=hd_l.below hE
 replace hd_m:=hd_m.below hE
 replace hW:=btr hW hE
 refine Ze (X09 rfl) ?_
 refine Zt hK17 fun a hf=>?_
 refine Xb hf rfl (fun hc18=>?_) (fun hc18=>?_)
 ·have hc18b:=hc18
  have hn:(eqC c e&&decide (l.map Sr.rp=m.map Sr.rp)&&eqC d f)=false:=by revert hc18;cases (eqC c e&&decide (l.map Sr.rp=m.map Sr.rp)&&eqC d f)<;>simp
  refine Zs hf fun _ hK19=>?_
  refine Za rfl ?_
  refine Zt hK19 fun a hf=>?_
  refine wp_ret ?_
  refine X3 ?_
  refine X2 hf (Xh hf rfl rfl) ?_
  exact ⟨by rw [hn];rfl,hW⟩
 have hc18b:=hc18
 have e1:(eqC c e&&decide (l.map Sr.rp=m.map Sr.rp)&&eqC d f)=true:=by revert hc18;cases (eqC c e&&decide (l.map Sr.rp=m.map Sr.rp)&&eqC d f)<;>simp
 refine wp_skip ?_
 refine hK16 _ _ ?_
 refine wp_seq_k fun _ hK20=>?_
 refine Zs hf fun _ hK21=>?_
 refine Ze (Vd rfl X40 5)<|Ze (Xi (l:=[.slice Ar r.st.length cr,.slice Br r.steps.length dr]) rfl X47 ((hB14.at 5).take 2) rfl)<|Ze (Vd rfl X40 5)<|Ze (Xi (l:=[.slice As s.st.length cs,.slice Bs s.steps.length ds]) rfl X47 ((hB15.at 5).take 2) rfl) ?_
 refine Zf (Vc (F84 _ r Ar cr (hr_r.below' hW).top hp_r Br dr (hs_r.below' hW).top s As cs (hr_s.below' hW).top hp_s Bs ds (hs_s.below' hW).top hla hlb) Xpv) ?_;rintro _ w4 ⟨rfl,hE⟩
 replace hB14:=hB14.below hE
 replace hB15:=hB15.below hE
 replace hd_l:=hd_l.below hE
 replace hd_m:=hd_m.below hE
 replace hW:=btr hW hE
 refine Ze (X09 rfl) ?_
 refine Zt hK21 fun a hf=>?_
 refine Xb hf rfl (fun hc22=>?_) (fun hc22=>?_)
 ·have hc22b:=hc22
  have hn:(decide (r.st=s.st)&&decide (r.steps=s.steps))=false:=by revert hc22;cases (decide (r.st=s.st)&&decide (r.steps=s.steps))<;>simp
  refine Zs hf fun _ hK23=>?_
  refine Za rfl ?_
  refine Zt hK23 fun a hf=>?_
  refine wp_ret ?_
  refine X3 ?_
  refine X2 hf (Xh hf rfl rfl) ?_
  exact ⟨by rw [hn,Bool.and_false];rfl,hW⟩
 have hc22b:=hc22
 have e2:(decide (r.st=s.st)&&decide (r.steps=s.steps))=true:=by revert hc22;cases (decide (r.st=s.st)&&decide (r.steps=s.steps))<;>simp
 refine wp_skip ?_
 refine hK20 _ _ ?_
 refine wp_seq_k fun _ hK24=>?_
 refine Zs hf fun _ hK25=>?_
 refine Ze (Vd rfl X5n 7)<|Ze (Xi (l:=[vi o.n,.slice Ao o.gs.length co]) rfl X0c ((hB14.at 7).take 2) rfl)<|Ze (Vd rfl X5n 7)<|Ze (Xi (l:=[vi q.n,.slice Aq q.gs.length cq]) rfl X0c ((hB15.at 7).take 2) rfl) ?_
 refine Zf (Vc (F19 _ o Ao co (hr_o.below' hW).top q Aq cq (hr_q.below' hW).top hlo) Xdk) ?_;rintro _ w5 ⟨rfl,hE⟩
 replace hB14:=hB14.below hE
 replace hB15:=hB15.below hE
 replace hd_l:=hd_l.below hE
 replace hd_m:=hd_m.below hE
 replace hW:=btr hW hE
 refine Ze (X09 rfl) ?_
 refine Zt hK25 fun a hf=>?_
 refine Xb hf rfl (fun hc26=>?_) (fun hc26=>?_)
 ·have hc26b:=hc26
  have hn:eqC o q=false:=by revert hc26;cases eqC o q<;>simp
  refine Zs hf fun _ hK27=>?_
  refine Za rfl ?_
  refine Zt hK27 fun a hf=>?_
  refine wp_ret ?_
  refine X3 ?_
  refine X2 hf (Xh hf rfl rfl) ?_
  exact ⟨by rw [hn,Bool.and_false],hW⟩
 have hc26b:=hc26
 have e3:eqC o q=true:=by revert hc26;cases eqC o q<;>simp
 refine wp_skip ?_
 refine hK24 _ _ ?_
 refine Zs hf fun _ hK28=>?_
 refine Za rfl ?_
 refine Zt hK28 fun a hf=>?_
 refine wp_ret (X2 hf (Xh hf rfl rfl) ?_)
 exact ⟨by rw [e1,e2,e3];rfl,hW⟩
end Go.Proofs.YtfgnmflfiobkmaaGreat
set_option maxHeartbeats 1000000
set_option maxRecDepth 4000
namespace Go.Proofs.YtfgnmflfiobkmaaGreat
open Go.RowKit
theorem Xrx(w0:World)(g:Gp)(Ag:Option Addr)(cg:Nat)(hr_g:Rd w0 w0.heap.size 164 encE Ag g.es)(hln:g.es.length≤2305843009213693951) : Ret Tryz.prog 116 [.agg #[vi g.n,.slice Ag g.es.length cg]] w0 (fun v w=>v=.bool (gpS g)∧Below w0.heap.size w0 w):=by
 refine enter Tryz.func116 rfl 71 rfl rfl ?_
 intro a hf
 have hW:Below w0.heap.size w0 w0:=Below.refl _ _
 refine Zs hf fun _ hK2=>?_
 refine Zf (Xu (zs:=[vi g.n,.slice Ag g.es.length cg]) rfl rfl) ?_;rintro _ w1 ⟨b3,rfl,hl3,hE,hB3⟩
 have hlo3:=Nat.le_trans hW.size hl3
 replace hW:=btr hW hE
 refine Za rfl ?_
 refine Zt hK2 fun a hf=>?_
 refine wp_seq_k fun _ hK4=>?_
 refine Zs hf fun _ hK5=>?_
 refine Ze (Vd rfl X2n 1)<|Ze (X0 rfl X65 (hB3.at 1))<|Ze (X0d rfl X27)<|Zm rfl ?_
 refine Zt hK5 fun a hf=>?_
 refine wp_block ?_
 refine X04 (σ:=Nat) (fun (k:Nat) (a:Act) (w:World)=>Fr a 71 [(1,.pointer (some ⟨b3,0,none⟩)),(6,.slice Ag g.es.length cg),(7,vi (g.es.length:Int)),(8,vi (k:Int))]∧(k≤g.es.length)∧((List.range k).any (badS g.n g.es)=false)∧Blk w b3 79 [vi g.n,.slice Ag g.es.length cg]∧Below w0.heap.size w0 w) (fun (k:Nat)=>g.es.length-k) 0 ?_ ?_
 · exact ⟨hf.sub ⟨rfl,rfl,rfl,rfl,trivial⟩,(Nat.zero_le _),rfl,hB3,hW⟩
 rintro k a w2 ⟨hf,hk,hA,hB3,hW⟩
 refine Zs hf fun _ hK6=>?_
 refine Ze (X0m rfl rfl) ?_
 refine Zt hK6 fun a hf=>?_
 refine wp_seq_k fun _ hK7=>?_
 refine Xb hf rfl (fun hc8=>?_) (fun hc8=>?_)
 ·have hc8b:=hc8
  have hc8:=of_decide_eq_true hc8
  obtain ⟨u9,hu9⟩:=Xf (l:=g.es) (k:=k) (by omega)
  have hgu:=getD_some (d:=eZ) hu9
  refine wp_skip ?_
  refine hK7 _ _ ?_
  refine wp_seq_k fun _ hK10=>?_
  refine wp_block ?_
  refine Zs hf fun _ hK11=>?_
  refine Zm rfl ?_
  refine Zi (k:=k) (u:=u9) (enc:=encE) (l:=g.es) trivial rfl rfl X27 X1x X19 (hr_g.below' hW) hu9 rfl ?_;intro p13 hat12
  refine Ze (Xi (l:=[vi u9.a,vi u9.b]) rfl X3m hat12 rfl) ?_
  refine Zf (Xa (zs:=[vi 0,vi 0]) X8r rfl) ?_;rintro _ w3 ⟨b14,rfl,hl14,hE,hB14⟩
  have hlo14:=Nat.le_trans hW.size hl14
  have haw1_14:=(hr_g.below' hW).away hl14
  replace hB3:=hB3.below hE
  replace hW:=btr hW hE
  refine Za rfl ?_
  refine Zo (Vw [vi u9.a,vi u9.b] X1x hB14) ?_;rintro _ w4 ⟨ho,hb⟩
  have hold:=hB14
  replace hB3:=hB3.only ho (Blk.ne hB3 hold rfl)
  replace hW:=Below.only hW ho hlo14
  clear hold
  have hB14:=hb
  clear hb ho
  refine Zt hK11 fun a hf=>?_
  refine wp_seq_k fun _ hK15=>?_
  refine wp_seq_k fun _ hK16=>?_
  refine X06 (fun a w=>Fr a 71 [(1,.pointer (some ⟨b3,0,none⟩)),(3,vi (k:Int)),(4,.pointer (some ⟨b14,0,none⟩)),(6,.slice Ag g.es.length cg),(7,vi (g.es.length:Int)),(8,vi (k:Int)),(28,.bool ((!(inR u9.a 0 (wr (u9.b-1))))||(!(inR u9.b 0 (wr (g.n-1))))))]∧w4=w) ?_ ?_
  ·refine Zr hf ?_
   refine Ze (Vd rfl X1a 0)<|Ze (X0 rfl X5 (hB14.at 0))<|Ze (Vd rfl X1m 1)<|Ze (X0 rfl X5 (hB14.at 1))<|Ze (X3a rfl rfl) ?_
   refine Zf (Vc (F85 _ u9.a 0 (wr (u9.b-1))) X2q) ?_;rintro _ _ ⟨rfl,rfl⟩
   refine Ze (X09 rfl)<|Zm rfl ?_
   refine Zg 20 rfl (fun hg17=>?_) (fun hg17=>?_)
   ·refine Zp ⟨_,_,rfl,rfl,hg17⟩ ?_
    refine Zp ⟨_,_,rfl,rfl,hg17⟩ ?_
    refine Zp ⟨_,_,rfl,rfl,hg17⟩ ?_
    refine Zp ⟨_,_,rfl,rfl,hg17⟩ ?_
    refine Zp ⟨_,_,rfl,rfl,hg17⟩ ?_
    refine Zp ⟨_,_,rfl,rfl,hg17⟩ ?_
    refine Zp ⟨_,_,rfl,rfl,hg17⟩ ?_
    refine Ze (X9 rfl hg17 rfl) ?_
    refine Zn fun a hf=>?_
    exact ⟨hf.sub ⟨rfl,rfl,rfl,rfl,rfl,rfl,X1 rfl (by first|rfl|(simp only [hc8b,hg17,bs];done)|simp [hc8b,hg17]),trivial⟩,rfl⟩
   refine Zv ⟨_,_,rfl,rfl,hg17⟩ (Vd rfl X1m 1) ?_
   refine Zv ⟨_,_,rfl,rfl,hg17⟩ (X0 rfl X5 (hB14.at 1)) ?_
   refine Zv ⟨_,_,rfl,rfl,hg17⟩ (Vd rfl X1t 0) ?_
   refine Zv ⟨_,_,rfl,rfl,hg17⟩ (X0 rfl X5 (hB3.at 0)) ?_
   refine Zv ⟨_,_,rfl,rfl,hg17⟩ (X3a rfl rfl) ?_
   refine Zk ⟨_,_,rfl,rfl,hg17⟩ (Vc (F85 _ u9.b 0 (wr (g.n-1))) X2q) ?_;rintro _ _ ⟨rfl,rfl⟩
   refine Zv ⟨_,_,rfl,rfl,hg17⟩ (X09 rfl) ?_
   refine Ze (X7 rfl hg17 rfl) ?_
   refine Zn fun a hf=>?_
   exact ⟨hf.sub ⟨rfl,rfl,rfl,rfl,rfl,rfl,X1 rfl (by first|rfl|(simp only [hc8b,hg17,bs];done)|simp [hc8b,hg17]),trivial⟩,rfl⟩
  rintro a _ ⟨hf,rfl⟩
  refine hK16 _ _ ?_
  refine Xb hf rfl (fun hc18=>?_) (fun hc18=>?_)
  ·have hc18b:=hc18
   have hb:badS g.n g.es k=true:=by unfold badS;rw [hgu];rw [show (!inR u9.a 0 (wr (u9.b-1))||!inR u9.b 0 (wr (g.n-1)))=true from hc18,Bool.true_or]
   refine Zs hf fun _ hK19=>?_
   refine Za rfl ?_
   refine Zt hK19 fun a hf=>?_
   refine wp_ret ?_
   refine X3 ?_
   refine Xj ?_
   refine X3 ?_
   refine X3 ?_
   refine Xj ?_
   refine X3 ?_
   refine X2 hf (Xh hf rfl rfl) ?_
   exact ⟨by rw [gpS,X2f (by omega) hb];rfl,hW⟩
  have hc18b:=hc18
  have hb1:=hc18
  refine wp_skip ?_
  refine hK15 _ _ ?_
  refine wp_seq_k fun _ hK20=>?_
  refine X06 (fun a w=>Fr a 71 [(1,.pointer (some ⟨b3,0,none⟩)),(6,.slice Ag g.es.length cg),(7,vi (g.es.length:Int)),(8,vi (k:Int)),(66,.bool ((decide (0<(k:Int)))&&((decide (u9.a<((g.es.getD (k-1) eZ).a)))||((((g.es.getD (k-1) eZ).a)==u9.a)&&(decide (u9.b≤((g.es.getD (k-1) eZ).b)))))))]∧Below w4.heap.size w4 w) ?_ ?_
  ·have hEc:Below w4.heap.size w4 w4:=Below.refl _ _
   refine X05 none (fun _=>false) mixed ?_
   intro w5 hE
   replace hB3:=hB3.below hE
   replace hB14:=hB14.below hE
   replace hW:=btr hW hE
   replace hEc:=btr hEc hE
   refine Yb hf ?_
   refine Yo 0 rfl (fun _=>X8 rfl)<|Yo 1 rfl (fun _=>X42 rfl rfl)<|Yo 2 rfl (fun _=>X8 rfl) ?_
   refine Yl 31 rfl (fun hg21=>?_) (fun hg21=>?_)
   ·refine Yu 3 rfl ⟨_,_,rfl,rfl,hg21⟩ (fun _=>Vd rfl X2n 1) ?_
    refine Yv 4 rfl ⟨_,_,rfl,rfl,hg21⟩ (X0 rfl X65 (hB3.at 1)) ?_
    refine Yu 5 rfl ⟨_,_,rfl,rfl,hg21⟩ (fun _=>X8 rfl) ?_
    refine Yu 6 rfl ⟨_,_,rfl,rfl,hg21⟩ (fun _=>X11 rfl rfl (by omega) (by omega)) ?_
    refine Yi (k:=(k-1)) (u:=(g.es.getD (k-1) eZ)) (enc:=encE) (l:=g.es) 7 rfl ⟨_,_,rfl,rfl,hg21⟩ rfl rfl X27 X1x X19 (hr_g.below' hW) (X14 eZ (by omega)) (X4t (by assumption)) ?_;intro p23 hat22
    refine Yu 8 rfl ⟨_,_,rfl,rfl,hg21⟩ (fun _=>X6n rfl X1a) ?_
    refine Yv 9 rfl ⟨_,_,rfl,rfl,hg21⟩ (X0 rfl X5 (hat22.drop 0)) ?_
    refine Yu 10 rfl ⟨_,_,rfl,rfl,hg21⟩ (fun _=>Vd rfl X1a 0) ?_
    refine Yv 11 rfl ⟨_,_,rfl,rfl,hg21⟩ (X0 rfl X5 (hB14.at 0)) ?_
    refine Yu 12 rfl ⟨_,_,rfl,rfl,hg21⟩ (fun _=>X42 rfl rfl) ?_
    refine Yu 13 rfl ⟨_,_,rfl,rfl,hg21⟩ (fun _=>X8 rfl) ?_
    refine Yl 42 rfl (fun hg24=>?_) (fun hg24=>?_)
    ·refine Yp 14 rfl ⟨_,_,rfl,rfl,hg24⟩ ?_
     refine Yp 15 rfl ⟨_,_,rfl,rfl,hg24⟩ ?_
     refine Yp 16 rfl ⟨_,_,rfl,rfl,hg24⟩ ?_
     refine Yp 17 rfl ⟨_,_,rfl,rfl,hg24⟩ ?_
     refine Yp 18 rfl ⟨_,_,rfl,rfl,hg24⟩ ?_
     refine Yp 19 rfl ⟨_,_,rfl,rfl,hg24⟩ ?_
     refine Yp 20 rfl ⟨_,_,rfl,rfl,hg24⟩ ?_
     refine Yp 21 rfl ⟨_,_,rfl,rfl,hg24⟩ ?_
     refine Yp 22 rfl ⟨_,_,rfl,rfl,hg24⟩ ?_
     refine Yp 23 rfl ⟨_,_,rfl,rfl,hg24⟩ ?_
     refine Yp 24 rfl ⟨_,_,rfl,rfl,hg24⟩ ?_
     refine Yp 25 rfl ⟨_,_,rfl,rfl,trivial⟩ ?_
     refine Yp 26 rfl ⟨_,_,rfl,rfl,trivial⟩ ?_
     refine Yp 27 rfl ⟨_,_,rfl,rfl,trivial⟩ ?_
     refine Yp 28 rfl ⟨_,_,rfl,rfl,trivial⟩ ?_
     refine Yp 29 rfl ⟨_,_,rfl,rfl,trivial⟩ ?_
     refine Yp 30 rfl ⟨_,_,rfl,rfl,trivial⟩ ?_
     refine Yp 31 rfl ⟨_,_,rfl,rfl,trivial⟩ ?_
     refine Yp 32 rfl ⟨_,_,rfl,rfl,trivial⟩ ?_
     refine Yp 33 rfl ⟨_,_,rfl,rfl,trivial⟩ ?_
     refine Yp 34 rfl ⟨_,_,rfl,rfl,trivial⟩ ?_
     refine Yp 35 rfl ⟨_,_,rfl,rfl,hg24⟩ ?_
     refine Yu 36 rfl ⟨_,_,rfl,rfl,hg21⟩ (fun _=>X9 rfl hg24 rfl) ?_
     refine Yo 37 rfl (fun _=>X9 rfl hg21 rfl) ?_
     refine Yd fun a hf=>?_
     have hEE:Below w4.heap.size w4 w5:=hEc
     exact ⟨hf.sub ⟨rfl,rfl,rfl,rfl,X1 rfl (by first|rfl|(simp only [hc8b,hc18b,hg21,hg24,bs];done)|simp [hc8b,hc18b,hg21,hg24]),trivial⟩,hEE⟩
    refine Yu 14 rfl ⟨_,_,rfl,rfl,hg24⟩ (fun _=>Vd rfl X2n 1) ?_
    refine Yv 15 rfl ⟨_,_,rfl,rfl,hg24⟩ (X0 rfl X65 (hB3.at 1)) ?_
    refine Yu 16 rfl ⟨_,_,rfl,rfl,hg24⟩ (fun _=>X8 rfl) ?_
    refine Yu 17 rfl ⟨_,_,rfl,rfl,hg24⟩ (fun _=>X11 rfl rfl (by omega) (by omega)) ?_
    refine Yi (k:=(k-1)) (u:=(g.es.getD (k-1) eZ)) (enc:=encE) (l:=g.es) 18 rfl ⟨_,_,rfl,rfl,hg24⟩ rfl rfl X27 X1x X19 (hr_g.below' hW) (X14 eZ (by omega)) (X4t (by assumption)) ?_;intro p26 hat25
    refine Yu 19 rfl ⟨_,_,rfl,rfl,hg24⟩ (fun _=>X6n rfl X1a) ?_
    refine Yv 20 rfl ⟨_,_,rfl,rfl,hg24⟩ (X0 rfl X5 (hat25.drop 0)) ?_
    refine Yu 21 rfl ⟨_,_,rfl,rfl,hg24⟩ (fun _=>Vd rfl X1a 0) ?_
    refine Yv 22 rfl ⟨_,_,rfl,rfl,hg24⟩ (X0 rfl X5 (hB14.at 0)) ?_
    refine Yu 23 rfl ⟨_,_,rfl,rfl,hg24⟩ (fun _=>X0s rfl rfl) ?_
    refine Yu 24 rfl ⟨_,_,rfl,rfl,hg24⟩ (fun _=>X8 rfl) ?_
    refine Yl 53 rfl (fun hg27=>?_) (fun hg27=>?_)
    ·refine Yu 25 rfl ⟨_,_,rfl,rfl,hg27⟩ (fun _=>Vd rfl X2n 1) ?_
     refine Yv 26 rfl ⟨_,_,rfl,rfl,hg27⟩ (X0 rfl X65 (hB3.at 1)) ?_
     refine Yu 27 rfl ⟨_,_,rfl,rfl,hg27⟩ (fun _=>X8 rfl) ?_
     refine Yu 28 rfl ⟨_,_,rfl,rfl,hg27⟩ (fun _=>X11 rfl rfl (by omega) (by omega)) ?_
     refine Yi (k:=(k-1)) (u:=(g.es.getD (k-1) eZ)) (enc:=encE) (l:=g.es) 29 rfl ⟨_,_,rfl,rfl,hg27⟩ rfl rfl X27 X1x X19 (hr_g.below' hW) (X14 eZ (by omega)) (X4t (by assumption)) ?_;intro p29 hat28
     refine Yu 30 rfl ⟨_,_,rfl,rfl,hg27⟩ (fun _=>X6n rfl X1m) ?_
     refine Yv 31 rfl ⟨_,_,rfl,rfl,hg27⟩ (X0 rfl X5 (hat28.drop 1)) ?_
     refine Yu 32 rfl ⟨_,_,rfl,rfl,hg27⟩ (fun _=>Vd rfl X1m 1) ?_
     refine Yv 33 rfl ⟨_,_,rfl,rfl,hg27⟩ (X0 rfl X5 (hB14.at 1)) ?_
     refine Yu 34 rfl ⟨_,_,rfl,rfl,hg27⟩ (fun _=>X7j rfl rfl) ?_
     refine Yu 35 rfl ⟨_,_,rfl,rfl,hg24⟩ (fun _=>X9 rfl hg27 rfl) ?_
     refine Yu 36 rfl ⟨_,_,rfl,rfl,hg21⟩ (fun _=>X7 rfl hg24 rfl) ?_
     refine Yo 37 rfl (fun _=>X9 rfl hg21 rfl) ?_
     refine Yd fun a hf=>?_
     have hEE:Below w4.heap.size w4 w5:=hEc
     exact ⟨hf.sub ⟨rfl,rfl,rfl,rfl,X1 rfl (by first|rfl|(simp only [hc8b,hc18b,hg21,hg24,hg27,bs];done)|simp [hc8b,hc18b,hg21,hg24,hg27]),trivial⟩,hEE⟩
    refine Yp 25 rfl ⟨_,_,rfl,rfl,hg27⟩ ?_
    refine Yp 26 rfl ⟨_,_,rfl,rfl,hg27⟩ ?_
    refine Yp 27 rfl ⟨_,_,rfl,rfl,hg27⟩ ?_
    refine Yp 28 rfl ⟨_,_,rfl,rfl,hg27⟩ ?_
    refine Yp 29 rfl ⟨_,_,rfl,rfl,hg27⟩ ?_
    refine Yp 30 rfl ⟨_,_,rfl,rfl,hg27⟩ ?_
    refine Yp 31 rfl ⟨_,_,rfl,rfl,hg27⟩ ?_
    refine Yp 32 rfl ⟨_,_,rfl,rfl,hg27⟩ ?_
    refine Yp 33 rfl ⟨_,_,rfl,rfl,hg27⟩ ?_
    refine Yp 34 rfl ⟨_,_,rfl,rfl,hg27⟩ ?_
    refine Yu 35 rfl ⟨_,_,rfl,rfl,hg24⟩ (fun _=>X7 rfl hg27 rfl) ?_
    refine Yu 36 rfl ⟨_,_,rfl,rfl,hg21⟩ (fun _=>X7 rfl hg24 rfl) ?_
    refine Yo 37 rfl (fun _=>X9 rfl hg21 rfl) ?_
    refine Yd fun a hf=>?_
    have hEE:Below w4.heap.size w4 w5:=hEc
    exact ⟨hf.sub ⟨rfl,rfl,rfl,rfl,X1 rfl (by first|rfl|(simp only [hc8b,hc18b,hg21,hg24,hg27,bs];done)|simp [hc8b,hc18b,hg21,hg24,hg27]),trivial⟩,hEE⟩
   refine Yp 3 rfl ⟨_,_,rfl,rfl,hg21⟩ ?_
   refine Yp 4 rfl ⟨_,_,rfl,rfl,hg21⟩ ?_
   refine Yp 5 rfl ⟨_,_,rfl,rfl,hg21⟩ ?_
   refine Yp 6 rfl ⟨_,_,rfl,rfl,hg21⟩ ?_
   refine Yp 7 rfl ⟨_,_,rfl,rfl,hg21⟩ ?_
   refine Yp 8 rfl ⟨_,_,rfl,rfl,hg21⟩ ?_
   refine Yp 9 rfl ⟨_,_,rfl,rfl,hg21⟩ ?_
   refine Yp 10 rfl ⟨_,_,rfl,rfl,hg21⟩ ?_
   refine Yp 11 rfl ⟨_,_,rfl,rfl,hg21⟩ ?_
   refine Yp 12 rfl ⟨_,_,rfl,rfl,hg21⟩ ?_
   refine Yp 13 rfl ⟨_,_,rfl,rfl,hg21⟩ ?_
   refine Yp 14 rfl ⟨_,_,rfl,rfl,trivial⟩ ?_
   refine Yp 15 rfl ⟨_,_,rfl,rfl,trivial⟩ ?_
   refine Yp 16 rfl ⟨_,_,rfl,rfl,trivial⟩ ?_
   refine Yp 17 rfl ⟨_,_,rfl,rfl,trivial⟩ ?_
   refine Yp 18 rfl ⟨_,_,rfl,rfl,trivial⟩ ?_
   refine Yp 19 rfl ⟨_,_,rfl,rfl,trivial⟩ ?_
   refine Yp 20 rfl ⟨_,_,rfl,rfl,trivial⟩ ?_
   refine Yp 21 rfl ⟨_,_,rfl,rfl,trivial⟩ ?_
   refine Yp 22 rfl ⟨_,_,rfl,rfl,trivial⟩ ?_
   refine Yp 23 rfl ⟨_,_,rfl,rfl,trivial⟩ ?_
   refine Yp 24 rfl ⟨_,_,rfl,rfl,trivial⟩ ?_
   refine Yp 25 rfl ⟨_,_,rfl,rfl,trivial⟩ ?_
   refine Yp 26 rfl ⟨_,_,rfl,rfl,trivial⟩ ?_
   refine Yp 27 rfl ⟨_,_,rfl,rfl,trivial⟩ ?_
   refine Yp 28 rfl ⟨_,_,rfl,rfl,trivial⟩ ?_
   refine Yp 29 rfl ⟨_,_,rfl,rfl,trivial⟩ ?_
   refine Yp 30 rfl ⟨_,_,rfl,rfl,trivial⟩ ?_
   refine Yp 31 rfl ⟨_,_,rfl,rfl,trivial⟩ ?_
   refine Yp 32 rfl ⟨_,_,rfl,rfl,trivial⟩ ?_
   refine Yp 33 rfl ⟨_,_,rfl,rfl,trivial⟩ ?_
   refine Yp 34 rfl ⟨_,_,rfl,rfl,trivial⟩ ?_
   refine Yp 35 rfl ⟨_,_,rfl,rfl,trivial⟩ ?_
   refine Yp 36 rfl ⟨_,_,rfl,rfl,hg21⟩ ?_
   refine Yo 37 rfl (fun _=>X7 rfl hg21 rfl) ?_
   refine Yd fun a hf=>?_
   have hEE:Below w4.heap.size w4 w5:=hEc
   exact ⟨hf.sub ⟨rfl,rfl,rfl,rfl,X1 rfl (by first|rfl|(simp only [hc8b,hc18b,hg21,bs];done)|simp [hc8b,hc18b,hg21]),trivial⟩,hEE⟩
  rintro a w6 ⟨hf,hE⟩
  replace hB3:=hB3.below hE
  replace hB14:=hB14.below hE
  replace hW:=btr hW hE
  refine hK20 _ _ ?_
  refine Xb hf rfl (fun hc30=>?_) (fun hc30=>?_)
  ·have hc30b:=hc30
   have hb:badS g.n g.es k=true:=by unfold badS ordE;rw [hgu,← X9r];rw [show (decide ((0:Int)<(k:Int))&&(decide (u9.a<(g.es.getD (k-1) eZ).a)||(g.es.getD (k-1) eZ).a==u9.a&&decide (u9.b≤(g.es.getD (k-1) eZ).b)))=true from hc30,Bool.or_true]
   refine Zs hf fun _ hK31=>?_
   refine Za rfl ?_
   refine Zt hK31 fun a hf=>?_
   refine wp_ret ?_
   refine Xj ?_
   refine X3 ?_
   refine X3 ?_
   refine Xj ?_
   refine X3 ?_
   refine X2 hf (Xh hf rfl rfl) ?_
   exact ⟨by rw [gpS,X2f (by omega) hb];rfl,hW⟩
  have hc30b:=hc30
  have hbf:badS g.n g.es k=false:=by unfold badS ordE;rw [hgu,← X9r];rw [show (decide ((0:Int)<(k:Int))&&(decide (u9.a<(g.es.getD (k-1) eZ).a)||(g.es.getD (k-1) eZ).a==u9.a&&decide (u9.b≤(g.es.getD (k-1) eZ).b)))=false from hc30,Bool.or_false];exact hb1
  refine wp_skip ?_
  refine Xn ?_
  refine hK10 _ _ ?_
  refine Zr hf ?_
  refine Ze (Xy rfl rfl (by omega) (by omega))<|Zm rfl ?_
  refine Zn fun a hf=>?_
  refine Xk ?_
  exact ⟨k+1,⟨hf.sub ⟨rfl,rfl,rfl,rfl,trivial⟩,(by omega),(X2i hA hbf),hB3,hW⟩,(by omega)⟩
 have hc8b:=hc8
 have hc8:=of_decide_eq_false hc8
 refine wp_exit ?_
 refine Xm ?_
 refine Xm ?_
 refine X03 ?_
 refine hK4 _ _ ?_
 refine Zs hf fun _ hK32=>?_
 refine Ze (Vd rfl X1t 0)<|Ze (X0 rfl X5 (hB3.at 0)) ?_
 refine Zf (Vc (F85 _ g.n 1 8) X2q) ?_;rintro _ _ ⟨rfl,rfl⟩
 refine Za rfl ?_
 refine Zt hK32 fun a hf=>?_
 refine wp_ret (X2 hf (Xh hf rfl rfl) ?_)
 have hfin:gpS g=inR g.n 1 8:=by rw [gpS,show g.es.length=k from by omega,hA];rfl
 exact ⟨by rw [hfin],hW⟩
theorem Xss(w0:World)(n:Int)(Aes:Option Addr)(ces:Nat)(es:List Ed)(hr_es:Rd w0 w0.heap.size 164 encE Aes es)(hln:es.length≤2305843009213693951) : Ret Tryz.prog 161 [vi n,.slice Aes es.length ces] w0 (fun v w=>v=.bool (!(List.range es.length).any (badI n es))∧Below w0.heap.size w0 w):=by
 refine enter Tryz.func161 rfl 68 rfl rfl ?_
 intro a hf
 have hW:Below w0.heap.size w0 w0:=Below.refl _ _
 refine Zs hf fun _ hK2=>?_
 refine Za rfl ?_
 refine Zt hK2 fun a hf=>?_
 refine wp_seq_k fun _ hK3=>?_
 refine Zs hf fun _ hK4=>?_
 refine Zm rfl<|Ze (X0d rfl X27)<|Zm rfl ?_
 refine Zt hK4 fun a hf=>?_
 refine wp_block ?_
 refine X04 (σ:=Nat) (fun (k:Nat) (a:Act) (w:World)=>Fr a 68 [(0,vi n),(1,.slice Aes es.length ces),(7,.slice Aes es.length ces),(8,vi (es.length:Int)),(9,vi (k:Int))]∧(k≤es.length)∧((List.range k).any (badI n es)=false)∧Below w0.heap.size w0 w) (fun (k:Nat)=>es.length-k) 0 ?_ ?_
 · exact ⟨hf.sub ⟨rfl,rfl,rfl,rfl,rfl,trivial⟩,(Nat.zero_le _),rfl,hW⟩
 rintro k a w1 ⟨hf,hk,hA,hW⟩
 refine Zs hf fun _ hK5=>?_
 refine Ze (X0m rfl rfl) ?_
 refine Zt hK5 fun a hf=>?_
 refine wp_seq_k fun _ hK6=>?_
 refine Xb hf rfl (fun hc7=>?_) (fun hc7=>?_)
 ·have hc7b:=hc7
  have hc7:=of_decide_eq_true hc7
  obtain ⟨u8,hu8⟩:=Xf (l:=es) (k:=k) (by omega)
  have hgu:=getD_some (d:=eZ) hu8
  have hbe:badI n es k=((decide (u8.a<0)||decide (u8.b≤u8.a)||decide (n≤u8.b))||(decide ((0:Int)<(k:Int))&&(decide (u8.a<(es.getD (k-1) eZ).a)||(es.getD (k-1) eZ).a==u8.a&&decide (u8.b≤(es.getD (k-1) eZ).b)))):=by unfold badI ordE;rw [hgu,← X9r]
  refine wp_skip ?_
  refine hK6 _ _ ?_
  refine wp_seq_k fun _ hK9=>?_
  refine wp_block ?_
  refine Zs hf fun _ hK10=>?_
  refine Zm rfl ?_
  refine Zi (k:=k) (u:=u8) (enc:=encE) (l:=es) trivial rfl rfl X27 X1x X19 (hr_es.below' hW) hu8 rfl ?_;intro p12 hat11
  refine Ze (Xi (l:=[vi u8.a,vi u8.b]) rfl X3m hat11 rfl) ?_
  refine Zf (Xa (zs:=[vi 0,vi 0]) X8r rfl) ?_;rintro _ w2 ⟨b13,rfl,hl13,hE,hB13⟩
  have hlo13:=Nat.le_trans hW.size hl13
  have haw1_13:=(hr_es.below' hW).away hl13
  replace hW:=btr hW hE
  refine Za rfl ?_
  refine Zo (Vw [vi u8.a,vi u8.b] X1x hB13) ?_;rintro _ w3 ⟨ho,hb⟩
  have hold:=hB13
  replace hW:=Below.only hW ho hlo13
  clear hold
  have hB13:=hb
  clear hb ho
  refine Zt hK10 fun a hf=>?_
  refine wp_seq_k fun _ hK14=>?_
  refine X06 (fun a w=>Fr a 68 [(0,vi n),(1,.slice Aes es.length ces),(7,.slice Aes es.length ces),(8,vi (es.length:Int)),(9,vi (k:Int)),(66,.bool ((((decide (u8.a<0))||(decide (u8.b≤u8.a)))||(decide (n≤u8.b)))||((decide (0<(k:Int)))&&((decide (u8.a<((es.getD (k-1) eZ).a)))||((((es.getD (k-1) eZ).a)==u8.a)&&(decide (u8.b≤((es.getD (k-1) eZ).b))))))))]∧Below w3.heap.size w3 w) ?_ ?_
  ·have hEc:Below w3.heap.size w3 w3:=Below.refl _ _
   refine X05 none (fun _=>false) mixed ?_
   intro w4 hE
   replace hB13:=hB13.below hE
   replace hW:=btr hW hE
   replace hEc:=btr hEc hE
   refine Yb hf ?_
   refine Yo 0 rfl (fun _=>Vd rfl X1a 0)<|Ye 1 rfl (X0 rfl X5 (hB13.at 0))<|Yo 2 rfl (fun _=>X0m rfl rfl)<|Yo 3 rfl (fun _=>X8 rfl) ?_
   refine Yl 17 rfl (fun hg15=>?_) (fun hg15=>?_)
   ·refine Yp 4 rfl ⟨_,_,rfl,rfl,hg15⟩ ?_
    refine Yp 5 rfl ⟨_,_,rfl,rfl,hg15⟩ ?_
    refine Yp 6 rfl ⟨_,_,rfl,rfl,hg15⟩ ?_
    refine Yp 7 rfl ⟨_,_,rfl,rfl,hg15⟩ ?_
    refine Yp 8 rfl ⟨_,_,rfl,rfl,hg15⟩ ?_
    refine Yo 9 rfl (fun _=>X9 rfl hg15 rfl)<|Yo 10 rfl (fun _=>X8 rfl)<|Yp 11 rfl ⟨_,_,rfl,rfl,rfl⟩ ?_
    refine Yp 12 rfl ⟨_,_,rfl,rfl,rfl⟩ ?_
    refine Yp 13 rfl ⟨_,_,rfl,rfl,rfl⟩ ?_
    refine Yp 14 rfl ⟨_,_,rfl,rfl,rfl⟩ ?_
    refine Yo 15 rfl (fun _=>X9 rfl rfl rfl)<|Yo 16 rfl (fun _=>X8 rfl)<|Yp 17 rfl ⟨_,_,rfl,rfl,rfl⟩ ?_
    refine Yp 18 rfl ⟨_,_,rfl,rfl,rfl⟩ ?_
    refine Yp 19 rfl ⟨_,_,rfl,rfl,rfl⟩ ?_
    refine Yp 20 rfl ⟨_,_,rfl,rfl,trivial⟩ ?_
    refine Yp 21 rfl ⟨_,_,rfl,rfl,trivial⟩ ?_
    refine Yp 22 rfl ⟨_,_,rfl,rfl,trivial⟩ ?_
    refine Yp 23 rfl ⟨_,_,rfl,rfl,trivial⟩ ?_
    refine Yp 24 rfl ⟨_,_,rfl,rfl,trivial⟩ ?_
    refine Yp 25 rfl ⟨_,_,rfl,rfl,trivial⟩ ?_
    refine Yp 26 rfl ⟨_,_,rfl,rfl,trivial⟩ ?_
    refine Yp 27 rfl ⟨_,_,rfl,rfl,trivial⟩ ?_
    refine Yp 28 rfl ⟨_,_,rfl,rfl,trivial⟩ ?_
    refine Yp 29 rfl ⟨_,_,rfl,rfl,trivial⟩ ?_
    refine Yp 30 rfl ⟨_,_,rfl,rfl,trivial⟩ ?_
    refine Yp 31 rfl ⟨_,_,rfl,rfl,trivial⟩ ?_
    refine Yp 32 rfl ⟨_,_,rfl,rfl,trivial⟩ ?_
    refine Yp 33 rfl ⟨_,_,rfl,rfl,trivial⟩ ?_
    refine Yp 34 rfl ⟨_,_,rfl,rfl,trivial⟩ ?_
    refine Yp 35 rfl ⟨_,_,rfl,rfl,trivial⟩ ?_
    refine Yp 36 rfl ⟨_,_,rfl,rfl,trivial⟩ ?_
    refine Yp 37 rfl ⟨_,_,rfl,rfl,trivial⟩ ?_
    refine Yp 38 rfl ⟨_,_,rfl,rfl,trivial⟩ ?_
    refine Yp 39 rfl ⟨_,_,rfl,rfl,trivial⟩ ?_
    refine Yp 40 rfl ⟨_,_,rfl,rfl,trivial⟩ ?_
    refine Yp 41 rfl ⟨_,_,rfl,rfl,trivial⟩ ?_
    refine Yp 42 rfl ⟨_,_,rfl,rfl,trivial⟩ ?_
    refine Yp 43 rfl ⟨_,_,rfl,rfl,trivial⟩ ?_
    refine Yp 44 rfl ⟨_,_,rfl,rfl,trivial⟩ ?_
    refine Yp 45 rfl ⟨_,_,rfl,rfl,trivial⟩ ?_
    refine Yp 46 rfl ⟨_,_,rfl,rfl,trivial⟩ ?_
    refine Yp 47 rfl ⟨_,_,rfl,rfl,trivial⟩ ?_
    refine Yp 48 rfl ⟨_,_,rfl,rfl,trivial⟩ ?_
    refine Yp 49 rfl ⟨_,_,rfl,rfl,trivial⟩ ?_
    refine Yp 50 rfl ⟨_,_,rfl,rfl,trivial⟩ ?_
    refine Yp 51 rfl ⟨_,_,rfl,rfl,rfl⟩ ?_
    refine Yo 52 rfl (fun _=>X9 rfl rfl rfl) ?_
    refine Yd fun a hf=>?_
    have hEE:Below w3.heap.size w3 w4:=hEc
    exact ⟨hf.sub ⟨rfl,rfl,rfl,rfl,rfl,X1 rfl (by first|rfl|(simp only [hc7b,hg15,bs];done)|simp [hc7b,hg15]),trivial⟩,hEE⟩
   refine Yu 4 rfl ⟨_,_,rfl,rfl,hg15⟩ (fun _=>Vd rfl X1a 0) ?_
   refine Yv 5 rfl ⟨_,_,rfl,rfl,hg15⟩ (X0 rfl X5 (hB13.at 0)) ?_
   refine Yu 6 rfl ⟨_,_,rfl,rfl,hg15⟩ (fun _=>Vd rfl X1m 1) ?_
   refine Yv 7 rfl ⟨_,_,rfl,rfl,hg15⟩ (X0 rfl X5 (hB13.at 1)) ?_
   refine Yu 8 rfl ⟨_,_,rfl,rfl,hg15⟩ (fun _=>X7j rfl rfl) ?_
   refine Yo 9 rfl (fun _=>X7 rfl hg15 rfl)<|Yo 10 rfl (fun _=>X8 rfl) ?_
   refine Yl 24 rfl (fun hg16=>?_) (fun hg16=>?_)
   ·refine Yp 11 rfl ⟨_,_,rfl,rfl,hg16⟩ ?_
    refine Yp 12 rfl ⟨_,_,rfl,rfl,hg16⟩ ?_
    refine Yp 13 rfl ⟨_,_,rfl,rfl,hg16⟩ ?_
    refine Yp 14 rfl ⟨_,_,rfl,rfl,hg16⟩ ?_
    refine Yo 15 rfl (fun _=>X9 rfl hg16 rfl)<|Yo 16 rfl (fun _=>X8 rfl)<|Yp 17 rfl ⟨_,_,rfl,rfl,rfl⟩ ?_
    refine Yp 18 rfl ⟨_,_,rfl,rfl,rfl⟩ ?_
    refine Yp 19 rfl ⟨_,_,rfl,rfl,rfl⟩ ?_
    refine Yp 20 rfl ⟨_,_,rfl,rfl,trivial⟩ ?_
    refine Yp 21 rfl ⟨_,_,rfl,rfl,trivial⟩ ?_
    refine Yp 22 rfl ⟨_,_,rfl,rfl,trivial⟩ ?_
    refine Yp 23 rfl ⟨_,_,rfl,rfl,trivial⟩ ?_
    refine Yp 24 rfl ⟨_,_,rfl,rfl,trivial⟩ ?_
    refine Yp 25 rfl ⟨_,_,rfl,rfl,trivial⟩ ?_
    refine Yp 26 rfl ⟨_,_,rfl,rfl,trivial⟩ ?_
    refine Yp 27 rfl ⟨_,_,rfl,rfl,trivial⟩ ?_
    refine Yp 28 rfl ⟨_,_,rfl,rfl,trivial⟩ ?_
    refine Yp 29 rfl ⟨_,_,rfl,rfl,trivial⟩ ?_
    refine Yp 30 rfl ⟨_,_,rfl,rfl,trivial⟩ ?_
    refine Yp 31 rfl ⟨_,_,rfl,rfl,trivial⟩ ?_
    refine Yp 32 rfl ⟨_,_,rfl,rfl,trivial⟩ ?_
    refine Yp 33 rfl ⟨_,_,rfl,rfl,trivial⟩ ?_
    refine Yp 34 rfl ⟨_,_,rfl,rfl,trivial⟩ ?_
    refine Yp 35 rfl ⟨_,_,rfl,rfl,trivial⟩ ?_
    refine Yp 36 rfl ⟨_,_,rfl,rfl,trivial⟩ ?_
    refine Yp 37 rfl ⟨_,_,rfl,rfl,trivial⟩ ?_
    refine Yp 38 rfl ⟨_,_,rfl,rfl,trivial⟩ ?_
    refine Yp 39 rfl ⟨_,_,rfl,rfl,trivial⟩ ?_
    refine Yp 40 rfl ⟨_,_,rfl,rfl,trivial⟩ ?_
    refine Yp 41 rfl ⟨_,_,rfl,rfl,trivial⟩ ?_
    refine Yp 42 rfl ⟨_,_,rfl,rfl,trivial⟩ ?_
    refine Yp 43 rfl ⟨_,_,rfl,rfl,trivial⟩ ?_
    refine Yp 44 rfl ⟨_,_,rfl,rfl,trivial⟩ ?_
    refine Yp 45 rfl ⟨_,_,rfl,rfl,trivial⟩ ?_
    refine Yp 46 rfl ⟨_,_,rfl,rfl,trivial⟩ ?_
    refine Yp 47 rfl ⟨_,_,rfl,rfl,trivial⟩ ?_
    refine Yp 48 rfl ⟨_,_,rfl,rfl,trivial⟩ ?_
    refine Yp 49 rfl ⟨_,_,rfl,rfl,trivial⟩ ?_
    refine Yp 50 rfl ⟨_,_,rfl,rfl,trivial⟩ ?_
    refine Yp 51 rfl ⟨_,_,rfl,rfl,rfl⟩ ?_
    refine Yo 52 rfl (fun _=>X9 rfl rfl rfl) ?_
    refine Yd fun a hf=>?_
    have hEE:Below w3.heap.size w3 w4:=hEc
    exact ⟨hf.sub ⟨rfl,rfl,rfl,rfl,rfl,X1 rfl (by first|rfl|(simp only [hc7b,hg15,hg16,bs];done)|simp [hc7b,hg15,hg16]),trivial⟩,hEE⟩
   refine Yu 11 rfl ⟨_,_,rfl,rfl,hg16⟩ (fun _=>Vd rfl X1m 1) ?_
   refine Yv 12 rfl ⟨_,_,rfl,rfl,hg16⟩ (X0 rfl X5 (hB13.at 1)) ?_
   refine Yu 13 rfl ⟨_,_,rfl,rfl,hg16⟩ (fun _=>X8 rfl) ?_
   refine Yu 14 rfl ⟨_,_,rfl,rfl,hg16⟩ (fun _=>X7j rfl rfl) ?_
   refine Yo 15 rfl (fun _=>X7 rfl hg16 rfl)<|Yo 16 rfl (fun _=>X8 rfl) ?_
   refine Yl 30 rfl (fun hg17=>?_) (fun hg17=>?_)
   ·refine Yp 17 rfl ⟨_,_,rfl,rfl,hg17⟩ ?_
    refine Yp 18 rfl ⟨_,_,rfl,rfl,hg17⟩ ?_
    refine Yp 19 rfl ⟨_,_,rfl,rfl,hg17⟩ ?_
    refine Yp 20 rfl ⟨_,_,rfl,rfl,trivial⟩ ?_
    refine Yp 21 rfl ⟨_,_,rfl,rfl,trivial⟩ ?_
    refine Yp 22 rfl ⟨_,_,rfl,rfl,trivial⟩ ?_
    refine Yp 23 rfl ⟨_,_,rfl,rfl,trivial⟩ ?_
    refine Yp 24 rfl ⟨_,_,rfl,rfl,trivial⟩ ?_
    refine Yp 25 rfl ⟨_,_,rfl,rfl,trivial⟩ ?_
    refine Yp 26 rfl ⟨_,_,rfl,rfl,trivial⟩ ?_
    refine Yp 27 rfl ⟨_,_,rfl,rfl,trivial⟩ ?_
    refine Yp 28 rfl ⟨_,_,rfl,rfl,trivial⟩ ?_
    refine Yp 29 rfl ⟨_,_,rfl,rfl,trivial⟩ ?_
    refine Yp 30 rfl ⟨_,_,rfl,rfl,trivial⟩ ?_
    refine Yp 31 rfl ⟨_,_,rfl,rfl,trivial⟩ ?_
    refine Yp 32 rfl ⟨_,_,rfl,rfl,trivial⟩ ?_
    refine Yp 33 rfl ⟨_,_,rfl,rfl,trivial⟩ ?_
    refine Yp 34 rfl ⟨_,_,rfl,rfl,trivial⟩ ?_
    refine Yp 35 rfl ⟨_,_,rfl,rfl,trivial⟩ ?_
    refine Yp 36 rfl ⟨_,_,rfl,rfl,trivial⟩ ?_
    refine Yp 37 rfl ⟨_,_,rfl,rfl,trivial⟩ ?_
    refine Yp 38 rfl ⟨_,_,rfl,rfl,trivial⟩ ?_
    refine Yp 39 rfl ⟨_,_,rfl,rfl,trivial⟩ ?_
    refine Yp 40 rfl ⟨_,_,rfl,rfl,trivial⟩ ?_
    refine Yp 41 rfl ⟨_,_,rfl,rfl,trivial⟩ ?_
    refine Yp 42 rfl ⟨_,_,rfl,rfl,trivial⟩ ?_
    refine Yp 43 rfl ⟨_,_,rfl,rfl,trivial⟩ ?_
    refine Yp 44 rfl ⟨_,_,rfl,rfl,trivial⟩ ?_
    refine Yp 45 rfl ⟨_,_,rfl,rfl,trivial⟩ ?_
    refine Yp 46 rfl ⟨_,_,rfl,rfl,trivial⟩ ?_
    refine Yp 47 rfl ⟨_,_,rfl,rfl,trivial⟩ ?_
    refine Yp 48 rfl ⟨_,_,rfl,rfl,trivial⟩ ?_
    refine Yp 49 rfl ⟨_,_,rfl,rfl,trivial⟩ ?_
    refine Yp 50 rfl ⟨_,_,rfl,rfl,trivial⟩ ?_
    refine Yp 51 rfl ⟨_,_,rfl,rfl,hg17⟩ ?_
    refine Yo 52 rfl (fun _=>X9 rfl hg17 rfl) ?_
    refine Yd fun a hf=>?_
    have hEE:Below w3.heap.size w3 w4:=hEc
    exact ⟨hf.sub ⟨rfl,rfl,rfl,rfl,rfl,X1 rfl (by first|rfl|(simp only [hc7b,hg15,hg16,hg17,bs];done)|simp [hc7b,hg15,hg16,hg17]),trivial⟩,hEE⟩
   refine Yu 17 rfl ⟨_,_,rfl,rfl,hg17⟩ (fun _=>X8 rfl) ?_
   refine Yu 18 rfl ⟨_,_,rfl,rfl,hg17⟩ (fun _=>X42 rfl rfl) ?_
   refine Yu 19 rfl ⟨_,_,rfl,rfl,hg17⟩ (fun _=>X8 rfl) ?_
   refine Yl 33 rfl (fun hg18=>?_) (fun hg18=>?_)
   ·refine Yu 20 rfl ⟨_,_,rfl,rfl,hg18⟩ (fun _=>X8 rfl) ?_
    refine Yu 21 rfl ⟨_,_,rfl,rfl,hg18⟩ (fun _=>X8 rfl) ?_
    refine Yu 22 rfl ⟨_,_,rfl,rfl,hg18⟩ (fun _=>X11 rfl rfl (by omega) (by omega)) ?_
    refine Yi (k:=(k-1)) (u:=(es.getD (k-1) eZ)) (enc:=encE) (l:=es) 23 rfl ⟨_,_,rfl,rfl,hg18⟩ rfl rfl X27 X1x X19 (hr_es.below' hW) (X14 eZ (by omega)) (X4t (by assumption)) ?_;intro p20 hat19
    refine Yu 24 rfl ⟨_,_,rfl,rfl,hg18⟩ (fun _=>X6n rfl X1a) ?_
    refine Yv 25 rfl ⟨_,_,rfl,rfl,hg18⟩ (X0 rfl X5 (hat19.drop 0)) ?_
    refine Yu 26 rfl ⟨_,_,rfl,rfl,hg18⟩ (fun _=>Vd rfl X1a 0) ?_
    refine Yv 27 rfl ⟨_,_,rfl,rfl,hg18⟩ (X0 rfl X5 (hB13.at 0)) ?_
    refine Yu 28 rfl ⟨_,_,rfl,rfl,hg18⟩ (fun _=>X42 rfl rfl) ?_
    refine Yu 29 rfl ⟨_,_,rfl,rfl,hg18⟩ (fun _=>X8 rfl) ?_
    refine Yl 43 rfl (fun hg21=>?_) (fun hg21=>?_)
    ·refine Yp 30 rfl ⟨_,_,rfl,rfl,hg21⟩ ?_
     refine Yp 31 rfl ⟨_,_,rfl,rfl,hg21⟩ ?_
     refine Yp 32 rfl ⟨_,_,rfl,rfl,hg21⟩ ?_
     refine Yp 33 rfl ⟨_,_,rfl,rfl,hg21⟩ ?_
     refine Yp 34 rfl ⟨_,_,rfl,rfl,hg21⟩ ?_
     refine Yp 35 rfl ⟨_,_,rfl,rfl,hg21⟩ ?_
     refine Yp 36 rfl ⟨_,_,rfl,rfl,hg21⟩ ?_
     refine Yp 37 rfl ⟨_,_,rfl,rfl,hg21⟩ ?_
     refine Yp 38 rfl ⟨_,_,rfl,rfl,hg21⟩ ?_
     refine Yp 39 rfl ⟨_,_,rfl,rfl,hg21⟩ ?_
     refine Yp 40 rfl ⟨_,_,rfl,rfl,trivial⟩ ?_
     refine Yp 41 rfl ⟨_,_,rfl,rfl,trivial⟩ ?_
     refine Yp 42 rfl ⟨_,_,rfl,rfl,trivial⟩ ?_
     refine Yp 43 rfl ⟨_,_,rfl,rfl,trivial⟩ ?_
     refine Yp 44 rfl ⟨_,_,rfl,rfl,trivial⟩ ?_
     refine Yp 45 rfl ⟨_,_,rfl,rfl,trivial⟩ ?_
     refine Yp 46 rfl ⟨_,_,rfl,rfl,trivial⟩ ?_
     refine Yp 47 rfl ⟨_,_,rfl,rfl,trivial⟩ ?_
     refine Yp 48 rfl ⟨_,_,rfl,rfl,trivial⟩ ?_
     refine Yp 49 rfl ⟨_,_,rfl,rfl,hg21⟩ ?_
     refine Yu 50 rfl ⟨_,_,rfl,rfl,hg18⟩ (fun _=>X9 rfl hg21 rfl) ?_
     refine Yu 51 rfl ⟨_,_,rfl,rfl,hg17⟩ (fun _=>X9 rfl hg18 rfl) ?_
     refine Yo 52 rfl (fun _=>X7 rfl hg17 rfl) ?_
     refine Yd fun a hf=>?_
     have hEE:Below w3.heap.size w3 w4:=hEc
     exact ⟨hf.sub ⟨rfl,rfl,rfl,rfl,rfl,X1 rfl (by first|rfl|(simp only [hc7b,hg15,hg16,hg17,hg18,hg21,bs];done)|simp [hc7b,hg15,hg16,hg17,hg18,hg21]),trivial⟩,hEE⟩
    refine Yu 30 rfl ⟨_,_,rfl,rfl,hg21⟩ (fun _=>X8 rfl) ?_
    refine Yu 31 rfl ⟨_,_,rfl,rfl,hg21⟩ (fun _=>X8 rfl) ?_
    refine Yu 32 rfl ⟨_,_,rfl,rfl,hg21⟩ (fun _=>X11 rfl rfl (by omega) (by omega)) ?_
    refine Yi (k:=(k-1)) (u:=(es.getD (k-1) eZ)) (enc:=encE) (l:=es) 33 rfl ⟨_,_,rfl,rfl,hg21⟩ rfl rfl X27 X1x X19 (hr_es.below' hW) (X14 eZ (by omega)) (X4t (by assumption)) ?_;intro p23 hat22
    refine Yu 34 rfl ⟨_,_,rfl,rfl,hg21⟩ (fun _=>X6n rfl X1a) ?_
    refine Yv 35 rfl ⟨_,_,rfl,rfl,hg21⟩ (X0 rfl X5 (hat22.drop 0)) ?_
    refine Yu 36 rfl ⟨_,_,rfl,rfl,hg21⟩ (fun _=>Vd rfl X1a 0) ?_
    refine Yv 37 rfl ⟨_,_,rfl,rfl,hg21⟩ (X0 rfl X5 (hB13.at 0)) ?_
    refine Yu 38 rfl ⟨_,_,rfl,rfl,hg21⟩ (fun _=>X0s rfl rfl) ?_
    refine Yu 39 rfl ⟨_,_,rfl,rfl,hg21⟩ (fun _=>X8 rfl) ?_
    refine Yl 53 rfl (fun hg24=>?_) (fun hg24=>?_)
    ·refine Yu 40 rfl ⟨_,_,rfl,rfl,hg24⟩ (fun _=>X8 rfl) ?_
     refine Yu 41 rfl ⟨_,_,rfl,rfl,hg24⟩ (fun _=>X8 rfl) ?_
     refine Yu 42 rfl ⟨_,_,rfl,rfl,hg24⟩ (fun _=>X11 rfl rfl (by omega) (by omega)) ?_
     refine Yi (k:=(k-1)) (u:=(es.getD (k-1) eZ)) (enc:=encE) (l:=es) 43 rfl ⟨_,_,rfl,rfl,hg24⟩ rfl rfl X27 X1x X19 (hr_es.below' hW) (X14 eZ (by omega)) (X4t (by assumption)) ?_;intro p26 hat25
     refine Yu 44 rfl ⟨_,_,rfl,rfl,hg24⟩ (fun _=>X6n rfl X1m) ?_
     refine Yv 45 rfl ⟨_,_,rfl,rfl,hg24⟩ (X0 rfl X5 (hat25.drop 1)) ?_
     refine Yu 46 rfl ⟨_,_,rfl,rfl,hg24⟩ (fun _=>Vd rfl X1m 1) ?_
     refine Yv 47 rfl ⟨_,_,rfl,rfl,hg24⟩ (X0 rfl X5 (hB13.at 1)) ?_
     refine Yu 48 rfl ⟨_,_,rfl,rfl,hg24⟩ (fun _=>X7j rfl rfl) ?_
     refine Yu 49 rfl ⟨_,_,rfl,rfl,hg21⟩ (fun _=>X9 rfl hg24 rfl) ?_
     refine Yu 50 rfl ⟨_,_,rfl,rfl,hg18⟩ (fun _=>X7 rfl hg21 rfl) ?_
     refine Yu 51 rfl ⟨_,_,rfl,rfl,hg17⟩ (fun _=>X9 rfl hg18 rfl) ?_
     refine Yo 52 rfl (fun _=>X7 rfl hg17 rfl) ?_
     refine Yd fun a hf=>?_
     have hEE:Below w3.heap.size w3 w4:=hEc
     exact ⟨hf.sub ⟨rfl,rfl,rfl,rfl,rfl,X1 rfl (by first|rfl|(simp only [hc7b,hg15,hg16,hg17,hg18,hg21,hg24,bs];done)|simp [hc7b,hg15,hg16,hg17,hg18,hg21,hg24]),trivial⟩,hEE⟩
    refine Yp 40 rfl ⟨_,_,rfl,rfl,hg24⟩ ?_
    refine Yp 41 rfl ⟨_,_,rfl,rfl,hg24⟩ ?_
    refine Yp 42 rfl ⟨_,_,rfl,rfl,hg24⟩ ?_
    refine Yp 43 rfl ⟨_,_,rfl,rfl,hg24⟩ ?_
    refine Yp 44 rfl ⟨_,_,rfl,rfl,hg24⟩ ?_
    refine Yp 45 rfl ⟨_,_,rfl,rfl,hg24⟩ ?_
    refine Yp 46 rfl ⟨_,_,rfl,rfl,hg24⟩ ?_
    refine Yp 47 rfl ⟨_,_,rfl,rfl,hg24⟩ ?_
    refine Yp 48 rfl ⟨_,_,rfl,rfl,hg24⟩ ?_
    refine Yu 49 rfl ⟨_,_,rfl,rfl,hg21⟩ (fun _=>X7 rfl hg24 rfl) ?_
    refine Yu 50 rfl ⟨_,_,rfl,rfl,hg18⟩ (fun _=>X7 rfl hg21 rfl) ?_
    refine Yu 51 rfl ⟨_,_,rfl,rfl,hg17⟩ (fun _=>X9 rfl hg18 rfl) ?_
    refine Yo 52 rfl (fun _=>X7 rfl hg17 rfl) ?_
    refine Yd fun a hf=>?_
    have hEE:Below w3.heap.size w3 w4:=hEc
    exact ⟨hf.sub ⟨rfl,rfl,rfl,rfl,rfl,X1 rfl (by first|rfl|(simp only [hc7b,hg15,hg16,hg17,hg18,hg21,hg24,bs];done)|simp [hc7b,hg15,hg16,hg17,hg18,hg21,hg24]),trivial⟩,hEE⟩
   refine Yp 20 rfl ⟨_,_,rfl,rfl,hg18⟩ ?_
   refine Yp 21 rfl ⟨_,_,rfl,rfl,hg18⟩ ?_
   refine Yp 22 rfl ⟨_,_,rfl,rfl,hg18⟩ ?_
   refine Yp 23 rfl ⟨_,_,rfl,rfl,hg18⟩ ?_
   refine Yp 24 rfl ⟨_,_,rfl,rfl,hg18⟩ ?_
   refine Yp 25 rfl ⟨_,_,rfl,rfl,hg18⟩ ?_
   refine Yp 26 rfl ⟨_,_,rfl,rfl,hg18⟩ ?_
   refine Yp 27 rfl ⟨_,_,rfl,rfl,hg18⟩ ?_
   refine Yp 28 rfl ⟨_,_,rfl,rfl,hg18⟩ ?_
   refine Yp 29 rfl ⟨_,_,rfl,rfl,hg18⟩ ?_
   refine Yp 30 rfl ⟨_,_,rfl,rfl,trivial⟩ ?_
   refine Yp 31 rfl ⟨_,_,rfl,rfl,trivial⟩ ?_
   refine Yp 32 rfl ⟨_,_,rfl,rfl,trivial⟩ ?_
   refine Yp 33 rfl ⟨_,_,rfl,rfl,trivial⟩ ?_
   refine Yp 34 rfl ⟨_,_,rfl,rfl,trivial⟩ ?_
   refine Yp 35 rfl ⟨_,_,rfl,rfl,trivial⟩ ?_
   refine Yp 36 rfl ⟨_,_,rfl,rfl,trivial⟩ ?_
   refine Yp 37 rfl ⟨_,_,rfl,rfl,trivial⟩ ?_
   refine Yp 38 rfl ⟨_,_,rfl,rfl,trivial⟩ ?_
   refine Yp 39 rfl ⟨_,_,rfl,rfl,trivial⟩ ?_
   refine Yp 40 rfl ⟨_,_,rfl,rfl,trivial⟩ ?_
   refine Yp 41 rfl ⟨_,_,rfl,rfl,trivial⟩ ?_
   refine Yp 42 rfl ⟨_,_,rfl,rfl,trivial⟩ ?_
   refine Yp 43 rfl ⟨_,_,rfl,rfl,trivial⟩ ?_
   refine Yp 44 rfl ⟨_,_,rfl,rfl,trivial⟩ ?_
   refine Yp 45 rfl ⟨_,_,rfl,rfl,trivial⟩ ?_
   refine Yp 46 rfl ⟨_,_,rfl,rfl,trivial⟩ ?_
   refine Yp 47 rfl ⟨_,_,rfl,rfl,trivial⟩ ?_
   refine Yp 48 rfl ⟨_,_,rfl,rfl,trivial⟩ ?_
   refine Yp 49 rfl ⟨_,_,rfl,rfl,trivial⟩ ?_
   refine Yp 50 rfl ⟨_,_,rfl,rfl,hg18⟩ ?_
   refine Yu 51 rfl ⟨_,_,rfl,rfl,hg17⟩ (fun _=>X7 rfl hg18 rfl) ?_
   refine Yo 52 rfl (fun _=>X7 rfl hg17 rfl) ?_
   refine Yd fun a hf=>?_
   have hEE:Below w3.heap.size w3 w4:=hEc
   exact ⟨hf.sub ⟨rfl,rfl,rfl,rfl,rfl,X1 rfl (by first|rfl|(simp only [hc7b,hg15,hg16,hg17,hg18,bs];done)|simp [hc7b,hg15,hg16,hg17,hg18]),trivial⟩,hEE⟩
  rintro a w5 ⟨hf,hE⟩
  replace hB13:=hB13.below hE
  replace hW:=btr hW hE
  refine hK14 _ _ ?_
  refine Xb hf rfl (fun hc27=>?_) (fun hc27=>?_)
  ·have hc27b:=hc27
   have hb:badI n es k=true:=by rw [hbe];exact hc27
   refine Zs hf fun _ hK28=>?_
   refine Za rfl ?_
   refine Zt hK28 fun a hf=>?_
   refine wp_ret ?_
   refine Xj ?_
   refine X3 ?_
   refine X3 ?_
   refine Xj ?_
   refine X3 ?_
   refine X2 hf (Xh hf rfl rfl) ?_
   exact ⟨by rw [X2f (by omega) hb];rfl,hW⟩
  have hc27b:=hc27
  have hbf:badI n es k=false:=by rw [hbe];exact hc27
  refine wp_skip ?_
  refine Xn ?_
  refine hK9 _ _ ?_
  refine Zr hf ?_
  refine Ze (Xy rfl rfl (by omega) (by omega))<|Zm rfl ?_
  refine Zn fun a hf=>?_
  refine Xk ?_
  exact ⟨k+1,⟨hf.sub ⟨rfl,rfl,rfl,rfl,rfl,trivial⟩,(by omega),(X2i hA hbf),hW⟩,(by omega)⟩
 have hc7b:=hc7
 have hc7:=of_decide_eq_false hc7
 refine wp_exit ?_
 refine Xm ?_
 refine Xm ?_
 refine X03 ?_
 refine hK3 _ _ ?_
 refine Zs hf fun _ hK29=>?_
 refine Za rfl ?_
 refine Zt hK29 fun a hf=>?_
 refine wp_ret (X2 hf (Xh hf rfl rfl) ?_)
 exact ⟨by rw [show es.length=k from by omega,hA];rfl,hW⟩
theorem Xsp(w0:World)(g:Gp)(Ag:Option Addr)(cg:Nat)(hr_g:Rd w0 w0.heap.size 164 encE Ag g.es)(hln:g.es.length≤2305843009213693951) : Ret Tryz.prog 122 [.agg #[vi g.n,.slice Ag g.es.length cg]] w0 (fun v w=>v=.bool (gpI g)∧Below w0.heap.size w0 w):=by
 refine enter Tryz.func122 rfl 13 rfl rfl ?_
 intro a hf
 have hW:Below w0.heap.size w0 w0:=Below.refl _ _
 refine Zs hf fun _ hK2=>?_
 refine Zf (Xu (zs:=[vi g.n,.slice Ag g.es.length cg]) rfl rfl) ?_;rintro _ w1 ⟨b3,rfl,hl3,hE,hB3⟩
 have hlo3:=Nat.le_trans hW.size hl3
 replace hW:=btr hW hE
 refine Za rfl ?_
 refine Zt hK2 fun a hf=>?_
 refine wp_seq_k fun _ hK4=>?_
 refine X06 (fun a w=>Fr a 13 [(2,.bool ((inR g.n 1 8)&&(!(List.range g.es.length).any (badI g.n g.es))))]∧Below w1.heap.size w1 w) ?_ ?_
 ·have hEc:Below w1.heap.size w1 w1:=Below.refl _ _
  refine Zr hf ?_
  refine Ze (Vd rfl X1t 0)<|Ze (X0 rfl X5 (hB3.at 0)) ?_
  refine Zf (Vc (F91 _ g.n 1 8) X2t) ?_;rintro _ _ ⟨rfl,rfl⟩
  refine Zm rfl ?_
  refine Zg 6 rfl (fun hg5=>?_) (fun hg5=>?_)
  ·refine Zv ⟨_,_,rfl,rfl,hg5⟩ (Vd rfl X1t 0) ?_
   refine Zv ⟨_,_,rfl,rfl,hg5⟩ (X0 rfl X5 (hB3.at 0)) ?_
   refine Zv ⟨_,_,rfl,rfl,hg5⟩ (Vd rfl X2n 1) ?_
   refine Zv ⟨_,_,rfl,rfl,hg5⟩ (X0 rfl X65 (hB3.at 1)) ?_
   refine Zk ⟨_,_,rfl,rfl,hg5⟩ (Vc (Xss _ g.n Ag cg g.es (hr_g.below' hW).top hln) Xm2) ?_;rintro _ w2 ⟨rfl,hE⟩
   replace hB3:=hB3.below hE
   replace hW:=btr hW hE
   replace hEc:=btr hEc hE
   refine Ze (X9 rfl hg5 rfl)<|Za rfl ?_
   refine Zn fun a hf=>?_
   have hEE:Below w1.heap.size w1 w2:=hEc
   exact ⟨hf.sub ⟨X1 rfl (by first|rfl|(simp only [hg5,bs];done)|simp [hg5]),trivial⟩,hEE⟩
  refine Zp ⟨_,_,rfl,rfl,hg5⟩ ?_
  refine Zp ⟨_,_,rfl,rfl,hg5⟩ ?_
  refine Zp ⟨_,_,rfl,rfl,hg5⟩ ?_
  refine Zp ⟨_,_,rfl,rfl,hg5⟩ ?_
  refine Zp ⟨_,_,rfl,rfl,hg5⟩ ?_
  refine Ze (X7 rfl hg5 rfl)<|Za rfl ?_
  refine Zn fun a hf=>?_
  have hEE:Below w1.heap.size w1 w1:=hEc
  exact ⟨hf.sub ⟨X1 rfl (by first|rfl|(simp only [hg5,bs];done)|simp [hg5]),trivial⟩,hEE⟩
 rintro a w3 ⟨hf,hE⟩
 replace hB3:=hB3.below hE
 replace hW:=btr hW hE
 refine hK4 _ _ ?_
 refine wp_ret (X2 hf (Xh hf rfl rfl) ?_)
 exact ⟨by simp only [gpI],hW⟩
theorem Xra(w0:World)(g:Gp)(Ag:Option Addr)(cg:Nat)(hr_g:Rd w0 w0.heap.size 164 encE Ag g.es)(m:Int)(Ap:Option Addr)(cp:Nat)(p:List Int)(hr_p:Rd w0 w0.heap.size 3 encI Ap p)(hpc:p.length≤cp)(hln:p.length≤2305843009213693951) : Ret Tryz.prog 155 [.agg #[vi g.n,.slice Ag g.es.length cg],vi m,.slice Ap p.length cp] w0 (fun v w=>v=.bool (plS g.n m p)∧Below w0.heap.size w0 w):=by
 refine enter Tryz.func155 rfl 34 rfl rfl ?_
 intro a hf
 have hW:Below w0.heap.size w0 w0:=Below.refl _ _
 refine Zs hf fun _ hK3=>?_
 refine Zf (Xu (zs:=[vi g.n,.slice Ag g.es.length cg]) rfl rfl) ?_;rintro _ w1 ⟨b4,rfl,hl4,hE,hB4⟩
 have hlo4:=Nat.le_trans hW.size hl4
 replace hW:=btr hW hE
 refine Za rfl ?_
 refine Zt hK3 fun a hf=>?_
 refine wp_seq_k fun _ hK5=>?_
 refine Zs hf fun _ hK6=>?_
 refine Zm rfl<|Ze (X0d rfl X0b)<|Zm rfl ?_
 refine Zt hK6 fun a hf=>?_
 refine wp_block ?_
 refine X04 (σ:=Nat) (fun (k:Nat) (a:Act) (w:World)=>Fr a 34 [(1,vi m),(2,.slice Ap p.length cp),(3,.pointer (some ⟨b4,0,none⟩)),(9,.slice Ap p.length cp),(10,vi (p.length:Int)),(11,vi (k:Int))]∧(k≤p.length)∧((List.range k).any (badP g.n p)=false)∧Blk w b4 79 [vi g.n,.slice Ag g.es.length cg]∧Below w0.heap.size w0 w) (fun (k:Nat)=>p.length-k) 0 ?_ ?_
 · exact ⟨hf.sub ⟨rfl,rfl,rfl,rfl,rfl,rfl,trivial⟩,(Nat.zero_le _),rfl,hB4,hW⟩
 rintro k a w2 ⟨hf,hk,hA,hB4,hW⟩
 refine Zs hf fun _ hK7=>?_
 refine Ze (X0m rfl rfl) ?_
 refine Zt hK7 fun a hf=>?_
 refine wp_seq_k fun _ hK8=>?_
 refine Xb hf rfl (fun hc9=>?_) (fun hc9=>?_)
 ·have hc9b:=hc9
  have hc9:=of_decide_eq_true hc9
  obtain ⟨u10,hu10⟩:=Xf (l:=p) (k:=k) (by omega)
  have hgu:=getD_some (d:=(0:Int)) hu10
  have hbe:badP g.n p k=(!inR u10 0 (wr (g.n-1))||((p.take k).any fun y=>y==u10)):=by unfold badP;rw [hgu]
  refine wp_skip ?_
  refine hK8 _ _ ?_
  refine wp_seq_k fun _ hK11=>?_
  refine wp_block ?_
  refine Zs hf fun _ hK12=>?_
  refine Zm rfl ?_
  refine Zi (k:=k) (u:=u10) (enc:=encI) (l:=p) trivial rfl rfl X0b X0z Xz (hr_p.below' hW) hu10 rfl ?_;intro p14 hat13
  refine Ze (X0 rfl X5 hat13)<|Za rfl<|Za rfl ?_
  refine Zt hK12 fun a hf=>?_
  refine wp_seq_k fun _ hK15=>?_
  refine X06 (fun a w=>Fr a 34 [(1,vi m),(2,.slice Ap p.length cp),(3,.pointer (some ⟨b4,0,none⟩)),(9,.slice Ap p.length cp),(10,vi (p.length:Int)),(11,vi (k:Int)),(28,.bool ((!(inR u10 0 (wr (g.n-1))))||((p.take k).any fun y=>y==u10)))]∧Below w2.heap.size w2 w) ?_ ?_
  ·have hEc:Below w2.heap.size w2 w2:=Below.refl _ _
   refine Zr hf ?_
   refine Zm rfl<|Ze (Vd rfl X1t 0)<|Ze (X0 rfl X5 (hB4.at 0))<|Ze (X3a rfl rfl) ?_
   refine Zf (Vc (F85 _ u10 0 (wr (g.n-1))) X2q) ?_;rintro _ _ ⟨rfl,rfl⟩
   refine Ze (X09 rfl)<|Zm rfl ?_
   refine Zg 22 rfl (fun hg16=>?_) (fun hg16=>?_)
   ·refine Zp ⟨_,_,rfl,rfl,hg16⟩ ?_
    refine Zp ⟨_,_,rfl,rfl,hg16⟩ ?_
    refine Zp ⟨_,_,rfl,rfl,hg16⟩ ?_
    refine Zp ⟨_,_,rfl,rfl,hg16⟩ ?_
    refine Zp ⟨_,_,rfl,rfl,hg16⟩ ?_
    refine Ze (X9 rfl hg16 rfl) ?_
    refine Zn fun a hf=>?_
    have hEE:Below w2.heap.size w2 w2:=hEc
    exact ⟨hf.sub ⟨rfl,rfl,rfl,rfl,rfl,rfl,X1 rfl (by first|rfl|(simp only [hc9b,hg16,bs];done)|simp [hc9b,hg16]),trivial⟩,hEE⟩
   refine Zv ⟨_,_,rfl,rfl,hg16⟩ (X8 rfl) ?_
   refine Zv ⟨_,_,rfl,rfl,hg16⟩ (X8 rfl) ?_
   have hr17:=((hr_p.below' hW).top).takeK Xz k
   refine Zv ⟨_,_,rfl,rfl,hg16⟩ (X6h (l:=p) (k:=k) rfl rfl X0b X0z rfl (by omega) hpc) ?_
   refine Zv ⟨_,_,rfl,rfl,hg16⟩ (X8 rfl) ?_
   refine Zk ⟨_,_,rfl,rfl,hg16⟩ (Vc (Xoz _ Ap cp (p.take k) hr17.top u10 (by rw [List.length_take];omega)) Xhl) ?_;rintro _ w3 ⟨rfl,hE⟩
   replace hB4:=hB4.below hE
   replace hr17:=hr17.below hE
   replace hW:=btr hW hE
   replace hEc:=btr hEc hE
   refine Ze (X7 rfl hg16 rfl) ?_
   refine Zn fun a hf=>?_
   have hEE:Below w2.heap.size w2 w3:=hEc
   exact ⟨hf.sub ⟨rfl,rfl,rfl,rfl,rfl,rfl,X1 rfl (by first|rfl|(simp only [hc9b,hg16,bs];done)|simp [hc9b,hg16]),trivial⟩,hEE⟩
  rintro a w4 ⟨hf,hE⟩
  replace hB4:=hB4.below hE
  replace hW:=btr hW hE
  refine hK15 _ _ ?_
  refine Xb hf rfl (fun hc18=>?_) (fun hc18=>?_)
  ·have hc18b:=hc18
   have hb:badP g.n p k=true:=by rw [hbe];exact hc18
   refine Zs hf fun _ hK19=>?_
   refine Za rfl ?_
   refine Zt hK19 fun a hf=>?_
   refine wp_ret ?_
   refine Xj ?_
   refine X3 ?_
   refine X3 ?_
   refine Xj ?_
   refine X3 ?_
   refine X2 hf (Xh hf rfl rfl) ?_
   exact ⟨by rw [plS,X2f (by omega) hb];rfl,hW⟩
  have hc18b:=hc18
  have hbf:badP g.n p k=false:=by rw [hbe];exact hc18
  refine wp_skip ?_
  refine Xn ?_
  refine hK11 _ _ ?_
  refine Zr hf ?_
  refine Ze (Xy rfl rfl (by omega) (by omega))<|Zm rfl ?_
  refine Zn fun a hf=>?_
  refine Xk ?_
  exact ⟨k+1,⟨hf.sub ⟨rfl,rfl,rfl,rfl,rfl,rfl,trivial⟩,(by omega),(X2i hA hbf),hB4,hW⟩,(by omega)⟩
 have hc9b:=hc9
 have hc9:=of_decide_eq_false hc9
 refine wp_exit ?_
 refine Xm ?_
 refine Xm ?_
 refine X03 ?_
 refine hK5 _ _ ?_
 refine Zs hf fun _ hK20=>?_
 refine Zm rfl<|Ze (X0d rfl X0b)<|Zm rfl<|Ze (X0s rfl rfl)<|Za rfl ?_
 refine Zt hK20 fun a hf=>?_
 refine wp_ret (X2 hf (Xh hf rfl rfl) ?_)
 exact ⟨by rw [plS,show (List.range p.length).any (badP g.n p)=false from by rw [show p.length=k from by omega];exact hA];rfl,hW⟩
theorem Xr0(w0:World)(g:Gp)(Ag:Option Addr)(cg:Nat)(hr_g:Rd w0 w0.heap.size 164 encE Ag g.es)(m:Int)(Ap:Option Addr)(cp:Nat)(p:List Int)(hr_p:Rd w0 w0.heap.size 3 encI Ap p)(hpc:p.length≤cp)(hln:p.length≤2305843009213693951) : Ret Tryz.prog 162 [.agg #[vi g.n,.slice Ag g.es.length cg],vi m,.slice Ap p.length cp] w0 (fun v w=>v=.bool (plI g.n m p)∧Below w0.heap.size w0 w):=by
 refine enter Tryz.func162 rfl 34 rfl rfl ?_
 intro a hf
 have hW:Below w0.heap.size w0 w0:=Below.refl _ _
 refine Zs hf fun _ hK3=>?_
 refine Zf (Xu (zs:=[vi g.n,.slice Ag g.es.length cg]) rfl rfl) ?_;rintro _ w1 ⟨b4,rfl,hl4,hE,hB4⟩
 have hlo4:=Nat.le_trans hW.size hl4
 replace hW:=btr hW hE
 refine Za rfl ?_
 refine Zt hK3 fun a hf=>?_
 refine wp_seq_k fun _ hK5=>?_
 refine Zs hf fun _ hK6=>?_
 refine Zm rfl<|Ze (X0d rfl X0b)<|Zm rfl ?_
 refine Zt hK6 fun a hf=>?_
 refine wp_block ?_
 refine X04 (σ:=Nat) (fun (k:Nat) (a:Act) (w:World)=>Fr a 34 [(1,vi m),(2,.slice Ap p.length cp),(3,.pointer (some ⟨b4,0,none⟩)),(9,.slice Ap p.length cp),(10,vi (p.length:Int)),(11,vi (k:Int))]∧(k≤p.length)∧((List.range k).any (badQ g.n p)=false)∧Blk w b4 79 [vi g.n,.slice Ag g.es.length cg]∧Below w0.heap.size w0 w) (fun (k:Nat)=>p.length-k) 0 ?_ ?_
 · exact ⟨hf.sub ⟨rfl,rfl,rfl,rfl,rfl,rfl,trivial⟩,(Nat.zero_le _),rfl,hB4,hW⟩
 rintro k a w2 ⟨hf,hk,hA,hB4,hW⟩
 refine Zs hf fun _ hK7=>?_
 refine Ze (X0m rfl rfl) ?_
 refine Zt hK7 fun a hf=>?_
 refine wp_seq_k fun _ hK8=>?_
 refine Xb hf rfl (fun hc9=>?_) (fun hc9=>?_)
 ·have hc9b:=hc9
  have hc9:=of_decide_eq_true hc9
  obtain ⟨u10,hu10⟩:=Xf (l:=p) (k:=k) (by omega)
  have hgu:=getD_some (d:=(0:Int)) hu10
  have hbe:badQ g.n p k=(!inR u10 0 (wr (g.n-1))||((p.take k).any fun y=>u10==y)):=by unfold badQ;rw [hgu]
  refine wp_skip ?_
  refine hK8 _ _ ?_
  refine wp_seq_k fun _ hK11=>?_
  refine wp_block ?_
  refine Zs hf fun _ hK12=>?_
  refine Zm rfl ?_
  refine Zi (k:=k) (u:=u10) (enc:=encI) (l:=p) trivial rfl rfl X0b X0z Xz (hr_p.below' hW) hu10 rfl ?_;intro p14 hat13
  refine Ze (X0 rfl X5 hat13)<|Za rfl<|Za rfl ?_
  refine Zt hK12 fun a hf=>?_
  refine wp_seq_k fun _ hK15=>?_
  refine X06 (fun a w=>Fr a 34 [(1,vi m),(2,.slice Ap p.length cp),(3,.pointer (some ⟨b4,0,none⟩)),(9,.slice Ap p.length cp),(10,vi (p.length:Int)),(11,vi (k:Int)),(28,.bool ((!(inR u10 0 (wr (g.n-1))))||((p.take k).any fun y=>u10==y)))]∧Below w2.heap.size w2 w) ?_ ?_
  ·have hEc:Below w2.heap.size w2 w2:=Below.refl _ _
   refine Zr hf ?_
   refine Zm rfl<|Ze (Vd rfl X1t 0)<|Ze (X0 rfl X5 (hB4.at 0))<|Ze (X3a rfl rfl) ?_
   refine Zf (Vc (F91 _ u10 0 (wr (g.n-1))) X2t) ?_;rintro _ _ ⟨rfl,rfl⟩
   refine Ze (X09 rfl)<|Zm rfl ?_
   refine Zg 22 rfl (fun hg16=>?_) (fun hg16=>?_)
   ·refine Zp ⟨_,_,rfl,rfl,hg16⟩ ?_
    refine Zp ⟨_,_,rfl,rfl,hg16⟩ ?_
    refine Zp ⟨_,_,rfl,rfl,hg16⟩ ?_
    refine Zp ⟨_,_,rfl,rfl,hg16⟩ ?_
    refine Zp ⟨_,_,rfl,rfl,hg16⟩ ?_
    refine Ze (X9 rfl hg16 rfl) ?_
    refine Zn fun a hf=>?_
    have hEE:Below w2.heap.size w2 w2:=hEc
    exact ⟨hf.sub ⟨rfl,rfl,rfl,rfl,rfl,rfl,X1 rfl (by first|rfl|(simp only [hc9b,hg16,bs];done)|simp [hc9b,hg16]),trivial⟩,hEE⟩
   refine Zv ⟨_,_,rfl,rfl,hg16⟩ (X8 rfl) ?_
   refine Zv ⟨_,_,rfl,rfl,hg16⟩ (X8 rfl) ?_
   have hr17:=((hr_p.below' hW).top).takeK Xz k
   refine Zv ⟨_,_,rfl,rfl,hg16⟩ (X6h (l:=p) (k:=k) rfl rfl X0b X0z rfl (by omega) hpc) ?_
   refine Zv ⟨_,_,rfl,rfl,hg16⟩ (X8 rfl) ?_
   refine Zk ⟨_,_,rfl,rfl,hg16⟩ (Vc (Xpn _ Ap cp (p.take k) hr17.top u10 (by rw [List.length_take];omega)) Xgt) ?_;rintro _ w3 ⟨rfl,hE⟩
   replace hB4:=hB4.below hE
   replace hr17:=hr17.below hE
   replace hW:=btr hW hE
   replace hEc:=btr hEc hE
   refine Ze (X7 rfl hg16 rfl) ?_
   refine Zn fun a hf=>?_
   have hEE:Below w2.heap.size w2 w3:=hEc
   exact ⟨hf.sub ⟨rfl,rfl,rfl,rfl,rfl,rfl,X1 rfl (by first|rfl|(simp only [hc9b,hg16,bs];done)|simp [hc9b,hg16]),trivial⟩,hEE⟩
  rintro a w4 ⟨hf,hE⟩
  replace hB4:=hB4.below hE
  replace hW:=btr hW hE
  refine hK15 _ _ ?_
  refine Xb hf rfl (fun hc18=>?_) (fun hc18=>?_)
  ·have hc18b:=hc18
   have hb:badQ g.n p k=true:=by rw [hbe];exact hc18
   refine Zs hf fun _ hK19=>?_
   refine Za rfl ?_
   refine Zt hK19 fun a hf=>?_
   refine wp_ret ?_
   refine Xj ?_
   refine X3 ?_
   refine X3 ?_
   refine Xj ?_
   refine X3 ?_
   refine X2 hf (Xh hf rfl rfl) ?_
   exact ⟨by rw [plI,X2f (by omega) hb];rfl,hW⟩
  have hc18b:=hc18
  have hbf:badQ g.n p k=false:=by rw [hbe];exact hc18
  refine wp_skip ?_
  refine Xn ?_
  refine hK11 _ _ ?_
  refine Zr hf ?_
  refine Ze (Xy rfl rfl (by omega) (by omega))<|Zm rfl ?_
  refine Zn fun a hf=>?_
  refine Xk ?_
  exact ⟨k+1,⟨hf.sub ⟨rfl,rfl,rfl,rfl,rfl,rfl,trivial⟩,(by omega),(X2i hA hbf),hB4,hW⟩,(by omega)⟩
 have hc9b:=hc9
 have hc9:=of_decide_eq_false hc9
 refine wp_exit ?_
 refine Xm ?_
 refine Xm ?_
 refine X03 ?_
 refine hK5 _ _ ?_
 refine Zs hf fun _ hK20=>?_
 refine Zm rfl<|Ze (X0d rfl X0b)<|Zm rfl<|Ze (X0s rfl rfl)<|Za rfl ?_
 refine Zt hK20 fun a hf=>?_
 refine wp_ret (X2 hf (Xh hf rfl rfl) ?_)
 exact ⟨by rw [plI,show (List.range p.length).any (badQ g.n p)=false from by rw [show p.length=k from by omega];exact hA];rfl,hW⟩
end Go.Proofs.YtfgnmflfiobkmaaGreat
set_option maxRecDepth 4000
namespace Go.Proofs.YtfgnmflfiobkmaaGreat
open Go.RowKit
theorem Xpj(w0:World)(g:Gp)(Ag:Option Addr)(cg:Nat)(hr_g:Rd w0 w0.heap.size 164 encE Ag g.es)(p:Int)(q:Int)(hln:g.es.length≤2305843009213693951) : Ret Tryz.prog 157 [.agg #[vi g.n,.slice Ag g.es.length cg],vi p,vi q] w0 (fun v w=>v=.bool (edgS g p q)∧Below w0.heap.size w0 w):=by
 refine enter Tryz.func157 rfl 39 rfl rfl ?_
 intro a hf
 have hW:Below w0.heap.size w0 w0:=Below.refl _ _
 refine Zs hf fun _ hK2=>?_
 refine Zf (Xu (zs:=[vi g.n,.slice Ag g.es.length cg]) rfl rfl) ?_;rintro _ w1 ⟨b3,rfl,hl3,hE,hB3⟩
 have hlo3:=Nat.le_trans hW.size hl3
 replace hW:=btr hW hE
 refine Za rfl ?_
 refine Zt hK2 fun a hf=>?_
 refine wp_seq_k fun _ hK4=>?_
 refine Zs hf fun _ hK5=>?_
 refine Ze (Vd rfl X2n 1)<|Ze (X0 rfl X65 (hB3.at 1))<|Ze (X0d rfl X27)<|Zm rfl ?_
 refine Zt hK5 fun a hf=>?_
 refine wp_block ?_
 refine X04 (σ:=Nat) (fun (k:Nat) (a:Act) (w:World)=>Fr a 39 [(1,vi p),(2,vi q),(10,.slice Ag g.es.length cg),(11,vi (g.es.length:Int)),(12,vi (k:Int))]∧(k≤g.es.length)∧((g.es.take k).all (fun e=>!(e.a==p&&e.b==q||e.a==q&&e.b==p))=true)∧Below w0.heap.size w0 w) (fun (k:Nat)=>g.es.length+1-k) 0 ?_ ?_
 · exact ⟨hf.sub ⟨rfl,rfl,rfl,rfl,rfl,trivial⟩,(Nat.zero_le _),(by simp),hW⟩
 rintro k a w2 ⟨hf,hk,hpre,hW⟩
 refine Zs hf fun _ hK6=>?_
 refine Ze (X0m rfl rfl) ?_
 refine Zt hK6 fun a hf=>?_
 refine wp_seq_k fun _ hK7=>?_
 refine Xb hf rfl (fun hc8=>?_) (fun hc8=>?_)
 ·have hc8b:=hc8
  have hc8:=of_decide_eq_true hc8
  obtain ⟨u9,hu9⟩:=Xf (l:=g.es) (k:=k) (by omega)
  refine wp_skip ?_
  refine hK7 _ _ ?_
  refine wp_seq_k fun _ hK10=>?_
  refine wp_block ?_
  refine Zs hf fun _ hK11=>?_
  refine Zi (k:=k) (u:=u9) (enc:=encE) (l:=g.es) trivial rfl rfl X27 X1x X19 (hr_g.below' hW) hu9 rfl ?_;intro p13 hat12
  refine Ze (Xi (l:=[vi u9.a,vi u9.b]) rfl X3m hat12 rfl) ?_
  refine Zf (Xa (zs:=[vi 0,vi 0]) X8r rfl) ?_;rintro _ w3 ⟨b14,rfl,hl14,hE,hB14⟩
  have hlo14:=Nat.le_trans hW.size hl14
  have haw1_14:=(hr_g.below' hW).away hl14
  replace hW:=btr hW hE
  refine Zo (Vw [vi u9.a,vi u9.b] X1x hB14) ?_;rintro _ w4 ⟨ho,hb⟩
  have hold:=hB14
  replace hW:=Below.only hW ho hlo14
  clear hold
  have hB14:=hb
  clear hb ho
  refine Zt hK11 fun a hf=>?_
  refine wp_seq_k fun _ hK15=>?_
  refine X06 (fun a w=>Fr a 39 [(1,vi p),(2,vi q),(10,.slice Ag g.es.length cg),(11,vi (g.es.length:Int)),(12,vi (k:Int)),(37,.bool (((u9.a==p)&&(u9.b==q))||((u9.a==q)&&(u9.b==p))))]∧w4=w) ?_ ?_
  ·refine Zr hf ?_
   refine Ze (Vd rfl X1a 0)<|Ze (X0 rfl X5 (hB14.at 0))<|Zm rfl<|Ze (X0s rfl rfl)<|Zm rfl ?_
   refine Zg 20 rfl (fun hg16=>?_) (fun hg16=>?_)
   ·refine Zv ⟨_,_,rfl,rfl,hg16⟩ (Vd rfl X1m 1) ?_
    refine Zv ⟨_,_,rfl,rfl,hg16⟩ (X0 rfl X5 (hB14.at 1)) ?_
    refine Zv ⟨_,_,rfl,rfl,hg16⟩ (X8 rfl) ?_
    refine Zv ⟨_,_,rfl,rfl,hg16⟩ (X0s rfl rfl) ?_
    refine Ze (X9 rfl hg16 rfl)<|Zm rfl ?_
    refine Zg 26 rfl (fun hg17=>?_) (fun hg17=>?_)
    ·refine Zp ⟨_,_,rfl,rfl,hg17⟩ ?_
     refine Zp ⟨_,_,rfl,rfl,hg17⟩ ?_
     refine Zp ⟨_,_,rfl,rfl,hg17⟩ ?_
     refine Zp ⟨_,_,rfl,rfl,hg17⟩ ?_
     refine Zp ⟨_,_,rfl,rfl,hg17⟩ ?_
     refine Zp ⟨_,_,rfl,rfl,trivial⟩ ?_
     refine Zp ⟨_,_,rfl,rfl,trivial⟩ ?_
     refine Zp ⟨_,_,rfl,rfl,trivial⟩ ?_
     refine Zp ⟨_,_,rfl,rfl,trivial⟩ ?_
     refine Zp ⟨_,_,rfl,rfl,hg17⟩ ?_
     refine Ze (X9 rfl hg17 rfl) ?_
     refine Zn fun a hf=>?_
     exact ⟨hf.sub ⟨rfl,rfl,rfl,rfl,rfl,X1 rfl (by first|rfl|(simp only [hc8b,hg16,hg17,bs];done)|simp [hc8b,hg16,hg17]),trivial⟩,rfl⟩
    refine Zv ⟨_,_,rfl,rfl,hg17⟩ (Vd rfl X1a 0) ?_
    refine Zv ⟨_,_,rfl,rfl,hg17⟩ (X0 rfl X5 (hB14.at 0)) ?_
    refine Zv ⟨_,_,rfl,rfl,hg17⟩ (X8 rfl) ?_
    refine Zv ⟨_,_,rfl,rfl,hg17⟩ (X0s rfl rfl) ?_
    refine Zv ⟨_,_,rfl,rfl,hg17⟩ (X8 rfl) ?_
    refine Zg 31 rfl (fun hg18=>?_) (fun hg18=>?_)
    ·refine Zv ⟨_,_,rfl,rfl,hg18⟩ (Vd rfl X1m 1) ?_
     refine Zv ⟨_,_,rfl,rfl,hg18⟩ (X0 rfl X5 (hB14.at 1)) ?_
     refine Zv ⟨_,_,rfl,rfl,hg18⟩ (X8 rfl) ?_
     refine Zv ⟨_,_,rfl,rfl,hg18⟩ (X0s rfl rfl) ?_
     refine Zv ⟨_,_,rfl,rfl,hg17⟩ (X9 rfl hg18 rfl) ?_
     refine Ze (X7 rfl hg17 rfl) ?_
     refine Zn fun a hf=>?_
     exact ⟨hf.sub ⟨rfl,rfl,rfl,rfl,rfl,X1 rfl (by first|rfl|(simp only [hc8b,hg16,hg17,hg18,bs];done)|simp [hc8b,hg16,hg17,hg18]),trivial⟩,rfl⟩
    refine Zp ⟨_,_,rfl,rfl,hg18⟩ ?_
    refine Zp ⟨_,_,rfl,rfl,hg18⟩ ?_
    refine Zp ⟨_,_,rfl,rfl,hg18⟩ ?_
    refine Zp ⟨_,_,rfl,rfl,hg18⟩ ?_
    refine Zv ⟨_,_,rfl,rfl,hg17⟩ (X7 rfl hg18 rfl) ?_
    refine Ze (X7 rfl hg17 rfl) ?_
    refine Zn fun a hf=>?_
    exact ⟨hf.sub ⟨rfl,rfl,rfl,rfl,rfl,X1 rfl (by first|rfl|(simp only [hc8b,hg16,hg17,hg18,bs];done)|simp [hc8b,hg16,hg17,hg18]),trivial⟩,rfl⟩
   refine Zp ⟨_,_,rfl,rfl,hg16⟩ ?_
   refine Zp ⟨_,_,rfl,rfl,hg16⟩ ?_
   refine Zp ⟨_,_,rfl,rfl,hg16⟩ ?_
   refine Zp ⟨_,_,rfl,rfl,hg16⟩ ?_
   refine Ze (X7 rfl hg16 rfl)<|Zm rfl<|Zv ⟨_,_,rfl,rfl,rfl⟩ (Vd rfl X1a 0) ?_
   refine Zv ⟨_,_,rfl,rfl,rfl⟩ (X0 rfl X5 (hB14.at 0)) ?_
   refine Zv ⟨_,_,rfl,rfl,rfl⟩ (X8 rfl) ?_
   refine Zv ⟨_,_,rfl,rfl,rfl⟩ (X0s rfl rfl) ?_
   refine Zv ⟨_,_,rfl,rfl,rfl⟩ (X8 rfl) ?_
   refine Zg 31 rfl (fun hg19=>?_) (fun hg19=>?_)
   ·refine Zv ⟨_,_,rfl,rfl,hg19⟩ (Vd rfl X1m 1) ?_
    refine Zv ⟨_,_,rfl,rfl,hg19⟩ (X0 rfl X5 (hB14.at 1)) ?_
    refine Zv ⟨_,_,rfl,rfl,hg19⟩ (X8 rfl) ?_
    refine Zv ⟨_,_,rfl,rfl,hg19⟩ (X0s rfl rfl) ?_
    refine Zv ⟨_,_,rfl,rfl,rfl⟩ (X9 rfl hg19 rfl) ?_
    refine Ze (X7 rfl rfl rfl) ?_
    refine Zn fun a hf=>?_
    exact ⟨hf.sub ⟨rfl,rfl,rfl,rfl,rfl,X1 rfl (by first|rfl|(simp only [hc8b,hg16,hg19,bs];done)|simp [hc8b,hg16,hg19]),trivial⟩,rfl⟩
   refine Zp ⟨_,_,rfl,rfl,hg19⟩ ?_
   refine Zp ⟨_,_,rfl,rfl,hg19⟩ ?_
   refine Zp ⟨_,_,rfl,rfl,hg19⟩ ?_
   refine Zp ⟨_,_,rfl,rfl,hg19⟩ ?_
   refine Zv ⟨_,_,rfl,rfl,rfl⟩ (X7 rfl hg19 rfl) ?_
   refine Ze (X7 rfl rfl rfl) ?_
   refine Zn fun a hf=>?_
   exact ⟨hf.sub ⟨rfl,rfl,rfl,rfl,rfl,X1 rfl (by first|rfl|(simp only [hc8b,hg16,hg19,bs];done)|simp [hc8b,hg16,hg19]),trivial⟩,rfl⟩
  rintro a _ ⟨hf,rfl⟩
  refine hK15 _ _ ?_
  refine Xb hf rfl (fun hc20=>?_) (fun hc20=>?_)
  ·have hc20b:=hc20
   have hb2:edgS g p q=true:=X1y hu9 hc20
   refine Zs hf fun _ hK21=>?_
   refine Za rfl ?_
   refine Zt hK21 fun a hf=>?_
   refine wp_ret ?_
   refine Xj ?_
   refine X3 ?_
   refine X3 ?_
   refine Xj ?_
   refine X3 ?_
   refine X2 hf (Xh hf rfl rfl) ?_
   exact ⟨by rw [hb2],hW⟩
  have hc20b:=hc20
  have hok:(!(u9.a==p&&u9.b==q||u9.a==q&&u9.b==p))=true:=by rw [show (u9.a==p&&u9.b==q||u9.a==q&&u9.b==p)=false from hc20];rfl
  refine wp_skip ?_
  refine Xn ?_
  refine hK10 _ _ ?_
  refine Zr hf ?_
  refine Ze (Xy rfl rfl (by omega) (by omega))<|Zm rfl ?_
  refine Zn fun a hf=>?_
  refine Xk ?_
  exact ⟨k+1,⟨hf.sub ⟨rfl,rfl,rfl,rfl,rfl,trivial⟩,(by omega),(X1l hpre hu9 hok),hW⟩,(by omega)⟩
 have hc8b:=hc8
 have hc8:=of_decide_eq_false hc8
 refine wp_exit ?_
 refine Xm ?_
 refine Xm ?_
 refine X03 ?_
 refine hK4 _ _ ?_
 refine Zs hf fun _ hK22=>?_
 refine Za rfl ?_
 refine Zt hK22 fun a hf=>?_
 refine wp_ret (X2 hf (Xh hf rfl rfl) ?_)
 have hb2:edgS g p q=false:=X1s (X1h hpre (by omega))
 exact ⟨by rw [hb2],hW⟩
theorem Xsg(w0:World)(Al:Option Addr)(cl:Nat)(l:List Ed)(hr_l:Rd w0 w0.heap.size 164 encE Al l)(x:Ed)(hln:l.length≤2305843009213693951) : Ret Tryz.prog 237 [.slice Al l.length cl,.agg #[vi x.a,vi x.b]] w0 (fun v w=>∃ i:Int,v=vi i∧decide (0≤i)=(l.any fun y=>decide (x=y))∧Below w0.heap.size w0 w):=by
 refine enter Tryz.func237 rfl 19 rfl rfl ?_
 intro a hf
 have hW:Below w0.heap.size w0 w0:=Below.refl _ _
 refine Zs hf fun _ hK2=>?_
 refine Zf (Xu (zs:=[vi x.a,vi x.b]) rfl rfl) ?_;rintro _ w1 ⟨b3,rfl,hl3,hE,hB3⟩
 have hlo3:=Nat.le_trans hW.size hl3
 have haw1_3:=(hr_l.below' hW).away hl3
 replace hW:=btr hW hE
 refine Za rfl ?_
 refine Zt hK2 fun a hf=>?_
 refine wp_seq_k fun _ hK4=>?_
 refine Zs hf fun _ hK5=>?_
 refine Zm rfl<|Ze (X0d rfl X27)<|Zm rfl ?_
 refine Zt hK5 fun a hf=>?_
 refine wp_block ?_
 refine X04 (σ:=Nat) (fun (k:Nat) (a:Act) (w:World)=>Fr a 19 [(0,.slice Al l.length cl),(3,.pointer (some ⟨b3,0,none⟩)),(7,vi (l.length:Int)),(8,vi (k:Int))]∧(k≤l.length)∧((l.take k).all (fun y=>!decide (x=y))=true)∧Blk w b3 164 [vi x.a,vi x.b]∧Below w0.heap.size w0 w) (fun (k:Nat)=>l.length+1-k) 0 ?_ ?_
 · exact ⟨hf.sub ⟨rfl,rfl,rfl,rfl,trivial⟩,(Nat.zero_le _),(by simp),hB3,hW⟩
 rintro k a w2 ⟨hf,hk,hpre,hB3,hW⟩
 refine Zs hf fun _ hK6=>?_
 refine Ze (X0m rfl rfl) ?_
 refine Zt hK6 fun a hf=>?_
 refine wp_seq_k fun _ hK7=>?_
 refine Xb hf rfl (fun hc8=>?_) (fun hc8=>?_)
 ·have hc8b:=hc8
  have hc8:=of_decide_eq_true hc8
  obtain ⟨u9,hu9⟩:=Xf (l:=l) (k:=k) (by omega)
  refine wp_skip ?_
  refine hK7 _ _ ?_
  refine wp_seq_k fun _ hK10=>?_
  refine wp_block ?_
  refine Zs hf fun _ hK11=>?_
  refine Zm rfl<|Za rfl ?_
  refine Zt hK11 fun a hf=>?_
  refine wp_seq_k fun _ hK12=>?_
  refine X05 none (fun _=>false) mixed ?_
  intro w3 hE
  replace hB3:=hB3.below hE
  replace hW:=btr hW hE
  refine Yb hf ?_
  refine Ye 0 rfl (Vn X3m hB3)<|Yo 1 rfl (fun _=>X8 rfl)<|Yo 2 rfl (fun _=>X8 rfl) ?_
  refine Yi (k:=k) (u:=u9) (enc:=encE) (l:=l) 3 rfl trivial rfl rfl X27 X1x X19 (hr_l.below' hW) hu9 rfl ?_;intro p14 hat13
  refine Ye 4 rfl (Xi (l:=[vi u9.a,vi u9.b]) rfl X3m hat13 rfl)<|Yo 5 rfl (fun _=>Xph rfl rfl Xlv (fun w=>eqE 9998 x u9 w)) ?_
  refine Yd fun a hf=>?_
  refine hK12 _ _ ?_
  refine Xb hf rfl (fun hc15=>?_) (fun hc15=>?_)
  ·have hc15b:=hc15
   have hc15:=of_decide_eq_true hc15
   have hb2:(l.any fun y=>decide (x=y))=true:=X1y hu9 hc15b
   refine Zs hf fun _ hK16=>?_
   refine Zm rfl<|Za rfl ?_
   refine Zt hK16 fun a hf=>?_
   refine wp_ret ?_
   refine Xj ?_
   refine X3 ?_
   refine X3 ?_
   refine Xj ?_
   refine X3 ?_
   refine X2 hf (Xh hf rfl rfl) ?_
   exact ⟨_,rfl,by rw [hb2];simp,hW⟩
  have hc15b:=hc15
  have hc15:=of_decide_eq_false hc15
  have hok:(!decide (x=u9))=true:=by rw [hc15b];rfl
  refine wp_skip ?_
  refine Xn ?_
  refine hK10 _ _ ?_
  refine Zr hf ?_
  refine Ze (Xy rfl rfl (by omega) (by omega))<|Zm rfl ?_
  refine Zn fun a hf=>?_
  refine Xk ?_
  exact ⟨k+1,⟨hf.sub ⟨rfl,rfl,rfl,rfl,trivial⟩,(by omega),(X1l hpre hu9 hok),hB3,hW⟩,(by omega)⟩
 have hc8b:=hc8
 have hc8:=of_decide_eq_false hc8
 refine wp_exit ?_
 refine Xm ?_
 refine Xm ?_
 refine X03 ?_
 refine hK4 _ _ ?_
 refine Zs hf fun _ hK17=>?_
 refine Za rfl ?_
 refine Zt hK17 fun a hf=>?_
 refine wp_ret (X2 hf (Xh hf rfl rfl) ?_)
 have hb2:(l.any fun y=>decide (x=y))=false:=X1s (X1h hpre (by omega))
 exact ⟨_,rfl,by rw [hb2];rfl,hW⟩
theorem Xs6(w0:World)(Al:Option Addr)(cl:Nat)(l:List Ed)(hr_l:Rd w0 w0.heap.size 164 encE Al l)(x:Ed)(hln:l.length≤2305843009213693951) : Ret Tryz.prog 208 [.slice Al l.length cl,.agg #[vi x.a,vi x.b]] w0 (fun v w=>v=.bool (l.any fun y=>decide (x=y))∧Below w0.heap.size w0 w):=by
 refine enter Tryz.func208 rfl 9 rfl rfl ?_
 intro a hf
 have hW:Below w0.heap.size w0 w0:=Below.refl _ _
 refine Zs hf fun _ hK2=>?_
 refine Zf (Xu (zs:=[vi x.a,vi x.b]) rfl rfl) ?_;rintro _ w1 ⟨b3,rfl,hl3,hE,hB3⟩
 have hlo3:=Nat.le_trans hW.size hl3
 have haw1_3:=(hr_l.below' hW).away hl3
 replace hW:=btr hW hE
 refine Za rfl ?_
 refine Zt hK2 fun a hf=>?_
 refine Zs hf fun _ hK4=>?_
 refine Zm rfl<|Ze (Vn X3m hB3) ?_
 refine Zf (Vc (Xsg _ Al cl l (hr_l.below' hW).top x hln) Xmk) ?_;rintro _ w2 ⟨ix,rfl,hix,hE⟩
 replace hB3:=hB3.below hE
 replace hW:=btr hW hE
 refine Ze (X7j rfl rfl)<|Za rfl ?_
 refine Zt hK4 fun a hf=>?_
 refine wp_ret (X2 hf (Xh hf rfl rfl) ?_)
 exact ⟨by rw [← hix],hW⟩
theorem Xq0(w0:World)(g:Gp)(Ag:Option Addr)(cg:Nat)(hr_g:Rd w0 w0.heap.size 164 encE Ag g.es)(p:Int)(q:Int)(hln:g.es.length≤2305843009213693951) : Ret Tryz.prog 165 [.agg #[vi g.n,.slice Ag g.es.length cg],vi p,vi q] w0 (fun v w=>v=.bool (edgI g p q)∧Below w0.heap.size w0 w):=by
 refine enter Tryz.func165 rfl 17 rfl rfl ?_
 intro a hf
 have hW:Below w0.heap.size w0 w0:=Below.refl _ _
 refine Zs hf fun _ hK2=>?_
 refine Zf (Xu (zs:=[vi g.n,.slice Ag g.es.length cg]) rfl rfl) ?_;rintro _ w1 ⟨b3,rfl,hl3,hE,hB3⟩
 have hlo3:=Nat.le_trans hW.size hl3
 replace hW:=btr hW hE
 refine Za rfl ?_
 refine Zt hK2 fun a hf=>?_
 refine Zs hf fun _ hK4=>?_
 refine Ze (Vd rfl X2n 1)<|Ze (X0 rfl X65 (hB3.at 1))<|Zm rfl<|Zm rfl<|Ze (Xsc rfl rfl) ?_
 refine Zm rfl<|Zm rfl<|Ze (Xnz rfl rfl)<|Ze (X01 (ps:=[(0,vi (min p q)),(1,vi (max p q))]) (cs:=[vi (min p q),vi (max p q)]) rfl (fun _=>by first|rfl|kernel_rfl)) ?_
 refine Zf (Vc (Xs6 _ Ag cg g.es (hr_g.below' hW).top (⟨min p q,max p q⟩ : Ed) hln) Xmp) ?_;rintro _ w2 ⟨rfl,hE⟩
 replace hB3:=hB3.below hE
 replace hW:=btr hW hE
 refine Za rfl ?_
 refine Zt hK4 fun a hf=>?_
 refine wp_ret (X2 hf (Xh hf rfl rfl) ?_)
 exact ⟨rfl,hW⟩
theorem Xt0(w0:World)(Al:Option Addr)(cl:Nat)(l:List Bool)(hr_l:Rd w0 w0.heap.size 4 encB Al l)(x:Bool)(hln:l.length≤2305843009213693951) : Ret Tryz.prog 207 [.slice Al l.length cl,.bool x] w0 (fun v w=>∃ i:Int,v=vi i∧decide (0≤i)=(l.any fun y=>x==y)∧Below w0.heap.size w0 w):=by
 refine enter Tryz.func207 rfl 19 rfl rfl ?_
 intro a hf
 have hW:Below w0.heap.size w0 w0:=Below.refl _ _
 refine Zs hf fun _ hK2=>?_
 refine Za rfl ?_
 refine Zt hK2 fun a hf=>?_
 refine wp_seq_k fun _ hK3=>?_
 refine Zs hf fun _ hK4=>?_
 refine Zm rfl<|Ze (X0d rfl X35)<|Zm rfl ?_
 refine Zt hK4 fun a hf=>?_
 refine wp_block ?_
 refine X04 (σ:=Nat) (fun (k:Nat) (a:Act) (w:World)=>Fr a 19 [(0,.slice Al l.length cl),(1,.bool x),(7,vi (l.length:Int)),(8,vi (k:Int))]∧(k≤l.length)∧((l.take k).all (fun y=>!(x==y))=true)∧Below w0.heap.size w0 w) (fun (k:Nat)=>l.length+1-k) 0 ?_ ?_
 · exact ⟨hf.sub ⟨rfl,rfl,rfl,rfl,trivial⟩,(Nat.zero_le _),(by simp),hW⟩
 rintro k a w1 ⟨hf,hk,hpre,hW⟩
 refine Zs hf fun _ hK5=>?_
 refine Ze (X0m rfl rfl) ?_
 refine Zt hK5 fun a hf=>?_
 refine wp_seq_k fun _ hK6=>?_
 refine Xb hf rfl (fun hc7=>?_) (fun hc7=>?_)
 ·have hc7b:=hc7
  have hc7:=of_decide_eq_true hc7
  obtain ⟨u8,hu8⟩:=Xf (l:=l) (k:=k) (by omega)
  refine wp_skip ?_
  refine hK6 _ _ ?_
  refine wp_seq_k fun _ hK9=>?_
  refine wp_block ?_
  refine Zs hf fun _ hK10=>?_
  refine Zm rfl<|Za rfl ?_
  refine Zt hK10 fun a hf=>?_
  refine Zs hf fun _ hK11=>?_
  refine Zm rfl<|Zm rfl<|Zm rfl ?_
  refine Zi (k:=k) (u:=u8) (enc:=encB) (l:=l) trivial rfl rfl X35 X80 X20 (hr_l.below' hW) hu8 rfl ?_;intro p13 hat12
  refine Ze (X0 rfl Xbc hat12)<|Ze (Xpd Tryz.underlying4 rfl rfl) ?_
  refine Zt hK11 fun a hf=>?_
  refine Xb hf rfl (fun hc14=>?_) (fun hc14=>?_)
  ·have hc14b:=hc14
   have hb2:(l.any fun y=>x==y)=true:=X1y hu8 hc14
   refine Zs hf fun _ hK15=>?_
   refine Zm rfl<|Za rfl ?_
   refine Zt hK15 fun a hf=>?_
   refine wp_ret ?_
   refine Xj ?_
   refine X3 ?_
   refine X3 ?_
   refine Xj ?_
   refine X3 ?_
   refine X2 hf (Xh hf rfl rfl) ?_
   exact ⟨_,rfl,by rw [hb2];simp,hW⟩
  have hc14b:=hc14
  have hok:(!(x==u8))=true:=by rw [hc14];rfl
  refine wp_skip ?_
  refine Xn ?_
  refine hK9 _ _ ?_
  refine Zr hf ?_
  refine Ze (Xy rfl rfl (by omega) (by omega))<|Zm rfl ?_
  refine Zn fun a hf=>?_
  refine Xk ?_
  exact ⟨k+1,⟨hf.sub ⟨rfl,rfl,rfl,rfl,trivial⟩,(by omega),(X1l hpre hu8 hok),hW⟩,(by omega)⟩
 have hc7b:=hc7
 have hc7:=of_decide_eq_false hc7
 refine wp_exit ?_
 refine Xm ?_
 refine Xm ?_
 refine X03 ?_
 refine hK3 _ _ ?_
 refine Zs hf fun _ hK16=>?_
 refine Za rfl ?_
 refine Zt hK16 fun a hf=>?_
 refine wp_ret (X2 hf (Xh hf rfl rfl) ?_)
 have hb2:(l.any fun y=>x==y)=false:=X1s (X1h hpre (by omega))
 exact ⟨_,rfl,by rw [hb2];rfl,hW⟩
theorem Xrt(w0:World)(Al:Option Addr)(cl:Nat)(l:List Bool)(hr_l:Rd w0 w0.heap.size 4 encB Al l)(x:Bool)(hln:l.length≤2305843009213693951) : Ret Tryz.prog 163 [.slice Al l.length cl,.bool x] w0 (fun v w=>v=.bool (l.any fun y=>x==y)∧Below w0.heap.size w0 w):=by
 refine enter Tryz.func163 rfl 9 rfl rfl ?_
 intro a hf
 have hW:Below w0.heap.size w0 w0:=Below.refl _ _
 refine Zs hf fun _ hK2=>?_
 refine Za rfl ?_
 refine Zt hK2 fun a hf=>?_
 refine Zs hf fun _ hK3=>?_
 refine Zm rfl<|Zm rfl ?_
 refine Zf (Vc (Xt0 _ Al cl l (hr_l.below' hW).top x hln) Xoc) ?_;rintro _ w1 ⟨ix,rfl,hix,hE⟩
 replace hW:=btr hW hE
 refine Ze (X7j rfl rfl)<|Za rfl ?_
 refine Zt hK3 fun a hf=>?_
 refine wp_ret (X2 hf (Xh hf rfl rfl) ?_)
 exact ⟨by rw [← hix],hW⟩
theorem Xou(w0:World)(Al:Option Addr)(cl:Nat)(l:List Int)(hr_l:Rd w0 w0.heap.size 3 encI Al l)(hln:l.length≤1000000000) : Ret Tryz.prog 156 [.slice Al l.length cl] w0 (fun v w=>∃ A c,v=.slice A l.length c∧Own w w0.heap.size 3 1 encI A c l∧Below w0.heap.size w0 w):=by
 refine enter Tryz.func156 rfl 6 rfl rfl ?_
 intro a hf
 have hW:Below w0.heap.size w0 w0:=Below.refl _ _
 refine Zs hf fun _ hK2=>?_
 refine Za rfl ?_
 refine Zt hK2 fun a hf=>?_
 refine Zs hf fun _ hK4=>?_
 refine Zf (Xv (k:=0) (vs:=[]) (zs:=[]) rfl X0b X2b rfl rfl) ?_;rintro _ w1 ⟨b5,rfl,hl5,hE,hB5⟩
 have hlo5:=Nat.le_trans hW.size hl5
 have haw1_5:=(hr_l.below' hW).away hl5
 replace hW:=btr hW hE
 refine Zm rfl ?_
 refine Zf (X10 (enc:=encI) (l:=([] : List Int)) (l2:=(l)) (B0:=w0.heap.size) rfl rfl X0b X2b Xz X2r (Own.empty hB5 hlo5) (hr_l.below' hW) (by simp only [maxLen,List.length_nil];omega) (by simp only [List.length_nil];omega) hW.size) ?_;rintro _ w2 ⟨A7,c7,rfl,ho7,hg,hat⟩
 have hown:Own _ w0.heap.size 3 1 encI _ _ ([] : List Int):=(Own.empty hB5 hlo5)
 clear hat
 replace hW:=Below.app hW hown hg (Nat.le_refl _) hW.size
 clear hown hg
 simp only [List.nil_append] at ho7
 refine Za rfl ?_
 refine Zt hK4 fun a hf=>?_
 refine wp_ret (X2 hf (Xh hf rfl rfl) ?_)
 exact ⟨A7,c7,rfl,ho7,hW⟩
theorem Xqg(w0:World)(Ap:Option Addr)(cp:Nat)(p:List Int)(hr_p:Rd w0 w0.heap.size 3 encI Ap p)(x:Int)(y:Int)(hln:p.length≤1000000000) : Ret Tryz.prog 118 [.slice Ap p.length cp,vi x,vi y] w0 (fun v w=>∃ A c,v=.slice A (swapP p x y).length c∧Own w w0.heap.size 3 1 encI A c (swapP p x y)∧Below w0.heap.size w0 w):=by
 refine enter Tryz.func118 rfl 36 rfl rfl ?_
 intro a hf
 have hW:Below w0.heap.size w0 w0:=Below.refl _ _
 refine Zs hf fun _ hK2=>?_
 refine Za rfl ?_
 refine Zt hK2 fun a hf=>?_
 refine Zs hf fun _ hK4=>?_
 refine Zm rfl ?_
 refine Zf (Vc (Xou _ Ap cp p (hr_p.below' hW).top hln) Xfv) ?_;rintro _ w1 ⟨A5,c5,rfl,ho5,hE⟩
 replace ho5:=ho5.lower hW.size
 replace hW:=btr hW hE
 refine Za rfl ?_
 refine Zt hK4 fun a hf=>?_
 refine wp_seq_k fun _ hK6=>?_
 refine Zs hf fun _ hK7=>?_
 refine Zm rfl<|Ze (X0d rfl X0b)<|Zm rfl ?_
 refine Zt hK7 fun a hf=>?_
 refine wp_block ?_
 refine X04 (σ:=Nat×(List Int)) (fun (s:Nat×(List Int)) (a:Act) (w:World)=>match s with|(k,m)=>Fr a 36 [(1,vi x),(2,vi y),(7,.slice A5 p.length c5),(12,.slice Ap p.length cp),(13,vi (p.length:Int)),(14,vi (k:Int))]∧(k≤p.length)∧(m.length=p.length)∧(m=mixP p x y k)∧Own w w0.heap.size 3 1 encI A5 c5 m∧Below w0.heap.size w0 w) (fun (s:Nat×(List Int))=>match s with|(k,m)=>p.length-k) (0,p) ?_ ?_
 · exact ⟨hf.sub ⟨rfl,rfl,rfl,rfl,rfl,rfl,trivial⟩,(Nat.zero_le _),rfl,rfl,ho5,hW⟩
 rintro ⟨k,m⟩ a w2 ⟨hf,hk,hml,hm,ho5,hW⟩
 refine Zs hf fun _ hK8=>?_
 refine Ze (X0m rfl rfl) ?_
 refine Zt hK8 fun a hf=>?_
 refine wp_seq_k fun _ hK9=>?_
 refine Xb hf rfl (fun hc10=>?_) (fun hc10=>?_)
 ·have hc10b:=hc10
  have hc10:=of_decide_eq_true hc10
  obtain ⟨u11,hu11⟩:=Xf (l:=p) (k:=k) (by omega)
  refine wp_skip ?_
  refine hK9 _ _ ?_
  refine wp_seq_k fun _ hK12=>?_
  refine wp_block ?_
  refine Zs hf fun _ hK13=>?_
  refine Zm rfl ?_
  refine Zi (k:=k) (u:=u11) (enc:=encI) (l:=p) trivial rfl rfl X0b X0z Xz (hr_p.below' hW) hu11 rfl ?_;intro p15 hat14
  refine Ze (X0 rfl X5 hat14)<|Za rfl<|Za rfl ?_
  refine Zt hK13 fun a hf=>?_
  refine Zs hf fun _ hK16=>?_
  refine Zm rfl ?_
  refine Zt hK16 fun a hf=>?_
  refine wp_block ?_
  refine Zs hf fun _ hK17=>?_
  refine Zm rfl<|Ze (X0s rfl rfl)<|Za rfl ?_
  refine Zt hK17 fun a hf=>?_
  refine Xb hf rfl (fun hc18=>?_) (fun hc18=>?_)
  ·have hc18b:=hc18
   have hsf:=Xjz (b:=y) hc18
   refine Zr hf ?_
   refine Zm rfl<|Zm rfl<|Zm rfl<|Ze (X3p (k:=k) rfl rfl X0b X0z ho5 hml.symm rfl (by omega)) ?_
   refine Zo (X3r (enc:=encI) (l:=m) (vs:=[vi y]) (x0:=u11) (u:=y) (k:=k) (j:=0) (n1:=1) rfl rfl X0z ho5 Xz rfl rfl rfl rfl (by decide) (by rw [hm];exact X5l hu11) rfl) ?_;rintro _ w3 ⟨hnew,hg⟩
   have hown:=ho5
   replace hW:=Below.app hW hown hg (Nat.le_refl _) hW.size
   clear hown hg;clear ho5;have ho5:=hnew;clear hnew
   refine Zn fun a hf=>?_
   refine Xn ?_
   refine Xn ?_
   refine hK12 _ _ ?_
   refine Zr hf ?_
   refine Ze (Xy rfl rfl (by omega) (by omega))<|Zm rfl ?_
   refine Zn fun a hf=>?_
   refine Xk ?_
   exact ⟨(k+1,(m.set k y)),⟨hf.sub ⟨rfl,rfl,rfl,rfl,rfl,rfl,trivial⟩,(by omega),(by simp;exact hml),(by rw [hm,X72 hu11 hsf]),ho5,hW⟩,(by first|omega|(dsimp only;omega))⟩
  have hc18b:=hc18
  have hua:=hc18
  refine Zs hf fun _ hK19=>?_
  refine Zm rfl<|Ze (X0s rfl rfl)<|Za rfl ?_
  refine Zt hK19 fun a hf=>?_
  refine Xb hf rfl (fun hc20=>?_) (fun hc20=>?_)
  ·have hc20b:=hc20
   have hsf:=Xk0 hua hc20
   refine Zr hf ?_
   refine Zm rfl<|Zm rfl<|Zm rfl<|Ze (X3p (k:=k) rfl rfl X0b X0z ho5 hml.symm rfl (by omega)) ?_
   refine Zo (X3r (enc:=encI) (l:=m) (vs:=[vi x]) (x0:=u11) (u:=x) (k:=k) (j:=0) (n1:=1) rfl rfl X0z ho5 Xz rfl rfl rfl rfl (by decide) (by rw [hm];exact X5l hu11) rfl) ?_;rintro _ w4 ⟨hnew,hg⟩
   have hown:=ho5
   replace hW:=Below.app hW hown hg (Nat.le_refl _) hW.size
   clear hown hg;clear ho5;have ho5:=hnew;clear hnew
   refine Zn fun a hf=>?_
   refine Xn ?_
   refine Xn ?_
   refine hK12 _ _ ?_
   refine Zr hf ?_
   refine Ze (Xy rfl rfl (by omega) (by omega))<|Zm rfl ?_
   refine Zn fun a hf=>?_
   refine Xk ?_
   exact ⟨(k+1,(m.set k x)),⟨hf.sub ⟨rfl,rfl,rfl,rfl,rfl,rfl,trivial⟩,(by omega),(by simp;exact hml),(by rw [hm,X72 hu11 hsf]),ho5,hW⟩,(by first|omega|(dsimp only;omega))⟩
  have hc20b:=hc20
  have hsf:=Xkh hua hc20
  refine wp_skip ?_
  refine Xn ?_
  refine Xn ?_
  refine hK12 _ _ ?_
  refine Zr hf ?_
  refine Ze (Xy rfl rfl (by omega) (by omega))<|Zm rfl ?_
  refine Zn fun a hf=>?_
  refine Xk ?_
  exact ⟨(k+1,m),⟨hf.sub ⟨rfl,rfl,rfl,rfl,rfl,rfl,trivial⟩,(by omega),hml,(by rw [hm,Xaz hu11 hsf]),ho5,hW⟩,(by first|omega|(dsimp only;omega))⟩
 have hc10b:=hc10
 have hc10:=of_decide_eq_false hc10
 refine wp_exit ?_
 refine Xm ?_
 refine Xm ?_
 refine X03 ?_
 refine hK6 _ _ ?_
 refine Zs hf fun _ hK21=>?_
 refine Zm rfl<|Za rfl ?_
 refine Zt hK21 fun a hf=>?_
 refine wp_ret (X2 hf (Xh hf rfl rfl) ?_)
 have hfin:m=swapP p x y:=by rw [hm,Xdf _ _ _ _ (by omega)]
 have hown:=ho5
 rw [hfin] at hown
 exact ⟨A5,c5,by rw [X2k],hown,hW⟩
end Go.Proofs.YtfgnmflfiobkmaaGreat
set_option maxRecDepth 4000
namespace Go.Proofs.YtfgnmflfiobkmaaGreat
open Go.RowKit
theorem Xqo(w0:World)(c:Cx)(Ac:Option Addr)(cc:Nat)(hr_c:Rd w0 w0.heap.size 107 encG Ac c.gs)(Ad:Option Addr)(cd:Nat)(d:List Bool)(hr_d:Rd w0 w0.heap.size 4 encB Ad d)(k:Int)(hdl:d.length=c.gs.length)(hln:c.gs.length≤1000000000) : Ret Tryz.prog 158 [.agg #[vi c.n,.slice Ac c.gs.length cc],.slice Ad d.length cd,vi k] w0 (fun v w=>v=.bool (redS c.gs d k)∧Below w0.heap.size w0 w):=by
 refine enter Tryz.func158 rfl 57 rfl rfl ?_
 intro a hf
 have hW:Below w0.heap.size w0 w0:=Below.refl _ _
 refine Zs hf fun _ hK3=>?_
 refine Zf (Xu (zs:=[vi c.n,.slice Ac c.gs.length cc]) rfl rfl) ?_;rintro _ w1 ⟨b4,rfl,hl4,hE,hB4⟩
 have hlo4:=Nat.le_trans hW.size hl4
 replace hW:=btr hW hE
 refine Za rfl ?_
 refine Zt hK3 fun a hf=>?_
 refine wp_seq_k fun _ hK5=>?_
 refine wp_seq_k fun _ hK6=>?_
 refine X06 (fun a w=>Fr a 57 [(1,.slice Ad d.length cd),(2,vi k),(3,.pointer (some ⟨b4,0,none⟩)),(23,.bool ((!(inR k 0 ((c.gs.length:Int)-1)))||(d.getD k.toNat false)))]∧w1=w) ?_ ?_
 ·refine Zr hf ?_
  refine Zm rfl<|Ze (Vd rfl X07 1)<|Ze (X0 rfl X0e (hB4.at 1))<|Ze (X0d rfl X02)<|Ze (X11 rfl rfl (by omega) (by omega)) ?_
  refine Zf (Vc (F85 _ k 0 ((c.gs.length:Int)-1)) X2q) ?_;rintro _ _ ⟨rfl,rfl⟩
  refine Ze (X09 rfl)<|Zm rfl ?_
  refine Zg 18 rfl (fun hg7=>?_) (fun hg7=>?_)
  ·refine Zp ⟨_,_,rfl,rfl,hg7⟩ ?_
   refine Zp ⟨_,_,rfl,rfl,hg7⟩ ?_
   refine Zp ⟨_,_,rfl,rfl,hg7⟩ ?_
   refine Zp ⟨_,_,rfl,rfl,hg7⟩ ?_
   refine Ze (X9 rfl hg7 rfl) ?_
   refine Zn fun a hf=>?_
   exact ⟨hf.sub ⟨rfl,rfl,rfl,X1 rfl (by first|rfl|(simp only [hg7,bs];done)|simp [hg7]),trivial⟩,rfl⟩
  refine Zv ⟨_,_,rfl,rfl,hg7⟩ (X8 rfl) ?_
  refine Zv ⟨_,_,rfl,rfl,hg7⟩ (X8 rfl) ?_
  refine Zi (k:=k.toNat) (u:=(d.getD k.toNat false)) (enc:=encB) (l:=d) ⟨_,_,rfl,rfl,hg7⟩ rfl rfl X35 X80 X20 (hr_d.below' hW) (X14 false (by have:=X75 (k:=k) (n:=c.gs.length) (by assumption);omega)) (by have:=X75 (k:=k) (n:=c.gs.length) (by assumption);omega) ?_;intro p9 hat8
  refine Zv ⟨_,_,rfl,rfl,hg7⟩ (X0 rfl Xbc hat8) ?_
  refine Ze (X7 rfl hg7 rfl) ?_
  refine Zn fun a hf=>?_
  exact ⟨hf.sub ⟨rfl,rfl,rfl,X1 rfl (by first|rfl|(simp only [hg7,bs];done)|simp [hg7]),trivial⟩,rfl⟩
 rintro a _ ⟨hf,rfl⟩
 refine hK6 _ _ ?_
 refine Xb hf rfl (fun hc10=>?_) (fun hc10=>?_)
 ·have hc10b:=hc10
  have hfin:redS c.gs d k=false:=by unfold redS;revert hc10;cases inR k 0 ((c.gs.length:Int)-1)<;>cases d.getD k.toNat false<;>simp
  refine Zs hf fun _ hK11=>?_
  refine Za rfl ?_
  refine Zt hK11 fun a hf=>?_
  refine wp_ret ?_
  refine X3 ?_
  refine X2 hf (Xh hf rfl rfl) ?_
  exact ⟨by rw [hfin],hW⟩
 have hc10b:=hc10
 obtain ⟨hi9,hd9⟩ : inR k 0 ((c.gs.length:Int)-1)=true∧d.getD k.toNat false=false:=by revert hc10;cases inR k 0 ((c.gs.length:Int)-1)<;>cases d.getD k.toNat false<;>simp
 have hk9:=Xs.1 hi9
 have hq:=X36 (c.gs.getD k.toNat gZ)
 refine wp_skip ?_
 refine hK5 _ _ ?_
 refine Zs hf fun _ hK12=>?_
 refine Ze (Vd rfl X07 1)<|Ze (X0 rfl X0e (hB4.at 1))<|Zm rfl ?_
 refine Zi (k:=k.toNat) (u:=(c.gs.getD k.toNat gZ)) (enc:=encG) (l:=c.gs) trivial rfl rfl X02 X0o Xq (hr_c.below' hW) (X6t (by omega)) (by omega) ?_;intro p14 hat13
 refine Ze (Xi (l:=[vi ((c.gs.getD k.toNat gZ).k),vi ((c.gs.getD k.toNat gZ).a),vi ((c.gs.getD k.toNat gZ).b)]) rfl X0k hat13 rfl) ?_
 refine Zf (Vc (Xpg _ (c.gs.getD k.toNat gZ)) Xgb) ?_;rintro _ w2 ⟨A15,c15,rfl,ho15,hE⟩
 replace ho15:=ho15.lower hW.size
 replace hB4:=hB4.below hE
 replace hW:=btr hW hE
 refine Za rfl ?_
 refine Zt hK12 fun a hf=>?_
 refine wp_seq_k fun _ hK16=>?_
 refine Zs hf fun _ hK17=>?_
 refine Za rfl ?_
 refine Zt hK17 fun a hf=>?_
 refine wp_block ?_
 refine X04 (σ:=Nat) (fun (i:Nat) (a:Act) (w:World)=>Fr a 57 [(1,.slice Ad d.length cd),(2,vi k),(3,.pointer (some ⟨b4,0,none⟩)),(7,.slice A15 (qubI (c.gs.getD k.toNat gZ)).length c15),(8,vi (i:Int))]∧((i:Int)≤k)∧((List.range i).any (redA c.gs d k.toNat)=false)∧Blk w b4 41 [vi c.n,.slice Ac c.gs.length cc]∧Own w w0.heap.size 3 1 encI A15 c15 (qubI (c.gs.getD k.toNat gZ))∧Below w0.heap.size w0 w) (fun (i:Nat)=>k.toNat-i) 0 ?_ ?_
 · exact ⟨hf.sub ⟨rfl,rfl,rfl,rfl,rfl,trivial⟩,(by omega),rfl,hB4,ho15,hW⟩
 rintro i a w3 ⟨hf,hi,hA,hB4,ho15,hW⟩
 refine wp_seq_k fun _ hK18=>?_
 refine Zs hf fun _ hK19=>?_
 refine Zm rfl<|Zm rfl<|Ze (X0m rfl rfl) ?_
 refine Zt hK19 fun a hf=>?_
 refine Xb hf rfl (fun hc20=>?_) (fun hc20=>?_)
 ·have hc20b:=hc20
  have hc20:=of_decide_eq_true hc20
  have hqi:=X36 (c.gs.getD i gZ)
  have hin:i<c.gs.length:=by omega
  refine wp_skip ?_
  refine hK18 _ _ ?_
  refine wp_seq_k fun _ hK21=>?_
  refine wp_block ?_
  refine Zs hf fun _ hK22=>?_
  refine Ze (Vd rfl X07 1)<|Ze (X0 rfl X0e (hB4.at 1))<|Zm rfl ?_
  refine Zi (k:=i) (u:=(c.gs.getD i gZ)) (enc:=encG) (l:=c.gs) trivial rfl rfl X02 X0o Xq (hr_c.below' hW) (X6t (by omega)) rfl ?_;intro p24 hat23
  refine Ze (Xi (l:=[vi ((c.gs.getD i gZ).k),vi ((c.gs.getD i gZ).a),vi ((c.gs.getD i gZ).b)]) rfl X0k hat23 rfl) ?_
  refine Zf (Vc (Xpg _ (c.gs.getD i gZ)) Xgb) ?_;rintro _ w4 ⟨A25,c25,rfl,ho25,hE⟩
  replace ho25:=ho25.lower hW.size
  replace hB4:=hB4.below hE
  replace ho15:=ho15.below hE
  replace hW:=btr hW hE
  refine Ze (X0d rfl X0b)<|Zm rfl ?_
  refine Zt hK22 fun a hf=>?_
  refine wp_block ?_
  refine X04 (σ:=Nat) (fun (j:Nat) (a:Act) (w:World)=>Fr a 57 [(1,.slice Ad d.length cd),(2,vi k),(3,.pointer (some ⟨b4,0,none⟩)),(7,.slice A15 (qubI (c.gs.getD k.toNat gZ)).length c15),(8,vi (i:Int)),(40,.slice A25 (qubI (c.gs.getD i gZ)).length c25),(41,vi ((qubI (c.gs.getD i gZ)).length:Int)),(42,vi (j:Int))]∧(j≤(qubI (c.gs.getD i gZ)).length)∧(((qubI (c.gs.getD i gZ)).take j).all (fun x=>!(!d.getD i false&&(qubI (c.gs.getD k.toNat gZ)).any fun y=>y==x))=true)∧Blk w b4 41 [vi c.n,.slice Ac c.gs.length cc]∧Own w w0.heap.size 3 1 encI A15 c15 (qubI (c.gs.getD k.toNat gZ))∧Own w w0.heap.size 3 1 encI A25 c25 (qubI (c.gs.getD i gZ))∧Below w0.heap.size w0 w) (fun (j:Nat)=>(qubI (c.gs.getD i gZ)).length-j) 0 ?_ ?_
  · exact ⟨hf.sub ⟨rfl,rfl,rfl,rfl,rfl,rfl,rfl,rfl,trivial⟩,(Nat.zero_le _),rfl,hB4,ho15,ho25,hW⟩
  rintro j a w5 ⟨hf,hj,hpre,hB4,ho15,ho25,hW⟩
  refine Zs hf fun _ hK26=>?_
  refine Ze (X0m rfl rfl) ?_
  refine Zt hK26 fun a hf=>?_
  refine wp_seq_k fun _ hK27=>?_
  refine Xb hf rfl (fun hc28=>?_) (fun hc28=>?_)
  ·have hc28b:=hc28
   have hc28:=of_decide_eq_true hc28
   obtain ⟨u29,hu29⟩:=Xf (l:=(qubI (c.gs.getD i gZ))) (k:=j) (by omega)
   refine wp_skip ?_
   refine hK27 _ _ ?_
   refine wp_seq_k fun _ hK30=>?_
   refine wp_block ?_
   refine Zs hf fun _ hK31=>?_
   refine Zi (k:=j) (u:=u29) (enc:=encI) (l:=(qubI (c.gs.getD i gZ))) trivial rfl rfl X0b X0z Xz ho25.rd hu29 rfl ?_;intro p33 hat32
   refine Ze (X0 rfl X5 hat32)<|Za rfl ?_
   refine Zt hK31 fun a hf=>?_
   refine wp_seq_k fun _ hK34=>?_
   refine X06 (fun a w=>Fr a 57 [(1,.slice Ad d.length cd),(2,vi k),(3,.pointer (some ⟨b4,0,none⟩)),(7,.slice A15 (qubI (c.gs.getD k.toNat gZ)).length c15),(8,vi (i:Int)),(40,.slice A25 (qubI (c.gs.getD i gZ)).length c25),(41,vi ((qubI (c.gs.getD i gZ)).length:Int)),(42,vi (j:Int)),(55,.bool ((!(d.getD i false))&&((qubI (c.gs.getD k.toNat gZ)).any fun y=>y==u29)))]∧Below w5.heap.size w5 w) ?_ ?_
   ·have hEc:Below w5.heap.size w5 w5:=Below.refl _ _
    refine Zr hf ?_
    refine Zm rfl<|Zm rfl ?_
    refine Zi (k:=i) (u:=(d.getD i false)) (enc:=encB) (l:=d) trivial rfl rfl X35 X80 X20 (hr_d.below' hW) (X14 false (by omega)) rfl ?_;intro p36 hat35
    refine Ze (X0 rfl Xbc hat35)<|Ze (X09 rfl)<|Zm rfl ?_
    refine Zg 51 rfl (fun hg37=>?_) (fun hg37=>?_)
    ·refine Zv ⟨_,_,rfl,rfl,hg37⟩ (X8 rfl) ?_
     refine Zv ⟨_,_,rfl,rfl,hg37⟩ (X8 rfl) ?_
     refine Zk ⟨_,_,rfl,rfl,hg37⟩ (Vc (Xoz _ A15 c15 (qubI (c.gs.getD k.toNat gZ)) ho15.rd.top u29 (by have:=X36 (c.gs.getD k.toNat gZ);omega)) Xhl) ?_;rintro _ w6 ⟨rfl,hE⟩
     replace hB4:=hB4.below hE
     replace ho15:=ho15.below hE
     replace ho25:=ho25.below hE
     replace hW:=btr hW hE
     replace hEc:=btr hEc hE
     refine Ze (X9 rfl hg37 rfl) ?_
     refine Zn fun a hf=>?_
     have hEE:Below w5.heap.size w5 w6:=hEc
     exact ⟨hf.sub ⟨rfl,rfl,rfl,rfl,rfl,rfl,rfl,rfl,X1 rfl (by first|rfl|(simp only [hc10b,hc20b,hc28b,hg37,bs];done)|simp [hc10b,hc20b,hc28b,hg37]),trivial⟩,hEE⟩
    refine Zp ⟨_,_,rfl,rfl,hg37⟩ ?_
    refine Zp ⟨_,_,rfl,rfl,hg37⟩ ?_
    refine Zp ⟨_,_,rfl,rfl,hg37⟩ ?_
    refine Ze (X7 rfl hg37 rfl) ?_
    refine Zn fun a hf=>?_
    have hEE:Below w5.heap.size w5 w5:=hEc
    exact ⟨hf.sub ⟨rfl,rfl,rfl,rfl,rfl,rfl,rfl,rfl,X1 rfl (by first|rfl|(simp only [hc10b,hc20b,hc28b,hg37,bs];done)|simp [hc10b,hc20b,hc28b,hg37]),trivial⟩,hEE⟩
   rintro a w7 ⟨hf,hE⟩
   replace hB4:=hB4.below hE
   replace ho15:=ho15.below hE
   replace ho25:=ho25.below hE
   replace hW:=btr hW hE
   refine hK34 _ _ ?_
   refine Xb hf rfl (fun hc38=>?_) (fun hc38=>?_)
   ·have hc38b:=hc38
    obtain ⟨h8,h9⟩:=(Bool.and_eq_true _ _).mp hc38
    have hb:redA c.gs d k.toNat i=true:=by rw [redA,h8,Bool.true_and];exact X1y hu29 h9
    refine Zs hf fun _ hK39=>?_
    refine Za rfl ?_
    refine Zt hK39 fun a hf=>?_
    refine wp_ret ?_
    refine Xj ?_
    refine X3 ?_
    refine X3 ?_
    refine Xj ?_
    refine Xj ?_
    refine X3 ?_
    refine X3 ?_
    refine Xj ?_
    refine X3 ?_
    refine X2 hf (Xh hf rfl rfl) ?_
    have hfin:redS c.gs d k=false:=by rw [redS,hi9,hd9,X2f (j:=i) (by omega) hb];rfl
    exact ⟨by rw [hfin],hW⟩
   have hc38b:=hc38
   have hok:(!(!d.getD i false&&(qubI (c.gs.getD k.toNat gZ)).any fun y=>y==u29))=true:=by rw [hc38];rfl
   refine wp_skip ?_
   refine Xn ?_
   refine hK30 _ _ ?_
   refine Zr hf ?_
   refine Ze (Xy rfl rfl (by omega) (by omega))<|Zm rfl ?_
   refine Zn fun a hf=>?_
   refine Xk ?_
   exact ⟨j+1,⟨hf.sub ⟨rfl,rfl,rfl,rfl,rfl,rfl,rfl,rfl,trivial⟩,(by omega),(X1l hpre hu29 hok),hB4,ho15,ho25,hW⟩,(by omega)⟩
  have hc28b:=hc28
  have hc28:=of_decide_eq_false hc28
  have hbf:redA c.gs d k.toNat i=false:=Xjh (X1h hpre (by omega))
  refine wp_exit ?_
  refine Xm ?_
  refine Xm ?_
  refine X03 ?_
  refine Xn ?_
  refine hK21 _ _ ?_
  refine Zr hf ?_
  refine Zm rfl<|Ze (Xy rfl rfl (by omega) (by omega))<|Za rfl ?_
  refine Zn fun a hf=>?_
  refine Xk ?_
  exact ⟨i+1,⟨hf.sub ⟨rfl,rfl,rfl,rfl,rfl,trivial⟩,(by omega),(X2i hA hbf),hB4,ho15,hW⟩,(by omega)⟩
 have hc20b:=hc20
 have hc20:=of_decide_eq_false hc20
 refine wp_exit ?_
 refine Xm ?_
 refine Xm ?_
 refine X03 ?_
 refine hK16 _ _ ?_
 refine Zs hf fun _ hK40=>?_
 refine Za rfl ?_
 refine Zt hK40 fun a hf=>?_
 refine wp_ret (X2 hf (Xh hf rfl rfl) ?_)
 have hfin:redS c.gs d k=true:=by rw [redS,hi9,hd9,show k.toNat=i from by omega];rw [show k.toNat=i from by omega] at hA;rw [hA];rfl
 exact ⟨by rw [hfin],hW⟩
theorem Xsr(w0:World)(g:Gp)(Ag:Option Addr)(cg:Nat)(hr_g:Rd w0 w0.heap.size 164 encE Ag g.es)(Ap:Option Addr)(cp:Nat)(p:List Int)(hr_p:Rd w0 w0.heap.size 3 encI Ap p)(x:Gt)(m:Int)(hx:gOk m x=true)(hpl:(p.length:Int)=m)(hle:g.es.length≤2305843009213693951) : Ret Tryz.prog 159 [.agg #[vi g.n,.slice Ag g.es.length cg],.slice Ap p.length cp,.agg #[vi x.k,vi x.a,vi x.b]] w0 (fun v w=>v=.bool (nearS g p x)∧Below w0.heap.size w0 w):=by
 refine enter Tryz.func159 rfl 24 rfl rfl ?_
 intro a hf
 have hW:Below w0.heap.size w0 w0:=Below.refl _ _
 refine Zs hf fun _ hK3=>?_
 refine Zf (Xu (zs:=[vi g.n,.slice Ag g.es.length cg]) rfl rfl) ?_;rintro _ w1 ⟨b4,rfl,hl4,hE,hB4⟩
 have hlo4:=Nat.le_trans hW.size hl4
 replace hW:=btr hW hE
 refine Zf (Xu (zs:=[vi x.k,vi x.a,vi x.b]) rfl rfl) ?_;rintro _ w2 ⟨b5,rfl,hl5,hE,hB5⟩
 have hlo5:=Nat.le_trans hW.size hl5
 replace hB4:=hB4.below hE
 replace hW:=btr hW hE
 refine Za rfl ?_
 refine Zt hK3 fun a hf=>?_
 refine wp_seq_k fun _ hK6=>?_
 refine X06 (fun a w=>Fr a 24 [(6,.bool ((!(inR x.k 9 11))||(edgS g (p.getD x.a.toNat 0) (p.getD x.b.toNat 0))))]∧Below w2.heap.size w2 w) ?_ ?_
 ·have hEc:Below w2.heap.size w2 w2:=Below.refl _ _
  refine X05 none (fun _=>false) mixed ?_
  intro w3 hE
  replace hB4:=hB4.below hE
  replace hB5:=hB5.below hE
  replace hW:=btr hW hE
  replace hEc:=btr hEc hE
  refine Yb hf ?_
  refine Ye 0 rfl (Vn X0k hB5) ?_
  refine Y1 1 ?_
  refine Yk rfl trivial (Vc (Xm1 _ x) Xbt) (fun _ _ ⟨_,hE⟩=>hE) ?_;rintro _ w4 ⟨rfl,hE⟩
  replace hB4:=hB4.below hE
  replace hB5:=hB5.below hE
  replace hW:=btr hW hE
  replace hEc:=btr hEc hE
  refine Yo 2 rfl (fun _=>X09 rfl)<|Yo 3 rfl (fun _=>X8 rfl) ?_
  refine Yl 10 rfl (fun hg7=>?_) (fun hg7=>?_)
  ·refine Yp 4 rfl ⟨_,_,rfl,rfl,hg7⟩ ?_
   refine Yp 5 rfl ⟨_,_,rfl,rfl,hg7⟩ ?_
   refine Yp 6 rfl ⟨_,_,rfl,rfl,hg7⟩ ?_
   refine Yp 7 rfl ⟨_,_,rfl,rfl,hg7⟩ ?_
   refine Yp 8 rfl ⟨_,_,rfl,rfl,hg7⟩ ?_
   refine Yp 9 rfl ⟨_,_,rfl,rfl,hg7⟩ ?_
   refine Yp 10 rfl ⟨_,_,rfl,rfl,hg7⟩ ?_
   refine Yp 11 rfl ⟨_,_,rfl,rfl,hg7⟩ ?_
   refine Yp 12 rfl ⟨_,_,rfl,rfl,hg7⟩ ?_
   refine Yp 13 rfl ⟨_,_,rfl,rfl,hg7⟩ ?_
   refine Yp 14 rfl ⟨_,_,rfl,rfl,hg7⟩ ?_
   refine Y1 15 ?_
   refine Yq rfl ⟨_,_,rfl,rfl,hg7⟩ ?_
   refine Yo 16 rfl (fun _=>X9 rfl hg7 rfl)<|Yo 17 rfl (fun _=>X0p rfl) ?_
   refine Yd fun a hf=>?_
   have hEE:Below w2.heap.size w2 w4:=hEc
   exact ⟨hf.sub ⟨X1 rfl (by first|rfl|(simp only [hg7,bs];done)|simp [hg7]),trivial⟩,hEE⟩
  refine Yv 4 rfl ⟨_,_,rfl,rfl,hg7⟩ (Vn X1k hB4) ?_
  refine Yu 5 rfl ⟨_,_,rfl,rfl,hg7⟩ (fun _=>X8 rfl) ?_
  refine Yu 6 rfl ⟨_,_,rfl,rfl,hg7⟩ (fun _=>Vd rfl X0a 1) ?_
  refine Yv 7 rfl ⟨_,_,rfl,rfl,hg7⟩ (X0 rfl X5 (hB5.at 1)) ?_
  refine Yi (k:=x.a.toNat) (u:=(p.getD x.a.toNat 0)) (enc:=encI) (l:=p) 8 rfl ⟨_,_,rfl,rfl,hg7⟩ rfl rfl X0b X0z Xz (hr_p.below' hW) (X14 0 (by have:=X3l hx (by assumption);omega)) (by have:=X3l hx (by assumption);omega) ?_;intro p9 hat8
  refine Yv 9 rfl ⟨_,_,rfl,rfl,hg7⟩ (X0 rfl X5 hat8) ?_
  refine Yu 10 rfl ⟨_,_,rfl,rfl,hg7⟩ (fun _=>X8 rfl) ?_
  refine Yu 11 rfl ⟨_,_,rfl,rfl,hg7⟩ (fun _=>Vd rfl X0n 2) ?_
  refine Yv 12 rfl ⟨_,_,rfl,rfl,hg7⟩ (X0 rfl X5 (hB5.at 2)) ?_
  refine Yi (k:=x.b.toNat) (u:=(p.getD x.b.toNat 0)) (enc:=encI) (l:=p) 13 rfl ⟨_,_,rfl,rfl,hg7⟩ rfl rfl X0b X0z Xz (hr_p.below' hW) (X14 0 (by have:=X3l hx (by assumption);omega)) (by have:=X3l hx (by assumption);omega) ?_;intro p11 hat10
  refine Yv 14 rfl ⟨_,_,rfl,rfl,hg7⟩ (X0 rfl X5 hat10) ?_
  refine Y1 15 ?_
  refine Yk rfl ⟨_,_,rfl,rfl,hg7⟩ (Vc (Xpj _ g Ag cg (hr_g.below' hW).top (p.getD x.a.toNat 0) (p.getD x.b.toNat 0) hle) Xhy) (fun _ _ ⟨_,hE⟩=>hE) ?_;rintro _ w5 ⟨rfl,hE⟩
  replace hB4:=hB4.below hE
  replace hB5:=hB5.below hE
  replace hW:=btr hW hE
  replace hEc:=btr hEc hE
  refine Yo 16 rfl (fun _=>X7 rfl hg7 rfl)<|Yo 17 rfl (fun _=>X0p rfl) ?_
  refine Yd fun a hf=>?_
  have hEE:Below w2.heap.size w2 w5:=hEc
  exact ⟨hf.sub ⟨X1 rfl (by first|rfl|(simp only [hg7,bs];done)|simp [hg7]),trivial⟩,hEE⟩
 rintro a w6 ⟨hf,hE⟩
 replace hB4:=hB4.below hE
 replace hB5:=hB5.below hE
 replace hW:=btr hW hE
 refine hK6 _ _ ?_
 refine wp_ret (X2 hf (Xh hf rfl rfl) ?_)
 exact ⟨by simp only [nearS],hW⟩
theorem F75(w0:World)(g:Gp)(Ag:Option Addr)(cg:Nat)(hr_g:Rd w0 w0.heap.size 164 encE Ag g.es)(c:Cx)(Ac:Option Addr)(cc:Nat)(hr_c:Rd w0 w0.heap.size 107 encG Ac c.gs)(hle:g.es.length≤2305843009213693951)(hlc:c.gs.length≤2305843009213693951) : Ret Tryz.prog 75 [.agg #[vi g.n,.slice Ag g.es.length cg],.agg #[vi c.n,.slice Ac c.gs.length cc]] w0 (fun v w=>v=.bool (fitsS g c)∧Below w0.heap.size w0 w):=by
 refine enter Tryz.func75 rfl 18 rfl rfl ?_
 intro a hf
 have hW:Below w0.heap.size w0 w0:=Below.refl _ _
 refine Zs hf fun _ hK3=>?_
 refine Zf (Xu (zs:=[vi g.n,.slice Ag g.es.length cg]) rfl rfl) ?_;rintro _ w1 ⟨b4,rfl,hl4,hE,hB4⟩
 have hlo4:=Nat.le_trans hW.size hl4
 replace hW:=btr hW hE
 refine Zf (Xu (zs:=[vi c.n,.slice Ac c.gs.length cc]) rfl rfl) ?_;rintro _ w2 ⟨b5,rfl,hl5,hE,hB5⟩
 have hlo5:=Nat.le_trans hW.size hl5
 replace hB4:=hB4.below hE
 replace hW:=btr hW hE
 refine Za rfl ?_
 refine Zt hK3 fun a hf=>?_
 refine wp_seq_k fun _ hK6=>?_
 refine X06 (fun a w=>Fr a 18 [(4,.bool (((gpS g)&&(cOk c))&&(decide (c.n≤g.n))))]∧Below w2.heap.size w2 w) ?_ ?_
 ·have hEc:Below w2.heap.size w2 w2:=Below.refl _ _
  refine Zr hf ?_
  refine Ze (Vn X1k hB4) ?_
  refine Zf (Vc (Xrx _ g Ag cg (hr_g.below' hW).top hle) Xod) ?_;rintro _ w3 ⟨rfl,hE⟩
  replace hB4:=hB4.below hE
  replace hB5:=hB5.below hE
  replace hW:=btr hW hE
  replace hEc:=btr hEc hE
  refine Zm rfl ?_
  refine Zg 7 rfl (fun hg7=>?_) (fun hg7=>?_)
  ·refine Zv ⟨_,_,rfl,rfl,hg7⟩ (Vn X0c hB5) ?_
   refine Zk ⟨_,_,rfl,rfl,hg7⟩ (Vc (F53 _ c Ac cc (hr_c.below' hW).top) Xgp) ?_;rintro _ w4 ⟨rfl,hE⟩
   replace hB4:=hB4.below hE
   replace hB5:=hB5.below hE
   replace hW:=btr hW hE
   replace hEc:=btr hEc hE
   refine Ze (X9 rfl hg7 rfl)<|Zm rfl ?_
   refine Zg 11 rfl (fun hg8=>?_) (fun hg8=>?_)
   ·refine Zv ⟨_,_,rfl,rfl,hg8⟩ (Vd rfl X0t 0) ?_
    refine Zv ⟨_,_,rfl,rfl,hg8⟩ (X0 rfl X5 (hB5.at 0)) ?_
    refine Zv ⟨_,_,rfl,rfl,hg8⟩ (Vd rfl X1t 0) ?_
    refine Zv ⟨_,_,rfl,rfl,hg8⟩ (X0 rfl X5 (hB4.at 0)) ?_
    refine Zv ⟨_,_,rfl,rfl,hg8⟩ (X9o rfl rfl) ?_
    refine Ze (X9 rfl hg8 rfl)<|Za rfl ?_
    refine Zn fun a hf=>?_
    have hEE:Below w2.heap.size w2 w4:=hEc
    exact ⟨hf.sub ⟨X1 rfl (by first|rfl|(simp only [hg7,hg8,bs];done)|simp [hg7,hg8]),trivial⟩,hEE⟩
   refine Zp ⟨_,_,rfl,rfl,hg8⟩ ?_
   refine Zp ⟨_,_,rfl,rfl,hg8⟩ ?_
   refine Zp ⟨_,_,rfl,rfl,hg8⟩ ?_
   refine Zp ⟨_,_,rfl,rfl,hg8⟩ ?_
   refine Zp ⟨_,_,rfl,rfl,hg8⟩ ?_
   refine Ze (X7 rfl hg8 rfl)<|Za rfl ?_
   refine Zn fun a hf=>?_
   have hEE:Below w2.heap.size w2 w4:=hEc
   exact ⟨hf.sub ⟨X1 rfl (by first|rfl|(simp only [hg7,hg8,bs];done)|simp [hg7,hg8]),trivial⟩,hEE⟩
  refine Zp ⟨_,_,rfl,rfl,hg7⟩ ?_
  refine Zp ⟨_,_,rfl,rfl,hg7⟩ ?_
  refine Ze (X7 rfl hg7 rfl)<|Zm rfl<|Zp ⟨_,_,rfl,rfl,rfl⟩ ?_
  refine Zp ⟨_,_,rfl,rfl,rfl⟩ ?_
  refine Zp ⟨_,_,rfl,rfl,rfl⟩ ?_
  refine Zp ⟨_,_,rfl,rfl,rfl⟩ ?_
  refine Zp ⟨_,_,rfl,rfl,rfl⟩ ?_
  refine Ze (X7 rfl rfl rfl)<|Za rfl ?_
  refine Zn fun a hf=>?_
  have hEE:Below w2.heap.size w2 w3:=hEc
  exact ⟨hf.sub ⟨X1 rfl (by first|rfl|(simp only [hg7,bs];done)|simp [hg7]),trivial⟩,hEE⟩
 rintro a w5 ⟨hf,hE⟩
 replace hB4:=hB4.below hE
 replace hB5:=hB5.below hE
 replace hW:=btr hW hE
 refine hK6 _ _ ?_
 refine wp_ret (X2 hf (Xh hf rfl rfl) ?_)
 exact ⟨by simp only [fitsS],hW⟩
end Go.Proofs.YtfgnmflfiobkmaaGreat
set_option maxHeartbeats 1000000
set_option maxRecDepth 4000
namespace Go.Proofs.YtfgnmflfiobkmaaGreat
open Go.RowKit
theorem Xog(w0:World)(g:Gp)(Ag:Option Addr)(cg:Nat)(hr_g:Rd w0 w0.heap.size 164 encE Ag g.es)(c:Cx)(Ac:Option Addr)(cc:Nat)(hr_c:Rd w0 w0.heap.size 107 encG Ac c.gs)(r:Ro)(Ar:Option Addr)(cr:Nat)(hr_r:Rd w0 w0.heap.size 3 encI Ar r.st)(hp_r:r.st.length≤cr)(Br:Option Addr)(dr:Nat)(hs_r:Rd w0 w0.heap.size 161 encG Br r.steps)(hg:gpI g=true)(hc:cOk c=true)(hle:g.es.length≤1048576)(hla:r.st.length≤1048576)(hlb:r.steps.length≤1048576) : Ret Tryz.prog 117 [.agg #[vi g.n,.slice Ag g.es.length cg],.agg #[vi c.n,.slice Ac c.gs.length cc],.agg #[.slice Ar r.st.length cr,.slice Br r.steps.length dr]] w0 (fun v w=>∃ x,v=.tuple #[vi (runG g c r).1,vi (runG g c r).2,x]∧Below w0.heap.size w0 w):=by
 obtain ⟨hcn,hcl,hcg⟩:=X1r hc
 refine enter Tryz.func117 rfl 97 rfl rfl ?_
 intro a hf
 have hW:Below w0.heap.size w0 w0:=Below.refl _ _
 refine Zs hf fun _ hK5=>?_
 refine Zf (Xu (zs:=[vi g.n,.slice Ag g.es.length cg]) rfl rfl) ?_;rintro _ w1 ⟨b6,rfl,hl6,hE,hB6⟩
 have hlo6:=Nat.le_trans hW.size hl6
 replace hW:=btr hW hE
 refine Zf (Xu (zs:=[vi c.n,.slice Ac c.gs.length cc]) rfl rfl) ?_;rintro _ w2 ⟨b7,rfl,hl7,hE,hB7⟩
 have hlo7:=Nat.le_trans hW.size hl7
 replace hB6:=hB6.below hE
 replace hW:=btr hW hE
 refine Zf (Xu (zs:=[.slice Ar r.st.length cr,.slice Br r.steps.length dr]) rfl rfl) ?_;rintro _ w3 ⟨b8,rfl,hl8,hE,hB8⟩
 have hlo8:=Nat.le_trans hW.size hl8
 replace hB6:=hB6.below hE
 replace hB7:=hB7.below hE
 replace hW:=btr hW hE
 refine Za rfl<|Za rfl<|Za rfl ?_
 refine Zt hK5 fun a hf=>?_
 refine wp_seq_k fun _ hK10=>?_
 refine Zs hf fun _ hK11=>?_
 refine Ze (Vn X1k hB6)<|Ze (Vd rfl X0t 0)<|Ze (X0 rfl X5 (hB7.at 0))<|Ze (Vd rfl X2w 0)<|Ze (X0 rfl X2e (hB8.at 0)) ?_
 refine Zf (Vc (Xra _ g Ag cg (hr_g.below' hW).top c.n Ar cr r.st (hr_r.below' hW).top hp_r (by omega)) Xl8) ?_;rintro _ w4 ⟨rfl,hE⟩
 replace hB6:=hB6.below hE
 replace hB7:=hB7.below hE
 replace hB8:=hB8.below hE
 replace hW:=btr hW hE
 refine Ze (X09 rfl) ?_
 refine Zt hK11 fun a hf=>?_
 refine Xb hf rfl (fun hc12=>?_) (fun hc12=>?_)
 ·have hc12b:=hc12
  have hpf:plS g.n c.n r.st=false:=by revert hc12;cases plS g.n c.n r.st<;>simp
  have hfin:=Xd4 hpf
  refine Zs hf fun _ hK13=>?_
  refine Za rfl<|Za rfl<|Za rfl ?_
  refine Zt hK13 fun a hf=>?_
  refine wp_ret ?_
  refine X3 ?_
  refine X2 hf (X4l hf rfl rfl rfl rfl) ?_
  exact ⟨_,by rw [hfin],hW⟩
 have hc12b:=hc12
 have hpt:plS g.n c.n r.st=true:=by revert hc12;cases plS g.n c.n r.st<;>simp
 obtain ⟨fin,hfn⟩ : ∃ fin,playS g c.gs 0 r.steps r.st (List.replicate c.gs.length false)=fin:=⟨_,rfl⟩
 have hfin:=Xcz hpt hfn
 refine wp_skip ?_
 refine hK10 _ _ ?_
 refine Zs hf fun _ hK15=>?_
 refine Ze (Vd rfl X2w 0)<|Ze (X0 rfl X2e (hB8.at 0)) ?_
 refine Zf (Vc (Xou _ Ar cr r.st (hr_r.below' hW).top (by omega)) Xfv) ?_;rintro _ w5 ⟨A16,c16,rfl,ho16,hE⟩
 replace ho16:=ho16.lower hW.size
 replace hB6:=hB6.below hE
 replace hB7:=hB7.below hE
 replace hB8:=hB8.below hE
 replace hW:=btr hW hE
 refine Za rfl ?_
 refine Zt hK15 fun a hf=>?_
 refine Zs hf fun _ hK17=>?_
 refine Ze (Vd rfl X07 1)<|Ze (X0 rfl X0e (hB7.at 1))<|Ze (X0d rfl X02) ?_
 refine Zf (X1n (m:=c.gs.length) (enc:=encB) (z0:=false) rfl rfl X35 Xfq z_4 rfl X20 (by omega) (by omega)) ?_;rintro _ w6 ⟨b18,rfl,hl18,hE,hB18⟩
 have hlo18:=Nat.le_trans hW.size hl18
 replace hB6:=hB6.below hE
 replace hB7:=hB7.below hE
 replace hB8:=hB8.below hE
 replace ho16:=ho16.below hE
 replace hW:=btr hW hE
 refine Za rfl ?_
 refine Zt hK17 fun a hf=>?_
 refine Zs hf fun _ hK20=>?_
 refine Ze (Vd rfl X07 1)<|Ze (X0 rfl X0e (hB7.at 1))<|Ze (X0d rfl X02)<|Za rfl ?_
 refine Zt hK20 fun a hf=>?_
 refine wp_seq_k fun _ hK21=>?_
 refine Zs hf fun _ hK22=>?_
 refine Ze (Vd rfl X2o 1)<|Ze (X0 rfl X64 (hB8.at 1))<|Ze (X0d rfl X2d)<|Zm rfl ?_
 refine Zt hK22 fun a hf=>?_
 refine wp_block ?_
 refine X04 (σ:=Nat×(List Int)×(List Bool)×Int) (fun (s:Nat×(List Int)×(List Bool)×Int) (a:Act) (w:World)=>match s with|(k,p,d,z)=>∃ A23 c23,Fr a 97 [(3,.pointer (some ⟨b6,0,none⟩)),(4,.pointer (some ⟨b7,0,none⟩)),(5,.pointer (some ⟨b8,0,none⟩)),(9,.slice A23 p.length c23),(10,.slice (some ⟨b18,0,none⟩) c.gs.length c.gs.length),(11,vi z),(32,.slice Br r.steps.length dr),(33,vi (r.steps.length:Int)),(34,vi (k:Int))]∧(k≤r.steps.length)∧((p.length:Int)=c.n)∧(d.length=c.gs.length)∧(z=((d.filter fun x=>!x).length:Int))∧(playS g c.gs k (r.steps.drop k) p d=fin)∧Blk w b6 79 [vi g.n,.slice Ag g.es.length cg]∧Blk w b7 41 [vi c.n,.slice Ac c.gs.length cc]∧Blk w b8 83 [.slice Ar r.st.length cr,.slice Br r.steps.length dr]∧Blk w b18 4 (d.flatMap encB)∧Own w w0.heap.size 3 1 encI A23 c23 p∧r.st.length≤cr∧Below w0.heap.size w0 w) (fun (s:Nat×(List Int)×(List Bool)×Int)=>match s with|(k,p,d,z)=>r.steps.length-k) (0,r.st,(List.replicate c.gs.length false),(c.gs.length:Int)) ?_ ?_
 · exact ⟨A16,c16,hf.sub ⟨rfl,rfl,rfl,rfl,rfl,rfl,rfl,rfl,rfl,trivial⟩,(Nat.zero_le _),(Xa8 hpt),(by simp),(by rw [Xgr]),hfn,hB6,hB7,hB8,hB18,ho16,hp_r,hW⟩
 rintro ⟨k,p,d,z⟩ a w7 ⟨A23,c23,hf,hk,hpn,hdl,hz,hinv,hB6,hB7,hB8,hB18,ho23,hp_r,hW⟩
 refine Zs hf fun _ hK24=>?_
 refine Ze (X0m rfl rfl) ?_
 refine Zt hK24 fun a hf=>?_
 refine wp_seq_k fun _ hK25=>?_
 refine Xb hf rfl (fun hc26=>?_) (fun hc26=>?_)
 ·have hc26b:=hc26
  have hc26:=of_decide_eq_true hc26
  obtain ⟨u27,hu27⟩:=Xf (l:=r.steps) (k:=k) (by omega)
  have hdr:=X74 hu27
  rw [hdr] at hinv
  refine wp_skip ?_
  refine hK25 _ _ ?_
  refine wp_seq_k fun _ hK28=>?_
  refine wp_block ?_
  refine Zs hf fun _ hK29=>?_
  refine Zm rfl ?_
  refine Zi (k:=k) (u:=u27) (enc:=encG) (l:=r.steps) trivial rfl rfl X2d X2h Xq (hs_r.below' hW) hu27 rfl ?_;intro p31 hat30
  refine Ze (Xi (l:=[vi u27.k,vi u27.a,vi u27.b]) rfl X3b hat30 rfl) ?_
  refine Zf (Xa (zs:=[vi 0,vi 0,vi 0]) X79 rfl) ?_;rintro _ w8 ⟨b32,rfl,hl32,hE,hB32⟩
  have hlo32:=Nat.le_trans hW.size hl32
  have haw4_32:=(hs_r.below' hW).away hl32
  replace hB6:=hB6.below hE
  replace hB7:=hB7.below hE
  replace hB8:=hB8.below hE
  replace hB18:=hB18.below hE
  replace ho23:=ho23.below hE
  replace hW:=btr hW hE
  refine Za rfl ?_
  refine Zo (Vw [vi u27.k,vi u27.a,vi u27.b] X2h hB32) ?_;rintro _ w9 ⟨ho,hb⟩
  have hold:=hB32
  replace hB6:=hB6.only ho (Blk.ne hB6 hold rfl)
  replace hB7:=hB7.only ho (Blk.ne hB7 hold rfl)
  replace hB8:=hB8.only ho (Blk.ne hB8 hold rfl)
  replace hB18:=hB18.only ho (Blk.ne hB18 hold rfl)
  replace ho23:=ho23.onlyT ho hold rfl
  replace hW:=Below.only hW ho hlo32
  clear hold
  have hB32:=hb
  clear hb ho
  refine Zt hK29 fun a hf=>?_
  refine wp_seq_k fun _ hK33=>?_
  refine Zs hf fun _ hK34=>?_
  refine Ze (Vd rfl X1c 0)<|Ze (X0 rfl X5 (hB32.at 0))<|Ze (X0s rfl rfl) ?_
  refine Zt hK34 fun a hf=>?_
  refine Xb hf rfl (fun hc35=>?_) (fun hc35=>?_)
  ·have hc35b:=hc35
   have hk1:=hc35
   refine wp_seq_k fun _ hK36=>?_
   refine Zs hf fun _ hK37=>?_
   refine Ze (Vn X1k hB6)<|Ze (Vd rfl X1u 1)<|Ze (X0 rfl X5 (hB32.at 1))<|Ze (Vd rfl X1v 2)<|Ze (X0 rfl X5 (hB32.at 2)) ?_
   refine Zf (Vc (Xpj _ g Ag cg (hr_g.below' hW).top u27.a u27.b (by omega)) Xhy) ?_;rintro _ w10 ⟨rfl,hE⟩
   replace hB6:=hB6.below hE
   replace hB7:=hB7.below hE
   replace hB8:=hB8.below hE
   replace hB18:=hB18.below hE
   replace hB32:=hB32.below hE
   replace ho23:=ho23.below hE
   replace hW:=btr hW hE
   refine Ze (X09 rfl) ?_
   refine Zt hK37 fun a hf=>?_
   refine Xb hf rfl (fun hc38=>?_) (fun hc38=>?_)
   ·have hc38b:=hc38
    have he:edgS g u27.a u27.b=false:=by revert hc38;cases edgS g u27.a u27.b<;>simp
    have hst:=X6a hinv (X7f hk1 he) (by decide)
    refine Zs hf fun _ hK39=>?_
    refine Zm rfl<|Za rfl<|Za rfl<|Za rfl ?_
    refine Zt hK39 fun a hf=>?_
    refine wp_ret ?_
    refine X3 ?_
    refine X3 ?_
    refine Xj ?_
    refine X3 ?_
    refine X3 ?_
    refine Xj ?_
    refine X3 ?_
    refine X2 hf (X4l hf rfl rfl rfl rfl) ?_
    exact ⟨_,by rw [hfin,hst],hW⟩
   have hc38b:=hc38
   have he:edgS g u27.a u27.b=true:=by revert hc38;cases edgS g u27.a u27.b<;>simp
   have hnx:=Xdn hinv (X81 hk1 he)
   refine wp_skip ?_
   refine hK36 _ _ ?_
   refine Zs hf fun _ hK41=>?_
   refine Zm rfl<|Ze (Vd rfl X1u 1)<|Ze (X0 rfl X5 (hB32.at 1))<|Ze (Vd rfl X1v 2)<|Ze (X0 rfl X5 (hB32.at 2)) ?_
   refine Zf (Vc (Xqg _ A23 c23 p ho23.rd.top u27.a u27.b (by omega)) Xhf) ?_;rintro _ w11 ⟨A42,c42,rfl,ho42,hE⟩
   replace ho42:=ho42.lower hW.size
   replace hB6:=hB6.below hE
   replace hB7:=hB7.below hE
   replace hB8:=hB8.below hE
   replace hB18:=hB18.below hE
   replace hB32:=hB32.below hE
   replace ho23:=ho23.below hE
   replace hW:=btr hW hE
   refine Za rfl ?_
   refine Zt hK41 fun a hf=>?_
   refine wp_exit ?_
   refine Xm ?_
   refine X03 ?_
   refine hK28 _ _ ?_
   refine Zr hf ?_
   refine Ze (Xy rfl rfl (by omega) (by omega))<|Zm rfl ?_
   refine Zn fun a hf=>?_
   refine Xk ?_
   exact ⟨(k+1,(swapP p u27.a u27.b),d,z),⟨A42,c42,hf.sub ⟨rfl,rfl,rfl,rfl,rfl,rfl,rfl,rfl,rfl,trivial⟩,(by omega),(by rw [X2k];exact hpn),hdl,hz,hnx,hB6,hB7,hB8,hB18,ho42,hp_r,hW⟩,(by first|omega|(dsimp only;omega))⟩
  have hc35b:=hc35
  have hk1:=hc35
  refine wp_skip ?_
  refine hK33 _ _ ?_
  refine wp_seq_k fun _ hK43=>?_
  refine wp_seq_k fun _ hK44=>?_
  refine X06 (fun a w=>Fr a 97 [(3,.pointer (some ⟨b6,0,none⟩)),(4,.pointer (some ⟨b7,0,none⟩)),(5,.pointer (some ⟨b8,0,none⟩)),(9,.slice A23 p.length c23),(10,.slice (some ⟨b18,0,none⟩) c.gs.length c.gs.length),(11,vi z),(12,vi (k:Int)),(13,.pointer (some ⟨b32,0,none⟩)),(32,.slice Br r.steps.length dr),(33,vi (r.steps.length:Int)),(34,vi (k:Int)),(71,.bool (((u27.a != 0)||(u27.b != 0))||(!(redS c.gs d u27.k))))]∧Below w9.heap.size w9 w) ?_ ?_
  ·have hEc:Below w9.heap.size w9 w9:=Below.refl _ _
   refine Zr hf ?_
   refine Ze (Vd rfl X1u 1)<|Ze (X0 rfl X5 (hB32.at 1))<|Ze (X1g rfl rfl)<|Zm rfl ?_
   refine Zg 59 rfl (fun hg45=>?_) (fun hg45=>?_)
   ·refine Zp ⟨_,_,rfl,rfl,hg45⟩ ?_
    refine Zp ⟨_,_,rfl,rfl,hg45⟩ ?_
    refine Zp ⟨_,_,rfl,rfl,hg45⟩ ?_
    refine Ze (X9 rfl hg45 rfl)<|Zm rfl<|Zp ⟨_,_,rfl,rfl,rfl⟩ ?_
    refine Zp ⟨_,_,rfl,rfl,rfl⟩ ?_
    refine Zp ⟨_,_,rfl,rfl,rfl⟩ ?_
    refine Zp ⟨_,_,rfl,rfl,rfl⟩ ?_
    refine Zp ⟨_,_,rfl,rfl,rfl⟩ ?_
    refine Zp ⟨_,_,rfl,rfl,rfl⟩ ?_
    refine Ze (X9 rfl rfl rfl) ?_
    refine Zn fun a hf=>?_
    have hEE:Below w9.heap.size w9 w9:=hEc
    exact ⟨hf.sub ⟨rfl,rfl,rfl,rfl,rfl,rfl,rfl,rfl,rfl,rfl,rfl,X1 rfl (by first|rfl|(simp only [hc12b,hc26b,hc35b,hg45,bs];done)|simp [hc12b,hc26b,hc35b,hg45]),trivial⟩,hEE⟩
   refine Zv ⟨_,_,rfl,rfl,hg45⟩ (Vd rfl X1v 2) ?_
   refine Zv ⟨_,_,rfl,rfl,hg45⟩ (X0 rfl X5 (hB32.at 2)) ?_
   refine Zv ⟨_,_,rfl,rfl,hg45⟩ (X1g rfl rfl) ?_
   refine Ze (X7 rfl hg45 rfl)<|Zm rfl ?_
   refine Zg 64 rfl (fun hg46=>?_) (fun hg46=>?_)
   ·refine Zp ⟨_,_,rfl,rfl,hg46⟩ ?_
    refine Zp ⟨_,_,rfl,rfl,hg46⟩ ?_
    refine Zp ⟨_,_,rfl,rfl,hg46⟩ ?_
    refine Zp ⟨_,_,rfl,rfl,hg46⟩ ?_
    refine Zp ⟨_,_,rfl,rfl,hg46⟩ ?_
    refine Zp ⟨_,_,rfl,rfl,hg46⟩ ?_
    refine Ze (X9 rfl hg46 rfl) ?_
    refine Zn fun a hf=>?_
    have hEE:Below w9.heap.size w9 w9:=hEc
    exact ⟨hf.sub ⟨rfl,rfl,rfl,rfl,rfl,rfl,rfl,rfl,rfl,rfl,rfl,X1 rfl (by first|rfl|(simp only [hc12b,hc26b,hc35b,hg45,hg46,bs];done)|simp [hc12b,hc26b,hc35b,hg45,hg46]),trivial⟩,hEE⟩
   refine Zv ⟨_,_,rfl,rfl,hg46⟩ (Vn X0c hB7) ?_
   refine Zv ⟨_,_,rfl,rfl,hg46⟩ (X8 rfl) ?_
   refine Zv ⟨_,_,rfl,rfl,hg46⟩ (Vd rfl X1c 0) ?_
   refine Zv ⟨_,_,rfl,rfl,hg46⟩ (X0 rfl X5 (hB32.at 0)) ?_
   refine Zk ⟨_,_,rfl,rfl,hg46⟩ (X7b (vs:=[.agg #[vi c.n,.slice Ac c.gs.length cc],.slice (some ⟨b18,0,none⟩) c.gs.length c.gs.length,vi u27.k]) rfl Xl4 (by have hq:=Xqo _ c Ac cc (hr_c.below' hW).top (some ⟨b18,0,none⟩) c.gs.length d (Rd.of_blk hB18 rfl _ hB18.lt) u27.k hdl (by omega);rw [hdl] at hq;exact hq)) ?_;rintro _ w12 ⟨rfl,hE⟩
   replace hB6:=hB6.below hE
   replace hB7:=hB7.below hE
   replace hB8:=hB8.below hE
   replace hB18:=hB18.below hE
   replace hB32:=hB32.below hE
   replace ho23:=ho23.below hE
   replace hW:=btr hW hE
   replace hEc:=btr hEc hE
   refine Zv ⟨_,_,rfl,rfl,hg46⟩ (X09 rfl) ?_
   refine Ze (X7 rfl hg46 rfl) ?_
   refine Zn fun a hf=>?_
   have hEE:Below w9.heap.size w9 w12:=hEc
   exact ⟨hf.sub ⟨rfl,rfl,rfl,rfl,rfl,rfl,rfl,rfl,rfl,rfl,rfl,X1 rfl (by first|rfl|(simp only [hc12b,hc26b,hc35b,hg45,hg46,bs];done)|simp [hc12b,hc26b,hc35b,hg45,hg46]),trivial⟩,hEE⟩
  rintro a w13 ⟨hf,hE⟩
  replace hB6:=hB6.below hE
  replace hB7:=hB7.below hE
  replace hB8:=hB8.below hE
  replace hB18:=hB18.below hE
  replace hB32:=hB32.below hE
  replace ho23:=ho23.below hE
  replace hW:=btr hW hE
  refine hK44 _ _ ?_
  refine Xb hf rfl (fun hc47=>?_) (fun hc47=>?_)
  ·have hc47b:=hc47
   have hst:=X6a hinv (X7w hk1 hc47) (by decide)
   refine Zs hf fun _ hK48=>?_
   refine Zm rfl<|Za rfl<|Za rfl<|Za rfl ?_
   refine Zt hK48 fun a hf=>?_
   refine wp_ret ?_
   refine X3 ?_
   refine Xj ?_
   refine X3 ?_
   refine X3 ?_
   refine Xj ?_
   refine X3 ?_
   refine X2 hf (X4l hf rfl rfl rfl rfl) ?_
   exact ⟨_,by rw [hfin,hst],hW⟩
  have hc47b:=hc47
  have hw:=hc47
  obtain ⟨hb0,hb1,hb2⟩:=X7y (X9w hw)
  refine wp_skip ?_
  refine hK43 _ _ ?_
  refine wp_seq_k fun _ hK50=>?_
  refine wp_seq_k fun _ hK51=>?_
  refine X05 none (fun _=>false) mixed ?_
  intro w14 hE
  replace hB6:=hB6.below hE
  replace hB7:=hB7.below hE
  replace hB8:=hB8.below hE
  replace hB18:=hB18.below hE
  replace hB32:=hB32.below hE
  replace ho23:=ho23.below hE
  replace hW:=btr hW hE
  refine Yb hf ?_
  refine Ye 0 rfl (Vn X1k hB6)<|Yo 1 rfl (fun _=>X8 rfl)<|Yo 2 rfl (fun _=>Vd rfl X07 1)<|Ye 3 rfl (X0 rfl X0e (hB7.at 1))<|Yo 4 rfl (fun _=>Vd rfl X1c 0) ?_
  refine Ye 5 rfl (X0 rfl X5 (hB32.at 0)) ?_
  refine Yi (k:=u27.k.toNat) (u:=(c.gs.getD u27.k.toNat gZ)) (enc:=encG) (l:=c.gs) 6 rfl trivial rfl rfl X02 X0o Xq (hr_c.below' hW) (X6t (by omega)) (by omega) ?_;intro p53 hat52
  refine Ye 7 rfl (Xi (l:=[vi ((c.gs.getD u27.k.toNat gZ).k),vi ((c.gs.getD u27.k.toNat gZ).a),vi ((c.gs.getD u27.k.toNat gZ).b)]) rfl X0k hat52 rfl) ?_
  refine Y1 8 ?_
  refine Yk rfl trivial (Vc (Xsr _ g Ag cg (hr_g.below' hW).top A23 c23 p ho23.rd.top (c.gs.getD u27.k.toNat gZ) c.n (hcg _ (List.mem_of_getElem? (X6t (by omega)))) hpn (by omega)) Xm4) (fun _ _ ⟨_,hE⟩=>hE) ?_;rintro _ w15 ⟨rfl,hE⟩
  replace hB6:=hB6.below hE
  replace hB7:=hB7.below hE
  replace hB8:=hB8.below hE
  replace hB18:=hB18.below hE
  replace hB32:=hB32.below hE
  replace ho23:=ho23.below hE
  replace hW:=btr hW hE
  refine Yo 9 rfl (fun _=>X09 rfl) ?_
  refine Yd fun a hf=>?_
  refine hK51 _ _ ?_
  refine Xb hf rfl (fun hc54=>?_) (fun hc54=>?_)
  ·have hc54b:=hc54
   have hn:nearS g p (c.gs.getD u27.k.toNat gZ)=false:=by revert hc54;cases nearS g p (c.gs.getD u27.k.toNat gZ)<;>simp
   have hst:=X6a hinv (Xae hk1 hw hn) (by decide)
   refine Zs hf fun _ hK55=>?_
   refine Zm rfl<|Za rfl<|Za rfl<|Za rfl ?_
   refine Zt hK55 fun a hf=>?_
   refine wp_ret ?_
   refine X3 ?_
   refine Xj ?_
   refine X3 ?_
   refine X3 ?_
   refine Xj ?_
   refine X3 ?_
   refine X2 hf (X4l hf rfl rfl rfl rfl) ?_
   exact ⟨_,by rw [hfin,hst],hW⟩
  have hc54b:=hc54
  have hn:nearS g p (c.gs.getD u27.k.toNat gZ)=true:=by revert hc54;cases nearS g p (c.gs.getD u27.k.toNat gZ)<;>simp
  have hnx:=Xdn hinv (X83 hk1 hw hn)
  have hd0:d[u27.k.toNat]? = some false:=by rw [X14 false (show u27.k.toNat<d.length by omega),hb2]
  have hzb:=List.length_filter_le (fun x=>!x) d
  have hzc:=X9i hd0
  refine wp_skip ?_
  refine hK50 _ _ ?_
  refine Zs hf fun _ hK57=>?_
  refine Zm rfl<|Ze (Vd rfl X1c 0)<|Ze (X0 rfl X5 (hB32.at 0))<|Ze (X3h (k:=u27.k.toNat) (off:=u27.k.toNat*1) rfl rfl X35 X80 (by omega) (by omega) rfl) ?_
  refine Zo (X3i (enc:=encB) (l:=d) (u:=true) (k:=u27.k.toNat) rfl rfl X80 hB18 X20 Xgm rfl (by omega)) ?_;rintro _ w16 ⟨ho,hb⟩
  have hold:=hB18
  replace hB6:=hB6.only ho (Blk.ne hB6 hold rfl)
  replace hB7:=hB7.only ho (Blk.ne hB7 hold rfl)
  replace hB8:=hB8.only ho (Blk.ne hB8 hold rfl)
  replace hB32:=hB32.only ho (Blk.ne hB32 hold rfl)
  replace ho23:=ho23.onlyT ho hold rfl
  replace hW:=Below.only hW ho hlo18
  clear hold
  have hB18:=hb
  clear hb ho
  refine Zt hK57 fun a hf=>?_
  refine Zr hf ?_
  refine Zm rfl<|Ze (X11 rfl rfl (by omega) (by omega))<|Za rfl ?_
  refine Zn fun a hf=>?_
  refine Xn ?_
  refine hK28 _ _ ?_
  refine Zr hf ?_
  refine Ze (Xy rfl rfl (by omega) (by omega))<|Zm rfl ?_
  refine Zn fun a hf=>?_
  refine Xk ?_
  exact ⟨(k+1,p,(d.set u27.k.toNat true),z-1),⟨A23,c23,hf.sub ⟨rfl,rfl,rfl,rfl,rfl,rfl,rfl,rfl,rfl,trivial⟩,(by omega),hpn,(by simp;exact hdl),(by rw [hz];have:=X9i hd0;omega),hnx,hB6,hB7,hB8,hB18,ho23,hp_r,hW⟩,(by first|omega|(dsimp only;omega))⟩
 have hc26b:=hc26
 have hc26:=of_decide_eq_false hc26
 have hdr:r.steps.drop k=[]:=List.drop_of_length_le (by omega)
 rw [hdr] at hinv
 refine wp_exit ?_
 refine Xm ?_
 refine Xm ?_
 refine X03 ?_
 refine hK21 _ _ ?_
 refine wp_seq_k fun _ hK58=>?_
 refine Zs hf fun _ hK59=>?_
 refine Zm rfl<|Ze (X42 rfl rfl) ?_
 refine Zt hK59 fun a hf=>?_
 refine Xb hf rfl (fun hc60=>?_) (fun hc60=>?_)
 ·have hc60b:=hc60
  have hc60:=of_decide_eq_true hc60
  have hst:=X96 hinv (by rw [X6y,← hz];exact decide_eq_true hc60)
  refine wp_seq_k fun _ hK61=>?_
  refine X05 none (fun _=>false) mixed ?_
  intro w17 hE
  replace hB8:=hB8.below hE
  replace ho23:=ho23.below hE
  replace hW:=btr hW hE
  refine Yb hf ?_
  refine Yo 0 rfl (fun _=>Vd rfl X2o 1)<|Ye 1 rfl (X0 rfl X64 (hB8.at 1))<|Yo 2 rfl (fun _=>X0d rfl X2d)<|Yo 3 rfl (fun _=>X0p rfl)<|Yo 4 rfl (fun _=>X0p rfl) ?_
  refine Yo 5 rfl (fun _=>X0p rfl) ?_
  refine Yd fun a hf=>?_
  refine hK61 _ _ ?_
  refine wp_ret ?_
  refine X3 ?_
  refine X2 hf (X4l hf rfl rfl rfl rfl) ?_
  have hke:k=r.steps.length:=by omega
  rw [hke] at hst
  exact ⟨_,by rw [hfin,hst],hW⟩
 have hc60b:=hc60
 have hc60:=of_decide_eq_false hc60
 have hst:=X8e hinv (by rw [X6y,← hz];exact decide_eq_false hc60)
 refine wp_skip ?_
 refine hK58 _ _ ?_
 refine Zs hf fun _ hK63=>?_
 refine Zm rfl<|Za rfl<|Za rfl<|Za rfl ?_
 refine Zt hK63 fun a hf=>?_
 refine wp_ret (X2 hf (X4l hf rfl rfl rfl rfl) ?_)
 exact ⟨_,by rw [hfin,hst],hW⟩
theorem F76(w0:World)(g:Gp)(Ag:Option Addr)(cg:Nat)(hr_g:Rd w0 w0.heap.size 164 encE Ag g.es)(c:Cx)(Ac:Option Addr)(cc:Nat)(hr_c:Rd w0 w0.heap.size 107 encG Ac c.gs)(r:Ro)(Ar:Option Addr)(cr:Nat)(hr_r:Rd w0 w0.heap.size 3 encI Ar r.st)(hp_r:r.st.length≤cr)(Br:Option Addr)(dr:Nat)(hs_r:Rd w0 w0.heap.size 161 encG Br r.steps)(hle:g.es.length≤1048576)(hlc:c.gs.length≤1048576)(hla:r.st.length≤1048576)(hlb:r.steps.length≤1048576) : Ret Tryz.prog 76 [.agg #[vi g.n,.slice Ag g.es.length cg],.agg #[vi c.n,.slice Ac c.gs.length cc],.agg #[.slice Ar r.st.length cr,.slice Br r.steps.length dr]] w0 (fun v w=>v=.tuple #[vi ((chkRS g c r).1),vi ((chkRS g c r).2.1),.bool ((chkRS g c r).2.2)]∧Below w0.heap.size w0 w):=by
 refine enter Tryz.func76 rfl 26 rfl rfl ?_
 intro a hf
 have hW:Below w0.heap.size w0 w0:=Below.refl _ _
 refine Zs hf fun _ hK5=>?_
 refine Zf (Xu (zs:=[vi g.n,.slice Ag g.es.length cg]) rfl rfl) ?_;rintro _ w1 ⟨b6,rfl,hl6,hE,hB6⟩
 have hlo6:=Nat.le_trans hW.size hl6
 replace hW:=btr hW hE
 refine Zf (Xu (zs:=[vi c.n,.slice Ac c.gs.length cc]) rfl rfl) ?_;rintro _ w2 ⟨b7,rfl,hl7,hE,hB7⟩
 have hlo7:=Nat.le_trans hW.size hl7
 replace hB6:=hB6.below hE
 replace hW:=btr hW hE
 refine Zf (Xu (zs:=[.slice Ar r.st.length cr,.slice Br r.steps.length dr]) rfl rfl) ?_;rintro _ w3 ⟨b8,rfl,hl8,hE,hB8⟩
 have hlo8:=Nat.le_trans hW.size hl8
 replace hB6:=hB6.below hE
 replace hB7:=hB7.below hE
 replace hW:=btr hW hE
 refine Za rfl<|Za rfl<|Za rfl ?_
 refine Zt hK5 fun a hf=>?_
 refine wp_seq_k fun _ hK9=>?_
 refine Zs hf fun _ hK10=>?_
 refine Ze (Vn X1k hB6)<|Ze (Vn X0c hB7) ?_
 refine Zf (Vc (F75 _ g Ag cg (hr_g.below' hW).top c Ac cc (hr_c.below' hW).top (by omega) (by omega)) Xfr) ?_;rintro _ w4 ⟨rfl,hE⟩
 replace hB6:=hB6.below hE
 replace hB7:=hB7.below hE
 replace hB8:=hB8.below hE
 replace hW:=btr hW hE
 refine Ze (X09 rfl) ?_
 refine Zt hK10 fun a hf=>?_
 refine Xb hf rfl (fun hc11=>?_) (fun hc11=>?_)
 ·have hc11b:=hc11
  have hff:fitsS g c=false:=by revert hc11;cases fitsS g c<;>simp
  refine Zs hf fun _ hK12=>?_
  refine Za rfl<|Za rfl<|Za rfl ?_
  refine Zt hK12 fun a hf=>?_
  refine wp_ret ?_
  refine X3 ?_
  refine X2 hf (X4l hf rfl rfl rfl rfl) ?_
  exact ⟨by rw [chkRS,if_neg (by rw [hff];simp)],hW⟩
 have hc11b:=hc11
 have hft:fitsS g c=true:=by revert hc11;cases fitsS g c<;>simp
 obtain ⟨hg,hc,hcn9⟩:=X76 hft
 refine wp_skip ?_
 refine hK9 _ _ ?_
 refine Zs hf fun _ hK13=>?_
 refine Ze (Vn X1k hB6)<|Ze (Vn X0c hB7)<|Ze (Vn X47 hB8) ?_
 refine Zf (Vc (Xog _ g Ag cg (hr_g.below' hW).top c Ac cc (hr_c.below' hW).top r Ar cr (hr_r.below' hW).top hp_r Br dr (hs_r.below' hW).top hg hc hle hla hlb) Xfs) ?_;rintro _ w5 ⟨vx20,rfl,hE⟩
 replace hB6:=hB6.below hE
 replace hB7:=hB7.below hE
 replace hB8:=hB8.below hE
 replace hW:=btr hW hE
 refine Zm rfl<|Ze (X6 (vs:=[vi ((runG g c r).1),vi ((runG g c r).2),vx20]) rfl rfl)<|Ze (X6 (vs:=[vi ((runG g c r).1),vi ((runG g c r).2),vx20]) rfl rfl)<|Ze (X6 (vs:=[vi ((runG g c r).1),vi ((runG g c r).2),vx20]) rfl rfl)<|Za rfl ?_
 refine Za rfl<|Za rfl ?_
 refine Zt hK13 fun a hf=>?_
 refine Zs hf fun _ hK14=>?_
 refine Zm rfl<|Zm rfl<|Za rfl<|Za rfl<|Za rfl ?_
 refine Zt hK14 fun a hf=>?_
 refine wp_ret (X2 hf (X4l hf rfl rfl rfl rfl) ?_)
 exact ⟨by rw [chkRS,if_pos hft],hW⟩
end Go.Proofs.YtfgnmflfiobkmaaGreat
set_option maxHeartbeats 1000000
set_option maxRecDepth 4000
namespace Go.Proofs.YtfgnmflfiobkmaaGreat
open Go.RowKit
theorem F77(w0:World)(g:Gp)(Ag:Option Addr)(cg:Nat)(hr_g:Rd w0 w0.heap.size 164 encE Ag g.es)(c:Cx)(Ac:Option Addr)(cc:Nat)(hr_c:Rd w0 w0.heap.size 107 encG Ac c.gs)(r:Ro)(Ar:Option Addr)(cr:Nat)(hr_r:Rd w0 w0.heap.size 3 encI Ar r.st)(hp_r:r.st.length≤cr)(Br:Option Addr)(dr:Nat)(hs_r:Rd w0 w0.heap.size 161 encG Br r.steps)(hle:g.es.length≤1048576)(hlc:c.gs.length≤1048576)(hla:r.st.length≤1048576)(hlb:r.steps.length≤1048576) : Ret Tryz.prog 77 [.agg #[vi g.n,.slice Ag g.es.length cg],.agg #[vi c.n,.slice Ac c.gs.length cc],.agg #[.slice Ar r.st.length cr,.slice Br r.steps.length dr]] w0 (fun v w=>∃ A c1,v=.tuple #[.agg #[vi ((rcS g c r).getD cZ).n,.slice A ((rcS g c r).getD cZ).gs.length c1],.bool (rcS g c r).isSome]∧Own w w0.heap.size 107 3 encG A c1 ((rcS g c r).getD cZ).gs∧Below w0.heap.size w0 w):=by
 refine enter Tryz.func77 rfl 105 rfl rfl ?_
 intro a hf
 have hW:Below w0.heap.size w0 w0:=Below.refl _ _
 refine Zs hf fun _ hK5=>?_
 refine Zf (Xu (zs:=[vi g.n,.slice Ag g.es.length cg]) rfl rfl) ?_;rintro _ w1 ⟨b6,rfl,hl6,hE,hB6⟩
 have hlo6:=Nat.le_trans hW.size hl6
 replace hW:=btr hW hE
 refine Zf (Xu (zs:=[vi c.n,.slice Ac c.gs.length cc]) rfl rfl) ?_;rintro _ w2 ⟨b7,rfl,hl7,hE,hB7⟩
 have hlo7:=Nat.le_trans hW.size hl7
 replace hB6:=hB6.below hE
 replace hW:=btr hW hE
 refine Zf (Xu (zs:=[.slice Ar r.st.length cr,.slice Br r.steps.length dr]) rfl rfl) ?_;rintro _ w3 ⟨b8,rfl,hl8,hE,hB8⟩
 have hlo8:=Nat.le_trans hW.size hl8
 replace hB6:=hB6.below hE
 replace hB7:=hB7.below hE
 replace hW:=btr hW hE
 refine Zf (Xa (zs:=[vi 0,.slice none 0 0]) X3n rfl) ?_;rintro _ w4 ⟨b10,rfl,hl10,hE,hB10⟩
 have hne7_10:b7≠b10:=by have:=hB7.lt;omega
 have hlo10:=Nat.le_trans hW.size hl10
 replace hB6:=hB6.below hE
 replace hB7:=hB7.below hE
 replace hB8:=hB8.below hE
 replace hW:=btr hW hE
 refine Za rfl ?_
 refine Zt hK5 fun a hf=>?_
 refine wp_seq_k fun _ hK11=>?_
 refine wp_seq_k fun _ hK12=>?_
 refine X06 (fun a w=>Fr a 105 [(3,.pointer (some ⟨b6,0,none⟩)),(4,.pointer (some ⟨b7,0,none⟩)),(5,.pointer (some ⟨b8,0,none⟩)),(6,.pointer (some ⟨b10,0,none⟩)),(30,.bool (((!(fitsS g c))||(decide (5<g.n)))||(decide (400<(r.steps.length:Int)))))]∧Below w4.heap.size w4 w) ?_ ?_
 ·have hEc:Below w4.heap.size w4 w4:=Below.refl _ _
  refine Zr hf ?_
  refine Ze (Vn X1k hB6)<|Ze (Vn X0c hB7) ?_
  refine Zf (Vc (F75 _ g Ag cg (hr_g.below' hW).top c Ac cc (hr_c.below' hW).top (by omega) (by omega)) Xfr) ?_;rintro _ w5 ⟨rfl,hE⟩
  replace hB6:=hB6.below hE
  replace hB7:=hB7.below hE
  replace hB8:=hB8.below hE
  replace hB10:=hB10.below hE
  replace hW:=btr hW hE
  replace hEc:=btr hEc hE
  refine Ze (X09 rfl)<|Zm rfl ?_
  refine Zg 20 rfl (fun hg13=>?_) (fun hg13=>?_)
  ·refine Zp ⟨_,_,rfl,rfl,hg13⟩ ?_
   refine Zp ⟨_,_,rfl,rfl,hg13⟩ ?_
   refine Zp ⟨_,_,rfl,rfl,hg13⟩ ?_
   refine Ze (X9 rfl hg13 rfl)<|Zm rfl<|Zp ⟨_,_,rfl,rfl,rfl⟩ ?_
   refine Zp ⟨_,_,rfl,rfl,rfl⟩ ?_
   refine Zp ⟨_,_,rfl,rfl,rfl⟩ ?_
   refine Zp ⟨_,_,rfl,rfl,rfl⟩ ?_
   refine Ze (X9 rfl rfl rfl) ?_
   refine Zn fun a hf=>?_
   have hEE:Below w4.heap.size w4 w5:=hEc
   exact ⟨hf.sub ⟨rfl,rfl,rfl,rfl,X1 rfl (by first|rfl|(simp only [hg13,bs];done)|simp [hg13]),trivial⟩,hEE⟩
  refine Zv ⟨_,_,rfl,rfl,hg13⟩ (Vd rfl X1t 0) ?_
  refine Zv ⟨_,_,rfl,rfl,hg13⟩ (X0 rfl X5 (hB6.at 0)) ?_
  refine Zv ⟨_,_,rfl,rfl,hg13⟩ (X42 rfl rfl) ?_
  refine Ze (X7 rfl hg13 rfl)<|Zm rfl ?_
  refine Zg 25 rfl (fun hg14=>?_) (fun hg14=>?_)
  ·refine Zp ⟨_,_,rfl,rfl,hg14⟩ ?_
   refine Zp ⟨_,_,rfl,rfl,hg14⟩ ?_
   refine Zp ⟨_,_,rfl,rfl,hg14⟩ ?_
   refine Zp ⟨_,_,rfl,rfl,hg14⟩ ?_
   refine Ze (X9 rfl hg14 rfl) ?_
   refine Zn fun a hf=>?_
   have hEE:Below w4.heap.size w4 w5:=hEc
   exact ⟨hf.sub ⟨rfl,rfl,rfl,rfl,X1 rfl (by first|rfl|(simp only [hg13,hg14,bs];done)|simp [hg13,hg14]),trivial⟩,hEE⟩
  refine Zv ⟨_,_,rfl,rfl,hg14⟩ (Vd rfl X2o 1) ?_
  refine Zv ⟨_,_,rfl,rfl,hg14⟩ (X0 rfl X64 (hB8.at 1)) ?_
  refine Zv ⟨_,_,rfl,rfl,hg14⟩ (X0d rfl X2d) ?_
  refine Zv ⟨_,_,rfl,rfl,hg14⟩ (X42 rfl rfl) ?_
  refine Ze (X7 rfl hg14 rfl) ?_
  refine Zn fun a hf=>?_
  have hEE:Below w4.heap.size w4 w5:=hEc
  exact ⟨hf.sub ⟨rfl,rfl,rfl,rfl,X1 rfl (by first|rfl|(simp only [hg13,hg14,bs];done)|simp [hg13,hg14]),trivial⟩,hEE⟩
 rintro a w6 ⟨hf,hE⟩
 replace hB6:=hB6.below hE
 replace hB7:=hB7.below hE
 replace hB8:=hB8.below hE
 replace hB10:=hB10.below hE
 replace hW:=btr hW hE
 refine hK12 _ _ ?_
 refine Xb hf rfl (fun hc15=>?_) (fun hc15=>?_)
 ·have hc15b:=hc15
  have hfin:rcS g c r=none:=by rw [rcS,if_neg];intro h9;revert hc15;rw [h9.1];simp;omega
  refine Zs hf fun _ hK16=>?_
  refine Ze (X01 (ps:=[]) (cs:=[vi 0,.slice none 0 0]) rfl (fun _=>by first|rfl|kernel_rfl)) ?_
  refine Zo (Vw [vi 0,.slice none 0 0] X1j hB10) ?_;rintro _ w7 ⟨ho,hb⟩
  have hold:=hB10
  replace hB6:=hB6.only ho (Blk.ne hB6 hold rfl)
  replace hB7:=hB7.only ho (by omega)
  replace hB8:=hB8.only ho (Blk.ne hB8 hold rfl)
  replace hW:=Below.only hW ho hlo10
  clear hold
  have hB10:=hb
  clear hb ho
  refine Za rfl ?_
  refine Zt hK16 fun a hf=>?_
  refine wp_ret ?_
  refine X3 ?_
  refine X2 hf (X0q hf rfl (ResV.cellN (l:=[vi 0,.slice none 0 0]) rfl X0c (hB10.at 0) rfl) rfl) ?_
  rw [hfin]
  exact ⟨none,0,rfl,(Own.nil _ _ _ _ _),hW⟩
 have hc15b:=hc15
 obtain ⟨hft,hn5,hl4⟩ : fitsS g c=true∧g.n≤5∧r.steps.length≤400:=by revert hc15;cases fitsS g c<;>simp<;>omega
 obtain ⟨hg,hc,hcn9⟩:=X76 hft
 obtain ⟨hcn,hcl,hcg⟩:=X1r hc
 have hrc:rcS g c r=if (runG g c r).1=0 then some ⟨g.n,buildL c.gs r.steps r.st⟩ else none:=by rw [rcS,if_pos ⟨hft,hn5,hl4⟩]
 refine wp_skip ?_
 refine hK11 _ _ ?_
 refine wp_seq_k fun _ hK18=>?_
 refine Zs hf fun _ hK19=>?_
 refine Ze (Vn X1k hB6)<|Ze (Vn X0c hB7)<|Ze (Vn X47 hB8) ?_
 refine Zf (Vc (Xog _ g Ag cg (hr_g.below' hW).top c Ac cc (hr_c.below' hW).top r Ar cr (hr_r.below' hW).top hp_r Br dr (hs_r.below' hW).top hg hc hle hla hlb) Xfs) ?_;rintro _ w8 ⟨vx36,rfl,hE⟩
 replace hB6:=hB6.below hE
 replace hB7:=hB7.below hE
 replace hB8:=hB8.below hE
 replace hB10:=hB10.below hE
 replace hW:=btr hW hE
 refine Zm rfl<|Ze (X6 (vs:=[vi ((runG g c r).1),vi ((runG g c r).2),vx36]) rfl rfl)<|Ze (X6 (vs:=[vi ((runG g c r).1),vi ((runG g c r).2),vx36]) rfl rfl)<|Ze (X6 (vs:=[vi ((runG g c r).1),vi ((runG g c r).2),vx36]) rfl rfl)<|Za rfl ?_
 refine Za rfl<|Za rfl ?_
 refine Zt hK19 fun a hf=>?_
 refine Zs hf fun _ hK20=>?_
 refine Zm rfl<|Ze (X1g rfl rfl) ?_
 refine Zt hK20 fun a hf=>?_
 refine Xb hf rfl (fun hc21=>?_) (fun hc21=>?_)
 ·have hc21b:=hc21
  have hfin:rcS g c r=none:=by rw [hrc,if_neg (by simpa using hc21)]
  refine Zs hf fun _ hK22=>?_
  refine Ze (X01 (ps:=[]) (cs:=[vi 0,.slice none 0 0]) rfl (fun _=>by first|rfl|kernel_rfl)) ?_
  refine Zo (Vw [vi 0,.slice none 0 0] X1j hB10) ?_;rintro _ w9 ⟨ho,hb⟩
  have hold:=hB10
  replace hB6:=hB6.only ho (Blk.ne hB6 hold rfl)
  replace hB7:=hB7.only ho (by omega)
  replace hB8:=hB8.only ho (Blk.ne hB8 hold rfl)
  replace hW:=Below.only hW ho hlo10
  clear hold
  have hB10:=hb
  clear hb ho
  refine Za rfl ?_
  refine Zt hK22 fun a hf=>?_
  refine wp_ret ?_
  refine X3 ?_
  refine X2 hf (X0q hf rfl (ResV.cellN (l:=[vi 0,.slice none 0 0]) rfl X0c (hB10.at 0) rfl) rfl) ?_
  rw [hfin]
  exact ⟨none,0,rfl,(Own.nil _ _ _ _ _),hW⟩
 have hc21b:=hc21
 have h00:(runG g c r).1=0:=by simpa using hc21
 have hfin:rcS g c r=some ⟨g.n,buildL c.gs r.steps r.st⟩:=by rw [hrc,if_pos h00]
 have hpt:plS g.n c.n r.st=true:=by cases h9:plS g.n c.n r.st with|true=>rfl|false=>rw [Xd4 h9] at h00;simp at h00
 rw [Xcz hpt rfl] at h00
 refine wp_skip ?_
 refine hK18 _ _ ?_
 refine Zs hf fun _ hK24=>?_
 refine Ze (Vd rfl X1t 0)<|Ze (X0 rfl X5 (hB6.at 0))<|Ze (X01 (ps:=[(0,vi g.n)]) (cs:=[vi g.n,.slice none 0 0]) rfl (fun _=>by first|rfl|kernel_rfl)) ?_
 refine Zf (Xa (zs:=[vi 0,.slice none 0 0]) X3n rfl) ?_;rintro _ w10 ⟨b27,rfl,hl27,hE,hB27⟩
 have hne7_27:b7≠b27:=by have:=hB7.lt;omega
 have hne10_27:b10≠b27:=by have:=hB10.lt;omega
 have hlo27:=Nat.le_trans hW.size hl27
 replace hB6:=hB6.below hE
 replace hB7:=hB7.below hE
 replace hB8:=hB8.below hE
 replace hB10:=hB10.below hE
 replace hW:=btr hW hE
 refine Zo (Vw [vi g.n,.slice none 0 0] X1j hB27) ?_;rintro _ w11 ⟨ho,hb⟩
 have hold:=hB27
 replace hB6:=hB6.only ho (Blk.ne hB6 hold rfl)
 replace hB7:=hB7.only ho (by omega)
 replace hB8:=hB8.only ho (Blk.ne hB8 hold rfl)
 replace hB10:=hB10.only ho (by omega)
 replace hW:=Below.only hW ho hlo27
 clear hold
 have hB27:=hb
 clear hb ho
 refine Zt hK24 fun a hf=>?_
 refine Zs hf fun _ hK28=>?_
 refine Ze (Vd rfl X2w 0)<|Ze (X0 rfl X2e (hB8.at 0))<|Za rfl ?_
 refine Zt hK28 fun a hf=>?_
 refine wp_seq_k fun _ hK29=>?_
 refine Zs hf fun _ hK30=>?_
 refine Ze (Vd rfl X2o 1)<|Ze (X0 rfl X64 (hB8.at 1))<|Ze (X0d rfl X2d)<|Zm rfl ?_
 refine Zt hK30 fun a hf=>?_
 refine wp_block ?_
 refine X04 (σ:=Nat×(List Int)×(List Bool)×(List Gt)) (fun (s:Nat×(List Int)×(List Bool)×(List Gt)) (a:Act) (w:World)=>match s with|(k,p,d,m)=>∃ A31 c31 A32 c32,Fr a 105 [(4,.pointer (some ⟨b7,0,none⟩)),(6,.pointer (some ⟨b10,0,none⟩)),(11,.pointer (some ⟨b27,0,none⟩)),(12,.slice A31 p.length c31),(49,.slice Br r.steps.length dr),(50,vi (r.steps.length:Int)),(51,vi (k:Int))]∧(k≤r.steps.length)∧((p.length:Int)=c.n)∧(d.length=c.gs.length)∧(m.length=k)∧((playS g c.gs k (r.steps.drop k) p d).1=0)∧(m++buildL c.gs (r.steps.drop k) p=buildL c.gs r.steps r.st)∧Blk w b7 41 [vi c.n,.slice Ac c.gs.length cc]∧Blk w b10 41 [vi 0,.slice none 0 0]∧Blk w b27 41 [vi g.n,.slice A32 m.length c32]∧Rd w w.heap.size 3 encI A31 p∧Own w w0.heap.size 107 3 encG A32 c32 m∧Below w0.heap.size w0 w) (fun (s:Nat×(List Int)×(List Bool)×(List Gt))=>match s with|(k,p,d,m)=>r.steps.length-k) (0,r.st,(List.replicate c.gs.length false),[]) ?_ ?_
 · exact ⟨Ar,cr,none,0,hf.sub ⟨rfl,rfl,rfl,rfl,rfl,rfl,rfl,trivial⟩,(Nat.zero_le _),(Xa8 hpt),(by simp),rfl,h00,rfl,hB7,hB10,hB27,(hr_r.below' hW).top,(Own.nil _ _ _ _ _),hW⟩
 rintro ⟨k,p,d,m⟩ a w12 ⟨A31,c31,A32,c32,hf,hk,hpn,hdl,hml,hinv,hbd,hB7,hB10,hB27,hr31,ho32,hW⟩
 refine Zs hf fun _ hK33=>?_
 refine Ze (X0m rfl rfl) ?_
 refine Zt hK33 fun a hf=>?_
 refine wp_seq_k fun _ hK34=>?_
 refine Xb hf rfl (fun hc35=>?_) (fun hc35=>?_)
 ·have hc35b:=hc35
  have hc35:=of_decide_eq_true hc35
  obtain ⟨u36,hu36⟩:=Xf (l:=r.steps) (k:=k) (by omega)
  have hdr:=X74 hu36
  rw [hdr] at hinv hbd
  obtain ⟨ho1,ho2⟩:=Xdg hinv
  refine wp_skip ?_
  refine hK34 _ _ ?_
  refine wp_seq_k fun _ hK37=>?_
  refine wp_block ?_
  refine Zs hf fun _ hK38=>?_
  refine Zi (k:=k) (u:=u36) (enc:=encG) (l:=r.steps) trivial rfl rfl X2d X2h Xq (hs_r.below' hW) hu36 rfl ?_;intro p40 hat39
  refine Ze (Xi (l:=[vi u36.k,vi u36.a,vi u36.b]) rfl X3b hat39 rfl) ?_
  refine Zf (Xa (zs:=[vi 0,vi 0,vi 0]) X79 rfl) ?_;rintro _ w13 ⟨b41,rfl,hl41,hE,hB41⟩
  have hlo41:=Nat.le_trans hW.size hl41
  have haw4_41:=(hs_r.below' hW).away hl41
  replace hB7:=hB7.below hE
  replace hB10:=hB10.below hE
  replace hB27:=hB27.below hE
  replace hr31:=hr31.below hE
  replace ho32:=ho32.below hE
  replace hW:=btr hW hE
  refine Zo (Vw [vi u36.k,vi u36.a,vi u36.b] X2h hB41) ?_;rintro _ w14 ⟨ho,hb⟩
  have hold:=hB41
  replace hB7:=hB7.only ho (Blk.ne hB7 hold rfl)
  replace hB10:=hB10.only ho (Blk.ne hB10 hold rfl)
  replace hB27:=hB27.only ho (Blk.ne hB27 hold rfl)
  replace hr31:=hr31.onlyT ho hold rfl
  replace ho32:=ho32.onlyT ho hold rfl
  replace hW:=Below.only hW ho hlo41
  clear hold
  have hB41:=hb
  clear hb ho
  refine Zt hK38 fun a hf=>?_
  refine wp_seq_k fun _ hK42=>?_
  refine Zs hf fun _ hK43=>?_
  refine Ze (Vd rfl X1c 0)<|Ze (X0 rfl X5 (hB41.at 0))<|Ze (X0s rfl rfl) ?_
  refine Zt hK43 fun a hf=>?_
  refine Xb hf rfl (fun hc44=>?_) (fun hc44=>?_)
  ·have hc44b:=hc44
   obtain ⟨hs1,hs2,hs3⟩:=Xal hc44 ho1
   have hnx:=ho2
   rw [hs2,hs3] at hnx
   have hml9:(m++[(⟨11,u36.a,u36.b⟩ : Gt)]).length=k+1:=by simp;exact hml
   have hbd9:m++((⟨11,u36.a,u36.b⟩ : Gt)::buildL c.gs (r.steps.drop (k+1)) (swapP p u36.a u36.b))=buildL c.gs r.steps r.st:=by rw [← hbd,buildL,moved,nextP,if_pos (eq_of_beq hc44),if_pos (eq_of_beq hc44)]
   refine Zs hf fun _ hK45=>?_
   refine Ze (Vd rfl X07 1)<|Ze (X0 rfl X0e (hB27.at 1))<|Ze (Vd rfl X1u 1)<|Ze (X0 rfl X5 (hB41.at 1))<|Ze (Vd rfl X1v 2) ?_
   refine Ze (X0 rfl X5 (hB41.at 2))<|Ze (X01 (ps:=[(0,vi 11),(1,vi u36.a),(2,vi u36.b)]) (cs:=[vi 11,vi u36.a,vi u36.b]) rfl (fun _=>by first|rfl|kernel_rfl)) ?_
   refine Zf (Xv (k:=1) (vs:=[.agg #[vi 11,vi u36.a,vi u36.b]]) (zs:=[vi 11,vi u36.a,vi u36.b]) rfl X02 X0r rfl rfl) ?_;rintro _ w15 ⟨b46,rfl,hl46,hE,hB46⟩
   have hlo46:=Nat.le_trans hW.size hl46
   have haw2_46:=(hr_c.below' hW).away hl46
   have haw32_46:=ho32.away hl46
   replace hB7:=hB7.below hE
   replace hB10:=hB10.below hE
   replace hB27:=hB27.below hE
   replace hB41:=hB41.below hE
   replace hr31:=hr31.below hE
   replace ho32:=ho32.below hE
   replace hW:=btr hW hE
   refine Zf (X10 (enc:=encG) (l:=(m)) (l2:=([(⟨11,u36.a,u36.b⟩ : Gt)])) (B0:=w0.heap.size) rfl rfl X02 X0r Xq X0y ho32 (Rd.of_blk hB46 rfl _ hB46.lt) (by simp only [maxLen];simp;omega) (by simp;omega) hW.size) ?_;rintro _ w16 ⟨A48,c48,rfl,ho48,hg,hat⟩
   have hown:Own _ w0.heap.size 107 3 encG _ _ (m):=ho32
   have haw48_46:=hat _ hB46.lt haw32_46
   clear hat
   replace hB7:=hB7.appT hown hg rfl
   replace hB10:=hB10.appT hown hg rfl
   replace hB27:=hB27.appT hown hg rfl
   replace hB41:=hB41.appT hown hg rfl
   replace hr31:=hr31.appT hown hg rfl
   replace hW:=Below.app hW hown hg (Nat.le_refl _) hW.size
   clear hown hg
   refine Ze (Vd rfl X07 1) ?_
   refine Zo (Vu (vs:=[.slice A48 (m++([(⟨11,u36.a,u36.b⟩ : Gt)])).length c48]) (l':=[vi g.n,.slice A48 (m++([(⟨11,u36.a,u36.b⟩ : Gt)])).length c48]) rfl rfl X4a hB27) ?_;rintro _ w17 ⟨ho,hb⟩
   have hold:=hB27
   replace hB7:=hB7.only ho (by omega)
   replace hB10:=hB10.only ho (by omega)
   replace hB41:=hB41.only ho (Blk.ne hB41 hold rfl)
   replace hr31:=hr31.onlyT ho hold rfl
   replace ho48:=ho48.onlyT ho hold rfl
   replace hW:=Below.only hW ho hlo27
   clear hold
   have hB27:=hb
   clear hb ho
   refine Zt hK45 fun a hf=>?_
   refine Zs hf fun _ hK49=>?_
   refine Zm rfl<|Ze (Vd rfl X1u 1)<|Ze (X0 rfl X5 (hB41.at 1))<|Ze (Vd rfl X1v 2)<|Ze (X0 rfl X5 (hB41.at 2)) ?_
   refine Zf (Vc (Xqg _ A31 c31 p hr31.top u36.a u36.b (by omega)) Xhf) ?_;rintro _ w18 ⟨A50,c50,rfl,ho50,hE⟩
   replace ho50:=ho50.lower hW.size
   replace hB7:=hB7.below hE
   replace hB10:=hB10.below hE
   replace hB27:=hB27.below hE
   replace hB41:=hB41.below hE
   replace hr31:=hr31.below hE
   replace ho48:=ho48.below hE
   replace hW:=btr hW hE
   refine Za rfl ?_
   refine Zt hK49 fun a hf=>?_
   refine wp_exit ?_
   refine Xm ?_
   refine X03 ?_
   refine hK37 _ _ ?_
   refine Zr hf ?_
   refine Ze (Xy rfl rfl (by omega) (by omega))<|Zm rfl ?_
   refine Zn fun a hf=>?_
   refine Xk ?_
   exact ⟨(k+1,(swapP p u36.a u36.b),d,m++([(⟨11,u36.a,u36.b⟩ : Gt)])),⟨A50,c50,A48,c48,hf.sub ⟨rfl,rfl,rfl,rfl,rfl,rfl,rfl,trivial⟩,(by omega),(by rw [X2k];exact hpn),hdl,(by simp [hml]),hnx,(by rw [← hbd9,List.append_assoc];rfl),hB7,hB10,hB27,ho50.rd,ho48,hW⟩,(by first|omega|(dsimp only;omega))⟩
  have hc44b:=hc44
  obtain ⟨hs1,hs2,hs3,hs4⟩:=Xam hc44 ho1
  have hnx:=ho2
  rw [hs3,hs4] at hnx
  obtain ⟨hb0,hb1,hb2⟩:=X7y (X9w hs1)
  obtain ⟨x9,hx9⟩:=Xf (l:=c.gs) (k:=u36.k.toNat) (by omega)
  have hxg:=hcg _ (List.mem_of_getElem? hx9)
  obtain ⟨hq1,hq2,hq3,hq4⟩:=X1e hxg
  have hbd9:m++(mapG p x9::buildL c.gs (r.steps.drop (k+1)) p)=buildL c.gs r.steps r.st:=by rw [← hbd,buildL,moved,nextP,if_neg (by simpa using hc44),if_neg (by simpa using hc44),Xa9 hx9]
  refine wp_skip ?_
  refine hK42 _ _ ?_
  refine Zs hf fun _ hK51=>?_
  refine Ze (Vd rfl X07 1)<|Ze (X0 rfl X0e (hB7.at 1))<|Ze (Vd rfl X1c 0)<|Ze (X0 rfl X5 (hB41.at 0)) ?_
  refine Zi (k:=u36.k.toNat) (u:=x9) (enc:=encG) (l:=c.gs) trivial rfl rfl X02 X0o Xq (hr_c.below' hW) hx9 (by omega) ?_;intro p53 hat52
  refine Ze (Xi (l:=[vi x9.k,vi x9.a,vi x9.b]) rfl X0k hat52 rfl) ?_
  refine Zf (Xa (zs:=[vi 0,vi 0,vi 0]) X39 rfl) ?_;rintro _ w19 ⟨b54,rfl,hl54,hE,hB54⟩
  have hlo54:=Nat.le_trans hW.size hl54
  have haw2_54:=(hr_c.below' hW).away hl54
  have haw32_54:=ho32.away hl54
  replace hB7:=hB7.below hE
  replace hB10:=hB10.below hE
  replace hB27:=hB27.below hE
  replace hB41:=hB41.below hE
  replace hr31:=hr31.below hE
  replace ho32:=ho32.below hE
  replace hW:=btr hW hE
  refine Zo (Vw [vi x9.k,vi x9.a,vi x9.b] X0o hB54) ?_;rintro _ w20 ⟨ho,hb⟩
  have hold:=hB54
  replace hB7:=hB7.only ho (Blk.ne hB7 hold rfl)
  replace hB10:=hB10.only ho (Blk.ne hB10 hold rfl)
  replace hB27:=hB27.only ho (Blk.ne hB27 hold rfl)
  replace hB41:=hB41.only ho (Blk.ne hB41 hold rfl)
  replace hr31:=hr31.onlyT ho hold rfl
  replace ho32:=ho32.onlyA ho haw32_54
  replace hW:=Below.only hW ho hlo54
  clear hold
  have hB54:=hb
  clear hb ho
  refine Zt hK51 fun a hf=>?_
  refine wp_seq_k fun _ hK55=>?_
  refine Zs hf fun _ hK56=>?_
  refine Ze (Vn X0k hB54) ?_
  refine Zf (Vc (Xm1 _ x9) Xbt) ?_;rintro _ w21 ⟨rfl,hE⟩
  replace hB7:=hB7.below hE
  replace hB10:=hB10.below hE
  replace hB27:=hB27.below hE
  replace hB54:=hB54.below hE
  replace hr31:=hr31.below hE
  replace ho32:=ho32.below hE
  replace hW:=btr hW hE
  refine Zt hK56 fun a hf=>?_
  refine Xb hf rfl (fun hc57=>?_) (fun hc57=>?_)
  ·have hc57b:=hc57
   have h9:inR x9.k 9 11=true:=hc57
   have h9b:=Xs.1 h9
   have h9c:=hq4 h9b
   refine Zr hf ?_
   refine Zm rfl<|Ze (Vd rfl X0n 2)<|Ze (X0 rfl X5 (hB54.at 2)) ?_
   refine Zi (k:=x9.b.toNat) (u:=(p.getD x9.b.toNat 0)) (enc:=encI) (l:=p) trivial rfl rfl X0b X0z Xz hr31 (X14 0 (by omega)) (by omega) ?_;intro p59 hat58
   refine Ze (X0 rfl X5 hat58)<|Ze (Vd rfl X0n 2) ?_
   refine Zo (Vu (vs:=[vi (p.getD x9.b.toNat 0)]) (l':=[vi x9.k,vi x9.a,vi (p.getD x9.b.toNat 0)]) rfl rfl X0z hB54) ?_;rintro _ w22 ⟨ho,hb⟩
   have hold:=hB54
   replace hB7:=hB7.only ho (Blk.ne hB7 hold rfl)
   replace hB10:=hB10.only ho (Blk.ne hB10 hold rfl)
   replace hB27:=hB27.only ho (Blk.ne hB27 hold rfl)
   replace hr31:=hr31.onlyT ho hold rfl
   replace ho32:=ho32.onlyA ho haw32_54
   replace hW:=Below.only hW ho hlo54
   clear hold
   have hB54:=hb
   clear hb ho
   refine Zt hK55 fun a hf=>?_
   refine wp_seq_k fun _ hK60=>?_
   refine Zs hf fun _ hK61=>?_
   refine Ze (Vd rfl X0f 0)<|Ze (X0 rfl X5 (hB54.at 0))<|Ze (X1g rfl rfl) ?_
   refine Zt hK61 fun a hf=>?_
   refine Xb hf rfl (fun hc62=>?_) (fun hc62=>?_)
   ·have hc62b:=hc62
    have h12:¬ x9.k=12:=by simpa using hc62
    have h12a:=hq3 h12
    have hmg:=Xqn (p:=p) h9
    refine Zr hf ?_
    refine Zm rfl<|Ze (Vd rfl X0a 1)<|Ze (X0 rfl X5 (hB54.at 1)) ?_
    refine Zi (k:=x9.a.toNat) (u:=(p.getD x9.a.toNat 0)) (enc:=encI) (l:=p) trivial rfl rfl X0b X0z Xz hr31 (X14 0 (by omega)) (by omega) ?_;intro p64 hat63
    refine Ze (X0 rfl X5 hat63)<|Ze (Vd rfl X0a 1) ?_
    refine Zo (Vu (vs:=[vi (p.getD x9.a.toNat 0)]) (l':=[vi x9.k,vi (p.getD x9.a.toNat 0),vi (p.getD x9.b.toNat 0)]) rfl rfl X0z hB54) ?_;rintro _ w23 ⟨ho,hb⟩
    have hold:=hB54
    replace hB7:=hB7.only ho (Blk.ne hB7 hold rfl)
    replace hB10:=hB10.only ho (Blk.ne hB10 hold rfl)
    replace hB27:=hB27.only ho (Blk.ne hB27 hold rfl)
    replace hr31:=hr31.onlyT ho hold rfl
    replace ho32:=ho32.onlyA ho haw32_54
    replace hW:=Below.only hW ho hlo54
    clear hold
    have hB54:=hb
    clear hb ho
    refine Zt hK60 fun a hf=>?_
    refine Zr hf ?_
    refine Ze (Vd rfl X07 1)<|Ze (X0 rfl X0e (hB27.at 1))<|Ze (Vn X0k hB54) ?_
    refine Zf (Xv (k:=1) (vs:=[.agg #[vi x9.k,vi (p.getD x9.a.toNat 0),vi (p.getD x9.b.toNat 0)]]) (zs:=[vi x9.k,vi (p.getD x9.a.toNat 0),vi (p.getD x9.b.toNat 0)]) rfl X02 X0r rfl rfl) ?_;rintro _ w24 ⟨b65,rfl,hl65,hE,hB65⟩
    have hne54_65:b54≠b65:=by have:=hB54.lt;omega
    have hlo65:=Nat.le_trans hW.size hl65
    have haw2_65:=(hr_c.below' hW).away hl65
    have haw32_65:=ho32.away hl65
    replace hB7:=hB7.below hE
    replace hB10:=hB10.below hE
    replace hB27:=hB27.below hE
    replace hB54:=hB54.below hE
    replace hr31:=hr31.below hE
    replace ho32:=ho32.below hE
    replace hW:=btr hW hE
    refine Zf (X10 (enc:=encG) (l:=(m)) (l2:=([(⟨x9.k,(p.getD x9.a.toNat 0),(p.getD x9.b.toNat 0)⟩ : Gt)])) (B0:=w0.heap.size) rfl rfl X02 X0r Xq X0y ho32 (Rd.of_blk hB65 rfl _ hB65.lt) (by simp only [maxLen];simp;omega) (by simp;omega) hW.size) ?_;rintro _ w25 ⟨A67,c67,rfl,ho67,hg,hat⟩
    have hown:Own _ w0.heap.size 107 3 encG _ _ (m):=ho32
    have haw67_54:=hat _ hB54.lt haw32_54
    have haw67_65:=hat _ hB65.lt haw32_65
    clear hat
    replace hB7:=hB7.appT hown hg rfl
    replace hB10:=hB10.appT hown hg rfl
    replace hB27:=hB27.appT hown hg rfl
    replace hB54:=hB54.appA hg haw32_54
    replace hr31:=hr31.appT hown hg rfl
    replace hW:=Below.app hW hown hg (Nat.le_refl _) hW.size
    clear hown hg
    refine Ze (Vd rfl X07 1) ?_
    refine Zo (Vu (vs:=[.slice A67 (m++([(⟨x9.k,(p.getD x9.a.toNat 0),(p.getD x9.b.toNat 0)⟩ : Gt)])).length c67]) (l':=[vi g.n,.slice A67 (m++([(⟨x9.k,(p.getD x9.a.toNat 0),(p.getD x9.b.toNat 0)⟩ : Gt)])).length c67]) rfl rfl X4a hB27) ?_;rintro _ w26 ⟨ho,hb⟩
    have hold:=hB27
    replace hB7:=hB7.only ho (by omega)
    replace hB10:=hB10.only ho (by omega)
    replace hB54:=hB54.only ho (Blk.ne hB54 hold rfl)
    replace hr31:=hr31.onlyT ho hold rfl
    replace ho67:=ho67.onlyT ho hold rfl
    replace hW:=Below.only hW ho hlo27
    clear hold
    have hB27:=hb
    clear hb ho
    refine Zn fun a hf=>?_
    refine Xn ?_
    refine hK37 _ _ ?_
    refine Zr hf ?_
    refine Ze (Xy rfl rfl (by omega) (by omega))<|Zm rfl ?_
    refine Zn fun a hf=>?_
    refine Xk ?_
    exact ⟨(k+1,p,(d.set u36.k.toNat true),m++([(⟨x9.k,(p.getD x9.a.toNat 0),(p.getD x9.b.toNat 0)⟩ : Gt)])),⟨A31,c31,A67,c67,hf.sub ⟨rfl,rfl,rfl,rfl,rfl,rfl,rfl,trivial⟩,(by omega),hpn,(by simp;exact hdl),(by simp [hml]),hnx,(by rw [← hbd9,List.append_assoc,hmg];rfl),hB7,hB10,hB27,hr31.top,ho67,hW⟩,(by first|omega|(dsimp only;omega))⟩
   have hc62b:=hc62
   have h12:x9.k=12:=by simpa using hc62
   omega
  have hc57b:=hc57
  have h9:inR x9.k 9 11=false:=hc57
  refine wp_skip ?_
  refine hK55 _ _ ?_
  refine wp_seq_k fun _ hK68=>?_
  refine Zs hf fun _ hK69=>?_
  refine Ze (Vd rfl X0f 0)<|Ze (X0 rfl X5 (hB54.at 0))<|Ze (X1g rfl rfl) ?_
  refine Zt hK69 fun a hf=>?_
  refine Xb hf rfl (fun hc70=>?_) (fun hc70=>?_)
  ·have hc70b:=hc70
   have h12:¬ x9.k=12:=by simpa using hc70
   have h12a:=hq3 h12
   have hmg:=Xoh (p:=p) hc70b h9
   refine Zr hf ?_
   refine Zm rfl<|Ze (Vd rfl X0a 1)<|Ze (X0 rfl X5 (hB54.at 1)) ?_
   refine Zi (k:=x9.a.toNat) (u:=(p.getD x9.a.toNat 0)) (enc:=encI) (l:=p) trivial rfl rfl X0b X0z Xz hr31 (X14 0 (by omega)) (by omega) ?_;intro p72 hat71
   refine Ze (X0 rfl X5 hat71)<|Ze (Vd rfl X0a 1) ?_
   refine Zo (Vu (vs:=[vi (p.getD x9.a.toNat 0)]) (l':=[vi x9.k,vi (p.getD x9.a.toNat 0),vi x9.b]) rfl rfl X0z hB54) ?_;rintro _ w27 ⟨ho,hb⟩
   have hold:=hB54
   replace hB7:=hB7.only ho (Blk.ne hB7 hold rfl)
   replace hB10:=hB10.only ho (Blk.ne hB10 hold rfl)
   replace hB27:=hB27.only ho (Blk.ne hB27 hold rfl)
   replace hr31:=hr31.onlyT ho hold rfl
   replace ho32:=ho32.onlyA ho haw32_54
   replace hW:=Below.only hW ho hlo54
   clear hold
   have hB54:=hb
   clear hb ho
   refine Zt hK68 fun a hf=>?_
   refine Zr hf ?_
   refine Ze (Vd rfl X07 1)<|Ze (X0 rfl X0e (hB27.at 1))<|Ze (Vn X0k hB54) ?_
   refine Zf (Xv (k:=1) (vs:=[.agg #[vi x9.k,vi (p.getD x9.a.toNat 0),vi x9.b]]) (zs:=[vi x9.k,vi (p.getD x9.a.toNat 0),vi x9.b]) rfl X02 X0r rfl rfl) ?_;rintro _ w28 ⟨b73,rfl,hl73,hE,hB73⟩
   have hne54_73:b54≠b73:=by have:=hB54.lt;omega
   have hlo73:=Nat.le_trans hW.size hl73
   have haw2_73:=(hr_c.below' hW).away hl73
   have haw32_73:=ho32.away hl73
   replace hB7:=hB7.below hE
   replace hB10:=hB10.below hE
   replace hB27:=hB27.below hE
   replace hB54:=hB54.below hE
   replace hr31:=hr31.below hE
   replace ho32:=ho32.below hE
   replace hW:=btr hW hE
   refine Zf (X10 (enc:=encG) (l:=(m)) (l2:=([(⟨x9.k,(p.getD x9.a.toNat 0),x9.b⟩ : Gt)])) (B0:=w0.heap.size) rfl rfl X02 X0r Xq X0y ho32 (Rd.of_blk hB73 rfl _ hB73.lt) (by simp only [maxLen];simp;omega) (by simp;omega) hW.size) ?_;rintro _ w29 ⟨A75,c75,rfl,ho75,hg,hat⟩
   have hown:Own _ w0.heap.size 107 3 encG _ _ (m):=ho32
   have haw75_54:=hat _ hB54.lt haw32_54
   have haw75_73:=hat _ hB73.lt haw32_73
   clear hat
   replace hB7:=hB7.appT hown hg rfl
   replace hB10:=hB10.appT hown hg rfl
   replace hB27:=hB27.appT hown hg rfl
   replace hB54:=hB54.appA hg haw32_54
   replace hr31:=hr31.appT hown hg rfl
   replace hW:=Below.app hW hown hg (Nat.le_refl _) hW.size
   clear hown hg
   refine Ze (Vd rfl X07 1) ?_
   refine Zo (Vu (vs:=[.slice A75 (m++([(⟨x9.k,(p.getD x9.a.toNat 0),x9.b⟩ : Gt)])).length c75]) (l':=[vi g.n,.slice A75 (m++([(⟨x9.k,(p.getD x9.a.toNat 0),x9.b⟩ : Gt)])).length c75]) rfl rfl X4a hB27) ?_;rintro _ w30 ⟨ho,hb⟩
   have hold:=hB27
   replace hB7:=hB7.only ho (by omega)
   replace hB10:=hB10.only ho (by omega)
   replace hB54:=hB54.only ho (Blk.ne hB54 hold rfl)
   replace hr31:=hr31.onlyT ho hold rfl
   replace ho75:=ho75.onlyT ho hold rfl
   replace hW:=Below.only hW ho hlo27
   clear hold
   have hB27:=hb
   clear hb ho
   refine Zn fun a hf=>?_
   refine Xn ?_
   refine hK37 _ _ ?_
   refine Zr hf ?_
   refine Ze (Xy rfl rfl (by omega) (by omega))<|Zm rfl ?_
   refine Zn fun a hf=>?_
   refine Xk ?_
   exact ⟨(k+1,p,(d.set u36.k.toNat true),m++([(⟨x9.k,(p.getD x9.a.toNat 0),x9.b⟩ : Gt)])),⟨A31,c31,A75,c75,hf.sub ⟨rfl,rfl,rfl,rfl,rfl,rfl,rfl,trivial⟩,(by omega),hpn,(by simp;exact hdl),(by simp [hml]),hnx,(by rw [← hbd9,List.append_assoc,hmg];rfl),hB7,hB10,hB27,hr31.top,ho75,hW⟩,(by first|omega|(dsimp only;omega))⟩
  have hc70b:=hc70
  have hmg:=Xme (p:=p) hc70
  refine wp_skip ?_
  refine hK68 _ _ ?_
  refine Zr hf ?_
  refine Ze (Vd rfl X07 1)<|Ze (X0 rfl X0e (hB27.at 1))<|Ze (Vn X0k hB54) ?_
  refine Zf (Xv (k:=1) (vs:=[.agg #[vi x9.k,vi x9.a,vi x9.b]]) (zs:=[vi x9.k,vi x9.a,vi x9.b]) rfl X02 X0r rfl rfl) ?_;rintro _ w31 ⟨b76,rfl,hl76,hE,hB76⟩
  have hne54_76:b54≠b76:=by have:=hB54.lt;omega
  have hlo76:=Nat.le_trans hW.size hl76
  have haw2_76:=(hr_c.below' hW).away hl76
  have haw32_76:=ho32.away hl76
  replace hB7:=hB7.below hE
  replace hB10:=hB10.below hE
  replace hB27:=hB27.below hE
  replace hB54:=hB54.below hE
  replace hr31:=hr31.below hE
  replace ho32:=ho32.below hE
  replace hW:=btr hW hE
  refine Zf (X10 (enc:=encG) (l:=(m)) (l2:=([x9])) (B0:=w0.heap.size) rfl rfl X02 X0r Xq X0y ho32 (Rd.of_blk hB76 rfl _ hB76.lt) (by simp only [maxLen];simp;omega) (by simp;omega) hW.size) ?_;rintro _ w32 ⟨A78,c78,rfl,ho78,hg,hat⟩
  have hown:Own _ w0.heap.size 107 3 encG _ _ (m):=ho32
  have haw78_54:=hat _ hB54.lt haw32_54
  have haw78_76:=hat _ hB76.lt haw32_76
  clear hat
  replace hB7:=hB7.appT hown hg rfl
  replace hB10:=hB10.appT hown hg rfl
  replace hB27:=hB27.appT hown hg rfl
  replace hB54:=hB54.appA hg haw32_54
  replace hr31:=hr31.appT hown hg rfl
  replace hW:=Below.app hW hown hg (Nat.le_refl _) hW.size
  clear hown hg
  refine Ze (Vd rfl X07 1) ?_
  refine Zo (Vu (vs:=[.slice A78 (m++([x9])).length c78]) (l':=[vi g.n,.slice A78 (m++([x9])).length c78]) rfl rfl X4a hB27) ?_;rintro _ w33 ⟨ho,hb⟩
  have hold:=hB27
  replace hB7:=hB7.only ho (by omega)
  replace hB10:=hB10.only ho (by omega)
  replace hB54:=hB54.only ho (Blk.ne hB54 hold rfl)
  replace hr31:=hr31.onlyT ho hold rfl
  replace ho78:=ho78.onlyT ho hold rfl
  replace hW:=Below.only hW ho hlo27
  clear hold
  have hB27:=hb
  clear hb ho
  refine Zn fun a hf=>?_
  refine Xn ?_
  refine hK37 _ _ ?_
  refine Zr hf ?_
  refine Ze (Xy rfl rfl (by omega) (by omega))<|Zm rfl ?_
  refine Zn fun a hf=>?_
  refine Xk ?_
  exact ⟨(k+1,p,(d.set u36.k.toNat true),m++([x9])),⟨A31,c31,A78,c78,hf.sub ⟨rfl,rfl,rfl,rfl,rfl,rfl,rfl,trivial⟩,(by omega),hpn,(by simp;exact hdl),(by simp [hml]),hnx,(by rw [← hbd9,List.append_assoc,hmg];rfl),hB7,hB10,hB27,hr31.top,ho78,hW⟩,(by first|omega|(dsimp only;omega))⟩
 have hc35b:=hc35
 have hc35:=of_decide_eq_false hc35
 have hdr:r.steps.drop k=[]:=List.drop_of_length_le (by omega)
 rw [hdr] at hbd
 refine wp_exit ?_
 refine Xm ?_
 refine Xm ?_
 refine X03 ?_
 refine hK29 _ _ ?_
 refine Zs hf fun _ hK79=>?_
 refine Ze (Vn X0c hB27) ?_
 refine Zo (Vw [vi g.n,.slice A32 m.length c32] X1j hB10) ?_;rintro _ w34 ⟨ho,hb⟩
 have hold:=hB10
 replace hB7:=hB7.only ho (by omega)
 replace hB27:=hB27.only ho (by omega)
 replace hr31:=hr31.onlyT ho hold rfl
 replace ho32:=ho32.onlyT ho hold rfl
 replace hW:=Below.only hW ho hlo10
 clear hold
 have hB10:=hb
 clear hb ho
 refine Za rfl ?_
 refine Zt hK79 fun a hf=>?_
 refine wp_ret (X2 hf (X0q hf rfl (ResV.cellN (l:=[vi g.n,.slice A32 m.length c32]) rfl X0c (hB10.at 0) rfl) rfl) ?_)
 have hbe:buildL c.gs r.steps r.st=m:=by rw [← hbd];exact (List.append_nil m)
 rw [hfin,hbe]
 exact ⟨A32,c32,rfl,ho32,hW⟩
end Go.Proofs.YtfgnmflfiobkmaaGreat
set_option maxRecDepth 4000
namespace Go.Proofs.YtfgnmflfiobkmaaGreat
open Go.RowKit
theorem Xr8(w0:World)(B0:Nat)(A:Option Addr)(c:Nat)(p:List Int)(ho:Own w0 B0 3 1 encI A c p)(gn cn x y:Int)(Ag:Option Addr)(ng cg:Nat)(As:Option Addr)(ns cs:Nat)(Ad:Option Addr)(nd cd:Nat)(hln:p.length≤1000000000) : Ret Tryz.prog 166 [.agg #[vi gn,.slice Ag ng cg,vi cn,.slice As ns cs,.slice A p.length c,.slice Ad nd cd],vi x,vi y] w0 (fun v w=>Own w B0 3 1 encI A c (swapP p x y)∧w0.grownBy w (Value.slice A p.length c).ownBlock):=by
 refine enter Tryz.func166 rfl 34 rfl rfl ?_
 intro a hf
 have hW:w0.grownBy w0 (Value.slice A p.length c).ownBlock:=World.grownBy.refl _ _
 refine Zs hf fun _ hK2=>?_
 refine Zf (Xu (zs:=[vi gn,.slice Ag ng cg,vi cn,.slice As ns cs,.slice A p.length c,.slice Ad nd cd]) rfl rfl) ?_;rintro _ w1 ⟨b3,rfl,hl3,hE,hB3⟩
 have hlo3:=Nat.le_trans hW.size hl3
 replace ho:=ho.below hE
 replace hW:=gbel hW hE
 refine Zt hK2 fun a hf=>?_
 refine Zs hf fun _ hK4=>?_
 refine Ze (Vd rfl X3q 4)<|Ze (X0 rfl X2e (hB3.at 4))<|Ze (X0d rfl X0b)<|Zm rfl ?_
 refine Zt hK4 fun a hf=>?_
 refine wp_block ?_
 refine X04 (σ:=Nat×(List Int)) (fun (s:Nat×(List Int)) (a:Act) (w:World)=>match s with|(k,m)=>Fr a 34 [(1,vi x),(2,vi y),(3,.pointer (some ⟨b3,0,none⟩)),(9,.slice A p.length c),(10,vi (p.length:Int)),(11,vi (k:Int))]∧(k≤p.length)∧(m.length=p.length)∧(m=mixP p x y k)∧Blk w b3 170 [vi gn,.slice Ag ng cg,vi cn,.slice As ns cs,.slice A p.length c,.slice Ad nd cd]∧Own w B0 3 1 encI A c m∧w0.grownBy w (Value.slice A p.length c).ownBlock) (fun (s:Nat×(List Int))=>match s with|(k,m)=>p.length-k) (0,p) ?_ ?_
 · exact ⟨hf.sub ⟨rfl,rfl,rfl,rfl,rfl,rfl,trivial⟩,(Nat.zero_le _),rfl,rfl,hB3,ho,hW⟩
 rintro ⟨k,m⟩ a w2 ⟨hf,hk,hml,hm,hB3,ho,hW⟩
 refine Zs hf fun _ hK5=>?_
 refine Ze (X0m rfl rfl) ?_
 refine Zt hK5 fun a hf=>?_
 refine wp_seq_k fun _ hK6=>?_
 refine Xb hf rfl (fun hc7=>?_) (fun hc7=>?_)
 ·have hc7b:=hc7
  have hc7:=of_decide_eq_true hc7
  obtain ⟨u8,hu8⟩:=Xf (l:=p) (k:=k) (by omega)
  obtain ⟨u9,hu9⟩:=Xf (l:=p) (k:=k) (by omega)
  refine wp_skip ?_
  refine hK6 _ _ ?_
  refine wp_seq_k fun _ hK9=>?_
  refine wp_block ?_
  refine Zs hf fun _ hK10=>?_
  refine Zm rfl ?_
  refine Zj (k:=k) (u:=u9) (enc:=encI) (l:=m) trivial rfl hml.symm rfl X0b X0z Xz ho.rd (by rw [hm];exact X5l hu9) rfl ?_;intro p12 hat11
  refine Ze (X0 rfl X5 hat11)<|Za rfl<|Za rfl ?_
  refine Zt hK10 fun a hf=>?_
  refine Zs hf fun _ hK13=>?_
  refine Zm rfl ?_
  refine Zt hK13 fun a hf=>?_
  refine wp_block ?_
  refine Zs hf fun _ hK14=>?_
  refine Zm rfl<|Ze (X0s rfl rfl)<|Za rfl ?_
  refine Zt hK14 fun a hf=>?_
  refine Xb hf rfl (fun hc15=>?_) (fun hc15=>?_)
  ·have hc15b:=hc15
   have hsf:=Xjz (b:=y) hc15
   refine Zr hf ?_
   refine Ze (Vd rfl X3q 4)<|Ze (X0 rfl X2e (hB3.at 4))<|Zm rfl<|Zm rfl<|Ze (X3p (k:=k) rfl rfl X0b X0z ho hml.symm rfl (by omega)) ?_
   refine Zo (X3r (enc:=encI) (l:=m) (vs:=[vi y]) (x0:=u9) (u:=y) (k:=k) (j:=0) (n1:=1) rfl rfl X0z ho Xz rfl rfl rfl rfl (by decide) (by rw [hm];exact X5l hu9) rfl) ?_;rintro _ w3 ⟨hnew,hg⟩
   have hown:=ho
   replace hB3:=hB3.appT hown hg rfl
   replace hW:=gtr hW hg
   clear hown hg;clear ho;have ho:=hnew;clear hnew
   refine Zn fun a hf=>?_
   refine Xn ?_
   refine Xn ?_
   refine hK9 _ _ ?_
   refine Zr hf ?_
   refine Ze (Xy rfl rfl (by omega) (by omega))<|Zm rfl ?_
   refine Zn fun a hf=>?_
   refine Xk ?_
   exact ⟨(k+1,(m.set k y)),⟨hf.sub ⟨rfl,rfl,rfl,rfl,rfl,rfl,trivial⟩,(by omega),(by simp;exact hml),(by rw [hm,X72 hu9 hsf]),hB3,ho,hW⟩,(by first|omega|(dsimp only;omega))⟩
  have hc15b:=hc15
  have hua:=hc15
  refine Zs hf fun _ hK16=>?_
  refine Zm rfl<|Ze (X0s rfl rfl)<|Za rfl ?_
  refine Zt hK16 fun a hf=>?_
  refine Xb hf rfl (fun hc17=>?_) (fun hc17=>?_)
  ·have hc17b:=hc17
   have hsf:=Xk0 hua hc17
   refine Zr hf ?_
   refine Ze (Vd rfl X3q 4)<|Ze (X0 rfl X2e (hB3.at 4))<|Zm rfl<|Zm rfl<|Ze (X3p (k:=k) rfl rfl X0b X0z ho hml.symm rfl (by omega)) ?_
   refine Zo (X3r (enc:=encI) (l:=m) (vs:=[vi x]) (x0:=u9) (u:=x) (k:=k) (j:=0) (n1:=1) rfl rfl X0z ho Xz rfl rfl rfl rfl (by decide) (by rw [hm];exact X5l hu9) rfl) ?_;rintro _ w4 ⟨hnew,hg⟩
   have hown:=ho
   replace hB3:=hB3.appT hown hg rfl
   replace hW:=gtr hW hg
   clear hown hg;clear ho;have ho:=hnew;clear hnew
   refine Zn fun a hf=>?_
   refine Xn ?_
   refine Xn ?_
   refine hK9 _ _ ?_
   refine Zr hf ?_
   refine Ze (Xy rfl rfl (by omega) (by omega))<|Zm rfl ?_
   refine Zn fun a hf=>?_
   refine Xk ?_
   exact ⟨(k+1,(m.set k x)),⟨hf.sub ⟨rfl,rfl,rfl,rfl,rfl,rfl,trivial⟩,(by omega),(by simp;exact hml),(by rw [hm,X72 hu9 hsf]),hB3,ho,hW⟩,(by first|omega|(dsimp only;omega))⟩
  have hc17b:=hc17
  have hsf:=Xkh hua hc17
  refine wp_skip ?_
  refine Xn ?_
  refine Xn ?_
  refine hK9 _ _ ?_
  refine Zr hf ?_
  refine Ze (Xy rfl rfl (by omega) (by omega))<|Zm rfl ?_
  refine Zn fun a hf=>?_
  refine Xk ?_
  exact ⟨(k+1,m),⟨hf.sub ⟨rfl,rfl,rfl,rfl,rfl,rfl,trivial⟩,(by omega),hml,(by rw [hm,Xaz hu9 hsf]),hB3,ho,hW⟩,(by first|omega|(dsimp only;omega))⟩
 have hc7b:=hc7
 have hc7:=of_decide_eq_false hc7
 refine wp_exit ?_
 refine Xm ?_
 refine Xm ?_
 refine X03 ?_
 refine Xq3 hf (Xrd rfl) ?_
 have hfin:m=swapP p x y:=by rw [hm,Xdf _ _ _ _ (by omega)]
 rw [hfin] at ho
 exact ⟨ho,hW⟩
theorem Xr6(w0:World)(gn cn:Int)(Ag:Option Addr)(ng cg:Nat)(Ap:Option Addr)(np cp:Nat)(As:Option Addr)(cs:Nat)(gs:List Gt)(hr_s:Rd w0 w0.heap.size 107 encG As gs)(hp:gs.length≤cs)(Ad:Option Addr)(cd:Nat)(d:List Bool)(hr_d:Rd w0 w0.heap.size 4 encB Ad d)(k:Int)(hdl:d.length=gs.length)(hln:gs.length≤1000000000) : Ret Tryz.prog 167 [.agg #[vi gn,.slice Ag ng cg,vi cn,.slice As gs.length cs,.slice Ap np cp,.slice Ad d.length cd],vi k] w0 (fun v w=>v=.bool (redI gs d k)∧Below w0.heap.size w0 w):=by
 refine enter Tryz.func167 rfl 50 rfl rfl ?_
 intro a hf
 have hW:Below w0.heap.size w0 w0:=Below.refl _ _
 refine Zs hf fun _ hK3=>?_
 refine Zf (Xu (zs:=[vi gn,.slice Ag ng cg,vi cn,.slice As gs.length cs,.slice Ap np cp,.slice Ad d.length cd]) rfl rfl) ?_;rintro _ w1 ⟨b4,rfl,hl4,hE,hB4⟩
 have hlo4:=Nat.le_trans hW.size hl4
 replace hW:=btr hW hE
 refine Za rfl ?_
 refine Zt hK3 fun a hf=>?_
 refine wp_seq_k fun _ hK5=>?_
 refine wp_seq_k fun _ hK6=>?_
 refine X06 (fun a w=>Fr a 50 [(1,vi k),(2,.pointer (some ⟨b4,0,none⟩)),(21,.bool ((!(inR k 0 ((gs.length:Int)-1)))||(d.getD k.toNat false)))]∧w1=w) ?_ ?_
 ·refine Zr hf ?_
  refine Zm rfl<|Ze (Vd rfl X69 2)<|Ze (Vd rfl X07 3)<|Ze (X0 rfl X0e (hB4.at 3))<|Ze (X0d rfl X02) ?_
  refine Ze (X11 rfl rfl (by omega) (by omega)) ?_
  refine Zf (Vc (F91 _ k 0 ((gs.length:Int)-1)) X2t) ?_;rintro _ _ ⟨rfl,rfl⟩
  refine Ze (X09 rfl)<|Zm rfl ?_
  refine Zg 15 rfl (fun hg7=>?_) (fun hg7=>?_)
  ·refine Zp ⟨_,_,rfl,rfl,hg7⟩ ?_
   refine Zp ⟨_,_,rfl,rfl,hg7⟩ ?_
   refine Zp ⟨_,_,rfl,rfl,hg7⟩ ?_
   refine Zp ⟨_,_,rfl,rfl,hg7⟩ ?_
   refine Zp ⟨_,_,rfl,rfl,hg7⟩ ?_
   refine Ze (X9 rfl hg7 rfl) ?_
   refine Zn fun a hf=>?_
   exact ⟨hf.sub ⟨rfl,rfl,X1 rfl (by first|rfl|(simp only [hg7,bs];done)|simp [hg7]),trivial⟩,rfl⟩
  refine Zv ⟨_,_,rfl,rfl,hg7⟩ (Vd rfl X60 5) ?_
  refine Zv ⟨_,_,rfl,rfl,hg7⟩ (X0 rfl X9m (hB4.at 5)) ?_
  refine Zv ⟨_,_,rfl,rfl,hg7⟩ (X8 rfl) ?_
  refine Zi (k:=k.toNat) (u:=(d.getD k.toNat false)) (enc:=encB) (l:=d) ⟨_,_,rfl,rfl,hg7⟩ rfl rfl X35 X80 X20 (hr_d.below' hW) (X14 false (by have:=X75 (k:=k) (n:=gs.length) (by assumption);omega)) (by have:=X75 (k:=k) (n:=gs.length) (by assumption);omega) ?_;intro p9 hat8
  refine Zv ⟨_,_,rfl,rfl,hg7⟩ (X0 rfl Xbc hat8) ?_
  refine Ze (X7 rfl hg7 rfl) ?_
  refine Zn fun a hf=>?_
  exact ⟨hf.sub ⟨rfl,rfl,X1 rfl (by first|rfl|(simp only [hg7,bs];done)|simp [hg7]),trivial⟩,rfl⟩
 rintro a _ ⟨hf,rfl⟩
 refine hK6 _ _ ?_
 refine Xb hf rfl (fun hc10=>?_) (fun hc10=>?_)
 ·have hc10b:=hc10
  have hfin:redI gs d k=false:=by unfold redI;revert hc10;cases inR k 0 ((gs.length:Int)-1)<;>cases d.getD k.toNat false<;>simp
  refine Zs hf fun _ hK11=>?_
  refine Za rfl ?_
  refine Zt hK11 fun a hf=>?_
  refine wp_ret ?_
  refine X3 ?_
  refine X2 hf (Xh hf rfl rfl) ?_
  exact ⟨by rw [hfin],hW⟩
 have hc10b:=hc10
 obtain ⟨hi9,hd9⟩ : inR k 0 ((gs.length:Int)-1)=true∧d.getD k.toNat false=false:=by revert hc10;cases inR k 0 ((gs.length:Int)-1)<;>cases d.getD k.toNat false<;>simp
 have hk9:=Xs.1 hi9
 have htl:(gs.take k.toNat).length=k.toNat:=by rw [List.length_take];omega
 refine wp_skip ?_
 refine hK5 _ _ ?_
 refine wp_seq_k fun _ hK12=>?_
 refine Zs hf fun _ hK13=>?_
 refine Ze (Vd rfl X69 2)<|Ze (Vd rfl X07 3)<|Ze (X0 rfl X0e (hB4.at 3))<|Zm rfl ?_
 have hr14:=((hr_s.below' hW).top).takeK Xq k.toNat
 refine Ze (X6h (l:=gs) (k:=k.toNat) rfl rfl X02 X0o (by omega) (by omega) hp)<|Ze (X0d rfl X02)<|Zm rfl ?_
 refine Zt hK13 fun a hf=>?_
 refine wp_block ?_
 refine X04 (σ:=Nat) (fun (i:Nat) (a:Act) (w:World)=>Fr a 50 [(1,vi k),(2,.pointer (some ⟨b4,0,none⟩)),(26,.slice As (gs.take k.toNat).length cs),(27,vi ((gs.take k.toNat).length:Int)),(28,vi (i:Int))]∧(i≤k.toNat)∧((List.range i).any (redB gs d k.toNat)=false)∧Blk w b4 170 [vi gn,.slice Ag ng cg,vi cn,.slice As gs.length cs,.slice Ap np cp,.slice Ad d.length cd]∧Rd w w1.heap.size 107 encG As (gs.take k.toNat)∧gs.length≤cs∧Below w0.heap.size w0 w) (fun (i:Nat)=>k.toNat-i) 0 ?_ ?_
 · exact ⟨hf.sub ⟨rfl,rfl,rfl,rfl,rfl,trivial⟩,(Nat.zero_le _),rfl,hB4,hr14,hp,hW⟩
 rintro i a w2 ⟨hf,hi,hA,hB4,hr14,hp,hW⟩
 refine Zs hf fun _ hK15=>?_
 refine Ze (X0m rfl rfl) ?_
 refine Zt hK15 fun a hf=>?_
 refine wp_seq_k fun _ hK16=>?_
 refine Xb hf rfl (fun hc17=>?_) (fun hc17=>?_)
 ·have hc17b:=hc17
  have hc17:=of_decide_eq_true hc17
  obtain ⟨u18,hu18⟩:=Xf (l:=(gs.take k.toNat)) (k:=i) (by omega)
  obtain ⟨hgi,hmi⟩:=Xer hu18
  refine wp_skip ?_
  refine hK16 _ _ ?_
  refine wp_seq_k fun _ hK19=>?_
  refine wp_block ?_
  refine Zs hf fun _ hK20=>?_
  refine Zm rfl ?_
  refine Zi (k:=i) (u:=u18) (enc:=encG) (l:=(gs.take k.toNat)) trivial rfl rfl X02 X0o Xq hr14 hu18 rfl ?_;intro p22 hat21
  refine Ze (Xi (l:=[vi u18.k,vi u18.a,vi u18.b]) rfl X0k hat21 rfl) ?_
  refine Zf (Xa (zs:=[vi 0,vi 0,vi 0]) X39 rfl) ?_;rintro _ w3 ⟨b23,rfl,hl23,hE,hB23⟩
  have hlo23:=Nat.le_trans hW.size hl23
  have haw1_23:=(hr_s.below' hW).away hl23
  have haw14_23:=hr14.away hl23
  replace hB4:=hB4.below hE
  replace hr14:=hr14.below hE
  replace hW:=btr hW hE
  refine Za rfl ?_
  refine Zo (Vw [vi u18.k,vi u18.a,vi u18.b] X0o hB23) ?_;rintro _ w4 ⟨ho,hb⟩
  have hold:=hB23
  replace hB4:=hB4.only ho (Blk.ne hB4 hold rfl)
  replace hr14:=hr14.onlyA ho haw14_23
  replace hW:=Below.only hW ho hlo23
  clear hold
  have hB23:=hb
  clear hb ho
  refine Zt hK20 fun a hf=>?_
  refine wp_seq_k fun _ hK24=>?_
  refine X06 (fun a w=>Fr a 50 [(1,vi k),(2,.pointer (some ⟨b4,0,none⟩)),(26,.slice As (gs.take k.toNat).length cs),(27,vi ((gs.take k.toNat).length:Int)),(28,vi (i:Int)),(48,.bool ((!(d.getD i false))&&(comI u18 (gs.getD k.toNat gZ))))]∧Below w4.heap.size w4 w) ?_ ?_
  ·have hEc:Below w4.heap.size w4 w4:=Below.refl _ _
   refine X05 none (fun _=>false) mixed ?_
   intro w5 hE
   replace hB4:=hB4.below hE
   replace hB23:=hB23.below hE
   replace hr14:=hr14.below hE
   replace hW:=btr hW hE
   replace hEc:=btr hEc hE
   refine Yb hf ?_
   refine Yo 0 rfl (fun _=>Vd rfl X60 5)<|Ye 1 rfl (X0 rfl X9m (hB4.at 5))<|Yo 2 rfl (fun _=>X8 rfl) ?_
   refine Yi (k:=i) (u:=(d.getD i false)) (enc:=encB) (l:=d) 3 rfl trivial rfl rfl X35 X80 X20 (hr_d.below' hW) (X14 false (by omega)) rfl ?_;intro p26 hat25
   refine Ye 4 rfl (X0 rfl Xbc hat25)<|Yo 5 rfl (fun _=>X09 rfl)<|Yo 6 rfl (fun _=>X8 rfl) ?_
   refine Yl 39 rfl (fun hg27=>?_) (fun hg27=>?_)
   ·refine Yv 7 rfl ⟨_,_,rfl,rfl,hg27⟩ (Vn X0k hB23) ?_
    refine Yu 8 rfl ⟨_,_,rfl,rfl,hg27⟩ (fun _=>Vd rfl X69 2) ?_
    refine Yu 9 rfl ⟨_,_,rfl,rfl,hg27⟩ (fun _=>Vd rfl X07 3) ?_
    refine Yv 10 rfl ⟨_,_,rfl,rfl,hg27⟩ (X0 rfl X0e (hB4.at 3)) ?_
    refine Yu 11 rfl ⟨_,_,rfl,rfl,hg27⟩ (fun _=>X8 rfl) ?_
    refine Yi (k:=k.toNat) (u:=(gs.getD k.toNat gZ)) (enc:=encG) (l:=gs) 12 rfl ⟨_,_,rfl,rfl,hg27⟩ rfl rfl X02 X0o Xq (hr_s.below' hW) (X6t (by omega)) (by omega) ?_;intro p29 hat28
    refine Yv 13 rfl ⟨_,_,rfl,rfl,hg27⟩ (Xi (l:=[vi ((gs.getD k.toNat gZ).k),vi ((gs.getD k.toNat gZ).a),vi ((gs.getD k.toNat gZ).b)]) rfl X0k hat28 rfl) ?_
    refine Y1 14 ?_
    refine Yk rfl ⟨_,_,rfl,rfl,hg27⟩ (Vc (Xqt _ u18 (gs.getD k.toNat gZ)) Xma) (fun _ _ ⟨_,hE⟩=>hE) ?_;rintro _ w6 ⟨rfl,hE⟩
    replace hB4:=hB4.below hE
    replace hB23:=hB23.below hE
    replace hr14:=hr14.below hE
    replace hW:=btr hW hE
    replace hEc:=btr hEc hE
    refine Yo 15 rfl (fun _=>X9 rfl hg27 rfl) ?_
    refine Yd fun a hf=>?_
    have hEE:Below w4.heap.size w4 w6:=hEc
    exact ⟨hf.sub ⟨rfl,rfl,rfl,rfl,rfl,X1 rfl (by first|rfl|(simp only [hc10b,hc17b,hg27,bs];done)|simp [hc10b,hc17b,hg27]),trivial⟩,hEE⟩
   refine Yp 7 rfl ⟨_,_,rfl,rfl,hg27⟩ ?_
   refine Yp 8 rfl ⟨_,_,rfl,rfl,hg27⟩ ?_
   refine Yp 9 rfl ⟨_,_,rfl,rfl,hg27⟩ ?_
   refine Yp 10 rfl ⟨_,_,rfl,rfl,hg27⟩ ?_
   refine Yp 11 rfl ⟨_,_,rfl,rfl,hg27⟩ ?_
   refine Yp 12 rfl ⟨_,_,rfl,rfl,hg27⟩ ?_
   refine Yp 13 rfl ⟨_,_,rfl,rfl,hg27⟩ ?_
   refine Y1 14 ?_
   refine Yq rfl ⟨_,_,rfl,rfl,hg27⟩ ?_
   refine Yo 15 rfl (fun _=>X7 rfl hg27 rfl) ?_
   refine Yd fun a hf=>?_
   have hEE:Below w4.heap.size w4 w5:=hEc
   exact ⟨hf.sub ⟨rfl,rfl,rfl,rfl,rfl,X1 rfl (by first|rfl|(simp only [hc10b,hc17b,hg27,bs];done)|simp [hc10b,hc17b,hg27]),trivial⟩,hEE⟩
  rintro a w7 ⟨hf,hE⟩
  replace hB4:=hB4.below hE
  replace hB23:=hB23.below hE
  replace hr14:=hr14.below hE
  replace hW:=btr hW hE
  refine hK24 _ _ ?_
  refine Xb hf rfl (fun hc30=>?_) (fun hc30=>?_)
  ·have hc30b:=hc30
   have hb:redB gs d k.toNat i=true:=by rw [redB,hgi];exact hc30
   refine Zs hf fun _ hK31=>?_
   refine Za rfl ?_
   refine Zt hK31 fun a hf=>?_
   refine wp_ret ?_
   refine Xj ?_
   refine X3 ?_
   refine X3 ?_
   refine Xj ?_
   refine X3 ?_
   refine X2 hf (Xh hf rfl rfl) ?_
   have hfin:redI gs d k=false:=by rw [redI,hi9,hd9,X2f (j:=i) (by omega) hb];rfl
   exact ⟨by rw [hfin],hW⟩
  have hc30b:=hc30
  have hbf:redB gs d k.toNat i=false:=by rw [redB,hgi];exact hc30
  refine wp_skip ?_
  refine Xn ?_
  refine hK19 _ _ ?_
  refine Zr hf ?_
  refine Ze (Xy rfl rfl (by omega) (by omega))<|Zm rfl ?_
  refine Zn fun a hf=>?_
  refine Xk ?_
  exact ⟨i+1,⟨hf.sub ⟨rfl,rfl,rfl,rfl,rfl,trivial⟩,(by omega),(X2i hA hbf),hB4,hr14,hp,hW⟩,(by omega)⟩
 have hc17b:=hc17
 have hc17:=of_decide_eq_false hc17
 refine wp_exit ?_
 refine Xm ?_
 refine Xm ?_
 refine X03 ?_
 refine hK12 _ _ ?_
 refine Zs hf fun _ hK32=>?_
 refine Za rfl ?_
 refine Zt hK32 fun a hf=>?_
 refine wp_ret (X2 hf (Xh hf rfl rfl) ?_)
 have hfin:redI gs d k=true:=by rw [redI,hi9,hd9,show k.toNat=i from by omega];rw [show k.toNat=i from by omega] at hA;rw [hA];rfl
 exact ⟨by rw [hfin],hW⟩
theorem Xs8(w0:World)(gn cn:Int)(Ag:Option Addr)(cg:Nat)(es:List Ed)(hr_e:Rd w0 w0.heap.size 164 encE Ag es)(As:Option Addr)(cs:Nat)(gs:List Gt)(hr_s:Rd w0 w0.heap.size 107 encG As gs)(Ap:Option Addr)(cp:Nat)(p:List Int)(hr_p:Rd w0 w0.heap.size 3 encI Ap p)(Ad:Option Addr)(nd cd:Nat)(k:Int)(hk:0≤k∧k<(gs.length:Int))(hx:gOk cn (gs.getD k.toNat gZ)=true)(hpl:(p.length:Int)=cn)(hle:es.length≤2305843009213693951) : Ret Tryz.prog 168 [.agg #[vi gn,.slice Ag es.length cg,vi cn,.slice As gs.length cs,.slice Ap p.length cp,.slice Ad nd cd],vi k] w0 (fun v w=>v=.bool (nearI ⟨gn,es⟩ p (gs.getD k.toNat gZ))∧Below w0.heap.size w0 w):=by
 refine enter Tryz.func168 rfl 33 rfl rfl ?_
 intro a hf
 have hW:Below w0.heap.size w0 w0:=Below.refl _ _
 refine Zs hf fun _ hK4=>?_
 refine Zf (Xu (zs:=[vi gn,.slice Ag es.length cg,vi cn,.slice As gs.length cs,.slice Ap p.length cp,.slice Ad nd cd]) rfl rfl) ?_;rintro _ w1 ⟨b5,rfl,hl5,hE,hB5⟩
 have hlo5:=Nat.le_trans hW.size hl5
 replace hW:=btr hW hE
 refine Za rfl ?_
 refine Zt hK4 fun a hf=>?_
 refine Zs hf fun _ hK6=>?_
 refine Ze (Vd rfl X69 2)<|Ze (Vd rfl X07 3)<|Ze (X0 rfl X0e (hB5.at 3))<|Zm rfl ?_
 refine Zi (k:=k.toNat) (u:=(gs.getD k.toNat gZ)) (enc:=encG) (l:=gs) trivial rfl rfl X02 X0o Xq (hr_s.below' hW) (X6t (by omega)) (by omega) ?_;intro p8 hat7
 refine Ze (Xi (l:=[vi ((gs.getD k.toNat gZ).k),vi ((gs.getD k.toNat gZ).a),vi ((gs.getD k.toNat gZ).b)]) rfl X0k hat7 rfl) ?_
 refine Zf (Xa (zs:=[vi 0,vi 0,vi 0]) X39 rfl) ?_;rintro _ w2 ⟨b9,rfl,hl9,hE,hB9⟩
 have hlo9:=Nat.le_trans hW.size hl9
 have haw2_9:=(hr_s.below' hW).away hl9
 replace hB5:=hB5.below hE
 replace hW:=btr hW hE
 refine Zo (Vw [vi ((gs.getD k.toNat gZ).k),vi ((gs.getD k.toNat gZ).a),vi ((gs.getD k.toNat gZ).b)] X0o hB9) ?_;rintro _ w3 ⟨ho,hb⟩
 have hold:=hB9
 replace hB5:=hB5.only ho (Blk.ne hB5 hold rfl)
 replace hW:=Below.only hW ho hlo9
 clear hold
 have hB9:=hb
 clear hb ho
 refine Zt hK6 fun a hf=>?_
 refine wp_seq_k fun _ hK10=>?_
 refine X06 (fun a w=>Fr a 33 [(4,.bool ((!(inR ((gs.getD k.toNat gZ).k) 9 11))||(edgI (⟨gn,es⟩ : Gp) (p.getD (gs.getD k.toNat gZ).a.toNat 0) (p.getD (gs.getD k.toNat gZ).b.toNat 0))))]∧Below w3.heap.size w3 w) ?_ ?_
 ·have hEc:Below w3.heap.size w3 w3:=Below.refl _ _
  refine X05 none (fun _=>false) mixed ?_
  intro w4 hE
  replace hB5:=hB5.below hE
  replace hB9:=hB9.below hE
  replace hW:=btr hW hE
  replace hEc:=btr hEc hE
  refine Yb hf ?_
  refine Yo 0 rfl (fun _=>Vd rfl X0f 0)<|Ye 1 rfl (X0 rfl X5 (hB9.at 0)) ?_
  refine Y1 2 ?_
  refine Yz rfl trivial (Vc (F99 _ ((gs.getD k.toNat gZ).k)) X8o) ?_
  refine Yo 3 rfl (fun _=>X09 rfl)<|Yo 4 rfl (fun _=>X8 rfl) ?_
  refine Yl 16 rfl (fun hg11=>?_) (fun hg11=>?_)
  ·refine Yp 5 rfl ⟨_,_,rfl,rfl,hg11⟩ ?_
   refine Yp 6 rfl ⟨_,_,rfl,rfl,hg11⟩ ?_
   refine Yp 7 rfl ⟨_,_,rfl,rfl,hg11⟩ ?_
   refine Yp 8 rfl ⟨_,_,rfl,rfl,hg11⟩ ?_
   refine Yp 9 rfl ⟨_,_,rfl,rfl,hg11⟩ ?_
   refine Yp 10 rfl ⟨_,_,rfl,rfl,hg11⟩ ?_
   refine Yp 11 rfl ⟨_,_,rfl,rfl,hg11⟩ ?_
   refine Yp 12 rfl ⟨_,_,rfl,rfl,hg11⟩ ?_
   refine Yp 13 rfl ⟨_,_,rfl,rfl,hg11⟩ ?_
   refine Yp 14 rfl ⟨_,_,rfl,rfl,hg11⟩ ?_
   refine Yp 15 rfl ⟨_,_,rfl,rfl,hg11⟩ ?_
   refine Yp 16 rfl ⟨_,_,rfl,rfl,hg11⟩ ?_
   refine Yp 17 rfl ⟨_,_,rfl,rfl,hg11⟩ ?_
   refine Yp 18 rfl ⟨_,_,rfl,rfl,hg11⟩ ?_
   refine Y1 19 ?_
   refine Yq rfl ⟨_,_,rfl,rfl,hg11⟩ ?_
   refine Yo 20 rfl (fun _=>X9 rfl hg11 rfl)<|Yo 21 rfl (fun _=>X0p rfl) ?_
   refine Yd fun a hf=>?_
   have hEE:Below w3.heap.size w3 w4:=hEc
   exact ⟨hf.sub ⟨X1 rfl (by first|rfl|(simp only [hg11,bs];done)|simp [hg11]),trivial⟩,hEE⟩
  refine Yu 5 rfl ⟨_,_,rfl,rfl,hg11⟩ (fun _=>Vd rfl Xbo 0) ?_
  refine Yv 6 rfl ⟨_,_,rfl,rfl,hg11⟩ (Xi (l:=[vi gn,.slice Ag es.length cg]) rfl X1k ((hB5.at 0).take 2) rfl) ?_
  refine Yu 7 rfl ⟨_,_,rfl,rfl,hg11⟩ (fun _=>Vd rfl X3q 4) ?_
  refine Yv 8 rfl ⟨_,_,rfl,rfl,hg11⟩ (X0 rfl X2e (hB5.at 4)) ?_
  refine Yu 9 rfl ⟨_,_,rfl,rfl,hg11⟩ (fun _=>Vd rfl X0a 1) ?_
  refine Yv 10 rfl ⟨_,_,rfl,rfl,hg11⟩ (X0 rfl X5 (hB9.at 1)) ?_
  refine Yi (k:=(gs.getD k.toNat gZ).a.toNat) (u:=(p.getD (gs.getD k.toNat gZ).a.toNat 0)) (enc:=encI) (l:=p) 11 rfl ⟨_,_,rfl,rfl,hg11⟩ rfl rfl X0b X0z Xz (hr_p.below' hW) (X14 0 (by have:=X3l hx (by assumption);omega)) (by have:=X3l hx (by assumption);omega) ?_;intro p13 hat12
  refine Yv 12 rfl ⟨_,_,rfl,rfl,hg11⟩ (X0 rfl X5 hat12) ?_
  refine Yu 13 rfl ⟨_,_,rfl,rfl,hg11⟩ (fun _=>Vd rfl X3q 4) ?_
  refine Yv 14 rfl ⟨_,_,rfl,rfl,hg11⟩ (X0 rfl X2e (hB5.at 4)) ?_
  refine Yu 15 rfl ⟨_,_,rfl,rfl,hg11⟩ (fun _=>Vd rfl X0n 2) ?_
  refine Yv 16 rfl ⟨_,_,rfl,rfl,hg11⟩ (X0 rfl X5 (hB9.at 2)) ?_
  refine Yi (k:=(gs.getD k.toNat gZ).b.toNat) (u:=(p.getD (gs.getD k.toNat gZ).b.toNat 0)) (enc:=encI) (l:=p) 17 rfl ⟨_,_,rfl,rfl,hg11⟩ rfl rfl X0b X0z Xz (hr_p.below' hW) (X14 0 (by have:=X3l hx (by assumption);omega)) (by have:=X3l hx (by assumption);omega) ?_;intro p15 hat14
  refine Yv 18 rfl ⟨_,_,rfl,rfl,hg11⟩ (X0 rfl X5 hat14) ?_
  refine Y1 19 ?_
  refine Yk rfl ⟨_,_,rfl,rfl,hg11⟩ (Vc (Xq0 _ (⟨gn,es⟩ : Gp) Ag cg (hr_e.below' hW).top (p.getD (gs.getD k.toNat gZ).a.toNat 0) (p.getD (gs.getD k.toNat gZ).b.toNat 0) hle) Xg5) (fun _ _ ⟨_,hE⟩=>hE) ?_;rintro _ w5 ⟨rfl,hE⟩
  replace hB5:=hB5.below hE
  replace hB9:=hB9.below hE
  replace hW:=btr hW hE
  replace hEc:=btr hEc hE
  refine Yo 20 rfl (fun _=>X7 rfl hg11 rfl)<|Yo 21 rfl (fun _=>X0p rfl) ?_
  refine Yd fun a hf=>?_
  have hEE:Below w3.heap.size w3 w5:=hEc
  exact ⟨hf.sub ⟨X1 rfl (by first|rfl|(simp only [hg11,bs];done)|simp [hg11]),trivial⟩,hEE⟩
 rintro a w6 ⟨hf,hE⟩
 replace hB5:=hB5.below hE
 replace hB9:=hB9.below hE
 replace hW:=btr hW hE
 refine hK10 _ _ ?_
 refine wp_ret (X2 hf (Xh hf rfl rfl) ?_)
 exact ⟨by simp only [nearI],hW⟩
theorem Xoj(w0:World)(g:Gp)(Ag:Option Addr)(cg:Nat)(hr_g:Rd w0 w0.heap.size 164 encE Ag g.es)(c:Cx)(Ac:Option Addr)(cc:Nat)(hr_c:Rd w0 w0.heap.size 107 encG Ac c.gs)(Ap:Option Addr)(cp:Nat)(p:List Int)(hr_p:Rd w0 w0.heap.size 3 encI Ap p)(hlc:c.gs.length≤1000000)(hln:p.length≤1000000000) : Ret Tryz.prog 124 [.agg #[vi g.n,.slice Ag g.es.length cg],.agg #[vi c.n,.slice Ac c.gs.length cc],.slice Ap p.length cp] w0 (fun v w=>∃ A1 e1 A2 e2,v=.agg #[vi g.n,.slice Ag g.es.length cg,vi c.n,.slice Ac c.gs.length cc,.slice A1 p.length e1,.slice A2 c.gs.length e2]∧Own w w0.heap.size 3 1 encI A1 e1 p∧Own w w0.heap.size 4 1 encB A2 e2 (List.replicate c.gs.length false)∧Below w0.heap.size w0 w):=by
 refine enter Tryz.func124 rfl 16 rfl rfl ?_
 intro a hf
 have hW:Below w0.heap.size w0 w0:=Below.refl _ _
 refine Zs hf fun _ hK4=>?_
 refine Zf (Xu (zs:=[vi g.n,.slice Ag g.es.length cg]) rfl rfl) ?_;rintro _ w1 ⟨b5,rfl,hl5,hE,hB5⟩
 have hlo5:=Nat.le_trans hW.size hl5
 replace hW:=btr hW hE
 refine Zf (Xu (zs:=[vi c.n,.slice Ac c.gs.length cc]) rfl rfl) ?_;rintro _ w2 ⟨b6,rfl,hl6,hE,hB6⟩
 have hlo6:=Nat.le_trans hW.size hl6
 replace hB5:=hB5.below hE
 replace hW:=btr hW hE
 refine Zf (Xa (zs:=[vi 0,.slice none 0 0,vi 0,.slice none 0 0,.slice none 0 0,.slice none 0 0]) Xag rfl) ?_;rintro _ w3 ⟨b11,rfl,hl11,hE,hB11⟩
 have hlo11:=Nat.le_trans hW.size hl11
 replace hB5:=hB5.below hE
 replace hB6:=hB6.below hE
 replace hW:=btr hW hE
 refine Zt hK4 fun a hf=>?_
 refine wp_seq_k fun _ hK12=>?_
 refine X06 (fun a w=>∃ b14 A13 c13,Fr a 16 [(6,.pointer (some ⟨b11,0,none⟩))]∧w0.heap.size≤b14∧Blk w b14 4 ((List.replicate c.gs.length false).flatMap encB)∧Own w w0.heap.size 3 1 encI A13 c13 p∧Blk w b5 79 [vi g.n,.slice Ag g.es.length cg]∧Blk w b6 41 [vi c.n,.slice Ac c.gs.length cc]∧Blk w b11 170 [vi g.n,.slice Ag g.es.length cg,vi c.n,.slice Ac c.gs.length cc,.slice A13 p.length c13,.slice (some ⟨b14,0,none⟩) c.gs.length c.gs.length]∧Below w0.heap.size w0 w) ?_ ?_
 ·refine X05 none (fun j=>[9].contains j) mixed ?_
  intro w4 hE
  replace hB5:=hB5.below hE
  replace hB6:=hB6.below hE
  replace hB11:=hB11.below hE
  replace hW:=btr hW hE
  refine Yb hf ?_
  refine Ye 0 rfl (Vn X1k hB5)<|Ye 1 rfl (Vn X0c hB6)<|Yo 2 rfl (fun _=>X8 rfl)<|Yo 4 rfl (fun _=>Vd rfl X07 1)<|Ye 5 rfl (X0 rfl X0e (hB6.at 1)) ?_
  refine Yo 6 rfl (fun _=>X0d rfl X02) ?_
  refine Y2 3 7 ?_ ?_
  ·refine Yk rfl trivial (Vc (Xoo _ Ap cp p (hr_p.below' hW).top hln) Xgg) (fun _ _ ⟨A13,c13,_,ho13,hE⟩=>hE) ?_;rintro _ w5 ⟨A13,c13,rfl,ho13,hE⟩
   replace ho13:=ho13.lower hW.size
   replace hB5:=hB5.below hE
   replace hB6:=hB6.below hE
   replace hB11:=hB11.below hE
   replace hW:=btr hW hE
   refine Y1 7 ?_
   refine Yk rfl trivial (X1n (m:=c.gs.length) (enc:=encB) (z0:=false) rfl rfl X35 Xfq z_4 rfl X20 (by omega) (by omega)) (fun _ _ ⟨_,_,_,h,_⟩=>h) ?_;rintro _ w6 ⟨b14,rfl,hl14,hE,hB14⟩
   have hlo14:=Nat.le_trans hW.size hl14
   replace hB5:=hB5.below hE
   replace hB6:=hB6.below hE
   replace hB11:=hB11.below hE
   replace ho13:=ho13.below hE
   replace hW:=btr hW hE
   refine Yo 8 rfl (fun _=>X01 (ps:=[(0,.agg #[vi g.n,.slice Ag g.es.length cg]),(1,.agg #[vi c.n,.slice Ac c.gs.length cc]),(2,.slice A13 p.length c13),(3,.slice (some ⟨b14,0,none⟩) c.gs.length c.gs.length)]) (cs:=[vi g.n,.slice Ag g.es.length cg,vi c.n,.slice Ac c.gs.length cc,.slice A13 p.length c13,.slice (some ⟨b14,0,none⟩) c.gs.length c.gs.length]) rfl (fun _=>by first|rfl|kernel_rfl)) ?_
   refine Y1 9 ?_
   refine Yh rfl trivial rfl (Vw [vi g.n,.slice Ag g.es.length cg,vi c.n,.slice Ac c.gs.length cc,.slice A13 p.length c13,.slice (some ⟨b14,0,none⟩) c.gs.length c.gs.length] X44 hB11) ?_;rintro _ w7 ⟨ho,hb⟩
   have hold:=hB11
   replace hB5:=hB5.only ho (Blk.ne hB5 hold rfl)
   replace hB6:=hB6.only ho (Blk.ne hB6 hold rfl)
   replace hB14:=hB14.only ho (Blk.ne hB14 hold rfl)
   replace ho13:=ho13.onlyT ho hold rfl
   replace hW:=Below.only hW ho hlo11
   clear hold
   have hB11:=hb
   clear hb ho
   refine Yd fun a hf=>?_
   exact ⟨b14,A13,c13,hf.sub ⟨rfl,trivial⟩,hlo14,hB14,ho13,hB5,hB6,hB11,hW⟩
  refine Yk rfl trivial (X1n (m:=c.gs.length) (enc:=encB) (z0:=false) rfl rfl X35 Xfq z_4 rfl X20 (by omega) (by omega)) (fun _ _ ⟨_,_,_,h,_⟩=>h) ?_;rintro _ w8 ⟨b20,rfl,hl20,hE,hB20⟩
  have hlo20:=Nat.le_trans hW.size hl20
  replace hB5:=hB5.below hE
  replace hB6:=hB6.below hE
  replace hB11:=hB11.below hE
  replace hW:=btr hW hE
  refine Y1 3 ?_
  refine Yk rfl trivial (Vc (Xoo _ Ap cp p (hr_p.below' hW).top hln) Xgg) (fun _ _ ⟨A22,c22,_,ho22,hE⟩=>hE) ?_;rintro _ w9 ⟨A22,c22,rfl,ho22,hE⟩
  replace ho22:=ho22.lower hW.size
  replace hB5:=hB5.below hE
  replace hB6:=hB6.below hE
  replace hB11:=hB11.below hE
  replace hB20:=hB20.below hE
  replace hW:=btr hW hE
  refine Yo 8 rfl (fun _=>X01 (ps:=[(0,.agg #[vi g.n,.slice Ag g.es.length cg]),(1,.agg #[vi c.n,.slice Ac c.gs.length cc]),(2,.slice A22 p.length c22),(3,.slice (some ⟨b20,0,none⟩) c.gs.length c.gs.length)]) (cs:=[vi g.n,.slice Ag g.es.length cg,vi c.n,.slice Ac c.gs.length cc,.slice A22 p.length c22,.slice (some ⟨b20,0,none⟩) c.gs.length c.gs.length]) rfl (fun _=>by first|rfl|kernel_rfl)) ?_
  refine Y1 9 ?_
  refine Yh rfl trivial rfl (Vw [vi g.n,.slice Ag g.es.length cg,vi c.n,.slice Ac c.gs.length cc,.slice A22 p.length c22,.slice (some ⟨b20,0,none⟩) c.gs.length c.gs.length] X44 hB11) ?_;rintro _ w10 ⟨ho,hb⟩
  have hold:=hB11
  replace hB5:=hB5.only ho (Blk.ne hB5 hold rfl)
  replace hB6:=hB6.only ho (Blk.ne hB6 hold rfl)
  replace hB20:=hB20.only ho (Blk.ne hB20 hold rfl)
  replace ho22:=ho22.onlyT ho hold rfl
  replace hW:=Below.only hW ho hlo11
  clear hold
  have hB11:=hb
  clear hb ho
  refine Yd fun a hf=>?_
  exact ⟨b20,A22,c22,hf.sub ⟨rfl,trivial⟩,hlo20,hB20,ho22,hB5,hB6,hB11,hW⟩
 rintro a w11 ⟨b14,A13,c13,hf,hlo14,hB14,ho13,hB5,hB6,hB11,hW⟩
 refine hK12 _ _ ?_
 refine wp_ret (X2 hf (Xh hf rfl (ResV.cellN (l:=[vi g.n,.slice Ag g.es.length cg,vi c.n,.slice Ac c.gs.length cc,.slice A13 p.length c13,.slice (some ⟨b14,0,none⟩) c.gs.length c.gs.length]) rfl X29 (hB11.at 0) rfl)) ?_)
 exact ⟨_,_,_,_,rfl,ho13,Own.of_flat X20 hB14 hlo14 (by simp) (by simp only [maxLen];omega),hW⟩
end Go.Proofs.YtfgnmflfiobkmaaGreat
set_option maxHeartbeats 1000000
set_option maxRecDepth 4000
namespace Go.Proofs.YtfgnmflfiobkmaaGreat
open Go.RowKit
theorem Xl5(w0:World)(B0:Nat)(Ap:Option Addr)(cp:Nat)(p:List Int)(hop:Own w0 B0 3 1 encI Ap cp p)(Ad:Option Addr)(cd:Nat)(d:List Bool)(hod:Own w0 B0 4 1 encB Ad cd d)(gn cn:Int)(Ag:Option Addr)(cg:Nat)(es:List Ed)(hr_e:Rd w0 w0.heap.size 164 encE Ag es)(As:Option Addr)(cs:Nat)(gs:List Gt)(hr_s:Rd w0 w0.heap.size 107 encG As gs)(hps:gs.length≤cs)(s:Gt)(hgo:∀ g ∈ gs,gOk cn g=true)(hpl:(p.length:Int)=cn)(hdl:d.length=gs.length)(hle:es.length≤2305843009213693951)(hln:gs.length≤1000000000)(hlp:p.length≤1000000000) : Ret Tryz.prog 125 [.agg #[vi gn,.slice Ag es.length cg,vi cn,.slice As gs.length cs,.slice Ap p.length cp,.slice Ad d.length cd],.agg #[vi s.k,vi s.a,vi s.b]] w0 (fun v w=>v=vi (stpI ⟨gn,es⟩ gs s p d).1∧Own w B0 3 1 encI Ap cp (stpI ⟨gn,es⟩ gs s p d).2.1∧Own w B0 4 1 encB Ad cd (stpI ⟨gn,es⟩ gs s p d).2.2∧Turn2 w0 w (Value.slice Ap p.length cp).ownBlock (Value.slice Ad d.length cd).ownBlock):=by
 refine enter Tryz.func125 rfl 50 rfl rfl ?_
 intro a hf
 have hW:Turn2 w0 w0 (Value.slice Ap p.length cp).ownBlock (Value.slice Ad d.length cd).ownBlock:=Turn2.refl _ _ _
 refine Zs hf fun _ hK5=>?_
 refine Zf (Xu (zs:=[vi gn,.slice Ag es.length cg,vi cn,.slice As gs.length cs,.slice Ap p.length cp,.slice Ad d.length cd]) rfl rfl) ?_;rintro _ w1 ⟨b6,rfl,hl6,hE,hB6⟩
 have hlo6:=Nat.le_trans hW.size hl6
 replace hr_e:=hr_e.below hE
 replace hr_s:=hr_s.below hE
 replace hop:=hop.below hE
 replace hod:=hod.below hE
 replace hW:=X8w hW hE
 refine Zf (Xu (zs:=[vi s.k,vi s.a,vi s.b]) rfl rfl) ?_;rintro _ w2 ⟨b7,rfl,hl7,hE,hB7⟩
 have hlo7:=Nat.le_trans hW.size hl7
 replace hB6:=hB6.below hE
 replace hr_e:=hr_e.below hE
 replace hr_s:=hr_s.below hE
 replace hop:=hop.below hE
 replace hod:=hod.below hE
 replace hW:=X8w hW hE
 refine Za rfl ?_
 refine Zt hK5 fun a hf=>?_
 refine wp_seq_k fun _ hK8=>?_
 refine wp_block ?_
 refine Zs hf fun _ hK9=>?_
 refine Ze (Vd rfl X1c 0)<|Ze (X0 rfl X5 (hB7.at 0))<|Ze (X0s rfl rfl)<|Za rfl ?_
 refine Zt hK9 fun a hf=>?_
 refine Xb hf rfl (fun hc10=>?_) (fun hc10=>?_)
 ·have hc10b:=hc10
  have hk1:=hc10
  refine wp_seq_k fun _ hK11=>?_
  refine Zs hf fun _ hK12=>?_
  refine Ze (Vd rfl Xbo 0)<|Ze (Xi (l:=[vi gn,.slice Ag es.length cg]) rfl X1k ((hB6.at 0).take 2) rfl)<|Ze (Vd rfl X1u 1)<|Ze (X0 rfl X5 (hB7.at 1))<|Ze (Vd rfl X1v 2) ?_
  refine Ze (X0 rfl X5 (hB7.at 2)) ?_
  refine Zf (Vc (Xq0 _ (⟨gn,es⟩ : Gp) Ag cg hr_e.top s.a s.b hle) Xg5) ?_;rintro _ w3 ⟨rfl,hE⟩
  replace hB6:=hB6.below hE
  replace hB7:=hB7.below hE
  replace hr_e:=hr_e.below hE
  replace hr_s:=hr_s.below hE
  replace hop:=hop.below hE
  replace hod:=hod.below hE
  replace hW:=X8w hW hE
  refine Ze (X09 rfl) ?_
  refine Zt hK12 fun a hf=>?_
  refine Xb hf rfl (fun hc13=>?_) (fun hc13=>?_)
  ·have hc13b:=hc13
   have he:edgI (⟨gn,es⟩ : Gp) s.a s.b=false:=by revert hc13;cases edgI (⟨gn,es⟩ : Gp) s.a s.b<;>simp
   have hst:(stpI ⟨gn,es⟩ gs s p d)=(2,p,d):=X7f hk1 he
   refine Zs hf fun _ hK14=>?_
   refine Za rfl ?_
   refine Zt hK14 fun a hf=>?_
   refine wp_ret ?_
   refine X3 ?_
   refine Xj ?_
   refine X3 ?_
   refine X2 hf (Xh hf rfl rfl) ?_
   rw [hst]
   exact ⟨rfl,hop,hod,hW⟩
  have hc13b:=hc13
  have he:edgI (⟨gn,es⟩ : Gp) s.a s.b=true:=by revert hc13;cases edgI (⟨gn,es⟩ : Gp) s.a s.b<;>simp
  have hst:(stpI ⟨gn,es⟩ gs s p d)=(0,swapP p s.a s.b,d):=X81 hk1 he
  refine wp_skip ?_
  refine hK11 _ _ ?_
  refine Zs hf fun _ hK15=>?_
  refine Ze (Vn X29 hB6)<|Ze (Vd rfl X1u 1)<|Ze (X0 rfl X5 (hB7.at 1))<|Ze (Vd rfl X1v 2)<|Ze (X0 rfl X5 (hB7.at 2)) ?_
  refine Zf (Vc (Xr8 _ B0 Ap cp p hop gn cn s.a s.b Ag es.length cg As gs.length cs Ad d.length cd hlp) Xnq) ?_;rintro _ w4 ⟨hnew,hg⟩
  have hown:=hop
  replace hB6:=hB6.appT hown hg rfl
  replace hB7:=hB7.appT hown hg rfl
  replace hr_e:=hr_e.appT hown hg rfl
  replace hr_s:=hr_s.appT hown hg rfl
  replace hod:=hod.appT hown hg rfl
  replace hW:=t2l hW hg
  clear hown hg;clear hop;have hop:=hnew;clear hnew
  refine Zt hK15 fun a hf=>?_
  refine Zs hf fun _ hK16=>?_
  refine Za rfl ?_
  refine Zt hK16 fun a hf=>?_
  refine wp_ret ?_
  refine Xj ?_
  refine X3 ?_
  refine X2 hf (Xh hf rfl rfl) ?_
  rw [hst]
  exact ⟨rfl,hop,hod,hW⟩
 have hc10b:=hc10
 have hk1:=hc10
 refine wp_seq_k fun _ hK17=>?_
 refine X06 (fun a w=>Fr a 50 [(2,.pointer (some ⟨b6,0,none⟩)),(3,.pointer (some ⟨b7,0,none⟩)),(23,.bool (((s.a != 0)||(s.b != 0))||(!(redI gs d s.k))))]∧Below w2.heap.size w2 w) ?_ ?_
 ·have hEc:Below w2.heap.size w2 w2:=Below.refl _ _
  refine Zr hf ?_
  refine Ze (Vd rfl X1u 1)<|Ze (X0 rfl X5 (hB7.at 1))<|Ze (X1g rfl rfl)<|Zm rfl ?_
  refine Zg 27 rfl (fun hg18=>?_) (fun hg18=>?_)
  ·refine Zp ⟨_,_,rfl,rfl,hg18⟩ ?_
   refine Zp ⟨_,_,rfl,rfl,hg18⟩ ?_
   refine Zp ⟨_,_,rfl,rfl,hg18⟩ ?_
   refine Ze (X9 rfl hg18 rfl)<|Zm rfl<|Zp ⟨_,_,rfl,rfl,rfl⟩ ?_
   refine Zp ⟨_,_,rfl,rfl,rfl⟩ ?_
   refine Zp ⟨_,_,rfl,rfl,rfl⟩ ?_
   refine Zp ⟨_,_,rfl,rfl,rfl⟩ ?_
   refine Zp ⟨_,_,rfl,rfl,rfl⟩ ?_
   refine Ze (X9 rfl rfl rfl)<|Za rfl ?_
   refine Zn fun a hf=>?_
   have hEE:Below w2.heap.size w2 w2:=hEc
   exact ⟨hf.sub ⟨rfl,rfl,X1 rfl (by first|rfl|(simp only [hc10b,hg18,bs];done)|simp [hc10b,hg18]),trivial⟩,hEE⟩
  refine Zv ⟨_,_,rfl,rfl,hg18⟩ (Vd rfl X1v 2) ?_
  refine Zv ⟨_,_,rfl,rfl,hg18⟩ (X0 rfl X5 (hB7.at 2)) ?_
  refine Zv ⟨_,_,rfl,rfl,hg18⟩ (X1g rfl rfl) ?_
  refine Ze (X7 rfl hg18 rfl)<|Zm rfl ?_
  refine Zg 32 rfl (fun hg19=>?_) (fun hg19=>?_)
  ·refine Zp ⟨_,_,rfl,rfl,hg19⟩ ?_
   refine Zp ⟨_,_,rfl,rfl,hg19⟩ ?_
   refine Zp ⟨_,_,rfl,rfl,hg19⟩ ?_
   refine Zp ⟨_,_,rfl,rfl,hg19⟩ ?_
   refine Zp ⟨_,_,rfl,rfl,hg19⟩ ?_
   refine Ze (X9 rfl hg19 rfl)<|Za rfl ?_
   refine Zn fun a hf=>?_
   have hEE:Below w2.heap.size w2 w2:=hEc
   exact ⟨hf.sub ⟨rfl,rfl,X1 rfl (by first|rfl|(simp only [hc10b,hg18,hg19,bs];done)|simp [hc10b,hg18,hg19]),trivial⟩,hEE⟩
  refine Zv ⟨_,_,rfl,rfl,hg19⟩ (Vn X29 hB6) ?_
  refine Zv ⟨_,_,rfl,rfl,hg19⟩ (Vd rfl X1c 0) ?_
  refine Zv ⟨_,_,rfl,rfl,hg19⟩ (X0 rfl X5 (hB7.at 0)) ?_
  refine Zk ⟨_,_,rfl,rfl,hg19⟩ (Vc (Xr6 _ gn cn Ag es.length cg Ap p.length cp As cs gs hr_s.top hps Ad cd d hod.rd.top s.k hdl hln) Xno) ?_;rintro _ w5 ⟨rfl,hE⟩
  replace hB6:=hB6.below hE
  replace hB7:=hB7.below hE
  replace hr_e:=hr_e.below hE
  replace hr_s:=hr_s.below hE
  replace hop:=hop.below hE
  replace hod:=hod.below hE
  replace hW:=X8w hW hE
  replace hEc:=btr hEc hE
  refine Zv ⟨_,_,rfl,rfl,hg19⟩ (X09 rfl) ?_
  refine Ze (X7 rfl hg19 rfl)<|Za rfl ?_
  refine Zn fun a hf=>?_
  have hEE:Below w2.heap.size w2 w5:=hEc
  exact ⟨hf.sub ⟨rfl,rfl,X1 rfl (by first|rfl|(simp only [hc10b,hg18,hg19,bs];done)|simp [hc10b,hg18,hg19]),trivial⟩,hEE⟩
 rintro a w6 ⟨hf,hE⟩
 replace hB6:=hB6.below hE
 replace hB7:=hB7.below hE
 replace hr_e:=hr_e.below hE
 replace hr_s:=hr_s.below hE
 replace hop:=hop.below hE
 replace hod:=hod.below hE
 replace hW:=X8w hW hE
 refine hK17 _ _ ?_
 refine Xb hf rfl (fun hc20=>?_) (fun hc20=>?_)
 ·have hc20b:=hc20
  have hst:(stpI ⟨gn,es⟩ gs s p d)=(3,p,d):=X7w hk1 hc20
  refine Zs hf fun _ hK21=>?_
  refine Za rfl ?_
  refine Zt hK21 fun a hf=>?_
  refine wp_ret ?_
  refine Xj ?_
  refine X3 ?_
  refine X2 hf (Xh hf rfl rfl) ?_
  rw [hst]
  exact ⟨rfl,hop,hod,hW⟩
 have hc20b:=hc20
 have hw:=hc20
 obtain ⟨hb0,hb1,hb2⟩:=Xbp (X9w hw)
 refine Zs hf fun _ hK22=>?_
 refine Ze (Vn X29 hB6)<|Ze (Vd rfl X1c 0)<|Ze (X0 rfl X5 (hB7.at 0)) ?_
 refine Zf (Vc (Xs8 _ gn cn Ag cg es hr_e.top As cs gs hr_s.top Ap cp p hop.rd.top Ad d.length cd s.k ⟨hb0,hb1⟩ (hgo _ (List.mem_of_getElem? (X6t (by omega)))) hpl hle) Xnk) ?_;rintro _ w7 ⟨rfl,hE⟩
 replace hB6:=hB6.below hE
 replace hB7:=hB7.below hE
 replace hr_e:=hr_e.below hE
 replace hr_s:=hr_s.below hE
 replace hop:=hop.below hE
 replace hod:=hod.below hE
 replace hW:=X8w hW hE
 refine Ze (X09 rfl)<|Za rfl ?_
 refine Zt hK22 fun a hf=>?_
 refine Xb hf rfl (fun hc23=>?_) (fun hc23=>?_)
 ·have hc23b:=hc23
  have hn:nearI (⟨gn,es⟩ : Gp) p (gs.getD s.k.toNat gZ)=false:=by revert hc23;cases nearI (⟨gn,es⟩ : Gp) p (gs.getD s.k.toNat gZ)<;>simp
  have hst:(stpI ⟨gn,es⟩ gs s p d)=(4,p,d):=Xae hk1 hw hn
  refine Zs hf fun _ hK24=>?_
  refine Za rfl ?_
  refine Zt hK24 fun a hf=>?_
  refine wp_ret ?_
  refine Xj ?_
  refine X3 ?_
  refine X2 hf (Xh hf rfl rfl) ?_
  rw [hst]
  exact ⟨rfl,hop,hod,hW⟩
 have hc23b:=hc23
 have hn:nearI (⟨gn,es⟩ : Gp) p (gs.getD s.k.toNat gZ)=true:=by revert hc23;cases nearI (⟨gn,es⟩ : Gp) p (gs.getD s.k.toNat gZ)<;>simp
 have hst:(stpI ⟨gn,es⟩ gs s p d)=(0,p,d.set s.k.toNat true):=X83 hk1 hw hn
 refine wp_skip ?_
 refine Xn ?_
 refine hK8 _ _ ?_
 refine Zs hf fun _ hK25=>?_
 refine Ze (Vd rfl X60 5)<|Ze (X0 rfl X9m (hB6.at 5))<|Ze (Vd rfl X1c 0)<|Ze (X0 rfl X5 (hB7.at 0))<|Ze (X3p (k:=s.k.toNat) rfl rfl X35 X80 hod rfl (by omega) (by omega)) ?_
 refine Zo (X3r (enc:=encB) (l:=d) (vs:=[.bool true]) (x0:=false) (u:=true) (k:=s.k.toNat) (j:=0) (n1:=1) rfl rfl X80 hod X20 rfl rfl rfl rfl (by decide) (by rw [X14 false (show s.k.toNat<d.length by omega),hb2]) rfl) ?_;rintro _ w8 ⟨hnew,hg⟩
 have hown:=hod
 replace hB6:=hB6.appT hown hg rfl
 replace hB7:=hB7.appT hown hg rfl
 replace hr_e:=hr_e.appT hown hg rfl
 replace hr_s:=hr_s.appT hown hg rfl
 replace hop:=hop.appT hown hg rfl
 replace hW:=t2r hW hg
 clear hown hg;clear hod;have hod:=hnew;clear hnew
 refine Zt hK25 fun a hf=>?_
 refine Zs hf fun _ hK26=>?_
 refine Za rfl ?_
 refine Zt hK26 fun a hf=>?_
 refine wp_ret (X2 hf (Xh hf rfl rfl) ?_)
 rw [hst]
 exact ⟨rfl,hop,hod,hW⟩
end Go.Proofs.YtfgnmflfiobkmaaGreat
set_option maxHeartbeats 1000000
set_option maxRecDepth 4000
namespace Go.Proofs.YtfgnmflfiobkmaaGreat
open Go.RowKit
theorem F80(w0:World)(g:Gp)(Ag:Option Addr)(cg:Nat)(hr_g:Rd w0 w0.heap.size 164 encE Ag g.es)(c:Cx)(Ac:Option Addr)(cc:Nat)(hr_c:Rd w0 w0.heap.size 107 encG Ac c.gs)(hle:g.es.length≤2305843009213693951)(hlc:c.gs.length≤2305843009213693951) : Ret Tryz.prog 80 [.agg #[vi g.n,.slice Ag g.es.length cg],.agg #[vi c.n,.slice Ac c.gs.length cc]] w0 (fun v w=>v=.bool (fitsR g c)∧Below w0.heap.size w0 w):=by
 refine enter Tryz.func80 rfl 18 rfl rfl ?_
 intro a hf
 have hW:Below w0.heap.size w0 w0:=Below.refl _ _
 refine Zs hf fun _ hK3=>?_
 refine Zf (Xu (zs:=[vi g.n,.slice Ag g.es.length cg]) rfl rfl) ?_;rintro _ w1 ⟨b4,rfl,hl4,hE,hB4⟩
 have hlo4:=Nat.le_trans hW.size hl4
 replace hW:=btr hW hE
 refine Zf (Xu (zs:=[vi c.n,.slice Ac c.gs.length cc]) rfl rfl) ?_;rintro _ w2 ⟨b5,rfl,hl5,hE,hB5⟩
 have hlo5:=Nat.le_trans hW.size hl5
 replace hB4:=hB4.below hE
 replace hW:=btr hW hE
 refine Za rfl ?_
 refine Zt hK3 fun a hf=>?_
 refine wp_seq_k fun _ hK6=>?_
 refine X06 (fun a w=>Fr a 18 [(4,.bool (((gpI g)&&(cOk c))&&(decide (c.n≤g.n))))]∧Below w2.heap.size w2 w) ?_ ?_
 ·have hEc:Below w2.heap.size w2 w2:=Below.refl _ _
  refine Zr hf ?_
  refine Ze (Vn X1k hB4) ?_
  refine Zf (Vc (Xsp _ g Ag cg (hr_g.below' hW).top hle) Xlk) ?_;rintro _ w3 ⟨rfl,hE⟩
  replace hB4:=hB4.below hE
  replace hB5:=hB5.below hE
  replace hW:=btr hW hE
  replace hEc:=btr hEc hE
  refine Zm rfl ?_
  refine Zg 7 rfl (fun hg7=>?_) (fun hg7=>?_)
  ·refine Zv ⟨_,_,rfl,rfl,hg7⟩ (Vn X0c hB5) ?_
   refine Zk ⟨_,_,rfl,rfl,hg7⟩ (Vc (F55 _ c Ac cc (hr_c.below' hW).top hlc) Xar) ?_;rintro _ w4 ⟨rfl,hE⟩
   replace hB4:=hB4.below hE
   replace hB5:=hB5.below hE
   replace hW:=btr hW hE
   replace hEc:=btr hEc hE
   refine Ze (X9 rfl hg7 rfl)<|Zm rfl ?_
   refine Zg 11 rfl (fun hg8=>?_) (fun hg8=>?_)
   ·refine Zv ⟨_,_,rfl,rfl,hg8⟩ (Vd rfl X0t 0) ?_
    refine Zv ⟨_,_,rfl,rfl,hg8⟩ (X0 rfl X5 (hB5.at 0)) ?_
    refine Zv ⟨_,_,rfl,rfl,hg8⟩ (Vd rfl X1t 0) ?_
    refine Zv ⟨_,_,rfl,rfl,hg8⟩ (X0 rfl X5 (hB4.at 0)) ?_
    refine Zv ⟨_,_,rfl,rfl,hg8⟩ (X9o rfl rfl) ?_
    refine Ze (X9 rfl hg8 rfl)<|Za rfl ?_
    refine Zn fun a hf=>?_
    have hEE:Below w2.heap.size w2 w4:=hEc
    exact ⟨hf.sub ⟨X1 rfl (by first|rfl|(simp only [hg7,hg8,bs];done)|simp [hg7,hg8]),trivial⟩,hEE⟩
   refine Zp ⟨_,_,rfl,rfl,hg8⟩ ?_
   refine Zp ⟨_,_,rfl,rfl,hg8⟩ ?_
   refine Zp ⟨_,_,rfl,rfl,hg8⟩ ?_
   refine Zp ⟨_,_,rfl,rfl,hg8⟩ ?_
   refine Zp ⟨_,_,rfl,rfl,hg8⟩ ?_
   refine Ze (X7 rfl hg8 rfl)<|Za rfl ?_
   refine Zn fun a hf=>?_
   have hEE:Below w2.heap.size w2 w4:=hEc
   exact ⟨hf.sub ⟨X1 rfl (by first|rfl|(simp only [hg7,hg8,bs];done)|simp [hg7,hg8]),trivial⟩,hEE⟩
  refine Zp ⟨_,_,rfl,rfl,hg7⟩ ?_
  refine Zp ⟨_,_,rfl,rfl,hg7⟩ ?_
  refine Ze (X7 rfl hg7 rfl)<|Zm rfl<|Zp ⟨_,_,rfl,rfl,rfl⟩ ?_
  refine Zp ⟨_,_,rfl,rfl,rfl⟩ ?_
  refine Zp ⟨_,_,rfl,rfl,rfl⟩ ?_
  refine Zp ⟨_,_,rfl,rfl,rfl⟩ ?_
  refine Zp ⟨_,_,rfl,rfl,rfl⟩ ?_
  refine Ze (X7 rfl rfl rfl)<|Za rfl ?_
  refine Zn fun a hf=>?_
  have hEE:Below w2.heap.size w2 w3:=hEc
  exact ⟨hf.sub ⟨X1 rfl (by first|rfl|(simp only [hg7,bs];done)|simp [hg7]),trivial⟩,hEE⟩
 rintro a w5 ⟨hf,hE⟩
 replace hB4:=hB4.below hE
 replace hB5:=hB5.below hE
 replace hW:=btr hW hE
 refine hK6 _ _ ?_
 refine wp_ret (X2 hf (Xh hf rfl rfl) ?_)
 exact ⟨by simp only [fitsR],hW⟩
theorem Xs4(w0:World)(g:Gp)(Ag:Option Addr)(cg:Nat)(hr_g:Rd w0 w0.heap.size 164 encE Ag g.es)(c:Cx)(Ac:Option Addr)(cc:Nat)(hr_c:Rd w0 w0.heap.size 107 encG Ac c.gs)(hp_c:c.gs.length≤cc)(r:Ro)(Ar:Option Addr)(cr:Nat)(hr_r:Rd w0 w0.heap.size 3 encI Ar r.st)(hp_r:r.st.length≤cr)(Br:Option Addr)(dr:Nat)(hs_r:Rd w0 w0.heap.size 161 encG Br r.steps)(hg:gpI g=true)(hc:cOk c=true)(hle:g.es.length≤1048576)(hla:r.st.length≤1048576)(hlb:r.steps.length≤1048576) : Ret Tryz.prog 123 [.agg #[vi g.n,.slice Ag g.es.length cg],.agg #[vi c.n,.slice Ac c.gs.length cc],.agg #[.slice Ar r.st.length cr,.slice Br r.steps.length dr]] w0 (fun v w=>∃ (i1:Int) (A1:Option Addr) (m1 e1:Nat) (i2:Int) (A2:Option Addr) (m2 e2:Nat) (A3:Option Addr) (m3 e3:Nat) (A4:Option Addr) (m4 e4:Nat),v=.tuple #[vi (runR g c r).1,vi (runR g c r).2,.agg #[vi i1,.slice A1 m1 e1,vi i2,.slice A2 m2 e2,.slice A3 m3 e3,.slice A4 m4 e4]]∧Below w0.heap.size w0 w):=by
 obtain ⟨hcn,hcl,hcg⟩:=X1r hc
 refine enter Tryz.func123 rfl 51 rfl rfl ?_
 intro a hf
 have hW:Below w0.heap.size w0 w0:=Below.refl _ _
 refine Zs hf fun _ hK5=>?_
 refine Zf (Xu (zs:=[vi g.n,.slice Ag g.es.length cg]) rfl rfl) ?_;rintro _ w1 ⟨b6,rfl,hl6,hE,hB6⟩
 have hlo6:=Nat.le_trans hW.size hl6
 replace hW:=btr hW hE
 refine Zf (Xu (zs:=[vi c.n,.slice Ac c.gs.length cc]) rfl rfl) ?_;rintro _ w2 ⟨b7,rfl,hl7,hE,hB7⟩
 have hlo7:=Nat.le_trans hW.size hl7
 replace hB6:=hB6.below hE
 replace hW:=btr hW hE
 refine Zf (Xu (zs:=[.slice Ar r.st.length cr,.slice Br r.steps.length dr]) rfl rfl) ?_;rintro _ w3 ⟨b8,rfl,hl8,hE,hB8⟩
 have hlo8:=Nat.le_trans hW.size hl8
 replace hB6:=hB6.below hE
 replace hB7:=hB7.below hE
 replace hW:=btr hW hE
 refine Za rfl<|Za rfl ?_
 refine Zf (Xa (zs:=[vi 0,.slice none 0 0,vi 0,.slice none 0 0,.slice none 0 0,.slice none 0 0]) Xag rfl) ?_;rintro _ w4 ⟨b13,rfl,hl13,hE,hB13⟩
 have hlo13:=Nat.le_trans hW.size hl13
 replace hB6:=hB6.below hE
 replace hB7:=hB7.below hE
 replace hB8:=hB8.below hE
 replace hW:=btr hW hE
 refine Zt hK5 fun a hf=>?_
 refine wp_seq_k fun _ hK14=>?_
 refine Zs hf fun _ hK15=>?_
 refine Ze (Vn X1k hB6)<|Ze (Vd rfl X0t 0)<|Ze (X0 rfl X5 (hB7.at 0))<|Ze (Vd rfl X2w 0)<|Ze (X0 rfl X2e (hB8.at 0)) ?_
 refine Zf (Vc (Xr0 _ g Ag cg (hr_g.below' hW).top c.n Ar cr r.st (hr_r.below' hW).top hp_r (by omega)) Xm9) ?_;rintro _ w5 ⟨rfl,hE⟩
 replace hB6:=hB6.below hE
 replace hB7:=hB7.below hE
 replace hB8:=hB8.below hE
 replace hB13:=hB13.below hE
 replace hW:=btr hW hE
 refine Ze (X09 rfl) ?_
 refine Zt hK15 fun a hf=>?_
 refine Xb hf rfl (fun hc16=>?_) (fun hc16=>?_)
 ·have hc16b:=hc16
  have hpf:plI g.n c.n r.st=false:=by revert hc16;cases plI g.n c.n r.st<;>simp
  have hfin:=Xdt hpf
  refine Zs hf fun _ hK17=>?_
  refine Ze (X01 (ps:=[]) (cs:=[vi 0,.slice none 0 0,vi 0,.slice none 0 0,.slice none 0 0,.slice none 0 0]) rfl (fun _=>by first|rfl|kernel_rfl))<|Za rfl<|Za rfl ?_
  refine Zo (Vw [vi 0,.slice none 0 0,vi 0,.slice none 0 0,.slice none 0 0,.slice none 0 0] X44 hB13) ?_;rintro _ w6 ⟨ho,hb⟩
  have hold:=hB13
  replace hB6:=hB6.only ho (Blk.ne hB6 hold rfl)
  replace hB7:=hB7.only ho (Blk.ne hB7 hold rfl)
  replace hB8:=hB8.only ho (Blk.ne hB8 hold rfl)
  replace hW:=Below.only hW ho hlo13
  clear hold
  have hB13:=hb
  clear hb ho
  refine Zt hK17 fun a hf=>?_
  refine wp_ret ?_
  refine X3 ?_
  refine X2 hf (X4l hf rfl rfl rfl (ResV.cellN (l:=[vi 0,.slice none 0 0,vi 0,.slice none 0 0,.slice none 0 0,.slice none 0 0]) rfl X29 (hB13.at 0) rfl)) ?_
  rw [hfin]
  exact ⟨_,_,_,_,_,_,_,_,_,_,_,_,_,_,rfl,hW⟩
 have hc16b:=hc16
 have hpt:plI g.n c.n r.st=true:=by revert hc16;cases plI g.n c.n r.st<;>simp
 obtain ⟨fin,hfn⟩ : ∃ fin,playI g c.gs 0 r.steps r.st (List.replicate c.gs.length false)=fin:=⟨_,rfl⟩
 have hfin:=Xdw hpt hfn
 have hpn0:=Xcw hpt
 refine wp_skip ?_
 refine hK14 _ _ ?_
 refine Zs hf fun _ hK22=>?_
 refine Ze (Vn X1k hB6)<|Ze (Vn X0c hB7)<|Ze (Vd rfl X2w 0)<|Ze (X0 rfl X2e (hB8.at 0)) ?_
 refine Zf (Vc (Xoj _ g Ag cg (hr_g.below' hW).top c Ac cc (hr_c.below' hW).top Ar cr r.st (hr_r.below' hW).top (by omega) (by omega)) Xfu) ?_;rintro _ w7 ⟨A23,c23,A24,c24,rfl,ho23,ho24,hE⟩
 replace ho23:=ho23.lower hW.size
 replace ho24:=ho24.lower hW.size
 replace hB6:=hB6.below hE
 replace hB7:=hB7.below hE
 replace hB8:=hB8.below hE
 replace hB13:=hB13.below hE
 replace hW:=btr hW hE
 refine Zf (Xa (zs:=[vi 0,.slice none 0 0,vi 0,.slice none 0 0,.slice none 0 0,.slice none 0 0]) Xag rfl) ?_;rintro _ w8 ⟨b29,rfl,hl29,hE,hB29⟩
 have hne13_29:b13≠b29:=by have:=hB13.lt;omega
 have hlo29:=Nat.le_trans hW.size hl29
 replace hB6:=hB6.below hE
 replace hB7:=hB7.below hE
 replace hB8:=hB8.below hE
 replace hB13:=hB13.below hE
 replace ho23:=ho23.below hE
 replace ho24:=ho24.below hE
 replace hW:=btr hW hE
 refine Zo (Vw [vi g.n,.slice Ag g.es.length cg,vi c.n,.slice Ac c.gs.length cc,.slice A23 r.st.length c23,.slice A24 c.gs.length c24] X44 hB29) ?_;rintro _ w9 ⟨ho,hb⟩
 have hold:=hB29
 replace hB6:=hB6.only ho (Blk.ne hB6 hold rfl)
 replace hB7:=hB7.only ho (Blk.ne hB7 hold rfl)
 replace hB8:=hB8.only ho (Blk.ne hB8 hold rfl)
 replace hB13:=hB13.only ho (by omega)
 replace ho23:=ho23.onlyT ho hold rfl
 replace ho24:=ho24.onlyT ho hold rfl
 replace hW:=Below.only hW ho hlo29
 clear hold
 have hB29:=hb
 clear hb ho
 refine Zt hK22 fun a hf=>?_
 refine wp_seq_k fun _ hK30=>?_
 refine Zs hf fun _ hK31=>?_
 refine Ze (Vd rfl X2o 1)<|Ze (X0 rfl X64 (hB8.at 1))<|Ze (X0d rfl X2d)<|Zm rfl ?_
 refine Zt hK31 fun a hf=>?_
 refine wp_block ?_
 refine X04 (σ:=Nat×(List Int)×(List Bool)) (fun (s:Nat×(List Int)×(List Bool)) (a:Act) (w:World)=>match s with|(k,p,d)=>Fr a 51 [(5,.pointer (some ⟨b8,0,none⟩)),(8,.pointer (some ⟨b13,0,none⟩)),(9,.pointer (some ⟨b29,0,none⟩)),(27,.slice Br r.steps.length dr),(28,vi (r.steps.length:Int)),(29,vi (k:Int))]∧(k≤r.steps.length)∧(p.length=r.st.length)∧(d.length=c.gs.length)∧(playI g c.gs k (r.steps.drop k) p d=fin)∧Blk w b8 83 [.slice Ar r.st.length cr,.slice Br r.steps.length dr]∧Blk w b13 170 [vi 0,.slice none 0 0,vi 0,.slice none 0 0,.slice none 0 0,.slice none 0 0]∧Blk w b29 170 [vi g.n,.slice Ag g.es.length cg,vi c.n,.slice Ac c.gs.length cc,.slice A23 r.st.length c23,.slice A24 c.gs.length c24]∧Own w w0.heap.size 3 1 encI A23 c23 p∧Own w w0.heap.size 4 1 encB A24 c24 d∧c.gs.length≤cc∧r.st.length≤cr∧Below w0.heap.size w0 w) (fun (s:Nat×(List Int)×(List Bool))=>match s with|(k,p,d)=>r.steps.length-k) (0,r.st,(List.replicate c.gs.length false)) ?_ ?_
 · exact ⟨hf.sub ⟨rfl,rfl,rfl,rfl,rfl,rfl,trivial⟩,(Nat.zero_le _),rfl,(by simp),hfn,hB8,hB13,hB29,ho23,ho24,hp_c,hp_r,hW⟩
 rintro ⟨k,p,d⟩ a w10 ⟨hf,hk,hpl,hdl,hinv,hB8,hB13,hB29,ho23,ho24,hp_c,hp_r,hW⟩
 refine Zs hf fun _ hK32=>?_
 refine Ze (X0m rfl rfl) ?_
 refine Zt hK32 fun a hf=>?_
 refine wp_seq_k fun _ hK33=>?_
 refine Xb hf rfl (fun hc34=>?_) (fun hc34=>?_)
 ·have hc34b:=hc34
  have hc34:=of_decide_eq_true hc34
  obtain ⟨u35,hu35⟩:=Xf (l:=r.steps) (k:=k) (by omega)
  have hdr:=X74 hu35
  rw [hdr] at hinv
  have hpn:(p.length:Int)=c.n:=by rw [hpl];exact hpn0
  refine wp_skip ?_
  refine hK33 _ _ ?_
  refine wp_seq_k fun _ hK36=>?_
  refine wp_block ?_
  refine Zs hf fun _ hK37=>?_
  refine Zm rfl ?_
  refine Zi (k:=k) (u:=u35) (enc:=encG) (l:=r.steps) trivial rfl rfl X2d X2h Xq (hs_r.below' hW) hu35 rfl ?_;intro p39 hat38
  refine Ze (Xi (l:=[vi u35.k,vi u35.a,vi u35.b]) rfl X3b hat38 rfl) ?_
  refine Zf (Xa (zs:=[vi 0,vi 0,vi 0]) X79 rfl) ?_;rintro _ w11 ⟨b40,rfl,hl40,hE,hB40⟩
  have hlo40:=Nat.le_trans hW.size hl40
  have haw4_40:=(hs_r.below' hW).away hl40
  replace hB8:=hB8.below hE
  replace hB13:=hB13.below hE
  replace hB29:=hB29.below hE
  replace ho23:=ho23.below hE
  replace ho24:=ho24.below hE
  replace hW:=btr hW hE
  refine Za rfl ?_
  refine Zo (Vw [vi u35.k,vi u35.a,vi u35.b] X2h hB40) ?_;rintro _ w12 ⟨ho,hb⟩
  have hold:=hB40
  replace hB8:=hB8.only ho (Blk.ne hB8 hold rfl)
  replace hB13:=hB13.only ho (Blk.ne hB13 hold rfl)
  replace hB29:=hB29.only ho (Blk.ne hB29 hold rfl)
  replace ho23:=ho23.onlyT ho hold rfl
  replace ho24:=ho24.onlyT ho hold rfl
  replace hW:=Below.only hW ho hlo40
  clear hold
  have hB40:=hb
  clear hb ho
  refine Zt hK37 fun a hf=>?_
  refine Zs hf fun _ hK41=>?_
  refine Ze (Vn X29 hB29)<|Ze (Vn X3b hB40) ?_
  refine Zf (X7b (vs:=[.agg #[vi g.n,.slice Ag g.es.length cg,vi c.n,.slice Ac c.gs.length cc,.slice A23 r.st.length c23,.slice A24 c.gs.length c24],.agg #[vi u35.k,vi u35.a,vi u35.b]]) rfl Xc9 (by have hq:=Xl5 _ w0.heap.size A23 c23 p ho23 A24 c24 d ho24 g.n c.n Ag cg g.es (hr_g.below' hW).top Ac cc c.gs (hr_c.below' hW).top hp_c u35 hcg hpn hdl (by omega) (by omega) (by omega);rw [hpl,hdl] at hq;exact hq)) ?_;rintro _ w13 ⟨rfl,hnew1,hnew2,ht⟩
  have hown1:=ho23
  have hown2:=ho24
  replace hB8:=hB8.t2 hown1 hown2 ht rfl rfl
  replace hB13:=hB13.t2 hown1 hown2 ht rfl rfl
  replace hB29:=hB29.t2 hown1 hown2 ht rfl rfl
  replace hB40:=hB40.t2 hown1 hown2 ht rfl rfl
  replace hW:=Below.t2 hW hown1 hown2 ht (Nat.le_refl _) (Nat.le_refl _) hW.size
  clear hown1 hown2 ht ho23 ho24;have ho23:=hnew1;have ho24:=hnew2;clear hnew1 hnew2
  refine Za rfl ?_
  refine Zt hK41 fun a hf=>?_
  refine Zs hf fun _ hK42=>?_
  refine Zm rfl<|Ze (X1g rfl rfl) ?_
  refine Zt hK42 fun a hf=>?_
  refine Xb hf rfl (fun hc43=>?_) (fun hc43=>?_)
  ·have hc43b:=hc43
   have hst:=Xc7 hinv hc43
   refine wp_seq_k fun _ hK44=>?_
   refine X05 none (fun j=>[5].contains j) mixed ?_
   intro w14 hE
   replace hB8:=hB8.below hE
   replace hB13:=hB13.below hE
   replace hB29:=hB29.below hE
   replace ho23:=ho23.below hE
   replace ho24:=ho24.below hE
   replace hW:=btr hW hE
   refine Yb hf ?_
   refine Yo 0 rfl (fun _=>X8 rfl)<|Yo 1 rfl (fun _=>X8 rfl)<|Ye 2 rfl (Vn X29 hB29)<|Yo 3 rfl (fun _=>X0p rfl)<|Yo 4 rfl (fun _=>X0p rfl) ?_
   refine Y1 5 ?_
   refine Yh rfl trivial rfl (Vw [vi g.n,.slice Ag g.es.length cg,vi c.n,.slice Ac c.gs.length cc,.slice A23 r.st.length c23,.slice A24 c.gs.length c24] X44 hB13) ?_;rintro _ w15 ⟨ho,hb⟩
   have hold:=hB13
   replace hB8:=hB8.only ho (Blk.ne hB8 hold rfl)
   replace hB29:=hB29.only ho (by omega)
   replace ho23:=ho23.onlyT ho hold rfl
   replace ho24:=ho24.onlyT ho hold rfl
   replace hW:=Below.only hW ho hlo13
   clear hold
   have hB13:=hb
   clear hb ho
   refine Yd fun a hf=>?_
   refine hK44 _ _ ?_
   refine wp_ret ?_
   refine Xj ?_
   refine X3 ?_
   refine X3 ?_
   refine Xj ?_
   refine X3 ?_
   refine X2 hf (X4l hf rfl rfl rfl (ResV.cellN (l:=[vi g.n,.slice Ag g.es.length cg,vi c.n,.slice Ac c.gs.length cc,.slice A23 r.st.length c23,.slice A24 c.gs.length c24]) rfl X29 (hB13.at 0) rfl)) ?_
   rw [hfin,hst]
   exact ⟨_,_,_,_,_,_,_,_,_,_,_,_,_,_,rfl,hW⟩
  have hc43b:=hc43
  have hnx:=Xhs hinv hc43
  refine wp_skip ?_
  refine Xn ?_
  refine hK36 _ _ ?_
  refine Zr hf ?_
  refine Ze (Xy rfl rfl (by omega) (by omega))<|Zm rfl ?_
  refine Zn fun a hf=>?_
  refine Xk ?_
  exact ⟨(k+1,(stpI g c.gs u35 p d).2.1,(stpI g c.gs u35 p d).2.2),⟨hf.sub ⟨rfl,rfl,rfl,rfl,rfl,rfl,trivial⟩,(by omega),(by rw [(X3t ..).1];exact hpl),(by rw [(X3t ..).2];exact hdl),hnx,hB8,hB13,hB29,ho23,ho24,hp_c,hp_r,hW⟩,(by first|omega|(dsimp only;omega))⟩
 have hc34b:=hc34
 have hc34:=of_decide_eq_false hc34
 have hdr:r.steps.drop k=[]:=List.drop_of_length_le (by omega)
 rw [hdr] at hinv
 refine wp_exit ?_
 refine Xm ?_
 refine Xm ?_
 refine X03 ?_
 refine hK30 _ _ ?_
 refine wp_seq_k fun _ hK45=>?_
 refine Zs hf fun _ hK46=>?_
 refine Ze (Vd rfl X60 5)<|Ze (X0 rfl X9m (hB29.at 5)) ?_
 refine Zf (X7b (vs:=[.slice A24 c.gs.length c24,.bool false]) rfl Xlo (by have hq:=Xrt _ A24 c24 d ho24.rd.top false (by omega);rw [hdl] at hq;exact hq)) ?_;rintro _ w16 ⟨rfl,hE⟩
 replace hB8:=hB8.below hE
 replace hB13:=hB13.below hE
 replace hB29:=hB29.below hE
 replace ho23:=ho23.below hE
 replace ho24:=ho24.below hE
 replace hW:=btr hW hE
 refine Zt hK46 fun a hf=>?_
 refine Xb hf rfl (fun hc47=>?_) (fun hc47=>?_)
 ·have hc47b:=hc47
  have hst:=X96 hinv (by rw [← Xkk];exact hc47)
  refine wp_seq_k fun _ hK48=>?_
  refine X05 none (fun j=>[6].contains j) mixed ?_
  intro w17 hE
  replace hB8:=hB8.below hE
  replace hB13:=hB13.below hE
  replace hB29:=hB29.below hE
  replace ho23:=ho23.below hE
  replace ho24:=ho24.below hE
  replace hW:=btr hW hE
  refine Yb hf ?_
  refine Yo 0 rfl (fun _=>Vd rfl X2o 1)<|Ye 1 rfl (X0 rfl X64 (hB8.at 1))<|Yo 2 rfl (fun _=>X0d rfl X2d)<|Ye 3 rfl (Vn X29 hB29)<|Yo 4 rfl (fun _=>X0p rfl) ?_
  refine Yo 5 rfl (fun _=>X0p rfl) ?_
  refine Y1 6 ?_
  refine Yh rfl trivial rfl (Vw [vi g.n,.slice Ag g.es.length cg,vi c.n,.slice Ac c.gs.length cc,.slice A23 r.st.length c23,.slice A24 c.gs.length c24] X44 hB13) ?_;rintro _ w18 ⟨ho,hb⟩
  have hold:=hB13
  replace hB8:=hB8.only ho (Blk.ne hB8 hold rfl)
  replace hB29:=hB29.only ho (by omega)
  replace ho23:=ho23.onlyT ho hold rfl
  replace ho24:=ho24.onlyT ho hold rfl
  replace hW:=Below.only hW ho hlo13
  clear hold
  have hB13:=hb
  clear hb ho
  refine Yd fun a hf=>?_
  refine hK48 _ _ ?_
  refine wp_ret ?_
  refine X3 ?_
  refine X2 hf (X4l hf rfl rfl rfl (ResV.cellN (l:=[vi g.n,.slice Ag g.es.length cg,vi c.n,.slice Ac c.gs.length cc,.slice A23 r.st.length c23,.slice A24 c.gs.length c24]) rfl X29 (hB13.at 0) rfl)) ?_
  have hke:k=r.steps.length:=by omega
  rw [hke] at hst
  rw [hfin,hst]
  exact ⟨_,_,_,_,_,_,_,_,_,_,_,_,_,_,rfl,hW⟩
 have hc47b:=hc47
 have hst:=X8e hinv (by rw [← Xkk];exact hc47)
 refine wp_skip ?_
 refine hK45 _ _ ?_
 refine wp_seq_k fun _ hK49=>?_
 refine X05 none (fun j=>[3].contains j) mixed ?_
 intro w19 hE
 replace hB8:=hB8.below hE
 replace hB13:=hB13.below hE
 replace hB29:=hB29.below hE
 replace ho23:=ho23.below hE
 replace ho24:=ho24.below hE
 replace hW:=btr hW hE
 refine Yb hf ?_
 refine Ye 0 rfl (Vn X29 hB29)<|Yo 1 rfl (fun _=>X0p rfl)<|Yo 2 rfl (fun _=>X0p rfl) ?_
 refine Y1 3 ?_
 refine Yh rfl trivial rfl (Vw [vi g.n,.slice Ag g.es.length cg,vi c.n,.slice Ac c.gs.length cc,.slice A23 r.st.length c23,.slice A24 c.gs.length c24] X44 hB13) ?_;rintro _ w20 ⟨ho,hb⟩
 have hold:=hB13
 replace hB8:=hB8.only ho (Blk.ne hB8 hold rfl)
 replace hB29:=hB29.only ho (by omega)
 replace ho23:=ho23.onlyT ho hold rfl
 replace ho24:=ho24.onlyT ho hold rfl
 replace hW:=Below.only hW ho hlo13
 clear hold
 have hB13:=hb
 clear hb ho
 refine Yd fun a hf=>?_
 refine hK49 _ _ ?_
 refine wp_ret (X2 hf (X4l hf rfl rfl rfl (ResV.cellN (l:=[vi g.n,.slice Ag g.es.length cg,vi c.n,.slice Ac c.gs.length cc,.slice A23 r.st.length c23,.slice A24 c.gs.length c24]) rfl X29 (hB13.at 0) rfl)) ?_)
 rw [hfin,hst]
 exact ⟨_,_,_,_,_,_,_,_,_,_,_,_,_,_,rfl,hW⟩
theorem F81(w0:World)(g:Gp)(Ag:Option Addr)(cg:Nat)(hr_g:Rd w0 w0.heap.size 164 encE Ag g.es)(c:Cx)(Ac:Option Addr)(cc:Nat)(hr_c:Rd w0 w0.heap.size 107 encG Ac c.gs)(hp_c:c.gs.length≤cc)(r:Ro)(Ar:Option Addr)(cr:Nat)(hr_r:Rd w0 w0.heap.size 3 encI Ar r.st)(hp_r:r.st.length≤cr)(Br:Option Addr)(dr:Nat)(hs_r:Rd w0 w0.heap.size 161 encG Br r.steps)(hle:g.es.length≤1048576)(hlc:c.gs.length≤1048576)(hla:r.st.length≤1048576)(hlb:r.steps.length≤1048576) : Ret Tryz.prog 81 [.agg #[vi g.n,.slice Ag g.es.length cg],.agg #[vi c.n,.slice Ac c.gs.length cc],.agg #[.slice Ar r.st.length cr,.slice Br r.steps.length dr]] w0 (fun v w=>v=.tuple #[vi ((chkRI g c r).1),vi ((chkRI g c r).2.1),.bool ((chkRI g c r).2.2)]∧Below w0.heap.size w0 w):=by
 refine enter Tryz.func81 rfl 26 rfl rfl ?_
 intro a hf
 have hW:Below w0.heap.size w0 w0:=Below.refl _ _
 refine Zs hf fun _ hK5=>?_
 refine Zf (Xu (zs:=[vi g.n,.slice Ag g.es.length cg]) rfl rfl) ?_;rintro _ w1 ⟨b6,rfl,hl6,hE,hB6⟩
 have hlo6:=Nat.le_trans hW.size hl6
 replace hW:=btr hW hE
 refine Zf (Xu (zs:=[vi c.n,.slice Ac c.gs.length cc]) rfl rfl) ?_;rintro _ w2 ⟨b7,rfl,hl7,hE,hB7⟩
 have hlo7:=Nat.le_trans hW.size hl7
 replace hB6:=hB6.below hE
 replace hW:=btr hW hE
 refine Zf (Xu (zs:=[.slice Ar r.st.length cr,.slice Br r.steps.length dr]) rfl rfl) ?_;rintro _ w3 ⟨b8,rfl,hl8,hE,hB8⟩
 have hlo8:=Nat.le_trans hW.size hl8
 replace hB6:=hB6.below hE
 replace hB7:=hB7.below hE
 replace hW:=btr hW hE
 refine Za rfl<|Za rfl<|Za rfl ?_
 refine Zt hK5 fun a hf=>?_
 refine wp_seq_k fun _ hK9=>?_
 refine Zs hf fun _ hK10=>?_
 refine Ze (Vn X1k hB6)<|Ze (Vn X0c hB7) ?_
 refine Zf (Vc (F80 _ g Ag cg (hr_g.below' hW).top c Ac cc (hr_c.below' hW).top (by omega) (by omega)) Xke) ?_;rintro _ w4 ⟨rfl,hE⟩
 replace hB6:=hB6.below hE
 replace hB7:=hB7.below hE
 replace hB8:=hB8.below hE
 replace hW:=btr hW hE
 refine Ze (X09 rfl) ?_
 refine Zt hK10 fun a hf=>?_
 refine Xb hf rfl (fun hc11=>?_) (fun hc11=>?_)
 ·have hc11b:=hc11
  have hff:fitsR g c=false:=by revert hc11;cases fitsR g c<;>simp
  refine Zs hf fun _ hK12=>?_
  refine Za rfl<|Za rfl<|Za rfl ?_
  refine Zt hK12 fun a hf=>?_
  refine wp_ret ?_
  refine X3 ?_
  refine X2 hf (X4l hf rfl rfl rfl rfl) ?_
  exact ⟨by rw [chkRI,if_neg (by rw [hff];simp)],hW⟩
 have hc11b:=hc11
 have hft:fitsR g c=true:=by revert hc11;cases fitsR g c<;>simp
 obtain ⟨hg,hc,hcn9⟩:=Xb1 hft
 refine wp_skip ?_
 refine hK9 _ _ ?_
 refine Zs hf fun _ hK13=>?_
 refine Ze (Vn X1k hB6)<|Ze (Vn X0c hB7)<|Ze (Vn X47 hB8) ?_
 refine Zf (Vc (Xs4 _ g Ag cg (hr_g.below' hW).top c Ac cc (hr_c.below' hW).top hp_c r Ar cr (hr_r.below' hW).top hp_r Br dr (hs_r.below' hW).top hg hc hle hla hlb) Xlm) ?_;rintro _ w5 ⟨qi1,qA1,qm1,qe1,qi2,qA2,qm2,qe2,qA3,qm3,qe3,qA4,qm4,qe4,rfl,hE⟩
 replace hB6:=hB6.below hE
 replace hB7:=hB7.below hE
 replace hB8:=hB8.below hE
 replace hW:=btr hW hE
 refine Zm rfl<|Ze (X6 (vs:=[vi ((runR g c r).1),vi ((runR g c r).2),.agg #[vi qi1,.slice qA1 qm1 qe1,vi qi2,.slice qA2 qm2 qe2,.slice qA3 qm3 qe3,.slice qA4 qm4 qe4]]) rfl rfl)<|Ze (X6 (vs:=[vi ((runR g c r).1),vi ((runR g c r).2),.agg #[vi qi1,.slice qA1 qm1 qe1,vi qi2,.slice qA2 qm2 qe2,.slice qA3 qm3 qe3,.slice qA4 qm4 qe4]]) rfl rfl)<|Ze (X6 (vs:=[vi ((runR g c r).1),vi ((runR g c r).2),.agg #[vi qi1,.slice qA1 qm1 qe1,vi qi2,.slice qA2 qm2 qe2,.slice qA3 qm3 qe3,.slice qA4 qm4 qe4]]) rfl rfl) ?_
 refine Zf (Xa (zs:=[vi 0,.slice none 0 0,vi 0,.slice none 0 0,.slice none 0 0,.slice none 0 0]) Xag rfl) ?_;rintro _ w6 ⟨b18,rfl,hl18,hE,hB18⟩
 have hlo18:=Nat.le_trans hW.size hl18
 replace hB6:=hB6.below hE
 replace hB7:=hB7.below hE
 replace hB8:=hB8.below hE
 replace hW:=btr hW hE
 refine Za rfl<|Za rfl ?_
 refine Zo (Vw [vi qi1,.slice qA1 qm1 qe1,vi qi2,.slice qA2 qm2 qe2,.slice qA3 qm3 qe3,.slice qA4 qm4 qe4] X44 hB18) ?_;rintro _ w7 ⟨ho,hb⟩
 have hold:=hB18
 replace hB6:=hB6.only ho (Blk.ne hB6 hold rfl)
 replace hB7:=hB7.only ho (Blk.ne hB7 hold rfl)
 replace hB8:=hB8.only ho (Blk.ne hB8 hold rfl)
 replace hW:=Below.only hW ho hlo18
 clear hold
 have hB18:=hb
 clear hb ho
 refine Zt hK13 fun a hf=>?_
 refine Zs hf fun _ hK19=>?_
 refine Zm rfl<|Zm rfl<|Za rfl<|Za rfl<|Za rfl ?_
 refine Zt hK19 fun a hf=>?_
 refine wp_ret (X2 hf (X4l hf rfl rfl rfl rfl) ?_)
 exact ⟨by rw [chkRI,if_pos hft],hW⟩
end Go.Proofs.YtfgnmflfiobkmaaGreat
