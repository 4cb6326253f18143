/-
  For every drawn path sum, reducing it keeps the operator and leaves nothing to reduce, with no more steps than path variables; conditions: none beside the table of math/bits that the card ties to the text.
-/
import Derived.Test.YtiejkplemjkjoaaGreatDoorH2
import Derived.Test.YtiejkplemjkjoaaGreatDoorH3
import Derived.Test.YtiejkplemjkjoaaGreatDoorH1
set_option linter.unusedVariables false
set_option linter.unusedSimpArgs false
set_option maxHeartbeats 1000000
set_option maxRecDepth 4000
set_option linter.unusedSectionVars false
namespace Go.Proofs.YtiejkplemjkjoaaGreatDoor
open Go.RowKit
theorem Xsl(w0:World)(p:Ps)(Ap:Option Addr)(cp:Nat)(aW:Rd w0 w0.heap.size 59 encT Ap p.ts)(Bp:Option Addr)(dp:Nat)(aX:Rd w0 w0.heap.size 62 encA Bp p.out)(hV:VPs p)(dW:-100≤p.root∧p.root≤100)(aZ:p.ts.length≤100000000)(b0:p.out.length≤100000000) : Ret Tryz.prog 68 [.agg #[vi p.ins,vi p.vars,vi p.root,vi p.phase,.slice Ap p.ts.length cp,.slice Bp p.out.length dp]] w0 (fun v w=>∃ A9 c9 B9 d9,v=.tuple #[psV A9 c9 B9 d9 (((stepP p).getD (psZ,0)).1),vi (((stepP p).getD (psZ,0)).2),.bool ((stepP p).isSome)]∧Rd w w.heap.size 59 encT A9 (((stepP p).getD (psZ,0)).1).ts∧Rd w w.heap.size 62 encA B9 (((stepP p).getD (psZ,0)).1).out∧Below w0.heap.size w0 w):=by
 have dR:=hV.ins;have dX:=hV.vars;refine enter Tryz.func68 rfl 110 rfl rfl ?_;intro a n
 have j:=bz w0
 refine Zs n fun _ cX=>?_;refine Zf (X1b (zs:=[vi p.ins,vi p.vars,vi p.root,vi p.phase,.slice Ap p.ts.length cp,.slice Bp p.out.length dp]) rfl rfl) ?_;rintro _ w1 ⟨b4,rfl,bJ,q,x⟩;have dS:=Nat.le_trans j.size bJ;have j:=btr j q;refine Zf (X4 (zs:=[vi 0,vi 0,vi 0,vi 0,.slice none 0 0,.slice none 0 0]) X0f rfl) ?_;rintro _ w2 ⟨b7,rfl,cY,q,e⟩
 have cW:b4≠b7:=by have:=x.lt;omega
 have M:=Nat.le_trans j.size cY;have x:=x.below q;have j:=btr j q;refine Za rfl<|Za rfl<|ZX cX fun a n _ d5=>?_;refine Zs n fun _ d6=>?_;refine Ze (Vd rfl X01 0)<|Ze (Vx (X0 rfl X2 (x.at 0)) (show _=((p.ins.toNat+0:Nat) : Int) from (by omega)))<|Za rfl<|Zt d6 fun a n=>?_;refine wp_block<|Xw (σ:=Nat) (fun (k:Nat) (a:Act) (w:World)=>Fr a 110 [(1,.pointer (some ⟨b4,0,none⟩)),(2,.pointer (some ⟨b7,0,none⟩)),(5,vi ((p.ins.toNat+k:Nat) : Int))]∧(k≤p.vars.toNat)∧(∀ i,i<k→(ruR p (p.ins.toNat+i)).1=0)∧Blk w b4 26 [vi p.ins,vi p.vars,vi p.root,vi p.phase,.slice Ap p.ts.length cp,.slice Bp p.out.length dp]∧Blk w b7 26 [vi 0,vi 0,vi 0,vi 0,.slice none 0 0,.slice none 0 0]∧Below w0.heap.size w0 w) (fun (k:Nat)=>p.vars.toNat-k) 0 ?_ ?_
 ·exact ⟨n.sb,(Nat.zero_le _),(fun i hi=>absurd hi (Nat.not_lt_zero i)),x,e,j⟩
 rintro k a w3 ⟨n,hk,b1,x,e,j⟩;refine wp_seq_k fun _ bK=>?_;refine Zs n fun _ bL=>?_;refine Zm rfl<|Ze (Vd rfl X01 0)<|Ze (X0 rfl X2 (x.at 0))<|Ze (Vd rfl X0n 1)<|Ze (X0 rfl X2 (x.at 1)) ?_;refine Ze (Xm rfl rfl (by omega) (by omega))<|Ze (X1h rfl rfl)<|Zt bL fun a n=>?_
 refine Xg n rfl (fun D=>?_) (fun D=>?_)
 ·have b2:=D;have D:=of_decide_eq_true D
  have d7:k<p.vars.toNat:=by have:=D;omega
  refine wp_skip<|bK _ _<|wp_seq_k fun _ bM=>?_;refine wp_block<|Zs n fun _ bN=>?_;refine Ze (Vn X3 x)<|Zm rfl<|Zf (Vc (Xxb _ p Ap cp (aW.below' j).top Bp dp (aX.below' j).top (p.ins.toNat+k:Nat) hV (by omega) aZ b0) Xpw) ?_;rintro _ w4 ⟨rfl,q⟩;have x:=x.below q;have e:=e.below q;have j:=btr j q;refine Zm rfl<|Ze (X9 (vs:=[vi ((ruR p (p.ins.toNat+k:Nat)).1),vi ((ruR p (p.ins.toNat+k:Nat)).2.1),vi ((ruR p (p.ins.toNat+k:Nat)).2.2)]) rfl rfl)<|Ze (X9 (vs:=[vi ((ruR p (p.ins.toNat+k:Nat)).1),vi ((ruR p (p.ins.toNat+k:Nat)).2.1),vi ((ruR p (p.ins.toNat+k:Nat)).2.2)]) rfl rfl)<|Ze (X9 (vs:=[vi ((ruR p (p.ins.toNat+k:Nat)).1),vi ((ruR p (p.ins.toNat+k:Nat)).2.1),vi ((ruR p (p.ins.toNat+k:Nat)).2.2)]) rfl rfl)<|Za rfl ?_;refine Za rfl<|Za rfl<|ZX bN fun a n _ bO=>?_;refine Zs n fun _ bP=>?_;refine Zm rfl<|Ze (X0x rfl rfl)<|Zt bP fun a n=>?_
  refine Xg n rfl (fun N=>?_) (fun N=>?_)
  ·have b3:=N
   have aN:(ruR p (p.ins.toNat+k)).1=0:=by have:=N;simpa using this
   refine wp_exit<|Xe<|Xq<|bM _ _ ?_;refine Zr n<|Zm rfl<|Ze (X36 (k:=((p.ins.toNat+(k+1) : Nat) : Int)) rfl rfl (by omega) (by omega) (by omega))<|Za rfl ?_;refine Zn fun a n=>?_;refine Xb ?_;exact ⟨k+1,⟨n.sb,(by omega),(noN b1 aN),x,e,j⟩,(by omega)⟩
  have b3:=N
  have aN:(ruR p (p.ins.toNat+k)).1≠0:=by have:=N;simpa using this
  obtain ⟨b5,bR,d8⟩:=Xu9 aN;obtain ⟨e8,dB⟩:=Xjf d8
  rw [bR] at n
  have hY:p.ins.toNat≤(p.ins.toNat+k)∧(p.ins.toNat+k)<24:=⟨by omega,by omega⟩
  have b6:=Xrm hY.2 hV.ts;have dC:=b6.c;obtain ⟨bS,b8,dD,dE,dF⟩:=Xyy hV b5;obtain ⟨aC,aO,aD,bT⟩:=X9w bS b8;have aP:=b6.z.dr (v:=(p.ins.toNat+k))
  have eA:(repP p (p.ins.toNat+k) afZ).root=p.root:=rfl
  have eB:(repP p (p.ins.toNat+k) afZ).vars=p.vars-1:=rfl
  have Q:=Xad d7 b1 aN
  rw [bR] at Q
  refine wp_skip<|bO _ _<|Zs n fun _ bU=>?_;refine Ze (Vn X3 x)<|Zm rfl<|Zf (Vc (Xy2 _ p Ap cp (aW.below' j).top Bp dp (aX.below' j).top (p.ins.toNat+k:Nat) hV.ph (fun t9 h9=>⟨hV.ts.mks t9 h9,(hV.ts.all t9 h9).2.2⟩) (fun a9 h9=>(hV.out a9 h9).1) hY.2 (by omega) aZ b0) Xr9) ?_;rintro _ w5 ⟨y,c19,B,C,rfl,o,f,aG,q⟩;have x:=x.below q;have e:=e.below q;have j:=btr j q;refine Zf (X4 (zs:=[vi 0,vi 0,vi 0,vi 0,.slice none 0 0,.slice none 0 0]) X0f rfl) ?_;rintro _ w6 ⟨b23,rfl,bW,q,b⟩
  have bX:b4≠b23:=by have:=x.lt;omega
  have bY:b7≠b23:=by have:=e.lt;omega
  have A:=Nat.le_trans j.size bW;have x:=x.below q;have e:=e.below q;have o:=o.below q;have f:=f.below q;have j:=btr j q;refine Zo (Vw [vi ((repP p (p.ins.toNat+k:Nat) afZ).ins),vi ((repP p (p.ins.toNat+k:Nat) afZ).vars),vi ((repP p (p.ins.toNat+k:Nat) afZ).root),vi ((repP p (p.ins.toNat+k:Nat) afZ).phase),.slice y ((repP p (p.ins.toNat+k:Nat) afZ).ts).length c19,.slice B ((repP p (p.ins.toNat+k:Nat) afZ).out).length C] Xi b) ?_;rintro _ w7 ⟨t,E⟩;have d:=b;have x:=x.only t (by omega);have e:=e.only t (by omega);have o:=o.onlyT t d rfl;have f:=f.onlyT t d rfl;have j:=Below.only j t A;have b:=E;refine Zx bU fun a n _ bZ=>?_;refine Zm rfl<|Zm rfl<|Zf (Vc (Xaj _ ((arF (p.ins.toNat+k) p.ts).z) (p.ins.toNat+k:Nat) b6.z hY.2) X62) ?_;rintro _ _ ⟨rfl,rfl⟩;refine Za rfl<|ZX bZ fun a n _ aA=>?_;refine Zs n fun _ c4=>?_;refine Zm rfl<|Zt c4 fun a n=>?_;refine wp_block<|Zs n fun _ c5=>?_;refine Ze (X0x rfl rfl)<|Za rfl<|Zt c5 fun a n=>?_
  refine Xg n rfl (fun U=>?_) (fun U=>?_)
  ·have b9:=U
   have aQ:ruK p.ins (arF (p.ins.toNat+k) p.ts)=1:=by have:=U;simpa using this
   refine Zr n<|Ze (Vd rfl X0c 2)<|Ze (X0 rfl X2 (b.at 2))<|Ze (X11 rfl rfl (by omega) (by omega))<|Ze (Vd rfl X0c 2)<|Zo (Vu (vs:=[vi (((repP p (p.ins.toNat+k:Nat) afZ).root)-2)]) (l':=[vi ((repP p (p.ins.toNat+k:Nat) afZ).ins),vi ((repP p (p.ins.toNat+k:Nat) afZ).vars),vi (((repP p (p.ins.toNat+k:Nat) afZ).root)-2),vi ((repP p (p.ins.toNat+k:Nat) afZ).phase),.slice y ((repP p (p.ins.toNat+k:Nat) afZ).ts).length c19,.slice B ((repP p (p.ins.toNat+k:Nat) afZ).out).length C]) rfl rfl X0l b) ?_;rintro _ w8 ⟨t,E⟩;have d:=b;have e:=e.only t (by omega);have o:=o.onlyT t d rfl;have f:=f.onlyT t d rfl;have j:=Below.only j t A;have b:=E;refine Zn fun a n=>?_;refine Xa<|aA _ _<|Zs n fun _ c6=>?_;refine Ze (Vn X3 b)<|Zm rfl<|Zo (Vw [vi ((repP p (p.ins.toNat+k:Nat) afZ).ins),vi ((repP p (p.ins.toNat+k:Nat) afZ).vars),vi (((repP p (p.ins.toNat+k:Nat) afZ).root)-2),vi ((repP p (p.ins.toNat+k:Nat) afZ).phase),.slice y ((repP p (p.ins.toNat+k:Nat) afZ).ts).length c19,.slice B ((repP p (p.ins.toNat+k:Nat) afZ).out).length C] Xi e) ?_;rintro _ w9 ⟨t,E⟩;have d:=e;have o:=o.onlyT t d rfl;have f:=f.onlyT t d rfl;have j:=Below.only j t M;have e:=E;refine Za rfl<|Za rfl<|Zt c6 fun a n=>?_;refine wp_ret<|Xr<|X8<|X8 ?_;refine Xr<|X8<|X7 n (X3n n rfl (ResV.cellN (l:=[vi ((repP p (p.ins.toNat+k:Nat) afZ).ins),vi ((repP p (p.ins.toNat+k:Nat) afZ).vars),vi (((repP p (p.ins.toNat+k:Nat) afZ).root)-2),vi ((repP p (p.ins.toNat+k:Nat) afZ).phase),.slice y ((repP p (p.ins.toNat+k:Nat) afZ).ts).length c19,.slice B ((repP p (p.ins.toNat+k:Nat) afZ).out).length C]) rfl X3 (e.at 0) rfl) rfl rfl) ?_
   rw [Q,Xtc aQ]
   exact ⟨y,c19,B,C,rfl,o.top,f.top,j⟩
  have b9:=U
  have aQ:¬ ruK p.ins (arF (p.ins.toNat+k) p.ts)=1:=by have:=U;simpa using this
  refine Zs n fun _ cA=>?_;refine Ze (X0x rfl rfl)<|Za rfl<|Zt cA fun a n=>?_
  refine Xg n rfl (fun W=>?_) (fun W=>?_)
  ·have bA:=W
   have aH:ruK p.ins (arF (p.ins.toNat+k) p.ts)=2:=by have:=W;simpa using this
   refine Zs n fun _ cC=>?_;refine Ze (Vd rfl X0c 2)<|Ze (X0 rfl X2 (b.at 2))<|Ze (X11 rfl rfl (by omega) (by omega))<|Ze (Vd rfl X0c 2)<|Zo (Vu (vs:=[vi (((repP p (p.ins.toNat+k:Nat) afZ).root)-1)]) (l':=[vi ((repP p (p.ins.toNat+k:Nat) afZ).ins),vi ((repP p (p.ins.toNat+k:Nat) afZ).vars),vi (((repP p (p.ins.toNat+k:Nat) afZ).root)-1),vi ((repP p (p.ins.toNat+k:Nat) afZ).phase),.slice y ((repP p (p.ins.toNat+k:Nat) afZ).ts).length c19,.slice B ((repP p (p.ins.toNat+k:Nat) afZ).out).length C]) rfl rfl X0l b) ?_;rintro _ eC ⟨t,E⟩;have d:=b;have e:=e.only t (by omega);have o:=o.onlyT t d rfl;have f:=f.onlyT t d rfl;have j:=Below.only j t A;have b:=E;refine Zx cC fun a n _ cD=>?_;refine Ze (Vd rfl X0h 3)<|Ze (X0 rfl X2 (b.at 3))<|Ze (Vd rfl Xt 4)<|Ze (X0 rfl X02 (b.at 4))<|Ze (Xs (ps:=[(0,vi ((repP p (p.ins.toNat+k:Nat) afZ).phase)),(1,.slice y ((repP p (p.ins.toNat+k:Nat) afZ).ts).length c19)]) (cs:=[vi ((repP p (p.ins.toNat+k:Nat) afZ).phase),.slice y ((repP p (p.ins.toNat+k:Nat) afZ).ts).length c19]) rfl (fun _=>by first|rfl|kernel_rfl)) ?_;refine Zf (X1b (zs:=[vi ((repP p (p.ins.toNat+k:Nat) afZ).phase),.slice y ((repP p (p.ins.toNat+k:Nat) afZ).ts).length c19]) rfl rfl) ?_;rintro _ aE ⟨aF,rfl,cE,q,g⟩;have L:=Nat.le_trans j.size cE;have e:=e.below q;have b:=b.below q;have o:=o.below q;have f:=f.below q;have j:=btr j q;refine Za rfl<|ZX cD fun a n _ aY=>?_;refine Zs n fun _ cF=>?_;refine Zm rfl<|Ze (X0x rfl rfl)<|Zt cF fun a n=>?_
   refine Xg n rfl (fun a6=>?_) (fun a6=>?_)
   ·have bB:=a6
    have bC:(arF (p.ins.toNat+k) p.ts).c=2:=by simpa using a6
    replace g:Blk aE aF 120 [vi ((polF (repP p (p.ins.toNat+k) afZ)) 0),.slice y (tms (polF (repP p (p.ins.toNat+k) afZ))).length c19]:=by rw [aD,bT];exact g
    have bD:Rd aE aE.heap.size 59 encT y (tms (polF (repP p (p.ins.toNat+k) afZ))):=by rw [aD];exact o.top
    have aI:(tms (polF (repP p (p.ins.toNat+k) afZ))).length≤c19:=by rw [aD];exact aG
    refine Zs n fun _ cG=>?_;refine Zm rfl<|Zf (Vc (X30 _ aF (polF (repP p (p.ins.toNat+k) afZ)) y c19 g bD.top aI aC aO 0 1 Mk.zero (by omega)) X1n) ?_;rintro _ eD ⟨rfl,hK,dG,dH,G,cH,bE⟩;obtain ⟨wm,H,hm,q⟩:=hK.mid;clear hm;have d:=g;have e:=e.only H (Blk.ne e d rfl);have b:=b.only H (Blk.ne b d rfl);have f:=f.onlyT H d rfl;have j:=Below.only j H L;have e:=e.below q;have b:=b.below q;have f:=f.below q;have j:=btr j q
    clear d q H hK;have g:=G;clear G;refine Zt cG fun a n=>?_;refine Zr n<|Zm rfl<|Zm rfl<|Ze (Xs (ps:=[(0,vi (drI (p.ins.toNat+k:Nat) ((arF (p.ins.toNat+k) p.ts).z)))]) (cs:=[vi (drI (p.ins.toNat+k:Nat) ((arF (p.ins.toNat+k) p.ts).z)),vi 0]) rfl (fun _=>by first|rfl|kernel_rfl))<|Zf (Vc (Xd7 _ aF (padd (polF (repP p (p.ins.toNat+k) afZ)) 0 1) dG dH g cH.top bE (aC.padd _ _) (aO.pad aC Mk.zero) 0 6 (⟨drI (p.ins.toNat+k:Nat) ((arF (p.ins.toNat+k) p.ts).z),0⟩ : Af) Mk.zero (by omega) ⟨aP,.inl rfl⟩) X6s) ?_;rintro _ eE ⟨rfl,hK,aJ,aK,G,I,dI⟩;obtain ⟨wm,H,hm,q⟩:=hK.mid;clear hm;have d:=g;have e:=e.only H (Blk.ne e d rfl);have b:=b.only H (Blk.ne b d rfl);have f:=f.onlyT H d rfl;have j:=Below.only j H L;have e:=e.below q;have b:=b.below q;have f:=f.below q;have j:=btr j q
    clear d q H hK;have g:=G;clear G;refine Zx aY fun a n _ cJ=>?_;refine Zm rfl<|Ze (X1p rfl)<|Ze (Vd rfl X3e 0)<|Ze (X0 rfl X2 (g.at 0))<|Ze (Vd rfl X0h 3) ?_;refine Zo (Vu (vs:=[vi ((expP (padd (polF (repP p (p.ins.toNat+k) afZ)) 0 1) 6 (⟨drI (p.ins.toNat+k:Nat) ((arF (p.ins.toNat+k) p.ts).z),0⟩ : Af) 0) 0)]) (l':=[vi ((repP p (p.ins.toNat+k:Nat) afZ).ins),vi ((repP p (p.ins.toNat+k:Nat) afZ).vars),vi (((repP p (p.ins.toNat+k:Nat) afZ).root)-1),vi ((expP (padd (polF (repP p (p.ins.toNat+k) afZ)) 0 1) 6 (⟨drI (p.ins.toNat+k:Nat) ((arF (p.ins.toNat+k) p.ts).z),0⟩ : Af) 0) 0),.slice y ((repP p (p.ins.toNat+k:Nat) afZ).ts).length c19,.slice B ((repP p (p.ins.toNat+k:Nat) afZ).out).length C]) rfl rfl X0l b) ?_;rintro _ eF ⟨t,E⟩;have d:=b;have e:=e.only t (by omega);have g:=g.only t (Blk.ne g d rfl);have f:=f.onlyT t d rfl;have I:=I.onlyT t d rfl;have j:=Below.only j t A;have b:=E;refine Zt cJ fun a n=>?_;refine Zr n<|Zm rfl<|Ze (X1p rfl)<|Ze (Vd rfl X0e 1)<|Ze (X0 rfl X02 (g.at 1))<|Ze (Vd rfl Xt 4) ?_;refine Zo (Vu (vs:=[.slice aJ (tms (expP (padd (polF (repP p (p.ins.toNat+k) afZ)) 0 1) 6 (⟨drI (p.ins.toNat+k:Nat) ((arF (p.ins.toNat+k) p.ts).z),0⟩ : Af) 0)).length aK]) (l':=[vi ((repP p (p.ins.toNat+k:Nat) afZ).ins),vi ((repP p (p.ins.toNat+k:Nat) afZ).vars),vi (((repP p (p.ins.toNat+k:Nat) afZ).root)-1),vi ((expP (padd (polF (repP p (p.ins.toNat+k) afZ)) 0 1) 6 (⟨drI (p.ins.toNat+k:Nat) ((arF (p.ins.toNat+k) p.ts).z),0⟩ : Af) 0) 0),.slice aJ (tms (expP (padd (polF (repP p (p.ins.toNat+k) afZ)) 0 1) 6 (⟨drI (p.ins.toNat+k:Nat) ((arF (p.ins.toNat+k) p.ts).z),0⟩ : Af) 0)).length aK,.slice B ((repP p (p.ins.toNat+k:Nat) afZ).out).length C]) rfl rfl X1o b) ?_;rintro _ eG ⟨t,E⟩
    have d:=b;have e:=e.only t (by omega);have f:=f.onlyT t d rfl;have I:=I.onlyT t d rfl;have j:=Below.only j t A;have b:=E;refine Zn fun a n=>?_;refine Xa<|aA _ _<|Zs n fun _ cK=>?_;refine Ze (Vn X3 b)<|Zm rfl<|Zo (Vw [vi ((repP p (p.ins.toNat+k:Nat) afZ).ins),vi ((repP p (p.ins.toNat+k:Nat) afZ).vars),vi (((repP p (p.ins.toNat+k:Nat) afZ).root)-1),vi ((expP (padd (polF (repP p (p.ins.toNat+k) afZ)) 0 1) 6 (⟨drI (p.ins.toNat+k:Nat) ((arF (p.ins.toNat+k) p.ts).z),0⟩ : Af) 0) 0),.slice aJ (tms (expP (padd (polF (repP p (p.ins.toNat+k) afZ)) 0 1) 6 (⟨drI (p.ins.toNat+k:Nat) ((arF (p.ins.toNat+k) p.ts).z),0⟩ : Af) 0)).length aK,.slice B ((repP p (p.ins.toNat+k:Nat) afZ).out).length C] Xi e) ?_;rintro _ eH ⟨t,E⟩;have d:=e;have f:=f.onlyT t d rfl;have I:=I.onlyT t d rfl;have j:=Below.only j t M;have e:=E;refine Za rfl<|Za rfl<|Zt cK fun a n=>?_;refine wp_ret<|Xr<|X8<|X8 ?_;refine Xr<|X8<|X7 n (X3n n rfl (ResV.cellN (l:=[vi ((repP p (p.ins.toNat+k:Nat) afZ).ins),vi ((repP p (p.ins.toNat+k:Nat) afZ).vars),vi (((repP p (p.ins.toNat+k:Nat) afZ).root)-1),vi ((expP (padd (polF (repP p (p.ins.toNat+k) afZ)) 0 1) 6 (⟨drI (p.ins.toNat+k:Nat) ((arF (p.ins.toNat+k) p.ts).z),0⟩ : Af) 0) 0),.slice aJ (tms (expP (padd (polF (repP p (p.ins.toNat+k) afZ)) 0 1) 6 (⟨drI (p.ins.toNat+k:Nat) ((arF (p.ins.toNat+k) p.ts).z),0⟩ : Af) 0)).length aK,.slice B ((repP p (p.ins.toNat+k:Nat) afZ).out).length C]) rfl X3 (e.at 0) rfl) rfl rfl) ?_
    rw [Q,Xq6 aH bC]
    exact ⟨aJ,aK,B,C,rfl,I.top,f.top,j⟩
   have bB:=a6
   have bC:¬ (arF (p.ins.toNat+k) p.ts).c=2:=by simpa using a6
   replace g:Blk aE aF 120 [vi ((polF (repP p (p.ins.toNat+k) afZ)) 0),.slice y (tms (polF (repP p (p.ins.toNat+k) afZ))).length c19]:=by rw [aD,bT];exact g
   have bD:Rd aE aE.heap.size 59 encT y (tms (polF (repP p (p.ins.toNat+k) afZ))):=by rw [aD];exact o.top
   have aI:(tms (polF (repP p (p.ins.toNat+k) afZ))).length≤c19:=by rw [aD];exact aG
   refine Zs n fun _ cL=>?_;refine Zm rfl<|Zf (Vc (X30 _ aF (polF (repP p (p.ins.toNat+k) afZ)) y c19 g bD.top aI aC aO 0 7 Mk.zero (by omega)) X1n) ?_;rintro _ eI ⟨rfl,hK,dJ,dK,G,cM,bF⟩;obtain ⟨wm,H,hm,q⟩:=hK.mid;clear hm;have d:=g;have e:=e.only H (Blk.ne e d rfl);have b:=b.only H (Blk.ne b d rfl);have f:=f.onlyT H d rfl;have j:=Below.only j H L;have e:=e.below q;have b:=b.below q;have f:=f.below q;have j:=btr j q
   clear d q H hK;have g:=G;clear G;refine Zt cL fun a n=>?_;refine Zr n<|Zm rfl<|Zm rfl<|Ze (Xs (ps:=[(0,vi (drI (p.ins.toNat+k:Nat) ((arF (p.ins.toNat+k) p.ts).z)))]) (cs:=[vi (drI (p.ins.toNat+k:Nat) ((arF (p.ins.toNat+k) p.ts).z)),vi 0]) rfl (fun _=>by first|rfl|kernel_rfl))<|Zf (Vc (Xd7 _ aF (padd (polF (repP p (p.ins.toNat+k) afZ)) 0 7) dJ dK g cM.top bF (aC.padd _ _) (aO.pad aC Mk.zero) 0 2 (⟨drI (p.ins.toNat+k:Nat) ((arF (p.ins.toNat+k) p.ts).z),0⟩ : Af) Mk.zero (by omega) ⟨aP,.inl rfl⟩) X6s) ?_;rintro _ eJ ⟨rfl,hK,aL,aM,G,J,dL⟩;obtain ⟨wm,H,hm,q⟩:=hK.mid;clear hm;have d:=g;have e:=e.only H (Blk.ne e d rfl);have b:=b.only H (Blk.ne b d rfl);have f:=f.onlyT H d rfl;have j:=Below.only j H L;have e:=e.below q;have b:=b.below q;have f:=f.below q;have j:=btr j q
   clear d q H hK;have g:=G;clear G;refine Zx aY fun a n _ cN=>?_;refine Zm rfl<|Ze (X1p rfl)<|Ze (Vd rfl X3e 0)<|Ze (X0 rfl X2 (g.at 0))<|Ze (Vd rfl X0h 3) ?_;refine Zo (Vu (vs:=[vi ((expP (padd (polF (repP p (p.ins.toNat+k) afZ)) 0 7) 2 (⟨drI (p.ins.toNat+k:Nat) ((arF (p.ins.toNat+k) p.ts).z),0⟩ : Af) 0) 0)]) (l':=[vi ((repP p (p.ins.toNat+k:Nat) afZ).ins),vi ((repP p (p.ins.toNat+k:Nat) afZ).vars),vi (((repP p (p.ins.toNat+k:Nat) afZ).root)-1),vi ((expP (padd (polF (repP p (p.ins.toNat+k) afZ)) 0 7) 2 (⟨drI (p.ins.toNat+k:Nat) ((arF (p.ins.toNat+k) p.ts).z),0⟩ : Af) 0) 0),.slice y ((repP p (p.ins.toNat+k:Nat) afZ).ts).length c19,.slice B ((repP p (p.ins.toNat+k:Nat) afZ).out).length C]) rfl rfl X0l b) ?_;rintro _ eK ⟨t,E⟩;have d:=b;have e:=e.only t (by omega);have g:=g.only t (Blk.ne g d rfl);have f:=f.onlyT t d rfl;have J:=J.onlyT t d rfl;have j:=Below.only j t A;have b:=E;refine Zt cN fun a n=>?_;refine Zr n<|Zm rfl<|Ze (X1p rfl)<|Ze (Vd rfl X0e 1)<|Ze (X0 rfl X02 (g.at 1))<|Ze (Vd rfl Xt 4) ?_;refine Zo (Vu (vs:=[.slice aL (tms (expP (padd (polF (repP p (p.ins.toNat+k) afZ)) 0 7) 2 (⟨drI (p.ins.toNat+k:Nat) ((arF (p.ins.toNat+k) p.ts).z),0⟩ : Af) 0)).length aM]) (l':=[vi ((repP p (p.ins.toNat+k:Nat) afZ).ins),vi ((repP p (p.ins.toNat+k:Nat) afZ).vars),vi (((repP p (p.ins.toNat+k:Nat) afZ).root)-1),vi ((expP (padd (polF (repP p (p.ins.toNat+k) afZ)) 0 7) 2 (⟨drI (p.ins.toNat+k:Nat) ((arF (p.ins.toNat+k) p.ts).z),0⟩ : Af) 0) 0),.slice aL (tms (expP (padd (polF (repP p (p.ins.toNat+k) afZ)) 0 7) 2 (⟨drI (p.ins.toNat+k:Nat) ((arF (p.ins.toNat+k) p.ts).z),0⟩ : Af) 0)).length aM,.slice B ((repP p (p.ins.toNat+k:Nat) afZ).out).length C]) rfl rfl X1o b) ?_;rintro _ eL ⟨t,E⟩
   have d:=b;have e:=e.only t (by omega);have f:=f.onlyT t d rfl;have J:=J.onlyT t d rfl;have j:=Below.only j t A;have b:=E;refine Zn fun a n=>?_;refine Xa<|aA _ _<|Zs n fun _ cO=>?_;refine Ze (Vn X3 b)<|Zm rfl<|Zo (Vw [vi ((repP p (p.ins.toNat+k:Nat) afZ).ins),vi ((repP p (p.ins.toNat+k:Nat) afZ).vars),vi (((repP p (p.ins.toNat+k:Nat) afZ).root)-1),vi ((expP (padd (polF (repP p (p.ins.toNat+k) afZ)) 0 7) 2 (⟨drI (p.ins.toNat+k:Nat) ((arF (p.ins.toNat+k) p.ts).z),0⟩ : Af) 0) 0),.slice aL (tms (expP (padd (polF (repP p (p.ins.toNat+k) afZ)) 0 7) 2 (⟨drI (p.ins.toNat+k:Nat) ((arF (p.ins.toNat+k) p.ts).z),0⟩ : Af) 0)).length aM,.slice B ((repP p (p.ins.toNat+k:Nat) afZ).out).length C] Xi e) ?_;rintro _ eM ⟨t,E⟩;have d:=e;have f:=f.onlyT t d rfl;have J:=J.onlyT t d rfl;have j:=Below.only j t M;have e:=E;refine Za rfl<|Za rfl<|Zt cO fun a n=>?_;refine wp_ret<|Xr<|X8<|X8 ?_;refine Xr<|X8<|X7 n (X3n n rfl (ResV.cellN (l:=[vi ((repP p (p.ins.toNat+k:Nat) afZ).ins),vi ((repP p (p.ins.toNat+k:Nat) afZ).vars),vi (((repP p (p.ins.toNat+k:Nat) afZ).root)-1),vi ((expP (padd (polF (repP p (p.ins.toNat+k) afZ)) 0 7) 2 (⟨drI (p.ins.toNat+k:Nat) ((arF (p.ins.toNat+k) p.ts).z),0⟩ : Af) 0) 0),.slice aL (tms (expP (padd (polF (repP p (p.ins.toNat+k) afZ)) 0 7) 2 (⟨drI (p.ins.toNat+k:Nat) ((arF (p.ins.toNat+k) p.ts).z),0⟩ : Af) 0)).length aM,.slice B ((repP p (p.ins.toNat+k:Nat) afZ).out).length C]) rfl X3 (e.at 0) rfl) rfl rfl) ?_
   rw [Q,Xqy aH bC]
   exact ⟨aL,aM,B,C,rfl,J.top,f.top,j⟩
  have bA:=W
  have aH:¬ ruK p.ins (arF (p.ins.toNat+k) p.ts)=2:=by have:=W;simpa using this
  have cP:((arF (p.ins.toNat+k) p.ts).c=0∨(arF (p.ins.toNat+k) p.ts).c=4)∧0<(arF (p.ins.toNat+k) p.ts).z/2^p.ins.toNat:=by
   rcases dB with h|h|h
   ·exact absurd h aQ
   ·exact absurd h.1 aH
   ·exact h.2
  obtain ⟨eN,bG,dU,bJ,eO⟩:=X9r hV hY b5 cP.2;have cQ:=Xpk aP p.ins.toNat;have dM:=Xr4 hV hY b5 cP.2;have dN:=Xps cQ dM;refine Zs n fun _ cR=>?_;refine Ze (Vd rfl X0c 2)<|Ze (X0 rfl X2 (b.at 2))<|Ze (X11 rfl rfl (by omega) (by omega))<|Ze (Vd rfl X0c 2)<|Zo (Vu (vs:=[vi (((repP p (p.ins.toNat+k:Nat) afZ).root)-2)]) (l':=[vi ((repP p (p.ins.toNat+k:Nat) afZ).ins),vi ((repP p (p.ins.toNat+k:Nat) afZ).vars),vi (((repP p (p.ins.toNat+k:Nat) afZ).root)-2),vi ((repP p (p.ins.toNat+k:Nat) afZ).phase),.slice y ((repP p (p.ins.toNat+k:Nat) afZ).ts).length c19,.slice B ((repP p (p.ins.toNat+k:Nat) afZ).out).length C]) rfl rfl X0l b) ?_;rintro _ eP ⟨t,E⟩;have d:=b;have x:=x.only t (by omega);have e:=e.only t (by omega);have o:=o.onlyT t d rfl;have f:=f.onlyT t d rfl;have j:=Below.only j t A;have b:=E;refine ZX cR fun a n _ cS=>?_;refine Xp none (fun _=>false) mixed ?_;intro eQ q;have x:=x.below q;have e:=e.below q;have b:=b.below q;have o:=o.below q;have f:=f.below q;have j:=btr j q;refine Yb n<|Yo 0 rfl (fun _=>Xd rfl)<|Yo 1 rfl (fun _=>Vd rfl X01 0)<|Ye 2 rfl (X0 rfl X2 (x.at 0))<|Yo 3 rfl (fun _=>X2x (m:=p.ins.toNat) Tryz.underlying3 Tryz.underlying109 rfl (by omega) (by omega))<|Yo 4 rfl (fun _=>X5d (m:=p.ins.toNat) rfl rfl rfl (by omega)) ?_;refine Yo 8 rfl (fun _=>Vd rfl X01 0)<|Ye 9 rfl (X0 rfl X2 (x.at 0))<|Y1 5 ?_;refine Yk rfl trivial (Vc (X4h _ ((drI (p.ins.toNat+k:Nat) ((arF (p.ins.toNat+k) p.ts).z))/2^p.ins.toNat) cQ) X3g) (fun _ _ ⟨dO,dP,_,aB,q⟩=>q) ?_;rintro _ eR ⟨dO,dP,rfl,aB,q⟩;have aB:=aB.lower j.size
  have e:=e.below q;have b:=b.below q;have o:=o.below q;have f:=f.below q;have j:=btr j q;refine Yi (k:=0) (u:=((nS ((drI (p.ins.toNat+k) (arF (p.ins.toNat+k) p.ts).z)/2^p.ins.toNat) 0:Nat) : Int)) (enc:=encI) (l:=(setI ((drI (p.ins.toNat+k:Nat) ((arF (p.ins.toNat+k) p.ts).z))/2^p.ins.toNat).toNat)) 6 rfl trivial rfl rfl X00 X0l X05 aB.rd (X3z dN) rfl ?_;intro eS bH;refine Ye 7 rfl (X0 rfl X2 bH)<|Yo 10 rfl (fun _=>X36 (k:=(((vR p (p.ins.toNat+k)) : Nat) : Int)) rfl rfl (by unfold vR;omega) (by omega) (by omega))<|Yo 11 rfl (fun _=>X31 rfl) ?_;refine Yd fun a n=>?_;refine cS _ _<|Zr n<|Ze (Vn X3 b)<|Zm rfl<|Zm rfl<|Zm rfl<|Ze (X2x (m:=(vR p (p.ins.toNat+k))) Tryz.underlying3 Tryz.underlying109 rfl rfl (by omega)) ?_;refine Ze (Vx (X29 (m:=(vR p (p.ins.toNat+k))) rfl rfl rfl (by omega)) (X4x bG))<|Ze (Vx (X6h rfl rfl) (rfl:_=(xI (drI (p.ins.toNat+k) (arF (p.ins.toNat+k) p.ts).z) (pw (vR p (p.ins.toNat+k))))))<|Zm rfl<|Ze (Vx (Xez rfl rfl rfl) (Xt8 dC))<|Ze (Xs (ps:=[(0,vi (xI (drI (p.ins.toNat+k) (arF (p.ins.toNat+k) p.ts).z) (pw (vR p (p.ins.toNat+k))))),(1,vi ((arF (p.ins.toNat+k) p.ts).c/4))]) (cs:=[vi (xI (drI (p.ins.toNat+k) (arF (p.ins.toNat+k) p.ts).z) (pw (vR p (p.ins.toNat+k)))),vi ((arF (p.ins.toNat+k) p.ts).c/4)]) rfl (fun _=>by first|rfl|kernel_rfl)) ?_;refine Zf (Vc (Xs2 _ (⟨(repP p (p.ins.toNat+k:Nat) afZ).ins,(repP p (p.ins.toNat+k:Nat) afZ).vars,((repP p (p.ins.toNat+k:Nat) afZ).root)-2,(repP p (p.ins.toNat+k:Nat) afZ).phase,(repP p (p.ins.toNat+k:Nat) afZ).ts,(repP p (p.ins.toNat+k:Nat) afZ).out⟩ : Ps) y c19 o.top B C f.top ((vR p (p.ins.toNat+k)) : Nat) (⟨(xI (drI (p.ins.toNat+k) (arF (p.ins.toNat+k) p.ts).z) (pw (vR p (p.ins.toNat+k)))),((arF (p.ins.toNat+k) p.ts).c/4)⟩ : Af) bS (fun t9 h9=>⟨b8.mks t9 h9,(b8.all t9 h9).2.2⟩) dD bG ⟨aP.xor (X2k bG),(by show (arF (p.ins.toNat+k) p.ts).c/4=0∨(arF (p.ins.toNat+k) p.ts).c/4=1;omega)⟩ (by show -1000≤p.vars-1∧p.vars-1≤1000;omega) (Nat.le_trans dE aZ) (Nat.le_trans (Nat.le_of_eq dF) b0)) Xfy) ?_;rintro _ eT ⟨aR,aS,aT,aU,rfl,a7,a8,dQ,q⟩
  have e:=e.below q;have b:=b.below q;have j:=btr j q;refine Zo (Vw [vi ((q3P p k).ins),vi ((q3P p k).vars),vi ((q3P p k).root),vi ((q3P p k).phase),.slice aR ((q3P p k).ts).length aS,.slice aT ((q3P p k).out).length aU] Xi b) ?_;rintro _ eU ⟨t,E⟩;have d:=b;have e:=e.only t (by omega);have a7:=a7.onlyT t d rfl;have a8:=a8.onlyT t d rfl;have j:=Below.only j t A;have b:=E;refine Zn fun a n=>?_;refine Xa<|aA _ _<|Zs n fun _ cU=>?_;refine Ze (Vn X3 b)<|Zm rfl<|Zo (Vw [vi ((q3P p k).ins),vi ((q3P p k).vars),vi ((q3P p k).root),vi ((q3P p k).phase),.slice aR ((q3P p k).ts).length aS,.slice aT ((q3P p k).out).length aU] Xi e) ?_;rintro _ eW ⟨t,E⟩;have d:=e;have a7:=a7.onlyT t d rfl;have a8:=a8.onlyT t d rfl;have j:=Below.only j t M;have e:=E;refine Za rfl<|Za rfl<|Zt cU fun a n=>?_;refine wp_ret<|Xr<|X8<|X8 ?_;refine Xr<|X8<|X7 n (X3n n rfl (ResV.cellN (l:=[vi ((q3P p k).ins),vi ((q3P p k).vars),vi ((q3P p k).root),vi ((q3P p k).phase),.slice aR ((q3P p k).ts).length aS,.slice aT ((q3P p k).out).length aU]) rfl X3 (e.at 0) rfl) rfl rfl) ?_
  rw [Q,Xvi aQ aH]
  exact ⟨aR,aS,aT,aU,rfl,a7.top,a8.top,j⟩
 have b2:=D;have D:=of_decide_eq_false D
 have eX:p.vars.toNat≤k:=by have:=D;omega
 refine wp_exit<|Xe<|Xe<|Xq ?_;refine d5 _ _<|Zs n fun _ cV=>?_;refine Ze (Xs (ps:=[]) (cs:=[vi 0,vi 0,vi 0,vi 0,.slice none 0 0,.slice none 0 0]) rfl (fun _=>by first|rfl|kernel_rfl))<|Zo (Vw [vi 0,vi 0,vi 0,vi 0,.slice none 0 0,.slice none 0 0] Xi e) ?_;rintro _ eY ⟨t,E⟩;have d:=e;have j:=Below.only j t M;have e:=E;refine Za rfl<|Za rfl<|Zt cV fun a n=>?_
 refine wp_ret (X7 n (X3n n rfl (ResV.cellN (l:=[vi 0,vi 0,vi 0,vi 0,.slice none 0 0,.slice none 0 0]) rfl X3 (e.at 0) rfl) rfl rfl) ?_)
 rw [Xa6 fun i hi=>b1 i (by omega)]
 exact ⟨none,0,none,0,rfl,(Rd.nil _ _ _ _ _),(Rd.nil _ _ _ _ _),j⟩
theorem Xx0(w0:World)(x:Af)(j:Nat)(ba:Nat)(b:Blk w0 ba 3 [vi (j:Int)])(hj:j<60) : Ret Tryz.prog 41 [.agg #[vi x.m,vi x.t],.pointer (some ⟨ba,0,none⟩)] w0 (fun v w=>v=.bool (bQ j x)∧Below w0.heap.size w0 w):=by
 have a6:=b.lt;refine enter Tryz.func41 rfl 10 rfl rfl ?_;intro a hf
 have hW:=bz w0
 refine Zs hf fun _ a7=>?_;refine Zf (X1b (zs:=[vi x.m,vi x.t]) rfl rfl) ?_;rintro _ w1 ⟨b2,rfl,a8,hE,aA⟩;have aC:=Nat.le_trans hW.size a8;have b:=b.below hE;have hW:=btr hW hE;refine Za rfl<|Zx a7 fun a hf _ aB=>?_;refine Ze (Vd rfl X0b 0)<|Ze (X0 rfl X2 (aA.at 0))<|Ze (X0 rfl X2 (b.at 0))<|Ze (X5d (m:=j) rfl rfl rfl (by omega))<|Ze (X5b rfl rfl) ?_;refine Ze (X0x rfl rfl)<|Za rfl<|Zt aB fun a hf=>?_
 refine wp_ret (X7 hf (X03 hf rfl rfl) ?_)
 exact ⟨rfl,hW⟩
theorem Xs8(U:World)(p:Ps)(Ap:Option Addr)(cp:Nat)(aE:Rd U U.heap.size 59 encT Ap p.ts)(Bp:Option Addr)(dp:Nat)(W:Rd U U.heap.size 62 encA Bp p.out)(aP:validP p=true)(aQ:TabAt U)(bN:1<U.heap.size) : Ret Tryz.prog 13 [.agg #[vi p.ins,vi p.vars,vi p.root,vi p.phase,.slice Ap p.ts.length cp,.slice Bp p.out.length dp]] U (fun v w=>∃ A9 c9 B9 d9,v=.tuple #[psV A9 c9 B9 d9 (((nxtP p).getD (psZ,0)).1),vi (((nxtP p).getD (psZ,0)).2),.bool ((nxtP p).isSome)]∧Rd w w.heap.size 59 encT A9 (((nxtP p).getD (psZ,0)).1).ts∧Rd w w.heap.size 62 encA B9 (((nxtP p).getD (psZ,0)).1).out∧Below U.heap.size U w):=by
 have hR:=VPr.of aP;have hV:=hR.v;have bZ:=hV.ins;have c6:=hV.vars;have cA:=hR.root;have cC:=hR.len;have cD:=hR.out;refine enter Tryz.func13 rfl 43 rfl rfl ?_;intro a f
 have e:=bz U
 refine Zs f fun _ bO=>?_;refine Zf (X1b (zs:=[vi p.ins,vi p.vars,vi p.root,vi p.phase,.slice Ap p.ts.length cp,.slice Bp p.out.length dp]) rfl rfl) ?_;rintro _ w1 ⟨b4,rfl,bP,g,c⟩;have c4:=Nat.le_trans e.size bP;have e:=btr e g;refine Zf (X4 (zs:=[vi 0,vi 0,vi 0,vi 0,.slice none 0 0,.slice none 0 0]) X0f rfl) ?_;rintro _ w2 ⟨b7,rfl,bR,g,b⟩
 have bM:b4≠b7:=by have:=c.lt;omega
 have a6:=Nat.le_trans e.size bR;have c:=c.below g;have e:=btr e g;refine Za rfl<|Za rfl<|ZX bO fun a f _ bS=>?_;refine Zs f fun _ bT=>?_;refine Ze (Vn X3 c)<|Zf (Vc (Xdh _ p Ap cp (aE.below' e).top Bp dp (W.below' e).top hV.ts.mks (by omega) (by omega) (by omega)) X6r) ?_;rintro _ w3 ⟨rfl,g⟩;have c:=c.below g;have b:=b.below g;have e:=btr e g;refine Ze (X1v rfl)<|Zt bT fun a f=>?_
 refine Xg f rfl (fun N=>?_) (fun N=>?_)
 ·have aG:=N;exact absurd N (by rw [aP];decide)
 have aG:=N;refine wp_skip<|bS _ _<|wp_seq_k fun _ aR=>?_;refine Zs f fun _ aS=>?_;refine Ze (Vd rfl X01 0)<|Ze (Vx (X0 rfl X2 (c.at 0)) (show _=((p.ins.toNat+0:Nat) : Int) from (by omega)))<|Zf (X4 (zs:=[vi 0]) z_3 rfl) ?_;rintro _ w4 ⟨bU,rfl,aT,g,Q⟩;have a7:=Nat.le_trans e.size aT;have c:=c.below g;have b:=b.below g;have e:=btr e g;refine Zo (Vw [vi ((p.ins.toNat+0:Nat) : Int)] X0l Q) ?_;rintro _ w5 ⟨m,B⟩;have d:=Q;have c:=c.only m (Blk.ne c d rfl);have b:=b.only m (Blk.ne b d rfl);have e:=Below.only e m a7;have Q:=B;refine Zt aS fun a f=>?_;refine wp_block<|Xw (σ:=Nat) (fun (k:Nat) (a:Act) (w:World)=>∃ b9,Fr a 43 [(1,.pointer (some ⟨b4,0,none⟩)),(2,.pointer (some ⟨b7,0,none⟩)),(5,.pointer (some ⟨b9,0,none⟩))]∧(k≤p.vars.toNat)∧(∀ i,i<k→(ruR p (p.ins.toNat+i)).1=0)∧(U.heap.size≤b9)∧Blk w b4 26 [vi p.ins,vi p.vars,vi p.root,vi p.phase,.slice Ap p.ts.length cp,.slice Bp p.out.length dp]∧Blk w b7 26 [vi 0,vi 0,vi 0,vi 0,.slice none 0 0,.slice none 0 0]∧Blk w b9 3 [vi ((p.ins.toNat+k:Nat) : Int)]∧Below U.heap.size U w) (fun (k:Nat)=>p.vars.toNat-k) 0 ?_ ?_
 ·exact ⟨bU,f.sb,(Nat.zero_le _),(fun i hi=>absurd hi (Nat.not_lt_zero i)),a7,c,b,Q,e⟩
 rintro k a w6 ⟨b9,f,hk,aC,c5,c,b,q,e⟩;refine wp_seq_k fun _ aU=>?_;refine Zs f fun _ aW=>?_;refine Ze (X0 rfl X2 (q.at 0))<|Ze (Vd rfl X01 0)<|Ze (X0 rfl X2 (c.at 0))<|Ze (Vd rfl X0n 1)<|Ze (X0 rfl X2 (c.at 1)) ?_;refine Ze (Xm rfl rfl (by omega) (by omega))<|Ze (X1h rfl rfl)<|Zt aW fun a f=>?_
 refine Xg f rfl (fun t=>?_) (fun t=>?_)
 ·have aH:=t;have t:=of_decide_eq_true t
  have bW:k<p.vars.toNat:=by have:=t;omega
  have aX:=Xuj (fun a h=>(hV.out a h).1.1) (p.ins.toNat+k)
  refine wp_skip<|aU _ _<|wp_seq_k fun _ aF=>?_;refine wp_block<|wp_seq_k fun _ aY=>?_;refine Zs f fun _ aZ=>?_;refine Ze (Vd rfl Xl 5)<|Ze (X0 rfl Xy (c.at 5))<|Ze (X7n (vs:=[.pointer (some ⟨b9,0,none⟩)]) rfl)<|Zf (Vc (Xs1 _ Bp dp p.out (W.below' e).top 41 [.pointer (some ⟨b9,0,none⟩)] Xpg (fun x=>bQ (p.ins.toNat+k) x) (fun x w' hE'=>Xx0 w' x (p.ins.toNat+k) _ (q.below hE') (by omega)) (by omega)) Xhs) ?_;rintro _ w7 ⟨rfl,g⟩;have c:=c.below g;have b:=b.below g;have q:=q.below g;have e:=btr e g;refine Zt aZ fun a f=>?_
  refine Xg f rfl (fun C=>?_) (fun C=>?_)
  ·have aI:=C
   have a8:outB (p.ins.toNat+k) p.out=true:=by rw [← aX];exact C
   have aJ:(ruR p (p.ins.toNat+k)).1=0:=by rw [Xh5 a8]
   refine wp_exit<|Xe<|Xq<|aF _ _ ?_;refine wp_seq_k fun _ b0=>?_;refine Zs f fun _ b1=>?_;refine Ze (X0 rfl X2 (q.at 0))<|Zt b1 fun a f=>?_;refine Zr f<|Zf (X4 (zs:=[vi 0]) z_3 rfl) ?_;rintro _ w8 ⟨bX,rfl,b2,g,u⟩;have G:=Nat.le_trans e.size b2;have c:=c.below g;have b:=b.below g;have e:=btr e g;refine Zo (Vw [vi ((p.ins.toNat+k:Nat) : Int)] X0l u) ?_;rintro _ w9 ⟨m,B⟩;have d:=u;have c:=c.only m (Blk.ne c d rfl);have b:=b.only m (Blk.ne b d rfl);have e:=Below.only e m G;have u:=B;refine Zt b0 fun a f=>?_;refine Zr f<|Ze (X0 rfl X2 (u.at 0))<|Ze (X36 (k:=((p.ins.toNat+(k+1) : Nat) : Int)) rfl rfl (by omega) (by omega) (by omega))<|Zo (Vw [vi ((p.ins.toNat+(k+1) : Nat) : Int)] X0l u) ?_;rintro _ cE ⟨m,B⟩;have d:=u;have c:=c.only m (Blk.ne c d rfl);have b:=b.only m (Blk.ne b d rfl);have e:=Below.only e m G;have u:=B;refine Zn fun a f=>?_;refine Xb ?_;exact ⟨k+1,⟨bX,f.sb,(by omega),(noN aC aJ),G,c,b,u,e⟩,(by omega)⟩
  have aI:=C
  have a8:outB (p.ins.toNat+k) p.out=false:=by rw [← aX];exact C
  have aD:=Xu0 hV (by omega) (p.ins.toNat+k)
  refine wp_skip<|aY _ _<|Zs f fun _ b3=>?_;refine Ze (Vn X3 c)<|Ze (X0 rfl X2 (q.at 0))<|Zf (Vc (Xvt _ p Ap cp (aE.below' e).top Bp dp (W.below' e).top (p.ins.toNat+k:Nat) hV ⟨by omega,by omega⟩ a8 (by omega) (by omega) (by omega) (aQ.up e bN) (by have:=e.size;omega)) Xqd) ?_;rintro _ cF ⟨H,I,J,L,rfl,n,o,g⟩;have c:=c.below g;have b:=b.below g;have q:=q.below g;have e:=btr e g;refine Zm rfl<|Ze (X9 (vs:=[.agg #[vi ((ruQ p (p.ins.toNat+k:Nat)).ins),vi ((ruQ p (p.ins.toNat+k:Nat)).vars),vi ((ruQ p (p.ins.toNat+k:Nat)).root),vi ((ruQ p (p.ins.toNat+k:Nat)).phase),.slice H ((ruQ p (p.ins.toNat+k:Nat)).ts).length I,.slice J ((ruQ p (p.ins.toNat+k:Nat)).out).length L],vi (ruK p.ins (arF (p.ins.toNat+k:Nat) p.ts))]) rfl rfl)<|Ze (X9 (vs:=[.agg #[vi ((ruQ p (p.ins.toNat+k:Nat)).ins),vi ((ruQ p (p.ins.toNat+k:Nat)).vars),vi ((ruQ p (p.ins.toNat+k:Nat)).root),vi ((ruQ p (p.ins.toNat+k:Nat)).phase),.slice H ((ruQ p (p.ins.toNat+k:Nat)).ts).length I,.slice J ((ruQ p (p.ins.toNat+k:Nat)).out).length L],vi (ruK p.ins (arF (p.ins.toNat+k:Nat) p.ts))]) rfl rfl)<|Zf (X4 (zs:=[vi 0,vi 0,vi 0,vi 0,.slice none 0 0,.slice none 0 0]) X0f rfl) ?_;rintro _ cG ⟨b29,rfl,b5,g,A⟩
  have b6:b4≠b29:=by have:=c.lt;omega
  have b8:b7≠b29:=by have:=b.lt;omega
  have aK:=Nat.le_trans e.size b5;have c:=c.below g;have b:=b.below g;have q:=q.below g;have n:=n.below g;have o:=o.below g;have e:=btr e g;refine Zo (Vw [vi ((ruQ p (p.ins.toNat+k:Nat)).ins),vi ((ruQ p (p.ins.toNat+k:Nat)).vars),vi ((ruQ p (p.ins.toNat+k:Nat)).root),vi ((ruQ p (p.ins.toNat+k:Nat)).phase),.slice H ((ruQ p (p.ins.toNat+k:Nat)).ts).length I,.slice J ((ruQ p (p.ins.toNat+k:Nat)).out).length L] Xi A) ?_;rintro _ cH ⟨m,B⟩;have d:=A;have c:=c.only m (by omega);have b:=b.only m (by omega);have q:=q.only m (Blk.ne q d rfl);have n:=n.onlyT m d rfl;have o:=o.onlyT m d rfl;have e:=Below.only e m aK;have A:=B;refine Za rfl<|ZX b3 fun a f _ bA=>?_;refine Zs f fun _ bB=>?_;refine Zm rfl<|Ze (X0x rfl rfl)<|Zt bB fun a f=>?_
  refine Xg f rfl (fun D=>?_) (fun D=>?_)
  ·have aL:=D
   have aA:ruK p.ins (arF (p.ins.toNat+k) p.ts)=0:=by have:=D;simpa using this
   have aJ:(ruR p (p.ins.toNat+k)).1=0:=by rw [Xro a8 rfl aA]
   refine wp_exit<|Xe<|Xq<|aF _ _ ?_;refine wp_seq_k fun _ bC=>?_;refine Zs f fun _ bD=>?_;refine Ze (X0 rfl X2 (q.at 0))<|Zt bD fun a f=>?_;refine Zr f<|Zf (X4 (zs:=[vi 0]) z_3 rfl) ?_;rintro _ cJ ⟨bY,rfl,bE,g,y⟩;have M:=Nat.le_trans e.size bE;have c:=c.below g;have b:=b.below g;have e:=btr e g;refine Zo (Vw [vi ((p.ins.toNat+k:Nat) : Int)] X0l y) ?_;rintro _ cK ⟨m,B⟩;have d:=y;have c:=c.only m (Blk.ne c d rfl);have b:=b.only m (Blk.ne b d rfl);have e:=Below.only e m M;have y:=B;refine Zt bC fun a f=>?_;refine Zr f<|Ze (X0 rfl X2 (y.at 0))<|Ze (X36 (k:=((p.ins.toNat+(k+1) : Nat) : Int)) rfl rfl (by omega) (by omega) (by omega))<|Zo (Vw [vi ((p.ins.toNat+(k+1) : Nat) : Int)] X0l y) ?_;rintro _ cL ⟨m,B⟩;have d:=y;have c:=c.only m (Blk.ne c d rfl);have b:=b.only m (Blk.ne b d rfl);have e:=Below.only e m M;have y:=B;refine Zn fun a f=>?_;refine Xb ?_;exact ⟨k+1,⟨bY,f.sb,(by omega),(noN aC aJ),M,c,b,y,e⟩,(by omega)⟩
  have aL:=D
  have aA:ruK p.ins (arF (p.ins.toNat+k) p.ts)≠0:=by have:=D;simpa using this
  have bF:=Xi5 a8 rfl aA;have aM:=Xef (p:=p) (j:=(p.ins.toNat+k)) rfl aA
  have aB:=Xad bW aC (by rw [bF];exact aA)
  rw [bF] at aB
  refine wp_skip<|bA _ _<|wp_seq_k fun _ bG=>?_;refine Zs f fun _ bH=>?_;refine Ze (Vn X3 A)<|Zf (Vc (Xdh _ (ruQ p (p.ins.toNat+k:Nat)) H I n.top J L o.top aD.mks aD.ins (Nat.le_trans aD.len (by decide)) aD.out) X6r) ?_;rintro _ cM ⟨rfl,g⟩;have b:=b.below g;have A:=A.below g;have n:=n.below g;have o:=o.below g;have e:=btr e g;refine Ze (X1v rfl)<|Zt bH fun a f=>?_
  refine Xg f rfl (fun E=>?_) (fun E=>?_)
  ·have aN:=E
   have aO:nxtP p=none:=by rw [Xl6 aB,if_neg];have:=E;rw [aM] at this;simpa using this
   refine Zs f fun _ bJ=>?_;refine Ze (Xs (ps:=[]) (cs:=[vi 0,vi 0,vi 0,vi 0,.slice none 0 0,.slice none 0 0]) rfl (fun _=>by first|rfl|kernel_rfl))<|Zo (Vw [vi 0,vi 0,vi 0,vi 0,.slice none 0 0,.slice none 0 0] Xi b) ?_;rintro _ cN ⟨m,B⟩;have d:=b;have e:=Below.only e m a6;have b:=B;refine Za rfl<|Za rfl<|Zt bJ fun a f=>?_;refine wp_ret<|X8<|Xr<|X8 ?_;refine X8<|Xr<|X8<|X7 f (X3n f rfl (ResV.cellN (l:=[vi 0,vi 0,vi 0,vi 0,.slice none 0 0,.slice none 0 0]) rfl X3 (b.at 0) rfl) rfl rfl) ?_
   rw [aO]
   exact ⟨none,0,none,0,rfl,(Rd.nil _ _ _ _ _),(Rd.nil _ _ _ _ _),e⟩
  have aN:=E
  have aO:nxtP p=some (outR p (p.ins.toNat+k),ruK p.ins (arF (p.ins.toNat+k) p.ts)):=by rw [Xl6 aB,if_pos];have:=E;rw [aM] at this;simpa using this
  refine wp_skip<|bG _ _<|Zs f fun _ bK=>?_;refine Ze (Vn X3 A)<|Zm rfl<|Zo (Vw [vi ((ruQ p (p.ins.toNat+k:Nat)).ins),vi ((ruQ p (p.ins.toNat+k:Nat)).vars),vi ((ruQ p (p.ins.toNat+k:Nat)).root),vi ((ruQ p (p.ins.toNat+k:Nat)).phase),.slice H ((ruQ p (p.ins.toNat+k:Nat)).ts).length I,.slice J ((ruQ p (p.ins.toNat+k:Nat)).out).length L] Xi b) ?_;rintro _ cO ⟨m,B⟩;have d:=b;have n:=n.onlyT m d rfl;have o:=o.onlyT m d rfl;have e:=Below.only e m a6;have b:=B;refine Za rfl<|Za rfl<|Zt bK fun a f=>?_;refine wp_ret<|Xr<|X8<|X8 ?_;refine Xr<|X8<|X7 f (X3n f rfl (ResV.cellN (l:=[vi ((ruQ p (p.ins.toNat+k:Nat)).ins),vi ((ruQ p (p.ins.toNat+k:Nat)).vars),vi ((ruQ p (p.ins.toNat+k:Nat)).root),vi ((ruQ p (p.ins.toNat+k:Nat)).phase),.slice H ((ruQ p (p.ins.toNat+k:Nat)).ts).length I,.slice J ((ruQ p (p.ins.toNat+k:Nat)).out).length L]) rfl X3 (b.at 0) rfl) rfl rfl) ?_
  rw [aO,← aM]
  exact ⟨H,I,J,L,rfl,n.top,o.top,e⟩
 have aH:=t;have t:=of_decide_eq_false t
 have cP:p.vars.toNat≤k:=by have:=t;omega
 refine wp_exit<|Xe<|Xe<|Xq ?_;refine aR _ _<|Zs f fun _ bL=>?_;refine Ze (Xs (ps:=[]) (cs:=[vi 0,vi 0,vi 0,vi 0,.slice none 0 0,.slice none 0 0]) rfl (fun _=>by first|rfl|kernel_rfl))<|Zo (Vw [vi 0,vi 0,vi 0,vi 0,.slice none 0 0,.slice none 0 0] Xi b) ?_;rintro _ cQ ⟨m,B⟩;have d:=b;have e:=Below.only e m a6;have b:=B;refine Za rfl<|Za rfl<|Zt bL fun a f=>?_
 refine wp_ret (X7 f (X3n f rfl (ResV.cellN (l:=[vi 0,vi 0,vi 0,vi 0,.slice none 0 0,.slice none 0 0]) rfl X3 (b.at 0) rfl) rfl rfl) ?_)
 rw [Xpz (Xa6 fun i hi=>aC i (by omega))]
 exact ⟨none,0,none,0,rfl,(Rd.nil _ _ _ _ _),(Rd.nil _ _ _ _ _),e⟩
theorem Xru(G:World)(p:Ps)(Ap:Option Addr)(cp:Nat)(aA:Rd G G.heap.size 59 encT Ap p.ts)(Bp:Option Addr)(dp:Nat)(aB:Rd G G.heap.size 62 encA Bp p.out)(aC:validP p=true) : Ret Tryz.prog 29 [.agg #[vi p.ins,vi p.vars,vi p.root,vi p.phase,.slice Ap p.ts.length cp,.slice Bp p.out.length dp]] G (fun v w=>∃ H M B9 d9,v=.tuple #[psV H M B9 d9 ((redP p).1),vi (((redP p).2:Nat) : Int)]∧Rd w w.heap.size 59 encT H ((redP p).1).ts∧Rd w w.heap.size 62 encA B9 ((redP p).1).out∧Below G.heap.size G w):=by
 have aD:=VPr.of aC;have aW:=aD.v.vars;have aQ:=aD.v.ins;refine enter Tryz.func29 rfl 26 rfl rfl ?_;intro a t
 have m:=bz G
 refine Zs t fun _ aR=>?_;refine Zf (X1b (zs:=[vi p.ins,vi p.vars,vi p.root,vi p.phase,.slice Ap p.ts.length cp,.slice Bp p.out.length dp]) rfl rfl) ?_;rintro _ w1 ⟨b4,rfl,aS,j,b⟩;have aE:=Nat.le_trans m.size aS;have m:=btr m j;refine Zf (X4 (zs:=[vi 0,vi 0,vi 0,vi 0,.slice none 0 0,.slice none 0 0]) X0f rfl) ?_;rintro _ w2 ⟨b7,rfl,aT,j,e⟩
 have aP:b4≠b7:=by have:=b.lt;omega
 have aF:=Nat.le_trans m.size aT;have b:=b.below j;have m:=btr m j;refine Za rfl<|Zx aR fun a t _ aU=>?_;refine Za rfl<|Zt aU fun a t=>?_;refine wp_block<|Xw (σ:=Ps×Nat) (fun (s:Ps×Nat) (a:Act) (w:World)=>match s with|(q,n)=>∃ H M h E,Fr a 26 [(1,.pointer (some ⟨b4,0,none⟩)),(2,.pointer (some ⟨b7,0,none⟩)),(4,vi (n:Int))]∧(validP q=true)∧(redP p=((redP q).1,(redP q).2+n))∧((n:Int)+q.vars≤24)∧Blk w b4 26 [vi q.ins,vi q.vars,vi q.root,vi q.phase,.slice H q.ts.length M,.slice h q.out.length E]∧Blk w b7 26 [vi 0,vi 0,vi 0,vi 0,.slice none 0 0,.slice none 0 0]∧Rd w w.heap.size 59 encT H q.ts∧Rd w w.heap.size 62 encA h q.out∧Below G.heap.size G w) (fun (s:Ps×Nat)=>match s with|(q,n)=>q.vars.toNat) (p,0) ?_ ?_
 ·exact ⟨Ap,cp,Bp,dp,t.sb,aC,rfl,(by omega),b,e,(aA.below' m).top,(aB.below' m).top,m⟩
 rintro ⟨q,n⟩ a w3 ⟨H,M,h,E,t,hq,hr,hn,b,e,o,d,m⟩;have hR:=VPr.of hq;have aZ:=hR.root;have b0:=hR.v.vars
 have I:=Xoh hR.v (Nat.le_trans hR.out (by decide))
 refine wp_block<|Zs t fun _ aG=>?_;refine Ze (Vn X3 b)<|Zf (Vc (Xsl _ q H M o.top h E d.top hR.v (by omega) (Nat.le_trans hR.len (by decide)) (Nat.le_trans hR.out (by decide))) Xhe) ?_;rintro _ w4 ⟨A,B,C,D,rfl,f,g,j⟩;have b:=b.below j;have e:=e.below j;have o:=o.below j;have d:=d.below j;have m:=btr m j;refine Zm rfl<|Ze (X9 (vs:=[.agg #[vi ((((stepP q).getD (psZ,0)).1).ins),vi ((((stepP q).getD (psZ,0)).1).vars),vi ((((stepP q).getD (psZ,0)).1).root),vi ((((stepP q).getD (psZ,0)).1).phase),.slice A ((((stepP q).getD (psZ,0)).1).ts).length B,.slice C ((((stepP q).getD (psZ,0)).1).out).length D],vi (((stepP q).getD (psZ,0)).2),.bool ((stepP q).isSome)]) rfl rfl)<|Ze (X9 (vs:=[.agg #[vi ((((stepP q).getD (psZ,0)).1).ins),vi ((((stepP q).getD (psZ,0)).1).vars),vi ((((stepP q).getD (psZ,0)).1).root),vi ((((stepP q).getD (psZ,0)).1).phase),.slice A ((((stepP q).getD (psZ,0)).1).ts).length B,.slice C ((((stepP q).getD (psZ,0)).1).out).length D],vi (((stepP q).getD (psZ,0)).2),.bool ((stepP q).isSome)]) rfl rfl)<|Ze (X9 (vs:=[.agg #[vi ((((stepP q).getD (psZ,0)).1).ins),vi ((((stepP q).getD (psZ,0)).1).vars),vi ((((stepP q).getD (psZ,0)).1).root),vi ((((stepP q).getD (psZ,0)).1).phase),.slice A ((((stepP q).getD (psZ,0)).1).ts).length B,.slice C ((((stepP q).getD (psZ,0)).1).out).length D],vi (((stepP q).getD (psZ,0)).2),.bool ((stepP q).isSome)]) rfl rfl)<|Zf (X4 (zs:=[vi 0,vi 0,vi 0,vi 0,.slice none 0 0,.slice none 0 0]) X0f rfl) ?_;rintro _ w5 ⟨b16,rfl,aH,j,u⟩
 have aI:b4≠b16:=by have:=b.lt;omega
 have aJ:b7≠b16:=by have:=e.lt;omega
 have a6:=Nat.le_trans m.size aH;have b:=b.below j;have e:=e.below j;have o:=o.below j;have d:=d.below j;have f:=f.below j;have g:=g.below j;have m:=btr m j;refine Zo (Vw [vi ((((stepP q).getD (psZ,0)).1).ins),vi ((((stepP q).getD (psZ,0)).1).vars),vi ((((stepP q).getD (psZ,0)).1).root),vi ((((stepP q).getD (psZ,0)).1).phase),.slice A ((((stepP q).getD (psZ,0)).1).ts).length B,.slice C ((((stepP q).getD (psZ,0)).1).out).length D] Xi u) ?_;rintro _ w6 ⟨y,hb⟩;have i:=u;have b:=b.only y (by omega);have e:=e.only y (by omega);have o:=o.onlyT y i rfl;have d:=d.onlyT y i rfl;have f:=f.onlyT y i rfl;have g:=g.onlyT y i rfl;have m:=Below.only m y a6;have u:=hb;refine Za rfl<|Za rfl<|ZX aG fun a t _ aK=>?_;refine wp_seq_k fun _ aL=>?_;refine X0i (fun a w=>Fr a 26 [(1,.pointer (some ⟨b4,0,none⟩)),(2,.pointer (some ⟨b7,0,none⟩)),(4,vi (n:Int)),(5,.pointer (some ⟨b16,0,none⟩)),(20,.bool ((!((stepP q).isSome))||(!(validP (((stepP q).getD (psZ,0)).1)))))]∧Below w6.heap.size w6 w) ?_ ?_
 ·have J:Below w6.heap.size w6 w6:=Below.refl _ _
  refine Zr t<|Zm rfl<|Ze (X1v rfl)<|Zm rfl ?_
  refine Zg 16 rfl (fun c=>?_) (fun c=>?_)
  ·refine Zp (gP c) ?_;refine Zp (gP c) ?_;refine Zp (gP c) ?_;refine Ze (X6 rfl c rfl) ?_;refine Zn fun a t=>?_
   have a7:Below w6.heap.size w6 w6:=J
   exact ⟨t.sub ⟨rfl,rfl,rfl,rfl,X1 rfl (by first|rfl|(simp only [c,bs];done)|simp [c]),trivial⟩,a7⟩
  refine Zv (gW c) (Vn X3 u) ?_;refine Zk (gW c) (Vc (Xnk _ (((stepP q).getD (psZ,0)).1) A B f.top C D g.top ⟨I.ins,I.vars⟩ (Nat.le_trans I.len (by decide)) I.out) Xbq) ?_;rintro _ w7 ⟨rfl,j⟩;have m:=btr m j;have J:=btr J j;refine Zv (gW c) (X1v rfl) ?_;refine Ze (Xf rfl c rfl) ?_;refine Zn fun a t=>?_
  have a7:Below w6.heap.size w6 w7:=J
  exact ⟨t.sub ⟨rfl,rfl,rfl,rfl,X1 rfl (by first|rfl|(simp only [c,bs];done)|simp [c]),trivial⟩,a7⟩
 rintro a w8 ⟨t,j⟩;have b:=b.below j;have e:=e.below j;have u:=u.below j;have o:=o.below j;have d:=d.below j;have f:=f.below j;have g:=g.below j;have m:=btr m j;refine aL _ _ ?_
 refine Xg t rfl (fun x=>?_) (fun x=>?_)
 ·have a8:=x;have L:=Xit x;refine Zs t fun _ aM=>?_;refine Ze (Vn X3 b)<|Zm rfl<|Zo (Vw [vi q.ins,vi q.vars,vi q.root,vi q.phase,.slice H q.ts.length M,.slice h q.out.length E] Xi e) ?_;rintro _ w9 ⟨y,hb⟩;have i:=e;have o:=o.onlyT y i rfl;have d:=d.onlyT y i rfl;have m:=Below.only m y aF;have e:=hb;refine Za rfl<|Zt aM fun a t=>?_;refine wp_ret<|X8<|Xr<|X8 ?_;refine Xr<|X7 t (X2l t rfl (ResV.cellN (l:=[vi q.ins,vi q.vars,vi q.root,vi q.phase,.slice H q.ts.length M,.slice h q.out.length E]) rfl X3 (e.at 0) rfl) rfl) ?_
  rw [Xg6 hr L]
  exact ⟨H,M,h,E,rfl,o.top,d.top,m⟩
 have a8:=x;obtain ⟨L,aN⟩:=Xqc x;have aX:=(X20 L).1;have aY:=(VPr.of aN).v.vars;refine wp_skip<|aK _ _<|Zs t fun _ aO=>?_;refine Ze (Vn X3 u)<|Zo (Vw [vi ((((stepP q).getD (psZ,0)).1).ins),vi ((((stepP q).getD (psZ,0)).1).vars),vi ((((stepP q).getD (psZ,0)).1).root),vi ((((stepP q).getD (psZ,0)).1).phase),.slice A ((((stepP q).getD (psZ,0)).1).ts).length B,.slice C ((((stepP q).getD (psZ,0)).1).out).length D] Xi b) ?_;rintro _ b1 ⟨y,hb⟩;have i:=b;have e:=e.only y (by omega);have f:=f.onlyT y i rfl;have g:=g.onlyT y i rfl;have m:=Below.only m y aE;have b:=hb;refine Zt aO fun a t=>?_;refine Zr t<|Zm rfl<|Ze (X36 (k:=((n+1:Nat) : Int)) rfl rfl rfl (by omega) (by omega))<|Za rfl ?_;refine Zn fun a t=>?_;refine Xa<|Xb ?_;exact ⟨(((stepP q).getD (psZ,0)).1,n+1),⟨A,B,C,D,t.sb,aN,(Xci hr L),(by omega),b,e,f.top,g.top,m⟩,(by show ((stepP q).getD (psZ,0)).1.vars.toNat<q.vars.toNat;omega)⟩
theorem Xxw(w0:World)(Al:Option Addr)(cl:Nat)(l:List Tm)(d:Rd w0 w0.heap.size 59 encT Al l)(aJ:l.length≤100000000) : Ret Tryz.prog 26 [.slice Al l.length cl] w0 (fun v w=>∃ A c,v=.slice A l.length c∧Own w w0.heap.size 59 2 encT A c l∧Below w0.heap.size w0 w):=by
 refine enter Tryz.func26 rfl 8 rfl rfl ?_;intro a b
 have f:=bz w0
 refine Zs b fun _ aD=>?_;refine Za rfl<|ZX aD fun a b _ aE=>?_;refine Zs b fun _ aF=>?_;refine Zm rfl<|Ze (Xak rfl rfl Xk)<|Zt aF fun a b=>?_
 refine Xg b rfl (fun g=>?_) (fun g=>?_)
 ·have a7:=g
  have a8:l=[]:=Rd.nil_of d g
  refine Zs b fun _ aG=>?_;refine Za rfl<|Zt aG fun a b=>?_;refine wp_ret<|X8<|X7 b (X03 b rfl rfl) ?_
  subst a8
  exact ⟨none,0,rfl,Own.nil _ _ _ _ _,f⟩
 have a7:=g;refine wp_skip<|aE _ _<|Zs b fun _ aA=>?_;refine Zf (X5 (k:=0) (vs:=[]) (zs:=[]) rfl Xk X0m rfl rfl) ?_;rintro _ w1 ⟨aK,rfl,i,hE,aB⟩;have a6:=Nat.le_trans f.size i;have aC:=(d.below' f).away i;have f:=btr f hE;refine Zm rfl<|Zf (X46 (enc:=encT) (l2:=(l)) rfl rfl Xk X0m Xx X22 aB (d.below' f) (by simp only [maxLen];omega) (by omega)) ?_;rintro _ w2 ⟨aH,aI,rfl,e,hE⟩;have e:=e.lower a6;have f:=btr f hE;refine Za rfl<|Zt aA fun a b=>?_
 refine wp_ret (X7 b (X03 b rfl rfl) ?_)
 exact ⟨aH,aI,rfl,e,f⟩
theorem Xwf(w0:World)(Al:Option Addr)(cl:Nat)(l:List Af)(d:Rd w0 w0.heap.size 62 encA Al l)(aJ:l.length≤100000000) : Ret Tryz.prog 27 [.slice Al l.length cl] w0 (fun v w=>∃ A c,v=.slice A l.length c∧Own w w0.heap.size 62 2 encA A c l∧Below w0.heap.size w0 w):=by
 refine enter Tryz.func27 rfl 8 rfl rfl ?_;intro a b
 have f:=bz w0
 refine Zs b fun _ aD=>?_;refine Za rfl<|ZX aD fun a b _ aE=>?_;refine Zs b fun _ aF=>?_;refine Zm rfl<|Ze (Xak rfl rfl Xn)<|Zt aF fun a b=>?_
 refine Xg b rfl (fun g=>?_) (fun g=>?_)
 ·have a7:=g
  have a8:l=[]:=Rd.nil_of d g
  refine Zs b fun _ aG=>?_;refine Za rfl<|Zt aG fun a b=>?_;refine wp_ret<|X8<|X7 b (X03 b rfl rfl) ?_
  subst a8
  exact ⟨none,0,rfl,Own.nil _ _ _ _ _,f⟩
 have a7:=g;refine wp_skip<|aE _ _<|Zs b fun _ aA=>?_;refine Zf (X5 (k:=0) (vs:=[]) (zs:=[]) rfl Xn X19 rfl rfl) ?_;rintro _ w1 ⟨aK,rfl,i,hE,aB⟩;have a6:=Nat.le_trans f.size i;have aC:=(d.below' f).away i;have f:=btr f hE;refine Zm rfl<|Zf (X46 (enc:=encA) (l2:=(l)) rfl rfl Xn X19 X06 X2z aB (d.below' f) (by simp only [maxLen];omega) (by omega)) ?_;rintro _ w2 ⟨aH,aI,rfl,e,hE⟩;have e:=e.lower a6;have f:=btr f hE;refine Za rfl<|Zt aA fun a b=>?_
 refine wp_ret (X7 b (X03 b rfl rfl) ?_)
 exact ⟨aH,aI,rfl,e,f⟩
theorem Xwo(w0:World)(p:Ps)(Ap:Option Addr)(cp:Nat)(aD:Rd w0 w0.heap.size 59 encT Ap p.ts)(Bp:Option Addr)(dp:Nat)(aE:Rd w0 w0.heap.size 62 encA Bp p.out)(b8:∀ t ∈ p.ts,Mk t.m)(aK:-1000≤p.ins∧p.ins≤1000)(aL:p.ts.length≤100000000)(aM:p.out.length≤100000000)(aN:TabAt w0)(b9:1<w0.heap.size) : Ret Tryz.prog 7 [.agg #[vi p.ins,vi p.vars,vi p.root,vi p.phase,.slice Ap p.ts.length cp,.slice Bp p.out.length dp]] w0 (fun v w=>∃ A9 c9 B9 d9,v=.tuple #[psV A9 c9 B9 d9 ((rdP p).1),vi (((rdP p).2:Nat) : Int),.bool (validP p)]∧Rd w w.heap.size 59 encT A9 ((rdP p).1).ts∧Rd w w.heap.size 62 encA B9 ((rdP p).1).out∧Below w0.heap.size w0 w):=by
 refine enter Tryz.func7 rfl 36 rfl rfl ?_;intro a y
 have e:=bz w0
 refine Zs y fun _ bA=>?_;refine Zf (X1b (zs:=[vi p.ins,vi p.vars,vi p.root,vi p.phase,.slice Ap p.ts.length cp,.slice Bp p.out.length dp]) rfl rfl) ?_;rintro _ w1 ⟨b4,rfl,bB,f,g⟩;have bG:=Nat.le_trans e.size bB;have e:=btr e f;refine Zf (X4 (zs:=[vi 0,vi 0,vi 0,vi 0,.slice none 0 0,.slice none 0 0]) X0f rfl) ?_;rintro _ w2 ⟨b7,rfl,bC,f,c⟩
 have b6:b4≠b7:=by have:=g.lt;omega
 have aF:=Nat.le_trans e.size bC;have g:=g.below f;have e:=btr e f;refine Za rfl<|Za rfl<|ZX bA fun a y _ bD=>?_;refine Zs y fun _ bE=>?_;refine Ze (Vn X3 g)<|Zf (Vc (Xdh _ p Ap cp (aD.below' e).top Bp dp (aE.below' e).top b8 aK aL aM) X6r) ?_;rintro _ w3 ⟨rfl,f⟩;have g:=g.below f;have c:=c.below f;have e:=btr e f;refine Ze (X1v rfl)<|Zt bE fun a y=>?_
 refine Xg y rfl (fun E=>?_) (fun E=>?_)
 ·have aG:=E
  have H:validP p=false:=by have:=E;simpa using this
  refine Zs y fun _ aO=>?_;refine Ze (Xs (ps:=[]) (cs:=[vi 0,vi 0,vi 0,vi 0,.slice none 0 0,.slice none 0 0]) rfl (fun _=>by first|rfl|kernel_rfl))<|Zo (Vw [vi 0,vi 0,vi 0,vi 0,.slice none 0 0,.slice none 0 0] Xi c) ?_;rintro _ w4 ⟨i,L⟩;have d:=c;have e:=Below.only e i aF;have c:=L;refine Za rfl<|Za rfl<|Zt aO fun a y=>?_;refine wp_ret<|X8<|X7 y (X3n y rfl (ResV.cellN (l:=[vi 0,vi 0,vi 0,vi 0,.slice none 0 0,.slice none 0 0]) rfl X3 (c.at 0) rfl) rfl rfl) ?_
  rw [Xfq H,H]
  exact ⟨none,0,none,0,rfl,(Rd.nil _ _ _ _ _),(Rd.nil _ _ _ _ _),e⟩
 have aG:=E
 have H:validP p=true:=by have:=E;simpa using this
 have aP:=VPr.of H;have bH:=aP.v.vars;have bF:=aP.v.ins;refine wp_skip<|bD _ _<|Zs y fun _ aQ=>?_;refine Ze (Vn X3 g)<|Zf (X4 (zs:=[vi 0,vi 0,vi 0,vi 0,.slice none 0 0,.slice none 0 0]) X0f rfl) ?_;rintro _ w5 ⟨b17,rfl,aR,f,b⟩
 have aS:b4≠b17:=by have:=g.lt;omega
 have aT:b7≠b17:=by have:=c.lt;omega
 have C:=Nat.le_trans e.size aR;have g:=g.below f;have c:=c.below f;have e:=btr e f;refine Zo (Vw [vi p.ins,vi p.vars,vi p.root,vi p.phase,.slice Ap p.ts.length cp,.slice Bp p.out.length dp] Xi b) ?_;rintro _ w6 ⟨i,L⟩;have d:=b;have g:=g.only i (by omega);have c:=c.only i (by omega);have e:=Below.only e i C;have b:=L;refine ZX aQ fun a y _ aU=>?_;refine Xp none (fun j=>[7,9].contains j) mixed ?_;intro w7 f;have g:=g.below f;have c:=c.below f;have b:=b.below f;have e:=btr e f;refine Yb y<|Yo 0 rfl (fun _=>Vd rfl Xt 4)<|Ye 1 rfl (X0 rfl X02 (g.at 4))<|Yo 3 rfl (fun _=>Vd rfl Xl 5)<|Ye 4 rfl (X0 rfl Xy (g.at 5))<|Y1 2 ?_;refine Yk rfl trivial (Vc (Xxw _ Ap cp p.ts (aD.below' e).top aL) Xqb) (fun _ _ ⟨a8,aA,_,o,f⟩=>f) ?_;rintro _ w8 ⟨a8,aA,rfl,o,f⟩;have o:=o.lower e.size;have c:=c.below f;have b:=b.below f;have e:=btr e f;refine Yo 6 rfl (fun _=>Vd rfl Xt 4)<|Y1 5 ?_;refine Yk rfl trivial (Vc (Xwf _ Bp dp p.out (aE.below' e).top aM) Xpy) (fun _ _ ⟨aB,aC,_,h,f⟩=>f) ?_;rintro _ w9 ⟨aB,aC,rfl,h,f⟩;have h:=h.lower e.size;have c:=c.below f;have b:=b.below f;have o:=o.below f;have e:=btr e f;refine Y1 7<|Yh rfl trivial rfl (Vu (vs:=[.slice a8 p.ts.length aA]) (l':=[vi p.ins,vi p.vars,vi p.root,vi p.phase,.slice a8 p.ts.length aA,.slice Bp p.out.length dp]) rfl rfl X1o b) ?_;rintro _ bL ⟨i,L⟩;have d:=b;have c:=c.only i (by omega);have o:=o.onlyT i d rfl;have h:=h.onlyT i d rfl;have e:=Below.only e i C;have b:=L
 clear L i;refine Yo 8 rfl (fun _=>Vd rfl Xl 5)<|Y1 9 ?_;refine Yh rfl trivial rfl (Vu (vs:=[.slice aB p.out.length aC]) (l':=[vi p.ins,vi p.vars,vi p.root,vi p.phase,.slice a8 p.ts.length aA,.slice aB p.out.length aC]) rfl rfl X2s b) ?_;rintro _ bM ⟨i,L⟩;have d:=b;have c:=c.only i (by omega);have o:=o.onlyT i d rfl;have h:=h.onlyT i d rfl;have e:=Below.only e i C;have b:=L;refine Yd fun a y=>?_;refine aU _ _<|Zs y fun _ aW=>?_;refine Za rfl<|Zt aW fun a y=>?_;refine wp_block<|Xw (σ:=Ps×Nat) (fun (s:Ps×Nat) (a:Act) (w:World)=>match s with|(q,n)=>∃ I N J Q,Fr a 36 [(2,.pointer (some ⟨b7,0,none⟩)),(5,.pointer (some ⟨b17,0,none⟩)),(6,vi (n:Int))]∧(validP q=true)∧(redP p=((redP q).1,(redP q).2+n))∧((n:Int)+q.vars≤24)∧Blk w b7 26 [vi 0,vi 0,vi 0,vi 0,.slice none 0 0,.slice none 0 0]∧Blk w b17 26 [vi q.ins,vi q.vars,vi q.root,vi q.phase,.slice I q.ts.length N,.slice J q.out.length Q]∧Rd w w.heap.size 59 encT I q.ts∧Rd w w.heap.size 62 encA J q.out∧Below w0.heap.size w0 w) (fun (s:Ps×Nat)=>match s with|(q,n)=>q.vars.toNat) (p,0) ?_ ?_
 ·exact ⟨a8,aA,aB,aC,y.sb,H,rfl,(by omega),c,b,o.rd,h.rd,e⟩
 rintro ⟨q,n⟩ a bN ⟨I,N,J,Q,y,hq,hr,hn,c,b,u,x,e⟩;have hR:=VPr.of hq;have bO:=hR.v.vars;refine wp_seq_k fun _ aX=>?_;refine wp_block<|Zs y fun _ aY=>?_;refine Ze (Vn X3 b)<|Zf (Vc (Xs8 _ q I N u.top J Q x.top hq (aN.up e b9) (by have:=e.size;omega)) Xgw) ?_;rintro _ bP ⟨U,W,a6,a7,rfl,A,B,f⟩;have c:=c.below f;have b:=b.below f;have u:=u.below f;have x:=x.below f;have e:=btr e f;refine Zm rfl<|Ze (X9 (vs:=[.agg #[vi ((((nxtP q).getD (psZ,0)).1).ins),vi ((((nxtP q).getD (psZ,0)).1).vars),vi ((((nxtP q).getD (psZ,0)).1).root),vi ((((nxtP q).getD (psZ,0)).1).phase),.slice U ((((nxtP q).getD (psZ,0)).1).ts).length W,.slice a6 ((((nxtP q).getD (psZ,0)).1).out).length a7],vi (((nxtP q).getD (psZ,0)).2),.bool ((nxtP q).isSome)]) rfl rfl)<|Ze (X9 (vs:=[.agg #[vi ((((nxtP q).getD (psZ,0)).1).ins),vi ((((nxtP q).getD (psZ,0)).1).vars),vi ((((nxtP q).getD (psZ,0)).1).root),vi ((((nxtP q).getD (psZ,0)).1).phase),.slice U ((((nxtP q).getD (psZ,0)).1).ts).length W,.slice a6 ((((nxtP q).getD (psZ,0)).1).out).length a7],vi (((nxtP q).getD (psZ,0)).2),.bool ((nxtP q).isSome)]) rfl rfl)<|Ze (X9 (vs:=[.agg #[vi ((((nxtP q).getD (psZ,0)).1).ins),vi ((((nxtP q).getD (psZ,0)).1).vars),vi ((((nxtP q).getD (psZ,0)).1).root),vi ((((nxtP q).getD (psZ,0)).1).phase),.slice U ((((nxtP q).getD (psZ,0)).1).ts).length W,.slice a6 ((((nxtP q).getD (psZ,0)).1).out).length a7],vi (((nxtP q).getD (psZ,0)).2),.bool ((nxtP q).isSome)]) rfl rfl)<|Zf (X4 (zs:=[vi 0,vi 0,vi 0,vi 0,.slice none 0 0,.slice none 0 0]) X0f rfl) ?_;rintro _ bR ⟨b30,rfl,aZ,f,M⟩
 have b0:b7≠b30:=by have:=c.lt;omega
 have aJ:b17≠b30:=by have:=b.lt;omega
 have aH:=Nat.le_trans e.size aZ;have c:=c.below f;have b:=b.below f;have u:=u.below f;have x:=x.below f;have A:=A.below f;have B:=B.below f;have e:=btr e f;refine Zo (Vw [vi ((((nxtP q).getD (psZ,0)).1).ins),vi ((((nxtP q).getD (psZ,0)).1).vars),vi ((((nxtP q).getD (psZ,0)).1).root),vi ((((nxtP q).getD (psZ,0)).1).phase),.slice U ((((nxtP q).getD (psZ,0)).1).ts).length W,.slice a6 ((((nxtP q).getD (psZ,0)).1).out).length a7] Xi M) ?_;rintro _ bS ⟨i,L⟩;have d:=M;have c:=c.only i (by omega);have b:=b.only i (by omega);have u:=u.onlyT i d rfl;have x:=x.onlyT i d rfl;have A:=A.onlyT i d rfl;have B:=B.onlyT i d rfl;have e:=Below.only e i aH;have M:=L;refine Za rfl<|Za rfl<|ZX aY fun a y _ b1=>?_;refine Zs y fun _ b2=>?_;refine Zm rfl<|Ze (X1v rfl)<|Zt b2 fun a y=>?_
 refine Xg y rfl (fun G=>?_) (fun G=>?_)
 ·have aI:=G
  have D:nxtP q=none:=by have:=G;simpa using this
  refine Zs y fun _ b3=>?_;refine Ze (Vn X3 b)<|Zm rfl<|Zo (Vw [vi q.ins,vi q.vars,vi q.root,vi q.phase,.slice I q.ts.length N,.slice J q.out.length Q] Xi c) ?_;rintro _ bT ⟨i,L⟩;have d:=c;have u:=u.onlyT i d rfl;have x:=x.onlyT i d rfl;have e:=Below.only e i aF;have c:=L;refine Za rfl<|Za rfl<|Zt b3 fun a y=>?_;refine wp_ret<|X8<|Xr<|X8 ?_;refine X8<|Xr<|X7 y (X3n y rfl (ResV.cellN (l:=[vi q.ins,vi q.vars,vi q.root,vi q.phase,.slice I q.ts.length N,.slice J q.out.length Q]) rfl X3 (c.at 0) rfl) rfl rfl) ?_
  rw [Xbs H,H,Xg6 hr D]
  exact ⟨I,N,J,Q,rfl,u.top,x.top,e⟩
 have aI:=G
 obtain ⟨r9,D⟩ : ∃ r,nxtP q=some r:=Option.isSome_iff_exists.1 (by have:=G;simpa using this)
 have bJ:=(X20 D).1;have b5:=(X20 D).2.1;have bK:=(VPr.of b5).v.vars;refine wp_skip<|b1 _ _<|Zr y<|Ze (Vn X3 M)<|Zo (Vw [vi ((((nxtP q).getD (psZ,0)).1).ins),vi ((((nxtP q).getD (psZ,0)).1).vars),vi ((((nxtP q).getD (psZ,0)).1).root),vi ((((nxtP q).getD (psZ,0)).1).phase),.slice U ((((nxtP q).getD (psZ,0)).1).ts).length W,.slice a6 ((((nxtP q).getD (psZ,0)).1).out).length a7] Xi b) ?_;rintro _ bU ⟨i,L⟩;have d:=b;have c:=c.only i (by omega);have A:=A.onlyT i d rfl;have B:=B.onlyT i d rfl;have e:=Below.only e i C;have b:=L;refine Zn fun a y=>?_;refine Xa<|aX _ _<|Zr y<|Zm rfl<|Ze (X36 (k:=((n+1:Nat) : Int)) rfl rfl rfl (by omega) (by omega))<|Za rfl ?_;refine Zn fun a y=>?_;refine Xb ?_;exact ⟨(((nxtP q).getD (psZ,0)).1,n+1),⟨U,W,a6,a7,y.sb,(by rw [D];exact b5),(by rw [D];exact Xci hr D),(by rw [D];show ((n+1:Nat) : Int)+r9.1.vars≤24;omega),c,b,A.top,B.top,e⟩,(by rw [D];show r9.1.vars.toNat<q.vars.toNat;omega)⟩
theorem Xwr(B:World)(p:Ps)(Ap:Option Addr)(cp:Nat)(aC:Rd B B.heap.size 59 encT Ap p.ts)(Bp:Option Addr)(dp:Nat)(x:Rd B B.heap.size 62 encA Bp p.out)(aS:∀ t ∈ p.ts,Mk t.m)(aD:-1000≤p.ins∧p.ins≤1000)(aT:p.ts.length≤100000000)(aU:p.out.length≤100000000) : Ret Tryz.prog 10 [.agg #[vi p.ins,vi p.vars,vi p.root,vi p.phase,.slice Ap p.ts.length cp,.slice Bp p.out.length dp]] B (fun v w=>v=.tuple #[vi (if (validP p&&idP p)=true then p.phase else 0),.bool (validP p&&idP p),.bool (validP p)]∧Below B.heap.size B w):=by
 refine enter Tryz.func10 rfl 40 rfl rfl ?_;intro a c
 have g:=bz B
 refine Zs c fun _ aW=>?_;refine Zf (X1b (zs:=[vi p.ins,vi p.vars,vi p.root,vi p.phase,.slice Ap p.ts.length cp,.slice Bp p.out.length dp]) rfl rfl) ?_;rintro _ w1 ⟨b4,rfl,aX,y,e⟩;have b7:=Nat.le_trans g.size aX;have g:=btr g y;refine Za rfl<|Za rfl<|Za rfl<|ZX aW fun a c _ aY=>?_;refine Zs c fun _ aZ=>?_;refine Ze (Vn X3 e)<|Zf (Vc (Xdh _ p Ap cp (aC.below' g).top Bp dp (x.below' g).top aS aD aT aU) X6r) ?_;rintro _ w2 ⟨rfl,y⟩;have e:=e.below y;have g:=btr g y;refine Ze (X1v rfl)<|Zt aZ fun a c=>?_
 refine Xg c rfl (fun h=>?_) (fun h=>?_)
 ·have i:=h
  have q:validP p=false:=by have:=h;simpa using this
  refine Zs c fun _ b0=>?_;refine Za rfl<|Za rfl<|Za rfl<|Zt b0 fun a c=>?_;refine wp_ret<|X8<|X7 c (X3n c rfl rfl rfl rfl) ?_
  rw [q];exact ⟨rfl,g⟩
 have i:=h
 have q:validP p=true:=by have:=h;simpa using this
 have b1:=VPr.of q;have b8:=b1.out;refine wp_skip<|aY _ _<|wp_seq_k fun _ b2=>?_;refine wp_seq_k fun _ aE=>?_;refine X0i (fun a w=>Fr a 40 [(1,.pointer (some ⟨b4,0,none⟩)),(23,.bool (((p.vars != 0)||(decide (0<(p.ts.length:Int))))||(p.root != 0)))]∧w2=w) ?_ ?_
 ·refine Zr c<|Ze (Vd rfl X0n 1)<|Ze (X0 rfl X2 (e.at 1))<|Ze (X3q rfl rfl)<|Zm rfl ?_
  refine Zg 13 rfl (fun b=>?_) (fun b=>?_)
  ·refine Zp (gP b) ?_;refine Zp (gP b) ?_;refine Zp (gP b) ?_;refine Zp (gP b) ?_;refine Ze (X6 rfl b rfl)<|Zm rfl<|Zp (gP rfl) ?_;refine Zp (gP rfl) ?_;refine Zp (gP rfl) ?_;refine Ze (X6 rfl rfl rfl) ?_;refine Zn fun a c=>?_;exact ⟨c.sub ⟨rfl,X1 rfl (by first|rfl|(simp only [i,b,bs];done)|simp [i,b]),trivial⟩,rfl⟩
  refine Zv (gW b) (Vd rfl Xt 4) ?_;refine Zv (gW b) (X0 rfl X02 (e.at 4)) ?_;refine Zv (gW b) (X10 rfl Xk) ?_;refine Zv (gW b) (X3o rfl rfl) ?_;refine Ze (Xf rfl b rfl)<|Zm rfl ?_
  refine Zg 19 rfl (fun d=>?_) (fun d=>?_)
  ·refine Zp (gP d) ?_;refine Zp (gP d) ?_;refine Zp (gP d) ?_;refine Ze (X6 rfl d rfl) ?_;refine Zn fun a c=>?_;exact ⟨c.sub ⟨rfl,X1 rfl (by first|rfl|(simp only [i,b,d,bs];done)|simp [i,b,d]),trivial⟩,rfl⟩
  refine Zv (gW d) (Vd rfl X0c 2) ?_;refine Zv (gW d) (X0 rfl X2 (e.at 2)) ?_;refine Zv (gW d) (X3q rfl rfl) ?_;refine Ze (Xf rfl d rfl) ?_;refine Zn fun a c=>?_;exact ⟨c.sub ⟨rfl,X1 rfl (by first|rfl|(simp only [i,b,d,bs];done)|simp [i,b,d]),trivial⟩,rfl⟩
 rintro a _ ⟨c,rfl⟩;refine aE _ _ ?_
 refine Xg c rfl (fun n=>?_) (fun n=>?_)
 ·have a6:=n
  have A:idP p=false:=by rw [X7q];have h7:=n;rw [show idH p=false from by unfold idH;revert h7;by_cases h1:p.vars=0<;>by_cases h2:p.ts.length=0<;>by_cases h3:p.root=0<;>simp [h1,h2,h3]<;>omega];rfl
  refine Zs c fun _ aF=>?_;refine Za rfl<|Za rfl<|Za rfl<|Zt aF fun a c=>?_;refine wp_ret<|X8<|X7 c (X3n c rfl rfl rfl rfl) ?_
  rw [q,A];exact ⟨rfl,g⟩
 have a6:=n
 have b3:idH p=true:=by have h7:=n;unfold idH;revert h7;by_cases h1:p.vars=0<;>by_cases h2:p.ts.length=0<;>by_cases h3:p.root=0<;>simp [h1,h2,h3]<;>omega
 refine wp_skip<|b2 _ _<|wp_seq_k fun _ aG=>?_;refine Zs c fun _ aH=>?_;refine Ze (Vd rfl Xl 5)<|Ze (X0 rfl Xy (e.at 5))<|Ze (X10 rfl Xn)<|Zm rfl<|Zt aH fun a c=>?_;refine wp_block<|Xw (σ:=Nat) (fun (k:Nat) (a:Act) (w:World)=>Fr a 40 [(1,.pointer (some ⟨b4,0,none⟩)),(25,.slice Bp p.out.length dp),(26,vi (p.out.length:Int)),(27,vi (k:Int))]∧(k≤p.out.length)∧(idK p.out k=true)∧Blk w b4 26 [vi p.ins,vi p.vars,vi p.root,vi p.phase,.slice Ap p.ts.length cp,.slice Bp p.out.length dp]∧Below B.heap.size B w) (fun (k:Nat)=>p.out.length-k) 0 ?_ ?_
 ·exact ⟨c.sb,(Nat.zero_le _),rfl,e,g⟩
 rintro k a w3 ⟨c,hk,C,e,g⟩;refine Zs c fun _ aI=>?_;refine Ze (X1h rfl rfl)<|ZX aI fun a c _ aJ=>?_
 refine Xg c rfl (fun f=>?_) (fun f=>?_)
 ·have a7:=f;have f:=of_decide_eq_true f
  obtain ⟨u20,D⟩:=Xj (l:=p.out) (k:=k) (by omega)
  have aK:p.out.getD k afZ=u20:=by rw [List.getD_eq_getElem?_getD,D];rfl
  refine wp_skip<|aJ _ _<|wp_seq_k fun _ aL=>?_;refine wp_block<|Zs c fun _ aM=>?_;refine Zm rfl<|Zi (k:=k) (u:=u20) (enc:=encA) (l:=p.out) trivial rfl rfl Xn Xu X06 (x.below' g) D rfl ?_;intro b9 a8;refine Ze (X04 (l:=[vi u20.m,vi u20.t]) rfl X08 a8 rfl)<|Zf (X4 (zs:=[vi 0,vi 0]) X0v rfl) ?_;rintro _ w4 ⟨bA,rfl,E,y,j⟩;have aA:=Nat.le_trans g.size E;have aN:=(x.below' g).away E;have e:=e.below y;have g:=btr g y;refine Za rfl<|Zo (Vw [vi u20.m,vi u20.t] Xu j) ?_;rintro _ w5 ⟨ho,hb⟩;have aO:=j;have e:=e.only ho (Blk.ne e aO rfl);have g:=Below.only g ho aA;have j:=hb;refine ZX aM fun a c _ aP=>?_;refine Xp none (fun _=>false) mixed ?_;intro w6 y;have e:=e.below y;have j:=j.below y;have g:=btr g y;refine Yb c<|Ye 0 rfl (Vn X08 j)<|Yo 1 rfl (fun _=>Xd rfl)<|Yo 2 rfl (fun _=>Vx (X29 (m:=k) rfl rfl rfl (by omega)) (X39 (by omega)))<|Yo 3 rfl (fun _=>Xs (ps:=[(0,vi ((2^k:Nat) : Int))]) (cs:=[vi ((2^k:Nat) : Int),vi 0]) rfl (fun _=>by first|rfl|kernel_rfl))<|Yo 4 rfl (fun _=>Xh9 rfl rfl Xhj (fun w=>Xh6 9998 u20 (⟨((2^k:Nat) : Int),0⟩ : Af) w)) ?_;refine Yd fun a c=>?_;refine aP _ _ ?_
  refine Xg c rfl (fun o=>?_) (fun o=>?_)
  ·have aB:=o
   have A:idP p=false:=by rw [X7q,Xgr (k:=k) (l:=p.out) (by omega) (by rw [aK];have h7:(!decide (u20=varA k))=true:=o;exact of_decide_eq_false (by simpa only [Bool.not_eq_true'] using h7))];simp
   refine Zs c fun _ aQ=>?_;refine Za rfl<|Za rfl<|Za rfl<|Zt aQ fun a c=>?_;refine wp_ret<|Xr<|X8<|X8 ?_;refine Xr<|X8<|X7 c (X3n c rfl rfl rfl rfl) ?_
   rw [q,A];exact ⟨rfl,g⟩
  have aB:=o
  have b5:p.out.getD k afZ=varA k:=by rw [aK];have h7:(!decide (u20=varA k))=false:=o;exact of_decide_eq_true (by simpa only [Bool.not_eq_false'] using h7)
  refine wp_skip<|Xa<|aL _ _<|Zr c ?_;refine Ze (Xm rfl rfl (by omega) (by omega))<|Zm rfl ?_;refine Zn fun a c=>?_;refine Xb ?_;exact ⟨k+1,⟨c.sb,(by omega),(Xdo C b5),e,g⟩,(by omega)⟩
 have a7:=f;have f:=of_decide_eq_false f
 have b6:k=p.out.length:=by have:=f;omega
 subst b6
 have A:idP p=true:=by rw [X7q,b3,C];rfl
 refine wp_exit<|Xe<|Xe<|Xq ?_;refine aG _ _<|Zs c fun _ aR=>?_;refine Ze (Vd rfl X0h 3)<|Ze (X0 rfl X2 (e.at 3))<|Za rfl<|Za rfl<|Za rfl ?_;refine Zt aR fun a c=>?_
 refine wp_ret (X7 c (X3n c rfl rfl rfl rfl) ?_)
 rw [q,A];exact ⟨rfl,g⟩
theorem Xxe(h:World)(p:Ps)(Ap:Option Addr)(cp:Nat)(aW:Rd h h.heap.size 59 encT Ap p.ts)(Bp:Option Addr)(dp:Nat)(B:Rd h h.heap.size 62 encA Bp p.out)(aN:validP p=true) : Ret Tryz.prog 38 [.agg #[vi p.ins,vi p.vars,vi p.root,vi p.phase,.slice Ap p.ts.length cp,.slice Bp p.out.length dp]] h (fun v w=>v=.bool (idP p)∧Below h.heap.size h w):=by
 have aA:=VPr.of aN;have aX:=aA.out;have b0:=aA.v.vars;refine enter Tryz.func38 rfl 39 rfl rfl ?_;intro a b
 have q:=bz h
 refine Zs b fun _ aO=>?_;refine Zf (X1b (zs:=[vi p.ins,vi p.vars,vi p.root,vi p.phase,.slice Ap p.ts.length cp,.slice Bp p.out.length dp]) rfl rfl) ?_;rintro _ w1 ⟨b4,rfl,aP,hE,A⟩;have aY:=Nat.le_trans q.size aP;have q:=btr q hE;refine Za rfl<|ZX aO fun a b _ aQ=>?_;refine wp_seq_k fun _ aR=>?_;refine X0i (fun a w=>Fr a 39 [(1,.pointer (some ⟨b4,0,none⟩)),(18,.bool (((decide (0<p.vars))||(p.root != 0))||(decide (0<(p.ts.length:Int)))))]∧w1=w) ?_ ?_
 ·refine Zr b<|Ze (Vd rfl X0n 1)<|Ze (X0 rfl X2 (A.at 1))<|Ze (X3o rfl rfl)<|Zm rfl ?_
  refine Zg 8 rfl (fun d=>?_) (fun d=>?_)
  ·refine Zp (gP d) ?_;refine Zp (gP d) ?_;refine Zp (gP d) ?_;refine Ze (X6 rfl d rfl)<|Zm rfl<|Zp (gP rfl) ?_;refine Zp (gP rfl) ?_;refine Zp (gP rfl) ?_;refine Zp (gP rfl) ?_;refine Ze (X6 rfl rfl rfl) ?_;refine Zn fun a b=>?_;exact ⟨b.sub ⟨rfl,X1 rfl (by first|rfl|(simp only [d,bs];done)|simp [d]),trivial⟩,rfl⟩
  refine Zv (gW d) (Vd rfl X0c 2) ?_;refine Zv (gW d) (X0 rfl X2 (A.at 2)) ?_;refine Zv (gW d) (X3q rfl rfl) ?_;refine Ze (Xf rfl d rfl)<|Zm rfl ?_
  refine Zg 13 rfl (fun f=>?_) (fun f=>?_)
  ·refine Zp (gP f) ?_;refine Zp (gP f) ?_;refine Zp (gP f) ?_;refine Zp (gP f) ?_;refine Ze (X6 rfl f rfl) ?_;refine Zn fun a b=>?_;exact ⟨b.sub ⟨rfl,X1 rfl (by first|rfl|(simp only [d,f,bs];done)|simp [d,f]),trivial⟩,rfl⟩
  refine Zv (gW f) (Vd rfl Xt 4) ?_;refine Zv (gW f) (X0 rfl X02 (A.at 4)) ?_;refine Zv (gW f) (X10 rfl Xk) ?_;refine Zv (gW f) (X3o rfl rfl) ?_;refine Ze (Xf rfl f rfl) ?_;refine Zn fun a b=>?_;exact ⟨b.sub ⟨rfl,X1 rfl (by first|rfl|(simp only [d,f,bs];done)|simp [d,f]),trivial⟩,rfl⟩
 rintro a _ ⟨b,rfl⟩;refine aR _ _ ?_
 refine Xg b rfl (fun x=>?_) (fun x=>?_)
 ·have j:=x
  have y:idP p=false:=by rw [X7q];have h7:=x;rw [show idH p=false from by unfold idH;revert h7;by_cases h1:p.vars=0<;>by_cases h2:p.ts.length=0<;>by_cases h3:p.root=0<;>simp [h1,h2,h3]<;>omega];rfl
  refine Zs b fun _ aB=>?_;refine Za rfl<|Zt aB fun a b=>?_;refine wp_ret<|X8<|X7 b (X03 b rfl rfl) ?_
  rw [y];exact ⟨rfl,q⟩
 have j:=x
 have aS:idH p=true:=by have h7:=x;unfold idH;revert h7;by_cases h1:p.vars=0<;>by_cases h2:p.ts.length=0<;>by_cases h3:p.root=0<;>simp [h1,h2,h3]<;>omega
 refine wp_skip<|aQ _ _<|wp_seq_k fun _ aC=>?_;refine Zs b fun _ aD=>?_;refine Ze (Vd rfl Xl 5)<|Ze (X0 rfl Xy (A.at 5))<|Ze (X10 rfl Xn)<|Zm rfl<|Zt aD fun a b=>?_;refine wp_block<|Xw (σ:=Nat) (fun (k:Nat) (a:Act) (w:World)=>Fr a 39 [(20,.slice Bp p.out.length dp),(21,vi (p.out.length:Int)),(22,vi (k:Int))]∧(k≤p.out.length)∧(idK p.out k=true)∧Below h.heap.size h w) (fun (k:Nat)=>p.out.length-k) 0 ?_ ?_
 ·exact ⟨b.sb,(Nat.zero_le _),rfl,q⟩
 rintro k a w2 ⟨b,hk,C,q⟩;refine Zs b fun _ aE=>?_;refine Ze (X1h rfl rfl)<|ZX aE fun a b _ aF=>?_
 refine Xg b rfl (fun g=>?_) (fun g=>?_)
 ·have i:=g;have g:=of_decide_eq_true g
  obtain ⟨u16,D⟩:=Xj (l:=p.out) (k:=k) (by omega)
  have aG:p.out.getD k afZ=u16:=by rw [List.getD_eq_getElem?_getD,D];rfl
  refine wp_skip<|aF _ _<|wp_seq_k fun _ aH=>?_;refine wp_block<|Zs b fun _ aI=>?_;refine Zm rfl<|Zi (k:=k) (u:=u16) (enc:=encA) (l:=p.out) trivial rfl rfl Xn Xu X06 (B.below' q) D rfl ?_;intro b1 a6;refine Ze (X04 (l:=[vi u16.m,vi u16.t]) rfl X08 a6 rfl)<|Zf (X4 (zs:=[vi 0,vi 0]) X0v rfl) ?_;rintro _ w3 ⟨b2,rfl,E,hE,n⟩;have a7:=Nat.le_trans q.size E;have aJ:=(B.below' q).away E;have q:=btr q hE;refine Za rfl<|Zo (Vw [vi u16.m,vi u16.t] Xu n) ?_;rintro _ w4 ⟨ho,hb⟩;have aZ:=n;have q:=Below.only q ho a7;have n:=hb;refine ZX aI fun a b _ aK=>?_;refine X0i (fun a w=>Fr a 39 [(20,.slice Bp p.out.length dp),(21,vi (p.out.length:Int)),(22,vi (k:Int)),(37,.bool ((u16.m != ((2^k:Nat) : Int))||(u16.t != 0)))]∧w4=w) ?_ ?_
  ·refine Zr b<|Ze (Vd rfl X0b 0)<|Ze (X0 rfl X2 (n.at 0))<|Zm rfl<|Ze (X2x (m:=k) Tryz.underlying3 Tryz.underlying109 rfl rfl (by omega))<|Ze (Vx (X29 (m:=k) rfl rfl rfl (by omega)) (X39 (by omega))) ?_;refine Ze (X3q rfl rfl)<|Zm rfl ?_
   refine Zg 33 rfl (fun c=>?_) (fun c=>?_)
   ·refine Zp (gP c) ?_;refine Zp (gP c) ?_;refine Zp (gP c) ?_;refine Ze (X6 rfl c rfl) ?_;refine Zn fun a b=>?_;exact ⟨b.sub ⟨rfl,rfl,rfl,X1 rfl (by first|rfl|(simp only [j,i,c,bs];done)|simp [j,i,c]),trivial⟩,rfl⟩
   refine Zv (gW c) (Vd rfl X0t 1) ?_;refine Zv (gW c) (X0 rfl X2 (n.at 1)) ?_;refine Zv (gW c) (X3q rfl rfl) ?_;refine Ze (Xf rfl c rfl) ?_;refine Zn fun a b=>?_;exact ⟨b.sub ⟨rfl,rfl,rfl,X1 rfl (by first|rfl|(simp only [j,i,c,bs];done)|simp [j,i,c]),trivial⟩,rfl⟩
  rintro a _ ⟨b,rfl⟩;refine aK _ _ ?_
  refine Xg b rfl (fun o=>?_) (fun o=>?_)
  ·have a8:=o
   have y:idP p=false:=by rw [X7q,Xgr (k:=k) (l:=p.out) (by omega) (by rw [aG];intro e;have:=o;rw [e] at this;simp [varA] at this)];simp
   refine Zs b fun _ aL=>?_;refine Za rfl<|Zt aL fun a b=>?_;refine wp_ret<|Xr<|X8<|X8 ?_;refine Xr<|X8<|X7 b (X03 b rfl rfl) ?_
   rw [y];exact ⟨rfl,q⟩
  have a8:=o
  have aT:p.out.getD k afZ=varA k:=by rw [aG];exact Xwd o
  refine wp_skip<|Xa<|aH _ _<|Zr b ?_;refine Ze (Xm rfl rfl (by omega) (by omega))<|Zm rfl ?_;refine Zn fun a b=>?_;refine Xb ?_;exact ⟨k+1,⟨b.sb,(by omega),(Xdo C aT),q⟩,(by omega)⟩
 have i:=g;have g:=of_decide_eq_false g
 have aU:k=p.out.length:=by have:=g;omega
 subst aU
 have y:idP p=true:=by rw [X7q,aS,C];rfl
 refine wp_exit<|Xe<|Xe<|Xq ?_;refine aC _ _<|Zs b fun _ aM=>?_;refine Za rfl<|Zt aM fun a b=>?_
 refine wp_ret (X7 b (X03 b rfl rfl) ?_)
 rw [y];exact ⟨rfl,q⟩
theorem Xsk(D:World)(c:Cx)(Ac:Option Addr)(cc:Nat)(J:Rd D D.heap.size 114 encG Ac c.gs)(bF:c.gs.length≤100000) : Ret Tryz.prog 35 [.agg #[vi c.n,.slice Ac c.gs.length cc]] D (fun v w=>∃ A9 c9,v=.agg #[vi c.n,.slice A9 (invL c.gs).length c9]∧Own w D.heap.size 114 3 encG A9 c9 (invL c.gs)∧Below D.heap.size D w):=by
 refine enter Tryz.func35 rfl 38 rfl rfl ?_;intro a o
 have i:=bz D
 refine Zs o fun _ b2=>?_;refine Zf (X1b (zs:=[vi c.n,.slice Ac c.gs.length cc]) rfl rfl) ?_;rintro _ w1 ⟨b3,rfl,b4,t,d⟩;have bD:=Nat.le_trans i.size b4;have i:=btr i t;refine Zf (X4 (zs:=[vi 0,.slice none 0 0]) X5a rfl) ?_;rintro _ w2 ⟨b5,rfl,b6,t,e⟩
 have aZ:b3≠b5:=by have:=d.lt;omega
 have aJ:=Nat.le_trans i.size b6;have d:=d.below t;have i:=btr i t;refine Zx b2 fun a o _ b7=>?_;refine Ze (Vd rfl X33 0)<|Ze (X0 rfl X2 (d.at 0))<|Ze (Xs (ps:=[(0,vi c.n)]) (cs:=[vi c.n,.slice none 0 0]) rfl (fun _=>by first|rfl|kernel_rfl))<|Zf (X4 (zs:=[vi 0,.slice none 0 0]) X5a rfl) ?_;rintro _ w3 ⟨b9,rfl,a8,t,f⟩
 have b0:b3≠b9:=by have:=d.lt;omega
 have b1:b5≠b9:=by have:=e.lt;omega
 have a7:=Nat.le_trans i.size a8;have d:=d.below t;have e:=e.below t;have i:=btr i t;refine Zo (Vw [vi c.n,.slice none 0 0] X1i f) ?_;rintro _ w4 ⟨B,hb⟩;have p:=f;have d:=d.only B (by omega);have e:=e.only B (by omega);have i:=Below.only i B a7;have f:=hb;refine ZX b7 fun a o _ aK=>?_;refine Zs o fun _ aL=>?_;refine Ze (Vd rfl X0y 1)<|Ze (X0 rfl X35 (d.at 1))<|Ze (X10 rfl X13)<|Ze (Vx (X11 rfl rfl (by omega) (by omega)) (show _=((c.gs.length:Int)-1-((0:Nat) : Int)) from (by omega)))<|Za rfl ?_;refine Zt aL fun a o=>?_;refine wp_block<|Xw (σ:=Nat×(List Gt)) (fun (s:Nat×(List Gt)) (a:Act) (w:World)=>match s with|(k,l)=>∃ E G,Fr a 38 [(1,.pointer (some ⟨b3,0,none⟩)),(2,.pointer (some ⟨b5,0,none⟩)),(3,.pointer (some ⟨b9,0,none⟩)),(4,vi ((c.gs.length:Int)-1-(k:Int)))]∧(k≤c.gs.length)∧(l=(c.gs.reverse.take k).flatMap invG)∧(l.length≤7*k)∧Blk w b3 48 [vi c.n,.slice Ac c.gs.length cc]∧Blk w b5 48 [vi 0,.slice none 0 0]∧Blk w b9 48 [vi c.n,.slice E l.length G]∧Own w D.heap.size 114 3 encG E G l∧Below D.heap.size D w) (fun (s:Nat×(List Gt))=>match s with|(k,l)=>c.gs.length-k) (0,[]) ?_ ?_
 ·exact ⟨none,0,o.sb,(Nat.zero_le _),rfl,(Nat.le_refl _),d,e,f,(Own.nil _ _ _ _ _),i⟩
 rintro ⟨k,l⟩ a w5 ⟨E,G,o,hk,hl,bG,d,e,f,m,i⟩;refine wp_seq_k fun _ aM=>?_;refine Zs o fun _ aN=>?_;refine Zm rfl<|Ze (Xnj rfl rfl)<|Zt aN fun a o=>?_
 refine Xg o rfl (fun q=>?_) (fun q=>?_)
 ·have aA:=q;have q:=of_decide_eq_true q
  have b8:k<c.gs.length:=by have:=q;omega
  have bH:=Xng (c.gs.getD (c.gs.length-1-k) gZ);refine wp_skip<|aM _ _<|wp_seq_k fun _ aO=>?_;refine wp_block<|Zs o fun _ aP=>?_;refine Ze (Vd rfl X0y 1)<|Ze (X0 rfl X35 (d.at 1))<|Zm rfl<|Zi (k:=(c.gs.length-1-k)) (u:=(c.gs.getD (c.gs.length-1-k) gZ)) (enc:=encG) (l:=c.gs) trivial rfl rfl X13 X23 X0s (J.below' i) (Xsv (by omega)) (by omega) ?_;intro bJ aB;refine Ze (X04 (l:=[vi ((c.gs.getD (c.gs.length-1-k) gZ).k),vi ((c.gs.getD (c.gs.length-1-k) gZ).a),vi ((c.gs.getD (c.gs.length-1-k) gZ).b)]) rfl X1f aB rfl)<|Zf (Vc (Xsj _ (c.gs.getD (c.gs.length-1-k) gZ)) Xi2) ?_;rintro _ w6 ⟨rfl,t⟩;have d:=d.below t;have e:=e.below t;have f:=f.below t;have m:=m.below t;have i:=btr i t;refine Zm rfl<|Ze (X9 (vs:=[.agg #[vi ((bkG (c.gs.getD (c.gs.length-1-k) gZ)).k),vi ((bkG (c.gs.getD (c.gs.length-1-k) gZ)).a),vi ((bkG (c.gs.getD (c.gs.length-1-k) gZ)).b)],vi (bkN (c.gs.getD (c.gs.length-1-k) gZ))]) rfl rfl)<|Ze (Vx (X9 (vs:=[.agg #[vi ((bkG (c.gs.getD (c.gs.length-1-k) gZ)).k),vi ((bkG (c.gs.getD (c.gs.length-1-k) gZ)).a),vi ((bkG (c.gs.getD (c.gs.length-1-k) gZ)).b)],vi (bkN (c.gs.getD (c.gs.length-1-k) gZ))]) rfl rfl) (show _=(bkN (c.gs.getD (c.gs.length-1-k) gZ)-((0:Nat) : Int)) from (by omega)))<|Zf (X4 (zs:=[vi 0,vi 0,vi 0]) X8d rfl) ?_;rintro _ w7 ⟨W,rfl,L,t,g⟩;have aC:=Nat.le_trans i.size L;have aQ:=(J.below' i).away L;have y:=m.away L;have d:=d.below t;have e:=e.below t;have f:=f.below t;have m:=m.below t;have i:=btr i t;refine Zo (Vw [vi ((bkG (c.gs.getD (c.gs.length-1-k) gZ)).k),vi ((bkG (c.gs.getD (c.gs.length-1-k) gZ)).a),vi ((bkG (c.gs.getD (c.gs.length-1-k) gZ)).b)] X23 g) ?_;rintro _ w8 ⟨B,hb⟩
  have p:=g;have d:=d.only B (Blk.ne d p rfl);have e:=e.only B (Blk.ne e p rfl);have f:=f.only B (Blk.ne f p rfl);have m:=m.onlyA B y;have i:=Below.only i B aC;have g:=hb;refine Za rfl<|Zt aP fun a o=>?_;refine wp_block<|Xw (σ:=Nat×(List Gt)) (fun (s:Nat×(List Gt)) (a:Act) (w:World)=>match s with|(j,l2)=>∃ M a6,Fr a 38 [(1,.pointer (some ⟨b3,0,none⟩)),(2,.pointer (some ⟨b5,0,none⟩)),(3,.pointer (some ⟨b9,0,none⟩)),(4,vi ((c.gs.length:Int)-1-(k:Int))),(5,.pointer (some ⟨W,0,none⟩)),(6,vi (bkN (c.gs.getD (c.gs.length-1-k) gZ)-(j:Int)))]∧((j:Int)≤bkN (c.gs.getD (c.gs.length-1-k) gZ))∧(l2=l++List.replicate j (bkG (c.gs.getD (c.gs.length-1-k) gZ)))∧(l2.length=l.length+j)∧Blk w b3 48 [vi c.n,.slice Ac c.gs.length cc]∧Blk w b5 48 [vi 0,.slice none 0 0]∧Blk w b9 48 [vi c.n,.slice M l2.length a6]∧Blk w W 114 [vi ((bkG (c.gs.getD (c.gs.length-1-k) gZ)).k),vi ((bkG (c.gs.getD (c.gs.length-1-k) gZ)).a),vi ((bkG (c.gs.getD (c.gs.length-1-k) gZ)).b)]∧Own w D.heap.size 114 3 encG M a6 l2∧Away M W∧Below D.heap.size D w) (fun (s:Nat×(List Gt))=>match s with|(j,l2)=>(bkN (c.gs.getD (c.gs.length-1-k) gZ)).toNat-j) (0,l) ?_ ?_
  ·exact ⟨E,G,o.sb,(by omega),(by simp),rfl,d,e,f,g,m,y,i⟩
  rintro ⟨j,l2⟩ a w9 ⟨M,a6,o,hj,aR,bE,d,e,f,g,h,A,i⟩;refine wp_seq_k fun _ aS=>?_;refine Zs o fun _ aT=>?_;refine Zm rfl<|Ze (X3o rfl rfl)<|Zt aT fun a o=>?_
  refine Xg o rfl (fun x=>?_) (fun x=>?_)
  ·have aD:=x;have x:=of_decide_eq_true x;refine wp_skip<|aS _ _<|wp_seq_k fun _ aU=>?_;refine wp_block<|Zr o<|Ze (Vd rfl X0y 1)<|Ze (X0 rfl X35 (f.at 1))<|Ze (Vn X1f g)<|Zf (X5 (k:=1) (vs:=[.agg #[vi ((bkG (c.gs.getD (c.gs.length-1-k) gZ)).k),vi ((bkG (c.gs.getD (c.gs.length-1-k) gZ)).a),vi ((bkG (c.gs.getD (c.gs.length-1-k) gZ)).b)]]) (zs:=[vi ((bkG (c.gs.getD (c.gs.length-1-k) gZ)).k),vi ((bkG (c.gs.getD (c.gs.length-1-k) gZ)).a),vi ((bkG (c.gs.getD (c.gs.length-1-k) gZ)).b)]) rfl X13 X0k rfl rfl) ?_;rintro _ bK ⟨b26,rfl,N,t,Q⟩
   have aH:W≠b26:=by have:=g.lt;omega
   have bA:=Nat.le_trans i.size N;have aW:=(J.below' i).away N;have H:=h.away N;have d:=d.below t;have e:=e.below t;have f:=f.below t;have g:=g.below t;have h:=h.below t;have i:=btr i t;refine Zf (X0p (enc:=encG) (l:=(l2)) (l2:=([(bkG (c.gs.getD (c.gs.length-1-k) gZ))])) (B0:=D.heap.size) rfl rfl X13 X0k X0s X1a h (Rd.of_blk Q rfl _ Q.lt) (by simp only [maxLen];simp;omega) (by simp;omega) i.size) ?_;rintro _ bL ⟨aE,aF,rfl,U,hg,aG⟩
   have C:Own _ D.heap.size 114 3 encG _ _ (l2):=h
   have I:=aG _ g.lt A;have aI:=aG _ Q.lt H;clear aG;have d:=d.appT C hg rfl;have e:=e.appT C hg rfl;have f:=f.appT C hg rfl;have g:=g.appA hg A;have i:=Below.app i C hg (Nat.le_refl _) i.size;clear C hg;refine Ze (Vd rfl X0y 1)<|Zo (Vu (vs:=[.slice aE (l2++([(bkG (c.gs.getD (c.gs.length-1-k) gZ))])).length aF]) (l':=[vi c.n,.slice aE (l2++([(bkG (c.gs.getD (c.gs.length-1-k) gZ))])).length aF]) rfl rfl X6v f) ?_;rintro _ bM ⟨B,hb⟩;have p:=f;have d:=d.only B (by omega);have e:=e.only B (by omega);have g:=g.only B (Blk.ne g p rfl);have U:=U.onlyT B p rfl;have i:=Below.only i B a7;have f:=hb;refine Zn fun a o=>?_;refine Xa<|aU _ _<|Zr o<|Zm rfl<|Ze (Vx (X11 rfl rfl (by omega) (by omega)) (show _=(bkN (c.gs.getD (c.gs.length-1-k) gZ)-((j+1:Nat) : Int)) from (by omega)))<|Za rfl ?_;refine Zn fun a o=>?_;refine Xb ?_;exact ⟨(j+1,l2++([(bkG (c.gs.getD (c.gs.length-1-k) gZ))])),⟨aE,aF,o.sb,(by omega),(by rw [aR,Xnu,List.append_assoc]),(by simp;omega),d,e,f,g,U,I,i⟩,(by first|omega|(dsimp only;omega))⟩
  have aD:=x;have x:=of_decide_eq_false x
  have bB:bkN (c.gs.getD (c.gs.length-1-k) gZ)≤(j:Int):=by have:=x;omega
  refine wp_exit<|Xe<|Xe<|Xq ?_;refine Xa<|aO _ _<|Zr o<|Zm rfl<|Ze (Vx (X11 rfl rfl (by omega) (by omega)) (show _=((c.gs.length:Int)-1-((k+1:Nat) : Int)) from (by omega)))<|Za rfl ?_;refine Zn fun a o=>?_;refine Xb ?_;exact ⟨(k+1,l2),⟨M,a6,o.sb,(by omega),(by rw [Xnm b8,aR,← hl,show (bkN (c.gs.getD (c.gs.length-1-k) gZ)).toNat=j from by have:=bB;omega]),(by omega),d,e,f,h,i⟩,(by first|omega|(dsimp only;omega))⟩
 have aA:=q;have q:=of_decide_eq_false q
 have bC:k=c.gs.length:=by have:=q;omega
 have aX:l=invL c.gs:=by rw [hl,bC,← List.length_reverse,List.take_length];rfl
 refine wp_exit<|Xe<|Xe<|Xq ?_;refine aK _ _<|Zs o fun _ aY=>?_;refine Ze (Vn X1e f)<|Zo (Vw [vi c.n,.slice E l.length G] X1i e) ?_;rintro _ bN ⟨B,hb⟩;have p:=e;have m:=m.onlyT B p rfl;have i:=Below.only i B aJ;have e:=hb;refine Zt aY fun a o=>?_
 refine wp_ret (X7 o (X03 o rfl (ResV.cellN (l:=[vi c.n,.slice E l.length G]) rfl X1e (e.at 0) rfl)) ?_)
 have a8:=aX
 subst a8
 exact ⟨E,G,rfl,m,i⟩
theorem Xrv(D:World)(p:Cx)(Ap:Option Addr)(cp:Nat)(J:Rd D D.heap.size 114 encG Ap p.gs)(q:Cx)(Aq:Option Addr)(cq:Nat)(L:Rd D D.heap.size 114 encG Aq q.gs)(aU:p.gs.length≤2000000)(aW:q.gs.length≤2000000) : Ret Tryz.prog 34 [.agg #[vi p.n,.slice Ap p.gs.length cp],.agg #[vi q.n,.slice Aq q.gs.length cq]] D (fun v w=>∃ A c1,v=.tuple #[.agg #[vi ((conO p q).getD cZ).n,.slice A ((conO p q).getD cZ).gs.length c1],.bool (conO p q).isSome]∧Own w D.heap.size 114 3 encG A c1 ((conO p q).getD cZ).gs∧Below D.heap.size D w):=by
 refine enter Tryz.func34 rfl 42 rfl rfl ?_;intro a o
 have g:=bz D
 refine Zs o fun _ aJ=>?_;refine Zf (X1b (zs:=[vi p.n,.slice Ap p.gs.length cp]) rfl rfl) ?_;rintro _ w1 ⟨b4,rfl,aK,j,i⟩;have aS:=Nat.le_trans g.size aK;have g:=btr g j;refine Zf (X1b (zs:=[vi q.n,.slice Aq q.gs.length cq]) rfl rfl) ?_;rintro _ w2 ⟨b5,rfl,aL,j,f⟩
 have aG:b4≠b5:=by have:=i.lt;omega
 have aT:=Nat.le_trans g.size aL;have i:=i.below j;have g:=btr g j;refine Zf (X4 (zs:=[vi 0,.slice none 0 0]) X5a rfl) ?_;rintro _ w3 ⟨b7,rfl,aM,j,e⟩
 have aH:b4≠b7:=by have:=i.lt;omega
 have aI:b5≠b7:=by have:=f.lt;omega
 have M:=Nat.le_trans g.size aM;have i:=i.below j;have f:=f.below j;have g:=btr g j;refine Za rfl<|ZX aJ fun a o _ aN=>?_;refine wp_seq_k fun _ aO=>?_;refine X0i (fun a w=>Fr a 42 [(2,.pointer (some ⟨b4,0,none⟩)),(3,.pointer (some ⟨b5,0,none⟩)),(4,.pointer (some ⟨b7,0,none⟩)),(31,.bool ((((!(cOk p))||(!(cOk q)))||(p.n != q.n))||(decide (400<((p.gs.length:Int)+(q.gs.length:Int))))))]∧Below w3.heap.size w3 w) ?_ ?_
 ·have u:Below w3.heap.size w3 w3:=Below.refl _ _
  refine Zr o<|Ze (Vn X1e i)<|Zf (Vc (F53 _ p Ap cp (J.below' g).top) Xrp) ?_;rintro _ w4 ⟨rfl,j⟩;have i:=i.below j;have f:=f.below j;have g:=btr g j;have u:=btr u j;refine Ze (X1v rfl)<|Zm rfl ?_
  refine Zg 10 rfl (fun d=>?_) (fun d=>?_)
  ·refine Zp (gP d) ?_;refine Zp (gP d) ?_;refine Zp (gP d) ?_;refine Ze (X6 rfl d rfl)<|Zm rfl<|Zp (gP rfl) ?_;refine Zp (gP rfl) ?_;refine Zp (gP rfl) ?_;refine Zp (gP rfl) ?_;refine Zp (gP rfl) ?_;refine Ze (X6 rfl rfl rfl)<|Zm rfl<|Zp (gP rfl) ?_;refine Zp (gP rfl) ?_;refine Zp (gP rfl) ?_;refine Zp (gP rfl) ?_;refine Zp (gP rfl) ?_;refine Zp (gP rfl) ?_;refine Zp (gP rfl) ?_;refine Zp (gP rfl) ?_;refine Ze (X6 rfl rfl rfl) ?_;refine Zn fun a o=>?_
   have h:Below w3.heap.size w3 w4:=u
   exact ⟨o.sub ⟨rfl,rfl,rfl,X1 rfl (by first|rfl|(simp only [d,bs];done)|simp [d]),trivial⟩,h⟩
  refine Zv (gW d) (Vn X1e f) ?_;refine Zk (gW d) (Vc (F53 _ q Aq cq (L.below' g).top) Xrp) ?_;rintro _ w5 ⟨rfl,j⟩;have i:=i.below j;have f:=f.below j;have g:=btr g j;have u:=btr u j;refine Zv (gW d) (X1v rfl) ?_;refine Ze (Xf rfl d rfl)<|Zm rfl ?_
  refine Zg 15 rfl (fun c=>?_) (fun c=>?_)
  ·refine Zp (gP c) ?_;refine Zp (gP c) ?_;refine Zp (gP c) ?_;refine Zp (gP c) ?_;refine Zp (gP c) ?_;refine Ze (X6 rfl c rfl)<|Zm rfl<|Zp (gP rfl) ?_;refine Zp (gP rfl) ?_;refine Zp (gP rfl) ?_;refine Zp (gP rfl) ?_;refine Zp (gP rfl) ?_;refine Zp (gP rfl) ?_;refine Zp (gP rfl) ?_;refine Zp (gP rfl) ?_;refine Ze (X6 rfl rfl rfl) ?_;refine Zn fun a o=>?_
   have h:Below w3.heap.size w3 w5:=u
   exact ⟨o.sub ⟨rfl,rfl,rfl,X1 rfl (by first|rfl|(simp only [d,c,bs];done)|simp [d,c]),trivial⟩,h⟩
  refine Zv (gW c) (Vd rfl X33 0) ?_;refine Zv (gW c) (X0 rfl X2 (i.at 0)) ?_;refine Zv (gW c) (Vd rfl X33 0) ?_;refine Zv (gW c) (X0 rfl X2 (f.at 0)) ?_;refine Zv (gW c) (X3q rfl rfl) ?_;refine Ze (Xf rfl c rfl)<|Zm rfl ?_
  refine Zg 22 rfl (fun b=>?_) (fun b=>?_)
  ·refine Zp (gP b) ?_;refine Zp (gP b) ?_;refine Zp (gP b) ?_;refine Zp (gP b) ?_;refine Zp (gP b) ?_;refine Zp (gP b) ?_;refine Zp (gP b) ?_;refine Zp (gP b) ?_;refine Ze (X6 rfl b rfl) ?_;refine Zn fun a o=>?_
   have h:Below w3.heap.size w3 w5:=u
   exact ⟨o.sub ⟨rfl,rfl,rfl,X1 rfl (by first|rfl|(simp only [d,c,b,bs];done)|simp [d,c,b]),trivial⟩,h⟩
  refine Zv (gW b) (Vd rfl X0y 1) ?_;refine Zv (gW b) (X0 rfl X35 (i.at 1)) ?_;refine Zv (gW b) (X10 rfl X13) ?_;refine Zv (gW b) (Vd rfl X0y 1) ?_;refine Zv (gW b) (X0 rfl X35 (f.at 1)) ?_;refine Zv (gW b) (X10 rfl X13) ?_;refine Zv (gW b) (Xm rfl rfl (by omega) (by omega)) ?_;refine Zv (gW b) (X3o rfl rfl) ?_;refine Ze (Xf rfl b rfl) ?_;refine Zn fun a o=>?_
  have h:Below w3.heap.size w3 w5:=u
  exact ⟨o.sub ⟨rfl,rfl,rfl,X1 rfl (by first|rfl|(simp only [d,c,b,bs];done)|simp [d,c,b]),trivial⟩,h⟩
 rintro a w6 ⟨o,j⟩;have i:=i.below j;have f:=f.below j;have e:=e.below j;have g:=btr g j;refine aO _ _ ?_
 refine Xg o rfl (fun x=>?_) (fun x=>?_)
 ·have a6:=x
  have E:conO p q=none:=by unfold conO;have h7:=x;rw [if_neg];revert h7;cases cOk p<;>cases cOk q<;>simp<;>omega
  refine Zs o fun _ a7=>?_;refine Ze (Xs (ps:=[]) (cs:=[vi 0,.slice none 0 0]) rfl (fun _=>by first|rfl|kernel_rfl))<|Zo (Vw [vi 0,.slice none 0 0] X1i e) ?_;rintro _ w7 ⟨C,hb⟩;have t:=e;have g:=Below.only g C M;have e:=hb;refine Za rfl<|Zt a7 fun a o=>?_;refine wp_ret<|X8<|X7 o (X2l o rfl (ResV.cellN (l:=[vi 0,.slice none 0 0]) rfl X1e (e.at 0) rfl) rfl) ?_
  rw [E]
  exact ⟨none,0,rfl,(Own.nil _ _ _ _ _),g⟩
 have a6:=x
 have E:conO p q=some ⟨p.n,p.gs++q.gs⟩:=by unfold conO;have h7:=x;rw [if_pos];revert h7;cases cOk p<;>cases cOk q<;>simp<;>omega
 refine wp_skip<|aN _ _<|Zs o fun _ a8=>?_;refine Ze (Vn X1e i)<|Zf (Vc (Xs3 _ p Ap cp (J.below' g).top (by omega)) Xim) ?_;rintro _ w8 ⟨aP,aQ,rfl,m,j⟩;have m:=m.lower g.size;have i:=i.below j;have f:=f.below j;have e:=e.below j;have g:=btr g j;refine Zf (X4 (zs:=[vi 0,.slice none 0 0]) X5a rfl) ?_;rintro _ w9 ⟨b19,rfl,aA,j,k⟩
 have aB:b4≠b19:=by have:=i.lt;omega
 have aC:b5≠b19:=by have:=f.lt;omega
 have aD:b7≠b19:=by have:=e.lt;omega
 have G:=Nat.le_trans g.size aA;have f:=f.below j;have e:=e.below j;have m:=m.below j;have g:=btr g j;refine Zo (Vw [vi p.n,.slice aP p.gs.length aQ] X1i k) ?_;rintro _ aX ⟨C,hb⟩;have t:=k;have f:=f.only C (by omega);have e:=e.only C (by omega);have m:=m.onlyT C t rfl;have g:=Below.only g C G;have k:=hb;refine Zx a8 fun a o _ aE=>?_;refine Ze (Vd rfl X0y 1)<|Ze (X0 rfl X35 (k.at 1))<|Ze (Vd rfl X0y 1)<|Ze (X0 rfl X35 (f.at 1))<|Zf (X0p (enc:=encG) (l:=(p.gs)) (l2:=(q.gs)) (B0:=D.heap.size) rfl rfl X13 X0k X0s X1a m (L.below' g) (by simp only [maxLen];omega) (by omega) g.size) ?_;rintro _ aY ⟨H,I,rfl,y,hg,aR⟩
 have B:Own _ D.heap.size 114 3 encG _ _ (p.gs):=m
 clear aR;have e:=e.appT B hg rfl;have k:=k.appT B hg rfl;have g:=Below.app g B hg (Nat.le_refl _) g.size;clear B hg;refine Ze (Vd rfl X0y 1)<|Zo (Vu (vs:=[.slice H (p.gs++q.gs).length I]) (l':=[vi p.n,.slice H (p.gs++q.gs).length I]) rfl rfl X6v k) ?_;rintro _ aZ ⟨C,hb⟩;have t:=k;have e:=e.only C (by omega);have y:=y.onlyT C t rfl;have g:=Below.only g C G;have k:=hb;refine Zx aE fun a o _ aF=>?_;refine Ze (Vn X1e k)<|Zo (Vw [vi p.n,.slice H (p.gs++q.gs).length I] X1i e) ?_;rintro _ b0 ⟨C,hb⟩;have t:=e;have y:=y.onlyT C t rfl;have g:=Below.only g C M;have e:=hb;refine Za rfl<|Zt aF fun a o=>?_
 refine wp_ret (X7 o (X2l o rfl (ResV.cellN (l:=[vi p.n,.slice H (p.gs++q.gs).length I]) rfl X1e (e.at 0) rfl) rfl) ?_)
 rw [E]
 exact ⟨H,I,rfl,y,g⟩
def Cg(x y:Int) : Prop:=∃ q:Int,x=y+8*q
theorem Cg.refl(x:Int) : Cg x x:=⟨0,by omega⟩
theorem Cg.of{x y:Int}(h:x=y) : Cg x y:=⟨0,by omega⟩
theorem Cg.symm{x y:Int}(h:Cg x y) : Cg y x:=by obtain ⟨q,h⟩:=h;exact ⟨-q,by omega⟩
theorem Cg.trans{x y z:Int}(h:Cg x y)(k:Cg y z) : Cg x z:=by obtain ⟨q,h⟩:=h;obtain ⟨r,k⟩:=k;exact ⟨q+r,by omega⟩
theorem Cg.add{x y z w:Int}(h:Cg x y)(k:Cg z w) : Cg (x+z) (y+w):=by obtain ⟨q,h⟩:=h;obtain ⟨r,k⟩:=k;exact ⟨q+r,by omega⟩
theorem Cg.mod(x:Int) : Cg (x % 8) x:=⟨-(x/8),by omega⟩
theorem Cg.mul{x y:Int}(k:Int)(h:Cg x y) : Cg (k*x) (k*y):=by
 obtain ⟨q,h⟩:=h;exact ⟨k*q,by rw [h,Int.mul_add,Int.mul_left_comm]⟩
def omZ(k:Int) : Rg:=om^(k % 8).toNat
theorem Xc7{x y:Int}(h:Cg x y) : omZ x=omZ y:=by
 obtain ⟨q,h⟩:=h
 unfold omZ
 rw [show x % 8=y % 8 from by omega]
theorem Xh4(x y:Int) : omZ (x+y)=omZ x*omZ y:=by
 unfold omZ
 rw [← X2p,Xj6 ((x % 8).toNat+(y % 8).toNat)]
 congr 1
 omega
def subI(a:Nat→Bool)(m:Int) : Int:=if (List.range 62).all (fun i=>!m.toNat.testBit i||a i) then 1 else 0
def numB(a:Nat→Bool)(m:Int) : Nat:=(List.range 62).countP fun i=>m.toNat.testBit i&&a i
def avI(a:Nat→Bool)(u:Af) : Int:=((numB a u.m:Int)+u.t) % 2
theorem X47(a:Nat→Bool)(m:Int) : subI a m=0∨subI a m=1:=by unfold subI;split<;>simp
theorem Xex(a:Nat→Bool){x y:Nat}(hx:x<2^62)(hy:y<2^62) : subI a (oI x y)=subI a x*subI a y:=by
 unfold oI
 rw [X1x hx hy]
 unfold subI
 simp only [Int.toNat_natCast,Nat.testBit_or]
 have e:(List.range 62).all (fun i=>!(x.testBit i||y.testBit i)||a i)=((List.range 62).all (fun i=>!x.testBit i||a i)&&(List.range 62).all (fun i=>!y.testBit i||a i)):=by
  induction List.range 62 with
  | nil=>rfl
  | cons i l ih=>
   simp only [List.all_cons,ih]
   cases x.testBit i<;>cases y.testBit i<;>cases a i<;>simp
 rw [e]
 rcases Bool.eq_false_or_eq_true ((List.range 62).all fun i=>!x.testBit i||a i) with h1|h1<;>rcases Bool.eq_false_or_eq_true ((List.range 62).all fun i=>!y.testBit i||a i) with h2|h2<;>simp only [h1,h2]<;>rfl
theorem sub_zero(a:Nat→Bool) : subI a 0=1:=by
 unfold subI
 rw [if_pos]
 rw [List.all_eq_true]
 intro i _
 simp
theorem Xg8(a:Nat→Bool){k:Nat}(h:k<62) : subI a ((2^k:Nat) : Int)=if a k then 1 else 0:=by
 unfold subI
 cases e:a k
 ·rw [if_neg,if_neg (by decide)]
  rw [List.all_eq_true]
  intro h2
  have:=h2 k (List.mem_range.2 h)
  rw [Int.toNat_natCast,Nat.testBit_two_pow_self,e] at this
  cases this
 ·rw [if_pos,if_pos rfl]
  rw [List.all_eq_true]
  intro i _
  rw [Int.toNat_natCast,Nat.testBit_two_pow]
  by_cases e2:k=i
  ·subst e2;rw [e];simp
  ·simp [e2]
theorem Xo4(a:Nat→Bool){x y:Nat}(hx:x<2^62)(hy:y<2^62) : (numB a (xI x y)) % 2=(numB a x+numB a y) % 2:=by
 unfold xI
 rw [X0r hx hy]
 unfold numB
 simp only [Int.toNat_natCast,Nat.testBit_xor]
 induction List.range 62 with
 | nil=>rfl
 | cons i l ih=>
  simp only [List.countP_cons]
  cases x.testBit i<;>cases y.testBit i<;>cases a i<;>simp<;>omega
theorem Xf1(a:Nat→Bool)(u:Af) : avI a u=0∨avI a u=1:=by unfold avI;omega
theorem Xub(a:Nat→Bool){u v:Af}(hu:AO u)(hv:AO v) : avI a (aXor u v)=(avI a u+avI a v) % 2:=by
 obtain ⟨x,hx,e⟩:=hu.1.nat;obtain ⟨y,hy,e'⟩:=hv.1.nat;have h:=Xo4 a (X0a hx) (X0a hy)
 unfold avI aXor
 simp only
 rw [e,e',Xtg hu.2 hv.2]
 rcases hu.2 with h1|h1<;>rcases hv.2 with h2|h2<;>rw [h1,h2]<;>simp<;>omega
theorem Xtv(a:Nat→Bool){k:Nat}(h:k<62) : avI a (varA k)=if a k then 1 else 0:=by
 have h1:numB a ((2^k:Nat) : Int)=if a k then 1 else 0:=by
  unfold numB
  rw [Int.toNat_natCast]
  have e:(fun i=>(2^k).testBit i&&a i)=fun i=>decide (i=k)&&a k:=by
   funext i
   rw [Nat.testBit_two_pow]
   by_cases e2:i=k
   ·subst e2;simp
   ·have:¬ k=i:=fun h=>e2 h.symm
    simp [e2,this]
  rw [e]
  cases a k
  ·simp
  ·simp only [Bool.and_true,if_true]
   have:(fun i=>decide (i=k))=fun i=>(i==k):=by funext i;rw [Bool.eq_iff_iff];simp
   rw [this,← List.count_eq_countP',List.count_range,if_pos h]
 unfold avI varA
 simp only
 rw [h1]
 cases a k<;>rfl
def evL(a:Nat→Bool)(L:List Sm) : Int:=(L.map fun p=>p.2*subI a p.1).sum
theorem X53(a:Nat→Bool) : evL a []=0:=rfl
theorem X2q(a:Nat→Bool)(p:Sm)(L:List Sm) : evL a (p::L)=p.2*subI a p.1+evL a L:=by simp [evL]
theorem X5w(a:Nat→Bool)(L M:List Sm) : evL a (L++M)=evL a L+evL a M:=by simp [evL]
def T2:Nat→Nat
 | 0=>0
 | c+1=>T2 c+c
def T3:Nat→Nat
 | 0=>0
 | c+1=>T3 c+T2 c
theorem Xsn:∀ c:Nat,(c % 8=0∧T2 c % 4=0∧T3 c % 2=0)∨(c % 8=1∧T2 c % 4=0∧T3 c % 2=0)∨(c % 8=2∧T2 c % 4=1∧T3 c % 2=0)∨(c % 8=3∧T2 c % 4=3∧T3 c % 2=1)∨
  (c % 8=4∧T2 c % 4=2∧T3 c % 2=0)∨(c % 8=5∧T2 c % 4=2∧T3 c % 2=0)∨(c % 8=6∧T2 c % 4=3∧T3 c % 2=0)∨(c % 8=7∧T2 c % 4=1∧T3 c % 2=1)
 | 0=>.inl ⟨rfl,rfl,rfl⟩
 | c+1=>by
  have h:=Xsn c
  rw [T2,T3]
  rcases h with ⟨h1,h2,h3⟩|⟨h1,h2,h3⟩|⟨h1,h2,h3⟩|⟨h1,h2,h3⟩|⟨h1,h2,h3⟩|⟨h1,h2,h3⟩|⟨h1,h2,h3⟩|⟨h1,h2,h3⟩
  ·exact .inr (.inl ⟨by omega,by omega,by omega⟩)
  ·exact .inr (.inr (.inl ⟨by omega,by omega,by omega⟩))
  ·exact .inr (.inr (.inr (.inl ⟨by omega,by omega,by omega⟩)))
  ·exact .inr (.inr (.inr (.inr (.inl ⟨by omega,by omega,by omega⟩))))
  ·exact .inr (.inr (.inr (.inr (.inr (.inl ⟨by omega,by omega,by omega⟩)))))
  ·exact .inr (.inr (.inr (.inr (.inr (.inr (.inl ⟨by omega,by omega,by omega⟩))))))
  ·exact .inr (.inr (.inr (.inr (.inr (.inr (.inr ⟨by omega,by omega,by omega⟩))))))
  ·exact .inl ⟨by omega,by omega,by omega⟩
def GI(c:Nat) : Int:=(c:Int)-2*(T2 c:Int)+4*(T3 c:Int)
theorem Xul(c:Nat) : Cg (GI c) ((c:Int) % 2):=by
 have h:=Xsn c
 refine ⟨(GI c-(c:Int) % 2)/8,?_⟩
 unfold GI
 omega
def cB(a:Nat→Bool)(l:List Int) : Nat→Nat
 | 0=>0
 | n+1=>cB a l n+(subI a (l.getD n 0)).toNat
def Wl(l:List Int) : Prop:=∀ x ∈ l,∃ n:Nat,n<2^62∧x=(n:Int)
theorem Wl.at{l:List Int}(h:Wl l)(n:Nat) : ∃ k:Nat,k<2^62∧l.getD n 0=(k:Int):=by
 rw [List.getD_eq_getElem?_getD]
 cases e:l[n]? with
 | none=>exact ⟨0,by decide,rfl⟩
 | some x=>exact h x (List.mem_of_getElem? e)
theorem orN{x y:Nat}(hx:x<2^62)(hy:y<2^62) : ∃ z:Nat,z<2^62∧oI x y=(z:Int):=⟨x ||| y,Nat.or_lt_two_pow hx hy,by unfold oI;rw [X1x hx hy]⟩
section
variable {a : Nat → Bool} {l : List Int} (hl : Wl l) {k : Int}
include hl
theorem evZ{r x y:Int}(hr:∃ n:Nat,n<2^62∧oI (oI r x) y=(n:Int)) : ∀ n,evL a (exZL r x y k l n)=4*k*(subI a (oI (oI r x) y)*(cB a l n:Int))
 | 0=>by rw [exZL,cB,X53];simp
 | n+1=>by
  obtain ⟨R,hR,e⟩:=hr;obtain ⟨Q,hQ,e2⟩:=hl.at n
  rw [exZL,X5w,evZ ⟨R,hR,e⟩ n,X2q,X53,cB,e,e2,Xex a hR hQ]
  rcases X47 a (R:Int) with h1|h1<;>rcases X47 a (Q:Int) with h2|h2<;>rw [h1,h2]<;>simp<;>grind
theorem evY{r x:Int}(hr:∃ n:Nat,n<2^62∧oI r x=(n:Int)) : ∀ j,evL a (exYL r x k l j)=k*(subI a (oI r x)*(-2*(cB a l j:Int)+4*(T2 (cB a l j) : Int)))
 | 0=>by rw [exYL,cB,X53];simp [T2]
 | j+1=>by
  obtain ⟨R,hR,e⟩:=hr;obtain ⟨Q,hQ,e2⟩:=hl.at j
  have h3:∃ n:Nat,n<2^62∧oI (oI r x) (l.getD j 0)=(n:Int):=by rw [e,e2];exact orN hR hQ
  rw [exYL,X5w,evY ⟨R,hR,e⟩ j,X2q,evZ hl h3 j,cB,e,e2,Xex a hR hQ]
  rcases X47 a (R:Int) with h1|h1<;>rcases X47 a (Q:Int) with h2|h2<;>rw [h1,h2]<;>simp [T2]<;>grind
theorem evX{r:Nat}(hr:r<2^62) : ∀ i,evL a (exXL r k l i)=k*(subI a r*GI (cB a l i))
 | 0=>by rw [exXL,cB,X53];simp [GI,T2,T3]
 | i+1=>by
  obtain ⟨Q,hQ,e2⟩:=hl.at i
  have h3:∃ n:Nat,n<2^62∧oI r (l.getD i 0)=(n:Int):=by rw [e2];exact orN hr hQ
  rw [exXL,X5w,evX hr i,X2q,evY hl h3 i,cB,e2,Xex a hr hQ]
  rcases X47 a (r:Int) with h1|h1<;>rcases X47 a (Q:Int) with h2|h2<;>rw [h1,h2]<;>simp [GI,T2,T3]<;>grind
end
theorem Xlm(m:Int) : Wl (lows m):=fun _ h=>Xn1 h
theorem Xnb(a:Nat→Bool)(m:Int) : ((lows m).map (subI a)).sum=(numB a m:Int):=by
 unfold lows numB setN
 rw [List.map_map]
 have hall:∀ i ∈ List.range 62,i<62:=fun i h=>List.mem_range.1 h
 revert hall
 generalize List.range 62=L
 induction L with
 | nil=>intro _;rfl
 | cons i l ih=>
  intro h
  have hi:=h i (by simp)
  have ih:=ih fun j hj=>h j (by simp [hj])
  rw [List.filter_cons,List.countP_cons]
  cases e:m.toNat.testBit i
  ·simp only [Bool.false_eq_true,if_false,Bool.false_and,Nat.add_zero]
   exact ih
  ·simp only [if_true,List.map_cons,List.sum_cons,Function.comp,Bool.true_and,Xg8 a hi]
   rw [ih]
   cases a i<;>simp<;>omega
theorem Xkl(a:Nat→Bool)(l:List Int) : ∀ n,n≤l.length→(cB a l n:Int)=((l.take n).map (subI a)).sum
 | 0,_=>by rw [cB,List.take_zero];rfl
 | n+1,h=>by
  rw [cB,List.take_add_one,List.getElem?_eq_getElem (by omega),List.map_append,List.sum_append,← Xkl a l n (by omega)]
  rw [List.getD_eq_getElem?_getD,List.getElem?_eq_getElem (by omega)]
  simp only [Option.getD_some,Option.toList_some,List.map_cons,List.map_nil,List.sum_cons,List.sum_nil]
  rcases X47 a l[n] with h1|h1<;>rw [h1]<;>simp
theorem Xg0(a:Nat→Bool)(m:Int) : cB a (lows m) (lows m).length=numB a m:=by
 have:=Xkl a (lows m) (lows m).length (Nat.le_refl _)
 rw [List.take_length,Xnb] at this
 omega
theorem Xkd(a:Nat→Bool)(k:Int){u:Af}{r:Int}(ht:u.t=0∨u.t=1)(hr:Mk r) : Cg (evL a (expL k u r)) (k*(subI a r*avI a u)):=by
 obtain ⟨R,hR,rfl⟩:=hr.nat;obtain ⟨q,hq⟩:=Xul (numB a u.m)
 unfold expL avI
 rcases ht with h|h<;>rw [h]
 ·rw [if_neg (by decide),evX (Xlm _) (X0a hR),Xg0,hq]
  refine ⟨k*(subI a R*q),?_⟩
  rw [Int.add_zero]
  grind
 ·rw [if_pos rfl,X2q,evX (Xlm _) (X0a hR),Xg0,hq]
  have h2:((numB a u.m:Int)+1) % 2=1-(numB a u.m:Int) % 2:=by omega
  rw [h2]
  refine ⟨-(k*(subI a R*q)),?_⟩
  grind
def evN(f:Int→Int)(a:Nat→Bool) : Nat→Int
 | 0=>0
 | n+1=>evN f a n+f n*subI a n
theorem Xd8(f:Int→Int)(a:Nat→Bool)(m k:Int) : ∀ n:Nat,Cg (evN (padd f m k) a n) (evN f a n+if 0≤m∧m<(n:Int) then k*subI a m else 0)
 | 0=>by rw [if_neg (by omega)];exact Cg.refl _
 | n+1=>by
  obtain ⟨q,hq⟩:=Xd8 f a m k n
  rw [evN,evN,hq]
  by_cases e:m=(n:Int)
  ·subst e
   rw [if_neg (by omega),if_pos (by omega)]
   unfold padd
   rw [show upd f (n:Int) ((f n+k) % 8) n=(f n+k) % 8 from by unfold upd;simp]
   obtain ⟨r,hr⟩:=Cg.mod (f n+k)
   rw [hr]
   refine ⟨q+r*subI a n,?_⟩
   grind
  ·unfold padd
   rw [X2a (fun h=>e h.symm)]
   by_cases h2:0≤m∧m<(n:Int)
   ·rw [if_pos h2,if_pos (by omega)]
    exact ⟨q,by omega⟩
   ·rw [if_neg h2,if_neg (by omega)]
    exact ⟨q,by omega⟩
theorem Xfn(a:Nat→Bool)(l m:List Tm) : evL a (sm (l++m))=evL a (sm l)+evL a (sm m):=by unfold sm;rw [List.map_append,X5w]
theorem Xh2(f:Int→Int)(a:Nat→Bool) : ∀ n:Nat,evN f a n=(if n=0 then 0 else f 0)+evL a (sm (tmN f n))
 | 0=>rfl
 | n+1=>by
  rw [evN,Xh2 f a n,tmN,if_neg (Nat.succ_ne_zero n)]
  by_cases h0:n=0
  ·subst h0
   rw [if_pos rfl,if_neg (by omega)]
   simp [sub_zero,tmN,sm,evL]
  ·rw [if_neg h0]
   by_cases h1:f n=0
   ·rw [if_neg (fun h=>h.2 h1),h1];omega
   ·rw [if_pos ⟨by omega,h1⟩,Xfn]
    simp [sm,evL]
    omega
def evP(f:Int→Int)(a:Nat→Bool) : Int:=f 0+evL a (sm (tms f))
theorem Xs7(f:Int→Int)(a:Nat→Bool) : evP f a=evN f a 16777216:=by
 unfold evP tms
 rw [Xh2,if_neg (by decide)]
theorem Xdd{f:Int→Int}{a:Nat→Bool}{m k:Int}(h:Mk m) : Cg (evP (padd f m k) a) (evP f a+k*subI a m):=by
 rw [Xs7,Xs7]
 have:=Xd8 f a m k 16777216
 rw [if_pos ⟨h.1,by have:=h.2;omega⟩] at this
 exact this
theorem X78{a:Nat→Bool} : ∀ (L:List Sm) {f:Int→Int},(∀ p ∈ L,Mk p.1)→Cg (evP (foldA L f) a) (evP f a+evL a L)
 | [],f,_=>by rw [Xa4,X53,Int.add_zero];exact Cg.refl _
 | p::L,f,h=>by
  rw [X3c,X2q]
  refine (X78 L fun q hq=>h q (by simp [hq])).trans ?_
  have:=(Xdd (f:=f) (a:=a) (k:=p.2) (h p (by simp))).add (Cg.refl (evL a L))
  rw [Int.add_assoc] at this
  exact this
theorem Xq3{f:Int→Int}{a:Nat→Bool}{k r:Int}{u:Af}(hu:AO u)(hr:Mk r) : Cg (evP (expP f k u r) a) (evP f a+k*(subI a r*avI a u)):=by
 rw [X1t]
 exact (X78 _ (Xbg hu hr)).trans ((Cg.refl _).add (Xkd a k hu.2 hr))
def upB(a:Nat→Bool)(i:Nat)(b:Bool) : Nat→Bool:=fun j=>if j=i then b else a j
def sumB(n:Nat) : Nat→St→St
 | 0,F=>F
 | k+1,F=>sumB n k fun b=>F (upB b (n+k) false)+F (upB b (n+k) true)
def affs(n:Nat)(out:List Af)(a x:Nat→Bool) : Nat→Bool:=fun q=>if q<n then avI a (aAt out q)==1 else x q
def semS(n:Nat)(s:Pst)(w:St) : St:=fun x=>sumB n s.v (fun a=>omZ (evP s.f a)*w (affs n s.out a x)) x
theorem X2i{n:Nat} : ∀ (k:Nat) {F G:St},(∀ a,F a=G a)→∀ a,sumB n k F a=sumB n k G a
 | 0,_,_,h=>h
 | k+1,F,G,h=>X2i k fun b=>by rw [h,h]
def tact(g:Gt)(w:St) : St:=if g.k=3 then (fun β=>om^4*act g w β) else act g w
def trun:List Gt→St→St
 | [],w=>w
 | g::l,w=>tact g (trun l w)
theorem Xq4(x:Int)(h:x=0∨x=1) : x=if (x==1)=true then 1 else 0:=by rcases h with h|h<;>rw [h]<;>rfl
def semP(p:Ps)(w:St) : St:=fun x=>sumB p.ins.toNat p.vars.toNat (fun a=>omZ (p.phase+evL a (sm p.ts))*w (affs p.ins.toNat p.out a x)) x
def Agr(N:Nat)(β γ:Nat→Bool) : Prop:=∀ q,q<N→β q=γ q
theorem Agr.symm{N:Nat}{β γ:Nat→Bool}(h:Agr N β γ) : Agr N γ β:=fun q hq=>(h q hq).symm
def ebA(N:Nat)(γ:Nat→Bool) : St:=fun β=>if (∀ q,q<N→β q=γ q) then 1 else 0
theorem Xdj(f g:Nat→Rg) : ∀ n,sumN (fun k=>f k+g k) n=sumN f n+sumN g n
 | 0=>(X0w 0).symm
 | n+1=>by
  rw [sumN,sumN,sumN,Xdj f g n]
  simp only [X0z,X0q,X1d]
def lift(v:Nat)(a:Nat→Bool)(b:Bool) : Nat→Bool:=fun i=>if i<v then a i else if i=v then b else a (i-1)
theorem X3s{v i:Nat}(a:Nat→Bool)(b:Bool)(h:i<v) : lift v a b i=a i:=if_pos h
theorem X3r(v:Nat)(a:Nat→Bool)(b:Bool) : lift v a b v=b:=by unfold lift;rw [if_neg (by omega),if_pos rfl]
theorem X50{v i:Nat}(a:Nat→Bool)(b:Bool)(h:v≤i) : lift v a b (i+1)=a i:=by unfold lift;rw [if_neg (by omega),if_neg (by omega),Nat.add_sub_cancel]
theorem Xio{x:Nat}(hx:x<2^24)(a:Nat→Bool) : (List.range 62).all (fun i=>!x.testBit i||a i)=true↔∀ i,x.testBit i=true→a i=true:=by
 rw [List.all_eq_true]
 constructor
 ·intro h i hi
  have hlt:i<62:=by
   rcases Nat.lt_or_ge i 62 with h'|h'
   ·exact h'
   ·rw [Nat.testBit_lt_two_pow (Nat.lt_of_lt_of_le hx (Nat.pow_le_pow_right (by decide) (by omega)))] at hi;cases hi
  have:=h i (List.mem_range.2 hlt)
  rw [hi] at this
  simpa using this
 ·intro h i _
  cases e:x.testBit i
  ·rfl
  ·rw [h i e];rfl
theorem X9a{v x:Nat}(hx:x<2^24) : drN v x<2^24:=Nat.lt_of_le_of_lt (X7m v x) hx
theorem X9q{v:Nat}{m:Int}(a:Nat→Bool)(b:Bool)(h:Mk m) : subI (lift v a b) m=if bitQ v m&&!b then 0 else subI a (drI v m):=by
 obtain ⟨x,hx,rfl⟩:=h.nat
 rw [X0g,X12]
 unfold subI
 rw [Int.toNat_natCast,Int.toNat_natCast]
 have hd:=X9a (v:=v) hx
 have key:(List.range 62).all (fun i=>!x.testBit i||lift v a b i)=true↔(¬ (x.testBit v&&!b)=true∧(List.range 62).all (fun i=>!(drN v x).testBit i||a i)=true):=by
  rw [Xio hx,Xio hd]
  constructor
  ·intro h
   refine ⟨fun h2=>?_,fun i hi=>?_⟩
   ·simp only [Bool.and_eq_true,Bool.not_eq_true'] at h2
    have:=h v h2.1
    rw [X3r,h2.2] at this;cases this
   ·rw [X1m] at hi
    split at hi
    ·rename_i hlt
     have:=h i hi
     rwa [X3s a b hlt] at this
    ·rename_i hge
     have:=h (i+1) hi
     rwa [X50 a b (by omega)] at this
  ·rintro ⟨h1,h2⟩ i hi
   rcases Nat.lt_trichotomy i v with h|h|h
   ·rw [X3s a b h]
    exact h2 i (by rw [X1m,if_pos h];exact hi)
   ·subst h
    rw [X3r]
    rw [hi] at h1
    simpa using h1
   ·obtain ⟨j,rfl⟩ : ∃ j,i=j+1:=⟨i-1,by omega⟩
    rw [X50 a b (by omega)]
    exact h2 j (by rw [X1m,if_neg (by omega)];exact hi)
 by_cases e1:(x.testBit v&&!b)=true
 ·rw [if_pos e1,if_neg fun h=>(key.1 h).1 e1]
 ·rw [if_neg e1]
  by_cases e2:(List.range 62).all (fun i=>!(drN v x).testBit i||a i)=true
  ·rw [if_pos e2,if_pos (key.2 ⟨e1,e2⟩)]
  ·rw [if_neg e2,if_neg fun h=>e2 (key.1 h).2]
theorem Xdv(v x:Nat)(a:Nat→Bool)(b:Bool) : ∀ k,(List.range (v+k+1)).countP (fun i=>x.testBit i&&lift v a b i)=(List.range (v+k)).countP (fun i=>(drN v x).testBit i&&a i)+if (x.testBit v&&b)=true then 1 else 0
 | 0=>by
  rw [Nat.add_zero,List.range_succ,List.countP_append,List.countP_singleton]
  congr 1
  ·refine List.countP_congr fun i hi=>?_;have hi:=List.mem_range.1 hi
   rw [X3s a b hi,X1m,if_pos hi]
  ·rw [X3r]
 | k+1=>by
  rw [List.range_succ,List.countP_append,show v+(k+1)=v+k+1 from rfl,Xdv v x a b k,List.countP_singleton,List.range_succ (n:=v+k),List.countP_append,List.countP_singleton,X50 a b (show v≤v+k by omega),X1m,if_neg (show ¬ v+k<v by omega)]
  omega
theorem X73{v:Nat}{m:Int}(a:Nat→Bool)(b:Bool)(h:Mk m)(hv:v<24) : numB (lift v a b) m=numB a (drI v m)+if (bitQ v m&&b)=true then 1 else 0:=by
 obtain ⟨x,hx,rfl⟩:=h.nat
 rw [X0g,X12]
 unfold numB
 rw [Int.toNat_natCast,Int.toNat_natCast]
 have h1:=Xdv v x a b (61-v)
 rw [show v+(61-v)=61 from by omega] at h1
 rw [h1]
 have h2:(List.range 62).countP (fun i=>(drN v x).testBit i&&a i)=(List.range 61).countP (fun i=>(drN v x).testBit i&&a i):=by
  rw [List.range_succ,List.countP_append,List.countP_singleton]
  rw [Nat.testBit_lt_two_pow (Nat.lt_of_lt_of_le (X9a hx) (Nat.pow_le_pow_right (by decide) (by decide)))]
  simp
 rw [h2]
theorem Xcb{v:Nat}{u:Af}(a:Nat→Bool)(b:Bool)(h:Mk u.m)(hv:v<24) : avI (lift v a b) u=(avI a (dA v u)+if (bitQ v u.m&&b)=true then 1 else 0) % 2:=by
 unfold avI dA
 simp only
 rw [X73 a b h hv]
 split<;>omega
theorem Xxk(a:Nat→Bool)(u:Af) : avI a u=if (avI a u==1)=true then 1 else 0:=Xq4 _ (Xf1 a u)
theorem Xt3{v:Nat}{u y:Af}(a:Nat→Bool)(hu:AO u)(hy:AO y)(hv:v<24)(hn:bitQ v y.m=false) : avI a (dA v (sA v y u))=avI (lift v a (avI a (dA v y)==1)) u:=by
 rw [Xcb a _ hu.1 hv]
 unfold sA
 cases e:bitQ v u.m
 ·rw [if_neg (by decide)]
  simp only [Bool.false_and,Bool.false_eq_true,if_false,Int.add_zero]
  have:=Xf1 a (dA v u)
  omega
 ·rw [if_pos rfl,Bool.true_and,← Xxk]
  obtain ⟨x,hx,ex⟩:=hu.1.nat;obtain ⟨z,hz,ez⟩:=hy.1.nat
  have hx2:drI v (xI u.m (pw v))=drI v u.m:=X8o hu.1 hv
  obtain ⟨x2,hx2',ex2⟩:=(hu.1.xor (X2k hv)).nat
  have h3:dA v ⟨xI (xI u.m (pw v)) y.m,xI u.t y.t⟩=aXor (dA v u) (dA v y):=by
   unfold dA aXor
   simp only
   congr 1
   rw [← hx2,ex2,ez]
   unfold xI
   rw [X0r (X0a hx2') (X0a hz),X12,Xdi,X12,X12,X0r (X0a (X9a hx2')) (X0a (X9a hz))]
  rw [h3,Xub a (u:=dA v u) (v:=dA v y) ⟨hu.1.dr,hu.2⟩ ⟨hy.1.dr,hy.2⟩]
theorem X96{n:Nat} : ∀ (k:Nat) {F:St} {j:Nat},n≤j→j≤n+k→(∀ a b,(∀ i,i<n+k+1→a i=b i)→F a=F b)→∀ a,sumB n (k+1) F a=sumB n k (fun b=>F (lift j b false)+F (lift j b true)) a
 | 0,F,j,h1,h2,hF,a=>by
  have:j=n:=by omega
  subst this
  show F (upB a (j+0) false)+F (upB a (j+0) true)=F (lift j a false)+F (lift j a true)
  have e:∀ z,F (upB a (j+0) z)=F (lift j a z):=fun z=>hF _ _ fun i hi=>by
   unfold upB
   by_cases e:i=j
   ·subst e;rw [if_pos (by omega),X3r]
   ·rw [if_neg (by omega),X3s a z (by omega)]
  rw [e,e]
 | k+1,F,j,h1,h2,hF,a=>by
  by_cases hj:j=n+(k+1)
  ·subst hj
   show sumB n (k+1) (fun b=>F (upB b (n+(k+1)) false)+F (upB b (n+(k+1)) true)) a=_
   refine X2i _ (fun b=>?_) a
   have e:∀ z,F (upB b (n+(k+1)) z)=F (lift (n+(k+1)) b z):=fun z=>hF _ _ fun i hi=>by
    unfold upB
    by_cases e:i=n+(k+1)
    ·subst e;rw [if_pos rfl,X3r]
    ·rw [if_neg e,X3s b z (by omega)]
   rw [e,e]
  ·show sumB n (k+1) (fun b=>F (upB b (n+(k+1)) false)+F (upB b (n+(k+1)) true)) a=_
   rw [X96 k (j:=j) h1 (by omega) (fun b c hbc=>by
    have e:∀ z,F (upB b (n+(k+1)) z)=F (upB c (n+(k+1)) z):=fun z=>hF _ _ fun i hi=>by
     unfold upB
     split
     ·rfl
     ·exact hbc i (by omega)
    rw [e,e]) a]
   show _=sumB n k (fun b=>_) a
   refine X2i _ (fun b=>?_) a
   have e:∀ z c,F (upB (lift j b c) (n+(k+1)) z)=F (lift j (upB b (n+k) z) c):=fun z c=>hF _ _ fun i hi=>by
    rcases Nat.lt_trichotomy i j with h|h|h
    ·unfold upB
     rw [if_neg (by omega),X3s b c h,X3s _ c h,if_neg (by omega)]
    ·subst h
     unfold upB
     rw [if_neg (by omega),X3r,X3r]
    ·obtain ⟨m,rfl⟩ : ∃ m,i=m+1:=⟨i-1,by omega⟩
     rw [X50 _ c (by omega)]
     unfold upB
     by_cases e:m=n+k
     ·subst e;rw [if_pos (by omega),if_pos rfl]
     ·rw [if_neg (by omega),if_neg e,X50 b c (by omega)]
   simp only [e]
   simp only [X0z,X0q,X1d]
def semF(p:Ps)(w:St)(x:Nat→Bool) : St:=fun a=>omZ (p.phase+evL a (sm p.ts))*w (affs p.ins.toNat p.out a x)
theorem Xfe(p:Ps)(w:St)(x:Nat→Bool) : semP p w x=sumB p.ins.toNat p.vars.toNat (semF p w x) x:=rfl
theorem Xhz(ph:Int)(a:Nat→Bool) : evP (cPh ph) a=ph:=by
 have e:tms (cPh ph)=[]:=(IsT.eq ⟨List.Pairwise.nil,fun t=>⟨fun h=>(by cases h),fun h=>absurd (show cPh ph t.m=0 from by unfold cPh;exact X2a (by have:=h.1;omega)) h.2.2.2⟩⟩).symm
 unfold evP
 rw [e]
 show cPh ph 0+0=ph
 unfold cPh upd
 simp
theorem Xi8(t:Tm)(l:List Tm) : sm (t::l)=(t.m,t.c)::sm l:=rfl
theorem Xsq{v:Nat}{u:Af}(h:AO u) : AO (dA v u):=⟨h.1.dr,h.2⟩
theorem Xvy{v:Nat}{u:Af}{t:Tm}(hu:AO u)(ht:Mk t.m) : ∀ p ∈ rL v u t,Mk p.1:=fun p hp=>by
 unfold rL at hp
 split at hp
 ·exact Xbg (Xsq hu) ht.dr p hp
 ·rw [List.mem_singleton.1 hp];exact ht.dr
theorem Xw6{v:Nat}{u:Af}{t:Tm}(a:Nat→Bool)(hu:AO u)(ht:Mk t.m) : Cg (evL a (rL v u t)) (t.c*subI (lift v a (avI a (dA v u)==1)) t.m):=by
 rw [X9q a _ ht]
 unfold rL
 cases e:bitQ v t.m
 ·rw [if_neg (by decide),X2q,X53]
  simp only [Bool.false_and,Bool.false_eq_true,if_false,Int.add_zero]
  exact Cg.refl _
 ·rw [if_pos rfl,Bool.true_and]
  refine (Xkd a t.c (u:=dA v u) hu.2 ht.dr).trans (Cg.of ?_)
  rcases Xf1 a (dA v u) with h|h<;>rw [h]
  ·simp
  ·simp
theorem Xhi{v:Nat}{u:Af}(a:Nat→Bool)(hu:AO u) : ∀ ts:List Tm,(∀ t ∈ ts,Mk t.m)→Cg (evL a (ts.flatMap (rL v u))) (evL (lift v a (avI a (dA v u)==1)) (sm ts))
 | [],_=>Cg.refl _
 | t::l,h=>by
  rw [List.flatMap_cons,X5w,Xi8,X2q]
  exact (Xw6 a hu (h t (by simp))).add (Xhi a hu l fun x hx=>h x (by simp [hx]))
theorem Xob{g:Af→Af}(h:g afZ=afZ)(l:List Af)(i:Int) : aAt (l.map g) i=g (aAt l i):=by
 unfold aAt
 rw [List.getD_eq_getElem?_getD,List.getD_eq_getElem?_getD,List.getElem?_map]
 cases l[i.toNat]? with
 | none=>exact h.symm
 | some x=>rfl
theorem Xgv{p:Ps}{v:Nat}{u:Af}(ht:∀ t ∈ p.ts,Mk t.m)(ho:∀ a ∈ p.out,AO a)(hv:v<24)(hu:AO u)(hn:bitQ v u.m=false)(w:St)(x a:Nat→Bool) :
  semF (repP p v u) w x a=semF p w x (lift v a (avI a (dA v u)==1)):=by
 unfold semF
 have h1:Cg ((repP p v u).phase+evL a (sm (repP p v u).ts)) (p.phase+evL (lift v a (avI a (dA v u)==1)) (sm p.ts)):=by
  show Cg (evP (foldA (p.ts.flatMap (rL v u)) (cPh p.phase)) a) _
  refine (X78 _ fun q hq=>?_).trans ?_
  ·obtain ⟨t,h1,h2⟩:=List.mem_flatMap.1 hq;exact Xvy hu (ht t h1) q h2
  ·rw [Xhz]
   exact (Cg.refl _).add (Xhi a hu p.ts ht)
 rw [Xc7 h1]
 congr 2
 funext q
 unfold affs
 show (if q<p.ins.toNat then (avI a (aAt (p.out.map fun a=>dA v (sA v u a)) q)==1) else x q)=_
 rw [Xob (g:=fun a=>dA v (sA v u a)) (by
  show dA v (sA v u afZ)=afZ
  unfold sA
  rw [if_neg (by show ¬ (0:Int).toNat.testBit v=true;simp)]
  unfold dA
  show (⟨drI v 0,0⟩ : Af)=afZ
  rw [X26];rfl)]
 show (if q<p.ins.toNat then (avI a (dA v (sA v u (aAt p.out q)))==1) else x q)=_
 rw [Xt3 a (AO.at ho q) hu hv hn]
def dY(y:Nat)(a:Nat→Bool)(ts:List Tm) : Int:=(ts.map fun t=>if bitQ y t.m then t.c*subI a (drI y t.m) else 0).sum
theorem Xrr{y:Nat}(a:Nat→Bool) : ∀ ts:List Tm,(∀ t ∈ ts,Mk t.m)→evL (lift y a true) (sm ts)=evL (lift y a false) (sm ts)+dY y a ts
 | [],_=>rfl
 | t::l,h=>by
  rw [Xi8,X2q,X2q,Xrr a l fun x hx=>h x (by simp [hx]),X9q a _ (h t (by simp)),X9q a _ (h t (by simp))]
  unfold dY
  rw [List.map_cons,List.sum_cons]
  cases bitQ y t.m<;>simp<;>omega
theorem Xnd(a:Nat→Bool){x y:Nat}(hx:x<2^62)(hy:y<2^62)(h:∀ i,x.testBit i=true→y.testBit i=false) : numB a (oI x y)=numB a x+numB a y:=by
 unfold oI
 rw [X1x hx hy]
 unfold numB
 simp only [Int.toNat_natCast,Nat.testBit_or]
 induction List.range 62 with
 | nil=>rfl
 | cons i l ih=>
  simp only [List.countP_cons,ih]
  cases e:x.testBit i
  ·cases y.testBit i<;>cases a i<;>simp<;>omega
  ·rw [h i e]
   cases a i<;>simp<;>omega
theorem Xpj(a:Nat→Bool){k:Nat}(h:k<62) : (numB a ((2^k:Nat) : Int) : Int)=subI a ((2^k:Nat) : Int):=by
 have h1:=Xtv a h;have hs:=Xg8 a h
 rw [hs]
 have e:=Xnd a (x:=0) (y:=2^k) (by decide) (X2n h) (fun i hi=>by simp at hi)
 have h2:(numB a ((2^k:Nat) : Int))≤1:=by
  unfold numB
  rw [Int.toNat_natCast]
  refine Nat.le_trans (List.countP_mono_left (q:=fun i=>i==k) (fun i _ hi=>?_)) ?_
  ·rw [Nat.testBit_two_pow] at hi
   simp only [Bool.and_eq_true,decide_eq_true_eq] at hi
   simp [hi.1]
  ·have:(List.range 62).countP (fun i=>i==k)=1:=by
    rw [← List.count_eq_countP',List.count_range,if_pos h]
   omega
 unfold avI varA at h1
 simp only [Int.add_zero] at h1
 omega
theorem Xow{r:Int}(h:Mk r)(h1:szI r=1) : ∃ i:Nat,i<24∧r=((2^i:Nat) : Int):=by
 obtain ⟨x,hx,rfl⟩:=h.nat
 unfold szI at h1
 rw [Int.toNat_natCast] at h1
 obtain ⟨q,hq⟩ : ∃ q,setN x=[q]:=by
  cases e:setN x with
  | nil=>rw [e] at h1;cases h1
  | cons q t=>
   rw [e] at h1
   cases t with
   | nil=>exact ⟨q,rfl⟩
   | cons z t=>simp at h1
 have ht:=Xa5 (X0a hx) hq
 have hbq:x.testBit q=true:=(X16 (X0a hx)).1 (by rw [hq];simp)
 have hq24:q<24:=by
  rcases Nat.lt_or_ge q 24 with h'|h'
  ·exact h'
  ·rw [Nat.testBit_lt_two_pow (Nat.lt_of_lt_of_le hx (Nat.pow_le_pow_right (by decide) h'))] at hbq;cases hbq
 have h0:x ^^^ 2^q=0:=by
  refine Classical.byContradiction fun hn=>?_
  obtain ⟨q',t',e⟩:=X43 (M:=x ^^^ 2^q) (Nat.xor_lt_two_pow (X0a hx) (X2n (by omega))) hn
  rw [ht] at e;cases e
 refine ⟨q,hq24,?_⟩
 have:x=2^q:=by
  apply Nat.eq_of_testBit_eq
  intro i
  have:=congrArg (fun z=>z.testBit i) h0
  simp only [Nat.testBit_xor,Nat.zero_testBit] at this
  cases e1:x.testBit i<;>cases e2:(2^q).testBit i<;>rw [e1,e2] at this<;>simp_all
 rw [this]
structure DI (y:Nat) (pre:List Tm) (s:Ar) : Prop where
 c:s.c=0∨∃ t ∈ pre,t.m=pw y
 z:∀ i,i<24→bitQ i s.z=true→∃ t ∈ pre,xI t.m (pw y)=((2^i:Nat) : Int)∧bitQ y t.m=true
 d:∀ a,Cg (dY y a pre) (s.c+4*(numB a (drI y s.z) : Int))
 mz:Mk s.z
theorem Xeo(y:Nat)(a:Nat→Bool)(l:List Tm)(t:Tm) : dY y a (l++[t])=dY y a l+if bitQ y t.m then t.c*subI a (drI y t.m) else 0:=by
 unfold dY
 rw [List.map_append,List.sum_append]
 simp
theorem Xk7{m m' k:Int}(h:Mk m)(h':Mk m')(hk:Mk k)(e:xI m k=xI m' k) : m=m':=by
 obtain ⟨x,hx,rfl⟩:=h.nat;obtain ⟨x',hx',rfl⟩:=h'.nat;obtain ⟨z,hz,rfl⟩:=hk.nat
 unfold xI at e
 rw [X0r (X0a hx) (X0a hz),X0r (X0a hx') (X0a hz)] at e
 have e:x ^^^ z=x' ^^^ z:=by omega
 have:x=x':=by
  have h2:=congrArg (· ^^^ z) e
  simp only [Nat.xor_assoc,Nat.xor_self,Nat.xor_zero] at h2
  exact h2
 rw [this]
theorem DI.step{y:Nat}{pre:List Tm}{s:Ar}{t:Tm}(h:DI y pre s)(hy:y<24)(ht:Mk t.m)(hpre:∀ u ∈ pre,Mk u.m∧u.m≠t.m)(hpl:(arStep y s t).pl=true) : DI y (pre++[t]) (arStep y s t):=by
 have hr:=ht.xor (X2k hy)
 unfold arStep at hpl ⊢
 cases e:bitQ y t.m
 ·rw [if_neg (by decide)]
  refine ⟨?_,fun i hi hb=>?_,fun a=>?_,h.mz⟩
  ·rcases h.c with h1|⟨u,hu,h1⟩
   ·exact .inl h1
   ·exact .inr ⟨u,List.mem_append_left _ hu,h1⟩
  ·obtain ⟨u,hu,h1⟩:=h.z i hi hb;exact ⟨u,List.mem_append_left _ hu,h1⟩
  ·rw [Xeo,e]
   simp only [Bool.false_eq_true,if_false,Int.add_zero]
   exact h.d a
 ·rw [e,if_pos rfl] at hpl
  rw [if_pos rfl]
  have hdr:drI y t.m=drI y (xI t.m (pw y)):=(X8o ht hy).symm
  by_cases h0:szI (xI t.m (pw y))=0
  ·rw [if_pos h0]
   have hx0:=(X75 hr).1 h0
   have htm:t.m=pw y:=by
    have:xI t.m (pw y)=xI (pw y) (pw y):=by
     rw [hx0]
     unfold xI pw
     rw [X0r (X2n (by omega)) (X2n (by omega)),Nat.xor_self];rfl
    exact Xk7 ht (X2k hy) (X2k hy) this
   have hc0:s.c=0:=by
    rcases h.c with h1|⟨u,hu,h1⟩
    ·exact h1
    ·exact absurd (h1.trans htm.symm) (hpre u hu).2
   refine ⟨.inr ⟨t,by simp,htm⟩,fun i hi hb=>?_,fun a=>?_,h.mz⟩
   ·obtain ⟨u,hu,h1⟩:=h.z i hi hb;exact ⟨u,List.mem_append_left _ hu,h1⟩
   ·rw [Xeo,e,if_pos rfl,hdr,hx0,X26,sub_zero]
    obtain ⟨q,hq⟩:=h.d a;exact ⟨q,by show dY y a pre+t.c*1=t.c+4*(numB a (drI y s.z) : Int)+8*q;rw [hq,hc0];omega⟩
  ·rw [if_neg h0] at hpl ⊢
   by_cases h1:szI (xI t.m (pw y))=1
   ·rw [if_pos h1] at hpl ⊢
    have h4:t.c=4:=by
     have:(s.pl&&t.c==4)=true:=hpl
     rw [Bool.and_eq_true] at this
     exact eq_of_beq this.2
    obtain ⟨i,hi,hri⟩:=Xow hr h1
    have hiy:i≠y:=fun e2=>by
     have:=(Nb.off ht hy e).2
     rw [show ((2^y:Nat) : Int)=pw y from rfl,hri,e2,X0g,Nat.testBit_two_pow_self] at this
     cases this
    have hzi:bitQ i s.z=false:=by
     cases e2:bitQ i s.z with
     | false=>rfl
     | true=>
      obtain ⟨u,hu,h2,h3⟩:=h.z i hi e2;exact absurd (Xk7 (hpre u hu).1 ht (X2k hy) (h2.trans hri.symm)) (hpre u hu).2
    obtain ⟨z,hz,ez⟩:=h.mz.nat
    refine ⟨?_,fun j hj hb=>?_,fun a=>?_,h.mz.or hr⟩
    ·rcases h.c with h1|⟨u,hu,h1⟩
     ·exact .inl h1
     ·exact .inr ⟨u,List.mem_append_left _ hu,h1⟩
    ·by_cases hji:j=i
     ·subst hji
      exact ⟨t,by simp,hri,e⟩
     ·have hb':bitQ j s.z=true:=by
       have hb:bitQ j (oI s.z (xI t.m (pw y)))=true:=hb
       rw [hri,ez] at hb
       unfold oI at hb
       rw [X1x (X0a hz) (X2n (by omega)),X0g,Nat.testBit_or,Nat.testBit_two_pow,decide_eq_false (fun h=>hji h.symm),Bool.or_false] at hb
       rw [ez,X0g];exact hb
      obtain ⟨u,hu,h2⟩:=h.z j hj hb';exact ⟨u,List.mem_append_left _ hu,h2⟩
    ·rw [Xeo,e,if_pos rfl,hdr,h4]
     show Cg _ (s.c+4*(numB a (drI y (oI s.z (xI t.m (pw y)))) : Int))
     rw [Xm1 h.mz hr,hri,X12,Xbh hiy]
     have hs24:shN y i<24:=by unfold shN;split<;>omega
     have hn:numB a (oI (drI y s.z) ((2^shN y i:Nat) : Int))=numB a (drI y s.z)+numB a ((2^shN y i:Nat) : Int):=by
      rw [ez,X12]
      refine Xnd a (X0a (X9a hz)) (X2n (by omega)) fun j hj=>?_
      rw [Nat.testBit_two_pow]
      refine decide_eq_false fun e2=>?_
      rw [← e2,X1m] at hj
      rw [ez,X0g] at hzi
      unfold shN at hj
      by_cases hlt:i<y
      ·rw [if_pos hlt,if_pos hlt,hzi] at hj;cases hj
      ·rw [if_neg hlt,if_neg (by omega),show i-1+1=i from by omega,hzi] at hj;cases hj
     have hp:=Xpj a (k:=shN y i) (by omega)
     obtain ⟨q,hq⟩:=h.d a
     refine ⟨q,?_⟩
     rw [hn,hq]
     omega
   ·rw [if_neg h1] at hpl
    cases hpl
theorem DI.fold{y:Nat}(hy:y<24) : ∀ (l pre:List Tm) {s:Ar},DI y pre s→(∀ t ∈ l,Mk t.m)→(∀ t ∈ pre,Mk t.m)→Rise (pre++l)→(l.foldl (arStep y) s).pl=true→DI y (pre++l) (l.foldl (arStep y) s)
 | [],pre,s,h,_,_,_,_=>by rw [List.append_nil];exact h
 | t::l,pre,s,h,hl,hp,hR,hpl=>by
  have h1:(arStep y s t).pl=true:=by
   cases e:(arStep y s t).pl with
   | true=>rfl
   | false=>have:=Xky y l _ e;rw [List.foldl_cons] at hpl;rw [this] at hpl;cases hpl
  have hR':=hR
  unfold Rise at hR
  rw [List.pairwise_append] at hR
  have:=DI.fold hy l (pre++[t]) (h.step hy (hl t (by simp)) (fun u hu=>⟨hp u hu,by have:=hR.2.2 u hu t (by simp);omega⟩) h1) (fun x hx=>hl x (by simp [hx]))
   (fun x hx=>by
    rcases List.mem_append.1 hx with h|h
    ·exact hp x h
    ·rw [List.mem_singleton.1 h];exact hl t (by simp)) (by rw [List.append_assoc];exact hR') hpl
  rw [List.append_assoc] at this
  exact this
theorem Xmg{y:Nat}{ts:List Tm}(hy:y<24)(h:OkT ts)(hpl:(arF y ts).pl=true) : DI y ts (arF y ts):=
 DI.fold hy ts [] (s:=ar0) ⟨.inl rfl,fun i _ hb=>by
  have:(0:Int).toNat.testBit i=true:=hb
  simp at this,fun a=>by
   show Cg 0 (0+4*(numB a (drI y 0) : Int))
   rw [X26]
   have:numB a 0=0:=by
    unfold numB
    rw [List.countP_eq_zero]
    intro i _
    simp
   rw [this];exact Cg.refl _,Mk.zero⟩ h.mks (fun t ht=>by cases ht) h.rise hpl
theorem Xx7{y:Nat}{ts:List Tm}(hy:y<24)(h:OkT ts)(hpl:(arF y ts).pl=true)(a:Nat→Bool) : Cg (dY y a ts) ((arF y ts).c+4*(numB a (drI y (arF y ts).z) : Int)):=
 (Xmg hy h hpl).d a
theorem Xpm{N:Nat}{m:Int}{a b:Nat→Bool}(h:Lt N m)(hab:∀ i,i<N→a i=b i) : subI a m=subI b m:=by
 obtain ⟨M,hM,rfl⟩:=h.1.nat
 have hlt:M<2^N:=Int.ofNat_lt.1 h.2
 unfold subI
 have e:(fun j=>!((M:Int)).toNat.testBit j||a j)=(fun j=>!((M:Int)).toNat.testBit j||b j):=by
  funext j
  rw [Int.toNat_natCast]
  rcases Nat.lt_or_ge j N with h'|h'
  ·rw [hab j h']
  ·rw [Nat.testBit_lt_two_pow (Nat.lt_of_lt_of_le hlt (Nat.pow_le_pow_right (by decide) h'))];simp
 rw [e]
theorem Xgy{N:Nat}{m:Int}{a b:Nat→Bool}(h:Lt N m)(hab:∀ i,i<N→a i=b i) : numB a m=numB b m:=by
 obtain ⟨M,hM,rfl⟩:=h.1.nat
 have hlt:M<2^N:=Int.ofNat_lt.1 h.2
 unfold numB
 congr 1
 funext j
 rw [Int.toNat_natCast]
 rcases Nat.lt_or_ge j N with h'|h'
 ·rw [hab j h']
 ·rw [Nat.testBit_lt_two_pow (Nat.lt_of_lt_of_le hlt (Nat.pow_le_pow_right (by decide) h'))];simp
theorem Xdb{p:Ps}{N:Nat}(ht:∀ t ∈ p.ts,Lt N t.m)(ho:∀ u ∈ p.out,Lt N u.m)(w:St)(x:Nat→Bool){a b:Nat→Bool}(hab:∀ i,i<N→a i=b i) : semF p w x a=semF p w x b:=by
 unfold semF
 have h1:evL a (sm p.ts)=evL b (sm p.ts):=by
  unfold evL
  refine congrArg List.sum (List.map_congr_left fun q hq=>?_)
  obtain ⟨t,h1,rfl⟩:=List.mem_map.1 hq
  rw [show subI a (t.m,t.c).1=subI b (t.m,t.c).1 from Xpm (ht t h1) hab]
 have h2:affs p.ins.toNat p.out a x=affs p.ins.toNat p.out b x:=by
  funext q
  unfold affs
  have:avI a (aAt p.out q)=avI b (aAt p.out q):=by
   unfold avI
   rw [Xgy (Lt.at ho q) hab]
  rw [this]
 rw [h1,h2]
theorem X6y{n:Nat}(c:Rg) : ∀ (k:Nat) {F:St},∀ a,sumB n k (fun b=>c*F b) a=c*sumB n k F a
 | 0,_,_=>rfl
 | k+1,F,a=>by
  show sumB n k (fun b=>c*F (upB b (n+k) false)+c*F (upB b (n+k) true)) a=_
  rw [X2i k (G:=fun b=>c*(F (upB b (n+k) false)+F (upB b (n+k) true))) fun b=>(X25 _ _ _).symm]
  exact X6y c k a
theorem Xt9{q:Ps}{k1 k z:Int}(ht:∀ t ∈ q.ts,Mk t.m)(hz:Mk z)(w:St)(x a:Nat→Bool) : semF (omR q k1 k z) w x a=omZ (k1+k*avI a ⟨z,0⟩)*semF q w x a:=by
 unfold semF
 have h1:Cg ((omR q k1 k z).phase+evL a (sm (omR q k1 k z).ts)) ((k1+k*avI a ⟨z,0⟩)+(q.phase+evL a (sm q.ts))):=by
  show Cg (evP (expP (padd (foldA (sm q.ts) (cPh q.phase)) 0 k1) k ⟨z,0⟩ 0) a) _
  refine (Xq3 (u:=⟨z,0⟩) ⟨hz,.inl rfl⟩ Mk.zero).trans ?_
  rw [sub_zero,Int.one_mul]
  refine ((Xdd Mk.zero).add (Cg.refl _)).trans ?_
  rw [sub_zero]
  refine (((X78 (sm q.ts) (fun p hp=>by
   obtain ⟨t,h1,rfl⟩:=List.mem_map.1 hp
   exact ht t h1)).add (Cg.refl _)).add (Cg.refl _)).trans (Cg.of ?_)
  rw [Xhz]
  omega
 rw [Xc7 h1,Xh4,Xv]
 rfl
theorem Xib(b:Int)(hb:b=0∨b=1) : 1+omZ (2+4*b)=s2*omZ (1+6*b)∧1+omZ (6+4*b)=s2*omZ (7+2*b):=by
 rcases hb with rfl|rfl<;>decide
theorem Xfb(c:Int)(n:Nat) : omZ (c+4*(n:Int))=omZ (c+4*((n:Int) % 2)):=Xc7 ⟨(n:Int)/2,by omega⟩
section
variable {p : Ps} {y : Nat} (h : VPs p) (hy : p.ins.toNat ≤ y ∧ y < p.ins.toNat + p.vars.toNat) (ho : outB y p.out = false)
include h hy ho
theorem y24:y<24:=by have:=h.ins;have:=h.vars;omega
theorem Xmr:∀ t ∈ p.ts,Lt (p.ins.toNat+p.vars.toNat) t.m:=fun t ht=>⟨h.ts.mks t ht,by
 have:=h.tb t ht
 have e:(p.ins+p.vars).toNat=p.ins.toNat+p.vars.toNat:=by have:=h.ins;have:=h.vars;omega
 rw [e] at this
 exact this⟩
theorem Xl7:∀ u ∈ p.out,Lt (p.ins.toNat+p.vars.toNat) u.m:=fun u hu=>⟨(h.out u hu).1.1,by
 have:=(h.out u hu).2
 have e:(p.ins+p.vars).toNat=p.ins.toNat+p.vars.toNat:=by have:=h.ins;have:=h.vars;omega
 rw [e] at this
 exact this⟩
theorem Xes:∀ u ∈ p.out,AO u:=fun u hu=>(h.out u hu).1
theorem Xby(w:St)(x a:Nat→Bool) : semF (repP p y afZ) w x a=semF p w x (lift y a false):=by
 rw [Xgv h.ts.mks (Xes h hy ho) (y24 h hy ho) AO.z (by show (0:Int).toNat.testBit y=false;simp)]
 have:avI a (dA y afZ)=0:=by
  unfold dA avI
  show ((numB a (drI y 0) : Int)+0) % 2=0
  rw [X26]
  have:numB a 0=0:=by
   unfold numB
   rw [List.countP_eq_zero]
   intro i _
   simp
  rw [this];rfl
 rw [this];rfl
theorem Xms(hpl:(arF y p.ts).pl=true)(w:St)(x a:Nat→Bool) :
  semF p w x (lift y a true)=omZ ((arF y p.ts).c+4*(numB a (drI y (arF y p.ts).z) : Int))*semF p w x (lift y a false):=by
 have hy24:=y24 h hy ho
 unfold semF
 have h1:affs p.ins.toNat p.out (lift y a true) x=affs p.ins.toNat p.out (lift y a false) x:=by
  funext q
  unfold affs
  have hb:∀ u ∈ p.out,bitQ y u.m=false:=fun u hu=>by
   unfold outB at ho
   rw [List.any_eq_false] at ho
   simpa using ho u hu
  have hA:∀ i:Int,bitQ y (aAt p.out i).m=false:=fun i=>by
   unfold aAt
   rw [List.getD_eq_getElem?_getD]
   cases e:p.out[i.toNat]? with
   | none=>show (0:Int).toNat.testBit y=false;simp
   | some u=>exact hb u (List.mem_of_getElem? e)
  rw [Xcb a true (AO.at (Xes h hy ho) q).1 hy24,Xcb a false (AO.at (Xes h hy ho) q).1 hy24,hA]
  rfl
 rw [h1,Xrr a p.ts h.ts.mks,← Xv,← Xh4]
 congr 1
 refine Xc7 ?_
 refine ((Cg.refl p.phase).add ((Cg.refl _).add (Xx7 hy24 h.ts hpl a))).trans (Cg.of ?_)
 omega
theorem Xc4(hpl:(arF y p.ts).pl=true)(w:St)(x:Nat→Bool) :
  semP p w x=sumB p.ins.toNat (p.vars.toNat-1) (fun a=>(1+omZ ((arF y p.ts).c+4*(numB a (drI y (arF y p.ts).z) : Int)))*semF (repP p y afZ) w x a) x:=by
 rw [Xfe]
 obtain ⟨k,hk⟩ : ∃ k,p.vars.toNat=k+1:=⟨p.vars.toNat-1,by omega⟩
 rw [hk,X96 k (F:=semF p w x) hy.1 (by omega) (fun a b hab=>Xdb (Xmr h hy ho) (Xl7 h hy ho) w x (by rw [hk];exact hab)) x,Nat.add_sub_cancel]
 refine X2i k (fun a=>?_) x
 rw [Xms h hy ho hpl,Xby h hy ho,X2c,X0u]
end
def SemR(p q:Ps) : Prop:=q.ins=p.ins∧∃ d:Nat,p.root=q.root+d∧∀ w x,semP p w x=s2^d*semP q w x
theorem SemR.refl(p:Ps) : SemR p p:=⟨rfl,0,by omega,fun w x=>by rw [Xcp,X0u]⟩
theorem SemR.trans{p q r:Ps}(h:SemR p q)(k:SemR q r) : SemR p r:=by
 obtain ⟨h0,d,h1,h2⟩:=h;obtain ⟨k0,e,k1,k2⟩:=k;exact ⟨k0.trans h0,d+e,by omega,fun w x=>by rw [h2,k2,X2p,Xv]⟩
theorem Xlg{ins:Int}{s:Ar}(h:ruK ins s≠0) : s.pl=true:=by
 unfold ruK at h
 cases e:s.pl with
 | true=>rfl
 | false=>rw [if_pos e] at h;exact absurd rfl h
theorem Xlr(z:Rg) : s2^2*z=(1+1)*z:=by
 rw [show s2^2=(1+1:Rg) from by decide]
theorem nobts{p:Ps}{y:Nat}(h:VPs p)(ho:outB y p.out=false) : repP p y afZ=⟨p.ins,p.vars-1,p.root,p.phase,(nob y p.ts).map (dT y),p.out.map (dA y)⟩:=
 X63 h.ph h.ts (X5l h ho)
theorem Xk9{p:Ps}{y:Nat}(h:VPs p)(ho:outB y p.out=false) : ∀ t ∈ (repP p y afZ).ts,Mk t.m:=fun t ht=>by
 rw [nobts h ho] at ht
 obtain ⟨u,hu,rfl⟩:=List.mem_map.1 ht;exact (h.ts.mks u (List.mem_filter.1 hu).1).dr
theorem Xvb{p:Ps}{y:Nat}(h:VPs p)(ho:outB y p.out=false) : ∀ t ∈ (repP p y afZ).out,AO t:=fun t ht=>by
 rw [nobts h ho] at ht
 obtain ⟨u,hu,rfl⟩:=List.mem_map.1 ht;exact Xsq (h.out u hu).1
theorem Xke{N y:Nat}{a b:Nat→Bool}(c:Bool)(hab:∀ i,i<N→a i=b i) : ∀ i,i<N+1→y≤N→lift y a c i=lift y b c i:=fun i hi hy=>by
 rcases Nat.lt_trichotomy i y with h1|h1|h1
 ·rw [X3s a _ h1,X3s b _ h1];exact hab i (by omega)
 ·subst h1;rw [X3r,X3r]
 ·obtain ⟨j,rfl⟩ : ∃ j,i=j+1:=⟨i-1,by omega⟩
  rw [X50 a _ (by omega),X50 b _ (by omega)];exact hab j (by omega)
theorem Xnl{p:Ps}{y:Nat}(h:VPs p)(hy:p.ins.toNat≤y∧y<p.ins.toNat+p.vars.toNat)(ho:outB y p.out=false)(hpl:(arF y p.ts).pl=true)(i:Nat)(hb:bitQ i (arF y p.ts).z=true) : i<p.ins.toNat+p.vars.toNat:=by
 have hy24:=y24 h hy ho;have hD:=Xmg hy24 h.ts hpl;obtain ⟨z,hz,ez⟩:=hD.mz.nat
 have hi:i<24:=by
  rcases Nat.lt_or_ge i 24 with h'|h'
  ·exact h'
  ·rw [ez,X0g,Nat.testBit_lt_two_pow (Nat.lt_of_lt_of_le hz (Nat.pow_le_pow_right (by decide) h'))] at hb;cases hb
 obtain ⟨t,ht,h1,_⟩:=hD.z i hi hb
 have hpw:Lt (p.ins.toNat+p.vars.toNat) (pw y):=⟨X2k hy24,Int.ofNat_lt.2 (Nat.pow_lt_pow_right (by decide) hy.2)⟩
 have:=(Lt.xor (Xmr h hy ho t ht) hpw).2
 rw [h1] at this
 exact (Nat.pow_lt_pow_iff_right (by decide)).1 (Int.ofNat_lt.1 this)
theorem Xf0{y N:Nat}{z:Int}(hz:Mk z)(hy:y<N+1)(h:∀ i,bitQ i z=true→i<N+1) : Lt N (drI y z):=by
 refine ⟨hz.dr,?_⟩
 obtain ⟨x,hx,rfl⟩:=hz.nat
 rw [X12]
 refine Int.ofNat_lt.2 (Nat.lt_pow_two_of_testBit _ fun i hi=>?_)
 rw [X1m]
 split
 ·omega
 ·cases e:x.testBit (i+1) with
  | false=>rfl
  | true=>have:=h (i+1) e;omega
theorem Xmo{p:Ps}{y:Nat}(h:VPs p)(hy:p.ins.toNat≤y∧y<p.ins.toNat+p.vars.toNat)(hr:(ruR p y).1≠0)(hv:0≤(outR p y).vars) : SemR p (outR p y):=by
 have ho:outB y p.out=false:=by
  unfold ruR at hr
  cases e:outB y p.out with
  | false=>rfl
  | true=>rw [e] at hr;exact absurd rfl hr
 have hk:ruK p.ins (arF y p.ts)≠0:=by
  unfold ruR at hr
  rw [ho,if_neg (by decide)] at hr
  intro e
  rw [if_pos e] at hr
  exact hr rfl
 have hpl:=Xlg hk;have hy24:=y24 h hy ho;have hvars:=h.vars;have hNb:=X8u hy24 h.ts
 by_cases k1:ruK p.ins (arF y p.ts)=1
 ·have e:outR p y=rqZ p y 2:=by unfold outR;rw [if_pos k1]
  rw [e]
  refine ⟨rfl,2,by show p.root=p.root-2+2;omega,fun w x=>?_⟩
  have hcz:(arF y p.ts).c=0∧(arF y p.ts).z=0:=by
   unfold ruK at k1
   rw [if_neg (by rw [hpl];decide)] at k1
   by_cases e:(arF y p.ts).c=0∧(arF y p.ts).z=0
   ·exact e
   ·rw [if_neg e] at k1
    split at k1
    ·cases k1
    ·split at k1<;>cases k1
  rw [Xc4 h hy ho hpl,hcz.1,hcz.2,X26,Xlr,← show sumB p.ins.toNat (p.vars.toNat-1) (semF (repP p y afZ) w x) x=semP (rqZ p y 2) w x from by
   show _=sumB p.ins.toNat (p.vars-1).toNat (semF (repP p y afZ) w x) x
   rw [show (p.vars-1).toNat=p.vars.toNat-1 from by omega],← X6y]
  refine X2i _ (fun a=>?_) x
  have:numB a 0=0:=by
   unfold numB
   rw [List.countP_eq_zero]
   intro i _
   simp
  rw [this];rfl
 ·by_cases k2:ruK p.ins (arF y p.ts)=2
  ·have e:outR p y=omR (rqZ p y 1) (if (arF y p.ts).c=2 then 1 else 7) (if (arF y p.ts).c=2 then 6 else 2) (drI y (arF y p.ts).z):=by
    unfold outR;rw [if_neg k1,if_pos k2]
   rw [e]
   refine ⟨rfl,1,by show p.root=p.root-1+1;omega,fun w x=>?_⟩
   have hc:(arF y p.ts).c=2∨(arF y p.ts).c=6:=by
    unfold ruK at k2
    rw [if_neg (by rw [hpl];decide)] at k2
    split at k2
    ·cases k2
    ·split at k2
     ·assumption
     ·split at k2<;>cases k2
   rw [Xc4 h hy ho hpl,show s2^1=s2 from by decide,Xfe]
   show _=s2*sumB p.ins.toNat (p.vars-1).toNat _ x
   rw [show (p.vars-1).toNat=p.vars.toNat-1 from by omega,← X6y]
   refine X2i _ (fun a=>?_) x
   rw [Xt9 (q:=rqZ p y 1) (Xk9 h ho) hNb.1.dr]
   have hs:semF (rqZ p y 1) w x a=semF (repP p y afZ) w x a:=rfl
   rw [hs,← Xv,Xfb]
   congr 1
   have hav:avI a ⟨drI y (arF y p.ts).z,0⟩=(numB a (drI y (arF y p.ts).z) : Int) % 2:=by unfold avI;rw [Int.add_zero]
   rw [hav]
   have h01:(numB a (drI y (arF y p.ts).z) : Int) % 2=0∨(numB a (drI y (arF y p.ts).z) : Int) % 2=1:=by omega
   rcases hc with e|e<;>rw [e]
   ·rw [if_pos rfl,if_pos rfl];exact (Xib _ h01).1
   ·rw [if_neg (by decide),if_neg (by decide)];exact (Xib _ h01).2
  ·have k3:(ruK p.ins (arF y p.ts)=3∧((arF y p.ts).c=0∨(arF y p.ts).c=4))∧0<(arF y p.ts).z/2^p.ins.toNat:=by
    revert hk k1 k2
    unfold ruK
    rw [if_neg (by rw [hpl];decide)]
    split
    ·intro _ h;exact absurd rfl h
    ·split
     ·intro _ _ h;exact absurd rfl h
     ·split
      ·rename_i h;intro _ _ _;exact ⟨⟨rfl,h.1⟩,h.2⟩
      ·intro h;exact absurd rfl h
   have e:outR p y=repP (rqZ p y 2) (vR p y) ⟨xI (drI y (arF y p.ts).z) (pw (vR p y)),(arF y p.ts).c/4⟩:=by
    unfold outR;rw [if_neg k1,if_neg k2]
   rw [e] at hv ⊢
   have hv2:2≤p.vars:=by
    have:(repP (rqZ p y 2) (vR p y) ⟨xI (drI y (arF y p.ts).z) (pw (vR p y)),(arF y p.ts).c/4⟩).vars=p.vars-1-1:=rfl
    omega
   refine ⟨rfl,2,by show p.root=p.root-2+2;omega,fun w x=>?_⟩
   obtain ⟨l1,l2,l3,l4,l5⟩:=X9r h ⟨hy.1,hy24⟩ ho k3.2
   have hvn:p.ins.toNat≤vR p y:=Nat.le_add_left _ _
   have hu:AO ⟨xI (drI y (arF y p.ts).z) (pw (vR p y)),(arF y p.ts).c/4⟩:=⟨l5.1,by rcases k3.1.2 with e|e<;>rw [e];exact .inl rfl;exact .inr rfl⟩
   have hzb:bitQ (vR p y) (drI y (arF y p.ts).z)=true:=by
    obtain ⟨z,hz,ez⟩:=hNb.1.dr (v:=y).nat;have h5:=l5.2
    rw [ez] at h5 ⊢
    unfold xI pw at h5
    rw [X0r (X0a hz) (X2n (by omega)),X0g,Nat.testBit_xor,Nat.testBit_two_pow_self] at h5
    rw [X0g]
    revert h5
    cases z.testBit (vR p y)<;>simp
   obtain ⟨k,hk'⟩ : ∃ k,p.vars.toNat=k+2:=⟨p.vars.toNat-2,by omega⟩
   have hzL:Lt (p.ins.toNat+k+1) (drI y (arF y p.ts).z):=Xf0 hNb.1 (by omega) fun i hi=>by
    have:=Xnl h hy ho hpl i hi
    omega
   have hvk:vR p y≤p.ins.toNat+k:=by
    rcases Nat.lt_or_ge (p.ins.toNat+k) (vR p y) with h'|h'
    ·obtain ⟨z,hz,ez⟩:=hzL.1.nat;have hlt:=hzL.2
     rw [ez] at hlt hzb
     rw [X0g,Nat.testBit_lt_two_pow (Nat.lt_of_lt_of_le (Int.ofNat_lt.1 hlt) (Nat.pow_le_pow_right (by decide) h'))] at hzb;cases hzb
    ·exact h'
   rw [Xc4 h hy ho hpl,hk',show k+2-1=k+1 from rfl,X96 k hvn hvk (fun a b hab=>by
    rw [Xgy hzL hab,Xby h hy ho,Xby h hy ho,Xdb (Xmr h hy ho) (Xl7 h hy ho) w x (fun i hi=>Xke (y:=y) false hab i (by omega) (by omega))]) x,Xlr,Xfe]
   show _=(1+1)*sumB p.ins.toNat (p.vars-1-1).toNat _ x
   rw [show (p.vars-1-1).toNat=k from by omega,← X6y]
   refine X2i _ (fun b=>?_) x
   rw [Xgv (p:=rqZ p y 2) (Xk9 h ho) (Xvb h ho) l2 hu l5.2]
   have hs:∀ a,semF (rqZ p y 2) w x a=semF (repP p y afZ) w x a:=fun a=>rfl
   rw [hs]
   have hd:drI (vR p y) (xI (drI y (arF y p.ts).z) (pw (vR p y)))=drI (vR p y) (drI y (arF y p.ts).z):=X8o hNb.1.dr l2
   have hβ:avI b (dA (vR p y) ⟨xI (drI y (arF y p.ts).z) (pw (vR p y)),(arF y p.ts).c/4⟩)=((numB b (drI (vR p y) (drI y (arF y p.ts).z)) : Int)+(arF y p.ts).c/4) % 2:=by
    unfold avI dA
    simp only
    rw [hd]
   rw [hβ,X73 b false hNb.1.dr l2,X73 b true hNb.1.dr l2,hzb,Xfb,Xfb]
   generalize numB b (drI (vR p y) (drI y (arF y p.ts).z))=m0
   simp only [Bool.and_false,Bool.and_true,Bool.false_eq_true,if_false,if_true,Nat.add_zero,Int.natCast_add]
   have hm:(m0:Int) % 2=0∨(m0:Int) % 2=1:=by omega
   rcases hm with hm|hm<;>rcases k3.1.2 with hc|hc<;>rw [hc]
   ·rw [show ((m0:Int)+0/4) % 2=0 from by omega,show ((m0:Int)+((1:Nat) : Int)) % 2=1 from by omega,hm,show (1:Rg)+omZ (0+4*0)=1+1 from by decide,show (1:Rg)+omZ (0+4*1)=0 from by decide,X18,X0w];rfl
   ·rw [show ((m0:Int)+4/4) % 2=1 from by omega,show ((m0:Int)+((1:Nat) : Int)) % 2=1 from by omega,hm,show (1:Rg)+omZ (4+4*0)=0 from by decide,show (1:Rg)+omZ (4+4*1)=1+1 from by decide,X18,X1s];rfl
   ·rw [show ((m0:Int)+0/4) % 2=1 from by omega,show ((m0:Int)+((1:Nat) : Int)) % 2=0 from by omega,hm,show (1:Rg)+omZ (0+4*1)=0 from by decide,show (1:Rg)+omZ (0+4*0)=1+1 from by decide,X18,X1s];rfl
   ·rw [show ((m0:Int)+4/4) % 2=0 from by omega,show ((m0:Int)+((1:Nat) : Int)) % 2=0 from by omega,hm,show (1:Rg)+omZ (4+4*1)=1+1 from by decide,show (1:Rg)+omZ (4+4*0)=0 from by decide,X18,X0w];rfl
theorem Xkk{p:Ps}{q:Ps×Int}(hv:validP p=true)(h:nxtP p=some q) : SemR p q.1:=by
 have hq:=X20 h
 unfold nxtP stepP at h
 cases e:firstY p with
 | none=>rw [e] at h;cases h
 | some j=>
  rw [e] at h
  simp only [Option.map_some,Option.bind_some] at h
  split at h
  ·injection h with h
   have hj:j<p.vars.toNat:=List.mem_range.1 (List.mem_of_find?_eq_some e)
   have hne:(ruR p (p.ins.toNat+j)).1≠0:=by
    have:=List.find?_some e
    simpa using this
   rw [← h] at hq ⊢
   exact Xmo (VPs.of hv) ⟨by omega,by omega⟩ hne (VPs.of hq.2.1).vars.1
  ·cases h
theorem Xch:∀ (n:Nat) {p:Ps},validP p=true→SemR p (redN n p).1
 | 0,p,_=>SemR.refl p
 | n+1,p,h=>by
  unfold redN
  cases e:nxtP p with
  | none=>exact SemR.refl p
  | some q=>exact (Xkk h e).trans (Xch n (X20 e).2.1)
theorem Xna{p:Ps}(h:validP p=true) : SemR p (redP p).1:=Xch _ h
theorem Xy4{n:Nat} : ∀ (l:List Gt) {s t:Pst},psAll n l s=some t→t.v=s.v+hs l
 | [],s,t,e=>by injection e with e;subst e;rfl
 | g::l,s,t,e=>by
  have e:(psStep n s g).bind (psAll n l)=some t:=e
  cases h1:psStep n s g with
  | none=>rw [h1] at e;cases e
  | some u=>
   rw [h1] at e
   have h2:=Xy4 l e
   have h3:u.v=s.v+hN g:=by
    unfold psStep at h1
    unfold hN
    split at h1
    ·rename_i hk
     rw [if_pos hk]
     split at h1
     ·cases h1
     ·injection h1 with h1;rw [← h1]
    ·rename_i hk
     rw [if_neg hk]
     repeat' split at h1
     all_goals (injection h1 with h1;rw [← h1];rfl)
   rw [h2,h3]
   show s.v+hN g+hs l=s.v+(hN g+hs l)
   omega
def PhB(N:Nat)(a b:List Gt)(k:Int) : Prop:=∀ i j,i<2^N→j<2^N→s2^hs b*run a (eb N j) (pt N i)=omZ k*(s2^hs a*run b (eb N j) (pt N i))
theorem Xku{c:Cx}{p:Ps}{n:Nat}(h:cOk c=true)(hn:c.n=(n:Int))(hp:psC c=some p) : p.root=(hs c.gs:Int)∧p.ins=(n:Int):=by
 unfold psC at hp
 rw [hn,Int.toNat_natCast] at hp
 cases e:psAll n c.gs (ps0 n) with
 | none=>rw [e] at hp;cases hp
 | some s=>
  rw [e] at hp
  injection hp with hp
  subst hp
  have:=Xy4 c.gs e
  refine ⟨?_,rfl⟩
  show ((s.v:Nat) : Int)=_
  rw [this]
  show (((0:Nat)+hs c.gs:Nat) : Int)=_
  omega
theorem Xrg{a:Nat→Bool}{x:Nat}(hx:x<2^24)(h:subI a (x:Int)≠0) : ∀ i,x.testBit i=true→a i=true:=by
 unfold subI at h
 split at h
 ·rename_i h2
  exact (Xio hx a).1 h2
 ·exact absurd rfl h
section
variable {N : Nat} {a b c : Cx} {p : Ps}
variable (hN : N ≤ 5) (ha : ∀ g ∈ a.gs, gOk (N : Int) g = true) (hb : ∀ g ∈ b.gs, gOk (N : Int) g = true) (hc : c.gs = a.gs ++ invL b.gs) (hcn : c.n = (N : Int)) (hok : cOk c = true) (hp : psC c = some p)
include hN ha hb hc hcn hok hp
end
def asg(A:Nat) : Nat→Bool:=fun i=>A.testBit i
def powP(p:Ps)(A:Nat) : Int:=p.phase+evL (asg A) (sm p.ts)
def numQ(f:Nat→Bool) : Nat→Nat
 | 0=>0
 | n+1=>2*numQ f n+(f n).toNat
def colP(n A:Nat) : Nat:=numQ (asg A) n
def rowP(p:Ps)(A:Nat) : Nat:=numQ (fun q=>avI (asg A) (aAt p.out q)==1) p.ins.toNat
def cellP(p:Ps)(i j n:Nat) : Rg:=sumN (fun A=>if rowP p A=i∧colP p.ins.toNat A=j then omZ (powP p A) else 0) n
def rZ:Rg:=⟨0,0,0,0⟩
def sclI(z:Rg)(e:Int) : Option Dy:=if z=rZ then some dZ else if (raiseI (-e).toNat z).2&&dOk (dLow (raiseI (-e).toNat z).1 (max e 0)) then some (dLow (raiseI (-e).toNat z).1 (max e 0)) else none
def opPs(p:Ps) : Option Mx:=if validP p&&decide (p.ins+p.vars≤10) then matOf ((2^p.ins.toNat:Nat) : Int) ((2^p.ins.toNat:Nat) : Int) fun i j=>sclI (cellP p i j (2^(p.ins+p.vars).toNat)) p.root else none
theorem X6k{f g:Nat→Bool} : ∀ n,(∀ q,q<n→f q=g q)→numQ f n=numQ g n
 | 0,_=>rfl
 | n+1,h=>by rw [numQ,numQ,X6k n fun q hq=>h q (by omega),h n (by omega)]
def chkNum:Bool:=(List.range 6).all fun n=>bools.all fun a=>bools.all fun b=>bools.all fun c=>bools.all fun d=>bools.all fun e=>decide (numQ (fun q=>[a,b,c,d,e].getD q false) n<2^n)&&(List.range n).all fun q=>pt n (numQ (fun q=>[a,b,c,d,e].getD q false) n) q==[a,b,c,d,e].getD q false
theorem Xce:chkNum=true:=by kernel_rfl
theorem X76{N:Nat}(hN:N≤5)(β:Nat→Bool) : numQ β N<2^N∧∀ q,q<N→pt N (numQ β N) q=β q:=by
 have h:=Xce
 simp only [chkNum,List.all_eq_true,List.mem_range] at h
 have h:=h N (by omega) _ (X4u (β 0)) _ (X4u (β 1)) _ (X4u (β 2)) _ (X4u (β 3)) _ (X4u (β 4))
 simp only [Bool.and_eq_true,List.all_eq_true,List.mem_range,beq_iff_eq,decide_eq_true_eq] at h
 have e:∀ q,q<N→[β 0,β 1,β 2,β 3,β 4].getD q false=β q:=fun q hq=>by
  have:q=0∨q=1∨q=2∨q=3∨q=4:=by omega
  rcases this with rfl|rfl|rfl|rfl|rfl<;>rfl
 rw [X6k N e] at h
 exact ⟨h.1,fun q hq=>by rw [h.2 q hq,e q hq]⟩
theorem Xgi(f:Nat→Rg)(m:Nat) : ∀ n,sumN f (m+n)=sumN f m+sumN (fun k=>f (m+k)) n
 | 0=>(X0w _).symm
 | n+1=>by
  show sumN f (m+n)+f (m+n)=sumN f m+(sumN (fun k=>f (m+k)) n+f (m+n))
  rw [Xgi f m n,X0z]
theorem Xfh{A n q:Nat}(h:A<2^n)(hq:n≤q) : asg A q=false:=Nat.testBit_lt_two_pow (Nat.lt_of_lt_of_le h (Nat.pow_le_pow_right (by decide) hq))
theorem Xl4{A n:Nat}(h:A<2^n) : asg (2^n+A)=upB (asg A) n true:=by
 funext q
 unfold asg upB
 by_cases e:q=n
 ·subst e
  rw [if_pos rfl,Nat.testBit_two_pow_add_eq,Nat.testBit_lt_two_pow h]
  rfl
 ·rw [if_neg e]
  rcases Nat.lt_or_gt_of_ne e with h1|h1
  ·rw [Nat.testBit_two_pow_add_gt h1]
  ·have ha:A.testBit q=false:=Nat.testBit_lt_two_pow (Nat.lt_of_lt_of_le h (Nat.pow_le_pow_right (by decide) (by omega)))
   rw [show (fun i=>A.testBit i) q=false from ha,Nat.testBit_lt_two_pow]
   have:2^(n+1)≤2^q:=Nat.pow_le_pow_right (by decide) (by omega)
   rw [Nat.pow_succ] at this
   omega
theorem Xu6{A n:Nat}(h:A<2^n) : asg A=upB (asg A) n false:=by
 funext q
 unfold upB
 by_cases e:q=n
 ·rw [if_pos e,e,Xfh h (Nat.le_refl _)]
 ·rw [if_neg e]
def chkBit:Bool:=(List.range 32).all fun A=>(List.range 5).all fun q=>A.testBit q==(bitT q A==1)
theorem Xe1:chkBit=true:=by kernel_rfl
theorem Xt7{N A q:Nat}(hN:N≤5)(hA:A<2^N)(hq:q<N) : asg A q=pt N A (N-1-q):=by
 have h:=Xe1
 simp only [chkBit,List.all_eq_true,List.mem_range,beq_iff_eq] at h
 have h32:A<32:=Nat.lt_of_lt_of_le hA (Nat.pow_le_pow_right (n:=2) (by decide) hN)
 unfold asg pt
 rw [h A h32 q (by omega),decide_eq_true (show N-1-q<N by omega),Bool.true_and,show N-1-(N-1-q)=q from by omega]
theorem Xgh{N j:Nat}(hN:N≤5)(hj:j<2^N) : ∀ (v:Nat) (F:St),sumB N v F (pt N j)=sumN (fun A=>if colP N A=j then F (asg A) else 0) (2^(N+v))
 | 0,F=>by
  obtain ⟨t,ht,htj⟩ : ∃ t,t<2^N∧asg t=pt N j:=by
   have h:=X76 hN fun q=>pt N j (N-1-q)
   refine ⟨numQ (fun q=>pt N j (N-1-q)) N,h.1,?_⟩
   have hb:=fun q hq=>(h.2 q hq)
   funext q
   rcases Nat.lt_or_ge q N with h1|h1
   ·have h2:=hb (N-1-q) (by omega)
    rw [show N-1-(N-1-q)=q from by omega] at h2
    rw [← h2]
    exact Xt7 hN h.1 h1
   ·rw [Xfh h.1 h1]
    unfold pt
    rw [decide_eq_false (by omega)]
    rfl
  have hc:colP N t=j:=by
   refine Xlw hN (X76 hN _).1 hj fun q hq=>?_
   rw [← htj]
   exact (X76 hN _).2 q hq
  rw [Nat.add_zero,Xht (t:=t) _ ht fun k hk hne=>if_neg fun e=>hne ?_]
  ·show F (pt N j)=_
   rw [if_pos hc,htj]
  ·have h2:asg k=asg t:=by
    rw [htj,← e]
    funext q
    rcases Nat.lt_or_ge q N with h1|h1
    ·exact ((X76 hN _).2 q h1).symm
    ·rw [Xfh hk h1]
     unfold pt
     rw [decide_eq_false (by omega)]
     rfl
   exact Nat.eq_of_testBit_eq fun q=>congrFun h2 q
 | v+1,F=>by
  show sumB N v (fun b=>F (upB b (N+v) false)+F (upB b (N+v) true)) (pt N j)=_
  rw [Xgh hN hj v,← Nat.add_assoc,Nat.pow_succ,Nat.mul_two,Xgi,← Xdj]
  refine X7p _ fun A hA=>?_
  have e:colP N (2^(N+v)+A)=colP N A:=by
   unfold colP
   rw [Xl4 hA]
   exact X6k N fun q hq=>by unfold upB;rw [if_neg (by omega)]
  simp only [e]
  by_cases h:colP N A=j
  ·rw [if_pos h,if_pos h,if_pos h,Xl4 hA,← Xu6 hA]
  ·rw [if_neg h,if_neg h,if_neg h]
   exact (X0w _).symm
theorem Xls{p:Ps}{N i j:Nat}(hn:p.ins=(N:Int))(h0:0≤p.vars)(hN:N≤5)(hi:i<2^N)(hj:j<2^N) : cellP p i j (2^(p.ins+p.vars).toNat)=semP p (eb N i) (pt N j):=by
 unfold semP cellP
 rw [show (p.ins+p.vars).toNat=N+p.vars.toNat from by omega,show p.ins.toNat=N from by omega,Xgh hN hj]
 refine X7p _ fun A _=>?_
 by_cases h:colP N A=j
 ·rw [if_pos h]
  have hb:eb N i (affs N p.out (asg A) (pt N j))=if rowP p A=i then 1 else 0:=by
   unfold rowP
   rw [show p.ins.toNat=N from by omega]
   have hq:=X76 hN fun q=>avI (asg A) (aAt p.out q)==1
   unfold eb
   by_cases e:numQ (fun q=>avI (asg A) (aAt p.out q)==1) N=i
   ·rw [if_pos e,if_pos]
    intro q h1
    unfold affs
    rw [if_pos h1,← e,hq.2 q h1]
   ·rw [if_neg e,if_neg]
    intro h2
    refine e (Xlw hN hq.1 hi fun q h1=>?_)
    have h3:=h2 q h1
    unfold affs at h3
    rw [if_pos h1] at h3
    rw [hq.2 q h1,← h3]
  rw [hb]
  by_cases e:rowP p A=i
  ·rw [if_pos e,if_pos ⟨e,h⟩,X1u];rfl
  ·rw [if_neg e,if_neg fun h2=>e h2.1,X1g]
 ·rw [if_neg h,if_neg fun h2=>h h2.2]
def sm4(z:Rg)(n:Int) : Prop:=(-n≤z.a∧z.a≤n)∧(-n≤z.b∧z.b≤n)∧(-n≤z.c∧z.c≤n)∧(-n≤z.d∧z.d≤n)
theorem Xvf(k:Int) : sm4 (omZ k) 1:=by
 unfold omZ
 have hm:(k % 8).toNat<8:=by omega
 revert hm
 generalize (k % 8).toNat=m
 intro hm
 have:m=0∨m=1∨m=2∨m=3∨m=4∨m=5∨m=6∨m=7:=by omega
 unfold sm4
 rcases this with rfl|rfl|rfl|rfl|rfl|rfl|rfl|rfl<;>decide
theorem Xmc{f:Nat→Rg}(h:∀ k,sm4 (f k) 1) : ∀ n:Nat,sm4 (sumN f n) (n:Int)
 | 0=>by show sm4 (0:Rg) 0;unfold sm4;decide
 | n+1=>by
  have h1:=Xmc h n;have h2:=h n
  unfold sm4 at *
  have ea:(sumN f (n+1)).a=(sumN f n).a+(f n).a:=rfl
  have eb:(sumN f (n+1)).b=(sumN f n).b+(f n).b:=rfl
  have ec:(sumN f (n+1)).c=(sumN f n).c+(f n).c:=rfl
  have ed:(sumN f (n+1)).d=(sumN f n).d+(f n).d:=rfl
  rw [ea,eb,ec,ed]
  omega
theorem Xe8(p:Ps)(i j:Nat){n:Nat}(hn:n≤10) : rOk (cellP p i j (2^n))=true:=by
 have h:sm4 (cellP p i j (2^n)) ((2^n:Nat) : Int):=Xmc (fun A=>by
  split
  ·exact Xvf _
  ·unfold sm4;decide) _
 have h2:2^n≤2^10:=Nat.pow_le_pow_right (by decide) hn
 have h3:((2^n:Nat) : Int)≤1024:=by omega
 unfold sm4 at h
 rw [X64]
 omega
theorem Xqe{z:Rg}{e:Int}{d:Dy}(hz:rOk z=true)(h:sclI z e=some d) : V d e.toNat (s2^(-e).toNat*z)∧dOk d=true:=by
 unfold sclI at h
 split at h
 ·rename_i h0
  injection h with h
  subst h0 h
  have:s2^(-e).toNat*rZ=0:=X1g _
  rw [this]
  exact ⟨Xvc _,by decide⟩
 ·split at h
  ·rename_i h1
   injection h with h
   simp only [Bool.and_eq_true] at h1
   obtain ⟨e1,e2⟩:=Xd3 _ _ hz h1.1
   have hv:=Xup (e:=max e 0) e2 (by omega)
   rw [h] at hv h1
   rw [e1,show (max e 0).toNat=e.toNat from by omega] at hv
   exact ⟨hv,h1.2⟩
  ·cases h
theorem X97{p:Ps}{M:Mx}(h:opPs p=some M) : ∃ N:Nat,N≤5∧p.ins=(N:Int)∧(∀ i j,i<2^N→j<2^N→V (M.at i j) p.root.toNat (s2^(-p.root).toNat*semP p (eb N i) (pt N j)))∧(∀ i j,i<2^N→j<2^N→dOk (M.at i j)=true)∧M.rows=((2^N:Nat) : Int)∧M.cols=((2^N:Nat) : Int)∧M.cells.length=2^N*2^N:=by
 unfold opPs at h
 split at h
 ·rename_i h1
  simp only [Bool.and_eq_true,decide_eq_true_eq] at h1
  have hV:=VPs.of h1.1;have hI:=hV.ins;have hvr:=hV.vars
  obtain ⟨N,hN⟩ : ∃ N:Nat,p.ins=(N:Int):=⟨p.ins.toNat,by omega⟩
  have hN5:N≤5:=by omega
  obtain ⟨h2,h3,h4,h5⟩:=Xnz h
  rw [show p.ins.toNat=N from by omega] at h2 h3 h4 h5
  simp only [Int.toNat_natCast] at h2 h5
  have hv:∀ i j,i<2^N→j<2^N→V (M.at i j) p.root.toNat (s2^(-p.root).toNat*semP p (eb N i) (pt N j))∧dOk (M.at i j)=true:=fun i j hi hj=>by
   have h6:=Xqe (Xe8 p i j (by omega)) (h2 i j hi hj)
   rw [Xls hN hvr.1 hN5 hi hj] at h6
   exact h6
  exact ⟨N,hN5,hN,fun i j hi hj=>(hv i j hi hj).1,fun i j hi hj=>(hv i j hi hj).2,h3,h4,h5⟩
 ·cases h
theorem Xtl{p q:Mx}{R C:Nat}(hr:p.rows=(R:Int))(hr2:q.rows=(R:Int))(hc:p.cols=(C:Int))(hc2:q.cols=(C:Int))(hp:p.cells.length=R*C)(hq:q.cells.length=R*C)(h:∀ i j,i<R→j<C→p.at i j=q.at i j) : p=q:=by
 obtain ⟨pr,pc,pl⟩:=p;obtain ⟨qr,qc,ql⟩:=q
 simp only at hr hr2 hc hc2 hp hq
 subst hr hc hr2 hc2
 congr 1
 apply List.ext_getElem
 ·omega
 ·intro m h1 h2
  have hC:0<C:=by
   rcases Nat.eq_zero_or_pos C with e|e
   ·rw [e,Nat.mul_zero] at hp;omega
   ·exact e
  have h3:=h (m/C) (m % C) (Nat.div_lt_of_lt_mul (by rw [Nat.mul_comm];omega)) (Nat.mod_lt _ hC)
  unfold Mx.at at h3
  simp only [Int.toNat_natCast] at h3
  rw [show m/C*C+m % C=m from by rw [Nat.mul_comm];exact Nat.div_add_mod m _] at h3
  rw [List.getD_eq_getElem?_getD,List.getD_eq_getElem?_getD,List.getElem?_eq_getElem h1,List.getElem?_eq_getElem h2] at h3
  exact h3
theorem Xj0{p q:Ps}{M M':Mx}(hs:SemR p q)(h:opPs p=some M)(h':opPs q=some M') : M=M':=by
 obtain ⟨N,hN,e1,v1,o1,r1,c1,l1⟩:=X97 h;obtain ⟨N',hN',e2,v2,o2,r2,c2,l2⟩:=X97 h';obtain ⟨s1,d,s2e,s3⟩:=hs
 obtain rfl:N=N':=by omega
 refine Xtl r1 r2 c1 c2 l1 l2 fun i j hi hj=>?_
 have w1:=v1 i j hi hj
 have w2:=v2 i j hi hj
 rw [s3] at w1
 refine Xwb (m:=max p.root.toNat q.root.toNat) (o1 i j hi hj) (o2 i j hi hj) (z:=s2^(max p.root.toNat q.root.toNat-p.root.toNat)*(s2^(-p.root).toNat*(s2^d*semP q (eb N i) (pt N j)))) ?_ ?_
 ·have:=w1.up (max p.root.toNat q.root.toNat-p.root.toNat)
  rw [show p.root.toNat+(max p.root.toNat q.root.toNat-p.root.toNat)=max p.root.toNat q.root.toNat from by omega] at this
  exact this
 ·have:=w2.up (max p.root.toNat q.root.toNat-q.root.toNat)
  rw [show q.root.toNat+(max p.root.toNat q.root.toNat-q.root.toNat)=max p.root.toNat q.root.toNat from by omega] at this
  have e:s2^(max p.root.toNat q.root.toNat-q.root.toNat)*(s2^(-q.root).toNat*semP q (eb N i) (pt N j))=s2^(max p.root.toNat q.root.toNat-p.root.toNat)*(s2^(-p.root).toNat*(s2^d*semP q (eb N i) (pt N j))):=by
   rw [← Xv,← X2p,← Xv,← Xv,← X2p,← X2p]
   congr 2
   omega
  rw [e] at this
  exact this
theorem Xew(m:Int) : szI m=numB (fun _=>true) m:=by
 unfold szI setN numB
 rw [← List.countP_eq_length_filter]
 congr 1
 funext i
 rw [Bool.and_true]
theorem Xwv{v:Nat}{m:Int}(h:Mk m)(hv:v<24) : szI m=szI (drI v m)+if bitQ v m=true then 1 else 0:=by
 have e:=X73 (fun _=>true) true h hv
 have e2:lift v (fun _=>true) true=fun _=>true:=by
  funext i
  unfold lift
  split
  ·rfl
  ·split<;>rfl
 rw [e2,Bool.and_true] at e
 rw [Xew,Xew]
 exact e
section
variable {l : List Int} (hl : ∀ x ∈ l, Mk x ∧ szI x = 1) {r : Int} {s : Nat} (hr : Mk r ∧ szI r ≤ s)
include hl hr
theorem Xge{x y k:Int}(hk:((2^s:Nat) : Int)∣k)(hx:Mk x∧szI x≤1)(hy:Mk y∧szI y≤1) : ∀ n,∀ p ∈ exZL r x y k l n,dv p.1∣p.2
 | 0,p,h=>by cases h
 | n+1,p,h=>by
  rcases List.mem_append.1 h with h|h
  ·exact Xge hk hx hy n p h
  ·rw [List.mem_singleton.1 h]
   have hz:=X7w hl n;have h1:=X4a hr.1 hx.1;have h2:=X4a (hr.1.or hx.1) hy.1;have h3:=X4a ((hr.1.or hx.1).or hy.1) hz.1;refine X2r (s:=s+3) (by show szI (oI (oI (oI r x) y) (l.getD n 0))≤s+3;omega) ?_
   rw [show s+3-1=s+2 from rfl,Nat.pow_add]
   show _∣4*k
   rw [Int.natCast_mul,Int.mul_comm 4 k]
   exact Int.mul_dvd_mul hk (by decide)
theorem Xgn{x k:Int}(hk:((2^s:Nat) : Int)∣k)(hx:Mk x∧szI x≤1) : ∀ n,∀ p ∈ exYL r x k l n,dv p.1∣p.2
 | 0,p,h=>by cases h
 | n+1,p,h=>by
  have hy:=X7w hl n
  rcases List.mem_append.1 h with h|h
  ·exact Xgn hk hx n p h
  ·rcases List.mem_cons.1 h with rfl|h
   ·have h1:=X4a hr.1 hx.1;have h2:=X4a (hr.1.or hx.1) hy.1;refine X2r (s:=s+2) (by show szI (oI (oI r x) (l.getD n 0))≤s+2;omega) ?_
    rw [show s+2-1=s+1 from rfl,Nat.pow_add]
    show _ ∣ -2*k
    rw [Int.natCast_mul,Int.mul_comm (-2) k]
    exact Int.mul_dvd_mul hk (by decide)
   ·exact Xge hl hr hk hx hy n p h
theorem Xbw{k:Int}(hk:((2^s:Nat) : Int)∣k) : ∀ n,∀ p ∈ exXL r k l n,dv p.1∣p.2
 | 0,p,h=>by cases h
 | n+1,p,h=>by
  have hy:=X7w hl n
  rcases List.mem_append.1 h with h|h
  ·exact Xbw hk n p h
  ·rcases List.mem_cons.1 h with rfl|h
   ·have h1:=X4a hr.1 hy.1;exact X2r (s:=s+1) (by show szI (oI r (l.getD n 0))≤s+1;omega) hk
   ·exact Xgn hl hr hk hy n p h
end
theorem Xbj{s:Nat}{k:Int}(h:((2^s:Nat) : Int)∣k) : ((2^(s-1) : Nat) : Int)∣k:=Int.dvd_trans (Int.ofNat_dvd.2 (Nat.pow_dvd_pow 2 (by omega))) h
theorem Xph{k r:Int}{s:Nat}{a:Af}(ha:Mk a.m)(hr:Mk r∧szI r≤s)(hk:((2^s:Nat) : Int)∣k) : ∀ p ∈ expL k a r,dv p.1∣p.2:=fun p hp=>by
 have hl:∀ x ∈ lows a.m,Mk x∧szI x=1:=fun x hx=>⟨X3j ha hx,X7l ha hx⟩
 unfold expL at hp
 split at hp
 ·rcases List.mem_cons.1 hp with rfl|hp
  ·exact X2r hr.2 (Xbj hk)
  ·exact Xbw hl hr (Int.dvd_neg.2 hk) _ p hp
 ·exact Xbw hl hr hk _ p hp
theorem Xg2{p:Ps}(h:validP p=true) : ∀ t ∈ p.ts,Lt (p.ins+p.vars).toNat t.m∧1≤szI t.m∧((2^(szI t.m-1) : Nat) : Int)∣t.c:=fun t ht=>by
 have hV:=VPs.of h
 simp only [validP,Bool.and_eq_true,okTs,List.all_eq_true,List.mem_range] at h
 obtain ⟨i,hi,e⟩:=List.getElem_of_mem ht;have h2:=h.1.2 i hi
 unfold okTa at h2
 have e2:p.ts.getD i tZ=t:=by rw [List.getD_eq_getElem?_getD,List.getElem?_eq_getElem hi,e];rfl
 rw [e2] at h2
 simp only [Bool.and_eq_true,beq_iff_eq] at h2
 refine ⟨⟨hV.ts.mks t ht,hV.tb t ht⟩,X8p (hV.ts.mks t ht) (hV.ts.all t ht).1,Int.dvd_of_emod_eq_zero h2.1.2⟩
theorem X8b{p:Ps}(h:validP p=true){r:Int}(hr:-60≤r∧r≤60) : validP { p with root:=r }=true:=by
 simp only [validP,okHd,Bool.and_eq_true] at h ⊢
 obtain ⟨⟨⟨⟨⟨⟨h1,h2⟩,h3⟩,h4⟩,h5⟩,h6⟩,h7⟩:=h;exact ⟨⟨⟨⟨⟨⟨h1,h2⟩,by simp only [inR,Bool.and_eq_true,decide_eq_true_eq];omega⟩,h4⟩,h5⟩,h6⟩,h7⟩
theorem X98{n v:Nat}{root:Int}{f:Int→Int}{out:List Af}(hn:1≤n∧n≤5)(hN:n+v≤24)(hr:-60≤root∧root≤60)(hp:PO f)(hs:SupN (n+v) f)(hd:Dv f)(hl:out.length=n)(ho:∀ a ∈ out,AO a∧Lt (n+v) a.m) :
  validP ⟨(n:Int),(v:Int),root,f 0,tms f,out⟩=true:=
 X8b (PsV.valid (s:=⟨f,v,out⟩) ⟨⟨hp,hl,fun a ha=>(ho a ha).1,hN⟩,hs,hd,fun a ha=>(ho a ha).2⟩ hn) hr
theorem SupN.cPh(N:Nat)(ph:Int) : SupN N (cPh ph):=fun x hx=>by
 unfold Proofs.YtiejkplemjkjoaaGreatDoor.cPh upd at hx
 split at hx
 ·rename_i e;subst e;exact Lt.zero N
 ·exact absurd rfl hx
theorem Dv.cPh(ph:Int) : Dv (cPh ph):=fun x=>by
 unfold Proofs.YtiejkplemjkjoaaGreatDoor.cPh upd
 split
 ·rename_i e;subst e;exact X6n _
 ·exact Int.dvd_zero _
theorem X3k{p:Ps}(h:validP p=true) : ∃ n v:Nat,p.ins=(n:Int)∧p.vars=(v:Int)∧(1≤n∧n≤5)∧n+v≤24∧(-60≤p.root∧p.root≤60)∧p.out.length=n∧(p.ins+p.vars).toNat=n+v∧∀ a ∈ p.out,AO a∧Lt (n+v) a.m:=by
 have hV:=VPs.of h;have hI:=hV.ins;have hvr:=hV.vars
 simp only [validP,okHd,Bool.and_eq_true,inR,decide_eq_true_eq] at h
 have e:(p.ins+p.vars).toNat=p.ins.toNat+p.vars.toNat:=by omega
 refine ⟨p.ins.toNat,p.vars.toNat,by omega,by omega,by omega,by omega,by omega,by omega,e,fun a ha=>⟨(hV.out a ha).1,(hV.out a ha).1.1,?_⟩⟩
 rw [← e]
 exact (hV.out a ha).2
theorem Xxf{y N:Nat}{z:Int}(hz:Lt (N+1) z)(hy:y<N+1)(hN:N<24) : Lt N (drI y z):=Xf0 hz.1 hy fun i hi=>by
 refine Classical.byContradiction fun hn=>?_;obtain ⟨x,hx,rfl⟩:=hz.1.nat
 have h1:x<2^(N+1):=Int.ofNat_lt.1 hz.2
 rw [X0g,Nat.testBit_lt_two_pow (Nat.lt_of_lt_of_le h1 (Nat.pow_le_pow_right (by decide) (by omega)))] at hi
 cases hi
theorem Xb7{p:Ps}{j:Nat}{u:Af}(h:validP p=true)(hj:j<(p.ins+p.vars).toNat∧p.ins.toNat≤j)(hu:AO u∧Lt (p.ins+p.vars).toNat u.m)(hb:bitQ j u.m=false) : validP (repP p j u)=true:=by
 obtain ⟨n,v,e1,e2,hn,hN,hr,hl,e3,ho⟩:=X3k h;have hV:=VPs.of h
 rw [e3] at hj hu
 obtain ⟨w,rfl⟩ : ∃ w,v=w+1:=⟨v-1,by omega⟩
 have hT:=Xg2 h
 rw [e3] at hT
 have hLt:∀ m:Int,Lt (n+(w+1)) m→Lt (n+w) (drI j m):=fun m hm=>Xxf (N:=n+w) hm hj.1 (by omega)
 have hdu:Lt (n+w) (dA j u).m:=hLt _ hu.2
 have hflat:∀ q ∈ p.ts.flatMap (rL j u),Lt (n+w) q.1∧dv q.1∣q.2:=fun q hq=>by
  obtain ⟨t,ht,hq⟩:=List.mem_flatMap.1 hq;obtain ⟨t1,t2,t3⟩:=hT t ht
  have hs:=Xwv t1.1 (show j<24 by omega)
  have hd:=hLt _ t1
  unfold rL at hq
  split at hq
  ·rename_i hbt
   rw [if_pos hbt] at hs
   refine ⟨X8e hdu hd q hq,Xph (s:=szI (drI j t.m)) hdu.1 ⟨hd.1,Nat.le_refl _⟩ ?_ q hq⟩
   rw [hs] at t3
   exact t3
  ·rename_i hbt
   rw [if_neg hbt,Nat.add_zero] at hs
   rw [List.mem_singleton.1 hq]
   exact ⟨hd,X2r (s:=szI t.m) (by rw [hs];exact Nat.le_refl _) t3⟩
 have hpo:=PO.foldA (p.ts.flatMap (rL j u)) (PO.cPh hV.ph)
 have key:=X98 (n:=n) (v:=w) (root:=p.root) (f:=foldA (p.ts.flatMap (rL j u)) (cPh p.phase)) (out:=p.out.map fun a=>dA j (sA j u a)) hn (by omega) hr hpo
  (SupN.fold (fun q hq=>(hflat q hq).1) (PO.cPh hV.ph) (SupN.cPh _ _)) (Dv.fold (Dv.cPh _) fun q hq=>(hflat q hq).2) (by rw [List.length_map];exact hl) fun a ha=>by
   obtain ⟨b,hb',rfl⟩:=List.mem_map.1 ha;obtain ⟨b1,b2⟩:=ho b hb'
   have hsa:AO (sA j u b)∧Lt (n+(w+1)) (sA j u b).m:=by
    unfold sA
    split
    ·have hp:Lt (n+(w+1)) (pw j):=⟨X2k (by omega),Int.ofNat_lt.2 (Nat.pow_lt_pow_right (by decide) (by omega))⟩
     refine ⟨⟨(b2.xor hp).xor hu.2 |>.1,?_⟩,(b2.xor hp).xor hu.2⟩
     show xI b.t u.t=0∨xI b.t u.t=1
     rw [Xtg b1.2 hu.1.2]
     rcases b1.2 with h1|h1<;>rcases hu.1.2 with h2|h2<;>rw [h1,h2]<;>decide
    ·exact ⟨b1,b2⟩
   exact ⟨⟨(hLt _ hsa.2).1,hsa.1.2⟩,hLt _ hsa.2⟩
 have e4:repP p j u=⟨(n:Int),((w:Nat) : Int),p.root,foldA (p.ts.flatMap (rL j u)) (cPh p.phase) 0,tms (foldA (p.ts.flatMap (rL j u)) (cPh p.phase)),p.out.map fun a=>dA j (sA j u a)⟩:=by
  unfold repP mkP
  rw [e1,e2,show ((w+1:Nat) : Int)-1=((w:Nat) : Int) from by omega]
 rw [e4]
 exact key
theorem X5x{p:Ps}(h:validP p=true) : PO (polF p)∧SupN (p.ins+p.vars).toNat (polF p)∧Dv (polF p):=by
 have hV:=VPs.of h;have hT:=Xg2 h
 have hs:∀ q ∈ sm p.ts,Lt (p.ins+p.vars).toNat q.1∧dv q.1∣q.2:=fun q hq=>by
  obtain ⟨t,ht,rfl⟩:=List.mem_map.1 hq;exact ⟨(hT t ht).1,X2r (Nat.le_refl _) (hT t ht).2.2⟩
 exact ⟨PO.foldA _ (PO.cPh hV.ph),SupN.fold (fun q hq=>(hs q hq).1) (PO.cPh hV.ph) (SupN.cPh _ _),Dv.fold (Dv.cPh _) fun q hq=>(hs q hq).2⟩
structure Oc where f:Nat→Int
def encO(u:Oc) : List Value:=[.int .i64 (u.f 0),.int .i64 (u.f 1),.int .i64 (u.f 2),.int .i64 (u.f 3),.int .i64 (u.f 4),.int .i64 (u.f 5),.int .i64 (u.f 6),.int .i64 (u.f 7)]
theorem Xua:ZeroT Tryz.prog 85 (.agg #[.int .i64 0,.int .i64 0,.int .i64 0,.int .i64 0,.int .i64 0,.int .i64 0,.int .i64 0,.int .i64 0]):=X28 (by kernel_rfl)
theorem X5g(u:Oc) : (encO u).length=8:=rfl
def ocZ:Oc:=⟨fun _=>0⟩
def Oc.put(u:Oc)(j:Nat)(v:Int) : Oc:=⟨fun i=>if i=j then v else u.f i⟩
theorem Xwh{w:World}{T b k j:Nat}{l:List Oc}{u:Oc}(hb:Blk w b T (l.flatMap encO))(hu:l[k]? = some u)(hj:j<8) : At w ⟨b,k*8+j,none⟩ [.int .i64 (u.f j)]:=by
 have h:=hb.at (k*8+j)
 rw [← List.drop_drop,← X70 X5g,Xks hu,List.flatMap_cons] at h
 have:j=0∨j=1∨j=2∨j=3∨j=4∨j=5∨j=6∨j=7:=by omega
 rcases this with rfl|rfl|rfl|rfl|rfl|rfl|rfl|rfl<;>exact At.take h 1
theorem Xac:∀ (l:List Oc) (k j:Nat) (u:Oc) (v:Int),l[k]? = some u→j<8→splice (l.flatMap encO) (k*8+j) [.int .i64 v]=(l.set k (u.put j v)).flatMap encO
 | [],k,j,u,v,h,_=>by simp at h
 | y::l,0,j,u,v,h,hj=>by
  have:y=u:=by simpa using h
  subst this
  rw [List.flatMap_cons,List.set_cons_zero,List.flatMap_cons]
  have:j=0∨j=1∨j=2∨j=3∨j=4∨j=5∨j=6∨j=7:=by omega
  rcases this with rfl|rfl|rfl|rfl|rfl|rfl|rfl|rfl<;>rfl
 | y::l,k+1,j,u,v,h,hj=>by
  have ih:=Xac l k j u v (by simpa using h) hj
  unfold splice at ih ⊢
  have h1:(k+1)*8+j=(encO y).length+(k*8+j):=by rw [X5g];omega
  rw [h1,List.flatMap_cons,List.set_cons_succ,List.flatMap_cons,List.take_length_add_append,← ih,show (encO y).length+(k*8+j)+([.int .i64 v] : List Value).length=(encO y).length+(k*8+j+([.int .i64 v] : List Value).length) from by omega,List.drop_length_add_append]
  simp only [List.append_assoc]
section
variable {P : Program} {a : Act} {w : World} {n : Nat} {e : Env} {ty : TypeId} {pos : String} {af : Array Edge} {g : Option (Nat × Bool)} {d : Option Tmp}
theorem Xox{t b k j T:Nat}{x:Operand}{l:List Oc}{u:Oc}(hx:ev e x=some (.pointer (some ⟨b,k*8+j,none⟩)))(h1:OneT P t)(hb:Blk w b T (l.flatMap encO))(hu:l[k]? = some u)(hj:j<8) : EvW P ⟨d,.load t x,ty,pos,af,g⟩ n e w (.int .i64 (u.f j)):=
 X0 hx h1 (Xwh hb hu hj)
theorem Xm5{t T b k j:Nat}{x y:Operand}{v:Int}{l:List Oc}{u:Oc}(hx:ev e x=some (.pointer (some ⟨b,k*8+j,none⟩)))(hy:ev e y=some (.int .i64 v))(hs:SizeT P t 1)(hb:Blk w b T (l.flatMap encO))(hu:l[k]? = some u)(hj:j<8) : EfW P ⟨d,.store t x y,ty,pos,af,g⟩ n e w (Stored w b T ((l.set k (u.put j v)).flatMap encO)):=by
 refine X34 (vs:=[.int .i64 v]) hx hy hs hb rfl rfl rfl ?_ (Xac l k j u v hu hj)
 rw [Nat.ble_eq,Xh X5g]
 have hk:k<l.length:=by
  rcases Nat.lt_or_ge k l.length with h|h
  ·exact h
  ·rw [List.getElem?_eq_none h] at hu;cases hu
 omega
end
theorem Xmt{x:Nat}{m:Int}(hx:x<1024)(hm:Mk m) : bits .and .i64 (x:Int) m=((x &&& m.toNat:Nat) : Int):=by
 obtain ⟨y,hy,rfl⟩:=hm.nat
 rw [X3x (Nat.lt_of_lt_of_le hx (by decide)) (X0a hy)]
 rfl
theorem Xu5{x:Nat}{m:Int}(hx:x<1024) : Mk ((x &&& m.toNat:Nat) : Int):=Mk.of (Nat.lt_of_le_of_lt Nat.and_le_left (Nat.lt_of_lt_of_le hx (by decide)))
theorem Xpf{x:Nat}{m:Int} : szI ((x &&& m.toNat:Nat) : Int)=numB (asg x) m:=by
 rw [Xew]
 unfold numB asg
 congr 1
 funext i
 rw [Int.toNat_natCast,Nat.testBit_and,Bool.and_true,Bool.and_comm]
theorem Xii{x:Nat}{m:Int}(hm:Mk m) : subI (asg x) m=if ((x &&& m.toNat:Nat) : Int)=m then 1 else 0:=by
 obtain ⟨y,hy,rfl⟩:=hm.nat
 rw [Int.toNat_natCast]
 by_cases e:x &&& y=y
 ·rw [if_pos (by rw [e])]
  unfold subI
  refine if_pos ((Xio hy _).2 fun i hi=>?_)
  have:(x &&& y).testBit i=true:=by rw [e];exact hi
  rw [Nat.testBit_and,Bool.and_eq_true] at this
  exact this.1
 ·rw [if_neg fun h=>e (Int.ofNat_inj.1 h)]
  rcases X47 (asg x) (y:Int) with h|h
  ·exact h
  ·exfalso
   have h2:=Xrg hy (a:=asg x) (by omega)
   refine e (Nat.eq_of_testBit_eq fun i=>?_)
   rw [Nat.testBit_and]
   cases hi:y.testBit i
   ·rw [Bool.and_false]
   ·rw [show x.testBit i=true from h2 i hi];rfl
theorem Xxs{x:Nat}{m:Int}(hx:x<1024)(hm:Mk m)(h:(bits .and .i64 (x:Int) m==m)=true) : subI (asg x) m=1:=by
 rw [Xmt hx hm] at h
 rw [Xii hm,if_pos (by simpa using h)]
theorem Xvx{x:Nat}{m:Int}(hx:x<1024)(hm:Mk m)(h:(bits .and .i64 (x:Int) m==m)=false) : subI (asg x) m=0:=by
 rw [Xmt hx hm] at h
 rw [Xii hm,if_neg (by simpa using h)]
def powK(p:Ps)(x k:Nat) : Int:=p.phase+evL (asg x) (sm (p.ts.take k))
theorem Xni(p:Ps)(x:Nat) : powK p x 0=p.phase:=by
 unfold powK
 rw [List.take_zero]
 show p.phase+0=_
 omega
theorem Xdy(p:Ps)(x:Nat){k:Nat}(h:p.ts.length≤k) : powK p x k=powP p x:=by
 unfold powK powP
 rw [List.take_of_length_le h]
theorem Xb1{p:Ps}{x k:Nat}{u:Tm}(h:p.ts[k]? = some u) : powK p x (k+1)=powK p x k+u.c*subI (asg x) u.m:=by
 unfold powK
 rw [List.take_add_one,h]
 show p.phase+evL _ (sm (p.ts.take k++[u]))=_
 rw [show sm (p.ts.take k++[u])=sm (p.ts.take k)++[(u.m,u.c)] from by simp [sm],X5w,X2q,X53]
 dsimp only
 omega
theorem Xuy{p:Ps}{x k:Nat}{u:Tm}(h:p.ts[k]? = some u)(h1:subI (asg x) u.m=1) : powK p x k+u.c=powK p x (k+1):=by
 rw [Xb1 h,h1,Int.mul_one]
theorem Xuc{p:Ps}{x k:Nat}{u:Tm}(h:p.ts[k]? = some u)(h1:subI (asg x) u.m=0) : powK p x k=powK p x (k+1):=by
 rw [Xb1 h,h1,Int.mul_zero,Int.add_zero]
def rowQ(p:Ps)(x k:Nat) : Nat:=numQ (fun q=>avI (asg x) (aAt p.out q)==1) k
theorem Xbe(p:Ps)(x:Nat) : ∀ k,rowQ p x k<2^k
 | 0=>by show (0:Nat)<1;decide
 | k+1=>by
  have:=Xbe p x k
  show 2*rowQ p x k+(avI (asg x) (aAt p.out k)==1).toNat<2^(k+1)
  have h2:(avI (asg x) (aAt p.out k)==1).toNat≤1:=Bool.toNat_le _
  rw [Nat.pow_succ]
  omega
def chkX:Bool:=(List.range 32).all fun s=>(List.range 2).all fun b=>(2*s+b) ^^^ 0==2*s+b&&(2*s+b) ^^^ 1==2*s+(1-b)
theorem Xj8:chkX=true:=by kernel_rfl
theorem Xkj{p:Ps}{x k:Nat}{u:Af}(h:p.out[k]? = some u)(hu:AO u)(hk:rowQ p x k<32) :
  bits .xor .i64 ((2*rowQ p x k+szI ((x &&& u.m.toNat:Nat) : Int) % 2:Nat) : Int) u.t=((rowQ p x (k+1) : Nat) : Int):=by
 have e:aAt p.out k=u:=by unfold aAt;rw [Int.toNat_natCast,List.getD_eq_getElem?_getD,h];rfl
 have h1:rowQ p x (k+1)=2*rowQ p x k+(avI (asg x) u==1).toNat:=by rw [← e];rfl
 rw [h1,Xpf]
 have hc:=Xj8
 simp only [chkX,List.all_eq_true,List.mem_range,Bool.and_eq_true,beq_iff_eq] at hc
 have hb:numB (asg x) u.m % 2<2:=Nat.mod_lt _ (by decide)
 obtain ⟨c1,c2⟩:=hc _ hk _ hb
 unfold avI
 rcases hu.2 with ht|ht
 ·rw [ht,show (0:Int)=((0:Nat) : Int) from rfl,X0r (Nat.lt_of_lt_of_le (show 2*rowQ p x k+numB (asg x) u.m % 2<1024 by omega) (by decide)) (by decide),c1]
  congr 2
  rcases Nat.mod_two_eq_zero_or_one (numB (asg x) u.m) with h2|h2
  ·rw [h2,show (((numB (asg x) u.m:Nat) : Int)+((0:Nat) : Int)) % 2=0 from by omega];rfl
  ·rw [h2,show (((numB (asg x) u.m:Nat) : Int)+((0:Nat) : Int)) % 2=1 from by omega];rfl
 ·rw [ht,show (1:Int)=((1:Nat) : Int) from rfl,X0r (Nat.lt_of_lt_of_le (show 2*rowQ p x k+numB (asg x) u.m % 2<1024 by omega) (by decide)) (by decide),c2]
  congr 2
  rcases Nat.mod_two_eq_zero_or_one (numB (asg x) u.m) with h2|h2
  ·rw [h2,show (((numB (asg x) u.m:Nat) : Int)+((1:Nat) : Int)) % 2=1 from by omega];rfl
  ·rw [h2,show (((numB (asg x) u.m:Nat) : Int)+((1:Nat) : Int)) % 2=0 from by omega];rfl
theorem Xcu{p:Ps}{x n:Nat}(h:p.ins=(n:Int)) : rowQ p x n=rowP p x:=by
 unfold rowQ rowP
 rw [h,Int.toNat_natCast]
theorem X7f(x:Nat) : ∀ k,colP k x<2^k
 | 0=>by show (0:Nat)<1;decide
 | k+1=>by
  have:=X7f x k
  show 2*colP k x+(asg x k).toNat<2^(k+1)
  have h2:(asg x k).toNat≤1:=Bool.toNat_le _
  rw [Nat.pow_succ]
  omega
theorem Xkb{x k:Nat}(hx:x<1024) : 2*((colP k x:Nat) : Int)+bits .and .i64 ((x:Int)/2^k) 1=((colP (k+1) x:Nat) : Int):=by
 have h1:colP (k+1) x=2*colP k x+(asg x k).toNat:=rfl
 rw [h1,X3h (Mk.of (Nat.lt_of_lt_of_le hx (by decide))) k]
 unfold bI
 rw [X0g]
 unfold asg
 cases x.testBit k
 ·rw [if_neg (by decide)];simp
 ·rw [if_pos rfl];simp
def celP(p:Ps)(S A:Nat) : Nat:=rowP p A*S+colP p.ins.toNat A
def pwP(p:Ps)(A:Nat) : Nat:=(powP p A % 8).toNat
theorem X8y(p:Ps)(A:Nat) : pwP p A<8:=by unfold pwP;omega
def cntC(p:Ps)(S n i k:Nat) : Nat:=(List.range n).countP fun A=>celP p S A==i&&pwP p A==k
theorem Xkm(p:Ps)(S n i k:Nat) : cntC p S n i k≤n:=by
 have:=List.countP_le_length (p:=fun A=>celP p S A==i&&pwP p A==k) (l:=List.range n)
 rwa [List.length_range] at this
theorem X5r(p:Ps)(S n i k:Nat) : cntC p S (n+1) i k=cntC p S n i k+if celP p S n=i∧pwP p n=k then 1 else 0:=by
 unfold cntC
 rw [List.range_succ,List.countP_append]
 congr 1
 by_cases h1:celP p S n=i<;>by_cases h2:pwP p n=k<;>simp [h1,h2]
def ocAt(p:Ps)(S n i:Nat) : Oc:=⟨fun k=>((cntC p S n i k:Nat) : Int)⟩
def cntO(p:Ps)(S n:Nat) : List Oc:=(List.range (S*S)).map (ocAt p S n)
theorem Xjp(p:Ps)(S:Nat) : List.replicate (S*S) ocZ=cntO p S 0:=by
 unfold cntO
 apply List.ext_getElem
 ·simp
 ·intro i h1 h2
  simp only [cntO,List.getElem_replicate,List.getElem_map,List.getElem_range]
  rfl
theorem Xk6(p:Ps)(S n:Nat) : (cntO p S n).length=S*S:=by simp [cntO]
theorem X8t{p:Ps}{S n i:Nat}(h:i<S*S) : (cntO p S n)[i]? = some (ocAt p S n i):=by
 unfold cntO
 rw [List.getElem?_map,List.getElem?_range h]
 rfl
theorem Xjw{p:Ps}{S n c k:Nat}(hc:celP p S n=c)(hk:pwP p n=k) : (cntO p S n).set c ((ocAt p S n c).put k ((ocAt p S n c).f k+1))=cntO p S (n+1):=by
 apply List.ext_getElem
 ·simp [cntO]
 ·intro i h1 h2
  rw [List.getElem_set]
  simp only [cntO]
  by_cases e:c=i
  ·subst e
   rw [if_pos rfl]
   simp only [List.getElem_map,List.getElem_range]
   unfold ocAt Oc.put
   congr 1
   funext j
   by_cases e2:j=k
   ·subst e2
    rw [if_pos rfl,X5r,if_pos ⟨hc,hk⟩]
    simp
   ·rw [if_neg e2,X5r,if_neg fun h=>e2 (h.2.symm.trans hk)];rfl
  ·rw [if_neg e]
   simp only [List.getElem_map,List.getElem_range]
   unfold ocAt
   congr 1
   funext j
   rw [X5r,if_neg fun h=>e (hc.symm.trans h.1)];rfl
def oSum(u:Oc) : Rg:=⟨u.f 0-u.f 4,u.f 1-u.f 5,u.f 2-u.f 6,u.f 3-u.f 7⟩
theorem Xwx(k:Int) : omZ k=if (k % 8).toNat=0 then ⟨1,0,0,0⟩ else if (k % 8).toNat=1 then ⟨0,1,0,0⟩ else if (k % 8).toNat=2 then ⟨0,0,1,0⟩ else if (k % 8).toNat=3 then ⟨0,0,0,1⟩ else if (k % 8).toNat=4 then ⟨-1,0,0,0⟩ else if (k % 8).toNat=5 then ⟨0,-1,0,0⟩ else if (k % 8).toNat=6 then ⟨0,0,-1,0⟩ else ⟨0,0,0,-1⟩:=by
 unfold omZ
 have hm:(k % 8).toNat<8:=by omega
 revert hm
 generalize (k % 8).toNat=m
 intro hm
 have:m=0∨m=1∨m=2∨m=3∨m=4∨m=5∨m=6∨m=7:=by omega
 rcases this with rfl|rfl|rfl|rfl|rfl|rfl|rfl|rfl<;>decide
theorem Xdk{p:Ps}{S i j:Nat}(hj:j<S)(hS:∀ A,colP p.ins.toNat A<S) : ∀ n,oSum (ocAt p S n (i*S+j))=cellP p i j n
 | 0=>rfl
 | n+1=>by
  have ih:=Xdk (i:=i) hj hS n
  have hcel:celP p S n=i*S+j↔rowP p n=i∧colP p.ins.toNat n=j:=by
   unfold celP
   constructor
   ·intro h
    have h1:rowP p n=i:=by
     have a1:(rowP p n*S+colP p.ins.toNat n)/S=rowP p n:=by
      rw [Nat.add_comm,Nat.add_mul_div_right _ _ (by omega),Nat.div_eq_of_lt (hS n),Nat.zero_add]
     have a2:(i*S+j)/S=i:=by rw [Nat.add_comm,Nat.add_mul_div_right _ _ (by omega),Nat.div_eq_of_lt hj,Nat.zero_add]
     rw [← a1,h,a2]
    refine ⟨h1,?_⟩
    rw [h1] at h
    omega
   ·rintro ⟨h1,h2⟩
    rw [h1,h2]
  show _=cellP p i j n+(if rowP p n=i∧colP p.ins.toNat n=j then omZ (powP p n) else 0)
  rw [← ih]
  by_cases h:rowP p n=i∧colP p.ins.toNat n=j
  ·rw [if_pos h,Xwx]
   have h2:=hcel.2 h
   have hk:∀ k,cntC p S (n+1) (i*S+j) k=cntC p S n (i*S+j) k+if pwP p n=k then 1 else 0:=fun k=>by
    rw [X5r]
    by_cases e:pwP p n=k
    ·rw [if_pos ⟨h2,e⟩,if_pos e]
    ·rw [if_neg fun h=>e h.2,if_neg e]
   have hp:=X8y p n
   have e0:(powP p n % 8).toNat=pwP p n:=rfl
   rw [e0]
   unfold oSum ocAt
   simp only [hk]
   generalize pwP p n=m at *
   have:m=0∨m=1∨m=2∨m=3∨m=4∨m=5∨m=6∨m=7:=by omega
   rcases this with rfl|rfl|rfl|rfl|rfl|rfl|rfl|rfl<;>(refine X3f ?_ ?_ ?_ ?_<;>simp only [Xi4,Xg4,Xhc,Xid]<;>simp<;>omega)
  ·rw [if_neg h]
   have hk:∀ k,cntC p S (n+1) (i*S+j) k=cntC p S n (i*S+j) k:=fun k=>by
    rw [X5r,if_neg fun h2=>h (hcel.1 h2.1)];rfl
   unfold oSum ocAt
   simp only [hk]
   exact (X0w _).symm
theorem Xva:Tryz.prog.eqGuardType Tryz.prog.depth 88=false:=by kernel_rfl
theorem Xr6:Tryz.prog.eqGuardType Tryz.prog.depth 59=false:=by kernel_rfl
theorem Xpn(d:Nat)(x y:Tm)(w:World) : (Op.equalIn (d+2) 59 (uV x) (uV y)).run Tryz.prog w=.ok (decide (x=y)) w:=by
 have hf:=X65 Tryz.underlying59;refine (run_equalIn_struct w (d+1) 59 _ _ (by rw [hf];exact Tryz.underlying59) (by kernel_rfl)).trans ?_
 rw [hf]
 have:decide (x=y)=(decide (x.m=y.m)&&(decide (x.c=y.c)&&true)):=by
  obtain ⟨a,b⟩:=x;obtain ⟨a',b'⟩:=y
  simp
 rw [this]
 refine X1q (by decide) X2 Tryz.underlying3 rfl rfl fun _=>?_;refine X1q (by decide) X2 Tryz.underlying3 rfl rfl fun _=>?_
 rfl
theorem Xpi(x:Rg)(l:List Rg) : rOk (rIf1 x l)=true:=by
 unfold rIf1
 split
 ·rename_i h
  unfold rIf2 at h
  rw [List.all_append,Bool.and_eq_true] at h
  simpa using h.2
 ·decide
theorem Xlq{z y:Rg}{m j:Int}{b:Bool}(h:(if b=true then raiseI (-j).toNat y else (y,false))=raiseI (-m).toNat z)(hb:b=true)(hj:j<0) :
  (if rIf2 (rRoot y) [y]=true then raiseI (-(j+1)).toNat (rIf1 (rRoot y) [y]) else (rIf1 (rRoot y) [y],false))=raiseI (-m).toNat z:=by
 rw [← h,if_pos hb]
 obtain ⟨k,hk⟩ : ∃ k,(-j).toNat=k+1:=⟨(-j).toNat-1,by omega⟩
 rw [hk,show (-(j+1)).toNat=k from by omega]
 unfold rIf1
 by_cases hh:rIf2 (rRoot y) [y]=true<;>simp [raiseI,hh]
theorem Xrx{z:Rg}{m:Int}(h:z=rZ) : sclI z m=some dZ:=by unfold sclI;rw [if_pos h]
section
variable {z x y : Rg} {m i j : Int} {b : Bool} (hz0 : ¬ z = rZ) (h : (if b = true then raiseI (-j).toNat y else (y, false)) = raiseI (-m).toNat z) (hjb : b = true → 0 ≤ j)
variable (hjm : -60 ≤ j ∧ j ≤ 60 ∧ (j = m ∨ m < 0 ∧ j ≤ 0)) (hin : dLow x i = dLow y j) (hst : dLow x i = ⟨x, i⟩)
include hz0 h hjb hjm hin hst
theorem Xka:sclI z m=if (b&&dOk ⟨x,i⟩)=true then some ⟨x,i⟩ else none:=by
 unfold sclI
 rw [if_neg hz0]
 cases b with
 | false=>
  rw [if_neg (by decide)] at h
  rw [← h]
  rfl
 | true=>
  have h0:=hjb rfl
  rw [if_pos rfl,show (-j).toNat=0 from by omega] at h
  rw [← h]
  have e:max m 0=j:=by omega
  rw [show (raiseI 0 y)=(y,true) from rfl,e,← hin,hst]
theorem Xqf:(b&&dOk ⟨x,i⟩)=(sclI z m).isSome:=by
 rw [Xka hz0 h hjb hjm hin hst]
 cases (b&&dOk ⟨x,i⟩)<;>rfl
theorem Xoq{d:Dy}(hd:sclI z m=some d) : ⟨x,i⟩=d:=by
 rw [Xka hz0 h hjb hjm hin hst] at hd
 split at hd
 ·exact Option.some.inj hd
 ·cases hd
end
theorem AO.afZ:AO afZ:=⟨Mk.zero,.inl rfl⟩
theorem Xkh(j:Nat) : bitQ j afZ.m=false:=by
 show bitQ j ((0:Nat) : Int)=false
 rw [X0g,Nat.zero_testBit]
theorem X9t{p:Ps}{y:Nat}{d:Int}(h:validP p=true)(hy:p.ins.toNat≤y∧y<p.ins.toNat+p.vars.toNat)(hd:-60≤p.root-d∧p.root-d≤60) : validP (rqZ p y d)=true:=by
 have hV:=VPs.of h;have hI:=hV.ins;have hvr:=hV.vars;exact X8b (Xb7 h ⟨by omega,hy.1⟩ ⟨AO.afZ,Lt.zero _⟩ (Xkh y)) hd
theorem Xfv{p:Ps}{y:Nat}(h:validP p=true)(hy:p.ins.toNat≤y∧y<p.ins.toNat+p.vars.toNat)(hr:(ruR p y).1≠0)(hrt:-58≤p.root) :
  validP (outR p y)=true∧p.root-2≤(outR p y).root∧(outR p y).root≤p.root:=by
 have hV:=VPs.of h;have hI:=hV.ins;have hvars:=hV.vars;obtain ⟨_,_,_,_,_,_,hr60,_,_,_⟩:=X3k h
 have ho:outB y p.out=false:=by
  unfold ruR at hr
  cases e:outB y p.out with
  | false=>rfl
  | true=>rw [e] at hr;exact absurd rfl hr
 have hk:ruK p.ins (arF y p.ts)≠0:=by
  unfold ruR at hr
  rw [ho,if_neg (by decide)] at hr
  intro e
  rw [if_pos e] at hr
  exact hr rfl
 have hpl:=Xlg hk;have hy24:=y24 hV hy ho;have hNb:=X8u hy24 hV.ts
 by_cases k1:ruK p.ins (arF y p.ts)=1
 ·have e:outR p y=rqZ p y 2:=by unfold outR;rw [if_pos k1]
  rw [e]
  exact ⟨X9t h hy (by omega),Int.le_refl _,by show p.root-2≤p.root;omega⟩
 ·obtain ⟨k,hk'⟩ : ∃ k,p.vars.toNat=k+1:=⟨p.vars.toNat-1,by omega⟩
  have hzL:Lt (p.ins.toNat+k) (drI y (arF y p.ts).z):=Xf0 hNb.1 (by omega) fun i hi=>by
   have:=Xnl hV hy ho hpl i hi
   omega
  by_cases k2:ruK p.ins (arF y p.ts)=2
  ·have e:outR p y=omR (rqZ p y 1) (if (arF y p.ts).c=2 then 1 else 7) (if (arF y p.ts).c=2 then 6 else 2) (drI y (arF y p.ts).z):=by
    unfold outR;rw [if_neg k1,if_pos k2]
   have hq:=X9t (d:=1) h hy (by omega)
   generalize hQ:rqZ p y 1=q at *
   have hqi:q.ins=p.ins:=by rw [← hQ];rfl
   have hqv:q.vars=p.vars-1:=by rw [← hQ];rfl
   have hqr:q.root=p.root-1:=by rw [← hQ];rfl
   obtain ⟨n,v,e1,e2,hn,hN,hr9,hl,e3,ho9⟩:=X3k hq;obtain ⟨p1,p2,p3⟩:=X5x hq
   rw [e3] at p2
   have hz':Lt (n+v) (drI y (arF y p.ts).z):=by rw [show n+v=p.ins.toNat+k from by omega];exact hzL
   rw [e]
   generalize drI y (arF y p.ts).z=z at *
   generalize (if (arF y p.ts).c=2 then (1:Int) else 7)=a at *
   generalize (if (arF y p.ts).c=2 then (6:Int) else 2)=b at *
   have s0:SupN (n+v) (padd (polF q) 0 a):=SupN.fold (L:=[(0,a)]) (fun r hr=>by rw [List.mem_singleton.1 hr];exact Lt.zero _) p1 p2
   have d0:Dv (padd (polF q) 0 a):=p3.padd (X6n a)
   have hpo:PO (padd (polF q) 0 a):=p1.padd _ _
   have key:=X98 (n:=n) (v:=v) (root:=q.root) (f:=expP (padd (polF q) 0 a) b ⟨z,0⟩ 0) (out:=q.out) hn hN hr9
    (by rw [X1t];exact PO.foldA _ hpo) (by rw [X1t];exact SupN.fold (X8e hz' (Lt.zero _)) hpo s0) (by rw [X1t];exact Dv.fold d0 (Xbb hz'.1)) hl ho9
   have e5:omR q a b z=⟨(n:Int),((v:Nat) : Int),q.root,expP (padd (polF q) 0 a) b ⟨z,0⟩ 0 0,tms (expP (padd (polF q) 0 a) b ⟨z,0⟩ 0),q.out⟩:=by
    unfold omR
    rw [e1,e2];rfl
   rw [e5]
   exact ⟨key,by show p.root-2≤q.root;omega,by show q.root≤p.root;omega⟩
  ·have k3:(ruK p.ins (arF y p.ts)=3∧((arF y p.ts).c=0∨(arF y p.ts).c=4))∧0<(arF y p.ts).z/2^p.ins.toNat:=by
    revert hk k1 k2
    unfold ruK
    rw [if_neg (by rw [hpl];decide)]
    split
    ·intro _ h;exact absurd rfl h
    ·split
     ·intro _ _ h;exact absurd rfl h
     ·split
      ·rename_i h;intro _ _ _;exact ⟨⟨rfl,h.1⟩,h.2⟩
      ·intro h;exact absurd rfl h
   have e:outR p y=repP (rqZ p y 2) (vR p y) ⟨xI (drI y (arF y p.ts).z) (pw (vR p y)),(arF y p.ts).c/4⟩:=by
    unfold outR;rw [if_neg k1,if_neg k2]
   obtain ⟨l1,l2,l3,l4,l5⟩:=X9r hV ⟨hy.1,hy24⟩ ho k3.2
   have hvn:p.ins.toNat≤vR p y:=Nat.le_add_left _ _
   have hu:AO ⟨xI (drI y (arF y p.ts).z) (pw (vR p y)),(arF y p.ts).c/4⟩:=⟨l5.1,by rcases k3.1.2 with e|e<;>rw [e];exact .inl rfl;exact .inr rfl⟩
   have hzb:bitQ (vR p y) (drI y (arF y p.ts).z)=true:=by
    obtain ⟨z,hz,ez⟩:=hNb.1.dr (v:=y).nat;have h5:=l5.2
    rw [ez] at h5 ⊢
    unfold xI pw at h5
    rw [X0r (X0a hz) (X2n (by omega)),X0g,Nat.testBit_xor,Nat.testBit_two_pow_self] at h5
    rw [X0g]
    revert h5
    cases z.testBit (vR p y)<;>simp
   have hvk:vR p y<p.ins.toNat+k:=by
    rcases Nat.lt_or_ge (vR p y) (p.ins.toNat+k) with h'|h'
    ·exact h'
    ·obtain ⟨z,hz,ez⟩:=hzL.1.nat;have hlt:=hzL.2
     rw [ez] at hlt hzb
     rw [X0g,Nat.testBit_lt_two_pow (Nat.lt_of_lt_of_le (Int.ofNat_lt.1 hlt) (Nat.pow_le_pow_right (by decide) h'))] at hzb;cases hzb
   have hq:=X9t (d:=2) h hy (by omega)
   have hN:(rqZ p y 2).ins+(rqZ p y 2).vars=p.ins+(p.vars-1):=rfl
   have hNn:((rqZ p y 2).ins+(rqZ p y 2).vars).toNat=p.ins.toNat+k:=by rw [hN];omega
   rw [e]
   refine ⟨Xb7 hq ⟨by rw [hNn];exact hvk,hvn⟩ ⟨hu,?_⟩ l5.2,Int.le_refl _,by show p.root-2≤p.root;omega⟩
   rw [hNn]
   exact hzL.xor ⟨X2k l2,Int.ofNat_lt.2 (Nat.pow_lt_pow_right (by decide) hvk)⟩
theorem Xem{p:Ps}{q:Ps×Int}(h:validP p=true)(hs:stepP p=some q)(hrt:-58≤p.root) : validP q.1=true∧p.root-2≤q.1.root∧q.1.root≤p.root:=by
 unfold stepP firstY at hs
 cases e:(List.range p.vars.toNat).find? fun j=>(ruR p (p.ins.toNat+j)).1 != 0 with
 | none=>rw [e] at hs;cases hs
 | some j=>
  rw [e] at hs
  injection hs with hs
  subst hs
  have h1:=List.mem_range.1 (List.mem_of_find?_eq_some e);have h2:=List.find?_some e;exact Xfv h ⟨by omega,by omega⟩ (by simpa using h2) hrt
theorem Xkv{p:Ps}(h:validP p=true)(hs:(stepP p).isSome=true)(hrt:-58≤p.root) : validP ((stepP p).getD (psZ,0)).1=true∧p.root-2≤((stepP p).getD (psZ,0)).1.root∧((stepP p).getD (psZ,0)).1.root≤p.root:=by
 obtain ⟨q,e⟩:=Option.isSome_iff_exists.1 hs
 rw [e]
 exact Xem h e hrt
theorem Xe2{c:Cx}(h1:1≤c.n∧c.n≤5)(h2:c.gs.length≤400)(h3:∀ g ∈ c.gs,gOk c.n g=true) : cOk c=true:=X55.2 ⟨Xz.2 h1,h2,h3⟩
theorem Xg3{c:Cx}(h:cOk c=true)(hs:(psC c).isSome=true) : validP ((psC c).getD psZ)=true∧0≤((psC c).getD psZ).root:=by
 obtain ⟨p,e⟩:=Option.isSome_iff_exists.1 hs
 rw [e]
 obtain ⟨n,hn,_⟩:=Xkc h;exact ⟨Xix h e,by show 0≤p.root;rw [(Xku h hn e).1];omega⟩
def cf4(s:Nat) : Int:=[0,1,2,4].getD s 0
theorem Xb9{s:Nat}(h:s≤3) : ([0,1,2,4] : List Int)[s]? = some (cf4 s):=by
 have:s=0∨s=1∨s=2∨s=3:=by omega
 rcases this with rfl|rfl|rfl|rfl<;>rfl
theorem X79{s:Nat}(h:s≤3){x:Int}(hx:0≤x∧x≤7) : 0≤cf4 s*x∧cf4 s*x≤28:=by
 have:s=0∨s=1∨s=2∨s=3:=by omega
 rcases this with rfl|rfl|rfl|rfl
 ·show 0≤0*x∧0*x≤28;omega
 ·show 0≤1*x∧1*x≤28;omega
 ·show 0≤2*x∧2*x≤28;omega
 ·show 0≤4*x∧4*x≤28;omega
theorem Xfs{m x:Int}(h:szI m≤3) : dv m∣cf4 (szI m)*x:=by
 refine Int.dvd_trans ?_ (Int.dvd_mul_right _ _)
 unfold dv
 generalize szI m=s at *
 have:s=0∨s=1∨s=2∨s=3:=by omega
 rcases this with rfl|rfl|rfl|rfl<;>decide
theorem Xy0{j:Nat}(h:j<62) : szI ((2^j:Nat) : Int)=1:=by
 unfold szI
 rw [show (((2^j:Nat) : Int)).toNat=2^j from rfl]
 have:setN (2^j)=[j]:=by
  refine X6z (X38 _) (List.pairwise_singleton _ _) fun t=>?_
  rw [X16 (X2n h),Nat.testBit_two_pow,List.mem_singleton]
  simp [eq_comm]
 rw [this];rfl
theorem Xqp{N:Nat}{m:Int}{j i:Nat}(hm:Lt N m)(hs:szI m+(i+1)≤3)(hj:j<N)(hN:N≤24) : Lt N (oI m ((2^j:Nat) : Int))∧szI (oI m ((2^j:Nat) : Int))+i≤3:=by
 have hp:Lt N ((2^j:Nat) : Int):=⟨X2k (by omega),Int.ofNat_lt.2 (Nat.pow_lt_pow_right (by decide) hj)⟩
 have h1:=X4a hm.1 hp.1
 rw [Xy0 (by omega)] at h1
 exact ⟨hm.or hp,by omega⟩
structure DrF (N:Nat) (f:Int→Int) : Prop where
 po:PO f
 sup:SupN N f
 dv:Dv f
theorem DrF.sp{N:Nat}{f:Int→Int}(h:DrF N f) : SupF f:=fun x hx=>(h.sup x hx).1
theorem DrF.padd{N:Nat}{f:Int→Int}(h:DrF N f){m k:Int}(hm:Lt N m)(hk:Proofs.YtiejkplemjkjoaaGreatDoor.dv m∣k) : DrF N (padd f m k):=
 ⟨h.po.padd _ _,SupN.fold (L:=[(m,k)]) (fun r hr=>by rw [List.mem_singleton.1 hr];exact hm) h.po h.sup,h.dv.padd hk⟩
theorem DrF.of{p:Ps}(h:validP p=true) : DrF (p.ins+p.vars).toNat (polF p):=⟨(X5x h).1,(X5x h).2.1,(X5x h).2.2⟩
theorem DrF.valid{p:Ps}{f:Int→Int}(h:validP p=true)(hf:DrF (p.ins+p.vars).toNat f) : validP ⟨p.ins,p.vars,p.root,f 0,tms f,p.out⟩=true:=by
 obtain ⟨n,v,e1,e2,hn,hN,hr9,hl,e3,ho9⟩:=X3k h
 rw [e3] at hf
 have:=X98 (root:=p.root) hn hN hr9 hf.po hf.sup hf.dv hl ho9
 rw [← e1,← e2] at this
 exact this
theorem Xwm{c:Cx}{n most:Int}(h:c.n=n∧(c.gs.length:Int)≤most∧∀ g ∈ c.gs,gOk n g=true)(hn:1≤n∧n≤5)(hm:most≤400) : cOk c=true:=by
 obtain ⟨h1,h2,h3⟩:=h
 subst h1
 exact Xe2 hn (by omega) h3
abbrev BdPs(p:Ps) : Prop:=(∀ u ∈ p.ts,Mk u.m)∧(-1000≤p.ins∧p.ins≤1000)∧(-1000≤p.vars∧p.vars≤1000)∧p.ts.length≤100000000∧p.out.length≤100000000
theorem BdPs.of{p:Ps}(h:validP p=true) : BdPs p∧p.ts.length≤50000000∧p.out.length≤5:=by
 have hV:=VPs.of h;have hR:=VPr.of h;have hI:=hV.ins;have hv:=hV.vars;have hl:=hR.len;have ho:=hR.out;exact ⟨⟨hV.ts.mks,by omega,by omega,by omega,by omega⟩,by omega,by omega⟩
theorem X51{l:List Tm}{m c:Int}(h:∀ u ∈ l,Mk u.m)(hm:0≤m∧(m=0∨m<200)) : ∀ u ∈ l++[(⟨m,c⟩ : Tm)],Mk u.m:=fun u hu=>by
 rcases List.mem_append.1 hu with hu|hu
 ·exact h u hu
 ·rw [List.mem_singleton.1 hu]
  exact ⟨hm.1,by show m<16777216;omega⟩
theorem Xaw:∀ (n:Nat) {p:Ps},p.vars≤(n:Int)→nxtP (redN n p).1=none
 | 0,p,h=>by
  show nxtP p=none
  cases e:nxtP p with
  | none=>rfl
  | some q=>have:=X20 e;omega
 | n+1,p,h=>by
  unfold redN
  cases e:nxtP p with
  | none=>exact e
  | some q=>
   have:=(X20 e).1
   exact Xaw n (by omega)
theorem Xlo(p:Ps) : nxtP (redP p).1=none:=Xaw _ (by omega)
theorem Xdm:∀ (n:Nat) {p:Ps},0≤p.vars→(((redN n p).2:Nat) : Int)≤p.vars
 | 0,p,h=>h
 | n+1,p,h=>by
  unfold redN
  cases e:nxtP p with
  | none=>exact h
  | some q=>
   have h1:=X20 e;have h2:=(VPs.of h1.2.1).vars;have h3:=Xdm n (p:=q.1) h2.1
   show (((redN n q.1).2+1:Nat) : Int)≤p.vars
   omega
theorem Xr7{p:Ps}(h:validP p=true) : (((redP p).2:Nat) : Int)≤p.vars:=Xdm _ (VPs.of h).vars.1
theorem Xm3(p:Ps) : ((opPs p).getD mZ).cells.length≤1024:=by
 cases h:opPs p with
 | none=>exact Nat.zero_le _
 | some M=>
  obtain ⟨N,hN,_,_,_,_,_,l⟩:=X97 h
  show M.cells.length≤1024
  rw [l]
  have:2^N≤2^5:=Nat.pow_le_pow_right (by decide) hN
  exact Nat.mul_le_mul this this
theorem Xt4{p:Ps}(h:validP p=true)(h1:(opPs p).isSome=true)(h2:(opPs (redP p).1).isSome=true) : eqM ((opPs p).getD mZ) ((opPs (redP p).1).getD mZ)=true:=by
 obtain ⟨A,e1⟩:=Option.isSome_iff_exists.1 h1;obtain ⟨B,e2⟩:=Option.isSome_iff_exists.1 h2
 rw [e1,e2,Xj0 (Xna h) e1 e2]
 simp [eqM]
theorem Xmh(p:Ps) : (rdP p).1.ts.length≤2305843009213693951∧(rdP p).1.out.length≤2305843009213693951:=by
 cases h:validP p with
 | false=>rw [Xfq h];exact ⟨Nat.zero_le _,Nat.zero_le _⟩
 | true=>
  rw [Xbs h]
  have:=VPr.of (X5z h)
  exact ⟨Nat.le_trans this.len (by decide),Nat.le_trans this.out (by decide)⟩
theorem X6x:∀ gs:List Gt,(invL gs).length≤7*gs.length:=fun gs=>by
 unfold invL
 have h:∀ l:List Gt,(l.flatMap invG).length≤7*l.length:=fun l=>by
  induction l with
  | nil=>exact Nat.le_refl _
  | cons g l ih=>
   rw [List.flatMap_cons,List.length_append,List.length_cons]
   have:(invG g).length≤7:=by
    unfold invG
    rw [List.length_replicate]
    have:=Xng g
    omega
   omega
 have:=h gs.reverse
 rwa [List.length_reverse] at this
theorem Xgz{c d:Cx}(h:((1≤c.n∧c.n≤3)∧d.n=c.n∧c.gs.length≤8∧d.gs.length≤12)∧(∀ g ∈ c.gs,gOk c.n g=true)∧∀ g ∈ d.gs,gOk d.n g=true) : cOk ((conO ⟨c.n,invL c.gs⟩ d).getD cZ)=true:=by
 obtain ⟨⟨h1,h2,h3,h4⟩,h5,h6⟩:=h
 have hc:cOk c=true:=Xe2 (by omega) (by omega) h5
 have hi:cOk ⟨c.n,invL c.gs⟩=true:=Xe2 (by show 1≤c.n∧c.n≤5;omega) (by have:=X6x c.gs;show (invL c.gs).length≤400;omega) (Xov hc)
 have hd:cOk d=true:=Xe2 (by omega) (by omega) h6
 have e:conO ⟨c.n,invL c.gs⟩ d=some ⟨c.n,invL c.gs++d.gs⟩:=by
  unfold conO
  refine if_pos ?_
  have:=X6x c.gs
  rw [hi,hd,decide_eq_true (show (⟨c.n,invL c.gs⟩ : Cx).n=d.n from h2.symm),decide_eq_true (show (⟨c.n,invL c.gs⟩ : Cx).gs.length+d.gs.length≤400 by show (invL c.gs).length+d.gs.length≤400;omega)]
  rfl
 rw [e]
 exact Xtd e
theorem Xmy{n k:Int}(hn:1≤n∧n≤5)(hk:k=12) : gOk n ⟨k,0,0⟩=true:=by
 subst hk
 simp only [gOk,Bool.and_eq_true,Xz]
 exact ⟨⟨hn,by omega⟩,rfl⟩
theorem Xy8{n:Int}(hn:1≤n∧n≤5) : gOk n ⟨1,0,0⟩=true:=by
 simp only [gOk,Bool.and_eq_true,Xz]
 refine ⟨⟨hn,by omega⟩,?_⟩
 rw [if_neg (by decide),if_neg (by decide)]
 simp only [Bool.and_eq_true,Xz]
 exact ⟨by omega,rfl⟩
theorem Xyp{n k a:Int}(hn:1≤n∧n≤5)(hk:1≤k∧k≤12)(h12:¬ k=12)(h9:inR k 9 11=false)(ha:0≤a∧(a=0∨a<n)) : gOk n ⟨k,a,0⟩=true:=by
 simp only [gOk,Bool.and_eq_true,Xz]
 refine ⟨⟨hn,hk⟩,?_⟩
 rw [if_neg h12,if_neg (fun h=>by rw [← Xz,h9] at h;cases h)]
 simp only [Bool.and_eq_true,Xz]
 exact ⟨by omega,rfl⟩
theorem Xyd{n k a b:Int}(hn:1≤n∧n≤5)(hk:1≤k∧k≤12)(h12:¬ k=12)(h9:inR k 9 11=true)(h1:¬ n=1)(ha:0≤a∧(a=0∨a<n))(hb:0≤b∧(b=0∨b<n-1)) : gOk n ⟨k,a,(a+1+b).tmod n⟩=true:=by
 have e:(a+1+b).tmod n=if a+1+b<n then a+1+b else a+1+b-n:=by
  rw [Int.tmod_eq_emod_of_nonneg (by omega)]
  split
  ·exact Int.emod_eq_of_lt (by omega) (by omega)
  ·rw [← Int.sub_emod_right]
   exact Int.emod_eq_of_lt (by omega) (by omega)
 simp only [gOk,Bool.and_eq_true,Xz]
 refine ⟨⟨hn,hk⟩,?_⟩
 rw [if_neg h12,if_pos (Xz.1 h9)]
 simp only [Bool.and_eq_true,Xz,bne_iff_ne,ne_eq]
 rw [e]
 split<;>omega
theorem Xjn{n:Int}{l:List Gt}{g:Gt}(h:∀ x ∈ l,gOk n x=true)(hg:gOk n g=true) : ∀ x ∈ l++[g],gOk n x=true:=fun x hx=>by
 rcases List.mem_append.1 hx with hx|hx
 ·exact h x hx
 ·rw [List.mem_singleton.1 hx];exact hg
def AllG(n:Int)(l:List Gt) : Prop:=∀ x ∈ l,gOk n x=true
theorem AllG.nil(n:Int) : AllG n []:=fun x hx=>by cases hx
theorem AllG.one{n:Int}{g:Gt}(h:gOk n g=true) : AllG n [g]:=fun x hx=>by rw [List.mem_singleton.1 hx];exact h
theorem AllG.cons{n:Int}{g:Gt}{l:List Gt}(h:gOk n g=true)(hl:AllG n l) : AllG n (g::l):=fun x hx=>by
 rcases List.mem_cons.1 hx with rfl|hx
 ·exact h
 ·exact hl x hx
theorem AllG.app{n:Int}{l m:List Gt}(hl:AllG n l)(hm:AllG n m) : AllG n (l++m):=fun x hx=>by
 rcases List.mem_append.1 hx with hx|hx
 ·exact hl x hx
 ·exact hm x hx
theorem AllG.take{n:Int}{l:List Gt}(hl:AllG n l)(k:Nat) : AllG n (l.take k):=fun x hx=>hl x (List.mem_of_mem_take hx)
theorem AllG.drop{n:Int}{l:List Gt}(hl:AllG n l)(k:Nat) : AllG n (l.drop k):=fun x hx=>hl x (List.mem_of_mem_drop hx)
theorem Xhq(w0:World)(bV:Nat){b2:TypeId}(J:Option Addr)(N:Nat)(q:List Int)(b:Rd w0 w0.heap.size b2 encU J q)(a8:∀ x ∈ q,0≤x∧x≤255)(Q:AwayR q J bV)(t:Nat)(sd:Int)(c:Blk w0 bV 69 [.slice J q.length N,vi (t:Int),.int .u64 sd])(n:Int)(Al:Option Addr)(cl:Nat)(l:List Int)(A:Rd w0 w0.heap.size 3 encI Al l)(hn:1≤n∧n≤5)(aE:∀ k ∈ l,1≤k∧k≤12)(bC:0<l.length)(bD:l.length≤1000)(ht:t+6≤100000000) : Ret Tryz.prog 73 [.pointer (some ⟨bV,0,none⟩),vi n,.slice Al l.length cl] w0 (fun v w=>∃ (x:Gt) (t1:Nat) (s1:Int),v=gV x∧(gOk n x=true)∧(t≤t1∧t1≤t+6)∧Kept bV w0.heap.size w0 w∧Blk w bV 69 [.slice J q.length N,vi (t1:Int),.int .u64 s1]):=by
 have bB:=c.lt;refine enter Tryz.func73 rfl 42 rfl rfl ?_;intro a o
 have i:Kept bV w0.heap.size w0 w0:=Kept.refl _ _ _
 refine Zs o fun _ b3=>?_;refine Zf (X4 (zs:=[vi 0,vi 0,vi 0]) X8d rfl) ?_;rintro _ w1 ⟨b4,rfl,aF,p,d⟩;have L:=Nat.le_trans i.size aF;have aZ:=b.away aF;have c:=c.below p;have b:=b.below p;have A:=A.below p;have i:=ktr i p;refine Zx b3 fun a o _ b5=>?_;refine Zm rfl<|Zm rfl<|Zm rfl<|Ze (X10 rfl X00)<|Zf (Vc (X2w _ bV J N q b.top a8 Q t sd c (l.length:Int) (by omega)) X1j) ?_;rintro _ w2 ⟨f,aG,aH,rfl,b6,b7,hK,B⟩;obtain ⟨wm,I,hm,p⟩:=hK.mid;clear hm;have e:=c;have d:=d.only I (Blk.ne d e rfl);have b:=b.onlyA I Q;have A:=A.onlyT I e rfl;have i:=i.self I;have d:=d.below p;have b:=b.below p;have A:=A.below p;have i:=ktr i p
 clear e p I hK;have c:=B;clear B;refine Zi (k:=f.toNat) (u:=(l.getD f.toNat 0)) (enc:=encI) (l:=l) trivial rfl rfl X00 X0l X05 A (X9d (by omega)) (by omega) ?_;intro p7 aI;refine Ze (X0 rfl X2 aI)<|Ze (Xs (ps:=[(0,vi (l.getD f.toNat 0))]) (cs:=[vi (l.getD f.toNat 0),vi 0,vi 0]) rfl (fun _=>by first|rfl|kernel_rfl))<|Zf (X4 (zs:=[vi 0,vi 0,vi 0]) X8d rfl) ?_;rintro _ w3 ⟨b8,rfl,aJ,p,g⟩
 have b0:b4≠b8:=by have:=d.lt;omega
 have C:=Nat.le_trans i.size aJ;have b1:=b.away aJ;have c:=c.below p;have d:=d.below p;have b:=b.below p;have i:=ktr i p;refine Zo (Vw [vi (l.getD f.toNat 0),vi 0,vi 0] X23 g) ?_;rintro _ w4 ⟨y,M⟩;have e:=g;have c:=c.only y (Blk.ne c e rfl);have d:=d.only y (by omega);have b:=b.only y C;have i:=Kept.only i y C;have g:=M;refine ZX b5 fun a o _ b9=>?_;refine Zs o fun _ aK=>?_;refine Ze (Vd rfl X1k 0)<|Ze (X0 rfl X2 (g.at 0))<|Ze (X0x rfl rfl)<|Zt aK fun a o=>?_
 refine Xg o rfl (fun D=>?_) (fun D=>?_)
 ·have aA:=D
  have a6:l.getD f.toNat 0=12:=by have:=D;simpa using this
  refine Zs o fun _ aL=>?_;refine Ze (Vn X1f g)<|Zo (Vw [vi (l.getD f.toNat 0),vi 0,vi 0] X23 d) ?_;rintro _ w5 ⟨y,M⟩;have e:=d;have c:=c.only y (Blk.ne c e rfl);have i:=Kept.only i y L;have d:=M;refine Zt aL fun a o=>?_;refine wp_ret<|X8<|X7 o (X03 o rfl (ResV.cellN (l:=[vi (l.getD f.toNat 0),vi 0,vi 0]) rfl X1f (d.at 0) rfl)) ?_;exact ⟨⟨_,_,_⟩,_,_,rfl,Xmy hn a6,⟨by omega,by omega⟩,i,c⟩
 have aA:=D
 have a6:¬ l.getD f.toNat 0=12:=by have:=D;simpa using this
 have aM:=aE (l.getD f.toNat 0) (Xam (by omega))
 refine wp_skip<|b9 _ _<|Zs o fun _ aN=>?_;refine Zm rfl<|Zm rfl<|Zf (Vc (X2w _ bV J N q b.top a8 Q aG aH c n (by omega)) X1j) ?_;rintro _ w6 ⟨m,aO,aP,rfl,U,bA,hK,B⟩;obtain ⟨wm,I,hm,p⟩:=hK.mid;clear hm;have e:=c;have d:=d.only I (Blk.ne d e rfl);have g:=g.only I (Blk.ne g e rfl);have b:=b.onlyA I Q;have i:=i.self I;have d:=d.below p;have g:=g.below p;have b:=b.below p;have i:=ktr i p
 clear e p I hK;have c:=B;clear B;refine Ze (Vd rfl X2h 1)<|Zo (Vu (vs:=[vi m]) (l':=[vi (l.getD f.toNat 0),vi m,vi 0]) rfl rfl X0l g) ?_;rintro _ w7 ⟨y,M⟩;have e:=g;have c:=c.only y (Blk.ne c e rfl);have d:=d.only y (by omega);have b:=b.only y C;have i:=Kept.only i y C;have g:=M;refine ZX aN fun a o _ a7=>?_;refine Zs o fun _ aQ=>?_;refine Ze (Vd rfl X1k 0)<|Ze (X0 rfl X2 (g.at 0))<|Zf (Vc (F85 _ (l.getD f.toNat 0) 9 11) X3w) ?_;rintro _ _ ⟨rfl,rfl⟩;refine Zt aQ fun a o=>?_
 refine Xg o rfl (fun E=>?_) (fun E=>?_)
 ·have aB:=E
  have h9:inR (l.getD f.toNat 0) 9 11=true:=E
  refine wp_seq_k fun _ aR=>?_;refine Zs o fun _ aS=>?_;refine Zm rfl<|Ze (X0x rfl rfl)<|Zt aS fun a o=>?_
  refine Xg o rfl (fun G=>?_) (fun G=>?_)
  ·have aC:=G
   have h1:n=1:=by have:=G;simpa using this
   refine Zs o fun _ aT=>?_;refine Ze (Xs (ps:=[(0,vi 1)]) (cs:=[vi 1,vi 0,vi 0]) rfl (fun _=>by first|rfl|kernel_rfl))<|Zo (Vw [vi 1,vi 0,vi 0] X23 d) ?_;rintro _ w8 ⟨y,M⟩;have e:=d;have c:=c.only y (Blk.ne c e rfl);have i:=Kept.only i y L;have d:=M;refine Zt aT fun a o=>?_;refine wp_ret<|X8<|X8<|X7 o (X03 o rfl (ResV.cellN (l:=[vi 1,vi 0,vi 0]) rfl X1f (d.at 0) rfl)) ?_;exact ⟨⟨_,_,_⟩,_,_,rfl,Xy8 hn,⟨by omega,by omega⟩,i,c⟩
  have aC:=G
  have h1:¬ n=1:=by have:=G;simpa using this
  refine wp_skip<|aR _ _<|Xp (some bV) (fun j=>[11].contains j) mixed ?_;intro w9 p;have c:=c.below p;have d:=d.below p;have g:=g.below p;have b:=b.below p;have i:=ktr i p;refine Yb o<|Yo 0 rfl (fun _=>Vd rfl X2h 1) ?_;refine Yw 1 rfl trivial (fun w1 h1=>X0 rfl X2 ((g.only h1 (Blk.ne g c rfl)).at 1)) ?_;refine Yo 2 rfl (fun _=>Xm rfl rfl (by omega) (by omega))<|Yo 3 rfl (fun _=>Xd rfl)<|Yo 4 rfl (fun _=>Xd rfl)<|Yo 5 rfl (fun _=>X11 rfl rfl (by omega) (by omega))<|Yo 8 rfl (fun _=>Xd rfl) ?_;refine Y1 6<|Yf rfl trivial (EfW.mono (Vc (X2w _ bV J N q b.top a8 Q aO aP c (n-1) (by omega)) X1j) (fun _ _ h=>⟨fun _=>by obtain ⟨H,aU,aW,rfl,W,aD,hK,B⟩:=h;exact hK.keep,h⟩)) ?_;rintro _ bE ⟨H,aU,aW,rfl,W,aD,hK,B⟩;obtain ⟨wm,I,hm,p⟩:=hK.mid;clear hm;have e:=c;have d:=d.only I (Blk.ne d e rfl);have g:=g.only I (Blk.ne g e rfl);have i:=i.self I;have d:=d.below p;have g:=g.below p;have i:=ktr i p
  clear e p I hK;have c:=B;clear B;refine Yo 7 rfl (fun _=>Xm rfl rfl (by omega) (by omega))<|Yo 9 rfl (fun _=>X5c rfl rfl (by simp;omega))<|Yo 10 rfl (fun _=>Vd rfl X3m 2)<|Y1 11 ?_;refine Yh rfl trivial rfl (Vu (vs:=[vi (((m+1)+H).tmod n)]) (l':=[vi (l.getD f.toNat 0),vi m,vi (((m+1)+H).tmod n)]) rfl rfl X0l g) ?_;rintro _ bF ⟨y,M⟩;have e:=g;have c:=c.only y (Blk.ne c e rfl);have d:=d.only y (by omega);have i:=Kept.only i y C;have g:=M;refine Yd fun a o=>?_;refine a7 _ _<|Zs o fun _ aX=>?_;refine Ze (Vn X1f g)<|Zo (Vw [vi (l.getD f.toNat 0),vi m,vi (((m+1)+H).tmod n)] X23 d) ?_;rintro _ bG ⟨y,M⟩;have e:=d;have c:=c.only y (Blk.ne c e rfl);have i:=Kept.only i y L;have d:=M;refine Zt aX fun a o=>?_
  refine wp_ret (X7 o (X03 o rfl (ResV.cellN (l:=[vi (l.getD f.toNat 0),vi m,vi (((m+1)+H).tmod n)]) rfl X1f (d.at 0) rfl)) ?_)
  exact ⟨⟨_,_,_⟩,_,_,rfl,Xyd hn aM a6 h9 h1 U W,⟨by omega,by omega⟩,i,c⟩
 have aB:=E
 have h9:inR (l.getD f.toNat 0) 9 11=false:=E
 refine wp_skip<|a7 _ _<|Zs o fun _ aY=>?_;refine Ze (Vn X1f g)<|Zo (Vw [vi (l.getD f.toNat 0),vi m,vi 0] X23 d) ?_;rintro _ bH ⟨y,M⟩;have e:=d;have c:=c.only y (Blk.ne c e rfl);have i:=Kept.only i y L;have d:=M;refine Zt aY fun a o=>?_
 refine wp_ret (X7 o (X03 o rfl (ResV.cellN (l:=[vi (l.getD f.toNat 0),vi m,vi 0]) rfl X1f (d.at 0) rfl)) ?_)
 exact ⟨⟨_,_,_⟩,_,_,rfl,Xyp hn aM a6 h9 U,⟨by omega,by omega⟩,i,c⟩
theorem Xst(w0:World)(bV:Nat){aJ:TypeId}(H:Option Addr)(W:Nat)(C:List Int)(d:Rd w0 w0.heap.size aJ encU H C)(aK:∀ x ∈ C,0≤x∧x≤255)(aB:AwayR C H bV)(t:Nat)(sd:Int)(i:Blk w0 bV 69 [.slice H C.length W,vi (t:Int),.int .u64 sd])(n:Int)(most:Int)(Al:Option Addr)(cl:Nat)(l:List Int)(f:Rd w0 w0.heap.size 3 encI Al l)(hn:1≤n∧n≤5)(aL:∀ k ∈ l,1≤k∧k≤12)(hm:0≤most∧most≤1000)(b6:0<l.length)(b7:l.length≤1000)(ht:t+(2+6*most.toNat)≤100000000) : Ret Tryz.prog 81 [.pointer (some ⟨bV,0,none⟩),vi n,vi most,.slice Al l.length cl] w0 (fun v w=>∃ (c:Cx) (A:Option Addr) (e:Nat) (t1:Nat) (s1:Int),v=.agg #[vi c.n,.slice A c.gs.length e]∧(c.n=n∧(c.gs.length:Int)≤most∧∀ g ∈ c.gs,gOk n g=true)∧(t≤t1∧t1≤t+(2+6*most.toNat))∧Own w w0.heap.size 114 3 encG A e c.gs∧Kept bV w0.heap.size w0 w∧Blk w bV 69 [.slice H C.length W,vi (t1:Int),.int .u64 s1]):=by
 have bE:=i.lt;refine enter Tryz.func81 rfl 31 rfl rfl ?_;intro a G
 have B:Kept bV w0.heap.size w0 w0:=Kept.refl _ _ _
 refine Zs G fun _ b8=>?_;refine Zf (X4 (zs:=[vi 0,.slice none 0 0]) X5a rfl) ?_;rintro _ w1 ⟨b5,rfl,aM,u,o⟩;have aN:=Nat.le_trans B.size aM;have b2:=d.away aM;have i:=i.below u;have d:=d.below u;have f:=f.below u;have B:=ktr B u;refine Zx b8 fun a G _ bA=>?_;refine Zm rfl<|Ze (Xs (ps:=[(0,vi n)]) (cs:=[vi n,.slice none 0 0]) rfl (fun _=>by first|rfl|kernel_rfl))<|Zf (X4 (zs:=[vi 0,.slice none 0 0]) X5a rfl) ?_;rintro _ w2 ⟨b9,rfl,aO,u,p⟩
 have b3:b5≠b9:=by have:=o.lt;omega
 have J:=Nat.le_trans B.size aO;have b4:=d.away aO;have i:=i.below u;have o:=o.below u;have d:=d.below u;have f:=f.below u;have B:=ktr B u;refine Zo (Vw [vi n,.slice none 0 0] X1i p) ?_;rintro _ w3 ⟨I,hb⟩;have m:=p;have i:=i.only I (Blk.ne i m rfl);have o:=o.only I (by omega);have d:=d.only I J;have f:=f.onlyT I m rfl;have B:=Kept.only B I J;have p:=hb;refine ZX bA fun a G _ aP=>?_;refine Zs G fun _ aQ=>?_;refine Zm rfl<|Zm rfl<|Ze (Xm rfl rfl (by omega) (by omega))<|Zf (Vc (X2w _ bV H W C d.top aK aB t sd i (most+1) (by omega)) X1j) ?_;rintro _ w4 ⟨aR,aS,aT,rfl,bB,bC,hK,M⟩;obtain ⟨wm,L,hm,u⟩:=hK.mid;clear hm;have m:=i;have o:=o.only L (Blk.ne o m rfl);have p:=p.only L (Blk.ne p m rfl);have d:=d.onlyA L aB;have f:=f.onlyT L m rfl;have B:=B.self L;have o:=o.below u;have p:=p.below u;have d:=d.below u;have f:=f.below u;have B:=ktr B u
 clear m u L hK;have i:=M;clear M;refine Za rfl<|Zt aQ fun a G=>?_;refine wp_block<|Xw (σ:=Int×(List Gt)×Nat×Int) (fun (s:Int×(List Gt)×Nat×Int) (a:Act) (w:World)=>match s with|(j,gs,t2,s2)=>∃ N Q,Fr a 31 [(0,.pointer (some ⟨bV,0,none⟩)),(1,vi n),(3,.slice Al l.length cl),(8,.pointer (some ⟨b5,0,none⟩)),(9,.pointer (some ⟨b9,0,none⟩)),(10,vi j)]∧(0≤j∧j+gs.length≤most)∧(t≤t2∧t2+6*j.toNat≤t+(2+6*most.toNat))∧(∀ g ∈ gs,gOk n g=true)∧Blk w bV 69 [.slice H C.length W,vi (t2:Int),.int .u64 s2]∧Blk w b5 48 [vi 0,.slice none 0 0]∧Blk w b9 48 [vi n,.slice N gs.length Q]∧Rd w w0.heap.size aJ encU H C∧Rd w w0.heap.size 3 encI Al l∧Own w w0.heap.size 114 3 encG N Q gs∧Kept bV w0.heap.size w0 w) (fun (s:Int×(List Gt)×Nat×Int)=>match s with|(j,gs,t2,s2)=>j.toNat) (aR,[],aS,aT) ?_ ?_
 ·exact ⟨none,0,G.sb,(by simp;omega),(by omega),(by simp),i,o,p,d,f,(Own.nil _ _ _ _ _),B⟩
 rintro ⟨j,gs,t2,s2⟩ a w5 ⟨N,Q,G,hj,bF,aU,i,o,p,d,f,q,B⟩;refine wp_seq_k fun _ aW=>?_;refine Zs G fun _ aX=>?_;refine Zm rfl<|Ze (X3o rfl rfl)<|Zt aX fun a G=>?_
 refine Xg G rfl (fun D=>?_) (fun D=>?_)
 ·have aE:=D;have D:=of_decide_eq_true D;refine wp_skip<|aW _ _<|wp_seq_k fun _ aY=>?_;refine wp_block<|Xp (some bV) (fun j=>[7,9].contains j) mixed ?_;intro w6 u;have i:=i.below u;have o:=o.below u;have p:=p.below u;have d:=d.below u;have f:=f.below u;have q:=q.below u;have B:=ktr B u;refine Yb G<|Yo 0 rfl (fun _=>Vd rfl X0y 1) ?_;refine Yw 1 rfl trivial (fun w1 h1=>X0 rfl X35 ((p.only h1 (Blk.ne p i rfl)).at 1)) ?_;refine Yo 2 rfl (fun _=>Xd rfl)<|Yo 3 rfl (fun _=>Xd rfl)<|Yo 4 rfl (fun _=>Xd rfl)<|Y1 5 ?_;refine Yf rfl trivial (EfW.mono (X4k (vs:=[.pointer (some ⟨bV,0,none⟩),vi n,.slice Al l.length cl]) rfl X8i (Xhq _ bV H W C d.top aK aB t2 s2 i n Al cl l f.top hn aL b6 b7 (by omega))) (fun _ _ h=>⟨fun _=>by obtain ⟨y,aC,aD,rfl,a6,aF,hK,M⟩:=h;exact hK.keep,h⟩)) ?_;rintro _ w7 ⟨y,aC,aD,rfl,a6,aF,hK,M⟩;obtain ⟨wm,L,hm,u⟩:=hK.mid;clear hm;have m:=i;have o:=o.only L (Blk.ne o m rfl);have p:=p.only L (Blk.ne p m rfl);have d:=d.onlyA L aB;have f:=f.onlyT L m rfl;have q:=q.onlyT L m rfl;have B:=B.self L;have o:=o.below u;have p:=p.below u;have d:=d.below u;have f:=f.below u;have q:=q.below u;have B:=ktr B u
  clear m u L hK;have i:=M;clear M;refine Y1 6<|Yf rfl trivial (EfW.mono (X5 (k:=1) (vs:=[.agg #[vi y.k,vi y.a,vi y.b]]) (zs:=[vi y.k,vi y.a,vi y.b]) rfl X13 X0k rfl rfl) (fun _ _ h=>⟨fun _=>by obtain ⟨_,_,_,u,_⟩:=h;exact Keep.of_below u,h⟩)) ?_;rintro _ w8 ⟨bG,rfl,a7,u,a8⟩;have bD:=Nat.le_trans B.size a7;have aZ:=d.away a7;have U:=q.away a7;have i:=i.below u;have o:=o.below u;have p:=p.below u;have d:=d.below u;have f:=f.below u;have q:=q.below u;have B:=ktr B u;refine Y1 7<|Yt rfl trivial rfl (X0p (enc:=encG) (l:=(gs)) (l2:=([y])) (B0:=w0.heap.size) rfl rfl X13 X0k X0s X1a q (Rd.of_blk a8 rfl _ a8.lt) (by simp only [maxLen];simp;omega) (by simp;omega) B.size) ?_;rintro _ w9 ⟨aG,aH,rfl,aA,hg,b0⟩
  have E:Own _ w0.heap.size 114 3 encG _ _ (gs):=q
  have aI:=b0 _ a8.lt U;clear b0;have i:=i.appT E hg rfl;have o:=o.appT E hg rfl;have p:=p.appT E hg rfl;have d:=d.appB E hg (Nat.le_refl _);have f:=f.appT E hg rfl;have B:=Kept.app B E hg (Nat.le_refl _) B.size;clear E hg;refine Yo 8 rfl (fun _=>Vd rfl X0y 1)<|Y1 9 ?_;refine Yh rfl trivial rfl (Vu (vs:=[.slice aG (gs++([y])).length aH]) (l':=[vi n,.slice aG (gs++([y])).length aH]) rfl rfl X6v p) ?_;rintro _ bH ⟨I,hb⟩;have m:=p;have i:=i.only I (Blk.ne i m rfl);have o:=o.only I (by omega);have d:=d.only I J;have f:=f.onlyT I m rfl;have aA:=aA.onlyT I m rfl;have B:=Kept.only B I J;have p:=hb;refine Yd fun a G=>?_;refine Xa<|aY _ _<|Zr G<|Zm rfl<|Ze (X11 rfl rfl (by omega) (by omega))<|Za rfl ?_;refine Zn fun a G=>?_;refine Xb ?_;exact ⟨(j-1,gs++[y],aC,aD),⟨aG,aH,G.sb,(by simp;omega),(by omega),(Xjn aU a6),i,o,p,d,f,aA,B⟩,(by first|omega|(dsimp only;omega))⟩
 have aE:=D;have D:=of_decide_eq_false D;refine wp_exit<|Xe<|Xe<|Xq ?_;refine aP _ _<|Zs G fun _ b1=>?_;refine Ze (Vn X1e p)<|Zo (Vw [vi n,.slice N gs.length Q] X1i o) ?_;rintro _ bJ ⟨I,hb⟩;have m:=o;have i:=i.only I (Blk.ne i m rfl);have q:=q.onlyT I m rfl;have B:=Kept.only B I aN;have o:=hb;refine Zt b1 fun a G=>?_
 refine wp_ret (X7 G (X03 G rfl (ResV.cellN (l:=[vi n,.slice N gs.length Q]) rfl X1e (o.at 0) rfl)) ?_)
 exact ⟨⟨n,gs⟩,N,Q,_,_,rfl,⟨rfl,(by show (gs.length:Int)≤most;omega),aU⟩,⟨by omega,by omega⟩,q,B,i⟩
theorem Xs6(w0:World)(bV:Nat){aM:TypeId}(u:Option Addr)(h:Nat)(j:List Int)(b:Rd w0 w0.heap.size aM encU u j)(aA:∀ x ∈ j,0≤x∧x≤255)(a6:AwayR j u bV)(t:Nat)(sd:Int)(f:Blk w0 bV 69 [.slice u j.length h,vi (t:Int),.int .u64 sd])(ht:t+52≤100000000) : Ret Tryz.prog 71 [.pointer (some ⟨bV,0,none⟩)] w0 (fun v w=>∃ (c:Cx) (A:Option Addr) (e:Nat) (t1:Nat) (s1:Int),v=.agg #[vi c.n,.slice A c.gs.length e]∧((1≤c.n∧c.n≤3)∧c.gs.length≤8∧∀ g ∈ c.gs,gOk c.n g=true)∧(t≤t1∧t1≤t+52)∧Own w w0.heap.size 114 3 encG A e c.gs∧Kept bV w0.heap.size w0 w∧Blk w bV 69 [.slice u j.length h,vi (t1:Int),.int .u64 s1]):=by
 have aR:=f.lt;refine enter Tryz.func71 rfl 9 rfl rfl ?_;intro a hf
 have o:Kept bV w0.heap.size w0 w0:=Kept.refl _ _ _
 refine Zs hf fun _ aN=>?_;refine Zf (X4 (zs:=[vi 0,.slice none 0 0]) X5a rfl) ?_;rintro _ w1 ⟨b4,rfl,aB,m,d⟩;have aC:=Nat.le_trans o.size aB;have aI:=b.away aB;have f:=f.below m;have b:=b.below m;have o:=ktr o m;refine Zx aN fun a hf _ aO=>?_;refine Zm rfl<|Zm rfl<|Zf (X5 (k:=4) (vs:=[vi 1,vi 2,vi 2,vi 3]) (zs:=[vi 1,vi 2,vi 2,vi 3]) rfl X00 X32 rfl rfl) ?_;rintro _ w2 ⟨b6,rfl,aD,m,p⟩;have aS:=Nat.le_trans o.size aD;have aJ:=b.away aD;have f:=f.below m;have d:=d.below m;have b:=b.below m;have o:=ktr o m;refine Zf (Vc (Xcj _ bV u h j b.top aA a6 t sd f (some ⟨b6,0,none⟩) 4 ([1,2,2,3]) (Rd.of_blk p rfl _ p.lt) (by simp) (by simp) (by omega)) X77) ?_;rintro _ w3 ⟨aE,aP,aQ,rfl,D,aT,hK,y⟩;obtain ⟨wm,B,hm,m⟩:=hK.mid;clear hm;have i:=f;have d:=d.only B (Blk.ne d i rfl);have p:=p.only B (Blk.ne p i rfl);have b:=b.onlyA B a6;have o:=o.self B;have d:=d.below m;have p:=p.below m;have b:=b.below m;have o:=ktr o m
 clear i m B hK;have f:=y;clear y;refine Zf (X5 (k:=15) (vs:=[vi 1,vi 2,vi 3,vi 4,vi 5,vi 6,vi 7,vi 8,vi 9,vi 9,vi 10,vi 11,vi 12,vi 7,vi 1]) (zs:=[vi 1,vi 2,vi 3,vi 4,vi 5,vi 6,vi 7,vi 8,vi 9,vi 9,vi 10,vi 11,vi 12,vi 7,vi 1]) rfl X00 X32 rfl rfl) ?_;rintro _ w4 ⟨b8,rfl,aF,m,aG⟩
 have aK:b6≠b8:=by have:=p.lt;omega
 have aU:=Nat.le_trans o.size aF;have aL:=b.away aF;have f:=f.below m;have d:=d.below m;have b:=b.below m;have o:=ktr o m;refine Zf (X4k (vs:=[.pointer (some ⟨bV,0,none⟩),vi aE,vi 8,.slice (some ⟨b8,0,none⟩) ([1,2,3,4,5,6,7,8,9,9,10,11,12,7,1]).length 15]) rfl Xg5 (Xst _ bV u h j b.top aA a6 aP aQ f aE 8 (some ⟨b8,0,none⟩) 15 ([1,2,3,4,5,6,7,8,9,9,10,11,12,7,1]) (Rd.of_blk aG rfl _ aG.lt) (by simp at D;omega) (by decide) (by omega) (by simp) (by simp) (by omega))) ?_;rintro _ w5 ⟨C,a7,a8,aX,aY,rfl,E,aW,q,hK,y⟩;have aH:=o.size;obtain ⟨wm,B,hm,m⟩:=hK.mid;clear hm;have i:=f;have d:=d.only B (Blk.ne d i rfl);have o:=o.self B;have d:=d.below m;have o:=ktr o m
 clear i m B hK;have f:=y;clear y
 have q:=q.lower aH;clear aH;refine Zo (Vw [vi C.n,.slice a7 C.gs.length a8] X1i d) ?_;rintro _ w6 ⟨ho,hb⟩;have i:=d;have f:=f.only ho (Blk.ne f i rfl);have q:=q.onlyT ho i rfl;have o:=Kept.only o ho aC;have d:=hb;refine Zt aO fun a hf=>?_
 refine wp_ret (X7 hf (X03 hf rfl (ResV.cellN (l:=[vi C.n,.slice a7 C.gs.length a8]) rfl X1e (d.at 0) rfl)) ?_)
 exact ⟨_,a7,a8,_,_,rfl,⟨(by simp at D;omega),(by omega),(by rw [E.1];exact E.2.2)⟩,⟨by omega,by omega⟩,q,o,f⟩
theorem Xxh(w0:World)(bV:Nat){dD:TypeId}(aK:Option Addr)(aR:Nat)(aC:List Int)(i:Rd w0 w0.heap.size dD encU aK aC)(cF:∀ x ∈ aC,0≤x∧x≤255)(aP:AwayR aC aK bV)(t:Nat)(sd:Int)(D:Blk w0 bV 69 [.slice aK aC.length aR,vi (t:Int),.int .u64 sd])(ht:t+100≤100000000) : Ret Tryz.prog 33 [.pointer (some ⟨bV,0,none⟩)] w0 (fun v w=>∃ (c:Cx) (A:Option Addr) (e:Nat) (d:Cx) (B:Option Addr) (f:Nat) (t1:Nat) (s1:Int),v=.tuple #[.agg #[vi c.n,.slice A c.gs.length e],.agg #[vi d.n,.slice B d.gs.length f]]∧((1≤c.n∧c.n≤3)∧d.n=c.n∧c.gs.length≤8∧d.gs.length≤12∧(∀ g ∈ c.gs,gOk c.n g=true)∧∀ g ∈ d.gs,gOk d.n g=true)∧(t≤t1∧t1≤t+100)∧Own w w0.heap.size 114 3 encG A e c.gs∧Own w w0.heap.size 114 3 encG B f d.gs∧Kept bV w0.heap.size w0 w∧Blk w bV 69 [.slice aK aC.length aR,vi (t1:Int),.int .u64 s1]):=by
 have kN:=D.lt;refine enter Tryz.func33 rfl 72 rfl rfl ?_;intro a hf
 have N:Kept bV w0.heap.size w0 w0:=Kept.refl _ _ _
 refine Zs hf fun _ jT=>?_;refine Zf (X4 (zs:=[vi 0,.slice none 0 0]) X5a rfl) ?_;rintro _ w1 ⟨b4,rfl,i1,C,G⟩;have aG:=Nat.le_trans N.size i1;have jQ:=i.away i1;have D:=D.below C;have i:=i.below C;have N:=ktr N C;refine Zf (X4 (zs:=[vi 0,.slice none 0 0]) X5a rfl) ?_;rintro _ w2 ⟨b6,rfl,i3,C,H⟩
 have jR:b4≠b6:=by have:=G.lt;omega
 have aH:=Nat.le_trans N.size i3;have jS:=i.away i3;have D:=D.below C;have G:=G.below C;have i:=i.below C;have N:=ktr N C;refine Zx jT fun a hf _ jU=>?_;refine Zm rfl<|Zf (X4k (vs:=[.pointer (some ⟨bV,0,none⟩)]) rfl Xhy (Xs6 _ bV aK aR aC i.top cF aP t sd D (by omega))) ?_;rintro _ w3 ⟨o,a8,aB,i4,i5,rfl,aN,jV,m,hK,aF⟩;have i6:=N.size;obtain ⟨wm,hO,hm,C⟩:=hK.mid;clear hm;have y:=D;have G:=G.only hO (Blk.ne G y rfl);have H:=H.only hO (Blk.ne H y rfl);have i:=i.onlyA hO aP;have N:=N.self hO;have G:=G.below C;have H:=H.below C;have i:=i.below C;have N:=ktr N C
 clear y C hO hK;have D:=aF;clear aF
 have m:=m.lower i6;clear i6;refine Zf (X4 (zs:=[vi 0,.slice none 0 0]) X5a rfl) ?_;rintro _ w4 ⟨b10,rfl,eW,C,u⟩
 have i7:b4≠b10:=by have:=G.lt;omega
 have i8:b6≠b10:=by have:=H.lt;omega
 have eC:=Nat.le_trans N.size eW;have i9:=i.away eW;have D:=D.below C;have G:=G.below C;have H:=H.below C;have i:=i.below C;have m:=m.below C;have N:=ktr N C;refine Zo (Vw [vi o.n,.slice a8 o.gs.length aB] X1i u) ?_;rintro _ w5 ⟨J,hb⟩;have y:=u;have D:=D.only J (Blk.ne D y rfl);have G:=G.only J (by omega);have H:=H.only J (by omega);have i:=i.only J eC;have m:=m.onlyT J y rfl;have N:=Kept.only N J eC;have u:=hb;refine Zx jU fun a hf _ iA=>?_;refine Ze (Vn X1e u)<|Zf (Vc (Xs3 _ o a8 aB m.rd.top (by omega)) Xim) ?_;rintro _ w6 ⟨fK,fL,rfl,I,C⟩;have iB:=m.apart I (Nat.le_refl _);have I:=I.lower N.size;have D:=D.below C;have G:=G.below C;have H:=H.below C;have u:=u.below C;have i:=i.below C;have m:=m.below C;have N:=ktr N C;refine Zf (X4 (zs:=[vi 0,.slice none 0 0]) X5a rfl) ?_;rintro _ w7 ⟨b14,rfl,eX,C,p⟩
 have iC:b4≠b14:=by have:=G.lt;omega
 have iD:b6≠b14:=by have:=H.lt;omega
 have fX:b10≠b14:=by have:=u.lt;omega
 have aD:=Nat.le_trans N.size eX;have iE:=i.away eX;have D:=D.below C;have G:=G.below C;have H:=H.below C;have u:=u.below C;have i:=i.below C;have m:=m.below C;have I:=I.below C;have N:=ktr N C;refine Zo (Vw [vi o.n,.slice fK o.gs.length fL] X1i p) ?_;rintro _ w8 ⟨J,hb⟩;have y:=p;have D:=D.only J (Blk.ne D y rfl);have G:=G.only J (by omega);have H:=H.only J (by omega);have u:=u.only J (by omega);have i:=i.only J aD;have m:=m.onlyT J y rfl;have I:=I.onlyT J y rfl;have N:=Kept.only N J aD;have p:=hb;refine Zx iA fun a hf _ iF=>?_;refine Zm rfl<|Ze (Vd rfl X0y 1)<|Ze (X0 rfl X35 (p.at 1))<|Ze (X10 rfl X13)<|Ze (Xm rfl rfl (by omega) (by omega)) ?_;refine Zf (Vc (X2w _ bV aK aR aC i.top cF aP i4 i5 D ((o.gs.length:Int)+1) (by omega)) X1j) ?_;rintro _ w9 ⟨E,iG,iH,rfl,jW,jX,hK,aF⟩;obtain ⟨wm,hO,hm,C⟩:=hK.mid;clear hm;have y:=D;have G:=G.only hO (Blk.ne G y rfl);have H:=H.only hO (Blk.ne H y rfl);have u:=u.only hO (Blk.ne u y rfl);have p:=p.only hO (Blk.ne p y rfl);have i:=i.onlyA hO aP;have m:=m.onlyT hO y rfl;have I:=I.onlyT hO y rfl;have N:=N.self hO;have G:=G.below C;have H:=H.below C;have u:=u.below C;have p:=p.below C;have i:=i.below C;have m:=m.below C;have I:=I.below C;have N:=ktr N C
 clear y C hO hK;have D:=aF;clear aF;refine Za rfl<|Zx iF fun a hf _ iI=>?_;refine Zm rfl<|Ze (Vd rfl X33 0)<|Ze (X0 rfl X2 (p.at 0))<|Zf (X5 (k:=7) (vs:=[vi 1,vi 2,vi 4,vi 5,vi 7,vi 9,vi 10]) (zs:=[vi 1,vi 2,vi 4,vi 5,vi 7,vi 9,vi 10]) rfl X00 X32 rfl rfl) ?_;rintro _ kP ⟨iJ,rfl,eY,C,f4⟩;have jY:=Nat.le_trans N.size eY;have iK:=i.away eY;have D:=D.below C;have G:=G.below C;have H:=H.below C;have u:=u.below C;have p:=p.below C;have i:=i.below C;have m:=m.below C;have I:=I.below C;have N:=ktr N C;refine Zf (X4k (vs:=[.pointer (some ⟨bV,0,none⟩),vi o.n,.slice (some ⟨iJ,0,none⟩) ([1,2,4,5,7,9,10]).length 7]) rfl X8i (Xhq _ bV aK aR aC i.top cF aP iG iH D o.n (some ⟨iJ,0,none⟩) 7 ([1,2,4,5,7,9,10]) (Rd.of_blk f4 rfl _ f4.lt) (by omega) (by decide) (by simp) (by simp) (by omega))) ?_;rintro _ kQ ⟨q,f5,f7,rfl,aO,jZ,hK,aF⟩;obtain ⟨wm,hO,hm,C⟩:=hK.mid;clear hm;have y:=D;have G:=G.only hO (Blk.ne G y rfl);have H:=H.only hO (Blk.ne H y rfl);have u:=u.only hO (Blk.ne u y rfl);have p:=p.only hO (Blk.ne p y rfl);have i:=i.onlyA hO aP;have m:=m.onlyT hO y rfl;have I:=I.onlyT hO y rfl;have N:=N.self hO;have G:=G.below C;have H:=H.below C;have u:=u.below C;have p:=p.below C;have i:=i.below C;have m:=m.below C;have I:=I.below C;have N:=ktr N C
 clear y C hO hK;have D:=aF;clear aF;refine Zf (X4 (zs:=[vi 0,vi 0,vi 0]) X8d rfl) ?_;rintro _ kR ⟨cG,rfl,d5,C,M⟩;have eD:=Nat.le_trans N.size d5;have iM:=i.away d5;have eE:=m.away d5;have dE:=I.away d5;have D:=D.below C;have G:=G.below C;have H:=H.below C;have u:=u.below C;have p:=p.below C;have i:=i.below C;have m:=m.below C;have I:=I.below C;have N:=ktr N C;refine Zo (Vw [vi q.k,vi q.a,vi q.b] X23 M) ?_;rintro _ kS ⟨J,hb⟩;have y:=M;have D:=D.only J (Blk.ne D y rfl);have G:=G.only J (Blk.ne G y rfl);have H:=H.only J (Blk.ne H y rfl);have u:=u.only J (Blk.ne u y rfl);have p:=p.only J (Blk.ne p y rfl);have i:=i.only J eD;have m:=m.onlyA J eE;have I:=I.onlyA J dE;have N:=Kept.only N J eD;have M:=hb;refine Zx iI fun a hf _ iN=>?_;refine Ze (Vn X1f M)<|Zf (Vc (Xsj _ q) Xi2) ?_;rintro _ kT ⟨rfl,C⟩;have D:=D.below C;have G:=G.below C;have H:=H.below C;have u:=u.below C;have p:=p.below C;have M:=M.below C;have i:=i.below C;have m:=m.below C;have I:=I.below C;have N:=ktr N C;refine Zm rfl<|Ze (X9 (vs:=[.agg #[vi ((bkG q).k),vi ((bkG q).a),vi ((bkG q).b)],vi (bkN q)]) rfl rfl)<|Ze (X9 (vs:=[.agg #[vi ((bkG q).k),vi ((bkG q).a),vi ((bkG q).b)],vi (bkN q)]) rfl rfl)<|Zf (X4 (zs:=[vi 0,vi 0,vi 0]) X8d rfl) ?_;rintro _ kU ⟨b21,rfl,d6,C,Q⟩
 have fY:cG≠b21:=by have:=M.lt;omega
 have eF:=Nat.le_trans N.size d6;have iO:=i.away d6;have eG:=m.away d6;have dF:=I.away d6;have D:=D.below C;have G:=G.below C;have H:=H.below C;have u:=u.below C;have p:=p.below C;have M:=M.below C;have i:=i.below C;have m:=m.below C;have I:=I.below C;have N:=ktr N C;refine Zo (Vw [vi ((bkG q).k),vi ((bkG q).a),vi ((bkG q).b)] X23 Q) ?_;rintro _ kW ⟨J,hb⟩;have y:=Q;have D:=D.only J (Blk.ne D y rfl);have G:=G.only J (Blk.ne G y rfl);have H:=H.only J (Blk.ne H y rfl);have u:=u.only J (Blk.ne u y rfl);have p:=p.only J (Blk.ne p y rfl);have M:=M.only J (by omega);have i:=i.only J eF;have m:=m.onlyA J eG;have I:=I.onlyA J dF;have N:=Kept.only N J eF;have Q:=hb;refine Za rfl<|Zx iN fun a hf _ iP=>?_;refine Zf (X5 (k:=0) (vs:=[]) (zs:=[]) rfl X13 X0k rfl rfl) ?_;rintro _ kX ⟨b23,rfl,d7,C,iQ⟩
 have dG:cG≠b23:=by have:=M.lt;omega
 have dH:b21≠b23:=by have:=Q.lt;omega
 have fM:=Nat.le_trans N.size d7;have iS:=i.away d7;have eH:=m.away d7;have dI:=I.away d7;have D:=D.below C;have G:=G.below C;have H:=H.below C;have u:=u.below C;have p:=p.below C;have M:=M.below C;have Q:=Q.below C;have i:=i.below C;have m:=m.below C;have I:=I.below C;have N:=ktr N C;refine Ze (Vd rfl X0y 1)<|Ze (X0 rfl X35 (p.at 1))<|Zm rfl ?_;have iT:=(I.rd.top).dropK X0s (c:=fL) I.cap E.toNat;refine Ze (Xeq (l:=o.gs) (k:=E.toNat) rfl rfl X13 X23 (by omega) (by omega))<|Zf (X2y (enc:=encG) (l2:=((o.gs.drop E.toNat))) rfl rfl X13 X0k X0s X1a iQ iT (by simp only [maxLen];simp;omega) (by simp;omega)) ?_;rintro _ kY ⟨iU,k5,rfl,U,C,W⟩;have fZ:=W _ M.lt dG;have g4:=W _ Q.lt dH;have iV:=Apart.new0 m eH W;have g5:=Apart.new0 I dI W;clear W;have U:=U.lower fM;have D:=D.below C;have G:=G.below C;have H:=H.below C;have u:=u.below C;have p:=p.below C;have M:=M.below C;have Q:=Q.below C;have i:=i.below C;have m:=m.below C;have I:=I.below C;have N:=ktr N C;refine Za rfl<|ZX iP fun a hf _ iW=>?_;refine X0i (fun a w=>∃ aM aQ,Fr a 72 [(0,.pointer (some ⟨bV,0,none⟩)),(2,.pointer (some ⟨b4,0,none⟩)),(3,.pointer (some ⟨b6,0,none⟩)),(4,.pointer (some ⟨b10,0,none⟩)),(5,.pointer (some ⟨b14,0,none⟩))]∧Own w w0.heap.size 114 3 encG aM aQ (((o.gs.take E.toNat)++([q,(bkG q)]))++(o.gs.drop E.toNat))∧Apart a8 aM∧Apart fK aM∧Apart iU aM∧Blk w bV 69 [.slice aK aC.length aR,vi (f5:Int),.int .u64 f7]∧Blk w b4 48 [vi 0,.slice none 0 0]∧Blk w b6 48 [vi 0,.slice none 0 0]∧Blk w b10 48 [vi o.n,.slice a8 o.gs.length aB]∧Blk w b14 48 [vi o.n,.slice aM (((o.gs.take E.toNat)++([q,(bkG q)]))++(o.gs.drop E.toNat)).length aQ]∧Blk w cG 114 [vi q.k,vi q.a,vi q.b]∧Blk w b21 114 [vi ((bkG q).k),vi ((bkG q).a),vi ((bkG q).b)]∧Rd w w0.heap.size dD encU aK aC∧Own w w0.heap.size 114 3 encG a8 aB o.gs∧Own w w0.heap.size 114 3 encG fK fL o.gs∧Own w w0.heap.size 114 3 encG iU k5 (o.gs.drop E.toNat)∧Kept bV w0.heap.size w0 w) ?_ ?_
 ·refine Xp none (fun j=>[9,11,13].contains j) mixed ?_;intro kZ C;have D:=D.below C;have G:=G.below C;have H:=H.below C;have u:=u.below C;have p:=p.below C;have M:=M.below C;have Q:=Q.below C;have i:=i.below C;have m:=m.below C;have I:=I.below C;have U:=U.below C;have N:=ktr N C;refine Yb hf<|Yo 1 rfl (fun _=>Vd rfl X0y 1)<|Ye 2 rfl (X0 rfl X35 (p.at 1))<|Yo 3 rfl (fun _=>Xd rfl) ?_;have aE:=(I.rd.top).takeK X0s E.toNat;refine Yo 4 rfl (fun _=>X3y (l:=o.gs) (k:=E.toNat) rfl rfl X13 X23 (by omega) (by omega) I.cap)<|Ye 6 rfl (Vn X1f M)<|Ye 7 rfl (Vn X1f Q)<|Yo 10 rfl (fun _=>Xd rfl) ?_;refine Y2 0 8 ?_ ?_
  ·refine Yk rfl trivial (X5 (k:=0) (vs:=[]) (zs:=[]) rfl X13 X0k rfl rfl) (fun _ _ ⟨_,_,_,h,_⟩=>h) ?_;rintro _ l6 ⟨b29,rfl,b3,C,cH⟩
   have b5:cG≠b29:=by have:=M.lt;omega
   have b7:b21≠b29:=by have:=Q.lt;omega
   have eI:=Nat.le_trans N.size b3;have iX:=i.away b3;have cJ:=m.away b3;have b8:=I.away b3;have b9:=U.away b3;have g6:=aE.away b3;have D:=D.below C;have G:=G.below C;have H:=H.below C;have u:=u.below C;have p:=p.below C;have M:=M.below C;have Q:=Q.below C;have i:=i.below C;have m:=m.below C;have I:=I.below C;have U:=U.below C;have aE:=aE.below C;have N:=ktr N C;refine Y2 5 8 ?_ ?_
   ·refine Yk rfl trivial (X2y (enc:=encG) (l2:=((o.gs.take E.toNat))) rfl rfl X13 X0k X0s X1a cH aE (by simp only [maxLen];simp;omega) (by simp;omega)) (fun _ _ ⟨k6,k7,_,aU,C,W⟩=>C) ?_;rintro _ l7 ⟨k6,k7,rfl,aU,C,W⟩;have bA:=W _ M.lt b5;have bB:=W _ Q.lt b7;have cK:=Apart.new0 m cJ W;have bC:=Apart.new0 I b8 W;have bD:=Apart.new0 U b9 W;clear W;have aU:=aU.lower eI;have D:=D.below C;have G:=G.below C;have H:=H.below C;have u:=u.below C;have p:=p.below C;have M:=M.below C;have Q:=Q.below C;have i:=i.below C;have m:=m.below C;have I:=I.below C;have U:=U.below C;have aE:=aE.below C;have N:=ktr N C;refine Y1 8<|Yk rfl trivial (X5 (k:=2) (vs:=[.agg #[vi q.k,vi q.a,vi q.b],.agg #[vi ((bkG q).k),vi ((bkG q).a),vi ((bkG q).b)]]) (zs:=[vi q.k,vi q.a,vi q.b,vi ((bkG q).k),vi ((bkG q).a),vi ((bkG q).b)]) rfl X13 X0k rfl rfl) (fun _ _ ⟨_,_,_,h,_⟩=>h) ?_;rintro _ l8 ⟨b32,rfl,aW,C,eJ⟩
    have g7:cG≠b32:=by have:=M.lt;omega
    have g8:b21≠b32:=by have:=Q.lt;omega
    have k8:=Nat.le_trans N.size aW;have iY:=i.away aW;have iZ:=m.away aW;have g9:=I.away aW;have gA:=U.away aW;have gB:=aE.away aW;have dJ:=aU.away aW;have D:=D.below C;have G:=G.below C;have H:=H.below C;have u:=u.below C;have p:=p.below C;have M:=M.below C;have Q:=Q.below C;have i:=i.below C;have m:=m.below C;have I:=I.below C;have U:=U.below C;have aU:=aU.below C;have N:=ktr N C;refine Y1 9<|Yt rfl trivial rfl (X0p (enc:=encG) (l:=((o.gs.take E.toNat))) (l2:=([q,(bkG q)])) (B0:=w0.heap.size) rfl rfl X13 X0k X0s X1a aU (Rd.of_blk eJ rfl _ eJ.lt) (by simp only [maxLen];simp;omega) (by simp;omega) N.size) ?_;rintro _ l9 ⟨lA,lB,rfl,f8,hg,W⟩
    have L:Own _ w0.heap.size 114 3 encG _ _ ((o.gs.take E.toNat)):=aU
    have bE:=W _ M.lt bA;have bF:=W _ Q.lt bB;have gC:=W _ eJ.lt dJ;have cL:=Apart.app m cK W;have bG:=Apart.app I bC W;have bH:=Apart.app U bD W;clear W;have D:=D.appT L hg rfl;have G:=G.appT L hg rfl;have H:=H.appT L hg rfl;have u:=u.appT L hg rfl;have p:=p.appT L hg rfl;have M:=M.appA hg bA;have Q:=Q.appA hg bB;have i:=i.appB L hg (Nat.le_refl _);have m:=m.appP hg cK;have I:=I.appP hg bC;have U:=U.appP hg bD;have N:=Kept.app N L hg (Nat.le_refl _) N.size;clear L hg;refine Y1 11<|Yt rfl trivial rfl (X0p (enc:=encG) (l:=((o.gs.take E.toNat)++([q,(bkG q)]))) (l2:=((o.gs.drop E.toNat))) (B0:=w0.heap.size) rfl rfl X13 X0k X0s X1a f8 U.rd (by simp only [maxLen];simp;omega) (by simp;omega) N.size) ?_;rintro _ lC ⟨aM,aQ,rfl,a6,hg,W⟩
    have L:Own _ w0.heap.size 114 3 encG _ _ ((o.gs.take E.toNat)++([q,(bkG q)])):=f8
    have gD:=W _ M.lt bE;have gE:=W _ Q.lt bF;have aL:=Apart.app m cL W;have bJ:=Apart.app I bG W;have bK:=Apart.app U bH W;clear W;have D:=D.appT L hg rfl;have G:=G.appT L hg rfl;have H:=H.appT L hg rfl;have u:=u.appT L hg rfl;have p:=p.appT L hg rfl;have M:=M.appA hg bE;have Q:=Q.appA hg bF;have i:=i.appB L hg (Nat.le_refl _);have m:=m.appP hg cL;have I:=I.appP hg bG;have U:=U.appP hg bH;have N:=Kept.app N L hg (Nat.le_refl _) N.size;clear L hg;refine Yo 12 rfl (fun _=>Vd rfl X0y 1)<|Y1 13 ?_;refine Yh rfl trivial rfl (Vu (vs:=[.slice aM (((o.gs.take E.toNat)++([q,(bkG q)]))++(o.gs.drop E.toNat)).length aQ]) (l':=[vi o.n,.slice aM (((o.gs.take E.toNat)++([q,(bkG q)]))++(o.gs.drop E.toNat)).length aQ]) rfl rfl X6v p) ?_;rintro _ lD ⟨J,hb⟩;have y:=p;have D:=D.only J (Blk.ne D y rfl);have G:=G.only J (by omega);have H:=H.only J (by omega);have u:=u.only J (by omega);have M:=M.only J (Blk.ne M y rfl);have Q:=Q.only J (Blk.ne Q y rfl);have i:=i.only J aD;have m:=m.onlyT J y rfl;have I:=I.onlyT J y rfl;have U:=U.onlyT J y rfl;have a6:=a6.onlyT J y rfl;have N:=Kept.only N J aD;have p:=hb;refine Yd fun a hf=>?_;exact ⟨aM,aQ,hf.sb,a6,aL,bJ,bK,D,G,H,u,p,M,Q,i,m,I,U,N⟩
   refine Yk rfl trivial (X5 (k:=2) (vs:=[.agg #[vi q.k,vi q.a,vi q.b],.agg #[vi ((bkG q).k),vi ((bkG q).a),vi ((bkG q).b)]]) (zs:=[vi q.k,vi q.a,vi q.b,vi ((bkG q).k),vi ((bkG q).a),vi ((bkG q).b)]) rfl X13 X0k rfl rfl) (fun _ _ ⟨_,_,_,h,_⟩=>h) ?_;rintro _ lE ⟨b36,rfl,bL,C,bM⟩
   have gF:cG≠b36:=by have:=M.lt;omega
   have gG:b21≠b36:=by have:=Q.lt;omega
   have dK:b29≠b36:=by have:=cH.lt;omega
   have kA:=Nat.le_trans N.size bL;have j0:=i.away bL;have j1:=m.away bL;have gH:=I.away bL;have gI:=U.away bL;have gJ:=aE.away bL;have D:=D.below C;have G:=G.below C;have H:=H.below C;have u:=u.below C;have p:=p.below C;have M:=M.below C;have Q:=Q.below C;have cH:=cH.below C;have i:=i.below C;have m:=m.below C;have I:=I.below C;have U:=U.below C;have aE:=aE.below C;have N:=ktr N C;refine Y1 5<|Yk rfl trivial (X2y (enc:=encG) (l2:=((o.gs.take E.toNat))) rfl rfl X13 X0k X0s X1a cH aE (by simp only [maxLen];simp;omega) (by simp;omega)) (fun _ _ ⟨kB,kC,_,cM,C,W⟩=>C) ?_;rintro _ lF ⟨kB,kC,rfl,cM,C,W⟩;have bN:=W _ M.lt b5;have bO:=W _ Q.lt b7;have dL:=W _ bM.lt (Ne.symm dK);have cN:=Apart.new0 m cJ W;have bP:=Apart.new0 I b8 W;have bR:=Apart.new0 U b9 W;clear W;have cM:=cM.lower eI;have D:=D.below C;have G:=G.below C;have H:=H.below C;have u:=u.below C;have p:=p.below C;have M:=M.below C;have Q:=Q.below C;have bM:=bM.below C;have i:=i.below C;have m:=m.below C;have I:=I.below C;have U:=U.below C;have N:=ktr N C;refine Y1 9<|Yt rfl trivial rfl (X0p (enc:=encG) (l:=((o.gs.take E.toNat))) (l2:=([q,(bkG q)])) (B0:=w0.heap.size) rfl rfl X13 X0k X0s X1a cM (Rd.of_blk bM rfl _ bM.lt) (by simp only [maxLen];simp;omega) (by simp;omega) N.size) ?_;rintro _ lG ⟨lH,lI,rfl,f9,hg,W⟩
   have L:Own _ w0.heap.size 114 3 encG _ _ ((o.gs.take E.toNat)):=cM
   have bS:=W _ M.lt bN;have bT:=W _ Q.lt bO;have gK:=W _ bM.lt dL;have cO:=Apart.app m cN W;have bU:=Apart.app I bP W;have bW:=Apart.app U bR W;clear W;have D:=D.appT L hg rfl;have G:=G.appT L hg rfl;have H:=H.appT L hg rfl;have u:=u.appT L hg rfl;have p:=p.appT L hg rfl;have M:=M.appA hg bN;have Q:=Q.appA hg bO;have i:=i.appB L hg (Nat.le_refl _);have m:=m.appP hg cN;have I:=I.appP hg bP;have U:=U.appP hg bR;have N:=Kept.app N L hg (Nat.le_refl _) N.size;clear L hg;refine Y1 11<|Yt rfl trivial rfl (X0p (enc:=encG) (l:=((o.gs.take E.toNat)++([q,(bkG q)]))) (l2:=((o.gs.drop E.toNat))) (B0:=w0.heap.size) rfl rfl X13 X0k X0s X1a f9 U.rd (by simp only [maxLen];simp;omega) (by simp;omega) N.size) ?_;rintro _ lJ ⟨fN,fO,rfl,eK,hg,W⟩
   have L:Own _ w0.heap.size 114 3 encG _ _ ((o.gs.take E.toNat)++([q,(bkG q)])):=f9
   have gL:=W _ M.lt bS;have gM:=W _ Q.lt bT;have eL:=Apart.app m cO W;have dM:=Apart.app I bU W;have dN:=Apart.app U bW W;clear W;have D:=D.appT L hg rfl;have G:=G.appT L hg rfl;have H:=H.appT L hg rfl;have u:=u.appT L hg rfl;have p:=p.appT L hg rfl;have M:=M.appA hg bS;have Q:=Q.appA hg bT;have i:=i.appB L hg (Nat.le_refl _);have m:=m.appP hg cO;have I:=I.appP hg bU;have U:=U.appP hg bW;have N:=Kept.app N L hg (Nat.le_refl _) N.size;clear L hg;refine Yo 12 rfl (fun _=>Vd rfl X0y 1)<|Y1 13 ?_;refine Yh rfl trivial rfl (Vu (vs:=[.slice fN (((o.gs.take E.toNat)++([q,(bkG q)]))++(o.gs.drop E.toNat)).length fO]) (l':=[vi o.n,.slice fN (((o.gs.take E.toNat)++([q,(bkG q)]))++(o.gs.drop E.toNat)).length fO]) rfl rfl X6v p) ?_;rintro _ lK ⟨J,hb⟩;have y:=p;have D:=D.only J (Blk.ne D y rfl);have G:=G.only J (by omega);have H:=H.only J (by omega);have u:=u.only J (by omega);have M:=M.only J (Blk.ne M y rfl);have Q:=Q.only J (Blk.ne Q y rfl);have i:=i.only J aD;have m:=m.onlyT J y rfl;have I:=I.onlyT J y rfl;have U:=U.onlyT J y rfl;have eK:=eK.onlyT J y rfl;have N:=Kept.only N J aD;have p:=hb;refine Yd fun a hf=>?_;exact ⟨fN,fO,hf.sb,eK,eL,dM,dN,D,G,H,u,p,M,Q,i,m,I,U,N⟩
  refine Yk rfl trivial (X5 (k:=2) (vs:=[.agg #[vi q.k,vi q.a,vi q.b],.agg #[vi ((bkG q).k),vi ((bkG q).a),vi ((bkG q).b)]]) (zs:=[vi q.k,vi q.a,vi q.b,vi ((bkG q).k),vi ((bkG q).a),vi ((bkG q).b)]) rfl X13 X0k rfl rfl) (fun _ _ ⟨_,_,_,h,_⟩=>h) ?_;rintro _ lL ⟨b41,rfl,bX,C,aT⟩
  have gN:cG≠b41:=by have:=M.lt;omega
  have gO:b21≠b41:=by have:=Q.lt;omega
  have kD:=Nat.le_trans N.size bX;have j2:=i.away bX;have j3:=m.away bX;have gQ:=I.away bX;have gR:=U.away bX;have gS:=aE.away bX;have D:=D.below C;have G:=G.below C;have H:=H.below C;have u:=u.below C;have p:=p.below C;have M:=M.below C;have Q:=Q.below C;have i:=i.below C;have m:=m.below C;have I:=I.below C;have U:=U.below C;have aE:=aE.below C;have N:=ktr N C;refine Y1 0<|Yk rfl trivial (X5 (k:=0) (vs:=[]) (zs:=[]) rfl X13 X0k rfl rfl) (fun _ _ ⟨_,_,_,h,_⟩=>h) ?_;rintro _ lM ⟨b43,rfl,bY,C,j4⟩
  have dO:cG≠b43:=by have:=M.lt;omega
  have dP:b21≠b43:=by have:=Q.lt;omega
  have dQ:b41≠b43:=by have:=aT.lt;omega
  have fP:=Nat.le_trans N.size bY;have j5:=i.away bY;have eM:=m.away bY;have dR:=I.away bY;have dS:=U.away bY;have gT:=aE.away bY;have D:=D.below C;have G:=G.below C;have H:=H.below C;have u:=u.below C;have p:=p.below C;have M:=M.below C;have Q:=Q.below C;have aT:=aT.below C;have i:=i.below C;have m:=m.below C;have I:=I.below C;have U:=U.below C;have aE:=aE.below C;have N:=ktr N C;refine Y1 5<|Yk rfl trivial (X2y (enc:=encG) (l2:=((o.gs.take E.toNat))) rfl rfl X13 X0k X0s X1a j4 aE (by simp only [maxLen];simp;omega) (by simp;omega)) (fun _ _ ⟨kE,kF,_,cP,C,W⟩=>C) ?_;rintro _ lN ⟨kE,kF,rfl,cP,C,W⟩;have bZ:=W _ M.lt dO;have c4:=W _ Q.lt dP;have dU:=W _ aT.lt dQ;have cQ:=Apart.new0 m eM W;have c5:=Apart.new0 I dR W;have c6:=Apart.new0 U dS W;clear W;have cP:=cP.lower fP;have D:=D.below C;have G:=G.below C;have H:=H.below C;have u:=u.below C;have p:=p.below C;have M:=M.below C;have Q:=Q.below C;have aT:=aT.below C;have i:=i.below C;have m:=m.below C;have I:=I.below C;have U:=U.below C;have N:=ktr N C;refine Y1 9<|Yt rfl trivial rfl (X0p (enc:=encG) (l:=((o.gs.take E.toNat))) (l2:=([q,(bkG q)])) (B0:=w0.heap.size) rfl rfl X13 X0k X0s X1a cP (Rd.of_blk aT rfl _ aT.lt) (by simp only [maxLen];simp;omega) (by simp;omega) N.size) ?_;rintro _ lO ⟨lP,lQ,rfl,fA,hg,W⟩
  have L:Own _ w0.heap.size 114 3 encG _ _ ((o.gs.take E.toNat)):=cP
  have cA:=W _ M.lt bZ;have cC:=W _ Q.lt c4;have gU:=W _ aT.lt dU;have cR:=Apart.app m cQ W;have cD:=Apart.app I c5 W;have cE:=Apart.app U c6 W;clear W;have D:=D.appT L hg rfl;have G:=G.appT L hg rfl;have H:=H.appT L hg rfl;have u:=u.appT L hg rfl;have p:=p.appT L hg rfl;have M:=M.appA hg bZ;have Q:=Q.appA hg c4;have i:=i.appB L hg (Nat.le_refl _);have m:=m.appP hg cQ;have I:=I.appP hg c5;have U:=U.appP hg c6;have N:=Kept.app N L hg (Nat.le_refl _) N.size;clear L hg;refine Y1 11<|Yt rfl trivial rfl (X0p (enc:=encG) (l:=((o.gs.take E.toNat)++([q,(bkG q)]))) (l2:=((o.gs.drop E.toNat))) (B0:=w0.heap.size) rfl rfl X13 X0k X0s X1a fA U.rd (by simp only [maxLen];simp;omega) (by simp;omega) N.size) ?_;rintro _ lR ⟨fQ,fR,rfl,eN,hg,W⟩
  have L:Own _ w0.heap.size 114 3 encG _ _ ((o.gs.take E.toNat)++([q,(bkG q)])):=fA
  have gX:=W _ M.lt cA;have gY:=W _ Q.lt cC;have eO:=Apart.app m cR W;have dW:=Apart.app I cD W;have dX:=Apart.app U cE W;clear W;have D:=D.appT L hg rfl;have G:=G.appT L hg rfl;have H:=H.appT L hg rfl;have u:=u.appT L hg rfl;have p:=p.appT L hg rfl;have M:=M.appA hg cA;have Q:=Q.appA hg cC;have i:=i.appB L hg (Nat.le_refl _);have m:=m.appP hg cR;have I:=I.appP hg cD;have U:=U.appP hg cE;have N:=Kept.app N L hg (Nat.le_refl _) N.size;clear L hg;refine Yo 12 rfl (fun _=>Vd rfl X0y 1)<|Y1 13 ?_;refine Yh rfl trivial rfl (Vu (vs:=[.slice fQ (((o.gs.take E.toNat)++([q,(bkG q)]))++(o.gs.drop E.toNat)).length fR]) (l':=[vi o.n,.slice fQ (((o.gs.take E.toNat)++([q,(bkG q)]))++(o.gs.drop E.toNat)).length fR]) rfl rfl X6v p) ?_;rintro _ lS ⟨J,hb⟩;have y:=p;have D:=D.only J (Blk.ne D y rfl);have G:=G.only J (by omega);have H:=H.only J (by omega);have u:=u.only J (by omega);have M:=M.only J (Blk.ne M y rfl);have Q:=Q.only J (Blk.ne Q y rfl);have i:=i.only J aD;have m:=m.onlyT J y rfl;have I:=I.onlyT J y rfl;have U:=U.onlyT J y rfl;have eN:=eN.onlyT J y rfl;have N:=Kept.only N J aD;have p:=hb;refine Yd fun a hf=>?_;exact ⟨fQ,fR,hf.sb,eN,eO,dW,dX,D,G,H,u,p,M,Q,i,m,I,U,N⟩
 rintro a lT ⟨aM,aQ,hf,a6,aL,bJ,bK,D,G,H,u,p,M,Q,i,m,I,U,N⟩;refine iW _ _<|wp_seq_k fun _ fB=>?_;refine Zs hf fun _ j6=>?_;refine Zm rfl<|Zf (Vc (Xah _ bV aK aR aC i.top cF aP f5 f7 D 4 (by omega)) X5v) ?_;rintro _ lU ⟨kO,fC,fD,rfl,kG,kH,hK,aF⟩;obtain ⟨wm,hO,hm,C⟩:=hK.mid;clear hm;have y:=D;have G:=G.only hO (Blk.ne G y rfl);have H:=H.only hO (Blk.ne H y rfl);have u:=u.only hO (Blk.ne u y rfl);have p:=p.only hO (Blk.ne p y rfl);have i:=i.onlyA hO aP;have m:=m.onlyT hO y rfl;have a6:=a6.onlyT hO y rfl;have N:=N.self hO;have G:=G.below C;have H:=H.below C;have u:=u.below C;have p:=p.below C;have i:=i.below C;have m:=m.below C;have a6:=a6.below C;have N:=ktr N C
 clear y C hO hK;have D:=aF;clear aF;refine Zt j6 fun a hf=>?_
 refine Xg hf rfl (fun eP=>?_) (fun eP=>?_)
 ·have fS:=eP;refine Zr hf<|Ze (Vd rfl X0y 1)<|Ze (X0 rfl X35 (p.at 1))<|Ze (Xs (ps:=[(0,vi 12)]) (cs:=[vi 12,vi 0,vi 0]) rfl (fun _=>by first|rfl|kernel_rfl))<|Zf (X5 (k:=1) (vs:=[.agg #[vi 12,vi 0,vi 0]]) (zs:=[vi 12,vi 0,vi 0]) rfl X13 X0k rfl rfl) ?_;rintro _ lV ⟨lW,rfl,d8,C,eQ⟩;have kI:=Nat.le_trans N.size d8;have j7:=i.away d8;have j8:=m.away d8;have e8:=a6.away d8;have D:=D.below C;have G:=G.below C;have H:=H.below C;have u:=u.below C;have p:=p.below C;have i:=i.below C;have m:=m.below C;have a6:=a6.below C;have N:=ktr N C;refine Zf (X0p (enc:=encG) (l:=(((o.gs.take E.toNat)++([q,(bkG q)]))++(o.gs.drop E.toNat))) (l2:=([(⟨12,0,0⟩ : Gt)])) (B0:=w0.heap.size) rfl rfl X13 X0k X0s X1a a6 (Rd.of_blk eQ rfl _ eQ.lt) (by simp only [maxLen];simp;omega) (by simp;omega) N.size) ?_;rintro _ lX ⟨aX,aY,rfl,aA,hg,W⟩
  have L:Own _ w0.heap.size 114 3 encG _ _ (((o.gs.take E.toNat)++([q,(bkG q)]))++(o.gs.drop E.toNat)):=a6
  have hG:=W _ eQ.lt e8;have cS:=Apart.app m aL W;clear W;have D:=D.appT L hg rfl;have G:=G.appT L hg rfl;have H:=H.appT L hg rfl;have u:=u.appT L hg rfl;have p:=p.appT L hg rfl;have i:=i.appB L hg (Nat.le_refl _);have m:=m.appP hg aL;have N:=Kept.app N L hg (Nat.le_refl _) N.size;clear L hg;refine Ze (Vd rfl X0y 1)<|Zo (Vu (vs:=[.slice aX ((((o.gs.take E.toNat)++([q,(bkG q)]))++(o.gs.drop E.toNat))++([(⟨12,0,0⟩ : Gt)])).length aY]) (l':=[vi o.n,.slice aX ((((o.gs.take E.toNat)++([q,(bkG q)]))++(o.gs.drop E.toNat))++([(⟨12,0,0⟩ : Gt)])).length aY]) rfl rfl X6v p) ?_;rintro _ lY ⟨J,hb⟩;have y:=p;have D:=D.only J (Blk.ne D y rfl);have G:=G.only J (by omega);have H:=H.only J (by omega);have u:=u.only J (by omega);have i:=i.only J aD;have m:=m.onlyT J y rfl;have aA:=aA.onlyT J y rfl;have N:=Kept.only N J aD;have p:=hb;refine ZX fB fun a hf _ fE=>?_;refine Zs hf fun _ j9=>?_;refine Zm rfl<|Zf (Vc (Xah _ bV aK aR aC i.top cF aP fC fD D 4 (by omega)) X5v) ?_;rintro _ lZ ⟨jA,cU,cV,rfl,fT,fU,hK,aF⟩;obtain ⟨wm,hO,hm,C⟩:=hK.mid;clear hm;have y:=D;have G:=G.only hO (Blk.ne G y rfl);have H:=H.only hO (Blk.ne H y rfl);have u:=u.only hO (Blk.ne u y rfl);have p:=p.only hO (Blk.ne p y rfl);have i:=i.onlyA hO aP;have m:=m.onlyT hO y rfl;have aA:=aA.onlyT hO y rfl;have N:=N.self hO;have G:=G.below C;have H:=H.below C;have u:=u.below C;have p:=p.below C
  have i:=i.below C;have m:=m.below C;have aA:=aA.below C;have N:=ktr N C
  clear y C hO hK;have D:=aF;clear aF;refine Zt j9 fun a hf=>?_
  refine Xg hf rfl (fun eR=>?_) (fun eR=>?_)
  ·have fV:=eR;refine Xp (some bV) (fun j=>[8,10].contains j) mixed ?_;intro m5 C;have D:=D.below C;have G:=G.below C;have H:=H.below C;have u:=u.below C;have p:=p.below C;have i:=i.below C;have m:=m.below C;have aA:=aA.below C;have N:=ktr N C;refine Yb hf<|Yo 0 rfl (fun _=>Vd rfl X0y 1) ?_;refine Yw 1 rfl trivial (fun w1 h1=>X0 rfl X35 ((p.only h1 (Blk.ne p D rfl)).at 1)) ?_;refine Yo 2 rfl (fun _=>Xd rfl)<|Yo 3 rfl (fun _=>Vd rfl X33 0) ?_;refine Yw 4 rfl trivial (fun w1 h1=>X0 rfl X2 ((p.only h1 (Blk.ne p D rfl)).at 0)) ?_;refine Y1 5<|Yf rfl trivial (EfW.mono (X5 (k:=3) (vs:=[vi 4,vi 5,vi 7]) (zs:=[vi 4,vi 5,vi 7]) rfl X00 X32 rfl rfl) (fun _ _ h=>⟨fun _=>by obtain ⟨_,_,_,C,_⟩:=h;exact Keep.of_below C,h⟩)) ?_;rintro _ m6 ⟨jB,rfl,fF,C,fG⟩;have kJ:=Nat.le_trans N.size fF;have jC:=i.away fF;have D:=D.below C;have G:=G.below C;have H:=H.below C;have u:=u.below C;have p:=p.below C;have i:=i.below C;have m:=m.below C;have aA:=aA.below C;have N:=ktr N C;refine Y1 6<|Yf rfl trivial (EfW.mono (X4k (vs:=[.pointer (some ⟨bV,0,none⟩),vi o.n,.slice (some ⟨jB,0,none⟩) ([4,5,7]).length 3]) rfl X8i (Xhq _ bV aK aR aC i.top cF aP cU cV D o.n (some ⟨jB,0,none⟩) 3 ([4,5,7]) (Rd.of_blk fG rfl _ fG.lt) (by omega) (by decide) (by simp) (by simp) (by omega))) (fun _ _ h=>⟨fun _=>by obtain ⟨a7,cW,cX,rfl,aS,cY,hK,aF⟩:=h;exact hK.keep,h⟩)) ?_;rintro _ m7 ⟨a7,cW,cX,rfl,aS,cY,hK,aF⟩;obtain ⟨wm,hO,hm,C⟩:=hK.mid;clear hm;have y:=D;have G:=G.only hO (Blk.ne G y rfl)
   have H:=H.only hO (Blk.ne H y rfl);have u:=u.only hO (Blk.ne u y rfl);have p:=p.only hO (Blk.ne p y rfl);have i:=i.onlyA hO aP;have m:=m.onlyT hO y rfl;have aA:=aA.onlyT hO y rfl;have N:=N.self hO;have G:=G.below C;have H:=H.below C;have u:=u.below C;have p:=p.below C;have i:=i.below C;have m:=m.below C;have aA:=aA.below C;have N:=ktr N C
   clear y C hO hK;have D:=aF;clear aF;refine Y1 7<|Yf rfl trivial (EfW.mono (X5 (k:=1) (vs:=[.agg #[vi a7.k,vi a7.a,vi a7.b]]) (zs:=[vi a7.k,vi a7.a,vi a7.b]) rfl X13 X0k rfl rfl) (fun _ _ h=>⟨fun _=>by obtain ⟨_,_,_,C,_⟩:=h;exact Keep.of_below C,h⟩)) ?_;rintro _ m8 ⟨m9,rfl,dB,C,eS⟩;have kK:=Nat.le_trans N.size dB;have jD:=i.away dB;have jE:=m.away dB;have eA:=aA.away dB;have D:=D.below C;have G:=G.below C;have H:=H.below C;have u:=u.below C;have p:=p.below C;have i:=i.below C;have m:=m.below C;have aA:=aA.below C;have N:=ktr N C;refine Y1 8<|Yt rfl trivial rfl (X0p (enc:=encG) (l:=((((o.gs.take E.toNat)++([q,(bkG q)]))++(o.gs.drop E.toNat))++([(⟨12,0,0⟩ : Gt)]))) (l2:=([a7])) (B0:=w0.heap.size) rfl rfl X13 X0k X0s X1a aA (Rd.of_blk eS rfl _ eS.lt) (by simp only [maxLen];simp;omega) (by simp;omega) N.size) ?_;rintro _ mA ⟨aZ,b0,rfl,aI,hg,W⟩
   have L:Own _ w0.heap.size 114 3 encG _ _ ((((o.gs.take E.toNat)++([q,(bkG q)]))++(o.gs.drop E.toNat))++([(⟨12,0,0⟩ : Gt)])):=aA
   have hZ:=W _ eS.lt eA;have jF:=Apart.app m cS W;clear W;have D:=D.appT L hg rfl;have G:=G.appT L hg rfl;have H:=H.appT L hg rfl;have u:=u.appT L hg rfl;have p:=p.appT L hg rfl;have i:=i.appB L hg (Nat.le_refl _);have m:=m.appP hg cS;have N:=Kept.app N L hg (Nat.le_refl _) N.size;clear L hg;refine Yo 9 rfl (fun _=>Vd rfl X0y 1)<|Y1 10 ?_;refine Yh rfl trivial rfl (Vu (vs:=[.slice aZ (((((o.gs.take E.toNat)++([q,(bkG q)]))++(o.gs.drop E.toNat))++([(⟨12,0,0⟩ : Gt)]))++([a7])).length b0]) (l':=[vi o.n,.slice aZ (((((o.gs.take E.toNat)++([q,(bkG q)]))++(o.gs.drop E.toNat))++([(⟨12,0,0⟩ : Gt)]))++([a7])).length b0]) rfl rfl X6v p) ?_;rintro _ mB ⟨J,hb⟩;have y:=p;have D:=D.only J (Blk.ne D y rfl);have G:=G.only J (by omega);have H:=H.only J (by omega);have u:=u.only J (by omega);have i:=i.only J aD;have m:=m.onlyT J y rfl;have aI:=aI.onlyT J y rfl;have N:=Kept.only N J aD;have p:=hb;refine Yd fun a hf=>?_;refine fE _ _<|wp_seq_k fun _ jG=>?_;refine X0i (fun a w=>Fr a 72 [(2,.pointer (some ⟨b4,0,none⟩)),(3,.pointer (some ⟨b6,0,none⟩))]∧Blk w bV 69 [.slice aK aC.length aR,vi (cW:Int),.int .u64 cX]∧Blk w b4 48 [vi o.n,.slice a8 o.gs.length aB]∧Blk w b6 48 [vi o.n,.slice aZ (((((o.gs.take E.toNat)++([q,(bkG q)]))++(o.gs.drop E.toNat))++([(⟨12,0,0⟩ : Gt)]))++([a7])).length b0]∧Blk w b10 48 [vi o.n,.slice a8 o.gs.length aB]∧Blk w b14 48 [vi o.n,.slice aZ (((((o.gs.take E.toNat)++([q,(bkG q)]))++(o.gs.drop E.toNat))++([(⟨12,0,0⟩ : Gt)]))++([a7])).length b0]∧Rd w w0.heap.size dD encU aK aC∧Own w w0.heap.size 114 3 encG a8 aB o.gs∧Own w w0.heap.size 114 3 encG aZ b0 (((((o.gs.take E.toNat)++([q,(bkG q)]))++(o.gs.drop E.toNat))++([(⟨12,0,0⟩ : Gt)]))++([a7]))∧Kept bV w0.heap.size w0 w) ?_ ?_
   ·refine Xp none (fun j=>[2,3].contains j) mixed ?_;intro mC C;have D:=D.below C;have G:=G.below C;have H:=H.below C;have u:=u.below C;have p:=p.below C;have i:=i.below C;have m:=m.below C;have aI:=aI.below C;have N:=ktr N C;refine Yb hf<|Ye 0 rfl (Vn X1e u) ?_;refine Y2 1 2 ?_ ?_
    ·refine Yz rfl trivial (Uev (X04 (l:=[vi o.n,.slice aZ (((((o.gs.take E.toNat)++([q,(bkG q)]))++(o.gs.drop E.toNat))++([(⟨12,0,0⟩ : Gt)]))++([a7])).length b0]) rfl X1e (p.at 0) rfl)) ?_;refine Y1 2<|Yh rfl trivial rfl (Vw [vi o.n,.slice a8 o.gs.length aB] X1i G) ?_;rintro _ mD ⟨J,hb⟩;have y:=G;have D:=D.only J (Blk.ne D y rfl);have H:=H.only J (by omega);have u:=u.only J (by omega);have p:=p.only J (by omega);have i:=i.only J aG;have m:=m.onlyT J y rfl;have aI:=aI.onlyT J y rfl;have N:=Kept.only N J aG;have G:=hb;refine Y1 3<|Yh rfl trivial rfl (Vw [vi o.n,.slice aZ (((((o.gs.take E.toNat)++([q,(bkG q)]))++(o.gs.drop E.toNat))++([(⟨12,0,0⟩ : Gt)]))++([a7])).length b0] X1i H) ?_;rintro _ mE ⟨J,hb⟩;have y:=H;have D:=D.only J (Blk.ne D y rfl);have G:=G.only J (by omega);have u:=u.only J (by omega);have p:=p.only J (by omega);have i:=i.only J aH;have m:=m.onlyT J y rfl;have aI:=aI.onlyT J y rfl;have N:=Kept.only N J aH;have H:=hb;refine Yd fun a hf=>?_;exact ⟨hf.sb,D,G,H,u,p,i,m,aI,N⟩
    refine Yh rfl trivial rfl (Vw [vi o.n,.slice a8 o.gs.length aB] X1i G) ?_;rintro _ mF ⟨J,hb⟩;have y:=G;have D:=D.only J (Blk.ne D y rfl);have H:=H.only J (by omega);have u:=u.only J (by omega);have p:=p.only J (by omega);have i:=i.only J aG;have m:=m.onlyT J y rfl;have aI:=aI.onlyT J y rfl;have N:=Kept.only N J aG;have G:=hb;refine Y1 1<|Yz rfl trivial (Uev (X04 (l:=[vi o.n,.slice aZ (((((o.gs.take E.toNat)++([q,(bkG q)]))++(o.gs.drop E.toNat))++([(⟨12,0,0⟩ : Gt)]))++([a7])).length b0]) rfl X1e (p.at 0) rfl)) ?_;refine Y1 3<|Yh rfl trivial rfl (Vw [vi o.n,.slice aZ (((((o.gs.take E.toNat)++([q,(bkG q)]))++(o.gs.drop E.toNat))++([(⟨12,0,0⟩ : Gt)]))++([a7])).length b0] X1i H) ?_;rintro _ mG ⟨J,hb⟩;have y:=H;have D:=D.only J (Blk.ne D y rfl);have G:=G.only J (by omega);have u:=u.only J (by omega);have p:=p.only J (by omega);have i:=i.only J aH;have m:=m.onlyT J y rfl;have aI:=aI.onlyT J y rfl;have N:=Kept.only N J aH;have H:=hb;refine Yd fun a hf=>?_;exact ⟨hf.sb,D,G,H,u,p,i,m,aI,N⟩
   rintro a mH ⟨hf,D,G,H,u,p,i,m,aI,N⟩;refine jG _ _ ?_
   refine wp_ret (X7 hf (X2l hf rfl (ResV.cellN (l:=[vi o.n,.slice a8 o.gs.length aB]) rfl X1e (G.at 0) rfl) (ResV.cellN (l:=[vi o.n,.slice aZ (((((o.gs.take E.toNat)++([q,(bkG q)]))++(o.gs.drop E.toNat))++([(⟨12,0,0⟩ : Gt)]))++([a7])).length b0]) rfl X1e (H.at 0) rfl)) ?_)
   exact ⟨⟨o.n,o.gs⟩,a8,aB,⟨o.n,((((o.gs.take E.toNat)++([q,(bkG q)]))++(o.gs.drop E.toNat))++([(⟨12,0,0⟩ : Gt)]))++([a7])⟩,aZ,b0,_,_,rfl,⟨(by dsimp only;omega),rfl,(by dsimp only;omega),(by dsimp only;simp;omega),aN.2.2,(by show AllG o.n _;repeat' first|exact aN.2.2|exact AllG.nil _|exact AllG.one aS|exact AllG.one (Xmy (by omega) rfl)|exact AllG.cons aO (AllG.one (X8s aO))|apply AllG.app|apply AllG.take|apply AllG.drop)⟩,⟨by omega,by omega⟩,m,aI,N,D⟩
  have fV:=eR;refine wp_skip<|fE _ _<|wp_seq_k fun _ jH=>?_;refine X0i (fun a w=>Fr a 72 [(2,.pointer (some ⟨b4,0,none⟩)),(3,.pointer (some ⟨b6,0,none⟩))]∧Blk w bV 69 [.slice aK aC.length aR,vi (cU:Int),.int .u64 cV]∧Blk w b4 48 [vi o.n,.slice a8 o.gs.length aB]∧Blk w b6 48 [vi o.n,.slice aX ((((o.gs.take E.toNat)++([q,(bkG q)]))++(o.gs.drop E.toNat))++([(⟨12,0,0⟩ : Gt)])).length aY]∧Blk w b10 48 [vi o.n,.slice a8 o.gs.length aB]∧Blk w b14 48 [vi o.n,.slice aX ((((o.gs.take E.toNat)++([q,(bkG q)]))++(o.gs.drop E.toNat))++([(⟨12,0,0⟩ : Gt)])).length aY]∧Rd w w0.heap.size dD encU aK aC∧Own w w0.heap.size 114 3 encG a8 aB o.gs∧Own w w0.heap.size 114 3 encG aX aY ((((o.gs.take E.toNat)++([q,(bkG q)]))++(o.gs.drop E.toNat))++([(⟨12,0,0⟩ : Gt)]))∧Kept bV w0.heap.size w0 w) ?_ ?_
  ·refine Xp none (fun j=>[2,3].contains j) mixed ?_;intro mI C;have D:=D.below C;have G:=G.below C;have H:=H.below C;have u:=u.below C;have p:=p.below C;have i:=i.below C;have m:=m.below C;have aA:=aA.below C;have N:=ktr N C;refine Yb hf<|Ye 0 rfl (Vn X1e u) ?_;refine Y2 1 2 ?_ ?_
   ·refine Yz rfl trivial (Uev (X04 (l:=[vi o.n,.slice aX ((((o.gs.take E.toNat)++([q,(bkG q)]))++(o.gs.drop E.toNat))++([(⟨12,0,0⟩ : Gt)])).length aY]) rfl X1e (p.at 0) rfl)) ?_;refine Y1 2<|Yh rfl trivial rfl (Vw [vi o.n,.slice a8 o.gs.length aB] X1i G) ?_;rintro _ mJ ⟨J,hb⟩;have y:=G;have D:=D.only J (Blk.ne D y rfl);have H:=H.only J (by omega);have u:=u.only J (by omega);have p:=p.only J (by omega);have i:=i.only J aG;have m:=m.onlyT J y rfl;have aA:=aA.onlyT J y rfl;have N:=Kept.only N J aG;have G:=hb;refine Y1 3<|Yh rfl trivial rfl (Vw [vi o.n,.slice aX ((((o.gs.take E.toNat)++([q,(bkG q)]))++(o.gs.drop E.toNat))++([(⟨12,0,0⟩ : Gt)])).length aY] X1i H) ?_;rintro _ mK ⟨J,hb⟩;have y:=H;have D:=D.only J (Blk.ne D y rfl);have G:=G.only J (by omega);have u:=u.only J (by omega);have p:=p.only J (by omega);have i:=i.only J aH;have m:=m.onlyT J y rfl;have aA:=aA.onlyT J y rfl;have N:=Kept.only N J aH;have H:=hb;refine Yd fun a hf=>?_;exact ⟨hf.sb,D,G,H,u,p,i,m,aA,N⟩
   refine Yh rfl trivial rfl (Vw [vi o.n,.slice a8 o.gs.length aB] X1i G) ?_;rintro _ mL ⟨J,hb⟩;have y:=G;have D:=D.only J (Blk.ne D y rfl);have H:=H.only J (by omega);have u:=u.only J (by omega);have p:=p.only J (by omega);have i:=i.only J aG;have m:=m.onlyT J y rfl;have aA:=aA.onlyT J y rfl;have N:=Kept.only N J aG;have G:=hb;refine Y1 1<|Yz rfl trivial (Uev (X04 (l:=[vi o.n,.slice aX ((((o.gs.take E.toNat)++([q,(bkG q)]))++(o.gs.drop E.toNat))++([(⟨12,0,0⟩ : Gt)])).length aY]) rfl X1e (p.at 0) rfl)) ?_;refine Y1 3<|Yh rfl trivial rfl (Vw [vi o.n,.slice aX ((((o.gs.take E.toNat)++([q,(bkG q)]))++(o.gs.drop E.toNat))++([(⟨12,0,0⟩ : Gt)])).length aY] X1i H) ?_;rintro _ mM ⟨J,hb⟩;have y:=H;have D:=D.only J (Blk.ne D y rfl);have G:=G.only J (by omega);have u:=u.only J (by omega);have p:=p.only J (by omega);have i:=i.only J aH;have m:=m.onlyT J y rfl;have aA:=aA.onlyT J y rfl;have N:=Kept.only N J aH;have H:=hb;refine Yd fun a hf=>?_;exact ⟨hf.sb,D,G,H,u,p,i,m,aA,N⟩
  rintro a mN ⟨hf,D,G,H,u,p,i,m,aA,N⟩;refine jH _ _ ?_
  refine wp_ret (X7 hf (X2l hf rfl (ResV.cellN (l:=[vi o.n,.slice a8 o.gs.length aB]) rfl X1e (G.at 0) rfl) (ResV.cellN (l:=[vi o.n,.slice aX ((((o.gs.take E.toNat)++([q,(bkG q)]))++(o.gs.drop E.toNat))++([(⟨12,0,0⟩ : Gt)])).length aY]) rfl X1e (H.at 0) rfl)) ?_)
  exact ⟨⟨o.n,o.gs⟩,a8,aB,⟨o.n,(((o.gs.take E.toNat)++([q,(bkG q)]))++(o.gs.drop E.toNat))++([(⟨12,0,0⟩ : Gt)])⟩,aX,aY,_,_,rfl,⟨(by dsimp only;omega),rfl,(by dsimp only;omega),(by dsimp only;simp;omega),aN.2.2,(by show AllG o.n _;repeat' first|exact aN.2.2|exact AllG.nil _|exact AllG.one aS|exact AllG.one (Xmy (by omega) rfl)|exact AllG.cons aO (AllG.one (X8s aO))|apply AllG.app|apply AllG.take|apply AllG.drop)⟩,⟨by omega,by omega⟩,m,aA,N,D⟩
 have fS:=eP;refine wp_skip<|fB _ _<|wp_seq_k fun _ fH=>?_;refine Zs hf fun _ jI=>?_;refine Zm rfl<|Zf (Vc (Xah _ bV aK aR aC i.top cF aP fC fD D 4 (by omega)) X5v) ?_;rintro _ mO ⟨jA,cU,cV,rfl,fT,fU,hK,aF⟩;obtain ⟨wm,hO,hm,C⟩:=hK.mid;clear hm;have y:=D;have G:=G.only hO (Blk.ne G y rfl);have H:=H.only hO (Blk.ne H y rfl);have u:=u.only hO (Blk.ne u y rfl);have p:=p.only hO (Blk.ne p y rfl);have i:=i.onlyA hO aP;have m:=m.onlyT hO y rfl;have a6:=a6.onlyT hO y rfl;have N:=N.self hO;have G:=G.below C;have H:=H.below C;have u:=u.below C;have p:=p.below C;have i:=i.below C;have m:=m.below C;have a6:=a6.below C;have N:=ktr N C
 clear y C hO hK;have D:=aF;clear aF;refine Zt jI fun a hf=>?_
 refine Xg hf rfl (fun eT=>?_) (fun eT=>?_)
 ·have fW:=eT;refine Xp (some bV) (fun j=>[8,10].contains j) mixed ?_;intro mP C;have D:=D.below C;have G:=G.below C;have H:=H.below C;have u:=u.below C;have p:=p.below C;have i:=i.below C;have m:=m.below C;have a6:=a6.below C;have N:=ktr N C;refine Yb hf<|Yo 0 rfl (fun _=>Vd rfl X0y 1) ?_;refine Yw 1 rfl trivial (fun w1 h1=>X0 rfl X35 ((p.only h1 (Blk.ne p D rfl)).at 1)) ?_;refine Yo 2 rfl (fun _=>Xd rfl)<|Yo 3 rfl (fun _=>Vd rfl X33 0) ?_;refine Yw 4 rfl trivial (fun w1 h1=>X0 rfl X2 ((p.only h1 (Blk.ne p D rfl)).at 0)) ?_;refine Y1 5<|Yf rfl trivial (EfW.mono (X5 (k:=3) (vs:=[vi 4,vi 5,vi 7]) (zs:=[vi 4,vi 5,vi 7]) rfl X00 X32 rfl rfl) (fun _ _ h=>⟨fun _=>by obtain ⟨_,_,_,C,_⟩:=h;exact Keep.of_below C,h⟩)) ?_;rintro _ mQ ⟨jJ,rfl,fI,C,fJ⟩;have kL:=Nat.le_trans N.size fI;have jK:=i.away fI;have D:=D.below C;have G:=G.below C;have H:=H.below C;have u:=u.below C;have p:=p.below C;have i:=i.below C;have m:=m.below C;have a6:=a6.below C;have N:=ktr N C;refine Y1 6<|Yf rfl trivial (EfW.mono (X4k (vs:=[.pointer (some ⟨bV,0,none⟩),vi o.n,.slice (some ⟨jJ,0,none⟩) ([4,5,7]).length 3]) rfl X8i (Xhq _ bV aK aR aC i.top cF aP cU cV D o.n (some ⟨jJ,0,none⟩) 3 ([4,5,7]) (Rd.of_blk fJ rfl _ fJ.lt) (by omega) (by decide) (by simp) (by simp) (by omega))) (fun _ _ h=>⟨fun _=>by obtain ⟨a7,cW,cX,rfl,aS,cY,hK,aF⟩:=h;exact hK.keep,h⟩)) ?_;rintro _ mR ⟨a7,cW,cX,rfl,aS,cY,hK,aF⟩;obtain ⟨wm,hO,hm,C⟩:=hK.mid;clear hm;have y:=D;have G:=G.only hO (Blk.ne G y rfl)
  have H:=H.only hO (Blk.ne H y rfl);have u:=u.only hO (Blk.ne u y rfl);have p:=p.only hO (Blk.ne p y rfl);have i:=i.onlyA hO aP;have m:=m.onlyT hO y rfl;have a6:=a6.onlyT hO y rfl;have N:=N.self hO;have G:=G.below C;have H:=H.below C;have u:=u.below C;have p:=p.below C;have i:=i.below C;have m:=m.below C;have a6:=a6.below C;have N:=ktr N C
  clear y C hO hK;have D:=aF;clear aF;refine Y1 7<|Yf rfl trivial (EfW.mono (X5 (k:=1) (vs:=[.agg #[vi a7.k,vi a7.a,vi a7.b]]) (zs:=[vi a7.k,vi a7.a,vi a7.b]) rfl X13 X0k rfl rfl) (fun _ _ h=>⟨fun _=>by obtain ⟨_,_,_,C,_⟩:=h;exact Keep.of_below C,h⟩)) ?_;rintro _ mS ⟨mT,rfl,dC,C,eU⟩;have kM:=Nat.le_trans N.size dC;have jL:=i.away dC;have jM:=m.away dC;have eB:=a6.away dC;have D:=D.below C;have G:=G.below C;have H:=H.below C;have u:=u.below C;have p:=p.below C;have i:=i.below C;have m:=m.below C;have a6:=a6.below C;have N:=ktr N C;refine Y1 8<|Yt rfl trivial rfl (X0p (enc:=encG) (l:=(((o.gs.take E.toNat)++([q,(bkG q)]))++(o.gs.drop E.toNat))) (l2:=([a7])) (B0:=w0.heap.size) rfl rfl X13 X0k X0s X1a a6 (Rd.of_blk eU rfl _ eU.lt) (by simp only [maxLen];simp;omega) (by simp;omega) N.size) ?_;rintro _ mU ⟨b1,b2,rfl,aJ,hg,W⟩
  have L:Own _ w0.heap.size 114 3 encG _ _ (((o.gs.take E.toNat)++([q,(bkG q)]))++(o.gs.drop E.toNat)):=a6
  have i0:=W _ eU.lt eB;have jN:=Apart.app m aL W;clear W;have D:=D.appT L hg rfl;have G:=G.appT L hg rfl;have H:=H.appT L hg rfl;have u:=u.appT L hg rfl;have p:=p.appT L hg rfl;have i:=i.appB L hg (Nat.le_refl _);have m:=m.appP hg aL;have N:=Kept.app N L hg (Nat.le_refl _) N.size;clear L hg;refine Yo 9 rfl (fun _=>Vd rfl X0y 1)<|Y1 10 ?_;refine Yh rfl trivial rfl (Vu (vs:=[.slice b1 ((((o.gs.take E.toNat)++([q,(bkG q)]))++(o.gs.drop E.toNat))++([a7])).length b2]) (l':=[vi o.n,.slice b1 ((((o.gs.take E.toNat)++([q,(bkG q)]))++(o.gs.drop E.toNat))++([a7])).length b2]) rfl rfl X6v p) ?_;rintro _ mW ⟨J,hb⟩;have y:=p;have D:=D.only J (Blk.ne D y rfl);have G:=G.only J (by omega);have H:=H.only J (by omega);have u:=u.only J (by omega);have i:=i.only J aD;have m:=m.onlyT J y rfl;have aJ:=aJ.onlyT J y rfl;have N:=Kept.only N J aD;have p:=hb;refine Yd fun a hf=>?_;refine fH _ _<|wp_seq_k fun _ jO=>?_;refine X0i (fun a w=>Fr a 72 [(2,.pointer (some ⟨b4,0,none⟩)),(3,.pointer (some ⟨b6,0,none⟩))]∧Blk w bV 69 [.slice aK aC.length aR,vi (cW:Int),.int .u64 cX]∧Blk w b4 48 [vi o.n,.slice a8 o.gs.length aB]∧Blk w b6 48 [vi o.n,.slice b1 ((((o.gs.take E.toNat)++([q,(bkG q)]))++(o.gs.drop E.toNat))++([a7])).length b2]∧Blk w b10 48 [vi o.n,.slice a8 o.gs.length aB]∧Blk w b14 48 [vi o.n,.slice b1 ((((o.gs.take E.toNat)++([q,(bkG q)]))++(o.gs.drop E.toNat))++([a7])).length b2]∧Rd w w0.heap.size dD encU aK aC∧Own w w0.heap.size 114 3 encG a8 aB o.gs∧Own w w0.heap.size 114 3 encG b1 b2 ((((o.gs.take E.toNat)++([q,(bkG q)]))++(o.gs.drop E.toNat))++([a7]))∧Kept bV w0.heap.size w0 w) ?_ ?_
  ·refine Xp none (fun j=>[2,3].contains j) mixed ?_;intro mX C;have D:=D.below C;have G:=G.below C;have H:=H.below C;have u:=u.below C;have p:=p.below C;have i:=i.below C;have m:=m.below C;have aJ:=aJ.below C;have N:=ktr N C;refine Yb hf<|Ye 0 rfl (Vn X1e u) ?_;refine Y2 1 2 ?_ ?_
   ·refine Yz rfl trivial (Uev (X04 (l:=[vi o.n,.slice b1 ((((o.gs.take E.toNat)++([q,(bkG q)]))++(o.gs.drop E.toNat))++([a7])).length b2]) rfl X1e (p.at 0) rfl)) ?_;refine Y1 2<|Yh rfl trivial rfl (Vw [vi o.n,.slice a8 o.gs.length aB] X1i G) ?_;rintro _ mY ⟨J,hb⟩;have y:=G;have D:=D.only J (Blk.ne D y rfl);have H:=H.only J (by omega);have u:=u.only J (by omega);have p:=p.only J (by omega);have i:=i.only J aG;have m:=m.onlyT J y rfl;have aJ:=aJ.onlyT J y rfl;have N:=Kept.only N J aG;have G:=hb;refine Y1 3<|Yh rfl trivial rfl (Vw [vi o.n,.slice b1 ((((o.gs.take E.toNat)++([q,(bkG q)]))++(o.gs.drop E.toNat))++([a7])).length b2] X1i H) ?_;rintro _ n0 ⟨J,hb⟩;have y:=H;have D:=D.only J (Blk.ne D y rfl);have G:=G.only J (by omega);have u:=u.only J (by omega);have p:=p.only J (by omega);have i:=i.only J aH;have m:=m.onlyT J y rfl;have aJ:=aJ.onlyT J y rfl;have N:=Kept.only N J aH;have H:=hb;refine Yd fun a hf=>?_;exact ⟨hf.sb,D,G,H,u,p,i,m,aJ,N⟩
   refine Yh rfl trivial rfl (Vw [vi o.n,.slice a8 o.gs.length aB] X1i G) ?_;rintro _ n2 ⟨J,hb⟩;have y:=G;have D:=D.only J (Blk.ne D y rfl);have H:=H.only J (by omega);have u:=u.only J (by omega);have p:=p.only J (by omega);have i:=i.only J aG;have m:=m.onlyT J y rfl;have aJ:=aJ.onlyT J y rfl;have N:=Kept.only N J aG;have G:=hb;refine Y1 1<|Yz rfl trivial (Uev (X04 (l:=[vi o.n,.slice b1 ((((o.gs.take E.toNat)++([q,(bkG q)]))++(o.gs.drop E.toNat))++([a7])).length b2]) rfl X1e (p.at 0) rfl)) ?_;refine Y1 3<|Yh rfl trivial rfl (Vw [vi o.n,.slice b1 ((((o.gs.take E.toNat)++([q,(bkG q)]))++(o.gs.drop E.toNat))++([a7])).length b2] X1i H) ?_;rintro _ n3 ⟨J,hb⟩;have y:=H;have D:=D.only J (Blk.ne D y rfl);have G:=G.only J (by omega);have u:=u.only J (by omega);have p:=p.only J (by omega);have i:=i.only J aH;have m:=m.onlyT J y rfl;have aJ:=aJ.onlyT J y rfl;have N:=Kept.only N J aH;have H:=hb;refine Yd fun a hf=>?_;exact ⟨hf.sb,D,G,H,u,p,i,m,aJ,N⟩
  rintro a n4 ⟨hf,D,G,H,u,p,i,m,aJ,N⟩;refine jO _ _ ?_
  refine wp_ret (X7 hf (X2l hf rfl (ResV.cellN (l:=[vi o.n,.slice a8 o.gs.length aB]) rfl X1e (G.at 0) rfl) (ResV.cellN (l:=[vi o.n,.slice b1 ((((o.gs.take E.toNat)++([q,(bkG q)]))++(o.gs.drop E.toNat))++([a7])).length b2]) rfl X1e (H.at 0) rfl)) ?_)
  exact ⟨⟨o.n,o.gs⟩,a8,aB,⟨o.n,(((o.gs.take E.toNat)++([q,(bkG q)]))++(o.gs.drop E.toNat))++([a7])⟩,b1,b2,_,_,rfl,⟨(by dsimp only;omega),rfl,(by dsimp only;omega),(by dsimp only;simp;omega),aN.2.2,(by show AllG o.n _;repeat' first|exact aN.2.2|exact AllG.nil _|exact AllG.one aS|exact AllG.one (Xmy (by omega) rfl)|exact AllG.cons aO (AllG.one (X8s aO))|apply AllG.app|apply AllG.take|apply AllG.drop)⟩,⟨by omega,by omega⟩,m,aJ,N,D⟩
 have fW:=eT;refine wp_skip<|fH _ _<|wp_seq_k fun _ jP=>?_;refine X0i (fun a w=>Fr a 72 [(2,.pointer (some ⟨b4,0,none⟩)),(3,.pointer (some ⟨b6,0,none⟩))]∧Blk w bV 69 [.slice aK aC.length aR,vi (cU:Int),.int .u64 cV]∧Blk w b4 48 [vi o.n,.slice a8 o.gs.length aB]∧Blk w b6 48 [vi o.n,.slice aM (((o.gs.take E.toNat)++([q,(bkG q)]))++(o.gs.drop E.toNat)).length aQ]∧Blk w b10 48 [vi o.n,.slice a8 o.gs.length aB]∧Blk w b14 48 [vi o.n,.slice aM (((o.gs.take E.toNat)++([q,(bkG q)]))++(o.gs.drop E.toNat)).length aQ]∧Rd w w0.heap.size dD encU aK aC∧Own w w0.heap.size 114 3 encG a8 aB o.gs∧Own w w0.heap.size 114 3 encG aM aQ (((o.gs.take E.toNat)++([q,(bkG q)]))++(o.gs.drop E.toNat))∧Kept bV w0.heap.size w0 w) ?_ ?_
 ·refine Xp none (fun j=>[2,3].contains j) mixed ?_;intro n5 C;have D:=D.below C;have G:=G.below C;have H:=H.below C;have u:=u.below C;have p:=p.below C;have i:=i.below C;have m:=m.below C;have a6:=a6.below C;have N:=ktr N C;refine Yb hf<|Ye 0 rfl (Vn X1e u) ?_;refine Y2 1 2 ?_ ?_
  ·refine Yz rfl trivial (Uev (X04 (l:=[vi o.n,.slice aM (((o.gs.take E.toNat)++([q,(bkG q)]))++(o.gs.drop E.toNat)).length aQ]) rfl X1e (p.at 0) rfl)) ?_;refine Y1 2<|Yh rfl trivial rfl (Vw [vi o.n,.slice a8 o.gs.length aB] X1i G) ?_;rintro _ n7 ⟨J,hb⟩;have y:=G;have D:=D.only J (Blk.ne D y rfl);have H:=H.only J (by omega);have u:=u.only J (by omega);have p:=p.only J (by omega);have i:=i.only J aG;have m:=m.onlyT J y rfl;have a6:=a6.onlyT J y rfl;have N:=Kept.only N J aG;have G:=hb;refine Y1 3<|Yh rfl trivial rfl (Vw [vi o.n,.slice aM (((o.gs.take E.toNat)++([q,(bkG q)]))++(o.gs.drop E.toNat)).length aQ] X1i H) ?_;rintro _ n8 ⟨J,hb⟩;have y:=H;have D:=D.only J (Blk.ne D y rfl);have G:=G.only J (by omega);have u:=u.only J (by omega);have p:=p.only J (by omega);have i:=i.only J aH;have m:=m.onlyT J y rfl;have a6:=a6.onlyT J y rfl;have N:=Kept.only N J aH;have H:=hb;refine Yd fun a hf=>?_;exact ⟨hf.sb,D,G,H,u,p,i,m,a6,N⟩
  refine Yh rfl trivial rfl (Vw [vi o.n,.slice a8 o.gs.length aB] X1i G) ?_;rintro _ n9 ⟨J,hb⟩;have y:=G;have D:=D.only J (Blk.ne D y rfl);have H:=H.only J (by omega);have u:=u.only J (by omega);have p:=p.only J (by omega);have i:=i.only J aG;have m:=m.onlyT J y rfl;have a6:=a6.onlyT J y rfl;have N:=Kept.only N J aG;have G:=hb;refine Y1 1<|Yz rfl trivial (Uev (X04 (l:=[vi o.n,.slice aM (((o.gs.take E.toNat)++([q,(bkG q)]))++(o.gs.drop E.toNat)).length aQ]) rfl X1e (p.at 0) rfl)) ?_;refine Y1 3<|Yh rfl trivial rfl (Vw [vi o.n,.slice aM (((o.gs.take E.toNat)++([q,(bkG q)]))++(o.gs.drop E.toNat)).length aQ] X1i H) ?_;rintro _ nA ⟨J,hb⟩;have y:=H;have D:=D.only J (Blk.ne D y rfl);have G:=G.only J (by omega);have u:=u.only J (by omega);have p:=p.only J (by omega);have i:=i.only J aH;have m:=m.onlyT J y rfl;have a6:=a6.onlyT J y rfl;have N:=Kept.only N J aH;have H:=hb;refine Yd fun a hf=>?_;exact ⟨hf.sb,D,G,H,u,p,i,m,a6,N⟩
 rintro a nB ⟨hf,D,G,H,u,p,i,m,a6,N⟩;refine jP _ _ ?_
 refine wp_ret (X7 hf (X2l hf rfl (ResV.cellN (l:=[vi o.n,.slice a8 o.gs.length aB]) rfl X1e (G.at 0) rfl) (ResV.cellN (l:=[vi o.n,.slice aM (((o.gs.take E.toNat)++([q,(bkG q)]))++(o.gs.drop E.toNat)).length aQ]) rfl X1e (H.at 0) rfl)) ?_)
 exact ⟨⟨o.n,o.gs⟩,a8,aB,⟨o.n,((o.gs.take E.toNat)++([q,(bkG q)]))++(o.gs.drop E.toNat)⟩,aM,aQ,_,_,rfl,⟨(by dsimp only;omega),rfl,(by dsimp only;omega),(by dsimp only;simp;omega),aN.2.2,(by show AllG o.n _;repeat' first|exact aN.2.2|exact AllG.nil _|exact AllG.one aS|exact AllG.one (Xmy (by omega) rfl)|exact AllG.cons aO (AllG.one (X8s aO))|apply AllG.app|apply AllG.take|apply AllG.drop)⟩,⟨by omega,by omega⟩,m,a6,N,D⟩
theorem Xvq(w0:World)(m:Int)(hm:Mk m) : Ret Tryz.prog 89 [vi m] w0 (fun v w=>v=vi ((szI m % 2:Nat) : Int)∧w0=w):=by
 have a8:=hm.1;have aA:=hm.2;refine enter Tryz.func89 rfl 7 rfl rfl ?_;intro a hf
 have hW:=bz w0
 refine Zs hf fun _ a6=>?_;refine Za rfl<|Zx a6 fun a hf _ a7=>?_;refine Zm rfl<|Ze (X2x (m:=m.toNat) Tryz.underlying3 Tryz.underlying109 rfl (by omega) (by omega))<|Zf (Vc (Xsf _ m.toNat (by omega)) Xgk) ?_;rintro _ _ ⟨rfl,rfl⟩;refine Ze (Vx (X5c rfl rfl rfl) (show _=((szI m % 2:Nat) : Int) from (by rw [Xkq (show m.toNat<2^24 by omega)];rfl)))<|Za rfl<|Zt a7 fun a hf=>?_
 refine wp_ret (X7 hf (X03 hf rfl rfl) ?_)
 exact ⟨rfl,rfl⟩
theorem Xx6(A:World)(p:Ps)(Ap:Option Addr)(cp:Nat)(E:Rd A A.heap.size 59 encT Ap p.ts)(Bp:Option Addr)(dp:Nat)(G:Rd A A.heap.size 62 encA Bp p.out)(x:Nat)(a6:validP p=true)(hx:x<1024) : Ret Tryz.prog 43 [.agg #[vi p.ins,vi p.vars,vi p.root,vi p.phase,.slice Ap p.ts.length cp,.slice Bp p.out.length dp],vi (x:Int)] A (fun v w=>v=.tuple #[vi ((rowP p x:Nat) : Int),vi (powP p x % 8)]∧Below A.heap.size A w):=by
 have hV:=VPs.of a6;have hR:=VPr.of a6;have bC:=hV.ph;have bD:=hR.len;obtain ⟨n,v9,aX,bE,bF,bA,bG,bH,bJ,bK⟩:=X3k a6;refine enter Tryz.func43 rfl 55 rfl rfl ?_;intro a b
 have f:=bz A
 refine Zs b fun _ aY=>?_;refine Zf (X1b (zs:=[vi p.ins,vi p.vars,vi p.root,vi p.phase,.slice Ap p.ts.length cp,.slice Bp p.out.length dp]) rfl rfl) ?_;rintro _ w1 ⟨b4,rfl,aZ,D,g⟩;have bB:=Nat.le_trans f.size aZ;have f:=btr f D;refine Za rfl<|Za rfl<|Zx aY fun a b _ b0=>?_;refine Ze (Vd rfl X0h 3)<|Ze (Vx (X0 rfl X2 (g.at 3)) (Xni p x).symm)<|Za rfl<|Za rfl<|ZX b0 fun a b _ b1=>?_;refine Zs b fun _ b2=>?_;refine Ze (Vd rfl Xt 4)<|Ze (X0 rfl X02 (g.at 4))<|Ze (X10 rfl Xk)<|Zm rfl<|Zt b2 fun a b=>?_;refine wp_block<|Xw (σ:=Nat) (fun (k:Nat) (a:Act) (w:World)=>Fr a 55 [(1,vi (x:Int)),(2,.pointer (some ⟨b4,0,none⟩)),(6,vi (powK p x k)),(7,vi 0),(15,.slice Ap p.ts.length cp),(16,vi (p.ts.length:Int)),(17,vi (k:Int))]∧(k≤p.ts.length)∧(0≤powK p x k∧powK p x k≤7+7*k)∧Blk w b4 26 [vi p.ins,vi p.vars,vi p.root,vi p.phase,.slice Ap p.ts.length cp,.slice Bp p.out.length dp]∧Below A.heap.size A w) (fun (k:Nat)=>p.ts.length-k) 0 ?_ ?_
 ·exact ⟨b.sb,(Nat.zero_le _),(by rw [Xni];omega),g,f⟩
 rintro k a w2 ⟨b,hk,b3,g,f⟩;refine Zs b fun _ b5=>?_;refine Ze (X1h rfl rfl)<|ZX b5 fun a b _ b6=>?_
 refine Xg b rfl (fun d=>?_) (fun d=>?_)
 ·have a7:=d;have d:=of_decide_eq_true d
  obtain ⟨B,q⟩:=Xj (l:=p.ts) (k:=k) (by omega)
  have aH:=hV.ts.mks _ (List.mem_of_getElem? q);have bL:=hV.ts.all _ (List.mem_of_getElem? q)
  have bM:k<p.ts.length:=by have:=d;omega
  refine wp_skip<|b6 _ _<|wp_seq_k fun _ H=>?_;refine wp_block<|Zs b fun _ aI=>?_;refine Zi (k:=k) (u:=B) (enc:=encT) (l:=p.ts) trivial rfl rfl Xk X0o Xx (E.below' f) q rfl ?_;intro bN a8;refine Ze (X04 (l:=[vi B.m,vi B.c]) rfl X2t a8 rfl)<|Zf (X4 (zs:=[vi 0,vi 0]) X4i rfl) ?_;rintro _ w3 ⟨bO,rfl,I,D,o⟩;have aA:=Nat.le_trans f.size I;have aJ:=(E.below' f).away I;have g:=g.below D;have f:=btr f D;refine Zo (Vw [vi B.m,vi B.c] X0o o) ?_;rintro _ w4 ⟨ho,hb⟩;have J:=o;have g:=g.only ho (Blk.ne g J rfl);have f:=Below.only f ho aA;have o:=hb;refine Zx aI fun a b _ aK=>?_;refine Zm rfl<|Ze (Vd rfl X09 0)<|Ze (X0 rfl X2 (o.at 0))<|Ze (X5b rfl rfl)<|Ze (Vd rfl X09 0) ?_;refine Ze (X0 rfl X2 (o.at 0))<|Ze (X0x rfl rfl)<|Zt aK fun a b=>?_
  refine Xg b rfl (fun y=>?_) (fun y=>?_)
  ·have aB:=y;have aC:=Xxs hx aH y;have aD:=Xuy q aC;refine Zr b<|Zm rfl<|Ze (Vd rfl X1c 1)<|Ze (X0 rfl X2 (o.at 1))<|Ze (X36 (k:=(powK p x (k+1))) rfl rfl aD (by omega) (by omega))<|Za rfl ?_;refine Zn fun a b=>?_;refine Xa<|H _ _<|Zr b<|Ze (Xm rfl rfl (by omega) (by omega))<|Zm rfl ?_;refine Zn fun a b=>?_;refine Xb ?_;exact ⟨k+1,⟨b.sb,(by omega),(by omega),g,f⟩,(by omega)⟩
  have aB:=y;have aC:=Xvx hx aH y;have aD:=Xuc q aC
  rw [aD] at b
  refine wp_skip<|Xa<|H _ _<|Zr b ?_;refine Ze (Xm rfl rfl (by omega) (by omega))<|Zm rfl ?_;refine Zn fun a b=>?_;refine Xb ?_;exact ⟨k+1,⟨b.sb,(by omega),(by omega),g,f⟩,(by omega)⟩
 have a7:=d;have d:=of_decide_eq_false d
 have aL:p.ts.length≤k:=by have:=d;omega
 have b7:0≤powP p x:=by rw [← Xdy p x aL];exact b3.1
 refine wp_exit<|Xe<|Xe<|Xq ?_;refine b1 _ _<|wp_seq_k fun _ aM=>?_;refine Zs b fun _ aN=>?_;refine Ze (Vd rfl Xl 5)<|Ze (X0 rfl Xy (g.at 5))<|Ze (X10 rfl Xn)<|Zm rfl<|Zt aN fun a b=>?_;refine wp_block<|Xw (σ:=Nat) (fun (j:Nat) (a:Act) (w:World)=>Fr a 55 [(1,vi (x:Int)),(6,vi (powK p x k)),(7,vi ((rowQ p x j:Nat) : Int)),(34,.slice Bp p.out.length dp),(35,vi (p.out.length:Int)),(36,vi (j:Int))]∧(j≤p.out.length)∧Below A.heap.size A w) (fun (j:Nat)=>p.out.length-j) 0 ?_ ?_
 ·exact ⟨b.sb,(Nat.zero_le _),f⟩
 rintro j a w5 ⟨b,hj,f⟩;refine Zs b fun _ aO=>?_;refine Ze (X1h rfl rfl)<|ZX aO fun a b _ aP=>?_
 refine Xg b rfl (fun e=>?_) (fun e=>?_)
 ·have aE:=e;have e:=of_decide_eq_true e
  obtain ⟨h,C⟩:=Xj (l:=p.out) (k:=j) (by omega)
  have aQ:=hV.out _ (List.mem_of_getElem? C)
  have bP:j<p.out.length:=by have:=e;omega
  have b8:=Xbe p x j
  have aR:rowQ p x j<32:=Nat.lt_of_lt_of_le b8 (Nat.pow_le_pow_right (n:=2) (by decide) (show j≤5 by omega))
  refine wp_skip<|aP _ _<|wp_seq_k fun _ aS=>?_;refine wp_block<|Zs b fun _ aT=>?_;refine Zi (k:=j) (u:=h) (enc:=encA) (l:=p.out) trivial rfl rfl Xn Xu X06 (G.below' f) C rfl ?_;intro bR aF;refine Ze (X04 (l:=[vi h.m,vi h.t]) rfl X08 aF rfl)<|Zf (X4 (zs:=[vi 0,vi 0]) X0v rfl) ?_;rintro _ w6 ⟨bS,rfl,L,D,i⟩;have aG:=Nat.le_trans f.size L;have aU:=(G.below' f).away L;have f:=btr f D;refine Zo (Vw [vi h.m,vi h.t] Xu i) ?_;rintro _ w7 ⟨ho,hb⟩;have J:=i;have f:=Below.only f ho aG;have i:=hb;refine Zt aT fun a b=>?_;refine Xp none (fun _=>false) mixed ?_;intro w8 D;have i:=i.below D;have f:=btr f D;refine Yb b<|Yo 0 rfl (fun _=>Xd rfl)<|Yo 1 rfl (fun _=>X37 rfl rfl (by omega) (by omega))<|Yo 2 rfl (fun _=>Xd rfl)<|Yo 3 rfl (fun _=>Vd rfl X0b 0)<|Ye 4 rfl (X0 rfl X2 (i.at 0)) ?_;refine Yo 5 rfl (fun _=>Vx (X5b rfl rfl) (Xmt hx aQ.1.1))<|Yo 8 rfl (fun _=>Vd rfl X0t 1)<|Ye 9 rfl (X0 rfl X2 (i.at 1))<|Y1 6 ?_;refine Yz rfl trivial (Vc (Xvq _ ((x &&& h.m.toNat:Nat) : Int) (Xu5 hx)) Xqa) ?_;refine Yo 7 rfl (fun _=>X36 (k:=((2*rowQ p x j+szI ((x &&& h.m.toNat:Nat) : Int) % 2:Nat) : Int)) rfl rfl (by omega) (by omega) (by omega))<|Yo 10 rfl (fun _=>Vx (X6h rfl rfl) (Xkj C aQ.1 aR))<|Yo 11 rfl (fun _=>X31 rfl) ?_;refine Yd fun a b=>?_;refine Xa<|aS _ _<|Zr b<|Ze (Xm rfl rfl (by omega) (by omega))<|Zm rfl ?_;refine Zn fun a b=>?_;refine Xb ?_;exact ⟨j+1,⟨b.sb,(by omega),f⟩,(by omega)⟩
 have aE:=e;have e:=of_decide_eq_false e
 have b9:j=n:=by have:=e;omega
 refine wp_exit<|Xe<|Xe<|Xq ?_;refine aM _ _<|Zs b fun _ aW=>?_;refine Zm rfl<|Zm rfl<|Ze (Vx (X5c rfl rfl rfl) (show _=(powP p x % 8) from (by rw [Xdy p x aL];exact X8r b7)))<|Za rfl<|Za rfl ?_;refine Zt aW fun a b=>?_
 refine wp_ret (X7 b (X2l b rfl rfl rfl) ?_)
 exact ⟨by rw [b9,Xcu aX],f⟩
theorem Xwy(w0:World)(u:Oc)(e:∀ k,k<8→0≤u.f k∧u.f k≤1024) : Ret Tryz.prog 47 [.agg #[vi (u.f 0),vi (u.f 1),vi (u.f 2),vi (u.f 3),vi (u.f 4),vi (u.f 5),vi (u.f 6),vi (u.f 7)]] w0 (fun v w=>v=rV (oSum u)∧Below w0.heap.size w0 w):=by
 have h0:=e 0 (by decide)
 have h1:=e 1 (by decide)
 have h2:=e 2 (by decide)
 have h3:=e 3 (by decide)
 have h4:=e 4 (by decide)
 have h5:=e 5 (by decide)
 have h6:=e 6 (by decide)
 have h7:=e 7 (by decide)
 refine enter Tryz.func47 rfl 24 rfl rfl ?_;intro a hf
 have c:=bz w0
 refine Zs hf fun _ a7=>?_;refine Zf (X1b (zs:=[vi (u.f 0),vi (u.f 1),vi (u.f 2),vi (u.f 3),vi (u.f 4),vi (u.f 5),vi (u.f 6),vi (u.f 7)]) rfl rfl) ?_;rintro _ w1 ⟨b2,rfl,a8,hE,b⟩;have aC:=Nat.le_trans c.size a8;have c:=btr c hE;refine Zf (X4 (zs:=[vi 0,vi 0,vi 0,vi 0]) Xee rfl) ?_;rintro _ w2 ⟨b3,rfl,aA,hE,d⟩;have a6:=Nat.le_trans c.size aA;have b:=b.below hE;have c:=btr c hE;refine Zx a7 fun a hf _ aB=>?_;refine Ze (X2f (k:=0) (sz:=1) rfl rfl Tryz.underlying85 X0l rfl (by decide) (m:=0) rfl)<|Ze (X0 rfl X2 (b.at 0))<|Ze (X2f (k:=4) (sz:=1) rfl rfl Tryz.underlying85 X0l rfl (by decide) (m:=4) rfl)<|Ze (X0 rfl X2 (b.at 4))<|Ze (X11 rfl rfl (by omega) (by omega)) ?_;refine Ze (X2f (k:=1) (sz:=1) rfl rfl Tryz.underlying85 X0l rfl (by decide) (m:=1) rfl)<|Ze (X0 rfl X2 (b.at 1))<|Ze (X2f (k:=5) (sz:=1) rfl rfl Tryz.underlying85 X0l rfl (by decide) (m:=5) rfl)<|Ze (X0 rfl X2 (b.at 5))<|Ze (X11 rfl rfl (by omega) (by omega)) ?_;refine Ze (X2f (k:=2) (sz:=1) rfl rfl Tryz.underlying85 X0l rfl (by decide) (m:=2) rfl)<|Ze (X0 rfl X2 (b.at 2))<|Ze (X2f (k:=6) (sz:=1) rfl rfl Tryz.underlying85 X0l rfl (by decide) (m:=6) rfl)<|Ze (X0 rfl X2 (b.at 6))<|Ze (X11 rfl rfl (by omega) (by omega)) ?_;refine Ze (X2f (k:=3) (sz:=1) rfl rfl Tryz.underlying85 X0l rfl (by decide) (m:=3) rfl)<|Ze (X0 rfl X2 (b.at 3))<|Ze (X2f (k:=7) (sz:=1) rfl rfl Tryz.underlying85 X0l rfl (by decide) (m:=7) rfl)<|Ze (X0 rfl X2 (b.at 7))<|Ze (X11 rfl rfl (by omega) (by omega)) ?_;refine Ze (Xs (ps:=[(0,vi ((u.f 0)-(u.f 4))),(1,vi ((u.f 1)-(u.f 5))),(2,vi ((u.f 2)-(u.f 6))),(3,vi ((u.f 3)-(u.f 7)))]) (cs:=[vi ((u.f 0)-(u.f 4)),vi ((u.f 1)-(u.f 5)),vi ((u.f 2)-(u.f 6)),vi ((u.f 3)-(u.f 7))]) rfl (fun _=>by first|rfl|kernel_rfl))<|Zo (Vw [vi ((u.f 0)-(u.f 4)),vi ((u.f 1)-(u.f 5)),vi ((u.f 2)-(u.f 6)),vi ((u.f 3)-(u.f 7))] X4j d) ?_;rintro _ w3 ⟨ho,hb⟩
 have aD:=d;have c:=Below.only c ho a6;have d:=hb;refine Zt aB fun a hf=>?_
 refine wp_ret (X7 hf (X03 hf rfl (ResV.cellN (l:=[vi ((u.f 0)-(u.f 4)),vi ((u.f 1)-(u.f 5)),vi ((u.f 2)-(u.f 6)),vi ((u.f 3)-(u.f 7))]) rfl X1w (d.at 0) rfl)) ?_)
 exact ⟨rfl,c⟩
theorem Xxl(N:World)(z:Rg)(m:Int)(hm:-60≤m∧m≤60)(aP:rOk z=true) : Ret Tryz.prog 46 [.agg #[vi z.a,vi z.b,vi z.c,vi z.d],vi m] N (fun v w=>∃ d:Dy,v=.tuple #[dV d,.bool (sclI z m).isSome]∧(∀ y,sclI z m=some y→d=y)∧Below N.heap.size N w):=by
 refine enter Tryz.func46 rfl 46 rfl rfl ?_;intro a k
 have n:=bz N
 refine Zs k fun _ aQ=>?_;refine Zf (X1b (zs:=[vi z.a,vi z.b,vi z.c,vi z.d]) rfl rfl) ?_;rintro _ w1 ⟨b2,rfl,aR,h,f⟩;have W:=Nat.le_trans n.size aR;have n:=btr n h;refine Zf (X4 (zs:=[vi 0,vi 0,vi 0,vi 0,vi 0]) Xhm rfl) ?_;rintro _ w2 ⟨Q,rfl,aS,h,e⟩;have I:=Nat.le_trans n.size aS;have f:=f.below h;have n:=btr n h;refine Za rfl<|ZX aQ fun a k _ aT=>?_;refine Zs k fun _ aU=>?_;refine Ze (Vn X1w f)<|Ze (Xs (ps:=[]) (cs:=[vi 0,vi 0,vi 0,vi 0]) rfl (fun _=>by first|rfl|kernel_rfl))<|Ze (Xx8 rfl rfl Xva (fun w=>eqR 9998 z (⟨0,0,0,0⟩ : Rg) w))<|Zt aU fun a k=>?_
 refine Xg k rfl (fun G=>?_) (fun G=>?_)
 ·have o:=G;have G:=of_decide_eq_true G
  have J:z=rZ:=G
  refine Zs k fun _ aW=>?_;refine Ze (Xs (ps:=[]) (cs:=[vi 0,vi 0,vi 0,vi 0,vi 0]) rfl (fun _=>by first|rfl|kernel_rfl))<|Zo (Vw [vi 0,vi 0,vi 0,vi 0,vi 0] X5s e) ?_;rintro _ w3 ⟨C,H⟩;have p:=e;have n:=Below.only n C I;clear p;have e:=H;clear H C;refine Za rfl<|Zt aW fun a k=>?_;refine wp_ret<|X8<|X7 k (X2l k rfl (ResV.cellN (l:=[vi 0,vi 0,vi 0,vi 0,vi 0]) rfl X5e (e.at 0) rfl) rfl) ?_;exact ⟨dZ,by rw [Xrx J];rfl,fun y hy=>(by rw [Xrx J] at hy;exact Option.some.inj hy),n⟩
 have o:=G;have G:=of_decide_eq_false G
 have J:¬ z=rZ:=G
 refine wp_skip<|aT _ _<|Zs k fun _ aX=>?_;refine Za rfl<|ZX aX fun a k _ aY=>?_;refine wp_block<|Xw (σ:=Rg×Int×Bool) (fun (s:Rg×Int×Bool) (a:Act) (w:World)=>match s with|(y,j,b)=>Fr a 46 [(1,vi j),(2,.pointer (some ⟨b2,0,none⟩)),(4,.pointer (some ⟨Q,0,none⟩)),(6,.bool b)]∧((if b=true then raiseI (-j).toNat y else (y,false))=raiseI (-m).toNat z)∧(-60≤j∧j≤60∧(j=m∨m<0∧j≤0))∧(rOk y=true)∧Blk w b2 88 [vi y.a,vi y.b,vi y.c,vi y.d]∧Blk w Q 90 [vi 0,vi 0,vi 0,vi 0,vi 0]∧Below N.heap.size N w) (fun (s:Rg×Int×Bool)=>match s with|(y,j,b)=>(61-j).toNat) (z,m,true) ?_ ?_
 ·exact ⟨k.sb,rfl,(by omega),aP,f,e,n⟩
 rintro ⟨y,j,b⟩ a w4 ⟨k,L,aA,aZ,f,e,n⟩;refine wp_seq_k fun _ aB=>?_;refine wp_seq_k fun _ aC=>?_;refine X0i (fun a w=>Fr a 46 [(1,vi j),(2,.pointer (some ⟨b2,0,none⟩)),(4,.pointer (some ⟨Q,0,none⟩)),(6,.bool b),(16,.bool ((decide (j<0))&&b))]∧w4=w) ?_ ?_
 ·refine Zr k<|Zm rfl<|Ze (X1h rfl rfl)<|Zm rfl ?_
  refine Zg 14 rfl (fun A=>?_) (fun A=>?_)
  ·refine Zv (gW A) (Xd rfl) ?_;refine Ze (X6 rfl A rfl) ?_;refine Zn fun a k=>?_;exact ⟨k.sub ⟨rfl,rfl,rfl,rfl,X1 rfl (by first|rfl|(simp only [o,A,bs];done)|simp [o,A]),trivial⟩,rfl⟩
  refine Zp (gP A) ?_;refine Ze (Xf rfl A rfl) ?_;refine Zn fun a k=>?_;exact ⟨k.sub ⟨rfl,rfl,rfl,rfl,X1 rfl (by first|rfl|(simp only [o,A,bs];done)|simp [o,A]),trivial⟩,rfl⟩
 rintro a _ ⟨k,rfl⟩;refine aC _ _ ?_
 refine Xg k rfl (fun D=>?_) (fun D=>?_)
 ·have q:=D
  have H:b=true:=by have:=D;revert this;cases b<;>simp
  have b0:j<0:=by have:=D;revert this;cases b<;>simp
  refine wp_skip<|aB _ _<|wp_seq_k fun _ aD=>?_;refine wp_block<|Zr k<|Ze (Vn X1w f)<|Zf (Vc (Xyf _ y) Xvk) ?_;rintro _ w5 ⟨rfl,h⟩;have f:=f.below h;have e:=e.below h;have n:=btr n h;refine Zm rfl<|Ze (X9 (vs:=[.agg #[vi ((rIf1 (rRoot y) [y]).a),vi ((rIf1 (rRoot y) [y]).b),vi ((rIf1 (rRoot y) [y]).c),vi ((rIf1 (rRoot y) [y]).d)],.bool (rIf2 (rRoot y) [y])]) rfl rfl)<|Ze (X9 (vs:=[.agg #[vi ((rIf1 (rRoot y) [y]).a),vi ((rIf1 (rRoot y) [y]).b),vi ((rIf1 (rRoot y) [y]).c),vi ((rIf1 (rRoot y) [y]).d)],.bool (rIf2 (rRoot y) [y])]) rfl rfl)<|Zo (Vw [vi ((rIf1 (rRoot y) [y]).a),vi ((rIf1 (rRoot y) [y]).b),vi ((rIf1 (rRoot y) [y]).c),vi ((rIf1 (rRoot y) [y]).d)] X4j f) ?_;rintro _ w6 ⟨C,H⟩;have p:=f;have e:=e.only C (Blk.ne e p rfl);have n:=Below.only n C W;clear p;have f:=H;clear H C;refine Za rfl ?_;refine Zn fun a k=>?_;refine Xa<|aD _ _<|Zr k<|Zm rfl<|Ze (Xm rfl rfl (by omega) (by omega))<|Za rfl ?_;refine Zn fun a k=>?_;refine Xb ?_;exact ⟨(rIf1 (rRoot y) [y],j+1,rIf2 (rRoot y) [y]),⟨k.sb,(Xlq L H b0),(by omega),(Xpi _ _),f,e,n⟩,(by first|omega|(dsimp only;omega))⟩
 have q:=D
 have aE:b=true→0≤j:=by have:=D;revert this;cases b<;>simp
 refine wp_exit<|Xe<|Xe<|Xq ?_;refine aY _ _<|wp_seq_k fun _ aF=>?_;refine wp_block<|Xw (σ:=Rg×Int) (fun (s:Rg×Int) (a:Act) (w:World)=>match s with|(x,i)=>Fr a 46 [(1,vi i),(2,.pointer (some ⟨b2,0,none⟩)),(4,.pointer (some ⟨Q,0,none⟩)),(6,.bool b)]∧(dLow x i=dLow y j)∧(i≤60)∧(rOk x=true)∧Blk w b2 88 [vi x.a,vi x.b,vi x.c,vi x.d]∧Blk w Q 90 [vi 0,vi 0,vi 0,vi 0,vi 0]∧Below N.heap.size N w) (fun (s:Rg×Int)=>match s with|(x,i)=>i.toNat) (y,j) ?_ ?_
 ·exact ⟨k.sb,rfl,(by omega),aZ,f,e,n⟩
 rintro ⟨x,i⟩ a w7 ⟨k,M,b1,a6,f,e,n⟩;refine wp_seq_k fun _ aG=>?_;refine wp_seq_k fun _ aH=>?_;refine X0i (fun a w=>Fr a 46 [(1,vi i),(2,.pointer (some ⟨b2,0,none⟩)),(4,.pointer (some ⟨Q,0,none⟩)),(6,.bool b),(29,.bool ((decide (0<i))&&(rEven x)))]∧Below w7.heap.size w7 w) ?_ ?_
 ·have U:Below w7.heap.size w7 w7:=Below.refl _ _
  refine Zr k<|Zm rfl<|Ze (X3o rfl rfl)<|Zm rfl ?_
  refine Zg 26 rfl (fun t=>?_) (fun t=>?_)
  ·refine Zv (gW t) (Vn X1w f) ?_;refine Zk (gW t) (Vc (Xv1 _ x) Xfg) ?_;rintro _ w8 ⟨rfl,h⟩;have n:=btr n h;have U:=btr U h;refine Ze (X6 rfl t rfl) ?_;refine Zn fun a k=>?_
   have a7:Below w7.heap.size w7 w8:=U
   exact ⟨k.sub ⟨rfl,rfl,rfl,rfl,X1 rfl (by first|rfl|(simp only [o,q,t,bs];done)|simp [o,q,t]),trivial⟩,a7⟩
  refine Zp (gP t) ?_;refine Zp (gP t) ?_;refine Ze (Xf rfl t rfl) ?_;refine Zn fun a k=>?_
  have a7:Below w7.heap.size w7 w7:=U
  exact ⟨k.sub ⟨rfl,rfl,rfl,rfl,X1 rfl (by first|rfl|(simp only [o,q,t,bs];done)|simp [o,q,t]),trivial⟩,a7⟩
 rintro a w9 ⟨k,h⟩;have f:=f.below h;have e:=e.below h;have n:=btr n h;refine aH _ _ ?_
 refine Xg k rfl (fun E=>?_) (fun E=>?_)
 ·have B:=E
  have b4:0<i:=by have:=E;revert this;simp;omega
  have aI:rEven x=true:=by have:=E;revert this;cases rEven x<;>simp
  refine wp_skip<|aG _ _<|wp_block<|Zs k fun _ aJ=>?_;refine Ze (Vn X1w f)<|Zf (Vc (Xyu _ x) Xtx) ?_;rintro _ b5 ⟨rfl,h⟩;have f:=f.below h;have e:=e.below h;have n:=btr n h;refine Zm rfl<|Ze (X9 (vs:=[.agg #[vi ((rDiv1 x).a),vi ((rDiv1 x).b),vi ((rDiv1 x).c),vi ((rDiv1 x).d)],.bool (rDiv2 x)]) rfl rfl)<|Ze (X9 (vs:=[.agg #[vi ((rDiv1 x).a),vi ((rDiv1 x).b),vi ((rDiv1 x).c),vi ((rDiv1 x).d)],.bool (rDiv2 x)]) rfl rfl)<|Zo (Vw [vi ((rDiv1 x).a),vi ((rDiv1 x).b),vi ((rDiv1 x).c),vi ((rDiv1 x).d)] X4j f) ?_;rintro _ b6 ⟨C,H⟩;have p:=f;have e:=e.only C (Blk.ne e p rfl);have n:=Below.only n C W;clear p;have f:=H;clear H C;refine Zt aJ fun a k=>?_;refine Zr k<|Zm rfl<|Ze (X11 rfl rfl (by omega) (by omega))<|Za rfl ?_;refine Zn fun a k=>?_;refine Xa ?_
  rw [rDiv1,rDiv2,a6,aI,Bool.and_self,if_pos rfl] at f
  refine Xb ?_;exact ⟨(rHalf x,i-1),⟨k.sb,(by rw [← M];exact (X60 (by omega) aI).symm),(by omega),(X6t a6),f,e,n⟩,(by first|omega|(dsimp only;omega))⟩
 have B:=E
 have aK:dLow x i=⟨x,i⟩:=X3a (by intro h0;have:=E;revert this;simp [h0])
 refine wp_exit<|Xe<|Xe<|Xq ?_;refine aF _ _<|Zs k fun _ aL=>?_;refine Ze (Vn X1w f)<|Zm rfl<|Ze (Xs (ps:=[(0,.agg #[vi x.a,vi x.b,vi x.c,vi x.d]),(1,vi i)]) (cs:=[vi x.a,vi x.b,vi x.c,vi x.d,vi i]) rfl (fun _=>by first|rfl|kernel_rfl))<|Zf (X4 (zs:=[vi 0,vi 0,vi 0,vi 0,vi 0]) Xhm rfl) ?_;rintro _ b7 ⟨b22,rfl,aM,h,g⟩
 have aN:Q≠b22:=by have:=e.lt;omega
 have a8:=Nat.le_trans n.size aM;have e:=e.below h;have n:=btr n h;refine Zo (Vw [vi x.a,vi x.b,vi x.c,vi x.d,vi i] X5s g) ?_;rintro _ b8 ⟨C,H⟩;have p:=g;have e:=e.only C (by omega);have n:=Below.only n C a8;clear p;have g:=H;clear H C;refine ZX aL fun a k _ aO=>?_;refine X0i (fun a w=>Fr a 46 [(4,.pointer (some ⟨Q,0,none⟩)),(5,.bool (b&&(dOk (⟨x,i⟩ : Dy))))]∧Blk w Q 90 [vi x.a,vi x.b,vi x.c,vi x.d,vi i]∧Blk w b22 90 [vi x.a,vi x.b,vi x.c,vi x.d,vi i]∧Below N.heap.size N w) ?_ ?_
 ·refine Xp none (fun j=>[6].contains j) mixed ?_;intro b9 h;have e:=e.below h;have g:=g.below h;have n:=btr n h;refine Yb k<|Ye 0 rfl (Vn X5e g)<|Yo 1 rfl (fun _=>Xd rfl)<|Yo 2 rfl (fun _=>Xd rfl) ?_
  refine Yl 42 rfl (fun u=>?_) (fun u=>?_)
  ·refine Yv 3 rfl (gW u) (Vn X5e g) ?_;refine Y1 4<|Yk rfl ⟨_,_,rfl,rfl,u⟩ (Vc (Xy6 _ (⟨x,i⟩ : Dy)) Xvn) (fun _ _ ⟨_,h⟩=>h) ?_;rintro _ bA ⟨rfl,h⟩;have e:=e.below h;have g:=g.below h;have n:=btr n h;refine Yo 5 rfl (fun _=>X6 rfl u rfl)<|Y1 6 ?_;refine Yh rfl trivial rfl (Vw [vi x.a,vi x.b,vi x.c,vi x.d,vi i] X5s e) ?_;rintro _ bB ⟨C,H⟩;have p:=e;have g:=g.only C (by omega);have n:=Below.only n C I;clear p;have e:=H;clear H C;refine Yo 7 rfl (fun _=>X31 rfl) ?_;refine Yd fun a k=>?_;exact ⟨k.sub ⟨rfl,X1 rfl (by first|rfl|(simp only [o,q,B,u,bs];done)|simp [o,q,B,u]),trivial⟩,e,g,n⟩
  refine Yp 3 rfl (gP u) ?_;refine Y1 4<|Yq rfl ⟨_,_,rfl,rfl,u⟩ ?_;refine Yo 5 rfl (fun _=>Xf rfl u rfl)<|Y1 6 ?_;refine Yh rfl trivial rfl (Vw [vi x.a,vi x.b,vi x.c,vi x.d,vi i] X5s e) ?_;rintro _ bC ⟨C,H⟩;have p:=e;have g:=g.only C (by omega);have n:=Below.only n C I;clear p;have e:=H;clear H C;refine Yo 7 rfl (fun _=>X31 rfl) ?_;refine Yd fun a k=>?_;exact ⟨k.sub ⟨rfl,X1 rfl (by first|rfl|(simp only [o,q,B,u,bs];done)|simp [o,q,B,u]),trivial⟩,e,g,n⟩
 rintro a bD ⟨k,e,g,n⟩;refine aO _ _ ?_
 refine wp_ret (X7 k (X2l k rfl (ResV.cellN (l:=[vi x.a,vi x.b,vi x.c,vi x.d,vi i]) rfl X5e (e.at 0) rfl) rfl) ?_)
 exact ⟨⟨x,i⟩,by rw [← Xqf J L aE aA M aK],fun d hd=>Xoq J L aE aA M aK hd,n⟩
theorem Xvr(o:World)(i j S:Nat)(bc:Nat)(Al:Option Addr)(cl:Nat)(l:List Oc)(a7:Rd o o.heap.size 85 encO Al l)(q:Blk o bc 82 [.slice Al l.length cl])(bs:Nat)(t:Blk o bs 3 [vi (S:Int)])(bp:Nat)(p:Ps)(Ap:Option Addr)(cp:Nat)(aM:Rd o o.heap.size 59 encT Ap p.ts)(Bp:Option Addr)(dp:Nat)(aN:Rd o o.heap.size 62 encA Bp p.out)(x:Blk o bp 26 [vi p.ins,vi p.vars,vi p.root,vi p.phase,.slice Ap p.ts.length cp,.slice Bp p.out.length dp])(f:Nat→Nat→Rg)(hS:S≤32)(hi:(i:Int)<S)(hj:(j:Int)<S)(aD:-60≤p.root∧p.root≤60)(a8:∀ i j,rOk (f i j)=true)(hl:∀ i j:Nat,i<S→j<S→∃ u,l[i*S+j]? = some u∧(∀ k,k<8→0≤u.f k∧u.f k≤1024)∧oSum u=f i j) : Ret Tryz.prog 45 [vi (i:Int),vi (j:Int),.pointer (some ⟨bc,0,none⟩),.pointer (some ⟨bs,0,none⟩),.pointer (some ⟨bp,0,none⟩)] o (fun v w=>∃ d:Dy,v=.tuple #[dV d,.bool (sclI (f i j) p.root).isSome]∧(∀ y,sclI (f i j) p.root=some y→d=y)∧Below o.heap.size o w):=by
 have aE:=q.lt;have aF:=t.lt;have aG:=x.lt
 have aP:i*S≤1024:=Nat.le_trans (Nat.mul_le_mul (show i≤32 by omega) hS) (by decide)
 obtain ⟨u,aH,aI,a6⟩:=hl i j (by omega) (by omega)
 refine enter Tryz.func45 rfl 23 rfl rfl ?_;intro a hf
 have h:=bz o
 refine Zs hf fun _ aJ=>?_;refine Zf (X4 (zs:=[vi 0,vi 0,vi 0,vi 0,vi 0]) Xhm rfl) ?_;rintro _ w1 ⟨b5,rfl,aK,n,g⟩;have aA:=Nat.le_trans h.size aK;have q:=q.below n;have t:=t.below n;have x:=x.below n;have h:=btr h n;refine Za rfl<|ZX aJ fun a hf _ aL=>?_;refine Xp none (fun j=>[14].contains j) mixed ?_;intro w2 n;have q:=q.below n;have t:=t.below n;have x:=x.below n;have g:=g.below n;have h:=btr h n;refine Yb hf<|Ye 0 rfl (X0 rfl Xhb (q.at 0))<|Yo 1 rfl (fun _=>Xd rfl)<|Ye 2 rfl (X0 rfl X2 (t.at 0))<|Yo 3 rfl (fun _=>Xl5 (m:=i) (k:=S) rfl rfl (by omega))<|Yo 4 rfl (fun _=>Xd rfl) ?_;refine Yo 5 rfl (fun _=>X36 (k:=((i*S+j:Nat) : Int)) rfl rfl (by omega) (by omega) (by omega))<|Yi (k:=(i*S+j)) (u:=u) (enc:=encO) (l:=l) 6 rfl trivial rfl rfl X8k Xbo X5g (a7.below' h) aH rfl ?_;intro p8 aB;refine Ye 7 rfl (X04 (l:=[vi (u.f 0),vi (u.f 1),vi (u.f 2),vi (u.f 3),vi (u.f 4),vi (u.f 5),vi (u.f 6),vi (u.f 7)]) rfl Xrf aB rfl)<|Yo 9 rfl (fun _=>Vd rfl X0c 2)<|Ye 10 rfl (X0 rfl X2 (x.at 2))<|Y1 8 ?_;refine Yk rfl trivial (Vc (Xwy _ u aI) Xoo) (fun _ _ ⟨_,n⟩=>n) ?_;rintro _ w3 ⟨rfl,n⟩;have g:=g.below n;have h:=btr h n;refine Y1 11<|Yk rfl trivial (Vc (Xxl _ (oSum u) p.root aD (by rw [a6];exact a8 i j)) Xrb) (fun _ _ ⟨e,_,aC,n⟩=>n) ?_;rintro _ w4 ⟨e,rfl,aC,n⟩;have g:=g.below n;have h:=btr h n;refine Yo 12 rfl (fun _=>X9 (vs:=[.agg #[vi e.num.a,vi e.num.b,vi e.num.c,vi e.num.d,vi e.exp],.bool ((sclI (oSum u) p.root).isSome)]) rfl rfl)<|Yo 13 rfl (fun _=>X9 (vs:=[.agg #[vi e.num.a,vi e.num.b,vi e.num.c,vi e.num.d,vi e.exp],.bool ((sclI (oSum u) p.root).isSome)]) rfl rfl)<|Y1 14 ?_
 refine Yh rfl trivial rfl (Vw [vi e.num.a,vi e.num.b,vi e.num.c,vi e.num.d,vi e.exp] X5s g) ?_;rintro _ w5 ⟨ho,hb⟩;have aO:=g;have h:=Below.only h ho aA;have g:=hb;refine Yo 15 rfl (fun _=>X31 rfl) ?_;refine Yd fun a hf=>?_;refine aL _ _ ?_
 refine wp_ret (X7 hf (X2l hf rfl (ResV.cellN (l:=[vi e.num.a,vi e.num.b,vi e.num.c,vi e.num.d,vi e.exp]) rfl X5e (g.at 0) rfl) rfl) ?_)
 exact ⟨e,by rw [a6],by rw [← a6];exact aC,h⟩
end Go.Proofs.YtiejkplemjkjoaaGreatDoor
