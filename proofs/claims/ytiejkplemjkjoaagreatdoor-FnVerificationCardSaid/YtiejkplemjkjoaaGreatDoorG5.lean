/-
  For all drawn pairs of circuits, the symbolic comparison of the program agrees with the operators and the phase is the one between them; conditions: none beside the table of math/bits that the card ties to the text.
-/
import Derived.Test.YtiejkplemjkjoaaGreatDoorG4
import Derived.Test.YtiejkplemjkjoaaGreatDoorG3
import Derived.Test.YtiejkplemjkjoaaGreatDoorG2
set_option linter.unusedVariables false
set_option linter.unusedSimpArgs false
set_option maxHeartbeats 1000000
set_option maxRecDepth 4000
set_option linter.unusedSectionVars false
namespace Go.Proofs.YtiejkplemjkjoaaGreatDoor
open Go.RowKit
theorem Xuc(w0:World)(p:Ps)(Ap:Option Addr)(cp:Nat)(b6:Rd w0 w0.heap.size 59 encT Ap p.ts)(Bp:Option Addr)(dp:Nat)(aC:Rd w0 w0.heap.size 62 encA Bp p.out)(j:Nat)(y:Af)(dL:0≤p.phase∧p.phase<8)(hT:∀ t ∈ p.ts,Mk t.m∧0<t.c∧t.c<8)(bF:∀ a ∈ p.out,AO a)(hv:j<24)(hy:AO y)(eB:-1000≤p.vars∧p.vars≤1000)(eC:p.ts.length≤100000000)(eD:p.out.length≤100000000) : Ret Tryz.prog 119 [.agg #[vi p.ins,vi p.vars,vi p.root,vi p.phase,.slice Ap p.ts.length cp,.slice Bp p.out.length dp],vi (j:Int),.agg #[vi y.m,vi y.t]] w0 (fun v w=>∃ A9 c9 B9 d9,v=psV A9 c9 B9 d9 (repP p j y)∧Rd w w.heap.size 59 encT A9 (repP p j y).ts∧Rd w w.heap.size 62 encA B9 (repP p j y).out∧(repP p j y).ts.length≤c9∧Below w0.heap.size w0 w):=by
 refine enter Tryz.func119 rfl 114 rfl rfl ?_;intro a E
 have B:=bz w0
 refine Zs E fun _ dM=>?_;refine Zf (X0v (zs:=[vi p.ins,vi p.vars,vi p.root,vi p.phase,.slice Ap p.ts.length cp,.slice Bp p.out.length dp]) rfl rfl) ?_;rintro _ w1 ⟨b4,rfl,dN,o,A⟩;have e8:=Nat.le_trans B.size dN;have B:=btr B o;refine Zf (X0v (zs:=[vi y.m,vi y.t]) rfl rfl) ?_;rintro _ w2 ⟨b5,rfl,cC,o,b⟩;have eA:=Nat.le_trans B.size cC;have dJ:=(aC.below' B).away cC;have A:=A.below o;have B:=btr B o;refine Zf (X6 (zs:=[vi 0,vi 0,vi 0,vi 0,.slice none 0 0,.slice none 0 0]) X1y rfl) ?_;rintro _ w3 ⟨b8,rfl,dO,o,e⟩
 have dK:b4≠b8:=by have:=A.lt;omega
 have cD:=Nat.le_trans B.size dO;have A:=A.below o;have b:=b.below o;have B:=btr B o;refine Zx dM fun a E _ dP=>?_;refine Ze (Vd rfl X1j 3)<|Ze (X0 rfl X2 (A.at 3))<|Ze (Xl (ps:=[(0,vi p.phase)]) (cs:=[vi p.phase,.slice none 0 0]) rfl (fun _=>by first|rfl|kernel_rfl))<|Zf (X0v (zs:=[vi p.phase,.slice none 0 0]) rfl rfl) ?_;rintro _ w4 ⟨aF,rfl,cE,o,x⟩;have aO:=Nat.le_trans B.size cE;have A:=A.below o;have b:=b.below o;have e:=e.below o;have B:=btr B o;refine Za rfl<|ZX dP fun a E _ cF=>?_;refine Zs E fun _ cG=>?_;refine Ze (Vd rfl X0k 4)<|Ze (X0 rfl X14 (A.at 4))<|Ze (X1i rfl X02)<|Zm rfl<|Zt cG fun a E=>?_;refine wp_block ?_
 replace x:Blk w4 aF 120 [vi ((cPh p.phase) 0),.slice none (tms (cPh p.phase)).length 0]:=by rw [Xh7,Xsa];exact x
 have dQ:Rd w4 w4.heap.size 59 encT none (tms (cPh p.phase)):=by rw [Xh7];exact Rd.nil _ _ _ _ _
 have cH:(tms (cPh p.phase)).length≤0:=by rw [Xh7];exact Nat.le_refl _
 refine X05 (σ:=Nat×(Int→Int)) (fun (s:Nat×(Int→Int)) (a:Act) (w:World)=>match s with|(k,g)=>∃ N Q,Fr a 114 [(1,vi (j:Int)),(3,.pointer (some ⟨b4,0,none⟩)),(5,.pointer (some ⟨b5,0,none⟩)),(6,.pointer (some ⟨b8,0,none⟩)),(7,.pointer (some ⟨aF,0,none⟩)),(18,.slice Ap p.ts.length cp),(19,vi (p.ts.length:Int)),(20,vi (k:Int))]∧(k≤p.ts.length)∧(g=foldA ((p.ts.take k).flatMap (rL j y)) (cPh p.phase))∧(PO g)∧(SupF g)∧Blk w b4 26 [vi p.ins,vi p.vars,vi p.root,vi p.phase,.slice Ap p.ts.length cp,.slice Bp p.out.length dp]∧Blk w b5 62 [vi y.m,vi y.t]∧Blk w b8 26 [vi 0,vi 0,vi 0,vi 0,.slice none 0 0,.slice none 0 0]∧Blk w aF 120 [vi (g 0),.slice N (tms g).length Q]∧Rd w w.heap.size 59 encT N (tms g)∧(tms g).length≤Q∧Below w0.heap.size w0 w) (fun (s:Nat×(Int→Int))=>match s with|(k,g)=>p.ts.length-k) (0,(cPh p.phase)) ?_ ?_
 ·exact ⟨none,0,E.sb,(Nat.zero_le _),rfl,(PO.cPh dL),(SupF.cPh _),A,b,e,x,dQ.top,cH,B⟩
 rintro ⟨k,g⟩ a w5 ⟨N,Q,E,hk,hg,hp,hs,A,b,e,x,d,U,B⟩;refine Zs E fun _ cJ=>?_;refine Ze (X1u rfl rfl)<|ZX cJ fun a E _ cK=>?_
 refine Xf E rfl (fun a6=>?_) (fun a6=>?_)
 ·have bG:=a6;have a6:=of_decide_eq_true a6
  obtain ⟨J,G⟩:=Xk (l:=p.ts) (k:=k) (by omega)
  refine wp_skip<|cK _ _<|wp_seq_k fun _ b7=>?_;refine wp_block<|Zs E fun _ cL=>?_;refine Zi (k:=k) (u:=J) (enc:=encT) (l:=p.ts) trivial rfl rfl X02 X1k X0s (b6.below' B) G rfl ?_;intro eE bH;refine Ze (X0b (l:=[vi J.m,vi J.c]) rfl X47 bH rfl)<|Zf (X6 (zs:=[vi 0,vi 0]) X65 rfl) ?_;rintro _ w6 ⟨eF,rfl,aP,o,H⟩;have bJ:=Nat.le_trans B.size aP;have cM:=(b6.below' B).away aP;have aK:=d.away aP;have A:=A.below o;have b:=b.below o;have e:=e.below o;have x:=x.below o;have d:=d.below o;have B:=btr B o;refine Zo (Vw [vi J.m,vi J.c] X1k H) ?_;rintro _ w7 ⟨I,hb⟩;have f:=H;have A:=A.only I (Blk.ne A f rfl);have b:=b.only I (Blk.ne b f rfl);have e:=e.only I (Blk.ne e f rfl);have x:=x.only I (Blk.ne x f rfl);have d:=d.onlyA I aK;have B:=Below.only B I bJ;have H:=hb;refine Zx cL fun a E _ cN=>?_;refine Ze (Vd rfl X12 0)<|Ze (X0 rfl X2 (H.at 0))<|Zm rfl<|Ze (X3u (m:=j) Tryz.underlying3 Tryz.underlying109 rfl rfl (by omega))<|Ze (X6k (m:=j) rfl rfl rfl (by omega)) ?_;refine Ze (Vx (X7r rfl rfl) (X4c (hT _ (List.mem_of_getElem? G)).1 j))<|Ze (X0d rfl rfl)<|Zt cN fun a E=>?_
  refine Xf E rfl (fun aD=>?_) (fun aD=>?_)
  ·have bK:=aD
   have a8:bitQ j J.m=false:=Xyh aD
   have dR:=hT _ (List.mem_of_getElem? G);refine Xs (some aF) (fun _=>false) mixed ?_;intro w8 o;have A:=A.below o;have b:=b.below o;have e:=e.below o;have x:=x.below o;have H:=H.below o;have d:=d.below o;have B:=btr B o;refine Yb E<|Yo 0 rfl (fun _=>X8 rfl)<|Yo 1 rfl (fun _=>Vd rfl X12 0) ?_;refine Yw 2 rfl trivial (fun w1 h1=>X0 rfl X2 ((H.only h1 (Blk.ne H x rfl)).at 0)) ?_;refine Yo 3 rfl (fun _=>X8 rfl)<|Yo 5 rfl (fun _=>Vd rfl X22 1) ?_;refine Yw 6 rfl trivial (fun w1 h1=>X0 rfl X2 ((H.only h1 (Blk.ne H x rfl)).at 1)) ?_;refine Y1 4<|Yz rfl trivial (Vc (Xca _ J.m j (hT _ (List.mem_of_getElem? G)).1 hv) X74) ?_;refine Y1 7<|Yf rfl trivial (EfW.mono (Vc (X45 _ aF g N Q x d.top U hp hs (drI j J.m) J.c (hT _ (List.mem_of_getElem? G)).1.dr (by omega)) X2n) (fun _ _ h=>⟨fun _=>by obtain ⟨rfl,hK,cO,cP,aG,b9,aQ⟩:=h;exact hK.keep,h⟩)) ?_;rintro _ w9 ⟨rfl,hK,cO,cP,aG,b9,aQ⟩;obtain ⟨wm,hO,hm,o⟩:=hK.mid;clear hm;have f:=x;have A:=A.only hO (Blk.ne A f rfl);have b:=b.only hO (Blk.ne b f rfl);have e:=e.only hO (Blk.ne e f rfl);have B:=Below.only B hO aO;have A:=A.below o;have b:=b.below o;have e:=e.below o;have B:=btr B o
   clear f o hO hK;have x:=aG;clear aG;refine Yd fun a E=>?_;refine Xb<|b7 _ _<|Zr E<|Ze (Xw rfl rfl (by omega) (by omega))<|Zm rfl ?_;refine Zn fun a E=>?_;refine Xe ?_;exact ⟨(k+1,(padd g (drI j J.m) J.c)),⟨cO,cP,E.sb,(by omega),(by first|exact Xvb G hg a8|exact Xvg G hg a8),(by first|exact hp.padd _ _|exact hp.expP _ _ _),(by first|exact hs.pad hp (hT _ (List.mem_of_getElem? G)).1.dr|exact hs.exp hp hy.dA (hT _ (List.mem_of_getElem? G)).1.dr),A,b,e,x,b9.top,aQ,B⟩,(by first|omega|(dsimp only;omega))⟩
  have bK:=aD
  have a8:bitQ j J.m=true:=Xpr aD
  have dR:=hT _ (List.mem_of_getElem? G);refine Xs (some aF) (fun _=>false) mixed ?_;intro eG o;have A:=A.below o;have b:=b.below o;have e:=e.below o;have x:=x.below o;have H:=H.below o;have d:=d.below o;have B:=btr B o;refine Yb E<|Yo 0 rfl (fun _=>X8 rfl)<|Yo 1 rfl (fun _=>Vd rfl X12 0) ?_;refine Yw 2 rfl trivial (fun w1 h1=>X0 rfl X2 ((H.only h1 (Blk.ne H x rfl)).at 0)) ?_;refine Yo 3 rfl (fun _=>X8 rfl)<|Yo 5 rfl (fun _=>Vd rfl X22 1) ?_;refine Yw 6 rfl trivial (fun w1 h1=>X0 rfl X2 ((H.only h1 (Blk.ne H x rfl)).at 1)) ?_;refine Yo 7 rfl (fun _=>Vd rfl X0g 0) ?_;refine Yw 8 rfl trivial (fun w1 h1=>X0 rfl X2 ((b.only h1 (Blk.ne b x rfl)).at 0)) ?_;refine Yo 9 rfl (fun _=>X8 rfl)<|Yo 11 rfl (fun _=>Vd rfl X0l 1) ?_;refine Yw 12 rfl trivial (fun w1 h1=>X0 rfl X2 ((b.only h1 (Blk.ne b x rfl)).at 1)) ?_;refine Y1 4<|Yz rfl trivial (Vc (Xca _ J.m j (hT _ (List.mem_of_getElem? G)).1 hv) X74) ?_;refine Y1 10<|Yz rfl trivial (Vc (Xca _ y.m j hy.1 hv) X74) ?_;refine Yo 13 rfl (fun _=>Xl (ps:=[(0,vi (drI j y.m)),(1,vi y.t)]) (cs:=[vi (drI j y.m),vi y.t]) rfl (fun _=>by first|rfl|kernel_rfl))<|Y1 14 ?_;refine Yf rfl trivial (EfW.mono (Vc (Xgr _ aF g N Q x d.top U hp hs (drI j J.m) J.c (⟨drI j y.m,y.t⟩ : Af) (hT _ (List.mem_of_getElem? G)).1.dr (by omega) hy.dA) X8b) (fun _ _ h=>⟨fun _=>by obtain ⟨rfl,hK,cQ,cR,aG,bC,aR⟩:=h;exact hK.keep,h⟩)) ?_;rintro _ eH ⟨rfl,hK,cQ,cR,aG,bC,aR⟩;obtain ⟨wm,hO,hm,o⟩:=hK.mid;clear hm;have f:=x;have A:=A.only hO (Blk.ne A f rfl);have b:=b.only hO (Blk.ne b f rfl);have e:=e.only hO (Blk.ne e f rfl);have B:=Below.only B hO aO
  have A:=A.below o;have b:=b.below o;have e:=e.below o;have B:=btr B o
  clear f o hO hK;have x:=aG;clear aG;refine Yd fun a E=>?_;refine Xb<|b7 _ _<|Zr E<|Ze (Xw rfl rfl (by omega) (by omega))<|Zm rfl ?_;refine Zn fun a E=>?_;refine Xe ?_;exact ⟨(k+1,(expP g J.c (⟨drI j y.m,y.t⟩ : Af) (drI j J.m))),⟨cQ,cR,E.sb,(by omega),(by first|exact Xvb G hg a8|exact Xvg G hg a8),(by first|exact hp.padd _ _|exact hp.expP _ _ _),(by first|exact hs.pad hp (hT _ (List.mem_of_getElem? G)).1.dr|exact hs.exp hp hy.dA (hT _ (List.mem_of_getElem? G)).1.dr),A,b,e,x,bC.top,aR,B⟩,(by first|omega|(dsimp only;omega))⟩
 have bG:=a6;have a6:=of_decide_eq_false a6
 have dS:k=p.ts.length:=by have:=a6;omega
 refine wp_exit<|Xh<|Xh<|Xz ?_;refine cF _ _<|wp_seq_k fun _ cS=>?_;refine Xs none (fun j=>[17].contains j) mixed ?_;intro eI o;have A:=A.below o;have b:=b.below o;have e:=e.below o;have x:=x.below o;have d:=d.below o;have B:=btr B o;refine Yb E<|Yo 0 rfl (fun _=>Vd rfl X1b 0)<|Ye 1 rfl (X0 rfl X2 (A.at 0))<|Yo 2 rfl (fun _=>Vd rfl X1g 1)<|Ye 3 rfl (X0 rfl X2 (A.at 1))<|Yo 4 rfl (fun _=>X1m rfl rfl (by omega) (by omega)) ?_;refine Yo 5 rfl (fun _=>Vd rfl X16 2)<|Ye 6 rfl (X0 rfl X2 (A.at 2))<|Yo 7 rfl (fun _=>X8 rfl)<|Yo 8 rfl (fun _=>X0z rfl)<|Yo 9 rfl (fun _=>Vd rfl X4d 0) ?_;refine Ye 10 rfl (X0 rfl X2 (x.at 0))<|Yo 11 rfl (fun _=>X8 rfl)<|Yo 12 rfl (fun _=>X0z rfl)<|Yo 13 rfl (fun _=>Vd rfl X17 1)<|Ye 14 rfl (X0 rfl X14 (x.at 1)) ?_;refine Yo 15 rfl (fun _=>Xl (ps:=[(0,vi p.ins),(1,vi (p.vars-1)),(2,vi p.root),(3,vi (g 0)),(4,.slice N (tms g).length Q)]) (cs:=[vi p.ins,vi (p.vars-1),vi p.root,vi (g 0),.slice N (tms g).length Q,.slice none 0 0]) rfl (fun _=>by first|rfl|kernel_rfl))<|Y1 16 ?_;refine Yk rfl trivial (X6 (zs:=[vi 0,vi 0,vi 0,vi 0,.slice none 0 0,.slice none 0 0]) X1y rfl) (fun _ _ ⟨_,_,_,h,_⟩=>h) ?_;rintro _ eJ ⟨b33,rfl,cU,o,i⟩
 have cW:b4≠b33:=by have:=A.lt;omega
 have cX:b8≠b33:=by have:=e.lt;omega
 have aH:=Nat.le_trans B.size cU;have A:=A.below o;have b:=b.below o;have e:=e.below o;have d:=d.below o;have B:=btr B o;refine Y1 17<|Yh rfl trivial rfl (Vw [vi p.ins,vi (p.vars-1),vi p.root,vi (g 0),.slice N (tms g).length Q,.slice none 0 0] X0c i) ?_;rintro _ eK ⟨I,hb⟩;have f:=i;have A:=A.only I (by omega);have b:=b.only I (Blk.ne b f rfl);have e:=e.only I (by omega);have d:=d.onlyT I f rfl;have B:=Below.only B I aH;have i:=hb;refine Yd fun a E=>?_;refine cS _ _<|wp_seq_k fun _ cY=>?_;refine Zs E fun _ d5=>?_;refine Ze (Vd rfl X03 5)<|Ze (X0 rfl X0a (A.at 5))<|Ze (X1i rfl Xu)<|Zm rfl<|Zt d5 fun a E=>?_;refine wp_block<|X05 (σ:=Nat×(List Af)) (fun (s:Nat×(List Af)) (a:Act) (w:World)=>match s with|(q,l2)=>∃ aI aL,Fr a 114 [(1,vi (j:Int)),(5,.pointer (some ⟨b5,0,none⟩)),(6,.pointer (some ⟨b8,0,none⟩)),(10,.pointer (some ⟨b33,0,none⟩)),(72,.slice Bp p.out.length dp),(73,vi (p.out.length:Int)),(74,vi (q:Int))]∧(q≤p.out.length)∧(l2=(p.out.take q).map fun a=>dA j (sA j y a))∧Blk w b5 62 [vi y.m,vi y.t]∧Blk w b8 26 [vi 0,vi 0,vi 0,vi 0,.slice none 0 0,.slice none 0 0]∧Blk w b33 26 [vi p.ins,vi (p.vars-1),vi p.root,vi (g 0),.slice N (tms g).length Q,.slice aI l2.length aL]∧Rd w w5.heap.size 59 encT N (tms g)∧Own w w0.heap.size 62 2 encA aI aL l2∧(tms g).length≤Q∧Away aI b5∧Below w0.heap.size w0 w) (fun (s:Nat×(List Af))=>match s with|(q,l2)=>p.out.length-q) (0,[]) ?_ ?_
 ·exact ⟨none,0,E.sb,(Nat.zero_le _),rfl,b,e,i,d,(Own.nil _ _ _ _ _),U,(Away.no _),B⟩
 rintro ⟨q,l2⟩ a eL ⟨aI,aL,E,hq,aJ,b,e,i,d,D,U,W,B⟩;refine Zs E fun _ d6=>?_;refine Ze (X1u rfl rfl)<|ZX d6 fun a E _ d7=>?_
 refine Xf E rfl (fun a7=>?_) (fun a7=>?_)
 ·have bL:=a7;have a7:=of_decide_eq_true a7
  obtain ⟨n,aA⟩:=Xk (l:=p.out) (k:=q) (by omega)
  refine wp_skip<|d7 _ _<|wp_seq_k fun _ bD=>?_;refine wp_block<|Zs E fun _ d8=>?_;refine Zi (k:=q) (u:=n) (enc:=encA) (l:=p.out) trivial rfl rfl Xu Xp Xt (aC.below' B) aA rfl ?_;intro eN bN;refine Ze (X0b (l:=[vi n.m,vi n.t]) rfl X0f bN rfl)<|Zf (X6 (zs:=[vi 0,vi 0]) X1h rfl) ?_;rintro _ eO ⟨b45,rfl,aS,o,C⟩
  have dB:b5≠b45:=by have:=b.lt;omega
  have aT:=Nat.le_trans B.size aS;have dC:=(aC.below' B).away aS;have M:=D.away aS;have b:=b.below o;have e:=e.below o;have i:=i.below o;have d:=d.below o;have D:=D.below o;have B:=btr B o;refine Zo (Vw [vi n.m,vi n.t] Xp C) ?_;rintro _ eP ⟨I,hb⟩;have f:=C;have b:=b.only I (by omega);have e:=e.only I (Blk.ne e f rfl);have i:=i.only I (Blk.ne i f rfl);have d:=d.onlyT I f rfl;have D:=D.onlyA I M;have B:=Below.only B I aT;have C:=hb;refine ZX d8 fun a E _ bE=>?_;refine Zs E fun _ dD=>?_;refine Ze (Vd rfl X0g 0)<|Ze (X0 rfl X2 (C.at 0))<|Zm rfl<|Ze (X3u (m:=j) Tryz.underlying3 Tryz.underlying109 rfl rfl (by omega))<|Ze (X6k (m:=j) rfl rfl rfl (by omega)) ?_;refine Ze (Vx (X7r rfl rfl) (X4c (bF _ (List.mem_of_getElem? aA)).1 j))<|Ze (X0d rfl rfl)<|Zt dD fun a E=>?_
  refine Xf E rfl (fun aE=>?_) (fun aE=>?_)
  ·have bO:=aE
   have a8:bitQ j n.m=true:=Xme aE
   have aU:=bF _ (List.mem_of_getElem? aA);refine Zr E<|Ze (Vd rfl X0g 0)<|Ze (X0 rfl X2 (C.at 0))<|Zm rfl<|Ze (X3u (m:=j) Tryz.underlying3 Tryz.underlying109 rfl rfl (by omega))<|Ze (Vx (X30 (m:=j) rfl rfl rfl (by omega)) (X63 hv)) ?_;refine Ze (Vx (X66 rfl rfl) (rfl:_=(xI n.m (pw j))))<|Ze (Vd rfl X0g 0)<|Ze (X0 rfl X2 (b.at 0))<|Ze (Vx (X66 rfl rfl) (rfl:_=(xI (xI n.m (pw j)) y.m)))<|Ze (Vd rfl X0l 1) ?_;refine Ze (X0 rfl X2 (C.at 1))<|Ze (Vd rfl X0l 1)<|Ze (X0 rfl X2 (b.at 1))<|Ze (Vx (X66 rfl rfl) (rfl:_=(xI n.t y.t)))<|Ze (Xl (ps:=[(0,vi (xI (xI n.m (pw j)) y.m)),(1,vi (xI n.t y.t))]) (cs:=[vi (xI (xI n.m (pw j)) y.m),vi (xI n.t y.t)]) rfl (fun _=>by first|rfl|kernel_rfl)) ?_;refine Zo (Vw [vi (xI (xI n.m (pw j)) y.m),vi (xI n.t y.t)] Xp C) ?_;rintro _ eQ ⟨I,hb⟩;have f:=C;have b:=b.only I (by omega);have e:=e.only I (Blk.ne e f rfl);have i:=i.only I (Blk.ne i f rfl);have d:=d.onlyT I f rfl;have D:=D.onlyA I M;have B:=Below.only B I aT;have C:=hb;refine Zt bE fun a E=>?_;refine Xs none (fun j=>[10,12].contains j) mixed ?_;intro eR o;have b:=b.below o;have e:=e.below o;have i:=i.below o;have C:=C.below o;have d:=d.below o;have D:=D.below o;have B:=btr B o;refine Yb E<|Yo 0 rfl (fun _=>Vd rfl X03 5)<|Ye 1 rfl (X0 rfl X0a (i.at 5))<|Yo 2 rfl (fun _=>Vd rfl X0g 0)<|Ye 3 rfl (X0 rfl X2 (C.at 0))<|Yo 4 rfl (fun _=>X8 rfl) ?_;refine Yo 6 rfl (fun _=>Vd rfl X0l 1)<|Ye 7 rfl (X0 rfl X2 (C.at 1))<|Y1 5 ?_;refine Yz rfl trivial (Vc (Xca _ (xI (xI n.m (pw j)) y.m) j (by first|exact aU.1|exact (aU.1.xor (X3h hv)).xor hy.1) hv) X74) ?_
   refine Yo 8 rfl (fun _=>Xl (ps:=[(0,vi (drI j (xI (xI n.m (pw j)) y.m))),(1,vi (xI n.t y.t))]) (cs:=[vi (drI j (xI (xI n.m (pw j)) y.m)),vi (xI n.t y.t)]) rfl (fun _=>by first|rfl|kernel_rfl))<|Y1 9 ?_;refine Yk rfl trivial (Xd (k:=1) (vs:=[.agg #[vi (drI j (xI (xI n.m (pw j)) y.m)),vi (xI n.t y.t)]]) (zs:=[vi (drI j (xI (xI n.m (pw j)) y.m)),vi (xI n.t y.t)]) rfl Xu X2a rfl rfl) (fun _ _ ⟨_,_,_,h,_⟩=>h) ?_;rintro _ eS ⟨b49,rfl,aW,o,aX⟩
   have dE:b5≠b49:=by have:=b.lt;omega
   have bW:b45≠b49:=by have:=C.lt;omega
   have dU:=Nat.le_trans B.size aW;have dF:=(aC.below' B).away aW;have aM:=D.away aW;have b:=b.below o;have e:=e.below o;have i:=i.below o;have C:=C.below o;have d:=d.below o;have D:=D.below o;have B:=btr B o;refine Y1 10<|Yt rfl trivial rfl (X11 (enc:=encA) (l:=(l2)) (l2:=([(⟨drI j (xI (xI n.m (pw j)) y.m),(xI n.t y.t)⟩ : Af)])) (B0:=w0.heap.size) rfl rfl Xu X2a Xt X43 D (Rd.of_blk aX rfl _ aX.lt) (by simp only [maxLen];rw [aJ];simp;omega) (by rw [aJ];simp;omega) B.size) ?_;rintro _ eT ⟨bP,bR,rfl,aY,hg,aB⟩
   have L:Own _ w0.heap.size 62 2 encA _ _ (l2):=D
   have aZ:=aB _ b.lt W;have bX:=aB _ C.lt M;have bY:=aB _ aX.lt aM;clear aB;have b:=b.appA hg W;have e:=e.appT L hg rfl;have i:=i.appT L hg rfl;have d:=d.appT L hg rfl;have B:=Below.app B L hg (Nat.le_refl _) B.size;clear L hg;refine Yo 11 rfl (fun _=>Vd rfl X03 5)<|Y1 12 ?_;refine Yh rfl trivial rfl (Vu (vs:=[.slice bP (l2++([(⟨drI j (xI (xI n.m (pw j)) y.m),(xI n.t y.t)⟩ : Af)])).length bR]) (l':=[vi p.ins,vi (p.vars-1),vi p.root,vi (g 0),.slice N (tms g).length Q,.slice bP (l2++([(⟨drI j (xI (xI n.m (pw j)) y.m),(xI n.t y.t)⟩ : Af)])).length bR]) rfl rfl X3a i) ?_;rintro _ eU ⟨I,hb⟩;have f:=i;have b:=b.only I (Blk.ne b f rfl);have e:=e.only I (by omega);have d:=d.onlyT I f rfl;have aY:=aY.onlyT I f rfl;have B:=Below.only B I aH;have i:=hb;refine Yd fun a E=>?_;refine Xb<|bD _ _<|Zr E<|Ze (Xw rfl rfl (by omega) (by omega))<|Zm rfl ?_;refine Zn fun a E=>?_;refine Xe ?_;exact ⟨(q+1,l2++([(⟨drI j (xI (xI n.m (pw j)) y.m),(xI n.t y.t)⟩ : Af)])),⟨bP,bR,E.sb,(by omega),(by rw [aJ,X4e (fun a=>dA j (sA j y a)) aA];first|(rw [X59 a8];rfl)|(rw [Xkr a8];rfl)),b,e,i,d,aY,U,aZ,B⟩,(by first|omega|(dsimp only;omega))⟩
  have bO:=aE
  have a8:bitQ j n.m=false:=Xf6 aE
  have aU:=bF _ (List.mem_of_getElem? aA);refine wp_skip<|bE _ _<|Xs none (fun j=>[10,12].contains j) mixed ?_;intro eW o;have b:=b.below o;have e:=e.below o;have i:=i.below o;have C:=C.below o;have d:=d.below o;have D:=D.below o;have B:=btr B o;refine Yb E<|Yo 0 rfl (fun _=>Vd rfl X03 5)<|Ye 1 rfl (X0 rfl X0a (i.at 5))<|Yo 2 rfl (fun _=>Vd rfl X0g 0)<|Ye 3 rfl (X0 rfl X2 (C.at 0))<|Yo 4 rfl (fun _=>X8 rfl) ?_;refine Yo 6 rfl (fun _=>Vd rfl X0l 1)<|Ye 7 rfl (X0 rfl X2 (C.at 1))<|Y1 5 ?_;refine Yz rfl trivial (Vc (Xca _ n.m j (by first|exact aU.1|exact (aU.1.xor (X3h hv)).xor hy.1) hv) X74) ?_;refine Yo 8 rfl (fun _=>Xl (ps:=[(0,vi (drI j n.m)),(1,vi n.t)]) (cs:=[vi (drI j n.m),vi n.t]) rfl (fun _=>by first|rfl|kernel_rfl))<|Y1 9 ?_;refine Yk rfl trivial (Xd (k:=1) (vs:=[.agg #[vi (drI j n.m),vi n.t]]) (zs:=[vi (drI j n.m),vi n.t]) rfl Xu X2a rfl rfl) (fun _ _ ⟨_,_,_,h,_⟩=>h) ?_;rintro _ eX ⟨b52,rfl,b0,o,b1⟩
  have dG:b5≠b52:=by have:=b.lt;omega
  have bZ:b45≠b52:=by have:=C.lt;omega
  have dW:=Nat.le_trans B.size b0;have dH:=(aC.below' B).away b0;have aN:=D.away b0;have b:=b.below o;have e:=e.below o;have i:=i.below o;have C:=C.below o;have d:=d.below o;have D:=D.below o;have B:=btr B o;refine Y1 10<|Yt rfl trivial rfl (X11 (enc:=encA) (l:=(l2)) (l2:=([(⟨drI j n.m,n.t⟩ : Af)])) (B0:=w0.heap.size) rfl rfl Xu X2a Xt X43 D (Rd.of_blk b1 rfl _ b1.lt) (by simp only [maxLen];rw [aJ];simp;omega) (by rw [aJ];simp;omega) B.size) ?_;rintro _ eY ⟨bS,bU,rfl,b2,hg,aB⟩
  have L:Own _ w0.heap.size 62 2 encA _ _ (l2):=D
  have b3:=aB _ b.lt W;have c4:=aB _ C.lt M;have cA:=aB _ b1.lt aN;clear aB;have b:=b.appA hg W;have e:=e.appT L hg rfl;have i:=i.appT L hg rfl;have d:=d.appT L hg rfl;have B:=Below.app B L hg (Nat.le_refl _) B.size;clear L hg;refine Yo 11 rfl (fun _=>Vd rfl X03 5)<|Y1 12 ?_;refine Yh rfl trivial rfl (Vu (vs:=[.slice bS (l2++([(⟨drI j n.m,n.t⟩ : Af)])).length bU]) (l':=[vi p.ins,vi (p.vars-1),vi p.root,vi (g 0),.slice N (tms g).length Q,.slice bS (l2++([(⟨drI j n.m,n.t⟩ : Af)])).length bU]) rfl rfl X3a i) ?_;rintro _ f3 ⟨I,hb⟩;have f:=i;have b:=b.only I (Blk.ne b f rfl);have e:=e.only I (by omega);have d:=d.onlyT I f rfl;have b2:=b2.onlyT I f rfl;have B:=Below.only B I aH;have i:=hb;refine Yd fun a E=>?_;refine Xb<|bD _ _<|Zr E<|Ze (Xw rfl rfl (by omega) (by omega))<|Zm rfl ?_;refine Zn fun a E=>?_;refine Xe ?_;exact ⟨(q+1,l2++([(⟨drI j n.m,n.t⟩ : Af)])),⟨bS,bU,E.sb,(by omega),(by rw [aJ,X4e (fun a=>dA j (sA j y a)) aA];first|(rw [X59 a8];rfl)|(rw [Xkr a8];rfl)),b,e,i,d,b2,U,b3,B⟩,(by first|omega|(dsimp only;omega))⟩
 have bL:=a7;have a7:=of_decide_eq_false a7
 have dX:q=p.out.length:=by have:=a7;omega
 refine wp_exit<|Xh<|Xh<|Xz ?_;refine cY _ _<|Zs E fun _ dI=>?_;refine Ze (Vn Xm i)<|Zo (Vw [vi p.ins,vi (p.vars-1),vi p.root,vi (g 0),.slice N (tms g).length Q,.slice aI l2.length aL] X0c e) ?_;rintro _ f7 ⟨I,hb⟩;have f:=e;have d:=d.onlyT I f rfl;have D:=D.onlyT I f rfl;have B:=Below.only B I cD;have e:=hb;refine Zt dI fun a E=>?_
 refine wp_ret (X4 E (X00 E rfl (ResV.cellN (l:=[vi p.ins,vi (p.vars-1),vi p.root,vi (g 0),.slice N (tms g).length Q,.slice aI l2.length aL]) rfl Xm (e.at 0) rfl)) ?_)
 obtain rfl:g=foldA (p.ts.flatMap (rL j y)) (cPh p.phase):=by rw [hg,dS,List.take_length]
 obtain rfl:l2=p.out.map fun a=>dA j (sA j y a):=by rw [aJ,dX,List.take_length]
 exact ⟨N,Q,aI,aL,rfl,d.top,D.rd.top,U,B⟩
theorem Xzk(g:World)(p:Ps)(Ap:Option Addr)(cp:Nat)(aA:Rd g g.heap.size 59 encT Ap p.ts)(Bp:Option Addr)(dp:Nat)(aB:Rd g g.heap.size 62 encA Bp p.out)(j:Nat)(aF:0≤p.phase∧p.phase<8)(hT:∀ t ∈ p.ts,Mk t.m∧0<t.c∧t.c<8)(aG:∀ a ∈ p.out,AO a)(hv:j<24)(aH:-1000≤p.vars∧p.vars≤1000)(aI:p.ts.length≤100000000)(aJ:p.out.length≤100000000) : Ret Tryz.prog 117 [.agg #[vi p.ins,vi p.vars,vi p.root,vi p.phase,.slice Ap p.ts.length cp,.slice Bp p.out.length dp],vi (j:Int)] g (fun v w=>∃ A9 c9 B9 d9,v=psV A9 c9 B9 d9 (repP p j afZ)∧Rd w w.heap.size 59 encT A9 (repP p j afZ).ts∧Rd w w.heap.size 62 encA B9 (repP p j afZ).out∧(repP p j afZ).ts.length≤c9∧Below g.heap.size g w):=by
 refine enter Tryz.func117 rfl 9 rfl rfl ?_;intro a hf
 have b:=bz g
 refine Zs hf fun _ aK=>?_;refine Zf (X0v (zs:=[vi p.ins,vi p.vars,vi p.root,vi p.phase,.slice Ap p.ts.length cp,.slice Bp p.out.length dp]) rfl rfl) ?_;rintro _ w1 ⟨b4,rfl,aL,hE,f⟩;have aO:=Nat.le_trans b.size aL;have b:=btr b hE;refine Zf (X6 (zs:=[vi 0,vi 0,vi 0,vi 0,.slice none 0 0,.slice none 0 0]) X1y rfl) ?_;rintro _ w2 ⟨b7,rfl,aM,hE,d⟩
 have aE:b4≠b7:=by have:=f.lt;omega
 have aC:=Nat.le_trans b.size aM;have f:=f.below hE;have b:=btr b hE;refine Zx aK fun a hf _ aN=>?_;refine Ze (Vn Xm f)<|Zm rfl<|Ze (Xl (ps:=[]) (cs:=[vi 0,vi 0]) rfl (fun _=>by first|rfl|kernel_rfl))<|Zf (Vc (Xuc _ p Ap cp (aA.below' b).top Bp dp (aB.below' b).top j (⟨0,0⟩ : Af) aF hT aG hv AO.z aH aI aJ) Xiv) ?_;rintro _ w3 ⟨A9,c9,a6,a7,rfl,a8,e,aD,hE⟩;have d:=d.below hE;have b:=btr b hE;refine Zo (Vw [vi ((repP p j (⟨0,0⟩ : Af)).ins),vi ((repP p j (⟨0,0⟩ : Af)).vars),vi ((repP p j (⟨0,0⟩ : Af)).root),vi ((repP p j (⟨0,0⟩ : Af)).phase),.slice A9 ((repP p j (⟨0,0⟩ : Af)).ts).length c9,.slice a6 ((repP p j (⟨0,0⟩ : Af)).out).length a7] X0c d) ?_;rintro _ w4 ⟨ho,hb⟩;have i:=d;have a8:=a8.onlyT ho i rfl;have e:=e.onlyT ho i rfl;have b:=Below.only b ho aC;have d:=hb;refine Zt aN fun a hf=>?_
 refine wp_ret (X4 hf (X00 hf rfl (ResV.cellN (l:=[vi ((repP p j (⟨0,0⟩ : Af)).ins),vi ((repP p j (⟨0,0⟩ : Af)).vars),vi ((repP p j (⟨0,0⟩ : Af)).root),vi ((repP p j (⟨0,0⟩ : Af)).phase),.slice A9 ((repP p j (⟨0,0⟩ : Af)).ts).length c9,.slice a6 ((repP p j (⟨0,0⟩ : Af)).out).length a7]) rfl Xm (d.at 0) rfl)) ?_)
 exact ⟨A9,c9,a6,a7,rfl,a8.top,e.top,aD,b⟩
theorem Y11(y:World)(p:Ps)(Ap:Option Addr)(cp:Nat)(C:Rd y y.heap.size 59 encT Ap p.ts)(Bp:Option Addr)(dp:Nat)(aP:Rd y y.heap.size 62 encA Bp p.out)(aG:0≤p.phase∧p.phase<8)(hT:OkT p.ts)(aR:p.ts.length≤100000000) : Ret Tryz.prog 124 [.agg #[vi p.ins,vi p.vars,vi p.root,vi p.phase,.slice Ap p.ts.length cp,.slice Bp p.out.length dp]] y (fun v w=>∃ b9,v=.map (some b9)∧y.heap.size≤b9∧MapF w b9 (foldA (sm p.ts) (cPh p.phase))∧Below y.heap.size y w):=by
 refine enter Tryz.func124 rfl 24 rfl rfl ?_;intro a e
 have n:=bz y
 refine Zs e fun _ aH=>?_;refine Zf (X0v (zs:=[vi p.ins,vi p.vars,vi p.root,vi p.phase,.slice Ap p.ts.length cp,.slice Bp p.out.length dp]) rfl rfl) ?_;rintro _ w1 ⟨b4,rfl,aI,hE,x⟩;have aQ:=Nat.le_trans n.size aI;have n:=btr n hE;refine Za rfl<|Zx aH fun a e _ aJ=>?_;refine Zf (Xhs) ?_;rintro _ w2 ⟨b6,rfl,aK,hE,b⟩;have h:=Nat.le_trans n.size aK;have x:=x.below hE;have n:=btr n hE;refine Ze (Vd rfl X1j 3)<|Ze (X0 rfl X2 (x.at 3))<|Zo (Xva (f:=fun _=>0) (i:=0) (j:=p.phase) rfl rfl rfl Tryz.underlying143 b) ?_;rintro _ w3 ⟨A,q⟩;have B:=b.nc;have x:=x.onlyN A B;have n:=Below.only n A h
 have b:=q;clear q A B;refine Zm rfl<|Za rfl<|ZX aJ fun a e _ aL=>?_;refine Zs e fun _ aM=>?_;refine Ze (Vd rfl X0k 4)<|Ze (X0 rfl X14 (x.at 4))<|Ze (X1i rfl X02)<|Zm rfl<|Zt aM fun a e=>?_;refine wp_block<|X05 (σ:=Nat×(Int→Int)) (fun (s:Nat×(Int→Int)) (a:Act) (w:World)=>match s with|(i,g)=>Fr a 24 [(3,.map (some b6)),(11,.slice Ap p.ts.length cp),(12,vi (p.ts.length:Int)),(13,vi (i:Int))]∧(i≤p.ts.length)∧(g=foldA (sm (p.ts.take i)) (cPh p.phase))∧MapF w b6 g∧Below y.heap.size y w) (fun (s:Nat×(Int→Int))=>match s with|(i,g)=>p.ts.length-i) (0,(cPh p.phase)) ?_ ?_
 ·exact ⟨e.sb,(Nat.zero_le _),rfl,b,n⟩
 rintro ⟨i,g⟩ a w4 ⟨e,hi,hg,b,n⟩;refine Zs e fun _ aN=>?_;refine Ze (X1u rfl rfl)<|ZX aN fun a e _ aA=>?_
 refine Xf e rfl (fun d=>?_) (fun d=>?_)
 ·have a6:=d;have d:=of_decide_eq_true d
  obtain ⟨o,D⟩:=Xk (l:=p.ts) (k:=i) (by omega)
  refine wp_skip<|aA _ _<|wp_seq_k fun _ aB=>?_;refine wp_block<|Zs e fun _ aC=>?_;refine Zi (k:=i) (u:=o) (enc:=encT) (l:=p.ts) trivial rfl rfl X02 X1k X0s (C.below' n) D rfl ?_;intro aS a7;refine Ze (X0b (l:=[vi o.m,vi o.c]) rfl X47 a7 rfl)<|Zf (X6 (zs:=[vi 0,vi 0]) X65 rfl) ?_;rintro _ w5 ⟨aT,rfl,E,hE,t⟩;have a8:=Nat.le_trans n.size E;have aD:=(C.below' n).away E;have b:=b.below hE;have n:=btr n hE;refine Zo (Vw [vi o.m,vi o.c] X1k t) ?_;rintro _ w6 ⟨A,hb⟩;have aE:=t;have b:=b.only A (b.ne aE);have n:=Below.only n A a8;have t:=hb;refine Zt aC fun a e=>?_;refine Zr e<|Zm rfl<|Ze (Vd rfl X12 0)<|Ze (X0 rfl X2 (t.at 0))<|Ze (Vd rfl X22 1)<|Ze (X0 rfl X2 (t.at 1)) ?_;refine Zo (Xvf (f:=g) (i:=o.m) (j:=o.c) rfl rfl rfl Tryz.underlying143 b) ?_;rintro _ w7 ⟨A,q⟩;have B:=b.nc;have n:=Below.only n A h
  have b:=q;clear q A B;refine Zn fun a e=>?_;refine Xb<|aB _ _<|Zr e<|Ze (Xw rfl rfl (by omega) (by omega))<|Zm rfl ?_;refine Zn fun a e=>?_;refine Xe ?_;exact ⟨(i+1,upd g o.m o.c),⟨e.sb,(by omega),(by rw [hg];exact Xlx hT aG D),b,n⟩,(by first|omega|(dsimp only;omega))⟩
 have a6:=d;have d:=of_decide_eq_false d
 have aO:i=p.ts.length:=by have:=d;omega
 refine wp_exit<|Xh<|Xh<|Xz ?_;refine aL _ _<|Zs e fun _ aF=>?_;refine Zm rfl<|Za rfl<|Zt aF fun a e=>?_
 refine wp_ret (X4 e (X00 e rfl rfl) ?_)
 obtain rfl:g=(foldA (sm p.ts) (cPh p.phase)):=by rw [hg,aO,List.take_length]
 exact ⟨b6,rfl,h,b,n⟩
theorem Xuy(w0:World)(p:Ps)(Ap:Option Addr)(cp:Nat)(bD:Rd w0 w0.heap.size 59 encT Ap p.ts)(Bp:Option Addr)(dp:Nat)(aG:Rd w0 w0.heap.size 62 encA Bp p.out)(j:Nat)(y:Af)(dR:0≤p.phase∧p.phase<8)(hT:∀ t ∈ p.ts,Mk t.m∧0<t.c∧t.c<8)(aE:∀ a ∈ p.out,AO a)(hj:j<24)(hy:AO y)(dS:-1000≤p.vars∧p.vars≤1000)(eJ:p.ts.length≤100000000)(eK:p.out.length≤100000000) : Ret Tryz.prog 88 [.agg #[vi p.ins,vi p.vars,vi p.root,vi p.phase,.slice Ap p.ts.length cp,.slice Bp p.out.length dp],vi (j:Int),.agg #[vi y.m,vi y.t]] w0 (fun v w=>∃ A9 c9 B9 d9,v=psV A9 c9 B9 d9 (subP p j y)∧Rd w w.heap.size 59 encT A9 (subP p j y).ts∧Rd w w.heap.size 62 encA B9 (subP p j y).out∧Below w0.heap.size w0 w):=by
 refine enter Tryz.func88 rfl 92 rfl rfl ?_;intro a I
 have B:=bz w0
 refine Zs I fun _ dU=>?_;refine Zf (X0v (zs:=[vi p.ins,vi p.vars,vi p.root,vi p.phase,.slice Ap p.ts.length cp,.slice Bp p.out.length dp]) rfl rfl) ?_;rintro _ w1 ⟨b4,rfl,dW,C,x⟩;have eG:=Nat.le_trans B.size dW;have B:=btr B C;refine Zf (X0v (zs:=[vi y.m,vi y.t]) rfl rfl) ?_;rintro _ w2 ⟨b5,rfl,cL,C,d⟩;have eH:=Nat.le_trans B.size cL;have dP:=(aG.below' B).away cL;have x:=x.below C;have B:=btr B C;refine Zf (X6 (zs:=[vi 0,vi 0,vi 0,vi 0,.slice none 0 0,.slice none 0 0]) X1y rfl) ?_;rintro _ w3 ⟨b8,rfl,dX,C,o⟩
 have dQ:b4≠b8:=by have:=x.lt;omega
 have cM:=Nat.le_trans B.size dX;have x:=x.below C;have d:=d.below C;have B:=btr B C;refine Zx dU fun a I _ e8=>?_;refine Zf (Xhs) ?_;rintro _ w4 ⟨aH,rfl,cN,C,n⟩;have aK:=Nat.le_trans B.size cN;have x:=x.below C;have d:=d.below C;have o:=o.below C;have B:=btr B C;refine Ze (Vd rfl X1j 3)<|Ze (X0 rfl X2 (x.at 3))<|Zo (Xva (f:=fun _=>0) (i:=0) (j:=p.phase) rfl rfl rfl Tryz.underlying143 n) ?_;rintro _ w5 ⟨D,bE⟩;have aE:=n.nc;have x:=x.onlyN D aE;have d:=d.onlyN D aE;have o:=o.onlyN D aE;have B:=Below.only B D aK
 have n:=bE;clear bE D aE;refine Zm rfl<|Za rfl<|ZX e8 fun a I _ cO=>?_;refine Zs I fun _ cP=>?_;refine Ze (Vd rfl X0k 4)<|Ze (X0 rfl X14 (x.at 4))<|Ze (X1i rfl X02)<|Zm rfl<|Zt cP fun a I=>?_;refine wp_block<|X05 (σ:=Nat×(Int→Int)) (fun (s:Nat×(Int→Int)) (a:Act) (w:World)=>match s with|(k,g)=>Fr a 92 [(1,vi (j:Int)),(3,.pointer (some ⟨b4,0,none⟩)),(5,.pointer (some ⟨b5,0,none⟩)),(6,.pointer (some ⟨b8,0,none⟩)),(7,.map (some aH)),(18,.slice Ap p.ts.length cp),(19,vi (p.ts.length:Int)),(20,vi (k:Int))]∧(k≤p.ts.length)∧(g=foldA ((p.ts.take k).flatMap (sL j y)) (cPh p.phase))∧(PO g)∧(SupF g)∧Blk w b4 26 [vi p.ins,vi p.vars,vi p.root,vi p.phase,.slice Ap p.ts.length cp,.slice Bp p.out.length dp]∧Blk w b5 62 [vi y.m,vi y.t]∧Blk w b8 26 [vi 0,vi 0,vi 0,vi 0,.slice none 0 0,.slice none 0 0]∧MapF w aH g∧Below w0.heap.size w0 w) (fun (s:Nat×(Int→Int))=>match s with|(k,g)=>p.ts.length-k) (0,(cPh p.phase)) ?_ ?_
 ·exact ⟨I.sb,(Nat.zero_le _),rfl,(PO.cPh dR),(SupF.cPh _),x,d,o,n,B⟩
 rintro ⟨k,g⟩ a w6 ⟨I,hk,hg,hp,hs,x,d,o,n,B⟩;refine Zs I fun _ cQ=>?_;refine Ze (X1u rfl rfl)<|ZX cQ fun a I _ cR=>?_
 refine Xf I rfl (fun aA=>?_) (fun aA=>?_)
 ·have bK:=aA;have aA:=of_decide_eq_true aA
  obtain ⟨N,aB⟩:=Xk (l:=p.ts) (k:=k) (by omega)
  refine wp_skip<|cR _ _<|wp_seq_k fun _ bF=>?_;refine wp_block<|Zs I fun _ cS=>?_;refine Zi (k:=k) (u:=N) (enc:=encT) (l:=p.ts) trivial rfl rfl X02 X1k X0s (bD.below' B) aB rfl ?_;intro eL bL;refine Ze (X0b (l:=[vi N.m,vi N.c]) rfl X47 bL rfl)<|Zf (X6 (zs:=[vi 0,vi 0]) X65 rfl) ?_;rintro _ w7 ⟨eN,rfl,bG,C,Q⟩;have bN:=Nat.le_trans B.size bG;have cU:=(bD.below' B).away bG;have x:=x.below C;have d:=d.below C;have o:=o.below C;have n:=n.below C;have B:=btr B C;refine Zo (Vw [vi N.m,vi N.c] X1k Q) ?_;rintro _ w8 ⟨D,hb⟩;have e:=Q;have x:=x.only D (Blk.ne x e rfl);have d:=d.only D (Blk.ne d e rfl);have o:=o.only D (Blk.ne o e rfl);have n:=n.only D (n.ne e);have B:=Below.only B D bN;have Q:=hb;refine Zx cS fun a I _ cW=>?_;refine Ze (Vd rfl X12 0)<|Ze (X0 rfl X2 (Q.at 0))<|Zm rfl<|Ze (X6k (m:=j) rfl rfl rfl (by omega))<|Ze (Vx (X7r rfl rfl) (X4c (hT _ (List.mem_of_getElem? aB)).1 j)) ?_;refine Ze (X0d rfl rfl)<|Zt cW fun a I=>?_
  refine Xf I rfl (fun aI=>?_) (fun aI=>?_)
  ·have bO:=aI
   have W:bitQ j N.m=true:=Xme aI
   have aP:=hT _ (List.mem_of_getElem? aB);refine Xs (some aH) (fun _=>false) mixed ?_;intro w9 C;have x:=x.below C;have d:=d.below C;have o:=o.below C;have n:=n.below C;have Q:=Q.below C;have B:=btr B C;refine Yb I<|Yo 0 rfl (fun _=>X8 rfl)<|Yo 1 rfl (fun _=>Vd rfl X22 1) ?_;refine Yw 2 rfl trivial (fun w1 h1=>X0 rfl X2 ((Q.onlyN h1 n.nc).at 1)) ?_;refine Yw 3 rfl trivial (fun w1 h1=>X0b (l:=[vi y.m,vi y.t]) rfl X0f ((d.onlyN h1 n.nc).at 0) rfl) ?_;refine Yo 4 rfl (fun _=>Vd rfl X12 0) ?_;refine Yw 5 rfl trivial (fun w1 h1=>X0 rfl X2 ((Q.onlyN h1 n.nc).at 0)) ?_;refine Yo 6 rfl (fun _=>X8 rfl)<|Yo 7 rfl (fun _=>Vx (X30 (m:=j) rfl rfl rfl (by omega)) (X63 hj))<|Yo 8 rfl (fun _=>Vx (X66 rfl rfl) (rfl:_=(xI N.m (pw j))))<|Y1 9 ?_;refine Yf rfl trivial (EfW.mono (Vc (Xk3 _ aH g n N.c y (xI N.m (pw j)) hp (by omega) hy) Xak) (fun _ _ h=>⟨fun _=>by obtain ⟨rfl,hK,aM⟩:=h;exact hK.keep,h⟩)) ?_;rintro _ eO ⟨rfl,hK,aM⟩;obtain ⟨wm,hO,hm,C⟩:=hK.mid;clear hm;have e:=n.nc;have x:=x.onlyN hO e;have d:=d.onlyN hO e;have o:=o.onlyN hO e;have B:=Below.only B hO aK;have x:=x.below C;have d:=d.below C;have o:=o.below C;have B:=btr B C
   clear e C hO hK;have n:=aM;clear aM;refine Yd fun a I=>?_;refine Xb<|bF _ _<|Zr I<|Ze (Xw rfl rfl (by omega) (by omega))<|Zm rfl ?_;refine Zn fun a I=>?_;refine Xe ?_;exact ⟨(k+1,expP g N.c y (xI N.m (pw j))),⟨I.sb,(by omega),(by first|exact Xu6 aB hg W|exact Xv8 aB hg W),(by first|exact hp.padd _ _|exact hp.expP _ _ _),(by first|exact hs.pad hp aP.1|exact hs.exp hp hy (aP.1.xor (X3h hj))),x,d,o,n,B⟩,(by first|omega|(dsimp only;omega))⟩
  have bO:=aI
  have W:bitQ j N.m=false:=Xf6 aI
  have aP:=hT _ (List.mem_of_getElem? aB);refine Zr I<|Zm rfl<|Ze (Vd rfl X12 0)<|Ze (X0 rfl X2 (Q.at 0))<|Ze (Vd rfl X22 1)<|Ze (X0 rfl X2 (Q.at 1)) ?_;refine Zf (Vc (X6y _ aH g n N.m N.c hp (by omega)) X3n) ?_;rintro _ eP ⟨rfl,hK,aM⟩;obtain ⟨wm,hO,hm,C⟩:=hK.mid;clear hm;have e:=n.nc;have x:=x.onlyN hO e;have d:=d.onlyN hO e;have o:=o.onlyN hO e;have B:=Below.only B hO aK;have x:=x.below C;have d:=d.below C;have o:=o.below C;have B:=btr B C
  clear e C hO hK;have n:=aM;clear aM;refine Zn fun a I=>?_;refine Xb<|bF _ _<|Zr I<|Ze (Xw rfl rfl (by omega) (by omega))<|Zm rfl ?_;refine Zn fun a I=>?_;refine Xe ?_;exact ⟨(k+1,padd g N.m N.c),⟨I.sb,(by omega),(by first|exact Xu6 aB hg W|exact Xv8 aB hg W),(by first|exact hp.padd _ _|exact hp.expP _ _ _),(by first|exact hs.pad hp aP.1|exact hs.exp hp hy (aP.1.xor (X3h hj))),x,d,o,n,B⟩,(by first|omega|(dsimp only;omega))⟩
 have bK:=aA;have aA:=of_decide_eq_false aA
 have eA:k=p.ts.length:=by have:=aA;omega
 refine wp_exit<|Xh<|Xh<|Xz ?_;refine cO _ _<|Zs I fun _ cX=>?_;refine Ze (Vn Xm x)<|Zf (X6 (zs:=[vi 0,vi 0,vi 0,vi 0,.slice none 0 0,.slice none 0 0]) X1y rfl) ?_;rintro _ eQ ⟨b27,rfl,cY,C,b⟩
 have d5:b4≠b27:=by have:=x.lt;omega
 have d6:b8≠b27:=by have:=o.lt;omega
 have J:=Nat.le_trans B.size cY;have x:=x.below C;have d:=d.below C;have o:=o.below C;have n:=n.below C;have B:=btr B C;refine Zo (Vw [vi p.ins,vi p.vars,vi p.root,vi p.phase,.slice Ap p.ts.length cp,.slice Bp p.out.length dp] X0c b) ?_;rintro _ eR ⟨D,hb⟩;have e:=b;have x:=x.only D (by omega);have d:=d.only D (Blk.ne d e rfl);have o:=o.only D (by omega);have n:=n.only D (n.ne e);have B:=Below.only B D J;have b:=hb;refine ZX cX fun a I _ d7=>?_;refine X09 (fun a w=>∃ a6 a7,Fr a 92 [(1,vi (j:Int)),(3,.pointer (some ⟨b4,0,none⟩)),(5,.pointer (some ⟨b5,0,none⟩)),(6,.pointer (some ⟨b8,0,none⟩)),(10,.pointer (some ⟨b27,0,none⟩))]∧Own w w0.heap.size 59 2 encT a6 a7 (tms g)∧Blk w b4 26 [vi p.ins,vi p.vars,vi p.root,vi p.phase,.slice Ap p.ts.length cp,.slice Bp p.out.length dp]∧Blk w b5 62 [vi y.m,vi y.t]∧Blk w b8 26 [vi 0,vi 0,vi 0,vi 0,.slice none 0 0,.slice none 0 0]∧MapF w aH g∧Blk w b27 26 [vi p.ins,vi p.vars,vi p.root,vi (g 0),.slice a6 (tms g).length a7,.slice none 0 0]∧Below w0.heap.size w0 w) ?_ ?_
 ·refine Xs none (fun j=>[5,7,9].contains j) mixed ?_;intro eS C;have x:=x.below C;have d:=d.below C;have o:=o.below C;have n:=n.below C;have b:=b.below C;have B:=btr B C;refine Yb I<|Yo 0 rfl (fun _=>X8 rfl)<|Yo 2 rfl (fun _=>X8 rfl) ?_;refine Y2 1 3 ?_ ?_
  ·refine Yz rfl trivial (Uev (X85 (f:=g) rfl rfl Tryz.underlying143 n)) ?_;refine Yo 4 rfl (fun _=>Vd rfl X1j 3)<|Y1 3 ?_;refine Yk rfl trivial (Vc (Xcj _ aH g n hp hs) X7i) (fun _ _ ⟨a6,a7,_,A,C⟩=>C) ?_;rintro _ eT ⟨a6,a7,rfl,A,C⟩;have A:=A.lower B.size;have x:=x.below C;have d:=d.below C;have o:=o.below C;have n:=n.below C;have b:=b.below C;have B:=btr B C;refine Y1 5<|Yh rfl trivial rfl (Vu (vs:=[vi (g 0)]) (l':=[vi p.ins,vi p.vars,vi p.root,vi (g 0),.slice Ap p.ts.length cp,.slice Bp p.out.length dp]) rfl rfl X1d b) ?_;rintro _ eU ⟨D,hb⟩;have e:=b;have x:=x.only D (by omega);have d:=d.only D (Blk.ne d e rfl);have o:=o.only D (by omega);have n:=n.only D (n.ne e);have A:=A.onlyT D e rfl;have B:=Below.only B D J;have b:=hb;refine Yo 6 rfl (fun _=>Vd rfl X0k 4)<|Y1 7 ?_;refine Yh rfl trivial rfl (Vu (vs:=[.slice a6 (tms g).length a7]) (l':=[vi p.ins,vi p.vars,vi p.root,vi (g 0),.slice a6 (tms g).length a7,.slice Bp p.out.length dp]) rfl rfl X2g b) ?_;rintro _ eW ⟨D,hb⟩;have e:=b;have x:=x.only D (by omega);have d:=d.only D (Blk.ne d e rfl);have o:=o.only D (by omega);have n:=n.only D (n.ne e);have A:=A.onlyT D e rfl;have B:=Below.only B D J;have b:=hb;refine Yo 8 rfl (fun _=>Vd rfl X03 5)<|Y1 9 ?_;refine Yh rfl trivial rfl (Vu (vs:=[.slice none 0 0]) (l':=[vi p.ins,vi p.vars,vi p.root,vi (g 0),.slice a6 (tms g).length a7,.slice none 0 0]) rfl rfl X3a b) ?_;rintro _ eX ⟨D,hb⟩;have e:=b;have x:=x.only D (by omega);have d:=d.only D (Blk.ne d e rfl);have o:=o.only D (by omega)
   have n:=n.only D (n.ne e);have A:=A.onlyT D e rfl;have B:=Below.only B D J;have b:=hb;refine Yd fun a I=>?_;exact ⟨a6,a7,I.sb,A,x,d,o,n,b,B⟩
  refine Yk rfl trivial (Vc (Xcj _ aH g n hp hs) X7i) (fun _ _ ⟨aQ,aR,_,U,C⟩=>C) ?_;rintro _ eY ⟨aQ,aR,rfl,U,C⟩;have U:=U.lower B.size;have x:=x.below C;have d:=d.below C;have o:=o.below C;have n:=n.below C;have b:=b.below C;have B:=btr B C;refine Y1 1<|Yz rfl trivial (Uev (X85 (f:=g) rfl rfl Tryz.underlying143 n)) ?_;refine Yo 4 rfl (fun _=>Vd rfl X1j 3)<|Y1 5 ?_;refine Yh rfl trivial rfl (Vu (vs:=[vi (g 0)]) (l':=[vi p.ins,vi p.vars,vi p.root,vi (g 0),.slice Ap p.ts.length cp,.slice Bp p.out.length dp]) rfl rfl X1d b) ?_;rintro _ f3 ⟨D,hb⟩;have e:=b;have x:=x.only D (by omega);have d:=d.only D (Blk.ne d e rfl);have o:=o.only D (by omega);have n:=n.only D (n.ne e);have U:=U.onlyT D e rfl;have B:=Below.only B D J;have b:=hb;refine Yo 6 rfl (fun _=>Vd rfl X0k 4)<|Y1 7 ?_;refine Yh rfl trivial rfl (Vu (vs:=[.slice aQ (tms g).length aR]) (l':=[vi p.ins,vi p.vars,vi p.root,vi (g 0),.slice aQ (tms g).length aR,.slice Bp p.out.length dp]) rfl rfl X2g b) ?_;rintro _ f7 ⟨D,hb⟩;have e:=b;have x:=x.only D (by omega);have d:=d.only D (Blk.ne d e rfl);have o:=o.only D (by omega);have n:=n.only D (n.ne e);have U:=U.onlyT D e rfl;have B:=Below.only B D J;have b:=hb;refine Yo 8 rfl (fun _=>Vd rfl X03 5)<|Y1 9 ?_;refine Yh rfl trivial rfl (Vu (vs:=[.slice none 0 0]) (l':=[vi p.ins,vi p.vars,vi p.root,vi (g 0),.slice aQ (tms g).length aR,.slice none 0 0]) rfl rfl X3a b) ?_;rintro _ f8 ⟨D,hb⟩;have e:=b;have x:=x.only D (by omega);have d:=d.only D (Blk.ne d e rfl);have o:=o.only D (by omega)
  have n:=n.only D (n.ne e);have U:=U.onlyT D e rfl;have B:=Below.only B D J;have b:=hb;refine Yd fun a I=>?_;exact ⟨aQ,aR,I.sb,U,x,d,o,n,b,B⟩
 rintro a f9 ⟨a6,a7,I,A,x,d,o,n,b,B⟩;refine d7 _ _<|wp_seq_k fun _ d8=>?_;refine Zs I fun _ dB=>?_;refine Ze (Vd rfl X03 5)<|Ze (X0 rfl X0a (x.at 5))<|Ze (X1i rfl Xu)<|Zm rfl<|Zt dB fun a I=>?_;refine wp_block<|X05 (σ:=Nat×(List Af)) (fun (s:Nat×(List Af)) (a:Act) (w:World)=>match s with|(q,l2)=>∃ aS bC,Fr a 92 [(1,vi (j:Int)),(5,.pointer (some ⟨b5,0,none⟩)),(6,.pointer (some ⟨b8,0,none⟩)),(10,.pointer (some ⟨b27,0,none⟩)),(56,.slice Bp p.out.length dp),(57,vi (p.out.length:Int)),(58,vi (q:Int))]∧(q≤p.out.length)∧(l2=(p.out.take q).map (sA j y))∧Blk w b5 62 [vi y.m,vi y.t]∧Blk w b8 26 [vi 0,vi 0,vi 0,vi 0,.slice none 0 0,.slice none 0 0]∧Blk w b27 26 [vi p.ins,vi p.vars,vi p.root,vi (g 0),.slice a6 (tms g).length a7,.slice aS l2.length bC]∧Own w w0.heap.size 59 2 encT a6 a7 (tms g)∧Own w w0.heap.size 62 2 encA aS bC l2∧Away aS b5∧Below w0.heap.size w0 w) (fun (s:Nat×(List Af))=>match s with|(q,l2)=>p.out.length-q) (0,[]) ?_ ?_
 ·exact ⟨none,0,I.sb,(Nat.zero_le _),rfl,d,o,b,A,(Own.nil _ _ _ _ _),(Away.no _),B⟩
 rintro ⟨q,l2⟩ a fA ⟨aS,bC,I,hq,aL,d,o,b,A,H,a8,B⟩;refine Zs I fun _ dC=>?_;refine Ze (X1u rfl rfl)<|ZX dC fun a I _ dD=>?_
 refine Xf I rfl (fun aC=>?_) (fun aC=>?_)
 ·have bP:=aC;have aC:=of_decide_eq_true aC
  obtain ⟨E,aD⟩:=Xk (l:=p.out) (k:=q) (by omega)
  refine wp_skip<|dD _ _<|wp_seq_k fun _ bH=>?_;refine wp_block<|Zs I fun _ dE=>?_;refine Zi (k:=q) (u:=E) (enc:=encA) (l:=p.out) trivial rfl rfl Xu Xp Xt (aG.below' B) aD rfl ?_;intro fB bR;refine Ze (X0b (l:=[vi E.m,vi E.t]) rfl X0f bR rfl)<|Zf (X6 (zs:=[vi 0,vi 0]) X1h rfl) ?_;rintro _ fC ⟨b44,rfl,aT,C,G⟩
  have dF:b5≠b44:=by have:=d.lt;omega
  have aU:=Nat.le_trans B.size aT;have dG:=(aG.below' B).away aT;have M:=H.away aT;have d:=d.below C;have o:=o.below C;have b:=b.below C;have A:=A.below C;have H:=H.below C;have B:=btr B C;refine Zo (Vw [vi E.m,vi E.t] Xp G) ?_;rintro _ fD ⟨D,hb⟩;have e:=G;have d:=d.only D (by omega);have o:=o.only D (Blk.ne o e rfl);have b:=b.only D (Blk.ne b e rfl);have A:=A.onlyT D e rfl;have H:=H.onlyA D M;have B:=Below.only B D aU;have G:=hb;refine ZX dE fun a I _ bJ=>?_;refine Zs I fun _ dH=>?_;refine Ze (Vd rfl X0g 0)<|Ze (X0 rfl X2 (G.at 0))<|Zm rfl<|Ze (X6k (m:=j) rfl rfl rfl (by omega))<|Ze (Vx (X7r rfl rfl) (X4c (aE _ (List.mem_of_getElem? aD)).1 j)) ?_;refine Ze (X0d rfl rfl)<|Zt dH fun a I=>?_
  refine Xf I rfl (fun aJ=>?_) (fun aJ=>?_)
  ·have bS:=aJ
   have W:bitQ j E.m=true:=Xme aJ
   have eB:=aE _ (List.mem_of_getElem? aD);refine Xs none (fun j=>[14].contains j) mixed ?_;intro fE C;have d:=d.below C;have o:=o.below C;have b:=b.below C;have G:=G.below C;have A:=A.below C;have H:=H.below C;have B:=btr B C;refine Yb I<|Yo 0 rfl (fun _=>Vd rfl X0g 0)<|Ye 1 rfl (X0 rfl X2 (G.at 0))<|Yo 2 rfl (fun _=>X8 rfl)<|Yo 3 rfl (fun _=>Vx (X30 (m:=j) rfl rfl rfl (by omega)) (X63 hj))<|Yo 4 rfl (fun _=>Vx (X66 rfl rfl) (rfl:_=(xI E.m (pw j)))) ?_;refine Yo 5 rfl (fun _=>Vd rfl X0g 0)<|Ye 6 rfl (X0 rfl X2 (d.at 0))<|Yo 7 rfl (fun _=>Vx (X66 rfl rfl) (rfl:_=(xI (xI E.m (pw j)) y.m)))<|Yo 8 rfl (fun _=>Vd rfl X0l 1)<|Ye 9 rfl (X0 rfl X2 (G.at 1)) ?_;refine Yo 10 rfl (fun _=>Vd rfl X0l 1)<|Ye 11 rfl (X0 rfl X2 (d.at 1))<|Yo 12 rfl (fun _=>Vx (X66 rfl rfl) (rfl:_=(xI E.t y.t)))<|Yo 13 rfl (fun _=>Xl (ps:=[(0,vi (xI (xI E.m (pw j)) y.m)),(1,vi (xI E.t y.t))]) (cs:=[vi (xI (xI E.m (pw j)) y.m),vi (xI E.t y.t)]) rfl (fun _=>by first|rfl|kernel_rfl))<|Y1 14 ?_;refine Yh rfl trivial rfl (Vw [vi (xI (xI E.m (pw j)) y.m),vi (xI E.t y.t)] Xp G) ?_;rintro _ fF ⟨D,hb⟩;have e:=G;have d:=d.only D (by omega);have o:=o.only D (Blk.ne o e rfl);have b:=b.only D (Blk.ne b e rfl);have A:=A.onlyT D e rfl;have H:=H.onlyA D M;have B:=Below.only B D aU;have G:=hb;refine Yd fun a I=>?_;refine bJ _ _<|Zr I<|Ze (Vd rfl X03 5)<|Ze (X0 rfl X0a (b.at 5))<|Ze (Vn X0f G)<|Zf (Xd (k:=1) (vs:=[.agg #[vi (xI (xI E.m (pw j)) y.m),vi (xI E.t y.t)]]) (zs:=[vi (xI (xI E.m (pw j)) y.m),vi (xI E.t y.t)]) rfl Xu X2a rfl rfl) ?_;rintro _ fG ⟨b48,rfl,aW,C,aX⟩
   have dI:b5≠b48:=by have:=d.lt;omega
   have cE:b44≠b48:=by have:=G.lt;omega
   have eC:=Nat.le_trans B.size aW;have dJ:=(aG.below' B).away aW;have aN:=H.away aW;have d:=d.below C;have o:=o.below C;have b:=b.below C;have G:=G.below C;have A:=A.below C;have H:=H.below C;have B:=btr B C;refine Zf (X11 (enc:=encA) (l:=(l2)) (l2:=([(⟨(xI (xI E.m (pw j)) y.m),(xI E.t y.t)⟩ : Af)])) (B0:=w0.heap.size) rfl rfl Xu X2a Xt X43 H (Rd.of_blk aX rfl _ aX.lt) (by simp only [maxLen];rw [aL];simp;omega) (by rw [aL];simp;omega) B.size) ?_;rintro _ fH ⟨bU,bW,rfl,aY,hg,aF⟩
   have L:Own _ w0.heap.size 62 2 encA _ _ (l2):=H
   have aZ:=aF _ d.lt a8;have cF:=aF _ G.lt M;have cG:=aF _ aX.lt aN;clear aF;have d:=d.appA hg a8;have o:=o.appT L hg rfl;have b:=b.appT L hg rfl;have A:=A.appT L hg rfl;have B:=Below.app B L hg (Nat.le_refl _) B.size;clear L hg;refine Ze (Vd rfl X03 5)<|Zo (Vu (vs:=[.slice bU (l2++([(⟨(xI (xI E.m (pw j)) y.m),(xI E.t y.t)⟩ : Af)])).length bW]) (l':=[vi p.ins,vi p.vars,vi p.root,vi (g 0),.slice a6 (tms g).length a7,.slice bU (l2++([(⟨(xI (xI E.m (pw j)) y.m),(xI E.t y.t)⟩ : Af)])).length bW]) rfl rfl X3a b) ?_;rintro _ fI ⟨D,hb⟩;have e:=b;have d:=d.only D (Blk.ne d e rfl);have o:=o.only D (by omega);have A:=A.onlyT D e rfl;have aY:=aY.onlyT D e rfl;have B:=Below.only B D J;have b:=hb;refine Zn fun a I=>?_;refine Xb<|bH _ _<|Zr I<|Ze (Xw rfl rfl (by omega) (by omega))<|Zm rfl ?_;refine Zn fun a I=>?_;refine Xe ?_;exact ⟨(q+1,l2++([(⟨(xI (xI E.m (pw j)) y.m),(xI E.t y.t)⟩ : Af)])),⟨bU,bW,I.sb,(by omega),(by rw [aL,X4e (sA j y) aD];first|rw [X59 W]|(rw [X59 W];rfl)|rw [Xkr W]|(rw [Xkr W];rfl)),d,o,b,A,aY,aZ,B⟩,(by first|omega|(dsimp only;omega))⟩
  have bS:=aJ
  have W:bitQ j E.m=false:=Xf6 aJ
  have eB:=aE _ (List.mem_of_getElem? aD);refine wp_skip<|bJ _ _<|Zr I<|Ze (Vd rfl X03 5)<|Ze (X0 rfl X0a (b.at 5))<|Ze (Vn X0f G)<|Zf (Xd (k:=1) (vs:=[.agg #[vi E.m,vi E.t]]) (zs:=[vi E.m,vi E.t]) rfl Xu X2a rfl rfl) ?_;rintro _ fJ ⟨b51,rfl,b0,C,b1⟩
  have dK:b5≠b51:=by have:=d.lt;omega
  have cH:b44≠b51:=by have:=G.lt;omega
  have eD:=Nat.le_trans B.size b0;have dL:=(aG.below' B).away b0;have aO:=H.away b0;have d:=d.below C;have o:=o.below C;have b:=b.below C;have G:=G.below C;have A:=A.below C;have H:=H.below C;have B:=btr B C;refine Zf (X11 (enc:=encA) (l:=(l2)) (l2:=([E])) (B0:=w0.heap.size) rfl rfl Xu X2a Xt X43 H (Rd.of_blk b1 rfl _ b1.lt) (by simp only [maxLen];rw [aL];simp;omega) (by rw [aL];simp;omega) B.size) ?_;rintro _ fK ⟨bX,bY,rfl,b2,hg,aF⟩
  have L:Own _ w0.heap.size 62 2 encA _ _ (l2):=H
  have b3:=aF _ d.lt a8;have cJ:=aF _ G.lt M;have cK:=aF _ b1.lt aO;clear aF;have d:=d.appA hg a8;have o:=o.appT L hg rfl;have b:=b.appT L hg rfl;have A:=A.appT L hg rfl;have B:=Below.app B L hg (Nat.le_refl _) B.size;clear L hg;refine Ze (Vd rfl X03 5)<|Zo (Vu (vs:=[.slice bX (l2++([E])).length bY]) (l':=[vi p.ins,vi p.vars,vi p.root,vi (g 0),.slice a6 (tms g).length a7,.slice bX (l2++([E])).length bY]) rfl rfl X3a b) ?_;rintro _ fL ⟨D,hb⟩;have e:=b;have d:=d.only D (Blk.ne d e rfl);have o:=o.only D (by omega);have A:=A.onlyT D e rfl;have b2:=b2.onlyT D e rfl;have B:=Below.only B D J;have b:=hb;refine Zn fun a I=>?_;refine Xb<|bH _ _<|Zr I<|Ze (Xw rfl rfl (by omega) (by omega))<|Zm rfl ?_;refine Zn fun a I=>?_;refine Xe ?_;exact ⟨(q+1,l2++([E])),⟨bX,bY,I.sb,(by omega),(by rw [aL,X4e (sA j y) aD];first|rw [X59 W]|(rw [X59 W];rfl)|rw [Xkr W]|(rw [Xkr W];rfl)),d,o,b,A,b2,b3,B⟩,(by first|omega|(dsimp only;omega))⟩
 have bP:=aC;have aC:=of_decide_eq_false aC
 have eE:q=p.out.length:=by have:=aC;omega
 have eF:g=foldA (p.ts.flatMap (sL j y)) (cPh p.phase):=by rw [hg,eA,List.take_length]
 have bZ:l2=p.out.map (sA j y):=by rw [aL,eE,List.take_length]
 have dM:∀ a ∈ l2,Mk a.m:=fun a9 h9=>by rw [bZ] at h9;obtain ⟨b9,h8,rfl⟩:=List.mem_map.1 h9;exact (Y0a hj hy (aE b9 h8)).1
 have dN:l2.length≤100000000:=by rw [bZ];simp;omega
 have eI:=X5a g;refine wp_exit<|Xh<|Xh<|Xz ?_;refine d8 _ _<|Zs I fun _ dO=>?_;refine Ze (Vn Xm b)<|Zm rfl<|Zf (Vc (Xnn _ (⟨p.ins,p.vars,p.root,g 0,(tms g),l2⟩ : Ps) a6 a7 A.rd.top aS bC H.rd.top j (Xe6 hp).mks dM hj dS (by show (tms g).length≤100000000;omega) dN) Xdh) ?_;rintro _ fM ⟨c4,cA,cC,cD,rfl,b6,b7,C⟩;have o:=o.below C;have B:=btr B C;refine Zo (Vw [vi ((woP (⟨p.ins,p.vars,p.root,g 0,(tms g),l2⟩ : Ps) j).ins),vi ((woP (⟨p.ins,p.vars,p.root,g 0,(tms g),l2⟩ : Ps) j).vars),vi ((woP (⟨p.ins,p.vars,p.root,g 0,(tms g),l2⟩ : Ps) j).root),vi ((woP (⟨p.ins,p.vars,p.root,g 0,(tms g),l2⟩ : Ps) j).phase),.slice c4 ((woP (⟨p.ins,p.vars,p.root,g 0,(tms g),l2⟩ : Ps) j).ts).length cA,.slice cC ((woP (⟨p.ins,p.vars,p.root,g 0,(tms g),l2⟩ : Ps) j).out).length cD] X0c o) ?_;rintro _ fN ⟨D,hb⟩;have e:=o;have b6:=b6.onlyT D e rfl;have b7:=b7.onlyT D e rfl;have B:=Below.only B D cM;have o:=hb;refine Zt dO fun a I=>?_
 refine wp_ret (X4 I (X00 I rfl (ResV.cellN (l:=[vi ((woP (⟨p.ins,p.vars,p.root,g 0,(tms g),l2⟩ : Ps) j).ins),vi ((woP (⟨p.ins,p.vars,p.root,g 0,(tms g),l2⟩ : Ps) j).vars),vi ((woP (⟨p.ins,p.vars,p.root,g 0,(tms g),l2⟩ : Ps) j).root),vi ((woP (⟨p.ins,p.vars,p.root,g 0,(tms g),l2⟩ : Ps) j).phase),.slice c4 ((woP (⟨p.ins,p.vars,p.root,g 0,(tms g),l2⟩ : Ps) j).ts).length cA,.slice cC ((woP (⟨p.ins,p.vars,p.root,g 0,(tms g),l2⟩ : Ps) j).out).length cD]) rfl Xm (o.at 0) rfl)) ?_)
 rw [Xxs,← eF,← bZ]
 exact ⟨c4,cA,cC,cD,rfl,b6.top,b7.top,B⟩
theorem Xv9(L:World)(p:Ps)(Ap:Option Addr)(cp:Nat)(Q:Rd L L.heap.size 59 encT Ap p.ts)(N:Option Addr)(U:Nat)(aD:Rd L L.heap.size 62 encA N p.out)(j:Nat)(k:Int)(z:Int)(aA:0≤p.phase∧p.phase<8)(hT:OkT p.ts)(W:∀ a ∈ p.out,AO a)(hj:j<24)(hk:-8≤k∧k≤8)(hz:Mk z)(bF:-1000≤p.vars∧p.vars≤1000)(bG:p.ts.length≤100000000)(bH:p.out.length≤100000000) : Ret Tryz.prog 86 [.agg #[vi p.ins,vi p.vars,vi p.root,vi p.phase,.slice Ap p.ts.length cp,.slice N p.out.length U],vi (j:Int),vi k,vi z] L (fun v w=>∃ A9 c9 B9 d9,v=psV A9 c9 B9 d9 (stP p j k z)∧Rd w w.heap.size 59 encT A9 (stP p j k z).ts∧Rd w w.heap.size 62 encA B9 (stP p j k z).out∧Below L.heap.size L w):=by
 refine enter Tryz.func86 rfl 47 rfl rfl ?_;intro a y
 have o:=bz L
 refine Zs y fun _ bJ=>?_;refine Zf (X0v (zs:=[vi p.ins,vi p.vars,vi p.root,vi p.phase,.slice Ap p.ts.length cp,.slice N p.out.length U]) rfl rfl) ?_;rintro _ w1 ⟨b4,rfl,bK,t,q⟩;have bS:=Nat.le_trans o.size bK;have o:=btr o t;refine Zf (X6 (zs:=[vi 0,vi 0,vi 0,vi 0,.slice none 0 0,.slice none 0 0]) X1y rfl) ?_;rintro _ w2 ⟨b7,rfl,bL,t,b⟩
 have bE:b4≠b7:=by have:=q.lt;omega
 have aR:=Nat.le_trans o.size bL;have q:=q.below t;have o:=btr o t;refine Zx bJ fun a y _ bN=>?_;refine Ze (Vn Xm q)<|Zf (Vc (Y11 _ p Ap cp (Q.below' o).top N U (aD.below' o).top aA hT bG) Xq7) ?_;rintro _ w3 ⟨b9,rfl,bO,d,t⟩;have aS:=o.size;have q:=q.below t;have b:=b.below t;have o:=btr o t;have aE:=Nat.le_trans aS bO;refine Za rfl<|ZX bN fun a y _ aT=>?_;refine Zs y fun _ aU=>?_;refine Ze (Vd rfl X0k 4)<|Ze (X0 rfl X14 (q.at 4))<|Ze (X1i rfl X02)<|Zm rfl<|Zt aU fun a y=>?_;refine wp_block<|X05 (σ:=Nat×(Int→Int)) (fun (s:Nat×(Int→Int)) (a:Act) (w:World)=>match s with|(i,g)=>Fr a 47 [(1,vi (j:Int)),(2,vi k),(3,vi z),(4,.pointer (some ⟨b4,0,none⟩)),(8,.pointer (some ⟨b7,0,none⟩)),(9,.map (some b9)),(16,.slice Ap p.ts.length cp),(17,vi (p.ts.length:Int)),(18,vi (i:Int))]∧(i≤p.ts.length)∧(g=delF j (p.ts.take i) (foldA (sm p.ts) (cPh p.phase)))∧(PO g)∧(SupF g)∧Blk w b4 26 [vi p.ins,vi p.vars,vi p.root,vi p.phase,.slice Ap p.ts.length cp,.slice N p.out.length U]∧Blk w b7 26 [vi 0,vi 0,vi 0,vi 0,.slice none 0 0,.slice none 0 0]∧MapF w b9 g∧Below L.heap.size L w) (fun (s:Nat×(Int→Int))=>match s with|(i,g)=>p.ts.length-i) (0,(foldA (sm p.ts) (cPh p.phase))) ?_ ?_
 ·exact ⟨y.sb,(Nat.zero_le _),rfl,(PO.foldA _ (PO.cPh aA)),(SupF.fold (Xug hT.mks) (PO.cPh aA) (SupF.cPh _)),q,b,d,o⟩
 rintro ⟨i,g⟩ a w4 ⟨y,hi,hg,hp,hs,q,b,d,o⟩;refine Zs y fun _ aW=>?_;refine Ze (X1u rfl rfl)<|ZX aW fun a y _ aX=>?_
 refine Xf y rfl (fun A=>?_) (fun A=>?_)
 ·have aI:=A;have A:=of_decide_eq_true A
  obtain ⟨E,D⟩:=Xk (l:=p.ts) (k:=i) (by omega)
  refine wp_skip<|aX _ _<|wp_seq_k fun _ aF=>?_;refine wp_block<|Zs y fun _ aY=>?_;refine Zi (k:=i) (u:=E) (enc:=encT) (l:=p.ts) trivial rfl rfl X02 X1k X0s (Q.below' o) D rfl ?_;intro bW aJ;refine Ze (X0b (l:=[vi E.m,vi E.c]) rfl X47 aJ rfl)<|Zf (X6 (zs:=[vi 0,vi 0]) X65 rfl) ?_;rintro _ w5 ⟨bX,rfl,aG,t,I⟩;have aK:=Nat.le_trans o.size aG;have aZ:=(Q.below' o).away aG;have q:=q.below t;have b:=b.below t;have d:=d.below t;have o:=btr o t;refine Zo (Vw [vi E.m,vi E.c] X1k I) ?_;rintro _ w6 ⟨x,M⟩;have n:=I;have q:=q.only x (Blk.ne q n rfl);have b:=b.only x (Blk.ne b n rfl);have d:=d.only x (d.ne n);have o:=Below.only o x aK;have I:=M;refine Zx aY fun a y _ b0=>?_;refine Ze (Vd rfl X12 0)<|Ze (X0 rfl X2 (I.at 0))<|Zm rfl<|Ze (X6k (m:=j) rfl rfl rfl (by omega))<|Ze (Vx (X7r rfl rfl) (X4c (hT.mks _ (List.mem_of_getElem? D)) j)) ?_;refine Ze (X0d rfl rfl)<|Zt b0 fun a y=>?_
  refine Xf y rfl (fun J=>?_) (fun J=>?_)
  ·have aL:=J
   have a6:bitQ j E.m=true:=Xme J
   refine Zr y<|Zm rfl<|Ze (Vd rfl X12 0)<|Ze (X0 rfl X2 (I.at 0))<|Zo (Y1p (f:=g) (i:=E.m) rfl rfl Tryz.underlying143 d) ?_;rintro _ w7 ⟨rfl,x,aH⟩;have W:=d.nc;have q:=q.onlyN x W;have b:=b.onlyN x W;have o:=Below.only o x aE
   have d:=aH;clear aH x W;refine Zn fun a y=>?_;refine Xb<|aF _ _<|Zr y<|Ze (Xw rfl rfl (by omega) (by omega))<|Zm rfl ?_;refine Zn fun a y=>?_;refine Xe ?_;exact ⟨(i+1,upd g E.m 0),⟨y.sb,(by omega),(by first|exact Xuw D hg a6|exact Xv1 D hg a6),(by first|exact hp.upd0 _|exact hp),(by first|exact hs.upd0 _|exact hs),q,b,d,o⟩,(by first|omega|(dsimp only;omega))⟩
  have aL:=J
  have a6:bitQ j E.m=false:=Xf6 J
  refine wp_skip<|Xb<|aF _ _<|Zr y ?_;refine Ze (Xw rfl rfl (by omega) (by omega))<|Zm rfl ?_;refine Zn fun a y=>?_;refine Xe ?_;exact ⟨(i+1,g),⟨y.sb,(by omega),(by first|exact Xuw D hg a6|exact Xv1 D hg a6),(by first|exact hp.upd0 _|exact hp),(by first|exact hs.upd0 _|exact hs),q,b,d,o⟩,(by first|omega|(dsimp only;omega))⟩
 have aI:=A;have A:=of_decide_eq_false A
 have bP:i=p.ts.length:=by have:=A;omega
 have bR:g=foldA (sm (nob j p.ts)) (cPh p.phase):=by rw [hg,bP,List.take_length,Xqj hT aA]
 have bU:=X5a (expP g k (⟨z,0⟩ : Af) 0)
 have aM:AO ⟨z,0⟩:=⟨hz,.inl rfl⟩
 refine wp_exit<|Xh<|Xh<|Xz ?_;refine aT _ _<|Zs y fun _ b1=>?_;refine Zm rfl<|Zm rfl<|Zm rfl<|Ze (Xl (ps:=[(0,vi z)]) (cs:=[vi z,vi 0]) rfl (fun _=>by first|rfl|kernel_rfl))<|Zf (Vc (Xk3 _ b9 g d k (⟨z,0⟩ : Af) 0 hp hk aM) Xak) ?_;rintro _ w8 ⟨rfl,hK,b2⟩;obtain ⟨wm,hO,hm,t⟩:=hK.mid;clear hm;have n:=d.nc;have q:=q.onlyN hO n;have b:=b.onlyN hO n;have o:=Below.only o hO aE;have q:=q.below t;have b:=b.below t;have o:=btr o t
 clear n t hO hK;have d:=b2;clear b2;refine Zx b1 fun a y _ b3=>?_;refine Ze (Vn Xm q)<|Zf (X6 (zs:=[vi 0,vi 0,vi 0,vi 0,.slice none 0 0,.slice none 0 0]) X1y rfl) ?_;rintro _ w9 ⟨b27,rfl,b5,t,e⟩
 have b6:b4≠b27:=by have:=q.lt;omega
 have b8:b7≠b27:=by have:=b.lt;omega
 have C:=Nat.le_trans o.size b5;have b:=b.below t;have d:=d.below t;have o:=btr o t;refine Zo (Vw [vi p.ins,vi p.vars,vi p.root,vi p.phase,.slice Ap p.ts.length cp,.slice N p.out.length U] X0c e) ?_;rintro _ bY ⟨x,M⟩;have n:=e;have b:=b.only x (by omega);have d:=d.only x (d.ne n);have o:=Below.only o x C;have e:=M;refine ZX b3 fun a y _ bC=>?_;refine X09 (fun a w=>∃ G H,Fr a 47 [(1,vi (j:Int)),(8,.pointer (some ⟨b7,0,none⟩)),(12,.pointer (some ⟨b27,0,none⟩))]∧Own w L.heap.size 59 2 encT G H (tms (expP g k (⟨z,0⟩ : Af) 0))∧Blk w b7 26 [vi 0,vi 0,vi 0,vi 0,.slice none 0 0,.slice none 0 0]∧MapF w b9 (expP g k (⟨z,0⟩ : Af) 0)∧Blk w b27 26 [vi p.ins,vi p.vars,vi p.root,vi ((expP g k (⟨z,0⟩ : Af) 0) 0),.slice G (tms (expP g k (⟨z,0⟩ : Af) 0)).length H,.slice N p.out.length U]∧Below L.heap.size L w) ?_ ?_
 ·refine Xs none (fun j=>[5,7].contains j) mixed ?_;intro bZ t;have b:=b.below t;have d:=d.below t;have e:=e.below t;have o:=btr o t;refine Yb y<|Yo 0 rfl (fun _=>X8 rfl)<|Yo 2 rfl (fun _=>X8 rfl) ?_;refine Y2 1 3 ?_ ?_
  ·refine Yz rfl trivial (Uev (X85 (f:=expP g k (⟨z,0⟩ : Af) 0) rfl rfl Tryz.underlying143 d)) ?_;refine Yo 4 rfl (fun _=>Vd rfl X1j 3)<|Y1 3 ?_;refine Yk rfl trivial (Vc (Xcj _ b9 (expP g k (⟨z,0⟩ : Af) 0) d (hp.expP _ _ _) (hs.exp hp aM Mk.zero)) X7i) (fun _ _ ⟨G,H,_,h,t⟩=>t) ?_;rintro _ c4 ⟨G,H,rfl,h,t⟩;have h:=h.lower o.size;have b:=b.below t;have d:=d.below t;have e:=e.below t;have o:=btr o t;refine Y1 5<|Yh rfl trivial rfl (Vu (vs:=[vi ((expP g k (⟨z,0⟩ : Af) 0) 0)]) (l':=[vi p.ins,vi p.vars,vi p.root,vi ((expP g k (⟨z,0⟩ : Af) 0) 0),.slice Ap p.ts.length cp,.slice N p.out.length U]) rfl rfl X1d e) ?_;rintro _ cA ⟨x,M⟩;have n:=e;have b:=b.only x (by omega);have d:=d.only x (d.ne n);have h:=h.onlyT x n rfl;have o:=Below.only o x C;have e:=M;refine Yo 6 rfl (fun _=>Vd rfl X0k 4)<|Y1 7 ?_;refine Yh rfl trivial rfl (Vu (vs:=[.slice G (tms (expP g k (⟨z,0⟩ : Af) 0)).length H]) (l':=[vi p.ins,vi p.vars,vi p.root,vi ((expP g k (⟨z,0⟩ : Af) 0) 0),.slice G (tms (expP g k (⟨z,0⟩ : Af) 0)).length H,.slice N p.out.length U]) rfl rfl X2g e) ?_;rintro _ cC ⟨x,M⟩;have n:=e;have b:=b.only x (by omega);have d:=d.only x (d.ne n);have h:=h.onlyT x n rfl;have o:=Below.only o x C;have e:=M;refine Yd fun a y=>?_;exact ⟨G,H,y.sb,h,b,d,e,o⟩
  refine Yk rfl trivial (Vc (Xcj _ b9 (expP g k (⟨z,0⟩ : Af) 0) d (hp.expP _ _ _) (hs.exp hp aM Mk.zero)) X7i) (fun _ _ ⟨aB,aC,_,B,t⟩=>t) ?_;rintro _ cD ⟨aB,aC,rfl,B,t⟩;have B:=B.lower o.size;have b:=b.below t;have d:=d.below t;have e:=e.below t;have o:=btr o t;refine Y1 1<|Yz rfl trivial (Uev (X85 (f:=expP g k (⟨z,0⟩ : Af) 0) rfl rfl Tryz.underlying143 d)) ?_;refine Yo 4 rfl (fun _=>Vd rfl X1j 3)<|Y1 5 ?_;refine Yh rfl trivial rfl (Vu (vs:=[vi ((expP g k (⟨z,0⟩ : Af) 0) 0)]) (l':=[vi p.ins,vi p.vars,vi p.root,vi ((expP g k (⟨z,0⟩ : Af) 0) 0),.slice Ap p.ts.length cp,.slice N p.out.length U]) rfl rfl X1d e) ?_;rintro _ cE ⟨x,M⟩;have n:=e;have b:=b.only x (by omega);have d:=d.only x (d.ne n);have B:=B.onlyT x n rfl;have o:=Below.only o x C;have e:=M;refine Yo 6 rfl (fun _=>Vd rfl X0k 4)<|Y1 7 ?_;refine Yh rfl trivial rfl (Vu (vs:=[.slice aB (tms (expP g k (⟨z,0⟩ : Af) 0)).length aC]) (l':=[vi p.ins,vi p.vars,vi p.root,vi ((expP g k (⟨z,0⟩ : Af) 0) 0),.slice aB (tms (expP g k (⟨z,0⟩ : Af) 0)).length aC,.slice N p.out.length U]) rfl rfl X2g e) ?_;rintro _ cF ⟨x,M⟩;have n:=e;have b:=b.only x (by omega);have d:=d.only x (d.ne n);have B:=B.onlyT x n rfl;have o:=Below.only o x C;have e:=M;refine Yd fun a y=>?_;exact ⟨aB,aC,y.sb,B,b,d,e,o⟩
 rintro a cG ⟨G,H,y,h,b,d,e,o⟩;refine bC _ _<|Zs y fun _ bD=>?_;refine Ze (Vn Xm e)<|Zm rfl<|Zf (Vc (Xnn _ (⟨p.ins,p.vars,p.root,(expP g k (⟨z,0⟩ : Af) 0) 0,(tms (expP g k (⟨z,0⟩ : Af) 0)),p.out⟩ : Ps) G H h.rd.top N U (aD.below' o).top j (Xe6 (hp.expP _ _ _)).mks (fun a9 h9=>(W a9 h9).1) hj bF (by show (tms (expP g k (⟨z,0⟩ : Af) 0)).length≤100000000;omega) bH) Xdh) ?_;rintro _ cH ⟨aN,aO,aP,aQ,rfl,a7,a8,t⟩;have b:=b.below t;have o:=btr o t;refine Zo (Vw [vi ((woP (⟨p.ins,p.vars,p.root,(expP g k (⟨z,0⟩ : Af) 0) 0,(tms (expP g k (⟨z,0⟩ : Af) 0)),p.out⟩ : Ps) j).ins),vi ((woP (⟨p.ins,p.vars,p.root,(expP g k (⟨z,0⟩ : Af) 0) 0,(tms (expP g k (⟨z,0⟩ : Af) 0)),p.out⟩ : Ps) j).vars),vi ((woP (⟨p.ins,p.vars,p.root,(expP g k (⟨z,0⟩ : Af) 0) 0,(tms (expP g k (⟨z,0⟩ : Af) 0)),p.out⟩ : Ps) j).root),vi ((woP (⟨p.ins,p.vars,p.root,(expP g k (⟨z,0⟩ : Af) 0) 0,(tms (expP g k (⟨z,0⟩ : Af) 0)),p.out⟩ : Ps) j).phase),.slice aN ((woP (⟨p.ins,p.vars,p.root,(expP g k (⟨z,0⟩ : Af) 0) 0,(tms (expP g k (⟨z,0⟩ : Af) 0)),p.out⟩ : Ps) j).ts).length aO,.slice aP ((woP (⟨p.ins,p.vars,p.root,(expP g k (⟨z,0⟩ : Af) 0) 0,(tms (expP g k (⟨z,0⟩ : Af) 0)),p.out⟩ : Ps) j).out).length aQ] X0c b) ?_;rintro _ cJ ⟨x,M⟩;have n:=b;have a7:=a7.onlyT x n rfl;have a8:=a8.onlyT x n rfl;have o:=Below.only o x aR;have b:=M;refine Zt bD fun a y=>?_
 refine wp_ret (X4 y (X00 y rfl (ResV.cellN (l:=[vi ((woP (⟨p.ins,p.vars,p.root,(expP g k (⟨z,0⟩ : Af) 0) 0,(tms (expP g k (⟨z,0⟩ : Af) 0)),p.out⟩ : Ps) j).ins),vi ((woP (⟨p.ins,p.vars,p.root,(expP g k (⟨z,0⟩ : Af) 0) 0,(tms (expP g k (⟨z,0⟩ : Af) 0)),p.out⟩ : Ps) j).vars),vi ((woP (⟨p.ins,p.vars,p.root,(expP g k (⟨z,0⟩ : Af) 0) 0,(tms (expP g k (⟨z,0⟩ : Af) 0)),p.out⟩ : Ps) j).root),vi ((woP (⟨p.ins,p.vars,p.root,(expP g k (⟨z,0⟩ : Af) 0) 0,(tms (expP g k (⟨z,0⟩ : Af) 0)),p.out⟩ : Ps) j).phase),.slice aN ((woP (⟨p.ins,p.vars,p.root,(expP g k (⟨z,0⟩ : Af) 0) 0,(tms (expP g k (⟨z,0⟩ : Af) 0)),p.out⟩ : Ps) j).ts).length aO,.slice aP ((woP (⟨p.ins,p.vars,p.root,(expP g k (⟨z,0⟩ : Af) 0) 0,(tms (expP g k (⟨z,0⟩ : Af) 0)),p.out⟩ : Ps) j).out).length aQ]) rfl Xm (b.at 0) rfl)) ?_)
 rw [Y0b,← X33,← bR]
 exact ⟨aN,aO,aP,aQ,rfl,a7.top,a8.top,o⟩
theorem Y18(w0:World)(x:Nat)(hx:x<4611686018427387904)(a6:TabAt w0) : Ret Tryz.prog 123 [.int .u64 (x:Int)] w0 (fun v w=>v=vi ((tzN x:Nat) : Int)∧w0=w):=by
 have aE:(2:Nat)^62=4611686018427387904:=by decide
 have aF:(2:Nat)^64=18446744073709551616:=by decide
 refine enter Tryz.func123 rfl 14 rfl rfl ?_;intro a b
 have hW:=bz w0
 refine Zs b fun _ a8=>?_;refine Za rfl<|ZX a8 fun a b _ aA=>?_;refine Zs b fun _ aB=>?_;refine Zm rfl<|Ze (Y1z rfl rfl)<|Zt aB fun a b=>?_
 refine Xf b rfl (fun c=>?_) (fun c=>?_)
 ·have a7:=c
  have h0:x=0:=by have:=c;simp at this;omega
  refine Zs b fun _ aC=>?_;refine Za rfl<|Zt aC fun a b=>?_;refine wp_ret<|X5<|X4 b (X00 b rfl rfl) ?_;exact ⟨by rw [show tzN x=64 from by unfold tzN;rw [if_pos h0]];rfl,rfl⟩
 have a7:=c
 have h0:x≠0:=by have:=c;simp at this;omega
 have hq:=Y01 (by omega) h0
 refine wp_skip<|aA _ _<|Zs b fun _ aD=>?_;refine Zm rfl<|Zm rfl<|Ze (Vx (Y0f rfl) (Y3g (by omega) (by omega)))<|Ze (Vx (X9n rfl rfl) (Xzi (by omega) h0))<|Ze (Vx (Xmn rfl rfl) (Y2d (2^tzN x) 285870213051353865)) ?_;refine Ze (Vx (X8t (m:=58) rfl rfl rfl (by decide)) (X82 (2^tzN x*285870213051353865 % 2^64) 58))<|Ze (Xh0 (k:=dbI (tzN x)) rfl rfl Tryz.underlying184 Y0r rfl (Y1i (by omega)))<|Ze (X0 rfl Xzg (Xye a6 (by omega)))<|Ze (Xzq Tryz.underlying5 Tryz.underlying3 rfl (by omega))<|Za rfl ?_;refine Zt aD fun a b=>?_
 refine wp_ret (X4 b (X00 b rfl rfl) ?_)
 exact ⟨rfl,rfl⟩
theorem Xz7(w0:World)(x:Nat)(hx:x<4611686018427387904)(a6:TabAt w0) : Ret Tryz.prog 84 [.int .u64 (x:Int)] w0 (fun v w=>v=vi ((tzN x:Nat) : Int)∧w0=w):=by
 refine enter Tryz.func84 rfl 8 rfl rfl ?_;intro a hf
 have hW:=bz w0
 refine Zs hf fun _ a7=>?_;refine Za rfl<|ZX a7 fun a hf _ a8=>?_;refine Xeq hf rfl ?_;refine wp_skip<|a8 _ _<|Zs hf fun _ aA=>?_;refine Zm rfl<|Zf (Vc (Y18 _ x hx a6) Xti) ?_;rintro _ _ ⟨rfl,rfl⟩;refine Za rfl<|Zt aA fun a hf=>?_
 refine wp_ret (X4 hf (X00 hf rfl rfl) ?_)
 exact ⟨rfl,rfl⟩
theorem Y1x(H:World)(p:Ps)(Ap:Option Addr)(cp:Nat)(I:Rd H H.heap.size 59 encT Ap p.ts)(Bp:Option Addr)(dp:Nat)(aT:Rd H H.heap.size 62 encA Bp p.out)(j:Nat)(hT:OkT p.ts)(hj:j<24)(aX:p.ts.length≤100000000) : Ret Tryz.prog 83 [.agg #[vi p.ins,vi p.vars,vi p.root,vi p.phase,.slice Ap p.ts.length cp,.slice Bp p.out.length dp],vi (j:Int)] H (fun v w=>v=.tuple #[vi ((arF j p.ts).c),vi ((arF j p.ts).z),.bool ((arF j p.ts).any),.bool ((arF j p.ts).pl)]∧Below H.heap.size H w):=by
 refine enter Tryz.func83 rfl 55 rfl rfl ?_;intro a b
 have A:=bz H
 refine Zs b fun _ aK=>?_;refine Zf (X0v (zs:=[vi p.ins,vi p.vars,vi p.root,vi p.phase,.slice Ap p.ts.length cp,.slice Bp p.out.length dp]) rfl rfl) ?_;rintro _ w1 ⟨b4,rfl,aL,hE,aM⟩;have aU:=Nat.le_trans A.size aL;have A:=btr A hE;refine Za rfl<|Za rfl<|Za rfl<|Za rfl<|Zx aK fun a b _ aN=>?_;refine Za rfl<|Za rfl<|Za rfl<|Za rfl<|ZX aN fun a b _ aO=>?_;refine Zs b fun _ aP=>?_;refine Ze (Vd rfl X0k 4)<|Ze (X0 rfl X14 (aM.at 4))<|Ze (X1i rfl X02)<|Zm rfl<|Zt aP fun a b=>?_;refine wp_block<|X05 (σ:=Nat×Ar) (fun (s:Nat×Ar) (a:Act) (w:World)=>match s with|(i,s)=>Fr a 55 [(1,vi (j:Int)),(8,vi s.c),(9,vi s.z),(10,.bool s.any),(11,.bool s.pl),(16,.slice Ap p.ts.length cp),(17,vi (p.ts.length:Int)),(18,vi (i:Int))]∧(i≤p.ts.length)∧(s=arF j (p.ts.take i))∧Below H.heap.size H w) (fun (s:Nat×Ar)=>match s with|(i,s)=>p.ts.length-i) (0,ar0) ?_ ?_
 ·exact ⟨b.sb,(Nat.zero_le _),rfl,A⟩
 rintro ⟨i,s⟩ a w2 ⟨b,hi,hs,A⟩;refine Zs b fun _ aQ=>?_;refine Ze (X1u rfl rfl)<|ZX aQ fun a b _ aR=>?_
 refine Xf b rfl (fun o=>?_) (fun o=>?_)
 ·have q:=o;have o:=of_decide_eq_true o
  obtain ⟨e,t⟩:=Xk (l:=p.ts) (k:=i) (by omega)
  refine wp_skip<|aR _ _<|wp_seq_k fun _ G=>?_;refine wp_block<|Zs b fun _ a8=>?_;refine Zi (k:=i) (u:=e) (enc:=encT) (l:=p.ts) trivial rfl rfl X02 X1k X0s (I.below' A) t rfl ?_;intro aY a6;refine Ze (X0b (l:=[vi e.m,vi e.c]) rfl X47 a6 rfl)<|Zf (X6 (zs:=[vi 0,vi 0]) X65 rfl) ?_;rintro _ w3 ⟨aZ,rfl,J,hE,g⟩;have a7:=Nat.le_trans A.size J;have aA:=(I.below' A).away J;have A:=btr A hE;refine Zo (Vw [vi e.m,vi e.c] X1k g) ?_;rintro _ w4 ⟨ho,hb⟩;have aW:=g;have A:=Below.only A ho a7;have g:=hb;refine ZX a8 fun a b _ aB=>?_;refine Zs b fun _ aC=>?_;refine Ze (Vd rfl X12 0)<|Ze (X0 rfl X2 (g.at 0))<|Zm rfl<|Ze (X6k (m:=j) rfl rfl rfl (by omega))<|Ze (Vx (X7r rfl rfl) (X4c (hT.mks _ (List.mem_of_getElem? t)) j)) ?_;refine Ze (X0d rfl rfl)<|Zt aC fun a b=>?_
  refine Xf b rfl (fun C=>?_) (fun C=>?_)
  ·have x:=C
   have f:bitQ j e.m=false:=Xyh C
   refine wp_exit<|Xh<|Xz<|G _ _ ?_;refine Zr b<|Ze (Xw rfl rfl (by omega) (by omega))<|Zm rfl ?_;refine Zn fun a b=>?_;refine Xe ?_;exact ⟨(i+1,(⟨s.c,s.z,s.any,s.pl⟩ : Ar)),⟨b.sb,(by omega),(X5c t hs (by first|exact Xgf f|exact Xf4 f n|exact Xc6 f n B|exact Xgp f n B)),A⟩,(by first|omega|(dsimp only;omega))⟩
  have x:=C
  have f:bitQ j e.m=true:=Xpr C
  refine wp_skip<|aB _ _<|Zs b fun _ aD=>?_;refine Za rfl<|ZX aD fun a b _ aE=>?_;refine Xs none (fun _=>false) mixed ?_;intro w5 hE;have g:=g.below hE;have A:=btr A hE;refine Yb b<|Yo 0 rfl (fun _=>Vd rfl X12 0)<|Ye 1 rfl (X0 rfl X2 (g.at 0))<|Yo 2 rfl (fun _=>X8 rfl)<|Yo 3 rfl (fun _=>Vx (X30 (m:=j) rfl rfl rfl (by omega)) (X63 hj))<|Yo 4 rfl (fun _=>Vx (X66 rfl rfl) (rfl:_=(xI e.m (pw j)))) ?_;refine Yo 5 rfl (fun _=>X1w rfl) ?_;refine Yd fun a b=>?_;refine aE _ _<|Zs b fun _ aF=>?_;refine Zm rfl<|Zf (Vc (Xu5 _ (xI e.m (pw j)) ((hT.mks _ (List.mem_of_getElem? t)).xor (X3h hj))) Xir) ?_;rintro _ _ ⟨rfl,rfl⟩;refine Zt aF fun a b=>?_;refine wp_block<|Zs b fun _ aG=>?_;refine Ze (X0d rfl rfl)<|Za rfl<|Zt aG fun a b=>?_
  refine Xf b rfl (fun D=>?_) (fun D=>?_)
  ·have y:=D
   have n:szI (xI e.m (pw j))=0:=by have:=D;simp at this;omega
   refine Zr b<|Ze (Vd rfl X22 1)<|Ze (X0 rfl X2 (g.at 1))<|Za rfl ?_;refine Zn fun a b=>?_;refine Xb<|Xb<|G _ _<|Zr b ?_;refine Ze (Xw rfl rfl (by omega) (by omega))<|Zm rfl ?_;refine Zn fun a b=>?_;refine Xe ?_;exact ⟨(i+1,(⟨e.c,s.z,true,s.pl⟩ : Ar)),⟨b.sb,(by omega),(X5c t hs (by first|exact Xgf f|exact Xf4 f n|exact Xc6 f n B|exact Xgp f n B)),A⟩,(by first|omega|(dsimp only;omega))⟩
  have y:=D
  have n:¬ szI (xI e.m (pw j))=0:=by have:=D;simp at this;omega
  refine Zs b fun _ aH=>?_;refine Ze (X0d rfl rfl)<|Za rfl<|Zt aH fun a b=>?_
  refine Xf b rfl (fun E=>?_) (fun E=>?_)
  ·have h:=E
   have B:szI (xI e.m (pw j))=1:=by have:=E;simp at this;omega
   refine Zs b fun _ aI=>?_;refine Zm rfl<|Zm rfl<|Ze (Vx (Vor rfl rfl) (rfl:_=(oI s.z (xI e.m (pw j)))))<|Za rfl<|Zt aI fun a b=>?_;refine X09 (fun a w=>Fr a 55 [(1,vi (j:Int)),(8,vi s.c),(9,vi (oI s.z (xI e.m (pw j)))),(10,.bool true),(11,.bool (s.pl&&(e.c==4))),(16,.slice Ap p.ts.length cp),(17,vi (p.ts.length:Int)),(18,vi (i:Int))]∧w5=w) ?_ ?_
   ·refine Zr b<|Zm rfl<|Zm rfl ?_
    refine Zg 45 rfl (fun d=>?_) (fun d=>?_)
    ·refine Zv (gW d) (Vd rfl X22 1) ?_;refine Zv (gW d) (X0 rfl X2 (g.at 1)) ?_;refine Zv (gW d) (X0d rfl rfl) ?_;refine Ze (X9 rfl d rfl)<|Za rfl ?_;refine Zn fun a b=>?_;exact ⟨b.sub ⟨rfl,rfl,rfl,rfl,X1 rfl (by first|rfl|(simp only [q,x,y,h,d,bs];done)|simp [q,x,y,h,d]),rfl,rfl,rfl,trivial⟩,rfl⟩
    refine Zp (gP d) ?_;refine Zp (gP d) ?_;refine Zp (gP d) ?_;refine Ze (Xc rfl d rfl)<|Za rfl ?_;refine Zn fun a b=>?_;exact ⟨b.sub ⟨rfl,rfl,rfl,rfl,X1 rfl (by first|rfl|(simp only [q,x,y,h,d,bs];done)|simp [q,x,y,h,d]),rfl,rfl,rfl,trivial⟩,rfl⟩
   rintro a _ ⟨b,rfl⟩;refine Xb<|Xb<|G _ _<|Zr b ?_;refine Ze (Xw rfl rfl (by omega) (by omega))<|Zm rfl ?_;refine Zn fun a b=>?_;refine Xe ?_;exact ⟨(i+1,(⟨s.c,(oI s.z (xI e.m (pw j))),true,s.pl&&(e.c==4)⟩ : Ar)),⟨b.sb,(by omega),(X5c t hs (by first|exact Xgf f|exact Xf4 f n|exact Xc6 f n B|exact Xgp f n B)),A⟩,(by first|omega|(dsimp only;omega))⟩
  have h:=E
  have B:¬ szI (xI e.m (pw j))=1:=by have:=E;simp at this;omega
  refine Zr b<|Za rfl ?_;refine Zn fun a b=>?_;refine Xb<|Xb<|G _ _<|Zr b ?_;refine Ze (Xw rfl rfl (by omega) (by omega))<|Zm rfl ?_;refine Zn fun a b=>?_;refine Xe ?_;exact ⟨(i+1,(⟨s.c,s.z,true,false⟩ : Ar)),⟨b.sb,(by omega),(X5c t hs (by first|exact Xgf f|exact Xf4 f n|exact Xc6 f n B|exact Xgp f n B)),A⟩,(by first|omega|(dsimp only;omega))⟩
 have q:=o;have o:=of_decide_eq_false o
 have aS:i=p.ts.length:=by have:=o;omega
 refine wp_exit<|Xh<|Xh<|Xz ?_;refine aO _ _<|Zs b fun _ aJ=>?_;refine Zm rfl<|Zm rfl<|Zm rfl<|Zm rfl<|Za rfl ?_;refine Za rfl<|Za rfl<|Za rfl<|Zt aJ fun a b=>?_
 refine wp_ret (X4 b (Y34 b rfl rfl rfl rfl rfl) ?_)
 obtain rfl:s=arF j p.ts:=by rw [hs,aS,List.take_length]
 exact ⟨rfl,A⟩
theorem Y1u(w0:World)(p:Ps)(Ap:Option Addr)(cp:Nat)(aM:Rd w0 w0.heap.size 59 encT Ap p.ts)(Bp:Option Addr)(dp:Nat)(aN:Rd w0 w0.heap.size 62 encA Bp p.out)(j:Nat)(hV:VPs p)(hj:j<24)(cL:p.ts.length≤100000000)(cM:p.out.length≤100000000) : Ret Tryz.prog 116 [.agg #[vi p.ins,vi p.vars,vi p.root,vi p.phase,.slice Ap p.ts.length cp,.slice Bp p.out.length dp],vi (j:Int)] w0 (fun v w=>v=.tuple #[vi ((ruR p j).1),vi ((ruR p j).2.1),vi ((ruR p j).2.2)]∧Below w0.heap.size w0 w):=by
 have hT:=hV.ts;have cJ:=hV.ins;refine enter Tryz.func116 rfl 103 rfl rfl ?_;intro a b
 have h:=bz w0
 refine Zs b fun _ c4=>?_;refine Zf (X0v (zs:=[vi p.ins,vi p.vars,vi p.root,vi p.phase,.slice Ap p.ts.length cp,.slice Bp p.out.length dp]) rfl rfl) ?_;rintro _ w1 ⟨b4,rfl,cA,hE,g⟩;have cK:=Nat.le_trans h.size cA;have h:=btr h hE;refine Za rfl<|Za rfl<|Za rfl<|Zx c4 fun a b _ cC=>?_;refine Za rfl<|Za rfl<|ZX cC fun a b _ cD=>?_;refine Zs b fun _ cE=>?_;refine Ze (Vd rfl X03 5)<|Ze (X0 rfl X0a (g.at 5))<|Ze (X1i rfl Xu)<|Zm rfl<|Zt cE fun a b=>?_;refine wp_block<|X05 (σ:=Nat) (fun (q:Nat) (a:Act) (w:World)=>Fr a 103 [(1,vi (j:Int)),(2,.pointer (some ⟨b4,0,none⟩)),(7,vi 0),(8,vi 0),(15,.slice Bp p.out.length dp),(16,vi (p.out.length:Int)),(17,vi (q:Int))]∧(q≤p.out.length)∧((p.out.take q).all (fun a=>!bitQ j a.m)=true)∧Blk w b4 26 [vi p.ins,vi p.vars,vi p.root,vi p.phase,.slice Ap p.ts.length cp,.slice Bp p.out.length dp]∧Below w0.heap.size w0 w) (fun (q:Nat)=>p.out.length-q) 0 ?_ ?_
 ·exact ⟨b.sb,(Nat.zero_le _),(by simp),g,h⟩
 rintro q a w2 ⟨b,hq,aF,g,h⟩;refine Zs b fun _ cF=>?_;refine Ze (X1u rfl rfl)<|ZX cF fun a b _ cG=>?_
 refine Xf b rfl (fun G=>?_) (fun G=>?_)
 ·have d:=G;have G:=of_decide_eq_true G
  obtain ⟨aB,aC⟩:=Xk (l:=p.out) (k:=q) (by omega)
  refine wp_skip<|cG _ _<|wp_seq_k fun _ b1=>?_;refine wp_block<|Zs b fun _ b2=>?_;refine Zi (k:=q) (u:=aB) (enc:=encA) (l:=p.out) trivial rfl rfl Xu Xp Xt (aN.below' h) aC rfl ?_;intro cN aR;refine Ze (X0b (l:=[vi aB.m,vi aB.t]) rfl X0f aR rfl)<|Zf (X6 (zs:=[vi 0,vi 0]) X1h rfl) ?_;rintro _ w3 ⟨cO,rfl,aO,hE,aD⟩;have aS:=Nat.le_trans h.size aO;have b3:=(aN.below' h).away aO;have g:=g.below hE;have h:=btr h hE;refine Zo (Vw [vi aB.m,vi aB.t] Xp aD) ?_;rintro _ w4 ⟨ho,hb⟩;have aG:=aD;have g:=g.only ho (Blk.ne g aG rfl);have h:=Below.only h ho aS;have aD:=hb;refine Zx b2 fun a b _ b5=>?_;refine Ze (Vd rfl X0g 0)<|Ze (X0 rfl X2 (aD.at 0))<|Zm rfl<|Ze (X3u (m:=j) Tryz.underlying3 Tryz.underlying109 rfl rfl (by omega))<|Ze (X6k (m:=j) rfl rfl rfl (by omega)) ?_;refine Ze (Vx (X7r rfl rfl) (X4c (hV.out _ (List.mem_of_getElem? aC)).1.1 j))<|Ze (X0d rfl rfl)<|Zt b5 fun a b=>?_
  refine Xf b rfl (fun N=>?_) (fun N=>?_)
  ·have aT:=N
   have L:bitQ j aB.m=true:=Xme N
   refine Zs b fun _ b6=>?_;refine Za rfl<|Za rfl<|Za rfl<|Zt b6 fun a b=>?_;refine wp_ret<|Xi<|X5<|X5 ?_;refine Xi<|X5<|X4 b (X2z b rfl rfl rfl rfl) ?_
   rw [Xih (Xoy aC L)];exact ⟨rfl,h⟩
  have aT:=N
  have L:bitQ j aB.m=false:=Xf6 N
  refine wp_skip<|Xb<|b1 _ _<|Zr b ?_;refine Ze (Xw rfl rfl (by omega) (by omega))<|Zm rfl ?_;refine Zn fun a b=>?_;refine Xe ?_;exact ⟨q+1,⟨b.sb,(by omega),(X4v aF aC (by rw [L];rfl)),g,h⟩,(by omega)⟩
 have d:=G;have G:=of_decide_eq_false G
 have aH:outB j p.out=false:=Xs6 (X3v aF (by have:=G;omega))
 refine wp_exit<|Xh<|Xh<|Xz ?_;refine cD _ _<|wp_seq_k fun _ b7=>?_;refine Zs b fun _ b8=>?_;refine Ze (Vd rfl X0k 4)<|Ze (X0 rfl X14 (g.at 4))<|Ze (X1i rfl X02)<|Zm rfl<|Zt b8 fun a b=>?_;refine wp_block<|X05 (σ:=Nat×Ar) (fun (s:Nat×Ar) (a:Act) (w:World)=>match s with|(i,s)=>Fr a 103 [(1,vi (j:Int)),(2,.pointer (some ⟨b4,0,none⟩)),(7,vi s.c),(8,vi s.z),(30,.slice Ap p.ts.length cp),(31,vi (p.ts.length:Int)),(32,vi (i:Int))]∧(i≤p.ts.length)∧(s=arF j (p.ts.take i))∧(s.pl=true)∧Blk w b4 26 [vi p.ins,vi p.vars,vi p.root,vi p.phase,.slice Ap p.ts.length cp,.slice Bp p.out.length dp]∧Below w0.heap.size w0 w) (fun (s:Nat×Ar)=>match s with|(i,s)=>p.ts.length-i) (0,ar0) ?_ ?_
 ·exact ⟨b.sb,(Nat.zero_le _),rfl,rfl,g,h⟩
 rintro ⟨i,s⟩ a w5 ⟨b,hi,hs,M,g,h⟩;refine Zs b fun _ b9=>?_;refine Ze (X1u rfl rfl)<|ZX b9 fun a b _ bC=>?_
 refine Xf b rfl (fun H=>?_) (fun H=>?_)
 ·have e:=H;have H:=of_decide_eq_true H
  obtain ⟨n,D⟩:=Xk (l:=p.ts) (k:=i) (by omega)
  refine wp_skip<|bC _ _<|wp_seq_k fun _ aI=>?_;refine wp_block<|Zs b fun _ bD=>?_;refine Zi (k:=i) (u:=n) (enc:=encT) (l:=p.ts) trivial rfl rfl X02 X1k X0s (aM.below' h) D rfl ?_;intro cP aU;refine Ze (X0b (l:=[vi n.m,vi n.c]) rfl X47 aU rfl)<|Zf (X6 (zs:=[vi 0,vi 0]) X65 rfl) ?_;rintro _ w6 ⟨cQ,rfl,aP,hE,E⟩;have aW:=Nat.le_trans h.size aP;have bE:=(aM.below' h).away aP;have g:=g.below hE;have h:=btr h hE;refine Zo (Vw [vi n.m,vi n.c] X1k E) ?_;rintro _ w7 ⟨ho,hb⟩;have aG:=E;have g:=g.only ho (Blk.ne g aG rfl);have h:=Below.only h ho aW;have E:=hb;refine ZX bD fun a b _ bF=>?_;refine Zs b fun _ bG=>?_;refine Ze (Vd rfl X12 0)<|Ze (X0 rfl X2 (E.at 0))<|Zm rfl<|Ze (X3u (m:=j) Tryz.underlying3 Tryz.underlying109 rfl rfl (by omega))<|Ze (X6k (m:=j) rfl rfl rfl (by omega)) ?_;refine Ze (Vx (X7r rfl rfl) (X4c (hT.mks _ (List.mem_of_getElem? D)) j))<|Ze (X0d rfl rfl)<|Zt bG fun a b=>?_
  refine Xf b rfl (fun Q=>?_) (fun Q=>?_)
  ·have I:=Q
   have L:bitQ j n.m=false:=Xyh Q
   refine wp_exit<|Xh<|Xz<|aI _ _ ?_;refine Zr b<|Ze (Xw rfl rfl (by omega) (by omega))<|Zm rfl ?_;refine Zn fun a b=>?_;refine Xe ?_;exact ⟨(i+1,s),⟨b.sb,(by omega),(X5c D hs (Xgf L)),M,g,h⟩,(by first|omega|(dsimp only;omega))⟩
  have I:=Q
  have L:bitQ j n.m=true:=Xpr Q
  refine wp_skip<|bF _ _<|Zs b fun _ bH=>?_;refine Ze (Vd rfl X12 0)<|Ze (X0 rfl X2 (E.at 0))<|Zm rfl<|Ze (X3u (m:=j) Tryz.underlying3 Tryz.underlying109 rfl rfl (by omega))<|Ze (Vx (X30 (m:=j) rfl rfl rfl (by omega)) (X63 hj)) ?_;refine Ze (Vx (X66 rfl rfl) (rfl:_=(xI n.m (pw j))))<|Za rfl<|Zt bH fun a b=>?_;refine wp_block<|Zs b fun _ bJ=>?_;refine Zm rfl<|Ze (X0d rfl rfl)<|Za rfl<|Zt bJ fun a b=>?_
  refine Xf b rfl (fun U=>?_) (fun U=>?_)
  ·have J:=U
   have aJ:szI (xI n.m (pw j))=0:=(X8q ((hT.mks _ (List.mem_of_getElem? D)).xor (X3h hj))).2 (by simpa using U)
   refine Zr b<|Ze (Vd rfl X22 1)<|Ze (X0 rfl X2 (E.at 1))<|Za rfl ?_;refine Zn fun a b=>?_;refine Xb<|Xb<|aI _ _<|Zr b ?_;refine Ze (Xw rfl rfl (by omega) (by omega))<|Zm rfl ?_;refine Zn fun a b=>?_;refine Xe ?_;exact ⟨(i+1,(⟨n.c,s.z,true,s.pl⟩ : Ar)),⟨b.sb,(by omega),(X5c D hs (Xf4 L aJ)),M,g,h⟩,(by first|omega|(dsimp only;omega))⟩
  have J:=U
  have aJ:¬ szI (xI n.m (pw j))=0:=fun h9=>by have h8:=(X8q ((hT.mks _ (List.mem_of_getElem? D)).xor (X3h hj))).1 h9;have:=U;rw [h8] at this;cases this
  refine wp_seq_k fun _ bK=>?_;refine X09 (fun a w=>Fr a 103 [(1,vi (j:Int)),(2,.pointer (some ⟨b4,0,none⟩)),(7,vi s.c),(8,vi s.z),(13,vi (xI n.m (pw j))),(30,.slice Ap p.ts.length cp),(31,vi (p.ts.length:Int)),(32,vi (i:Int)),(54,.bool ((((szI (xI n.m (pw j)) : Nat) : Int)==1)&&(n.c==4)))]∧Below w7.heap.size w7 w) ?_ ?_
  ·have aK:Below w7.heap.size w7 w7:=Below.refl _ _
   refine Zr b<|Zm rfl<|Zf (Vc (X6p _ (xI n.m (pw j)) ((hT.mks _ (List.mem_of_getElem? D)).xor (X3h hj)).b62) X56) ?_;rintro _ w8 ⟨cR,cS,rfl,aQ,hE⟩;have aQ:=aQ.lower h.size;have E:=E.below hE;have h:=btr h hE;have aK:=btr aK hE;refine Ze (Vx (X1i rfl X0r) (Xj2 _))<|Ze (X0d rfl rfl)<|Zm rfl ?_
   refine Zg 59 rfl (fun x=>?_) (fun x=>?_)
   ·refine Zv (gW x) (Vd rfl X22 1) ?_;refine Zv (gW x) (X0 rfl X2 (E.at 1)) ?_;refine Zv (gW x) (X0d rfl rfl) ?_;refine Ze (X9 rfl x rfl)<|Za rfl ?_;refine Zn fun a b=>?_
    have aX:Below w7.heap.size w7 w8:=aK
    exact ⟨b.sub ⟨rfl,rfl,rfl,rfl,rfl,rfl,rfl,rfl,X1 rfl (by first|rfl|(simp only [d,e,I,J,x,bs];done)|simp [d,e,I,J,x]),trivial⟩,aX⟩
   refine Zp (gP x) ?_;refine Zp (gP x) ?_;refine Zp (gP x) ?_;refine Ze (Xc rfl x rfl)<|Za rfl ?_;refine Zn fun a b=>?_
   have aX:Below w7.heap.size w7 w8:=aK
   exact ⟨b.sub ⟨rfl,rfl,rfl,rfl,rfl,rfl,rfl,rfl,X1 rfl (by first|rfl|(simp only [d,e,I,J,x,bs];done)|simp [d,e,I,J,x]),trivial⟩,aX⟩
  rintro a w9 ⟨b,hE⟩;have g:=g.below hE;have h:=btr h hE;refine bK _ _ ?_
  refine Xf b rfl (fun W=>?_) (fun W=>?_)
  ·have aY:=W
   have bL:szI (xI n.m (pw j))=1∧(n.c==4)=true:=by have:=W;simp at this ⊢;omega
   refine Zr b<|Zm rfl<|Zm rfl<|Ze (Vx (Vor rfl rfl) (rfl:_=(oI s.z (xI n.m (pw j)))))<|Za rfl ?_;refine Zn fun a b=>?_;refine Xb<|Xb<|aI _ _<|Zr b ?_;refine Ze (Xw rfl rfl (by omega) (by omega))<|Zm rfl ?_;refine Zn fun a b=>?_;refine Xe ?_;exact ⟨(i+1,(⟨s.c,(oI s.z (xI n.m (pw j))),true,s.pl&&n.c==4⟩ : Ar)),⟨b.sb,(by omega),(X5c D hs (Xc6 L aJ bL.1)),(by show (s.pl&&n.c==4)=true;rw [M,bL.2];rfl),g,h⟩,(by first|omega|(dsimp only;omega))⟩
  have aY:=W
  have bN:(arStep j s n).pl=false:=by
   by_cases h1:szI (xI n.m (pw j))=1
   ·rw [Xc6 L aJ h1];have:=W;simp [h1] at this ⊢;exact fun _=>this
   ·rw [Xgp L aJ h1]
  have aZ:(arF j p.ts).pl=false:=Xvx (i:=i+1) (by rw [← X5c D hs rfl];exact bN)
  refine Zs b fun _ bO=>?_;refine Za rfl<|Za rfl<|Za rfl<|Zt bO fun a b=>?_;refine wp_ret<|Xi<|Xi<|X5 ?_;refine X5<|Xi<|X5<|X4 b (X2z b rfl rfl rfl rfl) ?_
  rw [Xww aH aZ];exact ⟨rfl,h⟩
 have e:=H;have H:=of_decide_eq_false H
 have cH:i=p.ts.length:=by have:=H;omega
 rw [cH,List.take_length] at hs
 refine wp_exit<|Xh<|Xh<|Xz ?_;refine b7 _ _<|wp_seq_k fun _ bP=>?_;refine wp_block<|wp_seq_k fun _ bR=>?_;refine X09 (fun a w=>Fr a 103 [(2,.pointer (some ⟨b4,0,none⟩)),(7,vi s.c),(8,vi s.z),(68,.bool ((s.c==0)&&(s.z==0)))]∧w5=w) ?_ ?_
 ·refine Zr b<|Zm rfl<|Ze (X0d rfl rfl)<|Zm rfl ?_
  refine Zg 71 rfl (fun A=>?_) (fun A=>?_)
  ·refine Zv (gW A) (X8 rfl) ?_;refine Zv (gW A) (X0d rfl rfl) ?_;refine Ze (X9 rfl A rfl)<|Za rfl ?_;refine Zn fun a b=>?_;exact ⟨b.sub ⟨rfl,rfl,rfl,X1 rfl (by first|rfl|(simp only [d,e,A,bs];done)|simp [d,e,A]),trivial⟩,rfl⟩
  refine Zp (gP A) ?_;refine Zp (gP A) ?_;refine Ze (Xc rfl A rfl)<|Za rfl ?_;refine Zn fun a b=>?_;exact ⟨b.sub ⟨rfl,rfl,rfl,X1 rfl (by first|rfl|(simp only [d,e,A,bs];done)|simp [d,e,A]),trivial⟩,rfl⟩
 rintro a _ ⟨b,rfl⟩;refine bR _ _ ?_
 refine Xf b rfl (fun a6=>?_) (fun a6=>?_)
 ·have o:=a6
  have a7:s.c=0∧s.z=0:=by have:=a6;simpa using this
  refine Zs b fun _ bS=>?_;refine Zm rfl<|Zm rfl<|Za rfl<|Za rfl<|Za rfl ?_;refine Zt bS fun a b=>?_;refine wp_ret<|Xi<|X5<|X4 b (X2z b rfl rfl rfl rfl) ?_
  rw [Xim aH hs (by rw [Xvh M a7];decide),Xvh M a7];exact ⟨rfl,h⟩
 have o:=a6
 have a7:¬ (s.c=0∧s.z=0):=by have:=a6;simpa using this
 refine wp_seq_k fun _ bU=>?_;refine X09 (fun a w=>Fr a 103 [(2,.pointer (some ⟨b4,0,none⟩)),(7,vi s.c),(8,vi s.z),(77,.bool ((s.c==2)||(s.c==6)))]∧w5=w) ?_ ?_
 ·refine Zr b<|Zm rfl<|Ze (X0d rfl rfl)<|Zm rfl ?_
  refine Zg 80 rfl (fun B=>?_) (fun B=>?_)
  ·refine Zp (gP B) ?_;refine Zp (gP B) ?_;refine Ze (X9 rfl B rfl)<|Za rfl ?_;refine Zn fun a b=>?_;exact ⟨b.sub ⟨rfl,rfl,rfl,X1 rfl (by first|rfl|(simp only [d,e,o,B,bs];done)|simp [d,e,o,B]),trivial⟩,rfl⟩
  refine Zv (gW B) (X8 rfl) ?_;refine Zv (gW B) (X0d rfl rfl) ?_;refine Ze (Xc rfl B rfl)<|Za rfl ?_;refine Zn fun a b=>?_;exact ⟨b.sub ⟨rfl,rfl,rfl,X1 rfl (by first|rfl|(simp only [d,e,o,B,bs];done)|simp [d,e,o,B]),trivial⟩,rfl⟩
 rintro a _ ⟨b,rfl⟩;refine bU _ _ ?_
 refine Xf b rfl (fun a8=>?_) (fun a8=>?_)
 ·have C:=a8
  have aE:s.c=2∨s.c=6:=by have:=a8;simpa using this
  refine Zs b fun _ bW=>?_;refine Zm rfl<|Zm rfl<|Za rfl<|Za rfl<|Za rfl ?_;refine Zt bW fun a b=>?_;refine wp_ret<|Xi<|X5<|X4 b (X2z b rfl rfl rfl rfl) ?_
  rw [Xim aH hs (by rw [Xox M a7 aE];decide),Xox M a7 aE];exact ⟨rfl,h⟩
 have C:=a8
 have aE:¬ (s.c=2∨s.c=6):=by have:=a8;simpa using this
 refine wp_seq_k fun _ bX=>?_;refine X09 (fun a w=>Fr a 103 [(7,vi s.c),(8,vi s.z),(86,.bool (((s.c==0)||(s.c==4))&&(decide (0<(s.z/2^p.ins.toNat)))))]∧w5=w) ?_ ?_
 ·refine Zr b<|Zm rfl<|Ze (X0d rfl rfl)<|Zm rfl ?_
  refine Zg 89 rfl (fun y=>?_) (fun y=>?_)
  ·refine Zp (gP y) ?_;refine Zp (gP y) ?_;refine Ze (X9 rfl y rfl)<|Zm rfl<|Zv (gW rfl) (X8 rfl) ?_;refine Zv (gW rfl) (Vd rfl X1b 0) ?_;refine Zv (gW rfl) (X0 rfl X2 (g.at 0)) ?_;refine Zv (gW rfl) (X3u (m:=p.ins.toNat) Tryz.underlying3 Tryz.underlying109 rfl (by omega) (by omega)) ?_;refine Zv (gW rfl) (X6k (m:=p.ins.toNat) rfl rfl rfl (by omega)) ?_;refine Zv (gW rfl) (X4r rfl rfl) ?_;refine Ze (X9 rfl rfl rfl)<|Za rfl ?_;refine Zn fun a b=>?_;exact ⟨b.sub ⟨rfl,rfl,X1 rfl (by first|rfl|(simp only [d,e,o,C,y,bs];done)|simp [d,e,o,C,y]),trivial⟩,rfl⟩
  refine Zv (gW y) (X8 rfl) ?_;refine Zv (gW y) (X0d rfl rfl) ?_;refine Ze (Xc rfl y rfl)<|Zm rfl ?_
  refine Zg 93 rfl (fun f=>?_) (fun f=>?_)
  ·refine Zv (gW f) (X8 rfl) ?_;refine Zv (gW f) (Vd rfl X1b 0) ?_;refine Zv (gW f) (X0 rfl X2 (g.at 0)) ?_;refine Zv (gW f) (X3u (m:=p.ins.toNat) Tryz.underlying3 Tryz.underlying109 rfl (by omega) (by omega)) ?_;refine Zv (gW f) (X6k (m:=p.ins.toNat) rfl rfl rfl (by omega)) ?_;refine Zv (gW f) (X4r rfl rfl) ?_;refine Ze (X9 rfl f rfl)<|Za rfl ?_;refine Zn fun a b=>?_;exact ⟨b.sub ⟨rfl,rfl,X1 rfl (by first|rfl|(simp only [d,e,o,C,y,f,bs];done)|simp [d,e,o,C,y,f]),trivial⟩,rfl⟩
  refine Zp (gP f) ?_;refine Zp (gP f) ?_;refine Zp (gP f) ?_;refine Zp (gP f) ?_;refine Zp (gP f) ?_;refine Zp (gP f) ?_;refine Ze (Xc rfl f rfl)<|Za rfl ?_;refine Zn fun a b=>?_;exact ⟨b.sub ⟨rfl,rfl,X1 rfl (by first|rfl|(simp only [d,e,o,C,y,f,bs];done)|simp [d,e,o,C,y,f]),trivial⟩,rfl⟩
 rintro a _ ⟨b,rfl⟩;refine bX _ _ ?_
 refine Xf b rfl (fun aA=>?_) (fun aA=>?_)
 ·have b0:=aA
  have aL:(s.c=0∨s.c=4)∧0<s.z/2^p.ins.toNat:=by have:=aA;simpa using this
  refine Zs b fun _ bY=>?_;refine Zm rfl<|Zm rfl<|Za rfl<|Za rfl<|Za rfl ?_;refine Zt bY fun a b=>?_;refine wp_ret<|Xi<|X5<|X4 b (X2z b rfl rfl rfl rfl) ?_
  rw [Xim aH hs (by rw [Xn1 M a7 aE aL];decide),Xn1 M a7 aE aL];exact ⟨rfl,h⟩
 have b0:=aA
 have aL:¬ ((s.c=0∨s.c=4)∧0<s.z/2^p.ins.toNat):=by have:=aA;simpa using this
 refine wp_skip<|Xb<|bP _ _<|Zs b fun _ bZ=>?_;refine Za rfl<|Za rfl<|Za rfl<|Zt bZ fun a b=>?_
 refine wp_ret (X4 b (X2z b rfl rfl rfl rfl) ?_)
 rw [Xve aH hs (Xv4 M a7 aE aL)];exact ⟨rfl,h⟩
theorem Xz6(w0:World)(p:Ps)(Ap:Option Addr)(cp:Nat)(aD:Rd w0 w0.heap.size 59 encT Ap p.ts)(Bp:Option Addr)(dp:Nat)(aE:Rd w0 w0.heap.size 62 encA Bp p.out)(j:Nat)(Q:VPs p)(hj:p.ins.toNat≤j∧j<24)(aA:outB j p.out=false)(dP:-100≤p.root∧p.root≤100)(aH:p.ts.length≤100000000)(aN:p.out.length≤100000000)(bL:TabAt w0)(d8:1<w0.heap.size) : Ret Tryz.prog 42 [.agg #[vi p.ins,vi p.vars,vi p.root,vi p.phase,.slice Ap p.ts.length cp,.slice Bp p.out.length dp],vi (j:Int)] w0 (fun v w=>∃ A9 c9 B9 d9,v=.tuple #[psV A9 c9 B9 d9 (ruQ p j),vi (ruK p.ins (arF j p.ts))]∧Rd w w.heap.size 59 encT A9 (ruQ p j).ts∧Rd w w.heap.size 62 encA B9 (ruQ p j).out∧Below w0.heap.size w0 w):=by
 have N:=Xud hj.2 Q.ts;have dM:=Q.ins;have dQ:=Q.vars
 have dR:=X8m (show p.ins.toNat≤24 by omega)
 have aI:=N.c;obtain ⟨bN,bO,bP,bR⟩:=Y2w Q aA;have dS:=Y2u (arF j p.ts).c
 have dU:(woP p j).root=p.root:=rfl
 have dW:(stP p j (8-(arF j p.ts).c) (arF j p.ts).z).root=p.root:=rfl
 have dX:(stP p j 0 0).root=p.root:=rfl
 have e8:=Xhv Q.ph j (8-(arF j p.ts).c) (arF j p.ts).z;refine enter Tryz.func42 rfl 108 rfl rfl ?_;intro a g
 have f:=bz w0
 refine Zs g fun _ dB=>?_;refine Zf (X0v (zs:=[vi p.ins,vi p.vars,vi p.root,vi p.phase,.slice Ap p.ts.length cp,.slice Bp p.out.length dp]) rfl rfl) ?_;rintro _ w1 ⟨b4,rfl,dC,n,y⟩;have dN:=Nat.le_trans f.size dC;have f:=btr f n;refine Zf (X6 (zs:=[vi 0,vi 0,vi 0,vi 0,.slice none 0 0,.slice none 0 0]) X1y rfl) ?_;rintro _ w2 ⟨b7,rfl,dD,n,b⟩
 have d7:b4≠b7:=by have:=y.lt;omega
 have a6:=Nat.le_trans f.size dD;have y:=y.below n;have f:=btr f n;refine Za rfl<|Zx dB fun a g _ dE=>?_;refine Ze (Vn Xm y)<|Zm rfl<|Zf (Vc (Y1x _ p Ap cp (aD.below' f).top Bp dp (aE.below' f).top j Q.ts hj.2 aH) Xsd) ?_;rintro _ w3 ⟨rfl,n⟩;have y:=y.below n;have b:=b.below n;have f:=btr f n;refine Zm rfl<|Ze (X3 (vs:=[vi ((arF j p.ts).c),vi ((arF j p.ts).z),.bool ((arF j p.ts).any),.bool ((arF j p.ts).pl)]) rfl rfl)<|Ze (X3 (vs:=[vi ((arF j p.ts).c),vi ((arF j p.ts).z),.bool ((arF j p.ts).any),.bool ((arF j p.ts).pl)]) rfl rfl)<|Ze (X3 (vs:=[vi ((arF j p.ts).c),vi ((arF j p.ts).z),.bool ((arF j p.ts).any),.bool ((arF j p.ts).pl)]) rfl rfl)<|Ze (X3 (vs:=[vi ((arF j p.ts).c),vi ((arF j p.ts).z),.bool ((arF j p.ts).any),.bool ((arF j p.ts).pl)]) rfl rfl) ?_;refine Za rfl<|Za rfl<|Za rfl<|Za rfl<|Zx dE fun a g _ dF=>?_;refine Zm rfl<|Ze (Vd rfl X1b 0)<|Ze (X0 rfl X2 (y.at 0))<|Ze (Vx (X30 (m:=p.ins.toNat) rfl rfl (by omega) (by omega)) (X4q (by omega)))<|Ze (X1m rfl rfl (by omega) (by omega)) ?_;refine Ze (Vx (Xre rfl rfl) (Xlh N.z (by omega)))<|Ze (X3u (m:=(without (arF j p.ts).z.toNat (2^p.ins.toNat-1))) Tryz.underlying3 Tryz.underlying109 rfl rfl (by have:=Y1s N.z p.ins.toNat;omega))<|Zf (Vc (Xz7 _ (without (arF j p.ts).z.toNat (2^p.ins.toNat-1)) (Y1s N.z p.ins.toNat) (bL.up f d8)) Xry) ?_;rintro _ _ ⟨rfl,rfl⟩;refine Za rfl<|ZX dF fun a g _ bS=>?_;refine wp_block<|Zs g fun _ bU=>?_;refine Zm rfl<|Ze (X1a rfl)<|Za rfl<|Zt bU fun a g=>?_
 refine Xf g rfl (fun a7=>?_) (fun a7=>?_)
 ·have q:=a7
  have aF:(arF j p.ts).any=false:=by have:=a7;simpa using this
  refine Zs g fun _ bW=>?_;refine Ze (Vn Xm y)<|Zm rfl<|Zf (Vc (Xnn _ p Ap cp (aD.below' f).top Bp dp (aE.below' f).top j Q.ts.mks (fun a9 h9=>(Q.out a9 h9).1.1) hj.2 (by omega) aH aN) Xdh) ?_;rintro _ w4 ⟨aO,aP,aQ,aR,rfl,G,H,n⟩;have y:=y.below n;have b:=b.below n;have f:=btr f n;refine Zf (X6 (zs:=[vi 0,vi 0,vi 0,vi 0,.slice none 0 0,.slice none 0 0]) X1y rfl) ?_;rintro _ w5 ⟨b18,rfl,bX,n,L⟩
  have bY:b4≠b18:=by have:=y.lt;omega
  have bZ:b7≠b18:=by have:=b.lt;omega
  have aS:=Nat.le_trans f.size bX;have b:=b.below n;have G:=G.below n;have H:=H.below n;have f:=btr f n;refine Zo (Vw [vi ((woP p j).ins),vi ((woP p j).vars),vi ((woP p j).root),vi ((woP p j).phase),.slice aO ((woP p j).ts).length aP,.slice aQ ((woP p j).out).length aR] X0c L) ?_;rintro _ w6 ⟨i,M⟩;have d:=L;have b:=b.only i (by omega);have G:=G.onlyT i d rfl;have H:=H.onlyT i d rfl;have f:=Below.only f i aS;have L:=M;refine Zx bW fun a g _ c4=>?_;refine Ze (Vd rfl X16 2)<|Ze (X0 rfl X2 (L.at 2))<|Ze (X1m rfl rfl (by omega) (by omega))<|Ze (Vd rfl X16 2)<|Zo (Vu (vs:=[vi (((woP p j).root)-2)]) (l':=[vi ((woP p j).ins),vi ((woP p j).vars),vi (((woP p j).root)-2),vi ((woP p j).phase),.slice aO ((woP p j).ts).length aP,.slice aQ ((woP p j).out).length aR]) rfl rfl X1d L) ?_;rintro _ w7 ⟨i,M⟩;have d:=L;have b:=b.only i (by omega);have G:=G.onlyT i d rfl;have H:=H.onlyT i d rfl;have f:=Below.only f i aS;have L:=M;refine Zx c4 fun a g _ cA=>?_;refine Ze (Vn Xm L)<|Zo (Vw [vi ((woP p j).ins),vi ((woP p j).vars),vi (((woP p j).root)-2),vi ((woP p j).phase),.slice aO ((woP p j).ts).length aP,.slice aQ ((woP p j).out).length aR] X0c b) ?_;rintro _ w8 ⟨i,M⟩;have d:=b;have G:=G.onlyT i d rfl;have H:=H.onlyT i d rfl;have f:=Below.only f i a6;have b:=M;refine Za rfl<|Zt cA fun a g=>?_;refine wp_ret<|Xi<|X5<|X4 g (X1e g rfl (ResV.cellN (l:=[vi ((woP p j).ins),vi ((woP p j).vars),vi (((woP p j).root)-2),vi ((woP p j).phase),.slice aO ((woP p j).ts).length aP,.slice aQ ((woP p j).out).length aR]) rfl Xm (b.at 0) rfl) rfl) ?_
  have I:ruK p.ins (arF j p.ts)=1:=(Y1t Q aA aF).2
  rw [Xfs I (by decide),I,← (Y1t Q aA aF).1]
  exact ⟨aO,aP,aQ,aR,rfl,G.top,H.top,f⟩
 have q:=a7
 have aF:(arF j p.ts).any=true:=by have:=a7;simpa using this
 refine wp_seq_k fun _ cC=>?_;refine X09 (fun a w=>Fr a 108 [(1,vi (j:Int)),(2,.pointer (some ⟨b4,0,none⟩)),(4,.pointer (some ⟨b7,0,none⟩)),(6,vi ((arF j p.ts).c)),(7,vi ((arF j p.ts).z)),(9,.bool ((arF j p.ts).pl)),(10,vi ((tzN (without (arF j p.ts).z.toNat (2^p.ins.toNat-1)) : Nat) : Int)),(42,.bool (((arF j p.ts).pl)&&((((arF j p.ts).c).tmod 4)==2)))]∧w3=w) ?_ ?_
 ·refine Zr g<|Zm rfl<|Zm rfl ?_
  refine Zg 44 rfl (fun h=>?_) (fun h=>?_)
  ·refine Zv (gW h) (X8 rfl) ?_;refine Zv (gW h) (X6j rfl rfl rfl) ?_;refine Zv (gW h) (X0d rfl rfl) ?_;refine Ze (X9 rfl h rfl)<|Za rfl ?_;refine Zn fun a g=>?_;exact ⟨g.sub ⟨rfl,rfl,rfl,rfl,rfl,rfl,rfl,X1 rfl (by first|rfl|(simp only [q,h,bs];done)|simp [q,h]),trivial⟩,rfl⟩
  refine Zp (gP h) ?_;refine Zp (gP h) ?_;refine Zp (gP h) ?_;refine Ze (Xc rfl h rfl)<|Za rfl ?_;refine Zn fun a g=>?_;exact ⟨g.sub ⟨rfl,rfl,rfl,rfl,rfl,rfl,rfl,X1 rfl (by first|rfl|(simp only [q,h,bs];done)|simp [q,h]),trivial⟩,rfl⟩
 rintro a _ ⟨g,rfl⟩;refine cC _ _ ?_
 refine Xf g rfl (fun U=>?_) (fun U=>?_)
 ·have E:=U;have dG:=Xo0 aI U;have cD:=Y1d (p:=p) aI U;have cE:=dG.2;refine Zs g fun _ cF=>?_;refine Ze (Vn Xm y)<|Zm rfl<|Zm rfl<|Ze (X1m rfl rfl (by omega) (by omega))<|Zm rfl ?_;refine Zf (Vc (Xv9 _ p Ap cp (aD.below' f).top Bp dp (aE.below' f).top j (8-((arF j p.ts).c)) ((arF j p.ts).z) Q.ph Q.ts (fun a9 h9=>(Q.out a9 h9).1) hj.2 (by omega) N.z (by omega) aH aN) Xkk) ?_;rintro _ w9 ⟨aJ,aK,aL,aM,rfl,A,B,n⟩;have y:=y.below n;have b:=b.below n;have f:=btr f n;refine Zf (X6 (zs:=[vi 0,vi 0,vi 0,vi 0,.slice none 0 0,.slice none 0 0]) X1y rfl) ?_;rintro _ eA ⟨b29,rfl,cG,n,x⟩
  have cH:b4≠b29:=by have:=y.lt;omega
  have cJ:b7≠b29:=by have:=b.lt;omega
  have aB:=Nat.le_trans f.size cG;have b:=b.below n;have A:=A.below n;have B:=B.below n;have f:=btr f n;refine Zo (Vw [vi ((stP p j (8-((arF j p.ts).c)) ((arF j p.ts).z)).ins),vi ((stP p j (8-((arF j p.ts).c)) ((arF j p.ts).z)).vars),vi ((stP p j (8-((arF j p.ts).c)) ((arF j p.ts).z)).root),vi ((stP p j (8-((arF j p.ts).c)) ((arF j p.ts).z)).phase),.slice aJ ((stP p j (8-((arF j p.ts).c)) ((arF j p.ts).z)).ts).length aK,.slice aL ((stP p j (8-((arF j p.ts).c)) ((arF j p.ts).z)).out).length aM] X0c x) ?_;rintro _ eB ⟨i,M⟩;have d:=x;have b:=b.only i (by omega);have A:=A.onlyT i d rfl;have B:=B.onlyT i d rfl;have f:=Below.only f i aB;have x:=M;refine Zx cF fun a g _ cK=>?_;refine Ze (Vd rfl X16 2)<|Ze (X0 rfl X2 (x.at 2))<|Ze (X1m rfl rfl (by omega) (by omega))<|Ze (Vd rfl X16 2)<|Zo (Vu (vs:=[vi (((stP p j (8-((arF j p.ts).c)) ((arF j p.ts).z)).root)-1)]) (l':=[vi ((stP p j (8-((arF j p.ts).c)) ((arF j p.ts).z)).ins),vi ((stP p j (8-((arF j p.ts).c)) ((arF j p.ts).z)).vars),vi (((stP p j (8-((arF j p.ts).c)) ((arF j p.ts).z)).root)-1),vi ((stP p j (8-((arF j p.ts).c)) ((arF j p.ts).z)).phase),.slice aJ ((stP p j (8-((arF j p.ts).c)) ((arF j p.ts).z)).ts).length aK,.slice aL ((stP p j (8-((arF j p.ts).c)) ((arF j p.ts).z)).out).length aM]) rfl rfl X1d x) ?_;rintro _ eC ⟨i,M⟩;have d:=x;have b:=b.only i (by omega);have A:=A.onlyT i d rfl;have B:=B.onlyT i d rfl;have f:=Below.only f i aB;have x:=M;refine ZX cK fun a g _ cL=>?_;refine Xs none (fun j=>[8].contains j) mixed ?_;intro eD n;have b:=b.below n;have x:=x.below n;have A:=A.below n
  have B:=B.below n;have f:=btr f n;refine Yb g<|Yo 0 rfl (fun _=>Vd rfl X1j 3)<|Ye 1 rfl (X0 rfl X2 (x.at 3))<|Yo 2 rfl (fun _=>Xl (ps:=[(2,vi 1),(6,vi 7)]) (cs:=[vi 0,vi 0,vi 1,vi 0,vi 0,vi 0,vi 7]) rfl (fun _=>by first|rfl|kernel_rfl))<|Yo 3 rfl (fun _=>X8 rfl)<|Yo 4 rfl (fun _=>Xzb (k:=(arF j p.ts).c.toNat) (vs:=[vi 0,vi 0,vi 1,vi 0,vi 0,vi 0,vi 7]) (v:=vi (if (arF j p.ts).c=2 then 1 else 7)) rfl rfl Tryz.underlying132 X1d X2 (by omega) (by omega) (by rcases cE with e|e<;>rw [e]<;>rfl)) ?_;refine Yo 5 rfl (fun _=>Xw rfl rfl (by omega) (by omega))<|Yo 6 rfl (fun _=>Vx (X6j rfl rfl rfl) (Xdj (by omega)))<|Yo 7 rfl (fun _=>Vd rfl X1j 3)<|Y1 8 ?_;refine Yh rfl trivial rfl (Vu (vs:=[vi (((stP p j (8-(arF j p.ts).c) (arF j p.ts).z).phase+(if (arF j p.ts).c=2 then 1 else 7)) % 8)]) (l':=[vi ((stP p j (8-((arF j p.ts).c)) ((arF j p.ts).z)).ins),vi ((stP p j (8-((arF j p.ts).c)) ((arF j p.ts).z)).vars),vi (((stP p j (8-((arF j p.ts).c)) ((arF j p.ts).z)).root)-1),vi (((stP p j (8-(arF j p.ts).c) (arF j p.ts).z).phase+(if (arF j p.ts).c=2 then 1 else 7)) % 8),.slice aJ ((stP p j (8-((arF j p.ts).c)) ((arF j p.ts).z)).ts).length aK,.slice aL ((stP p j (8-((arF j p.ts).c)) ((arF j p.ts).z)).out).length aM]) rfl rfl X1d x) ?_;rintro _ eE ⟨i,M⟩;have d:=x;have b:=b.only i (by omega);have A:=A.onlyT i d rfl;have B:=B.onlyT i d rfl;have f:=Below.only f i aB;have x:=M;refine Yd fun a g=>?_;refine cL _ _<|Zs g fun _ cM=>?_;refine Ze (Vn Xm x)<|Zo (Vw [vi ((stP p j (8-((arF j p.ts).c)) ((arF j p.ts).z)).ins),vi ((stP p j (8-((arF j p.ts).c)) ((arF j p.ts).z)).vars),vi (((stP p j (8-((arF j p.ts).c)) ((arF j p.ts).z)).root)-1),vi (((stP p j (8-(arF j p.ts).c) (arF j p.ts).z).phase+(if (arF j p.ts).c=2 then 1 else 7)) % 8),.slice aJ ((stP p j (8-((arF j p.ts).c)) ((arF j p.ts).z)).ts).length aK,.slice aL ((stP p j (8-((arF j p.ts).c)) ((arF j p.ts).z)).out).length aM] X0c b) ?_;rintro _ eF ⟨i,M⟩
  have d:=b;have A:=A.onlyT i d rfl;have B:=B.onlyT i d rfl;have f:=Below.only f i a6;have b:=M;refine Za rfl<|Zt cM fun a g=>?_;refine wp_ret<|Xi<|X5<|X4 g (X1e g rfl (ResV.cellN (l:=[vi ((stP p j (8-((arF j p.ts).c)) ((arF j p.ts).z)).ins),vi ((stP p j (8-((arF j p.ts).c)) ((arF j p.ts).z)).vars),vi (((stP p j (8-((arF j p.ts).c)) ((arF j p.ts).z)).root)-1),vi (((stP p j (8-(arF j p.ts).c) (arF j p.ts).z).phase+(if (arF j p.ts).c=2 then 1 else 7)) % 8),.slice aJ ((stP p j (8-((arF j p.ts).c)) ((arF j p.ts).z)).ts).length aK,.slice aL ((stP p j (8-((arF j p.ts).c)) ((arF j p.ts).z)).out).length aM]) rfl Xm (b.at 0) rfl) rfl) ?_
  have I:ruK p.ins (arF j p.ts)=2:=cD
  rw [Xfs I (by decide),I,← Y3f Q aA cD cE hj.2]
  exact ⟨aJ,aK,aL,aM,rfl,A.top,B.top,f⟩
 have E:=U;have dH:=U;refine wp_seq_k fun _ cN=>?_;refine X09 (fun a w=>Fr a 108 [(1,vi (j:Int)),(2,.pointer (some ⟨b4,0,none⟩)),(4,.pointer (some ⟨b7,0,none⟩)),(6,vi ((arF j p.ts).c)),(7,vi ((arF j p.ts).z)),(10,vi ((tzN (without (arF j p.ts).z.toNat (2^p.ins.toNat-1)) : Nat) : Int)),(68,.bool ((((arF j p.ts).pl)&&((((arF j p.ts).c).tmod 4)==0))&&((((arF j p.ts).z)/2^p.ins.toNat) != 0)))]∧w3=w) ?_ ?_
 ·refine Zr g<|Zm rfl<|Zm rfl ?_
  refine Zg 70 rfl (fun t=>?_) (fun t=>?_)
  ·refine Zv (gW t) (X8 rfl) ?_;refine Zv (gW t) (X6j rfl rfl rfl) ?_;refine Zv (gW t) (X0d rfl rfl) ?_;refine Ze (X9 rfl t rfl)<|Zm rfl ?_
   refine Zg 75 rfl (fun o=>?_) (fun o=>?_)
   ·refine Zv (gW o) (X8 rfl) ?_;refine Zv (gW o) (Vd rfl X1b 0) ?_;refine Zv (gW o) (X0 rfl X2 (y.at 0)) ?_;refine Zv (gW o) (X6k (m:=p.ins.toNat) rfl rfl (by omega) (by omega)) ?_;refine Zv (gW o) (X4m rfl rfl) ?_;refine Ze (X9 rfl o rfl)<|Za rfl ?_;refine Zn fun a g=>?_;exact ⟨g.sub ⟨rfl,rfl,rfl,rfl,rfl,rfl,X1 rfl (by first|rfl|(simp only [q,E,t,o,bs];done)|simp [q,E,t,o]),trivial⟩,rfl⟩
   refine Zp (gP o) ?_;refine Zp (gP o) ?_;refine Zp (gP o) ?_;refine Zp (gP o) ?_;refine Zp (gP o) ?_;refine Ze (Xc rfl o rfl)<|Za rfl ?_;refine Zn fun a g=>?_;exact ⟨g.sub ⟨rfl,rfl,rfl,rfl,rfl,rfl,X1 rfl (by first|rfl|(simp only [q,E,t,o,bs];done)|simp [q,E,t,o]),trivial⟩,rfl⟩
  refine Zp (gP t) ?_;refine Zp (gP t) ?_;refine Zp (gP t) ?_;refine Ze (Xc rfl t rfl)<|Zm rfl<|Zp (gP rfl) ?_;refine Zp (gP rfl) ?_;refine Zp (gP rfl) ?_;refine Zp (gP rfl) ?_;refine Zp (gP rfl) ?_;refine Ze (Xc rfl rfl rfl)<|Za rfl ?_;refine Zn fun a g=>?_;exact ⟨g.sub ⟨rfl,rfl,rfl,rfl,rfl,rfl,X1 rfl (by first|rfl|(simp only [q,E,t,bs];done)|simp [q,E,t]),trivial⟩,rfl⟩
 rintro a _ ⟨g,rfl⟩;refine cN _ _ ?_
 refine Xf g rfl (fun W=>?_) (fun W=>?_)
 ·have b6:=W;have dI:=Xo4 aI N.z W;have b2:=Xzw (p:=p) aI N.z W;have b8:=dI.2.2;obtain ⟨dJ,dK,a8,_,_⟩:=Xdx Q hj aA b8;have aG:=dJ▸dK;refine Zs g fun _ cO=>?_;refine Ze (Vn Xm y)<|Zm rfl<|Zf (Vc (Xv9 _ p Ap cp (aD.below' f).top Bp dp (aE.below' f).top j 0 0 Q.ph Q.ts (fun a9 h9=>(Q.out a9 h9).1) hj.2 (by omega) Mk.zero (by omega) aH aN) Xkk) ?_;rintro _ eG ⟨aT,aU,aW,aX,rfl,C,D,n⟩;have y:=y.below n;have b:=b.below n;have f:=btr f n;refine Zf (X6 (zs:=[vi 0,vi 0,vi 0,vi 0,.slice none 0 0,.slice none 0 0]) X1y rfl) ?_;rintro _ eH ⟨b42,rfl,cP,n,u⟩
  have cQ:b4≠b42:=by have:=y.lt;omega
  have cR:b7≠b42:=by have:=b.lt;omega
  have aC:=Nat.le_trans f.size cP;have b:=b.below n;have C:=C.below n;have D:=D.below n;have f:=btr f n;refine Zo (Vw [vi ((stP p j 0 0).ins),vi ((stP p j 0 0).vars),vi ((stP p j 0 0).root),vi ((stP p j 0 0).phase),.slice aT ((stP p j 0 0).ts).length aU,.slice aW ((stP p j 0 0).out).length aX] X0c u) ?_;rintro _ eI ⟨i,M⟩;have d:=u;have b:=b.only i (by omega);have C:=C.onlyT i d rfl;have D:=D.onlyT i d rfl;have f:=Below.only f i aC;have u:=M;refine Zx cO fun a g _ cS=>?_;refine Zm rfl<|Zm rfl<|Ze (Vx (X30 (m:=(inI p (arF j p.ts).z)) rfl rfl rfl (by omega)) (X63 a8))<|Ze (Vx (X66 rfl rfl) (rfl:_=(xI (arF j p.ts).z (pw (inI p (arF j p.ts).z)))))<|Zm rfl ?_;refine Zf (Vc (Xoa _ (xI (arF j p.ts).z (pw (inI p (arF j p.ts).z))) j (N.z.xor (X3h a8)) hj.2) Xdi) ?_;rintro _ eJ ⟨rfl,n⟩;have b:=b.below n;have u:=u.below n;have C:=C.below n;have D:=D.below n;have f:=btr f n;refine Za rfl<|ZX cS fun a g _ b5=>?_;refine Zs g fun _ cU=>?_;refine Zm rfl<|Zm rfl<|Ze (X4r rfl rfl)<|Zt cU fun a g=>?_
  refine Xf g rfl (fun J=>?_) (fun J=>?_)
  ·have b9:=J;have J:=of_decide_eq_true J
   have b3:j<(inI p (arF j p.ts).z):=by have:=J;unfold inI;omega
   have eK:tzN (without (arF j p.ts).z.toNat (2^p.ins.toNat-1))<24:=a8
   have dO:j<tzN (without (arF j p.ts).z.toNat (2^p.ins.toNat-1)):=b3
   have hJ:inJ p j (arF j p.ts).z=(inI p (arF j p.ts).z)-1:=by unfold inJ;rw [if_pos b3]
   rw [hJ] at aG
   refine Zr g<|Zm rfl<|Ze (Vx (X1m rfl rfl (by omega) (by omega)) (show _=(((inI p (arF j p.ts).z)-1:Nat) : Int) from (by have e9:(inI p (arF j p.ts).z)=tzN (without (arF j p.ts).z.toNat (2^p.ins.toNat-1)):=rfl;omega)))<|Za rfl<|Zx b5 fun a g _ cW=>?_;refine Ze (Vd rfl X16 2)<|Ze (X0 rfl X2 (u.at 2))<|Ze (X1m rfl rfl (by omega) (by omega))<|Ze (Vd rfl X16 2)<|Zo (Vu (vs:=[vi (((stP p j 0 0).root)-2)]) (l':=[vi ((stP p j 0 0).ins),vi ((stP p j 0 0).vars),vi (((stP p j 0 0).root)-2),vi ((stP p j 0 0).phase),.slice aT ((stP p j 0 0).ts).length aU,.slice aW ((stP p j 0 0).out).length aX]) rfl rfl X1d u) ?_;rintro _ eL ⟨i,M⟩;have d:=u;have b:=b.only i (by omega);have C:=C.onlyT i d rfl;have D:=D.onlyT i d rfl;have f:=Below.only f i aC;have u:=M;refine Zx cW fun a g _ cX=>?_;refine Ze (Vn Xm u)<|Zm rfl<|Zm rfl<|Zm rfl<|Ze (Vx (Xhq rfl rfl rfl) (Xw8 aI)) ?_;refine Ze (Xl (ps:=[(0,vi (drI j (xI (arF j p.ts).z (pw (inI p (arF j p.ts).z))))),(1,vi ((arF j p.ts).c/4))]) (cs:=[vi (drI j (xI (arF j p.ts).z (pw (inI p (arF j p.ts).z)))),vi ((arF j p.ts).c/4)]) rfl (fun _=>by first|rfl|kernel_rfl))<|Zf (Vc (Xuy _ (q4P p j) aT aU C.top aW aX D.top ((inI p (arF j p.ts).z)-1:Nat) (q5A p j) (Xhv Q.ph j 0 0) bN bO aG ⟨(N.z.xor (X3h a8)).dr,(by show (arF j p.ts).c/4=0∨(arF j p.ts).c/4=1;omega)⟩ (by show -1000≤p.vars-1∧p.vars-1≤1000;omega) (Nat.le_trans bP aH) (Nat.le_trans (Nat.le_of_eq bR) aN)) Xii) ?_;rintro _ eN ⟨bC,bD,bE,bF,rfl,aY,aZ,n⟩;have b:=b.below n;have f:=btr f n;refine Zo (Vw [vi ((subP (q4P p j) ((inI p (arF j p.ts).z)-1:Nat) (q5A p j)).ins),vi ((subP (q4P p j) ((inI p (arF j p.ts).z)-1:Nat) (q5A p j)).vars),vi ((subP (q4P p j) ((inI p (arF j p.ts).z)-1:Nat) (q5A p j)).root),vi ((subP (q4P p j) ((inI p (arF j p.ts).z)-1:Nat) (q5A p j)).phase),.slice bC ((subP (q4P p j) ((inI p (arF j p.ts).z)-1:Nat) (q5A p j)).ts).length bD,.slice bE ((subP (q4P p j) ((inI p (arF j p.ts).z)-1:Nat) (q5A p j)).out).length bF] X0c b) ?_;rintro _ eO ⟨i,M⟩
   have d:=b;have aY:=aY.onlyT i d rfl;have aZ:=aZ.onlyT i d rfl;have f:=Below.only f i a6;have b:=M;refine Za rfl<|Zt cX fun a g=>?_;refine wp_ret<|Xi<|X5<|X4 g (X1e g rfl (ResV.cellN (l:=[vi ((subP (q4P p j) ((inI p (arF j p.ts).z)-1:Nat) (q5A p j)).ins),vi ((subP (q4P p j) ((inI p (arF j p.ts).z)-1:Nat) (q5A p j)).vars),vi ((subP (q4P p j) ((inI p (arF j p.ts).z)-1:Nat) (q5A p j)).root),vi ((subP (q4P p j) ((inI p (arF j p.ts).z)-1:Nat) (q5A p j)).phase),.slice bC ((subP (q4P p j) ((inI p (arF j p.ts).z)-1:Nat) (q5A p j)).ts).length bD,.slice bE ((subP (q4P p j) ((inI p (arF j p.ts).z)-1:Nat) (q5A p j)).out).length bF]) rfl Xm (b.at 0) rfl) rfl) ?_
   have I:ruK p.ins (arF j p.ts)=3:=b2
   rw [Xfs I (by decide),I,← Y1l Q hj aA b2 b8]
   rw [hJ]
   exact ⟨bC,bD,bE,bF,rfl,aY.top,aZ.top,f⟩
  have b9:=J;have J:=of_decide_eq_false J
  have b3:¬ j<(inI p (arF j p.ts).z):=by have:=J;unfold inI;omega
  have hJ:inJ p j (arF j p.ts).z=(inI p (arF j p.ts).z):=by unfold inJ;rw [if_neg b3]
  rw [hJ] at aG
  refine wp_skip<|b5 _ _<|Zs g fun _ cY=>?_;refine Ze (Vd rfl X16 2)<|Ze (X0 rfl X2 (u.at 2))<|Ze (X1m rfl rfl (by omega) (by omega))<|Ze (Vd rfl X16 2)<|Zo (Vu (vs:=[vi (((stP p j 0 0).root)-2)]) (l':=[vi ((stP p j 0 0).ins),vi ((stP p j 0 0).vars),vi (((stP p j 0 0).root)-2),vi ((stP p j 0 0).phase),.slice aT ((stP p j 0 0).ts).length aU,.slice aW ((stP p j 0 0).out).length aX]) rfl rfl X1d u) ?_;rintro _ eP ⟨i,M⟩;have d:=u;have b:=b.only i (by omega);have C:=C.onlyT i d rfl;have D:=D.onlyT i d rfl;have f:=Below.only f i aC;have u:=M;refine Zx cY fun a g _ d5=>?_;refine Ze (Vn Xm u)<|Zm rfl<|Zm rfl<|Zm rfl<|Ze (Vx (Xhq rfl rfl rfl) (Xw8 aI)) ?_;refine Ze (Xl (ps:=[(0,vi (drI j (xI (arF j p.ts).z (pw (inI p (arF j p.ts).z))))),(1,vi ((arF j p.ts).c/4))]) (cs:=[vi (drI j (xI (arF j p.ts).z (pw (inI p (arF j p.ts).z)))),vi ((arF j p.ts).c/4)]) rfl (fun _=>by first|rfl|kernel_rfl))<|Zf (Vc (Xuy _ (q4P p j) aT aU C.top aW aX D.top (tzN (without (arF j p.ts).z.toNat (2^p.ins.toNat-1)) : Nat) (q5A p j) (Xhv Q.ph j 0 0) bN bO aG ⟨(N.z.xor (X3h a8)).dr,(by show (arF j p.ts).c/4=0∨(arF j p.ts).c/4=1;omega)⟩ (by show -1000≤p.vars-1∧p.vars-1≤1000;omega) (Nat.le_trans bP aH) (Nat.le_trans (Nat.le_of_eq bR) aN)) Xii) ?_;rintro _ eQ ⟨bG,bH,bJ,bK,rfl,b0,b1,n⟩;have b:=b.below n;have f:=btr f n;refine Zo (Vw [vi ((subP (q4P p j) (tzN (without (arF j p.ts).z.toNat (2^p.ins.toNat-1)) : Nat) (q5A p j)).ins),vi ((subP (q4P p j) (tzN (without (arF j p.ts).z.toNat (2^p.ins.toNat-1)) : Nat) (q5A p j)).vars),vi ((subP (q4P p j) (tzN (without (arF j p.ts).z.toNat (2^p.ins.toNat-1)) : Nat) (q5A p j)).root),vi ((subP (q4P p j) (tzN (without (arF j p.ts).z.toNat (2^p.ins.toNat-1)) : Nat) (q5A p j)).phase),.slice bG ((subP (q4P p j) (tzN (without (arF j p.ts).z.toNat (2^p.ins.toNat-1)) : Nat) (q5A p j)).ts).length bH,.slice bJ ((subP (q4P p j) (tzN (without (arF j p.ts).z.toNat (2^p.ins.toNat-1)) : Nat) (q5A p j)).out).length bK] X0c b) ?_;rintro _ eR ⟨i,M⟩
  have d:=b;have b0:=b0.onlyT i d rfl;have b1:=b1.onlyT i d rfl;have f:=Below.only f i a6;have b:=M;refine Za rfl<|Zt d5 fun a g=>?_;refine wp_ret<|Xi<|X5<|X4 g (X1e g rfl (ResV.cellN (l:=[vi ((subP (q4P p j) (tzN (without (arF j p.ts).z.toNat (2^p.ins.toNat-1)) : Nat) (q5A p j)).ins),vi ((subP (q4P p j) (tzN (without (arF j p.ts).z.toNat (2^p.ins.toNat-1)) : Nat) (q5A p j)).vars),vi ((subP (q4P p j) (tzN (without (arF j p.ts).z.toNat (2^p.ins.toNat-1)) : Nat) (q5A p j)).root),vi ((subP (q4P p j) (tzN (without (arF j p.ts).z.toNat (2^p.ins.toNat-1)) : Nat) (q5A p j)).phase),.slice bG ((subP (q4P p j) (tzN (without (arF j p.ts).z.toNat (2^p.ins.toNat-1)) : Nat) (q5A p j)).ts).length bH,.slice bJ ((subP (q4P p j) (tzN (without (arF j p.ts).z.toNat (2^p.ins.toNat-1)) : Nat) (q5A p j)).out).length bK]) rfl Xm (b.at 0) rfl) rfl) ?_
  have I:ruK p.ins (arF j p.ts)=3:=b2
  rw [Xfs I (by decide),I,← Y1l Q hj aA b2 b8]
  rw [hJ]
  exact ⟨bG,bH,bJ,bK,rfl,b0.top,b1.top,f⟩
 have b6:=W;have dL:=W;refine wp_skip<|Xb<|bS _ _<|Zs g fun _ d6=>?_;refine Ze (Xl (ps:=[]) (cs:=[vi 0,vi 0,vi 0,vi 0,.slice none 0 0,.slice none 0 0]) rfl (fun _=>by first|rfl|kernel_rfl))<|Zo (Vw [vi 0,vi 0,vi 0,vi 0,.slice none 0 0,.slice none 0 0] X0c b) ?_;rintro _ eS ⟨i,M⟩;have d:=b;have f:=Below.only f i a6;have b:=M;refine Za rfl<|Zt d6 fun a g=>?_
 refine wp_ret (X4 g (X1e g rfl (ResV.cellN (l:=[vi 0,vi 0,vi 0,vi 0,.slice none 0 0,.slice none 0 0]) rfl Xm (b.at 0) rfl) rfl) ?_)
 have I:ruK p.ins (arF j p.ts)=0:=Xzt N aF dH dL
 rw [Xzr I,I]
 exact ⟨none,0,none,0,rfl,(Rd.nil _ _ _ _ _),(Rd.nil _ _ _ _ _),f⟩
theorem Xzj(w0:World)(p:Ps)(Ap:Option Addr)(cp:Nat)(aW:Rd w0 w0.heap.size 59 encT Ap p.ts)(Bp:Option Addr)(dp:Nat)(aX:Rd w0 w0.heap.size 62 encA Bp p.out)(hV:VPs p)(eE:-100≤p.root∧p.root≤100)(aZ:p.ts.length≤100000000)(b0:p.out.length≤100000000) : Ret Tryz.prog 68 [.agg #[vi p.ins,vi p.vars,vi p.root,vi p.phase,.slice Ap p.ts.length cp,.slice Bp p.out.length dp]] w0 (fun v w=>∃ A9 c9 B9 d9,v=.tuple #[psV A9 c9 B9 d9 (((stepP p).getD (psZ,0)).1),vi (((stepP p).getD (psZ,0)).2),.bool ((stepP p).isSome)]∧Rd w w.heap.size 59 encT A9 (((stepP p).getD (psZ,0)).1).ts∧Rd w w.heap.size 62 encA B9 (((stepP p).getD (psZ,0)).1).out∧Below w0.heap.size w0 w):=by
 have eB:=hV.ins;have eF:=hV.vars;refine enter Tryz.func68 rfl 110 rfl rfl ?_;intro a n
 have j:=bz w0
 refine Zs n fun _ dC=>?_;refine Zf (X0v (zs:=[vi p.ins,vi p.vars,vi p.root,vi p.phase,.slice Ap p.ts.length cp,.slice Bp p.out.length dp]) rfl rfl) ?_;rintro _ w1 ⟨b4,rfl,bL,q,x⟩;have eC:=Nat.le_trans j.size bL;have j:=btr j q;refine Zf (X6 (zs:=[vi 0,vi 0,vi 0,vi 0,.slice none 0 0,.slice none 0 0]) X1y rfl) ?_;rintro _ w2 ⟨b7,rfl,dD,q,e⟩
 have dB:b4≠b7:=by have:=x.lt;omega
 have M:=Nat.le_trans j.size dD;have x:=x.below q;have j:=btr j q;refine Za rfl<|Za rfl<|ZX dC fun a n _ dE=>?_;refine Zs n fun _ dF=>?_;refine Ze (Vd rfl X1b 0)<|Ze (Vx (X0 rfl X2 (x.at 0)) (show _=((p.ins.toNat+0:Nat) : Int) from (by omega)))<|Za rfl<|Zt dF fun a n=>?_;refine wp_block<|X05 (σ:=Nat) (fun (k:Nat) (a:Act) (w:World)=>Fr a 110 [(1,.pointer (some ⟨b4,0,none⟩)),(2,.pointer (some ⟨b7,0,none⟩)),(5,vi ((p.ins.toNat+k:Nat) : Int))]∧(k≤p.vars.toNat)∧(∀ i,i<k→(ruR p (p.ins.toNat+i)).1=0)∧Blk w b4 26 [vi p.ins,vi p.vars,vi p.root,vi p.phase,.slice Ap p.ts.length cp,.slice Bp p.out.length dp]∧Blk w b7 26 [vi 0,vi 0,vi 0,vi 0,.slice none 0 0,.slice none 0 0]∧Below w0.heap.size w0 w) (fun (k:Nat)=>p.vars.toNat-k) 0 ?_ ?_
 ·exact ⟨n.sb,(Nat.zero_le _),(fun i hi=>absurd hi (Nat.not_lt_zero i)),x,e,j⟩
 rintro k a w3 ⟨n,hk,b1,x,e,j⟩;refine wp_seq_k fun _ bN=>?_;refine Zs n fun _ bO=>?_;refine Zm rfl<|Ze (Vd rfl X1b 0)<|Ze (X0 rfl X2 (x.at 0))<|Ze (Vd rfl X1g 1)<|Ze (X0 rfl X2 (x.at 1)) ?_;refine Ze (Xw rfl rfl (by omega) (by omega))<|Ze (X1u rfl rfl)<|Zt bO fun a n=>?_
 refine Xf n rfl (fun D=>?_) (fun D=>?_)
 ·have b2:=D;have D:=of_decide_eq_true D
  have dG:k<p.vars.toNat:=by have:=D;omega
  refine wp_skip<|bN _ _<|wp_seq_k fun _ bP=>?_;refine wp_block<|Zs n fun _ bR=>?_;refine Ze (Vn Xm x)<|Zm rfl<|Zf (Vc (Y1u _ p Ap cp (aW.below' j).top Bp dp (aX.below' j).top (p.ins.toNat+k:Nat) hV (by omega) aZ b0) Xrb) ?_;rintro _ w4 ⟨rfl,q⟩;have x:=x.below q;have e:=e.below q;have j:=btr j q;refine Zm rfl<|Ze (X3 (vs:=[vi ((ruR p (p.ins.toNat+k:Nat)).1),vi ((ruR p (p.ins.toNat+k:Nat)).2.1),vi ((ruR p (p.ins.toNat+k:Nat)).2.2)]) rfl rfl)<|Ze (X3 (vs:=[vi ((ruR p (p.ins.toNat+k:Nat)).1),vi ((ruR p (p.ins.toNat+k:Nat)).2.1),vi ((ruR p (p.ins.toNat+k:Nat)).2.2)]) rfl rfl)<|Ze (X3 (vs:=[vi ((ruR p (p.ins.toNat+k:Nat)).1),vi ((ruR p (p.ins.toNat+k:Nat)).2.1),vi ((ruR p (p.ins.toNat+k:Nat)).2.2)]) rfl rfl)<|Za rfl ?_;refine Za rfl<|Za rfl<|ZX bR fun a n _ bS=>?_;refine Zs n fun _ bU=>?_;refine Zm rfl<|Ze (X0d rfl rfl)<|Zt bU fun a n=>?_
  refine Xf n rfl (fun N=>?_) (fun N=>?_)
  ·have b3:=N
   have aN:(ruR p (p.ins.toNat+k)).1=0:=by have:=N;simpa using this
   refine wp_exit<|Xh<|Xz<|bP _ _ ?_;refine Zr n<|Zm rfl<|Ze (X46 (k:=((p.ins.toNat+(k+1) : Nat) : Int)) rfl rfl (by omega) (by omega) (by omega))<|Za rfl ?_;refine Zn fun a n=>?_;refine Xe ?_;exact ⟨k+1,⟨n.sb,(by omega),(noN b1 aN),x,e,j⟩,(by omega)⟩
  have b3:=N
  have aN:(ruR p (p.ins.toNat+k)).1≠0:=by have:=N;simpa using this
  obtain ⟨b5,bW,dH⟩:=Xx5 aN;obtain ⟨eG,dI⟩:=Xlr dH
  rw [bW] at n
  have hY:p.ins.toNat≤(p.ins.toNat+k)∧(p.ins.toNat+k)<24:=⟨by omega,by omega⟩
  have b6:=Xud hY.2 hV.ts;have dJ:=b6.c;obtain ⟨bX,b8,dK,dL,dM⟩:=Y37 hV b5;obtain ⟨aC,aO,aD,bY⟩:=Xht bX b8;have aP:=b6.z.dr (v:=(p.ins.toNat+k))
  have eH:(repP p (p.ins.toNat+k) afZ).root=p.root:=rfl
  have eI:(repP p (p.ins.toNat+k) afZ).vars=p.vars-1:=rfl
  have Q:=Xcu dG b1 aN
  rw [bW] at Q
  refine wp_skip<|bS _ _<|Zs n fun _ bZ=>?_;refine Ze (Vn Xm x)<|Zm rfl<|Zf (Vc (Xzk _ p Ap cp (aW.below' j).top Bp dp (aX.below' j).top (p.ins.toNat+k:Nat) hV.ph (fun t9 h9=>⟨hV.ts.mks t9 h9,(hV.ts.all t9 h9).2.2⟩) (fun a9 h9=>(hV.out a9 h9).1) hY.2 (by omega) aZ b0) Xqs) ?_;rintro _ w5 ⟨y,c19,B,C,rfl,o,f,aG,q⟩;have x:=x.below q;have e:=e.below q;have j:=btr j q;refine Zf (X6 (zs:=[vi 0,vi 0,vi 0,vi 0,.slice none 0 0,.slice none 0 0]) X1y rfl) ?_;rintro _ w6 ⟨b23,rfl,c4,q,b⟩
  have cA:b4≠b23:=by have:=x.lt;omega
  have cC:b7≠b23:=by have:=e.lt;omega
  have A:=Nat.le_trans j.size c4;have x:=x.below q;have e:=e.below q;have o:=o.below q;have f:=f.below q;have j:=btr j q;refine Zo (Vw [vi ((repP p (p.ins.toNat+k:Nat) afZ).ins),vi ((repP p (p.ins.toNat+k:Nat) afZ).vars),vi ((repP p (p.ins.toNat+k:Nat) afZ).root),vi ((repP p (p.ins.toNat+k:Nat) afZ).phase),.slice y ((repP p (p.ins.toNat+k:Nat) afZ).ts).length c19,.slice B ((repP p (p.ins.toNat+k:Nat) afZ).out).length C] X0c b) ?_;rintro _ w7 ⟨t,E⟩;have d:=b;have x:=x.only t (by omega);have e:=e.only t (by omega);have o:=o.onlyT t d rfl;have f:=f.onlyT t d rfl;have j:=Below.only j t A;have b:=E;refine Zx bZ fun a n _ cD=>?_;refine Zm rfl<|Zm rfl<|Zf (Vc (Xca _ ((arF (p.ins.toNat+k) p.ts).z) (p.ins.toNat+k:Nat) b6.z hY.2) X74) ?_;rintro _ _ ⟨rfl,rfl⟩;refine Za rfl<|ZX cD fun a n _ aA=>?_;refine Zs n fun _ cE=>?_;refine Zm rfl<|Zt cE fun a n=>?_;refine wp_block<|Zs n fun _ cF=>?_;refine Ze (X0d rfl rfl)<|Za rfl<|Zt cF fun a n=>?_
  refine Xf n rfl (fun U=>?_) (fun U=>?_)
  ·have b9:=U
   have aQ:ruK p.ins (arF (p.ins.toNat+k) p.ts)=1:=by have:=U;simpa using this
   refine Zr n<|Ze (Vd rfl X16 2)<|Ze (X0 rfl X2 (b.at 2))<|Ze (X1m rfl rfl (by omega) (by omega))<|Ze (Vd rfl X16 2)<|Zo (Vu (vs:=[vi (((repP p (p.ins.toNat+k:Nat) afZ).root)-2)]) (l':=[vi ((repP p (p.ins.toNat+k:Nat) afZ).ins),vi ((repP p (p.ins.toNat+k:Nat) afZ).vars),vi (((repP p (p.ins.toNat+k:Nat) afZ).root)-2),vi ((repP p (p.ins.toNat+k:Nat) afZ).phase),.slice y ((repP p (p.ins.toNat+k:Nat) afZ).ts).length c19,.slice B ((repP p (p.ins.toNat+k:Nat) afZ).out).length C]) rfl rfl X1d b) ?_;rintro _ w8 ⟨t,E⟩;have d:=b;have e:=e.only t (by omega);have o:=o.onlyT t d rfl;have f:=f.onlyT t d rfl;have j:=Below.only j t A;have b:=E;refine Zn fun a n=>?_;refine Xb<|aA _ _<|Zs n fun _ cG=>?_;refine Ze (Vn Xm b)<|Zm rfl<|Zo (Vw [vi ((repP p (p.ins.toNat+k:Nat) afZ).ins),vi ((repP p (p.ins.toNat+k:Nat) afZ).vars),vi (((repP p (p.ins.toNat+k:Nat) afZ).root)-2),vi ((repP p (p.ins.toNat+k:Nat) afZ).phase),.slice y ((repP p (p.ins.toNat+k:Nat) afZ).ts).length c19,.slice B ((repP p (p.ins.toNat+k:Nat) afZ).out).length C] X0c e) ?_;rintro _ w9 ⟨t,E⟩;have d:=e;have o:=o.onlyT t d rfl;have f:=f.onlyT t d rfl;have j:=Below.only j t M;have e:=E;refine Za rfl<|Za rfl<|Zt cG fun a n=>?_;refine wp_ret<|Xi<|X5<|X5 ?_;refine Xi<|X5<|X4 n (X2z n rfl (ResV.cellN (l:=[vi ((repP p (p.ins.toNat+k:Nat) afZ).ins),vi ((repP p (p.ins.toNat+k:Nat) afZ).vars),vi (((repP p (p.ins.toNat+k:Nat) afZ).root)-2),vi ((repP p (p.ins.toNat+k:Nat) afZ).phase),.slice y ((repP p (p.ins.toNat+k:Nat) afZ).ts).length c19,.slice B ((repP p (p.ins.toNat+k:Nat) afZ).out).length C]) rfl Xm (e.at 0) rfl) rfl rfl) ?_
   rw [Q,Xw5 aQ]
   exact ⟨y,c19,B,C,rfl,o.top,f.top,j⟩
  have b9:=U
  have aQ:¬ ruK p.ins (arF (p.ins.toNat+k) p.ts)=1:=by have:=U;simpa using this
  refine Zs n fun _ cH=>?_;refine Ze (X0d rfl rfl)<|Za rfl<|Zt cH fun a n=>?_
  refine Xf n rfl (fun W=>?_) (fun W=>?_)
  ·have bC:=W
   have aH:ruK p.ins (arF (p.ins.toNat+k) p.ts)=2:=by have:=W;simpa using this
   refine Zs n fun _ cJ=>?_;refine Ze (Vd rfl X16 2)<|Ze (X0 rfl X2 (b.at 2))<|Ze (X1m rfl rfl (by omega) (by omega))<|Ze (Vd rfl X16 2)<|Zo (Vu (vs:=[vi (((repP p (p.ins.toNat+k:Nat) afZ).root)-1)]) (l':=[vi ((repP p (p.ins.toNat+k:Nat) afZ).ins),vi ((repP p (p.ins.toNat+k:Nat) afZ).vars),vi (((repP p (p.ins.toNat+k:Nat) afZ).root)-1),vi ((repP p (p.ins.toNat+k:Nat) afZ).phase),.slice y ((repP p (p.ins.toNat+k:Nat) afZ).ts).length c19,.slice B ((repP p (p.ins.toNat+k:Nat) afZ).out).length C]) rfl rfl X1d b) ?_;rintro _ eJ ⟨t,E⟩;have d:=b;have e:=e.only t (by omega);have o:=o.onlyT t d rfl;have f:=f.onlyT t d rfl;have j:=Below.only j t A;have b:=E;refine Zx cJ fun a n _ cK=>?_;refine Ze (Vd rfl X1j 3)<|Ze (X0 rfl X2 (b.at 3))<|Ze (Vd rfl X0k 4)<|Ze (X0 rfl X14 (b.at 4))<|Ze (Xl (ps:=[(0,vi ((repP p (p.ins.toNat+k:Nat) afZ).phase)),(1,.slice y ((repP p (p.ins.toNat+k:Nat) afZ).ts).length c19)]) (cs:=[vi ((repP p (p.ins.toNat+k:Nat) afZ).phase),.slice y ((repP p (p.ins.toNat+k:Nat) afZ).ts).length c19]) rfl (fun _=>by first|rfl|kernel_rfl)) ?_;refine Zf (X0v (zs:=[vi ((repP p (p.ins.toNat+k:Nat) afZ).phase),.slice y ((repP p (p.ins.toNat+k:Nat) afZ).ts).length c19]) rfl rfl) ?_;rintro _ aE ⟨aF,rfl,cL,q,g⟩;have L:=Nat.le_trans j.size cL;have e:=e.below q;have b:=b.below q;have o:=o.below q;have f:=f.below q;have j:=btr j q;refine Za rfl<|ZX cK fun a n _ aY=>?_;refine Zs n fun _ cM=>?_;refine Zm rfl<|Ze (X0d rfl rfl)<|Zt cM fun a n=>?_
   refine Xf n rfl (fun a6=>?_) (fun a6=>?_)
   ·have bD:=a6
    have bE:(arF (p.ins.toNat+k) p.ts).c=2:=by simpa using a6
    replace g:Blk aE aF 120 [vi ((polF (repP p (p.ins.toNat+k) afZ)) 0),.slice y (tms (polF (repP p (p.ins.toNat+k) afZ))).length c19]:=by rw [aD,bY];exact g
    have bF:Rd aE aE.heap.size 59 encT y (tms (polF (repP p (p.ins.toNat+k) afZ))):=by rw [aD];exact o.top
    have aI:(tms (polF (repP p (p.ins.toNat+k) afZ))).length≤c19:=by rw [aD];exact aG
    refine Zs n fun _ cN=>?_;refine Zm rfl<|Zf (Vc (X45 _ aF (polF (repP p (p.ins.toNat+k) afZ)) y c19 g bF.top aI aC aO 0 1 Mk.zero (by omega)) X2n) ?_;rintro _ eK ⟨rfl,hK,dN,dO,G,cO,bG⟩;obtain ⟨wm,H,hm,q⟩:=hK.mid;clear hm;have d:=g;have e:=e.only H (Blk.ne e d rfl);have b:=b.only H (Blk.ne b d rfl);have f:=f.onlyT H d rfl;have j:=Below.only j H L;have e:=e.below q;have b:=b.below q;have f:=f.below q;have j:=btr j q
    clear d q H hK;have g:=G;clear G;refine Zt cN fun a n=>?_;refine Zr n<|Zm rfl<|Zm rfl<|Ze (Xl (ps:=[(0,vi (drI (p.ins.toNat+k:Nat) ((arF (p.ins.toNat+k) p.ts).z)))]) (cs:=[vi (drI (p.ins.toNat+k:Nat) ((arF (p.ins.toNat+k) p.ts).z)),vi 0]) rfl (fun _=>by first|rfl|kernel_rfl))<|Zf (Vc (Xgr _ aF (padd (polF (repP p (p.ins.toNat+k) afZ)) 0 1) dN dO g cO.top bG (aC.padd _ _) (aO.pad aC Mk.zero) 0 6 (⟨drI (p.ins.toNat+k:Nat) ((arF (p.ins.toNat+k) p.ts).z),0⟩ : Af) Mk.zero (by omega) ⟨aP,.inl rfl⟩) X8b) ?_;rintro _ eL ⟨rfl,hK,aJ,aK,G,I,dP⟩;obtain ⟨wm,H,hm,q⟩:=hK.mid;clear hm;have d:=g;have e:=e.only H (Blk.ne e d rfl);have b:=b.only H (Blk.ne b d rfl);have f:=f.onlyT H d rfl;have j:=Below.only j H L;have e:=e.below q;have b:=b.below q;have f:=f.below q;have j:=btr j q
    clear d q H hK;have g:=G;clear G;refine Zx aY fun a n _ cP=>?_;refine Zm rfl<|Ze (X0z rfl)<|Ze (Vd rfl X4d 0)<|Ze (X0 rfl X2 (g.at 0))<|Ze (Vd rfl X1j 3) ?_;refine Zo (Vu (vs:=[vi ((expP (padd (polF (repP p (p.ins.toNat+k) afZ)) 0 1) 6 (⟨drI (p.ins.toNat+k:Nat) ((arF (p.ins.toNat+k) p.ts).z),0⟩ : Af) 0) 0)]) (l':=[vi ((repP p (p.ins.toNat+k:Nat) afZ).ins),vi ((repP p (p.ins.toNat+k:Nat) afZ).vars),vi (((repP p (p.ins.toNat+k:Nat) afZ).root)-1),vi ((expP (padd (polF (repP p (p.ins.toNat+k) afZ)) 0 1) 6 (⟨drI (p.ins.toNat+k:Nat) ((arF (p.ins.toNat+k) p.ts).z),0⟩ : Af) 0) 0),.slice y ((repP p (p.ins.toNat+k:Nat) afZ).ts).length c19,.slice B ((repP p (p.ins.toNat+k:Nat) afZ).out).length C]) rfl rfl X1d b) ?_;rintro _ eN ⟨t,E⟩;have d:=b;have e:=e.only t (by omega);have g:=g.only t (Blk.ne g d rfl);have f:=f.onlyT t d rfl;have I:=I.onlyT t d rfl;have j:=Below.only j t A;have b:=E;refine Zt cP fun a n=>?_;refine Zr n<|Zm rfl<|Ze (X0z rfl)<|Ze (Vd rfl X17 1)<|Ze (X0 rfl X14 (g.at 1))<|Ze (Vd rfl X0k 4) ?_;refine Zo (Vu (vs:=[.slice aJ (tms (expP (padd (polF (repP p (p.ins.toNat+k) afZ)) 0 1) 6 (⟨drI (p.ins.toNat+k:Nat) ((arF (p.ins.toNat+k) p.ts).z),0⟩ : Af) 0)).length aK]) (l':=[vi ((repP p (p.ins.toNat+k:Nat) afZ).ins),vi ((repP p (p.ins.toNat+k:Nat) afZ).vars),vi (((repP p (p.ins.toNat+k:Nat) afZ).root)-1),vi ((expP (padd (polF (repP p (p.ins.toNat+k) afZ)) 0 1) 6 (⟨drI (p.ins.toNat+k:Nat) ((arF (p.ins.toNat+k) p.ts).z),0⟩ : Af) 0) 0),.slice aJ (tms (expP (padd (polF (repP p (p.ins.toNat+k) afZ)) 0 1) 6 (⟨drI (p.ins.toNat+k:Nat) ((arF (p.ins.toNat+k) p.ts).z),0⟩ : Af) 0)).length aK,.slice B ((repP p (p.ins.toNat+k:Nat) afZ).out).length C]) rfl rfl X2g b) ?_;rintro _ eO ⟨t,E⟩
    have d:=b;have e:=e.only t (by omega);have f:=f.onlyT t d rfl;have I:=I.onlyT t d rfl;have j:=Below.only j t A;have b:=E;refine Zn fun a n=>?_;refine Xb<|aA _ _<|Zs n fun _ cQ=>?_;refine Ze (Vn Xm b)<|Zm rfl<|Zo (Vw [vi ((repP p (p.ins.toNat+k:Nat) afZ).ins),vi ((repP p (p.ins.toNat+k:Nat) afZ).vars),vi (((repP p (p.ins.toNat+k:Nat) afZ).root)-1),vi ((expP (padd (polF (repP p (p.ins.toNat+k) afZ)) 0 1) 6 (⟨drI (p.ins.toNat+k:Nat) ((arF (p.ins.toNat+k) p.ts).z),0⟩ : Af) 0) 0),.slice aJ (tms (expP (padd (polF (repP p (p.ins.toNat+k) afZ)) 0 1) 6 (⟨drI (p.ins.toNat+k:Nat) ((arF (p.ins.toNat+k) p.ts).z),0⟩ : Af) 0)).length aK,.slice B ((repP p (p.ins.toNat+k:Nat) afZ).out).length C] X0c e) ?_;rintro _ eP ⟨t,E⟩;have d:=e;have f:=f.onlyT t d rfl;have I:=I.onlyT t d rfl;have j:=Below.only j t M;have e:=E;refine Za rfl<|Za rfl<|Zt cQ fun a n=>?_;refine wp_ret<|Xi<|X5<|X5 ?_;refine Xi<|X5<|X4 n (X2z n rfl (ResV.cellN (l:=[vi ((repP p (p.ins.toNat+k:Nat) afZ).ins),vi ((repP p (p.ins.toNat+k:Nat) afZ).vars),vi (((repP p (p.ins.toNat+k:Nat) afZ).root)-1),vi ((expP (padd (polF (repP p (p.ins.toNat+k) afZ)) 0 1) 6 (⟨drI (p.ins.toNat+k:Nat) ((arF (p.ins.toNat+k) p.ts).z),0⟩ : Af) 0) 0),.slice aJ (tms (expP (padd (polF (repP p (p.ins.toNat+k) afZ)) 0 1) 6 (⟨drI (p.ins.toNat+k:Nat) ((arF (p.ins.toNat+k) p.ts).z),0⟩ : Af) 0)).length aK,.slice B ((repP p (p.ins.toNat+k:Nat) afZ).out).length C]) rfl Xm (e.at 0) rfl) rfl rfl) ?_
    rw [Q,Xqo aH bE]
    exact ⟨aJ,aK,B,C,rfl,I.top,f.top,j⟩
   have bD:=a6
   have bE:¬ (arF (p.ins.toNat+k) p.ts).c=2:=by simpa using a6
   replace g:Blk aE aF 120 [vi ((polF (repP p (p.ins.toNat+k) afZ)) 0),.slice y (tms (polF (repP p (p.ins.toNat+k) afZ))).length c19]:=by rw [aD,bY];exact g
   have bF:Rd aE aE.heap.size 59 encT y (tms (polF (repP p (p.ins.toNat+k) afZ))):=by rw [aD];exact o.top
   have aI:(tms (polF (repP p (p.ins.toNat+k) afZ))).length≤c19:=by rw [aD];exact aG
   refine Zs n fun _ cR=>?_;refine Zm rfl<|Zf (Vc (X45 _ aF (polF (repP p (p.ins.toNat+k) afZ)) y c19 g bF.top aI aC aO 0 7 Mk.zero (by omega)) X2n) ?_;rintro _ eQ ⟨rfl,hK,dQ,dR,G,cS,bH⟩;obtain ⟨wm,H,hm,q⟩:=hK.mid;clear hm;have d:=g;have e:=e.only H (Blk.ne e d rfl);have b:=b.only H (Blk.ne b d rfl);have f:=f.onlyT H d rfl;have j:=Below.only j H L;have e:=e.below q;have b:=b.below q;have f:=f.below q;have j:=btr j q
   clear d q H hK;have g:=G;clear G;refine Zt cR fun a n=>?_;refine Zr n<|Zm rfl<|Zm rfl<|Ze (Xl (ps:=[(0,vi (drI (p.ins.toNat+k:Nat) ((arF (p.ins.toNat+k) p.ts).z)))]) (cs:=[vi (drI (p.ins.toNat+k:Nat) ((arF (p.ins.toNat+k) p.ts).z)),vi 0]) rfl (fun _=>by first|rfl|kernel_rfl))<|Zf (Vc (Xgr _ aF (padd (polF (repP p (p.ins.toNat+k) afZ)) 0 7) dQ dR g cS.top bH (aC.padd _ _) (aO.pad aC Mk.zero) 0 2 (⟨drI (p.ins.toNat+k:Nat) ((arF (p.ins.toNat+k) p.ts).z),0⟩ : Af) Mk.zero (by omega) ⟨aP,.inl rfl⟩) X8b) ?_;rintro _ eR ⟨rfl,hK,aL,aM,G,J,dS⟩;obtain ⟨wm,H,hm,q⟩:=hK.mid;clear hm;have d:=g;have e:=e.only H (Blk.ne e d rfl);have b:=b.only H (Blk.ne b d rfl);have f:=f.onlyT H d rfl;have j:=Below.only j H L;have e:=e.below q;have b:=b.below q;have f:=f.below q;have j:=btr j q
   clear d q H hK;have g:=G;clear G;refine Zx aY fun a n _ cU=>?_;refine Zm rfl<|Ze (X0z rfl)<|Ze (Vd rfl X4d 0)<|Ze (X0 rfl X2 (g.at 0))<|Ze (Vd rfl X1j 3) ?_;refine Zo (Vu (vs:=[vi ((expP (padd (polF (repP p (p.ins.toNat+k) afZ)) 0 7) 2 (⟨drI (p.ins.toNat+k:Nat) ((arF (p.ins.toNat+k) p.ts).z),0⟩ : Af) 0) 0)]) (l':=[vi ((repP p (p.ins.toNat+k:Nat) afZ).ins),vi ((repP p (p.ins.toNat+k:Nat) afZ).vars),vi (((repP p (p.ins.toNat+k:Nat) afZ).root)-1),vi ((expP (padd (polF (repP p (p.ins.toNat+k) afZ)) 0 7) 2 (⟨drI (p.ins.toNat+k:Nat) ((arF (p.ins.toNat+k) p.ts).z),0⟩ : Af) 0) 0),.slice y ((repP p (p.ins.toNat+k:Nat) afZ).ts).length c19,.slice B ((repP p (p.ins.toNat+k:Nat) afZ).out).length C]) rfl rfl X1d b) ?_;rintro _ eS ⟨t,E⟩;have d:=b;have e:=e.only t (by omega);have g:=g.only t (Blk.ne g d rfl);have f:=f.onlyT t d rfl;have J:=J.onlyT t d rfl;have j:=Below.only j t A;have b:=E;refine Zt cU fun a n=>?_;refine Zr n<|Zm rfl<|Ze (X0z rfl)<|Ze (Vd rfl X17 1)<|Ze (X0 rfl X14 (g.at 1))<|Ze (Vd rfl X0k 4) ?_;refine Zo (Vu (vs:=[.slice aL (tms (expP (padd (polF (repP p (p.ins.toNat+k) afZ)) 0 7) 2 (⟨drI (p.ins.toNat+k:Nat) ((arF (p.ins.toNat+k) p.ts).z),0⟩ : Af) 0)).length aM]) (l':=[vi ((repP p (p.ins.toNat+k:Nat) afZ).ins),vi ((repP p (p.ins.toNat+k:Nat) afZ).vars),vi (((repP p (p.ins.toNat+k:Nat) afZ).root)-1),vi ((expP (padd (polF (repP p (p.ins.toNat+k) afZ)) 0 7) 2 (⟨drI (p.ins.toNat+k:Nat) ((arF (p.ins.toNat+k) p.ts).z),0⟩ : Af) 0) 0),.slice aL (tms (expP (padd (polF (repP p (p.ins.toNat+k) afZ)) 0 7) 2 (⟨drI (p.ins.toNat+k:Nat) ((arF (p.ins.toNat+k) p.ts).z),0⟩ : Af) 0)).length aM,.slice B ((repP p (p.ins.toNat+k:Nat) afZ).out).length C]) rfl rfl X2g b) ?_;rintro _ eT ⟨t,E⟩
   have d:=b;have e:=e.only t (by omega);have f:=f.onlyT t d rfl;have J:=J.onlyT t d rfl;have j:=Below.only j t A;have b:=E;refine Zn fun a n=>?_;refine Xb<|aA _ _<|Zs n fun _ cW=>?_;refine Ze (Vn Xm b)<|Zm rfl<|Zo (Vw [vi ((repP p (p.ins.toNat+k:Nat) afZ).ins),vi ((repP p (p.ins.toNat+k:Nat) afZ).vars),vi (((repP p (p.ins.toNat+k:Nat) afZ).root)-1),vi ((expP (padd (polF (repP p (p.ins.toNat+k) afZ)) 0 7) 2 (⟨drI (p.ins.toNat+k:Nat) ((arF (p.ins.toNat+k) p.ts).z),0⟩ : Af) 0) 0),.slice aL (tms (expP (padd (polF (repP p (p.ins.toNat+k) afZ)) 0 7) 2 (⟨drI (p.ins.toNat+k:Nat) ((arF (p.ins.toNat+k) p.ts).z),0⟩ : Af) 0)).length aM,.slice B ((repP p (p.ins.toNat+k:Nat) afZ).out).length C] X0c e) ?_;rintro _ eU ⟨t,E⟩;have d:=e;have f:=f.onlyT t d rfl;have J:=J.onlyT t d rfl;have j:=Below.only j t M;have e:=E;refine Za rfl<|Za rfl<|Zt cW fun a n=>?_;refine wp_ret<|Xi<|X5<|X5 ?_;refine Xi<|X5<|X4 n (X2z n rfl (ResV.cellN (l:=[vi ((repP p (p.ins.toNat+k:Nat) afZ).ins),vi ((repP p (p.ins.toNat+k:Nat) afZ).vars),vi (((repP p (p.ins.toNat+k:Nat) afZ).root)-1),vi ((expP (padd (polF (repP p (p.ins.toNat+k) afZ)) 0 7) 2 (⟨drI (p.ins.toNat+k:Nat) ((arF (p.ins.toNat+k) p.ts).z),0⟩ : Af) 0) 0),.slice aL (tms (expP (padd (polF (repP p (p.ins.toNat+k) afZ)) 0 7) 2 (⟨drI (p.ins.toNat+k:Nat) ((arF (p.ins.toNat+k) p.ts).z),0⟩ : Af) 0)).length aM,.slice B ((repP p (p.ins.toNat+k:Nat) afZ).out).length C]) rfl Xm (e.at 0) rfl) rfl rfl) ?_
   rw [Q,Xtr aH bE]
   exact ⟨aL,aM,B,C,rfl,J.top,f.top,j⟩
  have bC:=W
  have aH:¬ ruK p.ins (arF (p.ins.toNat+k) p.ts)=2:=by have:=W;simpa using this
  have cX:((arF (p.ins.toNat+k) p.ts).c=0∨(arF (p.ins.toNat+k) p.ts).c=4)∧0<(arF (p.ins.toNat+k) p.ts).z/2^p.ins.toNat:=by
   rcases dI with h|h|h
   ·exact absurd h aQ
   ·exact absurd h.1 aH
   ·exact h.2
  obtain ⟨eW,bJ,eD,bL,eX⟩:=Xdx hV hY b5 cX.2;have cY:=Xtv aP p.ins.toNat;have dU:=Xrw hV hY b5 cX.2;have dW:=Xtg cY dU;refine Zs n fun _ d5=>?_;refine Ze (Vd rfl X16 2)<|Ze (X0 rfl X2 (b.at 2))<|Ze (X1m rfl rfl (by omega) (by omega))<|Ze (Vd rfl X16 2)<|Zo (Vu (vs:=[vi (((repP p (p.ins.toNat+k:Nat) afZ).root)-2)]) (l':=[vi ((repP p (p.ins.toNat+k:Nat) afZ).ins),vi ((repP p (p.ins.toNat+k:Nat) afZ).vars),vi (((repP p (p.ins.toNat+k:Nat) afZ).root)-2),vi ((repP p (p.ins.toNat+k:Nat) afZ).phase),.slice y ((repP p (p.ins.toNat+k:Nat) afZ).ts).length c19,.slice B ((repP p (p.ins.toNat+k:Nat) afZ).out).length C]) rfl rfl X1d b) ?_;rintro _ eY ⟨t,E⟩;have d:=b;have x:=x.only t (by omega);have e:=e.only t (by omega);have o:=o.onlyT t d rfl;have f:=f.onlyT t d rfl;have j:=Below.only j t A;have b:=E;refine ZX d5 fun a n _ d6=>?_;refine Xs none (fun _=>false) mixed ?_;intro f3 q;have x:=x.below q;have e:=e.below q;have b:=b.below q;have o:=o.below q;have f:=f.below q;have j:=btr j q;refine Yb n<|Yo 0 rfl (fun _=>X8 rfl)<|Yo 1 rfl (fun _=>Vd rfl X1b 0)<|Ye 2 rfl (X0 rfl X2 (x.at 0))<|Yo 3 rfl (fun _=>X3u (m:=p.ins.toNat) Tryz.underlying3 Tryz.underlying109 rfl (by omega) (by omega))<|Yo 4 rfl (fun _=>X6k (m:=p.ins.toNat) rfl rfl rfl (by omega)) ?_;refine Yo 8 rfl (fun _=>Vd rfl X1b 0)<|Ye 9 rfl (X0 rfl X2 (x.at 0))<|Y1 5 ?_;refine Yk rfl trivial (Vc (X6p _ ((drI (p.ins.toNat+k:Nat) ((arF (p.ins.toNat+k) p.ts).z))/2^p.ins.toNat) cY) X56) (fun _ _ ⟨dX,e8,_,aB,q⟩=>q) ?_;rintro _ f7 ⟨dX,e8,rfl,aB,q⟩;have aB:=aB.lower j.size
  have e:=e.below q;have b:=b.below q;have o:=o.below q;have f:=f.below q;have j:=btr j q;refine Yi (k:=0) (u:=((nS ((drI (p.ins.toNat+k) (arF (p.ins.toNat+k) p.ts).z)/2^p.ins.toNat) 0:Nat) : Int)) (enc:=encI) (l:=(setI ((drI (p.ins.toNat+k:Nat) ((arF (p.ins.toNat+k) p.ts).z))/2^p.ins.toNat).toNat)) 6 rfl trivial rfl rfl X0r X1d X0j aB.rd (X4w dW) rfl ?_;intro f8 bK;refine Ye 7 rfl (X0 rfl X2 bK)<|Yo 10 rfl (fun _=>X46 (k:=(((vR p (p.ins.toNat+k)) : Nat) : Int)) rfl rfl (by unfold vR;omega) (by omega) (by omega))<|Yo 11 rfl (fun _=>X1w rfl) ?_;refine Yd fun a n=>?_;refine d6 _ _<|Zr n<|Ze (Vn Xm b)<|Zm rfl<|Zm rfl<|Zm rfl<|Ze (X3u (m:=(vR p (p.ins.toNat+k))) Tryz.underlying3 Tryz.underlying109 rfl rfl (by omega)) ?_;refine Ze (Vx (X30 (m:=(vR p (p.ins.toNat+k))) rfl rfl rfl (by omega)) (X63 bJ))<|Ze (Vx (X66 rfl rfl) (rfl:_=(xI (drI (p.ins.toNat+k) (arF (p.ins.toNat+k) p.ts).z) (pw (vR p (p.ins.toNat+k))))))<|Zm rfl<|Ze (Vx (Xhq rfl rfl rfl) (Xw8 dJ))<|Ze (Xl (ps:=[(0,vi (xI (drI (p.ins.toNat+k) (arF (p.ins.toNat+k) p.ts).z) (pw (vR p (p.ins.toNat+k))))),(1,vi ((arF (p.ins.toNat+k) p.ts).c/4))]) (cs:=[vi (xI (drI (p.ins.toNat+k) (arF (p.ins.toNat+k) p.ts).z) (pw (vR p (p.ins.toNat+k)))),vi ((arF (p.ins.toNat+k) p.ts).c/4)]) rfl (fun _=>by first|rfl|kernel_rfl)) ?_;refine Zf (Vc (Xuc _ (⟨(repP p (p.ins.toNat+k:Nat) afZ).ins,(repP p (p.ins.toNat+k:Nat) afZ).vars,((repP p (p.ins.toNat+k:Nat) afZ).root)-2,(repP p (p.ins.toNat+k:Nat) afZ).phase,(repP p (p.ins.toNat+k:Nat) afZ).ts,(repP p (p.ins.toNat+k:Nat) afZ).out⟩ : Ps) y c19 o.top B C f.top ((vR p (p.ins.toNat+k)) : Nat) (⟨(xI (drI (p.ins.toNat+k) (arF (p.ins.toNat+k) p.ts).z) (pw (vR p (p.ins.toNat+k)))),((arF (p.ins.toNat+k) p.ts).c/4)⟩ : Af) bX (fun t9 h9=>⟨b8.mks t9 h9,(b8.all t9 h9).2.2⟩) dK bJ ⟨aP.xor (X3h bJ),(by show (arF (p.ins.toNat+k) p.ts).c/4=0∨(arF (p.ins.toNat+k) p.ts).c/4=1;omega)⟩ (by show -1000≤p.vars-1∧p.vars-1≤1000;omega) (Nat.le_trans dL aZ) (Nat.le_trans (Nat.le_of_eq dM) b0)) Xiv) ?_;rintro _ f9 ⟨aR,aS,aT,aU,rfl,a7,a8,eA,q⟩
  have e:=e.below q;have b:=b.below q;have j:=btr j q;refine Zo (Vw [vi ((q3P p k).ins),vi ((q3P p k).vars),vi ((q3P p k).root),vi ((q3P p k).phase),.slice aR ((q3P p k).ts).length aS,.slice aT ((q3P p k).out).length aU] X0c b) ?_;rintro _ fA ⟨t,E⟩;have d:=b;have e:=e.only t (by omega);have a7:=a7.onlyT t d rfl;have a8:=a8.onlyT t d rfl;have j:=Below.only j t A;have b:=E;refine Zn fun a n=>?_;refine Xb<|aA _ _<|Zs n fun _ d7=>?_;refine Ze (Vn Xm b)<|Zm rfl<|Zo (Vw [vi ((q3P p k).ins),vi ((q3P p k).vars),vi ((q3P p k).root),vi ((q3P p k).phase),.slice aR ((q3P p k).ts).length aS,.slice aT ((q3P p k).out).length aU] X0c e) ?_;rintro _ fB ⟨t,E⟩;have d:=e;have a7:=a7.onlyT t d rfl;have a8:=a8.onlyT t d rfl;have j:=Below.only j t M;have e:=E;refine Za rfl<|Za rfl<|Zt d7 fun a n=>?_;refine wp_ret<|Xi<|X5<|X5 ?_;refine Xi<|X5<|X4 n (X2z n rfl (ResV.cellN (l:=[vi ((q3P p k).ins),vi ((q3P p k).vars),vi ((q3P p k).root),vi ((q3P p k).phase),.slice aR ((q3P p k).ts).length aS,.slice aT ((q3P p k).out).length aU]) rfl Xm (e.at 0) rfl) rfl rfl) ?_
  rw [Q,Xy0 aQ aH]
  exact ⟨aR,aS,aT,aU,rfl,a7.top,a8.top,j⟩
 have b2:=D;have D:=of_decide_eq_false D
 have fC:p.vars.toNat≤k:=by have:=D;omega
 refine wp_exit<|Xh<|Xh<|Xz ?_;refine dE _ _<|Zs n fun _ d8=>?_;refine Ze (Xl (ps:=[]) (cs:=[vi 0,vi 0,vi 0,vi 0,.slice none 0 0,.slice none 0 0]) rfl (fun _=>by first|rfl|kernel_rfl))<|Zo (Vw [vi 0,vi 0,vi 0,vi 0,.slice none 0 0,.slice none 0 0] X0c e) ?_;rintro _ fD ⟨t,E⟩;have d:=e;have j:=Below.only j t M;have e:=E;refine Za rfl<|Za rfl<|Zt d8 fun a n=>?_
 refine wp_ret (X4 n (X2z n rfl (ResV.cellN (l:=[vi 0,vi 0,vi 0,vi 0,.slice none 0 0,.slice none 0 0]) rfl Xm (e.at 0) rfl) rfl rfl) ?_)
 rw [Xcg fun i hi=>b1 i (by omega)]
 exact ⟨none,0,none,0,rfl,(Rd.nil _ _ _ _ _),(Rd.nil _ _ _ _ _),j⟩
theorem Xza(w0:World)(x:Af)(j:Nat)(ba:Nat)(b:Blk w0 ba 3 [vi (j:Int)])(hj:j<60) : Ret Tryz.prog 41 [.agg #[vi x.m,vi x.t],.pointer (some ⟨ba,0,none⟩)] w0 (fun v w=>v=.bool (bQ j x)∧Below w0.heap.size w0 w):=by
 have a6:=b.lt;refine enter Tryz.func41 rfl 10 rfl rfl ?_;intro a hf
 have hW:=bz w0
 refine Zs hf fun _ a7=>?_;refine Zf (X0v (zs:=[vi x.m,vi x.t]) rfl rfl) ?_;rintro _ w1 ⟨b2,rfl,a8,hE,aA⟩;have aC:=Nat.le_trans hW.size a8;have b:=b.below hE;have hW:=btr hW hE;refine Za rfl<|Zx a7 fun a hf _ aB=>?_;refine Ze (Vd rfl X0g 0)<|Ze (X0 rfl X2 (aA.at 0))<|Ze (X0 rfl X2 (b.at 0))<|Ze (X6k (m:=j) rfl rfl rfl (by omega))<|Ze (X7r rfl rfl) ?_;refine Ze (X0d rfl rfl)<|Za rfl<|Zt aB fun a hf=>?_
 refine wp_ret (X4 hf (X00 hf rfl rfl) ?_)
 exact ⟨rfl,hW⟩
theorem Y1m(U:World)(p:Ps)(Ap:Option Addr)(cp:Nat)(aE:Rd U U.heap.size 59 encT Ap p.ts)(Bp:Option Addr)(dp:Nat)(W:Rd U U.heap.size 62 encA Bp p.out)(aP:validP p=true)(aQ:TabAt U)(bR:1<U.heap.size) : Ret Tryz.prog 13 [.agg #[vi p.ins,vi p.vars,vi p.root,vi p.phase,.slice Ap p.ts.length cp,.slice Bp p.out.length dp]] U (fun v w=>∃ A9 c9 B9 d9,v=.tuple #[psV A9 c9 B9 d9 (((nxtP p).getD (psZ,0)).1),vi (((nxtP p).getD (psZ,0)).2),.bool ((nxtP p).isSome)]∧Rd w w.heap.size 59 encT A9 (((nxtP p).getD (psZ,0)).1).ts∧Rd w w.heap.size 62 encA B9 (((nxtP p).getD (psZ,0)).1).out∧Below U.heap.size U w):=by
 have hR:=VPr.of aP;have hV:=hR.v;have cD:=hV.ins;have cG:=hV.vars;have cH:=hR.root;have cJ:=hR.len;have cK:=hR.out;refine enter Tryz.func13 rfl 43 rfl rfl ?_;intro a f
 have e:=bz U
 refine Zs f fun _ bS=>?_;refine Zf (X0v (zs:=[vi p.ins,vi p.vars,vi p.root,vi p.phase,.slice Ap p.ts.length cp,.slice Bp p.out.length dp]) rfl rfl) ?_;rintro _ w1 ⟨b4,rfl,bU,g,c⟩;have cE:=Nat.le_trans e.size bU;have e:=btr e g;refine Zf (X6 (zs:=[vi 0,vi 0,vi 0,vi 0,.slice none 0 0,.slice none 0 0]) X1y rfl) ?_;rintro _ w2 ⟨b7,rfl,bW,g,b⟩
 have bP:b4≠b7:=by have:=c.lt;omega
 have a6:=Nat.le_trans e.size bW;have c:=c.below g;have e:=btr e g;refine Za rfl<|Za rfl<|ZX bS fun a f _ bX=>?_;refine Zs f fun _ bY=>?_;refine Ze (Vn Xm c)<|Zf (Vc (Xkl _ p Ap cp (aE.below' e).top Bp dp (W.below' e).top hV.ts.mks (by omega) (by omega) (by omega)) Xa5) ?_;rintro _ w3 ⟨rfl,g⟩;have c:=c.below g;have b:=b.below g;have e:=btr e g;refine Ze (X1a rfl)<|Zt bY fun a f=>?_
 refine Xf f rfl (fun N=>?_) (fun N=>?_)
 ·have aG:=N;exact absurd N (by rw [aP];decide)
 have aG:=N;refine wp_skip<|bX _ _<|wp_seq_k fun _ aR=>?_;refine Zs f fun _ aS=>?_;refine Ze (Vd rfl X1b 0)<|Ze (Vx (X0 rfl X2 (c.at 0)) (show _=((p.ins.toNat+0:Nat) : Int) from (by omega)))<|Zf (X6 (zs:=[vi 0]) z_3 rfl) ?_;rintro _ w4 ⟨bZ,rfl,aT,g,Q⟩;have a7:=Nat.le_trans e.size aT;have c:=c.below g;have b:=b.below g;have e:=btr e g;refine Zo (Vw [vi ((p.ins.toNat+0:Nat) : Int)] X1d Q) ?_;rintro _ w5 ⟨m,B⟩;have d:=Q;have c:=c.only m (Blk.ne c d rfl);have b:=b.only m (Blk.ne b d rfl);have e:=Below.only e m a7;have Q:=B;refine Zt aS fun a f=>?_;refine wp_block<|X05 (σ:=Nat) (fun (k:Nat) (a:Act) (w:World)=>∃ b9,Fr a 43 [(1,.pointer (some ⟨b4,0,none⟩)),(2,.pointer (some ⟨b7,0,none⟩)),(5,.pointer (some ⟨b9,0,none⟩))]∧(k≤p.vars.toNat)∧(∀ i,i<k→(ruR p (p.ins.toNat+i)).1=0)∧(U.heap.size≤b9)∧Blk w b4 26 [vi p.ins,vi p.vars,vi p.root,vi p.phase,.slice Ap p.ts.length cp,.slice Bp p.out.length dp]∧Blk w b7 26 [vi 0,vi 0,vi 0,vi 0,.slice none 0 0,.slice none 0 0]∧Blk w b9 3 [vi ((p.ins.toNat+k:Nat) : Int)]∧Below U.heap.size U w) (fun (k:Nat)=>p.vars.toNat-k) 0 ?_ ?_
 ·exact ⟨bZ,f.sb,(Nat.zero_le _),(fun i hi=>absurd hi (Nat.not_lt_zero i)),a7,c,b,Q,e⟩
 rintro k a w6 ⟨b9,f,hk,aC,cF,c,b,q,e⟩;refine wp_seq_k fun _ aU=>?_;refine Zs f fun _ aW=>?_;refine Ze (X0 rfl X2 (q.at 0))<|Ze (Vd rfl X1b 0)<|Ze (X0 rfl X2 (c.at 0))<|Ze (Vd rfl X1g 1)<|Ze (X0 rfl X2 (c.at 1)) ?_;refine Ze (Xw rfl rfl (by omega) (by omega))<|Ze (X1u rfl rfl)<|Zt aW fun a f=>?_
 refine Xf f rfl (fun t=>?_) (fun t=>?_)
 ·have aH:=t;have t:=of_decide_eq_true t
  have c4:k<p.vars.toNat:=by have:=t;omega
  have aX:=Xwm (fun a h=>(hV.out a h).1.1) (p.ins.toNat+k)
  refine wp_skip<|aU _ _<|wp_seq_k fun _ aF=>?_;refine wp_block<|wp_seq_k fun _ aY=>?_;refine Zs f fun _ aZ=>?_;refine Ze (Vd rfl X03 5)<|Ze (X0 rfl X0a (c.at 5))<|Ze (X4k (vs:=[.pointer (some ⟨b9,0,none⟩)]) rfl)<|Zf (Vc (Xuv _ Bp dp p.out (W.below' e).top 41 [.pointer (some ⟨b9,0,none⟩)] Xq9 (fun x=>bQ (p.ins.toNat+k) x) (fun x w' hE'=>Xza w' x (p.ins.toNat+k) _ (q.below hE') (by omega)) (by omega)) Xj9) ?_;rintro _ w7 ⟨rfl,g⟩;have c:=c.below g;have b:=b.below g;have q:=q.below g;have e:=btr e g;refine Zt aZ fun a f=>?_
  refine Xf f rfl (fun C=>?_) (fun C=>?_)
  ·have aI:=C
   have a8:outB (p.ins.toNat+k) p.out=true:=by rw [← aX];exact C
   have aJ:(ruR p (p.ins.toNat+k)).1=0:=by rw [Xih a8]
   refine wp_exit<|Xh<|Xz<|aF _ _ ?_;refine wp_seq_k fun _ b0=>?_;refine Zs f fun _ b1=>?_;refine Ze (X0 rfl X2 (q.at 0))<|Zt b1 fun a f=>?_;refine Zr f<|Zf (X6 (zs:=[vi 0]) z_3 rfl) ?_;rintro _ w8 ⟨cA,rfl,b2,g,u⟩;have G:=Nat.le_trans e.size b2;have c:=c.below g;have b:=b.below g;have e:=btr e g;refine Zo (Vw [vi ((p.ins.toNat+k:Nat) : Int)] X1d u) ?_;rintro _ w9 ⟨m,B⟩;have d:=u;have c:=c.only m (Blk.ne c d rfl);have b:=b.only m (Blk.ne b d rfl);have e:=Below.only e m G;have u:=B;refine Zt b0 fun a f=>?_;refine Zr f<|Ze (X0 rfl X2 (u.at 0))<|Ze (X46 (k:=((p.ins.toNat+(k+1) : Nat) : Int)) rfl rfl (by omega) (by omega) (by omega))<|Zo (Vw [vi ((p.ins.toNat+(k+1) : Nat) : Int)] X1d u) ?_;rintro _ cL ⟨m,B⟩;have d:=u;have c:=c.only m (Blk.ne c d rfl);have b:=b.only m (Blk.ne b d rfl);have e:=Below.only e m G;have u:=B;refine Zn fun a f=>?_;refine Xe ?_;exact ⟨k+1,⟨cA,f.sb,(by omega),(noN aC aJ),G,c,b,u,e⟩,(by omega)⟩
  have aI:=C
  have a8:outB (p.ins.toNat+k) p.out=false:=by rw [← aX];exact C
  have aD:=Xyz hV (by omega) (p.ins.toNat+k)
  refine wp_skip<|aY _ _<|Zs f fun _ b3=>?_;refine Ze (Vn Xm c)<|Ze (X0 rfl X2 (q.at 0))<|Zf (Vc (Xz6 _ p Ap cp (aE.below' e).top Bp dp (W.below' e).top (p.ins.toNat+k:Nat) hV ⟨by omega,by omega⟩ a8 (by omega) (by omega) (by omega) (aQ.up e bR) (by have:=e.size;omega)) Xt4) ?_;rintro _ cM ⟨H,I,J,L,rfl,n,o,g⟩;have c:=c.below g;have b:=b.below g;have q:=q.below g;have e:=btr e g;refine Zm rfl<|Ze (X3 (vs:=[.agg #[vi ((ruQ p (p.ins.toNat+k:Nat)).ins),vi ((ruQ p (p.ins.toNat+k:Nat)).vars),vi ((ruQ p (p.ins.toNat+k:Nat)).root),vi ((ruQ p (p.ins.toNat+k:Nat)).phase),.slice H ((ruQ p (p.ins.toNat+k:Nat)).ts).length I,.slice J ((ruQ p (p.ins.toNat+k:Nat)).out).length L],vi (ruK p.ins (arF (p.ins.toNat+k:Nat) p.ts))]) rfl rfl)<|Ze (X3 (vs:=[.agg #[vi ((ruQ p (p.ins.toNat+k:Nat)).ins),vi ((ruQ p (p.ins.toNat+k:Nat)).vars),vi ((ruQ p (p.ins.toNat+k:Nat)).root),vi ((ruQ p (p.ins.toNat+k:Nat)).phase),.slice H ((ruQ p (p.ins.toNat+k:Nat)).ts).length I,.slice J ((ruQ p (p.ins.toNat+k:Nat)).out).length L],vi (ruK p.ins (arF (p.ins.toNat+k:Nat) p.ts))]) rfl rfl)<|Zf (X6 (zs:=[vi 0,vi 0,vi 0,vi 0,.slice none 0 0,.slice none 0 0]) X1y rfl) ?_;rintro _ cN ⟨b29,rfl,b5,g,A⟩
  have b6:b4≠b29:=by have:=c.lt;omega
  have b8:b7≠b29:=by have:=b.lt;omega
  have aK:=Nat.le_trans e.size b5;have c:=c.below g;have b:=b.below g;have q:=q.below g;have n:=n.below g;have o:=o.below g;have e:=btr e g;refine Zo (Vw [vi ((ruQ p (p.ins.toNat+k:Nat)).ins),vi ((ruQ p (p.ins.toNat+k:Nat)).vars),vi ((ruQ p (p.ins.toNat+k:Nat)).root),vi ((ruQ p (p.ins.toNat+k:Nat)).phase),.slice H ((ruQ p (p.ins.toNat+k:Nat)).ts).length I,.slice J ((ruQ p (p.ins.toNat+k:Nat)).out).length L] X0c A) ?_;rintro _ cO ⟨m,B⟩;have d:=A;have c:=c.only m (by omega);have b:=b.only m (by omega);have q:=q.only m (Blk.ne q d rfl);have n:=n.onlyT m d rfl;have o:=o.onlyT m d rfl;have e:=Below.only e m aK;have A:=B;refine Za rfl<|ZX b3 fun a f _ bC=>?_;refine Zs f fun _ bD=>?_;refine Zm rfl<|Ze (X0d rfl rfl)<|Zt bD fun a f=>?_
  refine Xf f rfl (fun D=>?_) (fun D=>?_)
  ·have aL:=D
   have aA:ruK p.ins (arF (p.ins.toNat+k) p.ts)=0:=by have:=D;simpa using this
   have aJ:(ruR p (p.ins.toNat+k)).1=0:=by rw [Xve a8 rfl aA]
   refine wp_exit<|Xh<|Xz<|aF _ _ ?_;refine wp_seq_k fun _ bE=>?_;refine Zs f fun _ bF=>?_;refine Ze (X0 rfl X2 (q.at 0))<|Zt bF fun a f=>?_;refine Zr f<|Zf (X6 (zs:=[vi 0]) z_3 rfl) ?_;rintro _ cP ⟨cC,rfl,bG,g,y⟩;have M:=Nat.le_trans e.size bG;have c:=c.below g;have b:=b.below g;have e:=btr e g;refine Zo (Vw [vi ((p.ins.toNat+k:Nat) : Int)] X1d y) ?_;rintro _ cQ ⟨m,B⟩;have d:=y;have c:=c.only m (Blk.ne c d rfl);have b:=b.only m (Blk.ne b d rfl);have e:=Below.only e m M;have y:=B;refine Zt bE fun a f=>?_;refine Zr f<|Ze (X0 rfl X2 (y.at 0))<|Ze (X46 (k:=((p.ins.toNat+(k+1) : Nat) : Int)) rfl rfl (by omega) (by omega) (by omega))<|Zo (Vw [vi ((p.ins.toNat+(k+1) : Nat) : Int)] X1d y) ?_;rintro _ cR ⟨m,B⟩;have d:=y;have c:=c.only m (Blk.ne c d rfl);have b:=b.only m (Blk.ne b d rfl);have e:=Below.only e m M;have y:=B;refine Zn fun a f=>?_;refine Xe ?_;exact ⟨k+1,⟨cC,f.sb,(by omega),(noN aC aJ),M,c,b,y,e⟩,(by omega)⟩
  have aL:=D
  have aA:ruK p.ins (arF (p.ins.toNat+k) p.ts)≠0:=by have:=D;simpa using this
  have bH:=Xim a8 rfl aA;have aM:=Xfs (p:=p) (j:=(p.ins.toNat+k)) rfl aA
  have aB:=Xcu c4 aC (by rw [bH];exact aA)
  rw [bH] at aB
  refine wp_skip<|bC _ _<|wp_seq_k fun _ bJ=>?_;refine Zs f fun _ bK=>?_;refine Ze (Vn Xm A)<|Zf (Vc (Xkl _ (ruQ p (p.ins.toNat+k:Nat)) H I n.top J L o.top aD.mks aD.ins (Nat.le_trans aD.len (by decide)) aD.out) Xa5) ?_;rintro _ cS ⟨rfl,g⟩;have b:=b.below g;have A:=A.below g;have n:=n.below g;have o:=o.below g;have e:=btr e g;refine Ze (X1a rfl)<|Zt bK fun a f=>?_
  refine Xf f rfl (fun E=>?_) (fun E=>?_)
  ·have aN:=E
   have aO:nxtP p=none:=by rw [Xm7 aB,if_neg];have:=E;rw [aM] at this;simpa using this
   refine Zs f fun _ bL=>?_;refine Ze (Xl (ps:=[]) (cs:=[vi 0,vi 0,vi 0,vi 0,.slice none 0 0,.slice none 0 0]) rfl (fun _=>by first|rfl|kernel_rfl))<|Zo (Vw [vi 0,vi 0,vi 0,vi 0,.slice none 0 0,.slice none 0 0] X0c b) ?_;rintro _ cU ⟨m,B⟩;have d:=b;have e:=Below.only e m a6;have b:=B;refine Za rfl<|Za rfl<|Zt bL fun a f=>?_;refine wp_ret<|X5<|Xi<|X5 ?_;refine X5<|Xi<|X5<|X4 f (X2z f rfl (ResV.cellN (l:=[vi 0,vi 0,vi 0,vi 0,.slice none 0 0,.slice none 0 0]) rfl Xm (b.at 0) rfl) rfl rfl) ?_
   rw [aO]
   exact ⟨none,0,none,0,rfl,(Rd.nil _ _ _ _ _),(Rd.nil _ _ _ _ _),e⟩
  have aN:=E
  have aO:nxtP p=some (outR p (p.ins.toNat+k),ruK p.ins (arF (p.ins.toNat+k) p.ts)):=by rw [Xm7 aB,if_pos];have:=E;rw [aM] at this;simpa using this
  refine wp_skip<|bJ _ _<|Zs f fun _ bN=>?_;refine Ze (Vn Xm A)<|Zm rfl<|Zo (Vw [vi ((ruQ p (p.ins.toNat+k:Nat)).ins),vi ((ruQ p (p.ins.toNat+k:Nat)).vars),vi ((ruQ p (p.ins.toNat+k:Nat)).root),vi ((ruQ p (p.ins.toNat+k:Nat)).phase),.slice H ((ruQ p (p.ins.toNat+k:Nat)).ts).length I,.slice J ((ruQ p (p.ins.toNat+k:Nat)).out).length L] X0c b) ?_;rintro _ cW ⟨m,B⟩;have d:=b;have n:=n.onlyT m d rfl;have o:=o.onlyT m d rfl;have e:=Below.only e m a6;have b:=B;refine Za rfl<|Za rfl<|Zt bN fun a f=>?_;refine wp_ret<|Xi<|X5<|X5 ?_;refine Xi<|X5<|X4 f (X2z f rfl (ResV.cellN (l:=[vi ((ruQ p (p.ins.toNat+k:Nat)).ins),vi ((ruQ p (p.ins.toNat+k:Nat)).vars),vi ((ruQ p (p.ins.toNat+k:Nat)).root),vi ((ruQ p (p.ins.toNat+k:Nat)).phase),.slice H ((ruQ p (p.ins.toNat+k:Nat)).ts).length I,.slice J ((ruQ p (p.ins.toNat+k:Nat)).out).length L]) rfl Xm (b.at 0) rfl) rfl rfl) ?_
  rw [aO,← aM]
  exact ⟨H,I,J,L,rfl,n.top,o.top,e⟩
 have aH:=t;have t:=of_decide_eq_false t
 have cX:p.vars.toNat≤k:=by have:=t;omega
 refine wp_exit<|Xh<|Xh<|Xz ?_;refine aR _ _<|Zs f fun _ bO=>?_;refine Ze (Xl (ps:=[]) (cs:=[vi 0,vi 0,vi 0,vi 0,.slice none 0 0,.slice none 0 0]) rfl (fun _=>by first|rfl|kernel_rfl))<|Zo (Vw [vi 0,vi 0,vi 0,vi 0,.slice none 0 0,.slice none 0 0] X0c b) ?_;rintro _ cY ⟨m,B⟩;have d:=b;have e:=Below.only e m a6;have b:=B;refine Za rfl<|Za rfl<|Zt bO fun a f=>?_
 refine wp_ret (X4 f (X2z f rfl (ResV.cellN (l:=[vi 0,vi 0,vi 0,vi 0,.slice none 0 0,.slice none 0 0]) rfl Xm (b.at 0) rfl) rfl rfl) ?_)
 rw [Xto (Xcg fun i hi=>aC i (by omega))]
 exact ⟨none,0,none,0,rfl,(Rd.nil _ _ _ _ _),(Rd.nil _ _ _ _ _),e⟩
theorem Y0x(G:World)(p:Ps)(Ap:Option Addr)(cp:Nat)(aA:Rd G G.heap.size 59 encT Ap p.ts)(Bp:Option Addr)(dp:Nat)(aB:Rd G G.heap.size 62 encA Bp p.out)(aC:validP p=true) : Ret Tryz.prog 29 [.agg #[vi p.ins,vi p.vars,vi p.root,vi p.phase,.slice Ap p.ts.length cp,.slice Bp p.out.length dp]] G (fun v w=>∃ H M B9 d9,v=.tuple #[psV H M B9 d9 ((redP p).1),vi (((redP p).2:Nat) : Int)]∧Rd w w.heap.size 59 encT H ((redP p).1).ts∧Rd w w.heap.size 62 encA B9 ((redP p).1).out∧Below G.heap.size G w):=by
 have aD:=VPr.of aC;have aW:=aD.v.vars;have aQ:=aD.v.ins;refine enter Tryz.func29 rfl 26 rfl rfl ?_;intro a t
 have m:=bz G
 refine Zs t fun _ aR=>?_;refine Zf (X0v (zs:=[vi p.ins,vi p.vars,vi p.root,vi p.phase,.slice Ap p.ts.length cp,.slice Bp p.out.length dp]) rfl rfl) ?_;rintro _ w1 ⟨b4,rfl,aS,j,b⟩;have aE:=Nat.le_trans m.size aS;have m:=btr m j;refine Zf (X6 (zs:=[vi 0,vi 0,vi 0,vi 0,.slice none 0 0,.slice none 0 0]) X1y rfl) ?_;rintro _ w2 ⟨b7,rfl,aT,j,e⟩
 have aP:b4≠b7:=by have:=b.lt;omega
 have aF:=Nat.le_trans m.size aT;have b:=b.below j;have m:=btr m j;refine Za rfl<|Zx aR fun a t _ aU=>?_;refine Za rfl<|Zt aU fun a t=>?_;refine wp_block<|X05 (σ:=Ps×Nat) (fun (s:Ps×Nat) (a:Act) (w:World)=>match s with|(q,n)=>∃ H M h E,Fr a 26 [(1,.pointer (some ⟨b4,0,none⟩)),(2,.pointer (some ⟨b7,0,none⟩)),(4,vi (n:Int))]∧(validP q=true)∧(redP p=((redP q).1,(redP q).2+n))∧((n:Int)+q.vars≤24)∧Blk w b4 26 [vi q.ins,vi q.vars,vi q.root,vi q.phase,.slice H q.ts.length M,.slice h q.out.length E]∧Blk w b7 26 [vi 0,vi 0,vi 0,vi 0,.slice none 0 0,.slice none 0 0]∧Rd w w.heap.size 59 encT H q.ts∧Rd w w.heap.size 62 encA h q.out∧Below G.heap.size G w) (fun (s:Ps×Nat)=>match s with|(q,n)=>q.vars.toNat) (p,0) ?_ ?_
 ·exact ⟨Ap,cp,Bp,dp,t.sb,aC,rfl,(by omega),b,e,(aA.below' m).top,(aB.below' m).top,m⟩
 rintro ⟨q,n⟩ a w3 ⟨H,M,h,E,t,hq,hr,hn,b,e,o,d,m⟩;have hR:=VPr.of hq;have aZ:=hR.root;have b0:=hR.v.vars
 have I:=Xqq hR.v (Nat.le_trans hR.out (by decide))
 refine wp_block<|Zs t fun _ aG=>?_;refine Ze (Vn Xm b)<|Zf (Vc (Xzj _ q H M o.top h E d.top hR.v (by omega) (Nat.le_trans hR.len (by decide)) (Nat.le_trans hR.out (by decide))) Xqw) ?_;rintro _ w4 ⟨A,B,C,D,rfl,f,g,j⟩;have b:=b.below j;have e:=e.below j;have o:=o.below j;have d:=d.below j;have m:=btr m j;refine Zm rfl<|Ze (X3 (vs:=[.agg #[vi ((((stepP q).getD (psZ,0)).1).ins),vi ((((stepP q).getD (psZ,0)).1).vars),vi ((((stepP q).getD (psZ,0)).1).root),vi ((((stepP q).getD (psZ,0)).1).phase),.slice A ((((stepP q).getD (psZ,0)).1).ts).length B,.slice C ((((stepP q).getD (psZ,0)).1).out).length D],vi (((stepP q).getD (psZ,0)).2),.bool ((stepP q).isSome)]) rfl rfl)<|Ze (X3 (vs:=[.agg #[vi ((((stepP q).getD (psZ,0)).1).ins),vi ((((stepP q).getD (psZ,0)).1).vars),vi ((((stepP q).getD (psZ,0)).1).root),vi ((((stepP q).getD (psZ,0)).1).phase),.slice A ((((stepP q).getD (psZ,0)).1).ts).length B,.slice C ((((stepP q).getD (psZ,0)).1).out).length D],vi (((stepP q).getD (psZ,0)).2),.bool ((stepP q).isSome)]) rfl rfl)<|Ze (X3 (vs:=[.agg #[vi ((((stepP q).getD (psZ,0)).1).ins),vi ((((stepP q).getD (psZ,0)).1).vars),vi ((((stepP q).getD (psZ,0)).1).root),vi ((((stepP q).getD (psZ,0)).1).phase),.slice A ((((stepP q).getD (psZ,0)).1).ts).length B,.slice C ((((stepP q).getD (psZ,0)).1).out).length D],vi (((stepP q).getD (psZ,0)).2),.bool ((stepP q).isSome)]) rfl rfl)<|Zf (X6 (zs:=[vi 0,vi 0,vi 0,vi 0,.slice none 0 0,.slice none 0 0]) X1y rfl) ?_;rintro _ w5 ⟨b16,rfl,aH,j,u⟩
 have aI:b4≠b16:=by have:=b.lt;omega
 have aJ:b7≠b16:=by have:=e.lt;omega
 have a6:=Nat.le_trans m.size aH;have b:=b.below j;have e:=e.below j;have o:=o.below j;have d:=d.below j;have f:=f.below j;have g:=g.below j;have m:=btr m j;refine Zo (Vw [vi ((((stepP q).getD (psZ,0)).1).ins),vi ((((stepP q).getD (psZ,0)).1).vars),vi ((((stepP q).getD (psZ,0)).1).root),vi ((((stepP q).getD (psZ,0)).1).phase),.slice A ((((stepP q).getD (psZ,0)).1).ts).length B,.slice C ((((stepP q).getD (psZ,0)).1).out).length D] X0c u) ?_;rintro _ w6 ⟨y,hb⟩;have i:=u;have b:=b.only y (by omega);have e:=e.only y (by omega);have o:=o.onlyT y i rfl;have d:=d.onlyT y i rfl;have f:=f.onlyT y i rfl;have g:=g.onlyT y i rfl;have m:=Below.only m y a6;have u:=hb;refine Za rfl<|Za rfl<|ZX aG fun a t _ aK=>?_;refine wp_seq_k fun _ aL=>?_;refine X09 (fun a w=>Fr a 26 [(1,.pointer (some ⟨b4,0,none⟩)),(2,.pointer (some ⟨b7,0,none⟩)),(4,vi (n:Int)),(5,.pointer (some ⟨b16,0,none⟩)),(20,.bool ((!((stepP q).isSome))||(!(validP (((stepP q).getD (psZ,0)).1)))))]∧Below w6.heap.size w6 w) ?_ ?_
 ·have J:Below w6.heap.size w6 w6:=Below.refl _ _
  refine Zr t<|Zm rfl<|Ze (X1a rfl)<|Zm rfl ?_
  refine Zg 16 rfl (fun c=>?_) (fun c=>?_)
  ·refine Zp (gP c) ?_;refine Zp (gP c) ?_;refine Zp (gP c) ?_;refine Ze (X9 rfl c rfl) ?_;refine Zn fun a t=>?_
   have a7:Below w6.heap.size w6 w6:=J
   exact ⟨t.sub ⟨rfl,rfl,rfl,rfl,X1 rfl (by first|rfl|(simp only [c,bs];done)|simp [c]),trivial⟩,a7⟩
  refine Zv (gW c) (Vn Xm u) ?_;refine Zk (gW c) (Vc (Y0j _ (((stepP q).getD (psZ,0)).1) A B f.top C D g.top ⟨I.ins,I.vars⟩ (Nat.le_trans I.len (by decide)) I.out) Xqi) ?_;rintro _ w7 ⟨rfl,j⟩;have m:=btr m j;have J:=btr J j;refine Zv (gW c) (X1a rfl) ?_;refine Ze (Xc rfl c rfl) ?_;refine Zn fun a t=>?_
  have a7:Below w6.heap.size w6 w7:=J
  exact ⟨t.sub ⟨rfl,rfl,rfl,rfl,X1 rfl (by first|rfl|(simp only [c,bs];done)|simp [c]),trivial⟩,a7⟩
 rintro a w8 ⟨t,j⟩;have b:=b.below j;have e:=e.below j;have u:=u.below j;have o:=o.below j;have d:=d.below j;have f:=f.below j;have g:=g.below j;have m:=btr m j;refine aL _ _ ?_
 refine Xf t rfl (fun x=>?_) (fun x=>?_)
 ·have a8:=x;have L:=Xls x;refine Zs t fun _ aM=>?_;refine Ze (Vn Xm b)<|Zm rfl<|Zo (Vw [vi q.ins,vi q.vars,vi q.root,vi q.phase,.slice H q.ts.length M,.slice h q.out.length E] X0c e) ?_;rintro _ w9 ⟨y,hb⟩;have i:=e;have o:=o.onlyT y i rfl;have d:=d.onlyT y i rfl;have m:=Below.only m y aF;have e:=hb;refine Za rfl<|Zt aM fun a t=>?_;refine wp_ret<|X5<|Xi<|X5 ?_;refine Xi<|X4 t (X1e t rfl (ResV.cellN (l:=[vi q.ins,vi q.vars,vi q.root,vi q.phase,.slice H q.ts.length M,.slice h q.out.length E]) rfl Xm (e.at 0) rfl) rfl) ?_
  rw [Xkj hr L]
  exact ⟨H,M,h,E,rfl,o.top,d.top,m⟩
 have a8:=x;obtain ⟨L,aN⟩:=Xsn x;have aX:=(X37 L).1;have aY:=(VPr.of aN).v.vars;refine wp_skip<|aK _ _<|Zs t fun _ aO=>?_;refine Ze (Vn Xm u)<|Zo (Vw [vi ((((stepP q).getD (psZ,0)).1).ins),vi ((((stepP q).getD (psZ,0)).1).vars),vi ((((stepP q).getD (psZ,0)).1).root),vi ((((stepP q).getD (psZ,0)).1).phase),.slice A ((((stepP q).getD (psZ,0)).1).ts).length B,.slice C ((((stepP q).getD (psZ,0)).1).out).length D] X0c b) ?_;rintro _ b1 ⟨y,hb⟩;have i:=b;have e:=e.only y (by omega);have f:=f.onlyT y i rfl;have g:=g.onlyT y i rfl;have m:=Below.only m y aE;have b:=hb;refine Zt aO fun a t=>?_;refine Zr t<|Zm rfl<|Ze (X46 (k:=((n+1:Nat) : Int)) rfl rfl rfl (by omega) (by omega))<|Za rfl ?_;refine Zn fun a t=>?_;refine Xb<|Xe ?_;exact ⟨(((stepP q).getD (psZ,0)).1,n+1),⟨A,B,C,D,t.sb,aN,(Xf1 hr L),(by omega),b,e,f.top,g.top,m⟩,(by show ((stepP q).getD (psZ,0)).1.vars.toNat<q.vars.toNat;omega)⟩
theorem Y1r(w0:World)(Al:Option Addr)(cl:Nat)(l:List Tm)(d:Rd w0 w0.heap.size 59 encT Al l)(aJ:l.length≤100000000) : Ret Tryz.prog 26 [.slice Al l.length cl] w0 (fun v w=>∃ A c,v=.slice A l.length c∧Own w w0.heap.size 59 2 encT A c l∧Below w0.heap.size w0 w):=by
 refine enter Tryz.func26 rfl 8 rfl rfl ?_;intro a b
 have f:=bz w0
 refine Zs b fun _ aD=>?_;refine Za rfl<|ZX aD fun a b _ aE=>?_;refine Zs b fun _ aF=>?_;refine Zm rfl<|Ze (Xcs rfl rfl X02)<|Zt aF fun a b=>?_
 refine Xf b rfl (fun g=>?_) (fun g=>?_)
 ·have a7:=g
  have a8:l=[]:=Rd.nil_of d g
  refine Zs b fun _ aG=>?_;refine Za rfl<|Zt aG fun a b=>?_;refine wp_ret<|X5<|X4 b (X00 b rfl rfl) ?_
  subst a8
  exact ⟨none,0,rfl,Own.nil _ _ _ _ _,f⟩
 have a7:=g;refine wp_skip<|aE _ _<|Zs b fun _ aA=>?_;refine Zf (Xd (k:=0) (vs:=[]) (zs:=[]) rfl X02 X1n rfl rfl) ?_;rintro _ w1 ⟨aK,rfl,i,hE,aB⟩;have a6:=Nat.le_trans f.size i;have aC:=(d.below' f).away i;have f:=btr f hE;refine Zm rfl<|Zf (X6t (enc:=encT) (l2:=(l)) rfl rfl X02 X1n X0s X2y aB (d.below' f) (by simp only [maxLen];omega) (by omega)) ?_;rintro _ w2 ⟨aH,aI,rfl,e,hE⟩;have e:=e.lower a6;have f:=btr f hE;refine Za rfl<|Zt aA fun a b=>?_
 refine wp_ret (X4 b (X00 b rfl rfl) ?_)
 exact ⟨aH,aI,rfl,e,f⟩
theorem Y13(w0:World)(Al:Option Addr)(cl:Nat)(l:List Af)(d:Rd w0 w0.heap.size 62 encA Al l)(aJ:l.length≤100000000) : Ret Tryz.prog 27 [.slice Al l.length cl] w0 (fun v w=>∃ A c,v=.slice A l.length c∧Own w w0.heap.size 62 2 encA A c l∧Below w0.heap.size w0 w):=by
 refine enter Tryz.func27 rfl 8 rfl rfl ?_;intro a b
 have f:=bz w0
 refine Zs b fun _ aD=>?_;refine Za rfl<|ZX aD fun a b _ aE=>?_;refine Zs b fun _ aF=>?_;refine Zm rfl<|Ze (Xcs rfl rfl Xu)<|Zt aF fun a b=>?_
 refine Xf b rfl (fun g=>?_) (fun g=>?_)
 ·have a7:=g
  have a8:l=[]:=Rd.nil_of d g
  refine Zs b fun _ aG=>?_;refine Za rfl<|Zt aG fun a b=>?_;refine wp_ret<|X5<|X4 b (X00 b rfl rfl) ?_
  subst a8
  exact ⟨none,0,rfl,Own.nil _ _ _ _ _,f⟩
 have a7:=g;refine wp_skip<|aE _ _<|Zs b fun _ aA=>?_;refine Zf (Xd (k:=0) (vs:=[]) (zs:=[]) rfl Xu X2a rfl rfl) ?_;rintro _ w1 ⟨aK,rfl,i,hE,aB⟩;have a6:=Nat.le_trans f.size i;have aC:=(d.below' f).away i;have f:=btr f hE;refine Zm rfl<|Zf (X6t (enc:=encA) (l2:=(l)) rfl rfl Xu X2a Xt X43 aB (d.below' f) (by simp only [maxLen];omega) (by omega)) ?_;rintro _ w2 ⟨aH,aI,rfl,e,hE⟩;have e:=e.lower a6;have f:=btr f hE;refine Za rfl<|Zt aA fun a b=>?_
 refine wp_ret (X4 b (X00 b rfl rfl) ?_)
 exact ⟨aH,aI,rfl,e,f⟩
theorem Y15(w0:World)(p:Ps)(Ap:Option Addr)(cp:Nat)(aD:Rd w0 w0.heap.size 59 encT Ap p.ts)(Bp:Option Addr)(dp:Nat)(aE:Rd w0 w0.heap.size 62 encA Bp p.out)(b8:∀ t ∈ p.ts,Mk t.m)(aK:-1000≤p.ins∧p.ins≤1000)(aL:p.ts.length≤100000000)(aM:p.out.length≤100000000)(aN:TabAt w0)(b9:1<w0.heap.size) : Ret Tryz.prog 7 [.agg #[vi p.ins,vi p.vars,vi p.root,vi p.phase,.slice Ap p.ts.length cp,.slice Bp p.out.length dp]] w0 (fun v w=>∃ A9 c9 B9 d9,v=.tuple #[psV A9 c9 B9 d9 ((rdP p).1),vi (((rdP p).2:Nat) : Int),.bool (validP p)]∧Rd w w.heap.size 59 encT A9 ((rdP p).1).ts∧Rd w w.heap.size 62 encA B9 ((rdP p).1).out∧Below w0.heap.size w0 w):=by
 refine enter Tryz.func7 rfl 36 rfl rfl ?_;intro a y
 have e:=bz w0
 refine Zs y fun _ bC=>?_;refine Zf (X0v (zs:=[vi p.ins,vi p.vars,vi p.root,vi p.phase,.slice Ap p.ts.length cp,.slice Bp p.out.length dp]) rfl rfl) ?_;rintro _ w1 ⟨b4,rfl,bD,f,g⟩;have bJ:=Nat.le_trans e.size bD;have e:=btr e f;refine Zf (X6 (zs:=[vi 0,vi 0,vi 0,vi 0,.slice none 0 0,.slice none 0 0]) X1y rfl) ?_;rintro _ w2 ⟨b7,rfl,bE,f,c⟩
 have b6:b4≠b7:=by have:=g.lt;omega
 have aF:=Nat.le_trans e.size bE;have g:=g.below f;have e:=btr e f;refine Za rfl<|Za rfl<|ZX bC fun a y _ bF=>?_;refine Zs y fun _ bG=>?_;refine Ze (Vn Xm g)<|Zf (Vc (Xkl _ p Ap cp (aD.below' e).top Bp dp (aE.below' e).top b8 aK aL aM) Xa5) ?_;rintro _ w3 ⟨rfl,f⟩;have g:=g.below f;have c:=c.below f;have e:=btr e f;refine Ze (X1a rfl)<|Zt bG fun a y=>?_
 refine Xf y rfl (fun E=>?_) (fun E=>?_)
 ·have aG:=E
  have H:validP p=false:=by have:=E;simpa using this
  refine Zs y fun _ aO=>?_;refine Ze (Xl (ps:=[]) (cs:=[vi 0,vi 0,vi 0,vi 0,.slice none 0 0,.slice none 0 0]) rfl (fun _=>by first|rfl|kernel_rfl))<|Zo (Vw [vi 0,vi 0,vi 0,vi 0,.slice none 0 0,.slice none 0 0] X0c c) ?_;rintro _ w4 ⟨i,L⟩;have d:=c;have e:=Below.only e i aF;have c:=L;refine Za rfl<|Za rfl<|Zt aO fun a y=>?_;refine wp_ret<|X5<|X4 y (X2z y rfl (ResV.cellN (l:=[vi 0,vi 0,vi 0,vi 0,.slice none 0 0,.slice none 0 0]) rfl Xm (c.at 0) rfl) rfl rfl) ?_
  rw [Xwd H,H]
  exact ⟨none,0,none,0,rfl,(Rd.nil _ _ _ _ _),(Rd.nil _ _ _ _ _),e⟩
 have aG:=E
 have H:validP p=true:=by have:=E;simpa using this
 have aP:=VPr.of H;have bK:=aP.v.vars;have bH:=aP.v.ins;refine wp_skip<|bF _ _<|Zs y fun _ aQ=>?_;refine Ze (Vn Xm g)<|Zf (X6 (zs:=[vi 0,vi 0,vi 0,vi 0,.slice none 0 0,.slice none 0 0]) X1y rfl) ?_;rintro _ w5 ⟨b17,rfl,aR,f,b⟩
 have aS:b4≠b17:=by have:=g.lt;omega
 have aT:b7≠b17:=by have:=c.lt;omega
 have C:=Nat.le_trans e.size aR;have g:=g.below f;have c:=c.below f;have e:=btr e f;refine Zo (Vw [vi p.ins,vi p.vars,vi p.root,vi p.phase,.slice Ap p.ts.length cp,.slice Bp p.out.length dp] X0c b) ?_;rintro _ w6 ⟨i,L⟩;have d:=b;have g:=g.only i (by omega);have c:=c.only i (by omega);have e:=Below.only e i C;have b:=L;refine ZX aQ fun a y _ aU=>?_;refine Xs none (fun j=>[7,9].contains j) mixed ?_;intro w7 f;have g:=g.below f;have c:=c.below f;have b:=b.below f;have e:=btr e f;refine Yb y<|Yo 0 rfl (fun _=>Vd rfl X0k 4)<|Ye 1 rfl (X0 rfl X14 (g.at 4))<|Yo 3 rfl (fun _=>Vd rfl X03 5)<|Ye 4 rfl (X0 rfl X0a (g.at 5))<|Y1 2 ?_;refine Yk rfl trivial (Vc (Y1r _ Ap cp p.ts (aD.below' e).top aL) Xt5) (fun _ _ ⟨a8,aA,_,o,f⟩=>f) ?_;rintro _ w8 ⟨a8,aA,rfl,o,f⟩;have o:=o.lower e.size;have c:=c.below f;have b:=b.below f;have e:=btr e f;refine Yo 6 rfl (fun _=>Vd rfl X0k 4)<|Y1 5 ?_;refine Yk rfl trivial (Vc (Y13 _ Bp dp p.out (aE.below' e).top aM) Xs9) (fun _ _ ⟨aB,aC,_,h,f⟩=>f) ?_;rintro _ w9 ⟨aB,aC,rfl,h,f⟩;have h:=h.lower e.size;have c:=c.below f;have b:=b.below f;have o:=o.below f;have e:=btr e f;refine Y1 7<|Yh rfl trivial rfl (Vu (vs:=[.slice a8 p.ts.length aA]) (l':=[vi p.ins,vi p.vars,vi p.root,vi p.phase,.slice a8 p.ts.length aA,.slice Bp p.out.length dp]) rfl rfl X2g b) ?_;rintro _ bO ⟨i,L⟩;have d:=b;have c:=c.only i (by omega);have o:=o.onlyT i d rfl;have h:=h.onlyT i d rfl;have e:=Below.only e i C;have b:=L
 clear L i;refine Yo 8 rfl (fun _=>Vd rfl X03 5)<|Y1 9 ?_;refine Yh rfl trivial rfl (Vu (vs:=[.slice aB p.out.length aC]) (l':=[vi p.ins,vi p.vars,vi p.root,vi p.phase,.slice a8 p.ts.length aA,.slice aB p.out.length aC]) rfl rfl X3a b) ?_;rintro _ bP ⟨i,L⟩;have d:=b;have c:=c.only i (by omega);have o:=o.onlyT i d rfl;have h:=h.onlyT i d rfl;have e:=Below.only e i C;have b:=L;refine Yd fun a y=>?_;refine aU _ _<|Zs y fun _ aW=>?_;refine Za rfl<|Zt aW fun a y=>?_;refine wp_block<|X05 (σ:=Ps×Nat) (fun (s:Ps×Nat) (a:Act) (w:World)=>match s with|(q,n)=>∃ I N J Q,Fr a 36 [(2,.pointer (some ⟨b7,0,none⟩)),(5,.pointer (some ⟨b17,0,none⟩)),(6,vi (n:Int))]∧(validP q=true)∧(redP p=((redP q).1,(redP q).2+n))∧((n:Int)+q.vars≤24)∧Blk w b7 26 [vi 0,vi 0,vi 0,vi 0,.slice none 0 0,.slice none 0 0]∧Blk w b17 26 [vi q.ins,vi q.vars,vi q.root,vi q.phase,.slice I q.ts.length N,.slice J q.out.length Q]∧Rd w w.heap.size 59 encT I q.ts∧Rd w w.heap.size 62 encA J q.out∧Below w0.heap.size w0 w) (fun (s:Ps×Nat)=>match s with|(q,n)=>q.vars.toNat) (p,0) ?_ ?_
 ·exact ⟨a8,aA,aB,aC,y.sb,H,rfl,(by omega),c,b,o.rd,h.rd,e⟩
 rintro ⟨q,n⟩ a bR ⟨I,N,J,Q,y,hq,hr,hn,c,b,u,x,e⟩;have hR:=VPr.of hq;have bS:=hR.v.vars;refine wp_seq_k fun _ aX=>?_;refine wp_block<|Zs y fun _ aY=>?_;refine Ze (Vn Xm b)<|Zf (Vc (Y1m _ q I N u.top J Q x.top hq (aN.up e b9) (by have:=e.size;omega)) Xs4) ?_;rintro _ bU ⟨U,W,a6,a7,rfl,A,B,f⟩;have c:=c.below f;have b:=b.below f;have u:=u.below f;have x:=x.below f;have e:=btr e f;refine Zm rfl<|Ze (X3 (vs:=[.agg #[vi ((((nxtP q).getD (psZ,0)).1).ins),vi ((((nxtP q).getD (psZ,0)).1).vars),vi ((((nxtP q).getD (psZ,0)).1).root),vi ((((nxtP q).getD (psZ,0)).1).phase),.slice U ((((nxtP q).getD (psZ,0)).1).ts).length W,.slice a6 ((((nxtP q).getD (psZ,0)).1).out).length a7],vi (((nxtP q).getD (psZ,0)).2),.bool ((nxtP q).isSome)]) rfl rfl)<|Ze (X3 (vs:=[.agg #[vi ((((nxtP q).getD (psZ,0)).1).ins),vi ((((nxtP q).getD (psZ,0)).1).vars),vi ((((nxtP q).getD (psZ,0)).1).root),vi ((((nxtP q).getD (psZ,0)).1).phase),.slice U ((((nxtP q).getD (psZ,0)).1).ts).length W,.slice a6 ((((nxtP q).getD (psZ,0)).1).out).length a7],vi (((nxtP q).getD (psZ,0)).2),.bool ((nxtP q).isSome)]) rfl rfl)<|Ze (X3 (vs:=[.agg #[vi ((((nxtP q).getD (psZ,0)).1).ins),vi ((((nxtP q).getD (psZ,0)).1).vars),vi ((((nxtP q).getD (psZ,0)).1).root),vi ((((nxtP q).getD (psZ,0)).1).phase),.slice U ((((nxtP q).getD (psZ,0)).1).ts).length W,.slice a6 ((((nxtP q).getD (psZ,0)).1).out).length a7],vi (((nxtP q).getD (psZ,0)).2),.bool ((nxtP q).isSome)]) rfl rfl)<|Zf (X6 (zs:=[vi 0,vi 0,vi 0,vi 0,.slice none 0 0,.slice none 0 0]) X1y rfl) ?_;rintro _ bW ⟨b30,rfl,aZ,f,M⟩
 have b0:b7≠b30:=by have:=c.lt;omega
 have aJ:b17≠b30:=by have:=b.lt;omega
 have aH:=Nat.le_trans e.size aZ;have c:=c.below f;have b:=b.below f;have u:=u.below f;have x:=x.below f;have A:=A.below f;have B:=B.below f;have e:=btr e f;refine Zo (Vw [vi ((((nxtP q).getD (psZ,0)).1).ins),vi ((((nxtP q).getD (psZ,0)).1).vars),vi ((((nxtP q).getD (psZ,0)).1).root),vi ((((nxtP q).getD (psZ,0)).1).phase),.slice U ((((nxtP q).getD (psZ,0)).1).ts).length W,.slice a6 ((((nxtP q).getD (psZ,0)).1).out).length a7] X0c M) ?_;rintro _ bX ⟨i,L⟩;have d:=M;have c:=c.only i (by omega);have b:=b.only i (by omega);have u:=u.onlyT i d rfl;have x:=x.onlyT i d rfl;have A:=A.onlyT i d rfl;have B:=B.onlyT i d rfl;have e:=Below.only e i aH;have M:=L;refine Za rfl<|Za rfl<|ZX aY fun a y _ b1=>?_;refine Zs y fun _ b2=>?_;refine Zm rfl<|Ze (X1a rfl)<|Zt b2 fun a y=>?_
 refine Xf y rfl (fun G=>?_) (fun G=>?_)
 ·have aI:=G
  have D:nxtP q=none:=by have:=G;simpa using this
  refine Zs y fun _ b3=>?_;refine Ze (Vn Xm b)<|Zm rfl<|Zo (Vw [vi q.ins,vi q.vars,vi q.root,vi q.phase,.slice I q.ts.length N,.slice J q.out.length Q] X0c c) ?_;rintro _ bY ⟨i,L⟩;have d:=c;have u:=u.onlyT i d rfl;have x:=x.onlyT i d rfl;have e:=Below.only e i aF;have c:=L;refine Za rfl<|Za rfl<|Zt b3 fun a y=>?_;refine wp_ret<|X5<|Xi<|X5 ?_;refine X5<|Xi<|X4 y (X2z y rfl (ResV.cellN (l:=[vi q.ins,vi q.vars,vi q.root,vi q.phase,.slice I q.ts.length N,.slice J q.out.length Q]) rfl Xm (c.at 0) rfl) rfl rfl) ?_
  rw [Xo3 H,H,Xkj hr D]
  exact ⟨I,N,J,Q,rfl,u.top,x.top,e⟩
 have aI:=G
 obtain ⟨r9,D⟩ : ∃ r,nxtP q=some r:=Option.isSome_iff_exists.1 (by have:=G;simpa using this)
 have bL:=(X37 D).1;have b5:=(X37 D).2.1;have bN:=(VPr.of b5).v.vars;refine wp_skip<|b1 _ _<|Zr y<|Ze (Vn Xm M)<|Zo (Vw [vi ((((nxtP q).getD (psZ,0)).1).ins),vi ((((nxtP q).getD (psZ,0)).1).vars),vi ((((nxtP q).getD (psZ,0)).1).root),vi ((((nxtP q).getD (psZ,0)).1).phase),.slice U ((((nxtP q).getD (psZ,0)).1).ts).length W,.slice a6 ((((nxtP q).getD (psZ,0)).1).out).length a7] X0c b) ?_;rintro _ bZ ⟨i,L⟩;have d:=b;have c:=c.only i (by omega);have A:=A.onlyT i d rfl;have B:=B.onlyT i d rfl;have e:=Below.only e i C;have b:=L;refine Zn fun a y=>?_;refine Xb<|aX _ _<|Zr y<|Zm rfl<|Ze (X46 (k:=((n+1:Nat) : Int)) rfl rfl rfl (by omega) (by omega))<|Za rfl ?_;refine Zn fun a y=>?_;refine Xe ?_;exact ⟨(((nxtP q).getD (psZ,0)).1,n+1),⟨U,W,a6,a7,y.sb,(by rw [D];exact b5),(by rw [D];exact Xf1 hr D),(by rw [D];show ((n+1:Nat) : Int)+r9.1.vars≤24;omega),c,b,A.top,B.top,e⟩,(by rw [D];show r9.1.vars.toNat<q.vars.toNat;omega)⟩
theorem Xze(B:World)(p:Ps)(Ap:Option Addr)(cp:Nat)(aC:Rd B B.heap.size 59 encT Ap p.ts)(Bp:Option Addr)(dp:Nat)(x:Rd B B.heap.size 62 encA Bp p.out)(aS:∀ t ∈ p.ts,Mk t.m)(aD:-1000≤p.ins∧p.ins≤1000)(aT:p.ts.length≤100000000)(aU:p.out.length≤100000000) : Ret Tryz.prog 10 [.agg #[vi p.ins,vi p.vars,vi p.root,vi p.phase,.slice Ap p.ts.length cp,.slice Bp p.out.length dp]] B (fun v w=>v=.tuple #[vi (if (validP p&&idP p)=true then p.phase else 0),.bool (validP p&&idP p),.bool (validP p)]∧Below B.heap.size B w):=by
 refine enter Tryz.func10 rfl 40 rfl rfl ?_;intro a c
 have g:=bz B
 refine Zs c fun _ aW=>?_;refine Zf (X0v (zs:=[vi p.ins,vi p.vars,vi p.root,vi p.phase,.slice Ap p.ts.length cp,.slice Bp p.out.length dp]) rfl rfl) ?_;rintro _ w1 ⟨b4,rfl,aX,y,e⟩;have b7:=Nat.le_trans g.size aX;have g:=btr g y;refine Za rfl<|Za rfl<|Za rfl<|ZX aW fun a c _ aY=>?_;refine Zs c fun _ aZ=>?_;refine Ze (Vn Xm e)<|Zf (Vc (Xkl _ p Ap cp (aC.below' g).top Bp dp (x.below' g).top aS aD aT aU) Xa5) ?_;rintro _ w2 ⟨rfl,y⟩;have e:=e.below y;have g:=btr g y;refine Ze (X1a rfl)<|Zt aZ fun a c=>?_
 refine Xf c rfl (fun h=>?_) (fun h=>?_)
 ·have i:=h
  have q:validP p=false:=by have:=h;simpa using this
  refine Zs c fun _ b0=>?_;refine Za rfl<|Za rfl<|Za rfl<|Zt b0 fun a c=>?_;refine wp_ret<|X5<|X4 c (X2z c rfl rfl rfl rfl) ?_
  rw [q];exact ⟨rfl,g⟩
 have i:=h
 have q:validP p=true:=by have:=h;simpa using this
 have b1:=VPr.of q;have b8:=b1.out;refine wp_skip<|aY _ _<|wp_seq_k fun _ b2=>?_;refine wp_seq_k fun _ aE=>?_;refine X09 (fun a w=>Fr a 40 [(1,.pointer (some ⟨b4,0,none⟩)),(23,.bool (((p.vars != 0)||(decide (0<(p.ts.length:Int))))||(p.root != 0)))]∧w2=w) ?_ ?_
 ·refine Zr c<|Ze (Vd rfl X1g 1)<|Ze (X0 rfl X2 (e.at 1))<|Ze (X4m rfl rfl)<|Zm rfl ?_
  refine Zg 13 rfl (fun b=>?_) (fun b=>?_)
  ·refine Zp (gP b) ?_;refine Zp (gP b) ?_;refine Zp (gP b) ?_;refine Zp (gP b) ?_;refine Ze (X9 rfl b rfl)<|Zm rfl<|Zp (gP rfl) ?_;refine Zp (gP rfl) ?_;refine Zp (gP rfl) ?_;refine Ze (X9 rfl rfl rfl) ?_;refine Zn fun a c=>?_;exact ⟨c.sub ⟨rfl,X1 rfl (by first|rfl|(simp only [i,b,bs];done)|simp [i,b]),trivial⟩,rfl⟩
  refine Zv (gW b) (Vd rfl X0k 4) ?_;refine Zv (gW b) (X0 rfl X14 (e.at 4)) ?_;refine Zv (gW b) (X1i rfl X02) ?_;refine Zv (gW b) (X4r rfl rfl) ?_;refine Ze (Xc rfl b rfl)<|Zm rfl ?_
  refine Zg 19 rfl (fun d=>?_) (fun d=>?_)
  ·refine Zp (gP d) ?_;refine Zp (gP d) ?_;refine Zp (gP d) ?_;refine Ze (X9 rfl d rfl) ?_;refine Zn fun a c=>?_;exact ⟨c.sub ⟨rfl,X1 rfl (by first|rfl|(simp only [i,b,d,bs];done)|simp [i,b,d]),trivial⟩,rfl⟩
  refine Zv (gW d) (Vd rfl X16 2) ?_;refine Zv (gW d) (X0 rfl X2 (e.at 2)) ?_;refine Zv (gW d) (X4m rfl rfl) ?_;refine Ze (Xc rfl d rfl) ?_;refine Zn fun a c=>?_;exact ⟨c.sub ⟨rfl,X1 rfl (by first|rfl|(simp only [i,b,d,bs];done)|simp [i,b,d]),trivial⟩,rfl⟩
 rintro a _ ⟨c,rfl⟩;refine aE _ _ ?_
 refine Xf c rfl (fun n=>?_) (fun n=>?_)
 ·have a6:=n
  have A:idP p=false:=by rw [X9j];have h7:=n;rw [show idH p=false from by unfold idH;revert h7;by_cases h1:p.vars=0<;>by_cases h2:p.ts.length=0<;>by_cases h3:p.root=0<;>simp [h1,h2,h3]<;>omega];rfl
  refine Zs c fun _ aF=>?_;refine Za rfl<|Za rfl<|Za rfl<|Zt aF fun a c=>?_;refine wp_ret<|X5<|X4 c (X2z c rfl rfl rfl rfl) ?_
  rw [q,A];exact ⟨rfl,g⟩
 have a6:=n
 have b3:idH p=true:=by have h7:=n;unfold idH;revert h7;by_cases h1:p.vars=0<;>by_cases h2:p.ts.length=0<;>by_cases h3:p.root=0<;>simp [h1,h2,h3]<;>omega
 refine wp_skip<|b2 _ _<|wp_seq_k fun _ aG=>?_;refine Zs c fun _ aH=>?_;refine Ze (Vd rfl X03 5)<|Ze (X0 rfl X0a (e.at 5))<|Ze (X1i rfl Xu)<|Zm rfl<|Zt aH fun a c=>?_;refine wp_block<|X05 (σ:=Nat) (fun (k:Nat) (a:Act) (w:World)=>Fr a 40 [(1,.pointer (some ⟨b4,0,none⟩)),(25,.slice Bp p.out.length dp),(26,vi (p.out.length:Int)),(27,vi (k:Int))]∧(k≤p.out.length)∧(idK p.out k=true)∧Blk w b4 26 [vi p.ins,vi p.vars,vi p.root,vi p.phase,.slice Ap p.ts.length cp,.slice Bp p.out.length dp]∧Below B.heap.size B w) (fun (k:Nat)=>p.out.length-k) 0 ?_ ?_
 ·exact ⟨c.sb,(Nat.zero_le _),rfl,e,g⟩
 rintro k a w3 ⟨c,hk,C,e,g⟩;refine Zs c fun _ aI=>?_;refine Ze (X1u rfl rfl)<|ZX aI fun a c _ aJ=>?_
 refine Xf c rfl (fun f=>?_) (fun f=>?_)
 ·have a7:=f;have f:=of_decide_eq_true f
  obtain ⟨u20,D⟩:=Xk (l:=p.out) (k:=k) (by omega)
  have aK:p.out.getD k afZ=u20:=by rw [List.getD_eq_getElem?_getD,D];rfl
  refine wp_skip<|aJ _ _<|wp_seq_k fun _ aL=>?_;refine wp_block<|Zs c fun _ aM=>?_;refine Zm rfl<|Zi (k:=k) (u:=u20) (enc:=encA) (l:=p.out) trivial rfl rfl Xu Xp Xt (x.below' g) D rfl ?_;intro b9 a8;refine Ze (X0b (l:=[vi u20.m,vi u20.t]) rfl X0f a8 rfl)<|Zf (X6 (zs:=[vi 0,vi 0]) X1h rfl) ?_;rintro _ w4 ⟨bC,rfl,E,y,j⟩;have aA:=Nat.le_trans g.size E;have aN:=(x.below' g).away E;have e:=e.below y;have g:=btr g y;refine Za rfl<|Zo (Vw [vi u20.m,vi u20.t] Xp j) ?_;rintro _ w5 ⟨ho,hb⟩;have aO:=j;have e:=e.only ho (Blk.ne e aO rfl);have g:=Below.only g ho aA;have j:=hb;refine ZX aM fun a c _ aP=>?_;refine Xs none (fun _=>false) mixed ?_;intro w6 y;have e:=e.below y;have j:=j.below y;have g:=btr g y;refine Yb c<|Ye 0 rfl (Vn X0f j)<|Yo 1 rfl (fun _=>X8 rfl)<|Yo 2 rfl (fun _=>Vx (X30 (m:=k) rfl rfl rfl (by omega)) (X4q (by omega)))<|Yo 3 rfl (fun _=>Xl (ps:=[(0,vi ((2^k:Nat) : Int))]) (cs:=[vi ((2^k:Nat) : Int),vi 0]) rfl (fun _=>by first|rfl|kernel_rfl))<|Yo 4 rfl (fun _=>Xuz rfl rfl Xte (fun w=>Xsq 9998 u20 (⟨((2^k:Nat) : Int),0⟩ : Af) w)) ?_;refine Yd fun a c=>?_;refine aP _ _ ?_
  refine Xf c rfl (fun o=>?_) (fun o=>?_)
  ·have aB:=o
   have A:idP p=false:=by rw [X9j,Xi8 (k:=k) (l:=p.out) (by omega) (by rw [aK];have h7:(!decide (u20=varA k))=true:=o;exact of_decide_eq_false (by simpa only [Bool.not_eq_true'] using h7))];simp
   refine Zs c fun _ aQ=>?_;refine Za rfl<|Za rfl<|Za rfl<|Zt aQ fun a c=>?_;refine wp_ret<|Xi<|X5<|X5 ?_;refine Xi<|X5<|X4 c (X2z c rfl rfl rfl rfl) ?_
   rw [q,A];exact ⟨rfl,g⟩
  have aB:=o
  have b5:p.out.getD k afZ=varA k:=by rw [aK];have h7:(!decide (u20=varA k))=false:=o;exact of_decide_eq_true (by simpa only [Bool.not_eq_false'] using h7)
  refine wp_skip<|Xb<|aL _ _<|Zr c ?_;refine Ze (Xw rfl rfl (by omega) (by omega))<|Zm rfl ?_;refine Zn fun a c=>?_;refine Xe ?_;exact ⟨k+1,⟨c.sb,(by omega),(Xgj C b5),e,g⟩,(by omega)⟩
 have a7:=f;have f:=of_decide_eq_false f
 have b6:k=p.out.length:=by have:=f;omega
 subst b6
 have A:idP p=true:=by rw [X9j,b3,C];rfl
 refine wp_exit<|Xh<|Xh<|Xz ?_;refine aG _ _<|Zs c fun _ aR=>?_;refine Ze (Vd rfl X1j 3)<|Ze (X0 rfl X2 (e.at 3))<|Za rfl<|Za rfl<|Za rfl ?_;refine Zt aR fun a c=>?_
 refine wp_ret (X4 c (X2z c rfl rfl rfl rfl) ?_)
 rw [q,A];exact ⟨rfl,g⟩
theorem Y12(h:World)(p:Ps)(Ap:Option Addr)(cp:Nat)(aW:Rd h h.heap.size 59 encT Ap p.ts)(Bp:Option Addr)(dp:Nat)(B:Rd h h.heap.size 62 encA Bp p.out)(aN:validP p=true) : Ret Tryz.prog 38 [.agg #[vi p.ins,vi p.vars,vi p.root,vi p.phase,.slice Ap p.ts.length cp,.slice Bp p.out.length dp]] h (fun v w=>v=.bool (idP p)∧Below h.heap.size h w):=by
 have aA:=VPr.of aN;have aX:=aA.out;have b0:=aA.v.vars;refine enter Tryz.func38 rfl 39 rfl rfl ?_;intro a b
 have q:=bz h
 refine Zs b fun _ aO=>?_;refine Zf (X0v (zs:=[vi p.ins,vi p.vars,vi p.root,vi p.phase,.slice Ap p.ts.length cp,.slice Bp p.out.length dp]) rfl rfl) ?_;rintro _ w1 ⟨b4,rfl,aP,hE,A⟩;have aY:=Nat.le_trans q.size aP;have q:=btr q hE;refine Za rfl<|ZX aO fun a b _ aQ=>?_;refine wp_seq_k fun _ aR=>?_;refine X09 (fun a w=>Fr a 39 [(1,.pointer (some ⟨b4,0,none⟩)),(18,.bool (((decide (0<p.vars))||(p.root != 0))||(decide (0<(p.ts.length:Int)))))]∧w1=w) ?_ ?_
 ·refine Zr b<|Ze (Vd rfl X1g 1)<|Ze (X0 rfl X2 (A.at 1))<|Ze (X4r rfl rfl)<|Zm rfl ?_
  refine Zg 8 rfl (fun d=>?_) (fun d=>?_)
  ·refine Zp (gP d) ?_;refine Zp (gP d) ?_;refine Zp (gP d) ?_;refine Ze (X9 rfl d rfl)<|Zm rfl<|Zp (gP rfl) ?_;refine Zp (gP rfl) ?_;refine Zp (gP rfl) ?_;refine Zp (gP rfl) ?_;refine Ze (X9 rfl rfl rfl) ?_;refine Zn fun a b=>?_;exact ⟨b.sub ⟨rfl,X1 rfl (by first|rfl|(simp only [d,bs];done)|simp [d]),trivial⟩,rfl⟩
  refine Zv (gW d) (Vd rfl X16 2) ?_;refine Zv (gW d) (X0 rfl X2 (A.at 2)) ?_;refine Zv (gW d) (X4m rfl rfl) ?_;refine Ze (Xc rfl d rfl)<|Zm rfl ?_
  refine Zg 13 rfl (fun f=>?_) (fun f=>?_)
  ·refine Zp (gP f) ?_;refine Zp (gP f) ?_;refine Zp (gP f) ?_;refine Zp (gP f) ?_;refine Ze (X9 rfl f rfl) ?_;refine Zn fun a b=>?_;exact ⟨b.sub ⟨rfl,X1 rfl (by first|rfl|(simp only [d,f,bs];done)|simp [d,f]),trivial⟩,rfl⟩
  refine Zv (gW f) (Vd rfl X0k 4) ?_;refine Zv (gW f) (X0 rfl X14 (A.at 4)) ?_;refine Zv (gW f) (X1i rfl X02) ?_;refine Zv (gW f) (X4r rfl rfl) ?_;refine Ze (Xc rfl f rfl) ?_;refine Zn fun a b=>?_;exact ⟨b.sub ⟨rfl,X1 rfl (by first|rfl|(simp only [d,f,bs];done)|simp [d,f]),trivial⟩,rfl⟩
 rintro a _ ⟨b,rfl⟩;refine aR _ _ ?_
 refine Xf b rfl (fun x=>?_) (fun x=>?_)
 ·have j:=x
  have y:idP p=false:=by rw [X9j];have h7:=x;rw [show idH p=false from by unfold idH;revert h7;by_cases h1:p.vars=0<;>by_cases h2:p.ts.length=0<;>by_cases h3:p.root=0<;>simp [h1,h2,h3]<;>omega];rfl
  refine Zs b fun _ aB=>?_;refine Za rfl<|Zt aB fun a b=>?_;refine wp_ret<|X5<|X4 b (X00 b rfl rfl) ?_
  rw [y];exact ⟨rfl,q⟩
 have j:=x
 have aS:idH p=true:=by have h7:=x;unfold idH;revert h7;by_cases h1:p.vars=0<;>by_cases h2:p.ts.length=0<;>by_cases h3:p.root=0<;>simp [h1,h2,h3]<;>omega
 refine wp_skip<|aQ _ _<|wp_seq_k fun _ aC=>?_;refine Zs b fun _ aD=>?_;refine Ze (Vd rfl X03 5)<|Ze (X0 rfl X0a (A.at 5))<|Ze (X1i rfl Xu)<|Zm rfl<|Zt aD fun a b=>?_;refine wp_block<|X05 (σ:=Nat) (fun (k:Nat) (a:Act) (w:World)=>Fr a 39 [(20,.slice Bp p.out.length dp),(21,vi (p.out.length:Int)),(22,vi (k:Int))]∧(k≤p.out.length)∧(idK p.out k=true)∧Below h.heap.size h w) (fun (k:Nat)=>p.out.length-k) 0 ?_ ?_
 ·exact ⟨b.sb,(Nat.zero_le _),rfl,q⟩
 rintro k a w2 ⟨b,hk,C,q⟩;refine Zs b fun _ aE=>?_;refine Ze (X1u rfl rfl)<|ZX aE fun a b _ aF=>?_
 refine Xf b rfl (fun g=>?_) (fun g=>?_)
 ·have i:=g;have g:=of_decide_eq_true g
  obtain ⟨u16,D⟩:=Xk (l:=p.out) (k:=k) (by omega)
  have aG:p.out.getD k afZ=u16:=by rw [List.getD_eq_getElem?_getD,D];rfl
  refine wp_skip<|aF _ _<|wp_seq_k fun _ aH=>?_;refine wp_block<|Zs b fun _ aI=>?_;refine Zm rfl<|Zi (k:=k) (u:=u16) (enc:=encA) (l:=p.out) trivial rfl rfl Xu Xp Xt (B.below' q) D rfl ?_;intro b1 a6;refine Ze (X0b (l:=[vi u16.m,vi u16.t]) rfl X0f a6 rfl)<|Zf (X6 (zs:=[vi 0,vi 0]) X1h rfl) ?_;rintro _ w3 ⟨b2,rfl,E,hE,n⟩;have a7:=Nat.le_trans q.size E;have aJ:=(B.below' q).away E;have q:=btr q hE;refine Za rfl<|Zo (Vw [vi u16.m,vi u16.t] Xp n) ?_;rintro _ w4 ⟨ho,hb⟩;have aZ:=n;have q:=Below.only q ho a7;have n:=hb;refine ZX aI fun a b _ aK=>?_;refine X09 (fun a w=>Fr a 39 [(20,.slice Bp p.out.length dp),(21,vi (p.out.length:Int)),(22,vi (k:Int)),(37,.bool ((u16.m != ((2^k:Nat) : Int))||(u16.t != 0)))]∧w4=w) ?_ ?_
  ·refine Zr b<|Ze (Vd rfl X0g 0)<|Ze (X0 rfl X2 (n.at 0))<|Zm rfl<|Ze (X3u (m:=k) Tryz.underlying3 Tryz.underlying109 rfl rfl (by omega))<|Ze (Vx (X30 (m:=k) rfl rfl rfl (by omega)) (X4q (by omega))) ?_;refine Ze (X4m rfl rfl)<|Zm rfl ?_
   refine Zg 33 rfl (fun c=>?_) (fun c=>?_)
   ·refine Zp (gP c) ?_;refine Zp (gP c) ?_;refine Zp (gP c) ?_;refine Ze (X9 rfl c rfl) ?_;refine Zn fun a b=>?_;exact ⟨b.sub ⟨rfl,rfl,rfl,X1 rfl (by first|rfl|(simp only [j,i,c,bs];done)|simp [j,i,c]),trivial⟩,rfl⟩
   refine Zv (gW c) (Vd rfl X0l 1) ?_;refine Zv (gW c) (X0 rfl X2 (n.at 1)) ?_;refine Zv (gW c) (X4m rfl rfl) ?_;refine Ze (Xc rfl c rfl) ?_;refine Zn fun a b=>?_;exact ⟨b.sub ⟨rfl,rfl,rfl,X1 rfl (by first|rfl|(simp only [j,i,c,bs];done)|simp [j,i,c]),trivial⟩,rfl⟩
  rintro a _ ⟨b,rfl⟩;refine aK _ _ ?_
  refine Xf b rfl (fun o=>?_) (fun o=>?_)
  ·have a8:=o
   have y:idP p=false:=by rw [X9j,Xi8 (k:=k) (l:=p.out) (by omega) (by rw [aG];intro e;have:=o;rw [e] at this;simp [varA] at this)];simp
   refine Zs b fun _ aL=>?_;refine Za rfl<|Zt aL fun a b=>?_;refine wp_ret<|Xi<|X5<|X5 ?_;refine Xi<|X5<|X4 b (X00 b rfl rfl) ?_
   rw [y];exact ⟨rfl,q⟩
  have a8:=o
  have aT:p.out.getD k afZ=varA k:=by rw [aG];exact Y19 o
  refine wp_skip<|Xb<|aH _ _<|Zr b ?_;refine Ze (Xw rfl rfl (by omega) (by omega))<|Zm rfl ?_;refine Zn fun a b=>?_;refine Xe ?_;exact ⟨k+1,⟨b.sb,(by omega),(Xgj C aT),q⟩,(by omega)⟩
 have i:=g;have g:=of_decide_eq_false g
 have aU:k=p.out.length:=by have:=g;omega
 subst aU
 have y:idP p=true:=by rw [X9j,aS,C];rfl
 refine wp_exit<|Xh<|Xh<|Xz ?_;refine aC _ _<|Zs b fun _ aM=>?_;refine Za rfl<|Zt aM fun a b=>?_
 refine wp_ret (X4 b (X00 b rfl rfl) ?_)
 rw [y];exact ⟨rfl,q⟩
theorem Y1j(D:World)(c:Cx)(Ac:Option Addr)(cc:Nat)(h:Rd D D.heap.size 114 encG Ac c.gs)(aN:c.gs.length≤2305843009213693951) : Ret Tryz.prog 96 [.agg #[vi c.n,.slice Ac c.gs.length cc]] D (fun v w=>∃ A c1,v=.tuple #[.agg #[vi ((invO c).getD cZ).n,.slice A ((invO c).getD cZ).gs.length c1],.bool (invO c).isSome]∧Own w D.heap.size 114 3 encG A c1 ((invO c).getD cZ).gs∧Below D.heap.size D w):=by
 refine enter Tryz.func96 rfl 46 rfl rfl ?_;intro a i
 have f:=bz D
 refine Zs i fun _ bD=>?_;refine Zf (X0v (zs:=[vi c.n,.slice Ac c.gs.length cc]) rfl rfl) ?_;rintro _ w1 ⟨b3,rfl,bE,m,e⟩;have bX:=Nat.le_trans f.size bE;have f:=btr f m;refine Zf (X6 (zs:=[vi 0,.slice none 0 0]) X3o rfl) ?_;rintro _ w2 ⟨b5,rfl,bF,m,d⟩
 have bC:b3≠b5:=by have:=e.lt;omega
 have aC:=Nat.le_trans f.size bF;have e:=e.below m;have f:=btr f m;refine Za rfl<|ZX bD fun a i _ bG=>?_;refine Zs i fun _ bH=>?_;refine Ze (Vn X0m e)<|Zf (Vc (F55 _ c Ac cc (h.below' f).top aN) Xci) ?_;rintro _ w3 ⟨rfl,m⟩;have e:=e.below m;have d:=d.below m;have f:=btr f m;refine Ze (X1a rfl)<|Zt bH fun a i=>?_
 refine Xf i rfl (fun I=>?_) (fun I=>?_)
 ·have aO:=I
  have a8:cOk c=false:=by have:=I;simpa using this
  have J:invO c=none:=by unfold invO;rw [a8];rfl
  refine Zs i fun _ bJ=>?_;refine Ze (Xl (ps:=[]) (cs:=[vi 0,.slice none 0 0]) rfl (fun _=>by first|rfl|kernel_rfl))<|Zo (Vw [vi 0,.slice none 0 0] X1p d) ?_;rintro _ w4 ⟨ho,hb⟩;have B:=d;have f:=Below.only f ho aC;have d:=hb;refine Za rfl<|Zt bJ fun a i=>?_;refine wp_ret<|X5<|X4 i (X1e i rfl (ResV.cellN (l:=[vi 0,.slice none 0 0]) rfl X0m (d.at 0) rfl) rfl) ?_
  rw [J]
  exact ⟨none,0,rfl,(Own.nil _ _ _ _ _),f⟩
 have aO:=I
 have a8:cOk c=true:=by have:=I;simpa using this
 have aE:=X2o.1 a8;have bK:=aE.2.2;have bZ:=aE.2.1
 have bL:c.n≤5:=(X07.1 aE.1).2
 refine wp_skip<|bG _ _<|Zs i fun _ aP=>?_;refine Zf (Xd (k:=0) (vs:=[]) (zs:=[]) rfl X0y X0o rfl rfl) ?_;rintro _ w5 ⟨bN,rfl,aD,m,aQ⟩;have aF:=Nat.le_trans f.size aD;have aR:=(h.below' f).away aD;have e:=e.below m;have d:=d.below m;have f:=btr f m;refine Za rfl<|ZX aP fun a i _ aS=>?_;refine Zs i fun _ aT=>?_;refine Ze (Vd rfl X0x 1)<|Ze (X0 rfl X2h (e.at 1))<|Ze (X1i rfl X0y)<|Ze (Vx (X1m rfl rfl (by omega) (by omega)) (show _=((c.gs.length:Int)-1-((0:Nat) : Int)) from (by omega)))<|Za rfl ?_;refine Zt aT fun a i=>?_;refine wp_block<|X05 (σ:=Nat×(List Gt)) (fun (s:Nat×(List Gt)) (a:Act) (w:World)=>match s with|(k,l)=>∃ L M,Fr a 46 [(1,.pointer (some ⟨b3,0,none⟩)),(2,.pointer (some ⟨b5,0,none⟩)),(4,.slice L l.length M),(5,vi ((c.gs.length:Int)-1-(k:Int)))]∧(k≤c.gs.length)∧(l=(c.gs.reverse.take k).flatMap invG)∧(l.length≤7*k)∧Blk w b3 48 [vi c.n,.slice Ac c.gs.length cc]∧Blk w b5 48 [vi 0,.slice none 0 0]∧Own w D.heap.size 114 3 encG L M l∧Below D.heap.size D w) (fun (s:Nat×(List Gt))=>match s with|(k,l)=>c.gs.length-k) (0,[]) ?_ ?_
 ·exact ⟨some ⟨bN,0,none⟩,0,i.sb,(Nat.zero_le _),rfl,(Nat.le_refl _),e,d,(Own.empty aQ aF),f⟩
 rintro ⟨k,l⟩ a w6 ⟨L,M,i,hk,hl,c4,e,d,o,f⟩;refine wp_seq_k fun _ aU=>?_;refine Zs i fun _ aW=>?_;refine Zm rfl<|Ze (Xdt rfl rfl)<|Zt aW fun a i=>?_
 refine Xf i rfl (fun p=>?_) (fun p=>?_)
 ·have aG:=p;have p:=of_decide_eq_true p
  have bO:k<c.gs.length:=by have:=p;omega
  have cA:=Xoh (c.gs.getD (c.gs.length-1-k) gZ);refine wp_skip<|aU _ _<|wp_seq_k fun _ aX=>?_;refine wp_block<|Zs i fun _ aY=>?_;refine Ze (Vd rfl X0x 1)<|Ze (X0 rfl X2h (e.at 1))<|Zm rfl<|Zi (k:=(c.gs.length-1-k)) (u:=(c.gs.getD (c.gs.length-1-k) gZ)) (enc:=encG) (l:=c.gs) trivial rfl rfl X0y X1o X0w (h.below' f) (Xio (by omega)) (by omega) ?_;intro cC aH;refine Ze (X0b (l:=[vi ((c.gs.getD (c.gs.length-1-k) gZ).k),vi ((c.gs.getD (c.gs.length-1-k) gZ).a),vi ((c.gs.getD (c.gs.length-1-k) gZ).b)]) rfl X0n aH rfl)<|Zf (Vc (Xzf _ (c.gs.getD (c.gs.length-1-k) gZ) _ (bK _ (List.mem_of_getElem? (Xio (by omega)))) bL) Xt6) ?_;rintro _ w7 ⟨rfl,m⟩;have e:=e.below m;have d:=d.below m;have o:=o.below m;have f:=btr f m;refine Zm rfl<|Ze (X3 (vs:=[.agg #[vi ((bkG (c.gs.getD (c.gs.length-1-k) gZ)).k),vi ((bkG (c.gs.getD (c.gs.length-1-k) gZ)).a),vi ((bkG (c.gs.getD (c.gs.length-1-k) gZ)).b)],vi (bkN (c.gs.getD (c.gs.length-1-k) gZ)),.bool true]) rfl rfl)<|Ze (X3 (vs:=[.agg #[vi ((bkG (c.gs.getD (c.gs.length-1-k) gZ)).k),vi ((bkG (c.gs.getD (c.gs.length-1-k) gZ)).a),vi ((bkG (c.gs.getD (c.gs.length-1-k) gZ)).b)],vi (bkN (c.gs.getD (c.gs.length-1-k) gZ)),.bool true]) rfl rfl)<|Ze (X3 (vs:=[.agg #[vi ((bkG (c.gs.getD (c.gs.length-1-k) gZ)).k),vi ((bkG (c.gs.getD (c.gs.length-1-k) gZ)).a),vi ((bkG (c.gs.getD (c.gs.length-1-k) gZ)).b)],vi (bkN (c.gs.getD (c.gs.length-1-k) gZ)),.bool true]) rfl rfl)<|Zf (X6 (zs:=[vi 0,vi 0,vi 0]) X6m rfl) ?_;rintro _ w8 ⟨aA,rfl,N,m,g⟩;have aI:=Nat.le_trans f.size N;have t:=o.away N;have aZ:=(h.below' f).away N;have e:=e.below m;have d:=d.below m;have o:=o.below m;have f:=btr f m
  refine Zo (Vw [vi ((bkG (c.gs.getD (c.gs.length-1-k) gZ)).k),vi ((bkG (c.gs.getD (c.gs.length-1-k) gZ)).a),vi ((bkG (c.gs.getD (c.gs.length-1-k) gZ)).b)] X1o g) ?_;rintro _ w9 ⟨ho,hb⟩;have B:=g;have e:=e.only ho (Blk.ne e B rfl);have d:=d.only ho (Blk.ne d B rfl);have o:=o.onlyA ho t;have f:=Below.only f ho aI;have g:=hb;refine Za rfl<|Za rfl<|Zx aY fun a i _ b0=>?_;refine Zm rfl<|Zm rfl<|Zt b0 fun a i=>?_;refine wp_block<|X05 (σ:=Nat×(List Gt)) (fun (s:Nat×(List Gt)) (a:Act) (w:World)=>match s with|(j,l2)=>∃ Q aB,Fr a 46 [(1,.pointer (some ⟨b3,0,none⟩)),(2,.pointer (some ⟨b5,0,none⟩)),(4,.slice Q l2.length aB),(5,vi ((c.gs.length:Int)-1-(k:Int))),(6,.pointer (some ⟨aA,0,none⟩)),(32,vi (bkN (c.gs.getD (c.gs.length-1-k) gZ))),(33,vi (j:Int))]∧((j:Int)≤bkN (c.gs.getD (c.gs.length-1-k) gZ))∧(l2=l++List.replicate j (bkG (c.gs.getD (c.gs.length-1-k) gZ)))∧(l2.length=l.length+j)∧Blk w b3 48 [vi c.n,.slice Ac c.gs.length cc]∧Blk w b5 48 [vi 0,.slice none 0 0]∧Blk w aA 114 [vi ((bkG (c.gs.getD (c.gs.length-1-k) gZ)).k),vi ((bkG (c.gs.getD (c.gs.length-1-k) gZ)).a),vi ((bkG (c.gs.getD (c.gs.length-1-k) gZ)).b)]∧Own w D.heap.size 114 3 encG Q aB l2∧Away Q aA∧Below D.heap.size D w) (fun (s:Nat×(List Gt))=>match s with|(j,l2)=>(bkN (c.gs.getD (c.gs.length-1-k) gZ)).toNat-j) (0,l) ?_ ?_
  ·exact ⟨L,M,i.sb,(by omega),(by simp),rfl,e,d,g,o,t,f⟩
  rintro ⟨j,l2⟩ a cD ⟨Q,aB,i,hj,b1,bY,e,d,g,x,y,f⟩;refine Zs i fun _ b2=>?_;refine Ze (X1u rfl rfl)<|ZX b2 fun a i _ b4=>?_
  refine Xf i rfl (fun q=>?_) (fun q=>?_)
  ·have aJ:=q;have q:=of_decide_eq_true q;refine wp_skip<|b4 _ _<|wp_seq_k fun _ b6=>?_;refine wp_block<|Zr i<|Zm rfl<|Ze (Vn X0n g)<|Zf (Xd (k:=1) (vs:=[.agg #[vi ((bkG (c.gs.getD (c.gs.length-1-k) gZ)).k),vi ((bkG (c.gs.getD (c.gs.length-1-k) gZ)).a),vi ((bkG (c.gs.getD (c.gs.length-1-k) gZ)).b)]]) (zs:=[vi ((bkG (c.gs.getD (c.gs.length-1-k) gZ)).k),vi ((bkG (c.gs.getD (c.gs.length-1-k) gZ)).a),vi ((bkG (c.gs.getD (c.gs.length-1-k) gZ)).b)]) rfl X0y X0o rfl rfl) ?_;rintro _ cE ⟨b31,rfl,U,m,W⟩
   have aL:aA≠b31:=by have:=g.lt;omega
   have bP:=Nat.le_trans f.size U;have G:=x.away U;have b7:=(h.below' f).away U;have e:=e.below m;have d:=d.below m;have g:=g.below m;have x:=x.below m;have f:=btr f m;refine Zf (X11 (enc:=encG) (l:=(l2)) (l2:=([(bkG (c.gs.getD (c.gs.length-1-k) gZ))])) (B0:=D.heap.size) rfl rfl X0y X0o X0w X1l x (Rd.of_blk W rfl _ W.lt) (by simp only [maxLen];simp;omega) (by simp;omega) f.size) ?_;rintro _ cF ⟨bR,bS,rfl,b8,hg,aK⟩
   have E:Own _ D.heap.size 114 3 encG _ _ (l2):=x
   have H:=aK _ g.lt y;have aM:=aK _ W.lt G;clear aK;have e:=e.appT E hg rfl;have d:=d.appT E hg rfl;have g:=g.appA hg y;have f:=Below.app f E hg (Nat.le_refl _) f.size;clear E hg;refine Za rfl ?_;refine Zn fun a i=>?_;refine Xb<|b6 _ _<|Zr i<|Ze (Xw rfl rfl (by omega) (by omega))<|Zm rfl ?_;refine Zn fun a i=>?_;refine Xe ?_;exact ⟨(j+1,l2++([(bkG (c.gs.getD (c.gs.length-1-k) gZ))])),⟨bR,bS,i.sb,(by omega),(by rw [b1,Xgq,List.append_assoc]),(by simp;omega),e,d,g,b8,H,f⟩,(by first|omega|(dsimp only;omega))⟩
  have aJ:=q;have q:=of_decide_eq_false q
  have bU:bkN (c.gs.getD (c.gs.length-1-k) gZ)≤(j:Int):=by have:=q;omega
  refine wp_exit<|Xh<|Xh<|Xz ?_;refine Xb<|aX _ _<|Zr i<|Zm rfl<|Ze (Vx (X1m rfl rfl (by omega) (by omega)) (show _=((c.gs.length:Int)-1-((k+1:Nat) : Int)) from (by omega)))<|Za rfl ?_;refine Zn fun a i=>?_;refine Xe ?_;exact ⟨(k+1,l2),⟨Q,aB,i.sb,(by omega),(by rw [Xgu bO,b1,← hl,show (bkN (c.gs.getD (c.gs.length-1-k) gZ)).toNat=j from by have:=bU;omega]),(by omega),e,d,x,f⟩,(by first|omega|(dsimp only;omega))⟩
 have aG:=p;have p:=of_decide_eq_false p
 have bW:k=c.gs.length:=by have:=p;omega
 have J:invO c=cIf ⟨c.n,l⟩:=by rw [← Xu3 a8,hl,bW,← List.length_reverse,List.take_length];rfl
 refine wp_exit<|Xh<|Xh<|Xz ?_;refine aS _ _<|Zs i fun _ b9=>?_;refine Ze (Vd rfl X1z 0)<|Ze (X0 rfl X2 (e.at 0))<|Zm rfl<|Zf (Vc (Xzp _ c.n L M l o.rd.top (by omega)) Xpz) ?_;rintro _ cG ⟨a6,a7,rfl,C,m⟩;have C:=C.lower f.size;have d:=d.below m;have f:=btr f m;refine Ze (X3 (vs:=[.agg #[vi (((cIf ⟨c.n,l⟩).getD cZ).n),.slice a6 (((cIf ⟨c.n,l⟩).getD cZ).gs).length a7],.bool ((cIf ⟨c.n,l⟩).isSome)]) rfl rfl)<|Ze (X3 (vs:=[.agg #[vi (((cIf ⟨c.n,l⟩).getD cZ).n),.slice a6 (((cIf ⟨c.n,l⟩).getD cZ).gs).length a7],.bool ((cIf ⟨c.n,l⟩).isSome)]) rfl rfl)<|Zo (Vw [vi (((cIf ⟨c.n,l⟩).getD cZ).n),.slice a6 (((cIf ⟨c.n,l⟩).getD cZ).gs).length a7] X1p d) ?_;rintro _ cH ⟨ho,hb⟩;have B:=d;have C:=C.onlyT ho B rfl;have f:=Below.only f ho aC;have d:=hb;refine Za rfl<|Zt b9 fun a i=>?_
 refine wp_ret (X4 i (X1e i rfl (ResV.cellN (l:=[vi (((cIf ⟨c.n,l⟩).getD cZ).n),.slice a6 (((cIf ⟨c.n,l⟩).getD cZ).gs).length a7]) rfl X0m (d.at 0) rfl) rfl) ?_)
 rw [J]
 exact ⟨a6,a7,rfl,C,f⟩
theorem Y0i(H:World)(p:Cx)(t:Option Addr)(u:Nat)(I:Rd H H.heap.size 114 encG t p.gs)(q:Cx)(Aq:Option Addr)(cq:Nat)(J:Rd H H.heap.size 114 encG Aq q.gs)(aQ:p.gs.length≤2000000)(aR:q.gs.length≤2000000) : Ret Tryz.prog 97 [.agg #[vi p.n,.slice t p.gs.length u],.agg #[vi q.n,.slice Aq q.gs.length cq]] H (fun v w=>∃ A c1,v=.tuple #[.agg #[vi ((conO p q).getD cZ).n,.slice A ((conO p q).getD cZ).gs.length c1],.bool (conO p q).isSome]∧Own w H.heap.size 114 3 encG A c1 ((conO p q).getD cZ).gs∧Below H.heap.size H w):=by
 refine enter Tryz.func97 rfl 33 rfl rfl ?_;intro a o
 have g:=bz H
 refine Zs o fun _ aG=>?_;refine Zf (X0v (zs:=[vi p.n,.slice t p.gs.length u]) rfl rfl) ?_;rintro _ w1 ⟨b4,rfl,aH,d,e⟩;have aO:=Nat.le_trans g.size aH;have g:=btr g d;refine Zf (X0v (zs:=[vi q.n,.slice Aq q.gs.length cq]) rfl rfl) ?_;rintro _ w2 ⟨b5,rfl,aI,d,i⟩
 have aD:b4≠b5:=by have:=e.lt;omega
 have aP:=Nat.le_trans g.size aI;have e:=e.below d;have g:=btr g d;refine Zf (X6 (zs:=[vi 0,.slice none 0 0]) X3o rfl) ?_;rintro _ w3 ⟨b7,rfl,aJ,d,f⟩
 have aE:b4≠b7:=by have:=e.lt;omega
 have aF:b5≠b7:=by have:=i.lt;omega
 have L:=Nat.le_trans g.size aJ;have e:=e.below d;have i:=i.below d;have g:=btr g d;refine Za rfl<|ZX aG fun a o _ aK=>?_;refine wp_seq_k fun _ aL=>?_;refine X09 (fun a w=>Fr a 33 [(2,.pointer (some ⟨b4,0,none⟩)),(3,.pointer (some ⟨b5,0,none⟩)),(4,.pointer (some ⟨b7,0,none⟩)),(20,.bool (((!(cOk p))||(!(cOk q)))||(p.n != q.n)))]∧Below w3.heap.size w3 w) ?_ ?_
 ·have y:Below w3.heap.size w3 w3:=Below.refl _ _
  refine Zr o<|Ze (Vn X0m e)<|Zf (Vc (F55 _ p t u (I.below' g).top (by omega)) Xci) ?_;rintro _ w4 ⟨rfl,d⟩;have e:=e.below d;have i:=i.below d;have g:=btr g d;have y:=btr y d;refine Ze (X1a rfl)<|Zm rfl ?_
  refine Zg 9 rfl (fun c=>?_) (fun c=>?_)
  ·refine Zp (gP c) ?_;refine Zp (gP c) ?_;refine Zp (gP c) ?_;refine Ze (X9 rfl c rfl)<|Zm rfl<|Zp (gP rfl) ?_;refine Zp (gP rfl) ?_;refine Zp (gP rfl) ?_;refine Zp (gP rfl) ?_;refine Zp (gP rfl) ?_;refine Ze (X9 rfl rfl rfl) ?_;refine Zn fun a o=>?_
   have E:Below w3.heap.size w3 w4:=y
   exact ⟨o.sub ⟨rfl,rfl,rfl,X1 rfl (by first|rfl|(simp only [c,bs];done)|simp [c]),trivial⟩,E⟩
  refine Zv (gW c) (Vn X0m i) ?_;refine Zk (gW c) (Vc (F55 _ q Aq cq (J.below' g).top (by omega)) Xci) ?_;rintro _ w5 ⟨rfl,d⟩;have e:=e.below d;have i:=i.below d;have g:=btr g d;have y:=btr y d;refine Zv (gW c) (X1a rfl) ?_;refine Ze (Xc rfl c rfl)<|Zm rfl ?_
  refine Zg 14 rfl (fun b=>?_) (fun b=>?_)
  ·refine Zp (gP b) ?_;refine Zp (gP b) ?_;refine Zp (gP b) ?_;refine Zp (gP b) ?_;refine Zp (gP b) ?_;refine Ze (X9 rfl b rfl) ?_;refine Zn fun a o=>?_
   have E:Below w3.heap.size w3 w5:=y
   exact ⟨o.sub ⟨rfl,rfl,rfl,X1 rfl (by first|rfl|(simp only [c,b,bs];done)|simp [c,b]),trivial⟩,E⟩
  refine Zv (gW b) (Vd rfl X1z 0) ?_;refine Zv (gW b) (X0 rfl X2 (e.at 0)) ?_;refine Zv (gW b) (Vd rfl X1z 0) ?_;refine Zv (gW b) (X0 rfl X2 (i.at 0)) ?_;refine Zv (gW b) (X4m rfl rfl) ?_;refine Ze (Xc rfl b rfl) ?_;refine Zn fun a o=>?_
  have E:Below w3.heap.size w3 w5:=y
  exact ⟨o.sub ⟨rfl,rfl,rfl,X1 rfl (by first|rfl|(simp only [c,b,bs];done)|simp [c,b]),trivial⟩,E⟩
 rintro a w6 ⟨o,d⟩;have e:=e.below d;have i:=i.below d;have f:=f.below d;have g:=btr g d;refine aL _ _ ?_
 refine Xf o rfl (fun x=>?_) (fun x=>?_)
 ·have a6:=x
  have G:conO p q=none:=by unfold conO;have h7:=x;rw [if_neg];revert h7;cases cOk p<;>cases cOk q<;>by_cases e9:p.n=q.n<;>simp [e9]
  refine Zs o fun _ a7=>?_;refine Ze (Xl (ps:=[]) (cs:=[vi 0,.slice none 0 0]) rfl (fun _=>by first|rfl|kernel_rfl))<|Zo (Vw [vi 0,.slice none 0 0] X1p f) ?_;rintro _ w7 ⟨ho,hb⟩;have M:=f;have g:=Below.only g ho L;have f:=hb;refine Za rfl<|Zt a7 fun a o=>?_;refine wp_ret<|X5<|X4 o (X1e o rfl (ResV.cellN (l:=[vi 0,.slice none 0 0]) rfl X0m (f.at 0) rfl) rfl) ?_
  rw [G]
  exact ⟨none,0,rfl,(Own.nil _ _ _ _ _),g⟩
 have a6:=x
 have h7:cOk p=true∧cOk q=true∧p.n=q.n:=by have h7:=x;revert h7;cases cOk p<;>cases cOk q<;>simp
 have G:conO p q=cIf ⟨p.n,p.gs++(q.gs++[])⟩:=by rw [List.append_nil,Xiz h7.1 h7.2.1 h7.2.2]
 refine wp_skip<|aK _ _<|wp_seq_k fun _ a8=>?_;refine Xs none (fun j=>[11].contains j) mixed ?_;intro w8 d;have e:=e.below d;have i:=i.below d;have f:=f.below d;have g:=btr g d;refine Yb o<|Yo 0 rfl (fun _=>Vd rfl X1z 0)<|Ye 1 rfl (X0 rfl X2 (e.at 0))<|Yo 2 rfl (fun _=>Vd rfl X0x 1)<|Ye 3 rfl (X0 rfl X2h (e.at 1))<|Yo 4 rfl (fun _=>Vd rfl X0x 1) ?_;refine Ye 5 rfl (X0 rfl X2h (i.at 1))<|Y1 6 ?_;refine Yk rfl trivial (Xd (k:=2) (vs:=[.slice t p.gs.length u,.slice Aq q.gs.length cq]) (zs:=[.slice t p.gs.length u,.slice Aq q.gs.length cq]) rfl Xb5 Xxm rfl rfl) (fun _ _ ⟨_,_,_,h,_⟩=>h) ?_;rintro _ w9 ⟨aM,rfl,aA,d,N⟩;have aN:=Nat.le_trans g.size aA;have f:=f.below d;have g:=btr g d;refine Y1 7<|Yk rfl trivial (Vc (Y24 _ [(⟨t,u,p.gs⟩ : Sg),(⟨Aq,cq,q.gs⟩ : Sg)] (some ⟨aM,0,none⟩) 2 (Rd.of_blk N rfl _ N.lt) (fun s hs=>by simp only [List.mem_cons,List.not_mem_nil,or_false] at hs;rcases hs with rfl|rfl;exact (I.below' g).top;exact (J.below' g).top) (by simp) (by simp;omega)) Xyv) (fun _ _ ⟨aB,aC,_,B,d⟩=>d) ?_;rintro _ aS ⟨aB,aC,rfl,B,d⟩;have B:=B.lower g.size;have f:=f.below d;have g:=btr g d;refine Y1 8<|Yk rfl trivial (Vc (Xzp _ p.n aB aC (List.flatMap Sg.l [(⟨t,u,p.gs⟩ : Sg),(⟨Aq,cq,q.gs⟩ : Sg)]) B.rd.top (by simp;omega)) Xpz) (fun _ _ ⟨C,D,_,m,d⟩=>d) ?_;rintro _ aT ⟨C,D,rfl,m,d⟩;have m:=m.lower g.size;have f:=f.below d;have g:=btr g d;refine Yo 9 rfl (fun _=>X3 (vs:=[.agg #[vi (((cIf ⟨p.n,(List.flatMap Sg.l [(⟨t,u,p.gs⟩ : Sg),(⟨Aq,cq,q.gs⟩ : Sg)])⟩).getD cZ).n),.slice C (((cIf ⟨p.n,(List.flatMap Sg.l [(⟨t,u,p.gs⟩ : Sg),(⟨Aq,cq,q.gs⟩ : Sg)])⟩).getD cZ).gs).length D],.bool ((cIf ⟨p.n,(List.flatMap Sg.l [(⟨t,u,p.gs⟩ : Sg),(⟨Aq,cq,q.gs⟩ : Sg)])⟩).isSome)]) rfl rfl)<|Yo 10 rfl (fun _=>X3 (vs:=[.agg #[vi (((cIf ⟨p.n,(List.flatMap Sg.l [(⟨t,u,p.gs⟩ : Sg),(⟨Aq,cq,q.gs⟩ : Sg)])⟩).getD cZ).n),.slice C (((cIf ⟨p.n,(List.flatMap Sg.l [(⟨t,u,p.gs⟩ : Sg),(⟨Aq,cq,q.gs⟩ : Sg)])⟩).getD cZ).gs).length D],.bool ((cIf ⟨p.n,(List.flatMap Sg.l [(⟨t,u,p.gs⟩ : Sg),(⟨Aq,cq,q.gs⟩ : Sg)])⟩).isSome)]) rfl rfl)<|Y1 11 ?_
 refine Yh rfl trivial rfl (Vw [vi (((cIf ⟨p.n,(List.flatMap Sg.l [(⟨t,u,p.gs⟩ : Sg),(⟨Aq,cq,q.gs⟩ : Sg)])⟩).getD cZ).n),.slice C (((cIf ⟨p.n,(List.flatMap Sg.l [(⟨t,u,p.gs⟩ : Sg),(⟨Aq,cq,q.gs⟩ : Sg)])⟩).getD cZ).gs).length D] X1p f) ?_;rintro _ aU ⟨ho,hb⟩;have M:=f;have m:=m.onlyT ho M rfl;have g:=Below.only g ho L;have f:=hb;refine Yo 12 rfl (fun _=>X1w rfl) ?_;refine Yd fun a o=>?_;refine a8 _ _ ?_
 refine wp_ret (X4 o (X1e o rfl (ResV.cellN (l:=[vi (((cIf ⟨p.n,(List.flatMap Sg.l [(⟨t,u,p.gs⟩ : Sg),(⟨Aq,cq,q.gs⟩ : Sg)])⟩).getD cZ).n),.slice C (((cIf ⟨p.n,(List.flatMap Sg.l [(⟨t,u,p.gs⟩ : Sg),(⟨Aq,cq,q.gs⟩ : Sg)])⟩).getD cZ).gs).length D]) rfl X0m (f.at 0) rfl) rfl) ?_)
 rw [G]
 exact ⟨C,D,rfl,m,g⟩
theorem Y0v(h:World)(p:Cx)(Ap:Option Addr)(cp:Nat)(a8:Rd h h.heap.size 114 encG Ap p.gs)(q:Cx)(Aq:Option Addr)(cq:Nat)(aA:Rd h h.heap.size 114 encG Aq q.gs)(aN:p.gs.length≤2000000)(aX:q.gs.length≤2000000) : Ret Tryz.prog 51 [.agg #[vi p.n,.slice Ap p.gs.length cp],.agg #[vi q.n,.slice Aq q.gs.length cq]] h (fun v w=>∃ A c1,v=.tuple #[.agg #[vi ((((invO q).bind (conO p))).getD cZ).n,.slice A ((((invO q).bind (conO p))).getD cZ).gs.length c1],.bool (((invO q).bind (conO p))).isSome]∧Own w h.heap.size 114 3 encG A c1 ((((invO q).bind (conO p))).getD cZ).gs∧Below h.heap.size h w):=by
 refine enter Tryz.func51 rfl 21 rfl rfl ?_;intro a m
 have d:=bz h
 refine Zs m fun _ aO=>?_;refine Zf (X0v (zs:=[vi p.n,.slice Ap p.gs.length cp]) rfl rfl) ?_;rintro _ w1 ⟨b4,rfl,aP,f,c⟩;have aU:=Nat.le_trans d.size aP;have d:=btr d f;refine Zf (X0v (zs:=[vi q.n,.slice Aq q.gs.length cq]) rfl rfl) ?_;rintro _ w2 ⟨b5,rfl,aQ,f,j⟩
 have aK:b4≠b5:=by have:=c.lt;omega
 have aW:=Nat.le_trans d.size aQ;have c:=c.below f;have d:=btr d f;refine Zf (X6 (zs:=[vi 0,.slice none 0 0]) X3o rfl) ?_;rintro _ w3 ⟨b7,rfl,aR,f,b⟩
 have aL:b4≠b7:=by have:=c.lt;omega
 have aM:b5≠b7:=by have:=j.lt;omega
 have C:=Nat.le_trans d.size aR;have c:=c.below f;have j:=j.below f;have d:=btr d f;refine Za rfl<|Zx aO fun a m _ aS=>?_;refine Ze (Vn X0m j)<|Zf (Vc (Y1j _ q Aq cq (aA.below' d).top (by omega)) Xtt) ?_;rintro _ w4 ⟨A9,c9,rfl,k,f⟩;have k:=k.lower d.size;have c:=c.below f;have j:=j.below f;have b:=b.below f;have d:=btr d f;refine Zm rfl<|Ze (X3 (vs:=[.agg #[vi (((invO q).getD cZ).n),.slice A9 (((invO q).getD cZ).gs).length c9],.bool ((invO q).isSome)]) rfl rfl)<|Ze (X3 (vs:=[.agg #[vi (((invO q).getD cZ).n),.slice A9 (((invO q).getD cZ).gs).length c9],.bool ((invO q).isSome)]) rfl rfl)<|Zf (X6 (zs:=[vi 0,.slice none 0 0]) X3o rfl) ?_;rintro _ w5 ⟨b11,rfl,aB,f,o⟩
 have aC:b4≠b11:=by have:=c.lt;omega
 have aD:b5≠b11:=by have:=j.lt;omega
 have aE:b7≠b11:=by have:=b.lt;omega
 have a6:=Nat.le_trans d.size aB;have c:=c.below f;have b:=b.below f;have k:=k.below f;have d:=btr d f;refine Zo (Vw [vi (((invO q).getD cZ).n),.slice A9 (((invO q).getD cZ).gs).length c9] X1p o) ?_;rintro _ w6 ⟨B,hb⟩;have t:=o;have c:=c.only B (by omega);have b:=b.only B (by omega);have k:=k.onlyT B t rfl;have d:=Below.only d B a6;have o:=hb;refine Za rfl<|ZX aS fun a m _ aF=>?_;refine Zs m fun _ aG=>?_;refine Zm rfl<|Ze (X1a rfl)<|Zt aG fun a m=>?_
 refine Xf m rfl (fun g=>?_) (fun g=>?_)
 ·have a7:=g
  have aH:(invO q).bind (conO p)=none:=by have h7:=g;cases e:invO q with
   | none=>rfl
   | some x=>rw [e] at h7;simp at h7
  refine Zs m fun _ aI=>?_;refine Ze (Xl (ps:=[]) (cs:=[vi 0,.slice none 0 0]) rfl (fun _=>by first|rfl|kernel_rfl))<|Zo (Vw [vi 0,.slice none 0 0] X1p b) ?_;rintro _ w7 ⟨B,hb⟩;have t:=b;have d:=Below.only d B C;have b:=hb;refine Za rfl<|Zt aI fun a m=>?_;refine wp_ret<|X5<|X4 m (X1e m rfl (ResV.cellN (l:=[vi 0,.slice none 0 0]) rfl X0m (b.at 0) rfl) rfl) ?_
  rw [aH]
  exact ⟨none,0,rfl,(Own.nil _ _ _ _ _),d⟩
 have a7:=g
 obtain ⟨x9,aT⟩ : ∃ x,invO q=some x:=Option.isSome_iff_exists.1 (by have:=g;simpa using this)
 refine wp_skip<|aF _ _<|Zs m fun _ aJ=>?_;refine Ze (Vn X0m c)<|Ze (Vn X0m o)<|Zf (Vc (Y0i _ p Ap cp (a8.below' d).top ((invO q).getD cZ) A9 c9 k.rd.top aN (Xjh q)) Xr1) ?_;rintro _ w8 ⟨u,y,rfl,i,f⟩;have i:=i.lower d.size;have b:=b.below f;have d:=btr d f;refine Ze (X3 (vs:=[.agg #[vi (((conO p ((invO q).getD cZ)).getD cZ).n),.slice u (((conO p ((invO q).getD cZ)).getD cZ).gs).length y],.bool ((conO p ((invO q).getD cZ)).isSome)]) rfl rfl)<|Ze (X3 (vs:=[.agg #[vi (((conO p ((invO q).getD cZ)).getD cZ).n),.slice u (((conO p ((invO q).getD cZ)).getD cZ).gs).length y],.bool ((conO p ((invO q).getD cZ)).isSome)]) rfl rfl)<|Zo (Vw [vi (((conO p ((invO q).getD cZ)).getD cZ).n),.slice u (((conO p ((invO q).getD cZ)).getD cZ).gs).length y] X1p b) ?_;rintro _ w9 ⟨B,hb⟩;have t:=b;have i:=i.onlyT B t rfl;have d:=Below.only d B C;have b:=hb;refine Za rfl<|Zt aJ fun a m=>?_
 refine wp_ret (X4 m (X1e m rfl (ResV.cellN (l:=[vi (((conO p ((invO q).getD cZ)).getD cZ).n),.slice u (((conO p ((invO q).getD cZ)).getD cZ).gs).length y]) rfl X0m (b.at 0) rfl) rfl) ?_)
 rw [aT] at *
 exact ⟨u,y,rfl,i,d⟩
theorem Y20(D:World)(c:Cx)(Ac:Option Addr)(cc:Nat)(J:Rd D D.heap.size 114 encG Ac c.gs)(bH:c.gs.length≤100000) : Ret Tryz.prog 35 [.agg #[vi c.n,.slice Ac c.gs.length cc]] D (fun v w=>∃ A9 c9,v=.agg #[vi c.n,.slice A9 (invL c.gs).length c9]∧Own w D.heap.size 114 3 encG A9 c9 (invL c.gs)∧Below D.heap.size D w):=by
 refine enter Tryz.func35 rfl 38 rfl rfl ?_;intro a o
 have i:=bz D
 refine Zs o fun _ b2=>?_;refine Zf (X0v (zs:=[vi c.n,.slice Ac c.gs.length cc]) rfl rfl) ?_;rintro _ w1 ⟨b3,rfl,b4,t,d⟩;have bF:=Nat.le_trans i.size b4;have i:=btr i t;refine Zf (X6 (zs:=[vi 0,.slice none 0 0]) X3o rfl) ?_;rintro _ w2 ⟨b5,rfl,b6,t,e⟩
 have aZ:b3≠b5:=by have:=d.lt;omega
 have aJ:=Nat.le_trans i.size b6;have d:=d.below t;have i:=btr i t;refine Zx b2 fun a o _ b7=>?_;refine Ze (Vd rfl X1z 0)<|Ze (X0 rfl X2 (d.at 0))<|Ze (Xl (ps:=[(0,vi c.n)]) (cs:=[vi c.n,.slice none 0 0]) rfl (fun _=>by first|rfl|kernel_rfl))<|Zf (X6 (zs:=[vi 0,.slice none 0 0]) X3o rfl) ?_;rintro _ w3 ⟨b9,rfl,a8,t,f⟩
 have b0:b3≠b9:=by have:=d.lt;omega
 have b1:b5≠b9:=by have:=e.lt;omega
 have a7:=Nat.le_trans i.size a8;have d:=d.below t;have e:=e.below t;have i:=btr i t;refine Zo (Vw [vi c.n,.slice none 0 0] X1p f) ?_;rintro _ w4 ⟨B,hb⟩;have p:=f;have d:=d.only B (by omega);have e:=e.only B (by omega);have i:=Below.only i B a7;have f:=hb;refine ZX b7 fun a o _ aK=>?_;refine Zs o fun _ aL=>?_;refine Ze (Vd rfl X0x 1)<|Ze (X0 rfl X2h (d.at 1))<|Ze (X1i rfl X0y)<|Ze (Vx (X1m rfl rfl (by omega) (by omega)) (show _=((c.gs.length:Int)-1-((0:Nat) : Int)) from (by omega)))<|Za rfl ?_;refine Zt aL fun a o=>?_;refine wp_block<|X05 (σ:=Nat×(List Gt)) (fun (s:Nat×(List Gt)) (a:Act) (w:World)=>match s with|(k,l)=>∃ E G,Fr a 38 [(1,.pointer (some ⟨b3,0,none⟩)),(2,.pointer (some ⟨b5,0,none⟩)),(3,.pointer (some ⟨b9,0,none⟩)),(4,vi ((c.gs.length:Int)-1-(k:Int)))]∧(k≤c.gs.length)∧(l=(c.gs.reverse.take k).flatMap invG)∧(l.length≤7*k)∧Blk w b3 48 [vi c.n,.slice Ac c.gs.length cc]∧Blk w b5 48 [vi 0,.slice none 0 0]∧Blk w b9 48 [vi c.n,.slice E l.length G]∧Own w D.heap.size 114 3 encG E G l∧Below D.heap.size D w) (fun (s:Nat×(List Gt))=>match s with|(k,l)=>c.gs.length-k) (0,[]) ?_ ?_
 ·exact ⟨none,0,o.sb,(Nat.zero_le _),rfl,(Nat.le_refl _),d,e,f,(Own.nil _ _ _ _ _),i⟩
 rintro ⟨k,l⟩ a w5 ⟨E,G,o,hk,hl,bJ,d,e,f,m,i⟩;refine wp_seq_k fun _ aM=>?_;refine Zs o fun _ aN=>?_;refine Zm rfl<|Ze (Xdt rfl rfl)<|Zt aN fun a o=>?_
 refine Xf o rfl (fun q=>?_) (fun q=>?_)
 ·have aA:=q;have q:=of_decide_eq_true q
  have b8:k<c.gs.length:=by have:=q;omega
  have bK:=Xoh (c.gs.getD (c.gs.length-1-k) gZ);refine wp_skip<|aM _ _<|wp_seq_k fun _ aO=>?_;refine wp_block<|Zs o fun _ aP=>?_;refine Ze (Vd rfl X0x 1)<|Ze (X0 rfl X2h (d.at 1))<|Zm rfl<|Zi (k:=(c.gs.length-1-k)) (u:=(c.gs.getD (c.gs.length-1-k) gZ)) (enc:=encG) (l:=c.gs) trivial rfl rfl X0y X1o X0w (J.below' i) (Xio (by omega)) (by omega) ?_;intro bL aB;refine Ze (X0b (l:=[vi ((c.gs.getD (c.gs.length-1-k) gZ).k),vi ((c.gs.getD (c.gs.length-1-k) gZ).a),vi ((c.gs.getD (c.gs.length-1-k) gZ).b)]) rfl X0n aB rfl)<|Zf (Vc (Xv2 _ (c.gs.getD (c.gs.length-1-k) gZ)) Xi9) ?_;rintro _ w6 ⟨rfl,t⟩;have d:=d.below t;have e:=e.below t;have f:=f.below t;have m:=m.below t;have i:=btr i t;refine Zm rfl<|Ze (X3 (vs:=[.agg #[vi ((bkG (c.gs.getD (c.gs.length-1-k) gZ)).k),vi ((bkG (c.gs.getD (c.gs.length-1-k) gZ)).a),vi ((bkG (c.gs.getD (c.gs.length-1-k) gZ)).b)],vi (bkN (c.gs.getD (c.gs.length-1-k) gZ))]) rfl rfl)<|Ze (Vx (X3 (vs:=[.agg #[vi ((bkG (c.gs.getD (c.gs.length-1-k) gZ)).k),vi ((bkG (c.gs.getD (c.gs.length-1-k) gZ)).a),vi ((bkG (c.gs.getD (c.gs.length-1-k) gZ)).b)],vi (bkN (c.gs.getD (c.gs.length-1-k) gZ))]) rfl rfl) (show _=(bkN (c.gs.getD (c.gs.length-1-k) gZ)-((0:Nat) : Int)) from (by omega)))<|Zf (X6 (zs:=[vi 0,vi 0,vi 0]) X6m rfl) ?_;rintro _ w7 ⟨W,rfl,L,t,g⟩;have aC:=Nat.le_trans i.size L;have aQ:=(J.below' i).away L;have y:=m.away L;have d:=d.below t;have e:=e.below t;have f:=f.below t;have m:=m.below t;have i:=btr i t;refine Zo (Vw [vi ((bkG (c.gs.getD (c.gs.length-1-k) gZ)).k),vi ((bkG (c.gs.getD (c.gs.length-1-k) gZ)).a),vi ((bkG (c.gs.getD (c.gs.length-1-k) gZ)).b)] X1o g) ?_;rintro _ w8 ⟨B,hb⟩
  have p:=g;have d:=d.only B (Blk.ne d p rfl);have e:=e.only B (Blk.ne e p rfl);have f:=f.only B (Blk.ne f p rfl);have m:=m.onlyA B y;have i:=Below.only i B aC;have g:=hb;refine Za rfl<|Zt aP fun a o=>?_;refine wp_block<|X05 (σ:=Nat×(List Gt)) (fun (s:Nat×(List Gt)) (a:Act) (w:World)=>match s with|(j,l2)=>∃ M a6,Fr a 38 [(1,.pointer (some ⟨b3,0,none⟩)),(2,.pointer (some ⟨b5,0,none⟩)),(3,.pointer (some ⟨b9,0,none⟩)),(4,vi ((c.gs.length:Int)-1-(k:Int))),(5,.pointer (some ⟨W,0,none⟩)),(6,vi (bkN (c.gs.getD (c.gs.length-1-k) gZ)-(j:Int)))]∧((j:Int)≤bkN (c.gs.getD (c.gs.length-1-k) gZ))∧(l2=l++List.replicate j (bkG (c.gs.getD (c.gs.length-1-k) gZ)))∧(l2.length=l.length+j)∧Blk w b3 48 [vi c.n,.slice Ac c.gs.length cc]∧Blk w b5 48 [vi 0,.slice none 0 0]∧Blk w b9 48 [vi c.n,.slice M l2.length a6]∧Blk w W 114 [vi ((bkG (c.gs.getD (c.gs.length-1-k) gZ)).k),vi ((bkG (c.gs.getD (c.gs.length-1-k) gZ)).a),vi ((bkG (c.gs.getD (c.gs.length-1-k) gZ)).b)]∧Own w D.heap.size 114 3 encG M a6 l2∧Away M W∧Below D.heap.size D w) (fun (s:Nat×(List Gt))=>match s with|(j,l2)=>(bkN (c.gs.getD (c.gs.length-1-k) gZ)).toNat-j) (0,l) ?_ ?_
  ·exact ⟨E,G,o.sb,(by omega),(by simp),rfl,d,e,f,g,m,y,i⟩
  rintro ⟨j,l2⟩ a w9 ⟨M,a6,o,hj,aR,bG,d,e,f,g,h,A,i⟩;refine wp_seq_k fun _ aS=>?_;refine Zs o fun _ aT=>?_;refine Zm rfl<|Ze (X4r rfl rfl)<|Zt aT fun a o=>?_
  refine Xf o rfl (fun x=>?_) (fun x=>?_)
  ·have aD:=x;have x:=of_decide_eq_true x;refine wp_skip<|aS _ _<|wp_seq_k fun _ aU=>?_;refine wp_block<|Zr o<|Ze (Vd rfl X0x 1)<|Ze (X0 rfl X2h (f.at 1))<|Ze (Vn X0n g)<|Zf (Xd (k:=1) (vs:=[.agg #[vi ((bkG (c.gs.getD (c.gs.length-1-k) gZ)).k),vi ((bkG (c.gs.getD (c.gs.length-1-k) gZ)).a),vi ((bkG (c.gs.getD (c.gs.length-1-k) gZ)).b)]]) (zs:=[vi ((bkG (c.gs.getD (c.gs.length-1-k) gZ)).k),vi ((bkG (c.gs.getD (c.gs.length-1-k) gZ)).a),vi ((bkG (c.gs.getD (c.gs.length-1-k) gZ)).b)]) rfl X0y X0o rfl rfl) ?_;rintro _ bN ⟨b26,rfl,N,t,Q⟩
   have aH:W≠b26:=by have:=g.lt;omega
   have bC:=Nat.le_trans i.size N;have aW:=(J.below' i).away N;have H:=h.away N;have d:=d.below t;have e:=e.below t;have f:=f.below t;have g:=g.below t;have h:=h.below t;have i:=btr i t;refine Zf (X11 (enc:=encG) (l:=(l2)) (l2:=([(bkG (c.gs.getD (c.gs.length-1-k) gZ))])) (B0:=D.heap.size) rfl rfl X0y X0o X0w X1l h (Rd.of_blk Q rfl _ Q.lt) (by simp only [maxLen];simp;omega) (by simp;omega) i.size) ?_;rintro _ bO ⟨aE,aF,rfl,U,hg,aG⟩
   have C:Own _ D.heap.size 114 3 encG _ _ (l2):=h
   have I:=aG _ g.lt A;have aI:=aG _ Q.lt H;clear aG;have d:=d.appT C hg rfl;have e:=e.appT C hg rfl;have f:=f.appT C hg rfl;have g:=g.appA hg A;have i:=Below.app i C hg (Nat.le_refl _) i.size;clear C hg;refine Ze (Vd rfl X0x 1)<|Zo (Vu (vs:=[.slice aE (l2++([(bkG (c.gs.getD (c.gs.length-1-k) gZ))])).length aF]) (l':=[vi c.n,.slice aE (l2++([(bkG (c.gs.getD (c.gs.length-1-k) gZ))])).length aF]) rfl rfl X6n f) ?_;rintro _ bP ⟨B,hb⟩;have p:=f;have d:=d.only B (by omega);have e:=e.only B (by omega);have g:=g.only B (Blk.ne g p rfl);have U:=U.onlyT B p rfl;have i:=Below.only i B a7;have f:=hb;refine Zn fun a o=>?_;refine Xb<|aU _ _<|Zr o<|Zm rfl<|Ze (Vx (X1m rfl rfl (by omega) (by omega)) (show _=(bkN (c.gs.getD (c.gs.length-1-k) gZ)-((j+1:Nat) : Int)) from (by omega)))<|Za rfl ?_;refine Zn fun a o=>?_;refine Xe ?_;exact ⟨(j+1,l2++([(bkG (c.gs.getD (c.gs.length-1-k) gZ))])),⟨aE,aF,o.sb,(by omega),(by rw [aR,Xgq,List.append_assoc]),(by simp;omega),d,e,f,g,U,I,i⟩,(by first|omega|(dsimp only;omega))⟩
  have aD:=x;have x:=of_decide_eq_false x
  have bD:bkN (c.gs.getD (c.gs.length-1-k) gZ)≤(j:Int):=by have:=x;omega
  refine wp_exit<|Xh<|Xh<|Xz ?_;refine Xb<|aO _ _<|Zr o<|Zm rfl<|Ze (Vx (X1m rfl rfl (by omega) (by omega)) (show _=((c.gs.length:Int)-1-((k+1:Nat) : Int)) from (by omega)))<|Za rfl ?_;refine Zn fun a o=>?_;refine Xe ?_;exact ⟨(k+1,l2),⟨M,a6,o.sb,(by omega),(by rw [Xgu b8,aR,← hl,show (bkN (c.gs.getD (c.gs.length-1-k) gZ)).toNat=j from by have:=bD;omega]),(by omega),d,e,f,h,i⟩,(by first|omega|(dsimp only;omega))⟩
 have aA:=q;have q:=of_decide_eq_false q
 have bE:k=c.gs.length:=by have:=q;omega
 have aX:l=invL c.gs:=by rw [hl,bE,← List.length_reverse,List.take_length];rfl
 refine wp_exit<|Xh<|Xh<|Xz ?_;refine aK _ _<|Zs o fun _ aY=>?_;refine Ze (Vn X0m f)<|Zo (Vw [vi c.n,.slice E l.length G] X1p e) ?_;rintro _ bR ⟨B,hb⟩;have p:=e;have m:=m.onlyT B p rfl;have i:=Below.only i B aJ;have e:=hb;refine Zt aY fun a o=>?_
 refine wp_ret (X4 o (X00 o rfl (ResV.cellN (l:=[vi c.n,.slice E l.length G]) rfl X0m (e.at 0) rfl)) ?_)
 have a8:=aX
 subst a8
 exact ⟨E,G,rfl,m,i⟩
theorem Y1o(w0:World)(c:Cx)(Ac:Option Addr)(cc:Nat)(h:Rd w0 w0.heap.size 114 encG Ac c.gs)(aP:c.gs.length≤2000000) : Ret Tryz.prog 49 [.agg #[vi c.n,.slice Ac c.gs.length cc]] w0 (fun v w=>∃ A c1,v=.tuple #[.agg #[vi ((invO c).getD cZ).n,.slice A ((invO c).getD cZ).gs.length c1],.bool (invO c).isSome]∧Own w w0.heap.size 114 3 encG A c1 ((invO c).getD cZ).gs∧Below w0.heap.size w0 w):=by
 refine enter Tryz.func49 rfl 17 rfl rfl ?_;intro a g
 have f:=bz w0
 refine Zs g fun _ aJ=>?_;refine Zf (X0v (zs:=[vi c.n,.slice Ac c.gs.length cc]) rfl rfl) ?_;rintro _ w1 ⟨b3,rfl,aK,o,i⟩;have aQ:=Nat.le_trans f.size aK;have f:=btr f o;refine Zf (X6 (zs:=[vi 0,.slice none 0 0]) X3o rfl) ?_;rintro _ w2 ⟨b5,rfl,aL,o,b⟩
 have aI:b3≠b5:=by have:=i.lt;omega
 have p:=Nat.le_trans f.size aL;have i:=i.below o;have f:=btr f o;refine Za rfl<|ZX aJ fun a g _ aM=>?_;refine Zs g fun _ aN=>?_;refine Ze (Vn X0m i)<|Zf (Vc (F53 _ c Ac cc (h.below' f).top) Xnl) ?_;rintro _ w3 ⟨rfl,o⟩;have i:=i.below o;have b:=b.below o;have f:=btr f o;refine Ze (X1a rfl)<|Zt aN fun a g=>?_
 refine Xf g rfl (fun q=>?_) (fun q=>?_)
 ·have a8:=q
  have t:cOk c=false:=by have:=q;simpa using this
  have j:invO c=none:=by unfold invO;rw [t];rfl
  refine Zs g fun _ aO=>?_;refine Ze (Xl (ps:=[]) (cs:=[vi 0,.slice none 0 0]) rfl (fun _=>by first|rfl|kernel_rfl))<|Zo (Vw [vi 0,.slice none 0 0] X1p b) ?_;rintro _ w4 ⟨u,hb⟩;have k:=b;have f:=Below.only f u p;have b:=hb;refine Za rfl<|Zt aO fun a g=>?_;refine wp_ret<|X5<|X4 g (X1e g rfl (ResV.cellN (l:=[vi 0,.slice none 0 0]) rfl X0m (b.at 0) rfl) rfl) ?_
  rw [j]
  exact ⟨none,0,rfl,(Own.nil _ _ _ _ _),f⟩
 have a8:=q
 have t:cOk c=true:=by have:=q;simpa using this
 refine wp_skip<|aM _ _<|Zs g fun _ aA=>?_;refine Ze (Vn X0m i)<|Zf (Vc (Y20 _ c Ac cc (h.below' f).top (by have:=X2o.1 t;omega)) Xqb) ?_;rintro _ w5 ⟨x,y,rfl,d,o⟩;have d:=d.lower f.size;have i:=i.below o;have b:=b.below o;have f:=btr f o;refine Zf (X6 (zs:=[vi 0,.slice none 0 0]) X3o rfl) ?_;rintro _ w6 ⟨b14,rfl,aB,o,m⟩
 have aC:b3≠b14:=by have:=i.lt;omega
 have aD:b5≠b14:=by have:=b.lt;omega
 have a6:=Nat.le_trans f.size aB;have b:=b.below o;have d:=d.below o;have f:=btr f o;refine Zo (Vw [vi c.n,.slice x (invL c.gs).length y] X1p m) ?_;rintro _ w7 ⟨u,hb⟩;have k:=m;have b:=b.only u (by omega);have d:=d.onlyT u k rfl;have f:=Below.only f u a6;have m:=hb;refine ZX aA fun a g _ aE=>?_;refine Zs g fun _ aF=>?_;refine Ze (Vd rfl X0x 1)<|Ze (X0 rfl X2h (m.at 1))<|Ze (X1i rfl X0y)<|Ze (X4r rfl rfl)<|Zt aF fun a g=>?_
 refine Xf g rfl (fun e=>?_) (fun e=>?_)
 ·have a7:=e;have e:=of_decide_eq_true e
  have j:invO c=none:=by unfold invO;rw [if_neg];have:=e;simp [t];omega
  refine Zs g fun _ aG=>?_;refine Ze (Xl (ps:=[]) (cs:=[vi 0,.slice none 0 0]) rfl (fun _=>by first|rfl|kernel_rfl))<|Zo (Vw [vi 0,.slice none 0 0] X1p b) ?_;rintro _ w8 ⟨u,hb⟩;have k:=b;have f:=Below.only f u p;have b:=hb;refine Za rfl<|Zt aG fun a g=>?_;refine wp_ret<|X5<|X4 g (X1e g rfl (ResV.cellN (l:=[vi 0,.slice none 0 0]) rfl X0m (b.at 0) rfl) rfl) ?_
  rw [j]
  exact ⟨none,0,rfl,(Own.nil _ _ _ _ _),f⟩
 have a7:=e;have e:=of_decide_eq_false e
 have j:invO c=some ⟨c.n,invL c.gs⟩:=by unfold invO;rw [if_pos];have:=e;simp [t];omega
 refine wp_skip<|aE _ _<|Zs g fun _ aH=>?_;refine Ze (Vn X0m m)<|Zo (Vw [vi c.n,.slice x (invL c.gs).length y] X1p b) ?_;rintro _ w9 ⟨u,hb⟩;have k:=b;have d:=d.onlyT u k rfl;have f:=Below.only f u p;have b:=hb;refine Za rfl<|Zt aH fun a g=>?_
 refine wp_ret (X4 g (X1e g rfl (ResV.cellN (l:=[vi c.n,.slice x (invL c.gs).length y]) rfl X0m (b.at 0) rfl) rfl) ?_)
 rw [j]
 exact ⟨x,y,rfl,d,f⟩
theorem Y0o(D:World)(p:Cx)(Ap:Option Addr)(cp:Nat)(J:Rd D D.heap.size 114 encG Ap p.gs)(q:Cx)(Aq:Option Addr)(cq:Nat)(L:Rd D D.heap.size 114 encG Aq q.gs)(aU:p.gs.length≤2000000)(aW:q.gs.length≤2000000) : Ret Tryz.prog 34 [.agg #[vi p.n,.slice Ap p.gs.length cp],.agg #[vi q.n,.slice Aq q.gs.length cq]] D (fun v w=>∃ A c1,v=.tuple #[.agg #[vi ((conO p q).getD cZ).n,.slice A ((conO p q).getD cZ).gs.length c1],.bool (conO p q).isSome]∧Own w D.heap.size 114 3 encG A c1 ((conO p q).getD cZ).gs∧Below D.heap.size D w):=by
 refine enter Tryz.func34 rfl 42 rfl rfl ?_;intro a o
 have g:=bz D
 refine Zs o fun _ aJ=>?_;refine Zf (X0v (zs:=[vi p.n,.slice Ap p.gs.length cp]) rfl rfl) ?_;rintro _ w1 ⟨b4,rfl,aK,j,i⟩;have aS:=Nat.le_trans g.size aK;have g:=btr g j;refine Zf (X0v (zs:=[vi q.n,.slice Aq q.gs.length cq]) rfl rfl) ?_;rintro _ w2 ⟨b5,rfl,aL,j,f⟩
 have aG:b4≠b5:=by have:=i.lt;omega
 have aT:=Nat.le_trans g.size aL;have i:=i.below j;have g:=btr g j;refine Zf (X6 (zs:=[vi 0,.slice none 0 0]) X3o rfl) ?_;rintro _ w3 ⟨b7,rfl,aM,j,e⟩
 have aH:b4≠b7:=by have:=i.lt;omega
 have aI:b5≠b7:=by have:=f.lt;omega
 have M:=Nat.le_trans g.size aM;have i:=i.below j;have f:=f.below j;have g:=btr g j;refine Za rfl<|ZX aJ fun a o _ aN=>?_;refine wp_seq_k fun _ aO=>?_;refine X09 (fun a w=>Fr a 42 [(2,.pointer (some ⟨b4,0,none⟩)),(3,.pointer (some ⟨b5,0,none⟩)),(4,.pointer (some ⟨b7,0,none⟩)),(31,.bool ((((!(cOk p))||(!(cOk q)))||(p.n != q.n))||(decide (400<((p.gs.length:Int)+(q.gs.length:Int))))))]∧Below w3.heap.size w3 w) ?_ ?_
 ·have u:Below w3.heap.size w3 w3:=Below.refl _ _
  refine Zr o<|Ze (Vn X0m i)<|Zf (Vc (F53 _ p Ap cp (J.below' g).top) Xnl) ?_;rintro _ w4 ⟨rfl,j⟩;have i:=i.below j;have f:=f.below j;have g:=btr g j;have u:=btr u j;refine Ze (X1a rfl)<|Zm rfl ?_
  refine Zg 10 rfl (fun d=>?_) (fun d=>?_)
  ·refine Zp (gP d) ?_;refine Zp (gP d) ?_;refine Zp (gP d) ?_;refine Ze (X9 rfl d rfl)<|Zm rfl<|Zp (gP rfl) ?_;refine Zp (gP rfl) ?_;refine Zp (gP rfl) ?_;refine Zp (gP rfl) ?_;refine Zp (gP rfl) ?_;refine Ze (X9 rfl rfl rfl)<|Zm rfl<|Zp (gP rfl) ?_;refine Zp (gP rfl) ?_;refine Zp (gP rfl) ?_;refine Zp (gP rfl) ?_;refine Zp (gP rfl) ?_;refine Zp (gP rfl) ?_;refine Zp (gP rfl) ?_;refine Zp (gP rfl) ?_;refine Ze (X9 rfl rfl rfl) ?_;refine Zn fun a o=>?_
   have h:Below w3.heap.size w3 w4:=u
   exact ⟨o.sub ⟨rfl,rfl,rfl,X1 rfl (by first|rfl|(simp only [d,bs];done)|simp [d]),trivial⟩,h⟩
  refine Zv (gW d) (Vn X0m f) ?_;refine Zk (gW d) (Vc (F53 _ q Aq cq (L.below' g).top) Xnl) ?_;rintro _ w5 ⟨rfl,j⟩;have i:=i.below j;have f:=f.below j;have g:=btr g j;have u:=btr u j;refine Zv (gW d) (X1a rfl) ?_;refine Ze (Xc rfl d rfl)<|Zm rfl ?_
  refine Zg 15 rfl (fun c=>?_) (fun c=>?_)
  ·refine Zp (gP c) ?_;refine Zp (gP c) ?_;refine Zp (gP c) ?_;refine Zp (gP c) ?_;refine Zp (gP c) ?_;refine Ze (X9 rfl c rfl)<|Zm rfl<|Zp (gP rfl) ?_;refine Zp (gP rfl) ?_;refine Zp (gP rfl) ?_;refine Zp (gP rfl) ?_;refine Zp (gP rfl) ?_;refine Zp (gP rfl) ?_;refine Zp (gP rfl) ?_;refine Zp (gP rfl) ?_;refine Ze (X9 rfl rfl rfl) ?_;refine Zn fun a o=>?_
   have h:Below w3.heap.size w3 w5:=u
   exact ⟨o.sub ⟨rfl,rfl,rfl,X1 rfl (by first|rfl|(simp only [d,c,bs];done)|simp [d,c]),trivial⟩,h⟩
  refine Zv (gW c) (Vd rfl X1z 0) ?_;refine Zv (gW c) (X0 rfl X2 (i.at 0)) ?_;refine Zv (gW c) (Vd rfl X1z 0) ?_;refine Zv (gW c) (X0 rfl X2 (f.at 0)) ?_;refine Zv (gW c) (X4m rfl rfl) ?_;refine Ze (Xc rfl c rfl)<|Zm rfl ?_
  refine Zg 22 rfl (fun b=>?_) (fun b=>?_)
  ·refine Zp (gP b) ?_;refine Zp (gP b) ?_;refine Zp (gP b) ?_;refine Zp (gP b) ?_;refine Zp (gP b) ?_;refine Zp (gP b) ?_;refine Zp (gP b) ?_;refine Zp (gP b) ?_;refine Ze (X9 rfl b rfl) ?_;refine Zn fun a o=>?_
   have h:Below w3.heap.size w3 w5:=u
   exact ⟨o.sub ⟨rfl,rfl,rfl,X1 rfl (by first|rfl|(simp only [d,c,b,bs];done)|simp [d,c,b]),trivial⟩,h⟩
  refine Zv (gW b) (Vd rfl X0x 1) ?_;refine Zv (gW b) (X0 rfl X2h (i.at 1)) ?_;refine Zv (gW b) (X1i rfl X0y) ?_;refine Zv (gW b) (Vd rfl X0x 1) ?_;refine Zv (gW b) (X0 rfl X2h (f.at 1)) ?_;refine Zv (gW b) (X1i rfl X0y) ?_;refine Zv (gW b) (Xw rfl rfl (by omega) (by omega)) ?_;refine Zv (gW b) (X4r rfl rfl) ?_;refine Ze (Xc rfl b rfl) ?_;refine Zn fun a o=>?_
  have h:Below w3.heap.size w3 w5:=u
  exact ⟨o.sub ⟨rfl,rfl,rfl,X1 rfl (by first|rfl|(simp only [d,c,b,bs];done)|simp [d,c,b]),trivial⟩,h⟩
 rintro a w6 ⟨o,j⟩;have i:=i.below j;have f:=f.below j;have e:=e.below j;have g:=btr g j;refine aO _ _ ?_
 refine Xf o rfl (fun x=>?_) (fun x=>?_)
 ·have a6:=x
  have E:conO p q=none:=by unfold conO;have h7:=x;rw [if_neg];revert h7;cases cOk p<;>cases cOk q<;>simp<;>omega
  refine Zs o fun _ a7=>?_;refine Ze (Xl (ps:=[]) (cs:=[vi 0,.slice none 0 0]) rfl (fun _=>by first|rfl|kernel_rfl))<|Zo (Vw [vi 0,.slice none 0 0] X1p e) ?_;rintro _ w7 ⟨C,hb⟩;have t:=e;have g:=Below.only g C M;have e:=hb;refine Za rfl<|Zt a7 fun a o=>?_;refine wp_ret<|X5<|X4 o (X1e o rfl (ResV.cellN (l:=[vi 0,.slice none 0 0]) rfl X0m (e.at 0) rfl) rfl) ?_
  rw [E]
  exact ⟨none,0,rfl,(Own.nil _ _ _ _ _),g⟩
 have a6:=x
 have E:conO p q=some ⟨p.n,p.gs++q.gs⟩:=by unfold conO;have h7:=x;rw [if_pos];revert h7;cases cOk p<;>cases cOk q<;>simp<;>omega
 refine wp_skip<|aN _ _<|Zs o fun _ a8=>?_;refine Ze (Vn X0m i)<|Zf (Vc (Xur _ p Ap cp (J.below' g).top (by omega)) Xji) ?_;rintro _ w8 ⟨aP,aQ,rfl,m,j⟩;have m:=m.lower g.size;have i:=i.below j;have f:=f.below j;have e:=e.below j;have g:=btr g j;refine Zf (X6 (zs:=[vi 0,.slice none 0 0]) X3o rfl) ?_;rintro _ w9 ⟨b19,rfl,aA,j,k⟩
 have aB:b4≠b19:=by have:=i.lt;omega
 have aC:b5≠b19:=by have:=f.lt;omega
 have aD:b7≠b19:=by have:=e.lt;omega
 have G:=Nat.le_trans g.size aA;have f:=f.below j;have e:=e.below j;have m:=m.below j;have g:=btr g j;refine Zo (Vw [vi p.n,.slice aP p.gs.length aQ] X1p k) ?_;rintro _ aX ⟨C,hb⟩;have t:=k;have f:=f.only C (by omega);have e:=e.only C (by omega);have m:=m.onlyT C t rfl;have g:=Below.only g C G;have k:=hb;refine Zx a8 fun a o _ aE=>?_;refine Ze (Vd rfl X0x 1)<|Ze (X0 rfl X2h (k.at 1))<|Ze (Vd rfl X0x 1)<|Ze (X0 rfl X2h (f.at 1))<|Zf (X11 (enc:=encG) (l:=(p.gs)) (l2:=(q.gs)) (B0:=D.heap.size) rfl rfl X0y X0o X0w X1l m (L.below' g) (by simp only [maxLen];omega) (by omega) g.size) ?_;rintro _ aY ⟨H,I,rfl,y,hg,aR⟩
 have B:Own _ D.heap.size 114 3 encG _ _ (p.gs):=m
 clear aR;have e:=e.appT B hg rfl;have k:=k.appT B hg rfl;have g:=Below.app g B hg (Nat.le_refl _) g.size;clear B hg;refine Ze (Vd rfl X0x 1)<|Zo (Vu (vs:=[.slice H (p.gs++q.gs).length I]) (l':=[vi p.n,.slice H (p.gs++q.gs).length I]) rfl rfl X6n k) ?_;rintro _ aZ ⟨C,hb⟩;have t:=k;have e:=e.only C (by omega);have y:=y.onlyT C t rfl;have g:=Below.only g C G;have k:=hb;refine Zx aE fun a o _ aF=>?_;refine Ze (Vn X0m k)<|Zo (Vw [vi p.n,.slice H (p.gs++q.gs).length I] X1p e) ?_;rintro _ b0 ⟨C,hb⟩;have t:=e;have y:=y.onlyT C t rfl;have g:=Below.only g C M;have e:=hb;refine Za rfl<|Zt aF fun a o=>?_
 refine wp_ret (X4 o (X1e o rfl (ResV.cellN (l:=[vi p.n,.slice H (p.gs++q.gs).length I]) rfl X0m (e.at 0) rfl) rfl) ?_)
 rw [E]
 exact ⟨H,I,rfl,y,g⟩
theorem Y0g(w0:World)(p:Cx)(Ap:Option Addr)(cp:Nat)(aH:Rd w0 w0.heap.size 114 encG Ap p.gs)(q:Cx)(Aq:Option Addr)(cq:Nat)(aI:Rd w0 w0.heap.size 114 encG Aq q.gs)(bG:p.gs.length≤2000000)(bH:q.gs.length≤2000000) : Ret Tryz.prog 17 [.agg #[vi p.n,.slice Ap p.gs.length cp],.agg #[vi q.n,.slice Aq q.gs.length cq]] w0 (fun v w=>v=.tuple #[vi ((veM p q).1),vi ((veM p q).2.1),.bool ((veM p q).2.2)]∧Below w0.heap.size w0 w):=by
 refine enter Tryz.func17 rfl 51 rfl rfl ?_;intro a c
 have e:=bz w0
 refine Zs c fun _ bJ=>?_;refine Zf (X0v (zs:=[vi p.n,.slice Ap p.gs.length cp]) rfl rfl) ?_;rintro _ w1 ⟨b4,rfl,bK,g,i⟩;have bR:=Nat.le_trans e.size bK;have e:=btr e g;refine Zf (X0v (zs:=[vi q.n,.slice Aq q.gs.length cq]) rfl rfl) ?_;rintro _ w2 ⟨b5,rfl,bL,g,I⟩
 have bD:b4≠b5:=by have:=i.lt;omega
 have bS:=Nat.le_trans e.size bL;have i:=i.below g;have e:=btr e g;refine Za rfl<|Za rfl<|Za rfl<|Zx bJ fun a c _ bN=>?_;refine Ze (Vn X0m I)<|Zf (Vc (Y1o _ q Aq cq (aI.below' e).top bH) Xt2) ?_;rintro _ w3 ⟨A7,c7,rfl,A,g⟩;have A:=A.lower e.size;have i:=i.below g;have I:=I.below g;have e:=btr e g;refine Zm rfl<|Ze (X3 (vs:=[.agg #[vi (((invO q).getD cZ).n),.slice A7 (((invO q).getD cZ).gs).length c7],.bool ((invO q).isSome)]) rfl rfl)<|Ze (X3 (vs:=[.agg #[vi (((invO q).getD cZ).n),.slice A7 (((invO q).getD cZ).gs).length c7],.bool ((invO q).isSome)]) rfl rfl)<|Zf (X6 (zs:=[vi 0,.slice none 0 0]) X3o rfl) ?_;rintro _ w4 ⟨b9,rfl,bO,g,B⟩
 have bE:b4≠b9:=by have:=i.lt;omega
 have bF:b5≠b9:=by have:=I.lt;omega
 have aJ:=Nat.le_trans e.size bO;have i:=i.below g;have A:=A.below g;have e:=btr e g;refine Zo (Vw [vi (((invO q).getD cZ).n),.slice A7 (((invO q).getD cZ).gs).length c7] X1p B) ?_;rintro _ w5 ⟨C,hb⟩;have j:=B;have i:=i.only C (by omega);have A:=A.onlyT C j rfl;have e:=Below.only e C aJ;have B:=hb;refine Za rfl<|Zx bN fun a c _ aK=>?_;refine Ze (Vn X0m i)<|Ze (Vn X0m B)<|Zf (Vc (Y0o _ p Ap cp (aH.below' e).top ((invO q).getD cZ) A7 c7 A.rd.top bG (Xjh q)) Xts) ?_;rintro _ w6 ⟨J,L,rfl,l,g⟩;have l:=l.lower e.size;have i:=i.below g;have B:=B.below g;have e:=btr e g;refine Zm rfl<|Ze (X3 (vs:=[.agg #[vi (((conO p ((invO q).getD cZ)).getD cZ).n),.slice J (((conO p ((invO q).getD cZ)).getD cZ).gs).length L],.bool ((conO p ((invO q).getD cZ)).isSome)]) rfl rfl)<|Ze (X3 (vs:=[.agg #[vi (((conO p ((invO q).getD cZ)).getD cZ).n),.slice J (((conO p ((invO q).getD cZ)).getD cZ).gs).length L],.bool ((conO p ((invO q).getD cZ)).isSome)]) rfl rfl)<|Zf (X6 (zs:=[vi 0,.slice none 0 0]) X3o rfl) ?_;rintro _ w7 ⟨b13,rfl,aL,g,D⟩
 have aM:b4≠b13:=by have:=i.lt;omega
 have aN:b9≠b13:=by have:=B.lt;omega
 have aB:=Nat.le_trans e.size aL;have l:=l.below g;have e:=btr e g;refine Zo (Vw [vi (((conO p ((invO q).getD cZ)).getD cZ).n),.slice J (((conO p ((invO q).getD cZ)).getD cZ).gs).length L] X1p D) ?_;rintro _ w8 ⟨C,hb⟩;have j:=D;have l:=l.onlyT C j rfl;have e:=Below.only e C aB;have D:=hb;refine Za rfl<|ZX aK fun a c _ aO=>?_;refine wp_seq_k fun _ aP=>?_;refine X09 (fun a w=>Fr a 51 [(9,.pointer (some ⟨b13,0,none⟩)),(29,.bool ((!((invO q).isSome))||(!((conO p ((invO q).getD cZ)).isSome))))]∧w8=w) ?_ ?_
 ·refine Zr c<|Zm rfl<|Ze (X1a rfl)<|Zm rfl ?_
  refine Zg 26 rfl (fun f=>?_) (fun f=>?_)
  ·refine Zp (gP f) ?_;refine Zp (gP f) ?_;refine Ze (X9 rfl f rfl) ?_;refine Zn fun a c=>?_;exact ⟨c.sub ⟨rfl,X1 rfl (by first|rfl|(simp only [f,bs];done)|simp [f]),trivial⟩,rfl⟩
  refine Zv (gW f) (X8 rfl) ?_;refine Zv (gW f) (X1a rfl) ?_;refine Ze (Xc rfl f rfl) ?_;refine Zn fun a c=>?_;exact ⟨c.sub ⟨rfl,X1 rfl (by first|rfl|(simp only [f,bs];done)|simp [f]),trivial⟩,rfl⟩
 rintro a _ ⟨c,rfl⟩;refine aP _ _ ?_
 refine Xf c rfl (fun m=>?_) (fun m=>?_)
 ·have aC:=m;have k:=Xtn m;refine Zs c fun _ aQ=>?_;refine Za rfl<|Za rfl<|Za rfl<|Zt aQ fun a c=>?_;refine wp_ret<|X5<|X4 c (X2z c rfl rfl rfl rfl) ?_
  rw [k]
  exact ⟨rfl,e⟩
 have aC:=m;obtain ⟨aA,aR⟩:=Xqe m;refine wp_skip<|aO _ _<|Zs c fun _ aS=>?_;refine Ze (Vn X0m D)<|Zf (Vc (Y1a _ ((conO p ((invO q).getD cZ)).getD cZ) J L l.rd.top aA) Xt7) ?_;rintro _ w9 ⟨M,N,Q,U,rfl,t,u,g⟩;have e:=btr e g;refine Zm rfl<|Ze (X3 (vs:=[.agg #[vi (((psC ((conO p ((invO q).getD cZ)).getD cZ)).getD psZ).ins),vi (((psC ((conO p ((invO q).getD cZ)).getD cZ)).getD psZ).vars),vi (((psC ((conO p ((invO q).getD cZ)).getD cZ)).getD psZ).root),vi (((psC ((conO p ((invO q).getD cZ)).getD cZ)).getD psZ).phase),.slice M (((psC ((conO p ((invO q).getD cZ)).getD cZ)).getD psZ).ts).length N,.slice Q (((psC ((conO p ((invO q).getD cZ)).getD cZ)).getD psZ).out).length U],.bool ((psC ((conO p ((invO q).getD cZ)).getD cZ)).isSome)]) rfl rfl)<|Ze (X3 (vs:=[.agg #[vi (((psC ((conO p ((invO q).getD cZ)).getD cZ)).getD psZ).ins),vi (((psC ((conO p ((invO q).getD cZ)).getD cZ)).getD psZ).vars),vi (((psC ((conO p ((invO q).getD cZ)).getD cZ)).getD psZ).root),vi (((psC ((conO p ((invO q).getD cZ)).getD cZ)).getD psZ).phase),.slice M (((psC ((conO p ((invO q).getD cZ)).getD cZ)).getD psZ).ts).length N,.slice Q (((psC ((conO p ((invO q).getD cZ)).getD cZ)).getD psZ).out).length U],.bool ((psC ((conO p ((invO q).getD cZ)).getD cZ)).isSome)]) rfl rfl)<|Zf (X6 (zs:=[vi 0,vi 0,vi 0,vi 0,.slice none 0 0,.slice none 0 0]) X1y rfl) ?_;rintro _ bU ⟨bW,rfl,aT,g,b⟩;have E:=Nat.le_trans e.size aT;have t:=t.below g;have u:=u.below g;have e:=btr e g;refine Zo (Vw [vi (((psC ((conO p ((invO q).getD cZ)).getD cZ)).getD psZ).ins),vi (((psC ((conO p ((invO q).getD cZ)).getD cZ)).getD psZ).vars),vi (((psC ((conO p ((invO q).getD cZ)).getD cZ)).getD psZ).root),vi (((psC ((conO p ((invO q).getD cZ)).getD cZ)).getD psZ).phase),.slice M (((psC ((conO p ((invO q).getD cZ)).getD cZ)).getD psZ).ts).length N,.slice Q (((psC ((conO p ((invO q).getD cZ)).getD cZ)).getD psZ).out).length U] X0c b) ?_;rintro _ bX ⟨C,hb⟩
 have j:=b;have t:=t.onlyT C j rfl;have u:=u.onlyT C j rfl;have e:=Below.only e C E;have b:=hb;refine Za rfl<|ZX aS fun a c _ aU=>?_;refine Zs c fun _ aW=>?_;refine Zm rfl<|Ze (X1a rfl)<|Zt aW fun a c=>?_
 refine Xf c rfl (fun x=>?_) (fun x=>?_)
 ·have aD:=x
  have k:veM p q=(0,0,false):=aR.trans (Xp3 (by have h7:=x;simpa using h7))
  refine Zs c fun _ aX=>?_;refine Za rfl<|Za rfl<|Za rfl<|Zt aX fun a c=>?_;refine wp_ret<|X5<|X4 c (X2z c rfl rfl rfl rfl) ?_
  rw [k]
  exact ⟨rfl,e⟩
 have aD:=x
 have aY:=X5s (d:=psZ) (o:=psC ((conO p ((invO q).getD cZ)).getD cZ)) (by have h7:=x;simpa using h7)
 have aZ:=X4j aA aY;have bP:=X3w aZ
 have aE:veM p q=veP ((psC ((conO p ((invO q).getD cZ)).getD cZ)).getD psZ):=aR.trans (Xnf aY)
 refine wp_skip<|aU _ _<|Zs c fun _ b0=>?_;refine Ze (Vn Xm b)<|Zf (Vc (Y0x _ ((psC ((conO p ((invO q).getD cZ)).getD cZ)).getD psZ) M N t.top Q U u.top aZ) Xqv) ?_;rintro _ bY ⟨W,a6,a7,a8,rfl,G,H,g⟩;have b:=b.below g;have e:=btr e g;refine Zm rfl<|Ze (X3 (vs:=[.agg #[vi (((redP ((psC ((conO p ((invO q).getD cZ)).getD cZ)).getD psZ)).1).ins),vi (((redP ((psC ((conO p ((invO q).getD cZ)).getD cZ)).getD psZ)).1).vars),vi (((redP ((psC ((conO p ((invO q).getD cZ)).getD cZ)).getD psZ)).1).root),vi (((redP ((psC ((conO p ((invO q).getD cZ)).getD cZ)).getD psZ)).1).phase),.slice W (((redP ((psC ((conO p ((invO q).getD cZ)).getD cZ)).getD psZ)).1).ts).length a6,.slice a7 (((redP ((psC ((conO p ((invO q).getD cZ)).getD cZ)).getD psZ)).1).out).length a8],vi (((redP ((psC ((conO p ((invO q).getD cZ)).getD cZ)).getD psZ)).2:Nat) : Int)]) rfl rfl)<|Ze (X3 (vs:=[.agg #[vi (((redP ((psC ((conO p ((invO q).getD cZ)).getD cZ)).getD psZ)).1).ins),vi (((redP ((psC ((conO p ((invO q).getD cZ)).getD cZ)).getD psZ)).1).vars),vi (((redP ((psC ((conO p ((invO q).getD cZ)).getD cZ)).getD psZ)).1).root),vi (((redP ((psC ((conO p ((invO q).getD cZ)).getD cZ)).getD psZ)).1).phase),.slice W (((redP ((psC ((conO p ((invO q).getD cZ)).getD cZ)).getD psZ)).1).ts).length a6,.slice a7 (((redP ((psC ((conO p ((invO q).getD cZ)).getD cZ)).getD psZ)).1).out).length a8],vi (((redP ((psC ((conO p ((invO q).getD cZ)).getD cZ)).getD psZ)).2:Nat) : Int)]) rfl rfl)<|Zo (Vw [vi (((redP ((psC ((conO p ((invO q).getD cZ)).getD cZ)).getD psZ)).1).ins),vi (((redP ((psC ((conO p ((invO q).getD cZ)).getD cZ)).getD psZ)).1).vars),vi (((redP ((psC ((conO p ((invO q).getD cZ)).getD cZ)).getD psZ)).1).root),vi (((redP ((psC ((conO p ((invO q).getD cZ)).getD cZ)).getD psZ)).1).phase),.slice W (((redP ((psC ((conO p ((invO q).getD cZ)).getD cZ)).getD psZ)).1).ts).length a6,.slice a7 (((redP ((psC ((conO p ((invO q).getD cZ)).getD cZ)).getD psZ)).1).out).length a8] X0c b) ?_;rintro _ bZ ⟨C,hb⟩
 have j:=b;have G:=G.onlyT C j rfl;have H:=H.onlyT C j rfl;have e:=Below.only e C E;have b:=hb;refine ZX b0 fun a c _ b1=>?_;refine wp_block<|Zs c fun _ b2=>?_;refine Ze (Vn Xm b)<|Zf (Vc (Y12 _ ((redP ((psC ((conO p ((invO q).getD cZ)).getD cZ)).getD psZ)).1) W a6 G.top a7 a8 H.top bP) Xsr) ?_;rintro _ c4 ⟨rfl,g⟩;have b:=b.below g;have e:=btr e g;refine Za rfl<|Zt b2 fun a c=>?_
 refine Xf c rfl (fun y=>?_) (fun y=>?_)
 ·have aF:=y;have k:=aE.trans (ve1 y);refine wp_seq_k fun _ b3=>?_;refine Xs none (fun _=>false) mixed ?_;intro cA g;have b:=b.below g;have e:=btr e g;refine Yb c<|Yo 0 rfl (fun _=>Vd rfl X1j 3)<|Ye 1 rfl (X0 rfl X2 (b.at 3))<|Yo 2 rfl (fun _=>X1w rfl)<|Yo 3 rfl (fun _=>X1w rfl)<|Yo 4 rfl (fun _=>X1w rfl) ?_;refine Yd fun a c=>?_;refine b3 _ _<|wp_ret<|Xi<|X5 ?_;refine X4 c (X2z c rfl rfl rfl rfl) ?_
  rw [k]
  exact ⟨rfl,e⟩
 have aF:=y;have b6:=y;refine Zs c fun _ b7=>?_;refine Ze (Vd rfl X1g 1)<|Ze (X0 rfl X2 (b.at 1))<|Ze (X0d rfl rfl)<|Za rfl<|Zt b7 fun a c=>?_
 refine Xf c rfl (fun h=>?_) (fun h=>?_)
 ·have aG:=h
  have k:=aE.trans (ve2 b6 (by have h7:=h;simpa using h7))
  refine Zs c fun _ b8=>?_;refine Za rfl<|Za rfl<|Za rfl<|Zt b8 fun a c=>?_;refine wp_ret<|Xi<|X5<|X4 c (X2z c rfl rfl rfl rfl) ?_
  rw [k]
  exact ⟨rfl,e⟩
 have aG:=h
 have k:=aE.trans (ve3 b6 (by have h7:=h;simpa using h7))
 refine wp_skip<|Xb<|b1 _ _<|Zs c fun _ bC=>?_;refine Za rfl<|Za rfl<|Za rfl<|Zt bC fun a c=>?_
 refine wp_ret (X4 c (X2z c rfl rfl rfl rfl) ?_)
 rw [k]
 exact ⟨rfl,e⟩
theorem Y1n(H:World)(p:Cx)(Ap:Option Addr)(cp:Nat)(aG:Rd H H.heap.size 114 encG Ap p.gs)(q:Cx)(Aq:Option Addr)(cq:Nat)(aH:Rd H H.heap.size 114 encG Aq q.gs)(b3:p.gs.length≤2000000)(b6:q.gs.length≤2000000)(aI:TabAt H)(b7:1<H.heap.size) : Ret Tryz.prog 19 [.agg #[vi p.n,.slice Ap p.gs.length cp],.agg #[vi q.n,.slice Aq q.gs.length cq]] H (fun v w=>v=.tuple #[vi ((veM p q).1),vi ((veM p q).2.1),.bool ((veM p q).2.2)]∧Below H.heap.size H w):=by
 refine enter Tryz.func19 rfl 53 rfl rfl ?_;intro a c
 have b:=bz H
 refine Zs c fun _ b8=>?_;refine Zf (X0v (zs:=[vi p.n,.slice Ap p.gs.length cp]) rfl rfl) ?_;rintro _ w1 ⟨b4,rfl,bC,e,y⟩;have bH:=Nat.le_trans b.size bC;have b:=btr b e;refine Zf (X0v (zs:=[vi q.n,.slice Aq q.gs.length cq]) rfl rfl) ?_;rintro _ w2 ⟨b5,rfl,bD,e,J⟩
 have b0:b4≠b5:=by have:=y.lt;omega
 have bJ:=Nat.le_trans b.size bD;have y:=y.below e;have b:=btr b e;refine Za rfl<|Za rfl<|Za rfl<|Zx b8 fun a c _ bE=>?_;refine Ze (Vn X0m y)<|Ze (Vn X0m J)<|Zf (Vc (Y0v _ p Ap cp (aG.below' b).top q Aq cq (aH.below' b).top b3 b6) Xrv) ?_;rintro _ w3 ⟨A7,c7,rfl,h,e⟩;have h:=h.lower b.size;have y:=y.below e;have J:=J.below e;have b:=btr b e;refine Zm rfl<|Ze (X3 (vs:=[.agg #[vi (((((invO q).bind (conO p))).getD cZ).n),.slice A7 (((((invO q).bind (conO p))).getD cZ).gs).length c7],.bool ((((invO q).bind (conO p))).isSome)]) rfl rfl)<|Ze (X3 (vs:=[.agg #[vi (((((invO q).bind (conO p))).getD cZ).n),.slice A7 (((((invO q).bind (conO p))).getD cZ).gs).length c7],.bool ((((invO q).bind (conO p))).isSome)]) rfl rfl)<|Zf (X6 (zs:=[vi 0,.slice none 0 0]) X3o rfl) ?_;rintro _ w4 ⟨b9,rfl,bF,e,L⟩
 have b1:b4≠b9:=by have:=y.lt;omega
 have b2:b5≠b9:=by have:=J.lt;omega
 have aJ:=Nat.le_trans b.size bF;have h:=h.below e;have b:=btr b e;refine Zo (Vw [vi (((((invO q).bind (conO p))).getD cZ).n),.slice A7 (((((invO q).bind (conO p))).getD cZ).gs).length c7] X1p L) ?_;rintro _ w5 ⟨I,hb⟩;have g:=L;have h:=h.onlyT I g rfl;have b:=Below.only b I aJ;have L:=hb;refine Za rfl<|Zx bE fun a c _ aK=>?_;refine Ze (Vn X0m L)<|Zf (Vc (Xzl _ ((((invO q).bind (conO p))).getD cZ) A7 c7 h.rd.top (Nat.le_trans (Xrq p q) (by decide))) Xsf) ?_;rintro _ w6 ⟨M,N,Q,U,rfl,l,m,e⟩;have b:=btr b e;refine Zm rfl<|Ze (X3 (vs:=[.agg #[vi (((psO ((((invO q).bind (conO p))).getD cZ)).getD psZ).ins),vi (((psO ((((invO q).bind (conO p))).getD cZ)).getD psZ).vars),vi (((psO ((((invO q).bind (conO p))).getD cZ)).getD psZ).root),vi (((psO ((((invO q).bind (conO p))).getD cZ)).getD psZ).phase),.slice M (((psO ((((invO q).bind (conO p))).getD cZ)).getD psZ).ts).length N,.slice Q (((psO ((((invO q).bind (conO p))).getD cZ)).getD psZ).out).length U],.bool ((psO ((((invO q).bind (conO p))).getD cZ)).isSome)]) rfl rfl)<|Ze (X3 (vs:=[.agg #[vi (((psO ((((invO q).bind (conO p))).getD cZ)).getD psZ).ins),vi (((psO ((((invO q).bind (conO p))).getD cZ)).getD psZ).vars),vi (((psO ((((invO q).bind (conO p))).getD cZ)).getD psZ).root),vi (((psO ((((invO q).bind (conO p))).getD cZ)).getD psZ).phase),.slice M (((psO ((((invO q).bind (conO p))).getD cZ)).getD psZ).ts).length N,.slice Q (((psO ((((invO q).bind (conO p))).getD cZ)).getD psZ).out).length U],.bool ((psO ((((invO q).bind (conO p))).getD cZ)).isSome)]) rfl rfl)<|Zf (X6 (zs:=[vi 0,vi 0,vi 0,vi 0,.slice none 0 0,.slice none 0 0]) X1y rfl) ?_;rintro _ w7 ⟨aL,rfl,aM,e,i⟩;have a6:=Nat.le_trans b.size aM;have l:=l.below e;have m:=m.below e;have b:=btr b e
 refine Zo (Vw [vi (((psO ((((invO q).bind (conO p))).getD cZ)).getD psZ).ins),vi (((psO ((((invO q).bind (conO p))).getD cZ)).getD psZ).vars),vi (((psO ((((invO q).bind (conO p))).getD cZ)).getD psZ).root),vi (((psO ((((invO q).bind (conO p))).getD cZ)).getD psZ).phase),.slice M (((psO ((((invO q).bind (conO p))).getD cZ)).getD psZ).ts).length N,.slice Q (((psO ((((invO q).bind (conO p))).getD cZ)).getD psZ).out).length U] X0c i) ?_;rintro _ w8 ⟨I,hb⟩;have g:=i;have l:=l.onlyT I g rfl;have m:=m.onlyT I g rfl;have b:=Below.only b I a6;have i:=hb;refine Za rfl<|ZX aK fun a c _ aN=>?_;refine wp_seq_k fun _ aO=>?_;refine X09 (fun a w=>Fr a 53 [(9,.pointer (some ⟨aL,0,none⟩)),(33,.bool ((!((((invO q).bind (conO p))).isSome))||(!((psO ((((invO q).bind (conO p))).getD cZ)).isSome))))]∧w8=w) ?_ ?_
 ·refine Zr c<|Zm rfl<|Ze (X1a rfl)<|Zm rfl ?_
  refine Zg 30 rfl (fun d=>?_) (fun d=>?_)
  ·refine Zp (gP d) ?_;refine Zp (gP d) ?_;refine Ze (X9 rfl d rfl) ?_;refine Zn fun a c=>?_;exact ⟨c.sub ⟨rfl,X1 rfl (by first|rfl|(simp only [d,bs];done)|simp [d]),trivial⟩,rfl⟩
  refine Zv (gW d) (X8 rfl) ?_;refine Zv (gW d) (X1a rfl) ?_;refine Ze (Xc rfl d rfl) ?_;refine Zn fun a c=>?_;exact ⟨c.sub ⟨rfl,X1 rfl (by first|rfl|(simp only [d,bs];done)|simp [d]),trivial⟩,rfl⟩
 rintro a _ ⟨c,rfl⟩;refine aO _ _ ?_
 refine Xf c rfl (fun o=>?_) (fun o=>?_)
 ·have a7:=o;have f:=Xty o;refine Zs c fun _ aP=>?_;refine Za rfl<|Za rfl<|Za rfl<|Zt aP fun a c=>?_;refine wp_ret<|X5<|X4 c (X2z c rfl rfl rfl rfl) ?_
  rw [f]
  exact ⟨rfl,b⟩
 have a7:=o;obtain ⟨a8,aA⟩:=Xr2 o;have hR:=VPr.of a8;have A:=Xo3 a8
 have aB:validP (rdP ((psO (((invO q).bind (conO p)).getD cZ)).getD psZ)).1=true:=by rw [A];exact X3w a8
 have hS:=VPr.of aB;refine wp_skip<|aN _ _<|Zs c fun _ aQ=>?_;refine Ze (Vn Xm i)<|Zf (Vc (Y15 _ ((psO ((((invO q).bind (conO p))).getD cZ)).getD psZ) M N l.top Q U m.top hR.v.ts.mks (by have:=hR.v.ins;omega) (Nat.le_trans hR.len (by decide)) (Nat.le_trans hR.out (by decide)) (aI.up b b7) (by have:=b.size;omega)) Xt9) ?_;rintro _ w9 ⟨B,C,D,E,rfl,t,u,e⟩;have i:=i.below e;have b:=btr b e;refine Zm rfl<|Ze (X3 (vs:=[.agg #[vi (((rdP ((psO ((((invO q).bind (conO p))).getD cZ)).getD psZ)).1).ins),vi (((rdP ((psO ((((invO q).bind (conO p))).getD cZ)).getD psZ)).1).vars),vi (((rdP ((psO ((((invO q).bind (conO p))).getD cZ)).getD psZ)).1).root),vi (((rdP ((psO ((((invO q).bind (conO p))).getD cZ)).getD psZ)).1).phase),.slice B (((rdP ((psO ((((invO q).bind (conO p))).getD cZ)).getD psZ)).1).ts).length C,.slice D (((rdP ((psO ((((invO q).bind (conO p))).getD cZ)).getD psZ)).1).out).length E],vi (((rdP ((psO ((((invO q).bind (conO p))).getD cZ)).getD psZ)).2:Nat) : Int),.bool (validP ((psO ((((invO q).bind (conO p))).getD cZ)).getD psZ))]) rfl rfl)<|Ze (X3 (vs:=[.agg #[vi (((rdP ((psO ((((invO q).bind (conO p))).getD cZ)).getD psZ)).1).ins),vi (((rdP ((psO ((((invO q).bind (conO p))).getD cZ)).getD psZ)).1).vars),vi (((rdP ((psO ((((invO q).bind (conO p))).getD cZ)).getD psZ)).1).root),vi (((rdP ((psO ((((invO q).bind (conO p))).getD cZ)).getD psZ)).1).phase),.slice B (((rdP ((psO ((((invO q).bind (conO p))).getD cZ)).getD psZ)).1).ts).length C,.slice D (((rdP ((psO ((((invO q).bind (conO p))).getD cZ)).getD psZ)).1).out).length E],vi (((rdP ((psO ((((invO q).bind (conO p))).getD cZ)).getD psZ)).2:Nat) : Int),.bool (validP ((psO ((((invO q).bind (conO p))).getD cZ)).getD psZ))]) rfl rfl)<|Ze (X3 (vs:=[.agg #[vi (((rdP ((psO ((((invO q).bind (conO p))).getD cZ)).getD psZ)).1).ins),vi (((rdP ((psO ((((invO q).bind (conO p))).getD cZ)).getD psZ)).1).vars),vi (((rdP ((psO ((((invO q).bind (conO p))).getD cZ)).getD psZ)).1).root),vi (((rdP ((psO ((((invO q).bind (conO p))).getD cZ)).getD psZ)).1).phase),.slice B (((rdP ((psO ((((invO q).bind (conO p))).getD cZ)).getD psZ)).1).ts).length C,.slice D (((rdP ((psO ((((invO q).bind (conO p))).getD cZ)).getD psZ)).1).out).length E],vi (((rdP ((psO ((((invO q).bind (conO p))).getD cZ)).getD psZ)).2:Nat) : Int),.bool (validP ((psO ((((invO q).bind (conO p))).getD cZ)).getD psZ))]) rfl rfl)<|Zf (X6 (zs:=[vi 0,vi 0,vi 0,vi 0,.slice none 0 0,.slice none 0 0]) X1y rfl) ?_;rintro _ bK ⟨b26,rfl,aR,e,j⟩
 have aF:aL≠b26:=by have:=i.lt;omega
 have aC:=Nat.le_trans b.size aR;have t:=t.below e;have u:=u.below e;have b:=btr b e;refine Zo (Vw [vi (((rdP ((psO ((((invO q).bind (conO p))).getD cZ)).getD psZ)).1).ins),vi (((rdP ((psO ((((invO q).bind (conO p))).getD cZ)).getD psZ)).1).vars),vi (((rdP ((psO ((((invO q).bind (conO p))).getD cZ)).getD psZ)).1).root),vi (((rdP ((psO ((((invO q).bind (conO p))).getD cZ)).getD psZ)).1).phase),.slice B (((rdP ((psO ((((invO q).bind (conO p))).getD cZ)).getD psZ)).1).ts).length C,.slice D (((rdP ((psO ((((invO q).bind (conO p))).getD cZ)).getD psZ)).1).out).length E] X0c j) ?_;rintro _ bL ⟨I,hb⟩;have g:=j;have t:=t.onlyT I g rfl;have u:=u.onlyT I g rfl;have b:=Below.only b I aC;have j:=hb;refine Za rfl<|Za rfl<|Zx aQ fun a c _ aS=>?_;refine Ze (Vn Xm j)<|Zf (Vc (Xze _ ((rdP ((psO ((((invO q).bind (conO p))).getD cZ)).getD psZ)).1) B C t.top D E u.top hS.v.ts.mks (by have:=hS.v.ins;omega) (Nat.le_trans hS.len (by decide)) (Nat.le_trans hS.out (by decide))) Xqp) ?_;rintro _ bN ⟨rfl,e⟩;have j:=j.below e;have b:=btr b e;refine Zm rfl<|Ze (X3 (vs:=[vi (if (validP ((rdP ((psO ((((invO q).bind (conO p))).getD cZ)).getD psZ)).1)&&idP ((rdP ((psO ((((invO q).bind (conO p))).getD cZ)).getD psZ)).1))=true then ((rdP ((psO ((((invO q).bind (conO p))).getD cZ)).getD psZ)).1).phase else 0),.bool (validP ((rdP ((psO ((((invO q).bind (conO p))).getD cZ)).getD psZ)).1)&&idP ((rdP ((psO ((((invO q).bind (conO p))).getD cZ)).getD psZ)).1)),.bool (validP ((rdP ((psO ((((invO q).bind (conO p))).getD cZ)).getD psZ)).1))]) rfl rfl)<|Ze (X3 (vs:=[vi (if (validP ((rdP ((psO ((((invO q).bind (conO p))).getD cZ)).getD psZ)).1)&&idP ((rdP ((psO ((((invO q).bind (conO p))).getD cZ)).getD psZ)).1))=true then ((rdP ((psO ((((invO q).bind (conO p))).getD cZ)).getD psZ)).1).phase else 0),.bool (validP ((rdP ((psO ((((invO q).bind (conO p))).getD cZ)).getD psZ)).1)&&idP ((rdP ((psO ((((invO q).bind (conO p))).getD cZ)).getD psZ)).1)),.bool (validP ((rdP ((psO ((((invO q).bind (conO p))).getD cZ)).getD psZ)).1))]) rfl rfl)<|Ze (X3 (vs:=[vi (if (validP ((rdP ((psO ((((invO q).bind (conO p))).getD cZ)).getD psZ)).1)&&idP ((rdP ((psO ((((invO q).bind (conO p))).getD cZ)).getD psZ)).1))=true then ((rdP ((psO ((((invO q).bind (conO p))).getD cZ)).getD psZ)).1).phase else 0),.bool (validP ((rdP ((psO ((((invO q).bind (conO p))).getD cZ)).getD psZ)).1)&&idP ((rdP ((psO ((((invO q).bind (conO p))).getD cZ)).getD psZ)).1)),.bool (validP ((rdP ((psO ((((invO q).bind (conO p))).getD cZ)).getD psZ)).1))]) rfl rfl)<|Za rfl ?_
 refine Za rfl<|Za rfl<|ZX aS fun a c _ aT=>?_;refine wp_block<|Zs c fun _ aU=>?_;refine Zm rfl<|Za rfl<|Zt aU fun a c=>?_
 refine Xf c rfl (fun k=>?_) (fun k=>?_)
 ·have aD:=k
  have W:idP (redP ((psO (((invO q).bind (conO p)).getD cZ)).getD psZ)).1=true:=by have G:=k;rw [aB,A,Bool.true_and] at G;exact G
  have f:=aA.trans (ve1 W)
  have bG:(if (validP (rdP ((psO (((invO q).bind (conO p)).getD cZ)).getD psZ)).1&&idP (rdP ((psO (((invO q).bind (conO p)).getD cZ)).getD psZ)).1)=true then (rdP ((psO (((invO q).bind (conO p)).getD cZ)).getD psZ)).1.phase else 0)=(redP ((psO (((invO q).bind (conO p)).getD cZ)).getD psZ)).1.phase:=by rw [if_pos k,A]
  rw [← bG] at f
  refine Zs c fun _ aW=>?_;refine Zm rfl<|Za rfl<|Za rfl<|Za rfl<|Zt aW fun a c=>?_;refine wp_ret<|Xi<|X5<|X4 c (X2z c rfl rfl rfl rfl) ?_
  rw [f]
  exact ⟨rfl,b⟩
 have aD:=k
 have W:idP (redP ((psO (((invO q).bind (conO p)).getD cZ)).getD psZ)).1=false:=by have G:=k;rw [aB,A,Bool.true_and] at G;exact G
 refine Zs c fun _ aX=>?_;refine Ze (Vd rfl X1g 1)<|Ze (X0 rfl X2 (j.at 1))<|Ze (X0d rfl rfl)<|Za rfl<|Zt aX fun a c=>?_
 refine Xf c rfl (fun x=>?_) (fun x=>?_)
 ·have aE:=x
  have f:=aA.trans (ve2 W (by have G:=x;rw [A] at G;simpa using G))
  refine Zs c fun _ aY=>?_;refine Za rfl<|Za rfl<|Za rfl<|Zt aY fun a c=>?_;refine wp_ret<|Xi<|X5<|X4 c (X2z c rfl rfl rfl rfl) ?_
  rw [f]
  exact ⟨rfl,b⟩
 have aE:=x
 have f:=aA.trans (ve3 W (by have G:=x;rw [A] at G;simpa using G))
 refine wp_skip<|Xb<|aT _ _<|Zs c fun _ aZ=>?_;refine Za rfl<|Za rfl<|Za rfl<|Zt aZ fun a c=>?_
 refine wp_ret (X4 c (X2z c rfl rfl rfl rfl) ?_)
 rw [f]
 exact ⟨rfl,b⟩
def Cg(x y:Int) : Prop:=∃ q:Int,x=y+8*q
theorem Cg.refl(x:Int) : Cg x x:=⟨0,by omega⟩
theorem Cg.of{x y:Int}(h:x=y) : Cg x y:=⟨0,by omega⟩
theorem Cg.symm{x y:Int}(h:Cg x y) : Cg y x:=by obtain ⟨q,h⟩:=h;exact ⟨-q,by omega⟩
theorem Cg.trans{x y z:Int}(h:Cg x y)(k:Cg y z) : Cg x z:=by obtain ⟨q,h⟩:=h;obtain ⟨r,k⟩:=k;exact ⟨q+r,by omega⟩
theorem Cg.add{x y z w:Int}(h:Cg x y)(k:Cg z w) : Cg (x+z) (y+w):=by obtain ⟨q,h⟩:=h;obtain ⟨r,k⟩:=k;exact ⟨q+r,by omega⟩
theorem Cg.mod(x:Int) : Cg (x % 8) x:=⟨-(x/8),by omega⟩
theorem Cg.mul{x y:Int}(k:Int)(h:Cg x y) : Cg (k*x) (k*y):=by
 obtain ⟨q,h⟩:=h;exact ⟨k*q,by rw [h,Int.mul_add,Int.mul_left_comm]⟩
def omZ(k:Int) : Rg:=om^(k % 8).toNat
theorem X5x{x y:Int}(h:Cg x y) : omZ x=omZ y:=by
 obtain ⟨q,h⟩:=h
 unfold omZ
 rw [show x % 8=y % 8 from by omega]
theorem X69(x y:Int) : omZ (x+y)=omZ x*omZ y:=by
 unfold omZ
 rw [← X29,Xm6 ((x % 8).toNat+(y % 8).toNat)]
 congr 1
 omega
theorem Xpe:omZ 0=1:=rfl
def subI(a:Nat→Bool)(m:Int) : Int:=if (List.range 62).all (fun i=>!m.toNat.testBit i||a i) then 1 else 0
def numB(a:Nat→Bool)(m:Int) : Nat:=(List.range 62).countP fun i=>m.toNat.testBit i&&a i
def avI(a:Nat→Bool)(u:Af) : Int:=((numB a u.m:Int)+u.t) % 2
theorem X5z(a:Nat→Bool)(m:Int) : subI a m=0∨subI a m=1:=by unfold subI;split<;>simp
theorem Xde(a:Nat→Bool){x y:Nat}(hx:x<2^62)(hy:y<2^62) : subI a (oI x y)=subI a x*subI a y:=by
 unfold oI
 rw [X26 hx hy]
 unfold subI
 simp only [Int.toNat_natCast,Nat.testBit_or]
 have e:(List.range 62).all (fun i=>!(x.testBit i||y.testBit i)||a i)=((List.range 62).all (fun i=>!x.testBit i||a i)&&(List.range 62).all (fun i=>!y.testBit i||a i)):=by
  induction List.range 62 with
  | nil=>rfl
  | cons i l ih=>
   simp only [List.all_cons,ih]
   cases x.testBit i<;>cases y.testBit i<;>cases a i<;>simp
 rw [e]
 rcases Bool.eq_false_or_eq_true ((List.range 62).all fun i=>!x.testBit i||a i) with h1|h1<;>rcases Bool.eq_false_or_eq_true ((List.range 62).all fun i=>!y.testBit i||a i) with h2|h2<;>simp only [h1,h2]<;>rfl
theorem sub_zero(a:Nat→Bool) : subI a 0=1:=by
 unfold subI
 rw [if_pos]
 rw [List.all_eq_true]
 intro i _
 simp
theorem Xjp(a:Nat→Bool){k:Nat}(h:k<62) : subI a ((2^k:Nat) : Int)=if a k then 1 else 0:=by
 unfold subI
 cases e:a k
 ·rw [if_neg,if_neg (by decide)]
  rw [List.all_eq_true]
  intro h2
  have:=h2 k (List.mem_range.2 h)
  rw [Int.toNat_natCast,Nat.testBit_two_pow_self,e] at this
  cases this
 ·rw [if_pos,if_pos rfl]
  rw [List.all_eq_true]
  intro i _
  rw [Int.toNat_natCast,Nat.testBit_two_pow]
  by_cases e2:k=i
  ·subst e2;rw [e];simp
  ·simp [e2]
theorem Xqn(a:Nat→Bool){x y:Nat}(hx:x<2^62)(hy:y<2^62) : (numB a (xI x y)) % 2=(numB a x+numB a y) % 2:=by
 unfold xI
 rw [X1f hx hy]
 unfold numB
 simp only [Int.toNat_natCast,Nat.testBit_xor]
 induction List.range 62 with
 | nil=>rfl
 | cons i l ih=>
  simp only [List.countP_cons]
  cases x.testBit i<;>cases y.testBit i<;>cases a i<;>simp<;>omega
theorem X3r(a:Nat→Bool)(u:Af) : avI a u=0∨avI a u=1:=by unfold avI;omega
theorem Xhc(a:Nat→Bool){u v:Af}(hu:AO u)(hv:AO v) : avI a (aXor u v)=(avI a u+avI a v) % 2:=by
 obtain ⟨x,hx,e⟩:=hu.1.nat;obtain ⟨y,hy,e'⟩:=hv.1.nat;have h:=Xqn a (X0u hx) (X0u hy)
 unfold avI aXor
 simp only
 rw [e,e',Xqc hu.2 hv.2]
 rcases hu.2 with h1|h1<;>rcases hv.2 with h2|h2<;>rw [h1,h2]<;>simp<;>omega
theorem Xee(a:Nat→Bool){k:Nat}(h:k<62) : avI a (varA k)=if a k then 1 else 0:=by
 have h1:numB a ((2^k:Nat) : Int)=if a k then 1 else 0:=by
  unfold numB
  rw [Int.toNat_natCast]
  have e:(fun i=>(2^k).testBit i&&a i)=fun i=>decide (i=k)&&a k:=by
   funext i
   rw [Nat.testBit_two_pow]
   by_cases e2:i=k
   ·subst e2;simp
   ·have:¬ k=i:=fun h=>e2 h.symm
    simp [e2,this]
  rw [e]
  cases a k
  ·simp
  ·simp only [Bool.and_true,if_true]
   have:(fun i=>decide (i=k))=fun i=>(i==k):=by funext i;rw [Bool.eq_iff_iff];simp
   rw [this,← List.count_eq_countP',List.count_range,if_pos h]
 unfold avI varA
 simp only
 rw [h1]
 cases a k<;>rfl
def evL(a:Nat→Bool)(L:List Sm) : Int:=(L.map fun p=>p.2*subI a p.1).sum
theorem X78(a:Nat→Bool) : evL a []=0:=rfl
theorem X35(a:Nat→Bool)(p:Sm)(L:List Sm) : evL a (p::L)=p.2*subI a p.1+evL a L:=by simp [evL]
theorem X73(a:Nat→Bool)(L M:List Sm) : evL a (L++M)=evL a L+evL a M:=by simp [evL]
theorem Xfx{α:Type}(a:Nat→Bool)(g:α→List Sm) : ∀ l:List α,evL a (l.flatMap g)=(l.map fun x=>evL a (g x)).sum
 | []=>rfl
 | x::l=>by rw [List.flatMap_cons,X73,Xfx a g l];simp
def T2:Nat→Nat
 | 0=>0
 | c+1=>T2 c+c
def T3:Nat→Nat
 | 0=>0
 | c+1=>T3 c+T2 c
theorem Xv0:∀ c:Nat,(c % 8=0∧T2 c % 4=0∧T3 c % 2=0)∨(c % 8=1∧T2 c % 4=0∧T3 c % 2=0)∨(c % 8=2∧T2 c % 4=1∧T3 c % 2=0)∨(c % 8=3∧T2 c % 4=3∧T3 c % 2=1)∨
  (c % 8=4∧T2 c % 4=2∧T3 c % 2=0)∨(c % 8=5∧T2 c % 4=2∧T3 c % 2=0)∨(c % 8=6∧T2 c % 4=3∧T3 c % 2=0)∨(c % 8=7∧T2 c % 4=1∧T3 c % 2=1)
 | 0=>.inl ⟨rfl,rfl,rfl⟩
 | c+1=>by
  have h:=Xv0 c
  rw [T2,T3]
  rcases h with ⟨h1,h2,h3⟩|⟨h1,h2,h3⟩|⟨h1,h2,h3⟩|⟨h1,h2,h3⟩|⟨h1,h2,h3⟩|⟨h1,h2,h3⟩|⟨h1,h2,h3⟩|⟨h1,h2,h3⟩
  ·exact .inr (.inl ⟨by omega,by omega,by omega⟩)
  ·exact .inr (.inr (.inl ⟨by omega,by omega,by omega⟩))
  ·exact .inr (.inr (.inr (.inl ⟨by omega,by omega,by omega⟩)))
  ·exact .inr (.inr (.inr (.inr (.inl ⟨by omega,by omega,by omega⟩))))
  ·exact .inr (.inr (.inr (.inr (.inr (.inl ⟨by omega,by omega,by omega⟩)))))
  ·exact .inr (.inr (.inr (.inr (.inr (.inr (.inl ⟨by omega,by omega,by omega⟩))))))
  ·exact .inr (.inr (.inr (.inr (.inr (.inr (.inr ⟨by omega,by omega,by omega⟩))))))
  ·exact .inl ⟨by omega,by omega,by omega⟩
def GI(c:Nat) : Int:=(c:Int)-2*(T2 c:Int)+4*(T3 c:Int)
theorem Xyi(c:Nat) : Cg (GI c) ((c:Int) % 2):=by
 have h:=Xv0 c
 refine ⟨(GI c-(c:Int) % 2)/8,?_⟩
 unfold GI
 omega
def cB(a:Nat→Bool)(l:List Int) : Nat→Nat
 | 0=>0
 | n+1=>cB a l n+(subI a (l.getD n 0)).toNat
def Wl(l:List Int) : Prop:=∀ x ∈ l,∃ n:Nat,n<2^62∧x=(n:Int)
theorem Wl.at{l:List Int}(h:Wl l)(n:Nat) : ∃ k:Nat,k<2^62∧l.getD n 0=(k:Int):=by
 rw [List.getD_eq_getElem?_getD]
 cases e:l[n]? with
 | none=>exact ⟨0,by decide,rfl⟩
 | some x=>exact h x (List.mem_of_getElem? e)
theorem orN{x y:Nat}(hx:x<2^62)(hy:y<2^62) : ∃ z:Nat,z<2^62∧oI x y=(z:Int):=⟨x ||| y,Nat.or_lt_two_pow hx hy,by unfold oI;rw [X26 hx hy]⟩
section
variable {a : Nat → Bool} {l : List Int} (hl : Wl l) {k : Int}
include hl
theorem evZ{r x y:Int}(hr:∃ n:Nat,n<2^62∧oI (oI r x) y=(n:Int)) : ∀ n,evL a (exZL r x y k l n)=4*k*(subI a (oI (oI r x) y)*(cB a l n:Int))
 | 0=>by rw [exZL,cB,X78];simp
 | n+1=>by
  obtain ⟨R,hR,e⟩:=hr;obtain ⟨Q,hQ,e2⟩:=hl.at n
  rw [exZL,X73,evZ ⟨R,hR,e⟩ n,X35,X78,cB,e,e2,Xde a hR hQ]
  rcases X5z a (R:Int) with h1|h1<;>rcases X5z a (Q:Int) with h2|h2<;>rw [h1,h2]<;>simp<;>grind
theorem evY{r x:Int}(hr:∃ n:Nat,n<2^62∧oI r x=(n:Int)) : ∀ j,evL a (exYL r x k l j)=k*(subI a (oI r x)*(-2*(cB a l j:Int)+4*(T2 (cB a l j) : Int)))
 | 0=>by rw [exYL,cB,X78];simp [T2]
 | j+1=>by
  obtain ⟨R,hR,e⟩:=hr;obtain ⟨Q,hQ,e2⟩:=hl.at j
  have h3:∃ n:Nat,n<2^62∧oI (oI r x) (l.getD j 0)=(n:Int):=by rw [e,e2];exact orN hR hQ
  rw [exYL,X73,evY ⟨R,hR,e⟩ j,X35,evZ hl h3 j,cB,e,e2,Xde a hR hQ]
  rcases X5z a (R:Int) with h1|h1<;>rcases X5z a (Q:Int) with h2|h2<;>rw [h1,h2]<;>simp [T2]<;>grind
theorem evX{r:Nat}(hr:r<2^62) : ∀ i,evL a (exXL r k l i)=k*(subI a r*GI (cB a l i))
 | 0=>by rw [exXL,cB,X78];simp [GI,T2,T3]
 | i+1=>by
  obtain ⟨Q,hQ,e2⟩:=hl.at i
  have h3:∃ n:Nat,n<2^62∧oI r (l.getD i 0)=(n:Int):=by rw [e2];exact orN hr hQ
  rw [exXL,X73,evX hr i,X35,evY hl h3 i,cB,e2,Xde a hr hQ]
  rcases X5z a (r:Int) with h1|h1<;>rcases X5z a (Q:Int) with h2|h2<;>rw [h1,h2]<;>simp [GI,T2,T3]<;>grind
end
theorem Xoo(m:Int) : Wl (lows m):=fun _ h=>X8j h
theorem Xf3(a:Nat→Bool)(m:Int) : ((lows m).map (subI a)).sum=(numB a m:Int):=by
 unfold lows numB setN
 rw [List.map_map]
 have hall:∀ i ∈ List.range 62,i<62:=fun i h=>List.mem_range.1 h
 revert hall
 generalize List.range 62=L
 induction L with
 | nil=>intro _;rfl
 | cons i l ih=>
  intro h
  have hi:=h i (by simp)
  have ih:=ih fun j hj=>h j (by simp [hj])
  rw [List.filter_cons,List.countP_cons]
  cases e:m.toNat.testBit i
  ·simp only [Bool.false_eq_true,if_false,Bool.false_and,Nat.add_zero]
   exact ih
  ·simp only [if_true,List.map_cons,List.sum_cons,Function.comp,Bool.true_and,Xjp a hi]
   rw [ih]
   cases a i<;>simp<;>omega
theorem Xns(a:Nat→Bool)(l:List Int) : ∀ n,n≤l.length→(cB a l n:Int)=((l.take n).map (subI a)).sum
 | 0,_=>by rw [cB,List.take_zero];rfl
 | n+1,h=>by
  rw [cB,List.take_add_one,List.getElem?_eq_getElem (by omega),List.map_append,List.sum_append,← Xns a l n (by omega)]
  rw [List.getD_eq_getElem?_getD,List.getElem?_eq_getElem (by omega)]
  simp only [Option.getD_some,Option.toList_some,List.map_cons,List.map_nil,List.sum_cons,List.sum_nil]
  rcases X5z a l[n] with h1|h1<;>rw [h1]<;>simp
theorem Xk4(a:Nat→Bool)(m:Int) : cB a (lows m) (lows m).length=numB a m:=by
 have:=Xns a (lows m) (lows m).length (Nat.le_refl _)
 rw [List.take_length,Xf3] at this
 omega
theorem Xq1(a:Nat→Bool)(k:Int){u:Af}{r:Int}(ht:u.t=0∨u.t=1)(hr:Mk r) : Cg (evL a (expL k u r)) (k*(subI a r*avI a u)):=by
 obtain ⟨R,hR,rfl⟩:=hr.nat;obtain ⟨q,hq⟩:=Xyi (numB a u.m)
 unfold expL avI
 rcases ht with h|h<;>rw [h]
 ·rw [if_neg (by decide),evX (Xoo _) (X0u hR),Xk4,hq]
  refine ⟨k*(subI a R*q),?_⟩
  rw [Int.add_zero]
  grind
 ·rw [if_pos rfl,X35,evX (Xoo _) (X0u hR),Xk4,hq]
  have h2:((numB a u.m:Int)+1) % 2=1-(numB a u.m:Int) % 2:=by omega
  rw [h2]
  refine ⟨-(k*(subI a R*q)),?_⟩
  grind
theorem X9a{α:Type}(c:Int)(g:α→Int) : ∀ l:List α,(l.map fun x=>c*g x).sum=c*(l.map g).sum
 | []=>by simp
 | x::l=>by simp only [List.map_cons,List.sum_cons,X9a c g l,Int.mul_add]
theorem Xpn{u:Af} : Wl (lowT u):=fun x h=>by
 unfold lowT at h
 rcases List.mem_append.1 h with h|h
 ·exact X8j h
 ·split at h
  ·rw [List.mem_singleton.1 h];exact ⟨0,by decide,rfl⟩
  ·cases h
theorem Xev(a:Nat→Bool){u:Af}(ht:u.t=0∨u.t=1) : ((lowT u).map (subI a)).sum=(numB a u.m:Int)+u.t:=by
 unfold lowT
 rw [List.map_append,List.sum_append,Xf3]
 rcases ht with h|h<;>rw [h]
 ·rfl
 ·simp [sub_zero]
theorem Xrz(a:Nat→Bool){u v:Af}(hu:u.t=0∨u.t=1)(hv:v.t=0∨v.t=1) : Cg (evL a (sumI u v)) (4*(avI a u*avI a v)):=by
 have h:evL a (sumI u v)=4*(((numB a u.m:Int)+u.t)*((numB a v.m:Int)+v.t)):=by
  unfold sumI
  rw [Xfx,← Xev a hu,← Xev a hv]
  have h1:∀ x ∈ lowT u,evL a ((lowT v).map fun y=>(oI x y,(4:Int)))=4*((lowT v).map (subI a)).sum*subI a x:=fun x hx=>by
   obtain ⟨X,hX,rfl⟩:=Xpn x hx
   unfold evL
   rw [List.map_map,List.map_congr_left (g:=fun y=>(4*subI a (X:Int))*subI a y) fun y hy=>by
    obtain ⟨Y,hY,rfl⟩:=Xpn y hy
    show 4*subI a (oI X Y)=_
    rw [Xde a hX hY,Int.mul_assoc],X9a]
   grind
  rw [List.map_congr_left h1,X9a]
  grind
 rw [h]
 unfold avI
 generalize (numB a u.m:Int)+u.t=A
 generalize (numB a v.m:Int)+v.t=B
 refine ⟨(A % 2)*(B/2)+(A/2)*(B % 2)+2*((A/2)*(B/2)),?_⟩
 have hA:A=2*(A/2)+A % 2:=by omega
 have hB:B=2*(B/2)+B % 2:=by omega
 generalize A/2=p at *
 generalize A % 2=q at *
 generalize B/2=r at *
 generalize B % 2=t at *
 subst hA hB
 grind
def evN(f:Int→Int)(a:Nat→Bool) : Nat→Int
 | 0=>0
 | n+1=>evN f a n+f n*subI a n
theorem Xf7(f:Int→Int)(a:Nat→Bool)(m k:Int) : ∀ n:Nat,Cg (evN (padd f m k) a n) (evN f a n+if 0≤m∧m<(n:Int) then k*subI a m else 0)
 | 0=>by rw [if_neg (by omega)];exact Cg.refl _
 | n+1=>by
  obtain ⟨q,hq⟩:=Xf7 f a m k n
  rw [evN,evN,hq]
  by_cases e:m=(n:Int)
  ·subst e
   rw [if_neg (by omega),if_pos (by omega)]
   unfold padd
   rw [show upd f (n:Int) ((f n+k) % 8) n=(f n+k) % 8 from by unfold upd;simp]
   obtain ⟨r,hr⟩:=Cg.mod (f n+k)
   rw [hr]
   refine ⟨q+r*subI a n,?_⟩
   grind
  ·unfold padd
   rw [X2u (fun h=>e h.symm)]
   by_cases h2:0≤m∧m<(n:Int)
   ·rw [if_pos h2,if_pos (by omega)]
    exact ⟨q,by omega⟩
   ·rw [if_neg h2,if_neg (by omega)]
    exact ⟨q,by omega⟩
theorem Xhw(a:Nat→Bool)(l m:List Tm) : evL a (sm (l++m))=evL a (sm l)+evL a (sm m):=by unfold sm;rw [List.map_append,X73]
theorem Xki(f:Int→Int)(a:Nat→Bool) : ∀ n:Nat,evN f a n=(if n=0 then 0 else f 0)+evL a (sm (tmN f n))
 | 0=>rfl
 | n+1=>by
  rw [evN,Xki f a n,tmN,if_neg (Nat.succ_ne_zero n)]
  by_cases h0:n=0
  ·subst h0
   rw [if_pos rfl,if_neg (by omega)]
   simp [sub_zero,tmN,sm,evL]
  ·rw [if_neg h0]
   by_cases h1:f n=0
   ·rw [if_neg (fun h=>h.2 h1),h1];omega
   ·rw [if_pos ⟨by omega,h1⟩,Xhw]
    simp [sm,evL]
    omega
def evP(f:Int→Int)(a:Nat→Bool) : Int:=f 0+evL a (sm (tms f))
theorem Xus(f:Int→Int)(a:Nat→Bool) : evP f a=evN f a 16777216:=by
 unfold evP tms
 rw [Xki,if_neg (by decide)]
theorem X89{f:Int→Int}{a:Nat→Bool}{m k:Int}(h:Mk m) : Cg (evP (padd f m k) a) (evP f a+k*subI a m):=by
 rw [Xus,Xus]
 have:=Xf7 f a m k 16777216
 rw [if_pos ⟨h.1,by have:=h.2;omega⟩] at this
 exact this
theorem X4p{a:Nat→Bool} : ∀ (L:List Sm) {f:Int→Int},(∀ p ∈ L,Mk p.1)→Cg (evP (foldA L f) a) (evP f a+evL a L)
 | [],f,_=>by rw [Xcn,X78,Int.add_zero];exact Cg.refl _
 | p::L,f,h=>by
  rw [X3z,X35]
  refine (X4p L fun q hq=>h q (by simp [hq])).trans ?_
  have:=(X89 (f:=f) (a:=a) (k:=p.2) (h p (by simp))).add (Cg.refl (evL a L))
  rw [Int.add_assoc] at this
  exact this
theorem Xbg(a:Nat→Bool) : evP (fun _=>0) a=0:=by
 unfold evP
 rw [Xa6];rfl
theorem Xds{f:Int→Int}{a:Nat→Bool}{k r:Int}{u:Af}(hu:AO u)(hr:Mk r) : Cg (evP (expP f k u r) a) (evP f a+k*(subI a r*avI a u)):=by
 rw [X33]
 exact (X4p _ (Xe3 hu hr)).trans ((Cg.refl _).add (Xq1 a k hu.2 hr))
theorem Xfg{f:Int→Int}{a:Nat→Bool}{u v:Af}(hf:PO f)(hu:AO u)(hv:AO v) : Cg (evP (foldA (sumS u v) f) a) (evP f a+4*(avI a u*avI a v)):=by
 refine (X4p _ (Xag hu.1 hv.1)).trans ((Cg.refl _).add ?_)
 have h1:=X4p (a:=a) (f:=fun _=>0) (sumS u v) (Xag hu.1 hv.1)
 have hI:∀ p ∈ sumI u v,Mk p.1:=fun p hp=>by
  unfold sumI at hp
  obtain ⟨x,hx,hp⟩:=List.mem_flatMap.1 hp;obtain ⟨y,hy,rfl⟩:=List.mem_map.1 hp
  have lw:∀ {w:Af},AO w→∀ z ∈ lowT w,Mk z:=fun {w} hw z hz=>by
   unfold lowT at hz
   rcases List.mem_append.1 hz with h|h
   ·exact (X76 (N:=24) ⟨hw.1,by have:=hw.1.2;omega⟩ h).1
   ·split at h
    ·rw [List.mem_singleton.1 h];exact Mk.zero
    ·cases h
  exact (lw hu x hx).or (lw hv y hy)
 have h2:=X4p (a:=a) (f:=fun _=>0) (sumI u v) hI
 rw [Xn9 PO.zero hu.2 hv.2,Xbg] at h2
 rw [Xbg] at h1
 have h3:=Xrz a hu.2 hv.2;have h4:=h1.symm.trans h2
 rw [Int.zero_add,Int.zero_add] at h4
 exact h4.trans h3
def upB(a:Nat→Bool)(i:Nat)(b:Bool) : Nat→Bool:=fun j=>if j=i then b else a j
def sumB(n:Nat) : Nat→St→St
 | 0,F=>F
 | k+1,F=>sumB n k fun b=>F (upB b (n+k) false)+F (upB b (n+k) true)
def affs(n:Nat)(out:List Af)(a x:Nat→Bool) : Nat→Bool:=fun q=>if q<n then avI a (aAt out q)==1 else x q
def semS(n:Nat)(s:Pst)(w:St) : St:=fun x=>sumB n s.v (fun a=>omZ (evP s.f a)*w (affs n s.out a x)) x
theorem X2l{n:Nat} : ∀ (k:Nat) {F G:St},(∀ a,F a=G a)→∀ a,sumB n k F a=sumB n k G a
 | 0,_,_,h=>h
 | k+1,F,G,h=>X2l k fun b=>by rw [h,h]
def tact(g:Gt)(w:St) : St:=if g.k=3 then (fun β=>om^4*act g w β) else act g w
def trun:List Gt→St→St
 | [],w=>w
 | g::l,w=>tact g (trun l w)
theorem Xyn{a:Nat→Bool}{i:Nat}{b:Bool}{m:Int}(h:Lt i m) : subI (upB a i b) m=subI a m:=by
 obtain ⟨M,hM,rfl⟩:=h.1.nat
 have hlt:M<2^i:=Int.ofNat_lt.1 h.2
 unfold subI
 have e:(List.range 62).all (fun j=>!((M:Int)).toNat.testBit j||upB a i b j)=(List.range 62).all (fun j=>!((M:Int)).toNat.testBit j||a j):=by
  congr 1
  funext j
  rw [Int.toNat_natCast]
  unfold upB
  by_cases hj:j=i
  ·subst hj
   rw [Nat.testBit_lt_two_pow hlt];simp
  ·rw [if_neg hj]
 rw [e]
theorem Xyc{a:Nat→Bool}{i:Nat}{b:Bool}{m:Int}(h:Lt i m) : numB (upB a i b) m=numB a m:=by
 obtain ⟨M,hM,rfl⟩:=h.1.nat
 have hlt:M<2^i:=Int.ofNat_lt.1 h.2
 unfold numB
 congr 1
 funext j
 rw [Int.toNat_natCast]
 unfold upB
 by_cases hj:j=i
 ·subst hj
  rw [Nat.testBit_lt_two_pow hlt];simp
 ·rw [if_neg hj]
theorem Xu8{a:Nat→Bool}{i:Nat}{b:Bool}{u:Af}(h:Lt i u.m) : avI (upB a i b) u=avI a u:=by unfold avI;rw [Xyc h]
theorem Xvk{a:Nat→Bool}{i:Nat}{b:Bool}{L:List Sm}(h:∀ p ∈ L,Lt i p.1) : evL (upB a i b) L=evL a L:=by
 unfold evL
 rw [List.map_congr_left fun p hp=>by rw [Xyn (h p hp)]]
theorem Xyr{a:Nat→Bool}{i:Nat}{b:Bool}{f:Int→Int}(h:SupN i f) : evP f (upB a i b)=evP f a:=by
 unfold evP
 rw [Xvk fun p hp=>?_]
 obtain ⟨t,ht,rfl⟩:=List.mem_map.1 hp
 have:=((X2i f).mem t).1 ht
 exact h t.m this.2.2.2
theorem Xkh{l:List Af}{i:Nat}{u:Af}(q:Nat)(h:i<l.length) : aAt (l.set i u) (q:Int)=if q=i then u else aAt l (q:Int):=by
 unfold aAt
 rw [Int.toNat_natCast,List.getD_eq_getElem?_getD,List.getD_eq_getElem?_getD]
 by_cases e:q=i
 ·subst e
  rw [if_pos rfl,List.getElem?_set_self h];rfl
 ·rw [if_neg e,List.getElem?_set_ne (fun h=>e h.symm)]
theorem X5j{n:Nat}{out:List Af}{a x:Nat→Bool}{i:Nat}{u:Af}(hi:i<n)(hl:out.length=n) : affs n (out.set i u) a x=upB (affs n out a x) i (avI a u==1):=by
 funext q
 unfold affs upB
 by_cases e:q=i
 ·subst e
  rw [if_pos hi,if_pos rfl,Xkh q (by omega),if_pos rfl]
 ·rw [if_neg e]
  by_cases hq:q<n
  ·rw [if_pos hq,Xkh q (by omega),if_neg e];exact (if_pos hq).symm
  ·rw [if_neg hq];exact (if_neg hq).symm
theorem X7g(β:Nat→Bool)(q:Nat) : flipB β q=upB β q (!β q):=by
 funext p
 unfold flipB upB
 by_cases e:p=q
 ·subst e;simp
 ·simp [e]
theorem X8v(β:Nat→Bool)(q:Nat){b:Bool}(h:β q=b) : upB β q b=β:=by
 funext p
 unfold upB
 by_cases e:p=q
 ·subst e;simp [h]
 ·simp [e]
theorem X79{n:Nat}{out:List Af}{a x:Nat→Bool}{i:Nat}(hi:i<n) : affs n out a x i=(avI a (aAt out i)==1):=by
 unfold affs
 rw [if_pos hi]
theorem Xo2(a:Nat→Bool){u:Af}(hu:AO u) : avI a (aXor u ⟨0,1⟩)=1-avI a u:=by
 rw [Xhc a hu AO.one]
 have:avI a ⟨0,1⟩=1:=by
  unfold avI numB
  have:(List.range 62).countP (fun i=>(0:Int).toNat.testBit i&&a i)=0:=by
   rw [List.countP_eq_zero]
   intro i _
   simp
  simp only [this];rfl
 rw [this]
 rcases X3r a u with h|h<;>rw [h]<;>rfl
theorem Xjx(x:Int)(h:x=0∨x=1) : x=if (x==1)=true then 1 else 0:=by rcases h with h|h<;>rw [h]<;>rfl
theorem Xzc(b:Bool) : u1 2 b b=0∧u1 2 b (!b)=1:=by cases b<;>decide
theorem Y1b(b:Bool) : u1 3 b b=0∧u1 3 b (!b)=if b then om^2 else om^6:=by cases b<;>decide
theorem Y16{k:Int}(h:4≤k∧k≤8)(b:Bool) : u1 k b b=omZ (rotC k*if b then 1 else 0)∧u1 k b (!b)=0:=by
 have:k=4∨k=5∨k=6∨k=7∨k=8:=by omega
 rcases this with rfl|rfl|rfl|rfl|rfl<;>cases b<;>decide
theorem Xgk{n:Nat}{s t:Pst}{g:Gt}{w:St}{a x:Nat→Bool}(hg:gOk (n:Int) g=true)(h:PsV n s)(e:psStep n s g=some t)(h1:¬ g.k=1) :
  t.v=s.v∧omZ (evP t.f a)*w (affs n t.out a x)=omZ (evP s.f a)*tact g w (affs n s.out a x):=by
 have hAt:=fun i=>AO.at h.ok.all i
 have ha:=Xcm hg;have hl:=h.ok.len;obtain ⟨_,hk,_,_⟩:=X27 hg
 unfold psStep at e
 rw [if_neg h1] at e
 have hA:((g.a.toNat:Nat) : Int)=g.a:=by have:=ha.1;omega
 have bA:affs n s.out a x g.a.toNat=(avI a (aAt s.out g.a)==1):=by rw [X79 ha.2,hA]
 have vA:=Xjx _ (X3r a (aAt s.out g.a))
 by_cases h2:g.k=2
 ·rw [if_pos h2] at e;injection e with e;subst e
  refine ⟨rfl,?_⟩
  simp only
  rw [X5j ha.2 hl,Xo2 a (hAt g.a)]
  unfold tact act
  rw [if_neg (by omega),if_neg (by omega),if_neg (by omega),if_neg (by omega),if_neg (by omega),X7g,bA]
  rw [h2,(Xzc _).1,(Xzc _).2,Xq,X06,Xg]
  congr 2
  rcases X3r a (aAt s.out g.a) with h|h<;>rw [h]<;>rfl
 ·rw [if_neg h2] at e
  by_cases h3:g.k=3
  ·rw [if_pos h3] at e;injection e with e;subst e
   refine ⟨rfl,?_⟩
   simp only
   rw [X5j ha.2 hl,Xo2 a (hAt g.a),X5x ((Xds (hAt g.a) Mk.zero).trans ((X89 Mk.zero).add (Cg.refl _))),sub_zero]
   unfold tact act
   rw [if_pos h3,if_neg (by omega),if_neg (by omega),if_neg (by omega),if_neg (by omega),X7g,bA]
   rw [h3,(Y1b _).1,(Y1b _).2,Xq,X06,Int.add_assoc,X69,Xa]
   congr 1
   rw [← Xa]
   congr 1
   ·rcases X3r a (aAt s.out g.a) with h|h<;>rw [h]<;>decide
   ·rcases X3r a (aAt s.out g.a) with h|h<;>rw [h]<;>rfl
  ·rw [if_neg h3] at e
   have hT:tact g w=act g w:=by unfold tact;rw [if_neg h3]
   rw [hT]
   by_cases h9:g.k=9
   ·have hb:=X8n hg
    have hB:((g.b.toNat:Nat) : Int)=g.b:=by have:=hb.1;omega
    have bB:affs n s.out a x g.b.toNat=(avI a (aAt s.out g.b)==1):=by rw [X79 hb.2,hB]
    rw [if_pos h9] at e;injection e with e;subst e
    refine ⟨rfl,?_⟩
    simp only
    rw [X5j hb.2 hl,Xhc a (hAt g.a) (hAt g.b)]
    unfold act
    rw [if_neg (by omega),if_pos h9,bA]
    congr 2
    rw [X7g,bB]
    rcases X3r a (aAt s.out g.a) with h|h<;>rw [h]
    ·rw [if_neg (by decide),Int.zero_add,X8v]
     rw [bB]
     rcases X3r a (aAt s.out g.b) with h'|h'<;>rw [h']<;>rfl
    ·rw [if_pos (by decide)]
     rcases X3r a (aAt s.out g.b) with h'|h'<;>rw [h']<;>rfl
   ·rw [if_neg h9] at e
    by_cases h10:g.k=10
    ·have hb:=X8n hg
     have hB:((g.b.toNat:Nat) : Int)=g.b:=by have:=hb.1;omega
     have bB:affs n s.out a x g.b.toNat=(avI a (aAt s.out g.b)==1):=by rw [X79 hb.2,hB]
     rw [if_pos h10] at e;injection e with e;subst e
     refine ⟨rfl,?_⟩
     simp only
     rw [X5x (Xfg h.ok.po (hAt g.a) (hAt g.b))]
     unfold act
     rw [if_neg (by omega),if_neg h9,if_pos h10,bA,bB,X69,Xa]
     congr 2
     rcases X3r a (aAt s.out g.a) with h|h<;>rcases X3r a (aAt s.out g.b) with h'|h'<;>rw [h,h']<;>rfl
    ·rw [if_neg h10] at e
     by_cases h11:g.k=11
     ·have hb:=X8n hg
      have hB:((g.b.toNat:Nat) : Int)=g.b:=by have:=hb.1;omega
      have bB:affs n s.out a x g.b.toNat=(avI a (aAt s.out g.b)==1):=by rw [X79 hb.2,hB]
      rw [if_pos h11] at e;injection e with e;subst e
      refine ⟨rfl,?_⟩
      simp only
      rw [X5j hb.2 (by rw [List.length_set];exact hl),X5j ha.2 hl]
      unfold act
      rw [if_neg (by omega),if_neg h9,if_neg h10,if_pos h11,bA,bB]
      congr 2
      have hne:=X5f hg (by omega)
      split
      ·rename_i he
       rw [X8v (affs n s.out a x) _ (by rw [bA,he]),X8v _ _ (by rw [bB,he])]
      ·rename_i he
       rw [X7g,X7g,bA]
       have hbb:upB (affs n s.out a x) g.a.toNat (!(avI a (aAt s.out g.a)==1)) g.b.toNat=(avI a (aAt s.out g.b)==1):=by
        unfold upB
        rw [if_neg (fun h=>hne h.symm)]
        exact bB
       rw [hbb]
       congr 1
       ·congr 1
        revert he
        cases (avI a (aAt s.out g.a)==1)<;>cases (avI a (aAt s.out g.b)==1)<;>simp
       ·revert he
        cases (avI a (aAt s.out g.a)==1)<;>cases (avI a (aAt s.out g.b)==1)<;>simp
     ·rw [if_neg h11] at e
      by_cases h12:g.k=12
      ·rw [if_pos h12] at e;injection e with e;subst e
       refine ⟨rfl,?_⟩
       simp only
       rw [X5x (X89 Mk.zero),sub_zero]
       unfold act
       rw [if_pos h12,X69,Xa]
       rfl
      ·rw [if_neg h12] at e;injection e with e;subst e
       refine ⟨rfl,?_⟩
       simp only
       rw [X5x (Xds (hAt g.a) Mk.zero),sub_zero,Int.one_mul]
       unfold act
       rw [if_neg h12,if_neg h9,if_neg h10,if_neg h11,bA]
       have hk':4≤g.k∧g.k≤8:=by omega
       rw [(Y16 hk' _).1,(Y16 hk' _).2,Xq,X01,X69,Xa,← vA]
theorem Xqx{n i:Nat}{out:List Af}{a x:Nat→Bool}{b:Bool}(h:∀ u ∈ out,Lt i u.m) : affs n out (upB a i b) x=affs n out a x:=by
 funext q
 unfold affs
 rw [Xu8 (Lt.at h _)]
theorem Xxn{g:Gt}(h1:g.k=1)(w:St)(β:Nat→Bool) : tact g w β=u1 1 (β g.a.toNat) (β g.a.toNat)*w β+u1 1 (β g.a.toNat) (!β g.a.toNat)*w (flipB β g.a.toNat):=by
 unfold tact act
 rw [if_neg (show ¬ g.k=3 by omega)]
 show (if g.k=12 then _ else _)=_
 rw [if_neg (show ¬ g.k=12 by omega),if_neg (show ¬ g.k=9 by omega),if_neg (show ¬ g.k=10 by omega),if_neg (show ¬ g.k=11 by omega),h1]
theorem Xv5{n:Nat}{s t:Pst}{g:Gt}{w:St}{b x:Nat→Bool}(hg:gOk (n:Int) g=true)(h:PsV n s)(e:psStep n s g=some t)(h1:g.k=1) :
  t.v=s.v+1∧(omZ (evP t.f (upB b (n+s.v) false))*w (affs n t.out (upB b (n+s.v) false) x)+omZ (evP t.f (upB b (n+s.v) true))*w (affs n t.out (upB b (n+s.v) true) x) =
   omZ (evP s.f b)*tact g w (affs n s.out b x)):=by
 have ha:=Xcm hg;have hl:=h.ok.len
 unfold psStep at e
 rw [if_pos h1] at e
 split at e
 ·cases e
 rename_i h24
 injection e with e;subst e
 refine ⟨rfl,?_⟩
 simp only
 have hu:=AO.at h.ok.all g.a
 have hvar:AO (varA (n+s.v)):=AO.var (by omega)
 have hlu:=Lt.at h.out g.a
 have hz:∀ z:Bool,avI (upB b (n+s.v) z) (varA (n+s.v))=if z then 1 else 0:=fun z=>by
  rw [Xee _ (by omega)]
  unfold upB
  rw [if_pos rfl]
 have he:∀ z:Bool,omZ (evP (foldA (sumS (aAt s.out g.a) (varA (n+s.v))) s.f) (upB b (n+s.v) z))=omZ (evP s.f b+4*(avI b (aAt s.out g.a)*if z then 1 else 0)):=fun z=>by
  rw [X5x (Xfg h.ok.po hu hvar),Xyr h.sup,Xu8 hlu,hz]
 have ho:∀ z:Bool,affs n (s.out.set g.a.toNat (varA (n+s.v))) (upB b (n+s.v) z) x=upB (affs n s.out b x) g.a.toNat z:=fun z=>by
  rw [X5j ha.2 hl,hz,Xqx h.out]
  cases z<;>rfl
 rw [he,he,ho,ho]
 have bA:affs n s.out b x g.a.toNat=(avI b (aAt s.out g.a)==1):=by rw [X79 ha.2,show ((g.a.toNat:Nat) : Int)=g.a from by have:=ha.1;omega]
 rw [Xxn h1,X7g,bA]
 rcases X3r b (aAt s.out g.a) with h0|h0<;>rw [h0] at bA ⊢
 ·rw [show u1 1 ((0:Int)==1) ((0:Int)==1)=1 from by decide,show u1 1 ((0:Int)==1) (!((0:Int)==1))=1 from by decide,Xg,Xg,X0e]
  rw [X8v (affs n s.out b x) _ (b:=false) (by rw [bA];rfl)]
  simp only [Int.zero_mul,Int.mul_zero,Int.add_zero]
  rfl
 ·rw [show u1 1 ((1:Int)==1) ((1:Int)==1)=om^4 from by decide,show u1 1 ((1:Int)==1) (!((1:Int)==1))=1 from by decide,Xg,X0e]
  rw [X8v (affs n s.out b x) _ (b:=true) (by rw [bA];rfl),X08]
  congr 1
  ·rw [← Xa,X69];rfl
  ·simp only [Bool.false_eq_true,if_false,Int.mul_zero,Int.add_zero];rfl
theorem Xod{n:Nat}{s t:Pst}{g:Gt}{w:St}{x:Nat→Bool}(hg:gOk (n:Int) g=true)(h:PsV n s)(e:psStep n s g=some t) : semS n t w x=semS n s (tact g w) x:=by
 unfold semS
 by_cases h1:g.k=1
 ·rw [(Xv5 (w:=w) (b:=x) (x:=x) hg h e h1).1]
  show sumB n s.v _ x=_
  exact X2l _ (fun b=>(Xv5 hg h e h1).2) x
 ·rw [(Xgk (w:=w) (a:=x) (x:=x) hg h e h1).1]
  exact X2l _ (fun b=>(Xgk hg h e h1).2) x
theorem Xin{n:Nat}{w:St}{x:Nat→Bool} : ∀ (l:List Gt) {s t:Pst},(∀ g ∈ l,gOk (n:Int) g=true)→PsV n s→psAll n l s=some t→semS n t w x=semS n s (trun l w) x
 | [],s,t,_,_,e=>by injection e with e;subst e;rfl
 | g::l,s,t,hg,h,e=>by
  have e:(psStep n s g).bind (psAll n l)=some t:=e
  cases h1:psStep n s g with
  | none=>rw [h1] at e;cases e
  | some u=>
   rw [h1] at e
   rw [Xin l (fun g' hg'=>hg g' (by simp [hg'])) (h.step h1) e,Xod (hg g (by simp)) h h1]
   rfl
theorem Xq0(n:Nat)(hn:n≤5)(w:St)(x:Nat→Bool) : semS n (ps0 n) w x=w x:=by
 show omZ (evP (fun _=>0) x)*w (affs n (varsN n) x x)=w x
 rw [Xbg,Xpe,Xg]
 congr 1
 funext q
 unfold affs
 split
 ·rename_i h
  have:aAt (varsN n) (q:Int)=varA q:=by
   unfold aAt varsN
   rw [Int.toNat_natCast,List.getD_eq_getElem?_getD,List.getElem?_map,List.getElem?_range h]
   rfl
  rw [this,Xee _ (by omega)]
  cases x q<;>rfl
 ·rfl
def semP(p:Ps)(w:St) : St:=fun x=>sumB p.ins.toNat p.vars.toNat (fun a=>omZ (p.phase+evL a (sm p.ts))*w (affs p.ins.toNat p.out a x)) x
theorem Xr0{c:Cx}{p:Ps}(h:cOk c=true)(hp:psC c=some p)(w:St)(x:Nat→Bool) : semP p w x=trun c.gs w x:=by
 obtain ⟨n,hn,hn1,hn5⟩:=Xfr h;have hp0:=hp
 unfold psC at hp
 rw [hn,Int.toNat_natCast] at hp
 cases e:psAll n c.gs (ps0 n) with
 | none=>rw [e] at hp;cases hp
 | some s=>
  rw [e] at hp
  injection hp with hp
  subst hp
  have:=Xin (w:=w) (x:=x) c.gs (fun g hg=>by
   have:=(X2o.1 h).2.2 g hg
   rw [hn] at this
   exact this) (PsV.zero hn5) e
  rw [Xq0 n hn5] at this
  rw [← this]
  unfold semP semS evP
  simp only
  rw [show (n:Int).toNat=n from Int.toNat_natCast n,show ((s.v:Nat) : Int).toNat=s.v from Int.toNat_natCast _]
def Agr(N:Nat)(β γ:Nat→Bool) : Prop:=∀ q,q<N→β q=γ q
theorem Agr.symm{N:Nat}{β γ:Nat→Bool}(h:Agr N β γ) : Agr N γ β:=fun q hq=>(h q hq).symm
def ebA(N:Nat)(γ:Nat→Bool) : St:=fun β=>if (∀ q,q<N→β q=γ q) then 1 else 0
theorem X7p{N:Nat}{β γ:Nat→Bool}(h:Agr N β γ) : ebA N γ β=1:=if_pos h
theorem X6e{N:Nat}{β γ:Nat→Bool}(h:¬ Agr N β γ) : ebA N γ β=0:=if_neg h
theorem Xdp{N:Nat}{β γ β' γ':Nat→Bool}(h:Agr N β γ↔Agr N β' γ') : ebA N γ β=ebA N γ' β':=by
 by_cases e:Agr N β γ
 ·rw [X7p e,X7p (h.1 e)]
 ·rw [X6e e,X6e fun k=>e (h.2 k)]
theorem Xe7{N:Nat}{F:(Nat→Bool)→Nat→Bool}(h1:∀ β,F (F β)=β)(h2:∀ β γ,Agr N β γ→Agr N (F β) (F γ))(β γ:Nat→Bool) : Agr N (F β) γ↔Agr N (F γ) β:=by
 constructor
 ·intro h
  have:=h2 _ _ h
  rw [h1] at this
  exact this.symm
 ·intro h
  have:=h2 _ _ h
  rw [h1] at this
  exact this.symm
theorem X8l(β:Nat→Bool)(q:Nat) : flipB β q q = !β q:=by unfold flipB;rw [if_pos rfl]
theorem Xlk(β:Nat→Bool)(p q:Nat) : flipB (flipB β p) q=flipB (flipB β q) p:=by
 funext r
 unfold flipB
 split<;>split<;>rfl
theorem X8o{N q:Nat}{β γ:Nat→Bool}(h:Agr N β γ) : Agr N (flipB β q) (flipB γ q):=fun p hp=>by
 unfold flipB
 rw [h p hp]
theorem Xq8{k:Int}(h:1≤k∧k≤8)(b:Bool) : u1 k b (!b)=(if k=3 then om^4 else 1)*u1 k (!b) b:=by
 have:k=1∨k=2∨k=3∨k=4∨k=5∨k=6∨k=7∨k=8:=by omega
 rcases this with rfl|rfl|rfl|rfl|rfl|rfl|rfl|rfl<;>cases b<;>decide
theorem Xrm{k:Int}(h:1≤k∧k≤8)(b:Bool) : u1 k b b=(if k=3 then om^4 else 1)*u1 k b b:=by
 have:k=1∨k=2∨k=3∨k=4∨k=5∨k=6∨k=7∨k=8:=by omega
 rcases this with rfl|rfl|rfl|rfl|rfl|rfl|rfl|rfl<;>cases b<;>decide
theorem Xgz(g:Gt)(w:St)(β:Nat→Bool) : tact g w β=(if g.k=3 then om^4 else 1)*act g w β:=by
 unfold tact
 split
 ·rfl
 ·rw [Xg]
theorem Xmh{N:Nat}{g:Gt}(hg:gOk (N:Int) g=true)(β γ:Nat→Bool) : act g (ebA N γ) β=tact g (ebA N β) γ:=by
 obtain ⟨hn,hk,ha,hb⟩:=X27 hg;have hA:=Xcm hg
 rw [Xgz]
 have hsym:ebA N γ β=ebA N β γ:=Xdp ⟨Agr.symm,Agr.symm⟩
 by_cases h12:g.k=12
 ·rw [if_neg (show ¬ g.k=3 by omega),Xg]
  unfold act
  rw [if_pos h12,if_pos h12,hsym]
 ·by_cases h9:g.k=9
  ·have hB:=X8n hg
   have hne:=X5f hg (by omega)
   rw [if_neg (show ¬ g.k=3 by omega),Xg]
   unfold act
   rw [if_neg h12,if_pos h9,if_neg h12,if_pos h9]
   refine Xdp (Xe7 (F:=fun β=>if β g.a.toNat then flipB β g.b.toNat else β) (fun β=>?_) (fun β γ h=>?_) β γ)
   ·cases e:β g.a.toNat
    ·simp [e]
    ·simp [e,X7a β hne,X3j]
   ·show Agr N (if β g.a.toNat then _ else _) (if γ g.a.toNat then _ else _)
    rw [h _ hA.2]
    cases γ g.a.toNat
    ·exact h
    ·exact X8o h
  ·by_cases h10:g.k=10
   ·have hB:=X8n hg
    rw [if_neg (show ¬ g.k=3 by omega),Xg]
    unfold act
    rw [if_neg h12,if_neg h9,if_pos h10,if_neg h12,if_neg h9,if_pos h10,← hsym]
    by_cases e:Agr N β γ
    ·rw [e _ hA.2,e _ hB.2]
    ·rw [X6e e,Xo,Xo]
   ·by_cases h11:g.k=11
    ·have hB:=X8n hg
     have hne:=X5f hg (by omega)
     rw [if_neg (show ¬ g.k=3 by omega),Xg]
     unfold act
     rw [if_neg h12,if_neg h9,if_neg h10,if_pos h11,if_neg h12,if_neg h9,if_neg h10,if_pos h11]
     refine Xdp (Xe7 (F:=fun β=>if β g.a.toNat=β g.b.toNat then β else flipB (flipB β g.a.toNat) g.b.toNat) (fun β=>?_) (fun β γ h=>?_) β γ)
     ·by_cases e:β g.a.toNat=β g.b.toNat
      ·simp [e]
      ·have e2:¬ flipB (flipB β g.a.toNat) g.b.toNat g.a.toNat=flipB (flipB β g.a.toNat) g.b.toNat g.b.toNat:=by
        rw [X7a _ hne,X8l,X8l,X7a _ (fun h=>hne h.symm)]
        revert e
        cases β g.a.toNat<;>cases β g.b.toNat<;>simp
       simp only [if_neg e,if_neg e2]
       rw [Xlk (flipB (flipB β g.a.toNat) g.b.toNat),X3j,X3j]
     ·show Agr N (if β g.a.toNat=β g.b.toNat then _ else _) (if γ g.a.toNat=γ g.b.toNat then _ else _)
      rw [h _ hA.2,h _ hB.2]
      split
      ·exact h
      ·exact X8o (X8o h)
    ·have hk8:1≤g.k∧g.k≤8:=by omega
     unfold act
     rw [if_neg h12,if_neg h9,if_neg h10,if_neg h11,if_neg h12,if_neg h9,if_neg h10,if_neg h11]
     by_cases e:Agr N β γ
     ·have e2:¬ Agr N (flipB β g.a.toNat) γ:=fun h=>by
       have h1:=h _ hA.2
       rw [X8l,e _ hA.2] at h1
       cases h':γ g.a.toNat<;>rw [h'] at h1<;>cases h1
      have e3:¬ Agr N (flipB γ g.a.toNat) β:=fun h=>by
       have h1:=h _ hA.2
       rw [X8l,e _ hA.2] at h1
       cases h':γ g.a.toNat<;>rw [h'] at h1<;>cases h1
      rw [X7p e,X7p e.symm,X6e e2,X6e e3,Xo,Xo,X01,X01,Xx,Xx,e _ hA.2]
      exact Xrm hk8 _
     ·have e':¬ Agr N γ β:=fun h=>e h.symm
      rw [X6e e,X6e e',Xo,Xo,X06,X06]
      have hF:=Xe7 (N:=N) (F:=fun β=>flipB β g.a.toNat) (fun β=>X3j β _) (fun β γ h=>X8o h) β γ
      by_cases e2:Agr N (flipB β g.a.toNat) γ
      ·rw [X7p e2,X7p (hF.1 e2),Xx,Xx]
       have h1:=e2 _ hA.2
       rw [X8l] at h1
       rw [← h1,Bool.not_not]
       exact Xq8 hk8 _
      ·rw [X6e e2,X6e (fun h=>e2 (hF.2 h)),Xo,Xo,Xo]
theorem Y1f(N j:Nat) : eb N j=ebA N (pt N j):=rfl
theorem Xg7(f g:Nat→Rg) : ∀ n,sumN (fun k=>f k+g k) n=sumN f n+sumN g n
 | 0=>(X01 0).symm
 | n+1=>by
  rw [sumN,sumN,sumN,Xg7 f g n]
  simp only [X04,Xn,X08]
theorem Xf5(f:Nat→Nat→Rg)(m:Nat) : ∀ n,sumN (fun i=>sumN (f i) m) n=sumN (fun k=>sumN (fun i=>f i k) n) m
 | 0=>(Xbs m fun _ _=>rfl).symm
 | n+1=>by
  show sumN (fun i=>sumN (f i) m) n+sumN (f n) m=sumN (fun k=>sumN (fun i=>f i k) n+f n k) m
  rw [Xf5 f m n,Xg7]
theorem Xmo{N:Nat}{g:Gt}(hg:gOk (N:Int) g=true){i k:Nat}(hi:i<2^N)(hk:k<2^N) : zc N g i k=act g (eb N k) (pt N i):=by
 have hN:N≤5:=by have:=(X27 hg).1;omega
 rw [← X68 hg hi,X5b (t:=k) _ hk fun j hj hne=>by rw [X6g hN hj hk,if_neg hne,Xo],X6g hN hk hk,if_pos rfl,Xx]
theorem Xo9{N:Nat}{g:Gt}(hg:gOk (N:Int) g=true)(w v:St) : sumN (fun i=>w (pt N i)*act g v (pt N i)) (2^N)=sumN (fun i=>tact g w (pt N i)*v (pt N i)) (2^N):=by
 rw [X5k _ fun i hi=>by rw [← X68 hg hi,Xa8],Xf5]
 refine X5k _ fun k hk=>?_
 rw [Xgz,← X68 hg hk,Xv,Xa8,Xa8]
 refine X5k _ fun i hi=>?_
 have h1:zc N g i k=(if g.k=3 then om^4 else 1)*zc N g k i:=by
  rw [Xmo hg hi hk,Xmo hg hk hi,Y1f,Y1f,Xmh hg,Xgz]
 rw [h1]
 simp only [Xa,Xj,Xv]
theorem Xje{N:Nat}(w:St) : ∀ (l:List Gt) (v:St),(∀ g ∈ l,gOk (N:Int) g=true)→sumN (fun i=>w (pt N i)*run l v (pt N i)) (2^N)=sumN (fun i=>trun l w (pt N i)*v (pt N i)) (2^N)
 | [],v,_=>rfl
 | g::l,v,h=>by
  show sumN (fun i=>w (pt N i)*run l (act g v) (pt N i)) (2^N)=_
  rw [Xje w l (act g v) fun g' hg'=>h g' (by simp [hg']),Xo9 (h g (by simp))]
  rfl
theorem Xpq{N:Nat}(hN:N≤5){l:List Gt}(h:∀ g ∈ l,gOk (N:Int) g=true){i j:Nat}(hi:i<2^N)(hj:j<2^N) : run l (eb N j) (pt N i)=trun l (eb N i) (pt N j):=by
 have:=Xje (eb N i) l (eb N j) h
 rw [X5b (t:=i) _ hi fun k hk hne=>by rw [X6g hN hk hi,if_neg hne,Xq],X5b (t:=j) _ hj fun k hk hne=>by rw [X6g hN hk hj,if_neg hne,Xo]] at this
 rw [X6g hN hi hi,X6g hN hj hj,if_pos rfl,if_pos rfl,Xg,Xx] at this
 exact this
def lift(v:Nat)(a:Nat→Bool)(b:Bool) : Nat→Bool:=fun i=>if i<v then a i else if i=v then b else a (i-1)
theorem X4b{v i:Nat}(a:Nat→Bool)(b:Bool)(h:i<v) : lift v a b i=a i:=if_pos h
theorem X48(v:Nat)(a:Nat→Bool)(b:Bool) : lift v a b v=b:=by unfold lift;rw [if_neg (by omega),if_pos rfl]
theorem X6a{v i:Nat}(a:Nat→Bool)(b:Bool)(h:v≤i) : lift v a b (i+1)=a i:=by unfold lift;rw [if_neg (by omega),if_neg (by omega),Nat.add_sub_cancel]
theorem Xjm{x:Nat}(hx:x<2^24)(a:Nat→Bool) : (List.range 62).all (fun i=>!x.testBit i||a i)=true↔∀ i,x.testBit i=true→a i=true:=by
 rw [List.all_eq_true]
 constructor
 ·intro h i hi
  have hlt:i<62:=by
   rcases Nat.lt_or_ge i 62 with h'|h'
   ·exact h'
   ·rw [Nat.testBit_lt_two_pow (Nat.lt_of_lt_of_le hx (Nat.pow_le_pow_right (by decide) (by omega)))] at hi;cases hi
  have:=h i (List.mem_range.2 hlt)
  rw [hi] at this
  simpa using this
 ·intro h i _
  cases e:x.testBit i
  ·rfl
  ·rw [h i e];rfl
theorem Xaw{v x:Nat}(hx:x<2^24) : drN v x<2^24:=Nat.lt_of_le_of_lt (X9l v x) hx
theorem Xbn{v:Nat}{m:Int}(a:Nat→Bool)(b:Bool)(h:Mk m) : subI (lift v a b) m=if bitQ v m&&!b then 0 else subI a (drI v m):=by
 obtain ⟨x,hx,rfl⟩:=h.nat
 rw [X1s,X1q]
 unfold subI
 rw [Int.toNat_natCast,Int.toNat_natCast]
 have hd:=Xaw (v:=v) hx
 have key:(List.range 62).all (fun i=>!x.testBit i||lift v a b i)=true↔(¬ (x.testBit v&&!b)=true∧(List.range 62).all (fun i=>!(drN v x).testBit i||a i)=true):=by
  rw [Xjm hx,Xjm hd]
  constructor
  ·intro h
   refine ⟨fun h2=>?_,fun i hi=>?_⟩
   ·simp only [Bool.and_eq_true,Bool.not_eq_true'] at h2
    have:=h v h2.1
    rw [X48,h2.2] at this;cases this
   ·rw [X2c] at hi
    split at hi
    ·rename_i hlt
     have:=h i hi
     rwa [X4b a b hlt] at this
    ·rename_i hge
     have:=h (i+1) hi
     rwa [X6a a b (by omega)] at this
  ·rintro ⟨h1,h2⟩ i hi
   rcases Nat.lt_trichotomy i v with h|h|h
   ·rw [X4b a b h]
    exact h2 i (by rw [X2c,if_pos h];exact hi)
   ·subst h
    rw [X48]
    rw [hi] at h1
    simpa using h1
   ·obtain ⟨j,rfl⟩ : ∃ j,i=j+1:=⟨i-1,by omega⟩
    rw [X6a a b (by omega)]
    exact h2 j (by rw [X2c,if_neg (by omega)];exact hi)
 by_cases e1:(x.testBit v&&!b)=true
 ·rw [if_pos e1,if_neg fun h=>(key.1 h).1 e1]
 ·rw [if_neg e1]
  by_cases e2:(List.range 62).all (fun i=>!(drN v x).testBit i||a i)=true
  ·rw [if_pos e2,if_pos (key.2 ⟨e1,e2⟩)]
  ·rw [if_neg e2,if_neg fun h=>e2 (key.1 h).2]
theorem Xgc(v x:Nat)(a:Nat→Bool)(b:Bool) : ∀ k,(List.range (v+k+1)).countP (fun i=>x.testBit i&&lift v a b i)=(List.range (v+k)).countP (fun i=>(drN v x).testBit i&&a i)+if (x.testBit v&&b)=true then 1 else 0
 | 0=>by
  rw [Nat.add_zero,List.range_succ,List.countP_append,List.countP_singleton]
  congr 1
  ·refine List.countP_congr fun i hi=>?_;have hi:=List.mem_range.1 hi
   rw [X4b a b hi,X2c,if_pos hi]
  ·rw [X48]
 | k+1=>by
  rw [List.range_succ,List.countP_append,show v+(k+1)=v+k+1 from rfl,Xgc v x a b k,List.countP_singleton,List.range_succ (n:=v+k),List.countP_append,List.countP_singleton,X6a a b (show v≤v+k by omega),X2c,if_neg (show ¬ v+k<v by omega)]
  omega
theorem Xb8{v:Nat}{m:Int}(a:Nat→Bool)(b:Bool)(h:Mk m)(hv:v<24) : numB (lift v a b) m=numB a (drI v m)+if (bitQ v m&&b)=true then 1 else 0:=by
 obtain ⟨x,hx,rfl⟩:=h.nat
 rw [X1s,X1q]
 unfold numB
 rw [Int.toNat_natCast,Int.toNat_natCast]
 have h1:=Xgc v x a b (61-v)
 rw [show v+(61-v)=61 from by omega] at h1
 rw [h1]
 have h2:(List.range 62).countP (fun i=>(drN v x).testBit i&&a i)=(List.range 61).countP (fun i=>(drN v x).testBit i&&a i):=by
  rw [List.range_succ,List.countP_append,List.countP_singleton]
  rw [Nat.testBit_lt_two_pow (Nat.lt_of_lt_of_le (Xaw hx) (Nat.pow_le_pow_right (by decide) (by decide)))]
  simp
 rw [h2]
theorem Xel{v:Nat}{u:Af}(a:Nat→Bool)(b:Bool)(h:Mk u.m)(hv:v<24) : avI (lift v a b) u=(avI a (dA v u)+if (bitQ v u.m&&b)=true then 1 else 0) % 2:=by
 unfold avI dA
 simp only
 rw [Xb8 a b h hv]
 split<;>omega
theorem Xzo(a:Nat→Bool)(u:Af) : avI a u=if (avI a u==1)=true then 1 else 0:=Xjx _ (X3r a u)
theorem Xw2{v:Nat}{u y:Af}(a:Nat→Bool)(hu:AO u)(hy:AO y)(hv:v<24)(hn:bitQ v y.m=false) : avI a (dA v (sA v y u))=avI (lift v a (avI a (dA v y)==1)) u:=by
 rw [Xel a _ hu.1 hv]
 unfold sA
 cases e:bitQ v u.m
 ·rw [if_neg (by decide)]
  simp only [Bool.false_and,Bool.false_eq_true,if_false,Int.add_zero]
  have:=X3r a (dA v u)
  omega
 ·rw [if_pos rfl,Bool.true_and,← Xzo]
  obtain ⟨x,hx,ex⟩:=hu.1.nat;obtain ⟨z,hz,ez⟩:=hy.1.nat
  have hx2:drI v (xI u.m (pw v))=drI v u.m:=Xah hu.1 hv
  obtain ⟨x2,hx2',ex2⟩:=(hu.1.xor (X3h hv)).nat
  have h3:dA v ⟨xI (xI u.m (pw v)) y.m,xI u.t y.t⟩=aXor (dA v u) (dA v y):=by
   unfold dA aXor
   simp only
   congr 1
   rw [← hx2,ex2,ez]
   unfold xI
   rw [X1f (X0u hx2') (X0u hz),X1q,Xff,X1q,X1q,X1f (X0u (Xaw hx2')) (X0u (Xaw hz))]
  rw [h3,Xhc a (u:=dA v u) (v:=dA v y) ⟨hu.1.dr,hu.2⟩ ⟨hy.1.dr,hy.2⟩]
theorem Xb3{n:Nat} : ∀ (k:Nat) {F:St} {j:Nat},n≤j→j≤n+k→(∀ a b,(∀ i,i<n+k+1→a i=b i)→F a=F b)→∀ a,sumB n (k+1) F a=sumB n k (fun b=>F (lift j b false)+F (lift j b true)) a
 | 0,F,j,h1,h2,hF,a=>by
  have:j=n:=by omega
  subst this
  show F (upB a (j+0) false)+F (upB a (j+0) true)=F (lift j a false)+F (lift j a true)
  have e:∀ z,F (upB a (j+0) z)=F (lift j a z):=fun z=>hF _ _ fun i hi=>by
   unfold upB
   by_cases e:i=j
   ·subst e;rw [if_pos (by omega),X48]
   ·rw [if_neg (by omega),X4b a z (by omega)]
  rw [e,e]
 | k+1,F,j,h1,h2,hF,a=>by
  by_cases hj:j=n+(k+1)
  ·subst hj
   show sumB n (k+1) (fun b=>F (upB b (n+(k+1)) false)+F (upB b (n+(k+1)) true)) a=_
   refine X2l _ (fun b=>?_) a
   have e:∀ z,F (upB b (n+(k+1)) z)=F (lift (n+(k+1)) b z):=fun z=>hF _ _ fun i hi=>by
    unfold upB
    by_cases e:i=n+(k+1)
    ·subst e;rw [if_pos rfl,X48]
    ·rw [if_neg e,X4b b z (by omega)]
   rw [e,e]
  ·show sumB n (k+1) (fun b=>F (upB b (n+(k+1)) false)+F (upB b (n+(k+1)) true)) a=_
   rw [Xb3 k (j:=j) h1 (by omega) (fun b c hbc=>by
    have e:∀ z,F (upB b (n+(k+1)) z)=F (upB c (n+(k+1)) z):=fun z=>hF _ _ fun i hi=>by
     unfold upB
     split
     ·rfl
     ·exact hbc i (by omega)
    rw [e,e]) a]
   show _=sumB n k (fun b=>_) a
   refine X2l _ (fun b=>?_) a
   have e:∀ z c,F (upB (lift j b c) (n+(k+1)) z)=F (lift j (upB b (n+k) z) c):=fun z c=>hF _ _ fun i hi=>by
    rcases Nat.lt_trichotomy i j with h|h|h
    ·unfold upB
     rw [if_neg (by omega),X4b b c h,X4b _ c h,if_neg (by omega)]
    ·subst h
     unfold upB
     rw [if_neg (by omega),X48,X48]
    ·obtain ⟨m,rfl⟩ : ∃ m,i=m+1:=⟨i-1,by omega⟩
     rw [X6a _ c (by omega)]
     unfold upB
     by_cases e:m=n+k
     ·subst e;rw [if_pos (by omega),if_pos rfl]
     ·rw [if_neg (by omega),if_neg e,X6a b c (by omega)]
   simp only [e]
   simp only [X04,Xn,X08]
end Go.Proofs.YtiejkplemjkjoaaGreatDoor
