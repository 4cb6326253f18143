/-
  What is proved: for every circuit, index and list of qubits, the program's ShorterRun answers as the reference's does, leaves its arguments as they were and hands out memory of its own, and the arguments read as before. Conditions: none beside the table of powers of ten that the card ties to the program's text.
-/
import Derived.Test.YtblmmikapnflcaaGreatDoorQ4
import Derived.Test.YtblmmikapnflcaaGreatDoorQ3
import Derived.Test.YtblmmikapnflcaaGreatDoorQ2
import Derived.Test.YtblmmikapnflcaaGreatDoorCards
import Derived.Test.YtblmmikapnflcaaGreatDoorTie
import Derived.Lay
set_option linter.unusedVariables false
set_option linter.unusedSimpArgs false
set_option maxHeartbeats 1000000
set_option maxRecDepth 4000
set_option linter.unusedSectionVars false
namespace Go.Proofs.YtblmmikapnflcaaGreatDoor
open Go.RowKit
theorem Xqk(W:World)(c:Cx)(Ac:Option Addr)(cc:Nat)(d:Rd W W.heap.size 115 encG Ac c.gs)(N:c.gs.length≤cc)(p:Int)(Aqs:Option Addr)(cqs:Nat)(qs:List Int)(y:Rd W W.heap.size 3 encI Aqs qs)(Aws:Option Addr)(cws:Nat)(ws:List Gt)(t:Rd W W.heap.size 115 encG Aws ws)(dG:c.gs.length≤1000000000)(dT:ws.length≤1000000)(bZ:qs.length≤1048576) : Ret Tryz.prog 90 [.agg #[vi c.n,.slice Ac c.gs.length cc],vi p,.slice Aqs qs.length cqs,.slice Aws ws.length cws] W (fun v w=>∃ A9 e9 B9 f9,v=.tuple #[.agg #[vi (((runP c p qs).bind fun run=>repX c p run qs ws).getD rpZ).pos,.slice A9 (((runP c p qs).bind fun run=>repX c p run qs ws).getD rpZ).old.length e9,.slice B9 (((runP c p qs).bind fun run=>repX c p run qs ws).getD rpZ).new.length f9],.bool ((runP c p qs).bind fun run=>repX c p run qs ws).isSome]∧Own w W.heap.size 115 3 encG A9 e9 (((runP c p qs).bind fun run=>repX c p run qs ws).getD rpZ).old∧Own w W.heap.size 115 3 encG B9 f9 (((runP c p qs).bind fun run=>repX c p run qs ws).getD rpZ).new∧Apart A9 B9∧Below W.heap.size W w):=by
 obtain ⟨rr,c4⟩ : ∃ rr,rr=(runP c p qs).getD []:=⟨_,rfl⟩
 obtain ⟨ro,bH⟩ : ∃ ro:Bool,ro=(runP c p qs).isSome:=⟨_,rfl⟩
 refine enter Tryz.func90 rfl 100 rfl rfl ?_;intro a z
 have D:=bz W
 refine Zs z fun _ dH=>?_;refine Zf (X0i (zs:=[vi c.n,.slice Ac c.gs.length cc]) rfl rfl) ?_;rintro _ w1 ⟨b5,rfl,dI,g,o⟩;have dN:=Nat.le_trans D.size dI;have d:=d.below g;have y:=y.below g;have t:=t.below g;have D:=btr D g;refine Zf (X9 (zs:=[vi 0,.slice none 0 0,.slice none 0 0]) X33 rfl) ?_;rintro _ w2 ⟨b8,rfl,dJ,g,f⟩;have aS:=Nat.le_trans D.size dJ;have o:=o.below g;have d:=d.below g;have y:=y.below g;have t:=t.below g;have D:=btr D g;refine Za rfl<|Zx dH fun a z _ dK=>?_;refine Ze (Vn X1r o)<|Zm rfl<|Zm rfl<|Zf (X22 (vs:=[.agg #[vi c.n,.slice Ac c.gs.length cc],vi p,.slice Aqs qs.length cqs]) rfl Xan (by have hq:=Xld w2 c Ac cc d.top p Aqs cqs qs y.top dG bZ;rw [← c4,← bH] at hq;exact hq)) ?_;rintro _ w3 ⟨aI,aJ,rfl,e,g⟩;have e:=e.lower D.size;have o:=o.below g;have f:=f.below g;have d:=d.below g;have y:=y.below g;have t:=t.below g;have D:=btr D g;refine Zm rfl<|Ze (X3 (vs:=[.slice aI rr.length aJ,.bool ro]) rfl rfl)<|Ze (X3 (vs:=[.slice aI rr.length aJ,.bool ro]) rfl rfl)<|Za rfl<|Za rfl ?_;refine ZX dK fun a z _ cA=>?_;refine Zs z fun _ cB=>?_;refine Zm rfl<|Ze (X0y rfl)<|Zt cB fun a z=>?_
 refine Xl z rfl (fun aK=>?_) (fun aK=>?_)
 ·have E:=aK
  have cC:(runP c p qs).isSome=false:=by rw [← bH];simpa using aK
  have aC:((runP c p qs).bind fun run=>repX c p run qs ws)=none:=by rw [X8k cC];rfl
  refine Zs z fun _ cD=>?_;refine Ze (Xg (ps:=[]) (cs:=[vi 0,.slice none 0 0,.slice none 0 0]) rfl (fun _=>by first|rfl|kernel_rfl))<|Zo (Vw [vi 0,.slice none 0 0,.slice none 0 0] X17 f) ?_;rintro _ w4 ⟨M,hb⟩;have A:=f;have D:=Below.only D M aS;have f:=hb;refine Za rfl<|Zt cD fun a z=>?_;refine wp_ret<|X4<|X2 z (X0w z rfl (ResV.cellN (l:=[vi 0,.slice none 0 0,.slice none 0 0]) rfl X1i (f.at 0) rfl) rfl) ?_
  rw [aC]
  exact ⟨none,0,none,0,rfl,(Own.nil _ _ _ _ _),(Own.nil _ _ _ _ _),(Apart.none_l _),D⟩
 have E:=aK
 obtain ⟨cE,bI,cF⟩:=Xb7 (c:=c) (p:=p) (qs:=qs) (by rw [← bH];simpa using aK)
 have b9:rr=runL c p qs:=by rw [c4,cF];rfl
 have dO:c.gs.length≤400:=(X14 cE).2.1
 obtain ⟨j9,aU,dU,cG,bE⟩:=X9c bI
 rw [← b9] at aU bE
 have dW:=Xci aU cG
 have dP:rr.length≤6:=by rw [b9];exact X6w ..
 have dQ:1≤rr.length:=by rw [b9];exact X7j bI
 have cH:0≤p:=by obtain ⟨_,_,k9,e9,_⟩:=X2a bI;omega
 have bJ:((runP c p qs).bind fun run=>repX c p run qs ws)=repX c p rr qs ws:=by rw [cF,b9];rfl
 refine wp_skip<|cA _ _<|wp_seq_k fun _ cJ=>?_;refine Zs z fun _ cK=>?_;refine Zm rfl<|Ze (X0x rfl Xh)<|Zm rfl<|Zt cK fun a z=>?_;refine wp_block<|X0d (σ:=Nat) (fun (k:Nat) (a:Act) (w:World)=>Fr a 100 [(1,vi p),(2,.slice Aqs qs.length cqs),(3,.slice Aws ws.length cws),(4,.pointer (some ⟨b5,0,none⟩)),(8,.pointer (some ⟨b8,0,none⟩)),(10,.slice aI rr.length aJ),(27,.slice Aws ws.length cws),(28,vi (ws.length:Int)),(29,vi (k:Int))]∧(k≤ws.length)∧((ws.take k).all (ftB c.n qs)=true)∧Blk w b5 28 [vi c.n,.slice Ac c.gs.length cc]∧Blk w b8 46 [vi 0,.slice none 0 0,.slice none 0 0]∧Rd w W.heap.size 115 encG Ac c.gs∧Rd w W.heap.size 3 encI Aqs qs∧Rd w W.heap.size 115 encG Aws ws∧Own w W.heap.size 3 1 encI aI aJ rr∧c.gs.length≤cc∧Below W.heap.size W w) (fun (k:Nat)=>ws.length-k) 0 ?_ ?_
 ·exact ⟨z.sb,(Nat.zero_le _),(by simp),o,f,d,y,t,e,N,D⟩
 rintro k a w5 ⟨z,bK,bL,o,f,d,y,t,e,N,D⟩;refine Zs z fun _ cL=>?_;refine Ze (X12 rfl rfl)<|ZX cL fun a z _ cM=>?_
 refine Xl z rfl (fun aD=>?_) (fun aD=>?_)
 ·have G:=aD;have aD:=of_decide_eq_true aD
  obtain ⟨Q,aZ⟩:=Xm (l:=ws) (k:=k) (by omega)
  refine wp_skip<|cM _ _<|wp_seq_k fun _ cN=>?_;refine wp_block<|Zs z fun _ cO=>?_;refine Zi (k:=k) (u:=Q) (enc:=encG) (l:=ws) trivial rfl rfl Xh X0s Xe t aZ rfl ?_;intro dX bM;refine Ze (X07 (l:=[vi Q.k,vi Q.a,vi Q.b]) rfl X0m bM rfl)<|Zf (X9 (zs:=[vi 0,vi 0,vi 0]) X32 rfl) ?_;rintro _ w6 ⟨dY,rfl,b0,g,aA⟩;have aP:=Nat.le_trans D.size b0;have cP:=d.away b0;have cQ:=t.away b0;have o:=o.below g;have f:=f.below g;have d:=d.below g;have y:=y.below g;have t:=t.below g;have e:=e.below g;have D:=btr D g;refine Zo (Vw [vi Q.k,vi Q.a,vi Q.b] X0s aA) ?_;rintro _ w7 ⟨M,hb⟩;have A:=aA;have o:=o.only M (Blk.ne o A rfl);have f:=f.only M (Blk.ne f A rfl);have d:=d.only M aP;have y:=y.onlyT M A rfl;have t:=t.only M aP;have e:=e.onlyT M A rfl;have D:=Below.only D M aP;have aA:=hb;refine ZX cO fun a z _ cR=>?_;refine X0n (fun a w=>Fr a 100 [(1,vi p),(2,.slice Aqs qs.length cqs),(3,.slice Aws ws.length cws),(4,.pointer (some ⟨b5,0,none⟩)),(8,.pointer (some ⟨b8,0,none⟩)),(10,.slice aI rr.length aJ),(27,.slice Aws ws.length cws),(28,vi (ws.length:Int)),(29,vi (k:Int)),(48,.bool ((!(gOk c.n Q))||((Q.k != 12)&&(!(insB Q qs)))))]∧Below w7.heap.size w7 w) ?_ ?_
  ·have aQ:Below w7.heap.size w7 w7:=Below.refl _ _
   refine Zr z<|Ze (Vd rfl X1s 0)<|Ze (X0 rfl X7 (o.at 0))<|Ze (Vn X0m aA)<|Zf (Vc (Xrq _ c.n Q) Xdw) ?_;rintro _ w8 ⟨rfl,g⟩;have aA:=aA.below g;have y:=y.below g;have D:=btr D g;have aQ:=btr aQ g;refine Ze (X0y rfl)<|Zm rfl ?_
   refine Zg 38 rfl (fun C=>?_) (fun C=>?_)
   ·refine Zp (gP C) ?_;refine Zp (gP C) ?_;refine Zp (gP C) ?_;refine Zp (gP C) ?_;refine Zp (gP trivial) ?_;refine Zp (gP trivial) ?_;refine Zp (gP trivial) ?_;refine Zp (gP trivial) ?_;refine Zp (gP C) ?_;refine Ze (Xp rfl C rfl) ?_;refine Zn fun a z=>?_
    have b1:Below w7.heap.size w7 w8:=aQ
    exact ⟨z.sub ⟨rfl,rfl,rfl,rfl,rfl,rfl,rfl,rfl,rfl,X1 rfl (by first|rfl|(simp only [E,G,C,bs];done)|simp [E,G,C]),trivial⟩,b1⟩
   refine Zv (gW C) (Vd rfl X0p 0) ?_;refine Zv (gW C) (X0 rfl X7 (aA.at 0)) ?_;refine Zv (gW C) (X2d rfl rfl) ?_;refine Zv (gW C) (Xa rfl) ?_
   refine Zg 42 rfl (fun H=>?_) (fun H=>?_)
   ·refine Zv (gW H) (Vn X0m aA) ?_;refine Zv (gW H) (Xa rfl) ?_;refine Zk (gW H) (Vc (Xm4 _ Q Aqs cqs qs y.top bZ) Xay) ?_;rintro _ w9 ⟨rfl,g⟩;have D:=btr D g;have aQ:=btr aQ g;refine Zv (gW H) (X0y rfl) ?_;refine Zv (gW C) (Xp rfl H rfl) ?_;refine Ze (Xk rfl C rfl) ?_;refine Zn fun a z=>?_
    have b1:Below w7.heap.size w7 w9:=aQ
    exact ⟨z.sub ⟨rfl,rfl,rfl,rfl,rfl,rfl,rfl,rfl,rfl,X1 rfl (by first|rfl|(simp only [E,G,C,H,bs];done)|simp [E,G,C,H]),trivial⟩,b1⟩
   refine Zp (gP H) ?_;refine Zp (gP H) ?_;refine Zp (gP H) ?_;refine Zp (gP H) ?_;refine Zv (gW C) (Xk rfl H rfl) ?_;refine Ze (Xk rfl C rfl) ?_;refine Zn fun a z=>?_
   have b1:Below w7.heap.size w7 w8:=aQ
   exact ⟨z.sub ⟨rfl,rfl,rfl,rfl,rfl,rfl,rfl,rfl,rfl,X1 rfl (by first|rfl|(simp only [E,G,C,H,bs];done)|simp [E,G,C,H]),trivial⟩,b1⟩
  rintro a e8 ⟨z,g⟩;have o:=o.below g;have f:=f.below g;have d:=d.below g;have y:=y.below g;have t:=t.below g;have e:=e.below g;have D:=btr D g;refine cR _ _ ?_
  refine Xl z rfl (fun aL=>?_) (fun aL=>?_)
  ·have bN:=aL
   have h8:ftB c.n qs Q=false:=by have h9:=aL;rw [Xff] at h9;simpa using h9
   have aC:=bJ.trans (Xb3 (Xeu aZ h8));refine Zs z fun _ cS=>?_;refine Ze (Xg (ps:=[]) (cs:=[vi 0,.slice none 0 0,.slice none 0 0]) rfl (fun _=>by first|rfl|kernel_rfl))<|Zo (Vw [vi 0,.slice none 0 0,.slice none 0 0] X17 f) ?_;rintro _ eA ⟨M,hb⟩;have A:=f;have D:=Below.only D M aS;have f:=hb;refine Za rfl<|Zt cS fun a z=>?_;refine wp_ret<|Xy<|X4<|X4 ?_;refine Xy<|X4<|X2 z (X0w z rfl (ResV.cellN (l:=[vi 0,.slice none 0 0,.slice none 0 0]) rfl X1i (f.at 0) rfl) rfl) ?_
   rw [aC]
   exact ⟨none,0,none,0,rfl,(Own.nil _ _ _ _ _),(Own.nil _ _ _ _ _),(Apart.none_l _),D⟩
  have bN:=aL
  have h8:ftB c.n qs Q=true:=by have h9:=aL;rw [Xff] at h9;simpa using h9
  refine wp_skip<|Xu<|cN _ _<|Zr z ?_;refine Ze (X06 rfl rfl (by omega) (by omega))<|Zm rfl ?_;refine Zn fun a z=>?_;refine Xs ?_;exact ⟨k+1,⟨z.sb,(by omega),(Xgu bL aZ h8),o,f,d,y,t,e,N,D⟩,(by omega)⟩
 have G:=aD;have aD:=of_decide_eq_false aD
 have bF:ws.all (ftB c.n qs)=true:=by rw [List.take_of_length_le (by omega)] at bL;exact bL
 refine wp_exit<|Xq<|Xq<|X0b ?_;refine cJ _ _<|Zs z fun _ cT=>?_;refine Zm rfl<|Zm rfl<|Ze (X0x rfl X09)<|Ze (X1h rfl rfl (by omega) (by omega))<|Zi (k:=(rr.length-1)) (u:=(lastI rr)) (enc:=encI) (l:=rr) trivial rfl rfl X09 X1k X08 e.rd bE (by omega) ?_;intro eB bO;refine Ze (X0 rfl X7 bO)<|Za rfl<|Zx cT fun a z _ cU=>?_;refine Zm rfl<|Ze (Vd rfl X0z 1)<|Ze (X0 rfl X16 (o.at 1))<|Zm rfl<|Zm rfl ?_;refine Ze (X06 rfl rfl (by omega) (by omega)) ?_;have cV:=((d.top).takeK Xe (j9+1)).dropK Xe (c:=cc) (Xgm N (j9+1)) p.toNat;refine Ze (Xq1 (l:=c.gs) (k:=p.toNat) (m:=(j9+1)) rfl rfl rfl Xh X0s (by omega) (by rw [aU];omega) (by omega) (by omega) N)<|Zf (Vc (X58 _ (if cc=p.toNat then Ac else Ac.map (·.add (p.toNat*3))) (cc-p.toNat) ((c.gs.take (j9+1)).drop p.toNat) cV.top (by simp;omega)) X2o) ?_;rintro _ eC ⟨aG,aH,rfl,i,g⟩;have i:=i.lower D.size;have o:=o.below g;have f:=f.below g;have d:=d.below g;have t:=t.below g;have e:=e.below g;have D:=btr D g;refine Zm rfl<|Zf (Vc (X58 _ Aws cws ws t.top (by omega)) X2o) ?_;rintro _ eD ⟨bC,bD,rfl,aB,g⟩;have aW:=i.apart aB (Nat.le_refl _);have aB:=aB.lower D.size;have o:=o.below g;have f:=f.below g;have d:=d.below g;have e:=e.below g;have i:=i.below g;have D:=btr D g;refine Ze (Xg (ps:=[(0,vi p),(1,.slice aG ((c.gs.take (j9+1)).drop p.toNat).length aH),(2,.slice bC ws.length bD)]) (cs:=[vi p,.slice aG ((c.gs.take (j9+1)).drop p.toNat).length aH,.slice bC ws.length bD]) rfl (fun _=>by first|rfl|kernel_rfl))<|Zf (X9 (zs:=[vi 0,.slice none 0 0,.slice none 0 0]) X33 rfl) ?_;rintro _ eE ⟨b46,rfl,cW,g,B⟩
 have cX:b8≠b46:=by have:=f.lt;omega
 have b2:=Nat.le_trans D.size cW;have o:=o.below g;have f:=f.below g;have d:=d.below g;have e:=e.below g;have i:=i.below g;have aB:=aB.below g;have D:=btr D g;refine Zo (Vw [vi p,.slice aG ((c.gs.take (j9+1)).drop p.toNat).length aH,.slice bC ws.length bD] X17 B) ?_;rintro _ eF ⟨M,hb⟩;have A:=B;have o:=o.only M (Blk.ne o A rfl);have f:=f.only M (by omega);have d:=d.onlyT M A rfl;have e:=e.onlyT M A rfl;have i:=i.onlyT M A rfl;have aB:=aB.onlyT M A rfl;have D:=Below.only D M b2;have B:=hb;refine ZX cU fun a z _ cY=>?_;refine Zs z fun _ d5=>?_;refine Zm rfl<|Za rfl<|Zt d5 fun a z=>?_;refine wp_block<|X0d (σ:=Nat×Int×(List Gt)) (fun (s:Nat×Int×(List Gt)) (a:Act) (w:World)=>match s with|(k,x,q)=>∃ aM aR,Fr a 100 [(4,.pointer (some ⟨b5,0,none⟩)),(8,.pointer (some ⟨b8,0,none⟩)),(10,.slice aI rr.length aJ),(14,vi (lastI rr)),(15,.pointer (some ⟨b46,0,none⟩)),(16,vi x)]∧(x=p+(k:Int))∧(k≤winN rr p)∧(q=ws++gapL c rr p k)∧Blk w b5 28 [vi c.n,.slice Ac c.gs.length cc]∧Blk w b8 46 [vi 0,.slice none 0 0,.slice none 0 0]∧Blk w b46 46 [vi p,.slice aG ((c.gs.take (j9+1)).drop p.toNat).length aH,.slice aM q.length aR]∧Rd w W.heap.size 115 encG Ac c.gs∧Own w W.heap.size 3 1 encI aI aJ rr∧Own w W.heap.size 115 3 encG aG aH ((c.gs.take (j9+1)).drop p.toNat)∧Own w W.heap.size 115 3 encG aM aR q∧c.gs.length≤cc∧Apart aG aM∧Below W.heap.size W w) (fun (s:Nat×Int×(List Gt))=>match s with|(k,x,q)=>winN rr p-k) (0,p,ws) ?_ ?_
 ·exact ⟨bC,bD,z.sb,(by simp),(Nat.zero_le _),(by rw [Xde,List.append_nil]),o,f,B,d,e,i,aB,N,aW,D⟩
 rintro ⟨k,x,q⟩ a dL ⟨aM,aR,z,hx,hk,hq,o,f,B,d,e,i,J,N,L,D⟩;refine wp_seq_k fun _ d6=>?_;refine Zs z fun _ d7=>?_;refine Zm rfl<|Zm rfl<|Ze (Xc5 rfl rfl)<|Zt d7 fun a z=>?_
 refine Xl z rfl (fun U=>?_) (fun U=>?_)
 ·have aE:=U;have U:=of_decide_eq_true U
  have bK:k<winN rr p:=by have h9:=U;rw [aU] at h9;omega
  obtain ⟨u9,d8⟩:=Xm (l:=c.gs) (k:=p.toNat+k) (by omega)
  have dR:=X7g c rr p k
  have d9:q.length≤1000000+k:=by rw [hq,List.length_append];omega
  refine wp_skip<|d6 _ _<|wp_seq_k fun _ bG=>?_;refine wp_block<|Zs z fun _ dA=>?_;refine Zm rfl<|Zm rfl<|Zf (Vc (Xrz _ aI aJ rr e.rd.top x (by omega)) Xf4) ?_;rintro _ eG ⟨rfl,g⟩;have o:=o.below g;have f:=f.below g;have B:=B.below g;have d:=d.below g;have e:=e.below g;have i:=i.below g;have J:=J.below g;have D:=btr D g;refine Ze (X0y rfl)<|Zt dA fun a z=>?_
  refine Xl z rfl (fun aN=>?_) (fun aN=>?_)
  ·have bP:=aN
   have hT:hasB rr (p+(k:Int))=false:=by have h9:=aN;rw [Xbi,hx] at h9;simpa using h9
   refine X0f none (fun j=>[8,10].contains j) mixed ?_;intro eH g;have o:=o.below g;have f:=f.below g;have B:=B.below g;have d:=d.below g;have e:=e.below g;have i:=i.below g;have J:=J.below g;have D:=btr D g;refine Yb z<|Yo 0 rfl (fun _=>Vd rfl X2l 2)<|Ye 1 rfl (X0 rfl X16 (B.at 2))<|Yo 2 rfl (fun _=>Vd rfl X0z 1)<|Ye 3 rfl (X0 rfl X16 (o.at 1))<|Yo 4 rfl (fun _=>Xa rfl) ?_;refine Yi (k:=(p.toNat+k)) (u:=u9) (enc:=encG) (l:=c.gs) 5 rfl trivial rfl rfl Xh X0s Xe d d8 (by omega) ?_;intro eI bQ;refine Ye 6 rfl (X07 (l:=[vi u9.k,vi u9.a,vi u9.b]) rfl X0m bQ rfl)<|Y1 7 ?_;refine Yk rfl trivial (X6 (k:=1) (vs:=[.agg #[vi u9.k,vi u9.a,vi u9.b]]) (zs:=[vi u9.k,vi u9.a,vi u9.b]) rfl Xh Xj rfl rfl) (fun _ _ ⟨_,_,_,h,_⟩=>h) ?_;rintro _ eJ ⟨eK,rfl,aT,g,b3⟩;have dM:=Nat.le_trans D.size aT;have dB:=d.away aT;have bX:=i.away aT;have aX:=J.away aT;have o:=o.below g;have f:=f.below g;have B:=B.below g;have d:=d.below g;have e:=e.below g;have i:=i.below g;have J:=J.below g;have D:=btr D g;refine Y1 8<|Yt rfl trivial rfl (X13 (enc:=encG) (l:=(q)) (l2:=([u9])) (B0:=W.heap.size) rfl rfl Xh Xj Xe X0c J (Rd.of_blk b3 rfl _ b3.lt) (by simp only [maxLen];simp;omega) (by simp;omega) D.size) ?_;rintro _ eL ⟨bR,bS,rfl,b4,hg,bU⟩
   have aF:Own _ W.heap.size 115 3 encG _ _ (q):=J
   have bY:=bU _ b3.lt aX;have aY:=Apart.app i L bU;clear bU;have o:=o.appT aF hg rfl;have f:=f.appT aF hg rfl;have B:=B.appT aF hg rfl;have d:=d.appB aF hg (Nat.le_refl _);have e:=e.appT aF hg rfl;have i:=i.appP hg L;have D:=Below.app D aF hg (Nat.le_refl _) D.size;clear aF hg;refine Yo 9 rfl (fun _=>Vd rfl X2l 2)<|Y1 10 ?_;refine Yh rfl trivial rfl (Vu (vs:=[.slice bR (q++([u9])).length bS]) (l':=[vi p,.slice aG ((c.gs.take (j9+1)).drop p.toNat).length aH,.slice bR (q++([u9])).length bS]) rfl rfl Xfc B) ?_;rintro _ eM ⟨M,hb⟩;have A:=B;have o:=o.only M (Blk.ne o A rfl);have f:=f.only M (by omega);have d:=d.onlyT M A rfl;have e:=e.onlyT M A rfl;have i:=i.onlyT M A rfl;have b4:=b4.onlyT M A rfl;have D:=Below.only D M b2;have B:=hb;refine Yd fun a z=>?_;refine Xu<|bG _ _<|Zr z<|Zm rfl<|Ze (X06 rfl rfl (by omega) (by omega))<|Za rfl ?_;refine Zn fun a z=>?_;refine Xs ?_;exact ⟨(k+1,x+1,(q++[u9])),⟨bR,bS,z.sb,(by omega),(by omega),(Xgy cH hq hT d8),o,f,B,d,e,i,b4,N,aY,D⟩,(by first|omega|(dsimp only;omega))⟩
  have bP:=aN
  have hT:hasB rr (p+(k:Int))=true:=by have h9:=aN;rw [Xbi,hx] at h9;simpa using h9
  refine wp_skip<|Xu<|bG _ _<|Zr z ?_;refine Zm rfl<|Ze (X06 rfl rfl (by omega) (by omega))<|Za rfl ?_;refine Zn fun a z=>?_;refine Xs ?_;exact ⟨(k+1,x+1,q),⟨aM,aR,z.sb,(by omega),(by omega),(Xdp hq hT),o,f,B,d,e,i,J,N,L,D⟩,(by first|omega|(dsimp only;omega))⟩
 have aE:=U;have U:=of_decide_eq_false U
 have bK:k=winN rr p:=by have h9:=U;rw [aU] at h9;omega
 have b6:=Xch hq bK
 have b7:(newR c p rr ws).old=_:=Xd2 cH aU cG
 have dS:=X7g c rr p k
 have d9:q.length≤1000000+1000000000:=by rw [hq,List.length_append];omega
 refine wp_exit<|Xq<|Xq<|X0b ?_;refine cY _ _<|wp_seq_k fun _ dC=>?_;refine wp_seq_k fun _ dD=>?_;refine X0n (fun a w=>Fr a 100 [(8,.pointer (some ⟨b8,0,none⟩)),(15,.pointer (some ⟨b46,0,none⟩)),(97,.bool ((decide (40<(((c.gs.take (j9+1)).drop p.toNat).length:Int)))||(decide (40<(q.length:Int)))))]∧dL=w) ?_ ?_
 ·refine Zr z<|Ze (Vd rfl X4v 1)<|Ze (X0 rfl X16 (B.at 1))<|Ze (X0x rfl Xh)<|Ze (X2u rfl rfl)<|Zm rfl ?_
  refine Zg 92 rfl (fun I=>?_) (fun I=>?_)
  ·refine Zp (gP I) ?_;refine Zp (gP I) ?_;refine Zp (gP I) ?_;refine Zp (gP I) ?_;refine Ze (Xp rfl I rfl) ?_;refine Zn fun a z=>?_;exact ⟨z.sub ⟨rfl,rfl,X1 rfl (by first|rfl|(simp only [E,G,aE,I,bs];done)|simp [E,G,aE,I]),trivial⟩,rfl⟩
  refine Zv (gW I) (Vd rfl X2l 2) ?_;refine Zv (gW I) (X0 rfl X16 (B.at 2)) ?_;refine Zv (gW I) (X0x rfl Xh) ?_;refine Zv (gW I) (X2u rfl rfl) ?_;refine Ze (Xk rfl I rfl) ?_;refine Zn fun a z=>?_;exact ⟨z.sub ⟨rfl,rfl,X1 rfl (by first|rfl|(simp only [E,G,aE,I,bs];done)|simp [E,G,aE,I]),trivial⟩,rfl⟩
 rintro a _ ⟨z,rfl⟩;refine dD _ _ ?_
 refine Xl z rfl (fun aO=>?_) (fun aO=>?_)
 ·have bW:=aO
  have h9:40<(newR c p rr ws).old.length∨40<(newR c p rr ws).new.length:=by rw [b7,b6];have h8:=aO;simp only [Bool.or_eq_true,decide_eq_true_eq] at h8;omega
  have aC:=bJ.trans (Xgc bF h9);refine Zs z fun _ dE=>?_;refine Ze (Xg (ps:=[]) (cs:=[vi 0,.slice none 0 0,.slice none 0 0]) rfl (fun _=>by first|rfl|kernel_rfl))<|Zo (Vw [vi 0,.slice none 0 0,.slice none 0 0] X17 f) ?_;rintro _ eN ⟨M,hb⟩;have A:=f;have D:=Below.only D M aS;have f:=hb;refine Za rfl<|Zt dE fun a z=>?_;refine wp_ret<|X4<|X2 z (X0w z rfl (ResV.cellN (l:=[vi 0,.slice none 0 0,.slice none 0 0]) rfl X1i (f.at 0) rfl) rfl) ?_
  rw [aC]
  exact ⟨none,0,none,0,rfl,(Own.nil _ _ _ _ _),(Own.nil _ _ _ _ _),(Apart.none_l _),D⟩
 have bW:=aO
 have h9:¬ (40<(newR c p rr ws).old.length∨40<(newR c p rr ws).new.length):=by rw [b7,b6];have h8:=aO;simp only [Bool.or_eq_false_iff,decide_eq_false_iff_not] at h8;omega
 have aC:=bJ.trans (Xh4 bF h9);refine wp_skip<|dC _ _<|Zs z fun _ dF=>?_;refine Ze (Vn X1i B)<|Zo (Vw [vi p,.slice aG ((c.gs.take (j9+1)).drop p.toNat).length aH,.slice aM q.length aR] X17 f) ?_;rintro _ eO ⟨M,hb⟩;have A:=f;have i:=i.onlyT M A rfl;have J:=J.onlyT M A rfl;have D:=Below.only D M aS;have f:=hb;refine Za rfl<|Zt dF fun a z=>?_
 refine wp_ret (X2 z (X0w z rfl (ResV.cellN (l:=[vi p,.slice aG ((c.gs.take (j9+1)).drop p.toNat).length aH,.slice aM q.length aR]) rfl X1i (f.at 0) rfl) rfl) ?_)
 rw [aC]
 simp only [Option.getD_some]
 rw [b7,b6]
 exact ⟨aG,aH,aM,aR,rfl,i,J,L,D⟩
theorem Xqc(w0:World)(c:Cx)(Ac:Option Addr)(cc:Nat)(g:Rd w0 w0.heap.size 115 encG Ac c.gs)(aX:c.gs.length≤cc)(Arr:Option Addr)(crr:Nat)(rr:List Int)(B:Rd w0 w0.heap.size 3 encI Arr rr)(Aqs:Option Addr)(cqs:Nat)(qs:List Int)(M:Rd w0 w0.heap.size 3 encI Aqs qs)(Aws:Option Addr)(cws:Nat)(ws:List Gt)(d:Rd w0 w0.heap.size 115 encG Aws ws)(p:Int)(lA:cOk c=true)(iH:runB c p qs=true)(iI:rr=runL c p qs)(nG:ws.length≤1000000)(mP:qs.length≤1048576) : Ret Tryz.prog 81 [.agg #[vi c.n,.slice Ac c.gs.length cc],.slice Arr rr.length crr,.slice Aqs qs.length cqs,.slice Aws ws.length cws] w0 (fun v w=>∃ A9 e9 B9 f9,v=.tuple #[.agg #[vi ((repX c p rr qs ws).getD rpZ).pos,.slice A9 ((repX c p rr qs ws).getD rpZ).old.length e9,.slice B9 ((repX c p rr qs ws).getD rpZ).new.length f9],.bool (repX c p rr qs ws).isSome]∧Own w w0.heap.size 115 3 encG A9 e9 ((repX c p rr qs ws).getD rpZ).old∧Own w w0.heap.size 115 3 encG B9 f9 ((repX c p rr qs ws).getD rpZ).new∧Apart A9 B9∧Below w0.heap.size w0 w):=by
 obtain ⟨mQ,mR,nH⟩:=X14 lA
 have n6:c.gs.length≤400:=mR
 obtain ⟨N,fP,nI,lB,iY⟩:=X9c iH
 rw [← iI] at fP iY
 have nJ:=Xci fP lB
 have n7:rr.length≤6:=by rw [iI];exact X6w ..
 have n8:1≤rr.length:=by rw [iI];exact X7j iH
 have lC:0≤p:=by obtain ⟨_,_,k9,e9,_⟩:=X2a iH;omega
 obtain ⟨nK,lD⟩:=Xc8 iH
 have g8:rr[0]? = some p:=by rw [iI,lD];rfl
 refine enter Tryz.func81 rfl 96 rfl rfl ?_;intro a G
 have i:=bz w0
 refine Zs G fun _ mS=>?_;refine Zf (X0i (zs:=[vi c.n,.slice Ac c.gs.length cc]) rfl rfl) ?_;rintro _ w1 ⟨b6,rfl,mT,e,L⟩;have n9:=Nat.le_trans i.size mT;have g:=g.below e;have B:=B.below e;have M:=M.below e;have d:=d.below e;have i:=btr i e;refine Zf (X9 (zs:=[vi 0,.slice none 0 0,.slice none 0 0]) X33 rfl) ?_;rintro _ w2 ⟨b9,rfl,mU,e,z⟩;have fE:=Nat.le_trans i.size mU;have L:=L.below e;have g:=g.below e;have B:=B.below e;have M:=M.below e;have d:=d.below e;have i:=btr i e;refine Za rfl<|ZX mS fun a G _ lE=>?_;refine Zs G fun _ lF=>?_;refine Zm rfl<|Ze (X0x rfl Xh)<|Zm rfl<|Zt lF fun a G=>?_;refine wp_block<|X0d (σ:=Nat) (fun (k:Nat) (a:Act) (w:World)=>Fr a 96 [(1,.slice Arr rr.length crr),(2,.slice Aqs qs.length cqs),(3,.slice Aws ws.length cws),(4,.pointer (some ⟨b6,0,none⟩)),(8,.pointer (some ⟨b9,0,none⟩)),(17,.slice Aws ws.length cws),(18,vi (ws.length:Int)),(19,vi (k:Int))]∧(k≤ws.length)∧((ws.take k).all (ftB c.n qs)=true)∧Blk w b6 28 [vi c.n,.slice Ac c.gs.length cc]∧Blk w b9 46 [vi 0,.slice none 0 0,.slice none 0 0]∧Rd w w0.heap.size 115 encG Ac c.gs∧Rd w w0.heap.size 3 encI Arr rr∧Rd w w0.heap.size 3 encI Aqs qs∧Rd w w0.heap.size 115 encG Aws ws∧c.gs.length≤cc∧Below w0.heap.size w0 w) (fun (k:Nat)=>ws.length-k) 0 ?_ ?_
 ·exact ⟨G.sb,(Nat.zero_le _),(by simp),L,z,g,B,M,d,aX,i⟩
 rintro k a w3 ⟨G,jC,jD,L,z,g,B,M,d,aX,i⟩;refine Zs G fun _ lG=>?_;refine Ze (X12 rfl rfl)<|ZX lG fun a G _ lH=>?_
 refine Xl G rfl (fun bP=>?_) (fun bP=>?_)
 ·have H:=bP;have bP:=of_decide_eq_true bP
  obtain ⟨aQ,fF⟩:=Xm (l:=ws) (k:=k) (by omega)
  refine wp_skip<|lH _ _<|wp_seq_k fun _ lI=>?_;refine wp_block<|Zs G fun _ lJ=>?_;refine Zi (k:=k) (u:=aQ) (enc:=encG) (l:=ws) trivial rfl rfl Xh X0s Xe d fF rfl ?_;intro nL jE;refine Ze (X07 (l:=[vi aQ.k,vi aQ.a,vi aQ.b]) rfl X0m jE rfl)<|Zf (X9 (zs:=[vi 0,vi 0,vi 0]) X32 rfl) ?_;rintro _ w4 ⟨nM,rfl,g9,e,bQ⟩;have f7:=Nat.le_trans i.size g9;have lK:=g.away g9;have lL:=d.away g9;have L:=L.below e;have z:=z.below e;have g:=g.below e;have B:=B.below e;have M:=M.below e;have d:=d.below e;have i:=btr i e;refine Zo (Vw [vi aQ.k,vi aQ.a,vi aQ.b] X0s bQ) ?_;rintro _ w5 ⟨E,hb⟩;have y:=bQ;have L:=L.only E (Blk.ne L y rfl);have z:=z.only E (Blk.ne z y rfl);have g:=g.only E f7;have B:=B.onlyT E y rfl;have M:=M.onlyT E y rfl;have d:=d.only E f7;have i:=Below.only i E f7;have bQ:=hb;refine ZX lJ fun a G _ lM=>?_;refine Zs G fun _ lN=>?_;refine Ze (Vd rfl X1s 0)<|Ze (X0 rfl X7 (L.at 0))<|Ze (Vn X0m bQ)<|Zf (Vc (Xw5 _ c.n aQ mQ) Xl0) ?_;rintro _ w6 ⟨rfl,e⟩;have L:=L.below e;have z:=z.below e;have bQ:=bQ.below e;have g:=g.below e;have B:=B.below e;have M:=M.below e;have d:=d.below e;have i:=btr i e;refine Ze (X0y rfl)<|Zt lN fun a G=>?_
  refine Xl G rfl (fun dB=>?_) (fun dB=>?_)
  ·have jF:=dB
   have h8:ftB c.n qs aQ=false:=by unfold ftB;have h9:gOk c.n aQ=false:=(by simpa using dB);rw [h9];rfl
   have bR:=Xb3 (c:=c) (p:=p) (run:=rr) (qs:=qs) (Xeu fF h8);refine Zs G fun _ lO=>?_;refine Ze (Xg (ps:=[]) (cs:=[vi 0,.slice none 0 0,.slice none 0 0]) rfl (fun _=>by first|rfl|kernel_rfl))<|Zo (Vw [vi 0,.slice none 0 0,.slice none 0 0] X17 z) ?_;rintro _ w7 ⟨E,hb⟩;have y:=z;have i:=Below.only i E fE;have z:=hb;refine Za rfl<|Zt lO fun a G=>?_;refine wp_ret<|X4<|Xy<|X4 ?_;refine X4<|Xy<|X4<|X2 G (X0w G rfl (ResV.cellN (l:=[vi 0,.slice none 0 0,.slice none 0 0]) rfl X1i (z.at 0) rfl) rfl) ?_
   rw [bR]
   exact ⟨none,0,none,0,rfl,(Own.nil _ _ _ _ _),(Own.nil _ _ _ _ _),(Apart.none_l _),i⟩
  have jF:=dB
  have iZ:gOk c.n aQ=true:=by simpa using dB
  refine wp_skip<|lM _ _<|Zs G fun _ lP=>?_;refine Ze (Vn X0m bQ)<|Zm rfl<|Zf (Vc (Xm7 _ aQ Aqs cqs qs M.top mP) Xb8) ?_;rintro _ w8 ⟨rfl,e⟩;have L:=L.below e;have z:=z.below e;have g:=g.below e;have B:=B.below e;have M:=M.below e;have d:=d.below e;have i:=btr i e;refine Zm rfl<|Ze (X3 (vs:=[vi (inN aQ qs:Int),vi (ouN aQ qs:Int)]) rfl rfl)<|Ze (X3 (vs:=[vi (inN aQ qs:Int),vi (ouN aQ qs:Int)]) rfl rfl)<|Za rfl<|Za rfl ?_;refine Zx lP fun a G _ lQ=>?_;refine Zm rfl<|Ze (X2u rfl rfl)<|Zt lQ fun a G=>?_
  refine Xl G rfl (fun aY=>?_) (fun aY=>?_)
  ·have jG:=aY;have aY:=of_decide_eq_true aY
   have h8:ftB c.n qs aQ=false:=by unfold ftB;rw [decide_eq_true aY,iZ];rfl
   have bR:=Xb3 (c:=c) (p:=p) (run:=rr) (qs:=qs) (Xeu fF h8);refine Zs G fun _ lR=>?_;refine Ze (Xg (ps:=[]) (cs:=[vi 0,.slice none 0 0,.slice none 0 0]) rfl (fun _=>by first|rfl|kernel_rfl))<|Zo (Vw [vi 0,.slice none 0 0,.slice none 0 0] X17 z) ?_;rintro _ w9 ⟨E,hb⟩;have y:=z;have i:=Below.only i E fE;have z:=hb;refine Za rfl<|Zt lR fun a G=>?_;refine wp_ret<|Xy<|X4<|X4 ?_;refine Xy<|X4<|X2 G (X0w G rfl (ResV.cellN (l:=[vi 0,.slice none 0 0,.slice none 0 0]) rfl X1i (z.at 0) rfl) rfl) ?_
   rw [bR]
   exact ⟨none,0,none,0,rfl,(Own.nil _ _ _ _ _),(Own.nil _ _ _ _ _),(Apart.none_l _),i⟩
  have jG:=aY;have aY:=of_decide_eq_false aY
  have h8:ftB c.n qs aQ=true:=by unfold ftB;rw [decide_eq_false aY,iZ];rfl
  refine wp_skip<|Xu<|lI _ _<|Zr G ?_;refine Ze (X06 rfl rfl (by omega) (by omega))<|Zm rfl ?_;refine Zn fun a G=>?_;refine Xs ?_;exact ⟨k+1,⟨G.sb,(by omega),(Xgu jD fF h8),L,z,g,B,M,d,aX,i⟩,(by omega)⟩
 have H:=bP;have bP:=of_decide_eq_false bP
 have j1:ws.all (ftB c.n qs)=true:=by rw [List.take_of_length_le (by omega)] at jD;exact jD
 refine wp_exit<|Xq<|Xq<|X0b ?_;refine lE _ _<|Zs G fun _ lS=>?_;refine Zm rfl<|Zm rfl<|Ze (X0x rfl X09)<|Ze (X1h rfl rfl (by omega) (by omega))<|Zi (k:=(rr.length-1)) (u:=(lastI rr)) (enc:=encI) (l:=rr) trivial rfl rfl X09 X1k X08 B iY (by omega) ?_;intro nN jH;refine Ze (X0 rfl X7 jH)<|Za rfl<|ZX lS fun a G _ lT=>?_;refine X0n (fun a w=>∃ b52 aC aE bS cH,Fr a 96 [(1,.slice Arr rr.length crr),(4,.pointer (some ⟨b6,0,none⟩)),(8,.pointer (some ⟨b9,0,none⟩)),(14,vi (lastI rr)),(15,.pointer (some ⟨b52,0,none⟩))]∧w0.heap.size≤b52∧Blk w b52 46 [vi p,.slice aC ((c.gs.take (N+1)).drop p.toNat).length aE,.slice bS ws.length cH]∧b9≠b52∧Own w w0.heap.size 115 3 encG aC aE ((c.gs.take (N+1)).drop p.toNat)∧Own w w0.heap.size 115 3 encG bS cH ws∧Apart aC bS∧Below w3.heap.size w3 w) ?_ ?_
 ·have f:Below w3.heap.size w3 w3:=Below.refl _ _
  refine X0f none (fun j=>[18].contains j) mixed ?_;intro nO e;have L:=L.below e;have z:=z.below e;have g:=g.below e;have B:=B.below e;have d:=d.below e;have i:=btr i e;have f:=btr f e;refine Yb G<|Yo 0 rfl (fun _=>Xa rfl)<|Yi (k:=0) (u:=p) (enc:=encI) (l:=rr) 1 rfl trivial rfl rfl X09 X1k X08 B g8 rfl ?_;intro nP jI;refine Ye 2 rfl (X0 rfl X7 jI)<|Yo 4 rfl (fun _=>Vd rfl X0z 1)<|Ye 5 rfl (X0 rfl X16 (L.at 1))<|Yo 6 rfl (fun _=>Xa rfl)<|Yi (k:=0) (u:=p) (enc:=encI) (l:=rr) 7 rfl trivial rfl rfl X09 X1k X08 B g8 rfl ?_;intro nQ jJ;refine Ye 8 rfl (X0 rfl X7 jJ)<|Yo 9 rfl (fun _=>Xa rfl)<|Yo 10 rfl (fun _=>X06 rfl rfl (by omega) (by omega)) ?_;have t:=((g.top).takeK Xe (N+1)).dropK Xe (c:=cc) (Xgm aX (N+1)) p.toNat;refine Yo 11 rfl (fun _=>Xq1 (l:=c.gs) (k:=p.toNat) (m:=(N+1)) rfl rfl rfl Xh X0s (by omega) (by rw [fP];omega) (by omega) (by omega) aX)<|Yo 14 rfl (fun _=>Xa rfl) ?_;refine Y3 3 13 17 ?_ ?_ ?_
  ·refine Yk rfl trivial (X6 (k:=0) (vs:=[]) (zs:=[]) rfl Xh Xj rfl rfl) (fun _ _ ⟨_,_,_,h,_⟩=>h) ?_;rintro _ nR ⟨lU,rfl,dC,e,aF⟩;have bU:=Nat.le_trans i.size dC;have mW:=Nat.le_trans f.size dC;have lV:=g.away dC;have lW:=d.away dC;have kJ:=t.away dC;have z:=z.below e;have g:=g.below e;have d:=d.below e;have t:=t.below e;have i:=btr i e;have f:=btr f e;refine Y3 12 13 17 ?_ ?_ ?_
   ·refine Yk rfl trivial (X0r (enc:=encG) (l2:=(((c.gs.take (N+1)).drop p.toNat))) rfl rfl Xh Xj Xe X0c aF t (by simp only [maxLen];simp;omega) (by simp;omega)) (fun _ _ ⟨aC,aE,_,A,e,o⟩=>e) ?_;rintro _ nS ⟨aC,aE,rfl,A,e,o⟩;clear o;have A:=A.lower bU;have z:=z.below e;have g:=g.below e;have d:=d.below e;have t:=t.below e;have i:=btr i e;have f:=btr f e;refine Y2 13 17 ?_ ?_
    ·refine Yk rfl trivial (X6 (k:=0) (vs:=[]) (zs:=[]) rfl Xh Xj rfl rfl) (fun _ _ ⟨_,_,_,h,_⟩=>h) ?_;rintro _ nT ⟨nU,rfl,cJ,e,fG⟩;have gA:=Nat.le_trans i.size cJ;have mX:=Nat.le_trans f.size cJ;have lX:=g.away cJ;have lY:=d.away cJ;have kK:=t.away cJ;have cK:=A.away cJ;have z:=z.below e;have d:=d.below e;have A:=A.below e;have i:=btr i e;have f:=btr f e;refine Y2 15 17 ?_ ?_
     ·refine Yk rfl trivial (X0r (enc:=encG) (l2:=(ws)) rfl rfl Xh Xj Xe X0c fG d (by simp only [maxLen];omega) (by omega)) (fun _ _ ⟨bS,cH,_,aU,e,o⟩=>e) ?_;rintro _ nV ⟨bS,cH,rfl,aU,e,o⟩;have b3:=Apart.new0 A cK o;clear o;have aU:=aU.lower gA;have z:=z.below e;have A:=A.below e;have i:=btr i e;have f:=btr f e;refine Yo 16 rfl (fun _=>Xg (ps:=[(0,vi p),(1,.slice aC ((c.gs.take (N+1)).drop p.toNat).length aE),(2,.slice bS ws.length cH)]) (cs:=[vi p,.slice aC ((c.gs.take (N+1)).drop p.toNat).length aE,.slice bS ws.length cH]) rfl (fun _=>by first|rfl|kernel_rfl))<|Y1 17 ?_;refine Yk rfl trivial (X9 (zs:=[vi 0,.slice none 0 0,.slice none 0 0]) X33 rfl) (fun _ _ ⟨_,_,_,h,_⟩=>h) ?_;rintro _ nX ⟨b52,rfl,j2,e,J⟩
      have dD:b9≠b52:=by have:=z.lt;omega
      have cW:=Nat.le_trans i.size j2;have jK:=Nat.le_trans f.size j2;have A:=A.below e;have aU:=aU.below e;have i:=btr i e;have f:=btr f e;refine Y1 18<|Yh rfl trivial rfl (Vw [vi p,.slice aC ((c.gs.take (N+1)).drop p.toNat).length aE,.slice bS ws.length cH] X17 J) ?_;rintro _ w16 ⟨E,hb⟩;have y:=J;have A:=A.onlyT E y rfl;have aU:=aU.onlyT E y rfl;have f:=Below.only f E jK;have i:=Below.only i E cW;have J:=hb;refine Yd fun a G=>?_
      have W:Below w3.heap.size w3 w16:=f
      exact ⟨b52,aC,aE,bS,cH,G.sb,cW,J,dD,A,aU,b3,W⟩
     refine Yk rfl trivial (X9 (zs:=[vi 0,.slice none 0 0,.slice none 0 0]) X33 rfl) (fun _ _ ⟨_,_,_,h,_⟩=>h) ?_;rintro _ nY ⟨b55,rfl,j3,e,cL⟩
     have gB:b9≠b55:=by have:=z.lt;omega
     have gC:=Nat.le_trans i.size j3;have jL:=Nat.le_trans f.size j3;have fG:=fG.below e;have d:=d.below e;have A:=A.below e;have i:=btr i e;have f:=btr f e;refine Y1 15<|Yk rfl trivial (X0r (enc:=encG) (l2:=(ws)) rfl rfl Xh Xj Xe X0c fG d (by simp only [maxLen];omega) (by omega)) (fun _ _ ⟨gD,gE,_,cM,e,o⟩=>e) ?_;rintro _ nZ ⟨gD,gE,rfl,cM,e,o⟩;have fQ:=Apart.new0 A cK o;clear o;have cM:=cM.lower gA;have cL:=cL.below e;have A:=A.below e;have i:=btr i e;have f:=btr f e;refine Yo 16 rfl (fun _=>Xg (ps:=[(0,vi p),(1,.slice aC ((c.gs.take (N+1)).drop p.toNat).length aE),(2,.slice gD ws.length gE)]) (cs:=[vi p,.slice aC ((c.gs.take (N+1)).drop p.toNat).length aE,.slice gD ws.length gE]) rfl (fun _=>by first|rfl|kernel_rfl))<|Y1 18 ?_;refine Yh rfl trivial rfl (Vw [vi p,.slice aC ((c.gs.take (N+1)).drop p.toNat).length aE,.slice gD ws.length gE] X17 cL) ?_;rintro _ w19 ⟨E,hb⟩;have y:=cL;have A:=A.onlyT E y rfl;have cM:=cM.onlyT E y rfl;have f:=Below.only f E jL;have i:=Below.only i E gC;have cL:=hb;refine Yd fun a G=>?_
     have W:Below w3.heap.size w3 w19:=f
     exact ⟨b55,aC,aE,gD,gE,G.sub ⟨rfl,rfl,rfl,rfl,(by first|rfl|(simp [look,H])),trivial⟩,gC,cL,gB,A,cM,fQ,W⟩
    refine Yk rfl trivial (X9 (zs:=[vi 0,.slice none 0 0,.slice none 0 0]) X33 rfl) (fun _ _ ⟨_,_,_,h,_⟩=>h) ?_;rintro _ o0 ⟨b61,rfl,j4,e,bI⟩
    have gF:b9≠b61:=by have:=z.lt;omega
    have gG:=Nat.le_trans i.size j4;have jM:=Nat.le_trans f.size j4;have g:=g.below e;have d:=d.below e;have t:=t.below e;have A:=A.below e;have i:=btr i e;have f:=btr f e;refine Y1 13<|Yk rfl trivial (X6 (k:=0) (vs:=[]) (zs:=[]) rfl Xh Xj rfl rfl) (fun _ _ ⟨_,_,_,h,_⟩=>h) ?_;rintro _ o3 ⟨o4,rfl,cN,e,lZ⟩;have jN:=Nat.le_trans i.size cN;have mY:=Nat.le_trans f.size cN;have m3:=g.away cN;have m4:=d.away cN;have kL:=t.away cN;have fR:=A.away cN;have bI:=bI.below e;have d:=d.below e;have A:=A.below e;have i:=btr i e;have f:=btr f e;refine Y1 15<|Yk rfl trivial (X0r (enc:=encG) (l2:=(ws)) rfl rfl Xh Xj Xe X0c lZ d (by simp only [maxLen];omega) (by omega)) (fun _ _ ⟨gH,gI,_,cO,e,o⟩=>e) ?_;rintro _ o5 ⟨gH,gI,rfl,cO,e,o⟩;have fS:=Apart.new0 A fR o;clear o;have cO:=cO.lower jN;have bI:=bI.below e;have A:=A.below e;have i:=btr i e;have f:=btr f e;refine Yo 16 rfl (fun _=>Xg (ps:=[(0,vi p),(1,.slice aC ((c.gs.take (N+1)).drop p.toNat).length aE),(2,.slice gH ws.length gI)]) (cs:=[vi p,.slice aC ((c.gs.take (N+1)).drop p.toNat).length aE,.slice gH ws.length gI]) rfl (fun _=>by first|rfl|kernel_rfl))<|Y1 18 ?_;refine Yh rfl trivial rfl (Vw [vi p,.slice aC ((c.gs.take (N+1)).drop p.toNat).length aE,.slice gH ws.length gI] X17 bI) ?_;rintro _ w23 ⟨E,hb⟩;have y:=bI;have A:=A.onlyT E y rfl;have cO:=cO.onlyT E y rfl;have f:=Below.only f E jM;have i:=Below.only i E gG;have bI:=hb;refine Yd fun a G=>?_
    have W:Below w3.heap.size w3 w23:=f
    exact ⟨b61,aC,aE,gH,gI,G.sub ⟨rfl,rfl,rfl,rfl,(by first|rfl|(simp [look,H])),trivial⟩,gG,bI,gF,A,cO,fS,W⟩
   ·refine Yk rfl trivial (X6 (k:=0) (vs:=[]) (zs:=[]) rfl Xh Xj rfl rfl) (fun _ _ ⟨_,_,_,h,_⟩=>h) ?_;rintro _ o6 ⟨b67,rfl,dE,e,aH⟩
    have cP:lU≠b67:=by have:=aF.lt;omega
    have f8:=Nat.le_trans i.size dE;have n0:=Nat.le_trans f.size dE;have m5:=g.away dE;have m6:=d.away dE;have kM:=t.away dE;have z:=z.below e;have aF:=aF.below e;have d:=d.below e;have t:=t.below e;have i:=btr i e;have f:=btr f e;refine Y2 12 17 ?_ ?_
    ·refine Yk rfl trivial (X0r (enc:=encG) (l2:=(((c.gs.take (N+1)).drop p.toNat))) rfl rfl Xh Xj Xe X0c aF t (by simp only [maxLen];simp;omega) (by simp;omega)) (fun _ _ ⟨cX,cY,_,aA,e,o⟩=>e) ?_;rintro _ o7 ⟨cX,cY,rfl,aA,e,o⟩;have cQ:=o _ aH.lt (Ne.symm cP);clear o;have aA:=aA.lower bU;have z:=z.below e;have aH:=aH.below e;have d:=d.below e;have i:=btr i e;have f:=btr f e;refine Y2 15 17 ?_ ?_
     ·refine Yk rfl trivial (X0r (enc:=encG) (l2:=(ws)) rfl rfl Xh Xj Xe X0c aH d (by simp only [maxLen];omega) (by omega)) (fun _ _ ⟨gJ,gK,_,bJ,e,o⟩=>e) ?_;rintro _ o8 ⟨gJ,gK,rfl,bJ,e,o⟩;have fT:=Apart.new0 aA cQ o;clear o;have bJ:=bJ.lower f8;have z:=z.below e;have aA:=aA.below e;have i:=btr i e;have f:=btr f e;refine Yo 16 rfl (fun _=>Xg (ps:=[(0,vi p),(1,.slice cX ((c.gs.take (N+1)).drop p.toNat).length cY),(2,.slice gJ ws.length gK)]) (cs:=[vi p,.slice cX ((c.gs.take (N+1)).drop p.toNat).length cY,.slice gJ ws.length gK]) rfl (fun _=>by first|rfl|kernel_rfl))<|Y1 17 ?_;refine Yk rfl trivial (X9 (zs:=[vi 0,.slice none 0 0,.slice none 0 0]) X33 rfl) (fun _ _ ⟨_,_,_,h,_⟩=>h) ?_;rintro _ o9 ⟨b75,rfl,j5,e,fH⟩
      have gL:b9≠b75:=by have:=z.lt;omega
      have gM:=Nat.le_trans i.size j5;have jO:=Nat.le_trans f.size j5;have aA:=aA.below e;have bJ:=bJ.below e;have i:=btr i e;have f:=btr f e;refine Y1 18<|Yh rfl trivial rfl (Vw [vi p,.slice cX ((c.gs.take (N+1)).drop p.toNat).length cY,.slice gJ ws.length gK] X17 fH) ?_;rintro _ w28 ⟨E,hb⟩;have y:=fH;have aA:=aA.onlyT E y rfl;have bJ:=bJ.onlyT E y rfl;have f:=Below.only f E jO;have i:=Below.only i E gM;have fH:=hb;refine Yd fun a G=>?_
      have W:Below w3.heap.size w3 w28:=f
      exact ⟨b75,cX,cY,gJ,gK,G.sub ⟨rfl,rfl,rfl,rfl,(by first|rfl|(simp [look,H])),trivial⟩,gM,fH,gL,aA,bJ,fT,W⟩
     refine Yk rfl trivial (X9 (zs:=[vi 0,.slice none 0 0,.slice none 0 0]) X33 rfl) (fun _ _ ⟨_,_,_,h,_⟩=>h) ?_;rintro _ oB ⟨b78,rfl,j6,e,cR⟩
     have gN:b9≠b78:=by have:=z.lt;omega
     have gO:=Nat.le_trans i.size j6;have jP:=Nat.le_trans f.size j6;have aH:=aH.below e;have d:=d.below e;have aA:=aA.below e;have i:=btr i e;have f:=btr f e;refine Y1 15<|Yk rfl trivial (X0r (enc:=encG) (l2:=(ws)) rfl rfl Xh Xj Xe X0c aH d (by simp only [maxLen];omega) (by omega)) (fun _ _ ⟨gQ,gR,_,cS,e,o⟩=>e) ?_;rintro _ oC ⟨gQ,gR,rfl,cS,e,o⟩;have fU:=Apart.new0 aA cQ o;clear o;have cS:=cS.lower f8;have cR:=cR.below e;have aA:=aA.below e;have i:=btr i e;have f:=btr f e;refine Yo 16 rfl (fun _=>Xg (ps:=[(0,vi p),(1,.slice cX ((c.gs.take (N+1)).drop p.toNat).length cY),(2,.slice gQ ws.length gR)]) (cs:=[vi p,.slice cX ((c.gs.take (N+1)).drop p.toNat).length cY,.slice gQ ws.length gR]) rfl (fun _=>by first|rfl|kernel_rfl))<|Y1 18 ?_;refine Yh rfl trivial rfl (Vw [vi p,.slice cX ((c.gs.take (N+1)).drop p.toNat).length cY,.slice gQ ws.length gR] X17 cR) ?_;rintro _ w31 ⟨E,hb⟩;have y:=cR;have aA:=aA.onlyT E y rfl;have cS:=cS.onlyT E y rfl;have f:=Below.only f E jP;have i:=Below.only i E gO;have cR:=hb;refine Yd fun a G=>?_
     have W:Below w3.heap.size w3 w31:=f
     exact ⟨b78,cX,cY,gQ,gR,G.sub ⟨rfl,rfl,rfl,rfl,(by first|rfl|(simp [look,H])),trivial⟩,gO,cR,gN,aA,cS,fU,W⟩
    refine Yk rfl trivial (X9 (zs:=[vi 0,.slice none 0 0,.slice none 0 0]) X33 rfl) (fun _ _ ⟨_,_,_,h,_⟩=>h) ?_;rintro _ oD ⟨b84,rfl,j7,e,bK⟩
    have gS:b9≠b84:=by have:=z.lt;omega
    have gT:=Nat.le_trans i.size j7;have jQ:=Nat.le_trans f.size j7;have aF:=aF.below e;have aH:=aH.below e;have d:=d.below e;have t:=t.below e;have i:=btr i e;have f:=btr f e;refine Y1 12<|Yk rfl trivial (X0r (enc:=encG) (l2:=(((c.gs.take (N+1)).drop p.toNat))) rfl rfl Xh Xj Xe X0c aF t (by simp only [maxLen];simp;omega) (by simp;omega)) (fun _ _ ⟨gU,gX,_,aZ,e,o⟩=>e) ?_;rintro _ oE ⟨gU,gX,rfl,aZ,e,o⟩;have fV:=o _ aH.lt (Ne.symm cP);clear o;have aZ:=aZ.lower bU;have aH:=aH.below e;have bK:=bK.below e;have d:=d.below e;have i:=btr i e;have f:=btr f e;refine Y1 15<|Yk rfl trivial (X0r (enc:=encG) (l2:=(ws)) rfl rfl Xh Xj Xe X0c aH d (by simp only [maxLen];omega) (by omega)) (fun _ _ ⟨gY,hG,_,cT,e,o⟩=>e) ?_;rintro _ oF ⟨gY,hG,rfl,cT,e,o⟩;have fW:=Apart.new0 aZ fV o;clear o;have cT:=cT.lower f8;have bK:=bK.below e;have aZ:=aZ.below e;have i:=btr i e;have f:=btr f e;refine Yo 16 rfl (fun _=>Xg (ps:=[(0,vi p),(1,.slice gU ((c.gs.take (N+1)).drop p.toNat).length gX),(2,.slice gY ws.length hG)]) (cs:=[vi p,.slice gU ((c.gs.take (N+1)).drop p.toNat).length gX,.slice gY ws.length hG]) rfl (fun _=>by first|rfl|kernel_rfl))<|Y1 18 ?_;refine Yh rfl trivial rfl (Vw [vi p,.slice gU ((c.gs.take (N+1)).drop p.toNat).length gX,.slice gY ws.length hG] X17 bK) ?_;rintro _ w35 ⟨E,hb⟩;have y:=bK;have aZ:=aZ.onlyT E y rfl;have cT:=cT.onlyT E y rfl;have f:=Below.only f E jQ;have i:=Below.only i E gT;have bK:=hb;refine Yd fun a G=>?_
    have W:Below w3.heap.size w3 w35:=f
    exact ⟨b84,gU,gX,gY,hG,G.sub ⟨rfl,rfl,rfl,rfl,(by first|rfl|(simp [look,H])),trivial⟩,gT,bK,gS,aZ,cT,fW,W⟩
   refine Yk rfl trivial (X9 (zs:=[vi 0,.slice none 0 0,.slice none 0 0]) X33 rfl) (fun _ _ ⟨_,_,_,h,_⟩=>h) ?_;rintro _ oG ⟨b91,rfl,j8,e,U⟩
   have dF:b9≠b91:=by have:=z.lt;omega
   have d5:=Nat.le_trans i.size j8;have hH:=Nat.le_trans f.size j8;have aF:=aF.below e;have g:=g.below e;have d:=d.below e;have t:=t.below e;have i:=btr i e;have f:=btr f e;refine Y2 12 13 ?_ ?_
   ·refine Yk rfl trivial (X0r (enc:=encG) (l2:=(((c.gs.take (N+1)).drop p.toNat))) rfl rfl Xh Xj Xe X0c aF t (by simp only [maxLen];simp;omega) (by simp;omega)) (fun _ _ ⟨hJ,hP,_,aP,e,o⟩=>e) ?_;rintro _ oH ⟨hJ,hP,rfl,aP,e,o⟩;clear o;have aP:=aP.lower bU;have U:=U.below e;have g:=g.below e;have d:=d.below e;have t:=t.below e;have i:=btr i e;have f:=btr f e;refine Y1 13<|Yk rfl trivial (X6 (k:=0) (vs:=[]) (zs:=[]) rfl Xh Xj rfl rfl) (fun _ _ ⟨_,_,_,h,_⟩=>h) ?_;rintro _ oJ ⟨oK,rfl,cU,e,m7⟩;have jR:=Nat.le_trans i.size cU;have n3:=Nat.le_trans f.size cU;have m8:=g.away cU;have m9:=d.away cU;have kN:=t.away cU;have fX:=aP.away cU;have U:=U.below e;have d:=d.below e;have aP:=aP.below e;have i:=btr i e;have f:=btr f e;refine Y1 15<|Yk rfl trivial (X0r (enc:=encG) (l2:=(ws)) rfl rfl Xh Xj Xe X0c m7 d (by simp only [maxLen];omega) (by omega)) (fun _ _ ⟨hY,hZ,_,cV,e,o⟩=>e) ?_;rintro _ oL ⟨hY,hZ,rfl,cV,e,o⟩;have fY:=Apart.new0 aP fX o;clear o;have cV:=cV.lower jR;have U:=U.below e;have aP:=aP.below e;have i:=btr i e;have f:=btr f e;refine Yo 16 rfl (fun _=>Xg (ps:=[(0,vi p),(1,.slice hJ ((c.gs.take (N+1)).drop p.toNat).length hP),(2,.slice hY ws.length hZ)]) (cs:=[vi p,.slice hJ ((c.gs.take (N+1)).drop p.toNat).length hP,.slice hY ws.length hZ]) rfl (fun _=>by first|rfl|kernel_rfl))<|Y1 18 ?_;refine Yh rfl trivial rfl (Vw [vi p,.slice hJ ((c.gs.take (N+1)).drop p.toNat).length hP,.slice hY ws.length hZ] X17 U) ?_;rintro _ w40 ⟨E,hb⟩
    have y:=U;have aP:=aP.onlyT E y rfl;have cV:=cV.onlyT E y rfl;have f:=Below.only f E hH;have i:=Below.only i E d5;have U:=hb;refine Yd fun a G=>?_
    have W:Below w3.heap.size w3 w40:=f
    exact ⟨b91,hJ,hP,hY,hZ,G.sub ⟨rfl,rfl,rfl,rfl,(by first|rfl|(simp [look,H])),trivial⟩,d5,U,dF,aP,cV,fY,W⟩
   refine Yk rfl trivial (X6 (k:=0) (vs:=[]) (zs:=[]) rfl Xh Xj rfl rfl) (fun _ _ ⟨_,_,_,h,_⟩=>h) ?_;rintro _ oM ⟨b98,rfl,dG,e,fI⟩
   have fZ:lU≠b98:=by have:=aF.lt;omega
   have jS:=Nat.le_trans i.size dG;have n4:=Nat.le_trans f.size dG;have mA:=g.away dG;have mB:=d.away dG;have kO:=t.away dG;have aF:=aF.below e;have U:=U.below e;have d:=d.below e;have t:=t.below e;have i:=btr i e;have f:=btr f e;refine Y1 12<|Yk rfl trivial (X0r (enc:=encG) (l2:=(((c.gs.take (N+1)).drop p.toNat))) rfl rfl Xh Xj Xe X0c aF t (by simp only [maxLen];simp;omega) (by simp;omega)) (fun _ _ ⟨dH,dI,_,aI,e,o⟩=>e) ?_;rintro _ oN ⟨dH,dI,rfl,aI,e,o⟩;have fA:=o _ fI.lt (Ne.symm fZ);clear o;have aI:=aI.lower bU;have U:=U.below e;have fI:=fI.below e;have d:=d.below e;have i:=btr i e;have f:=btr f e;refine Y1 15<|Yk rfl trivial (X0r (enc:=encG) (l2:=(ws)) rfl rfl Xh Xj Xe X0c fI d (by simp only [maxLen];omega) (by omega)) (fun _ _ ⟨dJ,dK,_,b4,e,o⟩=>e) ?_;rintro _ oO ⟨dJ,dK,rfl,b4,e,o⟩;have dL:=Apart.new0 aI fA o;clear o;have b4:=b4.lower jS;have U:=U.below e;have aI:=aI.below e;have i:=btr i e;have f:=btr f e;refine Yo 16 rfl (fun _=>Xg (ps:=[(0,vi p),(1,.slice dH ((c.gs.take (N+1)).drop p.toNat).length dI),(2,.slice dJ ws.length dK)]) (cs:=[vi p,.slice dH ((c.gs.take (N+1)).drop p.toNat).length dI,.slice dJ ws.length dK]) rfl (fun _=>by first|rfl|kernel_rfl))<|Y1 18 ?_;refine Yh rfl trivial rfl (Vw [vi p,.slice dH ((c.gs.take (N+1)).drop p.toNat).length dI,.slice dJ ws.length dK] X17 U) ?_;rintro _ w44 ⟨E,hb⟩;have y:=U;have aI:=aI.onlyT E y rfl;have b4:=b4.onlyT E y rfl;have f:=Below.only f E hH
   have i:=Below.only i E d5;have U:=hb;refine Yd fun a G=>?_
   have W:Below w3.heap.size w3 w44:=f
   exact ⟨b91,dH,dI,dJ,dK,G.sub ⟨rfl,rfl,rfl,rfl,(by first|rfl|(simp [look,H])),trivial⟩,d5,U,dF,aI,b4,dL,W⟩
  ·refine Yk rfl trivial (X6 (k:=0) (vs:=[]) (zs:=[]) rfl Xh Xj rfl rfl) (fun _ _ ⟨_,_,_,h,_⟩=>h) ?_;rintro _ oP ⟨jA,rfl,bW,e,D⟩;have bO:=Nat.le_trans i.size bW;have mG:=Nat.le_trans f.size bW;have kP:=g.away bW;have kQ:=d.away bW;have jT:=t.away bW;have z:=z.below e;have g:=g.below e;have d:=d.below e;have t:=t.below e;have i:=btr i e;have f:=btr f e;refine Y2 3 17 ?_ ?_
   ·refine Yk rfl trivial (X6 (k:=0) (vs:=[]) (zs:=[]) rfl Xh Xj rfl rfl) (fun _ _ ⟨_,_,_,h,_⟩=>h) ?_;rintro _ oQ ⟨b106,rfl,bX,e,d6⟩
    have bL:jA≠b106:=by have:=D.lt;omega
    have fJ:=Nat.le_trans i.size bX;have mH:=Nat.le_trans f.size bX;have kR:=g.away bX;have kS:=d.away bX;have jU:=t.away bX;have z:=z.below e;have D:=D.below e;have d:=d.below e;have t:=t.below e;have i:=btr i e;have f:=btr f e;refine Y2 12 17 ?_ ?_
    ·refine Yk rfl trivial (X0r (enc:=encG) (l2:=(((c.gs.take (N+1)).drop p.toNat))) rfl rfl Xh Xj Xe X0c d6 t (by simp only [maxLen];simp;omega) (by simp;omega)) (fun _ _ ⟨b0,b1,_,I,e,o⟩=>e) ?_;rintro _ oR ⟨b0,b1,rfl,I,e,o⟩;have bM:=o _ D.lt bL;clear o;have I:=I.lower fJ;have z:=z.below e;have D:=D.below e;have d:=d.below e;have i:=btr i e;have f:=btr f e;refine Y2 15 17 ?_ ?_
     ·refine Yk rfl trivial (X0r (enc:=encG) (l2:=(ws)) rfl rfl Xh Xj Xe X0c D d (by simp only [maxLen];omega) (by omega)) (fun _ _ ⟨dM,dN,_,aR,e,o⟩=>e) ?_;rintro _ oS ⟨dM,dN,rfl,aR,e,o⟩;have dO:=Apart.new0 I bM o;clear o;have aR:=aR.lower bO;have z:=z.below e;have I:=I.below e;have i:=btr i e;have f:=btr f e;refine Yo 16 rfl (fun _=>Xg (ps:=[(0,vi p),(1,.slice b0 ((c.gs.take (N+1)).drop p.toNat).length b1),(2,.slice dM ws.length dN)]) (cs:=[vi p,.slice b0 ((c.gs.take (N+1)).drop p.toNat).length b1,.slice dM ws.length dN]) rfl (fun _=>by first|rfl|kernel_rfl))<|Y1 17 ?_;refine Yk rfl trivial (X9 (zs:=[vi 0,.slice none 0 0,.slice none 0 0]) X33 rfl) (fun _ _ ⟨_,_,_,h,_⟩=>h) ?_;rintro _ oT ⟨b114,rfl,i6,e,d7⟩
      have g4:b9≠b114:=by have:=z.lt;omega
      have fK:=Nat.le_trans i.size i6;have iJ:=Nat.le_trans f.size i6;have I:=I.below e;have aR:=aR.below e;have i:=btr i e;have f:=btr f e;refine Y1 18<|Yh rfl trivial rfl (Vw [vi p,.slice b0 ((c.gs.take (N+1)).drop p.toNat).length b1,.slice dM ws.length dN] X17 d7) ?_;rintro _ w50 ⟨E,hb⟩;have y:=d7;have I:=I.onlyT E y rfl;have aR:=aR.onlyT E y rfl;have f:=Below.only f E iJ;have i:=Below.only i E fK;have d7:=hb;refine Yd fun a G=>?_
      have W:Below w3.heap.size w3 w50:=f
      exact ⟨b114,b0,b1,dM,dN,G.sub ⟨rfl,rfl,rfl,rfl,(by first|rfl|(simp [look,H])),trivial⟩,fK,d7,g4,I,aR,dO,W⟩
     refine Yk rfl trivial (X9 (zs:=[vi 0,.slice none 0 0,.slice none 0 0]) X33 rfl) (fun _ _ ⟨_,_,_,h,_⟩=>h) ?_;rintro _ oU ⟨b117,rfl,i7,e,b5⟩
     have g5:b9≠b117:=by have:=z.lt;omega
     have fL:=Nat.le_trans i.size i7;have iK:=Nat.le_trans f.size i7;have D:=D.below e;have d:=d.below e;have I:=I.below e;have i:=btr i e;have f:=btr f e;refine Y1 15<|Yk rfl trivial (X0r (enc:=encG) (l2:=(ws)) rfl rfl Xh Xj Xe X0c D d (by simp only [maxLen];omega) (by omega)) (fun _ _ ⟨dP,dQ,_,b7,e,o⟩=>e) ?_;rintro _ oV ⟨dP,dQ,rfl,b7,e,o⟩;have dR:=Apart.new0 I bM o;clear o;have b7:=b7.lower bO;have b5:=b5.below e;have I:=I.below e;have i:=btr i e;have f:=btr f e;refine Yo 16 rfl (fun _=>Xg (ps:=[(0,vi p),(1,.slice b0 ((c.gs.take (N+1)).drop p.toNat).length b1),(2,.slice dP ws.length dQ)]) (cs:=[vi p,.slice b0 ((c.gs.take (N+1)).drop p.toNat).length b1,.slice dP ws.length dQ]) rfl (fun _=>by first|rfl|kernel_rfl))<|Y1 18 ?_;refine Yh rfl trivial rfl (Vw [vi p,.slice b0 ((c.gs.take (N+1)).drop p.toNat).length b1,.slice dP ws.length dQ] X17 b5) ?_;rintro _ w53 ⟨E,hb⟩;have y:=b5;have I:=I.onlyT E y rfl;have b7:=b7.onlyT E y rfl;have f:=Below.only f E iK;have i:=Below.only i E fL;have b5:=hb;refine Yd fun a G=>?_
     have W:Below w3.heap.size w3 w53:=f
     exact ⟨b117,b0,b1,dP,dQ,G.sub ⟨rfl,rfl,rfl,rfl,(by first|rfl|(simp [look,H])),trivial⟩,fL,b5,g5,I,b7,dR,W⟩
    refine Yk rfl trivial (X9 (zs:=[vi 0,.slice none 0 0,.slice none 0 0]) X33 rfl) (fun _ _ ⟨_,_,_,h,_⟩=>h) ?_;rintro _ oW ⟨b123,rfl,i8,e,aS⟩
    have g6:b9≠b123:=by have:=z.lt;omega
    have fM:=Nat.le_trans i.size i8;have iM:=Nat.le_trans f.size i8;have D:=D.below e;have d6:=d6.below e;have d:=d.below e;have t:=t.below e;have i:=btr i e;have f:=btr f e;refine Y1 12<|Yk rfl trivial (X0r (enc:=encG) (l2:=(((c.gs.take (N+1)).drop p.toNat))) rfl rfl Xh Xj Xe X0c d6 t (by simp only [maxLen];simp;omega) (by simp;omega)) (fun _ _ ⟨dS,dT,_,aJ,e,o⟩=>e) ?_;rintro _ oX ⟨dS,dT,rfl,aJ,e,o⟩;have dU:=o _ D.lt bL;clear o;have aJ:=aJ.lower fJ;have D:=D.below e;have aS:=aS.below e;have d:=d.below e;have i:=btr i e;have f:=btr f e;refine Y1 15<|Yk rfl trivial (X0r (enc:=encG) (l2:=(ws)) rfl rfl Xh Xj Xe X0c D d (by simp only [maxLen];omega) (by omega)) (fun _ _ ⟨dW,dX,_,b8,e,o⟩=>e) ?_;rintro _ oY ⟨dW,dX,rfl,b8,e,o⟩;have dY:=Apart.new0 aJ dU o;clear o;have b8:=b8.lower bO;have aS:=aS.below e;have aJ:=aJ.below e;have i:=btr i e;have f:=btr f e;refine Yo 16 rfl (fun _=>Xg (ps:=[(0,vi p),(1,.slice dS ((c.gs.take (N+1)).drop p.toNat).length dT),(2,.slice dW ws.length dX)]) (cs:=[vi p,.slice dS ((c.gs.take (N+1)).drop p.toNat).length dT,.slice dW ws.length dX]) rfl (fun _=>by first|rfl|kernel_rfl))<|Y1 18 ?_;refine Yh rfl trivial rfl (Vw [vi p,.slice dS ((c.gs.take (N+1)).drop p.toNat).length dT,.slice dW ws.length dX] X17 aS) ?_;rintro _ w57 ⟨E,hb⟩;have y:=aS;have aJ:=aJ.onlyT E y rfl;have b8:=b8.onlyT E y rfl;have f:=Below.only f E iM;have i:=Below.only i E fM
    have aS:=hb;refine Yd fun a G=>?_
    have W:Below w3.heap.size w3 w57:=f
    exact ⟨b123,dS,dT,dW,dX,G.sub ⟨rfl,rfl,rfl,rfl,(by first|rfl|(simp [look,H])),trivial⟩,fM,aS,g6,aJ,b8,dY,W⟩
   refine Yk rfl trivial (X9 (zs:=[vi 0,.slice none 0 0,.slice none 0 0]) X33 rfl) (fun _ _ ⟨_,_,_,h,_⟩=>h) ?_;rintro _ oZ ⟨b130,rfl,iA,e,aG⟩
   have g7:b9≠b130:=by have:=z.lt;omega
   have fN:=Nat.le_trans i.size iA;have iN:=Nat.le_trans f.size iA;have D:=D.below e;have g:=g.below e;have d:=d.below e;have t:=t.below e;have i:=btr i e;have f:=btr f e;refine Y1 3<|Yk rfl trivial (X6 (k:=0) (vs:=[]) (zs:=[]) rfl Xh Xj rfl rfl) (fun _ _ ⟨_,_,_,h,_⟩=>h) ?_;rintro _ p5 ⟨b131,rfl,bY,e,jV⟩
   have e8:jA≠b131:=by have:=D.lt;omega
   have iO:=Nat.le_trans i.size bY;have mI:=Nat.le_trans f.size bY;have kT:=g.away bY;have kU:=d.away bY;have jW:=t.away bY;have D:=D.below e;have aG:=aG.below e;have d:=d.below e;have t:=t.below e;have i:=btr i e;have f:=btr f e;refine Y1 12<|Yk rfl trivial (X0r (enc:=encG) (l2:=(((c.gs.take (N+1)).drop p.toNat))) rfl rfl Xh Xj Xe X0c jV t (by simp only [maxLen];simp;omega) (by simp;omega)) (fun _ _ ⟨eA,eB,_,aK,e,o⟩=>e) ?_;rintro _ p6 ⟨eA,eB,rfl,aK,e,o⟩;have eC:=o _ D.lt e8;clear o;have aK:=aK.lower iO;have D:=D.below e;have aG:=aG.below e;have d:=d.below e;have i:=btr i e;have f:=btr f e;refine Y1 15<|Yk rfl trivial (X0r (enc:=encG) (l2:=(ws)) rfl rfl Xh Xj Xe X0c D d (by simp only [maxLen];omega) (by omega)) (fun _ _ ⟨eD,eE,_,bC,e,o⟩=>e) ?_;rintro _ p8 ⟨eD,eE,rfl,bC,e,o⟩;have eF:=Apart.new0 aK eC o;clear o;have bC:=bC.lower bO;have aG:=aG.below e;have aK:=aK.below e;have i:=btr i e;have f:=btr f e;refine Yo 16 rfl (fun _=>Xg (ps:=[(0,vi p),(1,.slice eA ((c.gs.take (N+1)).drop p.toNat).length eB),(2,.slice eD ws.length eE)]) (cs:=[vi p,.slice eA ((c.gs.take (N+1)).drop p.toNat).length eB,.slice eD ws.length eE]) rfl (fun _=>by first|rfl|kernel_rfl))<|Y1 18 ?_;refine Yh rfl trivial rfl (Vw [vi p,.slice eA ((c.gs.take (N+1)).drop p.toNat).length eB,.slice eD ws.length eE] X17 aG) ?_;rintro _ w62 ⟨E,hb⟩;have y:=aG;have aK:=aK.onlyT E y rfl;have bC:=bC.onlyT E y rfl
   have f:=Below.only f E iN;have i:=Below.only i E fN;have aG:=hb;refine Yd fun a G=>?_
   have W:Below w3.heap.size w3 w62:=f
   exact ⟨b130,eA,eB,eD,eE,G.sub ⟨rfl,rfl,rfl,rfl,(by first|rfl|(simp [look,H])),trivial⟩,fN,aG,g7,aK,bC,eF,W⟩
  refine Yk rfl trivial (X9 (zs:=[vi 0,.slice none 0 0,.slice none 0 0]) X33 rfl) (fun _ _ ⟨_,_,_,h,_⟩=>h) ?_;rintro _ p9 ⟨b139,rfl,iB,e,C⟩
  have bD:b9≠b139:=by have:=z.lt;omega
  have aT:=Nat.le_trans i.size iB;have d8:=Nat.le_trans f.size iB;have g:=g.below e;have d:=d.below e;have t:=t.below e;have i:=btr i e;have f:=btr f e;refine Y2 3 13 ?_ ?_
  ·refine Yk rfl trivial (X6 (k:=0) (vs:=[]) (zs:=[]) rfl Xh Xj rfl rfl) (fun _ _ ⟨_,_,_,h,_⟩=>h) ?_;rintro _ pC ⟨mC,rfl,bZ,e,c4⟩;have fO:=Nat.le_trans i.size bZ;have mJ:=Nat.le_trans f.size bZ;have kW:=g.away bZ;have kX:=d.away bZ;have jX:=t.away bZ;have C:=C.below e;have g:=g.below e;have d:=d.below e;have t:=t.below e;have i:=btr i e;have f:=btr f e;refine Y2 12 13 ?_ ?_
   ·refine Yk rfl trivial (X0r (enc:=encG) (l2:=(((c.gs.take (N+1)).drop p.toNat))) rfl rfl Xh Xj Xe X0c c4 t (by simp only [maxLen];simp;omega) (by simp;omega)) (fun _ _ ⟨eG,eH,_,aD,e,o⟩=>e) ?_;rintro _ pD ⟨eG,eH,rfl,aD,e,o⟩;clear o;have aD:=aD.lower fO;have C:=C.below e;have g:=g.below e;have d:=d.below e;have t:=t.below e;have i:=btr i e;have f:=btr f e;refine Y1 13<|Yk rfl trivial (X6 (k:=0) (vs:=[]) (zs:=[]) rfl Xh Xj rfl rfl) (fun _ _ ⟨_,_,_,h,_⟩=>h) ?_;rintro _ pE ⟨nA,rfl,bE,e,jY⟩;have iP:=Nat.le_trans i.size bE;have mK:=Nat.le_trans f.size bE;have kY:=g.away bE;have kZ:=d.away bE;have jZ:=t.away bE;have eI:=aD.away bE;have C:=C.below e;have d:=d.below e;have aD:=aD.below e;have i:=btr i e;have f:=btr f e;refine Y1 15<|Yk rfl trivial (X0r (enc:=encG) (l2:=(ws)) rfl rfl Xh Xj Xe X0c jY d (by simp only [maxLen];omega) (by omega)) (fun _ _ ⟨eJ,eK,_,bF,e,o⟩=>e) ?_;rintro _ pF ⟨eJ,eK,rfl,bF,e,o⟩;have eL:=Apart.new0 aD eI o;clear o;have bF:=bF.lower iP;have C:=C.below e;have aD:=aD.below e;have i:=btr i e;have f:=btr f e;refine Yo 16 rfl (fun _=>Xg (ps:=[(0,vi p),(1,.slice eG ((c.gs.take (N+1)).drop p.toNat).length eH),(2,.slice eJ ws.length eK)]) (cs:=[vi p,.slice eG ((c.gs.take (N+1)).drop p.toNat).length eH,.slice eJ ws.length eK]) rfl (fun _=>by first|rfl|kernel_rfl))<|Y1 18 ?_;refine Yh rfl trivial rfl (Vw [vi p,.slice eG ((c.gs.take (N+1)).drop p.toNat).length eH,.slice eJ ws.length eK] X17 C) ?_;rintro _ w68 ⟨E,hb⟩
    have y:=C;have aD:=aD.onlyT E y rfl;have bF:=bF.onlyT E y rfl;have f:=Below.only f E d8;have i:=Below.only i E aT;have C:=hb;refine Yd fun a G=>?_
    have W:Below w3.heap.size w3 w68:=f
    exact ⟨b139,eG,eH,eJ,eK,G.sub ⟨rfl,rfl,rfl,rfl,(by first|rfl|(simp [look,H])),trivial⟩,aT,C,bD,aD,bF,eL,W⟩
   refine Yk rfl trivial (X6 (k:=0) (vs:=[]) (zs:=[]) rfl Xh Xj rfl rfl) (fun _ _ ⟨_,_,_,h,_⟩=>h) ?_;rintro _ pG ⟨b148,rfl,cA,e,d9⟩
   have eM:mC≠b148:=by have:=c4.lt;omega
   have iQ:=Nat.le_trans i.size cA;have mL:=Nat.le_trans f.size cA;have l3:=g.away cA;have l4:=d.away cA;have k0:=t.away cA;have C:=C.below e;have c4:=c4.below e;have d:=d.below e;have t:=t.below e;have i:=btr i e;have f:=btr f e;refine Y1 12<|Yk rfl trivial (X0r (enc:=encG) (l2:=(((c.gs.take (N+1)).drop p.toNat))) rfl rfl Xh Xj Xe X0c c4 t (by simp only [maxLen];simp;omega) (by simp;omega)) (fun _ _ ⟨eN,eO,_,aL,e,o⟩=>e) ?_;rintro _ pH ⟨eN,eO,rfl,aL,e,o⟩;have eP:=o _ d9.lt (Ne.symm eM);clear o;have aL:=aL.lower fO;have C:=C.below e;have d9:=d9.below e;have d:=d.below e;have i:=btr i e;have f:=btr f e;refine Y1 15<|Yk rfl trivial (X0r (enc:=encG) (l2:=(ws)) rfl rfl Xh Xj Xe X0c d9 d (by simp only [maxLen];omega) (by omega)) (fun _ _ ⟨eQ,eR,_,bG,e,o⟩=>e) ?_;rintro _ pI ⟨eQ,eR,rfl,bG,e,o⟩;have eS:=Apart.new0 aL eP o;clear o;have bG:=bG.lower iQ;have C:=C.below e;have aL:=aL.below e;have i:=btr i e;have f:=btr f e;refine Yo 16 rfl (fun _=>Xg (ps:=[(0,vi p),(1,.slice eN ((c.gs.take (N+1)).drop p.toNat).length eO),(2,.slice eQ ws.length eR)]) (cs:=[vi p,.slice eN ((c.gs.take (N+1)).drop p.toNat).length eO,.slice eQ ws.length eR]) rfl (fun _=>by first|rfl|kernel_rfl))<|Y1 18 ?_;refine Yh rfl trivial rfl (Vw [vi p,.slice eN ((c.gs.take (N+1)).drop p.toNat).length eO,.slice eQ ws.length eR] X17 C) ?_;rintro _ w72 ⟨E,hb⟩;have y:=C;have aL:=aL.onlyT E y rfl;have bG:=bG.onlyT E y rfl
   have f:=Below.only f E d8;have i:=Below.only i E aT;have C:=hb;refine Yd fun a G=>?_
   have W:Below w3.heap.size w3 w72:=f
   exact ⟨b139,eN,eO,eQ,eR,G.sub ⟨rfl,rfl,rfl,rfl,(by first|rfl|(simp [look,H])),trivial⟩,aT,C,bD,aL,bG,eS,W⟩
  refine Yk rfl trivial (X6 (k:=0) (vs:=[]) (zs:=[]) rfl Xh Xj rfl rfl) (fun _ _ ⟨_,_,_,h,_⟩=>h) ?_;rintro _ pJ ⟨mD,rfl,cB,e,aW⟩;have iS:=Nat.le_trans i.size cB;have mM:=Nat.le_trans f.size cB;have l5:=g.away cB;have l6:=d.away cB;have k5:=t.away cB;have C:=C.below e;have g:=g.below e;have d:=d.below e;have t:=t.below e;have i:=btr i e;have f:=btr f e;refine Y1 3<|Yk rfl trivial (X6 (k:=0) (vs:=[]) (zs:=[]) rfl Xh Xj rfl rfl) (fun _ _ ⟨_,_,_,h,_⟩=>h) ?_;rintro _ pK ⟨b156,rfl,cC,e,k6⟩
  have eT:mD≠b156:=by have:=aW.lt;omega
  have iT:=Nat.le_trans i.size cC;have mN:=Nat.le_trans f.size cC;have l7:=g.away cC;have l8:=d.away cC;have k7:=t.away cC;have C:=C.below e;have aW:=aW.below e;have d:=d.below e;have t:=t.below e;have i:=btr i e;have f:=btr f e;refine Y1 12<|Yk rfl trivial (X0r (enc:=encG) (l2:=(((c.gs.take (N+1)).drop p.toNat))) rfl rfl Xh Xj Xe X0c k6 t (by simp only [maxLen];simp;omega) (by simp;omega)) (fun _ _ ⟨eU,eW,_,aM,e,o⟩=>e) ?_;rintro _ pL ⟨eU,eW,rfl,aM,e,o⟩;have eX:=o _ aW.lt eT;clear o;have aM:=aM.lower iT;have C:=C.below e;have aW:=aW.below e;have d:=d.below e;have i:=btr i e;have f:=btr f e;refine Y1 15<|Yk rfl trivial (X0r (enc:=encG) (l2:=(ws)) rfl rfl Xh Xj Xe X0c aW d (by simp only [maxLen];omega) (by omega)) (fun _ _ ⟨eY,f0,_,bH,e,o⟩=>e) ?_;rintro _ pM ⟨eY,f0,rfl,bH,e,o⟩;have f5:=Apart.new0 aM eX o;clear o;have bH:=bH.lower iS;have C:=C.below e;have aM:=aM.below e;have i:=btr i e;have f:=btr f e;refine Yo 16 rfl (fun _=>Xg (ps:=[(0,vi p),(1,.slice eU ((c.gs.take (N+1)).drop p.toNat).length eW),(2,.slice eY ws.length f0)]) (cs:=[vi p,.slice eU ((c.gs.take (N+1)).drop p.toNat).length eW,.slice eY ws.length f0]) rfl (fun _=>by first|rfl|kernel_rfl))<|Y1 18 ?_;refine Yh rfl trivial rfl (Vw [vi p,.slice eU ((c.gs.take (N+1)).drop p.toNat).length eW,.slice eY ws.length f0] X17 C) ?_;rintro _ w77 ⟨E,hb⟩;have y:=C;have aM:=aM.onlyT E y rfl;have bH:=bH.onlyT E y rfl
  have f:=Below.only f E d8;have i:=Below.only i E aT;have C:=hb;refine Yd fun a G=>?_
  have W:Below w3.heap.size w3 w77:=f
  exact ⟨b139,eU,eW,eY,f0,G.sub ⟨rfl,rfl,rfl,rfl,(by first|rfl|(simp [look,H])),trivial⟩,aT,C,bD,aM,bH,f5,W⟩
 rintro a pN ⟨b52,aC,aE,bS,cH,G,cW,J,dD,A,aU,b3,e⟩;have L:=L.below e;have z:=z.below e;have g:=g.below e;have B:=B.below e;have i:=btr i e;refine lT _ _<|wp_seq_k fun _ k8=>?_;refine Zs G fun _ kA=>?_;refine Zm rfl<|Zi (k:=0) (u:=p) (enc:=encI) (l:=rr) trivial rfl rfl X09 X1k X08 B g8 rfl ?_;intro nB iU;refine Ze (X0 rfl X7 iU)<|Za rfl<|Zt kA fun a G=>?_;refine wp_block<|X0d (σ:=Nat×Int×(List Gt)) (fun (s:Nat×Int×(List Gt)) (a:Act) (w:World)=>match s with|(k,x,q)=>∃ bN cD,Fr a 96 [(1,.slice Arr rr.length crr),(4,.pointer (some ⟨b6,0,none⟩)),(8,.pointer (some ⟨b9,0,none⟩)),(14,vi (lastI rr)),(15,.pointer (some ⟨b52,0,none⟩)),(16,vi x)]∧(x=p+(k:Int))∧(k≤winN rr p)∧(q=ws++gapL c rr p k)∧Blk w b6 28 [vi c.n,.slice Ac c.gs.length cc]∧Blk w b9 46 [vi 0,.slice none 0 0,.slice none 0 0]∧Blk w b52 46 [vi p,.slice aC ((c.gs.take (N+1)).drop p.toNat).length aE,.slice bN q.length cD]∧Rd w w0.heap.size 115 encG Ac c.gs∧Rd w w0.heap.size 3 encI Arr rr∧Own w w0.heap.size 115 3 encG aC aE ((c.gs.take (N+1)).drop p.toNat)∧Own w w0.heap.size 115 3 encG bN cD q∧c.gs.length≤cc∧Apart aC bN∧Below w0.heap.size w0 w) (fun (s:Nat×Int×(List Gt))=>match s with|(k,x,q)=>winN rr p-k) (0,p,ws) ?_ ?_
 ·exact ⟨bS,cH,G.sb,(by simp),(Nat.zero_le _),(by rw [Xde,List.append_nil]),L,z,J,g,B,A,aU,aX,b3,i⟩
 rintro ⟨k,x,q⟩ a n5 ⟨bN,cD,G,hx,hk,hq,L,z,J,g,B,A,aB,aX,aN,i⟩;refine wp_seq_k fun _ kB=>?_;refine Zs G fun _ kC=>?_;refine Zm rfl<|Zm rfl<|Ze (Xc5 rfl rfl)<|Zt kC fun a G=>?_
 refine Xl G rfl (fun aO=>?_) (fun aO=>?_)
 ·have b2:=aO;have aO:=of_decide_eq_true aO
  have jC:k<winN rr p:=by have h9:=aO;rw [fP] at h9;omega
  obtain ⟨u9,mE⟩:=Xm (l:=c.gs) (k:=p.toNat+k) (by omega)
  have nC:=X7g c rr p k
  have mF:q.length≤1000000+k:=by rw [hq,List.length_append];omega
  refine wp_skip<|kB _ _<|wp_seq_k fun _ iC=>?_;refine wp_block<|Zs G fun _ kD=>?_;refine Zm rfl<|Zm rfl<|Zf (Vc (Xv4 _ Arr crr rr B.top x (by omega)) Xjy) ?_;rintro _ pO ⟨rfl,e⟩;have L:=L.below e;have z:=z.below e;have J:=J.below e;have g:=g.below e;have B:=B.below e;have A:=A.below e;have aB:=aB.below e;have i:=btr i e;refine Ze (X0y rfl)<|Zt kD fun a G=>?_
  refine Xl G rfl (fun cE=>?_) (fun cE=>?_)
  ·have iV:=cE
   have hT:hasB rr (p+(k:Int))=false:=by have h9:=cE;rw [hx] at h9;exact bn1 h9
   refine X0f none (fun j=>[8,10].contains j) mixed ?_;intro pP e;have L:=L.below e;have z:=z.below e;have J:=J.below e;have g:=g.below e;have B:=B.below e;have A:=A.below e;have aB:=aB.below e;have i:=btr i e;refine Yb G<|Yo 0 rfl (fun _=>Vd rfl X2l 2)<|Ye 1 rfl (X0 rfl X16 (J.at 2))<|Yo 2 rfl (fun _=>Vd rfl X0z 1)<|Ye 3 rfl (X0 rfl X16 (L.at 1))<|Yo 4 rfl (fun _=>Xa rfl) ?_;refine Yi (k:=(p.toNat+k)) (u:=u9) (enc:=encG) (l:=c.gs) 5 rfl trivial rfl rfl Xh X0s Xe g mE (by omega) ?_;intro nD iW;refine Ye 6 rfl (X07 (l:=[vi u9.k,vi u9.a,vi u9.b]) rfl X0m iW rfl)<|Y1 7 ?_;refine Yk rfl trivial (X6 (k:=1) (vs:=[.agg #[vi u9.k,vi u9.a,vi u9.b]]) (zs:=[vi u9.k,vi u9.a,vi u9.b]) rfl Xh Xj rfl rfl) (fun _ _ ⟨_,_,_,h,_⟩=>h) ?_;rintro _ pQ ⟨nE,rfl,dA,e,fB⟩;have mO:=Nat.le_trans i.size dA;have l9:=g.away dA;have kE:=A.away dA;have f6:=aB.away dA;have L:=L.below e;have z:=z.below e;have J:=J.below e;have g:=g.below e;have B:=B.below e;have A:=A.below e;have aB:=aB.below e;have i:=btr i e;refine Y1 8<|Yt rfl trivial rfl (X13 (enc:=encG) (l:=(q)) (l2:=([u9])) (B0:=w0.heap.size) rfl rfl Xh Xj Xe X0c aB (Rd.of_blk fB rfl _ fB.lt) (by simp only [maxLen];simp;omega) (by simp;omega) i.size) ?_;rintro _ pR ⟨iD,iE,rfl,fC,hg,o⟩
   have cF:Own _ w0.heap.size 115 3 encG _ _ (q):=aB
   have jB:=o _ fB.lt f6;have fD:=Apart.app A aN o;clear o;have L:=L.appT cF hg rfl;have z:=z.appT cF hg rfl;have J:=J.appT cF hg rfl;have g:=g.appB cF hg (Nat.le_refl _);have B:=B.appT cF hg rfl;have A:=A.appP hg aN;have i:=Below.app i cF hg (Nat.le_refl _) i.size;clear cF hg;refine Yo 9 rfl (fun _=>Vd rfl X2l 2)<|Y1 10 ?_;refine Yh rfl trivial rfl (Vu (vs:=[.slice iD (q++([u9])).length iE]) (l':=[vi p,.slice aC ((c.gs.take (N+1)).drop p.toNat).length aE,.slice iD (q++([u9])).length iE]) rfl rfl Xfc J) ?_;rintro _ pS ⟨E,hb⟩;have y:=J;have L:=L.only E (Blk.ne L y rfl);have z:=z.only E (by omega);have g:=g.onlyT E y rfl;have B:=B.onlyT E y rfl;have A:=A.onlyT E y rfl;have fC:=fC.onlyT E y rfl;have i:=Below.only i E cW;have J:=hb;refine Yd fun a G=>?_;refine Xu<|iC _ _<|Zr G<|Zm rfl<|Ze (X06 rfl rfl (by omega) (by omega))<|Za rfl ?_;refine Zn fun a G=>?_;refine Xs ?_;exact ⟨(k+1,x+1,(q++[u9])),⟨iD,iE,G.sb,(by omega),(by omega),(Xgy lC hq hT mE),L,z,J,g,B,A,fC,aX,fD,i⟩,(by first|omega|(dsimp only;omega))⟩
  have iV:=cE
  have hT:hasB rr (p+(k:Int))=true:=by have h9:=cE;rw [hx] at h9;exact bn2 h9
  refine wp_skip<|Xu<|iC _ _<|Zr G ?_;refine Zm rfl<|Ze (X06 rfl rfl (by omega) (by omega))<|Za rfl ?_;refine Zn fun a G=>?_;refine Xs ?_;exact ⟨(k+1,x+1,q),⟨bN,cD,G.sb,(by omega),(by omega),(Xdp hq hT),L,z,J,g,B,A,aB,aX,aN,i⟩,(by first|omega|(dsimp only;omega))⟩
 have b2:=aO;have aO:=of_decide_eq_false aO
 have jC:k=winN rr p:=by have h9:=aO;rw [fP] at h9;omega
 have iF:=Xch hq jC
 have iG:(newR c p rr ws).old=_:=Xd2 lC fP lB
 have nF:=X7g c rr p k
 have mF:q.length≤1000000+1000000000:=by rw [hq,List.length_append];omega
 refine wp_exit<|Xq<|Xq<|X0b ?_;refine k8 _ _<|wp_seq_k fun _ kF=>?_;refine wp_seq_k fun _ kG=>?_;refine X0n (fun a w=>Fr a 96 [(8,.pointer (some ⟨b9,0,none⟩)),(15,.pointer (some ⟨b52,0,none⟩)),(93,.bool ((decide (40<(((c.gs.take (N+1)).drop p.toNat).length:Int)))||(decide (40<(q.length:Int)))))]∧n5=w) ?_ ?_
 ·refine Zr G<|Ze (Vd rfl X4v 1)<|Ze (X0 rfl X16 (J.at 1))<|Ze (X0x rfl Xh)<|Ze (X2u rfl rfl)<|Zm rfl ?_
  refine Zg 88 rfl (fun Q=>?_) (fun Q=>?_)
  ·refine Zp (gP Q) ?_;refine Zp (gP Q) ?_;refine Zp (gP Q) ?_;refine Zp (gP Q) ?_;refine Ze (Xp rfl Q rfl) ?_;refine Zn fun a G=>?_;exact ⟨G.sub ⟨rfl,rfl,X1 rfl (by first|rfl|(simp only [H,b2,Q,bs];done)|simp [H,b2,Q]),trivial⟩,rfl⟩
  refine Zv (gW Q) (Vd rfl X2l 2) ?_;refine Zv (gW Q) (X0 rfl X16 (J.at 2)) ?_;refine Zv (gW Q) (X0x rfl Xh) ?_;refine Zv (gW Q) (X2u rfl rfl) ?_;refine Ze (Xk rfl Q rfl) ?_;refine Zn fun a G=>?_;exact ⟨G.sub ⟨rfl,rfl,X1 rfl (by first|rfl|(simp only [H,b2,Q,bs];done)|simp [H,b2,Q]),trivial⟩,rfl⟩
 rintro a _ ⟨G,rfl⟩;refine kG _ _ ?_
 refine Xl G rfl (fun cG=>?_) (fun cG=>?_)
 ·have iX:=cG
  have h9:40<(newR c p rr ws).old.length∨40<(newR c p rr ws).new.length:=by rw [iG,iF];have h8:=cG;simp only [Bool.or_eq_true,decide_eq_true_eq] at h8;omega
  have bR:=Xgc j1 h9;refine Zs G fun _ kH=>?_;refine Ze (Xg (ps:=[]) (cs:=[vi 0,.slice none 0 0,.slice none 0 0]) rfl (fun _=>by first|rfl|kernel_rfl))<|Zo (Vw [vi 0,.slice none 0 0,.slice none 0 0] X17 z) ?_;rintro _ pT ⟨E,hb⟩;have y:=z;have i:=Below.only i E fE;have z:=hb;refine Za rfl<|Zt kH fun a G=>?_;refine wp_ret<|X4<|X2 G (X0w G rfl (ResV.cellN (l:=[vi 0,.slice none 0 0,.slice none 0 0]) rfl X1i (z.at 0) rfl) rfl) ?_
  rw [bR]
  exact ⟨none,0,none,0,rfl,(Own.nil _ _ _ _ _),(Own.nil _ _ _ _ _),(Apart.none_l _),i⟩
 have iX:=cG
 have h9:¬ (40<(newR c p rr ws).old.length∨40<(newR c p rr ws).new.length):=by rw [iG,iF];have h8:=cG;simp only [Bool.or_eq_false_iff,decide_eq_false_iff_not] at h8;omega
 have bR:=Xh4 j1 h9;refine wp_skip<|kF _ _<|Zs G fun _ kI=>?_;refine Ze (Vn X1i J)<|Zo (Vw [vi p,.slice aC ((c.gs.take (N+1)).drop p.toNat).length aE,.slice bN q.length cD] X17 z) ?_;rintro _ pU ⟨E,hb⟩;have y:=z;have A:=A.onlyT E y rfl;have aB:=aB.onlyT E y rfl;have i:=Below.only i E fE;have z:=hb;refine Za rfl<|Zt kI fun a G=>?_
 refine wp_ret (X2 G (X0w G rfl (ResV.cellN (l:=[vi p,.slice aC ((c.gs.take (N+1)).drop p.toNat).length aE,.slice bN q.length cD]) rfl X1i (z.at 0) rfl) rfl) ?_)
 rw [bR]
 simp only [Option.getD_some]
 rw [iG,iF]
 exact ⟨aC,aE,bN,cD,rfl,A,aB,aN,i⟩
theorem Xv9(w0:World)(n:PowT w0) : Ret Tryz.prog 49 [] w0 (fun v w=>∃ b1 F1 A1 c1 z1 b2 F2 A2 c2 z2,v=.agg #[.map none,.slice none 0 0,.map (some b1),.slice A1 (List.length (α:=Int) z1) c1,.map (some b2),.slice A2 (List.length (α:=Int) z2) c2]∧MapS w b1 (sgF F1)∧DeepM w w.heap.size 115 F1∧sgL F1=(tbW 1 5).1∧MapS w b2 (sgF F2)∧DeepM w w.heap.size 115 F2∧sgL F2=(tbW 2 3).1∧Below w0.heap.size w0 w):=by
 refine enter Tryz.func49 rfl 5 rfl rfl ?_;intro a hf
 have f:=bz w0
 refine Zs hf fun _ aD=>?_;refine Zf (X9 (zs:=[.map none,.slice none 0 0,.map none,.slice none 0 0,.map none,.slice none 0 0]) Xtk rfl) ?_;rintro _ w1 ⟨b5,rfl,aE,k,b⟩;have aA:=Nat.le_trans f.size aE;have f:=btr f k;refine Zx aD fun a hf _ aF=>?_;refine Zf (Vc (Xqe _ 1 5 (by omega) (by omega) (n.of f)) Xgs) ?_;rintro _ w2 ⟨b7,aG,A7,c7,d,rfl,i,c,aH,aB,aK,k⟩;have aB:=aB.lower f.size;have b:=b.below k;have f:=btr f k;refine Zf (Vc (Xqe _ 2 3 (by omega) (by omega) (n.of f)) Xgs) ?_;rintro _ w3 ⟨b8,aI,A8,c8,e,rfl,m,j,aJ,aC,aL,k⟩;have aC:=aC.lower f.size;have b:=b.below k;have i:=i.below k;have c:=c.below k;have f:=btr f k;refine Ze (Xg (ps:=[(1,.agg #[.map (some b7),.slice A7 d.length c7]),(2,.agg #[.map (some b8),.slice A8 e.length c8])]) (cs:=[.map none,.slice none 0 0,.map (some b7),.slice A7 d.length c7,.map (some b8),.slice A8 e.length c8]) rfl (fun _=>by first|rfl|kernel_rfl))<|Ze (Xg (ps:=[(0,.agg #[.map none,.slice none 0 0,.map (some b7),.slice A7 d.length c7,.map (some b8),.slice A8 e.length c8])]) (cs:=[.map none,.slice none 0 0,.map (some b7),.slice A7 d.length c7,.map (some b8),.slice A8 e.length c8]) rfl (fun _=>by first|rfl|kernel_rfl))<|Zo (Vw [.map none,.slice none 0 0,.map (some b7),.slice A7 d.length c7,.map (some b8),.slice A8 e.length c8] Xnz b) ?_;rintro _ w4 ⟨ho,hb⟩;have g:=b;have i:=i.only ho (i.ne g);have m:=m.only ho (m.ne g);have c:=c.onlyT ho g rfl;have j:=j.onlyT ho g rfl;have f:=Below.only f ho aA;have b:=hb;refine Zt aF fun a hf=>?_
 refine wp_ret (X2 hf (Xv hf rfl (ResV.cellN (l:=[.map none,.slice none 0 0,.map (some b7),.slice A7 d.length c7,.map (some b8),.slice A8 e.length c8]) rfl Xnk (b.at 0) rfl)) ?_)
 exact ⟨b7,aG,A7,c7,d,b8,aI,A8,c8,e,rfl,i,c.top,aH,m,j.top,aJ,f⟩
theorem Xw9(w0:World)(k:Int) : Ret Tryz.prog 151 [vi k] w0 (fun v w=>v=.bool (isTk k)∧Below w0.heap.size w0 w):=by
 refine enter Tryz.func151 rfl 9 rfl rfl ?_;intro a c
 have hW:=bz w0
 refine Zs c fun _ aA=>?_;refine Za rfl<|ZX aA fun a c _ aB=>?_;refine X0n (fun a w=>Fr a 9 [(2,.bool ((k==7)||(k==8)))]∧w0=w) ?_ ?_
 ·refine Zr c<|Zm rfl<|Ze (X15 rfl rfl)<|Zm rfl ?_
  refine Zg 5 rfl (fun b=>?_) (fun b=>?_)
  ·refine Zp (gP b) ?_;refine Zp (gP b) ?_;refine Ze (Xp rfl b rfl)<|Za rfl ?_;refine Zn fun a c=>?_;exact ⟨c.sub ⟨X1 rfl (by first|rfl|(simp only [b,bs];done)|simp [b]),trivial⟩,rfl⟩
  refine Zv (gW b) (Xa rfl) ?_;refine Zv (gW b) (X15 rfl rfl) ?_;refine Ze (Xk rfl b rfl)<|Za rfl ?_;refine Zn fun a c=>?_;exact ⟨c.sub ⟨X1 rfl (by first|rfl|(simp only [b,bs];done)|simp [b]),trivial⟩,rfl⟩
 rintro a _ ⟨c,rfl⟩;refine aB _ _ ?_
 refine wp_ret (X2 c (Xv c rfl rfl) ?_)
 exact ⟨rfl,hW⟩
theorem Xgt(i:World)(Al:Option Addr)(cl:Nat)(l:List Gt)(j:Rd i i.heap.size 115 encG Al l)(aS:l.length≤100000000) : Ret Tryz.prog 89 [.slice Al l.length cl] i (fun v w=>v=vi ((tcN l:Nat) : Int)∧Below i.heap.size i w):=by
 refine enter Tryz.func89 rfl 20 rfl rfl ?_;intro a c
 have f:=bz i
 refine Zs c fun _ aI=>?_;refine Za rfl<|Zx aI fun a c _ aJ=>?_;refine Za rfl<|ZX aJ fun a c _ aK=>?_;refine Zs c fun _ aL=>?_;refine Zm rfl<|Ze (X0x rfl Xh)<|Zm rfl<|Zt aL fun a c=>?_;refine wp_block<|X0d (σ:=Nat) (fun (k:Nat) (a:Act) (w:World)=>Fr a 20 [(3,vi ((tcN (l.take k) : Nat) : Int)),(6,.slice Al l.length cl),(7,vi (l.length:Int)),(8,vi (k:Int))]∧(k≤l.length)∧Below i.heap.size i w) (fun (k:Nat)=>l.length-k) 0 ?_ ?_
 ·exact ⟨c.sb,(Nat.zero_le _),f⟩
 rintro k a w1 ⟨c,hk,f⟩;refine Zs c fun _ aM=>?_;refine Ze (X12 rfl rfl)<|ZX aM fun a c _ aN=>?_
 refine Xl c rfl (fun d=>?_) (fun d=>?_)
 ·have aC:=d;have d:=of_decide_eq_true d
  obtain ⟨g,aD⟩:=Xm (l:=l) (k:=k) (by omega)
  have aO:=Xps aD;have aP:=Xup (l.take k)
  rw [List.length_take] at aP
  refine wp_skip<|aN _ _<|wp_seq_k fun _ aE=>?_;refine wp_block<|Zs c fun _ aF=>?_;refine Zi (k:=k) (u:=g) (enc:=encG) (l:=l) trivial rfl rfl Xh X0s Xe (j.below' f) aD rfl ?_;intro aT aA;refine Ze (X07 (l:=[vi g.k,vi g.a,vi g.b]) rfl X0m aA rfl)<|Zf (X9 (zs:=[vi 0,vi 0,vi 0]) X32 rfl) ?_;rintro _ w2 ⟨aU,rfl,m,hE,e⟩;have aB:=Nat.le_trans f.size m;have aG:=(j.below' f).away m;have f:=btr f hE;refine Zo (Vw [vi g.k,vi g.a,vi g.b] X0s e) ?_;rintro _ w3 ⟨ho,hb⟩;have aR:=e;have f:=Below.only f ho aB;have e:=hb;refine Zt aF fun a c=>?_;refine Zr c<|Zm rfl<|Ze (Vd rfl X0p 0)<|Ze (X0 rfl X7 (e.at 0))<|Zf (Vc (Xw9 _ g.k) Xng) ?_;rintro _ w4 ⟨rfl,hE⟩;have f:=btr f hE;refine Zf (Vc (F59 _ (isTk g.k)) Xg2) ?_;rintro _ _ ⟨rfl,rfl⟩;refine Ze (X06 rfl rfl (by omega) (by omega))<|Za rfl ?_;refine Zn fun a c=>?_;refine Xu<|aE _ _<|Zr c<|Ze (X06 rfl rfl (by omega) (by omega))<|Zm rfl ?_;refine Zn fun a c=>?_
  rw [← aO] at c
  refine Xs ?_;exact ⟨k+1,⟨c.sb,(by omega),f⟩,(by omega)⟩
 have aC:=d;have d:=of_decide_eq_false d
 have aQ:l.take k=l:=List.take_of_length_le (by omega)
 refine wp_exit<|Xq<|Xq<|X0b ?_;refine aK _ _<|Zs c fun _ aH=>?_;refine Zm rfl<|Za rfl<|Zt aH fun a c=>?_
 refine wp_ret (X2 c (Xv c rfl rfl) ?_)
 rw [aQ]
 exact ⟨rfl,f⟩
theorem Xtn(Q:World)(b2:Nat)(aX:ByteArray→Option Sq)(bJ:Option Addr)(bK bL:Nat)(u:MapS Q b2 (sgF aX))(o:DeepM Q Q.heap.size 115 aX)(bM:sgL aX=(tbW 1 5).1)(b3:Nat)(b6:ByteArray→Option Sq)(bN:Option Addr)(bO bP:Nat)(dL:MapS Q b3 (sgF b6))(cY:DeepM Q Q.heap.size 115 b6)(dM:sgL b6=(tbW 2 3).1)(c:Cx)(Ac:Option Addr)(cc:Nat)(q:Rd Q Q.heap.size 115 encG Ac c.gs)(bQ:c.gs.length≤cc)(p:Int)(Aqs:Option Addr)(cqs:Nat)(qs:List Int)(b:Rd Q Q.heap.size 3 encI Aqs qs)(bR:c.gs.length≤1000000000)(bS:qs.length≤1048576)(d5:runB c p qs=true→qs.length=1)(bU:PowT Q) : Ret Tryz.prog 50 [.agg #[.map none,.slice none 0 0,.map (some b2),.slice bJ bK bL,.map (some b3),.slice bN bO bP],.agg #[vi c.n,.slice Ac c.gs.length cc],vi p,.slice Aqs qs.length cqs] Q (fun v w=>∃ A9 e9 B9 f9,v=.tuple #[.agg #[vi ((shrI c p qs).getD rpZ).pos,.slice A9 ((shrI c p qs).getD rpZ).old.length e9,.slice B9 ((shrI c p qs).getD rpZ).new.length f9],.bool (shrI c p qs).isSome]∧Own w Q.heap.size 115 3 encG A9 e9 ((shrI c p qs).getD rpZ).old∧Own w Q.heap.size 115 3 encG B9 f9 ((shrI c p qs).getD rpZ).new∧Apart A9 B9∧Below Q.heap.size Q w):=by
 obtain ⟨rr,bW⟩ : ∃ rr,rr=(runP c p qs).getD []:=⟨_,rfl⟩
 obtain ⟨ro,b7⟩ : ∃ ro:Bool,ro=(runP c p qs).isSome:=⟨_,rfl⟩
 refine enter Tryz.func50 rfl 93 rfl rfl ?_;intro a D
 have z:=bz Q
 refine Zs D fun _ d6=>?_;refine Zf (X0i (zs:=[.map none,.slice none 0 0,.map (some b2),.slice bJ bK bL,.map (some b3),.slice bN bO bP]) rfl rfl) ?_;rintro _ w1 ⟨b4,rfl,d7,d,B⟩;have dN:=Nat.le_trans z.size d7;have u:=u.below d;have q:=q.below d;have b:=b.below d;have o:=o.below d;have z:=btr z d;refine Zf (X0i (zs:=[vi c.n,.slice Ac c.gs.length cc]) rfl rfl) ?_;rintro _ w2 ⟨b5,rfl,d8,d,h⟩;have dO:=Nat.le_trans z.size d8;have u:=u.below d;have B:=B.below d;have q:=q.below d;have b:=b.below d;have o:=o.below d;have z:=btr z d;refine Zf (X9 (zs:=[vi 0,.slice none 0 0,.slice none 0 0]) X33 rfl) ?_;rintro _ w3 ⟨b8,rfl,d9,d,t⟩;have aM:=Nat.le_trans z.size d9;have u:=u.below d;have B:=B.below d;have h:=h.below d;have q:=q.below d;have b:=b.below d;have o:=o.below d;have z:=btr z d;refine Za rfl<|Zx d6 fun a D _ dA=>?_;refine Ze (Vn X1r h)<|Zm rfl<|Zm rfl<|Zf (X22 (vs:=[.agg #[vi c.n,.slice Ac c.gs.length cc],vi p,.slice Aqs qs.length cqs]) rfl Xan (by have hq:=Xld w3 c Ac cc q.top p Aqs cqs qs b.top bR bS;rw [← bW,← b7] at hq;exact hq)) ?_;rintro _ w4 ⟨b9,bC,rfl,aN,d⟩;have aN:=aN.lower z.size;have u:=u.below d;have B:=B.below d;have h:=h.below d;have t:=t.below d;have q:=q.below d;have b:=b.below d;have o:=o.below d;have z:=btr z d;refine Zm rfl<|Ze (X3 (vs:=[.slice b9 rr.length bC,.bool ro]) rfl rfl)<|Ze (X3 (vs:=[.slice b9 rr.length bC,.bool ro]) rfl rfl)<|Za rfl<|Za rfl ?_;refine ZX dA fun a D _ bX=>?_;refine Zs D fun _ bY=>?_
 refine Zm rfl<|Ze (X0y rfl)<|Zt bY fun a D=>?_
 refine Xl D rfl (fun U=>?_) (fun U=>?_)
 ·have E:=U
  have bZ:(runP c p qs).isSome=false:=by rw [← b7];simpa using U
  have W:shrI c p qs=none:=by unfold shrI;rw [X8k bZ];rfl
  refine Zs D fun _ c4=>?_;refine Ze (Xg (ps:=[]) (cs:=[vi 0,.slice none 0 0,.slice none 0 0]) rfl (fun _=>by first|rfl|kernel_rfl))<|Zo (Vw [vi 0,.slice none 0 0,.slice none 0 0] X17 t) ?_;rintro _ w5 ⟨N,hb⟩;have C:=t;have z:=Below.only z N aM;have t:=hb;refine Za rfl<|Zt c4 fun a D=>?_;refine wp_ret<|X4<|X2 D (X0w D rfl (ResV.cellN (l:=[vi 0,.slice none 0 0,.slice none 0 0]) rfl X1i (t.at 0) rfl) rfl) ?_
  rw [W]
  exact ⟨none,0,none,0,rfl,(Own.nil _ _ _ _ _),(Own.nil _ _ _ _ _),(Apart.none_l _),z⟩
 have E:=U
 obtain ⟨aD,aO,bD⟩:=Xb7 (c:=c) (p:=p) (qs:=qs) (by rw [← b7];simpa using U)
 have aH:rr=runL c p qs:=by rw [bW,bD];rfl
 have aA:=d5 aO
 have dP:rr.length≤6:=by rw [aH];exact X6w ..
 obtain ⟨dR,dS,dB⟩:=X7h aD aO
 have cA:∀ i ∈ rr,∃ j:Nat,i=(j:Int)∧j<c.gs.length:=fun i hi=>by rw [aH] at hi;obtain ⟨j,h1,h2,_⟩:=X5q aO i hi;exact ⟨j,h1,h2⟩
 have dQ:=X2t c rr;obtain ⟨dC,cB,M9,aE,cC,cD,cE,dD,dT⟩:=Xk1 aD aO
 rw [← aH] at dC cB aE
 have cF:opI ⟨(qs.length:Int),mapI (gatL c rr) (numbI qs)⟩=some M9:=by rw [cB];exact aE
 have cG:=Xd9 (fun g hg=>(X65 aD aO g (by rw [← aH];exact hg)).1) (X14 aD).1.2
 rw [aA] at cD cE
 obtain ⟨cH,dE⟩:=Xkr (n:=1) (by omega) cC cD cE dD
 rw [show KN 1=5 from rfl] at cH
 obtain ⟨wo,cJ⟩ : ∃ wo,wo=(tbW 1 5).1 (keyM M9):=⟨_,rfl⟩
 have aP:wo=srW 1 M9:=cJ.trans cH
 have dF:(wo.getD []).length≤8∧∀ g ∈ wo.getD [],g ∈ gsT 1:=by
  cases e:wo with
  | none=>exact ⟨Nat.zero_le _,fun g hg=>by cases hg⟩
  | some w9=>have h9:=X4n (aP.symm.trans e);have:=X8w 1;exact ⟨by show w9.length≤8;omega,h9.2⟩
 have dG:=Xav (n:=1) (by omega) dF.2
 have cK:shrI c p qs=plX c p qs rr:=by unfold shrI;rw [bD,aH];rfl
 refine wp_skip<|bX _ _<|Zs D fun _ cL=>?_;refine Ze (Vn X1r h)<|Zm rfl<|Zf (Vc (Xqd _ c Ac cc q.top b9 bC rr aN.rd.top (by omega) cA) Xgx) ?_;rintro _ w6 ⟨cM,cN,rfl,x,d⟩;have x:=x.lower z.size;have u:=u.below d;have B:=B.below d;have h:=h.below d;have t:=t.below d;have q:=q.below d;have b:=b.below d;have o:=o.below d;have z:=btr z d;refine Za rfl<|Zx cL fun a D _ cO=>?_;refine Zm rfl<|Ze (X0x rfl X09)<|Zm rfl<|Zm rfl<|Zf (Vc (F49 _ Aqs cqs qs b.top dB (by omega)) Xqn) ?_;rintro _ w7 ⟨dH,dI,rfl,aQ,d⟩;have aQ:=aQ.lower z.size;have u:=u.below d;have B:=B.below d;have h:=h.below d;have t:=t.below d;have q:=q.below d;have b:=b.below d;have x:=x.below d;have o:=o.below d;have z:=btr z d;refine Zf (Vc (F51 _ cM cN (gatL c rr) x.rd.top dH dI (numbI qs) aQ.rd.top 5 cG (X6a _) (by omega)) Xgr) ?_;rintro _ w8 ⟨aY,aZ,rfl,aF,d⟩;have bG:=x.apart aF (Nat.le_refl _);have aF:=aF.lower z.size;have u:=u.below d;have B:=B.below d;have h:=h.below d;have t:=t.below d;have q:=q.below d;have b:=b.below d;have x:=x.below d;have o:=o.below d;have z:=btr z d;refine Ze (Xg (ps:=[(0,vi (qs.length:Int)),(1,.slice aY (mapI (gatL c rr) (numbI qs)).length aZ)]) (cs:=[vi (qs.length:Int),.slice aY (mapI (gatL c rr) (numbI qs)).length aZ]) rfl (fun _=>by first|rfl|kernel_rfl))<|Zf (X22 (vs:=[.agg #[vi (qs.length:Int),.slice aY (mapI (gatL c rr) (numbI qs)).length aZ]]) rfl Xq5 (by have hq:=F97 w8 (⟨(qs.length:Int),(mapI (gatL c rr) (numbI qs))⟩ : Cx) aY aZ aF.rd.top (by show (mapI (gatL c rr) (numbI qs)).length≤_;unfold mapI;rw [List.length_map];omega);rw [cF,Option.getD_some,Option.isSome_some] at hq;exact hq)) ?_;rintro _ w9 ⟨aR,aS,rfl,aB,d⟩
 have u:=u.below d;have B:=B.below d;have h:=h.below d;have t:=t.below d;have q:=q.below d;have b:=b.below d;have x:=x.below d;have o:=o.below d;have z:=btr z d;refine Zm rfl<|Ze (X3 (vs:=[.agg #[vi M9.rows,vi M9.cols,.slice aR M9.cells.length aS],.bool true]) rfl rfl)<|Ze (X3 (vs:=[.agg #[vi M9.rows,vi M9.cols,.slice aR M9.cells.length aS],.bool true]) rfl rfl)<|Zf (X9 (zs:=[vi 0,vi 0,.slice none 0 0]) X1m rfl) ?_;rintro _ dU ⟨dW,rfl,cP,d,aG⟩;have bE:=Nat.le_trans z.size cP;have u:=u.below d;have B:=B.below d;have h:=h.below d;have t:=t.below d;have q:=q.below d;have b:=b.below d;have x:=x.below d;have aB:=aB.below d;have o:=o.below d;have z:=btr z d;refine Zo (Vw [vi M9.rows,vi M9.cols,.slice aR M9.cells.length aS] X11 aG) ?_;rintro _ dJ ⟨N,hb⟩;have C:=aG;have u:=u.only N (u.ne C);have B:=B.only N (Blk.ne B C rfl);have h:=h.only N (Blk.ne h C rfl);have t:=t.only N (Blk.ne t C rfl);have q:=q.onlyT N C rfl;have b:=b.onlyT N C rfl;have x:=x.onlyT N C rfl;have aB:=aB.onlyT N C rfl;have o:=o.onlyT N C rfl;have z:=Below.only z N bE;have aG:=hb;refine Za rfl<|Zx cO fun a D _ cQ=>?_;refine Ze (Vn X0e aG)<|Zf (X22 (vs:=[.agg #[vi M9.rows,vi M9.cols,.slice aR M9.cells.length aS]]) rfl X7k (by have hq:=Xfk dJ M9 aR aS aB.top (X4f cC) (bU.of z);rw [dE] at hq;exact hq)) ?_;rintro _ w12 ⟨rfl,d⟩;have u:=u.below d;have B:=B.below d;have h:=h.below d;have t:=t.below d
 have q:=q.below d;have b:=b.below d;have x:=x.below d;have o:=o.below d;have z:=btr z d;refine Zm rfl<|Ze (X3 (vs:=[.string (keyM M9),.bool true]) rfl rfl)<|Ze (X3 (vs:=[.string (keyM M9),.bool true]) rfl rfl)<|Za rfl<|Za rfl ?_;refine Zx cQ fun a D _ cR=>?_;refine Zm rfl<|Ze (Vx (X0x rfl X09) (show _=(1:Int) from (by rw [aA];rfl)))<|Ze (Vd rfl X9v 0)<|Ze (X99 (k:=1) (sz:=2) rfl rfl Tryz.underlying83 X7x rfl (by decide) (m:=2) rfl)<|Ze (Vd rfl X4l 2) ?_;refine Ze (X0 rfl X7b (B.at 2))<|Zm rfl ?_;obtain ⟨aT,aU,b0,b1,G⟩:=Xat o (keyM M9)
 rw [bM,← cJ] at b0 b1 G
 refine Ze (Xer (f:=aX) rfl rfl Tryz.underlying71 Tryz.underlying9 Xje u b0 b1)<|Zm rfl<|Ze (X3 (vs:=[.slice aT ((wo).getD []).length aU,.bool ((wo).isSome)]) rfl rfl)<|Ze (X3 (vs:=[.slice aT ((wo).getD []).length aU,.bool ((wo).isSome)]) rfl rfl)<|Za rfl ?_;refine Za rfl<|ZX cR fun a D _ cS=>?_;refine wp_seq_k fun _ cT=>?_;refine X0n (fun a w=>Fr a 93 [(2,vi p),(3,.slice Aqs qs.length cqs),(5,.pointer (some ⟨b5,0,none⟩)),(8,.pointer (some ⟨b8,0,none⟩)),(17,.slice aT ((wo).getD []).length aU),(82,.bool (((!((wo).isSome))||(decide (((gatL c rr).length:Int)≤(((wo).getD []).length:Int))))||(decide (((tcN (gatL c rr) : Nat) : Int)<((tcN ((wo).getD []) : Nat) : Int)))))]∧Below w12.heap.size w12 w) ?_ ?_
 ·have aC:Below w12.heap.size w12 w12:=Below.refl _ _
  refine Zr D<|Zm rfl<|Ze (X0y rfl)<|Zm rfl<|Zv (gW rfl) (Xa rfl) ?_;refine Zv (gW rfl) (X0y rfl) ?_;refine Ze (Xk rfl rfl rfl)<|Zm rfl<|Zv (gW rfl) (Xa rfl) ?_;refine Zv (gW rfl) (X0y rfl) ?_;refine Ze (Xk rfl rfl rfl)<|Zm rfl ?_
  refine Zg 69 rfl (fun y=>?_) (fun y=>?_)
  ·refine Zp (gP y) ?_;refine Zp (gP y) ?_;refine Zp (gP y) ?_;refine Zp (gP y) ?_;refine Zp (gP y) ?_;refine Ze (Xp rfl y rfl)<|Zm rfl<|Zp (gP rfl) ?_;refine Zp (gP rfl) ?_;refine Zp (gP rfl) ?_;refine Zp (gP rfl) ?_;refine Zp (gP rfl) ?_;refine Ze (Xp rfl rfl rfl) ?_;refine Zn fun a D=>?_
   have aW:Below w12.heap.size w12 w12:=aC
   exact ⟨D.sub ⟨rfl,rfl,rfl,rfl,rfl,X1 rfl (by first|rfl|(simp only [E,y,bs];done)|simp [E,y]),trivial⟩,aW⟩
  refine Zv (gW y) (Xa rfl) ?_;refine Zv (gW y) (X0x rfl Xh) ?_;refine Zv (gW y) (Xa rfl) ?_;refine Zv (gW y) (X0x rfl Xh) ?_;refine Zv (gW y) (X91 rfl rfl) ?_;refine Ze (Xk rfl y rfl)<|Zm rfl ?_
  refine Zg 76 rfl (fun A=>?_) (fun A=>?_)
  ·refine Zp (gP A) ?_;refine Zp (gP A) ?_;refine Zp (gP A) ?_;refine Zp (gP A) ?_;refine Zp (gP A) ?_;refine Ze (Xp rfl A rfl) ?_;refine Zn fun a D=>?_
   have aW:Below w12.heap.size w12 w12:=aC
   exact ⟨D.sub ⟨rfl,rfl,rfl,rfl,rfl,X1 rfl (by first|rfl|(simp only [E,y,A,bs];done)|simp [E,y,A]),trivial⟩,aW⟩
  refine Zv (gW A) (Xa rfl) ?_;refine Zk (gW A) (Vc (Xgt _ aT aU ((wo).getD []) G.top (by omega)) X7q) ?_;rintro _ dX ⟨rfl,d⟩;have x:=x.below d;have z:=btr z d;have aC:=btr aC d;refine Zv (gW A) (Xa rfl) ?_;refine Zk (gW A) (Vc (Xgt _ cM cN (gatL c rr) x.rd.top (by omega)) X7q) ?_;rintro _ w14 ⟨rfl,d⟩;have z:=btr z d;have aC:=btr aC d;refine Zv (gW A) (X2u rfl rfl) ?_;refine Ze (Xk rfl A rfl) ?_;refine Zn fun a D=>?_
  have aW:Below w12.heap.size w12 w14:=aC
  exact ⟨D.sub ⟨rfl,rfl,rfl,rfl,rfl,X1 rfl (by first|rfl|(simp only [E,y,A,bs];done)|simp [E,y,A]),trivial⟩,aW⟩
 rintro a dY ⟨D,d⟩;have h:=h.below d;have t:=t.below d;have q:=q.below d;have b:=b.below d;have G:=G.below d;have z:=btr z d;refine cT _ _ ?_
 refine Xl D rfl (fun H=>?_) (fun H=>?_)
 ·have bF:=H
  have W:shrI c p qs=none:=by
   rw [cK]
   refine X52 aE fun w9 h9=>?_
   rw [aA,← aP] at h9
   rw [h9] at H
   intro h8
   revert H
   simp [X2t]
   omega
  refine Zs D fun _ cU=>?_;refine Ze (Xg (ps:=[]) (cs:=[vi 0,.slice none 0 0,.slice none 0 0]) rfl (fun _=>by first|rfl|kernel_rfl))<|Zo (Vw [vi 0,.slice none 0 0,.slice none 0 0] X17 t) ?_;rintro _ e8 ⟨N,hb⟩;have C:=t;have z:=Below.only z N aM;have t:=hb;refine Za rfl<|Zt cU fun a D=>?_;refine wp_ret<|X4<|X2 D (X0w D rfl (ResV.cellN (l:=[vi 0,.slice none 0 0,.slice none 0 0]) rfl X1i (t.at 0) rfl) rfl) ?_
  rw [W]
  exact ⟨none,0,none,0,rfl,(Own.nil _ _ _ _ _),(Own.nil _ _ _ _ _),(Apart.none_l _),z⟩
 have bF:=H
 have dK:wo=some (wo.getD []):=Xbd (by have h9:=H;revert h9;cases wo.isSome<;>simp)
 have W:shrI c p qs=repX c p rr qs (mapI (wo.getD []) qs):=by
  rw [cK]
  refine X7p aE (by rw [aA,← aP];exact dK) ?_;have h9:=H
  simp [X2t] at h9
  omega
 refine wp_skip<|cS _ _<|wp_seq_k fun _ cV=>?_;refine X0f none (fun j=>[9].contains j) mixed ?_;intro eA d;have h:=h.below d;have t:=t.below d;have q:=q.below d;have b:=b.below d;have G:=G.below d;have z:=btr z d;refine Yb D<|Ye 0 rfl (Vn X1r h)<|Yo 1 rfl (fun _=>Xa rfl)<|Yo 2 rfl (fun _=>Xa rfl)<|Yo 3 rfl (fun _=>Xa rfl)<|Yo 4 rfl (fun _=>Xa rfl) ?_;refine Y1 5<|Yk rfl trivial (Vc (F51 _ aT aU ((wo).getD []) G.top Aqs cqs qs b.top 1 dG aA (by omega)) Xgr) (fun _ _ ⟨cW,cX,_,L,d⟩=>d) ?_;rintro _ eB ⟨cW,cX,rfl,L,d⟩;have L:=L.lower z.size;have t:=t.below d;have q:=q.below d;have b:=b.below d;have z:=btr z d;refine Y1 6<|Yk rfl trivial (Vc (Xqk _ c Ac cc q.top bQ p Aqs cqs qs b.top cW cX (mapI ((wo).getD []) qs) L.rd.top bR (by unfold mapI;rw [List.length_map];omega) bS) Xg6) (fun _ _ ⟨aI,aJ,aK,aL,_,I,J,M,d⟩=>d) ?_;rintro _ eC ⟨aI,aJ,aK,aL,rfl,I,J,M,d⟩;have bH:=L.apart I (Nat.le_refl _);have I:=I.lower z.size;have bI:=L.apart J (Nat.le_refl _);have J:=J.lower z.size;have t:=t.below d;have z:=btr z d;refine Yo 7 rfl (fun _=>X3 (vs:=[.agg #[vi ((((runP c p qs).bind fun run=>repX c p run qs (mapI ((wo).getD []) qs)).getD rpZ).pos),.slice aI ((((runP c p qs).bind fun run=>repX c p run qs (mapI ((wo).getD []) qs)).getD rpZ).old).length aJ,.slice aK ((((runP c p qs).bind fun run=>repX c p run qs (mapI ((wo).getD []) qs)).getD rpZ).new).length aL],.bool (((runP c p qs).bind fun run=>repX c p run qs (mapI ((wo).getD []) qs)).isSome)]) rfl rfl)<|Yo 8 rfl (fun _=>X3 (vs:=[.agg #[vi ((((runP c p qs).bind fun run=>repX c p run qs (mapI ((wo).getD []) qs)).getD rpZ).pos),.slice aI ((((runP c p qs).bind fun run=>repX c p run qs (mapI ((wo).getD []) qs)).getD rpZ).old).length aJ,.slice aK ((((runP c p qs).bind fun run=>repX c p run qs (mapI ((wo).getD []) qs)).getD rpZ).new).length aL],.bool (((runP c p qs).bind fun run=>repX c p run qs (mapI ((wo).getD []) qs)).isSome)]) rfl rfl)<|Y1 9 ?_
 refine Yh rfl trivial rfl (Vw [vi ((((runP c p qs).bind fun run=>repX c p run qs (mapI ((wo).getD []) qs)).getD rpZ).pos),.slice aI ((((runP c p qs).bind fun run=>repX c p run qs (mapI ((wo).getD []) qs)).getD rpZ).old).length aJ,.slice aK ((((runP c p qs).bind fun run=>repX c p run qs (mapI ((wo).getD []) qs)).getD rpZ).new).length aL] X17 t) ?_;rintro _ eD ⟨N,hb⟩;have C:=t;have I:=I.onlyT N C rfl;have J:=J.onlyT N C rfl;have z:=Below.only z N aM;have t:=hb;refine Yo 10 rfl (fun _=>X19 rfl) ?_;refine Yd fun a D=>?_;refine cV _ _ ?_
 refine wp_ret (X2 D (X0w D rfl (ResV.cellN (l:=[vi ((((runP c p qs).bind fun run=>repX c p run qs (mapI ((wo).getD []) qs)).getD rpZ).pos),.slice aI ((((runP c p qs).bind fun run=>repX c p run qs (mapI ((wo).getD []) qs)).getD rpZ).old).length aJ,.slice aK ((((runP c p qs).bind fun run=>repX c p run qs (mapI ((wo).getD []) qs)).getD rpZ).new).length aL]) rfl X1i (t.at 0) rfl) rfl) ?_)
 rw [W,show repX c p rr qs (mapI (wo.getD []) qs)=(runP c p qs).bind (fun run=>repX c p run qs (mapI (wo.getD []) qs)) from by rw [bD,aH];rfl]
 exact ⟨aI,aJ,aK,aL,rfl,I,J,M,z⟩
theorem Xrd(Q:World)(b2:Nat)(b3:ByteArray→Option Sq)(bJ:Option Addr)(bK bL:Nat)(dL:MapS Q b2 (sgF b3))(cY:DeepM Q Q.heap.size 115 b3)(dM:sgL b3=(tbW 1 5).1)(b6:Nat)(aX:ByteArray→Option Sq)(bM:Option Addr)(bN bO:Nat)(u:MapS Q b6 (sgF aX))(o:DeepM Q Q.heap.size 115 aX)(bP:sgL aX=(tbW 2 3).1)(c:Cx)(Ac:Option Addr)(cc:Nat)(q:Rd Q Q.heap.size 115 encG Ac c.gs)(bQ:c.gs.length≤cc)(p:Int)(Aqs:Option Addr)(cqs:Nat)(qs:List Int)(b:Rd Q Q.heap.size 3 encI Aqs qs)(bR:c.gs.length≤1000000000)(bS:qs.length≤1048576)(d5:runB c p qs=true→qs.length=2)(bU:PowT Q) : Ret Tryz.prog 50 [.agg #[.map none,.slice none 0 0,.map (some b2),.slice bJ bK bL,.map (some b6),.slice bM bN bO],.agg #[vi c.n,.slice Ac c.gs.length cc],vi p,.slice Aqs qs.length cqs] Q (fun v w=>∃ A9 e9 B9 f9,v=.tuple #[.agg #[vi ((shrI c p qs).getD rpZ).pos,.slice A9 ((shrI c p qs).getD rpZ).old.length e9,.slice B9 ((shrI c p qs).getD rpZ).new.length f9],.bool (shrI c p qs).isSome]∧Own w Q.heap.size 115 3 encG A9 e9 ((shrI c p qs).getD rpZ).old∧Own w Q.heap.size 115 3 encG B9 f9 ((shrI c p qs).getD rpZ).new∧Apart A9 B9∧Below Q.heap.size Q w):=by
 obtain ⟨rr,bW⟩ : ∃ rr,rr=(runP c p qs).getD []:=⟨_,rfl⟩
 obtain ⟨ro,b7⟩ : ∃ ro:Bool,ro=(runP c p qs).isSome:=⟨_,rfl⟩
 refine enter Tryz.func50 rfl 93 rfl rfl ?_;intro a D
 have z:=bz Q
 refine Zs D fun _ d6=>?_;refine Zf (X0i (zs:=[.map none,.slice none 0 0,.map (some b2),.slice bJ bK bL,.map (some b6),.slice bM bN bO]) rfl rfl) ?_;rintro _ w1 ⟨b4,rfl,d7,d,B⟩;have dN:=Nat.le_trans z.size d7;have u:=u.below d;have q:=q.below d;have b:=b.below d;have o:=o.below d;have z:=btr z d;refine Zf (X0i (zs:=[vi c.n,.slice Ac c.gs.length cc]) rfl rfl) ?_;rintro _ w2 ⟨b5,rfl,d8,d,h⟩;have dO:=Nat.le_trans z.size d8;have u:=u.below d;have B:=B.below d;have q:=q.below d;have b:=b.below d;have o:=o.below d;have z:=btr z d;refine Zf (X9 (zs:=[vi 0,.slice none 0 0,.slice none 0 0]) X33 rfl) ?_;rintro _ w3 ⟨b8,rfl,d9,d,t⟩;have aM:=Nat.le_trans z.size d9;have u:=u.below d;have B:=B.below d;have h:=h.below d;have q:=q.below d;have b:=b.below d;have o:=o.below d;have z:=btr z d;refine Za rfl<|Zx d6 fun a D _ dA=>?_;refine Ze (Vn X1r h)<|Zm rfl<|Zm rfl<|Zf (X22 (vs:=[.agg #[vi c.n,.slice Ac c.gs.length cc],vi p,.slice Aqs qs.length cqs]) rfl Xan (by have hq:=Xld w3 c Ac cc q.top p Aqs cqs qs b.top bR bS;rw [← bW,← b7] at hq;exact hq)) ?_;rintro _ w4 ⟨b9,bC,rfl,aN,d⟩;have aN:=aN.lower z.size;have u:=u.below d;have B:=B.below d;have h:=h.below d;have t:=t.below d;have q:=q.below d;have b:=b.below d;have o:=o.below d;have z:=btr z d;refine Zm rfl<|Ze (X3 (vs:=[.slice b9 rr.length bC,.bool ro]) rfl rfl)<|Ze (X3 (vs:=[.slice b9 rr.length bC,.bool ro]) rfl rfl)<|Za rfl<|Za rfl ?_;refine ZX dA fun a D _ bX=>?_;refine Zs D fun _ bY=>?_
 refine Zm rfl<|Ze (X0y rfl)<|Zt bY fun a D=>?_
 refine Xl D rfl (fun U=>?_) (fun U=>?_)
 ·have E:=U
  have bZ:(runP c p qs).isSome=false:=by rw [← b7];simpa using U
  have W:shrI c p qs=none:=by unfold shrI;rw [X8k bZ];rfl
  refine Zs D fun _ c4=>?_;refine Ze (Xg (ps:=[]) (cs:=[vi 0,.slice none 0 0,.slice none 0 0]) rfl (fun _=>by first|rfl|kernel_rfl))<|Zo (Vw [vi 0,.slice none 0 0,.slice none 0 0] X17 t) ?_;rintro _ w5 ⟨N,hb⟩;have C:=t;have z:=Below.only z N aM;have t:=hb;refine Za rfl<|Zt c4 fun a D=>?_;refine wp_ret<|X4<|X2 D (X0w D rfl (ResV.cellN (l:=[vi 0,.slice none 0 0,.slice none 0 0]) rfl X1i (t.at 0) rfl) rfl) ?_
  rw [W]
  exact ⟨none,0,none,0,rfl,(Own.nil _ _ _ _ _),(Own.nil _ _ _ _ _),(Apart.none_l _),z⟩
 have E:=U
 obtain ⟨aD,aO,bD⟩:=Xb7 (c:=c) (p:=p) (qs:=qs) (by rw [← b7];simpa using U)
 have aH:rr=runL c p qs:=by rw [bW,bD];rfl
 have aA:=d5 aO
 have dP:rr.length≤6:=by rw [aH];exact X6w ..
 obtain ⟨dR,dS,dB⟩:=X7h aD aO
 have cA:∀ i ∈ rr,∃ j:Nat,i=(j:Int)∧j<c.gs.length:=fun i hi=>by rw [aH] at hi;obtain ⟨j,h1,h2,_⟩:=X5q aO i hi;exact ⟨j,h1,h2⟩
 have dQ:=X2t c rr;obtain ⟨dC,cB,M9,aE,cC,cD,cE,dD,dT⟩:=Xk1 aD aO
 rw [← aH] at dC cB aE
 have cF:opI ⟨(qs.length:Int),mapI (gatL c rr) (numbI qs)⟩=some M9:=by rw [cB];exact aE
 have cG:=Xd9 (fun g hg=>(X65 aD aO g (by rw [← aH];exact hg)).1) (X14 aD).1.2
 rw [aA] at cD cE
 obtain ⟨cH,dE⟩:=Xkr (n:=2) (by omega) cC cD cE dD
 rw [show KN 2=3 from rfl] at cH
 obtain ⟨wo,cJ⟩ : ∃ wo,wo=(tbW 2 3).1 (keyM M9):=⟨_,rfl⟩
 have aP:wo=srW 2 M9:=cJ.trans cH
 have dF:(wo.getD []).length≤8∧∀ g ∈ wo.getD [],g ∈ gsT 2:=by
  cases e:wo with
  | none=>exact ⟨Nat.zero_le _,fun g hg=>by cases hg⟩
  | some w9=>have h9:=X4n (aP.symm.trans e);have:=X8w 2;exact ⟨by show w9.length≤8;omega,h9.2⟩
 have dG:=Xav (n:=2) (by omega) dF.2
 have cK:shrI c p qs=plX c p qs rr:=by unfold shrI;rw [bD,aH];rfl
 refine wp_skip<|bX _ _<|Zs D fun _ cL=>?_;refine Ze (Vn X1r h)<|Zm rfl<|Zf (Vc (Xqd _ c Ac cc q.top b9 bC rr aN.rd.top (by omega) cA) Xgx) ?_;rintro _ w6 ⟨cM,cN,rfl,x,d⟩;have x:=x.lower z.size;have u:=u.below d;have B:=B.below d;have h:=h.below d;have t:=t.below d;have q:=q.below d;have b:=b.below d;have o:=o.below d;have z:=btr z d;refine Za rfl<|Zx cL fun a D _ cO=>?_;refine Zm rfl<|Ze (X0x rfl X09)<|Zm rfl<|Zm rfl<|Zf (Vc (F49 _ Aqs cqs qs b.top dB (by omega)) Xqn) ?_;rintro _ w7 ⟨dH,dI,rfl,aQ,d⟩;have aQ:=aQ.lower z.size;have u:=u.below d;have B:=B.below d;have h:=h.below d;have t:=t.below d;have q:=q.below d;have b:=b.below d;have x:=x.below d;have o:=o.below d;have z:=btr z d;refine Zf (Vc (F51 _ cM cN (gatL c rr) x.rd.top dH dI (numbI qs) aQ.rd.top 5 cG (X6a _) (by omega)) Xgr) ?_;rintro _ w8 ⟨aY,aZ,rfl,aF,d⟩;have bG:=x.apart aF (Nat.le_refl _);have aF:=aF.lower z.size;have u:=u.below d;have B:=B.below d;have h:=h.below d;have t:=t.below d;have q:=q.below d;have b:=b.below d;have x:=x.below d;have o:=o.below d;have z:=btr z d;refine Ze (Xg (ps:=[(0,vi (qs.length:Int)),(1,.slice aY (mapI (gatL c rr) (numbI qs)).length aZ)]) (cs:=[vi (qs.length:Int),.slice aY (mapI (gatL c rr) (numbI qs)).length aZ]) rfl (fun _=>by first|rfl|kernel_rfl))<|Zf (X22 (vs:=[.agg #[vi (qs.length:Int),.slice aY (mapI (gatL c rr) (numbI qs)).length aZ]]) rfl Xq5 (by have hq:=F97 w8 (⟨(qs.length:Int),(mapI (gatL c rr) (numbI qs))⟩ : Cx) aY aZ aF.rd.top (by show (mapI (gatL c rr) (numbI qs)).length≤_;unfold mapI;rw [List.length_map];omega);rw [cF,Option.getD_some,Option.isSome_some] at hq;exact hq)) ?_;rintro _ w9 ⟨aR,aS,rfl,aB,d⟩
 have u:=u.below d;have B:=B.below d;have h:=h.below d;have t:=t.below d;have q:=q.below d;have b:=b.below d;have x:=x.below d;have o:=o.below d;have z:=btr z d;refine Zm rfl<|Ze (X3 (vs:=[.agg #[vi M9.rows,vi M9.cols,.slice aR M9.cells.length aS],.bool true]) rfl rfl)<|Ze (X3 (vs:=[.agg #[vi M9.rows,vi M9.cols,.slice aR M9.cells.length aS],.bool true]) rfl rfl)<|Zf (X9 (zs:=[vi 0,vi 0,.slice none 0 0]) X1m rfl) ?_;rintro _ dU ⟨dW,rfl,cP,d,aG⟩;have bE:=Nat.le_trans z.size cP;have u:=u.below d;have B:=B.below d;have h:=h.below d;have t:=t.below d;have q:=q.below d;have b:=b.below d;have x:=x.below d;have aB:=aB.below d;have o:=o.below d;have z:=btr z d;refine Zo (Vw [vi M9.rows,vi M9.cols,.slice aR M9.cells.length aS] X11 aG) ?_;rintro _ dJ ⟨N,hb⟩;have C:=aG;have u:=u.only N (u.ne C);have B:=B.only N (Blk.ne B C rfl);have h:=h.only N (Blk.ne h C rfl);have t:=t.only N (Blk.ne t C rfl);have q:=q.onlyT N C rfl;have b:=b.onlyT N C rfl;have x:=x.onlyT N C rfl;have aB:=aB.onlyT N C rfl;have o:=o.onlyT N C rfl;have z:=Below.only z N bE;have aG:=hb;refine Za rfl<|Zx cO fun a D _ cQ=>?_;refine Ze (Vn X0e aG)<|Zf (X22 (vs:=[.agg #[vi M9.rows,vi M9.cols,.slice aR M9.cells.length aS]]) rfl X7k (by have hq:=Xfk dJ M9 aR aS aB.top (X4f cC) (bU.of z);rw [dE] at hq;exact hq)) ?_;rintro _ w12 ⟨rfl,d⟩;have u:=u.below d;have B:=B.below d;have h:=h.below d;have t:=t.below d
 have q:=q.below d;have b:=b.below d;have x:=x.below d;have o:=o.below d;have z:=btr z d;refine Zm rfl<|Ze (X3 (vs:=[.string (keyM M9),.bool true]) rfl rfl)<|Ze (X3 (vs:=[.string (keyM M9),.bool true]) rfl rfl)<|Za rfl<|Za rfl ?_;refine Zx cQ fun a D _ cR=>?_;refine Zm rfl<|Ze (Vx (X0x rfl X09) (show _=(2:Int) from (by rw [aA];rfl)))<|Ze (Vd rfl X9v 0)<|Ze (X99 (k:=2) (sz:=2) rfl rfl Tryz.underlying83 X7x rfl (by decide) (m:=4) rfl)<|Ze (Vd rfl X4l 4) ?_;refine Ze (X0 rfl X7b (B.at 4))<|Zm rfl ?_;obtain ⟨aT,aU,b0,b1,G⟩:=Xat o (keyM M9)
 rw [bP,← cJ] at b0 b1 G
 refine Ze (Xer (f:=aX) rfl rfl Tryz.underlying71 Tryz.underlying9 Xje u b0 b1)<|Zm rfl<|Ze (X3 (vs:=[.slice aT ((wo).getD []).length aU,.bool ((wo).isSome)]) rfl rfl)<|Ze (X3 (vs:=[.slice aT ((wo).getD []).length aU,.bool ((wo).isSome)]) rfl rfl)<|Za rfl ?_;refine Za rfl<|ZX cR fun a D _ cS=>?_;refine wp_seq_k fun _ cT=>?_;refine X0n (fun a w=>Fr a 93 [(2,vi p),(3,.slice Aqs qs.length cqs),(5,.pointer (some ⟨b5,0,none⟩)),(8,.pointer (some ⟨b8,0,none⟩)),(17,.slice aT ((wo).getD []).length aU),(82,.bool (((!((wo).isSome))||(decide (((gatL c rr).length:Int)≤(((wo).getD []).length:Int))))||(decide (((tcN (gatL c rr) : Nat) : Int)<((tcN ((wo).getD []) : Nat) : Int)))))]∧Below w12.heap.size w12 w) ?_ ?_
 ·have aC:Below w12.heap.size w12 w12:=Below.refl _ _
  refine Zr D<|Zm rfl<|Ze (X0y rfl)<|Zm rfl<|Zv (gW rfl) (Xa rfl) ?_;refine Zv (gW rfl) (X0y rfl) ?_;refine Ze (Xk rfl rfl rfl)<|Zm rfl<|Zv (gW rfl) (Xa rfl) ?_;refine Zv (gW rfl) (X0y rfl) ?_;refine Ze (Xk rfl rfl rfl)<|Zm rfl ?_
  refine Zg 69 rfl (fun y=>?_) (fun y=>?_)
  ·refine Zp (gP y) ?_;refine Zp (gP y) ?_;refine Zp (gP y) ?_;refine Zp (gP y) ?_;refine Zp (gP y) ?_;refine Ze (Xp rfl y rfl)<|Zm rfl<|Zp (gP rfl) ?_;refine Zp (gP rfl) ?_;refine Zp (gP rfl) ?_;refine Zp (gP rfl) ?_;refine Zp (gP rfl) ?_;refine Ze (Xp rfl rfl rfl) ?_;refine Zn fun a D=>?_
   have aW:Below w12.heap.size w12 w12:=aC
   exact ⟨D.sub ⟨rfl,rfl,rfl,rfl,rfl,X1 rfl (by first|rfl|(simp only [E,y,bs];done)|simp [E,y]),trivial⟩,aW⟩
  refine Zv (gW y) (Xa rfl) ?_;refine Zv (gW y) (X0x rfl Xh) ?_;refine Zv (gW y) (Xa rfl) ?_;refine Zv (gW y) (X0x rfl Xh) ?_;refine Zv (gW y) (X91 rfl rfl) ?_;refine Ze (Xk rfl y rfl)<|Zm rfl ?_
  refine Zg 76 rfl (fun A=>?_) (fun A=>?_)
  ·refine Zp (gP A) ?_;refine Zp (gP A) ?_;refine Zp (gP A) ?_;refine Zp (gP A) ?_;refine Zp (gP A) ?_;refine Ze (Xp rfl A rfl) ?_;refine Zn fun a D=>?_
   have aW:Below w12.heap.size w12 w12:=aC
   exact ⟨D.sub ⟨rfl,rfl,rfl,rfl,rfl,X1 rfl (by first|rfl|(simp only [E,y,A,bs];done)|simp [E,y,A]),trivial⟩,aW⟩
  refine Zv (gW A) (Xa rfl) ?_;refine Zk (gW A) (Vc (Xgt _ aT aU ((wo).getD []) G.top (by omega)) X7q) ?_;rintro _ dX ⟨rfl,d⟩;have x:=x.below d;have z:=btr z d;have aC:=btr aC d;refine Zv (gW A) (Xa rfl) ?_;refine Zk (gW A) (Vc (Xgt _ cM cN (gatL c rr) x.rd.top (by omega)) X7q) ?_;rintro _ w14 ⟨rfl,d⟩;have z:=btr z d;have aC:=btr aC d;refine Zv (gW A) (X2u rfl rfl) ?_;refine Ze (Xk rfl A rfl) ?_;refine Zn fun a D=>?_
  have aW:Below w12.heap.size w12 w14:=aC
  exact ⟨D.sub ⟨rfl,rfl,rfl,rfl,rfl,X1 rfl (by first|rfl|(simp only [E,y,A,bs];done)|simp [E,y,A]),trivial⟩,aW⟩
 rintro a dY ⟨D,d⟩;have h:=h.below d;have t:=t.below d;have q:=q.below d;have b:=b.below d;have G:=G.below d;have z:=btr z d;refine cT _ _ ?_
 refine Xl D rfl (fun H=>?_) (fun H=>?_)
 ·have bF:=H
  have W:shrI c p qs=none:=by
   rw [cK]
   refine X52 aE fun w9 h9=>?_
   rw [aA,← aP] at h9
   rw [h9] at H
   intro h8
   revert H
   simp [X2t]
   omega
  refine Zs D fun _ cU=>?_;refine Ze (Xg (ps:=[]) (cs:=[vi 0,.slice none 0 0,.slice none 0 0]) rfl (fun _=>by first|rfl|kernel_rfl))<|Zo (Vw [vi 0,.slice none 0 0,.slice none 0 0] X17 t) ?_;rintro _ e8 ⟨N,hb⟩;have C:=t;have z:=Below.only z N aM;have t:=hb;refine Za rfl<|Zt cU fun a D=>?_;refine wp_ret<|X4<|X2 D (X0w D rfl (ResV.cellN (l:=[vi 0,.slice none 0 0,.slice none 0 0]) rfl X1i (t.at 0) rfl) rfl) ?_
  rw [W]
  exact ⟨none,0,none,0,rfl,(Own.nil _ _ _ _ _),(Own.nil _ _ _ _ _),(Apart.none_l _),z⟩
 have bF:=H
 have dK:wo=some (wo.getD []):=Xbd (by have h9:=H;revert h9;cases wo.isSome<;>simp)
 have W:shrI c p qs=repX c p rr qs (mapI (wo.getD []) qs):=by
  rw [cK]
  refine X7p aE (by rw [aA,← aP];exact dK) ?_;have h9:=H
  simp [X2t] at h9
  omega
 refine wp_skip<|cS _ _<|wp_seq_k fun _ cV=>?_;refine X0f none (fun j=>[9].contains j) mixed ?_;intro eA d;have h:=h.below d;have t:=t.below d;have q:=q.below d;have b:=b.below d;have G:=G.below d;have z:=btr z d;refine Yb D<|Ye 0 rfl (Vn X1r h)<|Yo 1 rfl (fun _=>Xa rfl)<|Yo 2 rfl (fun _=>Xa rfl)<|Yo 3 rfl (fun _=>Xa rfl)<|Yo 4 rfl (fun _=>Xa rfl) ?_;refine Y1 5<|Yk rfl trivial (Vc (F51 _ aT aU ((wo).getD []) G.top Aqs cqs qs b.top 2 dG aA (by omega)) Xgr) (fun _ _ ⟨cW,cX,_,L,d⟩=>d) ?_;rintro _ eB ⟨cW,cX,rfl,L,d⟩;have L:=L.lower z.size;have t:=t.below d;have q:=q.below d;have b:=b.below d;have z:=btr z d;refine Y1 6<|Yk rfl trivial (Vc (Xqk _ c Ac cc q.top bQ p Aqs cqs qs b.top cW cX (mapI ((wo).getD []) qs) L.rd.top bR (by unfold mapI;rw [List.length_map];omega) bS) Xg6) (fun _ _ ⟨aI,aJ,aK,aL,_,I,J,M,d⟩=>d) ?_;rintro _ eC ⟨aI,aJ,aK,aL,rfl,I,J,M,d⟩;have bH:=L.apart I (Nat.le_refl _);have I:=I.lower z.size;have bI:=L.apart J (Nat.le_refl _);have J:=J.lower z.size;have t:=t.below d;have z:=btr z d;refine Yo 7 rfl (fun _=>X3 (vs:=[.agg #[vi ((((runP c p qs).bind fun run=>repX c p run qs (mapI ((wo).getD []) qs)).getD rpZ).pos),.slice aI ((((runP c p qs).bind fun run=>repX c p run qs (mapI ((wo).getD []) qs)).getD rpZ).old).length aJ,.slice aK ((((runP c p qs).bind fun run=>repX c p run qs (mapI ((wo).getD []) qs)).getD rpZ).new).length aL],.bool (((runP c p qs).bind fun run=>repX c p run qs (mapI ((wo).getD []) qs)).isSome)]) rfl rfl)<|Yo 8 rfl (fun _=>X3 (vs:=[.agg #[vi ((((runP c p qs).bind fun run=>repX c p run qs (mapI ((wo).getD []) qs)).getD rpZ).pos),.slice aI ((((runP c p qs).bind fun run=>repX c p run qs (mapI ((wo).getD []) qs)).getD rpZ).old).length aJ,.slice aK ((((runP c p qs).bind fun run=>repX c p run qs (mapI ((wo).getD []) qs)).getD rpZ).new).length aL],.bool (((runP c p qs).bind fun run=>repX c p run qs (mapI ((wo).getD []) qs)).isSome)]) rfl rfl)<|Y1 9 ?_
 refine Yh rfl trivial rfl (Vw [vi ((((runP c p qs).bind fun run=>repX c p run qs (mapI ((wo).getD []) qs)).getD rpZ).pos),.slice aI ((((runP c p qs).bind fun run=>repX c p run qs (mapI ((wo).getD []) qs)).getD rpZ).old).length aJ,.slice aK ((((runP c p qs).bind fun run=>repX c p run qs (mapI ((wo).getD []) qs)).getD rpZ).new).length aL] X17 t) ?_;rintro _ eD ⟨N,hb⟩;have C:=t;have I:=I.onlyT N C rfl;have J:=J.onlyT N C rfl;have z:=Below.only z N aM;have t:=hb;refine Yo 10 rfl (fun _=>X19 rfl) ?_;refine Yd fun a D=>?_;refine cV _ _ ?_
 refine wp_ret (X2 D (X0w D rfl (ResV.cellN (l:=[vi ((((runP c p qs).bind fun run=>repX c p run qs (mapI ((wo).getD []) qs)).getD rpZ).pos),.slice aI ((((runP c p qs).bind fun run=>repX c p run qs (mapI ((wo).getD []) qs)).getD rpZ).old).length aJ,.slice aK ((((runP c p qs).bind fun run=>repX c p run qs (mapI ((wo).getD []) qs)).getD rpZ).new).length aL]) rfl X1i (t.at 0) rfl) rfl) ?_)
 rw [W,show repX c p rr qs (mapI (wo.getD []) qs)=(runP c p qs).bind (fun run=>repX c p run qs (mapI (wo.getD []) qs)) from by rw [bD,aH];rfl]
 exact ⟨aI,aJ,aK,aL,rfl,I,J,M,z⟩
theorem Xv8(b:World)(j:Nat)(d:ByteArray→Option Sq)(aA:Option Addr)(aB aC:Nat)(l:MapS b j (sgF d))(e:DeepM b b.heap.size 115 d)(m:sgL d=(tbW 1 5).1)(k:Nat)(f:ByteArray→Option Sq)(aD:Option Addr)(aE aF:Nat)(o:MapS b k (sgF f))(g:DeepM b b.heap.size 115 f)(q:sgL f=(tbW 2 3).1)(c:Cx)(Ac:Option Addr)(cc:Nat)(t:Rd b b.heap.size 115 encG Ac c.gs)(u:c.gs.length≤cc)(p:Int)(Aqs:Option Addr)(cqs:Nat)(qs:List Int)(i:Rd b b.heap.size 3 encI Aqs qs)(aG:c.gs.length≤1000000000)(aH:qs.length≤1048576)(x:PowT b) :
  Ret Tryz.prog 50 [.agg #[.map none,.slice none 0 0,.map (some j),.slice aA aB aC,.map (some k),.slice aD aE aF],.agg #[vi c.n,.slice Ac c.gs.length cc],vi p,.slice Aqs qs.length cqs] b (fun v w=>∃ A9 e9 B9 f9,v=.tuple #[.agg #[vi ((shrI c p qs).getD rpZ).pos,.slice A9 ((shrI c p qs).getD rpZ).old.length e9,.slice B9 ((shrI c p qs).getD rpZ).new.length f9],.bool (shrI c p qs).isSome]∧Own w b.heap.size 115 3 encG A9 e9 ((shrI c p qs).getD rpZ).old∧Own w b.heap.size 115 3 encG B9 f9 ((shrI c p qs).getD rpZ).new∧Apart A9 B9∧Below b.heap.size b w):=by
 by_cases h:qs.length=2
 ·exact Xrd b j d aA aB aC l e m k f aD aE aF o g q c Ac cc t u p Aqs cqs qs i aG aH (fun _=>h) x
 ·exact Xtn b j d aA aB aC l e m k f aD aE aF o g q c Ac cc t u p Aqs cqs qs i aG aH (fun hr=>by have:=(X2a hr).1;omega) x
theorem Xq4(x:World)(c:Cx)(Ac:Option Addr)(cc:Nat)(d:Rd x x.heap.size 115 encG Ac c.gs)(aA:c.gs.length≤cc)(p:Int)(Aqs:Option Addr)(cqs:Nat)(qs:List Int)(b:Rd x x.heap.size 3 encI Aqs qs)(aJ:c.gs.length≤1000000000)(aK:qs.length≤1048576)(h:PowT x) : Ret Tryz.prog 20 [.agg #[vi c.n,.slice Ac c.gs.length cc],vi p,.slice Aqs qs.length cqs] x (fun v w=>∃ A9 e9 B9 f9,v=.tuple #[.agg #[vi ((shrI c p qs).getD rpZ).pos,.slice A9 ((shrI c p qs).getD rpZ).old.length e9,.slice B9 ((shrI c p qs).getD rpZ).new.length f9],.bool (shrI c p qs).isSome]∧Own w x.heap.size 115 3 encG A9 e9 ((shrI c p qs).getD rpZ).old∧Own w x.heap.size 115 3 encG B9 f9 ((shrI c p qs).getD rpZ).new∧Apart A9 B9∧Below x.heap.size x w):=by
 refine enter Tryz.func20 rfl 15 rfl rfl ?_;intro a hf
 have m:=bz x
 refine Zs hf fun _ aL=>?_;refine Zf (X0i (zs:=[vi c.n,.slice Ac c.gs.length cc]) rfl rfl) ?_;rintro _ w1 ⟨b4,rfl,aM,e,y⟩;have aP:=Nat.le_trans m.size aM;have d:=d.below e;have b:=b.below e;have m:=btr m e;refine Zf (X9 (zs:=[vi 0,.slice none 0 0,.slice none 0 0]) X33 rfl) ?_;rintro _ w2 ⟨b7,rfl,aN,e,f⟩;have aB:=Nat.le_trans m.size aN;have y:=y.below e;have d:=d.below e;have b:=b.below e;have m:=btr m e;refine Za rfl<|ZX aL fun a hf _ aO=>?_;refine X0f none (fun j=>[7].contains j) mixed ?_;intro w3 e;have y:=y.below e;have f:=f.below e;have d:=d.below e;have b:=b.below e;have m:=btr m e;refine Yb hf<|Ye 1 rfl (Vn X1r y)<|Yo 2 rfl (fun _=>Xa rfl)<|Yo 3 rfl (fun _=>Xa rfl)<|Y1 0 ?_;refine Yk rfl trivial (Vc (Xv9 _ (h.of m)) Xof) (fun _ _ ⟨b9,aC,A9,c9,aD,aE,A,aF,aG,B,_,aH,C,aI,D,z,E,e⟩=>e) ?_;rintro _ w4 ⟨b9,aC,A9,c9,aD,aE,A,aF,aG,B,rfl,aH,C,aI,D,z,E,e⟩;have f:=f.below e;have d:=d.below e;have b:=b.below e;have m:=btr m e;refine Y1 4<|Yk rfl trivial (Vc (Xv8 _ b9 aC A9 aD.length c9 aH C.top aI aE A aF B.length aG D z.top E c Ac cc d.top aA p Aqs cqs qs b.top aJ aK (h.of m)) Xoh) (fun _ _ ⟨o,q,t,u,_,g,i,k,e⟩=>e) ?_;rintro _ w5 ⟨o,q,t,u,rfl,g,i,k,e⟩;have g:=g.lower m.size;have i:=i.lower m.size;have f:=f.below e;have m:=btr m e;refine Yo 5 rfl (fun _=>X3 (vs:=[.agg #[vi (((shrI c p qs).getD rpZ).pos),.slice o (((shrI c p qs).getD rpZ).old).length q,.slice t (((shrI c p qs).getD rpZ).new).length u],.bool ((shrI c p qs).isSome)]) rfl rfl)<|Yo 6 rfl (fun _=>X3 (vs:=[.agg #[vi (((shrI c p qs).getD rpZ).pos),.slice o (((shrI c p qs).getD rpZ).old).length q,.slice t (((shrI c p qs).getD rpZ).new).length u],.bool ((shrI c p qs).isSome)]) rfl rfl)<|Y1 7 ?_
 refine Yh rfl trivial rfl (Vw [vi (((shrI c p qs).getD rpZ).pos),.slice o (((shrI c p qs).getD rpZ).old).length q,.slice t (((shrI c p qs).getD rpZ).new).length u] X17 f) ?_;rintro _ w6 ⟨ho,hb⟩;have G:=f;have g:=g.onlyT ho G rfl;have i:=i.onlyT ho G rfl;have m:=Below.only m ho aB;have f:=hb;refine Yo 8 rfl (fun _=>X19 rfl) ?_;refine Yd fun a hf=>?_;refine aO _ _ ?_
 refine wp_ret (X2 hf (X0w hf rfl (ResV.cellN (l:=[vi (((shrI c p qs).getD rpZ).pos),.slice o (((shrI c p qs).getD rpZ).old).length q,.slice t (((shrI c p qs).getD rpZ).new).length u]) rfl X1i (f.at 0) rfl) rfl) ?_)
 exact ⟨o,q,t,u,rfl,g,i,k,m⟩
theorem Xue(p:World)(c:Cx)(Ac:Option Addr)(cc:Nat)(t:Rd p p.heap.size 115 encG Ac c.gs)(lo:Int)(hi:Int)(aS:c.gs.length≤100000000) : Ret Tryz.prog 142 [.agg #[vi c.n,.slice Ac c.gs.length cc],vi lo,vi hi] p (fun v w=>v=vi ((c.gs.countP fun g=>inR g.k lo hi:Nat) : Int)∧Below p.heap.size p w):=by
 refine enter Tryz.func142 rfl 26 rfl rfl ?_;intro a d
 have i:=bz p
 refine Zs d fun _ aI=>?_;refine Zf (X0i (zs:=[vi c.n,.slice Ac c.gs.length cc]) rfl rfl) ?_;rintro _ w1 ⟨b3,rfl,aJ,hE,aK⟩;have aQ:=Nat.le_trans i.size aJ;have i:=btr i hE;refine Za rfl<|Zx aI fun a d _ aL=>?_;refine Za rfl<|ZX aL fun a d _ aM=>?_;refine Zs d fun _ aN=>?_;refine Ze (Vd rfl X0z 1)<|Ze (X0 rfl X16 (aK.at 1))<|Ze (X0x rfl Xh)<|Zm rfl<|Zt aN fun a d=>?_;refine wp_block<|X0d (σ:=Nat×Nat) (fun (s:Nat×Nat) (a:Act) (w:World)=>match s with|(k,q)=>Fr a 26 [(1,vi lo),(2,vi hi),(7,vi (q:Int)),(11,.slice Ac c.gs.length cc),(12,vi (c.gs.length:Int)),(13,vi (k:Int))]∧(k≤c.gs.length)∧(q=(c.gs.take k).countP fun g=>inR g.k lo hi)∧(q≤k)∧Below p.heap.size p w) (fun (s:Nat×Nat)=>match s with|(k,q)=>c.gs.length-k) (0,0) ?_ ?_
 ·exact ⟨d.sb,(Nat.zero_le _),rfl,(Nat.le_refl _),i⟩
 rintro ⟨k,q⟩ a w2 ⟨d,hk,hq,aT,i⟩;refine Zs d fun _ aO=>?_;refine Ze (X12 rfl rfl)<|ZX aO fun a d _ aP=>?_
 refine Xl d rfl (fun j=>?_) (fun j=>?_)
 ·have aD:=j;have j:=of_decide_eq_true j
  obtain ⟨e,o⟩:=Xm (l:=c.gs) (k:=k) (by omega)
  refine wp_skip<|aP _ _<|wp_seq_k fun _ x=>?_;refine wp_block<|Zs d fun _ aE=>?_;refine Zi (k:=k) (u:=e) (enc:=encG) (l:=c.gs) trivial rfl rfl Xh X0s Xe (t.below' i) o rfl ?_;intro aU aA;refine Ze (X07 (l:=[vi e.k,vi e.a,vi e.b]) rfl X0m aA rfl)<|Zf (X9 (zs:=[vi 0,vi 0,vi 0]) X32 rfl) ?_;rintro _ w3 ⟨aW,rfl,y,hE,m⟩;have aB:=Nat.le_trans i.size y;have aF:=(t.below' i).away y;have i:=btr i hE;refine Zo (Vw [vi e.k,vi e.a,vi e.b] X0s m) ?_;rintro _ w4 ⟨ho,hb⟩;have aR:=m;have i:=Below.only i ho aB;have m:=hb;refine Zx aE fun a d _ aG=>?_;refine Ze (Vd rfl X0p 0)<|Ze (X0 rfl X7 (m.at 0))<|Zm rfl<|Zm rfl<|Zf (Vc (F85 _ e.k lo hi) X4e) ?_;rintro _ _ ⟨rfl,rfl⟩;refine Zt aG fun a d=>?_
  refine Xl d rfl (fun f=>?_) (fun f=>?_)
  ·have aC:=f
   have hT:inR e.k lo hi=true:=f
   refine Zr d<|Zm rfl<|Ze (X06 rfl rfl (by omega) (by omega))<|Za rfl ?_;refine Zn fun a d=>?_;refine Xu<|x _ _<|Zr d<|Ze (X06 rfl rfl (by omega) (by omega))<|Zm rfl ?_;refine Zn fun a d=>?_;refine Xs ?_;exact ⟨(k+1,q+1),⟨d.sb,(by omega),(by rw [List.take_add_one,o,List.countP_append,← hq];simp [hT]),(by omega),i⟩,(by first|omega|(dsimp only;omega))⟩
  have aC:=f
  have hT:inR e.k lo hi=false:=f
  refine wp_skip<|Xu<|x _ _<|Zr d ?_;refine Ze (X06 rfl rfl (by omega) (by omega))<|Zm rfl ?_;refine Zn fun a d=>?_;refine Xs ?_;exact ⟨(k+1,q),⟨d.sb,(by omega),(by rw [List.take_add_one,o,List.countP_append,← hq];simp [hT]),(by omega),i⟩,(by first|omega|(dsimp only;omega))⟩
 have aD:=j;have j:=of_decide_eq_false j;refine wp_exit<|Xq<|Xq<|X0b ?_;refine aM _ _<|Zs d fun _ aH=>?_;refine Zm rfl<|Za rfl<|Zt aH fun a d=>?_
 refine wp_ret (X2 d (Xv d rfl rfl) ?_)
 exact ⟨by rw [hq,List.take_of_length_le (by omega)],i⟩
theorem Xg0(w0:World)(Al:Option Addr)(cl:Nat)(l:List Gt)(aA:Rd w0 w0.heap.size 115 encG Al l)(aB:l.length≤100000000) : Ret Tryz.prog 80 [.slice Al l.length cl] w0 (fun v w=>v=vi ((tcN l:Nat) : Int)∧Below w0.heap.size w0 w):=by
 refine enter Tryz.func80 rfl 6 rfl rfl ?_;intro a hf
 have hW:=bz w0
 refine Zs hf fun _ aC=>?_;refine Za rfl<|Zx aC fun a hf _ aD=>?_;refine Zm rfl<|Ze (Xg (ps:=[(1,.slice Al l.length cl)]) (cs:=[vi 0,.slice Al l.length cl]) rfl (fun _=>by first|rfl|kernel_rfl))<|Zf (Vc (Xue _ (⟨0,l⟩ : Cx) Al cl (aA.below' hW).top 7 8 aB) Xp2) ?_;rintro _ w1 ⟨rfl,hE⟩;have hW:=btr hW hE;refine Za rfl<|Zt aD fun a hf=>?_
 refine wp_ret (X2 hf (Xv hf rfl rfl) ?_)
 exact ⟨by rw [← Xkl],hW⟩
theorem Xw6(B:World)(c:Cx)(Ac:Option Addr)(cc:Nat)(U:Rd B B.heap.size 115 encG Ac c.gs)(Arr:Option Addr)(crr:Nat)(rr:List Int)(aA:Rd B B.heap.size 3 encI Arr rr)(Aqs:Option Addr)(cqs:Nat)(qs:List Int)(aB:Rd B B.heap.size 3 encI Aqs qs)(bH:cOk c=true)(bK:rr.length≤6)(b1:∀ i ∈ rr,∃ j:Nat,i=(j:Int)∧j<c.gs.length)(b2:∀ g ∈ gatL c rr,GoodG qs c.n g∧insB g qs=true)(b3:Inc qs)(b4:qs.length≤1048576) : Ret Tryz.prog 77 [.agg #[vi c.n,.slice Ac c.gs.length cc],.slice Arr rr.length crr,.slice Aqs qs.length cqs] B (fun v w=>∃ A e,v=.agg #[vi (xC c rr qs).n,.slice A (xC c rr qs).gs.length e]∧Own w B.heap.size 115 3 encG A e (xC c rr qs).gs∧Below B.heap.size B w):=by
 have bI:=X2t c rr;refine enter Tryz.func77 rfl 33 rfl rfl ?_;intro a y
 have p:=bz B
 refine Zs y fun _ b6=>?_;refine Zf (X0i (zs:=[vi c.n,.slice Ac c.gs.length cc]) rfl rfl) ?_;rintro _ w1 ⟨b5,rfl,b8,t,f⟩;have bJ:=Nat.le_trans p.size b8;have p:=btr p t;refine Zf (X9 (zs:=[vi 0,.slice none 0 0]) Xi5 rfl) ?_;rintro _ w2 ⟨b7,rfl,b9,t,m⟩
 have b0:b5≠b7:=by have:=f.lt;omega
 have aJ:=Nat.le_trans p.size b9;have f:=f.below t;have p:=btr p t;refine Zx b6 fun a y _ bC=>?_;refine Zm rfl<|Ze (X0x rfl X09)<|Ze (Xg (ps:=[(0,vi (qs.length:Int))]) (cs:=[vi (qs.length:Int),.slice none 0 0]) rfl (fun _=>by first|rfl|kernel_rfl))<|Zf (X9 (zs:=[vi 0,.slice none 0 0]) Xi5 rfl) ?_;rintro _ w3 ⟨b11,rfl,aK,t,d⟩
 have aL:b5≠b11:=by have:=f.lt;omega
 have aM:b7≠b11:=by have:=m.lt;omega
 have H:=Nat.le_trans p.size aK;have f:=f.below t;have m:=m.below t;have p:=btr p t;refine Zo (Vw [vi (qs.length:Int),.slice none 0 0] Xcc d) ?_;rintro _ w4 ⟨I,hb⟩;have C:=d;have f:=f.only I (by omega);have m:=m.only I (by omega);have p:=Below.only p I H;have d:=hb;refine ZX bC fun a y _ aN=>?_;refine Zs y fun _ aO=>?_;refine Zm rfl<|Ze (X0x rfl X09)<|Zm rfl<|Zt aO fun a y=>?_;refine wp_block<|X0d (σ:=Nat×(List Gt)) (fun (s:Nat×(List Gt)) (a:Act) (w:World)=>match s with|(k,q)=>∃ D E,Fr a 33 [(2,.slice Aqs qs.length cqs),(3,.pointer (some ⟨b5,0,none⟩)),(6,.pointer (some ⟨b7,0,none⟩)),(7,.pointer (some ⟨b11,0,none⟩)),(13,.slice Arr rr.length crr),(14,vi (rr.length:Int)),(15,vi (k:Int))]∧(k≤rr.length)∧(q=((gatL c rr).take k).map (smallG qs))∧(q.length=k)∧Blk w b5 28 [vi c.n,.slice Ac c.gs.length cc]∧Blk w b7 28 [vi 0,.slice none 0 0]∧Blk w b11 28 [vi (qs.length:Int),.slice D q.length E]∧Own w B.heap.size 115 3 encG D E q∧Below B.heap.size B w) (fun (s:Nat×(List Gt))=>match s with|(k,q)=>rr.length-k) (0,[]) ?_ ?_
 ·exact ⟨none,0,y.sb,(Nat.zero_le _),rfl,rfl,f,m,d,(Own.nil _ _ _ _ _),p⟩
 rintro ⟨k,q⟩ a w5 ⟨D,E,y,hk,hq,bD,f,m,d,o,p⟩;refine Zs y fun _ aP=>?_;refine Ze (X12 rfl rfl)<|ZX aP fun a y _ aQ=>?_
 refine Xl y rfl (fun x=>?_) (fun x=>?_)
 ·have aC:=x;have x:=of_decide_eq_true x
  obtain ⟨bE,J⟩:=Xm (l:=rr) (k:=k) (by omega)
  obtain ⟨j9,aR,aS⟩:=b1 _ (List.mem_of_getElem? J)
  obtain ⟨u9,aD⟩:=Xm (l:=gatL c rr) (k:=k) (by omega)
  have bF:c.gs[j9]? = some u9:=Xnh J aR aS aD
  obtain ⟨W,L⟩:=b2 u9 (List.mem_of_getElem? aD);refine wp_skip<|aQ _ _<|wp_seq_k fun _ aT=>?_;refine wp_block<|Zs y fun _ aU=>?_;refine Zi (k:=k) (u:=bE) (enc:=encI) (l:=rr) trivial rfl rfl X09 X1k X08 (aA.below' p) J rfl ?_;intro bL aE;refine Ze (X0 rfl X7 aE)<|Za rfl<|Zt aU fun a y=>?_;refine X0f none (fun j=>[10,12].contains j) mixed ?_;intro w6 t;have f:=f.below t;have m:=m.below t;have d:=d.below t;have o:=o.below t;have p:=btr p t;refine Yb y<|Yo 0 rfl (fun _=>Vd rfl X0z 1)<|Ye 1 rfl (X0 rfl X16 (d.at 1))<|Yo 2 rfl (fun _=>Vd rfl X0z 1)<|Ye 3 rfl (X0 rfl X16 (f.at 1))<|Yo 4 rfl (fun _=>Xa rfl) ?_;refine Yi (k:=j9) (u:=u9) (enc:=encG) (l:=c.gs) 5 rfl trivial rfl rfl Xh X0s Xe (U.below' p) bF aR ?_;intro bM aF;refine Ye 6 rfl (X07 (l:=[vi u9.k,vi u9.a,vi u9.b]) rfl X0m aF rfl)<|Yo 7 rfl (fun _=>Xa rfl)<|Y1 8 ?_;refine Yk rfl trivial (Vc (Xwx _ u9 Aqs cqs qs (aB.below' p).top (Xgd L) (W.use _ (Xvp (Xgd L))) b3 (fun h9=>W.use _ (Xvl (Xgd L) h9)) (Nat.le_trans b4 (by decide))) Xtm) (fun _ _ ⟨_,t⟩=>t) ?_;rintro _ w7 ⟨rfl,t⟩;have f:=f.below t;have m:=m.below t;have d:=d.below t;have o:=o.below t;have p:=btr p t;refine Y1 9<|Yk rfl trivial (X6 (k:=1) (vs:=[.agg #[vi ((smallG qs u9).k),vi ((smallG qs u9).a),vi ((smallG qs u9).b)]]) (zs:=[vi ((smallG qs u9).k),vi ((smallG qs u9).a),vi ((smallG qs u9).b)]) rfl Xh Xj rfl rfl) (fun _ _ ⟨_,_,_,h,_⟩=>h) ?_;rintro _ w8 ⟨bN,rfl,M,t,N⟩;have bG:=Nat.le_trans p.size M;have aW:=(U.below' p).away M;have G:=o.away M;have f:=f.below t;have m:=m.below t
  have d:=d.below t;have o:=o.below t;have p:=btr p t;refine Y1 10<|Yt rfl trivial rfl (X13 (enc:=encG) (l:=(q)) (l2:=([(smallG qs u9)])) (B0:=B.heap.size) rfl rfl Xh Xj Xe X0c o (Rd.of_blk N rfl _ N.lt) (by simp only [maxLen];simp;omega) (by simp;omega) p.size) ?_;rintro _ w9 ⟨aG,aH,rfl,Q,hg,aX⟩
  have z:Own _ B.heap.size 115 3 encG _ _ (q):=o
  have aI:=aX _ N.lt G;clear aX;have f:=f.appT z hg rfl;have m:=m.appT z hg rfl;have d:=d.appT z hg rfl;have p:=Below.app p z hg (Nat.le_refl _) p.size;clear z hg;refine Yo 11 rfl (fun _=>Vd rfl X0z 1)<|Y1 12 ?_;refine Yh rfl trivial rfl (Vu (vs:=[.slice aG (q++([(smallG qs u9)])).length aH]) (l':=[vi (qs.length:Int),.slice aG (q++([(smallG qs u9)])).length aH]) rfl rfl Xfc d) ?_;rintro _ bO ⟨I,hb⟩;have C:=d;have f:=f.only I (by omega);have m:=m.only I (by omega);have Q:=Q.onlyT I C rfl;have p:=Below.only p I H;have d:=hb;refine Yd fun a y=>?_;refine Xu<|aT _ _<|Zr y<|Ze (X06 rfl rfl (by omega) (by omega))<|Zm rfl ?_;refine Zn fun a y=>?_;refine Xs ?_;exact ⟨(k+1,(q++[smallG qs u9])),⟨aG,aH,y.sb,(by omega),(Xkt hq aD),(by simp;exact bD),f,m,d,Q,p⟩,(by first|omega|(dsimp only;omega))⟩
 have aC:=x;have x:=of_decide_eq_false x
 have aY:q=(gatL c rr).map (smallG qs):=by rw [hq,List.take_of_length_le (by omega)]
 refine wp_exit<|Xq<|Xq<|X0b ?_;refine aN _ _<|Zs y fun _ aZ=>?_;refine Ze (Vn X1r d)<|Zo (Vw [vi (qs.length:Int),.slice D q.length E] Xcc m) ?_;rintro _ bP ⟨I,hb⟩;have C:=m;have o:=o.onlyT I C rfl;have p:=Below.only p I aJ;have m:=hb;refine Zt aZ fun a y=>?_
 refine wp_ret (X2 y (Xv y rfl (ResV.cellN (l:=[vi (qs.length:Int),.slice D q.length E]) rfl X1r (m.at 0) rfl)) ?_)
 subst aY
 exact ⟨D,E,rfl,o,p⟩
theorem Xuf(w0:World)(x:Cx)(Ax:Option Addr)(cx:Nat)(aB:Rd w0 w0.heap.size 115 encG Ax x.gs)(hx:cOk x=true)(M9:Mx)(aC:opI x=some M9) : Ret Tryz.prog 78 [.agg #[vi x.n,.slice Ax x.gs.length cx]] w0 (fun v w=>∃ A c1,v=mV A c1 ((opI x).getD mZ)∧Rd w w.heap.size 95 encD A ((opI x).getD mZ).cells∧Below w0.heap.size w0 w):=by
 obtain ⟨hn,aL,aN⟩:=X14 hx;have t:=Xtv hx aC
 obtain ⟨d,hd⟩ : ∃ d:Nat,d=2^x.n.toNat:=⟨_,rfl⟩
 rw [← hd] at t
 refine enter Tryz.func78 rfl 14 rfl rfl ?_;intro a hf
 have e:=bz w0
 refine Zs hf fun _ aF=>?_;refine Zf (X0i (zs:=[vi x.n,.slice Ax x.gs.length cx]) rfl rfl) ?_;rintro _ w1 ⟨b3,rfl,aG,c,f⟩;have aM:=Nat.le_trans e.size aG;have e:=btr e c;refine Zf (X9 (zs:=[vi 0,vi 0,.slice none 0 0]) X1m rfl) ?_;rintro _ w2 ⟨b5,rfl,aH,c,b⟩;have aD:=Nat.le_trans e.size aH;have f:=f.below c;have e:=btr e c;refine Zx aF fun a hf _ aI=>?_;refine Ze (Xg (ps:=[]) (cs:=[.bool false]) rfl (fun _=>by first|rfl|kernel_rfl))<|Zf (X0i (zs:=[.bool false]) rfl rfl) ?_;rintro _ w3 ⟨b7,rfl,aJ,c,g⟩;have aE:=Nat.le_trans e.size aJ;have f:=f.below c;have b:=b.below c;have e:=btr e c;refine Za rfl<|ZX aI fun a hf _ aK=>?_;refine X0f (some b7) (fun j=>[8].contains j) mixed ?_;intro w4 c;have f:=f.below c;have b:=b.below c;have g:=g.below c;have e:=btr e c;refine Yb hf<|Yo 0 rfl (fun _=>Xa rfl) ?_;refine Yw 1 rfl trivial (fun w1 h1=>X07 (l:=[vi x.n,.slice Ax x.gs.length cx]) rfl X1r ((f.only h1 (Blk.ne f g rfl)).at 0) rfl) ?_;refine Yo 2 rfl (fun _=>Vd rfl X1s 0) ?_;refine Yw 3 rfl trivial (fun w1 h1=>X0 rfl X7 ((f.only h1 (Blk.ne f g rfl)).at 0)) ?_;refine Yo 4 rfl (fun _=>Xen (m:=x.n.toNat) Tryz.underlying3 Tryz.underlying185 rfl (by omega) (by omega))<|Yo 5 rfl (fun _=>X9s (m:=x.n.toNat) (D:=d) rfl rfl rfl ⟨hd,by omega⟩)<|Y1 6 ?_;refine Yf rfl trivial (EfW.mono (Vc (Xqs _ d (by rw [hd];exact X41 hn.2)) Xep) (fun _ _ h=>⟨fun _=>by obtain ⟨A9,c9,rfl,o,c⟩:=h;exact Keep.of_below c,h⟩)) ?_;rintro _ w5 ⟨A9,c9,rfl,o,c⟩;have o:=o.lower e.size;have b:=b.below c;have g:=g.below c;have e:=btr e c;refine Y1 7<|Yf rfl trivial (EfW.mono (X22 (vs:=[.pointer (some ⟨b7,0,none⟩),.agg #[vi x.n,.slice Ax x.gs.length cx],.agg #[vi ((unitS d).rows),vi ((unitS d).cols),.slice A9 ((unitS d).cells).length c9]]) rfl Xrp (by have hq:=Xxm w5 b7 false g x Ax cx (aB.below' e).top (unitS d) A9 c9 o.rd.top hx (X2s (by rw [hd];exact X1x hn)).2 (by rw [← hd];rfl);rw [t] at hq;dsimp only at hq;exact hq)) (fun _ _ h=>⟨fun _=>by obtain ⟨p,q,rfl,i,hK,aA⟩:=h;exact hK.keep,h⟩)) ?_;rintro _ w6 ⟨p,q,rfl,i,hK,aA⟩
 obtain ⟨wm,hO,hm,c⟩:=hK.mid;clear hm;have k:=g;have b:=b.only hO (Blk.ne b k rfl);have e:=Below.only e hO aE;have b:=b.below c;have e:=btr e c
 clear k c hO hK;have g:=aA;clear aA;refine Y1 8<|Yh rfl trivial rfl (Vw [vi M9.rows,vi M9.cols,.slice p M9.cells.length q] X11 b) ?_;rintro _ w7 ⟨ho,hb⟩;have k:=b;have i:=i.onlyT ho k rfl;have e:=Below.only e ho aD;have b:=hb;refine Yd fun a hf=>?_;refine aK _ _ ?_
 refine wp_ret (X2 hf (Xv hf rfl (ResV.cellN (l:=[vi M9.rows,vi M9.cols,.slice p M9.cells.length q]) rfl X0e (b.at 0) rfl)) ?_)
 rw [aC]
 exact ⟨p,q,rfl,i.top,e⟩
theorem Xvk(w0:World)(x:Int)(y:Int) : Ret Tryz.prog 79 [vi x,vi y] w0 (fun v w=>v=vi (min x y)∧Below w0.heap.size w0 w):=by
 refine enter Tryz.func79 rfl 10 rfl rfl ?_;intro a c
 have hW:=bz w0
 refine Zs c fun _ aB=>?_;refine Za rfl<|ZX aB fun a c _ aC=>?_;refine Zs c fun _ aD=>?_;refine Zm rfl<|Zm rfl<|Ze (X12 rfl rfl)<|Zt aD fun a c=>?_
 refine Xl c rfl (fun b=>?_) (fun b=>?_)
 ·have aA:=b;have b:=of_decide_eq_true b;refine Zs c fun _ aE=>?_;refine Zm rfl<|Za rfl<|Zt aE fun a c=>?_;refine wp_ret<|X4<|X2 c (Xv c rfl rfl) ?_;exact ⟨by rw [Int.min_eq_left (by omega)],hW⟩
 have aA:=b;have b:=of_decide_eq_false b;refine wp_skip<|aC _ _<|Zs c fun _ aF=>?_;refine Zm rfl<|Za rfl<|Zt aF fun a c=>?_
 refine wp_ret (X2 c (Xv c rfl rfl) ?_)
 exact ⟨by rw [Int.min_eq_right (by omega)],hW⟩
theorem Xqj(h:World)(Al:Option Addr)(cl:Nat)(l:List Gt)(B:Rd h h.heap.size 115 encG Al l)(Aqs:Option Addr)(cqs:Nat)(qs:List Int)(H:Rd h h.heap.size 3 encI Aqs qs)(L:Nat)(J:∀ g ∈ l,(g.k≠12→0≤g.a∧g.a<(L:Int))∧(inR g.k 9 11=true→0≤g.b∧g.b<(L:Int)))(hL:qs.length=L)(cN:l.length≤1000000) : Ret Tryz.prog 82 [.slice Al l.length cl,.slice Aqs qs.length cqs] h (fun v w=>∃ A c,v=.slice A (mapI l qs).length c∧Own w h.heap.size 115 3 encG A c (mapI l qs)∧Below h.heap.size h w):=by
 refine enter Tryz.func82 rfl 37 rfl rfl ?_;intro a m
 have i:=bz h
 refine Zs m fun _ bU=>?_;refine Za rfl<|Zx bU fun a m _ bW=>?_;refine Za rfl<|ZX bW fun a m _ bX=>?_;refine Zs m fun _ bY=>?_;refine Zm rfl<|Ze (X0x rfl Xh)<|Zm rfl<|Zt bY fun a m=>?_;refine wp_block<|X0d (σ:=Nat×(List Gt)) (fun (s:Nat×(List Gt)) (a:Act) (w:World)=>match s with|(k,q)=>∃ A9 c9,Fr a 37 [(1,.slice Aqs qs.length cqs),(5,.slice A9 q.length c9),(8,.slice Al l.length cl),(9,vi (l.length:Int)),(10,vi (k:Int))]∧(k≤l.length)∧(q=(l.take k).map (mapG qs))∧(q.length=k)∧Own w h.heap.size 115 3 encG A9 c9 q∧Below h.heap.size h w) (fun (s:Nat×(List Gt))=>match s with|(k,q)=>l.length-k) (0,[]) ?_ ?_
 ·exact ⟨none,0,m.sb,(Nat.zero_le _),rfl,rfl,(Own.nil _ _ _ _ _),i⟩
 rintro ⟨k,q⟩ a w1 ⟨A9,c9,m,hk,hq,aK,f,i⟩;refine Zs m fun _ bC=>?_;refine Ze (X12 rfl rfl)<|ZX bC fun a m _ bD=>?_
 refine Xl m rfl (fun y=>?_) (fun y=>?_)
 ·have aP:=y;have y:=of_decide_eq_true y
  obtain ⟨d,x⟩:=Xm (l:=l) (k:=k) (by omega)
  refine wp_skip<|bD _ _<|wp_seq_k fun _ I=>?_;refine wp_block<|Zs m fun _ bE=>?_;refine Zi (k:=k) (u:=d) (enc:=encG) (l:=l) trivial rfl rfl Xh X0s Xe (B.below' i) x rfl ?_;intro cO aQ;refine Ze (X07 (l:=[vi d.k,vi d.a,vi d.b]) rfl X0m aQ rfl)<|Zf (X9 (zs:=[vi 0,vi 0,vi 0]) X32 rfl) ?_;rintro _ w2 ⟨aL,rfl,M,z,e⟩;have C:=Nat.le_trans i.size M;have j:=f.away M;have bF:=(B.below' i).away M;have f:=f.below z;have i:=btr i z;refine Zo (Vw [vi d.k,vi d.a,vi d.b] X0s e) ?_;rintro _ w3 ⟨N,hb⟩;have Q:=e;have f:=f.onlyA N j;have i:=Below.only i N C;have e:=hb;refine ZX bE fun a m _ aM=>?_;refine Zs m fun _ bG=>?_;refine Ze (Vn X0m e)<|Zf (Vc (Xrh _ d) Xdy) ?_;rintro _ w4 ⟨rfl,z⟩;have e:=e.below z;have f:=f.below z;have i:=btr i z;refine Zt bG fun a m=>?_
  refine Xl m rfl (fun D=>?_) (fun D=>?_)
  ·have aR:=D
   have o:inR d.k 9 11=true:=D
   obtain ⟨cP,cQ⟩:=(J d (List.mem_of_getElem? x)).2 o;refine Zr m<|Zm rfl<|Ze (Vd rfl X0v 2)<|Ze (X0 rfl X7 (e.at 2))<|Zi (k:=d.b.toNat) (u:=(qs.getD d.b.toNat 0)) (enc:=encI) (l:=qs) trivial rfl rfl X09 X1k X08 (H.below' i) (X63 (by omega)) (by omega) ?_;intro cR aS;refine Ze (X0 rfl X7 aS)<|Ze (Vd rfl X0v 2)<|Zo (Vu (vs:=[vi (qs.getD d.b.toNat 0)]) (l':=[vi d.k,vi d.a,vi (qs.getD d.b.toNat 0)]) rfl rfl X1k e) ?_;rintro _ w5 ⟨N,hb⟩;have Q:=e;have f:=f.onlyA N j;have i:=Below.only i N C;have e:=hb;refine ZX aM fun a m _ aN=>?_;refine Zs m fun _ bH=>?_;refine Ze (Vd rfl X0p 0)<|Ze (X0 rfl X7 (e.at 0))<|Ze (X2d rfl rfl)<|Zt bH fun a m=>?_
   refine Xl m rfl (fun E=>?_) (fun E=>?_)
   ·have aT:=E
    have n:¬ d.k=12:=by simpa using E
    obtain ⟨bZ,c4⟩:=(J d (List.mem_of_getElem? x)).1 n;refine Zr m<|Zm rfl<|Ze (Vd rfl X0l 1)<|Ze (X0 rfl X7 (e.at 1))<|Zi (k:=d.a.toNat) (u:=(qs.getD d.a.toNat 0)) (enc:=encI) (l:=qs) trivial rfl rfl X09 X1k X08 (H.below' i) (X63 (by omega)) (by omega) ?_;intro cS aU;refine Ze (X0 rfl X7 aU)<|Ze (Vd rfl X0l 1)<|Zo (Vu (vs:=[vi (qs.getD d.a.toNat 0)]) (l':=[vi d.k,vi (qs.getD d.a.toNat 0),vi (qs.getD d.b.toNat 0)]) rfl rfl X1k e) ?_;rintro _ w6 ⟨N,hb⟩;have Q:=e;have f:=f.onlyA N j;have i:=Below.only i N C;have e:=hb;refine Zt aN fun a m=>?_;refine Zr m<|Zm rfl<|Ze (Vn X0m e)<|Zf (X6 (k:=1) (vs:=[.agg #[vi d.k,vi (qs.getD d.a.toNat 0),vi (qs.getD d.b.toNat 0)]]) (zs:=[vi d.k,vi (qs.getD d.a.toNat 0),vi (qs.getD d.b.toNat 0)]) rfl Xh Xj rfl rfl) ?_;rintro _ w7 ⟨b29,rfl,U,z,W⟩
    have aY:aL≠b29:=by have:=e.lt;omega
    have cA:=Nat.le_trans i.size U;have aA:=f.away U;have bI:=(B.below' i).away U;have e:=e.below z;have f:=f.below z;have i:=btr i z;refine Zf (X13 (enc:=encG) (l:=(q)) (l2:=([(⟨d.k,(qs.getD d.a.toNat 0),(qs.getD d.b.toNat 0)⟩ : Gt)])) (B0:=h.heap.size) rfl rfl Xh Xj Xe X0c f (Rd.of_blk W rfl _ W.lt) (by simp only [maxLen];simp;omega) (by simp;omega) i.size) ?_;rintro _ w8 ⟨cB,cC,rfl,bJ,hg,t⟩
    have p:Own _ h.heap.size 115 3 encG _ _ (q):=f
    have aZ:=t _ e.lt j;have b0:=t _ W.lt aA;clear t;have i:=Below.app i p hg (Nat.le_refl _) i.size;clear p hg;refine Za rfl ?_;refine Zn fun a m=>?_;refine Xu<|I _ _<|Zr m<|Ze (X06 rfl rfl (by omega) (by omega))<|Zm rfl ?_;refine Zn fun a m=>?_;refine Xs ?_;exact ⟨(k+1,q++([(⟨d.k,(qs.getD d.a.toNat 0),(qs.getD d.b.toNat 0)⟩ : Gt)])),⟨cB,cC,m.sb,(by omega),(X4u hq x (by unfold mapG;first|rw [if_pos n,if_pos o]|rw [if_pos n,if_neg (by rw [o];decide)]|rw [if_neg n,if_pos o]|rw [if_neg n,if_neg (by rw [o];decide)])),(by simp;exact aK),bJ,i⟩,(by first|omega|(dsimp only;omega))⟩
   have aT:=E
   have n:d.k=12:=by simpa using E
   refine wp_skip<|aN _ _<|Zr m<|Zm rfl<|Ze (Vn X0m e)<|Zf (X6 (k:=1) (vs:=[.agg #[vi d.k,vi d.a,vi (qs.getD d.b.toNat 0)]]) (zs:=[vi d.k,vi d.a,vi (qs.getD d.b.toNat 0)]) rfl Xh Xj rfl rfl) ?_;rintro _ w9 ⟨b32,rfl,aB,z,aC⟩
   have b1:aL≠b32:=by have:=e.lt;omega
   have cD:=Nat.le_trans i.size aB;have aD:=f.away aB;have bK:=(B.below' i).away aB;have e:=e.below z;have f:=f.below z;have i:=btr i z;refine Zf (X13 (enc:=encG) (l:=(q)) (l2:=([(⟨d.k,d.a,(qs.getD d.b.toNat 0)⟩ : Gt)])) (B0:=h.heap.size) rfl rfl Xh Xj Xe X0c f (Rd.of_blk aC rfl _ aC.lt) (by simp only [maxLen];simp;omega) (by simp;omega) i.size) ?_;rintro _ cT ⟨cE,cF,rfl,bL,hg,t⟩
   have p:Own _ h.heap.size 115 3 encG _ _ (q):=f
   have b2:=t _ e.lt j;have b3:=t _ aC.lt aD;clear t;have i:=Below.app i p hg (Nat.le_refl _) i.size;clear p hg;refine Za rfl ?_;refine Zn fun a m=>?_;refine Xu<|I _ _<|Zr m<|Ze (X06 rfl rfl (by omega) (by omega))<|Zm rfl ?_;refine Zn fun a m=>?_;refine Xs ?_;exact ⟨(k+1,q++([(⟨d.k,d.a,(qs.getD d.b.toNat 0)⟩ : Gt)])),⟨cE,cF,m.sb,(by omega),(X4u hq x (by unfold mapG;first|rw [if_pos n,if_pos o]|rw [if_pos n,if_neg (by rw [o];decide)]|rw [if_neg n,if_pos o]|rw [if_neg n,if_neg (by rw [o];decide)])),(by simp;exact aK),bL,i⟩,(by first|omega|(dsimp only;omega))⟩
  have aR:=D
  have o:inR d.k 9 11=false:=D
  refine wp_skip<|aM _ _<|wp_seq_k fun _ aO=>?_;refine Zs m fun _ bM=>?_;refine Ze (Vd rfl X0p 0)<|Ze (X0 rfl X7 (e.at 0))<|Ze (X2d rfl rfl)<|Zt bM fun a m=>?_
  refine Xl m rfl (fun G=>?_) (fun G=>?_)
  ·have aW:=G
   have n:¬ d.k=12:=by simpa using G
   obtain ⟨bZ,c4⟩:=(J d (List.mem_of_getElem? x)).1 n;refine Zr m<|Zm rfl<|Ze (Vd rfl X0l 1)<|Ze (X0 rfl X7 (e.at 1))<|Zi (k:=d.a.toNat) (u:=(qs.getD d.a.toNat 0)) (enc:=encI) (l:=qs) trivial rfl rfl X09 X1k X08 (H.below' i) (X63 (by omega)) (by omega) ?_;intro cU aX;refine Ze (X0 rfl X7 aX)<|Ze (Vd rfl X0l 1)<|Zo (Vu (vs:=[vi (qs.getD d.a.toNat 0)]) (l':=[vi d.k,vi (qs.getD d.a.toNat 0),vi d.b]) rfl rfl X1k e) ?_;rintro _ cV ⟨N,hb⟩;have Q:=e;have f:=f.onlyA N j;have i:=Below.only i N C;have e:=hb;refine Zt aO fun a m=>?_;refine Zr m<|Zm rfl<|Ze (Vn X0m e)<|Zf (X6 (k:=1) (vs:=[.agg #[vi d.k,vi (qs.getD d.a.toNat 0),vi d.b]]) (zs:=[vi d.k,vi (qs.getD d.a.toNat 0),vi d.b]) rfl Xh Xj rfl rfl) ?_;rintro _ cW ⟨b40,rfl,aE,z,aF⟩
   have b4:aL≠b40:=by have:=e.lt;omega
   have cG:=Nat.le_trans i.size aE;have aG:=f.away aE;have bN:=(B.below' i).away aE;have e:=e.below z;have f:=f.below z;have i:=btr i z;refine Zf (X13 (enc:=encG) (l:=(q)) (l2:=([(⟨d.k,(qs.getD d.a.toNat 0),d.b⟩ : Gt)])) (B0:=h.heap.size) rfl rfl Xh Xj Xe X0c f (Rd.of_blk aF rfl _ aF.lt) (by simp only [maxLen];simp;omega) (by simp;omega) i.size) ?_;rintro _ cX ⟨cH,cJ,rfl,bO,hg,t⟩
   have p:Own _ h.heap.size 115 3 encG _ _ (q):=f
   have b5:=t _ e.lt j;have b6:=t _ aF.lt aG;clear t;have i:=Below.app i p hg (Nat.le_refl _) i.size;clear p hg;refine Za rfl ?_;refine Zn fun a m=>?_;refine Xu<|I _ _<|Zr m<|Ze (X06 rfl rfl (by omega) (by omega))<|Zm rfl ?_;refine Zn fun a m=>?_;refine Xs ?_;exact ⟨(k+1,q++([(⟨d.k,(qs.getD d.a.toNat 0),d.b⟩ : Gt)])),⟨cH,cJ,m.sb,(by omega),(X4u hq x (by unfold mapG;first|rw [if_pos n,if_pos o]|rw [if_pos n,if_neg (by rw [o];decide)]|rw [if_neg n,if_pos o]|rw [if_neg n,if_neg (by rw [o];decide)])),(by simp;exact aK),bO,i⟩,(by first|omega|(dsimp only;omega))⟩
  have aW:=G
  have n:d.k=12:=by simpa using G
  refine wp_skip<|aO _ _<|Zr m<|Zm rfl<|Ze (Vn X0m e)<|Zf (X6 (k:=1) (vs:=[.agg #[vi d.k,vi d.a,vi d.b]]) (zs:=[vi d.k,vi d.a,vi d.b]) rfl Xh Xj rfl rfl) ?_;rintro _ cY ⟨b43,rfl,aH,z,aI⟩
  have b7:aL≠b43:=by have:=e.lt;omega
  have cK:=Nat.le_trans i.size aH;have aJ:=f.away aH;have bP:=(B.below' i).away aH;have e:=e.below z;have f:=f.below z;have i:=btr i z;refine Zf (X13 (enc:=encG) (l:=(q)) (l2:=([d])) (B0:=h.heap.size) rfl rfl Xh Xj Xe X0c f (Rd.of_blk aI rfl _ aI.lt) (by simp only [maxLen];simp;omega) (by simp;omega) i.size) ?_;rintro _ d5 ⟨cL,cM,rfl,bQ,hg,t⟩
  have p:Own _ h.heap.size 115 3 encG _ _ (q):=f
  have b8:=t _ e.lt j;have b9:=t _ aI.lt aJ;clear t;have i:=Below.app i p hg (Nat.le_refl _) i.size;clear p hg;refine Za rfl ?_;refine Zn fun a m=>?_;refine Xu<|I _ _<|Zr m<|Ze (X06 rfl rfl (by omega) (by omega))<|Zm rfl ?_;refine Zn fun a m=>?_;refine Xs ?_;exact ⟨(k+1,q++([d])),⟨cL,cM,m.sb,(by omega),(X4u hq x (by unfold mapG;first|rw [if_pos n,if_pos o]|rw [if_pos n,if_neg (by rw [o];decide)]|rw [if_neg n,if_pos o]|rw [if_neg n,if_neg (by rw [o];decide)])),(by simp;exact aK),bQ,i⟩,(by first|omega|(dsimp only;omega))⟩
 have aP:=y;have y:=of_decide_eq_false y
 have bR:q=mapI l qs:=by rw [hq,List.take_of_length_le (by omega)];rfl
 refine wp_exit<|Xq<|Xq<|X0b ?_;refine bX _ _<|Zs m fun _ bS=>?_;refine Zm rfl<|Za rfl<|Zt bS fun a m=>?_
 refine wp_ret (X2 m (Xv m rfl rfl) ?_)
 subst bR
 exact ⟨A9,c9,rfl,f,i⟩
theorem Xun(w0:World)(c:Cx)(Ac:Option Addr)(cc:Nat)(e:Rd w0 w0.heap.size 115 encG Ac c.gs)(M:c.gs.length≤cc)(p:Int)(Aqs:Option Addr)(cqs:Nat)(qs:List Int)(b:Rd w0 w0.heap.size 3 encI Aqs qs)(N:cOk c=true)(bG:qs.length≤1048576) : Ret Tryz.prog 47 [.agg #[vi c.n,.slice Ac c.gs.length cc],vi p,.slice Aqs qs.length cqs] w0 (fun v w=>∃ A9 e9 B9 f9,v=.tuple #[.agg #[vi ((shrX c p qs).getD rpZ).pos,.slice A9 ((shrX c p qs).getD rpZ).old.length e9,.slice B9 ((shrX c p qs).getD rpZ).new.length f9],.bool (shrX c p qs).isSome]∧Own w w0.heap.size 115 3 encG A9 e9 ((shrX c p qs).getD rpZ).old∧Own w w0.heap.size 115 3 encG B9 f9 ((shrX c p qs).getD rpZ).new∧Apart A9 B9∧Below w0.heap.size w0 w):=by
 obtain ⟨rr,cO⟩ : ∃ rr,rr=(runX c p qs).getD []:=⟨_,rfl⟩
 obtain ⟨ro,bK⟩ : ∃ ro:Bool,ro=(runX c p qs).isSome:=⟨_,rfl⟩
 have eY:c.gs.length≤400:=(X14 N).2.1
 refine enter Tryz.func47 rfl 75 rfl rfl ?_;intro a y
 have t:=bz w0
 refine Zs y fun _ eJ=>?_;refine Zf (X0i (zs:=[vi c.n,.slice Ac c.gs.length cc]) rfl rfl) ?_;rintro _ w1 ⟨b4,rfl,eK,d,m⟩;have f0:=Nat.le_trans t.size eK;have e:=e.below d;have b:=b.below d;have t:=btr t d;refine Zf (X9 (zs:=[vi 0,.slice none 0 0,.slice none 0 0]) X33 rfl) ?_;rintro _ w2 ⟨b7,rfl,eL,d,f⟩;have aC:=Nat.le_trans t.size eL;have m:=m.below d;have e:=e.below d;have b:=b.below d;have t:=btr t d;refine Za rfl<|Zx eJ fun a y _ eM=>?_;refine Ze (Vn X1r m)<|Zm rfl<|Zm rfl<|Zf (X22 (vs:=[.agg #[vi c.n,.slice Ac c.gs.length cc],vi p,.slice Aqs qs.length cqs]) rfl Xo7 (by have hq:=Xu8 w2 c Ac cc e.top p Aqs cqs qs b.top N bG;rw [← cO,← bK] at hq;exact hq)) ?_;rintro _ w3 ⟨A9,c9,rfl,o,d⟩;have o:=o.lower t.size;have m:=m.below d;have f:=f.below d;have e:=e.below d;have b:=b.below d;have t:=btr t d;refine Zm rfl<|Ze (X3 (vs:=[.slice A9 rr.length c9,.bool ro]) rfl rfl)<|Ze (X3 (vs:=[.slice A9 rr.length c9,.bool ro]) rfl rfl)<|Za rfl<|Za rfl ?_;refine ZX eM fun a y _ cP=>?_;refine Zs y fun _ cQ=>?_;refine Zm rfl<|Ze (X0y rfl)<|Zt cQ fun a y=>?_
 refine Xl y rfl (fun aJ=>?_) (fun aJ=>?_)
 ·have bL:=aJ
  have D:shrX c p qs=none:=by unfold shrX;rw [Xix (by rw [← bK];exact bn1 aJ)];rfl
  refine Zs y fun _ cR=>?_;refine Ze (Xg (ps:=[]) (cs:=[vi 0,.slice none 0 0,.slice none 0 0]) rfl (fun _=>by first|rfl|kernel_rfl))<|Zo (Vw [vi 0,.slice none 0 0,.slice none 0 0] X17 f) ?_;rintro _ w4 ⟨E,hb⟩;have z:=f;have t:=Below.only t E aC;have f:=hb;refine Za rfl<|Zt cR fun a y=>?_;refine wp_ret<|X4<|X2 y (X0w y rfl (ResV.cellN (l:=[vi 0,.slice none 0 0,.slice none 0 0]) rfl X1i (f.at 0) rfl) rfl) ?_
  rw [D]
  exact ⟨none,0,none,0,rfl,(Own.nil _ _ _ _ _),(Own.nil _ _ _ _ _),(Apart.none_l _),t⟩
 have bL:=aJ
 obtain ⟨aO,cS⟩:=Xpq (c:=c) (p:=p) (qs:=qs) (by rw [← bK];exact bn2 aJ)
 have aK:rr=runL c p qs:=by rw [cO,cS];rfl
 have f5:rr.length≤6:=by rw [aK];exact X6w ..
 have f6:1≤rr.length:=by rw [aK];exact X7j aO
 obtain ⟨aB,eN,f8⟩:=X7h N aO
 have cT:∀ i ∈ rr,∃ j:Nat,i=(j:Int)∧j<c.gs.length:=fun i hi=>by rw [aK] at hi;obtain ⟨j,h1,h2,_⟩:=X5q aO i hi;exact ⟨j,h1,h2⟩
 have f7:=X2t c rr
 have eO:∀ g ∈ gatL c rr,GoodG qs c.n g∧insB g qs=true:=fun g hg=>X65 N aO g (by rw [← aK];exact hg)
 obtain ⟨cU,eP,A,G,fA,cV,fB,fC,cW⟩:=Xk1 N aO
 rw [← aK] at cU eP G
 have aW:shrX c p qs=plX c p qs rr:=by unfold shrX;rw [cS,aK];rfl
 have bH:tcN (xC c rr qs).gs=tcN (gatL c rr):=Xkg qs (gatL c rr)
 refine wp_skip<|cP _ _<|Zs y fun _ cX=>?_;refine Ze (Vn X1r m)<|Zm rfl<|Zm rfl<|Zf (Vc (Xw6 _ c Ac cc e.top A9 c9 rr o.rd.top Aqs cqs qs b.top N (by omega) cT eO eN bG) Xnp) ?_;rintro _ w5 ⟨aH,aI,rfl,k,d⟩;have k:=k.lower t.size;have m:=m.below d;have f:=f.below d;have e:=e.below d;have b:=b.below d;have o:=o.below d;have t:=btr t d;refine Zf (X9 (zs:=[vi 0,.slice none 0 0]) Xi5 rfl) ?_;rintro _ w6 ⟨b19,rfl,cY,d,q⟩
 have d5:b4≠b19:=by have:=m.lt;omega
 have bM:=Nat.le_trans t.size cY;have m:=m.below d;have f:=f.below d;have e:=e.below d;have b:=b.below d;have o:=o.below d;have k:=k.below d;have t:=btr t d;refine Zo (Vw [vi ((xC c rr qs).n),.slice aH ((xC c rr qs).gs).length aI] Xcc q) ?_;rintro _ w7 ⟨E,hb⟩;have z:=q;have m:=m.only E (by omega);have f:=f.only E (Blk.ne f z rfl);have e:=e.onlyT E z rfl;have b:=b.onlyT E z rfl;have o:=o.onlyT E z rfl;have k:=k.onlyT E z rfl;have t:=Below.only t E bM;have q:=hb;refine Zx cX fun a y _ d6=>?_;refine Ze (Vn X1r q)<|Zf (X22 (vs:=[.agg #[vi ((xC c rr qs).n),.slice aH ((xC c rr qs).gs).length aI]]) rfl Xpw (by have hq:=Xuf w7 (xC c rr qs) aH aI k.rd.top cU A G;rw [G,Option.getD_some] at hq;exact hq)) ?_;rintro _ w8 ⟨aP,b6,rfl,x,d⟩;have m:=m.below d;have f:=f.below d;have q:=q.below d;have e:=e.below d;have b:=b.below d;have o:=o.below d;have k:=k.below d;have t:=btr t d;refine Zf (X9 (zs:=[vi 0,vi 0,.slice none 0 0]) X1m rfl) ?_;rintro _ w9 ⟨bI,rfl,d7,d,u⟩;have bN:=Nat.le_trans t.size d7;have m:=m.below d;have f:=f.below d;have q:=q.below d;have e:=e.below d;have b:=b.below d;have o:=o.below d;have k:=k.below d;have x:=x.below d;have t:=btr t d;refine Zo (Vw [vi A.rows,vi A.cols,.slice aP A.cells.length b6] X11 u) ?_;rintro _ fD ⟨E,hb⟩;have z:=u;have m:=m.only E (Blk.ne m z rfl);have f:=f.only E (Blk.ne f z rfl);have q:=q.only E (Blk.ne q z rfl)
 have e:=e.onlyT E z rfl;have b:=b.onlyT E z rfl;have o:=o.onlyT E z rfl;have k:=k.onlyT E z rfl;have x:=x.onlyT E z rfl;have t:=Below.only t E bN;have u:=hb;refine Zx d6 fun a y _ d8=>?_;refine Zm rfl<|Ze (X0x rfl X09)<|Ze (X1h rfl rfl (by omega) (by omega))<|Za rfl<|ZX d8 fun a y _ bJ=>?_;refine Zs y fun _ d9=>?_;refine Zm rfl<|Ze (X0x rfl X09)<|Ze (X15 rfl rfl)<|Zt d9 fun a y=>?_
 refine Xl y rfl (fun aL=>?_) (fun aL=>?_)
 ·have bO:=aL
  have eQ:qs.length=2:=by have h9:(qs.length:Int)=2:=(by simpa using aL);omega
  have b8:KN qs.length=3:=by rw [eQ];rfl
  refine Zr y<|Zm rfl<|Zf (Vc (Xvk _ ((rr.length:Int)-1) 3) Xpv) ?_;rintro _ fE ⟨rfl,d⟩;have m:=m.below d;have f:=f.below d;have q:=q.below d;have u:=u.below d;have e:=e.below d;have b:=b.below d;have o:=o.below d;have k:=k.below d;have x:=x.below d;have t:=btr t d;refine Za rfl<|ZX bJ fun a y _ dA=>?_;refine Zs y fun _ dB=>?_;refine Za rfl<|Zt dB fun a y=>?_;refine wp_block<|X0d (σ:=Nat) (fun (j:Nat) (a:Act) (w:World)=>Fr a 75 [(2,.slice Aqs qs.length cqs),(3,.pointer (some ⟨b4,0,none⟩)),(6,.pointer (some ⟨b7,0,none⟩)),(8,.slice A9 rr.length c9),(10,.pointer (some ⟨b19,0,none⟩)),(11,.pointer (some ⟨bI,0,none⟩)),(12,vi (min ((rr.length:Int)-1) 3)),(13,vi (j:Int))]∧(j≤7)∧(∀ i,i<j→fdS qs.length A i (unitS (2^qs.length))=none)∧Blk w b4 28 [vi c.n,.slice Ac c.gs.length cc]∧Blk w b7 46 [vi 0,.slice none 0 0,.slice none 0 0]∧Blk w b19 28 [vi ((xC c rr qs).n),.slice aH ((xC c rr qs).gs).length aI]∧Blk w bI 33 [vi A.rows,vi A.cols,.slice aP A.cells.length b6]∧Rd w w0.heap.size 115 encG Ac c.gs∧Rd w w0.heap.size 3 encI Aqs qs∧Own w w0.heap.size 3 1 encI A9 c9 rr∧Own w w0.heap.size 115 3 encG aH aI ((xC c rr qs).gs)∧Rd w w8.heap.size 95 encD aP A.cells∧c.gs.length≤cc∧Below w0.heap.size w0 w) (fun (j:Nat)=>8-j) 0 ?_ ?_
  ·exact ⟨y.sb,(by omega),(fun i hi=>absurd hi (by omega)),m,f,q,u,e,b,o,k,x,M,t⟩
  rintro j a fF ⟨y,eR,aQ,m,f,q,u,e,b,o,k,x,M,t⟩;refine wp_seq_k fun _ dC=>?_;refine Zs y fun _ dD=>?_;refine Zm rfl<|Zm rfl<|Ze (Xc5 rfl rfl)<|Zt dD fun a y=>?_
  refine Xl y rfl (fun H=>?_) (fun H=>?_)
  ·have bP:=H;have H:=of_decide_eq_true H;have bQ:=H
   have bR:j≤KN qs.length:=by rw [b8];omega
   have eS:j<rr.length:=by omega
   refine wp_skip<|dC _ _<|wp_seq_k fun _ dE=>?_;refine wp_block<|wp_seq_k fun _ dF=>?_;refine X0f none (fun _=>false) mixed ?_;intro fG d;have m:=m.below d;have f:=f.below d;have q:=q.below d;have u:=u.below d;have e:=e.below d;have b:=b.below d;have o:=o.below d;have k:=k.below d;have x:=x.below d;have t:=btr t d;refine Yb y<|Yo 0 rfl (fun _=>Xa rfl)<|Yo 1 rfl (fun _=>X0x rfl X09)<|Yo 2 rfl (fun _=>Vd rfl X1v 0)<|Ye 3 rfl (Vx (X0 rfl X7 (u.at 0)) cV)<|Ye 5 rfl (Vn X0e u) ?_;refine Yo 6 rfl (fun _=>Xa rfl)<|Y1 4 ?_;refine Yk rfl trivial (Vc (Xqs _ (2^qs.length:Nat) (by rcases aB with h|h<;>rw [h]<;>decide)) Xep) (fun _ _ ⟨dG,dH,_,aT,d⟩=>d) ?_;rintro _ fH ⟨dG,dH,rfl,aT,d⟩;have aT:=aT.lower t.size;have m:=m.below d;have f:=f.below d;have q:=q.below d;have u:=u.below d;have e:=e.below d;have b:=b.below d;have o:=o.below d;have k:=k.below d;have x:=x.below d;have t:=btr t d;refine Y1 7<|Yk rfl trivial (Vc (Xpz _ qs.length (unitS (2^qs.length:Nat)) dG dH aT.rd.top A aP b6 x.top j aB [] 0 (by omega) (List.mem_singleton.2 rfl) (X5u _ aB).symm cW) Xbj) (fun _ _ ⟨b9,bC,_,B,d⟩=>d) ?_;rintro _ fI ⟨b9,bC,rfl,B,d⟩;have cB:=k.apart B (Nat.le_refl _);have B:=B.lower t.size;have m:=m.below d;have f:=f.below d;have q:=q.below d;have u:=u.below d;have e:=e.below d;have b:=b.below d;have o:=o.below d;have k:=k.below d;have x:=x.below d;have t:=btr t d;refine Yo 8 rfl (fun _=>Xa rfl)<|Yo 9 rfl (fun _=>X3 (vs:=[.slice b9 ((fdS qs.length A j (unitS (2^qs.length:Nat))).getD []).length bC,.bool ((fdS qs.length A j (unitS (2^qs.length:Nat))).isSome)]) rfl rfl)<|Yo 10 rfl (fun _=>X3 (vs:=[.slice b9 ((fdS qs.length A j (unitS (2^qs.length:Nat))).getD []).length bC,.bool ((fdS qs.length A j (unitS (2^qs.length:Nat))).isSome)]) rfl rfl)<|Yo 11 rfl (fun _=>X19 rfl)<|Yo 12 rfl (fun _=>X19 rfl) ?_
   refine Yd fun a y=>?_;refine dF _ _<|wp_seq_k fun _ dI=>?_;refine Zs y fun _ dJ=>?_;refine Zm rfl<|Ze (X0y rfl)<|Zt dJ fun a y=>?_
   refine Xl y rfl (fun aM=>?_) (fun aM=>?_)
   ·have bS:=aM
    have bU:(fdS qs.length A j (unitS (2^qs.length))).isSome=false:=bn1 aM
    refine wp_exit<|Xq<|X0b<|dE _ _ ?_;refine Zr y<|Zm rfl<|Ze (X06 rfl rfl (by omega) (by omega))<|Za rfl ?_;refine Zn fun a y=>?_;refine Xs ?_;exact ⟨j+1,⟨y.sb,(by omega),(X9o aQ bU),m,f,q,u,e,b,o,k,x,M,t⟩,(by omega)⟩
   have bS:=aM
   have bW:(fdS qs.length A j (unitS (2^qs.length))).isSome=true:=by simpa using aM
   obtain ⟨aR,eT⟩:=Xdi aB bR aQ bW;have bD:=X4n aR;have bX:=Xav aB bD.2;have eU:=bD.1;have eW:=X8w qs.length;refine wp_skip<|dI _ _<|wp_seq_k fun _ dK=>?_;refine wp_seq_k fun _ dL=>?_;refine X0f none (fun _=>false) mixed ?_;intro fJ d;have m:=m.below d;have f:=f.below d;have q:=q.below d;have e:=e.below d;have b:=b.below d;have o:=o.below d;have k:=k.below d;have B:=B.below d;have t:=btr t d;refine Yb y<|Yo 0 rfl (fun _=>Xa rfl)<|Yo 2 rfl (fun _=>Vd rfl X0z 1)<|Ye 3 rfl (X0 rfl X16 (q.at 1))<|Y1 1 ?_;refine Yk rfl trivial (Vc (Xg0 _ b9 bC ((fdS qs.length A j (unitS (2^qs.length:Nat))).getD []) B.rd.top (by omega)) X7t) (fun _ _ ⟨_,d⟩=>d) ?_;rintro _ fK ⟨rfl,d⟩;have m:=m.below d;have f:=f.below d;have e:=e.below d;have b:=b.below d;have o:=o.below d;have k:=k.below d;have B:=B.below d;have t:=btr t d;refine Y1 4<|Yk rfl trivial (Vc (Xg0 _ aH aI ((xC c rr qs).gs) k.rd.top (by show ((gatL c rr).map (smallG qs)).length≤_;rw [List.length_map];omega)) X7t) (fun _ _ ⟨_,d⟩=>d) ?_;rintro _ fL ⟨rfl,d⟩;have m:=m.below d;have f:=f.below d;have e:=e.below d;have b:=b.below d;have o:=o.below d;have B:=B.below d;have t:=btr t d;refine Yo 5 rfl (fun _=>X2u rfl rfl) ?_;refine Yd fun a y=>?_;refine dL _ _ ?_
   refine Xl y rfl (fun I=>?_) (fun I=>?_)
   ·have bY:=I;have I:=of_decide_eq_true I;have aS:=I
    rw [bH] at aS
    have D:shrX c p qs=none:=by
     rw [aW]
     refine X52 G fun w9 h9 h8=>?_
     rw [aR] at h9
     injection h9 with h9
     subst h9
     omega
    refine Zs y fun _ dM=>?_;refine Ze (Xg (ps:=[]) (cs:=[vi 0,.slice none 0 0,.slice none 0 0]) rfl (fun _=>by first|rfl|kernel_rfl))<|Zo (Vw [vi 0,.slice none 0 0,.slice none 0 0] X17 f) ?_;rintro _ fM ⟨E,hb⟩;have z:=f;have t:=Below.only t E aC;have f:=hb;refine Za rfl<|Zt dM fun a y=>?_;refine wp_ret<|X4<|Xy<|X4 ?_;refine X4<|Xy<|X4<|X2 y (X0w y rfl (ResV.cellN (l:=[vi 0,.slice none 0 0,.slice none 0 0]) rfl X1i (f.at 0) rfl) rfl) ?_
    rw [D]
    exact ⟨none,0,none,0,rfl,(Own.nil _ _ _ _ _),(Own.nil _ _ _ _ _),(Apart.none_l _),t⟩
   have bY:=I;have I:=of_decide_eq_false I;have aS:=I
   rw [bH] at aS
   have D:shrX c p qs=repX c p rr qs (mapI ((fdS qs.length A j (unitS (2^qs.length))).getD []) qs):=by
    rw [aW]
    exact X7p G aR ⟨by omega,by omega⟩
   refine wp_skip<|dK _ _<|wp_seq_k fun _ dN=>?_;refine X0f none (fun j=>[9].contains j) mixed ?_;intro fN d;have m:=m.below d;have f:=f.below d;have e:=e.below d;have b:=b.below d;have o:=o.below d;have B:=B.below d;have t:=btr t d;refine Yb y<|Ye 0 rfl (Vn X1r m)<|Yo 1 rfl (fun _=>Xa rfl)<|Yo 2 rfl (fun _=>Xa rfl)<|Yo 3 rfl (fun _=>Xa rfl)<|Yo 4 rfl (fun _=>Xa rfl) ?_;refine Y1 5<|Yk rfl trivial (Vc (Xqj _ b9 bC ((fdS qs.length A j (unitS (2^qs.length:Nat))).getD []) B.rd.top Aqs cqs qs b.top qs.length bX rfl (by omega)) Xh0) (fun _ _ ⟨dO,dP,_,aD,d⟩=>d) ?_;rintro _ fO ⟨dO,dP,rfl,aD,d⟩;have cC:=B.apart aD (Nat.le_refl _);have aD:=aD.lower t.size;have f:=f.below d;have e:=e.below d;have b:=b.below d;have o:=o.below d;have B:=B.below d;have t:=btr t d;refine Y1 6<|Yk rfl trivial (Vc (Xqc _ c Ac cc e.top M A9 c9 rr o.rd.top Aqs cqs qs b.top dO dP (mapI ((fdS qs.length A j (unitS (2^qs.length:Nat))).getD []) qs) aD.rd.top p N aO aK (by unfold mapI;rw [List.length_map];omega) bG) Xft) (fun _ _ ⟨aX,aY,aZ,b0,_,Q,U,aF,d⟩=>d) ?_;rintro _ fP ⟨aX,aY,aZ,b0,rfl,Q,U,aF,d⟩;have cD:=B.apart Q (Nat.le_refl _);have cE:=aD.apart Q (Nat.le_refl _);have Q:=Q.lower t.size;have cF:=B.apart U (Nat.le_refl _);have cG:=aD.apart U (Nat.le_refl _);have U:=U.lower t.size;have f:=f.below d;have t:=btr t d;refine Yo 7 rfl (fun _=>X3 (vs:=[.agg #[vi (((repX c p rr qs (mapI ((fdS qs.length A j (unitS (2^qs.length:Nat))).getD []) qs)).getD rpZ).pos),.slice aX (((repX c p rr qs (mapI ((fdS qs.length A j (unitS (2^qs.length:Nat))).getD []) qs)).getD rpZ).old).length aY,.slice aZ (((repX c p rr qs (mapI ((fdS qs.length A j (unitS (2^qs.length:Nat))).getD []) qs)).getD rpZ).new).length b0],.bool ((repX c p rr qs (mapI ((fdS qs.length A j (unitS (2^qs.length:Nat))).getD []) qs)).isSome)]) rfl rfl)<|Yo 8 rfl (fun _=>X3 (vs:=[.agg #[vi (((repX c p rr qs (mapI ((fdS qs.length A j (unitS (2^qs.length:Nat))).getD []) qs)).getD rpZ).pos),.slice aX (((repX c p rr qs (mapI ((fdS qs.length A j (unitS (2^qs.length:Nat))).getD []) qs)).getD rpZ).old).length aY,.slice aZ (((repX c p rr qs (mapI ((fdS qs.length A j (unitS (2^qs.length:Nat))).getD []) qs)).getD rpZ).new).length b0],.bool ((repX c p rr qs (mapI ((fdS qs.length A j (unitS (2^qs.length:Nat))).getD []) qs)).isSome)]) rfl rfl)<|Y1 9 ?_
   refine Yh rfl trivial rfl (Vw [vi (((repX c p rr qs (mapI ((fdS qs.length A j (unitS (2^qs.length:Nat))).getD []) qs)).getD rpZ).pos),.slice aX (((repX c p rr qs (mapI ((fdS qs.length A j (unitS (2^qs.length:Nat))).getD []) qs)).getD rpZ).old).length aY,.slice aZ (((repX c p rr qs (mapI ((fdS qs.length A j (unitS (2^qs.length:Nat))).getD []) qs)).getD rpZ).new).length b0] X17 f) ?_;rintro _ fQ ⟨E,hb⟩;have z:=f;have Q:=Q.onlyT E z rfl;have U:=U.onlyT E z rfl;have t:=Below.only t E aC;have f:=hb;refine Yo 10 rfl (fun _=>X19 rfl) ?_;refine Yd fun a y=>?_;refine dN _ _<|wp_ret<|Xy<|X4 ?_;refine X4<|Xy<|X4<|X2 y (X0w y rfl (ResV.cellN (l:=[vi (((repX c p rr qs (mapI ((fdS qs.length A j (unitS (2^qs.length:Nat))).getD []) qs)).getD rpZ).pos),.slice aX (((repX c p rr qs (mapI ((fdS qs.length A j (unitS (2^qs.length:Nat))).getD []) qs)).getD rpZ).old).length aY,.slice aZ (((repX c p rr qs (mapI ((fdS qs.length A j (unitS (2^qs.length:Nat))).getD []) qs)).getD rpZ).new).length b0]) rfl X1i (f.at 0) rfl) rfl) ?_
   rw [D]
   exact ⟨aX,aY,aZ,b0,rfl,Q,U,aF,t⟩
  have bP:=H;have H:=of_decide_eq_false H;have bQ:=H
  have D:shrX c p qs=none:=by
   rw [aW]
   refine X52 G fun w9 h9 h8=>?_;have h7:=Xj7 aB aQ w9 h9;have h6:=(X4n h9).1
   rw [b8] at h6
   omega
  refine wp_exit<|Xq<|Xq<|X0b ?_;refine dA _ _<|Zs y fun _ dQ=>?_;refine Ze (Xg (ps:=[]) (cs:=[vi 0,.slice none 0 0,.slice none 0 0]) rfl (fun _=>by first|rfl|kernel_rfl))<|Zo (Vw [vi 0,.slice none 0 0,.slice none 0 0] X17 f) ?_;rintro _ fR ⟨E,hb⟩;have z:=f;have t:=Below.only t E aC;have f:=hb;refine Za rfl<|Zt dQ fun a y=>?_
  refine wp_ret (X2 y (X0w y rfl (ResV.cellN (l:=[vi 0,.slice none 0 0,.slice none 0 0]) rfl X1i (f.at 0) rfl) rfl) ?_)
  rw [D]
  exact ⟨none,0,none,0,rfl,(Own.nil _ _ _ _ _),(Own.nil _ _ _ _ _),(Apart.none_l _),t⟩
 have bO:=aL
 have eX:qs.length=1:=by have h9:¬ (qs.length:Int)=2:=(by simpa using aL);omega
 have b8:KN qs.length=5:=by rw [eX];rfl
 refine wp_skip<|bJ _ _<|wp_seq_k fun _ dR=>?_;refine Zs y fun _ dS=>?_;refine Za rfl<|Zt dS fun a y=>?_;refine wp_block<|X0d (σ:=Nat) (fun (j:Nat) (a:Act) (w:World)=>Fr a 75 [(2,.slice Aqs qs.length cqs),(3,.pointer (some ⟨b4,0,none⟩)),(6,.pointer (some ⟨b7,0,none⟩)),(8,.slice A9 rr.length c9),(10,.pointer (some ⟨b19,0,none⟩)),(11,.pointer (some ⟨bI,0,none⟩)),(12,vi ((rr.length:Int)-1)),(13,vi (j:Int))]∧(j≤7)∧(∀ i,i<j→fdS qs.length A i (unitS (2^qs.length))=none)∧Blk w b4 28 [vi c.n,.slice Ac c.gs.length cc]∧Blk w b7 46 [vi 0,.slice none 0 0,.slice none 0 0]∧Blk w b19 28 [vi ((xC c rr qs).n),.slice aH ((xC c rr qs).gs).length aI]∧Blk w bI 33 [vi A.rows,vi A.cols,.slice aP A.cells.length b6]∧Rd w w0.heap.size 115 encG Ac c.gs∧Rd w w0.heap.size 3 encI Aqs qs∧Own w w0.heap.size 3 1 encI A9 c9 rr∧Own w w0.heap.size 115 3 encG aH aI ((xC c rr qs).gs)∧Rd w w8.heap.size 95 encD aP A.cells∧c.gs.length≤cc∧Below w0.heap.size w0 w) (fun (j:Nat)=>8-j) 0 ?_ ?_
 ·exact ⟨y.sb,(by omega),(fun i hi=>absurd hi (by omega)),m,f,q,u,e,b,o,k,x,M,t⟩
 rintro j a fS ⟨y,eR,aQ,m,f,q,u,e,b,o,k,x,M,t⟩;refine wp_seq_k fun _ dT=>?_;refine Zs y fun _ dU=>?_;refine Zm rfl<|Zm rfl<|Ze (Xc5 rfl rfl)<|Zt dU fun a y=>?_
 refine Xl y rfl (fun J=>?_) (fun J=>?_)
 ·have bZ:=J;have J:=of_decide_eq_true J;have bQ:=J
  have bR:j≤KN qs.length:=by rw [b8];omega
  have eS:j<rr.length:=by omega
  refine wp_skip<|dT _ _<|wp_seq_k fun _ dW=>?_;refine wp_block<|wp_seq_k fun _ dX=>?_;refine X0f none (fun _=>false) mixed ?_;intro fT d;have m:=m.below d;have f:=f.below d;have q:=q.below d;have u:=u.below d;have e:=e.below d;have b:=b.below d;have o:=o.below d;have k:=k.below d;have x:=x.below d;have t:=btr t d;refine Yb y<|Yo 0 rfl (fun _=>Xa rfl)<|Yo 1 rfl (fun _=>X0x rfl X09)<|Yo 2 rfl (fun _=>Vd rfl X1v 0)<|Ye 3 rfl (Vx (X0 rfl X7 (u.at 0)) cV)<|Ye 5 rfl (Vn X0e u) ?_;refine Yo 6 rfl (fun _=>Xa rfl)<|Y1 4 ?_;refine Yk rfl trivial (Vc (Xqs _ (2^qs.length:Nat) (by rcases aB with h|h<;>rw [h]<;>decide)) Xep) (fun _ _ ⟨dY,e8,_,aU,d⟩=>d) ?_;rintro _ fU ⟨dY,e8,rfl,aU,d⟩;have aU:=aU.lower t.size;have m:=m.below d;have f:=f.below d;have q:=q.below d;have u:=u.below d;have e:=e.below d;have b:=b.below d;have o:=o.below d;have k:=k.below d;have x:=x.below d;have t:=btr t d;refine Y1 7<|Yk rfl trivial (Vc (Xpz _ qs.length (unitS (2^qs.length:Nat)) dY e8 aU.rd.top A aP b6 x.top j aB [] 0 (by omega) (List.mem_singleton.2 rfl) (X5u _ aB).symm cW) Xbj) (fun _ _ ⟨bE,bF,_,C,d⟩=>d) ?_;rintro _ fV ⟨bE,bF,rfl,C,d⟩;have cH:=k.apart C (Nat.le_refl _);have C:=C.lower t.size;have m:=m.below d;have f:=f.below d;have q:=q.below d;have u:=u.below d;have e:=e.below d;have b:=b.below d;have o:=o.below d;have k:=k.below d;have x:=x.below d;have t:=btr t d;refine Yo 8 rfl (fun _=>Xa rfl)<|Yo 9 rfl (fun _=>X3 (vs:=[.slice bE ((fdS qs.length A j (unitS (2^qs.length:Nat))).getD []).length bF,.bool ((fdS qs.length A j (unitS (2^qs.length:Nat))).isSome)]) rfl rfl)<|Yo 10 rfl (fun _=>X3 (vs:=[.slice bE ((fdS qs.length A j (unitS (2^qs.length:Nat))).getD []).length bF,.bool ((fdS qs.length A j (unitS (2^qs.length:Nat))).isSome)]) rfl rfl)<|Yo 11 rfl (fun _=>X19 rfl)<|Yo 12 rfl (fun _=>X19 rfl) ?_
  refine Yd fun a y=>?_;refine dX _ _<|wp_seq_k fun _ eA=>?_;refine Zs y fun _ eB=>?_;refine Zm rfl<|Ze (X0y rfl)<|Zt eB fun a y=>?_
  refine Xl y rfl (fun aN=>?_) (fun aN=>?_)
  ·have c4:=aN
   have bU:(fdS qs.length A j (unitS (2^qs.length))).isSome=false:=bn1 aN
   refine wp_exit<|Xq<|X0b<|dW _ _ ?_;refine Zr y<|Zm rfl<|Ze (X06 rfl rfl (by omega) (by omega))<|Za rfl ?_;refine Zn fun a y=>?_;refine Xs ?_;exact ⟨j+1,⟨y.sb,(by omega),(X9o aQ bU),m,f,q,u,e,b,o,k,x,M,t⟩,(by omega)⟩
  have c4:=aN
  have bW:(fdS qs.length A j (unitS (2^qs.length))).isSome=true:=by simpa using aN
  obtain ⟨aR,eT⟩:=Xdi aB bR aQ bW;have bD:=X4n aR;have bX:=Xav aB bD.2;have eU:=bD.1;have eW:=X8w qs.length;refine wp_skip<|eA _ _<|wp_seq_k fun _ eC=>?_;refine wp_seq_k fun _ eD=>?_;refine X0f none (fun _=>false) mixed ?_;intro fW d;have m:=m.below d;have f:=f.below d;have q:=q.below d;have e:=e.below d;have b:=b.below d;have o:=o.below d;have k:=k.below d;have C:=C.below d;have t:=btr t d;refine Yb y<|Yo 0 rfl (fun _=>Xa rfl)<|Yo 2 rfl (fun _=>Vd rfl X0z 1)<|Ye 3 rfl (X0 rfl X16 (q.at 1))<|Y1 1 ?_;refine Yk rfl trivial (Vc (Xg0 _ bE bF ((fdS qs.length A j (unitS (2^qs.length:Nat))).getD []) C.rd.top (by omega)) X7t) (fun _ _ ⟨_,d⟩=>d) ?_;rintro _ fX ⟨rfl,d⟩;have m:=m.below d;have f:=f.below d;have e:=e.below d;have b:=b.below d;have o:=o.below d;have k:=k.below d;have C:=C.below d;have t:=btr t d;refine Y1 4<|Yk rfl trivial (Vc (Xg0 _ aH aI ((xC c rr qs).gs) k.rd.top (by show ((gatL c rr).map (smallG qs)).length≤_;rw [List.length_map];omega)) X7t) (fun _ _ ⟨_,d⟩=>d) ?_;rintro _ fY ⟨rfl,d⟩;have m:=m.below d;have f:=f.below d;have e:=e.below d;have b:=b.below d;have o:=o.below d;have C:=C.below d;have t:=btr t d;refine Yo 5 rfl (fun _=>X2u rfl rfl) ?_;refine Yd fun a y=>?_;refine eD _ _ ?_
  refine Xl y rfl (fun L=>?_) (fun L=>?_)
  ·have cA:=L;have L:=of_decide_eq_true L;have aS:=L
   rw [bH] at aS
   have D:shrX c p qs=none:=by
    rw [aW]
    refine X52 G fun w9 h9 h8=>?_
    rw [aR] at h9
    injection h9 with h9
    subst h9
    omega
   refine Zs y fun _ eE=>?_;refine Ze (Xg (ps:=[]) (cs:=[vi 0,.slice none 0 0,.slice none 0 0]) rfl (fun _=>by first|rfl|kernel_rfl))<|Zo (Vw [vi 0,.slice none 0 0,.slice none 0 0] X17 f) ?_;rintro _ fZ ⟨E,hb⟩;have z:=f;have t:=Below.only t E aC;have f:=hb;refine Za rfl<|Zt eE fun a y=>?_;refine wp_ret<|X4<|Xy<|X4 ?_;refine X4<|Xy<|X4<|X2 y (X0w y rfl (ResV.cellN (l:=[vi 0,.slice none 0 0,.slice none 0 0]) rfl X1i (f.at 0) rfl) rfl) ?_
   rw [D]
   exact ⟨none,0,none,0,rfl,(Own.nil _ _ _ _ _),(Own.nil _ _ _ _ _),(Apart.none_l _),t⟩
  have cA:=L;have L:=of_decide_eq_false L;have aS:=L
  rw [bH] at aS
  have D:shrX c p qs=repX c p rr qs (mapI ((fdS qs.length A j (unitS (2^qs.length))).getD []) qs):=by
   rw [aW]
   exact X7p G aR ⟨by omega,by omega⟩
  refine wp_skip<|eC _ _<|wp_seq_k fun _ eF=>?_;refine X0f none (fun j=>[9].contains j) mixed ?_;intro g4 d;have m:=m.below d;have f:=f.below d;have e:=e.below d;have b:=b.below d;have o:=o.below d;have C:=C.below d;have t:=btr t d;refine Yb y<|Ye 0 rfl (Vn X1r m)<|Yo 1 rfl (fun _=>Xa rfl)<|Yo 2 rfl (fun _=>Xa rfl)<|Yo 3 rfl (fun _=>Xa rfl)<|Yo 4 rfl (fun _=>Xa rfl) ?_;refine Y1 5<|Yk rfl trivial (Vc (Xqj _ bE bF ((fdS qs.length A j (unitS (2^qs.length:Nat))).getD []) C.rd.top Aqs cqs qs b.top qs.length bX rfl (by omega)) Xh0) (fun _ _ ⟨eG,eH,_,aE,d⟩=>d) ?_;rintro _ g5 ⟨eG,eH,rfl,aE,d⟩;have cJ:=C.apart aE (Nat.le_refl _);have aE:=aE.lower t.size;have f:=f.below d;have e:=e.below d;have b:=b.below d;have o:=o.below d;have C:=C.below d;have t:=btr t d;refine Y1 6<|Yk rfl trivial (Vc (Xqc _ c Ac cc e.top M A9 c9 rr o.rd.top Aqs cqs qs b.top eG eH (mapI ((fdS qs.length A j (unitS (2^qs.length:Nat))).getD []) qs) aE.rd.top p N aO aK (by unfold mapI;rw [List.length_map];omega) bG) Xft) (fun _ _ ⟨b1,b2,b3,b5,_,W,aA,aG,d⟩=>d) ?_;rintro _ g6 ⟨b1,b2,b3,b5,rfl,W,aA,aG,d⟩;have cK:=C.apart W (Nat.le_refl _);have cL:=aE.apart W (Nat.le_refl _);have W:=W.lower t.size;have cM:=C.apart aA (Nat.le_refl _);have cN:=aE.apart aA (Nat.le_refl _);have aA:=aA.lower t.size;have f:=f.below d;have t:=btr t d;refine Yo 7 rfl (fun _=>X3 (vs:=[.agg #[vi (((repX c p rr qs (mapI ((fdS qs.length A j (unitS (2^qs.length:Nat))).getD []) qs)).getD rpZ).pos),.slice b1 (((repX c p rr qs (mapI ((fdS qs.length A j (unitS (2^qs.length:Nat))).getD []) qs)).getD rpZ).old).length b2,.slice b3 (((repX c p rr qs (mapI ((fdS qs.length A j (unitS (2^qs.length:Nat))).getD []) qs)).getD rpZ).new).length b5],.bool ((repX c p rr qs (mapI ((fdS qs.length A j (unitS (2^qs.length:Nat))).getD []) qs)).isSome)]) rfl rfl)<|Yo 8 rfl (fun _=>X3 (vs:=[.agg #[vi (((repX c p rr qs (mapI ((fdS qs.length A j (unitS (2^qs.length:Nat))).getD []) qs)).getD rpZ).pos),.slice b1 (((repX c p rr qs (mapI ((fdS qs.length A j (unitS (2^qs.length:Nat))).getD []) qs)).getD rpZ).old).length b2,.slice b3 (((repX c p rr qs (mapI ((fdS qs.length A j (unitS (2^qs.length:Nat))).getD []) qs)).getD rpZ).new).length b5],.bool ((repX c p rr qs (mapI ((fdS qs.length A j (unitS (2^qs.length:Nat))).getD []) qs)).isSome)]) rfl rfl)<|Y1 9 ?_
  refine Yh rfl trivial rfl (Vw [vi (((repX c p rr qs (mapI ((fdS qs.length A j (unitS (2^qs.length:Nat))).getD []) qs)).getD rpZ).pos),.slice b1 (((repX c p rr qs (mapI ((fdS qs.length A j (unitS (2^qs.length:Nat))).getD []) qs)).getD rpZ).old).length b2,.slice b3 (((repX c p rr qs (mapI ((fdS qs.length A j (unitS (2^qs.length:Nat))).getD []) qs)).getD rpZ).new).length b5] X17 f) ?_;rintro _ g7 ⟨E,hb⟩;have z:=f;have W:=W.onlyT E z rfl;have aA:=aA.onlyT E z rfl;have t:=Below.only t E aC;have f:=hb;refine Yo 10 rfl (fun _=>X19 rfl) ?_;refine Yd fun a y=>?_;refine eF _ _<|wp_ret<|Xy<|X4 ?_;refine X4<|Xy<|X4<|X2 y (X0w y rfl (ResV.cellN (l:=[vi (((repX c p rr qs (mapI ((fdS qs.length A j (unitS (2^qs.length:Nat))).getD []) qs)).getD rpZ).pos),.slice b1 (((repX c p rr qs (mapI ((fdS qs.length A j (unitS (2^qs.length:Nat))).getD []) qs)).getD rpZ).old).length b2,.slice b3 (((repX c p rr qs (mapI ((fdS qs.length A j (unitS (2^qs.length:Nat))).getD []) qs)).getD rpZ).new).length b5]) rfl X1i (f.at 0) rfl) rfl) ?_
  rw [D]
  exact ⟨b1,b2,b3,b5,rfl,W,aA,aG,t⟩
 have bZ:=J;have J:=of_decide_eq_false J;have bQ:=J
 have D:shrX c p qs=none:=by
  rw [aW]
  refine X52 G fun w9 h9 h8=>?_;have h7:=Xj7 aB aQ w9 h9;have h6:=(X4n h9).1
  rw [b8] at h6
  omega
 refine wp_exit<|Xq<|Xq<|X0b ?_;refine dR _ _<|Zs y fun _ eI=>?_;refine Ze (Xg (ps:=[]) (cs:=[vi 0,.slice none 0 0,.slice none 0 0]) rfl (fun _=>by first|rfl|kernel_rfl))<|Zo (Vw [vi 0,.slice none 0 0,.slice none 0 0] X17 f) ?_;rintro _ g8 ⟨E,hb⟩;have z:=f;have t:=Below.only t E aC;have f:=hb;refine Za rfl<|Zt eI fun a y=>?_
 refine wp_ret (X2 y (X0w y rfl (ResV.cellN (l:=[vi 0,.slice none 0 0,.slice none 0 0]) rfl X1i (f.at 0) rfl) rfl) ?_)
 rw [D]
 exact ⟨none,0,none,0,rfl,(Own.nil _ _ _ _ _),(Own.nil _ _ _ _ _),(Apart.none_l _),t⟩
theorem Xwb(z:World)(c:Cx)(Ac:Option Addr)(cc:Nat)(h:Rd z z.heap.size 115 encG Ac c.gs)(aC:c.gs.length≤cc)(p:Int)(Aqs:Option Addr)(cqs:Nat)(qs:List Int)(aA:Rd z z.heap.size 3 encI Aqs qs)(aM:c.gs.length≤1000000000)(aF:qs.length≤1048576) : Ret Tryz.prog 17 [.agg #[vi c.n,.slice Ac c.gs.length cc],vi p,.slice Aqs qs.length cqs] z (fun v w=>∃ A9 e9 B9 f9,v=.tuple #[.agg #[vi ((shrI c p qs).getD rpZ).pos,.slice A9 ((shrI c p qs).getD rpZ).old.length e9,.slice B9 ((shrI c p qs).getD rpZ).new.length f9],.bool (shrI c p qs).isSome]∧Own w z.heap.size 115 3 encG A9 e9 ((shrI c p qs).getD rpZ).old∧Own w z.heap.size 115 3 encG B9 f9 ((shrI c p qs).getD rpZ).new∧Apart A9 B9∧Below z.heap.size z w):=by
 refine enter Tryz.func17 rfl 18 rfl rfl ?_;intro a i
 have d:=bz z
 refine Zs i fun _ aG=>?_;refine Zf (X0i (zs:=[vi c.n,.slice Ac c.gs.length cc]) rfl rfl) ?_;rintro _ w1 ⟨b4,rfl,aH,m,j⟩;have aL:=Nat.le_trans d.size aH;have d:=btr d m;refine Zf (X9 (zs:=[vi 0,.slice none 0 0,.slice none 0 0]) X33 rfl) ?_;rintro _ w2 ⟨b7,rfl,aI,m,b⟩;have A:=Nat.le_trans d.size aI;have j:=j.below m;have d:=btr d m;refine Za rfl<|ZX aG fun a i _ aJ=>?_;refine Zs i fun _ aK=>?_;refine Ze (Vn X1r j)<|Zf (Vc (F53 _ c Ac cc (h.below' d).top) Xvo) ?_;rintro _ w3 ⟨rfl,m⟩;have j:=j.below m;have b:=b.below m;have d:=btr d m;refine Ze (X0y rfl)<|Zt aK fun a i=>?_
 refine Xl i rfl (fun e=>?_) (fun e=>?_)
 ·have aB:=e;have o:=Xo2 (c:=c) (bn1 e) p qs;refine Zs i fun _ aD=>?_;refine Ze (Xg (ps:=[]) (cs:=[vi 0,.slice none 0 0,.slice none 0 0]) rfl (fun _=>by first|rfl|kernel_rfl))<|Zo (Vw [vi 0,.slice none 0 0,.slice none 0 0] X17 b) ?_;rintro _ w4 ⟨ho,hb⟩;have q:=b;have d:=Below.only d ho A;have b:=hb;refine Za rfl<|Zt aD fun a i=>?_;refine wp_ret<|X4<|X2 i (X0w i rfl (ResV.cellN (l:=[vi 0,.slice none 0 0,.slice none 0 0]) rfl X1i (b.at 0) rfl) rfl) ?_
  rw [o]
  exact ⟨none,0,none,0,rfl,(Own.nil _ _ _ _ _),(Own.nil _ _ _ _ _),(Apart.none_l _),d⟩
 have aB:=e
 have B:cOk c=true:=bn2 e
 have o:=Xr6 B p qs;refine wp_skip<|aJ _ _<|Zs i fun _ aE=>?_;refine Ze (Vn X1r j)<|Zm rfl<|Zm rfl<|Zf (Vc (Xun _ c Ac cc (h.below' d).top aC p Aqs cqs qs (aA.below' d).top B aF) Xol) ?_;rintro _ w5 ⟨t,u,x,y,rfl,f,g,k,m⟩;have f:=f.lower d.size;have g:=g.lower d.size;have b:=b.below m;have d:=btr d m;refine Ze (X3 (vs:=[.agg #[vi (((shrX c p qs).getD rpZ).pos),.slice t (((shrX c p qs).getD rpZ).old).length u,.slice x (((shrX c p qs).getD rpZ).new).length y],.bool ((shrX c p qs).isSome)]) rfl rfl)<|Ze (X3 (vs:=[.agg #[vi (((shrX c p qs).getD rpZ).pos),.slice t (((shrX c p qs).getD rpZ).old).length u,.slice x (((shrX c p qs).getD rpZ).new).length y],.bool ((shrX c p qs).isSome)]) rfl rfl)<|Zo (Vw [vi (((shrX c p qs).getD rpZ).pos),.slice t (((shrX c p qs).getD rpZ).old).length u,.slice x (((shrX c p qs).getD rpZ).new).length y] X17 b) ?_;rintro _ w6 ⟨ho,hb⟩;have q:=b;have f:=f.onlyT ho q rfl;have g:=g.onlyT ho q rfl;have d:=Below.only d ho A;have b:=hb;refine Za rfl<|Zt aE fun a i=>?_
 refine wp_ret (X2 i (X0w i rfl (ResV.cellN (l:=[vi (((shrX c p qs).getD rpZ).pos),.slice t (((shrX c p qs).getD rpZ).old).length u,.slice x (((shrX c p qs).getD rpZ).new).length y]) rfl X1i (b.at 0) rfl) rfl) ?_)
 rw [o]
 exact ⟨t,u,x,y,rfl,f,g,k,d⟩
theorem Xd0:∀ (l:List Gt) (k:Int),0≤k→heldG l k≤k+3*(l.length:Int)
 | [],k,_=>by rw [heldG];simp
 | x::l,k,hk=>by
  rw [heldG]
  split
  ·have:=Xd0 l (k+3) (by omega);rw [List.length_cons];omega
  ·rw [List.length_cons];omega
def hlR(o n:List Gt)(k:Int) : Int:=if heldG o k<0 then -1 else if heldG n (heldG o k)<0 then -1 else heldG n (heldG o k)
theorem Xct(k:Int)(hk:0≤k)(a b:Nat) : hlR (markG k a) (markG (k+3*(a:Int)) b) k=k+3*(a:Int)+3*(b:Int):=by
 unfold hlR
 rw [X5l,if_neg (by omega),X5l,if_neg (by omega)]
theorem Xnx{c:Cx}{p:Int}{run qs:List Int}{ws:List Gt} : ((repX c p run qs ws).getD rpZ).old.length≤40∧((repX c p run qs ws).getD rpZ).new.length≤40:=by
 unfold repX
 split
 ·split
  ·rename_i h;exact h
  ·exact ⟨Nat.zero_le _,Nat.zero_le _⟩
 ·exact ⟨Nat.zero_le _,Nat.zero_le _⟩
theorem Xnu(c:Cx)(p:Int)(qs:List Int) : ((shrI c p qs).getD rpZ).old.length≤40∧((shrI c p qs).getD rpZ).new.length≤40:=by
 unfold shrI
 cases runP c p qs with
 | none=>exact ⟨Nat.zero_le _,Nat.zero_le _⟩
 | some run=>
  rw [Option.bind_some]
  unfold plX
  cases srW qs.length ((opI (xC c run qs)).getD mZ) with
  | none=>exact ⟨Nat.zero_le _,Nat.zero_le _⟩
  | some w=>
   rw [Option.bind_some]
   split
   ·exact Xnx
   ·exact ⟨Nat.zero_le _,Nat.zero_le _⟩
theorem Xum(w0:World)(B0:Nat)(A:Option Addr)(c:Nat)(l:List Gt)(f:Own w0 B0 115 3 encG A c l)(A2:Option Addr)(c2:Nat)(i:List Gt)(b:Own w0 B0 115 3 encG A2 c2 i)(aA:Apart A A2)(pos k:Int)(hk:0≤k∧k≤1000)(aJ:l.length≤1000000)(aH:i.length≤1000000) : Ret Tryz.prog 24 [.agg #[vi pos,.slice A l.length c,.slice A2 i.length c2],vi k] w0 (fun v w=>v=vi (k+3*(l.length:Int)+3*(i.length:Int))∧Own w B0 115 3 encG A c (markG k l.length)∧Own w B0 115 3 encG A2 c2 (markG (k+3*(l.length:Int)) i.length)∧∃ wm,w0.grownBy wm (Value.slice A l.length c).ownBlock∧wm.grownBy w (Value.slice A2 i.length c2).ownBlock):=by
 refine enter Tryz.func24 rfl 14 rfl rfl ?_;intro a hf
 have hW:w0.grownBy w0 (Value.slice A l.length c).ownBlock:=World.grownBy.refl _ _
 refine Zs hf fun _ aB=>?_;refine Zf (X0i (zs:=[vi pos,.slice A l.length c,.slice A2 i.length c2]) rfl rfl) ?_;rintro _ w1 ⟨b4,rfl,aC,hE,g⟩;have aI:=Nat.le_trans hW.size aC;have f:=f.below hE;have b:=b.below hE;have hW:=gbel hW hE;refine Za rfl<|Zx aB fun a hf _ aD=>?_;refine Ze (Vd rfl X4v 1)<|Ze (X0 rfl X16 (g.at 1))<|Zm rfl<|Zf (Vc (F61 _ B0 A c l f k (by omega) (by omega)) Xm8) ?_;rintro _ w2 ⟨rfl,d,j⟩;have e:=f;have g:=g.appT e j rfl;have b:=b.appP j aA.symm;have hW:=gtr hW j
 clear e j;clear f;have f:=d;clear d;refine Za rfl<|Zx aD fun a hf _ aE=>?_;refine Ze (Vd rfl X2l 2)<|Ze (X0 rfl X16 (g.at 2))<|Zm rfl<|Zf (Vc (F61 _ B0 A2 c2 i b (k+3*(l.length:Int)) (by omega) (by omega)) Xm8) ?_;rintro _ w3 ⟨rfl,d,j⟩;have e:=b;have f:=f.appP j aA
 have aF:w2.grownBy w3 _:=j
 clear e j;clear b;have b:=d;clear d;refine Za rfl<|Zx aE fun a hf _ aG=>?_;refine Zm rfl<|Za rfl<|Zt aG fun a hf=>?_
 refine wp_ret (X2 hf (Xv hf rfl rfl) ?_)
 exact ⟨rfl,f,b,_,hW,aF⟩
theorem Xq9(n:World)(A:Option Addr)(c m:Nat)(l:List Gt)(hm:m=l.length)(aC:Rd n n.heap.size 115 encG A l)(A2:Option Addr)(c2 m2:Nat)(i:List Gt)(aK:m2=i.length)(aA:Rd n n.heap.size 115 encG A2 i)(pos k:Int)(hk:0≤k∧k≤1000)(aU:l.length≤1000000)(aR:i.length≤1000000) : Ret Tryz.prog 25 [.agg #[vi pos,.slice A m c,.slice A2 m2 c2],vi k] n (fun v w=>v=vi (hlR l i k)∧Below n.heap.size n w):=by
 subst hm aK
 have aS:=Xd0 l k hk.1;refine enter Tryz.func25 rfl 18 rfl rfl ?_;intro a d
 have g:=bz n
 refine Zs d fun _ aL=>?_;refine Zf (X0i (zs:=[vi pos,.slice A l.length c,.slice A2 i.length c2]) rfl rfl) ?_;rintro _ w1 ⟨b4,rfl,aM,hE,j⟩;have aT:=Nat.le_trans g.size aM;have g:=btr g hE;refine Za rfl<|Zx aL fun a d _ aN=>?_;refine Ze (Vd rfl X4v 1)<|Ze (X0 rfl X16 (j.at 1))<|Zm rfl<|Zf (Vc (F72 _ A c l.length l rfl (aC.below' g).top k (by omega) (by omega)) Xq7) ?_;rintro _ w2 ⟨rfl,hE⟩;have j:=j.below hE;have g:=btr g hE;refine Za rfl<|ZX aN fun a d _ aO=>?_;refine Zs d fun _ aP=>?_;refine Zm rfl<|Ze (X12 rfl rfl)<|Zt aP fun a d=>?_
 refine Xl d rfl (fun e=>?_) (fun e=>?_)
 ·have aD:=e;have e:=of_decide_eq_true e
  have f:hlR l i k = -1:=if_pos e
  refine Zs d fun _ aQ=>?_;refine Za rfl<|Zt aQ fun a d=>?_;refine wp_ret<|X4<|X2 d (Xv d rfl rfl) ?_;exact ⟨by rw [f],g⟩
 have aD:=e;have e:=of_decide_eq_false e;have aE:=e;refine wp_skip<|aO _ _<|Zs d fun _ aF=>?_;refine Ze (Vd rfl X2l 2)<|Ze (X0 rfl X16 (j.at 2))<|Zm rfl<|Zf (Vc (F72 _ A2 c2 i.length i rfl (aA.below' g).top (heldG l k) (by omega) (by omega)) Xq7) ?_;rintro _ w3 ⟨rfl,hE⟩;have g:=btr g hE;refine Za rfl<|ZX aF fun a d _ aG=>?_;refine Zs d fun _ aH=>?_;refine Zm rfl<|Ze (X12 rfl rfl)<|Zt aH fun a d=>?_
 refine Xl d rfl (fun b=>?_) (fun b=>?_)
 ·have aB:=b;have b:=of_decide_eq_true b
  have f:hlR l i k = -1:=by rw [hlR,if_neg aE,if_pos b]
  refine Zs d fun _ aI=>?_;refine Za rfl<|Zt aI fun a d=>?_;refine wp_ret<|X4<|X2 d (Xv d rfl rfl) ?_;exact ⟨by rw [f],g⟩
 have aB:=b;have b:=of_decide_eq_false b
 have f:hlR l i k=heldG i (heldG l k):=by rw [hlR,if_neg aE,if_neg b]
 refine wp_skip<|aG _ _<|Zs d fun _ aJ=>?_;refine Zm rfl<|Za rfl<|Zt aJ fun a d=>?_
 refine wp_ret (X2 d (Xv d rfl rfl) ?_)
 exact ⟨by rw [f],g⟩
theorem Xuq(w0:World){Xc:TypeId}(c:Cx)(Ac:Option Addr)(cc:Nat)(M:Rd w0 w0.heap.size Xc encG Ac c.gs)(p:Int){X_y:TypeId}(Ay:Option Addr)(cy:Nat)(y:List Int)(aT:Rd w0 w0.heap.size X_y encI Ay y)(eX:c.gs.length≤9223372036854775807)(fL:y.length≤9223372036854775807)(bW:PowT w0) : Ret Tryz.prog 4 [.agg #[vi c.n,.slice Ac c.gs.length cc],vi p,.slice Ay y.length cy] w0 (fun v w=>v=.bool true∧Below w0.heap.size w0 w):=by
 have aF:=Xnu c p y;refine enter Tryz.func4 rfl 122 rfl rfl ?_;intro a t
 have m:=bz w0
 refine Zs t fun _ eY=>?_;refine Zf (X0i (zs:=[vi c.n,.slice Ac c.gs.length cc]) rfl rfl) ?_;rintro _ w1 ⟨b4,rfl,dC,b,k⟩;have fK:=Nat.le_trans m.size dC;have eW:=(M.below' m).away dC;have m:=btr m b;refine Za rfl<|ZX eY fun a t _ f0=>?_;refine Zs t fun _ f5=>?_;refine Zm rfl<|Ze (X0x rfl X09)<|Ze (X2u rfl rfl)<|Zt f5 fun a t=>?_
 refine Xl t rfl (fun aR=>?_) (fun aR=>?_)
 ·have B:=aR;have aR:=of_decide_eq_true aR;refine Zs t fun _ f6=>?_;refine Za rfl<|Zt f6 fun a t=>?_;refine wp_ret<|X4<|X2 t (Xv t rfl rfl) ?_;exact ⟨rfl,m⟩
 have B:=aR;have aR:=of_decide_eq_false aR
 have aI:y.length≤1048576:=by omega
 refine wp_skip<|f0 _ _<|Zs t fun _ f7=>?_;refine Za rfl<|Zx f7 fun a t _ dD=>?_;refine Ze (Vn Xd3 k)<|Zm rfl<|Zf (Vc (F14 _ c Ac cc (M.below' m).top 1048576 (by omega) eX) Xvn) ?_;rintro _ w2 ⟨rfl,b⟩;have k:=k.below b;have m:=btr m b;refine Za rfl<|ZX dD fun a t _ dE=>?_;refine Zs t fun _ dF=>?_;refine Zm rfl<|Ze (X12 rfl rfl)<|Zt dF fun a t=>?_
 refine Xl t rfl (fun aC=>?_) (fun aC=>?_)
 ·have z:=aC;have aC:=of_decide_eq_true aC;refine Zs t fun _ dG=>?_;refine Za rfl<|Zt dG fun a t=>?_;refine wp_ret<|X4<|X2 t (Xv t rfl rfl) ?_;exact ⟨rfl,m⟩
 have z:=aC;have aC:=of_decide_eq_false aC
 have aJ:c.gs.length≤1048576:=by have:=Xu1 aC;omega
 refine wp_skip<|dE _ _<|Zs t fun _ dH=>?_;refine Ze (Vn Xd3 k)<|Zf (Vc (F16 _ c Ac cc (M.below' m).top aJ) Xfb) ?_;rintro _ w3 ⟨f8,fA,rfl,aD,b⟩;have aD:=aD.lower m.size;have k:=k.below b;have m:=btr m b;refine Zm rfl<|Zm rfl<|Zf (Vc (F17 _ Ay cy y (aT.below' m).top aI) Xh5) ?_;rintro _ w4 ⟨fB,fC,rfl,bH,b⟩;have bH:=bH.lower m.size;have k:=k.below b;have aD:=aD.below b;have m:=btr m b;refine Zf (Vc (Xwb _ c f8 fA aD.rd.top aD.cap p fB fC y bH.rd.top (Nat.le_trans aJ (by decide)) aI) Xn9) ?_;rintro _ w5 ⟨b2,b3,b5,b6,rfl,d,e,cE,b⟩;have cF:=aD.apart d (Nat.le_refl _);have d:=d.lower m.size;have cG:=aD.apart e (Nat.le_refl _);have e:=e.lower m.size;have k:=k.below b;have m:=btr m b;refine Zm rfl<|Ze (X3 (vs:=[.agg #[vi (((shrI c p y).getD rpZ).pos),.slice b2 (((shrI c p y).getD rpZ).old).length b3,.slice b5 (((shrI c p y).getD rpZ).new).length b6],.bool ((shrI c p y).isSome)]) rfl rfl)<|Ze (X3 (vs:=[.agg #[vi (((shrI c p y).getD rpZ).pos),.slice b2 (((shrI c p y).getD rpZ).old).length b3,.slice b5 (((shrI c p y).getD rpZ).new).length b6],.bool ((shrI c p y).isSome)]) rfl rfl)<|Zf (X9 (zs:=[vi 0,.slice none 0 0,.slice none 0 0]) X33 rfl) ?_;rintro _ w6 ⟨bL,rfl,bX,b,f⟩;have cA:=Nat.le_trans m.size bX;have dI:=(M.below' m).away bX;have k:=k.below b;have d:=d.below b;have e:=e.below b;have m:=btr m b;refine Zo (Vw [vi (((shrI c p y).getD rpZ).pos),.slice b2 (((shrI c p y).getD rpZ).old).length b3,.slice b5 (((shrI c p y).getD rpZ).new).length b6] X17 f) ?_;rintro _ w7 ⟨N,hb⟩;have x:=f;have k:=k.only N (Blk.ne k x rfl);have d:=d.onlyT N x rfl;have e:=e.onlyT N x rfl
 have m:=Below.only m N cA;have f:=hb;refine Za rfl<|Zx dH fun a t _ dJ=>?_;refine Ze (Vn Xd3 k)<|Zf (Vc (F16 _ c Ac cc (M.below' m).top aJ) Xfb) ?_;rintro _ w8 ⟨bM,bN,rfl,l,b⟩;have b7:=d.apart l (Nat.le_refl _);have b8:=e.apart l (Nat.le_refl _);have l:=l.lower m.size;have k:=k.below b;have f:=f.below b;have d:=d.below b;have e:=e.below b;have m:=btr m b;refine Zf (X9 (zs:=[vi 0,.slice none 0 0]) Xi5 rfl) ?_;rintro _ w9 ⟨fD,rfl,bY,b,u⟩;have cB:=Nat.le_trans m.size bY;have dK:=(M.below' m).away bY;have k:=k.below b;have f:=f.below b;have d:=d.below b;have e:=e.below b;have l:=l.below b;have m:=btr m b;refine Zo (Vw [vi c.n,.slice bM c.gs.length bN] Xcc u) ?_;rintro _ fM ⟨N,hb⟩;have x:=u;have k:=k.only N (Blk.ne k x rfl);have f:=f.only N (Blk.ne f x rfl);have d:=d.onlyT N x rfl;have e:=e.onlyT N x rfl;have l:=l.onlyT N x rfl;have m:=Below.only m N cB;have u:=hb;refine Zx dJ fun a t _ dL=>?_;refine Zm rfl<|Zf (Vc (F17 _ Ay cy y (aT.below' m).top aI) Xh5) ?_;rintro _ fN ⟨bO,bP,rfl,o,b⟩;have o:=o.lower m.size;have k:=k.below b;have f:=f.below b;have u:=u.below b;have d:=d.below b;have e:=e.below b;have l:=l.below b;have m:=btr m b;refine Za rfl<|Zx dL fun a t _ dM=>?_;refine Ze (Vn X1r u)<|Zm rfl<|Zm rfl<|Zf (Vc (Xq4 _ c bM bN l.rd.top l.cap p bO bP y o.rd.top (Nat.le_trans aJ (by decide)) aI (bW.of m)) Xfo) ?_;rintro _ fO ⟨aK,aL,aM,aN,rfl,g,i,aH,b⟩
 have b9:=d.apart g (Nat.le_refl _);have bC:=e.apart g (Nat.le_refl _);have bD:=l.apart g (Nat.le_refl _);have g:=g.lower m.size;have bE:=d.apart i (Nat.le_refl _);have bF:=e.apart i (Nat.le_refl _);have bG:=l.apart i (Nat.le_refl _);have i:=i.lower m.size;have k:=k.below b;have f:=f.below b;have u:=u.below b;have d:=d.below b;have e:=e.below b;have l:=l.below b;have o:=o.below b;have m:=btr m b;refine Zm rfl<|Ze (X3 (vs:=[.agg #[vi (((shrI c p y).getD rpZ).pos),.slice aK (((shrI c p y).getD rpZ).old).length aL,.slice aM (((shrI c p y).getD rpZ).new).length aN],.bool ((shrI c p y).isSome)]) rfl rfl)<|Ze (X3 (vs:=[.agg #[vi (((shrI c p y).getD rpZ).pos),.slice aK (((shrI c p y).getD rpZ).old).length aL,.slice aM (((shrI c p y).getD rpZ).new).length aN],.bool ((shrI c p y).isSome)]) rfl rfl)<|Zf (X9 (zs:=[vi 0,.slice none 0 0,.slice none 0 0]) X33 rfl) ?_;rintro _ fP ⟨b34,rfl,bZ,b,j⟩
 have cH:bL≠b34:=by have:=f.lt;omega
 have cC:=Nat.le_trans m.size bZ;have dN:=(M.below' m).away bZ;have k:=k.below b;have f:=f.below b;have u:=u.below b;have d:=d.below b;have e:=e.below b;have l:=l.below b;have o:=o.below b;have g:=g.below b;have i:=i.below b;have m:=btr m b;refine Zo (Vw [vi (((shrI c p y).getD rpZ).pos),.slice aK (((shrI c p y).getD rpZ).old).length aL,.slice aM (((shrI c p y).getD rpZ).new).length aN] X17 j) ?_;rintro _ w14 ⟨N,hb⟩;have x:=j;have k:=k.only N (Blk.ne k x rfl);have f:=f.only N (by omega);have u:=u.only N (Blk.ne u x rfl);have d:=d.onlyT N x rfl;have e:=e.onlyT N x rfl;have l:=l.onlyT N x rfl;have o:=o.onlyT N x rfl;have g:=g.onlyT N x rfl;have i:=i.onlyT N x rfl;have m:=Below.only m N cC;have j:=hb;refine Za rfl<|ZX dM fun a t _ dO=>?_;refine wp_seq_k fun _ dP=>?_;refine X0n (fun a w=>Fr a 122 [(1,vi p),(2,.slice Ay y.length cy),(3,.pointer (some ⟨b4,0,none⟩)),(8,.pointer (some ⟨bL,0,none⟩)),(9,.bool ((shrI c p y).isSome)),(10,.pointer (some ⟨fD,0,none⟩)),(11,.slice bO y.length bP),(12,.pointer (some ⟨b34,0,none⟩)),(13,.bool ((shrI c p y).isSome)),(55,.bool ((!(decide (((shrI c p y).getD rpZ).pos=((shrI c p y).getD rpZ).pos)&&decide (((shrI c p y).getD rpZ).old=((shrI c p y).getD rpZ).old)&&decide (((shrI c p y).getD rpZ).new=((shrI c p y).getD rpZ).new)))||(((shrI c p y).isSome) != ((shrI c p y).isSome))))]∧Below w14.heap.size w14 w) ?_ ?_
 ·have Q:Below w14.heap.size w14 w14:=Below.refl _ _
  refine Zr t<|Ze (Vn X1i j)<|Ze (Vn X1i f)<|Zf (Vc (F13 _ ((shrI c p y).getD rpZ) aK aL g.rd.top aM aN i.rd.top ((shrI c p y).getD rpZ) b2 b3 d.rd.top b5 b6 e.rd.top (Nat.le_trans aF.1 (by decide)) (Nat.le_trans aF.2 (by decide))) Xjw) ?_;rintro _ w15 ⟨rfl,b⟩;have m:=btr m b;have Q:=btr Q b;refine Ze (X0y rfl)<|Zm rfl ?_
  refine Zg 51 rfl (fun C=>?_) (fun C=>?_)
  ·refine Zp (gP C) ?_;refine Zp (gP C) ?_;refine Zp (gP C) ?_;refine Ze (Xp rfl C rfl) ?_;refine Zn fun a t=>?_
   have W:Below w14.heap.size w14 w15:=Q
   exact ⟨t.sub ⟨rfl,rfl,rfl,rfl,rfl,rfl,rfl,rfl,rfl,X1 rfl (by first|rfl|(simp only [B,z,C,Bool.true_and,Bool.false_and,Bool.true_or,Bool.false_or];done)|(simp [B,z,C];done)|(exfalso;revert C;simp)),trivial⟩,W⟩
  refine Zv (gW C) (Xa rfl) ?_;refine Zv (gW C) (Xa rfl) ?_;refine Zv (gW C) (Xjs Tryz.underlying4 rfl rfl) ?_;refine Ze (Xk rfl C rfl) ?_;refine Zn fun a t=>?_
  have W:Below w14.heap.size w14 w15:=Q
  exact ⟨t.sub ⟨rfl,rfl,rfl,rfl,rfl,rfl,rfl,rfl,rfl,X1 rfl (by first|rfl|(simp only [B,z,C,Bool.true_and,Bool.false_and,Bool.true_or,Bool.false_or];done)|(simp [B,z,C];done)|(exfalso;revert C;simp)),trivial⟩,W⟩
 rintro a fQ ⟨t,b⟩;have k:=k.below b;have f:=f.below b;have u:=u.below b;have j:=j.below b;have d:=d.below b;have e:=e.below b;have l:=l.below b;have o:=o.below b;have g:=g.below b;have i:=i.below b;have m:=btr m b;refine dP _ _ ?_
 refine Xl t rfl (fun aU=>?_) (fun aU=>?_)
 ·have A:=aU
  simp at aU
 have A:=aU;refine wp_skip<|dO _ _<|wp_seq_k fun _ dQ=>?_;refine wp_seq_k fun _ dR=>?_;refine X0f none (fun _=>false) mixed ?_;intro fR b;have k:=k.below b;have f:=f.below b;have u:=u.below b;have j:=j.below b;have d:=d.below b;have e:=e.below b;have l:=l.below b;have o:=o.below b;have g:=g.below b;have i:=i.below b;have m:=btr m b;refine Yb t<|Ye 0 rfl (Vn X1r u)<|Ye 1 rfl (Vn Xd3 k)<|Y1 2 ?_;refine Yk rfl trivial (Vc (F16 _ c Ac cc (M.below' m).top aJ) Xfb) (fun _ _ ⟨dS,dT,_,U,b⟩=>b) ?_;rintro _ fS ⟨dS,dT,rfl,U,b⟩;have cJ:=d.apart U (Nat.le_refl _);have cK:=e.apart U (Nat.le_refl _);have cL:=l.apart U (Nat.le_refl _);have cM:=g.apart U (Nat.le_refl _);have cN:=i.apart U (Nat.le_refl _);have U:=U.lower m.size;have k:=k.below b;have f:=f.below b;have u:=u.below b;have j:=j.below b;have d:=d.below b;have e:=e.below b;have l:=l.below b;have o:=o.below b;have g:=g.below b;have i:=i.below b;have m:=btr m b;refine Y1 3<|Yk rfl trivial (Vc (F19 _ c bM bN l.rd.top c dS dT U.rd.top (Nat.le_trans aJ (by decide))) Xv3) (fun _ _ ⟨_,b⟩=>b) ?_;rintro _ fT ⟨rfl,b⟩;have k:=k.below b;have f:=f.below b;have u:=u.below b;have j:=j.below b;have d:=d.below b;have e:=e.below b;have l:=l.below b;have o:=o.below b;have g:=g.below b;have i:=i.below b;have m:=btr m b;refine Yo 4 rfl (fun _=>X0y rfl) ?_;refine Yd fun a t=>?_;refine dR _ _ ?_
 refine Xl t rfl (fun aW=>?_) (fun aW=>?_)
 ·have D:=aW
  simp [eqC] at aW
 have D:=aW;refine wp_skip<|dQ _ _<|wp_seq_k fun _ dU=>?_;refine Zs t fun _ dW=>?_;refine Zm rfl<|Zm rfl<|Zf (Vc (F17 _ Ay cy y (aT.below' m).top aI) Xh5) ?_;rintro _ fU ⟨fE,fF,rfl,aX,b⟩;have cO:=o.apart aX (Nat.le_refl _);have aX:=aX.lower m.size;have k:=k.below b;have f:=f.below b;have u:=u.below b;have j:=j.below b;have d:=d.below b;have e:=e.below b;have l:=l.below b;have o:=o.below b;have g:=g.below b;have i:=i.below b;have m:=btr m b;refine Zf (Vc (F20 _ bO bP y o.rd.top fE fF y aX.rd.top (Nat.le_trans aI (by decide))) Xuy) ?_;rintro _ fV ⟨rfl,b⟩;have k:=k.below b;have f:=f.below b;have u:=u.below b;have j:=j.below b;have d:=d.below b;have e:=e.below b;have l:=l.below b;have o:=o.below b;have g:=g.below b;have i:=i.below b;have m:=btr m b;refine Ze (X0y rfl)<|Zt dW fun a t=>?_
 refine Xl t rfl (fun aY=>?_) (fun aY=>?_)
 ·have E:=aY
  simp at aY
 have E:=aY;refine wp_skip<|dU _ _<|Zs t fun _ dX=>?_;refine Za rfl<|Zx dX fun a t _ dY=>?_;refine Ze (Vn X1r u)<|Zm rfl<|Zf (Vc (F23 _ w0.heap.size bM bN c.gs l c.n 1 (by decide) (Nat.le_trans aJ (by decide))) Xvm) ?_;rintro _ fW ⟨rfl,aO,hg⟩;have q:=l;have k:=k.appT q hg rfl;have f:=f.appT q hg rfl;have j:=j.appT q hg rfl;have d:=d.appP hg b7;have e:=e.appP hg b8;have o:=o.appT q hg rfl;have g:=g.appP hg bD.symm;have i:=i.appP hg bG.symm;have m:=Below.app m q hg (Nat.le_refl _) m.size
 clear q hg;clear l;have l:=aO;clear aO;refine Za rfl<|Zx dY fun a t _ e8=>?_;refine Zm rfl<|Zm rfl<|Zf (Vc (F24 _ w0.heap.size bO bP y o (1+3*(c.gs.length:Int)) (by omega) (Nat.le_trans aI (by decide))) Xvc) ?_;rintro _ w23 ⟨rfl,aO,hg⟩;have q:=o;have k:=k.appT q hg rfl;have f:=f.appT q hg rfl;have j:=j.appT q hg rfl;have d:=d.appT q hg rfl;have e:=e.appT q hg rfl;have g:=g.appT q hg rfl;have i:=i.appT q hg rfl;have m:=Below.app m q hg (Nat.le_refl _) m.size
 clear q hg;clear o;have o:=aO;clear aO;refine Za rfl<|ZX e8 fun a t _ eA=>?_;refine wp_seq_k fun _ eB=>?_;refine X0n (fun a w=>Fr a 122 [(1,vi p),(2,.slice Ay y.length cy),(3,.pointer (some ⟨b4,0,none⟩)),(8,.pointer (some ⟨bL,0,none⟩)),(9,.bool ((shrI c p y).isSome)),(12,.pointer (some ⟨b34,0,none⟩)),(84,.bool (((decide ((1+3*(c.gs.length:Int)+(y.length:Int))<0))||(!(decide (((shrI c p y).getD rpZ).pos=((shrI c p y).getD rpZ).pos)&&decide (((shrI c p y).getD rpZ).old=((shrI c p y).getD rpZ).old)&&decide (((shrI c p y).getD rpZ).new=((shrI c p y).getD rpZ).new))))||(((shrI c p y).isSome) != ((shrI c p y).isSome))))]∧Below w23.heap.size w23 w) ?_ ?_
 ·have Q:Below w23.heap.size w23 w23:=Below.refl _ _
  refine Zr t<|Zm rfl<|Ze (X12 rfl rfl)<|Zm rfl ?_
  refine Zg 74 rfl (fun h=>?_) (fun h=>?_)
  ·refine Zp (gP h) ?_;refine Zp (gP h) ?_;refine Zp (gP h) ?_;refine Zp (gP h) ?_;refine Ze (Xp rfl h rfl)<|Zm rfl<|Zp (gP rfl) ?_;refine Zp (gP rfl) ?_;refine Zp (gP rfl) ?_;refine Ze (Xp rfl rfl rfl) ?_;refine Zn fun a t=>?_
   have W:Below w23.heap.size w23 w23:=Q
   exact ⟨t.sub ⟨rfl,rfl,rfl,rfl,rfl,rfl,X1 rfl (by first|rfl|(simp only [B,z,A,D,E,h,Bool.true_and,Bool.false_and,Bool.true_or,Bool.false_or];done)|(simp [B,z,A,D,E,h];done)|(exfalso;revert h;simp)),trivial⟩,W⟩
  refine Zv (gW h) (Vn X1i j) ?_;refine Zv (gW h) (Vn X1i f) ?_;refine Zk (gW h) (Vc (F13 _ ((shrI c p y).getD rpZ) aK aL g.rd.top aM aN i.rd.top ((shrI c p y).getD rpZ) b2 b3 d.rd.top b5 b6 e.rd.top (Nat.le_trans aF.1 (by decide)) (Nat.le_trans aF.2 (by decide))) Xjw) ?_;rintro _ w24 ⟨rfl,b⟩;have m:=btr m b;have Q:=btr Q b;refine Zv (gW h) (X0y rfl) ?_;refine Ze (Xk rfl h rfl)<|Zm rfl ?_
  refine Zg 80 rfl (fun G=>?_) (fun G=>?_)
  ·refine Zp (gP G) ?_;refine Zp (gP G) ?_;refine Zp (gP G) ?_;refine Ze (Xp rfl G rfl) ?_;refine Zn fun a t=>?_
   have W:Below w23.heap.size w23 w24:=Q
   exact ⟨t.sub ⟨rfl,rfl,rfl,rfl,rfl,rfl,X1 rfl (by first|rfl|(simp only [B,z,A,D,E,h,G,Bool.true_and,Bool.false_and,Bool.true_or,Bool.false_or];done)|(simp [B,z,A,D,E,h,G];done)|(exfalso;revert G;simp)),trivial⟩,W⟩
  refine Zv (gW G) (Xa rfl) ?_;refine Zv (gW G) (Xa rfl) ?_;refine Zv (gW G) (Xjs Tryz.underlying4 rfl rfl) ?_;refine Ze (Xk rfl G rfl) ?_;refine Zn fun a t=>?_
  have W:Below w23.heap.size w23 w24:=Q
  exact ⟨t.sub ⟨rfl,rfl,rfl,rfl,rfl,rfl,X1 rfl (by first|rfl|(simp only [B,z,A,D,E,h,G,Bool.true_and,Bool.false_and,Bool.true_or,Bool.false_or];done)|(simp [B,z,A,D,E,h,G];done)|(exfalso;revert G;simp)),trivial⟩,W⟩
 rintro a fX ⟨t,b⟩;have k:=k.below b;have f:=f.below b;have j:=j.below b;have d:=d.below b;have e:=e.below b;have g:=g.below b;have i:=i.below b;have m:=btr m b;refine eB _ _ ?_
 refine Xl t rfl (fun aZ=>?_) (fun aZ=>?_)
 ·have aG:=aZ
  have h9:¬ (1+3*(c.gs.length:Int)+(y.length:Int)<0):=by omega
  simp [h9] at aZ
 have aG:=aZ;refine wp_skip<|eA _ _<|Zs t fun _ eC=>?_;refine Za rfl<|Zx eC fun a t _ eD=>?_;refine Ze (Vn X1i j)<|Zm rfl<|Zf (Vc (Xum _ w0.heap.size aK aL (((shrI c p y).getD rpZ).old) g aM aN (((shrI c p y).getD rpZ).new) i aH (((shrI c p y).getD rpZ).pos) 1 (by decide) (Nat.le_trans aF.1 (by decide)) (Nat.le_trans aF.2 (by decide))) Xou) ?_;rintro _ fY ⟨rfl,bI,bJ,fZ,aP,aS⟩;have q:=g;have b0:=i;have b0:=b0.appP aP aH.symm;have k:=k.appT q aP rfl;have f:=f.appT q aP rfl;have j:=j.appT q aP rfl;have d:=d.appP aP b9;have e:=e.appP aP bC;have m:=Below.app m q aP (Nat.le_refl _) m.size
 clear q;have q:=b0;have k:=k.appT q aS rfl;have f:=f.appT q aS rfl;have j:=j.appT q aS rfl;have d:=d.appP aS bE;have e:=e.appP aS bF;have m:=Below.app m q aS (Nat.le_refl _) m.size
 clear q b0 aP aS g i;have g:=bI;have i:=bJ;clear bI bJ;refine Za rfl<|Zx eD fun a t _ eE=>?_;refine Za rfl<|Zx eE fun a t _ eF=>?_;refine Ze (Vn X1i j)<|Zm rfl<|Zf (Vc (Xq9 _ aK aL (((shrI c p y).getD rpZ).old).length (markG 1 (((shrI c p y).getD rpZ).old).length) (X2b _ _).symm g.rd.top aM aN (((shrI c p y).getD rpZ).new).length (markG (1+3*((((shrI c p y).getD rpZ).old).length:Int)) (((shrI c p y).getD rpZ).new).length) (X2b _ _).symm i.rd.top (((shrI c p y).getD rpZ).pos) 1 (by decide) (by rw [X2b];exact (Nat.le_trans aF.1 (by decide))) (by rw [X2b];exact (Nat.le_trans aF.2 (by decide)))) Xgk) ?_;rintro _ g4 ⟨rfl,b⟩;have k:=k.below b;have f:=f.below b;have j:=j.below b;have d:=d.below b;have e:=e.below b;have g:=g.below b;have i:=i.below b;have m:=btr m b;refine Za rfl<|ZX eF fun a t _ eG=>?_;refine Zs t fun _ eH=>?_;refine Zm rfl<|Ze (X12 rfl rfl)<|Zt eH fun a t=>?_
 refine Xl t rfl (fun aE=>?_) (fun aE=>?_)
 ·have aA:=aE;have aE:=of_decide_eq_true aE
  rw [Xct _ (by decide)] at aE;omega
 have aA:=aE;have aE:=of_decide_eq_false aE;refine wp_skip<|eG _ _<|wp_seq_k fun _ eI=>?_;refine Zs t fun _ eJ=>?_;refine Zm rfl<|Zm rfl<|Ze (X2d rfl rfl)<|Zt eJ fun a t=>?_
 refine Xl t rfl (fun aQ=>?_) (fun aQ=>?_)
 ·have aB:=aQ
  rw [Xct _ (by decide)] at aQ;simp at aQ
 have aB:=aQ;refine wp_skip<|eI _ _<|Zs t fun _ eK=>?_;refine Ze (Vn Xd3 k)<|Zf (Vc (F16 _ c Ac cc (M.below' m).top aJ) Xfb) ?_;rintro _ g5 ⟨fG,fH,rfl,I,b⟩;have cP:=d.apart I (Nat.le_refl _);have cQ:=e.apart I (Nat.le_refl _);have cR:=g.apart I (Nat.le_refl _);have cS:=i.apart I (Nat.le_refl _);have I:=I.lower m.size;have f:=f.below b;have j:=j.below b;have d:=d.below b;have e:=e.below b;have g:=g.below b;have i:=i.below b;have m:=btr m b;refine Zm rfl<|Zm rfl<|Zf (Vc (F17 _ Ay cy y (aT.below' m).top aI) Xh5) ?_;rintro _ g6 ⟨fI,fJ,rfl,bK,b⟩;have bK:=bK.lower m.size;have f:=f.below b;have j:=j.below b;have d:=d.below b;have e:=e.below b;have g:=g.below b;have i:=i.below b;have I:=I.below b;have m:=btr m b;refine Zf (Vc (Xq4 _ c fG fH I.rd.top I.cap p fI fJ y bK.rd.top (Nat.le_trans aJ (by decide)) aI (bW.of m)) Xfo) ?_;rintro _ g7 ⟨bQ,bR,bS,bU,rfl,J,L,cT,b⟩;have cU:=d.apart J (Nat.le_refl _);have cV:=e.apart J (Nat.le_refl _);have cW:=g.apart J (Nat.le_refl _);have cX:=i.apart J (Nat.le_refl _);have cY:=I.apart J (Nat.le_refl _);have J:=J.lower m.size;have d5:=d.apart L (Nat.le_refl _);have d6:=e.apart L (Nat.le_refl _);have d7:=g.apart L (Nat.le_refl _);have d8:=i.apart L (Nat.le_refl _);have d9:=I.apart L (Nat.le_refl _);have L:=L.lower m.size;have f:=f.below b;have j:=j.below b;have d:=d.below b;have e:=e.below b;have g:=g.below b;have i:=i.below b
 have m:=btr m b;refine Zm rfl<|Ze (X3 (vs:=[.agg #[vi (((shrI c p y).getD rpZ).pos),.slice bQ (((shrI c p y).getD rpZ).old).length bR,.slice bS (((shrI c p y).getD rpZ).new).length bU],.bool ((shrI c p y).isSome)]) rfl rfl)<|Ze (X3 (vs:=[.agg #[vi (((shrI c p y).getD rpZ).pos),.slice bQ (((shrI c p y).getD rpZ).old).length bR,.slice bS (((shrI c p y).getD rpZ).new).length bU],.bool ((shrI c p y).isSome)]) rfl rfl)<|Zf (X9 (zs:=[vi 0,.slice none 0 0,.slice none 0 0]) X33 rfl) ?_;rintro _ g8 ⟨b72,rfl,c4,b,b1⟩
 have dA:bL≠b72:=by have:=f.lt;omega
 have dB:b34≠b72:=by have:=j.lt;omega
 have cD:=Nat.le_trans m.size c4;have eL:=(M.below' m).away c4;have f:=f.below b;have j:=j.below b;have d:=d.below b;have e:=e.below b;have g:=g.below b;have i:=i.below b;have J:=J.below b;have L:=L.below b;have m:=btr m b;refine Zo (Vw [vi (((shrI c p y).getD rpZ).pos),.slice bQ (((shrI c p y).getD rpZ).old).length bR,.slice bS (((shrI c p y).getD rpZ).new).length bU] X17 b1) ?_;rintro _ w32 ⟨N,hb⟩;have x:=b1;have f:=f.only N (by omega);have j:=j.only N (by omega);have d:=d.onlyT N x rfl;have e:=e.onlyT N x rfl;have g:=g.onlyT N x rfl;have i:=i.onlyT N x rfl;have J:=J.onlyT N x rfl;have L:=L.onlyT N x rfl;have m:=Below.only m N cD;have b1:=hb;refine Za rfl<|ZX eK fun a t _ eM=>?_;refine wp_seq_k fun _ eN=>?_;refine X0n (fun a w=>Fr a 122 [(12,.pointer (some ⟨b34,0,none⟩)),(15,vi (1+3*((((shrI c p y).getD rpZ).old).length:Int)+3*((((shrI c p y).getD rpZ).new).length:Int))),(113,.bool ((!(decide (((shrI c p y).getD rpZ).pos=((shrI c p y).getD rpZ).pos)&&decide (((shrI c p y).getD rpZ).old=((shrI c p y).getD rpZ).old)&&decide (((shrI c p y).getD rpZ).new=((shrI c p y).getD rpZ).new)))||(((shrI c p y).isSome) != ((shrI c p y).isSome))))]∧Below w32.heap.size w32 w) ?_ ?_
 ·have Q:Below w32.heap.size w32 w32:=Below.refl _ _
  refine Zr t<|Ze (Vn X1i b1)<|Ze (Vn X1i f)<|Zf (Vc (F13 _ ((shrI c p y).getD rpZ) bQ bR J.rd.top bS bU L.rd.top ((shrI c p y).getD rpZ) b2 b3 d.rd.top b5 b6 e.rd.top (Nat.le_trans aF.1 (by decide)) (Nat.le_trans aF.2 (by decide))) Xjw) ?_;rintro _ w33 ⟨rfl,b⟩;have m:=btr m b;have Q:=btr Q b;refine Ze (X0y rfl)<|Zm rfl ?_
  refine Zg 109 rfl (fun H=>?_) (fun H=>?_)
  ·refine Zp (gP H) ?_;refine Zp (gP H) ?_;refine Zp (gP H) ?_;refine Ze (Xp rfl H rfl) ?_;refine Zn fun a t=>?_
   have W:Below w32.heap.size w32 w33:=Q
   exact ⟨t.sub ⟨rfl,rfl,X1 rfl (by first|rfl|(simp only [B,z,A,D,E,aG,aA,aB,H,Bool.true_and,Bool.false_and,Bool.true_or,Bool.false_or];done)|(simp [B,z,A,D,E,aG,aA,aB,H];done)|(exfalso;revert H;simp)),trivial⟩,W⟩
  refine Zv (gW H) (Xa rfl) ?_;refine Zv (gW H) (Xa rfl) ?_;refine Zv (gW H) (Xjs Tryz.underlying4 rfl rfl) ?_;refine Ze (Xk rfl H rfl) ?_;refine Zn fun a t=>?_
  have W:Below w32.heap.size w32 w33:=Q
  exact ⟨t.sub ⟨rfl,rfl,X1 rfl (by first|rfl|(simp only [B,z,A,D,E,aG,aA,aB,H,Bool.true_and,Bool.false_and,Bool.true_or,Bool.false_or];done)|(simp [B,z,A,D,E,aG,aA,aB,H];done)|(exfalso;revert H;simp)),trivial⟩,W⟩
 rintro a g9 ⟨t,b⟩;have j:=j.below b;have g:=g.below b;have i:=i.below b;have m:=btr m b;refine eN _ _<|X5w t (X1 rfl A) ?_;refine wp_skip<|eM _ _<|Zs t fun _ eO=>?_;refine Za rfl<|Zx eO fun a t _ eP=>?_;refine Ze (Vn X1i j)<|Zm rfl<|Zf (Vc (Xq9 _ aK aL (((shrI c p y).getD rpZ).old).length (markG 1 (((shrI c p y).getD rpZ).old).length) (X2b _ _).symm g.rd.top aM aN (((shrI c p y).getD rpZ).new).length (markG (1+3*((((shrI c p y).getD rpZ).old).length:Int)) (((shrI c p y).getD rpZ).new).length) (X2b _ _).symm i.rd.top (((shrI c p y).getD rpZ).pos) 1 (by decide) (by rw [X2b];exact (Nat.le_trans aF.1 (by decide))) (by rw [X2b];exact (Nat.le_trans aF.2 (by decide)))) Xgk) ?_;rintro _ gA ⟨rfl,b⟩;have m:=btr m b;refine Za rfl<|ZX eP fun a t _ eQ=>?_;refine Zs t fun _ eR=>?_;refine Zm rfl<|Ze (X12 rfl rfl)<|Zt eR fun a t=>?_;refine X5w t (X1 rfl aA) ?_;refine wp_skip<|eQ _ _<|wp_seq_k fun _ eS=>?_;refine Zs t fun _ eT=>?_;refine Zm rfl<|Zm rfl<|Ze (X2d rfl rfl)<|Zt eT fun a t=>?_;refine X5w t (X1 rfl aB) ?_;refine wp_skip<|eS _ _<|Zs t fun _ eU=>?_;refine Za rfl<|Zt eU fun a t=>?_
 refine wp_ret (X2 t (Xv t rfl rfl) ?_)
 exact ⟨rfl,m⟩
end Go.Proofs.YtblmmikapnflcaaGreatDoor
namespace Go.Proofs.YtblmmikapnflcaaGreatDoor
open Go.ChangeShapes Go.WideShapes Go.ChangeAt Go.RowKit Go.Deep Go.Joins
set_option linter.unusedVariables false
set_option maxRecDepth 100000 in
theorem Xbc(os:Os)(started:os.Started)(H:Type)(enc:TypeId×Value→H) :
  ReturnsInHanded {} Tryz.checked os 4 .any (fun w args=>(Rows.fnExactShorterRunSpec.pre enc Tryz.prog Tryz.f4 [] false w args∧laidMetH Tryz.prog Rows.fnExactShorterRunRow.laid w)∧sizedMet enc Tryz.prog Tryz.f4 (OpenSpec.ofChange Rows.fnExactShorterRunSpec) false w args)
   (Rows.fnExactShorterRunSpec.post enc Tryz.prog Tryz.f4 false true false false):=by
 refine returnsInHanded_of_change_and (C:=Tryz.checked) (X:=fun w _=>laidMetH Tryz.prog Rows.fnExactShorterRunRow.laid w) (fun _ _ _ hh h=>h.of_heap hh) own started (by kernel_rfl) Tryz.func4
  (ChangeSpec.witness_shaped (enc:=enc) (C:=Tryz.checked) (os:=os) (X:=fun w _=>laidMetH Tryz.prog Rows.fnExactShorterRunRow.laid w) false (World.laidAll Tryz.prog os Rows.fnExactShorterRunRow.laid) #[.agg #[.int .i64 0,.slice none 0 0],.int .i64 0,.slice none 0 0] 8 (World.laidAll_os _ _ _)
   (World.shaped_of_ZipB (by kernel_rfl) (by kernel_rfl)) (by kernel_rfl) (by kernel_rfl) (by kernel_rfl)
   (by rw [MakeChecks.laidMetH_plain _ _ _ (by kernel_rfl)];exact laidMet_laidAll _ (by kernel_rfl) (by kernel_rfl))) ?_
 intro W base args ds gs before hval0 hW _ _ hL _
 have hval:∀ (j:Nat) t v,Tryz.f4.params[j]? = some t→args[j]? = some v→Value.okWide Tryz.prog W .any base t v:=hval0
 have hW':=hW
 obtain ⟨p,q,hA0,hV,rfl,hfz,hnd⟩:=hW
 have hA:DataW.TrodAll enc Tryz.prog W 0 (fun _=>true) true Tryz.f4.params.toList args.toList ds p:=hA0
 rw [Tryz.params4] at hA hval
 obtain ⟨v0,v1,v2,d0,d1,d2,p0,p1,p2,rfl,rfl,rfl,h0,h1,h2⟩:=trodAll_three hA;obtain ⟨rfl,rfl⟩:=trodVars_none hV;have h0k:=h0;have h2k:=h2
 obtain ⟨c,A,i,E,rfl,hr0,hl0⟩:=Xif (hval 0 42 v0 rfl rfl) h0 (fun _=>rfl)
 obtain ⟨n,rfl,rfl,rfl,wn⟩:=open_int Tryz.underlying3 (hval 1 3 v1 rfl rfl) h1
 obtain ⟨B,l,k,F,rfl,hr2,hl2⟩:=Xlz (hval 2 43 v2 rfl rfl) h2 (fun _=>rfl)
 clear hA0 hval0
 simp only [List.append_nil] at hW'
 have hlt:∀ x ∈ p0++p2,x.block<W.heap.size:=fun x hx=>hW'.lt x (by simpa using hx)
 have hPow:=Xt3 hL;refine Calls.mono (Xuq W c A i hr0 n B k l hr2 hl0 hl2 hPow) fun r W' ⟨v,he,hv,hb⟩=>?_
 subst hv
 refine ⟨_,he,Xf3 (pa:=p0++([]++p2)) (pv:=[]) hW' (fun _ _ _=>trodAll_mk1 (shut_bool Tryz.underlying4 true)) (fun sp hsp=>?_) (fun _ _=>rfl) (by simp) hb⟩
 exact trodAll_mk3 (WideElems.Trod_stays Xfq (by kernel_rfl) (of_decide_eq_true (by kernel_rfl)) h0k (fun x hx=>hb.same (hlt x (List.mem_append_left _ hx))) (fun x hx=>hsp x (by simp [hx])))
  (shut_int Tryz.underlying3 wn) (WideElems.Trod_stays Xfq (by kernel_rfl) (of_decide_eq_true (by kernel_rfl)) h2k (fun x hx=>hb.same (hlt x (List.mem_append_right _ hx))) (fun x hx=>hsp x (by simp [hx])))
theorem Xhu:Rows.FnExactShorterRunSaid:=
 OpenClaim.holds_of_wide 4 Tryz.f4 rfl rfl rfl rfl rfl rfl rfl ⟨rfl,rfl,rfl,rfl,rfl⟩ rfl rfl rfl rfl rfl (by kernel_rfl) Tryz.func4 (by kernel_rfl)
  (of_decide_eq_true (by kernel_rfl)) (by unfold Func.isWrapper;first|(rw [if_pos (by decide +kernel)];kernel_rfl)|(rw [if_neg (by decide +kernel)];exact ⟨rfl,rfl⟩))
  (fun os started H enc _=>Xbc os started H enc)
theorem Xj2 : Tryz.prog.funcNamed "loop.example/g00864/laws.FnExactShorterRun" = some 4 := by kernel_rfl
theorem Xb5:Tryz.prog.wantsStandIn 42=false:=by kernel_rfl
theorem Xbh:Tryz.prog.wantsStandIn 3=false:=by kernel_rfl
theorem Xbk:Tryz.prog.wantsStandIn 43=false:=by kernel_rfl
theorem shrun_holds:Rows.FnExactShorterRunCardSaid:=
 Claim7.holds_tied_plain_at .later [] [.data, .data, .data] true (true, "d67b8a333686db2ad90547f7332ed44c940649eedb26d49b61633b9a266fa1e5") false
  Xhu (fun _ h=>by cases h) (by kernel_rfl) (fun _ h=>by cases h) fnExactShorterRun_row_tie rfl ⟨rfl,rfl⟩ (by kernel_rfl) rfl
  (fun f fn hf hfn=>by
   obtain rfl:f=4:=Option.some.inj (Xj2.symm.trans hf) |>.symm
   obtain rfl:fn=Tryz.f4:=(Option.some.inj (Tryz.func4.symm.trans hfn)).symm
   exact ⟨by kernel_rfl,fun j t ht=>by
    rw [Tryz.params4] at ht
    have hm:=Array.mem_of_getElem? ht
    simp only [List.mem_toArray,List.mem_cons,List.mem_nil_iff,or_false] at hm
    rcases hm with rfl|rfl|rfl
    ·exact Xb5
    ·exact Xbh
    ·exact Xbk⟩)
  (by kernel_rfl)
end Go.Proofs.YtblmmikapnflcaaGreatDoor
