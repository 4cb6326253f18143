/-
  For every circuit, the program's CompareTCounts returns what the reference's returns and leaves its argument as it was.
-/
import Derived.Test.YtpifljegadknkaaGreatR2
import Derived.Test.YtpifljegadknkaaGreatR1
set_option linter.unusedVariables false
set_option linter.unusedSimpArgs false
set_option maxRecDepth 4000
set_option linter.unusedSectionVars false
namespace Go.Proofs.YtpifljegadknkaaGreat
open Go.RowKit
theorem Xun(w0:World)(d:Dg)(md:Nat)(M:md=d.ns.length)(Ad:Option Addr)(cd:Nat)(W:Rd w0 w0.heap.size 81 encNd Ad d.ns)(Bd:Option Addr)(dd:Nat)(a7:Rd w0 w0.heap.size 83 encWr Bd d.ws)(N:d.ws.length≤dd)(p:Int)(q:Int)(hD:InD d) : Ret Tryz.prog 175 [.agg #[vi d.n,.slice Ad md cd,.slice Bd d.ws.length dd,vi d.t,vi d.r],vi p,vi q] w0 (fun v w=>∃ A c B e,v=.tuple #[.agg #[vi (if (fuC d p q)=true then fuD d p q else d).n,.slice A md c,.slice B (if (fuC d p q)=true then fuD d p q else d).ws.length e,vi (if (fuC d p q)=true then fuD d p q else d).t,vi (if (fuC d p q)=true then fuD d p q else d).r],.bool (fuC d p q)]∧Rd w w.heap.size 81 encNd A (if (fuC d p q)=true then fuD d p q else d).ns∧Rd w w.heap.size 83 encWr B (if (fuC d p q)=true then fuD d p q else d).ws∧(if (fuC d p q)=true then fuD d p q else d).ws.length≤e∧md=(if (fuC d p q)=true then fuD d p q else d).ns.length∧Below w0.heap.size w0 w):=by
 have cP:=hD.len;have cQ:=hD.m;have cR:=X1y d.ws q;refine enter Tryz.func175 rfl 69 rfl rfl ?_;intro a J
 have x:=bz w0
 refine Zs J fun _ cB=>?_;refine Zf (X0h (zs:=[vi d.n,.slice Ad md cd,.slice Bd d.ws.length dd,vi d.t,vi d.r]) rfl rfl) ?_;rintro _ w1 ⟨b4,rfl,cC,h,f⟩;have cL:=Q0 x.size cC;have x:=btr x h;refine Zf (X00 (zs:=[vi 0,.slice none 0 0,.slice none 0 0,vi 0,vi 0]) X0o rfl) ?_;rintro _ w2 ⟨b7,rfl,cD,h,i⟩
 have cA:b4≠b7:=by have:=f.lt;omega
 have aR:=Q0 x.size cD;have f:=f.below h;have x:=btr x h;refine Za rfl<|ZX cB fun a J _ cE=>?_;refine Q5 fun _ cF=>?_;refine X09 (fun a w=>Fr a 69 [(1,vi p),(2,vi q),(3,.pointer (some ⟨b4,0,none⟩)),(6,.pointer (some ⟨b7,0,none⟩)),(32,.bool ((((!(spI d.ns p))||(!(spI d.ns q)))||(decide (q≤p)))||((tyW d.ws p q) != 1)))]∧Below w2.heap.size w2 w) ?_ ?_
 ·have aA:Below w2.heap.size w2 w2:=Below.refl _ _
  refine Zr J<|Ze (Vn X2 f)<|Zm rfl<|Zf (Vc (X5o _ d md M Ad cd (W.below' x).top Bd dd (a7.below' x).top N p (by rw [M];exact hD.m)) X2s) ?_;rintro _ w3 ⟨rfl,h⟩;have f:=f.below h;have x:=btr x h;have aA:=btr aA h;refine Ze (X0y rfl)<|Zm rfl ?_
  refine Zg 15 rfl (fun C=>?_) (fun C=>?_)
  ·refine Zp (gP C) ?_;refine Zp (gP C) ?_;refine Zp (gP C) ?_;refine Zp (gP C) ?_;refine Ze (X8 rfl C rfl)<|Zm rfl<|Zp (gP rfl) ?_;refine Zp (gP rfl) ?_;refine Zp (gP rfl) ?_;refine Ze (X8 rfl rfl rfl)<|Zm rfl<|Zp (gP rfl) ?_;refine Zp (gP rfl) ?_;refine Zp (gP rfl) ?_;refine Zp (gP rfl) ?_;refine Zp (gP rfl) ?_;refine Ze (X8 rfl rfl rfl) ?_;refine Zn fun a J=>?_
   have aI:Below w2.heap.size w2 w3:=aA
   exact ⟨J.sub ⟨rfl,rfl,rfl,rfl,X1 rfl (by first|rfl|(simp only [C,bs];done)|simp [C]),trivial⟩,aI⟩
  refine Zv (gW C) (Vn X2 f) ?_;refine Zv (gW C) (X3 rfl) ?_;refine Zk (gW C) (Vc (X5o _ d md M Ad cd (W.below' x).top Bd dd (a7.below' x).top N q (by rw [M];exact hD.m)) X2s) ?_;rintro _ w4 ⟨rfl,h⟩;have f:=f.below h;have x:=btr x h;have aA:=btr aA h;refine Zv (gW C) (X0y rfl) ?_;refine Ze (Xe rfl C rfl)<|Zm rfl ?_
  refine Zg 21 rfl (fun G=>?_) (fun G=>?_)
  ·refine Zp (gP G) ?_;refine Zp (gP G) ?_;refine Zp (gP G) ?_;refine Ze (X8 rfl G rfl)<|Zm rfl<|Zp (gP rfl) ?_;refine Zp (gP rfl) ?_;refine Zp (gP rfl) ?_;refine Zp (gP rfl) ?_;refine Zp (gP rfl) ?_;refine Ze (X8 rfl rfl rfl) ?_;refine Zn fun a J=>?_
   have aI:Below w2.heap.size w2 w4:=aA
   exact ⟨J.sub ⟨rfl,rfl,rfl,rfl,X1 rfl (by first|rfl|(simp only [C,G,bs];done)|simp [C,G]),trivial⟩,aI⟩
  refine Zv (gW G) (X3 rfl) ?_;refine Zv (gW G) (X3 rfl) ?_;refine Zv (gW G) (X4m rfl rfl) ?_;refine Ze (Xe rfl G rfl)<|Zm rfl ?_
  refine Zg 26 rfl (fun D=>?_) (fun D=>?_)
  ·refine Zp (gP D) ?_;refine Zp (gP D) ?_;refine Zp (gP D) ?_;refine Zp (gP D) ?_;refine Zp (gP D) ?_;refine Ze (X8 rfl D rfl) ?_;refine Zn fun a J=>?_
   have aI:Below w2.heap.size w2 w4:=aA
   exact ⟨J.sub ⟨rfl,rfl,rfl,rfl,X1 rfl (by first|rfl|(simp only [C,G,D,bs];done)|simp [C,G,D]),trivial⟩,aI⟩
  refine Zv (gW D) (Vn X2 f) ?_;refine Zv (gW D) (X3 rfl) ?_;refine Zv (gW D) (X3 rfl) ?_;refine Zk (gW D) (Vc (X89 _ d md M Ad cd (W.below' x).top Bd dd (a7.below' x).top N p q (by have:=hD.len;omega)) X4i) ?_;rintro _ w5 ⟨rfl,h⟩;have x:=btr x h;have aA:=btr aA h;refine Zv (gW D) (X18 rfl rfl) ?_;refine Ze (Xe rfl D rfl) ?_;refine Zn fun a J=>?_
  have aI:Below w2.heap.size w2 w5:=aA
  exact ⟨J.sub ⟨rfl,rfl,rfl,rfl,X1 rfl (by first|rfl|(simp only [C,G,D,bs];done)|simp [C,G,D]),trivial⟩,aI⟩
 rintro a w6 ⟨J,h⟩;have f:=f.below h;have i:=i.below h;have x:=btr x h;refine cF _ _ ?_
 refine Xh J rfl (fun aD=>?_) (fun aD=>?_)
 ·have aT:=aD
  have cG:fuC d p q=false:=Xu3 aD
  refine Zs J fun _ b1=>?_;refine Ze (Vn X2 f)<|Zo (Vw [vi d.n,.slice Ad md cd,.slice Bd d.ws.length dd,vi d.t,vi d.r] Xl i) ?_;rintro _ w7 ⟨ho,hb⟩;have L:=i;have x:=Below.only x ho aR;have i:=hb;refine Za rfl<|Zt b1 fun a J=>?_;refine Q6<|X7<|X5 J (X1o J rfl (ResV.cellN (l:=[vi d.n,.slice Ad md cd,.slice Bd d.ws.length dd,vi d.t,vi d.r]) rfl X2 (i.at 0) rfl) rfl) ?_
  rw [cG,Q3 Bool.false_ne_true]
  exact ⟨Ad,cd,Bd,dd,rfl,(W.below' x).top,(a7.below' x).top,N,M,x⟩
 have aT:=aD
 have b2:fuC d p q=true:=Xp5 aD
 obtain ⟨b3,b5⟩:=Xca b2;refine Q7<|cE _ _<|Zs J fun _ b6=>?_;refine Ze (Vn X2 f)<|Zf (Vc (X9d _ d md M Ad cd (W.below' x).top Bd dd (a7.below' x).top N ⟨by have:=hD.m;omega,by have:=hD.len;omega⟩) X55) ?_;rintro _ w8 ⟨aM,aN,cH,cJ,rfl,y,aK,h⟩;have y:=y.lower x.size;have aK:=aK.lower x.size;have f:=f.below h;have i:=i.below h;have x:=btr x h;refine Zm rfl<|Zf (Vc (X8p _ d d.ns.length rfl aM aN _ y x.size cH cJ aK.rd.top aK.cap q ⟨b5.1,by omega⟩ (by omega)) X5h) ?_;rintro _ w9 ⟨b8,b9,rfl,a6,a8,bA,bB,hg⟩;have E:=y;have f:=f.appT E hg rfl;have i:=i.appT E hg rfl;have x:=Below.app x E hg (Qb _) x.size
 clear E hg;clear y;have y:=a6;clear a6;refine Zf (X00 (zs:=[vi 0,.slice none 0 0,.slice none 0 0,vi 0,vi 0]) X0o rfl) ?_;rintro _ cS ⟨b21,rfl,bC,h,g⟩
 have bD:b4≠b21:=by have:=f.lt;omega
 have bE:b7≠b21:=by have:=i.lt;omega
 have aJ:=Q0 x.size bC;have f:=f.below h;have i:=i.below h;have y:=y.below h;have a8:=a8.below h;have x:=btr x h;refine Zo (Vw [vi (({ d with ns:=dpN d.ns q,ws:=dpW d.ws q } : Dg).n),.slice aM d.ns.length aN,.slice b8 (({ d with ns:=dpN d.ns q,ws:=dpW d.ws q } : Dg).ws).length b9,vi (({ d with ns:=dpN d.ns q,ws:=dpW d.ws q } : Dg).t),vi (({ d with ns:=dpN d.ns q,ws:=dpW d.ws q } : Dg).r)] Xl g) ?_;rintro _ cT ⟨ho,hb⟩;have L:=g;have f:=f.only ho (by omega);have i:=i.only ho (by omega);have y:=y.onlyT ho L rfl;have a8:=a8.onlyT ho L rfl;have x:=Below.only x ho aJ;have g:=hb;refine ZX b6 fun a J _ bF=>?_;refine X05 none (fun j=>[8,9].contains j) mixed ?_;intro cU h;have f:=f.below h;have i:=i.below h;have g:=g.below h;have y:=y.below h;have a8:=a8.below h;have x:=btr x h;refine Yb J<|Ye 0 rfl (Vn X2 g)<|Yo 1 rfl (fun _=>X3 rfl)<|Yo 2 rfl (fun _=>Vd rfl Xi 1)<|Ye 3 rfl (X0 rfl Xz (f.at 1))<|Yo 4 rfl (fun _=>X3 rfl)<|Yj (k:=q.toNat) (u:=(d.ns.getD q.toNat nZ)) (enc:=encNd) (l:=d.ns) 5 rfl trivial rfl M rfl Xo X07 Xt (W.below' x) (Xb b5.2) (by omega) ?_;intro cV aU;refine Yo 6 rfl (fun _=>X21 rfl X04)<|Ye 7 rfl (X0 rfl X9 (aU.drop 1))<|Y1 8 ?_;refine Yt rfl trivial rfl (Vc (X92 _ ({ d with ns:=dpN d.ns q,ws:=dpW d.ws q } : Dg) d.ns.length bB aM aN _ y x.size b8 b9 a8.top bA p ((d.ns.getD q.toNat nZ).p) ⟨b3.1,by rw [X1m];omega⟩ (Xtc hD p q)) X5c) ?_;rintro _ cW ⟨bG,bH,rfl,a6,aE,bJ,cM,hg⟩;have E:=y;have f:=f.appT E hg rfl;have i:=i.appT E hg rfl;have g:=g.appT E hg rfl
 have x:=Below.app x E hg (Qb _) x.size
 clear E hg;clear y;have y:=a6;clear a6;refine Y1 9<|Yh rfl trivial rfl (Vw [vi (({ ({ d with ns:=dpN d.ns q,ws:=dpW d.ws q } : Dg) with ns:=adN ({ d with ns:=dpN d.ns q,ws:=dpW d.ws q } : Dg).ns p ((d.ns.getD q.toNat nZ).p) } : Dg).n),.slice aM d.ns.length aN,.slice bG (({ ({ d with ns:=dpN d.ns q,ws:=dpW d.ws q } : Dg) with ns:=adN ({ d with ns:=dpN d.ns q,ws:=dpW d.ws q } : Dg).ns p ((d.ns.getD q.toNat nZ).p) } : Dg).ws).length bH,vi (({ ({ d with ns:=dpN d.ns q,ws:=dpW d.ws q } : Dg) with ns:=adN ({ d with ns:=dpN d.ns q,ws:=dpW d.ws q } : Dg).ns p ((d.ns.getD q.toNat nZ).p) } : Dg).t),vi (({ ({ d with ns:=dpN d.ns q,ws:=dpW d.ws q } : Dg) with ns:=adN ({ d with ns:=dpN d.ns q,ws:=dpW d.ws q } : Dg).ns p ((d.ns.getD q.toNat nZ).p) } : Dg).r)] Xl g) ?_;rintro _ cX ⟨ho,hb⟩;have L:=g;have f:=f.only ho (by omega);have i:=i.only ho (by omega);have y:=y.onlyT ho L rfl;have aE:=aE.onlyT ho L rfl;have x:=Below.only x ho aJ;have g:=hb;refine Yd fun a J=>?_;refine bF _ _<|Q5 fun _ bK=>?_;refine Zs J fun _ bL=>?_;refine Ze (Vn X2 f)<|Zm rfl<|Zf (Vc (X8o _ d md M Ad cd (W.below' x).top Bd dd (a7.below' x).top N q hD.w (by omega)) X59) ?_;rintro _ cY ⟨bM,bN,rfl,H,h⟩;have H:=H.lower x.size;have f:=f.below h;have i:=i.below h;have g:=g.below h;have y:=y.below h;have aE:=aE.below h;have x:=btr x h;refine Ze (X0c rfl Xj)<|Zm rfl<|Zt bL fun a J=>?_;refine Q8<|X01 (σ:=Nat×Dg) (fun (s:Nat×Dg) (a:Act) (w:World)=>match s with|(k,o)=>∃ aB aC aF aG,Fr a 69 [(1,vi p),(2,vi q),(3,.pointer (some ⟨b4,0,none⟩)),(6,.pointer (some ⟨b7,0,none⟩)),(8,.pointer (some ⟨b21,0,none⟩)),(49,.slice bM (nearW d.ws q).length bN),(50,vi ((nearW d.ws q).length:Int)),(51,vi (k:Int))]∧(k≤(nearW d.ws q).length)∧(o=fuS d p q ((nearW d.ws q).take k) (fu0 d p q))∧(d.ns.length=o.ns.length)∧(o.ws.length≤d.ws.length+k)∧(PhN o.ns)∧Blk w b4 39 [vi d.n,.slice Ad md cd,.slice Bd d.ws.length dd,vi d.t,vi d.r]∧Blk w b7 39 [vi 0,.slice none 0 0,.slice none 0 0,vi 0,vi 0]∧Blk w b21 39 [vi o.n,.slice aB d.ns.length aC,.slice aF o.ws.length aG,vi o.t,vi o.r]∧Own w w0.heap.size 3 1 encI bM bN (nearW d.ws q)∧Own w w0.heap.size 81 2 encNd aB aC o.ns∧Rd w w.heap.size 83 encWr aF o.ws∧d.ws.length≤dd∧o.ws.length≤aG∧Below w0.heap.size w0 w) (fun (s:Nat×Dg)=>match s with|(k,o)=>(nearW d.ws q).length-k) (0,(fu0 d p q)) ?_ ?_
 ·exact ⟨aM,aN,bG,bH,J.sb,(Qf _),rfl,(X6g d p q).1.symm,(X6g d p q).2,(Xh9 hD p q),f,i,g,H,y,aE.top,N,bJ,x⟩
 rintro ⟨k,o⟩ a d5 ⟨aB,aC,aF,aG,J,hk,bO,aL,d6,aO,f,i,g,H,I,Q,N,aW,x⟩;refine Zs J fun _ bP=>?_;refine Ze (X0m rfl rfl)<|ZX bP fun a J _ bR=>?_
 refine Xh J rfl (fun U=>?_) (fun U=>?_)
 ·have aX:=U;have U:=Q2 U
  obtain ⟨d7,cN⟩:=X4 (l:=(nearW d.ws q)) (k:=k) (by omega)
  obtain ⟨u9,aY⟩:=X4 (l:=nearW d.ws q) (k:=k) (by have:=U;omega)
  have cK:=X61 hD aY;have aP:=X9s (d:=d) (a:=p) (b:=q) (o:=fu0 d p q) aY
  rw [← bO] at aP
  refine Q7<|bR _ _<|Q5 fun _ aS=>?_;refine Q8<|Zs J fun _ bS=>?_;refine Zi (k:=k) (u:=u9) (enc:=encI) (l:=(nearW d.ws q)) trivial rfl rfl Xj X08 Xa H.rd aY rfl ?_;intro d8 aZ;refine Ze (X0 rfl X9 aZ)<|Za rfl<|Zx bS fun a J _ bT=>?_;refine Zm rfl<|Zm rfl<|Ze (X18 rfl rfl)<|Zt bT fun a J=>?_
  refine Xh J rfl (fun aH=>?_) (fun aH=>?_)
  ·have b0:=aH
   rw [Xnx aH] at aP
   refine X05 none (fun j=>[8,9].contains j) mixed ?_;intro d9 h;have f:=f.below h;have i:=i.below h;have g:=g.below h;have H:=H.below h;have I:=I.below h;have Q:=Q.below h;have x:=btr x h;refine Yb J<|Ye 0 rfl (Vn X2 g)<|Yo 1 rfl (fun _=>X3 rfl)<|Yo 2 rfl (fun _=>X3 rfl)<|Ye 3 rfl (Vn X2 f)<|Yo 4 rfl (fun _=>X3 rfl)<|Yo 5 rfl (fun _=>X3 rfl)<|Y1 6 ?_;refine Yk rfl trivial (Vc (X89 _ d md M Ad cd (W.below' x).top Bd dd (a7.below' x).top N q u9 (by have:=hD.len;omega)) X4i) (fun _ _ ⟨_,h⟩=>h) ?_;rintro _ dB ⟨rfl,h⟩;have f:=f.below h;have i:=i.below h;have g:=g.below h;have H:=H.below h;have I:=I.below h;have Q:=Q.below h;have x:=btr x h;refine Yo 7 rfl (fun _=>X0a rfl rfl)<|Y1 8 ?_;refine Yt rfl trivial rfl (Vc (Xnl _ o d.ns.length aL aB aC _ I x.size aF aG Q.top aW p u9 ((tyW d.ws q u9)==2) (by omega) ⟨⟨b3.1,by omega⟩,⟨cK.1,by omega⟩⟩ aO (by omega)) Xe2) ?_;rintro _ dC ⟨bU,bW,rfl,a6,aQ,bX,cO,hg⟩;have E:=I;have f:=f.appT E hg rfl;have i:=i.appT E hg rfl;have g:=g.appT E hg rfl;have H:=H.appT E hg rfl;have x:=Below.app x E hg (Qb _) x.size
   clear E hg;clear I;have I:=a6;clear a6;refine Y1 9<|Yh rfl trivial rfl (Vw [vi ((mtD o p u9 ((tyW d.ws q u9)==2)).n),.slice aB d.ns.length aC,.slice bU ((mtD o p u9 ((tyW d.ws q u9)==2)).ws).length bW,vi ((mtD o p u9 ((tyW d.ws q u9)==2)).t),vi ((mtD o p u9 ((tyW d.ws q u9)==2)).r)] Xl g) ?_;rintro _ dD ⟨ho,hb⟩;have L:=g;have f:=f.only ho (by omega);have i:=i.only ho (by omega);have H:=H.onlyT ho L rfl;have I:=I.onlyT ho L rfl;have aQ:=aQ.onlyT ho L rfl;have x:=Below.only x ho aJ;have g:=hb;refine Yd fun a J=>?_;refine Xd<|aS _ _<|Zr J<|Ze (Xu rfl rfl (by omega) (by omega))<|Zm rfl ?_;refine Zn fun a J=>?_;refine Xf ?_;exact ⟨(k+1,(mtD o p u9 ((tyW d.ws q u9)==2))),⟨aB,aC,bU,bW,J.sb,(by omega),(by rw [aP]),(by first|exact aL|exact aL.trans (X5x _ _ _ _).1.symm),(by first|omega|(have:=(X5x o p u9 (tyW d.ws q u9==2)).2;omega)),(by first|exact aO|exact Xjd aO _ _ _),f,i,g,H,I,aQ.top,N,bX,x⟩,(by first|omega|(dsimp only;omega))⟩
  have b0:=aH
  rw [Xos aH] at aP
  refine Q7<|Xd<|aS _ _<|Zr J ?_;refine Ze (Xu rfl rfl (by omega) (by omega))<|Zm rfl ?_;refine Zn fun a J=>?_;refine Xf ?_;exact ⟨(k+1,o),⟨aB,aC,aF,aG,J.sb,(by omega),(by rw [aP]),(by first|exact aL|exact aL.trans (X5x _ _ _ _).1.symm),(by first|omega|(have:=(X5x o p u9 (tyW d.ws q u9==2)).2;omega)),(by first|exact aO|exact Xjd aO _ _ _),f,i,g,H,I,Q.top,N,aW,x⟩,(by first|omega|(dsimp only;omega))⟩
 have aX:=U;have U:=Q1 U
 have bY:o=fuD d p q:=by rw [bO,Qi (by have:=U;omega)];rfl
 refine Q9<|Xk<|Xk<|X03 ?_;refine bK _ _<|Zs J fun _ c4=>?_;refine Ze (Vn X2 g)<|Zo (Vw [vi o.n,.slice aB d.ns.length aC,.slice aF o.ws.length aG,vi o.t,vi o.r] Xl i) ?_;rintro _ dE ⟨ho,hb⟩;have L:=i;have I:=I.onlyT ho L rfl;have Q:=Q.onlyT ho L rfl;have x:=Below.only x ho aR;have i:=hb;refine Za rfl<|Zt c4 fun a J=>?_
 refine Q6 (X5 J (X1o J rfl (ResV.cellN (l:=[vi o.n,.slice aB d.ns.length aC,.slice aF o.ws.length aG,vi o.t,vi o.r]) rfl X2 (i.at 0) rfl) rfl) ?_)
 rw [b2,Q4 rfl,← bY,M]
 exact ⟨aB,aC,aF,aG,rfl,I.rd.top,Q.top,aW,aL,x⟩
theorem Xrx(w0:World)(d:Dg)(md:Nat)(y:md=d.ns.length)(Ad:Option Addr)(cd:Nat)(D:Rd w0 w0.heap.size 81 encNd Ad d.ns)(Bd:Option Addr)(dd:Nat)(G:Rd w0 w0.heap.size 83 encWr Bd d.ws)(I:d.ws.length≤dd)(p:Int)(hD:InD d) : Ret Tryz.prog 177 [.agg #[vi d.n,.slice Ad md cd,.slice Bd d.ws.length dd,vi d.t,vi d.r],vi p] w0 (fun v w=>∃ A c B e,v=.tuple #[.agg #[vi (if (idC d p)=true then idD d p else d).n,.slice A md c,.slice B (if (idC d p)=true then idD d p else d).ws.length e,vi (if (idC d p)=true then idD d p else d).t,vi (if (idC d p)=true then idD d p else d).r],.bool (idC d p)]∧Rd w w.heap.size 81 encNd A (if (idC d p)=true then idD d p else d).ns∧Rd w w.heap.size 83 encWr B (if (idC d p)=true then idD d p else d).ws∧(if (idC d p)=true then idD d p else d).ws.length≤e∧md=(if (idC d p)=true then idD d p else d).ns.length∧Below w0.heap.size w0 w):=by
 have bL:=hD.len;have bM:=hD.m;have bN:=X1y d.ws p;refine enter Tryz.func177 rfl 52 rfl rfl ?_;intro a H
 have i:=bz w0
 refine Zs H fun _ b8=>?_;refine Zf (X0h (zs:=[vi d.n,.slice Ad md cd,.slice Bd d.ws.length dd,vi d.t,vi d.r]) rfl rfl) ?_;rintro _ w1 ⟨b4,rfl,b9,q,C⟩;have bE:=Q0 i.size b9;have i:=btr i q;refine Zf (X00 (zs:=[vi 0,.slice none 0 0,.slice none 0 0,vi 0,vi 0]) X0o rfl) ?_;rintro _ w2 ⟨b7,rfl,bA,q,f⟩
 have b6:b4≠b7:=by have:=C.lt;omega
 have aB:=Q0 i.size bA;have C:=C.below q;have i:=btr i q;refine Za rfl<|ZX b8 fun a H _ bB=>?_;refine Q5 fun _ bC=>?_;refine X09 (fun a w=>Fr a 52 [(1,vi p),(2,.pointer (some ⟨b4,0,none⟩)),(4,.pointer (some ⟨b7,0,none⟩)),(19,.bool ((!(spI d.ns p))||(((d.ns.getD p.toNat nZ).p) != 0)))]∧Below w2.heap.size w2 w) ?_ ?_
 ·have aE:Below w2.heap.size w2 w2:=Below.refl _ _
  refine Zr H<|Ze (Vn X2 C)<|Zm rfl<|Zf (Vc (X5o _ d md y Ad cd (D.below' i).top Bd dd (G.below' i).top I p (by rw [y];exact hD.m)) X2s) ?_;rintro _ w3 ⟨rfl,q⟩;have C:=C.below q;have i:=btr i q;have aE:=btr aE q;refine Ze (X0y rfl)<|Zm rfl ?_
  refine Zg 11 rfl (fun b=>?_) (fun b=>?_)
  ·refine Zp (gP b) ?_;refine Zp (gP b) ?_;refine Zp (gP b) ?_;refine Zp (gP b) ?_;refine Zp (gP b) ?_;refine Zp (gP b) ?_;refine Zp (gP b) ?_;refine Ze (X8 rfl b rfl) ?_;refine Zn fun a H=>?_
   have aH:Below w2.heap.size w2 w3:=aE
   exact ⟨H.sub ⟨rfl,rfl,rfl,X1 rfl (by first|rfl|(simp only [b,bs];done)|simp [b]),trivial⟩,aH⟩
  have aI:0≤p∧p.toNat<d.ns.length:=by have h9:=X11 (ns:=d.ns) (k:=p) (by simpa using b);exact ⟨h9.1,h9.2.1⟩
  refine Zv (gW b) (Vd rfl Xi 1) ?_;refine Zv (gW b) (X0 rfl Xz (C.at 1)) ?_;refine Zv (gW b) (X3 rfl) ?_;refine Zj (k:=p.toNat) (u:=(d.ns.getD p.toNat nZ)) (enc:=encNd) (l:=d.ns) ⟨_,_,rfl,rfl,b⟩ rfl y rfl Xo X07 Xt (D.below' i) (Xb aI.2) (by omega) ?_;intro bO aJ;refine Zv (gW b) (X21 rfl X04) ?_;refine Zv (gW b) (X0 rfl X9 (aJ.drop 1)) ?_;refine Zv (gW b) (X18 rfl rfl) ?_;refine Ze (Xe rfl b rfl) ?_;refine Zn fun a H=>?_
  have aH:Below w2.heap.size w2 w3:=aE
  exact ⟨H.sub ⟨rfl,rfl,rfl,X1 rfl (by first|rfl|(simp only [b,bs];done)|simp [b]),trivial⟩,aH⟩
 rintro a w4 ⟨H,q⟩;have C:=C.below q;have f:=f.below q;have i:=btr i q;refine bC _ _ ?_
 refine Xh H rfl (fun U=>?_) (fun U=>?_)
 ·have aK:=U;obtain ⟨aL,bF⟩:=Xco U;refine Zs H fun _ aR=>?_;refine Ze (Vn X2 C)<|Zo (Vw [vi d.n,.slice Ad md cd,.slice Bd d.ws.length dd,vi d.t,vi d.r] Xl f) ?_;rintro _ w5 ⟨ho,hb⟩;have a8:=f;have i:=Below.only i ho aB;have f:=hb;refine Za rfl<|Zt aR fun a H=>?_;refine Q6<|X7<|X5 H (X1o H rfl (ResV.cellN (l:=[vi d.n,.slice Ad md cd,.slice Bd d.ws.length dd,vi d.t,vi d.r]) rfl X2 (f.at 0) rfl) rfl) ?_
  rw [aL,Q3 Bool.false_ne_true]
  exact ⟨Ad,cd,Bd,dd,rfl,(D.below' i).top,(G.below' i).top,I,y,i⟩
 have aK:=U;have aM:=Xao U
 have aI:0≤p∧p.toNat<d.ns.length:=⟨(X11 aM.1).1,(X11 aM.1).2.1⟩
 refine Q7<|bB _ _<|Zs H fun _ aS=>?_;refine Ze (Vn X2 C)<|Zm rfl<|Zf (Vc (X8o _ d md y Ad cd (D.below' i).top Bd dd (G.below' i).top I p hD.w (by omega)) X59) ?_;rintro _ w6 ⟨bP,bR,rfl,E,q⟩;have E:=E.lower i.size;have C:=C.below q;have f:=f.below q;have i:=btr i q;refine Za rfl<|ZX aS fun a H _ aT=>?_;refine Zs H fun _ aU=>?_;refine Zm rfl<|Ze (X0c rfl Xj)<|Ze (X18 rfl rfl)<|Zt aU fun a H=>?_
 refine Xh H rfl (fun W=>?_) (fun W=>?_)
 ·have aN:=W;have aL:=Xgm W;refine Zs H fun _ aW=>?_;refine Ze (Vn X2 C)<|Zo (Vw [vi d.n,.slice Ad md cd,.slice Bd d.ws.length dd,vi d.t,vi d.r] Xl f) ?_;rintro _ w7 ⟨ho,hb⟩;have a8:=f;have i:=Below.only i ho aB;have f:=hb;refine Za rfl<|Zt aW fun a H=>?_;refine Q6<|X7<|X5 H (X1o H rfl (ResV.cellN (l:=[vi d.n,.slice Ad md cd,.slice Bd d.ws.length dd,vi d.t,vi d.r]) rfl X2 (f.at 0) rfl) rfl) ?_
  rw [aL,Q3 Bool.false_ne_true]
  exact ⟨Ad,cd,Bd,dd,rfl,(D.below' i).top,(G.below' i).top,I,y,i⟩
 have aN:=W;obtain ⟨bD,bS⟩:=Xf8 aM W
 have aX:=X7f hD (k:=p) (j:=0) (by omega)
 have aY:=X7f hD (k:=p) (j:=1) (by omega)
 refine Q7<|aT _ _<|Q5 fun _ aZ=>?_;refine X05 (some (.base w6.heap.size)) (fun j=>[23,24].contains j) mixed ?_;have aC:=C;have bG:=f;have bH:=(D.below' i);have bJ:=(G.below' i);have Q:=E;intro w8 q;have o:=q;have f:=f.below q;have E:=E.below q;have i:=btr i q;refine Yb H<|Yn 0 rfl trivial o.size (fun w9 h9=>by have J:=aC.below (o.trans h9);exact X02 (l:=[vi d.n,.slice Ad md cd,.slice Bd d.ws.length dd,vi d.t,vi d.r]) rfl X2 (J.at 0) rfl) ?_;refine Yo 2 rfl (fun _=>X3 rfl)<|Yo 4 rfl (fun _=>X3 rfl)<|Yo 5 rfl (fun _=>Xg (k:=0) rfl rfl Xj X08 E rfl rfl (by omega)) ?_;refine Yn 6 rfl trivial o.size (fun w9 h9=>by have x:=Q.below (o.trans h9);exact X0 rfl X9 (X0d x Xa (Xb (k:=0) (d:=(0:Int)) (by omega)) 0 rfl)) ?_;refine Yo 7 rfl (fun _=>X3 rfl)<|Yo 8 rfl (fun _=>Xg (k:=1) rfl rfl Xj X08 E rfl rfl (by omega)) ?_;refine Yn 9 rfl trivial o.size (fun w9 h9=>by have x:=Q.below (o.trans h9);exact X0 rfl X9 (X0d x Xa (Xb (k:=1) (d:=(0:Int)) (by omega)) 0 rfl)) ?_;refine Yn 10 rfl trivial o.size (fun w9 h9=>by have J:=aC.below (o.trans h9);exact X02 (l:=[vi d.n,.slice Ad md cd,.slice Bd d.ws.length dd,vi d.t,vi d.r]) rfl X2 (J.at 0) rfl) ?_;refine Yo 11 rfl (fun _=>X3 rfl)<|Yo 12 rfl (fun _=>X3 rfl)<|Yo 13 rfl (fun _=>Xg (k:=0) rfl rfl Xj X08 E rfl rfl (by omega)) ?_;refine Yn 14 rfl trivial o.size (fun w9 h9=>by have x:=Q.below (o.trans h9);exact X0 rfl X9 (X0d x Xa (Xb (k:=0) (d:=(0:Int)) (by omega)) 0 rfl)) ?_;refine Yn 16 rfl trivial o.size (fun w9 h9=>by have J:=aC.below (o.trans h9);exact X02 (l:=[vi d.n,.slice Ad md cd,.slice Bd d.ws.length dd,vi d.t,vi d.r]) rfl X2 (J.at 0) rfl) ?_
 refine Yo 17 rfl (fun _=>X3 rfl)<|Yo 18 rfl (fun _=>X3 rfl)<|Yo 19 rfl (fun _=>Xg (k:=1) rfl rfl Xj X08 E rfl rfl (by omega)) ?_;refine Yn 20 rfl trivial o.size (fun w9 h9=>by have x:=Q.below (o.trans h9);exact X0 rfl X9 (X0d x Xa (Xb (k:=1) (d:=(0:Int)) (by omega)) 0 rfl)) ?_;refine Y1 1<|Yf rfl trivial (EfW.mono (Vc (X9d _ d md y Ad cd (D.below' i).top Bd dd (G.below' i).top I ⟨by omega,by omega⟩) X55) (fun _ _ h=>⟨fun _=>by obtain ⟨a7,aA,b0,b1,rfl,g,a6,q⟩:=h;exact Keep.of_below q,h⟩)) ?_;rintro _ w9 ⟨a7,aA,b0,b1,rfl,g,a6,q⟩
 have aO:∀ k,ownB a7=some k→w6.heap.size≤k:=fun k hk=>Q0 o.size (X1l g hk)
 have g:=g.lower i.size;have a6:=a6.lower i.size;have f:=f.below q;have o:=btr o q;have i:=btr i q;refine Y1 3<|Yf rfl trivial (EfW.mono (Vc (X8p _ d d.ns.length rfl a7 aA _ g i.size b0 b1 a6.rd.top a6.cap p aI (by omega)) X5h) (fun _ _ h=>⟨fun _=>by obtain ⟨b2,b3,rfl,M,N,aF,aG,hg⟩:=h;exact Xgn hg aO,h⟩)) ?_;rintro _ bT ⟨b2,b3,rfl,M,N,aF,aG,hg⟩;have L:=g;have f:=f.appT L hg rfl;have o:=o.trans (X8h hg aO o.size);have i:=Below.app i L hg (Qb _) i.size
 clear L hg;clear g;have g:=M;clear M;refine Y1 15<|Yf rfl trivial (EfW.mono (Vc (X89 _ d md y Ad cd (D.below' i).top Bd dd (G.below' i).top I p ((nearW d.ws p).getD 0 0) (by omega)) X4i) (fun _ _ h=>⟨fun _=>by obtain ⟨rfl,q⟩:=h;exact Keep.of_below q,h⟩)) ?_;rintro _ bU ⟨rfl,q⟩;have f:=f.below q;have g:=g.below q;have N:=N.below q;have o:=btr o q;have i:=btr i q;refine Y1 21<|Yf rfl trivial (EfW.mono (Vc (X89 _ d md y Ad cd (D.below' i).top Bd dd (G.below' i).top I p ((nearW d.ws p).getD 1 0) (by omega)) X4i) (fun _ _ h=>⟨fun _=>by obtain ⟨rfl,q⟩:=h;exact Keep.of_below q,h⟩)) ?_;rintro _ bW ⟨rfl,q⟩;have f:=f.below q;have g:=g.below q;have N:=N.below q;have o:=btr o q;have i:=btr i q;refine Yo 22 rfl (fun _=>X18 rfl rfl)<|Y1 23 ?_;refine Yt rfl trivial rfl (Vc (Xnl _ ({ d with ns:=dpN d.ns p,ws:=dpW d.ws p } : Dg) d.ns.length aG a7 aA _ g i.size b2 b3 N.top aF ((nearW d.ws p).getD 0 0) ((nearW d.ws p).getD 1 0) ((tyW d.ws p ((nearW d.ws p).getD 0 0)) != (tyW d.ws p ((nearW d.ws p).getD 1 0))) (by have:=X23 d.ws p;dsimp only;omega) ⟨⟨aX.1,by rw [X1m];exact aX.2⟩,⟨aY.1,by rw [X1m];exact aY.2⟩⟩ (X4y hD.p p) (by omega)) Xe2) ?_;rintro _ bX ⟨aP,aQ,rfl,M,aD,b5,bK,hg⟩;have L:=g;have f:=f.appT L hg rfl;have o:=o.trans (X8h hg aO o.size);have i:=Below.app i L hg (Qb _) i.size
 clear L hg;clear g;have g:=M;clear M;refine Y1 24<|Yh rfl trivial rfl (Vw [vi ((mtD ({ d with ns:=dpN d.ns p,ws:=dpW d.ws p } : Dg) ((nearW d.ws p).getD 0 0) ((nearW d.ws p).getD 1 0) ((tyW d.ws p ((nearW d.ws p).getD 0 0)) != (tyW d.ws p ((nearW d.ws p).getD 1 0)))).n),.slice a7 d.ns.length aA,.slice aP ((mtD ({ d with ns:=dpN d.ns p,ws:=dpW d.ws p } : Dg) ((nearW d.ws p).getD 0 0) ((nearW d.ws p).getD 1 0) ((tyW d.ws p ((nearW d.ws p).getD 0 0)) != (tyW d.ws p ((nearW d.ws p).getD 1 0)))).ws).length aQ,vi ((mtD ({ d with ns:=dpN d.ns p,ws:=dpW d.ws p } : Dg) ((nearW d.ws p).getD 0 0) ((nearW d.ws p).getD 1 0) ((tyW d.ws p ((nearW d.ws p).getD 0 0)) != (tyW d.ws p ((nearW d.ws p).getD 1 0)))).t),vi ((mtD ({ d with ns:=dpN d.ns p,ws:=dpW d.ws p } : Dg) ((nearW d.ws p).getD 0 0) ((nearW d.ws p).getD 1 0) ((tyW d.ws p ((nearW d.ws p).getD 0 0)) != (tyW d.ws p ((nearW d.ws p).getD 1 0)))).r)] Xl f) ?_;rintro _ bY ⟨ho,hb⟩;have a8:=f;have g:=g.onlyT ho a8 rfl;have aD:=aD.onlyT ho a8 rfl;have i:=Below.only i ho aB;have f:=hb;refine Yo 25 rfl (fun _=>X0l rfl) ?_;refine Yd fun a H=>?_;refine aZ _ _ ?_
 refine Q6 (X5 H (X1o H rfl (ResV.cellN (l:=[vi ((mtD ({ d with ns:=dpN d.ns p,ws:=dpW d.ws p } : Dg) ((nearW d.ws p).getD 0 0) ((nearW d.ws p).getD 1 0) ((tyW d.ws p ((nearW d.ws p).getD 0 0)) != (tyW d.ws p ((nearW d.ws p).getD 1 0)))).n),.slice a7 d.ns.length aA,.slice aP ((mtD ({ d with ns:=dpN d.ns p,ws:=dpW d.ws p } : Dg) ((nearW d.ws p).getD 0 0) ((nearW d.ws p).getD 1 0) ((tyW d.ws p ((nearW d.ws p).getD 0 0)) != (tyW d.ws p ((nearW d.ws p).getD 1 0)))).ws).length aQ,vi ((mtD ({ d with ns:=dpN d.ns p,ws:=dpW d.ws p } : Dg) ((nearW d.ws p).getD 0 0) ((nearW d.ws p).getD 1 0) ((tyW d.ws p ((nearW d.ws p).getD 0 0)) != (tyW d.ws p ((nearW d.ws p).getD 1 0)))).t),vi ((mtD ({ d with ns:=dpN d.ns p,ws:=dpW d.ws p } : Dg) ((nearW d.ws p).getD 0 0) ((nearW d.ws p).getD 1 0) ((tyW d.ws p ((nearW d.ws p).getD 0 0)) != (tyW d.ws p ((nearW d.ws p).getD 1 0)))).r)]) rfl X2 (f.at 0) rfl) rfl) ?_)
 rw [bD,Q4 rfl,y]
 exact ⟨a7,aA,aP,aQ,rfl,g.rd.top,aD.top,b5,(Xp6 d p).symm,i⟩
theorem Xt6(w0:World)(d:Dg)(md:Nat)(C:md=d.ns.length)(Ad:Option Addr)(cd:Nat)(E:Rd w0 w0.heap.size 81 encNd Ad d.ns)(Bd:Option Addr)(dd:Nat)(J:Rd w0 w0.heap.size 83 encWr Bd d.ws)(L:d.ws.length≤dd)(p:Int)(hD:InD d) : Ret Tryz.prog 179 [.agg #[vi d.n,.slice Ad md cd,.slice Bd d.ws.length dd,vi d.t,vi d.r],vi p] w0 (fun v w=>∃ A c B e,v=.tuple #[.agg #[vi (if (loC d p)=true then loD d p else d).n,.slice A md c,.slice B (if (loC d p)=true then loD d p else d).ws.length e,vi (if (loC d p)=true then loD d p else d).t,vi (if (loC d p)=true then loD d p else d).r],.bool (loC d p)]∧Rd w w.heap.size 81 encNd A (if (loC d p)=true then loD d p else d).ns∧Rd w w.heap.size 83 encWr B (if (loC d p)=true then loD d p else d).ws∧(if (loC d p)=true then loD d p else d).ws.length≤e∧md=(if (loC d p)=true then loD d p else d).ns.length∧Below w0.heap.size w0 w):=by
 have b1:=hD.len;have b2:=hD.m;have b3:=X1y d.ws p;refine enter Tryz.func179 rfl 37 rfl rfl ?_;intro a D
 have i:=bz w0
 refine Zs D fun _ aP=>?_;refine Zf (X0h (zs:=[vi d.n,.slice Ad md cd,.slice Bd d.ws.length dd,vi d.t,vi d.r]) rfl rfl) ?_;rintro _ w1 ⟨b4,rfl,aQ,h,o⟩;have aZ:=Q0 i.size aQ;have i:=btr i h;refine Zf (X00 (zs:=[vi 0,.slice none 0 0,.slice none 0 0,vi 0,vi 0]) X0o rfl) ?_;rintro _ w2 ⟨b7,rfl,aR,h,j⟩
 have aO:b4≠b7:=by have:=o.lt;omega
 have aA:=Q0 i.size aR;have o:=o.below h;have i:=btr i h;refine Za rfl<|ZX aP fun a D _ aS=>?_;refine Q5 fun _ aT=>?_;refine X09 (fun a w=>Fr a 37 [(1,vi p),(2,.pointer (some ⟨b4,0,none⟩)),(4,.pointer (some ⟨b7,0,none⟩)),(26,.bool (((!(spI d.ns p))||(((d.ns.getD p.toNat nZ).p) != 0))||(decide (0<((nearW d.ws p).length:Int)))))]∧Below w2.heap.size w2 w) ?_ ?_
 ·have H:Below w2.heap.size w2 w2:=Below.refl _ _
  refine Zr D<|Ze (Vn X2 o)<|Zm rfl<|Zf (Vc (X5o _ d md C Ad cd (E.below' i).top Bd dd (J.below' i).top L p (by rw [C];exact hD.m)) X2s) ?_;rintro _ w3 ⟨rfl,h⟩;have o:=o.below h;have i:=btr i h;have H:=btr H h;refine Ze (X0y rfl)<|Zm rfl ?_
  refine Zg 11 rfl (fun b=>?_) (fun b=>?_)
  ·refine Zp (gP b) ?_;refine Zp (gP b) ?_;refine Zp (gP b) ?_;refine Zp (gP b) ?_;refine Zp (gP b) ?_;refine Zp (gP b) ?_;refine Zp (gP b) ?_;refine Ze (X8 rfl b rfl)<|Zm rfl<|Zp (gP rfl) ?_;refine Zp (gP rfl) ?_;refine Zp (gP rfl) ?_;refine Zp (gP rfl) ?_;refine Zp (gP rfl) ?_;refine Ze (X8 rfl rfl rfl) ?_;refine Zn fun a D=>?_
   have W:Below w2.heap.size w2 w3:=H
   exact ⟨D.sub ⟨rfl,rfl,rfl,X1 rfl (by first|rfl|(simp only [b,bs];done)|simp [b]),trivial⟩,W⟩
  have aD:0≤p∧p.toNat<d.ns.length:=by have h9:=X11 (ns:=d.ns) (k:=p) (by simpa using b);exact ⟨h9.1,h9.2.1⟩
  refine Zv (gW b) (Vd rfl Xi 1) ?_;refine Zv (gW b) (X0 rfl Xz (o.at 1)) ?_;refine Zv (gW b) (X3 rfl) ?_;refine Zj (k:=p.toNat) (u:=(d.ns.getD p.toNat nZ)) (enc:=encNd) (l:=d.ns) ⟨_,_,rfl,rfl,b⟩ rfl C rfl Xo X07 Xt (E.below' i) (Xb aD.2) (by omega) ?_;intro b5 aE;refine Zv (gW b) (X21 rfl X04) ?_;refine Zv (gW b) (X0 rfl X9 (aE.drop 1)) ?_;refine Zv (gW b) (X18 rfl rfl) ?_;refine Ze (Xe rfl b rfl)<|Zm rfl ?_
  refine Zg 20 rfl (fun f=>?_) (fun f=>?_)
  ·refine Zp (gP f) ?_;refine Zp (gP f) ?_;refine Zp (gP f) ?_;refine Zp (gP f) ?_;refine Zp (gP f) ?_;refine Ze (X8 rfl f rfl) ?_;refine Zn fun a D=>?_
   have W:Below w2.heap.size w2 w3:=H
   exact ⟨D.sub ⟨rfl,rfl,rfl,X1 rfl (by first|rfl|(simp only [b,f,bs];done)|simp [b,f]),trivial⟩,W⟩
  refine Zv (gW f) (Vn X2 o) ?_;refine Zv (gW f) (X3 rfl) ?_;refine Zk (gW f) (Vc (X8o _ d md C Ad cd (E.below' i).top Bd dd (J.below' i).top L p hD.w (by omega)) X59) ?_;rintro _ w4 ⟨b6,b8,rfl,aB,h⟩;have aB:=aB.lower i.size;have i:=btr i h;have H:=btr H h;refine Zv (gW f) (X0c rfl Xj) ?_;refine Zv (gW f) (X7x rfl rfl) ?_;refine Ze (Xe rfl f rfl) ?_;refine Zn fun a D=>?_
  have W:Below w2.heap.size w2 w4:=H
  exact ⟨D.sub ⟨rfl,rfl,rfl,X1 rfl (by first|rfl|(simp only [b,f,bs];done)|simp [b,f]),trivial⟩,W⟩
 rintro a w5 ⟨D,h⟩;have o:=o.below h;have j:=j.below h;have i:=btr i h;refine aT _ _ ?_
 refine Xh D rfl (fun G=>?_) (fun G=>?_)
 ·have aF:=G;have aU:=Xnq G;refine Zs D fun _ aG=>?_;refine Ze (Vn X2 o)<|Zo (Vw [vi d.n,.slice Ad md cd,.slice Bd d.ws.length dd,vi d.t,vi d.r] Xl j) ?_;rintro _ w6 ⟨I,hb⟩;have q:=j;have i:=Below.only i I aA;have j:=hb;refine Za rfl<|Zt aG fun a D=>?_;refine Q6<|X7<|X5 D (X1o D rfl (ResV.cellN (l:=[vi d.n,.slice Ad md cd,.slice Bd d.ws.length dd,vi d.t,vi d.r]) rfl X2 (j.at 0) rfl) rfl) ?_
  rw [aU,Q3 Bool.false_ne_true]
  exact ⟨Ad,cd,Bd,dd,rfl,(E.below' i).top,(J.below' i).top,L,C,i⟩
 have aF:=G;obtain ⟨aW,aD⟩:=Xj3 G;refine Q7<|aS _ _<|Zs D fun _ aH=>?_;refine Ze (Vn X2 o)<|Zf (Vc (X9d _ d md C Ad cd (E.below' i).top Bd dd (J.below' i).top L ⟨by omega,by omega⟩) X55) ?_;rintro _ w7 ⟨Q,U,aX,aY,rfl,g,M,h⟩;have g:=g.lower i.size;have M:=M.lower i.size;have o:=o.below h;have j:=j.below h;have i:=btr i h;refine Zm rfl<|Zf (Vc (X8p _ d d.ns.length rfl Q U _ g i.size aX aY M.rd.top M.cap p aD (by omega)) X5h) ?_;rintro _ w8 ⟨a6,a7,rfl,aC,x,aI,b0,hg⟩;have N:=g;have o:=o.appT N hg rfl;have j:=j.appT N hg rfl;have i:=Below.app i N hg (Qb _) i.size
 clear N hg;clear g;have g:=aC;clear aC;refine Zf (X00 (zs:=[vi 0,.slice none 0 0,.slice none 0 0,vi 0,vi 0]) X0o rfl) ?_;rintro _ w9 ⟨b23,rfl,aJ,h,y⟩
 have aK:b4≠b23:=by have:=o.lt;omega
 have aL:b7≠b23:=by have:=j.lt;omega
 have a8:=Q0 i.size aJ;have j:=j.below h;have g:=g.below h;have x:=x.below h;have i:=btr i h;refine Zo (Vw [vi (({ d with ns:=dpN d.ns p,ws:=dpW d.ws p } : Dg).n),.slice Q d.ns.length U,.slice a6 (({ d with ns:=dpN d.ns p,ws:=dpW d.ws p } : Dg).ws).length a7,vi (({ d with ns:=dpN d.ns p,ws:=dpW d.ws p } : Dg).t),vi (({ d with ns:=dpN d.ns p,ws:=dpW d.ws p } : Dg).r)] Xl y) ?_;rintro _ b9 ⟨I,hb⟩;have q:=y;have j:=j.only I (by omega);have g:=g.onlyT I q rfl;have x:=x.onlyT I q rfl;have i:=Below.only i I a8;have y:=hb;refine Zx aH fun a D _ aM=>?_;refine Ze (Vd rfl Xy 4)<|Ze (X0 rfl X9 (y.at 4))<|Ze (X3u rfl rfl)<|Ze (Vd rfl Xy 4)<|Zo (Vu (vs:=[vi (wr ((({ d with ns:=dpN d.ns p,ws:=dpW d.ws p } : Dg).r)+2))]) (l':=[vi (({ d with ns:=dpN d.ns p,ws:=dpW d.ws p } : Dg).n),.slice Q d.ns.length U,.slice a6 (({ d with ns:=dpN d.ns p,ws:=dpW d.ws p } : Dg).ws).length a7,vi (({ d with ns:=dpN d.ns p,ws:=dpW d.ws p } : Dg).t),vi (wr ((({ d with ns:=dpN d.ns p,ws:=dpW d.ws p } : Dg).r)+2))]) rfl rfl X08 y) ?_;rintro _ bA ⟨I,hb⟩;have q:=y;have j:=j.only I (by omega);have g:=g.onlyT I q rfl;have x:=x.onlyT I q rfl;have i:=Below.only i I a8;have y:=hb;refine Zx aM fun a D _ aN=>?_;refine Ze (Vn X2 y)<|Zo (Vw [vi (({ d with ns:=dpN d.ns p,ws:=dpW d.ws p } : Dg).n),.slice Q d.ns.length U,.slice a6 (({ d with ns:=dpN d.ns p,ws:=dpW d.ws p } : Dg).ws).length a7,vi (({ d with ns:=dpN d.ns p,ws:=dpW d.ws p } : Dg).t),vi (wr ((({ d with ns:=dpN d.ns p,ws:=dpW d.ws p } : Dg).r)+2))] Xl j) ?_;rintro _ bB ⟨I,hb⟩
 have q:=j;have g:=g.onlyT I q rfl;have x:=x.onlyT I q rfl;have i:=Below.only i I aA;have j:=hb;refine Za rfl<|Zt aN fun a D=>?_
 refine Q6 (X5 D (X1o D rfl (ResV.cellN (l:=[vi (({ d with ns:=dpN d.ns p,ws:=dpW d.ws p } : Dg).n),.slice Q d.ns.length U,.slice a6 (({ d with ns:=dpN d.ns p,ws:=dpW d.ws p } : Dg).ws).length a7,vi (({ d with ns:=dpN d.ns p,ws:=dpW d.ws p } : Dg).t),vi (wr ((({ d with ns:=dpN d.ns p,ws:=dpW d.ws p } : Dg).r)+2))]) rfl X2 (j.at 0) rfl) rfl) ?_)
 rw [aW,Q4 rfl,C]
 exact ⟨Q,U,a6,a7,rfl,g.rd.top,x.top,aI,(X1m _ _).symm,i⟩
theorem Xuk(w0:World)(d:Dg)(md:Nat)(J:md=d.ns.length)(Ad:Option Addr)(cd:Nat)(M:Rd w0 w0.heap.size 81 encNd Ad d.ns)(Bd:Option Addr)(dd:Nat)(a8:Rd w0 w0.heap.size 83 encWr Bd d.ws)(G:d.ws.length≤dd)(p:Int)(hD:InD d) : Ret Tryz.prog 178 [.agg #[vi d.n,.slice Ad md cd,.slice Bd d.ws.length dd,vi d.t,vi d.r],vi p] w0 (fun v w=>∃ A c B e,v=.tuple #[.agg #[vi (if (lcC d p)=true then lcD d p else d).n,.slice A md c,.slice B (if (lcC d p)=true then lcD d p else d).ws.length e,vi (if (lcC d p)=true then lcD d p else d).t,vi (if (lcC d p)=true then lcD d p else d).r],.bool (lcC d p)]∧Rd w w.heap.size 81 encNd A (if (lcC d p)=true then lcD d p else d).ns∧Rd w w.heap.size 83 encWr B (if (lcC d p)=true then lcD d p else d).ws∧(if (lcC d p)=true then lcD d p else d).ws.length≤e∧md=(if (lcC d p)=true then lcD d p else d).ns.length∧Below w0.heap.size w0 w):=by
 have dP:=hD.len;have dQ:=hD.m;have dR:=X1y d.ws p;have dI:=X34 hD p;have dS:=X1i hD.p p.toNat;refine enter Tryz.func178 rfl 95 rfl rfl ?_;intro a h
 have i:=bz w0
 refine Zs h fun _ cY=>?_;refine Zf (X0h (zs:=[vi d.n,.slice Ad md cd,.slice Bd d.ws.length dd,vi d.t,vi d.r]) rfl rfl) ?_;rintro _ w1 ⟨b4,rfl,d5,H,y⟩;have dJ:=Q0 i.size d5;have i:=btr i H;refine Zf (X00 (zs:=[vi 0,.slice none 0 0,.slice none 0 0,vi 0,vi 0]) X0o rfl) ?_;rintro _ w2 ⟨b7,rfl,d6,H,g⟩
 have cX:b4≠b7:=by have:=y.lt;omega
 have aQ:=Q0 i.size d6;have y:=y.below H;have i:=btr i H;refine Za rfl<|ZX cY fun a h _ d7=>?_;refine Q5 fun _ d8=>?_;refine X09 (fun a w=>Fr a 95 [(1,vi p),(2,.pointer (some ⟨b4,0,none⟩)),(4,.pointer (some ⟨b7,0,none⟩)),(26,.bool ((!(spI d.ns p))||((((d.ns.getD p.toNat nZ).p).tmod 4) != 2)))]∧Below w2.heap.size w2 w) ?_ ?_
 ·have aA:Below w2.heap.size w2 w2:=Below.refl _ _
  refine Zr h<|Ze (Vn X2 y)<|Zm rfl<|Zf (Vc (X5o _ d md J Ad cd (M.below' i).top Bd dd (a8.below' i).top G p (by rw [J];exact hD.m)) X2s) ?_;rintro _ w3 ⟨rfl,H⟩;have y:=y.below H;have i:=btr i H;have aA:=btr aA H;refine Ze (X0y rfl)<|Zm rfl ?_
  refine Zg 17 rfl (fun q=>?_) (fun q=>?_)
  ·refine Zp (gP q) ?_;refine Zp (gP q) ?_;refine Zp (gP q) ?_;refine Zp (gP q) ?_;refine Zp (gP q) ?_;refine Zp (gP q) ?_;refine Zp (gP q) ?_;refine Zp (gP q) ?_;refine Ze (X8 rfl q rfl) ?_;refine Zn fun a h=>?_
   have aM:Below w2.heap.size w2 w3:=aA
   exact ⟨h.sub ⟨rfl,rfl,rfl,X1 rfl (by first|rfl|(simp only [q,bs];done)|simp [q]),trivial⟩,aM⟩
  have aW:0≤p∧p.toNat<d.ns.length:=by have h9:=X11 (ns:=d.ns) (k:=p) (by simpa using q);exact ⟨h9.1,h9.2.1⟩
  refine Zv (gW q) (Vd rfl Xi 1) ?_;refine Zv (gW q) (X0 rfl Xz (y.at 1)) ?_;refine Zv (gW q) (X3 rfl) ?_;refine Zj (k:=p.toNat) (u:=(d.ns.getD p.toNat nZ)) (enc:=encNd) (l:=d.ns) ⟨_,_,rfl,rfl,q⟩ rfl J rfl Xo X07 Xt (M.below' i) (Xb aW.2) (by omega) ?_;intro dU aZ;refine Zv (gW q) (X21 rfl X04) ?_;refine Zv (gW q) (X0 rfl X9 (aZ.drop 1)) ?_;refine Zv (gW q) (X3y rfl rfl rfl) ?_;refine Zv (gW q) (X18 rfl rfl) ?_;refine Ze (Xe rfl q rfl) ?_;refine Zn fun a h=>?_
  have aM:Below w2.heap.size w2 w3:=aA
  exact ⟨h.sub ⟨rfl,rfl,rfl,X1 rfl (by first|rfl|(simp only [q,bs];done)|simp [q]),trivial⟩,aM⟩
 rintro a w4 ⟨h,H⟩;have y:=y.below H;have g:=g.below H;have i:=btr i H;refine d8 _ _ ?_
 refine Xh h rfl (fun aJ=>?_) (fun aJ=>?_)
 ·have aB:=aJ;have b0:=Xj6 hD aJ;refine Zs h fun _ bF=>?_;refine Ze (Vn X2 y)<|Zo (Vw [vi d.n,.slice Ad md cd,.slice Bd d.ws.length dd,vi d.t,vi d.r] Xl g) ?_;rintro _ w5 ⟨I,hb⟩;have x:=g;have i:=Below.only i I aQ;have g:=hb;refine Za rfl<|Zt bF fun a h=>?_;refine Q6<|X7<|X5 h (X1o h rfl (ResV.cellN (l:=[vi d.n,.slice Ad md cd,.slice Bd d.ws.length dd,vi d.t,vi d.r]) rfl X2 (g.at 0) rfl) rfl) ?_
  rw [b0,Q3 Bool.false_ne_true]
  exact ⟨Ad,cd,Bd,dd,rfl,(M.below' i).top,(a8.below' i).top,G,J,i⟩
 have aB:=aJ;have aX:=Xf4 hD aJ
 have aW:0≤p∧p.toNat<d.ns.length:=⟨(X11 aX.1).1,(X11 aX.1).2.1⟩
 refine Q7<|d7 _ _<|Zs h fun _ bG=>?_;refine Ze (Vn X2 y)<|Zm rfl<|Zf (Vc (X8o _ d md J Ad cd (M.below' i).top Bd dd (a8.below' i).top G p hD.w (by omega)) X59) ?_;rintro _ w6 ⟨aF,aG,rfl,b,H⟩;have b:=b.lower i.size;have y:=y.below H;have g:=g.below H;have i:=btr i H;refine Za rfl<|ZX bG fun a h _ bH=>?_;refine Q5 fun _ bJ=>?_;refine X09 (fun a w=>Fr a 95 [(1,vi p),(2,.pointer (some ⟨b4,0,none⟩)),(4,.pointer (some ⟨b7,0,none⟩)),(6,.slice aF (nearW d.ws p).length aG),(40,.bool ((!(hadD d p))||(!(rdyD d (nearW d.ws p)))))]∧Below w6.heap.size w6 w) ?_ ?_
 ·have aA:Below w6.heap.size w6 w6:=Below.refl _ _
  refine Zr h<|Ze (Vn X2 y)<|Zm rfl<|Zf (Vc (Xij _ d md J Ad cd (M.below' i).top Bd dd (a8.below' i).top G p hD.w (by omega)) Xaj) ?_;rintro _ w7 ⟨rfl,H⟩;have y:=y.below H;have b:=b.below H;have i:=btr i H;have aA:=btr aA H;refine Ze (X0y rfl)<|Zm rfl ?_
  refine Zg 35 rfl (fun D=>?_) (fun D=>?_)
  ·refine Zp (gP D) ?_;refine Zp (gP D) ?_;refine Zp (gP D) ?_;refine Zp (gP D) ?_;refine Ze (X8 rfl D rfl) ?_;refine Zn fun a h=>?_
   have aM:Below w6.heap.size w6 w7:=aA
   exact ⟨h.sub ⟨rfl,rfl,rfl,rfl,X1 rfl (by first|rfl|(simp only [aB,D,bs];done)|simp [aB,D]),trivial⟩,aM⟩
  refine Zv (gW D) (Vn X2 y) ?_;refine Zv (gW D) (X3 rfl) ?_;refine Zk (gW D) (Vc (Xo9 _ d md J Ad cd (M.below' i).top Bd dd (a8.below' i).top G aF aG (nearW d.ws p) b.rd.top (by omega) (by omega) (by omega) b.cap) Xej) ?_;rintro _ w8 ⟨rfl,H⟩;have i:=btr i H;have aA:=btr aA H;refine Zv (gW D) (X0y rfl) ?_;refine Ze (Xe rfl D rfl) ?_;refine Zn fun a h=>?_
  have aM:Below w6.heap.size w6 w8:=aA
  exact ⟨h.sub ⟨rfl,rfl,rfl,rfl,X1 rfl (by first|rfl|(simp only [aB,D,bs];done)|simp [aB,D]),trivial⟩,aM⟩
 rintro a w9 ⟨h,H⟩;have y:=y.below H;have g:=g.below H;have b:=b.below H;have i:=btr i H;refine bJ _ _ ?_
 refine Xh h rfl (fun aK=>?_) (fun aK=>?_)
 ·have b1:=aK;have b0:=Xqx aK;refine Zs h fun _ bK=>?_;refine Ze (Vn X2 y)<|Zo (Vw [vi d.n,.slice Ad md cd,.slice Bd d.ws.length dd,vi d.t,vi d.r] Xl g) ?_;rintro _ dW ⟨I,hb⟩;have x:=g;have i:=Below.only i I aQ;have g:=hb;refine Za rfl<|Zt bK fun a h=>?_;refine Q6<|X7<|X5 h (X1o h rfl (ResV.cellN (l:=[vi d.n,.slice Ad md cd,.slice Bd d.ws.length dd,vi d.t,vi d.r]) rfl X2 (g.at 0) rfl) rfl) ?_
  rw [b0,Q3 Bool.false_ne_true]
  exact ⟨Ad,cd,Bd,dd,rfl,(M.below' i).top,(a8.below' i).top,G,J,i⟩
 have b1:=aK;have d9:=Xed aX aK;refine Q7<|bH _ _<|Zs h fun _ bL=>?_;refine Ze (Vn X2 y)<|Zf (Vc (X9d _ d md J Ad cd (M.below' i).top Bd dd (a8.below' i).top G ⟨by omega,by omega⟩) X55) ?_;rintro _ dX ⟨b2,b3,dB,dC,rfl,L,aP,H⟩;have L:=L.lower i.size;have aP:=aP.lower i.size;have y:=y.below H;have g:=g.below H;have b:=b.below H;have i:=btr i H;refine Zm rfl<|Zf (Vc (X8p _ d d.ns.length rfl b2 b3 _ L i.size dB dC aP.rd.top aP.cap p aW (by omega)) X5h) ?_;rintro _ dY ⟨bM,bN,rfl,U,aL,bO,dK,hg⟩;have C:=L;have y:=y.appT C hg rfl;have g:=g.appT C hg rfl;have b:=b.appT C hg rfl;have i:=Below.app i C hg (Qb _) i.size
 clear C hg;clear L;have L:=U;clear U;refine Zf (X00 (zs:=[vi 0,.slice none 0 0,.slice none 0 0,vi 0,vi 0]) X0o rfl) ?_;rintro _ e8 ⟨b28,rfl,bP,H,f⟩
 have bR:b4≠b28:=by have:=y.lt;omega
 have bS:b7≠b28:=by have:=g.lt;omega
 have aC:=Q0 i.size bP;have y:=y.below H;have g:=g.below H;have b:=b.below H;have L:=L.below H;have aL:=aL.below H;have i:=btr i H;refine Zo (Vw [vi (({ d with ns:=dpN d.ns p,ws:=dpW d.ws p } : Dg).n),.slice b2 d.ns.length b3,.slice bM (({ d with ns:=dpN d.ns p,ws:=dpW d.ws p } : Dg).ws).length bN,vi (({ d with ns:=dpN d.ns p,ws:=dpW d.ws p } : Dg).t),vi (({ d with ns:=dpN d.ns p,ws:=dpW d.ws p } : Dg).r)] Xl f) ?_;rintro _ eA ⟨I,hb⟩;have x:=f;have y:=y.only I (by omega);have g:=g.only I (by omega);have b:=b.onlyT I x rfl;have L:=L.onlyT I x rfl;have aL:=aL.onlyT I x rfl;have i:=Below.only i I aC;have f:=hb;refine Zx bL fun a h _ bT=>?_;refine Ze (Vd rfl Xi 1)<|Ze (X0 rfl Xz (y.at 1))<|Zm rfl<|Zj (k:=p.toNat) (u:=(d.ns.getD p.toNat nZ)) (enc:=encNd) (l:=d.ns) trivial rfl J rfl Xo X07 Xt (M.below' i) (Xb aW.2) (by omega) ?_;intro eB b5;refine Ze (X21 rfl X04)<|Ze (X0 rfl X9 (b5.drop 1))<|Za rfl<|ZX bT fun a h _ bU=>?_;refine Zs h fun _ bW=>?_;refine Zm rfl<|Ze (X0c rfl Xj)<|Zm rfl<|Zt bW fun a h=>?_;refine Q8<|X01 (σ:=Nat×Dg) (fun (s:Nat×Dg) (a:Act) (w:World)=>match s with|(k,o)=>∃ aD aE aH aI,Fr a 95 [(4,.pointer (some ⟨b7,0,none⟩)),(6,.slice aF (nearW d.ws p).length aG),(7,.pointer (some ⟨b28,0,none⟩)),(8,vi ((d.ns.getD p.toNat nZ).p)),(52,.slice aF (nearW d.ws p).length aG),(53,vi ((nearW d.ws p).length:Int)),(54,vi (k:Int))]∧(k≤(nearW d.ws p).length)∧(o=lcS (d.ns.getD p.toNat nZ).p (nearW d.ws p) (id0 d p) k)∧(d.ns.length=o.ns.length)∧(o.ws.length≤d.ws.length+k*1000)∧(PhN o.ns)∧Blk w b7 39 [vi 0,.slice none 0 0,.slice none 0 0,vi 0,vi 0]∧Blk w b28 39 [vi o.n,.slice aD d.ns.length aE,.slice aH o.ws.length aI,vi o.t,vi o.r]∧Own w w0.heap.size 3 1 encI aF aG (nearW d.ws p)∧Own w w0.heap.size 81 2 encNd aD aE o.ns∧Rd w w.heap.size 83 encWr aH o.ws∧d.ws.length≤dd∧o.ws.length≤aI∧Below w0.heap.size w0 w) (fun (s:Nat×Dg)=>match s with|(k,o)=>(nearW d.ws p).length-k) (0,(id0 d p)) ?_ ?_
 ·exact ⟨b2,b3,bM,bN,h.sb,(Qf _),rfl,(X1m _ _).symm,(Q0 (X23 _ _) (by omega)),(X4y hD.p p),g,f,b,L,aL.top,G,bO,i⟩
 rintro ⟨k,o⟩ a eC ⟨aD,aE,aH,aI,h,hk,bX,b6,dD,bY,g,f,b,E,W,G,c4,i⟩;refine Zs h fun _ cA=>?_;refine Ze (X0m rfl rfl)<|ZX cA fun a h _ cB=>?_
 refine Xh h rfl (fun N=>?_) (fun N=>?_)
 ·have b8:=N;have N:=Q2 N
  obtain ⟨eD,dL⟩:=X4 (l:=(nearW d.ws p)) (k:=k) (by omega)
  obtain ⟨u9,b9⟩:=X4 (l:=(nearW d.ws p)) (k:=k) (by have:=N;omega)
  have dE:=X61 hD b9;have eE:=X1i bY u9.toNat;refine Q7<|cB _ _<|Q5 fun _ cC=>?_;refine Q8<|Zs h fun _ cD=>?_;refine Zm rfl<|Zi (k:=k) (u:=u9) (enc:=encI) (l:=(nearW d.ws p)) trivial rfl rfl Xj X08 Xa b.rd b9 rfl ?_;intro eF bA;refine Ze (X0 rfl X9 bA)<|Za rfl<|Za rfl<|Zx cD fun a h _ cE=>?_;refine Ze (Vn X2 f)<|Zm rfl<|Zm rfl<|Ze (X1h rfl rfl (by omega) (by omega))<|Zf (Vc (X92 _ o d.ns.length b6 aD aE _ E i.size aH aI W.top c4 u9 (8-((d.ns.getD p.toNat nZ).p)) ⟨dE.1,by omega⟩ ⟨by omega,by omega⟩) X5c) ?_;rintro _ eG ⟨cF,cG,rfl,U,aR,cH,dM,hg⟩;have C:=E;have g:=g.appT C hg rfl;have f:=f.appT C hg rfl;have b:=b.appT C hg rfl;have i:=Below.app i C hg (Qb _) i.size
  clear C hg;clear E;have E:=U;clear U;refine Zo (Vw [vi (({ o with ns:=adN o.ns u9 (8-((d.ns.getD p.toNat nZ).p)) } : Dg).n),.slice aD d.ns.length aE,.slice cF (({ o with ns:=adN o.ns u9 (8-((d.ns.getD p.toNat nZ).p)) } : Dg).ws).length cG,vi (({ o with ns:=adN o.ns u9 (8-((d.ns.getD p.toNat nZ).p)) } : Dg).t),vi (({ o with ns:=adN o.ns u9 (8-((d.ns.getD p.toNat nZ).p)) } : Dg).r)] Xl f) ?_;rintro _ dF ⟨I,hb⟩;have x:=f;have g:=g.only I (by omega);have b:=b.onlyT I x rfl;have E:=E.onlyT I x rfl;have aR:=aR.onlyT I x rfl;have i:=Below.only i I aC;have f:=hb;refine Zx cE fun a h _ cJ=>?_;refine Zm rfl<|Zm rfl ?_;have a6:=(b.rd.top).takeK Xa k;refine Ze (X2o (l:=(nearW d.ws p)) (k:=k) rfl rfl Xj X08 rfl hk b.cap)<|Ze (X0c rfl Xj)<|Zm rfl<|Zt cJ fun a h=>?_;refine Q8<|X01 (σ:=Nat×Dg) (fun (s:Nat×Dg) (a:Act) (w:World)=>match s with|(j,z)=>∃ aN aO aS aT,Fr a 95 [(4,.pointer (some ⟨b7,0,none⟩)),(6,.slice aF (nearW d.ws p).length aG),(7,.pointer (some ⟨b28,0,none⟩)),(8,vi ((d.ns.getD p.toNat nZ).p)),(10,vi u9),(52,.slice aF (nearW d.ws p).length aG),(53,vi ((nearW d.ws p).length:Int)),(54,vi (k:Int)),(66,.slice aF ((nearW d.ws p).take k).length aG),(67,vi (((nearW d.ws p).take k).length:Int)),(68,vi (j:Int))]∧(j≤((nearW d.ws p).take k).length)∧(z=tgL ({ o with ns:=adN o.ns u9 (8-(d.ns.getD p.toNat nZ).p) } : Dg) u9 (((nearW d.ws p).take k).take j))∧(d.ns.length=z.ns.length)∧(z.ws.length≤o.ws.length+j)∧(PhN z.ns)∧Blk w b7 39 [vi 0,.slice none 0 0,.slice none 0 0,vi 0,vi 0]∧Blk w b28 39 [vi z.n,.slice aN d.ns.length aO,.slice aS z.ws.length aT,vi z.t,vi z.r]∧Own w w0.heap.size 3 1 encI aF aG (nearW d.ws p)∧Rd w dF.heap.size 3 encI aF ((nearW d.ws p).take k)∧Own w w0.heap.size 81 2 encNd aN aO z.ns∧Rd w w.heap.size 83 encWr aS z.ws∧d.ws.length≤dd∧z.ws.length≤aT∧Below w0.heap.size w0 w) (fun (s:Nat×Dg)=>match s with|(j,z)=>((nearW d.ws p).take k).length-j) (0,({ o with ns:=adN o.ns u9 (8-(d.ns.getD p.toNat nZ).p) } : Dg)) ?_ ?_
  ·exact ⟨aD,aE,cF,cG,h.sb,(Qf _),rfl,(b6.trans (X1s _ _ _).symm),(Qb _),(X5n bY _ _),g,f,b,a6,E,aR.top,G,cH,i⟩
  rintro ⟨j,z⟩ a eH ⟨aN,aO,aS,aT,h,hj,hz,bB,dG,cK,g,f,b,a6,a7,aY,G,cL,i⟩;refine Zs h fun _ cM=>?_;refine Ze (X0m rfl rfl)<|ZX cM fun a h _ cN=>?_
  refine Xh h rfl (fun Q=>?_) (fun Q=>?_)
  ·have bC:=Q;have Q:=Q2 Q
   obtain ⟨eI,dN⟩:=X4 (l:=((nearW d.ws p).take k)) (k:=j) (by omega)
   obtain ⟨v9,bD⟩:=X4 (l:=(nearW d.ws p).take k) (k:=j) (by have:=Q;omega)
   have eJ:j<k:=by have:=(Qg.1 bD).1;rw [Qn] at this;omega
   refine Q7<|cN _ _<|Q5 fun _ cO=>?_;refine Q8<|Zs h fun _ cP=>?_;refine Zi (k:=j) (u:=v9) (enc:=encI) (l:=((nearW d.ws p).take k)) trivial rfl rfl Xj X08 Xa a6 bD rfl ?_;intro eK bE;refine Ze (X0 rfl X9 bE)<|Za rfl<|Zt cP fun a h=>?_;refine Zr h<|Ze (Vn X2 f)<|Zm rfl<|Zm rfl<|Zf (Vc (Xni _ z d.ns.length bB aN aO _ a7 i.size aS aT aY.top cL u9 v9 (by have:=dG;have:=dD;rw [Qn] at hj;omega)) Xdw) ?_;rintro _ eL ⟨cQ,cR,rfl,U,aU,cS,dO,hg⟩;have C:=a7;have g:=g.appT C hg rfl;have f:=f.appT C hg rfl;have b:=b.appT C hg rfl;have a6:=a6.appT C hg rfl;have i:=Below.app i C hg (Qb _) i.size
   clear C hg;clear a7;have a7:=U;clear U;refine Zo (Vw [vi ((tgD z u9 v9).n),.slice aN d.ns.length aO,.slice cQ ((tgD z u9 v9).ws).length cR,vi ((tgD z u9 v9).t),vi ((tgD z u9 v9).r)] Xl f) ?_;rintro _ eM ⟨I,hb⟩;have x:=f;have g:=g.only I (by omega);have b:=b.onlyT I x rfl;have a6:=a6.onlyT I x rfl;have a7:=a7.onlyT I x rfl;have aU:=aU.onlyT I x rfl;have i:=Below.only i I aC;have f:=hb;refine Zn fun a h=>?_;refine Xd<|cO _ _<|Zr h<|Ze (Xu rfl rfl (by omega) (by omega))<|Zm rfl ?_;refine Zn fun a h=>?_;refine Xf ?_;exact ⟨(j+1,(tgD z u9 v9)),⟨aN,aO,cQ,cR,h.sb,(by omega),(by rw [Xhb bD,← hz]),(by rw [(X2p z u9 v9).1];exact bB),(by have:=(X2p z u9 v9).2;omega),(by rw [(X2p z u9 v9).1];exact cK),g,f,b,a6,a7,aU.top,G,cS,i⟩,(by first|omega|(dsimp only;omega))⟩
  have bC:=Q;have Q:=Q1 Q
  have dH:z=lcS (d.ns.getD p.toNat nZ).p (nearW d.ws p) (id0 d p) (k+1):=by rw [hz,Qi (by have:=Q;omega),bX,Xit b9]
  have eN:j≤k:=by rw [Qn] at hj;omega
  refine Q9<|Xk<|Xk<|X03 ?_;refine Xd<|cC _ _<|Zr h<|Ze (Xu rfl rfl (by omega) (by omega))<|Zm rfl ?_;refine Zn fun a h=>?_;refine Xf ?_;exact ⟨(k+1,z),⟨aN,aO,aS,aT,h.sb,(by omega),dH,bB,(by omega),cK,g,f,b,a7,aY.top,G,cL,i⟩,(by first|omega|(dsimp only;omega))⟩
 have b8:=N;have N:=Q1 N
 have cT:o=lcS (d.ns.getD p.toNat nZ).p (nearW d.ws p) (id0 d p) (nearW d.ws p).length:=by rw [bX];congr 1;have:=N;omega
 refine Q9<|Xk<|Xk<|X03 ?_;refine bU _ _<|Zs h fun _ cU=>?_;refine Ze (Vd rfl X0q 3)<|Ze (X0 rfl X9 (f.at 3))<|Zm rfl<|Ze (X1h rfl rfl (by omega) (by omega))<|Ze (Xvs rfl rfl rfl)<|Ze (Xx5 rfl rfl)<|Ze (Vx (X3u rfl rfl) (Xk0 aX.2))<|Ze (X3u rfl rfl)<|Ze (Vd rfl X0q 3)<|Zo (Vu (vs:=[vi (wr (o.t+(if (d.ns.getD p.toNat nZ).p=2 then 1 else 7)))]) (l':=[vi o.n,.slice aD d.ns.length aE,.slice aH o.ws.length aI,vi (wr (o.t+(if (d.ns.getD p.toNat nZ).p=2 then 1 else 7))),vi o.r]) rfl rfl X08 f) ?_;rintro _ eO ⟨I,hb⟩;have x:=f;have g:=g.only I (by omega);have E:=E.onlyT I x rfl;have W:=W.onlyT I x rfl;have i:=Below.only i I aC;have f:=hb;refine Zx cU fun a h _ cV=>?_;refine Ze (Vd rfl Xy 4)<|Ze (X0 rfl X9 (f.at 4))<|Zm rfl<|Ze (X0c rfl Xj)<|Ze (X1h rfl rfl (by omega) (by omega))<|Ze (X3u rfl rfl)<|Ze (Vd rfl Xy 4)<|Zo (Vu (vs:=[vi (wr (o.r+(1-((nearW d.ws p).length:Int))))]) (l':=[vi o.n,.slice aD d.ns.length aE,.slice aH o.ws.length aI,vi (wr (o.t+(if (d.ns.getD p.toNat nZ).p=2 then 1 else 7))),vi (wr (o.r+(1-((nearW d.ws p).length:Int))))]) rfl rfl X08 f) ?_;rintro _ eP ⟨I,hb⟩;have x:=f;have g:=g.only I (by omega);have E:=E.onlyT I x rfl;have W:=W.onlyT I x rfl;have i:=Below.only i I aC;have f:=hb;refine Zx cV fun a h _ cW=>?_;refine Ze (Vn X2 f)<|Zo (Vw [vi o.n,.slice aD d.ns.length aE,.slice aH o.ws.length aI,vi (wr (o.t+(if (d.ns.getD p.toNat nZ).p=2 then 1 else 7))),vi (wr (o.r+(1-((nearW d.ws p).length:Int))))] Xl g) ?_;rintro _ eQ ⟨I,hb⟩;have x:=g;have E:=E.onlyT I x rfl
 have W:=W.onlyT I x rfl;have i:=Below.only i I aQ;have g:=hb;refine Za rfl<|Zt cW fun a h=>?_
 refine Q6 (X5 h (X1o h rfl (ResV.cellN (l:=[vi o.n,.slice aD d.ns.length aE,.slice aH o.ws.length aI,vi (wr (o.t+(if (d.ns.getD p.toNat nZ).p=2 then 1 else 7))),vi (wr (o.r+(1-((nearW d.ws p).length:Int))))]) rfl X2 (g.at 0) rfl) rfl) ?_)
 rw [d9,Q4 rfl,Xi5 cT,J]
 exact ⟨aD,aE,aH,aI,rfl,E.rd.top,W.top,c4,b6,i⟩
def pvL(d:Dg)(a b:Int) : List Int:=(othW d.ws b a).foldl putI (othW d.ws a b)
def pvC(d:Dg)(a b:Int) : Bool:=spI d.ns a&&spI d.ns b&&decide (a<b)&&(d.ns.getD a.toNat nZ).p % 4==0&&(d.ns.getD b.toNat nZ).p % 4==0&&tyW d.ws a b==2&&hadD d a&&hadD d b&&rdyD d (pvL d a b)
def stN(c:Bool)(o:Dg)(x m:Int) : Dg:=if c=true then { o with ns:=adN o.ns x m } else o
def pvT(l m:List Int)(x:Int)(o:Dg)(y:Int) : Dg:=if (((l.any fun v=>v==x)&&(m.any fun v=>v==y)) != ((m.any fun v=>v==x)&&(l.any fun v=>v==y)))=true then tgD o x y else o
def pvF(l m:List Int)(x:Int)(r:List Int)(o:Dg) : Dg:=r.foldl (pvT l m x) o
def pv3(e f:Int)(l m:List Int)(x:Int)(o:Dg) : Dg:=stN ((l.any fun v=>v==x)&&(m.any fun v=>v==x)) (stN (m.any fun v=>v==x) (stN (l.any fun v=>v==x) o x f) x e) x 4
def pvM(e f:Int)(l m r:List Int)(o:Dg) : Nat→Dg
 | 0=>o
 | i+1=>pvF l m (r.getD i 0) (r.take i) (pv3 e f l m (r.getD i 0) (pvM e f l m r o i))
def pvD(d:Dg)(a b:Int) : Dg:=
 let o:=pvM (d.ns.getD a.toNat nZ).p (d.ns.getD b.toNat nZ).p (othW d.ws a b) (othW d.ws b a) (pvL d a b) (id0 (id0 d a) b) (pvL d a b).length
 { o with t:=if ((d.ns.getD a.toNat nZ).p+(d.ns.getD b.toNat nZ).p==8)=true then wr (o.t+4) else o.t,r:=wr (o.r+(1-((othW d.ws a b).length:Int)-((othW d.ws b a).length:Int))) }
theorem Xcf{d o:Dg}{a b:Int}(h:o=pvM (d.ns.getD a.toNat nZ).p (d.ns.getD b.toNat nZ).p (othW d.ws a b) (othW d.ws b a) (pvL d a b) (id0 (id0 d a) b) (pvL d a b).length) : pvD d a b = { o with t:=if ((d.ns.getD a.toNat nZ).p+(d.ns.getD b.toNat nZ).p==8)=true then wr (o.t+4) else o.t,r:=wr (o.r+(1-((othW d.ws a b).length:Int)-((othW d.ws b a).length:Int))) }:=by subst h;rfl
theorem Xi3{c:Bool}{o:Dg}{x m:Int}(h:c=true) : stN c o x m = { o with ns:=adN o.ns x m }:=Q4 h
theorem Xhs{c:Bool}{o:Dg}{x m:Int}(h:c=false) : stN c o x m=o:=Q3 (by rw [h];decide)
theorem Xux{l m:List Int}{x y:Int}{o:Dg}(h:(((l.any fun v=>v==x)&&(m.any fun v=>v==y)) != ((m.any fun v=>v==x)&&(l.any fun v=>v==y)))=true) : pvT l m x o y=tgD o x y:=Q4 h
theorem Xt8{l m:List Int}{x y:Int}{o:Dg}(h:(((l.any fun v=>v==x)&&(m.any fun v=>v==y)) != ((m.any fun v=>v==x)&&(l.any fun v=>v==y)))=false) : pvT l m x o y=o:=Q3 (by rw [h];decide)
theorem Xhw{l m:List Int}{x:Int}{r:List Int}{o:Dg}{k:Nat}{v:Int}(hv:r[k]? = some v) : pvF l m x (r.take (k+1)) o=pvT l m x (pvF l m x (r.take k) o) v:=by
 unfold pvF
 rw [Qt,hv,Option.toList_some,List.foldl_append]
 rfl
theorem Xav{e f u:Int}{l m r:List Int}{o:Dg}{k:Nat}(hu:r[k]? = some u) : pvM e f l m r o (k+1)=pvF l m u (r.take k) (pv3 e f l m u (pvM e f l m r o k)):=by
 have h:r.getD k 0=u:=by rw [Qa,hu];rfl
 show pvF l m (r.getD k 0) (r.take k) (pv3 e f l m (r.getD k 0) (pvM e f l m r o k))=_
 rw [h]
theorem X6t{d:Dg}(h:InD d)(a b:Int) : (othW d.ws a b).length≤d.ns.length:=Q0 (List.length_filter_le _ _) (X34 h a)
theorem X9y{d:Dg}(h:InD d)(a b:Int) : (pvL d a b).length≤2*d.ns.length:=by
 have h1:=X81 (othW d.ws b a) (othW d.ws a b);have h2:=X6t h a b;have h3:=X6t h b a
 unfold pvL
 omega
theorem X9l{d:Dg}(h:InD d){a b u:Int}{k:Nat}(hu:(pvL d a b)[k]? = some u) : 0≤u∧u.toNat<d.ns.length:=by
 have h1:=(X6d _ _ _).1 (Qe hu)
 rcases h1 with h1|h1
 ·exact X2u h (List.mem_filter.1 h1).1
 ·exact X2u h (List.mem_filter.1 h1).1
theorem Xiw{d:Dg}(hd:InD d){a b:Int}(h:(!(spI d.ns a)||!(spI d.ns b)||decide (b≤a)||((d.ns.getD a.toNat nZ).p.tmod 4 != 0)||((d.ns.getD b.toNat nZ).p.tmod 4 != 0)||(tyW d.ws a b != 2))=true) : pvC d a b=false:=by
 rw [X9e (X1i hd.p _).1,X9e (X1i hd.p _).1] at h
 unfold pvC
 generalize (d.ns.getD a.toNat nZ).p=x at h ⊢
 generalize (d.ns.getD b.toNat nZ).p=y at h ⊢
 cases h1:spI d.ns a
 ·rfl
 cases h2:spI d.ns b
 ·rfl
 cases h3:decide (a<b)
 ·rfl
 cases h4:(x % 4==0)
 ·simp
 cases h5:(y % 4==0)
 ·simp
 cases h6:(tyW d.ws a b==2)
 ·simp
 simp [h1,h2] at h h3 h4 h5 h6
 omega
theorem Xer{d:Dg}(hd:InD d){a b:Int}(h:(!(spI d.ns a)||!(spI d.ns b)||decide (b≤a)||((d.ns.getD a.toNat nZ).p.tmod 4 != 0)||((d.ns.getD b.toNat nZ).p.tmod 4 != 0)||(tyW d.ws a b != 2))=false) : (0≤a∧a.toNat<d.ns.length)∧(0≤b∧b.toNat<d.ns.length)∧(((d.ns.getD a.toNat nZ).p=0∨(d.ns.getD a.toNat nZ).p=4)∧((d.ns.getD b.toNat nZ).p=0∨(d.ns.getD b.toNat nZ).p=4))∧(spI d.ns a&&spI d.ns b&&decide (a<b)&&(d.ns.getD a.toNat nZ).p % 4==0&&(d.ns.getD b.toNat nZ).p % 4==0&&tyW d.ws a b==2)=true:=by
 rw [X9e (X1i hd.p _).1,X9e (X1i hd.p _).1] at h
 have ha:=X1i hd.p a.toNat;have hb:=X1i hd.p b.toNat
 generalize (d.ns.getD a.toNat nZ).p=x at h ha ⊢
 generalize (d.ns.getD b.toNat nZ).p=y at h hb ⊢
 cases h1:spI d.ns a
 ·simp [h1] at h
 cases h2:spI d.ns b
 ·simp [h2] at h
 have s1:=X11 h1
 have s2:=X11 h2
 simp [h1,h2] at h
 refine ⟨⟨s1.1,s1.2.1⟩,⟨s2.1,s2.2.1⟩,⟨by omega,by omega⟩,?_⟩
 simp
 omega
theorem Xgb{d:Dg}{a b:Int}(h:(!(hadD d a)||!(hadD d b)||!(rdyD d (pvL d a b)))=true) : pvC d a b=false:=by
 unfold pvC
 cases h1:hadD d a
 ·simp
 cases h2:hadD d b
 ·simp
 cases h3:rdyD d (pvL d a b)
 ·simp
 simp [h1,h2,h3] at h
theorem Xfb{d:Dg}{a b:Int}(h1:(spI d.ns a&&spI d.ns b&&decide (a<b)&&(d.ns.getD a.toNat nZ).p % 4==0&&(d.ns.getD b.toNat nZ).p % 4==0&&tyW d.ws a b==2)=true)(h:(!(hadD d a)||!(hadD d b)||!(rdyD d (pvL d a b)))=false) : pvC d a b=true:=by
 unfold pvC
 rw [h1]
 cases h2:hadD d a
 ·simp [h2] at h
 cases h3:hadD d b
 ·simp [h3] at h
 cases h4:rdyD d (pvL d a b)
 ·simp [h4] at h
 rfl
structure Rz where
 u:Int
 a:Int
 b:Int
deriving DecidableEq
def encRz(x:Rz) : List Value:=[.int .i64 x.u,.int .i64 x.a,.int .i64 x.b]
theorem X35:∀ x,(encRz x).length=3:=fun _=>rfl
theorem X5g:∀ x,(encRz x).all one=true:=fun _=>rfl
def doC(d:Dg)(r:Rz) : Bool:=if (r.u==1)=true then fuC d r.a r.b else if (r.u==4)=true then pvC d r.a r.b else if (r.b != 0)=true then false else if (r.u==2)=true then idC d r.a else if (r.u==3)=true then lcC d r.a else if (r.u==5)=true then loC d r.a else false
def doD(d:Dg)(r:Rz) : Dg:=if (r.u==1)=true then fuD d r.a r.b else if (r.u==4)=true then pvD d r.a r.b else if (r.u==2)=true then idD d r.a else if (r.u==3)=true then lcD d r.a else loD d r.a
theorem Xuw{d:Dg}{r:Rz}(h1:(r.u==1)=true) : doC d r=fuC d r.a r.b∧doD d r=fuD d r.a r.b:=⟨Q4 h1,Q4 h1⟩
theorem Xsm{d:Dg}{r:Rz}(h1:(r.u==1)=false)(h4:(r.u==4)=true) : doC d r=pvC d r.a r.b∧doD d r=pvD d r.a r.b:=by
 unfold doC doD;rw [h1,h4];exact ⟨rfl,rfl⟩
theorem Xtx{d:Dg}{r:Rz}(h1:(r.u==1)=false)(h4:(r.u==4)=false)(hb:(r.b != 0)=true) : doC d r=false:=by
 unfold doC;rw [h1,h4,hb];rfl
theorem Xs0{d:Dg}{r:Rz}(h1:(r.u==1)=false)(h4:(r.u==4)=false)(hb:(r.b != 0)=false)(h2:(r.u==2)=true) : doC d r=idC d r.a∧doD d r=idD d r.a:=by
 unfold doC doD;rw [h1,h4,hb,h2];exact ⟨rfl,rfl⟩
theorem Xv1{d:Dg}{r:Rz}(h1:(r.u==1)=false)(h4:(r.u==4)=false)(hb:(r.b != 0)=false)(h2:(r.u==2)=false)(h3:(r.u==3)=true) : doC d r=lcC d r.a∧doD d r=lcD d r.a:=by
 unfold doC doD;rw [h1,h4,hb,h2,h3];exact ⟨rfl,rfl⟩
theorem Xs4{d:Dg}{r:Rz}(h1:(r.u==1)=false)(h4:(r.u==4)=false)(hb:(r.b != 0)=false)(h2:(r.u==2)=false)(h3:(r.u==3)=false)(h5:(r.u==5)=true) : doC d r=loC d r.a∧doD d r=loD d r.a:=by
 unfold doC doD;rw [h1,h4,hb,h2,h3,h5];exact ⟨rfl,rfl⟩
theorem Xw9{d:Dg}{r:Rz}(h1:(r.u==1)=false)(h4:(r.u==4)=false)(hb:(r.b != 0)=false)(h2:(r.u==2)=false)(h3:(r.u==3)=false)(h5:(r.u==5)=false) : doC d r=false:=by
 unfold doC;rw [h1,h4,hb,h2,h3,h5];rfl
theorem Xvm(w0:World)(d:Dg)(md:Nat)(aD:md=d.ns.length)(Ad:Option Addr)(cd:Nat)(aP:Rd w0 w0.heap.size 81 encNd Ad d.ns)(Bd:Option Addr)(dd:Nat)(aY:Rd w0 w0.heap.size 83 encWr Bd d.ws)(N:d.ws.length≤dd)(p:Int)(q:Int)(hD:InD d) : Ret Tryz.prog 176 [.agg #[vi d.n,.slice Ad md cd,.slice Bd d.ws.length dd,vi d.t,vi d.r],vi p,vi q] w0 (fun v w=>∃ A c B e,v=.tuple #[.agg #[vi (if (pvC d p q)=true then pvD d p q else d).n,.slice A md c,.slice B (if (pvC d p q)=true then pvD d p q else d).ws.length e,vi (if (pvC d p q)=true then pvD d p q else d).t,vi (if (pvC d p q)=true then pvD d p q else d).r],.bool (pvC d p q)]∧Rd w w.heap.size 81 encNd A (if (pvC d p q)=true then pvD d p q else d).ns∧Rd w w.heap.size 83 encWr B (if (pvC d p q)=true then pvD d p q else d).ws∧(if (pvC d p q)=true then pvD d p q else d).ws.length≤e∧md=(if (pvC d p q)=true then pvD d p q else d).ns.length∧Below w0.heap.size w0 w):=by
 have iU:=hD.len;have iV:=hD.m;have iW:=X6t hD p q;have iX:=X6t hD q p;have gN:=X9y hD p q;have iY:=X1i hD.p p.toNat;have iZ:=X1i hD.p q.toNat;have j0:=X23 d.ws p;have j1:=X23 (dpW d.ws p) q;refine enter Tryz.func176 rfl 196 rfl rfl ?_;intro a J
 have G:=bz w0
 refine Zs J fun _ gO=>?_;refine Zf (X0h (zs:=[vi d.n,.slice Ad md cd,.slice Bd d.ws.length dd,vi d.t,vi d.r]) rfl rfl) ?_;rintro _ w1 ⟨b4,rfl,gQ,L,M⟩;have iI:=Q0 G.size gQ;have G:=btr G L;refine Zf (X00 (zs:=[vi 0,.slice none 0 0,.slice none 0 0,vi 0,vi 0]) X0o rfl) ?_;rintro _ w2 ⟨b7,rfl,gR,L,E⟩
 have gM:b4≠b7:=by have:=M.lt;omega
 have bY:=Q0 G.size gR;have M:=M.below L;have G:=btr G L;refine Za rfl<|ZX gO fun a J _ gS=>?_;refine Q5 fun _ gT=>?_;refine X09 (fun a w=>Fr a 196 [(1,vi p),(2,vi q),(3,.pointer (some ⟨b4,0,none⟩)),(6,.pointer (some ⟨b7,0,none⟩)),(63,.bool ((((((!(spI d.ns p))||(!(spI d.ns q)))||(decide (q≤p)))||((((d.ns.getD p.toNat nZ).p).tmod 4) != 0))||((((d.ns.getD q.toNat nZ).p).tmod 4) != 0))||((tyW d.ws p q) != 2)))]∧Below w2.heap.size w2 w) ?_ ?_
 ·have aB:Below w2.heap.size w2 w2:=Below.refl _ _
  refine Zr J<|Ze (Vn X2 M)<|Zm rfl<|Zf (Vc (X5o _ d md aD Ad cd (aP.below' G).top Bd dd (aY.below' G).top N p (by rw [aD];exact hD.m)) X2s) ?_;rintro _ w3 ⟨rfl,L⟩;have M:=M.below L;have G:=btr G L;have aB:=btr aB L;refine Ze (X0y rfl)<|Zm rfl ?_
  refine Zg 26 rfl (fun a7=>?_) (fun a7=>?_)
  ·refine Zp (gP a7) ?_;refine Zp (gP a7) ?_;refine Zp (gP a7) ?_;refine Zp (gP a7) ?_;refine Ze (X8 rfl a7 rfl)<|Zm rfl<|Zp (gP rfl) ?_;refine Zp (gP rfl) ?_;refine Zp (gP rfl) ?_;refine Ze (X8 rfl rfl rfl)<|Zm rfl<|Zp (gP rfl) ?_;refine Zp (gP rfl) ?_;refine Zp (gP rfl) ?_;refine Zp (gP rfl) ?_;refine Zp (gP rfl) ?_;refine Zp (gP rfl) ?_;refine Zp (gP rfl) ?_;refine Zp (gP rfl) ?_;refine Ze (X8 rfl rfl rfl)<|Zm rfl<|Zp (gP rfl) ?_;refine Zp (gP rfl) ?_;refine Zp (gP rfl) ?_;refine Zp (gP rfl) ?_;refine Zp (gP rfl) ?_;refine Zp (gP rfl) ?_;refine Zp (gP rfl) ?_;refine Zp (gP rfl) ?_;refine Ze (X8 rfl rfl rfl)<|Zm rfl<|Zp (gP rfl) ?_;refine Zp (gP rfl) ?_;refine Zp (gP rfl) ?_;refine Zp (gP rfl) ?_;refine Zp (gP rfl) ?_;refine Ze (X8 rfl rfl rfl) ?_;refine Zn fun a J=>?_
   have aO:Below w2.heap.size w2 w3:=aB
   exact ⟨J.sub ⟨rfl,rfl,rfl,rfl,X1 rfl (by first|rfl|(simp only [a7,bs];done)|simp [a7]),trivial⟩,aO⟩
  have cW:0≤p∧p.toNat<d.ns.length:=by have h9:=X11 (ns:=d.ns) (k:=p) (by simpa using a7);exact ⟨h9.1,h9.2.1⟩
  refine Zv (gW a7) (Vn X2 M) ?_;refine Zv (gW a7) (X3 rfl) ?_;refine Zk (gW a7) (Vc (X5o _ d md aD Ad cd (aP.below' G).top Bd dd (aY.below' G).top N q (by rw [aD];exact hD.m)) X2s) ?_;rintro _ w4 ⟨rfl,L⟩;have M:=M.below L;have G:=btr G L;have aB:=btr aB L;refine Zv (gW a7) (X0y rfl) ?_;refine Ze (Xe rfl a7 rfl)<|Zm rfl ?_
  refine Zg 32 rfl (fun aC=>?_) (fun aC=>?_)
  ·refine Zp (gP aC) ?_;refine Zp (gP aC) ?_;refine Zp (gP aC) ?_;refine Ze (X8 rfl aC rfl)<|Zm rfl<|Zp (gP rfl) ?_;refine Zp (gP rfl) ?_;refine Zp (gP rfl) ?_;refine Zp (gP rfl) ?_;refine Zp (gP rfl) ?_;refine Zp (gP rfl) ?_;refine Zp (gP rfl) ?_;refine Zp (gP rfl) ?_;refine Ze (X8 rfl rfl rfl)<|Zm rfl<|Zp (gP rfl) ?_;refine Zp (gP rfl) ?_;refine Zp (gP rfl) ?_;refine Zp (gP rfl) ?_;refine Zp (gP rfl) ?_;refine Zp (gP rfl) ?_;refine Zp (gP rfl) ?_;refine Zp (gP rfl) ?_;refine Ze (X8 rfl rfl rfl)<|Zm rfl<|Zp (gP rfl) ?_;refine Zp (gP rfl) ?_;refine Zp (gP rfl) ?_;refine Zp (gP rfl) ?_;refine Zp (gP rfl) ?_;refine Ze (X8 rfl rfl rfl) ?_;refine Zn fun a J=>?_
   have aO:Below w2.heap.size w2 w4:=aB
   exact ⟨J.sub ⟨rfl,rfl,rfl,rfl,X1 rfl (by first|rfl|(simp only [a7,aC,bs];done)|simp [a7,aC]),trivial⟩,aO⟩
  have cF:0≤q∧q.toNat<d.ns.length:=by have h9:=X11 (ns:=d.ns) (k:=q) (by have h8:=aC;first|exact (by simpa using h8)|(simp at h8;exact h8.2));exact ⟨h9.1,h9.2.1⟩
  refine Zv (gW aC) (X3 rfl) ?_;refine Zv (gW aC) (X3 rfl) ?_;refine Zv (gW aC) (X4m rfl rfl) ?_;refine Ze (Xe rfl aC rfl)<|Zm rfl ?_
  refine Zg 37 rfl (fun Q=>?_) (fun Q=>?_)
  ·refine Zp (gP Q) ?_;refine Zp (gP Q) ?_;refine Zp (gP Q) ?_;refine Zp (gP Q) ?_;refine Zp (gP Q) ?_;refine Zp (gP Q) ?_;refine Zp (gP Q) ?_;refine Zp (gP Q) ?_;refine Ze (X8 rfl Q rfl)<|Zm rfl<|Zp (gP rfl) ?_;refine Zp (gP rfl) ?_;refine Zp (gP rfl) ?_;refine Zp (gP rfl) ?_;refine Zp (gP rfl) ?_;refine Zp (gP rfl) ?_;refine Zp (gP rfl) ?_;refine Zp (gP rfl) ?_;refine Ze (X8 rfl rfl rfl)<|Zm rfl<|Zp (gP rfl) ?_;refine Zp (gP rfl) ?_;refine Zp (gP rfl) ?_;refine Zp (gP rfl) ?_;refine Zp (gP rfl) ?_;refine Ze (X8 rfl rfl rfl) ?_;refine Zn fun a J=>?_
   have aO:Below w2.heap.size w2 w4:=aB
   exact ⟨J.sub ⟨rfl,rfl,rfl,rfl,X1 rfl (by first|rfl|(simp only [a7,aC,Q,bs];done)|simp [a7,aC,Q]),trivial⟩,aO⟩
  refine Zv (gW Q) (Vd rfl Xi 1) ?_;refine Zv (gW Q) (X0 rfl Xz (M.at 1)) ?_;refine Zv (gW Q) (X3 rfl) ?_;refine Zj (k:=p.toNat) (u:=(d.ns.getD p.toNat nZ)) (enc:=encNd) (l:=d.ns) ⟨_,_,rfl,rfl,Q⟩ rfl aD rfl Xo X07 Xt (aP.below' G) (Xb cW.2) (by omega) ?_;intro j2 dK;refine Zv (gW Q) (X21 rfl X04) ?_;refine Zv (gW Q) (X0 rfl X9 (dK.drop 1)) ?_;refine Zv (gW Q) (X3y rfl rfl rfl) ?_;refine Zv (gW Q) (X18 rfl rfl) ?_;refine Ze (Xe rfl Q rfl)<|Zm rfl ?_
  refine Zg 47 rfl (fun a6=>?_) (fun a6=>?_)
  ·refine Zp (gP a6) ?_;refine Zp (gP a6) ?_;refine Zp (gP a6) ?_;refine Zp (gP a6) ?_;refine Zp (gP a6) ?_;refine Zp (gP a6) ?_;refine Zp (gP a6) ?_;refine Zp (gP a6) ?_;refine Ze (X8 rfl a6 rfl)<|Zm rfl<|Zp (gP rfl) ?_;refine Zp (gP rfl) ?_;refine Zp (gP rfl) ?_;refine Zp (gP rfl) ?_;refine Zp (gP rfl) ?_;refine Ze (X8 rfl rfl rfl) ?_;refine Zn fun a J=>?_
   have aO:Below w2.heap.size w2 w4:=aB
   exact ⟨J.sub ⟨rfl,rfl,rfl,rfl,X1 rfl (by first|rfl|(simp only [a7,aC,Q,a6,bs];done)|simp [a7,aC,Q,a6]),trivial⟩,aO⟩
  refine Zv (gW a6) (Vd rfl Xi 1) ?_;refine Zv (gW a6) (X0 rfl Xz (M.at 1)) ?_;refine Zv (gW a6) (X3 rfl) ?_;refine Zj (k:=q.toNat) (u:=(d.ns.getD q.toNat nZ)) (enc:=encNd) (l:=d.ns) ⟨_,_,rfl,rfl,a6⟩ rfl aD rfl Xo X07 Xt (aP.below' G) (Xb cF.2) (by omega) ?_;intro j3 dL;refine Zv (gW a6) (X21 rfl X04) ?_;refine Zv (gW a6) (X0 rfl X9 (dL.drop 1)) ?_;refine Zv (gW a6) (X3y rfl rfl rfl) ?_;refine Zv (gW a6) (X18 rfl rfl) ?_;refine Ze (Xe rfl a6 rfl)<|Zm rfl ?_
  refine Zg 57 rfl (fun aL=>?_) (fun aL=>?_)
  ·refine Zp (gP aL) ?_;refine Zp (gP aL) ?_;refine Zp (gP aL) ?_;refine Zp (gP aL) ?_;refine Zp (gP aL) ?_;refine Ze (X8 rfl aL rfl) ?_;refine Zn fun a J=>?_
   have aO:Below w2.heap.size w2 w4:=aB
   exact ⟨J.sub ⟨rfl,rfl,rfl,rfl,X1 rfl (by first|rfl|(simp only [a7,aC,Q,a6,aL,bs];done)|simp [a7,aC,Q,a6,aL]),trivial⟩,aO⟩
  refine Zv (gW aL) (Vn X2 M) ?_;refine Zv (gW aL) (X3 rfl) ?_;refine Zv (gW aL) (X3 rfl) ?_;refine Zk (gW aL) (Vc (X89 _ d md aD Ad cd (aP.below' G).top Bd dd (aY.below' G).top N p q (by omega)) X4i) ?_;rintro _ w5 ⟨rfl,L⟩;have G:=btr G L;have aB:=btr aB L;refine Zv (gW aL) (X18 rfl rfl) ?_;refine Ze (Xe rfl aL rfl) ?_;refine Zn fun a J=>?_
  have aO:Below w2.heap.size w2 w5:=aB
  exact ⟨J.sub ⟨rfl,rfl,rfl,rfl,X1 rfl (by first|rfl|(simp only [a7,aC,Q,a6,aL,bs];done)|simp [a7,aC,Q,a6,aL]),trivial⟩,aO⟩
 rintro a w6 ⟨J,L⟩;have M:=M.below L;have E:=E.below L;have G:=btr G L;refine gT _ _ ?_
 refine Xh J rfl (fun bG=>?_) (fun bG=>?_)
 ·have U:=bG;have dM:=Xiw hD bG;refine Zs J fun _ eL=>?_;refine Ze (Vn X2 M)<|Zo (Vw [vi d.n,.slice Ad md cd,.slice Bd d.ws.length dd,vi d.t,vi d.r] Xl E) ?_;rintro _ w7 ⟨ho,hb⟩;have I:=E;have G:=Below.only G ho bY;have E:=hb;refine Za rfl<|Zt eL fun a J=>?_;refine Q6<|X7<|X5 J (X1o J rfl (ResV.cellN (l:=[vi d.n,.slice Ad md cd,.slice Bd d.ws.length dd,vi d.t,vi d.r]) rfl X2 (E.at 0) rfl) rfl) ?_
  rw [dM,Q3 Bool.false_ne_true]
  exact ⟨Ad,cd,Bd,dd,rfl,(aP.below' G).top,(aY.below' G).top,N,aD,G⟩
 have U:=bG;obtain ⟨cW,cF,iJ,gU⟩:=Xer hD bG;refine Q7<|gS _ _<|Zs J fun _ eM=>?_;refine Ze (Vn X2 M)<|Zm rfl<|Zm rfl<|Zf (Vc (Xo6 _ d md aD Ad cd (aP.below' G).top Bd dd (aY.below' G).top N p q hD.w (by omega)) Xe3) ?_;rintro _ w8 ⟨aS,aT,rfl,g,L⟩;have g:=g.lower G.size;have M:=M.below L;have E:=E.below L;have G:=btr G L;refine Za rfl<|Zx eM fun a J _ eN=>?_;refine Ze (Vn X2 M)<|Zm rfl<|Zm rfl<|Zf (Vc (Xo6 _ d md aD Ad cd (aP.below' G).top Bd dd (aY.below' G).top N q p hD.w (by omega)) Xe3) ?_;rintro _ w9 ⟨aW,aX,rfl,h,L⟩;have h:=h.lower G.size;have M:=M.below L;have E:=E.below L;have g:=g.below L;have G:=btr G L;refine Za rfl<|Zx eN fun a J _ eO=>?_;refine Zm rfl<|Zf (Vc (Xwd _ aS aT (othW d.ws p q) g.rd.top (by omega)) Xrk) ?_;rintro _ j4 ⟨gX,gY,rfl,cG,L⟩;have cG:=cG.lower G.size;have M:=M.below L;have E:=E.below L;have g:=g.below L;have h:=h.below L;have G:=btr G L;refine Za rfl<|ZX eO fun a J _ eP=>?_;refine Zs J fun _ eQ=>?_;refine Zm rfl<|Ze (X0c rfl Xj)<|Zm rfl<|Zt eQ fun a J=>?_;refine Q8<|X01 (σ:=Nat×(List Int)) (fun (s:Nat×(List Int)) (a:Act) (w:World)=>match s with|(k,m)=>∃ aE aG,Fr a 196 [(1,vi p),(2,vi q),(3,.pointer (some ⟨b4,0,none⟩)),(6,.pointer (some ⟨b7,0,none⟩)),(8,.slice aS (othW d.ws p q).length aT),(9,.slice aW (othW d.ws q p).length aX),(10,.slice aE m.length aG),(75,.slice aW (othW d.ws q p).length aX),(76,vi ((othW d.ws q p).length:Int)),(77,vi (k:Int))]∧(k≤(othW d.ws q p).length)∧(m=((othW d.ws q p).take k).foldl putI (othW d.ws p q))∧Blk w b4 39 [vi d.n,.slice Ad md cd,.slice Bd d.ws.length dd,vi d.t,vi d.r]∧Blk w b7 39 [vi 0,.slice none 0 0,.slice none 0 0,vi 0,vi 0]∧Own w w0.heap.size 3 1 encI aE aG m∧Own w w0.heap.size 3 1 encI aS aT (othW d.ws p q)∧Own w w0.heap.size 3 1 encI aW aX (othW d.ws q p)∧d.ws.length≤dd∧Below w0.heap.size w0 w) (fun (s:Nat×(List Int))=>match s with|(k,m)=>(othW d.ws q p).length-k) (0,(othW d.ws p q)) ?_ ?_
 ·exact ⟨gX,gY,J.sb,(Qf _),rfl,M,E,cG,g,h,N,G⟩
 rintro ⟨k,m⟩ a w11 ⟨aE,aG,J,hk,hm,M,E,C,g,h,N,G⟩;refine Zs J fun _ eR=>?_;refine Ze (X0m rfl rfl)<|ZX eR fun a J _ eS=>?_
 refine Xh J rfl (fun b5=>?_) (fun b5=>?_)
 ·have W:=b5;have b5:=Q2 b5
  obtain ⟨j5,iK⟩:=X4 (l:=(othW d.ws q p)) (k:=k) (by omega)
  obtain ⟨u9,cA⟩:=X4 (l:=(othW d.ws q p)) (k:=k) (by have:=b5;omega)
  have bH:=X1z (f:=putI) (b:=(othW d.ws p q)) cA
  rw [← hm] at bH
  refine Q7<|eS _ _<|Q5 fun _ eT=>?_;refine Q8<|Zs J fun _ eU=>?_;refine Zi (k:=k) (u:=u9) (enc:=encI) (l:=(othW d.ws q p)) trivial rfl rfl Xj X08 Xa h.rd cA rfl ?_;intro j6 dN;refine Ze (X0 rfl X9 dN)<|Za rfl<|Zt eU fun a J=>?_;refine Zr J<|Zm rfl<|Zm rfl<|Zf (Vc (Xpv _ aE aG m C.rd.top u9 w0.heap.size C G.size (by have h9:=X81 ((othW d.ws q p).take k) (othW d.ws p q);rw [← hm,Qn] at h9;omega)) Xcu) ?_;rintro _ j7 ⟨hJ,hY,rfl,eX,L⟩;have M:=M.below L;have E:=E.below L;have g:=g.below L;have h:=h.below L;have G:=btr G L;refine Za rfl ?_;refine Zn fun a J=>?_;refine Xd<|eT _ _<|Zr J<|Ze (Xu rfl rfl (by omega) (by omega))<|Zm rfl ?_;refine Zn fun a J=>?_;refine Xf ?_;exact ⟨(k+1,(putI m u9)),⟨hJ,hY,J.sb,(by omega),(by rw [bH]),M,E,eX,g,h,N,G⟩,(by first|omega|(dsimp only;omega))⟩
 have W:=b5;have b5:=Q1 b5
 have cB:m=(pvL d p q):=by rw [hm,Qi (by have:=b5;omega)];rfl
 have j8:m.length≤2*d.ns.length:=by rw [cB];exact gN
 refine Q9<|Xk<|Xk<|X03 ?_;refine eP _ _<|Q5 fun _ eY=>?_;refine Q5 fun _ f0=>?_;refine X09 (fun a w=>Fr a 196 [(1,vi p),(2,vi q),(3,.pointer (some ⟨b4,0,none⟩)),(6,.pointer (some ⟨b7,0,none⟩)),(8,.slice aS (othW d.ws p q).length aT),(9,.slice aW (othW d.ws q p).length aX),(10,.slice aE m.length aG),(100,.bool (((!(hadD d p))||(!(hadD d q)))||(!(rdyD d m))))]∧Below w11.heap.size w11 w) ?_ ?_
 ·have aB:Below w11.heap.size w11 w11:=Below.refl _ _
  refine Zr J<|Ze (Vn X2 M)<|Zm rfl<|Zf (Vc (Xij _ d md aD Ad cd (aP.below' G).top Bd dd (aY.below' G).top N p hD.w (by omega)) Xaj) ?_;rintro _ w13 ⟨rfl,L⟩;have M:=M.below L;have C:=C.below L;have G:=btr G L;have aB:=btr aB L;refine Ze (X0y rfl)<|Zm rfl ?_
  refine Zg 89 rfl (fun aM=>?_) (fun aM=>?_)
  ·refine Zp (gP aM) ?_;refine Zp (gP aM) ?_;refine Zp (gP aM) ?_;refine Zp (gP aM) ?_;refine Ze (X8 rfl aM rfl)<|Zm rfl<|Zp (gP rfl) ?_;refine Zp (gP rfl) ?_;refine Zp (gP rfl) ?_;refine Zp (gP rfl) ?_;refine Ze (X8 rfl rfl rfl) ?_;refine Zn fun a J=>?_
   have aO:Below w11.heap.size w11 w13:=aB
   exact ⟨J.sub ⟨rfl,rfl,rfl,rfl,rfl,rfl,rfl,X1 rfl (by first|rfl|(simp only [U,W,aM,bs];done)|simp [U,W,aM]),trivial⟩,aO⟩
  refine Zv (gW aM) (Vn X2 M) ?_;refine Zv (gW aM) (X3 rfl) ?_;refine Zk (gW aM) (Vc (Xij _ d md aD Ad cd (aP.below' G).top Bd dd (aY.below' G).top N q hD.w (by omega)) Xaj) ?_;rintro _ w14 ⟨rfl,L⟩;have M:=M.below L;have C:=C.below L;have G:=btr G L;have aB:=btr aB L;refine Zv (gW aM) (X0y rfl) ?_;refine Ze (Xe rfl aM rfl)<|Zm rfl ?_
  refine Zg 95 rfl (fun aQ=>?_) (fun aQ=>?_)
  ·refine Zp (gP aQ) ?_;refine Zp (gP aQ) ?_;refine Zp (gP aQ) ?_;refine Zp (gP aQ) ?_;refine Ze (X8 rfl aQ rfl) ?_;refine Zn fun a J=>?_
   have aO:Below w11.heap.size w11 w14:=aB
   exact ⟨J.sub ⟨rfl,rfl,rfl,rfl,rfl,rfl,rfl,X1 rfl (by first|rfl|(simp only [U,W,aM,aQ,bs];done)|simp [U,W,aM,aQ]),trivial⟩,aO⟩
  refine Zv (gW aQ) (Vn X2 M) ?_;refine Zv (gW aQ) (X3 rfl) ?_;refine Zk (gW aQ) (Vc (Xo9 _ d md aD Ad cd (aP.below' G).top Bd dd (aY.below' G).top N aE aG m C.rd.top (by omega) (by omega) (by omega) C.cap) Xej) ?_;rintro _ w15 ⟨rfl,L⟩;have G:=btr G L;have aB:=btr aB L;refine Zv (gW aQ) (X0y rfl) ?_;refine Ze (Xe rfl aQ rfl) ?_;refine Zn fun a J=>?_
  have aO:Below w11.heap.size w11 w15:=aB
  exact ⟨J.sub ⟨rfl,rfl,rfl,rfl,rfl,rfl,rfl,X1 rfl (by first|rfl|(simp only [U,W,aM,aQ,bs];done)|simp [U,W,aM,aQ]),trivial⟩,aO⟩
 rintro a j9 ⟨J,L⟩;have M:=M.below L;have E:=E.below L;have C:=C.below L;have g:=g.below L;have h:=h.below L;have G:=btr G L;refine f0 _ _ ?_
 refine Xh J rfl (fun bJ=>?_) (fun bJ=>?_)
 ·have aH:=bJ
  have dM:pvC d p q=false:=Xgb (by rw [← cB];exact bJ)
  refine Zs J fun _ f5=>?_;refine Ze (Vn X2 M)<|Zo (Vw [vi d.n,.slice Ad md cd,.slice Bd d.ws.length dd,vi d.t,vi d.r] Xl E) ?_;rintro _ jA ⟨ho,hb⟩;have I:=E;have G:=Below.only G ho bY;have E:=hb;refine Za rfl<|Zt f5 fun a J=>?_;refine Q6<|X7<|X5 J (X1o J rfl (ResV.cellN (l:=[vi d.n,.slice Ad md cd,.slice Bd d.ws.length dd,vi d.t,vi d.r]) rfl X2 (E.at 0) rfl) rfl) ?_
  rw [dM,Q3 Bool.false_ne_true]
  exact ⟨Ad,cd,Bd,dd,rfl,(aP.below' G).top,(aY.below' G).top,N,aD,G⟩
 have aH:=bJ
 have f7:pvC d p q=true:=Xfb gU (by rw [← cB];exact bJ)
 refine Q7<|eY _ _<|Q5 fun _ f8=>?_;refine X05 none (fun _=>false) mixed ?_;intro jB L;have M:=M.below L;have E:=E.below L;have C:=C.below L;have g:=g.below L;have h:=h.below L;have G:=btr G L;refine Yb J<|Yo 0 rfl (fun _=>Vd rfl Xi 1)<|Ye 1 rfl (X0 rfl Xz (M.at 1))<|Yo 2 rfl (fun _=>X3 rfl)<|Yj (k:=p.toNat) (u:=(d.ns.getD p.toNat nZ)) (enc:=encNd) (l:=d.ns) 3 rfl trivial rfl aD rfl Xo X07 Xt (aP.below' G) (Xb cW.2) (by omega) ?_;intro jC dO;refine Yo 4 rfl (fun _=>X21 rfl X04)<|Ye 5 rfl (X0 rfl X9 (dO.drop 1))<|Yo 6 rfl (fun _=>Vd rfl Xi 1)<|Ye 7 rfl (X0 rfl Xz (M.at 1))<|Yo 8 rfl (fun _=>X3 rfl)<|Yj (k:=q.toNat) (u:=(d.ns.getD q.toNat nZ)) (enc:=encNd) (l:=d.ns) 9 rfl trivial rfl aD rfl Xo X07 Xt (aP.below' G) (Xb cF.2) (by omega) ?_;intro jD dP;refine Yo 10 rfl (fun _=>X21 rfl X04)<|Ye 11 rfl (X0 rfl X9 (dP.drop 1))<|Yo 12 rfl (fun _=>X0l rfl)<|Yo 13 rfl (fun _=>X0l rfl) ?_;refine Yd fun a J=>?_;refine f8 _ _<|Zs J fun _ f9=>?_;refine Ze (Vn X2 M)<|Zf (Vc (X9d _ d md aD Ad cd (aP.below' G).top Bd dd (aY.below' G).top N ⟨by omega,by omega⟩) X55) ?_;rintro _ jE ⟨cX,cY,i0,i1,rfl,aR,c4,L⟩;have aR:=aR.lower G.size;have c4:=c4.lower G.size;have M:=M.below L;have E:=E.below L;have C:=C.below L;have g:=g.below L;have h:=h.below L;have G:=btr G L;refine Zm rfl<|Zf (Vc (X8p _ d d.ns.length rfl cX cY _ aR G.size i0 i1 c4.rd.top c4.cap p cW (by omega)) X5h) ?_;rintro _ jF ⟨i2,i4,rfl,aN,fA,fB,fC,hg⟩;have H:=aR;have M:=M.appT H hg rfl;have E:=E.appT H hg rfl
 have C:=C.appT H hg rfl;have g:=g.appT H hg rfl;have h:=h.appT H hg rfl;have G:=Below.app G H hg (Qb _) G.size
 clear H hg;clear aR;have aR:=aN;clear aN;refine Zm rfl<|Zf (Vc (X8p _ ({ d with ns:=dpN d.ns p,ws:=dpW d.ws p } : Dg) d.ns.length fC cX cY _ aR G.size i2 i4 fA.top fB q ⟨cF.1,by rw [X1m];exact cF.2⟩ (by dsimp only;omega)) X5h) ?_;rintro _ jG ⟨fD,fE,rfl,aN,bK,fF,iM,hg⟩;have H:=aR;have M:=M.appT H hg rfl;have E:=E.appT H hg rfl;have C:=C.appT H hg rfl;have g:=g.appT H hg rfl;have h:=h.appT H hg rfl;have G:=Below.app G H hg (Qb _) G.size
 clear H hg;clear aR;have aR:=aN;clear aN;refine Zf (X00 (zs:=[vi 0,.slice none 0 0,.slice none 0 0,vi 0,vi 0]) X0o rfl) ?_;rintro _ jH ⟨b57,rfl,fG,L,D⟩
 have fH:b4≠b57:=by have:=M.lt;omega
 have fI:b7≠b57:=by have:=E.lt;omega
 have aZ:=Q0 G.size fG;have E:=E.below L;have C:=C.below L;have g:=g.below L;have h:=h.below L;have aR:=aR.below L;have bK:=bK.below L;have G:=btr G L;refine Zo (Vw [vi (({ ({ d with ns:=dpN d.ns p,ws:=dpW d.ws p } : Dg) with ns:=dpN ({ d with ns:=dpN d.ns p,ws:=dpW d.ws p } : Dg).ns q,ws:=dpW ({ d with ns:=dpN d.ns p,ws:=dpW d.ws p } : Dg).ws q } : Dg).n),.slice cX d.ns.length cY,.slice fD (({ ({ d with ns:=dpN d.ns p,ws:=dpW d.ws p } : Dg) with ns:=dpN ({ d with ns:=dpN d.ns p,ws:=dpW d.ws p } : Dg).ns q,ws:=dpW ({ d with ns:=dpN d.ns p,ws:=dpW d.ws p } : Dg).ws q } : Dg).ws).length fE,vi (({ ({ d with ns:=dpN d.ns p,ws:=dpW d.ws p } : Dg) with ns:=dpN ({ d with ns:=dpN d.ns p,ws:=dpW d.ws p } : Dg).ns q,ws:=dpW ({ d with ns:=dpN d.ns p,ws:=dpW d.ws p } : Dg).ws q } : Dg).t),vi (({ ({ d with ns:=dpN d.ns p,ws:=dpW d.ws p } : Dg) with ns:=dpN ({ d with ns:=dpN d.ns p,ws:=dpW d.ws p } : Dg).ns q,ws:=dpW ({ d with ns:=dpN d.ns p,ws:=dpW d.ws p } : Dg).ws q } : Dg).r)] Xl D) ?_;rintro _ jI ⟨ho,hb⟩;have I:=D;have E:=E.only ho (by omega);have C:=C.onlyT ho I rfl;have g:=g.onlyT ho I rfl;have h:=h.onlyT ho I rfl;have aR:=aR.onlyT ho I rfl;have bK:=bK.onlyT ho I rfl;have G:=Below.only G ho aZ;have D:=hb;refine ZX f9 fun a J _ fJ=>?_;refine Zs J fun _ fK=>?_;refine Zm rfl<|Ze (X0c rfl Xj)<|Zm rfl<|Zt fK fun a J=>?_;refine Q8<|X01 (σ:=Nat×Dg) (fun (s:Nat×Dg) (a:Act) (w:World)=>match s with|(i,o)=>∃ b2 b3 b6 b8,Fr a 196 [(6,.pointer (some ⟨b7,0,none⟩)),(8,.slice aS (othW d.ws p q).length aT),(9,.slice aW (othW d.ws q p).length aX),(10,.slice aE m.length aG),(13,vi ((d.ns.getD p.toNat nZ).p)),(14,vi ((d.ns.getD q.toNat nZ).p)),(15,.pointer (some ⟨b57,0,none⟩)),(120,.slice aE m.length aG),(121,vi (m.length:Int)),(122,vi (i:Int))]∧(i≤m.length)∧(o=pvM (d.ns.getD p.toNat nZ).p (d.ns.getD q.toNat nZ).p (othW d.ws p q) (othW d.ws q p) m (id0 (id0 d p) q) i)∧(d.ns.length=o.ns.length)∧(o.ws.length≤d.ws.length+i*2000)∧(PhN o.ns)∧Blk w b7 39 [vi 0,.slice none 0 0,.slice none 0 0,vi 0,vi 0]∧Blk w b57 39 [vi o.n,.slice b2 d.ns.length b3,.slice b6 o.ws.length b8,vi o.t,vi o.r]∧Own w w0.heap.size 3 1 encI aE aG m∧Own w w0.heap.size 3 1 encI aS aT (othW d.ws p q)∧Own w w0.heap.size 3 1 encI aW aX (othW d.ws q p)∧Own w w0.heap.size 81 2 encNd b2 b3 o.ns∧Rd w w.heap.size 83 encWr b6 o.ws∧d.ws.length≤dd∧o.ws.length≤b8∧Below w0.heap.size w0 w) (fun (s:Nat×Dg)=>match s with|(i,o)=>m.length-i) (0,(id0 (id0 d p) q)) ?_ ?_
 ·exact ⟨cX,cY,fD,fE,J.sb,(Qf _),rfl,((X1m _ _).trans (X1m _ _)).symm,(Q0 (X23 _ _) (Q0 (X23 d.ws p) (Nat.le_add_right _ _))),(X4y (X4y hD.p p) q),E,D,C,g,h,aR,bK.top,N,fF,G⟩
 rintro ⟨i,o⟩ a jJ ⟨b2,b3,b6,b8,J,hi,fL,cH,i5,dQ,E,D,C,g,h,a8,aF,N,d5,G⟩;refine Zs J fun _ fM=>?_;refine Ze (X0m rfl rfl)<|ZX fM fun a J _ fN=>?_
 refine Xh J rfl (fun b9=>?_) (fun b9=>?_)
 ·have aI:=b9;have b9:=Q2 b9
  obtain ⟨jK,iN⟩:=X4 (l:=m) (k:=i) (by omega)
  obtain ⟨u9,cA⟩:=X4 (l:=m) (k:=i) (by have:=b9;omega)
  have dR:0≤u9∧u9.toNat<d.ns.length:=X9l hD (by rw [← cB];exact cA)
  have jL:=X1i dQ u9.toNat;refine Q7<|fN _ _<|Q5 fun _ fO=>?_;refine Q8<|Zs J fun _ fP=>?_;refine Zm rfl<|Zi (k:=i) (u:=u9) (enc:=encI) (l:=m) trivial rfl rfl Xj X08 Xa C.rd cA rfl ?_;intro jM dS;refine Ze (X0 rfl X9 dS)<|Za rfl<|Za rfl<|Zx fP fun a J _ fQ=>?_;refine Zm rfl<|Zm rfl<|Zf (Vc (Xgs _ aS aT (othW d.ws p q) g.rd.top u9 (by omega)) X80) ?_;rintro _ jN ⟨rfl,L⟩;have E:=E.below L;have D:=D.below L;have C:=C.below L;have g:=g.below L;have h:=h.below L;have a8:=a8.below L;have aF:=aF.below L;have G:=btr G L;refine Zm rfl<|Zm rfl<|Zf (Vc (Xgs _ aW aX (othW d.ws q p) h.rd.top u9 (by omega)) X80) ?_;rintro _ jO ⟨rfl,L⟩;have E:=E.below L;have D:=D.below L;have C:=C.below L;have g:=g.below L;have h:=h.below L;have a8:=a8.below L;have aF:=aF.below L;have G:=btr G L;refine Za rfl<|Za rfl<|ZX fQ fun a J _ fR=>?_;refine Zs J fun _ fS=>?_;refine Zm rfl<|Zt fS fun a J=>?_;refine X09 (fun a w=>∃ (x1:Dg),∃ bS bT cJ cK,Fr a 196 [(6,.pointer (some ⟨b7,0,none⟩)),(8,.slice aS (othW d.ws p q).length aT),(9,.slice aW (othW d.ws q p).length aX),(10,.slice aE m.length aG),(13,vi ((d.ns.getD p.toNat nZ).p)),(14,vi ((d.ns.getD q.toNat nZ).p)),(15,.pointer (some ⟨b57,0,none⟩)),(16,vi (i:Int)),(17,vi u9),(18,.bool ((othW d.ws p q).any fun y=>y==u9)),(19,.bool ((othW d.ws q p).any fun y=>y==u9)),(120,.slice aE m.length aG),(121,vi (m.length:Int)),(122,vi (i:Int))]∧(x1=stN ((othW d.ws p q).any fun v=>v==u9) o u9 (d.ns.getD q.toNat nZ).p)∧(d.ns.length=x1.ns.length)∧(x1.ws.length≤o.ws.length)∧(PhN x1.ns)∧Blk w b7 39 [vi 0,.slice none 0 0,.slice none 0 0,vi 0,vi 0]∧Blk w b57 39 [vi x1.n,.slice bS d.ns.length bT,.slice cJ x1.ws.length cK,vi x1.t,vi x1.r]∧Own w w0.heap.size 3 1 encI aE aG m∧Own w w0.heap.size 3 1 encI aS aT (othW d.ws p q)∧Own w w0.heap.size 3 1 encI aW aX (othW d.ws q p)∧Own w w0.heap.size 81 2 encNd bS bT x1.ns∧Rd w w.heap.size 83 encWr cJ x1.ws∧d.ws.length≤dd∧x1.ws.length≤cK∧Below w0.heap.size w0 w) ?_ ?_
  ·refine Xh J rfl (fun bL=>?_) (fun bL=>?_)
   ·have dU:=bL;have cL:=bL;refine Zr J<|Ze (Vn X2 D)<|Zm rfl<|Zm rfl<|Zf (Vc (X92 _ o d.ns.length cH b2 b3 _ a8 G.size b6 b8 aF.top d5 u9 ((d.ns.getD q.toNat nZ).p) ⟨dR.1,by omega⟩ ⟨by omega,by omega⟩) X5c) ?_;rintro _ jP ⟨fT,fU,rfl,aN,cM,fV,iO,hg⟩;have H:=a8;have E:=E.appT H hg rfl;have D:=D.appT H hg rfl;have C:=C.appT H hg rfl;have g:=g.appT H hg rfl;have h:=h.appT H hg rfl;have G:=Below.app G H hg (Qb _) G.size
    clear H hg;clear a8;have a8:=aN;clear aN;refine Zo (Vw [vi (({ o with ns:=adN o.ns u9 ((d.ns.getD q.toNat nZ).p) } : Dg).n),.slice b2 d.ns.length b3,.slice fT (({ o with ns:=adN o.ns u9 ((d.ns.getD q.toNat nZ).p) } : Dg).ws).length fU,vi (({ o with ns:=adN o.ns u9 ((d.ns.getD q.toNat nZ).p) } : Dg).t),vi (({ o with ns:=adN o.ns u9 ((d.ns.getD q.toNat nZ).p) } : Dg).r)] Xl D) ?_;rintro _ jQ ⟨ho,hb⟩;have I:=D;have E:=E.only ho (by omega);have C:=C.onlyT ho I rfl;have g:=g.onlyT ho I rfl;have h:=h.onlyT ho I rfl;have a8:=a8.onlyT ho I rfl;have cM:=cM.onlyT ho I rfl;have G:=Below.only G ho aZ;have D:=hb;refine Zn fun a J=>?_;refine Xf ?_;exact ⟨({ o with ns:=adN o.ns u9 ((d.ns.getD q.toNat nZ).p) } : Dg),b2,b3,fT,fU,J.sb,((Xi3 cL).symm),(cH.trans (X1s _ _ _).symm),(Qb _),(X5n dQ _ _),E,D,C,g,h,a8,cM.top,N,fV,G⟩
   have dU:=bL;have cL:=bL;refine Q7<|Xf ?_;exact ⟨o,b2,b3,b6,b8,J.sb,((Xhs cL).symm),cH,(Qb _),dQ,E,D,C,g,h,a8,aF.top,N,d5,G⟩
  rintro a jR ⟨x1,bS,bT,cJ,cK,J,i6,dW,fW,dX,E,D,C,g,h,bC,dE,N,fX,G⟩;refine fR _ _<|Q5 fun _ fY=>?_;refine Zs J fun _ fZ=>?_;refine Zm rfl<|Zt fZ fun a J=>?_;refine X09 (fun a w=>∃ (x2:Dg),∃ bU bW cN cO,Fr a 196 [(6,.pointer (some ⟨b7,0,none⟩)),(8,.slice aS (othW d.ws p q).length aT),(9,.slice aW (othW d.ws q p).length aX),(10,.slice aE m.length aG),(13,vi ((d.ns.getD p.toNat nZ).p)),(14,vi ((d.ns.getD q.toNat nZ).p)),(15,.pointer (some ⟨b57,0,none⟩)),(16,vi (i:Int)),(17,vi u9),(18,.bool ((othW d.ws p q).any fun y=>y==u9)),(19,.bool ((othW d.ws q p).any fun y=>y==u9)),(120,.slice aE m.length aG),(121,vi (m.length:Int)),(122,vi (i:Int))]∧(x2=stN ((othW d.ws q p).any fun v=>v==u9) x1 u9 (d.ns.getD p.toNat nZ).p)∧(d.ns.length=x2.ns.length)∧(x2.ws.length≤o.ws.length)∧(PhN x2.ns)∧Blk w b7 39 [vi 0,.slice none 0 0,.slice none 0 0,vi 0,vi 0]∧Blk w b57 39 [vi x2.n,.slice bU d.ns.length bW,.slice cN x2.ws.length cO,vi x2.t,vi x2.r]∧Own w w0.heap.size 3 1 encI aE aG m∧Own w w0.heap.size 3 1 encI aS aT (othW d.ws p q)∧Own w w0.heap.size 3 1 encI aW aX (othW d.ws q p)∧Own w w0.heap.size 81 2 encNd bU bW x2.ns∧Rd w w.heap.size 83 encWr cN x2.ws∧d.ws.length≤dd∧x2.ws.length≤cO∧Below w0.heap.size w0 w) ?_ ?_
  ·refine Xh J rfl (fun bM=>?_) (fun bM=>?_)
   ·have dY:=bM;have cP:=bM;refine Zr J<|Ze (Vn X2 D)<|Zm rfl<|Zm rfl<|Zf (Vc (X92 _ x1 d.ns.length dW bS bT _ bC G.size cJ cK dE.top fX u9 ((d.ns.getD p.toNat nZ).p) ⟨dR.1,by omega⟩ (by have:=X1i dX u9.toNat;omega)) X5c) ?_;rintro _ jS ⟨g5,g6,rfl,aN,cQ,g7,iP,hg⟩;have H:=bC;have E:=E.appT H hg rfl;have D:=D.appT H hg rfl;have C:=C.appT H hg rfl;have g:=g.appT H hg rfl;have h:=h.appT H hg rfl;have G:=Below.app G H hg (Qb _) G.size
    clear H hg;clear bC;have bC:=aN;clear aN;refine Zo (Vw [vi (({ x1 with ns:=adN x1.ns u9 ((d.ns.getD p.toNat nZ).p) } : Dg).n),.slice bS d.ns.length bT,.slice g5 (({ x1 with ns:=adN x1.ns u9 ((d.ns.getD p.toNat nZ).p) } : Dg).ws).length g6,vi (({ x1 with ns:=adN x1.ns u9 ((d.ns.getD p.toNat nZ).p) } : Dg).t),vi (({ x1 with ns:=adN x1.ns u9 ((d.ns.getD p.toNat nZ).p) } : Dg).r)] Xl D) ?_;rintro _ jT ⟨ho,hb⟩;have I:=D;have E:=E.only ho (by omega);have C:=C.onlyT ho I rfl;have g:=g.onlyT ho I rfl;have h:=h.onlyT ho I rfl;have bC:=bC.onlyT ho I rfl;have cQ:=cQ.onlyT ho I rfl;have G:=Below.only G ho aZ;have D:=hb;refine Zn fun a J=>?_;refine Xf ?_;exact ⟨({ x1 with ns:=adN x1.ns u9 ((d.ns.getD p.toNat nZ).p) } : Dg),bS,bT,g5,g6,J.sb,((Xi3 cP).symm),(dW.trans (X1s _ _ _).symm),fW,(X5n dX _ _),E,D,C,g,h,bC,cQ.top,N,g7,G⟩
   have dY:=bM;have cP:=bM;refine Q7<|Xf ?_;exact ⟨x1,bS,bT,cJ,cK,J.sb,((Xhs cP).symm),dW,fW,dX,E,D,C,g,h,bC,dE.top,N,fX,G⟩
  rintro a i7 ⟨x2,bU,bW,cN,cO,J,i8,e8,g8,eA,E,D,C,g,h,bD,dF,N,gA,G⟩;refine fY _ _<|Q5 fun _ gB=>?_;refine Q5 fun _ gC=>?_;refine X09 (fun a w=>Fr a 196 [(6,.pointer (some ⟨b7,0,none⟩)),(8,.slice aS (othW d.ws p q).length aT),(9,.slice aW (othW d.ws q p).length aX),(10,.slice aE m.length aG),(13,vi ((d.ns.getD p.toNat nZ).p)),(14,vi ((d.ns.getD q.toNat nZ).p)),(15,.pointer (some ⟨b57,0,none⟩)),(16,vi (i:Int)),(17,vi u9),(18,.bool ((othW d.ws p q).any fun y=>y==u9)),(19,.bool ((othW d.ws q p).any fun y=>y==u9)),(120,.slice aE m.length aG),(121,vi (m.length:Int)),(122,vi (i:Int)),(146,.bool (((othW d.ws p q).any fun v=>v==u9)&&((othW d.ws q p).any fun v=>v==u9)))]∧i7=w) ?_ ?_
  ·refine Zr J<|Zm rfl<|Zm rfl ?_
   refine Zg 144 rfl (fun bA=>?_) (fun bA=>?_)
   ·refine Zv (gW bA) (X3 rfl) ?_;refine Ze (X8 rfl bA rfl) ?_;refine Zn fun a J=>?_;exact ⟨J.sub ⟨rfl,rfl,rfl,rfl,rfl,rfl,rfl,rfl,rfl,rfl,rfl,rfl,rfl,rfl,X1 rfl (by first|rfl|(simp only [U,W,aH,aI,bA,bs];done)|simp [U,W,aH,aI,bA]),trivial⟩,rfl⟩
   refine Zp (gP bA) ?_;refine Ze (Xe rfl bA rfl) ?_;refine Zn fun a J=>?_;exact ⟨J.sub ⟨rfl,rfl,rfl,rfl,rfl,rfl,rfl,rfl,rfl,rfl,rfl,rfl,rfl,rfl,X1 rfl (by first|rfl|(simp only [U,W,aH,aI,bA,bs];done)|simp [U,W,aH,aI,bA]),trivial⟩,rfl⟩
  rintro a _ ⟨J,rfl⟩;refine gC _ _<|X09 (fun a w=>∃ (x3:Dg),∃ d6 d7 d8 d9,Fr a 196 [(6,.pointer (some ⟨b7,0,none⟩)),(8,.slice aS (othW d.ws p q).length aT),(9,.slice aW (othW d.ws q p).length aX),(10,.slice aE m.length aG),(13,vi ((d.ns.getD p.toNat nZ).p)),(14,vi ((d.ns.getD q.toNat nZ).p)),(15,.pointer (some ⟨b57,0,none⟩)),(16,vi (i:Int)),(17,vi u9),(18,.bool ((othW d.ws p q).any fun y=>y==u9)),(19,.bool ((othW d.ws q p).any fun y=>y==u9)),(120,.slice aE m.length aG),(121,vi (m.length:Int)),(122,vi (i:Int))]∧(x3=stN (((othW d.ws p q).any fun v=>v==u9)&&((othW d.ws q p).any fun v=>v==u9)) x2 u9 4)∧(d.ns.length=x3.ns.length)∧(x3.ws.length≤o.ws.length)∧(PhN x3.ns)∧Blk w b7 39 [vi 0,.slice none 0 0,.slice none 0 0,vi 0,vi 0]∧Blk w b57 39 [vi x3.n,.slice d6 d.ns.length d7,.slice d8 x3.ws.length d9,vi x3.t,vi x3.r]∧Own w w0.heap.size 3 1 encI aE aG m∧Own w w0.heap.size 3 1 encI aS aT (othW d.ws p q)∧Own w w0.heap.size 3 1 encI aW aX (othW d.ws q p)∧Own w w0.heap.size 81 2 encNd d6 d7 x3.ns∧Rd w w.heap.size 83 encWr d8 x3.ws∧d.ws.length≤dd∧x3.ws.length≤d9∧Below w0.heap.size w0 w) ?_ ?_
  ·refine Xh J rfl (fun bN=>?_) (fun bN=>?_)
   ·have eB:=bN;have cR:=bN;refine Zr J<|Ze (Vn X2 D)<|Zm rfl<|Zf (Vc (X92 _ x2 d.ns.length e8 bU bW _ bD G.size cN cO dF.top gA u9 4 ⟨dR.1,by omega⟩ (by have:=X1i eA u9.toNat;omega)) X5c) ?_;rintro _ jU ⟨gD,gE,rfl,aN,cS,gF,iQ,hg⟩;have H:=bD;have E:=E.appT H hg rfl;have D:=D.appT H hg rfl;have C:=C.appT H hg rfl;have g:=g.appT H hg rfl;have h:=h.appT H hg rfl;have G:=Below.app G H hg (Qb _) G.size
    clear H hg;clear bD;have bD:=aN;clear aN;refine Zo (Vw [vi (({ x2 with ns:=adN x2.ns u9 4 } : Dg).n),.slice bU d.ns.length bW,.slice gD (({ x2 with ns:=adN x2.ns u9 4 } : Dg).ws).length gE,vi (({ x2 with ns:=adN x2.ns u9 4 } : Dg).t),vi (({ x2 with ns:=adN x2.ns u9 4 } : Dg).r)] Xl D) ?_;rintro _ jV ⟨ho,hb⟩;have I:=D;have E:=E.only ho (by omega);have C:=C.onlyT ho I rfl;have g:=g.onlyT ho I rfl;have h:=h.onlyT ho I rfl;have bD:=bD.onlyT ho I rfl;have cS:=cS.onlyT ho I rfl;have G:=Below.only G ho aZ;have D:=hb;refine Zn fun a J=>?_;refine Xf ?_;exact ⟨({ x2 with ns:=adN x2.ns u9 4 } : Dg),bU,bW,gD,gE,J.sb,((Xi3 cR).symm),(e8.trans (X1s _ _ _).symm),g8,(X5n eA _ _),E,D,C,g,h,bD,cS.top,N,gF,G⟩
   have eB:=bN;have cR:=bN;refine Q7<|Xf ?_;exact ⟨x2,bU,bW,cN,cO,J.sb,((Xhs cR).symm),e8,g8,eA,E,D,C,g,h,bD,dF.top,N,gA,G⟩
  rintro a i9 ⟨x3,d6,d7,d8,d9,J,iA,iB,iC,iD,E,D,C,g,h,gG,gH,N,iE,G⟩;refine gB _ _<|Zs J fun _ gI=>?_;refine Zm rfl<|Zm rfl ?_;have b0:=(C.rd.top).takeK Xa i;refine Ze (X2o (l:=m) (k:=i) rfl rfl Xj X08 rfl hi C.cap)<|Ze (X0c rfl Xj)<|Zm rfl<|Zt gI fun a J=>?_;refine Q8<|X01 (σ:=Nat×Dg) (fun (s:Nat×Dg) (a:Act) (w:World)=>match s with|(j,z)=>∃ bO bP cC cD,Fr a 196 [(6,.pointer (some ⟨b7,0,none⟩)),(8,.slice aS (othW d.ws p q).length aT),(9,.slice aW (othW d.ws q p).length aX),(10,.slice aE m.length aG),(13,vi ((d.ns.getD p.toNat nZ).p)),(14,vi ((d.ns.getD q.toNat nZ).p)),(15,.pointer (some ⟨b57,0,none⟩)),(17,vi u9),(18,.bool ((othW d.ws p q).any fun y=>y==u9)),(19,.bool ((othW d.ws q p).any fun y=>y==u9)),(120,.slice aE m.length aG),(121,vi (m.length:Int)),(122,vi (i:Int)),(152,.slice aE (m.take i).length aG),(153,vi ((m.take i).length:Int)),(154,vi (j:Int))]∧(j≤(m.take i).length)∧(z=pvF (othW d.ws p q) (othW d.ws q p) u9 ((m.take i).take j) x3)∧(d.ns.length=z.ns.length)∧(z.ws.length≤o.ws.length+j)∧(PhN z.ns)∧Blk w b7 39 [vi 0,.slice none 0 0,.slice none 0 0,vi 0,vi 0]∧Blk w b57 39 [vi z.n,.slice bO d.ns.length bP,.slice cC z.ws.length cD,vi z.t,vi z.r]∧Own w w0.heap.size 3 1 encI aE aG m∧Own w w0.heap.size 3 1 encI aS aT (othW d.ws p q)∧Own w w0.heap.size 3 1 encI aW aX (othW d.ws q p)∧Rd w i9.heap.size 3 encI aE (m.take i)∧Own w w0.heap.size 81 2 encNd bO bP z.ns∧Rd w w.heap.size 83 encWr cC z.ws∧d.ws.length≤dd∧z.ws.length≤cD∧Below w0.heap.size w0 w) (fun (s:Nat×Dg)=>match s with|(j,z)=>(m.take i).length-j) (0,x3) ?_ ?_
  ·exact ⟨d6,d7,d8,d9,J.sb,(Qf _),rfl,iB,iC,iD,E,D,C,g,h,b0,gG,gH.top,N,iE,G⟩
  rintro ⟨j,z⟩ a w36 ⟨bO,bP,cC,cD,J,hj,hz,cE,iF,cT,E,D,C,g,h,b0,b1,bR,N,eC,G⟩;refine Zs J fun _ gJ=>?_;refine Ze (X0m rfl rfl)<|ZX gJ fun a J _ gK=>?_
  refine Xh J rfl (fun bB=>?_) (fun bB=>?_)
  ·have aU:=bB;have bB:=Q2 bB
   obtain ⟨jW,iS⟩:=X4 (l:=(m.take i)) (k:=j) (by omega)
   obtain ⟨v9,eD⟩:=X4 (l:=m.take i) (k:=j) (by have:=bB;omega)
   have jX:j<i:=by have:=(Qg.1 eD).1;rw [Qn] at this;omega
   have bH:=Xhw (l:=(othW d.ws p q)) (m:=(othW d.ws q p)) (x:=u9) (o:=x3) eD
   rw [← hz] at bH
   refine Q7<|gK _ _<|Q5 fun _ dG=>?_;refine Q8<|Zs J fun _ gL=>?_;refine Zi (k:=j) (u:=v9) (enc:=encI) (l:=(m.take i)) trivial rfl rfl Xj X08 Xa b0 eD rfl ?_;intro iT dB;refine Ze (X0 rfl X9 dB)<|Za rfl<|ZX gL fun a J _ eE=>?_;refine X09 (fun a w=>Fr a 196 [(6,.pointer (some ⟨b7,0,none⟩)),(8,.slice aS (othW d.ws p q).length aT),(9,.slice aW (othW d.ws q p).length aX),(10,.slice aE m.length aG),(13,vi ((d.ns.getD p.toNat nZ).p)),(14,vi ((d.ns.getD q.toNat nZ).p)),(15,.pointer (some ⟨b57,0,none⟩)),(17,vi u9),(18,.bool ((othW d.ws p q).any fun y=>y==u9)),(19,.bool ((othW d.ws q p).any fun y=>y==u9)),(21,vi v9),(120,.slice aE m.length aG),(121,vi (m.length:Int)),(122,vi (i:Int)),(152,.slice aE (m.take i).length aG),(153,vi ((m.take i).length:Int)),(154,vi (j:Int)),(170,.bool ((((othW d.ws p q).any fun y=>y==u9)&&((othW d.ws q p).any fun y=>y==v9)) != (((othW d.ws q p).any fun y=>y==u9)&&((othW d.ws p q).any fun y=>y==v9))))]∧Below w36.heap.size w36 w) ?_ ?_
   ·have aB:Below w36.heap.size w36 w36:=Below.refl _ _
    refine Zr J<|Zm rfl<|Zm rfl ?_
    refine Zg 159 rfl (fun aA=>?_) (fun aA=>?_)
    ·refine Zv (gW aA) (X3 rfl) ?_;refine Zv (gW aA) (X3 rfl) ?_;refine Zk (gW aA) (Vc (Xgs _ aW aX (othW d.ws q p) h.rd.top v9 (by omega)) X80) ?_;rintro _ w37 ⟨rfl,L⟩;have g:=g.below L;have G:=btr G L;have aB:=btr aB L;refine Ze (X8 rfl aA rfl)<|Zm rfl<|Zm rfl ?_
     refine Zg 165 rfl (fun aJ=>?_) (fun aJ=>?_)
     ·refine Zv (gW aJ) (X3 rfl) ?_;refine Zv (gW aJ) (X3 rfl) ?_;refine Zk (gW aJ) (Vc (Xgs _ aS aT (othW d.ws p q) g.rd.top v9 (by omega)) X80) ?_;rintro _ w38 ⟨rfl,L⟩;have G:=btr G L;have aB:=btr aB L;refine Ze (X8 rfl aJ rfl)<|Ze (X7m Tryz.underlying4 rfl rfl) ?_;refine Zn fun a J=>?_
      have aO:Below w36.heap.size w36 w38:=aB
      exact ⟨J.sub ⟨rfl,rfl,rfl,rfl,rfl,rfl,rfl,rfl,rfl,rfl,rfl,rfl,rfl,rfl,rfl,rfl,rfl,X1 rfl (by first|rfl|(simp only [U,W,aH,aI,aU,aA,aJ,bs];done)|simp [U,W,aH,aI,aU,aA,aJ]),trivial⟩,aO⟩
     refine Zp (gP aJ) ?_;refine Zp (gP aJ) ?_;refine Zp (gP aJ) ?_;refine Ze (Xe rfl aJ rfl)<|Ze (X7m Tryz.underlying4 rfl rfl) ?_;refine Zn fun a J=>?_
     have aO:Below w36.heap.size w36 w37:=aB
     exact ⟨J.sub ⟨rfl,rfl,rfl,rfl,rfl,rfl,rfl,rfl,rfl,rfl,rfl,rfl,rfl,rfl,rfl,rfl,rfl,X1 rfl (by first|rfl|(simp only [U,W,aH,aI,aU,aA,aJ,bs];done)|simp [U,W,aH,aI,aU,aA,aJ]),trivial⟩,aO⟩
    refine Zp (gP aA) ?_;refine Zp (gP aA) ?_;refine Zp (gP aA) ?_;refine Ze (Xe rfl aA rfl)<|Zm rfl<|Zm rfl ?_
    refine Zg 165 rfl (fun aK=>?_) (fun aK=>?_)
    ·refine Zv (gW aK) (X3 rfl) ?_;refine Zv (gW aK) (X3 rfl) ?_;refine Zk (gW aK) (Vc (Xgs _ aS aT (othW d.ws p q) g.rd.top v9 (by omega)) X80) ?_;rintro _ w39 ⟨rfl,L⟩;have G:=btr G L;have aB:=btr aB L;refine Ze (X8 rfl aK rfl)<|Ze (X7m Tryz.underlying4 rfl rfl) ?_;refine Zn fun a J=>?_
     have aO:Below w36.heap.size w36 w39:=aB
     exact ⟨J.sub ⟨rfl,rfl,rfl,rfl,rfl,rfl,rfl,rfl,rfl,rfl,rfl,rfl,rfl,rfl,rfl,rfl,rfl,X1 rfl (by first|rfl|(simp only [U,W,aH,aI,aU,aA,aK,bs];done)|simp [U,W,aH,aI,aU,aA,aK]),trivial⟩,aO⟩
    refine Zp (gP aK) ?_;refine Zp (gP aK) ?_;refine Zp (gP aK) ?_;refine Ze (Xe rfl aK rfl)<|Ze (X7m Tryz.underlying4 rfl rfl) ?_;refine Zn fun a J=>?_
    have aO:Below w36.heap.size w36 w36:=aB
    exact ⟨J.sub ⟨rfl,rfl,rfl,rfl,rfl,rfl,rfl,rfl,rfl,rfl,rfl,rfl,rfl,rfl,rfl,rfl,rfl,X1 rfl (by first|rfl|(simp only [U,W,aH,aI,aU,aA,aK,bs];done)|simp [U,W,aH,aI,aU,aA,aK]),trivial⟩,aO⟩
   rintro a jY ⟨J,L⟩;have E:=E.below L;have D:=D.below L;have C:=C.below L;have g:=g.below L;have h:=h.below L;have b0:=b0.below L;have b1:=b1.below L;have bR:=bR.below L;have G:=btr G L;refine eE _ _ ?_
   refine Xh J rfl (fun bE=>?_) (fun bE=>?_)
   ·have dC:=bE
    rw [Xux bE] at bH
    refine Zr J<|Ze (Vn X2 D)<|Zm rfl<|Zm rfl<|Zf (Vc (Xni _ z d.ns.length cE bO bP _ b1 G.size cC cD bR.top eC u9 v9 (by have:=iF;have:=i5;omega)) Xdw) ?_;rintro _ jZ ⟨dH,dI,rfl,aN,bX,eF,iG,hg⟩;have H:=b1;have E:=E.appT H hg rfl;have D:=D.appT H hg rfl;have C:=C.appT H hg rfl;have g:=g.appT H hg rfl;have h:=h.appT H hg rfl;have b0:=b0.appT H hg rfl;have G:=Below.app G H hg (Qb _) G.size
    clear H hg;clear b1;have b1:=aN;clear aN;refine Zo (Vw [vi ((tgD z u9 v9).n),.slice bO d.ns.length bP,.slice dH ((tgD z u9 v9).ws).length dI,vi ((tgD z u9 v9).t),vi ((tgD z u9 v9).r)] Xl D) ?_;rintro _ k0 ⟨ho,hb⟩;have I:=D;have E:=E.only ho (by omega);have C:=C.onlyT ho I rfl;have g:=g.onlyT ho I rfl;have h:=h.onlyT ho I rfl;have b0:=b0.onlyT ho I rfl;have b1:=b1.onlyT ho I rfl;have bX:=bX.onlyT ho I rfl;have G:=Below.only G ho aZ;have D:=hb;refine Zn fun a J=>?_;refine Xd<|dG _ _<|Zr J<|Ze (Xu rfl rfl (by omega) (by omega))<|Zm rfl ?_;refine Zn fun a J=>?_;refine Xf ?_;exact ⟨(j+1,(tgD z u9 v9)),⟨bO,bP,dH,dI,J.sb,(by omega),(by rw [bH]),(by first|exact cE|(rw [(X2p z u9 v9).1];exact cE)),(by first|omega|(have:=(X2p z u9 v9).2;omega)),(by first|exact cT|(rw [(X2p z u9 v9).1];exact cT)),E,D,C,g,h,b0,b1,bX.top,N,eF,G⟩,(by first|omega|(dsimp only;omega))⟩
   have dC:=bE
   rw [Xt8 bE] at bH
   refine Q7<|Xd<|dG _ _<|Zr J ?_;refine Ze (Xu rfl rfl (by omega) (by omega))<|Zm rfl ?_;refine Zn fun a J=>?_;refine Xf ?_;exact ⟨(j+1,z),⟨bO,bP,cC,cD,J.sb,(by omega),(by rw [bH]),(by first|exact cE|(rw [(X2p z u9 v9).1];exact cE)),(by first|omega|(have:=(X2p z u9 v9).2;omega)),(by first|exact cT|(rw [(X2p z u9 v9).1];exact cT)),E,D,C,g,h,b0,b1,bR.top,N,eC,G⟩,(by first|omega|(dsimp only;omega))⟩
  have aU:=bB;have bB:=Q1 bB
  have iH:z=pvM (d.ns.getD p.toNat nZ).p (d.ns.getD q.toNat nZ).p (othW d.ws p q) (othW d.ws q p) m (id0 (id0 d p) q) (i+1):=by rw [hz,Qi (by have:=bB;omega),Xav cA,← fL,iA,i8,i6];rfl
  have k5:j≤i:=by rw [Qn] at hj;omega
  refine Q9<|Xk<|Xk<|X03 ?_;refine Xd<|fO _ _<|Zr J<|Ze (Xu rfl rfl (by omega) (by omega))<|Zm rfl ?_;refine Zn fun a J=>?_;refine Xf ?_;exact ⟨(i+1,z),⟨bO,bP,cC,cD,J.sb,(by omega),iH,cE,(by omega),cT,E,D,C,g,h,b1,bR.top,N,eC,G⟩,(by first|omega|(dsimp only;omega))⟩
 have aI:=b9;have b9:=Q1 b9
 have dJ:o=pvM (d.ns.getD p.toNat nZ).p (d.ns.getD q.toNat nZ).p (othW d.ws p q) (othW d.ws q p) (pvL d p q) (id0 (id0 d p) q) (pvL d p q).length:=by rw [fL,cB];congr 1;have:=b9;rw [cB] at this hi;omega
 refine Q9<|Xk<|Xk<|X03 ?_;refine fJ _ _<|Q5 fun _ cU=>?_;refine Zs J fun _ eG=>?_;refine Zm rfl<|Zm rfl<|Ze (Xu rfl rfl (by omega) (by omega))<|Ze (X0a rfl rfl)<|Zt eG fun a J=>?_
 refine Xh J rfl (fun bF=>?_) (fun bF=>?_)
 ·have dD:=bF;have cV:=bF;refine Zr J<|Ze (Vd rfl X0q 3)<|Ze (X0 rfl X9 (D.at 3))<|Ze (X3u rfl rfl)<|Ze (Vd rfl X0q 3)<|Zo (Vu (vs:=[vi (wr (o.t+4))]) (l':=[vi o.n,.slice b2 d.ns.length b3,.slice b6 o.ws.length b8,vi (wr (o.t+4)),vi o.r]) rfl rfl X08 D) ?_;rintro _ k6 ⟨ho,hb⟩;have I:=D;have E:=E.only ho (by omega);have a8:=a8.onlyT ho I rfl;have aF:=aF.onlyT ho I rfl;have G:=Below.only G ho aZ;have D:=hb;refine Zx cU fun a J _ eH=>?_;refine Ze (Vd rfl Xy 4)<|Ze (X0 rfl X9 (D.at 4))<|Zm rfl<|Ze (X0c rfl Xj)<|Ze (X1h rfl rfl (by omega) (by omega))<|Zm rfl<|Ze (X0c rfl Xj)<|Ze (X1h rfl rfl (by omega) (by omega))<|Ze (X3u rfl rfl)<|Ze (Vd rfl Xy 4) ?_;refine Zo (Vu (vs:=[vi (wr (o.r+((1-((othW d.ws p q).length:Int))-((othW d.ws q p).length:Int))))]) (l':=[vi o.n,.slice b2 d.ns.length b3,.slice b6 o.ws.length b8,vi (wr (o.t+4)),vi (wr (o.r+((1-((othW d.ws p q).length:Int))-((othW d.ws q p).length:Int))))]) rfl rfl X08 D) ?_;rintro _ k7 ⟨ho,hb⟩;have I:=D;have E:=E.only ho (by omega);have a8:=a8.onlyT ho I rfl;have aF:=aF.onlyT ho I rfl;have G:=Below.only G ho aZ;have D:=hb;refine Zx eH fun a J _ eI=>?_;refine Ze (Vn X2 D)<|Zo (Vw [vi o.n,.slice b2 d.ns.length b3,.slice b6 o.ws.length b8,vi (wr (o.t+4)),vi (wr (o.r+((1-((othW d.ws p q).length:Int))-((othW d.ws q p).length:Int))))] Xl E) ?_;rintro _ k8 ⟨ho,hb⟩;have I:=E;have a8:=a8.onlyT ho I rfl;have aF:=aF.onlyT ho I rfl;have G:=Below.only G ho bY;have E:=hb;refine Za rfl<|Zt eI fun a J=>?_
  refine Q6 (X5 J (X1o J rfl (ResV.cellN (l:=[vi o.n,.slice b2 d.ns.length b3,.slice b6 o.ws.length b8,vi (wr (o.t+4)),vi (wr (o.r+((1-((othW d.ws p q).length:Int))-((othW d.ws q p).length:Int))))]) rfl X2 (E.at 0) rfl) rfl) ?_)
  rw [f7,Q4 rfl,Xcf dJ,Q4 cV,aD]
  exact ⟨b2,b3,b6,b8,rfl,a8.rd.top,aF.top,d5,cH,G⟩
 have dD:=bF;have cV:=bF;refine Q7<|cU _ _<|Zs J fun _ eJ=>?_;refine Ze (Vd rfl Xy 4)<|Ze (X0 rfl X9 (D.at 4))<|Zm rfl<|Ze (X0c rfl Xj)<|Ze (X1h rfl rfl (by omega) (by omega))<|Zm rfl<|Ze (X0c rfl Xj)<|Ze (X1h rfl rfl (by omega) (by omega))<|Ze (X3u rfl rfl)<|Ze (Vd rfl Xy 4) ?_;refine Zo (Vu (vs:=[vi (wr (o.r+((1-((othW d.ws p q).length:Int))-((othW d.ws q p).length:Int))))]) (l':=[vi o.n,.slice b2 d.ns.length b3,.slice b6 o.ws.length b8,vi o.t,vi (wr (o.r+((1-((othW d.ws p q).length:Int))-((othW d.ws q p).length:Int))))]) rfl rfl X08 D) ?_;rintro _ kA ⟨ho,hb⟩;have I:=D;have E:=E.only ho (by omega);have a8:=a8.onlyT ho I rfl;have aF:=aF.onlyT ho I rfl;have G:=Below.only G ho aZ;have D:=hb;refine Zx eJ fun a J _ eK=>?_;refine Ze (Vn X2 D)<|Zo (Vw [vi o.n,.slice b2 d.ns.length b3,.slice b6 o.ws.length b8,vi o.t,vi (wr (o.r+((1-((othW d.ws p q).length:Int))-((othW d.ws q p).length:Int))))] Xl E) ?_;rintro _ kB ⟨ho,hb⟩;have I:=E;have a8:=a8.onlyT ho I rfl;have aF:=aF.onlyT ho I rfl;have G:=Below.only G ho bY;have E:=hb;refine Za rfl<|Zt eK fun a J=>?_
 refine Q6 (X5 J (X1o J rfl (ResV.cellN (l:=[vi o.n,.slice b2 d.ns.length b3,.slice b6 o.ws.length b8,vi o.t,vi (wr (o.r+((1-((othW d.ws p q).length:Int))-((othW d.ws q p).length:Int))))]) rfl X2 (E.at 0) rfl) rfl) ?_)
 rw [f7,Q4 rfl,Xcf dJ,Q3 (by rw [cV];decide),aD]
 exact ⟨b2,b3,b6,b8,rfl,a8.rd.top,aF.top,d5,cH,G⟩
theorem Xtn(w0:World)(d:Dg)(md:Nat)(p:md=d.ns.length)(Ad:Option Addr)(cd:Nat)(q:Rd w0 w0.heap.size 81 encNd Ad d.ns)(Bd:Option Addr)(dd:Nat)(y:Rd w0 w0.heap.size 83 encWr Bd d.ws)(h:d.ws.length≤dd)(x:Rz)(hD:InD d) : Ret Tryz.prog 123 [.agg #[vi d.n,.slice Ad md cd,.slice Bd d.ws.length dd,vi d.t,vi d.r],.agg #[vi x.u,vi x.a,vi x.b]] w0 (fun v w=>∃ A c B e,v=.tuple #[.agg #[vi (if (doC d x)=true then doD d x else d).n,.slice A md c,.slice B (if (doC d x)=true then doD d x else d).ws.length e,vi (if (doC d x)=true then doD d x else d).t,vi (if (doC d x)=true then doD d x else d).r],.bool (doC d x)]∧Rd w w.heap.size 81 encNd A (if (doC d x)=true then doD d x else d).ns∧Rd w w.heap.size 83 encWr B (if (doC d x)=true then doD d x else d).ws∧(if (doC d x)=true then doD d x else d).ws.length≤e∧md=(if (doC d x)=true then doD d x else d).ns.length∧Below w0.heap.size w0 w):=by
 refine enter Tryz.func123 rfl 59 rfl rfl ?_;intro a i
 have g:=bz w0
 refine Zs i fun _ bY=>?_;refine Zf (X0h (zs:=[vi d.n,.slice Ad md cd,.slice Bd d.ws.length dd,vi d.t,vi d.r]) rfl rfl) ?_;rintro _ w1 ⟨b4,rfl,c4,C,m⟩;have cD:=Q0 g.size c4;have g:=btr g C;refine Zf (X0h (zs:=[vi x.u,vi x.a,vi x.b]) rfl rfl) ?_;rintro _ w2 ⟨b5,rfl,cA,C,o⟩;have cE:=Q0 g.size cA;have m:=m.below C;have g:=btr g C;refine Zf (X00 (zs:=[vi 0,.slice none 0 0,.slice none 0 0,vi 0,vi 0]) X0o rfl) ?_;rintro _ w3 ⟨b8,rfl,cB,C,f⟩
 have bX:b4≠b8:=by have:=m.lt;omega
 have D:=Q0 g.size cB;have m:=m.below C;have o:=o.below C;have g:=btr g C;refine Za rfl<|ZX bY fun a i _ cC=>?_;refine Zs i fun _ b7=>?_;refine Ze (Vd rfl X3w 0)<|Ze (X0 rfl X9 (o.at 0))<|Zt b7 fun a i=>?_;refine Q8<|Zs i fun _ b9=>?_;refine Ze (X0a rfl rfl)<|Za rfl<|Zt b9 fun a i=>?_
 refine Xh i rfl (fun G=>?_) (fun G=>?_)
 ·have aZ:=G;have k:=Xuw (d:=d) G;refine Zs i fun _ bA=>?_;refine Ze (Vn X2 m)<|Ze (Vd rfl X1b 1)<|Ze (X0 rfl X9 (o.at 1))<|Ze (Vd rfl X39 2)<|Ze (X0 rfl X9 (o.at 2))<|Zf (Vc (Xun _ d md p Ad cd (q.below' g).top Bd dd (y.below' g).top h x.a x.b hD) Xm5) ?_;rintro _ w4 ⟨Q,U,W,a6,rfl,a7,a8,bB,cF,C⟩;have f:=f.below C;have g:=btr g C;refine Ze (Xs (vs:=[.agg #[vi ((if (fuC d x.a x.b)=true then fuD d x.a x.b else d).n),.slice Q md U,.slice W ((if (fuC d x.a x.b)=true then fuD d x.a x.b else d).ws).length a6,vi ((if (fuC d x.a x.b)=true then fuD d x.a x.b else d).t),vi ((if (fuC d x.a x.b)=true then fuD d x.a x.b else d).r)],.bool (fuC d x.a x.b)]) rfl rfl)<|Ze (Xs (vs:=[.agg #[vi ((if (fuC d x.a x.b)=true then fuD d x.a x.b else d).n),.slice Q md U,.slice W ((if (fuC d x.a x.b)=true then fuD d x.a x.b else d).ws).length a6,vi ((if (fuC d x.a x.b)=true then fuD d x.a x.b else d).t),vi ((if (fuC d x.a x.b)=true then fuD d x.a x.b else d).r)],.bool (fuC d x.a x.b)]) rfl rfl)<|Zo (Vw [vi ((if (fuC d x.a x.b)=true then fuD d x.a x.b else d).n),.slice Q md U,.slice W ((if (fuC d x.a x.b)=true then fuD d x.a x.b else d).ws).length a6,vi ((if (fuC d x.a x.b)=true then fuD d x.a x.b else d).t),vi ((if (fuC d x.a x.b)=true then fuD d x.a x.b else d).r)] Xl f) ?_;rintro _ w5 ⟨E,N⟩;have j:=f;have a7:=a7.onlyT E j rfl;have a8:=a8.onlyT E j rfl;have g:=Below.only g E D;have f:=N;refine Za rfl<|Zt bA fun a i=>?_;refine Q6<|Xq<|X7<|X5 i (X1o i rfl (ResV.cellN (l:=[vi ((if (fuC d x.a x.b)=true then fuD d x.a x.b else d).n),.slice Q md U,.slice W ((if (fuC d x.a x.b)=true then fuD d x.a x.b else d).ws).length a6,vi ((if (fuC d x.a x.b)=true then fuD d x.a x.b else d).t),vi ((if (fuC d x.a x.b)=true then fuD d x.a x.b else d).r)]) rfl X2 (f.at 0) rfl) rfl) ?_
  rw [k.1,k.2]
  exact ⟨Q,U,W,a6,rfl,a7.top,a8.top,bB,by assumption,g⟩
 have aZ:=G
 have g1:=G
 refine Zs i fun _ bC=>?_;refine Ze (X0a rfl rfl)<|Za rfl<|Zt bC fun a i=>?_
 refine Xh i rfl (fun H=>?_) (fun H=>?_)
 ·have b0:=H;have k:=Xsm (d:=d) g1 H;refine Zs i fun _ bD=>?_;refine Ze (Vn X2 m)<|Ze (Vd rfl X1b 1)<|Ze (X0 rfl X9 (o.at 1))<|Ze (Vd rfl X39 2)<|Ze (X0 rfl X9 (o.at 2))<|Zf (Vc (Xvm _ d md p Ad cd (q.below' g).top Bd dd (y.below' g).top h x.a x.b hD) Xkw) ?_;rintro _ w6 ⟨aA,aB,aC,aD,rfl,aE,aF,bE,cG,C⟩;have f:=f.below C;have g:=btr g C;refine Ze (Xs (vs:=[.agg #[vi ((if (pvC d x.a x.b)=true then pvD d x.a x.b else d).n),.slice aA md aB,.slice aC ((if (pvC d x.a x.b)=true then pvD d x.a x.b else d).ws).length aD,vi ((if (pvC d x.a x.b)=true then pvD d x.a x.b else d).t),vi ((if (pvC d x.a x.b)=true then pvD d x.a x.b else d).r)],.bool (pvC d x.a x.b)]) rfl rfl)<|Ze (Xs (vs:=[.agg #[vi ((if (pvC d x.a x.b)=true then pvD d x.a x.b else d).n),.slice aA md aB,.slice aC ((if (pvC d x.a x.b)=true then pvD d x.a x.b else d).ws).length aD,vi ((if (pvC d x.a x.b)=true then pvD d x.a x.b else d).t),vi ((if (pvC d x.a x.b)=true then pvD d x.a x.b else d).r)],.bool (pvC d x.a x.b)]) rfl rfl)<|Zo (Vw [vi ((if (pvC d x.a x.b)=true then pvD d x.a x.b else d).n),.slice aA md aB,.slice aC ((if (pvC d x.a x.b)=true then pvD d x.a x.b else d).ws).length aD,vi ((if (pvC d x.a x.b)=true then pvD d x.a x.b else d).t),vi ((if (pvC d x.a x.b)=true then pvD d x.a x.b else d).r)] Xl f) ?_;rintro _ w7 ⟨E,N⟩;have j:=f;have aE:=aE.onlyT E j rfl;have aF:=aF.onlyT E j rfl;have g:=Below.only g E D;have f:=N;refine Za rfl<|Zt bD fun a i=>?_;refine Q6<|Xq<|X7<|X5 i (X1o i rfl (ResV.cellN (l:=[vi ((if (pvC d x.a x.b)=true then pvD d x.a x.b else d).n),.slice aA md aB,.slice aC ((if (pvC d x.a x.b)=true then pvD d x.a x.b else d).ws).length aD,vi ((if (pvC d x.a x.b)=true then pvD d x.a x.b else d).t),vi ((if (pvC d x.a x.b)=true then pvD d x.a x.b else d).r)]) rfl X2 (f.at 0) rfl) rfl) ?_
  rw [k.1,k.2]
  exact ⟨aA,aB,aC,aD,rfl,aE.top,aF.top,bE,by assumption,g⟩
 have b0:=H
 have g4:=H
 refine Q7<|Xd<|cC _ _<|Q5 fun _ bF=>?_;refine Zs i fun _ bG=>?_;refine Ze (Vd rfl X39 2)<|Ze (X0 rfl X9 (o.at 2))<|Ze (X18 rfl rfl)<|Zt bG fun a i=>?_
 refine Xh i rfl (fun I=>?_) (fun I=>?_)
 ·have b1:=I;have k:=Xtx (d:=d) g1 g4 I;refine Zs i fun _ bH=>?_;refine Ze (Vn X2 m)<|Zo (Vw [vi d.n,.slice Ad md cd,.slice Bd d.ws.length dd,vi d.t,vi d.r] Xl f) ?_;rintro _ w8 ⟨E,N⟩;have j:=f;have g:=Below.only g E D;have f:=N;refine Za rfl<|Zt bH fun a i=>?_;refine Q6<|X7<|X5 i (X1o i rfl (ResV.cellN (l:=[vi d.n,.slice Ad md cd,.slice Bd d.ws.length dd,vi d.t,vi d.r]) rfl X2 (f.at 0) rfl) rfl) ?_
  rw [k,Q3 Bool.false_ne_true]
  exact ⟨Ad,cd,Bd,dd,rfl,(q.below' g).top,(y.below' g).top,h,p,g⟩
 have b1:=I
 have gb:=I
 refine Q7<|bF _ _<|Q5 fun _ bJ=>?_;refine Zs i fun _ bK=>?_;refine Ze (Vd rfl X3w 0)<|Ze (X0 rfl X9 (o.at 0))<|Zt bK fun a i=>?_;refine Q8<|Zs i fun _ bL=>?_;refine Ze (X0a rfl rfl)<|Za rfl<|Zt bL fun a i=>?_
 refine Xh i rfl (fun J=>?_) (fun J=>?_)
 ·have b2:=J;have k:=Xs0 (d:=d) g1 g4 gb J;refine Zs i fun _ bM=>?_;refine Ze (Vn X2 m)<|Ze (Vd rfl X1b 1)<|Ze (X0 rfl X9 (o.at 1))<|Zf (Vc (Xrx _ d md p Ad cd (q.below' g).top Bd dd (y.below' g).top h x.a hD) Xmb) ?_;rintro _ w9 ⟨aG,aH,aI,aJ,rfl,aK,aL,bN,cH,C⟩;have f:=f.below C;have g:=btr g C;refine Ze (Xs (vs:=[.agg #[vi ((if (idC d x.a)=true then idD d x.a else d).n),.slice aG md aH,.slice aI ((if (idC d x.a)=true then idD d x.a else d).ws).length aJ,vi ((if (idC d x.a)=true then idD d x.a else d).t),vi ((if (idC d x.a)=true then idD d x.a else d).r)],.bool (idC d x.a)]) rfl rfl)<|Ze (Xs (vs:=[.agg #[vi ((if (idC d x.a)=true then idD d x.a else d).n),.slice aG md aH,.slice aI ((if (idC d x.a)=true then idD d x.a else d).ws).length aJ,vi ((if (idC d x.a)=true then idD d x.a else d).t),vi ((if (idC d x.a)=true then idD d x.a else d).r)],.bool (idC d x.a)]) rfl rfl)<|Zo (Vw [vi ((if (idC d x.a)=true then idD d x.a else d).n),.slice aG md aH,.slice aI ((if (idC d x.a)=true then idD d x.a else d).ws).length aJ,vi ((if (idC d x.a)=true then idD d x.a else d).t),vi ((if (idC d x.a)=true then idD d x.a else d).r)] Xl f) ?_;rintro _ cL ⟨E,N⟩;have j:=f;have aK:=aK.onlyT E j rfl;have aL:=aL.onlyT E j rfl;have g:=Below.only g E D;have f:=N;refine Za rfl<|Zt bM fun a i=>?_;refine Q6<|Xq<|X7<|X5 i (X1o i rfl (ResV.cellN (l:=[vi ((if (idC d x.a)=true then idD d x.a else d).n),.slice aG md aH,.slice aI ((if (idC d x.a)=true then idD d x.a else d).ws).length aJ,vi ((if (idC d x.a)=true then idD d x.a else d).t),vi ((if (idC d x.a)=true then idD d x.a else d).r)]) rfl X2 (f.at 0) rfl) rfl) ?_
  rw [k.1,k.2]
  exact ⟨aG,aH,aI,aJ,rfl,aK.top,aL.top,bN,by assumption,g⟩
 have b2:=J
 have g2:=J
 refine Zs i fun _ bO=>?_;refine Ze (X0a rfl rfl)<|Za rfl<|Zt bO fun a i=>?_
 refine Xh i rfl (fun L=>?_) (fun L=>?_)
 ·have b3:=L;have k:=Xv1 (d:=d) g1 g4 gb g2 L;refine Zs i fun _ bP=>?_;refine Ze (Vn X2 m)<|Ze (Vd rfl X1b 1)<|Ze (X0 rfl X9 (o.at 1))<|Zf (Vc (Xuk _ d md p Ad cd (q.below' g).top Bd dd (y.below' g).top h x.a hD) Xl7) ?_;rintro _ cM ⟨aM,aN,aO,aP,rfl,aQ,aR,bR,cJ,C⟩;have f:=f.below C;have g:=btr g C;refine Ze (Xs (vs:=[.agg #[vi ((if (lcC d x.a)=true then lcD d x.a else d).n),.slice aM md aN,.slice aO ((if (lcC d x.a)=true then lcD d x.a else d).ws).length aP,vi ((if (lcC d x.a)=true then lcD d x.a else d).t),vi ((if (lcC d x.a)=true then lcD d x.a else d).r)],.bool (lcC d x.a)]) rfl rfl)<|Ze (Xs (vs:=[.agg #[vi ((if (lcC d x.a)=true then lcD d x.a else d).n),.slice aM md aN,.slice aO ((if (lcC d x.a)=true then lcD d x.a else d).ws).length aP,vi ((if (lcC d x.a)=true then lcD d x.a else d).t),vi ((if (lcC d x.a)=true then lcD d x.a else d).r)],.bool (lcC d x.a)]) rfl rfl)<|Zo (Vw [vi ((if (lcC d x.a)=true then lcD d x.a else d).n),.slice aM md aN,.slice aO ((if (lcC d x.a)=true then lcD d x.a else d).ws).length aP,vi ((if (lcC d x.a)=true then lcD d x.a else d).t),vi ((if (lcC d x.a)=true then lcD d x.a else d).r)] Xl f) ?_;rintro _ cN ⟨E,N⟩;have j:=f;have aQ:=aQ.onlyT E j rfl;have aR:=aR.onlyT E j rfl;have g:=Below.only g E D;have f:=N;refine Za rfl<|Zt bP fun a i=>?_;refine Q6<|Xq<|X7<|X5 i (X1o i rfl (ResV.cellN (l:=[vi ((if (lcC d x.a)=true then lcD d x.a else d).n),.slice aM md aN,.slice aO ((if (lcC d x.a)=true then lcD d x.a else d).ws).length aP,vi ((if (lcC d x.a)=true then lcD d x.a else d).t),vi ((if (lcC d x.a)=true then lcD d x.a else d).r)]) rfl X2 (f.at 0) rfl) rfl) ?_
  rw [k.1,k.2]
  exact ⟨aM,aN,aO,aP,rfl,aQ.top,aR.top,bR,by assumption,g⟩
 have b3:=L
 have g3:=L
 refine Zs i fun _ bS=>?_;refine Ze (X0a rfl rfl)<|Za rfl<|Zt bS fun a i=>?_
 refine Xh i rfl (fun M=>?_) (fun M=>?_)
 ·have b6:=M;have k:=Xs4 (d:=d) g1 g4 gb g2 g3 M;refine Zs i fun _ bT=>?_;refine Ze (Vn X2 m)<|Ze (Vd rfl X1b 1)<|Ze (X0 rfl X9 (o.at 1))<|Zf (Vc (Xt6 _ d md p Ad cd (q.below' g).top Bd dd (y.below' g).top h x.a hD) Xmt) ?_;rintro _ cO ⟨aS,aT,aU,aW,rfl,aX,aY,bU,cK,C⟩;have f:=f.below C;have g:=btr g C;refine Ze (Xs (vs:=[.agg #[vi ((if (loC d x.a)=true then loD d x.a else d).n),.slice aS md aT,.slice aU ((if (loC d x.a)=true then loD d x.a else d).ws).length aW,vi ((if (loC d x.a)=true then loD d x.a else d).t),vi ((if (loC d x.a)=true then loD d x.a else d).r)],.bool (loC d x.a)]) rfl rfl)<|Ze (Xs (vs:=[.agg #[vi ((if (loC d x.a)=true then loD d x.a else d).n),.slice aS md aT,.slice aU ((if (loC d x.a)=true then loD d x.a else d).ws).length aW,vi ((if (loC d x.a)=true then loD d x.a else d).t),vi ((if (loC d x.a)=true then loD d x.a else d).r)],.bool (loC d x.a)]) rfl rfl)<|Zo (Vw [vi ((if (loC d x.a)=true then loD d x.a else d).n),.slice aS md aT,.slice aU ((if (loC d x.a)=true then loD d x.a else d).ws).length aW,vi ((if (loC d x.a)=true then loD d x.a else d).t),vi ((if (loC d x.a)=true then loD d x.a else d).r)] Xl f) ?_;rintro _ cP ⟨E,N⟩;have j:=f;have aX:=aX.onlyT E j rfl;have aY:=aY.onlyT E j rfl;have g:=Below.only g E D;have f:=N;refine Za rfl<|Zt bT fun a i=>?_;refine Q6<|Xq<|X7<|X5 i (X1o i rfl (ResV.cellN (l:=[vi ((if (loC d x.a)=true then loD d x.a else d).n),.slice aS md aT,.slice aU ((if (loC d x.a)=true then loD d x.a else d).ws).length aW,vi ((if (loC d x.a)=true then loD d x.a else d).t),vi ((if (loC d x.a)=true then loD d x.a else d).r)]) rfl X2 (f.at 0) rfl) rfl) ?_
  rw [k.1,k.2]
  exact ⟨aS,aT,aU,aW,rfl,aX.top,aY.top,bU,by assumption,g⟩
 have b6:=M;have k:=Xw9 (d:=d) g1 g4 gb g2 g3 M;refine Q7<|Xd<|bJ _ _<|Zs i fun _ bW=>?_;refine Ze (Vn X2 m)<|Zo (Vw [vi d.n,.slice Ad md cd,.slice Bd d.ws.length dd,vi d.t,vi d.r] Xl f) ?_;rintro _ cQ ⟨E,N⟩;have j:=f;have g:=Below.only g E D;have f:=N;refine Za rfl<|Zt bW fun a i=>?_
 refine Q6 (X5 i (X1o i rfl (ResV.cellN (l:=[vi d.n,.slice Ad md cd,.slice Bd d.ws.length dd,vi d.t,vi d.r]) rfl X2 (f.at 0) rfl) rfl) ?_)
 rw [k,Q3 Bool.false_ne_true]
 exact ⟨Ad,cd,Bd,dd,rfl,(q.below' g).top,(y.below' g).top,h,p,g⟩
def cnW(ws:List Wr)(k:Int) : Int:=((ws.filter fun w=>w.a==k||w.b==k).length:Int)
theorem Xsa{ws:List Wr}{k:Int}{j:Nat}{w:Wr}(hj:ws[j]? = some w)(h:(w.a==k||w.b==k)=true) : cnW (ws.take (j+1)) k=cnW (ws.take j) k+1:=by
 unfold cnW
 rw [X30 (q:=fun w=>w.a==k||w.b==k) hj,Q4 h,Qh]
 rfl
theorem Xv0{ws:List Wr}{k:Int}{j:Nat}{w:Wr}(hj:ws[j]? = some w)(h:(w.a==k||w.b==k)=false) : cnW (ws.take (j+1)) k=cnW (ws.take j) k:=by
 unfold cnW
 rw [X30 (q:=fun w=>w.a==k||w.b==k) hj,Q3 (by rw [h];decide),List.append_nil]
theorem Xe5(ws:List Wr)(k:Int)(j:Nat) : 0≤cnW (ws.take j) k∧cnW (ws.take j) k≤j:=by
 have h1:=List.length_filter_le (fun w:Wr=>w.a==k||w.b==k) (ws.take j)
 rw [Qn] at h1
 unfold cnW
 omega
def ctN(ns:List Nd)(k p:Int) : Int:=((ns.filter fun x=>x.k==k&&x.p==p).length:Int)
theorem Xx3{ns:List Nd}{k p:Int}{j:Nat}{x:Nd}(hj:ns[j]? = some x)(h:(x.k==k&&x.p==p)=true) : ctN (ns.take (j+1)) k p=ctN (ns.take j) k p+1:=by
 unfold ctN
 rw [X30 (q:=fun x=>x.k==k&&x.p==p) hj,Q4 h,Qh]
 rfl
theorem Xwn{ns:List Nd}{k p:Int}{j:Nat}{x:Nd}(hj:ns[j]? = some x)(h:(x.k==k&&x.p==p)=false) : ctN (ns.take (j+1)) k p=ctN (ns.take j) k p:=by
 unfold ctN
 rw [X30 (q:=fun x=>x.k==k&&x.p==p) hj,Q3 (by rw [h];decide),List.append_nil]
theorem Xst(ns:List Nd)(k p:Int)(j:Nat) : 0≤ctN (ns.take j) k p∧ctN (ns.take j) k p≤j:=by
 have h1:=List.length_filter_le (fun x:Nd=>x.k==k&&x.p==p) (ns.take j)
 rw [Qn] at h1
 unfold ctN
 omega
def ndQ(d:Dg)(k:Int) : Bool:=
 if ((d.ns.getD k.toNat nZ).k==0)=true then (d.ns.getD k.toNat nZ).p==0&&cnW d.ws k==0
 else if ((d.ns.getD k.toNat nZ).k==1||(d.ns.getD k.toNat nZ).k==2)=true then inR (d.ns.getD k.toNat nZ).p 0 (d.n-1)&&cnW d.ws k==1
 else (d.ns.getD k.toNat nZ).k==3&&inR (d.ns.getD k.toNat nZ).p 0 7
theorem Xw5{d:Dg}{k:Int}(h:((d.ns.getD k.toNat nZ).k==0)=true) : ndQ d k=((d.ns.getD k.toNat nZ).p==0&&cnW d.ws k==0):=Q4 h
theorem Xv4{d:Dg}{k:Int}(h:((d.ns.getD k.toNat nZ).k==0)=false)(h2:((d.ns.getD k.toNat nZ).k==1||(d.ns.getD k.toNat nZ).k==2)=true) : ndQ d k=(inR (d.ns.getD k.toNat nZ).p 0 (d.n-1)&&cnW d.ws k==1):=by
 unfold ndQ;rw [h,h2];rfl
theorem Xvt{d:Dg}{k:Int}(h:((d.ns.getD k.toNat nZ).k==0)=false)(h2:((d.ns.getD k.toNat nZ).k==1||(d.ns.getD k.toNat nZ).k==2)=false) : ndQ d k=((d.ns.getD k.toNat nZ).k==3&&inR (d.ns.getD k.toNat nZ).p 0 7):=by
 unfold ndQ;rw [h,h2];rfl
def enQ(d:Dg)(k:Int) : Bool:=(List.range d.n.toNat).all fun (j:Nat)=>ctN d.ns k (j:Int)==1
def endQ(d:Dg) : Bool:=enQ d 1&&enQ d 2
theorem Xuo{d:Dg}{e j:Nat}(h1:1≤e)(h2:e≤2)(hj:(j:Int)<d.n)(h:(ctN d.ns (e:Int) (j:Int) != 1)=true) : endQ d=false:=by
 have hx:enQ d (e:Int)=false:=X4w (k:=j) (by omega) (by simpa [bne] using h)
 unfold endQ
 rcases (by omega:e=1∨e=2) with h3|h3<;>subst h3
 ·rw [show enQ d 1=false from hx];rfl
 ·rw [show enQ d 2=false from hx,Bool.and_false]
def wrQ(d:Dg)(i:Nat) : Bool:=!(!(inR (d.ws.getD i wZ).a 0 ((d.ws.getD i wZ).b-1))||decide ((d.ns.length:Int)≤(d.ws.getD i wZ).b)||(decide (0<(i:Int))&&!(wlt (d.ws.getD (i-1) wZ) (d.ws.getD i wZ))))
def hdQ(d:Dg) : Bool:=!(!(inR d.n 1 5)||decide (40<(d.ns.length:Int))||!(inR d.t 0 7)||!(inR d.r (-60) 60))
def goodD(d:Dg) : Bool:=hdQ d&&(List.range d.ws.length).all (wrQ d)&&(List.range d.ns.length).all (fun k=>ndQ d (k:Int))&&endQ d
theorem Xtu{d:Dg}(h:(!(inR d.n 1 5)||decide (40<(d.ns.length:Int))||!(inR d.t 0 7)||!(inR d.r (-60) 60))=true) : goodD d=false:=by
 unfold goodD hdQ;rw [h];rfl
theorem Xhh{d:Dg}(h:(!(inR d.n 1 5)||decide (40<(d.ns.length:Int))||!(inR d.t 0 7)||!(inR d.r (-60) 60))=false) : hdQ d=true∧(1≤d.n∧d.n≤5)∧d.ns.length≤40∧(0≤d.t∧d.t≤7)∧-60≤d.r∧d.r≤60:=by
 refine ⟨by unfold hdQ;rw [h];rfl,?_⟩
 simp only [Bool.or_eq_false_iff,Bool.not_eq_false',X0e,decide_eq_false_iff_not] at h
 omega
theorem Xio{d:Dg}{i:Nat}{u:Wr}(hu:d.ws[i]? = some u) : wrQ d i = !(!(inR u.a 0 (u.b-1))||decide ((d.ns.length:Int)≤u.b)||(decide (0<(i:Int))&&!(wlt (d.ws.getD (i-1) wZ) u))):=by
 have h:d.ws.getD i wZ=u:=by rw [Qa,hu];rfl
 unfold wrQ
 rw [h]
theorem Xp4{d:Dg}{i:Nat}(hi:i<d.ws.length)(h:wrQ d i=false) : goodD d=false:=by
 unfold goodD
 rw [X4w (q:=wrQ d) hi h,Bool.and_false,Bool.false_and,Bool.false_and]
theorem Xpt{d:Dg}{i:Nat}(hi:i<d.ns.length)(h:ndQ d (i:Int)=false) : goodD d=false:=by
 unfold goodD
 rw [X4w (q:=fun k=>ndQ d (k:Int)) hi h,Bool.and_false,Bool.false_and]
theorem Xrh{d:Dg}(h1:hdQ d=true)(h2:∀ i,i<d.ws.length→wrQ d i=true)(h3:∀ i:Nat,i<d.ns.length→ndQ d (i:Int)=true) : goodD d=endQ d:=by
 unfold goodD
 rw [h1,X4j (q:=wrQ d) h2,X4j (q:=fun k=>ndQ d (k:Int)) h3]
 rfl
theorem Xi7(y:World)(d:Dg)(md:Nat)(aP:md=d.ns.length)(Ad:Option Addr)(cd:Nat)(aQ:Rd y y.heap.size 81 encNd Ad d.ns)(Bd:Option Addr)(dd:Nat)(B:Rd y y.heap.size 83 encWr Bd d.ws)(q:d.ws.length≤dd)(p:Int)(aU:d.ws.length≤1000000000) : Ret Tryz.prog 152 [.agg #[vi d.n,.slice Ad md cd,.slice Bd d.ws.length dd,vi d.t,vi d.r],vi p] y (fun v w=>v=vi (cnW d.ws p)∧Below y.heap.size y w):=by
 refine enter Tryz.func152 rfl 29 rfl rfl ?_;intro a f
 have o:=bz y
 refine Zs f fun _ aH=>?_;refine Zf (X0h (zs:=[vi d.n,.slice Ad md cd,.slice Bd d.ws.length dd,vi d.t,vi d.r]) rfl rfl) ?_;rintro _ w1 ⟨b4,rfl,aI,hE,aJ⟩;have aR:=Q0 o.size aI;have o:=btr o hE;refine Za rfl<|Zx aH fun a f _ aK=>?_;refine Za rfl<|ZX aK fun a f _ aL=>?_;refine Zs f fun _ aM=>?_;refine Ze (Vd rfl Xm 2)<|Ze (X0 rfl X0j (aJ.at 2))<|Ze (X0c rfl Xv)<|Zm rfl<|Zt aM fun a f=>?_;refine Q8<|X01 (σ:=Nat×Int) (fun (s:Nat×Int) (a:Act) (w:World)=>match s with|(k,c)=>Fr a 29 [(1,vi p),(5,vi c),(9,.slice Bd d.ws.length dd),(10,vi (d.ws.length:Int)),(11,vi (k:Int))]∧(k≤d.ws.length)∧(c=cnW (d.ws.take k) p)∧d.ws.length≤dd∧Below y.heap.size y w) (fun (s:Nat×Int)=>match s with|(k,c)=>d.ws.length-k) (0,0) ?_ ?_
 ·exact ⟨f.sb,(Qf _),rfl,q,o⟩
 rintro ⟨k,c⟩ a w2 ⟨f,hk,hc,q,o⟩;have aB:=Xe5 d.ws p k
 rw [← hc] at aB
 refine Zs f fun _ aN=>?_;refine Ze (X0m rfl rfl)<|ZX aN fun a f _ aO=>?_
 refine Xh f rfl (fun g=>?_) (fun g=>?_)
 ·have i:=g;have g:=Q2 g
  obtain ⟨aW,aS⟩:=X4 (l:=d.ws) (k:=k) (by omega)
  obtain ⟨A,a6⟩:=X4 (l:=d.ws) (k:=k) (by have:=g;omega)
  have aB:=Xe5 d.ws p k;refine Q7<|aO _ _<|Q5 fun _ C=>?_;refine Q8<|Zs f fun _ aC=>?_;refine Zi (k:=k) (u:=A) (enc:=encWr) (l:=d.ws) trivial rfl rfl Xv X0b Xx (B.below' o) a6 rfl ?_;intro aX a7;refine Ze (X02 (l:=[vi A.a,vi A.b,.bool A.h]) rfl X17 a7 rfl)<|Zf (X00 (zs:=[vi 0,vi 0,.bool false]) X32 rfl) ?_;rintro _ w3 ⟨aY,rfl,D,hE,j⟩;have a8:=Q0 o.size D;have aD:=(B.below' o).away D;have o:=btr o hE;refine Zo (Vw [vi A.a,vi A.b,.bool A.h] X0b j) ?_;rintro _ w4 ⟨ho,hb⟩;have aT:=j;have o:=Below.only o ho a8;have j:=hb;refine ZX aC fun a f _ aE=>?_;refine X09 (fun a w=>Fr a 29 [(1,vi p),(5,vi c),(9,.slice Bd d.ws.length dd),(10,vi (d.ws.length:Int)),(11,vi (k:Int)),(24,.bool ((A.a==p)||(A.b==p)))]∧w4=w) ?_ ?_
  ·refine Zr f<|Ze (Vd rfl X0s 0)<|Ze (X0 rfl X9 (j.at 0))<|Zm rfl<|Ze (X0a rfl rfl)<|Zm rfl ?_
   refine Zg 19 rfl (fun e=>?_) (fun e=>?_)
   ·refine Zp (gP e) ?_;refine Zp (gP e) ?_;refine Zp (gP e) ?_;refine Zp (gP e) ?_;refine Ze (X8 rfl e rfl) ?_;refine Zn fun a f=>?_;exact ⟨f.sub ⟨rfl,rfl,rfl,rfl,rfl,X1 rfl (by first|rfl|(simp only [i,e,bs];done)|simp [i,e]),trivial⟩,rfl⟩
   refine Zv (gW e) (Vd rfl X0v 1) ?_;refine Zv (gW e) (X0 rfl X9 (j.at 1)) ?_;refine Zv (gW e) (X3 rfl) ?_;refine Zv (gW e) (X0a rfl rfl) ?_;refine Ze (Xe rfl e rfl) ?_;refine Zn fun a f=>?_;exact ⟨f.sub ⟨rfl,rfl,rfl,rfl,rfl,X1 rfl (by first|rfl|(simp only [i,e,bs];done)|simp [i,e]),trivial⟩,rfl⟩
  rintro a _ ⟨f,rfl⟩;refine aE _ _ ?_
  refine Xh f rfl (fun m=>?_) (fun m=>?_)
  ·have aA:=m;have x:=Xsa a6 m
   rw [← hc] at x
   refine Zr f<|Zm rfl<|Ze (Xu rfl rfl (by omega) (by omega))<|Za rfl ?_;refine Zn fun a f=>?_;refine Xd<|C _ _<|Zr f<|Ze (Xu rfl rfl (by omega) (by omega))<|Zm rfl ?_;refine Zn fun a f=>?_;refine Xf ?_;exact ⟨(k+1,c+1),⟨f.sb,(by omega),(by rw [x]),q,o⟩,(by first|omega|(dsimp only;omega))⟩
  have aA:=m;have x:=Xv0 a6 m
  rw [← hc] at x
  refine Q7<|Xd<|C _ _<|Zr f ?_;refine Ze (Xu rfl rfl (by omega) (by omega))<|Zm rfl ?_;refine Zn fun a f=>?_;refine Xf ?_;exact ⟨(k+1,c),⟨f.sb,(by omega),(by rw [x]),q,o⟩,(by first|omega|(dsimp only;omega))⟩
 have i:=g;have g:=Q1 g
 have aF:c=cnW d.ws p:=by rw [hc,Qi (by have:=g;omega)]
 refine Q9<|Xk<|Xk<|X03 ?_;refine aL _ _<|Zs f fun _ aG=>?_;refine Zm rfl<|Za rfl<|Zt aG fun a f=>?_
 refine Q6 (X5 f (Xr f rfl rfl) ?_)
 exact ⟨by rw [aF],o⟩
theorem Xv9(L:World)(d:Dg)(md:Nat)(H:md=d.ns.length)(Ad:Option Addr)(cd:Nat)(C:Rd L L.heap.size 81 encNd Ad d.ns)(Bd:Option Addr)(dd:Nat)(I:Rd L L.heap.size 83 encWr Bd d.ws)(J:d.ws.length≤dd)(p:Int)(aK:0≤p∧p.toNat<d.ns.length)(a6:d.ws.length≤1000000000)(hn:1≤d.n∧d.n≤1000) : Ret Tryz.prog 107 [.agg #[vi d.n,.slice Ad md cd,.slice Bd d.ws.length dd,vi d.t,vi d.r],vi p] L (fun v w=>v=.bool (ndQ d p)∧Below L.heap.size L w):=by
 refine enter Tryz.func107 rfl 47 rfl rfl ?_;intro a e
 have o:=bz L
 refine Zs e fun _ aL=>?_;refine Zf (X0h (zs:=[vi d.n,.slice Ad md cd,.slice Bd d.ws.length dd,vi d.t,vi d.r]) rfl rfl) ?_;rintro _ w1 ⟨b4,rfl,aM,A,x⟩;have aP:=Q0 o.size aM;have o:=btr o A;refine Za rfl<|Zx aL fun a e _ aN=>?_;refine Ze (Vd rfl Xi 1)<|Ze (X0 rfl Xz (x.at 1))<|Zm rfl<|Zj (k:=p.toNat) (u:=(d.ns.getD p.toNat nZ)) (enc:=encNd) (l:=d.ns) trivial rfl H rfl Xo X07 Xt (C.below' o) (Xb aK.2) (by omega) ?_;intro p7 a7;refine Ze (X02 (l:=[vi ((d.ns.getD p.toNat nZ).k),vi ((d.ns.getD p.toNat nZ).p)]) rfl X2i a7 rfl)<|Zf (X00 (zs:=[vi 0,vi 0]) X6m rfl) ?_;rintro _ w2 ⟨b8,rfl,a8,A,B⟩;have aA:=Q0 o.size a8;have aJ:=(C.below' o).away a8;have x:=x.below A;have o:=btr o A;refine Zo (Vw [vi ((d.ns.getD p.toNat nZ).k),vi ((d.ns.getD p.toNat nZ).p)] X07 B) ?_;rintro _ w3 ⟨ho,hb⟩;have aB:=B;have x:=x.only ho (Blk.ne x aB rfl);have o:=Below.only o ho aA;have B:=hb;refine ZX aN fun a e _ aO=>?_;refine Zs e fun _ aC=>?_;refine Ze (Vd rfl X10 0)<|Ze (X0 rfl X9 (B.at 0))<|Zt aC fun a e=>?_;refine Q8<|Zs e fun _ aD=>?_;refine Ze (X0a rfl rfl)<|Za rfl<|Zt aD fun a e=>?_
 refine Xh e rfl (fun D=>?_) (fun D=>?_)
 ·have b:=D;have y:=Xw5 D;refine Q5 fun _ aE=>?_;refine X09 (fun a w=>Fr a 47 [(4,.bool ((((d.ns.getD p.toNat nZ).p)==0)&&((cnW d.ws p)==0)))]∧Below w3.heap.size w3 w) ?_ ?_
  ·have q:Below w3.heap.size w3 w3:=Below.refl _ _
   refine Zr e<|Ze (Vd rfl X04 1)<|Ze (X0 rfl X9 (B.at 1))<|Ze (X0a rfl rfl)<|Zm rfl ?_
   refine Zg 18 rfl (fun f=>?_) (fun f=>?_)
   ·refine Zv (gW f) (Vn X2 x) ?_;refine Zv (gW f) (X3 rfl) ?_;refine Zk (gW f) (Vc (Xi7 _ d md H Ad cd (C.below' o).top Bd dd (I.below' o).top J p a6) Xaf) ?_;rintro _ w4 ⟨rfl,A⟩;have o:=btr o A;have q:=btr q A;refine Zv (gW f) (X0a rfl rfl) ?_;refine Ze (X8 rfl f rfl)<|Za rfl ?_;refine Zn fun a e=>?_
    have h:Below w3.heap.size w3 w4:=q
    exact ⟨e.sub ⟨X1 rfl (by first|rfl|(simp only [b,f,bs];done)|simp [b,f]),trivial⟩,h⟩
   refine Zp (gP f) ?_;refine Zp (gP f) ?_;refine Zp (gP f) ?_;refine Zp (gP f) ?_;refine Ze (Xe rfl f rfl)<|Za rfl ?_;refine Zn fun a e=>?_
   have h:Below w3.heap.size w3 w3:=q
   exact ⟨e.sub ⟨X1 rfl (by first|rfl|(simp only [b,f,bs];done)|simp [b,f]),trivial⟩,h⟩
  rintro a w5 ⟨e,A⟩;have o:=btr o A;refine aE _ _<|Q6<|Xq<|X7 ?_;refine X5 e (Xr e rfl rfl) ?_;exact ⟨by rw [y],o⟩
 have b:=D
 have g0:=D
 refine Q5 fun _ M=>?_;refine Zs e fun _ aF=>?_;refine Ze (X0a rfl rfl)<|Za rfl<|Zt aF fun a e=>?_
 refine Xh e rfl (fun E=>?_) (fun E=>?_)
 ·have c:=E
  have y:=Xv4 g0 (by rw [E];rfl)
  refine Q7<|M _ _<|Xhj e (X1 rfl c) ?_;refine Q5 fun _ aG=>?_;refine X09 (fun a w=>Fr a 47 [(4,.bool ((inR ((d.ns.getD p.toNat nZ).p) 0 (d.n-1))&&((cnW d.ws p)==1)))]∧Below w3.heap.size w3 w) ?_ ?_
  ·have q:Below w3.heap.size w3 w3:=Below.refl _ _
   refine Zr e<|Ze (Vd rfl X04 1)<|Ze (X0 rfl X9 (B.at 1))<|Ze (Vd rfl X2h 0)<|Ze (X0 rfl X9 (x.at 0))<|Ze (X1h rfl rfl (by omega) (by omega))<|Zf (Vc (F85 _ ((d.ns.getD p.toNat nZ).p) 0 (d.n-1)) X3e) ?_;rintro _ _ ⟨rfl,rfl⟩;refine Zm rfl ?_
   refine Zg 33 rfl (fun g=>?_) (fun g=>?_)
   ·refine Zv (gW g) (Vn X2 x) ?_;refine Zv (gW g) (X3 rfl) ?_;refine Zk (gW g) (Vc (Xi7 _ d md H Ad cd (C.below' o).top Bd dd (I.below' o).top J p a6) Xaf) ?_;rintro _ w6 ⟨rfl,A⟩;have o:=btr o A;have q:=btr q A;refine Zv (gW g) (X0a rfl rfl) ?_;refine Ze (X8 rfl g rfl)<|Za rfl ?_;refine Zn fun a e=>?_
    have h:Below w3.heap.size w3 w6:=q
    exact ⟨e.sub ⟨X1 rfl (by first|rfl|(simp only [b,c,g,bs];done)|simp [b,c,g]),trivial⟩,h⟩
   refine Zp (gP g) ?_;refine Zp (gP g) ?_;refine Zp (gP g) ?_;refine Zp (gP g) ?_;refine Ze (Xe rfl g rfl)<|Za rfl ?_;refine Zn fun a e=>?_
   have h:Below w3.heap.size w3 w3:=q
   exact ⟨e.sub ⟨X1 rfl (by first|rfl|(simp only [b,c,g,bs];done)|simp [b,c,g]),trivial⟩,h⟩
  rintro a w7 ⟨e,A⟩;have o:=btr o A;refine aG _ _<|Q6<|Xq<|X7 ?_;refine X5 e (Xr e rfl rfl) ?_;exact ⟨by rw [y],o⟩
 have c:=E
 have g1:=E
 refine Zr e<|Ze (X0a rfl rfl)<|Za rfl<|Zt M fun a e=>?_
 refine Xh e rfl (fun G=>?_) (fun G=>?_)
 ·have m:=G
  have y:=Xv4 g0 (by rw [g1,G];rfl)
  refine Q5 fun _ aH=>?_;refine X09 (fun a w=>Fr a 47 [(4,.bool ((inR ((d.ns.getD p.toNat nZ).p) 0 (d.n-1))&&((cnW d.ws p)==1)))]∧Below w3.heap.size w3 w) ?_ ?_
  ·have q:Below w3.heap.size w3 w3:=Below.refl _ _
   refine Zr e<|Ze (Vd rfl X04 1)<|Ze (X0 rfl X9 (B.at 1))<|Ze (Vd rfl X2h 0)<|Ze (X0 rfl X9 (x.at 0))<|Ze (X1h rfl rfl (by omega) (by omega))<|Zf (Vc (F85 _ ((d.ns.getD p.toNat nZ).p) 0 (d.n-1)) X3e) ?_;rintro _ _ ⟨rfl,rfl⟩;refine Zm rfl ?_
   refine Zg 33 rfl (fun i=>?_) (fun i=>?_)
   ·refine Zv (gW i) (Vn X2 x) ?_;refine Zv (gW i) (X3 rfl) ?_;refine Zk (gW i) (Vc (Xi7 _ d md H Ad cd (C.below' o).top Bd dd (I.below' o).top J p a6) Xaf) ?_;rintro _ w8 ⟨rfl,A⟩;have o:=btr o A;have q:=btr q A;refine Zv (gW i) (X0a rfl rfl) ?_;refine Ze (X8 rfl i rfl)<|Za rfl ?_;refine Zn fun a e=>?_
    have h:Below w3.heap.size w3 w8:=q
    exact ⟨e.sub ⟨X1 rfl (by first|rfl|(simp only [b,c,m,i,bs];done)|simp [b,c,m,i]),trivial⟩,h⟩
   refine Zp (gP i) ?_;refine Zp (gP i) ?_;refine Zp (gP i) ?_;refine Zp (gP i) ?_;refine Ze (Xe rfl i rfl)<|Za rfl ?_;refine Zn fun a e=>?_
   have h:Below w3.heap.size w3 w3:=q
   exact ⟨e.sub ⟨X1 rfl (by first|rfl|(simp only [b,c,m,i,bs];done)|simp [b,c,m,i]),trivial⟩,h⟩
  rintro a w9 ⟨e,A⟩;have o:=btr o A;refine aH _ _<|Q6<|Xq<|X7 ?_;refine X5 e (Xr e rfl rfl) ?_;exact ⟨by rw [y],o⟩
 have m:=G
 have y:=Xvt g0 (by rw [g1,G];rfl)
 refine Q7<|Xd<|aO _ _<|Q5 fun _ aI=>?_;refine X09 (fun a w=>Fr a 47 [(4,.bool ((((d.ns.getD p.toNat nZ).k)==3)&&(inR ((d.ns.getD p.toNat nZ).p) 0 7)))]∧w3=w) ?_ ?_
 ·refine Zr e<|Ze (Vd rfl X10 0)<|Ze (X0 rfl X9 (B.at 0))<|Ze (X0a rfl rfl)<|Zm rfl ?_
  refine Zg 42 rfl (fun j=>?_) (fun j=>?_)
  ·refine Zv (gW j) (Vd rfl X04 1) ?_;refine Zv (gW j) (X0 rfl X9 (B.at 1)) ?_;refine Zk (gW j) (Vc (F85 _ ((d.ns.getD p.toNat nZ).p) 0 7) X3e) ?_;rintro _ _ ⟨rfl,rfl⟩;refine Ze (X8 rfl j rfl)<|Za rfl ?_;refine Zn fun a e=>?_;exact ⟨e.sub ⟨X1 rfl (by first|rfl|(simp only [b,c,m,j,bs];done)|simp [b,c,m,j]),trivial⟩,rfl⟩
  refine Zp (gP j) ?_;refine Zp (gP j) ?_;refine Zp (gP j) ?_;refine Ze (Xe rfl j rfl)<|Za rfl ?_;refine Zn fun a e=>?_;exact ⟨e.sub ⟨X1 rfl (by first|rfl|(simp only [b,c,m,j,bs];done)|simp [b,c,m,j]),trivial⟩,rfl⟩
 rintro a _ ⟨e,rfl⟩;refine aI _ _ ?_
 refine Q6 (X5 e (Xr e rfl rfl) ?_)
 exact ⟨by rw [y],o⟩
theorem Xt9(G:World)(d:Dg)(md:Nat)(aC:md=d.ns.length)(Ad:Option Addr)(cd:Nat)(L:Rd G G.heap.size 81 encNd Ad d.ns)(Bd:Option Addr)(dd:Nat)(b7:Rd G G.heap.size 83 encWr Bd d.ws)(m:d.ws.length≤dd)(hN:md≤1000)(hn:1≤d.n∧d.n≤1000) : Ret Tryz.prog 108 [.agg #[vi d.n,.slice Ad md cd,.slice Bd d.ws.length dd,vi d.t,vi d.r]] G (fun v w=>v=.bool (endQ d)∧Below G.heap.size G w):=by
 refine enter Tryz.func108 rfl 40 rfl rfl ?_;intro a b
 have h:=bz G
 refine Zs b fun _ aW=>?_;refine Zf (X0h (zs:=[vi d.n,.slice Ad md cd,.slice Bd d.ws.length dd,vi d.t,vi d.r]) rfl rfl) ?_;rintro _ w1 ⟨b4,rfl,aX,hE,g⟩;have b8:=Q0 h.size aX;have h:=btr h hE;refine Za rfl<|ZX aW fun a b _ aY=>?_;refine Zs b fun _ aZ=>?_;refine Za rfl<|Zt aZ fun a b=>?_;refine Q8<|X01 (σ:=Nat) (fun (e:Nat) (a:Act) (w:World)=>Fr a 40 [(1,.pointer (some ⟨b4,0,none⟩)),(3,vi (e:Int))]∧(1≤e∧e≤3)∧(∀ i:Nat,1≤i→i<e→enQ d (i:Int)=true)∧Blk w b4 39 [vi d.n,.slice Ad md cd,.slice Bd d.ws.length dd,vi d.t,vi d.r]∧d.ws.length≤dd∧Below G.heap.size G w) (fun (e:Nat)=>3-e) 1 ?_ ?_
 ·exact ⟨b.sb,⟨Qb _,by omega⟩,(fun i h1 h2=>by omega),g,m,h⟩
 rintro e a w2 ⟨b,he,H,g,m,h⟩;refine Q5 fun _ b0=>?_;refine Zs b fun _ b1=>?_;refine Zm rfl<|Ze (Xjm rfl rfl)<|Zt b1 fun a b=>?_
 refine Xh b rfl (fun A=>?_) (fun A=>?_)
 ·have B:=A;have A:=Q2 A;have h9:=A;refine Q7<|b0 _ _<|Q5 fun _ aD=>?_;refine Q8<|Zs b fun _ aE=>?_;refine Za rfl<|Zt aE fun a b=>?_;refine Q8<|X01 (σ:=Nat) (fun (j:Nat) (a:Act) (w:World)=>Fr a 40 [(1,.pointer (some ⟨b4,0,none⟩)),(3,vi (e:Int)),(4,vi (j:Int))]∧(∀ i:Nat,i<j→(ctN d.ns (e:Int) (i:Int)==1)=true)∧Blk w b4 39 [vi d.n,.slice Ad md cd,.slice Bd d.ws.length dd,vi d.t,vi d.r]∧d.ws.length≤dd∧Below G.heap.size G w) (fun (j:Nat)=>d.n.toNat-j) 0 ?_ ?_
  ·exact ⟨b.sb,(fun i hi=>by omega),g,m,h⟩
  rintro j a w3 ⟨b,M,g,m,h⟩;refine Q5 fun _ aF=>?_;refine Zs b fun _ aG=>?_;refine Zm rfl<|Ze (Vd rfl X2h 0)<|Ze (X0 rfl X9 (g.at 0))<|Ze (X0m rfl rfl)<|Zt aG fun a b=>?_
  refine Xh b rfl (fun o=>?_) (fun o=>?_)
  ·have x:=o;have o:=Q2 o;have b2:=o;refine Q7<|aF _ _<|Q5 fun _ aH=>?_;refine Q8<|Zs b fun _ aI=>?_;refine Za rfl<|ZX aI fun a b _ aJ=>?_;refine Zs b fun _ aK=>?_;refine Ze (Vd rfl Xi 1)<|Ze (X0 rfl Xz (g.at 1))<|Ze (X0c rfl Xo)<|Zm rfl<|Zt aK fun a b=>?_;refine Q8<|X01 (σ:=Nat×Int) (fun (s:Nat×Int) (a:Act) (w:World)=>match s with|(k,c)=>Fr a 40 [(1,.pointer (some ⟨b4,0,none⟩)),(3,vi (e:Int)),(4,vi (j:Int)),(5,vi c),(19,.slice Ad md cd),(20,vi (md:Int)),(21,vi (k:Int))]∧(k≤d.ns.length)∧(c=ctN (d.ns.take k) (e:Int) (j:Int))∧Blk w b4 39 [vi d.n,.slice Ad md cd,.slice Bd d.ws.length dd,vi d.t,vi d.r]∧d.ws.length≤dd∧Below G.heap.size G w) (fun (s:Nat×Int)=>match s with|(k,c)=>d.ns.length-k) (0,0) ?_ ?_
   ·exact ⟨b.sb,(Qf _),rfl,g,m,h⟩
   rintro ⟨k,c⟩ a w4 ⟨b,hk,hc,g,m,h⟩;have b3:=Xst d.ns (e:Int) (j:Int) k
   rw [← hc] at b3
   refine Zs b fun _ aL=>?_;refine Ze (X0m rfl rfl)<|ZX aL fun a b _ aM=>?_
   refine Xh b rfl (fun q=>?_) (fun q=>?_)
   ·have y:=q;have q:=Q2 q
    obtain ⟨u9,a6⟩:=X4 (l:=d.ns) (k:=k) (by have:=q;omega)
    refine Q7<|aM _ _<|Q5 fun _ N=>?_;refine Q8<|Zs b fun _ aN=>?_;refine Zj (k:=k) (u:=u9) (enc:=encNd) (l:=d.ns) trivial rfl aC rfl Xo X07 Xt (L.below' h) a6 (by omega) ?_;intro b9 a7;refine Ze (X02 (l:=[vi u9.k,vi u9.p]) rfl X2i a7 rfl)<|Zf (X00 (zs:=[vi 0,vi 0]) X6m rfl) ?_;rintro _ w5 ⟨bA,rfl,Q,hE,C⟩;have a8:=Q0 h.size Q;have aO:=(L.below' h).away Q;have g:=g.below hE;have h:=btr h hE;refine Zo (Vw [vi u9.k,vi u9.p] X07 C) ?_;rintro _ w6 ⟨ho,hb⟩;have aP:=C;have g:=g.only ho (Blk.ne g aP rfl);have h:=Below.only h ho a8;have C:=hb;refine ZX aN fun a b _ aQ=>?_;refine X09 (fun a w=>Fr a 40 [(1,.pointer (some ⟨b4,0,none⟩)),(3,vi (e:Int)),(4,vi (j:Int)),(5,vi c),(19,.slice Ad md cd),(20,vi (md:Int)),(21,vi (k:Int)),(34,.bool ((u9.k==(e:Int))&&(u9.p==(j:Int))))]∧w6=w) ?_ ?_
    ·refine Zr b<|Ze (Vd rfl X10 0)<|Ze (X0 rfl X9 (C.at 0))<|Zm rfl<|Ze (X0a rfl rfl)<|Zm rfl ?_
     refine Zg 29 rfl (fun f=>?_) (fun f=>?_)
     ·refine Zv (gW f) (Vd rfl X04 1) ?_;refine Zv (gW f) (X0 rfl X9 (C.at 1)) ?_;refine Zv (gW f) (X3 rfl) ?_;refine Zv (gW f) (X0a rfl rfl) ?_;refine Ze (X8 rfl f rfl) ?_;refine Zn fun a b=>?_;exact ⟨b.sub ⟨rfl,rfl,rfl,rfl,rfl,rfl,rfl,X1 rfl (by first|rfl|(simp only [B,x,y,f,bs];done)|simp [B,x,y,f]),trivial⟩,rfl⟩
     refine Zp (gP f) ?_;refine Zp (gP f) ?_;refine Zp (gP f) ?_;refine Zp (gP f) ?_;refine Ze (Xe rfl f rfl) ?_;refine Zn fun a b=>?_;exact ⟨b.sub ⟨rfl,rfl,rfl,rfl,rfl,rfl,rfl,X1 rfl (by first|rfl|(simp only [B,x,y,f,bs];done)|simp [B,x,y,f]),trivial⟩,rfl⟩
    rintro a _ ⟨b,rfl⟩;refine aQ _ _ ?_
    refine Xh b rfl (fun D=>?_) (fun D=>?_)
    ·have aA:=D;have I:=Xx3 a6 D
     rw [← hc] at I
     refine Zr b<|Zm rfl<|Ze (Xu rfl rfl (by omega) (by omega))<|Za rfl ?_;refine Zn fun a b=>?_;refine Xd<|N _ _<|Zr b<|Ze (Xu rfl rfl (by omega) (by omega))<|Zm rfl ?_;refine Zn fun a b=>?_;refine Xf ?_;exact ⟨(k+1,c+1),⟨b.sb,(by omega),(by rw [I]),g,m,h⟩,(by first|omega|(dsimp only;omega))⟩
    have aA:=D;have I:=Xwn a6 D
    rw [← hc] at I
    refine Q7<|Xd<|N _ _<|Zr b ?_;refine Ze (Xu rfl rfl (by omega) (by omega))<|Zm rfl ?_;refine Zn fun a b=>?_;refine Xf ?_;exact ⟨(k+1,c),⟨b.sb,(by omega),(by rw [I]),g,m,h⟩,(by first|omega|(dsimp only;omega))⟩
   have y:=q;have q:=Q1 q
   have aR:c=ctN d.ns (e:Int) (j:Int):=by rw [hc,Qi (by have:=q;omega)]
   refine Q9<|Xk<|Xk<|X03 ?_;refine aJ _ _<|Zs b fun _ aS=>?_;refine Zm rfl<|Ze (X18 rfl rfl)<|Zt aS fun a b=>?_
   refine Xh b rfl (fun E=>?_) (fun E=>?_)
   ·have aB:=E
    have J:endQ d=false:=Xuo (e:=e) (by omega) (by omega) b2 (by rw [← aR];exact E)
    refine Zs b fun _ aT=>?_;refine Za rfl<|Zt aT fun a b=>?_;refine Q6<|Xq<|X7<|X7 ?_;refine Xq<|Xq<|X7<|X7 ?_;refine Xq<|X7<|X5 b (Xr b rfl rfl) ?_;exact ⟨by rw [J],h⟩
   have aB:=E
   have b5:(ctN d.ns (e:Int) (j:Int)==1)=true:=by rw [← aR];have h8:=E;simpa using h8
   refine Q7<|Xd<|aH _ _<|Zr b ?_;refine Zm rfl<|Ze (Xu rfl rfl (by omega) (by omega))<|Za rfl ?_;refine Zn fun a b=>?_;refine Xf ?_;exact ⟨j+1,⟨b.sb,(fun i hi=>by by_cases h9:i=j;rw [h9];exact b5;exact M i (by omega)),g,m,h⟩,(by omega)⟩
  have x:=o;have o:=Q1 o
  have b6:enQ d (e:Int)=true:=X4j fun i hi=>M i (by have:=o;omega)
  refine Q9<|Xk<|Xk<|X03 ?_;refine Xd<|aD _ _<|Zr b<|Zm rfl<|Ze (Xu rfl rfl (by omega) (by omega))<|Za rfl ?_;refine Zn fun a b=>?_;refine Xf ?_;exact ⟨e+1,⟨b.sb,(by omega),(fun i h1 h2=>by by_cases h9:i=e;rw [h9];exact b6;exact H i h1 (by omega)),g,m,h⟩,(by omega)⟩
 have B:=A;have A:=Q1 A
 have J:endQ d=true:=by unfold endQ;rw [show enQ d 1=true from H 1 (by omega) (by have:=A;omega),show enQ d 2=true from H 2 (by omega) (by have:=A;omega)];rfl
 refine Q9<|Xk<|Xk<|X03 ?_;refine aY _ _<|Zs b fun _ aU=>?_;refine Za rfl<|Zt aU fun a b=>?_
 refine Q6 (X5 b (Xr b rfl rfl) ?_)
 exact ⟨by rw [J],h⟩
theorem Xoy(w0:World)(d:Dg)(md:Nat)(J:md=d.ns.length)(Ad:Option Addr)(cd:Nat)(a8:Rd w0 w0.heap.size 81 encNd Ad d.ns)(Bd:Option Addr)(dd:Nat)(L:Rd w0 w0.heap.size 83 encWr Bd d.ws)(G:d.ws.length≤dd)(bK:d.ws.length≤1000000000)(b8:∀ x ∈ d.ws,-1000000≤x.b∧x.b≤1000000) : Ret Tryz.prog 54 [.agg #[vi d.n,.slice Ad md cd,.slice Bd d.ws.length dd,vi d.t,vi d.r]] w0 (fun v w=>v=.bool (goodD d)∧Below w0.heap.size w0 w):=by
 refine enter Tryz.func54 rfl 80 rfl rfl ?_;intro a f
 have y:=bz w0
 refine Zs f fun _ b9=>?_;refine Zf (X0h (zs:=[vi d.n,.slice Ad md cd,.slice Bd d.ws.length dd,vi d.t,vi d.r]) rfl rfl) ?_;rintro _ w1 ⟨b4,rfl,bA,I,m⟩;have bH:=Q0 y.size bA;have y:=btr y I;refine Za rfl<|ZX b9 fun a f _ bB=>?_;refine Q5 fun _ bC=>?_;refine X09 (fun a w=>Fr a 80 [(1,.pointer (some ⟨b4,0,none⟩)),(27,.bool ((((!(inR d.n 1 5))||(decide (40<(md:Int))))||(!(inR d.t 0 7)))||(!(inR d.r (-60) 60))))]∧w1=w) ?_ ?_
 ·refine Zr f<|Ze (Vd rfl X2h 0)<|Ze (X0 rfl X9 (m.at 0))<|Zf (Vc (F85 _ d.n 1 5) X3e) ?_;rintro _ _ ⟨rfl,rfl⟩;refine Ze (X0y rfl)<|Zm rfl ?_
  refine Zg 10 rfl (fun o=>?_) (fun o=>?_)
  ·refine Zp (gP o) ?_;refine Zp (gP o) ?_;refine Zp (gP o) ?_;refine Zp (gP o) ?_;refine Ze (X8 rfl o rfl)<|Zm rfl<|Zp (gP rfl) ?_;refine Zp (gP rfl) ?_;refine Zp (gP rfl) ?_;refine Zp (gP rfl) ?_;refine Ze (X8 rfl rfl rfl)<|Zm rfl<|Zp (gP rfl) ?_;refine Zp (gP rfl) ?_;refine Zp (gP rfl) ?_;refine Zp (gP rfl) ?_;refine Ze (X8 rfl rfl rfl) ?_;refine Zn fun a f=>?_;exact ⟨f.sub ⟨rfl,X1 rfl (by first|rfl|(simp only [o,bs];done)|simp [o]),trivial⟩,rfl⟩
  refine Zv (gW o) (Vd rfl Xi 1) ?_;refine Zv (gW o) (X0 rfl Xz (m.at 1)) ?_;refine Zv (gW o) (X0c rfl Xo) ?_;refine Zv (gW o) (X7x rfl rfl) ?_;refine Ze (Xe rfl o rfl)<|Zm rfl ?_
  refine Zg 16 rfl (fun A=>?_) (fun A=>?_)
  ·refine Zp (gP A) ?_;refine Zp (gP A) ?_;refine Zp (gP A) ?_;refine Zp (gP A) ?_;refine Ze (X8 rfl A rfl)<|Zm rfl<|Zp (gP rfl) ?_;refine Zp (gP rfl) ?_;refine Zp (gP rfl) ?_;refine Zp (gP rfl) ?_;refine Ze (X8 rfl rfl rfl) ?_;refine Zn fun a f=>?_;exact ⟨f.sub ⟨rfl,X1 rfl (by first|rfl|(simp only [o,A,bs];done)|simp [o,A]),trivial⟩,rfl⟩
  refine Zv (gW A) (Vd rfl X0q 3) ?_;refine Zv (gW A) (X0 rfl X9 (m.at 3)) ?_;refine Zk (gW A) (Vc (F85 _ d.t 0 7) X3e) ?_;rintro _ _ ⟨rfl,rfl⟩;refine Zv (gW A) (X0y rfl) ?_;refine Ze (Xe rfl A rfl)<|Zm rfl ?_
  refine Zg 22 rfl (fun B=>?_) (fun B=>?_)
  ·refine Zp (gP B) ?_;refine Zp (gP B) ?_;refine Zp (gP B) ?_;refine Zp (gP B) ?_;refine Ze (X8 rfl B rfl) ?_;refine Zn fun a f=>?_;exact ⟨f.sub ⟨rfl,X1 rfl (by first|rfl|(simp only [o,A,B,bs];done)|simp [o,A,B]),trivial⟩,rfl⟩
  refine Zv (gW B) (Vd rfl Xy 4) ?_;refine Zv (gW B) (X0 rfl X9 (m.at 4)) ?_;refine Zk (gW B) (Vc (F85 _ d.r (-60) 60) X3e) ?_;rintro _ _ ⟨rfl,rfl⟩;refine Zv (gW B) (X0y rfl) ?_;refine Ze (Xe rfl B rfl) ?_;refine Zn fun a f=>?_;exact ⟨f.sub ⟨rfl,X1 rfl (by first|rfl|(simp only [o,A,B,bs];done)|simp [o,A,B]),trivial⟩,rfl⟩
 rintro a _ ⟨f,rfl⟩;refine bC _ _ ?_
 refine Xh f rfl (fun M=>?_) (fun M=>?_)
 ·have p:=M
  have H:goodD d=false:=Xtu (by rw [← J];exact M)
  refine Zs f fun _ aM=>?_;refine Za rfl<|Zt aM fun a f=>?_;refine Q6<|X7<|X5 f (Xr f rfl rfl) ?_;exact ⟨by rw [H],y⟩
 have p:=M
 obtain ⟨bD,bL,bM,bE⟩:=Xhh (d:=d) (by rw [← J];exact M)
 refine Q7<|bB _ _<|Q5 fun _ aN=>?_;refine Zs f fun _ aO=>?_;refine Ze (Vd rfl Xm 2)<|Ze (X0 rfl X0j (m.at 2))<|Ze (X0c rfl Xv)<|Zm rfl<|Zt aO fun a f=>?_;refine Q8<|X01 (σ:=Nat) (fun (k:Nat) (a:Act) (w:World)=>Fr a 80 [(1,.pointer (some ⟨b4,0,none⟩)),(29,.slice Bd d.ws.length dd),(30,vi (d.ws.length:Int)),(31,vi (k:Int))]∧(k≤d.ws.length)∧(∀ i:Nat,i<k→wrQ d i=true)∧Blk w b4 39 [vi d.n,.slice Ad md cd,.slice Bd d.ws.length dd,vi d.t,vi d.r]∧d.ws.length≤dd∧Below w0.heap.size w0 w) (fun (k:Nat)=>d.ws.length-k) 0 ?_ ?_
 ·exact ⟨f.sb,(Qf _),(fun i hi=>by omega),m,G,y⟩
 rintro k a w2 ⟨f,hk,aA,m,G,y⟩;refine Zs f fun _ aP=>?_;refine Ze (X0m rfl rfl)<|ZX aP fun a f _ aQ=>?_
 refine Xh f rfl (fun C=>?_) (fun C=>?_)
 ·have q:=C;have C:=Q2 C
  obtain ⟨bN,bJ⟩:=X4 (l:=d.ws) (k:=k) (by omega)
  obtain ⟨W,a7⟩:=X4 (l:=d.ws) (k:=k) (by have:=C;omega)
  have bO:=b8 W (Qe a7);have bF:=(Qg.1 a7).1;have aD:=Xio a7
  rw [← J] at aD
  refine Q7<|aQ _ _<|Q5 fun _ aR=>?_;refine Q8<|Zs f fun _ aS=>?_;refine Zm rfl<|Zi (k:=k) (u:=W) (enc:=encWr) (l:=d.ws) trivial rfl rfl Xv X0b Xx (L.below' y) a7 rfl ?_;intro bP aE;refine Ze (X02 (l:=[vi W.a,vi W.b,.bool W.h]) rfl X17 aE rfl)<|Zf (X00 (zs:=[vi 0,vi 0,.bool false]) X32 rfl) ?_;rintro _ w3 ⟨bR,rfl,aB,I,D⟩;have aF:=Q0 y.size aB;have aT:=(L.below' y).away aB;have m:=m.below I;have y:=btr y I;refine Za rfl<|Zo (Vw [vi W.a,vi W.b,.bool W.h] X0b D) ?_;rintro _ w4 ⟨ho,hb⟩;have aU:=D;have m:=m.only ho (Blk.ne m aU rfl);have y:=Below.only y ho aF;have D:=hb;refine ZX aS fun a f _ aW=>?_;refine X09 (fun a w=>Fr a 80 [(1,.pointer (some ⟨b4,0,none⟩)),(29,.slice Bd d.ws.length dd),(30,vi (d.ws.length:Int)),(31,vi (k:Int)),(65,.bool (!(inR W.a 0 (W.b-1))||decide ((md:Int)≤W.b)||(decide (0<(k:Int))&&!(wlt (d.ws.getD (k-1) wZ) W))))]∧Below w4.heap.size w4 w) ?_ ?_
  ·have N:Below w4.heap.size w4 w4:=Below.refl _ _
   refine X05 none (fun _=>false) mixed ?_;intro w5 I;have m:=m.below I;have D:=D.below I;have y:=btr y I;have N:=btr N I;refine Yb f<|Yo 0 rfl (fun _=>Vd rfl X0s 0)<|Ye 1 rfl (X0 rfl X9 (D.at 0))<|Yo 2 rfl (fun _=>Vd rfl X0v 1)<|Ye 3 rfl (X0 rfl X9 (D.at 1))<|Yo 4 rfl (fun _=>X1h rfl rfl (by omega) (by omega))<|Y1 5 ?_;refine Yz rfl trivial (Vc (F85 _ W.a 0 (W.b-1)) X3e) ?_;refine Yo 6 rfl (fun _=>X0y rfl)<|Yo 7 rfl (fun _=>X3 rfl) ?_
   refine Yl 43 rfl (fun e=>?_) (fun e=>?_)
   ·refine Yp 8 rfl (gP e) ?_;refine Yp 9 rfl (gP e) ?_;refine Yp 10 rfl (gP e) ?_;refine Yp 11 rfl (gP e) ?_;refine Yp 12 rfl (gP e) ?_;refine Yp 13 rfl (gP e) ?_;refine Yo 14 rfl (fun _=>X8 rfl e rfl)<|Yo 15 rfl (fun _=>X3 rfl)<|Yp 16 rfl (gP rfl) ?_;refine Yp 17 rfl (gP rfl) ?_;refine Yp 18 rfl (gP rfl) ?_;refine Yp 19 rfl (gP trivial) ?_;refine Yp 20 rfl (gP trivial) ?_;refine Yp 21 rfl (gP trivial) ?_;refine Yp 22 rfl (gP trivial) ?_;refine Yp 23 rfl (gP trivial) ?_;refine Yp 24 rfl (gP trivial) ?_;refine Yp 25 rfl (gP trivial) ?_;refine Y1 26<|Yq rfl ⟨_,_,rfl,rfl,trivial⟩ ?_;refine Yp 27 rfl (gP trivial) ?_;refine Yp 28 rfl (gP rfl) ?_;refine Yo 29 rfl (fun _=>X8 rfl rfl rfl) ?_;refine Yd fun a f=>?_
    have a6:Below w4.heap.size w4 w5:=N
    exact ⟨f.sub ⟨rfl,rfl,rfl,rfl,X1 rfl (by first|rfl|(simp only [p,q,e,bs];done)|simp [p,q,e]),trivial⟩,a6⟩
   refine Yu 8 rfl (gW e) (fun _=>Vd rfl X0v 1) ?_;refine Yv 9 rfl (gW e) (X0 rfl X9 (D.at 1)) ?_;refine Yu 10 rfl (gW e) (fun _=>Vd rfl Xi 1) ?_;refine Yv 11 rfl (gW e) (X0 rfl Xz (m.at 1)) ?_;refine Yu 12 rfl (gW e) (fun _=>X0c rfl Xo) ?_;refine Yu 13 rfl (gW e) (fun _=>X4m rfl rfl) ?_;refine Yo 14 rfl (fun _=>Xe rfl e rfl)<|Yo 15 rfl (fun _=>X3 rfl) ?_
   refine Yl 51 rfl (fun g=>?_) (fun g=>?_)
   ·refine Yp 16 rfl (gP g) ?_;refine Yp 17 rfl (gP g) ?_;refine Yp 18 rfl (gP g) ?_;refine Yp 19 rfl (gP trivial) ?_;refine Yp 20 rfl (gP trivial) ?_;refine Yp 21 rfl (gP trivial) ?_;refine Yp 22 rfl (gP trivial) ?_;refine Yp 23 rfl (gP trivial) ?_;refine Yp 24 rfl (gP trivial) ?_;refine Yp 25 rfl (gP trivial) ?_;refine Y1 26<|Yq rfl ⟨_,_,rfl,rfl,trivial⟩ ?_;refine Yp 27 rfl (gP trivial) ?_;refine Yp 28 rfl (gP g) ?_;refine Yo 29 rfl (fun _=>X8 rfl g rfl) ?_;refine Yd fun a f=>?_
    have a6:Below w4.heap.size w4 w5:=N
    exact ⟨f.sub ⟨rfl,rfl,rfl,rfl,X1 rfl (by first|rfl|(simp only [p,q,e,g,bs];done)|simp [p,q,e,g]),trivial⟩,a6⟩
   refine Yu 16 rfl (gW g) (fun _=>X3 rfl) ?_;refine Yu 17 rfl (gW g) (fun _=>X7x rfl rfl) ?_;refine Yu 18 rfl (gW g) (fun _=>X3 rfl) ?_
   refine Yl 54 rfl (fun c=>?_) (fun c=>?_)
   ·have bS:0<k:=by have h8:=c;simpa using h8
    refine Yu 19 rfl (gW c) (fun _=>Vd rfl Xm 2) ?_;refine Yv 20 rfl (gW c) (X0 rfl X0j (m.at 2)) ?_;refine Yu 21 rfl (gW c) (fun _=>X3 rfl) ?_;refine Yu 22 rfl (gW c) (fun _=>X1h rfl rfl (by omega) (by omega)) ?_;refine Yi (k:=(k-1)) (u:=(d.ws.getD (k-1) wZ)) (enc:=encWr) (l:=d.ws) 23 rfl ⟨_,_,rfl,rfl,c⟩ rfl rfl Xv X0b Xx (L.below' y) (Xb (by omega)) (by omega) ?_;intro bT aG;refine Yv 24 rfl (gW c) (X02 (l:=[vi ((d.ws.getD (k-1) wZ).a),vi ((d.ws.getD (k-1) wZ).b),.bool ((d.ws.getD (k-1) wZ).h)]) rfl X17 aG rfl) ?_;refine Yv 25 rfl (gW c) (Vn X17 D) ?_;refine Y1 26<|Yk rfl ⟨_,_,rfl,rfl,c⟩ (Vc (Xny _ (d.ws.getD (k-1) wZ) W) Xfe) (fun _ _ ⟨_,I⟩=>I) ?_;rintro _ w6 ⟨rfl,I⟩;have y:=btr y I;have N:=btr N I;refine Yu 27 rfl (gW c) (fun _=>X0y rfl) ?_;refine Yu 28 rfl (gW g) (fun _=>X8 rfl c rfl) ?_;refine Yo 29 rfl (fun _=>Xe rfl g rfl) ?_;refine Yd fun a f=>?_
    have a6:Below w4.heap.size w4 w6:=N
    exact ⟨f.sub ⟨rfl,rfl,rfl,rfl,X1 rfl (by first|rfl|(simp only [p,q,e,g,c,bs];done)|simp [p,q,e,g,c]),trivial⟩,a6⟩
   refine Yp 19 rfl (gP c) ?_;refine Yp 20 rfl (gP c) ?_;refine Yp 21 rfl (gP c) ?_;refine Yp 22 rfl (gP c) ?_;refine Yp 23 rfl (gP c) ?_;refine Yp 24 rfl (gP c) ?_;refine Yp 25 rfl (gP c) ?_;refine Y1 26<|Yq rfl ⟨_,_,rfl,rfl,c⟩ ?_;refine Yp 27 rfl (gP c) ?_;refine Yu 28 rfl (gW g) (fun _=>Xe rfl c rfl) ?_;refine Yo 29 rfl (fun _=>Xe rfl g rfl) ?_;refine Yd fun a f=>?_
   have a6:Below w4.heap.size w4 w5:=N
   exact ⟨f.sub ⟨rfl,rfl,rfl,rfl,X1 rfl (by first|rfl|(simp only [p,q,e,g,c,bs];done)|simp [p,q,e,g,c]),trivial⟩,a6⟩
  rintro a w7 ⟨f,I⟩;have m:=m.below I;have y:=btr y I;refine aW _ _ ?_
  refine Xh f rfl (fun Q=>?_) (fun Q=>?_)
  ·have aH:=Q
   have H:goodD d=false:=Xp4 bF (by rw [aD,Q];rfl)
   refine Zs f fun _ aX=>?_;refine Za rfl<|Zt aX fun a f=>?_;refine Q6<|Xq<|X7<|X7 ?_;refine Xq<|X7<|X5 f (Xr f rfl rfl) ?_;exact ⟨by rw [H],y⟩
  have aH:=Q
  have aI:wrQ d k=true:=by rw [aD,Q];rfl
  refine Q7<|Xd<|aR _ _<|Zr f ?_;refine Ze (Xu rfl rfl (by omega) (by omega))<|Zm rfl ?_;refine Zn fun a f=>?_;refine Xf ?_;exact ⟨k+1,⟨f.sb,(by omega),(fun i hi=>by by_cases h9:i=k;rw [h9];exact aI;exact aA i (by omega)),m,G,y⟩,(by omega)⟩
 have q:=C;have C:=Q1 C
 have aJ:∀ i,i<d.ws.length→wrQ d i=true:=fun i hi=>aA i (by have:=C;omega)
 refine Q9<|Xk<|Xk<|X03 ?_;refine aN _ _<|Q5 fun _ aY=>?_;refine Zs f fun _ aZ=>?_;refine Ze (Vd rfl Xi 1)<|Ze (X0 rfl Xz (m.at 1))<|Ze (X0c rfl Xo)<|Zm rfl<|Zt aZ fun a f=>?_;refine Q8<|X01 (σ:=Nat) (fun (j:Nat) (a:Act) (w:World)=>Fr a 80 [(1,.pointer (some ⟨b4,0,none⟩)),(69,vi (md:Int)),(70,vi (j:Int))]∧(j≤d.ns.length)∧(∀ i:Nat,i<j→ndQ d (i:Int)=true)∧Blk w b4 39 [vi d.n,.slice Ad md cd,.slice Bd d.ws.length dd,vi d.t,vi d.r]∧d.ws.length≤dd∧Below w0.heap.size w0 w) (fun (j:Nat)=>d.ns.length-j) 0 ?_ ?_
 ·exact ⟨f.sb,(Qf _),(fun i hi=>by omega),m,G,y⟩
 rintro j a w8 ⟨f,hj,aC,m,G,y⟩;refine Zs f fun _ b0=>?_;refine Ze (X0m rfl rfl)<|ZX b0 fun a f _ b1=>?_
 refine Xh f rfl (fun E=>?_) (fun E=>?_)
 ·have aK:=E;have E:=Q2 E
  have bG:j<d.ns.length:=by have:=E;omega
  refine Q7<|b1 _ _<|Q5 fun _ b2=>?_;refine Q8<|Zs f fun _ b3=>?_;refine Zm rfl<|Za rfl<|Zx b3 fun a f _ b5=>?_;refine Ze (Vn X2 m)<|Zm rfl<|Zf (Vc (Xv9 _ d md J Ad cd (a8.below' y).top Bd dd (L.below' y).top G (j:Int) ⟨by omega,by omega⟩ (by omega) ⟨by omega,by omega⟩) Xki) ?_;rintro _ w9 ⟨rfl,I⟩;have m:=m.below I;have y:=btr y I;refine Ze (X0y rfl)<|Zt b5 fun a f=>?_
  refine Xh f rfl (fun U=>?_) (fun U=>?_)
  ·have aL:=U
   have H:goodD d=false:=Xpt bG (by have h8:=U;simpa using h8)
   refine Zs f fun _ b6=>?_;refine Za rfl<|Zt b6 fun a f=>?_;refine Q6<|Xq<|X7<|X7 ?_;refine Xq<|X7<|X5 f (Xr f rfl rfl) ?_;exact ⟨by rw [H],y⟩
  have aL:=U
  have aI:ndQ d (j:Int)=true:=by have h8:=U;simpa using h8
  refine Q7<|Xd<|b2 _ _<|Zr f ?_;refine Ze (Xu rfl rfl (by omega) (by omega))<|Zm rfl ?_;refine Zn fun a f=>?_;refine Xf ?_;exact ⟨j+1,⟨f.sb,(by omega),(fun i hi=>by by_cases h9:i=j;rw [h9];exact aI;exact aC i (by omega)),m,G,y⟩,(by omega)⟩
 have aK:=E;have E:=Q1 E
 have H:goodD d=endQ d:=Xrh bD aJ fun i hi=>aC i (by have:=E;omega)
 refine Q9<|Xk<|Xk<|X03 ?_;refine aY _ _<|Zs f fun _ b7=>?_;refine Ze (Vn X2 m)<|Zf (Vc (Xt9 _ d md J Ad cd (a8.below' y).top Bd dd (L.below' y).top G (by omega) ⟨by omega,by omega⟩) Xln) ?_;rintro _ bU ⟨rfl,I⟩;have y:=btr y I;refine Za rfl<|Zt b7 fun a f=>?_
 refine Q6 (X5 f (Xr f rfl rfl) ?_)
 exact ⟨by rw [H],y⟩
def RgW(N:Nat)(ws:List Wr) : Prop:=∀ x ∈ ws,(0≤x.a∧x.a<N)∧(0≤x.b∧x.b<N)
def spN(ns:List Nd) : Nat:=(ns.filter fun x=>x.k==3).length
theorem X9g{N:Nat}{ws:List Wr}{a b:Int}{h:Bool}(hw:RgW N ws)(ha:0≤a∧a<N)(hb:0≤b∧b<N) : RgW N (jnW ws a b h):=fun x hx=>by
 rcases X7y.1 hx with rfl|hx
 ·dsimp only;omega
 ·exact hw x hx
theorem Xdv{N:Nat}{ws:List Wr}(hw:RgW N ws)(i:Nat) : RgW N (ctW ws i):=fun x hx=>hw x ((X3t ws i).subset hx)
theorem Xsh{N:Nat}{ws:List Wr}(hw:RgW N ws)(k:Int) : RgW N (dpW ws k):=fun x hx=>hw x (List.mem_filter.1 hx).1
theorem X7a:∀ (ns:List Nd) (k:Nat) (x:Nd),k<ns.length→spN (ns.set k x)+(if (ns.getD k nZ).k=3 then 1 else 0)=spN ns+(if x.k=3 then 1 else 0)
 | [],_,_,h=>by simp at h
 | y::ns,0,x,_=>by
  unfold spN
  simp only [List.set_cons_zero,List.filter_cons,List.getD_cons_zero,beq_iff_eq]
  split<;>split<;>simp
 | y::ns,k+1,x,h=>by
  have ih:=X7a ns k x (by simpa using h)
  unfold spN at ih ⊢
  simp only [List.set_cons_succ,List.filter_cons,List.getD_cons_succ,beq_iff_eq]
  split<;>(try simp only [Qs])<;>omega
theorem Xic(ns:List Nd)(x m:Int) : spN (adN ns x m)=spN ns:=by
 by_cases h:x.toNat<ns.length
 ·have h1:=X7a ns x.toNat { ns.getD x.toNat nZ with p:=((ns.getD x.toNat nZ).p+m) % 8 } h
  unfold adN
  dsimp only at h1 ⊢
  omega
 ·unfold adN
  rw [List.set_eq_of_length_le (by omega)]
theorem Xr9{ns:List Nd}(k:Int) : spN (dpN ns k)≤spN ns:=by
 by_cases h:k.toNat<ns.length
 ·have h1:=X7a ns k.toNat nZ h
  have h2:(if nZ.k=3 then 1 else 0:Nat)=0:=rfl
  rw [h2] at h1
  unfold dpN
  omega
 ·unfold dpN
  rw [List.set_eq_of_length_le (by omega)]
  exact Qb _
theorem Xdg{ns:List Nd}{k:Int}(hs:spI ns k=true) : spN (dpN ns k)<spN ns:=by
 obtain ⟨_,h,h3⟩:=X11 hs;have h1:=X7a ns k.toNat nZ h
 have h2:(if nZ.k=3 then 1 else 0:Nat)=0:=rfl
 rw [h2,Q4 h3] at h1
 unfold dpN
 omega
structure Nx (N s c:Nat) (d:Dg) : Prop where
 l:d.ns.length=N
 w:RgW N d.ws
 c:d.ws.length≤c
 s:spN d.ns≤s
theorem Nx.mono{N s c s' c':Nat}{d:Dg}(h:Nx N s c d)(hs:s≤s')(hc:c≤c') : Nx N s' c' d:=⟨h.l,h.w,Q0 h.c hc,Q0 h.s hs⟩
theorem Nx.jn{N s c:Nat}{d:Dg}(h:Nx N s c d){a b:Int}{x:Bool}(ha:0≤a∧a<N)(hb:0≤b∧b<N) : Nx N s (c+1) { d with ws:=jnW d.ws a b x }:=
 ⟨h.l,X9g h.w ha hb,by have:=h.c;dsimp only;rw [X4e];omega,h.s⟩
theorem Nx.ad{N s c:Nat}{d:Dg}(h:Nx N s c d)(x m:Int) : Nx N s c { d with ns:=adN d.ns x m }:=⟨(X1s _ _ _).trans h.l,h.w,h.c,by dsimp only;rw [Xic];exact h.s⟩
theorem Nx.dp{N s c:Nat}{d:Dg}(h:Nx N s c d)(k:Int) : Nx N s c (id0 d k):=⟨(X1m _ _).trans h.l,Xsh h.w k,Q0 (X23 _ _) h.c,Q0 (Xr9 k) h.s⟩
theorem Nx.lk{N s c:Nat}{d:Dg}(h:Nx N s c d){a b:Int}{x:Bool}(ha:0≤a∧a<N)(hb:0≤b∧b<N) : Nx N s (c+1) (lkD d a b x):=by
 have h1:=Xi1 d a b x
 refine ⟨h1.1.trans h.l,?_,Q0 h1.2 (Nat.succ_le_succ h.c),?_⟩
 ·unfold lkD
  split
  ·exact X9g h.w ha hb
  ·split
   ·exact Xdv h.w _
   ·split
    ·exact X9g (Xdv h.w _) ha hb
    ·exact h.w
 ·unfold lkD
  split
  ·exact h.s
  ·split
   ·exact h.s
   ·split
    ·dsimp only;rw [Xic];exact h.s
    ·exact h.s
theorem Nx.mt{N s c:Nat}{d:Dg}(h:Nx N s c d){a b:Int}{x:Bool}(ha:0≤a∧a<N)(hb:0≤b∧b<N) : Nx N s (c+1) (mtD d a b x):=by
 unfold mtD
 split
 ·exact h.lk ha hb
 ·exact h.jn ha hb
theorem Nx.tg{N s c:Nat}{d:Dg}(h:Nx N s c d){a b:Int}(ha:0≤a∧a<N)(hb:0≤b∧b<N) : Nx N s (c+1) (tgD d a b):=by
 have h1:=X2p d a b
 refine ⟨by rw [h1.1];exact h.l,?_,Q0 h1.2 (Nat.succ_le_succ h.c),by rw [h1.1];exact h.s⟩
 unfold tgD
 split
 ·exact Xdv h.w _
 ·exact X9g h.w ha hb
theorem Nx.tgl{N s:Nat}{x:Int}(hx:0≤x∧x<N) : ∀ (l:List Int) (c:Nat) (d:Dg),Nx N s c d→(∀ y ∈ l,0≤y∧y<(N:Int))→Nx N s (c+l.length) (tgL d x l)
 | [],c,d,h,_=>h
 | y::l,c,d,h,hl=>by
  have h1:=Nx.tgl hx l (c+1) (tgD d x y) (h.tg hx (hl y (by simp))) fun z hz=>hl z (by simp [hz])
  exact h1.mono (Qb _) (by rw [Qs];omega)
theorem X65{l:List Int}{N:Nat}(hl:∀ y ∈ l,0≤y∧y<(N:Int)){i:Nat}(hi:i<l.length) : 0≤l.getD i 0∧l.getD i 0<(N:Int):=hl _ (Qe (Xb (d:=0) hi))
theorem Nx.lc{N s c:Nat}{p:Int}{l:List Int}{o:Dg}(h:Nx N s c o)(hl:∀ y ∈ l,0≤y∧y<(N:Int)) : ∀ i,i≤l.length→Nx N s (c+i*l.length) (lcS p l o i)
 | 0,_=>h.mono (Qb _) (by omega)
 | i+1,hi=>by
  have ih:=Nx.lc (p:=p) h hl i (by omega)
  have h1:=Nx.tgl (X65 hl (i:=i) (by omega)) (l.take i) _ _ (ih.ad (l.getD i 0) (8-p)) fun y hy=>hl y (Wd hy)
  refine h1.mono (Qb _) ?_
  rw [Qn,Wb,Nat.one_mul]
  omega
theorem Nx.fu{N s:Nat}{d:Dg}{a b:Int}(ha:0≤a∧a<N) : ∀ (l:List Int) (c:Nat) (o:Dg),Nx N s c o→(∀ y ∈ l,0≤y∧y<(N:Int))→Nx N s (c+l.length) (fuS d a b l o)
 | [],c,o,h,_=>h
 | y::l,c,o,h,hl=>by
  have h0:Nx N s (c+1) (fuT d a b o y):=by
   unfold fuT
   split
   ·exact h.mono (Qb _) (by omega)
   ·exact h.mt ha (hl y (by simp))
  exact (Nx.fu ha l (c+1) (fuT d a b o y) h0 fun z hz=>hl z (by simp [hz])).mono (Qb _) (by rw [Qs];omega)
theorem Nx.st{N s c:Nat}{d:Dg}(h:Nx N s c d)(q:Bool)(x m:Int) : Nx N s c (stN q d x m):=by
 unfold stN
 split
 ·exact h.ad x m
 ·exact h
theorem Nx.pf{N s:Nat}{l m:List Int}{x:Int}(hx:0≤x∧x<N) : ∀ (r:List Int) (c:Nat) (o:Dg),Nx N s c o→(∀ y ∈ r,0≤y∧y<(N:Int))→Nx N s (c+r.length) (pvF l m x r o)
 | [],c,o,h,_=>h
 | y::r,c,o,h,hl=>by
  have h0:Nx N s (c+1) (pvT l m x o y):=by
   unfold pvT
   split
   ·exact h.tg hx (hl y (by simp))
   ·exact h.mono (Qb _) (by omega)
  exact (Nx.pf hx r (c+1) (pvT l m x o y) h0 fun z hz=>hl z (by simp [hz])).mono (Qb _) (by rw [Qs];omega)
theorem Nx.pm{N s c:Nat}{e f:Int}{l m r:List Int}{o:Dg}(h:Nx N s c o)(hl:∀ y ∈ r,0≤y∧y<(N:Int)) : ∀ i,i≤r.length→Nx N s (c+i*r.length) (pvM e f l m r o i)
 | 0,_=>h.mono (Qb _) (by omega)
 | i+1,hi=>by
  have ih:=Nx.pm (e:=e) (f:=f) (l:=l) (m:=m) h hl i (by omega)
  have hg:=X65 hl (i:=i) (by omega)
  have h1:=Nx.pf (l:=l) (m:=m) hg (r.take i) _ _ (((ih.st (l.any fun v=>v==r.getD i 0) (r.getD i 0) f).st (m.any fun v=>v==r.getD i 0) (r.getD i 0) e).st ((l.any fun v=>v==r.getD i 0)&&(m.any fun v=>v==r.getD i 0)) (r.getD i 0) 4) fun y hy=>hl y (Wd hy)
  refine h1.mono (Qb _) ?_
  rw [Qn,Wb,Nat.one_mul]
  omega
theorem InD.rg{d:Dg}(h:InD d) : RgW d.ns.length d.ws:=fun x hx=>by
 have e:=h.e x hx
 have l:=h.w.l x hx
 omega
theorem InD.nx{d:Dg}(h:InD d) : Nx d.ns.length (spN d.ns) 1000001 d:=⟨rfl,h.rg,h.len,Qb _⟩
theorem nx0{d:Dg}(h:InD d){k:Int}(hs:spI d.ns k=true) : Nx d.ns.length (spN d.ns-1) 1000001 (id0 d k):=by
 have h1:=h.nx.dp k
 have h2:spN (dpN d.ns k)<spN d.ns:=Xdg hs
 exact ⟨h1.l,h1.w,h1.c,by show spN (dpN d.ns k)≤_;omega⟩
theorem X63{ns:List Nd}{k:Int}(hs:spI ns k=true) : 0<spN ns:=by
 have:=Xdg hs
 omega
theorem X71{d:Dg}(h:InD d)(k:Int) : ∀ y ∈ nearW d.ws k,0≤y∧y<(d.ns.length:Int):=fun y hy=>by have:=X2u h hy;omega
theorem Xol{a n:Nat}(h:a≤2000)(h2:n≤2000) : a*n≤4000000:=Q0 (Nat.mul_le_mul h h2) (by decide)
theorem Xra{N s c:Nat}{d:Dg}(h:Nx N s c d)(t r:Int) : Nx N s c { d with t:=t,r:=r }:=⟨h.l,h.w,h.c,h.s⟩
theorem Xj8{d:Dg}(h:InD d){r:Rz}(hc:doC d r=true) : Nx d.ns.length (spN d.ns-1) 9000000 (doD d r)∧0<spN d.ns:=by
 unfold doC at hc
 unfold doD
 split at hc
 ·rename_i h1
  rw [Q4 h1]
  have hs:=Xca hc
  unfold fuC at hc
  simp only [Qd] at hc
  refine ⟨?_,X63 hc.1.1.2⟩
  have h0:=(nx0 h hc.1.1.2).ad r.a (d.ns.getD r.b.toNat nZ).p;exact (Nx.fu (d:=d) (a:=r.a) (b:=r.b) ⟨hs.1.1,by omega⟩ (nearW d.ws r.b) _ _ h0 (X71 h r.b)).mono (Qb _) (by have:=X34 h r.b;have:=h.m;omega)
 rename_i h1
 rw [Q3 h1]
 split at hc
 ·rename_i h2
  rw [Q4 h2]
  unfold pvC at hc
  simp only [Qd] at hc
  have hsa:=hc.1.1.1.1.1.1.1.1
  refine ⟨?_,X63 hsa⟩
  have h0:=(nx0 h hsa).dp r.b;have h3:=X9y h r.a r.b;have h4:=h.m
  unfold pvD
  refine Xra ?_ _ _
  refine (Nx.pm h0 ?_ _ (Qb _)).mono (Qb _) (by have:=Xol (a:=(pvL d r.a r.b).length) (n:=(pvL d r.a r.b).length) (by omega) (by omega);omega)
  intro y hy;obtain ⟨i,hi⟩:=List.mem_iff_getElem?.1 hy
  have:=X9l h hi
  omega
 rename_i h2
 rw [Q3 h2]
 split at hc
 ·cases hc
 split at hc
 ·rename_i h3
  rw [Q4 h3]
  unfold idC at hc
  simp only [Qd,beq_iff_eq] at hc
  refine ⟨?_,X63 hc.1.1⟩
  have g0:=X65 (X71 h r.a) (i:=0) (by omega)
  have g1:=X65 (X71 h r.a) (i:=1) (by omega)
  exact ((nx0 h hc.1.1).mt g0 g1).mono (Qb _) (by omega)
 rename_i h3
 rw [Q3 h3]
 split at hc
 ·rename_i h4
  rw [Q4 h4]
  unfold lcC at hc
  simp only [Qd] at hc
  have hsa:=hc.1.1.1
  refine ⟨?_,X63 hsa⟩
  have h5:=X34 h r.a;have h6:=h.m
  unfold lcD
  refine Xra ?_ _ _
  exact (Nx.lc (nx0 h hsa) (X71 h r.a) _ (Qb _)).mono (Qb _) (by have:=Xol (a:=(nearW d.ws r.a).length) (n:=(nearW d.ws r.a).length) (by omega) (by omega);omega)
 rename_i h4
 rw [Q3 h4]
 split at hc
 ·unfold loC at hc
  simp only [Qd] at hc
  refine ⟨?_,X63 hc.1.1⟩
  exact (Xra (nx0 h hc.1.1) d.t _).mono (Qb _) (by omega)
 ·cases hc
def zD:Dg:=⟨0,[],[],0,0⟩
def outD(d:Dg) : Dg:={ d with t:=d.t.tmod 8 }
def apC(d:Dg)(r:Rz) : Bool:=doC d r&&goodD (outD (doD d r))
def apD(d:Dg)(r:Rz) : Dg:=outD (doD d r)
theorem X8w:∀ (l:List Wr),(∀ i,i+1<l.length→wlt (l.getD i wZ) (l.getD (i+1) wZ)=true)→WSd l
 | [],_=>List.Pairwise.nil
 | [x],_=>by simp
 | x::y::l,h=>by
  have h0:=h 0 (by simp)
  have ih:=X8w (y::l) fun i hi=>by
   have:=h (i+1) (by simpa using hi)
   simpa using this
  have h2:=W8.1 ih
  refine W8.2 ⟨fun z hz=>?_,ih⟩
  rcases Qv.1 hz with rfl|hz
  ·simpa using h0
  ·exact Xd2 (by simpa using h0) (h2.1 z hz)
theorem X4d{d:Dg}(h:goodD d=true) : hdQ d=true∧(∀ i,i<d.ws.length→wrQ d i=true)∧(∀ i:Nat,i<d.ns.length→ndQ d (i:Int)=true)∧endQ d=true:=by
 unfold goodD at h
 simp only [Qd,W1,W2] at h
 exact ⟨h.1.1.1,h.1.1.2,h.1.2,h.2⟩
theorem X7c{d:Dg}(h:goodD d=true) : (1≤d.n∧d.n≤5)∧d.ns.length≤40∧(0≤d.t∧d.t≤7)∧-60≤d.r∧d.r≤60:=by
 have h1:=(X4d h).1
 unfold hdQ at h1
 exact (Xhh (by simpa using h1)).2
theorem Xl8{d:Dg}(h:goodD d=true){i:Nat}{x:Nd}(hx:d.ns[i]? = some x) : (0≤x.k∧x.k≤3)∧(0≤x.p∧x.p≤7):=by
 have h1:=(X4d h).2.2.1 i (Qg.1 hx).1;have h2:=X7c h
 have hg:d.ns.getD ((i:Int)).toNat nZ=x:=by rw [Qj,Qa,hx];rfl
 unfold ndQ at h1
 rw [hg] at h1
 split at h1
 ·rename_i hk
  simp only [Qd,beq_iff_eq] at h1 hk
  omega
 split at h1
 ·rename_i hk
  simp only [Qd,Bool.or_eq_true,beq_iff_eq,X0e] at h1 hk
  omega
 ·simp only [Qd,beq_iff_eq,X0e] at h1
  omega
theorem Xae{d:Dg}(h:goodD d=true){i:Nat}{x:Wr}(hx:d.ws[i]? = some x) : 0≤x.a∧x.a<x.b∧x.b<d.ns.length∧(0<i→wlt (d.ws.getD (i-1) wZ) x=true):=by
 have h1:=(X4d h).2.1 i (Qg.1 hx).1
 rw [Xio hx] at h1
 simp only [Bool.not_eq_true',Bool.or_eq_false_iff,Bool.not_eq_false',X0e,decide_eq_false_iff_not,Bool.and_eq_false_iff] at h1
 refine ⟨by omega,by omega,by omega,fun h0=>?_⟩
 rcases h1.2 with h3|h3
 ·omega
 ·exact h3
theorem X15{d:Dg}(h:goodD d=true) : InD d:=by
 refine ⟨⟨X8w _ fun i hi=>?_,fun x hx=>?_⟩,fun x hx=>?_,fun x hx=>?_,by have:=X7c h;omega⟩
 ·have:=(Xae h (Xb (d:=wZ) hi)).2.2.2 (by omega)
  simpa using this
 ·obtain ⟨i,hi⟩:=List.mem_iff_getElem?.1 hx;exact (Xae h hi).2.1
 ·obtain ⟨i,hi⟩:=List.mem_iff_getElem?.1 hx
  have:=Xae h hi
  omega
 ·obtain ⟨i,hi⟩:=List.mem_iff_getElem?.1 hx;exact (Xl8 h hi).2
theorem X8x{d:Dg}{r:Rz}(h:apC d r=true) : goodD (apD d r)=true:=by
 unfold apC at h
 simp only [Qd] at h
 exact h.2
theorem Xd4{d:Dg}(hd:InD d){r:Rz}(h:apC d r=true) : spN (apD d r).ns<spN d.ns:=by
 unfold apC at h
 simp only [Qd] at h
 have h1:=Xj8 hd h.1;have h2:=h1.1.s
 show spN (doD d r).ns<_
 omega
theorem Xoq{d:Dg}{r:Rz}(h1:doC d r=false) : apC d r=false:=by unfold apC;rw [h1];rfl
theorem Xsv{N:Nat}{ws:List Wr}(h:RgW N ws)(hN:N≤1000) : ∀ x ∈ ws,-1000000≤x.b∧x.b≤1000000:=fun x hx=>by have:=h x hx;omega
def alR(d:Dg)(u:Int)(a j:Nat) : List Rz:=((List.range j).map fun (b:Nat)=>(⟨u,a,b⟩ : Rz)).filter (apC d)
def alS(d:Dg)(u:Int)(k:Nat) : List Rz:=(List.range k).flatMap fun a=>alR d u a d.ns.length
def alL(d:Dg)(u:Int) : List Rz:=alS d u d.ns.length
theorem Xto{d:Dg}{u:Int}{a j:Nat}(h:apC d ⟨u,a,j⟩=true) : alR d u a (j+1)=alR d u a j++[⟨u,a,j⟩]:=by
 unfold alR
 rw [List.range_succ,List.map_append,List.filter_append]
 simp [h]
theorem Xs5{d:Dg}{u:Int}{a j:Nat}(h:apC d ⟨u,a,j⟩=false) : alR d u a (j+1)=alR d u a j:=by
 unfold alR
 rw [List.range_succ,List.map_append,List.filter_append]
 simp [h]
theorem Xj2(d:Dg)(u:Int)(k:Nat) : alS d u (k+1)=alS d u k++alR d u k d.ns.length:=by
 unfold alS
 rw [List.range_succ,List.flatMap_append]
 simp
theorem Xdf(d:Dg)(u:Int)(a j:Nat) : (alR d u a j).length≤j:=by
 unfold alR
 exact Q0 (List.length_filter_le _ _) (by simp)
theorem Xak(d:Dg)(u:Int) : ∀ k,(alS d u k).length≤k*d.ns.length
 | 0=>by simp [alS]
 | k+1=>by
  rw [Xj2,Qh,Wb,Nat.one_mul]
  have h1:=Xak d u k;have h2:=Xdf d u k d.ns.length
  omega
theorem Xml{d:Dg}{u:Int}{a j:Nat}{r:Rz}(h:r ∈ alR d u a j) : apC d r=true:=(List.mem_filter.1 h).2
theorem Xlr{d:Dg}{u:Int}{r:Rz}(h:r ∈ alL d u) : apC d r=true:=by
 unfold alL alS at h
 obtain ⟨a,_,h⟩:=List.mem_flatMap.1 h;exact Xml h
def fsF(d:Dg) : List Int→Option Rz
 | []=>none
 | u::l=>match alL d u with
  | r::_=>some r
  | []=>fsF d l
def rZ:Rz:=⟨0,0,0⟩
theorem Xcn{d:Dg} : ∀ (l m:List Int),fsF d l=none→fsF d (l++m)=fsF d m
 | [],_,_=>rfl
 | u::l,m,h=>by
  have e:∀ q,fsF d (u::q)=match alL d u with
   | r::_=>some r
   | []=>fsF d q:=fun _=>rfl
  rw [e] at h
  rw [Wa,e]
  cases ha:alL d u with
  | nil=>
   rw [ha] at h
   exact Xcn l m h
  | cons r t=>rw [ha] at h;cases h
theorem Xo7{d:Dg}{l:List Int}{k:Nat}{u:Int}(h:fsF d (l.take k)=none)(hu:l[k]? = some u)(ha:alL d u=[]) : fsF d (l.take (k+1))=none:=by
 rw [Qt,hu,Option.toList_some,Xcn _ _ h]
 unfold fsF
 rw [ha]
 rfl
theorem Xho{d:Dg}{l:List Int}{k:Nat}{u:Int}(h:fsF d (l.take k)=none)(hu:l[k]? = some u)(ha:0<(alL d u).length) : fsF d l=some ((alL d u).getD 0 rZ):=by
 have hl:l=l.take k++(u::l.drop (k+1)):=by
  obtain ⟨hk,e⟩:=Qg.1 hu
  rw [← e,← Qy hk,W9]
 rw [hl,Xcn _ _ h]
 unfold fsF
 cases hc:alL d u with
 | nil=>rw [hc] at ha;simp at ha
 | cons r t=>rfl
theorem Xh3{d:Dg}{l:List Int}{k:Nat}(h:fsF d (l.take k)=none)(hk:l.length≤k) : fsF d l=none:=by rwa [Qi hk] at h
theorem X6n{d:Dg}{r:Rz} : ∀ {l:List Int},fsF d l=some r→apC d r=true
 | [],h=>by cases h
 | u::l,h=>by
  unfold fsF at h
  cases ha:alL d u with
  | nil=>rw [ha] at h;exact X6n h
  | cons x t=>
   rw [ha] at h
   injection h with h
   subst h
   exact Xlr (u:=u) (by rw [ha];simp)
def siF:Nat→Dg→List Int→Dg×List Rz
 | 0,d,_=>(d,[])
 | n+1,d,l=>match fsF d l with
  | none=>(d,[])
  | some r=>((siF n (apD d r) l).1,r::(siF n (apD d r) l).2)
def siD(d:Dg)(l:List Int) : Dg:=(siF (spN d.ns) d l).1
def siL(d:Dg)(l:List Int) : List Rz:=(siF (spN d.ns) d l).2
theorem Xcw{l:List Int} : ∀ (n:Nat) (d:Dg),InD d→spN d.ns≤n→siF n d l=siF (spN d.ns) d l
 | 0,d,_,h=>by rw [show spN d.ns=0 by omega]
 | n+1,d,hd,h=>by
  cases hf:fsF d l with
  | none=>
   have h1:siF (n+1) d l=(d,[]):=by unfold siF;rw [hf]
   rw [h1]
   cases hs:spN d.ns with
   | zero=>rfl
   | succ m=>unfold siF;rw [hf]
  | some r=>
   have hc:=X6n hf;have hlt:=Xd4 hd hc
   obtain ⟨m,hm⟩ : ∃ m,spN d.ns=m+1:=⟨spN d.ns-1,by omega⟩
   rw [hm]
   have e1:=Xcw (l:=l) n (apD d r) (X15 (X8x hc)) (by omega)
   have e2:=Xcw (l:=l) m (apD d r) (X15 (X8x hc)) (by omega)
   unfold siF
   rw [hf]
   dsimp only
   rw [e1,e2]
theorem Xf2{d:Dg}{l:List Int}{r:Rz}(hd:InD d)(hf:fsF d l=some r) : siD d l=siD (apD d r) l∧siL d l=r::siL (apD d r) l:=by
 have hc:=X6n hf;have hlt:=Xd4 hd hc
 obtain ⟨m,hm⟩ : ∃ m,spN d.ns=m+1:=⟨spN d.ns-1,by omega⟩
 have e2:=Xcw (l:=l) m (apD d r) (X15 (X8x hc)) (by omega)
 have e3:siF (m+1) d l=((siF m (apD d r) l).1,r::(siF m (apD d r) l).2):=by rw [siF,hf]
 unfold siD siL
 rw [hm,e3,e2]
 exact ⟨rfl,rfl⟩
theorem Xil{d:Dg}{l:List Int}(hf:fsF d l=none) : siD d l=d∧siL d l=[]:=by
 unfold siD siL
 cases hs:spN d.ns with
 | zero=>exact ⟨rfl,rfl⟩
 | succ m=>unfold siF;rw [hf];exact ⟨rfl,rfl⟩
def spK(ns:List Nd)(k:Nat) : List Int:=((List.range k).filter fun i=>(ns.getD i nZ).k==3).map fun (i:Nat)=>(i:Int)
def spL(ns:List Nd) : List Int:=spK ns ns.length
theorem Xoi{ns:List Nd}{k:Nat}{x:Nd}(hx:ns[k]? = some x)(h:(x.k==3)=true) : spK ns (k+1)=spK ns k++[(k:Int)]:=by
 have e:ns.getD k nZ=x:=by rw [Qa,hx];rfl
 unfold spK
 rw [List.range_succ,List.filter_append]
 simp only [List.filter_cons,e,h,List.filter_nil,if_true,List.map_append,List.map_cons,List.map_nil]
theorem Xne{ns:List Nd}{k:Nat}{x:Nd}(hx:ns[k]? = some x)(h:(x.k==3)=false) : spK ns (k+1)=spK ns k:=by
 have e:ns.getD k nZ=x:=by rw [Qa,hx];rfl
 unfold spK
 rw [List.range_succ,List.filter_append]
 simp only [List.filter_cons,e,h,List.filter_nil,List.append_nil,Bool.false_eq_true,if_false]
theorem X70(ns:List Nd)(k:Nat) : (spK ns k).length≤k:=by
 unfold spK
 rw [Qo]
 exact Q0 (List.length_filter_le _ _) (by simp)
theorem Xhc(ns:List Nd) : spN ns≤ns.length:=List.length_filter_le _ _
def plQ(d:Dg)(u:Wr) : Bool:=!(u.h||((d.ns.getD u.a.toNat nZ).k+(d.ns.getD u.b.toNat nZ).k != 3)||((d.ns.getD u.a.toNat nZ).p != (d.ns.getD u.b.toNat nZ).p))
def plD(d:Dg) : Bool:=d.ws.all (plQ d)&&((spL d.ns).length:Int)==0
theorem Xb8{l:List Int} : ∀ (n:Nat) (d:Dg),goodD d=true→goodD (siF n d l).1=true
 | 0,d,h=>h
 | n+1,d,h=>by
  unfold siF
  cases hf:fsF d l with
  | none=>exact h
  | some r=>exact Xb8 n _ (X8x (X6n hf))
theorem X73{d:Dg}(l:List Int)(h:goodD d=true) : goodD (siD d l)=true:=Xb8 _ d h
theorem Xvi(k:World)(d:Dg)(md:Nat)(m:md=d.ns.length)(Ad:Option Addr)(cd:Nat)(o:Rd k k.heap.size 81 encNd Ad d.ns)(Bd:Option Addr)(dd:Nat)(p:Rd k k.heap.size 83 encWr Bd d.ws)(q:d.ws.length≤dd)(aD:d.ws.length≤1000000000)(aE:∀ x ∈ d.ws,-1000000≤x.b∧x.b≤1000000) : Ret Tryz.prog 80 [.agg #[vi d.n,.slice Ad md cd,.slice Bd d.ws.length dd,vi d.t,vi d.r]] k (fun v w=>∃ A c1 B e,v=.tuple #[.agg #[vi (if (goodD (outD d))=true then outD d else zD).n,.slice A (if (goodD (outD d))=true then outD d else zD).ns.length c1,.slice B (if (goodD (outD d))=true then outD d else zD).ws.length e,vi (if (goodD (outD d))=true then outD d else zD).t,vi (if (goodD (outD d))=true then outD d else zD).r],.bool (goodD (outD d))]∧Rd w w.heap.size 81 encNd A (if (goodD (outD d))=true then outD d else zD).ns∧Rd w w.heap.size 83 encWr B (if (goodD (outD d))=true then outD d else zD).ws∧(if (goodD (outD d))=true then outD d else zD).ws.length≤e∧Below k.heap.size k w):=by
 refine enter Tryz.func80 rfl 13 rfl rfl ?_;intro a j
 have g:=bz k
 refine Zs j fun _ aF=>?_;refine Zf (X0h (zs:=[vi d.n,.slice Ad md cd,.slice Bd d.ws.length dd,vi d.t,vi d.r]) rfl rfl) ?_;rintro _ w1 ⟨b4,rfl,aG,u,f⟩;have a7:=Q0 g.size aG;have g:=btr g u;refine Zf (X00 (zs:=[vi 0,.slice none 0 0,.slice none 0 0,vi 0,vi 0]) X0o rfl) ?_;rintro _ w2 ⟨b7,rfl,aH,u,c⟩
 have aC:b4≠b7:=by have:=f.lt;omega
 have y:=Q0 g.size aH;have f:=f.below u;have g:=btr g u;refine Za rfl<|Zx aF fun a j _ aI=>?_;refine Ze (Vd rfl X0q 3)<|Ze (X0 rfl X9 (f.at 3))<|Ze (X3y rfl rfl rfl)<|Ze (Vd rfl X0q 3)<|Zo (Vu (vs:=[vi (d.t.tmod 8)]) (l':=[vi d.n,.slice Ad md cd,.slice Bd d.ws.length dd,vi (d.t.tmod 8),vi d.r]) rfl rfl X08 f) ?_;rintro _ w3 ⟨ho,hb⟩;have h:=f;have c:=c.only ho (by omega);have g:=Below.only g ho a7;have f:=hb;refine ZX aI fun a j _ aJ=>?_;refine Zs j fun _ a8=>?_;refine Ze (Vn X2 f)<|Zf (Vc (Xoy _ (⟨d.n,d.ns,d.ws,d.t.tmod 8,d.r⟩ : Dg) md m Ad cd (o.below' g).top Bd dd (p.below' g).top q aD aE) Xd6) ?_;rintro _ w4 ⟨rfl,u⟩;have f:=f.below u;have c:=c.below u;have g:=btr g u;refine Ze (X0y rfl)<|Zt a8 fun a j=>?_
 refine Xh j rfl (fun i=>?_) (fun i=>?_)
 ·have a6:=i
  have aK:goodD (outD d)=false:=by have h8:(!goodD (outD d))=true:=i;simpa using h8
  refine Zs j fun _ aA=>?_;refine Ze (X16 (ps:=[]) (cs:=[vi 0,.slice none 0 0,.slice none 0 0,vi 0,vi 0]) rfl (fun _=>by first|rfl|kernel_rfl))<|Zo (Vw [vi 0,.slice none 0 0,.slice none 0 0,vi 0,vi 0] Xl c) ?_;rintro _ w5 ⟨ho,hb⟩;have h:=c;have g:=Below.only g ho y;have c:=hb;refine Za rfl<|Zt aA fun a j=>?_;refine Q6<|X7<|X5 j (X1o j rfl (ResV.cellN (l:=[vi 0,.slice none 0 0,.slice none 0 0,vi 0,vi 0]) rfl X2 (c.at 0) rfl) rfl) ?_
  rw [aK,Q3 Bool.false_ne_true]
  exact ⟨none,0,none,0,rfl,(Rd.nil _ _ _ _ _),(Rd.nil _ _ _ _ _),(Qf _),g⟩
 have a6:=i
 have aL:goodD (outD d)=true:=by have h8:(!goodD (outD d))=false:=i;simpa using h8
 refine Q7<|aJ _ _<|Zs j fun _ aB=>?_;refine Ze (Vn X2 f)<|Zo (Vw [vi d.n,.slice Ad md cd,.slice Bd d.ws.length dd,vi (d.t.tmod 8),vi d.r] Xl c) ?_;rintro _ w6 ⟨ho,hb⟩;have h:=c;have g:=Below.only g ho y;have c:=hb;refine Za rfl<|Zt aB fun a j=>?_
 refine Q6 (X5 j (X1o j rfl (ResV.cellN (l:=[vi d.n,.slice Ad md cd,.slice Bd d.ws.length dd,vi (d.t.tmod 8),vi d.r]) rfl X2 (c.at 0) rfl) rfl) ?_)
 rw [aL,Q4 rfl]
 subst m
 exact ⟨Ad,cd,Bd,dd,rfl,(o.below' g).top,(p.below' g).top,q,g⟩
theorem Xns(U:World)(d:Dg)(md:Nat)(aC:md=d.ns.length)(Ad:Option Addr)(cd:Nat)(aD:Rd U U.heap.size 81 encNd Ad d.ns)(Bd:Option Addr)(dd:Nat)(aE:Rd U U.heap.size 83 encWr Bd d.ws)(aF:d.ws.length≤dd)(x:Rz)(hD:InD d) : Ret Tryz.prog 68 [.agg #[vi d.n,.slice Ad md cd,.slice Bd d.ws.length dd,vi d.t,vi d.r],.agg #[vi x.u,vi x.a,vi x.b]] U (fun v w=>∃ A c1 B e,v=.tuple #[.agg #[vi (if (apC d x)=true then apD d x else zD).n,.slice A (if (apC d x)=true then apD d x else zD).ns.length c1,.slice B (if (apC d x)=true then apD d x else zD).ws.length e,vi (if (apC d x)=true then apD d x else zD).t,vi (if (apC d x)=true then apD d x else zD).r],.bool (apC d x)]∧Rd w w.heap.size 81 encNd A (if (apC d x)=true then apD d x else zD).ns∧Rd w w.heap.size 83 encWr B (if (apC d x)=true then apD d x else zD).ws∧(if (apC d x)=true then apD d x else zD).ws.length≤e∧Below U.heap.size U w):=by
 refine enter Tryz.func68 rfl 21 rfl rfl ?_;intro a y
 have g:=bz U
 refine Zs y fun _ aS=>?_;refine Zf (X0h (zs:=[vi d.n,.slice Ad md cd,.slice Bd d.ws.length dd,vi d.t,vi d.r]) rfl rfl) ?_;rintro _ w1 ⟨b4,rfl,aT,i,k⟩;have aZ:=Q0 g.size aT;have g:=btr g i;refine Zf (X0h (zs:=[vi x.u,vi x.a,vi x.b]) rfl rfl) ?_;rintro _ w2 ⟨b5,rfl,aU,i,a6⟩;have b0:=Q0 g.size aU;have k:=k.below i;have g:=btr g i;refine Zf (X00 (zs:=[vi 0,.slice none 0 0,.slice none 0 0,vi 0,vi 0]) X0o rfl) ?_;rintro _ w3 ⟨b8,rfl,aW,i,f⟩
 have aR:b4≠b8:=by have:=k.lt;omega
 have W:=Q0 g.size aW;have k:=k.below i;have a6:=a6.below i;have g:=btr g i;refine Za rfl<|Zx aS fun a y _ aX=>?_;refine Ze (Vn X2 k)<|Ze (Vn X1p a6)<|Zf (Vc (Xtn _ d md aC Ad cd (aD.below' g).top Bd dd (aE.below' g).top aF x hD) Xkl) ?_;rintro _ w4 ⟨L,M,N,Q,rfl,o,p,aG,aH,i⟩;have k:=k.below i;have f:=f.below i;have g:=btr g i;refine Zm rfl<|Ze (Xs (vs:=[.agg #[vi ((if (doC d x)=true then doD d x else d).n),.slice L md M,.slice N ((if (doC d x)=true then doD d x else d).ws).length Q,vi ((if (doC d x)=true then doD d x else d).t),vi ((if (doC d x)=true then doD d x else d).r)],.bool (doC d x)]) rfl rfl)<|Ze (Xs (vs:=[.agg #[vi ((if (doC d x)=true then doD d x else d).n),.slice L md M,.slice N ((if (doC d x)=true then doD d x else d).ws).length Q,vi ((if (doC d x)=true then doD d x else d).t),vi ((if (doC d x)=true then doD d x else d).r)],.bool (doC d x)]) rfl rfl)<|Zf (X00 (zs:=[vi 0,.slice none 0 0,.slice none 0 0,vi 0,vi 0]) X0o rfl) ?_;rintro _ w5 ⟨b14,rfl,aI,i,h⟩
 have aJ:b4≠b14:=by have:=k.lt;omega
 have aK:b8≠b14:=by have:=f.lt;omega
 have a7:=Q0 g.size aI;have f:=f.below i;have o:=o.below i;have p:=p.below i;have g:=btr g i;refine Zo (Vw [vi ((if (doC d x)=true then doD d x else d).n),.slice L md M,.slice N ((if (doC d x)=true then doD d x else d).ws).length Q,vi ((if (doC d x)=true then doD d x else d).t),vi ((if (doC d x)=true then doD d x else d).r)] Xl h) ?_;rintro _ w6 ⟨J,hb⟩;have j:=h;have f:=f.only J (by omega);have o:=o.onlyT J j rfl;have p:=p.onlyT J j rfl;have g:=Below.only g J a7;have h:=hb;refine Za rfl<|ZX aX fun a y _ aL=>?_;refine Zs y fun _ aM=>?_;refine Zm rfl<|Ze (X0y rfl)<|Zt aM fun a y=>?_
 refine Xh y rfl (fun q=>?_) (fun q=>?_)
 ·have a8:=q
  have aY:apC d x=false:=Xoq (by have h8:=q;simpa using h8)
  refine Zs y fun _ aN=>?_;refine Ze (X16 (ps:=[]) (cs:=[vi 0,.slice none 0 0,.slice none 0 0,vi 0,vi 0]) rfl (fun _=>by first|rfl|kernel_rfl))<|Zo (Vw [vi 0,.slice none 0 0,.slice none 0 0,vi 0,vi 0] Xl f) ?_;rintro _ w7 ⟨J,hb⟩;have j:=f;have g:=Below.only g J W;have f:=hb;refine Za rfl<|Zt aN fun a y=>?_;refine Q6<|X7<|X5 y (X1o y rfl (ResV.cellN (l:=[vi 0,.slice none 0 0,.slice none 0 0,vi 0,vi 0]) rfl X2 (f.at 0) rfl) rfl) ?_
  rw [aY,Q3 Bool.false_ne_true]
  exact ⟨none,0,none,0,rfl,(Rd.nil _ _ _ _ _),(Rd.nil _ _ _ _ _),(Qf _),g⟩
 have a8:=q
 have aA:doC d x=true:=by have h8:=q;simpa using h8
 have aO:=Xj8 hD aA
 have aB:(if doC d x=true then doD d x else d)=doD d x:=Q4 aA
 refine Q7<|aL _ _<|Zs y fun _ aP=>?_;refine Ze (Vn X2 h)<|Zf (Vc (Xvi _ (if (doC d x)=true then doD d x else d) md aH L M o.top N Q p.top aG (by rw [aB];exact Q0 aO.1.c (by decide)) (by rw [aB];exact Xsv aO.1.w hD.m)) Xmi) ?_;rintro _ w8 ⟨C,D,E,G,rfl,H,I,aQ,i⟩;have f:=f.below i;have g:=btr g i;refine Ze (Xs (vs:=[.agg #[vi ((if (goodD (outD (if (doC d x)=true then doD d x else d)))=true then outD (if (doC d x)=true then doD d x else d) else zD).n),.slice C ((if (goodD (outD (if (doC d x)=true then doD d x else d)))=true then outD (if (doC d x)=true then doD d x else d) else zD).ns).length D,.slice E ((if (goodD (outD (if (doC d x)=true then doD d x else d)))=true then outD (if (doC d x)=true then doD d x else d) else zD).ws).length G,vi ((if (goodD (outD (if (doC d x)=true then doD d x else d)))=true then outD (if (doC d x)=true then doD d x else d) else zD).t),vi ((if (goodD (outD (if (doC d x)=true then doD d x else d)))=true then outD (if (doC d x)=true then doD d x else d) else zD).r)],.bool (goodD (outD (if (doC d x)=true then doD d x else d)))]) rfl rfl)<|Ze (Xs (vs:=[.agg #[vi ((if (goodD (outD (if (doC d x)=true then doD d x else d)))=true then outD (if (doC d x)=true then doD d x else d) else zD).n),.slice C ((if (goodD (outD (if (doC d x)=true then doD d x else d)))=true then outD (if (doC d x)=true then doD d x else d) else zD).ns).length D,.slice E ((if (goodD (outD (if (doC d x)=true then doD d x else d)))=true then outD (if (doC d x)=true then doD d x else d) else zD).ws).length G,vi ((if (goodD (outD (if (doC d x)=true then doD d x else d)))=true then outD (if (doC d x)=true then doD d x else d) else zD).t),vi ((if (goodD (outD (if (doC d x)=true then doD d x else d)))=true then outD (if (doC d x)=true then doD d x else d) else zD).r)],.bool (goodD (outD (if (doC d x)=true then doD d x else d)))]) rfl rfl)<|Zo (Vw [vi ((if (goodD (outD (if (doC d x)=true then doD d x else d)))=true then outD (if (doC d x)=true then doD d x else d) else zD).n),.slice C ((if (goodD (outD (if (doC d x)=true then doD d x else d)))=true then outD (if (doC d x)=true then doD d x else d) else zD).ns).length D,.slice E ((if (goodD (outD (if (doC d x)=true then doD d x else d)))=true then outD (if (doC d x)=true then doD d x else d) else zD).ws).length G,vi ((if (goodD (outD (if (doC d x)=true then doD d x else d)))=true then outD (if (doC d x)=true then doD d x else d) else zD).t),vi ((if (goodD (outD (if (doC d x)=true then doD d x else d)))=true then outD (if (doC d x)=true then doD d x else d) else zD).r)] Xl f) ?_;rintro _ w9 ⟨J,hb⟩
 have j:=f;have H:=H.onlyT J j rfl;have I:=I.onlyT J j rfl;have g:=Below.only g J W;have f:=hb;refine Za rfl<|Zt aP fun a y=>?_
 refine Q6 (X5 y (X1o y rfl (ResV.cellN (l:=[vi ((if (goodD (outD (if (doC d x)=true then doD d x else d)))=true then outD (if (doC d x)=true then doD d x else d) else zD).n),.slice C ((if (goodD (outD (if (doC d x)=true then doD d x else d)))=true then outD (if (doC d x)=true then doD d x else d) else zD).ns).length D,.slice E ((if (goodD (outD (if (doC d x)=true then doD d x else d)))=true then outD (if (doC d x)=true then doD d x else d) else zD).ws).length G,vi ((if (goodD (outD (if (doC d x)=true then doD d x else d)))=true then outD (if (doC d x)=true then doD d x else d) else zD).t),vi ((if (goodD (outD (if (doC d x)=true then doD d x else d)))=true then outD (if (doC d x)=true then doD d x else d) else zD).r)]) rfl X2 (f.at 0) rfl) rfl) ?_)
 rw [show apC d x=goodD (outD (doD d x)) from by unfold apC;rw [aA,Qw]]
 rw [aB] at *
 exact ⟨C,D,E,G,rfl,H.top,I.top,aQ,g⟩
theorem Xvg(j:World)(d:Dg)(md:Nat)(aD:md=d.ns.length)(Ad:Option Addr)(cd:Nat)(D:Rd j j.heap.size 81 encNd Ad d.ns)(Bd:Option Addr)(dd:Nat)(aZ:Rd j j.heap.size 83 encWr Bd d.ws)(o:d.ws.length≤dd)(hN:md≤1000) : Ret Tryz.prog 55 [.agg #[vi d.n,.slice Ad md cd,.slice Bd d.ws.length dd,vi d.t,vi d.r]] j (fun v w=>∃ A c,v=.slice A (spL d.ns).length c∧Own w j.heap.size 3 1 encI A c (spL d.ns)∧Below j.heap.size j w):=by
 refine enter Tryz.func55 rfl 23 rfl rfl ?_;intro a f
 have g:=bz j
 refine Zs f fun _ aO=>?_;refine Zf (X0h (zs:=[vi d.n,.slice Ad md cd,.slice Bd d.ws.length dd,vi d.t,vi d.r]) rfl rfl) ?_;rintro _ w1 ⟨b4,rfl,aP,hE,aQ⟩;have b0:=Q0 g.size aP;have g:=btr g hE;refine Za rfl<|Zx aO fun a f _ aR=>?_;refine Za rfl<|ZX aR fun a f _ aS=>?_;refine Zs f fun _ aT=>?_;refine Ze (Vd rfl Xi 1)<|Ze (X0 rfl Xz (aQ.at 1))<|Ze (X0c rfl Xo)<|Zm rfl<|Zt aT fun a f=>?_;refine Q8<|X01 (σ:=Nat×(List Int)) (fun (s:Nat×(List Int)) (a:Act) (w:World)=>match s with|(k,m)=>∃ y h,Fr a 23 [(3,.slice y m.length h),(7,.slice Ad md cd),(8,vi (md:Int)),(9,vi (k:Int))]∧(k≤d.ns.length)∧(m=spK d.ns k)∧Own w j.heap.size 3 1 encI y h m∧d.ws.length≤dd∧Below j.heap.size j w) (fun (s:Nat×(List Int))=>match s with|(k,m)=>d.ns.length-k) (0,[]) ?_ ?_
 ·exact ⟨none,0,f.sb,(Qf _),rfl,(Own.nil _ _ _ _ _),o,g⟩
 rintro ⟨k,m⟩ a w2 ⟨y,h,f,hk,hm,b,o,g⟩;have aU:=X70 d.ns k
 rw [← hm] at aU
 refine Zs f fun _ aE=>?_;refine Ze (X0m rfl rfl)<|ZX aE fun a f _ aF=>?_
 refine Xh f rfl (fun e=>?_) (fun e=>?_)
 ·have a6:=e;have e:=Q2 e
  obtain ⟨u9,a7⟩:=X4 (l:=d.ns) (k:=k) (by have:=e;omega)
  refine Q7<|aF _ _<|Q5 fun _ E=>?_;refine Q8<|Zs f fun _ aG=>?_;refine Zm rfl<|Zj (k:=k) (u:=u9) (enc:=encNd) (l:=d.ns) trivial rfl aD rfl Xo X07 Xt (D.below' g) a7 (by omega) ?_;intro b1 a8;refine Ze (X02 (l:=[vi u9.k,vi u9.p]) rfl X2i a8 rfl)<|Zf (X00 (zs:=[vi 0,vi 0]) X6m rfl) ?_;rintro _ w3 ⟨b2,rfl,G,hE,q⟩;have aA:=Q0 g.size G;have aH:=(D.below' g).away G;have b:=b.below hE;have g:=btr g hE;refine Za rfl<|Zo (Vw [vi u9.k,vi u9.p] X07 q) ?_;rintro _ w4 ⟨ho,hb⟩;have aI:=q;have b:=b.onlyT ho aI rfl;have g:=Below.only g ho aA;have q:=hb;refine Zx aG fun a f _ aJ=>?_;refine Ze (Vd rfl X10 0)<|Ze (X0 rfl X9 (q.at 0))<|Ze (X0a rfl rfl)<|Zt aJ fun a f=>?_
  refine Xh f rfl (fun i=>?_) (fun i=>?_)
  ·have aB:=i;have B:=Xoi a7 i
   rw [← hm] at B
   refine Zr f<|Zm rfl<|Zm rfl<|Zf (Xp (k:=1) (vs:=[vi (k:Int)]) (zs:=[vi (k:Int)]) rfl Xj X1g rfl rfl) ?_;rintro _ w5 ⟨b3,rfl,H,hE,C⟩;have aW:=Q0 g.size H;have x:=b.away H;have b:=b.below hE;have g:=btr g hE;refine Zf (X0r (enc:=encI) (l:=(m)) (l2:=([(k:Int)])) (B0:=j.heap.size) rfl rfl Xj X1g Xa X1w b (Rd.of_blk C rfl _ C.lt) (by simp only [maxLen];simp;omega) (by simp;omega) g.size) ?_;rintro _ w6 ⟨aX,aY,rfl,aK,hg,aL⟩
   have I:Own _ j.heap.size 3 1 encI _ _ (m):=b
   have aC:=aL _ C.lt x;clear aL;have g:=Below.app g I hg (Qb _) g.size;clear I hg;refine Za rfl ?_;refine Zn fun a f=>?_;refine Xd<|E _ _<|Zr f<|Ze (Xu rfl rfl (by omega) (by omega))<|Zm rfl ?_;refine Zn fun a f=>?_;refine Xf ?_;exact ⟨(k+1,m++([(k:Int)])),⟨aX,aY,f.sb,(by omega),(by rw [B]),aK,o,g⟩,(by first|omega|(dsimp only;omega))⟩
  have aB:=i;have B:=Xne a7 i
  rw [← hm] at B
  refine Q7<|Xd<|E _ _<|Zr f ?_;refine Ze (Xu rfl rfl (by omega) (by omega))<|Zm rfl ?_;refine Zn fun a f=>?_;refine Xf ?_;exact ⟨(k+1,m),⟨y,h,f.sb,(by omega),(by rw [B]),b,o,g⟩,(by first|omega|(dsimp only;omega))⟩
 have a6:=e;have e:=Q1 e
 have aM:m=spL d.ns:=by rw [hm,show k=d.ns.length by have:=e;omega];rfl
 refine Q9<|Xk<|Xk<|X03 ?_;refine aS _ _<|Zs f fun _ aN=>?_;refine Zm rfl<|Za rfl<|Zt aN fun a f=>?_
 refine Q6 (X5 f (Xr f rfl rfl) ?_)
 rw [← aM]
 exact ⟨y,h,rfl,b,g⟩
theorem Xsy(C:World)(d:Dg)(md:Nat)(aO:md=d.ns.length)(Ad:Option Addr)(cd:Nat)(aP:Rd C C.heap.size 81 encNd Ad d.ns)(Bd:Option Addr)(dd:Nat)(aQ:Rd C C.heap.size 83 encWr Bd d.ws)(y:d.ws.length≤dd)(x:Int)(hD:InD d) : Ret Tryz.prog 120 [.agg #[vi d.n,.slice Ad md cd,.slice Bd d.ws.length dd,vi d.t,vi d.r],vi x] C (fun v w=>∃ A c,v=.slice A (alL d x).length c∧Own w C.heap.size 58 3 encRz A c (alL d x)∧Below C.heap.size C w):=by
 have b9:=hD.m;refine enter Tryz.func120 rfl 41 rfl rfl ?_;intro a i
 have o:=bz C
 refine Zs i fun _ bA=>?_;refine Zf (X0h (zs:=[vi d.n,.slice Ad md cd,.slice Bd d.ws.length dd,vi d.t,vi d.r]) rfl rfl) ?_;rintro _ w1 ⟨b4,rfl,bB,h,e⟩;have bM:=Q0 o.size bB;have o:=btr o h;refine Za rfl<|Zx bA fun a i _ bC=>?_;refine Za rfl<|ZX bC fun a i _ bD=>?_;refine Zs i fun _ bE=>?_;refine Ze (Vd rfl Xi 1)<|Ze (X0 rfl Xz (e.at 1))<|Ze (X0c rfl Xo)<|Zm rfl<|Zt bE fun a i=>?_;refine Q8<|X01 (σ:=Nat×(List Rz)) (fun (s:Nat×(List Rz)) (a:Act) (w:World)=>match s with|(k,m)=>∃ H I,Fr a 41 [(1,vi x),(2,.pointer (some ⟨b4,0,none⟩)),(5,.slice H m.length I),(13,vi (md:Int)),(14,vi (k:Int))]∧(k≤d.ns.length)∧(m=alS d x k)∧Blk w b4 39 [vi d.n,.slice Ad md cd,.slice Bd d.ws.length dd,vi d.t,vi d.r]∧Own w C.heap.size 58 3 encRz H I m∧d.ws.length≤dd∧Below C.heap.size C w) (fun (s:Nat×(List Rz))=>match s with|(k,m)=>d.ns.length-k) (0,[]) ?_ ?_
 ·exact ⟨none,0,i.sb,(Qf _),rfl,e,(Own.nil _ _ _ _ _),y,o⟩
 rintro ⟨k,m⟩ a w2 ⟨H,I,i,hk,hm,e,U,y,o⟩;have bF:=Xak d x k
 rw [← hm] at bF
 have bR:k*d.ns.length≤1000*1000:=Nat.mul_le_mul (by omega) b9
 refine Zs i fun _ aR=>?_;refine Ze (X0m rfl rfl)<|ZX aR fun a i _ aS=>?_
 refine Xh i rfl (fun p=>?_) (fun p=>?_)
 ·have aA:=p;have p:=Q2 p
  have bS:k<d.ns.length:=by have:=p;omega
  refine Q7<|aS _ _<|Q5 fun _ aT=>?_;refine Q8<|Zs i fun _ aU=>?_;refine Zm rfl<|Za rfl<|Zx aU fun a i _ aW=>?_;refine Ze (Vd rfl Xi 1)<|Ze (X0 rfl Xz (e.at 1))<|Ze (X0c rfl Xo)<|Zm rfl<|Zt aW fun a i=>?_;refine Q8<|X01 (σ:=Nat×(List Rz)) (fun (s:Nat×(List Rz)) (a:Act) (w:World)=>match s with|(j,g)=>∃ J L,Fr a 41 [(1,vi x),(2,.pointer (some ⟨b4,0,none⟩)),(5,.slice J g.length L),(6,vi (k:Int)),(13,vi (md:Int)),(14,vi (k:Int)),(19,vi (md:Int)),(20,vi (j:Int))]∧(j≤d.ns.length)∧(g=m++alR d x k j)∧Blk w b4 39 [vi d.n,.slice Ad md cd,.slice Bd d.ws.length dd,vi d.t,vi d.r]∧Own w C.heap.size 58 3 encRz J L g∧d.ws.length≤dd∧Below C.heap.size C w) (fun (s:Nat×(List Rz))=>match s with|(j,g)=>d.ns.length-j) (0,m) ?_ ?_
  ·exact ⟨H,I,i.sb,(Qf _),(by simp [alR]),e,U,y,o⟩
  rintro ⟨j,g⟩ a w3 ⟨J,L,i,hj,W,e,b,y,o⟩;refine Zs i fun _ aX=>?_;refine Ze (X0m rfl rfl)<|ZX aX fun a i _ aY=>?_
  refine Xh i rfl (fun q=>?_) (fun q=>?_)
  ·have aB:=q;have q:=Q2 q
   have bT:j<d.ns.length:=by have:=q;omega
   have bU:g.length≤1000*1000+1000:=by rw [W,Qh];have:=Xdf d x k j;omega
   refine Q7<|aY _ _<|Q5 fun _ a6=>?_;refine Q8<|Zs i fun _ aZ=>?_;refine Zm rfl<|Za rfl<|Zx aZ fun a i _ b0=>?_;refine Zm rfl<|Zm rfl<|Zm rfl<|Ze (X16 (ps:=[(0,vi x),(1,vi (k:Int)),(2,vi (j:Int))]) (cs:=[vi x,vi (k:Int),vi (j:Int)]) rfl (fun _=>by first|rfl|kernel_rfl))<|Zf (X00 (zs:=[vi 0,vi 0,vi 0]) X6v rfl) ?_;rintro _ w4 ⟨bG,rfl,a7,h,f⟩;have aC:=Q0 o.size a7;have B:=b.away a7;have e:=e.below h;have b:=b.below h;have o:=btr o h;refine Zo (Vw [vi x,vi (k:Int),vi (j:Int)] X2w f) ?_;rintro _ w5 ⟨ho,hb⟩;have E:=f;have e:=e.only ho (Blk.ne e E rfl);have b:=b.onlyA ho B;have o:=Below.only o ho aC;have f:=hb;refine Zx b0 fun a i _ b1=>?_;refine Ze (Vn X2 e)<|Ze (Vn X1p f)<|Zf (Vc (Xns _ d md aO Ad cd (aP.below' o).top Bd dd (aQ.below' o).top y (⟨x,(k:Int),(j:Int)⟩ : Rz) hD) Xes) ?_;rintro _ w6 ⟨aD,aE,aF,aG,rfl,bN,bO,bP,h⟩;have e:=e.below h;have f:=f.below h;have b:=b.below h;have o:=btr o h;refine Zm rfl<|Ze (Xs (vs:=[.agg #[vi ((if (apC d (⟨x,(k:Int),(j:Int)⟩ : Rz))=true then apD d (⟨x,(k:Int),(j:Int)⟩ : Rz) else zD).n),.slice aD ((if (apC d (⟨x,(k:Int),(j:Int)⟩ : Rz))=true then apD d (⟨x,(k:Int),(j:Int)⟩ : Rz) else zD).ns).length aE,.slice aF ((if (apC d (⟨x,(k:Int),(j:Int)⟩ : Rz))=true then apD d (⟨x,(k:Int),(j:Int)⟩ : Rz) else zD).ws).length aG,vi ((if (apC d (⟨x,(k:Int),(j:Int)⟩ : Rz))=true then apD d (⟨x,(k:Int),(j:Int)⟩ : Rz) else zD).t),vi ((if (apC d (⟨x,(k:Int),(j:Int)⟩ : Rz))=true then apD d (⟨x,(k:Int),(j:Int)⟩ : Rz) else zD).r)],.bool (apC d (⟨x,(k:Int),(j:Int)⟩ : Rz))]) rfl rfl)<|Ze (Xs (vs:=[.agg #[vi ((if (apC d (⟨x,(k:Int),(j:Int)⟩ : Rz))=true then apD d (⟨x,(k:Int),(j:Int)⟩ : Rz) else zD).n),.slice aD ((if (apC d (⟨x,(k:Int),(j:Int)⟩ : Rz))=true then apD d (⟨x,(k:Int),(j:Int)⟩ : Rz) else zD).ns).length aE,.slice aF ((if (apC d (⟨x,(k:Int),(j:Int)⟩ : Rz))=true then apD d (⟨x,(k:Int),(j:Int)⟩ : Rz) else zD).ws).length aG,vi ((if (apC d (⟨x,(k:Int),(j:Int)⟩ : Rz))=true then apD d (⟨x,(k:Int),(j:Int)⟩ : Rz) else zD).t),vi ((if (apC d (⟨x,(k:Int),(j:Int)⟩ : Rz))=true then apD d (⟨x,(k:Int),(j:Int)⟩ : Rz) else zD).r)],.bool (apC d (⟨x,(k:Int),(j:Int)⟩ : Rz))]) rfl rfl)<|Zf (X00 (zs:=[vi 0,.slice none 0 0,.slice none 0 0,vi 0,vi 0]) X0o rfl) ?_;rintro _ w7 ⟨b30,rfl,b2,h,M⟩
   have b3:b4≠b30:=by have:=e.lt;omega
   have aH:=Q0 o.size b2;have e:=e.below h;have f:=f.below h;have b:=b.below h;have o:=btr o h;refine Zo (Vw [vi ((if (apC d (⟨x,(k:Int),(j:Int)⟩ : Rz))=true then apD d (⟨x,(k:Int),(j:Int)⟩ : Rz) else zD).n),.slice aD ((if (apC d (⟨x,(k:Int),(j:Int)⟩ : Rz))=true then apD d (⟨x,(k:Int),(j:Int)⟩ : Rz) else zD).ns).length aE,.slice aF ((if (apC d (⟨x,(k:Int),(j:Int)⟩ : Rz))=true then apD d (⟨x,(k:Int),(j:Int)⟩ : Rz) else zD).ws).length aG,vi ((if (apC d (⟨x,(k:Int),(j:Int)⟩ : Rz))=true then apD d (⟨x,(k:Int),(j:Int)⟩ : Rz) else zD).t),vi ((if (apC d (⟨x,(k:Int),(j:Int)⟩ : Rz))=true then apD d (⟨x,(k:Int),(j:Int)⟩ : Rz) else zD).r)] Xl M) ?_;rintro _ w8 ⟨ho,hb⟩;have E:=M;have e:=e.only ho (by omega);have f:=f.only ho (Blk.ne f E rfl);have b:=b.onlyT ho E rfl;have o:=Below.only o ho aH;have M:=hb;refine Za rfl<|Zx b1 fun a i _ b5=>?_;refine Zm rfl<|Zt b5 fun a i=>?_
   refine Xh i rfl (fun D=>?_) (fun D=>?_)
   ·have aI:=D;have aJ:=Xto (d:=d) (u:=x) (a:=k) (j:=j) D;refine Zr i<|Zm rfl<|Ze (Vn X1p f)<|Zf (Xp (k:=1) (vs:=[.agg #[vi x,vi (k:Int),vi (j:Int)]]) (zs:=[vi x,vi (k:Int),vi (j:Int)]) rfl X1u X2a rfl rfl) ?_;rintro _ w9 ⟨b33,rfl,a8,h,N⟩
    have aL:bG≠b33:=by have:=f.lt;omega
    have bH:=Q0 o.size a8;have G:=b.away a8;have e:=e.below h;have f:=f.below h;have b:=b.below h;have o:=btr o h;refine Zf (X0r (enc:=encRz) (l:=(g)) (l2:=([(⟨x,(k:Int),(j:Int)⟩ : Rz)])) (B0:=C.heap.size) rfl rfl X1u X2a X35 X5g b (Rd.of_blk N rfl _ N.lt) (by simp only [maxLen];simp;omega) (by simp;omega) o.size) ?_;rintro _ bW ⟨bJ,bK,rfl,b6,W,aK⟩
    have Q:Own _ C.heap.size 58 3 encRz _ _ (g):=b
    have aM:=aK _ f.lt B;have aN:=aK _ N.lt G;clear aK;have e:=e.appT Q W rfl;have o:=Below.app o Q W (Qb _) o.size;clear Q W;refine Za rfl ?_;refine Zn fun a i=>?_;refine Xd<|a6 _ _<|Zr i<|Ze (Xu rfl rfl (by omega) (by omega))<|Zm rfl ?_;refine Zn fun a i=>?_;refine Xf ?_;exact ⟨(j+1,g++([(⟨x,(k:Int),(j:Int)⟩ : Rz)])),⟨bJ,bK,i.sb,(by omega),(by rw [aJ,W];try rw [Qx]),e,b6,y,o⟩,(by first|omega|(dsimp only;omega))⟩
   have aI:=D;have aJ:=Xs5 (d:=d) (u:=x) (a:=k) (j:=j) D;refine Q7<|Xd<|a6 _ _<|Zr i ?_;refine Ze (Xu rfl rfl (by omega) (by omega))<|Zm rfl ?_;refine Zn fun a i=>?_;refine Xf ?_;exact ⟨(j+1,g),⟨J,L,i.sb,(by omega),(by rw [aJ,W];try rw [Qx]),e,b,y,o⟩,(by first|omega|(dsimp only;omega))⟩
  have aB:=q;have q:=Q1 q
  have bL:g=alS d x (k+1):=by rw [W,Xj2,show j=d.ns.length by have:=q;omega,hm]
  refine Q9<|Xk<|Xk<|X03 ?_;refine Xd<|aT _ _<|Zr i<|Ze (Xu rfl rfl (by omega) (by omega))<|Zm rfl ?_;refine Zn fun a i=>?_;refine Xf ?_;exact ⟨(k+1,g),⟨J,L,i.sb,(by omega),bL,e,b,y,o⟩,(by first|omega|(dsimp only;omega))⟩
 have aA:=p;have p:=Q1 p
 have b7:m=alL d x:=by rw [hm,show k=d.ns.length by have:=p;omega];rfl
 refine Q9<|Xk<|Xk<|X03 ?_;refine bD _ _<|Zs i fun _ b8=>?_;refine Zm rfl<|Za rfl<|Zt b8 fun a i=>?_
 refine Q6 (X5 i (Xr i rfl rfl) ?_)
 rw [← b7]
 exact ⟨H,I,rfl,U,o⟩
theorem Xt4(q:World)(d:Dg)(md:Nat)(aD:md=d.ns.length)(Ad:Option Addr)(cd:Nat)(aE:Rd q q.heap.size 81 encNd Ad d.ns)(Bd:Option Addr)(dd:Nat)(aF:Rd q q.heap.size 83 encWr Bd d.ws)(o:d.ws.length≤dd)(Al:Option Addr)(cl:Nat)(l:List Int)(aG:Rd q q.heap.size 3 encI Al l)(hD:InD d)(b0:l.length≤1000000000) : Ret Tryz.prog 85 [.agg #[vi d.n,.slice Ad md cd,.slice Bd d.ws.length dd,vi d.t,vi d.r],.slice Al l.length cl] q (fun v w=>v=.tuple #[.agg #[vi ((fsF d l).getD rZ).u,vi ((fsF d l).getD rZ).a,vi ((fsF d l).getD rZ).b],.bool ((fsF d l).isSome)]∧Below q.heap.size q w):=by
 refine enter Tryz.func85 rfl 26 rfl rfl ?_;intro a g
 have i:=bz q
 refine Zs g fun _ aQ=>?_;refine Zf (X0h (zs:=[vi d.n,.slice Ad md cd,.slice Bd d.ws.length dd,vi d.t,vi d.r]) rfl rfl) ?_;rintro _ w1 ⟨b5,rfl,aR,y,j⟩;have aY:=Q0 i.size aR;have i:=btr i y;refine Zf (X00 (zs:=[vi 0,vi 0,vi 0]) X6v rfl) ?_;rintro _ w2 ⟨b6,rfl,aS,y,c⟩;have h:=Q0 i.size aS;have j:=j.below y;have i:=btr i y;refine Za rfl<|ZX aQ fun a g _ aT=>?_;refine Zs g fun _ aU=>?_;refine Zm rfl<|Ze (X0c rfl Xj)<|Zm rfl<|Zt aU fun a g=>?_;refine Q8<|X01 (σ:=Nat) (fun (k:Nat) (a:Act) (w:World)=>Fr a 26 [(2,.pointer (some ⟨b5,0,none⟩)),(4,.pointer (some ⟨b6,0,none⟩)),(9,.slice Al l.length cl),(10,vi (l.length:Int)),(11,vi (k:Int))]∧(k≤l.length)∧(fsF d (l.take k)=none)∧Blk w b5 39 [vi d.n,.slice Ad md cd,.slice Bd d.ws.length dd,vi d.t,vi d.r]∧Blk w b6 58 [vi 0,vi 0,vi 0]∧d.ws.length≤dd∧Below q.heap.size q w) (fun (k:Nat)=>l.length-k) 0 ?_ ?_
 ·exact ⟨g.sb,(Qf _),rfl,j,c,o,i⟩
 rintro k a w3 ⟨g,hk,a6,j,c,o,i⟩;refine Zs g fun _ aW=>?_;refine Ze (X0m rfl rfl)<|ZX aW fun a g _ aH=>?_
 refine Xh g rfl (fun e=>?_) (fun e=>?_)
 ·have a7:=e;have e:=Q2 e
  obtain ⟨b1,aZ⟩:=X4 (l:=l) (k:=k) (by omega)
  obtain ⟨m,a8⟩:=X4 (l:=l) (k:=k) (by have:=e;omega)
  have b2:=Xak d m d.ns.length;refine Q7<|aH _ _<|Q5 fun _ aI=>?_;refine Q8<|Zs g fun _ aJ=>?_;refine Zi (k:=k) (u:=m) (enc:=encI) (l:=l) trivial rfl rfl Xj X08 Xa (aG.below' i) a8 rfl ?_;intro b3 aA;refine Ze (X0 rfl X9 aA)<|Za rfl<|Zx aJ fun a g _ aK=>?_;refine Ze (Vn X2 j)<|Zm rfl<|Zf (Vc (Xsy _ d md aD Ad cd (aE.below' i).top Bd dd (aF.below' i).top o m hD) Xk9) ?_;rintro _ w4 ⟨b4,b7,rfl,p,y⟩;have aL:=p.awayNew c.lt;have p:=p.lower i.size;have j:=j.below y;have c:=c.below y;have i:=btr i y;refine Za rfl<|Zx aK fun a g _ aM=>?_;refine Zm rfl<|Ze (X0c rfl X1u)<|Ze (X7x rfl rfl)<|Zt aM fun a g=>?_
  refine Xh g rfl (fun f=>?_) (fun f=>?_)
  ·have aB:=f;have f:=Q2 f
   have A:0<(alL d m).length:=by have:=f;omega
   have x:fsF d l=some ((alL d m).getD 0 rZ):=Xho a6 a8 A
   refine Zs g fun _ aN=>?_;refine Zm rfl<|Zi (k:=0) (u:=((alL d m).getD 0 rZ)) (enc:=encRz) (l:=(alL d m)) trivial rfl rfl X1u X2w X35 p.rd (Xb A) rfl ?_;intro b8 aC;refine Ze (X02 (l:=[vi (((alL d m).getD 0 rZ).u),vi (((alL d m).getD 0 rZ).a),vi (((alL d m).getD 0 rZ).b)]) rfl X1p aC rfl)<|Zo (Vw [vi (((alL d m).getD 0 rZ).u),vi (((alL d m).getD 0 rZ).a),vi (((alL d m).getD 0 rZ).b)] X2w c) ?_;rintro _ w5 ⟨ho,hb⟩;have aO:=c;have i:=Below.only i ho h;have c:=hb;refine Za rfl<|Zt aN fun a g=>?_;refine Q6<|Xq<|X7<|X7 ?_;refine Xq<|X7<|X5 g (X1o g rfl (ResV.cellN (l:=[vi (((alL d m).getD 0 rZ).u),vi (((alL d m).getD 0 rZ).a),vi (((alL d m).getD 0 rZ).b)]) rfl X1p (c.at 0) rfl) rfl) ?_;exact ⟨by rw [x];rfl,i⟩
  have aB:=f;have f:=Q1 f
  have aX:fsF d (l.take (k+1))=none:=Xo7 a6 a8 (List.length_eq_zero_iff.1 (by have:=f;omega))
  refine Q7<|Xd<|aI _ _<|Zr g ?_;refine Ze (Xu rfl rfl (by omega) (by omega))<|Zm rfl ?_;refine Zn fun a g=>?_;refine Xf ?_;exact ⟨k+1,⟨g.sb,(by omega),aX,j,c,o,i⟩,(by omega)⟩
 have a7:=e;have e:=Q1 e
 have x:fsF d l=none:=Xh3 a6 (by have:=e;omega)
 refine Q9<|Xk<|Xk<|X03 ?_;refine aT _ _<|Zs g fun _ aP=>?_;refine Ze (X16 (ps:=[]) (cs:=[vi 0,vi 0,vi 0]) rfl (fun _=>by first|rfl|kernel_rfl))<|Zo (Vw [vi 0,vi 0,vi 0] X2w c) ?_;rintro _ w6 ⟨ho,hb⟩;have aO:=c;have i:=Below.only i ho h;have c:=hb;refine Za rfl<|Zt aP fun a g=>?_
 refine Q6 (X5 g (X1o g rfl (ResV.cellN (l:=[vi 0,vi 0,vi 0]) rfl X1p (c.at 0) rfl) rfl) ?_)
 exact ⟨by rw [x];rfl,i⟩
theorem Xgo(w0:World)(d:Dg)(md:Nat)(aU:md=d.ns.length)(Ad:Option Addr)(cd:Nat)(aW:Rd w0 w0.heap.size 81 encNd Ad d.ns)(Bd:Option Addr)(dd:Nat)(aX:Rd w0 w0.heap.size 83 encWr Bd d.ws)(a7:d.ws.length≤dd)(Al:Option Addr)(cl:Nat)(l:List Int)(aY:Rd w0 w0.heap.size 3 encI Al l)(hD:InD d)(bJ:l.length≤1000000000) : Ret Tryz.prog 37 [.agg #[vi d.n,.slice Ad md cd,.slice Bd d.ws.length dd,vi d.t,vi d.r],.slice Al l.length cl] w0 (fun v w=>∃ A c B e P q,v=.tuple #[.agg #[vi (siD d l).n,.slice A (siD d l).ns.length c,.slice B (siD d l).ws.length e,vi (siD d l).t,vi (siD d l).r],.slice P (siL d l).length q]∧Rd w w.heap.size 81 encNd A (siD d l).ns∧Rd w w.heap.size 83 encWr B (siD d l).ws∧(siD d l).ws.length≤e∧Own w w0.heap.size 58 3 encRz P q (siL d l)∧Below w0.heap.size w0 w):=by
 have bW:=hD.len;have bX:=hD.m;have bY:=Xhc d.ns;refine enter Tryz.func37 rfl 31 rfl rfl ?_;intro a H
 have x:=bz w0
 refine Zs H fun _ bK=>?_;refine Zf (X0h (zs:=[vi d.n,.slice Ad md cd,.slice Bd d.ws.length dd,vi d.t,vi d.r]) rfl rfl) ?_;rintro _ w1 ⟨b5,rfl,bL,y,f⟩;have aI:=Q0 x.size bL;have x:=btr x y;refine Zf (X00 (zs:=[vi 0,.slice none 0 0,.slice none 0 0,vi 0,vi 0]) X0o rfl) ?_;rintro _ w2 ⟨b8,rfl,bM,y,i⟩
 have bH:b5≠b8:=by have:=f.lt;omega
 have aZ:=Q0 x.size bM;have f:=f.below y;have x:=btr x y;refine Za rfl<|Zx bK fun a H _ b0=>?_;refine Ze (Vn X2 f)<|Zf (Vc (X9d _ d md aU Ad cd (aW.below' x).top Bd dd (aX.below' x).top a7 ⟨by omega,by omega⟩) X55) ?_;rintro _ w3 ⟨b1,b2,b3,b4,rfl,M,I,y⟩;have M:=M.lower x.size;have I:=I.lower x.size;have f:=f.below y;have i:=i.below y;have x:=btr x y;refine Zo (Vw [vi d.n,.slice b1 d.ns.length b2,.slice b3 d.ws.length b4,vi d.t,vi d.r] Xl f) ?_;rintro _ w4 ⟨D,hb⟩;have j:=f;have i:=i.only D (by omega);have M:=M.onlyT D j rfl;have I:=I.onlyT D j rfl;have x:=Below.only x D aI;have f:=hb;refine Zx b0 fun a H _ b6=>?_;refine Za rfl<|Zt b6 fun a H=>?_;refine Q8<|X01 (σ:=Dg×(List Rz)) (fun (s:Dg×(List Rz)) (a:Act) (w:World)=>match s with|(o,m)=>∃ aC aD N a6 Q U,Fr a 31 [(1,.slice Al l.length cl),(2,.pointer (some ⟨b5,0,none⟩)),(4,.pointer (some ⟨b8,0,none⟩)),(6,.slice aC m.length aD)]∧(InD o)∧(siD o l=siD d l)∧(m++siL o l=siL d l)∧(m.length+spN o.ns≤spN d.ns)∧Blk w b5 39 [vi o.n,.slice N o.ns.length a6,.slice Q o.ws.length U,vi o.t,vi o.r]∧Blk w b8 39 [vi 0,.slice none 0 0,.slice none 0 0,vi 0,vi 0]∧Own w w0.heap.size 58 3 encRz aC aD m∧Rd w w.heap.size 81 encNd N o.ns∧Rd w w.heap.size 83 encWr Q o.ws∧d.ws.length≤dd∧o.ws.length≤U∧Below w0.heap.size w0 w) (fun (s:Dg×(List Rz))=>match s with|(o,m)=>spN o.ns) (d,[]) ?_ ?_
 ·exact ⟨none,0,b1,b2,b3,b4,H.sb,hD,rfl,rfl,(by simp),f,i,(Own.nil _ _ _ _ _),M.rd,I.rd,a7,I.cap,x⟩
 rintro ⟨o,m⟩ a w5 ⟨aC,aD,N,a6,Q,U,H,hI,hs,hm,c4,f,i,g,h,C,a7,aM,x⟩;refine Q8<|Zs H fun _ b7=>?_;refine Ze (Vn X2 f)<|Zm rfl<|Zf (Vc (Xt4 _ o o.ns.length rfl N a6 h.top Q U C.top aM Al cl l (aY.below' x).top hI bJ) Xk4) ?_;rintro _ w6 ⟨rfl,y⟩;have f:=f.below y;have i:=i.below y;have g:=g.below y;have h:=h.below y;have C:=C.below y;have x:=btr x y;refine Zm rfl<|Ze (Xs (vs:=[.agg #[vi (((fsF o l).getD rZ).u),vi (((fsF o l).getD rZ).a),vi (((fsF o l).getD rZ).b)],.bool ((fsF o l).isSome)]) rfl rfl)<|Ze (Xs (vs:=[.agg #[vi (((fsF o l).getD rZ).u),vi (((fsF o l).getD rZ).a),vi (((fsF o l).getD rZ).b)],.bool ((fsF o l).isSome)]) rfl rfl)<|Zf (X00 (zs:=[vi 0,vi 0,vi 0]) X6v rfl) ?_;rintro _ w7 ⟨bN,rfl,aJ,y,p⟩;have aN:=Q0 x.size aJ;have J:=g.away aJ;have f:=f.below y;have i:=i.below y;have g:=g.below y;have h:=h.below y;have C:=C.below y;have x:=btr x y;refine Zo (Vw [vi (((fsF o l).getD rZ).u),vi (((fsF o l).getD rZ).a),vi (((fsF o l).getD rZ).b)] X2w p) ?_;rintro _ w8 ⟨D,hb⟩;have j:=p;have f:=f.only D (Blk.ne f j rfl);have i:=i.only D (Blk.ne i j rfl);have g:=g.onlyA D J;have h:=h.onlyT D j rfl;have C:=C.onlyT D j rfl;have x:=Below.only x D aN;have p:=hb;refine Za rfl<|ZX b7 fun a H _ b9=>?_;refine Zs H fun _ bA=>?_;refine Zm rfl<|Ze (X0y rfl)<|Zt bA fun a H=>?_
 refine Xh H rfl (fun W=>?_) (fun W=>?_)
 ·have aO:=W
  have bO:fsF o l=none:=by have h8:=W;simpa using h8
  have aK:=Xil bO
  have bP:siD d l=o:=by rw [← hs,aK.1]
  have bR:siL d l=m:=by rw [← hm,aK.2,List.append_nil]
  refine Zs H fun _ bB=>?_;refine Ze (Vn X2 f)<|Zm rfl<|Zo (Vw [vi o.n,.slice N o.ns.length a6,.slice Q o.ws.length U,vi o.t,vi o.r] Xl i) ?_;rintro _ w9 ⟨D,hb⟩;have j:=i;have g:=g.onlyT D j rfl;have h:=h.onlyT D j rfl;have C:=C.onlyT D j rfl;have x:=Below.only x D aZ;have i:=hb;refine Za rfl<|Zt bB fun a H=>?_;refine Q6<|X7<|Xq<|X7 ?_;refine Xq<|X5 H (X1o H rfl (ResV.cellN (l:=[vi o.n,.slice N o.ns.length a6,.slice Q o.ws.length U,vi o.t,vi o.r]) rfl X2 (i.at 0) rfl) rfl) ?_
  rw [bP,bR]
  exact ⟨N,a6,Q,U,aC,aD,rfl,h.top,C.top,aM,g,x⟩
 have aO:=W
 have bC:fsF o l=some ((fsF o l).getD rZ):=by have h8:=W;cases h9:fsF o l with
  | none=>rw [h9] at h8;cases h8
  | some r=>rfl
 have aP:=X6n bC;have bD:=Xf2 hI bC;have cA:=Xd4 hI aP
 have aA:(if apC o ((fsF o l).getD rZ)=true then apD o ((fsF o l).getD rZ) else zD)=apD o ((fsF o l).getD rZ):=Q4 aP
 refine Q7<|b9 _ _<|Zs H fun _ bE=>?_;refine Ze (Vn X2 f)<|Ze (Vn X1p p)<|Zf (Vc (Xns _ o o.ns.length rfl N a6 h.top Q U C.top aM ((fsF o l).getD rZ) hI) Xes) ?_;rintro _ cB ⟨aE,aF,aG,aH,rfl,E,G,bF,y⟩;have f:=f.below y;have i:=i.below y;have p:=p.below y;have g:=g.below y;have x:=btr x y;refine Zm rfl<|Ze (Xs (vs:=[.agg #[vi ((if (apC o ((fsF o l).getD rZ))=true then apD o ((fsF o l).getD rZ) else zD).n),.slice aE ((if (apC o ((fsF o l).getD rZ))=true then apD o ((fsF o l).getD rZ) else zD).ns).length aF,.slice aG ((if (apC o ((fsF o l).getD rZ))=true then apD o ((fsF o l).getD rZ) else zD).ws).length aH,vi ((if (apC o ((fsF o l).getD rZ))=true then apD o ((fsF o l).getD rZ) else zD).t),vi ((if (apC o ((fsF o l).getD rZ))=true then apD o ((fsF o l).getD rZ) else zD).r)],.bool (apC o ((fsF o l).getD rZ))]) rfl rfl)<|Ze (Xs (vs:=[.agg #[vi ((if (apC o ((fsF o l).getD rZ))=true then apD o ((fsF o l).getD rZ) else zD).n),.slice aE ((if (apC o ((fsF o l).getD rZ))=true then apD o ((fsF o l).getD rZ) else zD).ns).length aF,.slice aG ((if (apC o ((fsF o l).getD rZ))=true then apD o ((fsF o l).getD rZ) else zD).ws).length aH,vi ((if (apC o ((fsF o l).getD rZ))=true then apD o ((fsF o l).getD rZ) else zD).t),vi ((if (apC o ((fsF o l).getD rZ))=true then apD o ((fsF o l).getD rZ) else zD).r)],.bool (apC o ((fsF o l).getD rZ))]) rfl rfl)<|Zo (Vw [vi ((if (apC o ((fsF o l).getD rZ))=true then apD o ((fsF o l).getD rZ) else zD).n),.slice aE ((if (apC o ((fsF o l).getD rZ))=true then apD o ((fsF o l).getD rZ) else zD).ns).length aF,.slice aG ((if (apC o ((fsF o l).getD rZ))=true then apD o ((fsF o l).getD rZ) else zD).ws).length aH,vi ((if (apC o ((fsF o l).getD rZ))=true then apD o ((fsF o l).getD rZ) else zD).t),vi ((if (apC o ((fsF o l).getD rZ))=true then apD o ((fsF o l).getD rZ) else zD).r)] Xl f) ?_;rintro _ cC ⟨D,hb⟩
 have j:=f;have i:=i.only D (by omega);have p:=p.only D (Blk.ne p j rfl);have g:=g.onlyT D j rfl;have E:=E.onlyT D j rfl;have G:=G.onlyT D j rfl;have x:=Below.only x D aI;have f:=hb;refine Zt bE fun a H=>?_;refine Zr H<|Zm rfl<|Ze (Vn X1p p)<|Zf (Xp (k:=1) (vs:=[.agg #[vi (((fsF o l).getD rZ).u),vi (((fsF o l).getD rZ).a),vi (((fsF o l).getD rZ).b)]]) (zs:=[vi (((fsF o l).getD rZ).u),vi (((fsF o l).getD rZ).a),vi (((fsF o l).getD rZ).b)]) rfl X1u X2a rfl rfl) ?_;rintro _ cD ⟨b27,rfl,aL,y,aB⟩
 have aR:bN≠b27:=by have:=p.lt;omega
 have bS:=Q0 x.size aL;have a8:=g.away aL;have f:=f.below y;have i:=i.below y;have p:=p.below y;have g:=g.below y;have E:=E.below y;have G:=G.below y;have x:=btr x y;refine Zf (X0r (enc:=encRz) (l:=(m)) (l2:=([((fsF o l).getD rZ)])) (B0:=w0.heap.size) rfl rfl X1u X2a X35 X5g g (Rd.of_blk aB rfl _ aB.lt) (by simp only [maxLen];simp;omega) (by simp;omega) x.size) ?_;rintro _ cE ⟨bT,bU,rfl,bG,hg,aQ⟩
 have L:Own _ w0.heap.size 58 3 encRz _ _ (m):=g
 have aS:=aQ _ p.lt J;have aT:=aQ _ aB.lt a8;clear aQ;have f:=f.appT L hg rfl;have i:=i.appT L hg rfl;have E:=E.appT L hg rfl;have G:=G.appT L hg rfl;have x:=Below.app x L hg (Qb _) x.size;clear L hg;refine Za rfl ?_;refine Zn fun a H=>?_;refine Xd<|Xf ?_;exact ⟨((if (apC o ((fsF o l).getD rZ))=true then apD o ((fsF o l).getD rZ) else zD),m++([((fsF o l).getD rZ)])),⟨bT,bU,aE,aF,aG,aH,H.sb,(by rw [aA];exact X15 (X8x aP)),(by rw [aA,← bD.1];exact hs),(by rw [aA,Qx,← hm,bD.2];rfl),(by rw [aA,Qh,List.length_singleton];omega),f,i,bG,E.top,G.top,a7,bF,x⟩,(by rw [aA];omega)⟩
theorem Xog(w0:World) : Ret Tryz.prog 38 [] w0 (fun v w=>∃ A c,v=.slice A ([(1:Int),2,3,4,5]).length c∧Own w w0.heap.size 3 1 encI A c ([(1:Int),2,3,4,5])∧Below w0.heap.size w0 w):=by
 refine enter Tryz.func38 rfl 2 rfl rfl ?_;intro a hf
 have hW:=bz w0
 refine Zs hf fun _ a7=>?_;refine Za rfl<|Zx a7 fun a hf _ a8=>?_;refine Zf (Xp (k:=5) (vs:=[vi 1,vi 2,vi 3,vi 4,vi 5]) (zs:=[vi 1,vi 2,vi 3,vi 4,vi 5]) rfl Xj X1g rfl rfl) ?_;rintro _ w1 ⟨b4,rfl,aA,hE,aB⟩;have a6:=Q0 hW.size aA;have hW:=btr hW hE;refine Za rfl<|Zt a8 fun a hf=>?_
 refine Q6 (X5 hf (Xr hf rfl rfl) ?_)
 exact ⟨(some ⟨b4,0,none⟩),5,rfl,(Own.of_blkL Xa aB a6 rfl rfl (by decide)),hW⟩
def SB(b:Nat)(l:List (Option Addr))(k:Nat) : Prop:=k=b∨∃ A ∈ l,ownB A=some k
def Us(S:Nat→Prop)(w0:World)(A:Option Addr) : Prop:=∀ k,ownB A=some k→S k∨w0.heap.size≤k
theorem SB.us{b:Nat}{l:List (Option Addr)}{A:Option Addr}{w:World}(h:A ∈ l) : Us (SB b l) w A:=fun _ hk=>.inl (.inr ⟨A,h,hk⟩)
theorem Xfs(p:Addr) : ownB (some p)=some p.block:=rfl
theorem Xe6{A:Option Addr}{b:Nat} : Away A b↔ownB A≠some b:=by
 cases A with
 | none=>exact ⟨(fun _ h=>by cases h),fun _ p h=>by cases h⟩
 | some p=>
  rw [Xfs]
  exact ⟨fun h e=>h p rfl (Option.some.inj e),fun h q hq e=>by injection hq with hq;subst hq;exact h (by rw [e])⟩
section
variable {S : Nat → Prop} {w0 w w' : World} {A A' : Option Addr} {b : Nat} {l : List (Option Addr)}
theorem Us.app(hu:Us S w0 A)(hat:∀ b,b<w.heap.size→Away A b→Away A' b)(hs:w0.heap.size≤w.heap.size) : Us S w0 A':=fun k hk=>by
 by_cases hl:k<w.heap.size
 ·by_cases h2:ownB A=some k
  ·exact hu k h2
  ·exact absurd hk (Xe6.1 (hat k hl (Xe6.2 h2)))
 ·exact .inr (by omega)
theorem Us.new{α:Type}{E:TypeId}{sz c:Nat}{enc:α→List Value}{r:List α}(ho:Own w w0.heap.size E sz enc A c r) : Us S w0 A:=fun _ hk=>.inr (X1l ho hk)
theorem al0{α:Type}{p:α→Prop} : ∀ x ∈ ([] : List α),p x:=fun _ h=>by cases h
theorem alc{α:Type}{p:α→Prop}{a:α}{r:List α}(h:p a)(ht:∀ x ∈ r,p x) : ∀ x ∈ a::r,p x:=List.forall_mem_cons.2 ⟨h,ht⟩
theorem SB.lift(hb:S b∨w0.heap.size≤b)(h:∀ A ∈ l,Us S w0 A) : ∀ k,SB b l k→S k∨w0.heap.size≤k:=fun k hk=>by
 rcases hk with rfl|⟨A,hA,hk⟩
 ·exact hb
 ·exact h A hA k hk
theorem Us.trans(hu:Us (SB b l) w A)(h:∀ k,SB b l k→S k∨w0.heap.size≤k)(hs:w0.heap.size≤w.heap.size) : Us S w0 A:=fun k hk=>by
 rcases hu k hk with h1|h1
 ·exact h k h1
 ·exact .inr (by omega)
theorem SB.ge{N:Nat}(hb:N≤b)(h:∀ A ∈ l,∀ k,ownB A=some k→N≤k) : ∀ k,SB b l k→N≤k:=fun k hk=>by
 rcases hk with rfl|⟨A,hA,hk⟩
 ·exact hb
 ·exact h A hA k hk
theorem nrow{α:Type}{B0:Nat}{E T:TypeId}{sz c:Nat}{enc:α→List Value}{r:List α}{cs:List Value}(ho:Own w B0 E sz enc A c r)(h:Blk w b T cs)(h1:Nat.beq E T=false) : ownB A≠some b:=fun hk=>by
 obtain ⟨_,_,cs',fz,h3⟩:=ho.block (k:=b) (by rw [X4g];exact hk)
 unfold Blk at h;rw [h3] at h;injection h with h;injection h with _ e _;subst e;simp at h1
theorem Blk.tu{b2:Nat}{T T2:TypeId}{bcs cs:List Value}(h:Blk w b2 T2 cs)(hts:TurnS (SB b l) w w')(hb:Blk w b T bcs)(h1:Nat.beq T2 T=false)(hr:∀ A ∈ l,ownB A≠some b2) : Blk w' b2 T2 cs:=by
 refine (hts.block b2 h.lt fun hk=>?_).trans h
 rcases hk with e|⟨A,hA,hk⟩
 ·exact h.ne hb h1 e
 ·exact hr A hA hk
end
structure Br where
 d:Dg
 la:List Int
 hd:List Bool
def bZ:Br:=⟨zD,[],[]⟩
def Drw(w:World)(b B0:Nat)(A0:Option Addr)(c0:Nat)(A1:Option Addr)(c1:Nat)(A2:Option Addr)(c2:Nat)(B:Option Addr)(e m n:Nat)(x:Br) : Prop:=
 Blk w b 171 [.int .i64 x.d.n,.slice A0 m c0,.slice B x.d.ws.length e,.int .i64 x.d.t,.int .i64 x.d.r,.slice A1 n c1,.slice A2 n c2]∧Own w B0 81 2 encNd A0 c0 x.d.ns∧Own w B0 3 1 encI A1 c1 x.la∧Own w B0 4 1 encB A2 c2 x.hd∧Rd w w.heap.size 83 encWr B x.d.ws∧x.d.ws.length≤e∧m=x.d.ns.length∧n=x.la.length∧n=x.hd.length
def nodB(x:Br)(k p q:Int) : Br:=⟨{ x.d with ns:=x.d.ns++[⟨k,p⟩],ws:=jnW x.d.ws (x.la.getD q.toNat 0) (x.d.ns.length:Int) (x.hd.getD q.toNat false) },x.la.set q.toNat (x.d.ns.length:Int),x.hd.set q.toNat false⟩
def plcB(x:Br)(q:Int) : Br:=if (x.hd.getD q.toNat false||(x.d.ns.getD (x.la.getD q.toNat 0).toNat nZ).k != 3)=true then nodB x 3 0 q else x
def trnB(x:Br)(q m:Int) : Br:={ plcB x q with d:={ (plcB x q).d with ns:=adN (plcB x q).d.ns ((plcB x q).la.getD q.toNat 0) m } }
def flpB(x:Br)(q:Int) : Br:={ x with hd:=x.hd.set q.toNat (!(x.hd.getD q.toNat false)) }
def czB(x:Br)(p q:Int) : Br:=
 let y:=plcB (plcB x p) q
 let a:=(plcB x p).la.getD p.toNat 0
 let b:=y.la.getD q.toNat 0
 if 0≤fdW y.d.ws a b then { y with d:={ y.d with ws:=ctW y.d.ws (fdW y.d.ws a b).toNat,r:=wr (y.d.r-1) } } else { y with d:={ y.d with ws:=jnW y.d.ws a b true,r:=wr (y.d.r+1) } }
structure BrOk (n:Nat) (x:Br) : Prop where
 la:x.la.length=n
 hd:x.hd.length=n
 rg:∀ y ∈ x.la,0≤y∧y<(x.d.ns.length:Int)
 p:PhN x.d.ns
theorem Xn7{x:Br}{q:Int}(h:(x.hd.getD q.toNat false||(x.d.ns.getD (x.la.getD q.toNat 0).toNat nZ).k != 3)=true) : plcB x q=nodB x 3 0 q:=Q4 h
theorem Xnf{x:Br}{q:Int}(h:(x.hd.getD q.toNat false||(x.d.ns.getD (x.la.getD q.toNat 0).toNat nZ).k != 3)=false) : plcB x q=x:=Q3 (by rw [h];decide)
theorem BrOk.at{n:Nat}{x:Br}(h:BrOk n x){q:Int}(hq:0≤q∧q.toNat<n) : 0≤x.la.getD q.toNat 0∧(x.la.getD q.toNat 0).toNat<x.d.ns.length:=by
 have:=X65 h.rg (i:=q.toNat) (by rw [h.la];exact hq.2)
 omega
theorem X9p{n:Nat}{x:Br}(h:BrOk n x){k p q:Int}(hp:0≤p∧p≤7) : BrOk n (nodB x k p q):=by
 have hl:(x.d.ns++[(⟨k,p⟩ : Nd)]).length=x.d.ns.length+1:=by simp
 refine ⟨List.length_set.trans h.la,List.length_set.trans h.hd,fun y hy=>?_,fun y hy=>?_⟩
 ·show 0≤y∧y<((x.d.ns++[(⟨k,p⟩ : Nd)]).length:Int)
  rcases List.mem_or_eq_of_mem_set hy with hy|rfl
  ·have:=h.rg y hy
   omega
  ·omega
 ·rcases Qu.1 hy with hy|hy
  ·exact h.p y hy
  ·rw [Qm.1 hy];exact hp
theorem X60(x:Br)(k p q:Int) : (nodB x k p q).d.ns.length=x.d.ns.length+1∧(nodB x k p q).d.ws.length=x.d.ws.length+1:=⟨by simp [nodB],X4e _ _ _ _⟩
theorem X31{n:Nat}{x:Br}(h:BrOk n x)(q:Int) : BrOk n (plcB x q):=by
 unfold plcB
 split
 ·exact X9p h (by decide)
 ·exact h
theorem X2t(x:Br)(q:Int) : (plcB x q).d.ns.length≤x.d.ns.length+1∧(plcB x q).d.ws.length≤x.d.ws.length+1∧x.d.ns.length≤(plcB x q).d.ns.length:=by
 have:=X60 x 3 0 q
 unfold plcB
 split<;>omega
theorem X4s{n:Nat}{x:Br}(h:BrOk n x)(q m:Int) : BrOk n (trnB x q m):=by
 have h1:=X31 h q
 exact ⟨h1.la,h1.hd,fun y hy=>by
  have:=h1.rg y hy
  show 0≤y∧y<((adN _ _ _).length:Int)
  rw [X1s];exact this,X5n h1.p _ _⟩
theorem X52(x:Br)(q m:Int) : (trnB x q m).d.ns.length≤x.d.ns.length+1∧(trnB x q m).d.ws.length≤x.d.ws.length+1:=by
 have:=X2t x q
 show (adN _ _ _).length≤_∧(plcB x q).d.ws.length≤_
 rw [X1s]
 omega
theorem X1v{n:Nat}{x:Br}(h:BrOk n x)(q:Int) : BrOk n (flpB x q):=⟨h.la,List.length_set.trans h.hd,h.rg,h.p⟩
theorem Xtd{x:Br}{p q:Int}(h:0≤fdW (plcB (plcB x p) q).d.ws ((plcB x p).la.getD p.toNat 0) ((plcB (plcB x p) q).la.getD q.toNat 0)) : czB x p q = { plcB (plcB x p) q with d:={ (plcB (plcB x p) q).d with ws:=ctW (plcB (plcB x p) q).d.ws (fdW (plcB (plcB x p) q).d.ws ((plcB x p).la.getD p.toNat 0) ((plcB (plcB x p) q).la.getD q.toNat 0)).toNat,r:=wr ((plcB (plcB x p) q).d.r-1) } }:=Q4 h
theorem Xro{x:Br}{p q:Int}(h:¬ 0≤fdW (plcB (plcB x p) q).d.ws ((plcB x p).la.getD p.toNat 0) ((plcB (plcB x p) q).la.getD q.toNat 0)) : czB x p q = { plcB (plcB x p) q with d:={ (plcB (plcB x p) q).d with ws:=jnW (plcB (plcB x p) q).d.ws ((plcB x p).la.getD p.toNat 0) ((plcB (plcB x p) q).la.getD q.toNat 0) true,r:=wr ((plcB (plcB x p) q).d.r+1) } }:=Q3 h
theorem Xnu{n:Nat}{x:Br}(h:BrOk n x)(p q:Int) : BrOk n (czB x p q):=by
 have h1:=X31 (X31 h p) q
 unfold czB
 dsimp only
 split
 ·exact ⟨h1.la,h1.hd,h1.rg,h1.p⟩
 ·exact ⟨h1.la,h1.hd,h1.rg,h1.p⟩
theorem Xj5(x:Br)(p q:Int) : (czB x p q).d.ns.length≤x.d.ns.length+2∧(czB x p q).d.ws.length≤x.d.ws.length+3:=by
 have h1:=X2t x p;have h2:=X2t (plcB x p) q
 unfold czB
 dsimp only
 split
 ·have:=(X3t (plcB (plcB x p) q).d.ws (fdW (plcB (plcB x p) q).d.ws ((plcB x p).la.getD p.toNat 0) ((plcB (plcB x p) q).la.getD q.toNat 0)).toNat).length_le
  dsimp only
  omega
 ·dsimp only
  rw [X4e]
  omega
def swpB(x:Br)(a b:Int) : Br:={ x with la:=(x.la.set a.toNat (x.la.getD b.toNat 0)).set b.toNat (x.la.getD a.toNat 0),hd:=(x.hd.set a.toNat (x.hd.getD b.toNat false)).set b.toNat (x.hd.getD a.toNat false) }
def yyB(x:Br)(a:Int) : Br:=flpB (trnB (flpB (trnB x a 4) a) a 4) a
def tnB(x:Br)(k:Int) : Br:={ x with d:={ x.d with t:=wr (x.d.t+k) } }
def gtB(x:Br)(g:Gt) : Br:=
 if (g.k==1)=true then flpB x g.a
 else if (g.k==2)=true then flpB (trnB (flpB x g.a) g.a 4) g.a
 else if (g.k==3)=true then tnB (yyB x g.a) 2
 else if (g.k==9)=true then flpB (czB (flpB x g.b) g.a g.b) g.b
 else if (g.k==10)=true then czB x g.a g.b
 else if (g.k==11)=true then swpB x g.a g.b
 else if (g.k==12)=true then tnB x 1
 else trnB x g.a (rotC g.k)
section
variable {x : Br} {g : Gt}
theorem Xu4(h1:(g.k==1)=true) : gtB x g=flpB x g.a:=Q4 h1
theorem Xrq(h1:(g.k==1)=false)(h2:(g.k==2)=true) : gtB x g=flpB (trnB (flpB x g.a) g.a 4) g.a:=by unfold gtB;rw [h1,h2];rfl
theorem Xu0(h1:(g.k==1)=false)(h2:(g.k==2)=false)(h3:(g.k==3)=true) : gtB x g=tnB (yyB x g.a) 2:=by unfold gtB;rw [h1,h2,h3];rfl
theorem Xsc(h1:(g.k==1)=false)(h2:(g.k==2)=false)(h3:(g.k==3)=false)(h9:(g.k==9)=true) : gtB x g=flpB (czB (flpB x g.b) g.a g.b) g.b:=by unfold gtB;rw [h1,h2,h3,h9];rfl
theorem Xn5(h1:(g.k==1)=false)(h2:(g.k==2)=false)(h3:(g.k==3)=false)(h9:(g.k==9)=false)(h10:(g.k==10)=true) : gtB x g=czB x g.a g.b:=by unfold gtB;rw [h1,h2,h3,h9,h10];rfl
theorem Xof(h1:(g.k==1)=false)(h2:(g.k==2)=false)(h3:(g.k==3)=false)(h9:(g.k==9)=false)(h10:(g.k==10)=false)(h11:(g.k==11)=true) : gtB x g=swpB x g.a g.b:=by unfold gtB;rw [h1,h2,h3,h9,h10,h11];rfl
theorem Xnk(h1:(g.k==1)=false)(h2:(g.k==2)=false)(h3:(g.k==3)=false)(h9:(g.k==9)=false)(h10:(g.k==10)=false)(h11:(g.k==11)=false)(h12:(g.k==12)=true) : gtB x g=tnB x 1:=by unfold gtB;rw [h1,h2,h3,h9,h10,h11,h12];rfl
theorem Xs2(h1:(g.k==1)=false)(h2:(g.k==2)=false)(h3:(g.k==3)=false)(h9:(g.k==9)=false)(h10:(g.k==10)=false)(h11:(g.k==11)=false)(h12:(g.k==12)=false) : gtB x g=trnB x g.a (rotC g.k):=by unfold gtB;rw [h1,h2,h3,h9,h10,h11,h12];rfl
end
theorem Xh7{k:Int}(h:4≤k∧k≤8) : ([4,2,6,1,7] : List Int)[(k-4).toNat]? = some (rotC k)∧0≤rotC k∧rotC k≤900:=by
 have:k=4∨k=5∨k=6∨k=7∨k=8:=by omega
 rcases this with e|e|e|e|e<;>subst e<;>decide
theorem Xps{n:Nat}{x:Br}(h:BrOk n x){a b:Int}(ha:0≤a∧a.toNat<n)(hb:0≤b∧b.toNat<n) : BrOk n (swpB x a b):=by
 have h1:=h.at ha;have h2:=h.at hb
 refine ⟨List.length_set.trans (List.length_set.trans h.la),List.length_set.trans (List.length_set.trans h.hd),fun y hy=>?_,h.p⟩
 show 0≤y∧y<(x.d.ns.length:Int)
 rcases List.mem_or_eq_of_mem_set hy with hy|rfl
 ·rcases List.mem_or_eq_of_mem_set hy with hy|rfl
  ·exact h.rg y hy
  ·omega
 ·omega
theorem Xnb{n:Nat}{x:Br}(h:BrOk n x)(k:Int) : BrOk n (tnB x k):=⟨h.la,h.hd,h.rg,h.p⟩
theorem Xsu{n:Nat}{x:Br}(h:BrOk n x)(a:Int) : BrOk n (yyB x a):=X1v (X4s (X1v (X4s h a 4) a) a 4) a
theorem Xr8(x:Br)(a:Int) : (yyB x a).d.ns.length≤x.d.ns.length+2∧(yyB x a).d.ws.length≤x.d.ws.length+2:=by
 have h1:=X52 x a 4;have h2:=X52 (flpB (trnB x a 4) a) a 4
 have e1:(flpB (trnB x a 4) a).d=(trnB x a 4).d:=rfl
 have e2:(yyB x a).d=(trnB (flpB (trnB x a 4) a) a 4).d:=rfl
 rw [e1] at h2
 rw [e2]
 omega
theorem Xig{n:Nat}{x:Br}(h:BrOk n x){g:Gt}(hg:gOk (n:Int) g=true) : BrOk n (gtB x g):=by
 unfold gtB
 split
 ·exact X1v h _
 split
 ·exact X1v (X4s (X1v h _) _ _) _
 split
 ·exact Xnb (Xsu h _) _
 split
 ·exact X1v (Xnu (X1v h _) _ _) _
 split
 ·exact Xnu h _ _
 split
 ·exact Xps h (Xbc hg) (Xb9 hg)
 split
 ·exact Xnb h _
 ·exact X4s h _ _
theorem Xcr(x:Br)(g:Gt) : (gtB x g).d.ns.length≤x.d.ns.length+3∧(gtB x g).d.ws.length≤x.d.ws.length+3:=by
 unfold gtB
 split
 ·show x.d.ns.length≤_∧x.d.ws.length≤_;omega
 split
 ·have h1:=X52 (flpB x g.a) g.a 4
  have e1:(flpB x g.a).d=x.d:=rfl
  rw [e1] at h1
  show (trnB (flpB x g.a) g.a 4).d.ns.length≤_∧(trnB (flpB x g.a) g.a 4).d.ws.length≤_
  omega
 split
 ·have h1:=Xr8 x g.a
  show (yyB x g.a).d.ns.length≤_∧(yyB x g.a).d.ws.length≤_
  omega
 split
 ·have h1:=Xj5 (flpB x g.b) g.a g.b
  have e1:(flpB x g.b).d=x.d:=rfl
  rw [e1] at h1
  show (czB (flpB x g.b) g.a g.b).d.ns.length≤_∧(czB (flpB x g.b) g.a g.b).d.ws.length≤_
  omega
 split
 ·have h1:=Xj5 x g.a g.b
  omega
 split
 ·show x.d.ns.length≤_∧x.d.ws.length≤_;omega
 split
 ·show x.d.ns.length≤_∧x.d.ws.length≤_;omega
 ·have h1:=X52 x g.a (rotC g.k)
  omega
def inN(k:Nat) : List Nd:=(List.range k).map fun (i:Nat)=>(⟨1,i⟩ : Nd)
def ranI(k:Nat) : List Int:=(List.range k).map fun (i:Nat)=>(i:Int)
theorem Xon(k:Nat) : inN (k+1)=inN k++[(⟨1,(k:Int)⟩ : Nd)]:=by unfold inN;rw [List.range_succ,List.map_append];rfl
theorem Xi6(k:Nat) : ranI (k+1)=ranI k++[(k:Int)]:=by unfold ranI;rw [List.range_succ,List.map_append];rfl
theorem X51(k:Nat) : (inN k).length=k:=by simp [inN]
theorem X4p(k:Nat) : (ranI k).length=k:=by simp [ranI]
def ofB0(c:Cx) : Br:=⟨⟨c.n,inN c.n.toNat,[],0,0⟩,ranI c.n.toNat,List.replicate c.n.toNat false⟩
def ofB1(c:Cx) : Br:=c.gs.foldl gtB (ofB0 c)
def ofK(c:Cx)(j:Nat) : Br:=(List.range j).foldl (fun x (q:Nat)=>nodB x 2 (q:Int) (q:Int)) (ofB1 c)
def ofD(c:Cx) : Dg:=outD (ofK c c.n.toNat).d
theorem Xgx(c:Cx)(j:Nat) : ofK c (j+1)=nodB (ofK c j) 2 (j:Int) (j:Int):=by unfold ofK;rw [List.range_succ,List.foldl_append];rfl
theorem Xa0{c:Cx}(hn:1≤c.n∧c.n≤5) : BrOk c.n.toNat (ofB0 c):=by
 refine ⟨X4p _,List.length_replicate,fun y hy=>?_,fun y hy=>?_⟩
 ·obtain ⟨i,hi,rfl⟩:=W6.1 hy
  have:=W2.1 hi
  show 0≤(i:Int)∧(i:Int)<((inN _).length:Int)
  rw [X51]
  omega
 ·obtain ⟨i,hi,rfl⟩:=W6.1 hy
  have:=W2.1 hi
  show 0≤(i:Int)∧(i:Int)≤7
  omega
theorem X7s(w0:World)(bV B0:Nat)(A0:Option Addr)(c0:Nat)(A1:Option Addr)(c1:Nat)(A2:Option Addr)(c2:Nat)(BW:Option Addr)(eW m0 n0:Nat)(x:Br)(a7:Drw w0 bV B0 A0 c0 A1 c1 A2 c2 BW eW m0 n0 x)(aF:B0≤w0.heap.size)(q:Int)(hq:0≤q∧q.toNat<n0) : Ret Tryz.prog 188 [.pointer (some ⟨bV,0,none⟩),vi q] w0 (fun v w=>∃ A c B e m,TurnS (SB bV [A0,A1,A2]) w0 w∧Us (SB bV [A0,A1,A2]) w0 A∧Drw w bV B0 A c A1 c1 A2 c2 B e m n0 (flpB x q)):=by
 obtain ⟨f,i,n,b,o,a8,aA,aB,a6⟩:=a7;have aE:=f.lt
 have aC:Us (SB bV [A0,A1,A2]) w0 A0:=SB.us (by simp)
 have aG:Us (SB bV [A0,A1,A2]) w0 A1:=SB.us (by simp)
 have aD:Us (SB bV [A0,A1,A2]) w0 A2:=SB.us (by simp)
 refine enter Tryz.func188 rfl 18 rfl rfl ?_;intro a hf
 have hW:TurnS (SB bV [A0,A1,A2]) w0 w0:=TurnS.refl _ _
 refine X05 none (fun j=>[14].contains j) mixed ?_;intro w1 hE;have f:=f.below hE;have i:=i.below hE;have n:=n.below hE;have b:=b.below hE;have o:=o.below hE;have hW:=tsbel hW hE;refine Yb hf<|Yo 0 rfl (fun _=>X3 rfl)<|Yo 1 rfl (fun _=>Xw rfl)<|Yo 2 rfl (fun _=>Vd rfl X26 6)<|Ye 3 rfl (X0 rfl X1x (f.at 6))<|Yo 4 rfl (fun _=>X3 rfl)<|Yo 5 rfl (fun _=>X3 rfl)<|Yo 6 rfl (fun _=>Xw rfl)<|Yo 7 rfl (fun _=>Vd rfl X26 6)<|Ye 8 rfl (X0 rfl X1x (f.at 6))<|Yo 9 rfl (fun _=>X3 rfl) ?_;refine Yo 10 rfl (fun _=>Xg (k:=q.toNat) rfl rfl X1k X2l b a6 (by omega) (by omega))<|Ye 11 rfl (X0 rfl X6l (X0d b X0t (Xb (d:=false) (by omega)) 0 rfl))<|Yo 12 rfl (fun _=>X0y rfl)<|Yo 13 rfl (fun _=>Xg (k:=q.toNat) rfl rfl X1k X2l b a6 (by omega) (by omega))<|Y1 14 ?_;refine Yh rfl trivial rfl (X0g (enc:=encB) (l:=x.hd) (vs:=[.bool (!(x.hd.getD q.toNat false))]) (x0:=(x.hd.getD q.toNat false)) (u:=!(x.hd.getD q.toNat false)) (k:=q.toNat) (j:=0) (n1:=1) rfl rfl X2l b X0t rfl rfl rfl rfl (by decide) (Xb (d:=false) (by omega)) rfl) ?_;rintro _ w2 ⟨p,hg⟩;have g:=b;have f:=f.appT g hg rfl;have i:=i.appT g hg rfl;have n:=n.appT g hg rfl;have o:=o.appT g hg rfl;have hW:=tsrow hW hg aD
 clear g hg;clear b;have b:=p;clear p;refine Yd fun a hf=>?_;refine X13 hf (X1n rfl) ?_;exact ⟨A0,c0,BW,eW,m0,hW,aC,⟨f,i,n,b,o.top,a8,aA,aB,(a6.trans List.length_set.symm)⟩⟩
theorem Xou(w0:World)(bV B0:Nat)(A0:Option Addr)(c0:Nat)(A1:Option Addr)(c1:Nat)(A2:Option Addr)(c2:Nat)(BW:Option Addr)(eW m0 n0:Nat)(x:Br)(aG:Drw w0 bV B0 A0 c0 A1 c1 A2 c2 BW eW m0 n0 x)(aH:B0≤w0.heap.size)(k:Int)(p:Int)(q:Int)(hq:0≤q∧q.toNat<n0)(aR:x.d.ns.length≤100000000∧x.d.ws.length≤100000000) : Ret Tryz.prog 137 [.pointer (some ⟨bV,0,none⟩),vi k,vi p,vi q] w0 (fun v w=>∃ A c B e m,TurnS (SB bV [A0,A1,A2]) w0 w∧Us (SB bV [A0,A1,A2]) w0 A∧Drw w bV B0 A c A1 c1 A2 c2 B e m n0 (nodB x k p q)):=by
 obtain ⟨b,I,g,i,G,aI,aJ,a6,a7⟩:=aG;have aP:=b.lt
 subst aJ
 have aB:Us (SB bV [A0,A1,A2]) w0 A0:=SB.us (by simp)
 have aK:Us (SB bV [A0,A1,A2]) w0 A1:=SB.us (by simp)
 have aL:Us (SB bV [A0,A1,A2]) w0 A2:=SB.us (by simp)
 have aS:(x.d.ns++[(⟨k,p⟩ : Nd)]).length=x.d.ns.length+1:=by simp
 refine enter Tryz.func137 rfl 68 rfl rfl ?_;intro a L
 have C:TurnS (SB bV [A0,A1,A2]) w0 w0:=TurnS.refl _ _
 refine Zs L fun _ aM=>?_;refine Zm rfl<|Zm rfl<|Ze (Xw rfl)<|Ze (Vd rfl X0f 0)<|Ze (Vd rfl Xi 1)<|Ze (X0 rfl Xz (b.at 1))<|Zm rfl<|Zm rfl<|Ze (X16 (ps:=[(0,vi k),(1,vi p)]) (cs:=[vi k,vi p]) rfl (fun _=>by first|rfl|kernel_rfl))<|Zf (Xp (k:=1) (vs:=[.agg #[vi k,vi p]]) (zs:=[vi k,vi p]) rfl Xo X1f rfl rfl) ?_;rintro _ w1 ⟨b6,rfl,aC,D,a8⟩;have aQ:=Q0 C.size aC;have M:=I.away aC;have b:=b.below D;have I:=I.below D;have g:=g.below D;have i:=i.below D;have G:=G.below D;have C:=tsbel C D;refine Zf (X0r (enc:=encNd) (l:=(x.d.ns)) (l2:=([(⟨k,p⟩ : Nd)])) (B0:=B0) rfl rfl Xo X1f Xt X2f I (Rd.of_blk a8 rfl _ a8.lt) (by simp only [maxLen];simp;omega) (by simp;omega) (Q0 aH C.size)) ?_;rintro _ w2 ⟨A8,c8,rfl,h,E,aA⟩
 have f:Own _ B0 81 2 encNd _ _ (x.d.ns):=I
 have aF:=aA _ a8.lt M;have aN:=Us.app aB aA C.size;clear aA;have b:=b.appT f E rfl;have g:=g.appT f E rfl;have i:=i.appT f E rfl;have G:=G.appT f E rfl;have C:=tsrow C E aB;clear f E;refine Ze (Xw rfl)<|Ze (Vd rfl X0f 0)<|Ze (Vd rfl Xi 1)<|Zo (X12 (vs:=[.slice A8 (x.d.ns++([(⟨k,p⟩ : Nd)])).length c8]) (l':=[vi x.d.n,.slice A8 (x.d.ns++([(⟨k,p⟩ : Nd)])).length c8,.slice BW x.d.ws.length eW,vi x.d.t,vi x.d.r,.slice A1 n0 c1,.slice A2 n0 c2]) rfl rfl X3i b rfl rfl rfl rfl rfl) ?_;rintro _ w3 ⟨J,hb⟩;have y:=b;have g:=g.onlyT J y rfl;have i:=i.onlyT J y rfl;have G:=G.onlyT J y rfl;have h:=h.onlyT J y rfl;have C:=tsonly C J (.inl (.inl rfl));have b:=hb;refine Zx aM fun a L _ aO=>?_;refine Zm rfl<|Ze (Xw rfl)<|Ze (Vd rfl X0f 0)<|Ze (Vd rfl Xi 1)<|Ze (X0 rfl Xz (b.at 1))<|Ze (X0c rfl Xo)<|Ze (Vx (X1h rfl rfl (by omega) (by omega)) (show _=(x.d.ns.length:Int) from (by omega)))<|Za rfl<|ZX aO fun a L _ aD=>?_;refine X05 none (fun j=>[25].contains j) mixed ?_;intro w4 D;have b:=b.below D;have g:=g.below D;have i:=i.below D;have G:=G.below D;have h:=h.below D;have C:=tsbel C D;refine Yb L<|Yo 0 rfl (fun _=>X3 rfl)<|Yo 1 rfl (fun _=>X3 rfl)<|Yo 2 rfl (fun _=>Xw rfl)<|Yo 3 rfl (fun _=>Vd rfl X0f 0)<|Yo 4 rfl (fun _=>Vd rfl Xm 2)<|Ye 5 rfl (X0 rfl X0j (b.at 2))<|Yo 6 rfl (fun _=>X3 rfl)<|Yo 7 rfl (fun _=>Xw rfl)<|Yo 8 rfl (fun _=>Vd rfl X1q 5)<|Ye 9 rfl (X0 rfl X20 (b.at 5)) ?_;refine Yo 10 rfl (fun _=>X3 rfl)<|Yo 11 rfl (fun _=>Xg (k:=q.toNat) rfl rfl Xj X08 g a6 (by omega) (by omega))<|Ye 12 rfl (X0 rfl X9 (X0d g Xa (Xb (d:=(0:Int)) (by omega)) 0 rfl))<|Yo 13 rfl (fun _=>X3 rfl)<|Yo 14 rfl (fun _=>X3 rfl)<|Yo 15 rfl (fun _=>Xw rfl)<|Yo 16 rfl (fun _=>Vd rfl X26 6)<|Ye 17 rfl (X0 rfl X1x (b.at 6))<|Yo 18 rfl (fun _=>X3 rfl)<|Yo 19 rfl (fun _=>Xg (k:=q.toNat) rfl rfl X1k X2l i a7 (by omega) (by omega)) ?_
 refine Ye 20 rfl (X0 rfl X6l (X0d i X0t (Xb (d:=false) (by omega)) 0 rfl))<|Y1 21 ?_;refine Yk rfl trivial (Vc (X95 _ BW eW x.d.ws G.top (x.la.getD q.toNat 0) (x.d.ns.length:Int) (x.hd.getD q.toNat false) (by omega) aI) X58) (fun _ _ ⟨N,Q,_,o,D⟩=>D) ?_;rintro _ w5 ⟨N,Q,rfl,o,D⟩;have o:=o.lower C.size;have b:=b.below D;have g:=g.below D;have i:=i.below D;have h:=h.below D;have C:=tsbel C D;refine Yo 22 rfl (fun _=>Xw rfl)<|Yo 23 rfl (fun _=>Vd rfl X0f 0)<|Yo 24 rfl (fun _=>Vd rfl Xm 2)<|Y1 25 ?_;refine Yh rfl trivial rfl (X12 (vs:=[.slice N (jnW x.d.ws (x.la.getD q.toNat 0) (x.d.ns.length:Int) (x.hd.getD q.toNat false)).length Q]) (l':=[vi x.d.n,.slice A8 (x.d.ns++([(⟨k,p⟩ : Nd)])).length c8,.slice N (jnW x.d.ws (x.la.getD q.toNat 0) (x.d.ns.length:Int) (x.hd.getD q.toNat false)).length Q,vi x.d.t,vi x.d.r,.slice A1 n0 c1,.slice A2 n0 c2]) rfl rfl X19 b rfl rfl rfl rfl rfl) ?_;rintro _ w6 ⟨J,hb⟩;have y:=b;have g:=g.onlyT J y rfl;have i:=i.onlyT J y rfl;have h:=h.onlyT J y rfl;have o:=o.onlyT J y rfl;have C:=tsonly C J (.inl (.inl rfl));have b:=hb;refine Yd fun a L=>?_;refine aD _ _<|Zs L fun _ aE=>?_;refine Zm rfl<|Ze (Xw rfl)<|Ze (Vd rfl X1q 5)<|Ze (X0 rfl X20 (b.at 5))<|Zm rfl<|Zm rfl<|Ze (Xg (k:=q.toNat) rfl rfl Xj X08 g a6 (by omega) (by omega))<|Zo (X0g (enc:=encI) (l:=x.la) (vs:=[vi (x.d.ns.length:Int)]) (x0:=(x.la.getD q.toNat 0)) (u:=(x.d.ns.length:Int)) (k:=q.toNat) (j:=0) (n1:=1) rfl rfl X08 g Xa rfl rfl rfl rfl (by decide) (Xb (d:=(0:Int)) (by omega)) rfl) ?_;rintro _ w7 ⟨H,E⟩;have f:=g;have b:=b.appT f E rfl;have i:=i.appT f E rfl
 have h:=h.appT f E rfl;have o:=o.appT f E rfl;have C:=tsrow C E aK
 clear f E;clear g;have g:=H;clear H;refine Zt aE fun a L=>?_;refine Zr L<|Zm rfl<|Ze (Xw rfl)<|Ze (Vd rfl X26 6)<|Ze (X0 rfl X1x (b.at 6))<|Zm rfl<|Ze (Xg (k:=q.toNat) rfl rfl X1k X2l i a7 (by omega) (by omega))<|Zo (X0g (enc:=encB) (l:=x.hd) (vs:=[.bool false]) (x0:=(x.hd.getD q.toNat false)) (u:=false) (k:=q.toNat) (j:=0) (n1:=1) rfl rfl X2l i X0t rfl rfl rfl rfl (by decide) (Xb (d:=false) (by omega)) rfl) ?_;rintro _ w8 ⟨H,E⟩;have f:=i;have b:=b.appT f E rfl;have h:=h.appT f E rfl;have o:=o.appT f E rfl;have g:=g.appT f E rfl;have C:=tsrow C E aL
 clear f E;clear i;have i:=H;clear H;refine Zn fun a L=>?_;refine X13 L (X1n rfl) ?_;exact ⟨A8,c8,N,Q,((x.d.ns++([(⟨k,p⟩ : Nd)])).length),C,aN,⟨b,h,g,i,o.rd.top,o.cap,rfl,(a6.trans List.length_set.symm),(a7.trans List.length_set.symm)⟩⟩
theorem Xhv(w0:World)(bV B0:Nat)(A0:Option Addr)(c0:Nat)(A1:Option Addr)(c1:Nat)(A2:Option Addr)(c2:Nat)(BW:Option Addr)(eW m0 n0:Nat)(x:Br)(aP:Drw w0 bV B0 A0 c0 A1 c1 A2 c2 BW eW m0 n0 x)(aQ:B0≤w0.heap.size)(q:Int)(hq:0≤q∧q.toNat<n0)(aR:BrOk n0 x)(b3:x.d.ns.length≤90000000∧x.d.ws.length≤90000000) : Ret Tryz.prog 223 [.pointer (some ⟨bV,0,none⟩),vi q] w0 (fun v w=>∃ A c B e m,v=vi ((plcB x q).la.getD q.toNat 0)∧TurnS (SB bV [A0,A1,A2]) w0 w∧Us (SB bV [A0,A1,A2]) w0 A∧Drw w bV B0 A c A1 c1 A2 c2 B e m n0 (plcB x q)):=by
 obtain ⟨f,l,g,i,y,aD,a6,h,a7⟩:=aP;have b2:=f.lt
 have aE:Us (SB bV [A0,A1,A2]) w0 A0:=SB.us (by simp)
 have aS:Us (SB bV [A0,A1,A2]) w0 A1:=SB.us (by simp)
 have aT:Us (SB bV [A0,A1,A2]) w0 A2:=SB.us (by simp)
 have b4:=aR.at hq;refine enter Tryz.func223 rfl 40 rfl rfl ?_;intro a j
 have u:TurnS (SB bV [A0,A1,A2]) w0 w0:=TurnS.refl _ _
 refine Zs j fun _ aU=>?_;refine Za rfl<|ZX aU fun a j _ aF=>?_;refine Q5 fun _ aW=>?_;refine X09 (fun a w=>Fr a 40 [(0,.pointer (some ⟨bV,0,none⟩)),(1,vi q),(29,.bool ((x.hd.getD q.toNat false)||(((x.d.ns.getD (x.la.getD q.toNat 0).toNat nZ).k) != 3)))]∧Below w0.heap.size w0 w) ?_ ?_
 ·have C:=bz w0
  refine X05 none (fun _=>false) mixed ?_;intro w1 o;have f:=f.below o;have l:=l.below o;have g:=g.below o;have i:=i.below o;have u:=tsbel u o;have C:=btr C o;refine Yb j<|Yo 0 rfl (fun _=>X3 rfl)<|Yo 1 rfl (fun _=>Xw rfl)<|Yo 2 rfl (fun _=>Vd rfl X26 6)<|Ye 3 rfl (X0 rfl X1x (f.at 6))<|Yo 4 rfl (fun _=>X3 rfl)<|Yo 5 rfl (fun _=>Xg (k:=q.toNat) rfl rfl X1k X2l i a7 (by omega) (by omega))<|Ye 6 rfl (X0 rfl X6l (X0d i X0t (Xb (d:=false) (by omega)) 0 rfl))<|Yo 7 rfl (fun _=>X3 rfl) ?_
  refine Yl 12 rfl (fun b=>?_) (fun b=>?_)
  ·refine Yp 8 rfl (gP b) ?_;refine Yp 9 rfl (gP b) ?_;refine Yp 10 rfl (gP b) ?_;refine Yp 11 rfl (gP b) ?_;refine Yp 12 rfl (gP b) ?_;refine Yp 13 rfl (gP b) ?_;refine Yp 14 rfl (gP b) ?_;refine Yp 15 rfl (gP b) ?_;refine Yp 16 rfl (gP b) ?_;refine Yp 17 rfl (gP b) ?_;refine Yp 18 rfl (gP b) ?_;refine Yp 19 rfl (gP b) ?_;refine Yp 20 rfl (gP b) ?_;refine Yp 21 rfl (gP b) ?_;refine Yp 22 rfl (gP b) ?_;refine Yp 23 rfl (gP b) ?_;refine Yo 24 rfl (fun _=>X8 rfl b rfl) ?_;refine Yd fun a j=>?_
   have a8:Below w0.heap.size w0 w1:=C
   exact ⟨j.sub ⟨rfl,rfl,X1 rfl (by first|rfl|(simp only [b,bs];done)|simp [b]),trivial⟩,a8⟩
  refine Yu 8 rfl (gW b) (fun _=>X3 rfl) ?_;refine Yu 9 rfl (gW b) (fun _=>Xw rfl) ?_;refine Yu 10 rfl (gW b) (fun _=>Vd rfl X0f 0) ?_;refine Yu 11 rfl (gW b) (fun _=>Vd rfl Xi 1) ?_;refine Yv 12 rfl (gW b) (X0 rfl Xz (f.at 1)) ?_;refine Yu 13 rfl (gW b) (fun _=>X3 rfl) ?_;refine Yu 14 rfl (gW b) (fun _=>Xw rfl) ?_;refine Yu 15 rfl (gW b) (fun _=>Vd rfl X1q 5) ?_;refine Yv 16 rfl (gW b) (X0 rfl X20 (f.at 5)) ?_;refine Yu 17 rfl (gW b) (fun _=>X3 rfl) ?_;refine Yu 18 rfl (gW b) (fun _=>Xg (k:=q.toNat) rfl rfl Xj X08 g h (by omega) (by omega)) ?_;refine Yv 19 rfl (gW b) (X0 rfl X9 (X0d g Xa (Xb (d:=(0:Int)) (by omega)) 0 rfl)) ?_;refine Yu 20 rfl (gW b) (fun _=>Xg (k:=(x.la.getD q.toNat 0).toNat) rfl rfl Xo X07 l a6 (by omega) (by omega)) ?_;refine Yu 21 rfl (gW b) (fun _=>X0z rfl X10 (m':=(x.la.getD q.toNat 0).toNat*2+0) rfl) ?_;refine Yv 22 rfl (gW b) (X0 rfl X9 (X0d l Xt (Xb (d:=nZ) (by omega)) 0 rfl)) ?_;refine Yu 23 rfl (gW b) (fun _=>X18 rfl rfl) ?_;refine Yo 24 rfl (fun _=>Xe rfl b rfl) ?_;refine Yd fun a j=>?_
  have a8:Below w0.heap.size w0 w1:=C
  exact ⟨j.sub ⟨rfl,rfl,X1 rfl (by first|rfl|(simp only [b,bs];done)|simp [b]),trivial⟩,a8⟩
 rintro a w2 ⟨j,o⟩;have f:=f.below o;have l:=l.below o;have g:=g.below o;have i:=i.below o;have y:=y.below o;have u:=tsbel u o;refine aW _ _ ?_
 refine Xh j rfl (fun p=>?_) (fun p=>?_)
 ·have aG:=p;have aA:=Xn7 p;refine Zr j<|Zm rfl<|Zm rfl<|Zf (Vc (Xou _ bV B0 A0 c0 A1 c1 A2 c2 BW eW m0 n0 x ⟨f,l,g,i,y.top,aD,a6,h,a7⟩ (Q0 aQ u.size) 3 0 q hq (by omega)) Xdq) ?_;rintro _ w3 ⟨aX,aY,aZ,b0,b1,aH,n,aI,aJ,D,E,aK,aL,aM,t,aB⟩;have aC:=SB.lift (S:=SB bV [A0,A1,A2]) (w0:=w0) (.inl (.inl rfl)) (alc aE (alc aS (alc aT al0)));have n:=Us.trans n aC u.size
  have u:=tstr u aH aC;clear aC
  clear aH f;have f:=aI;clear aI
  clear g;have g:=D;clear D
  clear i;have i:=E;clear E;refine Zx aF fun a j _ aN=>?_;refine Zm rfl<|Ze (Xw rfl)<|Ze (Vd rfl X1q 5)<|Ze (X0 rfl X20 (f.at 5))<|Zm rfl<|Ze (Xg (k:=q.toNat) rfl rfl Xj X08 g t (by omega) (by omega))<|Ze (X0 rfl X9 (X0d g Xa (Xb (d:=(0:Int)) (by omega)) 0 rfl))<|Za rfl<|Zt aN fun a j=>?_
  refine Q6 (X5 j (Xr j rfl rfl) ?_)
  rw [aA]
  exact ⟨aX,aY,aZ,b0,b1,rfl,u,n,⟨f,aJ,g,i,aK.top,aL,aM,t,aB⟩⟩
 have aG:=p;have aA:=Xnf p;refine Q7<|aF _ _<|Zs j fun _ aO=>?_;refine Zm rfl<|Ze (Xw rfl)<|Ze (Vd rfl X1q 5)<|Ze (X0 rfl X20 (f.at 5))<|Zm rfl<|Ze (Xg (k:=q.toNat) rfl rfl Xj X08 g h (by omega) (by omega))<|Ze (X0 rfl X9 (X0d g Xa (Xb (d:=(0:Int)) (by omega)) 0 rfl))<|Za rfl<|Zt aO fun a j=>?_
 refine Q6 (X5 j (Xr j rfl rfl) ?_)
 rw [aA]
 exact ⟨A0,c0,BW,eW,m0,rfl,u,aE,⟨f,l,g,i,y.top,aD,a6,h,a7⟩⟩
theorem Xdl(w0:World)(bV B0:Nat)(A0:Option Addr)(c0:Nat)(A1:Option Addr)(c1:Nat)(A2:Option Addr)(c2:Nat)(BW:Option Addr)(eW m0 n0:Nat)(x:Br)(aE:Drw w0 bV B0 A0 c0 A1 c1 A2 c2 BW eW m0 n0 x)(aF:B0≤w0.heap.size)(q:Int)(f:Int)(hq:0≤q∧q.toNat<n0)(a8:BrOk n0 x)(aS:x.d.ns.length≤80000000∧x.d.ws.length≤80000000)(aT:0≤f∧f≤900) : Ret Tryz.prog 189 [.pointer (some ⟨bV,0,none⟩),vi q,vi f] w0 (fun v w=>∃ A c B e m,TurnS (SB bV [A0,A1,A2]) w0 w∧Us (SB bV [A0,A1,A2]) w0 A∧Drw w bV B0 A c A1 c1 A2 c2 B e m n0 (trnB x q f)):=by
 obtain ⟨b,aG,i,n,aH,aI,aJ,aK,aL⟩:=aE;have aR:=b.lt
 have aM:Us (SB bV [A0,A1,A2]) w0 A0:=SB.us (by simp)
 have aN:Us (SB bV [A0,A1,A2]) w0 A1:=SB.us (by simp)
 have aO:Us (SB bV [A0,A1,A2]) w0 A2:=SB.us (by simp)
 have C:=X31 a8 q;have aU:=C.at hq;have aW:=X2t x q;have aX:=X1i C.p ((plcB x q).la.getD q.toNat 0).toNat;refine enter Tryz.func189 rfl 30 rfl rfl ?_;intro a hf
 have h:TurnS (SB bV [A0,A1,A2]) w0 w0:=TurnS.refl _ _
 refine Zs hf fun _ aP=>?_;refine Zm rfl<|Zm rfl<|Zf (Vc (Xhv _ bV B0 A0 c0 A1 c1 A2 c2 BW eW m0 n0 x ⟨b,aG,i,n,aH.top,aI,aJ,aK,aL⟩ (Q0 aF h.size) q hq a8 (by omega)) X9h) ?_;rintro _ w1 ⟨A6,c6,A7,c7,m6,rfl,aA,t,aB,g,D,E,y,aQ,a6,aC,aD⟩;have a7:=SB.lift (S:=SB bV [A0,A1,A2]) (w0:=w0) (.inl (.inl rfl)) (alc aM (alc aN (alc aO al0)));have t:=Us.trans t a7 h.size
 have h:=tstr h aA a7;clear a7
 clear aA b;have b:=aB;clear aB
 clear i;have i:=D;clear D
 clear n;have n:=E;clear E;refine Za rfl<|Zt aP fun a hf=>?_;refine X05 none (fun j=>[20].contains j) mixed ?_;intro w2 hE;have b:=b.below hE;have i:=i.below hE;have n:=n.below hE;have g:=g.below hE;have y:=y.below hE;have h:=tsbel h hE;refine Yb hf<|Yo 0 rfl (fun _=>X3 rfl)<|Yo 1 rfl (fun _=>Xw rfl)<|Yo 2 rfl (fun _=>Vd rfl X0f 0)<|Yo 3 rfl (fun _=>Vd rfl Xi 1)<|Ye 4 rfl (X0 rfl Xz (b.at 1))<|Yo 5 rfl (fun _=>X3 rfl)<|Yo 6 rfl (fun _=>X3 rfl)<|Yo 7 rfl (fun _=>Xw rfl)<|Yo 8 rfl (fun _=>Vd rfl X0f 0)<|Yo 9 rfl (fun _=>Vd rfl Xi 1) ?_;refine Ye 10 rfl (X0 rfl Xz (b.at 1))<|Yo 11 rfl (fun _=>X3 rfl)<|Yo 12 rfl (fun _=>Xg (k:=((plcB x q).la.getD q.toNat 0).toNat) rfl rfl Xo X07 g a6 (by omega) (by omega))<|Yo 13 rfl (fun _=>X0z rfl X04 (m':=((plcB x q).la.getD q.toNat 0).toNat*2+1) rfl)<|Ye 14 rfl (X0 rfl X9 (X0d g Xt (Xb (d:=nZ) (by omega)) 1 rfl))<|Yo 15 rfl (fun _=>X3 rfl)<|Yo 16 rfl (fun _=>Xu rfl rfl (by omega) (by omega))<|Yo 17 rfl (fun _=>Vx (X3y rfl rfl rfl) (tm8 (by omega)))<|Yo 18 rfl (fun _=>Xg (k:=((plcB x q).la.getD q.toNat 0).toNat) rfl rfl Xo X07 g a6 (by omega) (by omega))<|Yo 19 rfl (fun _=>X0z rfl X04 (m':=((plcB x q).la.getD q.toNat 0).toNat*2+1) rfl) ?_;refine Y1 20<|Yh rfl trivial rfl (X0g (enc:=encNd) (l:=(plcB x q).d.ns) (vs:=[vi ((((plcB x q).d.ns.getD ((plcB x q).la.getD q.toNat 0).toNat nZ).p+f) % 8)]) (x0:=((plcB x q).d.ns.getD ((plcB x q).la.getD q.toNat 0).toNat nZ)) (u:=(⟨((plcB x q).d.ns.getD ((plcB x q).la.getD q.toNat 0).toNat nZ).k,((((plcB x q).d.ns.getD ((plcB x q).la.getD q.toNat 0).toNat nZ).p+f) % 8)⟩ : Nd)) (k:=((plcB x q).la.getD q.toNat 0).toNat) (j:=1) (n1:=1) rfl rfl X08 g Xt rfl rfl rfl rfl (by decide) (Xb (d:=nZ) (by omega)) rfl) ?_;rintro _ w3 ⟨G,hg⟩
 have o:=g;have b:=b.appT o hg rfl;have i:=i.appT o hg rfl;have n:=n.appT o hg rfl;have y:=y.appT o hg rfl;have h:=tsrow h hg t
 clear o hg;clear g;have g:=G;clear G;refine Yd fun a hf=>?_;refine X13 hf (X1n rfl) ?_;exact ⟨A6,c6,A7,c7,m6,h,t,⟨b,g,i,n,y.top,aQ,(a6.trans List.length_set.symm),aC,aD⟩⟩
theorem Xnz(w0:World)(bV B0:Nat)(A0:Option Addr)(c0:Nat)(A1:Option Addr)(c1:Nat)(A2:Option Addr)(c2:Nat)(BW:Option Addr)(eW m0 H:Nat)(x:Br)(aU:Drw w0 bV B0 A0 c0 A1 c1 A2 c2 BW eW m0 H x)(aG:B0≤w0.heap.size)(p:Int)(q:Int)(hp:0≤p∧p.toNat<H)(hq:0≤q∧q.toNat<H)(aH:BrOk H x)(bD:x.d.ns.length≤80000000∧x.d.ws.length≤80000000) : Ret Tryz.prog 190 [.pointer (some ⟨bV,0,none⟩),vi p,vi q] w0 (fun v w=>∃ A c B e m,TurnS (SB bV [A0,A1,A2]) w0 w∧Us (SB bV [A0,A1,A2]) w0 A∧Drw w bV B0 A c A1 c1 A2 c2 B e m H (czB x p q)):=by
 obtain ⟨b,aW,g,i,aX,aY,aZ,b0,b1⟩:=aU;have b9:=b.lt
 have b2:Us (SB bV [A0,A1,A2]) w0 A0:=SB.us (by simp)
 have aI:Us (SB bV [A0,A1,A2]) w0 A1:=SB.us (by simp)
 have aJ:Us (SB bV [A0,A1,A2]) w0 A2:=SB.us (by simp)
 have a7:=X31 aH p;have bA:=X2t x p;have bB:=X31 a7 q;have bC:=X2t (plcB x p) q;have aK:=X6x (plcB (plcB x p) q).d.ws ((plcB x p).la.getD p.toNat 0) ((plcB (plcB x p) q).la.getD q.toNat 0);refine enter Tryz.func190 rfl 66 rfl rfl ?_;intro a G
 have l:TurnS (SB bV [A0,A1,A2]) w0 w0:=TurnS.refl _ _
 refine Zs G fun _ b3=>?_;refine Zm rfl<|Zm rfl<|Zf (Vc (Xhv _ bV B0 A0 c0 A1 c1 A2 c2 BW eW m0 H x ⟨b,aW,g,i,aX.top,aY,aZ,b0,b1⟩ (Q0 aG l.size) p hp aH (by omega)) X9h) ?_;rintro _ w1 ⟨A6,c6,A7,c7,m6,rfl,L,M,N,b4,C,D,b5,b6,b7,aL,aM⟩;have I:=SB.lift (S:=SB bV [A0,A1,A2]) (w0:=w0) (.inl (.inl rfl)) (alc b2 (alc aI (alc aJ al0)));have M:=Us.trans M I l.size
 have l:=tstr l L I;clear I
 clear L b;have b:=N;clear N
 clear g;have g:=C;clear C
 clear i;have i:=D;clear D;refine Za rfl<|Zx b3 fun a G _ b8=>?_;refine Zm rfl<|Zm rfl<|Zf (Vc (Xhv _ bV B0 A6 c6 A1 c1 A2 c2 A7 c7 m6 H (plcB x p) ⟨b,b4,g,i,b5.top,b6,b7,aL,aM⟩ (Q0 aG l.size) q hq a7 (by omega)) X9h) ?_;rintro _ w2 ⟨A9,c9,aC,aD,m9,rfl,L,J,N,j,C,D,E,a8,aN,aA,aB⟩;have I:=SB.lift (S:=SB bV [A0,A1,A2]) (w0:=w0) (.inl (.inl rfl)) (alc M (alc aI (alc aJ al0)));have J:=Us.trans J I l.size
 have l:=tstr l L I;clear I
 clear L b;have b:=N;clear N
 clear g;have g:=C;clear C
 clear i;have i:=D;clear D;refine Za rfl<|ZX b8 fun a G _ aO=>?_;refine Zs G fun _ aP=>?_;refine Zm rfl<|Ze (Xw rfl)<|Ze (Vd rfl X0f 0)<|Ze (Vd rfl Xm 2)<|Ze (X0 rfl X0j (b.at 2))<|Zm rfl<|Zm rfl<|Zf (Vc (Xek _ aC aD ((plcB (plcB x p) q).d.ws) E.top ((plcB x p).la.getD p.toNat 0) ((plcB (plcB x p) q).la.getD q.toNat 0) (by omega)) X72) ?_;rintro _ w3 ⟨rfl,h⟩;have b:=b.below h;have g:=g.below h;have i:=i.below h;have j:=j.below h;have E:=E.below h;have l:=tsbel l h;refine Za rfl<|Zx aP fun a G _ aQ=>?_;refine Zm rfl<|Ze (X4m rfl rfl)<|Zt aQ fun a G=>?_
 refine Xh G rfl (fun k=>?_) (fun k=>?_)
 ·have aE:=k;have k:=Q2 k;have aF:=Xtd k;refine Zs G fun _ aR=>?_;refine Zm rfl<|Zm rfl<|Ze (Xw rfl)<|Ze (Vd rfl X0f 0)<|Ze (Vd rfl Xm 2)<|Ze (X0 rfl X0j (b.at 2))<|Zm rfl<|Zf (Vc (Xev _ aC aD ((plcB (plcB x p) q).d.ws) E.top (fdW ((plcB (plcB x p) q).d.ws) ((plcB x p).la.getD p.toNat 0) ((plcB (plcB x p) q).la.getD q.toNat 0)) (by omega) a8 ⟨by omega,aK⟩) X7d) ?_;rintro _ w4 ⟨Q,U,rfl,o,h⟩;have o:=o.lower l.size;have b:=b.below h;have g:=g.below h;have i:=i.below h;have j:=j.below h;have l:=tsbel l h;refine Ze (Xw rfl)<|Ze (Vd rfl X0f 0)<|Ze (Vd rfl Xm 2)<|Zo (X12 (vs:=[.slice Q (ctW ((plcB (plcB x p) q).d.ws) (fdW ((plcB (plcB x p) q).d.ws) ((plcB x p).la.getD p.toNat 0) ((plcB (plcB x p) q).la.getD q.toNat 0)).toNat).length U]) (l':=[vi ((plcB (plcB x p) q).d.n),.slice A9 m9 c9,.slice Q (ctW ((plcB (plcB x p) q).d.ws) (fdW ((plcB (plcB x p) q).d.ws) ((plcB x p).la.getD p.toNat 0) ((plcB (plcB x p) q).la.getD q.toNat 0)).toNat).length U,vi ((plcB (plcB x p) q).d.t),vi ((plcB (plcB x p) q).d.r),.slice A1 H c1,.slice A2 H c2]) rfl rfl X19 b rfl rfl rfl rfl rfl) ?_;rintro _ w5 ⟨y,hb⟩;have f:=b;have g:=g.onlyT y f rfl;have i:=i.onlyT y f rfl;have j:=j.onlyT y f rfl;have o:=o.onlyT y f rfl;have l:=tsonly l y (.inl (.inl rfl));have b:=hb;refine Zx aR fun a G _ aS=>?_;refine Zm rfl<|Ze (Xw rfl)<|Ze (Vd rfl X0f 0)<|Ze (Vd rfl Xy 4)<|Ze (X0 rfl X9 (b.at 4))<|Ze (Xb5 rfl rfl)<|Ze (Xw rfl)<|Ze (Vd rfl X0f 0)<|Ze (Vd rfl Xy 4)<|Zo (X12 (vs:=[vi (wr (((plcB (plcB x p) q).d.r)-1))]) (l':=[vi ((plcB (plcB x p) q).d.n),.slice A9 m9 c9,.slice Q (ctW ((plcB (plcB x p) q).d.ws) (fdW ((plcB (plcB x p) q).d.ws) ((plcB x p).la.getD p.toNat 0) ((plcB (plcB x p) q).la.getD q.toNat 0)).toNat).length U,vi ((plcB (plcB x p) q).d.t),vi (wr (((plcB (plcB x p) q).d.r)-1)),.slice A1 H c1,.slice A2 H c2]) rfl rfl X08 b rfl rfl rfl rfl rfl) ?_;rintro _ w6 ⟨y,hb⟩
  have f:=b;have g:=g.onlyT y f rfl;have i:=i.onlyT y f rfl;have j:=j.onlyT y f rfl;have o:=o.onlyT y f rfl;have l:=tsonly l y (.inl (.inl rfl));have b:=hb;refine Zt aS fun a G=>?_;refine Q6<|X7<|X5 G (X1n rfl) ?_
  rw [aF]
  exact ⟨A9,c9,Q,U,m9,l,J,⟨b,j,g,i,o.rd.top,o.cap,aN,aA,aB⟩⟩
 have aE:=k;have k:=Q1 k;have aF:=Xro k;refine Q7<|aO _ _<|Zs G fun _ aT=>?_;refine Zm rfl<|Zm rfl<|Ze (Xw rfl)<|Ze (Vd rfl X0f 0)<|Ze (Vd rfl Xm 2)<|Ze (X0 rfl X0j (b.at 2))<|Zm rfl<|Zm rfl<|Zf (Vc (X95 _ aC aD ((plcB (plcB x p) q).d.ws) E.top ((plcB x p).la.getD p.toNat 0) ((plcB (plcB x p) q).la.getD q.toNat 0) true (by omega) a8) X58) ?_;rintro _ w7 ⟨W,a6,rfl,u,h⟩;have u:=u.lower l.size;have b:=b.below h;have g:=g.below h;have i:=i.below h;have j:=j.below h;have l:=tsbel l h;refine Ze (Xw rfl)<|Ze (Vd rfl X0f 0)<|Ze (Vd rfl Xm 2)<|Zo (X12 (vs:=[.slice W (jnW ((plcB (plcB x p) q).d.ws) ((plcB x p).la.getD p.toNat 0) ((plcB (plcB x p) q).la.getD q.toNat 0) true).length a6]) (l':=[vi ((plcB (plcB x p) q).d.n),.slice A9 m9 c9,.slice W (jnW ((plcB (plcB x p) q).d.ws) ((plcB x p).la.getD p.toNat 0) ((plcB (plcB x p) q).la.getD q.toNat 0) true).length a6,vi ((plcB (plcB x p) q).d.t),vi ((plcB (plcB x p) q).d.r),.slice A1 H c1,.slice A2 H c2]) rfl rfl X19 b rfl rfl rfl rfl rfl) ?_;rintro _ w8 ⟨y,hb⟩;have f:=b;have g:=g.onlyT y f rfl;have i:=i.onlyT y f rfl;have j:=j.onlyT y f rfl;have u:=u.onlyT y f rfl;have l:=tsonly l y (.inl (.inl rfl));have b:=hb;refine Zt aT fun a G=>?_;refine Zr G<|Zm rfl<|Ze (Xw rfl)<|Ze (Vd rfl X0f 0)<|Ze (Vd rfl Xy 4)<|Ze (X0 rfl X9 (b.at 4))<|Ze (X3u rfl rfl)<|Ze (Xw rfl)<|Ze (Vd rfl X0f 0)<|Ze (Vd rfl Xy 4)<|Zo (X12 (vs:=[vi (wr (((plcB (plcB x p) q).d.r)+1))]) (l':=[vi ((plcB (plcB x p) q).d.n),.slice A9 m9 c9,.slice W (jnW ((plcB (plcB x p) q).d.ws) ((plcB x p).la.getD p.toNat 0) ((plcB (plcB x p) q).la.getD q.toNat 0) true).length a6,vi ((plcB (plcB x p) q).d.t),vi (wr (((plcB (plcB x p) q).d.r)+1)),.slice A1 H c1,.slice A2 H c2]) rfl rfl X08 b rfl rfl rfl rfl rfl) ?_;rintro _ w9 ⟨y,hb⟩
 have f:=b;have g:=g.onlyT y f rfl;have i:=i.onlyT y f rfl;have j:=j.onlyT y f rfl;have u:=u.onlyT y f rfl;have l:=tsonly l y (.inl (.inl rfl));have b:=hb;refine Zn fun a G=>?_;refine X13 G (X1n rfl) ?_
 rw [aF]
 exact ⟨A9,c9,W,a6,m9,l,J,⟨b,j,g,i,u.rd.top,u.cap,aN,aA,aB⟩⟩
theorem Xsj(w0:World)(bV B0:Nat)(A0:Option Addr)(c0:Nat)(A1:Option Addr)(c1:Nat)(A2:Option Addr)(c2:Nat)(BW:Option Addr)(eW m0 n0:Nat)(x:Br)(fJ:Drw w0 bV B0 A0 c0 A1 c1 A2 c2 BW eW m0 n0 x)(a8:B0≤w0.heap.size)(g:Gt)(aD:BrOk n0 x)(iS:x.d.ns.length≤70000000∧x.d.ws.length≤70000000)(Q:gOk (n0:Int) g=true) : Ret Tryz.prog 136 [.pointer (some ⟨bV,0,none⟩),.agg #[vi g.k,vi g.a,vi g.b]] w0 (fun v w=>∃ A c B e m,TurnS (SB bV [A0,A1,A2]) w0 w∧Us (SB bV [A0,A1,A2]) w0 A∧Drw w bV B0 A c A1 c1 A2 c2 B e m n0 (gtB x g)):=by
 obtain ⟨i,G,o,p,J,aE,aF,aA,aB⟩:=fJ;have iN:=i.lt
 have aG:Us (SB bV [A0,A1,A2]) w0 A0:=SB.us (by simp)
 have U:Us (SB bV [A0,A1,A2]) w0 A1:=SB.us (by simp)
 have W:Us (SB bV [A0,A1,A2]) w0 A2:=SB.us (by simp)
 have aC:=Xbc Q;have b5:=Xb9 Q;have iT:=Xaw Q
 have b1:x.d.ns.length≤80000000∧x.d.ws.length≤80000000:=by omega
 have o1:=X4s aD g.a 4
 have l1:=X52 x g.a 4
 have iO:=aD.la;have iP:=aD.hd;refine enter Tryz.func136 rfl 164 rfl rfl ?_;intro a L
 have E:TurnS (SB bV [A0,A1,A2]) w0 w0:=TurnS.refl _ _
 refine Zs L fun _ fK=>?_;refine Zf (X0h (zs:=[vi g.k,vi g.a,vi g.b]) rfl rfl) ?_;rintro _ w1 ⟨b6,rfl,fL,M,f⟩;have iQ:=Q0 E.size fL;have i:=i.below M;have G:=G.below M;have o:=o.below M;have p:=p.below M;have J:=J.below M;have E:=tsbel E M;refine Zx fK fun a L _ fM=>?_;refine Ze (Vd rfl X1d 0)<|Ze (X0 rfl X9 (f.at 0))<|Zt fM fun a L=>?_;refine Q8<|Zs L fun _ fN=>?_;refine Ze (X0a rfl rfl)<|Za rfl<|Zt fN fun a L=>?_
 refine Xh L rfl (fun b2=>?_) (fun b2=>?_)
 ·have cT:=b2;have a6:=Xu4 (x:=x) b2;refine Zr L<|Zm rfl<|Ze (Vd rfl X06 1)<|Ze (X0 rfl X9 (f.at 1))<|Zf (Vc (X7s _ bV B0 A0 c0 A1 c1 A2 c2 BW eW m0 n0 x ⟨i,G,o,p,J.top,aE,aF,aA,aB⟩ (Q0 a8 E.size) g.a aC) X4c) ?_;rintro _ w2 ⟨fO,fP,fQ,fR,fS,C,aN,I,cU,q,y,cV,cW,cX,bH,bJ⟩;have f:=f.tu C i rfl (alc (nrow G f rfl) (alc (nrow o f rfl) (alc (nrow p f rfl) al0)));have D:=SB.lift (S:=SB bV [A0,A1,A2]) (w0:=w0) (.inl (.inl rfl)) (alc aG (alc U (alc W al0)));have aN:=Us.trans aN D E.size
  have E:=tstr E C D;clear D
  clear C i;have i:=I;clear I
  clear o;have o:=q;clear q
  clear p;have p:=y;clear y;refine Zn fun a L=>?_;refine Xd<|X13 L (X1n rfl) ?_
  rw [a6]
  exact ⟨fO,fP,fQ,fR,fS,E,aN,⟨i,cU,o,p,cV.top,cW,cX,bH,bJ⟩⟩
 have cT:=b2
 have g1:=b2
 refine Zs L fun _ cY=>?_;refine Ze (X0a rfl rfl)<|Za rfl<|Zt cY fun a L=>?_
 refine Xh L rfl (fun aH=>?_) (fun aH=>?_)
 ·have bK:=aH;have a6:=Xrq (x:=x) g1 aH;refine Zs L fun _ d5=>?_;refine Zm rfl<|Ze (Vd rfl X06 1)<|Ze (X0 rfl X9 (f.at 1))<|Zf (Vc (X7s _ bV B0 A0 c0 A1 c1 A2 c2 BW eW m0 n0 x ⟨i,G,o,p,J.top,aE,aF,aA,aB⟩ (Q0 a8 E.size) g.a aC) X4c) ?_;rintro _ w3 ⟨fT,fU,fV,fW,fX,C,aO,I,b8,q,y,d6,d7,d8,bL,bM⟩;have f:=f.tu C i rfl (alc (nrow G f rfl) (alc (nrow o f rfl) (alc (nrow p f rfl) al0)));have D:=SB.lift (S:=SB bV [A0,A1,A2]) (w0:=w0) (.inl (.inl rfl)) (alc aG (alc U (alc W al0)));have aO:=Us.trans aO D E.size
  have E:=tstr E C D;clear D
  clear C i;have i:=I;clear I
  clear o;have o:=q;clear q
  clear p;have p:=y;clear y;refine Zx d5 fun a L _ d9=>?_;refine Zm rfl<|Ze (Vd rfl X06 1)<|Ze (X0 rfl X9 (f.at 1))<|Zf (Vc (Xdl _ bV B0 fT fU A1 c1 A2 c2 fV fW fX n0 (flpB x g.a) ⟨i,b8,o,p,d6.top,d7,d8,bL,bM⟩ (Q0 a8 E.size) g.a 4 aC (X1v aD g.a) b1 ⟨by decide,by decide⟩) X7b) ?_;rintro _ w4 ⟨fY,fZ,g5,g6,g7,C,aP,I,b9,q,y,dB,dC,dD,bN,bO⟩;have f:=f.tu C i rfl (alc (nrow b8 f rfl) (alc (nrow o f rfl) (alc (nrow p f rfl) al0)));have D:=SB.lift (S:=SB bV [A0,A1,A2]) (w0:=w0) (.inl (.inl rfl)) (alc aO (alc U (alc W al0)));have aP:=Us.trans aP D E.size
  have E:=tstr E C D;clear D
  clear C i;have i:=I;clear I
  clear o;have o:=q;clear q
  clear p;have p:=y;clear y;refine Zt d9 fun a L=>?_;refine Zr L<|Zm rfl<|Ze (Vd rfl X06 1)<|Ze (X0 rfl X9 (f.at 1))<|Zf (Vc (X7s _ bV B0 fY fZ A1 c1 A2 c2 g5 g6 g7 n0 (trnB (flpB x g.a) g.a 4) ⟨i,b9,o,p,dB.top,dC,dD,bN,bO⟩ (Q0 a8 E.size) g.a aC) X4c) ?_;rintro _ w5 ⟨g8,gA,gB,gC,gD,C,aQ,I,dE,q,y,dF,dG,dH,bP,bR⟩;have f:=f.tu C i rfl (alc (nrow b9 f rfl) (alc (nrow o f rfl) (alc (nrow p f rfl) al0)));have D:=SB.lift (S:=SB bV [A0,A1,A2]) (w0:=w0) (.inl (.inl rfl)) (alc aP (alc U (alc W al0)));have aQ:=Us.trans aQ D E.size
  have E:=tstr E C D;clear D
  clear C i;have i:=I;clear I
  clear o;have o:=q;clear q
  clear p;have p:=y;clear y;refine Zn fun a L=>?_;refine Xd<|X13 L (X1n rfl) ?_
  rw [a6]
  exact ⟨g8,gA,gB,gC,gD,E,aQ,⟨i,dE,o,p,dF.top,dG,dH,bP,bR⟩⟩
 have bK:=aH
 have g2:=aH
 refine Zs L fun _ dI=>?_;refine Ze (X0a rfl rfl)<|Za rfl<|Zt dI fun a L=>?_
 refine Xh L rfl (fun aI=>?_) (fun aI=>?_)
 ·have bS:=aI;have a6:=Xu0 (x:=x) g1 g2 aI;refine Zs L fun _ dJ=>?_;refine Zm rfl<|Ze (Vd rfl X06 1)<|Ze (X0 rfl X9 (f.at 1))<|Zf (Vc (Xdl _ bV B0 A0 c0 A1 c1 A2 c2 BW eW m0 n0 x ⟨i,G,o,p,J.top,aE,aF,aA,aB⟩ (Q0 a8 E.size) g.a 4 aC aD b1 ⟨by decide,by decide⟩) X7b) ?_;rintro _ w6 ⟨gE,gF,gG,gH,gI,C,aR,I,bA,q,y,dK,dL,dM,bT,bU⟩;have f:=f.tu C i rfl (alc (nrow G f rfl) (alc (nrow o f rfl) (alc (nrow p f rfl) al0)));have D:=SB.lift (S:=SB bV [A0,A1,A2]) (w0:=w0) (.inl (.inl rfl)) (alc aG (alc U (alc W al0)));have aR:=Us.trans aR D E.size
  have E:=tstr E C D;clear D
  clear C i;have i:=I;clear I
  clear o;have o:=q;clear q
  clear p;have p:=y;clear y;refine Zx dJ fun a L _ dN=>?_;refine Zm rfl<|Ze (Vd rfl X06 1)<|Ze (X0 rfl X9 (f.at 1))<|Zf (Vc (X7s _ bV B0 gE gF A1 c1 A2 c2 gG gH gI n0 (trnB x g.a 4) ⟨i,bA,o,p,dK.top,dL,dM,bT,bU⟩ (Q0 a8 E.size) g.a aC) X4c) ?_;rintro _ w7 ⟨gJ,gK,gL,gM,gN,C,aS,I,bB,q,y,dO,dP,dQ,bW,bX⟩;have f:=f.tu C i rfl (alc (nrow bA f rfl) (alc (nrow o f rfl) (alc (nrow p f rfl) al0)));have D:=SB.lift (S:=SB bV [A0,A1,A2]) (w0:=w0) (.inl (.inl rfl)) (alc aR (alc U (alc W al0)));have aS:=Us.trans aS D E.size
  have E:=tstr E C D;clear D
  clear C i;have i:=I;clear I
  clear o;have o:=q;clear q
  clear p;have p:=y;clear y;refine Zx dN fun a L _ dR=>?_;refine Zm rfl<|Ze (Vd rfl X06 1)<|Ze (X0 rfl X9 (f.at 1))<|Zf (Vc (Xdl _ bV B0 gJ gK A1 c1 A2 c2 gL gM gN n0 (flpB (trnB x g.a 4) g.a) ⟨i,bB,o,p,dO.top,dP,dQ,bW,bX⟩ (Q0 a8 E.size) g.a 4 aC (X1v o1 g.a) (show (trnB x g.a 4).d.ns.length≤_∧(trnB x g.a 4).d.ws.length≤_ by omega) ⟨by decide,by decide⟩) X7b) ?_;rintro _ w8 ⟨gO,gQ,gR,gS,gT,C,aT,I,bC,q,y,dS,dU,dW,bY,c4⟩;have f:=f.tu C i rfl (alc (nrow bB f rfl) (alc (nrow o f rfl) (alc (nrow p f rfl) al0)));have D:=SB.lift (S:=SB bV [A0,A1,A2]) (w0:=w0) (.inl (.inl rfl)) (alc aS (alc U (alc W al0)));have aT:=Us.trans aT D E.size
  have E:=tstr E C D;clear D
  clear C i;have i:=I;clear I
  clear o;have o:=q;clear q
  clear p;have p:=y;clear y;refine Zx dR fun a L _ dX=>?_;refine Zm rfl<|Ze (Vd rfl X06 1)<|Ze (X0 rfl X9 (f.at 1))<|Zf (Vc (X7s _ bV B0 gO gQ A1 c1 A2 c2 gR gS gT n0 (trnB (flpB (trnB x g.a 4) g.a) g.a 4) ⟨i,bC,o,p,dS.top,dU,dW,bY,c4⟩ (Q0 a8 E.size) g.a aC) X4c) ?_;rintro _ w9 ⟨dY,e8,eA,eB,eC,C,aU,I,b3,q,y,b4,eD,eE,cA,cB⟩;have f:=f.tu C i rfl (alc (nrow bC f rfl) (alc (nrow o f rfl) (alc (nrow p f rfl) al0)));have D:=SB.lift (S:=SB bV [A0,A1,A2]) (w0:=w0) (.inl (.inl rfl)) (alc aT (alc U (alc W al0)));have aU:=Us.trans aU D E.size
  have E:=tstr E C D;clear D
  clear C i;have i:=I;clear I
  clear o;have o:=q;clear q
  clear p;have p:=y;clear y;refine Zt dX fun a L=>?_;refine Zr L<|Zm rfl<|Ze (Xw rfl)<|Ze (Vd rfl X0f 0)<|Ze (Vd rfl X0q 3)<|Ze (X0 rfl X9 (i.at 3))<|Ze (X3u rfl rfl)<|Ze (Xw rfl)<|Ze (Vd rfl X0f 0)<|Ze (Vd rfl X0q 3)<|Zo (X12 (vs:=[vi (wr (((flpB (trnB (flpB (trnB x g.a 4) g.a) g.a 4) g.a).d.t)+2))]) (l':=[vi ((flpB (trnB (flpB (trnB x g.a 4) g.a) g.a 4) g.a).d.n),.slice dY eC e8,.slice eA ((flpB (trnB (flpB (trnB x g.a 4) g.a) g.a 4) g.a).d.ws).length eB,vi (wr (((flpB (trnB (flpB (trnB x g.a 4) g.a) g.a 4) g.a).d.t)+2)),vi ((flpB (trnB (flpB (trnB x g.a 4) g.a) g.a 4) g.a).d.r),.slice A1 n0 c1,.slice A2 n0 c2]) rfl rfl X08 i rfl rfl rfl rfl rfl) ?_;rintro _ iU ⟨ho,hb⟩;have a7:=i;have o:=o.onlyT ho a7 rfl;have p:=p.onlyT ho a7 rfl;have b3:=b3.onlyT ho a7 rfl;have b4:=b4.onlyT ho a7 rfl;have E:=tsonly E ho (.inl (.inl rfl));have i:=hb;refine Zn fun a L=>?_;refine Xd<|X13 L (X1n rfl) ?_
  rw [a6]
  exact ⟨dY,e8,eA,eB,eC,E,aU,⟨i,b3,o,p,b4.top,eD,eE,cA,cB⟩⟩
 have bS:=aI
 have g3:=aI
 refine Zs L fun _ eF=>?_;refine Ze (X0a rfl rfl)<|Za rfl<|Zt eF fun a L=>?_
 refine Xh L rfl (fun aJ=>?_) (fun aJ=>?_)
 ·have cC:=aJ;have a6:=Xsc (x:=x) g1 g2 g3 aJ;refine Zs L fun _ eG=>?_;refine Zm rfl<|Ze (Vd rfl X0n 2)<|Ze (X0 rfl X9 (f.at 2))<|Zf (Vc (X7s _ bV B0 A0 c0 A1 c1 A2 c2 BW eW m0 n0 x ⟨i,G,o,p,J.top,aE,aF,aA,aB⟩ (Q0 a8 E.size) g.b b5) X4c) ?_;rintro _ iV ⟨gU,gX,gY,hJ,hY,C,aW,I,bD,q,y,eH,eI,eJ,cD,cE⟩;have f:=f.tu C i rfl (alc (nrow G f rfl) (alc (nrow o f rfl) (alc (nrow p f rfl) al0)));have D:=SB.lift (S:=SB bV [A0,A1,A2]) (w0:=w0) (.inl (.inl rfl)) (alc aG (alc U (alc W al0)));have aW:=Us.trans aW D E.size
  have E:=tstr E C D;clear D
  clear C i;have i:=I;clear I
  clear o;have o:=q;clear q
  clear p;have p:=y;clear y;refine Zx eG fun a L _ eK=>?_;refine Zm rfl<|Ze (Vd rfl X06 1)<|Ze (X0 rfl X9 (f.at 1))<|Ze (Vd rfl X0n 2)<|Ze (X0 rfl X9 (f.at 2))<|Zf (Vc (Xnz _ bV B0 gU gX A1 c1 A2 c2 gY hJ hY n0 (flpB x g.b) ⟨i,bD,o,p,eH.top,eI,eJ,cD,cE⟩ (Q0 a8 E.size) g.a g.b aC b5 (X1v aD g.b) b1) Xet) ?_;rintro _ iW ⟨i0,i1,i2,i4,i5,C,aX,I,bE,q,y,eL,eM,eN,cF,cG⟩;have f:=f.tu C i rfl (alc (nrow bD f rfl) (alc (nrow o f rfl) (alc (nrow p f rfl) al0)));have D:=SB.lift (S:=SB bV [A0,A1,A2]) (w0:=w0) (.inl (.inl rfl)) (alc aW (alc U (alc W al0)));have aX:=Us.trans aX D E.size
  have E:=tstr E C D;clear D
  clear C i;have i:=I;clear I
  clear o;have o:=q;clear q
  clear p;have p:=y;clear y;refine Zt eK fun a L=>?_;refine Zr L<|Zm rfl<|Ze (Vd rfl X0n 2)<|Ze (X0 rfl X9 (f.at 2))<|Zf (Vc (X7s _ bV B0 i0 i1 A1 c1 A2 c2 i2 i4 i5 n0 (czB (flpB x g.b) g.a g.b) ⟨i,bE,o,p,eL.top,eM,eN,cF,cG⟩ (Q0 a8 E.size) g.b b5) X4c) ?_;rintro _ iX ⟨i6,i7,i8,i9,iA,C,aY,I,eO,q,y,eP,eQ,eR,cH,cJ⟩;have f:=f.tu C i rfl (alc (nrow bE f rfl) (alc (nrow o f rfl) (alc (nrow p f rfl) al0)));have D:=SB.lift (S:=SB bV [A0,A1,A2]) (w0:=w0) (.inl (.inl rfl)) (alc aX (alc U (alc W al0)));have aY:=Us.trans aY D E.size
  have E:=tstr E C D;clear D
  clear C i;have i:=I;clear I
  clear o;have o:=q;clear q
  clear p;have p:=y;clear y;refine Zn fun a L=>?_;refine Xd<|X13 L (X1n rfl) ?_
  rw [a6]
  exact ⟨i6,i7,i8,i9,iA,E,aY,⟨i,eO,o,p,eP.top,eQ,eR,cH,cJ⟩⟩
 have cC:=aJ
 have g9:=aJ
 refine Zs L fun _ eS=>?_;refine Ze (X0a rfl rfl)<|Za rfl<|Zt eS fun a L=>?_
 refine Xh L rfl (fun aK=>?_) (fun aK=>?_)
 ·have cK:=aK;have a6:=Xn5 (x:=x) g1 g2 g3 g9 aK;refine Zr L<|Zm rfl<|Ze (Vd rfl X06 1)<|Ze (X0 rfl X9 (f.at 1))<|Ze (Vd rfl X0n 2)<|Ze (X0 rfl X9 (f.at 2))<|Zf (Vc (Xnz _ bV B0 A0 c0 A1 c1 A2 c2 BW eW m0 n0 x ⟨i,G,o,p,J.top,aE,aF,aA,aB⟩ (Q0 a8 E.size) g.a g.b aC b5 aD b1) Xet) ?_;rintro _ iY ⟨iB,iC,iD,iE,iF,C,aZ,I,eT,q,y,eU,eX,eY,cL,cM⟩;have f:=f.tu C i rfl (alc (nrow G f rfl) (alc (nrow o f rfl) (alc (nrow p f rfl) al0)));have D:=SB.lift (S:=SB bV [A0,A1,A2]) (w0:=w0) (.inl (.inl rfl)) (alc aG (alc U (alc W al0)));have aZ:=Us.trans aZ D E.size
  have E:=tstr E C D;clear D
  clear C i;have i:=I;clear I
  clear o;have o:=q;clear q
  clear p;have p:=y;clear y;refine Zn fun a L=>?_;refine Xd<|X13 L (X1n rfl) ?_
  rw [a6]
  exact ⟨iB,iC,iD,iE,iF,E,aZ,⟨i,eT,o,p,eU.top,eX,eY,cL,cM⟩⟩
 have cK:=aK
 have b7:=aK
 refine Zs L fun _ f0=>?_;refine Ze (X0a rfl rfl)<|Za rfl<|Zt f0 fun a L=>?_
 refine Xh L rfl (fun aL=>?_) (fun aL=>?_)
 ·have cN:=aL;have a6:=Xof (x:=x) g1 g2 g3 g9 b7 aL;refine Q5 fun _ f5=>?_;refine X05 none (fun _=>false) mixed ?_;intro iZ M;have i:=i.below M;have f:=f.below M;have G:=G.below M;have o:=o.below M;have p:=p.below M;have J:=J.below M;have E:=tsbel E M;refine Yb L<|Yo 0 rfl (fun _=>X3 rfl)<|Yo 1 rfl (fun _=>Xw rfl)<|Yo 2 rfl (fun _=>Vd rfl X1q 5)<|Ye 3 rfl (X0 rfl X20 (i.at 5))<|Yo 4 rfl (fun _=>Vd rfl X06 1)<|Ye 5 rfl (X0 rfl X9 (f.at 1))<|Yo 6 rfl (fun _=>Xg (k:=g.a.toNat) rfl rfl Xj X08 o aA (by omega) (by first|omega|(rw [List.length_set];omega)))<|Ye 7 rfl (X0 rfl X9 (X0d o Xa (Xb (d:=(0:Int)) (by first|omega|(rw [List.length_set];omega))) 0 rfl))<|Yo 8 rfl (fun _=>X3 rfl)<|Yo 9 rfl (fun _=>Xw rfl) ?_;refine Yo 10 rfl (fun _=>Vd rfl X26 6)<|Ye 11 rfl (X0 rfl X1x (i.at 6))<|Yo 12 rfl (fun _=>Vd rfl X06 1)<|Ye 13 rfl (X0 rfl X9 (f.at 1))<|Yo 14 rfl (fun _=>Xg (k:=g.a.toNat) rfl rfl X1k X2l p aB (by omega) (by first|omega|(rw [List.length_set];omega)))<|Ye 15 rfl (X0 rfl X6l (X0d p X0t (Xb (d:=false) (by first|omega|(rw [List.length_set];omega))) 0 rfl))<|Yo 16 rfl (fun _=>X0l rfl)<|Yo 17 rfl (fun _=>X0l rfl) ?_;refine Yd fun a L=>?_;refine f5 _ _<|Q5 fun _ f7=>?_;refine X05 none (fun j=>[15].contains j) mixed ?_;intro j0 M;have i:=i.below M;have f:=f.below M;have G:=G.below M;have o:=o.below M;have p:=p.below M;have J:=J.below M;have E:=tsbel E M;refine Yb L<|Yo 0 rfl (fun _=>X3 rfl)<|Yo 1 rfl (fun _=>Xw rfl)<|Yo 2 rfl (fun _=>Vd rfl X1q 5)<|Ye 3 rfl (X0 rfl X20 (i.at 5))<|Yo 4 rfl (fun _=>Vd rfl X06 1)<|Ye 5 rfl (X0 rfl X9 (f.at 1))<|Yo 6 rfl (fun _=>X3 rfl)<|Yo 7 rfl (fun _=>Xw rfl)<|Yo 8 rfl (fun _=>Vd rfl X1q 5)<|Ye 9 rfl (X0 rfl X20 (i.at 5)) ?_
  refine Yo 10 rfl (fun _=>Vd rfl X0n 2)<|Ye 11 rfl (X0 rfl X9 (f.at 2))<|Yo 12 rfl (fun _=>Xg (k:=g.b.toNat) rfl rfl Xj X08 o aA (by omega) (by first|omega|(rw [List.length_set];omega)))<|Ye 13 rfl (X0 rfl X9 (X0d o Xa (Xb (d:=(0:Int)) (by first|omega|(rw [List.length_set];omega))) 0 rfl))<|Yo 14 rfl (fun _=>Xg (k:=g.a.toNat) rfl rfl Xj X08 o aA (by omega) (by first|omega|(rw [List.length_set];omega)))<|Y1 15 ?_;refine Yh rfl trivial rfl (X0g (enc:=encI) (l:=x.la) (vs:=[vi (x.la.getD g.b.toNat 0)]) (x0:=(x.la.getD g.a.toNat 0)) (u:=(x.la.getD g.b.toNat 0)) (k:=g.a.toNat) (j:=0) (n1:=1) rfl rfl X08 o Xa rfl rfl rfl rfl (by decide) (Xb (d:=(0:Int)) (by first|omega|(rw [List.length_set];omega))) rfl) ?_;rintro _ j1 ⟨N,Q⟩;have H:=o;have i:=i.appT H Q rfl;have f:=f.appT H Q rfl;have G:=G.appT H Q rfl;have p:=p.appT H Q rfl;have J:=J.appT H Q rfl;have E:=tsrow E Q U
  clear H Q;clear o;have o:=N;clear N;refine Yd fun a L=>?_;refine f7 _ _<|Q5 fun _ f8=>?_;refine X05 none (fun j=>[15].contains j) mixed ?_;intro j2 M;have i:=i.below M;have f:=f.below M;have G:=G.below M;have p:=p.below M;have J:=J.below M;have o:=o.below M;have E:=tsbel E M;refine Yb L<|Yo 0 rfl (fun _=>X3 rfl)<|Yo 1 rfl (fun _=>Xw rfl)<|Yo 2 rfl (fun _=>Vd rfl X26 6)<|Ye 3 rfl (X0 rfl X1x (i.at 6))<|Yo 4 rfl (fun _=>Vd rfl X06 1)<|Ye 5 rfl (X0 rfl X9 (f.at 1))<|Yo 6 rfl (fun _=>X3 rfl)<|Yo 7 rfl (fun _=>Xw rfl)<|Yo 8 rfl (fun _=>Vd rfl X26 6)<|Ye 9 rfl (X0 rfl X1x (i.at 6)) ?_;refine Yo 10 rfl (fun _=>Vd rfl X0n 2)<|Ye 11 rfl (X0 rfl X9 (f.at 2))<|Yo 12 rfl (fun _=>Xg (k:=g.b.toNat) rfl rfl X1k X2l p aB (by omega) (by first|omega|(rw [List.length_set];omega)))<|Ye 13 rfl (X0 rfl X6l (X0d p X0t (Xb (d:=false) (by first|omega|(rw [List.length_set];omega))) 0 rfl))<|Yo 14 rfl (fun _=>Xg (k:=g.a.toNat) rfl rfl X1k X2l p aB (by omega) (by first|omega|(rw [List.length_set];omega)))<|Y1 15 ?_;refine Yh rfl trivial rfl (X0g (enc:=encB) (l:=x.hd) (vs:=[.bool (x.hd.getD g.b.toNat false)]) (x0:=(x.hd.getD g.a.toNat false)) (u:=(x.hd.getD g.b.toNat false)) (k:=g.a.toNat) (j:=0) (n1:=1) rfl rfl X2l p X0t rfl rfl rfl rfl (by decide) (Xb (d:=false) (by first|omega|(rw [List.length_set];omega))) rfl) ?_;rintro _ j3 ⟨N,Q⟩;have H:=p;have i:=i.appT H Q rfl;have f:=f.appT H Q rfl;have G:=G.appT H Q rfl;have J:=J.appT H Q rfl;have o:=o.appT H Q rfl;have E:=tsrow E Q W
  clear H Q;clear p;have p:=N;clear N;refine Yd fun a L=>?_;refine f8 _ _<|Q5 fun _ f9=>?_;refine X05 none (fun j=>[8].contains j) mixed ?_;intro j4 M;have i:=i.below M;have f:=f.below M;have G:=G.below M;have J:=J.below M;have o:=o.below M;have p:=p.below M;have E:=tsbel E M;refine Yb L<|Yo 0 rfl (fun _=>X3 rfl)<|Yo 1 rfl (fun _=>Xw rfl)<|Yo 2 rfl (fun _=>Vd rfl X1q 5)<|Ye 3 rfl (X0 rfl X20 (i.at 5))<|Yo 4 rfl (fun _=>Vd rfl X0n 2)<|Ye 5 rfl (X0 rfl X9 (f.at 2))<|Yo 6 rfl (fun _=>X3 rfl)<|Yo 7 rfl (fun _=>Xg (k:=g.b.toNat) rfl rfl Xj X08 o (aA.trans List.length_set.symm) (by omega) (by first|omega|(rw [List.length_set];omega)))<|Y1 8 ?_;refine Yh rfl trivial rfl (X0g (enc:=encI) (l:=(x.la.set g.a.toNat (x.la.getD g.b.toNat 0))) (vs:=[vi (x.la.getD g.a.toNat 0)]) (x0:=((x.la.set g.a.toNat (x.la.getD g.b.toNat 0)).getD g.b.toNat 0)) (u:=(x.la.getD g.a.toNat 0)) (k:=g.b.toNat) (j:=0) (n1:=1) rfl rfl X08 o Xa rfl rfl rfl rfl (by decide) (Xb (d:=(0:Int)) (by first|omega|(rw [List.length_set];omega))) rfl) ?_;rintro _ j5 ⟨N,Q⟩;have H:=o;have i:=i.appT H Q rfl;have f:=f.appT H Q rfl;have G:=G.appT H Q rfl;have J:=J.appT H Q rfl;have p:=p.appT H Q rfl;have E:=tsrow E Q U
  clear H Q;clear o;have o:=N;clear N;refine Yd fun a L=>?_;refine f9 _ _<|X05 none (fun j=>[8].contains j) mixed ?_;intro j6 M;have i:=i.below M;have f:=f.below M;have G:=G.below M;have J:=J.below M;have p:=p.below M;have o:=o.below M;have E:=tsbel E M;refine Yb L<|Yo 0 rfl (fun _=>X3 rfl)<|Yo 1 rfl (fun _=>Xw rfl)<|Yo 2 rfl (fun _=>Vd rfl X26 6)<|Ye 3 rfl (X0 rfl X1x (i.at 6))<|Yo 4 rfl (fun _=>Vd rfl X0n 2)<|Ye 5 rfl (X0 rfl X9 (f.at 2))<|Yo 6 rfl (fun _=>X3 rfl)<|Yo 7 rfl (fun _=>Xg (k:=g.b.toNat) rfl rfl X1k X2l p (aB.trans List.length_set.symm) (by omega) (by first|omega|(rw [List.length_set];omega)))<|Y1 8 ?_;refine Yh rfl trivial rfl (X0g (enc:=encB) (l:=(x.hd.set g.a.toNat (x.hd.getD g.b.toNat false))) (vs:=[.bool (x.hd.getD g.a.toNat false)]) (x0:=((x.hd.set g.a.toNat (x.hd.getD g.b.toNat false)).getD g.b.toNat false)) (u:=(x.hd.getD g.a.toNat false)) (k:=g.b.toNat) (j:=0) (n1:=1) rfl rfl X2l p X0t rfl rfl rfl rfl (by decide) (Xb (d:=false) (by first|omega|(rw [List.length_set];omega))) rfl) ?_;rintro _ j7 ⟨N,Q⟩;have H:=p;have i:=i.appT H Q rfl;have G:=G.appT H Q rfl;have J:=J.appT H Q rfl;have o:=o.appT H Q rfl;have E:=tsrow E Q W
  clear H Q;clear p;have p:=N;clear N;refine Yd fun a L=>?_;refine Xd<|X13 L (X1n rfl) ?_
  rw [a6]
  exact ⟨A0,c0,BW,eW,m0,E,aG,⟨i,G,o,p,J.top,aE,aF,((aA.trans List.length_set.symm).trans List.length_set.symm),((aB.trans List.length_set.symm).trans List.length_set.symm)⟩⟩
 have cN:=aL
 have cO:=aL
 refine Zs L fun _ fA=>?_;refine Ze (X0a rfl rfl)<|Za rfl<|Zt fA fun a L=>?_
 refine Xh L rfl (fun aM=>?_) (fun aM=>?_)
 ·have cP:=aM;have a6:=Xnk (x:=x) g1 g2 g3 g9 b7 cO aM;refine Zr L<|Zm rfl<|Ze (Xw rfl)<|Ze (Vd rfl X0f 0)<|Ze (Vd rfl X0q 3)<|Ze (X0 rfl X9 (i.at 3))<|Ze (X3u rfl rfl)<|Ze (Xw rfl)<|Ze (Vd rfl X0f 0)<|Ze (Vd rfl X0q 3)<|Zo (X12 (vs:=[vi (wr (x.d.t+1))]) (l':=[vi x.d.n,.slice A0 m0 c0,.slice BW x.d.ws.length eW,vi (wr (x.d.t+1)),vi x.d.r,.slice A1 n0 c1,.slice A2 n0 c2]) rfl rfl X08 i rfl rfl rfl rfl rfl) ?_;rintro _ j8 ⟨ho,hb⟩;have a7:=i;have G:=G.onlyT ho a7 rfl;have o:=o.onlyT ho a7 rfl;have p:=p.onlyT ho a7 rfl;have J:=J.onlyT ho a7 rfl;have E:=tsonly E ho (.inl (.inl rfl));have i:=hb;refine Zn fun a L=>?_;refine Xd<|X13 L (X1n rfl) ?_
  rw [a6]
  exact ⟨A0,c0,BW,eW,m0,E,aG,⟨i,G,o,p,J.top,aE,aF,aA,aB⟩⟩
 have cP:=aM
 have fB:=aM
 have a6:=Xs2 (x:=x) g1 g2 g3 g9 b7 cO fB
 have fC:4≤g.k∧g.k≤8:=by simp only [beq_eq_false_iff_ne] at g1 g2 g3 g9 b7 cO fB;omega
 have fD:=Xh7 fC;refine X05 none (fun j=>[9].contains j) mixed ?_;intro j9 M;have i:=i.below M;have f:=f.below M;have G:=G.below M;have o:=o.below M;have p:=p.below M;have J:=J.below M;have E:=tsbel E M;refine Yb L<|Yo 0 rfl (fun _=>X3 rfl)<|Yo 1 rfl (fun _=>Vd rfl X06 1)<|Ye 2 rfl (X0 rfl X9 (f.at 1))<|Yo 4 rfl (fun _=>Vd rfl X1d 0)<|Ye 5 rfl (X0 rfl X9 (f.at 0))<|Yo 6 rfl (fun _=>X1h rfl rfl (by omega) (by omega))<|Y1 3 ?_;refine Yk rfl trivial (Xp (k:=5) (vs:=[vi 4,vi 2,vi 6,vi 1,vi 7]) (zs:=[vi 4,vi 2,vi 6,vi 1,vi 7]) rfl Xj X1g rfl rfl) (fun _ _ ⟨_,_,_,h,_⟩=>h) ?_;rintro _ jA ⟨jB,rfl,bF,M,bG⟩;have iG:=Q0 E.size bF;have fE:=o.away bF;have i:=i.below M;have f:=f.below M;have G:=G.below M;have o:=o.below M;have p:=p.below M;have J:=J.below M;have E:=tsbel E M;refine Yi (k:=(g.k-4).toNat) (u:=(rotC g.k)) (enc:=encI) (l:=[4,2,6,1,7]) 7 rfl trivial rfl rfl Xj X08 Xa (Rd.of_blk bG rfl _ bG.lt) fD.1 (by omega) ?_;intro jC cQ;refine Ye 8 rfl (X0 rfl X9 cQ)<|Y1 9 ?_;refine Yt rfl trivial rfl (Vc (Xdl _ bV B0 A0 c0 A1 c1 A2 c2 BW eW m0 n0 x ⟨i,G,o,p,J.top,aE,aF,aA,aB⟩ (Q0 a8 E.size) g.a (rotC g.k) aC aD b1 fD.2) X7b) ?_;rintro _ jD ⟨iH,iI,iJ,iK,iM,C,b0,I,fF,q,y,fG,fH,fI,cR,cS⟩;have f:=f.tu C i rfl (alc (nrow G f rfl) (alc (nrow o f rfl) (alc (nrow p f rfl) al0)));have D:=SB.lift (S:=SB bV [A0,A1,A2]) (w0:=w0) (.inl (.inl rfl)) (alc aG (alc U (alc W al0)));have b0:=Us.trans b0 D E.size
 have E:=tstr E C D;clear D
 clear C i;have i:=I;clear I
 clear o;have o:=q;clear q
 clear p;have p:=y;clear y;refine Yd fun a L=>?_;refine Xd<|X13 L (X1n rfl) ?_
 rw [a6]
 exact ⟨iH,iI,iJ,iK,iM,E,b0,⟨i,fF,o,p,fG.top,fH,fI,cR,cS⟩⟩
theorem Xua(w0:World)(c:Cx)(Ac:Option Addr)(cc:Nat)(bM:Rd w0 w0.heap.size 123 encG Ac c.gs)(hc:cOk c=true) : Ret Tryz.prog 84 [.agg #[vi c.n,.slice Ac c.gs.length cc]] w0 (fun v w=>∃ A c1 B e,v=.agg #[vi (ofD c).n,.slice A (ofD c).ns.length c1,.slice B (ofD c).ws.length e,vi (ofD c).t,vi (ofD c).r]∧Rd w w.heap.size 81 encNd A (ofD c).ns∧Rd w w.heap.size 83 encWr B (ofD c).ws∧(ofD c).ws.length≤e∧Below w0.heap.size w0 w):=by
 obtain ⟨n9,f9,fA,fB⟩:=Xar hc
 have cK:c.n=((c.n.toNat:Nat) : Int):=by omega
 have fC:=X9v hc
 have cL:(List.replicate (c.n.toNat:Nat) false).length=(c.n.toNat:Nat):=List.length_replicate
 have cM:(c.n.toNat:Nat)≤maxLen:=by simp only [maxLen];omega
 refine enter Tryz.func84 rfl 79 rfl rfl ?_;intro a C
 have q:=bz w0
 refine Zs C fun _ eF=>?_;refine Zf (X0h (zs:=[vi c.n,.slice Ac c.gs.length cc]) rfl rfl) ?_;rintro _ w1 ⟨b3,rfl,eG,G,i⟩;have f7:=Q0 q.size eG;have q:=btr q G;refine Zf (X00 (zs:=[vi 0,.slice none 0 0,.slice none 0 0,vi 0,vi 0]) X0o rfl) ?_;rintro _ w2 ⟨b6,rfl,eH,G,o⟩;have cN:=Q0 q.size eH;have i:=i.below G;have q:=btr q G;refine ZX eF fun a C _ eI=>?_;refine X05 none (fun _=>false) mixed ?_;intro w3 G;have i:=i.below G;have o:=o.below G;have q:=btr q G;refine Yb C<|Yo 0 rfl (fun _=>Vd rfl X1t 0)<|Ye 1 rfl (X0 rfl X9 (i.at 0))<|Yo 2 rfl (fun _=>X16 (ps:=[(0,vi c.n)]) (cs:=[vi c.n,.slice none 0 0,.slice none 0 0,vi 0,vi 0]) rfl (fun _=>by first|rfl|kernel_rfl))<|Yo 3 rfl (fun _=>Vd rfl X1t 0)<|Ye 4 rfl (Vx (X0 rfl X9 (i.at 0)) cK)<|Y1 5 ?_;refine Yk rfl trivial (X5u (m:=(c.n.toNat:Nat)) (enc:=encB) (z0:=false) rfl rfl X1k Xo3 z_4 rfl X0t (by omega) (by omega)) (fun _ _ ⟨_,_,_,h,_⟩=>h) ?_;rintro _ w4 ⟨bF,rfl,cO,G,b0⟩;have bR:=Q0 q.size cO;have i:=i.below G;have o:=o.below G;have q:=btr q G;refine Yo 6 rfl (fun _=>X16 (ps:=[(0,.agg #[vi c.n,.slice none 0 0,.slice none 0 0,vi 0,vi 0]),(2,.slice (some ⟨bF,0,none⟩) (c.n.toNat:Nat) (c.n.toNat:Nat))]) (cs:=[vi c.n,.slice none 0 0,.slice none 0 0,vi 0,vi 0,.slice none 0 0,.slice (some ⟨bF,0,none⟩) (c.n.toNat:Nat) (c.n.toNat:Nat)]) rfl (fun _=>by first|rfl|kernel_rfl))<|Y1 7 ?_;refine Yk rfl trivial (X0h (zs:=[vi c.n,.slice none 0 0,.slice none 0 0,vi 0,vi 0,.slice none 0 0,.slice (some ⟨bF,0,none⟩) (c.n.toNat:Nat) (c.n.toNat:Nat)]) rfl rfl) (fun _ _ ⟨_,_,_,h,_⟩=>h) ?_;rintro _ w5 ⟨aK,rfl,cP,G,g⟩;have a8:=Q0 q.size cP
 have i:=i.below G;have o:=o.below G;have b0:=b0.below G;have q:=btr q G;refine Yo 8 rfl (fun _=>X0l rfl) ?_;refine Yd fun a C=>?_;refine eI _ _<|Q5 fun _ cQ=>?_;refine Zs C fun _ cR=>?_;refine Za rfl<|Zt cR fun a C=>?_;refine Q8<|X01 (σ:=Nat×(List Nd)×(List Int)) (fun (s:Nat×(List Nd)×(List Int)) (a:Act) (w:World)=>match s with|(k,u,v)=>∃ bG bH b1 b2 aN aO,Fr a 79 [(1,.pointer (some ⟨b3,0,none⟩)),(2,.pointer (some ⟨b6,0,none⟩)),(3,.pointer (some ⟨aK,0,none⟩)),(4,vi (k:Int))]∧(k≤c.n.toNat)∧(u=inN k)∧(v=ranI k)∧Blk w b3 30 [vi c.n,.slice Ac c.gs.length cc]∧Blk w b6 39 [vi 0,.slice none 0 0,.slice none 0 0,vi 0,vi 0]∧Blk w aK 171 [vi c.n,.slice bG u.length bH,.slice none 0 0,vi 0,vi 0,.slice b1 v.length b2,.slice aN (c.n.toNat:Nat) aO]∧Own w w0.heap.size 81 2 encNd bG bH u∧Own w w0.heap.size 3 1 encI b1 b2 v∧Own w w0.heap.size 4 1 encB aN aO (List.replicate (c.n.toNat:Nat) false)∧Below w0.heap.size w0 w) (fun (s:Nat×(List Nd)×(List Int))=>match s with|(k,u,v)=>c.n.toNat-k) (0,[],[]) ?_ ?_
 ·exact ⟨none,0,none,0,some ⟨bF,0,none⟩,(c.n.toNat:Nat),C.sb,(Qf _),rfl,rfl,i,o,g,(Own.nil _ _ _ _ _),(Own.nil _ _ _ _ _),(Own.of_flat X0t b0 bR cL cM),q⟩
 rintro ⟨k,u,v⟩ a w6 ⟨bG,bH,b1,b2,aN,aO,C,hk,hu,hv,i,o,g,aD,J,E,q⟩;have cS:=X51 k;have cT:=X4p k
 rw [← hu] at cS
 rw [← hv] at cT
 refine Q5 fun _ cU=>?_;refine Zs C fun _ cV=>?_;refine Zm rfl<|Ze (Vd rfl X1t 0)<|Ze (X0 rfl X9 (i.at 0))<|Ze (X0m rfl rfl)<|Zt cV fun a C=>?_
 refine Xh C rfl (fun N=>?_) (fun N=>?_)
 ·have bS:=N;have N:=Q2 N
  have bJ:k<c.n.toNat:=by have:=N;omega
  refine Q7<|cU _ _<|Q5 fun _ cW=>?_;refine Q8<|Zs C fun _ cX=>?_;refine Zm rfl<|Zm rfl<|Ze (Xw rfl)<|Ze (Vd rfl X0f 0)<|Ze (Vd rfl Xi 1)<|Ze (X0 rfl Xz (g.at 1))<|Zm rfl<|Ze (X16 (ps:=[(0,vi 1),(1,vi (k:Int))]) (cs:=[vi 1,vi (k:Int)]) rfl (fun _=>by first|rfl|kernel_rfl))<|Zf (Xp (k:=1) (vs:=[.agg #[vi 1,vi (k:Int)]]) (zs:=[vi 1,vi (k:Int)]) rfl Xo X1f rfl rfl) ?_;rintro _ w7 ⟨fD,rfl,bN,G,b4⟩;have eJ:=Q0 q.size bN;have aP:=aD.away bN;have i:=i.below G;have o:=o.below G;have g:=g.below G;have aD:=aD.below G;have J:=J.below G;have E:=E.below G;have q:=btr q G;refine Zf (X0r (enc:=encNd) (l:=(u)) (l2:=([(⟨1,(k:Int)⟩ : Nd)])) (B0:=w0.heap.size) rfl rfl Xo X1f Xt X2f aD (Rd.of_blk b4 rfl _ b4.lt) (by simp only [maxLen];simp;omega) (by simp;omega) q.size) ?_;rintro _ w8 ⟨bK,bL,rfl,Q,hg,b5⟩
  have D:Own _ w0.heap.size 81 2 encNd _ _ (u):=aD
  have cH:=b5 _ b4.lt aP;clear b5;have i:=i.appT D hg rfl;have o:=o.appT D hg rfl;have g:=g.appT D hg rfl;have J:=J.appT D hg rfl;have E:=E.appT D hg rfl;have q:=Below.app q D hg (Qb _) q.size;clear D hg;refine Ze (Xw rfl)<|Ze (Vd rfl X0f 0)<|Ze (Vd rfl Xi 1)<|Zo (Vu (vs:=[.slice bK (u++([(⟨1,(k:Int)⟩ : Nd)])).length bL]) (l':=[vi c.n,.slice bK (u++([(⟨1,(k:Int)⟩ : Nd)])).length bL,.slice none 0 0,vi 0,vi 0,.slice b1 v.length b2,.slice aN (c.n.toNat:Nat) aO]) rfl rfl X3i g) ?_;rintro _ w9 ⟨M,hb⟩;have p:=g;have i:=i.only M (Blk.ne i p rfl);have o:=o.only M (Blk.ne o p rfl);have J:=J.onlyT M p rfl;have E:=E.onlyT M p rfl;have Q:=Q.onlyT M p rfl;have q:=Below.only q M a8;have g:=hb;refine Zt cX fun a C=>?_;refine Zr C<|Zm rfl<|Zm rfl<|Ze (Xw rfl)<|Ze (Vd rfl X1q 5)<|Ze (X0 rfl X20 (g.at 5))<|Zm rfl<|Zf (Xp (k:=1) (vs:=[vi (k:Int)]) (zs:=[vi (k:Int)]) rfl Xj X1g rfl rfl) ?_;rintro _ fE ⟨fF,rfl,bO,G,b7⟩;have eK:=Q0 q.size bO;have aQ:=J.away bO;have i:=i.below G;have o:=o.below G;have g:=g.below G;have J:=J.below G;have E:=E.below G;have Q:=Q.below G;have q:=btr q G;refine Zf (X0r (enc:=encI) (l:=(v)) (l2:=([(k:Int)])) (B0:=w0.heap.size) rfl rfl Xj X1g Xa X1w J (Rd.of_blk b7 rfl _ b7.lt) (by simp only [maxLen];simp;omega) (by simp;omega) q.size) ?_;rintro _ fG ⟨bT,bU,rfl,b8,hg,b5⟩
  have D:Own _ w0.heap.size 3 1 encI _ _ (v):=J
  have cJ:=b5 _ b7.lt aQ;clear b5;have i:=i.appT D hg rfl;have o:=o.appT D hg rfl;have g:=g.appT D hg rfl;have E:=E.appT D hg rfl;have Q:=Q.appT D hg rfl;have q:=Below.app q D hg (Qb _) q.size;clear D hg;refine Ze (Xw rfl)<|Ze (Vd rfl X1q 5)<|Zo (Vu (vs:=[.slice bT (v++([(k:Int)])).length bU]) (l':=[vi c.n,.slice bK (u++([(⟨1,(k:Int)⟩ : Nd)])).length bL,.slice none 0 0,vi 0,vi 0,.slice bT (v++([(k:Int)])).length bU,.slice aN (c.n.toNat:Nat) aO]) rfl rfl Xep g) ?_;rintro _ fH ⟨M,hb⟩;have p:=g;have i:=i.only M (Blk.ne i p rfl);have o:=o.only M (Blk.ne o p rfl);have E:=E.onlyT M p rfl;have Q:=Q.onlyT M p rfl;have b8:=b8.onlyT M p rfl;have q:=Below.only q M a8;have g:=hb;refine Zn fun a C=>?_;refine Xd<|cW _ _<|Zr C<|Zm rfl<|Ze (Xu rfl rfl (by omega) (by omega))<|Za rfl ?_;refine Zn fun a C=>?_;refine Xf ?_;exact ⟨(k+1,u++([(⟨1,(k:Int)⟩ : Nd)]),v++([(k:Int)])),⟨bK,bL,bT,bU,aN,aO,C.sb,(by omega),(by rw [Xon,← hu]),(by rw [Xi6,← hv]),i,o,g,Q,b8,E,q⟩,(by first|omega|(dsimp only;omega))⟩
 have bS:=N;have N:=Q1 N
 have bJ:k=c.n.toNat:=by have:=N;omega
 have cY:v.length=c.n.toNat:=by rw [hv,bJ];exact X4p _
 have d5:(⟨⟨c.n,u,[],0,0⟩,v,List.replicate c.n.toNat false⟩ : Br)=ofB0 c:=by rw [hu,hv,bJ];rfl
 have fI:u.length=c.n.toNat:=by rw [hu,bJ];exact X51 _
 refine Q9<|Xk<|Xk<|X03 ?_;refine cQ _ _<|Q5 fun _ d6=>?_;refine Zs C fun _ d7=>?_;refine Ze (Vd rfl X2k 1)<|Ze (X0 rfl X5j (i.at 1))<|Ze (X0c rfl X2b)<|Zm rfl<|Zt d7 fun a C=>?_;refine Q8 ?_
 rw [cY] at g
 refine X01 (σ:=Nat×Br×Nat) (fun (s:Nat×Br×Nat) (a:Act) (w:World)=>match s with|(k,x,mz)=>∃ b9 bA bB bC aR aS aT aU,Fr a 79 [(1,.pointer (some ⟨b3,0,none⟩)),(2,.pointer (some ⟨b6,0,none⟩)),(3,.pointer (some ⟨aK,0,none⟩)),(46,.slice Ac c.gs.length cc),(47,vi (c.gs.length:Int)),(48,vi (k:Int))]∧(k≤c.gs.length)∧(x=(c.gs.take k).foldl gtB (ofB0 c))∧(BrOk c.n.toNat x)∧(c.n.toNat=x.la.length)∧(c.n.toNat=x.hd.length)∧(mz=x.d.ns.length)∧(x.d.ns.length≤5+3*k∧x.d.ws.length≤3*k)∧Blk w b3 30 [vi c.n,.slice Ac c.gs.length cc]∧Blk w b6 39 [vi 0,.slice none 0 0,.slice none 0 0,vi 0,vi 0]∧Blk w aK 171 [vi x.d.n,.slice b9 mz bA,.slice bB x.d.ws.length bC,vi x.d.t,vi x.d.r,.slice aR c.n.toNat aS,.slice aT c.n.toNat aU]∧Own w w0.heap.size 81 2 encNd b9 bA x.d.ns∧Rd w w.heap.size 83 encWr bB x.d.ws∧Own w w0.heap.size 3 1 encI aR aS x.la∧Own w w0.heap.size 4 1 encB aT aU x.hd∧x.d.ws.length≤bC∧Below w0.heap.size w0 w) (fun (s:Nat×Br×Nat)=>match s with|(k,x,mz)=>c.gs.length-k) (0,⟨⟨c.n,u,[],0,0⟩,v,List.replicate c.n.toNat false⟩,u.length) ?_ ?_
 ·exact ⟨bG,bH,none,0,b1,b2,aN,aO,C.sb,(Qf _),d5,(d5▸Xa0 ⟨by omega,by omega⟩),cY.symm,cL.symm,rfl,⟨by show u.length≤_;omega,Qb _⟩,i,o,g,aD,(Rd.nil _ _ _ _ _),J,E,(Qf _),q⟩
 rintro ⟨k,x,mz⟩ a fJ ⟨b9,bA,bB,bC,aR,aS,aT,aU,C,hk,hx,bD,d8,d9,dB,eL,i,o,g,L,aE,H,I,dC,q⟩;refine Zs C fun _ dD=>?_;refine Ze (X0m rfl rfl)<|ZX dD fun a C _ dE=>?_
 refine Xh C rfl (fun U=>?_) (fun U=>?_)
 ·have bW:=U;have U:=Q2 U
  obtain ⟨fK,f8⟩:=X4 (l:=c.gs) (k:=k) (by omega)
  obtain ⟨u9,bX⟩:=X4 (l:=c.gs) (k:=k) (by have:=U;omega)
  have dF:gOk (c.n.toNat:Int) u9=true:=Xgk hc cK bX
  have dG:=X1z (f:=gtB) (b:=ofB0 c) bX
  rw [← hx] at dG
  refine Q7<|dE _ _<|Q5 fun _ dH=>?_;refine Q8<|Zs C fun _ dI=>?_;refine Zi (k:=k) (u:=u9) (enc:=encG) (l:=c.gs) trivial rfl rfl X2b X28 X1r (bM.below' q) bX rfl ?_;intro fL bY;refine Ze (X02 (l:=[vi u9.k,vi u9.a,vi u9.b]) rfl X2j bY rfl)<|Zf (X00 (zs:=[vi 0,vi 0,vi 0]) X6z rfl) ?_;rintro _ fM ⟨fN,rfl,bP,G,W⟩;have c4:=Q0 q.size bP;have dJ:=(bM.below' q).away bP;have i:=i.below G;have o:=o.below G;have g:=g.below G;have L:=L.below G;have aE:=aE.below G;have H:=H.below G;have I:=I.below G;have q:=btr q G;refine Zo (Vw [vi u9.k,vi u9.a,vi u9.b] X28 W) ?_;rintro _ fO ⟨M,hb⟩;have p:=W;have i:=i.only M (Blk.ne i p rfl);have o:=o.only M (Blk.ne o p rfl);have g:=g.only M (Blk.ne g p rfl);have L:=L.onlyT M p rfl;have aE:=aE.onlyT M p rfl;have H:=H.onlyT M p rfl;have I:=I.onlyT M p rfl;have q:=Below.only q M c4;have W:=hb;refine Zt dI fun a C=>?_;refine Zr C<|Zm rfl<|Ze (Vn X2j W)<|Zf (Vc (Xsj _ aK w0.heap.size b9 bA aR aS aT aU bB bC mz c.n.toNat x ⟨g,L,H,I,aE.top,dC,dB,d8,d9⟩ q.size u9 bD (by omega) dF) Xm1) ?_;rintro _ fP ⟨eM,eN,eO,eP,eQ,aC,cA,bE,dK,aL,aM,dL,dM,dN,cB,cC⟩;have i:=i.tu aC g rfl (alc (nrow L i rfl) (alc (nrow H i rfl) (alc (nrow I i rfl) al0)));have o:=o.tu aC g rfl (alc (nrow L o rfl) (alc (nrow H o rfl) (alc (nrow I o rfl) al0)));have W:=W.tu aC g rfl (alc (nrow L W rfl) (alc (nrow H W rfl) (alc (nrow I W rfl) al0)))
  have q:=Below.ts q aC (SB.ge a8 (alc (fun _ h9=>X1l L h9) (alc (fun _ h9=>X1l H h9) (alc (fun _ h9=>X1l I h9) al0)))) q.size
  clear cA
  clear aC g;have g:=bE;clear bE
  clear H;have H:=aL;clear aL
  clear I;have I:=aM;clear aM;refine Zn fun a C=>?_;refine Xd<|dH _ _<|Zr C<|Ze (Xu rfl rfl (by omega) (by omega))<|Zm rfl ?_;refine Zn fun a C=>?_;refine Xf ?_;exact ⟨(k+1,(gtB x u9),eQ),⟨eM,eN,eO,eP,aR,aS,aT,aU,C.sb,(by omega),(by rw [dG]),(Xig bD dF),cB,cC,dN,(by have:=Xcr x u9;omega),i,o,g,dK,dL.top,H,I,dM,q⟩,(by first|omega|(dsimp only;omega))⟩
 have bW:=U;have U:=Q1 U
 have eR:x=ofB1 c:=by rw [hx,Qi (by have:=U;omega)];rfl
 refine Q9<|Xk<|Xk<|X03 ?_;refine d6 _ _<|Q5 fun _ dO=>?_;refine Zs C fun _ dP=>?_;refine Za rfl<|Zt dP fun a C=>?_;refine Q8<|X01 (σ:=Nat×Br×Nat) (fun (s:Nat×Br×Nat) (a:Act) (w:World)=>match s with|(j,y,my)=>∃ aG aH aI aJ aW aX aY aZ,Fr a 79 [(1,.pointer (some ⟨b3,0,none⟩)),(2,.pointer (some ⟨b6,0,none⟩)),(3,.pointer (some ⟨aK,0,none⟩)),(7,vi (j:Int))]∧(j≤c.n.toNat)∧(y=ofK c j)∧(BrOk c.n.toNat y)∧(c.n.toNat=y.la.length)∧(c.n.toNat=y.hd.length)∧(my=y.d.ns.length)∧(y.d.ns.length≤5+3*400+j∧y.d.ws.length≤3*400+j)∧Blk w b3 30 [vi c.n,.slice Ac c.gs.length cc]∧Blk w b6 39 [vi 0,.slice none 0 0,.slice none 0 0,vi 0,vi 0]∧Blk w aK 171 [vi y.d.n,.slice aG my aH,.slice aI y.d.ws.length aJ,vi y.d.t,vi y.d.r,.slice aW c.n.toNat aX,.slice aY c.n.toNat aZ]∧Own w w0.heap.size 81 2 encNd aG aH y.d.ns∧Rd w w.heap.size 83 encWr aI y.d.ws∧Own w w0.heap.size 3 1 encI aW aX y.la∧Own w w0.heap.size 4 1 encB aY aZ y.hd∧y.d.ws.length≤aJ∧Below w0.heap.size w0 w) (fun (s:Nat×Br×Nat)=>match s with|(j,y,my)=>c.n.toNat-j) (0,x,mz) ?_ ?_
 ·exact ⟨b9,bA,bB,bC,aR,aS,aT,aU,C.sb,(Qf _),eR,bD,d8,d9,dB,(by omega),i,o,g,L,aE.top,H,I,dC,q⟩
 rintro ⟨j,y,my⟩ a fQ ⟨aG,aH,aI,aJ,aW,aX,aY,aZ,C,hj,hy,bD,eS,eT,dQ,eL,i,o,g,a6,aF,aA,aB,dR,q⟩;refine Q5 fun _ dS=>?_;refine Zs C fun _ dU=>?_;refine Zm rfl<|Ze (Vd rfl X1t 0)<|Ze (X0 rfl X9 (i.at 0))<|Ze (X0m rfl rfl)<|Zt dU fun a C=>?_
 refine Xh C rfl (fun a7=>?_) (fun a7=>?_)
 ·have cD:=a7;have a7:=Q2 a7
  have dW:j<c.n.toNat:=by have:=a7;omega
  refine Q7<|dS _ _<|Q5 fun _ dX=>?_;refine Q8<|Zr C<|Zm rfl<|Zm rfl<|Zm rfl<|Zf (Vc (Xou _ aK w0.heap.size aG aH aW aX aY aZ aI aJ my c.n.toNat y ⟨g,a6,aA,aB,aF.top,dR,dQ,eS,eT⟩ q.size 2 (j:Int) (j:Int) ⟨by omega,by omega⟩ (by omega)) Xdq) ?_;rintro _ fR ⟨eU,eX,eY,f0,f5,aC,cE,bE,dY,aL,aM,e8,eA,eB,cF,cG⟩;have i:=i.tu aC g rfl (alc (nrow a6 i rfl) (alc (nrow aA i rfl) (alc (nrow aB i rfl) al0)));have o:=o.tu aC g rfl (alc (nrow a6 o rfl) (alc (nrow aA o rfl) (alc (nrow aB o rfl) al0)))
  have q:=Below.ts q aC (SB.ge a8 (alc (fun _ h9=>X1l a6 h9) (alc (fun _ h9=>X1l aA h9) (alc (fun _ h9=>X1l aB h9) al0)))) q.size
  clear cE
  clear aC g;have g:=bE;clear bE
  clear aA;have aA:=aL;clear aL
  clear aB;have aB:=aM;clear aM;refine Zn fun a C=>?_;refine Xd<|dX _ _<|Zr C<|Zm rfl<|Ze (Xu rfl rfl (by omega) (by omega))<|Za rfl ?_;refine Zn fun a C=>?_;refine Xf ?_;exact ⟨(j+1,(nodB y 2 (j:Int) (j:Int)),f5),⟨eU,eX,eY,f0,aW,aX,aY,aZ,C.sb,(by omega),(by rw [Xgx,← hy]),(X9p bD ⟨by omega,by omega⟩),cF,cG,eB,(by have:=X60 y 2 (j:Int) (j:Int);omega),i,o,g,dY,e8.top,aA,aB,eA,q⟩,(by first|omega|(dsimp only;omega))⟩
 have cD:=a7;have a7:=Q1 a7
 have dW:j=c.n.toNat:=by have:=a7;omega
 have eC:outD y.d=ofD c:=by rw [hy,dW];rfl
 refine Q9<|Xk<|Xk<|X03 ?_;refine dO _ _<|Zs C fun _ eD=>?_;refine Zm rfl<|Ze (Xw rfl)<|Ze (Vd rfl X0f 0)<|Ze (Vd rfl X0q 3)<|Ze (X0 rfl X9 (g.at 3))<|Ze (X3y rfl rfl rfl)<|Ze (Xw rfl)<|Ze (Vd rfl X0f 0)<|Ze (Vd rfl X0q 3)<|Zo (Vu (vs:=[vi (y.d.t.tmod 8)]) (l':=[vi y.d.n,.slice aG my aH,.slice aI y.d.ws.length aJ,vi (y.d.t.tmod 8),vi y.d.r,.slice aW c.n.toNat aX,.slice aY c.n.toNat aZ]) rfl rfl X08 g) ?_;rintro _ fS ⟨M,hb⟩;have p:=g;have o:=o.only M (Blk.ne o p rfl);have a6:=a6.onlyT M p rfl;have aF:=aF.onlyT M p rfl;have q:=Below.only q M a8;have g:=hb;refine Zx eD fun a C _ eE=>?_;refine Zm rfl<|Ze (Xw rfl)<|Ze (Vd rfl X0f 0)<|Ze (X02 (l:=[vi y.d.n,.slice aG my aH,.slice aI y.d.ws.length aJ,vi (y.d.t.tmod 8),vi y.d.r]) rfl X2 ((g.at 0).take 5) rfl)<|Zo (Vw [vi y.d.n,.slice aG my aH,.slice aI y.d.ws.length aJ,vi (y.d.t.tmod 8),vi y.d.r] Xl o) ?_;rintro _ fT ⟨M,hb⟩;have p:=o;have a6:=a6.onlyT M p rfl;have aF:=aF.onlyT M p rfl;have q:=Below.only q M cN;have o:=hb;refine Zt eE fun a C=>?_
 refine Q6 (X5 C (Xr C rfl (ResV.cellN (l:=[vi y.d.n,.slice aG my aH,.slice aI y.d.ws.length aJ,vi (y.d.t.tmod 8),vi y.d.r]) rfl X2 (o.at 0) rfl)) ?_)
 rw [← eC]
 subst dQ
 exact ⟨aG,aH,aI,aJ,rfl,a6.rd.top,aF.top,dR,q⟩
end Go.Proofs.YtpifljegadknkaaGreat
