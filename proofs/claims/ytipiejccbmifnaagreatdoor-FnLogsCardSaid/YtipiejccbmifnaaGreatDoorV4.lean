/-
  Whatever the bytes, logs drawn from them are replayed, cut in two and read back as the law says; so it answers true.
-/
import Derived.Test.YtipiejccbmifnaaGreatDoorV3
import Derived.Test.YtipiejccbmifnaaGreatDoorV1
import Derived.Test.YtipiejccbmifnaaGreatDoorV2
import Derived.Lib.SplitLaws
import Derived.Lib.IndexBytes
import Derived.Lib.Atoi
import Derived.Lib.ItoaNum
import Derived.Lib.Join
import Derived.Lib.SlicesS
import Derived.Shelf.Strings.OnBuilder
import Derived.Shelf.Strconv.Atoi
import Derived.Shelf.LaysM
import Derived.Ground.NamesProg
import Derived.Shelf.Strconv.Itoa3
import Derived.Shelf.Strconv.AtoiErrFast
import Derived.Shelf.Strconv.AtoiFail
import Derived.Shelf.LaysC
import Derived.Shelf.Strings.Split
import Derived.Shelf.Slices.Turned
import Derived.Ground.Names2Prog
import Derived.Ground.SlgnProg
import Derived.Test.YtipiejccbmifnaaGreatDoorProg
set_option linter.unusedVariables false
set_option linter.unusedSimpArgs false
set_option maxHeartbeats 1000000
set_option maxRecDepth 4000
set_option linter.unusedSectionVars false
namespace Go.Proofs.YtipiejccbmifnaaGreatDoor
open Go.RowKit
theorem Xtc(w0:World)(bV B0:Nat)(A0:Option Addr)(c0:Nat)(A1:Option Addr)(c1 m0:Nat)(d:Dg)(eI:Dgm w0 bV B0 A0 c0 A1 c1 m0 d)(bJ:B0<=w0.heap.size)(p:Int)(q:Int)(hG:goodD d=true) : Ret Tryz.prog 171 [(pZ9 bV),vi p,vi q] w0 (fun v w=>∃ A c,v=.bool (pvC d p q)/\TurnS (SB bV [A0,A1]) w0 w/\Us (SB bV [A0,A1]) w0 A/\Dgm w bV B0 A0 c0 A c m0 (if pvC d p q=true then outD (pvD d p q) else d)):=by
 obtain ⟨b,e,C,aS⟩:=eI;have fG:=b.lt
 have bK:Us (SB bV [A0,A1]) w0 A0:=SB.us (by simp)
 have cA:Us (SB bV [A0,A1]) w0 A1:=SB.us (by simp)
 have hD:=X1b hG;have eJ:=X6f hG;have fL:=hD.m;have fM:=hD.len;have fN:=X1v d.ws p;have cS:=X1v (dpW d.ws p) q;have fH:=X5w hD p q;have fI:=X5w hD q p;have fO:=X88 hD p q;have fP:=X1l hD.p p.toNat;have fQ:=X1l hD.p q.toNat;refine enter Tryz.func171 rfl 233 rfl rfl ?_;intro a B
 have D:TurnS (SB bV [A0,A1]) w0 w0:=TurnS.refl _ _
 refine Zs B fun _ eK=>?_;refine Za rfl<|ZX eK fun a B _ eL=>?_;refine Q5 fun _ eM=>?_;refine X06 (fun a w=>Fr a 233 [(0,(pZ9 bV)),(1,vi p),(2,vi q),(75,.bool (((((((decide (p<0))||(decide (q<=p)))||(!(spI d.ns p)))||(!(spI d.ns q)))||((tyW d.ws p q) != 2))||((((d.ns.getD p.toNat nZ).p).tmod 4) != 0))||((((d.ns.getD q.toNat nZ).p).tmod 4) != 0)))]/\Below w0.heap.size w0 w) ?_ ?_
 ·have L:=bz w0
  refine Zr B<|Zm rfl<|Ze (X0i rfl rfl)<|Zm rfl ?_
  refine Zg 22 rfl (fun aF=>?_) (fun aF=>?_)
  ·(iterate 3 refine Zp (gP aF) ?_);refine Ze (X5 rfl aF rfl)<|Zm rfl<|Zp (gP rfl) ?_;(iterate 5 refine Zp (gP rfl) ?_);refine Ze (X5 rfl rfl rfl)<|Zm rfl<|Zp (gP rfl) ?_;(iterate 5 refine Zp (gP rfl) ?_);refine Ze (X5 rfl rfl rfl)<|Zm rfl<|Zp (gP rfl) ?_;(iterate 6 refine Zp (gP rfl) ?_);refine Ze (X5 rfl rfl rfl)<|Zm rfl<|Zp (gP rfl) ?_;(iterate 9 refine Zp (gP rfl) ?_);refine Ze (X5 rfl rfl rfl)<|Zm rfl<|Zp (gP rfl) ?_;(iterate 9 refine Zp (gP rfl) ?_);refine Ze (X5 rfl rfl rfl) ?_;refine Zn fun a B=>?_
   have Q:Below w0.heap.size w0 w0:=L
   exact ⟨B.sub ⟨rfl,rfl,rfl,X1 rfl (by first|rfl|(simp only [aF,bs];done)|simp [aF]),trivial⟩,Q⟩
  refine Zv (gW aF) (X3 rfl) ?_;refine Zv (gW aF) (X3 rfl) ?_;refine Zv (gW aF) (X4q rfl rfl) ?_;refine Ze (X9 rfl aF rfl)<|Zm rfl ?_
  refine Zg 27 rfl (fun U=>?_) (fun U=>?_)
  ·(iterate 6 refine Zp (gP U) ?_);refine Ze (X5 rfl U rfl)<|Zm rfl<|Zp (gP rfl) ?_;(iterate 5 refine Zp (gP rfl) ?_);refine Ze (X5 rfl rfl rfl)<|Zm rfl<|Zp (gP rfl) ?_;(iterate 6 refine Zp (gP rfl) ?_);refine Ze (X5 rfl rfl rfl)<|Zm rfl<|Zp (gP rfl) ?_;(iterate 9 refine Zp (gP rfl) ?_);refine Ze (X5 rfl rfl rfl)<|Zm rfl<|Zp (gP rfl) ?_;(iterate 9 refine Zp (gP rfl) ?_);refine Ze (X5 rfl rfl rfl) ?_;refine Zn fun a B=>?_
   have Q:Below w0.heap.size w0 w0:=L
   exact ⟨B.sub ⟨rfl,rfl,rfl,X1 rfl (by first|rfl|(simp only [aF,U,bs];done)|simp [aF,U]),trivial⟩,Q⟩
  refine Zv (gW U) (X3 rfl) ?_;refine Zv (gW U) (X03 rfl) ?_;refine Zv (gW U) (X00 (l:=[vi d.n,.slice A0 m0 c0,.slice A1 d.ws.length c1,vi d.t,vi d.r]) rfl X2 (b.at 0) rfl) ?_;refine Zv (gW U) (X3 rfl) ?_;refine Zk (gW U) (Vc (X4j _ d m0 aS A0 c0 e.rd.top A1 c1 C.rd.top C.cap p (by omega)) X2f) ?_;rintro _ w1 ⟨rfl,h⟩;have b:=b.bw h;have e:=e.bw h;have C:=C.bw h;have D:=tsbel D h;have L:=btr L h;refine Zv (gW U) (X0z rfl) ?_;refine Ze (X9 rfl U rfl)<|Zm rfl ?_
  refine Zg 35 rfl (fun a7=>?_) (fun a7=>?_)
  ·(iterate 6 refine Zp (gP a7) ?_);refine Ze (X5 rfl a7 rfl)<|Zm rfl<|Zp (gP rfl) ?_;(iterate 6 refine Zp (gP rfl) ?_);refine Ze (X5 rfl rfl rfl)<|Zm rfl<|Zp (gP rfl) ?_;(iterate 9 refine Zp (gP rfl) ?_);refine Ze (X5 rfl rfl rfl)<|Zm rfl<|Zp (gP rfl) ?_;(iterate 9 refine Zp (gP rfl) ?_);refine Ze (X5 rfl rfl rfl) ?_;refine Zn fun a B=>?_
   have Q:Below w0.heap.size w0 w1:=L
   exact ⟨B.sub ⟨rfl,rfl,rfl,X1 rfl (by first|rfl|(simp only [aF,U,a7,bs];done)|simp [aF,U,a7]),trivial⟩,Q⟩
  have cT:0<=p/\p.toNat<d.ns.length:=by have h9:=X0s (ns:=d.ns) (k:=p) (by simpa using a7);exact ⟨h9.1,h9.2.1⟩
  refine Zv (gW a7) (X3 rfl) ?_;refine Zv (gW a7) (X03 rfl) ?_;refine Zv (gW a7) (X00 (l:=[vi d.n,.slice A0 m0 c0,.slice A1 d.ws.length c1,vi d.t,vi d.r]) rfl X2 (b.at 0) rfl) ?_;refine Zv (gW a7) (X3 rfl) ?_;refine Zk (gW a7) (Vc (X4j _ d m0 aS A0 c0 e.rd.top A1 c1 C.rd.top C.cap q (by omega)) X2f) ?_;rintro _ w2 ⟨rfl,h⟩;have b:=b.bw h;have e:=e.bw h;have C:=C.bw h;have D:=tsbel D h;have L:=btr L h;refine Zv (gW a7) (X0z rfl) ?_;refine Ze (X9 rfl a7 rfl)<|Zm rfl ?_
  refine Zg 43 rfl (fun a8=>?_) (fun a8=>?_)
  ·(iterate 7 refine Zp (gP a8) ?_);refine Ze (X5 rfl a8 rfl)<|Zm rfl<|Zp (gP rfl) ?_;(iterate 9 refine Zp (gP rfl) ?_);refine Ze (X5 rfl rfl rfl)<|Zm rfl<|Zp (gP rfl) ?_;(iterate 9 refine Zp (gP rfl) ?_);refine Ze (X5 rfl rfl rfl) ?_;refine Zn fun a B=>?_
   have Q:Below w0.heap.size w0 w2:=L
   exact ⟨B.sub ⟨rfl,rfl,rfl,X1 rfl (by first|rfl|(simp only [aF,U,a7,a8,bs];done)|simp [aF,U,a7,a8]),trivial⟩,Q⟩
  have cB:0<=q/\q.toNat<d.ns.length:=by have h9:=X0s (ns:=d.ns) (k:=q) (by simpa using a8);exact ⟨h9.1,h9.2.1⟩
  refine Zv (gW a8) (X3 rfl) ?_;refine Zv (gW a8) (X03 rfl) ?_;refine Zv (gW a8) (X00 (l:=[vi d.n,.slice A0 m0 c0,.slice A1 d.ws.length c1,vi d.t,vi d.r]) rfl X2 (b.at 0) rfl) ?_;refine Zv (gW a8) (X3 rfl) ?_;refine Zv (gW a8) (X3 rfl) ?_;refine Zk (gW a8) (Vc (X5h _ d m0 aS A0 c0 e.rd.top A1 c1 C.rd.top C.cap p q (by omega)) X2r) ?_;rintro _ w3 ⟨rfl,h⟩;have b:=b.bw h;have e:=e.bw h;have D:=tsbel D h;have L:=btr L h;refine Zv (gW a8) (X1c rfl rfl) ?_;refine Ze (X9 rfl a8 rfl)<|Zm rfl ?_
  refine Zg 52 rfl (fun E=>?_) (fun E=>?_)
  ·(iterate 10 refine Zp (gP E) ?_);refine Ze (X5 rfl E rfl)<|Zm rfl<|Zp (gP rfl) ?_;(iterate 9 refine Zp (gP rfl) ?_);refine Ze (X5 rfl rfl rfl) ?_;refine Zn fun a B=>?_
   have Q:Below w0.heap.size w0 w3:=L
   exact ⟨B.sub ⟨rfl,rfl,rfl,X1 rfl (by first|rfl|(simp only [aF,U,a7,a8,E,bs];done)|simp [aF,U,a7,a8,E]),trivial⟩,Q⟩
  refine Zv (gW E) (X3 rfl) ?_;refine Zv (gW E) (X03 rfl) ?_;refine Zv (gW E) (Vd rfl Xc 1) ?_;refine Zv (gW E) (X0 rfl Xv (b.at 1)) ?_;refine Zv (gW E) (X3 rfl) ?_;refine Zv (gW E) (Xp (k:=p.toNat) rfl rfl Xm X05 e aS (by omega) (by omega)) ?_;refine Zv (gW E) (X0w rfl X04 (m':=p.toNat*2+1) rfl) ?_;refine Zv (gW E) (X0 rfl Xa (X0u e Xt (Xg (d:=nZ) (by omega)) 1 rfl)) ?_;refine Zv (gW E) (X3q rfl rfl rfl) ?_;refine Zv (gW E) (X1c rfl rfl) ?_;refine Ze (X9 rfl E rfl)<|Zm rfl ?_
  refine Zg 64 rfl (fun G=>?_) (fun G=>?_)
  ·(iterate 10 refine Zp (gP G) ?_);refine Ze (X5 rfl G rfl) ?_;refine Zn fun a B=>?_
   have Q:Below w0.heap.size w0 w3:=L
   exact ⟨B.sub ⟨rfl,rfl,rfl,X1 rfl (by first|rfl|(simp only [aF,U,a7,a8,E,G,bs];done)|simp [aF,U,a7,a8,E,G]),trivial⟩,Q⟩
  refine Zv (gW G) (X3 rfl) ?_;refine Zv (gW G) (X03 rfl) ?_;refine Zv (gW G) (Vd rfl Xc 1) ?_;refine Zv (gW G) (X0 rfl Xv (b.at 1)) ?_;refine Zv (gW G) (X3 rfl) ?_;refine Zv (gW G) (Xp (k:=q.toNat) rfl rfl Xm X05 e aS (by omega) (by omega)) ?_;refine Zv (gW G) (X0w rfl X04 (m':=q.toNat*2+1) rfl) ?_;refine Zv (gW G) (X0 rfl Xa (X0u e Xt (Xg (d:=nZ) (by omega)) 1 rfl)) ?_;refine Zv (gW G) (X3q rfl rfl rfl) ?_;refine Zv (gW G) (X1c rfl rfl) ?_;refine Ze (X9 rfl G rfl) ?_;refine Zn fun a B=>?_
  have Q:Below w0.heap.size w0 w3:=L
  exact ⟨B.sub ⟨rfl,rfl,rfl,X1 rfl (by first|rfl|(simp only [aF,U,a7,a8,E,G,bs];done)|simp [aF,U,a7,a8,E,G]),trivial⟩,Q⟩
 rintro a w4 ⟨B,h⟩;have b:=b.bw h;have e:=e.bw h;have C:=C.bw h;have D:=tsbel D h;refine eM _ _ ?_
 refine Xf B rfl (fun b4=>?_) (fun b4=>?_)
 ·have H:=b4;have cC:=Xk0 hD b4;refine Zs B fun _ cU=>?_;refine Za rfl<|Zt cU fun a B=>?_;refine Q6<|X8<|X6 B (Xs B rfl rfl) ?_
  rw [cC,Q3 Bool.false_ne_true]
  exact ⟨A1,c1,rfl,D,cA,⟨b,e,C,aS⟩⟩
 have H:=b4;obtain ⟨cT,cB,bL,cV,cW,hab⟩:=Xgj hD b4;refine Q7<|eL _ _<|Q5 fun _ cX=>?_;refine Xz none (fun _=>false) mixed ?_;intro w5 h;have b:=b.bw h;have e:=e.bw h;have C:=C.bw h;have D:=tsbel D h;refine Yb B<|Yo 0 rfl (fun _=>X3 rfl)<|Yo 1 rfl (fun _=>X03 rfl)<|Ye 2 rfl (X00 (l:=[vi d.n,.slice A0 m0 c0,.slice A1 d.ws.length c1,vi d.t,vi d.r]) rfl X2 (b.at 0) rfl)<|Yo 3 rfl (fun _=>X3 rfl)<|Yo 5 rfl (fun _=>X3 rfl)<|Yo 7 rfl (fun _=>X3 rfl)<|Yo 8 rfl (fun _=>X03 rfl)<|Ye 9 rfl (X00 (l:=[vi d.n,.slice A0 m0 c0,.slice A1 d.ws.length c1,vi d.t,vi d.r]) rfl X2 (b.at 0) rfl)<|Yo 10 rfl (fun _=>X3 rfl)<|Yo 12 rfl (fun _=>X3 rfl) ?_;refine Y1 4<|Yk rfl tv0 (Vc (X7d _ d m0 aS A0 c0 e.rd.top A1 c1 C.rd.top C.cap p hD.w (by omega)) X43) (fun _ _ ⟨cY,cZ,_,aN,h⟩=>h) ?_;rintro _ w6 ⟨cY,cZ,rfl,aN,h⟩;have aN:=aN.lower D.size;have b:=b.bw h;have e:=e.bw h;have C:=C.bw h;have D:=tsbel D h;refine Y1 6<|Yk rfl tv0 (Vc (Xmm _ cY cZ (nearW d.ws p) aN.rd.top q (by have:=X2q hD p;omega)) Xcc) (fun _ _ ⟨aB,aC,_,f,h⟩=>h) ?_;rintro _ w7 ⟨aB,aC,rfl,f,h⟩;have cM:=aN.apart f (Qb _);have f:=f.lower D.size;have b:=b.bw h;have e:=e.bw h;have C:=C.bw h;have aN:=aN.bw h;have D:=tsbel D h;refine Y1 11<|Yk rfl tv0 (Vc (X7d _ d m0 aS A0 c0 e.rd.top A1 c1 C.rd.top C.cap q hD.w (by omega)) X43) (fun _ _ ⟨d5,d6,_,aY,h⟩=>h) ?_;rintro _ w8 ⟨d5,d6,rfl,aY,h⟩;have cN:=aN.apart aY (Qb _);have cO:=f.apart aY (Qb _);have aY:=aY.lower D.size
 have b:=b.bw h;have e:=e.bw h;have C:=C.bw h;have aN:=aN.bw h;have f:=f.bw h;have D:=tsbel D h;refine Y1 13<|Yk rfl tv0 (Vc (Xmm _ d5 d6 (nearW d.ws q) aY.rd.top p (by have:=X2q hD q;omega)) Xcc) (fun _ _ ⟨aD,aE,_,y,h⟩=>h) ?_;rintro _ w9 ⟨aD,aE,rfl,y,h⟩;have cP:=aN.apart y (Qb _);have cQ:=f.apart y (Qb _);have cR:=aY.apart y (Qb _);have y:=y.lower D.size;have b:=b.bw h;have e:=e.bw h;have C:=C.bw h;have f:=f.bw h;have D:=tsbel D h;refine Yo 14 rfl (fun _=>X0h rfl)<|Yo 15 rfl (fun _=>X0h rfl) ?_;refine Yd fun a B=>?_;refine cX _ _<|Zs B fun _ d7=>?_;refine Zm rfl<|Zm rfl<|Zf (Xj (k:=2) (vs:=[.slice aB (othW d.ws p q).length aC,.slice aD (othW d.ws q p).length aE]) (zs:=[.slice aB (othW d.ws p q).length aC,.slice aD (othW d.ws q p).length aE]) rfl X6w Xon rfl rfl) ?_;rintro _ fR ⟨eO,rfl,d8,h,bT⟩;have eP:=Q0 D.size d8;have b:=b.bw h;have e:=e.bw h;have C:=C.bw h;have f:=f.bw h;have y:=y.bw h;have D:=tsbel D h;refine Zf (Vc (F93 _ [(⟨aB,aC,(othW d.ws p q)⟩ : Sl),(⟨aD,aE,(othW d.ws q p)⟩ : Sl)] (some ⟨eO,0,none⟩) 2 (Rd.of_blk bT rfl _ bT.lt) (fun s hs=>by rcases Qv.1 hs with rfl|hs;exact f.rd.top;rw [Qm.1 hs];exact y.rd.top) (by simp) (by simp;omega)) Xrt) ?_;rintro _ fS ⟨aG,aI,rfl,g,h⟩;have b2:=f.apart g (Qb _);have b3:=y.apart g (Qb _);have g:=g.lower D.size;have b:=b.bw h;have e:=e.bw h;have C:=C.bw h;have f:=f.bw h
 have y:=y.bw h;have D:=tsbel D h;refine Za rfl<|Zx d7 fun a B _ d9=>?_;refine Zm rfl<|Zf (Vc (F94 _ w0.heap.size aG aI (List.flatMap Sl.l [(⟨aB,aC,(othW d.ws p q)⟩ : Sl),(⟨aD,aE,(othW d.ws q p)⟩ : Sl)]) g (by simp;omega)) Xll) ?_;rintro _ fT ⟨b5,hg⟩;have aO:=g;have b:=b.appT aO hg rfl;have e:=e.appT aO hg rfl;have C:=C.appT aO hg rfl;have f:=f.appP hg b2;have y:=y.appP hg b3
 have D:=tsrow D hg (fun _ cD=>.inr (X20 aO cD))
 clear aO hg;clear g;have g:=b5;clear b5;refine Zx d9 fun a B _ dA=>?_;refine Zm rfl<|Zf (X16 (vs:=[.slice aG (List.flatMap Sl.l [(⟨aB,aC,(othW d.ws p q)⟩ : Sl),(⟨aD,aE,(othW d.ws q p)⟩ : Sl)]).length aI]) rfl Xt6 (by have h9:=Xv3 _ w0.heap.size aG aI (sortI (List.flatMap Sl.l [(⟨aB,aC,(othW d.ws p q)⟩ : Sl),(⟨aD,aE,(othW d.ws q p)⟩ : Sl)])) ((List.flatMap Sl.l [(⟨aB,aC,(othW d.ws p q)⟩ : Sl),(⟨aD,aE,(othW d.ws q p)⟩ : Sl)]).length) (by simp [sortI]) g (by simp [sortI];omega);rw [show Lib.compact (sortI (List.flatMap Sl.l [(⟨aB,aC,(othW d.ws p q)⟩ : Sl),(⟨aD,aE,(othW d.ws q p)⟩ : Sl)]))=(pvL d p q) from by rw [<- Xp1 hD];unfold unionI;congr 2] at h9;exact h9)) ?_;rintro _ w13 ⟨rfl,b5,hg⟩;have aO:=g;have b:=b.appT aO hg rfl;have e:=e.appT aO hg rfl;have C:=C.appT aO hg rfl;have f:=f.appP hg b2;have y:=y.appP hg b3
 have D:=tsrow D hg (fun _ cD=>.inr (X20 aO cD))
 clear aO hg;clear g;have g:=b5;clear b5;refine Za rfl<|ZX dA fun a B _ dB=>?_;refine Q5 fun _ dC=>?_;refine X06 (fun a w=>Fr a 233 [(0,(pZ9 bV)),(1,vi p),(2,vi q),(7,.slice aB (othW d.ws p q).length aC),(8,.slice aD (othW d.ws q p).length aE),(9,.slice aG (pvL d p q).length aI),(120,.bool (((!(!((othW d.ws p q).any fun x=>!(spI d.ns x)||tyW d.ws p x != 2)))||(!(!((othW d.ws q p).any fun x=>!(spI d.ns x)||tyW d.ws q x != 2))))||(prD d (pvL d p q))))]/\Below w13.heap.size w13 w) ?_ ?_
 ·have L:Below w13.heap.size w13 w13:=Below.refl _ _
  refine Zr B<|Zm rfl<|Ze (X03 rfl)<|Ze (X00 (l:=[vi d.n,.slice A0 m0 c0,.slice A1 d.ws.length c1,vi d.t,vi d.r]) rfl X2 (b.at 0) rfl)<|Zm rfl<|Zm rfl<|Zf (Vc (Xf6 _ d m0 aS A0 c0 e.rd.top A1 c1 C.rd.top C.cap p aB aC (othW d.ws p q) f.rd.top (by omega) (by omega) (by omega)) X8j) ?_;rintro _ w14 ⟨rfl,h⟩;have b:=b.bw h;have e:=e.bw h;have C:=C.bw h;have y:=y.bw h;have g:=g.bw h;have D:=tsbel D h;have L:=btr L h;refine Ze (X0z rfl)<|Zm rfl ?_
  refine Zg 105 rfl (fun I=>?_) (fun I=>?_)
  ·(iterate 7 refine Zp (gP I) ?_);refine Ze (X5 rfl I rfl)<|Zm rfl<|Zp (gP rfl) ?_;(iterate 4 refine Zp (gP rfl) ?_);refine Ze (X5 rfl rfl rfl) ?_;refine Zn fun a B=>?_
   have Q:Below w13.heap.size w13 w14:=L
   exact ⟨B.sub ⟨rfl,rfl,rfl,rfl,rfl,rfl,X1 rfl (by first|rfl|(simp only [H,I,bs];done)|simp [H,I]),trivial⟩,Q⟩
  refine Zv (gW I) (X3 rfl) ?_;refine Zv (gW I) (X03 rfl) ?_;refine Zv (gW I) (X00 (l:=[vi d.n,.slice A0 m0 c0,.slice A1 d.ws.length c1,vi d.t,vi d.r]) rfl X2 (b.at 0) rfl) ?_;refine Zv (gW I) (X3 rfl) ?_;refine Zv (gW I) (X3 rfl) ?_;refine Zk (gW I) (Vc (Xf6 _ d m0 aS A0 c0 e.rd.top A1 c1 C.rd.top C.cap q aD aE (othW d.ws q p) y.rd.top (by omega) (by omega) (by omega)) X8j) ?_;rintro _ w15 ⟨rfl,h⟩;have b:=b.bw h;have e:=e.bw h;have C:=C.bw h;have g:=g.bw h;have D:=tsbel D h;have L:=btr L h;refine Zv (gW I) (X0z rfl) ?_;refine Ze (X9 rfl I rfl)<|Zm rfl ?_
  refine Zg 114 rfl (fun aA=>?_) (fun aA=>?_)
  ·(iterate 5 refine Zp (gP aA) ?_);refine Ze (X5 rfl aA rfl) ?_;refine Zn fun a B=>?_
   have Q:Below w13.heap.size w13 w15:=L
   exact ⟨B.sub ⟨rfl,rfl,rfl,rfl,rfl,rfl,X1 rfl (by first|rfl|(simp only [H,I,aA,bs];done)|simp [H,I,aA]),trivial⟩,Q⟩
  refine Zv (gW aA) (X3 rfl) ?_;refine Zv (gW aA) (X03 rfl) ?_;refine Zv (gW aA) (X00 (l:=[vi d.n,.slice A0 m0 c0,.slice A1 d.ws.length c1,vi d.t,vi d.r]) rfl X2 (b.at 0) rfl) ?_;refine Zv (gW aA) (X3 rfl) ?_;refine Zk (gW aA) (Vc (Xmb _ d m0 aS A0 c0 e.rd.top A1 c1 C.rd.top C.cap aG aI (pvL d p q) g.rd.top (by omega) (by omega) g.cap) Xda) ?_;rintro _ w16 ⟨rfl,h⟩;have D:=tsbel D h;have L:=btr L h;refine Ze (X9 rfl aA rfl) ?_;refine Zn fun a B=>?_
  have Q:Below w13.heap.size w13 w16:=L
  exact ⟨B.sub ⟨rfl,rfl,rfl,rfl,rfl,rfl,X1 rfl (by first|rfl|(simp only [H,I,aA,bs];done)|simp [H,I,aA]),trivial⟩,Q⟩
 rintro a fU ⟨B,h⟩;have b:=b.bw h;have e:=e.bw h;have C:=C.bw h;have f:=f.bw h;have y:=y.bw h;have g:=g.bw h;have D:=tsbel D h;refine dC _ _ ?_
 refine Xf B rfl (fun b6=>?_) (fun b6=>?_)
 ·have W:=b6
  have cC:pvC d p q=false:=Xj8 cW b6
  refine Zs B fun _ dD=>?_;refine Za rfl<|Zt dD fun a B=>?_;refine Q6<|X8<|X6 B (Xs B rfl rfl) ?_
  rw [cC,Q3 Bool.false_ne_true]
  exact ⟨A1,c1,rfl,D,cA,⟨b,e,C,aS⟩⟩
 have W:=b6;obtain ⟨dE,eQ⟩:=Xee hD cV cW b6
 have dF:∀ v ∈ pvL d p q,v.toNat<(id0 (id0 d p) q).ns.length:=fun v hv=>by obtain ⟨i,hi⟩:=List.mem_iff_getElem?.1 hv;have:=X99 hD hi;show v.toNat<(dpN (dpN d.ns p) q).length;rw [X1k,X1k];exact this.2
 have bU:PhN (id0 (id0 d p) q).ns:=X3r (X3r hD.p p) q
 refine Q7<|dB _ _<|Q5 fun _ dG=>?_;refine Xz none (fun _=>false) mixed ?_;intro fV h;have b:=b.bw h;have e:=e.bw h;have C:=C.bw h;have f:=f.bw h;have y:=y.bw h;have g:=g.bw h;have D:=tsbel D h;refine Yb B<|Yo 0 rfl (fun _=>X3 rfl)<|Yo 1 rfl (fun _=>X03 rfl)<|Yo 2 rfl (fun _=>Vd rfl Xc 1)<|Ye 3 rfl (X0 rfl Xv (b.at 1))<|Yo 4 rfl (fun _=>X3 rfl)<|Yo 5 rfl (fun _=>Xp (k:=p.toNat) rfl rfl Xm X05 e aS (by omega) (by omega))<|Yo 6 rfl (fun _=>X0w rfl X04 (m':=p.toNat*2+1) rfl)<|Ye 7 rfl (X0 rfl Xa (X0u e Xt (Xg (d:=nZ) (by omega)) 1 rfl))<|Yo 8 rfl (fun _=>X3 rfl)<|Yo 9 rfl (fun _=>X03 rfl) ?_;refine Yo 10 rfl (fun _=>Vd rfl Xc 1)<|Ye 11 rfl (X0 rfl Xv (b.at 1))<|Yo 12 rfl (fun _=>X3 rfl)<|Yo 13 rfl (fun _=>Xp (k:=q.toNat) rfl rfl Xm X05 e aS (by omega) (by omega))<|Yo 14 rfl (fun _=>X0w rfl X04 (m':=q.toNat*2+1) rfl)<|Ye 15 rfl (X0 rfl Xa (X0u e Xt (Xg (d:=nZ) (by omega)) 1 rfl))<|Yo 16 rfl (fun _=>X0h rfl)<|Yo 17 rfl (fun _=>X0h rfl) ?_;refine Yd fun a B=>?_;refine dG _ _<|Zs B fun _ dH=>?_;refine Zm rfl<|Zm rfl<|Zf (Vc (X7e _ bV B0 A0 c0 A1 c1 m0 d ⟨b,e,C,aS⟩ (Q0 bJ D.size) p cT (by omega)) X40) ?_;rintro _ fW ⟨eR,eS,N,b9,aT,aH,bG,cE⟩;have f:=f.tu N b rfl (alc (X0r e rfl) (alc (X0r C rfl) al0));have y:=y.tu N b rfl (alc (X0r e rfl) (alc (X0r C rfl) al0));have g:=g.tu N b rfl (alc (X0r e rfl) (alc (X0r C rfl) al0));have aL:=SB.lift (S:=SB bV [A0,A1]) (w0:=w0) (.inl (.inl rfl)) (alc bK (alc cA al0));have b9:=Us.trans b9 aL D.size
 have D:=tstr D N aL;clear aL
 clear N b;have b:=aT;clear aT
 clear e;have e:=aH;clear aH;refine Zx dH fun a B _ dI=>?_;refine Zm rfl<|Zm rfl<|Zf (Vc (X7e _ bV B0 A0 c0 eR eS m0 (id0 d p) ⟨b,e,bG,cE⟩ (Q0 bJ D.size) q ⟨cB.1,by show q.toNat<(dpN d.ns p).length;rw [X1k];exact cB.2⟩ (by show (dpW d.ws p).length<=_;omega)) X40) ?_;rintro _ fX ⟨eT,eU,N,bA,aT,aH,dJ,eV⟩;have f:=f.tu N b rfl (alc (X0r e rfl) (alc (X0r bG rfl) al0));have y:=y.tu N b rfl (alc (X0r e rfl) (alc (X0r bG rfl) al0));have g:=g.tu N b rfl (alc (X0r e rfl) (alc (X0r bG rfl) al0));have aL:=SB.lift (S:=SB bV [A0,A1]) (w0:=w0) (.inl (.inl rfl)) (alc bK (alc b9 al0));have bA:=Us.trans bA aL D.size
 have D:=tstr D N aL;clear aL
 clear N b;have b:=aT;clear aT
 clear e;have e:=aH;clear aH;refine ZX dI fun a B _ dK=>?_;refine Zs B fun _ dL=>?_;refine Zm rfl<|Ze (X07 rfl Xk)<|Zm rfl<|Zt dL fun a B=>?_;refine Q8<|X02 (σ:=Nat×Dg) (fun (s:Nat×Dg) (a:Act) (w:World)=>match s with|(k,o)=>∃ aX b1,Fr a 233 [(0,(pZ9 bV)),(7,.slice aB (othW d.ws p q).length aC),(8,.slice aD (othW d.ws q p).length aE),(9,.slice aG (pvL d p q).length aI),(10,vi ((d.ns.getD p.toNat nZ).p)),(11,vi ((d.ns.getD q.toNat nZ).p)),(143,.slice aG (pvL d p q).length aI),(144,vi ((pvL d p q).length:Int)),(145,vi (k:Int))]/\(k<=(pvL d p q).length)/\(o=pvI (d.ns.getD p.toNat nZ).p (d.ns.getD q.toNat nZ).p (othW d.ws p q) (othW d.ws q p) (pvL d p q) (id0 (id0 d p) q) k)/\(m0=o.ns.length)/\(o.ws.length<=d.ws.length+k*2000)/\(PhN o.ns)/\(WSd o.ws)/\Blk w bV 31 [vi o.n,.slice A0 m0 c0,.slice aX o.ws.length b1,vi o.t,vi o.r]/\Own w B0 76 2 encNd A0 c0 o.ns/\Own w w0.heap.size 3 1 encI aB aC (othW d.ws p q)/\Own w w0.heap.size 3 1 encI aD aE (othW d.ws q p)/\Own w w0.heap.size 3 1 encI aG aI (pvL d p q)/\Own w B0 84 3 encWr aX b1 o.ws/\Us (SB bV [A0,A1]) w0 aX/\TurnS (SB bV [A0,A1]) w0 w) (fun (s:Nat×Dg)=>match s with|(k,o)=>(pvL d p q).length-k) (0,(id0 (id0 d p) q)) ?_ ?_
 ·exact ⟨eT,eU,B.sb,(Qf _),rfl,((aS.trans (X1k _ _).symm).trans (X1k _ _).symm),(Q0 cS (by omega)),bU,(List.Pairwise.filter _ (List.Pairwise.filter _ hD.w.s)),b,e,f,y,g,dJ,bA,D⟩
 rintro ⟨k,o⟩ a eX ⟨aX,b1,B,hk,dM,bM,eY,bP,eZ,b,e,f,y,g,M,aZ,D⟩;refine Zs B fun _ dN=>?_;refine Ze (X0i rfl rfl)<|ZX dN fun a B _ dO=>?_
 refine Xf B rfl (fun aU=>?_) (fun aU=>?_)
 ·have a6:=aU;have aU:=Q2 aU
  obtain ⟨fY,fJ⟩:=X4 (l:=(pvL d p q)) (k:=k) (by omega)
  obtain ⟨J,cF⟩:=X4 (l:=(pvL d p q)) (k:=k) (by have:=aU;omega)
  have dP:=X99 hD cF;have fZ:=X1l bP J.toNat
  have g5:=Xo1 bL.1 bL.2 ((othW d.ws p q).any fun v=>v==J) ((othW d.ws q p).any fun v=>v==J)
  refine Q7<|dO _ _<|Q5 fun _ dQ=>?_;refine Q8<|Zs B fun _ dR=>?_;refine Zm rfl<|Ze (Xp (k:=k) rfl rfl Xk X0a g rfl rfl (by omega))<|Ze (X0 rfl Xa (X0u g Xh cF 0 rfl))<|Za rfl<|Za rfl<|Zx dR fun a B _ dS=>?_;refine Zm rfl<|Zm rfl<|Zf (X16 (vs:=[.slice aB (othW d.ws p q).length aC,vi J]) rfl X8r (by have h9:=Xkb _ aB aC (othW d.ws p q) f.rd.top J (by omega);rw [X67] at h9;exact h9)) ?_;rintro _ g6 ⟨rfl,h⟩;have b:=b.bw h;have e:=e.bw h;have f:=f.bw h;have y:=y.bw h;have g:=g.bw h;have M:=M.bw h;have D:=tsbel D h;refine Zm rfl<|Zm rfl<|Zf (X16 (vs:=[.slice aD (othW d.ws q p).length aE,vi J]) rfl X8r (by have h9:=Xkb _ aD aE (othW d.ws q p) y.rd.top J (by omega);rw [X67] at h9;exact h9)) ?_;rintro _ g7 ⟨rfl,h⟩;have b:=b.bw h;have e:=e.bw h;have f:=f.bw h;have y:=y.bw h;have g:=g.bw h;have M:=M.bw h;have D:=tsbel D h;refine Za rfl<|Za rfl<|ZX dS fun a B _ dT=>?_;refine X06 (fun a w=>∃ bB bH,Fr a 233 [(0,(pZ9 bV)),(7,.slice aB (othW d.ws p q).length aC),(8,.slice aD (othW d.ws q p).length aE),(9,.slice aG (pvL d p q).length aI),(10,vi ((d.ns.getD p.toNat nZ).p)),(11,vi ((d.ns.getD q.toNat nZ).p)),(12,vi (k:Int)),(13,vi J),(14,.bool ((othW d.ws p q).any fun v=>v==J)),(15,.bool ((othW d.ws q p).any fun v=>v==J)),(143,.slice aG (pvL d p q).length aI),(144,vi ((pvL d p q).length:Int)),(145,vi (k:Int))]/\Own w B0 84 3 encWr bB bH (({ o with ns:=adN o.ns J (pvG (d.ns.getD p.toNat nZ).p (d.ns.getD q.toNat nZ).p ((othW d.ws p q).any fun v=>v==J) ((othW d.ws q p).any fun v=>v==J)) } : Dg).ws)/\Us (SB bV [A0,A1]) w0 bB/\Blk w bV 31 [vi (({ o with ns:=adN o.ns J (pvG (d.ns.getD p.toNat nZ).p (d.ns.getD q.toNat nZ).p ((othW d.ws p q).any fun v=>v==J) ((othW d.ws q p).any fun v=>v==J)) } : Dg).n),.slice A0 m0 c0,.slice bB (({ o with ns:=adN o.ns J (pvG (d.ns.getD p.toNat nZ).p (d.ns.getD q.toNat nZ).p ((othW d.ws p q).any fun v=>v==J) ((othW d.ws q p).any fun v=>v==J)) } : Dg).ws).length bH,vi (({ o with ns:=adN o.ns J (pvG (d.ns.getD p.toNat nZ).p (d.ns.getD q.toNat nZ).p ((othW d.ws p q).any fun v=>v==J) ((othW d.ws q p).any fun v=>v==J)) } : Dg).t),vi (({ o with ns:=adN o.ns J (pvG (d.ns.getD p.toNat nZ).p (d.ns.getD q.toNat nZ).p ((othW d.ws p q).any fun v=>v==J) ((othW d.ws q p).any fun v=>v==J)) } : Dg).r)]/\Own w B0 76 2 encNd A0 c0 (({ o with ns:=adN o.ns J (pvG (d.ns.getD p.toNat nZ).p (d.ns.getD q.toNat nZ).p ((othW d.ws p q).any fun v=>v==J) ((othW d.ws q p).any fun v=>v==J)) } : Dg).ns)/\Own w w0.heap.size 3 1 encI aB aC (othW d.ws p q)/\Own w w0.heap.size 3 1 encI aD aE (othW d.ws q p)/\Own w w0.heap.size 3 1 encI aG aI (pvL d p q)/\Us (SB bV [A0,A1]) w0 aX/\TurnS (SB bV [A0,A1]) w0 w) ?_ ?_
  ·refine Zr B<|Zm rfl<|Zm rfl<|Zm rfl<|Zm rfl<|Zf (Vc (F59 _ ((othW d.ws p q).any fun v=>v==J)) X9p) ?_;rintro _ _ ⟨rfl,rfl⟩;refine Ze (X80 rfl rfl (by omega) (by omega))<|Zm rfl<|Zm rfl<|Zf (Vc (F59 _ ((othW d.ws q p).any fun v=>v==J)) X9p) ?_;rintro _ _ ⟨rfl,rfl⟩;refine Ze (X80 rfl rfl (by omega) (by omega))<|Ze (Xr rfl rfl (by omega) (by omega))<|Zm rfl<|Zm rfl ?_
   refine Zg 168 rfl (fun b0=>?_) (fun b0=>?_)
   ·refine Zv (gW b0) (X3 rfl) ?_;refine Ze (X5 rfl b0 rfl)<|Zf (Vc (F59 _ ((othW d.ws q p).any fun v=>v==J)) X9p) ?_;rintro _ _ ⟨rfl,rfl⟩;refine Ze (Vx (X80 rfl rfl (by omega) (by omega)) (show _=(4*(if (((othW d.ws p q).any fun v=>v==J)&&((othW d.ws q p).any fun v=>v==J))=true then 1 else 0)) from (by rw [b0,Qw])))<|Ze (Xr rfl rfl (by omega) (by omega))<|Ze (Vx (X3q rfl rfl rfl) (rfl:_=(pvG (d.ns.getD p.toNat nZ).p (d.ns.getD q.toNat nZ).p ((othW d.ws p q).any fun v=>v==J) ((othW d.ws q p).any fun v=>v==J))))<|Zf (Vc (X9l _ bV B0 A0 c0 aX b1 m0 o ⟨b,e,M,bM⟩ (Q0 bJ D.size) J (pvG (d.ns.getD p.toNat nZ).p (d.ns.getD q.toNat nZ).p ((othW d.ws p q).any fun v=>v==J) ((othW d.ws q p).any fun v=>v==J)) ⟨dP.1,by omega⟩ bP ⟨by omega,by omega⟩) X5i) ?_;rintro _ g8 ⟨bB,bH,N,bC,aT,aH,bN,f0⟩;have f:=f.tu N b rfl (alc (X0r e rfl) (alc (X0r M rfl) al0));have y:=y.tu N b rfl (alc (X0r e rfl) (alc (X0r M rfl) al0));have g:=g.tu N b rfl (alc (X0r e rfl) (alc (X0r M rfl) al0));have aL:=SB.lift (S:=SB bV [A0,A1]) (w0:=w0) (.inl (.inl rfl)) (alc bK (alc aZ al0));have bC:=Us.trans bC aL D.size
    have D:=tstr D N aL;clear aL
    clear N b;have b:=aT;clear aT
    clear e;have e:=aH;clear aH;refine Zn fun a B=>?_;exact ⟨bB,bH,B.sb,bN,bC,b,e,f,y,g,aZ,D⟩
   refine Zp (gP b0) ?_;refine Ze (X9 rfl b0 rfl)<|Zf (Vc (F59 _ false) X9p) ?_;rintro _ _ ⟨rfl,rfl⟩;refine Ze (Vx (X80 rfl rfl (by omega) (by omega)) (show _=(4*(if (((othW d.ws p q).any fun v=>v==J)&&((othW d.ws q p).any fun v=>v==J))=true then 1 else 0)) from (by rw [b0,Bool.false_and])))<|Ze (Xr rfl rfl (by omega) (by omega))<|Ze (Vx (X3q rfl rfl rfl) (rfl:_=(pvG (d.ns.getD p.toNat nZ).p (d.ns.getD q.toNat nZ).p ((othW d.ws p q).any fun v=>v==J) ((othW d.ws q p).any fun v=>v==J))))<|Zf (Vc (X9l _ bV B0 A0 c0 aX b1 m0 o ⟨b,e,M,bM⟩ (Q0 bJ D.size) J (pvG (d.ns.getD p.toNat nZ).p (d.ns.getD q.toNat nZ).p ((othW d.ws p q).any fun v=>v==J) ((othW d.ws q p).any fun v=>v==J)) ⟨dP.1,by omega⟩ bP ⟨by omega,by omega⟩) X5i) ?_;rintro _ gA ⟨f3,f5,N,bD,aT,aH,dU,f7⟩;have f:=f.tu N b rfl (alc (X0r e rfl) (alc (X0r M rfl) al0));have y:=y.tu N b rfl (alc (X0r e rfl) (alc (X0r M rfl) al0));have g:=g.tu N b rfl (alc (X0r e rfl) (alc (X0r M rfl) al0));have aL:=SB.lift (S:=SB bV [A0,A1]) (w0:=w0) (.inl (.inl rfl)) (alc bK (alc aZ al0));have bD:=Us.trans bD aL D.size
   have D:=tstr D N aL;clear aL
   clear N b;have b:=aT;clear aT
   clear e;have e:=aH;clear aH;refine Zn fun a B=>?_;exact ⟨f3,f5,B.sb,dU,bD,b,e,f,y,g,aZ,D⟩
  rintro a f8 ⟨bB,bH,B,bN,dV,b,e,f,y,g,aZ,D⟩;refine dT _ _<|Zs B fun _ dW=>?_;refine Zm rfl<|Zm rfl ?_;have aP:=(g.rd.top).takeK Xh k;refine Ze (X2d (l:=(pvL d p q)) (k:=k) rfl rfl Xk X0a rfl hk g.cap)<|Ze (X07 rfl Xk)<|Zm rfl<|Zt dW fun a B=>?_;refine Q8<|X02 (σ:=Nat×Dg) (fun (s:Nat×Dg) (a:Act) (w:World)=>match s with|(j,z)=>∃ bE bI,Fr a 233 [(0,(pZ9 bV)),(7,.slice aB (othW d.ws p q).length aC),(8,.slice aD (othW d.ws q p).length aE),(9,.slice aG (pvL d p q).length aI),(10,vi ((d.ns.getD p.toNat nZ).p)),(11,vi ((d.ns.getD q.toNat nZ).p)),(13,vi J),(14,.bool ((othW d.ws p q).any fun v=>v==J)),(15,.bool ((othW d.ws q p).any fun v=>v==J)),(143,.slice aG (pvL d p q).length aI),(144,vi ((pvL d p q).length:Int)),(145,vi (k:Int)),(178,.slice aG ((pvL d p q).take k).length aI),(179,vi (((pvL d p q).take k).length:Int)),(180,vi (j:Int))]/\(j<=((pvL d p q).take k).length)/\(z=(((pvL d p q).take k).take j).foldl (pvJ (othW d.ws p q) (othW d.ws q p) J) ({ o with ns:=adN o.ns J (pvG (d.ns.getD p.toNat nZ).p (d.ns.getD q.toNat nZ).p ((othW d.ws p q).any fun v=>v==J) ((othW d.ws q p).any fun v=>v==J)) } : Dg))/\(m0=z.ns.length)/\(z.ws.length<=o.ws.length+j)/\(PhN z.ns)/\(WSd z.ws)/\Blk w bV 31 [vi z.n,.slice A0 m0 c0,.slice bE z.ws.length bI,vi z.t,vi z.r]/\Own w B0 76 2 encNd A0 c0 z.ns/\Own w w0.heap.size 3 1 encI aB aC (othW d.ws p q)/\Own w w0.heap.size 3 1 encI aD aE (othW d.ws q p)/\Own w w0.heap.size 3 1 encI aG aI (pvL d p q)/\Rd w f8.heap.size 3 encI aG ((pvL d p q).take k)/\Own w B0 84 3 encWr bE bI z.ws/\Us (SB bV [A0,A1]) w0 bE/\TurnS (SB bV [A0,A1]) w0 w) (fun (s:Nat×Dg)=>match s with|(j,z)=>((pvL d p q).take k).length-j) (0,({ o with ns:=adN o.ns J (pvG (d.ns.getD p.toNat nZ).p (d.ns.getD q.toNat nZ).p ((othW d.ws p q).any fun v=>v==J) ((othW d.ws q p).any fun v=>v==J)) } : Dg)) ?_ ?_
  ·exact ⟨bB,bH,B.sb,(Qf _),rfl,(bM.trans (X1m _ _ _).symm),(Qb _),(X4l bP _ _),eZ,b,e,f,y,g,aP,bN,dV,D⟩
  rintro ⟨j,z⟩ a w27 ⟨bE,bI,B,hj,hz,bQ,f9,cG,bR,b,e,f,y,g,aP,aQ,bO,D⟩;refine Zs B fun _ dX=>?_;refine Ze (X0i rfl rfl)<|ZX dX fun a B _ dY=>?_
  refine Xf B rfl (fun aV=>?_) (fun aV=>?_)
  ·have aM:=aV;have aV:=Q2 aV
   obtain ⟨gB,fK⟩:=X4 (l:=((pvL d p q).take k)) (k:=j) (by omega)
   obtain ⟨v9,bS⟩:=X4 (l:=(pvL d p q).take k) (k:=j) (by have:=aV;omega)
   have gC:j<k:=by have:=(Qg.1 bS).1;rw [Qn] at this;omega
   refine Q7<|dY _ _<|Q5 fun _ bW=>?_;refine Q8<|Zs B fun _ dZ=>?_;refine Zi (k:=j) (u:=v9) (enc:=encI) (l:=((pvL d p q).take k)) tv0 rfl rfl Xk X0a Xh aP bS rfl ?_;intro gD cH;refine Ze (X0 rfl Xa cH)<|Za rfl<|ZX dZ fun a B _ e8=>?_;refine X06 (fun a w=>Fr a 233 [(0,(pZ9 bV)),(7,.slice aB (othW d.ws p q).length aC),(8,.slice aD (othW d.ws q p).length aE),(9,.slice aG (pvL d p q).length aI),(10,vi ((d.ns.getD p.toNat nZ).p)),(11,vi ((d.ns.getD q.toNat nZ).p)),(13,vi J),(14,.bool ((othW d.ws p q).any fun v=>v==J)),(15,.bool ((othW d.ws q p).any fun v=>v==J)),(17,vi v9),(18,.bool (((othW d.ws p q).any fun v=>v==J)&&((othW d.ws q p).any fun v=>v==v9))),(143,.slice aG (pvL d p q).length aI),(144,vi ((pvL d p q).length:Int)),(145,vi (k:Int)),(178,.slice aG ((pvL d p q).take k).length aI),(179,vi (((pvL d p q).take k).length:Int)),(180,vi (j:Int))]/\Below w27.heap.size w27 w) ?_ ?_
   ·have L:Below w27.heap.size w27 w27:=Below.refl _ _
    refine Zr B<|Zm rfl<|Zm rfl ?_
    refine Zg 185 rfl (fun aJ=>?_) (fun aJ=>?_)
    ·refine Zv (gW aJ) (X3 rfl) ?_;refine Zv (gW aJ) (X3 rfl) ?_;refine Zk (gW aJ) (X16 (vs:=[.slice aD (othW d.ws q p).length aE,vi v9]) rfl X8r (by have h9:=Xkb _ aD aE (othW d.ws q p) y.rd.top v9 (by omega);rw [X67] at h9;exact h9)) ?_;rintro _ w28 ⟨rfl,h⟩;have D:=tsbel D h;have L:=btr L h;refine Ze (X5 rfl aJ rfl)<|Za rfl ?_;refine Zn fun a B=>?_
     have Q:Below w27.heap.size w27 w28:=L
     exact ⟨B.sub ⟨rfl,rfl,rfl,rfl,rfl,rfl,rfl,rfl,rfl,rfl,X1 rfl (by first|rfl|(simp only [H,W,a6,aM,aJ,bs];done)|simp [H,W,a6,aM,aJ]),rfl,rfl,rfl,rfl,rfl,rfl,trivial⟩,Q⟩
    (iterate 3 refine Zp (gP aJ) ?_);refine Ze (X9 rfl aJ rfl)<|Za rfl ?_;refine Zn fun a B=>?_
    have Q:Below w27.heap.size w27 w27:=L
    exact ⟨B.sub ⟨rfl,rfl,rfl,rfl,rfl,rfl,rfl,rfl,rfl,rfl,X1 rfl (by first|rfl|(simp only [H,W,a6,aM,aJ,bs];done)|simp [H,W,a6,aM,aJ]),rfl,rfl,rfl,rfl,rfl,rfl,trivial⟩,Q⟩
   rintro a w29 ⟨B,h⟩;have b:=b.bw h;have e:=e.bw h;have f:=f.bw h;have y:=y.bw h;have g:=g.bw h;have aP:=aP.bw h;have aQ:=aQ.bw h;have D:=tsbel D h;refine e8 _ _<|Q5 fun _ e9=>?_;refine X06 (fun a w=>Fr a 233 [(0,(pZ9 bV)),(7,.slice aB (othW d.ws p q).length aC),(8,.slice aD (othW d.ws q p).length aE),(9,.slice aG (pvL d p q).length aI),(10,vi ((d.ns.getD p.toNat nZ).p)),(11,vi ((d.ns.getD q.toNat nZ).p)),(13,vi J),(14,.bool ((othW d.ws p q).any fun v=>v==J)),(15,.bool ((othW d.ws q p).any fun v=>v==J)),(17,vi v9),(18,.bool (((othW d.ws p q).any fun v=>v==J)&&((othW d.ws q p).any fun v=>v==v9))),(19,.bool (((othW d.ws q p).any fun v=>v==J)&&((othW d.ws p q).any fun v=>v==v9))),(143,.slice aG (pvL d p q).length aI),(144,vi ((pvL d p q).length:Int)),(145,vi (k:Int)),(178,.slice aG ((pvL d p q).take k).length aI),(179,vi (((pvL d p q).take k).length:Int)),(180,vi (j:Int))]/\Below w29.heap.size w29 w) ?_ ?_
   ·have L:Below w29.heap.size w29 w29:=Below.refl _ _
    refine Zr B<|Zm rfl<|Zm rfl ?_
    refine Zg 191 rfl (fun aK=>?_) (fun aK=>?_)
    ·refine Zv (gW aK) (X3 rfl) ?_;refine Zv (gW aK) (X3 rfl) ?_;refine Zk (gW aK) (X16 (vs:=[.slice aB (othW d.ws p q).length aC,vi v9]) rfl X8r (by have h9:=Xkb _ aB aC (othW d.ws p q) f.rd.top v9 (by omega);rw [X67] at h9;exact h9)) ?_;rintro _ w30 ⟨rfl,h⟩;have D:=tsbel D h;have L:=btr L h;refine Ze (X5 rfl aK rfl)<|Za rfl ?_;refine Zn fun a B=>?_
     have Q:Below w29.heap.size w29 w30:=L
     exact ⟨B.sub ⟨rfl,rfl,rfl,rfl,rfl,rfl,rfl,rfl,rfl,rfl,rfl,X1 rfl (by first|rfl|(simp only [H,W,a6,aM,aK,bs];done)|simp [H,W,a6,aM,aK]),rfl,rfl,rfl,rfl,rfl,rfl,trivial⟩,Q⟩
    (iterate 3 refine Zp (gP aK) ?_);refine Ze (X9 rfl aK rfl)<|Za rfl ?_;refine Zn fun a B=>?_
    have Q:Below w29.heap.size w29 w29:=L
    exact ⟨B.sub ⟨rfl,rfl,rfl,rfl,rfl,rfl,rfl,rfl,rfl,rfl,rfl,X1 rfl (by first|rfl|(simp only [H,W,a6,aM,aK,bs];done)|simp [H,W,a6,aM,aK]),rfl,rfl,rfl,rfl,rfl,rfl,trivial⟩,Q⟩
   rintro a gE ⟨B,h⟩;have b:=b.bw h;have e:=e.bw h;have f:=f.bw h;have y:=y.bw h;have g:=g.bw h;have aP:=aP.bw h;have aQ:=aQ.bw h;have D:=tsbel D h;refine e9 _ _<|Zs B fun _ eA=>?_;refine Zm rfl<|Zm rfl<|Ze (X6j Tryz.underlying4 rfl rfl)<|Zt eA fun a B=>?_
   refine Xf B rfl (fun b7=>?_) (fun b7=>?_)
   ·have cI:=b7;have cJ:=Xq7 (o:=z) b7;refine Zr B<|Zm rfl<|Zm rfl<|Zm rfl<|Zf (Vc (Xlu _ bV B0 A0 c0 bE bI m0 z ⟨b,e,aQ,bQ⟩ (Q0 bJ D.size) v9 J bR (by have:=f9;have:=eY;rw [Qn] at hj;omega)) Xd6) ?_;rintro _ gF ⟨fA,fB,rfl,N,bF,aT,aH,eB,fC⟩;have f:=f.tu N b rfl (alc (X0r e rfl) (alc (X0r aQ rfl) al0));have y:=y.tu N b rfl (alc (X0r e rfl) (alc (X0r aQ rfl) al0));have g:=g.tu N b rfl (alc (X0r e rfl) (alc (X0r aQ rfl) al0));have aP:=aP.tu N b rfl (alc (X0r e rfl) (alc (X0r aQ rfl) al0));have aL:=SB.lift (S:=SB bV [A0,A1]) (w0:=w0) (.inl (.inl rfl)) (alc bK (alc bO al0));have bF:=Us.trans bF aL D.size
    have D:=tstr D N aL;clear aL
    clear N b;have b:=aT;clear aT
    clear e;have e:=aH;clear aH;refine Zn fun a B=>?_;refine Xb<|bW _ _<|Zr B<|Ze (Xr rfl rfl (by omega) (by omega))<|Zm rfl ?_;refine Zn fun a B=>?_;refine Xe ?_;exact ⟨(j+1,(tgI z v9 J)),⟨fA,fB,B.sb,(by omega),(by rw [X2x bS,<- hz,cJ]),(by rw [X8x];exact bQ),(by have:=Xbk z v9 J;omega),(by rw [X8x];exact cG),(Xef bR v9 J),b,e,f,y,g,aP,eB,bF,D⟩,(by first|omega|(dsimp only;omega))⟩
   have cI:=b7;have cJ:=Xsb (o:=z) b7;refine Q7<|Xb<|bW _ _<|Zr B ?_;refine Ze (Xr rfl rfl (by omega) (by omega))<|Zm rfl ?_;refine Zn fun a B=>?_;refine Xe ?_;exact ⟨(j+1,z),⟨bE,bI,B.sb,(by omega),(by rw [X2x bS,<- hz,cJ]),bQ,(by omega),cG,bR,b,e,f,y,g,aP,aQ,bO,D⟩,(by first|omega|(dsimp only;omega))⟩
  have aM:=aV;have aV:=Q1 aV
  have gG:j<=k:=by rw [Qn] at hj;omega
  have fD:z=pvI (d.ns.getD p.toNat nZ).p (d.ns.getD q.toNat nZ).p (othW d.ws p q) (othW d.ws q p) (pvL d p q) (id0 (id0 d p) q) (k+1):=by rw [hz,Qi (by have:=aV;omega),dM,X9q cF]
  refine Q9<|Xl<|Xl<|X01 ?_;refine Xb<|dQ _ _<|Zr B<|Ze (Xr rfl rfl (by omega) (by omega))<|Zm rfl ?_;refine Zn fun a B=>?_;refine Xe ?_;exact ⟨(k+1,z),⟨bE,bI,B.sb,(by omega),fD,bQ,(by omega),cG,bR,b,e,f,y,g,aQ,bO,D⟩,(by first|omega|(dsimp only;omega))⟩
 have a6:=aU;have aU:=Q1 aU
 have fE:k=(pvL d p q).length:=by have:=aU;omega
 have eC:=Xf9 (l:=(othW d.ws p q)) (m:=(othW d.ws q p)) eQ bU dF bL.1 bL.2 _ (Qb _)
 have bX:o=pvM (d.ns.getD p.toNat nZ).p (d.ns.getD q.toNat nZ).p (othW d.ws p q) (othW d.ws q p) (pvL d p q) (id0 (id0 d p) q) (pvL d p q).length:=by rw [dM,fE];exact eC.1
 have fF:o.t=d.t:=by rw [bX];exact eC.2.2.2.2
 have bY:=Xov eJ.2.2.1 bX fF bL;refine Q9<|Xl<|Xl<|X01 ?_;refine dK _ _<|Q5 fun _ bZ=>?_;refine Q5 fun _ eD=>?_;refine X06 (fun a w=>Fr a 233 [(0,(pZ9 bV)),(7,.slice aB (othW d.ws p q).length aC),(8,.slice aD (othW d.ws q p).length aE),(210,.bool ((((d.ns.getD p.toNat nZ).p)==4)&&(((d.ns.getD q.toNat nZ).p)==4)))]/\eX=w) ?_ ?_
 ·refine Zr B<|Zm rfl<|Ze (X0f rfl rfl)<|Zm rfl ?_
  refine Zg 207 rfl (fun aR=>?_) (fun aR=>?_)
  ·refine Zv (gW aR) (X3 rfl) ?_;refine Zv (gW aR) (X0f rfl rfl) ?_;refine Ze (X5 rfl aR rfl) ?_;refine Zn fun a B=>?_;exact ⟨B.sub ⟨rfl,rfl,rfl,X1 rfl (by first|rfl|(simp only [H,W,a6,aR,bs];done)|simp [H,W,a6,aR]),trivial⟩,rfl⟩
  (iterate 2 refine Zp (gP aR) ?_);refine Ze (X9 rfl aR rfl) ?_;refine Zn fun a B=>?_;exact ⟨B.sub ⟨rfl,rfl,rfl,X1 rfl (by first|rfl|(simp only [H,W,a6,aR,bs];done)|simp [H,W,a6,aR]),trivial⟩,rfl⟩
 rintro a _ ⟨B,rfl⟩;refine eD _ _ ?_
 refine Xf B rfl (fun b8=>?_) (fun b8=>?_)
 ·have cK:=b8;have cL:=b8;refine Zr B<|Zm rfl<|Zm rfl<|Ze (X03 rfl)<|Ze (Vd rfl X0l 3)<|Ze (X0 rfl Xa (b.at 3))<|Ze (X3h rfl rfl)<|Ze (X3q rfl rfl rfl)<|Ze (X03 rfl)<|Ze (Vd rfl X0l 3)<|Zo (X17 (vs:=[vi ((wr (o.t+4)).tmod 8)]) (l':=[vi o.n,.slice A0 m0 c0,.slice aX o.ws.length b1,vi ((wr (o.t+4)).tmod 8),vi o.r]) rfl rfl X0a b rfl rfl rfl rfl rfl) ?_;rintro _ gH ⟨ho,hb⟩;have aW:=b;have e:=e.oT ho aW rfl;have M:=M.oT ho aW rfl;have D:=tsonly D ho (.inl (.inl rfl));have b:=hb;refine Zx bZ fun a B _ eE=>?_;refine Zm rfl<|Ze (X03 rfl)<|Ze (Vd rfl Xy 4)<|Ze (X0 rfl Xa (b.at 4))<|Zm rfl<|Ze (X07 rfl Xk)<|Ze (X1d rfl rfl (by omega) (by omega))<|Zm rfl<|Ze (X07 rfl Xk)<|Ze (X1d rfl rfl (by omega) (by omega)) ?_;refine Ze (X3h rfl rfl)<|Ze (X03 rfl)<|Ze (Vd rfl Xy 4)<|Zo (X17 (vs:=[vi (wr (o.r+((1-((othW d.ws p q).length:Int))-((othW d.ws q p).length:Int))))]) (l':=[vi o.n,.slice A0 m0 c0,.slice aX o.ws.length b1,vi ((wr (o.t+4)).tmod 8),vi (wr (o.r+((1-((othW d.ws p q).length:Int))-((othW d.ws q p).length:Int))))]) rfl rfl X0a b rfl rfl rfl rfl rfl) ?_;rintro _ gI ⟨ho,hb⟩;have aW:=b;have e:=e.oT ho aW rfl;have M:=M.oT ho aW rfl;have D:=tsonly D ho (.inl (.inl rfl));have b:=hb;refine Zx eE fun a B _ eF=>?_;refine Za rfl<|Zt eF fun a B=>?_
  refine Q6 (X6 B (Xs B rfl rfl) ?_)
  rw [dE,Q4 rfl,bY,Q4 cL]
  exact ⟨aX,b1,rfl,D,aZ,⟨b,e,M,bM⟩⟩
 have cK:=b8;have cL:=b8;refine Q7<|bZ _ _<|Zs B fun _ eG=>?_;refine Zm rfl<|Ze (X03 rfl)<|Ze (Vd rfl Xy 4)<|Ze (X0 rfl Xa (b.at 4))<|Zm rfl<|Ze (X07 rfl Xk)<|Ze (X1d rfl rfl (by omega) (by omega))<|Zm rfl<|Ze (X07 rfl Xk)<|Ze (X1d rfl rfl (by omega) (by omega)) ?_;refine Ze (X3h rfl rfl)<|Ze (X03 rfl)<|Ze (Vd rfl Xy 4)<|Zo (X17 (vs:=[vi (wr (o.r+((1-((othW d.ws p q).length:Int))-((othW d.ws q p).length:Int))))]) (l':=[vi o.n,.slice A0 m0 c0,.slice aX o.ws.length b1,vi o.t,vi (wr (o.r+((1-((othW d.ws p q).length:Int))-((othW d.ws q p).length:Int))))]) rfl rfl X0a b rfl rfl rfl rfl rfl) ?_;rintro _ gJ ⟨ho,hb⟩;have aW:=b;have e:=e.oT ho aW rfl;have M:=M.oT ho aW rfl;have D:=tsonly D ho (.inl (.inl rfl));have b:=hb;refine Zx eG fun a B _ eH=>?_;refine Za rfl<|Zt eH fun a B=>?_
 refine Q6 (X6 B (Xs B rfl rfl) ?_)
 rw [dE,Q4 rfl,bY,Q3 (by rw [cL];decide)]
 exact ⟨aX,b1,rfl,D,aZ,⟨b,e,M,bM⟩⟩
theorem Xqo(w0:World)(bV B0:Nat)(A0:Option Addr)(c0:Nat)(A1:Option Addr)(c1 m0:Nat)(d:Dg)(bN:Dgm w0 bV B0 A0 c0 A1 c1 m0 d)(aI:B0<=w0.heap.size)(r:Rz)(hG:goodD d=true) : Ret Tryz.prog 120 [(pZ9 bV),.agg #[vi r.u,vi r.a,vi r.b]] w0 (fun v w=>∃ A c,v=.bool (doC d r)/\TurnS (SB bV [A0,A1]) w0 w/\Us (SB bV [A0,A1]) w0 A/\Dgm w bV B0 A0 c0 A c m0 (if doC d r=true then outD (doD d r) else d)):=by
 obtain ⟨f,g,q,N⟩:=bN;have cC:=f.lt
 have aJ:Us (SB bV [A0,A1]) w0 A0:=SB.us (by simp)
 have W:Us (SB bV [A0,A1]) w0 A1:=SB.us (by simp)
 have hD:=X1b hG;have cE:=hD.m;have cF:=hD.len;refine enter Tryz.func120 rfl 89 rfl rfl ?_;intro a j
 have y:TurnS (SB bV [A0,A1]) w0 w0:=TurnS.refl _ _
 refine Zs j fun _ bO=>?_;refine Zf (X0q (zs:=[vi r.u,vi r.a,vi r.b]) rfl rfl) ?_;rintro _ w1 ⟨b4,rfl,bP,B,i⟩;have cD:=Q0 y.size bP;have f:=f.bw B;have g:=g.bw B;have q:=q.bw B;have y:=tsbel y B;refine Za rfl<|ZX bO fun a j _ bQ=>?_;refine Q5 fun _ bR=>?_;refine X06 (fun a w=>Fr a 89 [(0,(pZ9 bV)),(3,(pZ9 b4)),(17,.bool (((r.b != 0)&&(r.u != 1))&&(r.u != 4)))]/\w1=w) ?_ ?_
 ·refine Zr j<|Ze (Vd rfl X1r 2)<|Ze (X0 rfl Xa (i.at 2))<|Ze (X1c rfl rfl)<|Zm rfl ?_
  refine Zg 8 rfl (fun C=>?_) (fun C=>?_)
  ·refine Zv (gW C) (Vd rfl X1p 0) ?_;refine Zv (gW C) (X0 rfl Xa (i.at 0)) ?_;refine Zv (gW C) (X1c rfl rfl) ?_;refine Ze (X5 rfl C rfl)<|Zm rfl ?_
   refine Zg 13 rfl (fun M=>?_) (fun M=>?_)
   ·refine Zv (gW M) (Vd rfl X1p 0) ?_;refine Zv (gW M) (X0 rfl Xa (i.at 0)) ?_;refine Zv (gW M) (X1c rfl rfl) ?_;refine Ze (X5 rfl M rfl) ?_;refine Zn fun a j=>?_;exact ⟨j.sub ⟨rfl,rfl,X1 rfl (by first|rfl|(simp only [C,M,bs];done)|simp [C,M]),trivial⟩,rfl⟩
   (iterate 3 refine Zp (gP M) ?_);refine Ze (X9 rfl M rfl) ?_;refine Zn fun a j=>?_;exact ⟨j.sub ⟨rfl,rfl,X1 rfl (by first|rfl|(simp only [C,M,bs];done)|simp [C,M]),trivial⟩,rfl⟩
  (iterate 3 refine Zp (gP C) ?_);refine Ze (X9 rfl C rfl)<|Zm rfl<|Zp (gP rfl) ?_;(iterate 2 refine Zp (gP rfl) ?_);refine Ze (X9 rfl rfl rfl) ?_;refine Zn fun a j=>?_;exact ⟨j.sub ⟨rfl,rfl,X1 rfl (by first|rfl|(simp only [C,bs];done)|simp [C]),trivial⟩,rfl⟩
 rintro a _ ⟨j,rfl⟩;refine bR _ _ ?_
 refine Xf j rfl (fun aK=>?_) (fun aK=>?_)
 ·have Q:=aK
  have aL:doC d r=false:=Xvm aK
  refine Zs j fun _ aW=>?_;refine Za rfl<|Zt aW fun a j=>?_;refine Q6<|X8<|X6 j (Xs j rfl rfl) ?_
  rw [aL,Q3 Bool.false_ne_true]
  exact ⟨A1,c1,rfl,y,W,⟨f,g,q,N⟩⟩
 have Q:=aK;have aP:=aK;refine Q7<|bQ _ _<|Q5 fun _ aX=>?_;refine Zs j fun _ aY=>?_;refine Ze (Vd rfl X1p 0)<|Ze (X0 rfl Xa (i.at 0))<|Zt aY fun a j=>?_;refine Q8<|Zs j fun _ aZ=>?_;refine Ze (X0f rfl rfl)<|Za rfl<|Zt aZ fun a j=>?_
 refine Xf j rfl (fun a6=>?_) (fun a6=>?_)
 ·have D:=a6;have E:=Xuj hG a6;refine Zs j fun _ b0=>?_;refine Zm rfl<|Ze (Vd rfl X14 1)<|Ze (X0 rfl Xa (i.at 1))<|Ze (Vd rfl X1r 2)<|Ze (X0 rfl Xa (i.at 2))<|Zf (Vc (Xqx _ bV B0 A0 c0 A1 c1 m0 d ⟨f,g,q,N⟩ (Q0 aI y.size) r.a r.b hG) Xj0) ?_;rintro _ w2 ⟨bS,bT,rfl,z,aD,L,x,b1,aQ⟩;have i:=i.tu z f rfl (alc (nrow g i rfl) (alc (nrow q i rfl) al0));have h:=SB.lift (S:=SB bV [A0,A1]) (w0:=w0) (.inl (.inl rfl)) (alc aJ (alc W al0));have aD:=Us.trans aD h y.size
  have y:=tstr y z h;clear h
  clear z f;have f:=L;clear L
  clear g;have g:=x;clear x;refine Za rfl<|Zt b0 fun a j=>?_;refine Q6<|Xx<|X8<|X6 j (Xs j rfl rfl) ?_
  rw [E.1,E.2]
  exact ⟨bS,bT,rfl,y,aD,⟨f,g,b1,aQ⟩⟩
 have D:=a6
 have g1:=a6
 refine Zs j fun _ b2=>?_;refine Ze (X0f rfl rfl)<|Za rfl<|Zt b2 fun a j=>?_
 refine Xf j rfl (fun a7=>?_) (fun a7=>?_)
 ·have G:=a7;have E:=Xur hG aP a7;refine Zs j fun _ b3=>?_;refine Zm rfl<|Ze (Vd rfl X14 1)<|Ze (X0 rfl Xa (i.at 1))<|Zf (Vc (Xty _ bV B0 A0 c0 A1 c1 m0 d ⟨f,g,q,N⟩ (Q0 aI y.size) r.a hG) Xko) ?_;rintro _ w3 ⟨bU,bW,rfl,z,aE,L,x,b5,aR⟩;have i:=i.tu z f rfl (alc (nrow g i rfl) (alc (nrow q i rfl) al0));have h:=SB.lift (S:=SB bV [A0,A1]) (w0:=w0) (.inl (.inl rfl)) (alc aJ (alc W al0));have aE:=Us.trans aE h y.size
  have y:=tstr y z h;clear h
  clear z f;have f:=L;clear L
  clear g;have g:=x;clear x;refine Za rfl<|Zt b3 fun a j=>?_;refine Q6<|Xx<|X8<|X6 j (Xs j rfl rfl) ?_
  rw [E.1,E.2]
  exact ⟨bU,bW,rfl,y,aE,⟨f,g,b5,aR⟩⟩
 have G:=a7
 have g2:=a7
 refine Zs j fun _ b6=>?_;refine Ze (X0f rfl rfl)<|Za rfl<|Zt b6 fun a j=>?_
 refine Xf j rfl (fun a8=>?_) (fun a8=>?_)
 ·have H:=a8;have E:=Xuq (d:=d) aP a8;refine Zs j fun _ b7=>?_;refine Zm rfl<|Ze (Vd rfl X14 1)<|Ze (X0 rfl Xa (i.at 1))<|Zf (Vc (Xra _ bV B0 A0 c0 A1 c1 m0 d ⟨f,g,q,N⟩ (Q0 aI y.size) r.a hG) Xjn) ?_;rintro _ w4 ⟨bX,bY,rfl,z,aF,L,x,b8,aS⟩;have i:=i.tu z f rfl (alc (nrow g i rfl) (alc (nrow q i rfl) al0));have h:=SB.lift (S:=SB bV [A0,A1]) (w0:=w0) (.inl (.inl rfl)) (alc aJ (alc W al0));have aF:=Us.trans aF h y.size
  have y:=tstr y z h;clear h
  clear z f;have f:=L;clear L
  clear g;have g:=x;clear x;refine Za rfl<|Zt b7 fun a j=>?_;refine Q6<|Xx<|X8<|X6 j (Xs j rfl rfl) ?_
  rw [E.1,E.2]
  exact ⟨bX,bY,rfl,y,aF,⟨f,g,b8,aS⟩⟩
 have H:=a8
 have g3:=a8
 refine Zs j fun _ b9=>?_;refine Ze (X0f rfl rfl)<|Za rfl<|Zt b9 fun a j=>?_
 refine Xf j rfl (fun aA=>?_) (fun aA=>?_)
 ·have I:=aA;have E:=Xu8 (d:=d) aA;refine Zs j fun _ bA=>?_;refine Zm rfl<|Ze (Vd rfl X14 1)<|Ze (X0 rfl Xa (i.at 1))<|Ze (Vd rfl X1r 2)<|Ze (X0 rfl Xa (i.at 2))<|Zf (Vc (Xtc _ bV B0 A0 c0 A1 c1 m0 d ⟨f,g,q,N⟩ (Q0 aI y.size) r.a r.b hG) Xku) ?_;rintro _ w5 ⟨bZ,cA,rfl,z,aG,L,x,bB,aT⟩;have i:=i.tu z f rfl (alc (nrow g i rfl) (alc (nrow q i rfl) al0));have h:=SB.lift (S:=SB bV [A0,A1]) (w0:=w0) (.inl (.inl rfl)) (alc aJ (alc W al0));have aG:=Us.trans aG h y.size
  have y:=tstr y z h;clear h
  clear z f;have f:=L;clear L
  clear g;have g:=x;clear x;refine Za rfl<|Zt bA fun a j=>?_;refine Q6<|Xx<|X8<|X6 j (Xs j rfl rfl) ?_
  rw [E.1,E.2]
  exact ⟨bZ,cA,rfl,y,aG,⟨f,g,bB,aT⟩⟩
 have I:=aA
 have g4:=aA
 refine Zs j fun _ bC=>?_;refine Ze (X0f rfl rfl)<|Za rfl<|Zt bC fun a j=>?_
 refine Xf j rfl (fun aB=>?_) (fun aB=>?_)
 ·have J:=aB;have E:=Xu9 hG aP aB;refine Q5 fun _ bD=>?_;refine Q5 fun _ bE=>?_;refine X06 (fun a w=>Fr a 89 [(0,(pZ9 bV)),(3,(pZ9 b4)),(77,.bool (((!(spI d.ns r.a))||(((d.ns.getD r.a.toNat nZ).p) != 0))||((cnW d.ws r.a) != 0)))]/\Below w1.heap.size w1 w) ?_ ?_
  ·have U:Below w1.heap.size w1 w1:=Below.refl _ _
   refine Xz none (fun _=>false) mixed ?_;intro w6 B;have f:=f.bw B;have i:=i.bw B;have g:=g.bw B;have q:=q.bw B;have y:=tsbel y B;have U:=btr U B;refine Yb j<|Yo 0 rfl (fun _=>X3 rfl)<|Yo 1 rfl (fun _=>X03 rfl)<|Ye 2 rfl (X00 (l:=[vi d.n,.slice A0 m0 c0,.slice A1 d.ws.length c1,vi d.t,vi d.r]) rfl X2 (f.at 0) rfl)<|Yo 3 rfl (fun _=>Vd rfl X14 1)<|Ye 4 rfl (X0 rfl Xa (i.at 1))<|Y1 5 ?_;refine Yk rfl tv0 (Vc (X4j _ d m0 N A0 c0 g.rd.top A1 c1 q.rd.top q.cap r.a (by omega)) X2f) (fun _ _ ⟨_,B⟩=>B) ?_;rintro _ w7 ⟨rfl,B⟩;have f:=f.bw B;have i:=i.bw B;have g:=g.bw B;have q:=q.bw B;have y:=tsbel y B;have U:=btr U B;refine Yo 6 rfl (fun _=>X0z rfl)<|Yo 7 rfl (fun _=>X3 rfl) ?_
   refine Yl 57 rfl (fun e=>?_) (fun e=>?_)
   ·refine Yp 8 rfl (gP e) ?_;refine Yp 9 rfl (gP e) ?_;refine Yp 10 rfl (gP e) ?_;refine Yp 11 rfl (gP e) ?_;refine Yp 12 rfl (gP e) ?_;refine Yp 13 rfl (gP e) ?_;refine Yp 14 rfl (gP e) ?_;refine Yp 15 rfl (gP e) ?_;refine Yp 16 rfl (gP e) ?_;refine Yp 17 rfl (gP e) ?_;refine Yo 18 rfl (fun _=>X5 rfl e rfl)<|Yo 19 rfl (fun _=>X3 rfl)<|Yp 20 rfl (gP rfl) ?_;refine Yp 21 rfl (gP rfl) ?_;refine Yp 22 rfl (gP rfl) ?_;refine Yp 23 rfl (gP rfl) ?_;refine Yp 24 rfl (gP rfl) ?_;refine Y1 25<|Yq rfl ⟨_,_,rfl,rfl,rfl⟩ ?_;refine Yp 26 rfl (gP rfl) ?_;refine Yo 27 rfl (fun _=>X5 rfl rfl rfl) ?_;refine Yd fun a j=>?_
    have aM:Below w1.heap.size w1 w7:=U
    exact ⟨j.sub ⟨rfl,rfl,X1 rfl (by first|rfl|(simp only [Q,D,G,H,I,J,e,bs];done)|simp [Q,D,G,H,I,J,e]),trivial⟩,aM⟩
   have bF:0<=r.a/\r.a.toNat<d.ns.length:=by have h9:=X0s (ns:=d.ns) (k:=r.a) (by simpa using e);exact ⟨h9.1,h9.2.1⟩
   refine Yu 8 rfl (gW e) (fun _=>X3 rfl) ?_;refine Yu 9 rfl (gW e) (fun _=>X03 rfl) ?_;refine Yu 10 rfl (gW e) (fun _=>Vd rfl Xc 1) ?_;refine Yv 11 rfl (gW e) (X0 rfl Xv (f.at 1)) ?_;refine Yu 12 rfl (gW e) (fun _=>Vd rfl X14 1) ?_;refine Yv 13 rfl (gW e) (X0 rfl Xa (i.at 1)) ?_;refine Yu 14 rfl (gW e) (fun _=>Xp (k:=r.a.toNat) rfl rfl Xm X05 g N (by omega) (by omega)) ?_;refine Yu 15 rfl (gW e) (fun _=>X0w rfl X04 (m':=r.a.toNat*2+1) rfl) ?_;refine Yv 16 rfl (gW e) (X0 rfl Xa (X0u g Xt (Xg (d:=nZ) (by omega)) 1 rfl)) ?_;refine Yu 17 rfl (gW e) (fun _=>X1c rfl rfl) ?_;refine Yo 18 rfl (fun _=>X9 rfl e rfl)<|Yo 19 rfl (fun _=>X3 rfl) ?_
   refine Yl 69 rfl (fun o=>?_) (fun o=>?_)
   ·refine Yp 20 rfl (gP o) ?_;refine Yp 21 rfl (gP o) ?_;refine Yp 22 rfl (gP o) ?_;refine Yp 23 rfl (gP o) ?_;refine Yp 24 rfl (gP o) ?_;refine Y1 25<|Yq rfl ⟨_,_,rfl,rfl,o⟩ ?_;refine Yp 26 rfl (gP o) ?_;refine Yo 27 rfl (fun _=>X5 rfl o rfl) ?_;refine Yd fun a j=>?_
    have aM:Below w1.heap.size w1 w7:=U
    exact ⟨j.sub ⟨rfl,rfl,X1 rfl (by first|rfl|(simp only [Q,D,G,H,I,J,e,o,bs];done)|simp [Q,D,G,H,I,J,e,o]),trivial⟩,aM⟩
   refine Yu 20 rfl (gW o) (fun _=>X3 rfl) ?_;refine Yu 21 rfl (gW o) (fun _=>X03 rfl) ?_;refine Yv 22 rfl (gW o) (X00 (l:=[vi d.n,.slice A0 m0 c0,.slice A1 d.ws.length c1,vi d.t,vi d.r]) rfl X2 (f.at 0) rfl) ?_;refine Yu 23 rfl (gW o) (fun _=>Vd rfl X14 1) ?_;refine Yv 24 rfl (gW o) (X0 rfl Xa (i.at 1)) ?_;refine Y1 25<|Yk rfl ⟨_,_,rfl,rfl,o⟩ (Vc (X6v _ d m0 N A0 c0 g.rd.top A1 c1 q.rd.top q.cap r.a (by omega)) X37) (fun _ _ ⟨_,B⟩=>B) ?_;rintro _ w8 ⟨rfl,B⟩;have y:=tsbel y B;have U:=btr U B;refine Yu 26 rfl (gW o) (fun _=>X1c rfl rfl) ?_;refine Yo 27 rfl (fun _=>X9 rfl o rfl) ?_;refine Yd fun a j=>?_
   have aM:Below w1.heap.size w1 w8:=U
   exact ⟨j.sub ⟨rfl,rfl,X1 rfl (by first|rfl|(simp only [Q,D,G,H,I,J,e,o,bs];done)|simp [Q,D,G,H,I,J,e,o]),trivial⟩,aM⟩
  rintro a w9 ⟨j,B⟩;have f:=f.bw B;have i:=i.bw B;have g:=g.bw B;have q:=q.bw B;have y:=tsbel y B;refine bE _ _ ?_
  refine Xf j rfl (fun aC=>?_) (fun aC=>?_)
  ·have aU:=aC;have aL:=Xol hD aC;refine Zs j fun _ bG=>?_;refine Za rfl<|Zt bG fun a j=>?_;refine Q6<|X8<|Xx<|X8 ?_;refine X6 j (Xs j rfl rfl) ?_
   rw [E.1,aL,Q3 Bool.false_ne_true]
   exact ⟨A1,c1,rfl,y,W,⟨f,g,q,N⟩⟩
  have aU:=aC;obtain ⟨cB,bF⟩:=Xil hD aC;refine Q7<|bD _ _<|Zs j fun _ bH=>?_;refine Zm rfl<|Ze (Vd rfl X14 1)<|Ze (X0 rfl Xa (i.at 1))<|Zf (Vc (X7e _ bV B0 A0 c0 A1 c1 m0 d ⟨f,g,q,N⟩ (Q0 aI y.size) r.a bF (by omega)) X40) ?_;rintro _ cG ⟨bI,bJ,z,aH,L,x,aN,aV⟩;have i:=i.tu z f rfl (alc (nrow g i rfl) (alc (nrow q i rfl) al0));have h:=SB.lift (S:=SB bV [A0,A1]) (w0:=w0) (.inl (.inl rfl)) (alc aJ (alc W al0));have aH:=Us.trans aH h y.size
  have y:=tstr y z h;clear h
  clear z f;have f:=L;clear L
  clear g;have g:=x;clear x;refine Zx bH fun a j _ bK=>?_;refine Zm rfl<|Ze (X03 rfl)<|Ze (Vd rfl Xy 4)<|Ze (X0 rfl Xa (f.at 4))<|Ze (X3h rfl rfl)<|Ze (X03 rfl)<|Ze (Vd rfl Xy 4)<|Zo (X17 (vs:=[vi (wr (((id0 d r.a).r)+2))]) (l':=[vi ((id0 d r.a).n),.slice A0 m0 c0,.slice bI ((id0 d r.a).ws).length bJ,vi ((id0 d r.a).t),vi (wr (((id0 d r.a).r)+2))]) rfl rfl X0a f rfl rfl rfl rfl rfl) ?_;rintro _ cH ⟨ho,hb⟩;have aO:=f;have g:=g.oT ho aO rfl;have aN:=aN.oT ho aO rfl;have y:=tsonly y ho (.inl (.inl rfl));have f:=hb;refine Zx bK fun a j _ bL=>?_;refine Za rfl<|Zt bL fun a j=>?_;refine Q6<|Xx<|X8<|X6 j (Xs j rfl rfl) ?_
  rw [E.1,E.2,cB,Q4 rfl]
  exact ⟨bI,bJ,rfl,y,aH,⟨f,g,aN,aV⟩⟩
 have J:=aB
 have aL:doC d r=false:=Xuv g1 g2 g3 g4 aB
 refine Q7<|Xb<|aX _ _<|Zs j fun _ bM=>?_;refine Za rfl<|Zt bM fun a j=>?_
 refine Q6 (X6 j (Xs j rfl rfl) ?_)
 rw [aL,Q3 Bool.false_ne_true]
 exact ⟨A1,c1,rfl,y,W,⟨f,g,q,N⟩⟩
theorem Xm2(N:World)(d:Dg)(md:Nat)(aE:md=d.ns.length)(Ad:Option Addr)(cd:Nat)(aF:Rd N N.heap.size 76 encNd Ad d.ns)(Bd:Option Addr)(dd:Nat)(aG:Rd N N.heap.size 84 encWr Bd d.ws)(aH:d.ws.length<=dd)(x:Rz)(hG:goodD d=true) : Ret Tryz.prog 63 [.agg #[vi d.n,.slice Ad md cd,.slice Bd d.ws.length dd,vi d.t,vi d.r],.agg #[vi x.u,vi x.a,vi x.b]] N (fun v w=>∃ A c1 B e,v=.tuple #[.agg #[vi (if (apC d x)=true then apD d x else zD).n,.slice A (if (apC d x)=true then apD d x else zD).ns.length c1,.slice B (if (apC d x)=true then apD d x else zD).ws.length e,vi (if (apC d x)=true then apD d x else zD).t,vi (if (apC d x)=true then apD d x else zD).r],.bool (apC d x)]/\Rd w w.heap.size 76 encNd A (if (apC d x)=true then apD d x else zD).ns/\Rd w w.heap.size 84 encWr B (if (apC d x)=true then apD d x else zD).ws/\(if (apC d x)=true then apD d x else zD).ws.length<=e/\Below N.heap.size N w):=by
 subst aE
 have hD:=X1b hG;have b7:=hD.m;have b9:=hD.len;refine enter Tryz.func63 rfl 17 rfl rfl ?_;intro a h
 have i:=bz N
 refine Zs h fun _ aU=>?_;refine Zf (X0q (zs:=[vi d.n,.slice Ad d.ns.length cd,.slice Bd d.ws.length dd,vi d.t,vi d.r]) rfl rfl) ?_;rintro _ w1 ⟨b4,rfl,aV,q,y⟩;have b3:=Q0 i.size aV;have i:=btr i q;refine Zf (X0q (zs:=[vi x.u,vi x.a,vi x.b]) rfl rfl) ?_;rintro _ w2 ⟨b5,rfl,aW,q,k⟩;have b6:=Q0 i.size aW;have y:=y.bw q;have i:=btr i q;refine Zf (Xw (zs:=[vi 0,.slice none 0 0,.slice none 0 0,vi 0,vi 0]) X0e rfl) ?_;rintro _ w3 ⟨b8,rfl,aX,q,f⟩
 have aT:b4≠b8:=by have:=y.lt;omega
 have U:=Q0 i.size aX;have y:=y.bw q;have k:=k.bw q;have i:=btr i q;refine Za rfl<|Zx aU fun a h _ aY=>?_;refine Ze (Vn X2 y)<|Zf (Vc (Xhk _ d d.ns.length rfl Ad cd (aF.bx i).top Bd dd (aG.bx i).top aH ⟨by omega,by omega⟩) X8c) ?_;rintro _ w4 ⟨a7,a8,aI,aJ,rfl,g,j,q⟩;have g:=g.lower i.size;have j:=j.lower i.size;have y:=y.bw q;have k:=k.bw q;have f:=f.bw q;have i:=btr i q;refine Zf (Xw (zs:=[vi 0,.slice none 0 0,.slice none 0 0,vi 0,vi 0]) X0e rfl) ?_;rintro _ w5 ⟨b14,rfl,aK,q,o⟩
 have aL:b4≠b14:=by have:=y.lt;omega
 have C:b8≠b14:=by have:=f.lt;omega
 have D:=Q0 i.size aK;have k:=k.bw q;have f:=f.bw q;have g:=g.bw q;have j:=j.bw q;have i:=btr i q;refine Zo (Vw [vi d.n,.slice a7 d.ns.length a8,.slice aI d.ws.length aJ,vi d.t,vi d.r] Xd o) ?_;rintro _ w6 ⟨E,hb⟩;have p:=o;have k:=k.oz E p rfl;have f:=f.oy E (by omega);have g:=g.oT E p rfl;have j:=j.oT E p rfl;have i:=Below.oy i E D;have o:=hb;refine ZX aY fun a h _ aM=>?_;refine Zs h fun _ aN=>?_;refine Ze (Vn X10 k)<|Zf (Vc (Xqo _ b14 N.heap.size a7 a8 aI aJ d.ns.length d ⟨o,g,j,rfl⟩ i.size x hG) Xit) ?_;rintro _ w7 ⟨aZ,b0,rfl,Q,aA,aO,W,a6,aB⟩;have k:=k.tu Q o rfl (alc (nrow g k rfl) (alc (nrow j k rfl) al0));have f:=f.tuN Q C (alc (nrow g f rfl) (alc (nrow j f rfl) al0))
 have i:=Below.ts i Q (SB.ge D (alc (fun _ h9=>X20 g h9) (alc (fun _ h9=>X20 j h9) al0))) i.size
 clear aA
 clear Q o;have o:=aO;clear aO
 clear g;have g:=W;clear W;refine Ze (X0z rfl)<|Zt aN fun a h=>?_
 refine Xf h rfl (fun z=>?_) (fun z=>?_)
 ·have aC:=z
  have b1:apC d x=false:=Xlt (by have h8:=z;simpa using h8)
  refine Zs h fun _ aP=>?_;refine Ze (X11 (ps:=[]) (cs:=[vi 0,.slice none 0 0,.slice none 0 0,vi 0,vi 0]) rfl (fun _=>by first|rfl|kernel_rfl))<|Zo (Vw [vi 0,.slice none 0 0,.slice none 0 0,vi 0,vi 0] Xd f) ?_;rintro _ w8 ⟨E,hb⟩;have p:=f;have i:=Below.oy i E U;have f:=hb;refine Za rfl<|Zt aP fun a h=>?_;refine Q6<|X8<|X6 h (X1h h rfl (ResV.cellN (l:=[vi 0,.slice none 0 0,.slice none 0 0,vi 0,vi 0]) rfl X2 (f.at 0) rfl) rfl) ?_
  rw [b1,Q3 Bool.false_ne_true]
  exact ⟨none,0,none,0,rfl,(Rd.nil _ _ _ _ _),(Rd.nil _ _ _ _ _),(Qf _),i⟩
 have aC:=z
 have aD:doC d x=true:=by have h8:=z;simpa using h8
 have b2:=Xlq hD aD
 have aQ:(if doC d x=true then outD (doD d x) else d)=outD (doD d x):=Q4 aD
 refine Q7<|aM _ _<|Zs h fun _ aR=>?_;refine Ze (Vn X2 o)<|Zf (Vc (Xru _ (if doC d x=true then outD (doD d x) else d) d.ns.length aB a7 a8 g.rd.top aZ b0 a6.rd.top a6.cap (by rw [aQ];exact Q0 b2.1.c (by decide))) Xk6) ?_;rintro _ w9 ⟨G,H,I,J,rfl,L,M,aS,q⟩;have f:=f.bw q;have i:=btr i q;refine Ze (Xn (vs:=[.agg #[vi ((if (ivD (if doC d x=true then outD (doD d x) else d))=true then (if doC d x=true then outD (doD d x) else d) else zD).n),.slice G ((if (ivD (if doC d x=true then outD (doD d x) else d))=true then (if doC d x=true then outD (doD d x) else d) else zD).ns).length H,.slice I ((if (ivD (if doC d x=true then outD (doD d x) else d))=true then (if doC d x=true then outD (doD d x) else d) else zD).ws).length J,vi ((if (ivD (if doC d x=true then outD (doD d x) else d))=true then (if doC d x=true then outD (doD d x) else d) else zD).t),vi ((if (ivD (if doC d x=true then outD (doD d x) else d))=true then (if doC d x=true then outD (doD d x) else d) else zD).r)],.bool (ivD (if doC d x=true then outD (doD d x) else d))]) rfl rfl)<|Ze (Xn (vs:=[.agg #[vi ((if (ivD (if doC d x=true then outD (doD d x) else d))=true then (if doC d x=true then outD (doD d x) else d) else zD).n),.slice G ((if (ivD (if doC d x=true then outD (doD d x) else d))=true then (if doC d x=true then outD (doD d x) else d) else zD).ns).length H,.slice I ((if (ivD (if doC d x=true then outD (doD d x) else d))=true then (if doC d x=true then outD (doD d x) else d) else zD).ws).length J,vi ((if (ivD (if doC d x=true then outD (doD d x) else d))=true then (if doC d x=true then outD (doD d x) else d) else zD).t),vi ((if (ivD (if doC d x=true then outD (doD d x) else d))=true then (if doC d x=true then outD (doD d x) else d) else zD).r)],.bool (ivD (if doC d x=true then outD (doD d x) else d))]) rfl rfl)<|Zo (Vw [vi ((if (ivD (if doC d x=true then outD (doD d x) else d))=true then (if doC d x=true then outD (doD d x) else d) else zD).n),.slice G ((if (ivD (if doC d x=true then outD (doD d x) else d))=true then (if doC d x=true then outD (doD d x) else d) else zD).ns).length H,.slice I ((if (ivD (if doC d x=true then outD (doD d x) else d))=true then (if doC d x=true then outD (doD d x) else d) else zD).ws).length J,vi ((if (ivD (if doC d x=true then outD (doD d x) else d))=true then (if doC d x=true then outD (doD d x) else d) else zD).t),vi ((if (ivD (if doC d x=true then outD (doD d x) else d))=true then (if doC d x=true then outD (doD d x) else d) else zD).r)] Xd f) ?_;rintro _ bA ⟨E,hb⟩
 have p:=f;have L:=L.oT E p rfl;have M:=M.oT E p rfl;have i:=Below.oy i E U;have f:=hb;refine Za rfl<|Zt aR fun a h=>?_
 refine Q6 (X6 h (X1h h rfl (ResV.cellN (l:=[vi ((if (ivD (if doC d x=true then outD (doD d x) else d))=true then (if doC d x=true then outD (doD d x) else d) else zD).n),.slice G ((if (ivD (if doC d x=true then outD (doD d x) else d))=true then (if doC d x=true then outD (doD d x) else d) else zD).ns).length H,.slice I ((if (ivD (if doC d x=true then outD (doD d x) else d))=true then (if doC d x=true then outD (doD d x) else d) else zD).ws).length J,vi ((if (ivD (if doC d x=true then outD (doD d x) else d))=true then (if doC d x=true then outD (doD d x) else d) else zD).t),vi ((if (ivD (if doC d x=true then outD (doD d x) else d))=true then (if doC d x=true then outD (doD d x) else d) else zD).r)]) rfl X2 (f.at 0) rfl) rfl) ?_)
 rw [show apC d x=ivD (outD (doD d x)) from by unfold apC;rw [aD,Qw,X6a]]
 rw [aQ] at *
 exact ⟨G,H,I,J,rfl,L.top,M.top,aS,i⟩
def Drq(w:World)(b B0:Nat)(A0:Option Addr)(c0:Nat)(BW:Option Addr)(eW:Nat)(A1:Option Addr)(c1:Nat)(A2:Option Addr)(c2 m n:Nat)(x:Br) : Prop:=
 Blk w b 139 [vi x.d.n,.slice A0 m c0,.slice BW x.d.ws.length eW,vi x.d.t,vi x.d.r,.slice A1 n c1,.slice A2 n c2]/\Own w B0 76 2 encNd A0 c0 x.d.ns/\Own w B0 84 3 encWr BW eW x.d.ws/\Own w B0 3 1 encI A1 c1 x.la/\Own w B0 4 1 encB A2 c2 x.hd/\m=x.d.ns.length/\n=x.la.length/\n=x.hd.length
theorem X6x(w0:World)(bV B0:Nat)(A0:Option Addr)(c0:Nat)(BW:Option Addr)(eW:Nat)(A1:Option Addr)(c1:Nat)(A2:Option Addr)(c2 m0 n0:Nat)(x:Br)(a7:Drq w0 bV B0 A0 c0 BW eW A1 c1 A2 c2 m0 n0 x)(aF:B0<=w0.heap.size)(q:Int)(hq:0<=q/\q.toNat<n0) : Ret Tryz.prog 128 [(pZ9 bV),vi q] w0 (fun v w=>∃ A c B e m,TurnS (SB bV [A0,BW,A1,A2]) w0 w/\Us (SB bV [A0,BW,A1,A2]) w0 A/\Us (SB bV [A0,BW,A1,A2]) w0 B/\Drq w bV B0 A c B e A1 c1 A2 c2 m n0 (flpB x q)):=by
 obtain ⟨f,i,n,o,b,a8,aA,a6⟩:=a7;have aE:=f.lt
 have aB:Us (SB bV [A0,BW,A1,A2]) w0 A0:=SB.us (by simp)
 have aC:Us (SB bV [A0,BW,A1,A2]) w0 BW:=SB.us (by simp)
 have aG:Us (SB bV [A0,BW,A1,A2]) w0 A1:=SB.us (by simp)
 have aD:Us (SB bV [A0,BW,A1,A2]) w0 A2:=SB.us (by simp)
 refine enter Tryz.func128 rfl 18 rfl rfl ?_;intro a hf
 have hW:TurnS (SB bV [A0,BW,A1,A2]) w0 w0:=TurnS.refl _ _
 refine Xz none (fun j=>[14].contains j) mixed ?_;intro w1 hE;have f:=f.bw hE;have i:=i.bw hE;have n:=n.bw hE;have o:=o.bw hE;have b:=b.bw hE;have hW:=tsbel hW hE;refine Yb hf<|Yo 0 rfl (fun _=>X3 rfl)<|Yo 1 rfl (fun _=>X03 rfl)<|Yo 2 rfl (fun _=>Vd rfl X1x 6)<|Ye 3 rfl (X0 rfl X3a (f.at 6))<|Yo 4 rfl (fun _=>X3 rfl)<|Yo 5 rfl (fun _=>X3 rfl)<|Yo 6 rfl (fun _=>X03 rfl)<|Yo 7 rfl (fun _=>Vd rfl X1x 6)<|Ye 8 rfl (X0 rfl X3a (f.at 6))<|Yo 9 rfl (fun _=>X3 rfl) ?_;refine Yo 10 rfl (fun _=>Xp (k:=q.toNat) rfl rfl X33 X5v b a6 (by omega) (by omega))<|Ye 11 rfl (X0 rfl X82 (X0u b X1u (Xg (d:=false) (by omega)) 0 rfl))<|Yo 12 rfl (fun _=>X0z rfl)<|Yo 13 rfl (fun _=>Xp (k:=q.toNat) rfl rfl X33 X5v b a6 (by omega) (by omega))<|Y1 14 ?_;refine Yh rfl tv0 rfl (X0y (enc:=encB) (l:=x.hd) (vs:=[.bool (!(x.hd.getD q.toNat false))]) (x0:=(x.hd.getD q.toNat false)) (u:=!(x.hd.getD q.toNat false)) (k:=q.toNat) (j:=0) (n1:=1) rfl rfl X5v b X1u rfl rfl rfl rfl (by decide) (Xg (d:=false) (by omega)) rfl) ?_;rintro _ w2 ⟨p,hg⟩;have g:=b;have f:=f.appT g hg rfl;have i:=i.appT g hg rfl;have n:=n.appT g hg rfl;have o:=o.appT g hg rfl;have hW:=tsrow hW hg aD
 clear g hg;clear b;have b:=p;clear p;refine Yd fun a hf=>?_;refine X1t hf (X2n rfl) ?_;exact ⟨A0,c0,BW,eW,m0,hW,aB,aC,⟨f,i,n,o,b,a8,aA,(a6.trans List.length_set.symm)⟩⟩
theorem Xle(w0:World)(bV B0:Nat)(A0:Option Addr)(c0:Nat)(BW:Option Addr)(eW:Nat)(A1:Option Addr)(c1:Nat)(A2:Option Addr)(c2 m0 n0:Nat)(x:Br)(aH:Drq w0 bV B0 A0 c0 BW eW A1 c1 A2 c2 m0 n0 x)(aB:B0<=w0.heap.size)(k:Int)(p:Int)(q:Int)(hq:0<=q/\q.toNat<n0)(aQ:x.d.ns.length<=100000000/\x.d.ws.length<=100000000) : Ret Tryz.prog 85 [(pZ9 bV),vi k,vi p,vi q] w0 (fun v w=>∃ A c B e m,TurnS (SB bV [A0,BW,A1,A2]) w0 w/\Us (SB bV [A0,BW,A1,A2]) w0 A/\Us (SB bV [A0,BW,A1,A2]) w0 B/\Drq w bV B0 A c B e A1 c1 A2 c2 m n0 (nodB x k p q)):=by
 obtain ⟨b,H,h,g,i,aI,a6,a7⟩:=aH;have aO:=b.lt
 subst aI
 have aC:Us (SB bV [A0,BW,A1,A2]) w0 A0:=SB.us (by simp)
 have aR:Us (SB bV [A0,BW,A1,A2]) w0 BW:=SB.us (by simp)
 have aJ:Us (SB bV [A0,BW,A1,A2]) w0 A1:=SB.us (by simp)
 have aK:Us (SB bV [A0,BW,A1,A2]) w0 A2:=SB.us (by simp)
 have aS:(x.d.ns++[(⟨k,p⟩ : Nd)]).length=x.d.ns.length+1:=by simp
 refine enter Tryz.func85 rfl 68 rfl rfl ?_;intro a J
 have C:TurnS (SB bV [A0,BW,A1,A2]) w0 w0:=TurnS.refl _ _
 refine Zs J fun _ aL=>?_;refine Zm rfl<|Zm rfl<|Ze (X03 rfl)<|Ze (Vd rfl X0g 0)<|Ze (Vd rfl Xc 1)<|Ze (X0 rfl Xv (b.at 1))<|Zm rfl<|Zm rfl<|Ze (X11 (ps:=[(0,vi k),(1,vi p)]) (cs:=[vi k,vi p]) rfl (fun _=>by first|rfl|kernel_rfl))<|Zf (Xj (k:=1) (vs:=[.agg #[vi k,vi p]]) (zs:=[vi k,vi p]) rfl Xm X1j rfl rfl) ?_;rintro _ w1 ⟨b6,rfl,aD,D,a8⟩;have aP:=Q0 C.size aD;have L:=H.away aD;have b:=b.bw D;have H:=H.bw D;have h:=h.bw D;have g:=g.bw D;have i:=i.bw D;have C:=tsbel C D;refine Zf (X0k (enc:=encNd) (l:=(x.d.ns)) (l2:=([(⟨k,p⟩ : Nd)])) (B0:=B0) rfl rfl Xm X1j Xt X2b H (Rd.of_blk a8 rfl _ a8.lt) (by simp only [maxLen];simp;omega) (by simp;omega) (Q0 aB C.size)) ?_;rintro _ w2 ⟨A8,c8,rfl,z,E,aA⟩
 have f:Own _ B0 76 2 encNd _ _ (x.d.ns):=H
 have aG:=aA _ a8.lt L;have aM:=Us.app aC aA C.size;clear aA;have b:=b.appT f E rfl;have h:=h.appT f E rfl;have g:=g.appT f E rfl;have i:=i.appT f E rfl;have C:=tsrow C E aC;clear f E;refine Ze (X03 rfl)<|Ze (Vd rfl X0g 0)<|Ze (Vd rfl Xc 1)<|Zo (X17 (vs:=[.slice A8 (x.d.ns++([(⟨k,p⟩ : Nd)])).length c8]) (l':=[vi x.d.n,.slice A8 (x.d.ns++([(⟨k,p⟩ : Nd)])).length c8,.slice BW x.d.ws.length eW,vi x.d.t,vi x.d.r,.slice A1 n0 c1,.slice A2 n0 c2]) rfl rfl X3d b rfl rfl rfl rfl rfl) ?_;rintro _ w3 ⟨I,hb⟩;have y:=b;have h:=h.oT I y rfl;have g:=g.oT I y rfl;have i:=i.oT I y rfl;have z:=z.oT I y rfl;have C:=tsonly C I (.inl (.inl rfl));have b:=hb;refine Zx aL fun a J _ aN=>?_;refine Zm rfl<|Ze (X03 rfl)<|Ze (Vd rfl X0g 0)<|Ze (Vd rfl Xc 1)<|Ze (X0 rfl Xv (b.at 1))<|Ze (X07 rfl Xm)<|Ze (Vx (X1d rfl rfl (by omega) (by omega)) (show _=(x.d.ns.length:Int) from (by omega)))<|Za rfl<|ZX aN fun a J _ aE=>?_;refine Xz none (fun j=>[25].contains j) mixed ?_;intro w4 D;have b:=b.bw D;have h:=h.bw D;have g:=g.bw D;have i:=i.bw D;have z:=z.bw D;have C:=tsbel C D;refine Yb J<|Yo 0 rfl (fun _=>X3 rfl)<|Yo 1 rfl (fun _=>X3 rfl)<|Yo 2 rfl (fun _=>X03 rfl)<|Yo 3 rfl (fun _=>Vd rfl X0g 0)<|Yo 4 rfl (fun _=>Vd rfl Xi 2)<|Ye 5 rfl (X0 rfl X0b (b.at 2))<|Yo 6 rfl (fun _=>X3 rfl)<|Yo 7 rfl (fun _=>X03 rfl)<|Yo 8 rfl (fun _=>Vd rfl X1i 5)<|Ye 9 rfl (X0 rfl X3p (b.at 5)) ?_;refine Yo 10 rfl (fun _=>X3 rfl)<|Yo 11 rfl (fun _=>Xp (k:=q.toNat) rfl rfl Xk X0a g a6 (by omega) (by omega))<|Ye 12 rfl (X0 rfl Xa (X0u g Xh (Xg (d:=(0:Int)) (by omega)) 0 rfl))<|Yo 13 rfl (fun _=>X3 rfl)<|Yo 14 rfl (fun _=>X3 rfl)<|Yo 15 rfl (fun _=>X03 rfl)<|Yo 16 rfl (fun _=>Vd rfl X1x 6)<|Ye 17 rfl (X0 rfl X3a (b.at 6))<|Yo 18 rfl (fun _=>X3 rfl)<|Yo 19 rfl (fun _=>Xp (k:=q.toNat) rfl rfl X33 X5v i a7 (by omega) (by omega)) ?_
 refine Ye 20 rfl (X0 rfl X82 (X0u i X1u (Xg (d:=false) (by omega)) 0 rfl))<|Y1 21 ?_;refine Yk rfl tv0 (Vc (X73 _ BW eW x.d.ws h.rd.top (x.la.getD q.toNat 0) (x.d.ns.length:Int) (x.hd.getD q.toNat false) (by omega) h.cap) X3f) (fun _ _ ⟨M,N,_,o,D⟩=>D) ?_;rintro _ w5 ⟨M,N,rfl,o,D⟩;have o:=o.lower C.size;have b:=b.bw D;have g:=g.bw D;have i:=i.bw D;have z:=z.bw D;have C:=tsbel C D;refine Yo 22 rfl (fun _=>X03 rfl)<|Yo 23 rfl (fun _=>Vd rfl X0g 0)<|Yo 24 rfl (fun _=>Vd rfl Xi 2)<|Y1 25 ?_;refine Yh rfl tv0 rfl (X17 (vs:=[.slice M (jnW x.d.ws (x.la.getD q.toNat 0) (x.d.ns.length:Int) (x.hd.getD q.toNat false)).length N]) (l':=[vi x.d.n,.slice A8 (x.d.ns++([(⟨k,p⟩ : Nd)])).length c8,.slice M (jnW x.d.ws (x.la.getD q.toNat 0) (x.d.ns.length:Int) (x.hd.getD q.toNat false)).length N,vi x.d.t,vi x.d.r,.slice A1 n0 c1,.slice A2 n0 c2]) rfl rfl X19 b rfl rfl rfl rfl rfl) ?_;rintro _ w6 ⟨I,hb⟩;have y:=b;have g:=g.oT I y rfl;have i:=i.oT I y rfl;have z:=z.oT I y rfl;have o:=o.oT I y rfl;have C:=tsonly C I (.inl (.inl rfl));have b:=hb;refine Yd fun a J=>?_;refine aE _ _<|Zs J fun _ aF=>?_;refine Zm rfl<|Ze (X03 rfl)<|Ze (Vd rfl X1i 5)<|Ze (X0 rfl X3p (b.at 5))<|Zm rfl<|Zm rfl<|Ze (Xp (k:=q.toNat) rfl rfl Xk X0a g a6 (by omega) (by omega))<|Zo (X0y (enc:=encI) (l:=x.la) (vs:=[vi (x.d.ns.length:Int)]) (x0:=(x.la.getD q.toNat 0)) (u:=(x.d.ns.length:Int)) (k:=q.toNat) (j:=0) (n1:=1) rfl rfl X0a g Xh rfl rfl rfl rfl (by decide) (Xg (d:=(0:Int)) (by omega)) rfl) ?_;rintro _ w7 ⟨G,E⟩;have f:=g;have b:=b.appT f E rfl;have i:=i.appT f E rfl
 have z:=z.appT f E rfl;have o:=o.appT f E rfl;have C:=tsrow C E aJ
 clear f E;clear g;have g:=G;clear G;refine Zt aF fun a J=>?_;refine Zr J<|Zm rfl<|Ze (X03 rfl)<|Ze (Vd rfl X1x 6)<|Ze (X0 rfl X3a (b.at 6))<|Zm rfl<|Ze (Xp (k:=q.toNat) rfl rfl X33 X5v i a7 (by omega) (by omega))<|Zo (X0y (enc:=encB) (l:=x.hd) (vs:=[.bool false]) (x0:=(x.hd.getD q.toNat false)) (u:=false) (k:=q.toNat) (j:=0) (n1:=1) rfl rfl X5v i X1u rfl rfl rfl rfl (by decide) (Xg (d:=false) (by omega)) rfl) ?_;rintro _ w8 ⟨G,E⟩;have f:=i;have b:=b.appT f E rfl;have z:=z.appT f E rfl;have o:=o.appT f E rfl;have g:=g.appT f E rfl;have C:=tsrow C E aK
 clear f E;clear i;have i:=G;clear G;refine Zn fun a J=>?_;refine X1t J (X2n rfl) ?_;exact ⟨A8,c8,M,N,((x.d.ns++([(⟨k,p⟩ : Nd)])).length),C,aM,(Us.new o),⟨b,z,(o.lower aB),g,i,rfl,(a6.trans List.length_set.symm),(a7.trans List.length_set.symm)⟩⟩
theorem Xfw(w0:World)(bV B0:Nat)(A0:Option Addr)(c0:Nat)(BW:Option Addr)(eW:Nat)(A1:Option Addr)(c1:Nat)(A2:Option Addr)(c2 m0 n0:Nat)(x:Br)(aN:Drq w0 bV B0 A0 c0 BW eW A1 c1 A2 c2 m0 n0 x)(aO:B0<=w0.heap.size)(q:Int)(hq:0<=q/\q.toNat<n0)(aP:BrOk n0 x)(b0:x.d.ns.length<=90000000/\x.d.ws.length<=90000000) : Ret Tryz.prog 180 [(pZ9 bV),vi q] w0 (fun v w=>∃ A c B e m,v=vi ((plcB x q).la.getD q.toNat 0)/\TurnS (SB bV [A0,BW,A1,A2]) w0 w/\Us (SB bV [A0,BW,A1,A2]) w0 A/\Us (SB bV [A0,BW,A1,A2]) w0 B/\Drq w bV B0 A c B e A1 c1 A2 c2 m n0 (plcB x q)):=by
 obtain ⟨f,n,h,g,i,a6,C,a7⟩:=aN;have aZ:=f.lt
 have aC:Us (SB bV [A0,BW,A1,A2]) w0 A0:=SB.us (by simp)
 have aD:Us (SB bV [A0,BW,A1,A2]) w0 BW:=SB.us (by simp)
 have aQ:Us (SB bV [A0,BW,A1,A2]) w0 A1:=SB.us (by simp)
 have aR:Us (SB bV [A0,BW,A1,A2]) w0 A2:=SB.us (by simp)
 have b1:=aP.at hq;refine enter Tryz.func180 rfl 40 rfl rfl ?_;intro a j
 have u:TurnS (SB bV [A0,BW,A1,A2]) w0 w0:=TurnS.refl _ _
 refine Zs j fun _ aS=>?_;refine Za rfl<|ZX aS fun a j _ aE=>?_;refine Q5 fun _ aT=>?_;refine X06 (fun a w=>Fr a 40 [(0,(pZ9 bV)),(1,vi q),(29,.bool ((x.hd.getD q.toNat false)||(((x.d.ns.getD (x.la.getD q.toNat 0).toNat nZ).k) != 3)))]/\Below w0.heap.size w0 w) ?_ ?_
 ·have D:=bz w0
  refine Xz none (fun _=>false) mixed ?_;intro w1 t;have f:=f.bw t;have n:=n.bw t;have g:=g.bw t;have i:=i.bw t;have u:=tsbel u t;have D:=btr D t;refine Yb j<|Yo 0 rfl (fun _=>X3 rfl)<|Yo 1 rfl (fun _=>X03 rfl)<|Yo 2 rfl (fun _=>Vd rfl X1x 6)<|Ye 3 rfl (X0 rfl X3a (f.at 6))<|Yo 4 rfl (fun _=>X3 rfl)<|Yo 5 rfl (fun _=>Xp (k:=q.toNat) rfl rfl X33 X5v i a7 (by omega) (by omega))<|Ye 6 rfl (X0 rfl X82 (X0u i X1u (Xg (d:=false) (by omega)) 0 rfl))<|Yo 7 rfl (fun _=>X3 rfl) ?_
  refine Yl 12 rfl (fun b=>?_) (fun b=>?_)
  ·refine Yp 8 rfl (gP b) ?_;refine Yp 9 rfl (gP b) ?_;refine Yp 10 rfl (gP b) ?_;refine Yp 11 rfl (gP b) ?_;refine Yp 12 rfl (gP b) ?_;refine Yp 13 rfl (gP b) ?_;refine Yp 14 rfl (gP b) ?_;refine Yp 15 rfl (gP b) ?_;refine Yp 16 rfl (gP b) ?_;refine Yp 17 rfl (gP b) ?_;refine Yp 18 rfl (gP b) ?_;refine Yp 19 rfl (gP b) ?_;refine Yp 20 rfl (gP b) ?_;refine Yp 21 rfl (gP b) ?_;refine Yp 22 rfl (gP b) ?_;refine Yp 23 rfl (gP b) ?_;refine Yo 24 rfl (fun _=>X5 rfl b rfl) ?_;refine Yd fun a j=>?_
   have a8:Below w0.heap.size w0 w1:=D
   exact ⟨j.sub ⟨rfl,rfl,X1 rfl (by first|rfl|(simp only [b,bs];done)|simp [b]),trivial⟩,a8⟩
  refine Yu 8 rfl (gW b) (fun _=>X3 rfl) ?_;refine Yu 9 rfl (gW b) (fun _=>X03 rfl) ?_;refine Yu 10 rfl (gW b) (fun _=>Vd rfl X0g 0) ?_;refine Yu 11 rfl (gW b) (fun _=>Vd rfl Xc 1) ?_;refine Yv 12 rfl (gW b) (X0 rfl Xv (f.at 1)) ?_;refine Yu 13 rfl (gW b) (fun _=>X3 rfl) ?_;refine Yu 14 rfl (gW b) (fun _=>X03 rfl) ?_;refine Yu 15 rfl (gW b) (fun _=>Vd rfl X1i 5) ?_;refine Yv 16 rfl (gW b) (X0 rfl X3p (f.at 5)) ?_;refine Yu 17 rfl (gW b) (fun _=>X3 rfl) ?_;refine Yu 18 rfl (gW b) (fun _=>Xp (k:=q.toNat) rfl rfl Xk X0a g C (by omega) (by omega)) ?_;refine Yv 19 rfl (gW b) (X0 rfl Xa (X0u g Xh (Xg (d:=(0:Int)) (by omega)) 0 rfl)) ?_;refine Yu 20 rfl (gW b) (fun _=>Xp (k:=(x.la.getD q.toNat 0).toNat) rfl rfl Xm X05 n a6 (by omega) (by omega)) ?_;refine Yu 21 rfl (gW b) (fun _=>X0w rfl X13 (m':=(x.la.getD q.toNat 0).toNat*2+0) rfl) ?_;refine Yv 22 rfl (gW b) (X0 rfl Xa (X0u n Xt (Xg (d:=nZ) (by omega)) 0 rfl)) ?_;refine Yu 23 rfl (gW b) (fun _=>X1c rfl rfl) ?_;refine Yo 24 rfl (fun _=>X9 rfl b rfl) ?_;refine Yd fun a j=>?_
  have a8:Below w0.heap.size w0 w1:=D
  exact ⟨j.sub ⟨rfl,rfl,X1 rfl (by first|rfl|(simp only [b,bs];done)|simp [b]),trivial⟩,a8⟩
 rintro a w2 ⟨j,t⟩;have f:=f.bw t;have n:=n.bw t;have h:=h.bw t;have g:=g.bw t;have i:=i.bw t;have u:=tsbel u t;refine aT _ _ ?_
 refine Xf j rfl (fun y=>?_) (fun y=>?_)
 ·have aF:=y;have aA:=Xt9 y;refine Zr j<|Zm rfl<|Zm rfl<|Zf (X16 (vs:=[(pZ9 bV),vi 3,vi 0,vi q]) rfl Xc9 (Xle _ bV B0 A0 c0 BW eW A1 c1 A2 c2 m0 n0 x ⟨f,n,h,g,i,a6,C,a7⟩ (Q0 aO u.size) 3 0 q hq (by omega))) ?_;rintro _ w3 ⟨aU,aV,aW,aX,aY,aG,o,p,aH,aI,aJ,G,H,aK,z,aB⟩;have E:=SB.lift (S:=SB bV [A0,BW,A1,A2]) (w0:=w0) (.inl (.inl rfl)) (alc aC (alc aD (alc aQ (alc aR al0))));have o:=Us.trans o E u.size;have p:=Us.trans p E u.size
  have u:=tstr u aG E;clear E
  clear aG f;have f:=aH;clear aH
  clear g;have g:=G;clear G
  clear i;have i:=H;clear H;refine Zx aE fun a j _ aL=>?_;refine Zm rfl<|Ze (X03 rfl)<|Ze (Vd rfl X1i 5)<|Ze (X0 rfl X3p (f.at 5))<|Zm rfl<|Ze (Xp (k:=q.toNat) rfl rfl Xk X0a g z (by omega) (by omega))<|Ze (X0 rfl Xa (X0u g Xh (Xg (d:=(0:Int)) (by omega)) 0 rfl))<|Za rfl<|Zt aL fun a j=>?_
  refine Q6 (X6 j (Xs j rfl rfl) ?_)
  rw [aA]
  exact ⟨aU,aV,aW,aX,aY,rfl,u,o,p,⟨f,aI,aJ,g,i,aK,z,aB⟩⟩
 have aF:=y;have aA:=Xtn y;refine Q7<|aE _ _<|Zs j fun _ aM=>?_;refine Zm rfl<|Ze (X03 rfl)<|Ze (Vd rfl X1i 5)<|Ze (X0 rfl X3p (f.at 5))<|Zm rfl<|Ze (Xp (k:=q.toNat) rfl rfl Xk X0a g C (by omega) (by omega))<|Ze (X0 rfl Xa (X0u g Xh (Xg (d:=(0:Int)) (by omega)) 0 rfl))<|Za rfl<|Zt aM fun a j=>?_
 refine Q6 (X6 j (Xs j rfl rfl) ?_)
 rw [aA]
 exact ⟨A0,c0,BW,eW,m0,rfl,u,aC,aD,⟨f,n,h,g,i,a6,C,a7⟩⟩
theorem Xdd(w0:World)(bV B0:Nat)(A0:Option Addr)(c0:Nat)(BW:Option Addr)(eW:Nat)(A1:Option Addr)(c1:Nat)(A2:Option Addr)(c2 m0 n0:Nat)(x:Br)(aD:Drq w0 bV B0 A0 c0 BW eW A1 c1 A2 c2 m0 n0 x)(aE:B0<=w0.heap.size)(q:Int)(f:Int)(hq:0<=q/\q.toNat<n0)(a7:BrOk n0 x)(aQ:x.d.ns.length<=80000000/\x.d.ws.length<=80000000)(aR:0<=f/\f<=900) : Ret Tryz.prog 129 [(pZ9 bV),vi q,vi f] w0 (fun v w=>∃ A c B e m,TurnS (SB bV [A0,BW,A1,A2]) w0 w/\Us (SB bV [A0,BW,A1,A2]) w0 A/\Us (SB bV [A0,BW,A1,A2]) w0 B/\Drq w bV B0 A c B e A1 c1 A2 c2 m n0 (trnB x q f)):=by
 obtain ⟨b,aF,aG,i,n,aH,aI,aJ⟩:=aD;have aP:=b.lt
 have aK:Us (SB bV [A0,BW,A1,A2]) w0 A0:=SB.us (by simp)
 have aL:Us (SB bV [A0,BW,A1,A2]) w0 BW:=SB.us (by simp)
 have aM:Us (SB bV [A0,BW,A1,A2]) w0 A1:=SB.us (by simp)
 have aN:Us (SB bV [A0,BW,A1,A2]) w0 A2:=SB.us (by simp)
 have D:=X34 a7 q;have aS:=D.at hq;have aT:=X3c x q;have aU:=X1l D.p ((plcB x q).la.getD q.toNat 0).toNat;refine enter Tryz.func129 rfl 30 rfl rfl ?_;intro a hf
 have h:TurnS (SB bV [A0,BW,A1,A2]) w0 w0:=TurnS.refl _ _
 refine Zs hf fun _ aO=>?_;refine Zm rfl<|Zm rfl<|Zf (X16 (vs:=[(pZ9 bV),vi q]) rfl X83 (Xfw _ bV B0 A0 c0 BW eW A1 c1 A2 c2 m0 n0 x ⟨b,aF,aG,i,n,aH,aI,aJ⟩ (Q0 aE h.size) q hq a7 (by omega))) ?_;rintro _ w1 ⟨A6,c6,A7,c7,m6,rfl,a8,t,y,aA,g,z,E,G,a6,aB,aC⟩;have C:=SB.lift (S:=SB bV [A0,BW,A1,A2]) (w0:=w0) (.inl (.inl rfl)) (alc aK (alc aL (alc aM (alc aN al0))));have t:=Us.trans t C h.size;have y:=Us.trans y C h.size
 have h:=tstr h a8 C;clear C
 clear a8 b;have b:=aA;clear aA
 clear i;have i:=E;clear E
 clear n;have n:=G;clear G;refine Za rfl<|Zt aO fun a hf=>?_;refine Xz none (fun j=>[20].contains j) mixed ?_;intro w2 hE;have b:=b.bw hE;have i:=i.bw hE;have n:=n.bw hE;have g:=g.bw hE;have z:=z.bw hE;have h:=tsbel h hE;refine Yb hf<|Yo 0 rfl (fun _=>X3 rfl)<|Yo 1 rfl (fun _=>X03 rfl)<|Yo 2 rfl (fun _=>Vd rfl X0g 0)<|Yo 3 rfl (fun _=>Vd rfl Xc 1)<|Ye 4 rfl (X0 rfl Xv (b.at 1))<|Yo 5 rfl (fun _=>X3 rfl)<|Yo 6 rfl (fun _=>X3 rfl)<|Yo 7 rfl (fun _=>X03 rfl)<|Yo 8 rfl (fun _=>Vd rfl X0g 0)<|Yo 9 rfl (fun _=>Vd rfl Xc 1) ?_;refine Ye 10 rfl (X0 rfl Xv (b.at 1))<|Yo 11 rfl (fun _=>X3 rfl)<|Yo 12 rfl (fun _=>Xp (k:=((plcB x q).la.getD q.toNat 0).toNat) rfl rfl Xm X05 g a6 (by omega) (by omega))<|Yo 13 rfl (fun _=>X0w rfl X04 (m':=((plcB x q).la.getD q.toNat 0).toNat*2+1) rfl)<|Ye 14 rfl (X0 rfl Xa (X0u g Xt (Xg (d:=nZ) (by omega)) 1 rfl))<|Yo 15 rfl (fun _=>X3 rfl)<|Yo 16 rfl (fun _=>Xr rfl rfl (by omega) (by omega))<|Yo 17 rfl (fun _=>Vx (X3q rfl rfl rfl) (tm8 (by omega)))<|Yo 18 rfl (fun _=>Xp (k:=((plcB x q).la.getD q.toNat 0).toNat) rfl rfl Xm X05 g a6 (by omega) (by omega))<|Yo 19 rfl (fun _=>X0w rfl X04 (m':=((plcB x q).la.getD q.toNat 0).toNat*2+1) rfl) ?_;refine Y1 20<|Yh rfl tv0 rfl (X0y (enc:=encNd) (l:=(plcB x q).d.ns) (vs:=[vi ((((plcB x q).d.ns.getD ((plcB x q).la.getD q.toNat 0).toNat nZ).p+f) % 8)]) (x0:=((plcB x q).d.ns.getD ((plcB x q).la.getD q.toNat 0).toNat nZ)) (u:=(⟨((plcB x q).d.ns.getD ((plcB x q).la.getD q.toNat 0).toNat nZ).k,((((plcB x q).d.ns.getD ((plcB x q).la.getD q.toNat 0).toNat nZ).p+f) % 8)⟩ : Nd)) (k:=((plcB x q).la.getD q.toNat 0).toNat) (j:=1) (n1:=1) rfl rfl X0a g Xt rfl rfl rfl rfl (by decide) (Xg (d:=nZ) (by omega)) rfl) ?_;rintro _ w3 ⟨H,hg⟩
 have o:=g;have b:=b.appT o hg rfl;have i:=i.appT o hg rfl;have n:=n.appT o hg rfl;have z:=z.appT o hg rfl;have h:=tsrow h hg t
 clear o hg;clear g;have g:=H;clear H;refine Yd fun a hf=>?_;refine X1t hf (X2n rfl) ?_;exact ⟨A6,c6,A7,c7,m6,h,t,y,⟨b,g,z,i,n,(a6.trans List.length_set.symm),aB,aC⟩⟩
theorem Xmp(w0:World)(bV B0:Nat)(A0:Option Addr)(c0:Nat)(BW:Option Addr)(eW:Nat)(A1:Option Addr)(c1:Nat)(A2:Option Addr)(c2 m0 I:Nat)(x:Br)(aV:Drq w0 bV B0 A0 c0 BW eW A1 c1 A2 c2 m0 I x)(W:B0<=w0.heap.size)(p:Int)(q:Int)(hp:0<=p/\p.toNat<I)(hq:0<=q/\q.toNat<I)(aI:BrOk I x)(bC:x.d.ns.length<=80000000/\x.d.ws.length<=80000000) : Ret Tryz.prog 130 [(pZ9 bV),vi p,vi q] w0 (fun v w=>∃ A c B e m,TurnS (SB bV [A0,BW,A1,A2]) w0 w/\Us (SB bV [A0,BW,A1,A2]) w0 A/\Us (SB bV [A0,BW,A1,A2]) w0 B/\Drq w bV B0 A c B e A1 c1 A2 c2 m I (czB x p q)):=by
 obtain ⟨b,aW,aX,g,i,aY,aZ,b0⟩:=aV;have b8:=b.lt
 have b1:Us (SB bV [A0,BW,A1,A2]) w0 A0:=SB.us (by simp)
 have b2:Us (SB bV [A0,BW,A1,A2]) w0 BW:=SB.us (by simp)
 have aJ:Us (SB bV [A0,BW,A1,A2]) w0 A1:=SB.us (by simp)
 have aK:Us (SB bV [A0,BW,A1,A2]) w0 A2:=SB.us (by simp)
 have aB:=X34 aI p;have b9:=X3c x p;have bA:=X34 aB q;have bB:=X3c (plcB x p) q;have aL:=X7n (plcB (plcB x p) q).d.ws ((plcB x p).la.getD p.toNat 0) ((plcB (plcB x p) q).la.getD q.toNat 0);refine enter Tryz.func130 rfl 66 rfl rfl ?_;intro a H
 have o:TurnS (SB bV [A0,BW,A1,A2]) w0 w0:=TurnS.refl _ _
 refine Zs H fun _ b3=>?_;refine Zm rfl<|Zm rfl<|Zf (X16 (vs:=[(pZ9 bV),vi p]) rfl X83 (Xfw _ bV B0 A0 c0 BW eW A1 c1 A2 c2 m0 I x ⟨b,aW,aX,g,i,aY,aZ,b0⟩ (Q0 W o.size) p hp aI (by omega))) ?_;rintro _ w1 ⟨A6,c6,A7,c7,m6,rfl,L,M,N,Q,b4,b5,E,G,b6,aM,aN⟩;have C:=SB.lift (S:=SB bV [A0,BW,A1,A2]) (w0:=w0) (.inl (.inl rfl)) (alc b1 (alc b2 (alc aJ (alc aK al0))));have M:=Us.trans M C o.size;have N:=Us.trans N C o.size
 have o:=tstr o L C;clear C
 clear L b;have b:=Q;clear Q
 clear g;have g:=E;clear E
 clear i;have i:=G;clear G;refine Za rfl<|Zx b3 fun a H _ b7=>?_;refine Zm rfl<|Zm rfl<|Zf (X16 (vs:=[(pZ9 bV),vi q]) rfl X83 (Xfw _ bV B0 A6 c6 A7 c7 A1 c1 A2 c2 m6 I (plcB x p) ⟨b,b4,b5,g,i,b6,aM,aN⟩ (Q0 W o.size) q hq aB (by omega))) ?_;rintro _ w2 ⟨A9,c9,aE,aF,m9,rfl,L,J,U,Q,j,z,E,G,aO,aC,aD⟩;have C:=SB.lift (S:=SB bV [A0,BW,A1,A2]) (w0:=w0) (.inl (.inl rfl)) (alc M (alc N (alc aJ (alc aK al0))));have J:=Us.trans J C o.size;have U:=Us.trans U C o.size
 have o:=tstr o L C;clear C
 clear L b;have b:=Q;clear Q
 clear g;have g:=E;clear E
 clear i;have i:=G;clear G;refine Za rfl<|ZX b7 fun a H _ aP=>?_;refine Zs H fun _ aQ=>?_;refine Zm rfl<|Ze (X03 rfl)<|Ze (Vd rfl X0g 0)<|Ze (Vd rfl Xi 2)<|Ze (X0 rfl X0b (b.at 2))<|Zm rfl<|Zm rfl<|Zf (Vc (Xao _ aE aF ((plcB (plcB x p) q).d.ws) z.rd.top ((plcB x p).la.getD p.toNat 0) ((plcB (plcB x p) q).la.getD q.toNat 0) (by omega)) X56) ?_;rintro _ w3 ⟨rfl,D⟩;have b:=b.bw D;have g:=g.bw D;have i:=i.bw D;have j:=j.bw D;have z:=z.bw D;have o:=tsbel o D;refine Za rfl<|Zx aQ fun a H _ aR=>?_;refine Zm rfl<|Ze (X4q rfl rfl)<|Zt aR fun a H=>?_
 refine Xf H rfl (fun k=>?_) (fun k=>?_)
 ·have aG:=k;have k:=Q2 k;have aH:=Xrd k;refine Zs H fun _ aS=>?_;refine Zm rfl<|Zm rfl<|Ze (X03 rfl)<|Ze (Vd rfl X0g 0)<|Ze (Vd rfl Xi 2)<|Ze (X0 rfl X0b (b.at 2))<|Zm rfl<|Zf (Vc (Xbo _ aE aF ((plcB (plcB x p) q).d.ws) z.rd.top (fdW ((plcB (plcB x p) q).d.ws) ((plcB x p).la.getD p.toNat 0) ((plcB (plcB x p) q).la.getD q.toNat 0)) (by omega) z.cap ⟨by omega,aL⟩) X66) ?_;rintro _ w4 ⟨a6,a7,rfl,u,D⟩;have u:=u.lower o.size;have b:=b.bw D;have g:=g.bw D;have i:=i.bw D;have j:=j.bw D;have o:=tsbel o D;refine Ze (X03 rfl)<|Ze (Vd rfl X0g 0)<|Ze (Vd rfl Xi 2)<|Zo (X17 (vs:=[.slice a6 (ctW ((plcB (plcB x p) q).d.ws) (fdW ((plcB (plcB x p) q).d.ws) ((plcB x p).la.getD p.toNat 0) ((plcB (plcB x p) q).la.getD q.toNat 0)).toNat).length a7]) (l':=[vi ((plcB (plcB x p) q).d.n),.slice A9 m9 c9,.slice a6 (ctW ((plcB (plcB x p) q).d.ws) (fdW ((plcB (plcB x p) q).d.ws) ((plcB x p).la.getD p.toNat 0) ((plcB (plcB x p) q).la.getD q.toNat 0)).toNat).length a7,vi ((plcB (plcB x p) q).d.t),vi ((plcB (plcB x p) q).d.r),.slice A1 I c1,.slice A2 I c2]) rfl rfl X19 b rfl rfl rfl rfl rfl) ?_;rintro _ w5 ⟨h,hb⟩;have f:=b;have g:=g.oT h f rfl;have i:=i.oT h f rfl;have j:=j.oT h f rfl;have u:=u.oT h f rfl;have o:=tsonly o h (.inl (.inl rfl));have b:=hb;refine Zx aS fun a H _ aT=>?_;refine Zm rfl<|Ze (X03 rfl)<|Ze (Vd rfl X0g 0)<|Ze (Vd rfl Xy 4)<|Ze (X0 rfl Xa (b.at 4))<|Ze (X9t rfl rfl)<|Ze (X03 rfl)<|Ze (Vd rfl X0g 0)<|Ze (Vd rfl Xy 4)<|Zo (X17 (vs:=[vi (wr (((plcB (plcB x p) q).d.r)-1))]) (l':=[vi ((plcB (plcB x p) q).d.n),.slice A9 m9 c9,.slice a6 (ctW ((plcB (plcB x p) q).d.ws) (fdW ((plcB (plcB x p) q).d.ws) ((plcB x p).la.getD p.toNat 0) ((plcB (plcB x p) q).la.getD q.toNat 0)).toNat).length a7,vi ((plcB (plcB x p) q).d.t),vi (wr (((plcB (plcB x p) q).d.r)-1)),.slice A1 I c1,.slice A2 I c2]) rfl rfl X0a b rfl rfl rfl rfl rfl) ?_;rintro _ w6 ⟨h,hb⟩
  have f:=b;have g:=g.oT h f rfl;have i:=i.oT h f rfl;have j:=j.oT h f rfl;have u:=u.oT h f rfl;have o:=tsonly o h (.inl (.inl rfl));have b:=hb;refine Zt aT fun a H=>?_;refine Q6<|X8<|X6 H (X2n rfl) ?_
  rw [aH]
  exact ⟨A9,c9,a6,a7,m9,o,J,(Us.new u),⟨b,j,(u.lower W),g,i,aO,aC,aD⟩⟩
 have aG:=k;have k:=Q1 k;have aH:=Xto k;refine Q7<|aP _ _<|Zs H fun _ aU=>?_;refine Zm rfl<|Zm rfl<|Ze (X03 rfl)<|Ze (Vd rfl X0g 0)<|Ze (Vd rfl Xi 2)<|Ze (X0 rfl X0b (b.at 2))<|Zm rfl<|Zm rfl<|Zf (Vc (X73 _ aE aF ((plcB (plcB x p) q).d.ws) z.rd.top ((plcB x p).la.getD p.toNat 0) ((plcB (plcB x p) q).la.getD q.toNat 0) true (by omega) z.cap) X3f) ?_;rintro _ w7 ⟨a8,aA,rfl,y,D⟩;have y:=y.lower o.size;have b:=b.bw D;have g:=g.bw D;have i:=i.bw D;have j:=j.bw D;have o:=tsbel o D;refine Ze (X03 rfl)<|Ze (Vd rfl X0g 0)<|Ze (Vd rfl Xi 2)<|Zo (X17 (vs:=[.slice a8 (jnW ((plcB (plcB x p) q).d.ws) ((plcB x p).la.getD p.toNat 0) ((plcB (plcB x p) q).la.getD q.toNat 0) true).length aA]) (l':=[vi ((plcB (plcB x p) q).d.n),.slice A9 m9 c9,.slice a8 (jnW ((plcB (plcB x p) q).d.ws) ((plcB x p).la.getD p.toNat 0) ((plcB (plcB x p) q).la.getD q.toNat 0) true).length aA,vi ((plcB (plcB x p) q).d.t),vi ((plcB (plcB x p) q).d.r),.slice A1 I c1,.slice A2 I c2]) rfl rfl X19 b rfl rfl rfl rfl rfl) ?_;rintro _ w8 ⟨h,hb⟩;have f:=b;have g:=g.oT h f rfl;have i:=i.oT h f rfl;have j:=j.oT h f rfl;have y:=y.oT h f rfl;have o:=tsonly o h (.inl (.inl rfl));have b:=hb;refine Zt aU fun a H=>?_;refine Zr H<|Zm rfl<|Ze (X03 rfl)<|Ze (Vd rfl X0g 0)<|Ze (Vd rfl Xy 4)<|Ze (X0 rfl Xa (b.at 4))<|Ze (X3h rfl rfl)<|Ze (X03 rfl)<|Ze (Vd rfl X0g 0)<|Ze (Vd rfl Xy 4)<|Zo (X17 (vs:=[vi (wr (((plcB (plcB x p) q).d.r)+1))]) (l':=[vi ((plcB (plcB x p) q).d.n),.slice A9 m9 c9,.slice a8 (jnW ((plcB (plcB x p) q).d.ws) ((plcB x p).la.getD p.toNat 0) ((plcB (plcB x p) q).la.getD q.toNat 0) true).length aA,vi ((plcB (plcB x p) q).d.t),vi (wr (((plcB (plcB x p) q).d.r)+1)),.slice A1 I c1,.slice A2 I c2]) rfl rfl X0a b rfl rfl rfl rfl rfl) ?_;rintro _ w9 ⟨h,hb⟩
 have f:=b;have g:=g.oT h f rfl;have i:=i.oT h f rfl;have j:=j.oT h f rfl;have y:=y.oT h f rfl;have o:=tsonly o h (.inl (.inl rfl));have b:=hb;refine Zn fun a H=>?_;refine X1t H (X2n rfl) ?_
 rw [aH]
 exact ⟨A9,c9,a8,aA,m9,o,J,(Us.new y),⟨b,j,(y.lower W),g,i,aO,aC,aD⟩⟩
theorem Xqv(w0:World)(bV B0:Nat)(A0:Option Addr)(c0:Nat)(BW:Option Addr)(eW:Nat)(A1:Option Addr)(c1:Nat)(A2:Option Addr)(c2 m0 n0:Nat)(x:Br)(f5:Drq w0 bV B0 A0 c0 BW eW A1 c1 A2 c2 m0 n0 x)(a7:B0<=w0.heap.size)(g:Gt)(aC:BrOk n0 x)(iA:x.d.ns.length<=70000000/\x.d.ws.length<=70000000)(N:gOk (n0:Int) g=true) : Ret Tryz.prog 84 [(pZ9 bV),.agg #[vi g.k,vi g.a,vi g.b]] w0 (fun v w=>∃ A c B e m,TurnS (SB bV [A0,BW,A1,A2]) w0 w/\Us (SB bV [A0,BW,A1,A2]) w0 A/\Us (SB bV [A0,BW,A1,A2]) w0 B/\Drq w bV B0 A c B e A1 c1 A2 c2 m n0 (gtB x g)):=by
 obtain ⟨i,E,G,o,p,aD,a8,aA⟩:=f5;have i6:=i.lt
 have aE:Us (SB bV [A0,BW,A1,A2]) w0 A0:=SB.us (by simp)
 have aF:Us (SB bV [A0,BW,A1,A2]) w0 BW:=SB.us (by simp)
 have Q:Us (SB bV [A0,BW,A1,A2]) w0 A1:=SB.us (by simp)
 have U:Us (SB bV [A0,BW,A1,A2]) w0 A2:=SB.us (by simp)
 have aB:=Xa5 N;have bH:=Xai N;have iB:=Xa8 N
 have bD:x.d.ns.length<=80000000/\x.d.ws.length<=80000000:=by omega
 have o1:=X3x aC g.a 4
 have l1:=X55 x g.a 4
 have i7:=aC.la;have i8:=aC.hd;refine enter Tryz.func84 rfl 164 rfl rfl ?_;intro a J
 have C:TurnS (SB bV [A0,BW,A1,A2]) w0 w0:=TurnS.refl _ _
 refine Zs J fun _ f7=>?_;refine Zf (X0q (zs:=[vi g.k,vi g.a,vi g.b]) rfl rfl) ?_;rintro _ w1 ⟨b6,rfl,f8,L,f⟩;have i9:=Q0 C.size f8;have i:=i.bw L;have E:=E.bw L;have G:=G.bw L;have o:=o.bw L;have p:=p.bw L;have C:=tsbel C L;refine Zx f7 fun a J _ f9=>?_;refine Ze (Vd rfl X5e 0)<|Ze (X0 rfl Xa (f.at 0))<|Zt f9 fun a J=>?_;refine Q8<|Zs J fun _ fA=>?_;refine Ze (X0f rfl rfl)<|Za rfl<|Zt fA fun a J=>?_
 refine Xf J rfl (fun bE=>?_) (fun bE=>?_)
 ·have dD:=bE;have W:=Xvh (x:=x) bE;refine Zr J<|Zm rfl<|Ze (Vd rfl X18 1)<|Ze (X0 rfl Xa (f.at 1))<|Zf (X16 (vs:=[(pZ9 bV),vi g.a]) rfl X3g (X6x _ bV B0 A0 c0 BW eW A1 c1 A2 c2 m0 n0 x ⟨i,E,G,o,p,aD,a8,aA⟩ (Q0 a7 C.size) g.a aB)) ?_;rintro _ w2 ⟨fB,fC,fD,fE,fF,D,aM,aN,I,dE,dF,y,z,dG,cA,cB⟩;have f:=f.tu D i rfl (alc (nrow E f rfl) (alc (nrow G f rfl) (alc (nrow o f rfl) (alc (nrow p f rfl) al0))));have q:=SB.lift (S:=SB bV [A0,BW,A1,A2]) (w0:=w0) (.inl (.inl rfl)) (alc aE (alc aF (alc Q (alc U al0))));have aM:=Us.trans aM q C.size;have aN:=Us.trans aN q C.size
  have C:=tstr C D q;clear q
  clear D i;have i:=I;clear I
  clear o;have o:=y;clear y
  clear p;have p:=z;clear z;refine Zn fun a J=>?_;refine Xb<|X1t J (X2n rfl) ?_
  rw [W]
  exact ⟨fB,fC,fD,fE,fF,C,aM,aN,⟨i,dE,dF,o,p,dG,cA,cB⟩⟩
 have dD:=bE
 have g1:=bE
 refine Zs J fun _ dH=>?_;refine Ze (X0f rfl rfl)<|Za rfl<|Zt dH fun a J=>?_
 refine Xf J rfl (fun aG=>?_) (fun aG=>?_)
 ·have cC:=aG;have W:=Xve (x:=x) g1 aG;refine Zs J fun _ dI=>?_;refine Zm rfl<|Ze (Vd rfl X18 1)<|Ze (X0 rfl Xa (f.at 1))<|Zf (X16 (vs:=[(pZ9 bV),vi g.a]) rfl X3g (X6x _ bV B0 A0 c0 BW eW A1 c1 A2 c2 m0 n0 x ⟨i,E,G,o,p,aD,a8,aA⟩ (Q0 a7 C.size) g.a aB)) ?_;rintro _ w3 ⟨fG,fH,fI,fJ,fK,D,aO,aP,I,bJ,bK,y,z,dJ,cD,cE⟩;have f:=f.tu D i rfl (alc (nrow E f rfl) (alc (nrow G f rfl) (alc (nrow o f rfl) (alc (nrow p f rfl) al0))));have q:=SB.lift (S:=SB bV [A0,BW,A1,A2]) (w0:=w0) (.inl (.inl rfl)) (alc aE (alc aF (alc Q (alc U al0))));have aO:=Us.trans aO q C.size;have aP:=Us.trans aP q C.size
  have C:=tstr C D q;clear q
  clear D i;have i:=I;clear I
  clear o;have o:=y;clear y
  clear p;have p:=z;clear z;refine Zx dI fun a J _ dK=>?_;refine Zm rfl<|Ze (Vd rfl X18 1)<|Ze (X0 rfl Xa (f.at 1))<|Zf (X16 (vs:=[(pZ9 bV),vi g.a,vi 4]) rfl X6e (Xdd _ bV B0 fG fH fI fJ A1 c1 A2 c2 fK n0 (flpB x g.a) ⟨i,bJ,bK,o,p,dJ,cD,cE⟩ (Q0 a7 C.size) g.a 4 aB (X1o aC g.a) bD ⟨by decide,by decide⟩)) ?_;rintro _ w4 ⟨fL,fM,fN,fO,fP,D,aQ,aR,I,bL,bM,y,z,dL,cF,cG⟩;have f:=f.tu D i rfl (alc (nrow bJ f rfl) (alc (nrow bK f rfl) (alc (nrow o f rfl) (alc (nrow p f rfl) al0))));have q:=SB.lift (S:=SB bV [A0,BW,A1,A2]) (w0:=w0) (.inl (.inl rfl)) (alc aO (alc aP (alc Q (alc U al0))));have aQ:=Us.trans aQ q C.size;have aR:=Us.trans aR q C.size
  have C:=tstr C D q;clear q
  clear D i;have i:=I;clear I
  clear o;have o:=y;clear y
  clear p;have p:=z;clear z;refine Zt dK fun a J=>?_;refine Zr J<|Zm rfl<|Ze (Vd rfl X18 1)<|Ze (X0 rfl Xa (f.at 1))<|Zf (X16 (vs:=[(pZ9 bV),vi g.a]) rfl X3g (X6x _ bV B0 fL fM fN fO A1 c1 A2 c2 fP n0 (trnB (flpB x g.a) g.a 4) ⟨i,bL,bM,o,p,dL,cF,cG⟩ (Q0 a7 C.size) g.a aB)) ?_;rintro _ w5 ⟨fQ,fR,fS,fT,fU,D,aS,aT,I,dM,dN,y,z,dO,cH,cI⟩;have f:=f.tu D i rfl (alc (nrow bL f rfl) (alc (nrow bM f rfl) (alc (nrow o f rfl) (alc (nrow p f rfl) al0))));have q:=SB.lift (S:=SB bV [A0,BW,A1,A2]) (w0:=w0) (.inl (.inl rfl)) (alc aQ (alc aR (alc Q (alc U al0))));have aS:=Us.trans aS q C.size;have aT:=Us.trans aT q C.size
  have C:=tstr C D q;clear q
  clear D i;have i:=I;clear I
  clear o;have o:=y;clear y
  clear p;have p:=z;clear z;refine Zn fun a J=>?_;refine Xb<|X1t J (X2n rfl) ?_
  rw [W]
  exact ⟨fQ,fR,fS,fT,fU,C,aS,aT,⟨i,dM,dN,o,p,dO,cH,cI⟩⟩
 have cC:=aG
 have g2:=aG
 refine Zs J fun _ dP=>?_;refine Ze (X0f rfl rfl)<|Za rfl<|Zt dP fun a J=>?_
 refine Xf J rfl (fun aH=>?_) (fun aH=>?_)
 ·have cJ:=aH;have W:=Xvd (x:=x) g1 g2 aH;refine Zs J fun _ dQ=>?_;refine Zm rfl<|Ze (Vd rfl X18 1)<|Ze (X0 rfl Xa (f.at 1))<|Zf (X16 (vs:=[(pZ9 bV),vi g.a,vi 4]) rfl X6e (Xdd _ bV B0 A0 c0 BW eW A1 c1 A2 c2 m0 n0 x ⟨i,E,G,o,p,aD,a8,aA⟩ (Q0 a7 C.size) g.a 4 aB aC bD ⟨by decide,by decide⟩)) ?_;rintro _ w6 ⟨fV,fW,fX,fY,fZ,D,aU,aV,I,bN,bO,y,z,dR,cK,cL⟩;have f:=f.tu D i rfl (alc (nrow E f rfl) (alc (nrow G f rfl) (alc (nrow o f rfl) (alc (nrow p f rfl) al0))));have q:=SB.lift (S:=SB bV [A0,BW,A1,A2]) (w0:=w0) (.inl (.inl rfl)) (alc aE (alc aF (alc Q (alc U al0))));have aU:=Us.trans aU q C.size;have aV:=Us.trans aV q C.size
  have C:=tstr C D q;clear q
  clear D i;have i:=I;clear I
  clear o;have o:=y;clear y
  clear p;have p:=z;clear z;refine Zx dQ fun a J _ dS=>?_;refine Zm rfl<|Ze (Vd rfl X18 1)<|Ze (X0 rfl Xa (f.at 1))<|Zf (X16 (vs:=[(pZ9 bV),vi g.a]) rfl X3g (X6x _ bV B0 fV fW fX fY A1 c1 A2 c2 fZ n0 (trnB x g.a 4) ⟨i,bN,bO,o,p,dR,cK,cL⟩ (Q0 a7 C.size) g.a aB)) ?_;rintro _ w7 ⟨g5,g6,g7,g8,gA,D,aW,aX,I,bP,bQ,y,z,dT,cM,cN⟩;have f:=f.tu D i rfl (alc (nrow bN f rfl) (alc (nrow bO f rfl) (alc (nrow o f rfl) (alc (nrow p f rfl) al0))));have q:=SB.lift (S:=SB bV [A0,BW,A1,A2]) (w0:=w0) (.inl (.inl rfl)) (alc aU (alc aV (alc Q (alc U al0))));have aW:=Us.trans aW q C.size;have aX:=Us.trans aX q C.size
  have C:=tstr C D q;clear q
  clear D i;have i:=I;clear I
  clear o;have o:=y;clear y
  clear p;have p:=z;clear z;refine Zx dS fun a J _ dU=>?_;refine Zm rfl<|Ze (Vd rfl X18 1)<|Ze (X0 rfl Xa (f.at 1))<|Zf (X16 (vs:=[(pZ9 bV),vi g.a,vi 4]) rfl X6e (Xdd _ bV B0 g5 g6 g7 g8 A1 c1 A2 c2 gA n0 (flpB (trnB x g.a 4) g.a) ⟨i,bP,bQ,o,p,dT,cM,cN⟩ (Q0 a7 C.size) g.a 4 aB (X1o o1 g.a) (show (trnB x g.a 4).d.ns.length<=_/\(trnB x g.a 4).d.ws.length<=_ by omega) ⟨by decide,by decide⟩)) ?_;rintro _ w8 ⟨gB,gC,gD,gE,gF,D,aY,aZ,I,bR,bS,y,z,dV,cO,cP⟩;have f:=f.tu D i rfl (alc (nrow bP f rfl) (alc (nrow bQ f rfl) (alc (nrow o f rfl) (alc (nrow p f rfl) al0))));have q:=SB.lift (S:=SB bV [A0,BW,A1,A2]) (w0:=w0) (.inl (.inl rfl)) (alc aW (alc aX (alc Q (alc U al0))));have aY:=Us.trans aY q C.size;have aZ:=Us.trans aZ q C.size
  have C:=tstr C D q;clear q
  clear D i;have i:=I;clear I
  clear o;have o:=y;clear y
  clear p;have p:=z;clear z;refine Zx dU fun a J _ dW=>?_;refine Zm rfl<|Ze (Vd rfl X18 1)<|Ze (X0 rfl Xa (f.at 1))<|Zf (X16 (vs:=[(pZ9 bV),vi g.a]) rfl X3g (X6x _ bV B0 gB gC gD gE A1 c1 A2 c2 gF n0 (trnB (flpB (trnB x g.a 4) g.a) g.a 4) ⟨i,bR,bS,o,p,dV,cO,cP⟩ (Q0 a7 C.size) g.a aB)) ?_;rintro _ w9 ⟨dX,dY,dZ,e8,e9,D,b0,b1,I,bF,bG,y,z,eA,cQ,cR⟩;have f:=f.tu D i rfl (alc (nrow bR f rfl) (alc (nrow bS f rfl) (alc (nrow o f rfl) (alc (nrow p f rfl) al0))));have q:=SB.lift (S:=SB bV [A0,BW,A1,A2]) (w0:=w0) (.inl (.inl rfl)) (alc aY (alc aZ (alc Q (alc U al0))));have b0:=Us.trans b0 q C.size;have b1:=Us.trans b1 q C.size
  have C:=tstr C D q;clear q
  clear D i;have i:=I;clear I
  clear o;have o:=y;clear y
  clear p;have p:=z;clear z;refine Zt dW fun a J=>?_;refine Zr J<|Zm rfl<|Ze (X03 rfl)<|Ze (Vd rfl X0g 0)<|Ze (Vd rfl X0l 3)<|Ze (X0 rfl Xa (i.at 3))<|Ze (X3h rfl rfl)<|Ze (X03 rfl)<|Ze (Vd rfl X0g 0)<|Ze (Vd rfl X0l 3)<|Zo (X17 (vs:=[vi (wr (((flpB (trnB (flpB (trnB x g.a 4) g.a) g.a 4) g.a).d.t)+2))]) (l':=[vi ((flpB (trnB (flpB (trnB x g.a 4) g.a) g.a 4) g.a).d.n),.slice dX e9 dY,.slice dZ ((flpB (trnB (flpB (trnB x g.a 4) g.a) g.a 4) g.a).d.ws).length e8,vi (wr (((flpB (trnB (flpB (trnB x g.a 4) g.a) g.a 4) g.a).d.t)+2)),vi ((flpB (trnB (flpB (trnB x g.a 4) g.a) g.a 4) g.a).d.r),.slice A1 n0 c1,.slice A2 n0 c2]) rfl rfl X0a i rfl rfl rfl rfl rfl) ?_;rintro _ iC ⟨ho,hb⟩;have a6:=i;have o:=o.oT ho a6 rfl;have p:=p.oT ho a6 rfl;have bF:=bF.oT ho a6 rfl;have bG:=bG.oT ho a6 rfl;have C:=tsonly C ho (.inl (.inl rfl));have i:=hb;refine Zn fun a J=>?_;refine Xb<|X1t J (X2n rfl) ?_
  rw [W]
  exact ⟨dX,dY,dZ,e8,e9,C,b0,b1,⟨i,bF,bG,o,p,eA,cQ,cR⟩⟩
 have cJ:=aH
 have g3:=aH
 refine Zs J fun _ eB=>?_;refine Ze (X0f rfl rfl)<|Za rfl<|Zt eB fun a J=>?_
 refine Xf J rfl (fun aI=>?_) (fun aI=>?_)
 ·have cS:=aI;have W:=Xvl (x:=x) g1 g2 g3 aI;refine Zs J fun _ eC=>?_;refine Zm rfl<|Ze (Vd rfl X23 2)<|Ze (X0 rfl Xa (f.at 2))<|Zf (X16 (vs:=[(pZ9 bV),vi g.b]) rfl X3g (X6x _ bV B0 A0 c0 BW eW A1 c1 A2 c2 m0 n0 x ⟨i,E,G,o,p,aD,a8,aA⟩ (Q0 a7 C.size) g.b bH)) ?_;rintro _ iD ⟨gG,gH,gI,gJ,gK,D,b2,b3,I,bT,bU,y,z,eD,cT,cU⟩;have f:=f.tu D i rfl (alc (nrow E f rfl) (alc (nrow G f rfl) (alc (nrow o f rfl) (alc (nrow p f rfl) al0))));have q:=SB.lift (S:=SB bV [A0,BW,A1,A2]) (w0:=w0) (.inl (.inl rfl)) (alc aE (alc aF (alc Q (alc U al0))));have b2:=Us.trans b2 q C.size;have b3:=Us.trans b3 q C.size
  have C:=tstr C D q;clear q
  clear D i;have i:=I;clear I
  clear o;have o:=y;clear y
  clear p;have p:=z;clear z;refine Zx eC fun a J _ eE=>?_;refine Zm rfl<|Ze (Vd rfl X18 1)<|Ze (X0 rfl Xa (f.at 1))<|Ze (Vd rfl X23 2)<|Ze (X0 rfl Xa (f.at 2))<|Zf (X16 (vs:=[(pZ9 bV),vi g.a,vi g.b]) rfl Xbn (Xmp _ bV B0 gG gH gI gJ A1 c1 A2 c2 gK n0 (flpB x g.b) ⟨i,bT,bU,o,p,eD,cT,cU⟩ (Q0 a7 C.size) g.a g.b aB bH (X1o aC g.b) bD)) ?_;rintro _ iE ⟨gL,gM,gN,gO,gQ,D,b4,b5,I,bW,bX,y,z,eF,cV,cW⟩;have f:=f.tu D i rfl (alc (nrow bT f rfl) (alc (nrow bU f rfl) (alc (nrow o f rfl) (alc (nrow p f rfl) al0))));have q:=SB.lift (S:=SB bV [A0,BW,A1,A2]) (w0:=w0) (.inl (.inl rfl)) (alc b2 (alc b3 (alc Q (alc U al0))));have b4:=Us.trans b4 q C.size;have b5:=Us.trans b5 q C.size
  have C:=tstr C D q;clear q
  clear D i;have i:=I;clear I
  clear o;have o:=y;clear y
  clear p;have p:=z;clear z;refine Zt eE fun a J=>?_;refine Zr J<|Zm rfl<|Ze (Vd rfl X23 2)<|Ze (X0 rfl Xa (f.at 2))<|Zf (X16 (vs:=[(pZ9 bV),vi g.b]) rfl X3g (X6x _ bV B0 gL gM gN gO A1 c1 A2 c2 gQ n0 (czB (flpB x g.b) g.a g.b) ⟨i,bW,bX,o,p,eF,cV,cW⟩ (Q0 a7 C.size) g.b bH)) ?_;rintro _ iF ⟨gR,gS,gT,gU,gX,D,b7,b8,I,eG,eH,y,z,eI,cX,cY⟩;have f:=f.tu D i rfl (alc (nrow bW f rfl) (alc (nrow bX f rfl) (alc (nrow o f rfl) (alc (nrow p f rfl) al0))));have q:=SB.lift (S:=SB bV [A0,BW,A1,A2]) (w0:=w0) (.inl (.inl rfl)) (alc b4 (alc b5 (alc Q (alc U al0))));have b7:=Us.trans b7 q C.size;have b8:=Us.trans b8 q C.size
  have C:=tstr C D q;clear q
  clear D i;have i:=I;clear I
  clear o;have o:=y;clear y
  clear p;have p:=z;clear z;refine Zn fun a J=>?_;refine Xb<|X1t J (X2n rfl) ?_
  rw [W]
  exact ⟨gR,gS,gT,gU,gX,C,b7,b8,⟨i,eG,eH,o,p,eI,cX,cY⟩⟩
 have cS:=aI
 have g9:=aI
 refine Zs J fun _ eJ=>?_;refine Ze (X0f rfl rfl)<|Za rfl<|Zt eJ fun a J=>?_
 refine Xf J rfl (fun aJ=>?_) (fun aJ=>?_)
 ·have cZ:=aJ;have W:=Xr0 (x:=x) g1 g2 g3 g9 aJ;refine Zr J<|Zm rfl<|Ze (Vd rfl X18 1)<|Ze (X0 rfl Xa (f.at 1))<|Ze (Vd rfl X23 2)<|Ze (X0 rfl Xa (f.at 2))<|Zf (X16 (vs:=[(pZ9 bV),vi g.a,vi g.b]) rfl Xbn (Xmp _ bV B0 A0 c0 BW eW A1 c1 A2 c2 m0 n0 x ⟨i,E,G,o,p,aD,a8,aA⟩ (Q0 a7 C.size) g.a g.b aB bH aC bD)) ?_;rintro _ iG ⟨gY,gZ,hJ,hS,hU,D,b9,bA,I,eK,eL,y,z,eM,d5,d6⟩;have f:=f.tu D i rfl (alc (nrow E f rfl) (alc (nrow G f rfl) (alc (nrow o f rfl) (alc (nrow p f rfl) al0))));have q:=SB.lift (S:=SB bV [A0,BW,A1,A2]) (w0:=w0) (.inl (.inl rfl)) (alc aE (alc aF (alc Q (alc U al0))));have b9:=Us.trans b9 q C.size;have bA:=Us.trans bA q C.size
  have C:=tstr C D q;clear q
  clear D i;have i:=I;clear I
  clear o;have o:=y;clear y
  clear p;have p:=z;clear z;refine Zn fun a J=>?_;refine Xb<|X1t J (X2n rfl) ?_
  rw [W]
  exact ⟨gY,gZ,hJ,hS,hU,C,b9,bA,⟨i,eK,eL,o,p,eM,d5,d6⟩⟩
 have cZ:=aJ
 have bI:=aJ
 refine Zs J fun _ eO=>?_;refine Ze (X0f rfl rfl)<|Za rfl<|Zt eO fun a J=>?_
 refine Xf J rfl (fun aK=>?_) (fun aK=>?_)
 ·have d7:=aK;have W:=Xsu (x:=x) g1 g2 g3 g9 bI aK;refine Q5 fun _ eP=>?_;refine Xz none (fun _=>false) mixed ?_;intro iH L;have i:=i.bw L;have f:=f.bw L;have E:=E.bw L;have G:=G.bw L;have o:=o.bw L;have p:=p.bw L;have C:=tsbel C L;refine Yb J<|Yo 0 rfl (fun _=>X3 rfl)<|Yo 1 rfl (fun _=>X03 rfl)<|Yo 2 rfl (fun _=>Vd rfl X1i 5)<|Ye 3 rfl (X0 rfl X3p (i.at 5))<|Yo 4 rfl (fun _=>Vd rfl X18 1)<|Ye 5 rfl (X0 rfl Xa (f.at 1))<|Yo 6 rfl (fun _=>Xp (k:=g.a.toNat) rfl rfl Xk X0a o a8 (by omega) (by first|omega|(rw [List.length_set];omega)))<|Ye 7 rfl (X0 rfl Xa (X0u o Xh (Xg (d:=(0:Int)) (by first|omega|(rw [List.length_set];omega))) 0 rfl))<|Yo 8 rfl (fun _=>X3 rfl)<|Yo 9 rfl (fun _=>X03 rfl) ?_;refine Yo 10 rfl (fun _=>Vd rfl X1x 6)<|Ye 11 rfl (X0 rfl X3a (i.at 6))<|Yo 12 rfl (fun _=>Vd rfl X18 1)<|Ye 13 rfl (X0 rfl Xa (f.at 1))<|Yo 14 rfl (fun _=>Xp (k:=g.a.toNat) rfl rfl X33 X5v p aA (by omega) (by first|omega|(rw [List.length_set];omega)))<|Ye 15 rfl (X0 rfl X82 (X0u p X1u (Xg (d:=false) (by first|omega|(rw [List.length_set];omega))) 0 rfl))<|Yo 16 rfl (fun _=>X0h rfl)<|Yo 17 rfl (fun _=>X0h rfl) ?_;refine Yd fun a J=>?_;refine eP _ _<|Q5 fun _ eQ=>?_;refine Xz none (fun j=>[15].contains j) mixed ?_;intro iI L;have i:=i.bw L;have f:=f.bw L;have E:=E.bw L;have G:=G.bw L;have o:=o.bw L;have p:=p.bw L;have C:=tsbel C L;refine Yb J<|Yo 0 rfl (fun _=>X3 rfl)<|Yo 1 rfl (fun _=>X03 rfl)<|Yo 2 rfl (fun _=>Vd rfl X1i 5)<|Ye 3 rfl (X0 rfl X3p (i.at 5))<|Yo 4 rfl (fun _=>Vd rfl X18 1)<|Ye 5 rfl (X0 rfl Xa (f.at 1))<|Yo 6 rfl (fun _=>X3 rfl)<|Yo 7 rfl (fun _=>X03 rfl)<|Yo 8 rfl (fun _=>Vd rfl X1i 5)<|Ye 9 rfl (X0 rfl X3p (i.at 5)) ?_
  refine Yo 10 rfl (fun _=>Vd rfl X23 2)<|Ye 11 rfl (X0 rfl Xa (f.at 2))<|Yo 12 rfl (fun _=>Xp (k:=g.b.toNat) rfl rfl Xk X0a o a8 (by omega) (by first|omega|(rw [List.length_set];omega)))<|Ye 13 rfl (X0 rfl Xa (X0u o Xh (Xg (d:=(0:Int)) (by first|omega|(rw [List.length_set];omega))) 0 rfl))<|Yo 14 rfl (fun _=>Xp (k:=g.a.toNat) rfl rfl Xk X0a o a8 (by omega) (by first|omega|(rw [List.length_set];omega)))<|Y1 15 ?_;refine Yh rfl tv0 rfl (X0y (enc:=encI) (l:=x.la) (vs:=[vi (x.la.getD g.b.toNat 0)]) (x0:=(x.la.getD g.a.toNat 0)) (u:=(x.la.getD g.b.toNat 0)) (k:=g.a.toNat) (j:=0) (n1:=1) rfl rfl X0a o Xh rfl rfl rfl rfl (by decide) (Xg (d:=(0:Int)) (by first|omega|(rw [List.length_set];omega))) rfl) ?_;rintro _ iJ ⟨M,N⟩;have H:=o;have i:=i.appT H N rfl;have f:=f.appT H N rfl;have E:=E.appT H N rfl;have G:=G.appT H N rfl;have p:=p.appT H N rfl;have C:=tsrow C N Q
  clear H N;clear o;have o:=M;clear M;refine Yd fun a J=>?_;refine eQ _ _<|Q5 fun _ eR=>?_;refine Xz none (fun j=>[15].contains j) mixed ?_;intro iK L;have i:=i.bw L;have f:=f.bw L;have E:=E.bw L;have G:=G.bw L;have p:=p.bw L;have o:=o.bw L;have C:=tsbel C L;refine Yb J<|Yo 0 rfl (fun _=>X3 rfl)<|Yo 1 rfl (fun _=>X03 rfl)<|Yo 2 rfl (fun _=>Vd rfl X1x 6)<|Ye 3 rfl (X0 rfl X3a (i.at 6))<|Yo 4 rfl (fun _=>Vd rfl X18 1)<|Ye 5 rfl (X0 rfl Xa (f.at 1))<|Yo 6 rfl (fun _=>X3 rfl)<|Yo 7 rfl (fun _=>X03 rfl)<|Yo 8 rfl (fun _=>Vd rfl X1x 6)<|Ye 9 rfl (X0 rfl X3a (i.at 6)) ?_;refine Yo 10 rfl (fun _=>Vd rfl X23 2)<|Ye 11 rfl (X0 rfl Xa (f.at 2))<|Yo 12 rfl (fun _=>Xp (k:=g.b.toNat) rfl rfl X33 X5v p aA (by omega) (by first|omega|(rw [List.length_set];omega)))<|Ye 13 rfl (X0 rfl X82 (X0u p X1u (Xg (d:=false) (by first|omega|(rw [List.length_set];omega))) 0 rfl))<|Yo 14 rfl (fun _=>Xp (k:=g.a.toNat) rfl rfl X33 X5v p aA (by omega) (by first|omega|(rw [List.length_set];omega)))<|Y1 15 ?_;refine Yh rfl tv0 rfl (X0y (enc:=encB) (l:=x.hd) (vs:=[.bool (x.hd.getD g.b.toNat false)]) (x0:=(x.hd.getD g.a.toNat false)) (u:=(x.hd.getD g.b.toNat false)) (k:=g.a.toNat) (j:=0) (n1:=1) rfl rfl X5v p X1u rfl rfl rfl rfl (by decide) (Xg (d:=false) (by first|omega|(rw [List.length_set];omega))) rfl) ?_;rintro _ iL ⟨M,N⟩;have H:=p;have i:=i.appT H N rfl;have f:=f.appT H N rfl;have E:=E.appT H N rfl;have G:=G.appT H N rfl;have o:=o.appT H N rfl;have C:=tsrow C N U
  clear H N;clear p;have p:=M;clear M;refine Yd fun a J=>?_;refine eR _ _<|Q5 fun _ eS=>?_;refine Xz none (fun j=>[8].contains j) mixed ?_;intro iM L;have i:=i.bw L;have f:=f.bw L;have E:=E.bw L;have G:=G.bw L;have o:=o.bw L;have p:=p.bw L;have C:=tsbel C L;refine Yb J<|Yo 0 rfl (fun _=>X3 rfl)<|Yo 1 rfl (fun _=>X03 rfl)<|Yo 2 rfl (fun _=>Vd rfl X1i 5)<|Ye 3 rfl (X0 rfl X3p (i.at 5))<|Yo 4 rfl (fun _=>Vd rfl X23 2)<|Ye 5 rfl (X0 rfl Xa (f.at 2))<|Yo 6 rfl (fun _=>X3 rfl)<|Yo 7 rfl (fun _=>Xp (k:=g.b.toNat) rfl rfl Xk X0a o (a8.trans List.length_set.symm) (by omega) (by first|omega|(rw [List.length_set];omega)))<|Y1 8 ?_;refine Yh rfl tv0 rfl (X0y (enc:=encI) (l:=(x.la.set g.a.toNat (x.la.getD g.b.toNat 0))) (vs:=[vi (x.la.getD g.a.toNat 0)]) (x0:=((x.la.set g.a.toNat (x.la.getD g.b.toNat 0)).getD g.b.toNat 0)) (u:=(x.la.getD g.a.toNat 0)) (k:=g.b.toNat) (j:=0) (n1:=1) rfl rfl X0a o Xh rfl rfl rfl rfl (by decide) (Xg (d:=(0:Int)) (by first|omega|(rw [List.length_set];omega))) rfl) ?_;rintro _ iN ⟨M,N⟩;have H:=o;have i:=i.appT H N rfl;have f:=f.appT H N rfl;have E:=E.appT H N rfl;have G:=G.appT H N rfl;have p:=p.appT H N rfl;have C:=tsrow C N Q
  clear H N;clear o;have o:=M;clear M;refine Yd fun a J=>?_;refine eS _ _<|Xz none (fun j=>[8].contains j) mixed ?_;intro iO L;have i:=i.bw L;have f:=f.bw L;have E:=E.bw L;have G:=G.bw L;have p:=p.bw L;have o:=o.bw L;have C:=tsbel C L;refine Yb J<|Yo 0 rfl (fun _=>X3 rfl)<|Yo 1 rfl (fun _=>X03 rfl)<|Yo 2 rfl (fun _=>Vd rfl X1x 6)<|Ye 3 rfl (X0 rfl X3a (i.at 6))<|Yo 4 rfl (fun _=>Vd rfl X23 2)<|Ye 5 rfl (X0 rfl Xa (f.at 2))<|Yo 6 rfl (fun _=>X3 rfl)<|Yo 7 rfl (fun _=>Xp (k:=g.b.toNat) rfl rfl X33 X5v p (aA.trans List.length_set.symm) (by omega) (by first|omega|(rw [List.length_set];omega)))<|Y1 8 ?_;refine Yh rfl tv0 rfl (X0y (enc:=encB) (l:=(x.hd.set g.a.toNat (x.hd.getD g.b.toNat false))) (vs:=[.bool (x.hd.getD g.a.toNat false)]) (x0:=((x.hd.set g.a.toNat (x.hd.getD g.b.toNat false)).getD g.b.toNat false)) (u:=(x.hd.getD g.a.toNat false)) (k:=g.b.toNat) (j:=0) (n1:=1) rfl rfl X5v p X1u rfl rfl rfl rfl (by decide) (Xg (d:=false) (by first|omega|(rw [List.length_set];omega))) rfl) ?_;rintro _ iP ⟨M,N⟩;have H:=p;have i:=i.appT H N rfl;have E:=E.appT H N rfl;have G:=G.appT H N rfl;have o:=o.appT H N rfl;have C:=tsrow C N U
  clear H N;clear p;have p:=M;clear M;refine Yd fun a J=>?_;refine Xb<|X1t J (X2n rfl) ?_
  rw [W]
  exact ⟨A0,c0,BW,eW,m0,C,aE,aF,⟨i,E,G,o,p,aD,((a8.trans List.length_set.symm).trans List.length_set.symm),((aA.trans List.length_set.symm).trans List.length_set.symm)⟩⟩
 have d7:=aK
 have d8:=aK
 refine Zs J fun _ eT=>?_;refine Ze (X0f rfl rfl)<|Za rfl<|Zt eT fun a J=>?_
 refine Xf J rfl (fun aL=>?_) (fun aL=>?_)
 ·have d9:=aL;have W:=Xq3 (x:=x) g1 g2 g3 g9 bI d8 aL;refine Zr J<|Zm rfl<|Ze (X03 rfl)<|Ze (Vd rfl X0g 0)<|Ze (Vd rfl X0l 3)<|Ze (X0 rfl Xa (i.at 3))<|Ze (X3h rfl rfl)<|Ze (X03 rfl)<|Ze (Vd rfl X0g 0)<|Ze (Vd rfl X0l 3)<|Zo (X17 (vs:=[vi (wr (x.d.t+1))]) (l':=[vi x.d.n,.slice A0 m0 c0,.slice BW x.d.ws.length eW,vi (wr (x.d.t+1)),vi x.d.r,.slice A1 n0 c1,.slice A2 n0 c2]) rfl rfl X0a i rfl rfl rfl rfl rfl) ?_;rintro _ iQ ⟨ho,hb⟩;have a6:=i;have E:=E.oT ho a6 rfl;have G:=G.oT ho a6 rfl;have o:=o.oT ho a6 rfl;have p:=p.oT ho a6 rfl;have C:=tsonly C ho (.inl (.inl rfl));have i:=hb;refine Zn fun a J=>?_;refine Xb<|X1t J (X2n rfl) ?_
  rw [W]
  exact ⟨A0,c0,BW,eW,m0,C,aE,aF,⟨i,E,G,o,p,aD,a8,aA⟩⟩
 have d9:=aL
 have eU:=aL
 have W:=Xug (x:=x) g1 g2 g3 g9 bI d8 eU
 have eV:4<=g.k/\g.k<=8:=by simp only [beq_eq_false_iff_ne] at g1 g2 g3 g9 bI d8 eU;omega
 have eX:=Xpi eV;refine Xz none (fun j=>[9].contains j) mixed ?_;intro iR L;have i:=i.bw L;have f:=f.bw L;have E:=E.bw L;have G:=G.bw L;have o:=o.bw L;have p:=p.bw L;have C:=tsbel C L;refine Yb J<|Yo 0 rfl (fun _=>X3 rfl)<|Yo 1 rfl (fun _=>Vd rfl X18 1)<|Ye 2 rfl (X0 rfl Xa (f.at 1))<|Yo 4 rfl (fun _=>Vd rfl X5e 0)<|Ye 5 rfl (X0 rfl Xa (f.at 0))<|Yo 6 rfl (fun _=>X1d rfl rfl (by omega) (by omega))<|Y1 3 ?_;refine Yk rfl tv0 (Xj (k:=5) (vs:=[vi 4,vi 2,vi 6,vi 1,vi 7]) (zs:=[vi 4,vi 2,vi 6,vi 1,vi 7]) rfl Xk X1f rfl rfl) (fun _ _ ⟨_,_,_,h,_⟩=>h) ?_;rintro _ iS ⟨iT,rfl,bY,L,bZ⟩;have hY:=Q0 C.size bY;have eY:=o.away bY;have i:=i.bw L;have f:=f.bw L;have E:=E.bw L;have G:=G.bw L;have o:=o.bw L;have p:=p.bw L;have C:=tsbel C L;refine Yi (k:=(g.k-4).toNat) (u:=(rotC g.k)) (enc:=encI) (l:=[4,2,6,1,7]) 7 rfl tv0 rfl rfl Xk X0a Xh (Rd.of_blk bZ rfl _ bZ.lt) eX.1 (by omega) ?_;intro iU dA;refine Ye 8 rfl (X0 rfl Xa dA)<|Y1 9 ?_;refine Yt rfl tv0 rfl (X16 (vs:=[(pZ9 bV),vi g.a,vi (rotC g.k)]) rfl X6e (Xdd _ bV B0 A0 c0 BW eW A1 c1 A2 c2 m0 n0 x ⟨i,E,G,o,p,aD,a8,aA⟩ (Q0 a7 C.size) g.a (rotC g.k) aB aC bD eX.2)) ?_;rintro _ iV ⟨i0,i1,i2,i4,i5,D,bB,bC,I,eZ,f0,y,z,f3,dB,dC⟩;have f:=f.tu D i rfl (alc (nrow E f rfl) (alc (nrow G f rfl) (alc (nrow o f rfl) (alc (nrow p f rfl) al0))));have q:=SB.lift (S:=SB bV [A0,BW,A1,A2]) (w0:=w0) (.inl (.inl rfl)) (alc aE (alc aF (alc Q (alc U al0))));have bB:=Us.trans bB q C.size
 have bC:=Us.trans bC q C.size
 have C:=tstr C D q;clear q
 clear D i;have i:=I;clear I
 clear o;have o:=y;clear y
 clear p;have p:=z;clear z;refine Yd fun a J=>?_;refine Xb<|X1t J (X2n rfl) ?_
 rw [W]
 exact ⟨i0,i1,i2,i4,i5,C,bB,bC,⟨i,eZ,f0,o,p,f3,dB,dC⟩⟩
theorem Xs9(N:World)(c:Cx)(Ac:Option Addr)(cc:Nat)(bK:Rd N N.heap.size 78 encG Ac c.gs)(hc:cOk c=true) : Ret Tryz.prog 36 [.agg #[vi c.n,.slice Ac c.gs.length cc]] N (fun v w=>∃ A c1 B e,v=.agg #[vi (ofD c).n,.slice A (ofD c).ns.length c1,.slice B (ofD c).ws.length e,vi (ofD c).t,vi (ofD c).r]/\Own w N.heap.size 76 2 encNd A c1 (ofD c).ns/\Own w N.heap.size 84 3 encWr B e (ofD c).ws/\Below N.heap.size N w):=by
 obtain ⟨n9,eQ,eR,eS⟩:=X7x hc
 have cI:c.n=((c.n.toNat:Nat) : Int):=by omega
 have eT:=Xhw hc
 have cJ:(List.replicate (c.n.toNat:Nat) false).length=(c.n.toNat:Nat):=List.length_replicate
 have cK:(c.n.toNat:Nat)<=maxLen:=by simp only [maxLen];omega
 refine enter Tryz.func36 rfl 79 rfl rfl ?_;intro a z
 have q:=bz N
 refine Zs z fun _ dV=>?_;refine Zf (X0q (zs:=[vi c.n,.slice Ac c.gs.length cc]) rfl rfl) ?_;rintro _ w1 ⟨b3,rfl,dW,E,i⟩;have eO:=Q0 q.size dW;have q:=btr q E;refine Zf (Xw (zs:=[vi 0,.slice none 0 0,.slice none 0 0,vi 0,vi 0]) X0e rfl) ?_;rintro _ w2 ⟨b6,rfl,dX,E,o⟩;have cL:=Q0 q.size dX;have i:=i.bw E;have q:=btr q E;refine ZX dV fun a z _ dY=>?_;refine Xz none (fun _=>false) mixed ?_;intro w3 E;have i:=i.bw E;have o:=o.bw E;have q:=btr q E;refine Yb z<|Yo 0 rfl (fun _=>Vd rfl X65 0)<|Ye 1 rfl (X0 rfl Xa (i.at 0))<|Yo 2 rfl (fun _=>X11 (ps:=[(0,vi c.n)]) (cs:=[vi c.n,.slice none 0 0,.slice none 0 0,vi 0,vi 0]) rfl (fun _=>by first|rfl|kernel_rfl))<|Yo 3 rfl (fun _=>Vd rfl X65 0)<|Ye 4 rfl (Vx (X0 rfl Xa (i.at 0)) cI)<|Y1 5 ?_;refine Yk rfl tv0 (X4u (m:=(c.n.toNat:Nat)) (enc:=encB) (z0:=false) rfl rfl X33 Xtu z_4 rfl X1u (by omega) (by omega)) (fun _ _ ⟨_,_,_,h,_⟩=>h) ?_;rintro _ w4 ⟨bE,rfl,cM,E,aZ⟩;have bO:=Q0 q.size cM;have i:=i.bw E;have o:=o.bw E;have q:=btr q E;refine Yo 6 rfl (fun _=>X11 (ps:=[(0,.agg #[vi c.n,.slice none 0 0,.slice none 0 0,vi 0,vi 0]),(2,.slice (some ⟨bE,0,none⟩) (c.n.toNat:Nat) (c.n.toNat:Nat))]) (cs:=[vi c.n,.slice none 0 0,.slice none 0 0,vi 0,vi 0,.slice none 0 0,.slice (some ⟨bE,0,none⟩) (c.n.toNat:Nat) (c.n.toNat:Nat)]) rfl (fun _=>by first|rfl|kernel_rfl))<|Y1 7 ?_;refine Yk rfl tv0 (X0q (zs:=[vi c.n,.slice none 0 0,.slice none 0 0,vi 0,vi 0,.slice none 0 0,.slice (some ⟨bE,0,none⟩) (c.n.toNat:Nat) (c.n.toNat:Nat)]) rfl rfl) (fun _ _ ⟨_,_,_,h,_⟩=>h) ?_;rintro _ w5 ⟨aE,rfl,cN,E,g⟩;have aB:=Q0 q.size cN
 have i:=i.bw E;have o:=o.bw E;have aZ:=aZ.bw E;have q:=btr q E;refine Yo 8 rfl (fun _=>X0h rfl) ?_;refine Yd fun a z=>?_;refine dY _ _<|Q5 fun _ cO=>?_;refine Zs z fun _ cP=>?_;refine Za rfl<|Zt cP fun a z=>?_;refine Q8<|X02 (σ:=Nat×(List Nd)×(List Int)) (fun (s:Nat×(List Nd)×(List Int)) (a:Act) (w:World)=>match s with|(k,u,v)=>∃ bF bG b0 b1 aN aO,Fr a 79 [(1,(pZ9 b3)),(2,(pZ9 b6)),(3,(pZ9 aE)),(4,vi (k:Int))]/\(k<=c.n.toNat)/\(u=inN k)/\(v=ranI k)/\Blk w b3 26 [vi c.n,.slice Ac c.gs.length cc]/\Blk w b6 31 [vi 0,.slice none 0 0,.slice none 0 0,vi 0,vi 0]/\Blk w aE 139 [vi c.n,.slice bF u.length bG,.slice none 0 0,vi 0,vi 0,.slice b0 v.length b1,.slice aN (c.n.toNat:Nat) aO]/\Own w N.heap.size 76 2 encNd bF bG u/\Own w N.heap.size 3 1 encI b0 b1 v/\Own w N.heap.size 4 1 encB aN aO (List.replicate (c.n.toNat:Nat) false)/\Below N.heap.size N w) (fun (s:Nat×(List Nd)×(List Int))=>match s with|(k,u,v)=>c.n.toNat-k) (0,[],[]) ?_ ?_
 ·exact ⟨none,0,none,0,some ⟨bE,0,none⟩,(c.n.toNat:Nat),z.sb,(Qf _),rfl,rfl,i,o,g,(Own.nil _ _ _ _ _),(Own.nil _ _ _ _ _),(Own.of_flat X1u aZ bO cJ cK),q⟩
 rintro ⟨k,u,v⟩ a w6 ⟨bF,bG,b0,b1,aN,aO,z,hk,hu,hv,i,o,g,aG,I,D,q⟩;have cQ:=X62 k;have cR:=X6k k
 rw [<- hu] at cQ
 rw [<- hv] at cR
 refine Q5 fun _ cS=>?_;refine Zs z fun _ cT=>?_;refine Zm rfl<|Ze (Vd rfl X65 0)<|Ze (X0 rfl Xa (i.at 0))<|Ze (X0i rfl rfl)<|Zt cT fun a z=>?_
 refine Xf z rfl (fun U=>?_) (fun U=>?_)
 ·have bP:=U;have U:=Q2 U
  have bH:k<c.n.toNat:=by have:=U;omega
  refine Q7<|cS _ _<|Q5 fun _ cU=>?_;refine Q8<|Zs z fun _ cV=>?_;refine Zm rfl<|Zm rfl<|Ze (X03 rfl)<|Ze (Vd rfl X0g 0)<|Ze (Vd rfl Xc 1)<|Ze (X0 rfl Xv (g.at 1))<|Zm rfl<|Ze (X11 (ps:=[(0,vi 1),(1,vi (k:Int))]) (cs:=[vi 1,vi (k:Int)]) rfl (fun _=>by first|rfl|kernel_rfl))<|Zf (Xj (k:=1) (vs:=[.agg #[vi 1,vi (k:Int)]]) (zs:=[vi 1,vi (k:Int)]) rfl Xm X1j rfl rfl) ?_;rintro _ w7 ⟨eU,rfl,bL,E,b2⟩;have dZ:=Q0 q.size bL;have aP:=aG.away bL;have i:=i.bw E;have o:=o.bw E;have g:=g.bw E;have aG:=aG.bw E;have I:=I.bw E;have D:=D.bw E;have q:=btr q E;refine Zf (X0k (enc:=encNd) (l:=(u)) (l2:=([(⟨1,(k:Int)⟩ : Nd)])) (B0:=N.heap.size) rfl rfl Xm X1j Xt X2b aG (Rd.of_blk b2 rfl _ b2.lt) (by simp only [maxLen];simp;omega) (by simp;omega) q.size) ?_;rintro _ w8 ⟨bI,bJ,rfl,W,hg,b4⟩
  have C:Own _ N.heap.size 76 2 encNd _ _ (u):=aG
  have cG:=b4 _ b2.lt aP;clear b4;have i:=i.appT C hg rfl;have o:=o.appT C hg rfl;have g:=g.appT C hg rfl;have I:=I.appT C hg rfl;have D:=D.appT C hg rfl;have q:=Below.app q C hg (Qb _) q.size;clear C hg;refine Ze (X03 rfl)<|Ze (Vd rfl X0g 0)<|Ze (Vd rfl Xc 1)<|Zo (Vu (vs:=[.slice bI (u++([(⟨1,(k:Int)⟩ : Nd)])).length bJ]) (l':=[vi c.n,.slice bI (u++([(⟨1,(k:Int)⟩ : Nd)])).length bJ,.slice none 0 0,vi 0,vi 0,.slice b0 v.length b1,.slice aN (c.n.toNat:Nat) aO]) rfl rfl X3d g) ?_;rintro _ w9 ⟨Q,hb⟩;have p:=g;have i:=i.oz Q p rfl;have o:=o.oz Q p rfl;have I:=I.oT Q p rfl;have D:=D.oT Q p rfl;have W:=W.oT Q p rfl;have q:=Below.oy q Q aB;have g:=hb;refine Zt cV fun a z=>?_;refine Zr z<|Zm rfl<|Zm rfl<|Ze (X03 rfl)<|Ze (Vd rfl X1i 5)<|Ze (X0 rfl X3p (g.at 5))<|Zm rfl<|Zf (Xj (k:=1) (vs:=[vi (k:Int)]) (zs:=[vi (k:Int)]) rfl Xk X1f rfl rfl) ?_;rintro _ eV ⟨eX,rfl,bM,E,b5⟩;have e8:=Q0 q.size bM;have aQ:=I.away bM;have i:=i.bw E;have o:=o.bw E;have g:=g.bw E;have I:=I.bw E;have D:=D.bw E;have W:=W.bw E;have q:=btr q E;refine Zf (X0k (enc:=encI) (l:=(v)) (l2:=([(k:Int)])) (B0:=N.heap.size) rfl rfl Xk X1f Xh X1z I (Rd.of_blk b5 rfl _ b5.lt) (by simp only [maxLen];simp;omega) (by simp;omega) q.size) ?_;rintro _ eY ⟨bQ,bR,rfl,b7,hg,b4⟩
  have C:Own _ N.heap.size 3 1 encI _ _ (v):=I
  have cH:=b4 _ b5.lt aQ;clear b4;have i:=i.appT C hg rfl;have o:=o.appT C hg rfl;have g:=g.appT C hg rfl;have D:=D.appT C hg rfl;have W:=W.appT C hg rfl;have q:=Below.app q C hg (Qb _) q.size;clear C hg;refine Ze (X03 rfl)<|Ze (Vd rfl X1i 5)<|Zo (Vu (vs:=[.slice bQ (v++([(k:Int)])).length bR]) (l':=[vi c.n,.slice bI (u++([(⟨1,(k:Int)⟩ : Nd)])).length bJ,.slice none 0 0,vi 0,vi 0,.slice bQ (v++([(k:Int)])).length bR,.slice aN (c.n.toNat:Nat) aO]) rfl rfl Xfx g) ?_;rintro _ eZ ⟨Q,hb⟩;have p:=g;have i:=i.oz Q p rfl;have o:=o.oz Q p rfl;have D:=D.oT Q p rfl;have W:=W.oT Q p rfl;have b7:=b7.oT Q p rfl;have q:=Below.oy q Q aB;have g:=hb;refine Zn fun a z=>?_;refine Xb<|cU _ _<|Zr z<|Zm rfl<|Ze (Xr rfl rfl (by omega) (by omega))<|Za rfl ?_;refine Zn fun a z=>?_;refine Xe ?_;exact ⟨(k+1,u++([(⟨1,(k:Int)⟩ : Nd)]),v++([(k:Int)])),⟨bI,bJ,bQ,bR,aN,aO,z.sb,(by omega),(by rw [Xt1,<- hu]),(by rw [Xod,<- hv]),i,o,g,W,b7,D,q⟩,(by first|omega|(dsimp only;omega))⟩
 have bP:=U;have U:=Q1 U
 have bH:k=c.n.toNat:=by have:=U;omega
 have cW:v.length=c.n.toNat:=by rw [hv,bH];exact X6k _
 have cX:(⟨⟨c.n,u,[],0,0⟩,v,List.replicate c.n.toNat false⟩ : Br)=ofB0 c:=by rw [hu,hv,bH];rfl
 have f0:u.length=c.n.toNat:=by rw [hu,bH];exact X62 _
 refine Q9<|Xl<|Xl<|X01 ?_;refine cO _ _<|Q5 fun _ cY=>?_;refine Zs z fun _ cZ=>?_;refine Ze (Vd rfl X8k 1)<|Ze (X0 rfl Xl3 (i.at 1))<|Ze (X07 rfl Xd7)<|Zm rfl<|Zt cZ fun a z=>?_;refine Q8 ?_
 rw [cW] at g
 refine X02 (σ:=Nat×Br×Nat) (fun (s:Nat×Br×Nat) (a:Act) (w:World)=>match s with|(k,x,mz)=>∃ b8 b9 bA bB aR aS aT aU,Fr a 79 [(1,(pZ9 b3)),(2,(pZ9 b6)),(3,(pZ9 aE)),(46,.slice Ac c.gs.length cc),(47,vi (c.gs.length:Int)),(48,vi (k:Int))]/\(k<=c.gs.length)/\(x=(c.gs.take k).foldl gtB (ofB0 c))/\(BrOk c.n.toNat x)/\(c.n.toNat=x.la.length)/\(c.n.toNat=x.hd.length)/\(mz=x.d.ns.length)/\(x.d.ns.length<=5+3*k/\x.d.ws.length<=3*k)/\Blk w b3 26 [vi c.n,.slice Ac c.gs.length cc]/\Blk w b6 31 [vi 0,.slice none 0 0,.slice none 0 0,vi 0,vi 0]/\Blk w aE 139 [vi x.d.n,.slice b8 mz b9,.slice bA x.d.ws.length bB,vi x.d.t,vi x.d.r,.slice aR c.n.toNat aS,.slice aT c.n.toNat aU]/\Own w N.heap.size 76 2 encNd b8 b9 x.d.ns/\Own w N.heap.size 84 3 encWr bA bB x.d.ws/\Own w N.heap.size 3 1 encI aR aS x.la/\Own w N.heap.size 4 1 encB aT aU x.hd/\Below N.heap.size N w) (fun (s:Nat×Br×Nat)=>match s with|(k,x,mz)=>c.gs.length-k) (0,⟨⟨c.n,u,[],0,0⟩,v,List.replicate c.n.toNat false⟩,u.length) ?_ ?_
 ·exact ⟨bF,bG,none,0,b0,b1,aN,aO,z.sb,(Qf _),cX,(cX▸X81 ⟨by omega,by omega⟩),cW.symm,cJ.symm,rfl,⟨by show u.length<=_;omega,Qb _⟩,i,o,g,aG,(Own.nil _ _ _ _ _),I,D,q⟩
 rintro ⟨k,x,mz⟩ a f3 ⟨b8,b9,bA,bB,aR,aS,aT,aU,z,hk,hx,bC,d5,d6,d7,e9,i,o,g,J,L,G,H,q⟩;refine Zs z fun _ d8=>?_;refine Ze (X0i rfl rfl)<|ZX d8 fun a z _ d9=>?_
 refine Xf z rfl (fun a6=>?_) (fun a6=>?_)
 ·have bS:=a6;have a6:=Q2 a6
  obtain ⟨f5,eP⟩:=X4 (l:=c.gs) (k:=k) (by omega)
  obtain ⟨u9,bT⟩:=X4 (l:=c.gs) (k:=k) (by have:=a6;omega)
  have dA:gOk (c.n.toNat:Int) u9=true:=Xgd hc cI bT
  have dB:=X2x (f:=gtB) (b:=ofB0 c) bT
  rw [<- hx] at dB
  refine Q7<|d9 _ _<|Q5 fun _ dC=>?_;refine Q8<|Zs z fun _ dD=>?_;refine Zi (k:=k) (u:=u9) (enc:=encG) (l:=c.gs) tv0 rfl rfl Xd7 X4s Xa2 (bK.bx q) bT rfl ?_;intro f7 bU;refine Ze (X00 (l:=[vi u9.k,vi u9.a,vi u9.b]) rfl X38 bU rfl)<|Zf (Xw (zs:=[vi 0,vi 0,vi 0]) Xem rfl) ?_;rintro _ f8 ⟨f9,rfl,bN,E,M⟩;have bW:=Q0 q.size bN;have dE:=(bK.bx q).away bN;have i:=i.bw E;have o:=o.bw E;have g:=g.bw E;have J:=J.bw E;have L:=L.bw E;have G:=G.bw E;have H:=H.bw E;have q:=btr q E;refine Zo (Vw [vi u9.k,vi u9.a,vi u9.b] X4s M) ?_;rintro _ fA ⟨Q,hb⟩;have p:=M;have i:=i.oz Q p rfl;have o:=o.oz Q p rfl;have g:=g.oz Q p rfl;have J:=J.oT Q p rfl;have L:=L.oT Q p rfl;have G:=G.oT Q p rfl;have H:=H.oT Q p rfl;have q:=Below.oy q Q bW;have M:=hb;refine Zt dD fun a z=>?_;refine Zr z<|Zm rfl<|Ze (Vn X38 M)<|Zf (X16 (vs:=[(pZ9 aE),.agg #[vi u9.k,vi u9.a,vi u9.b]]) rfl Xik (Xqv _ aE N.heap.size b8 b9 bA bB aR aS aT aU mz c.n.toNat x ⟨g,J,L,G,H,d7,d5,d6⟩ q.size u9 bC (by omega) dA)) ?_;rintro _ fB ⟨eA,eB,eC,eD,eE,aF,bX,bY,bD,dF,dG,aL,aM,dH,bZ,cA⟩;have i:=i.tu aF g rfl (alc (nrow J i rfl) (alc (nrow L i rfl) (alc (nrow G i rfl) (alc (nrow H i rfl) al0))));have o:=o.tu aF g rfl (alc (nrow J o rfl) (alc (nrow L o rfl) (alc (nrow G o rfl) (alc (nrow H o rfl) al0))));have M:=M.tu aF g rfl (alc (nrow J M rfl) (alc (nrow L M rfl) (alc (nrow G M rfl) (alc (nrow H M rfl) al0))))
  have q:=Below.ts q aF (SB.ge aB (alc (fun _ h9=>X20 J h9) (alc (fun _ h9=>X20 L h9) (alc (fun _ h9=>X20 G h9) (alc (fun _ h9=>X20 H h9) al0))))) q.size
  clear bX;clear bY
  clear aF g;have g:=bD;clear bD
  clear G;have G:=aL;clear aL
  clear H;have H:=aM;clear aM;refine Zn fun a z=>?_;refine Xb<|dC _ _<|Zr z<|Ze (Xr rfl rfl (by omega) (by omega))<|Zm rfl ?_;refine Zn fun a z=>?_;refine Xe ?_;exact ⟨(k+1,(gtB x u9),eE),⟨eA,eB,eC,eD,aR,aS,aT,aU,z.sb,(by omega),(by rw [dB]),(Xff bC dA),bZ,cA,dH,(by have:=Xg5 x u9;omega),i,o,g,dF,dG,G,H,q⟩,(by first|omega|(dsimp only;omega))⟩
 have bS:=a6;have a6:=Q1 a6
 have eF:x=ofB1 c:=by rw [hx,Qi (by have:=a6;omega)];rfl
 refine Q9<|Xl<|Xl<|X01 ?_;refine cY _ _<|Q5 fun _ dI=>?_;refine Zs z fun _ dJ=>?_;refine Za rfl<|Zt dJ fun a z=>?_;refine Q8<|X02 (σ:=Nat×Br×Nat) (fun (s:Nat×Br×Nat) (a:Act) (w:World)=>match s with|(j,y,my)=>∃ aH aI aJ aK aV aW aX aY,Fr a 79 [(1,(pZ9 b3)),(2,(pZ9 b6)),(3,(pZ9 aE)),(7,vi (j:Int))]/\(j<=c.n.toNat)/\(y=ofK c j)/\(BrOk c.n.toNat y)/\(c.n.toNat=y.la.length)/\(c.n.toNat=y.hd.length)/\(my=y.d.ns.length)/\(y.d.ns.length<=5+3*400+j/\y.d.ws.length<=3*400+j)/\Blk w b3 26 [vi c.n,.slice Ac c.gs.length cc]/\Blk w b6 31 [vi 0,.slice none 0 0,.slice none 0 0,vi 0,vi 0]/\Blk w aE 139 [vi y.d.n,.slice aH my aI,.slice aJ y.d.ws.length aK,vi y.d.t,vi y.d.r,.slice aV c.n.toNat aW,.slice aX c.n.toNat aY]/\Own w N.heap.size 76 2 encNd aH aI y.d.ns/\Own w N.heap.size 84 3 encWr aJ aK y.d.ws/\Own w N.heap.size 3 1 encI aV aW y.la/\Own w N.heap.size 4 1 encB aX aY y.hd/\Below N.heap.size N w) (fun (s:Nat×Br×Nat)=>match s with|(j,y,my)=>c.n.toNat-j) (0,x,mz) ?_ ?_
 ·exact ⟨b8,b9,bA,bB,aR,aS,aT,aU,z.sb,(Qf _),eF,bC,d5,d6,d7,(by omega),i,o,g,J,L,G,H,q⟩
 rintro ⟨j,y,my⟩ a fC ⟨aH,aI,aJ,aK,aV,aW,aX,aY,z,hj,hy,bC,eG,eH,dK,e9,i,o,g,a7,a8,aC,aD,q⟩;refine Q5 fun _ dL=>?_;refine Zs z fun _ dM=>?_;refine Zm rfl<|Ze (Vd rfl X65 0)<|Ze (X0 rfl Xa (i.at 0))<|Ze (X0i rfl rfl)<|Zt dM fun a z=>?_
 refine Xf z rfl (fun aA=>?_) (fun aA=>?_)
 ·have cB:=aA;have aA:=Q2 aA
  have dN:j<c.n.toNat:=by have:=aA;omega
  refine Q7<|dL _ _<|Q5 fun _ dO=>?_;refine Q8<|Zr z<|Zm rfl<|Zm rfl<|Zm rfl<|Zf (X16 (vs:=[(pZ9 aE),vi 2,vi (j:Int),vi (j:Int)]) rfl Xc9 (Xle _ aE N.heap.size aH aI aJ aK aV aW aX aY my c.n.toNat y ⟨g,a7,a8,aC,aD,dK,eG,eH⟩ q.size 2 (j:Int) (j:Int) ⟨by omega,by omega⟩ (by omega))) ?_;rintro _ fD ⟨eI,eJ,eK,eL,eM,aF,cC,cD,bD,dP,dQ,aL,aM,dR,cE,cF⟩;have i:=i.tu aF g rfl (alc (nrow a7 i rfl) (alc (nrow a8 i rfl) (alc (nrow aC i rfl) (alc (nrow aD i rfl) al0))));have o:=o.tu aF g rfl (alc (nrow a7 o rfl) (alc (nrow a8 o rfl) (alc (nrow aC o rfl) (alc (nrow aD o rfl) al0))))
  have q:=Below.ts q aF (SB.ge aB (alc (fun _ h9=>X20 a7 h9) (alc (fun _ h9=>X20 a8 h9) (alc (fun _ h9=>X20 aC h9) (alc (fun _ h9=>X20 aD h9) al0))))) q.size
  clear cC;clear cD
  clear aF g;have g:=bD;clear bD
  clear aC;have aC:=aL;clear aL
  clear aD;have aD:=aM;clear aM;refine Zn fun a z=>?_;refine Xb<|dO _ _<|Zr z<|Zm rfl<|Ze (Xr rfl rfl (by omega) (by omega))<|Za rfl ?_;refine Zn fun a z=>?_;refine Xe ?_;exact ⟨(j+1,(nodB y 2 (j:Int) (j:Int)),eM),⟨eI,eJ,eK,eL,aV,aW,aX,aY,z.sb,(by omega),(by rw [Xad,<- hy]),(X8g bC ⟨by omega,by omega⟩),cE,cF,dR,(by have:=X60 y 2 (j:Int) (j:Int);omega),i,o,g,dP,dQ,aC,aD,q⟩,(by first|omega|(dsimp only;omega))⟩
 have cB:=aA;have aA:=Q1 aA
 have dN:j=c.n.toNat:=by have:=aA;omega
 have dS:outD y.d=ofD c:=by rw [hy,dN];rfl
 refine Q9<|Xl<|Xl<|X01 ?_;refine dI _ _<|Zs z fun _ dT=>?_;refine Zm rfl<|Ze (X03 rfl)<|Ze (Vd rfl X0g 0)<|Ze (Vd rfl X0l 3)<|Ze (X0 rfl Xa (g.at 3))<|Ze (X3q rfl rfl rfl)<|Ze (X03 rfl)<|Ze (Vd rfl X0g 0)<|Ze (Vd rfl X0l 3)<|Zo (Vu (vs:=[vi (y.d.t.tmod 8)]) (l':=[vi y.d.n,.slice aH my aI,.slice aJ y.d.ws.length aK,vi (y.d.t.tmod 8),vi y.d.r,.slice aV c.n.toNat aW,.slice aX c.n.toNat aY]) rfl rfl X0a g) ?_;rintro _ fE ⟨Q,hb⟩;have p:=g;have o:=o.oz Q p rfl;have a7:=a7.oT Q p rfl;have a8:=a8.oT Q p rfl;have q:=Below.oy q Q aB;have g:=hb;refine Zx dT fun a z _ dU=>?_;refine Zm rfl<|Ze (X03 rfl)<|Ze (Vd rfl X0g 0)<|Ze (X00 (l:=[vi y.d.n,.slice aH my aI,.slice aJ y.d.ws.length aK,vi (y.d.t.tmod 8),vi y.d.r]) rfl X2 ((g.at 0).take 5) rfl)<|Zo (Vw [vi y.d.n,.slice aH my aI,.slice aJ y.d.ws.length aK,vi (y.d.t.tmod 8),vi y.d.r] Xd o) ?_;rintro _ fF ⟨Q,hb⟩;have p:=o;have a7:=a7.oT Q p rfl;have a8:=a8.oT Q p rfl;have q:=Below.oy q Q cL;have o:=hb;refine Zt dU fun a z=>?_
 refine Q6 (X6 z (Xs z rfl (ResV.cellN (l:=[vi y.d.n,.slice aH my aI,.slice aJ y.d.ws.length aK,vi (y.d.t.tmod 8),vi y.d.r]) rfl X2 (o.at 0) rfl)) ?_)
 rw [<- dS]
 subst dK
 exact ⟨aH,aI,aJ,aK,rfl,a7,a8,q⟩
theorem Xmh(w0:World)(bV:Nat){bL:TypeId}(aA:Option Addr)(aC:Nat)(I:List Int)(b:Rd w0 w0.heap.size bL encU aA I)(aH:∀ x ∈ I,0<=x/\x<=255)(a8:AwayR I aA bV)(t:Nat)(sd:Int)(q:Blk w0 bV 64 [.slice aA I.length aC,vi (t:Int),.int .u64 sd])(ht:t+100<=100000000) : Ret Tryz.prog 60 [(pZ9 bV)] w0 (fun v w=>∃ (d:Dg) (A:Option Addr) (c1:Nat) (B:Option Addr) (e:Nat) (t1:Nat) (s1:Int),v=.agg #[vi d.n,.slice A d.ns.length c1,.slice B d.ws.length e,vi d.t,vi d.r]/\(InD d/\1<=d.ns.length/\1<=d.ws.length/\d.ns.length<=310/\d.ws.length<=320/\ExQ d)/\(t<=t1/\t1<=t+100)/\Own w w0.heap.size 76 2 encNd A c1 d.ns/\Own w w0.heap.size 84 3 encWr B e d.ws/\Kept bV w0.heap.size w0 w/\Blk w bV 64 [.slice aA I.length aC,vi (t1:Int),.int .u64 s1]):=by
 have e8:=q.lt;refine enter Tryz.func60 rfl 88 rfl rfl ?_;intro a J
 have C:Kept bV w0.heap.size w0 w0:=Kept.refl _ _ _
 refine Zs J fun _ dL=>?_;refine Zf (Xw (zs:=[vi 0,.slice none 0 0,.slice none 0 0,vi 0,vi 0]) X0e rfl) ?_;rintro _ w1 ⟨b5,rfl,cF,p,o⟩;have cG:=Q0 C.size cF;have dJ:=b.away cF;have q:=q.bw p;have b:=b.bw p;have C:=ktr C p;refine Zx dL fun a J _ dM=>?_;refine Zm rfl<|Zm rfl<|Zf (Vc (X12 _ bV aA aC I b.top aH a8 t sd q 2 (by omega)) X0d) ?_;rintro _ w2 ⟨b6,cH,cI,rfl,dN,dO,hK,E⟩;obtain ⟨wm,D,hm,p⟩:=hK.mid;clear hm;have i:=q;have o:=o.oz D i rfl;have b:=b.onlyA D a8;have C:=C.self D;have o:=o.bw p;have b:=b.bw p;have C:=ktr C p
 clear i p D hK;have q:=E;clear E;refine Ze (Xr rfl rfl (by omega) (by omega))<|Zf (Xj (k:=15) (vs:=[vi 1,vi 1,vi 7,vi 7,vi 5,vi 3,vi 8,vi 9,vi 9,vi 10,vi 10,vi 11,vi 12,vi 2,vi 4]) (zs:=[vi 1,vi 1,vi 7,vi 7,vi 5,vi 3,vi 8,vi 9,vi 9,vi 10,vi 10,vi 11,vi 12,vi 2,vi 4]) rfl Xk X1f rfl rfl) ?_;rintro _ w3 ⟨b7,rfl,cJ,p,cK⟩;have e9:=Q0 C.size cJ;have dK:=b.away cJ;have q:=q.bw p;have o:=o.bw p;have b:=b.bw p;have C:=ktr C p;refine Zf (X16 (vs:=[(pZ9 bV),vi (1+b6),vi 9,.slice (some ⟨b7,0,none⟩) ([1,1,7,7,5,3,8,9,9,10,10,11,12,2,4]).length 15]) rfl Xif (Xrh _ bV aA aC I b.top aH a8 cH cI q (1+b6) 9 (some ⟨b7,0,none⟩) 15 ([1,1,7,7,5,3,8,9,9,10,10,11,12,2,4]) (Rd.of_blk cK rfl _ cK.lt) (by omega) (by decide) (by omega) (by simp) (by simp) (by omega))) ?_;rintro _ w4 ⟨f,b8,b9,cL,cM,rfl,aV,dP,aM,hK,E⟩;have cN:=C.size;obtain ⟨wm,D,hm,p⟩:=hK.mid;clear hm;have i:=q;have o:=o.oz D i rfl;have b:=b.onlyA D a8;have C:=C.self D;have o:=o.bw p;have b:=b.bw p;have C:=ktr C p
 clear i p D hK;have q:=E;clear E
 have aM:=aM.lower cN;clear cN
 have cO:cOk f=true:=Xuz (by omega) (by omega) (by rw [aV.1];exact aV.2.2)
 obtain ⟨dQ,eC,eD,eE,eF⟩:=Xu0 cO (by omega)
 have cP:=Xr5 (c:=f) (by omega) (by omega)
 have eA:(spL (ofD f).ns).length<=(ofD f).ns.length:=Xby _ _
 refine Zf (X16 (vs:=[.agg #[vi f.n,.slice b8 f.gs.length b9]]) rfl Xkj (Xs9 _ f b8 b9 aM.rd.top cO)) ?_;rintro _ w5 ⟨aT,aU,bM,bN,rfl,y,L,p⟩;have y:=y.lower C.size;have L:=L.lower C.size;have q:=q.bw p;have o:=o.bw p;have b:=b.bw p;have C:=ktr C p;refine Zf (Xw (zs:=[vi 0,.slice none 0 0,.slice none 0 0,vi 0,vi 0]) X0e rfl) ?_;rintro _ w6 ⟨b14,rfl,bA,p,g⟩
 have cQ:b5≠b14:=by have:=o.lt;omega
 have aI:=Q0 C.size bA;have cR:=b.away bA;have q:=q.bw p;have o:=o.bw p;have b:=b.bw p;have y:=y.bw p;have L:=L.bw p;have C:=ktr C p;refine Zo (Vw [vi ((ofD f).n),.slice aT ((ofD f).ns).length aU,.slice bM ((ofD f).ws).length bN,vi ((ofD f).t),vi ((ofD f).r)] Xd g) ?_;rintro _ w7 ⟨ho,hb⟩;have i:=g;have q:=q.oz ho i rfl;have o:=o.oy ho (by omega);have b:=b.oy ho aI;have y:=y.oT ho i rfl;have L:=L.oT ho i rfl;have C:=Kept.oy C ho aI;have g:=hb;refine Zx dM fun a J _ cS=>?_;refine Ze (Vn X2 g)<|Zf (Vc (Xry _ (ofD f) (((ofD f).ns).length) rfl aT aU y.rd.top bM bN L.rd.top L.cap (by omega)) Xjf) ?_;rintro _ w8 ⟨aN,aO,rfl,m,p⟩;have m:=m.lower C.size;have q:=q.bw p;have o:=o.bw p;have g:=g.bw p;have b:=b.bw p;have y:=y.bw p;have L:=L.bw p;have C:=ktr C p;refine Za rfl<|ZX cS fun a J _ cT=>?_;refine Zs J fun _ cU=>?_;refine Zm rfl<|Zf (Vc (X12 _ bV aA aC I b.top aH a8 cL cM q 3 (by omega)) X0d) ?_;rintro _ w9 ⟨cV,cW,cX,rfl,dR,dS,hK,E⟩;obtain ⟨wm,D,hm,p⟩:=hK.mid;clear hm;have i:=q;have o:=o.oz D i rfl;have g:=g.oz D i rfl;have b:=b.onlyA D a8;have y:=y.oT D i rfl;have L:=L.oT D i rfl;have m:=m.oT D i rfl;have C:=C.self D;have o:=o.bw p;have g:=g.bw p;have b:=b.bw p;have y:=y.bw p
 have L:=L.bw p;have m:=m.bw p;have C:=ktr C p
 clear i p D hK;have q:=E;clear E;refine Za rfl<|Zt cU fun a J=>?_;refine Q8<|X02 (σ:=Int×(List Wr)×Nat×Int) (fun (s:Int×(List Wr)×Nat×Int) (a:Act) (w:World)=>match s with|(j,W,t2,s2)=>∃ aE aF,Fr a 88 [(0,(pZ9 bV)),(2,(pZ9 b5)),(3,(pZ9 b14)),(4,.slice aN (spL (ofD f).ns).length aO),(5,vi j)]/\(0<=j/\j<=2)/\(1<=W.length/\W.length+j.toNat<=313)/\(InD ⟨(ofD f).n,(ofD f).ns,W,(ofD f).t,(ofD f).r⟩)/\(t<=t2/\t2+6*j.toNat<=t+80)/\(hdN W+j<=hdN (ofD f).ws+2)/\Blk w bV 64 [.slice aA I.length aC,vi (t2:Int),.int .u64 s2]/\Blk w b5 31 [vi 0,.slice none 0 0,.slice none 0 0,vi 0,vi 0]/\Blk w b14 31 [vi ((ofD f).n),.slice aT ((ofD f).ns).length aU,.slice aE W.length aF,vi ((ofD f).t),vi ((ofD f).r)]/\Rd w w0.heap.size bL encU aA I/\Own w w0.heap.size 76 2 encNd aT aU ((ofD f).ns)/\Own w w0.heap.size 3 1 encI aN aO (spL (ofD f).ns)/\Own w w0.heap.size 84 3 encWr aE aF W/\Kept bV w0.heap.size w0 w) (fun (s:Int×(List Wr)×Nat×Int)=>match s with|(j,W,t2,s2)=>j.toNat) (cV,(ofD f).ws,cW,cX) ?_ ?_
 ·exact ⟨bM,bN,J.sb,(by omega),(by omega),dQ,(by omega),(by omega),q,o,g,b,y,m,L,C⟩
 rintro ⟨j,W,t2,s2⟩ a dT ⟨aE,aF,J,hj,eG,hI,eH,eI,q,o,g,b,y,m,z,C⟩;refine Q5 fun _ cY=>?_;refine Q5 fun _ cZ=>?_;refine X06 (fun a w=>Fr a 88 [(0,(pZ9 bV)),(2,(pZ9 b5)),(3,(pZ9 b14)),(4,.slice aN (spL (ofD f).ns).length aO),(5,vi j),(26,.bool ((decide (0<j))&&(decide (1<((spL (ofD f).ns).length:Int)))))]/\dT=w) ?_ ?_
 ·refine Zr J<|Zm rfl<|Ze (X2o rfl rfl)<|Zm rfl ?_
  refine Zg 22 rfl (fun M=>?_) (fun M=>?_)
  ·have eJ:=M;refine Zv (gW M) (X3 rfl) ?_;refine Zv (gW M) (X07 rfl Xk) ?_;refine Zv (gW M) (X2o rfl rfl) ?_;refine Ze (X5 rfl M rfl) ?_;refine Zn fun a J=>?_;exact ⟨J.sub ⟨rfl,rfl,rfl,rfl,rfl,X1 rfl (by first|rfl|(simp only [M,bs];done)|simp [M]),trivial⟩,rfl⟩
  (iterate 3 refine Zp (gP M) ?_);refine Ze (X9 rfl M rfl) ?_;refine Zn fun a J=>?_;exact ⟨J.sub ⟨rfl,rfl,rfl,rfl,rfl,X1 rfl (by first|rfl|(simp only [M,bs];done)|simp [M]),trivial⟩,rfl⟩
 rintro a _ ⟨J,rfl⟩;refine cZ _ _ ?_
 refine Xf J rfl (fun aR=>?_) (fun aR=>?_)
 ·have a7:=aR
  have eK:0<j/\1<(spL (ofD f).ns).length:=by have h8:=aR;simp at h8;omega
  refine Q7<|cY _ _<|Q5 fun _ bB=>?_;refine Q8<|Q5 fun _ d5=>?_;refine Xz (some bV) (fun _=>false) mixed ?_;intro eL p;have q:=q.bw p;have o:=o.bw p;have g:=g.bw p;have b:=b.bw p;have y:=y.bw p;have m:=m.bw p;have z:=z.bw p;have C:=ktr C p;refine Yb J<|Yo 0 rfl (fun _=>X3 rfl)<|Yo 1 rfl (fun _=>X3 rfl)<|Yo 2 rfl (fun _=>X3 rfl)<|Yo 3 rfl (fun _=>X07 rfl Xk)<|Yo 7 rfl (fun _=>X3 rfl)<|Yo 8 rfl (fun _=>X3 rfl)<|Yo 9 rfl (fun _=>X3 rfl)<|Yo 10 rfl (fun _=>X07 rfl Xk)<|Y1 4 ?_;refine Yf rfl tv0 (EfW.mono (Vc (X12 _ bV aA aC I b.top aH a8 t2 s2 q ((spL (ofD f).ns).length:Int) (by omega)) X0d) (fun _ _ h=>⟨fun _=>by obtain ⟨Q,bC,bD,rfl,bO,bP,hK,E⟩:=h;exact hK.keep,h⟩)) ?_;rintro _ eM ⟨Q,bC,bD,rfl,bO,bP,hK,E⟩;obtain ⟨wm,D,hm,p⟩:=hK.mid;clear hm;have i:=q;have o:=o.oz D i rfl;have g:=g.oz D i rfl;have b:=b.onlyA D a8;have y:=y.oT D i rfl;have m:=m.oT D i rfl;have z:=z.oT D i rfl;have C:=C.self D;have o:=o.bw p;have g:=g.bw p;have b:=b.bw p;have y:=y.bw p;have m:=m.bw p;have z:=z.bw p;have C:=ktr C p
  clear i p D hK;have q:=E;clear E;refine Ya (k:=Q.toNat) (u:=((spL (ofD f).ns).getD Q.toNat 0)) (enc:=encI) (l:=(spL (ofD f).ns)) 5 rfl tv0 q rfl rfl rfl Xk X0a Xh m.rd (Xg (by omega)) (by omega) ?_;intro eO bQ aZ;refine Yw 6 rfl tv0 (fun w1 h1=>X0 rfl Xa (bQ.oy h1 aZ)) ?_;refine Y1 11<|Yf rfl tv0 (EfW.mono (Vc (X12 _ bV aA aC I b.top aH a8 bC bD q ((spL (ofD f).ns).length:Int) (by omega)) X0d) (fun _ _ h=>⟨fun _=>by obtain ⟨U,aW,aX,rfl,bR,bS,hK,E⟩:=h;exact hK.keep,h⟩)) ?_;rintro _ w13 ⟨U,aW,aX,rfl,bR,bS,hK,E⟩;obtain ⟨wm,D,hm,p⟩:=hK.mid;clear hm;have i:=q;have o:=o.oz D i rfl;have g:=g.oz D i rfl;have b:=b.onlyA D a8;have y:=y.oT D i rfl;have m:=m.oT D i rfl;have z:=z.oT D i rfl;have C:=C.self D;have o:=o.bw p;have g:=g.bw p;have b:=b.bw p;have y:=y.bw p;have m:=m.bw p;have z:=z.bw p;have C:=ktr C p
  clear i p D hK;have q:=E;clear E;refine Ya (k:=U.toNat) (u:=((spL (ofD f).ns).getD U.toNat 0)) (enc:=encI) (l:=(spL (ofD f).ns)) 12 rfl tv0 q rfl rfl rfl Xk X0a Xh m.rd (Xg (by omega)) (by omega) ?_;intro eP bT b0;refine Yw 13 rfl tv0 (fun w1 h1=>X0 rfl Xa (bT.oy h1 b0)) ?_;refine Yo 14 rfl (fun _=>X0h rfl)<|Yo 15 rfl (fun _=>X0h rfl) ?_;refine Yd fun a J=>?_;refine d5 _ _<|Q5 fun _ d6=>?_;refine X06 (fun a w=>Fr a 88 [(0,(pZ9 bV)),(2,(pZ9 b5)),(3,(pZ9 b14)),(4,.slice aN (spL (ofD f).ns).length aO),(5,vi j),(6,vi ((spL (ofD f).ns).getD Q.toNat 0)),(7,vi ((spL (ofD f).ns).getD U.toNat 0)),(53,.bool ((((spL (ofD f).ns).getD Q.toNat 0) != ((spL (ofD f).ns).getD U.toNat 0))&&(decide ((fdW W ((spL (ofD f).ns).getD Q.toNat 0) ((spL (ofD f).ns).getD U.toNat 0))<0))))]/\Below w13.heap.size w13 w) ?_ ?_
  ·have b1:Below w13.heap.size w13 w13:=Below.refl _ _
   refine Zr J<|Zm rfl<|Zm rfl<|Ze (X1c rfl rfl)<|Zm rfl ?_
   refine Zg 46 rfl (fun G=>?_) (fun G=>?_)
   ·refine Zv (gW G) (Vd rfl Xi 2) ?_;refine Zv (gW G) (X0 rfl X0b (g.at 2)) ?_;refine Zv (gW G) (X3 rfl) ?_;refine Zv (gW G) (X3 rfl) ?_;refine Zk (gW G) (Vc (Xao _ aE aF W z.rd.top ((spL (ofD f).ns).getD Q.toNat 0) ((spL (ofD f).ns).getD U.toNat 0) (by omega)) X56) ?_;rintro _ w14 ⟨rfl,p⟩;have C:=ktr C p;have b1:=btr b1 p;refine Zv (gW G) (X0i rfl rfl) ?_;refine Ze (X5 rfl G rfl) ?_;refine Zn fun a J=>?_
    have bU:Below w13.heap.size w13 w14:=b1
    exact ⟨J.sub ⟨rfl,rfl,rfl,rfl,rfl,rfl,rfl,X1 rfl (by first|rfl|(simp only [a7,G,bs];done)|simp [a7,G]),trivial⟩,bU⟩
   (iterate 6 refine Zp (gP G) ?_);refine Ze (X9 rfl G rfl) ?_;refine Zn fun a J=>?_
   have bU:Below w13.heap.size w13 w13:=b1
   exact ⟨J.sub ⟨rfl,rfl,rfl,rfl,rfl,rfl,rfl,X1 rfl (by first|rfl|(simp only [a7,G,bs];done)|simp [a7,G]),trivial⟩,bU⟩
  rintro a eQ ⟨J,p⟩;have q:=q.bw p;have o:=o.bw p;have g:=g.bw p;have b:=b.bw p;have y:=y.bw p;have m:=m.bw p;have z:=z.bw p;have C:=ktr C p;refine d6 _ _ ?_
  refine Xf J rfl (fun aJ=>?_) (fun aJ=>?_)
  ·have bW:=aJ
   have d7:=Xav (ns:=(ofD f).ns) (Xg (d:=(0:Int)) (l:=(spL (ofD f).ns)) (k:=Q.toNat) (by omega))
   have d8:=Xav (ns:=(ofD f).ns) (Xg (d:=(0:Int)) (l:=(spL (ofD f).ns)) (k:=U.toNat) (by omega))
   have dU:(((spL (ofD f).ns).getD Q.toNat 0) != ((spL (ofD f).ns).getD U.toNat 0))=true:=by have h8:=aJ;rw [Qd] at h8;exact h8.1
   have dV:fdW W ((spL (ofD f).ns).getD Q.toNat 0) ((spL (ofD f).ns).getD U.toNat 0)<0:=by have h8:=aJ;rw [Qd] at h8;exact Q2 h8.2
   refine Xz (some bV) (fun j=>[9].contains j) mixed ?_;intro eR p;have q:=q.bw p;have o:=o.bw p;have g:=g.bw p;have b:=b.bw p;have y:=y.bw p;have m:=m.bw p;have z:=z.bw p;have C:=ktr C p;refine Yb J<|Yo 0 rfl (fun _=>Vd rfl Xi 2) ?_;refine Yw 1 rfl tv0 (fun w1 h1=>X0 rfl X0b ((g.oz h1 q rfl).at 2)) ?_;refine Yo 2 rfl (fun _=>X3 rfl)<|Yo 3 rfl (fun _=>X3 rfl)<|Yo 4 rfl (fun _=>X3 rfl)<|Y1 5 ?_;refine Yf rfl tv0 (EfW.mono (Vc (X12 _ bV aA aC I b.top aH a8 aW aX q 3 (by omega)) X0d) (fun _ _ h=>⟨fun _=>by obtain ⟨aK,bE,bF,rfl,bX,bY,hK,E⟩:=h;exact hK.keep,h⟩)) ?_;rintro _ eS ⟨aK,bE,bF,rfl,bX,bY,hK,E⟩;obtain ⟨wm,D,hm,p⟩:=hK.mid;clear hm;have i:=q;have o:=o.oz D i rfl;have g:=g.oz D i rfl;have b:=b.onlyA D a8;have y:=y.oT D i rfl;have m:=m.oT D i rfl;have z:=z.oT D i rfl;have C:=C.self D;have o:=o.bw p;have g:=g.bw p;have b:=b.bw p;have y:=y.bw p;have m:=m.bw p;have z:=z.bw p;have C:=ktr C p
   clear i p D hK;have q:=E;clear E;refine Yo 6 rfl (fun _=>X2o rfl rfl)<|Y1 7 ?_;refine Yf rfl tv0 (EfW.mono (Vc (X73 _ aE aF W z.rd.top ((spL (ofD f).ns).getD Q.toNat 0) ((spL (ofD f).ns).getD U.toNat 0) (decide (0<aK)) (by omega) z.cap) X3f) (fun _ _ h=>⟨fun _=>by obtain ⟨b2,b3,rfl,aG,p⟩:=h;exact Keep.of_below p,h⟩)) ?_;rintro _ eT ⟨b2,b3,rfl,aG,p⟩;have aG:=aG.lower C.size;have q:=q.bw p;have o:=o.bw p;have g:=g.bw p;have b:=b.bw p;have y:=y.bw p;have m:=m.bw p;have C:=ktr C p;refine Yo 8 rfl (fun _=>Vd rfl Xi 2)<|Y1 9 ?_;refine Yh rfl tv0 rfl (Vu (vs:=[.slice b2 (jnW W ((spL (ofD f).ns).getD Q.toNat 0) ((spL (ofD f).ns).getD U.toNat 0) (decide (0<aK))).length b3]) (l':=[vi ((ofD f).n),.slice aT ((ofD f).ns).length aU,.slice b2 (jnW W ((spL (ofD f).ns).getD Q.toNat 0) ((spL (ofD f).ns).getD U.toNat 0) (decide (0<aK))).length b3,vi ((ofD f).t),vi ((ofD f).r)]) rfl rfl X19 g) ?_;rintro _ eU ⟨ho,hb⟩;have i:=g;have q:=q.oz ho i rfl;have o:=o.oy ho (by omega);have b:=b.oy ho aI;have y:=y.oT ho i rfl;have m:=m.oT ho i rfl;have aG:=aG.oT ho i rfl;have C:=Kept.oy C ho aI;have g:=hb;refine Yd fun a J=>?_;refine Xb<|bB _ _<|Zr J<|Zm rfl<|Ze (X1d rfl rfl (by omega) (by omega))<|Za rfl ?_;refine Zn fun a J=>?_;refine Xe ?_;exact ⟨(j-1,(jnW W ((spL (ofD f).ns).getD Q.toNat 0) ((spL (ofD f).ns).getD U.toNat 0) (decide (0<aK))),bE,bF),⟨b2,b3,J.sb,(by omega),(by rw [X2z];omega),(Xt5 hI ⟨d7.1,by omega⟩ ⟨d8.1,by omega⟩ dU dV _),(by omega),(by rw [Xh9];split<;>omega),q,o,g,b,y,m,aG,C⟩,(by first|omega|(dsimp only;omega))⟩
  have bW:=aJ;refine Q7<|Xb<|bB _ _<|Zr J ?_;refine Zm rfl<|Ze (X1d rfl rfl (by omega) (by omega))<|Za rfl ?_;refine Zn fun a J=>?_;refine Xe ?_;exact ⟨(j-1,W,aW,aX),⟨aE,aF,J.sb,(by omega),(by have:=X2z W 0 0 true;omega),hI,(by omega),(by omega),q,o,g,b,y,m,z,C⟩,(by first|omega|(dsimp only;omega))⟩
 have a7:=aR;refine Q9<|Xl<|Xl<|X01 ?_;refine cT _ _<|Q5 fun _ d9=>?_;refine Zs J fun _ dA=>?_;refine Zm rfl<|Zf (Vc (X12 _ bV aA aC I b.top aH a8 t2 s2 q 2 (by omega)) X0d) ?_;rintro _ eV ⟨dB,dC,dD,rfl,dW,dX,hK,E⟩;obtain ⟨wm,D,hm,p⟩:=hK.mid;clear hm;have i:=q;have o:=o.oz D i rfl;have g:=g.oz D i rfl;have b:=b.onlyA D a8;have y:=y.oT D i rfl;have m:=m.oT D i rfl;have z:=z.oT D i rfl;have C:=C.self D;have o:=o.bw p;have g:=g.bw p;have b:=b.bw p;have y:=y.bw p;have m:=m.bw p;have z:=z.bw p;have C:=ktr C p
 clear i p D hK;have q:=E;clear E;refine Za rfl<|Zt dA fun a J=>?_;refine Q8<|X02 (σ:=Int×(List Nd)×Nat×Nat×Int) (fun (s:Int×(List Nd)×Nat×Nat×Int) (a:Act) (w:World)=>match s with|(j2,N,mz,t3,s3)=>∃ aP aQ,Fr a 88 [(0,(pZ9 bV)),(2,(pZ9 b5)),(3,(pZ9 b14)),(4,.slice aN (spL (ofD f).ns).length aO),(8,vi j2)]/\(0<=j2/\j2<=1)/\(mz=N.length)/\(N.length=(ofD f).ns.length)/\(InD ⟨(ofD f).n,N,W,(ofD f).t,(ofD f).r⟩)/\(t<=t3/\t3+4*j2.toNat<=t+90)/\Blk w bV 64 [.slice aA I.length aC,vi (t3:Int),.int .u64 s3]/\Blk w b5 31 [vi 0,.slice none 0 0,.slice none 0 0,vi 0,vi 0]/\Blk w b14 31 [vi ((ofD f).n),.slice aP mz aQ,.slice aE W.length aF,vi ((ofD f).t),vi ((ofD f).r)]/\Rd w w0.heap.size bL encU aA I/\Own w w0.heap.size 3 1 encI aN aO (spL (ofD f).ns)/\Own w w0.heap.size 84 3 encWr aE aF W/\Own w w0.heap.size 76 2 encNd aP aQ N/\Kept bV w0.heap.size w0 w) (fun (s:Int×(List Nd)×Nat×Nat×Int)=>match s with|(j2,N,mz,t3,s3)=>j2.toNat) (dB,(ofD f).ns,(ofD f).ns.length,dC,dD) ?_ ?_
 ·exact ⟨aT,aU,J.sb,(by omega),rfl,rfl,hI,(by omega),q,o,g,b,m,z,y,C⟩
 rintro ⟨j2,N,mz,t3,s3⟩ a dY ⟨aP,aQ,J,eX,bZ,dZ,dE,eY,q,o,g,b,m,z,H,C⟩;refine Q5 fun _ dF=>?_;refine Q5 fun _ dG=>?_;refine X06 (fun a w=>Fr a 88 [(0,(pZ9 bV)),(2,(pZ9 b5)),(3,(pZ9 b14)),(4,.slice aN (spL (ofD f).ns).length aO),(8,vi j2),(71,.bool ((decide (0<j2))&&(decide (0<((spL (ofD f).ns).length:Int)))))]/\dY=w) ?_ ?_
 ·refine Zr J<|Zm rfl<|Ze (X2o rfl rfl)<|Zm rfl ?_
  refine Zg 67 rfl (fun a6=>?_) (fun a6=>?_)
  ·refine Zv (gW a6) (X3 rfl) ?_;refine Zv (gW a6) (X07 rfl Xk) ?_;refine Zv (gW a6) (X2o rfl rfl) ?_;refine Ze (X5 rfl a6 rfl) ?_;refine Zn fun a J=>?_;exact ⟨J.sub ⟨rfl,rfl,rfl,rfl,rfl,X1 rfl (by first|rfl|(simp only [a7,a6,bs];done)|simp [a7,a6]),trivial⟩,rfl⟩
  (iterate 3 refine Zp (gP a6) ?_);refine Ze (X9 rfl a6 rfl) ?_;refine Zn fun a J=>?_;exact ⟨J.sub ⟨rfl,rfl,rfl,rfl,rfl,X1 rfl (by first|rfl|(simp only [a7,a6,bs];done)|simp [a7,a6]),trivial⟩,rfl⟩
 rintro a _ ⟨J,rfl⟩;refine dG _ _ ?_
 refine Xf J rfl (fun aS=>?_) (fun aS=>?_)
 ·have cA:=aS
  have eZ:0<j2/\0<(spL (ofD f).ns).length:=by have h8:=aS;simp at h8;omega
  refine Q7<|dF _ _<|Q5 fun _ dH=>?_;refine Q8<|Xz (some bV) (fun j=>[13].contains j) mixed ?_;intro f0 p;have q:=q.bw p;have o:=o.bw p;have g:=g.bw p;have b:=b.bw p;have m:=m.bw p;have z:=z.bw p;have H:=H.bw p;have C:=ktr C p;refine Yb J<|Yo 0 rfl (fun _=>Vd rfl Xc 1) ?_;refine Yw 1 rfl tv0 (fun w1 h1=>X0 rfl Xv ((g.oz h1 q rfl).at 1)) ?_;refine Yo 2 rfl (fun _=>X3 rfl)<|Yo 3 rfl (fun _=>X3 rfl)<|Yo 4 rfl (fun _=>X3 rfl)<|Yo 5 rfl (fun _=>X07 rfl Xk)<|Yo 9 rfl (fun _=>X3 rfl)<|Y1 6 ?_;refine Yf rfl tv0 (EfW.mono (Vc (X12 _ bV aA aC I b.top aH a8 t3 s3 q ((spL (ofD f).ns).length:Int) (by omega)) X0d) (fun _ _ h=>⟨fun _=>by obtain ⟨aB,bG,bH,rfl,cB,cC,hK,E⟩:=h;exact hK.keep,h⟩)) ?_;rintro _ f3 ⟨aB,bG,bH,rfl,cB,cC,hK,E⟩;obtain ⟨wm,D,hm,p⟩:=hK.mid;clear hm;have i:=q;have o:=o.oz D i rfl;have g:=g.oz D i rfl;have b:=b.onlyA D a8;have m:=m.oT D i rfl;have z:=z.oT D i rfl;have H:=H.oT D i rfl;have C:=C.self D;have o:=o.bw p;have g:=g.bw p;have b:=b.bw p;have m:=m.bw p;have z:=z.bw p;have H:=H.bw p;have C:=ktr C p
  clear i p D hK;have q:=E;clear E
  have eB:=Xav (ns:=(ofD f).ns) (Xg (d:=(0:Int)) (l:=(spL (ofD f).ns)) (k:=aB.toNat) (by omega))
  refine Ya (k:=aB.toNat) (u:=((spL (ofD f).ns).getD aB.toNat 0)) (enc:=encI) (l:=(spL (ofD f).ns)) 7 rfl tv0 q rfl rfl rfl Xk X0a Xh m.rd (Xg (by omega)) (by omega) ?_;intro f5 cD b4;refine Yw 8 rfl tv0 (fun w1 h1=>X0 rfl Xa (cD.oy h1 b4)) ?_;refine Y1 10<|Yf rfl tv0 (EfW.mono (Vc (X12 _ bV aA aC I b.top aH a8 bG bH q 8 (by omega)) X0d) (fun _ _ h=>⟨fun _=>by obtain ⟨aL,bI,bJ,rfl,aY,cE,hK,E⟩:=h;exact hK.keep,h⟩)) ?_;rintro _ f7 ⟨aL,bI,bJ,rfl,aY,cE,hK,E⟩;obtain ⟨wm,D,hm,p⟩:=hK.mid;clear hm;have i:=q;have o:=o.oz D i rfl;have g:=g.oz D i rfl;have b:=b.onlyA D a8;have m:=m.oT D i rfl;have z:=z.oT D i rfl;have H:=H.oT D i rfl;have C:=C.self D;have o:=o.bw p;have g:=g.bw p;have b:=b.bw p;have m:=m.bw p;have z:=z.bw p;have H:=H.bw p;have C:=ktr C p
  clear i p D hK;have q:=E;clear E;refine Yo 11 rfl (fun _=>Xp (k:=((spL (ofD f).ns).getD aB.toNat 0).toNat) rfl rfl Xm X05 H bZ (by omega) (by omega))<|Yo 12 rfl (fun _=>X0w rfl X04 (m':=((spL (ofD f).ns).getD aB.toNat 0).toNat*2+1) rfl)<|Y1 13 ?_;refine Yh rfl tv0 rfl (X0y (enc:=encNd) (l:=N) (vs:=[vi aL]) (x0:=(N.getD ((spL (ofD f).ns).getD aB.toNat 0).toNat nZ)) (u:=(⟨(N.getD ((spL (ofD f).ns).getD aB.toNat 0).toNat nZ).k,aL⟩ : Nd)) (k:=((spL (ofD f).ns).getD aB.toNat 0).toNat) (j:=1) (n1:=1) rfl rfl X0a H Xt rfl rfl rfl rfl (by decide) (Xg (d:=nZ) (by omega)) rfl) ?_;rintro _ f8 ⟨bK,hg⟩;have aD:=H;have q:=q.appT aD hg rfl;have o:=o.appT aD hg rfl;have g:=g.appT aD hg rfl;have b:=b.appB aD hg (Qb _);have m:=m.appT aD hg rfl;have z:=z.appT aD hg rfl;have C:=Kept.app C aD hg (Qb _) C.size
  clear aD hg;clear H;have H:=bK;clear bK;refine Yd fun a J=>?_;refine Xb<|dH _ _<|Zr J<|Zm rfl<|Ze (X1d rfl rfl (by omega) (by omega))<|Za rfl ?_;refine Zn fun a J=>?_;refine Xe ?_;exact ⟨(j2-1,(N.set (((spL (ofD f).ns).getD aB.toNat 0).toNat) (⟨(N.getD ((spL (ofD f).ns).getD aB.toNat 0).toNat nZ).k,aL⟩ : Nd)),mz,bI,bJ),⟨aP,aQ,J.sb,(by omega),(bZ.trans List.length_set.symm),(by rw [List.length_set];exact dZ),(Xsc dE _ ⟨aY.1,by show aL<=7;omega⟩),(by omega),q,o,g,b,m,z,H,C⟩,(by first|omega|(dsimp only;omega))⟩
 have cA:=aS;refine Q9<|Xl<|Xl<|X01 ?_;refine d9 _ _<|Zs J fun _ dI=>?_;refine Ze (Vn X2 g)<|Zo (Vw [vi ((ofD f).n),.slice aP mz aQ,.slice aE W.length aF,vi ((ofD f).t),vi ((ofD f).r)] Xd o) ?_;rintro _ f9 ⟨ho,hb⟩;have i:=o;have q:=q.oz ho i rfl;have z:=z.oT ho i rfl;have H:=H.oT ho i rfl;have C:=Kept.oy C ho cG;have o:=hb;refine Zt dI fun a J=>?_
 refine Q6 (X6 J (Xs J rfl (ResV.cellN (l:=[vi ((ofD f).n),.slice aP mz aQ,.slice aE W.length aF,vi ((ofD f).t),vi ((ofD f).r)]) rfl X2 (o.at 0) rfl)) ?_)
 subst bZ
 exact ⟨(⟨(ofD f).n,N,W,(ofD f).t,(ofD f).r⟩ : Dg),aP,aQ,aE,aF,_,_,(by first|rfl|(simp only [List.length_set])),⟨dE,by show 1<=N.length;omega,by show 1<=W.length;omega,by show N.length<=310;omega,by show W.length<=320;omega,cP.1,by show -1000<=hdN W-(ofD f).r/\hdN W-(ofD f).r<=31;have h8:=Xl7 W;have h9:hdN (ofD f).ws-(ofD f).r<=29:=cP.2.2;omega⟩,⟨by omega,by omega⟩,H,z,C,q⟩
theorem Xso(w0:World)(bV:Nat){bT:TypeId}(B:Option Addr)(D:Nat)(q:List Int)(c:Rd w0 w0.heap.size bT encU B q)(Q:∀ x ∈ q,0<=x/\x<=255)(y:AwayR q B bV)(t:Nat)(sd:Int)(g:Blk w0 bV 64 [.slice B q.length D,vi (t:Int),.int .u64 sd])(d:Dg)(md:Nat)(bA:md=d.ns.length)(Ad:Option Addr)(cd:Nat)(E:Rd w0 w0.heap.size 76 encNd Ad d.ns)(Bd:Option Addr)(dd:Nat)(G:Rd w0 w0.heap.size 84 encWr Bd d.ws)(bB:d.ws.length<=dd)(hD:InD d)(ht:t+30<=100000000) : Ret Tryz.prog 118 [(pZ9 bV),.agg #[vi d.n,.slice Ad md cd,.slice Bd d.ws.length dd,vi d.t,vi d.r]] w0 (fun v w=>∃ (x:Rz) (t1:Nat) (s1:Int),v=.agg #[vi x.u,vi x.a,vi x.b]/\(True)/\(t<=t1/\t1<=t+30)/\Kept bV w0.heap.size w0 w/\Blk w bV 64 [.slice B q.length D,vi (t1:Int),.int .u64 s1]):=by
 have cF:=g.lt;have cK:=hD.m;refine enter Tryz.func118 rfl 50 rfl rfl ?_;intro a hf
 have o:Kept bV w0.heap.size w0 w0:=Kept.refl _ _ _
 refine Zs hf fun _ bU=>?_;refine Zf (X0q (zs:=[vi d.n,.slice Ad md cd,.slice Bd d.ws.length dd,vi d.t,vi d.r]) rfl rfl) ?_;rintro _ w1 ⟨b5,rfl,bC,i,A⟩;have cG:=Q0 o.size bC;have bQ:=c.away bC;have g:=g.bw i;have c:=c.bw i;have E:=E.bw i;have G:=G.bw i;have o:=ktr o i;refine Zf (Xw (zs:=[vi 0,vi 0,vi 0]) X2m rfl) ?_;rintro _ w2 ⟨b6,rfl,bD,i,e⟩;have a8:=Q0 o.size bD;have bR:=c.away bD;have g:=g.bw i;have A:=A.bw i;have c:=c.bw i;have E:=E.bw i;have G:=G.bw i;have o:=ktr o i;refine ZX bU fun a hf _ bE=>?_;refine Q5 fun _ bW=>?_;refine Xz (some bV) (fun _=>false) mixed ?_;intro w3 i;have g:=g.bw i;have A:=A.bw i;have e:=e.bw i;have c:=c.bw i;have E:=E.bw i;have G:=G.bw i;have o:=ktr o i;refine Yb hf<|Yw 0 rfl tv0 (fun w1 h1=>X00 (l:=[vi d.n,.slice Ad md cd,.slice Bd d.ws.length dd,vi d.t,vi d.r]) rfl X2 ((A.oz h1 g rfl).at 0) rfl) ?_;refine Yo 1 rfl (fun _=>X3 rfl)<|Y1 2 ?_;refine Yf rfl tv0 (EfW.mono (Vc (X12 _ bV B D q c.top Q y t sd g 5 (by omega)) X0d) (fun _ _ h=>⟨fun _=>by obtain ⟨M,aS,aT,rfl,bF,bG,z,j⟩:=h;exact z.keep,h⟩)) ?_;rintro _ w4 ⟨M,aS,aT,rfl,bF,bG,z,j⟩;obtain ⟨wm,p,U,i⟩:=z.mid;clear U;have f:=g;have A:=A.oz p f rfl;have e:=e.oz p f rfl;have c:=c.onlyA p y;have E:=E.oT p f rfl;have G:=G.oT p f rfl;have o:=o.self p;have A:=A.bw i;have e:=e.bw i
 have c:=c.bw i;have E:=E.bw i;have G:=G.bw i;have o:=ktr o i
 clear f i p z;have g:=j;clear j;refine Yo 3 rfl (fun _=>Xr rfl rfl (by omega) (by omega))<|Y1 4 ?_;refine Yf rfl tv0 (EfW.mono (Vc (Xr4 _ d md bA Ad cd E.top Bd dd G.top bB (1+M) hD) Xkl) (fun _ _ h=>⟨fun _=>by obtain ⟨A9,c9,rfl,W,i⟩:=h;exact Keep.of_below i,h⟩)) ?_;rintro _ w5 ⟨A9,c9,rfl,W,i⟩;have bS:=W.awayNew e.lt;have W:=W.lower o.size;have g:=g.bw i;have A:=A.bw i;have e:=e.bw i;have c:=c.bw i;have o:=ktr o i;refine Yo 5 rfl (fun _=>X0h rfl) ?_;refine Yd fun a hf=>?_;refine bW _ _<|Zs hf fun _ aL=>?_;refine Zm rfl<|Ze (X07 rfl X08)<|Ze (X2o rfl rfl)<|Zm rfl ?_
 refine Zg 15 rfl (fun N=>?_) (fun N=>?_)
 ·have cL:0<(alL d (1+M)).length:=by have h8:=N;simp only [Qr] at h8;omega
  refine Zv (gW N) (X3 rfl) ?_;refine Zk (gW N) (Vc (Xde _ bV B D q c.top Q y aS aT g 4 (by omega)) X6g) ?_;rintro _ w6 ⟨cH,aM,aN,rfl,bX,bY,z,j⟩;obtain ⟨wm,p,U,i⟩:=z.mid;clear U;have f:=g;have A:=A.oz p f rfl;have e:=e.oz p f rfl;have c:=c.onlyA p y;have W:=W.oT p f rfl;have o:=o.self p;have A:=A.bw i;have e:=e.bw i;have c:=c.bw i;have W:=W.bw i;have o:=ktr o i
  clear f i p z;have g:=j;clear j;refine Zv (gW N) (X0z rfl) ?_;refine Ze (X5 rfl N rfl)<|Zt aL fun a hf=>?_
  refine Xf hf rfl (fun aA=>?_) (fun aA=>?_)
  ·have aU:=aA;refine Zs hf fun _ bH=>?_;refine Zm rfl<|Zm rfl<|Zm rfl<|Ze (X07 rfl X08)<|Zf (Vc (X12 _ bV B D q c.top Q y aM aN g ((alL d (1+M)).length:Int) (by omega)) X0d) ?_;rintro _ w7 ⟨C,cI,cJ,rfl,bZ,cA,z,j⟩;obtain ⟨wm,p,U,i⟩:=z.mid;clear U;have f:=g;have e:=e.oz p f rfl;have W:=W.oT p f rfl;have o:=o.self p;have e:=e.bw i;have W:=W.bw i;have o:=ktr o i
   clear f i p z;have g:=j;clear j;refine Zi (k:=C.toNat) (u:=((alL d (1+M)).getD C.toNat rwZ)) (enc:=encRz) (l:=(alL d (1+M))) tv0 rfl rfl X08 X0v X0p W.rd (Xg (d:=rwZ) (by omega)) (by omega) ?_;intro cM aV;refine Ze (X00 (l:=[vi (((alL d (1+M)).getD C.toNat rwZ).u),vi (((alL d (1+M)).getD C.toNat rwZ).a),vi (((alL d (1+M)).getD C.toNat rwZ).b)]) rfl X10 aV rfl)<|Zo (Vw [vi (((alL d (1+M)).getD C.toNat rwZ).u),vi (((alL d (1+M)).getD C.toNat rwZ).a),vi (((alL d (1+M)).getD C.toNat rwZ).b)] X0v e) ?_;rintro _ w8 ⟨ho,hb⟩;have f:=e;have g:=g.oz ho f rfl;have o:=Kept.oy o ho a8;have e:=hb;refine Zt bH fun a hf=>?_;refine Q6<|X8<|X6 hf (Xs hf rfl (ResV.cellN (l:=[vi (((alL d (1+M)).getD C.toNat rwZ).u),vi (((alL d (1+M)).getD C.toNat rwZ).a),vi (((alL d (1+M)).getD C.toNat rwZ).b)]) rfl X10 (e.at 0) rfl)) ?_;exact ⟨((alL d (1+M)).getD C.toNat rwZ),_,_,rfl,trivial,⟨by omega,by omega⟩,o,g⟩
  have aU:=aA;refine Q7<|bE _ _<|Zs hf fun _ bI=>?_;refine Ze (Vd rfl Xc 1)<|Ze (X0 rfl Xv (A.at 1))<|Ze (X07 rfl Xm)<|Za rfl<|Zx bI fun a hf _ bJ=>?_;refine Zm rfl<|Zf (Vc (X12 _ bV B D q c.top Q y aM aN g 7 (by omega)) X0d) ?_;rintro _ w9 ⟨H,aB,aC,rfl,aW,aX,z,j⟩;obtain ⟨wm,p,U,i⟩:=z.mid;clear U;have f:=g;have e:=e.oz p f rfl;have c:=c.onlyA p y;have o:=o.self p;have e:=e.bw i;have c:=c.bw i;have o:=ktr o i
  clear f i p z;have g:=j;clear j;refine Zm rfl<|Zm rfl<|Ze (Xr rfl rfl (by omega) (by omega))<|Zf (Vc (X12 _ bV B D q c.top Q y aB aC g ((md:Int)+1) (by omega)) X0d) ?_;rintro _ cN ⟨I,aD,aE,rfl,aY,aZ,z,j⟩;obtain ⟨wm,p,U,i⟩:=z.mid;clear U;have f:=g;have e:=e.oz p f rfl;have c:=c.onlyA p y;have o:=o.self p;have e:=e.bw i;have c:=c.bw i;have o:=ktr o i
  clear f i p z;have g:=j;clear j;refine Ze (X1d rfl rfl (by omega) (by omega))<|Zm rfl<|Zf (Vc (X12 _ bV B D q c.top Q y aD aE g 2 (by omega)) X0d) ?_;rintro _ cO ⟨J,aF,aG,rfl,b0,b1,z,j⟩;obtain ⟨wm,p,U,i⟩:=z.mid;clear U;have f:=g;have e:=e.oz p f rfl;have c:=c.onlyA p y;have o:=o.self p;have e:=e.bw i;have c:=c.bw i;have o:=ktr o i
  clear f i p z;have g:=j;clear j;refine Ze (Xr rfl rfl (by omega) (by omega))<|Zm rfl<|Zm rfl<|Zm rfl<|Zf (Vc (X12 _ bV B D q c.top Q y aF aG g (md:Int) (by omega)) X0d) ?_;rintro _ cP ⟨a6,aH,aI,rfl,b2,b3,z,j⟩;obtain ⟨wm,p,U,i⟩:=z.mid;clear U;have f:=g;have e:=e.oz p f rfl;have c:=c.onlyA p y;have o:=o.self p;have e:=e.bw i;have c:=c.bw i;have o:=ktr o i
  clear f i p z;have g:=j;clear j;refine Zm rfl<|Zm rfl<|Zf (Vc (X12 _ bV B D q c.top Q y aH aI g (md:Int) (by omega)) X0d) ?_;rintro _ cQ ⟨a7,aJ,aK,rfl,b4,b7,z,j⟩;obtain ⟨wm,p,U,i⟩:=z.mid;clear U;have f:=g;have e:=e.oz p f rfl;have c:=c.onlyA p y;have o:=o.self p;have e:=e.bw i;have c:=c.bw i;have o:=ktr o i
  clear f i p z;have g:=j;clear j;refine Zf (Xj (k:=5) (vs:=[vi 0,vi 0,vi a6,vi a7,vi (-1)]) (zs:=[vi 0,vi 0,vi a6,vi a7,vi (-1)]) rfl Xk X1f rfl rfl) ?_;rintro _ cR ⟨cB,rfl,aO,i,aP⟩;have cC:=Q0 o.size aO;have bK:=c.away aO;have g:=g.bw i;have e:=e.bw i;have c:=c.bw i;have o:=ktr o i;refine Zf (Vc (X7k _ bV B D q c.top Q y aJ aK g (some ⟨cB,0,none⟩) 5 ([0,0,a6,a7,-1]) (Rd.of_blk aP rfl _ aP.lt) (by simp) (by simp) (by omega)) X4e) ?_;rintro _ cS ⟨L,bL,bM,rfl,b8,b9,z,j⟩;obtain ⟨wm,p,U,i⟩:=z.mid;clear U;have f:=g;have e:=e.oz p f rfl;have o:=o.self p;have e:=e.bw i;have o:=ktr o i
  clear f i p z;have g:=j;clear j;refine Ze (X11 (ps:=[(0,vi H),(1,vi ((I-1)+J)),(2,vi L)]) (cs:=[vi H,vi ((I-1)+J),vi L]) rfl (fun _=>by first|rfl|kernel_rfl))<|Zo (Vw [vi H,vi ((I-1)+J),vi L] X0v e) ?_;rintro _ cT ⟨ho,hb⟩;have f:=e;have g:=g.oz ho f rfl;have o:=Kept.oy o ho a8;have e:=hb;refine Zt bJ fun a hf=>?_
  refine Q6 (X6 hf (Xs hf rfl (ResV.cellN (l:=[vi H,vi ((I-1)+J),vi L]) rfl X10 (e.at 0) rfl)) ?_)
  exact ⟨(⟨H,(I-1)+J,L⟩ : Rz),_,_,rfl,trivial,⟨by omega,by omega⟩,o,g⟩
 (iterate 3 refine Zp (gP N) ?_);refine Ze (X9 rfl N rfl)<|Zt aL fun a hf=>?_;refine X6b hf rfl ?_;refine Q7<|bE _ _<|Zs hf fun _ bN=>?_;refine Ze (Vd rfl Xc 1)<|Ze (X0 rfl Xv (A.at 1))<|Ze (X07 rfl Xm)<|Za rfl<|Zx bN fun a hf _ bO=>?_;refine Zm rfl<|Zf (Vc (X12 _ bV B D q c.top Q y aS aT g 7 (by omega)) X0d) ?_;rintro _ cU ⟨H,aB,aC,rfl,aW,aX,z,j⟩;obtain ⟨wm,p,U,i⟩:=z.mid;clear U;have f:=g;have e:=e.oz p f rfl;have c:=c.onlyA p y;have o:=o.self p;have e:=e.bw i;have c:=c.bw i;have o:=ktr o i
 clear f i p z;have g:=j;clear j;refine Zm rfl<|Zm rfl<|Ze (Xr rfl rfl (by omega) (by omega))<|Zf (Vc (X12 _ bV B D q c.top Q y aB aC g ((md:Int)+1) (by omega)) X0d) ?_;rintro _ cV ⟨I,aD,aE,rfl,aY,aZ,z,j⟩;obtain ⟨wm,p,U,i⟩:=z.mid;clear U;have f:=g;have e:=e.oz p f rfl;have c:=c.onlyA p y;have o:=o.self p;have e:=e.bw i;have c:=c.bw i;have o:=ktr o i
 clear f i p z;have g:=j;clear j;refine Ze (X1d rfl rfl (by omega) (by omega))<|Zm rfl<|Zf (Vc (X12 _ bV B D q c.top Q y aD aE g 2 (by omega)) X0d) ?_;rintro _ cW ⟨J,aF,aG,rfl,b0,b1,z,j⟩;obtain ⟨wm,p,U,i⟩:=z.mid;clear U;have f:=g;have e:=e.oz p f rfl;have c:=c.onlyA p y;have o:=o.self p;have e:=e.bw i;have c:=c.bw i;have o:=ktr o i
 clear f i p z;have g:=j;clear j;refine Ze (Xr rfl rfl (by omega) (by omega))<|Zm rfl<|Zm rfl<|Zm rfl<|Zf (Vc (X12 _ bV B D q c.top Q y aF aG g (md:Int) (by omega)) X0d) ?_;rintro _ cX ⟨a6,aH,aI,rfl,b2,b3,z,j⟩;obtain ⟨wm,p,U,i⟩:=z.mid;clear U;have f:=g;have e:=e.oz p f rfl;have c:=c.onlyA p y;have o:=o.self p;have e:=e.bw i;have c:=c.bw i;have o:=ktr o i
 clear f i p z;have g:=j;clear j;refine Zm rfl<|Zm rfl<|Zf (Vc (X12 _ bV B D q c.top Q y aH aI g (md:Int) (by omega)) X0d) ?_;rintro _ cY ⟨a7,aJ,aK,rfl,b4,b7,z,j⟩;obtain ⟨wm,p,U,i⟩:=z.mid;clear U;have f:=g;have e:=e.oz p f rfl;have c:=c.onlyA p y;have o:=o.self p;have e:=e.bw i;have c:=c.bw i;have o:=ktr o i
 clear f i p z;have g:=j;clear j;refine Zf (Xj (k:=5) (vs:=[vi 0,vi 0,vi a6,vi a7,vi (-1)]) (zs:=[vi 0,vi 0,vi a6,vi a7,vi (-1)]) rfl Xk X1f rfl rfl) ?_;rintro _ cZ ⟨cD,rfl,aQ,i,aR⟩;have cE:=Q0 o.size aQ;have bP:=c.away aQ;have g:=g.bw i;have e:=e.bw i;have c:=c.bw i;have o:=ktr o i;refine Zf (Vc (X7k _ bV B D q c.top Q y aJ aK g (some ⟨cD,0,none⟩) 5 ([0,0,a6,a7,-1]) (Rd.of_blk aR rfl _ aR.lt) (by simp) (by simp) (by omega)) X4e) ?_;rintro _ d5 ⟨L,bL,bM,rfl,b8,b9,z,j⟩;obtain ⟨wm,p,U,i⟩:=z.mid;clear U;have f:=g;have e:=e.oz p f rfl;have o:=o.self p;have e:=e.bw i;have o:=ktr o i
 clear f i p z;have g:=j;clear j;refine Ze (X11 (ps:=[(0,vi H),(1,vi ((I-1)+J)),(2,vi L)]) (cs:=[vi H,vi ((I-1)+J),vi L]) rfl (fun _=>by first|rfl|kernel_rfl))<|Zo (Vw [vi H,vi ((I-1)+J),vi L] X0v e) ?_;rintro _ d6 ⟨ho,hb⟩;have f:=e;have g:=g.oz ho f rfl;have o:=Kept.oy o ho a8;have e:=hb;refine Zt bO fun a hf=>?_
 refine Q6 (X6 hf (Xs hf rfl (ResV.cellN (l:=[vi H,vi ((I-1)+J),vi L]) rfl X10 (e.at 0) rfl)) ?_)
 exact ⟨(⟨H,(I-1)+J,L⟩ : Rz),_,_,rfl,trivial,⟨by omega,by omega⟩,o,g⟩
theorem Xsg(w0:World)(bV:Nat){dY:TypeId}(aC:Option Addr)(aG:Nat)(W:List Int)(f:Rd w0 w0.heap.size dY encU aC W)(aL:∀ x ∈ W,0<=x/\x<=255)(aA:AwayR W aC bV)(t:Nat)(sd:Int)(z:Blk w0 bV 64 [.slice aC W.length aG,vi (t:Int),.int .u64 sd])(ht:t+120<=100000000) : Ret Tryz.prog 62 [(pZ9 bV)] w0 (fun v w=>∃ (d:Dg) (A:Option Addr) (c1:Nat) (B:Option Addr) (e:Nat) (t1:Nat) (s1:Int),v=.agg #[vi d.n,.slice A d.ns.length c1,.slice B d.ws.length e,vi d.t,vi d.r]/\(d.ns.length<=400/\d.ws.length<=400/\(∀ x ∈ d.ws,-1000000<=x.b/\x.b<=1000000)/\ExL d)/\(t<=t1/\t1<=t+120)/\Rd w w.heap.size 76 encNd A d.ns/\Rd w w.heap.size 84 encWr B d.ws/\d.ws.length<=e/\Kept bV w0.heap.size w0 w/\Blk w bV 64 [.slice aC W.length aG,vi (t1:Int),.int .u64 s1]):=by
 have eP:=z.lt;refine enter Tryz.func62 rfl 80 rfl rfl ?_;intro a L
 have D:Kept bV w0.heap.size w0 w0:=Kept.refl _ _ _
 refine Zs L fun _ dZ=>?_;refine Zf (Xw (zs:=[vi 0,.slice none 0 0,.slice none 0 0,vi 0,vi 0]) X0e rfl) ?_;rintro _ w1 ⟨b5,rfl,cW,C,y⟩;have aI:=Q0 D.size cW;have dX:=f.away cW;have z:=z.bw C;have f:=f.bw C;have D:=ktr D C;refine Zx dZ fun a L _ e8=>?_;refine Zm rfl<|Zf (Vc (Xmh _ bV aC aG W f.top aL aA t sd z (by omega)) Xbx) ?_;rintro _ w2 ⟨q,Q,U,N,M,e9,eA,rfl,bP,eQ,m,o,hK,H⟩;have b3:=D.size;have b3:=D.size;obtain ⟨wm,G,hm,C⟩:=hK.mid;clear hm;have g:=z;have y:=y.oz G g rfl;have f:=f.onlyA G aA;have D:=D.self G;have y:=y.bw C;have f:=f.bw C;have D:=ktr D C
 clear g C G hK;have z:=H;clear H
 have m:=m.lower b3;clear b3
 have o:=o.lower b3;clear b3;have a6:=Xan bP.1;have a7:=bP.2.2.2.2.2.l;have eR:=o.cap;refine Zf (Xw (zs:=[vi 0,.slice none 0 0,.slice none 0 0,vi 0,vi 0]) X0e rfl) ?_;rintro _ w3 ⟨b11,rfl,bQ,C,i⟩
 have cX:b5≠b11:=by have:=y.lt;omega
 have aH:=Q0 D.size bQ;have cY:=f.away bQ;have z:=z.bw C;have y:=y.bw C;have f:=f.bw C;have m:=m.bw C;have o:=o.bw C;have D:=ktr D C;refine Zo (Vw [vi q.n,.slice Q q.ns.length U,.slice N q.ws.length M,vi q.t,vi q.r] Xd i) ?_;rintro _ w4 ⟨I,hb⟩;have g:=i;have z:=z.oz I g rfl;have y:=y.oy I (by omega);have f:=f.oy I aH;have m:=m.oT I g rfl;have o:=o.oT I g rfl;have D:=Kept.oy D I aH;have i:=hb;refine ZX e8 fun a L _ aJ=>?_;refine Zs L fun _ cZ=>?_;refine Zm rfl<|Zf (Vc (X12 _ bV aC aG W f.top aL aA e9 eA z 24 (by omega)) X0d) ?_;rintro _ w5 ⟨eZ,aW,aX,rfl,eS,eT,hK,H⟩;obtain ⟨wm,G,hm,C⟩:=hK.mid;clear hm;have g:=z;have y:=y.oz G g rfl;have i:=i.oz G g rfl;have f:=f.onlyA G aA;have m:=m.oT G g rfl;have o:=o.oT G g rfl;have D:=D.self G;have y:=y.bw C;have i:=i.bw C;have f:=f.bw C;have m:=m.bw C;have o:=o.bw C;have D:=ktr D C
 clear g C G hK;have z:=H;clear H;refine Zt cZ fun a L=>?_;refine Q8<|Zs L fun _ d5=>?_;refine Ze (X0f rfl rfl)<|Za rfl<|Zt d5 fun a L=>?_
 refine Xf L rfl (fun b4=>?_) (fun b4=>?_)
 ·have cD:=b4;refine Xz (some bV) (fun j=>[12].contains j) mixed ?_;intro w6 C;have z:=z.bw C;have y:=y.bw C;have i:=i.bw C;have f:=f.bw C;have m:=m.bw C;have o:=o.bw C;have D:=ktr D C;refine Yb L<|Yo 0 rfl (fun _=>Vd rfl Xc 1) ?_;refine Yw 1 rfl tv0 (fun w1 h1=>X0 rfl Xv ((i.oz h1 z rfl).at 1)) ?_;refine Yo 2 rfl (fun _=>X3 rfl)<|Yo 3 rfl (fun _=>Vd rfl Xc 1) ?_;refine Yw 4 rfl tv0 (fun w1 h1=>X0 rfl Xv ((i.oz h1 z rfl).at 1)) ?_;refine Yo 5 rfl (fun _=>X07 rfl Xm)<|Yo 7 rfl (fun _=>X3 rfl) ?_;refine Y2 6 8 ?_ ?_
  ·refine Yf rfl tv0 (EfW.mono (Vc (X12 _ bV aC aG W f.top aL aA aW aX z (q.ns.length:Int) (by omega)) X0d) (fun _ _ h=>⟨fun _=>by obtain ⟨a8,aQ,aR,rfl,aY,aZ,hK,H⟩:=h;exact hK.keep,h⟩)) ?_;rintro _ w7 ⟨a8,aQ,aR,rfl,aY,aZ,hK,H⟩;obtain ⟨wm,G,hm,C⟩:=hK.mid;clear hm;have g:=z;have y:=y.oz G g rfl;have i:=i.oz G g rfl;have f:=f.onlyA G aA;have m:=m.oT G g rfl;have o:=o.oT G g rfl;have D:=D.self G;have y:=y.bw C;have i:=i.bw C;have f:=f.bw C;have m:=m.bw C;have o:=o.bw C;have D:=ktr D C
   clear g C G hK;have z:=H;clear H;refine Y1 8<|Yf rfl tv0 (EfW.mono (Xj (k:=4) (vs:=[vi 8,vi 3,vi 1,vi (-1)]) (zs:=[vi 8,vi 3,vi 1,vi (-1)]) rfl Xk X1f rfl rfl) (fun _ _ h=>⟨fun _=>by obtain ⟨_,_,_,C,_⟩:=h;exact Keep.of_below C,h⟩)) ?_;rintro _ w8 ⟨eB,rfl,bR,C,bS⟩;have eC:=Q0 D.size bR;have d6:=f.away bR;have z:=z.bw C;have y:=y.bw C;have i:=i.bw C;have f:=f.bw C;have m:=m.bw C;have o:=o.bw C;have D:=ktr D C;refine Y1 9<|Yf rfl tv0 (EfW.mono (Vc (X7k _ bV aC aG W f.top aL aA aQ aR z (some ⟨eB,0,none⟩) 4 ([8,3,1,-1]) (Rd.of_blk bS rfl _ bS.lt) (by simp) (by simp) (by omega)) X4e) (fun _ _ h=>⟨fun _=>by obtain ⟨aK,b6,b7,rfl,b0,b1,hK,H⟩:=h;exact hK.keep,h⟩)) ?_;rintro _ w9 ⟨aK,b6,b7,rfl,b0,b1,hK,H⟩;obtain ⟨wm,G,hm,C⟩:=hK.mid;clear hm;have g:=z;have y:=y.oz G g rfl;have i:=i.oz G g rfl;have m:=m.oT G g rfl;have o:=o.oT G g rfl;have D:=D.self G;have y:=y.bw C;have i:=i.bw C;have m:=m.bw C;have o:=o.bw C;have D:=ktr D C
   clear g C G hK;have z:=H;clear H;refine Yo 10 rfl (fun _=>Xp (k:=a8.toNat) rfl rfl Xm X05 m rfl (by omega) (by omega))<|Yo 11 rfl (fun _=>X0w rfl X04 (m':=a8.toNat*2+1) rfl)<|Y1 12 ?_;refine Yh rfl tv0 rfl (X0y (enc:=encNd) (l:=q.ns) (vs:=[vi aK]) (x0:=(q.ns.getD a8.toNat nZ)) (u:=(⟨(q.ns.getD a8.toNat nZ).k,aK⟩ : Nd)) (k:=a8.toNat) (j:=1) (n1:=1) rfl rfl X0a m Xt rfl rfl rfl rfl (by decide) (Xg (d:=nZ) (by omega)) rfl) ?_;rintro _ f0 ⟨aM,hg⟩;have E:=m;have z:=z.appT E hg rfl;have y:=y.appT E hg rfl;have i:=i.appT E hg rfl;have o:=o.appT E hg rfl;have D:=Kept.app D E hg (Qb _) D.size
   clear E hg;clear m;have m:=aM;clear aM;refine Yd fun a L=>?_;refine Xb<|aJ _ _<|Zs L fun _ d7=>?_;refine Ze (Vn X2 i)<|Zo (Vw [vi q.n,.slice Q q.ns.length U,.slice N q.ws.length M,vi q.t,vi q.r] Xd y) ?_;rintro _ f3 ⟨I,hb⟩;have g:=y;have z:=z.oz I g rfl;have o:=o.oT I g rfl;have m:=m.oT I g rfl;have D:=Kept.oy D I aI;have y:=hb;refine Zt d7 fun a L=>?_
   refine Q6 (X6 L (Xs L rfl (ResV.cellN (l:=[vi q.n,.slice Q q.ns.length U,.slice N q.ws.length M,vi q.t,vi q.r]) rfl X2 (y.at 0) rfl)) ?_)
   exact ⟨(⟨q.n,(q.ns.set a8.toNat (⟨(q.ns.getD a8.toNat nZ).k,aK⟩ : Nd)),q.ws,q.t,q.r⟩ : Dg),Q,U,N,M,_,_,(by first|rfl|(simp only [List.length_set])),⟨(by (try dsimp only);first|omega|(simp only [List.length_set,Qh,List.length_drop,List.length_singleton];omega)),(by (try dsimp only);first|omega|(simp only [List.length_set,Qh,List.length_drop,List.length_singleton];omega)),(by first|exact a6|exact (fun x J=>a6 x (List.mem_of_mem_drop J))|exact (fun x J=>by rcases Qu.1 J with J|J;exact a6 x J;rw [Qm] at J;subst J;dsimp only;omega)),(by first|exact a7|exact X24 a7 _|exact X2p a7|exact X5g (by have h8:=aB;simp only [Qv,List.not_mem_nil,or_false] at h8;dsimp only;omega))⟩,⟨by omega,by omega⟩,m.rd.top,o.rd.top,o.cap,D,z⟩
  refine Yf rfl tv0 (EfW.mono (Xj (k:=4) (vs:=[vi 8,vi 3,vi 1,vi (-1)]) (zs:=[vi 8,vi 3,vi 1,vi (-1)]) rfl Xk X1f rfl rfl) (fun _ _ h=>⟨fun _=>by obtain ⟨_,_,_,C,_⟩:=h;exact Keep.of_below C,h⟩)) ?_;rintro _ f5 ⟨eD,rfl,bT,C,aO⟩;have eE:=Q0 D.size bT;have d8:=f.away bT;have z:=z.bw C;have y:=y.bw C;have i:=i.bw C;have f:=f.bw C;have m:=m.bw C;have o:=o.bw C;have D:=ktr D C;refine Y1 6<|Yf rfl tv0 (EfW.mono (Vc (X12 _ bV aC aG W f.top aL aA aW aX z (q.ns.length:Int) (by omega)) X0d) (fun _ _ h=>⟨fun _=>by obtain ⟨a8,aQ,aR,rfl,aY,aZ,hK,H⟩:=h;exact hK.keep,h⟩)) ?_;rintro _ f7 ⟨a8,aQ,aR,rfl,aY,aZ,hK,H⟩;obtain ⟨wm,G,hm,C⟩:=hK.mid;clear hm;have g:=z;have y:=y.oz G g rfl;have i:=i.oz G g rfl;have aO:=aO.oz G g rfl;have f:=f.onlyA G aA;have m:=m.oT G g rfl;have o:=o.oT G g rfl;have D:=D.self G;have y:=y.bw C;have i:=i.bw C;have aO:=aO.bw C;have f:=f.bw C;have m:=m.bw C;have o:=o.bw C;have D:=ktr D C
  clear g C G hK;have z:=H;clear H;refine Y1 9<|Yf rfl tv0 (EfW.mono (Vc (X7k _ bV aC aG W f.top aL aA aQ aR z (some ⟨eD,0,none⟩) 4 ([8,3,1,-1]) (Rd.of_blk aO rfl _ aO.lt) (by simp) (by simp) (by omega)) X4e) (fun _ _ h=>⟨fun _=>by obtain ⟨aK,b6,b7,rfl,b0,b1,hK,H⟩:=h;exact hK.keep,h⟩)) ?_;rintro _ f8 ⟨aK,b6,b7,rfl,b0,b1,hK,H⟩;obtain ⟨wm,G,hm,C⟩:=hK.mid;clear hm;have g:=z;have y:=y.oz G g rfl;have i:=i.oz G g rfl;have m:=m.oT G g rfl;have o:=o.oT G g rfl;have D:=D.self G;have y:=y.bw C;have i:=i.bw C;have m:=m.bw C;have o:=o.bw C;have D:=ktr D C
  clear g C G hK;have z:=H;clear H;refine Yo 10 rfl (fun _=>Xp (k:=a8.toNat) rfl rfl Xm X05 m rfl (by omega) (by omega))<|Yo 11 rfl (fun _=>X0w rfl X04 (m':=a8.toNat*2+1) rfl)<|Y1 12 ?_;refine Yh rfl tv0 rfl (X0y (enc:=encNd) (l:=q.ns) (vs:=[vi aK]) (x0:=(q.ns.getD a8.toNat nZ)) (u:=(⟨(q.ns.getD a8.toNat nZ).k,aK⟩ : Nd)) (k:=a8.toNat) (j:=1) (n1:=1) rfl rfl X0a m Xt rfl rfl rfl rfl (by decide) (Xg (d:=nZ) (by omega)) rfl) ?_;rintro _ f9 ⟨aM,hg⟩;have E:=m;have z:=z.appT E hg rfl;have y:=y.appT E hg rfl;have i:=i.appT E hg rfl;have o:=o.appT E hg rfl;have D:=Kept.app D E hg (Qb _) D.size
  clear E hg;clear m;have m:=aM;clear aM;refine Yd fun a L=>?_;refine Xb<|aJ _ _<|Zs L fun _ d9=>?_;refine Ze (Vn X2 i)<|Zo (Vw [vi q.n,.slice Q q.ns.length U,.slice N q.ws.length M,vi q.t,vi q.r] Xd y) ?_;rintro _ fA ⟨I,hb⟩;have g:=y;have z:=z.oz I g rfl;have o:=o.oT I g rfl;have m:=m.oT I g rfl;have D:=Kept.oy D I aI;have y:=hb;refine Zt d9 fun a L=>?_
  refine Q6 (X6 L (Xs L rfl (ResV.cellN (l:=[vi q.n,.slice Q q.ns.length U,.slice N q.ws.length M,vi q.t,vi q.r]) rfl X2 (y.at 0) rfl)) ?_)
  exact ⟨(⟨q.n,(q.ns.set a8.toNat (⟨(q.ns.getD a8.toNat nZ).k,aK⟩ : Nd)),q.ws,q.t,q.r⟩ : Dg),Q,U,N,M,_,_,(by first|rfl|(simp only [List.length_set])),⟨(by (try dsimp only);first|omega|(simp only [List.length_set,Qh,List.length_drop,List.length_singleton];omega)),(by (try dsimp only);first|omega|(simp only [List.length_set,Qh,List.length_drop,List.length_singleton];omega)),(by first|exact a6|exact (fun x J=>a6 x (List.mem_of_mem_drop J))|exact (fun x J=>by rcases Qu.1 J with J|J;exact a6 x J;rw [Qm] at J;subst J;dsimp only;omega)),(by first|exact a7|exact X24 a7 _|exact X2p a7|exact X5g (by have h8:=aB;simp only [Qv,List.not_mem_nil,or_false] at h8;dsimp only;omega))⟩,⟨by omega,by omega⟩,m.rd.top,o.rd.top,o.cap,D,z⟩
 have cD:=b4;refine Zs L fun _ dA=>?_;refine Ze (X0f rfl rfl)<|Za rfl<|Zt dA fun a L=>?_
 refine Xf L rfl (fun b8=>?_) (fun b8=>?_)
 ·have cE:=b8;refine Xz (some bV) (fun j=>[11].contains j) mixed ?_;intro fB C;have z:=z.bw C;have y:=y.bw C;have i:=i.bw C;have f:=f.bw C;have m:=m.bw C;have o:=o.bw C;have D:=ktr D C;refine Yb L<|Yo 0 rfl (fun _=>Vd rfl Xc 1) ?_;refine Yw 1 rfl tv0 (fun w1 h1=>X0 rfl Xv ((i.oz h1 z rfl).at 1)) ?_;refine Yo 2 rfl (fun _=>X3 rfl)<|Yo 3 rfl (fun _=>Vd rfl Xc 1) ?_;refine Yw 4 rfl tv0 (fun w1 h1=>X0 rfl Xv ((i.oz h1 z rfl).at 1)) ?_;refine Yo 5 rfl (fun _=>X07 rfl Xm)<|Yo 7 rfl (fun _=>X3 rfl)<|Y1 6 ?_;refine Yf rfl tv0 (EfW.mono (Vc (X12 _ bV aC aG W f.top aL aA aW aX z (q.ns.length:Int) (by omega)) X0d) (fun _ _ h=>⟨fun _=>by obtain ⟨aN,bU,bW,rfl,cF,cG,hK,H⟩:=h;exact hK.keep,h⟩)) ?_;rintro _ fC ⟨aN,bU,bW,rfl,cF,cG,hK,H⟩;obtain ⟨wm,G,hm,C⟩:=hK.mid;clear hm;have g:=z;have y:=y.oz G g rfl;have i:=i.oz G g rfl;have f:=f.onlyA G aA;have m:=m.oT G g rfl;have o:=o.oT G g rfl;have D:=D.self G;have y:=y.bw C;have i:=i.bw C;have f:=f.bw C;have m:=m.bw C;have o:=o.bw C;have D:=ktr D C
  clear g C G hK;have z:=H;clear H;refine Y1 8<|Yf rfl tv0 (EfW.mono (Vc (X12 _ bV aC aG W f.top aL aA bU bW z 5 (by omega)) X0d) (fun _ _ h=>⟨fun _=>by obtain ⟨b2,dB,dC,rfl,cH,cI,hK,H⟩:=h;exact hK.keep,h⟩)) ?_;rintro _ fD ⟨b2,dB,dC,rfl,cH,cI,hK,H⟩;obtain ⟨wm,G,hm,C⟩:=hK.mid;clear hm;have g:=z;have y:=y.oz G g rfl;have i:=i.oz G g rfl;have m:=m.oT G g rfl;have o:=o.oT G g rfl;have D:=D.self G;have y:=y.bw C;have i:=i.bw C;have m:=m.bw C;have o:=o.bw C;have D:=ktr D C
  clear g C G hK;have z:=H;clear H;refine Yo 9 rfl (fun _=>Xp (k:=aN.toNat) rfl rfl Xm X05 m rfl (by omega) (by omega))<|Yo 10 rfl (fun _=>X0w rfl X13 (m':=aN.toNat*2+0) rfl)<|Y1 11 ?_;refine Yh rfl tv0 rfl (X0y (enc:=encNd) (l:=q.ns) (vs:=[vi b2]) (x0:=(q.ns.getD aN.toNat nZ)) (u:=(⟨b2,(q.ns.getD aN.toNat nZ).p⟩ : Nd)) (k:=aN.toNat) (j:=0) (n1:=1) rfl rfl X0a m Xt rfl rfl rfl rfl (by decide) (Xg (d:=nZ) (by omega)) rfl) ?_;rintro _ fE ⟨aM,hg⟩;have E:=m;have z:=z.appT E hg rfl;have y:=y.appT E hg rfl;have i:=i.appT E hg rfl;have o:=o.appT E hg rfl;have D:=Kept.app D E hg (Qb _) D.size
  clear E hg;clear m;have m:=aM;clear aM;refine Yd fun a L=>?_;refine Xb<|aJ _ _<|Zs L fun _ dD=>?_;refine Ze (Vn X2 i)<|Zo (Vw [vi q.n,.slice Q q.ns.length U,.slice N q.ws.length M,vi q.t,vi q.r] Xd y) ?_;rintro _ fF ⟨I,hb⟩;have g:=y;have z:=z.oz I g rfl;have o:=o.oT I g rfl;have m:=m.oT I g rfl;have D:=Kept.oy D I aI;have y:=hb;refine Zt dD fun a L=>?_
  refine Q6 (X6 L (Xs L rfl (ResV.cellN (l:=[vi q.n,.slice Q q.ns.length U,.slice N q.ws.length M,vi q.t,vi q.r]) rfl X2 (y.at 0) rfl)) ?_)
  exact ⟨(⟨q.n,(q.ns.set aN.toNat (⟨b2,(q.ns.getD aN.toNat nZ).p⟩ : Nd)),q.ws,q.t,q.r⟩ : Dg),Q,U,N,M,_,_,(by first|rfl|(simp only [List.length_set])),⟨(by (try dsimp only);first|omega|(simp only [List.length_set,Qh,List.length_drop,List.length_singleton];omega)),(by (try dsimp only);first|omega|(simp only [List.length_set,Qh,List.length_drop,List.length_singleton];omega)),(by first|exact a6|exact (fun x J=>a6 x (List.mem_of_mem_drop J))|exact (fun x J=>by rcases Qu.1 J with J|J;exact a6 x J;rw [Qm] at J;subst J;dsimp only;omega)),(by first|exact a7|exact X24 a7 _|exact X2p a7|exact X5g (by have h8:=aB;simp only [Qv,List.not_mem_nil,or_false] at h8;dsimp only;omega))⟩,⟨by omega,by omega⟩,m.rd.top,o.rd.top,o.cap,D,z⟩
 have cE:=b8;refine Zs L fun _ dE=>?_;refine Ze (X0f rfl rfl)<|Za rfl<|Zt dE fun a L=>?_
 refine Xf L rfl (fun b9=>?_) (fun b9=>?_)
 ·have cJ:=b9;refine Xz (some bV) (fun j=>[12,14].contains j) mixed ?_;intro fG C;have z:=z.bw C;have y:=y.bw C;have i:=i.bw C;have f:=f.bw C;have m:=m.bw C;have o:=o.bw C;have D:=ktr D C;refine Yb L<|Yo 0 rfl (fun _=>Vd rfl Xi 2) ?_;refine Yw 1 rfl tv0 (fun w1 h1=>X0 rfl X0b ((i.oz h1 z rfl).at 2)) ?_;refine Yo 2 rfl (fun _=>X3 rfl)<|Yo 4 rfl (fun _=>X3 rfl)<|Yo 5 rfl (fun _=>Vd rfl Xc 1) ?_;refine Yw 6 rfl tv0 (fun w1 h1=>X0 rfl Xv ((i.oz h1 z rfl).at 1)) ?_;refine Yo 7 rfl (fun _=>X07 rfl Xm)<|Yo 8 rfl (fun _=>Xr rfl rfl (by omega) (by omega))<|Y1 3 ?_;refine Yf rfl tv0 (EfW.mono (Vc (X12 _ bV aC aG W f.top aL aA aW aX z 3 (by omega)) X0d) (fun _ _ h=>⟨fun _=>by obtain ⟨aD,bX,bY,rfl,cK,cL,hK,H⟩:=h;exact hK.keep,h⟩)) ?_;rintro _ fH ⟨aD,bX,bY,rfl,cK,cL,hK,H⟩;obtain ⟨wm,G,hm,C⟩:=hK.mid;clear hm;have g:=z;have y:=y.oz G g rfl;have i:=i.oz G g rfl;have f:=f.onlyA G aA;have m:=m.oT G g rfl;have o:=o.oT G g rfl;have D:=D.self G;have y:=y.bw C;have i:=i.bw C;have f:=f.bw C;have m:=m.bw C;have o:=o.bw C;have D:=ktr D C
  clear g C G hK;have z:=H;clear H;refine Y1 9<|Yf rfl tv0 (EfW.mono (Vc (X12 _ bV aC aG W f.top aL aA bX bY z ((q.ns.length:Int)+1) (by omega)) X0d) (fun _ _ h=>⟨fun _=>by obtain ⟨aE,dF,dG,rfl,cM,cN,hK,H⟩:=h;exact hK.keep,h⟩)) ?_;rintro _ fI ⟨aE,dF,dG,rfl,cM,cN,hK,H⟩;obtain ⟨wm,G,hm,C⟩:=hK.mid;clear hm;have g:=z;have y:=y.oz G g rfl;have i:=i.oz G g rfl;have f:=f.onlyA G aA;have m:=m.oT G g rfl;have o:=o.oT G g rfl;have D:=D.self G;have y:=y.bw C;have i:=i.bw C;have f:=f.bw C;have m:=m.bw C;have o:=o.bw C;have D:=ktr D C
  clear g C G hK;have z:=H;clear H;refine Yo 10 rfl (fun _=>X11 (ps:=[(0,vi aD),(1,vi aE)]) (cs:=[vi aD,vi aE,.bool false]) rfl (fun _=>by first|rfl|kernel_rfl))<|Y1 11 ?_;refine Yf rfl tv0 (EfW.mono (Xj (k:=1) (vs:=[.agg #[vi aD,vi aE,.bool false]]) (zs:=[vi aD,vi aE,.bool false]) rfl Xq X0x rfl rfl) (fun _ _ h=>⟨fun _=>by obtain ⟨_,_,_,C,_⟩:=h;exact Keep.of_below C,h⟩)) ?_;rintro _ fJ ⟨fK,rfl,bA,C,bB⟩;have eF:=Q0 D.size bA;have dH:=f.away bA;have bC:=o.away bA;have z:=z.bw C;have y:=y.bw C;have i:=i.bw C;have m:=m.bw C;have o:=o.bw C;have D:=ktr D C;refine Y1 12<|Yt rfl tv0 rfl (X0k (enc:=encWr) (l:=(q.ws)) (l2:=([(⟨aD,aE,false⟩ : Wr)])) (B0:=w0.heap.size) rfl rfl Xq X0x Xu X1e o (Rd.of_blk bB rfl _ bB.lt) (by simp only [maxLen];simp;omega) (by simp;omega) D.size) ?_;rintro _ fL ⟨bD,bE,rfl,aP,hg,bF⟩
  have E:Own _ w0.heap.size 84 3 encWr _ _ (q.ws):=o
  have cU:=bF _ bB.lt bC;clear bF;have z:=z.appT E hg rfl;have y:=y.appT E hg rfl;have i:=i.appT E hg rfl;have m:=m.appT E hg rfl;have D:=Kept.app D E hg (Qb _) D.size;clear E hg;refine Yo 13 rfl (fun _=>Vd rfl Xi 2)<|Y1 14 ?_;refine Yh rfl tv0 rfl (Vu (vs:=[.slice bD (q.ws++([(⟨aD,aE,false⟩ : Wr)])).length bE]) (l':=[vi q.n,.slice Q q.ns.length U,.slice bD (q.ws++([(⟨aD,aE,false⟩ : Wr)])).length bE,vi q.t,vi q.r]) rfl rfl X19 i) ?_;rintro _ fM ⟨I,hb⟩;have g:=i;have z:=z.oz I g rfl;have y:=y.oy I (by omega);have m:=m.oT I g rfl;have aP:=aP.oT I g rfl;have D:=Kept.oy D I aH;have i:=hb;refine Yd fun a L=>?_;refine Xb<|aJ _ _<|Zs L fun _ dI=>?_;refine Ze (Vn X2 i)<|Zo (Vw [vi q.n,.slice Q q.ns.length U,.slice bD (q.ws++([(⟨aD,aE,false⟩ : Wr)])).length bE,vi q.t,vi q.r] Xd y) ?_;rintro _ fN ⟨I,hb⟩;have g:=y;have z:=z.oz I g rfl;have m:=m.oT I g rfl;have aP:=aP.oT I g rfl;have D:=Kept.oy D I aI;have y:=hb;refine Zt dI fun a L=>?_
  refine Q6 (X6 L (Xs L rfl (ResV.cellN (l:=[vi q.n,.slice Q q.ns.length U,.slice bD (q.ws++([(⟨aD,aE,false⟩ : Wr)])).length bE,vi q.t,vi q.r]) rfl X2 (y.at 0) rfl)) ?_)
  exact ⟨(⟨q.n,q.ns,q.ws++([(⟨aD,aE,false⟩ : Wr)]),q.t,q.r⟩ : Dg),Q,U,bD,bE,_,_,(by first|rfl|(simp only [List.length_set])),⟨(by (try dsimp only);first|omega|(simp only [List.length_set,Qh,List.length_drop,List.length_singleton];omega)),(by (try dsimp only);first|omega|(simp only [List.length_set,Qh,List.length_drop,List.length_singleton];omega)),(by first|exact a6|exact (fun x J=>a6 x (List.mem_of_mem_drop J))|exact (fun x J=>by rcases Qu.1 J with J|J;exact a6 x J;rw [Qm] at J;subst J;dsimp only;omega)),(by first|exact a7|exact X24 a7 _|exact X2p a7|exact X5g (by have h8:=aB;simp only [Qv,List.not_mem_nil,or_false] at h8;dsimp only;omega))⟩,⟨by omega,by omega⟩,m.rd.top,aP.rd.top,aP.cap,D,z⟩
 have cJ:=b9;refine Zs L fun _ dJ=>?_;refine Ze (X0f rfl rfl)<|Za rfl<|Zt dJ fun a L=>?_
 refine Xf L rfl (fun bG=>?_) (fun bG=>?_)
 ·have cO:=bG;refine Zr L<|Ze (Vd rfl Xi 2)<|Ze (X0 rfl X0b (i.at 2)) ?_;have aS:=(o.rd.top).dropK Xu (c:=M) o.cap 1;refine Ze (X3z (l:=q.ws) (k:=1) rfl rfl Xq X09 rfl (by omega))<|Ze (Vd rfl Xi 2)<|Zo (Vu (vs:=[.slice (if M=1 then N else N.map (·.add (1*3))) (q.ws.drop 1).length (M-1)]) (l':=[vi q.n,.slice Q q.ns.length U,.slice (if M=1 then N else N.map (·.add (1*3))) (q.ws.drop 1).length (M-1),vi q.t,vi q.r]) rfl rfl X19 i) ?_;rintro _ fO ⟨I,hb⟩;have g:=i;have z:=z.oz I g rfl;have y:=y.oy I (by omega);have m:=m.oT I g rfl;have aS:=aS.oT I g rfl;have D:=Kept.oy D I aH;have i:=hb;refine Zn fun a L=>?_;refine Xb<|aJ _ _<|Zs L fun _ dK=>?_;refine Ze (Vn X2 i)<|Zo (Vw [vi q.n,.slice Q q.ns.length U,.slice (if M=1 then N else N.map (·.add (1*3))) (q.ws.drop 1).length (M-1),vi q.t,vi q.r] Xd y) ?_;rintro _ fP ⟨I,hb⟩;have g:=y;have z:=z.oz I g rfl;have m:=m.oT I g rfl;have aS:=aS.oT I g rfl;have D:=Kept.oy D I aI;have y:=hb;refine Zt dK fun a L=>?_
  refine Q6 (X6 L (Xs L rfl (ResV.cellN (l:=[vi q.n,.slice Q q.ns.length U,.slice (if M=1 then N else N.map (·.add (1*3))) (q.ws.drop 1).length (M-1),vi q.t,vi q.r]) rfl X2 (y.at 0) rfl)) ?_)
  exact ⟨(⟨q.n,q.ns,(q.ws.drop 1),q.t,q.r⟩ : Dg),Q,U,(if M=1 then N else N.map (·.add (1*3))),(M-1),_,_,(by first|rfl|(simp only [List.length_set])),⟨(by (try dsimp only);first|omega|(simp only [List.length_set,Qh,List.length_drop,List.length_singleton];omega)),(by (try dsimp only);first|omega|(simp only [List.length_set,Qh,List.length_drop,List.length_singleton];omega)),(by first|exact a6|exact (fun x J=>a6 x (List.mem_of_mem_drop J))|exact (fun x J=>by rcases Qu.1 J with J|J;exact a6 x J;rw [Qm] at J;subst J;dsimp only;omega)),(by first|exact a7|exact X24 a7 _|exact X2p a7|exact X5g (by have h8:=aB;simp only [Qv,List.not_mem_nil,or_false] at h8;dsimp only;omega))⟩,⟨by omega,by omega⟩,m.rd.top,aS.top,(by rw [List.length_drop];omega),D,z⟩
 have cO:=bG;refine Zs L fun _ dL=>?_;refine Ze (X0f rfl rfl)<|Za rfl<|Zt dL fun a L=>?_
 refine Xf L rfl (fun bH=>?_) (fun bH=>?_)
 ·have cP:=bH;refine Zr L<|Zm rfl<|Zf (Xj (k:=2) (vs:=[vi 8,vi (-1)]) (zs:=[vi 8,vi (-1)]) rfl Xk X1f rfl rfl) ?_;rintro _ fQ ⟨eG,rfl,bZ,C,cA⟩;have eH:=Q0 D.size bZ;have dM:=f.away bZ;have z:=z.bw C;have y:=y.bw C;have i:=i.bw C;have f:=f.bw C;have m:=m.bw C;have o:=o.bw C;have D:=ktr D C;refine Zf (Vc (X7k _ bV aC aG W f.top aL aA aW aX z (some ⟨eG,0,none⟩) 2 ([8,-1]) (Rd.of_blk cA rfl _ cA.lt) (by simp) (by simp) (by omega)) X4e) ?_;rintro _ fR ⟨aT,eU,eV,rfl,eI,eJ,hK,H⟩;obtain ⟨wm,G,hm,C⟩:=hK.mid;clear hm;have g:=z;have y:=y.oz G g rfl;have i:=i.oz G g rfl;have m:=m.oT G g rfl;have o:=o.oT G g rfl;have D:=D.self G;have y:=y.bw C;have i:=i.bw C;have m:=m.bw C;have o:=o.bw C;have D:=ktr D C
  clear g C G hK;have z:=H;clear H;refine Ze (Vd rfl X0l 3)<|Zo (Vu (vs:=[vi aT]) (l':=[vi q.n,.slice Q q.ns.length U,.slice N q.ws.length M,vi aT,vi q.r]) rfl rfl X0a i) ?_;rintro _ fS ⟨I,hb⟩;have g:=i;have z:=z.oz I g rfl;have y:=y.oy I (by omega);have m:=m.oT I g rfl;have o:=o.oT I g rfl;have D:=Kept.oy D I aH;have i:=hb;refine Zn fun a L=>?_;refine Xb<|aJ _ _<|Zs L fun _ dN=>?_;refine Ze (Vn X2 i)<|Zo (Vw [vi q.n,.slice Q q.ns.length U,.slice N q.ws.length M,vi aT,vi q.r] Xd y) ?_;rintro _ fT ⟨I,hb⟩;have g:=y;have z:=z.oz I g rfl;have m:=m.oT I g rfl;have o:=o.oT I g rfl;have D:=Kept.oy D I aI;have y:=hb;refine Zt dN fun a L=>?_
  refine Q6 (X6 L (Xs L rfl (ResV.cellN (l:=[vi q.n,.slice Q q.ns.length U,.slice N q.ws.length M,vi aT,vi q.r]) rfl X2 (y.at 0) rfl)) ?_)
  exact ⟨(⟨q.n,q.ns,q.ws,aT,q.r⟩ : Dg),Q,U,N,M,_,_,(by first|rfl|(simp only [List.length_set])),⟨(by (try dsimp only);first|omega|(simp only [List.length_set,Qh,List.length_drop,List.length_singleton];omega)),(by (try dsimp only);first|omega|(simp only [List.length_set,Qh,List.length_drop,List.length_singleton];omega)),(by first|exact a6|exact (fun x J=>a6 x (List.mem_of_mem_drop J))|exact (fun x J=>by rcases Qu.1 J with J|J;exact a6 x J;rw [Qm] at J;subst J;dsimp only;omega)),(by first|exact a7|exact X24 a7 _|exact X2p a7|exact X5g (by have h8:=aB;simp only [Qv,List.not_mem_nil,or_false] at h8;dsimp only;omega))⟩,⟨by omega,by omega⟩,m.rd.top,o.rd.top,o.cap,D,z⟩
 have cP:=bH;refine Zs L fun _ dO=>?_;refine Ze (X0f rfl rfl)<|Za rfl<|Zt dO fun a L=>?_
 refine Xf L rfl (fun bI=>?_) (fun bI=>?_)
 ·have cQ:=bI;refine Zr L<|Zm rfl<|Zf (Xj (k:=4) (vs:=[vi 61,vi (-61),vi 60,vi (-60)]) (zs:=[vi 61,vi (-61),vi 60,vi (-60)]) rfl Xk X1f rfl rfl) ?_;rintro _ fU ⟨eK,rfl,cB,C,cC⟩;have eL:=Q0 D.size cB;have dP:=f.away cB;have z:=z.bw C;have y:=y.bw C;have i:=i.bw C;have f:=f.bw C;have m:=m.bw C;have o:=o.bw C;have D:=ktr D C;refine Zf (Vc (X7k _ bV aC aG W f.top aL aA aW aX z (some ⟨eK,0,none⟩) 4 ([61,-61,60,-60]) (Rd.of_blk cC rfl _ cC.lt) (by simp) (by simp) (by omega)) X4e) ?_;rintro _ fV ⟨aU,eX,eY,rfl,aB,eM,hK,H⟩;obtain ⟨wm,G,hm,C⟩:=hK.mid;clear hm;have g:=z;have y:=y.oz G g rfl;have i:=i.oz G g rfl;have m:=m.oT G g rfl;have o:=o.oT G g rfl;have D:=D.self G;have y:=y.bw C;have i:=i.bw C;have m:=m.bw C;have o:=o.bw C;have D:=ktr D C
  clear g C G hK;have z:=H;clear H;refine Ze (Vd rfl Xy 4)<|Zo (Vu (vs:=[vi aU]) (l':=[vi q.n,.slice Q q.ns.length U,.slice N q.ws.length M,vi q.t,vi aU]) rfl rfl X0a i) ?_;rintro _ fW ⟨I,hb⟩;have g:=i;have z:=z.oz I g rfl;have y:=y.oy I (by omega);have m:=m.oT I g rfl;have o:=o.oT I g rfl;have D:=Kept.oy D I aH;have i:=hb;refine Zn fun a L=>?_;refine Xb<|aJ _ _<|Zs L fun _ dQ=>?_;refine Ze (Vn X2 i)<|Zo (Vw [vi q.n,.slice Q q.ns.length U,.slice N q.ws.length M,vi q.t,vi aU] Xd y) ?_;rintro _ fX ⟨I,hb⟩;have g:=y;have z:=z.oz I g rfl;have m:=m.oT I g rfl;have o:=o.oT I g rfl;have D:=Kept.oy D I aI;have y:=hb;refine Zt dQ fun a L=>?_
  refine Q6 (X6 L (Xs L rfl (ResV.cellN (l:=[vi q.n,.slice Q q.ns.length U,.slice N q.ws.length M,vi q.t,vi aU]) rfl X2 (y.at 0) rfl)) ?_)
  exact ⟨(⟨q.n,q.ns,q.ws,q.t,aU⟩ : Dg),Q,U,N,M,_,_,(by first|rfl|(simp only [List.length_set])),⟨(by (try dsimp only);first|omega|(simp only [List.length_set,Qh,List.length_drop,List.length_singleton];omega)),(by (try dsimp only);first|omega|(simp only [List.length_set,Qh,List.length_drop,List.length_singleton];omega)),(by first|exact a6|exact (fun x J=>a6 x (List.mem_of_mem_drop J))|exact (fun x J=>by rcases Qu.1 J with J|J;exact a6 x J;rw [Qm] at J;subst J;dsimp only;omega)),(by first|exact a7|exact X24 a7 _|exact X2p a7|exact X5g (by have h8:=aB;simp only [Qv,List.not_mem_nil,or_false] at h8;dsimp only;omega))⟩,⟨by omega,by omega⟩,m.rd.top,o.rd.top,o.cap,D,z⟩
 have cQ:=bI;refine Zs L fun _ dR=>?_;refine Ze (X0f rfl rfl)<|Za rfl<|Zt dR fun a L=>?_
 refine Xf L rfl (fun bJ=>?_) (fun bJ=>?_)
 ·have cR:=bJ;refine Xz (some bV) (fun j=>[6,8].contains j) mixed ?_;intro fY C;have z:=z.bw C;have y:=y.bw C;have i:=i.bw C;have f:=f.bw C;have m:=m.bw C;have o:=o.bw C;have D:=ktr D C;refine Yb L<|Yo 0 rfl (fun _=>Vd rfl Xc 1) ?_;refine Yw 1 rfl tv0 (fun w1 h1=>X0 rfl Xv ((i.oz h1 z rfl).at 1)) ?_;refine Yo 2 rfl (fun _=>X3 rfl)<|Y1 3 ?_;refine Yf rfl tv0 (EfW.mono (Vc (X12 _ bV aC aG W f.top aL aA aW aX z 4 (by omega)) X0d) (fun _ _ h=>⟨fun _=>by obtain ⟨aF,dS,dT,rfl,cS,cT,hK,H⟩:=h;exact hK.keep,h⟩)) ?_;rintro _ fZ ⟨aF,dS,dT,rfl,cS,cT,hK,H⟩;obtain ⟨wm,G,hm,C⟩:=hK.mid;clear hm;have g:=z;have y:=y.oz G g rfl;have i:=i.oz G g rfl;have f:=f.onlyA G aA;have m:=m.oT G g rfl;have o:=o.oT G g rfl;have D:=D.self G;have y:=y.bw C;have i:=i.bw C;have f:=f.bw C;have m:=m.bw C;have o:=o.bw C;have D:=ktr D C
  clear g C G hK;have z:=H;clear H;refine Yo 4 rfl (fun _=>X11 (ps:=[(0,vi aF)]) (cs:=[vi aF,vi 0]) rfl (fun _=>by first|rfl|kernel_rfl))<|Y1 5 ?_;refine Yf rfl tv0 (EfW.mono (Xj (k:=1) (vs:=[.agg #[vi aF,vi 0]]) (zs:=[vi aF,vi 0]) rfl Xm X1j rfl rfl) (fun _ _ h=>⟨fun _=>by obtain ⟨_,_,_,C,_⟩:=h;exact Keep.of_below C,h⟩)) ?_;rintro _ g5 ⟨g6,rfl,bK,C,bL⟩;have eO:=Q0 D.size bK;have dU:=f.away bK;have bM:=m.away bK;have z:=z.bw C;have y:=y.bw C;have i:=i.bw C;have m:=m.bw C;have o:=o.bw C;have D:=ktr D C;refine Y1 6<|Yt rfl tv0 rfl (X0k (enc:=encNd) (l:=(q.ns)) (l2:=([(⟨aF,0⟩ : Nd)])) (B0:=w0.heap.size) rfl rfl Xm X1j Xt X2b m (Rd.of_blk bL rfl _ bL.lt) (by simp only [maxLen];simp;omega) (by simp;omega) D.size) ?_;rintro _ g7 ⟨bN,bO,rfl,aV,hg,bF⟩
  have E:Own _ w0.heap.size 76 2 encNd _ _ (q.ns):=m
  have cV:=bF _ bL.lt bM;clear bF;have z:=z.appT E hg rfl;have y:=y.appT E hg rfl;have i:=i.appT E hg rfl;have o:=o.appT E hg rfl;have D:=Kept.app D E hg (Qb _) D.size;clear E hg;refine Yo 7 rfl (fun _=>Vd rfl Xc 1)<|Y1 8 ?_;refine Yh rfl tv0 rfl (Vu (vs:=[.slice bN (q.ns++([(⟨aF,0⟩ : Nd)])).length bO]) (l':=[vi q.n,.slice bN (q.ns++([(⟨aF,0⟩ : Nd)])).length bO,.slice N q.ws.length M,vi q.t,vi q.r]) rfl rfl X3d i) ?_;rintro _ g8 ⟨I,hb⟩;have g:=i;have z:=z.oz I g rfl;have y:=y.oy I (by omega);have o:=o.oT I g rfl;have aV:=aV.oT I g rfl;have D:=Kept.oy D I aH;have i:=hb;refine Yd fun a L=>?_;refine Xb<|aJ _ _<|Zs L fun _ dV=>?_;refine Ze (Vn X2 i)<|Zo (Vw [vi q.n,.slice bN (q.ns++([(⟨aF,0⟩ : Nd)])).length bO,.slice N q.ws.length M,vi q.t,vi q.r] Xd y) ?_;rintro _ gA ⟨I,hb⟩;have g:=y;have z:=z.oz I g rfl;have o:=o.oT I g rfl;have aV:=aV.oT I g rfl;have D:=Kept.oy D I aI;have y:=hb;refine Zt dV fun a L=>?_
  refine Q6 (X6 L (Xs L rfl (ResV.cellN (l:=[vi q.n,.slice bN (q.ns++([(⟨aF,0⟩ : Nd)])).length bO,.slice N q.ws.length M,vi q.t,vi q.r]) rfl X2 (y.at 0) rfl)) ?_)
  exact ⟨(⟨q.n,q.ns++([(⟨aF,0⟩ : Nd)]),q.ws,q.t,q.r⟩ : Dg),bN,bO,N,M,_,_,(by first|rfl|(simp only [List.length_set])),⟨(by (try dsimp only);first|omega|(simp only [List.length_set,Qh,List.length_drop,List.length_singleton];omega)),(by (try dsimp only);first|omega|(simp only [List.length_set,Qh,List.length_drop,List.length_singleton];omega)),(by first|exact a6|exact (fun x J=>a6 x (List.mem_of_mem_drop J))|exact (fun x J=>by rcases Qu.1 J with J|J;exact a6 x J;rw [Qm] at J;subst J;dsimp only;omega)),(by first|exact a7|exact X24 a7 _|exact X2p a7|exact X5g (by have h8:=aB;simp only [Qv,List.not_mem_nil,or_false] at h8;dsimp only;omega))⟩,⟨by omega,by omega⟩,aV.rd.top,o.rd.top,o.cap,D,z⟩
 have cR:=bJ;refine Q7<|Xb<|aJ _ _<|Zs L fun _ dW=>?_;refine Ze (Vn X2 i)<|Zo (Vw [vi q.n,.slice Q q.ns.length U,.slice N q.ws.length M,vi q.t,vi q.r] Xd y) ?_;rintro _ gB ⟨I,hb⟩;have g:=y;have z:=z.oz I g rfl;have m:=m.oT I g rfl;have o:=o.oT I g rfl;have D:=Kept.oy D I aI;have y:=hb;refine Zt dW fun a L=>?_
 refine Q6 (X6 L (Xs L rfl (ResV.cellN (l:=[vi q.n,.slice Q q.ns.length U,.slice N q.ws.length M,vi q.t,vi q.r]) rfl X2 (y.at 0) rfl)) ?_)
 exact ⟨q,Q,U,N,M,_,_,(by first|rfl|(simp only [List.length_set])),⟨(by (try dsimp only);first|omega|(simp only [List.length_set,Qh,List.length_drop,List.length_singleton];omega)),(by (try dsimp only);first|omega|(simp only [List.length_set,Qh,List.length_drop,List.length_singleton];omega)),(by first|exact a6|exact (fun x J=>a6 x (List.mem_of_mem_drop J))|exact (fun x J=>by rcases Qu.1 J with J|J;exact a6 x J;rw [Qm] at J;subst J;dsimp only;omega)),(by first|exact a7|exact X24 a7 _|exact X2p a7|exact X5g (by have h8:=aB;simp only [Qv,List.not_mem_nil,or_false] at h8;dsimp only;omega))⟩,⟨by omega,by omega⟩,m.rd.top,o.rd.top,o.cap,D,z⟩
theorem Xjd{d e:Dg}(h1:d.n=e.n)(h2:d.ns=e.ns)(h3:d.ws=e.ws)(h4:d.t=e.t)(h5:d.r=e.r) : d=e:=by
 obtain ⟨a,b,c,p,q⟩:=d;obtain ⟨a2,b2,c2,p2,q2⟩:=e
 dsimp only at *
 rw [h1,h2,h3,h4,h5]
theorem Xmf(H:World)(d:Dg)(md:Nat)(aI:md=d.ns.length)(Ad:Option Addr)(cd:Nat)(aJ:Rd H H.heap.size 76 encNd Ad d.ns)(Bd:Option Addr)(dd:Nat)(aK:Rd H H.heap.size 84 encWr Bd d.ws)(B:d.ws.length<=dd)(e:Dg)(me:Nat)(aL:me=e.ns.length)(Ae:Option Addr)(ce:Nat)(aM:Rd H H.heap.size 76 encNd Ae e.ns)(Be:Option Addr)(de:Nat)(aN:Rd H H.heap.size 84 encWr Be e.ws)(C:e.ws.length<=de)(bM:d.ws.length<=1000000000)(bN:md<=1000000000) : Ret Tryz.prog 9 [.agg #[vi d.n,.slice Ad md cd,.slice Bd d.ws.length dd,vi d.t,vi d.r],.agg #[vi e.n,.slice Ae me ce,.slice Be e.ws.length de,vi e.t,vi e.r]] H (fun v w=>v=.bool (decide (d=e))/\Below H.heap.size H w):=by
 subst aI
 subst aL
 refine enter Tryz.func9 rfl 80 rfl rfl ?_;intro a m
 have z:=bz H
 refine Zs m fun _ b9=>?_;refine Zf (X0q (zs:=[vi d.n,.slice Ad d.ns.length cd,.slice Bd d.ws.length dd,vi d.t,vi d.r]) rfl rfl) ?_;rintro _ w1 ⟨b6,rfl,bA,I,o⟩;have bI:=Q0 z.size bA;have z:=btr z I;refine Zf (X0q (zs:=[vi e.n,.slice Ae e.ns.length ce,.slice Be e.ws.length de,vi e.t,vi e.r]) rfl rfl) ?_;rintro _ w2 ⟨b7,rfl,bB,I,q⟩
 have b8:b6≠b7:=by have:=o.lt;omega
 have bJ:=Q0 z.size bB;have o:=o.bw I;have z:=btr z I;refine Za rfl<|ZX b9 fun a m _ bC=>?_;refine Q5 fun _ bD=>?_;refine X06 (fun a w=>Fr a 80 [(2,(pZ9 b6)),(3,(pZ9 b7)),(43,.bool (((((d.n != e.n)||(d.t != e.t))||(d.r != e.r))||((d.ns.length:Int) != (e.ns.length:Int)))||((d.ws.length:Int) != (e.ws.length:Int))))]/\w2=w) ?_ ?_
 ·refine Zr m<|Ze (Vd rfl X1q 0)<|Ze (X0 rfl Xa (o.at 0))<|Ze (Vd rfl X1q 0)<|Ze (X0 rfl Xa (q.at 0))<|Ze (X1c rfl rfl)<|Zm rfl ?_
  refine Zg 12 rfl (fun c=>?_) (fun c=>?_)
  ·(iterate 5 refine Zp (gP c) ?_);refine Ze (X5 rfl c rfl)<|Zm rfl<|Zp (gP rfl) ?_;(iterate 4 refine Zp (gP rfl) ?_);refine Ze (X5 rfl rfl rfl)<|Zm rfl<|Zp (gP rfl) ?_;(iterate 6 refine Zp (gP rfl) ?_);refine Ze (X5 rfl rfl rfl)<|Zm rfl<|Zp (gP rfl) ?_;(iterate 6 refine Zp (gP rfl) ?_);refine Ze (X5 rfl rfl rfl) ?_;refine Zn fun a m=>?_;exact ⟨m.sub ⟨rfl,rfl,X1 rfl (by first|rfl|(simp only [c,bs];done)|simp [c]),trivial⟩,rfl⟩
  refine Zv (gW c) (Vd rfl X0l 3) ?_;refine Zv (gW c) (X0 rfl Xa (o.at 3)) ?_;refine Zv (gW c) (Vd rfl X0l 3) ?_;refine Zv (gW c) (X0 rfl Xa (q.at 3)) ?_;refine Zv (gW c) (X1c rfl rfl) ?_;refine Ze (X9 rfl c rfl)<|Zm rfl ?_
  refine Zg 19 rfl (fun g=>?_) (fun g=>?_)
  ·(iterate 5 refine Zp (gP g) ?_);refine Ze (X5 rfl g rfl)<|Zm rfl<|Zp (gP rfl) ?_;(iterate 6 refine Zp (gP rfl) ?_);refine Ze (X5 rfl rfl rfl)<|Zm rfl<|Zp (gP rfl) ?_;(iterate 6 refine Zp (gP rfl) ?_);refine Ze (X5 rfl rfl rfl) ?_;refine Zn fun a m=>?_;exact ⟨m.sub ⟨rfl,rfl,X1 rfl (by first|rfl|(simp only [c,g,bs];done)|simp [c,g]),trivial⟩,rfl⟩
  refine Zv (gW g) (Vd rfl Xy 4) ?_;refine Zv (gW g) (X0 rfl Xa (o.at 4)) ?_;refine Zv (gW g) (Vd rfl Xy 4) ?_;refine Zv (gW g) (X0 rfl Xa (q.at 4)) ?_;refine Zv (gW g) (X1c rfl rfl) ?_;refine Ze (X9 rfl g rfl)<|Zm rfl ?_
  refine Zg 26 rfl (fun f=>?_) (fun f=>?_)
  ·(iterate 7 refine Zp (gP f) ?_);refine Ze (X5 rfl f rfl)<|Zm rfl<|Zp (gP rfl) ?_;(iterate 6 refine Zp (gP rfl) ?_);refine Ze (X5 rfl rfl rfl) ?_;refine Zn fun a m=>?_;exact ⟨m.sub ⟨rfl,rfl,X1 rfl (by first|rfl|(simp only [c,g,f,bs];done)|simp [c,g,f]),trivial⟩,rfl⟩
  refine Zv (gW f) (Vd rfl Xc 1) ?_;refine Zv (gW f) (X0 rfl Xv (o.at 1)) ?_;refine Zv (gW f) (X07 rfl Xm) ?_;refine Zv (gW f) (Vd rfl Xc 1) ?_;refine Zv (gW f) (X0 rfl Xv (q.at 1)) ?_;refine Zv (gW f) (X07 rfl Xm) ?_;refine Zv (gW f) (X1c rfl rfl) ?_;refine Ze (X9 rfl f rfl)<|Zm rfl ?_
  refine Zg 35 rfl (fun i=>?_) (fun i=>?_)
  ·(iterate 7 refine Zp (gP i) ?_);refine Ze (X5 rfl i rfl) ?_;refine Zn fun a m=>?_;exact ⟨m.sub ⟨rfl,rfl,X1 rfl (by first|rfl|(simp only [c,g,f,i,bs];done)|simp [c,g,f,i]),trivial⟩,rfl⟩
  refine Zv (gW i) (Vd rfl Xi 2) ?_;refine Zv (gW i) (X0 rfl X0b (o.at 2)) ?_;refine Zv (gW i) (X07 rfl Xq) ?_;refine Zv (gW i) (Vd rfl Xi 2) ?_;refine Zv (gW i) (X0 rfl X0b (q.at 2)) ?_;refine Zv (gW i) (X07 rfl Xq) ?_;refine Zv (gW i) (X1c rfl rfl) ?_;refine Ze (X9 rfl i rfl) ?_;refine Zn fun a m=>?_;exact ⟨m.sub ⟨rfl,rfl,X1 rfl (by first|rfl|(simp only [c,g,f,i,bs];done)|simp [c,g,f,i]),trivial⟩,rfl⟩
 rintro a _ ⟨m,rfl⟩;refine bD _ _ ?_
 refine Xf m rfl (fun D=>?_) (fun D=>?_)
 ·have a6:=D
  have A:decide (d=e)=false:=by apply decide_eq_false;rintro rfl;have h8:=D;simp at h8
  refine Zs m fun _ aO=>?_;refine Za rfl<|Zt aO fun a m=>?_;refine Q6<|X8<|X6 m (Xs m rfl rfl) ?_;exact ⟨by rw [A],z⟩
 have a6:=D;have hq:=D
 simp at hq
 have en:d.n=e.n:=by omega
 have et:d.t=e.t:=by omega
 have er:d.r=e.r:=by omega
 have eN:d.ns.length=e.ns.length:=by omega
 have eW:d.ws.length=e.ws.length:=by omega
 refine Q7<|bC _ _<|Q5 fun _ aP=>?_;refine Zs m fun _ aQ=>?_;refine Ze (Vd rfl Xc 1)<|Ze (X0 rfl Xv (o.at 1))<|Ze (X07 rfl Xm)<|Zm rfl<|Zt aQ fun a m=>?_;refine Q8<|X02 (σ:=Nat) (fun (k:Nat) (a:Act) (w:World)=>Fr a 80 [(2,(pZ9 b6)),(3,(pZ9 b7)),(46,vi (d.ns.length:Int)),(47,vi (k:Int))]/\(k<=d.ns.length)/\(d.ns.take k=e.ns.take k)/\Blk w b6 31 [vi d.n,.slice Ad d.ns.length cd,.slice Bd d.ws.length dd,vi d.t,vi d.r]/\Blk w b7 31 [vi e.n,.slice Ae e.ns.length ce,.slice Be e.ws.length de,vi e.t,vi e.r]/\d.ws.length<=dd/\e.ws.length<=de/\Below H.heap.size H w) (fun (k:Nat)=>d.ns.length-k) 0 ?_ ?_
 ·exact ⟨m.sb,(Qf _),rfl,o,q,B,C,z⟩
 rintro k a w3 ⟨m,hk,J,o,q,B,C,z⟩;refine Zs m fun _ aR=>?_;refine Ze (X0i rfl rfl)<|ZX aR fun a m _ aS=>?_
 refine Xf m rfl (fun x=>?_) (fun x=>?_)
 ·have a7:=x;have x:=Q2 x
  obtain ⟨bO,bK⟩:=X4 (l:=d.ns) (k:=k) (by omega)
  obtain ⟨u9,a8⟩:=X4 (l:=d.ns) (k:=k) (by have:=x;omega)
  obtain ⟨v9,M⟩:=X4 (l:=e.ns) (k:=k) (by have:=x;omega)
  refine Q7<|aS _ _<|Q5 fun _ aT=>?_;refine Q8<|Zs m fun _ aU=>?_;refine Zm rfl<|Za rfl<|ZX aU fun a m _ aV=>?_;refine Xz none (fun _=>false) mixed ?_;intro w4 I;have o:=o.bw I;have q:=q.bw I;have z:=btr z I;refine Yb m<|Yo 0 rfl (fun _=>Vd rfl Xc 1)<|Ye 1 rfl (X0 rfl Xv (o.at 1))<|Yo 2 rfl (fun _=>X3 rfl)<|Yi (k:=k) (u:=u9) (enc:=encNd) (l:=d.ns) 3 rfl tv0 rfl rfl Xm X05 Xt (aJ.bx z) a8 rfl ?_;intro bP aA;refine Ye 4 rfl (X00 (l:=[vi u9.k,vi u9.p]) rfl X25 aA rfl)<|Yo 5 rfl (fun _=>Vd rfl Xc 1)<|Ye 6 rfl (X0 rfl Xv (q.at 1))<|Yo 7 rfl (fun _=>X3 rfl)<|Yi (k:=k) (u:=v9) (enc:=encNd) (l:=e.ns) 8 rfl tv0 rfl rfl Xm X05 Xt (aM.bx z) M rfl ?_;intro bQ aB;refine Ye 9 rfl (X00 (l:=[vi v9.k,vi v9.p]) rfl X25 aB rfl)<|Yo 10 rfl (fun _=>Xfg rfl rfl Xc6 (fun w=>Xcm 9998 u9 v9 w)) ?_;refine Yd fun a m=>?_;refine aV _ _ ?_
  refine Xf m rfl (fun E=>?_) (fun E=>?_)
  ·have aC:=E
   have A:decide (d=e)=false:=by apply decide_eq_false;rintro rfl;rw [a8] at M;injection M with h9;subst h9;have h8:=E;simp at h8
   refine Zs m fun _ aW=>?_;refine Za rfl<|Zt aW fun a m=>?_;refine Q6<|Xx<|X8<|X8 ?_;refine Xx<|X8<|X6 m (Xs m rfl rfl) ?_;exact ⟨by rw [A],z⟩
  have aC:=E
  have bE:u9=v9:=by simpa using E
  refine Q7<|Xb<|aT _ _<|Zr m ?_;refine Ze (Xr rfl rfl (by omega) (by omega))<|Zm rfl ?_;refine Zn fun a m=>?_;refine Xe ?_;exact ⟨k+1,⟨m.sb,(by omega),(Xa3 J a8 M bE),o,q,B,C,z⟩,(by omega)⟩
 have a7:=x;have x:=Q1 x
 have bF:d.ns=e.ns:=by rw [Qi (by have:=x;omega),Qi (by have:=x;omega)] at J;exact J
 refine Q9<|Xl<|Xl<|X01 ?_;refine aP _ _<|Q5 fun _ aX=>?_;refine Zs m fun _ aY=>?_;refine Ze (Vd rfl Xi 2)<|Ze (X0 rfl X0b (o.at 2))<|Ze (X07 rfl Xq)<|Zm rfl<|Zt aY fun a m=>?_;refine Q8<|X02 (σ:=Nat) (fun (j:Nat) (a:Act) (w:World)=>Fr a 80 [(2,(pZ9 b6)),(3,(pZ9 b7)),(64,vi (d.ws.length:Int)),(65,vi (j:Int))]/\(j<=d.ws.length)/\(d.ws.take j=e.ws.take j)/\Blk w b6 31 [vi d.n,.slice Ad d.ns.length cd,.slice Bd d.ws.length dd,vi d.t,vi d.r]/\Blk w b7 31 [vi e.n,.slice Ae e.ns.length ce,.slice Be e.ws.length de,vi e.t,vi e.r]/\d.ws.length<=dd/\e.ws.length<=de/\Below H.heap.size H w) (fun (j:Nat)=>d.ws.length-j) 0 ?_ ?_
 ·exact ⟨m.sb,(Qf _),rfl,o,q,B,C,z⟩
 rintro j a w5 ⟨m,hj,L,o,q,B,C,z⟩;refine Zs m fun _ aZ=>?_;refine Ze (X0i rfl rfl)<|ZX aZ fun a m _ b0=>?_
 refine Xf m rfl (fun y=>?_) (fun y=>?_)
 ·have aD:=y;have y:=Q2 y
  obtain ⟨bR,bL⟩:=X4 (l:=d.ws) (k:=j) (by omega)
  obtain ⟨u8,aE⟩:=X4 (l:=d.ws) (k:=j) (by have:=y;omega)
  obtain ⟨v8,N⟩:=X4 (l:=e.ws) (k:=j) (by have:=y;omega)
  refine Q7<|b0 _ _<|Q5 fun _ b1=>?_;refine Q8<|Zs m fun _ b2=>?_;refine Zm rfl<|Za rfl<|ZX b2 fun a m _ b3=>?_;refine Xz none (fun _=>false) mixed ?_;intro w6 I;have o:=o.bw I;have q:=q.bw I;have z:=btr z I;refine Yb m<|Yo 0 rfl (fun _=>Vd rfl Xi 2)<|Ye 1 rfl (X0 rfl X0b (o.at 2))<|Yo 2 rfl (fun _=>X3 rfl)<|Yi (k:=j) (u:=u8) (enc:=encWr) (l:=d.ws) 3 rfl tv0 rfl rfl Xq X09 Xu (aK.bx z) aE rfl ?_;intro bS aF;refine Ye 4 rfl (X00 (l:=[vi u8.a,vi u8.b,.bool u8.h]) rfl X15 aF rfl)<|Yo 5 rfl (fun _=>Vd rfl Xi 2)<|Ye 6 rfl (X0 rfl X0b (q.at 2))<|Yo 7 rfl (fun _=>X3 rfl)<|Yi (k:=j) (u:=v8) (enc:=encWr) (l:=e.ws) 8 rfl tv0 rfl rfl Xq X09 Xu (aN.bx z) N rfl ?_;intro bT aG;refine Ye 9 rfl (X00 (l:=[vi v8.a,vi v8.b,.bool v8.h]) rfl X15 aG rfl)<|Yo 10 rfl (fun _=>Xfg rfl rfl Xje (fun w=>Xj7 9998 u8 v8 w)) ?_;refine Yd fun a m=>?_;refine b3 _ _ ?_
  refine Xf m rfl (fun G=>?_) (fun G=>?_)
  ·have aH:=G
   have A:decide (d=e)=false:=by apply decide_eq_false;rintro rfl;rw [aE] at N;injection N with h9;subst h9;have h8:=G;simp at h8
   refine Zs m fun _ b4=>?_;refine Za rfl<|Zt b4 fun a m=>?_;refine Q6<|Xx<|X8<|X8 ?_;refine Xx<|X8<|X6 m (Xs m rfl rfl) ?_;exact ⟨by rw [A],z⟩
  have aH:=G
  have bG:u8=v8:=by simpa using G
  refine Q7<|Xb<|b1 _ _<|Zr m ?_;refine Ze (Xr rfl rfl (by omega) (by omega))<|Zm rfl ?_;refine Zn fun a m=>?_;refine Xe ?_;exact ⟨j+1,⟨m.sb,(by omega),(Xa3 L aE N bG),o,q,B,C,z⟩,(by omega)⟩
 have aD:=y;have y:=Q1 y
 have bH:d.ws=e.ws:=by rw [Qi (by have:=y;omega),Qi (by have:=y;omega)] at L;exact L
 have A:decide (d=e)=true:=decide_eq_true (Xjd en bF bH et er)
 refine Q9<|Xl<|Xl<|X01 ?_;refine aX _ _<|Zs m fun _ b5=>?_;refine Za rfl<|Zt b5 fun a m=>?_
 refine Q6 (X6 m (Xs m rfl rfl) ?_)
 exact ⟨by rw [A],z⟩
def rpD:Dg->List Rz->Dg
 | d,[]=>d
 | d,r::l=>if apC d r=true then rpD (apD d r) l else d
def rpK:Dg->List Rz->Nat
 | _,[]=>0
 | d,r::l=>if apC d r=true then rpK (apD d r) l+1 else 0
theorem Xb1{d:Dg}{r:Rz}{l:List Rz}(h:apC d r=true) : rpD d (r::l)=rpD (apD d r) l/\rpK d (r::l)=rpK (apD d r) l+1:=⟨Q4 h,Q4 h⟩
theorem Xke{d:Dg}{r:Rz}{l:List Rz}(h:apC d r=false) : rpD d (r::l)=d/\rpK d (r::l)=0:=⟨Q3 (by rw [h];decide),Q3 (by rw [h];decide)⟩
theorem Xlk{d o:Dg}{l:List Rz}{k:Nat}{u:Rz}(hs:rpD o (l.drop k)=rpD d l)(hk:rpK o (l.drop k)+k=rpK d l)(hu:l[k]? = some u)(h:apC o u=true) : rpD (apD o u) (l.drop (k+1))=rpD d l/\rpK (apD o u) (l.drop (k+1))+(k+1)=rpK d l:=by
 have e:l.drop k=u::l.drop (k+1):=by
  obtain ⟨h1,rfl⟩:=Qg.1 hu;exact Qy h1
 rw [e,(Xb1 h).1] at hs
 rw [e,(Xb1 h).2] at hk
 exact ⟨hs,by omega⟩
theorem Xmy{d o:Dg}{l:List Rz}{k:Nat}{u:Rz}(hs:rpD o (l.drop k)=rpD d l)(hk:rpK o (l.drop k)+k=rpK d l)(hu:l[k]? = some u)(h:apC o u=false) : rpD d l=o/\rpK d l=k:=by
 have e:l.drop k=u::l.drop (k+1):=by
  obtain ⟨h1,rfl⟩:=Qg.1 hu;exact Qy h1
 rw [e,(Xke h).1] at hs
 rw [e,(Xke h).2] at hk
 exact ⟨hs.symm,by omega⟩
theorem Xm5{d o:Dg}{l:List Rz}{k:Nat}(hs:rpD o (l.drop k)=rpD d l)(hk:rpK o (l.drop k)+k=rpK d l)(h:l.length<=k) : rpD d l=o/\rpK d l=k:=by
 rw [W3 h] at hs hk
 have hs:o=rpD d l:=hs
 have hk:0+k=rpK d l:=hk
 exact ⟨hs.symm,by omega⟩
theorem X50:∀ (l:List Rz) {d:Dg},goodD d=true->goodD (rpD d l)=true
 | [],_,h=>h
 | r::l,d,h=>by
  cases hc:apC d r with
  | true=>rw [(Xb1 hc).1];exact X50 l (Xbv hc)
  | false=>rw [(Xke hc).1];exact h
theorem Xfc{d:Dg}{r:Rz}{l:List Rz}(h:rpK d (r::l)=(r::l).length) : apC d r=true/\rpK (apD d r) l=l.length:=by
 cases hc:apC d r with
 | true=>
  rw [(Xb1 hc).2,Qs] at h
  exact ⟨rfl,by omega⟩
 | false=>
  rw [(Xke hc).2,Qs] at h
  omega
theorem X9k:∀ (l:List Rz) {d:Dg} (m:Nat),rpK d l=l.length->m<=l.length->rpK d (l.take m)=m/\rpD (rpD d (l.take m)) (l.drop m)=rpD d l/\rpK (rpD d (l.take m)) (l.drop m)=l.length-m
 | l,d,0,h,_=>⟨rfl,rfl,h⟩
 | [],d,m+1,_,hm=>by simp at hm
 | r::l,d,m+1,h,hm=>by
  have ha:=Xfc h
  have ih:=X9k l m ha.2 (by simpa using hm)
  rw [List.take_succ_cons,List.drop_succ_cons,(Xb1 ha.1).1,(Xb1 ha.1).2,(Xb1 ha.1).1,Qs]
  exact ⟨by rw [ih.1],ih.2.1,by rw [ih.2.2];omega⟩
theorem Xha{d:Dg}{l:List Rz}(h:rpK d l=l.length)(hl:0<l.length) : apC d (l.getD 0 rwZ)=true:=by
 cases l with
 | nil=>simp at hl
 | cons r l=>exact (Xfc h).1
theorem Xgs{d:Dg}{r:Rz}(h:apC d r=true) : (1<=r.u/\r.u<=5)/\(0<=r.a/\r.a.toNat<d.ns.length)/\(0<=r.b/\r.b.toNat<d.ns.length):=by
 unfold apC at h
 rw [Qd] at h
 have h:=h.1
 have one:spI d.ns r.a=true->r.b=0->(0<=r.a/\r.a.toNat<d.ns.length)/\(0<=r.b/\r.b.toNat<d.ns.length):=fun hs hb=>by
  have:=X0s hs
  rw [hb]
  exact ⟨⟨this.1,this.2.1⟩,by omega,by show (0:Int).toNat<_;have:=this.2.1;omega⟩
 cases h1:(r.u==1) with
 | true=>
  rw [(Xow h1).1] at h
  have hs:=X7v h
  have:r.u=1:=by simpa using h1
  exact ⟨by omega,hs⟩
 | false=>
 cases h4:(r.u==4) with
 | true=>
  rw [(Xp2 h1 h4).1] at h
  unfold pvC at h
  simp only [Qd] at h
  have ha:=X0s h.1.1.1.1.1.1.1.1;have hb:=X0s h.1.1.1.1.1.1.1.2
  have:r.u=4:=by simpa using h4
  exact ⟨by omega,⟨ha.1,ha.2.1⟩,hb.1,hb.2.1⟩
 | false=>
 cases hb:(r.b != 0) with
 | true=>rw [Xs1 h1 h4 hb] at h;cases h
 | false=>
 have hb0:r.b=0:=by simpa using hb
 cases h2:(r.u==2) with
 | true=>
  rw [(Xne h1 h4 hb h2).1] at h
  unfold idC at h
  simp only [Qd] at h
  have:r.u=2:=by simpa using h2
  exact ⟨by omega,one h.1.1 hb0⟩
 | false=>
 cases h3:(r.u==3) with
 | true=>
  rw [(Xtv h1 h4 hb h2 h3).1] at h
  unfold lcC at h
  simp only [Qd] at h
  have:r.u=3:=by simpa using h3
  exact ⟨by omega,one h.1.1.1 hb0⟩
 | false=>
 cases h5:(r.u==5) with
 | true=>
  rw [(Xn9 h1 h4 hb h2 h3 h5).1] at h
  unfold loC at h
  simp only [Qd] at h
  have:r.u=5:=by simpa using h5
  exact ⟨by omega,one h.1.1 hb0⟩
 | false=>rw [Xqh h1 h4 hb h2 h3 h5] at h;cases h
theorem Xnw{d:Dg}{r:Rz}(h:apC d r=true) : r ∈ alL d r.u:=by
 obtain ⟨_,ha,hb⟩:=Xgs h
 have e:(⟨r.u,(r.a.toNat:Int),(r.b.toNat:Int)⟩ : Rz)=r:=by
  cases r
  dsimp only at ha hb ⊢
  congr 1<;>omega
 have:=Xn0 (d:=d) (u:=r.u) (a:=r.a.toNat) (b:=r.b.toNat) ha.2 hb.2 (by rw [e];exact h)
 rwa [e] at this
theorem Xks{d:Dg}{r:Rz}(h:apC d r=true) : ((alL d r.u).any fun x=>x==r)=true:=List.any_eq_true.2 ⟨r,Xnw h,by simp⟩
theorem Xew:∀ (a r:List UInt8) {c:UInt8},c ∉ a->Lib.indexByte (a++c::r) c=a.length
 | [],r,c,_=>by
  show (if c==c then (0:Int) else _)=_
  rw [Q4 (by simp)]
  rfl
 | b::a,r,c,h=>by
  have hb:¬ (b==c)=true:=fun h9=>h (by rw [<- beq_iff_eq.1 h9];simp)
  have ih:=Xew a r (c:=c) fun h9=>h (by simp [h9])
  show (if b==c then (0:Int) else if Lib.indexByte (a++c::r) c == -1 then -1 else Lib.indexByte (a++c::r) c+1)=_
  rw [Q3 hb,ih,Q3 (by rw [beq_iff_eq];omega),Qs]
  omega
theorem Xgc:∀ (a:List UInt8) {c:UInt8},c ∉ a->Lib.indexByte a c = -1
 | [],c,_=>rfl
 | b::a,c,h=>by
  have hb:¬ (b==c)=true:=fun h9=>h (by rw [<- beq_iff_eq.1 h9];simp)
  have ih:=Xgc a (c:=c) fun h9=>h (by simp [h9])
  show (if b==c then (0:Int) else if Lib.indexByte a c == -1 then -1 else Lib.indexByte a c+1)=_
  rw [Q3 hb,ih]
  rfl
theorem Xrq(a r:List UInt8){c:UInt8}(h:c ∉ a) : Lib.index (a++c::r) [c]=a.length:=by rw [Lib.index_one];exact Xew a r h
theorem Xsp(a:List UInt8){c:UInt8}(h:c ∉ a) : Lib.index a [c] = -1:=by rw [Lib.index_one];exact Xgc a h
theorem Xeg(a r:List UInt8)(c:UInt8) : (a++c::r).drop (a.length+1)=r:=by
 rw [List.drop_append]
 simp
theorem X4w(x y:List UInt8)(r:List (List UInt8))(c:UInt8) : Lib.join (x::y::r) [c]=x++c::Lib.join (y::r) [c]:=by
 rw [Lib.join_cons,Lib.join_cons]
 unfold Lib.joinTail
 simp
theorem X4v{c:UInt8} : ∀ (ps:List (List UInt8)) (x:List UInt8),(∀ p ∈ x::ps,c ∉ p)->Lib.count (Lib.join (x::ps) [c]) [c]=ps.length/\Lib.splitK [c] 0 ps.length (Lib.join (x::ps) [c])=x::ps
 | [],x,h=>by
  rw [Lib.join_one]
  exact ⟨Lib.count_miss (Xsp x (h x (by simp))),rfl⟩
 | y::ps,x,h=>by
  have hx:=h x (by simp)
  have ih:=X4v ps y fun p hp=>h p (by simp only [Qv] at hp ⊢;exact .inr hp)
  have e1:=Xrq x (Lib.join (y::ps) [c]) hx
  rw [X4w]
  refine ⟨?_,?_⟩
  ·rw [Lib.count_hit (by simp) e1,List.length_singleton,Xeg,ih.1,Qs]
   omega
  ·rw [Qs]
   unfold Lib.splitK
   rw [e1,Q3 (by rw [beq_iff_eq];omega),show ((x.length:Int).toNat+[c].length)=x.length+1 from rfl,Xeg,ih.2]
   simp
def twoU(u:Int) : Bool:=u==1||u==4
def wdB(u:Int) : List UInt8:=if u=1 then [102,117,115,101] else if u=2 then [105,100] else if u=3 then [108,99] else if u=4 then [112,105,118,111,116] else if u=5 then [108,111,110,101,108,121] else []
def okW(r:Rz) : Bool:=inR r.u 1 5&&inR r.a 0 39&&inR r.b 0 39&&(r.b==0||twoU r.u)
def rwB(r:Rz) : List UInt8:=if twoU r.u=true then ((wdB r.u++[32])++Lib.itoa r.a)++([32]++Lib.itoa r.b) else (wdB r.u++[32])++Lib.itoa r.a
def lgB(l:List Rz) : List UInt8:=if l=[] then [45] else Lib.join (l.map rwB) [59]
def rwW(r:Rz) : List (List UInt8):=if twoU r.u=true then [wdB r.u,Lib.itoa r.a,Lib.itoa r.b] else [wdB r.u,Lib.itoa r.a]
theorem Xoy:((List.range 40).all fun n=>!(Lib.itoa (n:Int)).contains 32&&!(Lib.itoa (n:Int)).contains 59&&decide (Lib.atoi (Lib.itoa (n:Int))=some (n:Int))&&decide ((Lib.itoa (n:Int)).length<=2))=true:=by decide +kernel
theorem X4h{n:Int}(h:0<=n/\n<=39) : (32:UInt8) ∉ Lib.itoa n/\(59:UInt8) ∉ Lib.itoa n/\Lib.atoi (Lib.itoa n)=some n/\(Lib.itoa n).length<=2:=by
 have:=W1.1 Xoy n.toNat (W2.2 (by omega))
 rw [show ((n.toNat:Nat) : Int)=n by omega] at this
 simp only [Qd,Qr,Bool.not_eq_true'] at this
 refine ⟨fun h9=>?_,fun h9=>?_,this.1.2,this.2⟩
 ·have h1:=this.1.1.1
  rw [List.contains_iff_mem.2 h9] at h1
  cases h1
 ·have h1:=this.1.1.2
  rw [List.contains_iff_mem.2 h9] at h1
  cases h1
theorem u5{u:Int}(h:1<=u/\u<=5) : u=1∨u=2∨u=3∨u=4∨u=5:=by omega
theorem Xdl{u:Int}(h:1<=u/\u<=5) : (32:UInt8) ∉ wdB u/\(59:UInt8) ∉ wdB u/\2<=(wdB u).length/\(wdB u).length<=6:=by
 rcases u5 h with rfl|rfl|rfl|rfl|rfl<;>decide
theorem X7a{r:Rz}(h:okW r=true) : (1<=r.u/\r.u<=5)/\(0<=r.a/\r.a<=39)/\(0<=r.b/\r.b<=39)/\(r.b=0∨twoU r.u=true):=by
 unfold okW at h
 simp only [Qd,Bool.or_eq_true,X0t,beq_iff_eq] at h
 exact ⟨h.1.1.1,h.1.1.2,h.1.2,h.2⟩
theorem Xh2(r:Rz) : ∃ x ps,rwW r=x::ps/\rwB r=Lib.join (x::ps) [32]:=by
 unfold rwW rwB
 by_cases h:twoU r.u=true
 ·rw [Q4 h,Q4 h]
  refine ⟨_,_,rfl,?_⟩
  rw [X4w,X4w,Lib.join_one]
  simp
 ·rw [Q3 h,Q3 h]
  refine ⟨_,_,rfl,?_⟩
  rw [X4w,Lib.join_one]
  simp
theorem Xnp{r:Rz}(h:okW r=true) : ∀ p ∈ rwW r,(32:UInt8) ∉ p:=fun p hp=>by
 have h1:=X7a h
 have a:=Xdl h1.1
 have b:=X4h h1.2.1
 have c:=X4h h1.2.2.1
 unfold rwW at hp
 split at hp
 ·simp only [Qv,List.not_mem_nil,or_false] at hp
  rcases hp with rfl|rfl|rfl
  ·exact a.1
  ·exact b.1
  ·exact c.1
 ·simp only [Qv,List.not_mem_nil,or_false] at hp
  rcases hp with rfl|rfl
  ·exact a.1
  ·exact b.1
theorem Xhb{r:Rz}(h:okW r=true) : Lib.count (rwB r) [32]=(rwW r).length-1/\Lib.splitK [32] 0 ((rwW r).length-1) (rwB r)=rwW r:=by
 obtain ⟨x,ps,e1,e2⟩:=Xh2 r
 have hs:=X4v ps x (by rw [<- e1];exact Xnp h)
 rw [<- e2] at hs
 rw [e1,Qs,Nat.add_sub_cancel]
 exact hs
theorem Xp8{r:Rz}(h:okW r=true) : (59:UInt8) ∉ rwB r:=by
 have h1:=X7a h
 have a:=(Xdl h1.1).2.1
 have b:=(X4h h1.2.1).2.1
 have c:=(X4h h1.2.2.1).2.1
 unfold rwB
 split<;>simp [a,b,c]
theorem X8l{r:Rz}(h:okW r=true) : 2<=(rwB r).length/\(rwB r).length<=12:=by
 have h1:=X7a h
 have a:=(Xdl h1.1).2.2
 have b:=(X4h h1.2.1).2.2.2
 have c:=(X4h h1.2.2.1).2.2.2
 unfold rwB
 split<;>simp only [Qh,List.length_singleton]<;>omega
theorem Xfa{r:Rz}{l:List Rz}(h:(r::l).all okW=true) : Lib.count (lgB (r::l)) [59]=l.length/\Lib.splitK [59] 0 l.length (lgB (r::l))=(r::l).map rwB:=by
 have e:lgB (r::l)=Lib.join (rwB r::l.map rwB) [59]:=by unfold lgB;rw [Q3 (by simp)];rfl
 have hs:=X4v (l.map rwB) (rwB r) (c:=59) fun p hp=>by
  rw [<- List.map_cons] at hp
  obtain ⟨x,hx,rfl⟩:=W6.1 hp;exact Xp8 (W1.1 h x hx)
 rw [Qo] at hs
 rw [e]
 exact hs
theorem Xbj:∀ {l:List Rz},l.all okW=true->Lib.lens (l.map rwB)<=12*l.length
 | [],_=>Qb _
 | r::l,h=>by
  rw [List.all_cons,Qd] at h
  have h1:=X8l h.1
  have ih:=Xbj h.2
  unfold Lib.lens at ih ⊢
  rw [List.map_cons,List.map_cons,List.sum_cons,Qs]
  omega
theorem Xaq{r:Rz}{l:List Rz}(h:(r::l).all okW=true) : 2<=(lgB (r::l)).length/\(lgB (r::l)).length<=13*(l.length+1):=by
 have e:lgB (r::l)=Lib.join (rwB r::l.map rwB) [59]:=by unfold lgB;rw [Q3 (by simp)];rfl
 have h1:=Xbj h
 have h2:=X8l (W1.1 h r (by simp))
 rw [e,Lib.join_length,List.length_singleton,Qo]
 have h3:Lib.lens (rwB r::l.map rwB)=Lib.lens ((r::l).map rwB):=rfl
 have h4:(rwB r).length<=Lib.lens (rwB r::l.map rwB):=by unfold Lib.lens;rw [List.map_cons,List.sum_cons];omega
 rw [Qs] at h1
 rw [h3] at h4 ⊢
 omega
theorem Xi5{l:List Rz}(h:l.all okW=true)(e:lgB l=[45]) : l=[]:=by
 cases l with
 | nil=>rfl
 | cons r l=>
  have:=(Xaq h).1
  rw [e] at this
  simp at this
def rwT:List (List UInt8):=[wdB 1,wdB 2,wdB 3,wdB 4,wdB 5]
theorem Xo6{u:Int}(h:1<=u/\u<=5) : Lib.idxOfS (rwT.map tx) (tx (wdB u))=u-1:=by
 rcases u5 h with rfl|rfl|rfl|rfl|rfl<;>decide
theorem Xkn{l:List Rz}(h:l.all okW=true){k:Nat}{u:Rz}(hu:l[k]? = some u) : okW u=true:=W1.1 h u (Qe hu)
def rlB(d:Dg)(l:List Rz) : Bool:=goodD d&&decide (l.length<=60)
def rlD(d:Dg)(l:List Rz) : Dg:=if rlB d l=true then rpD d l else zD
def rlK(d:Dg)(l:List Rz) : Nat:=if rlB d l=true then rpK d l else 0
theorem Xga{d:Dg}{l:List Rz}(h:rlB d l=false) : rlD d l=zD/\rlK d l=0:=⟨Q3 (by rw [h];decide),Q3 (by rw [h];decide)⟩
theorem X57{d:Dg}{l:List Rz}(h:rlB d l=true) : rlD d l=rpD d l/\rlK d l=rpK d l:=⟨Q4 h,Q4 h⟩
theorem Xe3{d:Dg}{l:List Rz}(h:rlB d l=true) : goodD d=true/\l.length<=60:=by
 unfold rlB at h
 rw [Qd,Qr] at h
 exact h
theorem Xl9{d:Dg}{l:List Rz}(h:(!(goodD d)||decide (60<(l.length:Int)))=false) : rlB d l=true:=by
 unfold rlB
 rw [Bool.or_eq_false_iff,Bool.not_eq_false',decide_eq_false_iff_not] at h
 rw [h.1,decide_eq_true (by omega)]
 rfl
theorem Xlg{d:Dg}{l:List Rz}(h:(!(goodD d)||decide (60<(l.length:Int)))=true) : rlB d l=false:=by
 unfold rlB
 rw [Bool.or_eq_true,Bool.not_eq_true',Qr] at h
 rcases h with h|h
 ·rw [h];rfl
 ·rw [decide_eq_false (by omega),Bool.and_false]
theorem X9d(w0:World)(d:Dg)(md:Nat)(aJ:md=d.ns.length)(Ad:Option Addr)(cd:Nat)(aK:Rd w0 w0.heap.size 76 encNd Ad d.ns)(Bd:Option Addr)(dd:Nat)(aL:Rd w0 w0.heap.size 84 encWr Bd d.ws)(Q:d.ws.length<=dd)(Al:Option Addr)(cl:Nat)(l:List Rz)(aM:Rd w0 w0.heap.size 57 encRz Al l)(cD:d.ws.length<=90000000)(hN:md<=1000)(cE:l.length<=100000000) : Ret Tryz.prog 21 [.agg #[vi d.n,.slice Ad md cd,.slice Bd d.ws.length dd,vi d.t,vi d.r],.slice Al l.length cl] w0 (fun v w=>∃ A c B e,v=.tuple #[.agg #[vi (rlD d l).n,.slice A (rlD d l).ns.length c,.slice B (rlD d l).ws.length e,vi (rlD d l).t,vi (rlD d l).r],vi ((rlK d l:Nat) : Int),.bool (rlB d l)]/\Rd w w.heap.size 76 encNd A (rlD d l).ns/\Rd w w.heap.size 84 encWr B (rlD d l).ws/\(rlD d l).ws.length<=e/\Below w0.heap.size w0 w):=by
 refine enter Tryz.func21 rfl 45 rfl rfl ?_;intro a x
 have q:=bz w0
 refine Zs x fun _ bW=>?_;refine Zf (X0q (zs:=[vi d.n,.slice Ad md cd,.slice Bd d.ws.length dd,vi d.t,vi d.r]) rfl rfl) ?_;rintro _ w1 ⟨b5,rfl,bX,z,I⟩;have cB:=Q0 q.size bX;have q:=btr q z;refine Zf (Xw (zs:=[vi 0,.slice none 0 0,.slice none 0 0,vi 0,vi 0]) X0e rfl) ?_;rintro _ w2 ⟨b8,rfl,bY,z,f⟩
 have bU:b5≠b8:=by have:=I.lt;omega
 have aA:=Q0 q.size bY;have I:=I.bw z;have q:=btr q z;refine Za rfl<|Za rfl<|ZX bW fun a x _ bZ=>?_;refine Q5 fun _ b1=>?_;refine X06 (fun a w=>Fr a 45 [(1,.slice Al l.length cl),(2,(pZ9 b5)),(4,(pZ9 b8)),(19,.bool ((!(ivD d))||(decide (60<(l.length:Int)))))]/\Below w2.heap.size w2 w) ?_ ?_
 ·have aI:Below w2.heap.size w2 w2:=Below.refl _ _
  refine Zr x<|Ze (Vn X2 I)<|Zf (Vc (Xfy _ d md aJ Ad cd (aK.bx q).top Bd dd (aL.bx q).top Q (by omega)) X86) ?_;rintro _ w3 ⟨rfl,z⟩;have q:=btr q z;have aI:=btr aI z;refine Ze (X0z rfl)<|Zm rfl ?_
  refine Zg 15 rfl (fun y=>?_) (fun y=>?_)
  ·(iterate 3 refine Zp (gP y) ?_);refine Ze (X5 rfl y rfl) ?_;refine Zn fun a x=>?_
   have aO:Below w2.heap.size w2 w3:=aI
   exact ⟨x.sub ⟨rfl,rfl,rfl,X1 rfl (by first|rfl|(simp only [y,bs];done)|simp [y]),trivial⟩,aO⟩
  refine Zv (gW y) (X3 rfl) ?_;refine Zv (gW y) (X07 rfl X08) ?_;refine Zv (gW y) (X2o rfl rfl) ?_;refine Ze (X9 rfl y rfl) ?_;refine Zn fun a x=>?_
  have aO:Below w2.heap.size w2 w3:=aI
  exact ⟨x.sub ⟨rfl,rfl,rfl,X1 rfl (by first|rfl|(simp only [y,bs];done)|simp [y]),trivial⟩,aO⟩
 rintro a w4 ⟨x,z⟩;have I:=I.bw z;have f:=f.bw z;have q:=btr q z;refine b1 _ _ ?_
 refine Xf x rfl (fun U=>?_) (fun U=>?_)
 ·have aP:=U
  have aQ:rlB d l=false:=Xlg (by rw [<- X6a];exact U)
  refine Zs x fun _ b2=>?_;refine Ze (X11 (ps:=[]) (cs:=[vi 0,.slice none 0 0,.slice none 0 0,vi 0,vi 0]) rfl (fun _=>by first|rfl|kernel_rfl))<|Zo (Vw [vi 0,.slice none 0 0,.slice none 0 0,vi 0,vi 0] Xd f) ?_;rintro _ w5 ⟨h,hb⟩;have i:=f;have q:=Below.oy q h aA;have f:=hb;refine Za rfl<|Za rfl<|Zt b2 fun a x=>?_;refine Q6<|X8<|X6 x (Xhd x rfl (ResV.cellN (l:=[vi 0,.slice none 0 0,.slice none 0 0,vi 0,vi 0]) rfl X2 (f.at 0) rfl) rfl rfl) ?_
  rw [(Xga aQ).1,(Xga aQ).2,aQ]
  exact ⟨none,0,none,0,rfl,(Rd.nil _ _ _ _ _),(Rd.nil _ _ _ _ _),(Qf _),q⟩
 have aP:=U
 have a6:rlB d l=true:=Xl9 (by rw [<- X6a];exact U)
 have hG:goodD d=true:=(Xe3 a6).1
 have hD:=X1b hG;have cF:=hD.len;have cG:=hD.m;refine Q7<|bZ _ _<|Zs x fun _ b3=>?_;refine Ze (Vn X2 I)<|Zf (Vc (Xhk _ d md aJ Ad cd (aK.bx q).top Bd dd (aL.bx q).top Q ⟨by omega,by omega⟩) X8c) ?_;rintro _ w6 ⟨b4,b6,b7,b9,rfl,E,D,z⟩;have E:=E.lower q.size;have D:=D.lower q.size;have I:=I.bw z;have f:=f.bw z;have q:=btr q z;refine Zf (Xw (zs:=[vi 0,.slice none 0 0,.slice none 0 0,vi 0,vi 0]) X0e rfl) ?_;rintro _ w7 ⟨b21,rfl,bA,z,g⟩
 have bB:b5≠b21:=by have:=I.lt;omega
 have bC:b8≠b21:=by have:=f.lt;omega
 have aB:=Q0 q.size bA;have f:=f.bw z;have E:=E.bw z;have D:=D.bw z;have q:=btr q z;refine Zo (Vw [vi d.n,.slice b4 d.ns.length b6,.slice b7 d.ws.length b9,vi d.t,vi d.r] Xd g) ?_;rintro _ w8 ⟨h,hb⟩;have i:=g;have f:=f.oy h (by omega);have E:=E.oT h i rfl;have D:=D.oT h i rfl;have q:=Below.oy q h aB;have g:=hb;refine ZX b3 fun a x _ bD=>?_;refine Zs x fun _ bE=>?_;refine Zm rfl<|Ze (X07 rfl X08)<|Zm rfl<|Zt bE fun a x=>?_;refine Q8<|X02 (σ:=Nat×Dg) (fun (s:Nat×Dg) (a:Act) (w:World)=>match s with|(k,o)=>∃ J N L M,Fr a 45 [(1,.slice Al l.length cl),(4,(pZ9 b8)),(7,(pZ9 b21)),(23,.slice Al l.length cl),(24,vi (l.length:Int)),(25,vi (k:Int))]/\(k<=l.length)/\(goodD o=true)/\(rpD o (l.drop k)=rpD d l)/\(rpK o (l.drop k)+k=rpK d l)/\Blk w b8 31 [vi 0,.slice none 0 0,.slice none 0 0,vi 0,vi 0]/\Blk w b21 31 [vi o.n,.slice J o.ns.length N,.slice L o.ws.length M,vi o.t,vi o.r]/\Rd w w.heap.size 76 encNd J o.ns/\Rd w w.heap.size 84 encWr L o.ws/\d.ws.length<=dd/\o.ws.length<=M/\Below w0.heap.size w0 w) (fun (s:Nat×Dg)=>match s with|(k,o)=>l.length-k) (0,d) ?_ ?_
 ·exact ⟨b4,b6,b7,b9,x.sb,(Qf _),hG,rfl,rfl,f,g,E.rd,D.rd,Q,D.cap,q⟩
 rintro ⟨k,o⟩ a w9 ⟨J,N,L,M,x,hk,hI,hs,aR,f,g,j,p,Q,aS,q⟩;refine Zs x fun _ bF=>?_;refine Ze (X0i rfl rfl)<|ZX bF fun a x _ bG=>?_
 refine Xf x rfl (fun C=>?_) (fun C=>?_)
 ·have aT:=C;have C:=Q2 C
  obtain ⟨cH,cC⟩:=X4 (l:=l) (k:=k) (by omega)
  obtain ⟨u9,aU⟩:=X4 (l:=l) (k:=k) (by have:=C;omega)
  refine Q7<|bG _ _<|Q5 fun _ bH=>?_;refine Q8<|Zs x fun _ bI=>?_;refine Zm rfl<|Zi (k:=k) (u:=u9) (enc:=encRz) (l:=l) tv0 rfl rfl X08 X0v X0p (aM.bx q) aU rfl ?_;intro cI aV;refine Ze (X00 (l:=[vi u9.u,vi u9.a,vi u9.b]) rfl X10 aV rfl)<|Zf (Xw (zs:=[vi 0,vi 0,vi 0]) X2m rfl) ?_;rintro _ cJ ⟨cK,rfl,aN,z,a7⟩;have aW:=Q0 q.size aN;have bJ:=(aM.bx q).away aN;have f:=f.bw z;have g:=g.bw z;have j:=j.bw z;have p:=p.bw z;have q:=btr q z;refine Za rfl<|Zo (Vw [vi u9.u,vi u9.a,vi u9.b] X0v a7) ?_;rintro _ cL ⟨h,hb⟩;have i:=a7;have f:=f.oz h i rfl;have g:=g.oz h i rfl;have j:=j.oT h i rfl;have p:=p.oT h i rfl;have q:=Below.oy q h aW;have a7:=hb;refine Zx bI fun a x _ bK=>?_;refine Ze (Vn X2 g)<|Ze (Vn X10 a7)<|Zf (Vc (Xm2 _ o o.ns.length rfl J N j.top L M p.top aS u9 hI) Xc0) ?_;rintro _ cM ⟨aC,aD,aE,aF,rfl,G,H,bL,z⟩;have f:=f.bw z;have g:=g.bw z;have j:=j.bw z;have p:=p.bw z;have q:=btr q z;refine Zm rfl<|Ze (Xn (vs:=[.agg #[vi ((if (apC o u9)=true then apD o u9 else zD).n),.slice aC ((if (apC o u9)=true then apD o u9 else zD).ns).length aD,.slice aE ((if (apC o u9)=true then apD o u9 else zD).ws).length aF,vi ((if (apC o u9)=true then apD o u9 else zD).t),vi ((if (apC o u9)=true then apD o u9 else zD).r)],.bool (apC o u9)]) rfl rfl)<|Ze (Xn (vs:=[.agg #[vi ((if (apC o u9)=true then apD o u9 else zD).n),.slice aC ((if (apC o u9)=true then apD o u9 else zD).ns).length aD,.slice aE ((if (apC o u9)=true then apD o u9 else zD).ws).length aF,vi ((if (apC o u9)=true then apD o u9 else zD).t),vi ((if (apC o u9)=true then apD o u9 else zD).r)],.bool (apC o u9)]) rfl rfl)<|Zf (Xw (zs:=[vi 0,.slice none 0 0,.slice none 0 0,vi 0,vi 0]) X0e rfl) ?_;rintro _ cN ⟨b40,rfl,bM,z,a8⟩
  have bN:b8≠b40:=by have:=f.lt;omega
  have b0:b21≠b40:=by have:=g.lt;omega
  have aX:=Q0 q.size bM;have f:=f.bw z;have g:=g.bw z;have j:=j.bw z;have p:=p.bw z;have G:=G.bw z;have H:=H.bw z;have q:=btr q z;refine Zo (Vw [vi ((if (apC o u9)=true then apD o u9 else zD).n),.slice aC ((if (apC o u9)=true then apD o u9 else zD).ns).length aD,.slice aE ((if (apC o u9)=true then apD o u9 else zD).ws).length aF,vi ((if (apC o u9)=true then apD o u9 else zD).t),vi ((if (apC o u9)=true then apD o u9 else zD).r)] Xd a8) ?_;rintro _ cO ⟨h,hb⟩;have i:=a8;have f:=f.oy h (by omega);have g:=g.oy h (by omega);have j:=j.oT h i rfl;have p:=p.oT h i rfl;have G:=G.oT h i rfl;have H:=H.oT h i rfl;have q:=Below.oy q h aX;have a8:=hb;refine Za rfl<|ZX bK fun a x _ bO=>?_;refine Zs x fun _ bP=>?_;refine Zm rfl<|Ze (X0z rfl)<|Zt bP fun a x=>?_
  refine Xf x rfl (fun W=>?_) (fun W=>?_)
  ·have aY:=W
   have aG:apC o u9=false:=by have h8:=W;simpa using h8
   have aH:=Xmy hs aR aU aG;refine Zs x fun _ bQ=>?_;refine Ze (Vn X2 g)<|Zm rfl<|Zo (Vw [vi o.n,.slice J o.ns.length N,.slice L o.ws.length M,vi o.t,vi o.r] Xd f) ?_;rintro _ cP ⟨h,hb⟩;have i:=f;have j:=j.oT h i rfl;have p:=p.oT h i rfl;have q:=Below.oy q h aA;have f:=hb;refine Za rfl<|Za rfl<|Zt bQ fun a x=>?_;refine Q6<|X8<|Xx<|X8 ?_;refine X8<|Xx<|X8<|X6 x (Xhd x rfl (ResV.cellN (l:=[vi o.n,.slice J o.ns.length N,.slice L o.ws.length M,vi o.t,vi o.r]) rfl X2 (f.at 0) rfl) rfl rfl) ?_
   rw [(X57 a6).1,(X57 a6).2,a6,aH.1,aH.2]
   exact ⟨J,N,L,M,rfl,j.top,p.top,aS,q⟩
  have aY:=W
  have aG:apC o u9=true:=by have h8:=W;simpa using h8
  have bR:=Xlk hs aR aU aG
  have aZ:(if apC o u9=true then apD o u9 else zD)=apD o u9:=Q4 aG
  refine Q7<|bO _ _<|Zr x<|Ze (Vn X2 a8)<|Zo (Vw [vi ((if (apC o u9)=true then apD o u9 else zD).n),.slice aC ((if (apC o u9)=true then apD o u9 else zD).ns).length aD,.slice aE ((if (apC o u9)=true then apD o u9 else zD).ws).length aF,vi ((if (apC o u9)=true then apD o u9 else zD).t),vi ((if (apC o u9)=true then apD o u9 else zD).r)] Xd g) ?_;rintro _ cQ ⟨h,hb⟩;have i:=g;have f:=f.oy h (by omega);have G:=G.oT h i rfl;have H:=H.oT h i rfl;have q:=Below.oy q h aB;have g:=hb;refine Zn fun a x=>?_;refine Xb<|bH _ _<|Zr x<|Ze (Xr rfl rfl (by omega) (by omega))<|Zm rfl ?_;refine Zn fun a x=>?_;refine Xe ?_;exact ⟨(k+1,(if (apC o u9)=true then apD o u9 else zD)),⟨aC,aD,aE,aF,x.sb,(by omega),(by rw [aZ];exact Xbv aG),(by rw [aZ];exact bR.1),(by rw [aZ];exact bR.2),f,g,G.top,H.top,Q,bL,q⟩,(by first|omega|(dsimp only;omega))⟩
 have aT:=C;have C:=Q1 C
 have cA:k=l.length:=by have:=C;omega
 have aH:=Xm5 hs aR (by omega)
 have bS:=aH.2.trans cA;refine Q9<|Xl<|Xl<|X01 ?_;refine bD _ _<|Zs x fun _ bT=>?_;refine Ze (Vn X2 g)<|Zm rfl<|Ze (X07 rfl X08)<|Zo (Vw [vi o.n,.slice J o.ns.length N,.slice L o.ws.length M,vi o.t,vi o.r] Xd f) ?_;rintro _ cR ⟨h,hb⟩;have i:=f;have j:=j.oT h i rfl;have p:=p.oT h i rfl;have q:=Below.oy q h aA;have f:=hb;refine Za rfl<|Za rfl<|Zt bT fun a x=>?_
 refine Q6 (X6 x (Xhd x rfl (ResV.cellN (l:=[vi o.n,.slice J o.ns.length N,.slice L o.ws.length M,vi o.t,vi o.r]) rfl X2 (f.at 0) rfl) rfl rfl) ?_)
 rw [(X57 a6).1,(X57 a6).2,a6,aH.1,bS]
 exact ⟨J,N,L,M,rfl,j.top,p.top,aS,q⟩
theorem Xsn(N:World)(d:Dg)(md:Nat)(aM:md=d.ns.length)(Ad:Option Addr)(cd:Nat)(aN:Rd N N.heap.size 76 encNd Ad d.ns)(Bd:Option Addr)(dd:Nat)(aO:Rd N N.heap.size 84 encWr Bd d.ws)(aP:d.ws.length<=dd)(Al:Option Addr)(cl:Nat)(l:List Rz)(aA:Rd N N.heap.size 57 encRz Al l)(hG:goodD d=true)(bH:l.length<=100000000) : Ret Tryz.prog 64 [.agg #[vi d.n,.slice Ad md cd,.slice Bd d.ws.length dd,vi d.t,vi d.r],.slice Al l.length cl] N (fun v w=>∃ A c B e,v=.tuple #[.agg #[vi (rpD d l).n,.slice A (rpD d l).ns.length c,.slice B (rpD d l).ws.length e,vi (rpD d l).t,vi (rpD d l).r],vi ((rpK d l:Nat) : Int)]/\Rd w w.heap.size 76 encNd A (rpD d l).ns/\Rd w w.heap.size 84 encWr B (rpD d l).ws/\(rpD d l).ws.length<=e/\Below N.heap.size N w):=by
 subst aM
 have hD:=X1b hG;have bI:=hD.len;have bJ:=hD.m;refine enter Tryz.func64 rfl 32 rfl rfl ?_;intro a y
 have q:=bz N
 refine Zs y fun _ bB=>?_;refine Zf (X0q (zs:=[vi d.n,.slice Ad d.ns.length cd,.slice Bd d.ws.length dd,vi d.t,vi d.r]) rfl rfl) ?_;rintro _ w1 ⟨b5,rfl,bC,h,p⟩;have aQ:=Q0 q.size bC;have q:=btr q h;refine Zf (Xw (zs:=[vi 0,.slice none 0 0,.slice none 0 0,vi 0,vi 0]) X0e rfl) ?_;rintro _ w2 ⟨b8,rfl,bD,h,j⟩
 have bA:b5≠b8:=by have:=p.lt;omega
 have aB:=Q0 q.size bD;have p:=p.bw h;have q:=btr q h;refine Za rfl<|ZX bB fun a y _ bE=>?_;refine Zs y fun _ aR=>?_;refine Zm rfl<|Ze (X07 rfl X08)<|Zm rfl<|Zt aR fun a y=>?_;refine Q8<|X02 (σ:=Nat×Dg) (fun (s:Nat×Dg) (a:Act) (w:World)=>match s with|(k,o)=>∃ E I G H,Fr a 32 [(1,.slice Al l.length cl),(2,(pZ9 b5)),(4,(pZ9 b8)),(10,.slice Al l.length cl),(11,vi (l.length:Int)),(12,vi (k:Int))]/\(k<=l.length)/\(goodD o=true)/\(rpD o (l.drop k)=rpD d l)/\(rpK o (l.drop k)+k=rpK d l)/\Blk w b5 31 [vi o.n,.slice E o.ns.length I,.slice G o.ws.length H,vi o.t,vi o.r]/\Blk w b8 31 [vi 0,.slice none 0 0,.slice none 0 0,vi 0,vi 0]/\Rd w w.heap.size 76 encNd E o.ns/\Rd w w.heap.size 84 encWr G o.ws/\o.ws.length<=H/\Below N.heap.size N w) (fun (s:Nat×Dg)=>match s with|(k,o)=>l.length-k) (0,d) ?_ ?_
 ·exact ⟨Ad,cd,Bd,dd,y.sb,(Qf _),hG,rfl,rfl,p,j,(aN.bx q).top,(aO.bx q).top,aP,q⟩
 rintro ⟨k,o⟩ a w3 ⟨E,I,G,H,y,hk,hI,hs,aD,p,j,g,i,aE,q⟩;refine Zs y fun _ aS=>?_;refine Ze (X0i rfl rfl)<|ZX aS fun a y _ aT=>?_
 refine Xf y rfl (fun x=>?_) (fun x=>?_)
 ·have aF:=x;have x:=Q2 x
  obtain ⟨bK,bG⟩:=X4 (l:=l) (k:=k) (by omega)
  obtain ⟨u9,aG⟩:=X4 (l:=l) (k:=k) (by have:=x;omega)
  refine Q7<|aT _ _<|Q5 fun _ aU=>?_;refine Q8<|Zs y fun _ aV=>?_;refine Zm rfl<|Zi (k:=k) (u:=u9) (enc:=encRz) (l:=l) tv0 rfl rfl X08 X0v X0p (aA.bx q) aG rfl ?_;intro bL aH;refine Ze (X00 (l:=[vi u9.u,vi u9.a,vi u9.b]) rfl X10 aH rfl)<|Zf (Xw (zs:=[vi 0,vi 0,vi 0]) X2m rfl) ?_;rintro _ w4 ⟨bM,rfl,aC,h,L⟩;have aI:=Q0 q.size aC;have aW:=(aA.bx q).away aC;have p:=p.bw h;have j:=j.bw h;have g:=g.bw h;have i:=i.bw h;have q:=btr q h;refine Za rfl<|Zo (Vw [vi u9.u,vi u9.a,vi u9.b] X0v L) ?_;rintro _ w5 ⟨z,hb⟩;have f:=L;have p:=p.oz z f rfl;have j:=j.oz z f rfl;have g:=g.oT z f rfl;have i:=i.oT z f rfl;have q:=Below.oy q z aI;have L:=hb;refine Zx aV fun a y _ aX=>?_;refine Ze (Vn X2 p)<|Ze (Vn X10 L)<|Zf (Vc (Xhi _ o o.ns.length rfl E I g.top G H i.top aE u9 (X1b hI)) X8v) ?_;rintro _ w6 ⟨Q,U,W,a6,rfl,C,D,aY,h⟩;have p:=p.bw h;have j:=j.bw h;have g:=g.bw h;have i:=i.bw h;have q:=btr q h;refine Zm rfl<|Ze (Xn (vs:=[.agg #[vi ((if (apC o u9)=true then apD o u9 else zD).n),.slice Q ((if (apC o u9)=true then apD o u9 else zD).ns).length U,.slice W ((if (apC o u9)=true then apD o u9 else zD).ws).length a6,vi ((if (apC o u9)=true then apD o u9 else zD).t),vi ((if (apC o u9)=true then apD o u9 else zD).r)],.bool (apC o u9)]) rfl rfl)<|Ze (Xn (vs:=[.agg #[vi ((if (apC o u9)=true then apD o u9 else zD).n),.slice Q ((if (apC o u9)=true then apD o u9 else zD).ns).length U,.slice W ((if (apC o u9)=true then apD o u9 else zD).ws).length a6,vi ((if (apC o u9)=true then apD o u9 else zD).t),vi ((if (apC o u9)=true then apD o u9 else zD).r)],.bool (apC o u9)]) rfl rfl)<|Zf (Xw (zs:=[vi 0,.slice none 0 0,.slice none 0 0,vi 0,vi 0]) X0e rfl) ?_;rintro _ w7 ⟨b27,rfl,aZ,h,M⟩
  have b0:b5≠b27:=by have:=p.lt;omega
  have b1:b8≠b27:=by have:=j.lt;omega
  have aJ:=Q0 q.size aZ;have p:=p.bw h;have j:=j.bw h;have g:=g.bw h;have i:=i.bw h;have C:=C.bw h;have D:=D.bw h;have q:=btr q h;refine Zo (Vw [vi ((if (apC o u9)=true then apD o u9 else zD).n),.slice Q ((if (apC o u9)=true then apD o u9 else zD).ns).length U,.slice W ((if (apC o u9)=true then apD o u9 else zD).ws).length a6,vi ((if (apC o u9)=true then apD o u9 else zD).t),vi ((if (apC o u9)=true then apD o u9 else zD).r)] Xd M) ?_;rintro _ w8 ⟨z,hb⟩;have f:=M;have p:=p.oy z (by omega);have j:=j.oy z (by omega);have g:=g.oT z f rfl;have i:=i.oT z f rfl;have C:=C.oT z f rfl;have D:=D.oT z f rfl;have q:=Below.oy q z aJ;have M:=hb;refine Za rfl<|ZX aX fun a y _ b2=>?_;refine Zs y fun _ b3=>?_;refine Zm rfl<|Ze (X0z rfl)<|Zt b3 fun a y=>?_
  refine Xf y rfl (fun J=>?_) (fun J=>?_)
  ·have aK:=J
   have a7:apC o u9=false:=by have h8:=J;simpa using h8
   have a8:=Xmy hs aD aG a7;refine Zs y fun _ b4=>?_;refine Ze (Vn X2 p)<|Zm rfl<|Zo (Vw [vi o.n,.slice E o.ns.length I,.slice G o.ws.length H,vi o.t,vi o.r] Xd j) ?_;rintro _ w9 ⟨z,hb⟩;have f:=j;have g:=g.oT z f rfl;have i:=i.oT z f rfl;have q:=Below.oy q z aB;have j:=hb;refine Za rfl<|Zt b4 fun a y=>?_;refine Q6<|X8<|Xx<|X8 ?_;refine X8<|Xx<|X8<|X6 y (X1h y rfl (ResV.cellN (l:=[vi o.n,.slice E o.ns.length I,.slice G o.ws.length H,vi o.t,vi o.r]) rfl X2 (j.at 0) rfl) rfl) ?_
   rw [a8.1,a8.2]
   exact ⟨E,I,G,H,rfl,g.top,i.top,aE,q⟩
  have aK:=J
  have a7:apC o u9=true:=by have h8:=J;simpa using h8
  have b6:=Xlk hs aD aG a7
  have aL:(if apC o u9=true then apD o u9 else zD)=apD o u9:=Q4 a7
  refine Q7<|b2 _ _<|Zr y<|Ze (Vn X2 M)<|Zo (Vw [vi ((if (apC o u9)=true then apD o u9 else zD).n),.slice Q ((if (apC o u9)=true then apD o u9 else zD).ns).length U,.slice W ((if (apC o u9)=true then apD o u9 else zD).ws).length a6,vi ((if (apC o u9)=true then apD o u9 else zD).t),vi ((if (apC o u9)=true then apD o u9 else zD).r)] Xd p) ?_;rintro _ bN ⟨z,hb⟩;have f:=p;have j:=j.oy z (by omega);have C:=C.oT z f rfl;have D:=D.oT z f rfl;have q:=Below.oy q z aQ;have p:=hb;refine Zn fun a y=>?_;refine Xb<|aU _ _<|Zr y<|Ze (Xr rfl rfl (by omega) (by omega))<|Zm rfl ?_;refine Zn fun a y=>?_;refine Xe ?_;exact ⟨(k+1,(if (apC o u9)=true then apD o u9 else zD)),⟨Q,U,W,a6,y.sb,(by omega),(by rw [aL];exact Xbv a7),(by rw [aL];exact b6.1),(by rw [aL];exact b6.2),p,j,C.top,D.top,aY,q⟩,(by first|omega|(dsimp only;omega))⟩
 have aF:=x;have x:=Q1 x
 have bF:k=l.length:=by have:=x;omega
 have a8:=Xm5 hs aD (by omega)
 have b7:=a8.2.trans bF;refine Q9<|Xl<|Xl<|X01 ?_;refine bE _ _<|Zs y fun _ b9=>?_;refine Ze (Vn X2 p)<|Zm rfl<|Ze (X07 rfl X08)<|Zo (Vw [vi o.n,.slice E o.ns.length I,.slice G o.ws.length H,vi o.t,vi o.r] Xd j) ?_;rintro _ bO ⟨z,hb⟩;have f:=j;have g:=g.oT z f rfl;have i:=i.oT z f rfl;have q:=Below.oy q z aB;have j:=hb;refine Za rfl<|Zt b9 fun a y=>?_
 refine Q6 (X6 y (X1h y rfl (ResV.cellN (l:=[vi o.n,.slice E o.ns.length I,.slice G o.ws.length H,vi o.t,vi o.r]) rfl X2 (j.at 0) rfl) rfl) ?_)
 rw [a8.1,b7]
 exact ⟨E,I,G,H,rfl,g.top,i.top,aE,q⟩
theorem Xsx(D:World)(d:Dg)(md:Nat)(aF:md=d.ns.length)(Ad:Option Addr)(cd:Nat)(N:Rd D D.heap.size 76 encNd Ad d.ns)(Bd:Option Addr)(dd:Nat)(Q:Rd D D.heap.size 84 encWr Bd d.ws)(U:d.ws.length<=dd)(Al:Option Addr)(cl:Nat)(l:List Rz)(aG:Rd D D.heap.size 57 encRz Al l)(aW:d.ws.length<=90000000)(hN:md<=1000)(aX:l.length<=100000000)(aQ:∀ x ∈ d.ws,-1000000<=x.b/\x.b<=1000000) : Ret Tryz.prog 22 [.agg #[vi d.n,.slice Ad md cd,.slice Bd d.ws.length dd,vi d.t,vi d.r],.slice Al l.length cl] D (fun v w=>∃ A c B e,v=.tuple #[.agg #[vi (rlD d l).n,.slice A (rlD d l).ns.length c,.slice B (rlD d l).ws.length e,vi (rlD d l).t,vi (rlD d l).r],vi ((rlK d l:Nat) : Int),.bool (rlB d l)]/\Rd w w.heap.size 76 encNd A (rlD d l).ns/\Rd w w.heap.size 84 encWr B (rlD d l).ws/\(rlD d l).ws.length<=e/\Below D.heap.size D w):=by
 subst aF
 refine enter Tryz.func22 rfl 27 rfl rfl ?_;intro a q
 have i:=bz D
 refine Zs q fun _ aR=>?_;refine Zf (X0q (zs:=[vi d.n,.slice Ad d.ns.length cd,.slice Bd d.ws.length dd,vi d.t,vi d.r]) rfl rfl) ?_;rintro _ w1 ⟨b5,rfl,aS,j,k⟩;have aV:=Q0 i.size aS;have i:=btr i j;refine Zf (Xw (zs:=[vi 0,.slice none 0 0,.slice none 0 0,vi 0,vi 0]) X0e rfl) ?_;rintro _ w2 ⟨b8,rfl,aT,j,g⟩
 have aP:b5≠b8:=by have:=k.lt;omega
 have W:=Q0 i.size aT;have k:=k.bw j;have i:=btr i j;refine Za rfl<|Za rfl<|ZX aR fun a q _ aU=>?_;refine Q5 fun _ aH=>?_;refine X06 (fun a w=>Fr a 27 [(1,.slice Al l.length cl),(2,(pZ9 b5)),(4,(pZ9 b8)),(16,.bool ((!(goodD d))||(decide (60<(l.length:Int)))))]/\Below w2.heap.size w2 w) ?_ ?_
 ·have G:Below w2.heap.size w2 w2:=Below.refl _ _
  refine Zr q<|Ze (Vn X2 k)<|Zf (Vc (Xl2 _ d d.ns.length rfl Ad cd (N.bx i).top Bd dd (Q.bx i).top U (by omega) aQ) Xcq) ?_;rintro _ w3 ⟨rfl,j⟩;have i:=btr i j;have G:=btr G j;refine Ze (X0z rfl)<|Zm rfl ?_
  refine Zg 12 rfl (fun f=>?_) (fun f=>?_)
  ·(iterate 3 refine Zp (gP f) ?_);refine Ze (X5 rfl f rfl) ?_;refine Zn fun a q=>?_
   have a6:Below w2.heap.size w2 w3:=G
   exact ⟨q.sub ⟨rfl,rfl,rfl,X1 rfl (by first|rfl|(simp only [f,bs];done)|simp [f]),trivial⟩,a6⟩
  refine Zv (gW f) (X3 rfl) ?_;refine Zv (gW f) (X07 rfl X08) ?_;refine Zv (gW f) (X2o rfl rfl) ?_;refine Ze (X9 rfl f rfl) ?_;refine Zn fun a q=>?_
  have a6:Below w2.heap.size w2 w3:=G
  exact ⟨q.sub ⟨rfl,rfl,rfl,X1 rfl (by first|rfl|(simp only [f,bs];done)|simp [f]),trivial⟩,a6⟩
 rintro a w4 ⟨q,j⟩;have k:=k.bw j;have g:=g.bw j;have i:=btr i j;refine aH _ _ ?_
 refine Xf q rfl (fun u=>?_) (fun u=>?_)
 ·have a7:=u
  have a8:rlB d l=false:=Xlg u
  refine Zs q fun _ aI=>?_;refine Ze (X11 (ps:=[]) (cs:=[vi 0,.slice none 0 0,.slice none 0 0,vi 0,vi 0]) rfl (fun _=>by first|rfl|kernel_rfl))<|Zo (Vw [vi 0,.slice none 0 0,.slice none 0 0,vi 0,vi 0] Xd g) ?_;rintro _ w5 ⟨E,hb⟩;have o:=g;have i:=Below.oy i E W;have g:=hb;refine Za rfl<|Za rfl<|Zt aI fun a q=>?_;refine Q6<|X8<|X6 q (Xhd q rfl (ResV.cellN (l:=[vi 0,.slice none 0 0,.slice none 0 0,vi 0,vi 0]) rfl X2 (g.at 0) rfl) rfl rfl) ?_
  rw [(Xga a8).1,(Xga a8).2,a8]
  exact ⟨none,0,none,0,rfl,(Rd.nil _ _ _ _ _),(Rd.nil _ _ _ _ _),(Qf _),i⟩
 have a7:=u
 have H:rlB d l=true:=Xl9 u
 have hG:goodD d=true:=(Xe3 H).1
 have hD:=X1b hG;have aY:=hD.len;have aZ:=hD.m;refine Q7<|aU _ _<|Zs q fun _ aJ=>?_;refine Ze (Vn X2 k)<|Zm rfl<|Zf (Vc (Xsn _ d d.ns.length rfl Ad cd (N.bx i).top Bd dd (Q.bx i).top U Al cl l (aG.bx i).top hG (by omega)) Xiw) ?_;rintro _ w6 ⟨I,J,L,M,rfl,y,z,aK,j⟩;have k:=k.bw j;have g:=g.bw j;have i:=btr i j;refine Zm rfl<|Ze (Xn (vs:=[.agg #[vi ((rpD d l).n),.slice I ((rpD d l).ns).length J,.slice L ((rpD d l).ws).length M,vi ((rpD d l).t),vi ((rpD d l).r)],vi ((rpK d l:Nat) : Int)]) rfl rfl)<|Ze (Xn (vs:=[.agg #[vi ((rpD d l).n),.slice I ((rpD d l).ns).length J,.slice L ((rpD d l).ws).length M,vi ((rpD d l).t),vi ((rpD d l).r)],vi ((rpK d l:Nat) : Int)]) rfl rfl)<|Zf (Xw (zs:=[vi 0,.slice none 0 0,.slice none 0 0,vi 0,vi 0]) X0e rfl) ?_;rintro _ w7 ⟨b21,rfl,aL,j,C⟩
 have aM:b5≠b21:=by have:=k.lt;omega
 have aN:b8≠b21:=by have:=g.lt;omega
 have aA:=Q0 i.size aL;have g:=g.bw j;have y:=y.bw j;have z:=z.bw j;have i:=btr i j;refine Zo (Vw [vi ((rpD d l).n),.slice I ((rpD d l).ns).length J,.slice L ((rpD d l).ws).length M,vi ((rpD d l).t),vi ((rpD d l).r)] Xd C) ?_;rintro _ w8 ⟨E,hb⟩;have o:=C;have g:=g.oy E (by omega);have y:=y.oT E o rfl;have z:=z.oT E o rfl;have i:=Below.oy i E aA;have C:=hb;refine Za rfl<|Zx aJ fun a q _ aO=>?_;refine Ze (Vn X2 C)<|Zf (Vc (X7j _ (rpD d l) (((rpD d l).ns).length) rfl I J y.top L M z.top aK ⟨by have:=(X1b (X50 l hG)).m;omega,by have:=(X1b (X50 l hG)).len;omega⟩) X45) ?_;rintro _ w9 ⟨aB,aC,aD,aE,rfl,h,p,j⟩;have h:=h.lower i.size;have p:=p.lower i.size;have g:=g.bw j;have i:=btr i j;refine Zm rfl<|Zo (Vw [vi ((rpD d l).n),.slice aB ((rpD d l).ns).length aC,.slice aD ((rpD d l).ws).length aE,vi ((rpD d l).t),vi ((rpD d l).r)] Xd g) ?_;rintro _ b0 ⟨E,hb⟩;have o:=g;have h:=h.oT E o rfl;have p:=p.oT E o rfl;have i:=Below.oy i E W;have g:=hb;refine Za rfl<|Za rfl<|Zt aO fun a q=>?_
 refine Q6 (X6 q (Xhd q rfl (ResV.cellN (l:=[vi ((rpD d l).n),.slice aB ((rpD d l).ns).length aC,.slice aD ((rpD d l).ws).length aE,vi ((rpD d l).t),vi ((rpD d l).r)]) rfl X2 (g.at 0) rfl) rfl rfl) ?_)
 rw [(X57 H).1,(X57 H).2,H]
 exact ⟨aB,aC,aD,aE,rfl,h.rd.top,p.rd.top,p.cap,i⟩
theorem Xsh(G:World)(d:Dg)(md:Nat)(b3:md=d.ns.length)(Ad:Option Addr)(cd:Nat)(aF:Rd G G.heap.size 76 encNd Ad d.ns)(Bd:Option Addr)(dd:Nat)(aG:Rd G G.heap.size 84 encWr Bd d.ws)(y:d.ws.length<=dd)(x:Int)(hG:goodD d=true) : Ret Tryz.prog 67 [.agg #[vi d.n,.slice Ad md cd,.slice Bd d.ws.length dd,vi d.t,vi d.r],vi x,vi (-1)] G (fun v w=>∃ A c,v=.slice A (alL d x).length c/\Own w G.heap.size 57 3 encRz A c (alL d x)/\Below G.heap.size G w):=by
 subst b3
 have hD:=X1b hG;have cQ:=hD.m;have cR:=hD.len;refine enter Tryz.func67 rfl 61 rfl rfl ?_;intro a f
 have p:=bz G
 refine Zs f fun _ bW=>?_;refine Zf (X0q (zs:=[vi d.n,.slice Ad d.ns.length cd,.slice Bd d.ws.length dd,vi d.t,vi d.r]) rfl rfl) ?_;rintro _ w1 ⟨b4,rfl,bX,z,b⟩;have cK:=Q0 p.size bX;have p:=btr p z;refine Za rfl<|Zx bW fun a f _ bY=>?_;refine Zf (Xj (k:=0) (vs:=[]) (zs:=[]) rfl X08 X1g rfl rfl) ?_;rintro _ w2 ⟨b7,rfl,bZ,z,cA⟩;have b5:=Q0 p.size bZ;have b:=b.bw z;have p:=btr p z;refine Za rfl<|ZX bY fun a f _ cB=>?_;refine Zs f fun _ b6=>?_;refine Ze (Vd rfl Xc 1)<|Ze (X0 rfl Xv (b.at 1))<|Ze (X07 rfl Xm)<|Zm rfl<|Zt b6 fun a f=>?_;refine Q8<|X02 (σ:=Nat×(List Rz)) (fun (s:Nat×(List Rz)) (a:Act) (w:World)=>match s with|(k,m)=>∃ J L,Fr a 61 [(1,vi x),(2,vi (-1)),(3,(pZ9 b4)),(7,.slice J m.length L),(18,vi (d.ns.length:Int)),(19,vi (k:Int))]/\(k<=d.ns.length)/\(m=stA d x k)/\(m.length<=2000000*k)/\Blk w b4 31 [vi d.n,.slice Ad d.ns.length cd,.slice Bd d.ws.length dd,vi d.t,vi d.r]/\Own w G.heap.size 57 3 encRz J L m/\d.ws.length<=dd/\Below G.heap.size G w) (fun (s:Nat×(List Rz))=>match s with|(k,m)=>d.ns.length-k) (0,[]) ?_ ?_
 ·exact ⟨some ⟨b7,0,none⟩,0,f.sb,(Qf _),rfl,(by simp),b,(Own.empty cA b5),y,p⟩
 rintro ⟨k,m⟩ a w3 ⟨J,L,f,hk,hm,cS,b,B,y,p⟩;refine Zs f fun _ b8=>?_;refine Ze (X0i rfl rfl)<|ZX b8 fun a f _ b9=>?_
 refine Xf f rfl (fun C=>?_) (fun C=>?_)
 ·have E:=C;have C:=Q2 C
  obtain ⟨cT,cL⟩:=X4 (l:=d.ns) (k:=k) (by omega)
  have cU:k<d.ns.length:=by have:=C;omega
  have cV:=Xk1 hD x (k:Int);refine Q7<|b9 _ _<|Q5 fun _ bA=>?_;refine Q8<|Zs f fun _ bB=>?_;refine Zm rfl<|Za rfl<|Zx bB fun a f _ bC=>?_;refine Zf (Xj (k:=1) (vs:=[vi 0]) (zs:=[vi 0]) rfl Xk X1f rfl rfl) ?_;rintro _ w4 ⟨bD,rfl,bE,z,a7⟩;have cC:=Q0 p.size bE;have b:=b.bw z;have B:=B.bw z;have p:=btr p z;refine Za rfl<|ZX bC fun a f _ bF=>?_;refine Q5 fun _ bG=>?_;refine X06 (fun a w=>Fr a 61 [(1,vi x),(2,vi (-1)),(3,(pZ9 b4)),(7,.slice J m.length L),(8,vi (k:Int)),(9,.slice (some ⟨bD,0,none⟩) ([0]).length 1),(18,vi (d.ns.length:Int)),(19,vi (k:Int)),(28,.bool ((x==1)||(x==4)))]/\w4=w) ?_ ?_
  ·refine Zr f<|Zm rfl<|Ze (X0f rfl rfl)<|Zm rfl ?_
   refine Zg 25 rfl (fun h=>?_) (fun h=>?_)
   ·(iterate 2 refine Zp (gP h) ?_);refine Ze (X5 rfl h rfl) ?_;refine Zn fun a f=>?_;exact ⟨f.sub ⟨rfl,rfl,rfl,rfl,rfl,rfl,rfl,rfl,X1 rfl (by first|rfl|(simp only [E,h,bs];done)|simp [E,h]),trivial⟩,rfl⟩
   refine Zv (gW h) (X3 rfl) ?_;refine Zv (gW h) (X0f rfl rfl) ?_;refine Ze (X9 rfl h rfl) ?_;refine Zn fun a f=>?_;exact ⟨f.sub ⟨rfl,rfl,rfl,rfl,rfl,rfl,rfl,rfl,X1 rfl (by first|rfl|(simp only [E,h,bs];done)|simp [E,h]),trivial⟩,rfl⟩
  rintro a _ ⟨f,rfl⟩;refine bG _ _<|X06 (fun a w=>∃ a8 aK,Fr a 61 [(1,vi x),(2,vi (-1)),(3,(pZ9 b4)),(7,.slice J m.length L),(8,vi (k:Int)),(9,.slice a8 (secL d x k).length aK),(18,vi (d.ns.length:Int)),(19,vi (k:Int))]/\Blk w b4 31 [vi d.n,.slice Ad d.ns.length cd,.slice Bd d.ws.length dd,vi d.t,vi d.r]/\Own w G.heap.size 57 3 encRz J L m/\Rd w w.heap.size 3 encI a8 (secL d x k)/\d.ws.length<=dd/\Below G.heap.size G w) ?_ ?_
  ·refine Xf f rfl (fun M=>?_) (fun M=>?_)
   ·have aL:=M;have aA:=Xr9 (d:=d) (a:=(k:Int)) M;refine Zr f<|Ze (Vn X2 b)<|Zm rfl<|Zf (Vc (X7d _ d d.ns.length rfl Ad cd (aF.bx p).top Bd dd (aG.bx p).top y (k:Int) hD.w (by omega)) X43) ?_;rintro _ w5 ⟨cD,cE,rfl,Q,z⟩;have aZ:=Q.awayNew a7.lt;have Q:=Q.lower p.size;have b:=b.bw z;have B:=B.bw z;have p:=btr p z;refine Za rfl ?_;refine Zn fun a f=>?_
    rw [aA]
    refine Xe ?_;exact ⟨cD,cE,f.sb,b,B,Q.rd.top,y,p⟩
   have aL:=M;have aA:=Xqk (d:=d) (a:=(k:Int)) M;refine Q7 ?_
   rw [aA]
   refine Xe ?_;exact ⟨some ⟨bD,0,none⟩,1,f.sb,b,B,(Rd.of_blk a7 rfl _ a7.lt),y,p⟩
  rintro a w6 ⟨a8,aK,f,b,B,e,y,p⟩;refine bF _ _<|Zs f fun _ bH=>?_;refine Zm rfl<|Ze (X07 rfl Xk)<|Zm rfl<|Zt bH fun a f=>?_;refine Q8<|X02 (σ:=Nat×(List Rz)) (fun (s:Nat×(List Rz)) (a:Act) (w:World)=>match s with|(j,g)=>∃ aB aC,Fr a 61 [(1,vi x),(2,vi (-1)),(3,(pZ9 b4)),(7,.slice aB g.length aC),(8,vi (k:Int)),(18,vi (d.ns.length:Int)),(19,vi (k:Int)),(32,.slice a8 (secL d x k).length aK),(33,vi ((secL d x k).length:Int)),(34,vi (j:Int))]/\(j<=(secL d x k).length)/\(g=stA d x k++stR d x k ((secL d x k).take j))/\(g.length<=2000000*k+j)/\Blk w b4 31 [vi d.n,.slice Ad d.ns.length cd,.slice Bd d.ws.length dd,vi d.t,vi d.r]/\Own w G.heap.size 57 3 encRz aB aC g/\Rd w w6.heap.size 3 encI a8 (secL d x k)/\d.ws.length<=dd/\Below G.heap.size G w) (fun (s:Nat×(List Rz))=>match s with|(j,g)=>(secL d x k).length-j) (0,m) ?_ ?_
  ·exact ⟨J,L,f.sb,(Qf _),(by rw [hm];simp [stR]),(by omega),b,B,e,y,p⟩
  rintro ⟨j,g⟩ a w7 ⟨aB,aC,f,hj,hg,cW,b,i,e,y,p⟩;refine Zs f fun _ bI=>?_;refine Ze (X0i rfl rfl)<|ZX bI fun a f _ bJ=>?_
  refine Xf f rfl (fun D=>?_) (fun D=>?_)
  ·have aM:=D;have D:=Q2 D
   obtain ⟨cX,cM⟩:=X4 (l:=(secL d x k)) (k:=j) (by omega)
   obtain ⟨q,aN⟩:=X4 (l:=secL d x k) (k:=j) (by have:=D;omega)
   refine Q7<|bJ _ _<|Q5 fun _ aH=>?_;refine Q8<|Zs f fun _ bK=>?_;refine Zi (k:=j) (u:=q) (enc:=encI) (l:=(secL d x k)) tv0 rfl rfl Xk X0a Xh e aN rfl ?_;intro cY aO;refine Ze (X0 rfl Xa aO)<|Za rfl<|Zx bK fun a f _ bL=>?_;refine Zm rfl<|Zm rfl<|Zm rfl<|Ze (X11 (ps:=[(0,vi x),(1,vi (k:Int)),(2,vi q)]) (cs:=[vi x,vi (k:Int),vi q]) rfl (fun _=>by first|rfl|kernel_rfl))<|Zf (Xw (zs:=[vi 0,vi 0,vi 0]) X2m rfl) ?_;rintro _ w8 ⟨cF,rfl,aI,z,o⟩;have aP:=Q0 p.size aI;have H:=i.away aI;have b:=b.bw z;have i:=i.bw z;have e:=e.bw z;have p:=btr p z;refine Zo (Vw [vi x,vi (k:Int),vi q] X0v o) ?_;rintro _ w9 ⟨ho,hb⟩;have I:=o;have b:=b.oz ho I rfl;have i:=i.onlyA ho H;have e:=e.oT ho I rfl;have p:=Below.oy p ho aP;have o:=hb;refine ZX bL fun a f _ bM=>?_;refine Zs f fun _ bN=>?_;refine Zm rfl<|Ze (X07 rfl X08)<|Zm rfl<|Ze (X0f rfl rfl)<|Zt bN fun a f=>?_
   refine Xf f rfl (fun U=>?_) (fun U=>?_)
   ·have aQ:=U;have h8:=U;simp at h8
   have aQ:=U;refine Q7<|bM _ _<|Zs f fun _ bO=>?_;refine Ze (Vn X2 b)<|Ze (Vn X10 o)<|Zf (Vc (Xm2 _ d d.ns.length rfl Ad cd (aF.bx p).top Bd dd (aG.bx p).top y (⟨x,(k:Int),q⟩ : Rz) hG) Xc0) ?_;rintro _ cZ ⟨aR,aS,aT,aU,rfl,cN,cO,cP,z⟩;have b:=b.bw z;have o:=o.bw z;have i:=i.bw z;have e:=e.bw z;have p:=btr p z;refine Zm rfl<|Ze (Xn (vs:=[.agg #[vi ((if (apC d (⟨x,(k:Int),q⟩ : Rz))=true then apD d (⟨x,(k:Int),q⟩ : Rz) else zD).n),.slice aR ((if (apC d (⟨x,(k:Int),q⟩ : Rz))=true then apD d (⟨x,(k:Int),q⟩ : Rz) else zD).ns).length aS,.slice aT ((if (apC d (⟨x,(k:Int),q⟩ : Rz))=true then apD d (⟨x,(k:Int),q⟩ : Rz) else zD).ws).length aU,vi ((if (apC d (⟨x,(k:Int),q⟩ : Rz))=true then apD d (⟨x,(k:Int),q⟩ : Rz) else zD).t),vi ((if (apC d (⟨x,(k:Int),q⟩ : Rz))=true then apD d (⟨x,(k:Int),q⟩ : Rz) else zD).r)],.bool (apC d (⟨x,(k:Int),q⟩ : Rz))]) rfl rfl)<|Ze (Xn (vs:=[.agg #[vi ((if (apC d (⟨x,(k:Int),q⟩ : Rz))=true then apD d (⟨x,(k:Int),q⟩ : Rz) else zD).n),.slice aR ((if (apC d (⟨x,(k:Int),q⟩ : Rz))=true then apD d (⟨x,(k:Int),q⟩ : Rz) else zD).ns).length aS,.slice aT ((if (apC d (⟨x,(k:Int),q⟩ : Rz))=true then apD d (⟨x,(k:Int),q⟩ : Rz) else zD).ws).length aU,vi ((if (apC d (⟨x,(k:Int),q⟩ : Rz))=true then apD d (⟨x,(k:Int),q⟩ : Rz) else zD).t),vi ((if (apC d (⟨x,(k:Int),q⟩ : Rz))=true then apD d (⟨x,(k:Int),q⟩ : Rz) else zD).r)],.bool (apC d (⟨x,(k:Int),q⟩ : Rz))]) rfl rfl)<|Zf (Xw (zs:=[vi 0,.slice none 0 0,.slice none 0 0,vi 0,vi 0]) X0e rfl) ?_;rintro _ d5 ⟨b47,rfl,bP,z,aD⟩
   have bQ:b4≠b47:=by have:=b.lt;omega
   have aV:=Q0 p.size bP;have b:=b.bw z;have o:=o.bw z;have i:=i.bw z;have e:=e.bw z;have p:=btr p z;refine Zo (Vw [vi ((if (apC d (⟨x,(k:Int),q⟩ : Rz))=true then apD d (⟨x,(k:Int),q⟩ : Rz) else zD).n),.slice aR ((if (apC d (⟨x,(k:Int),q⟩ : Rz))=true then apD d (⟨x,(k:Int),q⟩ : Rz) else zD).ns).length aS,.slice aT ((if (apC d (⟨x,(k:Int),q⟩ : Rz))=true then apD d (⟨x,(k:Int),q⟩ : Rz) else zD).ws).length aU,vi ((if (apC d (⟨x,(k:Int),q⟩ : Rz))=true then apD d (⟨x,(k:Int),q⟩ : Rz) else zD).t),vi ((if (apC d (⟨x,(k:Int),q⟩ : Rz))=true then apD d (⟨x,(k:Int),q⟩ : Rz) else zD).r)] Xd aD) ?_;rintro _ d6 ⟨ho,hb⟩;have I:=aD;have b:=b.oy ho (by omega);have o:=o.oz ho I rfl;have i:=i.oT ho I rfl;have e:=e.oT ho I rfl;have p:=Below.oy p ho aV;have aD:=hb;refine Za rfl<|Zx bO fun a f _ bR=>?_;refine Zm rfl<|Zt bR fun a f=>?_
   refine Xf f rfl (fun N=>?_) (fun N=>?_)
   ·have aW:=N;have aX:=Xtt aN N;refine Zr f<|Zm rfl<|Ze (Vn X10 o)<|Zf (Xj (k:=1) (vs:=[.agg #[vi x,vi (k:Int),vi q]]) (zs:=[vi x,vi (k:Int),vi q]) rfl X08 X1g rfl rfl) ?_;rintro _ d7 ⟨b50,rfl,aJ,z,aE⟩
    have b0:cF≠b50:=by have:=o.lt;omega
    have cG:=Q0 p.size aJ;have a6:=i.away aJ;have b:=b.bw z;have o:=o.bw z;have i:=i.bw z;have e:=e.bw z;have p:=btr p z;refine Zf (X0k (enc:=encRz) (l:=(g)) (l2:=([(⟨x,(k:Int),q⟩ : Rz)])) (B0:=G.heap.size) rfl rfl X08 X1g X0p X2e i (Rd.of_blk aE rfl _ aE.lt) (by simp only [maxLen];simp;omega) (by simp;omega) p.size) ?_;rintro _ d8 ⟨cH,cI,rfl,bS,hg,aY⟩
    have W:Own _ G.heap.size 57 3 encRz _ _ (g):=i
    have b1:=aY _ o.lt H;have b2:=aY _ aE.lt a6;clear aY;have b:=b.appT W hg rfl;have e:=e.appT W hg rfl;have p:=Below.app p W hg (Qb _) p.size;clear W hg;refine Za rfl ?_;refine Zn fun a f=>?_;refine Xb<|aH _ _<|Zr f<|Ze (Xr rfl rfl (by omega) (by omega))<|Zm rfl ?_;refine Zn fun a f=>?_;refine Xe ?_;exact ⟨(j+1,g++([(⟨x,(k:Int),q⟩ : Rz)])),⟨cH,cI,f.sb,(by omega),(by rw [aX,hg];try rw [Qx]),(by first|omega|(rw [Qh,List.length_singleton];omega)),b,bS,e,y,p⟩,(by first|omega|(dsimp only;omega))⟩
   have aW:=N;have aX:=Xtr aN N;refine Q7<|Xb<|aH _ _<|Zr f ?_;refine Ze (Xr rfl rfl (by omega) (by omega))<|Zm rfl ?_;refine Zn fun a f=>?_;refine Xe ?_;exact ⟨(j+1,g),⟨aB,aC,f.sb,(by omega),(by rw [aX,hg];try rw [Qx]),(by first|omega|(rw [Qh,List.length_singleton];omega)),b,i,e,y,p⟩,(by first|omega|(dsimp only;omega))⟩
  have aM:=D;have D:=Q1 D
  have cJ:g=stA d x (k+1):=by rw [Xlc,hg,Qi (by have:=D;omega)]
  refine Q9<|Xl<|Xl<|X01 ?_;refine Xb<|bA _ _<|Zr f<|Ze (Xr rfl rfl (by omega) (by omega))<|Zm rfl ?_;refine Zn fun a f=>?_;refine Xe ?_;exact ⟨(k+1,g),⟨aB,aC,f.sb,(by omega),cJ,(by omega),b,i,y,p⟩,(by first|omega|(dsimp only;omega))⟩
 have E:=C;have C:=Q1 C
 have bT:alL d x=m:=by rw [<- Xnr hD,show d.ns.length=k by have:=C;omega,<- hm]
 refine Q9<|Xl<|Xl<|X01 ?_;refine cB _ _<|Zs f fun _ bU=>?_;refine Zm rfl<|Za rfl<|Zt bU fun a f=>?_
 refine Q6 (X6 f (Xs f rfl rfl) ?_)
 rw [bT]
 exact ⟨J,L,rfl,B,p⟩
theorem Xth(w0:World)(bV:Nat){b6:TypeId}(W:Option Addr)(aC:Nat)(E:List Int)(e:Rd w0 w0.heap.size b6 encU W E)(b7:∀ x ∈ E,0<=x/\x<=255)(aP:AwayR E W bV)(t:Nat)(sd:Int)(p:Blk w0 bV 64 [.slice W E.length aC,vi (t:Int),.int .u64 sd])(d:Dg)(md:Nat)(b8:md=d.ns.length)(Ad:Option Addr)(cd:Nat)(J:Rd w0 w0.heap.size 76 encNd Ad d.ns)(Bd:Option Addr)(dd:Nat)(L:Rd w0 w0.heap.size 84 encWr Bd d.ws)(b9:d.ws.length<=dd)(hD:InD d)(ht:t+170<=100000000) : Ret Tryz.prog 61 [(pZ9 bV),.agg #[vi d.n,.slice Ad md cd,.slice Bd d.ws.length dd,vi d.t,vi d.r]] w0 (fun v w=>∃ (l:List Rz) (A:Option Addr) (c:Nat) (t1:Nat) (s1:Int),v=.slice A l.length c/\(l.length<=6/\Own w w0.heap.size 57 3 encRz A c l)/\(t<=t1/\t1<=t+170)/\Kept bV w0.heap.size w0 w/\Blk w bV 64 [.slice W E.length aC,vi (t1:Int),.int .u64 s1]):=by
 have cE:=p.lt;have cF:=hD.m;refine enter Tryz.func61 rfl 32 rfl rfl ?_;intro a G
 have B:Kept bV w0.heap.size w0 w0:=Kept.refl _ _ _
 refine Zs G fun _ bU=>?_;refine Zf (X0q (zs:=[vi d.n,.slice Ad md cd,.slice Bd d.ws.length dd,vi d.t,vi d.r]) rfl rfl) ?_;rintro _ w1 ⟨b5,rfl,bA,z,i⟩;have aS:=Q0 B.size bA;have bT:=e.away bA;have p:=p.bw z;have e:=e.bw z;have J:=J.bw z;have L:=L.bw z;have B:=ktr B z;refine Za rfl<|Zx bU fun a G _ bW=>?_;refine Za rfl<|ZX bW fun a G _ bX=>?_;refine Zs G fun _ bB=>?_;refine Zm rfl<|Zf (Vc (X12 _ bV W aC E e.top b7 aP t sd p 6 (by omega)) X0d) ?_;rintro _ w2 ⟨bC,bD,bE,rfl,bY,bZ,hK,aD⟩;obtain ⟨wm,hO,hm,z⟩:=hK.mid;clear hm;have g:=p;have i:=i.oz hO g rfl;have e:=e.onlyA hO aP;have J:=J.oT hO g rfl;have L:=L.oT hO g rfl;have B:=B.self hO;have i:=i.bw z;have e:=e.bw z;have J:=J.bw z;have L:=L.bw z;have B:=ktr B z
 clear g z hO hK;have p:=aD;clear aD;refine Za rfl<|Zt bB fun a G=>?_;refine Q8<|X02 (σ:=Int×Dg×Nat×(List Rz)×Nat×Int) (fun (s:Int×Dg×Nat×(List Rz)×Nat×Int) (a:Act) (w:World)=>match s with|(j,o,mz,m,t2,s2)=>∃ aQ aR a7 aE a8 aA,Fr a 32 [(0,(pZ9 bV)),(3,(pZ9 b5)),(5,.slice aQ m.length aR),(6,vi j)]/\(0<=j/\j<=5)/\(InD o)/\(mz=o.ns.length)/\(m.length+j.toNat<=6)/\(t<=t2/\t2+32*j.toNat<=t+165)/\Blk w bV 64 [.slice W E.length aC,vi (t2:Int),.int .u64 s2]/\Blk w b5 31 [vi o.n,.slice a7 mz aE,.slice a8 o.ws.length aA,vi o.t,vi o.r]/\Own w w0.heap.size 57 3 encRz aQ aR m/\Rd w w0.heap.size b6 encU W E/\Rd w w.heap.size 76 encNd a7 o.ns/\Rd w w.heap.size 84 encWr a8 o.ws/\o.ws.length<=aA/\Kept bV w0.heap.size w0 w) (fun (s:Int×Dg×Nat×(List Rz)×Nat×Int)=>match s with|(j,o,mz,m,t2,s2)=>j.toNat) (bC,d,md,[],bD,bE) ?_ ?_
 ·exact ⟨none,0,Ad,cd,Bd,dd,G.sb,(by omega),hD,b8,(by simp;omega),(by omega),p,i,(Own.nil _ _ _ _ _),e,J.top,L.top,b9,B⟩
 rintro ⟨j,o,mz,m,t2,s2⟩ a w3 ⟨aQ,aR,a7,aE,a8,aA,G,hj,hI,aX,cG,cH,p,i,h,e,q,y,aY,B⟩;refine Q5 fun _ bF=>?_;refine Zs G fun _ bG=>?_;refine Zm rfl<|Ze (X2o rfl rfl)<|Zt bG fun a G=>?_
 refine Xf G rfl (fun M=>?_) (fun M=>?_)
 ·have aZ:=M;have M:=Q2 M;refine Q7<|bF _ _<|Q5 fun _ aT=>?_;refine Q8<|Zs G fun _ bH=>?_;refine Zm rfl<|Ze (Vn X2 i)<|Zf (Vc (Xso _ bV W aC E e.top b7 aP t2 s2 p o mz aX a7 aE q.top a8 aA y.top aY hI (by omega)) Xj1) ?_;rintro _ w4 ⟨f,aU,aV,rfl,cA,cB,hK,aD⟩;obtain ⟨wm,hO,hm,z⟩:=hK.mid;clear hm;have g:=p;have i:=i.oz hO g rfl;have h:=h.oT hO g rfl;have e:=e.onlyA hO aP;have q:=q.oT hO g rfl;have y:=y.oT hO g rfl;have B:=B.self hO;have i:=i.bw z;have h:=h.bw z;have e:=e.bw z;have q:=q.bw z;have y:=y.bw z;have B:=ktr B z
  clear g z hO hK;have p:=aD;clear aD;refine Zf (Xw (zs:=[vi 0,vi 0,vi 0]) X2m rfl) ?_;rintro _ w5 ⟨cC,rfl,aF,z,C⟩;have aG:=Q0 B.size aF;have H:=h.away aF;have bI:=e.away aF;have p:=p.bw z;have i:=i.bw z;have h:=h.bw z;have e:=e.bw z;have q:=q.bw z;have y:=y.bw z;have B:=ktr B z;refine Zo (Vw [vi f.u,vi f.a,vi f.b] X0v C) ?_;rintro _ w6 ⟨I,hb⟩;have g:=C;have p:=p.oz I g rfl;have i:=i.oz I g rfl;have h:=h.onlyA I H;have e:=e.oy I aG;have q:=q.oT I g rfl;have y:=y.oT I g rfl;have B:=Kept.oy B I aG;have C:=hb;refine Zx bH fun a G _ bJ=>?_;refine Zm rfl<|Ze (Vn X10 C)<|Zf (Xj (k:=1) (vs:=[.agg #[vi f.u,vi f.a,vi f.b]]) (zs:=[vi f.u,vi f.a,vi f.b]) rfl X08 X1g rfl rfl) ?_;rintro _ w7 ⟨b21,rfl,aH,z,aI⟩
  have b2:cC≠b21:=by have:=C.lt;omega
  have cD:=Q0 B.size aH;have aB:=h.away aH;have bK:=e.away aH;have p:=p.bw z;have i:=i.bw z;have C:=C.bw z;have h:=h.bw z;have e:=e.bw z;have q:=q.bw z;have y:=y.bw z;have B:=ktr B z;refine Zf (X0k (enc:=encRz) (l:=(m)) (l2:=([f])) (B0:=w0.heap.size) rfl rfl X08 X1g X0p X2e h (Rd.of_blk aI rfl _ aI.lt) (by simp only [maxLen];simp;omega) (by simp;omega) B.size) ?_;rintro _ w8 ⟨bL,bM,rfl,D,hg,b0⟩
  have N:Own _ w0.heap.size 57 3 encRz _ _ (m):=h
  have b3:=b0 _ C.lt H;have b4:=b0 _ aI.lt aB;clear b0;have p:=p.appT N hg rfl;have i:=i.appT N hg rfl;have C:=C.appA hg H;have e:=e.appB N hg (Qb _);have q:=q.appT N hg rfl;have y:=y.appT N hg rfl;have B:=Kept.app B N hg (Qb _) B.size;clear N hg;refine Za rfl<|Zx bJ fun a G _ bN=>?_;refine Ze (Vn X2 i)<|Ze (Vn X10 C)<|Zf (Vc (Xhi _ o mz aX a7 aE q.top a8 aA y.top aY f hI) X8v) ?_;rintro _ w9 ⟨aJ,aK,aL,aM,rfl,Q,U,bO,z⟩;have p:=p.bw z;have i:=i.bw z;have e:=e.bw z;have q:=q.bw z;have y:=y.bw z;have D:=D.bw z;have B:=ktr B z;refine Zm rfl<|Ze (Xn (vs:=[.agg #[vi ((if (apC o f)=true then apD o f else zD).n),.slice aJ ((if (apC o f)=true then apD o f else zD).ns).length aK,.slice aL ((if (apC o f)=true then apD o f else zD).ws).length aM,vi ((if (apC o f)=true then apD o f else zD).t),vi ((if (apC o f)=true then apD o f else zD).r)],.bool (apC o f)]) rfl rfl)<|Ze (Xn (vs:=[.agg #[vi ((if (apC o f)=true then apD o f else zD).n),.slice aJ ((if (apC o f)=true then apD o f else zD).ns).length aK,.slice aL ((if (apC o f)=true then apD o f else zD).ws).length aM,vi ((if (apC o f)=true then apD o f else zD).t),vi ((if (apC o f)=true then apD o f else zD).r)],.bool (apC o f)]) rfl rfl)<|Zf (Xw (zs:=[vi 0,.slice none 0 0,.slice none 0 0,vi 0,vi 0]) X0e rfl) ?_;rintro _ cI ⟨b29,rfl,aW,z,a6⟩
  have bP:b5≠b29:=by have:=i.lt;omega
  have aN:=Q0 B.size aW;have bQ:=e.away aW;have p:=p.bw z;have i:=i.bw z;have e:=e.bw z;have q:=q.bw z;have y:=y.bw z;have D:=D.bw z;have Q:=Q.bw z;have U:=U.bw z;have B:=ktr B z;refine Zo (Vw [vi ((if (apC o f)=true then apD o f else zD).n),.slice aJ ((if (apC o f)=true then apD o f else zD).ns).length aK,.slice aL ((if (apC o f)=true then apD o f else zD).ws).length aM,vi ((if (apC o f)=true then apD o f else zD).t),vi ((if (apC o f)=true then apD o f else zD).r)] Xd a6) ?_;rintro _ cJ ⟨I,hb⟩;have g:=a6;have p:=p.oz I g rfl;have i:=i.oy I (by omega);have e:=e.oy I aN;have q:=q.oT I g rfl;have y:=y.oT I g rfl;have D:=D.oT I g rfl;have Q:=Q.oT I g rfl;have U:=U.oT I g rfl;have B:=Kept.oy B I aN;have a6:=hb;refine Za rfl<|Zx bN fun a G _ bR=>?_;refine Zm rfl<|Zt bR fun a G=>?_
  refine Xf G rfl (fun aO=>?_) (fun aO=>?_)
  ·have b1:=aO;refine Zr G<|Ze (Vn X2 a6)<|Zo (Vw [vi ((if (apC o f)=true then apD o f else zD).n),.slice aJ ((if (apC o f)=true then apD o f else zD).ns).length aK,.slice aL ((if (apC o f)=true then apD o f else zD).ws).length aM,vi ((if (apC o f)=true then apD o f else zD).t),vi ((if (apC o f)=true then apD o f else zD).r)] Xd i) ?_;rintro _ cK ⟨I,hb⟩;have g:=i;have p:=p.oz I g rfl;have e:=e.oy I aS;have D:=D.oT I g rfl;have Q:=Q.oT I g rfl;have U:=U.oT I g rfl;have B:=Kept.oy B I aS;have i:=hb;refine Zn fun a G=>?_;refine Xb<|aT _ _<|Zr G<|Zm rfl<|Ze (X1d rfl rfl (by omega) (by omega))<|Za rfl ?_;refine Zn fun a G=>?_;refine Xe ?_;exact ⟨(j-1,(if (apC o f)=true then apD o f else zD),((if (apC o f)=true then apD o f else zD).ns).length,m++([f]),aU,aV),⟨bL,bM,aJ,aK,aL,aM,G.sb,(by omega),Xti,rfl,(by first|omega|(rw [Qh,List.length_singleton];omega)),(by omega),p,i,D,e,Q.top,U.top,bO,B⟩,(by first|omega|(dsimp only;omega))⟩
  have b1:=aO;refine Q7<|Xb<|aT _ _<|Zr G ?_;refine Zm rfl<|Ze (X1d rfl rfl (by omega) (by omega))<|Za rfl ?_;refine Zn fun a G=>?_;refine Xe ?_;exact ⟨(j-1,o,mz,m++([f]),aU,aV),⟨bL,bM,a7,aE,a8,aA,G.sb,(by omega),hI,aX,(by first|omega|(rw [Qh,List.length_singleton];omega)),(by omega),p,i,D,e,q.top,y.top,aY,B⟩,(by first|omega|(dsimp only;omega))⟩
 have aZ:=M;have M:=Q1 M;refine Q9<|Xl<|Xl<|X01 ?_;refine bX _ _<|Zs G fun _ bS=>?_;refine Zm rfl<|Za rfl<|Zt bS fun a G=>?_
 refine Q6 (X6 G (Xs G rfl rfl) ?_)
 exact ⟨m,aQ,aR,_,_,rfl,⟨(by omega),h⟩,⟨by omega,by omega⟩,B,p⟩
theorem Xmq(w0:World){dA:TypeId}(a7:Option Addr)(a8:Nat)(N:List Int)(G:Rd w0 w0.heap.size dA encU a7 N)(aN:∀ x ∈ N,0<=x/\x<=255) : Ret Tryz.prog 20 [.slice a7 N.length a8] w0 (fun v w=>∃ (d:Dg) (A:Option Addr) (c1:Nat) (B:Option Addr) (e:Nat) (l:List Rz) (P:Option Addr) (q:Nat),v=.tuple #[.agg #[vi d.n,.slice A d.ns.length c1,.slice B d.ws.length e,vi d.t,vi d.r],.slice P l.length q]/\(d.ns.length<=1000/\d.ws.length<=2000000/\(∀ x ∈ d.ws,-1000000<=x.b/\x.b<=1000000)/\l.length<=61)/\Rd w w.heap.size 76 encNd A d.ns/\Rd w w.heap.size 84 encWr B d.ws/\d.ws.length<=e/\Rd w w.heap.size 57 encRz P l/\l.length<=q/\Below w0.heap.size w0 w):=by
 refine enter Tryz.func20 rfl 40 rfl rfl ?_;intro a J
 have D:=bz w0
 refine Zs J fun _ dB=>?_;refine Zf (Xw (zs:=[vi 0,.slice none 0 0,.slice none 0 0,vi 0,vi 0]) X0e rfl) ?_;rintro _ w1 ⟨b5,rfl,bW,E,g⟩;have aQ:=Q0 D.size bW;have d9:=(G.bx D).away bW;have D:=btr D E;refine Za rfl<|Zx dB fun a J _ dC=>?_;refine Zm rfl<|Ze (X11 (ps:=[(0,.slice a7 N.length a8)]) (cs:=[.slice a7 N.length a8,vi 0,.int .u64 0]) rfl (fun _=>by first|rfl|kernel_rfl))<|Zf (X0q (zs:=[.slice a7 N.length a8,vi 0,.int .u64 0]) rfl rfl) ?_;rintro _ w2 ⟨b9,rfl,bX,E,h⟩;have aA:=Q0 D.size bX;have U:=(G.bx D).away bX;have g:=g.bw E;have D:=btr D E;refine Za rfl<|Zx dC fun a J _ bY=>?_;refine Zm rfl<|Zf (Vc (Xmh _ b9 a7 a8 N (G.bx D).top aN U 0 0 h (by omega)) Xbx) ?_;rintro _ w3 ⟨z,aB,aC,aD,aE,bZ,cA,rfl,Q,dD,j,i,hK,L⟩;have aP:=D.size;have aP:=D.size;obtain ⟨wm,H,hm,E⟩:=hK.mid;clear hm;have c:=h;have g:=g.oz H c rfl;have D:=Below.oy D H aA;have g:=g.bw E;have D:=btr D E
 clear c E H hK;have h:=L;clear L
 have j:=j.lower aP;clear aP
 have i:=i.lower aP;clear aP;refine Zf (Xw (zs:=[vi 0,.slice none 0 0,.slice none 0 0,vi 0,vi 0]) X0e rfl) ?_;rintro _ w4 ⟨b15,rfl,b3,E,f⟩
 have cB:b5≠b15:=by have:=g.lt;omega
 have aR:=Q0 D.size b3;have cC:=(G.bx D).away b3;have g:=g.bw E;have h:=h.bw E;have j:=j.bw E;have i:=i.bw E;have D:=btr D E;refine Zo (Vw [vi z.n,.slice aB z.ns.length aC,.slice aD z.ws.length aE,vi z.t,vi z.r] Xd f) ?_;rintro _ w5 ⟨ho,hb⟩;have c:=f;have g:=g.oy ho (by omega);have h:=h.oz ho c rfl;have j:=j.oT ho c rfl;have i:=i.oT ho c rfl;have D:=Below.oy D ho aR;have f:=hb;refine Zx bY fun a J _ cD=>?_;refine Zm rfl<|Ze (Vn X2 f)<|Zf (Vc (Xth _ b9 a7 a8 N (G.bx D).top aN U bZ cA h z z.ns.length rfl aB aC j.rd.top aD aE i.rd.top i.cap Q.1 (by omega)) Xib) ?_;rintro _ w6 ⟨b4,b6,b7,cE,cF,rfl,⟨dE,o⟩,dF,hK,L⟩;have aP:=D.size;obtain ⟨wm,H,hm,E⟩:=hK.mid;clear hm;have c:=h;have g:=g.oz H c rfl;have f:=f.oz H c rfl;have j:=j.oT H c rfl;have i:=i.oT H c rfl;have D:=Below.oy D H aA;have g:=g.bw E;have f:=f.bw E;have j:=j.bw E;have i:=i.bw E;have D:=btr D E
 clear c E H hK;have h:=L;clear L
 have o:=o.lower aP;clear aP;refine Za rfl<|ZX cD fun a J _ b8=>?_;refine Zs J fun _ cG=>?_;refine Zm rfl<|Zf (Vc (Xde _ b9 a7 a8 N (G.bx D).top aN U cE cF h 12 (by omega)) X6g) ?_;rintro _ w7 ⟨dK,bA,bB,rfl,dG,dH,hK,L⟩;obtain ⟨wm,H,hm,E⟩:=hK.mid;clear hm;have c:=h;have g:=g.oz H c rfl;have f:=f.oz H c rfl;have j:=j.oT H c rfl;have i:=i.oT H c rfl;have o:=o.oT H c rfl;have D:=Below.oy D H aA;have g:=g.bw E;have f:=f.bw E;have j:=j.bw E;have i:=i.bw E;have o:=o.bw E;have D:=btr D E
 clear c E H hK;have h:=L;clear L;refine Zt cG fun a J=>?_
 refine Xf J rfl (fun aS=>?_) (fun aS=>?_)
 ·have bE:=aS;refine Zr J<|Zm rfl<|Zf (Vc (Xsg _ b9 a7 a8 N (G.bx D).top aN U bA bB h (by omega)) Xkh) ?_;rintro _ w8 ⟨C,aF,aJ,aG,aH,cH,cI,rfl,aO,dI,p,y,aK,hK,L⟩;obtain ⟨wm,H,hm,E⟩:=hK.mid;clear hm;have c:=h;have g:=g.oz H c rfl;have f:=f.oz H c rfl;have o:=o.oT H c rfl;have D:=Below.oy D H aA;have g:=g.bw E;have f:=f.bw E;have o:=o.bw E;have D:=btr D E
  clear c E H hK;have h:=L;clear L;refine Zo (Vw [vi C.n,.slice aF C.ns.length aJ,.slice aG C.ws.length aH,vi C.t,vi C.r] Xd f) ?_;rintro _ w9 ⟨ho,hb⟩;have c:=f;have g:=g.oy ho (by omega);have h:=h.oz ho c rfl;have o:=o.oT ho c rfl;have p:=p.oT ho c rfl;have y:=y.oT ho c rfl;have D:=Below.oy D ho aR;have f:=hb;refine ZX b8 fun a J _ bC=>?_;refine Zs J fun _ cJ=>?_;refine Zm rfl<|Zf (Vc (Xde _ b9 a7 a8 N (G.bx D).top aN U cH cI h 16 (by omega)) X6g) ?_;rintro _ dL ⟨cK,aT,aU,rfl,bF,bG,hK,L⟩;obtain ⟨wm,H,hm,E⟩:=hK.mid;clear hm;have c:=h;have g:=g.oz H c rfl;have f:=f.oz H c rfl;have o:=o.oT H c rfl;have p:=p.oT H c rfl;have y:=y.oT H c rfl;have D:=Below.oy D H aA;have g:=g.bw E;have f:=f.bw E;have o:=o.bw E;have p:=p.bw E;have y:=y.bw E;have D:=btr D E
  clear c E H hK;have h:=L;clear L;refine Zt cJ fun a J=>?_
  refine Xf J rfl (fun aV=>?_) (fun aV=>?_)
  ·have bH:=aV;refine Zs J fun _ cL=>?_;refine Zm rfl<|Zf (Vc (X12 _ b9 a7 a8 N (G.bx D).top aN U aT aU h 2 (by omega)) X0d) ?_;rintro _ dM ⟨I,aW,aX,rfl,bI,bJ,hK,L⟩;obtain ⟨wm,H,hm,E⟩:=hK.mid;clear hm;have c:=h;have g:=g.oz H c rfl;have f:=f.oz H c rfl;have o:=o.oT H c rfl;have p:=p.oT H c rfl;have y:=y.oT H c rfl;have D:=Below.oy D H aA;have g:=g.bw E;have f:=f.bw E;have o:=o.bw E;have p:=p.bw E;have y:=y.bw E;have D:=btr D E
   clear c E H hK;have h:=L;clear L;refine Ze (Xbw (k:=((60+I.toNat:Nat) : Int)) rfl rfl (by omega) (by omega) (by omega))<|Zf (X4u (m:=(60+I.toNat:Nat)) (enc:=encRz) (z0:=rwZ) rfl rfl X08 X1g X2m rfl X0p (by omega) (by omega)) ?_;rintro _ dN ⟨bK,rfl,aY,E,W⟩;have bL:=Q0 D.size aY;have cM:=(G.bx D).away aY;have bT:=o.away aY;have g:=g.bw E;have h:=h.bw E;have f:=f.bw E;have p:=p.bw E;have y:=y.bw E;have D:=btr D E;refine Za rfl<|Zx cL fun a J _ cN=>?_;refine Zm rfl<|Ze (X07 rfl X08)<|Zm rfl<|Zt cN fun a J=>?_;refine Q8<|X02 (σ:=Nat×(List Rz)×Nat×Int) (fun (s:Nat×(List Rz)×Nat×Int) (a:Act) (w:World)=>match s with|(k,M,t2,s2)=>Fr a 40 [(2,(pZ9 b5)),(4,(pZ9 b9)),(5,(pZ9 b15)),(6,.slice (some ⟨bK,0,none⟩) (60+I.toNat:Nat) (60+I.toNat:Nat)),(27,vi ((60+I.toNat:Nat) : Int)),(28,vi (k:Int))]/\(k<=60+I.toNat)/\(M.length=60+I.toNat)/\(t2<=1000+2*k)/\Blk w b5 31 [vi 0,.slice none 0 0,.slice none 0 0,vi 0,vi 0]/\Blk w b9 64 [.slice a7 N.length a8,vi (t2:Int),.int .u64 s2]/\Blk w b15 31 [vi C.n,.slice aF C.ns.length aJ,.slice aG C.ws.length aH,vi C.t,vi C.r]/\Blk w bK 57 (M.flatMap encRz)/\Rd w w8.heap.size 76 encNd aF C.ns/\Rd w w8.heap.size 84 encWr aG C.ws/\C.ws.length<=aH/\Below w0.heap.size w0 w) (fun (s:Nat×(List Rz)×Nat×Int)=>match s with|(k,M,t2,s2)=>60+I.toNat-k) (0,List.replicate (60+I.toNat) rwZ,aW,aX) ?_ ?_
   ·exact ⟨J.sb,(Qf _),(by simp),(by omega),g,h,f,W,p,y,aK,D⟩
   rintro ⟨k,M,t2,s2⟩ a dO ⟨J,hk,hM,dJ,g,h,f,W,p,y,aK,D⟩;refine Zs J fun _ cO=>?_;refine Ze (X0i rfl rfl)<|ZX cO fun a J _ cP=>?_
   refine Xf J rfl (fun aL=>?_) (fun aL=>?_)
   ·have bM:=aL;have aL:=Q2 aL;refine Q7<|cP _ _<|Q5 fun _ cQ=>?_;refine Q8<|Zs J fun _ cR=>?_;refine Zm rfl<|Za rfl<|Zt cR fun a J=>?_;refine Zr J<|Zm rfl<|Zm rfl<|Zm rfl<|Zf (Vc (X12 _ b9 a7 a8 N (G.bx D).top aN U t2 s2 h 3 (by omega)) X0d) ?_;rintro _ dP ⟨aI,aZ,b0,rfl,bN,bO,hK,L⟩;obtain ⟨wm,H,hm,E⟩:=hK.mid;clear hm;have c:=h;have g:=g.oz H c rfl;have f:=f.oz H c rfl;have W:=W.oz H c rfl;have p:=p.oT H c rfl;have y:=y.oT H c rfl;have D:=Below.oy D H aA;have g:=g.bw E;have f:=f.bw E;have W:=W.bw E;have p:=p.bw E;have y:=y.bw E;have D:=btr D E
    clear c E H hK;have h:=L;clear L;refine Ze (X11 (ps:=[(0,vi 5),(1,vi aI)]) (cs:=[vi 5,vi aI,vi 0]) rfl (fun _=>by first|rfl|kernel_rfl))<|Ze (Xbt (k:=k) (off:=k*3) rfl rfl X08 X0v rfl (by omega) rfl)<|Zo (Xcl (enc:=encRz) (l:=M) (u:=(⟨5,aI,0⟩ : Rz)) (k:=k) rfl rfl X0v W X0p X2e rfl (by omega)) ?_;rintro _ dQ ⟨ho,hb⟩;have c:=W;have g:=g.oz ho c rfl;have h:=h.oz ho c rfl;have f:=f.oz ho c rfl;have p:=p.oT ho c rfl;have y:=y.oT ho c rfl;have D:=Below.oy D ho bL;have W:=hb;refine Zn fun a J=>?_;refine Xb<|cQ _ _<|Zr J<|Ze (Xr rfl rfl (by omega) (by omega))<|Zm rfl ?_;refine Zn fun a J=>?_;refine Xe ?_;exact ⟨(k+1,(M.set k (⟨5,aI,0⟩ : Rz)),aZ,b0),⟨J.sb,(by omega),(by rw [List.length_set];exact hM),(by omega),g,h,f,W,p,y,aK,D⟩,(by first|omega|(dsimp only;omega))⟩
   have bM:=aL;have aL:=Q1 aL;refine Q9<|Xl<|Xl<|X01 ?_;refine bC _ _<|Zs J fun _ cS=>?_;refine Ze (Vn X2 f)<|Zm rfl<|Zo (Vw [vi C.n,.slice aF C.ns.length aJ,.slice aG C.ws.length aH,vi C.t,vi C.r] Xd g) ?_;rintro _ dR ⟨ho,hb⟩;have c:=g;have W:=W.oz ho c rfl;have p:=p.oT ho c rfl;have y:=y.oT ho c rfl;have D:=Below.oy D ho aQ;have g:=hb;refine Za rfl<|Zt cS fun a J=>?_
   refine Q6 (X6 J (X1h J rfl (ResV.cellN (l:=[vi C.n,.slice aF C.ns.length aJ,.slice aG C.ws.length aH,vi C.t,vi C.r]) rfl X2 (g.at 0) rfl) rfl) ?_)
   exact ⟨C,aF,aJ,aG,aH,M,(some ⟨bK,0,none⟩),(60+I.toNat:Nat),(by rw [hM]),by first|exact ⟨Q.1.m,Q0 Q.1.len (by decide),Xan Q.1,by omega⟩|exact ⟨by omega,by omega,aO.2.2.1,by omega⟩,p.top,y.top,aK,(Rd.of_blk W rfl _ W.lt).top,(by omega),D⟩
  have bH:=aV;refine Q7<|bC _ _<|Zs J fun _ cT=>?_;refine Ze (Vn X2 f)<|Zm rfl<|Zo (Vw [vi C.n,.slice aF C.ns.length aJ,.slice aG C.ws.length aH,vi C.t,vi C.r] Xd g) ?_;rintro _ dS ⟨ho,hb⟩;have c:=g;have o:=o.oT ho c rfl;have p:=p.oT ho c rfl;have y:=y.oT ho c rfl;have D:=Below.oy D ho aQ;have g:=hb;refine Za rfl<|Zt cT fun a J=>?_
  refine Q6 (X6 J (X1h J rfl (ResV.cellN (l:=[vi C.n,.slice aF C.ns.length aJ,.slice aG C.ws.length aH,vi C.t,vi C.r]) rfl X2 (g.at 0) rfl) rfl) ?_)
  exact ⟨C,aF,aJ,aG,aH,b4,b6,b7,rfl,by first|exact ⟨Q.1.m,Q0 Q.1.len (by decide),Xan Q.1,by omega⟩|exact ⟨by omega,by omega,aO.2.2.1,by omega⟩,p.top,y.top,aK,o.rd.top,o.cap,D⟩
 have bE:=aS;refine Q7<|b8 _ _<|Q5 fun _ bD=>?_;refine Zs J fun _ cU=>?_;refine Zm rfl<|Zf (Vc (Xde _ b9 a7 a8 N (G.bx D).top aN U bA bB h 16 (by omega)) X6g) ?_;rintro _ dT ⟨cK,aT,aU,rfl,bF,bG,hK,L⟩;obtain ⟨wm,H,hm,E⟩:=hK.mid;clear hm;have c:=h;have g:=g.oz H c rfl;have f:=f.oz H c rfl;have j:=j.oT H c rfl;have i:=i.oT H c rfl;have o:=o.oT H c rfl;have D:=Below.oy D H aA;have g:=g.bw E;have f:=f.bw E;have j:=j.bw E;have i:=i.bw E;have o:=o.bw E;have D:=btr D E
 clear c E H hK;have h:=L;clear L;refine Zt cU fun a J=>?_
 refine Xf J rfl (fun b1=>?_) (fun b1=>?_)
 ·have bP:=b1;refine Zs J fun _ cV=>?_;refine Zm rfl<|Zf (Vc (X12 _ b9 a7 a8 N (G.bx D).top aN U aT aU h 2 (by omega)) X0d) ?_;rintro _ dU ⟨I,aW,aX,rfl,bI,bJ,hK,L⟩;obtain ⟨wm,H,hm,E⟩:=hK.mid;clear hm;have c:=h;have g:=g.oz H c rfl;have f:=f.oz H c rfl;have j:=j.oT H c rfl;have i:=i.oT H c rfl;have o:=o.oT H c rfl;have D:=Below.oy D H aA;have g:=g.bw E;have f:=f.bw E;have j:=j.bw E;have i:=i.bw E;have o:=o.bw E;have D:=btr D E
  clear c E H hK;have h:=L;clear L;refine Ze (Xbw (k:=((60+I.toNat:Nat) : Int)) rfl rfl (by omega) (by omega) (by omega))<|Zf (X4u (m:=(60+I.toNat:Nat)) (enc:=encRz) (z0:=rwZ) rfl rfl X08 X1g X2m rfl X0p (by omega) (by omega)) ?_;rintro _ dV ⟨bQ,rfl,b2,E,a6⟩;have bR:=Q0 D.size b2;have cW:=(G.bx D).away b2;have bU:=o.away b2;have g:=g.bw E;have h:=h.bw E;have f:=f.bw E;have j:=j.bw E;have i:=i.bw E;have D:=btr D E;refine Za rfl<|Zx cV fun a J _ cX=>?_;refine Zm rfl<|Ze (X07 rfl X08)<|Zm rfl<|Zt cX fun a J=>?_;refine Q8<|X02 (σ:=Nat×(List Rz)×Nat×Int) (fun (s:Nat×(List Rz)×Nat×Int) (a:Act) (w:World)=>match s with|(k,M,t2,s2)=>Fr a 40 [(2,(pZ9 b5)),(4,(pZ9 b9)),(5,(pZ9 b15)),(6,.slice (some ⟨bQ,0,none⟩) (60+I.toNat:Nat) (60+I.toNat:Nat)),(27,vi ((60+I.toNat:Nat) : Int)),(28,vi (k:Int))]/\(k<=60+I.toNat)/\(M.length=60+I.toNat)/\(t2<=1000+2*k)/\Blk w b5 31 [vi 0,.slice none 0 0,.slice none 0 0,vi 0,vi 0]/\Blk w b9 64 [.slice a7 N.length a8,vi (t2:Int),.int .u64 s2]/\Blk w b15 31 [vi z.n,.slice aB z.ns.length aC,.slice aD z.ws.length aE,vi z.t,vi z.r]/\Blk w bQ 57 (M.flatMap encRz)/\Own w w0.heap.size 76 2 encNd aB aC z.ns/\Own w w0.heap.size 84 3 encWr aD aE z.ws/\Below w0.heap.size w0 w) (fun (s:Nat×(List Rz)×Nat×Int)=>match s with|(k,M,t2,s2)=>60+I.toNat-k) (0,List.replicate (60+I.toNat) rwZ,aW,aX) ?_ ?_
  ·exact ⟨J.sb,(Qf _),(by simp),(by omega),g,h,f,a6,j,i,D⟩
  rintro ⟨k,M,t2,s2⟩ a dW ⟨J,hk,hM,dJ,g,h,f,a6,j,i,D⟩;refine Zs J fun _ cY=>?_;refine Ze (X0i rfl rfl)<|ZX cY fun a J _ cZ=>?_
  refine Xf J rfl (fun aM=>?_) (fun aM=>?_)
  ·have bS:=aM;have aM:=Q2 aM;refine Q7<|cZ _ _<|Q5 fun _ d5=>?_;refine Q8<|Zs J fun _ d6=>?_;refine Zm rfl<|Za rfl<|Zt d6 fun a J=>?_;refine Zr J<|Zm rfl<|Zm rfl<|Zm rfl<|Zf (Vc (X12 _ b9 a7 a8 N (G.bx D).top aN U t2 s2 h 3 (by omega)) X0d) ?_;rintro _ dX ⟨aI,aZ,b0,rfl,bN,bO,hK,L⟩;obtain ⟨wm,H,hm,E⟩:=hK.mid;clear hm;have c:=h;have g:=g.oz H c rfl;have f:=f.oz H c rfl;have a6:=a6.oz H c rfl;have j:=j.oT H c rfl;have i:=i.oT H c rfl;have D:=Below.oy D H aA;have g:=g.bw E;have f:=f.bw E;have a6:=a6.bw E;have j:=j.bw E;have i:=i.bw E;have D:=btr D E
   clear c E H hK;have h:=L;clear L;refine Ze (X11 (ps:=[(0,vi 5),(1,vi aI)]) (cs:=[vi 5,vi aI,vi 0]) rfl (fun _=>by first|rfl|kernel_rfl))<|Ze (Xbt (k:=k) (off:=k*3) rfl rfl X08 X0v rfl (by omega) rfl)<|Zo (Xcl (enc:=encRz) (l:=M) (u:=(⟨5,aI,0⟩ : Rz)) (k:=k) rfl rfl X0v a6 X0p X2e rfl (by omega)) ?_;rintro _ dY ⟨ho,hb⟩;have c:=a6;have g:=g.oz ho c rfl;have h:=h.oz ho c rfl;have f:=f.oz ho c rfl;have j:=j.oT ho c rfl;have i:=i.oT ho c rfl;have D:=Below.oy D ho bR;have a6:=hb;refine Zn fun a J=>?_;refine Xb<|d5 _ _<|Zr J<|Ze (Xr rfl rfl (by omega) (by omega))<|Zm rfl ?_;refine Zn fun a J=>?_;refine Xe ?_;exact ⟨(k+1,(M.set k (⟨5,aI,0⟩ : Rz)),aZ,b0),⟨J.sb,(by omega),(by rw [List.length_set];exact hM),(by omega),g,h,f,a6,j,i,D⟩,(by first|omega|(dsimp only;omega))⟩
  have bS:=aM;have aM:=Q1 aM;refine Q9<|Xl<|Xl<|X01 ?_;refine bD _ _<|Zs J fun _ d7=>?_;refine Ze (Vn X2 f)<|Zm rfl<|Zo (Vw [vi z.n,.slice aB z.ns.length aC,.slice aD z.ws.length aE,vi z.t,vi z.r] Xd g) ?_;rintro _ dZ ⟨ho,hb⟩;have c:=g;have a6:=a6.oz ho c rfl;have j:=j.oT ho c rfl;have i:=i.oT ho c rfl;have D:=Below.oy D ho aQ;have g:=hb;refine Za rfl<|Zt d7 fun a J=>?_
  refine Q6 (X6 J (X1h J rfl (ResV.cellN (l:=[vi z.n,.slice aB z.ns.length aC,.slice aD z.ws.length aE,vi z.t,vi z.r]) rfl X2 (g.at 0) rfl) rfl) ?_)
  exact ⟨z,aB,aC,aD,aE,M,(some ⟨bQ,0,none⟩),(60+I.toNat:Nat),(by rw [hM]),by first|exact ⟨Q.1.m,Q0 Q.1.len (by decide),Xan Q.1,by omega⟩|exact ⟨by omega,by omega,aO.2.2.1,by omega⟩,j.rd.top,i.rd.top,i.cap,(Rd.of_blk a6 rfl _ a6.lt).top,(by omega),D⟩
 have bP:=b1;refine Q7<|bD _ _<|Zs J fun _ d8=>?_;refine Ze (Vn X2 f)<|Zm rfl<|Zo (Vw [vi z.n,.slice aB z.ns.length aC,.slice aD z.ws.length aE,vi z.t,vi z.r] Xd g) ?_;rintro _ e8 ⟨ho,hb⟩;have c:=g;have j:=j.oT ho c rfl;have i:=i.oT ho c rfl;have o:=o.oT ho c rfl;have D:=Below.oy D ho aQ;have g:=hb;refine Za rfl<|Zt d8 fun a J=>?_
 refine Q6 (X6 J (X1h J rfl (ResV.cellN (l:=[vi z.n,.slice aB z.ns.length aC,.slice aD z.ws.length aE,vi z.t,vi z.r]) rfl X2 (g.at 0) rfl) rfl) ?_)
 exact ⟨z,aB,aC,aD,aE,b4,b6,b7,rfl,by first|exact ⟨Q.1.m,Q0 Q.1.len (by decide),Xan Q.1,by omega⟩|exact ⟨by omega,by omega,aO.2.2.1,by omega⟩,j.rd.top,i.rd.top,i.cap,o.rd.top,o.cap,D⟩
theorem Xt2(w0:World){aK:TypeId}(a6:Option Addr)(aG:Nat)(e:List Int)(c:Rd w0 w0.heap.size aK encU a6 e)(aL:∀ x ∈ e,0<=x/\x<=255) : Ret Tryz.prog 24 [.slice a6 e.length aG] w0 (fun v w=>∃ (l:List Rz) (P:Option Addr) (q:Nat),v=.slice P l.length q/\l.length<=61/\Rd w w.heap.size 57 encRz P l/\Below w0.heap.size w0 w):=by
 refine enter Tryz.func24 rfl 11 rfl rfl ?_;intro a hf
 have g:=bz w0
 refine Zs hf fun _ aM=>?_;refine Za rfl<|Zx aM fun a hf _ aN=>?_;refine Zm rfl<|Zf (Vc (Xmq _ a6 aG e (c.bx g).top aL) Xcr) ?_;rintro _ w1 ⟨b,a7,a8,aA,aB,aC,aD,aE,rfl,aP,aQ,aR,aS,d,aO,hE⟩;have g:=btr g hE;refine Zm rfl<|Ze (Xn (vs:=[.agg #[vi b.n,.slice a7 b.ns.length a8,.slice aA b.ws.length aB,vi b.t,vi b.r],.slice aD aC.length aE]) rfl rfl)<|Ze (Xn (vs:=[.agg #[vi b.n,.slice a7 b.ns.length a8,.slice aA b.ws.length aB,vi b.t,vi b.r],.slice aD aC.length aE]) rfl rfl)<|Zf (Xw (zs:=[vi 0,.slice none 0 0,.slice none 0 0,vi 0,vi 0]) X0e rfl) ?_;rintro _ w2 ⟨aT,rfl,i,hE,f⟩;have aF:=Q0 g.size i;have aH:=(c.bx g).away i;have d:=d.bw hE;have g:=btr g hE;refine Zo (Vw [vi b.n,.slice a7 b.ns.length a8,.slice aA b.ws.length aB,vi b.t,vi b.r] Xd f) ?_;rintro _ w3 ⟨ho,hb⟩;have aI:=f;have d:=d.oT ho aI rfl;have g:=Below.oy g ho aF;have f:=hb;refine Za rfl<|Zx aN fun a hf _ aJ=>?_;refine Zm rfl<|Za rfl<|Zt aJ fun a hf=>?_
 refine Q6 (X6 hf (Xs hf rfl rfl) ?_)
 exact ⟨aC,aD,aE,rfl,(by omega),d.top,g⟩
theorem Xs4(g:World)(d:Dg)(md:Nat)(p:md=d.ns.length)(Ad:Option Addr)(cd:Nat)(u:Rd g g.heap.size 76 encNd Ad d.ns)(Bd:Option Addr)(dd:Nat)(y:Rd g g.heap.size 84 encWr Bd d.ws)(z:d.ws.length<=dd)(x:Int)(hG:goodD d=true)(hx:1<=x/\x<=5) : Ret Tryz.prog 23 [.agg #[vi d.n,.slice Ad md cd,.slice Bd d.ws.length dd,vi d.t,vi d.r],vi x] g (fun v w=>∃ P q,v=.tuple #[.slice P (alL d x).length q,.bool true]/\Own w g.heap.size 57 3 encRz P q (alL d x)/\Below g.heap.size g w):=by
 have hD:=X1b hG;have aJ:=hD.len;have aK:=hD.m
 have aA:ivD d=true:=by rw [X6a];exact hG
 have aB:inR x 1 5=true:=X0t.2 hx
 refine enter Tryz.func23 rfl 17 rfl rfl ?_;intro a e
 have c:=bz g
 refine Zs e fun _ aC=>?_;refine Zf (X0q (zs:=[vi d.n,.slice Ad md cd,.slice Bd d.ws.length dd,vi d.t,vi d.r]) rfl rfl) ?_;rintro _ w1 ⟨b4,rfl,aD,i,j⟩;have aI:=Q0 c.size aD;have c:=btr c i;refine Za rfl<|Za rfl<|ZX aC fun a e _ aE=>?_;refine Q5 fun _ aF=>?_;refine X06 (fun a w=>Fr a 17 [(1,vi x),(2,(pZ9 b4)),(13,.bool ((!(ivD d))||(!(inR x 1 5))))]/\Below w1.heap.size w1 w) ?_ ?_
 ·have k:Below w1.heap.size w1 w1:=Below.refl _ _
  refine Zr e<|Ze (Vn X2 j)<|Zf (Vc (Xfy _ d md p Ad cd (u.bx c).top Bd dd (y.bx c).top z (by omega)) X86) ?_;rintro _ w2 ⟨rfl,i⟩;have c:=btr c i;have k:=btr k i;refine Ze (X0z rfl)<|Zm rfl ?_
  refine Zg 9 rfl (fun b=>?_) (fun b=>?_)
  ·(iterate 3 refine Zp (gP b) ?_);refine Ze (X5 rfl b rfl) ?_;refine Zn fun a e=>?_
   have a6:Below w1.heap.size w1 w2:=k
   exact ⟨e.sub ⟨rfl,rfl,X1 rfl (by first|rfl|(simp only [b,bs];done)|simp [b]),trivial⟩,a6⟩
  refine Zv (gW b) (X3 rfl) ?_;refine Zk (gW b) (Vc (F91 _ x 1 5) X3w) ?_;rintro _ _ ⟨rfl,rfl⟩;refine Zv (gW b) (X0z rfl) ?_;refine Ze (X9 rfl b rfl) ?_;refine Zn fun a e=>?_
  have a6:Below w1.heap.size w1 w2:=k
  exact ⟨e.sub ⟨rfl,rfl,X1 rfl (by first|rfl|(simp only [b,bs];done)|simp [b]),trivial⟩,a6⟩
 rintro a w3 ⟨e,i⟩;have j:=j.bw i;have c:=btr c i;refine aF _ _ ?_
 refine Xf e rfl (fun o=>?_) (fun o=>?_)
 ·have a7:=o;exact absurd o (by rw [aA,aB];decide)
 have a7:=o;refine Q7<|aE _ _<|Zs e fun _ a8=>?_;refine Ze (Vn X2 j)<|Zm rfl<|Zf (X16 (vs:=[.agg #[vi d.n,.slice Ad md cd,.slice Bd d.ws.length dd,vi d.t,vi d.r],vi x,vi (-1)]) rfl Xii (Xsh _ d md p Ad cd (u.bx c).top Bd dd (y.bx c).top z x hG)) ?_;rintro _ w4 ⟨aG,aH,rfl,f,i⟩;have f:=f.lower c.size;have c:=btr c i;refine Za rfl<|Za rfl<|Zt a8 fun a e=>?_
 refine Q6 (X6 e (X1h e rfl rfl rfl) ?_)
 exact ⟨aG,aH,rfl,f,c⟩
end Go.Proofs.YtipiejccbmifnaaGreatDoor
namespace Go.Proofs
open Go.Shelf
def Tryz.lays156_ren:Go.Shelf.Ren:=⟨fun|156=>49|165=>105|166=>106|169=>107|240=>145|241=>146|276=>193|277=>194|n=>n,fun|31=>100|9=>9|3=>3|4=>4|0=>0|20=>20|72=>158|76=>161|70=>156|37=>22|75=>160|127=>191|164=>217|5=>5|80=>163|n=>n,fun|n=>n⟩
theorem Tryz.lays156:Go.Proofs.Lays.n156 Tryz.prog Tryz.lays156_ren:={
  mixed:=by kernel_rfl
  f156:=Tryz.func49.trans (congrArg some (by kernel_rfl))
  f165:=Tryz.func105.trans (congrArg some (by kernel_rfl))
  f166:=Tryz.func106.trans (congrArg some (by kernel_rfl))
  f169:=Tryz.func107.trans (congrArg some (by kernel_rfl))
  f240:=Tryz.func145.trans (congrArg some (by kernel_rfl))
  f241:=Tryz.func146.trans (congrArg some (by kernel_rfl))
  f276:=Tryz.func193.trans (congrArg some (by kernel_rfl))
  f277:=Tryz.func194.trans (congrArg some (by kernel_rfl))
  t0:=Tryz.underlying0
  a0:=Tryz.isAgg0
  z0:=Tryz.sizeOf0
  v0:=Tryz.zeroValue0
  t3:=Tryz.underlying3
  a3:=Tryz.isAgg3
  z3:=Tryz.sizeOf3
  v3:=Tryz.zeroValue3
  t4:=Tryz.underlying4
  a4:=Tryz.isAgg4
  z4:=Tryz.sizeOf4
  v4:=Tryz.zeroValue4
  t9:=Tryz.underlying9
  a9:=Tryz.isAgg9
  z9:=Tryz.sizeOf9
  v9:=Tryz.zeroValue9
  t20:=Tryz.underlying20
  a20:=Tryz.isAgg20
  z20:=Tryz.sizeOf20
  v20:=Tryz.zeroValue20
  t31:=Tryz.underlying100
  a31:=Tryz.isAgg100
  z31:=Tryz.sizeOf100
  v31:=Tryz.zeroValue100
  t37:=Tryz.underlying22
  a37:=Tryz.isAgg22
  z37:=Tryz.sizeOf22
  v37:=Tryz.zeroValue22
  t70:=Tryz.underlying156
  a70:=Tryz.isAgg156
  z70:=Tryz.sizeOf156
  v70:=Tryz.zeroValue156
  t72:=Tryz.underlying158
  a72:=Tryz.isAgg158
  z72:=Tryz.sizeOf158
  v72:=Tryz.zeroValue158
  t75:=Tryz.underlying160
  a75:=Tryz.isAgg160
  z75:=Tryz.sizeOf160
  v75:=Tryz.zeroValue160
  t76:=Tryz.underlying161
  a76:=Tryz.isAgg161
  z76:=Tryz.sizeOf161
  v76:=Tryz.zeroValue161
  t127:=Tryz.underlying191
  a127:=Tryz.isAgg191
  z127:=Tryz.sizeOf191
  v127:=Tryz.zeroValue191
  t164:=Tryz.underlying217
  a164:=Tryz.isAgg217
  z164:=Tryz.sizeOf217
  v164:=Tryz.zeroValue217 }
theorem Tryz.Builder_Extra_156:Builder.Extra Tryz.prog Tryz.lays156_ren:={
  sizeBuilder:=by kernel_rfl
  liesBuilder:=by kernel_rfl
  t5:=Tryz.underlying5
  a5:=Tryz.isAgg5
  z5:=Tryz.sizeOf5
  v5:=Tryz.zeroValue5
  infoByte:=by kernel_rfl
  cellsByte:=by kernel_rfl
  sizeByte:=by kernel_rfl
  neB5:=by decide }
open Go.RowKit in
theorem Tryz.strings_Join_none(a:Option Addr)(c:Nat)(sep:ByteArray)(w:World) :
    Calls Tryz.prog 49 #[.slice a 0 c,.string sep] w fun e w'=>e=.returned (.string ⟨#[]⟩)/\w'=w:=Any.strings_Join_none Tryz.lays156 Tryz.Builder_Extra_156 a c sep w
open Go.RowKit in
theorem Tryz.strings_Join(bk o c:Nat)(xs:List ByteArray)(sep:ByteArray)(w:World)(hcells:∀ (j:Nat) x,xs[j]? = some x->w.cell? ⟨bk,o+j,none⟩=some (.string x))(hbk:bk<w.heap.size)(hN:xs.length<=140737488355328)(hcap:xs.length<=c)(hlen:(Lib.join (xs.map (·.data.toList)) sep.data.toList).length<=140737488355328) :
    Calls Tryz.prog 49 #[.slice (some ⟨bk,o,none⟩) xs.length c,.string sep] w fun e w'=>e=.returned (.string ⟨(Lib.join (xs.map (·.data.toList)) sep.data.toList).toArray⟩)/\Below w.heap.size w w':=Any.strings_Join Tryz.lays156 Tryz.Builder_Extra_156 bk o c xs sep w hcells hbk hN hcap hlen
def Tryz.lays172_ren:Go.Shelf.Ren:=⟨fun|172=>109|244=>150|245=>151|247=>199|279=>200|280=>201|281=>202|282=>203|287=>245|316=>246|171=>46|205=>247|321=>286|322=>287|243=>104|246=>144|283=>189|284=>190|285=>191|286=>192|129=>234|317=>237|318=>238|319=>239|320=>240|337=>283|338=>284|n=>n,fun|9=>9|3=>3|75=>160|76=>161|4=>4|5=>5|167=>223|37=>22|0=>0|85=>224|2=>2|168=>226|53=>62|175=>252|46=>99|210=>256|127=>191|145=>289|143=>287|21=>21|171=>212|173=>215|212=>250|51=>248|20=>20|213=>251|232=>296|233=>297|80=>163|n=>n,fun|15=>3|16=>4|17=>1|18=>7|19=>8|n=>n⟩
theorem Tryz.lays172:Go.Proofs.Lays.n172 Tryz.prog Tryz.lays172_ren:={
  mixed:=by kernel_rfl
  f129:=Tryz.func234.trans (congrArg some (by kernel_rfl))
  f171:=Tryz.func46.trans (congrArg some (by kernel_rfl))
  f172:=Tryz.func109.trans (congrArg some (by kernel_rfl))
  f205:=Tryz.func247.trans (congrArg some (by kernel_rfl))
  f243:=Tryz.func104.trans (congrArg some (by kernel_rfl))
  f244:=Tryz.func150.trans (congrArg some (by kernel_rfl))
  f245:=Tryz.func151.trans (congrArg some (by kernel_rfl))
  f246:=Tryz.func144.trans (congrArg some (by kernel_rfl))
  f247:=Tryz.func199.trans (congrArg some (by kernel_rfl))
  f279:=Tryz.func200.trans (congrArg some (by kernel_rfl))
  f280:=Tryz.func201.trans (congrArg some (by kernel_rfl))
  f281:=Tryz.func202.trans (congrArg some (by kernel_rfl))
  f282:=Tryz.func203.trans (congrArg some (by kernel_rfl))
  f283:=Tryz.func189.trans (congrArg some (by kernel_rfl))
  f284:=Tryz.func190.trans (congrArg some (by kernel_rfl))
  f285:=Tryz.func191.trans (congrArg some (by kernel_rfl))
  f286:=Tryz.func192.trans (congrArg some (by kernel_rfl))
  f287:=Tryz.func245.trans (congrArg some (by kernel_rfl))
  f316:=Tryz.func246.trans (congrArg some (by kernel_rfl))
  f317:=Tryz.func237.trans (congrArg some (by kernel_rfl))
  f318:=Tryz.func238.trans (congrArg some (by kernel_rfl))
  f319:=Tryz.func239.trans (congrArg some (by kernel_rfl))
  f320:=Tryz.func240.trans (congrArg some (by kernel_rfl))
  f321:=Tryz.func286.trans (congrArg some (by kernel_rfl))
  f322:=Tryz.func287.trans (congrArg some (by kernel_rfl))
  f337:=Tryz.func283.trans (congrArg some (by kernel_rfl))
  f338:=Tryz.func284.trans (congrArg some (by kernel_rfl))
  t0:=Tryz.underlying0
  a0:=Tryz.isAgg0
  z0:=Tryz.sizeOf0
  v0:=Tryz.zeroValue0
  t2:=Tryz.underlying2
  a2:=Tryz.isAgg2
  z2:=Tryz.sizeOf2
  v2:=Tryz.zeroValue2
  t3:=Tryz.underlying3
  a3:=Tryz.isAgg3
  z3:=Tryz.sizeOf3
  v3:=Tryz.zeroValue3
  t4:=Tryz.underlying4
  a4:=Tryz.isAgg4
  z4:=Tryz.sizeOf4
  v4:=Tryz.zeroValue4
  t5:=Tryz.underlying5
  a5:=Tryz.isAgg5
  z5:=Tryz.sizeOf5
  v5:=Tryz.zeroValue5
  t9:=Tryz.underlying9
  a9:=Tryz.isAgg9
  z9:=Tryz.sizeOf9
  v9:=Tryz.zeroValue9
  t20:=Tryz.underlying20
  a20:=Tryz.isAgg20
  z20:=Tryz.sizeOf20
  v20:=Tryz.zeroValue20
  t21:=Tryz.underlying21
  a21:=Tryz.isAgg21
  z21:=Tryz.sizeOf21
  v21:=Tryz.zeroValue21
  t37:=Tryz.underlying22
  a37:=Tryz.isAgg22
  z37:=Tryz.sizeOf22
  v37:=Tryz.zeroValue22
  t46:=Tryz.underlying99
  a46:=Tryz.isAgg99
  z46:=Tryz.sizeOf99
  v46:=Tryz.zeroValue99
  t51:=Tryz.underlying248
  a51:=Tryz.isAgg248
  z51:=Tryz.sizeOf248
  v51:=Tryz.zeroValue248
  t53:=Tryz.underlying62
  a53:=Tryz.isAgg62
  z53:=Tryz.sizeOf62
  v53:=Tryz.zeroValue62
  t75:=Tryz.underlying160
  a75:=Tryz.isAgg160
  z75:=Tryz.sizeOf160
  v75:=Tryz.zeroValue160
  t76:=Tryz.underlying161
  a76:=Tryz.isAgg161
  z76:=Tryz.sizeOf161
  v76:=Tryz.zeroValue161
  t85:=Tryz.underlying224
  a85:=Tryz.isAgg224
  z85:=Tryz.sizeOf224
  v85:=Tryz.zeroValue224
  t127:=Tryz.underlying191
  a127:=Tryz.isAgg191
  z127:=Tryz.sizeOf191
  v127:=Tryz.zeroValue191
  t143:=Tryz.underlying287
  a143:=Tryz.isAgg287
  z143:=Tryz.sizeOf287
  v143:=Tryz.zeroValue287
  t145:=Tryz.underlying289
  a145:=Tryz.isAgg289
  z145:=Tryz.sizeOf289
  v145:=Tryz.zeroValue289
  t167:=Tryz.underlying223
  a167:=Tryz.isAgg223
  z167:=Tryz.sizeOf223
  v167:=Tryz.zeroValue223
  t168:=Tryz.underlying226
  a168:=Tryz.isAgg226
  z168:=Tryz.sizeOf226
  v168:=Tryz.zeroValue226
  t171:=Tryz.underlying212
  a171:=Tryz.isAgg212
  z171:=Tryz.sizeOf212
  v171:=Tryz.zeroValue212
  t173:=Tryz.underlying215
  a173:=Tryz.isAgg215
  z173:=Tryz.sizeOf215
  v173:=Tryz.zeroValue215
  t175:=Tryz.underlying252
  a175:=Tryz.isAgg252
  z175:=Tryz.sizeOf252
  v175:=Tryz.zeroValue252
  t210:=Tryz.underlying256
  a210:=Tryz.isAgg256
  z210:=Tryz.sizeOf256
  v210:=Tryz.zeroValue256
  t212:=Tryz.underlying250
  a212:=Tryz.isAgg250
  z212:=Tryz.sizeOf250
  v212:=Tryz.zeroValue250
  t213:=Tryz.underlying251
  a213:=Tryz.isAgg251
  z213:=Tryz.sizeOf251
  t232:=Tryz.underlying296
  a232:=Tryz.isAgg296
  z232:=Tryz.sizeOf296
  v232:=Tryz.zeroValue296
  t233:=Tryz.underlying297
  a233:=Tryz.isAgg297
  z233:=Tryz.sizeOf297
  v233:=Tryz.zeroValue297
  g15:=by kernel_rfl
  g16:=by kernel_rfl
  g17:=by kernel_rfl
  g18:=by kernel_rfl
  g19:=by kernel_rfl }
open Go.RowKit in
theorem Tryz.strconv_Atoi(s:ByteArray)(n:Int)(hl:s.size<=18)(h:Lib.atoi s.data.toList=some n)(w:World) :
    Calls Tryz.prog 109 #[.string s] w fun e w'=>e=.returned (.tuple #[.int .i64 n,.nilIface])/\∃ t,w'=Lib.bytesWorld w 5 t:=Any.strconv_Atoi Tryz.lays172 s n hl h w
def Tryz.lays171_ren:Go.Shelf.Ren:=⟨fun|171=>46|243=>104|246=>144|283=>189|284=>190|285=>191|286=>192|129=>234|317=>237|318=>238|319=>239|320=>240|337=>283|338=>284|n=>n,fun|3=>3|9=>9|2=>2|4=>4|171=>212|0=>0|53=>62|37=>22|5=>5|173=>215|212=>250|51=>248|20=>20|213=>251|46=>99|232=>296|233=>297|n=>n,fun|17=>1|18=>7|19=>8|n=>n⟩
theorem Tryz.lays171:Go.Proofs.Lays.n171 Tryz.prog Tryz.lays171_ren:={
  mixed:=by kernel_rfl
  f129:=Tryz.func234.trans (congrArg some (by kernel_rfl))
  f171:=Tryz.func46.trans (congrArg some (by kernel_rfl))
  f243:=Tryz.func104.trans (congrArg some (by kernel_rfl))
  f246:=Tryz.func144.trans (congrArg some (by kernel_rfl))
  f283:=Tryz.func189.trans (congrArg some (by kernel_rfl))
  f284:=Tryz.func190.trans (congrArg some (by kernel_rfl))
  f285:=Tryz.func191.trans (congrArg some (by kernel_rfl))
  f286:=Tryz.func192.trans (congrArg some (by kernel_rfl))
  f317:=Tryz.func237.trans (congrArg some (by kernel_rfl))
  f318:=Tryz.func238.trans (congrArg some (by kernel_rfl))
  f319:=Tryz.func239.trans (congrArg some (by kernel_rfl))
  f320:=Tryz.func240.trans (congrArg some (by kernel_rfl))
  f337:=Tryz.func283.trans (congrArg some (by kernel_rfl))
  f338:=Tryz.func284.trans (congrArg some (by kernel_rfl))
  t0:=Tryz.underlying0
  a0:=Tryz.isAgg0
  z0:=Tryz.sizeOf0
  v0:=Tryz.zeroValue0
  t2:=Tryz.underlying2
  a2:=Tryz.isAgg2
  z2:=Tryz.sizeOf2
  v2:=Tryz.zeroValue2
  t3:=Tryz.underlying3
  a3:=Tryz.isAgg3
  z3:=Tryz.sizeOf3
  v3:=Tryz.zeroValue3
  t4:=Tryz.underlying4
  a4:=Tryz.isAgg4
  z4:=Tryz.sizeOf4
  v4:=Tryz.zeroValue4
  t5:=Tryz.underlying5
  a5:=Tryz.isAgg5
  z5:=Tryz.sizeOf5
  v5:=Tryz.zeroValue5
  t9:=Tryz.underlying9
  a9:=Tryz.isAgg9
  z9:=Tryz.sizeOf9
  v9:=Tryz.zeroValue9
  t20:=Tryz.underlying20
  a20:=Tryz.isAgg20
  z20:=Tryz.sizeOf20
  v20:=Tryz.zeroValue20
  t37:=Tryz.underlying22
  a37:=Tryz.isAgg22
  z37:=Tryz.sizeOf22
  v37:=Tryz.zeroValue22
  t46:=Tryz.underlying99
  a46:=Tryz.isAgg99
  z46:=Tryz.sizeOf99
  v46:=Tryz.zeroValue99
  t51:=Tryz.underlying248
  a51:=Tryz.isAgg248
  z51:=Tryz.sizeOf248
  v51:=Tryz.zeroValue248
  t53:=Tryz.underlying62
  a53:=Tryz.isAgg62
  z53:=Tryz.sizeOf62
  v53:=Tryz.zeroValue62
  t171:=Tryz.underlying212
  a171:=Tryz.isAgg212
  z171:=Tryz.sizeOf212
  v171:=Tryz.zeroValue212
  t173:=Tryz.underlying215
  a173:=Tryz.isAgg215
  z173:=Tryz.sizeOf215
  v173:=Tryz.zeroValue215
  t212:=Tryz.underlying250
  a212:=Tryz.isAgg250
  z212:=Tryz.sizeOf250
  v212:=Tryz.zeroValue250
  t213:=Tryz.underlying251
  a213:=Tryz.isAgg251
  z213:=Tryz.sizeOf251
  t232:=Tryz.underlying296
  a232:=Tryz.isAgg296
  z232:=Tryz.sizeOf296
  v232:=Tryz.zeroValue296
  t233:=Tryz.underlying297
  a233:=Tryz.isAgg297
  z233:=Tryz.sizeOf297
  v233:=Tryz.zeroValue297
  g17:=by kernel_rfl
  g18:=by kernel_rfl
  g19:=by kernel_rfl }
open Go.RowKit Go.Sort Go.Lib in
theorem Tryz.strconv_Itoa_small(i:Nat)(hi:i<100)(w:World) :
    Calls Tryz.prog 46 #[.int .i64 i] w fun e w'=>e=.returned (.string ⟨(Lib.decDigits i).toArray⟩)/\w'=w:=Any.strconv_Itoa_small Tryz.lays171 i hi w
def Tryz.lays146_ren:Go.Shelf.Ren:=⟨fun|146=>50|221=>108|268=>147|138=>148|143=>149|195=>195|197=>196|218=>197|219=>198|260=>241|217=>152|225=>242|224=>243|267=>244|266=>204|314=>285|n=>n,fun|9=>9|31=>100|3=>3|4=>4|0=>0|105=>221|21=>21|5=>5|46=>99|119=>279|139=>282|138=>281|146=>283|51=>248|n=>n,fun|1=>2|3=>5|4=>6|n=>n⟩
theorem Tryz.lays146:Go.Proofs.Lays.n146 Tryz.prog Tryz.lays146_ren:={
  mixed:=by kernel_rfl
  f138:=Tryz.func148.trans (congrArg some (by kernel_rfl))
  f143:=Tryz.func149.trans (congrArg some (by kernel_rfl))
  f146:=Tryz.func50.trans (congrArg some (by kernel_rfl))
  f195:=Tryz.func195.trans (congrArg some (by kernel_rfl))
  f197:=Tryz.func196.trans (congrArg some (by kernel_rfl))
  f217:=Tryz.func152.trans (congrArg some (by kernel_rfl))
  f218:=Tryz.func197.trans (congrArg some (by kernel_rfl))
  f219:=Tryz.func198.trans (congrArg some (by kernel_rfl))
  f221:=Tryz.func108.trans (congrArg some (by kernel_rfl))
  f224:=Tryz.func243.trans (congrArg some (by kernel_rfl))
  f225:=Tryz.func242.trans (congrArg some (by kernel_rfl))
  f260:=Tryz.func241.trans (congrArg some (by kernel_rfl))
  f266:=Tryz.func204.trans (congrArg some (by kernel_rfl))
  f267:=Tryz.func244.trans (congrArg some (by kernel_rfl))
  f268:=Tryz.func147.trans (congrArg some (by kernel_rfl))
  f314:=Tryz.func285.trans (congrArg some (by kernel_rfl))
  t0:=Tryz.underlying0
  a0:=Tryz.isAgg0
  z0:=Tryz.sizeOf0
  v0:=Tryz.zeroValue0
  t3:=Tryz.underlying3
  a3:=Tryz.isAgg3
  z3:=Tryz.sizeOf3
  v3:=Tryz.zeroValue3
  t4:=Tryz.underlying4
  a4:=Tryz.isAgg4
  z4:=Tryz.sizeOf4
  v4:=Tryz.zeroValue4
  t5:=Tryz.underlying5
  a5:=Tryz.isAgg5
  z5:=Tryz.sizeOf5
  v5:=Tryz.zeroValue5
  t9:=Tryz.underlying9
  a9:=Tryz.isAgg9
  z9:=Tryz.sizeOf9
  v9:=Tryz.zeroValue9
  t21:=Tryz.underlying21
  a21:=Tryz.isAgg21
  z21:=Tryz.sizeOf21
  v21:=Tryz.zeroValue21
  t31:=Tryz.underlying100
  a31:=Tryz.isAgg100
  z31:=Tryz.sizeOf100
  v31:=Tryz.zeroValue100
  t46:=Tryz.underlying99
  a46:=Tryz.isAgg99
  z46:=Tryz.sizeOf99
  v46:=Tryz.zeroValue99
  t51:=Tryz.underlying248
  a51:=Tryz.isAgg248
  z51:=Tryz.sizeOf248
  v51:=Tryz.zeroValue248
  t105:=Tryz.underlying221
  a105:=Tryz.isAgg221
  z105:=Tryz.sizeOf221
  v105:=Tryz.zeroValue221
  t119:=Tryz.underlying279
  a119:=Tryz.isAgg279
  z119:=Tryz.sizeOf279
  t138:=Tryz.underlying281
  a138:=Tryz.isAgg281
  z138:=Tryz.sizeOf281
  v138:=Tryz.zeroValue281
  t139:=Tryz.underlying282
  a139:=Tryz.isAgg282
  z139:=Tryz.sizeOf282
  v139:=Tryz.zeroValue282
  t146:=Tryz.underlying283
  a146:=Tryz.isAgg283
  z146:=Tryz.sizeOf283
  v146:=Tryz.zeroValue283
  g1:=by kernel_rfl
  g3:=by kernel_rfl
  g4:=by kernel_rfl }
open Go.RowKit Go.Lib in
theorem Tryz.strings_Split(s sep:ByteArray)(m:Int)(w:World)(hs:s.size<4294967281)(hm:w.cell? ⟨2,0,none⟩=some (.int .i64 m))(h1:1<=sep.size) :
    Calls Tryz.prog 50 #[.string s,.string sep] w fun e w'=>
      e=.returned (.slice (some ⟨w.heap.size,0,none⟩) (Lib.countB s sep+1) (Lib.countB s sep+1))/\w'=w.alloc (.cells ((Lib.splitB sep 0 (Lib.countB s sep) s).map Value.string).toArray 9):=Any.strings_Split Tryz.lays146 (by kernel_rfl) s sep m w hs hm h1
def Tryz.lays109_ren:Go.Shelf.Ren:=⟨fun|109=>69|n=>n,fun|31=>100|9=>9|3=>3|0=>0|4=>4|n=>n,fun|n=>n⟩
theorem Tryz.lays109:Go.Proofs.Lays.n109 Tryz.prog Tryz.lays109_ren:={
  mixed:=by kernel_rfl
  f109:=Tryz.func69.trans (congrArg some (by kernel_rfl))
  t0:=Tryz.underlying0
  a0:=Tryz.isAgg0
  z0:=Tryz.sizeOf0
  v0:=Tryz.zeroValue0
  t3:=Tryz.underlying3
  a3:=Tryz.isAgg3
  z3:=Tryz.sizeOf3
  v3:=Tryz.zeroValue3
  t4:=Tryz.underlying4
  a4:=Tryz.isAgg4
  z4:=Tryz.sizeOf4
  v4:=Tryz.zeroValue4
  t9:=Tryz.underlying9
  a9:=Tryz.isAgg9
  z9:=Tryz.sizeOf9
  v9:=Tryz.zeroValue9
  t31:=Tryz.underlying100
  a31:=Tryz.isAgg100
  z31:=Tryz.sizeOf100
  v31:=Tryz.zeroValue100 }
open Go.Lib in
theorem Tryz.slices_Index_string(b off n c:Nat)(zs:List ByteArray)(x:ByteArray)(w:World)(hz:n<=zs.length)(hbig:n<=9223372036854775807)(hc:∀ j,j<zs.length->w.cell? ⟨b,off+j,none⟩=some (.string (zs.getD j ByteArray.empty))) :
    Calls Tryz.prog 69 #[.slice (some ⟨b,off,none⟩) n c,.string x] w fun e w'=>e=.returned (.int .i64 (Lib.idxOfS (zs.take n) x))/\w'=w:=Any.slices_Index_string Tryz.lays109 b off n c zs x w hz hbig hc
end Go.Proofs
