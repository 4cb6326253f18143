/-
  Rewriting a diagram: what it means stays; both ways agree.
-/
import Derived.Test.YtpifljegadknkaaGreatS4
import Derived.Test.YtpifljegadknkaaGreatS3
import Derived.Test.YtpifljegadknkaaGreatS1
import Derived.Test.YtpifljegadknkaaGreatS2
set_option linter.unusedVariables false
set_option linter.unusedSimpArgs false
set_option maxHeartbeats 1000000
set_option maxRecDepth 4000
set_option linter.unusedSectionVars false
namespace Go.Proofs.YtpifljegadknkaaGreat
open Go.RowKit
theorem Y17(w0:World)(bV B0:Nat)(A0:Option Addr)(c0:Nat)(A1:Option Addr)(c1 m0:Nat)(d:Dg)(eP:Dgm w0 bV B0 A0 c0 A1 c1 m0 d)(bL:B0<=w0.heap.size)(p:Int)(q:Int)(hG:goodD d=true) : Ret Tryz.prog 173 [(pZ9 bV),vi p,vi q] w0 (fun v w=>∃ A c,v=.bool (pvC d p q)/\TurnS (SB bV [A0,A1]) w0 w/\Us (SB bV [A0,A1]) w0 A/\Dgm w bV B0 A0 c0 A c m0 (if pvC d p q=true then outD (pvD d p q) else d)):=by
 obtain ⟨b,e,D,aS⟩:=eP;have fN:=b.lt
 have bM:Us (SB bV [A0,A1]) w0 A0:=SB.us (by simp)
 have cB:Us (SB bV [A0,A1]) w0 A1:=SB.us (by simp)
 have hD:=X0t hG;have eQ:=X18 hG;have fS:=hD.m;have fT:=hD.len;have fU:=X2i d.ws p;have cT:=X2i (dpW d.ws p) q;have fO:=X7w hD p q;have fP:=X7w hD q p;have fV:=Xbk hD p q;have fW:=X1n hD.p p.toNat;have fX:=X1n hD.p q.toNat;refine enter Tryz.func173 rfl 233 rfl rfl ?_;intro a C
 have E:TurnS (SB bV [A0,A1]) w0 w0:=TurnS.refl _ _
 refine Zs C fun _ eR=>?_;refine Za rfl<|ZX eR fun a C _ eS=>?_;refine Q5 fun _ eT=>?_;refine X0b (fun a w=>Fr a 233 [(0,(pZ9 bV)),(1,vi p),(2,vi q),(75,.bool (((((((decide (p<0))||(decide (q<=p)))||(!(spI d.ns p)))||(!(spI d.ns q)))||((tyW d.ws p q) != 2))||((((d.ns.getD p.toNat nZ).p).tmod 4) != 0))||((((d.ns.getD q.toNat nZ).p).tmod 4) != 0)))]/\Below w0.heap.size w0 w) ?_ ?_
 ·have J:=bz w0
  refine Zr C<|Zm rfl<|Ze (X0q rfl rfl)<|Zm rfl ?_
  refine Zg 22 rfl (fun aK=>?_) (fun aK=>?_)
  ·(iterate 3 refine Zp (gP aK) ?_);refine Ze (X4 rfl aK rfl)<|Zm rfl<|Zp (gP rfl) ?_;(iterate 5 refine Zp (gP rfl) ?_);refine Ze (X4 rfl rfl rfl)<|Zm rfl<|Zp (gP rfl) ?_;(iterate 5 refine Zp (gP rfl) ?_);refine Ze (X4 rfl rfl rfl)<|Zm rfl<|Zp (gP rfl) ?_;(iterate 6 refine Zp (gP rfl) ?_);refine Ze (X4 rfl rfl rfl)<|Zm rfl<|Zp (gP rfl) ?_;(iterate 9 refine Zp (gP rfl) ?_);refine Ze (X4 rfl rfl rfl)<|Zm rfl<|Zp (gP rfl) ?_;(iterate 9 refine Zp (gP rfl) ?_);refine Ze (X4 rfl rfl rfl) ?_;refine Zn fun a C=>?_
   have Q:Below w0.heap.size w0 w0:=J
   exact ⟨C.sub ⟨rfl,rfl,rfl,X1 rfl (by simp [aK]),trivial⟩,Q⟩
  refine Zv (gW aK) (X3 rfl) ?_;refine Zv (gW aK) (X3 rfl) ?_;refine Zv (gW aK) (X5g rfl rfl) ?_;refine Ze (Xe rfl aK rfl)<|Zm rfl ?_
  refine Zg 27 rfl (fun aB=>?_) (fun aB=>?_)
  ·(iterate 6 refine Zp (gP aB) ?_);refine Ze (X4 rfl aB rfl)<|Zm rfl<|Zp (gP rfl) ?_;(iterate 5 refine Zp (gP rfl) ?_);refine Ze (X4 rfl rfl rfl)<|Zm rfl<|Zp (gP rfl) ?_;(iterate 6 refine Zp (gP rfl) ?_);refine Ze (X4 rfl rfl rfl)<|Zm rfl<|Zp (gP rfl) ?_;(iterate 9 refine Zp (gP rfl) ?_);refine Ze (X4 rfl rfl rfl)<|Zm rfl<|Zp (gP rfl) ?_;(iterate 9 refine Zp (gP rfl) ?_);refine Ze (X4 rfl rfl rfl) ?_;refine Zn fun a C=>?_
   have Q:Below w0.heap.size w0 w0:=J
   exact ⟨C.sub ⟨rfl,rfl,rfl,X1 rfl (by simp [aK,aB]),trivial⟩,Q⟩
  refine Zv (gW aB) (X3 rfl) ?_;refine Zv (gW aB) (X0a rfl) ?_;refine Zv (gW aB) (X01 (l:=[vi d.n,.slice A0 m0 c0,.slice A1 d.ws.length c1,vi d.t,vi d.r]) rfl X2 (b.at 0) rfl) ?_;refine Zv (gW aB) (X3 rfl) ?_;refine Zk (gW aB) (Vc (X59 _ d m0 aS A0 c0 e.rd.top A1 c1 D.rd.top D.cap p (by omega)) X2r) ?_;rintro _ w1 ⟨rfl,B⟩;have b:=b.bw B;have e:=e.bw B;have D:=D.bw B;have E:=tsbel E B;have J:=btr J B;refine Zv (gW aB) (X0y rfl) ?_;refine Ze (Xe rfl aB rfl)<|Zm rfl ?_
  refine Zg 35 rfl (fun aC=>?_) (fun aC=>?_)
  ·(iterate 6 refine Zp (gP aC) ?_);refine Ze (X4 rfl aC rfl)<|Zm rfl<|Zp (gP rfl) ?_;(iterate 6 refine Zp (gP rfl) ?_);refine Ze (X4 rfl rfl rfl)<|Zm rfl<|Zp (gP rfl) ?_;(iterate 9 refine Zp (gP rfl) ?_);refine Ze (X4 rfl rfl rfl)<|Zm rfl<|Zp (gP rfl) ?_;(iterate 9 refine Zp (gP rfl) ?_);refine Ze (X4 rfl rfl rfl) ?_;refine Zn fun a C=>?_
   have Q:Below w0.heap.size w0 w1:=J
   exact ⟨C.sub ⟨rfl,rfl,rfl,X1 rfl (by simp [aK,aB,aC]),trivial⟩,Q⟩
  have cU:0<=p/\p.toNat<d.ns.length:=by have h9:=X0f (ns:=d.ns) (k:=p) (by simpa using aC);exact ⟨h9.1,h9.2.1⟩
  refine Zv (gW aC) (X3 rfl) ?_;refine Zv (gW aC) (X0a rfl) ?_;refine Zv (gW aC) (X01 (l:=[vi d.n,.slice A0 m0 c0,.slice A1 d.ws.length c1,vi d.t,vi d.r]) rfl X2 (b.at 0) rfl) ?_;refine Zv (gW aC) (X3 rfl) ?_;refine Zk (gW aC) (Vc (X59 _ d m0 aS A0 c0 e.rd.top A1 c1 D.rd.top D.cap q (by omega)) X2r) ?_;rintro _ w2 ⟨rfl,B⟩;have b:=b.bw B;have e:=e.bw B;have D:=D.bw B;have E:=tsbel E B;have J:=btr J B;refine Zv (gW aC) (X0y rfl) ?_;refine Ze (Xe rfl aC rfl)<|Zm rfl ?_
  refine Zg 43 rfl (fun W=>?_) (fun W=>?_)
  ·(iterate 7 refine Zp (gP W) ?_);refine Ze (X4 rfl W rfl)<|Zm rfl<|Zp (gP rfl) ?_;(iterate 9 refine Zp (gP rfl) ?_);refine Ze (X4 rfl rfl rfl)<|Zm rfl<|Zp (gP rfl) ?_;(iterate 9 refine Zp (gP rfl) ?_);refine Ze (X4 rfl rfl rfl) ?_;refine Zn fun a C=>?_
   have Q:Below w0.heap.size w0 w2:=J
   exact ⟨C.sub ⟨rfl,rfl,rfl,X1 rfl (by simp [aK,aB,aC,W]),trivial⟩,Q⟩
  have cC:0<=q/\q.toNat<d.ns.length:=by have h9:=X0f (ns:=d.ns) (k:=q) (by simpa using W);exact ⟨h9.1,h9.2.1⟩
  refine Zv (gW W) (X3 rfl) ?_;refine Zv (gW W) (X0a rfl) ?_;refine Zv (gW W) (X01 (l:=[vi d.n,.slice A0 m0 c0,.slice A1 d.ws.length c1,vi d.t,vi d.r]) rfl X2 (b.at 0) rfl) ?_;refine Zv (gW W) (X3 rfl) ?_;refine Zv (gW W) (X3 rfl) ?_;refine Zk (gW W) (Vc (X75 _ d m0 aS A0 c0 e.rd.top A1 c1 D.rd.top D.cap p q (by omega)) X3m) ?_;rintro _ w3 ⟨rfl,B⟩;have b:=b.bw B;have e:=e.bw B;have E:=tsbel E B;have J:=btr J B;refine Zv (gW W) (X1o rfl rfl) ?_;refine Ze (Xe rfl W rfl)<|Zm rfl ?_
  refine Zg 52 rfl (fun G=>?_) (fun G=>?_)
  ·(iterate 10 refine Zp (gP G) ?_);refine Ze (X4 rfl G rfl)<|Zm rfl<|Zp (gP rfl) ?_;(iterate 9 refine Zp (gP rfl) ?_);refine Ze (X4 rfl rfl rfl) ?_;refine Zn fun a C=>?_
   have Q:Below w0.heap.size w0 w3:=J
   exact ⟨C.sub ⟨rfl,rfl,rfl,X1 rfl (by simp [aK,aB,aC,W,G]),trivial⟩,Q⟩
  refine Zv (gW G) (X3 rfl) ?_;refine Zv (gW G) (X0a rfl) ?_;refine Zv (gW G) (Vd rfl Xg 1) ?_;refine Zv (gW G) (X0 rfl Xy (b.at 1)) ?_;refine Zv (gW G) (X3 rfl) ?_;refine Zv (gW G) (Xx (k:=p.toNat) rfl rfl Xl X08 e aS (by omega) (by omega)) ?_;refine Zv (gW G) (X12 rfl X06 (m':=p.toNat*2+1) rfl) ?_;refine Zv (gW G) (X0 rfl X7 (X0h e Xw (Xb (d:=nZ) (by omega)) 1 rfl)) ?_;refine Zv (gW G) (X33 rfl rfl rfl) ?_;refine Zv (gW G) (X1o rfl rfl) ?_;refine Ze (Xe rfl G rfl)<|Zm rfl ?_
  refine Zg 64 rfl (fun H=>?_) (fun H=>?_)
  ·(iterate 10 refine Zp (gP H) ?_);refine Ze (X4 rfl H rfl) ?_;refine Zn fun a C=>?_
   have Q:Below w0.heap.size w0 w3:=J
   exact ⟨C.sub ⟨rfl,rfl,rfl,X1 rfl (by first|rfl|(simp only [aK,aB,aC,W,G,H,bs];done)|simp [aK,aB,aC,W,G,H]),trivial⟩,Q⟩
  refine Zv (gW H) (X3 rfl) ?_;refine Zv (gW H) (X0a rfl) ?_;refine Zv (gW H) (Vd rfl Xg 1) ?_;refine Zv (gW H) (X0 rfl Xy (b.at 1)) ?_;refine Zv (gW H) (X3 rfl) ?_;refine Zv (gW H) (Xx (k:=q.toNat) rfl rfl Xl X08 e aS (by omega) (by omega)) ?_;refine Zv (gW H) (X12 rfl X06 (m':=q.toNat*2+1) rfl) ?_;refine Zv (gW H) (X0 rfl X7 (X0h e Xw (Xb (d:=nZ) (by omega)) 1 rfl)) ?_;refine Zv (gW H) (X33 rfl rfl rfl) ?_;refine Zv (gW H) (X1o rfl rfl) ?_;refine Ze (Xe rfl H rfl) ?_;refine Zn fun a C=>?_
  have Q:Below w0.heap.size w0 w3:=J
  exact ⟨C.sub ⟨rfl,rfl,rfl,X1 rfl (by first|rfl|(simp only [aK,aB,aC,W,G,H,bs];done)|simp [aK,aB,aC,W,G,H]),trivial⟩,Q⟩
 rintro a w4 ⟨C,B⟩;have b:=b.bw B;have e:=e.bw B;have D:=D.bw B;have E:=tsbel E B;refine eT _ _ ?_
 refine Xi C rfl (fun b5=>?_) (fun b5=>?_)
 ·have U:=b5;have cD:=Xo5 hD b5;refine Zs C fun _ cV=>?_;refine Za rfl<|Zt cV fun a C=>?_;refine Q6<|Xa<|X6 C (Xu C rfl rfl) ?_
  rw [cD,Q3 Bool.false_ne_true]
  exact ⟨A1,c1,rfl,E,cB,⟨b,e,D,aS⟩⟩
 have U:=b5;obtain ⟨cU,cC,bN,cW,cX,hab⟩:=Xl5 hD b5;refine Q7<|eS _ _<|Q5 fun _ cY=>?_;refine X00 none (fun _=>false) mixed ?_;intro w5 B;have b:=b.bw B;have e:=e.bw B;have D:=D.bw B;have E:=tsbel E B;refine Yb C<|Yo 0 rfl (fun _=>X3 rfl)<|Yo 1 rfl (fun _=>X0a rfl)<|Ye 2 rfl (X01 (l:=[vi d.n,.slice A0 m0 c0,.slice A1 d.ws.length c1,vi d.t,vi d.r]) rfl X2 (b.at 0) rfl)<|Yo 3 rfl (fun _=>X3 rfl)<|Yo 5 rfl (fun _=>X3 rfl)<|Yo 7 rfl (fun _=>X3 rfl)<|Yo 8 rfl (fun _=>X0a rfl)<|Ye 9 rfl (X01 (l:=[vi d.n,.slice A0 m0 c0,.slice A1 d.ws.length c1,vi d.t,vi d.r]) rfl X2 (b.at 0) rfl)<|Yo 10 rfl (fun _=>X3 rfl)<|Yo 12 rfl (fun _=>X3 rfl) ?_;refine Y1 4<|Yk rfl tv0 (Vc (Xdf _ d m0 aS A0 c0 e.rd.top A1 c1 D.rd.top D.cap p hD.w (by omega)) X7a) (fun _ _ ⟨cZ,d5,_,aL,B⟩=>B) ?_;rintro _ w6 ⟨cZ,d5,rfl,aL,B⟩;have aL:=aL.lower E.size;have b:=b.bw B;have e:=e.bw B;have D:=D.bw B;have E:=tsbel E B;refine Y1 6<|Yk rfl tv0 (Vc (Xsu _ cZ d5 (nearW d.ws p) aL.rd.top q (by have:=X43 hD p;omega)) Xgj) (fun _ _ ⟨a6,a7,_,f,B⟩=>B) ?_;rintro _ w7 ⟨a6,a7,rfl,f,B⟩;have cN:=aL.apart f (Qb _);have f:=f.lower E.size;have b:=b.bw B;have e:=e.bw B;have D:=D.bw B;have aL:=aL.bw B;have E:=tsbel E B;refine Y1 11<|Yk rfl tv0 (Vc (Xdf _ d m0 aS A0 c0 e.rd.top A1 c1 D.rd.top D.cap q hD.w (by omega)) X7a) (fun _ _ ⟨d6,d7,_,aY,B⟩=>B) ?_;rintro _ w8 ⟨d6,d7,rfl,aY,B⟩;have cO:=aL.apart aY (Qb _);have cP:=f.apart aY (Qb _);have aY:=aY.lower E.size
 have b:=b.bw B;have e:=e.bw B;have D:=D.bw B;have aL:=aL.bw B;have f:=f.bw B;have E:=tsbel E B;refine Y1 13<|Yk rfl tv0 (Vc (Xsu _ d6 d7 (nearW d.ws q) aY.rd.top p (by have:=X43 hD q;omega)) Xgj) (fun _ _ ⟨a8,aA,_,h,B⟩=>B) ?_;rintro _ w9 ⟨a8,aA,rfl,h,B⟩;have cQ:=aL.apart h (Qb _);have cR:=f.apart h (Qb _);have cS:=aY.apart h (Qb _);have h:=h.lower E.size;have b:=b.bw B;have e:=e.bw B;have D:=D.bw B;have f:=f.bw B;have E:=tsbel E B;refine Yo 14 rfl (fun _=>Xr rfl)<|Yo 15 rfl (fun _=>Xr rfl) ?_;refine Yd fun a C=>?_;refine cY _ _<|Zs C fun _ d8=>?_;refine Zm rfl<|Zm rfl<|Zf (Xs (k:=2) (vs:=[.slice a6 (othW d.ws p q).length a7,.slice a8 (othW d.ws q p).length aA]) (zs:=[.slice a6 (othW d.ws p q).length a7,.slice a8 (othW d.ws q p).length aA]) rfl X9f Xv6 rfl rfl) ?_;rintro _ fY ⟨eU,rfl,dA,B,bW⟩;have eV:=Q0 E.size dA;have b:=b.bw B;have e:=e.bw B;have D:=D.bw B;have f:=f.bw B;have h:=h.bw B;have E:=tsbel E B;refine Zf (Vc (F93 _ [(⟨a6,a7,(othW d.ws p q)⟩ : Sl),(⟨a8,aA,(othW d.ws q p)⟩ : Sl)] (some ⟨eU,0,none⟩) 2 (Rd.of_blk bW rfl _ bW.lt) (fun s hs=>by rcases Qv.1 hs with rfl|hs;exact f.rd.top;rw [Qm.1 hs];exact h.rd.top) (by simp) (by simp;omega)) Xze) ?_;rintro _ fZ ⟨aE,aG,rfl,g,B⟩;have b3:=f.apart g (Qb _);have b4:=h.apart g (Qb _);have g:=g.lower E.size;have b:=b.bw B;have e:=e.bw B;have D:=D.bw B;have f:=f.bw B
 have h:=h.bw B;have E:=tsbel E B;refine Za rfl<|Zx d8 fun a C _ dB=>?_;refine Zm rfl<|Zf (Vc (F94 _ w0.heap.size aE aG (List.flatMap Sl.l [(⟨a6,a7,(othW d.ws p q)⟩ : Sl),(⟨a8,aA,(othW d.ws q p)⟩ : Sl)]) g (by simp;omega)) Xt6) ?_;rintro _ g5 ⟨b6,hg⟩;have aM:=g;have b:=b.appT aM hg rfl;have e:=e.appT aM hg rfl;have D:=D.appT aM hg rfl;have f:=f.appP hg b3;have h:=h.appP hg b4
 have E:=tsrow E hg (fun _ cE=>.inr (X2h aM cE))
 clear aM hg;clear g;have g:=b6;clear b6;refine Zx dB fun a C _ dC=>?_;refine Zm rfl<|Zf (X1m (vs:=[.slice aE (List.flatMap Sl.l [(⟨a6,a7,(othW d.ws p q)⟩ : Sl),(⟨a8,aA,(othW d.ws q p)⟩ : Sl)]).length aG]) rfl Xyg (by have h9:=Y49 _ w0.heap.size aE aG (sortI (List.flatMap Sl.l [(⟨a6,a7,(othW d.ws p q)⟩ : Sl),(⟨a8,aA,(othW d.ws q p)⟩ : Sl)])) ((List.flatMap Sl.l [(⟨a6,a7,(othW d.ws p q)⟩ : Sl),(⟨a8,aA,(othW d.ws q p)⟩ : Sl)]).length) (by simp [sortI]) g (by simp [sortI];omega);rw [show Lib.compact (sortI (List.flatMap Sl.l [(⟨a6,a7,(othW d.ws p q)⟩ : Sl),(⟨a8,aA,(othW d.ws q p)⟩ : Sl)]))=(pvL d p q) from by rw [<- Xxk hD];unfold unionI;congr 2] at h9;exact h9)) ?_;rintro _ w13 ⟨rfl,b6,hg⟩;have aM:=g;have b:=b.appT aM hg rfl;have e:=e.appT aM hg rfl;have D:=D.appT aM hg rfl;have f:=f.appP hg b3;have h:=h.appP hg b4
 have E:=tsrow E hg (fun _ cE=>.inr (X2h aM cE))
 clear aM hg;clear g;have g:=b6;clear b6;refine Za rfl<|ZX dC fun a C _ dD=>?_;refine Q5 fun _ dE=>?_;refine X0b (fun a w=>Fr a 233 [(0,(pZ9 bV)),(1,vi p),(2,vi q),(7,.slice a6 (othW d.ws p q).length a7),(8,.slice a8 (othW d.ws q p).length aA),(9,.slice aE (pvL d p q).length aG),(120,.bool (((!(!((othW d.ws p q).any fun x=>!(spI d.ns x)||tyW d.ws p x != 2)))||(!(!((othW d.ws q p).any fun x=>!(spI d.ns x)||tyW d.ws q x != 2))))||(prD d (pvL d p q))))]/\Below w13.heap.size w13 w) ?_ ?_
 ·have J:Below w13.heap.size w13 w13:=Below.refl _ _
  refine Zr C<|Zm rfl<|Ze (X0a rfl)<|Ze (X01 (l:=[vi d.n,.slice A0 m0 c0,.slice A1 d.ws.length c1,vi d.t,vi d.r]) rfl X2 (b.at 0) rfl)<|Zm rfl<|Zm rfl<|Zf (Vc (Xll _ d m0 aS A0 c0 e.rd.top A1 c1 D.rd.top D.cap p a6 a7 (othW d.ws p q) f.rd.top (by omega) (by omega) (by omega)) Xbt) ?_;rintro _ w14 ⟨rfl,B⟩;have b:=b.bw B;have e:=e.bw B;have D:=D.bw B;have h:=h.bw B;have g:=g.bw B;have E:=tsbel E B;have J:=btr J B;refine Ze (X0y rfl)<|Zm rfl ?_
  refine Zg 105 rfl (fun L=>?_) (fun L=>?_)
  ·(iterate 7 refine Zp (gP L) ?_);refine Ze (X4 rfl L rfl)<|Zm rfl<|Zp (gP rfl) ?_;(iterate 4 refine Zp (gP rfl) ?_);refine Ze (X4 rfl rfl rfl) ?_;refine Zn fun a C=>?_
   have Q:Below w13.heap.size w13 w14:=J
   exact ⟨C.sub ⟨rfl,rfl,rfl,rfl,rfl,rfl,X1 rfl (by simp [U,L]),trivial⟩,Q⟩
  refine Zv (gW L) (X3 rfl) ?_;refine Zv (gW L) (X0a rfl) ?_;refine Zv (gW L) (X01 (l:=[vi d.n,.slice A0 m0 c0,.slice A1 d.ws.length c1,vi d.t,vi d.r]) rfl X2 (b.at 0) rfl) ?_;refine Zv (gW L) (X3 rfl) ?_;refine Zv (gW L) (X3 rfl) ?_;refine Zk (gW L) (Vc (Xll _ d m0 aS A0 c0 e.rd.top A1 c1 D.rd.top D.cap q a8 aA (othW d.ws q p) h.rd.top (by omega) (by omega) (by omega)) Xbt) ?_;rintro _ w15 ⟨rfl,B⟩;have b:=b.bw B;have e:=e.bw B;have D:=D.bw B;have g:=g.bw B;have E:=tsbel E B;have J:=btr J B;refine Zv (gW L) (X0y rfl) ?_;refine Ze (Xe rfl L rfl)<|Zm rfl ?_
  refine Zg 114 rfl (fun aD=>?_) (fun aD=>?_)
  ·(iterate 5 refine Zp (gP aD) ?_);refine Ze (X4 rfl aD rfl) ?_;refine Zn fun a C=>?_
   have Q:Below w13.heap.size w13 w15:=J
   exact ⟨C.sub ⟨rfl,rfl,rfl,rfl,rfl,rfl,X1 rfl (by simp [U,L,aD]),trivial⟩,Q⟩
  refine Zv (gW aD) (X3 rfl) ?_;refine Zv (gW aD) (X0a rfl) ?_;refine Zv (gW aD) (X01 (l:=[vi d.n,.slice A0 m0 c0,.slice A1 d.ws.length c1,vi d.t,vi d.r]) rfl X2 (b.at 0) rfl) ?_;refine Zv (gW aD) (X3 rfl) ?_;refine Zk (gW aD) (Vc (Xth _ d m0 aS A0 c0 e.rd.top A1 c1 D.rd.top D.cap aE aG (pvL d p q) g.rd.top (by omega) (by omega) g.cap) Xgi) ?_;rintro _ w16 ⟨rfl,B⟩;have E:=tsbel E B;have J:=btr J B;refine Ze (Xe rfl aD rfl) ?_;refine Zn fun a C=>?_
  have Q:Below w13.heap.size w13 w16:=J
  exact ⟨C.sub ⟨rfl,rfl,rfl,rfl,rfl,rfl,X1 rfl (by simp [U,L,aD]),trivial⟩,Q⟩
 rintro a g6 ⟨C,B⟩;have b:=b.bw B;have e:=e.bw B;have D:=D.bw B;have f:=f.bw B;have h:=h.bw B;have g:=g.bw B;have E:=tsbel E B;refine dE _ _ ?_
 refine Xi C rfl (fun b7=>?_) (fun b7=>?_)
 ·have aH:=b7
  have cD:pvC d p q=false:=Xpg cX b7
  refine Zs C fun _ dF=>?_;refine Za rfl<|Zt dF fun a C=>?_;refine Q6<|Xa<|X6 C (Xu C rfl rfl) ?_
  rw [cD,Q3 Bool.false_ne_true]
  exact ⟨A1,c1,rfl,E,cB,⟨b,e,D,aS⟩⟩
 have aH:=b7;obtain ⟨dG,eX⟩:=Xmi hD cW cX b7
 have dH:∀ v ∈ pvL d p q,v.toNat<(id0 (id0 d p) q).ns.length:=fun v hv=>by obtain ⟨i,hi⟩:=List.mem_iff_getElem?.1 hv;have:=Xc3 hD hi;show v.toNat<(dpN (dpN d.ns p) q).length;rw [X1l,X1l];exact this.2
 have bX:PhN (id0 (id0 d p) q).ns:=X5b (X5b hD.p p) q
 refine Q7<|dD _ _<|Q5 fun _ dI=>?_;refine X00 none (fun _=>false) mixed ?_;intro g7 B;have b:=b.bw B;have e:=e.bw B;have D:=D.bw B;have f:=f.bw B;have h:=h.bw B;have g:=g.bw B;have E:=tsbel E B;refine Yb C<|Yo 0 rfl (fun _=>X3 rfl)<|Yo 1 rfl (fun _=>X0a rfl)<|Yo 2 rfl (fun _=>Vd rfl Xg 1)<|Ye 3 rfl (X0 rfl Xy (b.at 1))<|Yo 4 rfl (fun _=>X3 rfl)<|Yo 5 rfl (fun _=>Xx (k:=p.toNat) rfl rfl Xl X08 e aS (by omega) (by omega))<|Yo 6 rfl (fun _=>X12 rfl X06 (m':=p.toNat*2+1) rfl)<|Ye 7 rfl (X0 rfl X7 (X0h e Xw (Xb (d:=nZ) (by omega)) 1 rfl))<|Yo 8 rfl (fun _=>X3 rfl)<|Yo 9 rfl (fun _=>X0a rfl) ?_;refine Yo 10 rfl (fun _=>Vd rfl Xg 1)<|Ye 11 rfl (X0 rfl Xy (b.at 1))<|Yo 12 rfl (fun _=>X3 rfl)<|Yo 13 rfl (fun _=>Xx (k:=q.toNat) rfl rfl Xl X08 e aS (by omega) (by omega))<|Yo 14 rfl (fun _=>X12 rfl X06 (m':=q.toNat*2+1) rfl)<|Ye 15 rfl (X0 rfl X7 (X0h e Xw (Xb (d:=nZ) (by omega)) 1 rfl))<|Yo 16 rfl (fun _=>Xr rfl)<|Yo 17 rfl (fun _=>Xr rfl) ?_;refine Yd fun a C=>?_;refine dI _ _<|Zs C fun _ dJ=>?_;refine Zm rfl<|Zm rfl<|Zf (Vc (Xav _ bV B0 A0 c0 A1 c1 m0 d ⟨b,e,D,aS⟩ (Q0 bL E.size) p cU (by omega)) X5z) ?_;rintro _ g8 ⟨eY,eZ,N,bA,aT,aF,bH,cF⟩;have f:=f.tu N b rfl (alc (X10 e rfl) (alc (X10 D rfl) al0));have h:=h.tu N b rfl (alc (X10 e rfl) (alc (X10 D rfl) al0));have g:=g.tu N b rfl (alc (X10 e rfl) (alc (X10 D rfl) al0));have aI:=SB.lift (S:=SB bV [A0,A1]) (w0:=w0) (.inl (.inl rfl)) (alc bM (alc cB al0));have bA:=Us.trans bA aI E.size
 have E:=tstr E N aI;clear aI
 clear N b;have b:=aT;clear aT
 clear e;have e:=aF;clear aF;refine Zx dJ fun a C _ dK=>?_;refine Zm rfl<|Zm rfl<|Zf (Vc (Xav _ bV B0 A0 c0 eY eZ m0 (id0 d p) ⟨b,e,bH,cF⟩ (Q0 bL E.size) q ⟨cC.1,by show q.toNat<(dpN d.ns p).length;rw [X1l];exact cC.2⟩ (by show (dpW d.ws p).length<=_;omega)) X5z) ?_;rintro _ gA ⟨f0,f3,N,bB,aT,aF,dL,f5⟩;have f:=f.tu N b rfl (alc (X10 e rfl) (alc (X10 bH rfl) al0));have h:=h.tu N b rfl (alc (X10 e rfl) (alc (X10 bH rfl) al0));have g:=g.tu N b rfl (alc (X10 e rfl) (alc (X10 bH rfl) al0));have aI:=SB.lift (S:=SB bV [A0,A1]) (w0:=w0) (.inl (.inl rfl)) (alc bM (alc bA al0));have bB:=Us.trans bB aI E.size
 have E:=tstr E N aI;clear aI
 clear N b;have b:=aT;clear aT
 clear e;have e:=aF;clear aF;refine ZX dK fun a C _ dM=>?_;refine Zs C fun _ dN=>?_;refine Zm rfl<|Ze (X0c rfl Xj)<|Zm rfl<|Zt dN fun a C=>?_;refine Q8<|X04 (σ:=Nat×Dg) (fun (s:Nat×Dg) (a:Act) (w:World)=>match s with|(k,o)=>∃ aX b2,Fr a 233 [(0,(pZ9 bV)),(7,.slice a6 (othW d.ws p q).length a7),(8,.slice a8 (othW d.ws q p).length aA),(9,.slice aE (pvL d p q).length aG),(10,vi ((d.ns.getD p.toNat nZ).p)),(11,vi ((d.ns.getD q.toNat nZ).p)),(143,.slice aE (pvL d p q).length aG),(144,vi ((pvL d p q).length:Int)),(145,vi (k:Int))]/\(k<=(pvL d p q).length)/\(o=pvI (d.ns.getD p.toNat nZ).p (d.ns.getD q.toNat nZ).p (othW d.ws p q) (othW d.ws q p) (pvL d p q) (id0 (id0 d p) q) k)/\(m0=o.ns.length)/\(o.ws.length<=d.ws.length+k*2000)/\(PhN o.ns)/\(WSd o.ws)/\Blk w bV 39 [vi o.n,.slice A0 m0 c0,.slice aX o.ws.length b2,vi o.t,vi o.r]/\Own w B0 81 2 encNd A0 c0 o.ns/\Own w w0.heap.size 3 1 encI a6 a7 (othW d.ws p q)/\Own w w0.heap.size 3 1 encI a8 aA (othW d.ws q p)/\Own w w0.heap.size 3 1 encI aE aG (pvL d p q)/\Own w B0 83 3 encWr aX b2 o.ws/\Us (SB bV [A0,A1]) w0 aX/\TurnS (SB bV [A0,A1]) w0 w) (fun (s:Nat×Dg)=>match s with|(k,o)=>(pvL d p q).length-k) (0,(id0 (id0 d p) q)) ?_ ?_
 ·exact ⟨f0,f3,C.sb,(Qf _),rfl,((aS.trans (X1l _ _).symm).trans (X1l _ _).symm),(Q0 cT (by omega)),bX,(List.Pairwise.filter _ (List.Pairwise.filter _ hD.w.s)),b,e,f,h,g,dL,bB,E⟩
 rintro ⟨k,o⟩ a f7 ⟨aX,b2,C,hk,dO,bO,f8,bR,f9,b,e,f,h,g,M,aZ,E⟩;refine Zs C fun _ dP=>?_;refine Ze (X0q rfl rfl)<|ZX dP fun a C _ dQ=>?_
 refine Xi C rfl (fun aU=>?_) (fun aU=>?_)
 ·have aJ:=aU;have aU:=Q2 aU
  obtain ⟨gB,fQ⟩:=X5 (l:=(pvL d p q)) (k:=k) (by omega)
  obtain ⟨I,cG⟩:=X5 (l:=(pvL d p q)) (k:=k) (by have:=aU;omega)
  have dR:=Xc3 hD cG;have gC:=X1n bR I.toNat
  have gD:=Xxu bN.1 bN.2 ((othW d.ws p q).any fun v=>v==I) ((othW d.ws q p).any fun v=>v==I)
  refine Q7<|dQ _ _<|Q5 fun _ dS=>?_;refine Q8<|Zs C fun _ dT=>?_;refine Zm rfl<|Ze (Xx (k:=k) rfl rfl Xj X09 g rfl rfl (by omega))<|Ze (X0 rfl X7 (X0h g X9 cG 0 rfl))<|Za rfl<|Za rfl<|Zx dT fun a C _ dU=>?_;refine Zm rfl<|Zm rfl<|Zf (X1m (vs:=[.slice a6 (othW d.ws p q).length a7,vi I]) rfl Xcg (by have h9:=Xqg _ a6 a7 (othW d.ws p q) f.rd.top I (by omega);rw [X89] at h9;exact h9)) ?_;rintro _ gE ⟨rfl,B⟩;have b:=b.bw B;have e:=e.bw B;have f:=f.bw B;have h:=h.bw B;have g:=g.bw B;have M:=M.bw B;have E:=tsbel E B;refine Zm rfl<|Zm rfl<|Zf (X1m (vs:=[.slice a8 (othW d.ws q p).length aA,vi I]) rfl Xcg (by have h9:=Xqg _ a8 aA (othW d.ws q p) h.rd.top I (by omega);rw [X89] at h9;exact h9)) ?_;rintro _ gF ⟨rfl,B⟩;have b:=b.bw B;have e:=e.bw B;have f:=f.bw B;have h:=h.bw B;have g:=g.bw B;have M:=M.bw B;have E:=tsbel E B;refine Za rfl<|Za rfl<|ZX dU fun a C _ dW=>?_;refine X0b (fun a w=>∃ bC bJ,Fr a 233 [(0,(pZ9 bV)),(7,.slice a6 (othW d.ws p q).length a7),(8,.slice a8 (othW d.ws q p).length aA),(9,.slice aE (pvL d p q).length aG),(10,vi ((d.ns.getD p.toNat nZ).p)),(11,vi ((d.ns.getD q.toNat nZ).p)),(12,vi (k:Int)),(13,vi I),(14,.bool ((othW d.ws p q).any fun v=>v==I)),(15,.bool ((othW d.ws q p).any fun v=>v==I)),(143,.slice aE (pvL d p q).length aG),(144,vi ((pvL d p q).length:Int)),(145,vi (k:Int))]/\Own w B0 83 3 encWr bC bJ (({ o with ns:=adN o.ns I (pvG (d.ns.getD p.toNat nZ).p (d.ns.getD q.toNat nZ).p ((othW d.ws p q).any fun v=>v==I) ((othW d.ws q p).any fun v=>v==I)) } : Dg).ws)/\Us (SB bV [A0,A1]) w0 bC/\Blk w bV 39 [vi (({ o with ns:=adN o.ns I (pvG (d.ns.getD p.toNat nZ).p (d.ns.getD q.toNat nZ).p ((othW d.ws p q).any fun v=>v==I) ((othW d.ws q p).any fun v=>v==I)) } : Dg).n),.slice A0 m0 c0,.slice bC (({ o with ns:=adN o.ns I (pvG (d.ns.getD p.toNat nZ).p (d.ns.getD q.toNat nZ).p ((othW d.ws p q).any fun v=>v==I) ((othW d.ws q p).any fun v=>v==I)) } : Dg).ws).length bJ,vi (({ o with ns:=adN o.ns I (pvG (d.ns.getD p.toNat nZ).p (d.ns.getD q.toNat nZ).p ((othW d.ws p q).any fun v=>v==I) ((othW d.ws q p).any fun v=>v==I)) } : Dg).t),vi (({ o with ns:=adN o.ns I (pvG (d.ns.getD p.toNat nZ).p (d.ns.getD q.toNat nZ).p ((othW d.ws p q).any fun v=>v==I) ((othW d.ws q p).any fun v=>v==I)) } : Dg).r)]/\Own w B0 81 2 encNd A0 c0 (({ o with ns:=adN o.ns I (pvG (d.ns.getD p.toNat nZ).p (d.ns.getD q.toNat nZ).p ((othW d.ws p q).any fun v=>v==I) ((othW d.ws q p).any fun v=>v==I)) } : Dg).ns)/\Own w w0.heap.size 3 1 encI a6 a7 (othW d.ws p q)/\Own w w0.heap.size 3 1 encI a8 aA (othW d.ws q p)/\Own w w0.heap.size 3 1 encI aE aG (pvL d p q)/\Us (SB bV [A0,A1]) w0 aX/\TurnS (SB bV [A0,A1]) w0 w) ?_ ?_
  ·refine Zr C<|Zm rfl<|Zm rfl<|Zm rfl<|Zm rfl<|Zf (Vc (F59 _ ((othW d.ws p q).any fun v=>v==I)) Xa2) ?_;rintro _ _ ⟨rfl,rfl⟩;refine Ze (X41 rfl rfl (by omega) (by omega))<|Zm rfl<|Zm rfl<|Zf (Vc (F59 _ ((othW d.ws q p).any fun v=>v==I)) Xa2) ?_;rintro _ _ ⟨rfl,rfl⟩;refine Ze (X41 rfl rfl (by omega) (by omega))<|Ze (Xm rfl rfl (by omega) (by omega))<|Zm rfl<|Zm rfl ?_
   refine Zg 168 rfl (fun b0=>?_) (fun b0=>?_)
   ·refine Zv (gW b0) (X3 rfl) ?_;refine Ze (X4 rfl b0 rfl)<|Zf (Vc (F59 _ ((othW d.ws q p).any fun v=>v==I)) Xa2) ?_;rintro _ _ ⟨rfl,rfl⟩;refine Ze (Vx (X41 rfl rfl (by omega) (by omega)) (show _=(4*(if (((othW d.ws p q).any fun v=>v==I)&&((othW d.ws q p).any fun v=>v==I))=true then 1 else 0)) from (by rw [b0,Qw])))<|Ze (Xm rfl rfl (by omega) (by omega))<|Ze (Vx (X33 rfl rfl rfl) (rfl:_=(pvG (d.ns.getD p.toNat nZ).p (d.ns.getD q.toNat nZ).p ((othW d.ws p q).any fun v=>v==I) ((othW d.ws q p).any fun v=>v==I))))<|Zf (Vc (Xec _ bV B0 A0 c0 aX b2 m0 o ⟨b,e,M,bO⟩ (Q0 bL E.size) I (pvG (d.ns.getD p.toNat nZ).p (d.ns.getD q.toNat nZ).p ((othW d.ws p q).any fun v=>v==I) ((othW d.ws q p).any fun v=>v==I)) ⟨dR.1,by omega⟩ bR ⟨by omega,by omega⟩) X77) ?_;rintro _ gG ⟨bC,bJ,N,bD,aT,aF,bP,fA⟩;have f:=f.tu N b rfl (alc (X10 e rfl) (alc (X10 M rfl) al0));have h:=h.tu N b rfl (alc (X10 e rfl) (alc (X10 M rfl) al0));have g:=g.tu N b rfl (alc (X10 e rfl) (alc (X10 M rfl) al0));have aI:=SB.lift (S:=SB bV [A0,A1]) (w0:=w0) (.inl (.inl rfl)) (alc bM (alc aZ al0));have bD:=Us.trans bD aI E.size
    have E:=tstr E N aI;clear aI
    clear N b;have b:=aT;clear aT
    clear e;have e:=aF;clear aF;refine Zn fun a C=>?_;exact ⟨bC,bJ,C.sb,bP,bD,b,e,f,h,g,aZ,E⟩
   refine Zp (gP b0) ?_;refine Ze (Xe rfl b0 rfl)<|Zf (Vc (F59 _ false) Xa2) ?_;rintro _ _ ⟨rfl,rfl⟩;refine Ze (Vx (X41 rfl rfl (by omega) (by omega)) (show _=(4*(if (((othW d.ws p q).any fun v=>v==I)&&((othW d.ws q p).any fun v=>v==I))=true then 1 else 0)) from (by rw [b0,Bool.false_and])))<|Ze (Xm rfl rfl (by omega) (by omega))<|Ze (Vx (X33 rfl rfl rfl) (rfl:_=(pvG (d.ns.getD p.toNat nZ).p (d.ns.getD q.toNat nZ).p ((othW d.ws p q).any fun v=>v==I) ((othW d.ws q p).any fun v=>v==I))))<|Zf (Vc (Xec _ bV B0 A0 c0 aX b2 m0 o ⟨b,e,M,bO⟩ (Q0 bL E.size) I (pvG (d.ns.getD p.toNat nZ).p (d.ns.getD q.toNat nZ).p ((othW d.ws p q).any fun v=>v==I) ((othW d.ws q p).any fun v=>v==I)) ⟨dR.1,by omega⟩ bR ⟨by omega,by omega⟩) X77) ?_;rintro _ gH ⟨fB,fC,N,bE,aT,aF,dX,fE⟩;have f:=f.tu N b rfl (alc (X10 e rfl) (alc (X10 M rfl) al0));have h:=h.tu N b rfl (alc (X10 e rfl) (alc (X10 M rfl) al0));have g:=g.tu N b rfl (alc (X10 e rfl) (alc (X10 M rfl) al0));have aI:=SB.lift (S:=SB bV [A0,A1]) (w0:=w0) (.inl (.inl rfl)) (alc bM (alc aZ al0));have bE:=Us.trans bE aI E.size
   have E:=tstr E N aI;clear aI
   clear N b;have b:=aT;clear aT
   clear e;have e:=aF;clear aF;refine Zn fun a C=>?_;exact ⟨fB,fC,C.sb,dX,bE,b,e,f,h,g,aZ,E⟩
  rintro a fF ⟨bC,bJ,C,bP,dY,b,e,f,h,g,aZ,E⟩;refine dW _ _<|Zs C fun _ eA=>?_;refine Zm rfl<|Zm rfl ?_;have aN:=(g.rd.top).takeK X9 k;refine Ze (X3j (l:=(pvL d p q)) (k:=k) rfl rfl Xj X09 rfl hk g.cap)<|Ze (X0c rfl Xj)<|Zm rfl<|Zt eA fun a C=>?_;refine Q8<|X04 (σ:=Nat×Dg) (fun (s:Nat×Dg) (a:Act) (w:World)=>match s with|(j,z)=>∃ bF bK,Fr a 233 [(0,(pZ9 bV)),(7,.slice a6 (othW d.ws p q).length a7),(8,.slice a8 (othW d.ws q p).length aA),(9,.slice aE (pvL d p q).length aG),(10,vi ((d.ns.getD p.toNat nZ).p)),(11,vi ((d.ns.getD q.toNat nZ).p)),(13,vi I),(14,.bool ((othW d.ws p q).any fun v=>v==I)),(15,.bool ((othW d.ws q p).any fun v=>v==I)),(143,.slice aE (pvL d p q).length aG),(144,vi ((pvL d p q).length:Int)),(145,vi (k:Int)),(178,.slice aE ((pvL d p q).take k).length aG),(179,vi (((pvL d p q).take k).length:Int)),(180,vi (j:Int))]/\(j<=((pvL d p q).take k).length)/\(z=(((pvL d p q).take k).take j).foldl (pvJ (othW d.ws p q) (othW d.ws q p) I) ({ o with ns:=adN o.ns I (pvG (d.ns.getD p.toNat nZ).p (d.ns.getD q.toNat nZ).p ((othW d.ws p q).any fun v=>v==I) ((othW d.ws q p).any fun v=>v==I)) } : Dg))/\(m0=z.ns.length)/\(z.ws.length<=o.ws.length+j)/\(PhN z.ns)/\(WSd z.ws)/\Blk w bV 39 [vi z.n,.slice A0 m0 c0,.slice bF z.ws.length bK,vi z.t,vi z.r]/\Own w B0 81 2 encNd A0 c0 z.ns/\Own w w0.heap.size 3 1 encI a6 a7 (othW d.ws p q)/\Own w w0.heap.size 3 1 encI a8 aA (othW d.ws q p)/\Own w w0.heap.size 3 1 encI aE aG (pvL d p q)/\Rd w fF.heap.size 3 encI aE ((pvL d p q).take k)/\Own w B0 83 3 encWr bF bK z.ws/\Us (SB bV [A0,A1]) w0 bF/\TurnS (SB bV [A0,A1]) w0 w) (fun (s:Nat×Dg)=>match s with|(j,z)=>((pvL d p q).take k).length-j) (0,({ o with ns:=adN o.ns I (pvG (d.ns.getD p.toNat nZ).p (d.ns.getD q.toNat nZ).p ((othW d.ws p q).any fun v=>v==I) ((othW d.ws q p).any fun v=>v==I)) } : Dg)) ?_ ?_
  ·exact ⟨bC,bJ,C.sb,(Qf _),rfl,(bO.trans (X1u _ _ _).symm),(Qb _),(X68 bR _ _),f9,b,e,f,h,g,aN,bP,dY,E⟩
  rintro ⟨j,z⟩ a w27 ⟨bF,bK,C,hj,hz,bS,fG,cH,bT,b,e,f,h,g,aN,aO,bQ,E⟩;refine Zs C fun _ eB=>?_;refine Ze (X0q rfl rfl)<|ZX eB fun a C _ eC=>?_
  refine Xi C rfl (fun aV=>?_) (fun aV=>?_)
  ·have b1:=aV;have aV:=Q2 aV
   obtain ⟨gI,fR⟩:=X5 (l:=((pvL d p q).take k)) (k:=j) (by omega)
   obtain ⟨v9,bU⟩:=X5 (l:=(pvL d p q).take k) (k:=j) (by have:=aV;omega)
   have gJ:j<k:=by have:=(Qg.1 bU).1;rw [Qn] at this;omega
   refine Q7<|eC _ _<|Q5 fun _ bY=>?_;refine Q8<|Zs C fun _ eD=>?_;refine Zi (k:=j) (u:=v9) (enc:=encI) (l:=((pvL d p q).take k)) tv0 rfl rfl Xj X09 X9 aN bU rfl ?_;intro gK cI;refine Ze (X0 rfl X7 cI)<|Za rfl<|ZX eD fun a C _ eE=>?_;refine X0b (fun a w=>Fr a 233 [(0,(pZ9 bV)),(7,.slice a6 (othW d.ws p q).length a7),(8,.slice a8 (othW d.ws q p).length aA),(9,.slice aE (pvL d p q).length aG),(10,vi ((d.ns.getD p.toNat nZ).p)),(11,vi ((d.ns.getD q.toNat nZ).p)),(13,vi I),(14,.bool ((othW d.ws p q).any fun v=>v==I)),(15,.bool ((othW d.ws q p).any fun v=>v==I)),(17,vi v9),(18,.bool (((othW d.ws p q).any fun v=>v==I)&&((othW d.ws q p).any fun v=>v==v9))),(143,.slice aE (pvL d p q).length aG),(144,vi ((pvL d p q).length:Int)),(145,vi (k:Int)),(178,.slice aE ((pvL d p q).take k).length aG),(179,vi (((pvL d p q).take k).length:Int)),(180,vi (j:Int))]/\Below w27.heap.size w27 w) ?_ ?_
   ·have J:Below w27.heap.size w27 w27:=Below.refl _ _
    refine Zr C<|Zm rfl<|Zm rfl ?_
    refine Zg 185 rfl (fun aP=>?_) (fun aP=>?_)
    ·refine Zv (gW aP) (X3 rfl) ?_;refine Zv (gW aP) (X3 rfl) ?_;refine Zk (gW aP) (X1m (vs:=[.slice a8 (othW d.ws q p).length aA,vi v9]) rfl Xcg (by have h9:=Xqg _ a8 aA (othW d.ws q p) h.rd.top v9 (by omega);rw [X89] at h9;exact h9)) ?_;rintro _ w28 ⟨rfl,B⟩;have E:=tsbel E B;have J:=btr J B;refine Ze (X4 rfl aP rfl)<|Za rfl ?_;refine Zn fun a C=>?_
     have Q:Below w27.heap.size w27 w28:=J
     exact ⟨C.sub ⟨rfl,rfl,rfl,rfl,rfl,rfl,rfl,rfl,rfl,rfl,X1 rfl (by simp [U,aH,aJ,b1,aP]),rfl,rfl,rfl,rfl,rfl,rfl,trivial⟩,Q⟩
    (iterate 3 refine Zp (gP aP) ?_);refine Ze (Xe rfl aP rfl)<|Za rfl ?_;refine Zn fun a C=>?_
    have Q:Below w27.heap.size w27 w27:=J
    exact ⟨C.sub ⟨rfl,rfl,rfl,rfl,rfl,rfl,rfl,rfl,rfl,rfl,X1 rfl (by simp [U,aH,aJ,b1,aP]),rfl,rfl,rfl,rfl,rfl,rfl,trivial⟩,Q⟩
   rintro a w29 ⟨C,B⟩;have b:=b.bw B;have e:=e.bw B;have f:=f.bw B;have h:=h.bw B;have g:=g.bw B;have aN:=aN.bw B;have aO:=aO.bw B;have E:=tsbel E B;refine eE _ _<|Q5 fun _ eF=>?_;refine X0b (fun a w=>Fr a 233 [(0,(pZ9 bV)),(7,.slice a6 (othW d.ws p q).length a7),(8,.slice a8 (othW d.ws q p).length aA),(9,.slice aE (pvL d p q).length aG),(10,vi ((d.ns.getD p.toNat nZ).p)),(11,vi ((d.ns.getD q.toNat nZ).p)),(13,vi I),(14,.bool ((othW d.ws p q).any fun v=>v==I)),(15,.bool ((othW d.ws q p).any fun v=>v==I)),(17,vi v9),(18,.bool (((othW d.ws p q).any fun v=>v==I)&&((othW d.ws q p).any fun v=>v==v9))),(19,.bool (((othW d.ws q p).any fun v=>v==I)&&((othW d.ws p q).any fun v=>v==v9))),(143,.slice aE (pvL d p q).length aG),(144,vi ((pvL d p q).length:Int)),(145,vi (k:Int)),(178,.slice aE ((pvL d p q).take k).length aG),(179,vi (((pvL d p q).take k).length:Int)),(180,vi (j:Int))]/\Below w29.heap.size w29 w) ?_ ?_
   ·have J:Below w29.heap.size w29 w29:=Below.refl _ _
    refine Zr C<|Zm rfl<|Zm rfl ?_
    refine Zg 191 rfl (fun aQ=>?_) (fun aQ=>?_)
    ·refine Zv (gW aQ) (X3 rfl) ?_;refine Zv (gW aQ) (X3 rfl) ?_;refine Zk (gW aQ) (X1m (vs:=[.slice a6 (othW d.ws p q).length a7,vi v9]) rfl Xcg (by have h9:=Xqg _ a6 a7 (othW d.ws p q) f.rd.top v9 (by omega);rw [X89] at h9;exact h9)) ?_;rintro _ w30 ⟨rfl,B⟩;have E:=tsbel E B;have J:=btr J B;refine Ze (X4 rfl aQ rfl)<|Za rfl ?_;refine Zn fun a C=>?_
     have Q:Below w29.heap.size w29 w30:=J
     exact ⟨C.sub ⟨rfl,rfl,rfl,rfl,rfl,rfl,rfl,rfl,rfl,rfl,rfl,X1 rfl (by simp [U,aH,aJ,b1,aQ]),rfl,rfl,rfl,rfl,rfl,rfl,trivial⟩,Q⟩
    (iterate 3 refine Zp (gP aQ) ?_);refine Ze (Xe rfl aQ rfl)<|Za rfl ?_;refine Zn fun a C=>?_
    have Q:Below w29.heap.size w29 w29:=J
    exact ⟨C.sub ⟨rfl,rfl,rfl,rfl,rfl,rfl,rfl,rfl,rfl,rfl,rfl,X1 rfl (by simp [U,aH,aJ,b1,aQ]),rfl,rfl,rfl,rfl,rfl,rfl,trivial⟩,Q⟩
   rintro a gL ⟨C,B⟩;have b:=b.bw B;have e:=e.bw B;have f:=f.bw B;have h:=h.bw B;have g:=g.bw B;have aN:=aN.bw B;have aO:=aO.bw B;have E:=tsbel E B;refine eF _ _<|Zs C fun _ eG=>?_;refine Zm rfl<|Zm rfl<|Ze (X9l Tryz.underlying4 rfl rfl)<|Zt eG fun a C=>?_
   refine Xi C rfl (fun b8=>?_) (fun b8=>?_)
   ·have cJ:=b8;have cK:=Xy5 (o:=z) b8;refine Zr C<|Zm rfl<|Zm rfl<|Zm rfl<|Zf (Vc (Xix _ bV B0 A0 c0 bF bK m0 z ⟨b,e,aO,bS⟩ (Q0 bL E.size) v9 I bT (by have:=fG;have:=f8;rw [Qn] at hj;omega)) Xc5) ?_;rintro _ gM ⟨fH,fI,rfl,N,bG,aT,aF,eH,fJ⟩;have f:=f.tu N b rfl (alc (X10 e rfl) (alc (X10 aO rfl) al0));have h:=h.tu N b rfl (alc (X10 e rfl) (alc (X10 aO rfl) al0));have g:=g.tu N b rfl (alc (X10 e rfl) (alc (X10 aO rfl) al0));have aN:=aN.tu N b rfl (alc (X10 e rfl) (alc (X10 aO rfl) al0));have aI:=SB.lift (S:=SB bV [A0,A1]) (w0:=w0) (.inl (.inl rfl)) (alc bM (alc bQ al0));have bG:=Us.trans bG aI E.size
    have E:=tstr E N aI;clear aI
    clear N b;have b:=aT;clear aT
    clear e;have e:=aF;clear aF;refine Zn fun a C=>?_;refine Xc<|bY _ _<|Zr C<|Ze (Xm rfl rfl (by omega) (by omega))<|Zm rfl ?_;refine Zn fun a C=>?_;refine Xd ?_;exact ⟨(j+1,(tgI z v9 I)),⟨fH,fI,C.sb,(by omega),(by rw [X39 bU,<- hz,cK]),(by rw [Xbq];exact bS),(by have:=Xfz z v9 I;omega),(by rw [Xbq];exact cH),(Xln bT v9 I),b,e,f,h,g,aN,eH,bG,E⟩,(by first|omega|(dsimp only;omega))⟩
   have cJ:=b8;have cK:=Xz1 (o:=z) b8;refine Q7<|Xc<|bY _ _<|Zr C ?_;refine Ze (Xm rfl rfl (by omega) (by omega))<|Zm rfl ?_;refine Zn fun a C=>?_;refine Xd ?_;exact ⟨(j+1,z),⟨bF,bK,C.sb,(by omega),(by rw [X39 bU,<- hz,cK]),bS,(by omega),cH,bT,b,e,f,h,g,aN,aO,bQ,E⟩,(by first|omega|(dsimp only;omega))⟩
  have b1:=aV;have aV:=Q1 aV
  have gN:j<=k:=by rw [Qn] at hj;omega
  have fK:z=pvI (d.ns.getD p.toNat nZ).p (d.ns.getD q.toNat nZ).p (othW d.ws p q) (othW d.ws q p) (pvL d p q) (id0 (id0 d p) q) (k+1):=by rw [hz,Qi (by have:=aV;omega),dO,Xdd cG]
  refine Q9<|Xk<|Xk<|X03 ?_;refine Xc<|dS _ _<|Zr C<|Ze (Xm rfl rfl (by omega) (by omega))<|Zm rfl ?_;refine Zn fun a C=>?_;refine Xd ?_;exact ⟨(k+1,z),⟨bF,bK,C.sb,(by omega),fK,bS,(by omega),cH,bT,b,e,f,h,g,aO,bQ,E⟩,(by first|omega|(dsimp only;omega))⟩
 have aJ:=aU;have aU:=Q1 aU
 have fL:k=(pvL d p q).length:=by have:=aU;omega
 have eI:=Xm4 (l:=(othW d.ws p q)) (m:=(othW d.ws q p)) eX bX dH bN.1 bN.2 _ (Qb _)
 have bZ:o=pvM (d.ns.getD p.toNat nZ).p (d.ns.getD q.toNat nZ).p (othW d.ws p q) (othW d.ws q p) (pvL d p q) (id0 (id0 d p) q) (pvL d p q).length:=by rw [dO,fL];exact eI.1
 have fM:o.t=d.t:=by rw [bZ];exact eI.2.2.2.2
 have c5:=Xu4 eQ.2.2.1 bZ fM bN;refine Q9<|Xk<|Xk<|X03 ?_;refine dM _ _<|Q5 fun _ cA=>?_;refine Q5 fun _ eJ=>?_;refine X0b (fun a w=>Fr a 233 [(0,(pZ9 bV)),(7,.slice a6 (othW d.ws p q).length a7),(8,.slice a8 (othW d.ws q p).length aA),(210,.bool ((((d.ns.getD p.toNat nZ).p)==4)&&(((d.ns.getD q.toNat nZ).p)==4)))]/\f7=w) ?_ ?_
 ·refine Zr C<|Zm rfl<|Ze (X0m rfl rfl)<|Zm rfl ?_
  refine Zg 207 rfl (fun aR=>?_) (fun aR=>?_)
  ·refine Zv (gW aR) (X3 rfl) ?_;refine Zv (gW aR) (X0m rfl rfl) ?_;refine Ze (X4 rfl aR rfl) ?_;refine Zn fun a C=>?_;exact ⟨C.sub ⟨rfl,rfl,rfl,X1 rfl (by first|rfl|(simp only [U,aH,aJ,aR,bs];done)|simp [U,aH,aJ,aR]),trivial⟩,rfl⟩
  (iterate 2 refine Zp (gP aR) ?_);refine Ze (Xe rfl aR rfl) ?_;refine Zn fun a C=>?_;exact ⟨C.sub ⟨rfl,rfl,rfl,X1 rfl (by first|rfl|(simp only [U,aH,aJ,aR,bs];done)|simp [U,aH,aJ,aR]),trivial⟩,rfl⟩
 rintro a _ ⟨C,rfl⟩;refine eJ _ _ ?_
 refine Xi C rfl (fun b9=>?_) (fun b9=>?_)
 ·have cL:=b9;have cM:=b9;refine Zr C<|Zm rfl<|Zm rfl<|Ze (X0a rfl)<|Ze (Vd rfl X0u 3)<|Ze (X0 rfl X7 (b.at 3))<|Ze (X2n rfl rfl)<|Ze (X33 rfl rfl rfl)<|Ze (X0a rfl)<|Ze (Vd rfl X0u 3)<|Zo (X1a (vs:=[vi ((wr (o.t+4)).tmod 8)]) (l':=[vi o.n,.slice A0 m0 c0,.slice aX o.ws.length b2,vi ((wr (o.t+4)).tmod 8),vi o.r]) rfl rfl X09 b rfl rfl rfl rfl rfl) ?_;rintro _ gO ⟨ho,hb⟩;have aW:=b;have e:=e.oT ho aW rfl;have M:=M.oT ho aW rfl;have E:=tsonly E ho (.inl (.inl rfl));have b:=hb;refine Zx cA fun a C _ eK=>?_;refine Zm rfl<|Ze (X0a rfl)<|Ze (Vd rfl X07 4)<|Ze (X0 rfl X7 (b.at 4))<|Zm rfl<|Ze (X0c rfl Xj)<|Ze (X11 rfl rfl (by omega) (by omega))<|Zm rfl<|Ze (X0c rfl Xj)<|Ze (X11 rfl rfl (by omega) (by omega)) ?_;refine Ze (X2n rfl rfl)<|Ze (X0a rfl)<|Ze (Vd rfl X07 4)<|Zo (X1a (vs:=[vi (wr (o.r+((1-((othW d.ws p q).length:Int))-((othW d.ws q p).length:Int))))]) (l':=[vi o.n,.slice A0 m0 c0,.slice aX o.ws.length b2,vi ((wr (o.t+4)).tmod 8),vi (wr (o.r+((1-((othW d.ws p q).length:Int))-((othW d.ws q p).length:Int))))]) rfl rfl X09 b rfl rfl rfl rfl rfl) ?_;rintro _ gQ ⟨ho,hb⟩;have aW:=b;have e:=e.oT ho aW rfl;have M:=M.oT ho aW rfl;have E:=tsonly E ho (.inl (.inl rfl));have b:=hb;refine Zx eK fun a C _ eL=>?_;refine Za rfl<|Zt eL fun a C=>?_
  refine Q6 (X6 C (Xu C rfl rfl) ?_)
  rw [dG,Q4 rfl,c5,Q4 cM]
  exact ⟨aX,b2,rfl,E,aZ,⟨b,e,M,bO⟩⟩
 have cL:=b9;have cM:=b9;refine Q7<|cA _ _<|Zs C fun _ eM=>?_;refine Zm rfl<|Ze (X0a rfl)<|Ze (Vd rfl X07 4)<|Ze (X0 rfl X7 (b.at 4))<|Zm rfl<|Ze (X0c rfl Xj)<|Ze (X11 rfl rfl (by omega) (by omega))<|Zm rfl<|Ze (X0c rfl Xj)<|Ze (X11 rfl rfl (by omega) (by omega)) ?_;refine Ze (X2n rfl rfl)<|Ze (X0a rfl)<|Ze (Vd rfl X07 4)<|Zo (X1a (vs:=[vi (wr (o.r+((1-((othW d.ws p q).length:Int))-((othW d.ws q p).length:Int))))]) (l':=[vi o.n,.slice A0 m0 c0,.slice aX o.ws.length b2,vi o.t,vi (wr (o.r+((1-((othW d.ws p q).length:Int))-((othW d.ws q p).length:Int))))]) rfl rfl X09 b rfl rfl rfl rfl rfl) ?_;rintro _ gR ⟨ho,hb⟩;have aW:=b;have e:=e.oT ho aW rfl;have M:=M.oT ho aW rfl;have E:=tsonly E ho (.inl (.inl rfl));have b:=hb;refine Zx eM fun a C _ eO=>?_;refine Za rfl<|Zt eO fun a C=>?_
 refine Q6 (X6 C (Xu C rfl rfl) ?_)
 rw [dG,Q4 rfl,c5,Q3 (by rw [cM];decide)]
 exact ⟨aX,b2,rfl,E,aZ,⟨b,e,M,bO⟩⟩
theorem Y0v(w0:World)(bV B0:Nat)(A0:Option Addr)(c0:Nat)(A1:Option Addr)(c1 m0:Nat)(d:Dg)(bQ:Dgm w0 bV B0 A0 c0 A1 c1 m0 d)(aK:B0<=w0.heap.size)(r:Rz)(hG:goodD d=true) : Ret Tryz.prog 122 [(pZ9 bV),.agg #[vi r.u,vi r.a,vi r.b]] w0 (fun v w=>∃ A c,v=.bool (doC d r)/\TurnS (SB bV [A0,A1]) w0 w/\Us (SB bV [A0,A1]) w0 A/\Dgm w bV B0 A0 c0 A c m0 (if doC d r=true then outD (doD d r) else d)):=by
 obtain ⟨e,g,q,Q⟩:=bQ;have cE:=e.lt
 have aL:Us (SB bV [A0,A1]) w0 A0:=SB.us (by simp)
 have a7:Us (SB bV [A0,A1]) w0 A1:=SB.us (by simp)
 have hD:=X0t hG;have cG:=hD.m;have cH:=hD.len;refine enter Tryz.func122 rfl 89 rfl rfl ?_;intro a j
 have h:TurnS (SB bV [A0,A1]) w0 w0:=TurnS.refl _ _
 refine Zs j fun _ bR=>?_;refine Zf (X0n (zs:=[vi r.u,vi r.a,vi r.b]) rfl rfl) ?_;rintro _ w1 ⟨b4,rfl,bS,D,i⟩;have cF:=Q0 h.size bS;have e:=e.bw D;have g:=g.bw D;have q:=q.bw D;have h:=tsbel h D;refine Za rfl<|ZX bR fun a j _ bT=>?_;refine Q5 fun _ bU=>?_;refine X0b (fun a w=>Fr a 89 [(0,(pZ9 bV)),(3,(pZ9 b4)),(17,.bool (((r.b != 0)&&(r.u != 1))&&(r.u != 4)))]/\w1=w) ?_ ?_
 ·refine Zr j<|Ze (Vd rfl X3r 2)<|Ze (X0 rfl X7 (i.at 2))<|Ze (X1o rfl rfl)<|Zm rfl ?_
  refine Zg 8 rfl (fun N=>?_) (fun N=>?_)
  ·refine Zv (gW N) (Vd rfl X4n 0) ?_;refine Zv (gW N) (X0 rfl X7 (i.at 0)) ?_;refine Zv (gW N) (X1o rfl rfl) ?_;refine Ze (X4 rfl N rfl)<|Zm rfl ?_
   refine Zg 13 rfl (fun U=>?_) (fun U=>?_)
   ·refine Zv (gW U) (Vd rfl X4n 0) ?_;refine Zv (gW U) (X0 rfl X7 (i.at 0)) ?_;refine Zv (gW U) (X1o rfl rfl) ?_;refine Ze (X4 rfl U rfl) ?_;refine Zn fun a j=>?_;exact ⟨j.sub ⟨rfl,rfl,X1 rfl (by simp [N,U]),trivial⟩,rfl⟩
   (iterate 3 refine Zp (gP U) ?_);refine Ze (Xe rfl U rfl) ?_;refine Zn fun a j=>?_;exact ⟨j.sub ⟨rfl,rfl,X1 rfl (by simp [N,U]),trivial⟩,rfl⟩
  (iterate 3 refine Zp (gP N) ?_);refine Ze (Xe rfl N rfl)<|Zm rfl<|Zp (gP rfl) ?_;(iterate 2 refine Zp (gP rfl) ?_);refine Ze (Xe rfl rfl rfl) ?_;refine Zn fun a j=>?_;exact ⟨j.sub ⟨rfl,rfl,X1 rfl (by simp [N]),trivial⟩,rfl⟩
 rintro a _ ⟨j,rfl⟩;refine bU _ _ ?_
 refine Xi j rfl (fun aM=>?_) (fun aM=>?_)
 ·have W:=aM
  have aN:doC d r=false:=Y0b aM
  refine Zs j fun _ aY=>?_;refine Za rfl<|Zt aY fun a j=>?_;refine Q6<|Xa<|X6 j (Xu j rfl rfl) ?_
  rw [aN,Q3 Bool.false_ne_true]
  exact ⟨A1,c1,rfl,h,a7,⟨e,g,q,Q⟩⟩
 have W:=aM;have aR:=aM;refine Q7<|bT _ _<|Q5 fun _ aZ=>?_;refine Zs j fun _ b0=>?_;refine Ze (Vd rfl X4n 0)<|Ze (X0 rfl X7 (i.at 0))<|Zt b0 fun a j=>?_;refine Q8<|Zs j fun _ b1=>?_;refine Ze (X0m rfl rfl)<|Za rfl<|Zt b1 fun a j=>?_
 refine Xi j rfl (fun a8=>?_) (fun a8=>?_)
 ·have H:=a8;have E:=Y1f hG a8;refine Zs j fun _ b2=>?_;refine Zm rfl<|Ze (Vd rfl X1s 1)<|Ze (X0 rfl X7 (i.at 1))<|Ze (Vd rfl X3r 2)<|Ze (X0 rfl X7 (i.at 2))<|Zf (Vc (Y1y _ bV B0 A0 c0 A1 c1 m0 d ⟨e,g,q,Q⟩ (Q0 aK h.size) r.a r.b hG) Xqs) ?_;rintro _ w2 ⟨bW,bX,rfl,B,aF,G,x,b3,aS⟩;have i:=i.tu B e rfl (alc (nrow g i rfl) (alc (nrow q i rfl) al0));have C:=SB.lift (S:=SB bV [A0,A1]) (w0:=w0) (.inl (.inl rfl)) (alc aL (alc a7 al0));have aF:=Us.trans aF C h.size
  have h:=tstr h B C;clear C
  clear B e;have e:=G;clear G
  clear g;have g:=x;clear x;refine Za rfl<|Zt b2 fun a j=>?_;refine Q6<|X02<|Xa<|X6 j (Xu j rfl rfl) ?_
  rw [E.1,E.2]
  exact ⟨bW,bX,rfl,h,aF,⟨e,g,b3,aS⟩⟩
 have H:=a8
 have g1:=a8
 refine Zs j fun _ b5=>?_;refine Ze (X0m rfl rfl)<|Za rfl<|Zt b5 fun a j=>?_
 refine Xi j rfl (fun aA=>?_) (fun aA=>?_)
 ·have I:=aA;have E:=Y07 hG aR aA;refine Zs j fun _ b6=>?_;refine Zm rfl<|Ze (Vd rfl X1s 1)<|Ze (X0 rfl X7 (i.at 1))<|Zf (Vc (Y0h _ bV B0 A0 c0 A1 c1 m0 d ⟨e,g,q,Q⟩ (Q0 aK h.size) r.a hG) Xps) ?_;rintro _ w3 ⟨bY,bZ,rfl,B,aG,G,x,b7,aT⟩;have i:=i.tu B e rfl (alc (nrow g i rfl) (alc (nrow q i rfl) al0));have C:=SB.lift (S:=SB bV [A0,A1]) (w0:=w0) (.inl (.inl rfl)) (alc aL (alc a7 al0));have aG:=Us.trans aG C h.size
  have h:=tstr h B C;clear C
  clear B e;have e:=G;clear G
  clear g;have g:=x;clear x;refine Za rfl<|Zt b6 fun a j=>?_;refine Q6<|X02<|Xa<|X6 j (Xu j rfl rfl) ?_
  rw [E.1,E.2]
  exact ⟨bY,bZ,rfl,h,aG,⟨e,g,b7,aT⟩⟩
 have I:=aA
 have g2:=aA
 refine Zs j fun _ b8=>?_;refine Ze (X0m rfl rfl)<|Za rfl<|Zt b8 fun a j=>?_
 refine Xi j rfl (fun aB=>?_) (fun aB=>?_)
 ·have J:=aB;have E:=Xzo (d:=d) aR aB;refine Zs j fun _ b9=>?_;refine Zm rfl<|Ze (Vd rfl X1s 1)<|Ze (X0 rfl X7 (i.at 1))<|Zf (Vc (Xya _ bV B0 A0 c0 A1 c1 m0 d ⟨e,g,q,Q⟩ (Q0 aK h.size) r.a hG) Xoe) ?_;rintro _ w4 ⟨c5,cA,rfl,B,aH,G,x,bA,aU⟩;have i:=i.tu B e rfl (alc (nrow g i rfl) (alc (nrow q i rfl) al0));have C:=SB.lift (S:=SB bV [A0,A1]) (w0:=w0) (.inl (.inl rfl)) (alc aL (alc a7 al0));have aH:=Us.trans aH C h.size
  have h:=tstr h B C;clear C
  clear B e;have e:=G;clear G
  clear g;have g:=x;clear x;refine Za rfl<|Zt b9 fun a j=>?_;refine Q6<|X02<|Xa<|X6 j (Xu j rfl rfl) ?_
  rw [E.1,E.2]
  exact ⟨c5,cA,rfl,h,aH,⟨e,g,bA,aU⟩⟩
 have J:=aB
 have g3:=aB
 refine Zs j fun _ bB=>?_;refine Ze (X0m rfl rfl)<|Za rfl<|Zt bB fun a j=>?_
 refine Xi j rfl (fun aC=>?_) (fun aC=>?_)
 ·have L:=aC;have E:=Xz8 (d:=d) aC;refine Zs j fun _ bC=>?_;refine Zm rfl<|Ze (Vd rfl X1s 1)<|Ze (X0 rfl X7 (i.at 1))<|Ze (Vd rfl X3r 2)<|Ze (X0 rfl X7 (i.at 2))<|Zf (Vc (Y17 _ bV B0 A0 c0 A1 c1 m0 d ⟨e,g,q,Q⟩ (Q0 aK h.size) r.a r.b hG) Xnr) ?_;rintro _ w5 ⟨cB,cC,rfl,B,aI,G,x,bD,aV⟩;have i:=i.tu B e rfl (alc (nrow g i rfl) (alc (nrow q i rfl) al0));have C:=SB.lift (S:=SB bV [A0,A1]) (w0:=w0) (.inl (.inl rfl)) (alc aL (alc a7 al0));have aI:=Us.trans aI C h.size
  have h:=tstr h B C;clear C
  clear B e;have e:=G;clear G
  clear g;have g:=x;clear x;refine Za rfl<|Zt bC fun a j=>?_;refine Q6<|X02<|Xa<|X6 j (Xu j rfl rfl) ?_
  rw [E.1,E.2]
  exact ⟨cB,cC,rfl,h,aI,⟨e,g,bD,aV⟩⟩
 have L:=aC
 have g4:=aC
 refine Zs j fun _ bE=>?_;refine Ze (X0m rfl rfl)<|Za rfl<|Zt bE fun a j=>?_
 refine Xi j rfl (fun aD=>?_) (fun aD=>?_)
 ·have M:=aD;have E:=Y0s hG aR aD;refine Q5 fun _ bF=>?_;refine Q5 fun _ bG=>?_;refine X0b (fun a w=>Fr a 89 [(0,(pZ9 bV)),(3,(pZ9 b4)),(77,.bool (((!(spI d.ns r.a))||(((d.ns.getD r.a.toNat nZ).p) != 0))||((cnW d.ws r.a) != 0)))]/\Below w1.heap.size w1 w) ?_ ?_
  ·have a6:Below w1.heap.size w1 w1:=Below.refl _ _
   refine X00 none (fun _=>false) mixed ?_;intro w6 D;have e:=e.bw D;have i:=i.bw D;have g:=g.bw D;have q:=q.bw D;have h:=tsbel h D;have a6:=btr a6 D;refine Yb j<|Yo 0 rfl (fun _=>X3 rfl)<|Yo 1 rfl (fun _=>X0a rfl)<|Ye 2 rfl (X01 (l:=[vi d.n,.slice A0 m0 c0,.slice A1 d.ws.length c1,vi d.t,vi d.r]) rfl X2 (e.at 0) rfl)<|Yo 3 rfl (fun _=>Vd rfl X1s 1)<|Ye 4 rfl (X0 rfl X7 (i.at 1))<|Y1 5 ?_;refine Yk rfl tv0 (Vc (X59 _ d m0 Q A0 c0 g.rd.top A1 c1 q.rd.top q.cap r.a (by omega)) X2r) (fun _ _ ⟨_,D⟩=>D) ?_;rintro _ w7 ⟨rfl,D⟩;have e:=e.bw D;have i:=i.bw D;have g:=g.bw D;have q:=q.bw D;have h:=tsbel h D;have a6:=btr a6 D;refine Yo 6 rfl (fun _=>X0y rfl)<|Yo 7 rfl (fun _=>X3 rfl) ?_
   refine Yl 57 rfl (fun f=>?_) (fun f=>?_)
   ·refine Yp 8 rfl (gP f) ?_;refine Yp 9 rfl (gP f) ?_;refine Yp 10 rfl (gP f) ?_;refine Yp 11 rfl (gP f) ?_;refine Yp 12 rfl (gP f) ?_;refine Yp 13 rfl (gP f) ?_;refine Yp 14 rfl (gP f) ?_;refine Yp 15 rfl (gP f) ?_;refine Yp 16 rfl (gP f) ?_;refine Yp 17 rfl (gP f) ?_;refine Yo 18 rfl (fun _=>X4 rfl f rfl)<|Yo 19 rfl (fun _=>X3 rfl)<|Yp 20 rfl (gP rfl) ?_;refine Yp 21 rfl (gP rfl) ?_;refine Yp 22 rfl (gP rfl) ?_;refine Yp 23 rfl (gP rfl) ?_;refine Yp 24 rfl (gP rfl) ?_;refine Y1 25<|Yq rfl ⟨_,_,rfl,rfl,rfl⟩ ?_;refine Yp 26 rfl (gP rfl) ?_;refine Yo 27 rfl (fun _=>X4 rfl rfl rfl) ?_;refine Yd fun a j=>?_
    have aO:Below w1.heap.size w1 w7:=a6
    exact ⟨j.sub ⟨rfl,rfl,X1 rfl (by simp [W,H,I,J,L,M,f]),trivial⟩,aO⟩
   have bH:0<=r.a/\r.a.toNat<d.ns.length:=by have h9:=X0f (ns:=d.ns) (k:=r.a) (by simpa using f);exact ⟨h9.1,h9.2.1⟩
   refine Yu 8 rfl (gW f) (fun _=>X3 rfl) ?_;refine Yu 9 rfl (gW f) (fun _=>X0a rfl) ?_;refine Yu 10 rfl (gW f) (fun _=>Vd rfl Xg 1) ?_;refine Yv 11 rfl (gW f) (X0 rfl Xy (e.at 1)) ?_;refine Yu 12 rfl (gW f) (fun _=>Vd rfl X1s 1) ?_;refine Yv 13 rfl (gW f) (X0 rfl X7 (i.at 1)) ?_;refine Yu 14 rfl (gW f) (fun _=>Xx (k:=r.a.toNat) rfl rfl Xl X08 g Q (by omega) (by omega)) ?_;refine Yu 15 rfl (gW f) (fun _=>X12 rfl X06 (m':=r.a.toNat*2+1) rfl) ?_;refine Yv 16 rfl (gW f) (X0 rfl X7 (X0h g Xw (Xb (d:=nZ) (by omega)) 1 rfl)) ?_;refine Yu 17 rfl (gW f) (fun _=>X1o rfl rfl) ?_;refine Yo 18 rfl (fun _=>Xe rfl f rfl)<|Yo 19 rfl (fun _=>X3 rfl) ?_
   refine Yl 69 rfl (fun o=>?_) (fun o=>?_)
   ·refine Yp 20 rfl (gP o) ?_;refine Yp 21 rfl (gP o) ?_;refine Yp 22 rfl (gP o) ?_;refine Yp 23 rfl (gP o) ?_;refine Yp 24 rfl (gP o) ?_;refine Y1 25<|Yq rfl ⟨_,_,rfl,rfl,o⟩ ?_;refine Yp 26 rfl (gP o) ?_;refine Yo 27 rfl (fun _=>X4 rfl o rfl) ?_;refine Yd fun a j=>?_
    have aO:Below w1.heap.size w1 w7:=a6
    exact ⟨j.sub ⟨rfl,rfl,X1 rfl (by first|rfl|(simp only [W,H,I,J,L,M,f,o,bs];done)|simp [W,H,I,J,L,M,f,o]),trivial⟩,aO⟩
   refine Yu 20 rfl (gW o) (fun _=>X3 rfl) ?_;refine Yu 21 rfl (gW o) (fun _=>X0a rfl) ?_;refine Yv 22 rfl (gW o) (X01 (l:=[vi d.n,.slice A0 m0 c0,.slice A1 d.ws.length c1,vi d.t,vi d.r]) rfl X2 (e.at 0) rfl) ?_;refine Yu 23 rfl (gW o) (fun _=>Vd rfl X1s 1) ?_;refine Yv 24 rfl (gW o) (X0 rfl X7 (i.at 1)) ?_;refine Y1 25<|Yk rfl ⟨_,_,rfl,rfl,o⟩ (Vc (X9i _ d m0 Q A0 c0 g.rd.top A1 c1 q.rd.top q.cap r.a (by omega)) X4q) (fun _ _ ⟨_,D⟩=>D) ?_;rintro _ w8 ⟨rfl,D⟩;have h:=tsbel h D;have a6:=btr a6 D;refine Yu 26 rfl (gW o) (fun _=>X1o rfl rfl) ?_;refine Yo 27 rfl (fun _=>Xe rfl o rfl) ?_;refine Yd fun a j=>?_
   have aO:Below w1.heap.size w1 w8:=a6
   exact ⟨j.sub ⟨rfl,rfl,X1 rfl (by first|rfl|(simp only [W,H,I,J,L,M,f,o,bs];done)|simp [W,H,I,J,L,M,f,o]),trivial⟩,aO⟩
  rintro a w9 ⟨j,D⟩;have e:=e.bw D;have i:=i.bw D;have g:=g.bw D;have q:=q.bw D;have h:=tsbel h D;refine bG _ _ ?_
  refine Xi j rfl (fun aE=>?_) (fun aE=>?_)
  ·have aW:=aE;have aN:=Xv9 hD aE;refine Zs j fun _ bJ=>?_;refine Za rfl<|Zt bJ fun a j=>?_;refine Q6<|Xa<|X02<|Xa ?_;refine X6 j (Xu j rfl rfl) ?_
   rw [E.1,aN,Q3 Bool.false_ne_true]
   exact ⟨A1,c1,rfl,h,a7,⟨e,g,q,Q⟩⟩
  have aW:=aE;obtain ⟨cD,bH⟩:=Xp5 hD aE;refine Q7<|bF _ _<|Zs j fun _ bK=>?_;refine Zm rfl<|Ze (Vd rfl X1s 1)<|Ze (X0 rfl X7 (i.at 1))<|Zf (Vc (Xav _ bV B0 A0 c0 A1 c1 m0 d ⟨e,g,q,Q⟩ (Q0 aK h.size) r.a bH (by omega)) X5z) ?_;rintro _ cI ⟨bL,bM,B,aJ,G,x,aP,aX⟩;have i:=i.tu B e rfl (alc (nrow g i rfl) (alc (nrow q i rfl) al0));have C:=SB.lift (S:=SB bV [A0,A1]) (w0:=w0) (.inl (.inl rfl)) (alc aL (alc a7 al0));have aJ:=Us.trans aJ C h.size
  have h:=tstr h B C;clear C
  clear B e;have e:=G;clear G
  clear g;have g:=x;clear x;refine Zx bK fun a j _ bN=>?_;refine Zm rfl<|Ze (X0a rfl)<|Ze (Vd rfl X07 4)<|Ze (X0 rfl X7 (e.at 4))<|Ze (X2n rfl rfl)<|Ze (X0a rfl)<|Ze (Vd rfl X07 4)<|Zo (X1a (vs:=[vi (wr (((id0 d r.a).r)+2))]) (l':=[vi ((id0 d r.a).n),.slice A0 m0 c0,.slice bL ((id0 d r.a).ws).length bM,vi ((id0 d r.a).t),vi (wr (((id0 d r.a).r)+2))]) rfl rfl X09 e rfl rfl rfl rfl rfl) ?_;rintro _ cJ ⟨ho,hb⟩;have aQ:=e;have g:=g.oT ho aQ rfl;have aP:=aP.oT ho aQ rfl;have h:=tsonly h ho (.inl (.inl rfl));have e:=hb;refine Zx bN fun a j _ bO=>?_;refine Za rfl<|Zt bO fun a j=>?_;refine Q6<|X02<|Xa<|X6 j (Xu j rfl rfl) ?_
  rw [E.1,E.2,cD,Q4 rfl]
  exact ⟨bL,bM,rfl,h,aJ,⟨e,g,aP,aX⟩⟩
 have M:=aD
 have aN:doC d r=false:=Y11 g1 g2 g3 g4 aD
 refine Q7<|Xc<|aZ _ _<|Zs j fun _ bP=>?_;refine Za rfl<|Zt bP fun a j=>?_
 refine Q6 (X6 j (Xu j rfl rfl) ?_)
 rw [aN,Q3 Bool.false_ne_true]
 exact ⟨A1,c1,rfl,h,a7,⟨e,g,q,Q⟩⟩
theorem Xz4(U:World)(d:Dg)(md:Nat)(aG:md=d.ns.length)(Ad:Option Addr)(cd:Nat)(aH:Rd U U.heap.size 81 encNd Ad d.ns)(Bd:Option Addr)(dd:Nat)(aI:Rd U U.heap.size 83 encWr Bd d.ws)(aJ:d.ws.length<=dd)(x:Rz)(hG:goodD d=true) : Ret Tryz.prog 67 [.agg #[vi d.n,.slice Ad md cd,.slice Bd d.ws.length dd,vi d.t,vi d.r],.agg #[vi x.u,vi x.a,vi x.b]] U (fun v w=>∃ A c1 B e,v=.tuple #[.agg #[vi (if (apC d x)=true then apD d x else zD).n,.slice A (if (apC d x)=true then apD d x else zD).ns.length c1,.slice B (if (apC d x)=true then apD d x else zD).ws.length e,vi (if (apC d x)=true then apD d x else zD).t,vi (if (apC d x)=true then apD d x else zD).r],.bool (apC d x)]/\Rd w w.heap.size 81 encNd A (if (apC d x)=true then apD d x else zD).ns/\Rd w w.heap.size 83 encWr B (if (apC d x)=true then apD d x else zD).ws/\(if (apC d x)=true then apD d x else zD).ws.length<=e/\Below U.heap.size U w):=by
 subst aG
 have hD:=X0t hG;have bA:=hD.m;have bB:=hD.len;refine enter Tryz.func67 rfl 17 rfl rfl ?_;intro a D
 have i:=bz U
 refine Zs D fun _ aW=>?_;refine Zf (X0n (zs:=[vi d.n,.slice Ad d.ns.length cd,.slice Bd d.ws.length dd,vi d.t,vi d.r]) rfl rfl) ?_;rintro _ w1 ⟨b4,rfl,aX,q,h⟩;have b7:=Q0 i.size aX;have i:=btr i q;refine Zf (X0n (zs:=[vi x.u,vi x.a,vi x.b]) rfl rfl) ?_;rintro _ w2 ⟨b5,rfl,aY,q,k⟩;have b9:=Q0 i.size aY;have h:=h.bw q;have i:=btr i q;refine Zf (Xo (zs:=[vi 0,.slice none 0 0,.slice none 0 0,vi 0,vi 0]) X0o rfl) ?_;rintro _ w3 ⟨b8,rfl,aZ,q,f⟩
 have aV:b4≠b8:=by have:=h.lt;omega
 have a6:=Q0 i.size aZ;have h:=h.bw q;have k:=k.bw q;have i:=btr i q;refine Za rfl<|Zx aW fun a D _ b0=>?_;refine Ze (Vn X2 h)<|Zf (Vc (Xj0 _ d d.ns.length rfl Ad cd (aH.bx i).top Bd dd (aI.bx i).top aJ ⟨by omega,by omega⟩) Xc1) ?_;rintro _ w4 ⟨aA,aB,aK,aL,rfl,g,j,q⟩;have g:=g.lower i.size;have j:=j.lower i.size;have h:=h.bw q;have k:=k.bw q;have f:=f.bw q;have i:=btr i q;refine Zf (Xo (zs:=[vi 0,.slice none 0 0,.slice none 0 0,vi 0,vi 0]) X0o rfl) ?_;rintro _ w5 ⟨b14,rfl,aM,q,o⟩
 have aN:b4≠b14:=by have:=h.lt;omega
 have E:b8≠b14:=by have:=f.lt;omega
 have G:=Q0 i.size aM;have k:=k.bw q;have f:=f.bw q;have g:=g.bw q;have j:=j.bw q;have i:=btr i q;refine Zo (Vw [vi d.n,.slice aA d.ns.length aB,.slice aK d.ws.length aL,vi d.t,vi d.r] Xf o) ?_;rintro _ w6 ⟨H,hb⟩;have p:=o;have k:=k.oz H p rfl;have f:=f.oy H (by omega);have g:=g.oT H p rfl;have j:=j.oT H p rfl;have i:=Below.oy i H G;have o:=hb;refine ZX b0 fun a D _ aO=>?_;refine Zs D fun _ aP=>?_;refine Ze (Vn X1q k)<|Zf (Vc (Y0v _ b14 U.heap.size aA aB aK aL d.ns.length d ⟨o,g,j,rfl⟩ i.size x hG) Xpl) ?_;rintro _ w7 ⟨b1,b2,rfl,W,aC,aQ,a7,a8,aD⟩;have k:=k.tu W o rfl (alc (nrow g k rfl) (alc (nrow j k rfl) al0));have f:=f.tuN W E (alc (nrow g f rfl) (alc (nrow j f rfl) al0))
 have i:=Below.ts i W (SB.ge G (alc (fun _ h9=>X2h g h9) (alc (fun _ h9=>X2h j h9) al0))) i.size
 clear aC
 clear W o;have o:=aQ;clear aQ
 clear g;have g:=a7;clear a7;refine Ze (X0y rfl)<|Zt aP fun a D=>?_
 refine Xi D rfl (fun C=>?_) (fun C=>?_)
 ·have aE:=C
  have b3:apC d x=false:=Xtf (by have h8:=C;simpa using h8)
  refine Zs D fun _ aR=>?_;refine Ze (X0e (ps:=[]) (cs:=[vi 0,.slice none 0 0,.slice none 0 0,vi 0,vi 0]) rfl (fun _=>by first|rfl|kernel_rfl))<|Zo (Vw [vi 0,.slice none 0 0,.slice none 0 0,vi 0,vi 0] Xf f) ?_;rintro _ w8 ⟨H,hb⟩;have p:=f;have i:=Below.oy i H a6;have f:=hb;refine Za rfl<|Zt aR fun a D=>?_;refine Q6<|Xa<|X6 D (X19 D rfl (ResV.cellN (l:=[vi 0,.slice none 0 0,.slice none 0 0,vi 0,vi 0]) rfl X2 (f.at 0) rfl) rfl) ?_
  rw [b3,Q3 Bool.false_ne_true]
  exact ⟨none,0,none,0,rfl,(Rd.nil _ _ _ _ _),(Rd.nil _ _ _ _ _),(Qf _),i⟩
 have aE:=C
 have aF:doC d x=true:=by have h8:=C;simpa using h8
 have b6:=Xl8 hD aF
 have aS:(if doC d x=true then outD (doD d x) else d)=outD (doD d x):=Q4 aF
 refine Q7<|aO _ _<|Zs D fun _ aT=>?_;refine Ze (Vn X2 o)<|Zf (Vc (Xs7 _ (if doC d x=true then outD (doD d x) else d) d.ns.length aD aA aB g.rd.top b1 b2 a8.rd.top a8.cap (by rw [aS];exact Q0 b6.1.c (by decide))) Xh3) ?_;rintro _ w9 ⟨I,J,L,M,rfl,N,Q,aU,q⟩;have f:=f.bw q;have i:=btr i q;refine Ze (Xp (vs:=[.agg #[vi ((if (ivD (if doC d x=true then outD (doD d x) else d))=true then (if doC d x=true then outD (doD d x) else d) else zD).n),.slice I ((if (ivD (if doC d x=true then outD (doD d x) else d))=true then (if doC d x=true then outD (doD d x) else d) else zD).ns).length J,.slice L ((if (ivD (if doC d x=true then outD (doD d x) else d))=true then (if doC d x=true then outD (doD d x) else d) else zD).ws).length M,vi ((if (ivD (if doC d x=true then outD (doD d x) else d))=true then (if doC d x=true then outD (doD d x) else d) else zD).t),vi ((if (ivD (if doC d x=true then outD (doD d x) else d))=true then (if doC d x=true then outD (doD d x) else d) else zD).r)],.bool (ivD (if doC d x=true then outD (doD d x) else d))]) rfl rfl)<|Ze (Xp (vs:=[.agg #[vi ((if (ivD (if doC d x=true then outD (doD d x) else d))=true then (if doC d x=true then outD (doD d x) else d) else zD).n),.slice I ((if (ivD (if doC d x=true then outD (doD d x) else d))=true then (if doC d x=true then outD (doD d x) else d) else zD).ns).length J,.slice L ((if (ivD (if doC d x=true then outD (doD d x) else d))=true then (if doC d x=true then outD (doD d x) else d) else zD).ws).length M,vi ((if (ivD (if doC d x=true then outD (doD d x) else d))=true then (if doC d x=true then outD (doD d x) else d) else zD).t),vi ((if (ivD (if doC d x=true then outD (doD d x) else d))=true then (if doC d x=true then outD (doD d x) else d) else zD).r)],.bool (ivD (if doC d x=true then outD (doD d x) else d))]) rfl rfl)<|Zo (Vw [vi ((if (ivD (if doC d x=true then outD (doD d x) else d))=true then (if doC d x=true then outD (doD d x) else d) else zD).n),.slice I ((if (ivD (if doC d x=true then outD (doD d x) else d))=true then (if doC d x=true then outD (doD d x) else d) else zD).ns).length J,.slice L ((if (ivD (if doC d x=true then outD (doD d x) else d))=true then (if doC d x=true then outD (doD d x) else d) else zD).ws).length M,vi ((if (ivD (if doC d x=true then outD (doD d x) else d))=true then (if doC d x=true then outD (doD d x) else d) else zD).t),vi ((if (ivD (if doC d x=true then outD (doD d x) else d))=true then (if doC d x=true then outD (doD d x) else d) else zD).r)] Xf f) ?_;rintro _ bC ⟨H,hb⟩
 have p:=f;have N:=N.oT H p rfl;have Q:=Q.oT H p rfl;have i:=Below.oy i H a6;have f:=hb;refine Za rfl<|Zt aT fun a D=>?_
 refine Q6 (X6 D (X19 D rfl (ResV.cellN (l:=[vi ((if (ivD (if doC d x=true then outD (doD d x) else d))=true then (if doC d x=true then outD (doD d x) else d) else zD).n),.slice I ((if (ivD (if doC d x=true then outD (doD d x) else d))=true then (if doC d x=true then outD (doD d x) else d) else zD).ns).length J,.slice L ((if (ivD (if doC d x=true then outD (doD d x) else d))=true then (if doC d x=true then outD (doD d x) else d) else zD).ws).length M,vi ((if (ivD (if doC d x=true then outD (doD d x) else d))=true then (if doC d x=true then outD (doD d x) else d) else zD).t),vi ((if (ivD (if doC d x=true then outD (doD d x) else d))=true then (if doC d x=true then outD (doD d x) else d) else zD).r)]) rfl X2 (f.at 0) rfl) rfl) ?_)
 rw [show apC d x=ivD (outD (doD d x)) from by unfold apC;rw [aF,Qw,X3y]]
 rw [aS] at *
 exact ⟨I,J,L,M,rfl,N.top,Q.top,aU,i⟩
theorem Xyf(G:World)(d:Dg)(md:Nat)(a7:md=d.ns.length)(Ad:Option Addr)(cd:Nat)(H:Rd G G.heap.size 81 encNd Ad d.ns)(Bd:Option Addr)(dd:Nat)(I:Rd G G.heap.size 83 encWr Bd d.ws)(J:d.ws.length<=dd)(x:Rz)(aE:d.ws.length<=1000000000) : Ret Tryz.prog 28 [.agg #[vi d.n,.slice Ad md cd,.slice Bd d.ws.length dd,vi d.t,vi d.r],.agg #[vi x.u,vi x.a,vi x.b]] G (fun v w=>∃ A c1 B e,v=.tuple #[.agg #[vi (if (apG d x)=true then apD d x else zD).n,.slice A (if (apG d x)=true then apD d x else zD).ns.length c1,.slice B (if (apG d x)=true then apD d x else zD).ws.length e,vi (if (apG d x)=true then apD d x else zD).t,vi (if (apG d x)=true then apD d x else zD).r],.bool (apG d x)]/\Rd w w.heap.size 81 encNd A (if (apG d x)=true then apD d x else zD).ns/\Rd w w.heap.size 83 encWr B (if (apG d x)=true then apD d x else zD).ws/\(if (apG d x)=true then apD d x else zD).ws.length<=e/\Below G.heap.size G w):=by
 subst a7
 refine enter Tryz.func28 rfl 15 rfl rfl ?_;intro a k
 have f:=bz G
 refine Zs k fun _ aF=>?_;refine Zf (X0n (zs:=[vi d.n,.slice Ad d.ns.length cd,.slice Bd d.ws.length dd,vi d.t,vi d.r]) rfl rfl) ?_;rintro _ w1 ⟨b4,rfl,aG,j,g⟩;have aL:=Q0 f.size aG;have f:=btr f j;refine Zf (X0n (zs:=[vi x.u,vi x.a,vi x.b]) rfl rfl) ?_;rintro _ w2 ⟨b5,rfl,aH,j,m⟩;have aM:=Q0 f.size aH;have g:=g.bw j;have f:=btr f j;refine Zf (Xo (zs:=[vi 0,.slice none 0 0,.slice none 0 0,vi 0,vi 0]) X0o rfl) ?_;rintro _ w3 ⟨b8,rfl,aI,j,c⟩
 have aD:b4≠b8:=by have:=g.lt;omega
 have L:=Q0 f.size aI;have g:=g.bw j;have m:=m.bw j;have f:=btr f j;refine Za rfl<|ZX aF fun a k _ aJ=>?_;refine Zs k fun _ a8=>?_;refine Ze (Vn X2 g)<|Zf (Vc (Xg6 _ d d.ns.length rfl Ad cd (H.bx f).top Bd dd (I.bx f).top J aE) X87) ?_;rintro _ w4 ⟨rfl,j⟩;have g:=g.bw j;have m:=m.bw j;have c:=c.bw j;have f:=btr f j;refine Ze (X0y rfl)<|Zt a8 fun a k=>?_
 refine Xi k rfl (fun i=>?_) (fun i=>?_)
 ·have a6:=i
  have aK:goodD d=false:=by rw [<- X3y];have h8:=i;simpa using h8
  refine Zs k fun _ aA=>?_;refine Ze (X0e (ps:=[]) (cs:=[vi 0,.slice none 0 0,.slice none 0 0,vi 0,vi 0]) rfl (fun _=>by first|rfl|kernel_rfl))<|Zo (Vw [vi 0,.slice none 0 0,.slice none 0 0,vi 0,vi 0] Xf c) ?_;rintro _ w5 ⟨ho,hb⟩;have o:=c;have f:=Below.oy f ho L;have c:=hb;refine Za rfl<|Zt aA fun a k=>?_;refine Q6<|Xa<|X6 k (X19 k rfl (ResV.cellN (l:=[vi 0,.slice none 0 0,.slice none 0 0,vi 0,vi 0]) rfl X2 (c.at 0) rfl) rfl) ?_
  rw [Xsa aK,Q3 Bool.false_ne_true]
  exact ⟨none,0,none,0,rfl,(Rd.nil _ _ _ _ _),(Rd.nil _ _ _ _ _),(Qf _),f⟩
 have a6:=i
 have hG:goodD d=true:=by rw [<- X3y];have h8:=i;simpa using h8
 refine Q7<|aJ _ _<|Zs k fun _ aB=>?_;refine Ze (Vn X2 g)<|Ze (Vn X1q m)<|Zf (Vc (Xz4 _ d d.ns.length rfl Ad cd (H.bx f).top Bd dd (I.bx f).top J x hG) Xqm) ?_;rintro _ w6 ⟨p,q,h,C,rfl,D,E,aC,j⟩;have c:=c.bw j;have f:=btr f j;refine Ze (Xp (vs:=[.agg #[vi ((if (apC d x)=true then apD d x else zD).n),.slice p ((if (apC d x)=true then apD d x else zD).ns).length q,.slice h ((if (apC d x)=true then apD d x else zD).ws).length C,vi ((if (apC d x)=true then apD d x else zD).t),vi ((if (apC d x)=true then apD d x else zD).r)],.bool (apC d x)]) rfl rfl)<|Ze (Xp (vs:=[.agg #[vi ((if (apC d x)=true then apD d x else zD).n),.slice p ((if (apC d x)=true then apD d x else zD).ns).length q,.slice h ((if (apC d x)=true then apD d x else zD).ws).length C,vi ((if (apC d x)=true then apD d x else zD).t),vi ((if (apC d x)=true then apD d x else zD).r)],.bool (apC d x)]) rfl rfl)<|Zo (Vw [vi ((if (apC d x)=true then apD d x else zD).n),.slice p ((if (apC d x)=true then apD d x else zD).ns).length q,.slice h ((if (apC d x)=true then apD d x else zD).ws).length C,vi ((if (apC d x)=true then apD d x else zD).t),vi ((if (apC d x)=true then apD d x else zD).r)] Xf c) ?_;rintro _ w7 ⟨ho,hb⟩;have o:=c;have D:=D.oT ho o rfl;have E:=E.oT ho o rfl;have f:=Below.oy f ho L;have c:=hb;refine Za rfl<|Zt aB fun a k=>?_
 refine Q6 (X6 k (X19 k rfl (ResV.cellN (l:=[vi ((if (apC d x)=true then apD d x else zD).n),.slice p ((if (apC d x)=true then apD d x else zD).ns).length q,.slice h ((if (apC d x)=true then apD d x else zD).ws).length C,vi ((if (apC d x)=true then apD d x else zD).t),vi ((if (apC d x)=true then apD d x else zD).r)]) rfl X2 (c.at 0) rfl) rfl) ?_)
 rw [Xtc hG]
 exact ⟨p,q,h,C,rfl,D.top,E.top,aC,f⟩
theorem Xt2(w0:World)(d:Dg)(md:Nat)(aN:md=d.ns.length)(Ad:Option Addr)(cd:Nat)(H:Rd w0 w0.heap.size 81 encNd Ad d.ns)(Bd:Option Addr)(dd:Nat)(I:Rd w0 w0.heap.size 83 encWr Bd d.ws)(J:d.ws.length<=dd)(p:Int)(q:Int)(bD:d.ws.length<=80000000)(hN:md<=1000) : Ret Tryz.prog 33 [.agg #[vi d.n,.slice Ad md cd,.slice Bd d.ws.length dd,vi d.t,vi d.r],vi p,vi q] w0 (fun v w=>∃ A c1 B e,v=.tuple #[.agg #[vi (if (tgC d p q)=true then tgV d p q else zD).n,.slice A (if (tgC d p q)=true then tgV d p q else zD).ns.length c1,.slice B (if (tgC d p q)=true then tgV d p q else zD).ws.length e,vi (if (tgC d p q)=true then tgV d p q else zD).t,vi (if (tgC d p q)=true then tgV d p q else zD).r],.bool (tgC d p q)]/\Rd w w.heap.size 81 encNd A (if (tgC d p q)=true then tgV d p q else zD).ns/\Rd w w.heap.size 83 encWr B (if (tgC d p q)=true then tgV d p q else zD).ws/\(if (tgC d p q)=true then tgV d p q else zD).ws.length<=e/\Below w0.heap.size w0 w):=by
 subst aN
 refine enter Tryz.func33 rfl 41 rfl rfl ?_;intro a o
 have f:=bz w0
 refine Zs o fun _ b2=>?_;refine Zf (X0n (zs:=[vi d.n,.slice Ad d.ns.length cd,.slice Bd d.ws.length dd,vi d.t,vi d.r]) rfl rfl) ?_;rintro _ w1 ⟨b4,rfl,b3,m,k⟩;have bC:=Q0 f.size b3;have f:=btr f m;refine Zf (Xo (zs:=[vi 0,.slice none 0 0,.slice none 0 0,vi 0,vi 0]) X0o rfl) ?_;rintro _ w2 ⟨b7,rfl,b5,m,b⟩
 have b1:b4≠b7:=by have:=k.lt;omega
 have M:=Q0 f.size b5;have k:=k.bw m;have f:=btr f m;refine Za rfl<|ZX b2 fun a o _ b6=>?_;refine Q5 fun _ b8=>?_;refine X0b (fun a w=>Fr a 41 [(1,vi p),(2,vi q),(3,(pZ9 b4)),(6,(pZ9 b7)),(28,.bool ((((!(ivD d))||(!(spI d.ns p)))||(!(spI d.ns q)))||(p==q)))]/\Below w2.heap.size w2 w) ?_ ?_
 ·have C:Below w2.heap.size w2 w2:=Below.refl _ _
  refine Zr o<|Ze (Vn X2 k)<|Zf (Vc (Xg6 _ d d.ns.length rfl Ad cd (H.bx f).top Bd dd (I.bx f).top J (by omega)) X87) ?_;rintro _ w3 ⟨rfl,m⟩;have k:=k.bw m;have f:=btr f m;have C:=btr C m;refine Ze (X0y rfl)<|Zm rfl ?_
  refine Zg 12 rfl (fun c=>?_) (fun c=>?_)
  ·(iterate 4 refine Zp (gP c) ?_);refine Ze (X4 rfl c rfl)<|Zm rfl<|Zp (gP rfl) ?_;(iterate 3 refine Zp (gP rfl) ?_);refine Ze (X4 rfl rfl rfl)<|Zm rfl<|Zp (gP rfl) ?_;(iterate 2 refine Zp (gP rfl) ?_);refine Ze (X4 rfl rfl rfl) ?_;refine Zn fun a o=>?_
   have G:Below w2.heap.size w2 w3:=C
   exact ⟨o.sub ⟨rfl,rfl,rfl,rfl,X1 rfl (by simp [c]),trivial⟩,G⟩
  refine Zv (gW c) (Vn X2 k) ?_;refine Zv (gW c) (X3 rfl) ?_;refine Zk (gW c) (Vc (X59 _ d d.ns.length rfl Ad cd (H.bx f).top Bd dd (I.bx f).top J p hN) X2r) ?_;rintro _ w4 ⟨rfl,m⟩;have k:=k.bw m;have f:=btr f m;have C:=btr C m;refine Zv (gW c) (X0y rfl) ?_;refine Ze (Xe rfl c rfl)<|Zm rfl ?_
  refine Zg 18 rfl (fun g=>?_) (fun g=>?_)
  ·(iterate 4 refine Zp (gP g) ?_);refine Ze (X4 rfl g rfl)<|Zm rfl<|Zp (gP rfl) ?_;(iterate 2 refine Zp (gP rfl) ?_);refine Ze (X4 rfl rfl rfl) ?_;refine Zn fun a o=>?_
   have G:Below w2.heap.size w2 w4:=C
   exact ⟨o.sub ⟨rfl,rfl,rfl,rfl,X1 rfl (by simp [c,g]),trivial⟩,G⟩
  refine Zv (gW g) (Vn X2 k) ?_;refine Zv (gW g) (X3 rfl) ?_;refine Zk (gW g) (Vc (X59 _ d d.ns.length rfl Ad cd (H.bx f).top Bd dd (I.bx f).top J q hN) X2r) ?_;rintro _ w5 ⟨rfl,m⟩;have f:=btr f m;have C:=btr C m;refine Zv (gW g) (X0y rfl) ?_;refine Ze (Xe rfl g rfl)<|Zm rfl ?_
  refine Zg 24 rfl (fun j=>?_) (fun j=>?_)
  ·(iterate 3 refine Zp (gP j) ?_);refine Ze (X4 rfl j rfl) ?_;refine Zn fun a o=>?_
   have G:Below w2.heap.size w2 w5:=C
   exact ⟨o.sub ⟨rfl,rfl,rfl,rfl,X1 rfl (by simp [c,g,j]),trivial⟩,G⟩
  refine Zv (gW j) (X3 rfl) ?_;refine Zv (gW j) (X3 rfl) ?_;refine Zv (gW j) (X0m rfl rfl) ?_;refine Ze (Xe rfl j rfl) ?_;refine Zn fun a o=>?_
  have G:Below w2.heap.size w2 w5:=C
  exact ⟨o.sub ⟨rfl,rfl,rfl,rfl,X1 rfl (by simp [c,g,j]),trivial⟩,G⟩
 rintro a w6 ⟨o,m⟩;have k:=k.bw m;have b:=b.bw m;have f:=btr f m;refine b8 _ _ ?_
 refine Xi o rfl (fun D=>?_) (fun D=>?_)
 ·have aE:=D
  have aF:tgC d p q=false:=Xet (by have N:=D;rw [X3y] at N;revert N;cases goodD d<;>cases spI d.ns p<;>cases spI d.ns q<;>cases (p==q)<;>simp)
  refine Zs o fun _ aO=>?_;refine Ze (X0e (ps:=[]) (cs:=[vi 0,.slice none 0 0,.slice none 0 0,vi 0,vi 0]) rfl (fun _=>by first|rfl|kernel_rfl))<|Zo (Vw [vi 0,.slice none 0 0,.slice none 0 0,vi 0,vi 0] Xf b) ?_;rintro _ w7 ⟨L,hb⟩;have x:=b;have f:=Below.oy f L M;have b:=hb;refine Za rfl<|Zt aO fun a o=>?_;refine Q6<|Xa<|X6 o (X19 o rfl (ResV.cellN (l:=[vi 0,.slice none 0 0,.slice none 0 0,vi 0,vi 0]) rfl X2 (b.at 0) rfl) rfl) ?_
  rw [aF,Q3 Bool.false_ne_true]
  exact ⟨none,0,none,0,rfl,(Rd.nil _ _ _ _ _),(Rd.nil _ _ _ _ _),(Qf _),f⟩
 have aE:=D
 obtain ⟨y1,y2,y3,y4⟩ : goodD d=true/\spI d.ns p=true/\spI d.ns q=true/\(p==q)=false:=by have N:=D;rw [X3y] at N;revert N;cases goodD d<;>cases spI d.ns p<;>cases spI d.ns q<;>cases (p==q)<;>simp
 have hD:=X0t y1;have bE:=Xtj hD y2 y3;refine Q7<|b6 _ _<|Zs o fun _ aP=>?_;refine Ze (Vn X2 k)<|Zf (Vc (Xj0 _ d d.ns.length rfl Ad cd (H.bx f).top Bd dd (I.bx f).top J ⟨by omega,by omega⟩) Xc1) ?_;rintro _ w8 ⟨aG,aH,aQ,aR,rfl,i,u,m⟩;have i:=i.lower f.size;have u:=u.lower f.size;have k:=k.bw m;have b:=b.bw m;have f:=btr f m;refine Zf (Xo (zs:=[vi 0,.slice none 0 0,.slice none 0 0,vi 0,vi 0]) X0o rfl) ?_;rintro _ w9 ⟨b22,rfl,aS,m,h⟩
 have aT:b4≠b22:=by have:=k.lt;omega
 have Q:b7≠b22:=by have:=b.lt;omega
 have U:=Q0 f.size aS;have b:=b.bw m;have i:=i.bw m;have u:=u.bw m;have f:=btr f m;refine Zo (Vw [vi d.n,.slice aG d.ns.length aH,.slice aQ d.ws.length aR,vi d.t,vi d.r] Xf h) ?_;rintro _ bF ⟨L,hb⟩;have x:=h;have b:=b.oy L (by omega);have i:=i.oT L x rfl;have u:=u.oT L x rfl;have f:=Below.oy f L U;have h:=hb;refine ZX aP fun a o _ aU=>?_;refine Zs o fun _ aV=>?_;refine Zm rfl<|Zm rfl<|Zf (Vc (Xix _ b22 w0.heap.size aG aH aQ aR d.ns.length d ⟨h,i,u,rfl⟩ f.size p q hD.w.s (by omega)) Xc5) ?_;rintro _ bG ⟨b9,bA,rfl,aI,aJ,aW,aC,aD,aK⟩;have b:=b.tuN aI Q (alc (nrow i b rfl) (alc (nrow u b rfl) al0))
 have f:=Below.ts f aI (SB.ge U (alc (fun _ h9=>X2h i h9) (alc (fun _ h9=>X2h u h9) al0))) f.size
 clear aJ
 clear aI h;have h:=aW;clear aW
 clear i;have i:=aC;clear aC;refine Ze (X0y rfl)<|Zt aV fun a o=>?_
 refine Xi o rfl (fun E=>?_) (fun E=>?_)
 ·have aL:=E
  have aF:tgC d p q=false:=Xet (by have N:=E;simp at N;simp [N])
  refine Zs o fun _ aX=>?_;refine Ze (X0e (ps:=[]) (cs:=[vi 0,.slice none 0 0,.slice none 0 0,vi 0,vi 0]) rfl (fun _=>by first|rfl|kernel_rfl))<|Zo (Vw [vi 0,.slice none 0 0,.slice none 0 0,vi 0,vi 0] Xf b) ?_;rintro _ bH ⟨L,hb⟩;have x:=b;have f:=Below.oy f L M;have b:=hb;refine Za rfl<|Zt aX fun a o=>?_;refine Q6<|Xa<|X6 o (X19 o rfl (ResV.cellN (l:=[vi 0,.slice none 0 0,.slice none 0 0,vi 0,vi 0]) rfl X2 (b.at 0) rfl) rfl) ?_
  rw [aF,Q3 Bool.false_ne_true]
  exact ⟨none,0,none,0,rfl,(Rd.nil _ _ _ _ _),(Rd.nil _ _ _ _ _),(Qf _),f⟩
 have aL:=E
 have y5:(tyW d.ws p q==1)=false:=by have N:=E;simp at N;simp [N]
 have bB:=Xfi y1 y2 y3 y4 y5;have aM:=Y41 y5;have aY:=Xbo y1 p q;refine Q7<|aU _ _<|Zs o fun _ aZ=>?_;refine Ze (Vn X2 h)<|Zf (Vc (Xs7 _ (tgI d p q) d.ns.length aK aG aH i.rd.top b9 bA aD.rd.top aD.cap (by rw [aM];omega)) Xh3) ?_;rintro _ bJ ⟨W,a6,a7,a8,rfl,aA,aB,b0,m⟩;have b:=b.bw m;have f:=btr f m;refine Ze (Xp (vs:=[.agg #[vi ((if (ivD (tgI d p q))=true then (tgI d p q) else zD).n),.slice W ((if (ivD (tgI d p q))=true then (tgI d p q) else zD).ns).length a6,.slice a7 ((if (ivD (tgI d p q))=true then (tgI d p q) else zD).ws).length a8,vi ((if (ivD (tgI d p q))=true then (tgI d p q) else zD).t),vi ((if (ivD (tgI d p q))=true then (tgI d p q) else zD).r)],.bool (ivD (tgI d p q))]) rfl rfl)<|Ze (Xp (vs:=[.agg #[vi ((if (ivD (tgI d p q))=true then (tgI d p q) else zD).n),.slice W ((if (ivD (tgI d p q))=true then (tgI d p q) else zD).ns).length a6,.slice a7 ((if (ivD (tgI d p q))=true then (tgI d p q) else zD).ws).length a8,vi ((if (ivD (tgI d p q))=true then (tgI d p q) else zD).t),vi ((if (ivD (tgI d p q))=true then (tgI d p q) else zD).r)],.bool (ivD (tgI d p q))]) rfl rfl)<|Zo (Vw [vi ((if (ivD (tgI d p q))=true then (tgI d p q) else zD).n),.slice W ((if (ivD (tgI d p q))=true then (tgI d p q) else zD).ns).length a6,.slice a7 ((if (ivD (tgI d p q))=true then (tgI d p q) else zD).ws).length a8,vi ((if (ivD (tgI d p q))=true then (tgI d p q) else zD).t),vi ((if (ivD (tgI d p q))=true then (tgI d p q) else zD).r)] Xf b) ?_;rintro _ bK ⟨L,hb⟩;have x:=b;have aA:=aA.oT L x rfl;have aB:=aB.oT L x rfl;have f:=Below.oy f L M;have b:=hb;refine Za rfl<|Zt aZ fun a o=>?_
 refine Q6 (X6 o (X19 o rfl (ResV.cellN (l:=[vi ((if (ivD (tgI d p q))=true then (tgI d p q) else zD).n),.slice W ((if (ivD (tgI d p q))=true then (tgI d p q) else zD).ns).length a6,.slice a7 ((if (ivD (tgI d p q))=true then (tgI d p q) else zD).ws).length a8,vi ((if (ivD (tgI d p q))=true then (tgI d p q) else zD).t),vi ((if (ivD (tgI d p q))=true then (tgI d p q) else zD).r)]) rfl X2 (b.at 0) rfl) rfl) ?_)
 rw [bB,show tgV d p q=tgI d p q from by rw [aM];exact aY,aY,<- aM,<- X3y]
 exact ⟨W,a6,a7,a8,rfl,aA.top,aB.top,b0,f⟩
theorem Y1w(M:World)(d:Dg)(md:Nat)(bO:md=d.ns.length)(Ad:Option Addr)(cd:Nat)(W:Rd M M.heap.size 81 encNd Ad d.ns)(Bd:Option Addr)(dd:Nat)(a6:Rd M M.heap.size 83 encWr Bd d.ws)(B:d.ws.length<=dd)(Al:Option Addr)(cl:Nat)(l:List Int)(ml:Nat)(G:Rd M M.heap.size 3 encI Al l)(aW:ml=l.length)(hG:goodD d=true)(β:Nat->Bool)(hl:l=bsO β d.ns.length) : Ret Tryz.prog 154 [.agg #[vi d.n,.slice Ad md cd,.slice Bd d.ws.length dd,vi d.t,vi d.r],.slice Al ml cl] M (fun v w=>v=vi (tmL d l)/\Below M.heap.size M w):=by
 subst aW
 have hD:=X0t hG;have bR:=hD.len;have bS:=hD.m;have bT:=(X18 hG).2.2.1
 have bU:l.length=d.ns.length:=by rw [hl];exact X2d _ _
 refine enter Tryz.func154 rfl 72 rfl rfl ?_;intro a f
 have g:=bz M
 refine Zs f fun _ bC=>?_;refine Zf (X0n (zs:=[vi d.n,.slice Ad md cd,.slice Bd d.ws.length dd,vi d.t,vi d.r]) rfl rfl) ?_;rintro _ w1 ⟨b5,rfl,bD,H,o⟩;have bP:=Q0 g.size bD;have g:=btr g H;refine Za rfl<|Zx bC fun a f _ bE=>?_;refine Ze (Vd rfl X0u 3)<|Ze (X0 rfl X7 (o.at 3))<|Za rfl<|ZX bE fun a f _ bF=>?_;refine Zs f fun _ bG=>?_;refine Ze (Vd rfl Xn 2)<|Ze (X0 rfl X0g (o.at 2))<|Ze (X0c rfl Xt)<|Zm rfl<|Zt bG fun a f=>?_;refine Q8<|X04 (σ:=Nat×Int) (fun (s:Nat×Int) (a:Act) (w:World)=>match s with|(k,c)=>Fr a 72 [(1,.slice Al l.length cl),(2,(pZ9 b5)),(5,vi c),(13,.slice Bd d.ws.length dd),(14,vi (d.ws.length:Int)),(15,vi (k:Int))]/\(k<=d.ws.length)/\(c=sWd l d.t (d.ws.take k))/\((d.ws.take k).all (okL l)=true)/\(0<=c/\c<=7+4*k)/\Blk w b5 39 [vi d.n,.slice Ad md cd,.slice Bd d.ws.length dd,vi d.t,vi d.r]/\d.ws.length<=dd/\Below M.heap.size M w) (fun (s:Nat×Int)=>match s with|(k,c)=>d.ws.length-k) (0,d.t) ?_ ?_
 ·exact ⟨f.sb,(Qf _),rfl,rfl,(by omega),o,B,g⟩
 rintro ⟨k,c⟩ a w2 ⟨f,hk,hc,N,bW,o,B,g⟩;refine Zs f fun _ bH=>?_;refine Ze (X0q rfl rfl)<|ZX bH fun a f _ aX=>?_
 refine Xi f rfl (fun q=>?_) (fun q=>?_)
 ·have aE:=q;have q:=Q2 q
  obtain ⟨bX,bQ⟩:=X5 (l:=d.ws) (k:=k) (by omega)
  obtain ⟨C,L⟩:=X5 (l:=d.ws) (k:=k) (by have:=q;omega)
  have ue:=hD.e C (Qe L)
  have ul:=hD.w.l C (Qe L)
  have ga:g0 l C.a=0∨g0 l C.a=1:=by rw [hl];exact g01 _
  have gb:g0 l C.b=0∨g0 l C.b=1:=by rw [hl];exact g01 _
  have gm:=Xao (x:=g0 l C.b) (y:=4*g0 l C.a) gb (by omega)
  have Q:=Xdc (bs:=l) L d.t;refine Q7<|aX _ _<|Q5 fun _ a7=>?_;refine Q8<|Zs f fun _ aY=>?_;refine Zi (k:=k) (u:=C) (enc:=encWr) (l:=d.ws) tv0 rfl rfl Xt X0d Xz (a6.bx g) L rfl ?_;intro bY aF;refine Ze (X01 (l:=[vi C.a,vi C.b,.bool C.h]) rfl X16 aF rfl)<|Zf (Xo (zs:=[vi 0,vi 0,.bool false]) X2m rfl) ?_;rintro _ w3 ⟨bZ,rfl,a8,H,i⟩;have aG:=Q0 g.size a8;have aZ:=(a6.bx g).away a8;have o:=o.bw H;have g:=btr g H;refine Zo (Vw [vi C.a,vi C.b,.bool C.h] X0d i) ?_;rintro _ w4 ⟨ho,hb⟩;have aA:=i;have o:=o.oz ho aA rfl;have g:=Below.oy g ho aG;have i:=hb;refine Zt aY fun a f=>?_;refine Q8<|Zs f fun _ b0=>?_;refine Ze (Vd rfl X3b 2)<|Ze (X0 rfl X6t (i.at 2))<|Za rfl<|Zt b0 fun a f=>?_
  refine Xi f rfl (fun E=>?_) (fun E=>?_)
  ·have aH:=E;have aI:=Xs5 (bs:=l) E;have aJ:=Y2v (bs:=l) (s:=c) E;refine X00 none (fun _=>false) mixed ?_;intro w5 H;have o:=o.bw H;have i:=i.bw H;have g:=btr g H;refine Yb f<|Yo 0 rfl (fun _=>X3 rfl)<|Yo 1 rfl (fun _=>X3 rfl)<|Yo 2 rfl (fun _=>Vd rfl X0r 0)<|Ye 3 rfl (X0 rfl X7 (i.at 0))<|Yi (k:=C.a.toNat) (u:=(g0 l C.a)) (enc:=encI) (l:=l) 4 rfl tv0 rfl rfl Xj X09 X9 (G.bx g) (Xb (d:=0) (by omega)) (by omega) ?_;intro c5 aK;refine Ye 5 rfl (X0 rfl X7 aK)<|Yo 6 rfl (fun _=>X41 rfl rfl (by omega) (by omega))<|Yo 7 rfl (fun _=>X3 rfl)<|Yo 8 rfl (fun _=>Vd rfl X0s 1)<|Ye 9 rfl (X0 rfl X7 (i.at 1))<|Yi (k:=C.b.toNat) (u:=(g0 l C.b)) (enc:=encI) (l:=l) 10 rfl tv0 rfl rfl Xj X09 X9 (G.bx g) (Xb (d:=0) (by omega)) (by omega) ?_;intro cA aL;refine Ye 11 rfl (X0 rfl X7 aL)<|Yo 12 rfl (fun _=>X41 rfl rfl (by omega) (by omega))<|Yo 13 rfl (fun _=>Xm rfl rfl (by omega) (by omega))<|Yo 14 rfl (fun _=>Xr rfl) ?_;refine Yd fun a f=>?_;refine Xc<|Xc<|a7 _ _<|Zr f ?_;refine Ze (Xm rfl rfl (by omega) (by omega))<|Zm rfl ?_;refine Zn fun a f=>?_;refine Xd ?_;exact ⟨(k+1,c+((4*(g0 l C.a))*(g0 l C.b))),⟨f.sb,(by omega),(by rw [Q,<- hc,aJ]),(X5s L N aI),(by omega),o,B,g⟩,(by first|omega|(dsimp only;omega))⟩
  have aH:=E;have hh:=E;have aJ:=Y1s (bs:=l) (s:=c) hh;refine Q5 fun _ b1=>?_;refine X00 none (fun _=>false) mixed ?_;intro w6 H;have o:=o.bw H;have i:=i.bw H;have g:=btr g H;refine Yb f<|Yo 0 rfl (fun _=>X3 rfl)<|Yo 1 rfl (fun _=>Vd rfl X0r 0)<|Ye 2 rfl (X0 rfl X7 (i.at 0))<|Yi (k:=C.a.toNat) (u:=(g0 l C.a)) (enc:=encI) (l:=l) 3 rfl tv0 rfl rfl Xj X09 X9 (G.bx g) (Xb (d:=0) (by omega)) (by omega) ?_;intro cB aM;refine Ye 4 rfl (X0 rfl X7 aM)<|Yo 5 rfl (fun _=>X3 rfl)<|Yo 6 rfl (fun _=>Vd rfl X0s 1)<|Ye 7 rfl (X0 rfl X7 (i.at 1))<|Yi (k:=C.b.toNat) (u:=(g0 l C.b)) (enc:=encI) (l:=l) 8 rfl tv0 rfl rfl Xj X09 X9 (G.bx g) (Xb (d:=0) (by omega)) (by omega) ?_;intro cC aN;refine Ye 9 rfl (X0 rfl X7 aN)<|Yo 10 rfl (fun _=>X1o rfl rfl)<|Yo 11 rfl (fun _=>Xr rfl) ?_;refine Yd fun a f=>?_;refine b1 _ _ ?_
  refine Xi f rfl (fun I=>?_) (fun I=>?_)
  ·have aO:=I
   have bJ:d.ws.all (okL l)=false:=Xhu L (by rw [Xg3 hh];have h8:=I;simpa using h8)
   have U:tmL d l = -1:=by unfold tmL;rw [bJ];rfl
   refine Zs f fun _ b2=>?_;refine Za rfl<|Zt b2 fun a f=>?_;refine Q6<|X02<|X02<|Xa ?_;refine Xa<|X02<|Xa<|X6 f (Xu f rfl rfl) ?_;exact ⟨by rw [U],g⟩
  have aO:=I
  have aI:okL l C=true:=by rw [Xg3 hh];have h8:=I;simpa using h8
  refine Q7<|Xc<|Xc<|a7 _ _ ?_;refine Zr f<|Ze (Xm rfl rfl (by omega) (by omega))<|Zm rfl ?_;refine Zn fun a f=>?_;refine Xd ?_;exact ⟨(k+1,c),⟨f.sb,(by omega),(by rw [Q,<- hc,aJ]),(X5s L N aI),(by omega),o,B,g⟩,(by first|omega|(dsimp only;omega))⟩
 have aE:=q;have q:=Q1 q
 have bK:d.ws.take k=d.ws:=Qi (by have:=q;omega)
 rw [bK] at hc N
 refine Q9<|Xk<|Xk<|X03 ?_;refine bF _ _<|Q5 fun _ b3=>?_;refine Zs f fun _ b4=>?_;refine Ze (Vd rfl Xg 1)<|Ze (X0 rfl Xy (o.at 1))<|Ze (X0c rfl Xl)<|Zm rfl<|Zt b4 fun a f=>?_;refine Q8<|X04 (σ:=Nat×Int) (fun (s:Nat×Int) (a:Act) (w:World)=>match s with|(j,s)=>Fr a 72 [(1,.slice Al l.length cl),(5,vi s),(50,.slice Ad md cd),(51,vi (md:Int)),(52,vi (j:Int))]/\(j<=d.ns.length)/\(s=sNd d.ns l c j)/\(0<=s/\s<=7+4*d.ws.length+7*j)/\d.ws.length<=dd/\Below M.heap.size M w) (fun (s:Nat×Int)=>match s with|(j,s)=>d.ns.length-j) (0,c) ?_ ?_
 ·exact ⟨f.sb,(Qf _),rfl,(by omega),B,g⟩
 rintro ⟨j,s⟩ a w7 ⟨f,hj,hs,cD,B,g⟩;refine Zs f fun _ b6=>?_;refine Ze (X0q rfl rfl)<|ZX b6 fun a f _ b7=>?_
 refine Xi f rfl (fun A=>?_) (fun A=>?_)
 ·have aP:=A;have A:=Q2 A
  obtain ⟨u8,aQ⟩:=X5 (l:=d.ns) (k:=j) (by have:=A;omega)
  have bL:=hD.p u8 (Qe aQ)
  have bM:l.getD j 0=0∨l.getD j 0=1:=by rw [hl];exact g01 _
  have cE:=Xao (x:=l.getD j 0) (y:=u8.p) bM bL.1
  have aB:d.ns.getD j nZ=u8:=by rw [Qa,aQ];rfl
  have Q:=Xda d.ns l c j;refine Q7<|b7 _ _<|Q5 fun _ aC=>?_;refine Q8<|Zs f fun _ b8=>?_;refine Zm rfl<|Zj (k:=j) (u:=u8) (enc:=encNd) (l:=d.ns) tv0 rfl (by omega) rfl Xl X08 Xw (W.bx g) aQ rfl ?_;intro cF aR;refine Ze (X01 (l:=[vi u8.k,vi u8.p]) rfl X23 aR rfl)<|Zf (Xo (zs:=[vi 0,vi 0]) X4d rfl) ?_;rintro _ w8 ⟨cG,rfl,aD,H,D⟩;have aS:=Q0 g.size aD;have b9:=(W.bx g).away aD;have g:=btr g H;refine Za rfl<|Zo (Vw [vi u8.k,vi u8.p] X08 D) ?_;rintro _ w9 ⟨ho,hb⟩;have aA:=D;have g:=Below.oy g ho aS;have D:=hb;refine Zx b8 fun a f _ bA=>?_;refine Ze (Vd rfl X0v 0)<|Ze (X0 rfl X7 (D.at 0))<|Ze (X0m rfl rfl)<|Zt bA fun a f=>?_
  refine Xi f rfl (fun J=>?_) (fun J=>?_)
  ·have aT:=J
   have aU:nL d.ns l s j=s+u8.p*l.getD j 0:=by unfold nL;rw [aB,Q4 J]
   refine X00 none (fun _=>false) mixed ?_;intro cH H;have D:=D.bw H;have g:=btr g H;refine Yb f<|Yo 0 rfl (fun _=>X3 rfl)<|Yo 1 rfl (fun _=>Vd rfl X06 1)<|Ye 2 rfl (X0 rfl X7 (D.at 1))<|Yo 3 rfl (fun _=>X3 rfl)<|Yo 4 rfl (fun _=>X3 rfl)<|Yi (k:=j) (u:=(l.getD j 0)) (enc:=encI) (l:=l) 5 rfl tv0 rfl rfl Xj X09 X9 (G.bx g) (Xb (d:=0) (by omega)) (by omega) ?_;intro cI aV;refine Ye 6 rfl (X0 rfl X7 aV)<|Yo 7 rfl (fun _=>X41 rfl rfl (by omega) (by omega))<|Yo 8 rfl (fun _=>Xm rfl rfl (by omega) (by omega))<|Yo 9 rfl (fun _=>Xr rfl) ?_;refine Yd fun a f=>?_;refine Xc<|aC _ _<|Zr f<|Ze (Xm rfl rfl (by omega) (by omega))<|Zm rfl ?_;refine Zn fun a f=>?_;refine Xd ?_;exact ⟨(j+1,s+(u8.p*(l.getD j 0))),⟨f.sb,(by omega),(by rw [Q,<- hs,aU]),(by omega),B,g⟩,(by first|omega|(dsimp only;omega))⟩
  have aT:=J
  have aU:nL d.ns l s j=s:=by unfold nL;rw [aB,Q3 (by rw [J];decide)]
  refine Q7<|Xc<|aC _ _<|Zr f ?_;refine Ze (Xm rfl rfl (by omega) (by omega))<|Zm rfl ?_;refine Zn fun a f=>?_;refine Xd ?_;exact ⟨(j+1,s),⟨f.sb,(by omega),(by rw [Q,<- hs,aU]),(by omega),B,g⟩,(by first|omega|(dsimp only;omega))⟩
 have aP:=A;have A:=Q1 A
 have bN:j=d.ns.length:=by have:=A;omega
 have U:tmL d l=s.tmod 8:=by unfold tmL;rw [Q4 N,<- bN,hs,hc];try rfl
 refine Q9<|Xk<|Xk<|X03 ?_;refine b3 _ _<|Zs f fun _ bB=>?_;refine Zm rfl<|Ze (X33 rfl rfl rfl)<|Za rfl<|Zt bB fun a f=>?_
 refine Q6 (X6 f (Xu f rfl rfl) ?_)
 exact ⟨by rw [U],g⟩
theorem Y0x(N:World)(d:Dg)(md:Nat)(aW:md=d.ns.length)(Ad:Option Addr)(cd:Nat)(W:Rd N N.heap.size 81 encNd Ad d.ns)(Bd:Option Addr)(dd:Nat)(a6:Rd N N.heap.size 83 encWr Bd d.ws)(B:d.ws.length<=dd)(Al:Option Addr)(cl:Nat)(l:List Int)(ml:Nat)(G:Rd N N.heap.size 3 encI Al l)(aX:ml=l.length)(hG:goodD d=true)(β:Nat->Bool)(hl:l=bsO β d.ns.length) : Ret Tryz.prog 126 [.agg #[vi d.n,.slice Ad md cd,.slice Bd d.ws.length dd,vi d.t,vi d.r],.slice Al ml cl] N (fun v w=>v=.tuple #[vi (fcL d l),.bool (d.ws.all (okL l))]/\Below N.heap.size N w):=by
 subst aX
 subst aW
 have hD:=X0t hG;have bS:=hD.len;have bT:=hD.m;have bU:=(X18 hG).2.2.1
 have bW:l.length=d.ns.length:=by rw [hl];exact X2d _ _
 refine enter Tryz.func126 rfl 71 rfl rfl ?_;intro a f
 have g:=bz N
 refine Zs f fun _ bE=>?_;refine Zf (X0n (zs:=[vi d.n,.slice Ad d.ns.length cd,.slice Bd d.ws.length dd,vi d.t,vi d.r]) rfl rfl) ?_;rintro _ w1 ⟨b5,rfl,bF,L,A⟩;have bP:=Q0 g.size bF;have g:=btr g L;refine Za rfl<|Za rfl<|Zx bE fun a f _ bG=>?_;refine Za rfl<|ZX bG fun a f _ bH=>?_;refine Zs f fun _ bJ=>?_;refine Ze (Vd rfl Xg 1)<|Ze (X0 rfl Xy (A.at 1))<|Ze (X0c rfl Xl)<|Zm rfl<|Zt bJ fun a f=>?_;refine Q8<|X04 (σ:=Nat×Int) (fun (s:Nat×Int) (a:Act) (w:World)=>match s with|(j,z)=>Fr a 71 [(1,.slice Al l.length cl),(2,(pZ9 b5)),(6,vi z),(12,.slice Ad d.ns.length cd),(13,vi (d.ns.length:Int)),(14,vi (j:Int))]/\(j<=d.ns.length)/\(z=sNd d.ns l 0 j)/\(0<=z/\z<=7*j)/\Blk w b5 39 [vi d.n,.slice Ad d.ns.length cd,.slice Bd d.ws.length dd,vi d.t,vi d.r]/\d.ws.length<=dd/\Below N.heap.size N w) (fun (s:Nat×Int)=>match s with|(j,z)=>d.ns.length-j) (0,0) ?_ ?_
 ·exact ⟨f.sb,(Qf _),rfl,(by omega),A,B,g⟩
 rintro ⟨j,z⟩ a w2 ⟨f,hj,hs,bX,A,B,g⟩;refine Zs f fun _ bK=>?_;refine Ze (X0q rfl rfl)<|ZX bK fun a f _ aY=>?_
 refine Xi f rfl (fun o=>?_) (fun o=>?_)
 ·have aE:=o;have o:=Q2 o
  obtain ⟨bY,bQ⟩:=X5 (l:=d.ns) (k:=j) (by omega)
  obtain ⟨u8,aF⟩:=X5 (l:=d.ns) (k:=j) (by have:=o;omega)
  have bL:=hD.p u8 (Qe aF)
  have bM:l.getD j 0=0∨l.getD j 0=1:=by rw [hl];exact g01 _
  have bZ:=Xao (x:=l.getD j 0) (y:=u8.p) bM bL.1
  have a7:d.ns.getD j nZ=u8:=by rw [Qa,aF];rfl
  have Q:=Xda d.ns l 0 j;refine Q7<|aY _ _<|Q5 fun _ a8=>?_;refine Q8<|Zs f fun _ aZ=>?_;refine Zm rfl<|Zi (k:=j) (u:=u8) (enc:=encNd) (l:=d.ns) tv0 rfl rfl Xl X08 Xw (W.bx g) aF rfl ?_;intro c5 aG;refine Ze (X01 (l:=[vi u8.k,vi u8.p]) rfl X23 aG rfl)<|Zf (Xo (zs:=[vi 0,vi 0]) X4d rfl) ?_;rintro _ w3 ⟨cA,rfl,aA,L,D⟩;have aH:=Q0 g.size aA;have b0:=(W.bx g).away aA;have A:=A.bw L;have g:=btr g L;refine Za rfl<|Zo (Vw [vi u8.k,vi u8.p] X08 D) ?_;rintro _ w4 ⟨ho,hb⟩;have aB:=D;have A:=A.oz ho aB rfl;have g:=Below.oy g ho aH;have D:=hb;refine Zx aZ fun a f _ b1=>?_;refine Ze (Vd rfl X0v 0)<|Ze (X0 rfl X7 (D.at 0))<|Ze (X0m rfl rfl)<|Zt b1 fun a f=>?_
  refine Xi f rfl (fun H=>?_) (fun H=>?_)
  ·have aI:=H
   have aJ:nL d.ns l z j=z+u8.p*l.getD j 0:=by unfold nL;rw [a7,Q4 H]
   refine X00 none (fun _=>false) mixed ?_;intro w5 L;have A:=A.bw L;have D:=D.bw L;have g:=btr g L;refine Yb f<|Yo 0 rfl (fun _=>X3 rfl)<|Yo 1 rfl (fun _=>Vd rfl X06 1)<|Ye 2 rfl (X0 rfl X7 (D.at 1))<|Yo 3 rfl (fun _=>X3 rfl)<|Yo 4 rfl (fun _=>X3 rfl)<|Yi (k:=j) (u:=(l.getD j 0)) (enc:=encI) (l:=l) 5 rfl tv0 rfl rfl Xj X09 X9 (G.bx g) (Xb (d:=0) (by omega)) (by omega) ?_;intro cB aK;refine Ye 6 rfl (X0 rfl X7 aK)<|Yo 7 rfl (fun _=>X41 rfl rfl (by omega) (by omega))<|Yo 8 rfl (fun _=>Xm rfl rfl (by omega) (by omega))<|Yo 9 rfl (fun _=>Xr rfl) ?_;refine Yd fun a f=>?_;refine Xc<|a8 _ _<|Zr f<|Ze (Xm rfl rfl (by omega) (by omega))<|Zm rfl ?_;refine Zn fun a f=>?_;refine Xd ?_;exact ⟨(j+1,z+(u8.p*(l.getD j 0))),⟨f.sb,(by omega),(by rw [Q,<- hs,aJ]),(by omega),A,B,g⟩,(by first|omega|(dsimp only;omega))⟩
  have aI:=H
  have aJ:nL d.ns l z j=z:=by unfold nL;rw [a7,Q3 (by rw [H];decide)]
  refine Q7<|Xc<|a8 _ _<|Zr f ?_;refine Ze (Xm rfl rfl (by omega) (by omega))<|Zm rfl ?_;refine Zn fun a f=>?_;refine Xd ?_;exact ⟨(j+1,z),⟨f.sb,(by omega),(by rw [Q,<- hs,aJ]),(by omega),A,B,g⟩,(by first|omega|(dsimp only;omega))⟩
 have aE:=o;have o:=Q1 o
 have bN:j=d.ns.length:=by have:=o;omega
 refine Q9<|Xk<|Xk<|X03 ?_;refine bH _ _<|Q5 fun _ b2=>?_;refine Zs f fun _ b3=>?_;refine Ze (Vd rfl Xn 2)<|Ze (X0 rfl X0g (A.at 2))<|Ze (X0c rfl Xt)<|Zm rfl<|Zt b3 fun a f=>?_;refine Q8<|X04 (σ:=Nat×Int) (fun (s:Nat×Int) (a:Act) (w:World)=>match s with|(k,c)=>Fr a 71 [(1,.slice Al l.length cl),(6,vi c),(33,.slice Bd d.ws.length dd),(34,vi (d.ws.length:Int)),(35,vi (k:Int))]/\(k<=d.ws.length)/\(c=sWd l z (d.ws.take k))/\((d.ws.take k).all (okL l)=true)/\(0<=c/\c<=7*d.ns.length+4*k)/\d.ws.length<=dd/\Below N.heap.size N w) (fun (s:Nat×Int)=>match s with|(k,c)=>d.ws.length-k) (0,z) ?_ ?_
 ·exact ⟨f.sb,(Qf _),rfl,rfl,(by omega),B,g⟩
 rintro ⟨k,c⟩ a w6 ⟨f,hk,hc,I,cC,B,g⟩;refine Zs f fun _ b4=>?_;refine Ze (X0q rfl rfl)<|ZX b4 fun a f _ b6=>?_
 refine Xi f rfl (fun q=>?_) (fun q=>?_)
 ·have aL:=q;have q:=Q2 q
  obtain ⟨cD,bR⟩:=X5 (l:=d.ws) (k:=k) (by omega)
  obtain ⟨C,M⟩:=X5 (l:=d.ws) (k:=k) (by have:=q;omega)
  have ue:=hD.e C (Qe M)
  have ul:=hD.w.l C (Qe M)
  have ga:g0 l C.a=0∨g0 l C.a=1:=by rw [hl];exact g01 _
  have gb:g0 l C.b=0∨g0 l C.b=1:=by rw [hl];exact g01 _
  have gm:=Xao (x:=g0 l C.b) (y:=4*g0 l C.a) gb (by omega)
  have Q:=Xdc (bs:=l) M z;refine Q7<|b6 _ _<|Q5 fun _ aC=>?_;refine Q8<|Zs f fun _ b7=>?_;refine Zi (k:=k) (u:=C) (enc:=encWr) (l:=d.ws) tv0 rfl rfl Xt X0d Xz (a6.bx g) M rfl ?_;intro cE aM;refine Ze (X01 (l:=[vi C.a,vi C.b,.bool C.h]) rfl X16 aM rfl)<|Zf (Xo (zs:=[vi 0,vi 0,.bool false]) X2m rfl) ?_;rintro _ w7 ⟨cF,rfl,aD,L,i⟩;have aN:=Q0 g.size aD;have b8:=(a6.bx g).away aD;have g:=btr g L;refine Zo (Vw [vi C.a,vi C.b,.bool C.h] X0d i) ?_;rintro _ w8 ⟨ho,hb⟩;have aB:=i;have g:=Below.oy g ho aN;have i:=hb;refine Zt b7 fun a f=>?_;refine Q8<|Zs f fun _ b9=>?_;refine Ze (Vd rfl X3b 2)<|Ze (X0 rfl X6t (i.at 2))<|Za rfl<|Zt b9 fun a f=>?_
  refine Xi f rfl (fun E=>?_) (fun E=>?_)
  ·have aO:=E;have aP:=Xs5 (bs:=l) E;have aQ:=Y2v (bs:=l) (s:=c) E;refine X00 none (fun _=>false) mixed ?_;intro w9 L;have i:=i.bw L;have g:=btr g L;refine Yb f<|Yo 0 rfl (fun _=>X3 rfl)<|Yo 1 rfl (fun _=>X3 rfl)<|Yo 2 rfl (fun _=>Vd rfl X0r 0)<|Ye 3 rfl (X0 rfl X7 (i.at 0))<|Yi (k:=C.a.toNat) (u:=(g0 l C.a)) (enc:=encI) (l:=l) 4 rfl tv0 rfl rfl Xj X09 X9 (G.bx g) (Xb (d:=0) (by omega)) (by omega) ?_;intro cG aR;refine Ye 5 rfl (X0 rfl X7 aR)<|Yo 6 rfl (fun _=>X41 rfl rfl (by omega) (by omega))<|Yo 7 rfl (fun _=>X3 rfl)<|Yo 8 rfl (fun _=>Vd rfl X0s 1)<|Ye 9 rfl (X0 rfl X7 (i.at 1))<|Yi (k:=C.b.toNat) (u:=(g0 l C.b)) (enc:=encI) (l:=l) 10 rfl tv0 rfl rfl Xj X09 X9 (G.bx g) (Xb (d:=0) (by omega)) (by omega) ?_;intro cH aS;refine Ye 11 rfl (X0 rfl X7 aS)<|Yo 12 rfl (fun _=>X41 rfl rfl (by omega) (by omega))<|Yo 13 rfl (fun _=>Xm rfl rfl (by omega) (by omega))<|Yo 14 rfl (fun _=>Xr rfl) ?_;refine Yd fun a f=>?_;refine Xc<|Xc<|aC _ _<|Zr f ?_;refine Ze (Xm rfl rfl (by omega) (by omega))<|Zm rfl ?_;refine Zn fun a f=>?_;refine Xd ?_;exact ⟨(k+1,c+((4*(g0 l C.a))*(g0 l C.b))),⟨f.sb,(by omega),(by rw [Q,<- hc,aQ]),(X5s M I aP),(by omega),B,g⟩,(by first|omega|(dsimp only;omega))⟩
  have aO:=E;have hh:=E;have aQ:=Y1s (bs:=l) (s:=c) hh;refine Q5 fun _ bA=>?_;refine X00 none (fun _=>false) mixed ?_;intro cI L;have i:=i.bw L;have g:=btr g L;refine Yb f<|Yo 0 rfl (fun _=>X3 rfl)<|Yo 1 rfl (fun _=>Vd rfl X0r 0)<|Ye 2 rfl (X0 rfl X7 (i.at 0))<|Yi (k:=C.a.toNat) (u:=(g0 l C.a)) (enc:=encI) (l:=l) 3 rfl tv0 rfl rfl Xj X09 X9 (G.bx g) (Xb (d:=0) (by omega)) (by omega) ?_;intro cJ aT;refine Ye 4 rfl (X0 rfl X7 aT)<|Yo 5 rfl (fun _=>X3 rfl)<|Yo 6 rfl (fun _=>Vd rfl X0s 1)<|Ye 7 rfl (X0 rfl X7 (i.at 1))<|Yi (k:=C.b.toNat) (u:=(g0 l C.b)) (enc:=encI) (l:=l) 8 rfl tv0 rfl rfl Xj X09 X9 (G.bx g) (Xb (d:=0) (by omega)) (by omega) ?_;intro cK aU;refine Ye 9 rfl (X0 rfl X7 aU)<|Yo 10 rfl (fun _=>X1o rfl rfl)<|Yo 11 rfl (fun _=>Xr rfl) ?_;refine Yd fun a f=>?_;refine bA _ _ ?_
  refine Xi f rfl (fun J=>?_) (fun J=>?_)
  ·have aV:=J
   have bB:d.ws.all (okL l)=false:=Xhu M (by rw [Xg3 hh];have h8:=J;simpa using h8)
   have U:fcL d l=0:=by unfold fcL;rw [bB];rfl
   refine Zs f fun _ bC=>?_;refine Za rfl<|Za rfl<|Zt bC fun a f=>?_;refine Q6<|X02<|X02<|Xa ?_;refine Xa<|X02<|Xa<|X6 f (X19 f rfl rfl rfl) ?_;exact ⟨by rw [U,bB],g⟩
  have aV:=J
  have aP:okL l C=true:=by rw [Xg3 hh];have h8:=J;simpa using h8
  refine Q7<|Xc<|Xc<|aC _ _ ?_;refine Zr f<|Ze (Xm rfl rfl (by omega) (by omega))<|Zm rfl ?_;refine Zn fun a f=>?_;refine Xd ?_;exact ⟨(k+1,c),⟨f.sb,(by omega),(by rw [Q,<- hc,aQ]),(X5s M I aP),(by omega),B,g⟩,(by first|omega|(dsimp only;omega))⟩
 have aL:=q;have q:=Q1 q
 have bO:d.ws.take k=d.ws:=Qi (by have:=q;omega)
 rw [bO] at hc I
 have U:fcL d l=c.tmod 8:=by unfold fcL;rw [Q4 I,<- bN,<- hs,<- hc]
 refine Q9<|Xk<|Xk<|X03 ?_;refine b2 _ _<|Zs f fun _ bD=>?_;refine Zm rfl<|Ze (X33 rfl rfl rfl)<|Za rfl<|Za rfl<|Zt bD fun a f=>?_
 refine Q6 (X6 f (X19 f rfl rfl rfl) ?_)
 exact ⟨by rw [U,I],g⟩
theorem Xt5{ws:List Wr}{k:Nat}{u:Wr}(h:ws[k]? = some u) : hdN (ws.take (k+1))=hdN (ws.take k)+(if u.h=true then 1 else 0):=by
 rw [Qt,h,Option.toList_some]
 unfold hdN
 rw [List.filter_append,Qh,List.filter_cons]
 split<;>simp
theorem Xzs(o:World)(d:Dg)(md:Nat)(aA:md=d.ns.length)(Ad:Option Addr)(cd:Nat)(aQ:Rd o o.heap.size 81 encNd Ad d.ns)(Bd:Option Addr)(dd:Nat)(p:Rd o o.heap.size 83 encWr Bd d.ws)(m:d.ws.length<=dd)(aU:d.ws.length<=1000000000) : Ret Tryz.prog 129 [.agg #[vi d.n,.slice Ad md cd,.slice Bd d.ws.length dd,vi d.t,vi d.r]] o (fun v w=>v=vi (hdN d.ws)/\Below o.heap.size o w):=by
 subst aA
 refine enter Tryz.func129 rfl 20 rfl rfl ?_;intro a f
 have g:=bz o
 refine Zs f fun _ aH=>?_;refine Zf (X0n (zs:=[vi d.n,.slice Ad d.ns.length cd,.slice Bd d.ws.length dd,vi d.t,vi d.r]) rfl rfl) ?_;rintro _ w1 ⟨b4,rfl,aI,hE,aJ⟩;have aR:=Q0 g.size aI;have g:=btr g hE;refine Za rfl<|Zx aH fun a f _ aK=>?_;refine Za rfl<|ZX aK fun a f _ aL=>?_;refine Zs f fun _ aM=>?_;refine Ze (Vd rfl Xn 2)<|Ze (X0 rfl X0g (aJ.at 2))<|Ze (X0c rfl Xt)<|Zm rfl<|Zt aM fun a f=>?_;refine Q8<|X04 (σ:=Nat×Int) (fun (s:Nat×Int) (a:Act) (w:World)=>match s with|(k,c)=>Fr a 20 [(3,vi c),(7,.slice Bd d.ws.length dd),(8,vi (d.ws.length:Int)),(9,vi (k:Int))]/\(k<=d.ws.length)/\(c=hdN (d.ws.take k))/\(0<=c/\c<=k)/\d.ws.length<=dd/\Below o.heap.size o w) (fun (s:Nat×Int)=>match s with|(k,c)=>d.ws.length-k) (0,0) ?_ ?_
 ·exact ⟨f.sb,(Qf _),rfl,(by omega),m,g⟩
 rintro ⟨k,c⟩ a w2 ⟨f,hk,hc,aV,m,g⟩;refine Zs f fun _ aN=>?_;refine Ze (X0q rfl rfl)<|ZX aN fun a f _ aO=>?_
 refine Xi f rfl (fun e=>?_) (fun e=>?_)
 ·have a6:=e;have e:=Q2 e
  obtain ⟨aW,aS⟩:=X5 (l:=d.ws) (k:=k) (by omega)
  obtain ⟨j,aB⟩:=X5 (l:=d.ws) (k:=k) (by have:=e;omega)
  have aP:hdN (d.ws.take (k+1))=hdN (d.ws.take k)+(if j.h=true then 1 else 0):=Xt5 aB
  have aX:0<=(if j.h=true then (1:Int) else 0)/\(if j.h=true then (1:Int) else 0)<=1:=by split<;>omega
  refine Q7<|aO _ _<|Q5 fun _ aC=>?_;refine Q8<|Zs f fun _ aD=>?_;refine Zi (k:=k) (u:=j) (enc:=encWr) (l:=d.ws) tv0 rfl rfl Xt X0d Xz (p.bx g) aB rfl ?_;intro aY a7;refine Ze (X01 (l:=[vi j.a,vi j.b,.bool j.h]) rfl X16 a7 rfl)<|Zf (Xo (zs:=[vi 0,vi 0,.bool false]) X2m rfl) ?_;rintro _ w3 ⟨aZ,rfl,q,hE,i⟩;have a8:=Q0 g.size q;have aE:=(p.bx g).away q;have g:=btr g hE;refine Zo (Vw [vi j.a,vi j.b,.bool j.h] X0d i) ?_;rintro _ w4 ⟨ho,hb⟩;have aT:=i;have g:=Below.oy g ho a8;have i:=hb;refine Zt aD fun a f=>?_;refine Zr f<|Zm rfl<|Ze (Vd rfl X3b 2)<|Ze (X0 rfl X6t (i.at 2))<|Zf (Vc (F59 _ j.h) Xa2) ?_;rintro _ _ ⟨rfl,rfl⟩;refine Ze (Xm rfl rfl (by omega) (by omega))<|Za rfl ?_;refine Zn fun a f=>?_;refine Xc<|aC _ _<|Zr f<|Ze (Xm rfl rfl (by omega) (by omega))<|Zm rfl ?_;refine Zn fun a f=>?_;refine Xd ?_;exact ⟨(k+1,c+(if j.h=true then 1 else 0)),⟨f.sb,(by omega),(by rw [aP,hc]),(by omega),m,g⟩,(by first|omega|(dsimp only;omega))⟩
 have a6:=e;have e:=Q1 e
 have aF:hdN d.ws=c:=by rw [hc,Qi (by have:=e;omega)]
 refine Q9<|Xk<|Xk<|X03 ?_;refine aL _ _<|Zs f fun _ aG=>?_;refine Zm rfl<|Za rfl<|Zt aG fun a f=>?_
 refine Q6 (X6 f (Xu f rfl rfl) ?_)
 exact ⟨by rw [aF],g⟩
theorem Y4n(w0:World)(x:Rg)(m:Int)(hm:m<=1000000) : Ret Tryz.prog 159 [.agg #[vi x.a,vi x.b,vi x.c,vi x.d],vi m] w0 (fun v w=>v=dV (dLow x m)/\Below w0.heap.size w0 w):=by
 refine enter Tryz.func159 rfl 18 rfl rfl ?_;intro a g
 have i:=bz w0
 refine Zs g fun _ aC=>?_;refine Zf (X0n (zs:=[vi x.a,vi x.b,vi x.c,vi x.d]) rfl rfl) ?_;rintro _ w1 ⟨b2,rfl,aD,o,e⟩;have a7:=Q0 i.size aD;have i:=btr i o;refine Zf (Xo (zs:=[vi 0,vi 0,vi 0,vi 0,vi 0]) X85 rfl) ?_;rintro _ w2 ⟨b3,rfl,aE,o,f⟩;have a8:=Q0 i.size aE;have e:=e.bw o;have i:=btr i o;refine ZX aC fun a g _ aF=>?_;refine Q8<|X04 (σ:=Rg×Int) (fun (s:Rg×Int) (a:Act) (w:World)=>match s with|(y,j)=>Fr a 18 [(1,vi j),(2,(pZ9 b2)),(4,(pZ9 b3))]/\(dLow y j=dLow x m)/\(j<=1000000)/\Blk w b2 94 [vi y.a,vi y.b,vi y.c,vi y.d]/\Blk w b3 96 [vi 0,vi 0,vi 0,vi 0,vi 0]/\Below w0.heap.size w0 w) (fun (s:Rg×Int)=>match s with|(y,j)=>j.toNat) (x,m) ?_ ?_
 ·exact ⟨g.sb,rfl,hm,e,f,i⟩
 rintro ⟨y,j⟩ a w3 ⟨g,t,aL,e,f,i⟩;refine Q5 fun _ aG=>?_;refine Q5 fun _ aH=>?_;refine X0b (fun a w=>Fr a 18 [(1,vi j),(2,(pZ9 b2)),(4,(pZ9 b3)),(10,.bool ((decide (0<j))&&(rEven y)))]/\Below w3.heap.size w3 w) ?_ ?_
 ·have q:Below w3.heap.size w3 w3:=Below.refl _ _
  refine Zr g<|Zm rfl<|Ze (X3h rfl rfl)<|Zm rfl ?_
  refine Zg 7 rfl (fun k=>?_) (fun k=>?_)
  ·refine Zv (gW k) (Vn X0w e) ?_;refine Zk (gW k) (Vc (Y3n _ y) Xw0) ?_;rintro _ w4 ⟨rfl,o⟩;have i:=btr i o;have q:=btr q o;refine Ze (X4 rfl k rfl) ?_;refine Zn fun a g=>?_
   have a6:Below w3.heap.size w3 w4:=q
   exact ⟨g.sub ⟨rfl,rfl,rfl,X1 rfl (by simp [k]),trivial⟩,a6⟩
  (iterate 2 refine Zp (gP k) ?_);refine Ze (Xe rfl k rfl) ?_;refine Zn fun a g=>?_
  have a6:Below w3.heap.size w3 w3:=q
  exact ⟨g.sub ⟨rfl,rfl,rfl,X1 rfl (by simp [k]),trivial⟩,a6⟩
 rintro a w5 ⟨g,o⟩;have e:=e.bw o;have f:=f.bw o;have i:=btr i o;refine aH _ _ ?_
 refine Xi g rfl (fun p=>?_) (fun p=>?_)
 ·have aA:=p
  have aM:0<j:=by revert p;simp;omega
  have aI:rEven y=true:=by revert p;cases rEven y<;>simp
  refine Q7<|aG _ _<|Q8<|Zs g fun _ aJ=>?_;refine Ze (Vn X0w e)<|Zf (Vc (Y3d _ y) Xu3) ?_;rintro _ w6 ⟨rfl,o⟩;have e:=e.bw o;have f:=f.bw o;have i:=btr i o;refine Zo (Vw [vi ((rHalf y).a),vi ((rHalf y).b),vi ((rHalf y).c),vi ((rHalf y).d)] X24 e) ?_;rintro _ w7 ⟨ho,hb⟩;have u:=e;have f:=f.oz ho u rfl;have i:=Below.oy i ho a7;have e:=hb;refine Zt aJ fun a g=>?_;refine Zr g<|Zm rfl<|Ze (X11 rfl rfl (by omega) (by omega))<|Za rfl ?_;refine Zn fun a g=>?_;refine Xc<|Xd ?_;exact ⟨(rHalf y,j-1),⟨g.sb,(by rw [<- t];exact (X5x (by omega) aI).symm),(by omega),e,f,i⟩,(by first|omega|(dsimp only;omega))⟩
 have aA:=p
 have aK:dLow y j=⟨y,j⟩:=X3q (by intro h0;revert p;simp [h0])
 refine Q9<|Xk<|Xk<|X03 ?_;refine aF _ _<|Zs g fun _ aB=>?_;refine Ze (Vn X0w e)<|Zm rfl<|Ze (X0e (ps:=[(0,.agg #[vi y.a,vi y.b,vi y.c,vi y.d]),(1,vi j)]) (cs:=[vi y.a,vi y.b,vi y.c,vi y.d,vi j]) rfl (fun _=>by first|rfl|kernel_rfl))<|Zo (Vw [vi y.a,vi y.b,vi y.c,vi y.d,vi j] X2u f) ?_;rintro _ w8 ⟨ho,hb⟩;have u:=f;have i:=Below.oy i ho a8;have f:=hb;refine Zt aB fun a g=>?_
 refine Q6 (X6 g (Xu g rfl (ResV.cellN (l:=[vi y.a,vi y.b,vi y.c,vi y.d,vi j]) rfl X2o (f.at 0) rfl)) ?_)
 refine ⟨?_,i⟩
 rw [<- t,aK]
theorem Xyb(w0:World)(bV:Nat)(f:Bool)(g:Blk w0 bV 91 [.bool f])(d:Dg)(md:Nat)(aS:md=d.ns.length)(Ad:Option Addr)(cd:Nat)(D:Rd w0 w0.heap.size 81 encNd Ad d.ns)(Bd:Option Addr)(dd:Nat)(B:Rd w0 w0.heap.size 83 encWr Bd d.ws)(Q:d.ws.length<=dd)(i:Int)(j:Int)(hG:goodD d=true)(cB:(((spL d.ns).length:Nat) : Int)+2*d.n<=16) : Ret Tryz.prog 109 [(pZ9 bV),.agg #[vi d.n,.slice Ad md cd,.slice Bd d.ws.length dd,vi d.t,vi d.r],vi i,vi j] w0 (fun v w=>v=dV (zcV (smD d (bdB d i j)) (exD d))/\Kept bV w0.heap.size w0 w/\Blk w bV 91 [.bool (f||zcB (smD d (bdB d i j)) (exD d))]):=by
 have eS:=g.lt;have hD:=X0t hG;have eY:=hD.len;have eZ:=hD.m;have f0:=X18 hG;have eF:=Xgn d.ns
 have f3:=Xkv cB (by omega)
 have f5:=Xin hG
 have f7:(List.replicate d.ns.length (0:Int)).length=d.ns.length:=List.length_replicate
 refine enter Tryz.func109 rfl 142 rfl rfl ?_;intro a E
 have I:Kept bV w0.heap.size w0 w0:=Kept.refl _ _ _
 refine Zs E fun _ eG=>?_;refine Zf (X0n (zs:=[vi d.n,.slice Ad md cd,.slice Bd d.ws.length dd,vi d.t,vi d.r]) rfl rfl) ?_;rintro _ w1 ⟨b4,rfl,eH,G,H⟩;have eT:=Q0 I.size eH;have g:=g.bw G;have D:=D.bw G;have B:=B.bw G;have I:=ktr I G;refine Zf (Xo (zs:=[vi 0,vi 0,vi 0,vi 0,vi 0]) X85 rfl) ?_;rintro _ w2 ⟨b5,rfl,eI,G,o⟩;have aT:=Q0 I.size eI;have g:=g.bw G;have H:=H.bw G;have D:=D.bw G;have B:=B.bw G;have I:=ktr I G;refine Zx eG fun a E _ eJ=>?_;refine Ze (Vn X2 H)<|Zf (Vc (Xac _ d md aS Ad cd D.top Bd dd B.top Q (by omega)) X67) ?_;rintro _ w3 ⟨A7,c7,rfl,L,G⟩;have L:=L.lower I.size;have g:=g.bw G;have H:=H.bw G;have o:=o.bw G;have D:=D.bw G;have B:=B.bw G;have I:=ktr I G;refine Za rfl<|Zx eJ fun a E _ eK=>?_;refine Ze (Vd rfl Xg 1)<|Ze (X0 rfl Xy (H.at 1))<|Ze (X0c rfl Xl)<|Zf (X6r (m:=md) (enc:=encI) (z0:=0) rfl rfl Xj X1h z_3 rfl X9 (by first|omega|(simp only [maxLen];omega)) (by omega)) ?_;rintro _ w4 ⟨b9,rfl,cC,G,J⟩;have aW:=Q0 I.size cC;have aI:=L.away cC;have g:=g.bw G;have H:=H.bw G;have o:=o.bw G;have D:=D.bw G;have B:=B.bw G;have L:=L.bw G;have I:=ktr I G;refine Za rfl<|ZX eK fun a E _ cD=>?_;refine Zs E fun _ cE=>?_;refine Ze (Vd rfl Xg 1)<|Ze (X0 rfl Xy (H.at 1))<|Ze (X0c rfl Xl)<|Zm rfl<|Zt cE fun a E=>?_;refine Q8<|X04 (σ:=Nat×(List Int)) (fun (s:Nat×(List Int)) (a:Act) (w:World)=>match s with|(k,m)=>Fr a 142 [(0,(pZ9 bV)),(2,vi i),(3,vi j),(5,(pZ9 b4)),(8,(pZ9 b5)),(9,.slice A7 (spL d.ns).length c7),(10,.slice (some ⟨b9,0,none⟩) md md),(29,.slice Ad md cd),(30,vi (md:Int)),(31,vi (k:Int))]/\(k<=d.ns.length)/\(m=bsO (cutB (bdB d i j) k) d.ns.length)/\Blk w bV 91 [.bool f]/\Blk w b4 39 [vi d.n,.slice Ad md cd,.slice Bd d.ws.length dd,vi d.t,vi d.r]/\Blk w b5 96 [vi 0,vi 0,vi 0,vi 0,vi 0]/\Blk w b9 3 (m.flatMap encI)/\Rd w w0.heap.size 81 encNd Ad d.ns/\Rd w w0.heap.size 83 encWr Bd d.ws/\Own w w0.heap.size 3 1 encI A7 c7 (spL d.ns)/\d.ws.length<=dd/\Kept bV w0.heap.size w0 w) (fun (s:Nat×(List Int))=>match s with|(k,m)=>d.ns.length-k) (0,List.replicate md 0) ?_ ?_
 ·exact ⟨E.sb,(Qf _),(by rw [aS];exact (Xsk _ _).symm),g,H,o,J,D,B,L,Q,I⟩
 rintro ⟨k,m⟩ a w5 ⟨E,hk,hm,g,H,o,J,D,B,L,Q,I⟩;refine Zs E fun _ cF=>?_;refine Ze (X0q rfl rfl)<|ZX cF fun a E _ cG=>?_
 refine Xi E rfl (fun W=>?_) (fun W=>?_)
 ·have aN:=W;have W:=Q2 W
  obtain ⟨u9,aV⟩:=X5 (l:=d.ns) (k:=k) (by have:=W;omega)
  refine Q7<|cG _ _<|Q5 fun _ aX=>?_;refine Q8<|Zs E fun _ cH=>?_;refine Zm rfl<|Zj (k:=k) (u:=u9) (enc:=encNd) (l:=d.ns) tv0 rfl aS rfl Xl X08 Xw D aV (by omega) ?_;intro f8 bK;refine Ze (X01 (l:=[vi u9.k,vi u9.p]) rfl X23 bK rfl)<|Zf (Xo (zs:=[vi 0,vi 0]) X4d rfl) ?_;rintro _ w6 ⟨f9,rfl,bE,G,aF⟩;have aY:=Q0 I.size bE;have cI:=D.away bE;have g:=g.bw G;have H:=H.bw G;have o:=o.bw G;have J:=J.bw G;have D:=D.bw G;have B:=B.bw G;have L:=L.bw G;have I:=ktr I G;refine Za rfl<|Zo (Vw [vi u9.k,vi u9.p] X08 aF) ?_;rintro _ w7 ⟨M,hb⟩;have A:=aF;have g:=g.oz M A rfl;have H:=H.oz M A rfl;have o:=o.oz M A rfl;have J:=J.oz M A rfl;have D:=D.oy M aY;have B:=B.oT M A rfl;have L:=L.oT M A rfl;have I:=Kept.oy I M aY;have aF:=hb;refine Zx cH fun a E _ cJ=>?_;refine Ze (Vd rfl X0v 0)<|Ze (X0 rfl X7 (aF.at 0))<|Zt cJ fun a E=>?_;refine Q8<|Zs E fun _ cK=>?_;refine Ze (X0m rfl rfl)<|Za rfl<|Zt cK fun a E=>?_
  refine Xi E rfl (fun aG=>?_) (fun aG=>?_)
  ·have bL:=aG;have bM:=Y2b (i:=i) (j:=j) aV aG
   have eL:=Xnx hG aV (.inl (by simpa using aG))
   have U:bsO (cutB (bdB d i j) (k+1)) d.ns.length=m.set k (bitF d.n j u9.p):=by rw [bM,hm];exact (X8g _ _ _).symm
   refine Zr E<|Zm rfl<|Zm rfl<|Ze (Vd rfl X13 0)<|Ze (X0 rfl X7 (H.at 0))<|Zm rfl<|Ze (Vd rfl X06 1)<|Ze (X0 rfl X7 (aF.at 1))<|Zf (Vc (Xzp _ d.n j u9.p (by omega) (by omega) (by omega)) Xkt) ?_;rintro _ _ ⟨rfl,rfl⟩;refine Ze (X5y (k:=k) (off:=k*1) rfl rfl Xj X09 rfl (by first|(rw [hm,X2d];omega)|omega) rfl)<|Zo (X57 (enc:=encI) (l:=m) (u:=bitF d.n j u9.p) (k:=k) rfl rfl X09 J X9 X1e rfl (by first|(rw [hm,X2d];omega)|omega)) ?_;rintro _ w8 ⟨M,hb⟩;have A:=J;have g:=g.oz M A rfl;have H:=H.oz M A rfl;have o:=o.oz M A rfl;have D:=D.oT M A rfl;have B:=B.oT M A rfl;have L:=L.onlyA M aI;have I:=Kept.oy I M aW;have J:=hb;refine Zn fun a E=>?_;refine Xc<|Xc<|aX _ _<|Zr E ?_;refine Ze (Xm rfl rfl (by omega) (by omega))<|Zm rfl ?_;refine Zn fun a E=>?_;refine Xd ?_;exact ⟨(k+1,(m.set k (bitF d.n j u9.p))),⟨E.sb,(by omega),U.symm,g,H,o,J,D,B,L,Q,I⟩,(by first|omega|(dsimp only;omega))⟩
  have bL:=aG;have cL:=aG;refine Zs E fun _ cM=>?_;refine Ze (X0m rfl rfl)<|Za rfl<|Zt cM fun a E=>?_
  refine Xi E rfl (fun aH=>?_) (fun aH=>?_)
  ·have bN:=aH;have bM:=Y0k (i:=i) (j:=j) aV cL aH
   have eL:=Xnx hG aV (.inr (by simpa using aH))
   have U:bsO (cutB (bdB d i j) (k+1)) d.ns.length=m.set k (bitF d.n i u9.p):=by rw [bM,hm];exact (X8g _ _ _).symm
   refine Zr E<|Zm rfl<|Zm rfl<|Ze (Vd rfl X13 0)<|Ze (X0 rfl X7 (H.at 0))<|Zm rfl<|Ze (Vd rfl X06 1)<|Ze (X0 rfl X7 (aF.at 1))<|Zf (Vc (Xzp _ d.n i u9.p (by omega) (by omega) (by omega)) Xkt) ?_;rintro _ _ ⟨rfl,rfl⟩;refine Ze (X5y (k:=k) (off:=k*1) rfl rfl Xj X09 rfl (by first|(rw [hm,X2d];omega)|omega) rfl)<|Zo (X57 (enc:=encI) (l:=m) (u:=bitF d.n i u9.p) (k:=k) rfl rfl X09 J X9 X1e rfl (by first|(rw [hm,X2d];omega)|omega)) ?_;rintro _ w9 ⟨M,hb⟩;have A:=J;have g:=g.oz M A rfl;have H:=H.oz M A rfl;have o:=o.oz M A rfl;have D:=D.oT M A rfl;have B:=B.oT M A rfl;have L:=L.onlyA M aI;have I:=Kept.oy I M aW;have J:=hb;refine Zn fun a E=>?_;refine Xc<|Xc<|aX _ _<|Zr E ?_;refine Ze (Xm rfl rfl (by omega) (by omega))<|Zm rfl ?_;refine Zn fun a E=>?_;refine Xd ?_;exact ⟨(k+1,(m.set k (bitF d.n i u9.p))),⟨E.sb,(by omega),U.symm,g,H,o,J,D,B,L,Q,I⟩,(by first|omega|(dsimp only;omega))⟩
  have bN:=aH;have eM:=Y23 (i:=i) (j:=j) aV cL aH
  have U:bsO (cutB (bdB d i j) (k+1)) d.ns.length=m:=by rw [hm,Xcz eM]
  refine Q7<|Xc<|Xc<|aX _ _ ?_;refine Zr E<|Ze (Xm rfl rfl (by omega) (by omega))<|Zm rfl ?_;refine Zn fun a E=>?_;refine Xd ?_;exact ⟨(k+1,m),⟨E.sb,(by omega),U.symm,g,H,o,J,D,B,L,Q,I⟩,(by first|omega|(dsimp only;omega))⟩
 have aN:=W;have W:=Q1 W
 have eO:m=bsO (bdB d i j) d.ns.length:=by rw [hm];exact Xgr (by have:=W;omega)
 refine Q9<|Xk<|Xk<|X03 ?_;refine cD _ _<|Zs E fun _ cN=>?_;refine Ze (X0e (ps:=[]) (cs:=[vi 0,vi 0,vi 0,vi 0]) rfl (fun _=>by first|rfl|kernel_rfl))<|Zf (Xo (zs:=[vi 0,vi 0,vi 0,vi 0]) X5k rfl) ?_;rintro _ fA ⟨aJ,rfl,cO,G,C⟩;have aO:=Q0 I.size cO;have g:=g.bw G;have H:=H.bw G;have o:=o.bw G;have J:=J.bw G;have D:=D.bw G;have B:=B.bw G;have L:=L.bw G;have I:=ktr I G;refine Zo (Vw [vi 0,vi 0,vi 0,vi 0] X24 C) ?_;rintro _ fB ⟨M,hb⟩;have A:=C;have g:=g.oz M A rfl;have H:=H.oz M A rfl;have o:=o.oz M A rfl;have J:=J.oz M A rfl;have D:=D.oT M A rfl;have B:=B.oT M A rfl;have L:=L.oT M A rfl;have I:=Kept.oy I M aO;have C:=hb;refine ZX cN fun a E _ cP=>?_;refine Zs E fun _ cQ=>?_;refine Za rfl<|Zt cQ fun a E=>?_;refine Q8<|X04 (σ:=Nat×Rg×(Nat->Bool)×(List Int)) (fun (s:Nat×Rg×(Nat->Bool)×(List Int)) (a:Act) (w:World)=>match s with|(n,z,be,r)=>Fr a 142 [(0,(pZ9 bV)),(5,(pZ9 b4)),(8,(pZ9 b5)),(9,.slice A7 (spL d.ns).length c7),(10,.slice (some ⟨b9,0,none⟩) md md),(13,(pZ9 aJ)),(14,vi (n:Int))]/\(n<=2^(spL d.ns).length)/\(z=smK d i j n)/\(r=bsO be d.ns.length)/\(∀ x,x ∉ spS d.ns->be x=(bdB d i j) x)/\Blk w bV 91 [.bool f]/\Blk w b4 39 [vi d.n,.slice Ad md cd,.slice Bd d.ws.length dd,vi d.t,vi d.r]/\Blk w b5 96 [vi 0,vi 0,vi 0,vi 0,vi 0]/\Blk w b9 3 (r.flatMap encI)/\Blk w aJ 94 [vi z.a,vi z.b,vi z.c,vi z.d]/\Rd w w0.heap.size 81 encNd Ad d.ns/\Rd w w0.heap.size 83 encWr Bd d.ws/\Own w w0.heap.size 3 1 encI A7 c7 (spL d.ns)/\d.ws.length<=dd/\Kept bV w0.heap.size w0 w) (fun (s:Nat×Rg×(Nat->Bool)×(List Int))=>match s with|(n,z,be,r)=>2^(spL d.ns).length-n) (0,rZ,(bdB d i j),m) ?_ ?_
 ·exact ⟨E.sb,(Qf _),rfl,eO,(fun _ _=>rfl),g,H,o,J,C,D,B,L,Q,I⟩
 rintro ⟨n,z,be,r⟩ a fC ⟨E,hn,hz,hr,bO,g,H,o,J,C,D,B,L,Q,I⟩;refine Q5 fun _ cR=>?_;refine Zs E fun _ cS=>?_;refine Zm rfl<|Zm rfl<|Ze (X0c rfl Xj)<|Ze (Xkp (m:=(spL d.ns).length) Tryz.underlying3 Tryz.underlying147 rfl rfl (by omega))<|Ze (Vx (Xjm (m:=(spL d.ns).length) rfl rfl rfl (by omega)) (X9p (by omega)))<|Ze (X0q rfl rfl)<|Zt cS fun a E=>?_
 refine Xi E rfl (fun a6=>?_) (fun a6=>?_)
 ·have aP:=a6;have a6:=Q2 a6
  have fE:n<2^(spL d.ns).length:=by have:=a6;omega
  refine Q7<|cR _ _<|Q5 fun _ bF=>?_;refine Q8<|Q5 fun _ cT=>?_;refine Zs E fun _ cU=>?_;refine Zm rfl<|Ze (X0c rfl Xj)<|Zm rfl<|Zt cU fun a E=>?_;refine Q8<|X04 (σ:=Nat×(List Int)) (fun (s:Nat×(List Int)) (a:Act) (w:World)=>match s with|(q,r2)=>Fr a 142 [(0,(pZ9 bV)),(5,(pZ9 b4)),(8,(pZ9 b5)),(9,.slice A7 (spL d.ns).length c7),(10,.slice (some ⟨b9,0,none⟩) md md),(13,(pZ9 aJ)),(14,vi (n:Int)),(70,.slice A7 (spL d.ns).length c7),(71,vi ((spL d.ns).length:Int)),(72,vi (q:Int))]/\(q<=(spL d.ns).length)/\(r2=bsO (asK ((spS d.ns).take q) n be) d.ns.length)/\Blk w bV 91 [.bool f]/\Blk w b4 39 [vi d.n,.slice Ad md cd,.slice Bd d.ws.length dd,vi d.t,vi d.r]/\Blk w b5 96 [vi 0,vi 0,vi 0,vi 0,vi 0]/\Blk w b9 3 (r2.flatMap encI)/\Blk w aJ 94 [vi z.a,vi z.b,vi z.c,vi z.d]/\Rd w w0.heap.size 81 encNd Ad d.ns/\Rd w w0.heap.size 83 encWr Bd d.ws/\Own w w0.heap.size 3 1 encI A7 c7 (spL d.ns)/\d.ws.length<=dd/\Kept bV w0.heap.size w0 w) (fun (s:Nat×(List Int))=>match s with|(q,r2)=>(spL d.ns).length-q) (0,r) ?_ ?_
  ·exact ⟨E.sb,(Qf _),hr,g,H,o,J,C,D,B,L,Q,I⟩
  rintro ⟨q,r2⟩ a fF ⟨E,hq,b6,g,H,o,J,C,D,B,L,Q,I⟩;refine Zs E fun _ cV=>?_;refine Ze (X0q rfl rfl)<|ZX cV fun a E _ cW=>?_
  refine Xi E rfl (fun a7=>?_) (fun a7=>?_)
  ·have bP:=a7;have a7:=Q2 a7
   obtain ⟨fG,eU⟩:=X5 (l:=(spL d.ns)) (k:=q) (by omega)
   obtain ⟨x8,cX⟩:=X5 (l:=spS d.ns) (k:=q) (by have:=a7;omega)
   have cY:=Xjb cX;have eV:=cY.2;have U:=Xgu (β:=be) (N:=d.ns.length) (m:=n) cX
   rw [<- b6] at U
   refine Q7<|cW _ _<|Q5 fun _ cZ=>?_;refine Q8<|Zs E fun _ d5=>?_;refine Zm rfl<|Zi (k:=q) (u:=((x8:Nat) : Int)) (enc:=encI) (l:=(spL d.ns)) tv0 rfl rfl Xj X09 X9 L.rd cY.1 rfl ?_;intro fH bQ;refine Ze (X0 rfl X7 bQ)<|Za rfl<|Za rfl<|Zt d5 fun a E=>?_;refine Zr E<|Zm rfl<|Zm rfl<|Zm rfl<|Zm rfl<|Ze (Xkp (m:=q) Tryz.underlying3 Tryz.underlying147 rfl rfl (by omega))<|Ze (Xqa (m:=q) rfl rfl rfl (by omega))<|Ze (Vx (Xl7 rfl rfl) (Xcy (by omega)))<|Ze (X5y (k:=x8) (off:=x8*1) rfl rfl Xj X09 rfl (by first|(rw [b6,X2d];omega)|omega) rfl)<|Zo (X57 (enc:=encI) (l:=r2) (u:=(b1 (n.testBit q))) (k:=x8) rfl rfl X09 J X9 X1e rfl (by first|(rw [b6,X2d];omega)|omega)) ?_;rintro _ fI ⟨M,hb⟩;have A:=J;have g:=g.oz M A rfl;have H:=H.oz M A rfl;have o:=o.oz M A rfl;have C:=C.oz M A rfl;have D:=D.oT M A rfl;have B:=B.oT M A rfl;have L:=L.onlyA M aI;have I:=Kept.oy I M aW;have J:=hb;refine Zn fun a E=>?_;refine Xc<|cZ _ _<|Zr E<|Ze (Xm rfl rfl (by omega) (by omega))<|Zm rfl ?_;refine Zn fun a E=>?_;refine Xd ?_;exact ⟨(q+1,(r2.set x8 (b1 (n.testBit q)))),⟨E.sb,(by omega),U,g,H,o,J,C,D,B,L,Q,I⟩,(by first|omega|(dsimp only;omega))⟩
  have bP:=a7;have a7:=Q1 a7
  have b7:r2=bsO (asK (spS d.ns) n be) d.ns.length:=by rw [b6,Qi (by have:=a7;omega)]
  have d6:r2=bsO (asK (spS d.ns) n (bdB d i j)) d.ns.length:=by rw [b7,Xcm _ _ bO]
  have aZ:=d6.symm;refine Q9<|Xk<|Xk<|X03 ?_;refine cT _ _<|Zs E fun _ d7=>?_;refine Ze (Vn X2 H)<|Zm rfl<|Zf (Vc (Y1w _ d md aS Ad cd D.top Bd dd B.top Q (some ⟨b9,0,none⟩) md r2 md (Rd.of_blk J rfl _ J.lt) (by rw [b7,X2d];omega) hG (asK (spS d.ns) n (bdB d i j)) d6) Xrh) ?_;rintro _ fJ ⟨rfl,G⟩;have g:=g.bw G;have H:=H.bw G;have o:=o.bw G;have J:=J.bw G;have C:=C.bw G;have D:=D.bw G;have B:=B.bw G;have L:=L.bw G;have I:=ktr I G;refine Za rfl<|Zx d7 fun a E _ d8=>?_;refine Zm rfl<|Ze (X5g rfl rfl)<|Zt d8 fun a E=>?_
  refine Xi E rfl (fun a8=>?_) (fun a8=>?_)
  ·have bR:=a8;have a8:=Q2 a8
   have U:=Y1m (i:=i) (j:=j) (n:=n) hG (by omega) (by rw [aZ];have h8:=a8;omega)
   rw [aZ,<- hz] at U
   refine X00 none (fun j=>[5].contains j) mixed ?_;intro fK G;have g:=g.bw G;have H:=H.bw G;have o:=o.bw G;have J:=J.bw G;have C:=C.bw G;have D:=D.bw G;have B:=B.bw G;have L:=L.bw G;have I:=ktr I G;refine Yb E<|Ye 0 rfl (Vn X0w C)<|Yo 1 rfl (fun _=>X0e (ps:=[(0,vi 1)]) (cs:=[vi 1,vi 0,vi 0,vi 0]) rfl (fun _=>by first|rfl|kernel_rfl))<|Yo 2 rfl (fun _=>X3 rfl)<|Y1 3 ?_;refine Yk rfl tv0 (Vc (Y3c _ (⟨1,0,0,0⟩ : Rg) (tmL d r2)) Xws) (fun _ _ ⟨_,G⟩=>G) ?_;rintro _ fL ⟨rfl,G⟩;have g:=g.bw G;have H:=H.bw G;have o:=o.bw G;have J:=J.bw G;have C:=C.bw G;have D:=D.bw G;have B:=B.bw G;have L:=L.bw G;have I:=ktr I G;refine Y1 4<|Yk rfl tv0 (Vc (Y3q _ z (rTurn (⟨1,0,0,0⟩ : Rg) (tmL d r2))) Xxw) (fun _ _ ⟨_,G⟩=>G) ?_;rintro _ fM ⟨rfl,G⟩;have g:=g.bw G;have H:=H.bw G;have o:=o.bw G;have J:=J.bw G;have C:=C.bw G;have D:=D.bw G;have B:=B.bw G;have L:=L.bw G;have I:=ktr I G;refine Y1 5<|Yh rfl tv0 rfl (Vw [vi ((rAdd z (rTurn (⟨1,0,0,0⟩ : Rg) (tmL d r2))).a),vi ((rAdd z (rTurn (⟨1,0,0,0⟩ : Rg) (tmL d r2))).b),vi ((rAdd z (rTurn (⟨1,0,0,0⟩ : Rg) (tmL d r2))).c),vi ((rAdd z (rTurn (⟨1,0,0,0⟩ : Rg) (tmL d r2))).d)] X24 C) ?_;rintro _ fN ⟨M,hb⟩;have A:=C;have g:=g.oz M A rfl;have H:=H.oz M A rfl;have o:=o.oz M A rfl;have J:=J.oz M A rfl;have D:=D.oT M A rfl;have B:=B.oT M A rfl;have L:=L.oT M A rfl
   have I:=Kept.oy I M aO;have C:=hb;refine Yd fun a E=>?_;refine Xc<|bF _ _<|Zr E<|Zm rfl<|Ze (Xm rfl rfl (by omega) (by omega))<|Za rfl ?_;refine Zn fun a E=>?_;refine Xd ?_;exact ⟨(n+1,(rAdd z (rTurn (⟨1,0,0,0⟩ : Rg) (tmL d r2))),(asK (spS d.ns) n be),r2),⟨E.sb,(by omega),U,b7,(fun x hx=>by rw [X9a _ _ _ hx];exact bO x hx),g,H,o,J,C,D,B,L,Q,I⟩,(by first|omega|(dsimp only;omega))⟩
  have bR:=a8;have a8:=Q1 a8
  have U:=Y1e (i:=i) (j:=j) (n:=n) hG (by rw [aZ];have h8:=a8;omega)
  rw [<- hz] at U
  refine Q7<|Xc<|bF _ _<|Zr E ?_;refine Zm rfl<|Ze (Xm rfl rfl (by omega) (by omega))<|Za rfl ?_;refine Zn fun a E=>?_;refine Xd ?_;exact ⟨(n+1,z,(asK (spS d.ns) n be),r2),⟨E.sb,(by omega),U,b7,(fun x hx=>by rw [X9a _ _ _ hx];exact bO x hx),g,H,o,J,C,D,B,L,Q,I⟩,(by first|omega|(dsimp only;omega))⟩
 have aP:=a6;have a6:=Q1 a6
 have eP:n=2^(spS d.ns).length:=by have:=a6;rw [eF];omega
 have b0:z=(smD d (bdB d i j)):=by rw [hz,eP];exact Xe8 _ _ _
 have eQ:rOk z=true:=by rw [b0];exact Xd0 hG cB _
 refine Q9<|Xk<|Xk<|X03 ?_;refine cP _ _<|Zs E fun _ dA=>?_;refine Ze (Vd rfl X07 4)<|Ze (X0 rfl X7 (H.at 4))<|Ze (Vx (Xxe rfl) (X1v (by omega) (by omega)))<|Za rfl<|ZX dA fun a E _ dB=>?_;refine Zs E fun _ dC=>?_;refine Ze (Vd rfl Xn 2)<|Ze (X0 rfl X0g (H.at 2))<|Ze (X0c rfl Xt)<|Zm rfl<|Zt dC fun a E=>?_;refine Q8<|X04 (σ:=Nat×Int) (fun (s:Nat×Int) (a:Act) (w:World)=>match s with|(k2,e)=>Fr a 142 [(0,(pZ9 bV)),(8,(pZ9 b5)),(13,(pZ9 aJ)),(18,vi e),(100,.slice Bd d.ws.length dd),(101,vi (d.ws.length:Int)),(102,vi (k2:Int))]/\(k2<=d.ws.length)/\(e=hdN (d.ws.take k2)-d.r)/\(-60<=e/\e<=60+k2)/\Blk w bV 91 [.bool f]/\Blk w b5 96 [vi 0,vi 0,vi 0,vi 0,vi 0]/\Blk w aJ 94 [vi z.a,vi z.b,vi z.c,vi z.d]/\Rd w w0.heap.size 83 encWr Bd d.ws/\d.ws.length<=dd/\Kept bV w0.heap.size w0 w) (fun (s:Nat×Int)=>match s with|(k2,e)=>d.ws.length-k2) (0,(-d.r)) ?_ ?_
 ·exact ⟨E.sb,(Qf _),(by show -d.r=0-d.r;omega),(by omega),g,o,C,B,Q,I⟩
 rintro ⟨k2,e⟩ a fO ⟨E,fP,he,fQ,g,o,C,B,Q,I⟩;refine Zs E fun _ dD=>?_;refine Ze (X0q rfl rfl)<|ZX dD fun a E _ dE=>?_
 refine Xi E rfl (fun aA=>?_) (fun aA=>?_)
 ·have aQ:=aA;have aA:=Q2 aA
  obtain ⟨fR,eX⟩:=X5 (l:=d.ws) (k:=k2) (by omega)
  obtain ⟨u7,dF⟩:=X5 (l:=d.ws) (k:=k2) (by have:=aA;omega)
  have U:=Xt5 dF;refine Q7<|dE _ _<|Q5 fun _ bG=>?_;refine Q8<|Zs E fun _ dG=>?_;refine Zi (k:=k2) (u:=u7) (enc:=encWr) (l:=d.ws) tv0 rfl rfl Xt X0d Xz B dF rfl ?_;intro fS bS;refine Ze (X01 (l:=[vi u7.a,vi u7.b,.bool u7.h]) rfl X16 bS rfl)<|Zf (Xo (zs:=[vi 0,vi 0,.bool false]) X2m rfl) ?_;rintro _ fT ⟨fU,rfl,bH,G,aU⟩;have b2:=Q0 I.size bH;have dH:=B.away bH;have g:=g.bw G;have o:=o.bw G;have C:=C.bw G;have B:=B.bw G;have I:=ktr I G;refine Zo (Vw [vi u7.a,vi u7.b,.bool u7.h] X0d aU) ?_;rintro _ fV ⟨M,hb⟩;have A:=aU;have g:=g.oz M A rfl;have o:=o.oz M A rfl;have C:=C.oz M A rfl;have B:=B.oy M b2;have I:=Kept.oy I M b2;have aU:=hb;refine Zx dG fun a E _ dI=>?_;refine Ze (Vd rfl X3b 2)<|Ze (X0 rfl X6t (aU.at 2))<|Zt dI fun a E=>?_
  refine Xi E rfl (fun aK=>?_) (fun aK=>?_)
  ·have bT:=aK
   have b3:hdN (d.ws.take (k2+1))-d.r=e+1:=by rw [U,Q4 aK];omega
   refine Zr E<|Zm rfl<|Ze (Xm rfl rfl (by omega) (by omega))<|Za rfl ?_;refine Zn fun a E=>?_;refine Xc<|bG _ _<|Zr E<|Ze (Xm rfl rfl (by omega) (by omega))<|Zm rfl ?_;refine Zn fun a E=>?_;refine Xd ?_;exact ⟨(k2+1,e+1),⟨E.sb,(by omega),(by rw [b3]),(by omega),g,o,C,B,Q,I⟩,(by first|omega|(dsimp only;omega))⟩
  have bT:=aK
  have b3:hdN (d.ws.take (k2+1))-d.r=e:=by rw [U,Q3 (by rw [aK];decide)];omega
  refine Q7<|Xc<|bG _ _<|Zr E ?_;refine Ze (Xm rfl rfl (by omega) (by omega))<|Zm rfl ?_;refine Zn fun a E=>?_;refine Xd ?_;exact ⟨(k2+1,e),⟨E.sb,(by omega),(by rw [b3]),(by omega),g,o,C,B,Q,I⟩,(by first|omega|(dsimp only;omega))⟩
 have aQ:=aA;have aA:=Q1 aA
 have b8:e=exD d:=by rw [he,Qi (by have:=aA;omega)];rfl
 refine Q9<|Xk<|Xk<|X03 ?_;refine dB _ _<|Q5 fun _ dJ=>?_;refine Zs E fun _ dK=>?_;refine Ze (Vn X0w C)<|Ze (X0e (ps:=[]) (cs:=[vi 0,vi 0,vi 0,vi 0]) rfl (fun _=>by first|rfl|kernel_rfl))<|Ze (Xiw rfl rfl Xjy (fun w=>eqR 9998 z (⟨0,0,0,0⟩ : Rg) w))<|Zt dK fun a E=>?_
 refine Xi E rfl (fun aB=>?_) (fun aB=>?_)
 ·have aR:=aB;have aB:=Q2 aB
  have bA:z=rZ:=by show z=⟨0,0,0,0⟩;have h8:=aB;simpa using h8
  have dL:=Y3o (e:=e) bA;refine Zs E fun _ dM=>?_;refine Ze (X0e (ps:=[]) (cs:=[vi 0,vi 0,vi 0,vi 0,vi 0]) rfl (fun _=>by first|rfl|kernel_rfl))<|Zo (Vw [vi 0,vi 0,vi 0,vi 0,vi 0] X2u o) ?_;rintro _ fW ⟨M,hb⟩;have A:=o;have g:=g.oz M A rfl;have I:=Kept.oy I M aT;have o:=hb;refine Zt dM fun a E=>?_;refine Q6<|Xa<|X6 E (Xu E rfl (ResV.cellN (l:=[vi 0,vi 0,vi 0,vi 0,vi 0]) rfl X2o (o.at 0) rfl)) ?_
  rw [<- b0,<- b8,dL.1,dL.2,Bool.or_false]
  exact ⟨rfl,I,g⟩
 have aR:=aB;have aB:=Q1 aB
 have bA:¬ z=rZ:=by show ¬ z=⟨0,0,0,0⟩;have h8:=aB;simpa using h8
 refine Q7<|dJ _ _<|Q5 fun _ dN=>?_;refine Q8<|X04 (σ:=Rg×Int) (fun (s:Rg×Int) (a:Act) (w:World)=>match s with|(y,e4)=>Fr a 142 [(0,(pZ9 bV)),(8,(pZ9 b5)),(13,(pZ9 aJ)),(18,vi e4)]/\(RsI z (-e).toNat y e4)/\(e4=e∨(e<0/\e4<=0))/\(-60<=e4/\e4<=1700)/\Blk w bV 91 [.bool f]/\Blk w b5 96 [vi 0,vi 0,vi 0,vi 0,vi 0]/\Blk w aJ 94 [vi y.a,vi y.b,vi y.c,vi y.d]/\Kept bV w0.heap.size w0 w) (fun (s:Rg×Int)=>match s with|(y,e4)=>(-e4).toNat) (z,e) ?_ ?_
 ·exact ⟨E.sb,(RsI.start eQ rfl),(.inl rfl),(by omega),g,o,C,I⟩
 rintro ⟨y,e4⟩ a w24 ⟨E,bU,eR,fX,g,o,C,I⟩;refine Q5 fun _ dO=>?_;refine Q5 fun _ dP=>?_;refine X0b (fun a w=>Fr a 142 [(0,(pZ9 bV)),(8,(pZ9 b5)),(13,(pZ9 aJ)),(18,vi e4),(120,.bool ((decide (e4<0))&&(rOk y)))]/\Below w24.heap.size w24 w) ?_ ?_
 ·have bB:Below w24.heap.size w24 w24:=Below.refl _ _
  refine Zr E<|Zm rfl<|Ze (X0q rfl rfl)<|Zm rfl ?_
  refine Zg 117 rfl (fun aC=>?_) (fun aC=>?_)
  ·refine Zv (gW aC) (Vn X0w C) ?_;refine Zk (gW aC) (Vc (Y32 _ y) Xkd) ?_;rintro _ w25 ⟨rfl,G⟩;have I:=ktr I G;have bB:=btr bB G;refine Ze (X4 rfl aC rfl) ?_;refine Zn fun a E=>?_
   have bW:Below w24.heap.size w24 w25:=bB
   exact ⟨E.sub ⟨rfl,rfl,rfl,rfl,X1 rfl (by simp [aN,aP,aQ,aR,aC]),trivial⟩,bW⟩
  (iterate 2 refine Zp (gP aC) ?_);refine Ze (Xe rfl aC rfl) ?_;refine Zn fun a E=>?_
  have bW:Below w24.heap.size w24 w24:=bB
  exact ⟨E.sub ⟨rfl,rfl,rfl,rfl,X1 rfl (by simp [aN,aP,aQ,aR,aC]),trivial⟩,bW⟩
 rintro a fY ⟨E,G⟩;have g:=g.bw G;have o:=o.bw G;have C:=C.bw G;have I:=ktr I G;refine dP _ _ ?_
 refine Xi E rfl (fun aL=>?_) (fun aL=>?_)
 ·have bX:=aL
  have bC:e4<0/\rOk y=true:=by have h8:=aL;revert h8;cases rOk y<;>simp
  refine Q7<|dO _ _<|Q8<|Zs E fun _ dQ=>?_;refine Ze (Vn X0w C)<|Zf (Vc (Y08 _ y) Xlx) ?_;rintro _ fZ ⟨rfl,G⟩;have g:=g.bw G;have o:=o.bw G;have C:=C.bw G;have I:=ktr I G;refine Zo (Vw [vi ((rRoot y).a),vi ((rRoot y).b),vi ((rRoot y).c),vi ((rRoot y).d)] X24 C) ?_;rintro _ g5 ⟨M,hb⟩;have A:=C;have g:=g.oz M A rfl;have o:=o.oz M A rfl;have I:=Kept.oy I M aO;have C:=hb;refine Zt dQ fun a E=>?_;refine Zr E<|Zm rfl<|Ze (Xm rfl rfl (by omega) (by omega))<|Za rfl ?_;refine Zn fun a E=>?_;refine Xc<|Xd ?_;exact ⟨((rRoot y),e4+1),⟨E.sb,(bU.step bC.1 bC.2),(by omega),(by omega),g,o,C,I⟩,(by first|omega|(dsimp only;omega))⟩
 have bX:=aL
 have bC:rOk y=true->0<=e4:=by have h8:=aL;revert h8;cases rOk y<;>simp
 refine Q9<|Xk<|Xk<|X03 ?_;refine dN _ _<|Q5 fun _ dR=>?_;refine Zs E fun _ dS=>?_;refine Ze (Vn X0w C)<|Zf (Vc (Y32 _ y) Xkd) ?_;rintro _ g6 ⟨rfl,G⟩;have g:=g.bw G;have o:=o.bw G;have C:=C.bw G;have I:=ktr I G;refine Ze (X0y rfl)<|Zt dS fun a E=>?_
 refine Xi E rfl (fun aM=>?_) (fun aM=>?_)
 ·have bY:=aM
  have dT:=bU.bad2 rfl bA (by have h8:=aM;simpa using h8)
  refine Zs E fun _ dU=>?_;refine Zm rfl<|Ze (X0a rfl)<|Ze (Vd rfl X7c 0)<|Zo (X1a (vs:=[.bool true]) (l':=[.bool true]) rfl rfl X6s g rfl rfl rfl rfl rfl) ?_;rintro _ g7 ⟨M,hb⟩;have A:=g;have o:=o.oz M A rfl;have I:=I.self M;have g:=hb;refine Zx dU fun a E _ dW=>?_;refine Ze (X0e (ps:=[]) (cs:=[vi 0,vi 0,vi 0,vi 0,vi 0]) rfl (fun _=>by first|rfl|kernel_rfl))<|Zo (Vw [vi 0,vi 0,vi 0,vi 0,vi 0] X2u o) ?_;rintro _ g8 ⟨M,hb⟩;have A:=o;have g:=g.oz M A rfl;have I:=Kept.oy I M aT;have o:=hb;refine Zt dW fun a E=>?_;refine Q6<|Xa<|X6 E (Xu E rfl (ResV.cellN (l:=[vi 0,vi 0,vi 0,vi 0,vi 0]) rfl X2o (o.at 0) rfl)) ?_
  rw [<- b0,<- b8,dT.1,dT.2,Bool.or_true]
  exact ⟨rfl,I,g⟩
 have bY:=aM
 have dX:rOk y=true:=by have h8:=aM;simpa using h8
 have bD:=bU.fin2 rfl bA dX (bC dX) eR;refine Q7<|dR _ _<|Zs E fun _ dY=>?_;refine Ze (Vn X0w C)<|Zm rfl<|Zf (X1m (vs:=[.agg #[vi y.a,vi y.b,vi y.c,vi y.d],vi e4]) rfl Xvn (Y4n _ y e4 (by omega))) ?_;rintro _ gA ⟨rfl,G⟩;have g:=g.bw G;have o:=o.bw G;have I:=ktr I G;refine Zf (Xo (zs:=[vi 0,vi 0,vi 0,vi 0,vi 0]) X85 rfl) ?_;rintro _ gB ⟨b77,rfl,eA,G,aD⟩
 have eB:b5≠b77:=by have:=o.lt;omega
 have bZ:=Q0 I.size eA;have g:=g.bw G;have o:=o.bw G;have I:=ktr I G;refine Zo (Vw [vi ((dLow y e4).num.a),vi ((dLow y e4).num.b),vi ((dLow y e4).num.c),vi ((dLow y e4).num.d),vi ((dLow y e4).exp)] X2u aD) ?_;rintro _ gC ⟨M,hb⟩;have A:=aD;have g:=g.oz M A rfl;have o:=o.oy M (by omega);have I:=Kept.oy I M bZ;have aD:=hb;refine ZX dY fun a E _ bJ=>?_;refine Zs E fun _ eC=>?_;refine Ze (Vd rfl X9m 4)<|Ze (X0 rfl X7 (aD.at 4))<|Ze (X3h rfl rfl)<|Zt eC fun a E=>?_
 refine Xi E rfl (fun aE=>?_) (fun aE=>?_)
 ·have c5:=aE;have aE:=Q2 aE
  have cA:zcB z e=true:=by rw [bD.1];exact decide_eq_true (by have h8:=aE;simpa using h8)
  refine Zr E<|Zm rfl<|Ze (X0a rfl)<|Ze (Vd rfl X7c 0)<|Zo (X1a (vs:=[.bool true]) (l':=[.bool true]) rfl rfl X6s g rfl rfl rfl rfl rfl) ?_;rintro _ gD ⟨M,hb⟩;have A:=g;have o:=o.oz M A rfl;have aD:=aD.oz M A rfl;have I:=I.self M;have g:=hb;refine Zx bJ fun a E _ eD=>?_;refine Ze (Vn X2o aD)<|Zo (Vw [vi ((dLow y e4).num.a),vi ((dLow y e4).num.b),vi ((dLow y e4).num.c),vi ((dLow y e4).num.d),vi ((dLow y e4).exp)] X2u o) ?_;rintro _ gE ⟨M,hb⟩;have A:=o;have g:=g.oz M A rfl;have I:=Kept.oy I M aT;have o:=hb;refine Zt eD fun a E=>?_
  refine Q6 (X6 E (Xu E rfl (ResV.cellN (l:=[vi ((dLow y e4).num.a),vi ((dLow y e4).num.b),vi ((dLow y e4).num.c),vi ((dLow y e4).num.d),vi ((dLow y e4).exp)]) rfl X2o (o.at 0) rfl)) ?_)
  rw [<- b0,<- b8,cA,bD.2]
  first|(rw [Bool.or_true];exact ⟨rfl,I,g⟩)|(rw [Bool.or_false];exact ⟨rfl,I,g⟩)
 have c5:=aE;have aE:=Q1 aE
 have cA:zcB z e=false:=by rw [bD.1];exact decide_eq_false (by have h8:=aE;simpa using h8)
 refine Q7<|bJ _ _<|Zs E fun _ eE=>?_;refine Ze (Vn X2o aD)<|Zo (Vw [vi ((dLow y e4).num.a),vi ((dLow y e4).num.b),vi ((dLow y e4).num.c),vi ((dLow y e4).num.d),vi ((dLow y e4).exp)] X2u o) ?_;rintro _ gF ⟨M,hb⟩;have A:=o;have g:=g.oz M A rfl;have I:=Kept.oy I M aT;have o:=hb;refine Zt eE fun a E=>?_
 refine Q6 (X6 E (Xu E rfl (ResV.cellN (l:=[vi ((dLow y e4).num.a),vi ((dLow y e4).num.b),vi ((dLow y e4).num.c),vi ((dLow y e4).num.d),vi ((dLow y e4).exp)]) rfl X2o (o.at 0) rfl)) ?_)
 rw [<- b0,<- b8,cA,bD.2]
 first|(rw [Bool.or_true];exact ⟨rfl,I,g⟩)|(rw [Bool.or_false];exact ⟨rfl,I,g⟩)
theorem Y26{k n:Nat}(hk:k<=1000000) : wr ((k:Int).tdiv (n:Int))=((k/n:Nat) : Int):=by
 rw [show (k:Int).tdiv (n:Int)=((k/n:Nat) : Int) from rfl]
 have h1:=Nat.div_le_self k n
 generalize k/n=m at h1 ⊢
 exact X1v (by omega) (by omega)
theorem Y0w(k n:Nat) : (k:Int).tmod (n:Int)=((k % n:Nat) : Int):=rfl
theorem Xzu(w0:World)(bV:Nat)(f:Bool)(o:Blk w0 bV 91 [.bool f])(d:Dg)(md:Nat)(aF:md=d.ns.length)(Ad:Option Addr)(cd:Nat)(e:Rd w0 w0.heap.size 81 encNd Ad d.ns)(Bd:Option Addr)(dd:Nat)(g:Rd w0 w0.heap.size 83 encWr Bd d.ws)(J:d.ws.length<=dd)(hG:goodD d=true)(aT:(((spL d.ns).length:Nat) : Int)+2*d.n<=16) : Ret Tryz.prog 56 [(pZ9 bV),.agg #[vi d.n,.slice Ad md cd,.slice Bd d.ws.length dd,vi d.t,vi d.r]] w0 (fun v w=>∃ A c1,v=mV A c1 (mgM d f)/\Own w w0.heap.size 96 5 encD A c1 (mgM d f).cells/\Kept bV w0.heap.size w0 w/\Blk w bV 91 [.bool (mgF d f)]):=by
 have b5:=o.lt;have b8:=X18 hG
 have a6:2^d.n.toNat<=32:=Nat.pow_le_pow_right (n:=2) (by decide) (show d.n.toNat<=5 by omega)
 have b9:0<2^d.n.toNat:=Nat.pow_pos (by decide)
 have bA:=Xft a6 a6
 have aG:(((2^d.n.toNat:Nat) : Int)==0)=false:=by rw [beq_eq_false_iff_ne];omega
 refine enter Tryz.func56 rfl 44 rfl rfl ?_;intro a G
 have D:Kept bV w0.heap.size w0 w0:=Kept.refl _ _ _
 refine Zs G fun _ aU=>?_;refine Zf (X0n (zs:=[vi d.n,.slice Ad md cd,.slice Bd d.ws.length dd,vi d.t,vi d.r]) rfl rfl) ?_;rintro _ w1 ⟨b4,rfl,aV,B,q⟩;have b7:=Q0 D.size aV;have o:=o.bw B;have e:=e.bw B;have g:=g.bw B;have D:=ktr D B;refine Zf (Xo (zs:=[vi 0,vi 0,.slice none 0 0]) X7f rfl) ?_;rintro _ w2 ⟨b6,rfl,aW,B,x⟩;have aH:=Q0 D.size aW;have o:=o.bw B;have q:=q.bw B;have e:=e.bw B;have g:=g.bw B;have D:=ktr D B;refine Zx aU fun a G _ aX=>?_;refine Ze (Vd rfl X13 0)<|Ze (X0 rfl X7 (q.at 0))<|Ze (Xkp (m:=d.n.toNat) Tryz.underlying3 Tryz.underlying147 rfl (by omega) (by omega))<|Ze (Vx (Xjm (m:=d.n.toNat) rfl rfl rfl (by omega)) (X9p (by omega)))<|Za rfl<|Zx aX fun a G _ aY=>?_;refine Zm rfl<|Zm rfl<|Ze (X0e (ps:=[(0,vi ((2^d.n.toNat:Nat) : Int)),(1,vi ((2^d.n.toNat:Nat) : Int))]) (cs:=[vi ((2^d.n.toNat:Nat) : Int),vi ((2^d.n.toNat:Nat) : Int),.slice none 0 0]) rfl (fun _=>by first|rfl|kernel_rfl))<|Zf (Xo (zs:=[vi 0,vi 0,.slice none 0 0]) X7f rfl) ?_;rintro _ w3 ⟨b11,rfl,aI,B,i⟩
 have aJ:b6≠b11:=by have:=x.lt;omega
 have Q:=Q0 D.size aI;have o:=o.bw B;have q:=q.bw B;have x:=x.bw B;have e:=e.bw B;have g:=g.bw B;have D:=ktr D B;refine Zo (Vw [vi ((2^d.n.toNat:Nat) : Int),vi ((2^d.n.toNat:Nat) : Int),.slice none 0 0] X2t i) ?_;rintro _ w4 ⟨H,hb⟩;have p:=i;have o:=o.oz H p rfl;have q:=q.oz H p rfl;have x:=x.oy H (by omega);have e:=e.oT H p rfl;have g:=g.oT H p rfl;have D:=Kept.oy D H Q;have i:=hb;refine ZX aY fun a G _ aK=>?_;refine Zs G fun _ aL=>?_;refine Za rfl<|Zt aL fun a G=>?_;refine Q8<|X04 (σ:=Nat×(List Dy)×Bool) (fun (s:Nat×(List Dy)×Bool) (a:Act) (w:World)=>match s with|(k,l,f1)=>∃ L M,Fr a 44 [(0,(pZ9 bV)),(3,(pZ9 b4)),(4,(pZ9 b6)),(5,vi ((2^d.n.toNat:Nat) : Int)),(6,(pZ9 b11)),(7,vi (k:Int))]/\(k<=2^d.n.toNat*2^d.n.toNat)/\(mgL d f k=(f1,l))/\Blk w bV 91 [.bool f1]/\Blk w b4 39 [vi d.n,.slice Ad md cd,.slice Bd d.ws.length dd,vi d.t,vi d.r]/\Blk w b6 50 [vi 0,vi 0,.slice none 0 0]/\Blk w b11 50 [vi ((2^d.n.toNat:Nat) : Int),vi ((2^d.n.toNat:Nat) : Int),.slice L l.length M]/\Rd w w0.heap.size 81 encNd Ad d.ns/\Rd w w0.heap.size 83 encWr Bd d.ws/\Own w w0.heap.size 96 5 encD L M l/\d.ws.length<=dd/\Kept bV w0.heap.size w0 w) (fun (s:Nat×(List Dy)×Bool)=>match s with|(k,l,f1)=>2^d.n.toNat*2^d.n.toNat-k) (0,[],f) ?_ ?_
 ·exact ⟨none,0,G.sb,(Qf _),rfl,o,q,x,i,e,g,(Own.nil _ _ _ _ _),J,D⟩
 rintro ⟨k,l,f1⟩ a w5 ⟨L,M,G,hk,hl,o,q,x,i,e,g,C,J,D⟩;refine Q5 fun _ aM=>?_;refine Q5 fun _ aN=>?_;refine X0b (fun a w=>Fr a 44 [(0,(pZ9 bV)),(3,(pZ9 b4)),(4,(pZ9 b6)),(5,vi ((2^d.n.toNat:Nat) : Int)),(6,(pZ9 b11)),(7,vi (k:Int)),(26,.bool ((decide ((k:Int)<((2^d.n.toNat*2^d.n.toNat:Nat) : Int)))&&(!f1)))]/\w5=w) ?_ ?_
 ·refine Zr G<|Zm rfl<|Zm rfl<|Zm rfl<|Ze (Xyu (m:=2^d.n.toNat) (k:=2^d.n.toNat) rfl rfl (by omega))<|Ze (X0q rfl rfl)<|Zm rfl ?_
  refine Zg 20 rfl (fun u=>?_) (fun u=>?_)
  ·refine Zv (gW u) (X3 rfl) ?_;refine Zv (gW u) (X0a rfl) ?_;refine Zv (gW u) (Vd rfl X7c 0) ?_;refine Zv (gW u) (X0 rfl X6t (o.at 0)) ?_;refine Zv (gW u) (X0y rfl) ?_;refine Ze (X4 rfl u rfl) ?_;refine Zn fun a G=>?_;exact ⟨G.sub ⟨rfl,rfl,rfl,rfl,rfl,rfl,X1 rfl (by first|rfl|(simp only [u,bs];done)|simp [u]),trivial⟩,rfl⟩
  (iterate 5 refine Zp (gP u) ?_);refine Ze (Xe rfl u rfl) ?_;refine Zn fun a G=>?_;exact ⟨G.sub ⟨rfl,rfl,rfl,rfl,rfl,rfl,X1 rfl (by first|rfl|(simp only [u,bs];done)|simp [u]),trivial⟩,rfl⟩
 rintro a _ ⟨G,rfl⟩;refine aN _ _ ?_
 refine Xi G rfl (fun I=>?_) (fun I=>?_)
 ·have aA:=I
  have aZ:(k:Int)<(2^d.n.toNat*2^d.n.toNat:Nat)/\f1=false:=by simpa using I
  have bB:k<2^d.n.toNat*2^d.n.toNat:=by omega
  have b0:=Xop hl aZ.2;have aO:=Xnc (d:=d) (f:=f) k
  rw [hl] at aO
  dsimp only at aO
  refine Q7<|aM _ _<|Q5 fun _ aP=>?_;refine Q8<|X00 (some bV) (fun j=>[12,14].contains j) mixed ?_;intro w6 B;have o:=o.bw B;have q:=q.bw B;have x:=x.bw B;have i:=i.bw B;have e:=e.bw B;have g:=g.bw B;have C:=C.bw B;have D:=ktr D B;refine Yb G<|Yo 0 rfl (fun _=>Vd rfl X34 2) ?_;refine Yw 1 rfl tv0 (fun w1 h1=>X0 rfl X6j ((i.oz h1 o rfl).at 2)) ?_;refine Yo 2 rfl (fun _=>X3 rfl) ?_;refine Yw 3 rfl tv0 (fun w1 h1=>X01 (l:=[vi d.n,.slice Ad md cd,.slice Bd d.ws.length dd,vi d.t,vi d.r]) rfl X2 ((q.oz h1 o rfl).at 0) rfl) ?_;refine Yo 4 rfl (fun _=>X3 rfl)<|Yo 5 rfl (fun _=>X3 rfl)<|Yo 6 rfl (fun _=>Vx (X9w rfl rfl aG) (Y26 (by omega)))<|Yo 7 rfl (fun _=>X3 rfl)<|Yo 8 rfl (fun _=>X3 rfl)<|Yo 9 rfl (fun _=>Vx (X33 rfl rfl aG) (Y0w _ _))<|Y1 10 ?_;refine Yf rfl tv0 (EfW.mono (Vc (Xyb _ bV f1 o d md aF Ad cd e.top Bd dd g.top J ((k/2^d.n.toNat:Nat) : Int) ((k % 2^d.n.toNat:Nat) : Int) hG aT) Xom) (fun _ _ h=>⟨fun _=>by obtain ⟨rfl,hK,aB⟩:=h;exact hK.keep,h⟩)) ?_;rintro _ w7 ⟨rfl,hK,aB⟩;obtain ⟨wm,hO,hm,B⟩:=hK.mid;clear hm;have p:=o;have q:=q.oz hO p rfl;have x:=x.oz hO p rfl;have i:=i.oz hO p rfl;have e:=e.oT hO p rfl;have g:=g.oT hO p rfl;have C:=C.oT hO p rfl;have D:=D.self hO;have q:=q.bw B;have x:=x.bw B;have i:=i.bw B;have e:=e.bw B;have g:=g.bw B;have C:=C.bw B;have D:=ktr D B
  clear p B hO hK;have o:=aB;clear aB;refine Y1 11<|Yf rfl tv0 (EfW.mono (Xs (k:=1) (vs:=[.agg #[vi ((zcV (smD d (bdB d ((k/2^d.n.toNat:Nat) : Int) ((k % 2^d.n.toNat:Nat) : Int))) (exD d)).num.a),vi ((zcV (smD d (bdB d ((k/2^d.n.toNat:Nat) : Int) ((k % 2^d.n.toNat:Nat) : Int))) (exD d)).num.b),vi ((zcV (smD d (bdB d ((k/2^d.n.toNat:Nat) : Int) ((k % 2^d.n.toNat:Nat) : Int))) (exD d)).num.c),vi ((zcV (smD d (bdB d ((k/2^d.n.toNat:Nat) : Int) ((k % 2^d.n.toNat:Nat) : Int))) (exD d)).num.d),vi ((zcV (smD d (bdB d ((k/2^d.n.toNat:Nat) : Int) ((k % 2^d.n.toNat:Nat) : Int))) (exD d)).exp)]]) (zs:=[vi ((zcV (smD d (bdB d ((k/2^d.n.toNat:Nat) : Int) ((k % 2^d.n.toNat:Nat) : Int))) (exD d)).num.a),vi ((zcV (smD d (bdB d ((k/2^d.n.toNat:Nat) : Int) ((k % 2^d.n.toNat:Nat) : Int))) (exD d)).num.b),vi ((zcV (smD d (bdB d ((k/2^d.n.toNat:Nat) : Int) ((k % 2^d.n.toNat:Nat) : Int))) (exD d)).num.c),vi ((zcV (smD d (bdB d ((k/2^d.n.toNat:Nat) : Int) ((k % 2^d.n.toNat:Nat) : Int))) (exD d)).num.d),vi ((zcV (smD d (bdB d ((k/2^d.n.toNat:Nat) : Int) ((k % 2^d.n.toNat:Nat) : Int))) (exD d)).exp)]) rfl X4x X8f rfl rfl) (fun _ _ h=>⟨fun _=>by obtain ⟨_,_,_,B,_⟩:=h;exact Keep.of_below B,h⟩)) ?_;rintro _ w8 ⟨bC,rfl,a7,B,U⟩;have b1:=Q0 D.size a7;have N:=C.away a7;have o:=o.bw B;have q:=q.bw B;have x:=x.bw B;have i:=i.bw B;have e:=e.bw B;have g:=g.bw B;have C:=C.bw B;have D:=ktr D B;refine Y1 12<|Yt rfl tv0 rfl (X0z (enc:=encD) (l:=(l)) (l2:=([(zcV (smD d (bdB d ((k/2^d.n.toNat:Nat) : Int) ((k % 2^d.n.toNat:Nat) : Int))) (exD d))])) (B0:=w0.heap.size) rfl rfl X4x X8f X7h Xdy C (Rd.of_blk U rfl _ U.lt) (by simp only [maxLen];simp;omega) (by simp;omega) D.size) ?_;rintro _ w9 ⟨aC,aD,rfl,W,hg,aQ⟩
  have E:Own _ w0.heap.size 96 5 encD _ _ (l):=C
  have aE:=aQ _ U.lt N;clear aQ;have o:=o.appT E hg rfl;have q:=q.appT E hg rfl;have x:=x.appT E hg rfl;have i:=i.appT E hg rfl;have e:=e.appT E hg rfl;have g:=g.appT E hg rfl;have D:=Kept.app D E hg (Qb _) D.size;clear E hg;refine Yo 13 rfl (fun _=>Vd rfl X34 2)<|Y1 14 ?_;refine Yh rfl tv0 rfl (Vu (vs:=[.slice aC (l++([(zcV (smD d (bdB d ((k/2^d.n.toNat:Nat) : Int) ((k % 2^d.n.toNat:Nat) : Int))) (exD d))])).length aD]) (l':=[vi ((2^d.n.toNat:Nat) : Int),vi ((2^d.n.toNat:Nat) : Int),.slice aC (l++([(zcV (smD d (bdB d ((k/2^d.n.toNat:Nat) : Int) ((k % 2^d.n.toNat:Nat) : Int))) (exD d))])).length aD]) rfl rfl Xjg i) ?_;rintro _ bD ⟨H,hb⟩;have p:=i;have o:=o.oz H p rfl;have q:=q.oz H p rfl;have x:=x.oy H (by omega);have e:=e.oT H p rfl;have g:=g.oT H p rfl;have W:=W.oT H p rfl;have D:=Kept.oy D H Q;have i:=hb;refine Yd fun a G=>?_;refine Xc<|aP _ _<|Zr G<|Zm rfl<|Ze (Xm rfl rfl (by omega) (by omega))<|Za rfl ?_;refine Zn fun a G=>?_;refine Xd ?_;exact ⟨(k+1,l++([(zcV (smD d (bdB d ((k/2^d.n.toNat:Nat) : Int) ((k % 2^d.n.toNat:Nat) : Int))) (exD d))]),(f1||zcB (smD d (bdB d ((k/2^d.n.toNat:Nat) : Int) ((k % 2^d.n.toNat:Nat) : Int))) (exD d))),⟨aC,aD,G.sb,(by omega),b0,o,q,x,i,e,g,W,J,D⟩,(by first|omega|(dsimp only;omega))⟩
 have aA:=I
 have aR:f1=true∨k=2^d.n.toNat*2^d.n.toNat:=by (cases f1 with|true=>exact .inl rfl|false=>exact .inr (by have h9:¬ (k:Int)<(2^d.n.toNat*2^d.n.toNat:Nat):=(by simpa using I);omega))
 have a8:=Xvt hl hk aR;refine Q9<|Xk<|Xk<|X03 ?_;refine aK _ _<|Zs G fun _ aS=>?_;refine Ze (Vn X2s i)<|Zo (Vw [vi ((2^d.n.toNat:Nat) : Int),vi ((2^d.n.toNat:Nat) : Int),.slice L l.length M] X2t x) ?_;rintro _ bE ⟨H,hb⟩;have p:=x;have o:=o.oz H p rfl;have C:=C.oT H p rfl;have D:=Kept.oy D H aH;have x:=hb;refine Zt aS fun a G=>?_
 refine Q6 (X6 G (Xu G rfl (ResV.cellN (l:=[vi ((2^d.n.toNat:Nat) : Int),vi ((2^d.n.toNat:Nat) : Int),.slice L l.length M]) rfl X2s (x.at 0) rfl)) ?_)
 have b2:mgM d f=⟨((2^d.n.toNat:Nat) : Int),((2^d.n.toNat:Nat) : Int),l⟩:=by unfold mgM;rw [a8]
 have b3:mgF d f=f1:=by unfold mgF;rw [a8]
 rw [b2,b3]
 exact ⟨L,M,rfl,C,D,o⟩
theorem Y1t(L:World)(d:Dg)(md:Nat)(C:md=d.ns.length)(Ad:Option Addr)(cd:Nat)(D:Rd L L.heap.size 81 encNd Ad d.ns)(Bd:Option Addr)(dd:Nat)(E:Rd L L.heap.size 83 encWr Bd d.ws)(G:d.ws.length<=dd)(b2:d.ws.length<=900000000)(aR:∀ x ∈ d.ws,-1000000<=x.b/\x.b<=1000000)(hN:md<=1000) : Ret Tryz.prog 19 [.agg #[vi d.n,.slice Ad md cd,.slice Bd d.ws.length dd,vi d.t,vi d.r]] L (fun v w=>∃ A c,v=.tuple #[mV A c (((mnO d)).getD mZ),.bool ((mnO d)).isSome]/\Own w L.heap.size 96 5 encD A c (((mnO d)).getD mZ).cells/\Below L.heap.size L w):=by
 refine enter Tryz.func19 rfl 31 rfl rfl ?_;intro a p
 have g:=bz L
 refine Zs p fun _ aS=>?_;refine Zf (X0n (zs:=[vi d.n,.slice Ad md cd,.slice Bd d.ws.length dd,vi d.t,vi d.r]) rfl rfl) ?_;rintro _ w1 ⟨b4,rfl,aT,i,j⟩;have b0:=Q0 g.size aT;have g:=btr g i;refine Zf (Xo (zs:=[vi 0,vi 0,.slice none 0 0]) X7f rfl) ?_;rintro _ w2 ⟨b6,rfl,aU,i,e⟩;have H:=Q0 g.size aU;have j:=j.bw i;have g:=btr g i;refine Za rfl<|ZX aS fun a p _ aV=>?_;refine Q5 fun _ aW=>?_;refine X0b (fun a w=>Fr a 31 [(1,(pZ9 b4)),(2,(pZ9 b6)),(18,.bool ((!(goodD d))||(decide (16<(((spL d.ns).length:Int)+(2*d.n))))))]/\Below w2.heap.size w2 w) ?_ ?_
 ·have u:Below w2.heap.size w2 w2:=Below.refl _ _
  refine X00 none (fun _=>false) mixed ?_;intro w3 i;have j:=j.bw i;have g:=btr g i;have u:=btr u i;refine Yb p<|Ye 0 rfl (Vn X2 j)<|Y1 1 ?_;refine Yk rfl tv0 (Vc (Xed _ d md C Ad cd (D.bx g).top Bd dd (E.bx g).top G (by omega) aR) X7n) (fun _ _ ⟨_,i⟩=>i) ?_;rintro _ w4 ⟨rfl,i⟩;have j:=j.bw i;have g:=btr g i;have u:=btr u i;refine Yo 2 rfl (fun _=>X0y rfl)<|Yo 3 rfl (fun _=>X3 rfl) ?_
  refine Yl 9 rfl (fun f=>?_) (fun f=>?_)
  ·refine Yp 4 rfl (gP f) ?_;refine Yp 7 rfl (gP f) ?_;refine Yp 8 rfl (gP f) ?_;refine Yp 9 rfl (gP f) ?_;refine Y1 5<|Yq rfl ⟨_,_,rfl,rfl,f⟩ ?_;refine Yp 6 rfl (gP f) ?_;refine Yp 10 rfl (gP f) ?_;refine Yp 11 rfl (gP f) ?_;refine Yo 12 rfl (fun _=>X4 rfl f rfl) ?_;refine Yd fun a p=>?_
   have a6:Below w2.heap.size w2 w4:=u
   exact ⟨p.sub ⟨rfl,rfl,X1 rfl (by simp [f]),trivial⟩,a6⟩
  have b3:=X18 (d:=d) (by have M:=f;simpa using M)
  have b1:(spL d.ns).length<=d.ns.length:=X4u d.ns d.ns.length
  refine Yv 4 rfl (gW f) (Vn X2 j) ?_;refine Yu 7 rfl (gW f) (fun _=>Vd rfl X13 0) ?_;refine Yv 8 rfl (gW f) (X0 rfl X7 (j.at 0)) ?_;refine Yu 9 rfl (gW f) (fun _=>X41 rfl rfl (by omega) (by omega)) ?_;refine Y1 5<|Yk rfl ⟨_,_,rfl,rfl,f⟩ (Vc (Xac _ d md C Ad cd (D.bx g).top Bd dd (E.bx g).top G hN) X67) (fun _ _ ⟨aX,aY,_,I,i⟩=>i) ?_;rintro _ w5 ⟨aX,aY,rfl,I,i⟩;have I:=I.lower g.size;have g:=btr g i;have u:=btr u i;refine Yu 6 rfl (gW f) (fun _=>X0c rfl Xj) ?_;refine Yu 10 rfl (gW f) (fun _=>Xm rfl rfl (by omega) (by omega)) ?_;refine Yu 11 rfl (gW f) (fun _=>X3h rfl rfl) ?_;refine Yo 12 rfl (fun _=>Xe rfl f rfl) ?_;refine Yd fun a p=>?_
  have a6:Below w2.heap.size w2 w5:=u
  exact ⟨p.sub ⟨rfl,rfl,X1 rfl (by simp [f]),trivial⟩,a6⟩
 rintro a w6 ⟨p,i⟩;have j:=j.bw i;have e:=e.bw i;have g:=btr g i;refine aW _ _ ?_
 refine Xi p rfl (fun q=>?_) (fun q=>?_)
 ·have a7:=q
  have a8:mnO d=none:=by
   cases f:goodD d with
   | false=>exact Xj7 f
   | true=>exact Xmn (by have M:=q;rw [f] at M;simp at M;omega)
  refine Zs p fun _ aE=>?_;refine Ze (X0e (ps:=[]) (cs:=[vi 0,vi 0,.slice none 0 0]) rfl (fun _=>by first|rfl|kernel_rfl))<|Zo (Vw [vi 0,vi 0,.slice none 0 0] X2t e) ?_;rintro _ w7 ⟨J,hb⟩;have k:=e;have g:=Below.oy g J H;have e:=hb;refine Za rfl<|Zt aE fun a p=>?_;refine Q6<|Xa<|X6 p (X19 p rfl (ResV.cellN (l:=[vi 0,vi 0,.slice none 0 0]) rfl X2s (e.at 0) rfl) rfl) ?_
  rw [a8]
  exact ⟨none,0,rfl,(Own.nil _ _ _ _ _),g⟩
 have a7:=q
 have hG:goodD d=true:=by have M:=q;revert M;cases goodD d<;>simp
 have aA:(((spL d.ns).length:Nat) : Int)+2*d.n<=16:=by have M:=q;rw [hG] at M;simp at M;omega
 refine Q7<|aV _ _<|Zs p fun _ aF=>?_;refine Ze (X0e (ps:=[]) (cs:=[.bool false]) rfl (fun _=>by first|rfl|kernel_rfl))<|Zf (X0n (zs:=[.bool false]) rfl rfl) ?_;rintro _ w8 ⟨aZ,rfl,aG,i,m⟩;have aB:=Q0 g.size aG;have j:=j.bw i;have e:=e.bw i;have g:=btr g i;refine Za rfl<|Zx aF fun a p _ aH=>?_;refine Zm rfl<|Ze (Vn X2 j)<|Zf (Vc (Xzu _ aZ false m d md C Ad cd (D.bx g).top Bd dd (E.bx g).top G hG aA) Xp2) ?_;rintro _ w9 ⟨N,Q,rfl,o,hK,aI⟩;have aJ:=g.size;obtain ⟨wm,hO,hm,i⟩:=hK.mid;clear hm;have k:=m;have e:=e.oz hO k rfl;have g:=Below.oy g hO aB;have e:=e.bw i;have g:=btr g i
 clear k i hO hK;have m:=aI;clear aI
 have o:=o.lower aJ;clear aJ;refine Zf (Xo (zs:=[vi 0,vi 0,.slice none 0 0]) X7f rfl) ?_;rintro _ b5 ⟨b19,rfl,aK,i,B⟩
 have aL:b6≠b19:=by have:=e.lt;omega
 have aC:=Q0 g.size aK;have e:=e.bw i;have m:=m.bw i;have o:=o.bw i;have g:=btr g i;refine Zo (Vw [vi ((mgM d false).rows),vi ((mgM d false).cols),.slice N ((mgM d false).cells).length Q] X2t B) ?_;rintro _ b7 ⟨J,hb⟩;have k:=B;have e:=e.oy J (by omega);have m:=m.oz J k rfl;have o:=o.oT J k rfl;have g:=Below.oy g J aC;have B:=hb;refine ZX aH fun a p _ aM=>?_;refine Zs p fun _ aN=>?_;refine Zm rfl<|Ze (X0a rfl)<|Ze (Vd rfl X7c 0)<|Ze (X0 rfl X6t (m.at 0))<|Zt aN fun a p=>?_
 refine Xi p rfl (fun h=>?_) (fun h=>?_)
 ·have aD:=h
  have a8:mnO d=none:=by rw [Xsy hG aA];exact Q4 h
  refine Zs p fun _ aO=>?_;refine Ze (X0e (ps:=[]) (cs:=[vi 0,vi 0,.slice none 0 0]) rfl (fun _=>by first|rfl|kernel_rfl))<|Zo (Vw [vi 0,vi 0,.slice none 0 0] X2t e) ?_;rintro _ b8 ⟨J,hb⟩;have k:=e;have g:=Below.oy g J H;have e:=hb;refine Za rfl<|Zt aO fun a p=>?_;refine Q6<|Xa<|X6 p (X19 p rfl (ResV.cellN (l:=[vi 0,vi 0,.slice none 0 0]) rfl X2s (e.at 0) rfl) rfl) ?_
  rw [a8]
  exact ⟨none,0,rfl,(Own.nil _ _ _ _ _),g⟩
 have aD:=h
 have aP:mnO d=some (mgM d false):=by rw [Xsy hG aA];exact Q3 (by rw [h];decide)
 refine Q7<|aM _ _<|Zs p fun _ aQ=>?_;refine Ze (Vn X2s B)<|Zo (Vw [vi ((mgM d false).rows),vi ((mgM d false).cols),.slice N ((mgM d false).cells).length Q] X2t e) ?_;rintro _ b9 ⟨J,hb⟩;have k:=e;have o:=o.oT J k rfl;have g:=Below.oy g J H;have e:=hb;refine Za rfl<|Zt aQ fun a p=>?_
 refine Q6 (X6 p (X19 p rfl (ResV.cellN (l:=[vi ((mgM d false).rows),vi ((mgM d false).cols),.slice N ((mgM d false).cells).length Q]) rfl X2s (e.at 0) rfl) rfl) ?_)
 rw [aP]
 exact ⟨N,Q,rfl,o,g⟩
section
variable {z x y : Rg} {m i j : Int} {b : Bool} (hz0 : ¬ z = rZ) (h : (if b = true then raiseI (-j).toNat y else (y, false)) = raiseI (-m).toNat z) (hjb : b = true -> 0 <= j)
variable (hjm : j = m ∨ m < 0 /\ j <= 0) (hin : dLow x i = dLow y j) (hst : dLow x i = ⟨x, i⟩)
include hz0 h hjb hjm hin hst
theorem Xgb:sclI z m=if (b&&dOk ⟨x,i⟩)=true then some ⟨x,i⟩ else none:=by
 unfold sclI
 rw [Q3 hz0]
 cases b with
 | false=>
  rw [Q3 (by decide)] at h
  rw [<- h]
  rfl
 | true=>
  have h0:=hjb rfl
  rw [Q4 rfl,show (-j).toNat=0 from by omega] at h
  rw [<- h]
  have e:max m 0=j:=by omega
  rw [show (raiseI 0 y)=(y,true) from rfl,e,<- hin,hst]
theorem Xlr:(b&&dOk ⟨x,i⟩)=(sclI z m).isSome:=by
 rw [Xgb hz0 h hjb hjm hin hst]
 cases (b&&dOk ⟨x,i⟩)<;>rfl
theorem Xmq{d:Dy}(hd:sclI z m=some d) : ⟨x,i⟩=d:=by
 rw [Xgb hz0 h hjb hjm hin hst] at hd
 split at hd
 ·exact Option.some.inj hd
 ·cases hd
end
theorem Xz7(Q:World)(z:Rg)(m:Int)(hm:-60<=m/\m<=1700)(aQ:rOk z=true) : Ret Tryz.prog 127 [.agg #[vi z.a,vi z.b,vi z.c,vi z.d],vi m] Q (fun v w=>∃ d:Dy,v=.tuple #[dV d,.bool (sclI z m).isSome]/\(∀ y,sclI z m=some y->d=y)/\Below Q.heap.size Q w):=by
 refine enter Tryz.func127 rfl 46 rfl rfl ?_;intro a k
 have o:=bz Q
 refine Zs k fun _ aR=>?_;refine Zf (X0n (zs:=[vi z.a,vi z.b,vi z.c,vi z.d]) rfl rfl) ?_;rintro _ w1 ⟨b2,rfl,aS,q,f⟩;have a6:=Q0 o.size aS;have o:=btr o q;refine Zf (Xo (zs:=[vi 0,vi 0,vi 0,vi 0,vi 0]) X85 rfl) ?_;rintro _ w2 ⟨U,rfl,aT,q,e⟩;have J:=Q0 o.size aT;have f:=f.bw q;have o:=btr o q;refine Za rfl<|ZX aR fun a k _ aU=>?_;refine Zs k fun _ aV=>?_;refine Ze (Vn X0w f)<|Ze (X0e (ps:=[]) (cs:=[vi 0,vi 0,vi 0,vi 0]) rfl (fun _=>by first|rfl|kernel_rfl))<|Ze (Xiw rfl rfl Xjy (fun w=>eqR 9998 z (⟨0,0,0,0⟩ : Rg) w))<|Zt aV fun a k=>?_
 refine Xi k rfl (fun G=>?_) (fun G=>?_)
 ·have h:=G;have G:=Q2 G
  have L:z=rZ:=G
  refine Zs k fun _ aW=>?_;refine Ze (X0e (ps:=[]) (cs:=[vi 0,vi 0,vi 0,vi 0,vi 0]) rfl (fun _=>by first|rfl|kernel_rfl))<|Zo (Vw [vi 0,vi 0,vi 0,vi 0,vi 0] X2u e) ?_;rintro _ w3 ⟨C,H⟩;have p:=e;have o:=Below.oy o C J;clear p;have e:=H;clear H C;refine Za rfl<|Zt aW fun a k=>?_;refine Q6<|Xa<|X6 k (X19 k rfl (ResV.cellN (l:=[vi 0,vi 0,vi 0,vi 0,vi 0]) rfl X2o (e.at 0) rfl) rfl) ?_;exact ⟨dZ,by rw [Xsb L];rfl,fun y hy=>(by rw [Xsb L] at hy;exact Option.some.inj hy),o⟩
 have h:=G;have G:=Q1 G
 have L:¬ z=rZ:=G
 refine Q7<|aU _ _<|Zs k fun _ aX=>?_;refine Za rfl<|ZX aX fun a k _ aY=>?_;refine Q8<|X04 (σ:=Rg×Int×Bool) (fun (s:Rg×Int×Bool) (a:Act) (w:World)=>match s with|(y,j,b)=>Fr a 46 [(1,vi j),(2,(pZ9 b2)),(4,(pZ9 U)),(6,.bool b)]/\((if b=true then raiseI (-j).toNat y else (y,false))=raiseI (-m).toNat z)/\(-60<=j/\j<=1700/\(j=m∨m<0/\j<=0))/\(rOk y=true)/\Blk w b2 94 [vi y.a,vi y.b,vi y.c,vi y.d]/\Blk w U 96 [vi 0,vi 0,vi 0,vi 0,vi 0]/\Below Q.heap.size Q w) (fun (s:Rg×Int×Bool)=>match s with|(y,j,b)=>(61-j).toNat) (z,m,true) ?_ ?_
 ·exact ⟨k.sb,rfl,(by omega),aQ,f,e,o⟩
 rintro ⟨y,j,b⟩ a w4 ⟨k,M,aB,aZ,f,e,o⟩;refine Q5 fun _ aC=>?_;refine Q5 fun _ aD=>?_;refine X0b (fun a w=>Fr a 46 [(1,vi j),(2,(pZ9 b2)),(4,(pZ9 U)),(6,.bool b),(16,.bool ((decide (j<0))&&b))]/\w4=w) ?_ ?_
 ·refine Zr k<|Zm rfl<|Ze (X0q rfl rfl)<|Zm rfl ?_
  refine Zg 14 rfl (fun A=>?_) (fun A=>?_)
  ·refine Zv (gW A) (X3 rfl) ?_;refine Ze (X4 rfl A rfl) ?_;refine Zn fun a k=>?_;exact ⟨k.sub ⟨rfl,rfl,rfl,rfl,X1 rfl (by simp [h,A]),trivial⟩,rfl⟩
  refine Zp (gP A) ?_;refine Ze (Xe rfl A rfl) ?_;refine Zn fun a k=>?_;exact ⟨k.sub ⟨rfl,rfl,rfl,rfl,X1 rfl (by simp [h,A]),trivial⟩,rfl⟩
 rintro a _ ⟨k,rfl⟩;refine aD _ _ ?_
 refine Xi k rfl (fun D=>?_) (fun D=>?_)
 ·have B:=D
  have H:b=true:=by have:=D;revert this;cases b<;>simp
  have b0:j<0:=by have:=D;revert this;cases b<;>simp
  refine Q7<|aC _ _<|Q5 fun _ aE=>?_;refine Q8<|Zr k<|Ze (Vn X0w f)<|Zf (Vc (Y4h _ y) Xxs) ?_;rintro _ w5 ⟨rfl,q⟩;have f:=f.bw q;have e:=e.bw q;have o:=btr o q;refine Zm rfl<|Ze (Xp (vs:=[.agg #[vi ((rIf1 (rRoot y) [y]).a),vi ((rIf1 (rRoot y) [y]).b),vi ((rIf1 (rRoot y) [y]).c),vi ((rIf1 (rRoot y) [y]).d)],.bool (rIf2 (rRoot y) [y])]) rfl rfl)<|Ze (Xp (vs:=[.agg #[vi ((rIf1 (rRoot y) [y]).a),vi ((rIf1 (rRoot y) [y]).b),vi ((rIf1 (rRoot y) [y]).c),vi ((rIf1 (rRoot y) [y]).d)],.bool (rIf2 (rRoot y) [y])]) rfl rfl)<|Zo (Vw [vi ((rIf1 (rRoot y) [y]).a),vi ((rIf1 (rRoot y) [y]).b),vi ((rIf1 (rRoot y) [y]).c),vi ((rIf1 (rRoot y) [y]).d)] X24 f) ?_;rintro _ w6 ⟨C,H⟩;have p:=f;have e:=e.oz C p rfl;have o:=Below.oy o C a6;clear p;have f:=H;clear H C;refine Za rfl ?_;refine Zn fun a k=>?_;refine Xc<|aE _ _<|Zr k<|Zm rfl<|Ze (Xm rfl rfl (by omega) (by omega))<|Za rfl ?_;refine Zn fun a k=>?_;refine Xd ?_;exact ⟨(rIf1 (rRoot y) [y],j+1,rIf2 (rRoot y) [y]),⟨k.sb,(Xnm M H b0),(by omega),(Xpr _ _),f,e,o⟩,(by first|omega|(dsimp only;omega))⟩
 have B:=D
 have aF:b=true->0<=j:=by have:=D;revert this;cases b<;>simp
 refine Q9<|Xk<|Xk<|X03 ?_;refine aY _ _<|Q5 fun _ aG=>?_;refine Q8<|X04 (σ:=Rg×Int) (fun (s:Rg×Int) (a:Act) (w:World)=>match s with|(x,i)=>Fr a 46 [(1,vi i),(2,(pZ9 b2)),(4,(pZ9 U)),(6,.bool b)]/\(dLow x i=dLow y j)/\(i<=1700)/\(rOk x=true)/\Blk w b2 94 [vi x.a,vi x.b,vi x.c,vi x.d]/\Blk w U 96 [vi 0,vi 0,vi 0,vi 0,vi 0]/\Below Q.heap.size Q w) (fun (s:Rg×Int)=>match s with|(x,i)=>i.toNat) (y,j) ?_ ?_
 ·exact ⟨k.sb,rfl,(by omega),aZ,f,e,o⟩
 rintro ⟨x,i⟩ a w7 ⟨k,N,b1,a7,f,e,o⟩;refine Q5 fun _ aH=>?_;refine Q5 fun _ aI=>?_;refine X0b (fun a w=>Fr a 46 [(1,vi i),(2,(pZ9 b2)),(4,(pZ9 U)),(6,.bool b),(29,.bool ((decide (0<i))&&(rEven x)))]/\Below w7.heap.size w7 w) ?_ ?_
 ·have W:Below w7.heap.size w7 w7:=Below.refl _ _
  refine Zr k<|Zm rfl<|Ze (X3h rfl rfl)<|Zm rfl ?_
  refine Zg 26 rfl (fun t=>?_) (fun t=>?_)
  ·refine Zv (gW t) (Vn X0w f) ?_;refine Zk (gW t) (Vc (Xx3 _ x) Xez) ?_;rintro _ w8 ⟨rfl,q⟩;have o:=btr o q;have W:=btr W q;refine Ze (X4 rfl t rfl) ?_;refine Zn fun a k=>?_
   have a8:Below w7.heap.size w7 w8:=W
   exact ⟨k.sub ⟨rfl,rfl,rfl,rfl,X1 rfl (by simp [h,B,t]),trivial⟩,a8⟩
  (iterate 2 refine Zp (gP t) ?_);refine Ze (Xe rfl t rfl) ?_;refine Zn fun a k=>?_
  have a8:Below w7.heap.size w7 w7:=W
  exact ⟨k.sub ⟨rfl,rfl,rfl,rfl,X1 rfl (by simp [h,B,t]),trivial⟩,a8⟩
 rintro a w9 ⟨k,q⟩;have f:=f.bw q;have e:=e.bw q;have o:=btr o q;refine aI _ _ ?_
 refine Xi k rfl (fun E=>?_) (fun E=>?_)
 ·have I:=E
  have b4:0<i:=by have:=E;revert this;simp;omega
  have aJ:rEven x=true:=by have:=E;revert this;cases rEven x<;>simp
  refine Q7<|aH _ _<|Q8<|Zs k fun _ aK=>?_;refine Ze (Vn X0w f)<|Zf (Vc (Y3p _ x) Xxv) ?_;rintro _ b5 ⟨rfl,q⟩;have f:=f.bw q;have e:=e.bw q;have o:=btr o q;refine Zm rfl<|Ze (Xp (vs:=[.agg #[vi ((rDiv1 x).a),vi ((rDiv1 x).b),vi ((rDiv1 x).c),vi ((rDiv1 x).d)],.bool (rDiv2 x)]) rfl rfl)<|Ze (Xp (vs:=[.agg #[vi ((rDiv1 x).a),vi ((rDiv1 x).b),vi ((rDiv1 x).c),vi ((rDiv1 x).d)],.bool (rDiv2 x)]) rfl rfl)<|Zo (Vw [vi ((rDiv1 x).a),vi ((rDiv1 x).b),vi ((rDiv1 x).c),vi ((rDiv1 x).d)] X24 f) ?_;rintro _ b6 ⟨C,H⟩;have p:=f;have e:=e.oz C p rfl;have o:=Below.oy o C a6;clear p;have f:=H;clear H C;refine Zt aK fun a k=>?_;refine Zr k<|Zm rfl<|Ze (X11 rfl rfl (by omega) (by omega))<|Za rfl ?_;refine Zn fun a k=>?_;refine Xc ?_
  rw [rDiv1,rDiv2,a7,aJ,Bool.and_self,Q4 rfl] at f
  refine Xd ?_;exact ⟨(rHalf x,i-1),⟨k.sb,(by rw [<- N];exact (X5x (by omega) aJ).symm),(by omega),(X7k a7),f,e,o⟩,(by first|omega|(dsimp only;omega))⟩
 have I:=E
 have aL:dLow x i=⟨x,i⟩:=X3q (by intro h0;have:=E;revert this;simp [h0])
 refine Q9<|Xk<|Xk<|X03 ?_;refine aG _ _<|Zs k fun _ aM=>?_;refine Ze (Vn X0w f)<|Zm rfl<|Ze (X0e (ps:=[(0,.agg #[vi x.a,vi x.b,vi x.c,vi x.d]),(1,vi i)]) (cs:=[vi x.a,vi x.b,vi x.c,vi x.d,vi i]) rfl (fun _=>by first|rfl|kernel_rfl))<|Zf (Xo (zs:=[vi 0,vi 0,vi 0,vi 0,vi 0]) X85 rfl) ?_;rintro _ b7 ⟨b22,rfl,aN,q,g⟩
 have aO:U≠b22:=by have:=e.lt;omega
 have aA:=Q0 o.size aN;have e:=e.bw q;have o:=btr o q;refine Zo (Vw [vi x.a,vi x.b,vi x.c,vi x.d,vi i] X2u g) ?_;rintro _ b8 ⟨C,H⟩;have p:=g;have e:=e.oy C (by omega);have o:=Below.oy o C aA;clear p;have g:=H;clear H C;refine ZX aM fun a k _ aP=>?_;refine X0b (fun a w=>Fr a 46 [(4,(pZ9 U)),(5,.bool (b&&(dOk (⟨x,i⟩ : Dy))))]/\Blk w U 96 [vi x.a,vi x.b,vi x.c,vi x.d,vi i]/\Blk w b22 96 [vi x.a,vi x.b,vi x.c,vi x.d,vi i]/\Below Q.heap.size Q w) ?_ ?_
 ·refine X00 none (fun j=>[6].contains j) mixed ?_;intro b9 q;have e:=e.bw q;have g:=g.bw q;have o:=btr o q;refine Yb k<|Ye 0 rfl (Vn X2o g)<|Yo 1 rfl (fun _=>X3 rfl)<|Yo 2 rfl (fun _=>X3 rfl) ?_
  refine Yl 42 rfl (fun u=>?_) (fun u=>?_)
  ·refine Yv 3 rfl (gW u) (Vn X2o g) ?_;refine Y1 4<|Yk rfl ⟨_,_,rfl,rfl,u⟩ (Vc (Y3m _ (⟨x,i⟩ : Dy)) Xxy) (fun _ _ ⟨_,q⟩=>q) ?_;rintro _ bA ⟨rfl,q⟩;have e:=e.bw q;have g:=g.bw q;have o:=btr o q;refine Yo 5 rfl (fun _=>X4 rfl u rfl)<|Y1 6 ?_;refine Yh rfl tv0 rfl (Vw [vi x.a,vi x.b,vi x.c,vi x.d,vi i] X2u e) ?_;rintro _ bB ⟨C,H⟩;have p:=e;have g:=g.oy C (by omega);have o:=Below.oy o C J;clear p;have e:=H;clear H C;refine Yo 7 rfl (fun _=>Xr rfl) ?_;refine Yd fun a k=>?_;exact ⟨k.sub ⟨rfl,X1 rfl (by simp [h,B,I,u]),trivial⟩,e,g,o⟩
  refine Yp 3 rfl (gP u) ?_;refine Y1 4<|Yq rfl ⟨_,_,rfl,rfl,u⟩ ?_;refine Yo 5 rfl (fun _=>Xe rfl u rfl)<|Y1 6 ?_;refine Yh rfl tv0 rfl (Vw [vi x.a,vi x.b,vi x.c,vi x.d,vi i] X2u e) ?_;rintro _ bC ⟨C,H⟩;have p:=e;have g:=g.oy C (by omega);have o:=Below.oy o C J;clear p;have e:=H;clear H C;refine Yo 7 rfl (fun _=>Xr rfl) ?_;refine Yd fun a k=>?_;exact ⟨k.sub ⟨rfl,X1 rfl (by simp [h,B,I,u]),trivial⟩,e,g,o⟩
 rintro a bD ⟨k,e,g,o⟩;refine aP _ _ ?_
 refine Q6 (X6 k (X19 k rfl (ResV.cellN (l:=[vi x.a,vi x.b,vi x.c,vi x.d,vi i]) rfl X2o (e.at 0) rfl) rfl) ?_)
 exact ⟨⟨x,i⟩,by rw [<- Xlr L M aF aB.2.2 N aL],fun d hd=>Xmq L M aF aB.2.2 N aL hd,o⟩
theorem Xz2(w0:World)(u:Oc)(e:∀ k,k<8->0<=u.f k/\u.f k<=1000000) : Ret Tryz.prog 128 [.agg #[vi (u.f 0),vi (u.f 1),vi (u.f 2),vi (u.f 3),vi (u.f 4),vi (u.f 5),vi (u.f 6),vi (u.f 7)]] w0 (fun v w=>v=rV (oSum u)/\Below w0.heap.size w0 w):=by
 have h0:=e 0 (by decide)
 have h1:=e 1 (by decide)
 have h2:=e 2 (by decide)
 have h3:=e 3 (by decide)
 have h4:=e 4 (by decide)
 have h5:=e 5 (by decide)
 have h6:=e 6 (by decide)
 have h7:=e 7 (by decide)
 refine enter Tryz.func128 rfl 24 rfl rfl ?_;intro a hf
 have c:=bz w0
 refine Zs hf fun _ a7=>?_;refine Zf (X0n (zs:=[vi (u.f 0),vi (u.f 1),vi (u.f 2),vi (u.f 3),vi (u.f 4),vi (u.f 5),vi (u.f 6),vi (u.f 7)]) rfl rfl) ?_;rintro _ w1 ⟨b2,rfl,a8,hE,b⟩;have aC:=Q0 c.size a8;have c:=btr c hE;refine Zf (Xo (zs:=[vi 0,vi 0,vi 0,vi 0]) X5k rfl) ?_;rintro _ w2 ⟨b3,rfl,aA,hE,d⟩;have a6:=Q0 c.size aA;have b:=b.bw hE;have c:=btr c hE;refine Zx a7 fun a hf _ aB=>?_;refine Ze (X2b (k:=0) (sz:=1) rfl rfl Tryz.underlying156 X09 rfl (by decide) (m:=0) rfl)<|Ze (X0 rfl X7 (b.at 0))<|Ze (X2b (k:=4) (sz:=1) rfl rfl Tryz.underlying156 X09 rfl (by decide) (m:=4) rfl)<|Ze (X0 rfl X7 (b.at 4))<|Ze (X11 rfl rfl (by omega) (by omega))<|Ze (X2b (k:=1) (sz:=1) rfl rfl Tryz.underlying156 X09 rfl (by decide) (m:=1) rfl)<|Ze (X0 rfl X7 (b.at 1))<|Ze (X2b (k:=5) (sz:=1) rfl rfl Tryz.underlying156 X09 rfl (by decide) (m:=5) rfl)<|Ze (X0 rfl X7 (b.at 5))<|Ze (X11 rfl rfl (by omega) (by omega)) ?_;refine Ze (X2b (k:=2) (sz:=1) rfl rfl Tryz.underlying156 X09 rfl (by decide) (m:=2) rfl)<|Ze (X0 rfl X7 (b.at 2))<|Ze (X2b (k:=6) (sz:=1) rfl rfl Tryz.underlying156 X09 rfl (by decide) (m:=6) rfl)<|Ze (X0 rfl X7 (b.at 6))<|Ze (X11 rfl rfl (by omega) (by omega))<|Ze (X2b (k:=3) (sz:=1) rfl rfl Tryz.underlying156 X09 rfl (by decide) (m:=3) rfl)<|Ze (X0 rfl X7 (b.at 3))<|Ze (X2b (k:=7) (sz:=1) rfl rfl Tryz.underlying156 X09 rfl (by decide) (m:=7) rfl)<|Ze (X0 rfl X7 (b.at 7))<|Ze (X11 rfl rfl (by omega) (by omega)) ?_;refine Ze (X0e (ps:=[(0,vi ((u.f 0)-(u.f 4))),(1,vi ((u.f 1)-(u.f 5))),(2,vi ((u.f 2)-(u.f 6))),(3,vi ((u.f 3)-(u.f 7)))]) (cs:=[vi ((u.f 0)-(u.f 4)),vi ((u.f 1)-(u.f 5)),vi ((u.f 2)-(u.f 6)),vi ((u.f 3)-(u.f 7))]) rfl (fun _=>by first|rfl|kernel_rfl))<|Zo (Vw [vi ((u.f 0)-(u.f 4)),vi ((u.f 1)-(u.f 5)),vi ((u.f 2)-(u.f 6)),vi ((u.f 3)-(u.f 7))] X24 d) ?_;rintro _ w3 ⟨ho,hb⟩
 have aD:=d;have c:=Below.oy c ho a6;have d:=hb;refine Zt aB fun a hf=>?_
 refine Q6 (X6 hf (Xu hf rfl (ResV.cellN (l:=[vi ((u.f 0)-(u.f 4)),vi ((u.f 1)-(u.f 5)),vi ((u.f 2)-(u.f 6)),vi ((u.f 3)-(u.f 7))]) rfl X0w (d.at 0) rfl)) ?_)
 exact ⟨rfl,c⟩
theorem Y0q(w0:World)(d:Dg)(md:Nat)(b2:md=d.ns.length)(Ad:Option Addr)(cd:Nat)(aC:Rd w0 w0.heap.size 81 encNd Ad d.ns)(Bd:Option Addr)(dd:Nat)(aK:Rd w0 w0.heap.size 83 encWr Bd d.ws)(G:d.ws.length<=dd)(i:Int)(j:Int)(Al:Option Addr)(cl:Nat)(l:List Int)(aL:Rd w0 w0.heap.size 3 encI Al l)(hG:goodD d=true)(b3:(((spL d.ns).length:Nat) : Int)+2*d.n<=16)(b4:l=spL d.ns) : Ret Tryz.prog 72 [.agg #[vi d.n,.slice Ad md cd,.slice Bd d.ws.length dd,vi d.t,vi d.r],vi i,vi j,.slice Al l.length cl] w0 (fun v w=>∃ c:Dy,v=.tuple #[dV c,.bool (sclI (smD d (bdB d i j)) (exD d)).isSome]/\(∀ y,sclI (smD d (bdB d i j)) (exD d)=some y->c=y)/\Below w0.heap.size w0 w):=by
 subst b2
 have hD:=X0t hG;have cY:=hD.len;have cZ:=hD.m;have d5:=X18 hG;have cH:=Xgn d.ns
 have b7:l.length=(spL d.ns).length:=by rw [b4]
 have cI:=Xkv b3 (by omega)
 rw [<- b7] at cI
 have cJ:-60<=hdN d.ws-d.r/\hdN d.ws-d.r<=1700:=Xin hG
 have d6:=Xnh d.ws
 have d7:(List.replicate d.ns.length (0:Int)).length=d.ns.length:=List.length_replicate
 refine enter Tryz.func72 rfl 105 rfl rfl ?_;intro a C
 have D:=bz w0
 refine Zs C fun _ cK=>?_;refine Zf (X0n (zs:=[vi d.n,.slice Ad d.ns.length cd,.slice Bd d.ws.length dd,vi d.t,vi d.r]) rfl rfl) ?_;rintro _ w1 ⟨b5,rfl,cL,E,o⟩;have cT:=Q0 D.size cL;have D:=btr D E;refine Zf (Xo (zs:=[vi 0,vi 0,vi 0,vi 0,vi 0]) X85 rfl) ?_;rintro _ w2 ⟨b6,rfl,cM,E,h⟩;have b9:=Q0 D.size cM;have o:=o.bw E;have D:=btr D E;refine Za rfl<|Zx cK fun a C _ cN=>?_;refine Ze (Vd rfl Xg 1)<|Ze (X0 rfl Xy (o.at 1))<|Ze (X0c rfl Xl)<|Zf (X6r (m:=d.ns.length) (enc:=encI) (z0:=0) rfl rfl Xj X1h z_3 rfl X9 (by first|omega|(simp only [maxLen];omega)) (by omega)) ?_;rintro _ w3 ⟨b8,rfl,bA,E,A⟩;have aF:=Q0 D.size bA;have cG:=(aL.bx D).away bA;have o:=o.bw E;have h:=h.bw E;have D:=btr D E;refine Ze (X0e (ps:=[]) (cs:=[vi 0,vi 0,vi 0,vi 0,vi 0,vi 0,vi 0,vi 0]) rfl (fun _=>by first|rfl|kernel_rfl))<|Zf (Xo (zs:=[vi 0,vi 0,vi 0,vi 0,vi 0,vi 0,vi 0,vi 0]) Xw7 rfl) ?_;rintro _ w4 ⟨aD,rfl,bB,E,g⟩;have aG:=Q0 D.size bB;have o:=o.bw E;have h:=h.bw E;have A:=A.bw E;have D:=btr D E;refine Za rfl<|Zo (Vw [vi 0,vi 0,vi 0,vi 0,vi 0,vi 0,vi 0,vi 0] Xp1 g) ?_;rintro _ w5 ⟨H,hb⟩;have B:=g;have o:=o.oz H B rfl;have h:=h.oz H B rfl;have A:=A.oz H B rfl;have D:=Below.oy D H aG;have g:=hb;refine ZX cN fun a C _ bC=>?_;refine Zs C fun _ bD=>?_;refine Ze (Vd rfl Xg 1)<|Ze (X0 rfl Xy (o.at 1))<|Ze (X0c rfl Xl)<|Zm rfl<|Zt bD fun a C=>?_;refine Q8<|X04 (σ:=Nat×(List Int)) (fun (s:Nat×(List Int)) (a:Act) (w:World)=>match s with|(k,m)=>Fr a 105 [(1,vi i),(2,vi j),(3,.slice Al l.length cl),(4,(pZ9 b5)),(8,(pZ9 b6)),(10,.slice (some ⟨b8,0,none⟩) d.ns.length d.ns.length),(11,(pZ9 aD)),(25,.slice Ad d.ns.length cd),(26,vi (d.ns.length:Int)),(27,vi (k:Int))]/\(k<=d.ns.length)/\(m=bsO (cutB (bdB d i j) k) d.ns.length)/\Blk w b5 39 [vi d.n,.slice Ad d.ns.length cd,.slice Bd d.ws.length dd,vi d.t,vi d.r]/\Blk w b6 96 [vi 0,vi 0,vi 0,vi 0,vi 0]/\Blk w b8 3 (m.flatMap encI)/\Blk w aD 156 [vi 0,vi 0,vi 0,vi 0,vi 0,vi 0,vi 0,vi 0]/\d.ws.length<=dd/\Below w0.heap.size w0 w) (fun (s:Nat×(List Int))=>match s with|(k,m)=>d.ns.length-k) (0,List.replicate d.ns.length 0) ?_ ?_
 ·exact ⟨C.sb,(Qf _),(Xsk _ _).symm,o,h,A,g,G,D⟩
 rintro ⟨k,m⟩ a w6 ⟨C,hk,hm,o,h,A,g,G,D⟩;refine Zs C fun _ bE=>?_;refine Ze (X0q rfl rfl)<|ZX bE fun a C _ bF=>?_
 refine Xi C rfl (fun I=>?_) (fun I=>?_)
 ·have aO:=I;have I:=Q2 I
  obtain ⟨d8,cU⟩:=X5 (l:=d.ns) (k:=k) (by omega)
  obtain ⟨u9,aE⟩:=X5 (l:=d.ns) (k:=k) (by have:=I;omega)
  refine Q7<|bF _ _<|Q5 fun _ aH=>?_;refine Q8<|Zs C fun _ bG=>?_;refine Zm rfl<|Zi (k:=k) (u:=u9) (enc:=encNd) (l:=d.ns) tv0 rfl rfl Xl X08 Xw (aC.bx D) aE (by omega) ?_;intro dA aP;refine Ze (X01 (l:=[vi u9.k,vi u9.p]) rfl X23 aP rfl)<|Zf (Xo (zs:=[vi 0,vi 0]) X4d rfl) ?_;rintro _ w7 ⟨dB,rfl,aM,E,a6⟩;have aQ:=Q0 D.size aM;have bH:=(aC.bx D).away aM;have o:=o.bw E;have h:=h.bw E;have A:=A.bw E;have g:=g.bw E;have D:=btr D E;refine Za rfl<|Zo (Vw [vi u9.k,vi u9.p] X08 a6) ?_;rintro _ w8 ⟨H,hb⟩;have B:=a6;have o:=o.oz H B rfl;have h:=h.oz H B rfl;have A:=A.oz H B rfl;have g:=g.oz H B rfl;have D:=Below.oy D H aQ;have a6:=hb;refine Zx bG fun a C _ bJ=>?_;refine Ze (Vd rfl X0v 0)<|Ze (X0 rfl X7 (a6.at 0))<|Zt bJ fun a C=>?_;refine Q8<|Zs C fun _ bK=>?_;refine Ze (X0m rfl rfl)<|Za rfl<|Zt bK fun a C=>?_
  refine Xi C rfl (fun a7=>?_) (fun a7=>?_)
  ·have aR:=a7;have aS:=Y2b (i:=i) (j:=j) aE a7
   have cO:=Xnx hG aE (.inl (by simpa using a7))
   have Q:bsO (cutB (bdB d i j) (k+1)) d.ns.length=m.set k (bitF d.n j u9.p):=by rw [aS,hm];exact (X8g _ _ _).symm
   refine Zr C<|Zm rfl<|Zm rfl<|Ze (Vd rfl X13 0)<|Ze (X0 rfl X7 (o.at 0))<|Zm rfl<|Ze (Vd rfl X06 1)<|Ze (X0 rfl X7 (a6.at 1))<|Zf (Vc (Y2y _ d.n j u9.p (by omega) (by omega) (by omega)) Xiu) ?_;rintro _ _ ⟨rfl,rfl⟩;refine Ze (X5y (k:=k) (off:=k*1) rfl rfl Xj X09 rfl (by first|(rw [hm,X2d];omega)|omega) rfl)<|Zo (X57 (enc:=encI) (l:=m) (u:=bitF d.n j u9.p) (k:=k) rfl rfl X09 A X9 X1e rfl (by first|(rw [hm,X2d];omega)|omega)) ?_;rintro _ w9 ⟨H,hb⟩;have B:=A;have o:=o.oz H B rfl;have h:=h.oz H B rfl;have g:=g.oz H B rfl;have D:=Below.oy D H aF;have A:=hb;refine Zn fun a C=>?_;refine Xc<|Xc<|aH _ _<|Zr C ?_;refine Ze (Xm rfl rfl (by omega) (by omega))<|Zm rfl ?_;refine Zn fun a C=>?_;refine Xd ?_;exact ⟨(k+1,(m.set k (bitF d.n j u9.p))),⟨C.sb,(by omega),Q.symm,o,h,A,g,G,D⟩,(by first|omega|(dsimp only;omega))⟩
  have aR:=a7;have bL:=a7;refine Zs C fun _ bM=>?_;refine Ze (X0m rfl rfl)<|Za rfl<|Zt bM fun a C=>?_
  refine Xi C rfl (fun a8=>?_) (fun a8=>?_)
  ·have aT:=a8;have aS:=Y0k (i:=i) (j:=j) aE bL a8
   have cO:=Xnx hG aE (.inr (by simpa using a8))
   have Q:bsO (cutB (bdB d i j) (k+1)) d.ns.length=m.set k (bitF d.n i u9.p):=by rw [aS,hm];exact (X8g _ _ _).symm
   refine Zr C<|Zm rfl<|Zm rfl<|Ze (Vd rfl X13 0)<|Ze (X0 rfl X7 (o.at 0))<|Zm rfl<|Ze (Vd rfl X06 1)<|Ze (X0 rfl X7 (a6.at 1))<|Zf (Vc (Y2y _ d.n i u9.p (by omega) (by omega) (by omega)) Xiu) ?_;rintro _ _ ⟨rfl,rfl⟩;refine Ze (X5y (k:=k) (off:=k*1) rfl rfl Xj X09 rfl (by first|(rw [hm,X2d];omega)|omega) rfl)<|Zo (X57 (enc:=encI) (l:=m) (u:=bitF d.n i u9.p) (k:=k) rfl rfl X09 A X9 X1e rfl (by first|(rw [hm,X2d];omega)|omega)) ?_;rintro _ dC ⟨H,hb⟩;have B:=A;have o:=o.oz H B rfl;have h:=h.oz H B rfl;have g:=g.oz H B rfl;have D:=Below.oy D H aF;have A:=hb;refine Zn fun a C=>?_;refine Xc<|Xc<|aH _ _<|Zr C ?_;refine Ze (Xm rfl rfl (by omega) (by omega))<|Zm rfl ?_;refine Zn fun a C=>?_;refine Xd ?_;exact ⟨(k+1,(m.set k (bitF d.n i u9.p))),⟨C.sb,(by omega),Q.symm,o,h,A,g,G,D⟩,(by first|omega|(dsimp only;omega))⟩
  have aT:=a8;have cP:=Y23 (i:=i) (j:=j) aE bL a8
  have Q:bsO (cutB (bdB d i j) (k+1)) d.ns.length=m:=by rw [hm,Xcz cP]
  refine Q7<|Xc<|Xc<|aH _ _ ?_;refine Zr C<|Ze (Xm rfl rfl (by omega) (by omega))<|Zm rfl ?_;refine Zn fun a C=>?_;refine Xd ?_;exact ⟨(k+1,m),⟨C.sb,(by omega),Q.symm,o,h,A,g,G,D⟩,(by first|omega|(dsimp only;omega))⟩
 have aO:=I;have I:=Q1 I
 have cQ:m=bsO (bdB d i j) d.ns.length:=by rw [hm];exact Xgr (by have:=I;omega)
 refine Q9<|Xk<|Xk<|X03 ?_;refine bC _ _<|Q5 fun _ bN=>?_;refine Zs C fun _ bO=>?_;refine Zm rfl<|Ze (X0c rfl Xj)<|Ze (Vx (Xjm (m:=l.length) rfl rfl rfl (by omega)) (X9p (by omega)))<|Zm rfl<|Zt bO fun a C=>?_;refine Q8<|X04 (σ:=Nat×(Nat->Bool)×(List Int)×(List Int)) (fun (s:Nat×(Nat->Bool)×(List Int)×(List Int)) (a:Act) (w:World)=>match s with|(n,be,r,ct)=>Fr a 105 [(3,.slice Al l.length cl),(4,(pZ9 b5)),(8,(pZ9 b6)),(10,.slice (some ⟨b8,0,none⟩) d.ns.length d.ns.length),(11,(pZ9 aD)),(59,vi ((2^l.length:Nat) : Int)),(60,vi (n:Int))]/\(n<=2^l.length)/\(r=bsO be d.ns.length)/\(∀ x,x ∉ spS d.ns->be x=(bdB d i j) x)/\(Tl d i j n ct)/\Blk w b5 39 [vi d.n,.slice Ad d.ns.length cd,.slice Bd d.ws.length dd,vi d.t,vi d.r]/\Blk w b6 96 [vi 0,vi 0,vi 0,vi 0,vi 0]/\Blk w b8 3 (r.flatMap encI)/\Blk w aD 156 (ct.flatMap encI)/\d.ws.length<=dd/\Below w0.heap.size w0 w) (fun (s:Nat×(Nat->Bool)×(List Int)×(List Int))=>match s with|(n,be,r,ct)=>2^l.length-n) (0,(bdB d i j),m,[0,0,0,0,0,0,0,0]) ?_ ?_
 ·exact ⟨C.sb,(Qf _),cQ,(fun _ _=>rfl),(Y47 d i j),o,h,A,g,G,D⟩
 rintro ⟨n,be,r,ct⟩ a dD ⟨C,hn,hr,aU,aB,o,h,A,g,G,D⟩;refine Zs C fun _ bP=>?_;refine Ze (X0q rfl rfl)<|ZX bP fun a C _ bQ=>?_
 refine Xi C rfl (fun J=>?_) (fun J=>?_)
 ·have aV:=J;have J:=Q2 J
  have dE:n<2^l.length:=by have:=J;omega
  refine Q7<|bQ _ _<|Q5 fun _ aN=>?_;refine Q8<|Zs C fun _ bR=>?_;refine Zm rfl<|Za rfl<|ZX bR fun a C _ bS=>?_;refine Zs C fun _ bT=>?_;refine Zm rfl<|Ze (X0c rfl Xj)<|Zm rfl<|Zt bT fun a C=>?_;refine Q8<|X04 (σ:=Nat×(List Int)) (fun (s:Nat×(List Int)) (a:Act) (w:World)=>match s with|(q,M)=>Fr a 105 [(3,.slice Al l.length cl),(4,(pZ9 b5)),(8,(pZ9 b6)),(10,.slice (some ⟨b8,0,none⟩) d.ns.length d.ns.length),(11,(pZ9 aD)),(14,vi (n:Int)),(59,vi ((2^l.length:Nat) : Int)),(60,vi (n:Int)),(63,.slice Al l.length cl),(64,vi (l.length:Int)),(65,vi (q:Int))]/\(q<=l.length)/\(M=bsO (asK ((spS d.ns).take q) n be) d.ns.length)/\Blk w b5 39 [vi d.n,.slice Ad d.ns.length cd,.slice Bd d.ws.length dd,vi d.t,vi d.r]/\Blk w b6 96 [vi 0,vi 0,vi 0,vi 0,vi 0]/\Blk w b8 3 (M.flatMap encI)/\Blk w aD 156 (ct.flatMap encI)/\d.ws.length<=dd/\Below w0.heap.size w0 w) (fun (s:Nat×(List Int))=>match s with|(q,M)=>l.length-q) (0,r) ?_ ?_
  ·exact ⟨C.sb,(Qf _),hr,o,h,A,g,G,D⟩
  rintro ⟨q,M⟩ a dF ⟨C,hq,aI,o,h,A,g,G,D⟩;refine Zs C fun _ bU=>?_;refine Ze (X0q rfl rfl)<|ZX bU fun a C _ bW=>?_
  refine Xi C rfl (fun L=>?_) (fun L=>?_)
  ·have aW:=L;have L:=Q2 L
   obtain ⟨dG,cV⟩:=X5 (l:=l) (k:=q) (by omega)
   obtain ⟨x8,bX⟩:=X5 (l:=spS d.ns) (k:=q) (by have:=L;omega)
   have aX:=Xjb bX
   rw [<- b4] at aX
   have cW:=aX.2;have Q:=Xgu (β:=be) (N:=d.ns.length) (m:=n) bX
   rw [<- aI] at Q
   refine Q7<|bW _ _<|Q5 fun _ bY=>?_;refine Q8<|Zs C fun _ bZ=>?_;refine Zm rfl<|Zi (k:=q) (u:=((x8:Nat) : Int)) (enc:=encI) (l:=l) tv0 rfl rfl Xj X09 X9 (aL.bx D) aX.1 rfl ?_;intro dH aY;refine Ze (X0 rfl X7 aY)<|Za rfl<|Za rfl<|Zt bZ fun a C=>?_;refine Zr C<|Zm rfl<|Zm rfl<|Zm rfl<|Zm rfl<|Ze (Xqa (m:=q) rfl rfl rfl (by omega))<|Ze (Vx (Xl7 rfl rfl) (Xcy (by omega)))<|Ze (X5y (k:=x8) (off:=x8*1) rfl rfl Xj X09 rfl (by first|(rw [aI,X2d];omega)|omega) rfl)<|Zo (X57 (enc:=encI) (l:=M) (u:=(b1 (n.testBit q))) (k:=x8) rfl rfl X09 A X9 X1e rfl (by first|(rw [aI,X2d];omega)|omega)) ?_;rintro _ dI ⟨H,hb⟩;have B:=A;have o:=o.oz H B rfl;have h:=h.oz H B rfl;have g:=g.oz H B rfl;have D:=Below.oy D H aF;have A:=hb;refine Zn fun a C=>?_;refine Xc<|bY _ _<|Zr C<|Ze (Xm rfl rfl (by omega) (by omega))<|Zm rfl ?_;refine Zn fun a C=>?_;refine Xd ?_;exact ⟨(q+1,(M.set x8 (b1 (n.testBit q)))),⟨C.sb,(by omega),Q,o,h,A,g,G,D⟩,(by first|omega|(dsimp only;omega))⟩
  have aW:=L;have L:=Q1 L
  have aJ:M=bsO (asK (spS d.ns) n be) d.ns.length:=by rw [aI,Qi (by have:=L;omega)]
  have c5:M=bsO (asK (spS d.ns) n (bdB d i j)) d.ns.length:=by rw [aJ,Xcm _ _ aU]
  have aA:=c5.symm;refine Q9<|Xk<|Xk<|X03 ?_;refine bS _ _<|Zs C fun _ cA=>?_;refine Ze (Vn X2 o)<|Zm rfl<|Zf (Vc (Y0x _ d d.ns.length rfl Ad cd (aC.bx D).top Bd dd (aK.bx D).top G (some ⟨b8,0,none⟩) d.ns.length M d.ns.length (Rd.of_blk A rfl _ A.lt) (by rw [aJ,X2d]) hG (asK (spS d.ns) n (bdB d i j)) c5) Xnz) ?_;rintro _ dJ ⟨rfl,E⟩;have o:=o.bw E;have h:=h.bw E;have A:=A.bw E;have g:=g.bw E;have D:=btr D E;refine Zm rfl<|Ze (Xp (vs:=[vi (fcL d M),.bool (d.ws.all (okL M))]) rfl rfl)<|Ze (Xp (vs:=[vi (fcL d M),.bool (d.ws.all (okL M))]) rfl rfl)<|Za rfl<|Za rfl<|Zx cA fun a C _ cB=>?_;refine Zm rfl<|Zt cB fun a C=>?_
  refine Xi C rfl (fun U=>?_) (fun U=>?_)
  ·have aZ:=U
   have cC:=Xir hG (asK (spS d.ns) n (bdB d i j)) (by rw [aA];exact U)
   rw [aA] at cC
   have cD:=X97 hG (asK (spS d.ns) n (bdB d i j))
   rw [aA] at cD
   have dK:0<=(fcL d M+d.t).tmod 8/\(fcL d M+d.t).tmod 8<=7:=by
    rw [cC.2]
    rcases cD with h9|h9
    ·exact ⟨h9.2.1,h9.2.2.1⟩
    ·have h8:=h9.1;rw [U] at h8;cases h8
   have Q:=aB.y hG (by rw [aA];exact U) (e:=(fcL d M+d.t).tmod 8) (by rw [aA])
   have dL:=aB.bd ((fcL d M+d.t).tmod 8).toNat;have cX:=aB.len;refine Zr C<|Zm rfl<|Ze (Vd rfl X0u 3)<|Ze (X0 rfl X7 (o.at 3))<|Ze (Xm rfl rfl (by omega) (by omega))<|Ze (X33 rfl rfl rfl)<|Ze (X2b (k:=((fcL d M+d.t).tmod 8).toNat) rfl rfl Tryz.underlying156 X09 (by omega) (by omega) (Nat.zero_add _))<|Ze (Xxn (enc:=encI) (l:=ct) (u:=(ct.getD ((fcL d M+d.t).tmod 8).toNat 0)) (k:=((fcL d M+d.t).tmod 8).toNat) rfl X7 g X9 (X74 (by omega)) rfl)<|Ze (Xm rfl rfl (by omega) (by omega))<|Ze (X2b (k:=((fcL d M+d.t).tmod 8).toNat) rfl rfl Tryz.underlying156 X09 (by omega) (by omega) (Nat.zero_add _))<|Zo (X57 (enc:=encI) (l:=ct) (u:=(ct.getD ((fcL d M+d.t).tmod 8).toNat 0)+1) (k:=((fcL d M+d.t).tmod 8).toNat) rfl rfl X09 g X9 X1e rfl (by omega)) ?_;rintro _ dM ⟨H,hb⟩;have B:=g;have o:=o.oz H B rfl;have h:=h.oz H B rfl;have A:=A.oz H B rfl;have D:=Below.oy D H aG;have g:=hb;refine Zn fun a C=>?_;refine Xc<|aN _ _<|Zr C<|Ze (Xm rfl rfl (by omega) (by omega))<|Zm rfl ?_;refine Zn fun a C=>?_;refine Xd ?_;exact ⟨(n+1,(asK (spS d.ns) n be),M,(ct.set (((fcL d M+d.t).tmod 8).toNat) ((ct.getD ((fcL d M+d.t).tmod 8).toNat 0)+1))),⟨C.sb,(by omega),aJ,(fun x hx=>by rw [X9a _ _ _ hx];exact aU x hx),Q,o,h,A,g,G,D⟩,(by first|omega|(dsimp only;omega))⟩
  have aZ:=U
  have Q:=aB.n hG (by rw [aA];exact U)
  refine Q7<|Xc<|aN _ _<|Zr C ?_;refine Ze (Xm rfl rfl (by omega) (by omega))<|Zm rfl ?_;refine Zn fun a C=>?_;refine Xd ?_;exact ⟨(n+1,(asK (spS d.ns) n be),M,ct),⟨C.sb,(by omega),aJ,(fun x hx=>by rw [X9a _ _ _ hx];exact aU x hx),Q,o,h,A,g,G,D⟩,(by first|omega|(dsimp only;omega))⟩
 have aV:=J;have J:=Q1 J
 have cR:n=2^(spS d.ns).length:=by have:=J;rw [cH,<- b7];omega
 have b0:oSum (oF ct)=(smD d (bdB d i j)):=by rw [aB.sum,cR];exact Xe8 _ _ _
 have cS:rOk (oSum (oF ct))=true:=by rw [b0];exact Xd0 hG b3 _
 rw [fl8 aB.len] at g
 refine Q9<|Xk<|Xk<|X03 ?_;refine bN _ _<|Q5 fun _ cE=>?_;refine X00 none (fun j=>[10].contains j) mixed ?_;intro dN E;have o:=o.bw E;have h:=h.bw E;have g:=g.bw E;have D:=btr D E;refine Yb C<|Ye 0 rfl (Vn Xp8 g)<|Ye 2 rfl (Vn X2 o)<|Yo 4 rfl (fun _=>Vd rfl X07 4)<|Ye 5 rfl (X0 rfl X7 (o.at 4))<|Y1 1 ?_;refine Yk rfl tv0 (X1m (vs:=[.agg #[vi ((oF ct).f 0),vi ((oF ct).f 1),vi ((oF ct).f 2),vi ((oF ct).f 3),vi ((oF ct).f 4),vi ((oF ct).f 5),vi ((oF ct).f 6),vi ((oF ct).f 7)]]) rfl Xo8 (Xz2 _ (oF ct) (fun k _=>by have:=aB.bd k;show 0<=ct.getD k 0/\ct.getD k 0<=1000000;omega))) (fun _ _ ⟨_,E⟩=>E) ?_;rintro _ dO ⟨rfl,E⟩;have h:=h.bw E;have D:=btr D E;refine Y1 3<|Yk rfl tv0 (Vc (Xzs _ d d.ns.length rfl Ad cd (aC.bx D).top Bd dd (aK.bx D).top G (by omega)) Xp9) (fun _ _ ⟨_,E⟩=>E) ?_;rintro _ dP ⟨rfl,E⟩;have h:=h.bw E;have D:=btr D E;refine Yo 6 rfl (fun _=>X11 rfl rfl (by omega) (by omega))<|Y1 7 ?_;refine Yk rfl tv0 (X1m (vs:=[.agg #[vi ((oSum (oF ct)).a),vi ((oSum (oF ct)).b),vi ((oSum (oF ct)).c),vi ((oSum (oF ct)).d)],vi ((hdN d.ws)-d.r)]) rfl Xnp (Xz7 _ (oSum (oF ct)) ((hdN d.ws)-d.r) cJ cS)) (fun _ _ ⟨W,_,cF,E⟩=>E) ?_;rintro _ dQ ⟨W,rfl,cF,E⟩;have h:=h.bw E;have D:=btr D E;refine Yo 8 rfl (fun _=>Xp (vs:=[.agg #[vi W.num.a,vi W.num.b,vi W.num.c,vi W.num.d,vi W.exp],.bool ((sclI (oSum (oF ct)) ((hdN d.ws)-d.r)).isSome)]) rfl rfl)<|Yo 9 rfl (fun _=>Xp (vs:=[.agg #[vi W.num.a,vi W.num.b,vi W.num.c,vi W.num.d,vi W.exp],.bool ((sclI (oSum (oF ct)) ((hdN d.ws)-d.r)).isSome)]) rfl rfl)<|Y1 10 ?_;refine Yh rfl tv0 rfl (Vw [vi W.num.a,vi W.num.b,vi W.num.c,vi W.num.d,vi W.exp] X2u h) ?_;rintro _ dR ⟨H,hb⟩
 have B:=h;have D:=Below.oy D H b9;have h:=hb;refine Yo 11 rfl (fun _=>Xr rfl) ?_;refine Yd fun a C=>?_;refine cE _ _ ?_
 refine Q6 (X6 C (X19 C rfl (ResV.cellN (l:=[vi W.num.a,vi W.num.b,vi W.num.c,vi W.num.d,vi W.exp]) rfl X2o (h.at 0) rfl) rfl) ?_)
 exact ⟨W,by rw [<- b0];rfl,by rw [<- b0];exact cF,D⟩
theorem Xzb(g:World)(i j:Nat)(d:Dg)(md:Nat)(a6:md=d.ns.length)(Ad:Option Addr)(cd:Nat)(a7:Rd g g.heap.size 81 encNd Ad d.ns)(Bd:Option Addr)(dd:Nat)(a8:Rd g g.heap.size 83 encWr Bd d.ws)(aA:d.ws.length<=dd)(Al:Option Addr)(cl:Nat)(l:List Int)(aB:Rd g g.heap.size 3 encI Al l)(ba bb:Nat)(m:Blk g ba 39 [vi d.n,.slice Ad md cd,.slice Bd d.ws.length dd,vi d.t,vi d.r])(o:Blk g bb 71 [.slice Al l.length cl])(hG:goodD d=true)(aD:(((spL d.ns).length:Nat) : Int)+2*d.n<=16)(aE:l=spL d.ns) : Ret Tryz.prog 71 [vi (i:Int),vi (j:Int),(pZ9 ba),(pZ9 bb)] g (fun v w=>∃ c:Dy,v=.tuple #[dV c,.bool (cellD d i j).isSome]/\(∀ y,cellD d i j=some y->c=y)/\Below g.heap.size g w):=by
 have aF:=m.lt;have aG:=o.lt;refine enter Tryz.func71 rfl 15 rfl rfl ?_;intro a hf
 have k:=bz g
 refine Zs hf fun _ aH=>?_;refine Zf (Xo (zs:=[vi 0,vi 0,vi 0,vi 0,vi 0]) X85 rfl) ?_;rintro _ w1 ⟨b5,rfl,aI,hE,f⟩;have aC:=Q0 k.size aI;have m:=m.bw hE;have o:=o.bw hE;have k:=btr k hE;refine Za rfl<|Zx aH fun a hf _ aJ=>?_;refine Ze (X01 (l:=[vi d.n,.slice Ad md cd,.slice Bd d.ws.length dd,vi d.t,vi d.r]) rfl X2 (m.at 0) rfl)<|Zm rfl<|Zm rfl<|Ze (X0 rfl X3z (o.at 0))<|Zf (Vc (Y0q _ d md a6 Ad cd (a7.bx k).top Bd dd (a8.bx k).top aA (i:Int) (j:Int) Al cl l (aB.bx k).top hG aD aE) Xnu) ?_;rintro _ w2 ⟨e,rfl,aK,hE⟩;have f:=f.bw hE;have k:=btr k hE;refine Ze (Xp (vs:=[.agg #[vi e.num.a,vi e.num.b,vi e.num.c,vi e.num.d,vi e.exp],.bool ((sclI (smD d (bdB d (i:Int) (j:Int))) (exD d)).isSome)]) rfl rfl)<|Ze (Xp (vs:=[.agg #[vi e.num.a,vi e.num.b,vi e.num.c,vi e.num.d,vi e.exp],.bool ((sclI (smD d (bdB d (i:Int) (j:Int))) (exD d)).isSome)]) rfl rfl)<|Zo (Vw [vi e.num.a,vi e.num.b,vi e.num.c,vi e.num.d,vi e.exp] X2u f) ?_;rintro _ w3 ⟨ho,hb⟩;have aL:=f;have k:=Below.oy k ho aC;have f:=hb;refine Za rfl<|Zt aJ fun a hf=>?_
 refine Q6 (X6 hf (X19 hf rfl (ResV.cellN (l:=[vi e.num.a,vi e.num.b,vi e.num.c,vi e.num.d,vi e.exp]) rfl X2o (f.at 0) rfl) rfl) ?_)
 exact ⟨e,rfl,aK,k⟩
theorem Y2m(J:World)(d:Dg)(md:Nat)(aA:md=d.ns.length)(Ad:Option Addr)(cd:Nat)(C:Rd J J.heap.size 81 encNd Ad d.ns)(Bd:Option Addr)(dd:Nat)(D:Rd J J.heap.size 83 encWr Bd d.ws)(E:d.ws.length<=dd)(aM:d.ws.length<=1000000000)(hN:md<=1000) : Ret Tryz.prog 30 [.agg #[vi d.n,.slice Ad md cd,.slice Bd d.ws.length dd,vi d.t,vi d.r]] J (fun v w=>∃ A c,v=.tuple #[mV A c (((mnO d)).getD mZ),.bool ((mnO d)).isSome]/\Own w J.heap.size 96 5 encD A c (((mnO d)).getD mZ).cells/\Below J.heap.size J w):=by
 subst aA
 have aS:(spL d.ns).length<=d.ns.length:=X4u d.ns d.ns.length
 refine enter Tryz.func30 rfl 29 rfl rfl ?_;intro a u
 have f:=bz J
 refine Zs u fun _ aN=>?_;refine Zf (X0n (zs:=[vi d.n,.slice Ad d.ns.length cd,.slice Bd d.ws.length dd,vi d.t,vi d.r]) rfl rfl) ?_;rintro _ w1 ⟨b4,rfl,aO,o,e⟩;have aT:=Q0 f.size aO;have f:=btr f o;refine Zf (Xo (zs:=[vi 0,vi 0,.slice none 0 0]) X7f rfl) ?_;rintro _ w2 ⟨b6,rfl,aP,o,b⟩;have G:=Q0 f.size aP;have e:=e.bw o;have f:=btr f o;refine Za rfl<|ZX aN fun a u _ aQ=>?_;refine Zs u fun _ aR=>?_;refine Ze (Vn X2 e)<|Zf (Vc (Xg6 _ d d.ns.length rfl Ad cd (C.bx f).top Bd dd (D.bx f).top E aM) X87) ?_;rintro _ w3 ⟨rfl,o⟩;have e:=e.bw o;have b:=b.bw o;have f:=btr f o;refine Ze (X0y rfl)<|Zt aR fun a u=>?_
 refine Xi u rfl (fun H=>?_) (fun H=>?_)
 ·have aB:=H
  have a6:mnO d=none:=Xj7 (by rw [<- X3y];have h8:=H;simpa using h8)
  refine Zs u fun _ aC=>?_;refine Ze (X0e (ps:=[]) (cs:=[vi 0,vi 0,.slice none 0 0]) rfl (fun _=>by first|rfl|kernel_rfl))<|Zo (Vw [vi 0,vi 0,.slice none 0 0] X2t b) ?_;rintro _ w4 ⟨I,hb⟩;have p:=b;have f:=Below.oy f I G;have b:=hb;refine Za rfl<|Zt aC fun a u=>?_;refine Q6<|Xa<|X6 u (X19 u rfl (ResV.cellN (l:=[vi 0,vi 0,.slice none 0 0]) rfl X2s (b.at 0) rfl) rfl) ?_
  rw [a6]
  exact ⟨none,0,rfl,(Own.nil _ _ _ _ _),f⟩
 have aB:=H
 have hG:goodD d=true:=by rw [<- X3y];have h8:=H;simpa using h8
 have aU:=X18 hG;refine Q7<|aQ _ _<|Zs u fun _ aD=>?_;refine Ze (Vn X2 e)<|Zf (Vc (Y2i _ d d.ns.length rfl Ad cd (C.bx f).top Bd dd (D.bx f).top E hN) Xq1) ?_;rintro _ w5 ⟨aE,aF,rfl,g,o⟩;have g:=g.lower f.size;have e:=e.bw o;have b:=b.bw o;have f:=btr f o;refine Zf (Xo (zs:=[.slice none 0 0]) Y4c rfl) ?_;rintro _ w6 ⟨L,rfl,aG,o,q⟩;have a7:=Q0 f.size aG;have e:=e.bw o;have b:=b.bw o;have g:=g.bw o;have f:=btr f o;refine Zo (Vw [.slice aE (spL d.ns).length aF] Xh5 q) ?_;rintro _ w7 ⟨I,hb⟩;have p:=q;have e:=e.oz I p rfl;have b:=b.oz I p rfl;have g:=g.oT I p rfl;have f:=Below.oy f I a7;have q:=hb;refine ZX aD fun a u _ aH=>?_;refine Zs u fun _ aI=>?_;refine Ze (X0 rfl X3z (q.at 0))<|Ze (X0c rfl Xj)<|Ze (Vd rfl X13 0)<|Ze (X0 rfl X7 (e.at 0))<|Ze (X41 rfl rfl (by omega) (by omega))<|Ze (Xm rfl rfl (by omega) (by omega))<|Ze (X3h rfl rfl)<|Zt aI fun a u=>?_
 refine Xi u rfl (fun k=>?_) (fun k=>?_)
 ·have a8:=k;have k:=Q2 k
  have a6:mnO d=none:=Xmn (by have:=k;omega)
  refine Zs u fun _ aJ=>?_;refine Ze (X0e (ps:=[]) (cs:=[vi 0,vi 0,.slice none 0 0]) rfl (fun _=>by first|rfl|kernel_rfl))<|Zo (Vw [vi 0,vi 0,.slice none 0 0] X2t b) ?_;rintro _ w8 ⟨I,hb⟩;have p:=b;have f:=Below.oy f I G;have b:=hb;refine Za rfl<|Zt aJ fun a u=>?_;refine Q6<|Xa<|X6 u (X19 u rfl (ResV.cellN (l:=[vi 0,vi 0,.slice none 0 0]) rfl X2s (b.at 0) rfl) rfl) ?_
  rw [a6]
  exact ⟨none,0,rfl,(Own.nil _ _ _ _ _),f⟩
 have a8:=k;have k:=Q1 k
 have aK:(((spL d.ns).length:Nat) : Int)+2*d.n<=16:=by have:=k;omega
 have he:mnO d=matOf ((2^d.n.toNat:Nat) : Int) ((2^d.n.toNat:Nat) : Int) (cellD d):=by unfold mnO;rw [hG,Qw,Q4 (decide_eq_true aK)]
 refine Q7<|aH _ _<|Q5 fun _ aL=>?_;refine X00 none (fun j=>[10].contains j) mixed ?_;intro w9 o;have e:=e.bw o;have b:=b.bw o;have q:=q.bw o;have g:=g.bw o;have f:=btr f o;refine Yb u<|Yo 0 rfl (fun _=>Vd rfl X13 0)<|Ye 1 rfl (X0 rfl X7 (e.at 0))<|Yo 2 rfl (fun _=>Vx (Xjm (m:=d.n.toNat) rfl rfl (by omega) (by omega)) (X9p (by omega)))<|Yo 3 rfl (fun _=>Vd rfl X13 0)<|Ye 4 rfl (X0 rfl X7 (e.at 0))<|Yo 5 rfl (fun _=>Vx (Xjm (m:=d.n.toNat) rfl rfl (by omega) (by omega)) (X9p (by omega)))<|Yo 6 rfl (fun _=>X3p (vs:=[(pZ9 b4),(pZ9 L)]) rfl)<|Y1 7 ?_;refine Yk rfl tv0 (X1m (vs:=[vi ((2^d.n.toNat:Nat) : Int),vi ((2^d.n.toNat:Nat) : Int),.func (.func 71) #[] #[(pZ9 b4),(pZ9 L)]]) rfl Xur (Y4r _ ((2^d.n.toNat:Nat) : Int) ((2^d.n.toNat:Nat) : Int) 71 [(pZ9 b4),(pZ9 L)] Xqt (cellD d) (fun i j w' hi hj hE'=>Xzb w' i j d _ rfl Ad cd (((C.bx f).top).bw hE').top Bd dd (((D.bx f).top).bw hE').top E aE aF (spL d.ns) ((g.rd.top).bw hE').top b4 L (e.bw hE') (q.bw hE') hG aK rfl))) (fun _ _ ⟨h,B,_,x,o⟩=>o) ?_;rintro _ aV ⟨h,B,rfl,x,o⟩;have x:=x.lower f.size;have b:=b.bw o;have f:=btr f o;refine Yo 8 rfl (fun _=>Xp (vs:=[.agg #[vi (((matOf ((2^d.n.toNat:Nat) : Int) ((2^d.n.toNat:Nat) : Int) (cellD d)).getD mZ).rows),vi (((matOf ((2^d.n.toNat:Nat) : Int) ((2^d.n.toNat:Nat) : Int) (cellD d)).getD mZ).cols),.slice h (((matOf ((2^d.n.toNat:Nat) : Int) ((2^d.n.toNat:Nat) : Int) (cellD d)).getD mZ).cells).length B],.bool ((matOf ((2^d.n.toNat:Nat) : Int) ((2^d.n.toNat:Nat) : Int) (cellD d)).isSome)]) rfl rfl)<|Yo 9 rfl (fun _=>Xp (vs:=[.agg #[vi (((matOf ((2^d.n.toNat:Nat) : Int) ((2^d.n.toNat:Nat) : Int) (cellD d)).getD mZ).rows),vi (((matOf ((2^d.n.toNat:Nat) : Int) ((2^d.n.toNat:Nat) : Int) (cellD d)).getD mZ).cols),.slice h (((matOf ((2^d.n.toNat:Nat) : Int) ((2^d.n.toNat:Nat) : Int) (cellD d)).getD mZ).cells).length B],.bool ((matOf ((2^d.n.toNat:Nat) : Int) ((2^d.n.toNat:Nat) : Int) (cellD d)).isSome)]) rfl rfl)<|Y1 10 ?_
 refine Yh rfl tv0 rfl (Vw [vi (((matOf ((2^d.n.toNat:Nat) : Int) ((2^d.n.toNat:Nat) : Int) (cellD d)).getD mZ).rows),vi (((matOf ((2^d.n.toNat:Nat) : Int) ((2^d.n.toNat:Nat) : Int) (cellD d)).getD mZ).cols),.slice h (((matOf ((2^d.n.toNat:Nat) : Int) ((2^d.n.toNat:Nat) : Int) (cellD d)).getD mZ).cells).length B] X2t b) ?_;rintro _ aW ⟨I,hb⟩;have p:=b;have x:=x.oT I p rfl;have f:=Below.oy f I G;have b:=hb;refine Yo 11 rfl (fun _=>Xr rfl) ?_;refine Yd fun a u=>?_;refine aL _ _ ?_
 refine Q6 (X6 u (X19 u rfl (ResV.cellN (l:=[vi (((matOf ((2^d.n.toNat:Nat) : Int) ((2^d.n.toNat:Nat) : Int) (cellD d)).getD mZ).rows),vi (((matOf ((2^d.n.toNat:Nat) : Int) ((2^d.n.toNat:Nat) : Int) (cellD d)).getD mZ).cols),.slice h (((matOf ((2^d.n.toNat:Nat) : Int) ((2^d.n.toNat:Nat) : Int) (cellD d)).getD mZ).cells).length B]) rfl X2s (b.at 0) rfl) rfl) ?_)
 rw [he]
 exact ⟨h,B,rfl,x,f⟩
def Drq(w:World)(b B0:Nat)(A0:Option Addr)(c0:Nat)(BW:Option Addr)(eW:Nat)(A1:Option Addr)(c1:Nat)(A2:Option Addr)(c2 m n:Nat)(x:Br) : Prop:=
 Blk w b 171 [vi x.d.n,.slice A0 m c0,.slice BW x.d.ws.length eW,vi x.d.t,vi x.d.r,.slice A1 n c1,.slice A2 n c2]/\Own w B0 81 2 encNd A0 c0 x.d.ns/\Own w B0 83 3 encWr BW eW x.d.ws/\Own w B0 3 1 encI A1 c1 x.la/\Own w B0 4 1 encB A2 c2 x.hd/\m=x.d.ns.length/\n=x.la.length/\n=x.hd.length
theorem X99(w0:World)(bV B0:Nat)(A0:Option Addr)(c0:Nat)(BW:Option Addr)(eW:Nat)(A1:Option Addr)(c1:Nat)(A2:Option Addr)(c2 m0 n0:Nat)(x:Br)(a7:Drq w0 bV B0 A0 c0 BW eW A1 c1 A2 c2 m0 n0 x)(aF:B0<=w0.heap.size)(q:Int)(hq:0<=q/\q.toNat<n0) : Ret Tryz.prog 188 [(pZ9 bV),vi q] w0 (fun v w=>∃ A c B e m,TurnS (SB bV [A0,BW,A1,A2]) w0 w/\Us (SB bV [A0,BW,A1,A2]) w0 A/\Us (SB bV [A0,BW,A1,A2]) w0 B/\Drq w bV B0 A c B e A1 c1 A2 c2 m n0 (flpB x q)):=by
 obtain ⟨f,i,o,p,b,a8,aA,a6⟩:=a7;have aE:=f.lt
 have aB:Us (SB bV [A0,BW,A1,A2]) w0 A0:=SB.us (by simp)
 have aC:Us (SB bV [A0,BW,A1,A2]) w0 BW:=SB.us (by simp)
 have aG:Us (SB bV [A0,BW,A1,A2]) w0 A1:=SB.us (by simp)
 have aD:Us (SB bV [A0,BW,A1,A2]) w0 A2:=SB.us (by simp)
 refine enter Tryz.func188 rfl 18 rfl rfl ?_;intro a hf
 have hW:TurnS (SB bV [A0,BW,A1,A2]) w0 w0:=TurnS.refl _ _
 refine X00 none (fun j=>[14].contains j) mixed ?_;intro w1 hE;have f:=f.bw hE;have i:=i.bw hE;have o:=o.bw hE;have p:=p.bw hE;have b:=b.bw hE;have hW:=tsbel hW hE;refine Yb hf<|Yo 0 rfl (fun _=>X3 rfl)<|Yo 1 rfl (fun _=>X0a rfl)<|Yo 2 rfl (fun _=>Vd rfl X2j 6)<|Ye 3 rfl (X0 rfl X56 (f.at 6))<|Yo 4 rfl (fun _=>X3 rfl)<|Yo 5 rfl (fun _=>X3 rfl)<|Yo 6 rfl (fun _=>X0a rfl)<|Yo 7 rfl (fun _=>Vd rfl X2j 6)<|Ye 8 rfl (X0 rfl X56 (f.at 6))<|Yo 9 rfl (fun _=>X3 rfl) ?_;refine Yo 10 rfl (fun _=>Xx (k:=q.toNat) rfl rfl X4c X6s b a6 (by omega) (by omega))<|Ye 11 rfl (X0 rfl X6t (X0h b X2f (Xb (d:=false) (by omega)) 0 rfl))<|Yo 12 rfl (fun _=>X0y rfl)<|Yo 13 rfl (fun _=>Xx (k:=q.toNat) rfl rfl X4c X6s b a6 (by omega) (by omega))<|Y1 14 ?_;refine Yh rfl tv0 rfl (X17 (enc:=encB) (l:=x.hd) (vs:=[.bool (!(x.hd.getD q.toNat false))]) (x0:=(x.hd.getD q.toNat false)) (u:=!(x.hd.getD q.toNat false)) (k:=q.toNat) (j:=0) (n1:=1) rfl rfl X6s b X2f rfl rfl rfl rfl (by decide) (Xb (d:=false) (by omega)) rfl) ?_;rintro _ w2 ⟨t,hg⟩;have g:=b;have f:=f.appT g hg rfl;have i:=i.appT g hg rfl;have o:=o.appT g hg rfl;have p:=p.appT g hg rfl;have hW:=tsrow hW hg aD
 clear g hg;clear b;have b:=t;clear t;refine Yd fun a hf=>?_;refine X2g hf (X3n rfl) ?_;exact ⟨A0,c0,BW,eW,m0,hW,aB,aC,⟨f,i,o,p,b,a8,aA,(a6.trans List.length_set.symm)⟩⟩
theorem Xsz(w0:World)(bV B0:Nat)(A0:Option Addr)(c0:Nat)(BW:Option Addr)(eW:Nat)(A1:Option Addr)(c1:Nat)(A2:Option Addr)(c2 m0 n0:Nat)(x:Br)(aH:Drq w0 bV B0 A0 c0 BW eW A1 c1 A2 c2 m0 n0 x)(aB:B0<=w0.heap.size)(k:Int)(p:Int)(q:Int)(hq:0<=q/\q.toNat<n0)(aQ:x.d.ns.length<=100000000/\x.d.ws.length<=100000000) : Ret Tryz.prog 137 [(pZ9 bV),vi k,vi p,vi q] w0 (fun v w=>∃ A c B e m,TurnS (SB bV [A0,BW,A1,A2]) w0 w/\Us (SB bV [A0,BW,A1,A2]) w0 A/\Us (SB bV [A0,BW,A1,A2]) w0 B/\Drq w bV B0 A c B e A1 c1 A2 c2 m n0 (nodB x k p q)):=by
 obtain ⟨b,J,D,g,i,aI,a6,a7⟩:=aH;have aO:=b.lt
 subst aI
 have aC:Us (SB bV [A0,BW,A1,A2]) w0 A0:=SB.us (by simp)
 have aR:Us (SB bV [A0,BW,A1,A2]) w0 BW:=SB.us (by simp)
 have aJ:Us (SB bV [A0,BW,A1,A2]) w0 A1:=SB.us (by simp)
 have aK:Us (SB bV [A0,BW,A1,A2]) w0 A2:=SB.us (by simp)
 have aS:(x.d.ns++[(⟨k,p⟩ : Nd)]).length=x.d.ns.length+1:=by simp
 refine enter Tryz.func137 rfl 68 rfl rfl ?_;intro a M
 have E:TurnS (SB bV [A0,BW,A1,A2]) w0 w0:=TurnS.refl _ _
 refine Zs M fun _ aL=>?_;refine Zm rfl<|Zm rfl<|Ze (X0a rfl)<|Ze (Vd rfl X0p 0)<|Ze (Vd rfl Xg 1)<|Ze (X0 rfl Xy (b.at 1))<|Zm rfl<|Zm rfl<|Ze (X0e (ps:=[(0,vi k),(1,vi p)]) (cs:=[vi k,vi p]) rfl (fun _=>by first|rfl|kernel_rfl))<|Zf (Xs (k:=1) (vs:=[.agg #[vi k,vi p]]) (zs:=[vi k,vi p]) rfl Xl X26 rfl rfl) ?_;rintro _ w1 ⟨b6,rfl,aD,G,a8⟩;have aP:=Q0 E.size aD;have N:=J.away aD;have b:=b.bw G;have J:=J.bw G;have D:=D.bw G;have g:=g.bw G;have i:=i.bw G;have E:=tsbel E G;refine Zf (X0z (enc:=encNd) (l:=(x.d.ns)) (l2:=([(⟨k,p⟩ : Nd)])) (B0:=B0) rfl rfl Xl X26 Xw X37 J (Rd.of_blk a8 rfl _ a8.lt) (by simp only [maxLen];simp;omega) (by simp;omega) (Q0 aB E.size)) ?_;rintro _ w2 ⟨A8,c8,rfl,C,H,aA⟩
 have f:Own _ B0 81 2 encNd _ _ (x.d.ns):=J
 have aG:=aA _ a8.lt N;have aM:=Us.app aC aA E.size;clear aA;have b:=b.appT f H rfl;have D:=D.appT f H rfl;have g:=g.appT f H rfl;have i:=i.appT f H rfl;have E:=tsrow E H aC;clear f H;refine Ze (X0a rfl)<|Ze (Vd rfl X0p 0)<|Ze (Vd rfl Xg 1)<|Zo (X1a (vs:=[.slice A8 (x.d.ns++([(⟨k,p⟩ : Nd)])).length c8]) (l':=[vi x.d.n,.slice A8 (x.d.ns++([(⟨k,p⟩ : Nd)])).length c8,.slice BW x.d.ws.length eW,vi x.d.t,vi x.d.r,.slice A1 n0 c1,.slice A2 n0 c2]) rfl rfl X50 b rfl rfl rfl rfl rfl) ?_;rintro _ w3 ⟨L,hb⟩;have h:=b;have D:=D.oT L h rfl;have g:=g.oT L h rfl;have i:=i.oT L h rfl;have C:=C.oT L h rfl;have E:=tsonly E L (.inl (.inl rfl));have b:=hb;refine Zx aL fun a M _ aN=>?_;refine Zm rfl<|Ze (X0a rfl)<|Ze (Vd rfl X0p 0)<|Ze (Vd rfl Xg 1)<|Ze (X0 rfl Xy (b.at 1))<|Ze (X0c rfl Xl)<|Ze (Vx (X11 rfl rfl (by omega) (by omega)) (show _=(x.d.ns.length:Int) from (by omega)))<|Za rfl<|ZX aN fun a M _ aE=>?_;refine X00 none (fun j=>[25].contains j) mixed ?_;intro w4 G;have b:=b.bw G;have D:=D.bw G;have g:=g.bw G;have i:=i.bw G;have C:=C.bw G;have E:=tsbel E G;refine Yb M<|Yo 0 rfl (fun _=>X3 rfl)<|Yo 1 rfl (fun _=>X3 rfl)<|Yo 2 rfl (fun _=>X0a rfl)<|Yo 3 rfl (fun _=>Vd rfl X0p 0)<|Yo 4 rfl (fun _=>Vd rfl Xn 2)<|Ye 5 rfl (X0 rfl X0g (b.at 2))<|Yo 6 rfl (fun _=>X3 rfl)<|Yo 7 rfl (fun _=>X0a rfl)<|Yo 8 rfl (fun _=>Vd rfl X25 5)<|Ye 9 rfl (X0 rfl X3z (b.at 5)) ?_;refine Yo 10 rfl (fun _=>X3 rfl)<|Yo 11 rfl (fun _=>Xx (k:=q.toNat) rfl rfl Xj X09 g a6 (by omega) (by omega))<|Ye 12 rfl (X0 rfl X7 (X0h g X9 (Xb (d:=(0:Int)) (by omega)) 0 rfl))<|Yo 13 rfl (fun _=>X3 rfl)<|Yo 14 rfl (fun _=>X3 rfl)<|Yo 15 rfl (fun _=>X0a rfl)<|Yo 16 rfl (fun _=>Vd rfl X2j 6)<|Ye 17 rfl (X0 rfl X56 (b.at 6))<|Yo 18 rfl (fun _=>X3 rfl)<|Yo 19 rfl (fun _=>Xx (k:=q.toNat) rfl rfl X4c X6s i a7 (by omega) (by omega)) ?_
 refine Ye 20 rfl (X0 rfl X6t (X0h i X2f (Xb (d:=false) (by omega)) 0 rfl))<|Y1 21 ?_;refine Yk rfl tv0 (Vc (X91 _ BW eW x.d.ws D.rd.top (x.la.getD q.toNat 0) (x.d.ns.length:Int) (x.hd.getD q.toNat false) (by omega) D.cap) X4t) (fun _ _ ⟨Q,U,_,o,G⟩=>G) ?_;rintro _ w5 ⟨Q,U,rfl,o,G⟩;have o:=o.lower E.size;have b:=b.bw G;have g:=g.bw G;have i:=i.bw G;have C:=C.bw G;have E:=tsbel E G;refine Yo 22 rfl (fun _=>X0a rfl)<|Yo 23 rfl (fun _=>Vd rfl X0p 0)<|Yo 24 rfl (fun _=>Vd rfl Xn 2)<|Y1 25 ?_;refine Yh rfl tv0 rfl (X1a (vs:=[.slice Q (jnW x.d.ws (x.la.getD q.toNat 0) (x.d.ns.length:Int) (x.hd.getD q.toNat false)).length U]) (l':=[vi x.d.n,.slice A8 (x.d.ns++([(⟨k,p⟩ : Nd)])).length c8,.slice Q (jnW x.d.ws (x.la.getD q.toNat 0) (x.d.ns.length:Int) (x.hd.getD q.toNat false)).length U,vi x.d.t,vi x.d.r,.slice A1 n0 c1,.slice A2 n0 c2]) rfl rfl X1k b rfl rfl rfl rfl rfl) ?_;rintro _ w6 ⟨L,hb⟩;have h:=b;have g:=g.oT L h rfl;have i:=i.oT L h rfl;have C:=C.oT L h rfl;have o:=o.oT L h rfl;have E:=tsonly E L (.inl (.inl rfl));have b:=hb;refine Yd fun a M=>?_;refine aE _ _<|Zs M fun _ aF=>?_;refine Zm rfl<|Ze (X0a rfl)<|Ze (Vd rfl X25 5)<|Ze (X0 rfl X3z (b.at 5))<|Zm rfl<|Zm rfl<|Ze (Xx (k:=q.toNat) rfl rfl Xj X09 g a6 (by omega) (by omega))<|Zo (X17 (enc:=encI) (l:=x.la) (vs:=[vi (x.d.ns.length:Int)]) (x0:=(x.la.getD q.toNat 0)) (u:=(x.d.ns.length:Int)) (k:=q.toNat) (j:=0) (n1:=1) rfl rfl X09 g X9 rfl rfl rfl rfl (by decide) (Xb (d:=(0:Int)) (by omega)) rfl) ?_;rintro _ w7 ⟨I,H⟩;have f:=g;have b:=b.appT f H rfl;have i:=i.appT f H rfl
 have C:=C.appT f H rfl;have o:=o.appT f H rfl;have E:=tsrow E H aJ
 clear f H;clear g;have g:=I;clear I;refine Zt aF fun a M=>?_;refine Zr M<|Zm rfl<|Ze (X0a rfl)<|Ze (Vd rfl X2j 6)<|Ze (X0 rfl X56 (b.at 6))<|Zm rfl<|Ze (Xx (k:=q.toNat) rfl rfl X4c X6s i a7 (by omega) (by omega))<|Zo (X17 (enc:=encB) (l:=x.hd) (vs:=[.bool false]) (x0:=(x.hd.getD q.toNat false)) (u:=false) (k:=q.toNat) (j:=0) (n1:=1) rfl rfl X6s i X2f rfl rfl rfl rfl (by decide) (Xb (d:=false) (by omega)) rfl) ?_;rintro _ w8 ⟨I,H⟩;have f:=i;have b:=b.appT f H rfl;have C:=C.appT f H rfl;have o:=o.appT f H rfl;have g:=g.appT f H rfl;have E:=tsrow E H aK
 clear f H;clear i;have i:=I;clear I;refine Zn fun a M=>?_;refine X2g M (X3n rfl) ?_;exact ⟨A8,c8,Q,U,((x.d.ns++([(⟨k,p⟩ : Nd)])).length),E,aM,(Us.new o),⟨b,C,(o.lower aB),g,i,rfl,(a6.trans List.length_set.symm),(a7.trans List.length_set.symm)⟩⟩
theorem Xit(w0:World)(bV B0:Nat)(A0:Option Addr)(c0:Nat)(BW:Option Addr)(eW:Nat)(A1:Option Addr)(c1:Nat)(A2:Option Addr)(c2 m0 n0:Nat)(x:Br)(aN:Drq w0 bV B0 A0 c0 BW eW A1 c1 A2 c2 m0 n0 x)(aO:B0<=w0.heap.size)(q:Int)(hq:0<=q/\q.toNat<n0)(aP:BrOk n0 x)(b0:x.d.ns.length<=90000000/\x.d.ws.length<=90000000) : Ret Tryz.prog 223 [(pZ9 bV),vi q] w0 (fun v w=>∃ A c B e m,v=vi ((plcB x q).la.getD q.toNat 0)/\TurnS (SB bV [A0,BW,A1,A2]) w0 w/\Us (SB bV [A0,BW,A1,A2]) w0 A/\Us (SB bV [A0,BW,A1,A2]) w0 B/\Drq w bV B0 A c B e A1 c1 A2 c2 m n0 (plcB x q)):=by
 obtain ⟨f,l,D,g,i,a6,E,a7⟩:=aN;have aZ:=f.lt
 have aC:Us (SB bV [A0,BW,A1,A2]) w0 A0:=SB.us (by simp)
 have aD:Us (SB bV [A0,BW,A1,A2]) w0 BW:=SB.us (by simp)
 have aQ:Us (SB bV [A0,BW,A1,A2]) w0 A1:=SB.us (by simp)
 have aR:Us (SB bV [A0,BW,A1,A2]) w0 A2:=SB.us (by simp)
 have b1:=aP.at hq;refine enter Tryz.func223 rfl 40 rfl rfl ?_;intro a j
 have u:TurnS (SB bV [A0,BW,A1,A2]) w0 w0:=TurnS.refl _ _
 refine Zs j fun _ aS=>?_;refine Za rfl<|ZX aS fun a j _ aE=>?_;refine Q5 fun _ aT=>?_;refine X0b (fun a w=>Fr a 40 [(0,(pZ9 bV)),(1,vi q),(29,.bool ((x.hd.getD q.toNat false)||(((x.d.ns.getD (x.la.getD q.toNat 0).toNat nZ).k) != 3)))]/\Below w0.heap.size w0 w) ?_ ?_
 ·have G:=bz w0
  refine X00 none (fun _=>false) mixed ?_;intro w1 t;have f:=f.bw t;have l:=l.bw t;have g:=g.bw t;have i:=i.bw t;have u:=tsbel u t;have G:=btr G t;refine Yb j<|Yo 0 rfl (fun _=>X3 rfl)<|Yo 1 rfl (fun _=>X0a rfl)<|Yo 2 rfl (fun _=>Vd rfl X2j 6)<|Ye 3 rfl (X0 rfl X56 (f.at 6))<|Yo 4 rfl (fun _=>X3 rfl)<|Yo 5 rfl (fun _=>Xx (k:=q.toNat) rfl rfl X4c X6s i a7 (by omega) (by omega))<|Ye 6 rfl (X0 rfl X6t (X0h i X2f (Xb (d:=false) (by omega)) 0 rfl))<|Yo 7 rfl (fun _=>X3 rfl) ?_
  refine Yl 12 rfl (fun b=>?_) (fun b=>?_)
  ·refine Yp 8 rfl (gP b) ?_;refine Yp 9 rfl (gP b) ?_;refine Yp 10 rfl (gP b) ?_;refine Yp 11 rfl (gP b) ?_;refine Yp 12 rfl (gP b) ?_;refine Yp 13 rfl (gP b) ?_;refine Yp 14 rfl (gP b) ?_;refine Yp 15 rfl (gP b) ?_;refine Yp 16 rfl (gP b) ?_;refine Yp 17 rfl (gP b) ?_;refine Yp 18 rfl (gP b) ?_;refine Yp 19 rfl (gP b) ?_;refine Yp 20 rfl (gP b) ?_;refine Yp 21 rfl (gP b) ?_;refine Yp 22 rfl (gP b) ?_;refine Yp 23 rfl (gP b) ?_;refine Yo 24 rfl (fun _=>X4 rfl b rfl) ?_;refine Yd fun a j=>?_
   have a8:Below w0.heap.size w0 w1:=G
   exact ⟨j.sub ⟨rfl,rfl,X1 rfl (by first|rfl|(simp only [b,bs];done)|simp [b]),trivial⟩,a8⟩
  refine Yu 8 rfl (gW b) (fun _=>X3 rfl) ?_;refine Yu 9 rfl (gW b) (fun _=>X0a rfl) ?_;refine Yu 10 rfl (gW b) (fun _=>Vd rfl X0p 0) ?_;refine Yu 11 rfl (gW b) (fun _=>Vd rfl Xg 1) ?_;refine Yv 12 rfl (gW b) (X0 rfl Xy (f.at 1)) ?_;refine Yu 13 rfl (gW b) (fun _=>X3 rfl) ?_;refine Yu 14 rfl (gW b) (fun _=>X0a rfl) ?_;refine Yu 15 rfl (gW b) (fun _=>Vd rfl X25 5) ?_;refine Yv 16 rfl (gW b) (X0 rfl X3z (f.at 5)) ?_;refine Yu 17 rfl (gW b) (fun _=>X3 rfl) ?_;refine Yu 18 rfl (gW b) (fun _=>Xx (k:=q.toNat) rfl rfl Xj X09 g E (by omega) (by omega)) ?_;refine Yv 19 rfl (gW b) (X0 rfl X7 (X0h g X9 (Xb (d:=(0:Int)) (by omega)) 0 rfl)) ?_;refine Yu 20 rfl (gW b) (fun _=>Xx (k:=(x.la.getD q.toNat 0).toNat) rfl rfl Xl X08 l a6 (by omega) (by omega)) ?_;refine Yu 21 rfl (gW b) (fun _=>X12 rfl X0v (m':=(x.la.getD q.toNat 0).toNat*2+0) rfl) ?_;refine Yv 22 rfl (gW b) (X0 rfl X7 (X0h l Xw (Xb (d:=nZ) (by omega)) 0 rfl)) ?_;refine Yu 23 rfl (gW b) (fun _=>X1o rfl rfl) ?_;refine Yo 24 rfl (fun _=>Xe rfl b rfl) ?_;refine Yd fun a j=>?_
  have a8:Below w0.heap.size w0 w1:=G
  exact ⟨j.sub ⟨rfl,rfl,X1 rfl (by first|rfl|(simp only [b,bs];done)|simp [b]),trivial⟩,a8⟩
 rintro a w2 ⟨j,t⟩;have f:=f.bw t;have l:=l.bw t;have D:=D.bw t;have g:=g.bw t;have i:=i.bw t;have u:=tsbel u t;refine aT _ _ ?_
 refine Xi j rfl (fun h=>?_) (fun h=>?_)
 ·have aF:=h;have aA:=Y2g h;refine Zr j<|Zm rfl<|Zm rfl<|Zf (X1m (vs:=[(pZ9 bV),vi 3,vi 0,vi q]) rfl Xhq (Xsz _ bV B0 A0 c0 BW eW A1 c1 A2 c2 m0 n0 x ⟨f,l,D,g,i,a6,E,a7⟩ (Q0 aO u.size) 3 0 q hq (by omega))) ?_;rintro _ w3 ⟨aU,aV,aW,aX,aY,aG,o,p,aH,aI,aJ,I,J,aK,C,aB⟩;have H:=SB.lift (S:=SB bV [A0,BW,A1,A2]) (w0:=w0) (.inl (.inl rfl)) (alc aC (alc aD (alc aQ (alc aR al0))));have o:=Us.trans o H u.size;have p:=Us.trans p H u.size
  have u:=tstr u aG H;clear H
  clear aG f;have f:=aH;clear aH
  clear g;have g:=I;clear I
  clear i;have i:=J;clear J;refine Zx aE fun a j _ aL=>?_;refine Zm rfl<|Ze (X0a rfl)<|Ze (Vd rfl X25 5)<|Ze (X0 rfl X3z (f.at 5))<|Zm rfl<|Ze (Xx (k:=q.toNat) rfl rfl Xj X09 g C (by omega) (by omega))<|Ze (X0 rfl X7 (X0h g X9 (Xb (d:=(0:Int)) (by omega)) 0 rfl))<|Za rfl<|Zt aL fun a j=>?_
  refine Q6 (X6 j (Xu j rfl rfl) ?_)
  rw [aA]
  exact ⟨aU,aV,aW,aX,aY,rfl,u,o,p,⟨f,aI,aJ,g,i,aK,C,aB⟩⟩
 have aF:=h;have aA:=Y2s h;refine Q7<|aE _ _<|Zs j fun _ aM=>?_;refine Zm rfl<|Ze (X0a rfl)<|Ze (Vd rfl X25 5)<|Ze (X0 rfl X3z (f.at 5))<|Zm rfl<|Ze (Xx (k:=q.toNat) rfl rfl Xj X09 g E (by omega) (by omega))<|Ze (X0 rfl X7 (X0h g X9 (Xb (d:=(0:Int)) (by omega)) 0 rfl))<|Za rfl<|Zt aM fun a j=>?_
 refine Q6 (X6 j (Xu j rfl rfl) ?_)
 rw [aA]
 exact ⟨A0,c0,BW,eW,m0,rfl,u,aC,aD,⟨f,l,D,g,i,a6,E,a7⟩⟩
theorem Xhe(w0:World)(bV B0:Nat)(A0:Option Addr)(c0:Nat)(BW:Option Addr)(eW:Nat)(A1:Option Addr)(c1:Nat)(A2:Option Addr)(c2 m0 n0:Nat)(x:Br)(aD:Drq w0 bV B0 A0 c0 BW eW A1 c1 A2 c2 m0 n0 x)(aE:B0<=w0.heap.size)(q:Int)(f:Int)(hq:0<=q/\q.toNat<n0)(a7:BrOk n0 x)(aQ:x.d.ns.length<=80000000/\x.d.ws.length<=80000000)(aR:0<=f/\f<=900) : Ret Tryz.prog 189 [(pZ9 bV),vi q,vi f] w0 (fun v w=>∃ A c B e m,TurnS (SB bV [A0,BW,A1,A2]) w0 w/\Us (SB bV [A0,BW,A1,A2]) w0 A/\Us (SB bV [A0,BW,A1,A2]) w0 B/\Drq w bV B0 A c B e A1 c1 A2 c2 m n0 (trnB x q f)):=by
 obtain ⟨b,aF,aG,i,o,aH,aI,aJ⟩:=aD;have aP:=b.lt
 have aK:Us (SB bV [A0,BW,A1,A2]) w0 A0:=SB.us (by simp)
 have aL:Us (SB bV [A0,BW,A1,A2]) w0 BW:=SB.us (by simp)
 have aM:Us (SB bV [A0,BW,A1,A2]) w0 A1:=SB.us (by simp)
 have aN:Us (SB bV [A0,BW,A1,A2]) w0 A2:=SB.us (by simp)
 have H:=X4b a7 q;have aS:=H.at hq;have aT:=X4w x q;have aU:=X1n H.p ((plcB x q).la.getD q.toNat 0).toNat;refine enter Tryz.func189 rfl 30 rfl rfl ?_;intro a hf
 have E:TurnS (SB bV [A0,BW,A1,A2]) w0 w0:=TurnS.refl _ _
 refine Zs hf fun _ aO=>?_;refine Zm rfl<|Zm rfl<|Zf (X1m (vs:=[(pZ9 bV),vi q]) rfl Xc7 (Xit _ bV B0 A0 c0 BW eW A1 c1 A2 c2 m0 n0 x ⟨b,aF,aG,i,o,aH,aI,aJ⟩ (Q0 aE E.size) q hq a7 (by omega))) ?_;rintro _ w1 ⟨A6,c6,A7,c7,m6,rfl,a8,h,C,aA,g,D,I,J,a6,aB,aC⟩;have G:=SB.lift (S:=SB bV [A0,BW,A1,A2]) (w0:=w0) (.inl (.inl rfl)) (alc aK (alc aL (alc aM (alc aN al0))));have h:=Us.trans h G E.size;have C:=Us.trans C G E.size
 have E:=tstr E a8 G;clear G
 clear a8 b;have b:=aA;clear aA
 clear i;have i:=I;clear I
 clear o;have o:=J;clear J;refine Za rfl<|Zt aO fun a hf=>?_;refine X00 none (fun j=>[20].contains j) mixed ?_;intro w2 hE;have b:=b.bw hE;have i:=i.bw hE;have o:=o.bw hE;have g:=g.bw hE;have D:=D.bw hE;have E:=tsbel E hE;refine Yb hf<|Yo 0 rfl (fun _=>X3 rfl)<|Yo 1 rfl (fun _=>X0a rfl)<|Yo 2 rfl (fun _=>Vd rfl X0p 0)<|Yo 3 rfl (fun _=>Vd rfl Xg 1)<|Ye 4 rfl (X0 rfl Xy (b.at 1))<|Yo 5 rfl (fun _=>X3 rfl)<|Yo 6 rfl (fun _=>X3 rfl)<|Yo 7 rfl (fun _=>X0a rfl)<|Yo 8 rfl (fun _=>Vd rfl X0p 0)<|Yo 9 rfl (fun _=>Vd rfl Xg 1) ?_;refine Ye 10 rfl (X0 rfl Xy (b.at 1))<|Yo 11 rfl (fun _=>X3 rfl)<|Yo 12 rfl (fun _=>Xx (k:=((plcB x q).la.getD q.toNat 0).toNat) rfl rfl Xl X08 g a6 (by omega) (by omega))<|Yo 13 rfl (fun _=>X12 rfl X06 (m':=((plcB x q).la.getD q.toNat 0).toNat*2+1) rfl)<|Ye 14 rfl (X0 rfl X7 (X0h g Xw (Xb (d:=nZ) (by omega)) 1 rfl))<|Yo 15 rfl (fun _=>X3 rfl)<|Yo 16 rfl (fun _=>Xm rfl rfl (by omega) (by omega))<|Yo 17 rfl (fun _=>Vx (X33 rfl rfl rfl) (tm8 (by omega)))<|Yo 18 rfl (fun _=>Xx (k:=((plcB x q).la.getD q.toNat 0).toNat) rfl rfl Xl X08 g a6 (by omega) (by omega))<|Yo 19 rfl (fun _=>X12 rfl X06 (m':=((plcB x q).la.getD q.toNat 0).toNat*2+1) rfl) ?_;refine Y1 20<|Yh rfl tv0 rfl (X17 (enc:=encNd) (l:=(plcB x q).d.ns) (vs:=[vi ((((plcB x q).d.ns.getD ((plcB x q).la.getD q.toNat 0).toNat nZ).p+f) % 8)]) (x0:=((plcB x q).d.ns.getD ((plcB x q).la.getD q.toNat 0).toNat nZ)) (u:=(⟨((plcB x q).d.ns.getD ((plcB x q).la.getD q.toNat 0).toNat nZ).k,((((plcB x q).d.ns.getD ((plcB x q).la.getD q.toNat 0).toNat nZ).p+f) % 8)⟩ : Nd)) (k:=((plcB x q).la.getD q.toNat 0).toNat) (j:=1) (n1:=1) rfl rfl X09 g Xw rfl rfl rfl rfl (by decide) (Xb (d:=nZ) (by omega)) rfl) ?_;rintro _ w3 ⟨L,hg⟩
 have t:=g;have b:=b.appT t hg rfl;have i:=i.appT t hg rfl;have o:=o.appT t hg rfl;have D:=D.appT t hg rfl;have E:=tsrow E hg h
 clear t hg;clear g;have g:=L;clear L;refine Yd fun a hf=>?_;refine X2g hf (X3n rfl) ?_;exact ⟨A6,c6,A7,c7,m6,E,h,C,⟨b,g,D,i,o,(a6.trans List.length_set.symm),aB,aC⟩⟩
theorem Xrx(w0:World)(bV B0:Nat)(A0:Option Addr)(c0:Nat)(BW:Option Addr)(eW:Nat)(A1:Option Addr)(c1:Nat)(A2:Option Addr)(c2 m0 J:Nat)(x:Br)(aW:Drq w0 bV B0 A0 c0 BW eW A1 c1 A2 c2 m0 J x)(a6:B0<=w0.heap.size)(p:Int)(q:Int)(hp:0<=p/\p.toNat<J)(hq:0<=q/\q.toNat<J)(aJ:BrOk J x)(bD:x.d.ns.length<=80000000/\x.d.ws.length<=80000000) : Ret Tryz.prog 190 [(pZ9 bV),vi p,vi q] w0 (fun v w=>∃ A c B e m,TurnS (SB bV [A0,BW,A1,A2]) w0 w/\Us (SB bV [A0,BW,A1,A2]) w0 A/\Us (SB bV [A0,BW,A1,A2]) w0 B/\Drq w bV B0 A c B e A1 c1 A2 c2 m J (czB x p q)):=by
 obtain ⟨b,aX,aY,g,i,aZ,b0,b1⟩:=aW;have b9:=b.lt
 have b2:Us (SB bV [A0,BW,A1,A2]) w0 A0:=SB.us (by simp)
 have b3:Us (SB bV [A0,BW,A1,A2]) w0 BW:=SB.us (by simp)
 have aK:Us (SB bV [A0,BW,A1,A2]) w0 A1:=SB.us (by simp)
 have aL:Us (SB bV [A0,BW,A1,A2]) w0 A2:=SB.us (by simp)
 have aC:=X4b aJ p;have bA:=X4w x p;have bB:=X4b aC q;have bC:=X4w (plcB x p) q;have aM:=Xa9 (plcB (plcB x p) q).d.ws ((plcB x p).la.getD p.toNat 0) ((plcB (plcB x p) q).la.getD q.toNat 0);refine enter Tryz.func190 rfl 66 rfl rfl ?_;intro a I
 have l:TurnS (SB bV [A0,BW,A1,A2]) w0 w0:=TurnS.refl _ _
 refine Zs I fun _ b4=>?_;refine Zm rfl<|Zm rfl<|Zf (X1m (vs:=[(pZ9 bV),vi p]) rfl Xc7 (Xit _ bV B0 A0 c0 BW eW A1 c1 A2 c2 m0 J x ⟨b,aX,aY,g,i,aZ,b0,b1⟩ (Q0 a6 l.size) p hp aJ (by omega))) ?_;rintro _ w1 ⟨A6,c6,A7,c7,m6,rfl,M,N,Q,U,b5,b6,G,H,b7,aN,aO⟩;have D:=SB.lift (S:=SB bV [A0,BW,A1,A2]) (w0:=w0) (.inl (.inl rfl)) (alc b2 (alc b3 (alc aK (alc aL al0))));have N:=Us.trans N D l.size;have Q:=Us.trans Q D l.size
 have l:=tstr l M D;clear D
 clear M b;have b:=U;clear U
 clear g;have g:=G;clear G
 clear i;have i:=H;clear H;refine Za rfl<|Zx b4 fun a I _ b8=>?_;refine Zm rfl<|Zm rfl<|Zf (X1m (vs:=[(pZ9 bV),vi q]) rfl Xc7 (Xit _ bV B0 A6 c6 A7 c7 A1 c1 A2 c2 m6 J (plcB x p) ⟨b,b5,b6,g,i,b7,aN,aO⟩ (Q0 a6 l.size) q hq aC (by omega))) ?_;rintro _ w2 ⟨A9,c9,aF,aG,m9,rfl,M,L,W,U,j,h,G,H,aP,aD,aE⟩;have D:=SB.lift (S:=SB bV [A0,BW,A1,A2]) (w0:=w0) (.inl (.inl rfl)) (alc N (alc Q (alc aK (alc aL al0))));have L:=Us.trans L D l.size;have W:=Us.trans W D l.size
 have l:=tstr l M D;clear D
 clear M b;have b:=U;clear U
 clear g;have g:=G;clear G
 clear i;have i:=H;clear H;refine Za rfl<|ZX b8 fun a I _ aQ=>?_;refine Zs I fun _ aR=>?_;refine Zm rfl<|Ze (X0a rfl)<|Ze (Vd rfl X0p 0)<|Ze (Vd rfl Xn 2)<|Ze (X0 rfl X0g (b.at 2))<|Zm rfl<|Zm rfl<|Zf (Vc (Xd4 _ aF aG ((plcB (plcB x p) q).d.ws) h.rd.top ((plcB x p).la.getD p.toNat 0) ((plcB (plcB x p) q).la.getD q.toNat 0) (by omega)) X7m) ?_;rintro _ w3 ⟨rfl,E⟩;have b:=b.bw E;have g:=g.bw E;have i:=i.bw E;have j:=j.bw E;have h:=h.bw E;have l:=tsbel l E;refine Za rfl<|Zx aR fun a I _ aS=>?_;refine Zm rfl<|Ze (X5g rfl rfl)<|Zt aS fun a I=>?_
 refine Xi I rfl (fun k=>?_) (fun k=>?_)
 ·have aH:=k;have k:=Q2 k;have aI:=Y42 k;refine Zs I fun _ aT=>?_;refine Zm rfl<|Zm rfl<|Ze (X0a rfl)<|Ze (Vd rfl X0p 0)<|Ze (Vd rfl Xn 2)<|Ze (X0 rfl X0g (b.at 2))<|Zm rfl<|Zf (Vc (Xhg _ aF aG ((plcB (plcB x p) q).d.ws) h.rd.top (fdW ((plcB (plcB x p) q).d.ws) ((plcB x p).la.getD p.toNat 0) ((plcB (plcB x p) q).la.getD q.toNat 0)) (by omega) h.cap ⟨by omega,aM⟩) X8c) ?_;rintro _ w4 ⟨a7,a8,rfl,o,E⟩;have o:=o.lower l.size;have b:=b.bw E;have g:=g.bw E;have i:=i.bw E;have j:=j.bw E;have l:=tsbel l E;refine Ze (X0a rfl)<|Ze (Vd rfl X0p 0)<|Ze (Vd rfl Xn 2)<|Zo (X1a (vs:=[.slice a7 (ctW ((plcB (plcB x p) q).d.ws) (fdW ((plcB (plcB x p) q).d.ws) ((plcB x p).la.getD p.toNat 0) ((plcB (plcB x p) q).la.getD q.toNat 0)).toNat).length a8]) (l':=[vi ((plcB (plcB x p) q).d.n),.slice A9 m9 c9,.slice a7 (ctW ((plcB (plcB x p) q).d.ws) (fdW ((plcB (plcB x p) q).d.ws) ((plcB x p).la.getD p.toNat 0) ((plcB (plcB x p) q).la.getD q.toNat 0)).toNat).length a8,vi ((plcB (plcB x p) q).d.t),vi ((plcB (plcB x p) q).d.r),.slice A1 J c1,.slice A2 J c2]) rfl rfl X1k b rfl rfl rfl rfl rfl) ?_;rintro _ w5 ⟨C,hb⟩;have f:=b;have g:=g.oT C f rfl;have i:=i.oT C f rfl;have j:=j.oT C f rfl;have o:=o.oT C f rfl;have l:=tsonly l C (.inl (.inl rfl));have b:=hb;refine Zx aT fun a I _ aU=>?_;refine Zm rfl<|Ze (X0a rfl)<|Ze (Vd rfl X0p 0)<|Ze (Vd rfl X07 4)<|Ze (X0 rfl X7 (b.at 4))<|Ze (X6m rfl rfl)<|Ze (X0a rfl)<|Ze (Vd rfl X0p 0)<|Ze (Vd rfl X07 4)<|Zo (X1a (vs:=[vi (wr (((plcB (plcB x p) q).d.r)-1))]) (l':=[vi ((plcB (plcB x p) q).d.n),.slice A9 m9 c9,.slice a7 (ctW ((plcB (plcB x p) q).d.ws) (fdW ((plcB (plcB x p) q).d.ws) ((plcB x p).la.getD p.toNat 0) ((plcB (plcB x p) q).la.getD q.toNat 0)).toNat).length a8,vi ((plcB (plcB x p) q).d.t),vi (wr (((plcB (plcB x p) q).d.r)-1)),.slice A1 J c1,.slice A2 J c2]) rfl rfl X09 b rfl rfl rfl rfl rfl) ?_;rintro _ w6 ⟨C,hb⟩
  have f:=b;have g:=g.oT C f rfl;have i:=i.oT C f rfl;have j:=j.oT C f rfl;have o:=o.oT C f rfl;have l:=tsonly l C (.inl (.inl rfl));have b:=hb;refine Zt aU fun a I=>?_;refine Q6<|Xa<|X6 I (X3n rfl) ?_
  rw [aI]
  exact ⟨A9,c9,a7,a8,m9,l,L,(Us.new o),⟨b,j,(o.lower a6),g,i,aP,aD,aE⟩⟩
 have aH:=k;have k:=Q1 k;have aI:=Y3e k;refine Q7<|aQ _ _<|Zs I fun _ aV=>?_;refine Zm rfl<|Zm rfl<|Ze (X0a rfl)<|Ze (Vd rfl X0p 0)<|Ze (Vd rfl Xn 2)<|Ze (X0 rfl X0g (b.at 2))<|Zm rfl<|Zm rfl<|Zf (Vc (X91 _ aF aG ((plcB (plcB x p) q).d.ws) h.rd.top ((plcB x p).la.getD p.toNat 0) ((plcB (plcB x p) q).la.getD q.toNat 0) true (by omega) h.cap) X4t) ?_;rintro _ w7 ⟨aA,aB,rfl,u,E⟩;have u:=u.lower l.size;have b:=b.bw E;have g:=g.bw E;have i:=i.bw E;have j:=j.bw E;have l:=tsbel l E;refine Ze (X0a rfl)<|Ze (Vd rfl X0p 0)<|Ze (Vd rfl Xn 2)<|Zo (X1a (vs:=[.slice aA (jnW ((plcB (plcB x p) q).d.ws) ((plcB x p).la.getD p.toNat 0) ((plcB (plcB x p) q).la.getD q.toNat 0) true).length aB]) (l':=[vi ((plcB (plcB x p) q).d.n),.slice A9 m9 c9,.slice aA (jnW ((plcB (plcB x p) q).d.ws) ((plcB x p).la.getD p.toNat 0) ((plcB (plcB x p) q).la.getD q.toNat 0) true).length aB,vi ((plcB (plcB x p) q).d.t),vi ((plcB (plcB x p) q).d.r),.slice A1 J c1,.slice A2 J c2]) rfl rfl X1k b rfl rfl rfl rfl rfl) ?_;rintro _ w8 ⟨C,hb⟩;have f:=b;have g:=g.oT C f rfl;have i:=i.oT C f rfl;have j:=j.oT C f rfl;have u:=u.oT C f rfl;have l:=tsonly l C (.inl (.inl rfl));have b:=hb;refine Zt aV fun a I=>?_;refine Zr I<|Zm rfl<|Ze (X0a rfl)<|Ze (Vd rfl X0p 0)<|Ze (Vd rfl X07 4)<|Ze (X0 rfl X7 (b.at 4))<|Ze (X2n rfl rfl)<|Ze (X0a rfl)<|Ze (Vd rfl X0p 0)<|Ze (Vd rfl X07 4)<|Zo (X1a (vs:=[vi (wr (((plcB (plcB x p) q).d.r)+1))]) (l':=[vi ((plcB (plcB x p) q).d.n),.slice A9 m9 c9,.slice aA (jnW ((plcB (plcB x p) q).d.ws) ((plcB x p).la.getD p.toNat 0) ((plcB (plcB x p) q).la.getD q.toNat 0) true).length aB,vi ((plcB (plcB x p) q).d.t),vi (wr (((plcB (plcB x p) q).d.r)+1)),.slice A1 J c1,.slice A2 J c2]) rfl rfl X09 b rfl rfl rfl rfl rfl) ?_;rintro _ w9 ⟨C,hb⟩
 have f:=b;have g:=g.oT C f rfl;have i:=i.oT C f rfl;have j:=j.oT C f rfl;have u:=u.oT C f rfl;have l:=tsonly l C (.inl (.inl rfl));have b:=hb;refine Zn fun a I=>?_;refine X2g I (X3n rfl) ?_
 rw [aI]
 exact ⟨A9,c9,aA,aB,m9,l,L,(Us.new u),⟨b,j,(u.lower a6),g,i,aP,aD,aE⟩⟩
theorem Xy9(w0:World)(bV B0:Nat)(A0:Option Addr)(c0:Nat)(BW:Option Addr)(eW:Nat)(A1:Option Addr)(c1:Nat)(A2:Option Addr)(c2 m0 n0:Nat)(x:Br)(fE:Drq w0 bV B0 A0 c0 BW eW A1 c1 A2 c2 m0 n0 x)(aA:B0<=w0.heap.size)(g:Gt)(aE:BrOk n0 x)(iK:x.d.ns.length<=70000000/\x.d.ws.length<=70000000)(U:gOk (n0:Int) g=true) : Ret Tryz.prog 136 [(pZ9 bV),.agg #[vi g.k,vi g.a,vi g.b]] w0 (fun v w=>∃ A c B e m,TurnS (SB bV [A0,BW,A1,A2]) w0 w/\Us (SB bV [A0,BW,A1,A2]) w0 A/\Us (SB bV [A0,BW,A1,A2]) w0 B/\Drq w bV B0 A c B e A1 c1 A2 c2 m n0 (gtB x g)):=by
 obtain ⟨i,H,I,o,p,aF,aB,aC⟩:=fE;have iG:=i.lt
 have aG:Us (SB bV [A0,BW,A1,A2]) w0 A0:=SB.us (by simp)
 have aH:Us (SB bV [A0,BW,A1,A2]) w0 BW:=SB.us (by simp)
 have W:Us (SB bV [A0,BW,A1,A2]) w0 A1:=SB.us (by simp)
 have a6:Us (SB bV [A0,BW,A1,A2]) w0 A2:=SB.us (by simp)
 have aD:=Xdt U;have bK:=Xdh U;have iM:=Xe2 U
 have bF:x.d.ns.length<=80000000/\x.d.ws.length<=80000000:=by omega
 have o1:=X5f aE g.a 4
 have l1:=X7d x g.a 4
 have iH:=aE.la;have iI:=aE.hd;refine enter Tryz.func136 rfl 164 rfl rfl ?_;intro a M
 have E:TurnS (SB bV [A0,BW,A1,A2]) w0 w0:=TurnS.refl _ _
 refine Zs M fun _ fF=>?_;refine Zf (X0n (zs:=[vi g.k,vi g.a,vi g.b]) rfl rfl) ?_;rintro _ w1 ⟨b6,rfl,fG,N,f⟩;have iJ:=Q0 E.size fG;have i:=i.bw N;have H:=H.bw N;have I:=I.bw N;have o:=o.bw N;have p:=p.bw N;have E:=tsbel E N;refine Zx fF fun a M _ fH=>?_;refine Ze (Vd rfl X7i 0)<|Ze (X0 rfl X7 (f.at 0))<|Zt fH fun a M=>?_;refine Q8<|Zs M fun _ fI=>?_;refine Ze (X0m rfl rfl)<|Za rfl<|Zt fI fun a M=>?_
 refine Xi M rfl (fun bG=>?_) (fun bG=>?_)
 ·have dG:=bG;have a7:=Y4m (x:=x) bG;refine Zr M<|Zm rfl<|Ze (Vd rfl X1j 1)<|Ze (X0 rfl X7 (f.at 1))<|Zf (X1m (vs:=[(pZ9 bV),vi g.a]) rfl X4v (X99 _ bV B0 A0 c0 BW eW A1 c1 A2 c2 m0 n0 x ⟨i,H,I,o,p,aF,aB,aC⟩ (Q0 aA E.size) g.a aD)) ?_;rintro _ w2 ⟨fJ,fK,fL,fM,fN,G,aO,aP,L,dH,dI,C,D,dJ,cC,cD⟩;have f:=f.tu G i rfl (alc (nrow H f rfl) (alc (nrow I f rfl) (alc (nrow o f rfl) (alc (nrow p f rfl) al0))));have q:=SB.lift (S:=SB bV [A0,BW,A1,A2]) (w0:=w0) (.inl (.inl rfl)) (alc aG (alc aH (alc W (alc a6 al0))));have aO:=Us.trans aO q E.size;have aP:=Us.trans aP q E.size
  have E:=tstr E G q;clear q
  clear G i;have i:=L;clear L
  clear o;have o:=C;clear C
  clear p;have p:=D;clear D;refine Zn fun a M=>?_;refine Xc<|X2g M (X3n rfl) ?_
  rw [a7]
  exact ⟨fJ,fK,fL,fM,fN,E,aO,aP,⟨i,dH,dI,o,p,dJ,cC,cD⟩⟩
 have dG:=bG
 have g1:=bG
 refine Zs M fun _ dK=>?_;refine Ze (X0m rfl rfl)<|Za rfl<|Zt dK fun a M=>?_
 refine Xi M rfl (fun aI=>?_) (fun aI=>?_)
 ·have cE:=aI;have a7:=Y3f (x:=x) g1 aI;refine Zs M fun _ dL=>?_;refine Zm rfl<|Ze (Vd rfl X1j 1)<|Ze (X0 rfl X7 (f.at 1))<|Zf (X1m (vs:=[(pZ9 bV),vi g.a]) rfl X4v (X99 _ bV B0 A0 c0 BW eW A1 c1 A2 c2 m0 n0 x ⟨i,H,I,o,p,aF,aB,aC⟩ (Q0 aA E.size) g.a aD)) ?_;rintro _ w3 ⟨fO,fP,fQ,fR,fS,G,aQ,aR,L,bM,bN,C,D,dM,cF,cG⟩;have f:=f.tu G i rfl (alc (nrow H f rfl) (alc (nrow I f rfl) (alc (nrow o f rfl) (alc (nrow p f rfl) al0))));have q:=SB.lift (S:=SB bV [A0,BW,A1,A2]) (w0:=w0) (.inl (.inl rfl)) (alc aG (alc aH (alc W (alc a6 al0))));have aQ:=Us.trans aQ q E.size;have aR:=Us.trans aR q E.size
  have E:=tstr E G q;clear q
  clear G i;have i:=L;clear L
  clear o;have o:=C;clear C
  clear p;have p:=D;clear D;refine Zx dL fun a M _ dN=>?_;refine Zm rfl<|Ze (Vd rfl X1j 1)<|Ze (X0 rfl X7 (f.at 1))<|Zf (X1m (vs:=[(pZ9 bV),vi g.a,vi 4]) rfl X8e (Xhe _ bV B0 fO fP fQ fR A1 c1 A2 c2 fS n0 (flpB x g.a) ⟨i,bM,bN,o,p,dM,cF,cG⟩ (Q0 aA E.size) g.a 4 aD (X2a aE g.a) bF ⟨by decide,by decide⟩)) ?_;rintro _ w4 ⟨fT,fU,fV,fW,fX,G,aS,aT,L,bO,bP,C,D,dO,cH,cI⟩;have f:=f.tu G i rfl (alc (nrow bM f rfl) (alc (nrow bN f rfl) (alc (nrow o f rfl) (alc (nrow p f rfl) al0))));have q:=SB.lift (S:=SB bV [A0,BW,A1,A2]) (w0:=w0) (.inl (.inl rfl)) (alc aQ (alc aR (alc W (alc a6 al0))));have aS:=Us.trans aS q E.size;have aT:=Us.trans aT q E.size
  have E:=tstr E G q;clear q
  clear G i;have i:=L;clear L
  clear o;have o:=C;clear C
  clear p;have p:=D;clear D;refine Zt dN fun a M=>?_;refine Zr M<|Zm rfl<|Ze (Vd rfl X1j 1)<|Ze (X0 rfl X7 (f.at 1))<|Zf (X1m (vs:=[(pZ9 bV),vi g.a]) rfl X4v (X99 _ bV B0 fT fU fV fW A1 c1 A2 c2 fX n0 (trnB (flpB x g.a) g.a 4) ⟨i,bO,bP,o,p,dO,cH,cI⟩ (Q0 aA E.size) g.a aD)) ?_;rintro _ w5 ⟨fY,fZ,g5,g6,g7,G,aU,aV,L,dP,dQ,C,D,dR,cJ,cK⟩;have f:=f.tu G i rfl (alc (nrow bO f rfl) (alc (nrow bP f rfl) (alc (nrow o f rfl) (alc (nrow p f rfl) al0))));have q:=SB.lift (S:=SB bV [A0,BW,A1,A2]) (w0:=w0) (.inl (.inl rfl)) (alc aS (alc aT (alc W (alc a6 al0))));have aU:=Us.trans aU q E.size;have aV:=Us.trans aV q E.size
  have E:=tstr E G q;clear q
  clear G i;have i:=L;clear L
  clear o;have o:=C;clear C
  clear p;have p:=D;clear D;refine Zn fun a M=>?_;refine Xc<|X2g M (X3n rfl) ?_
  rw [a7]
  exact ⟨fY,fZ,g5,g6,g7,E,aU,aV,⟨i,dP,dQ,o,p,dR,cJ,cK⟩⟩
 have cE:=aI
 have g2:=aI
 refine Zs M fun _ dS=>?_;refine Ze (X0m rfl rfl)<|Za rfl<|Zt dS fun a M=>?_
 refine Xi M rfl (fun aJ=>?_) (fun aJ=>?_)
 ·have cL:=aJ;have a7:=Y3r (x:=x) g1 g2 aJ;refine Zs M fun _ dT=>?_;refine Zm rfl<|Ze (Vd rfl X1j 1)<|Ze (X0 rfl X7 (f.at 1))<|Zf (X1m (vs:=[(pZ9 bV),vi g.a,vi 4]) rfl X8e (Xhe _ bV B0 A0 c0 BW eW A1 c1 A2 c2 m0 n0 x ⟨i,H,I,o,p,aF,aB,aC⟩ (Q0 aA E.size) g.a 4 aD aE bF ⟨by decide,by decide⟩)) ?_;rintro _ w6 ⟨g8,gA,gB,gC,gD,G,aW,aX,L,bQ,bR,C,D,dU,cM,cN⟩;have f:=f.tu G i rfl (alc (nrow H f rfl) (alc (nrow I f rfl) (alc (nrow o f rfl) (alc (nrow p f rfl) al0))));have q:=SB.lift (S:=SB bV [A0,BW,A1,A2]) (w0:=w0) (.inl (.inl rfl)) (alc aG (alc aH (alc W (alc a6 al0))));have aW:=Us.trans aW q E.size;have aX:=Us.trans aX q E.size
  have E:=tstr E G q;clear q
  clear G i;have i:=L;clear L
  clear o;have o:=C;clear C
  clear p;have p:=D;clear D;refine Zx dT fun a M _ dW=>?_;refine Zm rfl<|Ze (Vd rfl X1j 1)<|Ze (X0 rfl X7 (f.at 1))<|Zf (X1m (vs:=[(pZ9 bV),vi g.a]) rfl X4v (X99 _ bV B0 g8 gA gB gC A1 c1 A2 c2 gD n0 (trnB x g.a 4) ⟨i,bQ,bR,o,p,dU,cM,cN⟩ (Q0 aA E.size) g.a aD)) ?_;rintro _ w7 ⟨gE,gF,gG,gH,gI,G,aY,aZ,L,bS,bT,C,D,dX,cO,cP⟩;have f:=f.tu G i rfl (alc (nrow bQ f rfl) (alc (nrow bR f rfl) (alc (nrow o f rfl) (alc (nrow p f rfl) al0))));have q:=SB.lift (S:=SB bV [A0,BW,A1,A2]) (w0:=w0) (.inl (.inl rfl)) (alc aW (alc aX (alc W (alc a6 al0))));have aY:=Us.trans aY q E.size;have aZ:=Us.trans aZ q E.size
  have E:=tstr E G q;clear q
  clear G i;have i:=L;clear L
  clear o;have o:=C;clear C
  clear p;have p:=D;clear D;refine Zx dW fun a M _ dY=>?_;refine Zm rfl<|Ze (Vd rfl X1j 1)<|Ze (X0 rfl X7 (f.at 1))<|Zf (X1m (vs:=[(pZ9 bV),vi g.a,vi 4]) rfl X8e (Xhe _ bV B0 gE gF gG gH A1 c1 A2 c2 gI n0 (flpB (trnB x g.a 4) g.a) ⟨i,bS,bT,o,p,dX,cO,cP⟩ (Q0 aA E.size) g.a 4 aD (X2a o1 g.a) (show (trnB x g.a 4).d.ns.length<=_/\(trnB x g.a 4).d.ws.length<=_ by omega) ⟨by decide,by decide⟩)) ?_;rintro _ w8 ⟨gJ,gK,gL,gM,gN,G,b0,b1,L,bU,bW,C,D,eA,cQ,cR⟩;have f:=f.tu G i rfl (alc (nrow bS f rfl) (alc (nrow bT f rfl) (alc (nrow o f rfl) (alc (nrow p f rfl) al0))));have q:=SB.lift (S:=SB bV [A0,BW,A1,A2]) (w0:=w0) (.inl (.inl rfl)) (alc aY (alc aZ (alc W (alc a6 al0))));have b0:=Us.trans b0 q E.size;have b1:=Us.trans b1 q E.size
  have E:=tstr E G q;clear q
  clear G i;have i:=L;clear L
  clear o;have o:=C;clear C
  clear p;have p:=D;clear D;refine Zx dY fun a M _ eB=>?_;refine Zm rfl<|Ze (Vd rfl X1j 1)<|Ze (X0 rfl X7 (f.at 1))<|Zf (X1m (vs:=[(pZ9 bV),vi g.a]) rfl X4v (X99 _ bV B0 gJ gK gL gM A1 c1 A2 c2 gN n0 (trnB (flpB (trnB x g.a 4) g.a) g.a 4) ⟨i,bU,bW,o,p,eA,cQ,cR⟩ (Q0 aA E.size) g.a aD)) ?_;rintro _ w9 ⟨eC,eD,eE,eF,eG,G,b2,b3,L,bH,bJ,C,D,eH,cS,cT⟩;have f:=f.tu G i rfl (alc (nrow bU f rfl) (alc (nrow bW f rfl) (alc (nrow o f rfl) (alc (nrow p f rfl) al0))));have q:=SB.lift (S:=SB bV [A0,BW,A1,A2]) (w0:=w0) (.inl (.inl rfl)) (alc b0 (alc b1 (alc W (alc a6 al0))));have b2:=Us.trans b2 q E.size;have b3:=Us.trans b3 q E.size
  have E:=tstr E G q;clear q
  clear G i;have i:=L;clear L
  clear o;have o:=C;clear C
  clear p;have p:=D;clear D;refine Zt eB fun a M=>?_;refine Zr M<|Zm rfl<|Ze (X0a rfl)<|Ze (Vd rfl X0p 0)<|Ze (Vd rfl X0u 3)<|Ze (X0 rfl X7 (i.at 3))<|Ze (X2n rfl rfl)<|Ze (X0a rfl)<|Ze (Vd rfl X0p 0)<|Ze (Vd rfl X0u 3)<|Zo (X1a (vs:=[vi (wr (((flpB (trnB (flpB (trnB x g.a 4) g.a) g.a 4) g.a).d.t)+2))]) (l':=[vi ((flpB (trnB (flpB (trnB x g.a 4) g.a) g.a 4) g.a).d.n),.slice eC eG eD,.slice eE ((flpB (trnB (flpB (trnB x g.a 4) g.a) g.a 4) g.a).d.ws).length eF,vi (wr (((flpB (trnB (flpB (trnB x g.a 4) g.a) g.a 4) g.a).d.t)+2)),vi ((flpB (trnB (flpB (trnB x g.a 4) g.a) g.a 4) g.a).d.r),.slice A1 n0 c1,.slice A2 n0 c2]) rfl rfl X09 i rfl rfl rfl rfl rfl) ?_;rintro _ iN ⟨ho,hb⟩;have a8:=i;have o:=o.oT ho a8 rfl;have p:=p.oT ho a8 rfl;have bH:=bH.oT ho a8 rfl;have bJ:=bJ.oT ho a8 rfl;have E:=tsonly E ho (.inl (.inl rfl));have i:=hb;refine Zn fun a M=>?_;refine Xc<|X2g M (X3n rfl) ?_
  rw [a7]
  exact ⟨eC,eD,eE,eF,eG,E,b2,b3,⟨i,bH,bJ,o,p,eH,cS,cT⟩⟩
 have cL:=aJ
 have g3:=aJ
 refine Zs M fun _ eI=>?_;refine Ze (X0m rfl rfl)<|Za rfl<|Zt eI fun a M=>?_
 refine Xi M rfl (fun aK=>?_) (fun aK=>?_)
 ·have cU:=aK;have a7:=Y3i (x:=x) g1 g2 g3 aK;refine Zs M fun _ eJ=>?_;refine Zm rfl<|Ze (Vd rfl X30 2)<|Ze (X0 rfl X7 (f.at 2))<|Zf (X1m (vs:=[(pZ9 bV),vi g.b]) rfl X4v (X99 _ bV B0 A0 c0 BW eW A1 c1 A2 c2 m0 n0 x ⟨i,H,I,o,p,aF,aB,aC⟩ (Q0 aA E.size) g.b bK)) ?_;rintro _ iO ⟨gO,gQ,gR,gS,gT,G,b4,b5,L,bX,bY,C,D,eK,cV,cW⟩;have f:=f.tu G i rfl (alc (nrow H f rfl) (alc (nrow I f rfl) (alc (nrow o f rfl) (alc (nrow p f rfl) al0))));have q:=SB.lift (S:=SB bV [A0,BW,A1,A2]) (w0:=w0) (.inl (.inl rfl)) (alc aG (alc aH (alc W (alc a6 al0))));have b4:=Us.trans b4 q E.size;have b5:=Us.trans b5 q E.size
  have E:=tstr E G q;clear q
  clear G i;have i:=L;clear L
  clear o;have o:=C;clear C
  clear p;have p:=D;clear D;refine Zx eJ fun a M _ eL=>?_;refine Zm rfl<|Ze (Vd rfl X1j 1)<|Ze (X0 rfl X7 (f.at 1))<|Ze (Vd rfl X30 2)<|Ze (X0 rfl X7 (f.at 2))<|Zf (X1m (vs:=[(pZ9 bV),vi g.a,vi g.b]) rfl Xfw (Xrx _ bV B0 gO gQ gR gS A1 c1 A2 c2 gT n0 (flpB x g.b) ⟨i,bX,bY,o,p,eK,cV,cW⟩ (Q0 aA E.size) g.a g.b aD bK (X2a aE g.b) bF)) ?_;rintro _ iP ⟨gU,gX,gY,gZ,hJ,G,b7,b8,L,bZ,c5,C,D,eM,cX,cY⟩;have f:=f.tu G i rfl (alc (nrow bX f rfl) (alc (nrow bY f rfl) (alc (nrow o f rfl) (alc (nrow p f rfl) al0))));have q:=SB.lift (S:=SB bV [A0,BW,A1,A2]) (w0:=w0) (.inl (.inl rfl)) (alc b4 (alc b5 (alc W (alc a6 al0))));have b7:=Us.trans b7 q E.size;have b8:=Us.trans b8 q E.size
  have E:=tstr E G q;clear q
  clear G i;have i:=L;clear L
  clear o;have o:=C;clear C
  clear p;have p:=D;clear D;refine Zt eL fun a M=>?_;refine Zr M<|Zm rfl<|Ze (Vd rfl X30 2)<|Ze (X0 rfl X7 (f.at 2))<|Zf (X1m (vs:=[(pZ9 bV),vi g.b]) rfl X4v (X99 _ bV B0 gU gX gY gZ A1 c1 A2 c2 hJ n0 (czB (flpB x g.b) g.a g.b) ⟨i,bZ,c5,o,p,eM,cX,cY⟩ (Q0 aA E.size) g.b bK)) ?_;rintro _ iQ ⟨hY,i0,i1,i2,i4,G,b9,bA,L,eO,eP,C,D,eQ,cZ,d5⟩;have f:=f.tu G i rfl (alc (nrow bZ f rfl) (alc (nrow c5 f rfl) (alc (nrow o f rfl) (alc (nrow p f rfl) al0))));have q:=SB.lift (S:=SB bV [A0,BW,A1,A2]) (w0:=w0) (.inl (.inl rfl)) (alc b7 (alc b8 (alc W (alc a6 al0))));have b9:=Us.trans b9 q E.size;have bA:=Us.trans bA q E.size
  have E:=tstr E G q;clear q
  clear G i;have i:=L;clear L
  clear o;have o:=C;clear C
  clear p;have p:=D;clear D;refine Zn fun a M=>?_;refine Xc<|X2g M (X3n rfl) ?_
  rw [a7]
  exact ⟨hY,i0,i1,i2,i4,E,b9,bA,⟨i,eO,eP,o,p,eQ,cZ,d5⟩⟩
 have cU:=aK
 have g9:=aK
 refine Zs M fun _ eR=>?_;refine Ze (X0m rfl rfl)<|Za rfl<|Zt eR fun a M=>?_
 refine Xi M rfl (fun aL=>?_) (fun aL=>?_)
 ·have d6:=aL;have a7:=Xzm (x:=x) g1 g2 g3 g9 aL;refine Zr M<|Zm rfl<|Ze (Vd rfl X1j 1)<|Ze (X0 rfl X7 (f.at 1))<|Ze (Vd rfl X30 2)<|Ze (X0 rfl X7 (f.at 2))<|Zf (X1m (vs:=[(pZ9 bV),vi g.a,vi g.b]) rfl Xfw (Xrx _ bV B0 A0 c0 BW eW A1 c1 A2 c2 m0 n0 x ⟨i,H,I,o,p,aF,aB,aC⟩ (Q0 aA E.size) g.a g.b aD bK aE bF)) ?_;rintro _ iS ⟨i5,i6,i7,i8,i9,G,bB,bC,L,eS,eT,C,D,eU,d7,d8⟩;have f:=f.tu G i rfl (alc (nrow H f rfl) (alc (nrow I f rfl) (alc (nrow o f rfl) (alc (nrow p f rfl) al0))));have q:=SB.lift (S:=SB bV [A0,BW,A1,A2]) (w0:=w0) (.inl (.inl rfl)) (alc aG (alc aH (alc W (alc a6 al0))));have bB:=Us.trans bB q E.size;have bC:=Us.trans bC q E.size
  have E:=tstr E G q;clear q
  clear G i;have i:=L;clear L
  clear o;have o:=C;clear C
  clear p;have p:=D;clear D;refine Zn fun a M=>?_;refine Xc<|X2g M (X3n rfl) ?_
  rw [a7]
  exact ⟨i5,i6,i7,i8,i9,E,bB,bC,⟨i,eS,eT,o,p,eU,d7,d8⟩⟩
 have d6:=aL
 have bL:=aL
 refine Zs M fun _ eV=>?_;refine Ze (X0m rfl rfl)<|Za rfl<|Zt eV fun a M=>?_
 refine Xi M rfl (fun aM=>?_) (fun aM=>?_)
 ·have dA:=aM;have a7:=Xy2 (x:=x) g1 g2 g3 g9 bL aM;refine Q5 fun _ eX=>?_;refine X00 none (fun _=>false) mixed ?_;intro iT N;have i:=i.bw N;have f:=f.bw N;have H:=H.bw N;have I:=I.bw N;have o:=o.bw N;have p:=p.bw N;have E:=tsbel E N;refine Yb M<|Yo 0 rfl (fun _=>X3 rfl)<|Yo 1 rfl (fun _=>X0a rfl)<|Yo 2 rfl (fun _=>Vd rfl X25 5)<|Ye 3 rfl (X0 rfl X3z (i.at 5))<|Yo 4 rfl (fun _=>Vd rfl X1j 1)<|Ye 5 rfl (X0 rfl X7 (f.at 1))<|Yo 6 rfl (fun _=>Xx (k:=g.a.toNat) rfl rfl Xj X09 o aB (by omega) (by first|omega|(rw [List.length_set];omega)))<|Ye 7 rfl (X0 rfl X7 (X0h o X9 (Xb (d:=(0:Int)) (by first|omega|(rw [List.length_set];omega))) 0 rfl))<|Yo 8 rfl (fun _=>X3 rfl)<|Yo 9 rfl (fun _=>X0a rfl) ?_;refine Yo 10 rfl (fun _=>Vd rfl X2j 6)<|Ye 11 rfl (X0 rfl X56 (i.at 6))<|Yo 12 rfl (fun _=>Vd rfl X1j 1)<|Ye 13 rfl (X0 rfl X7 (f.at 1))<|Yo 14 rfl (fun _=>Xx (k:=g.a.toNat) rfl rfl X4c X6s p aC (by omega) (by first|omega|(rw [List.length_set];omega)))<|Ye 15 rfl (X0 rfl X6t (X0h p X2f (Xb (d:=false) (by first|omega|(rw [List.length_set];omega))) 0 rfl))<|Yo 16 rfl (fun _=>Xr rfl)<|Yo 17 rfl (fun _=>Xr rfl) ?_;refine Yd fun a M=>?_;refine eX _ _<|Q5 fun _ eY=>?_;refine X00 none (fun j=>[15].contains j) mixed ?_;intro iU N;have i:=i.bw N;have f:=f.bw N;have H:=H.bw N;have I:=I.bw N;have o:=o.bw N;have p:=p.bw N;have E:=tsbel E N;refine Yb M<|Yo 0 rfl (fun _=>X3 rfl)<|Yo 1 rfl (fun _=>X0a rfl)<|Yo 2 rfl (fun _=>Vd rfl X25 5)<|Ye 3 rfl (X0 rfl X3z (i.at 5))<|Yo 4 rfl (fun _=>Vd rfl X1j 1)<|Ye 5 rfl (X0 rfl X7 (f.at 1))<|Yo 6 rfl (fun _=>X3 rfl)<|Yo 7 rfl (fun _=>X0a rfl)<|Yo 8 rfl (fun _=>Vd rfl X25 5)<|Ye 9 rfl (X0 rfl X3z (i.at 5)) ?_
  refine Yo 10 rfl (fun _=>Vd rfl X30 2)<|Ye 11 rfl (X0 rfl X7 (f.at 2))<|Yo 12 rfl (fun _=>Xx (k:=g.b.toNat) rfl rfl Xj X09 o aB (by omega) (by first|omega|(rw [List.length_set];omega)))<|Ye 13 rfl (X0 rfl X7 (X0h o X9 (Xb (d:=(0:Int)) (by first|omega|(rw [List.length_set];omega))) 0 rfl))<|Yo 14 rfl (fun _=>Xx (k:=g.a.toNat) rfl rfl Xj X09 o aB (by omega) (by first|omega|(rw [List.length_set];omega)))<|Y1 15 ?_;refine Yh rfl tv0 rfl (X17 (enc:=encI) (l:=x.la) (vs:=[vi (x.la.getD g.b.toNat 0)]) (x0:=(x.la.getD g.a.toNat 0)) (u:=(x.la.getD g.b.toNat 0)) (k:=g.a.toNat) (j:=0) (n1:=1) rfl rfl X09 o X9 rfl rfl rfl rfl (by decide) (Xb (d:=(0:Int)) (by first|omega|(rw [List.length_set];omega))) rfl) ?_;rintro _ iV ⟨Q,U⟩;have J:=o;have i:=i.appT J U rfl;have f:=f.appT J U rfl;have H:=H.appT J U rfl;have I:=I.appT J U rfl;have p:=p.appT J U rfl;have E:=tsrow E U W
  clear J U;clear o;have o:=Q;clear Q;refine Yd fun a M=>?_;refine eY _ _<|Q5 fun _ eZ=>?_;refine X00 none (fun j=>[15].contains j) mixed ?_;intro iW N;have i:=i.bw N;have f:=f.bw N;have H:=H.bw N;have I:=I.bw N;have p:=p.bw N;have o:=o.bw N;have E:=tsbel E N;refine Yb M<|Yo 0 rfl (fun _=>X3 rfl)<|Yo 1 rfl (fun _=>X0a rfl)<|Yo 2 rfl (fun _=>Vd rfl X2j 6)<|Ye 3 rfl (X0 rfl X56 (i.at 6))<|Yo 4 rfl (fun _=>Vd rfl X1j 1)<|Ye 5 rfl (X0 rfl X7 (f.at 1))<|Yo 6 rfl (fun _=>X3 rfl)<|Yo 7 rfl (fun _=>X0a rfl)<|Yo 8 rfl (fun _=>Vd rfl X2j 6)<|Ye 9 rfl (X0 rfl X56 (i.at 6)) ?_;refine Yo 10 rfl (fun _=>Vd rfl X30 2)<|Ye 11 rfl (X0 rfl X7 (f.at 2))<|Yo 12 rfl (fun _=>Xx (k:=g.b.toNat) rfl rfl X4c X6s p aC (by omega) (by first|omega|(rw [List.length_set];omega)))<|Ye 13 rfl (X0 rfl X6t (X0h p X2f (Xb (d:=false) (by first|omega|(rw [List.length_set];omega))) 0 rfl))<|Yo 14 rfl (fun _=>Xx (k:=g.a.toNat) rfl rfl X4c X6s p aC (by omega) (by first|omega|(rw [List.length_set];omega)))<|Y1 15 ?_;refine Yh rfl tv0 rfl (X17 (enc:=encB) (l:=x.hd) (vs:=[.bool (x.hd.getD g.b.toNat false)]) (x0:=(x.hd.getD g.a.toNat false)) (u:=(x.hd.getD g.b.toNat false)) (k:=g.a.toNat) (j:=0) (n1:=1) rfl rfl X6s p X2f rfl rfl rfl rfl (by decide) (Xb (d:=false) (by first|omega|(rw [List.length_set];omega))) rfl) ?_;rintro _ iX ⟨Q,U⟩;have J:=p;have i:=i.appT J U rfl;have f:=f.appT J U rfl;have H:=H.appT J U rfl;have I:=I.appT J U rfl;have o:=o.appT J U rfl;have E:=tsrow E U a6
  clear J U;clear p;have p:=Q;clear Q;refine Yd fun a M=>?_;refine eZ _ _<|Q5 fun _ f0=>?_;refine X00 none (fun j=>[8].contains j) mixed ?_;intro iY N;have i:=i.bw N;have f:=f.bw N;have H:=H.bw N;have I:=I.bw N;have o:=o.bw N;have p:=p.bw N;have E:=tsbel E N;refine Yb M<|Yo 0 rfl (fun _=>X3 rfl)<|Yo 1 rfl (fun _=>X0a rfl)<|Yo 2 rfl (fun _=>Vd rfl X25 5)<|Ye 3 rfl (X0 rfl X3z (i.at 5))<|Yo 4 rfl (fun _=>Vd rfl X30 2)<|Ye 5 rfl (X0 rfl X7 (f.at 2))<|Yo 6 rfl (fun _=>X3 rfl)<|Yo 7 rfl (fun _=>Xx (k:=g.b.toNat) rfl rfl Xj X09 o (aB.trans List.length_set.symm) (by omega) (by first|omega|(rw [List.length_set];omega)))<|Y1 8 ?_;refine Yh rfl tv0 rfl (X17 (enc:=encI) (l:=(x.la.set g.a.toNat (x.la.getD g.b.toNat 0))) (vs:=[vi (x.la.getD g.a.toNat 0)]) (x0:=((x.la.set g.a.toNat (x.la.getD g.b.toNat 0)).getD g.b.toNat 0)) (u:=(x.la.getD g.a.toNat 0)) (k:=g.b.toNat) (j:=0) (n1:=1) rfl rfl X09 o X9 rfl rfl rfl rfl (by decide) (Xb (d:=(0:Int)) (by first|omega|(rw [List.length_set];omega))) rfl) ?_;rintro _ iZ ⟨Q,U⟩;have J:=o;have i:=i.appT J U rfl;have f:=f.appT J U rfl;have H:=H.appT J U rfl;have I:=I.appT J U rfl;have p:=p.appT J U rfl;have E:=tsrow E U W
  clear J U;clear o;have o:=Q;clear Q;refine Yd fun a M=>?_;refine f0 _ _<|X00 none (fun j=>[8].contains j) mixed ?_;intro j0 N;have i:=i.bw N;have f:=f.bw N;have H:=H.bw N;have I:=I.bw N;have p:=p.bw N;have o:=o.bw N;have E:=tsbel E N;refine Yb M<|Yo 0 rfl (fun _=>X3 rfl)<|Yo 1 rfl (fun _=>X0a rfl)<|Yo 2 rfl (fun _=>Vd rfl X2j 6)<|Ye 3 rfl (X0 rfl X56 (i.at 6))<|Yo 4 rfl (fun _=>Vd rfl X30 2)<|Ye 5 rfl (X0 rfl X7 (f.at 2))<|Yo 6 rfl (fun _=>X3 rfl)<|Yo 7 rfl (fun _=>Xx (k:=g.b.toNat) rfl rfl X4c X6s p (aC.trans List.length_set.symm) (by omega) (by first|omega|(rw [List.length_set];omega)))<|Y1 8 ?_;refine Yh rfl tv0 rfl (X17 (enc:=encB) (l:=(x.hd.set g.a.toNat (x.hd.getD g.b.toNat false))) (vs:=[.bool (x.hd.getD g.a.toNat false)]) (x0:=((x.hd.set g.a.toNat (x.hd.getD g.b.toNat false)).getD g.b.toNat false)) (u:=(x.hd.getD g.a.toNat false)) (k:=g.b.toNat) (j:=0) (n1:=1) rfl rfl X6s p X2f rfl rfl rfl rfl (by decide) (Xb (d:=false) (by first|omega|(rw [List.length_set];omega))) rfl) ?_;rintro _ j1 ⟨Q,U⟩;have J:=p;have i:=i.appT J U rfl;have H:=H.appT J U rfl;have I:=I.appT J U rfl;have o:=o.appT J U rfl;have E:=tsrow E U a6
  clear J U;clear p;have p:=Q;clear Q;refine Yd fun a M=>?_;refine Xc<|X2g M (X3n rfl) ?_
  rw [a7]
  exact ⟨A0,c0,BW,eW,m0,E,aG,aH,⟨i,H,I,o,p,aF,((aB.trans List.length_set.symm).trans List.length_set.symm),((aC.trans List.length_set.symm).trans List.length_set.symm)⟩⟩
 have dA:=aM
 have dB:=aM
 refine Zs M fun _ f3=>?_;refine Ze (X0m rfl rfl)<|Za rfl<|Zt f3 fun a M=>?_
 refine Xi M rfl (fun aN=>?_) (fun aN=>?_)
 ·have dC:=aN;have a7:=Y1l (x:=x) g1 g2 g3 g9 bL dB aN;refine Zr M<|Zm rfl<|Ze (X0a rfl)<|Ze (Vd rfl X0p 0)<|Ze (Vd rfl X0u 3)<|Ze (X0 rfl X7 (i.at 3))<|Ze (X2n rfl rfl)<|Ze (X0a rfl)<|Ze (Vd rfl X0p 0)<|Ze (Vd rfl X0u 3)<|Zo (X1a (vs:=[vi (wr (x.d.t+1))]) (l':=[vi x.d.n,.slice A0 m0 c0,.slice BW x.d.ws.length eW,vi (wr (x.d.t+1)),vi x.d.r,.slice A1 n0 c1,.slice A2 n0 c2]) rfl rfl X09 i rfl rfl rfl rfl rfl) ?_;rintro _ j3 ⟨ho,hb⟩;have a8:=i;have H:=H.oT ho a8 rfl;have I:=I.oT ho a8 rfl;have o:=o.oT ho a8 rfl;have p:=p.oT ho a8 rfl;have E:=tsonly E ho (.inl (.inl rfl));have i:=hb;refine Zn fun a M=>?_;refine Xc<|X2g M (X3n rfl) ?_
  rw [a7]
  exact ⟨A0,c0,BW,eW,m0,E,aG,aH,⟨i,H,I,o,p,aF,aB,aC⟩⟩
 have dC:=aN
 have f5:=aN
 have a7:=Y39 (x:=x) g1 g2 g3 g9 bL dB f5
 have f7:4<=g.k/\g.k<=8:=by simp only [beq_eq_false_iff_ne] at g1 g2 g3 g9 bL dB f5;omega
 have f8:=Xuv f7;refine X00 none (fun j=>[9].contains j) mixed ?_;intro j4 N;have i:=i.bw N;have f:=f.bw N;have H:=H.bw N;have I:=I.bw N;have o:=o.bw N;have p:=p.bw N;have E:=tsbel E N;refine Yb M<|Yo 0 rfl (fun _=>X3 rfl)<|Yo 1 rfl (fun _=>Vd rfl X1j 1)<|Ye 2 rfl (X0 rfl X7 (f.at 1))<|Yo 4 rfl (fun _=>Vd rfl X7i 0)<|Ye 5 rfl (X0 rfl X7 (f.at 0))<|Yo 6 rfl (fun _=>X11 rfl rfl (by omega) (by omega))<|Y1 3 ?_;refine Yk rfl tv0 (Xs (k:=5) (vs:=[vi 4,vi 2,vi 6,vi 1,vi 7]) (zs:=[vi 4,vi 2,vi 6,vi 1,vi 7]) rfl Xj X1h rfl rfl) (fun _ _ ⟨_,_,_,h,_⟩=>h) ?_;rintro _ j5 ⟨j6,rfl,cA,N,cB⟩;have iA:=Q0 E.size cA;have f9:=o.away cA;have i:=i.bw N;have f:=f.bw N;have H:=H.bw N;have I:=I.bw N;have o:=o.bw N;have p:=p.bw N;have E:=tsbel E N;refine Yi (k:=(g.k-4).toNat) (u:=(rotC g.k)) (enc:=encI) (l:=[4,2,6,1,7]) 7 rfl tv0 rfl rfl Xj X09 X9 (Rd.of_blk cB rfl _ cB.lt) f8.1 (by omega) ?_;intro j7 dD;refine Ye 8 rfl (X0 rfl X7 dD)<|Y1 9 ?_;refine Yt rfl tv0 rfl (X1m (vs:=[(pZ9 bV),vi g.a,vi (rotC g.k)]) rfl X8e (Xhe _ bV B0 A0 c0 BW eW A1 c1 A2 c2 m0 n0 x ⟨i,H,I,o,p,aF,aB,aC⟩ (Q0 aA E.size) g.a (rotC g.k) aD aE bF f8.2)) ?_;rintro _ j8 ⟨iB,iC,iD,iE,iF,G,bD,bE,L,fA,fB,C,D,fC,dE,dF⟩;have f:=f.tu G i rfl (alc (nrow H f rfl) (alc (nrow I f rfl) (alc (nrow o f rfl) (alc (nrow p f rfl) al0))));have q:=SB.lift (S:=SB bV [A0,BW,A1,A2]) (w0:=w0) (.inl (.inl rfl)) (alc aG (alc aH (alc W (alc a6 al0))));have bD:=Us.trans bD q E.size
 have bE:=Us.trans bE q E.size
 have E:=tstr E G q;clear q
 clear G i;have i:=L;clear L
 clear o;have o:=C;clear C
 clear p;have p:=D;clear D;refine Yd fun a M=>?_;refine Xc<|X2g M (X3n rfl) ?_
 rw [a7]
 exact ⟨iB,iC,iD,iE,iF,E,bD,bE,⟨i,fA,fB,o,p,fC,dE,dF⟩⟩
theorem Y0i(Q:World)(c:Cx)(Ac:Option Addr)(cc:Nat)(bM:Rd Q Q.heap.size 123 encG Ac c.gs)(hc:cOk c=true) : Ret Tryz.prog 84 [.agg #[vi c.n,.slice Ac c.gs.length cc]] Q (fun v w=>∃ A c1 B e,v=.agg #[vi (ofD c).n,.slice A (ofD c).ns.length c1,.slice B (ofD c).ws.length e,vi (ofD c).t,vi (ofD c).r]/\Own w Q.heap.size 81 2 encNd A c1 (ofD c).ns/\Own w Q.heap.size 83 3 encWr B e (ofD c).ws/\Below Q.heap.size Q w):=by
 obtain ⟨n9,eX,eY,eZ⟩:=Xas hc
 have cJ:c.n=((c.n.toNat:Nat) : Int):=by omega
 have f0:=Xoc hc
 have cK:(List.replicate (c.n.toNat:Nat) false).length=(c.n.toNat:Nat):=List.length_replicate
 have cL:(c.n.toNat:Nat)<=maxLen:=by simp only [maxLen];omega
 refine enter Tryz.func84 rfl 79 rfl rfl ?_;intro a C
 have q:=bz Q
 refine Zs C fun _ dY=>?_;refine Zf (X0n (zs:=[vi c.n,.slice Ac c.gs.length cc]) rfl rfl) ?_;rintro _ w1 ⟨b3,rfl,eA,G,i⟩;have eU:=Q0 q.size eA;have q:=btr q G;refine Zf (Xo (zs:=[vi 0,.slice none 0 0,.slice none 0 0,vi 0,vi 0]) X0o rfl) ?_;rintro _ w2 ⟨b6,rfl,eB,G,o⟩;have cM:=Q0 q.size eB;have i:=i.bw G;have q:=btr q G;refine ZX dY fun a C _ eC=>?_;refine X00 none (fun _=>false) mixed ?_;intro w3 G;have i:=i.bw G;have o:=o.bw G;have q:=btr q G;refine Yb C<|Yo 0 rfl (fun _=>Vd rfl X8b 0)<|Ye 1 rfl (X0 rfl X7 (i.at 0))<|Yo 2 rfl (fun _=>X0e (ps:=[(0,vi c.n)]) (cs:=[vi c.n,.slice none 0 0,.slice none 0 0,vi 0,vi 0]) rfl (fun _=>by first|rfl|kernel_rfl))<|Yo 3 rfl (fun _=>Vd rfl X8b 0)<|Ye 4 rfl (Vx (X0 rfl X7 (i.at 0)) cJ)<|Y1 5 ?_;refine Yk rfl tv0 (X6r (m:=(c.n.toNat:Nat)) (enc:=encB) (z0:=false) rfl rfl X4c Y2c z_4 rfl X2f (by omega) (by omega)) (fun _ _ ⟨_,_,_,h,_⟩=>h) ?_;rintro _ w4 ⟨bF,rfl,cN,G,b0⟩;have bQ:=Q0 q.size cN;have i:=i.bw G;have o:=o.bw G;have q:=btr q G;refine Yo 6 rfl (fun _=>X0e (ps:=[(0,.agg #[vi c.n,.slice none 0 0,.slice none 0 0,vi 0,vi 0]),(2,.slice (some ⟨bF,0,none⟩) (c.n.toNat:Nat) (c.n.toNat:Nat))]) (cs:=[vi c.n,.slice none 0 0,.slice none 0 0,vi 0,vi 0,.slice none 0 0,.slice (some ⟨bF,0,none⟩) (c.n.toNat:Nat) (c.n.toNat:Nat)]) rfl (fun _=>by first|rfl|kernel_rfl))<|Y1 7 ?_;refine Yk rfl tv0 (X0n (zs:=[vi c.n,.slice none 0 0,.slice none 0 0,vi 0,vi 0,.slice none 0 0,.slice (some ⟨bF,0,none⟩) (c.n.toNat:Nat) (c.n.toNat:Nat)]) rfl rfl) (fun _ _ ⟨_,_,_,h,_⟩=>h) ?_;rintro _ w5 ⟨aF,rfl,cO,G,g⟩;have aC:=Q0 q.size cO
 have i:=i.bw G;have o:=o.bw G;have b0:=b0.bw G;have q:=btr q G;refine Yo 8 rfl (fun _=>Xr rfl) ?_;refine Yd fun a C=>?_;refine eC _ _<|Q5 fun _ cP=>?_;refine Zs C fun _ cQ=>?_;refine Za rfl<|Zt cQ fun a C=>?_;refine Q8<|X04 (σ:=Nat×(List Nd)×(List Int)) (fun (s:Nat×(List Nd)×(List Int)) (a:Act) (w:World)=>match s with|(k,u,v)=>∃ bG bH b1 b2 aO aP,Fr a 79 [(1,(pZ9 b3)),(2,(pZ9 b6)),(3,(pZ9 aF)),(4,vi (k:Int))]/\(k<=c.n.toNat)/\(u=inN k)/\(v=ranI k)/\Blk w b3 30 [vi c.n,.slice Ac c.gs.length cc]/\Blk w b6 39 [vi 0,.slice none 0 0,.slice none 0 0,vi 0,vi 0]/\Blk w aF 171 [vi c.n,.slice bG u.length bH,.slice none 0 0,vi 0,vi 0,.slice b1 v.length b2,.slice aO (c.n.toNat:Nat) aP]/\Own w Q.heap.size 81 2 encNd bG bH u/\Own w Q.heap.size 3 1 encI b1 b2 v/\Own w Q.heap.size 4 1 encB aO aP (List.replicate (c.n.toNat:Nat) false)/\Below Q.heap.size Q w) (fun (s:Nat×(List Nd)×(List Int))=>match s with|(k,u,v)=>c.n.toNat-k) (0,[],[]) ?_ ?_
 ·exact ⟨none,0,none,0,some ⟨bF,0,none⟩,(c.n.toNat:Nat),C.sb,(Qf _),rfl,rfl,i,o,g,(Own.nil _ _ _ _ _),(Own.nil _ _ _ _ _),(Own.of_flat X2f b0 bQ cK cL),q⟩
 rintro ⟨k,u,v⟩ a w6 ⟨bG,bH,b1,b2,aO,aP,C,hk,hu,hv,i,o,g,aH,J,E,q⟩;have cR:=X8p k;have cS:=X9e k
 rw [<- hu] at cR
 rw [<- hv] at cS
 refine Q5 fun _ cT=>?_;refine Zs C fun _ cU=>?_;refine Zm rfl<|Ze (Vd rfl X8b 0)<|Ze (X0 rfl X7 (i.at 0))<|Ze (X0q rfl rfl)<|Zt cU fun a C=>?_
 refine Xi C rfl (fun W=>?_) (fun W=>?_)
 ·have bR:=W;have W:=Q2 W
  have bJ:k<c.n.toNat:=by have:=W;omega
  refine Q7<|cT _ _<|Q5 fun _ cV=>?_;refine Q8<|Zs C fun _ cW=>?_;refine Zm rfl<|Zm rfl<|Ze (X0a rfl)<|Ze (Vd rfl X0p 0)<|Ze (Vd rfl Xg 1)<|Ze (X0 rfl Xy (g.at 1))<|Zm rfl<|Ze (X0e (ps:=[(0,vi 1),(1,vi (k:Int))]) (cs:=[vi 1,vi (k:Int)]) rfl (fun _=>by first|rfl|kernel_rfl))<|Zf (Xs (k:=1) (vs:=[.agg #[vi 1,vi (k:Int)]]) (zs:=[vi 1,vi (k:Int)]) rfl Xl X26 rfl rfl) ?_;rintro _ w7 ⟨f3,rfl,bN,G,b4⟩;have eD:=Q0 q.size bN;have aQ:=aH.away bN;have i:=i.bw G;have o:=o.bw G;have g:=g.bw G;have aH:=aH.bw G;have J:=J.bw G;have E:=E.bw G;have q:=btr q G;refine Zf (X0z (enc:=encNd) (l:=(u)) (l2:=([(⟨1,(k:Int)⟩ : Nd)])) (B0:=Q.heap.size) rfl rfl Xl X26 Xw X37 aH (Rd.of_blk b4 rfl _ b4.lt) (by simp only [maxLen];simp;omega) (by simp;omega) q.size) ?_;rintro _ w8 ⟨bK,bL,rfl,a6,hg,b5⟩
  have D:Own _ Q.heap.size 81 2 encNd _ _ (u):=aH
  have cH:=b5 _ b4.lt aQ;clear b5;have i:=i.appT D hg rfl;have o:=o.appT D hg rfl;have g:=g.appT D hg rfl;have J:=J.appT D hg rfl;have E:=E.appT D hg rfl;have q:=Below.app q D hg (Qb _) q.size;clear D hg;refine Ze (X0a rfl)<|Ze (Vd rfl X0p 0)<|Ze (Vd rfl Xg 1)<|Zo (Vu (vs:=[.slice bK (u++([(⟨1,(k:Int)⟩ : Nd)])).length bL]) (l':=[vi c.n,.slice bK (u++([(⟨1,(k:Int)⟩ : Nd)])).length bL,.slice none 0 0,vi 0,vi 0,.slice b1 v.length b2,.slice aO (c.n.toNat:Nat) aP]) rfl rfl X50 g) ?_;rintro _ w9 ⟨U,hb⟩;have p:=g;have i:=i.oz U p rfl;have o:=o.oz U p rfl;have J:=J.oT U p rfl;have E:=E.oT U p rfl;have a6:=a6.oT U p rfl;have q:=Below.oy q U aC;have g:=hb;refine Zt cW fun a C=>?_;refine Zr C<|Zm rfl<|Zm rfl<|Ze (X0a rfl)<|Ze (Vd rfl X25 5)<|Ze (X0 rfl X3z (g.at 5))<|Zm rfl<|Zf (Xs (k:=1) (vs:=[vi (k:Int)]) (zs:=[vi (k:Int)]) rfl Xj X1h rfl rfl) ?_;rintro _ f5 ⟨f7,rfl,bO,G,b7⟩;have eE:=Q0 q.size bO;have aR:=J.away bO;have i:=i.bw G;have o:=o.bw G;have g:=g.bw G;have J:=J.bw G;have E:=E.bw G;have a6:=a6.bw G;have q:=btr q G;refine Zf (X0z (enc:=encI) (l:=(v)) (l2:=([(k:Int)])) (B0:=Q.heap.size) rfl rfl Xj X1h X9 X1e J (Rd.of_blk b7 rfl _ b7.lt) (by simp only [maxLen];simp;omega) (by simp;omega) q.size) ?_;rintro _ f8 ⟨bS,bT,rfl,b8,hg,b5⟩
  have D:Own _ Q.heap.size 3 1 encI _ _ (v):=J
  have cI:=b5 _ b7.lt aR;clear b5;have i:=i.appT D hg rfl;have o:=o.appT D hg rfl;have g:=g.appT D hg rfl;have E:=E.appT D hg rfl;have a6:=a6.appT D hg rfl;have q:=Below.app q D hg (Qb _) q.size;clear D hg;refine Ze (X0a rfl)<|Ze (Vd rfl X25 5)<|Zo (Vu (vs:=[.slice bS (v++([(k:Int)])).length bT]) (l':=[vi c.n,.slice bK (u++([(⟨1,(k:Int)⟩ : Nd)])).length bL,.slice none 0 0,vi 0,vi 0,.slice bS (v++([(k:Int)])).length bT,.slice aO (c.n.toNat:Nat) aP]) rfl rfl Xh5 g) ?_;rintro _ f9 ⟨U,hb⟩;have p:=g;have i:=i.oz U p rfl;have o:=o.oz U p rfl;have E:=E.oT U p rfl;have a6:=a6.oT U p rfl;have b8:=b8.oT U p rfl;have q:=Below.oy q U aC;have g:=hb;refine Zn fun a C=>?_;refine Xc<|cV _ _<|Zr C<|Zm rfl<|Ze (Xm rfl rfl (by omega) (by omega))<|Za rfl ?_;refine Zn fun a C=>?_;refine Xd ?_;exact ⟨(k+1,u++([(⟨1,(k:Int)⟩ : Nd)]),v++([(k:Int)])),⟨bK,bL,bS,bT,aO,aP,C.sb,(by omega),(by rw [Y1o,<- hu]),(by rw [Xv7,<- hv]),i,o,g,a6,b8,E,q⟩,(by first|omega|(dsimp only;omega))⟩
 have bR:=W;have W:=Q1 W
 have bJ:k=c.n.toNat:=by have:=W;omega
 have cX:v.length=c.n.toNat:=by rw [hv,bJ];exact X9e _
 have cY:(⟨⟨c.n,u,[],0,0⟩,v,List.replicate c.n.toNat false⟩ : Br)=ofB0 c:=by rw [hu,hv,bJ];rfl
 have fA:u.length=c.n.toNat:=by rw [hu,bJ];exact X8p _
 refine Q9<|Xk<|Xk<|X03 ?_;refine cP _ _<|Q5 fun _ cZ=>?_;refine Zs C fun _ d5=>?_;refine Ze (Vd rfl Xbu 1)<|Ze (X0 rfl Xrs (i.at 1))<|Ze (X0c rfl Xgq)<|Zm rfl<|Zt d5 fun a C=>?_;refine Q8 ?_
 rw [cX] at g
 refine X04 (σ:=Nat×Br×Nat) (fun (s:Nat×Br×Nat) (a:Act) (w:World)=>match s with|(k,x,mz)=>∃ b9 bA bB bC aS aT aU aV,Fr a 79 [(1,(pZ9 b3)),(2,(pZ9 b6)),(3,(pZ9 aF)),(46,.slice Ac c.gs.length cc),(47,vi (c.gs.length:Int)),(48,vi (k:Int))]/\(k<=c.gs.length)/\(x=(c.gs.take k).foldl gtB (ofB0 c))/\(BrOk c.n.toNat x)/\(c.n.toNat=x.la.length)/\(c.n.toNat=x.hd.length)/\(mz=x.d.ns.length)/\(x.d.ns.length<=5+3*k/\x.d.ws.length<=3*k)/\Blk w b3 30 [vi c.n,.slice Ac c.gs.length cc]/\Blk w b6 39 [vi 0,.slice none 0 0,.slice none 0 0,vi 0,vi 0]/\Blk w aF 171 [vi x.d.n,.slice b9 mz bA,.slice bB x.d.ws.length bC,vi x.d.t,vi x.d.r,.slice aS c.n.toNat aT,.slice aU c.n.toNat aV]/\Own w Q.heap.size 81 2 encNd b9 bA x.d.ns/\Own w Q.heap.size 83 3 encWr bB bC x.d.ws/\Own w Q.heap.size 3 1 encI aS aT x.la/\Own w Q.heap.size 4 1 encB aU aV x.hd/\Below Q.heap.size Q w) (fun (s:Nat×Br×Nat)=>match s with|(k,x,mz)=>c.gs.length-k) (0,⟨⟨c.n,u,[],0,0⟩,v,List.replicate c.n.toNat false⟩,u.length) ?_ ?_
 ·exact ⟨bG,bH,none,0,b1,b2,aO,aP,C.sb,(Qf _),cY,(cY▸Xbz ⟨by omega,by omega⟩),cX.symm,cK.symm,rfl,⟨by show u.length<=_;omega,Qb _⟩,i,o,g,aH,(Own.nil _ _ _ _ _),J,E,q⟩
 rintro ⟨k,x,mz⟩ a fB ⟨b9,bA,bB,bC,aS,aT,aU,aV,C,hk,hx,bD,d6,d7,d8,eF,i,o,g,L,M,H,I,q⟩;refine Zs C fun _ dA=>?_;refine Ze (X0q rfl rfl)<|ZX dA fun a C _ dB=>?_
 refine Xi C rfl (fun a7=>?_) (fun a7=>?_)
 ·have bU:=a7;have a7:=Q2 a7
  obtain ⟨fC,eV⟩:=X5 (l:=c.gs) (k:=k) (by omega)
  obtain ⟨u9,bW⟩:=X5 (l:=c.gs) (k:=k) (by have:=a7;omega)
  have dC:gOk (c.n.toNat:Int) u9=true:=Xm7 hc cJ bW
  have dD:=X39 (f:=gtB) (b:=ofB0 c) bW
  rw [<- hx] at dD
  refine Q7<|dB _ _<|Q5 fun _ dE=>?_;refine Q8<|Zs C fun _ dF=>?_;refine Zi (k:=k) (u:=u9) (enc:=encG) (l:=c.gs) tv0 rfl rfl Xgq X6k Xdz (bM.bx q) bW rfl ?_;intro fE bX;refine Ze (X01 (l:=[vi u9.k,vi u9.a,vi u9.b]) rfl X4z bX rfl)<|Zf (Xo (zs:=[vi 0,vi 0,vi 0]) Xmv rfl) ?_;rintro _ fF ⟨fG,rfl,bP,G,N⟩;have bY:=Q0 q.size bP;have dG:=(bM.bx q).away bP;have i:=i.bw G;have o:=o.bw G;have g:=g.bw G;have L:=L.bw G;have M:=M.bw G;have H:=H.bw G;have I:=I.bw G;have q:=btr q G;refine Zo (Vw [vi u9.k,vi u9.a,vi u9.b] X6k N) ?_;rintro _ fH ⟨U,hb⟩;have p:=N;have i:=i.oz U p rfl;have o:=o.oz U p rfl;have g:=g.oz U p rfl;have L:=L.oT U p rfl;have M:=M.oT U p rfl;have H:=H.oT U p rfl;have I:=I.oT U p rfl;have q:=Below.oy q U bY;have N:=hb;refine Zt dF fun a C=>?_;refine Zr C<|Zm rfl<|Ze (Vn X4z N)<|Zf (X1m (vs:=[(pZ9 aF),.agg #[vi u9.k,vi u9.a,vi u9.b]]) rfl Xol (Xy9 _ aF Q.heap.size b9 bA bB bC aS aT aU aV mz c.n.toNat x ⟨g,L,M,H,I,d8,d6,d7⟩ q.size u9 bD (by omega) dC)) ?_;rintro _ fI ⟨eG,eH,eI,eJ,eK,aG,bZ,c5,bE,dH,dI,aM,aN,dJ,cA,cB⟩;have i:=i.tu aG g rfl (alc (nrow L i rfl) (alc (nrow M i rfl) (alc (nrow H i rfl) (alc (nrow I i rfl) al0))));have o:=o.tu aG g rfl (alc (nrow L o rfl) (alc (nrow M o rfl) (alc (nrow H o rfl) (alc (nrow I o rfl) al0))));have N:=N.tu aG g rfl (alc (nrow L N rfl) (alc (nrow M N rfl) (alc (nrow H N rfl) (alc (nrow I N rfl) al0))))
  have q:=Below.ts q aG (SB.ge aC (alc (fun _ h9=>X2h L h9) (alc (fun _ h9=>X2h M h9) (alc (fun _ h9=>X2h H h9) (alc (fun _ h9=>X2h I h9) al0))))) q.size
  clear bZ;clear c5
  clear aG g;have g:=bE;clear bE
  clear H;have H:=aM;clear aM
  clear I;have I:=aN;clear aN;refine Zn fun a C=>?_;refine Xc<|dE _ _<|Zr C<|Ze (Xm rfl rfl (by omega) (by omega))<|Zm rfl ?_;refine Zn fun a C=>?_;refine Xd ?_;exact ⟨(k+1,(gtB x u9),eK),⟨eG,eH,eI,eJ,aS,aT,aU,aV,C.sb,(by omega),(by rw [dD]),(Xku bD dC),cA,cB,dJ,(by have:=Xl3 x u9;omega),i,o,g,dH,dI,H,I,q⟩,(by first|omega|(dsimp only;omega))⟩
 have bU:=a7;have a7:=Q1 a7
 have eL:x=ofB1 c:=by rw [hx,Qi (by have:=a7;omega)];rfl
 refine Q9<|Xk<|Xk<|X03 ?_;refine cZ _ _<|Q5 fun _ dK=>?_;refine Zs C fun _ dL=>?_;refine Za rfl<|Zt dL fun a C=>?_;refine Q8<|X04 (σ:=Nat×Br×Nat) (fun (s:Nat×Br×Nat) (a:Act) (w:World)=>match s with|(j,y,my)=>∃ aI aJ aK aL aW aX aY aZ,Fr a 79 [(1,(pZ9 b3)),(2,(pZ9 b6)),(3,(pZ9 aF)),(7,vi (j:Int))]/\(j<=c.n.toNat)/\(y=ofK c j)/\(BrOk c.n.toNat y)/\(c.n.toNat=y.la.length)/\(c.n.toNat=y.hd.length)/\(my=y.d.ns.length)/\(y.d.ns.length<=5+3*400+j/\y.d.ws.length<=3*400+j)/\Blk w b3 30 [vi c.n,.slice Ac c.gs.length cc]/\Blk w b6 39 [vi 0,.slice none 0 0,.slice none 0 0,vi 0,vi 0]/\Blk w aF 171 [vi y.d.n,.slice aI my aJ,.slice aK y.d.ws.length aL,vi y.d.t,vi y.d.r,.slice aW c.n.toNat aX,.slice aY c.n.toNat aZ]/\Own w Q.heap.size 81 2 encNd aI aJ y.d.ns/\Own w Q.heap.size 83 3 encWr aK aL y.d.ws/\Own w Q.heap.size 3 1 encI aW aX y.la/\Own w Q.heap.size 4 1 encB aY aZ y.hd/\Below Q.heap.size Q w) (fun (s:Nat×Br×Nat)=>match s with|(j,y,my)=>c.n.toNat-j) (0,x,mz) ?_ ?_
 ·exact ⟨b9,bA,bB,bC,aS,aT,aU,aV,C.sb,(Qf _),eL,bD,d6,d7,d8,(by omega),i,o,g,L,M,H,I,q⟩
 rintro ⟨j,y,my⟩ a fJ ⟨aI,aJ,aK,aL,aW,aX,aY,aZ,C,hj,hy,bD,eM,eO,dM,eF,i,o,g,a8,aA,aD,aE,q⟩;refine Q5 fun _ dN=>?_;refine Zs C fun _ dO=>?_;refine Zm rfl<|Ze (Vd rfl X8b 0)<|Ze (X0 rfl X7 (i.at 0))<|Ze (X0q rfl rfl)<|Zt dO fun a C=>?_
 refine Xi C rfl (fun aB=>?_) (fun aB=>?_)
 ·have cC:=aB;have aB:=Q2 aB
  have dP:j<c.n.toNat:=by have:=aB;omega
  refine Q7<|dN _ _<|Q5 fun _ dQ=>?_;refine Q8<|Zr C<|Zm rfl<|Zm rfl<|Zm rfl<|Zf (X1m (vs:=[(pZ9 aF),vi 2,vi (j:Int),vi (j:Int)]) rfl Xhq (Xsz _ aF Q.heap.size aI aJ aK aL aW aX aY aZ my c.n.toNat y ⟨g,a8,aA,aD,aE,dM,eM,eO⟩ q.size 2 (j:Int) (j:Int) ⟨by omega,by omega⟩ (by omega))) ?_;rintro _ fK ⟨eP,eQ,eR,eS,eT,aG,cD,cE,bE,dR,dS,aM,aN,dT,cF,cG⟩;have i:=i.tu aG g rfl (alc (nrow a8 i rfl) (alc (nrow aA i rfl) (alc (nrow aD i rfl) (alc (nrow aE i rfl) al0))));have o:=o.tu aG g rfl (alc (nrow a8 o rfl) (alc (nrow aA o rfl) (alc (nrow aD o rfl) (alc (nrow aE o rfl) al0))))
  have q:=Below.ts q aG (SB.ge aC (alc (fun _ h9=>X2h a8 h9) (alc (fun _ h9=>X2h aA h9) (alc (fun _ h9=>X2h aD h9) (alc (fun _ h9=>X2h aE h9) al0))))) q.size
  clear cD;clear cE
  clear aG g;have g:=bE;clear bE
  clear aD;have aD:=aM;clear aM
  clear aE;have aE:=aN;clear aN;refine Zn fun a C=>?_;refine Xc<|dQ _ _<|Zr C<|Zm rfl<|Ze (Xm rfl rfl (by omega) (by omega))<|Za rfl ?_;refine Zn fun a C=>?_;refine Xd ?_;exact ⟨(j+1,(nodB y 2 (j:Int) (j:Int)),eT),⟨eP,eQ,eR,eS,aW,aX,aY,aZ,C.sb,(by omega),(by rw [Xhx,<- hy]),(Xby bD ⟨by omega,by omega⟩),cF,cG,dT,(by have:=X8q y 2 (j:Int) (j:Int);omega),i,o,g,dR,dS,aD,aE,q⟩,(by first|omega|(dsimp only;omega))⟩
 have cC:=aB;have aB:=Q1 aB
 have dP:j=c.n.toNat:=by have:=aB;omega
 have dU:outD y.d=ofD c:=by rw [hy,dP];rfl
 refine Q9<|Xk<|Xk<|X03 ?_;refine dK _ _<|Zs C fun _ dW=>?_;refine Zm rfl<|Ze (X0a rfl)<|Ze (Vd rfl X0p 0)<|Ze (Vd rfl X0u 3)<|Ze (X0 rfl X7 (g.at 3))<|Ze (X33 rfl rfl rfl)<|Ze (X0a rfl)<|Ze (Vd rfl X0p 0)<|Ze (Vd rfl X0u 3)<|Zo (Vu (vs:=[vi (y.d.t.tmod 8)]) (l':=[vi y.d.n,.slice aI my aJ,.slice aK y.d.ws.length aL,vi (y.d.t.tmod 8),vi y.d.r,.slice aW c.n.toNat aX,.slice aY c.n.toNat aZ]) rfl rfl X09 g) ?_;rintro _ fL ⟨U,hb⟩;have p:=g;have o:=o.oz U p rfl;have a8:=a8.oT U p rfl;have aA:=aA.oT U p rfl;have q:=Below.oy q U aC;have g:=hb;refine Zx dW fun a C _ dX=>?_;refine Zm rfl<|Ze (X0a rfl)<|Ze (Vd rfl X0p 0)<|Ze (X01 (l:=[vi y.d.n,.slice aI my aJ,.slice aK y.d.ws.length aL,vi (y.d.t.tmod 8),vi y.d.r]) rfl X2 ((g.at 0).take 5) rfl)<|Zo (Vw [vi y.d.n,.slice aI my aJ,.slice aK y.d.ws.length aL,vi (y.d.t.tmod 8),vi y.d.r] Xf o) ?_;rintro _ fM ⟨U,hb⟩;have p:=o;have a8:=a8.oT U p rfl;have aA:=aA.oT U p rfl;have q:=Below.oy q U cM;have o:=hb;refine Zt dX fun a C=>?_
 refine Q6 (X6 C (Xu C rfl (ResV.cellN (l:=[vi y.d.n,.slice aI my aJ,.slice aK y.d.ws.length aL,vi (y.d.t.tmod 8),vi y.d.r]) rfl X2 (o.at 0) rfl)) ?_)
 rw [<- dU]
 subst dM
 exact ⟨aI,aJ,aK,aL,rfl,a8,aA,q⟩
theorem Xte(w0:World)(bV:Nat){bN:TypeId}(a8:Option Addr)(aD:Nat)(J:List Int)(b:Rd w0 w0.heap.size bN encU a8 J)(aI:∀ x ∈ J,0<=x/\x<=255)(a7:AwayR J a8 bV)(t:Nat)(sd:Int)(p:Blk w0 bV 103 [.slice a8 J.length aD,vi (t:Int),.int .u64 sd])(ht:t+100<=100000000) : Ret Tryz.prog 118 [(pZ9 bV)] w0 (fun v w=>∃ (d:Dg) (A:Option Addr) (c1:Nat) (B:Option Addr) (e:Nat) (t1:Nat) (s1:Int),v=.agg #[vi d.n,.slice A d.ns.length c1,.slice B d.ws.length e,vi d.t,vi d.r]/\(InD d/\1<=d.ns.length/\1<=d.ws.length/\d.ns.length<=310/\d.ws.length<=320)/\(t<=t1/\t1<=t+100)/\Own w w0.heap.size 81 2 encNd A c1 d.ns/\Own w w0.heap.size 83 3 encWr B e d.ws/\Kept bV w0.heap.size w0 w/\Blk w bV 103 [.slice a8 J.length aD,vi (t1:Int),.int .u64 s1]):=by
 have eD:=p.lt;refine enter Tryz.func118 rfl 88 rfl rfl ?_;intro a L
 have D:Kept bV w0.heap.size w0 w0:=Kept.refl _ _ _
 refine Zs L fun _ dM=>?_;refine Zf (Xo (zs:=[vi 0,.slice none 0 0,.slice none 0 0,vi 0,vi 0]) X0o rfl) ?_;rintro _ w1 ⟨b5,rfl,cG,o,m⟩;have cH:=Q0 D.size cG;have dK:=b.away cG;have p:=p.bw o;have b:=b.bw o;have D:=ktr D o;refine Zx dM fun a L _ dN=>?_;refine Zm rfl<|Zm rfl<|Zf (Vc (X15 _ bV a8 aD J b.top aI a7 t sd p 2 (by omega)) X0i) ?_;rintro _ w2 ⟨b8,cI,cJ,rfl,dO,dP,hK,G⟩;obtain ⟨wm,E,hm,o⟩:=hK.mid;clear hm;have g:=p;have m:=m.oz E g rfl;have b:=b.onlyA E a7;have D:=D.self E;have m:=m.bw o;have b:=b.bw o;have D:=ktr D o
 clear g o E hK;have p:=G;clear G;refine Ze (Xm rfl rfl (by omega) (by omega))<|Zf (Xs (k:=15) (vs:=[vi 1,vi 1,vi 7,vi 7,vi 5,vi 3,vi 8,vi 9,vi 9,vi 10,vi 10,vi 11,vi 12,vi 2,vi 4]) (zs:=[vi 1,vi 1,vi 7,vi 7,vi 5,vi 3,vi 8,vi 9,vi 9,vi 10,vi 10,vi 11,vi 12,vi 2,vi 4]) rfl Xj X1h rfl rfl) ?_;rintro _ w3 ⟨b7,rfl,cK,o,cL⟩;have eE:=Q0 D.size cK;have dL:=b.away cK;have p:=p.bw o;have m:=m.bw o;have b:=b.bw o;have D:=ktr D o;refine Zf (X1m (vs:=[(pZ9 bV),vi (1+b8),vi 9,.slice (some ⟨b7,0,none⟩) ([1,1,7,7,5,3,8,9,9,10,10,11,12,2,4]).length 15]) rfl Xoq (Xyl _ bV a8 aD J b.top aI a7 cI cJ p (1+b8) 9 (some ⟨b7,0,none⟩) 15 ([1,1,7,7,5,3,8,9,9,10,10,11,12,2,4]) (Rd.of_blk cL rfl _ cL.lt) (by omega) (by decide) (by omega) (by simp) (by simp) (by omega))) ?_;rintro _ w4 ⟨c,b9,bA,cM,cN,rfl,aW,dQ,aN,hK,G⟩;have cO:=D.size;obtain ⟨wm,E,hm,o⟩:=hK.mid;clear hm;have g:=p;have m:=m.oz E g rfl;have b:=b.onlyA E a7;have D:=D.self E;have m:=m.bw o;have b:=b.bw o;have D:=ktr D o
 clear g o E hK;have p:=G;clear G
 have aN:=aN.lower cO;clear cO
 have cP:cOk c=true:=Y4o (by omega) (by omega) (by rw [aW.1];exact aW.2.2)
 obtain ⟨dR,eH,eI,eJ,eK⟩:=Xzw cP (by omega)
 have eF:(spL (ofD c).ns).length<=(ofD c).ns.length:=X4u _ _
 refine Zf (X1m (vs:=[.agg #[vi c.n,.slice b9 c.gs.length bA]]) rfl Xnv (Y0i _ c b9 bA aN.rd.top cP)) ?_;rintro _ w5 ⟨aU,aV,bO,bP,rfl,q,M,o⟩;have q:=q.lower D.size;have M:=M.lower D.size;have p:=p.bw o;have m:=m.bw o;have b:=b.bw o;have D:=ktr D o;refine Zf (Xo (zs:=[vi 0,.slice none 0 0,.slice none 0 0,vi 0,vi 0]) X0o rfl) ?_;rintro _ w6 ⟨b14,rfl,bB,o,f⟩
 have cQ:b5≠b14:=by have:=m.lt;omega
 have aJ:=Q0 D.size bB;have cR:=b.away bB;have p:=p.bw o;have m:=m.bw o;have b:=b.bw o;have q:=q.bw o;have M:=M.bw o;have D:=ktr D o;refine Zo (Vw [vi ((ofD c).n),.slice aU ((ofD c).ns).length aV,.slice bO ((ofD c).ws).length bP,vi ((ofD c).t),vi ((ofD c).r)] Xf f) ?_;rintro _ w7 ⟨ho,hb⟩;have g:=f;have p:=p.oz ho g rfl;have m:=m.oy ho (by omega);have b:=b.oy ho aJ;have q:=q.oT ho g rfl;have M:=M.oT ho g rfl;have D:=Kept.oy D ho aJ;have f:=hb;refine Zx dN fun a L _ cS=>?_;refine Ze (Vn X2 f)<|Zf (Vc (Xac _ (ofD c) (((ofD c).ns).length) rfl aU aV q.rd.top bO bP M.rd.top M.cap (by omega)) X67) ?_;rintro _ w8 ⟨aO,aP,rfl,i,o⟩;have i:=i.lower D.size;have p:=p.bw o;have m:=m.bw o;have f:=f.bw o;have b:=b.bw o;have q:=q.bw o;have M:=M.bw o;have D:=ktr D o;refine Za rfl<|ZX cS fun a L _ cT=>?_;refine Zs L fun _ cU=>?_;refine Zm rfl<|Zf (Vc (X15 _ bV a8 aD J b.top aI a7 cM cN p 3 (by omega)) X0i) ?_;rintro _ w9 ⟨cV,cW,cX,rfl,dS,dT,hK,G⟩;obtain ⟨wm,E,hm,o⟩:=hK.mid;clear hm;have g:=p;have m:=m.oz E g rfl;have f:=f.oz E g rfl;have b:=b.onlyA E a7;have q:=q.oT E g rfl;have M:=M.oT E g rfl;have i:=i.oT E g rfl;have D:=D.self E;have m:=m.bw o;have f:=f.bw o;have b:=b.bw o;have q:=q.bw o
 have M:=M.bw o;have i:=i.bw o;have D:=ktr D o
 clear g o E hK;have p:=G;clear G;refine Za rfl<|Zt cU fun a L=>?_;refine Q8<|X04 (σ:=Int×(List Wr)×Nat×Int) (fun (s:Int×(List Wr)×Nat×Int) (a:Act) (w:World)=>match s with|(j,W,t2,s2)=>∃ aF aG,Fr a 88 [(0,(pZ9 bV)),(2,(pZ9 b5)),(3,(pZ9 b14)),(4,.slice aO (spL (ofD c).ns).length aP),(5,vi j)]/\(0<=j/\j<=2)/\(1<=W.length/\W.length+j.toNat<=313)/\(InD ⟨(ofD c).n,(ofD c).ns,W,(ofD c).t,(ofD c).r⟩)/\(t<=t2/\t2+6*j.toNat<=t+80)/\Blk w bV 103 [.slice a8 J.length aD,vi (t2:Int),.int .u64 s2]/\Blk w b5 39 [vi 0,.slice none 0 0,.slice none 0 0,vi 0,vi 0]/\Blk w b14 39 [vi ((ofD c).n),.slice aU ((ofD c).ns).length aV,.slice aF W.length aG,vi ((ofD c).t),vi ((ofD c).r)]/\Rd w w0.heap.size bN encU a8 J/\Own w w0.heap.size 81 2 encNd aU aV ((ofD c).ns)/\Own w w0.heap.size 3 1 encI aO aP (spL (ofD c).ns)/\Own w w0.heap.size 83 3 encWr aF aG W/\Kept bV w0.heap.size w0 w) (fun (s:Int×(List Wr)×Nat×Int)=>match s with|(j,W,t2,s2)=>j.toNat) (cV,(ofD c).ws,cW,cX) ?_ ?_
 ·exact ⟨bO,bP,L.sb,(by omega),(by omega),dR,(by omega),p,m,f,b,q,i,M,D⟩
 rintro ⟨j,W,t2,s2⟩ a dU ⟨aF,aG,L,hj,eL,hI,eM,p,m,f,b,q,i,C,D⟩;refine Q5 fun _ cY=>?_;refine Q5 fun _ cZ=>?_;refine X0b (fun a w=>Fr a 88 [(0,(pZ9 bV)),(2,(pZ9 b5)),(3,(pZ9 b14)),(4,.slice aO (spL (ofD c).ns).length aP),(5,vi j),(26,.bool ((decide (0<j))&&(decide (1<((spL (ofD c).ns).length:Int)))))]/\dU=w) ?_ ?_
 ·refine Zr L<|Zm rfl<|Ze (X3h rfl rfl)<|Zm rfl ?_
  refine Zg 22 rfl (fun a6=>?_) (fun a6=>?_)
  ·have eO:=a6;refine Zv (gW a6) (X3 rfl) ?_;refine Zv (gW a6) (X0c rfl Xj) ?_;refine Zv (gW a6) (X3h rfl rfl) ?_;refine Ze (X4 rfl a6 rfl) ?_;refine Zn fun a L=>?_;exact ⟨L.sub ⟨rfl,rfl,rfl,rfl,rfl,X1 rfl (by simp [a6]),trivial⟩,rfl⟩
  (iterate 3 refine Zp (gP a6) ?_);refine Ze (Xe rfl a6 rfl) ?_;refine Zn fun a L=>?_;exact ⟨L.sub ⟨rfl,rfl,rfl,rfl,rfl,X1 rfl (by simp [a6]),trivial⟩,rfl⟩
 rintro a _ ⟨L,rfl⟩;refine cZ _ _ ?_
 refine Xi L rfl (fun aS=>?_) (fun aS=>?_)
 ·have aC:=aS
  have eP:0<j/\1<(spL (ofD c).ns).length:=by have h8:=aS;simp at h8;omega
  refine Q7<|cY _ _<|Q5 fun _ bC=>?_;refine Q8<|Q5 fun _ d5=>?_;refine X00 (some bV) (fun _=>false) mixed ?_;intro eQ o;have p:=p.bw o;have m:=m.bw o;have f:=f.bw o;have b:=b.bw o;have q:=q.bw o;have i:=i.bw o;have C:=C.bw o;have D:=ktr D o;refine Yb L<|Yo 0 rfl (fun _=>X3 rfl)<|Yo 1 rfl (fun _=>X3 rfl)<|Yo 2 rfl (fun _=>X3 rfl)<|Yo 3 rfl (fun _=>X0c rfl Xj)<|Yo 7 rfl (fun _=>X3 rfl)<|Yo 8 rfl (fun _=>X3 rfl)<|Yo 9 rfl (fun _=>X3 rfl)<|Yo 10 rfl (fun _=>X0c rfl Xj)<|Y1 4 ?_;refine Yf rfl tv0 (EfW.mono (Vc (X15 _ bV a8 aD J b.top aI a7 t2 s2 p ((spL (ofD c).ns).length:Int) (by omega)) X0i) (fun _ _ h=>⟨fun _=>by obtain ⟨Q,bD,bE,rfl,bQ,bR,hK,G⟩:=h;exact hK.keep,h⟩)) ?_;rintro _ eR ⟨Q,bD,bE,rfl,bQ,bR,hK,G⟩;obtain ⟨wm,E,hm,o⟩:=hK.mid;clear hm;have g:=p;have m:=m.oz E g rfl;have f:=f.oz E g rfl;have b:=b.onlyA E a7;have q:=q.oT E g rfl;have i:=i.oT E g rfl;have C:=C.oT E g rfl;have D:=D.self E;have m:=m.bw o;have f:=f.bw o;have b:=b.bw o;have q:=q.bw o;have i:=i.bw o;have C:=C.bw o;have D:=ktr D o
  clear g o E hK;have p:=G;clear G;refine Ya (k:=Q.toNat) (u:=((spL (ofD c).ns).getD Q.toNat 0)) (enc:=encI) (l:=(spL (ofD c).ns)) 5 rfl tv0 p rfl rfl rfl Xj X09 X9 i.rd (Xb (by omega)) (by omega) ?_;intro eS bS b0;refine Yw 6 rfl tv0 (fun w1 h1=>X0 rfl X7 (bS.oy h1 b0)) ?_;refine Y1 11<|Yf rfl tv0 (EfW.mono (Vc (X15 _ bV a8 aD J b.top aI a7 bD bE p ((spL (ofD c).ns).length:Int) (by omega)) X0i) (fun _ _ h=>⟨fun _=>by obtain ⟨U,aX,aY,rfl,bT,bU,hK,G⟩:=h;exact hK.keep,h⟩)) ?_;rintro _ w13 ⟨U,aX,aY,rfl,bT,bU,hK,G⟩;obtain ⟨wm,E,hm,o⟩:=hK.mid;clear hm;have g:=p;have m:=m.oz E g rfl;have f:=f.oz E g rfl;have b:=b.onlyA E a7;have q:=q.oT E g rfl;have i:=i.oT E g rfl;have C:=C.oT E g rfl;have D:=D.self E;have m:=m.bw o;have f:=f.bw o;have b:=b.bw o;have q:=q.bw o;have i:=i.bw o;have C:=C.bw o;have D:=ktr D o
  clear g o E hK;have p:=G;clear G;refine Ya (k:=U.toNat) (u:=((spL (ofD c).ns).getD U.toNat 0)) (enc:=encI) (l:=(spL (ofD c).ns)) 12 rfl tv0 p rfl rfl rfl Xj X09 X9 i.rd (Xb (by omega)) (by omega) ?_;intro eT bW b1;refine Yw 13 rfl tv0 (fun w1 h1=>X0 rfl X7 (bW.oy h1 b1)) ?_;refine Yo 14 rfl (fun _=>Xr rfl)<|Yo 15 rfl (fun _=>Xr rfl) ?_;refine Yd fun a L=>?_;refine d5 _ _<|Q5 fun _ d6=>?_;refine X0b (fun a w=>Fr a 88 [(0,(pZ9 bV)),(2,(pZ9 b5)),(3,(pZ9 b14)),(4,.slice aO (spL (ofD c).ns).length aP),(5,vi j),(6,vi ((spL (ofD c).ns).getD Q.toNat 0)),(7,vi ((spL (ofD c).ns).getD U.toNat 0)),(53,.bool ((((spL (ofD c).ns).getD Q.toNat 0) != ((spL (ofD c).ns).getD U.toNat 0))&&(decide ((fdW W ((spL (ofD c).ns).getD Q.toNat 0) ((spL (ofD c).ns).getD U.toNat 0))<0))))]/\Below w13.heap.size w13 w) ?_ ?_
  ·have b2:Below w13.heap.size w13 w13:=Below.refl _ _
   refine Zr L<|Zm rfl<|Zm rfl<|Ze (X1o rfl rfl)<|Zm rfl ?_
   refine Zg 46 rfl (fun H=>?_) (fun H=>?_)
   ·refine Zv (gW H) (Vd rfl Xn 2) ?_;refine Zv (gW H) (X0 rfl X0g (f.at 2)) ?_;refine Zv (gW H) (X3 rfl) ?_;refine Zv (gW H) (X3 rfl) ?_;refine Zk (gW H) (Vc (Xd4 _ aF aG W C.rd.top ((spL (ofD c).ns).getD Q.toNat 0) ((spL (ofD c).ns).getD U.toNat 0) (by omega)) X7m) ?_;rintro _ w14 ⟨rfl,o⟩;have D:=ktr D o;have b2:=btr b2 o;refine Zv (gW H) (X0q rfl rfl) ?_;refine Ze (X4 rfl H rfl) ?_;refine Zn fun a L=>?_
    have bX:Below w13.heap.size w13 w14:=b2
    exact ⟨L.sub ⟨rfl,rfl,rfl,rfl,rfl,rfl,rfl,X1 rfl (by first|rfl|(simp only [aC,H,bs];done)|simp [aC,H]),trivial⟩,bX⟩
   (iterate 6 refine Zp (gP H) ?_);refine Ze (Xe rfl H rfl) ?_;refine Zn fun a L=>?_
   have bX:Below w13.heap.size w13 w13:=b2
   exact ⟨L.sub ⟨rfl,rfl,rfl,rfl,rfl,rfl,rfl,X1 rfl (by first|rfl|(simp only [aC,H,bs];done)|simp [aC,H]),trivial⟩,bX⟩
  rintro a eU ⟨L,o⟩;have p:=p.bw o;have m:=m.bw o;have f:=f.bw o;have b:=b.bw o;have q:=q.bw o;have i:=i.bw o;have C:=C.bw o;have D:=ktr D o;refine d6 _ _ ?_
  refine Xi L rfl (fun aK=>?_) (fun aK=>?_)
  ·have bY:=aK
   have d7:=Xcj (ns:=(ofD c).ns) (Xb (d:=(0:Int)) (l:=(spL (ofD c).ns)) (k:=Q.toNat) (by omega))
   have d8:=Xcj (ns:=(ofD c).ns) (Xb (d:=(0:Int)) (l:=(spL (ofD c).ns)) (k:=U.toNat) (by omega))
   have dW:(((spL (ofD c).ns).getD Q.toNat 0) != ((spL (ofD c).ns).getD U.toNat 0))=true:=by have h8:=aK;rw [Qd] at h8;exact h8.1
   have dX:fdW W ((spL (ofD c).ns).getD Q.toNat 0) ((spL (ofD c).ns).getD U.toNat 0)<0:=by have h8:=aK;rw [Qd] at h8;exact Q2 h8.2
   refine X00 (some bV) (fun j=>[9].contains j) mixed ?_;intro eV o;have p:=p.bw o;have m:=m.bw o;have f:=f.bw o;have b:=b.bw o;have q:=q.bw o;have i:=i.bw o;have C:=C.bw o;have D:=ktr D o;refine Yb L<|Yo 0 rfl (fun _=>Vd rfl Xn 2) ?_;refine Yw 1 rfl tv0 (fun w1 h1=>X0 rfl X0g ((f.oz h1 p rfl).at 2)) ?_;refine Yo 2 rfl (fun _=>X3 rfl)<|Yo 3 rfl (fun _=>X3 rfl)<|Yo 4 rfl (fun _=>X3 rfl)<|Y1 5 ?_;refine Yf rfl tv0 (EfW.mono (Vc (X15 _ bV a8 aD J b.top aI a7 aX aY p 3 (by omega)) X0i) (fun _ _ h=>⟨fun _=>by obtain ⟨aL,bF,bG,rfl,bZ,c5,hK,G⟩:=h;exact hK.keep,h⟩)) ?_;rintro _ eX ⟨aL,bF,bG,rfl,bZ,c5,hK,G⟩;obtain ⟨wm,E,hm,o⟩:=hK.mid;clear hm;have g:=p;have m:=m.oz E g rfl;have f:=f.oz E g rfl;have b:=b.onlyA E a7;have q:=q.oT E g rfl;have i:=i.oT E g rfl;have C:=C.oT E g rfl;have D:=D.self E;have m:=m.bw o;have f:=f.bw o;have b:=b.bw o;have q:=q.bw o;have i:=i.bw o;have C:=C.bw o;have D:=ktr D o
   clear g o E hK;have p:=G;clear G;refine Yo 6 rfl (fun _=>X3h rfl rfl)<|Y1 7 ?_;refine Yf rfl tv0 (EfW.mono (Vc (X91 _ aF aG W C.rd.top ((spL (ofD c).ns).getD Q.toNat 0) ((spL (ofD c).ns).getD U.toNat 0) (decide (0<aL)) (by omega) C.cap) X4t) (fun _ _ h=>⟨fun _=>by obtain ⟨b3,b4,rfl,aH,o⟩:=h;exact Keep.of_below o,h⟩)) ?_;rintro _ eY ⟨b3,b4,rfl,aH,o⟩;have aH:=aH.lower D.size;have p:=p.bw o;have m:=m.bw o;have f:=f.bw o;have b:=b.bw o;have q:=q.bw o;have i:=i.bw o;have D:=ktr D o;refine Yo 8 rfl (fun _=>Vd rfl Xn 2)<|Y1 9 ?_;refine Yh rfl tv0 rfl (Vu (vs:=[.slice b3 (jnW W ((spL (ofD c).ns).getD Q.toNat 0) ((spL (ofD c).ns).getD U.toNat 0) (decide (0<aL))).length b4]) (l':=[vi ((ofD c).n),.slice aU ((ofD c).ns).length aV,.slice b3 (jnW W ((spL (ofD c).ns).getD Q.toNat 0) ((spL (ofD c).ns).getD U.toNat 0) (decide (0<aL))).length b4,vi ((ofD c).t),vi ((ofD c).r)]) rfl rfl X1k f) ?_;rintro _ eZ ⟨ho,hb⟩;have g:=f;have p:=p.oz ho g rfl;have m:=m.oy ho (by omega);have b:=b.oy ho aJ;have q:=q.oT ho g rfl;have i:=i.oT ho g rfl;have aH:=aH.oT ho g rfl;have D:=Kept.oy D ho aJ;have f:=hb;refine Yd fun a L=>?_;refine Xc<|bC _ _<|Zr L<|Zm rfl<|Ze (X11 rfl rfl (by omega) (by omega))<|Za rfl ?_;refine Zn fun a L=>?_;refine Xd ?_;exact ⟨(j-1,(jnW W ((spL (ofD c).ns).getD Q.toNat 0) ((spL (ofD c).ns).getD U.toNat 0) (decide (0<aL))),bF,bG),⟨b3,b4,L.sb,(by omega),(by rw [X3w];omega),(Xyo hI ⟨d7.1,by omega⟩ ⟨d8.1,by omega⟩ dW dX _),(by omega),p,m,f,b,q,i,aH,D⟩,(by first|omega|(dsimp only;omega))⟩
  have bY:=aK;refine Q7<|Xc<|bC _ _<|Zr L ?_;refine Zm rfl<|Ze (X11 rfl rfl (by omega) (by omega))<|Za rfl ?_;refine Zn fun a L=>?_;refine Xd ?_;exact ⟨(j-1,W,aX,aY),⟨aF,aG,L.sb,(by omega),(by have:=X3w W 0 0 true;omega),hI,(by omega),p,m,f,b,q,i,C,D⟩,(by first|omega|(dsimp only;omega))⟩
 have aC:=aS;refine Q9<|Xk<|Xk<|X03 ?_;refine cT _ _<|Q5 fun _ dA=>?_;refine Zs L fun _ dB=>?_;refine Zm rfl<|Zf (Vc (X15 _ bV a8 aD J b.top aI a7 t2 s2 p 2 (by omega)) X0i) ?_;rintro _ f0 ⟨dC,dD,dE,rfl,dY,eA,hK,G⟩;obtain ⟨wm,E,hm,o⟩:=hK.mid;clear hm;have g:=p;have m:=m.oz E g rfl;have f:=f.oz E g rfl;have b:=b.onlyA E a7;have q:=q.oT E g rfl;have i:=i.oT E g rfl;have C:=C.oT E g rfl;have D:=D.self E;have m:=m.bw o;have f:=f.bw o;have b:=b.bw o;have q:=q.bw o;have i:=i.bw o;have C:=C.bw o;have D:=ktr D o
 clear g o E hK;have p:=G;clear G;refine Za rfl<|Zt dB fun a L=>?_;refine Q8<|X04 (σ:=Int×(List Nd)×Nat×Nat×Int) (fun (s:Int×(List Nd)×Nat×Nat×Int) (a:Act) (w:World)=>match s with|(j2,N,mz,t3,s3)=>∃ aQ aR,Fr a 88 [(0,(pZ9 bV)),(2,(pZ9 b5)),(3,(pZ9 b14)),(4,.slice aO (spL (ofD c).ns).length aP),(8,vi j2)]/\(0<=j2/\j2<=1)/\(mz=N.length)/\(N.length=(ofD c).ns.length)/\(InD ⟨(ofD c).n,N,W,(ofD c).t,(ofD c).r⟩)/\(t<=t3/\t3+4*j2.toNat<=t+90)/\Blk w bV 103 [.slice a8 J.length aD,vi (t3:Int),.int .u64 s3]/\Blk w b5 39 [vi 0,.slice none 0 0,.slice none 0 0,vi 0,vi 0]/\Blk w b14 39 [vi ((ofD c).n),.slice aQ mz aR,.slice aF W.length aG,vi ((ofD c).t),vi ((ofD c).r)]/\Rd w w0.heap.size bN encU a8 J/\Own w w0.heap.size 3 1 encI aO aP (spL (ofD c).ns)/\Own w w0.heap.size 83 3 encWr aF aG W/\Own w w0.heap.size 81 2 encNd aQ aR N/\Kept bV w0.heap.size w0 w) (fun (s:Int×(List Nd)×Nat×Nat×Int)=>match s with|(j2,N,mz,t3,s3)=>j2.toNat) (dC,(ofD c).ns,(ofD c).ns.length,dD,dE) ?_ ?_
 ·exact ⟨aU,aV,L.sb,(by omega),rfl,rfl,hI,(by omega),p,m,f,b,i,C,q,D⟩
 rintro ⟨j2,N,mz,t3,s3⟩ a eB ⟨aQ,aR,L,f3,cA,eC,dF,f5,p,m,f,b,i,C,I,D⟩;refine Q5 fun _ dG=>?_;refine Q5 fun _ dH=>?_;refine X0b (fun a w=>Fr a 88 [(0,(pZ9 bV)),(2,(pZ9 b5)),(3,(pZ9 b14)),(4,.slice aO (spL (ofD c).ns).length aP),(8,vi j2),(71,.bool ((decide (0<j2))&&(decide (0<((spL (ofD c).ns).length:Int)))))]/\eB=w) ?_ ?_
 ·refine Zr L<|Zm rfl<|Ze (X3h rfl rfl)<|Zm rfl ?_
  refine Zg 67 rfl (fun aA=>?_) (fun aA=>?_)
  ·refine Zv (gW aA) (X3 rfl) ?_;refine Zv (gW aA) (X0c rfl Xj) ?_;refine Zv (gW aA) (X3h rfl rfl) ?_;refine Ze (X4 rfl aA rfl) ?_;refine Zn fun a L=>?_;exact ⟨L.sub ⟨rfl,rfl,rfl,rfl,rfl,X1 rfl (by simp [aC,aA]),trivial⟩,rfl⟩
  (iterate 3 refine Zp (gP aA) ?_);refine Ze (Xe rfl aA rfl) ?_;refine Zn fun a L=>?_;exact ⟨L.sub ⟨rfl,rfl,rfl,rfl,rfl,X1 rfl (by simp [aC,aA]),trivial⟩,rfl⟩
 rintro a _ ⟨L,rfl⟩;refine dH _ _ ?_
 refine Xi L rfl (fun aT=>?_) (fun aT=>?_)
 ·have cB:=aT
  have f7:0<j2/\0<(spL (ofD c).ns).length:=by have h8:=aT;simp at h8;omega
  refine Q7<|dG _ _<|Q5 fun _ dI=>?_;refine Q8<|X00 (some bV) (fun j=>[13].contains j) mixed ?_;intro f8 o;have p:=p.bw o;have m:=m.bw o;have f:=f.bw o;have b:=b.bw o;have i:=i.bw o;have C:=C.bw o;have I:=I.bw o;have D:=ktr D o;refine Yb L<|Yo 0 rfl (fun _=>Vd rfl Xg 1) ?_;refine Yw 1 rfl tv0 (fun w1 h1=>X0 rfl Xy ((f.oz h1 p rfl).at 1)) ?_;refine Yo 2 rfl (fun _=>X3 rfl)<|Yo 3 rfl (fun _=>X3 rfl)<|Yo 4 rfl (fun _=>X3 rfl)<|Yo 5 rfl (fun _=>X0c rfl Xj)<|Yo 9 rfl (fun _=>X3 rfl)<|Y1 6 ?_;refine Yf rfl tv0 (EfW.mono (Vc (X15 _ bV a8 aD J b.top aI a7 t3 s3 p ((spL (ofD c).ns).length:Int) (by omega)) X0i) (fun _ _ h=>⟨fun _=>by obtain ⟨aB,bH,bJ,rfl,cC,cD,hK,G⟩:=h;exact hK.keep,h⟩)) ?_;rintro _ f9 ⟨aB,bH,bJ,rfl,cC,cD,hK,G⟩;obtain ⟨wm,E,hm,o⟩:=hK.mid;clear hm;have g:=p;have m:=m.oz E g rfl;have f:=f.oz E g rfl;have b:=b.onlyA E a7;have i:=i.oT E g rfl;have C:=C.oT E g rfl;have I:=I.oT E g rfl;have D:=D.self E;have m:=m.bw o;have f:=f.bw o;have b:=b.bw o;have i:=i.bw o;have C:=C.bw o;have I:=I.bw o;have D:=ktr D o
  clear g o E hK;have p:=G;clear G
  have eG:=Xcj (ns:=(ofD c).ns) (Xb (d:=(0:Int)) (l:=(spL (ofD c).ns)) (k:=aB.toNat) (by omega))
  refine Ya (k:=aB.toNat) (u:=((spL (ofD c).ns).getD aB.toNat 0)) (enc:=encI) (l:=(spL (ofD c).ns)) 7 rfl tv0 p rfl rfl rfl Xj X09 X9 i.rd (Xb (by omega)) (by omega) ?_;intro fA cE b6;refine Yw 8 rfl tv0 (fun w1 h1=>X0 rfl X7 (cE.oy h1 b6)) ?_;refine Y1 10<|Yf rfl tv0 (EfW.mono (Vc (X15 _ bV a8 aD J b.top aI a7 bH bJ p 8 (by omega)) X0i) (fun _ _ h=>⟨fun _=>by obtain ⟨aM,bK,bL,rfl,aZ,cF,hK,G⟩:=h;exact hK.keep,h⟩)) ?_;rintro _ fB ⟨aM,bK,bL,rfl,aZ,cF,hK,G⟩;obtain ⟨wm,E,hm,o⟩:=hK.mid;clear hm;have g:=p;have m:=m.oz E g rfl;have f:=f.oz E g rfl;have b:=b.onlyA E a7;have i:=i.oT E g rfl;have C:=C.oT E g rfl;have I:=I.oT E g rfl;have D:=D.self E;have m:=m.bw o;have f:=f.bw o;have b:=b.bw o;have i:=i.bw o;have C:=C.bw o;have I:=I.bw o;have D:=ktr D o
  clear g o E hK;have p:=G;clear G;refine Yo 11 rfl (fun _=>Xx (k:=((spL (ofD c).ns).getD aB.toNat 0).toNat) rfl rfl Xl X08 I cA (by omega) (by omega))<|Yo 12 rfl (fun _=>X12 rfl X06 (m':=((spL (ofD c).ns).getD aB.toNat 0).toNat*2+1) rfl)<|Y1 13 ?_;refine Yh rfl tv0 rfl (X17 (enc:=encNd) (l:=N) (vs:=[vi aM]) (x0:=(N.getD ((spL (ofD c).ns).getD aB.toNat 0).toNat nZ)) (u:=(⟨(N.getD ((spL (ofD c).ns).getD aB.toNat 0).toNat nZ).k,aM⟩ : Nd)) (k:=((spL (ofD c).ns).getD aB.toNat 0).toNat) (j:=1) (n1:=1) rfl rfl X09 I Xw rfl rfl rfl rfl (by decide) (Xb (d:=nZ) (by omega)) rfl) ?_;rintro _ fC ⟨bM,hg⟩;have aE:=I;have p:=p.appT aE hg rfl;have m:=m.appT aE hg rfl;have f:=f.appT aE hg rfl;have b:=b.appB aE hg (Qb _);have i:=i.appT aE hg rfl;have C:=C.appT aE hg rfl;have D:=Kept.app D aE hg (Qb _) D.size
  clear aE hg;clear I;have I:=bM;clear bM;refine Yd fun a L=>?_;refine Xc<|dI _ _<|Zr L<|Zm rfl<|Ze (X11 rfl rfl (by omega) (by omega))<|Za rfl ?_;refine Zn fun a L=>?_;refine Xd ?_;exact ⟨(j2-1,(N.set (((spL (ofD c).ns).getD aB.toNat 0).toNat) (⟨(N.getD ((spL (ofD c).ns).getD aB.toNat 0).toNat nZ).k,aM⟩ : Nd)),mz,bK,bL),⟨aQ,aR,L.sb,(by omega),(cA.trans List.length_set.symm),(by rw [List.length_set];exact eC),(Y1r dF _ ⟨aZ.1,by show aM<=7;omega⟩),(by omega),p,m,f,b,i,C,I,D⟩,(by first|omega|(dsimp only;omega))⟩
 have cB:=aT;refine Q9<|Xk<|Xk<|X03 ?_;refine dA _ _<|Zs L fun _ dJ=>?_;refine Ze (Vn X2 f)<|Zo (Vw [vi ((ofD c).n),.slice aQ mz aR,.slice aF W.length aG,vi ((ofD c).t),vi ((ofD c).r)] Xf m) ?_;rintro _ fE ⟨ho,hb⟩;have g:=m;have p:=p.oz ho g rfl;have C:=C.oT ho g rfl;have I:=I.oT ho g rfl;have D:=Kept.oy D ho cH;have m:=hb;refine Zt dJ fun a L=>?_
 refine Q6 (X6 L (Xu L rfl (ResV.cellN (l:=[vi ((ofD c).n),.slice aQ mz aR,.slice aF W.length aG,vi ((ofD c).t),vi ((ofD c).r)]) rfl X2 (m.at 0) rfl)) ?_)
 subst cA
 exact ⟨(⟨(ofD c).n,N,W,(ofD c).t,(ofD c).r⟩ : Dg),aQ,aR,aF,aG,_,_,(by first|rfl|(simp only [List.length_set])),⟨dF,by show 1<=N.length;omega,by show 1<=W.length;omega,by show N.length<=310;omega,by show W.length<=320;omega⟩,⟨by omega,by omega⟩,I,C,D,p⟩
theorem Xt8(w0:World)(bV:Nat){b4:TypeId}(aA:Option Addr)(aE:Nat)(I:List Int)(c:Rd w0 w0.heap.size b4 encU aA I)(aP:∀ x ∈ I,0<=x/\x<=255)(aD:AwayR I aA bV)(t:Nat)(sd:Int)(q:Blk w0 bV 103 [.slice aA I.length aE,vi (t:Int),.int .u64 sd])(ht:t+130<=100000000) : Ret Tryz.prog 63 [(pZ9 bV)] w0 (fun v w=>∃ (d:Dg) (A:Option Addr) (c1:Nat) (B:Option Addr) (e:Nat) (t1:Nat) (s1:Int),v=.agg #[vi d.n,.slice A d.ns.length c1,.slice B d.ws.length e,vi d.t,vi d.r]/\(InD d)/\(t<=t1/\t1<=t+130)/\Rd w w.heap.size 81 encNd A d.ns/\Rd w w.heap.size 83 encWr B d.ws/\d.ws.length<=e/\Kept bV w0.heap.size w0 w/\Blk w bV 103 [.slice aA I.length aE,vi (t1:Int),.int .u64 s1]):=by
 have bY:=q.lt;refine enter Tryz.func63 rfl 35 rfl rfl ?_;intro a N
 have G:Kept bV w0.heap.size w0 w0:=Kept.refl _ _ _
 refine Zs N fun _ bO=>?_;refine Zf (Xo (zs:=[vi 0,.slice none 0 0,.slice none 0 0,vi 0,vi 0]) X0o rfl) ?_;rintro _ w1 ⟨b5,rfl,b6,C,p⟩;have b7:=Q0 G.size b6;have bN:=c.away b6;have q:=q.bw C;have c:=c.bw C;have G:=ktr G C;refine Zx bO fun a N _ bP=>?_;refine Zm rfl<|Zf (Vc (Xte _ bV aA aE I c.top aP aD t sd q (by omega)) Xho) ?_;rintro _ w2 ⟨aH,b8,b9,bA,bB,bQ,bR,rfl,bC,bZ,J,H,hK,Q⟩;have aI:=G.size;have aI:=G.size;obtain ⟨wm,M,hm,C⟩:=hK.mid;clear hm;have m:=q;have p:=p.oz M m rfl;have c:=c.onlyA M aD;have G:=G.self M;have p:=p.bw C;have c:=c.bw C;have G:=ktr G C
 clear m C M hK;have q:=Q;clear Q
 have J:=J.lower aI;clear aI
 have H:=H.lower aI;clear aI;refine Zf (Xo (zs:=[vi 0,.slice none 0 0,.slice none 0 0,vi 0,vi 0]) X0o rfl) ?_;rintro _ w3 ⟨b11,rfl,aS,C,i⟩
 have bD:b5≠b11:=by have:=p.lt;omega
 have aC:=Q0 G.size aS;have bE:=c.away aS;have q:=q.bw C;have p:=p.bw C;have c:=c.bw C;have J:=J.bw C;have H:=H.bw C;have G:=ktr G C;refine Zo (Vw [vi aH.n,.slice b8 aH.ns.length b9,.slice bA aH.ws.length bB,vi aH.t,vi aH.r] Xf i) ?_;rintro _ w4 ⟨ho,hb⟩;have m:=i;have q:=q.oz ho m rfl;have p:=p.oy ho (by omega);have c:=c.oy ho aC;have J:=J.oT ho m rfl;have H:=H.oT ho m rfl;have G:=Kept.oy G ho aC;have i:=hb;refine ZX bP fun a N _ bF=>?_;refine Zs N fun _ bG=>?_;refine Zm rfl<|Zf (Vc (X15 _ bV aA aE I c.top aP aD bQ bR q 5 (by omega)) X0i) ?_;rintro _ w5 ⟨bS,bT,bU,rfl,c5,cA,hK,Q⟩;obtain ⟨wm,M,hm,C⟩:=hK.mid;clear hm;have m:=q;have p:=p.oz M m rfl;have i:=i.oz M m rfl;have c:=c.onlyA M aD;have J:=J.oT M m rfl;have H:=H.oT M m rfl;have G:=G.self M;have p:=p.bw C;have i:=i.bw C;have c:=c.bw C;have J:=J.bw C;have H:=H.bw C;have G:=ktr G C
 clear m C M hK;have q:=Q;clear Q;refine Za rfl<|Zt bG fun a N=>?_;refine Q8<|X04 (σ:=Int×Dg×Nat×Int) (fun (s:Int×Dg×Nat×Int) (a:Act) (w:World)=>match s with|(j,o,t2,s2)=>∃ W aB a6 a7,Fr a 35 [(0,(pZ9 bV)),(2,(pZ9 b5)),(3,(pZ9 b11)),(4,vi j)]/\(0<=j/\j<=4)/\(InD o)/\(t<=t2/\t2+4*j.toNat<=t+120)/\Blk w bV 103 [.slice aA I.length aE,vi (t2:Int),.int .u64 s2]/\Blk w b5 39 [vi 0,.slice none 0 0,.slice none 0 0,vi 0,vi 0]/\Blk w b11 39 [vi o.n,.slice W o.ns.length aB,.slice a6 o.ws.length a7,vi o.t,vi o.r]/\Rd w w0.heap.size b4 encU aA I/\Rd w w.heap.size 81 encNd W o.ns/\Rd w w.heap.size 83 encWr a6 o.ws/\o.ws.length<=a7/\Kept bV w0.heap.size w0 w) (fun (s:Int×Dg×Nat×Int)=>match s with|(j,o,t2,s2)=>j.toNat) (bS,aH,bT,bU) ?_ ?_
 ·exact ⟨b8,b9,bA,bB,N.sb,(by omega),bC.1,(by omega),q,p,i,c,J.rd,H.rd,H.cap,G⟩
 rintro ⟨j,o,t2,s2⟩ a w6 ⟨W,aB,a6,a7,N,hj,hI,cB,q,p,i,c,D,E,aQ,G⟩;refine Q5 fun _ bH=>?_;refine Zs N fun _ bJ=>?_;refine Zm rfl<|Ze (X3h rfl rfl)<|Zt bJ fun a N=>?_
 refine Xi N rfl (fun a8=>?_) (fun a8=>?_)
 ·have aX:=a8;have a8:=Q2 a8;refine Q7<|bH _ _<|Q5 fun _ aT=>?_;refine Q8<|Q5 fun _ bK=>?_;refine X00 (some bV) (fun _=>false) mixed ?_;intro w7 C;have q:=q.bw C;have p:=p.bw C;have i:=i.bw C;have c:=c.bw C;have D:=D.bw C;have E:=E.bw C;have G:=ktr G C;refine Yb N<|Yw 0 rfl tv0 (fun w1 h1=>X01 (l:=[vi o.n,.slice W o.ns.length aB,.slice a6 o.ws.length a7,vi o.t,vi o.r]) rfl X2 ((i.oz h1 q rfl).at 0) rfl) ?_;refine Yo 1 rfl (fun _=>X3 rfl)<|Y1 2 ?_;refine Yf rfl tv0 (EfW.mono (Vc (X15 _ bV aA aE I c.top aP aD t2 s2 q 5 (by omega)) X0i) (fun _ _ h=>⟨fun _=>by obtain ⟨f,aJ,aK,rfl,aY,aZ,hK,Q⟩:=h;exact hK.keep,h⟩)) ?_;rintro _ w8 ⟨f,aJ,aK,rfl,aY,aZ,hK,Q⟩;obtain ⟨wm,M,hm,C⟩:=hK.mid;clear hm;have m:=q;have p:=p.oz M m rfl;have i:=i.oz M m rfl;have c:=c.onlyA M aD;have D:=D.oT M m rfl;have E:=E.oT M m rfl;have G:=G.self M;have p:=p.bw C;have i:=i.bw C;have c:=c.bw C;have D:=D.bw C;have E:=E.bw C;have G:=ktr G C
  clear m C M hK;have q:=Q;clear Q;refine Yo 3 rfl (fun _=>Xm rfl rfl (by omega) (by omega))<|Y1 4 ?_;refine Yf rfl tv0 (EfW.mono (Vc (Xsm _ o o.ns.length rfl W aB D.top a6 a7 E.top aQ (1+f) hI) Xg2) (fun _ _ h=>⟨fun _=>by obtain ⟨bW,bX,rfl,L,C⟩:=h;exact Keep.of_below C,h⟩)) ?_;rintro _ w9 ⟨bW,bX,rfl,L,C⟩;have L:=L.lower G.size;have q:=q.bw C;have p:=p.bw C;have i:=i.bw C;have c:=c.bw C;have D:=D.bw C;have E:=E.bw C;have G:=ktr G C;refine Yo 5 rfl (fun _=>Xr rfl) ?_;refine Yd fun a N=>?_;refine bK _ _<|Zs N fun _ bL=>?_;refine Zm rfl<|Ze (X0c rfl X40)<|Ze (X3h rfl rfl)<|Zt bL fun a N=>?_
  refine Xi N rfl (fun U=>?_) (fun U=>?_)
  ·have b0:=U;have U:=Q2 U
   have cC:0<(alL o (1+f)).length:=by have h8:=U;omega
   refine X00 (some bV) (fun j=>[12].contains j) mixed ?_;intro cD C;have q:=q.bw C;have p:=p.bw C;have i:=i.bw C;have c:=c.bw C;have D:=D.bw C;have E:=E.bw C;have L:=L.bw C;have G:=ktr G C;refine Yb N<|Yw 0 rfl tv0 (fun w1 h1=>X01 (l:=[vi o.n,.slice W o.ns.length aB,.slice a6 o.ws.length a7,vi o.t,vi o.r]) rfl X2 ((i.oz h1 q rfl).at 0) rfl) ?_;refine Yo 1 rfl (fun _=>X3 rfl)<|Yo 2 rfl (fun _=>X3 rfl)<|Yo 3 rfl (fun _=>X3 rfl)<|Yo 4 rfl (fun _=>X0c rfl X40)<|Y1 5 ?_;refine Yf rfl tv0 (EfW.mono (Vc (X15 _ bV aA aE I c.top aP aD aJ aK q ((alL o (1+f)).length:Int) (by omega)) X0i) (fun _ _ h=>⟨fun _=>by obtain ⟨g,aU,aV,rfl,b1,b2,hK,Q⟩:=h;exact hK.keep,h⟩)) ?_;rintro _ cE ⟨g,aU,aV,rfl,b1,b2,hK,Q⟩;obtain ⟨wm,M,hm,C⟩:=hK.mid;clear hm;have m:=q;have p:=p.oz M m rfl;have i:=i.oz M m rfl;have c:=c.onlyA M aD;have D:=D.oT M m rfl;have E:=E.oT M m rfl;have L:=L.oT M m rfl;have G:=G.self M;have p:=p.bw C;have i:=i.bw C;have c:=c.bw C;have D:=D.bw C;have E:=E.bw C;have L:=L.bw C;have G:=ktr G C
   clear m C M hK;have q:=Q;clear Q;refine Ya (k:=g.toNat) (u:=((alL o (1+f)).getD g.toNat rwZ)) (enc:=encRz) (l:=(alL o (1+f))) 6 rfl tv0 q rfl rfl rfl X40 X2q X7s L.rd (Xb (d:=rwZ) (by omega)) (by omega) ?_;intro cF b3 aR;refine Yw 7 rfl tv0 (fun w1 h1=>X01 (l:=[vi (((alL o (1+f)).getD g.toNat rwZ).u),vi (((alL o (1+f)).getD g.toNat rwZ).a),vi (((alL o (1+f)).getD g.toNat rwZ).b)]) rfl X1q (b3.oy h1 aR) rfl) ?_;refine Y1 8<|Yf rfl tv0 (EfW.mono (Vc (Xk9 _ o o.ns.length rfl W aB D.top a6 a7 E.top aQ ((alL o (1+f)).getD g.toNat rwZ) hI) Xbf) (fun _ _ h=>⟨fun _=>by obtain ⟨aL,aM,aN,aO,rfl,aF,aG,aW,C⟩:=h;exact Keep.of_below C,h⟩)) ?_;rintro _ cG ⟨aL,aM,aN,aO,rfl,aF,aG,aW,C⟩;have q:=q.bw C;have p:=p.bw C;have i:=i.bw C;have c:=c.bw C;have G:=ktr G C;refine Yo 9 rfl (fun _=>X3 rfl)<|Yo 10 rfl (fun _=>Xp (vs:=[.agg #[vi ((if (apC o ((alL o (1+f)).getD g.toNat rwZ))=true then apD o ((alL o (1+f)).getD g.toNat rwZ) else zD).n),.slice aL ((if (apC o ((alL o (1+f)).getD g.toNat rwZ))=true then apD o ((alL o (1+f)).getD g.toNat rwZ) else zD).ns).length aM,.slice aN ((if (apC o ((alL o (1+f)).getD g.toNat rwZ))=true then apD o ((alL o (1+f)).getD g.toNat rwZ) else zD).ws).length aO,vi ((if (apC o ((alL o (1+f)).getD g.toNat rwZ))=true then apD o ((alL o (1+f)).getD g.toNat rwZ) else zD).t),vi ((if (apC o ((alL o (1+f)).getD g.toNat rwZ))=true then apD o ((alL o (1+f)).getD g.toNat rwZ) else zD).r)],.bool (apC o ((alL o (1+f)).getD g.toNat rwZ))]) rfl rfl)<|Yo 11 rfl (fun _=>Xp (vs:=[.agg #[vi ((if (apC o ((alL o (1+f)).getD g.toNat rwZ))=true then apD o ((alL o (1+f)).getD g.toNat rwZ) else zD).n),.slice aL ((if (apC o ((alL o (1+f)).getD g.toNat rwZ))=true then apD o ((alL o (1+f)).getD g.toNat rwZ) else zD).ns).length aM,.slice aN ((if (apC o ((alL o (1+f)).getD g.toNat rwZ))=true then apD o ((alL o (1+f)).getD g.toNat rwZ) else zD).ws).length aO,vi ((if (apC o ((alL o (1+f)).getD g.toNat rwZ))=true then apD o ((alL o (1+f)).getD g.toNat rwZ) else zD).t),vi ((if (apC o ((alL o (1+f)).getD g.toNat rwZ))=true then apD o ((alL o (1+f)).getD g.toNat rwZ) else zD).r)],.bool (apC o ((alL o (1+f)).getD g.toNat rwZ))]) rfl rfl)<|Y1 12 ?_
   refine Yh rfl tv0 rfl (Vw [vi ((if (apC o ((alL o (1+f)).getD g.toNat rwZ))=true then apD o ((alL o (1+f)).getD g.toNat rwZ) else zD).n),.slice aL ((if (apC o ((alL o (1+f)).getD g.toNat rwZ))=true then apD o ((alL o (1+f)).getD g.toNat rwZ) else zD).ns).length aM,.slice aN ((if (apC o ((alL o (1+f)).getD g.toNat rwZ))=true then apD o ((alL o (1+f)).getD g.toNat rwZ) else zD).ws).length aO,vi ((if (apC o ((alL o (1+f)).getD g.toNat rwZ))=true then apD o ((alL o (1+f)).getD g.toNat rwZ) else zD).t),vi ((if (apC o ((alL o (1+f)).getD g.toNat rwZ))=true then apD o ((alL o (1+f)).getD g.toNat rwZ) else zD).r)] Xf i) ?_;rintro _ cH ⟨ho,hb⟩;have m:=i;have q:=q.oz ho m rfl;have p:=p.oy ho (by omega);have c:=c.oy ho aC;have aF:=aF.oT ho m rfl;have aG:=aG.oT ho m rfl;have G:=Kept.oy G ho aC;have i:=hb;refine Yd fun a N=>?_;refine Xc<|aT _ _<|Zr N<|Zm rfl<|Ze (X11 rfl rfl (by omega) (by omega))<|Za rfl ?_;refine Zn fun a N=>?_;refine Xd ?_;exact ⟨(j-1,(if (apC o ((alL o (1+f)).getD g.toNat rwZ))=true then apD o ((alL o (1+f)).getD g.toNat rwZ) else zD),aU,aV),⟨aL,aM,aN,aO,N.sb,(by omega),Y09,(by omega),q,p,i,c,aF.top,aG.top,aW,G⟩,(by first|omega|(dsimp only;omega))⟩
  have b0:=U;have U:=Q1 U;refine Q7<|Xc<|aT _ _<|Zr N ?_;refine Zm rfl<|Ze (X11 rfl rfl (by omega) (by omega))<|Za rfl ?_;refine Zn fun a N=>?_;refine Xd ?_;exact ⟨(j-1,o,aJ,aK),⟨W,aB,a6,a7,N.sb,(by omega),hI,(by omega),q,p,i,c,D.top,E.top,aQ,G⟩,(by first|omega|(dsimp only;omega))⟩
 have aX:=a8;have a8:=Q1 a8;refine Q9<|Xk<|Xk<|X03 ?_;refine bF _ _<|Zs N fun _ bM=>?_;refine Ze (Vn X2 i)<|Zo (Vw [vi o.n,.slice W o.ns.length aB,.slice a6 o.ws.length a7,vi o.t,vi o.r] Xf p) ?_;rintro _ cI ⟨ho,hb⟩;have m:=p;have q:=q.oz ho m rfl;have D:=D.oT ho m rfl;have E:=E.oT ho m rfl;have G:=Kept.oy G ho b7;have p:=hb;refine Zt bM fun a N=>?_
 refine Q6 (X6 N (Xu N rfl (ResV.cellN (l:=[vi o.n,.slice W o.ns.length aB,.slice a6 o.ws.length a7,vi o.t,vi o.r]) rfl X2 (p.at 0) rfl)) ?_)
 exact ⟨o,W,aB,a6,a7,_,_,(by first|rfl|(simp only [List.length_set])),hI,⟨by omega,by omega⟩,D.top,E.top,aQ,G,q⟩
theorem Y10(w0:World)(bV:Nat){bW:TypeId}(D:Option Addr)(G:Nat)(q:List Int)(c:Rd w0 w0.heap.size bW encU D q)(W:∀ x ∈ q,0<=x/\x<=255)(A:AwayR q D bV)(t:Nat)(sd:Int)(g:Blk w0 bV 103 [.slice D q.length G,vi (t:Int),.int .u64 sd])(d:Dg)(md:Nat)(bB:md=d.ns.length)(Ad:Option Addr)(cd:Nat)(H:Rd w0 w0.heap.size 81 encNd Ad d.ns)(Bd:Option Addr)(dd:Nat)(I:Rd w0 w0.heap.size 83 encWr Bd d.ws)(bC:d.ws.length<=dd)(hD:InD d)(ht:t+30<=100000000) : Ret Tryz.prog 64 [(pZ9 bV),.agg #[vi d.n,.slice Ad md cd,.slice Bd d.ws.length dd,vi d.t,vi d.r]] w0 (fun v w=>∃ (x:Rz) (t1:Nat) (s1:Int),v=.agg #[vi x.u,vi x.a,vi x.b]/\(True)/\(t<=t1/\t1<=t+30)/\Kept bV w0.heap.size w0 w/\Blk w bV 103 [.slice D q.length G,vi (t1:Int),.int .u64 s1]):=by
 have cG:=g.lt;have cL:=hD.m;refine enter Tryz.func64 rfl 50 rfl rfl ?_;intro a hf
 have o:Kept bV w0.heap.size w0 w0:=Kept.refl _ _ _
 refine Zs hf fun _ bX=>?_;refine Zf (X0n (zs:=[vi d.n,.slice Ad md cd,.slice Bd d.ws.length dd,vi d.t,vi d.r]) rfl rfl) ?_;rintro _ w1 ⟨b5,rfl,bD,i,C⟩;have cH:=Q0 o.size bD;have bS:=c.away bD;have g:=g.bw i;have c:=c.bw i;have H:=H.bw i;have I:=I.bw i;have o:=ktr o i;refine Zf (Xo (zs:=[vi 0,vi 0,vi 0]) X8u rfl) ?_;rintro _ w2 ⟨b6,rfl,bE,i,e⟩;have aA:=Q0 o.size bE;have bT:=c.away bE;have g:=g.bw i;have C:=C.bw i;have c:=c.bw i;have H:=H.bw i;have I:=I.bw i;have o:=ktr o i;refine ZX bX fun a hf _ bF=>?_;refine Q5 fun _ bY=>?_;refine X00 (some bV) (fun _=>false) mixed ?_;intro w3 i;have g:=g.bw i;have C:=C.bw i;have e:=e.bw i;have c:=c.bw i;have H:=H.bw i;have I:=I.bw i;have o:=ktr o i;refine Yb hf<|Yw 0 rfl tv0 (fun w1 h1=>X01 (l:=[vi d.n,.slice Ad md cd,.slice Bd d.ws.length dd,vi d.t,vi d.r]) rfl X2 ((C.oz h1 g rfl).at 0) rfl) ?_;refine Yo 1 rfl (fun _=>X3 rfl)<|Y1 2 ?_;refine Yf rfl tv0 (EfW.mono (Vc (X15 _ bV D G q c.top W A t sd g 5 (by omega)) X0i) (fun _ _ h=>⟨fun _=>by obtain ⟨Q,aT,aU,rfl,bG,bH,B,j⟩:=h;exact B.keep,h⟩)) ?_;rintro _ w4 ⟨Q,aT,aU,rfl,bG,bH,B,j⟩;obtain ⟨wm,p,hm,i⟩:=B.mid;clear hm;have f:=g;have C:=C.oz p f rfl;have e:=e.oz p f rfl;have c:=c.onlyA p A;have H:=H.oT p f rfl;have I:=I.oT p f rfl;have o:=o.self p;have C:=C.bw i;have e:=e.bw i
 have c:=c.bw i;have H:=H.bw i;have I:=I.bw i;have o:=ktr o i
 clear f i p B;have g:=j;clear j;refine Yo 3 rfl (fun _=>Xm rfl rfl (by omega) (by omega))<|Y1 4 ?_;refine Yf rfl tv0 (EfW.mono (Vc (Xsm _ d md bB Ad cd H.top Bd dd I.top bC (1+Q) hD) Xg2) (fun _ _ h=>⟨fun _=>by obtain ⟨A9,c9,rfl,a6,i⟩:=h;exact Keep.of_below i,h⟩)) ?_;rintro _ w5 ⟨A9,c9,rfl,a6,i⟩;have bU:=a6.awayNew e.lt;have a6:=a6.lower o.size;have g:=g.bw i;have C:=C.bw i;have e:=e.bw i;have c:=c.bw i;have o:=ktr o i;refine Yo 5 rfl (fun _=>Xr rfl) ?_;refine Yd fun a hf=>?_;refine bY _ _<|Zs hf fun _ aM=>?_;refine Zm rfl<|Ze (X0c rfl X40)<|Ze (X3h rfl rfl)<|Zm rfl ?_
 refine Zg 15 rfl (fun U=>?_) (fun U=>?_)
 ·have cM:0<(alL d (1+Q)).length:=by have h8:=U;simp only [Qr] at h8;omega
  refine Zv (gW U) (X3 rfl) ?_;refine Zk (gW U) (Vc (X4i _ bV D G q c.top W A aT aU g 4 (by omega)) X2k) ?_;rintro _ w6 ⟨cI,aN,aO,rfl,bZ,c5,B,j⟩;obtain ⟨wm,p,hm,i⟩:=B.mid;clear hm;have f:=g;have C:=C.oz p f rfl;have e:=e.oz p f rfl;have c:=c.onlyA p A;have a6:=a6.oT p f rfl;have o:=o.self p;have C:=C.bw i;have e:=e.bw i;have c:=c.bw i;have a6:=a6.bw i;have o:=ktr o i
  clear f i p B;have g:=j;clear j;refine Zv (gW U) (X0y rfl) ?_;refine Ze (X4 rfl U rfl)<|Zt aM fun a hf=>?_
  refine Xi hf rfl (fun aB=>?_) (fun aB=>?_)
  ·have aV:=aB;refine Zs hf fun _ bJ=>?_;refine Zm rfl<|Zm rfl<|Zm rfl<|Ze (X0c rfl X40)<|Zf (Vc (X15 _ bV D G q c.top W A aN aO g ((alL d (1+Q)).length:Int) (by omega)) X0i) ?_;rintro _ w7 ⟨E,cJ,cK,rfl,cA,cB,B,j⟩;obtain ⟨wm,p,hm,i⟩:=B.mid;clear hm;have f:=g;have e:=e.oz p f rfl;have a6:=a6.oT p f rfl;have o:=o.self p;have e:=e.bw i;have a6:=a6.bw i;have o:=ktr o i
   clear f i p B;have g:=j;clear j;refine Zi (k:=E.toNat) (u:=((alL d (1+Q)).getD E.toNat rwZ)) (enc:=encRz) (l:=(alL d (1+Q))) tv0 rfl rfl X40 X2q X7s a6.rd (Xb (d:=rwZ) (by omega)) (by omega) ?_;intro cN aW;refine Ze (X01 (l:=[vi (((alL d (1+Q)).getD E.toNat rwZ).u),vi (((alL d (1+Q)).getD E.toNat rwZ).a),vi (((alL d (1+Q)).getD E.toNat rwZ).b)]) rfl X1q aW rfl)<|Zo (Vw [vi (((alL d (1+Q)).getD E.toNat rwZ).u),vi (((alL d (1+Q)).getD E.toNat rwZ).a),vi (((alL d (1+Q)).getD E.toNat rwZ).b)] X2q e) ?_;rintro _ w8 ⟨ho,hb⟩;have f:=e;have g:=g.oz ho f rfl;have o:=Kept.oy o ho aA;have e:=hb;refine Zt bJ fun a hf=>?_;refine Q6<|Xa<|X6 hf (Xu hf rfl (ResV.cellN (l:=[vi (((alL d (1+Q)).getD E.toNat rwZ).u),vi (((alL d (1+Q)).getD E.toNat rwZ).a),vi (((alL d (1+Q)).getD E.toNat rwZ).b)]) rfl X1q (e.at 0) rfl)) ?_;exact ⟨((alL d (1+Q)).getD E.toNat rwZ),_,_,rfl,trivial,⟨by omega,by omega⟩,o,g⟩
  have aV:=aB;refine Q7<|bF _ _<|Zs hf fun _ bK=>?_;refine Ze (Vd rfl Xg 1)<|Ze (X0 rfl Xy (C.at 1))<|Ze (X0c rfl Xl)<|Za rfl<|Zx bK fun a hf _ bL=>?_;refine Zm rfl<|Zf (Vc (X15 _ bV D G q c.top W A aN aO g 7 (by omega)) X0i) ?_;rintro _ w9 ⟨J,aC,aD,rfl,aX,aY,B,j⟩;obtain ⟨wm,p,hm,i⟩:=B.mid;clear hm;have f:=g;have e:=e.oz p f rfl;have c:=c.onlyA p A;have o:=o.self p;have e:=e.bw i;have c:=c.bw i;have o:=ktr o i
  clear f i p B;have g:=j;clear j;refine Zm rfl<|Zm rfl<|Ze (Xm rfl rfl (by omega) (by omega))<|Zf (Vc (X15 _ bV D G q c.top W A aC aD g ((md:Int)+1) (by omega)) X0i) ?_;rintro _ cO ⟨L,aE,aF,rfl,aZ,b0,B,j⟩;obtain ⟨wm,p,hm,i⟩:=B.mid;clear hm;have f:=g;have e:=e.oz p f rfl;have c:=c.onlyA p A;have o:=o.self p;have e:=e.bw i;have c:=c.bw i;have o:=ktr o i
  clear f i p B;have g:=j;clear j;refine Ze (X11 rfl rfl (by omega) (by omega))<|Zm rfl<|Zf (Vc (X15 _ bV D G q c.top W A aE aF g 2 (by omega)) X0i) ?_;rintro _ cP ⟨M,aG,aH,rfl,b1,b2,B,j⟩;obtain ⟨wm,p,hm,i⟩:=B.mid;clear hm;have f:=g;have e:=e.oz p f rfl;have c:=c.onlyA p A;have o:=o.self p;have e:=e.bw i;have c:=c.bw i;have o:=ktr o i
  clear f i p B;have g:=j;clear j;refine Ze (Xm rfl rfl (by omega) (by omega))<|Zm rfl<|Zm rfl<|Zm rfl<|Zf (Vc (X15 _ bV D G q c.top W A aG aH g (md:Int) (by omega)) X0i) ?_;rintro _ cQ ⟨a7,aI,aJ,rfl,b3,b4,B,j⟩;obtain ⟨wm,p,hm,i⟩:=B.mid;clear hm;have f:=g;have e:=e.oz p f rfl;have c:=c.onlyA p A;have o:=o.self p;have e:=e.bw i;have c:=c.bw i;have o:=ktr o i
  clear f i p B;have g:=j;clear j;refine Zm rfl<|Zm rfl<|Zf (Vc (X15 _ bV D G q c.top W A aI aJ g (md:Int) (by omega)) X0i) ?_;rintro _ cR ⟨a8,aK,aL,rfl,b7,b8,B,j⟩;obtain ⟨wm,p,hm,i⟩:=B.mid;clear hm;have f:=g;have e:=e.oz p f rfl;have c:=c.onlyA p A;have o:=o.self p;have e:=e.bw i;have c:=c.bw i;have o:=ktr o i
  clear f i p B;have g:=j;clear j;refine Zf (Xs (k:=5) (vs:=[vi 0,vi 0,vi a7,vi a8,vi (-1)]) (zs:=[vi 0,vi 0,vi a7,vi a8,vi (-1)]) rfl Xj X1h rfl rfl) ?_;rintro _ cS ⟨cC,rfl,aP,i,aQ⟩;have cD:=Q0 o.size aP;have bM:=c.away aP;have g:=g.bw i;have e:=e.bw i;have c:=c.bw i;have o:=ktr o i;refine Zf (Vc (Xad _ bV D G q c.top W A aK aL g (some ⟨cC,0,none⟩) 5 ([0,0,a7,a8,-1]) (Rd.of_blk aQ rfl _ aQ.lt) (by simp) (by simp) (by omega)) X65) ?_;rintro _ cT ⟨N,bN,bO,rfl,b9,bA,B,j⟩;obtain ⟨wm,p,hm,i⟩:=B.mid;clear hm;have f:=g;have e:=e.oz p f rfl;have o:=o.self p;have e:=e.bw i;have o:=ktr o i
  clear f i p B;have g:=j;clear j;refine Ze (X0e (ps:=[(0,vi J),(1,vi ((L-1)+M)),(2,vi N)]) (cs:=[vi J,vi ((L-1)+M),vi N]) rfl (fun _=>by first|rfl|kernel_rfl))<|Zo (Vw [vi J,vi ((L-1)+M),vi N] X2q e) ?_;rintro _ cU ⟨ho,hb⟩;have f:=e;have g:=g.oz ho f rfl;have o:=Kept.oy o ho aA;have e:=hb;refine Zt bL fun a hf=>?_
  refine Q6 (X6 hf (Xu hf rfl (ResV.cellN (l:=[vi J,vi ((L-1)+M),vi N]) rfl X1q (e.at 0) rfl)) ?_)
  exact ⟨(⟨J,(L-1)+M,N⟩ : Rz),_,_,rfl,trivial,⟨by omega,by omega⟩,o,g⟩
 (iterate 3 refine Zp (gP U) ?_);refine Ze (Xe rfl U rfl)<|Zt aM fun a hf=>?_;refine Xco hf rfl ?_;refine Q7<|bF _ _<|Zs hf fun _ bP=>?_;refine Ze (Vd rfl Xg 1)<|Ze (X0 rfl Xy (C.at 1))<|Ze (X0c rfl Xl)<|Za rfl<|Zx bP fun a hf _ bQ=>?_;refine Zm rfl<|Zf (Vc (X15 _ bV D G q c.top W A aT aU g 7 (by omega)) X0i) ?_;rintro _ cV ⟨J,aC,aD,rfl,aX,aY,B,j⟩;obtain ⟨wm,p,hm,i⟩:=B.mid;clear hm;have f:=g;have e:=e.oz p f rfl;have c:=c.onlyA p A;have o:=o.self p;have e:=e.bw i;have c:=c.bw i;have o:=ktr o i
 clear f i p B;have g:=j;clear j;refine Zm rfl<|Zm rfl<|Ze (Xm rfl rfl (by omega) (by omega))<|Zf (Vc (X15 _ bV D G q c.top W A aC aD g ((md:Int)+1) (by omega)) X0i) ?_;rintro _ cW ⟨L,aE,aF,rfl,aZ,b0,B,j⟩;obtain ⟨wm,p,hm,i⟩:=B.mid;clear hm;have f:=g;have e:=e.oz p f rfl;have c:=c.onlyA p A;have o:=o.self p;have e:=e.bw i;have c:=c.bw i;have o:=ktr o i
 clear f i p B;have g:=j;clear j;refine Ze (X11 rfl rfl (by omega) (by omega))<|Zm rfl<|Zf (Vc (X15 _ bV D G q c.top W A aE aF g 2 (by omega)) X0i) ?_;rintro _ cX ⟨M,aG,aH,rfl,b1,b2,B,j⟩;obtain ⟨wm,p,hm,i⟩:=B.mid;clear hm;have f:=g;have e:=e.oz p f rfl;have c:=c.onlyA p A;have o:=o.self p;have e:=e.bw i;have c:=c.bw i;have o:=ktr o i
 clear f i p B;have g:=j;clear j;refine Ze (Xm rfl rfl (by omega) (by omega))<|Zm rfl<|Zm rfl<|Zm rfl<|Zf (Vc (X15 _ bV D G q c.top W A aG aH g (md:Int) (by omega)) X0i) ?_;rintro _ cY ⟨a7,aI,aJ,rfl,b3,b4,B,j⟩;obtain ⟨wm,p,hm,i⟩:=B.mid;clear hm;have f:=g;have e:=e.oz p f rfl;have c:=c.onlyA p A;have o:=o.self p;have e:=e.bw i;have c:=c.bw i;have o:=ktr o i
 clear f i p B;have g:=j;clear j;refine Zm rfl<|Zm rfl<|Zf (Vc (X15 _ bV D G q c.top W A aI aJ g (md:Int) (by omega)) X0i) ?_;rintro _ cZ ⟨a8,aK,aL,rfl,b7,b8,B,j⟩;obtain ⟨wm,p,hm,i⟩:=B.mid;clear hm;have f:=g;have e:=e.oz p f rfl;have c:=c.onlyA p A;have o:=o.self p;have e:=e.bw i;have c:=c.bw i;have o:=ktr o i
 clear f i p B;have g:=j;clear j;refine Zf (Xs (k:=5) (vs:=[vi 0,vi 0,vi a7,vi a8,vi (-1)]) (zs:=[vi 0,vi 0,vi a7,vi a8,vi (-1)]) rfl Xj X1h rfl rfl) ?_;rintro _ d5 ⟨cE,rfl,aR,i,aS⟩;have cF:=Q0 o.size aR;have bR:=c.away aR;have g:=g.bw i;have e:=e.bw i;have c:=c.bw i;have o:=ktr o i;refine Zf (Vc (Xad _ bV D G q c.top W A aK aL g (some ⟨cE,0,none⟩) 5 ([0,0,a7,a8,-1]) (Rd.of_blk aS rfl _ aS.lt) (by simp) (by simp) (by omega)) X65) ?_;rintro _ d6 ⟨N,bN,bO,rfl,b9,bA,B,j⟩;obtain ⟨wm,p,hm,i⟩:=B.mid;clear hm;have f:=g;have e:=e.oz p f rfl;have o:=o.self p;have e:=e.bw i;have o:=ktr o i
 clear f i p B;have g:=j;clear j;refine Ze (X0e (ps:=[(0,vi J),(1,vi ((L-1)+M)),(2,vi N)]) (cs:=[vi J,vi ((L-1)+M),vi N]) rfl (fun _=>by first|rfl|kernel_rfl))<|Zo (Vw [vi J,vi ((L-1)+M),vi N] X2q e) ?_;rintro _ d7 ⟨ho,hb⟩;have f:=e;have g:=g.oz ho f rfl;have o:=Kept.oy o ho aA;have e:=hb;refine Zt bQ fun a hf=>?_
 refine Q6 (X6 hf (Xu hf rfl (ResV.cellN (l:=[vi J,vi ((L-1)+M),vi N]) rfl X1q (e.at 0) rfl)) ?_)
 exact ⟨(⟨J,(L-1)+M,N⟩ : Rz),_,_,rfl,trivial,⟨by omega,by omega⟩,o,g⟩
end Go.Proofs.YtpifljegadknkaaGreat
