/-
  For every two circuits, the program's VerifyByRewriting returns what the reference's returns and leaves its arguments as they were.
-/
import Derived.Test.YtpifljegadknkaaGreatQ2
import Derived.Test.YtpifljegadknkaaGreatQ1
set_option linter.unusedVariables false
set_option linter.unusedSimpArgs false
set_option maxRecDepth 4000
set_option linter.unusedSectionVars false
namespace Go.Proofs.YtpifljegadknkaaGreat
open Go.RowKit
theorem Xo6(E:World)(d:Dg)(md:Nat)(G:md=d.ns.length)(Ad:Option Addr)(cd:Nat)(a6:Nat)(b:Own E a6 81 2 encNd Ad cd d.ns)(aO:a6≤E.heap.size)(Bd:Option Addr)(dd:Nat)(j:Rd E E.heap.size 83 encWr Bd d.ws)(H:d.ws.length≤dd)(p:Int)(q:Int)(aP:d.ws.length≤999999999) : Ret Tryz.prog 81 [.agg #[vi d.n,.slice Ad md cd,.slice Bd d.ws.length dd,vi d.t,vi d.r],vi p,vi q] E (fun v w=>∃ A' c',v=.agg #[vi (tgD d p q).n,.slice Ad md cd,.slice A' (tgD d p q).ws.length c',vi (tgD d p q).t,vi (tgD d p q).r]∧Own w a6 81 2 encNd Ad cd (tgD d p q).ns∧Rd w w.heap.size 83 encWr A' (tgD d p q).ws∧(tgD d p q).ws.length≤c'∧md=(tgD d p q).ns.length∧E.grownBy w (Value.slice Ad d.ns.length cd).ownBlock):=by
 have aA:=X79 d.ws p q;refine enter Tryz.func81 rfl 36 rfl rfl ?_;intro a x
 have m:E.grownBy E (Value.slice Ad d.ns.length cd).ownBlock:=World.grownBy.refl _ _
 refine Zs x fun _ aJ=>?_;refine Zf (X0c (zs:=[vi d.n,.slice Ad md cd,.slice Bd d.ws.length dd,vi d.t,vi d.r]) rfl rfl) ?_;rintro _ w1 ⟨b4,rfl,aK,u,c⟩;have y:=Q0 m.size aK;have b:=b.below u;have j:=j.below u;have m:=gbel m u;refine Zf (Xu (zs:=[vi 0,.slice none 0 0,.slice none 0 0,vi 0,vi 0]) X0s rfl) ?_;rintro _ w2 ⟨b7,rfl,aL,u,f⟩
 have aI:b4≠b7:=by have:=c.lt;omega
 have I:=Q0 m.size aL;have c:=c.below u;have b:=b.below u;have j:=j.below u;have m:=gbel m u;refine ZX aJ fun a x _ aM=>?_;refine Zs x fun _ aN=>?_;refine Ze (Vd rfl Xr 2)<|Ze (X0 rfl X0j (c.at 2))<|Zm rfl<|Zm rfl<|Zf (Vc (Xdy _ Bd dd d.ws j.top p q (by omega)) X7f) ?_;rintro _ w3 ⟨rfl,u⟩;have c:=c.below u;have f:=f.below u;have b:=b.below u;have j:=j.below u;have m:=gbel m u;refine Za rfl<|Zx aN fun a x _ aB=>?_;refine Zm rfl<|Ze (X4g rfl rfl)<|Zt aB fun a x=>?_
 refine Xg x rfl (fun k=>?_) (fun k=>?_)
 ·have a7:=k;have k:=Q2 k;have a8:=Xtj k;refine Zs x fun _ aC=>?_;refine Ze (Vd rfl Xr 2)<|Ze (X0 rfl X0j (c.at 2))<|Zm rfl<|Zf (Vc (Xeh _ Bd dd d.ws j.top (fdW d.ws p q) (by omega) H ⟨by omega,aA⟩) X7m) ?_;rintro _ w4 ⟨h,A,rfl,g,u⟩;have g:=g.lower m.size;have c:=c.below u;have f:=f.below u;have b:=b.below u;have m:=gbel m u;refine Ze (Vd rfl Xr 2)<|Zo (Vu (vs:=[.slice h (ctW d.ws (fdW d.ws p q).toNat).length A]) (l':=[vi d.n,.slice Ad md cd,.slice h (ctW d.ws (fdW d.ws p q).toNat).length A,vi d.t,vi d.r]) rfl rfl X1l c) ?_;rintro _ w5 ⟨o,D⟩;have e:=c;have f:=f.only o (by omega);have b:=b.onlyT o e rfl;have g:=g.onlyT o e rfl;have m:=gonly m o y;have c:=D;refine Zx aC fun a x _ aD=>?_;refine Ze (Vd rfl X02 4)<|Ze (X0 rfl X9 (c.at 4))<|Ze (Xbi rfl rfl)<|Ze (Vd rfl X02 4)<|Zo (Vu (vs:=[vi (wr (d.r-1))]) (l':=[vi d.n,.slice Ad md cd,.slice h (ctW d.ws (fdW d.ws p q).toNat).length A,vi d.t,vi (wr (d.r-1))]) rfl rfl X08 c) ?_;rintro _ w6 ⟨o,D⟩;have e:=c;have f:=f.only o (by omega);have b:=b.onlyT o e rfl;have g:=g.onlyT o e rfl;have m:=gonly m o y;have c:=D;refine Zx aD fun a x _ aE=>?_;refine Ze (Vn X2 c)<|Zo (Vw [vi d.n,.slice Ad md cd,.slice h (ctW d.ws (fdW d.ws p q).toNat).length A,vi d.t,vi (wr (d.r-1))] Xp f) ?_;rintro _ w7 ⟨o,D⟩;have e:=f;have b:=b.onlyT o e rfl;have g:=g.onlyT o e rfl;have m:=gonly m o I;have f:=D;refine Zt aE fun a x=>?_;refine Q6<|X6 ?_
  refine X4 x (Xt x rfl (ResV.cellN (l:=[vi d.n,.slice Ad md cd,.slice h (ctW d.ws (fdW d.ws p q).toNat).length A,vi d.t,vi (wr (d.r-1))]) rfl X2 (f.at 0) rfl)) ?_
  rw [a8]
  exact ⟨h,A,rfl,b,g.rd.top,g.cap,G,m⟩
 have a7:=k;have k:=Q1 k;have a8:=Xtq k;refine Q7<|aM _ _<|Zs x fun _ aF=>?_;refine Ze (Vd rfl Xr 2)<|Ze (X0 rfl X0j (c.at 2))<|Zm rfl<|Zm rfl<|Zf (Vc (X94 _ Bd dd d.ws j.top p q true (by omega) H) X5d) ?_;rintro _ w8 ⟨B,C,rfl,i,u⟩;have i:=i.lower m.size;have c:=c.below u;have f:=f.below u;have b:=b.below u;have m:=gbel m u;refine Ze (Vd rfl Xr 2)<|Zo (Vu (vs:=[.slice B (jnW d.ws p q true).length C]) (l':=[vi d.n,.slice Ad md cd,.slice B (jnW d.ws p q true).length C,vi d.t,vi d.r]) rfl rfl X1l c) ?_;rintro _ w9 ⟨o,D⟩;have e:=c;have f:=f.only o (by omega);have b:=b.onlyT o e rfl;have i:=i.onlyT o e rfl;have m:=gonly m o y;have c:=D;refine Zx aF fun a x _ aG=>?_;refine Ze (Vd rfl X02 4)<|Ze (X0 rfl X9 (c.at 4))<|Ze (X43 rfl rfl)<|Ze (Vd rfl X02 4)<|Zo (Vu (vs:=[vi (wr (d.r+1))]) (l':=[vi d.n,.slice Ad md cd,.slice B (jnW d.ws p q true).length C,vi d.t,vi (wr (d.r+1))]) rfl rfl X08 c) ?_;rintro _ aQ ⟨o,D⟩;have e:=c;have f:=f.only o (by omega);have b:=b.onlyT o e rfl;have i:=i.onlyT o e rfl;have m:=gonly m o y;have c:=D;refine Zx aG fun a x _ aH=>?_;refine Ze (Vn X2 c)<|Zo (Vw [vi d.n,.slice Ad md cd,.slice B (jnW d.ws p q true).length C,vi d.t,vi (wr (d.r+1))] Xp f) ?_;rintro _ aR ⟨o,D⟩;have e:=f;have b:=b.onlyT o e rfl;have i:=i.onlyT o e rfl;have m:=gonly m o I;have f:=D;refine Zt aH fun a x=>?_
 refine Q6 (X4 x (Xt x rfl (ResV.cellN (l:=[vi d.n,.slice Ad md cd,.slice B (jnW d.ws p q true).length C,vi d.t,vi (wr (d.r+1))]) rfl X2 (f.at 0) rfl)) ?_)
 rw [a8]
 exact ⟨B,C,rfl,b,i.rd.top,i.cap,G,m⟩
theorem Xtd(w0:World)(d:Dg)(md:Nat)(D:md=d.ns.length)(Ad:Option Addr)(cd:Nat)(aG:Nat)(b:Own w0 aG 81 2 encNd Ad cd d.ns)(aP:aG≤w0.heap.size)(Bd:Option Addr)(dd:Nat)(y:Rd w0 w0.heap.size 83 encWr Bd d.ws)(U:d.ws.length≤dd)(p:Int)(q:Int)(x:Bool)(bH:d.ws.length≤999999999)(b8:(0≤p∧p.toNat<d.ns.length)∧(0≤q∧q.toNat<d.ns.length))(hP:PhN d.ns) : Ret Tryz.prog 232 [.agg #[vi d.n,.slice Ad md cd,.slice Bd d.ws.length dd,vi d.t,vi d.r],vi p,vi q,.bool x] w0 (fun v w=>∃ A' c',v=.agg #[vi (lkD d p q x).n,.slice Ad md cd,.slice A' (lkD d p q x).ws.length c',vi (lkD d p q x).t,vi (lkD d p q x).r]∧Own w aG 81 2 encNd Ad cd (lkD d p q x).ns∧Rd w w.heap.size 83 encWr A' (lkD d p q x).ws∧(lkD d p q x).ws.length≤c'∧md=(lkD d p q x).ns.length∧w0.grownBy w (Value.slice Ad d.ns.length cd).ownBlock):=by
 have aH:=X79 d.ws p q;refine enter Tryz.func232 rfl 68 rfl rfl ?_;intro a m
 have g:w0.grownBy w0 (Value.slice Ad d.ns.length cd).ownBlock:=World.grownBy.refl _ _
 refine Zs m fun _ b9=>?_;refine Zf (X0c (zs:=[vi d.n,.slice Ad md cd,.slice Bd d.ws.length dd,vi d.t,vi d.r]) rfl rfl) ?_;rintro _ w1 ⟨b4,rfl,bA,i,c⟩;have J:=Q0 g.size bA;have b:=b.below i;have y:=y.below i;have g:=gbel g i;refine Zf (Xu (zs:=[vi 0,.slice none 0 0,.slice none 0 0,vi 0,vi 0]) X0s rfl) ?_;rintro _ w2 ⟨b7,rfl,bB,i,e⟩
 have b6:b4≠b7:=by have:=c.lt;omega
 have W:=Q0 g.size bB;have c:=c.below i;have b:=b.below i;have y:=y.below i;have g:=gbel g i;refine Zx b9 fun a m _ bC=>?_;refine Ze (Vd rfl Xr 2)<|Ze (X0 rfl X0j (c.at 2))<|Zm rfl<|Zm rfl<|Zf (Vc (Xdy _ Bd dd d.ws y.top p q (by omega)) X7f) ?_;rintro _ w3 ⟨rfl,i⟩;have c:=c.below i;have e:=e.below i;have b:=b.below i;have y:=y.below i;have g:=gbel g i;refine Za rfl<|ZX bC fun a m _ bD=>?_;refine Zs m fun _ aQ=>?_;refine Zm rfl<|Ze (X0l rfl rfl)<|Zt aQ fun a m=>?_
 refine Xg m rfl (fun A=>?_) (fun A=>?_)
 ·have H:=A;have A:=Q2 A;have Q:=Xtk (h:=x) A;refine Zs m fun _ aR=>?_;refine Ze (Vd rfl Xr 2)<|Ze (X0 rfl X0j (c.at 2))<|Zm rfl<|Zm rfl<|Zm rfl<|Zf (Vc (X94 _ Bd dd d.ws y.top p q x (by omega) U) X5d) ?_;rintro _ w4 ⟨aA,aB,rfl,G,i⟩;have G:=G.lower g.size;have c:=c.below i;have e:=e.below i;have b:=b.below i;have g:=gbel g i;refine Ze (Vd rfl Xr 2)<|Zo (Vu (vs:=[.slice aA (jnW d.ws p q x).length aB]) (l':=[vi d.n,.slice Ad md cd,.slice aA (jnW d.ws p q x).length aB,vi d.t,vi d.r]) rfl rfl X1l c) ?_;rintro _ w5 ⟨o,L⟩;have f:=c;have e:=e.only o (by omega);have b:=b.onlyT o f rfl;have G:=G.onlyT o f rfl;have g:=gonly g o J;have c:=L;refine Zx aR fun a m _ aS=>?_;refine Ze (Vn X2 c)<|Zo (Vw [vi d.n,.slice Ad md cd,.slice aA (jnW d.ws p q x).length aB,vi d.t,vi d.r] Xp e) ?_;rintro _ w6 ⟨o,L⟩;have f:=e;have b:=b.onlyT o f rfl;have G:=G.onlyT o f rfl;have g:=gonly g o W;have e:=L;refine Zt aS fun a m=>?_;refine Q6<|X6<|X4 m (Xt m rfl (ResV.cellN (l:=[vi d.n,.slice Ad md cd,.slice aA (jnW d.ws p q x).length aB,vi d.t,vi d.r]) rfl X2 (e.at 0) rfl)) ?_
  rw [Q]
  exact ⟨aA,aB,rfl,b,G.rd.top,G.cap,by first|exact D|exact D.trans (X21 _ _ _).symm,g⟩
 have H:=A;have A:=Q1 A;have aJ:=A
 have bJ:0≤fdW d.ws p q:=by have h9:=A;omega
 refine Q7<|bD _ _<|Zs m fun _ aT=>?_;refine Ze (Vd rfl Xr 2)<|Ze (X0 rfl X0j (c.at 2))<|Zm rfl<|Zi (k:=(fdW d.ws p q).toNat) (u:=(d.ws.getD (fdW d.ws p q).toNat wZ)) (enc:=encWr) (l:=d.ws) trivial rfl rfl Xx X0e Xy y (Xb (by omega)) (by omega) ?_;intro bK aK;refine Ze (X23 rfl X5k)<|Ze (X0 rfl X6c (aK.drop 2))<|Za rfl<|ZX aT fun a m _ aC=>?_;refine Q8<|Q5 fun _ aU=>?_;refine X0a (fun a w=>Fr a 68 [(1,vi p),(2,vi q),(3,.bool x),(4,.pointer (some ⟨b4,0,none⟩)),(8,.pointer (some ⟨b7,0,none⟩)),(9,vi (fdW d.ws p q)),(10,.bool ((d.ws.getD (fdW d.ws p q).toNat wZ).h)),(32,.bool (((d.ws.getD (fdW d.ws p q).toNat wZ).h)&&x))]∧w3=w) ?_ ?_
 ·refine Zr m<|Zm rfl<|Zm rfl ?_
  refine Zg 34 rfl (fun E=>?_) (fun E=>?_)
  ·refine Zv (gW E) (X3 rfl) ?_;refine Ze (X7 rfl E rfl)<|Za rfl ?_;refine Zn fun a m=>?_;exact ⟨m.sub ⟨rfl,rfl,rfl,rfl,rfl,rfl,rfl,X1 rfl (by first|rfl|(simp only [H,E,bs];done)|simp [H,E]),trivial⟩,rfl⟩
  refine Zp (gP E) ?_;refine Ze (Xe rfl E rfl)<|Za rfl ?_;refine Zn fun a m=>?_;exact ⟨m.sub ⟨rfl,rfl,rfl,rfl,rfl,rfl,rfl,X1 rfl (by first|rfl|(simp only [H,E,bs];done)|simp [H,E]),trivial⟩,rfl⟩
 rintro a _ ⟨m,rfl⟩;refine aU _ _ ?_
 refine Xg m rfl (fun M=>?_) (fun M=>?_)
 ·have aL:=M;have Q:=Xsm aJ M;refine Zs m fun _ aW=>?_;refine Ze (Vd rfl Xr 2)<|Ze (X0 rfl X0j (c.at 2))<|Zm rfl<|Zf (Vc (Xeh _ Bd dd d.ws y.top (fdW d.ws p q) (by omega) U ⟨by omega,aH⟩) X7m) ?_;rintro _ w7 ⟨a7,a8,rfl,B,i⟩;have B:=B.lower g.size;have c:=c.below i;have e:=e.below i;have b:=b.below i;have g:=gbel g i;refine Ze (Vd rfl Xr 2)<|Zo (Vu (vs:=[.slice a7 (ctW d.ws (fdW d.ws p q).toNat).length a8]) (l':=[vi d.n,.slice Ad md cd,.slice a7 (ctW d.ws (fdW d.ws p q).toNat).length a8,vi d.t,vi d.r]) rfl rfl X1l c) ?_;rintro _ w8 ⟨o,L⟩;have f:=c;have e:=e.only o (by omega);have b:=b.onlyT o f rfl;have B:=B.onlyT o f rfl;have g:=gonly g o J;have c:=L;refine Zt aW fun a m=>?_;refine Zr m<|Ze (Vd rfl X02 4)<|Ze (X0 rfl X9 (c.at 4))<|Ze (Xbi rfl rfl)<|Ze (Vd rfl X02 4)<|Zo (Vu (vs:=[vi (wr (d.r-2))]) (l':=[vi d.n,.slice Ad md cd,.slice a7 (ctW d.ws (fdW d.ws p q).toNat).length a8,vi d.t,vi (wr (d.r-2))]) rfl rfl X08 c) ?_;rintro _ w9 ⟨o,L⟩;have f:=c;have e:=e.only o (by omega);have b:=b.onlyT o f rfl;have B:=B.onlyT o f rfl;have g:=gonly g o J;have c:=L;refine Zn fun a m=>?_;refine Xa<|aC _ _<|Zs m fun _ aX=>?_;refine Ze (Vn X2 c)<|Zo (Vw [vi d.n,.slice Ad md cd,.slice a7 (ctW d.ws (fdW d.ws p q).toNat).length a8,vi d.t,vi (wr (d.r-2))] Xp e) ?_;rintro _ bL ⟨o,L⟩;have f:=e;have b:=b.onlyT o f rfl;have B:=B.onlyT o f rfl;have g:=gonly g o W;have e:=L;refine Zt aX fun a m=>?_
  refine Q6 (X4 m (Xt m rfl (ResV.cellN (l:=[vi d.n,.slice Ad md cd,.slice a7 (ctW d.ws (fdW d.ws p q).toNat).length a8,vi d.t,vi (wr (d.r-2))]) rfl X2 (e.at 0) rfl)) ?_)
  rw [Q]
  exact ⟨a7,a8,rfl,b,B.rd.top,B.cap,by first|exact D|exact D.trans (X21 _ _ _).symm,g⟩
 have aL:=M;have aY:=M;refine Zs m fun _ aZ=>?_;refine Zm rfl<|Zm rfl<|Ze (X77 Tryz.underlying4 rfl rfl)<|Za rfl<|Zt aZ fun a m=>?_
 refine Xg m rfl (fun N=>?_) (fun N=>?_)
 ·have aM:=N;have Q:=Xrz aJ aY N;refine Zs m fun _ b0=>?_;refine Ze (Vd rfl Xr 2)<|Ze (X0 rfl X0j (c.at 2))<|Zm rfl<|Zf (Vc (Xeh _ Bd dd d.ws y.top (fdW d.ws p q) (by omega) U ⟨by omega,aH⟩) X7m) ?_;rintro _ bM ⟨bE,bF,rfl,a6,i⟩;have a6:=a6.lower g.size;have c:=c.below i;have e:=e.below i;have b:=b.below i;have g:=gbel g i;refine Zm rfl<|Zm rfl<|Zf (Vc (X94 _ bE bF (ctW d.ws (fdW d.ws p q).toNat) a6.rd.top p q false (Q0 (X41 _ _).length_le (by omega)) a6.cap) X5d) ?_;rintro _ bN ⟨aN,aO,rfl,C,i⟩;have C:=C.lower g.size;have c:=c.below i;have e:=e.below i;have b:=b.below i;have g:=gbel g i;refine Ze (Vd rfl Xr 2)<|Zo (Vu (vs:=[.slice aN (jnW (ctW d.ws (fdW d.ws p q).toNat) p q false).length aO]) (l':=[vi d.n,.slice Ad md cd,.slice aN (jnW (ctW d.ws (fdW d.ws p q).toNat) p q false).length aO,vi d.t,vi d.r]) rfl rfl X1l c) ?_;rintro _ bO ⟨o,L⟩;have f:=c;have e:=e.only o (by omega);have b:=b.onlyT o f rfl;have C:=C.onlyT o f rfl;have g:=gonly g o J;have c:=L;refine ZX b0 fun a m _ b1=>?_;refine X05 none (fun j=>[4,5].contains j) mixed ?_;intro bP i;have c:=c.below i;have e:=e.below i;have b:=b.below i;have C:=C.below i;have g:=gbel g i;refine Yb m<|Ye 0 rfl (Vn X2 c)<|Yo 1 rfl (fun _=>X3 rfl)<|Yo 2 rfl (fun _=>X3 rfl)<|Y1 3 ?_;refine Yk rfl trivial (Vc (Xk9 _ p q) Xax) (fun _ _ ⟨_,i⟩=>i) ?_;rintro _ bR ⟨rfl,i⟩;have c:=c.below i;have e:=e.below i;have b:=b.below i;have C:=C.below i;have g:=gbel g i;refine Y1 4<|Yt rfl trivial rfl (Vc (X9e _ (⟨d.n,d.ns,(jnW (ctW d.ws (fdW d.ws p q).toNat) p q false),d.t,d.r⟩ : Dg) md D Ad cd aG b (Q0 aP g.size) aN aO C.rd.top C.cap (min p q) 4 (Xjc b8) (Xww hP _ (by decide) (by decide))) X5a) ?_;rintro _ bS ⟨aD,aE,rfl,aI,I,b2,bG,hg⟩
  have aF:=b;have c:=c.appT aF hg rfl;have e:=e.appT aF hg rfl;have g:=gtr g hg
  clear aF hg;clear b;have b:=aI;clear aI;refine Y1 5<|Yh rfl trivial rfl (Vw [vi (({ (⟨d.n,d.ns,(jnW (ctW d.ws (fdW d.ws p q).toNat) p q false),d.t,d.r⟩ : Dg) with ns:=adN (⟨d.n,d.ns,(jnW (ctW d.ws (fdW d.ws p q).toNat) p q false),d.t,d.r⟩ : Dg).ns (min p q) 4 } : Dg).n),.slice Ad md cd,.slice aD (({ (⟨d.n,d.ns,(jnW (ctW d.ws (fdW d.ws p q).toNat) p q false),d.t,d.r⟩ : Dg) with ns:=adN (⟨d.n,d.ns,(jnW (ctW d.ws (fdW d.ws p q).toNat) p q false),d.t,d.r⟩ : Dg).ns (min p q) 4 } : Dg).ws).length aE,vi (({ (⟨d.n,d.ns,(jnW (ctW d.ws (fdW d.ws p q).toNat) p q false),d.t,d.r⟩ : Dg) with ns:=adN (⟨d.n,d.ns,(jnW (ctW d.ws (fdW d.ws p q).toNat) p q false),d.t,d.r⟩ : Dg).ns (min p q) 4 } : Dg).t),vi (({ (⟨d.n,d.ns,(jnW (ctW d.ws (fdW d.ws p q).toNat) p q false),d.t,d.r⟩ : Dg) with ns:=adN (⟨d.n,d.ns,(jnW (ctW d.ws (fdW d.ws p q).toNat) p q false),d.t,d.r⟩ : Dg).ns (min p q) 4 } : Dg).r)] Xp c) ?_;rintro _ bT ⟨o,L⟩;have f:=c;have e:=e.only o (by omega);have b:=b.onlyT o f rfl;have I:=I.onlyT o f rfl;have g:=gonly g o J;have c:=L;refine Yd fun a m=>?_;refine b1 _ _<|Zr m<|Ze (Vd rfl X02 4)<|Ze (X0 rfl X9 (c.at 4))<|Ze (Xbi rfl rfl)<|Ze (Vd rfl X02 4)<|Zo (Vu (vs:=[vi (wr ((({ (⟨d.n,d.ns,(jnW (ctW d.ws (fdW d.ws p q).toNat) p q false),d.t,d.r⟩ : Dg) with ns:=adN (⟨d.n,d.ns,(jnW (ctW d.ws (fdW d.ws p q).toNat) p q false),d.t,d.r⟩ : Dg).ns (min p q) 4 } : Dg).r)-1))]) (l':=[vi (({ (⟨d.n,d.ns,(jnW (ctW d.ws (fdW d.ws p q).toNat) p q false),d.t,d.r⟩ : Dg) with ns:=adN (⟨d.n,d.ns,(jnW (ctW d.ws (fdW d.ws p q).toNat) p q false),d.t,d.r⟩ : Dg).ns (min p q) 4 } : Dg).n),.slice Ad md cd,.slice aD (({ (⟨d.n,d.ns,(jnW (ctW d.ws (fdW d.ws p q).toNat) p q false),d.t,d.r⟩ : Dg) with ns:=adN (⟨d.n,d.ns,(jnW (ctW d.ws (fdW d.ws p q).toNat) p q false),d.t,d.r⟩ : Dg).ns (min p q) 4 } : Dg).ws).length aE,vi (({ (⟨d.n,d.ns,(jnW (ctW d.ws (fdW d.ws p q).toNat) p q false),d.t,d.r⟩ : Dg) with ns:=adN (⟨d.n,d.ns,(jnW (ctW d.ws (fdW d.ws p q).toNat) p q false),d.t,d.r⟩ : Dg).ns (min p q) 4 } : Dg).t),vi (wr ((({ (⟨d.n,d.ns,(jnW (ctW d.ws (fdW d.ws p q).toNat) p q false),d.t,d.r⟩ : Dg) with ns:=adN (⟨d.n,d.ns,(jnW (ctW d.ws (fdW d.ws p q).toNat) p q false),d.t,d.r⟩ : Dg).ns (min p q) 4 } : Dg).r)-1))]) rfl rfl X08 c) ?_;rintro _ bU ⟨o,L⟩
  have f:=c;have e:=e.only o (by omega);have b:=b.onlyT o f rfl;have I:=I.onlyT o f rfl;have g:=gonly g o J;have c:=L;refine Zn fun a m=>?_;refine Xa<|aC _ _<|Zs m fun _ b3=>?_;refine Ze (Vn X2 c)<|Zo (Vw [vi (({ (⟨d.n,d.ns,(jnW (ctW d.ws (fdW d.ws p q).toNat) p q false),d.t,d.r⟩ : Dg) with ns:=adN (⟨d.n,d.ns,(jnW (ctW d.ws (fdW d.ws p q).toNat) p q false),d.t,d.r⟩ : Dg).ns (min p q) 4 } : Dg).n),.slice Ad md cd,.slice aD (({ (⟨d.n,d.ns,(jnW (ctW d.ws (fdW d.ws p q).toNat) p q false),d.t,d.r⟩ : Dg) with ns:=adN (⟨d.n,d.ns,(jnW (ctW d.ws (fdW d.ws p q).toNat) p q false),d.t,d.r⟩ : Dg).ns (min p q) 4 } : Dg).ws).length aE,vi (({ (⟨d.n,d.ns,(jnW (ctW d.ws (fdW d.ws p q).toNat) p q false),d.t,d.r⟩ : Dg) with ns:=adN (⟨d.n,d.ns,(jnW (ctW d.ws (fdW d.ws p q).toNat) p q false),d.t,d.r⟩ : Dg).ns (min p q) 4 } : Dg).t),vi (wr ((({ (⟨d.n,d.ns,(jnW (ctW d.ws (fdW d.ws p q).toNat) p q false),d.t,d.r⟩ : Dg) with ns:=adN (⟨d.n,d.ns,(jnW (ctW d.ws (fdW d.ws p q).toNat) p q false),d.t,d.r⟩ : Dg).ns (min p q) 4 } : Dg).r)-1))] Xp e) ?_;rintro _ bW ⟨o,L⟩;have f:=e;have b:=b.onlyT o f rfl;have I:=I.onlyT o f rfl;have g:=gonly g o W;have e:=L;refine Zt b3 fun a m=>?_
  refine Q6 (X4 m (Xt m rfl (ResV.cellN (l:=[vi (({ (⟨d.n,d.ns,(jnW (ctW d.ws (fdW d.ws p q).toNat) p q false),d.t,d.r⟩ : Dg) with ns:=adN (⟨d.n,d.ns,(jnW (ctW d.ws (fdW d.ws p q).toNat) p q false),d.t,d.r⟩ : Dg).ns (min p q) 4 } : Dg).n),.slice Ad md cd,.slice aD (({ (⟨d.n,d.ns,(jnW (ctW d.ws (fdW d.ws p q).toNat) p q false),d.t,d.r⟩ : Dg) with ns:=adN (⟨d.n,d.ns,(jnW (ctW d.ws (fdW d.ws p q).toNat) p q false),d.t,d.r⟩ : Dg).ns (min p q) 4 } : Dg).ws).length aE,vi (({ (⟨d.n,d.ns,(jnW (ctW d.ws (fdW d.ws p q).toNat) p q false),d.t,d.r⟩ : Dg) with ns:=adN (⟨d.n,d.ns,(jnW (ctW d.ws (fdW d.ws p q).toNat) p q false),d.t,d.r⟩ : Dg).ns (min p q) 4 } : Dg).t),vi (wr ((({ (⟨d.n,d.ns,(jnW (ctW d.ws (fdW d.ws p q).toNat) p q false),d.t,d.r⟩ : Dg) with ns:=adN (⟨d.n,d.ns,(jnW (ctW d.ws (fdW d.ws p q).toNat) p q false),d.t,d.r⟩ : Dg).ns (min p q) 4 } : Dg).r)-1))]) rfl X2 (e.at 0) rfl)) ?_)
  rw [Q]
  exact ⟨aD,aE,rfl,b,I.top,b2,by first|exact D|exact D.trans (X21 _ _ _).symm,g⟩
 have aM:=N;have Q:=Xwk aJ aY N;refine Q7<|Xa<|aC _ _<|Zs m fun _ b5=>?_;refine Ze (Vn X2 c)<|Zo (Vw [vi d.n,.slice Ad md cd,.slice Bd d.ws.length dd,vi d.t,vi d.r] Xp e) ?_;rintro _ bX ⟨o,L⟩;have f:=e;have b:=b.onlyT o f rfl;have y:=y.onlyT o f rfl;have g:=gonly g o W;have e:=L;refine Zt b5 fun a m=>?_
 refine Q6 (X4 m (Xt m rfl (ResV.cellN (l:=[vi d.n,.slice Ad md cd,.slice Bd d.ws.length dd,vi d.t,vi d.r]) rfl X2 (e.at 0) rfl)) ?_)
 rw [Q]
 exact ⟨Bd,dd,rfl,b,y.top,U,by first|exact D|exact D.trans (X21 _ _ _).symm,g⟩
theorem Xo7(I:World)(d:Dg)(md:Nat)(u:md=d.ns.length)(Ad:Option Addr)(cd:Nat)(H:Nat)(b:Own I H 81 2 encNd Ad cd d.ns)(aC:H≤I.heap.size)(Bd:Option Addr)(dd:Nat)(e:Rd I I.heap.size 83 encWr Bd d.ws)(A:d.ws.length≤dd)(p:Int)(q:Int)(x:Bool)(aJ:d.ws.length≤999999999)(aK:(0≤p∧p.toNat<d.ns.length)∧(0≤q∧q.toNat<d.ns.length))(hP:PhN d.ns)(hN:md≤1000) : Ret Tryz.prog 213 [.agg #[vi d.n,.slice Ad md cd,.slice Bd d.ws.length dd,vi d.t,vi d.r],vi p,vi q,.bool x] I (fun v w=>∃ A' c',v=.agg #[vi (mtD d p q x).n,.slice Ad md cd,.slice A' (mtD d p q x).ws.length c',vi (mtD d p q x).t,vi (mtD d p q x).r]∧Own w H 81 2 encNd Ad cd (mtD d p q x).ns∧Rd w w.heap.size 83 encWr A' (mtD d p q x).ws∧(mtD d p q x).ws.length≤c'∧md=(mtD d p q x).ns.length∧I.grownBy w (Value.slice Ad d.ns.length cd).ownBlock):=by
 refine enter Tryz.func213 rfl 30 rfl rfl ?_;intro a o
 have j:I.grownBy I (Value.slice Ad d.ns.length cd).ownBlock:=World.grownBy.refl _ _
 refine Zs o fun _ aL=>?_;refine Zf (X0c (zs:=[vi d.n,.slice Ad md cd,.slice Bd d.ws.length dd,vi d.t,vi d.r]) rfl rfl) ?_;rintro _ w1 ⟨b4,rfl,aM,i,f⟩;have aD:=Q0 j.size aM;have b:=b.below i;have e:=e.below i;have j:=gbel j i;refine Zf (Xu (zs:=[vi 0,.slice none 0 0,.slice none 0 0,vi 0,vi 0]) X0s rfl) ?_;rintro _ w2 ⟨b7,rfl,aN,i,g⟩
 have aI:b4≠b7:=by have:=f.lt;omega
 have J:=Q0 j.size aN;have f:=f.below i;have b:=b.below i;have e:=e.below i;have j:=gbel j i;refine ZX aL fun a o _ aO=>?_;refine Q5 fun _ aP=>?_;refine X0a (fun a w=>Fr a 30 [(1,vi p),(2,vi q),(3,.bool x),(4,.pointer (some ⟨b4,0,none⟩)),(8,.pointer (some ⟨b7,0,none⟩)),(16,.bool ((spI d.ns p)&&(spI d.ns q)))]∧Below w2.heap.size w2 w) ?_ ?_
 ·have B:Below w2.heap.size w2 w2:=Below.refl _ _
  refine Zr o<|Ze (Vn X2 f)<|Zm rfl<|Zf (Vc (X5t _ d md u Ad cd b.rd.top Bd dd e.top A p hN) X35) ?_;rintro _ w3 ⟨rfl,i⟩;have f:=f.below i;have b:=b.below i;have e:=e.below i;have j:=gbel j i;have B:=btr B i;refine Zm rfl ?_
  refine Zg 12 rfl (fun c=>?_) (fun c=>?_)
  ·refine Zv (gW c) (Vn X2 f) ?_;refine Zv (gW c) (X3 rfl) ?_;refine Zk (gW c) (Vc (X5t _ d md u Ad cd b.rd.top Bd dd e.top A q hN) X35) ?_;rintro _ w4 ⟨rfl,i⟩;have j:=gbel j i;have B:=btr B i;refine Ze (X7 rfl c rfl) ?_;refine Zn fun a o=>?_
   have a6:Below w2.heap.size w2 w4:=B
   exact ⟨o.sub ⟨rfl,rfl,rfl,rfl,rfl,X1 rfl (by first|rfl|(simp only [c,bs];done)|simp [c]),trivial⟩,a6⟩
  refine Zp (gP c) ?_;refine Zp (gP c) ?_;refine Zp (gP c) ?_;refine Ze (Xe rfl c rfl) ?_;refine Zn fun a o=>?_
  have a6:Below w2.heap.size w2 w3:=B
  exact ⟨o.sub ⟨rfl,rfl,rfl,rfl,rfl,X1 rfl (by first|rfl|(simp only [c,bs];done)|simp [c]),trivial⟩,a6⟩
 rintro a w5 ⟨o,i⟩;have f:=f.below i;have g:=g.below i;have b:=b.below i;have e:=e.below i;have j:=gbel j i;refine aP _ _ ?_
 refine Xg o rfl (fun y=>?_) (fun y=>?_)
 ·have a7:=y;have a8:=Xwf (h:=x) y;refine Zs o fun _ aE=>?_;refine Ze (Vn X2 f)<|Zm rfl<|Zm rfl<|Zm rfl<|Zf (Vc (Xtd _ d md u Ad cd H b (Q0 aC j.size) Bd dd e.top A p q x aJ aK hP) Xlz) ?_;rintro _ w6 ⟨aA,aB,rfl,L,D,aF,aQ,hg⟩;have M:=b;have g:=g.appT M hg rfl;have j:=gtr j hg
  clear M hg;clear b;have b:=L;clear L;refine Zo (Vw [vi ((lkD d p q x).n),.slice Ad md cd,.slice aA ((lkD d p q x).ws).length aB,vi ((lkD d p q x).t),vi ((lkD d p q x).r)] Xp g) ?_;rintro _ w7 ⟨C,hb⟩;have k:=g;have b:=b.onlyT C k rfl;have D:=D.onlyT C k rfl;have j:=gonly j C J;have g:=hb;refine Zt aE fun a o=>?_;refine Q6<|X6<|X4 o (Xt o rfl (ResV.cellN (l:=[vi ((lkD d p q x).n),.slice Ad md cd,.slice aA ((lkD d p q x).ws).length aB,vi ((lkD d p q x).t),vi ((lkD d p q x).r)]) rfl X2 (g.at 0) rfl)) ?_
  rw [a8]
  exact ⟨aA,aB,rfl,b,D.top,aF,by first|exact u|assumption,j⟩
 have a7:=y;have a8:=Xub (h:=x) y;refine Q7<|aO _ _<|Zs o fun _ aG=>?_;refine Ze (Vd rfl Xr 2)<|Ze (X0 rfl X0j (f.at 2))<|Zm rfl<|Zm rfl<|Zm rfl<|Zf (Vc (X94 _ Bd dd d.ws e.top p q x (by omega) A) X5d) ?_;rintro _ w8 ⟨E,G,rfl,m,i⟩;have m:=m.lower j.size;have f:=f.below i;have g:=g.below i;have b:=b.below i;have j:=gbel j i;refine Ze (Vd rfl Xr 2)<|Zo (Vu (vs:=[.slice E (jnW d.ws p q x).length G]) (l':=[vi d.n,.slice Ad md cd,.slice E (jnW d.ws p q x).length G,vi d.t,vi d.r]) rfl rfl X1l f) ?_;rintro _ w9 ⟨C,hb⟩;have k:=f;have g:=g.only C (by omega);have b:=b.onlyT C k rfl;have m:=m.onlyT C k rfl;have j:=gonly j C aD;have f:=hb;refine Zx aG fun a o _ aH=>?_;refine Ze (Vn X2 f)<|Zo (Vw [vi d.n,.slice Ad md cd,.slice E (jnW d.ws p q x).length G,vi d.t,vi d.r] Xp g) ?_;rintro _ aR ⟨C,hb⟩;have k:=g;have b:=b.onlyT C k rfl;have m:=m.onlyT C k rfl;have j:=gonly j C J;have g:=hb;refine Zt aH fun a o=>?_
 refine Q6 (X4 o (Xt o rfl (ResV.cellN (l:=[vi d.n,.slice Ad md cd,.slice E (jnW d.ws p q x).length G,vi d.t,vi d.r]) rfl X2 (g.at 0) rfl)) ?_)
 rw [a8]
 exact ⟨E,G,rfl,b,m.rd.top,m.cap,by first|exact u|assumption,j⟩
theorem X9q(D:World)(d:Dg)(md:Nat)(b0:md=d.ns.length)(Ad:Option Addr)(cd:Nat)(b1:Rd D D.heap.size 81 encNd Ad d.ns)(Bd:Option Addr)(dd:Nat)(J:Rd D D.heap.size 83 encWr Bd d.ws)(q:d.ws.length≤dd)(p:Int)(hI:InW d.ws)(b5:d.ws.length≤1000000000) : Ret Tryz.prog 212 [.agg #[vi d.n,.slice Ad md cd,.slice Bd d.ws.length dd,vi d.t,vi d.r],vi p] D (fun v w=>∃ A c,v=.slice A (nearW d.ws p).length c∧Own w D.heap.size 3 1 encI A c (nearW d.ws p)∧Below D.heap.size D w):=by
 refine enter Tryz.func212 rfl 34 rfl rfl ?_;intro a e
 have o:=bz D
 refine Zs e fun _ aP=>?_;refine Zf (X0c (zs:=[vi d.n,.slice Ad md cd,.slice Bd d.ws.length dd,vi d.t,vi d.r]) rfl rfl) ?_;rintro _ w1 ⟨b4,rfl,aQ,L,aR⟩;have b2:=Q0 o.size aQ;have o:=btr o L;refine Za rfl<|Zx aP fun a e _ aS=>?_;refine Za rfl<|ZX aS fun a e _ aT=>?_;refine Zs e fun _ aU=>?_;refine Ze (Vd rfl Xr 2)<|Ze (X0 rfl X0j (aR.at 2))<|Ze (X0d rfl Xx)<|Zm rfl<|Zt aU fun a e=>?_;refine Q8<|X01 (σ:=Nat×(List Int)) (fun (s:Nat×(List Int)) (a:Act) (w:World)=>match s with|(k,m)=>∃ B C,Fr a 34 [(1,vi p),(5,.slice B m.length C),(9,.slice Bd d.ws.length dd),(10,vi (d.ws.length:Int)),(11,vi (k:Int))]∧(k≤d.ws.length)∧(m=nearW (d.ws.take k) p)∧Own w D.heap.size 3 1 encI B C m∧d.ws.length≤dd∧Below D.heap.size D w) (fun (s:Nat×(List Int))=>match s with|(k,m)=>d.ws.length-k) (0,[]) ?_ ?_
 ·exact ⟨none,0,e.sb,(Qf _),(by simp [nearW]),(Own.nil _ _ _ _ _),q,o⟩
 rintro ⟨k,m⟩ a w2 ⟨B,C,e,hk,hm,f,q,o⟩;refine Zs e fun _ aC=>?_;refine Ze (X0l rfl rfl)<|ZX aC fun a e _ aD=>?_
 refine Xg e rfl (fun g=>?_) (fun g=>?_)
 ·have a6:=g;have g:=Q2 g
  obtain ⟨b6,b3⟩:=X5 (l:=d.ws) (k:=k) (by omega)
  obtain ⟨G,I⟩:=X5 (l:=d.ws) (k:=k) (by have:=g;omega)
  refine Q7<|aD _ _<|Q5 fun _ H=>?_;refine Q8<|Zs e fun _ aE=>?_;refine Zi (k:=k) (u:=G) (enc:=encWr) (l:=d.ws) trivial rfl rfl Xx X0e Xy (J.below' o) I rfl ?_;intro b7 a7;refine Ze (X04 (l:=[vi G.a,vi G.b,.bool G.h]) rfl X1i a7 rfl)<|Zf (Xu (zs:=[vi 0,vi 0,.bool false]) X2y rfl) ?_;rintro _ w3 ⟨b8,rfl,M,L,j⟩;have a8:=Q0 o.size M;have aF:=(J.below' o).away M;have f:=f.below L;have o:=btr o L;refine Zo (Vw [vi G.a,vi G.b,.bool G.h] X0e j) ?_;rintro _ w4 ⟨ho,hb⟩;have aG:=j;have f:=f.onlyT ho aG rfl;have o:=Below.only o ho a8;have j:=hb;refine Zx aE fun a e _ aH=>?_;refine Zm rfl<|Zt aH fun a e=>?_;refine Q8<|Zs e fun _ aI=>?_;refine Ze (Vd rfl X0q 0)<|Ze (X0 rfl X9 (j.at 0))<|Ze (X0b rfl rfl)<|Za rfl<|Zt aI fun a e=>?_
  refine Xg e rfl (fun x=>?_) (fun x=>?_)
  ·have aA:=x;have i:=Xb6 I x;have E:=Xc8 hI i
   rw [← hm] at i E
   refine Zr e<|Zm rfl<|Ze (Vd rfl X0u 1)<|Ze (X0 rfl X9 (j.at 1))<|Zf (Vc (Xrw _ B C m f.rd.top G.b D.heap.size f o.size (by have h9:=X27 (d.ws.take k) p;rw [← hm] at h9;rw [Qn] at h9;omega)) Xd2) ?_;rintro _ w5 ⟨aW,aX,rfl,aJ,L⟩;have o:=btr o L;refine Za rfl ?_;refine Zn fun a e=>?_;refine Xa<|Xa<|H _ _<|Zr e ?_;refine Ze (Xw rfl rfl (by omega) (by omega))<|Zm rfl ?_;refine Zn fun a e=>?_;refine Xh ?_;exact ⟨(k+1,(putI m G.b)),⟨aW,aX,e.sb,(by omega),(by first|rw [E,i]|rw [i]),aJ,q,o⟩,(by first|omega|(dsimp only;omega))⟩
  have aA:=x;have aK:=x;refine Zs e fun _ aL=>?_;refine Ze (Vd rfl X0u 1)<|Ze (X0 rfl X9 (j.at 1))<|Ze (X0b rfl rfl)<|Za rfl<|Zt aL fun a e=>?_
  refine Xg e rfl (fun y=>?_) (fun y=>?_)
  ·have aB:=y;have i:=Xbv I aK y;have E:=Xc8 hI i
   rw [← hm] at i E
   refine Zr e<|Zm rfl<|Ze (Vd rfl X0q 0)<|Ze (X0 rfl X9 (j.at 0))<|Zf (Vc (Xrw _ B C m f.rd.top G.a D.heap.size f o.size (by have h9:=X27 (d.ws.take k) p;rw [← hm] at h9;rw [Qn] at h9;omega)) Xd2) ?_;rintro _ w6 ⟨aY,aZ,rfl,aM,L⟩;have o:=btr o L;refine Za rfl ?_;refine Zn fun a e=>?_;refine Xa<|Xa<|H _ _<|Zr e ?_;refine Ze (Xw rfl rfl (by omega) (by omega))<|Zm rfl ?_;refine Zn fun a e=>?_;refine Xh ?_;exact ⟨(k+1,(putI m G.a)),⟨aY,aZ,e.sb,(by omega),(by first|rw [E,i]|rw [i]),aM,q,o⟩,(by first|omega|(dsimp only;omega))⟩
  have aB:=y;have i:=X9a I aK y
  rw [← hm] at i
  refine Q7<|Xa<|Xa<|H _ _ ?_;refine Zr e<|Ze (Xw rfl rfl (by omega) (by omega))<|Zm rfl ?_;refine Zn fun a e=>?_;refine Xh ?_;exact ⟨(k+1,m),⟨B,C,e.sb,(by omega),(by first|rw [E,i]|rw [i]),f,q,o⟩,(by first|omega|(dsimp only;omega))⟩
 have a6:=g;have g:=Q1 g
 have aN:m=nearW d.ws p:=by rw [hm,Qi (by have:=g;omega)]
 refine Q9<|Xk<|Xk<|X03 ?_;refine aT _ _<|Zs e fun _ aO=>?_;refine Zm rfl<|Za rfl<|Zt aO fun a e=>?_
 refine Q6 (X4 e (Xt e rfl rfl) ?_)
 rw [← aN]
 exact ⟨B,C,rfl,f,o⟩
theorem Xpq(y:World)(d:Dg)(md:Nat)(aF:md=d.ns.length)(Ad:Option Addr)(cd:Nat)(aG:Rd y y.heap.size 81 encNd Ad d.ns)(Bd:Option Addr)(dd:Nat)(aH:Rd y y.heap.size 83 encWr Bd d.ws)(o:d.ws.length≤dd)(p:Int)(q:Int)(hI:InW d.ws)(aQ:d.ws.length≤1000000000) : Ret Tryz.prog 214 [.agg #[vi d.n,.slice Ad md cd,.slice Bd d.ws.length dd,vi d.t,vi d.r],vi p,vi q] y (fun v w=>∃ A c,v=.slice A (othW d.ws p q).length c∧Own w y.heap.size 3 1 encI A c (othW d.ws p q)∧Below y.heap.size y w):=by
 have b3:=X27 d.ws p;refine enter Tryz.func214 rfl 27 rfl rfl ?_;intro a g
 have j:=bz y
 refine Zs g fun _ aR=>?_;refine Zf (X0c (zs:=[vi d.n,.slice Ad md cd,.slice Bd d.ws.length dd,vi d.t,vi d.r]) rfl rfl) ?_;rintro _ w1 ⟨b4,rfl,aS,hE,aT⟩;have b1:=Q0 j.size aS;have j:=btr j hE;refine Za rfl<|Zx aR fun a g _ aU=>?_;refine Za rfl<|ZX aU fun a g _ aW=>?_;refine Zs g fun _ aX=>?_;refine Ze (Vn X2 aT)<|Zm rfl<|Zf (Vc (X9q _ d md aF Ad cd (aG.below' j).top Bd dd (aH.below' j).top o p hI aQ) X59) ?_;rintro _ w2 ⟨a6,aI,rfl,b,hE⟩;have b:=b.lower j.size;have j:=btr j hE;refine Ze (X0d rfl Xl)<|Zm rfl<|Zt aX fun a g=>?_;refine Q8<|X01 (σ:=Nat×(List Int)) (fun (s:Nat×(List Int)) (a:Act) (w:World)=>match s with|(k,m)=>∃ h D,Fr a 27 [(2,vi q),(7,.slice h m.length D),(12,.slice a6 (nearW d.ws p).length aI),(13,vi ((nearW d.ws p).length:Int)),(14,vi (k:Int))]∧(k≤(nearW d.ws p).length)∧(m=((nearW d.ws p).take k).filter (fun v=>v != q))∧Own w y.heap.size 3 1 encI h D m∧Own w y.heap.size 3 1 encI a6 aI (nearW d.ws p)∧d.ws.length≤dd∧Apart a6 h∧Below y.heap.size y w) (fun (s:Nat×(List Int))=>match s with|(k,m)=>(nearW d.ws p).length-k) (0,[]) ?_ ?_
 ·exact ⟨none,0,g.sb,(Qf _),rfl,(Own.nil _ _ _ _ _),b,o,(Apart.nr _),j⟩
 rintro ⟨k,m⟩ a w3 ⟨h,D,g,hk,hm,i,b,o,f,j⟩
 have b5:m.length≤d.ws.length:=by rw [hm];exact Q0 (List.length_filter_le _ _) (by rw [Qn];omega)
 refine Zs g fun _ aJ=>?_;refine Ze (X0l rfl rfl)<|ZX aJ fun a g _ aK=>?_
 refine Xg g rfl (fun e=>?_) (fun e=>?_)
 ·have a7:=e;have e:=Q2 e
  obtain ⟨b6,b2⟩:=X5 (l:=(nearW d.ws p)) (k:=k) (by omega)
  obtain ⟨u9,a8⟩:=X5 (l:=nearW d.ws p) (k:=k) (by have:=e;omega)
  refine Q7<|aK _ _<|Q5 fun _ I=>?_;refine Q8<|Zs g fun _ aL=>?_;refine Zi (k:=k) (u:=u9) (enc:=encI) (l:=(nearW d.ws p)) trivial rfl rfl Xl X08 Xf b.rd a8 rfl ?_;intro b7 aA;refine Ze (X0 rfl X9 aA)<|Za rfl<|Zx aL fun a g _ aM=>?_;refine Zm rfl<|Zm rfl<|Ze (X1j rfl rfl)<|Zt aM fun a g=>?_
  refine Xg g rfl (fun x=>?_) (fun x=>?_)
  ·have aB:=x
   have E:=X3d (q:=fun v=>v != q) a8
   rw [Q4 x,← hm] at E
   refine Zr g<|Zm rfl<|Zm rfl<|Zf (Xm (k:=1) (vs:=[vi u9]) (zs:=[vi u9]) rfl Xl X1q rfl rfl) ?_;rintro _ w4 ⟨b8,rfl,G,hE,H⟩;have aY:=Q0 j.size G;have B:=i.away G;have aD:=b.away G;have i:=i.below hE;have b:=b.below hE;have j:=btr j hE;refine Zf (X0m (enc:=encI) (l:=(m)) (l2:=([u9])) (B0:=y.heap.size) rfl rfl Xl X1q Xf X25 i (Rd.of_blk H rfl _ H.lt) (by simp only [maxLen];simp;omega) (by simp;omega) j.size) ?_;rintro _ w5 ⟨aZ,b0,rfl,aN,hg,aC⟩
   have J:Own _ y.heap.size 3 1 encI _ _ (m):=i
   have aE:=aC _ H.lt B;have C:=Apart.app b f aC;clear aC;have b:=b.appP hg f;have j:=Below.app j J hg (Qb _) j.size;clear J hg;refine Za rfl ?_;refine Zn fun a g=>?_;refine Xa<|I _ _<|Zr g<|Ze (Xw rfl rfl (by omega) (by omega))<|Zm rfl ?_;refine Zn fun a g=>?_;refine Xh ?_;exact ⟨(k+1,m++([u9])),⟨aZ,b0,g.sb,(by omega),(by rw [E]),aN,b,o,C,j⟩,(by first|omega|(dsimp only;omega))⟩
  have aB:=x
  have E:=X3d (q:=fun v=>v != q) a8
  rw [Q3 (by rw [x];decide),List.append_nil,← hm] at E
  refine Q7<|Xa<|I _ _<|Zr g ?_;refine Ze (Xw rfl rfl (by omega) (by omega))<|Zm rfl ?_;refine Zn fun a g=>?_;refine Xh ?_;exact ⟨(k+1,m),⟨h,D,g.sb,(by omega),(by rw [E]),i,b,o,f,j⟩,(by first|omega|(dsimp only;omega))⟩
 have a7:=e;have e:=Q1 e
 have aO:m=(nearW d.ws p).filter (fun v=>v != q):=by rw [hm,Qi (by have:=e;omega)]
 refine Q9<|Xk<|Xk<|X03 ?_;refine aW _ _<|Zs g fun _ aP=>?_;refine Zm rfl<|Za rfl<|Zt aP fun a g=>?_
 refine Q6 (X4 g (Xt g rfl rfl) ?_)
 rw [show othW d.ws p q=m from aO.symm]
 exact ⟨h,D,rfl,i,j⟩
theorem Xin(m:World)(d:Dg)(md:Nat)(q:md=d.ns.length)(Ad:Option Addr)(cd:Nat)(x:Rd m m.heap.size 81 encNd Ad d.ns)(Bd:Option Addr)(dd:Nat)(y:Rd m m.heap.size 83 encWr Bd d.ws)(f:d.ws.length≤dd)(p:Int)(hI:InW d.ws)(aB:d.ws.length≤1000000000) : Ret Tryz.prog 217 [.agg #[vi d.n,.slice Ad md cd,.slice Bd d.ws.length dd,vi d.t,vi d.r],vi p] m (fun v w=>v=.bool (hadD d p)∧Below m.heap.size m w):=by
 have aQ:=X27 d.ws p;refine enter Tryz.func217 rfl 21 rfl rfl ?_;intro a c
 have g:=bz m
 refine Zs c fun _ aH=>?_;refine Zf (X0c (zs:=[vi d.n,.slice Ad md cd,.slice Bd d.ws.length dd,vi d.t,vi d.r]) rfl rfl) ?_;rintro _ w1 ⟨b4,rfl,aI,h,e⟩;have aO:=Q0 g.size aI;have g:=btr g h;refine Za rfl<|ZX aH fun a c _ aJ=>?_;refine Zs c fun _ aK=>?_;refine Ze (Vn X2 e)<|Zm rfl<|Zf (Vc (X9q _ d md q Ad cd (x.below' g).top Bd dd (y.below' g).top f p hI aB) X59) ?_;rintro _ w2 ⟨A7,c7,rfl,i,h⟩;have i:=i.lower g.size;have e:=e.below h;have g:=btr g h;refine Ze (X0d rfl Xl)<|Zm rfl<|Zt aK fun a c=>?_;refine Q8<|X01 (σ:=Nat) (fun (k:Nat) (a:Act) (w:World)=>Fr a 21 [(1,vi p),(2,.pointer (some ⟨b4,0,none⟩)),(9,.slice A7 (nearW d.ws p).length c7),(10,vi ((nearW d.ws p).length:Int)),(11,vi (k:Int))]∧(k≤(nearW d.ws p).length)∧(((nearW d.ws p).take k).all (fun v=>tyW d.ws p v==2)=true)∧Blk w b4 39 [vi d.n,.slice Ad md cd,.slice Bd d.ws.length dd,vi d.t,vi d.r]∧Own w m.heap.size 3 1 encI A7 c7 (nearW d.ws p)∧d.ws.length≤dd∧Below m.heap.size m w) (fun (k:Nat)=>(nearW d.ws p).length-k) 0 ?_ ?_
 ·exact ⟨c.sb,(Qf _),rfl,e,i,f,g⟩
 rintro k a w3 ⟨c,hk,A,e,i,f,g⟩;refine Zs c fun _ aL=>?_;refine Ze (X0l rfl rfl)<|ZX aL fun a c _ aM=>?_
 refine Xg c rfl (fun b=>?_) (fun b=>?_)
 ·have a6:=b;have b:=Q2 b
  obtain ⟨aR,aP⟩:=X5 (l:=(nearW d.ws p)) (k:=k) (by omega)
  obtain ⟨u9,a7⟩:=X5 (l:=nearW d.ws p) (k:=k) (by have:=b;omega)
  refine Q7<|aM _ _<|Q5 fun _ aC=>?_;refine Q8<|Zs c fun _ aD=>?_;refine Zi (k:=k) (u:=u9) (enc:=encI) (l:=(nearW d.ws p)) trivial rfl rfl Xl X08 Xf i.rd a7 rfl ?_;intro aS a8;refine Ze (X0 rfl X9 a8)<|Za rfl<|Zx aD fun a c _ aE=>?_;refine Ze (Vn X2 e)<|Zm rfl<|Zm rfl<|Zf (Vc (X8c _ d md q Ad cd (x.below' g).top Bd dd (y.below' g).top f p u9 aB) X4m) ?_;rintro _ w4 ⟨rfl,h⟩;have e:=e.below h;have i:=i.below h;have g:=btr g h;refine Ze (X1j rfl rfl)<|Zt aE fun a c=>?_
  refine Xg c rfl (fun j=>?_) (fun j=>?_)
  ·have aA:=j
   have o:hadD d p=false:=Xd5 a7 (by have h9:=j;simpa using h9)
   refine Zs c fun _ aF=>?_;refine Za rfl<|Zt aF fun a c=>?_;refine Q6<|Xq<|X6<|X6 ?_;refine Xq<|X6<|X4 c (Xt c rfl rfl) ?_;exact ⟨by rw [o],g⟩
  have aA:=j
  have aN:(tyW d.ws p u9==2)=true:=by have h9:=j;simpa using h9
  refine Q7<|Xa<|aC _ _<|Zr c ?_;refine Ze (Xw rfl rfl (by omega) (by omega))<|Zm rfl ?_;refine Zn fun a c=>?_;refine Xh ?_;exact ⟨k+1,⟨c.sb,(by omega),(Xdh A a7 aN),e,i,f,g⟩,(by omega)⟩
 have a6:=b;have b:=Q1 b
 have o:hadD d p=true:=Xa8 A (by have:=b;omega)
 refine Q9<|Xk<|Xk<|X03 ?_;refine aJ _ _<|Zs c fun _ aG=>?_;refine Za rfl<|Zt aG fun a c=>?_
 refine Q6 (X4 c (Xt c rfl rfl) ?_)
 exact ⟨by rw [o],g⟩
theorem Xnz(h:World)(d:Dg)(md:Nat)(C:md=d.ns.length)(Ad:Option Addr)(cd:Nat)(D:Rd h h.heap.size 81 encNd Ad d.ns)(Bd:Option Addr)(dd:Nat)(E:Rd h h.heap.size 83 encWr Bd d.ws)(f:d.ws.length≤dd)(Al:Option Addr)(cl:Nat)(l:List Int)(G:Rd h h.heap.size 3 encI Al l)(hN:md≤1000)(aT:d.ws.length≤1000000000)(b8:l.length≤1000000000)(aU:l.length≤cl) : Ret Tryz.prog 218 [.agg #[vi d.n,.slice Ad md cd,.slice Bd d.ws.length dd,vi d.t,vi d.r],.slice Al l.length cl] h (fun v w=>v=.bool (rdyD d l)∧Below h.heap.size h w):=by
 refine enter Tryz.func218 rfl 35 rfl rfl ?_;intro a b
 have m:=bz h
 refine Zs b fun _ aW=>?_;refine Zf (X0c (zs:=[vi d.n,.slice Ad md cd,.slice Bd d.ws.length dd,vi d.t,vi d.r]) rfl rfl) ?_;rintro _ w1 ⟨b5,rfl,aX,H,g⟩;have b4:=Q0 m.size aX;have m:=btr m H;refine Za rfl<|ZX aW fun a b _ aY=>?_;refine Zs b fun _ aZ=>?_;refine Zm rfl<|Ze (X0d rfl Xl)<|Zm rfl<|Zt aZ fun a b=>?_;refine Q8<|X01 (σ:=Nat) (fun (k:Nat) (a:Act) (w:World)=>Fr a 35 [(1,.slice Al l.length cl),(2,.pointer (some ⟨b5,0,none⟩)),(9,.slice Al l.length cl),(10,vi (l.length:Int)),(11,vi (k:Int))]∧(k≤l.length)∧(∀ j:Nat,j<k→rdQ d l j=true)∧Blk w b5 39 [vi d.n,.slice Ad md cd,.slice Bd d.ws.length dd,vi d.t,vi d.r]∧d.ws.length≤dd∧Below h.heap.size h w) (fun (k:Nat)=>l.length-k) 0 ?_ ?_
 ·exact ⟨b.sb,(Qf _),(fun j hj=>by omega),g,f,m⟩
 rintro k a w2 ⟨b,hk,I,g,f,m⟩;refine Zs b fun _ b0=>?_;refine Ze (X0l rfl rfl)<|ZX b0 fun a b _ b1=>?_
 refine Xg b rfl (fun c=>?_) (fun c=>?_)
 ·have a6:=c;have c:=Q2 c
  obtain ⟨b9,b6⟩:=X5 (l:=l) (k:=k) (by omega)
  obtain ⟨u9,B⟩:=X5 (l:=l) (k:=k) (by have:=c;omega)
  have a7:l.getD k 0=u9:=by rw [Qa,B];rfl
  refine Q7<|b1 _ _<|Q5 fun _ aF=>?_;refine Q8<|Zs b fun _ aG=>?_;refine Zm rfl<|Zi (k:=k) (u:=u9) (enc:=encI) (l:=l) trivial rfl rfl Xl X08 Xf (G.below' m) B rfl ?_;intro bA a8;refine Ze (X0 rfl X9 a8)<|Za rfl<|Za rfl<|ZX aG fun a b _ aH=>?_;refine Zs b fun _ aI=>?_;refine Ze (Vn X2 g)<|Zm rfl<|Zf (Vc (X5t _ d md C Ad cd (D.below' m).top Bd dd (E.below' m).top f u9 hN) X35) ?_;rintro _ w3 ⟨rfl,H⟩;have g:=g.below H;have m:=btr m H;refine Ze (X0y rfl)<|Zt aI fun a b=>?_
  refine Xg b rfl (fun p=>?_) (fun p=>?_)
  ·have aA:=p
   have q:rdyD d l=false:=X4k (k:=k) (by have:=(Qg.1 B).1;omega) (by unfold rdQ;rw [a7];have A:=p;simp only [Bool.not_eq_true'] at A;rw [A];rfl)
   refine Zs b fun _ aJ=>?_;refine Za rfl<|Zt aJ fun a b=>?_;refine Q6<|X6<|Xq<|X6 ?_;refine X6<|Xq<|X6<|X4 b (Xt b rfl rfl) ?_;exact ⟨by rw [q],m⟩
  have aA:=p
  have aK:spI d.ns u9=true:=by have A:=p;simpa using A
  refine Q7<|aH _ _<|Zs b fun _ aL=>?_;refine Zm rfl<|Zm rfl ?_;have o:=((G.below' m).top).takeK Xf k;refine Ze (X2x (l:=l) (k:=k) rfl rfl Xl X08 rfl hk aU)<|Ze (X0d rfl Xl)<|Zm rfl<|Zt aL fun a b=>?_;refine Q8<|X01 (σ:=Nat) (fun (j:Nat) (a:Act) (w:World)=>Fr a 35 [(1,.slice Al l.length cl),(2,.pointer (some ⟨b5,0,none⟩)),(6,vi u9),(9,.slice Al l.length cl),(10,vi (l.length:Int)),(11,vi (k:Int)),(22,.slice Al (l.take k).length cl),(23,vi ((l.take k).length:Int)),(24,vi (j:Int))]∧(j≤(l.take k).length)∧(((l.take k).take j).all (fun y=>tyW d.ws u9 y != 1)=true)∧Blk w b5 39 [vi d.n,.slice Ad md cd,.slice Bd d.ws.length dd,vi d.t,vi d.r]∧Rd w w3.heap.size 3 encI Al (l.take k)∧d.ws.length≤dd∧Below h.heap.size h w) (fun (j:Nat)=>(l.take k).length-j) 0 ?_ ?_
  ·exact ⟨b.sb,(Qf _),rfl,g,o,f,m⟩
  rintro j a w4 ⟨b,hj,J,g,o,f,m⟩;refine Zs b fun _ aM=>?_;refine Ze (X0l rfl rfl)<|ZX aM fun a b _ aN=>?_
  refine Xg b rfl (fun e=>?_) (fun e=>?_)
  ·have aB:=e;have e:=Q2 e
   obtain ⟨bB,b7⟩:=X5 (l:=(l.take k)) (k:=j) (by omega)
   have bC:(l.take k).length≤1000000000:=by rw [Qn];omega
   obtain ⟨v9,aC⟩:=X5 (l:=l.take k) (k:=j) (by have:=e;omega)
   refine Q7<|aN _ _<|Q5 fun _ aO=>?_;refine Q8<|Zs b fun _ aP=>?_;refine Zi (k:=j) (u:=v9) (enc:=encI) (l:=(l.take k)) trivial rfl rfl Xl X08 Xf o aC rfl ?_;intro bD aD;refine Ze (X0 rfl X9 aD)<|Za rfl<|Zx aP fun a b _ aQ=>?_;refine Ze (Vn X2 g)<|Zm rfl<|Zm rfl<|Zf (Vc (X8c _ d md C Ad cd (D.below' m).top Bd dd (E.below' m).top f u9 v9 aT) X4m) ?_;rintro _ w5 ⟨rfl,H⟩;have g:=g.below H;have o:=o.below H;have m:=btr m H;refine Ze (X0b rfl rfl)<|Zt aQ fun a b=>?_
   refine Xg b rfl (fun x=>?_) (fun x=>?_)
   ·have aE:=x
    have q:rdyD d l=false:=X4k (k:=k) (by have:=(Qg.1 B).1;omega) (by unfold rdQ;rw [a7,aK,Qw];exact Xd5 aC (by have A:=x;simp only [beq_iff_eq] at A;rw [A];rfl))
    refine Zs b fun _ aR=>?_;refine Za rfl<|Zt aR fun a b=>?_;refine Q6<|Xq<|X6<|X6 ?_;refine Xq<|Xq<|X6<|X6 ?_;refine Xq<|X6<|X4 b (Xt b rfl rfl) ?_;exact ⟨by rw [q],m⟩
   have aE:=x
   have b2:(tyW d.ws u9 v9 != 1)=true:=by have A:=x;simpa using A
   refine Q7<|Xa<|aO _ _<|Zr b ?_;refine Ze (Xw rfl rfl (by omega) (by omega))<|Zm rfl ?_;refine Zn fun a b=>?_;refine Xh ?_;exact ⟨j+1,⟨b.sb,(by omega),(Xdh J aC b2),g,o,f,m⟩,(by omega)⟩
  have aB:=e;have e:=Q1 e
  have b3:rdQ d l k=true:=by unfold rdQ;rw [a7,aK,Xa8 J (by have:=e;omega)];rfl
  refine Q9<|Xk<|Xk<|X03 ?_;refine Xa<|aF _ _<|Zr b<|Ze (Xw rfl rfl (by omega) (by omega))<|Zm rfl ?_;refine Zn fun a b=>?_;refine Xh ?_;exact ⟨k+1,⟨b.sb,(by omega),(fun i hi=>by by_cases A:i=k;rw [A];exact b3;exact I i (by omega)),g,f,m⟩,(by omega)⟩
 have a6:=c;have c:=Q1 c
 have q:rdyD d l=true:=X3y fun j hj=>I j (by have:=c;omega)
 refine Q9<|Xk<|Xk<|X03 ?_;refine aY _ _<|Zs b fun _ aS=>?_;refine Za rfl<|Zt aS fun a b=>?_
 refine Q6 (X4 b (Xt b rfl rfl) ?_)
 exact ⟨by rw [q],m⟩
theorem X9v(U:World)(d:Dg)(md:Nat)(aD:md=d.ns.length)(Ad:Option Addr)(cd:Nat)(aC:Nat)(c:Own U aC 81 2 encNd Ad cd d.ns)(bF:aC≤U.heap.size)(Bd:Option Addr)(dd:Nat)(e:Rd U U.heap.size 83 encWr Bd d.ws)(Q:d.ws.length≤dd)(p:Int)(b5:0≤p∧p.toNat<d.ns.length)(bH:d.ws.length≤1000000000) : Ret Tryz.prog 210 [.agg #[vi d.n,.slice Ad md cd,.slice Bd d.ws.length dd,vi d.t,vi d.r],vi p] U (fun v w=>∃ A' c',v=.agg #[vi ({ d with ns:=dpN d.ns p,ws:=dpW d.ws p } : Dg).n,.slice Ad md cd,.slice A' ({ d with ns:=dpN d.ns p,ws:=dpW d.ws p } : Dg).ws.length c',vi ({ d with ns:=dpN d.ns p,ws:=dpW d.ws p } : Dg).t,vi ({ d with ns:=dpN d.ns p,ws:=dpW d.ws p } : Dg).r]∧Own w aC 81 2 encNd Ad cd ({ d with ns:=dpN d.ns p,ws:=dpW d.ws p } : Dg).ns∧Rd w w.heap.size 83 encWr A' ({ d with ns:=dpN d.ns p,ws:=dpW d.ws p } : Dg).ws∧({ d with ns:=dpN d.ns p,ws:=dpW d.ws p } : Dg).ws.length≤c'∧md=({ d with ns:=dpN d.ns p,ws:=dpW d.ws p } : Dg).ns.length∧U.grownBy w (Value.slice Ad d.ns.length cd).ownBlock):=by
 refine enter Tryz.func210 rfl 38 rfl rfl ?_;intro a y
 have D:U.grownBy U (Value.slice Ad d.ns.length cd).ownBlock:=World.grownBy.refl _ _
 refine Zs y fun _ b6=>?_;refine Zf (X0c (zs:=[vi d.n,.slice Ad md cd,.slice Bd d.ws.length dd,vi d.t,vi d.r]) rfl rfl) ?_;rintro _ w1 ⟨b4,rfl,b8,E,g⟩;have aN:=Q0 D.size b8;have c:=c.below E;have e:=e.below E;have D:=gbel D E;refine Zf (Xu (zs:=[vi 0,.slice none 0 0,.slice none 0 0,vi 0,vi 0]) X0s rfl) ?_;rintro _ w2 ⟨b7,rfl,b9,E,o⟩
 have b3:b4≠b7:=by have:=g.lt;omega
 have aO:=Q0 D.size b9;have g:=g.below E;have c:=c.below E;have e:=e.below E;have D:=gbel D E;refine Zx b6 fun a y _ bA=>?_;refine Ze (Vd rfl Xj 1)<|Ze (X0 rfl X00 (g.at 1))<|Zm rfl<|Ze (X0w (ps:=[]) (cs:=[vi 0,vi 0]) rfl (fun _=>by first|rfl|kernel_rfl))<|Ze (Xi (k:=p.toNat) rfl rfl Xs X07 c aD (by omega) (by omega))<|Zo (X0h (enc:=encNd) (l:=d.ns) (vs:=[vi 0,vi 0]) (x0:=(d.ns.getD p.toNat nZ)) (u:=(⟨0,0⟩ : Nd)) (k:=p.toNat) (j:=0) (n1:=2) rfl rfl X07 c Xv rfl rfl rfl rfl (by decide) (Xb b5.2) rfl) ?_;rintro _ w3 ⟨aE,hg⟩;have x:=c;have g:=g.appT x hg rfl;have o:=o.appT x hg rfl;have e:=e.appT x hg rfl;have D:=gtr D hg
 clear x hg;clear c;have c:=aE;clear aE;refine Zx bA fun a y _ bB=>?_;refine Za rfl<|ZX bB fun a y _ aP=>?_;refine Zs y fun _ aQ=>?_;refine Ze (Vd rfl Xr 2)<|Ze (X0 rfl X0j (g.at 2))<|Ze (X0d rfl Xx)<|Zm rfl<|Zt aQ fun a y=>?_;refine Q8<|X01 (σ:=Nat×(List Wr)) (fun (s:Nat×(List Wr)) (a:Act) (w:World)=>match s with|(k,m)=>∃ H I,Fr a 38 [(1,vi p),(2,.pointer (some ⟨b4,0,none⟩)),(4,.pointer (some ⟨b7,0,none⟩)),(5,.slice H m.length I),(14,.slice Bd d.ws.length dd),(15,vi (d.ws.length:Int)),(16,vi (k:Int))]∧(k≤d.ws.length)∧(m=(d.ws.take k).filter (fun w=>w.a != p&&w.b != p))∧Blk w b4 39 [vi d.n,.slice Ad md cd,.slice Bd d.ws.length dd,vi d.t,vi d.r]∧Blk w b7 39 [vi 0,.slice none 0 0,.slice none 0 0,vi 0,vi 0]∧Own w U.heap.size 83 3 encWr H I m∧Rd w U.heap.size 83 encWr Bd d.ws∧Own w aC 81 2 encNd Ad cd (d.ns.set p.toNat (⟨0,0⟩ : Nd))∧d.ws.length≤dd∧U.grownBy w (Value.slice Ad d.ns.length cd).ownBlock) (fun (s:Nat×(List Wr))=>match s with|(k,m)=>d.ws.length-k) (0,[]) ?_ ?_
 ·exact ⟨none,0,y.sb,(Qf _),rfl,g,o,(Own.nil _ _ _ _ _),e,c,Q,D⟩
 rintro ⟨k,m⟩ a w4 ⟨H,I,y,hk,hm,g,o,f,e,c,Q,D⟩
 have bJ:m.length≤d.ws.length:=by rw [hm];exact Q0 (List.length_filter_le _ _) (by rw [Qn];omega)
 refine Zs y fun _ aR=>?_;refine Ze (X0l rfl rfl)<|ZX aR fun a y _ aS=>?_
 refine Xg y rfl (fun B=>?_) (fun B=>?_)
 ·have G:=B;have B:=Q2 B
  obtain ⟨bK,bG⟩:=X5 (l:=d.ws) (k:=k) (by omega)
  obtain ⟨L,aG⟩:=X5 (l:=d.ws) (k:=k) (by have:=B;omega)
  refine Q7<|aS _ _<|Q5 fun _ aF=>?_;refine Q8<|Zs y fun _ aT=>?_;refine Zi (k:=k) (u:=L) (enc:=encWr) (l:=d.ws) trivial rfl rfl Xx X0e Xy e aG rfl ?_;intro bL aH;refine Ze (X04 (l:=[vi L.a,vi L.b,.bool L.h]) rfl X1i aH rfl)<|Zf (Xu (zs:=[vi 0,vi 0,.bool false]) X2y rfl) ?_;rintro _ w5 ⟨aU,rfl,a6,E,A⟩;have a7:=Q0 D.size a6;have J:=f.away a6;have aW:=e.away a6;have g:=g.below E;have o:=o.below E;have f:=f.below E;have e:=e.below E;have c:=c.below E;have D:=gbel D E;refine Zo (Vw [vi L.a,vi L.b,.bool L.h] X0e A) ?_;rintro _ w6 ⟨N,hb⟩;have C:=A;have g:=g.only N (Blk.ne g C rfl);have o:=o.only N (Blk.ne o C rfl);have f:=f.onlyA N J;have e:=e.only N a7;have c:=c.onlyT N C rfl;have D:=gonly D N a7;have A:=hb;refine ZX aT fun a y _ aX=>?_;refine X0a (fun a w=>Fr a 38 [(1,vi p),(2,.pointer (some ⟨b4,0,none⟩)),(4,.pointer (some ⟨b7,0,none⟩)),(5,.slice H m.length I),(7,.pointer (some ⟨aU,0,none⟩)),(14,.slice Bd d.ws.length dd),(15,vi (d.ws.length:Int)),(16,vi (k:Int)),(29,.bool ((L.a != p)&&(L.b != p)))]∧w6=w) ?_ ?_
  ·refine Zr y<|Ze (Vd rfl X0q 0)<|Ze (X0 rfl X9 (A.at 0))<|Zm rfl<|Ze (X1j rfl rfl)<|Zm rfl ?_
   refine Zg 24 rfl (fun i=>?_) (fun i=>?_)
   ·refine Zv (gW i) (Vd rfl X0u 1) ?_;refine Zv (gW i) (X0 rfl X9 (A.at 1)) ?_;refine Zv (gW i) (X3 rfl) ?_;refine Zv (gW i) (X1j rfl rfl) ?_;refine Ze (X7 rfl i rfl) ?_;refine Zn fun a y=>?_;exact ⟨y.sub ⟨rfl,rfl,rfl,rfl,rfl,rfl,rfl,rfl,X1 rfl (by first|rfl|(simp only [G,i,bs];done)|simp [G,i]),trivial⟩,rfl⟩
   refine Zp (gP i) ?_;refine Zp (gP i) ?_;refine Zp (gP i) ?_;refine Zp (gP i) ?_;refine Ze (Xe rfl i rfl) ?_;refine Zn fun a y=>?_;exact ⟨y.sub ⟨rfl,rfl,rfl,rfl,rfl,rfl,rfl,rfl,X1 rfl (by first|rfl|(simp only [G,i,bs];done)|simp [G,i]),trivial⟩,rfl⟩
  rintro a _ ⟨y,rfl⟩;refine aX _ _ ?_
  refine Xg y rfl (fun M=>?_) (fun M=>?_)
  ·have aI:=M
   have a8:=X3d (q:=fun w=>w.a != p&&w.b != p) aG
   rw [Q4 M,← hm] at a8
   refine Zr y<|Zm rfl<|Ze (Vn X1i A)<|Zf (Xm (k:=1) (vs:=[.agg #[vi L.a,vi L.b,.bool L.h]]) (zs:=[vi L.a,vi L.b,.bool L.h]) rfl Xx X14 rfl rfl) ?_;rintro _ w7 ⟨b26,rfl,aA,E,aB⟩
   have aK:aU≠b26:=by have:=A.lt;omega
   have bC:=Q0 D.size aA;have W:=f.away aA;have aY:=e.away aA;have g:=g.below E;have o:=o.below E;have A:=A.below E;have f:=f.below E;have e:=e.below E;have c:=c.below E;have D:=gbel D E;refine Zf (X0m (enc:=encWr) (l:=(m)) (l2:=([L])) (B0:=U.heap.size) rfl rfl Xx X14 Xy X1o f (Rd.of_blk aB rfl _ aB.lt) (by simp only [maxLen];simp;omega) (by simp;omega) D.size) ?_;rintro _ w8 ⟨bD,bE,rfl,aZ,hg,aJ⟩
   have x:Own _ U.heap.size 83 3 encWr _ _ (m):=f
   have aL:=aJ _ A.lt J;have aM:=aJ _ aB.lt W;clear aJ;have g:=g.appT x hg rfl;have o:=o.appT x hg rfl;have e:=e.appB x hg (Qb _);have c:=c.appT x hg rfl;have D:=gapp D x hg;clear x hg;refine Za rfl ?_;refine Zn fun a y=>?_;refine Xa<|aF _ _<|Zr y<|Ze (Xw rfl rfl (by omega) (by omega))<|Zm rfl ?_;refine Zn fun a y=>?_;refine Xh ?_;exact ⟨(k+1,m++([L])),⟨bD,bE,y.sb,(by omega),(by rw [a8]),g,o,aZ,e,c,Q,D⟩,(by first|omega|(dsimp only;omega))⟩
  have aI:=M
  have a8:=X3d (q:=fun w=>w.a != p&&w.b != p) aG
  rw [Q3 (by rw [M];decide),List.append_nil,← hm] at a8
  refine Q7<|Xa<|aF _ _<|Zr y ?_;refine Ze (Xw rfl rfl (by omega) (by omega))<|Zm rfl ?_;refine Zn fun a y=>?_;refine Xh ?_;exact ⟨(k+1,m),⟨H,I,y.sb,(by omega),(by rw [a8]),g,o,f,e,c,Q,D⟩,(by first|omega|(dsimp only;omega))⟩
 have G:=B;have B:=Q1 B
 have b0:m=dpW d.ws p:=by rw [hm,Qi (by have:=B;omega)];rfl
 refine Q9<|Xk<|Xk<|X03 ?_;refine aP _ _<|Zs y fun _ b1=>?_;refine Zm rfl<|Ze (Vd rfl Xr 2)<|Zo (Vu (vs:=[.slice H m.length I]) (l':=[vi d.n,.slice Ad md cd,.slice H m.length I,vi d.t,vi d.r]) rfl rfl X1l g) ?_;rintro _ w9 ⟨N,hb⟩;have C:=g;have o:=o.only N (by omega);have f:=f.onlyT N C rfl;have c:=c.onlyT N C rfl;have D:=gonly D N aN;have g:=hb;refine Zx b1 fun a y _ b2=>?_;refine Ze (Vn X2 g)<|Zo (Vw [vi d.n,.slice Ad md cd,.slice H m.length I,vi d.t,vi d.r] Xp o) ?_;rintro _ bM ⟨N,hb⟩;have C:=o;have f:=f.onlyT N C rfl;have c:=c.onlyT N C rfl;have D:=gonly D N aO;have o:=hb;refine Zt b2 fun a y=>?_
 refine Q6 (X4 y (Xt y rfl (ResV.cellN (l:=[vi d.n,.slice Ad md cd,.slice H m.length I,vi d.t,vi d.r]) rfl X2 (o.at 0) rfl)) ?_)
 rw [← b0]
 exact ⟨H,I,rfl,c,f.rd.top,f.cap,aD.trans (X1v _ _).symm,D⟩
structure InD (d:Dg) : Prop where
 w:InW d.ws
 e:∀ x ∈ d.ws,0≤x.a∧x.b<d.ns.length
 p:PhN d.ns
 m:d.ns.length≤1000
theorem Xfb:∀ {l:List Wr} (N:Nat),(∀ x ∈ l,0≤x.a∧x.a<x.b∧x.b<N)→WSd l→∀ m:Nat,(∀ x ∈ l,(m:Int)≤x.a*N+x.b)→l.length+m≤N*N+1∨l=[]
 | [],_,_,_,_,_=>.inr rfl
 | x::l,N,h,hs,m,hm=>by
  left
  have hx:=h x (by simp)
  have hmx:=hm x (by simp)
  have hs':=W8.1 hs
  have hb:x.a*N+x.b<N*N:=by
   have:x.a+1≤N:=by omega
   have h2:(x.a+1)*N≤(N:Int)*N:=Int.mul_le_mul_of_nonneg_right this (by omega)
   rw [Int.add_mul,Int.one_mul] at h2
   omega
  have hstep:∀ y ∈ l,((m+1:Nat) : Int)≤y.a*N+y.b:=fun y hy=>by
   have hl:=hs'.1 y hy
   rw [X3q] at hl
   have hy0:=h y (by simp [hy])
   have hkey:x.a*N+x.b+1≤y.a*N+y.b:=by
    rcases hl with hl|⟨hl,hl2⟩
    ·have h2:(x.a+1)*N≤y.a*N:=Int.mul_le_mul_of_nonneg_right (by omega) (by omega)
     rw [Int.add_mul,Int.one_mul] at h2
     omega
    ·rw [hl];omega
   omega
  have hN:((N*N:Nat) : Int)=(N:Int)*N:=by simp
  rcases Xfb N (fun y hy=>h y (by simp [hy])) hs'.2 (m+1) hstep with h1|h1
  ·rw [Qs];omega
  ·subst h1
   simp only [Qs,List.length_nil]
   omega
theorem InD.len{d:Dg}(h:InD d) : d.ws.length≤1000001:=by
 have h1:=Xfb d.ns.length (fun x hx=>⟨(h.e x hx).1,h.w.l x hx,(h.e x hx).2⟩) h.w.s 0 (fun x hx=>by
  have e:=h.e x hx
  have l:=h.w.l x hx
  have:0≤x.a*(d.ns.length:Int):=Int.mul_nonneg e.1 (by omega)
  omega)
 rcases h1 with h1|h1
 ·have:=Nat.mul_le_mul h.m h.m
  omega
 ·rw [h1];simp
theorem X34{d:Dg}(h:InD d){k v:Int}(hv:v ∈ nearW d.ws k) : 0≤v∧v.toNat<d.ns.length:=by
 obtain ⟨w,hw,ho⟩:=X6k.1 hv
 have e:=h.e w hw
 have l:=h.w.l w hw
 rcases X5n ho with ⟨_,h2⟩|⟨_,h2⟩<;>omega
theorem X6g{d:Dg}(h:InD d){k v:Int}{j:Nat}(hv:(nearW d.ws k)[j]? = some v) : 0≤v∧v.toNat<d.ns.length:=X34 h (Qe hv)
theorem Xis(d:Dg)(a b:Int)(h:Bool) : (lkD d a b h).ns.length=d.ns.length∧(lkD d a b h).ws.length≤d.ws.length+1:=by
 have h1:=X4p d.ws a b h;have h2:=(X41 d.ws (fdW d.ws a b).toNat).length_le;have h3:=X4p (ctW d.ws (fdW d.ws a b).toNat) a b false
 unfold lkD
 split
 ·exact ⟨rfl,by dsimp only;omega⟩
 ·split
  ·exact ⟨rfl,by dsimp only;omega⟩
  ·split
   ·exact ⟨X21 _ _ _,by dsimp only;omega⟩
   ·exact ⟨rfl,by omega⟩
theorem X67(d:Dg)(a b:Int)(h:Bool) : (mtD d a b h).ns.length=d.ns.length∧(mtD d a b h).ws.length≤d.ws.length+1:=by
 unfold mtD
 split
 ·exact Xis d a b h
 ·exact ⟨rfl,by dsimp only;rw [X4p];omega⟩
theorem X2z(d:Dg)(a b:Int) : (tgD d a b).ns=d.ns∧(tgD d a b).ws.length≤d.ws.length+1:=by
 have h2:=(X41 d.ws (fdW d.ws a b).toNat).length_le
 unfold tgD
 split
 ·exact ⟨rfl,by dsimp only;omega⟩
 ·exact ⟨rfl,by dsimp only;rw [X4p];omega⟩
theorem Xvz{d:Dg}(hp:PhN d.ns)(a b:Int)(h:Bool) : PhN (lkD d a b h).ns:=by
 unfold lkD
 split
 ·exact hp
 ·split
  ·exact hp
  ·split
   ·exact X5y hp _ _
   ·exact hp
theorem Xjk{d:Dg}(hp:PhN d.ns)(a b:Int)(h:Bool) : PhN (mtD d a b h).ns:=by
 unfold mtD
 split
 ·exact Xvz hp a b h
 ·exact hp
def fuC(d:Dg)(a b:Int) : Bool:=spI d.ns a&&spI d.ns b&&decide (a<b)&&tyW d.ws a b==1
def fu0(d:Dg)(a b:Int) : Dg:={ d with ns:=adN (dpN d.ns b) a (d.ns.getD b.toNat nZ).p,ws:=dpW d.ws b }
def fuT(d:Dg)(a b:Int)(o:Dg)(v:Int) : Dg:=if v=a then o else mtD o a v (tyW d.ws b v==2)
def fuS(d:Dg)(a b:Int)(l:List Int)(o:Dg) : Dg:=l.foldl (fuT d a b) o
def fuD(d:Dg)(a b:Int) : Dg:=fuS d a b (nearW d.ws b) (fu0 d a b)
theorem Xb2{d:Dg}{a b:Int}{l:List Int}{o:Dg}{k:Nat}{v:Int}(hv:l[k]? = some v) : fuS d a b (l.take (k+1)) o=fuT d a b (fuS d a b (l.take k) o) v:=by
 unfold fuS
 rw [Qt,hv,Option.toList_some,List.foldl_append]
 rfl
theorem Xof{d o:Dg}{a b v:Int}(h:(v != a)=true) : fuT d a b o v=mtD o a v (tyW d.ws b v==2):=by
 unfold fuT;rw [Q3 (by simpa using h)]
theorem Xoj{d o:Dg}{a b v:Int}(h:(v != a)=false) : fuT d a b o v=o:=by
 unfold fuT;rw [Q4 (by simpa using h)]
def idC(d:Dg)(a:Int) : Bool:=spI d.ns a&&(d.ns.getD a.toNat nZ).p==0&&(nearW d.ws a).length==2
def id0(d:Dg)(a:Int) : Dg:={ d with ns:=dpN d.ns a,ws:=dpW d.ws a }
def idD(d:Dg)(a:Int) : Dg:=mtD (id0 d a) ((nearW d.ws a).getD 0 0) ((nearW d.ws a).getD 1 0) (tyW d.ws a ((nearW d.ws a).getD 0 0) != tyW d.ws a ((nearW d.ws a).getD 1 0))
def loC(d:Dg)(a:Int) : Bool:=spI d.ns a&&(d.ns.getD a.toNat nZ).p==0&&(nearW d.ws a).length==0
def loD(d:Dg)(a:Int) : Dg:={ d with ns:=dpN d.ns a,ws:=dpW d.ws a,r:=wr (d.r+2) }
def tgL(o:Dg)(x:Int)(l:List Int) : Dg:=l.foldl (fun o y=>tgD o x y) o
theorem Xhy{o:Dg}{x:Int}{l:List Int}{k:Nat}{v:Int}(hv:l[k]? = some v) : tgL o x (l.take (k+1))=tgD (tgL o x (l.take k)) x v:=by
 unfold tgL
 rw [Qt,hv,Option.toList_some,List.foldl_append]
 rfl
def lcC(d:Dg)(a:Int) : Bool:=spI d.ns a&&(d.ns.getD a.toNat nZ).p % 4==2&&hadD d a&&rdyD d (nearW d.ws a)
def lcS(p:Int)(l:List Int)(o:Dg) : Nat→Dg
 | 0=>o
 | i+1=>tgL { lcS p l o i with ns:=adN (lcS p l o i).ns (l.getD i 0) (8-p) } (l.getD i 0) (l.take i)
def lcD(d:Dg)(a:Int) : Dg:=
 let o:=lcS (d.ns.getD a.toNat nZ).p (nearW d.ws a) (id0 d a) (nearW d.ws a).length
 { o with t:=wr (o.t+(if (d.ns.getD a.toNat nZ).p=2 then 1 else 7)),r:=wr (o.r+(1-((nearW d.ws a).length:Int))) }
theorem Xvj{d:Dg}{a b:Int}(h:(!(spI d.ns a)||!(spI d.ns b)||decide (b≤a)||tyW d.ws a b != 1)=true) : fuC d a b=false:=by
 unfold fuC
 cases h1:spI d.ns a<;>cases h2:spI d.ns b<;>simp [h1,h2] at h ⊢
 intro h3
 rcases h with h|h
 ·omega
 ·exact h
theorem Xqs{d:Dg}{a b:Int}(h:(!(spI d.ns a)||!(spI d.ns b)||decide (b≤a)||tyW d.ws a b != 1)=false) : fuC d a b=true:=by
 unfold fuC
 cases h1:spI d.ns a<;>cases h2:spI d.ns b<;>simp [h1,h2] at h ⊢
 exact ⟨by omega,h.2⟩
theorem Xbx{d:Dg}{a b:Int}(h:fuC d a b=true) : (0≤a∧a.toNat<d.ns.length)∧(0≤b∧b.toNat<d.ns.length):=by
 unfold fuC at h
 simp only [Qd] at h
 have h1:=X19 h.1.1.1;have h2:=X19 h.1.1.2;exact ⟨⟨h1.1,h1.2.1⟩,⟨h2.1,h2.2.1⟩⟩
theorem Xut{d:Dg}(h:InD d)(a b:Int) : 0≤((dpN d.ns b).getD a.toNat nZ).p+(d.ns.getD b.toNat nZ).p∧((dpN d.ns b).getD a.toNat nZ).p+(d.ns.getD b.toNat nZ).p≤1000:=by
 have h1:=X1s (X54 h.p b) a.toNat;have h2:=X1s h.p b.toNat
 omega
theorem X2f(ws:List Wr)(k:Int) : (dpW ws k).length≤ws.length:=List.length_filter_le _ _
theorem X6h(d:Dg)(a b:Int) : (fu0 d a b).ns.length=d.ns.length∧(fu0 d a b).ws.length≤d.ws.length+0:=⟨(X21 _ _ _).trans (X1v _ _),X2f _ _⟩
theorem Xhc{d:Dg}(h:InD d)(a b:Int) : PhN (fu0 d a b).ns:=X5y (X54 h.p b) _ _
theorem Xdk{d:Dg}{a:Int}(h:(!(spI d.ns a)||(d.ns.getD a.toNat nZ).p != 0)=true) : idC d a=false∧loC d a=false:=by
 unfold idC loC
 cases h1:spI d.ns a<;>simp [h1] at h ⊢
 exact ⟨fun h2=>absurd h2 h,fun h2=>absurd h2 h⟩
theorem Xam{d:Dg}{a:Int}(h:(!(spI d.ns a)||(d.ns.getD a.toNat nZ).p != 0)=false) : (spI d.ns a=true)∧(d.ns.getD a.toNat nZ).p=0:=by
 cases h1:spI d.ns a<;>simp [h1] at h ⊢
 exact h
theorem Xhv{d:Dg}{a:Int}(h:(((nearW d.ws a).length:Int) != 2)=true) : idC d a=false:=by
 unfold idC
 have h2:¬ (nearW d.ws a).length=2:=by have:=(bne_iff_ne.1 h);omega
 simp [h2]
theorem Xff{d:Dg}{a:Int}(h1:(spI d.ns a=true)∧(d.ns.getD a.toNat nZ).p=0)(h:(((nearW d.ws a).length:Int) != 2)=false) : idC d a=true∧(nearW d.ws a).length=2:=by
 have h2:(nearW d.ws a).length=2:=by
  have h9:((nearW d.ws a).length:Int)=2:=by simpa using h
  omega
 refine ⟨?_,h2⟩
 unfold idC
 rw [h1.1,h1.2,h2]
 rfl
theorem Xps{d:Dg}{a:Int}(h:0<((nearW d.ws a).length:Int)) : loC d a=false:=by
 unfold loC
 have h2:¬ (nearW d.ws a).length=0:=by omega
 rw [show ((nearW d.ws a).length==0)=false from by simpa using h2,Bool.and_false]
theorem Xlw{d:Dg}{a:Int}(h1:(spI d.ns a=true)∧(d.ns.getD a.toNat nZ).p=0)(h:¬ 0<((nearW d.ws a).length:Int)) : loC d a=true:=by
 have h2:(nearW d.ws a).length=0:=by omega
 unfold loC
 rw [h1.1,h1.2,h2]
 rfl
theorem X7n{d:Dg}(h:InD d){k:Int}{j:Nat}(hj:j<(nearW d.ws k).length) : 0≤(nearW d.ws k).getD j 0∧((nearW d.ws k).getD j 0).toNat<d.ns.length:=X6g h (Xb (d:=0) hj)
theorem Xs9(d:Dg)(a:Int) : (idD d a).ns.length=d.ns.length:=(X67 (id0 d a) _ _ _).1.trans (X1v _ _)
theorem Xp9{d:Dg}{a:Int}(h:(!(spI d.ns a)||(d.ns.getD a.toNat nZ).p != 0||decide (0<((nearW d.ws a).length:Int)))=true) : loC d a=false:=by
 simp only [Bool.or_eq_true,Qr] at h
 rcases h with h|h
 ·exact (Xdk (by simpa using h)).2
 ·exact Xps h
theorem Xik{d:Dg}{a:Int}(h:(!(spI d.ns a)||(d.ns.getD a.toNat nZ).p != 0||decide (0<((nearW d.ws a).length:Int)))=false) : loC d a=true∧0≤a∧a.toNat<d.ns.length:=by
 rw [Bool.or_eq_false_iff] at h
 have h1:=Xam h.1;have h3:=X19 h1.1;exact ⟨Xlw h1 (Q1 h.2),h3.1,h3.2.1⟩
theorem Xf6{n:Nat} : ∀ {l:List Int} (m:Nat),Inc l→(∀ x ∈ l,(m:Int)≤x∧x<n)→l.length+m≤n∨l=[]
 | [],_,_,_=>.inr rfl
 | x::l,m,hi,h=>by
  left
  have hi':=W8.1 hi
  have hx:=h x (by simp)
  rcases Xf6 (m+1) hi'.2 (fun y hy=>⟨by have:=hi'.1 y hy;omega,(h y (by simp [hy])).2⟩) with h1|h1
  ·rw [Qs];omega
  ·subst h1
   simp only [Qs,List.length_nil]
   omega
theorem X3e{d:Dg}(h:InD d)(k:Int) : (nearW d.ws k).length≤d.ns.length:=by
 rcases Xf6 (n:=d.ns.length) 0 (X3p (k:=k) h.w) (fun x hx=>by have:=X34 h hx;omega) with h1|h1
 ·omega
 ·rw [h1];simp
theorem X9m{x:Int}(h:0≤x) : x.tmod 4=x % 4:=Int.tmod_eq_emod_of_nonneg h
theorem Xhz{d:Dg}(hd:InD d){a:Int}(h:(!(spI d.ns a)||((d.ns.getD a.toNat nZ).p.tmod 4 != 2))=true) : lcC d a=false:=by
 unfold lcC
 rw [X9m (X1s hd.p _).1] at h
 cases h1:spI d.ns a<;>simp [h1] at h ⊢
 exact fun h2=>absurd h2 h
theorem Xeb{d:Dg}(hd:InD d){a:Int}(h:(!(spI d.ns a)||((d.ns.getD a.toNat nZ).p.tmod 4 != 2))=false) : spI d.ns a=true∧((d.ns.getD a.toNat nZ).p=2∨(d.ns.getD a.toNat nZ).p=6):=by
 rw [X9m (X1s hd.p _).1] at h
 have h2:=X1s hd.p a.toNat
 generalize (d.ns.getD a.toNat nZ).p=x at h h2 ⊢
 cases h1:spI d.ns a<;>simp [h1] at h ⊢
 omega
theorem Xq4{d:Dg}{a:Int}(h:(!(hadD d a)||!(rdyD d (nearW d.ws a)))=true) : lcC d a=false:=by
 unfold lcC
 cases h1:hadD d a<;>cases h2:rdyD d (nearW d.ws a)<;>simp [h1,h2] at h ⊢
theorem Xel{d:Dg}{a:Int}(h1:spI d.ns a=true∧((d.ns.getD a.toNat nZ).p=2∨(d.ns.getD a.toNat nZ).p=6))(h:(!(hadD d a)||!(rdyD d (nearW d.ws a)))=false) : lcC d a=true:=by
 unfold lcC
 have h3:((d.ns.getD a.toNat nZ).p % 4==2)=true:=by rcases h1.2 with e|e<;>rw [e]<;>rfl
 rw [h1.1,h3]
 cases h4:hadD d a<;>cases h5:rdyD d (nearW d.ws a)<;>simp [h4,h5] at h ⊢
theorem Xna{x:Int}(h:x=2∨x=6) : wr (1+wr (wr ((x-2).tdiv 4)*6))=if x=2 then 1 else 7:=by rcases h with h|h<;>subst h<;>decide
theorem Xid{p u:Int}{l:List Int}{o:Dg}{k:Nat}(hu:l[k]? = some u) : lcS p l o (k+1)=tgL { lcS p l o k with ns:=adN (lcS p l o k).ns u (8-p) } u (l.take k):=by
 have e:l.getD k 0=u:=by rw [Qa,hu];rfl
 show tgL { lcS p l o k with ns:=adN (lcS p l o k).ns (l.getD k 0) (8-p) } (l.getD k 0) (l.take k)=_
 rw [e]
theorem Xhi{d o:Dg}{a:Int}(h:o=lcS (d.ns.getD a.toNat nZ).p (nearW d.ws a) (id0 d a) (nearW d.ws a).length) : lcD d a = { o with t:=wr (o.t+(if (d.ns.getD a.toNat nZ).p=2 then 1 else 7)),r:=wr (o.r+(1-((nearW d.ws a).length:Int))) }:=by subst h;rfl
theorem Xtb(w0:World)(d:Dg)(md:Nat)(M:md=d.ns.length)(Ad:Option Addr)(cd:Nat)(W:Rd w0 w0.heap.size 81 encNd Ad d.ns)(Bd:Option Addr)(dd:Nat)(a7:Rd w0 w0.heap.size 83 encWr Bd d.ws)(N:d.ws.length≤dd)(p:Int)(q:Int)(hD:InD d) : Ret Tryz.prog 175 [.agg #[vi d.n,.slice Ad md cd,.slice Bd d.ws.length dd,vi d.t,vi d.r],vi p,vi q] w0 (fun v w=>∃ A c B e,v=.tuple #[.agg #[vi (if (fuC d p q)=true then fuD d p q else d).n,.slice A md c,.slice B (if (fuC d p q)=true then fuD d p q else d).ws.length e,vi (if (fuC d p q)=true then fuD d p q else d).t,vi (if (fuC d p q)=true then fuD d p q else d).r],.bool (fuC d p q)]∧Rd w w.heap.size 81 encNd A (if (fuC d p q)=true then fuD d p q else d).ns∧Rd w w.heap.size 83 encWr B (if (fuC d p q)=true then fuD d p q else d).ws∧(if (fuC d p q)=true then fuD d p q else d).ws.length≤e∧md=(if (fuC d p q)=true then fuD d p q else d).ns.length∧Below w0.heap.size w0 w):=by
 have cO:=hD.len;have cP:=hD.m;have cQ:=X27 d.ws q;refine enter Tryz.func175 rfl 69 rfl rfl ?_;intro a J
 have x:=bz w0
 refine Zs J fun _ cA=>?_;refine Zf (X0c (zs:=[vi d.n,.slice Ad md cd,.slice Bd d.ws.length dd,vi d.t,vi d.r]) rfl rfl) ?_;rintro _ w1 ⟨b4,rfl,cB,h,f⟩;have cK:=Q0 x.size cB;have x:=btr x h;refine Zf (Xu (zs:=[vi 0,.slice none 0 0,.slice none 0 0,vi 0,vi 0]) X0s rfl) ?_;rintro _ w2 ⟨b7,rfl,cC,h,i⟩
 have c5:b4≠b7:=by have:=f.lt;omega
 have aR:=Q0 x.size cC;have f:=f.below h;have x:=btr x h;refine Za rfl<|ZX cA fun a J _ cD=>?_;refine Q5 fun _ cE=>?_;refine X0a (fun a w=>Fr a 69 [(1,vi p),(2,vi q),(3,.pointer (some ⟨b4,0,none⟩)),(6,.pointer (some ⟨b7,0,none⟩)),(32,.bool ((((!(spI d.ns p))||(!(spI d.ns q)))||(decide (q≤p)))||((tyW d.ws p q) != 1)))]∧Below w2.heap.size w2 w) ?_ ?_
 ·have aA:Below w2.heap.size w2 w2:=Below.refl _ _
  refine Zr J<|Ze (Vn X2 f)<|Zm rfl<|Zf (Vc (X5t _ d md M Ad cd (W.below' x).top Bd dd (a7.below' x).top N p (by rw [M];exact hD.m)) X35) ?_;rintro _ w3 ⟨rfl,h⟩;have f:=f.below h;have x:=btr x h;have aA:=btr aA h;refine Ze (X0y rfl)<|Zm rfl ?_
  refine Zg 15 rfl (fun C=>?_) (fun C=>?_)
  ·refine Zp (gP C) ?_;refine Zp (gP C) ?_;refine Zp (gP C) ?_;refine Zp (gP C) ?_;refine Ze (X7 rfl C rfl)<|Zm rfl<|Zp (gP rfl) ?_;refine Zp (gP rfl) ?_;refine Zp (gP rfl) ?_;refine Ze (X7 rfl rfl rfl)<|Zm rfl<|Zp (gP rfl) ?_;refine Zp (gP rfl) ?_;refine Zp (gP rfl) ?_;refine Zp (gP rfl) ?_;refine Zp (gP rfl) ?_;refine Ze (X7 rfl rfl rfl) ?_;refine Zn fun a J=>?_
   have aI:Below w2.heap.size w2 w3:=aA
   exact ⟨J.sub ⟨rfl,rfl,rfl,rfl,X1 rfl (by first|rfl|(simp only [C,bs];done)|simp [C]),trivial⟩,aI⟩
  refine Zv (gW C) (Vn X2 f) ?_;refine Zv (gW C) (X3 rfl) ?_;refine Zk (gW C) (Vc (X5t _ d md M Ad cd (W.below' x).top Bd dd (a7.below' x).top N q (by rw [M];exact hD.m)) X35) ?_;rintro _ w4 ⟨rfl,h⟩;have f:=f.below h;have x:=btr x h;have aA:=btr aA h;refine Zv (gW C) (X0y rfl) ?_;refine Ze (Xe rfl C rfl)<|Zm rfl ?_
  refine Zg 21 rfl (fun G=>?_) (fun G=>?_)
  ·refine Zp (gP G) ?_;refine Zp (gP G) ?_;refine Zp (gP G) ?_;refine Ze (X7 rfl G rfl)<|Zm rfl<|Zp (gP rfl) ?_;refine Zp (gP rfl) ?_;refine Zp (gP rfl) ?_;refine Zp (gP rfl) ?_;refine Zp (gP rfl) ?_;refine Ze (X7 rfl rfl rfl) ?_;refine Zn fun a J=>?_
   have aI:Below w2.heap.size w2 w4:=aA
   exact ⟨J.sub ⟨rfl,rfl,rfl,rfl,X1 rfl (by first|rfl|(simp only [C,G,bs];done)|simp [C,G]),trivial⟩,aI⟩
  refine Zv (gW G) (X3 rfl) ?_;refine Zv (gW G) (X3 rfl) ?_;refine Zv (gW G) (X4g rfl rfl) ?_;refine Ze (Xe rfl G rfl)<|Zm rfl ?_
  refine Zg 26 rfl (fun D=>?_) (fun D=>?_)
  ·refine Zp (gP D) ?_;refine Zp (gP D) ?_;refine Zp (gP D) ?_;refine Zp (gP D) ?_;refine Zp (gP D) ?_;refine Ze (X7 rfl D rfl) ?_;refine Zn fun a J=>?_
   have aI:Below w2.heap.size w2 w4:=aA
   exact ⟨J.sub ⟨rfl,rfl,rfl,rfl,X1 rfl (by first|rfl|(simp only [C,G,D,bs];done)|simp [C,G,D]),trivial⟩,aI⟩
  refine Zv (gW D) (Vn X2 f) ?_;refine Zv (gW D) (X3 rfl) ?_;refine Zv (gW D) (X3 rfl) ?_;refine Zk (gW D) (Vc (X8c _ d md M Ad cd (W.below' x).top Bd dd (a7.below' x).top N p q (by have:=hD.len;omega)) X4m) ?_;rintro _ w5 ⟨rfl,h⟩;have x:=btr x h;have aA:=btr aA h;refine Zv (gW D) (X1j rfl rfl) ?_;refine Ze (Xe rfl D rfl) ?_;refine Zn fun a J=>?_
  have aI:Below w2.heap.size w2 w5:=aA
  exact ⟨J.sub ⟨rfl,rfl,rfl,rfl,X1 rfl (by first|rfl|(simp only [C,G,D,bs];done)|simp [C,G,D]),trivial⟩,aI⟩
 rintro a w6 ⟨J,h⟩;have f:=f.below h;have i:=i.below h;have x:=btr x h;refine cE _ _ ?_
 refine Xg J rfl (fun aD=>?_) (fun aD=>?_)
 ·have aT:=aD
  have cF:fuC d p q=false:=Xvj aD
  refine Zs J fun _ b1=>?_;refine Ze (Vn X2 f)<|Zo (Vw [vi d.n,.slice Ad md cd,.slice Bd d.ws.length dd,vi d.t,vi d.r] Xp i) ?_;rintro _ w7 ⟨ho,hb⟩;have L:=i;have x:=Below.only x ho aR;have i:=hb;refine Za rfl<|Zt b1 fun a J=>?_;refine Q6<|X6<|X4 J (X17 J rfl (ResV.cellN (l:=[vi d.n,.slice Ad md cd,.slice Bd d.ws.length dd,vi d.t,vi d.r]) rfl X2 (i.at 0) rfl) rfl) ?_
  rw [cF,Q3 Bool.false_ne_true]
  exact ⟨Ad,cd,Bd,dd,rfl,(W.below' x).top,(a7.below' x).top,N,M,x⟩
 have aT:=aD
 have b2:fuC d p q=true:=Xqs aD
 obtain ⟨b3,b5⟩:=Xbx b2;refine Q7<|cD _ _<|Zs J fun _ b6=>?_;refine Ze (Vn X2 f)<|Zf (Vc (X99 _ d md M Ad cd (W.below' x).top Bd dd (a7.below' x).top N ⟨by have:=hD.m;omega,by have:=hD.len;omega⟩) X5f) ?_;rintro _ w8 ⟨aM,aN,cG,cH,rfl,y,aK,h⟩;have y:=y.lower x.size;have aK:=aK.lower x.size;have f:=f.below h;have i:=i.below h;have x:=btr x h;refine Zm rfl<|Zf (Vc (X9v _ d d.ns.length rfl aM aN _ y x.size cG cH aK.rd.top aK.cap q ⟨b5.1,by omega⟩ (by omega)) X5b) ?_;rintro _ w9 ⟨b8,b9,rfl,a6,a8,bA,bB,hg⟩;have E:=y;have f:=f.appT E hg rfl;have i:=i.appT E hg rfl;have x:=Below.app x E hg (Qb _) x.size
 clear E hg;clear y;have y:=a6;clear a6;refine Zf (Xu (zs:=[vi 0,.slice none 0 0,.slice none 0 0,vi 0,vi 0]) X0s rfl) ?_;rintro _ cR ⟨b21,rfl,bC,h,g⟩
 have bD:b4≠b21:=by have:=f.lt;omega
 have bE:b7≠b21:=by have:=i.lt;omega
 have aJ:=Q0 x.size bC;have f:=f.below h;have i:=i.below h;have y:=y.below h;have a8:=a8.below h;have x:=btr x h;refine Zo (Vw [vi (({ d with ns:=dpN d.ns q,ws:=dpW d.ws q } : Dg).n),.slice aM d.ns.length aN,.slice b8 (({ d with ns:=dpN d.ns q,ws:=dpW d.ws q } : Dg).ws).length b9,vi (({ d with ns:=dpN d.ns q,ws:=dpW d.ws q } : Dg).t),vi (({ d with ns:=dpN d.ns q,ws:=dpW d.ws q } : Dg).r)] Xp g) ?_;rintro _ cS ⟨ho,hb⟩;have L:=g;have f:=f.only ho (by omega);have i:=i.only ho (by omega);have y:=y.onlyT ho L rfl;have a8:=a8.onlyT ho L rfl;have x:=Below.only x ho aJ;have g:=hb;refine ZX b6 fun a J _ bF=>?_;refine X05 none (fun j=>[8,9].contains j) mixed ?_;intro cT h;have f:=f.below h;have i:=i.below h;have g:=g.below h;have y:=y.below h;have a8:=a8.below h;have x:=btr x h;refine Yb J<|Ye 0 rfl (Vn X2 g)<|Yo 1 rfl (fun _=>X3 rfl)<|Yo 2 rfl (fun _=>Vd rfl Xj 1)<|Ye 3 rfl (X0 rfl X00 (f.at 1))<|Yo 4 rfl (fun _=>X3 rfl)<|Yj (k:=q.toNat) (u:=(d.ns.getD q.toNat nZ)) (enc:=encNd) (l:=d.ns) 5 rfl trivial rfl M rfl Xs X07 Xv (W.below' x) (Xb b5.2) (by omega) ?_;intro cU aU;refine Yo 6 rfl (fun _=>X23 rfl X06)<|Ye 7 rfl (X0 rfl X9 (aU.drop 1))<|Y1 8 ?_;refine Yt rfl trivial rfl (Vc (X9e _ ({ d with ns:=dpN d.ns q,ws:=dpW d.ws q } : Dg) d.ns.length bB aM aN _ y x.size b8 b9 a8.top bA p ((d.ns.getD q.toNat nZ).p) ⟨b3.1,by rw [X1v];omega⟩ (Xut hD p q)) X5a) ?_;rintro _ cV ⟨bG,bH,rfl,a6,aE,bJ,cL,hg⟩;have E:=y;have f:=f.appT E hg rfl;have i:=i.appT E hg rfl;have g:=g.appT E hg rfl
 have x:=Below.app x E hg (Qb _) x.size
 clear E hg;clear y;have y:=a6;clear a6;refine Y1 9<|Yh rfl trivial rfl (Vw [vi (({ ({ d with ns:=dpN d.ns q,ws:=dpW d.ws q } : Dg) with ns:=adN ({ d with ns:=dpN d.ns q,ws:=dpW d.ws q } : Dg).ns p ((d.ns.getD q.toNat nZ).p) } : Dg).n),.slice aM d.ns.length aN,.slice bG (({ ({ d with ns:=dpN d.ns q,ws:=dpW d.ws q } : Dg) with ns:=adN ({ d with ns:=dpN d.ns q,ws:=dpW d.ws q } : Dg).ns p ((d.ns.getD q.toNat nZ).p) } : Dg).ws).length bH,vi (({ ({ d with ns:=dpN d.ns q,ws:=dpW d.ws q } : Dg) with ns:=adN ({ d with ns:=dpN d.ns q,ws:=dpW d.ws q } : Dg).ns p ((d.ns.getD q.toNat nZ).p) } : Dg).t),vi (({ ({ d with ns:=dpN d.ns q,ws:=dpW d.ws q } : Dg) with ns:=adN ({ d with ns:=dpN d.ns q,ws:=dpW d.ws q } : Dg).ns p ((d.ns.getD q.toNat nZ).p) } : Dg).r)] Xp g) ?_;rintro _ cW ⟨ho,hb⟩;have L:=g;have f:=f.only ho (by omega);have i:=i.only ho (by omega);have y:=y.onlyT ho L rfl;have aE:=aE.onlyT ho L rfl;have x:=Below.only x ho aJ;have g:=hb;refine Yd fun a J=>?_;refine bF _ _<|Q5 fun _ bK=>?_;refine Zs J fun _ bL=>?_;refine Ze (Vn X2 f)<|Zm rfl<|Zf (Vc (X9q _ d md M Ad cd (W.below' x).top Bd dd (a7.below' x).top N q hD.w (by omega)) X59) ?_;rintro _ cX ⟨bM,bN,rfl,H,h⟩;have H:=H.lower x.size;have f:=f.below h;have i:=i.below h;have g:=g.below h;have y:=y.below h;have aE:=aE.below h;have x:=btr x h;refine Ze (X0d rfl Xl)<|Zm rfl<|Zt bL fun a J=>?_;refine Q8<|X01 (σ:=Nat×Dg) (fun (s:Nat×Dg) (a:Act) (w:World)=>match s with|(k,o)=>∃ aB aC aF aG,Fr a 69 [(1,vi p),(2,vi q),(3,.pointer (some ⟨b4,0,none⟩)),(6,.pointer (some ⟨b7,0,none⟩)),(8,.pointer (some ⟨b21,0,none⟩)),(49,.slice bM (nearW d.ws q).length bN),(50,vi ((nearW d.ws q).length:Int)),(51,vi (k:Int))]∧(k≤(nearW d.ws q).length)∧(o=fuS d p q ((nearW d.ws q).take k) (fu0 d p q))∧(d.ns.length=o.ns.length)∧(o.ws.length≤d.ws.length+k)∧(PhN o.ns)∧Blk w b4 39 [vi d.n,.slice Ad md cd,.slice Bd d.ws.length dd,vi d.t,vi d.r]∧Blk w b7 39 [vi 0,.slice none 0 0,.slice none 0 0,vi 0,vi 0]∧Blk w b21 39 [vi o.n,.slice aB d.ns.length aC,.slice aF o.ws.length aG,vi o.t,vi o.r]∧Own w w0.heap.size 3 1 encI bM bN (nearW d.ws q)∧Own w w0.heap.size 81 2 encNd aB aC o.ns∧Rd w w.heap.size 83 encWr aF o.ws∧d.ws.length≤dd∧o.ws.length≤aG∧Below w0.heap.size w0 w) (fun (s:Nat×Dg)=>match s with|(k,o)=>(nearW d.ws q).length-k) (0,(fu0 d p q)) ?_ ?_
 ·exact ⟨aM,aN,bG,bH,J.sb,(Qf _),rfl,(X6h d p q).1.symm,(X6h d p q).2,(Xhc hD p q),f,i,g,H,y,aE.top,N,bJ,x⟩
 rintro ⟨k,o⟩ a cY ⟨aB,aC,aF,aG,J,hk,bO,aL,d5,aO,f,i,g,H,I,Q,N,aW,x⟩;refine Zs J fun _ bP=>?_;refine Ze (X0l rfl rfl)<|ZX bP fun a J _ bR=>?_
 refine Xg J rfl (fun U=>?_) (fun U=>?_)
 ·have aX:=U;have U:=Q2 U
  obtain ⟨d6,cM⟩:=X5 (l:=(nearW d.ws q)) (k:=k) (by omega)
  obtain ⟨u9,aY⟩:=X5 (l:=nearW d.ws q) (k:=k) (by have:=U;omega)
  have cJ:=X6g hD aY;have aP:=Xb2 (d:=d) (a:=p) (b:=q) (o:=fu0 d p q) aY
  rw [← bO] at aP
  refine Q7<|bR _ _<|Q5 fun _ aS=>?_;refine Q8<|Zs J fun _ bS=>?_;refine Zi (k:=k) (u:=u9) (enc:=encI) (l:=(nearW d.ws q)) trivial rfl rfl Xl X08 Xf H.rd aY rfl ?_;intro d7 aZ;refine Ze (X0 rfl X9 aZ)<|Za rfl<|Zx bS fun a J _ bT=>?_;refine Zm rfl<|Zm rfl<|Ze (X1j rfl rfl)<|Zt bT fun a J=>?_
  refine Xg J rfl (fun aH=>?_) (fun aH=>?_)
  ·have b0:=aH
   rw [Xof aH] at aP
   refine X05 none (fun j=>[8,9].contains j) mixed ?_;intro d8 h;have f:=f.below h;have i:=i.below h;have g:=g.below h;have H:=H.below h;have I:=I.below h;have Q:=Q.below h;have x:=btr x h;refine Yb J<|Ye 0 rfl (Vn X2 g)<|Yo 1 rfl (fun _=>X3 rfl)<|Yo 2 rfl (fun _=>X3 rfl)<|Ye 3 rfl (Vn X2 f)<|Yo 4 rfl (fun _=>X3 rfl)<|Yo 5 rfl (fun _=>X3 rfl)<|Y1 6 ?_;refine Yk rfl trivial (Vc (X8c _ d md M Ad cd (W.below' x).top Bd dd (a7.below' x).top N q u9 (by have:=hD.len;omega)) X4m) (fun _ _ ⟨_,h⟩=>h) ?_;rintro _ d9 ⟨rfl,h⟩;have f:=f.below h;have i:=i.below h;have g:=g.below h;have H:=H.below h;have I:=I.below h;have Q:=Q.below h;have x:=btr x h;refine Yo 7 rfl (fun _=>X0b rfl rfl)<|Y1 8 ?_;refine Yt rfl trivial rfl (Vc (Xo7 _ o d.ns.length aL aB aC _ I x.size aF aG Q.top aW p u9 ((tyW d.ws q u9)==2) (by omega) ⟨⟨b3.1,by omega⟩,⟨cJ.1,by omega⟩⟩ aO (by omega)) Xfe) ?_;rintro _ dB ⟨bU,bW,rfl,a6,aQ,bX,cN,hg⟩;have E:=I;have f:=f.appT E hg rfl;have i:=i.appT E hg rfl;have g:=g.appT E hg rfl;have H:=H.appT E hg rfl;have x:=Below.app x E hg (Qb _) x.size
   clear E hg;clear I;have I:=a6;clear a6;refine Y1 9<|Yh rfl trivial rfl (Vw [vi ((mtD o p u9 ((tyW d.ws q u9)==2)).n),.slice aB d.ns.length aC,.slice bU ((mtD o p u9 ((tyW d.ws q u9)==2)).ws).length bW,vi ((mtD o p u9 ((tyW d.ws q u9)==2)).t),vi ((mtD o p u9 ((tyW d.ws q u9)==2)).r)] Xp g) ?_;rintro _ dC ⟨ho,hb⟩;have L:=g;have f:=f.only ho (by omega);have i:=i.only ho (by omega);have H:=H.onlyT ho L rfl;have I:=I.onlyT ho L rfl;have aQ:=aQ.onlyT ho L rfl;have x:=Below.only x ho aJ;have g:=hb;refine Yd fun a J=>?_;refine Xa<|aS _ _<|Zr J<|Ze (Xw rfl rfl (by omega) (by omega))<|Zm rfl ?_;refine Zn fun a J=>?_;refine Xh ?_;exact ⟨(k+1,(mtD o p u9 ((tyW d.ws q u9)==2))),⟨aB,aC,bU,bW,J.sb,(by omega),(by rw [aP]),(by first|exact aL|exact aL.trans (X67 _ _ _ _).1.symm),(by first|omega|(have:=(X67 o p u9 (tyW d.ws q u9==2)).2;omega)),(by first|exact aO|exact Xjk aO _ _ _),f,i,g,H,I,aQ.top,N,bX,x⟩,(by first|omega|(dsimp only;omega))⟩
  have b0:=aH
  rw [Xoj aH] at aP
  refine Q7<|Xa<|aS _ _<|Zr J ?_;refine Ze (Xw rfl rfl (by omega) (by omega))<|Zm rfl ?_;refine Zn fun a J=>?_;refine Xh ?_;exact ⟨(k+1,o),⟨aB,aC,aF,aG,J.sb,(by omega),(by rw [aP]),(by first|exact aL|exact aL.trans (X67 _ _ _ _).1.symm),(by first|omega|(have:=(X67 o p u9 (tyW d.ws q u9==2)).2;omega)),(by first|exact aO|exact Xjk aO _ _ _),f,i,g,H,I,Q.top,N,aW,x⟩,(by first|omega|(dsimp only;omega))⟩
 have aX:=U;have U:=Q1 U
 have bY:o=fuD d p q:=by rw [bO,Qi (by have:=U;omega)];rfl
 refine Q9<|Xk<|Xk<|X03 ?_;refine bK _ _<|Zs J fun _ c4=>?_;refine Ze (Vn X2 g)<|Zo (Vw [vi o.n,.slice aB d.ns.length aC,.slice aF o.ws.length aG,vi o.t,vi o.r] Xp i) ?_;rintro _ dD ⟨ho,hb⟩;have L:=i;have I:=I.onlyT ho L rfl;have Q:=Q.onlyT ho L rfl;have x:=Below.only x ho aR;have i:=hb;refine Za rfl<|Zt c4 fun a J=>?_
 refine Q6 (X4 J (X17 J rfl (ResV.cellN (l:=[vi o.n,.slice aB d.ns.length aC,.slice aF o.ws.length aG,vi o.t,vi o.r]) rfl X2 (i.at 0) rfl) rfl) ?_)
 rw [b2,Q4 rfl,← bY,M]
 exact ⟨aB,aC,aF,aG,rfl,I.rd.top,Q.top,aW,aL,x⟩
theorem Xta(w0:World)(d:Dg)(md:Nat)(y:md=d.ns.length)(Ad:Option Addr)(cd:Nat)(D:Rd w0 w0.heap.size 81 encNd Ad d.ns)(Bd:Option Addr)(dd:Nat)(G:Rd w0 w0.heap.size 83 encWr Bd d.ws)(I:d.ws.length≤dd)(p:Int)(hD:InD d) : Ret Tryz.prog 177 [.agg #[vi d.n,.slice Ad md cd,.slice Bd d.ws.length dd,vi d.t,vi d.r],vi p] w0 (fun v w=>∃ A c B e,v=.tuple #[.agg #[vi (if (idC d p)=true then idD d p else d).n,.slice A md c,.slice B (if (idC d p)=true then idD d p else d).ws.length e,vi (if (idC d p)=true then idD d p else d).t,vi (if (idC d p)=true then idD d p else d).r],.bool (idC d p)]∧Rd w w.heap.size 81 encNd A (if (idC d p)=true then idD d p else d).ns∧Rd w w.heap.size 83 encWr B (if (idC d p)=true then idD d p else d).ws∧(if (idC d p)=true then idD d p else d).ws.length≤e∧md=(if (idC d p)=true then idD d p else d).ns.length∧Below w0.heap.size w0 w):=by
 have bL:=hD.len;have bM:=hD.m;have bN:=X27 d.ws p;refine enter Tryz.func177 rfl 52 rfl rfl ?_;intro a H
 have i:=bz w0
 refine Zs H fun _ b8=>?_;refine Zf (X0c (zs:=[vi d.n,.slice Ad md cd,.slice Bd d.ws.length dd,vi d.t,vi d.r]) rfl rfl) ?_;rintro _ w1 ⟨b4,rfl,b9,q,C⟩;have bE:=Q0 i.size b9;have i:=btr i q;refine Zf (Xu (zs:=[vi 0,.slice none 0 0,.slice none 0 0,vi 0,vi 0]) X0s rfl) ?_;rintro _ w2 ⟨b7,rfl,bA,q,f⟩
 have b6:b4≠b7:=by have:=C.lt;omega
 have aB:=Q0 i.size bA;have C:=C.below q;have i:=btr i q;refine Za rfl<|ZX b8 fun a H _ bB=>?_;refine Q5 fun _ bC=>?_;refine X0a (fun a w=>Fr a 52 [(1,vi p),(2,.pointer (some ⟨b4,0,none⟩)),(4,.pointer (some ⟨b7,0,none⟩)),(19,.bool ((!(spI d.ns p))||(((d.ns.getD p.toNat nZ).p) != 0)))]∧Below w2.heap.size w2 w) ?_ ?_
 ·have aE:Below w2.heap.size w2 w2:=Below.refl _ _
  refine Zr H<|Ze (Vn X2 C)<|Zm rfl<|Zf (Vc (X5t _ d md y Ad cd (D.below' i).top Bd dd (G.below' i).top I p (by rw [y];exact hD.m)) X35) ?_;rintro _ w3 ⟨rfl,q⟩;have C:=C.below q;have i:=btr i q;have aE:=btr aE q;refine Ze (X0y rfl)<|Zm rfl ?_
  refine Zg 11 rfl (fun b=>?_) (fun b=>?_)
  ·refine Zp (gP b) ?_;refine Zp (gP b) ?_;refine Zp (gP b) ?_;refine Zp (gP b) ?_;refine Zp (gP b) ?_;refine Zp (gP b) ?_;refine Zp (gP b) ?_;refine Ze (X7 rfl b rfl) ?_;refine Zn fun a H=>?_
   have aH:Below w2.heap.size w2 w3:=aE
   exact ⟨H.sub ⟨rfl,rfl,rfl,X1 rfl (by first|rfl|(simp only [b,bs];done)|simp [b]),trivial⟩,aH⟩
  have aI:0≤p∧p.toNat<d.ns.length:=by have h9:=X19 (ns:=d.ns) (k:=p) (by simpa using b);exact ⟨h9.1,h9.2.1⟩
  refine Zv (gW b) (Vd rfl Xj 1) ?_;refine Zv (gW b) (X0 rfl X00 (C.at 1)) ?_;refine Zv (gW b) (X3 rfl) ?_;refine Zj (k:=p.toNat) (u:=(d.ns.getD p.toNat nZ)) (enc:=encNd) (l:=d.ns) ⟨_,_,rfl,rfl,b⟩ rfl y rfl Xs X07 Xv (D.below' i) (Xb aI.2) (by omega) ?_;intro bO aJ;refine Zv (gW b) (X23 rfl X06) ?_;refine Zv (gW b) (X0 rfl X9 (aJ.drop 1)) ?_;refine Zv (gW b) (X1j rfl rfl) ?_;refine Ze (Xe rfl b rfl) ?_;refine Zn fun a H=>?_
  have aH:Below w2.heap.size w2 w3:=aE
  exact ⟨H.sub ⟨rfl,rfl,rfl,X1 rfl (by first|rfl|(simp only [b,bs];done)|simp [b]),trivial⟩,aH⟩
 rintro a w4 ⟨H,q⟩;have C:=C.below q;have f:=f.below q;have i:=btr i q;refine bC _ _ ?_
 refine Xg H rfl (fun U=>?_) (fun U=>?_)
 ·have aK:=U;obtain ⟨aL,bF⟩:=Xdk U;refine Zs H fun _ aR=>?_;refine Ze (Vn X2 C)<|Zo (Vw [vi d.n,.slice Ad md cd,.slice Bd d.ws.length dd,vi d.t,vi d.r] Xp f) ?_;rintro _ w5 ⟨ho,hb⟩;have a8:=f;have i:=Below.only i ho aB;have f:=hb;refine Za rfl<|Zt aR fun a H=>?_;refine Q6<|X6<|X4 H (X17 H rfl (ResV.cellN (l:=[vi d.n,.slice Ad md cd,.slice Bd d.ws.length dd,vi d.t,vi d.r]) rfl X2 (f.at 0) rfl) rfl) ?_
  rw [aL,Q3 Bool.false_ne_true]
  exact ⟨Ad,cd,Bd,dd,rfl,(D.below' i).top,(G.below' i).top,I,y,i⟩
 have aK:=U;have aM:=Xam U
 have aI:0≤p∧p.toNat<d.ns.length:=⟨(X19 aM.1).1,(X19 aM.1).2.1⟩
 refine Q7<|bB _ _<|Zs H fun _ aS=>?_;refine Ze (Vn X2 C)<|Zm rfl<|Zf (Vc (X9q _ d md y Ad cd (D.below' i).top Bd dd (G.below' i).top I p hD.w (by omega)) X59) ?_;rintro _ w6 ⟨bP,bR,rfl,E,q⟩;have E:=E.lower i.size;have C:=C.below q;have f:=f.below q;have i:=btr i q;refine Za rfl<|ZX aS fun a H _ aT=>?_;refine Zs H fun _ aU=>?_;refine Zm rfl<|Ze (X0d rfl Xl)<|Ze (X1j rfl rfl)<|Zt aU fun a H=>?_
 refine Xg H rfl (fun W=>?_) (fun W=>?_)
 ·have aN:=W;have aL:=Xhv W;refine Zs H fun _ aW=>?_;refine Ze (Vn X2 C)<|Zo (Vw [vi d.n,.slice Ad md cd,.slice Bd d.ws.length dd,vi d.t,vi d.r] Xp f) ?_;rintro _ w7 ⟨ho,hb⟩;have a8:=f;have i:=Below.only i ho aB;have f:=hb;refine Za rfl<|Zt aW fun a H=>?_;refine Q6<|X6<|X4 H (X17 H rfl (ResV.cellN (l:=[vi d.n,.slice Ad md cd,.slice Bd d.ws.length dd,vi d.t,vi d.r]) rfl X2 (f.at 0) rfl) rfl) ?_
  rw [aL,Q3 Bool.false_ne_true]
  exact ⟨Ad,cd,Bd,dd,rfl,(D.below' i).top,(G.below' i).top,I,y,i⟩
 have aN:=W;obtain ⟨bD,bS⟩:=Xff aM W
 have aX:=X7n hD (k:=p) (j:=0) (by omega)
 have aY:=X7n hD (k:=p) (j:=1) (by omega)
 refine Q7<|aT _ _<|Q5 fun _ aZ=>?_;refine X05 (some (.base w6.heap.size)) (fun j=>[23,24].contains j) mixed ?_;have aC:=C;have bG:=f;have bH:=(D.below' i);have bJ:=(G.below' i);have Q:=E;intro w8 q;have o:=q;have f:=f.below q;have E:=E.below q;have i:=btr i q;refine Yb H<|Yn 0 rfl trivial o.size (fun w9 h9=>by have J:=aC.below (o.trans h9);exact X04 (l:=[vi d.n,.slice Ad md cd,.slice Bd d.ws.length dd,vi d.t,vi d.r]) rfl X2 (J.at 0) rfl) ?_;refine Yo 2 rfl (fun _=>X3 rfl)<|Yo 4 rfl (fun _=>X3 rfl)<|Yo 5 rfl (fun _=>Xi (k:=0) rfl rfl Xl X08 E rfl rfl (by omega)) ?_;refine Yn 6 rfl trivial o.size (fun w9 h9=>by have x:=Q.below (o.trans h9);exact X0 rfl X9 (X0g x Xf (Xb (k:=0) (d:=(0:Int)) (by omega)) 0 rfl)) ?_;refine Yo 7 rfl (fun _=>X3 rfl)<|Yo 8 rfl (fun _=>Xi (k:=1) rfl rfl Xl X08 E rfl rfl (by omega)) ?_;refine Yn 9 rfl trivial o.size (fun w9 h9=>by have x:=Q.below (o.trans h9);exact X0 rfl X9 (X0g x Xf (Xb (k:=1) (d:=(0:Int)) (by omega)) 0 rfl)) ?_;refine Yn 10 rfl trivial o.size (fun w9 h9=>by have J:=aC.below (o.trans h9);exact X04 (l:=[vi d.n,.slice Ad md cd,.slice Bd d.ws.length dd,vi d.t,vi d.r]) rfl X2 (J.at 0) rfl) ?_;refine Yo 11 rfl (fun _=>X3 rfl)<|Yo 12 rfl (fun _=>X3 rfl)<|Yo 13 rfl (fun _=>Xi (k:=0) rfl rfl Xl X08 E rfl rfl (by omega)) ?_;refine Yn 14 rfl trivial o.size (fun w9 h9=>by have x:=Q.below (o.trans h9);exact X0 rfl X9 (X0g x Xf (Xb (k:=0) (d:=(0:Int)) (by omega)) 0 rfl)) ?_;refine Yn 16 rfl trivial o.size (fun w9 h9=>by have J:=aC.below (o.trans h9);exact X04 (l:=[vi d.n,.slice Ad md cd,.slice Bd d.ws.length dd,vi d.t,vi d.r]) rfl X2 (J.at 0) rfl) ?_
 refine Yo 17 rfl (fun _=>X3 rfl)<|Yo 18 rfl (fun _=>X3 rfl)<|Yo 19 rfl (fun _=>Xi (k:=1) rfl rfl Xl X08 E rfl rfl (by omega)) ?_;refine Yn 20 rfl trivial o.size (fun w9 h9=>by have x:=Q.below (o.trans h9);exact X0 rfl X9 (X0g x Xf (Xb (k:=1) (d:=(0:Int)) (by omega)) 0 rfl)) ?_;refine Y1 1<|Yf rfl trivial (EfW.mono (Vc (X99 _ d md y Ad cd (D.below' i).top Bd dd (G.below' i).top I ⟨by omega,by omega⟩) X5f) (fun _ _ h=>⟨fun _=>by obtain ⟨a7,aA,b0,b1,rfl,g,a6,q⟩:=h;exact Keep.of_below q,h⟩)) ?_;rintro _ w9 ⟨a7,aA,b0,b1,rfl,g,a6,q⟩
 have aO:∀ k,ownB a7=some k→w6.heap.size≤k:=fun k hk=>Q0 o.size (X1t g hk)
 have g:=g.lower i.size;have a6:=a6.lower i.size;have f:=f.below q;have o:=btr o q;have i:=btr i q;refine Y1 3<|Yf rfl trivial (EfW.mono (Vc (X9v _ d d.ns.length rfl a7 aA _ g i.size b0 b1 a6.rd.top a6.cap p aI (by omega)) X5b) (fun _ _ h=>⟨fun _=>by obtain ⟨b2,b3,rfl,M,N,aF,aG,hg⟩:=h;exact Xju hg aO,h⟩)) ?_;rintro _ bT ⟨b2,b3,rfl,M,N,aF,aG,hg⟩;have L:=g;have f:=f.appT L hg rfl;have o:=o.trans (X9t hg aO o.size);have i:=Below.app i L hg (Qb _) i.size
 clear L hg;clear g;have g:=M;clear M;refine Y1 15<|Yf rfl trivial (EfW.mono (Vc (X8c _ d md y Ad cd (D.below' i).top Bd dd (G.below' i).top I p ((nearW d.ws p).getD 0 0) (by omega)) X4m) (fun _ _ h=>⟨fun _=>by obtain ⟨rfl,q⟩:=h;exact Keep.of_below q,h⟩)) ?_;rintro _ bU ⟨rfl,q⟩;have f:=f.below q;have g:=g.below q;have N:=N.below q;have o:=btr o q;have i:=btr i q;refine Y1 21<|Yf rfl trivial (EfW.mono (Vc (X8c _ d md y Ad cd (D.below' i).top Bd dd (G.below' i).top I p ((nearW d.ws p).getD 1 0) (by omega)) X4m) (fun _ _ h=>⟨fun _=>by obtain ⟨rfl,q⟩:=h;exact Keep.of_below q,h⟩)) ?_;rintro _ bW ⟨rfl,q⟩;have f:=f.below q;have g:=g.below q;have N:=N.below q;have o:=btr o q;have i:=btr i q;refine Yo 22 rfl (fun _=>X1j rfl rfl)<|Y1 23 ?_;refine Yt rfl trivial rfl (Vc (Xo7 _ ({ d with ns:=dpN d.ns p,ws:=dpW d.ws p } : Dg) d.ns.length aG a7 aA _ g i.size b2 b3 N.top aF ((nearW d.ws p).getD 0 0) ((nearW d.ws p).getD 1 0) ((tyW d.ws p ((nearW d.ws p).getD 0 0)) != (tyW d.ws p ((nearW d.ws p).getD 1 0))) (by have:=X2f d.ws p;dsimp only;omega) ⟨⟨aX.1,by rw [X1v];exact aX.2⟩,⟨aY.1,by rw [X1v];exact aY.2⟩⟩ (X54 hD.p p) (by omega)) Xfe) ?_;rintro _ bX ⟨aP,aQ,rfl,M,aD,b5,bK,hg⟩;have L:=g;have f:=f.appT L hg rfl;have o:=o.trans (X9t hg aO o.size);have i:=Below.app i L hg (Qb _) i.size
 clear L hg;clear g;have g:=M;clear M;refine Y1 24<|Yh rfl trivial rfl (Vw [vi ((mtD ({ d with ns:=dpN d.ns p,ws:=dpW d.ws p } : Dg) ((nearW d.ws p).getD 0 0) ((nearW d.ws p).getD 1 0) ((tyW d.ws p ((nearW d.ws p).getD 0 0)) != (tyW d.ws p ((nearW d.ws p).getD 1 0)))).n),.slice a7 d.ns.length aA,.slice aP ((mtD ({ d with ns:=dpN d.ns p,ws:=dpW d.ws p } : Dg) ((nearW d.ws p).getD 0 0) ((nearW d.ws p).getD 1 0) ((tyW d.ws p ((nearW d.ws p).getD 0 0)) != (tyW d.ws p ((nearW d.ws p).getD 1 0)))).ws).length aQ,vi ((mtD ({ d with ns:=dpN d.ns p,ws:=dpW d.ws p } : Dg) ((nearW d.ws p).getD 0 0) ((nearW d.ws p).getD 1 0) ((tyW d.ws p ((nearW d.ws p).getD 0 0)) != (tyW d.ws p ((nearW d.ws p).getD 1 0)))).t),vi ((mtD ({ d with ns:=dpN d.ns p,ws:=dpW d.ws p } : Dg) ((nearW d.ws p).getD 0 0) ((nearW d.ws p).getD 1 0) ((tyW d.ws p ((nearW d.ws p).getD 0 0)) != (tyW d.ws p ((nearW d.ws p).getD 1 0)))).r)] Xp f) ?_;rintro _ bY ⟨ho,hb⟩;have a8:=f;have g:=g.onlyT ho a8 rfl;have aD:=aD.onlyT ho a8 rfl;have i:=Below.only i ho aB;have f:=hb;refine Yo 25 rfl (fun _=>X11 rfl) ?_;refine Yd fun a H=>?_;refine aZ _ _ ?_
 refine Q6 (X4 H (X17 H rfl (ResV.cellN (l:=[vi ((mtD ({ d with ns:=dpN d.ns p,ws:=dpW d.ws p } : Dg) ((nearW d.ws p).getD 0 0) ((nearW d.ws p).getD 1 0) ((tyW d.ws p ((nearW d.ws p).getD 0 0)) != (tyW d.ws p ((nearW d.ws p).getD 1 0)))).n),.slice a7 d.ns.length aA,.slice aP ((mtD ({ d with ns:=dpN d.ns p,ws:=dpW d.ws p } : Dg) ((nearW d.ws p).getD 0 0) ((nearW d.ws p).getD 1 0) ((tyW d.ws p ((nearW d.ws p).getD 0 0)) != (tyW d.ws p ((nearW d.ws p).getD 1 0)))).ws).length aQ,vi ((mtD ({ d with ns:=dpN d.ns p,ws:=dpW d.ws p } : Dg) ((nearW d.ws p).getD 0 0) ((nearW d.ws p).getD 1 0) ((tyW d.ws p ((nearW d.ws p).getD 0 0)) != (tyW d.ws p ((nearW d.ws p).getD 1 0)))).t),vi ((mtD ({ d with ns:=dpN d.ns p,ws:=dpW d.ws p } : Dg) ((nearW d.ws p).getD 0 0) ((nearW d.ws p).getD 1 0) ((tyW d.ws p ((nearW d.ws p).getD 0 0)) != (tyW d.ws p ((nearW d.ws p).getD 1 0)))).r)]) rfl X2 (f.at 0) rfl) rfl) ?_)
 rw [bD,Q4 rfl,y]
 exact ⟨a7,aA,aP,aQ,rfl,g.rd.top,aD.top,b5,(Xs9 d p).symm,i⟩
theorem Xuq(w0:World)(d:Dg)(md:Nat)(C:md=d.ns.length)(Ad:Option Addr)(cd:Nat)(E:Rd w0 w0.heap.size 81 encNd Ad d.ns)(Bd:Option Addr)(dd:Nat)(J:Rd w0 w0.heap.size 83 encWr Bd d.ws)(L:d.ws.length≤dd)(p:Int)(hD:InD d) : Ret Tryz.prog 179 [.agg #[vi d.n,.slice Ad md cd,.slice Bd d.ws.length dd,vi d.t,vi d.r],vi p] w0 (fun v w=>∃ A c B e,v=.tuple #[.agg #[vi (if (loC d p)=true then loD d p else d).n,.slice A md c,.slice B (if (loC d p)=true then loD d p else d).ws.length e,vi (if (loC d p)=true then loD d p else d).t,vi (if (loC d p)=true then loD d p else d).r],.bool (loC d p)]∧Rd w w.heap.size 81 encNd A (if (loC d p)=true then loD d p else d).ns∧Rd w w.heap.size 83 encWr B (if (loC d p)=true then loD d p else d).ws∧(if (loC d p)=true then loD d p else d).ws.length≤e∧md=(if (loC d p)=true then loD d p else d).ns.length∧Below w0.heap.size w0 w):=by
 have b1:=hD.len;have b2:=hD.m;have b3:=X27 d.ws p;refine enter Tryz.func179 rfl 37 rfl rfl ?_;intro a D
 have i:=bz w0
 refine Zs D fun _ aP=>?_;refine Zf (X0c (zs:=[vi d.n,.slice Ad md cd,.slice Bd d.ws.length dd,vi d.t,vi d.r]) rfl rfl) ?_;rintro _ w1 ⟨b4,rfl,aQ,h,o⟩;have aZ:=Q0 i.size aQ;have i:=btr i h;refine Zf (Xu (zs:=[vi 0,.slice none 0 0,.slice none 0 0,vi 0,vi 0]) X0s rfl) ?_;rintro _ w2 ⟨b7,rfl,aR,h,j⟩
 have aO:b4≠b7:=by have:=o.lt;omega
 have aA:=Q0 i.size aR;have o:=o.below h;have i:=btr i h;refine Za rfl<|ZX aP fun a D _ aS=>?_;refine Q5 fun _ aT=>?_;refine X0a (fun a w=>Fr a 37 [(1,vi p),(2,.pointer (some ⟨b4,0,none⟩)),(4,.pointer (some ⟨b7,0,none⟩)),(26,.bool (((!(spI d.ns p))||(((d.ns.getD p.toNat nZ).p) != 0))||(decide (0<((nearW d.ws p).length:Int)))))]∧Below w2.heap.size w2 w) ?_ ?_
 ·have H:Below w2.heap.size w2 w2:=Below.refl _ _
  refine Zr D<|Ze (Vn X2 o)<|Zm rfl<|Zf (Vc (X5t _ d md C Ad cd (E.below' i).top Bd dd (J.below' i).top L p (by rw [C];exact hD.m)) X35) ?_;rintro _ w3 ⟨rfl,h⟩;have o:=o.below h;have i:=btr i h;have H:=btr H h;refine Ze (X0y rfl)<|Zm rfl ?_
  refine Zg 11 rfl (fun b=>?_) (fun b=>?_)
  ·refine Zp (gP b) ?_;refine Zp (gP b) ?_;refine Zp (gP b) ?_;refine Zp (gP b) ?_;refine Zp (gP b) ?_;refine Zp (gP b) ?_;refine Zp (gP b) ?_;refine Ze (X7 rfl b rfl)<|Zm rfl<|Zp (gP rfl) ?_;refine Zp (gP rfl) ?_;refine Zp (gP rfl) ?_;refine Zp (gP rfl) ?_;refine Zp (gP rfl) ?_;refine Ze (X7 rfl rfl rfl) ?_;refine Zn fun a D=>?_
   have W:Below w2.heap.size w2 w3:=H
   exact ⟨D.sub ⟨rfl,rfl,rfl,X1 rfl (by first|rfl|(simp only [b,bs];done)|simp [b]),trivial⟩,W⟩
  have aD:0≤p∧p.toNat<d.ns.length:=by have h9:=X19 (ns:=d.ns) (k:=p) (by simpa using b);exact ⟨h9.1,h9.2.1⟩
  refine Zv (gW b) (Vd rfl Xj 1) ?_;refine Zv (gW b) (X0 rfl X00 (o.at 1)) ?_;refine Zv (gW b) (X3 rfl) ?_;refine Zj (k:=p.toNat) (u:=(d.ns.getD p.toNat nZ)) (enc:=encNd) (l:=d.ns) ⟨_,_,rfl,rfl,b⟩ rfl C rfl Xs X07 Xv (E.below' i) (Xb aD.2) (by omega) ?_;intro b5 aE;refine Zv (gW b) (X23 rfl X06) ?_;refine Zv (gW b) (X0 rfl X9 (aE.drop 1)) ?_;refine Zv (gW b) (X1j rfl rfl) ?_;refine Ze (Xe rfl b rfl)<|Zm rfl ?_
  refine Zg 20 rfl (fun f=>?_) (fun f=>?_)
  ·refine Zp (gP f) ?_;refine Zp (gP f) ?_;refine Zp (gP f) ?_;refine Zp (gP f) ?_;refine Zp (gP f) ?_;refine Ze (X7 rfl f rfl) ?_;refine Zn fun a D=>?_
   have W:Below w2.heap.size w2 w3:=H
   exact ⟨D.sub ⟨rfl,rfl,rfl,X1 rfl (by first|rfl|(simp only [b,f,bs];done)|simp [b,f]),trivial⟩,W⟩
  refine Zv (gW f) (Vn X2 o) ?_;refine Zv (gW f) (X3 rfl) ?_;refine Zk (gW f) (Vc (X9q _ d md C Ad cd (E.below' i).top Bd dd (J.below' i).top L p hD.w (by omega)) X59) ?_;rintro _ w4 ⟨b6,b8,rfl,aB,h⟩;have aB:=aB.lower i.size;have i:=btr i h;have H:=btr H h;refine Zv (gW f) (X0d rfl Xl) ?_;refine Zv (gW f) (X6o rfl rfl) ?_;refine Ze (Xe rfl f rfl) ?_;refine Zn fun a D=>?_
  have W:Below w2.heap.size w2 w4:=H
  exact ⟨D.sub ⟨rfl,rfl,rfl,X1 rfl (by first|rfl|(simp only [b,f,bs];done)|simp [b,f]),trivial⟩,W⟩
 rintro a w5 ⟨D,h⟩;have o:=o.below h;have j:=j.below h;have i:=btr i h;refine aT _ _ ?_
 refine Xg D rfl (fun G=>?_) (fun G=>?_)
 ·have aF:=G;have aU:=Xp9 G;refine Zs D fun _ aG=>?_;refine Ze (Vn X2 o)<|Zo (Vw [vi d.n,.slice Ad md cd,.slice Bd d.ws.length dd,vi d.t,vi d.r] Xp j) ?_;rintro _ w6 ⟨I,hb⟩;have q:=j;have i:=Below.only i I aA;have j:=hb;refine Za rfl<|Zt aG fun a D=>?_;refine Q6<|X6<|X4 D (X17 D rfl (ResV.cellN (l:=[vi d.n,.slice Ad md cd,.slice Bd d.ws.length dd,vi d.t,vi d.r]) rfl X2 (j.at 0) rfl) rfl) ?_
  rw [aU,Q3 Bool.false_ne_true]
  exact ⟨Ad,cd,Bd,dd,rfl,(E.below' i).top,(J.below' i).top,L,C,i⟩
 have aF:=G;obtain ⟨aW,aD⟩:=Xik G;refine Q7<|aS _ _<|Zs D fun _ aH=>?_;refine Ze (Vn X2 o)<|Zf (Vc (X99 _ d md C Ad cd (E.below' i).top Bd dd (J.below' i).top L ⟨by omega,by omega⟩) X5f) ?_;rintro _ w7 ⟨Q,U,aX,aY,rfl,g,M,h⟩;have g:=g.lower i.size;have M:=M.lower i.size;have o:=o.below h;have j:=j.below h;have i:=btr i h;refine Zm rfl<|Zf (Vc (X9v _ d d.ns.length rfl Q U _ g i.size aX aY M.rd.top M.cap p aD (by omega)) X5b) ?_;rintro _ w8 ⟨a6,a7,rfl,aC,x,aI,b0,hg⟩;have N:=g;have o:=o.appT N hg rfl;have j:=j.appT N hg rfl;have i:=Below.app i N hg (Qb _) i.size
 clear N hg;clear g;have g:=aC;clear aC;refine Zf (Xu (zs:=[vi 0,.slice none 0 0,.slice none 0 0,vi 0,vi 0]) X0s rfl) ?_;rintro _ w9 ⟨b23,rfl,aJ,h,y⟩
 have aK:b4≠b23:=by have:=o.lt;omega
 have aL:b7≠b23:=by have:=j.lt;omega
 have a8:=Q0 i.size aJ;have j:=j.below h;have g:=g.below h;have x:=x.below h;have i:=btr i h;refine Zo (Vw [vi (({ d with ns:=dpN d.ns p,ws:=dpW d.ws p } : Dg).n),.slice Q d.ns.length U,.slice a6 (({ d with ns:=dpN d.ns p,ws:=dpW d.ws p } : Dg).ws).length a7,vi (({ d with ns:=dpN d.ns p,ws:=dpW d.ws p } : Dg).t),vi (({ d with ns:=dpN d.ns p,ws:=dpW d.ws p } : Dg).r)] Xp y) ?_;rintro _ b9 ⟨I,hb⟩;have q:=y;have j:=j.only I (by omega);have g:=g.onlyT I q rfl;have x:=x.onlyT I q rfl;have i:=Below.only i I a8;have y:=hb;refine Zx aH fun a D _ aM=>?_;refine Ze (Vd rfl X02 4)<|Ze (X0 rfl X9 (y.at 4))<|Ze (X43 rfl rfl)<|Ze (Vd rfl X02 4)<|Zo (Vu (vs:=[vi (wr ((({ d with ns:=dpN d.ns p,ws:=dpW d.ws p } : Dg).r)+2))]) (l':=[vi (({ d with ns:=dpN d.ns p,ws:=dpW d.ws p } : Dg).n),.slice Q d.ns.length U,.slice a6 (({ d with ns:=dpN d.ns p,ws:=dpW d.ws p } : Dg).ws).length a7,vi (({ d with ns:=dpN d.ns p,ws:=dpW d.ws p } : Dg).t),vi (wr ((({ d with ns:=dpN d.ns p,ws:=dpW d.ws p } : Dg).r)+2))]) rfl rfl X08 y) ?_;rintro _ bA ⟨I,hb⟩;have q:=y;have j:=j.only I (by omega);have g:=g.onlyT I q rfl;have x:=x.onlyT I q rfl;have i:=Below.only i I a8;have y:=hb;refine Zx aM fun a D _ aN=>?_;refine Ze (Vn X2 y)<|Zo (Vw [vi (({ d with ns:=dpN d.ns p,ws:=dpW d.ws p } : Dg).n),.slice Q d.ns.length U,.slice a6 (({ d with ns:=dpN d.ns p,ws:=dpW d.ws p } : Dg).ws).length a7,vi (({ d with ns:=dpN d.ns p,ws:=dpW d.ws p } : Dg).t),vi (wr ((({ d with ns:=dpN d.ns p,ws:=dpW d.ws p } : Dg).r)+2))] Xp j) ?_;rintro _ bB ⟨I,hb⟩
 have q:=j;have g:=g.onlyT I q rfl;have x:=x.onlyT I q rfl;have i:=Below.only i I aA;have j:=hb;refine Za rfl<|Zt aN fun a D=>?_
 refine Q6 (X4 D (X17 D rfl (ResV.cellN (l:=[vi (({ d with ns:=dpN d.ns p,ws:=dpW d.ws p } : Dg).n),.slice Q d.ns.length U,.slice a6 (({ d with ns:=dpN d.ns p,ws:=dpW d.ws p } : Dg).ws).length a7,vi (({ d with ns:=dpN d.ns p,ws:=dpW d.ws p } : Dg).t),vi (wr ((({ d with ns:=dpN d.ns p,ws:=dpW d.ws p } : Dg).r)+2))]) rfl X2 (j.at 0) rfl) rfl) ?_)
 rw [aW,Q4 rfl,C]
 exact ⟨Q,U,a6,a7,rfl,g.rd.top,x.top,aI,(X1v _ _).symm,i⟩
theorem Xur(w0:World)(d:Dg)(md:Nat)(J:md=d.ns.length)(Ad:Option Addr)(cd:Nat)(M:Rd w0 w0.heap.size 81 encNd Ad d.ns)(Bd:Option Addr)(dd:Nat)(a8:Rd w0 w0.heap.size 83 encWr Bd d.ws)(G:d.ws.length≤dd)(p:Int)(hD:InD d) : Ret Tryz.prog 178 [.agg #[vi d.n,.slice Ad md cd,.slice Bd d.ws.length dd,vi d.t,vi d.r],vi p] w0 (fun v w=>∃ A c B e,v=.tuple #[.agg #[vi (if (lcC d p)=true then lcD d p else d).n,.slice A md c,.slice B (if (lcC d p)=true then lcD d p else d).ws.length e,vi (if (lcC d p)=true then lcD d p else d).t,vi (if (lcC d p)=true then lcD d p else d).r],.bool (lcC d p)]∧Rd w w.heap.size 81 encNd A (if (lcC d p)=true then lcD d p else d).ns∧Rd w w.heap.size 83 encWr B (if (lcC d p)=true then lcD d p else d).ws∧(if (lcC d p)=true then lcD d p else d).ws.length≤e∧md=(if (lcC d p)=true then lcD d p else d).ns.length∧Below w0.heap.size w0 w):=by
 have dO:=hD.len;have dP:=hD.m;have dQ:=X27 d.ws p;have dH:=X3e hD p;have dR:=X1s hD.p p.toNat;refine enter Tryz.func178 rfl 95 rfl rfl ?_;intro a h
 have i:=bz w0
 refine Zs h fun _ cX=>?_;refine Zf (X0c (zs:=[vi d.n,.slice Ad md cd,.slice Bd d.ws.length dd,vi d.t,vi d.r]) rfl rfl) ?_;rintro _ w1 ⟨b4,rfl,cY,H,y⟩;have dI:=Q0 i.size cY;have i:=btr i H;refine Zf (Xu (zs:=[vi 0,.slice none 0 0,.slice none 0 0,vi 0,vi 0]) X0s rfl) ?_;rintro _ w2 ⟨b7,rfl,d5,H,g⟩
 have cW:b4≠b7:=by have:=y.lt;omega
 have aQ:=Q0 i.size d5;have y:=y.below H;have i:=btr i H;refine Za rfl<|ZX cX fun a h _ d6=>?_;refine Q5 fun _ d7=>?_;refine X0a (fun a w=>Fr a 95 [(1,vi p),(2,.pointer (some ⟨b4,0,none⟩)),(4,.pointer (some ⟨b7,0,none⟩)),(26,.bool ((!(spI d.ns p))||((((d.ns.getD p.toNat nZ).p).tmod 4) != 2)))]∧Below w2.heap.size w2 w) ?_ ?_
 ·have aA:Below w2.heap.size w2 w2:=Below.refl _ _
  refine Zr h<|Ze (Vn X2 y)<|Zm rfl<|Zf (Vc (X5t _ d md J Ad cd (M.below' i).top Bd dd (a8.below' i).top G p (by rw [J];exact hD.m)) X35) ?_;rintro _ w3 ⟨rfl,H⟩;have y:=y.below H;have i:=btr i H;have aA:=btr aA H;refine Ze (X0y rfl)<|Zm rfl ?_
  refine Zg 17 rfl (fun q=>?_) (fun q=>?_)
  ·refine Zp (gP q) ?_;refine Zp (gP q) ?_;refine Zp (gP q) ?_;refine Zp (gP q) ?_;refine Zp (gP q) ?_;refine Zp (gP q) ?_;refine Zp (gP q) ?_;refine Zp (gP q) ?_;refine Ze (X7 rfl q rfl) ?_;refine Zn fun a h=>?_
   have aM:Below w2.heap.size w2 w3:=aA
   exact ⟨h.sub ⟨rfl,rfl,rfl,X1 rfl (by first|rfl|(simp only [q,bs];done)|simp [q]),trivial⟩,aM⟩
  have aW:0≤p∧p.toNat<d.ns.length:=by have h9:=X19 (ns:=d.ns) (k:=p) (by simpa using q);exact ⟨h9.1,h9.2.1⟩
  refine Zv (gW q) (Vd rfl Xj 1) ?_;refine Zv (gW q) (X0 rfl X00 (y.at 1)) ?_;refine Zv (gW q) (X3 rfl) ?_;refine Zj (k:=p.toNat) (u:=(d.ns.getD p.toNat nZ)) (enc:=encNd) (l:=d.ns) ⟨_,_,rfl,rfl,q⟩ rfl J rfl Xs X07 Xv (M.below' i) (Xb aW.2) (by omega) ?_;intro dS aZ;refine Zv (gW q) (X23 rfl X06) ?_;refine Zv (gW q) (X0 rfl X9 (aZ.drop 1)) ?_;refine Zv (gW q) (X4v rfl rfl rfl) ?_;refine Zv (gW q) (X1j rfl rfl) ?_;refine Ze (Xe rfl q rfl) ?_;refine Zn fun a h=>?_
  have aM:Below w2.heap.size w2 w3:=aA
  exact ⟨h.sub ⟨rfl,rfl,rfl,X1 rfl (by first|rfl|(simp only [q,bs];done)|simp [q]),trivial⟩,aM⟩
 rintro a w4 ⟨h,H⟩;have y:=y.below H;have g:=g.below H;have i:=btr i H;refine d7 _ _ ?_
 refine Xg h rfl (fun aJ=>?_) (fun aJ=>?_)
 ·have aB:=aJ;have b0:=Xhz hD aJ;refine Zs h fun _ bF=>?_;refine Ze (Vn X2 y)<|Zo (Vw [vi d.n,.slice Ad md cd,.slice Bd d.ws.length dd,vi d.t,vi d.r] Xp g) ?_;rintro _ w5 ⟨I,hb⟩;have x:=g;have i:=Below.only i I aQ;have g:=hb;refine Za rfl<|Zt bF fun a h=>?_;refine Q6<|X6<|X4 h (X17 h rfl (ResV.cellN (l:=[vi d.n,.slice Ad md cd,.slice Bd d.ws.length dd,vi d.t,vi d.r]) rfl X2 (g.at 0) rfl) rfl) ?_
  rw [b0,Q3 Bool.false_ne_true]
  exact ⟨Ad,cd,Bd,dd,rfl,(M.below' i).top,(a8.below' i).top,G,J,i⟩
 have aB:=aJ;have aX:=Xeb hD aJ
 have aW:0≤p∧p.toNat<d.ns.length:=⟨(X19 aX.1).1,(X19 aX.1).2.1⟩
 refine Q7<|d6 _ _<|Zs h fun _ bG=>?_;refine Ze (Vn X2 y)<|Zm rfl<|Zf (Vc (X9q _ d md J Ad cd (M.below' i).top Bd dd (a8.below' i).top G p hD.w (by omega)) X59) ?_;rintro _ w6 ⟨aF,aG,rfl,b,H⟩;have b:=b.lower i.size;have y:=y.below H;have g:=g.below H;have i:=btr i H;refine Za rfl<|ZX bG fun a h _ bH=>?_;refine Q5 fun _ bJ=>?_;refine X0a (fun a w=>Fr a 95 [(1,vi p),(2,.pointer (some ⟨b4,0,none⟩)),(4,.pointer (some ⟨b7,0,none⟩)),(6,.slice aF (nearW d.ws p).length aG),(40,.bool ((!(hadD d p))||(!(rdyD d (nearW d.ws p)))))]∧Below w6.heap.size w6 w) ?_ ?_
 ·have aA:Below w6.heap.size w6 w6:=Below.refl _ _
  refine Zr h<|Ze (Vn X2 y)<|Zm rfl<|Zf (Vc (Xin _ d md J Ad cd (M.below' i).top Bd dd (a8.below' i).top G p hD.w (by omega)) Xaw) ?_;rintro _ w7 ⟨rfl,H⟩;have y:=y.below H;have b:=b.below H;have i:=btr i H;have aA:=btr aA H;refine Ze (X0y rfl)<|Zm rfl ?_
  refine Zg 35 rfl (fun D=>?_) (fun D=>?_)
  ·refine Zp (gP D) ?_;refine Zp (gP D) ?_;refine Zp (gP D) ?_;refine Zp (gP D) ?_;refine Ze (X7 rfl D rfl) ?_;refine Zn fun a h=>?_
   have aM:Below w6.heap.size w6 w7:=aA
   exact ⟨h.sub ⟨rfl,rfl,rfl,rfl,X1 rfl (by first|rfl|(simp only [aB,D,bs];done)|simp [aB,D]),trivial⟩,aM⟩
  refine Zv (gW D) (Vn X2 y) ?_;refine Zv (gW D) (X3 rfl) ?_;refine Zk (gW D) (Vc (Xnz _ d md J Ad cd (M.below' i).top Bd dd (a8.below' i).top G aF aG (nearW d.ws p) b.rd.top (by omega) (by omega) (by omega) b.cap) Xdt) ?_;rintro _ w8 ⟨rfl,H⟩;have i:=btr i H;have aA:=btr aA H;refine Zv (gW D) (X0y rfl) ?_;refine Ze (Xe rfl D rfl) ?_;refine Zn fun a h=>?_
  have aM:Below w6.heap.size w6 w8:=aA
  exact ⟨h.sub ⟨rfl,rfl,rfl,rfl,X1 rfl (by first|rfl|(simp only [aB,D,bs];done)|simp [aB,D]),trivial⟩,aM⟩
 rintro a w9 ⟨h,H⟩;have y:=y.below H;have g:=g.below H;have b:=b.below H;have i:=btr i H;refine bJ _ _ ?_
 refine Xg h rfl (fun aK=>?_) (fun aK=>?_)
 ·have b1:=aK;have b0:=Xq4 aK;refine Zs h fun _ bK=>?_;refine Ze (Vn X2 y)<|Zo (Vw [vi d.n,.slice Ad md cd,.slice Bd d.ws.length dd,vi d.t,vi d.r] Xp g) ?_;rintro _ dU ⟨I,hb⟩;have x:=g;have i:=Below.only i I aQ;have g:=hb;refine Za rfl<|Zt bK fun a h=>?_;refine Q6<|X6<|X4 h (X17 h rfl (ResV.cellN (l:=[vi d.n,.slice Ad md cd,.slice Bd d.ws.length dd,vi d.t,vi d.r]) rfl X2 (g.at 0) rfl) rfl) ?_
  rw [b0,Q3 Bool.false_ne_true]
  exact ⟨Ad,cd,Bd,dd,rfl,(M.below' i).top,(a8.below' i).top,G,J,i⟩
 have b1:=aK;have d8:=Xel aX aK;refine Q7<|bH _ _<|Zs h fun _ bL=>?_;refine Ze (Vn X2 y)<|Zf (Vc (X99 _ d md J Ad cd (M.below' i).top Bd dd (a8.below' i).top G ⟨by omega,by omega⟩) X5f) ?_;rintro _ dW ⟨b2,b3,d9,dB,rfl,L,aP,H⟩;have L:=L.lower i.size;have aP:=aP.lower i.size;have y:=y.below H;have g:=g.below H;have b:=b.below H;have i:=btr i H;refine Zm rfl<|Zf (Vc (X9v _ d d.ns.length rfl b2 b3 _ L i.size d9 dB aP.rd.top aP.cap p aW (by omega)) X5b) ?_;rintro _ dX ⟨bM,bN,rfl,U,aL,bO,dJ,hg⟩;have C:=L;have y:=y.appT C hg rfl;have g:=g.appT C hg rfl;have b:=b.appT C hg rfl;have i:=Below.app i C hg (Qb _) i.size
 clear C hg;clear L;have L:=U;clear U;refine Zf (Xu (zs:=[vi 0,.slice none 0 0,.slice none 0 0,vi 0,vi 0]) X0s rfl) ?_;rintro _ dY ⟨b28,rfl,bP,H,f⟩
 have bR:b4≠b28:=by have:=y.lt;omega
 have bS:b7≠b28:=by have:=g.lt;omega
 have aC:=Q0 i.size bP;have y:=y.below H;have g:=g.below H;have b:=b.below H;have L:=L.below H;have aL:=aL.below H;have i:=btr i H;refine Zo (Vw [vi (({ d with ns:=dpN d.ns p,ws:=dpW d.ws p } : Dg).n),.slice b2 d.ns.length b3,.slice bM (({ d with ns:=dpN d.ns p,ws:=dpW d.ws p } : Dg).ws).length bN,vi (({ d with ns:=dpN d.ns p,ws:=dpW d.ws p } : Dg).t),vi (({ d with ns:=dpN d.ns p,ws:=dpW d.ws p } : Dg).r)] Xp f) ?_;rintro _ e8 ⟨I,hb⟩;have x:=f;have y:=y.only I (by omega);have g:=g.only I (by omega);have b:=b.onlyT I x rfl;have L:=L.onlyT I x rfl;have aL:=aL.onlyT I x rfl;have i:=Below.only i I aC;have f:=hb;refine Zx bL fun a h _ bT=>?_;refine Ze (Vd rfl Xj 1)<|Ze (X0 rfl X00 (y.at 1))<|Zm rfl<|Zj (k:=p.toNat) (u:=(d.ns.getD p.toNat nZ)) (enc:=encNd) (l:=d.ns) trivial rfl J rfl Xs X07 Xv (M.below' i) (Xb aW.2) (by omega) ?_;intro eA b5;refine Ze (X23 rfl X06)<|Ze (X0 rfl X9 (b5.drop 1))<|Za rfl<|ZX bT fun a h _ bU=>?_;refine Zs h fun _ bW=>?_;refine Zm rfl<|Ze (X0d rfl Xl)<|Zm rfl<|Zt bW fun a h=>?_;refine Q8<|X01 (σ:=Nat×Dg) (fun (s:Nat×Dg) (a:Act) (w:World)=>match s with|(k,o)=>∃ aD aE aH aI,Fr a 95 [(4,.pointer (some ⟨b7,0,none⟩)),(6,.slice aF (nearW d.ws p).length aG),(7,.pointer (some ⟨b28,0,none⟩)),(8,vi ((d.ns.getD p.toNat nZ).p)),(52,.slice aF (nearW d.ws p).length aG),(53,vi ((nearW d.ws p).length:Int)),(54,vi (k:Int))]∧(k≤(nearW d.ws p).length)∧(o=lcS (d.ns.getD p.toNat nZ).p (nearW d.ws p) (id0 d p) k)∧(d.ns.length=o.ns.length)∧(o.ws.length≤d.ws.length+k*1000)∧(PhN o.ns)∧Blk w b7 39 [vi 0,.slice none 0 0,.slice none 0 0,vi 0,vi 0]∧Blk w b28 39 [vi o.n,.slice aD d.ns.length aE,.slice aH o.ws.length aI,vi o.t,vi o.r]∧Own w w0.heap.size 3 1 encI aF aG (nearW d.ws p)∧Own w w0.heap.size 81 2 encNd aD aE o.ns∧Rd w w.heap.size 83 encWr aH o.ws∧d.ws.length≤dd∧o.ws.length≤aI∧Below w0.heap.size w0 w) (fun (s:Nat×Dg)=>match s with|(k,o)=>(nearW d.ws p).length-k) (0,(id0 d p)) ?_ ?_
 ·exact ⟨b2,b3,bM,bN,h.sb,(Qf _),rfl,(X1v _ _).symm,(Q0 (X2f _ _) (by omega)),(X54 hD.p p),g,f,b,L,aL.top,G,bO,i⟩
 rintro ⟨k,o⟩ a eB ⟨aD,aE,aH,aI,h,hk,bX,b6,dC,bY,g,f,b,E,W,G,c4,i⟩;refine Zs h fun _ c5=>?_;refine Ze (X0l rfl rfl)<|ZX c5 fun a h _ cA=>?_
 refine Xg h rfl (fun N=>?_) (fun N=>?_)
 ·have b8:=N;have N:=Q2 N
  obtain ⟨eC,dK⟩:=X5 (l:=(nearW d.ws p)) (k:=k) (by omega)
  obtain ⟨u9,b9⟩:=X5 (l:=(nearW d.ws p)) (k:=k) (by have:=N;omega)
  have dD:=X6g hD b9;have eD:=X1s bY u9.toNat;refine Q7<|cA _ _<|Q5 fun _ cB=>?_;refine Q8<|Zs h fun _ cC=>?_;refine Zm rfl<|Zi (k:=k) (u:=u9) (enc:=encI) (l:=(nearW d.ws p)) trivial rfl rfl Xl X08 Xf b.rd b9 rfl ?_;intro eE bA;refine Ze (X0 rfl X9 bA)<|Za rfl<|Za rfl<|Zx cC fun a h _ cD=>?_;refine Ze (Vn X2 f)<|Zm rfl<|Zm rfl<|Ze (X1g rfl rfl (by omega) (by omega))<|Zf (Vc (X9e _ o d.ns.length b6 aD aE _ E i.size aH aI W.top c4 u9 (8-((d.ns.getD p.toNat nZ).p)) ⟨dD.1,by omega⟩ ⟨by omega,by omega⟩) X5a) ?_;rintro _ eF ⟨cE,cF,rfl,U,aR,cG,dL,hg⟩;have C:=E;have g:=g.appT C hg rfl;have f:=f.appT C hg rfl;have b:=b.appT C hg rfl;have i:=Below.app i C hg (Qb _) i.size
  clear C hg;clear E;have E:=U;clear U;refine Zo (Vw [vi (({ o with ns:=adN o.ns u9 (8-((d.ns.getD p.toNat nZ).p)) } : Dg).n),.slice aD d.ns.length aE,.slice cE (({ o with ns:=adN o.ns u9 (8-((d.ns.getD p.toNat nZ).p)) } : Dg).ws).length cF,vi (({ o with ns:=adN o.ns u9 (8-((d.ns.getD p.toNat nZ).p)) } : Dg).t),vi (({ o with ns:=adN o.ns u9 (8-((d.ns.getD p.toNat nZ).p)) } : Dg).r)] Xp f) ?_;rintro _ dE ⟨I,hb⟩;have x:=f;have g:=g.only I (by omega);have b:=b.onlyT I x rfl;have E:=E.onlyT I x rfl;have aR:=aR.onlyT I x rfl;have i:=Below.only i I aC;have f:=hb;refine Zx cD fun a h _ cH=>?_;refine Zm rfl<|Zm rfl ?_;have a6:=(b.rd.top).takeK Xf k;refine Ze (X2x (l:=(nearW d.ws p)) (k:=k) rfl rfl Xl X08 rfl hk b.cap)<|Ze (X0d rfl Xl)<|Zm rfl<|Zt cH fun a h=>?_;refine Q8<|X01 (σ:=Nat×Dg) (fun (s:Nat×Dg) (a:Act) (w:World)=>match s with|(j,z)=>∃ aN aO aS aT,Fr a 95 [(4,.pointer (some ⟨b7,0,none⟩)),(6,.slice aF (nearW d.ws p).length aG),(7,.pointer (some ⟨b28,0,none⟩)),(8,vi ((d.ns.getD p.toNat nZ).p)),(10,vi u9),(52,.slice aF (nearW d.ws p).length aG),(53,vi ((nearW d.ws p).length:Int)),(54,vi (k:Int)),(66,.slice aF ((nearW d.ws p).take k).length aG),(67,vi (((nearW d.ws p).take k).length:Int)),(68,vi (j:Int))]∧(j≤((nearW d.ws p).take k).length)∧(z=tgL ({ o with ns:=adN o.ns u9 (8-(d.ns.getD p.toNat nZ).p) } : Dg) u9 (((nearW d.ws p).take k).take j))∧(d.ns.length=z.ns.length)∧(z.ws.length≤o.ws.length+j)∧(PhN z.ns)∧Blk w b7 39 [vi 0,.slice none 0 0,.slice none 0 0,vi 0,vi 0]∧Blk w b28 39 [vi z.n,.slice aN d.ns.length aO,.slice aS z.ws.length aT,vi z.t,vi z.r]∧Own w w0.heap.size 3 1 encI aF aG (nearW d.ws p)∧Rd w dE.heap.size 3 encI aF ((nearW d.ws p).take k)∧Own w w0.heap.size 81 2 encNd aN aO z.ns∧Rd w w.heap.size 83 encWr aS z.ws∧d.ws.length≤dd∧z.ws.length≤aT∧Below w0.heap.size w0 w) (fun (s:Nat×Dg)=>match s with|(j,z)=>((nearW d.ws p).take k).length-j) (0,({ o with ns:=adN o.ns u9 (8-(d.ns.getD p.toNat nZ).p) } : Dg)) ?_ ?_
  ·exact ⟨aD,aE,cE,cF,h.sb,(Qf _),rfl,(b6.trans (X21 _ _ _).symm),(Qb _),(X5y bY _ _),g,f,b,a6,E,aR.top,G,cG,i⟩
  rintro ⟨j,z⟩ a eG ⟨aN,aO,aS,aT,h,hj,hz,bB,dF,cJ,g,f,b,a6,a7,aY,G,cK,i⟩;refine Zs h fun _ cL=>?_;refine Ze (X0l rfl rfl)<|ZX cL fun a h _ cM=>?_
  refine Xg h rfl (fun Q=>?_) (fun Q=>?_)
  ·have bC:=Q;have Q:=Q2 Q
   obtain ⟨eH,dM⟩:=X5 (l:=((nearW d.ws p).take k)) (k:=j) (by omega)
   obtain ⟨v9,bD⟩:=X5 (l:=(nearW d.ws p).take k) (k:=j) (by have:=Q;omega)
   have eI:j<k:=by have:=(Qg.1 bD).1;rw [Qn] at this;omega
   refine Q7<|cM _ _<|Q5 fun _ cN=>?_;refine Q8<|Zs h fun _ cO=>?_;refine Zi (k:=j) (u:=v9) (enc:=encI) (l:=((nearW d.ws p).take k)) trivial rfl rfl Xl X08 Xf a6 bD rfl ?_;intro eJ bE;refine Ze (X0 rfl X9 bE)<|Za rfl<|Zt cO fun a h=>?_;refine Zr h<|Ze (Vn X2 f)<|Zm rfl<|Zm rfl<|Zf (Vc (Xo6 _ z d.ns.length bB aN aO _ a7 i.size aS aT aY.top cK u9 v9 (by have:=dF;have:=dC;rw [Qn] at hj;omega)) Xef) ?_;rintro _ eK ⟨cP,cQ,rfl,U,aU,cR,dN,hg⟩;have C:=a7;have g:=g.appT C hg rfl;have f:=f.appT C hg rfl;have b:=b.appT C hg rfl;have a6:=a6.appT C hg rfl;have i:=Below.app i C hg (Qb _) i.size
   clear C hg;clear a7;have a7:=U;clear U;refine Zo (Vw [vi ((tgD z u9 v9).n),.slice aN d.ns.length aO,.slice cP ((tgD z u9 v9).ws).length cQ,vi ((tgD z u9 v9).t),vi ((tgD z u9 v9).r)] Xp f) ?_;rintro _ eL ⟨I,hb⟩;have x:=f;have g:=g.only I (by omega);have b:=b.onlyT I x rfl;have a6:=a6.onlyT I x rfl;have a7:=a7.onlyT I x rfl;have aU:=aU.onlyT I x rfl;have i:=Below.only i I aC;have f:=hb;refine Zn fun a h=>?_;refine Xa<|cN _ _<|Zr h<|Ze (Xw rfl rfl (by omega) (by omega))<|Zm rfl ?_;refine Zn fun a h=>?_;refine Xh ?_;exact ⟨(j+1,(tgD z u9 v9)),⟨aN,aO,cP,cQ,h.sb,(by omega),(by rw [Xhy bD,← hz]),(by rw [(X2z z u9 v9).1];exact bB),(by have:=(X2z z u9 v9).2;omega),(by rw [(X2z z u9 v9).1];exact cJ),g,f,b,a6,a7,aU.top,G,cR,i⟩,(by first|omega|(dsimp only;omega))⟩
  have bC:=Q;have Q:=Q1 Q
  have dG:z=lcS (d.ns.getD p.toNat nZ).p (nearW d.ws p) (id0 d p) (k+1):=by rw [hz,Qi (by have:=Q;omega),bX,Xid b9]
  have eM:j≤k:=by rw [Qn] at hj;omega
  refine Q9<|Xk<|Xk<|X03 ?_;refine Xa<|cB _ _<|Zr h<|Ze (Xw rfl rfl (by omega) (by omega))<|Zm rfl ?_;refine Zn fun a h=>?_;refine Xh ?_;exact ⟨(k+1,z),⟨aN,aO,aS,aT,h.sb,(by omega),dG,bB,(by omega),cJ,g,f,b,a7,aY.top,G,cK,i⟩,(by first|omega|(dsimp only;omega))⟩
 have b8:=N;have N:=Q1 N
 have cS:o=lcS (d.ns.getD p.toNat nZ).p (nearW d.ws p) (id0 d p) (nearW d.ws p).length:=by rw [bX];congr 1;have:=N;omega
 refine Q9<|Xk<|Xk<|X03 ?_;refine bU _ _<|Zs h fun _ cT=>?_;refine Ze (Vd rfl X0t 3)<|Ze (X0 rfl X9 (f.at 3))<|Zm rfl<|Ze (X1g rfl rfl (by omega) (by omega))<|Ze (Xx4 rfl rfl rfl)<|Ze (Xxc rfl rfl)<|Ze (Vx (X43 rfl rfl) (Xna aX.2))<|Ze (X43 rfl rfl)<|Ze (Vd rfl X0t 3)<|Zo (Vu (vs:=[vi (wr (o.t+(if (d.ns.getD p.toNat nZ).p=2 then 1 else 7)))]) (l':=[vi o.n,.slice aD d.ns.length aE,.slice aH o.ws.length aI,vi (wr (o.t+(if (d.ns.getD p.toNat nZ).p=2 then 1 else 7))),vi o.r]) rfl rfl X08 f) ?_;rintro _ eN ⟨I,hb⟩;have x:=f;have g:=g.only I (by omega);have E:=E.onlyT I x rfl;have W:=W.onlyT I x rfl;have i:=Below.only i I aC;have f:=hb;refine Zx cT fun a h _ cU=>?_;refine Ze (Vd rfl X02 4)<|Ze (X0 rfl X9 (f.at 4))<|Zm rfl<|Ze (X0d rfl Xl)<|Ze (X1g rfl rfl (by omega) (by omega))<|Ze (X43 rfl rfl)<|Ze (Vd rfl X02 4)<|Zo (Vu (vs:=[vi (wr (o.r+(1-((nearW d.ws p).length:Int))))]) (l':=[vi o.n,.slice aD d.ns.length aE,.slice aH o.ws.length aI,vi (wr (o.t+(if (d.ns.getD p.toNat nZ).p=2 then 1 else 7))),vi (wr (o.r+(1-((nearW d.ws p).length:Int))))]) rfl rfl X08 f) ?_;rintro _ eO ⟨I,hb⟩;have x:=f;have g:=g.only I (by omega);have E:=E.onlyT I x rfl;have W:=W.onlyT I x rfl;have i:=Below.only i I aC;have f:=hb;refine Zx cU fun a h _ cV=>?_;refine Ze (Vn X2 f)<|Zo (Vw [vi o.n,.slice aD d.ns.length aE,.slice aH o.ws.length aI,vi (wr (o.t+(if (d.ns.getD p.toNat nZ).p=2 then 1 else 7))),vi (wr (o.r+(1-((nearW d.ws p).length:Int))))] Xp g) ?_;rintro _ eP ⟨I,hb⟩;have x:=g;have E:=E.onlyT I x rfl
 have W:=W.onlyT I x rfl;have i:=Below.only i I aQ;have g:=hb;refine Za rfl<|Zt cV fun a h=>?_
 refine Q6 (X4 h (X17 h rfl (ResV.cellN (l:=[vi o.n,.slice aD d.ns.length aE,.slice aH o.ws.length aI,vi (wr (o.t+(if (d.ns.getD p.toNat nZ).p=2 then 1 else 7))),vi (wr (o.r+(1-((nearW d.ws p).length:Int))))]) rfl X2 (g.at 0) rfl) rfl) ?_)
 rw [d8,Q4 rfl,Xhi cS,J]
 exact ⟨aD,aE,aH,aI,rfl,E.rd.top,W.top,c4,b6,i⟩
def pvL(d:Dg)(a b:Int) : List Int:=(othW d.ws b a).foldl putI (othW d.ws a b)
def pvC(d:Dg)(a b:Int) : Bool:=spI d.ns a&&spI d.ns b&&decide (a<b)&&(d.ns.getD a.toNat nZ).p % 4==0&&(d.ns.getD b.toNat nZ).p % 4==0&&tyW d.ws a b==2&&hadD d a&&hadD d b&&rdyD d (pvL d a b)
def stN(c:Bool)(o:Dg)(x m:Int) : Dg:=if c=true then { o with ns:=adN o.ns x m } else o
def pvT(l m:List Int)(x:Int)(o:Dg)(y:Int) : Dg:=if (((l.any fun v=>v==x)&&(m.any fun v=>v==y)) != ((m.any fun v=>v==x)&&(l.any fun v=>v==y)))=true then tgD o x y else o
def pvF(l m:List Int)(x:Int)(r:List Int)(o:Dg) : Dg:=r.foldl (pvT l m x) o
def pv3(e f:Int)(l m:List Int)(x:Int)(o:Dg) : Dg:=stN ((l.any fun v=>v==x)&&(m.any fun v=>v==x)) (stN (m.any fun v=>v==x) (stN (l.any fun v=>v==x) o x f) x e) x 4
def pvM(e f:Int)(l m r:List Int)(o:Dg) : Nat→Dg
 | 0=>o
 | i+1=>pvF l m (r.getD i 0) (r.take i) (pv3 e f l m (r.getD i 0) (pvM e f l m r o i))
def pvD(d:Dg)(a b:Int) : Dg:=
 let o:=pvM (d.ns.getD a.toNat nZ).p (d.ns.getD b.toNat nZ).p (othW d.ws a b) (othW d.ws b a) (pvL d a b) (id0 (id0 d a) b) (pvL d a b).length
 { o with t:=if ((d.ns.getD a.toNat nZ).p+(d.ns.getD b.toNat nZ).p==8)=true then wr (o.t+4) else o.t,r:=wr (o.r+(1-((othW d.ws a b).length:Int)-((othW d.ws b a).length:Int))) }
theorem Xdf{d o:Dg}{a b:Int}(h:o=pvM (d.ns.getD a.toNat nZ).p (d.ns.getD b.toNat nZ).p (othW d.ws a b) (othW d.ws b a) (pvL d a b) (id0 (id0 d a) b) (pvL d a b).length) : pvD d a b = { o with t:=if ((d.ns.getD a.toNat nZ).p+(d.ns.getD b.toNat nZ).p==8)=true then wr (o.t+4) else o.t,r:=wr (o.r+(1-((othW d.ws a b).length:Int)-((othW d.ws b a).length:Int))) }:=by subst h;rfl
theorem Xjl{c:Bool}{o:Dg}{x m:Int}(h:c=true) : stN c o x m = { o with ns:=adN o.ns x m }:=Q4 h
theorem Xhd{c:Bool}{o:Dg}{x m:Int}(h:c=false) : stN c o x m=o:=Q3 (by rw [h];decide)
theorem Xtp{l m:List Int}{x y:Int}{o:Dg}(h:(((l.any fun v=>v==x)&&(m.any fun v=>v==y)) != ((m.any fun v=>v==x)&&(l.any fun v=>v==y)))=true) : pvT l m x o y=tgD o x y:=Q4 h
theorem Xtx{l m:List Int}{x y:Int}{o:Dg}(h:(((l.any fun v=>v==x)&&(m.any fun v=>v==y)) != ((m.any fun v=>v==x)&&(l.any fun v=>v==y)))=false) : pvT l m x o y=o:=Q3 (by rw [h];decide)
theorem Xi0{l m:List Int}{x:Int}{r:List Int}{o:Dg}{k:Nat}{v:Int}(hv:r[k]? = some v) : pvF l m x (r.take (k+1)) o=pvT l m x (pvF l m x (r.take k) o) v:=by
 unfold pvF
 rw [Qt,hv,Option.toList_some,List.foldl_append]
 rfl
theorem Xcn{e f u:Int}{l m r:List Int}{o:Dg}{k:Nat}(hu:r[k]? = some u) : pvM e f l m r o (k+1)=pvF l m u (r.take k) (pv3 e f l m u (pvM e f l m r o k)):=by
 have h:r.getD k 0=u:=by rw [Qa,hu];rfl
 show pvF l m (r.getD k 0) (r.take k) (pv3 e f l m (r.getD k 0) (pvM e f l m r o k))=_
 rw [h]
theorem X70{d:Dg}(h:InD d)(a b:Int) : (othW d.ws a b).length≤d.ns.length:=Q0 (List.length_filter_le _ _) (X3e h a)
theorem Xaj{d:Dg}(h:InD d)(a b:Int) : (pvL d a b).length≤2*d.ns.length:=by
 have h1:=X8e (othW d.ws b a) (othW d.ws a b);have h2:=X70 h a b;have h3:=X70 h b a
 unfold pvL
 omega
theorem X9x{d:Dg}(h:InD d){a b u:Int}{k:Nat}(hu:(pvL d a b)[k]? = some u) : 0≤u∧u.toNat<d.ns.length:=by
 have h1:=(X6s _ _ _).1 (Qe hu)
 rcases h1 with h1|h1
 ·exact X34 h (List.mem_filter.1 h1).1
 ·exact X34 h (List.mem_filter.1 h1).1
theorem Xjf{d:Dg}(hd:InD d){a b:Int}(h:(!(spI d.ns a)||!(spI d.ns b)||decide (b≤a)||((d.ns.getD a.toNat nZ).p.tmod 4 != 0)||((d.ns.getD b.toNat nZ).p.tmod 4 != 0)||(tyW d.ws a b != 2))=true) : pvC d a b=false:=by
 rw [X9m (X1s hd.p _).1,X9m (X1s hd.p _).1] at h
 unfold pvC
 generalize (d.ns.getD a.toNat nZ).p=x at h ⊢
 generalize (d.ns.getD b.toNat nZ).p=y at h ⊢
 cases h1:spI d.ns a
 ·rfl
 cases h2:spI d.ns b
 ·rfl
 cases h3:decide (a<b)
 ·rfl
 cases h4:(x % 4==0)
 ·simp
 cases h5:(y % 4==0)
 ·simp
 cases h6:(tyW d.ws a b==2)
 ·simp
 simp [h1,h2] at h h3 h4 h5 h6
 omega
theorem Xet{d:Dg}(hd:InD d){a b:Int}(h:(!(spI d.ns a)||!(spI d.ns b)||decide (b≤a)||((d.ns.getD a.toNat nZ).p.tmod 4 != 0)||((d.ns.getD b.toNat nZ).p.tmod 4 != 0)||(tyW d.ws a b != 2))=false) : (0≤a∧a.toNat<d.ns.length)∧(0≤b∧b.toNat<d.ns.length)∧(((d.ns.getD a.toNat nZ).p=0∨(d.ns.getD a.toNat nZ).p=4)∧((d.ns.getD b.toNat nZ).p=0∨(d.ns.getD b.toNat nZ).p=4))∧(spI d.ns a&&spI d.ns b&&decide (a<b)&&(d.ns.getD a.toNat nZ).p % 4==0&&(d.ns.getD b.toNat nZ).p % 4==0&&tyW d.ws a b==2)=true:=by
 rw [X9m (X1s hd.p _).1,X9m (X1s hd.p _).1] at h
 have ha:=X1s hd.p a.toNat;have hb:=X1s hd.p b.toNat
 generalize (d.ns.getD a.toNat nZ).p=x at h ha ⊢
 generalize (d.ns.getD b.toNat nZ).p=y at h hb ⊢
 cases h1:spI d.ns a
 ·simp [h1] at h
 cases h2:spI d.ns b
 ·simp [h2] at h
 have s1:=X19 h1
 have s2:=X19 h2
 simp [h1,h2] at h
 refine ⟨⟨s1.1,s1.2.1⟩,⟨s2.1,s2.2.1⟩,⟨by omega,by omega⟩,?_⟩
 simp
 omega
theorem Xjq{d:Dg}{a b:Int}(h:(!(hadD d a)||!(hadD d b)||!(rdyD d (pvL d a b)))=true) : pvC d a b=false:=by
 unfold pvC
 cases h1:hadD d a
 ·simp
 cases h2:hadD d b
 ·simp
 cases h3:rdyD d (pvL d a b)
 ·simp
 simp [h1,h2,h3] at h
theorem Xfg{d:Dg}{a b:Int}(h1:(spI d.ns a&&spI d.ns b&&decide (a<b)&&(d.ns.getD a.toNat nZ).p % 4==0&&(d.ns.getD b.toNat nZ).p % 4==0&&tyW d.ws a b==2)=true)(h:(!(hadD d a)||!(hadD d b)||!(rdyD d (pvL d a b)))=false) : pvC d a b=true:=by
 unfold pvC
 rw [h1]
 cases h2:hadD d a
 ·simp [h2] at h
 cases h3:hadD d b
 ·simp [h3] at h
 cases h4:rdyD d (pvL d a b)
 ·simp [h4] at h
 rfl
structure Rz where
 u:Int
 a:Int
 b:Int
deriving DecidableEq
def encRz(x:Rz) : List Value:=[.int .i64 x.u,.int .i64 x.a,.int .i64 x.b]
theorem X3f:∀ x,(encRz x).length=3:=fun _=>rfl
theorem X5c:∀ x,(encRz x).all one=true:=fun _=>rfl
def doC(d:Dg)(r:Rz) : Bool:=if (r.u==1)=true then fuC d r.a r.b else if (r.u==4)=true then pvC d r.a r.b else if (r.b != 0)=true then false else if (r.u==2)=true then idC d r.a else if (r.u==3)=true then lcC d r.a else if (r.u==5)=true then loC d r.a else false
def doD(d:Dg)(r:Rz) : Dg:=if (r.u==1)=true then fuD d r.a r.b else if (r.u==4)=true then pvD d r.a r.b else if (r.u==2)=true then idD d r.a else if (r.u==3)=true then lcD d r.a else loD d r.a
theorem Xu7{d:Dg}{r:Rz}(h1:(r.u==1)=true) : doC d r=fuC d r.a r.b∧doD d r=fuD d r.a r.b:=⟨Q4 h1,Q4 h1⟩
theorem Xuv{d:Dg}{r:Rz}(h1:(r.u==1)=false)(h4:(r.u==4)=true) : doC d r=pvC d r.a r.b∧doD d r=pvD d r.a r.b:=by
 unfold doC doD;rw [h1,h4];exact ⟨rfl,rfl⟩
theorem Xw6{d:Dg}{r:Rz}(h1:(r.u==1)=false)(h4:(r.u==4)=false)(hb:(r.b != 0)=true) : doC d r=false:=by
 unfold doC;rw [h1,h4,hb];rfl
theorem Xsx{d:Dg}{r:Rz}(h1:(r.u==1)=false)(h4:(r.u==4)=false)(hb:(r.b != 0)=false)(h2:(r.u==2)=true) : doC d r=idC d r.a∧doD d r=idD d r.a:=by
 unfold doC doD;rw [h1,h4,hb,h2];exact ⟨rfl,rfl⟩
theorem Xt6{d:Dg}{r:Rz}(h1:(r.u==1)=false)(h4:(r.u==4)=false)(hb:(r.b != 0)=false)(h2:(r.u==2)=false)(h3:(r.u==3)=true) : doC d r=lcC d r.a∧doD d r=lcD d r.a:=by
 unfold doC doD;rw [h1,h4,hb,h2,h3];exact ⟨rfl,rfl⟩
theorem Xts{d:Dg}{r:Rz}(h1:(r.u==1)=false)(h4:(r.u==4)=false)(hb:(r.b != 0)=false)(h2:(r.u==2)=false)(h3:(r.u==3)=false)(h5:(r.u==5)=true) : doC d r=loC d r.a∧doD d r=loD d r.a:=by
 unfold doC doD;rw [h1,h4,hb,h2,h3,h5];exact ⟨rfl,rfl⟩
theorem Xx8{d:Dg}{r:Rz}(h1:(r.u==1)=false)(h4:(r.u==4)=false)(hb:(r.b != 0)=false)(h2:(r.u==2)=false)(h3:(r.u==3)=false)(h5:(r.u==5)=false) : doC d r=false:=by
 unfold doC;rw [h1,h4,hb,h2,h3,h5];rfl
theorem Xv5(w0:World)(d:Dg)(md:Nat)(aD:md=d.ns.length)(Ad:Option Addr)(cd:Nat)(aP:Rd w0 w0.heap.size 81 encNd Ad d.ns)(Bd:Option Addr)(dd:Nat)(aY:Rd w0 w0.heap.size 83 encWr Bd d.ws)(N:d.ws.length≤dd)(p:Int)(q:Int)(hD:InD d) : Ret Tryz.prog 176 [.agg #[vi d.n,.slice Ad md cd,.slice Bd d.ws.length dd,vi d.t,vi d.r],vi p,vi q] w0 (fun v w=>∃ A c B e,v=.tuple #[.agg #[vi (if (pvC d p q)=true then pvD d p q else d).n,.slice A md c,.slice B (if (pvC d p q)=true then pvD d p q else d).ws.length e,vi (if (pvC d p q)=true then pvD d p q else d).t,vi (if (pvC d p q)=true then pvD d p q else d).r],.bool (pvC d p q)]∧Rd w w.heap.size 81 encNd A (if (pvC d p q)=true then pvD d p q else d).ns∧Rd w w.heap.size 83 encWr B (if (pvC d p q)=true then pvD d p q else d).ws∧(if (pvC d p q)=true then pvD d p q else d).ws.length≤e∧md=(if (pvC d p q)=true then pvD d p q else d).ns.length∧Below w0.heap.size w0 w):=by
 have iT:=hD.len;have iU:=hD.m;have iV:=X70 hD p q;have iW:=X70 hD q p;have gM:=Xaj hD p q;have iX:=X1s hD.p p.toNat;have iY:=X1s hD.p q.toNat;have iZ:=X2f d.ws p;have j0:=X2f (dpW d.ws p) q;refine enter Tryz.func176 rfl 196 rfl rfl ?_;intro a J
 have G:=bz w0
 refine Zs J fun _ gN=>?_;refine Zf (X0c (zs:=[vi d.n,.slice Ad md cd,.slice Bd d.ws.length dd,vi d.t,vi d.r]) rfl rfl) ?_;rintro _ w1 ⟨b4,rfl,gO,L,M⟩;have iH:=Q0 G.size gO;have G:=btr G L;refine Zf (Xu (zs:=[vi 0,.slice none 0 0,.slice none 0 0,vi 0,vi 0]) X0s rfl) ?_;rintro _ w2 ⟨b7,rfl,gQ,L,E⟩
 have gL:b4≠b7:=by have:=M.lt;omega
 have bY:=Q0 G.size gQ;have M:=M.below L;have G:=btr G L;refine Za rfl<|ZX gN fun a J _ gR=>?_;refine Q5 fun _ gS=>?_;refine X0a (fun a w=>Fr a 196 [(1,vi p),(2,vi q),(3,.pointer (some ⟨b4,0,none⟩)),(6,.pointer (some ⟨b7,0,none⟩)),(63,.bool ((((((!(spI d.ns p))||(!(spI d.ns q)))||(decide (q≤p)))||((((d.ns.getD p.toNat nZ).p).tmod 4) != 0))||((((d.ns.getD q.toNat nZ).p).tmod 4) != 0))||((tyW d.ws p q) != 2)))]∧Below w2.heap.size w2 w) ?_ ?_
 ·have aB:Below w2.heap.size w2 w2:=Below.refl _ _
  refine Zr J<|Ze (Vn X2 M)<|Zm rfl<|Zf (Vc (X5t _ d md aD Ad cd (aP.below' G).top Bd dd (aY.below' G).top N p (by rw [aD];exact hD.m)) X35) ?_;rintro _ w3 ⟨rfl,L⟩;have M:=M.below L;have G:=btr G L;have aB:=btr aB L;refine Ze (X0y rfl)<|Zm rfl ?_
  refine Zg 26 rfl (fun a7=>?_) (fun a7=>?_)
  ·refine Zp (gP a7) ?_;refine Zp (gP a7) ?_;refine Zp (gP a7) ?_;refine Zp (gP a7) ?_;refine Ze (X7 rfl a7 rfl)<|Zm rfl<|Zp (gP rfl) ?_;refine Zp (gP rfl) ?_;refine Zp (gP rfl) ?_;refine Ze (X7 rfl rfl rfl)<|Zm rfl<|Zp (gP rfl) ?_;refine Zp (gP rfl) ?_;refine Zp (gP rfl) ?_;refine Zp (gP rfl) ?_;refine Zp (gP rfl) ?_;refine Zp (gP rfl) ?_;refine Zp (gP rfl) ?_;refine Zp (gP rfl) ?_;refine Ze (X7 rfl rfl rfl)<|Zm rfl<|Zp (gP rfl) ?_;refine Zp (gP rfl) ?_;refine Zp (gP rfl) ?_;refine Zp (gP rfl) ?_;refine Zp (gP rfl) ?_;refine Zp (gP rfl) ?_;refine Zp (gP rfl) ?_;refine Zp (gP rfl) ?_;refine Ze (X7 rfl rfl rfl)<|Zm rfl<|Zp (gP rfl) ?_;refine Zp (gP rfl) ?_;refine Zp (gP rfl) ?_;refine Zp (gP rfl) ?_;refine Zp (gP rfl) ?_;refine Ze (X7 rfl rfl rfl) ?_;refine Zn fun a J=>?_
   have aO:Below w2.heap.size w2 w3:=aB
   exact ⟨J.sub ⟨rfl,rfl,rfl,rfl,X1 rfl (by first|rfl|(simp only [a7,bs];done)|simp [a7]),trivial⟩,aO⟩
  have cV:0≤p∧p.toNat<d.ns.length:=by have h9:=X19 (ns:=d.ns) (k:=p) (by simpa using a7);exact ⟨h9.1,h9.2.1⟩
  refine Zv (gW a7) (Vn X2 M) ?_;refine Zv (gW a7) (X3 rfl) ?_;refine Zk (gW a7) (Vc (X5t _ d md aD Ad cd (aP.below' G).top Bd dd (aY.below' G).top N q (by rw [aD];exact hD.m)) X35) ?_;rintro _ w4 ⟨rfl,L⟩;have M:=M.below L;have G:=btr G L;have aB:=btr aB L;refine Zv (gW a7) (X0y rfl) ?_;refine Ze (Xe rfl a7 rfl)<|Zm rfl ?_
  refine Zg 32 rfl (fun aC=>?_) (fun aC=>?_)
  ·refine Zp (gP aC) ?_;refine Zp (gP aC) ?_;refine Zp (gP aC) ?_;refine Ze (X7 rfl aC rfl)<|Zm rfl<|Zp (gP rfl) ?_;refine Zp (gP rfl) ?_;refine Zp (gP rfl) ?_;refine Zp (gP rfl) ?_;refine Zp (gP rfl) ?_;refine Zp (gP rfl) ?_;refine Zp (gP rfl) ?_;refine Zp (gP rfl) ?_;refine Ze (X7 rfl rfl rfl)<|Zm rfl<|Zp (gP rfl) ?_;refine Zp (gP rfl) ?_;refine Zp (gP rfl) ?_;refine Zp (gP rfl) ?_;refine Zp (gP rfl) ?_;refine Zp (gP rfl) ?_;refine Zp (gP rfl) ?_;refine Zp (gP rfl) ?_;refine Ze (X7 rfl rfl rfl)<|Zm rfl<|Zp (gP rfl) ?_;refine Zp (gP rfl) ?_;refine Zp (gP rfl) ?_;refine Zp (gP rfl) ?_;refine Zp (gP rfl) ?_;refine Ze (X7 rfl rfl rfl) ?_;refine Zn fun a J=>?_
   have aO:Below w2.heap.size w2 w4:=aB
   exact ⟨J.sub ⟨rfl,rfl,rfl,rfl,X1 rfl (by first|rfl|(simp only [a7,aC,bs];done)|simp [a7,aC]),trivial⟩,aO⟩
  have cE:0≤q∧q.toNat<d.ns.length:=by have h9:=X19 (ns:=d.ns) (k:=q) (by have h8:=aC;first|exact (by simpa using h8)|(simp at h8;exact h8.2));exact ⟨h9.1,h9.2.1⟩
  refine Zv (gW aC) (X3 rfl) ?_;refine Zv (gW aC) (X3 rfl) ?_;refine Zv (gW aC) (X4g rfl rfl) ?_;refine Ze (Xe rfl aC rfl)<|Zm rfl ?_
  refine Zg 37 rfl (fun Q=>?_) (fun Q=>?_)
  ·refine Zp (gP Q) ?_;refine Zp (gP Q) ?_;refine Zp (gP Q) ?_;refine Zp (gP Q) ?_;refine Zp (gP Q) ?_;refine Zp (gP Q) ?_;refine Zp (gP Q) ?_;refine Zp (gP Q) ?_;refine Ze (X7 rfl Q rfl)<|Zm rfl<|Zp (gP rfl) ?_;refine Zp (gP rfl) ?_;refine Zp (gP rfl) ?_;refine Zp (gP rfl) ?_;refine Zp (gP rfl) ?_;refine Zp (gP rfl) ?_;refine Zp (gP rfl) ?_;refine Zp (gP rfl) ?_;refine Ze (X7 rfl rfl rfl)<|Zm rfl<|Zp (gP rfl) ?_;refine Zp (gP rfl) ?_;refine Zp (gP rfl) ?_;refine Zp (gP rfl) ?_;refine Zp (gP rfl) ?_;refine Ze (X7 rfl rfl rfl) ?_;refine Zn fun a J=>?_
   have aO:Below w2.heap.size w2 w4:=aB
   exact ⟨J.sub ⟨rfl,rfl,rfl,rfl,X1 rfl (by first|rfl|(simp only [a7,aC,Q,bs];done)|simp [a7,aC,Q]),trivial⟩,aO⟩
  refine Zv (gW Q) (Vd rfl Xj 1) ?_;refine Zv (gW Q) (X0 rfl X00 (M.at 1)) ?_;refine Zv (gW Q) (X3 rfl) ?_;refine Zj (k:=p.toNat) (u:=(d.ns.getD p.toNat nZ)) (enc:=encNd) (l:=d.ns) ⟨_,_,rfl,rfl,Q⟩ rfl aD rfl Xs X07 Xv (aP.below' G) (Xb cV.2) (by omega) ?_;intro j1 dJ;refine Zv (gW Q) (X23 rfl X06) ?_;refine Zv (gW Q) (X0 rfl X9 (dJ.drop 1)) ?_;refine Zv (gW Q) (X4v rfl rfl rfl) ?_;refine Zv (gW Q) (X1j rfl rfl) ?_;refine Ze (Xe rfl Q rfl)<|Zm rfl ?_
  refine Zg 47 rfl (fun a6=>?_) (fun a6=>?_)
  ·refine Zp (gP a6) ?_;refine Zp (gP a6) ?_;refine Zp (gP a6) ?_;refine Zp (gP a6) ?_;refine Zp (gP a6) ?_;refine Zp (gP a6) ?_;refine Zp (gP a6) ?_;refine Zp (gP a6) ?_;refine Ze (X7 rfl a6 rfl)<|Zm rfl<|Zp (gP rfl) ?_;refine Zp (gP rfl) ?_;refine Zp (gP rfl) ?_;refine Zp (gP rfl) ?_;refine Zp (gP rfl) ?_;refine Ze (X7 rfl rfl rfl) ?_;refine Zn fun a J=>?_
   have aO:Below w2.heap.size w2 w4:=aB
   exact ⟨J.sub ⟨rfl,rfl,rfl,rfl,X1 rfl (by first|rfl|(simp only [a7,aC,Q,a6,bs];done)|simp [a7,aC,Q,a6]),trivial⟩,aO⟩
  refine Zv (gW a6) (Vd rfl Xj 1) ?_;refine Zv (gW a6) (X0 rfl X00 (M.at 1)) ?_;refine Zv (gW a6) (X3 rfl) ?_;refine Zj (k:=q.toNat) (u:=(d.ns.getD q.toNat nZ)) (enc:=encNd) (l:=d.ns) ⟨_,_,rfl,rfl,a6⟩ rfl aD rfl Xs X07 Xv (aP.below' G) (Xb cE.2) (by omega) ?_;intro j2 dK;refine Zv (gW a6) (X23 rfl X06) ?_;refine Zv (gW a6) (X0 rfl X9 (dK.drop 1)) ?_;refine Zv (gW a6) (X4v rfl rfl rfl) ?_;refine Zv (gW a6) (X1j rfl rfl) ?_;refine Ze (Xe rfl a6 rfl)<|Zm rfl ?_
  refine Zg 57 rfl (fun aL=>?_) (fun aL=>?_)
  ·refine Zp (gP aL) ?_;refine Zp (gP aL) ?_;refine Zp (gP aL) ?_;refine Zp (gP aL) ?_;refine Zp (gP aL) ?_;refine Ze (X7 rfl aL rfl) ?_;refine Zn fun a J=>?_
   have aO:Below w2.heap.size w2 w4:=aB
   exact ⟨J.sub ⟨rfl,rfl,rfl,rfl,X1 rfl (by first|rfl|(simp only [a7,aC,Q,a6,aL,bs];done)|simp [a7,aC,Q,a6,aL]),trivial⟩,aO⟩
  refine Zv (gW aL) (Vn X2 M) ?_;refine Zv (gW aL) (X3 rfl) ?_;refine Zv (gW aL) (X3 rfl) ?_;refine Zk (gW aL) (Vc (X8c _ d md aD Ad cd (aP.below' G).top Bd dd (aY.below' G).top N p q (by omega)) X4m) ?_;rintro _ w5 ⟨rfl,L⟩;have G:=btr G L;have aB:=btr aB L;refine Zv (gW aL) (X1j rfl rfl) ?_;refine Ze (Xe rfl aL rfl) ?_;refine Zn fun a J=>?_
  have aO:Below w2.heap.size w2 w5:=aB
  exact ⟨J.sub ⟨rfl,rfl,rfl,rfl,X1 rfl (by first|rfl|(simp only [a7,aC,Q,a6,aL,bs];done)|simp [a7,aC,Q,a6,aL]),trivial⟩,aO⟩
 rintro a w6 ⟨J,L⟩;have M:=M.below L;have E:=E.below L;have G:=btr G L;refine gS _ _ ?_
 refine Xg J rfl (fun bG=>?_) (fun bG=>?_)
 ·have U:=bG;have dL:=Xjf hD bG;refine Zs J fun _ eK=>?_;refine Ze (Vn X2 M)<|Zo (Vw [vi d.n,.slice Ad md cd,.slice Bd d.ws.length dd,vi d.t,vi d.r] Xp E) ?_;rintro _ w7 ⟨ho,hb⟩;have I:=E;have G:=Below.only G ho bY;have E:=hb;refine Za rfl<|Zt eK fun a J=>?_;refine Q6<|X6<|X4 J (X17 J rfl (ResV.cellN (l:=[vi d.n,.slice Ad md cd,.slice Bd d.ws.length dd,vi d.t,vi d.r]) rfl X2 (E.at 0) rfl) rfl) ?_
  rw [dL,Q3 Bool.false_ne_true]
  exact ⟨Ad,cd,Bd,dd,rfl,(aP.below' G).top,(aY.below' G).top,N,aD,G⟩
 have U:=bG;obtain ⟨cV,cE,iI,gT⟩:=Xet hD bG;refine Q7<|gR _ _<|Zs J fun _ eL=>?_;refine Ze (Vn X2 M)<|Zm rfl<|Zm rfl<|Zf (Vc (Xpq _ d md aD Ad cd (aP.below' G).top Bd dd (aY.below' G).top N p q hD.w (by omega)) Xfi) ?_;rintro _ w8 ⟨aS,aT,rfl,g,L⟩;have g:=g.lower G.size;have M:=M.below L;have E:=E.below L;have G:=btr G L;refine Za rfl<|Zx eL fun a J _ eM=>?_;refine Ze (Vn X2 M)<|Zm rfl<|Zm rfl<|Zf (Vc (Xpq _ d md aD Ad cd (aP.below' G).top Bd dd (aY.below' G).top N q p hD.w (by omega)) Xfi) ?_;rintro _ w9 ⟨aW,aX,rfl,h,L⟩;have h:=h.lower G.size;have M:=M.below L;have E:=E.below L;have g:=g.below L;have G:=btr G L;refine Za rfl<|Zx eM fun a J _ eN=>?_;refine Zm rfl<|Zf (Vc (Xxm _ aS aT (othW d.ws p q) g.rd.top (by omega)) Xr2) ?_;rintro _ j3 ⟨gU,gX,rfl,cF,L⟩;have cF:=cF.lower G.size;have M:=M.below L;have E:=E.below L;have g:=g.below L;have h:=h.below L;have G:=btr G L;refine Za rfl<|ZX eN fun a J _ eO=>?_;refine Zs J fun _ eP=>?_;refine Zm rfl<|Ze (X0d rfl Xl)<|Zm rfl<|Zt eP fun a J=>?_;refine Q8<|X01 (σ:=Nat×(List Int)) (fun (s:Nat×(List Int)) (a:Act) (w:World)=>match s with|(k,m)=>∃ aE aG,Fr a 196 [(1,vi p),(2,vi q),(3,.pointer (some ⟨b4,0,none⟩)),(6,.pointer (some ⟨b7,0,none⟩)),(8,.slice aS (othW d.ws p q).length aT),(9,.slice aW (othW d.ws q p).length aX),(10,.slice aE m.length aG),(75,.slice aW (othW d.ws q p).length aX),(76,vi ((othW d.ws q p).length:Int)),(77,vi (k:Int))]∧(k≤(othW d.ws q p).length)∧(m=((othW d.ws q p).take k).foldl putI (othW d.ws p q))∧Blk w b4 39 [vi d.n,.slice Ad md cd,.slice Bd d.ws.length dd,vi d.t,vi d.r]∧Blk w b7 39 [vi 0,.slice none 0 0,.slice none 0 0,vi 0,vi 0]∧Own w w0.heap.size 3 1 encI aE aG m∧Own w w0.heap.size 3 1 encI aS aT (othW d.ws p q)∧Own w w0.heap.size 3 1 encI aW aX (othW d.ws q p)∧d.ws.length≤dd∧Below w0.heap.size w0 w) (fun (s:Nat×(List Int))=>match s with|(k,m)=>(othW d.ws q p).length-k) (0,(othW d.ws p q)) ?_ ?_
 ·exact ⟨gU,gX,J.sb,(Qf _),rfl,M,E,cF,g,h,N,G⟩
 rintro ⟨k,m⟩ a w11 ⟨aE,aG,J,hk,hm,M,E,C,g,h,N,G⟩;refine Zs J fun _ eQ=>?_;refine Ze (X0l rfl rfl)<|ZX eQ fun a J _ eR=>?_
 refine Xg J rfl (fun b5=>?_) (fun b5=>?_)
 ·have W:=b5;have b5:=Q2 b5
  obtain ⟨j4,iJ⟩:=X5 (l:=(othW d.ws q p)) (k:=k) (by omega)
  obtain ⟨u9,c5⟩:=X5 (l:=(othW d.ws q p)) (k:=k) (by have:=b5;omega)
  have bH:=X2w (f:=putI) (b:=(othW d.ws p q)) c5
  rw [← hm] at bH
  refine Q7<|eR _ _<|Q5 fun _ eS=>?_;refine Q8<|Zs J fun _ eT=>?_;refine Zi (k:=k) (u:=u9) (enc:=encI) (l:=(othW d.ws q p)) trivial rfl rfl Xl X08 Xf h.rd c5 rfl ?_;intro j5 dM;refine Ze (X0 rfl X9 dM)<|Za rfl<|Zt eT fun a J=>?_;refine Zr J<|Zm rfl<|Zm rfl<|Zf (Vc (Xrw _ aE aG m C.rd.top u9 w0.heap.size C G.size (by have h9:=X8e ((othW d.ws q p).take k) (othW d.ws p q);rw [← hm,Qn] at h9;omega)) Xd2) ?_;rintro _ j6 ⟨gY,hJ,rfl,eU,L⟩;have M:=M.below L;have E:=E.below L;have g:=g.below L;have h:=h.below L;have G:=btr G L;refine Za rfl ?_;refine Zn fun a J=>?_;refine Xa<|eS _ _<|Zr J<|Ze (Xw rfl rfl (by omega) (by omega))<|Zm rfl ?_;refine Zn fun a J=>?_;refine Xh ?_;exact ⟨(k+1,(putI m u9)),⟨gY,hJ,J.sb,(by omega),(by rw [bH]),M,E,eU,g,h,N,G⟩,(by first|omega|(dsimp only;omega))⟩
 have W:=b5;have b5:=Q1 b5
 have cA:m=(pvL d p q):=by rw [hm,Qi (by have:=b5;omega)];rfl
 have j7:m.length≤2*d.ns.length:=by rw [cA];exact gM
 refine Q9<|Xk<|Xk<|X03 ?_;refine eO _ _<|Q5 fun _ eX=>?_;refine Q5 fun _ eY=>?_;refine X0a (fun a w=>Fr a 196 [(1,vi p),(2,vi q),(3,.pointer (some ⟨b4,0,none⟩)),(6,.pointer (some ⟨b7,0,none⟩)),(8,.slice aS (othW d.ws p q).length aT),(9,.slice aW (othW d.ws q p).length aX),(10,.slice aE m.length aG),(100,.bool (((!(hadD d p))||(!(hadD d q)))||(!(rdyD d m))))]∧Below w11.heap.size w11 w) ?_ ?_
 ·have aB:Below w11.heap.size w11 w11:=Below.refl _ _
  refine Zr J<|Ze (Vn X2 M)<|Zm rfl<|Zf (Vc (Xin _ d md aD Ad cd (aP.below' G).top Bd dd (aY.below' G).top N p hD.w (by omega)) Xaw) ?_;rintro _ w13 ⟨rfl,L⟩;have M:=M.below L;have C:=C.below L;have G:=btr G L;have aB:=btr aB L;refine Ze (X0y rfl)<|Zm rfl ?_
  refine Zg 89 rfl (fun aM=>?_) (fun aM=>?_)
  ·refine Zp (gP aM) ?_;refine Zp (gP aM) ?_;refine Zp (gP aM) ?_;refine Zp (gP aM) ?_;refine Ze (X7 rfl aM rfl)<|Zm rfl<|Zp (gP rfl) ?_;refine Zp (gP rfl) ?_;refine Zp (gP rfl) ?_;refine Zp (gP rfl) ?_;refine Ze (X7 rfl rfl rfl) ?_;refine Zn fun a J=>?_
   have aO:Below w11.heap.size w11 w13:=aB
   exact ⟨J.sub ⟨rfl,rfl,rfl,rfl,rfl,rfl,rfl,X1 rfl (by first|rfl|(simp only [U,W,aM,bs];done)|simp [U,W,aM]),trivial⟩,aO⟩
  refine Zv (gW aM) (Vn X2 M) ?_;refine Zv (gW aM) (X3 rfl) ?_;refine Zk (gW aM) (Vc (Xin _ d md aD Ad cd (aP.below' G).top Bd dd (aY.below' G).top N q hD.w (by omega)) Xaw) ?_;rintro _ w14 ⟨rfl,L⟩;have M:=M.below L;have C:=C.below L;have G:=btr G L;have aB:=btr aB L;refine Zv (gW aM) (X0y rfl) ?_;refine Ze (Xe rfl aM rfl)<|Zm rfl ?_
  refine Zg 95 rfl (fun aQ=>?_) (fun aQ=>?_)
  ·refine Zp (gP aQ) ?_;refine Zp (gP aQ) ?_;refine Zp (gP aQ) ?_;refine Zp (gP aQ) ?_;refine Ze (X7 rfl aQ rfl) ?_;refine Zn fun a J=>?_
   have aO:Below w11.heap.size w11 w14:=aB
   exact ⟨J.sub ⟨rfl,rfl,rfl,rfl,rfl,rfl,rfl,X1 rfl (by first|rfl|(simp only [U,W,aM,aQ,bs];done)|simp [U,W,aM,aQ]),trivial⟩,aO⟩
  refine Zv (gW aQ) (Vn X2 M) ?_;refine Zv (gW aQ) (X3 rfl) ?_;refine Zk (gW aQ) (Vc (Xnz _ d md aD Ad cd (aP.below' G).top Bd dd (aY.below' G).top N aE aG m C.rd.top (by omega) (by omega) (by omega) C.cap) Xdt) ?_;rintro _ w15 ⟨rfl,L⟩;have G:=btr G L;have aB:=btr aB L;refine Zv (gW aQ) (X0y rfl) ?_;refine Ze (Xe rfl aQ rfl) ?_;refine Zn fun a J=>?_
  have aO:Below w11.heap.size w11 w15:=aB
  exact ⟨J.sub ⟨rfl,rfl,rfl,rfl,rfl,rfl,rfl,X1 rfl (by first|rfl|(simp only [U,W,aM,aQ,bs];done)|simp [U,W,aM,aQ]),trivial⟩,aO⟩
 rintro a j8 ⟨J,L⟩;have M:=M.below L;have E:=E.below L;have C:=C.below L;have g:=g.below L;have h:=h.below L;have G:=btr G L;refine eY _ _ ?_
 refine Xg J rfl (fun bJ=>?_) (fun bJ=>?_)
 ·have aH:=bJ
  have dL:pvC d p q=false:=Xjq (by rw [← cA];exact bJ)
  refine Zs J fun _ f0=>?_;refine Ze (Vn X2 M)<|Zo (Vw [vi d.n,.slice Ad md cd,.slice Bd d.ws.length dd,vi d.t,vi d.r] Xp E) ?_;rintro _ j9 ⟨ho,hb⟩;have I:=E;have G:=Below.only G ho bY;have E:=hb;refine Za rfl<|Zt f0 fun a J=>?_;refine Q6<|X6<|X4 J (X17 J rfl (ResV.cellN (l:=[vi d.n,.slice Ad md cd,.slice Bd d.ws.length dd,vi d.t,vi d.r]) rfl X2 (E.at 0) rfl) rfl) ?_
  rw [dL,Q3 Bool.false_ne_true]
  exact ⟨Ad,cd,Bd,dd,rfl,(aP.below' G).top,(aY.below' G).top,N,aD,G⟩
 have aH:=bJ
 have f3:pvC d p q=true:=Xfg gT (by rw [← cA];exact bJ)
 refine Q7<|eX _ _<|Q5 fun _ f7=>?_;refine X05 none (fun _=>false) mixed ?_;intro jA L;have M:=M.below L;have E:=E.below L;have C:=C.below L;have g:=g.below L;have h:=h.below L;have G:=btr G L;refine Yb J<|Yo 0 rfl (fun _=>Vd rfl Xj 1)<|Ye 1 rfl (X0 rfl X00 (M.at 1))<|Yo 2 rfl (fun _=>X3 rfl)<|Yj (k:=p.toNat) (u:=(d.ns.getD p.toNat nZ)) (enc:=encNd) (l:=d.ns) 3 rfl trivial rfl aD rfl Xs X07 Xv (aP.below' G) (Xb cV.2) (by omega) ?_;intro jB dN;refine Yo 4 rfl (fun _=>X23 rfl X06)<|Ye 5 rfl (X0 rfl X9 (dN.drop 1))<|Yo 6 rfl (fun _=>Vd rfl Xj 1)<|Ye 7 rfl (X0 rfl X00 (M.at 1))<|Yo 8 rfl (fun _=>X3 rfl)<|Yj (k:=q.toNat) (u:=(d.ns.getD q.toNat nZ)) (enc:=encNd) (l:=d.ns) 9 rfl trivial rfl aD rfl Xs X07 Xv (aP.below' G) (Xb cE.2) (by omega) ?_;intro jC dO;refine Yo 10 rfl (fun _=>X23 rfl X06)<|Ye 11 rfl (X0 rfl X9 (dO.drop 1))<|Yo 12 rfl (fun _=>X11 rfl)<|Yo 13 rfl (fun _=>X11 rfl) ?_;refine Yd fun a J=>?_;refine f7 _ _<|Zs J fun _ f8=>?_;refine Ze (Vn X2 M)<|Zf (Vc (X99 _ d md aD Ad cd (aP.below' G).top Bd dd (aY.below' G).top N ⟨by omega,by omega⟩) X5f) ?_;rintro _ jD ⟨cW,cX,hY,i0,rfl,aR,c4,L⟩;have aR:=aR.lower G.size;have c4:=c4.lower G.size;have M:=M.below L;have E:=E.below L;have C:=C.below L;have g:=g.below L;have h:=h.below L;have G:=btr G L;refine Zm rfl<|Zf (Vc (X9v _ d d.ns.length rfl cW cX _ aR G.size hY i0 c4.rd.top c4.cap p cV (by omega)) X5b) ?_;rintro _ jE ⟨i1,i2,rfl,aN,f9,fA,fB,hg⟩;have H:=aR;have M:=M.appT H hg rfl;have E:=E.appT H hg rfl
 have C:=C.appT H hg rfl;have g:=g.appT H hg rfl;have h:=h.appT H hg rfl;have G:=Below.app G H hg (Qb _) G.size
 clear H hg;clear aR;have aR:=aN;clear aN;refine Zm rfl<|Zf (Vc (X9v _ ({ d with ns:=dpN d.ns p,ws:=dpW d.ws p } : Dg) d.ns.length fB cW cX _ aR G.size i1 i2 f9.top fA q ⟨cE.1,by rw [X1v];exact cE.2⟩ (by dsimp only;omega)) X5b) ?_;rintro _ jF ⟨fC,fD,rfl,aN,bK,fE,iK,hg⟩;have H:=aR;have M:=M.appT H hg rfl;have E:=E.appT H hg rfl;have C:=C.appT H hg rfl;have g:=g.appT H hg rfl;have h:=h.appT H hg rfl;have G:=Below.app G H hg (Qb _) G.size
 clear H hg;clear aR;have aR:=aN;clear aN;refine Zf (Xu (zs:=[vi 0,.slice none 0 0,.slice none 0 0,vi 0,vi 0]) X0s rfl) ?_;rintro _ jG ⟨b57,rfl,fF,L,D⟩
 have fG:b4≠b57:=by have:=M.lt;omega
 have fH:b7≠b57:=by have:=E.lt;omega
 have aZ:=Q0 G.size fF;have E:=E.below L;have C:=C.below L;have g:=g.below L;have h:=h.below L;have aR:=aR.below L;have bK:=bK.below L;have G:=btr G L;refine Zo (Vw [vi (({ ({ d with ns:=dpN d.ns p,ws:=dpW d.ws p } : Dg) with ns:=dpN ({ d with ns:=dpN d.ns p,ws:=dpW d.ws p } : Dg).ns q,ws:=dpW ({ d with ns:=dpN d.ns p,ws:=dpW d.ws p } : Dg).ws q } : Dg).n),.slice cW d.ns.length cX,.slice fC (({ ({ d with ns:=dpN d.ns p,ws:=dpW d.ws p } : Dg) with ns:=dpN ({ d with ns:=dpN d.ns p,ws:=dpW d.ws p } : Dg).ns q,ws:=dpW ({ d with ns:=dpN d.ns p,ws:=dpW d.ws p } : Dg).ws q } : Dg).ws).length fD,vi (({ ({ d with ns:=dpN d.ns p,ws:=dpW d.ws p } : Dg) with ns:=dpN ({ d with ns:=dpN d.ns p,ws:=dpW d.ws p } : Dg).ns q,ws:=dpW ({ d with ns:=dpN d.ns p,ws:=dpW d.ws p } : Dg).ws q } : Dg).t),vi (({ ({ d with ns:=dpN d.ns p,ws:=dpW d.ws p } : Dg) with ns:=dpN ({ d with ns:=dpN d.ns p,ws:=dpW d.ws p } : Dg).ns q,ws:=dpW ({ d with ns:=dpN d.ns p,ws:=dpW d.ws p } : Dg).ws q } : Dg).r)] Xp D) ?_;rintro _ jH ⟨ho,hb⟩;have I:=D;have E:=E.only ho (by omega);have C:=C.onlyT ho I rfl;have g:=g.onlyT ho I rfl;have h:=h.onlyT ho I rfl;have aR:=aR.onlyT ho I rfl;have bK:=bK.onlyT ho I rfl;have G:=Below.only G ho aZ;have D:=hb;refine ZX f8 fun a J _ fI=>?_;refine Zs J fun _ fJ=>?_;refine Zm rfl<|Ze (X0d rfl Xl)<|Zm rfl<|Zt fJ fun a J=>?_;refine Q8<|X01 (σ:=Nat×Dg) (fun (s:Nat×Dg) (a:Act) (w:World)=>match s with|(i,o)=>∃ b2 b3 b6 b8,Fr a 196 [(6,.pointer (some ⟨b7,0,none⟩)),(8,.slice aS (othW d.ws p q).length aT),(9,.slice aW (othW d.ws q p).length aX),(10,.slice aE m.length aG),(13,vi ((d.ns.getD p.toNat nZ).p)),(14,vi ((d.ns.getD q.toNat nZ).p)),(15,.pointer (some ⟨b57,0,none⟩)),(120,.slice aE m.length aG),(121,vi (m.length:Int)),(122,vi (i:Int))]∧(i≤m.length)∧(o=pvM (d.ns.getD p.toNat nZ).p (d.ns.getD q.toNat nZ).p (othW d.ws p q) (othW d.ws q p) m (id0 (id0 d p) q) i)∧(d.ns.length=o.ns.length)∧(o.ws.length≤d.ws.length+i*2000)∧(PhN o.ns)∧Blk w b7 39 [vi 0,.slice none 0 0,.slice none 0 0,vi 0,vi 0]∧Blk w b57 39 [vi o.n,.slice b2 d.ns.length b3,.slice b6 o.ws.length b8,vi o.t,vi o.r]∧Own w w0.heap.size 3 1 encI aE aG m∧Own w w0.heap.size 3 1 encI aS aT (othW d.ws p q)∧Own w w0.heap.size 3 1 encI aW aX (othW d.ws q p)∧Own w w0.heap.size 81 2 encNd b2 b3 o.ns∧Rd w w.heap.size 83 encWr b6 o.ws∧d.ws.length≤dd∧o.ws.length≤b8∧Below w0.heap.size w0 w) (fun (s:Nat×Dg)=>match s with|(i,o)=>m.length-i) (0,(id0 (id0 d p) q)) ?_ ?_
 ·exact ⟨cW,cX,fC,fD,J.sb,(Qf _),rfl,((X1v _ _).trans (X1v _ _)).symm,(Q0 (X2f _ _) (Q0 (X2f d.ws p) (Nat.le_add_right _ _))),(X54 (X54 hD.p p) q),E,D,C,g,h,aR,bK.top,N,fE,G⟩
 rintro ⟨i,o⟩ a jI ⟨b2,b3,b6,b8,J,hi,fK,cG,i4,dP,E,D,C,g,h,a8,aF,N,cY,G⟩;refine Zs J fun _ fL=>?_;refine Ze (X0l rfl rfl)<|ZX fL fun a J _ fM=>?_
 refine Xg J rfl (fun b9=>?_) (fun b9=>?_)
 ·have aI:=b9;have b9:=Q2 b9
  obtain ⟨jJ,iM⟩:=X5 (l:=m) (k:=i) (by omega)
  obtain ⟨u9,c5⟩:=X5 (l:=m) (k:=i) (by have:=b9;omega)
  have dQ:0≤u9∧u9.toNat<d.ns.length:=X9x hD (by rw [← cA];exact c5)
  have jK:=X1s dP u9.toNat;refine Q7<|fM _ _<|Q5 fun _ fN=>?_;refine Q8<|Zs J fun _ fO=>?_;refine Zm rfl<|Zi (k:=i) (u:=u9) (enc:=encI) (l:=m) trivial rfl rfl Xl X08 Xf C.rd c5 rfl ?_;intro jL dR;refine Ze (X0 rfl X9 dR)<|Za rfl<|Za rfl<|Zx fO fun a J _ fP=>?_;refine Zm rfl<|Zm rfl<|Zf (Vc (Xh1 _ aS aT (othW d.ws p q) g.rd.top u9 (by omega)) X7u) ?_;rintro _ jM ⟨rfl,L⟩;have E:=E.below L;have D:=D.below L;have C:=C.below L;have g:=g.below L;have h:=h.below L;have a8:=a8.below L;have aF:=aF.below L;have G:=btr G L;refine Zm rfl<|Zm rfl<|Zf (Vc (Xh1 _ aW aX (othW d.ws q p) h.rd.top u9 (by omega)) X7u) ?_;rintro _ jN ⟨rfl,L⟩;have E:=E.below L;have D:=D.below L;have C:=C.below L;have g:=g.below L;have h:=h.below L;have a8:=a8.below L;have aF:=aF.below L;have G:=btr G L;refine Za rfl<|Za rfl<|ZX fP fun a J _ fQ=>?_;refine Zs J fun _ fR=>?_;refine Zm rfl<|Zt fR fun a J=>?_;refine X0a (fun a w=>∃ (x1:Dg),∃ bS bT cH cJ,Fr a 196 [(6,.pointer (some ⟨b7,0,none⟩)),(8,.slice aS (othW d.ws p q).length aT),(9,.slice aW (othW d.ws q p).length aX),(10,.slice aE m.length aG),(13,vi ((d.ns.getD p.toNat nZ).p)),(14,vi ((d.ns.getD q.toNat nZ).p)),(15,.pointer (some ⟨b57,0,none⟩)),(16,vi (i:Int)),(17,vi u9),(18,.bool ((othW d.ws p q).any fun y=>y==u9)),(19,.bool ((othW d.ws q p).any fun y=>y==u9)),(120,.slice aE m.length aG),(121,vi (m.length:Int)),(122,vi (i:Int))]∧(x1=stN ((othW d.ws p q).any fun v=>v==u9) o u9 (d.ns.getD q.toNat nZ).p)∧(d.ns.length=x1.ns.length)∧(x1.ws.length≤o.ws.length)∧(PhN x1.ns)∧Blk w b7 39 [vi 0,.slice none 0 0,.slice none 0 0,vi 0,vi 0]∧Blk w b57 39 [vi x1.n,.slice bS d.ns.length bT,.slice cH x1.ws.length cJ,vi x1.t,vi x1.r]∧Own w w0.heap.size 3 1 encI aE aG m∧Own w w0.heap.size 3 1 encI aS aT (othW d.ws p q)∧Own w w0.heap.size 3 1 encI aW aX (othW d.ws q p)∧Own w w0.heap.size 81 2 encNd bS bT x1.ns∧Rd w w.heap.size 83 encWr cH x1.ws∧d.ws.length≤dd∧x1.ws.length≤cJ∧Below w0.heap.size w0 w) ?_ ?_
  ·refine Xg J rfl (fun bL=>?_) (fun bL=>?_)
   ·have dS:=bL;have cK:=bL;refine Zr J<|Ze (Vn X2 D)<|Zm rfl<|Zm rfl<|Zf (Vc (X9e _ o d.ns.length cG b2 b3 _ a8 G.size b6 b8 aF.top cY u9 ((d.ns.getD q.toNat nZ).p) ⟨dQ.1,by omega⟩ ⟨by omega,by omega⟩) X5a) ?_;rintro _ jO ⟨fS,fT,rfl,aN,cL,fU,iN,hg⟩;have H:=a8;have E:=E.appT H hg rfl;have D:=D.appT H hg rfl;have C:=C.appT H hg rfl;have g:=g.appT H hg rfl;have h:=h.appT H hg rfl;have G:=Below.app G H hg (Qb _) G.size
    clear H hg;clear a8;have a8:=aN;clear aN;refine Zo (Vw [vi (({ o with ns:=adN o.ns u9 ((d.ns.getD q.toNat nZ).p) } : Dg).n),.slice b2 d.ns.length b3,.slice fS (({ o with ns:=adN o.ns u9 ((d.ns.getD q.toNat nZ).p) } : Dg).ws).length fT,vi (({ o with ns:=adN o.ns u9 ((d.ns.getD q.toNat nZ).p) } : Dg).t),vi (({ o with ns:=adN o.ns u9 ((d.ns.getD q.toNat nZ).p) } : Dg).r)] Xp D) ?_;rintro _ jP ⟨ho,hb⟩;have I:=D;have E:=E.only ho (by omega);have C:=C.onlyT ho I rfl;have g:=g.onlyT ho I rfl;have h:=h.onlyT ho I rfl;have a8:=a8.onlyT ho I rfl;have cL:=cL.onlyT ho I rfl;have G:=Below.only G ho aZ;have D:=hb;refine Zn fun a J=>?_;refine Xh ?_;exact ⟨({ o with ns:=adN o.ns u9 ((d.ns.getD q.toNat nZ).p) } : Dg),b2,b3,fS,fT,J.sb,((Xjl cK).symm),(cG.trans (X21 _ _ _).symm),(Qb _),(X5y dP _ _),E,D,C,g,h,a8,cL.top,N,fU,G⟩
   have dS:=bL;have cK:=bL;refine Q7<|Xh ?_;exact ⟨o,b2,b3,b6,b8,J.sb,((Xhd cK).symm),cG,(Qb _),dP,E,D,C,g,h,a8,aF.top,N,cY,G⟩
  rintro a jQ ⟨x1,bS,bT,cH,cJ,J,i5,dU,fV,dW,E,D,C,g,h,bC,dD,N,fW,G⟩;refine fQ _ _<|Q5 fun _ fX=>?_;refine Zs J fun _ fY=>?_;refine Zm rfl<|Zt fY fun a J=>?_;refine X0a (fun a w=>∃ (x2:Dg),∃ bU bW cM cN,Fr a 196 [(6,.pointer (some ⟨b7,0,none⟩)),(8,.slice aS (othW d.ws p q).length aT),(9,.slice aW (othW d.ws q p).length aX),(10,.slice aE m.length aG),(13,vi ((d.ns.getD p.toNat nZ).p)),(14,vi ((d.ns.getD q.toNat nZ).p)),(15,.pointer (some ⟨b57,0,none⟩)),(16,vi (i:Int)),(17,vi u9),(18,.bool ((othW d.ws p q).any fun y=>y==u9)),(19,.bool ((othW d.ws q p).any fun y=>y==u9)),(120,.slice aE m.length aG),(121,vi (m.length:Int)),(122,vi (i:Int))]∧(x2=stN ((othW d.ws q p).any fun v=>v==u9) x1 u9 (d.ns.getD p.toNat nZ).p)∧(d.ns.length=x2.ns.length)∧(x2.ws.length≤o.ws.length)∧(PhN x2.ns)∧Blk w b7 39 [vi 0,.slice none 0 0,.slice none 0 0,vi 0,vi 0]∧Blk w b57 39 [vi x2.n,.slice bU d.ns.length bW,.slice cM x2.ws.length cN,vi x2.t,vi x2.r]∧Own w w0.heap.size 3 1 encI aE aG m∧Own w w0.heap.size 3 1 encI aS aT (othW d.ws p q)∧Own w w0.heap.size 3 1 encI aW aX (othW d.ws q p)∧Own w w0.heap.size 81 2 encNd bU bW x2.ns∧Rd w w.heap.size 83 encWr cM x2.ws∧d.ws.length≤dd∧x2.ws.length≤cN∧Below w0.heap.size w0 w) ?_ ?_
  ·refine Xg J rfl (fun bM=>?_) (fun bM=>?_)
   ·have dX:=bM;have cO:=bM;refine Zr J<|Ze (Vn X2 D)<|Zm rfl<|Zm rfl<|Zf (Vc (X9e _ x1 d.ns.length dU bS bT _ bC G.size cH cJ dD.top fW u9 ((d.ns.getD p.toNat nZ).p) ⟨dQ.1,by omega⟩ (by have:=X1s dW u9.toNat;omega)) X5a) ?_;rintro _ jR ⟨fZ,g5,rfl,aN,cP,g6,iO,hg⟩;have H:=bC;have E:=E.appT H hg rfl;have D:=D.appT H hg rfl;have C:=C.appT H hg rfl;have g:=g.appT H hg rfl;have h:=h.appT H hg rfl;have G:=Below.app G H hg (Qb _) G.size
    clear H hg;clear bC;have bC:=aN;clear aN;refine Zo (Vw [vi (({ x1 with ns:=adN x1.ns u9 ((d.ns.getD p.toNat nZ).p) } : Dg).n),.slice bS d.ns.length bT,.slice fZ (({ x1 with ns:=adN x1.ns u9 ((d.ns.getD p.toNat nZ).p) } : Dg).ws).length g5,vi (({ x1 with ns:=adN x1.ns u9 ((d.ns.getD p.toNat nZ).p) } : Dg).t),vi (({ x1 with ns:=adN x1.ns u9 ((d.ns.getD p.toNat nZ).p) } : Dg).r)] Xp D) ?_;rintro _ jS ⟨ho,hb⟩;have I:=D;have E:=E.only ho (by omega);have C:=C.onlyT ho I rfl;have g:=g.onlyT ho I rfl;have h:=h.onlyT ho I rfl;have bC:=bC.onlyT ho I rfl;have cP:=cP.onlyT ho I rfl;have G:=Below.only G ho aZ;have D:=hb;refine Zn fun a J=>?_;refine Xh ?_;exact ⟨({ x1 with ns:=adN x1.ns u9 ((d.ns.getD p.toNat nZ).p) } : Dg),bS,bT,fZ,g5,J.sb,((Xjl cO).symm),(dU.trans (X21 _ _ _).symm),fV,(X5y dW _ _),E,D,C,g,h,bC,cP.top,N,g6,G⟩
   have dX:=bM;have cO:=bM;refine Q7<|Xh ?_;exact ⟨x1,bS,bT,cH,cJ,J.sb,((Xhd cO).symm),dU,fV,dW,E,D,C,g,h,bC,dD.top,N,fW,G⟩
  rintro a i6 ⟨x2,bU,bW,cM,cN,J,i7,dY,g7,e8,E,D,C,g,h,bD,dE,N,g8,G⟩;refine fX _ _<|Q5 fun _ gA=>?_;refine Q5 fun _ gB=>?_;refine X0a (fun a w=>Fr a 196 [(6,.pointer (some ⟨b7,0,none⟩)),(8,.slice aS (othW d.ws p q).length aT),(9,.slice aW (othW d.ws q p).length aX),(10,.slice aE m.length aG),(13,vi ((d.ns.getD p.toNat nZ).p)),(14,vi ((d.ns.getD q.toNat nZ).p)),(15,.pointer (some ⟨b57,0,none⟩)),(16,vi (i:Int)),(17,vi u9),(18,.bool ((othW d.ws p q).any fun y=>y==u9)),(19,.bool ((othW d.ws q p).any fun y=>y==u9)),(120,.slice aE m.length aG),(121,vi (m.length:Int)),(122,vi (i:Int)),(146,.bool (((othW d.ws p q).any fun v=>v==u9)&&((othW d.ws q p).any fun v=>v==u9)))]∧i6=w) ?_ ?_
  ·refine Zr J<|Zm rfl<|Zm rfl ?_
   refine Zg 144 rfl (fun bA=>?_) (fun bA=>?_)
   ·refine Zv (gW bA) (X3 rfl) ?_;refine Ze (X7 rfl bA rfl) ?_;refine Zn fun a J=>?_;exact ⟨J.sub ⟨rfl,rfl,rfl,rfl,rfl,rfl,rfl,rfl,rfl,rfl,rfl,rfl,rfl,rfl,X1 rfl (by first|rfl|(simp only [U,W,aH,aI,bA,bs];done)|simp [U,W,aH,aI,bA]),trivial⟩,rfl⟩
   refine Zp (gP bA) ?_;refine Ze (Xe rfl bA rfl) ?_;refine Zn fun a J=>?_;exact ⟨J.sub ⟨rfl,rfl,rfl,rfl,rfl,rfl,rfl,rfl,rfl,rfl,rfl,rfl,rfl,rfl,X1 rfl (by first|rfl|(simp only [U,W,aH,aI,bA,bs];done)|simp [U,W,aH,aI,bA]),trivial⟩,rfl⟩
  rintro a _ ⟨J,rfl⟩;refine gB _ _<|X0a (fun a w=>∃ (x3:Dg),∃ d5 d6 d7 d8,Fr a 196 [(6,.pointer (some ⟨b7,0,none⟩)),(8,.slice aS (othW d.ws p q).length aT),(9,.slice aW (othW d.ws q p).length aX),(10,.slice aE m.length aG),(13,vi ((d.ns.getD p.toNat nZ).p)),(14,vi ((d.ns.getD q.toNat nZ).p)),(15,.pointer (some ⟨b57,0,none⟩)),(16,vi (i:Int)),(17,vi u9),(18,.bool ((othW d.ws p q).any fun y=>y==u9)),(19,.bool ((othW d.ws q p).any fun y=>y==u9)),(120,.slice aE m.length aG),(121,vi (m.length:Int)),(122,vi (i:Int))]∧(x3=stN (((othW d.ws p q).any fun v=>v==u9)&&((othW d.ws q p).any fun v=>v==u9)) x2 u9 4)∧(d.ns.length=x3.ns.length)∧(x3.ws.length≤o.ws.length)∧(PhN x3.ns)∧Blk w b7 39 [vi 0,.slice none 0 0,.slice none 0 0,vi 0,vi 0]∧Blk w b57 39 [vi x3.n,.slice d5 d.ns.length d6,.slice d7 x3.ws.length d8,vi x3.t,vi x3.r]∧Own w w0.heap.size 3 1 encI aE aG m∧Own w w0.heap.size 3 1 encI aS aT (othW d.ws p q)∧Own w w0.heap.size 3 1 encI aW aX (othW d.ws q p)∧Own w w0.heap.size 81 2 encNd d5 d6 x3.ns∧Rd w w.heap.size 83 encWr d7 x3.ws∧d.ws.length≤dd∧x3.ws.length≤d8∧Below w0.heap.size w0 w) ?_ ?_
  ·refine Xg J rfl (fun bN=>?_) (fun bN=>?_)
   ·have eA:=bN;have cQ:=bN;refine Zr J<|Ze (Vn X2 D)<|Zm rfl<|Zf (Vc (X9e _ x2 d.ns.length dY bU bW _ bD G.size cM cN dE.top g8 u9 4 ⟨dQ.1,by omega⟩ (by have:=X1s e8 u9.toNat;omega)) X5a) ?_;rintro _ jT ⟨gC,gD,rfl,aN,cR,gE,iP,hg⟩;have H:=bD;have E:=E.appT H hg rfl;have D:=D.appT H hg rfl;have C:=C.appT H hg rfl;have g:=g.appT H hg rfl;have h:=h.appT H hg rfl;have G:=Below.app G H hg (Qb _) G.size
    clear H hg;clear bD;have bD:=aN;clear aN;refine Zo (Vw [vi (({ x2 with ns:=adN x2.ns u9 4 } : Dg).n),.slice bU d.ns.length bW,.slice gC (({ x2 with ns:=adN x2.ns u9 4 } : Dg).ws).length gD,vi (({ x2 with ns:=adN x2.ns u9 4 } : Dg).t),vi (({ x2 with ns:=adN x2.ns u9 4 } : Dg).r)] Xp D) ?_;rintro _ jU ⟨ho,hb⟩;have I:=D;have E:=E.only ho (by omega);have C:=C.onlyT ho I rfl;have g:=g.onlyT ho I rfl;have h:=h.onlyT ho I rfl;have bD:=bD.onlyT ho I rfl;have cR:=cR.onlyT ho I rfl;have G:=Below.only G ho aZ;have D:=hb;refine Zn fun a J=>?_;refine Xh ?_;exact ⟨({ x2 with ns:=adN x2.ns u9 4 } : Dg),bU,bW,gC,gD,J.sb,((Xjl cQ).symm),(dY.trans (X21 _ _ _).symm),g7,(X5y e8 _ _),E,D,C,g,h,bD,cR.top,N,gE,G⟩
   have eA:=bN;have cQ:=bN;refine Q7<|Xh ?_;exact ⟨x2,bU,bW,cM,cN,J.sb,((Xhd cQ).symm),dY,g7,e8,E,D,C,g,h,bD,dE.top,N,g8,G⟩
  rintro a i8 ⟨x3,d5,d6,d7,d8,J,i9,iA,iB,iC,E,D,C,g,h,gF,gG,N,iD,G⟩;refine gA _ _<|Zs J fun _ gH=>?_;refine Zm rfl<|Zm rfl ?_;have b0:=(C.rd.top).takeK Xf i;refine Ze (X2x (l:=m) (k:=i) rfl rfl Xl X08 rfl hi C.cap)<|Ze (X0d rfl Xl)<|Zm rfl<|Zt gH fun a J=>?_;refine Q8<|X01 (σ:=Nat×Dg) (fun (s:Nat×Dg) (a:Act) (w:World)=>match s with|(j,z)=>∃ bO bP cB cC,Fr a 196 [(6,.pointer (some ⟨b7,0,none⟩)),(8,.slice aS (othW d.ws p q).length aT),(9,.slice aW (othW d.ws q p).length aX),(10,.slice aE m.length aG),(13,vi ((d.ns.getD p.toNat nZ).p)),(14,vi ((d.ns.getD q.toNat nZ).p)),(15,.pointer (some ⟨b57,0,none⟩)),(17,vi u9),(18,.bool ((othW d.ws p q).any fun y=>y==u9)),(19,.bool ((othW d.ws q p).any fun y=>y==u9)),(120,.slice aE m.length aG),(121,vi (m.length:Int)),(122,vi (i:Int)),(152,.slice aE (m.take i).length aG),(153,vi ((m.take i).length:Int)),(154,vi (j:Int))]∧(j≤(m.take i).length)∧(z=pvF (othW d.ws p q) (othW d.ws q p) u9 ((m.take i).take j) x3)∧(d.ns.length=z.ns.length)∧(z.ws.length≤o.ws.length+j)∧(PhN z.ns)∧Blk w b7 39 [vi 0,.slice none 0 0,.slice none 0 0,vi 0,vi 0]∧Blk w b57 39 [vi z.n,.slice bO d.ns.length bP,.slice cB z.ws.length cC,vi z.t,vi z.r]∧Own w w0.heap.size 3 1 encI aE aG m∧Own w w0.heap.size 3 1 encI aS aT (othW d.ws p q)∧Own w w0.heap.size 3 1 encI aW aX (othW d.ws q p)∧Rd w i8.heap.size 3 encI aE (m.take i)∧Own w w0.heap.size 81 2 encNd bO bP z.ns∧Rd w w.heap.size 83 encWr cB z.ws∧d.ws.length≤dd∧z.ws.length≤cC∧Below w0.heap.size w0 w) (fun (s:Nat×Dg)=>match s with|(j,z)=>(m.take i).length-j) (0,x3) ?_ ?_
  ·exact ⟨d5,d6,d7,d8,J.sb,(Qf _),rfl,iA,iB,iC,E,D,C,g,h,b0,gF,gG.top,N,iD,G⟩
  rintro ⟨j,z⟩ a w36 ⟨bO,bP,cB,cC,J,hj,hz,cD,iE,cS,E,D,C,g,h,b0,b1,bR,N,eB,G⟩;refine Zs J fun _ gI=>?_;refine Ze (X0l rfl rfl)<|ZX gI fun a J _ gJ=>?_
  refine Xg J rfl (fun bB=>?_) (fun bB=>?_)
  ·have aU:=bB;have bB:=Q2 bB
   obtain ⟨jV,iQ⟩:=X5 (l:=(m.take i)) (k:=j) (by omega)
   obtain ⟨v9,eC⟩:=X5 (l:=m.take i) (k:=j) (by have:=bB;omega)
   have jW:j<i:=by have:=(Qg.1 eC).1;rw [Qn] at this;omega
   have bH:=Xi0 (l:=(othW d.ws p q)) (m:=(othW d.ws q p)) (x:=u9) (o:=x3) eC
   rw [← hz] at bH
   refine Q7<|gJ _ _<|Q5 fun _ dF=>?_;refine Q8<|Zs J fun _ gK=>?_;refine Zi (k:=j) (u:=v9) (enc:=encI) (l:=(m.take i)) trivial rfl rfl Xl X08 Xf b0 eC rfl ?_;intro iS d9;refine Ze (X0 rfl X9 d9)<|Za rfl<|ZX gK fun a J _ eD=>?_;refine X0a (fun a w=>Fr a 196 [(6,.pointer (some ⟨b7,0,none⟩)),(8,.slice aS (othW d.ws p q).length aT),(9,.slice aW (othW d.ws q p).length aX),(10,.slice aE m.length aG),(13,vi ((d.ns.getD p.toNat nZ).p)),(14,vi ((d.ns.getD q.toNat nZ).p)),(15,.pointer (some ⟨b57,0,none⟩)),(17,vi u9),(18,.bool ((othW d.ws p q).any fun y=>y==u9)),(19,.bool ((othW d.ws q p).any fun y=>y==u9)),(21,vi v9),(120,.slice aE m.length aG),(121,vi (m.length:Int)),(122,vi (i:Int)),(152,.slice aE (m.take i).length aG),(153,vi ((m.take i).length:Int)),(154,vi (j:Int)),(170,.bool ((((othW d.ws p q).any fun y=>y==u9)&&((othW d.ws q p).any fun y=>y==v9)) != (((othW d.ws q p).any fun y=>y==u9)&&((othW d.ws p q).any fun y=>y==v9))))]∧Below w36.heap.size w36 w) ?_ ?_
   ·have aB:Below w36.heap.size w36 w36:=Below.refl _ _
    refine Zr J<|Zm rfl<|Zm rfl ?_
    refine Zg 159 rfl (fun aA=>?_) (fun aA=>?_)
    ·refine Zv (gW aA) (X3 rfl) ?_;refine Zv (gW aA) (X3 rfl) ?_;refine Zk (gW aA) (Vc (Xh1 _ aW aX (othW d.ws q p) h.rd.top v9 (by omega)) X7u) ?_;rintro _ w37 ⟨rfl,L⟩;have g:=g.below L;have G:=btr G L;have aB:=btr aB L;refine Ze (X7 rfl aA rfl)<|Zm rfl<|Zm rfl ?_
     refine Zg 165 rfl (fun aJ=>?_) (fun aJ=>?_)
     ·refine Zv (gW aJ) (X3 rfl) ?_;refine Zv (gW aJ) (X3 rfl) ?_;refine Zk (gW aJ) (Vc (Xh1 _ aS aT (othW d.ws p q) g.rd.top v9 (by omega)) X7u) ?_;rintro _ w38 ⟨rfl,L⟩;have G:=btr G L;have aB:=btr aB L;refine Ze (X7 rfl aJ rfl)<|Ze (X77 Tryz.underlying4 rfl rfl) ?_;refine Zn fun a J=>?_
      have aO:Below w36.heap.size w36 w38:=aB
      exact ⟨J.sub ⟨rfl,rfl,rfl,rfl,rfl,rfl,rfl,rfl,rfl,rfl,rfl,rfl,rfl,rfl,rfl,rfl,rfl,X1 rfl (by first|rfl|(simp only [U,W,aH,aI,aU,aA,aJ,bs];done)|simp [U,W,aH,aI,aU,aA,aJ]),trivial⟩,aO⟩
     refine Zp (gP aJ) ?_;refine Zp (gP aJ) ?_;refine Zp (gP aJ) ?_;refine Ze (Xe rfl aJ rfl)<|Ze (X77 Tryz.underlying4 rfl rfl) ?_;refine Zn fun a J=>?_
     have aO:Below w36.heap.size w36 w37:=aB
     exact ⟨J.sub ⟨rfl,rfl,rfl,rfl,rfl,rfl,rfl,rfl,rfl,rfl,rfl,rfl,rfl,rfl,rfl,rfl,rfl,X1 rfl (by first|rfl|(simp only [U,W,aH,aI,aU,aA,aJ,bs];done)|simp [U,W,aH,aI,aU,aA,aJ]),trivial⟩,aO⟩
    refine Zp (gP aA) ?_;refine Zp (gP aA) ?_;refine Zp (gP aA) ?_;refine Ze (Xe rfl aA rfl)<|Zm rfl<|Zm rfl ?_
    refine Zg 165 rfl (fun aK=>?_) (fun aK=>?_)
    ·refine Zv (gW aK) (X3 rfl) ?_;refine Zv (gW aK) (X3 rfl) ?_;refine Zk (gW aK) (Vc (Xh1 _ aS aT (othW d.ws p q) g.rd.top v9 (by omega)) X7u) ?_;rintro _ w39 ⟨rfl,L⟩;have G:=btr G L;have aB:=btr aB L;refine Ze (X7 rfl aK rfl)<|Ze (X77 Tryz.underlying4 rfl rfl) ?_;refine Zn fun a J=>?_
     have aO:Below w36.heap.size w36 w39:=aB
     exact ⟨J.sub ⟨rfl,rfl,rfl,rfl,rfl,rfl,rfl,rfl,rfl,rfl,rfl,rfl,rfl,rfl,rfl,rfl,rfl,X1 rfl (by first|rfl|(simp only [U,W,aH,aI,aU,aA,aK,bs];done)|simp [U,W,aH,aI,aU,aA,aK]),trivial⟩,aO⟩
    refine Zp (gP aK) ?_;refine Zp (gP aK) ?_;refine Zp (gP aK) ?_;refine Ze (Xe rfl aK rfl)<|Ze (X77 Tryz.underlying4 rfl rfl) ?_;refine Zn fun a J=>?_
    have aO:Below w36.heap.size w36 w36:=aB
    exact ⟨J.sub ⟨rfl,rfl,rfl,rfl,rfl,rfl,rfl,rfl,rfl,rfl,rfl,rfl,rfl,rfl,rfl,rfl,rfl,X1 rfl (by first|rfl|(simp only [U,W,aH,aI,aU,aA,aK,bs];done)|simp [U,W,aH,aI,aU,aA,aK]),trivial⟩,aO⟩
   rintro a jX ⟨J,L⟩;have E:=E.below L;have D:=D.below L;have C:=C.below L;have g:=g.below L;have h:=h.below L;have b0:=b0.below L;have b1:=b1.below L;have bR:=bR.below L;have G:=btr G L;refine eD _ _ ?_
   refine Xg J rfl (fun bE=>?_) (fun bE=>?_)
   ·have dB:=bE
    rw [Xtp bE] at bH
    refine Zr J<|Ze (Vn X2 D)<|Zm rfl<|Zm rfl<|Zf (Vc (Xo6 _ z d.ns.length cD bO bP _ b1 G.size cB cC bR.top eB u9 v9 (by have:=iE;have:=i4;omega)) Xef) ?_;rintro _ jY ⟨dG,dH,rfl,aN,bX,eE,iF,hg⟩;have H:=b1;have E:=E.appT H hg rfl;have D:=D.appT H hg rfl;have C:=C.appT H hg rfl;have g:=g.appT H hg rfl;have h:=h.appT H hg rfl;have b0:=b0.appT H hg rfl;have G:=Below.app G H hg (Qb _) G.size
    clear H hg;clear b1;have b1:=aN;clear aN;refine Zo (Vw [vi ((tgD z u9 v9).n),.slice bO d.ns.length bP,.slice dG ((tgD z u9 v9).ws).length dH,vi ((tgD z u9 v9).t),vi ((tgD z u9 v9).r)] Xp D) ?_;rintro _ jZ ⟨ho,hb⟩;have I:=D;have E:=E.only ho (by omega);have C:=C.onlyT ho I rfl;have g:=g.onlyT ho I rfl;have h:=h.onlyT ho I rfl;have b0:=b0.onlyT ho I rfl;have b1:=b1.onlyT ho I rfl;have bX:=bX.onlyT ho I rfl;have G:=Below.only G ho aZ;have D:=hb;refine Zn fun a J=>?_;refine Xa<|dF _ _<|Zr J<|Ze (Xw rfl rfl (by omega) (by omega))<|Zm rfl ?_;refine Zn fun a J=>?_;refine Xh ?_;exact ⟨(j+1,(tgD z u9 v9)),⟨bO,bP,dG,dH,J.sb,(by omega),(by rw [bH]),(by first|exact cD|(rw [(X2z z u9 v9).1];exact cD)),(by first|omega|(have:=(X2z z u9 v9).2;omega)),(by first|exact cS|(rw [(X2z z u9 v9).1];exact cS)),E,D,C,g,h,b0,b1,bX.top,N,eE,G⟩,(by first|omega|(dsimp only;omega))⟩
   have dB:=bE
   rw [Xtx bE] at bH
   refine Q7<|Xa<|dF _ _<|Zr J ?_;refine Ze (Xw rfl rfl (by omega) (by omega))<|Zm rfl ?_;refine Zn fun a J=>?_;refine Xh ?_;exact ⟨(j+1,z),⟨bO,bP,cB,cC,J.sb,(by omega),(by rw [bH]),(by first|exact cD|(rw [(X2z z u9 v9).1];exact cD)),(by first|omega|(have:=(X2z z u9 v9).2;omega)),(by first|exact cS|(rw [(X2z z u9 v9).1];exact cS)),E,D,C,g,h,b0,b1,bR.top,N,eB,G⟩,(by first|omega|(dsimp only;omega))⟩
  have aU:=bB;have bB:=Q1 bB
  have iG:z=pvM (d.ns.getD p.toNat nZ).p (d.ns.getD q.toNat nZ).p (othW d.ws p q) (othW d.ws q p) m (id0 (id0 d p) q) (i+1):=by rw [hz,Qi (by have:=bB;omega),Xcn c5,← fK,i9,i7,i5];rfl
  have k0:j≤i:=by rw [Qn] at hj;omega
  refine Q9<|Xk<|Xk<|X03 ?_;refine Xa<|fN _ _<|Zr J<|Ze (Xw rfl rfl (by omega) (by omega))<|Zm rfl ?_;refine Zn fun a J=>?_;refine Xh ?_;exact ⟨(i+1,z),⟨bO,bP,cB,cC,J.sb,(by omega),iG,cD,(by omega),cS,E,D,C,g,h,b1,bR.top,N,eB,G⟩,(by first|omega|(dsimp only;omega))⟩
 have aI:=b9;have b9:=Q1 b9
 have dI:o=pvM (d.ns.getD p.toNat nZ).p (d.ns.getD q.toNat nZ).p (othW d.ws p q) (othW d.ws q p) (pvL d p q) (id0 (id0 d p) q) (pvL d p q).length:=by rw [fK,cA];congr 1;have:=b9;rw [cA] at this hi;omega
 refine Q9<|Xk<|Xk<|X03 ?_;refine fI _ _<|Q5 fun _ cT=>?_;refine Zs J fun _ eF=>?_;refine Zm rfl<|Zm rfl<|Ze (Xw rfl rfl (by omega) (by omega))<|Ze (X0b rfl rfl)<|Zt eF fun a J=>?_
 refine Xg J rfl (fun bF=>?_) (fun bF=>?_)
 ·have dC:=bF;have cU:=bF;refine Zr J<|Ze (Vd rfl X0t 3)<|Ze (X0 rfl X9 (D.at 3))<|Ze (X43 rfl rfl)<|Ze (Vd rfl X0t 3)<|Zo (Vu (vs:=[vi (wr (o.t+4))]) (l':=[vi o.n,.slice b2 d.ns.length b3,.slice b6 o.ws.length b8,vi (wr (o.t+4)),vi o.r]) rfl rfl X08 D) ?_;rintro _ k5 ⟨ho,hb⟩;have I:=D;have E:=E.only ho (by omega);have a8:=a8.onlyT ho I rfl;have aF:=aF.onlyT ho I rfl;have G:=Below.only G ho aZ;have D:=hb;refine Zx cT fun a J _ eG=>?_;refine Ze (Vd rfl X02 4)<|Ze (X0 rfl X9 (D.at 4))<|Zm rfl<|Ze (X0d rfl Xl)<|Ze (X1g rfl rfl (by omega) (by omega))<|Zm rfl<|Ze (X0d rfl Xl)<|Ze (X1g rfl rfl (by omega) (by omega))<|Ze (X43 rfl rfl)<|Ze (Vd rfl X02 4) ?_;refine Zo (Vu (vs:=[vi (wr (o.r+((1-((othW d.ws p q).length:Int))-((othW d.ws q p).length:Int))))]) (l':=[vi o.n,.slice b2 d.ns.length b3,.slice b6 o.ws.length b8,vi (wr (o.t+4)),vi (wr (o.r+((1-((othW d.ws p q).length:Int))-((othW d.ws q p).length:Int))))]) rfl rfl X08 D) ?_;rintro _ k6 ⟨ho,hb⟩;have I:=D;have E:=E.only ho (by omega);have a8:=a8.onlyT ho I rfl;have aF:=aF.onlyT ho I rfl;have G:=Below.only G ho aZ;have D:=hb;refine Zx eG fun a J _ eH=>?_;refine Ze (Vn X2 D)<|Zo (Vw [vi o.n,.slice b2 d.ns.length b3,.slice b6 o.ws.length b8,vi (wr (o.t+4)),vi (wr (o.r+((1-((othW d.ws p q).length:Int))-((othW d.ws q p).length:Int))))] Xp E) ?_;rintro _ k7 ⟨ho,hb⟩;have I:=E;have a8:=a8.onlyT ho I rfl;have aF:=aF.onlyT ho I rfl;have G:=Below.only G ho bY;have E:=hb;refine Za rfl<|Zt eH fun a J=>?_
  refine Q6 (X4 J (X17 J rfl (ResV.cellN (l:=[vi o.n,.slice b2 d.ns.length b3,.slice b6 o.ws.length b8,vi (wr (o.t+4)),vi (wr (o.r+((1-((othW d.ws p q).length:Int))-((othW d.ws q p).length:Int))))]) rfl X2 (E.at 0) rfl) rfl) ?_)
  rw [f3,Q4 rfl,Xdf dI,Q4 cU,aD]
  exact ⟨b2,b3,b6,b8,rfl,a8.rd.top,aF.top,cY,cG,G⟩
 have dC:=bF;have cU:=bF;refine Q7<|cT _ _<|Zs J fun _ eI=>?_;refine Ze (Vd rfl X02 4)<|Ze (X0 rfl X9 (D.at 4))<|Zm rfl<|Ze (X0d rfl Xl)<|Ze (X1g rfl rfl (by omega) (by omega))<|Zm rfl<|Ze (X0d rfl Xl)<|Ze (X1g rfl rfl (by omega) (by omega))<|Ze (X43 rfl rfl)<|Ze (Vd rfl X02 4) ?_;refine Zo (Vu (vs:=[vi (wr (o.r+((1-((othW d.ws p q).length:Int))-((othW d.ws q p).length:Int))))]) (l':=[vi o.n,.slice b2 d.ns.length b3,.slice b6 o.ws.length b8,vi o.t,vi (wr (o.r+((1-((othW d.ws p q).length:Int))-((othW d.ws q p).length:Int))))]) rfl rfl X08 D) ?_;rintro _ k8 ⟨ho,hb⟩;have I:=D;have E:=E.only ho (by omega);have a8:=a8.onlyT ho I rfl;have aF:=aF.onlyT ho I rfl;have G:=Below.only G ho aZ;have D:=hb;refine Zx eI fun a J _ eJ=>?_;refine Ze (Vn X2 D)<|Zo (Vw [vi o.n,.slice b2 d.ns.length b3,.slice b6 o.ws.length b8,vi o.t,vi (wr (o.r+((1-((othW d.ws p q).length:Int))-((othW d.ws q p).length:Int))))] Xp E) ?_;rintro _ kA ⟨ho,hb⟩;have I:=E;have a8:=a8.onlyT ho I rfl;have aF:=aF.onlyT ho I rfl;have G:=Below.only G ho bY;have E:=hb;refine Za rfl<|Zt eJ fun a J=>?_
 refine Q6 (X4 J (X17 J rfl (ResV.cellN (l:=[vi o.n,.slice b2 d.ns.length b3,.slice b6 o.ws.length b8,vi o.t,vi (wr (o.r+((1-((othW d.ws p q).length:Int))-((othW d.ws q p).length:Int))))]) rfl X2 (E.at 0) rfl) rfl) ?_)
 rw [f3,Q4 rfl,Xdf dI,Q3 (by rw [cU];decide),aD]
 exact ⟨b2,b3,b6,b8,rfl,a8.rd.top,aF.top,cY,cG,G⟩
theorem Xw0(w0:World)(d:Dg)(md:Nat)(p:md=d.ns.length)(Ad:Option Addr)(cd:Nat)(q:Rd w0 w0.heap.size 81 encNd Ad d.ns)(Bd:Option Addr)(dd:Nat)(y:Rd w0 w0.heap.size 83 encWr Bd d.ws)(h:d.ws.length≤dd)(x:Rz)(hD:InD d) : Ret Tryz.prog 123 [.agg #[vi d.n,.slice Ad md cd,.slice Bd d.ws.length dd,vi d.t,vi d.r],.agg #[vi x.u,vi x.a,vi x.b]] w0 (fun v w=>∃ A c B e,v=.tuple #[.agg #[vi (if (doC d x)=true then doD d x else d).n,.slice A md c,.slice B (if (doC d x)=true then doD d x else d).ws.length e,vi (if (doC d x)=true then doD d x else d).t,vi (if (doC d x)=true then doD d x else d).r],.bool (doC d x)]∧Rd w w.heap.size 81 encNd A (if (doC d x)=true then doD d x else d).ns∧Rd w w.heap.size 83 encWr B (if (doC d x)=true then doD d x else d).ws∧(if (doC d x)=true then doD d x else d).ws.length≤e∧md=(if (doC d x)=true then doD d x else d).ns.length∧Below w0.heap.size w0 w):=by
 refine enter Tryz.func123 rfl 59 rfl rfl ?_;intro a i
 have g:=bz w0
 refine Zs i fun _ bY=>?_;refine Zf (X0c (zs:=[vi d.n,.slice Ad md cd,.slice Bd d.ws.length dd,vi d.t,vi d.r]) rfl rfl) ?_;rintro _ w1 ⟨b4,rfl,c4,C,m⟩;have cC:=Q0 g.size c4;have g:=btr g C;refine Zf (X0c (zs:=[vi x.u,vi x.a,vi x.b]) rfl rfl) ?_;rintro _ w2 ⟨b5,rfl,c5,C,o⟩;have cD:=Q0 g.size c5;have m:=m.below C;have g:=btr g C;refine Zf (Xu (zs:=[vi 0,.slice none 0 0,.slice none 0 0,vi 0,vi 0]) X0s rfl) ?_;rintro _ w3 ⟨b8,rfl,cA,C,f⟩
 have bX:b4≠b8:=by have:=m.lt;omega
 have D:=Q0 g.size cA;have m:=m.below C;have o:=o.below C;have g:=btr g C;refine Za rfl<|ZX bY fun a i _ cB=>?_;refine Zs i fun _ b7=>?_;refine Ze (Vd rfl X48 0)<|Ze (X0 rfl X9 (o.at 0))<|Zt b7 fun a i=>?_;refine Q8<|Zs i fun _ b9=>?_;refine Ze (X0b rfl rfl)<|Za rfl<|Zt b9 fun a i=>?_
 refine Xg i rfl (fun G=>?_) (fun G=>?_)
 ·have aZ:=G;have k:=Xu7 (d:=d) G;refine Zs i fun _ bA=>?_;refine Ze (Vn X2 m)<|Ze (Vd rfl X1n 1)<|Ze (X0 rfl X9 (o.at 1))<|Ze (Vd rfl X3i 2)<|Ze (X0 rfl X9 (o.at 2))<|Zf (Vc (Xtb _ d md p Ad cd (q.below' g).top Bd dd (y.below' g).top h x.a x.b hD) Xno) ?_;rintro _ w4 ⟨Q,U,W,a6,rfl,a7,a8,bB,cE,C⟩;have f:=f.below C;have g:=btr g C;refine Ze (Xn (vs:=[.agg #[vi ((if (fuC d x.a x.b)=true then fuD d x.a x.b else d).n),.slice Q md U,.slice W ((if (fuC d x.a x.b)=true then fuD d x.a x.b else d).ws).length a6,vi ((if (fuC d x.a x.b)=true then fuD d x.a x.b else d).t),vi ((if (fuC d x.a x.b)=true then fuD d x.a x.b else d).r)],.bool (fuC d x.a x.b)]) rfl rfl)<|Ze (Xn (vs:=[.agg #[vi ((if (fuC d x.a x.b)=true then fuD d x.a x.b else d).n),.slice Q md U,.slice W ((if (fuC d x.a x.b)=true then fuD d x.a x.b else d).ws).length a6,vi ((if (fuC d x.a x.b)=true then fuD d x.a x.b else d).t),vi ((if (fuC d x.a x.b)=true then fuD d x.a x.b else d).r)],.bool (fuC d x.a x.b)]) rfl rfl)<|Zo (Vw [vi ((if (fuC d x.a x.b)=true then fuD d x.a x.b else d).n),.slice Q md U,.slice W ((if (fuC d x.a x.b)=true then fuD d x.a x.b else d).ws).length a6,vi ((if (fuC d x.a x.b)=true then fuD d x.a x.b else d).t),vi ((if (fuC d x.a x.b)=true then fuD d x.a x.b else d).r)] Xp f) ?_;rintro _ w5 ⟨E,N⟩;have j:=f;have a7:=a7.onlyT E j rfl;have a8:=a8.onlyT E j rfl;have g:=Below.only g E D;have f:=N;refine Za rfl<|Zt bA fun a i=>?_;refine Q6<|Xq<|X6<|X4 i (X17 i rfl (ResV.cellN (l:=[vi ((if (fuC d x.a x.b)=true then fuD d x.a x.b else d).n),.slice Q md U,.slice W ((if (fuC d x.a x.b)=true then fuD d x.a x.b else d).ws).length a6,vi ((if (fuC d x.a x.b)=true then fuD d x.a x.b else d).t),vi ((if (fuC d x.a x.b)=true then fuD d x.a x.b else d).r)]) rfl X2 (f.at 0) rfl) rfl) ?_
  rw [k.1,k.2]
  exact ⟨Q,U,W,a6,rfl,a7.top,a8.top,bB,by assumption,g⟩
 have aZ:=G
 have g1:=G
 refine Zs i fun _ bC=>?_;refine Ze (X0b rfl rfl)<|Za rfl<|Zt bC fun a i=>?_
 refine Xg i rfl (fun H=>?_) (fun H=>?_)
 ·have b0:=H;have k:=Xuv (d:=d) g1 H;refine Zs i fun _ bD=>?_;refine Ze (Vn X2 m)<|Ze (Vd rfl X1n 1)<|Ze (X0 rfl X9 (o.at 1))<|Ze (Vd rfl X3i 2)<|Ze (X0 rfl X9 (o.at 2))<|Zf (Vc (Xv5 _ d md p Ad cd (q.below' g).top Bd dd (y.below' g).top h x.a x.b hD) Xml) ?_;rintro _ w6 ⟨aA,aB,aC,aD,rfl,aE,aF,bE,cF,C⟩;have f:=f.below C;have g:=btr g C;refine Ze (Xn (vs:=[.agg #[vi ((if (pvC d x.a x.b)=true then pvD d x.a x.b else d).n),.slice aA md aB,.slice aC ((if (pvC d x.a x.b)=true then pvD d x.a x.b else d).ws).length aD,vi ((if (pvC d x.a x.b)=true then pvD d x.a x.b else d).t),vi ((if (pvC d x.a x.b)=true then pvD d x.a x.b else d).r)],.bool (pvC d x.a x.b)]) rfl rfl)<|Ze (Xn (vs:=[.agg #[vi ((if (pvC d x.a x.b)=true then pvD d x.a x.b else d).n),.slice aA md aB,.slice aC ((if (pvC d x.a x.b)=true then pvD d x.a x.b else d).ws).length aD,vi ((if (pvC d x.a x.b)=true then pvD d x.a x.b else d).t),vi ((if (pvC d x.a x.b)=true then pvD d x.a x.b else d).r)],.bool (pvC d x.a x.b)]) rfl rfl)<|Zo (Vw [vi ((if (pvC d x.a x.b)=true then pvD d x.a x.b else d).n),.slice aA md aB,.slice aC ((if (pvC d x.a x.b)=true then pvD d x.a x.b else d).ws).length aD,vi ((if (pvC d x.a x.b)=true then pvD d x.a x.b else d).t),vi ((if (pvC d x.a x.b)=true then pvD d x.a x.b else d).r)] Xp f) ?_;rintro _ w7 ⟨E,N⟩;have j:=f;have aE:=aE.onlyT E j rfl;have aF:=aF.onlyT E j rfl;have g:=Below.only g E D;have f:=N;refine Za rfl<|Zt bD fun a i=>?_;refine Q6<|Xq<|X6<|X4 i (X17 i rfl (ResV.cellN (l:=[vi ((if (pvC d x.a x.b)=true then pvD d x.a x.b else d).n),.slice aA md aB,.slice aC ((if (pvC d x.a x.b)=true then pvD d x.a x.b else d).ws).length aD,vi ((if (pvC d x.a x.b)=true then pvD d x.a x.b else d).t),vi ((if (pvC d x.a x.b)=true then pvD d x.a x.b else d).r)]) rfl X2 (f.at 0) rfl) rfl) ?_
  rw [k.1,k.2]
  exact ⟨aA,aB,aC,aD,rfl,aE.top,aF.top,bE,by assumption,g⟩
 have b0:=H
 have g4:=H
 refine Q7<|Xa<|cB _ _<|Q5 fun _ bF=>?_;refine Zs i fun _ bG=>?_;refine Ze (Vd rfl X3i 2)<|Ze (X0 rfl X9 (o.at 2))<|Ze (X1j rfl rfl)<|Zt bG fun a i=>?_
 refine Xg i rfl (fun I=>?_) (fun I=>?_)
 ·have b1:=I;have k:=Xw6 (d:=d) g1 g4 I;refine Zs i fun _ bH=>?_;refine Ze (Vn X2 m)<|Zo (Vw [vi d.n,.slice Ad md cd,.slice Bd d.ws.length dd,vi d.t,vi d.r] Xp f) ?_;rintro _ w8 ⟨E,N⟩;have j:=f;have g:=Below.only g E D;have f:=N;refine Za rfl<|Zt bH fun a i=>?_;refine Q6<|X6<|X4 i (X17 i rfl (ResV.cellN (l:=[vi d.n,.slice Ad md cd,.slice Bd d.ws.length dd,vi d.t,vi d.r]) rfl X2 (f.at 0) rfl) rfl) ?_
  rw [k,Q3 Bool.false_ne_true]
  exact ⟨Ad,cd,Bd,dd,rfl,(q.below' g).top,(y.below' g).top,h,p,g⟩
 have b1:=I
 have gb:=I
 refine Q7<|bF _ _<|Q5 fun _ bJ=>?_;refine Zs i fun _ bK=>?_;refine Ze (Vd rfl X48 0)<|Ze (X0 rfl X9 (o.at 0))<|Zt bK fun a i=>?_;refine Q8<|Zs i fun _ bL=>?_;refine Ze (X0b rfl rfl)<|Za rfl<|Zt bL fun a i=>?_
 refine Xg i rfl (fun J=>?_) (fun J=>?_)
 ·have b2:=J;have k:=Xsx (d:=d) g1 g4 gb J;refine Zs i fun _ bM=>?_;refine Ze (Vn X2 m)<|Ze (Vd rfl X1n 1)<|Ze (X0 rfl X9 (o.at 1))<|Zf (Vc (Xta _ d md p Ad cd (q.below' g).top Bd dd (y.below' g).top h x.a hD) Xl3) ?_;rintro _ w9 ⟨aG,aH,aI,aJ,rfl,aK,aL,bN,cG,C⟩;have f:=f.below C;have g:=btr g C;refine Ze (Xn (vs:=[.agg #[vi ((if (idC d x.a)=true then idD d x.a else d).n),.slice aG md aH,.slice aI ((if (idC d x.a)=true then idD d x.a else d).ws).length aJ,vi ((if (idC d x.a)=true then idD d x.a else d).t),vi ((if (idC d x.a)=true then idD d x.a else d).r)],.bool (idC d x.a)]) rfl rfl)<|Ze (Xn (vs:=[.agg #[vi ((if (idC d x.a)=true then idD d x.a else d).n),.slice aG md aH,.slice aI ((if (idC d x.a)=true then idD d x.a else d).ws).length aJ,vi ((if (idC d x.a)=true then idD d x.a else d).t),vi ((if (idC d x.a)=true then idD d x.a else d).r)],.bool (idC d x.a)]) rfl rfl)<|Zo (Vw [vi ((if (idC d x.a)=true then idD d x.a else d).n),.slice aG md aH,.slice aI ((if (idC d x.a)=true then idD d x.a else d).ws).length aJ,vi ((if (idC d x.a)=true then idD d x.a else d).t),vi ((if (idC d x.a)=true then idD d x.a else d).r)] Xp f) ?_;rintro _ cK ⟨E,N⟩;have j:=f;have aK:=aK.onlyT E j rfl;have aL:=aL.onlyT E j rfl;have g:=Below.only g E D;have f:=N;refine Za rfl<|Zt bM fun a i=>?_;refine Q6<|Xq<|X6<|X4 i (X17 i rfl (ResV.cellN (l:=[vi ((if (idC d x.a)=true then idD d x.a else d).n),.slice aG md aH,.slice aI ((if (idC d x.a)=true then idD d x.a else d).ws).length aJ,vi ((if (idC d x.a)=true then idD d x.a else d).t),vi ((if (idC d x.a)=true then idD d x.a else d).r)]) rfl X2 (f.at 0) rfl) rfl) ?_
  rw [k.1,k.2]
  exact ⟨aG,aH,aI,aJ,rfl,aK.top,aL.top,bN,by assumption,g⟩
 have b2:=J
 have g2:=J
 refine Zs i fun _ bO=>?_;refine Ze (X0b rfl rfl)<|Za rfl<|Zt bO fun a i=>?_
 refine Xg i rfl (fun L=>?_) (fun L=>?_)
 ·have b3:=L;have k:=Xt6 (d:=d) g1 g4 gb g2 L;refine Zs i fun _ bP=>?_;refine Ze (Vn X2 m)<|Ze (Vd rfl X1n 1)<|Ze (X0 rfl X9 (o.at 1))<|Zf (Vc (Xur _ d md p Ad cd (q.below' g).top Bd dd (y.below' g).top h x.a hD) Xln) ?_;rintro _ cL ⟨aM,aN,aO,aP,rfl,aQ,aR,bR,cH,C⟩;have f:=f.below C;have g:=btr g C;refine Ze (Xn (vs:=[.agg #[vi ((if (lcC d x.a)=true then lcD d x.a else d).n),.slice aM md aN,.slice aO ((if (lcC d x.a)=true then lcD d x.a else d).ws).length aP,vi ((if (lcC d x.a)=true then lcD d x.a else d).t),vi ((if (lcC d x.a)=true then lcD d x.a else d).r)],.bool (lcC d x.a)]) rfl rfl)<|Ze (Xn (vs:=[.agg #[vi ((if (lcC d x.a)=true then lcD d x.a else d).n),.slice aM md aN,.slice aO ((if (lcC d x.a)=true then lcD d x.a else d).ws).length aP,vi ((if (lcC d x.a)=true then lcD d x.a else d).t),vi ((if (lcC d x.a)=true then lcD d x.a else d).r)],.bool (lcC d x.a)]) rfl rfl)<|Zo (Vw [vi ((if (lcC d x.a)=true then lcD d x.a else d).n),.slice aM md aN,.slice aO ((if (lcC d x.a)=true then lcD d x.a else d).ws).length aP,vi ((if (lcC d x.a)=true then lcD d x.a else d).t),vi ((if (lcC d x.a)=true then lcD d x.a else d).r)] Xp f) ?_;rintro _ cM ⟨E,N⟩;have j:=f;have aQ:=aQ.onlyT E j rfl;have aR:=aR.onlyT E j rfl;have g:=Below.only g E D;have f:=N;refine Za rfl<|Zt bP fun a i=>?_;refine Q6<|Xq<|X6<|X4 i (X17 i rfl (ResV.cellN (l:=[vi ((if (lcC d x.a)=true then lcD d x.a else d).n),.slice aM md aN,.slice aO ((if (lcC d x.a)=true then lcD d x.a else d).ws).length aP,vi ((if (lcC d x.a)=true then lcD d x.a else d).t),vi ((if (lcC d x.a)=true then lcD d x.a else d).r)]) rfl X2 (f.at 0) rfl) rfl) ?_
  rw [k.1,k.2]
  exact ⟨aM,aN,aO,aP,rfl,aQ.top,aR.top,bR,by assumption,g⟩
 have b3:=L
 have g3:=L
 refine Zs i fun _ bS=>?_;refine Ze (X0b rfl rfl)<|Za rfl<|Zt bS fun a i=>?_
 refine Xg i rfl (fun M=>?_) (fun M=>?_)
 ·have b6:=M;have k:=Xts (d:=d) g1 g4 gb g2 g3 M;refine Zs i fun _ bT=>?_;refine Ze (Vn X2 m)<|Ze (Vd rfl X1n 1)<|Ze (X0 rfl X9 (o.at 1))<|Zf (Vc (Xuq _ d md p Ad cd (q.below' g).top Bd dd (y.below' g).top h x.a hD) Xls) ?_;rintro _ cN ⟨aS,aT,aU,aW,rfl,aX,aY,bU,cJ,C⟩;have f:=f.below C;have g:=btr g C;refine Ze (Xn (vs:=[.agg #[vi ((if (loC d x.a)=true then loD d x.a else d).n),.slice aS md aT,.slice aU ((if (loC d x.a)=true then loD d x.a else d).ws).length aW,vi ((if (loC d x.a)=true then loD d x.a else d).t),vi ((if (loC d x.a)=true then loD d x.a else d).r)],.bool (loC d x.a)]) rfl rfl)<|Ze (Xn (vs:=[.agg #[vi ((if (loC d x.a)=true then loD d x.a else d).n),.slice aS md aT,.slice aU ((if (loC d x.a)=true then loD d x.a else d).ws).length aW,vi ((if (loC d x.a)=true then loD d x.a else d).t),vi ((if (loC d x.a)=true then loD d x.a else d).r)],.bool (loC d x.a)]) rfl rfl)<|Zo (Vw [vi ((if (loC d x.a)=true then loD d x.a else d).n),.slice aS md aT,.slice aU ((if (loC d x.a)=true then loD d x.a else d).ws).length aW,vi ((if (loC d x.a)=true then loD d x.a else d).t),vi ((if (loC d x.a)=true then loD d x.a else d).r)] Xp f) ?_;rintro _ cO ⟨E,N⟩;have j:=f;have aX:=aX.onlyT E j rfl;have aY:=aY.onlyT E j rfl;have g:=Below.only g E D;have f:=N;refine Za rfl<|Zt bT fun a i=>?_;refine Q6<|Xq<|X6<|X4 i (X17 i rfl (ResV.cellN (l:=[vi ((if (loC d x.a)=true then loD d x.a else d).n),.slice aS md aT,.slice aU ((if (loC d x.a)=true then loD d x.a else d).ws).length aW,vi ((if (loC d x.a)=true then loD d x.a else d).t),vi ((if (loC d x.a)=true then loD d x.a else d).r)]) rfl X2 (f.at 0) rfl) rfl) ?_
  rw [k.1,k.2]
  exact ⟨aS,aT,aU,aW,rfl,aX.top,aY.top,bU,by assumption,g⟩
 have b6:=M;have k:=Xx8 (d:=d) g1 g4 gb g2 g3 M;refine Q7<|Xa<|bJ _ _<|Zs i fun _ bW=>?_;refine Ze (Vn X2 m)<|Zo (Vw [vi d.n,.slice Ad md cd,.slice Bd d.ws.length dd,vi d.t,vi d.r] Xp f) ?_;rintro _ cP ⟨E,N⟩;have j:=f;have g:=Below.only g E D;have f:=N;refine Za rfl<|Zt bW fun a i=>?_
 refine Q6 (X4 i (X17 i rfl (ResV.cellN (l:=[vi d.n,.slice Ad md cd,.slice Bd d.ws.length dd,vi d.t,vi d.r]) rfl X2 (f.at 0) rfl) rfl) ?_)
 rw [k,Q3 Bool.false_ne_true]
 exact ⟨Ad,cd,Bd,dd,rfl,(q.below' g).top,(y.below' g).top,h,p,g⟩
def cnW(ws:List Wr)(k:Int) : Int:=((ws.filter fun w=>w.a==k||w.b==k).length:Int)
theorem Xtt{ws:List Wr}{k:Int}{j:Nat}{w:Wr}(hj:ws[j]? = some w)(h:(w.a==k||w.b==k)=true) : cnW (ws.take (j+1)) k=cnW (ws.take j) k+1:=by
 unfold cnW
 rw [X3d (q:=fun w=>w.a==k||w.b==k) hj,Q4 h,Qh]
 rfl
theorem Xv9{ws:List Wr}{k:Int}{j:Nat}{w:Wr}(hj:ws[j]? = some w)(h:(w.a==k||w.b==k)=false) : cnW (ws.take (j+1)) k=cnW (ws.take j) k:=by
 unfold cnW
 rw [X3d (q:=fun w=>w.a==k||w.b==k) hj,Q3 (by rw [h];decide),List.append_nil]
theorem Xea(ws:List Wr)(k:Int)(j:Nat) : 0≤cnW (ws.take j) k∧cnW (ws.take j) k≤j:=by
 have h1:=List.length_filter_le (fun w:Wr=>w.a==k||w.b==k) (ws.take j)
 rw [Qn] at h1
 unfold cnW
 omega
def ctN(ns:List Nd)(k p:Int) : Int:=((ns.filter fun x=>x.k==k&&x.p==p).length:Int)
theorem Xy3{ns:List Nd}{k p:Int}{j:Nat}{x:Nd}(hj:ns[j]? = some x)(h:(x.k==k&&x.p==p)=true) : ctN (ns.take (j+1)) k p=ctN (ns.take j) k p+1:=by
 unfold ctN
 rw [X3d (q:=fun x=>x.k==k&&x.p==p) hj,Q4 h,Qh]
 rfl
theorem Xxz{ns:List Nd}{k p:Int}{j:Nat}{x:Nd}(hj:ns[j]? = some x)(h:(x.k==k&&x.p==p)=false) : ctN (ns.take (j+1)) k p=ctN (ns.take j) k p:=by
 unfold ctN
 rw [X3d (q:=fun x=>x.k==k&&x.p==p) hj,Q3 (by rw [h];decide),List.append_nil]
theorem Xwm(ns:List Nd)(k p:Int)(j:Nat) : 0≤ctN (ns.take j) k p∧ctN (ns.take j) k p≤j:=by
 have h1:=List.length_filter_le (fun x:Nd=>x.k==k&&x.p==p) (ns.take j)
 rw [Qn] at h1
 unfold ctN
 omega
def ndQ(d:Dg)(k:Int) : Bool:=
 if ((d.ns.getD k.toNat nZ).k==0)=true then (d.ns.getD k.toNat nZ).p==0&&cnW d.ws k==0
 else if ((d.ns.getD k.toNat nZ).k==1||(d.ns.getD k.toNat nZ).k==2)=true then inR (d.ns.getD k.toNat nZ).p 0 (d.n-1)&&cnW d.ws k==1
 else (d.ns.getD k.toNat nZ).k==3&&inR (d.ns.getD k.toNat nZ).p 0 7
theorem Xxo{d:Dg}{k:Int}(h:((d.ns.getD k.toNat nZ).k==0)=true) : ndQ d k=((d.ns.getD k.toNat nZ).p==0&&cnW d.ws k==0):=Q4 h
theorem Xvn{d:Dg}{k:Int}(h:((d.ns.getD k.toNat nZ).k==0)=false)(h2:((d.ns.getD k.toNat nZ).k==1||(d.ns.getD k.toNat nZ).k==2)=true) : ndQ d k=(inR (d.ns.getD k.toNat nZ).p 0 (d.n-1)&&cnW d.ws k==1):=by
 unfold ndQ;rw [h,h2];rfl
theorem Xy4{d:Dg}{k:Int}(h:((d.ns.getD k.toNat nZ).k==0)=false)(h2:((d.ns.getD k.toNat nZ).k==1||(d.ns.getD k.toNat nZ).k==2)=false) : ndQ d k=((d.ns.getD k.toNat nZ).k==3&&inR (d.ns.getD k.toNat nZ).p 0 7):=by
 unfold ndQ;rw [h,h2];rfl
def enQ(d:Dg)(k:Int) : Bool:=(List.range d.n.toNat).all fun (j:Nat)=>ctN d.ns k (j:Int)==1
def endQ(d:Dg) : Bool:=enQ d 1&&enQ d 2
theorem Xvl{d:Dg}{e j:Nat}(h1:1≤e)(h2:e≤2)(hj:(j:Int)<d.n)(h:(ctN d.ns (e:Int) (j:Int) != 1)=true) : endQ d=false:=by
 have hx:enQ d (e:Int)=false:=X4k (k:=j) (by omega) (by simpa [bne] using h)
 unfold endQ
 rcases (by omega:e=1∨e=2) with h3|h3<;>subst h3
 ·rw [show enQ d 1=false from hx];rfl
 ·rw [show enQ d 2=false from hx,Bool.and_false]
def wrQ(d:Dg)(i:Nat) : Bool:=!(!(inR (d.ws.getD i wZ).a 0 ((d.ws.getD i wZ).b-1))||decide ((d.ns.length:Int)≤(d.ws.getD i wZ).b)||(decide (0<(i:Int))&&!(wlt (d.ws.getD (i-1) wZ) (d.ws.getD i wZ))))
def hdQ(d:Dg) : Bool:=!(!(inR d.n 1 5)||decide (40<(d.ns.length:Int))||!(inR d.t 0 7)||!(inR d.r (-60) 60))
def goodD(d:Dg) : Bool:=hdQ d&&(List.range d.ws.length).all (wrQ d)&&(List.range d.ns.length).all (fun k=>ndQ d (k:Int))&&endQ d
theorem Xv8{d:Dg}(h:(!(inR d.n 1 5)||decide (40<(d.ns.length:Int))||!(inR d.t 0 7)||!(inR d.r (-60) 60))=true) : goodD d=false:=by
 unfold goodD hdQ;rw [h];rfl
theorem Xhj{d:Dg}(h:(!(inR d.n 1 5)||decide (40<(d.ns.length:Int))||!(inR d.t 0 7)||!(inR d.r (-60) 60))=false) : hdQ d=true∧(1≤d.n∧d.n≤5)∧d.ns.length≤40∧(0≤d.t∧d.t≤7)∧-60≤d.r∧d.r≤60:=by
 refine ⟨by unfold hdQ;rw [h];rfl,?_⟩
 simp only [Bool.or_eq_false_iff,Bool.not_eq_false',X0f,decide_eq_false_iff_not] at h
 omega
theorem Xjb{d:Dg}{i:Nat}{u:Wr}(hu:d.ws[i]? = some u) : wrQ d i = !(!(inR u.a 0 (u.b-1))||decide ((d.ns.length:Int)≤u.b)||(decide (0<(i:Int))&&!(wlt (d.ws.getD (i-1) wZ) u))):=by
 have h:d.ws.getD i wZ=u:=by rw [Qa,hu];rfl
 unfold wrQ
 rw [h]
theorem Xrf{d:Dg}{i:Nat}(hi:i<d.ws.length)(h:wrQ d i=false) : goodD d=false:=by
 unfold goodD
 rw [X4k (q:=wrQ d) hi h,Bool.and_false,Bool.false_and,Bool.false_and]
theorem Xse{d:Dg}{i:Nat}(hi:i<d.ns.length)(h:ndQ d (i:Int)=false) : goodD d=false:=by
 unfold goodD
 rw [X4k (q:=fun k=>ndQ d (k:Int)) hi h,Bool.and_false,Bool.false_and]
theorem Xq3{d:Dg}(h1:hdQ d=true)(h2:∀ i,i<d.ws.length→wrQ d i=true)(h3:∀ i:Nat,i<d.ns.length→ndQ d (i:Int)=true) : goodD d=endQ d:=by
 unfold goodD
 rw [h1,X3y (q:=wrQ d) h2,X3y (q:=fun k=>ndQ d (k:Int)) h3]
 rfl
theorem Xir(y:World)(d:Dg)(md:Nat)(aP:md=d.ns.length)(Ad:Option Addr)(cd:Nat)(aQ:Rd y y.heap.size 81 encNd Ad d.ns)(Bd:Option Addr)(dd:Nat)(B:Rd y y.heap.size 83 encWr Bd d.ws)(q:d.ws.length≤dd)(p:Int)(aU:d.ws.length≤1000000000) : Ret Tryz.prog 152 [.agg #[vi d.n,.slice Ad md cd,.slice Bd d.ws.length dd,vi d.t,vi d.r],vi p] y (fun v w=>v=vi (cnW d.ws p)∧Below y.heap.size y w):=by
 refine enter Tryz.func152 rfl 29 rfl rfl ?_;intro a f
 have o:=bz y
 refine Zs f fun _ aH=>?_;refine Zf (X0c (zs:=[vi d.n,.slice Ad md cd,.slice Bd d.ws.length dd,vi d.t,vi d.r]) rfl rfl) ?_;rintro _ w1 ⟨b4,rfl,aI,hE,aJ⟩;have aR:=Q0 o.size aI;have o:=btr o hE;refine Za rfl<|Zx aH fun a f _ aK=>?_;refine Za rfl<|ZX aK fun a f _ aL=>?_;refine Zs f fun _ aM=>?_;refine Ze (Vd rfl Xr 2)<|Ze (X0 rfl X0j (aJ.at 2))<|Ze (X0d rfl Xx)<|Zm rfl<|Zt aM fun a f=>?_;refine Q8<|X01 (σ:=Nat×Int) (fun (s:Nat×Int) (a:Act) (w:World)=>match s with|(k,c)=>Fr a 29 [(1,vi p),(5,vi c),(9,.slice Bd d.ws.length dd),(10,vi (d.ws.length:Int)),(11,vi (k:Int))]∧(k≤d.ws.length)∧(c=cnW (d.ws.take k) p)∧d.ws.length≤dd∧Below y.heap.size y w) (fun (s:Nat×Int)=>match s with|(k,c)=>d.ws.length-k) (0,0) ?_ ?_
 ·exact ⟨f.sb,(Qf _),rfl,q,o⟩
 rintro ⟨k,c⟩ a w2 ⟨f,hk,hc,q,o⟩;have aB:=Xea d.ws p k
 rw [← hc] at aB
 refine Zs f fun _ aN=>?_;refine Ze (X0l rfl rfl)<|ZX aN fun a f _ aO=>?_
 refine Xg f rfl (fun g=>?_) (fun g=>?_)
 ·have i:=g;have g:=Q2 g
  obtain ⟨aW,aS⟩:=X5 (l:=d.ws) (k:=k) (by omega)
  obtain ⟨A,a6⟩:=X5 (l:=d.ws) (k:=k) (by have:=g;omega)
  have aB:=Xea d.ws p k;refine Q7<|aO _ _<|Q5 fun _ C=>?_;refine Q8<|Zs f fun _ aC=>?_;refine Zi (k:=k) (u:=A) (enc:=encWr) (l:=d.ws) trivial rfl rfl Xx X0e Xy (B.below' o) a6 rfl ?_;intro aX a7;refine Ze (X04 (l:=[vi A.a,vi A.b,.bool A.h]) rfl X1i a7 rfl)<|Zf (Xu (zs:=[vi 0,vi 0,.bool false]) X2y rfl) ?_;rintro _ w3 ⟨aY,rfl,D,hE,j⟩;have a8:=Q0 o.size D;have aD:=(B.below' o).away D;have o:=btr o hE;refine Zo (Vw [vi A.a,vi A.b,.bool A.h] X0e j) ?_;rintro _ w4 ⟨ho,hb⟩;have aT:=j;have o:=Below.only o ho a8;have j:=hb;refine ZX aC fun a f _ aE=>?_;refine X0a (fun a w=>Fr a 29 [(1,vi p),(5,vi c),(9,.slice Bd d.ws.length dd),(10,vi (d.ws.length:Int)),(11,vi (k:Int)),(24,.bool ((A.a==p)||(A.b==p)))]∧w4=w) ?_ ?_
  ·refine Zr f<|Ze (Vd rfl X0q 0)<|Ze (X0 rfl X9 (j.at 0))<|Zm rfl<|Ze (X0b rfl rfl)<|Zm rfl ?_
   refine Zg 19 rfl (fun e=>?_) (fun e=>?_)
   ·refine Zp (gP e) ?_;refine Zp (gP e) ?_;refine Zp (gP e) ?_;refine Zp (gP e) ?_;refine Ze (X7 rfl e rfl) ?_;refine Zn fun a f=>?_;exact ⟨f.sub ⟨rfl,rfl,rfl,rfl,rfl,X1 rfl (by first|rfl|(simp only [i,e,bs];done)|simp [i,e]),trivial⟩,rfl⟩
   refine Zv (gW e) (Vd rfl X0u 1) ?_;refine Zv (gW e) (X0 rfl X9 (j.at 1)) ?_;refine Zv (gW e) (X3 rfl) ?_;refine Zv (gW e) (X0b rfl rfl) ?_;refine Ze (Xe rfl e rfl) ?_;refine Zn fun a f=>?_;exact ⟨f.sub ⟨rfl,rfl,rfl,rfl,rfl,X1 rfl (by first|rfl|(simp only [i,e,bs];done)|simp [i,e]),trivial⟩,rfl⟩
  rintro a _ ⟨f,rfl⟩;refine aE _ _ ?_
  refine Xg f rfl (fun m=>?_) (fun m=>?_)
  ·have aA:=m;have x:=Xtt a6 m
   rw [← hc] at x
   refine Zr f<|Zm rfl<|Ze (Xw rfl rfl (by omega) (by omega))<|Za rfl ?_;refine Zn fun a f=>?_;refine Xa<|C _ _<|Zr f<|Ze (Xw rfl rfl (by omega) (by omega))<|Zm rfl ?_;refine Zn fun a f=>?_;refine Xh ?_;exact ⟨(k+1,c+1),⟨f.sb,(by omega),(by rw [x]),q,o⟩,(by first|omega|(dsimp only;omega))⟩
  have aA:=m;have x:=Xv9 a6 m
  rw [← hc] at x
  refine Q7<|Xa<|C _ _<|Zr f ?_;refine Ze (Xw rfl rfl (by omega) (by omega))<|Zm rfl ?_;refine Zn fun a f=>?_;refine Xh ?_;exact ⟨(k+1,c),⟨f.sb,(by omega),(by rw [x]),q,o⟩,(by first|omega|(dsimp only;omega))⟩
 have i:=g;have g:=Q1 g
 have aF:c=cnW d.ws p:=by rw [hc,Qi (by have:=g;omega)]
 refine Q9<|Xk<|Xk<|X03 ?_;refine aL _ _<|Zs f fun _ aG=>?_;refine Zm rfl<|Za rfl<|Zt aG fun a f=>?_
 refine Q6 (X4 f (Xt f rfl rfl) ?_)
 exact ⟨by rw [aF],o⟩
theorem Xw3(L:World)(d:Dg)(md:Nat)(H:md=d.ns.length)(Ad:Option Addr)(cd:Nat)(C:Rd L L.heap.size 81 encNd Ad d.ns)(Bd:Option Addr)(dd:Nat)(I:Rd L L.heap.size 83 encWr Bd d.ws)(J:d.ws.length≤dd)(p:Int)(aK:0≤p∧p.toNat<d.ns.length)(a6:d.ws.length≤1000000000)(hn:1≤d.n∧d.n≤1000) : Ret Tryz.prog 107 [.agg #[vi d.n,.slice Ad md cd,.slice Bd d.ws.length dd,vi d.t,vi d.r],vi p] L (fun v w=>v=.bool (ndQ d p)∧Below L.heap.size L w):=by
 refine enter Tryz.func107 rfl 47 rfl rfl ?_;intro a e
 have o:=bz L
 refine Zs e fun _ aL=>?_;refine Zf (X0c (zs:=[vi d.n,.slice Ad md cd,.slice Bd d.ws.length dd,vi d.t,vi d.r]) rfl rfl) ?_;rintro _ w1 ⟨b4,rfl,aM,A,x⟩;have aP:=Q0 o.size aM;have o:=btr o A;refine Za rfl<|Zx aL fun a e _ aN=>?_;refine Ze (Vd rfl Xj 1)<|Ze (X0 rfl X00 (x.at 1))<|Zm rfl<|Zj (k:=p.toNat) (u:=(d.ns.getD p.toNat nZ)) (enc:=encNd) (l:=d.ns) trivial rfl H rfl Xs X07 Xv (C.below' o) (Xb aK.2) (by omega) ?_;intro p7 a7;refine Ze (X04 (l:=[vi ((d.ns.getD p.toNat nZ).k),vi ((d.ns.getD p.toNat nZ).p)]) rfl X2s a7 rfl)<|Zf (Xu (zs:=[vi 0,vi 0]) X6w rfl) ?_;rintro _ w2 ⟨b8,rfl,a8,A,B⟩;have aA:=Q0 o.size a8;have aJ:=(C.below' o).away a8;have x:=x.below A;have o:=btr o A;refine Zo (Vw [vi ((d.ns.getD p.toNat nZ).k),vi ((d.ns.getD p.toNat nZ).p)] X07 B) ?_;rintro _ w3 ⟨ho,hb⟩;have aB:=B;have x:=x.only ho (Blk.ne x aB rfl);have o:=Below.only o ho aA;have B:=hb;refine ZX aN fun a e _ aO=>?_;refine Zs e fun _ aC=>?_;refine Ze (Vd rfl X13 0)<|Ze (X0 rfl X9 (B.at 0))<|Zt aC fun a e=>?_;refine Q8<|Zs e fun _ aD=>?_;refine Ze (X0b rfl rfl)<|Za rfl<|Zt aD fun a e=>?_
 refine Xg e rfl (fun D=>?_) (fun D=>?_)
 ·have b:=D;have y:=Xxo D;refine Q5 fun _ aE=>?_;refine X0a (fun a w=>Fr a 47 [(4,.bool ((((d.ns.getD p.toNat nZ).p)==0)&&((cnW d.ws p)==0)))]∧Below w3.heap.size w3 w) ?_ ?_
  ·have q:Below w3.heap.size w3 w3:=Below.refl _ _
   refine Zr e<|Ze (Vd rfl X06 1)<|Ze (X0 rfl X9 (B.at 1))<|Ze (X0b rfl rfl)<|Zm rfl ?_
   refine Zg 18 rfl (fun f=>?_) (fun f=>?_)
   ·refine Zv (gW f) (Vn X2 x) ?_;refine Zv (gW f) (X3 rfl) ?_;refine Zk (gW f) (Vc (Xir _ d md H Ad cd (C.below' o).top Bd dd (I.below' o).top J p a6) Xa5) ?_;rintro _ w4 ⟨rfl,A⟩;have o:=btr o A;have q:=btr q A;refine Zv (gW f) (X0b rfl rfl) ?_;refine Ze (X7 rfl f rfl)<|Za rfl ?_;refine Zn fun a e=>?_
    have h:Below w3.heap.size w3 w4:=q
    exact ⟨e.sub ⟨X1 rfl (by first|rfl|(simp only [b,f,bs];done)|simp [b,f]),trivial⟩,h⟩
   refine Zp (gP f) ?_;refine Zp (gP f) ?_;refine Zp (gP f) ?_;refine Zp (gP f) ?_;refine Ze (Xe rfl f rfl)<|Za rfl ?_;refine Zn fun a e=>?_
   have h:Below w3.heap.size w3 w3:=q
   exact ⟨e.sub ⟨X1 rfl (by first|rfl|(simp only [b,f,bs];done)|simp [b,f]),trivial⟩,h⟩
  rintro a w5 ⟨e,A⟩;have o:=btr o A;refine aE _ _<|Q6<|Xq<|X6 ?_;refine X4 e (Xt e rfl rfl) ?_;exact ⟨by rw [y],o⟩
 have b:=D
 have g0:=D
 refine Q5 fun _ M=>?_;refine Zs e fun _ aF=>?_;refine Ze (X0b rfl rfl)<|Za rfl<|Zt aF fun a e=>?_
 refine Xg e rfl (fun E=>?_) (fun E=>?_)
 ·have c:=E
  have y:=Xvn g0 (by rw [E];rfl)
  refine Q7<|M _ _<|Xau e (X1 rfl c) ?_;refine Q5 fun _ aG=>?_;refine X0a (fun a w=>Fr a 47 [(4,.bool ((inR ((d.ns.getD p.toNat nZ).p) 0 (d.n-1))&&((cnW d.ws p)==1)))]∧Below w3.heap.size w3 w) ?_ ?_
  ·have q:Below w3.heap.size w3 w3:=Below.refl _ _
   refine Zr e<|Ze (Vd rfl X06 1)<|Ze (X0 rfl X9 (B.at 1))<|Ze (Vd rfl X2b 0)<|Ze (X0 rfl X9 (x.at 0))<|Ze (X1g rfl rfl (by omega) (by omega))<|Zf (Vc (F85 _ ((d.ns.getD p.toNat nZ).p) 0 (d.n-1)) X3r) ?_;rintro _ _ ⟨rfl,rfl⟩;refine Zm rfl ?_
   refine Zg 33 rfl (fun g=>?_) (fun g=>?_)
   ·refine Zv (gW g) (Vn X2 x) ?_;refine Zv (gW g) (X3 rfl) ?_;refine Zk (gW g) (Vc (Xir _ d md H Ad cd (C.below' o).top Bd dd (I.below' o).top J p a6) Xa5) ?_;rintro _ w6 ⟨rfl,A⟩;have o:=btr o A;have q:=btr q A;refine Zv (gW g) (X0b rfl rfl) ?_;refine Ze (X7 rfl g rfl)<|Za rfl ?_;refine Zn fun a e=>?_
    have h:Below w3.heap.size w3 w6:=q
    exact ⟨e.sub ⟨X1 rfl (by first|rfl|(simp only [b,c,g,bs];done)|simp [b,c,g]),trivial⟩,h⟩
   refine Zp (gP g) ?_;refine Zp (gP g) ?_;refine Zp (gP g) ?_;refine Zp (gP g) ?_;refine Ze (Xe rfl g rfl)<|Za rfl ?_;refine Zn fun a e=>?_
   have h:Below w3.heap.size w3 w3:=q
   exact ⟨e.sub ⟨X1 rfl (by first|rfl|(simp only [b,c,g,bs];done)|simp [b,c,g]),trivial⟩,h⟩
  rintro a w7 ⟨e,A⟩;have o:=btr o A;refine aG _ _<|Q6<|Xq<|X6 ?_;refine X4 e (Xt e rfl rfl) ?_;exact ⟨by rw [y],o⟩
 have c:=E
 have g1:=E
 refine Zr e<|Ze (X0b rfl rfl)<|Za rfl<|Zt M fun a e=>?_
 refine Xg e rfl (fun G=>?_) (fun G=>?_)
 ·have m:=G
  have y:=Xvn g0 (by rw [g1,G];rfl)
  refine Q5 fun _ aH=>?_;refine X0a (fun a w=>Fr a 47 [(4,.bool ((inR ((d.ns.getD p.toNat nZ).p) 0 (d.n-1))&&((cnW d.ws p)==1)))]∧Below w3.heap.size w3 w) ?_ ?_
  ·have q:Below w3.heap.size w3 w3:=Below.refl _ _
   refine Zr e<|Ze (Vd rfl X06 1)<|Ze (X0 rfl X9 (B.at 1))<|Ze (Vd rfl X2b 0)<|Ze (X0 rfl X9 (x.at 0))<|Ze (X1g rfl rfl (by omega) (by omega))<|Zf (Vc (F85 _ ((d.ns.getD p.toNat nZ).p) 0 (d.n-1)) X3r) ?_;rintro _ _ ⟨rfl,rfl⟩;refine Zm rfl ?_
   refine Zg 33 rfl (fun i=>?_) (fun i=>?_)
   ·refine Zv (gW i) (Vn X2 x) ?_;refine Zv (gW i) (X3 rfl) ?_;refine Zk (gW i) (Vc (Xir _ d md H Ad cd (C.below' o).top Bd dd (I.below' o).top J p a6) Xa5) ?_;rintro _ w8 ⟨rfl,A⟩;have o:=btr o A;have q:=btr q A;refine Zv (gW i) (X0b rfl rfl) ?_;refine Ze (X7 rfl i rfl)<|Za rfl ?_;refine Zn fun a e=>?_
    have h:Below w3.heap.size w3 w8:=q
    exact ⟨e.sub ⟨X1 rfl (by first|rfl|(simp only [b,c,m,i,bs];done)|simp [b,c,m,i]),trivial⟩,h⟩
   refine Zp (gP i) ?_;refine Zp (gP i) ?_;refine Zp (gP i) ?_;refine Zp (gP i) ?_;refine Ze (Xe rfl i rfl)<|Za rfl ?_;refine Zn fun a e=>?_
   have h:Below w3.heap.size w3 w3:=q
   exact ⟨e.sub ⟨X1 rfl (by first|rfl|(simp only [b,c,m,i,bs];done)|simp [b,c,m,i]),trivial⟩,h⟩
  rintro a w9 ⟨e,A⟩;have o:=btr o A;refine aH _ _<|Q6<|Xq<|X6 ?_;refine X4 e (Xt e rfl rfl) ?_;exact ⟨by rw [y],o⟩
 have m:=G
 have y:=Xy4 g0 (by rw [g1,G];rfl)
 refine Q7<|Xa<|aO _ _<|Q5 fun _ aI=>?_;refine X0a (fun a w=>Fr a 47 [(4,.bool ((((d.ns.getD p.toNat nZ).k)==3)&&(inR ((d.ns.getD p.toNat nZ).p) 0 7)))]∧w3=w) ?_ ?_
 ·refine Zr e<|Ze (Vd rfl X13 0)<|Ze (X0 rfl X9 (B.at 0))<|Ze (X0b rfl rfl)<|Zm rfl ?_
  refine Zg 42 rfl (fun j=>?_) (fun j=>?_)
  ·refine Zv (gW j) (Vd rfl X06 1) ?_;refine Zv (gW j) (X0 rfl X9 (B.at 1)) ?_;refine Zk (gW j) (Vc (F85 _ ((d.ns.getD p.toNat nZ).p) 0 7) X3r) ?_;rintro _ _ ⟨rfl,rfl⟩;refine Ze (X7 rfl j rfl)<|Za rfl ?_;refine Zn fun a e=>?_;exact ⟨e.sub ⟨X1 rfl (by first|rfl|(simp only [b,c,m,j,bs];done)|simp [b,c,m,j]),trivial⟩,rfl⟩
  refine Zp (gP j) ?_;refine Zp (gP j) ?_;refine Zp (gP j) ?_;refine Ze (Xe rfl j rfl)<|Za rfl ?_;refine Zn fun a e=>?_;exact ⟨e.sub ⟨X1 rfl (by first|rfl|(simp only [b,c,m,j,bs];done)|simp [b,c,m,j]),trivial⟩,rfl⟩
 rintro a _ ⟨e,rfl⟩;refine aI _ _ ?_
 refine Q6 (X4 e (Xt e rfl rfl) ?_)
 exact ⟨by rw [y],o⟩
theorem Xsk(G:World)(d:Dg)(md:Nat)(aC:md=d.ns.length)(Ad:Option Addr)(cd:Nat)(L:Rd G G.heap.size 81 encNd Ad d.ns)(Bd:Option Addr)(dd:Nat)(b7:Rd G G.heap.size 83 encWr Bd d.ws)(m:d.ws.length≤dd)(hN:md≤1000)(hn:1≤d.n∧d.n≤1000) : Ret Tryz.prog 108 [.agg #[vi d.n,.slice Ad md cd,.slice Bd d.ws.length dd,vi d.t,vi d.r]] G (fun v w=>v=.bool (endQ d)∧Below G.heap.size G w):=by
 refine enter Tryz.func108 rfl 40 rfl rfl ?_;intro a b
 have h:=bz G
 refine Zs b fun _ aW=>?_;refine Zf (X0c (zs:=[vi d.n,.slice Ad md cd,.slice Bd d.ws.length dd,vi d.t,vi d.r]) rfl rfl) ?_;rintro _ w1 ⟨b4,rfl,aX,hE,g⟩;have b8:=Q0 h.size aX;have h:=btr h hE;refine Za rfl<|ZX aW fun a b _ aY=>?_;refine Zs b fun _ aZ=>?_;refine Za rfl<|Zt aZ fun a b=>?_;refine Q8<|X01 (σ:=Nat) (fun (e:Nat) (a:Act) (w:World)=>Fr a 40 [(1,.pointer (some ⟨b4,0,none⟩)),(3,vi (e:Int))]∧(1≤e∧e≤3)∧(∀ i:Nat,1≤i→i<e→enQ d (i:Int)=true)∧Blk w b4 39 [vi d.n,.slice Ad md cd,.slice Bd d.ws.length dd,vi d.t,vi d.r]∧d.ws.length≤dd∧Below G.heap.size G w) (fun (e:Nat)=>3-e) 1 ?_ ?_
 ·exact ⟨b.sb,⟨Qb _,by omega⟩,(fun i h1 h2=>by omega),g,m,h⟩
 rintro e a w2 ⟨b,he,H,g,m,h⟩;refine Q5 fun _ b0=>?_;refine Zs b fun _ b1=>?_;refine Zm rfl<|Ze (Xk7 rfl rfl)<|Zt b1 fun a b=>?_
 refine Xg b rfl (fun A=>?_) (fun A=>?_)
 ·have B:=A;have A:=Q2 A;have h9:=A;refine Q7<|b0 _ _<|Q5 fun _ aD=>?_;refine Q8<|Zs b fun _ aE=>?_;refine Za rfl<|Zt aE fun a b=>?_;refine Q8<|X01 (σ:=Nat) (fun (j:Nat) (a:Act) (w:World)=>Fr a 40 [(1,.pointer (some ⟨b4,0,none⟩)),(3,vi (e:Int)),(4,vi (j:Int))]∧(∀ i:Nat,i<j→(ctN d.ns (e:Int) (i:Int)==1)=true)∧Blk w b4 39 [vi d.n,.slice Ad md cd,.slice Bd d.ws.length dd,vi d.t,vi d.r]∧d.ws.length≤dd∧Below G.heap.size G w) (fun (j:Nat)=>d.n.toNat-j) 0 ?_ ?_
  ·exact ⟨b.sb,(fun i hi=>by omega),g,m,h⟩
  rintro j a w3 ⟨b,M,g,m,h⟩;refine Q5 fun _ aF=>?_;refine Zs b fun _ aG=>?_;refine Zm rfl<|Ze (Vd rfl X2b 0)<|Ze (X0 rfl X9 (g.at 0))<|Ze (X0l rfl rfl)<|Zt aG fun a b=>?_
  refine Xg b rfl (fun o=>?_) (fun o=>?_)
  ·have x:=o;have o:=Q2 o;have b2:=o;refine Q7<|aF _ _<|Q5 fun _ aH=>?_;refine Q8<|Zs b fun _ aI=>?_;refine Za rfl<|ZX aI fun a b _ aJ=>?_;refine Zs b fun _ aK=>?_;refine Ze (Vd rfl Xj 1)<|Ze (X0 rfl X00 (g.at 1))<|Ze (X0d rfl Xs)<|Zm rfl<|Zt aK fun a b=>?_;refine Q8<|X01 (σ:=Nat×Int) (fun (s:Nat×Int) (a:Act) (w:World)=>match s with|(k,c)=>Fr a 40 [(1,.pointer (some ⟨b4,0,none⟩)),(3,vi (e:Int)),(4,vi (j:Int)),(5,vi c),(19,.slice Ad md cd),(20,vi (md:Int)),(21,vi (k:Int))]∧(k≤d.ns.length)∧(c=ctN (d.ns.take k) (e:Int) (j:Int))∧Blk w b4 39 [vi d.n,.slice Ad md cd,.slice Bd d.ws.length dd,vi d.t,vi d.r]∧d.ws.length≤dd∧Below G.heap.size G w) (fun (s:Nat×Int)=>match s with|(k,c)=>d.ns.length-k) (0,0) ?_ ?_
   ·exact ⟨b.sb,(Qf _),rfl,g,m,h⟩
   rintro ⟨k,c⟩ a w4 ⟨b,hk,hc,g,m,h⟩;have b3:=Xwm d.ns (e:Int) (j:Int) k
   rw [← hc] at b3
   refine Zs b fun _ aL=>?_;refine Ze (X0l rfl rfl)<|ZX aL fun a b _ aM=>?_
   refine Xg b rfl (fun q=>?_) (fun q=>?_)
   ·have y:=q;have q:=Q2 q
    obtain ⟨u9,a6⟩:=X5 (l:=d.ns) (k:=k) (by have:=q;omega)
    refine Q7<|aM _ _<|Q5 fun _ N=>?_;refine Q8<|Zs b fun _ aN=>?_;refine Zj (k:=k) (u:=u9) (enc:=encNd) (l:=d.ns) trivial rfl aC rfl Xs X07 Xv (L.below' h) a6 (by omega) ?_;intro b9 a7;refine Ze (X04 (l:=[vi u9.k,vi u9.p]) rfl X2s a7 rfl)<|Zf (Xu (zs:=[vi 0,vi 0]) X6w rfl) ?_;rintro _ w5 ⟨bA,rfl,Q,hE,C⟩;have a8:=Q0 h.size Q;have aO:=(L.below' h).away Q;have g:=g.below hE;have h:=btr h hE;refine Zo (Vw [vi u9.k,vi u9.p] X07 C) ?_;rintro _ w6 ⟨ho,hb⟩;have aP:=C;have g:=g.only ho (Blk.ne g aP rfl);have h:=Below.only h ho a8;have C:=hb;refine ZX aN fun a b _ aQ=>?_;refine X0a (fun a w=>Fr a 40 [(1,.pointer (some ⟨b4,0,none⟩)),(3,vi (e:Int)),(4,vi (j:Int)),(5,vi c),(19,.slice Ad md cd),(20,vi (md:Int)),(21,vi (k:Int)),(34,.bool ((u9.k==(e:Int))&&(u9.p==(j:Int))))]∧w6=w) ?_ ?_
    ·refine Zr b<|Ze (Vd rfl X13 0)<|Ze (X0 rfl X9 (C.at 0))<|Zm rfl<|Ze (X0b rfl rfl)<|Zm rfl ?_
     refine Zg 29 rfl (fun f=>?_) (fun f=>?_)
     ·refine Zv (gW f) (Vd rfl X06 1) ?_;refine Zv (gW f) (X0 rfl X9 (C.at 1)) ?_;refine Zv (gW f) (X3 rfl) ?_;refine Zv (gW f) (X0b rfl rfl) ?_;refine Ze (X7 rfl f rfl) ?_;refine Zn fun a b=>?_;exact ⟨b.sub ⟨rfl,rfl,rfl,rfl,rfl,rfl,rfl,X1 rfl (by first|rfl|(simp only [B,x,y,f,bs];done)|simp [B,x,y,f]),trivial⟩,rfl⟩
     refine Zp (gP f) ?_;refine Zp (gP f) ?_;refine Zp (gP f) ?_;refine Zp (gP f) ?_;refine Ze (Xe rfl f rfl) ?_;refine Zn fun a b=>?_;exact ⟨b.sub ⟨rfl,rfl,rfl,rfl,rfl,rfl,rfl,X1 rfl (by first|rfl|(simp only [B,x,y,f,bs];done)|simp [B,x,y,f]),trivial⟩,rfl⟩
    rintro a _ ⟨b,rfl⟩;refine aQ _ _ ?_
    refine Xg b rfl (fun D=>?_) (fun D=>?_)
    ·have aA:=D;have I:=Xy3 a6 D
     rw [← hc] at I
     refine Zr b<|Zm rfl<|Ze (Xw rfl rfl (by omega) (by omega))<|Za rfl ?_;refine Zn fun a b=>?_;refine Xa<|N _ _<|Zr b<|Ze (Xw rfl rfl (by omega) (by omega))<|Zm rfl ?_;refine Zn fun a b=>?_;refine Xh ?_;exact ⟨(k+1,c+1),⟨b.sb,(by omega),(by rw [I]),g,m,h⟩,(by first|omega|(dsimp only;omega))⟩
    have aA:=D;have I:=Xxz a6 D
    rw [← hc] at I
    refine Q7<|Xa<|N _ _<|Zr b ?_;refine Ze (Xw rfl rfl (by omega) (by omega))<|Zm rfl ?_;refine Zn fun a b=>?_;refine Xh ?_;exact ⟨(k+1,c),⟨b.sb,(by omega),(by rw [I]),g,m,h⟩,(by first|omega|(dsimp only;omega))⟩
   have y:=q;have q:=Q1 q
   have aR:c=ctN d.ns (e:Int) (j:Int):=by rw [hc,Qi (by have:=q;omega)]
   refine Q9<|Xk<|Xk<|X03 ?_;refine aJ _ _<|Zs b fun _ aS=>?_;refine Zm rfl<|Ze (X1j rfl rfl)<|Zt aS fun a b=>?_
   refine Xg b rfl (fun E=>?_) (fun E=>?_)
   ·have aB:=E
    have J:endQ d=false:=Xvl (e:=e) (by omega) (by omega) b2 (by rw [← aR];exact E)
    refine Zs b fun _ aT=>?_;refine Za rfl<|Zt aT fun a b=>?_;refine Q6<|Xq<|X6<|X6 ?_;refine Xq<|Xq<|X6<|X6 ?_;refine Xq<|X6<|X4 b (Xt b rfl rfl) ?_;exact ⟨by rw [J],h⟩
   have aB:=E
   have b5:(ctN d.ns (e:Int) (j:Int)==1)=true:=by rw [← aR];have h8:=E;simpa using h8
   refine Q7<|Xa<|aH _ _<|Zr b ?_;refine Zm rfl<|Ze (Xw rfl rfl (by omega) (by omega))<|Za rfl ?_;refine Zn fun a b=>?_;refine Xh ?_;exact ⟨j+1,⟨b.sb,(fun i hi=>by by_cases h9:i=j;rw [h9];exact b5;exact M i (by omega)),g,m,h⟩,(by omega)⟩
  have x:=o;have o:=Q1 o
  have b6:enQ d (e:Int)=true:=X3y fun i hi=>M i (by have:=o;omega)
  refine Q9<|Xk<|Xk<|X03 ?_;refine Xa<|aD _ _<|Zr b<|Zm rfl<|Ze (Xw rfl rfl (by omega) (by omega))<|Za rfl ?_;refine Zn fun a b=>?_;refine Xh ?_;exact ⟨e+1,⟨b.sb,(by omega),(fun i h1 h2=>by by_cases h9:i=e;rw [h9];exact b6;exact H i h1 (by omega)),g,m,h⟩,(by omega)⟩
 have B:=A;have A:=Q1 A
 have J:endQ d=true:=by unfold endQ;rw [show enQ d 1=true from H 1 (by omega) (by have:=A;omega),show enQ d 2=true from H 2 (by omega) (by have:=A;omega)];rfl
 refine Q9<|Xk<|Xk<|X03 ?_;refine aY _ _<|Zs b fun _ aU=>?_;refine Za rfl<|Zt aU fun a b=>?_
 refine Q6 (X4 b (Xt b rfl rfl) ?_)
 exact ⟨by rw [J],h⟩
theorem Xos(w0:World)(d:Dg)(md:Nat)(J:md=d.ns.length)(Ad:Option Addr)(cd:Nat)(a8:Rd w0 w0.heap.size 81 encNd Ad d.ns)(Bd:Option Addr)(dd:Nat)(L:Rd w0 w0.heap.size 83 encWr Bd d.ws)(G:d.ws.length≤dd)(bK:d.ws.length≤1000000000)(b8:∀ x ∈ d.ws,-1000000≤x.b∧x.b≤1000000) : Ret Tryz.prog 54 [.agg #[vi d.n,.slice Ad md cd,.slice Bd d.ws.length dd,vi d.t,vi d.r]] w0 (fun v w=>v=.bool (goodD d)∧Below w0.heap.size w0 w):=by
 refine enter Tryz.func54 rfl 80 rfl rfl ?_;intro a f
 have y:=bz w0
 refine Zs f fun _ b9=>?_;refine Zf (X0c (zs:=[vi d.n,.slice Ad md cd,.slice Bd d.ws.length dd,vi d.t,vi d.r]) rfl rfl) ?_;rintro _ w1 ⟨b4,rfl,bA,I,m⟩;have bH:=Q0 y.size bA;have y:=btr y I;refine Za rfl<|ZX b9 fun a f _ bB=>?_;refine Q5 fun _ bC=>?_;refine X0a (fun a w=>Fr a 80 [(1,.pointer (some ⟨b4,0,none⟩)),(27,.bool ((((!(inR d.n 1 5))||(decide (40<(md:Int))))||(!(inR d.t 0 7)))||(!(inR d.r (-60) 60))))]∧w1=w) ?_ ?_
 ·refine Zr f<|Ze (Vd rfl X2b 0)<|Ze (X0 rfl X9 (m.at 0))<|Zf (Vc (F85 _ d.n 1 5) X3r) ?_;rintro _ _ ⟨rfl,rfl⟩;refine Ze (X0y rfl)<|Zm rfl ?_
  refine Zg 10 rfl (fun o=>?_) (fun o=>?_)
  ·refine Zp (gP o) ?_;refine Zp (gP o) ?_;refine Zp (gP o) ?_;refine Zp (gP o) ?_;refine Ze (X7 rfl o rfl)<|Zm rfl<|Zp (gP rfl) ?_;refine Zp (gP rfl) ?_;refine Zp (gP rfl) ?_;refine Zp (gP rfl) ?_;refine Ze (X7 rfl rfl rfl)<|Zm rfl<|Zp (gP rfl) ?_;refine Zp (gP rfl) ?_;refine Zp (gP rfl) ?_;refine Zp (gP rfl) ?_;refine Ze (X7 rfl rfl rfl) ?_;refine Zn fun a f=>?_;exact ⟨f.sub ⟨rfl,X1 rfl (by first|rfl|(simp only [o,bs];done)|simp [o]),trivial⟩,rfl⟩
  refine Zv (gW o) (Vd rfl Xj 1) ?_;refine Zv (gW o) (X0 rfl X00 (m.at 1)) ?_;refine Zv (gW o) (X0d rfl Xs) ?_;refine Zv (gW o) (X6o rfl rfl) ?_;refine Ze (Xe rfl o rfl)<|Zm rfl ?_
  refine Zg 16 rfl (fun A=>?_) (fun A=>?_)
  ·refine Zp (gP A) ?_;refine Zp (gP A) ?_;refine Zp (gP A) ?_;refine Zp (gP A) ?_;refine Ze (X7 rfl A rfl)<|Zm rfl<|Zp (gP rfl) ?_;refine Zp (gP rfl) ?_;refine Zp (gP rfl) ?_;refine Zp (gP rfl) ?_;refine Ze (X7 rfl rfl rfl) ?_;refine Zn fun a f=>?_;exact ⟨f.sub ⟨rfl,X1 rfl (by first|rfl|(simp only [o,A,bs];done)|simp [o,A]),trivial⟩,rfl⟩
  refine Zv (gW A) (Vd rfl X0t 3) ?_;refine Zv (gW A) (X0 rfl X9 (m.at 3)) ?_;refine Zk (gW A) (Vc (F85 _ d.t 0 7) X3r) ?_;rintro _ _ ⟨rfl,rfl⟩;refine Zv (gW A) (X0y rfl) ?_;refine Ze (Xe rfl A rfl)<|Zm rfl ?_
  refine Zg 22 rfl (fun B=>?_) (fun B=>?_)
  ·refine Zp (gP B) ?_;refine Zp (gP B) ?_;refine Zp (gP B) ?_;refine Zp (gP B) ?_;refine Ze (X7 rfl B rfl) ?_;refine Zn fun a f=>?_;exact ⟨f.sub ⟨rfl,X1 rfl (by first|rfl|(simp only [o,A,B,bs];done)|simp [o,A,B]),trivial⟩,rfl⟩
  refine Zv (gW B) (Vd rfl X02 4) ?_;refine Zv (gW B) (X0 rfl X9 (m.at 4)) ?_;refine Zk (gW B) (Vc (F85 _ d.r (-60) 60) X3r) ?_;rintro _ _ ⟨rfl,rfl⟩;refine Zv (gW B) (X0y rfl) ?_;refine Ze (Xe rfl B rfl) ?_;refine Zn fun a f=>?_;exact ⟨f.sub ⟨rfl,X1 rfl (by first|rfl|(simp only [o,A,B,bs];done)|simp [o,A,B]),trivial⟩,rfl⟩
 rintro a _ ⟨f,rfl⟩;refine bC _ _ ?_
 refine Xg f rfl (fun M=>?_) (fun M=>?_)
 ·have p:=M
  have H:goodD d=false:=Xv8 (by rw [← J];exact M)
  refine Zs f fun _ aM=>?_;refine Za rfl<|Zt aM fun a f=>?_;refine Q6<|X6<|X4 f (Xt f rfl rfl) ?_;exact ⟨by rw [H],y⟩
 have p:=M
 obtain ⟨bD,bL,bM,bE⟩:=Xhj (d:=d) (by rw [← J];exact M)
 refine Q7<|bB _ _<|Q5 fun _ aN=>?_;refine Zs f fun _ aO=>?_;refine Ze (Vd rfl Xr 2)<|Ze (X0 rfl X0j (m.at 2))<|Ze (X0d rfl Xx)<|Zm rfl<|Zt aO fun a f=>?_;refine Q8<|X01 (σ:=Nat) (fun (k:Nat) (a:Act) (w:World)=>Fr a 80 [(1,.pointer (some ⟨b4,0,none⟩)),(29,.slice Bd d.ws.length dd),(30,vi (d.ws.length:Int)),(31,vi (k:Int))]∧(k≤d.ws.length)∧(∀ i:Nat,i<k→wrQ d i=true)∧Blk w b4 39 [vi d.n,.slice Ad md cd,.slice Bd d.ws.length dd,vi d.t,vi d.r]∧d.ws.length≤dd∧Below w0.heap.size w0 w) (fun (k:Nat)=>d.ws.length-k) 0 ?_ ?_
 ·exact ⟨f.sb,(Qf _),(fun i hi=>by omega),m,G,y⟩
 rintro k a w2 ⟨f,hk,aA,m,G,y⟩;refine Zs f fun _ aP=>?_;refine Ze (X0l rfl rfl)<|ZX aP fun a f _ aQ=>?_
 refine Xg f rfl (fun C=>?_) (fun C=>?_)
 ·have q:=C;have C:=Q2 C
  obtain ⟨bN,bJ⟩:=X5 (l:=d.ws) (k:=k) (by omega)
  obtain ⟨W,a7⟩:=X5 (l:=d.ws) (k:=k) (by have:=C;omega)
  have bO:=b8 W (Qe a7);have bF:=(Qg.1 a7).1;have aD:=Xjb a7
  rw [← J] at aD
  refine Q7<|aQ _ _<|Q5 fun _ aR=>?_;refine Q8<|Zs f fun _ aS=>?_;refine Zm rfl<|Zi (k:=k) (u:=W) (enc:=encWr) (l:=d.ws) trivial rfl rfl Xx X0e Xy (L.below' y) a7 rfl ?_;intro bP aE;refine Ze (X04 (l:=[vi W.a,vi W.b,.bool W.h]) rfl X1i aE rfl)<|Zf (Xu (zs:=[vi 0,vi 0,.bool false]) X2y rfl) ?_;rintro _ w3 ⟨bR,rfl,aB,I,D⟩;have aF:=Q0 y.size aB;have aT:=(L.below' y).away aB;have m:=m.below I;have y:=btr y I;refine Za rfl<|Zo (Vw [vi W.a,vi W.b,.bool W.h] X0e D) ?_;rintro _ w4 ⟨ho,hb⟩;have aU:=D;have m:=m.only ho (Blk.ne m aU rfl);have y:=Below.only y ho aF;have D:=hb;refine ZX aS fun a f _ aW=>?_;refine X0a (fun a w=>Fr a 80 [(1,.pointer (some ⟨b4,0,none⟩)),(29,.slice Bd d.ws.length dd),(30,vi (d.ws.length:Int)),(31,vi (k:Int)),(65,.bool (!(inR W.a 0 (W.b-1))||decide ((md:Int)≤W.b)||(decide (0<(k:Int))&&!(wlt (d.ws.getD (k-1) wZ) W))))]∧Below w4.heap.size w4 w) ?_ ?_
  ·have N:Below w4.heap.size w4 w4:=Below.refl _ _
   refine X05 none (fun _=>false) mixed ?_;intro w5 I;have m:=m.below I;have D:=D.below I;have y:=btr y I;have N:=btr N I;refine Yb f<|Yo 0 rfl (fun _=>Vd rfl X0q 0)<|Ye 1 rfl (X0 rfl X9 (D.at 0))<|Yo 2 rfl (fun _=>Vd rfl X0u 1)<|Ye 3 rfl (X0 rfl X9 (D.at 1))<|Yo 4 rfl (fun _=>X1g rfl rfl (by omega) (by omega))<|Y1 5 ?_;refine Yz rfl trivial (Vc (F85 _ W.a 0 (W.b-1)) X3r) ?_;refine Yo 6 rfl (fun _=>X0y rfl)<|Yo 7 rfl (fun _=>X3 rfl) ?_
   refine Yl 43 rfl (fun e=>?_) (fun e=>?_)
   ·refine Yp 8 rfl (gP e) ?_;refine Yp 9 rfl (gP e) ?_;refine Yp 10 rfl (gP e) ?_;refine Yp 11 rfl (gP e) ?_;refine Yp 12 rfl (gP e) ?_;refine Yp 13 rfl (gP e) ?_;refine Yo 14 rfl (fun _=>X7 rfl e rfl)<|Yo 15 rfl (fun _=>X3 rfl)<|Yp 16 rfl (gP rfl) ?_;refine Yp 17 rfl (gP rfl) ?_;refine Yp 18 rfl (gP rfl) ?_;refine Yp 19 rfl (gP trivial) ?_;refine Yp 20 rfl (gP trivial) ?_;refine Yp 21 rfl (gP trivial) ?_;refine Yp 22 rfl (gP trivial) ?_;refine Yp 23 rfl (gP trivial) ?_;refine Yp 24 rfl (gP trivial) ?_;refine Yp 25 rfl (gP trivial) ?_;refine Y1 26<|Yq rfl ⟨_,_,rfl,rfl,trivial⟩ ?_;refine Yp 27 rfl (gP trivial) ?_;refine Yp 28 rfl (gP rfl) ?_;refine Yo 29 rfl (fun _=>X7 rfl rfl rfl) ?_;refine Yd fun a f=>?_
    have a6:Below w4.heap.size w4 w5:=N
    exact ⟨f.sub ⟨rfl,rfl,rfl,rfl,X1 rfl (by first|rfl|(simp only [p,q,e,bs];done)|simp [p,q,e]),trivial⟩,a6⟩
   refine Yu 8 rfl (gW e) (fun _=>Vd rfl X0u 1) ?_;refine Yv 9 rfl (gW e) (X0 rfl X9 (D.at 1)) ?_;refine Yu 10 rfl (gW e) (fun _=>Vd rfl Xj 1) ?_;refine Yv 11 rfl (gW e) (X0 rfl X00 (m.at 1)) ?_;refine Yu 12 rfl (gW e) (fun _=>X0d rfl Xs) ?_;refine Yu 13 rfl (gW e) (fun _=>X4g rfl rfl) ?_;refine Yo 14 rfl (fun _=>Xe rfl e rfl)<|Yo 15 rfl (fun _=>X3 rfl) ?_
   refine Yl 51 rfl (fun g=>?_) (fun g=>?_)
   ·refine Yp 16 rfl (gP g) ?_;refine Yp 17 rfl (gP g) ?_;refine Yp 18 rfl (gP g) ?_;refine Yp 19 rfl (gP trivial) ?_;refine Yp 20 rfl (gP trivial) ?_;refine Yp 21 rfl (gP trivial) ?_;refine Yp 22 rfl (gP trivial) ?_;refine Yp 23 rfl (gP trivial) ?_;refine Yp 24 rfl (gP trivial) ?_;refine Yp 25 rfl (gP trivial) ?_;refine Y1 26<|Yq rfl ⟨_,_,rfl,rfl,trivial⟩ ?_;refine Yp 27 rfl (gP trivial) ?_;refine Yp 28 rfl (gP g) ?_;refine Yo 29 rfl (fun _=>X7 rfl g rfl) ?_;refine Yd fun a f=>?_
    have a6:Below w4.heap.size w4 w5:=N
    exact ⟨f.sub ⟨rfl,rfl,rfl,rfl,X1 rfl (by first|rfl|(simp only [p,q,e,g,bs];done)|simp [p,q,e,g]),trivial⟩,a6⟩
   refine Yu 16 rfl (gW g) (fun _=>X3 rfl) ?_;refine Yu 17 rfl (gW g) (fun _=>X6o rfl rfl) ?_;refine Yu 18 rfl (gW g) (fun _=>X3 rfl) ?_
   refine Yl 54 rfl (fun c=>?_) (fun c=>?_)
   ·have bS:0<k:=by have h8:=c;simpa using h8
    refine Yu 19 rfl (gW c) (fun _=>Vd rfl Xr 2) ?_;refine Yv 20 rfl (gW c) (X0 rfl X0j (m.at 2)) ?_;refine Yu 21 rfl (gW c) (fun _=>X3 rfl) ?_;refine Yu 22 rfl (gW c) (fun _=>X1g rfl rfl (by omega) (by omega)) ?_;refine Yi (k:=(k-1)) (u:=(d.ws.getD (k-1) wZ)) (enc:=encWr) (l:=d.ws) 23 rfl ⟨_,_,rfl,rfl,c⟩ rfl rfl Xx X0e Xy (L.below' y) (Xb (by omega)) (by omega) ?_;intro bT aG;refine Yv 24 rfl (gW c) (X04 (l:=[vi ((d.ws.getD (k-1) wZ).a),vi ((d.ws.getD (k-1) wZ).b),.bool ((d.ws.getD (k-1) wZ).h)]) rfl X1i aG rfl) ?_;refine Yv 25 rfl (gW c) (Vn X1i D) ?_;refine Y1 26<|Yk rfl ⟨_,_,rfl,rfl,c⟩ (Vc (Xpj _ (d.ws.getD (k-1) wZ) W) Xfc) (fun _ _ ⟨_,I⟩=>I) ?_;rintro _ w6 ⟨rfl,I⟩;have y:=btr y I;have N:=btr N I;refine Yu 27 rfl (gW c) (fun _=>X0y rfl) ?_;refine Yu 28 rfl (gW g) (fun _=>X7 rfl c rfl) ?_;refine Yo 29 rfl (fun _=>Xe rfl g rfl) ?_;refine Yd fun a f=>?_
    have a6:Below w4.heap.size w4 w6:=N
    exact ⟨f.sub ⟨rfl,rfl,rfl,rfl,X1 rfl (by first|rfl|(simp only [p,q,e,g,c,bs];done)|simp [p,q,e,g,c]),trivial⟩,a6⟩
   refine Yp 19 rfl (gP c) ?_;refine Yp 20 rfl (gP c) ?_;refine Yp 21 rfl (gP c) ?_;refine Yp 22 rfl (gP c) ?_;refine Yp 23 rfl (gP c) ?_;refine Yp 24 rfl (gP c) ?_;refine Yp 25 rfl (gP c) ?_;refine Y1 26<|Yq rfl ⟨_,_,rfl,rfl,c⟩ ?_;refine Yp 27 rfl (gP c) ?_;refine Yu 28 rfl (gW g) (fun _=>Xe rfl c rfl) ?_;refine Yo 29 rfl (fun _=>Xe rfl g rfl) ?_;refine Yd fun a f=>?_
   have a6:Below w4.heap.size w4 w5:=N
   exact ⟨f.sub ⟨rfl,rfl,rfl,rfl,X1 rfl (by first|rfl|(simp only [p,q,e,g,c,bs];done)|simp [p,q,e,g,c]),trivial⟩,a6⟩
  rintro a w7 ⟨f,I⟩;have m:=m.below I;have y:=btr y I;refine aW _ _ ?_
  refine Xg f rfl (fun Q=>?_) (fun Q=>?_)
  ·have aH:=Q
   have H:goodD d=false:=Xrf bF (by rw [aD,Q];rfl)
   refine Zs f fun _ aX=>?_;refine Za rfl<|Zt aX fun a f=>?_;refine Q6<|Xq<|X6<|X6 ?_;refine Xq<|X6<|X4 f (Xt f rfl rfl) ?_;exact ⟨by rw [H],y⟩
  have aH:=Q
  have aI:wrQ d k=true:=by rw [aD,Q];rfl
  refine Q7<|Xa<|aR _ _<|Zr f ?_;refine Ze (Xw rfl rfl (by omega) (by omega))<|Zm rfl ?_;refine Zn fun a f=>?_;refine Xh ?_;exact ⟨k+1,⟨f.sb,(by omega),(fun i hi=>by by_cases h9:i=k;rw [h9];exact aI;exact aA i (by omega)),m,G,y⟩,(by omega)⟩
 have q:=C;have C:=Q1 C
 have aJ:∀ i,i<d.ws.length→wrQ d i=true:=fun i hi=>aA i (by have:=C;omega)
 refine Q9<|Xk<|Xk<|X03 ?_;refine aN _ _<|Q5 fun _ aY=>?_;refine Zs f fun _ aZ=>?_;refine Ze (Vd rfl Xj 1)<|Ze (X0 rfl X00 (m.at 1))<|Ze (X0d rfl Xs)<|Zm rfl<|Zt aZ fun a f=>?_;refine Q8<|X01 (σ:=Nat) (fun (j:Nat) (a:Act) (w:World)=>Fr a 80 [(1,.pointer (some ⟨b4,0,none⟩)),(69,vi (md:Int)),(70,vi (j:Int))]∧(j≤d.ns.length)∧(∀ i:Nat,i<j→ndQ d (i:Int)=true)∧Blk w b4 39 [vi d.n,.slice Ad md cd,.slice Bd d.ws.length dd,vi d.t,vi d.r]∧d.ws.length≤dd∧Below w0.heap.size w0 w) (fun (j:Nat)=>d.ns.length-j) 0 ?_ ?_
 ·exact ⟨f.sb,(Qf _),(fun i hi=>by omega),m,G,y⟩
 rintro j a w8 ⟨f,hj,aC,m,G,y⟩;refine Zs f fun _ b0=>?_;refine Ze (X0l rfl rfl)<|ZX b0 fun a f _ b1=>?_
 refine Xg f rfl (fun E=>?_) (fun E=>?_)
 ·have aK:=E;have E:=Q2 E
  have bG:j<d.ns.length:=by have:=E;omega
  refine Q7<|b1 _ _<|Q5 fun _ b2=>?_;refine Q8<|Zs f fun _ b3=>?_;refine Zm rfl<|Za rfl<|Zx b3 fun a f _ b5=>?_;refine Ze (Vn X2 m)<|Zm rfl<|Zf (Vc (Xw3 _ d md J Ad cd (a8.below' y).top Bd dd (L.below' y).top G (j:Int) ⟨by omega,by omega⟩ (by omega) ⟨by omega,by omega⟩) Xlo) ?_;rintro _ w9 ⟨rfl,I⟩;have m:=m.below I;have y:=btr y I;refine Ze (X0y rfl)<|Zt b5 fun a f=>?_
  refine Xg f rfl (fun U=>?_) (fun U=>?_)
  ·have aL:=U
   have H:goodD d=false:=Xse bG (by have h8:=U;simpa using h8)
   refine Zs f fun _ b6=>?_;refine Za rfl<|Zt b6 fun a f=>?_;refine Q6<|Xq<|X6<|X6 ?_;refine Xq<|X6<|X4 f (Xt f rfl rfl) ?_;exact ⟨by rw [H],y⟩
  have aL:=U
  have aI:ndQ d (j:Int)=true:=by have h8:=U;simpa using h8
  refine Q7<|Xa<|b2 _ _<|Zr f ?_;refine Ze (Xw rfl rfl (by omega) (by omega))<|Zm rfl ?_;refine Zn fun a f=>?_;refine Xh ?_;exact ⟨j+1,⟨f.sb,(by omega),(fun i hi=>by by_cases h9:i=j;rw [h9];exact aI;exact aC i (by omega)),m,G,y⟩,(by omega)⟩
 have aK:=E;have E:=Q1 E
 have H:goodD d=endQ d:=Xq3 bD aJ fun i hi=>aC i (by have:=E;omega)
 refine Q9<|Xk<|Xk<|X03 ?_;refine aY _ _<|Zs f fun _ b7=>?_;refine Ze (Vn X2 m)<|Zf (Vc (Xsk _ d md J Ad cd (a8.below' y).top Bd dd (L.below' y).top G (by omega) ⟨by omega,by omega⟩) Xkc) ?_;rintro _ bU ⟨rfl,I⟩;have y:=btr y I;refine Za rfl<|Zt b7 fun a f=>?_
 refine Q6 (X4 f (Xt f rfl rfl) ?_)
 exact ⟨by rw [H],y⟩
def RgW(N:Nat)(ws:List Wr) : Prop:=∀ x ∈ ws,(0≤x.a∧x.a<N)∧(0≤x.b∧x.b<N)
def spN(ns:List Nd) : Nat:=(ns.filter fun x=>x.k==3).length
theorem X95{N:Nat}{ws:List Wr}{a b:Int}{h:Bool}(hw:RgW N ws)(ha:0≤a∧a<N)(hb:0≤b∧b<N) : RgW N (jnW ws a b h):=fun x hx=>by
 rcases X8d.1 hx with rfl|hx
 ·dsimp only;omega
 ·exact hw x hx
theorem Xfa{N:Nat}{ws:List Wr}(hw:RgW N ws)(i:Nat) : RgW N (ctW ws i):=fun x hx=>hw x ((X41 ws i).subset hx)
theorem Xuo{N:Nat}{ws:List Wr}(hw:RgW N ws)(k:Int) : RgW N (dpW ws k):=fun x hx=>hw x (List.mem_filter.1 hx).1
theorem X7d:∀ (ns:List Nd) (k:Nat) (x:Nd),k<ns.length→spN (ns.set k x)+(if (ns.getD k nZ).k=3 then 1 else 0)=spN ns+(if x.k=3 then 1 else 0)
 | [],_,_,h=>by simp at h
 | y::ns,0,x,_=>by
  unfold spN
  simp only [List.set_cons_zero,List.filter_cons,List.getD_cons_zero,beq_iff_eq]
  split<;>split<;>simp
 | y::ns,k+1,x,h=>by
  have ih:=X7d ns k x (by simpa using h)
  unfold spN at ih ⊢
  simp only [List.set_cons_succ,List.filter_cons,List.getD_cons_succ,beq_iff_eq]
  split<;>(try simp only [Qs])<;>omega
theorem Xhq(ns:List Nd)(x m:Int) : spN (adN ns x m)=spN ns:=by
 by_cases h:x.toNat<ns.length
 ·have h1:=X7d ns x.toNat { ns.getD x.toNat nZ with p:=((ns.getD x.toNat nZ).p+m) % 8 } h
  unfold adN
  dsimp only at h1 ⊢
  omega
 ·unfold adN
  rw [List.set_eq_of_length_le (by omega)]
theorem Xq5{ns:List Nd}(k:Int) : spN (dpN ns k)≤spN ns:=by
 by_cases h:k.toNat<ns.length
 ·have h1:=X7d ns k.toNat nZ h
  have h2:(if nZ.k=3 then 1 else 0:Nat)=0:=rfl
  rw [h2] at h1
  unfold dpN
  omega
 ·unfold dpN
  rw [List.set_eq_of_length_le (by omega)]
  exact Qb _
theorem Xe4{ns:List Nd}{k:Int}(hs:spI ns k=true) : spN (dpN ns k)<spN ns:=by
 obtain ⟨_,h,h3⟩:=X19 hs;have h1:=X7d ns k.toNat nZ h
 have h2:(if nZ.k=3 then 1 else 0:Nat)=0:=rfl
 rw [h2,Q4 h3] at h1
 unfold dpN
 omega
structure Nx (N s c:Nat) (d:Dg) : Prop where
 l:d.ns.length=N
 w:RgW N d.ws
 c:d.ws.length≤c
 s:spN d.ns≤s
theorem Nx.mono{N s c s' c':Nat}{d:Dg}(h:Nx N s c d)(hs:s≤s')(hc:c≤c') : Nx N s' c' d:=⟨h.l,h.w,Q0 h.c hc,Q0 h.s hs⟩
theorem Nx.jn{N s c:Nat}{d:Dg}(h:Nx N s c d){a b:Int}{x:Bool}(ha:0≤a∧a<N)(hb:0≤b∧b<N) : Nx N s (c+1) { d with ws:=jnW d.ws a b x }:=
 ⟨h.l,X95 h.w ha hb,by have:=h.c;dsimp only;rw [X4p];omega,h.s⟩
theorem Nx.ad{N s c:Nat}{d:Dg}(h:Nx N s c d)(x m:Int) : Nx N s c { d with ns:=adN d.ns x m }:=⟨(X21 _ _ _).trans h.l,h.w,h.c,by dsimp only;rw [Xhq];exact h.s⟩
theorem Nx.dp{N s c:Nat}{d:Dg}(h:Nx N s c d)(k:Int) : Nx N s c (id0 d k):=⟨(X1v _ _).trans h.l,Xuo h.w k,Q0 (X2f _ _) h.c,Q0 (Xq5 k) h.s⟩
theorem Nx.lk{N s c:Nat}{d:Dg}(h:Nx N s c d){a b:Int}{x:Bool}(ha:0≤a∧a<N)(hb:0≤b∧b<N) : Nx N s (c+1) (lkD d a b x):=by
 have h1:=Xis d a b x
 refine ⟨h1.1.trans h.l,?_,Q0 h1.2 (Nat.succ_le_succ h.c),?_⟩
 ·unfold lkD
  split
  ·exact X95 h.w ha hb
  ·split
   ·exact Xfa h.w _
   ·split
    ·exact X95 (Xfa h.w _) ha hb
    ·exact h.w
 ·unfold lkD
  split
  ·exact h.s
  ·split
   ·exact h.s
   ·split
    ·dsimp only;rw [Xhq];exact h.s
    ·exact h.s
theorem Nx.mt{N s c:Nat}{d:Dg}(h:Nx N s c d){a b:Int}{x:Bool}(ha:0≤a∧a<N)(hb:0≤b∧b<N) : Nx N s (c+1) (mtD d a b x):=by
 unfold mtD
 split
 ·exact h.lk ha hb
 ·exact h.jn ha hb
theorem Nx.tg{N s c:Nat}{d:Dg}(h:Nx N s c d){a b:Int}(ha:0≤a∧a<N)(hb:0≤b∧b<N) : Nx N s (c+1) (tgD d a b):=by
 have h1:=X2z d a b
 refine ⟨by rw [h1.1];exact h.l,?_,Q0 h1.2 (Nat.succ_le_succ h.c),by rw [h1.1];exact h.s⟩
 unfold tgD
 split
 ·exact Xfa h.w _
 ·exact X95 h.w ha hb
theorem Nx.tgl{N s:Nat}{x:Int}(hx:0≤x∧x<N) : ∀ (l:List Int) (c:Nat) (d:Dg),Nx N s c d→(∀ y ∈ l,0≤y∧y<(N:Int))→Nx N s (c+l.length) (tgL d x l)
 | [],c,d,h,_=>h
 | y::l,c,d,h,hl=>by
  have h1:=Nx.tgl hx l (c+1) (tgD d x y) (h.tg hx (hl y (by simp))) fun z hz=>hl z (by simp [hz])
  exact h1.mono (Qb _) (by rw [Qs];omega)
theorem X6e{l:List Int}{N:Nat}(hl:∀ y ∈ l,0≤y∧y<(N:Int)){i:Nat}(hi:i<l.length) : 0≤l.getD i 0∧l.getD i 0<(N:Int):=hl _ (Qe (Xb (d:=0) hi))
theorem Nx.lc{N s c:Nat}{p:Int}{l:List Int}{o:Dg}(h:Nx N s c o)(hl:∀ y ∈ l,0≤y∧y<(N:Int)) : ∀ i,i≤l.length→Nx N s (c+i*l.length) (lcS p l o i)
 | 0,_=>h.mono (Qb _) (by omega)
 | i+1,hi=>by
  have ih:=Nx.lc (p:=p) h hl i (by omega)
  have h1:=Nx.tgl (X6e hl (i:=i) (by omega)) (l.take i) _ _ (ih.ad (l.getD i 0) (8-p)) fun y hy=>hl y (Wd hy)
  refine h1.mono (Qb _) ?_
  rw [Qn,Wb,Nat.one_mul]
  omega
theorem Nx.fu{N s:Nat}{d:Dg}{a b:Int}(ha:0≤a∧a<N) : ∀ (l:List Int) (c:Nat) (o:Dg),Nx N s c o→(∀ y ∈ l,0≤y∧y<(N:Int))→Nx N s (c+l.length) (fuS d a b l o)
 | [],c,o,h,_=>h
 | y::l,c,o,h,hl=>by
  have h0:Nx N s (c+1) (fuT d a b o y):=by
   unfold fuT
   split
   ·exact h.mono (Qb _) (by omega)
   ·exact h.mt ha (hl y (by simp))
  exact (Nx.fu ha l (c+1) (fuT d a b o y) h0 fun z hz=>hl z (by simp [hz])).mono (Qb _) (by rw [Qs];omega)
theorem Nx.st{N s c:Nat}{d:Dg}(h:Nx N s c d)(q:Bool)(x m:Int) : Nx N s c (stN q d x m):=by
 unfold stN
 split
 ·exact h.ad x m
 ·exact h
theorem Nx.pf{N s:Nat}{l m:List Int}{x:Int}(hx:0≤x∧x<N) : ∀ (r:List Int) (c:Nat) (o:Dg),Nx N s c o→(∀ y ∈ r,0≤y∧y<(N:Int))→Nx N s (c+r.length) (pvF l m x r o)
 | [],c,o,h,_=>h
 | y::r,c,o,h,hl=>by
  have h0:Nx N s (c+1) (pvT l m x o y):=by
   unfold pvT
   split
   ·exact h.tg hx (hl y (by simp))
   ·exact h.mono (Qb _) (by omega)
  exact (Nx.pf hx r (c+1) (pvT l m x o y) h0 fun z hz=>hl z (by simp [hz])).mono (Qb _) (by rw [Qs];omega)
theorem Nx.pm{N s c:Nat}{e f:Int}{l m r:List Int}{o:Dg}(h:Nx N s c o)(hl:∀ y ∈ r,0≤y∧y<(N:Int)) : ∀ i,i≤r.length→Nx N s (c+i*r.length) (pvM e f l m r o i)
 | 0,_=>h.mono (Qb _) (by omega)
 | i+1,hi=>by
  have ih:=Nx.pm (e:=e) (f:=f) (l:=l) (m:=m) h hl i (by omega)
  have hg:=X6e hl (i:=i) (by omega)
  have h1:=Nx.pf (l:=l) (m:=m) hg (r.take i) _ _ (((ih.st (l.any fun v=>v==r.getD i 0) (r.getD i 0) f).st (m.any fun v=>v==r.getD i 0) (r.getD i 0) e).st ((l.any fun v=>v==r.getD i 0)&&(m.any fun v=>v==r.getD i 0)) (r.getD i 0) 4) fun y hy=>hl y (Wd hy)
  refine h1.mono (Qb _) ?_
  rw [Qn,Wb,Nat.one_mul]
  omega
theorem InD.rg{d:Dg}(h:InD d) : RgW d.ns.length d.ws:=fun x hx=>by
 have e:=h.e x hx
 have l:=h.w.l x hx
 omega
theorem InD.nx{d:Dg}(h:InD d) : Nx d.ns.length (spN d.ns) 1000001 d:=⟨rfl,h.rg,h.len,Qb _⟩
theorem nx0{d:Dg}(h:InD d){k:Int}(hs:spI d.ns k=true) : Nx d.ns.length (spN d.ns-1) 1000001 (id0 d k):=by
 have h1:=h.nx.dp k
 have h2:spN (dpN d.ns k)<spN d.ns:=Xe4 hs
 exact ⟨h1.l,h1.w,h1.c,by show spN (dpN d.ns k)≤_;omega⟩
theorem X6f{ns:List Nd}{k:Int}(hs:spI ns k=true) : 0<spN ns:=by
 have:=Xe4 hs
 omega
theorem X7q{d:Dg}(h:InD d)(k:Int) : ∀ y ∈ nearW d.ws k,0≤y∧y<(d.ns.length:Int):=fun y hy=>by have:=X34 h hy;omega
theorem Xp0{a n:Nat}(h:a≤2000)(h2:n≤2000) : a*n≤4000000:=Q0 (Nat.mul_le_mul h h2) (by decide)
theorem Xr4{N s c:Nat}{d:Dg}(h:Nx N s c d)(t r:Int) : Nx N s c { d with t:=t,r:=r }:=⟨h.l,h.w,h.c,h.s⟩
theorem Xj6{d:Dg}(h:InD d){r:Rz}(hc:doC d r=true) : Nx d.ns.length (spN d.ns-1) 9000000 (doD d r)∧0<spN d.ns:=by
 unfold doC at hc
 unfold doD
 split at hc
 ·rename_i h1
  rw [Q4 h1]
  have hs:=Xbx hc
  unfold fuC at hc
  simp only [Qd] at hc
  refine ⟨?_,X6f hc.1.1.2⟩
  have h0:=(nx0 h hc.1.1.2).ad r.a (d.ns.getD r.b.toNat nZ).p;exact (Nx.fu (d:=d) (a:=r.a) (b:=r.b) ⟨hs.1.1,by omega⟩ (nearW d.ws r.b) _ _ h0 (X7q h r.b)).mono (Qb _) (by have:=X3e h r.b;have:=h.m;omega)
 rename_i h1
 rw [Q3 h1]
 split at hc
 ·rename_i h2
  rw [Q4 h2]
  unfold pvC at hc
  simp only [Qd] at hc
  have hsa:=hc.1.1.1.1.1.1.1.1
  refine ⟨?_,X6f hsa⟩
  have h0:=(nx0 h hsa).dp r.b;have h3:=Xaj h r.a r.b;have h4:=h.m
  unfold pvD
  refine Xr4 ?_ _ _
  refine (Nx.pm h0 ?_ _ (Qb _)).mono (Qb _) (by have:=Xp0 (a:=(pvL d r.a r.b).length) (n:=(pvL d r.a r.b).length) (by omega) (by omega);omega)
  intro y hy;obtain ⟨i,hi⟩:=List.mem_iff_getElem?.1 hy
  have:=X9x h hi
  omega
 rename_i h2
 rw [Q3 h2]
 split at hc
 ·cases hc
 split at hc
 ·rename_i h3
  rw [Q4 h3]
  unfold idC at hc
  simp only [Qd,beq_iff_eq] at hc
  refine ⟨?_,X6f hc.1.1⟩
  have g0:=X6e (X7q h r.a) (i:=0) (by omega)
  have g1:=X6e (X7q h r.a) (i:=1) (by omega)
  exact ((nx0 h hc.1.1).mt g0 g1).mono (Qb _) (by omega)
 rename_i h3
 rw [Q3 h3]
 split at hc
 ·rename_i h4
  rw [Q4 h4]
  unfold lcC at hc
  simp only [Qd] at hc
  have hsa:=hc.1.1.1
  refine ⟨?_,X6f hsa⟩
  have h5:=X3e h r.a;have h6:=h.m
  unfold lcD
  refine Xr4 ?_ _ _
  exact (Nx.lc (nx0 h hsa) (X7q h r.a) _ (Qb _)).mono (Qb _) (by have:=Xp0 (a:=(nearW d.ws r.a).length) (n:=(nearW d.ws r.a).length) (by omega) (by omega);omega)
 rename_i h4
 rw [Q3 h4]
 split at hc
 ·unfold loC at hc
  simp only [Qd] at hc
  refine ⟨?_,X6f hc.1.1⟩
  exact (Xr4 (nx0 h hc.1.1) d.t _).mono (Qb _) (by omega)
 ·cases hc
def zD:Dg:=⟨0,[],[],0,0⟩
def outD(d:Dg) : Dg:={ d with t:=d.t.tmod 8 }
def apC(d:Dg)(r:Rz) : Bool:=doC d r&&goodD (outD (doD d r))
def apD(d:Dg)(r:Rz) : Dg:=outD (doD d r)
theorem X9c:∀ (l:List Wr),(∀ i,i+1<l.length→wlt (l.getD i wZ) (l.getD (i+1) wZ)=true)→WSd l
 | [],_=>List.Pairwise.nil
 | [x],_=>by simp
 | x::y::l,h=>by
  have h0:=h 0 (by simp)
  have ih:=X9c (y::l) fun i hi=>by
   have:=h (i+1) (by simpa using hi)
   simpa using this
  have h2:=W8.1 ih
  refine W8.2 ⟨fun z hz=>?_,ih⟩
  rcases Qv.1 hz with rfl|hz
  ·simpa using h0
  ·exact Xcv (by simpa using h0) (h2.1 z hz)
theorem X2n{d:Dg}(h:goodD d=true) : hdQ d=true∧(∀ i,i<d.ws.length→wrQ d i=true)∧(∀ i:Nat,i<d.ns.length→ndQ d (i:Int)=true)∧endQ d=true:=by
 unfold goodD at h
 simp only [Qd,W1,W2] at h
 exact ⟨h.1.1.1,h.1.1.2,h.1.2,h.2⟩
theorem X6m{d:Dg}(h:goodD d=true) : (1≤d.n∧d.n≤5)∧d.ns.length≤40∧(0≤d.t∧d.t≤7)∧-60≤d.r∧d.r≤60:=by
 have h1:=(X2n h).1
 unfold hdQ at h1
 exact (Xhj (by simpa using h1)).2
theorem Xao{d:Dg}(h:goodD d=true){i:Nat}{x:Nd}(hx:d.ns[i]? = some x) : (0≤x.k∧x.k≤3)∧(0≤x.p∧x.p≤7):=by
 have h1:=(X2n h).2.2.1 i (Qg.1 hx).1;have h2:=X6m h
 have hg:d.ns.getD ((i:Int)).toNat nZ=x:=by rw [Qj,Qa,hx];rfl
 unfold ndQ at h1
 rw [hg] at h1
 split at h1
 ·rename_i hk
  simp only [Qd,beq_iff_eq] at h1 hk
  omega
 split at h1
 ·rename_i hk
  simp only [Qd,Bool.or_eq_true,beq_iff_eq,X0f] at h1 hk
  omega
 ·simp only [Qd,beq_iff_eq,X0f] at h1
  omega
theorem X7j{d:Dg}(h:goodD d=true){i:Nat}{x:Wr}(hx:d.ws[i]? = some x) : 0≤x.a∧x.a<x.b∧x.b<d.ns.length∧(0<i→wlt (d.ws.getD (i-1) wZ) x=true):=by
 have h1:=(X2n h).2.1 i (Qg.1 hx).1
 rw [Xjb hx] at h1
 simp only [Bool.not_eq_true',Bool.or_eq_false_iff,Bool.not_eq_false',X0f,decide_eq_false_iff_not,Bool.and_eq_false_iff] at h1
 refine ⟨by omega,by omega,by omega,fun h0=>?_⟩
 rcases h1.2 with h3|h3
 ·omega
 ·exact h3
theorem X1e{d:Dg}(h:goodD d=true) : InD d:=by
 refine ⟨⟨X9c _ fun i hi=>?_,fun x hx=>?_⟩,fun x hx=>?_,fun x hx=>?_,by have:=X6m h;omega⟩
 ·have:=(X7j h (Xb (d:=wZ) hi)).2.2.2 (by omega)
  simpa using this
 ·obtain ⟨i,hi⟩:=List.mem_iff_getElem?.1 hx;exact (X7j h hi).2.1
 ·obtain ⟨i,hi⟩:=List.mem_iff_getElem?.1 hx
  have:=X7j h hi
  omega
 ·obtain ⟨i,hi⟩:=List.mem_iff_getElem?.1 hx;exact (Xao h hi).2
theorem X8z{d:Dg}{r:Rz}(h:apC d r=true) : goodD (apD d r)=true:=by
 unfold apC at h
 simp only [Qd] at h
 exact h.2
theorem Xei{d:Dg}(hd:InD d){r:Rz}(h:apC d r=true) : spN (apD d r).ns<spN d.ns:=by
 unfold apC at h
 simp only [Qd] at h
 have h1:=Xj6 hd h.1;have h2:=h1.1.s
 show spN (doD d r).ns<_
 omega
theorem Xp2{d:Dg}{r:Rz}(h1:doC d r=false) : apC d r=false:=by unfold apC;rw [h1];rfl
theorem Xti{N:Nat}{ws:List Wr}(h:RgW N ws)(hN:N≤1000) : ∀ x ∈ ws,-1000000≤x.b∧x.b≤1000000:=fun x hx=>by have:=h x hx;omega
def alR(d:Dg)(u:Int)(a j:Nat) : List Rz:=((List.range j).map fun (b:Nat)=>(⟨u,a,b⟩ : Rz)).filter (apC d)
def alS(d:Dg)(u:Int)(k:Nat) : List Rz:=(List.range k).flatMap fun a=>alR d u a d.ns.length
def alL(d:Dg)(u:Int) : List Rz:=alS d u d.ns.length
theorem Xsj{d:Dg}{u:Int}{a j:Nat}(h:apC d ⟨u,a,j⟩=true) : alR d u a (j+1)=alR d u a j++[⟨u,a,j⟩]:=by
 unfold alR
 rw [List.range_succ,List.map_append,List.filter_append]
 simp [h]
theorem Xss{d:Dg}{u:Int}{a j:Nat}(h:apC d ⟨u,a,j⟩=false) : alR d u a (j+1)=alR d u a j:=by
 unfold alR
 rw [List.range_succ,List.map_append,List.filter_append]
 simp [h]
theorem Xim(d:Dg)(u:Int)(k:Nat) : alS d u (k+1)=alS d u k++alR d u k d.ns.length:=by
 unfold alS
 rw [List.range_succ,List.flatMap_append]
 simp
theorem Xfh(d:Dg)(u:Int)(a j:Nat) : (alR d u a j).length≤j:=by
 unfold alR
 exact Q0 (List.length_filter_le _ _) (by simp)
theorem Xan(d:Dg)(u:Int) : ∀ k,(alS d u k).length≤k*d.ns.length
 | 0=>by simp [alS]
 | k+1=>by
  rw [Xim,Qh,Wb,Nat.one_mul]
  have h1:=Xan d u k;have h2:=Xfh d u k d.ns.length
  omega
theorem Xky{d:Dg}{u:Int}{a j:Nat}{r:Rz}(h:r ∈ alR d u a j) : apC d r=true:=(List.mem_filter.1 h).2
theorem Xmv{d:Dg}{u:Int}{r:Rz}(h:r ∈ alL d u) : apC d r=true:=by
 unfold alL alS at h
 obtain ⟨a,_,h⟩:=List.mem_flatMap.1 h;exact Xky h
def fsF(d:Dg) : List Int→Option Rz
 | []=>none
 | u::l=>match alL d u with
  | r::_=>some r
  | []=>fsF d l
def rZ:Rz:=⟨0,0,0⟩
theorem Xd3{d:Dg} : ∀ (l m:List Int),fsF d l=none→fsF d (l++m)=fsF d m
 | [],_,_=>rfl
 | u::l,m,h=>by
  have e:∀ q,fsF d (u::q)=match alL d u with
   | r::_=>some r
   | []=>fsF d q:=fun _=>rfl
  rw [e] at h
  rw [Wa,e]
  cases ha:alL d u with
  | nil=>
   rw [ha] at h
   exact Xd3 l m h
  | cons r t=>rw [ha] at h;cases h
theorem Xoa{d:Dg}{l:List Int}{k:Nat}{u:Int}(h:fsF d (l.take k)=none)(hu:l[k]? = some u)(ha:alL d u=[]) : fsF d (l.take (k+1))=none:=by
 rw [Qt,hu,Option.toList_some,Xd3 _ _ h]
 unfold fsF
 rw [ha]
 rfl
theorem Xiw{d:Dg}{l:List Int}{k:Nat}{u:Int}(h:fsF d (l.take k)=none)(hu:l[k]? = some u)(ha:0<(alL d u).length) : fsF d l=some ((alL d u).getD 0 rZ):=by
 have hl:l=l.take k++(u::l.drop (k+1)):=by
  obtain ⟨hk,e⟩:=Qg.1 hu
  rw [← e,← Qy hk,W9]
 rw [hl,Xd3 _ _ h]
 unfold fsF
 cases hc:alL d u with
 | nil=>rw [hc] at ha;simp at ha
 | cons r t=>rfl
theorem Xji{d:Dg}{l:List Int}{k:Nat}(h:fsF d (l.take k)=none)(hk:l.length≤k) : fsF d l=none:=by rwa [Qi hk] at h
theorem X6x{d:Dg}{r:Rz} : ∀ {l:List Int},fsF d l=some r→apC d r=true
 | [],h=>by cases h
 | u::l,h=>by
  unfold fsF at h
  cases ha:alL d u with
  | nil=>rw [ha] at h;exact X6x h
  | cons x t=>
   rw [ha] at h
   injection h with h
   subst h
   exact Xmv (u:=u) (by rw [ha];simp)
def siF:Nat→Dg→List Int→Dg×List Rz
 | 0,d,_=>(d,[])
 | n+1,d,l=>match fsF d l with
  | none=>(d,[])
  | some r=>((siF n (apD d r) l).1,r::(siF n (apD d r) l).2)
def siD(d:Dg)(l:List Int) : Dg:=(siF (spN d.ns) d l).1
def siL(d:Dg)(l:List Int) : List Rz:=(siF (spN d.ns) d l).2
theorem Xdb{l:List Int} : ∀ (n:Nat) (d:Dg),InD d→spN d.ns≤n→siF n d l=siF (spN d.ns) d l
 | 0,d,_,h=>by rw [show spN d.ns=0 by omega]
 | n+1,d,hd,h=>by
  cases hf:fsF d l with
  | none=>
   have h1:siF (n+1) d l=(d,[]):=by unfold siF;rw [hf]
   rw [h1]
   cases hs:spN d.ns with
   | zero=>rfl
   | succ m=>unfold siF;rw [hf]
  | some r=>
   have hc:=X6x hf;have hlt:=Xei hd hc
   obtain ⟨m,hm⟩ : ∃ m,spN d.ns=m+1:=⟨spN d.ns-1,by omega⟩
   rw [hm]
   have e1:=Xdb (l:=l) n (apD d r) (X1e (X8z hc)) (by omega)
   have e2:=Xdb (l:=l) m (apD d r) (X1e (X8z hc)) (by omega)
   unfold siF
   rw [hf]
   dsimp only
   rw [e1,e2]
theorem Xfj{d:Dg}{l:List Int}{r:Rz}(hd:InD d)(hf:fsF d l=some r) : siD d l=siD (apD d r) l∧siL d l=r::siL (apD d r) l:=by
 have hc:=X6x hf;have hlt:=Xei hd hc
 obtain ⟨m,hm⟩ : ∃ m,spN d.ns=m+1:=⟨spN d.ns-1,by omega⟩
 have e2:=Xdb (l:=l) m (apD d r) (X1e (X8z hc)) (by omega)
 have e3:siF (m+1) d l=((siF m (apD d r) l).1,r::(siF m (apD d r) l).2):=by rw [siF,hf]
 unfold siD siL
 rw [hm,e3,e2]
 exact ⟨rfl,rfl⟩
theorem Xh2{d:Dg}{l:List Int}(hf:fsF d l=none) : siD d l=d∧siL d l=[]:=by
 unfold siD siL
 cases hs:spN d.ns with
 | zero=>exact ⟨rfl,rfl⟩
 | succ m=>unfold siF;rw [hf];exact ⟨rfl,rfl⟩
def spK(ns:List Nd)(k:Nat) : List Int:=((List.range k).filter fun i=>(ns.getD i nZ).k==3).map fun (i:Nat)=>(i:Int)
def spL(ns:List Nd) : List Int:=spK ns ns.length
theorem Xov{ns:List Nd}{k:Nat}{x:Nd}(hx:ns[k]? = some x)(h:(x.k==3)=true) : spK ns (k+1)=spK ns k++[(k:Int)]:=by
 have e:ns.getD k nZ=x:=by rw [Qa,hx];rfl
 unfold spK
 rw [List.range_succ,List.filter_append]
 simp only [List.filter_cons,e,h,List.filter_nil,if_true,List.map_append,List.map_cons,List.map_nil]
theorem Xo3{ns:List Nd}{k:Nat}{x:Nd}(hx:ns[k]? = some x)(h:(x.k==3)=false) : spK ns (k+1)=spK ns k:=by
 have e:ns.getD k nZ=x:=by rw [Qa,hx];rfl
 unfold spK
 rw [List.range_succ,List.filter_append]
 simp only [List.filter_cons,e,h,List.filter_nil,List.append_nil,Bool.false_eq_true,if_false]
theorem X7b(ns:List Nd)(k:Nat) : (spK ns k).length≤k:=by
 unfold spK
 rw [Qo]
 exact Q0 (List.length_filter_le _ _) (by simp)
theorem Xje(ns:List Nd) : spN ns≤ns.length:=List.length_filter_le _ _
def plQ(d:Dg)(u:Wr) : Bool:=!(u.h||((d.ns.getD u.a.toNat nZ).k+(d.ns.getD u.b.toNat nZ).k != 3)||((d.ns.getD u.a.toNat nZ).p != (d.ns.getD u.b.toNat nZ).p))
def plD(d:Dg) : Bool:=d.ws.all (plQ d)&&((spL d.ns).length:Int)==0
theorem Xbc{l:List Int} : ∀ (n:Nat) (d:Dg),goodD d=true→goodD (siF n d l).1=true
 | 0,d,h=>h
 | n+1,d,h=>by
  unfold siF
  cases hf:fsF d l with
  | none=>exact h
  | some r=>exact Xbc n _ (X8z (X6x hf))
theorem X7h{d:Dg}(l:List Int)(h:goodD d=true) : goodD (siD d l)=true:=Xbc _ d h
theorem Xt4(k:World)(d:Dg)(md:Nat)(m:md=d.ns.length)(Ad:Option Addr)(cd:Nat)(o:Rd k k.heap.size 81 encNd Ad d.ns)(Bd:Option Addr)(dd:Nat)(p:Rd k k.heap.size 83 encWr Bd d.ws)(q:d.ws.length≤dd)(aD:d.ws.length≤1000000000)(aE:∀ x ∈ d.ws,-1000000≤x.b∧x.b≤1000000) : Ret Tryz.prog 80 [.agg #[vi d.n,.slice Ad md cd,.slice Bd d.ws.length dd,vi d.t,vi d.r]] k (fun v w=>∃ A c1 B e,v=.tuple #[.agg #[vi (if (goodD (outD d))=true then outD d else zD).n,.slice A (if (goodD (outD d))=true then outD d else zD).ns.length c1,.slice B (if (goodD (outD d))=true then outD d else zD).ws.length e,vi (if (goodD (outD d))=true then outD d else zD).t,vi (if (goodD (outD d))=true then outD d else zD).r],.bool (goodD (outD d))]∧Rd w w.heap.size 81 encNd A (if (goodD (outD d))=true then outD d else zD).ns∧Rd w w.heap.size 83 encWr B (if (goodD (outD d))=true then outD d else zD).ws∧(if (goodD (outD d))=true then outD d else zD).ws.length≤e∧Below k.heap.size k w):=by
 refine enter Tryz.func80 rfl 13 rfl rfl ?_;intro a j
 have g:=bz k
 refine Zs j fun _ aF=>?_;refine Zf (X0c (zs:=[vi d.n,.slice Ad md cd,.slice Bd d.ws.length dd,vi d.t,vi d.r]) rfl rfl) ?_;rintro _ w1 ⟨b4,rfl,aG,u,f⟩;have a7:=Q0 g.size aG;have g:=btr g u;refine Zf (Xu (zs:=[vi 0,.slice none 0 0,.slice none 0 0,vi 0,vi 0]) X0s rfl) ?_;rintro _ w2 ⟨b7,rfl,aH,u,c⟩
 have aC:b4≠b7:=by have:=f.lt;omega
 have y:=Q0 g.size aH;have f:=f.below u;have g:=btr g u;refine Za rfl<|Zx aF fun a j _ aI=>?_;refine Ze (Vd rfl X0t 3)<|Ze (X0 rfl X9 (f.at 3))<|Ze (X4v rfl rfl rfl)<|Ze (Vd rfl X0t 3)<|Zo (Vu (vs:=[vi (d.t.tmod 8)]) (l':=[vi d.n,.slice Ad md cd,.slice Bd d.ws.length dd,vi (d.t.tmod 8),vi d.r]) rfl rfl X08 f) ?_;rintro _ w3 ⟨ho,hb⟩;have h:=f;have c:=c.only ho (by omega);have g:=Below.only g ho a7;have f:=hb;refine ZX aI fun a j _ aJ=>?_;refine Zs j fun _ a8=>?_;refine Ze (Vn X2 f)<|Zf (Vc (Xos _ (⟨d.n,d.ns,d.ws,d.t.tmod 8,d.r⟩ : Dg) md m Ad cd (o.below' g).top Bd dd (p.below' g).top q aD aE) Xe2) ?_;rintro _ w4 ⟨rfl,u⟩;have f:=f.below u;have c:=c.below u;have g:=btr g u;refine Ze (X0y rfl)<|Zt a8 fun a j=>?_
 refine Xg j rfl (fun i=>?_) (fun i=>?_)
 ·have a6:=i
  have aK:goodD (outD d)=false:=by have h8:(!goodD (outD d))=true:=i;simpa using h8
  refine Zs j fun _ aA=>?_;refine Ze (X0w (ps:=[]) (cs:=[vi 0,.slice none 0 0,.slice none 0 0,vi 0,vi 0]) rfl (fun _=>by first|rfl|kernel_rfl))<|Zo (Vw [vi 0,.slice none 0 0,.slice none 0 0,vi 0,vi 0] Xp c) ?_;rintro _ w5 ⟨ho,hb⟩;have h:=c;have g:=Below.only g ho y;have c:=hb;refine Za rfl<|Zt aA fun a j=>?_;refine Q6<|X6<|X4 j (X17 j rfl (ResV.cellN (l:=[vi 0,.slice none 0 0,.slice none 0 0,vi 0,vi 0]) rfl X2 (c.at 0) rfl) rfl) ?_
  rw [aK,Q3 Bool.false_ne_true]
  exact ⟨none,0,none,0,rfl,(Rd.nil _ _ _ _ _),(Rd.nil _ _ _ _ _),(Qf _),g⟩
 have a6:=i
 have aL:goodD (outD d)=true:=by have h8:(!goodD (outD d))=false:=i;simpa using h8
 refine Q7<|aJ _ _<|Zs j fun _ aB=>?_;refine Ze (Vn X2 f)<|Zo (Vw [vi d.n,.slice Ad md cd,.slice Bd d.ws.length dd,vi (d.t.tmod 8),vi d.r] Xp c) ?_;rintro _ w6 ⟨ho,hb⟩;have h:=c;have g:=Below.only g ho y;have c:=hb;refine Za rfl<|Zt aB fun a j=>?_
 refine Q6 (X4 j (X17 j rfl (ResV.cellN (l:=[vi d.n,.slice Ad md cd,.slice Bd d.ws.length dd,vi (d.t.tmod 8),vi d.r]) rfl X2 (c.at 0) rfl) rfl) ?_)
 rw [aL,Q4 rfl]
 subst m
 exact ⟨Ad,cd,Bd,dd,rfl,(o.below' g).top,(p.below' g).top,q,g⟩
theorem Xp3(U:World)(d:Dg)(md:Nat)(aC:md=d.ns.length)(Ad:Option Addr)(cd:Nat)(aD:Rd U U.heap.size 81 encNd Ad d.ns)(Bd:Option Addr)(dd:Nat)(aE:Rd U U.heap.size 83 encWr Bd d.ws)(aF:d.ws.length≤dd)(x:Rz)(hD:InD d) : Ret Tryz.prog 68 [.agg #[vi d.n,.slice Ad md cd,.slice Bd d.ws.length dd,vi d.t,vi d.r],.agg #[vi x.u,vi x.a,vi x.b]] U (fun v w=>∃ A c1 B e,v=.tuple #[.agg #[vi (if (apC d x)=true then apD d x else zD).n,.slice A (if (apC d x)=true then apD d x else zD).ns.length c1,.slice B (if (apC d x)=true then apD d x else zD).ws.length e,vi (if (apC d x)=true then apD d x else zD).t,vi (if (apC d x)=true then apD d x else zD).r],.bool (apC d x)]∧Rd w w.heap.size 81 encNd A (if (apC d x)=true then apD d x else zD).ns∧Rd w w.heap.size 83 encWr B (if (apC d x)=true then apD d x else zD).ws∧(if (apC d x)=true then apD d x else zD).ws.length≤e∧Below U.heap.size U w):=by
 refine enter Tryz.func68 rfl 21 rfl rfl ?_;intro a y
 have g:=bz U
 refine Zs y fun _ aS=>?_;refine Zf (X0c (zs:=[vi d.n,.slice Ad md cd,.slice Bd d.ws.length dd,vi d.t,vi d.r]) rfl rfl) ?_;rintro _ w1 ⟨b4,rfl,aT,i,k⟩;have aZ:=Q0 g.size aT;have g:=btr g i;refine Zf (X0c (zs:=[vi x.u,vi x.a,vi x.b]) rfl rfl) ?_;rintro _ w2 ⟨b5,rfl,aU,i,a6⟩;have b0:=Q0 g.size aU;have k:=k.below i;have g:=btr g i;refine Zf (Xu (zs:=[vi 0,.slice none 0 0,.slice none 0 0,vi 0,vi 0]) X0s rfl) ?_;rintro _ w3 ⟨b8,rfl,aW,i,f⟩
 have aR:b4≠b8:=by have:=k.lt;omega
 have W:=Q0 g.size aW;have k:=k.below i;have a6:=a6.below i;have g:=btr g i;refine Za rfl<|Zx aS fun a y _ aX=>?_;refine Ze (Vn X2 k)<|Ze (Vn X1y a6)<|Zf (Vc (Xw0 _ d md aC Ad cd (aD.below' g).top Bd dd (aE.below' g).top aF x hD) Xmt) ?_;rintro _ w4 ⟨L,M,N,Q,rfl,o,p,aG,aH,i⟩;have k:=k.below i;have f:=f.below i;have g:=btr g i;refine Zm rfl<|Ze (Xn (vs:=[.agg #[vi ((if (doC d x)=true then doD d x else d).n),.slice L md M,.slice N ((if (doC d x)=true then doD d x else d).ws).length Q,vi ((if (doC d x)=true then doD d x else d).t),vi ((if (doC d x)=true then doD d x else d).r)],.bool (doC d x)]) rfl rfl)<|Ze (Xn (vs:=[.agg #[vi ((if (doC d x)=true then doD d x else d).n),.slice L md M,.slice N ((if (doC d x)=true then doD d x else d).ws).length Q,vi ((if (doC d x)=true then doD d x else d).t),vi ((if (doC d x)=true then doD d x else d).r)],.bool (doC d x)]) rfl rfl)<|Zf (Xu (zs:=[vi 0,.slice none 0 0,.slice none 0 0,vi 0,vi 0]) X0s rfl) ?_;rintro _ w5 ⟨b14,rfl,aI,i,h⟩
 have aJ:b4≠b14:=by have:=k.lt;omega
 have aK:b8≠b14:=by have:=f.lt;omega
 have a7:=Q0 g.size aI;have f:=f.below i;have o:=o.below i;have p:=p.below i;have g:=btr g i;refine Zo (Vw [vi ((if (doC d x)=true then doD d x else d).n),.slice L md M,.slice N ((if (doC d x)=true then doD d x else d).ws).length Q,vi ((if (doC d x)=true then doD d x else d).t),vi ((if (doC d x)=true then doD d x else d).r)] Xp h) ?_;rintro _ w6 ⟨J,hb⟩;have j:=h;have f:=f.only J (by omega);have o:=o.onlyT J j rfl;have p:=p.onlyT J j rfl;have g:=Below.only g J a7;have h:=hb;refine Za rfl<|ZX aX fun a y _ aL=>?_;refine Zs y fun _ aM=>?_;refine Zm rfl<|Ze (X0y rfl)<|Zt aM fun a y=>?_
 refine Xg y rfl (fun q=>?_) (fun q=>?_)
 ·have a8:=q
  have aY:apC d x=false:=Xp2 (by have h8:=q;simpa using h8)
  refine Zs y fun _ aN=>?_;refine Ze (X0w (ps:=[]) (cs:=[vi 0,.slice none 0 0,.slice none 0 0,vi 0,vi 0]) rfl (fun _=>by first|rfl|kernel_rfl))<|Zo (Vw [vi 0,.slice none 0 0,.slice none 0 0,vi 0,vi 0] Xp f) ?_;rintro _ w7 ⟨J,hb⟩;have j:=f;have g:=Below.only g J W;have f:=hb;refine Za rfl<|Zt aN fun a y=>?_;refine Q6<|X6<|X4 y (X17 y rfl (ResV.cellN (l:=[vi 0,.slice none 0 0,.slice none 0 0,vi 0,vi 0]) rfl X2 (f.at 0) rfl) rfl) ?_
  rw [aY,Q3 Bool.false_ne_true]
  exact ⟨none,0,none,0,rfl,(Rd.nil _ _ _ _ _),(Rd.nil _ _ _ _ _),(Qf _),g⟩
 have a8:=q
 have aA:doC d x=true:=by have h8:=q;simpa using h8
 have aO:=Xj6 hD aA
 have aB:(if doC d x=true then doD d x else d)=doD d x:=Q4 aA
 refine Q7<|aL _ _<|Zs y fun _ aP=>?_;refine Ze (Vn X2 h)<|Zf (Vc (Xt4 _ (if (doC d x)=true then doD d x else d) md aH L M o.top N Q p.top aG (by rw [aB];exact Q0 aO.1.c (by decide)) (by rw [aB];exact Xti aO.1.w hD.m)) Xmd) ?_;rintro _ w8 ⟨C,D,E,G,rfl,H,I,aQ,i⟩;have f:=f.below i;have g:=btr g i;refine Ze (Xn (vs:=[.agg #[vi ((if (goodD (outD (if (doC d x)=true then doD d x else d)))=true then outD (if (doC d x)=true then doD d x else d) else zD).n),.slice C ((if (goodD (outD (if (doC d x)=true then doD d x else d)))=true then outD (if (doC d x)=true then doD d x else d) else zD).ns).length D,.slice E ((if (goodD (outD (if (doC d x)=true then doD d x else d)))=true then outD (if (doC d x)=true then doD d x else d) else zD).ws).length G,vi ((if (goodD (outD (if (doC d x)=true then doD d x else d)))=true then outD (if (doC d x)=true then doD d x else d) else zD).t),vi ((if (goodD (outD (if (doC d x)=true then doD d x else d)))=true then outD (if (doC d x)=true then doD d x else d) else zD).r)],.bool (goodD (outD (if (doC d x)=true then doD d x else d)))]) rfl rfl)<|Ze (Xn (vs:=[.agg #[vi ((if (goodD (outD (if (doC d x)=true then doD d x else d)))=true then outD (if (doC d x)=true then doD d x else d) else zD).n),.slice C ((if (goodD (outD (if (doC d x)=true then doD d x else d)))=true then outD (if (doC d x)=true then doD d x else d) else zD).ns).length D,.slice E ((if (goodD (outD (if (doC d x)=true then doD d x else d)))=true then outD (if (doC d x)=true then doD d x else d) else zD).ws).length G,vi ((if (goodD (outD (if (doC d x)=true then doD d x else d)))=true then outD (if (doC d x)=true then doD d x else d) else zD).t),vi ((if (goodD (outD (if (doC d x)=true then doD d x else d)))=true then outD (if (doC d x)=true then doD d x else d) else zD).r)],.bool (goodD (outD (if (doC d x)=true then doD d x else d)))]) rfl rfl)<|Zo (Vw [vi ((if (goodD (outD (if (doC d x)=true then doD d x else d)))=true then outD (if (doC d x)=true then doD d x else d) else zD).n),.slice C ((if (goodD (outD (if (doC d x)=true then doD d x else d)))=true then outD (if (doC d x)=true then doD d x else d) else zD).ns).length D,.slice E ((if (goodD (outD (if (doC d x)=true then doD d x else d)))=true then outD (if (doC d x)=true then doD d x else d) else zD).ws).length G,vi ((if (goodD (outD (if (doC d x)=true then doD d x else d)))=true then outD (if (doC d x)=true then doD d x else d) else zD).t),vi ((if (goodD (outD (if (doC d x)=true then doD d x else d)))=true then outD (if (doC d x)=true then doD d x else d) else zD).r)] Xp f) ?_;rintro _ w9 ⟨J,hb⟩
 have j:=f;have H:=H.onlyT J j rfl;have I:=I.onlyT J j rfl;have g:=Below.only g J W;have f:=hb;refine Za rfl<|Zt aP fun a y=>?_
 refine Q6 (X4 y (X17 y rfl (ResV.cellN (l:=[vi ((if (goodD (outD (if (doC d x)=true then doD d x else d)))=true then outD (if (doC d x)=true then doD d x else d) else zD).n),.slice C ((if (goodD (outD (if (doC d x)=true then doD d x else d)))=true then outD (if (doC d x)=true then doD d x else d) else zD).ns).length D,.slice E ((if (goodD (outD (if (doC d x)=true then doD d x else d)))=true then outD (if (doC d x)=true then doD d x else d) else zD).ws).length G,vi ((if (goodD (outD (if (doC d x)=true then doD d x else d)))=true then outD (if (doC d x)=true then doD d x else d) else zD).t),vi ((if (goodD (outD (if (doC d x)=true then doD d x else d)))=true then outD (if (doC d x)=true then doD d x else d) else zD).r)]) rfl X2 (f.at 0) rfl) rfl) ?_)
 rw [show apC d x=goodD (outD (doD d x)) from by unfold apC;rw [aA,Qw]]
 rw [aB] at *
 exact ⟨C,D,E,G,rfl,H.top,I.top,aQ,g⟩
theorem Xve(j:World)(d:Dg)(md:Nat)(aD:md=d.ns.length)(Ad:Option Addr)(cd:Nat)(D:Rd j j.heap.size 81 encNd Ad d.ns)(Bd:Option Addr)(dd:Nat)(aZ:Rd j j.heap.size 83 encWr Bd d.ws)(o:d.ws.length≤dd)(hN:md≤1000) : Ret Tryz.prog 55 [.agg #[vi d.n,.slice Ad md cd,.slice Bd d.ws.length dd,vi d.t,vi d.r]] j (fun v w=>∃ A c,v=.slice A (spL d.ns).length c∧Own w j.heap.size 3 1 encI A c (spL d.ns)∧Below j.heap.size j w):=by
 refine enter Tryz.func55 rfl 23 rfl rfl ?_;intro a f
 have g:=bz j
 refine Zs f fun _ aO=>?_;refine Zf (X0c (zs:=[vi d.n,.slice Ad md cd,.slice Bd d.ws.length dd,vi d.t,vi d.r]) rfl rfl) ?_;rintro _ w1 ⟨b4,rfl,aP,hE,aQ⟩;have b0:=Q0 g.size aP;have g:=btr g hE;refine Za rfl<|Zx aO fun a f _ aR=>?_;refine Za rfl<|ZX aR fun a f _ aS=>?_;refine Zs f fun _ aT=>?_;refine Ze (Vd rfl Xj 1)<|Ze (X0 rfl X00 (aQ.at 1))<|Ze (X0d rfl Xs)<|Zm rfl<|Zt aT fun a f=>?_;refine Q8<|X01 (σ:=Nat×(List Int)) (fun (s:Nat×(List Int)) (a:Act) (w:World)=>match s with|(k,m)=>∃ y h,Fr a 23 [(3,.slice y m.length h),(7,.slice Ad md cd),(8,vi (md:Int)),(9,vi (k:Int))]∧(k≤d.ns.length)∧(m=spK d.ns k)∧Own w j.heap.size 3 1 encI y h m∧d.ws.length≤dd∧Below j.heap.size j w) (fun (s:Nat×(List Int))=>match s with|(k,m)=>d.ns.length-k) (0,[]) ?_ ?_
 ·exact ⟨none,0,f.sb,(Qf _),rfl,(Own.nil _ _ _ _ _),o,g⟩
 rintro ⟨k,m⟩ a w2 ⟨y,h,f,hk,hm,b,o,g⟩;have aU:=X7b d.ns k
 rw [← hm] at aU
 refine Zs f fun _ aE=>?_;refine Ze (X0l rfl rfl)<|ZX aE fun a f _ aF=>?_
 refine Xg f rfl (fun e=>?_) (fun e=>?_)
 ·have a6:=e;have e:=Q2 e
  obtain ⟨u9,a7⟩:=X5 (l:=d.ns) (k:=k) (by have:=e;omega)
  refine Q7<|aF _ _<|Q5 fun _ E=>?_;refine Q8<|Zs f fun _ aG=>?_;refine Zm rfl<|Zj (k:=k) (u:=u9) (enc:=encNd) (l:=d.ns) trivial rfl aD rfl Xs X07 Xv (D.below' g) a7 (by omega) ?_;intro b1 a8;refine Ze (X04 (l:=[vi u9.k,vi u9.p]) rfl X2s a8 rfl)<|Zf (Xu (zs:=[vi 0,vi 0]) X6w rfl) ?_;rintro _ w3 ⟨b2,rfl,G,hE,q⟩;have aA:=Q0 g.size G;have aH:=(D.below' g).away G;have b:=b.below hE;have g:=btr g hE;refine Za rfl<|Zo (Vw [vi u9.k,vi u9.p] X07 q) ?_;rintro _ w4 ⟨ho,hb⟩;have aI:=q;have b:=b.onlyT ho aI rfl;have g:=Below.only g ho aA;have q:=hb;refine Zx aG fun a f _ aJ=>?_;refine Ze (Vd rfl X13 0)<|Ze (X0 rfl X9 (q.at 0))<|Ze (X0b rfl rfl)<|Zt aJ fun a f=>?_
  refine Xg f rfl (fun i=>?_) (fun i=>?_)
  ·have aB:=i;have B:=Xov a7 i
   rw [← hm] at B
   refine Zr f<|Zm rfl<|Zm rfl<|Zf (Xm (k:=1) (vs:=[vi (k:Int)]) (zs:=[vi (k:Int)]) rfl Xl X1q rfl rfl) ?_;rintro _ w5 ⟨b3,rfl,H,hE,C⟩;have aW:=Q0 g.size H;have x:=b.away H;have b:=b.below hE;have g:=btr g hE;refine Zf (X0m (enc:=encI) (l:=(m)) (l2:=([(k:Int)])) (B0:=j.heap.size) rfl rfl Xl X1q Xf X25 b (Rd.of_blk C rfl _ C.lt) (by simp only [maxLen];simp;omega) (by simp;omega) g.size) ?_;rintro _ w6 ⟨aX,aY,rfl,aK,hg,aL⟩
   have I:Own _ j.heap.size 3 1 encI _ _ (m):=b
   have aC:=aL _ C.lt x;clear aL;have g:=Below.app g I hg (Qb _) g.size;clear I hg;refine Za rfl ?_;refine Zn fun a f=>?_;refine Xa<|E _ _<|Zr f<|Ze (Xw rfl rfl (by omega) (by omega))<|Zm rfl ?_;refine Zn fun a f=>?_;refine Xh ?_;exact ⟨(k+1,m++([(k:Int)])),⟨aX,aY,f.sb,(by omega),(by rw [B]),aK,o,g⟩,(by first|omega|(dsimp only;omega))⟩
  have aB:=i;have B:=Xo3 a7 i
  rw [← hm] at B
  refine Q7<|Xa<|E _ _<|Zr f ?_;refine Ze (Xw rfl rfl (by omega) (by omega))<|Zm rfl ?_;refine Zn fun a f=>?_;refine Xh ?_;exact ⟨(k+1,m),⟨y,h,f.sb,(by omega),(by rw [B]),b,o,g⟩,(by first|omega|(dsimp only;omega))⟩
 have a6:=e;have e:=Q1 e
 have aM:m=spL d.ns:=by rw [hm,show k=d.ns.length by have:=e;omega];rfl
 refine Q9<|Xk<|Xk<|X03 ?_;refine aS _ _<|Zs f fun _ aN=>?_;refine Zm rfl<|Za rfl<|Zt aN fun a f=>?_
 refine Q6 (X4 f (Xt f rfl rfl) ?_)
 rw [← aM]
 exact ⟨y,h,rfl,b,g⟩
theorem Xvx(C:World)(d:Dg)(md:Nat)(aO:md=d.ns.length)(Ad:Option Addr)(cd:Nat)(aP:Rd C C.heap.size 81 encNd Ad d.ns)(Bd:Option Addr)(dd:Nat)(aQ:Rd C C.heap.size 83 encWr Bd d.ws)(y:d.ws.length≤dd)(x:Int)(hD:InD d) : Ret Tryz.prog 120 [.agg #[vi d.n,.slice Ad md cd,.slice Bd d.ws.length dd,vi d.t,vi d.r],vi x] C (fun v w=>∃ A c,v=.slice A (alL d x).length c∧Own w C.heap.size 58 3 encRz A c (alL d x)∧Below C.heap.size C w):=by
 have b9:=hD.m;refine enter Tryz.func120 rfl 41 rfl rfl ?_;intro a i
 have o:=bz C
 refine Zs i fun _ bA=>?_;refine Zf (X0c (zs:=[vi d.n,.slice Ad md cd,.slice Bd d.ws.length dd,vi d.t,vi d.r]) rfl rfl) ?_;rintro _ w1 ⟨b4,rfl,bB,h,e⟩;have bM:=Q0 o.size bB;have o:=btr o h;refine Za rfl<|Zx bA fun a i _ bC=>?_;refine Za rfl<|ZX bC fun a i _ bD=>?_;refine Zs i fun _ bE=>?_;refine Ze (Vd rfl Xj 1)<|Ze (X0 rfl X00 (e.at 1))<|Ze (X0d rfl Xs)<|Zm rfl<|Zt bE fun a i=>?_;refine Q8<|X01 (σ:=Nat×(List Rz)) (fun (s:Nat×(List Rz)) (a:Act) (w:World)=>match s with|(k,m)=>∃ H I,Fr a 41 [(1,vi x),(2,.pointer (some ⟨b4,0,none⟩)),(5,.slice H m.length I),(13,vi (md:Int)),(14,vi (k:Int))]∧(k≤d.ns.length)∧(m=alS d x k)∧Blk w b4 39 [vi d.n,.slice Ad md cd,.slice Bd d.ws.length dd,vi d.t,vi d.r]∧Own w C.heap.size 58 3 encRz H I m∧d.ws.length≤dd∧Below C.heap.size C w) (fun (s:Nat×(List Rz))=>match s with|(k,m)=>d.ns.length-k) (0,[]) ?_ ?_
 ·exact ⟨none,0,i.sb,(Qf _),rfl,e,(Own.nil _ _ _ _ _),y,o⟩
 rintro ⟨k,m⟩ a w2 ⟨H,I,i,hk,hm,e,U,y,o⟩;have bF:=Xan d x k
 rw [← hm] at bF
 have bR:k*d.ns.length≤1000*1000:=Nat.mul_le_mul (by omega) b9
 refine Zs i fun _ aR=>?_;refine Ze (X0l rfl rfl)<|ZX aR fun a i _ aS=>?_
 refine Xg i rfl (fun p=>?_) (fun p=>?_)
 ·have aA:=p;have p:=Q2 p
  have bS:k<d.ns.length:=by have:=p;omega
  refine Q7<|aS _ _<|Q5 fun _ aT=>?_;refine Q8<|Zs i fun _ aU=>?_;refine Zm rfl<|Za rfl<|Zx aU fun a i _ aW=>?_;refine Ze (Vd rfl Xj 1)<|Ze (X0 rfl X00 (e.at 1))<|Ze (X0d rfl Xs)<|Zm rfl<|Zt aW fun a i=>?_;refine Q8<|X01 (σ:=Nat×(List Rz)) (fun (s:Nat×(List Rz)) (a:Act) (w:World)=>match s with|(j,g)=>∃ J L,Fr a 41 [(1,vi x),(2,.pointer (some ⟨b4,0,none⟩)),(5,.slice J g.length L),(6,vi (k:Int)),(13,vi (md:Int)),(14,vi (k:Int)),(19,vi (md:Int)),(20,vi (j:Int))]∧(j≤d.ns.length)∧(g=m++alR d x k j)∧Blk w b4 39 [vi d.n,.slice Ad md cd,.slice Bd d.ws.length dd,vi d.t,vi d.r]∧Own w C.heap.size 58 3 encRz J L g∧d.ws.length≤dd∧Below C.heap.size C w) (fun (s:Nat×(List Rz))=>match s with|(j,g)=>d.ns.length-j) (0,m) ?_ ?_
  ·exact ⟨H,I,i.sb,(Qf _),(by simp [alR]),e,U,y,o⟩
  rintro ⟨j,g⟩ a w3 ⟨J,L,i,hj,W,e,b,y,o⟩;refine Zs i fun _ aX=>?_;refine Ze (X0l rfl rfl)<|ZX aX fun a i _ aY=>?_
  refine Xg i rfl (fun q=>?_) (fun q=>?_)
  ·have aB:=q;have q:=Q2 q
   have bT:j<d.ns.length:=by have:=q;omega
   have bU:g.length≤1000*1000+1000:=by rw [W,Qh];have:=Xfh d x k j;omega
   refine Q7<|aY _ _<|Q5 fun _ a6=>?_;refine Q8<|Zs i fun _ aZ=>?_;refine Zm rfl<|Za rfl<|Zx aZ fun a i _ b0=>?_;refine Zm rfl<|Zm rfl<|Zm rfl<|Ze (X0w (ps:=[(0,vi x),(1,vi (k:Int)),(2,vi (j:Int))]) (cs:=[vi x,vi (k:Int),vi (j:Int)]) rfl (fun _=>by first|rfl|kernel_rfl))<|Zf (Xu (zs:=[vi 0,vi 0,vi 0]) X6v rfl) ?_;rintro _ w4 ⟨bG,rfl,a7,h,f⟩;have aC:=Q0 o.size a7;have B:=b.away a7;have e:=e.below h;have b:=b.below h;have o:=btr o h;refine Zo (Vw [vi x,vi (k:Int),vi (j:Int)] X33 f) ?_;rintro _ w5 ⟨ho,hb⟩;have E:=f;have e:=e.only ho (Blk.ne e E rfl);have b:=b.onlyA ho B;have o:=Below.only o ho aC;have f:=hb;refine Zx b0 fun a i _ b1=>?_;refine Ze (Vn X2 e)<|Ze (Vn X1y f)<|Zf (Vc (Xp3 _ d md aO Ad cd (aP.below' o).top Bd dd (aQ.below' o).top y (⟨x,(k:Int),(j:Int)⟩ : Rz) hD) Xe9) ?_;rintro _ w6 ⟨aD,aE,aF,aG,rfl,bN,bO,bP,h⟩;have e:=e.below h;have f:=f.below h;have b:=b.below h;have o:=btr o h;refine Zm rfl<|Ze (Xn (vs:=[.agg #[vi ((if (apC d (⟨x,(k:Int),(j:Int)⟩ : Rz))=true then apD d (⟨x,(k:Int),(j:Int)⟩ : Rz) else zD).n),.slice aD ((if (apC d (⟨x,(k:Int),(j:Int)⟩ : Rz))=true then apD d (⟨x,(k:Int),(j:Int)⟩ : Rz) else zD).ns).length aE,.slice aF ((if (apC d (⟨x,(k:Int),(j:Int)⟩ : Rz))=true then apD d (⟨x,(k:Int),(j:Int)⟩ : Rz) else zD).ws).length aG,vi ((if (apC d (⟨x,(k:Int),(j:Int)⟩ : Rz))=true then apD d (⟨x,(k:Int),(j:Int)⟩ : Rz) else zD).t),vi ((if (apC d (⟨x,(k:Int),(j:Int)⟩ : Rz))=true then apD d (⟨x,(k:Int),(j:Int)⟩ : Rz) else zD).r)],.bool (apC d (⟨x,(k:Int),(j:Int)⟩ : Rz))]) rfl rfl)<|Ze (Xn (vs:=[.agg #[vi ((if (apC d (⟨x,(k:Int),(j:Int)⟩ : Rz))=true then apD d (⟨x,(k:Int),(j:Int)⟩ : Rz) else zD).n),.slice aD ((if (apC d (⟨x,(k:Int),(j:Int)⟩ : Rz))=true then apD d (⟨x,(k:Int),(j:Int)⟩ : Rz) else zD).ns).length aE,.slice aF ((if (apC d (⟨x,(k:Int),(j:Int)⟩ : Rz))=true then apD d (⟨x,(k:Int),(j:Int)⟩ : Rz) else zD).ws).length aG,vi ((if (apC d (⟨x,(k:Int),(j:Int)⟩ : Rz))=true then apD d (⟨x,(k:Int),(j:Int)⟩ : Rz) else zD).t),vi ((if (apC d (⟨x,(k:Int),(j:Int)⟩ : Rz))=true then apD d (⟨x,(k:Int),(j:Int)⟩ : Rz) else zD).r)],.bool (apC d (⟨x,(k:Int),(j:Int)⟩ : Rz))]) rfl rfl)<|Zf (Xu (zs:=[vi 0,.slice none 0 0,.slice none 0 0,vi 0,vi 0]) X0s rfl) ?_;rintro _ w7 ⟨b30,rfl,b2,h,M⟩
   have b3:b4≠b30:=by have:=e.lt;omega
   have aH:=Q0 o.size b2;have e:=e.below h;have f:=f.below h;have b:=b.below h;have o:=btr o h;refine Zo (Vw [vi ((if (apC d (⟨x,(k:Int),(j:Int)⟩ : Rz))=true then apD d (⟨x,(k:Int),(j:Int)⟩ : Rz) else zD).n),.slice aD ((if (apC d (⟨x,(k:Int),(j:Int)⟩ : Rz))=true then apD d (⟨x,(k:Int),(j:Int)⟩ : Rz) else zD).ns).length aE,.slice aF ((if (apC d (⟨x,(k:Int),(j:Int)⟩ : Rz))=true then apD d (⟨x,(k:Int),(j:Int)⟩ : Rz) else zD).ws).length aG,vi ((if (apC d (⟨x,(k:Int),(j:Int)⟩ : Rz))=true then apD d (⟨x,(k:Int),(j:Int)⟩ : Rz) else zD).t),vi ((if (apC d (⟨x,(k:Int),(j:Int)⟩ : Rz))=true then apD d (⟨x,(k:Int),(j:Int)⟩ : Rz) else zD).r)] Xp M) ?_;rintro _ w8 ⟨ho,hb⟩;have E:=M;have e:=e.only ho (by omega);have f:=f.only ho (Blk.ne f E rfl);have b:=b.onlyT ho E rfl;have o:=Below.only o ho aH;have M:=hb;refine Za rfl<|Zx b1 fun a i _ b5=>?_;refine Zm rfl<|Zt b5 fun a i=>?_
   refine Xg i rfl (fun D=>?_) (fun D=>?_)
   ·have aI:=D;have aJ:=Xsj (d:=d) (u:=x) (a:=k) (j:=j) D;refine Zr i<|Zm rfl<|Ze (Vn X1y f)<|Zf (Xm (k:=1) (vs:=[.agg #[vi x,vi (k:Int),vi (j:Int)]]) (zs:=[vi x,vi (k:Int),vi (j:Int)]) rfl X22 X2i rfl rfl) ?_;rintro _ w9 ⟨b33,rfl,a8,h,N⟩
    have aL:bG≠b33:=by have:=f.lt;omega
    have bH:=Q0 o.size a8;have G:=b.away a8;have e:=e.below h;have f:=f.below h;have b:=b.below h;have o:=btr o h;refine Zf (X0m (enc:=encRz) (l:=(g)) (l2:=([(⟨x,(k:Int),(j:Int)⟩ : Rz)])) (B0:=C.heap.size) rfl rfl X22 X2i X3f X5c b (Rd.of_blk N rfl _ N.lt) (by simp only [maxLen];simp;omega) (by simp;omega) o.size) ?_;rintro _ bW ⟨bJ,bK,rfl,b6,W,aK⟩
    have Q:Own _ C.heap.size 58 3 encRz _ _ (g):=b
    have aM:=aK _ f.lt B;have aN:=aK _ N.lt G;clear aK;have e:=e.appT Q W rfl;have o:=Below.app o Q W (Qb _) o.size;clear Q W;refine Za rfl ?_;refine Zn fun a i=>?_;refine Xa<|a6 _ _<|Zr i<|Ze (Xw rfl rfl (by omega) (by omega))<|Zm rfl ?_;refine Zn fun a i=>?_;refine Xh ?_;exact ⟨(j+1,g++([(⟨x,(k:Int),(j:Int)⟩ : Rz)])),⟨bJ,bK,i.sb,(by omega),(by rw [aJ,W];try rw [Qx]),e,b6,y,o⟩,(by first|omega|(dsimp only;omega))⟩
   have aI:=D;have aJ:=Xss (d:=d) (u:=x) (a:=k) (j:=j) D;refine Q7<|Xa<|a6 _ _<|Zr i ?_;refine Ze (Xw rfl rfl (by omega) (by omega))<|Zm rfl ?_;refine Zn fun a i=>?_;refine Xh ?_;exact ⟨(j+1,g),⟨J,L,i.sb,(by omega),(by rw [aJ,W];try rw [Qx]),e,b,y,o⟩,(by first|omega|(dsimp only;omega))⟩
  have aB:=q;have q:=Q1 q
  have bL:g=alS d x (k+1):=by rw [W,Xim,show j=d.ns.length by have:=q;omega,hm]
  refine Q9<|Xk<|Xk<|X03 ?_;refine Xa<|aT _ _<|Zr i<|Ze (Xw rfl rfl (by omega) (by omega))<|Zm rfl ?_;refine Zn fun a i=>?_;refine Xh ?_;exact ⟨(k+1,g),⟨J,L,i.sb,(by omega),bL,e,b,y,o⟩,(by first|omega|(dsimp only;omega))⟩
 have aA:=p;have p:=Q1 p
 have b7:m=alL d x:=by rw [hm,show k=d.ns.length by have:=p;omega];rfl
 refine Q9<|Xk<|Xk<|X03 ?_;refine bD _ _<|Zs i fun _ b8=>?_;refine Zm rfl<|Za rfl<|Zt b8 fun a i=>?_
 refine Q6 (X4 i (Xt i rfl rfl) ?_)
 rw [← b7]
 exact ⟨H,I,rfl,U,o⟩
theorem Xt5(q:World)(d:Dg)(md:Nat)(aD:md=d.ns.length)(Ad:Option Addr)(cd:Nat)(aE:Rd q q.heap.size 81 encNd Ad d.ns)(Bd:Option Addr)(dd:Nat)(aF:Rd q q.heap.size 83 encWr Bd d.ws)(o:d.ws.length≤dd)(Al:Option Addr)(cl:Nat)(l:List Int)(aG:Rd q q.heap.size 3 encI Al l)(hD:InD d)(b0:l.length≤1000000000) : Ret Tryz.prog 85 [.agg #[vi d.n,.slice Ad md cd,.slice Bd d.ws.length dd,vi d.t,vi d.r],.slice Al l.length cl] q (fun v w=>v=.tuple #[.agg #[vi ((fsF d l).getD rZ).u,vi ((fsF d l).getD rZ).a,vi ((fsF d l).getD rZ).b],.bool ((fsF d l).isSome)]∧Below q.heap.size q w):=by
 refine enter Tryz.func85 rfl 26 rfl rfl ?_;intro a g
 have i:=bz q
 refine Zs g fun _ aQ=>?_;refine Zf (X0c (zs:=[vi d.n,.slice Ad md cd,.slice Bd d.ws.length dd,vi d.t,vi d.r]) rfl rfl) ?_;rintro _ w1 ⟨b5,rfl,aR,y,j⟩;have aY:=Q0 i.size aR;have i:=btr i y;refine Zf (Xu (zs:=[vi 0,vi 0,vi 0]) X6v rfl) ?_;rintro _ w2 ⟨b6,rfl,aS,y,c⟩;have h:=Q0 i.size aS;have j:=j.below y;have i:=btr i y;refine Za rfl<|ZX aQ fun a g _ aT=>?_;refine Zs g fun _ aU=>?_;refine Zm rfl<|Ze (X0d rfl Xl)<|Zm rfl<|Zt aU fun a g=>?_;refine Q8<|X01 (σ:=Nat) (fun (k:Nat) (a:Act) (w:World)=>Fr a 26 [(2,.pointer (some ⟨b5,0,none⟩)),(4,.pointer (some ⟨b6,0,none⟩)),(9,.slice Al l.length cl),(10,vi (l.length:Int)),(11,vi (k:Int))]∧(k≤l.length)∧(fsF d (l.take k)=none)∧Blk w b5 39 [vi d.n,.slice Ad md cd,.slice Bd d.ws.length dd,vi d.t,vi d.r]∧Blk w b6 58 [vi 0,vi 0,vi 0]∧d.ws.length≤dd∧Below q.heap.size q w) (fun (k:Nat)=>l.length-k) 0 ?_ ?_
 ·exact ⟨g.sb,(Qf _),rfl,j,c,o,i⟩
 rintro k a w3 ⟨g,hk,a6,j,c,o,i⟩;refine Zs g fun _ aW=>?_;refine Ze (X0l rfl rfl)<|ZX aW fun a g _ aH=>?_
 refine Xg g rfl (fun e=>?_) (fun e=>?_)
 ·have a7:=e;have e:=Q2 e
  obtain ⟨b1,aZ⟩:=X5 (l:=l) (k:=k) (by omega)
  obtain ⟨m,a8⟩:=X5 (l:=l) (k:=k) (by have:=e;omega)
  have b2:=Xan d m d.ns.length;refine Q7<|aH _ _<|Q5 fun _ aI=>?_;refine Q8<|Zs g fun _ aJ=>?_;refine Zi (k:=k) (u:=m) (enc:=encI) (l:=l) trivial rfl rfl Xl X08 Xf (aG.below' i) a8 rfl ?_;intro b3 aA;refine Ze (X0 rfl X9 aA)<|Za rfl<|Zx aJ fun a g _ aK=>?_;refine Ze (Vn X2 j)<|Zm rfl<|Zf (Vc (Xvx _ d md aD Ad cd (aE.below' i).top Bd dd (aF.below' i).top o m hD) Xm1) ?_;rintro _ w4 ⟨b4,b7,rfl,p,y⟩;have aL:=p.awayNew c.lt;have p:=p.lower i.size;have j:=j.below y;have c:=c.below y;have i:=btr i y;refine Za rfl<|Zx aK fun a g _ aM=>?_;refine Zm rfl<|Ze (X0d rfl X22)<|Ze (X6o rfl rfl)<|Zt aM fun a g=>?_
  refine Xg g rfl (fun f=>?_) (fun f=>?_)
  ·have aB:=f;have f:=Q2 f
   have A:0<(alL d m).length:=by have:=f;omega
   have x:fsF d l=some ((alL d m).getD 0 rZ):=Xiw a6 a8 A
   refine Zs g fun _ aN=>?_;refine Zm rfl<|Zi (k:=0) (u:=((alL d m).getD 0 rZ)) (enc:=encRz) (l:=(alL d m)) trivial rfl rfl X22 X33 X3f p.rd (Xb A) rfl ?_;intro b8 aC;refine Ze (X04 (l:=[vi (((alL d m).getD 0 rZ).u),vi (((alL d m).getD 0 rZ).a),vi (((alL d m).getD 0 rZ).b)]) rfl X1y aC rfl)<|Zo (Vw [vi (((alL d m).getD 0 rZ).u),vi (((alL d m).getD 0 rZ).a),vi (((alL d m).getD 0 rZ).b)] X33 c) ?_;rintro _ w5 ⟨ho,hb⟩;have aO:=c;have i:=Below.only i ho h;have c:=hb;refine Za rfl<|Zt aN fun a g=>?_;refine Q6<|Xq<|X6<|X6 ?_;refine Xq<|X6<|X4 g (X17 g rfl (ResV.cellN (l:=[vi (((alL d m).getD 0 rZ).u),vi (((alL d m).getD 0 rZ).a),vi (((alL d m).getD 0 rZ).b)]) rfl X1y (c.at 0) rfl) rfl) ?_;exact ⟨by rw [x];rfl,i⟩
  have aB:=f;have f:=Q1 f
  have aX:fsF d (l.take (k+1))=none:=Xoa a6 a8 (List.length_eq_zero_iff.1 (by have:=f;omega))
  refine Q7<|Xa<|aI _ _<|Zr g ?_;refine Ze (Xw rfl rfl (by omega) (by omega))<|Zm rfl ?_;refine Zn fun a g=>?_;refine Xh ?_;exact ⟨k+1,⟨g.sb,(by omega),aX,j,c,o,i⟩,(by omega)⟩
 have a7:=e;have e:=Q1 e
 have x:fsF d l=none:=Xji a6 (by have:=e;omega)
 refine Q9<|Xk<|Xk<|X03 ?_;refine aT _ _<|Zs g fun _ aP=>?_;refine Ze (X0w (ps:=[]) (cs:=[vi 0,vi 0,vi 0]) rfl (fun _=>by first|rfl|kernel_rfl))<|Zo (Vw [vi 0,vi 0,vi 0] X33 c) ?_;rintro _ w6 ⟨ho,hb⟩;have aO:=c;have i:=Below.only i ho h;have c:=hb;refine Za rfl<|Zt aP fun a g=>?_
 refine Q6 (X4 g (X17 g rfl (ResV.cellN (l:=[vi 0,vi 0,vi 0]) rfl X1y (c.at 0) rfl) rfl) ?_)
 exact ⟨by rw [x];rfl,i⟩
theorem Xi4(w0:World)(d:Dg)(md:Nat)(aU:md=d.ns.length)(Ad:Option Addr)(cd:Nat)(aW:Rd w0 w0.heap.size 81 encNd Ad d.ns)(Bd:Option Addr)(dd:Nat)(aX:Rd w0 w0.heap.size 83 encWr Bd d.ws)(a7:d.ws.length≤dd)(Al:Option Addr)(cl:Nat)(l:List Int)(aY:Rd w0 w0.heap.size 3 encI Al l)(hD:InD d)(bJ:l.length≤1000000000) : Ret Tryz.prog 37 [.agg #[vi d.n,.slice Ad md cd,.slice Bd d.ws.length dd,vi d.t,vi d.r],.slice Al l.length cl] w0 (fun v w=>∃ A c B e P q,v=.tuple #[.agg #[vi (siD d l).n,.slice A (siD d l).ns.length c,.slice B (siD d l).ws.length e,vi (siD d l).t,vi (siD d l).r],.slice P (siL d l).length q]∧Rd w w.heap.size 81 encNd A (siD d l).ns∧Rd w w.heap.size 83 encWr B (siD d l).ws∧(siD d l).ws.length≤e∧Own w w0.heap.size 58 3 encRz P q (siL d l)∧Below w0.heap.size w0 w):=by
 have bW:=hD.len;have bX:=hD.m;have bY:=Xje d.ns;refine enter Tryz.func37 rfl 31 rfl rfl ?_;intro a H
 have x:=bz w0
 refine Zs H fun _ bK=>?_;refine Zf (X0c (zs:=[vi d.n,.slice Ad md cd,.slice Bd d.ws.length dd,vi d.t,vi d.r]) rfl rfl) ?_;rintro _ w1 ⟨b5,rfl,bL,y,f⟩;have aI:=Q0 x.size bL;have x:=btr x y;refine Zf (Xu (zs:=[vi 0,.slice none 0 0,.slice none 0 0,vi 0,vi 0]) X0s rfl) ?_;rintro _ w2 ⟨b8,rfl,bM,y,i⟩
 have bH:b5≠b8:=by have:=f.lt;omega
 have aZ:=Q0 x.size bM;have f:=f.below y;have x:=btr x y;refine Za rfl<|Zx bK fun a H _ b0=>?_;refine Ze (Vn X2 f)<|Zf (Vc (X99 _ d md aU Ad cd (aW.below' x).top Bd dd (aX.below' x).top a7 ⟨by omega,by omega⟩) X5f) ?_;rintro _ w3 ⟨b1,b2,b3,b4,rfl,M,I,y⟩;have M:=M.lower x.size;have I:=I.lower x.size;have f:=f.below y;have i:=i.below y;have x:=btr x y;refine Zo (Vw [vi d.n,.slice b1 d.ns.length b2,.slice b3 d.ws.length b4,vi d.t,vi d.r] Xp f) ?_;rintro _ w4 ⟨D,hb⟩;have j:=f;have i:=i.only D (by omega);have M:=M.onlyT D j rfl;have I:=I.onlyT D j rfl;have x:=Below.only x D aI;have f:=hb;refine Zx b0 fun a H _ b6=>?_;refine Za rfl<|Zt b6 fun a H=>?_;refine Q8<|X01 (σ:=Dg×(List Rz)) (fun (s:Dg×(List Rz)) (a:Act) (w:World)=>match s with|(o,m)=>∃ aC aD N a6 Q U,Fr a 31 [(1,.slice Al l.length cl),(2,.pointer (some ⟨b5,0,none⟩)),(4,.pointer (some ⟨b8,0,none⟩)),(6,.slice aC m.length aD)]∧(InD o)∧(siD o l=siD d l)∧(m++siL o l=siL d l)∧(m.length+spN o.ns≤spN d.ns)∧Blk w b5 39 [vi o.n,.slice N o.ns.length a6,.slice Q o.ws.length U,vi o.t,vi o.r]∧Blk w b8 39 [vi 0,.slice none 0 0,.slice none 0 0,vi 0,vi 0]∧Own w w0.heap.size 58 3 encRz aC aD m∧Rd w w.heap.size 81 encNd N o.ns∧Rd w w.heap.size 83 encWr Q o.ws∧d.ws.length≤dd∧o.ws.length≤U∧Below w0.heap.size w0 w) (fun (s:Dg×(List Rz))=>match s with|(o,m)=>spN o.ns) (d,[]) ?_ ?_
 ·exact ⟨none,0,b1,b2,b3,b4,H.sb,hD,rfl,rfl,(by simp),f,i,(Own.nil _ _ _ _ _),M.rd,I.rd,a7,I.cap,x⟩
 rintro ⟨o,m⟩ a w5 ⟨aC,aD,N,a6,Q,U,H,hI,hs,hm,c4,f,i,g,h,C,a7,aM,x⟩;refine Q8<|Zs H fun _ b7=>?_;refine Ze (Vn X2 f)<|Zm rfl<|Zf (Vc (Xt5 _ o o.ns.length rfl N a6 h.top Q U C.top aM Al cl l (aY.below' x).top hI bJ) Xmr) ?_;rintro _ w6 ⟨rfl,y⟩;have f:=f.below y;have i:=i.below y;have g:=g.below y;have h:=h.below y;have C:=C.below y;have x:=btr x y;refine Zm rfl<|Ze (Xn (vs:=[.agg #[vi (((fsF o l).getD rZ).u),vi (((fsF o l).getD rZ).a),vi (((fsF o l).getD rZ).b)],.bool ((fsF o l).isSome)]) rfl rfl)<|Ze (Xn (vs:=[.agg #[vi (((fsF o l).getD rZ).u),vi (((fsF o l).getD rZ).a),vi (((fsF o l).getD rZ).b)],.bool ((fsF o l).isSome)]) rfl rfl)<|Zf (Xu (zs:=[vi 0,vi 0,vi 0]) X6v rfl) ?_;rintro _ w7 ⟨bN,rfl,aJ,y,p⟩;have aN:=Q0 x.size aJ;have J:=g.away aJ;have f:=f.below y;have i:=i.below y;have g:=g.below y;have h:=h.below y;have C:=C.below y;have x:=btr x y;refine Zo (Vw [vi (((fsF o l).getD rZ).u),vi (((fsF o l).getD rZ).a),vi (((fsF o l).getD rZ).b)] X33 p) ?_;rintro _ w8 ⟨D,hb⟩;have j:=p;have f:=f.only D (Blk.ne f j rfl);have i:=i.only D (Blk.ne i j rfl);have g:=g.onlyA D J;have h:=h.onlyT D j rfl;have C:=C.onlyT D j rfl;have x:=Below.only x D aN;have p:=hb;refine Za rfl<|ZX b7 fun a H _ b9=>?_;refine Zs H fun _ bA=>?_;refine Zm rfl<|Ze (X0y rfl)<|Zt bA fun a H=>?_
 refine Xg H rfl (fun W=>?_) (fun W=>?_)
 ·have aO:=W
  have bO:fsF o l=none:=by have h8:=W;simpa using h8
  have aK:=Xh2 bO
  have bP:siD d l=o:=by rw [← hs,aK.1]
  have bR:siL d l=m:=by rw [← hm,aK.2,List.append_nil]
  refine Zs H fun _ bB=>?_;refine Ze (Vn X2 f)<|Zm rfl<|Zo (Vw [vi o.n,.slice N o.ns.length a6,.slice Q o.ws.length U,vi o.t,vi o.r] Xp i) ?_;rintro _ w9 ⟨D,hb⟩;have j:=i;have g:=g.onlyT D j rfl;have h:=h.onlyT D j rfl;have C:=C.onlyT D j rfl;have x:=Below.only x D aZ;have i:=hb;refine Za rfl<|Zt bB fun a H=>?_;refine Q6<|X6<|Xq<|X6 ?_;refine Xq<|X4 H (X17 H rfl (ResV.cellN (l:=[vi o.n,.slice N o.ns.length a6,.slice Q o.ws.length U,vi o.t,vi o.r]) rfl X2 (i.at 0) rfl) rfl) ?_
  rw [bP,bR]
  exact ⟨N,a6,Q,U,aC,aD,rfl,h.top,C.top,aM,g,x⟩
 have aO:=W
 have bC:fsF o l=some ((fsF o l).getD rZ):=by have h8:=W;cases h9:fsF o l with
  | none=>rw [h9] at h8;cases h8
  | some r=>rfl
 have aP:=X6x bC;have bD:=Xfj hI bC;have c5:=Xei hI aP
 have aA:(if apC o ((fsF o l).getD rZ)=true then apD o ((fsF o l).getD rZ) else zD)=apD o ((fsF o l).getD rZ):=Q4 aP
 refine Q7<|b9 _ _<|Zs H fun _ bE=>?_;refine Ze (Vn X2 f)<|Ze (Vn X1y p)<|Zf (Vc (Xp3 _ o o.ns.length rfl N a6 h.top Q U C.top aM ((fsF o l).getD rZ) hI) Xe9) ?_;rintro _ cA ⟨aE,aF,aG,aH,rfl,E,G,bF,y⟩;have f:=f.below y;have i:=i.below y;have p:=p.below y;have g:=g.below y;have x:=btr x y;refine Zm rfl<|Ze (Xn (vs:=[.agg #[vi ((if (apC o ((fsF o l).getD rZ))=true then apD o ((fsF o l).getD rZ) else zD).n),.slice aE ((if (apC o ((fsF o l).getD rZ))=true then apD o ((fsF o l).getD rZ) else zD).ns).length aF,.slice aG ((if (apC o ((fsF o l).getD rZ))=true then apD o ((fsF o l).getD rZ) else zD).ws).length aH,vi ((if (apC o ((fsF o l).getD rZ))=true then apD o ((fsF o l).getD rZ) else zD).t),vi ((if (apC o ((fsF o l).getD rZ))=true then apD o ((fsF o l).getD rZ) else zD).r)],.bool (apC o ((fsF o l).getD rZ))]) rfl rfl)<|Ze (Xn (vs:=[.agg #[vi ((if (apC o ((fsF o l).getD rZ))=true then apD o ((fsF o l).getD rZ) else zD).n),.slice aE ((if (apC o ((fsF o l).getD rZ))=true then apD o ((fsF o l).getD rZ) else zD).ns).length aF,.slice aG ((if (apC o ((fsF o l).getD rZ))=true then apD o ((fsF o l).getD rZ) else zD).ws).length aH,vi ((if (apC o ((fsF o l).getD rZ))=true then apD o ((fsF o l).getD rZ) else zD).t),vi ((if (apC o ((fsF o l).getD rZ))=true then apD o ((fsF o l).getD rZ) else zD).r)],.bool (apC o ((fsF o l).getD rZ))]) rfl rfl)<|Zo (Vw [vi ((if (apC o ((fsF o l).getD rZ))=true then apD o ((fsF o l).getD rZ) else zD).n),.slice aE ((if (apC o ((fsF o l).getD rZ))=true then apD o ((fsF o l).getD rZ) else zD).ns).length aF,.slice aG ((if (apC o ((fsF o l).getD rZ))=true then apD o ((fsF o l).getD rZ) else zD).ws).length aH,vi ((if (apC o ((fsF o l).getD rZ))=true then apD o ((fsF o l).getD rZ) else zD).t),vi ((if (apC o ((fsF o l).getD rZ))=true then apD o ((fsF o l).getD rZ) else zD).r)] Xp f) ?_;rintro _ cB ⟨D,hb⟩
 have j:=f;have i:=i.only D (by omega);have p:=p.only D (Blk.ne p j rfl);have g:=g.onlyT D j rfl;have E:=E.onlyT D j rfl;have G:=G.onlyT D j rfl;have x:=Below.only x D aI;have f:=hb;refine Zt bE fun a H=>?_;refine Zr H<|Zm rfl<|Ze (Vn X1y p)<|Zf (Xm (k:=1) (vs:=[.agg #[vi (((fsF o l).getD rZ).u),vi (((fsF o l).getD rZ).a),vi (((fsF o l).getD rZ).b)]]) (zs:=[vi (((fsF o l).getD rZ).u),vi (((fsF o l).getD rZ).a),vi (((fsF o l).getD rZ).b)]) rfl X22 X2i rfl rfl) ?_;rintro _ cC ⟨b27,rfl,aL,y,aB⟩
 have aR:bN≠b27:=by have:=p.lt;omega
 have bS:=Q0 x.size aL;have a8:=g.away aL;have f:=f.below y;have i:=i.below y;have p:=p.below y;have g:=g.below y;have E:=E.below y;have G:=G.below y;have x:=btr x y;refine Zf (X0m (enc:=encRz) (l:=(m)) (l2:=([((fsF o l).getD rZ)])) (B0:=w0.heap.size) rfl rfl X22 X2i X3f X5c g (Rd.of_blk aB rfl _ aB.lt) (by simp only [maxLen];simp;omega) (by simp;omega) x.size) ?_;rintro _ cD ⟨bT,bU,rfl,bG,hg,aQ⟩
 have L:Own _ w0.heap.size 58 3 encRz _ _ (m):=g
 have aS:=aQ _ p.lt J;have aT:=aQ _ aB.lt a8;clear aQ;have f:=f.appT L hg rfl;have i:=i.appT L hg rfl;have E:=E.appT L hg rfl;have G:=G.appT L hg rfl;have x:=Below.app x L hg (Qb _) x.size;clear L hg;refine Za rfl ?_;refine Zn fun a H=>?_;refine Xa<|Xh ?_;exact ⟨((if (apC o ((fsF o l).getD rZ))=true then apD o ((fsF o l).getD rZ) else zD),m++([((fsF o l).getD rZ)])),⟨bT,bU,aE,aF,aG,aH,H.sb,(by rw [aA];exact X1e (X8z aP)),(by rw [aA,← bD.1];exact hs),(by rw [aA,Qx,← hm,bD.2];rfl),(by rw [aA,Qh,List.length_singleton];omega),f,i,bG,E.top,G.top,a7,bF,x⟩,(by rw [aA];omega)⟩
theorem Xoz(w0:World) : Ret Tryz.prog 38 [] w0 (fun v w=>∃ A c,v=.slice A ([(1:Int),2,3,4,5]).length c∧Own w w0.heap.size 3 1 encI A c ([(1:Int),2,3,4,5])∧Below w0.heap.size w0 w):=by
 refine enter Tryz.func38 rfl 2 rfl rfl ?_;intro a hf
 have hW:=bz w0
 refine Zs hf fun _ a7=>?_;refine Za rfl<|Zx a7 fun a hf _ a8=>?_;refine Zf (Xm (k:=5) (vs:=[vi 1,vi 2,vi 3,vi 4,vi 5]) (zs:=[vi 1,vi 2,vi 3,vi 4,vi 5]) rfl Xl X1q rfl rfl) ?_;rintro _ w1 ⟨b4,rfl,aA,hE,aB⟩;have a6:=Q0 hW.size aA;have hW:=btr hW hE;refine Za rfl<|Zt a8 fun a hf=>?_
 refine Q6 (X4 hf (Xt hf rfl rfl) ?_)
 exact ⟨(some ⟨b4,0,none⟩),5,rfl,(Own.of_blkL Xf aB a6 rfl rfl (by decide)),hW⟩
theorem Xig(L:World)(d:Dg)(md:Nat)(A:md=d.ns.length)(Ad:Option Addr)(cd:Nat)(B:Rd L L.heap.size 81 encNd Ad d.ns)(Bd:Option Addr)(dd:Nat)(G:Rd L L.heap.size 83 encWr Bd d.ws)(D:d.ws.length≤dd)(hG:goodD d=true) : Ret Tryz.prog 60 [.agg #[vi d.n,.slice Ad md cd,.slice Bd d.ws.length dd,vi d.t,vi d.r]] L (fun v w=>v=.bool (plD d)∧Below L.heap.size L w):=by
 have hD:=X1e hG;have aU:=hD.len;have aW:=hD.m;have aX:=X7b d.ns d.ns.length;refine enter Tryz.func60 rfl 54 rfl rfl ?_;intro a i
 have j:=bz L
 refine Zs i fun _ aL=>?_;refine Zf (X0c (zs:=[vi d.n,.slice Ad md cd,.slice Bd d.ws.length dd,vi d.t,vi d.r]) rfl rfl) ?_;rintro _ w1 ⟨b4,rfl,aM,E,f⟩;have aS:=Q0 j.size aM;have j:=btr j E;refine Za rfl<|ZX aL fun a i _ aN=>?_;refine Zs i fun _ aO=>?_;refine Ze (Vd rfl Xr 2)<|Ze (X0 rfl X0j (f.at 2))<|Ze (X0d rfl Xx)<|Zm rfl<|Zt aO fun a i=>?_;refine Q8<|X01 (σ:=Nat) (fun (k:Nat) (a:Act) (w:World)=>Fr a 54 [(1,.pointer (some ⟨b4,0,none⟩)),(6,.slice Bd d.ws.length dd),(7,vi (d.ws.length:Int)),(8,vi (k:Int))]∧(k≤d.ws.length)∧((d.ws.take k).all (plQ d)=true)∧Blk w b4 39 [vi d.n,.slice Ad md cd,.slice Bd d.ws.length dd,vi d.t,vi d.r]∧d.ws.length≤dd∧Below L.heap.size L w) (fun (k:Nat)=>d.ws.length-k) 0 ?_ ?_
 ·exact ⟨i.sb,(Qf _),rfl,f,D,j⟩
 rintro k a w2 ⟨i,hk,N,f,D,j⟩;refine Zs i fun _ aP=>?_;refine Ze (X0l rfl rfl)<|ZX aP fun a i _ aQ=>?_
 refine Xg i rfl (fun y=>?_) (fun y=>?_)
 ·have o:=y;have y:=Q2 y
  obtain ⟨aY,aT⟩:=X5 (l:=d.ws) (k:=k) (by omega)
  obtain ⟨x,M⟩:=X5 (l:=d.ws) (k:=k) (by have:=y;omega)
  obtain ⟨aZ,b0,b1,_⟩:=X7j hG M
  have b2:=Xao hG (Xb (l:=d.ns) (d:=nZ) (k:=x.a.toNat) (by omega))
  have b3:=Xao hG (Xb (l:=d.ns) (d:=nZ) (k:=x.b.toNat) (by omega))
  refine Q7<|aQ _ _<|Q5 fun _ aE=>?_;refine Q8<|Zs i fun _ aF=>?_;refine Zi (k:=k) (u:=x) (enc:=encWr) (l:=d.ws) trivial rfl rfl Xx X0e Xy (G.below' j) M rfl ?_;intro b5 a6;refine Ze (X04 (l:=[vi x.a,vi x.b,.bool x.h]) rfl X1i a6 rfl)<|Zf (Xu (zs:=[vi 0,vi 0,.bool false]) X2y rfl) ?_;rintro _ w3 ⟨b6,rfl,Q,E,g⟩;have a7:=Q0 j.size Q;have aG:=(G.below' j).away Q;have f:=f.below E;have j:=btr j E;refine Zo (Vw [vi x.a,vi x.b,.bool x.h] X0e g) ?_;rintro _ w4 ⟨ho,hb⟩;have aH:=g;have f:=f.only ho (Blk.ne f aH rfl);have j:=Below.only j ho a7;have g:=hb;refine ZX aF fun a i _ aI=>?_;refine X0a (fun a w=>Fr a 54 [(1,.pointer (some ⟨b4,0,none⟩)),(6,.slice Bd d.ws.length dd),(7,vi (d.ws.length:Int)),(8,vi (k:Int)),(48,.bool ((x.h||((((d.ns.getD x.a.toNat nZ).k)+((d.ns.getD x.b.toNat nZ).k)) != 3))||(((d.ns.getD x.a.toNat nZ).p) != ((d.ns.getD x.b.toNat nZ).p))))]∧Below w4.heap.size w4 w) ?_ ?_
  ·have H:Below w4.heap.size w4 w4:=Below.refl _ _
   refine X05 none (fun _=>false) mixed ?_;intro w5 E;have f:=f.below E;have g:=g.below E;have j:=btr j E;have H:=btr H E;refine Yb i<|Yo 0 rfl (fun _=>Vd rfl X5k 2)<|Ye 1 rfl (X0 rfl X6c (g.at 2))<|Yo 2 rfl (fun _=>X3 rfl) ?_
   refine Yl 14 rfl (fun c=>?_) (fun c=>?_)
   ·refine Yp 3 rfl (gP c) ?_;refine Yp 4 rfl (gP c) ?_;refine Yp 5 rfl (gP c) ?_;refine Yp 6 rfl (gP c) ?_;refine Yp 7 rfl (gP c) ?_;refine Yp 8 rfl (gP c) ?_;refine Yp 9 rfl (gP c) ?_;refine Yp 10 rfl (gP c) ?_;refine Yp 11 rfl (gP c) ?_;refine Yp 12 rfl (gP c) ?_;refine Yp 13 rfl (gP c) ?_;refine Yp 14 rfl (gP c) ?_;refine Yp 15 rfl (gP c) ?_;refine Yp 16 rfl (gP c) ?_;refine Yp 17 rfl (gP c) ?_;refine Yp 18 rfl (gP c) ?_;refine Yo 19 rfl (fun _=>X7 rfl c rfl)<|Yo 20 rfl (fun _=>X3 rfl)<|Yp 21 rfl (gP rfl) ?_;refine Yp 22 rfl (gP rfl) ?_;refine Yp 23 rfl (gP rfl) ?_;refine Yp 24 rfl (gP rfl) ?_;refine Yp 25 rfl (gP rfl) ?_;refine Yp 26 rfl (gP rfl) ?_;refine Yp 27 rfl (gP rfl) ?_;refine Yp 28 rfl (gP rfl) ?_;refine Yp 29 rfl (gP rfl) ?_;refine Yp 30 rfl (gP rfl) ?_;refine Yp 31 rfl (gP rfl) ?_;refine Yp 32 rfl (gP rfl) ?_;refine Yp 33 rfl (gP rfl) ?_;refine Yp 34 rfl (gP rfl) ?_;refine Yp 35 rfl (gP rfl) ?_;refine Yo 36 rfl (fun _=>X7 rfl rfl rfl) ?_;refine Yd fun a i=>?_
    have I:Below w4.heap.size w4 w5:=H
    exact ⟨i.sub ⟨rfl,rfl,rfl,rfl,X1 rfl (by first|rfl|(simp only [o,c,bs];done)|simp [o,c]),trivial⟩,I⟩
   refine Yu 3 rfl (gW c) (fun _=>Vd rfl Xj 1) ?_;refine Yv 4 rfl (gW c) (X0 rfl X00 (f.at 1)) ?_;refine Yu 5 rfl (gW c) (fun _=>Vd rfl X0q 0) ?_;refine Yv 6 rfl (gW c) (X0 rfl X9 (g.at 0)) ?_;refine Yj (k:=x.a.toNat) (u:=(d.ns.getD x.a.toNat nZ)) (enc:=encNd) (l:=d.ns) 7 rfl ⟨_,_,rfl,rfl,c⟩ rfl A rfl Xs X07 Xv (B.below' j) (Xb (by omega)) (by omega) ?_;intro b7 a8;refine Yu 8 rfl (gW c) (fun _=>X23 rfl X13) ?_;refine Yv 9 rfl (gW c) (X0 rfl X9 (a8.drop 0)) ?_;refine Yu 10 rfl (gW c) (fun _=>Vd rfl Xj 1) ?_;refine Yv 11 rfl (gW c) (X0 rfl X00 (f.at 1)) ?_;refine Yu 12 rfl (gW c) (fun _=>Vd rfl X0u 1) ?_;refine Yv 13 rfl (gW c) (X0 rfl X9 (g.at 1)) ?_;refine Yj (k:=x.b.toNat) (u:=(d.ns.getD x.b.toNat nZ)) (enc:=encNd) (l:=d.ns) 14 rfl ⟨_,_,rfl,rfl,c⟩ rfl A rfl Xs X07 Xv (B.below' j) (Xb (by omega)) (by omega) ?_;intro b8 aA;refine Yu 15 rfl (gW c) (fun _=>X23 rfl X13) ?_;refine Yv 16 rfl (gW c) (X0 rfl X9 (aA.drop 0)) ?_;refine Yu 17 rfl (gW c) (fun _=>Xw rfl rfl (by omega) (by omega)) ?_;refine Yu 18 rfl (gW c) (fun _=>X1j rfl rfl) ?_;refine Yo 19 rfl (fun _=>Xe rfl c rfl)<|Yo 20 rfl (fun _=>X3 rfl) ?_
   refine Yl 32 rfl (fun e=>?_) (fun e=>?_)
   ·refine Yp 21 rfl (gP e) ?_;refine Yp 22 rfl (gP e) ?_;refine Yp 23 rfl (gP e) ?_;refine Yp 24 rfl (gP e) ?_;refine Yp 25 rfl (gP e) ?_;refine Yp 26 rfl (gP e) ?_;refine Yp 27 rfl (gP e) ?_;refine Yp 28 rfl (gP e) ?_;refine Yp 29 rfl (gP e) ?_;refine Yp 30 rfl (gP e) ?_;refine Yp 31 rfl (gP e) ?_;refine Yp 32 rfl (gP e) ?_;refine Yp 33 rfl (gP e) ?_;refine Yp 34 rfl (gP e) ?_;refine Yp 35 rfl (gP e) ?_;refine Yo 36 rfl (fun _=>X7 rfl e rfl) ?_;refine Yd fun a i=>?_
    have I:Below w4.heap.size w4 w5:=H
    exact ⟨i.sub ⟨rfl,rfl,rfl,rfl,X1 rfl (by first|rfl|(simp only [o,c,e,bs];done)|simp [o,c,e]),trivial⟩,I⟩
   refine Yu 21 rfl (gW e) (fun _=>Vd rfl Xj 1) ?_;refine Yv 22 rfl (gW e) (X0 rfl X00 (f.at 1)) ?_;refine Yu 23 rfl (gW e) (fun _=>Vd rfl X0q 0) ?_;refine Yv 24 rfl (gW e) (X0 rfl X9 (g.at 0)) ?_;refine Yj (k:=x.a.toNat) (u:=(d.ns.getD x.a.toNat nZ)) (enc:=encNd) (l:=d.ns) 25 rfl ⟨_,_,rfl,rfl,e⟩ rfl A rfl Xs X07 Xv (B.below' j) (Xb (by omega)) (by omega) ?_;intro b9 aB;refine Yu 26 rfl (gW e) (fun _=>X23 rfl X06) ?_;refine Yv 27 rfl (gW e) (X0 rfl X9 (aB.drop 1)) ?_;refine Yu 28 rfl (gW e) (fun _=>Vd rfl Xj 1) ?_;refine Yv 29 rfl (gW e) (X0 rfl X00 (f.at 1)) ?_;refine Yu 30 rfl (gW e) (fun _=>Vd rfl X0u 1) ?_;refine Yv 31 rfl (gW e) (X0 rfl X9 (g.at 1)) ?_;refine Yj (k:=x.b.toNat) (u:=(d.ns.getD x.b.toNat nZ)) (enc:=encNd) (l:=d.ns) 32 rfl ⟨_,_,rfl,rfl,e⟩ rfl A rfl Xs X07 Xv (B.below' j) (Xb (by omega)) (by omega) ?_;intro bA aC;refine Yu 33 rfl (gW e) (fun _=>X23 rfl X06) ?_;refine Yv 34 rfl (gW e) (X0 rfl X9 (aC.drop 1)) ?_;refine Yu 35 rfl (gW e) (fun _=>X1j rfl rfl) ?_;refine Yo 36 rfl (fun _=>Xe rfl e rfl) ?_;refine Yd fun a i=>?_
   have I:Below w4.heap.size w4 w5:=H
   exact ⟨i.sub ⟨rfl,rfl,rfl,rfl,X1 rfl (by first|rfl|(simp only [o,c,e,bs];done)|simp [o,c,e]),trivial⟩,I⟩
  rintro a w6 ⟨i,E⟩;have f:=f.below E;have j:=btr j E;refine aI _ _ ?_
  refine Xg i rfl (fun C=>?_) (fun C=>?_)
  ·have aD:=C
   have J:plD d=false:=by unfold plD;rw [Xd5 M (q:=plQ d) (by unfold plQ;rw [C];rfl),Bool.false_and]
   refine Zs i fun _ aJ=>?_;refine Za rfl<|Zt aJ fun a i=>?_;refine Q6<|Xq<|X6<|X6 ?_;refine Xq<|X6<|X4 i (Xt i rfl rfl) ?_;exact ⟨by rw [J],j⟩
  have aD:=C
  have aR:plQ d x=true:=by unfold plQ;rw [C];rfl
  refine Q7<|Xa<|aE _ _<|Zr i ?_;refine Ze (Xw rfl rfl (by omega) (by omega))<|Zm rfl ?_;refine Zn fun a i=>?_;refine Xh ?_;exact ⟨k+1,⟨i.sb,(by omega),(Xdh N M aR),f,D,j⟩,(by omega)⟩
 have o:=y;have y:=Q1 y
 have J:plD d=(((spL d.ns).length:Int)==0):=by unfold plD;rw [Xa8 N (by have:=y;omega),Qw]
 refine Q9<|Xk<|Xk<|X03 ?_;refine aN _ _<|Zs i fun _ aK=>?_;refine Ze (Vn X2 f)<|Zf (Vc (Xve _ d md A Ad cd (B.below' j).top Bd dd (G.below' j).top D (by omega)) Xkl) ?_;rintro _ w7 ⟨bB,bC,rfl,U,E⟩;have U:=U.lower j.size;have j:=btr j E;refine Ze (X0d rfl Xl)<|Ze (X0b rfl rfl)<|Za rfl<|Zt aK fun a i=>?_
 refine Q6 (X4 i (Xt i rfl rfl) ?_)
 exact ⟨by rw [J],j⟩
end Go.Proofs.YtpifljegadknkaaGreat
