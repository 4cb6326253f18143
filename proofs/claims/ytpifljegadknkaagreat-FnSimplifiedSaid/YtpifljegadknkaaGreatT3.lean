/-
  For all drawn diagrams, the simplified diagram admits no further step, is reached by the log, and has the same meaning. Conditions: none.
-/
import Derived.Test.YtpifljegadknkaaGreatT2
import Derived.Test.YtpifljegadknkaaGreatT1
import Derived.Shelf.SlSortCmp.WholeK
import Derived.Shelf.SlSortCmp.NoneTotal
import Derived.Shelf.SlGeneric
set_option linter.unusedVariables false
set_option linter.unusedSimpArgs false
set_option maxRecDepth 4000
set_option linter.unusedSectionVars false
namespace Go.Proofs.YtpifljegadknkaaGreat
open Go.RowKit
theorem Xn5(y:World)(d:Dg)(md:Nat)(aP:md=d.ns.length)(Ad:Option Addr)(cd:Nat)(aQ:Rd y y.heap.size 81 encNd Ad d.ns)(Bd:Option Addr)(dd:Nat)(B:Rd y y.heap.size 83 encWr Bd d.ws)(q:d.ws.length<=dd)(p:Int)(aU:d.ws.length<=1000000000) : Ret Tryz.prog 152 [.agg #[vi d.n,.slice Ad md cd,.slice Bd d.ws.length dd,vi d.t,vi d.r],vi p] y (fun v w=>v=vi (cnW d.ws p)/\Below y.heap.size y w):=by
 refine enter Tryz.func152 rfl 29 rfl rfl ?_;intro a f
 have m:=bz y
 refine Zs f fun _ aH=>?_;refine Zf (X0l (zs:=[vi d.n,.slice Ad md cd,.slice Bd d.ws.length dd,vi d.t,vi d.r]) rfl rfl) ?_;rintro _ w1 ⟨b4,rfl,aI,hE,aJ⟩;have aR:=Q0 m.size aI;have m:=btr m hE;refine Za rfl<|Zx aH fun a f _ aK=>?_;refine Za rfl<|ZX aK fun a f _ aL=>?_;refine Zs f fun _ aM=>?_;refine Ze (Vd rfl Xl 2)<|Ze (X0 rfl X0d (aJ.at 2))<|Ze (X09 rfl Xr)<|Zm rfl<|Zt aM fun a f=>?_;refine Q8<|X01 (σ:=Nat×Int) (fun (s:Nat×Int) (a:Act) (w:World)=>match s with|(k,c)=>Fr a 29 [(1,vi p),(5,vi c),(9,.slice Bd d.ws.length dd),(10,vi (d.ws.length:Int)),(11,vi (k:Int))]/\(k<=d.ws.length)/\(c=cnW (d.ws.take k) p)/\d.ws.length<=dd/\Below y.heap.size y w) (fun (s:Nat×Int)=>match s with|(k,c)=>d.ws.length-k) (0,0) ?_ ?_
 ·exact ⟨f.sb,(Qf _),rfl,q,m⟩
 rintro ⟨k,c⟩ a w2 ⟨f,hk,hc,q,m⟩;have aB:=Xf8 d.ws p k
 rw [<- hc] at aB
 refine Zs f fun _ aN=>?_;refine Ze (X0n rfl rfl)<|ZX aN fun a f _ aO=>?_
 refine Xi f rfl (fun g=>?_) (fun g=>?_)
 ·have o:=g;have g:=Q2 g
  obtain ⟨aV,aS⟩:=X4 (l:=d.ws) (k:=k) (by omega)
  obtain ⟨A,a6⟩:=X4 (l:=d.ws) (k:=k) (by have:=g;omega)
  have aB:=Xf8 d.ws p k;refine Q7<|aO _ _<|Q5 fun _ C=>?_;refine Q8<|Zs f fun _ aC=>?_;refine Zi (k:=k) (u:=A) (enc:=encWr) (l:=d.ws) tv0 rfl rfl Xr X0c Xy (B.bx m) a6 rfl ?_;intro aW a7;refine Ze (X03 (l:=[vi A.a,vi A.b,.bool A.h]) rfl X10 a7 rfl)<|Zf (Xq (zs:=[vi 0,vi 0,.bool false]) X2s rfl) ?_;rintro _ w3 ⟨aX,rfl,D,hE,i⟩;have a8:=Q0 m.size D;have aD:=(B.bx m).away D;have m:=btr m hE;refine Zo (Vw [vi A.a,vi A.b,.bool A.h] X0c i) ?_;rintro _ w4 ⟨ho,hb⟩;have aT:=i;have m:=Below.oy m ho a8;have i:=hb;refine ZX aC fun a f _ aE=>?_;refine X0a (fun a w=>Fr a 29 [(1,vi p),(5,vi c),(9,.slice Bd d.ws.length dd),(10,vi (d.ws.length:Int)),(11,vi (k:Int)),(24,.bool ((A.a==p)||(A.b==p)))]/\w4=w) ?_ ?_
  ·refine Zr f<|Ze (Vd rfl X0p 0)<|Ze (X0 rfl X9 (i.at 0))<|Zm rfl<|Ze (X0k rfl rfl)<|Zm rfl ?_
   refine Zg 19 rfl (fun e=>?_) (fun e=>?_)
   ·(iterate 4 refine Zp (gP e) ?_);refine Ze (X5 rfl e rfl) ?_;refine Zn fun a f=>?_;exact ⟨f.sub ⟨rfl,rfl,rfl,rfl,rfl,X1 rfl (by simp [o,e]),trivial⟩,rfl⟩
   refine Zv (gW e) (Vd rfl X0r 1) ?_;refine Zv (gW e) (X0 rfl X9 (i.at 1)) ?_;refine Zv (gW e) (X3 rfl) ?_;refine Zv (gW e) (X0k rfl rfl) ?_;refine Ze (Xb rfl e rfl) ?_;refine Zn fun a f=>?_;exact ⟨f.sub ⟨rfl,rfl,rfl,rfl,rfl,X1 rfl (by simp [o,e]),trivial⟩,rfl⟩
  rintro a _ ⟨f,rfl⟩;refine aE _ _ ?_
  refine Xi f rfl (fun j=>?_) (fun j=>?_)
  ·have aA:=j;have x:=Xye a6 j
   rw [<- hc] at x
   refine Zr f<|Zm rfl<|Ze (Xs rfl rfl (by omega) (by omega))<|Za rfl ?_;refine Zn fun a f=>?_;refine Xa<|C _ _<|Zr f<|Ze (Xs rfl rfl (by omega) (by omega))<|Zm rfl ?_;refine Zn fun a f=>?_;refine Xc ?_;exact ⟨(k+1,c+1),⟨f.sb,(by omega),(by rw [x]),q,m⟩,(by first|omega|(dsimp only;omega))⟩
  have aA:=j;have x:=Xyk a6 j
  rw [<- hc] at x
  refine Q7<|Xa<|C _ _<|Zr f ?_;refine Ze (Xs rfl rfl (by omega) (by omega))<|Zm rfl ?_;refine Zn fun a f=>?_;refine Xc ?_;exact ⟨(k+1,c),⟨f.sb,(by omega),(by rw [x]),q,m⟩,(by first|omega|(dsimp only;omega))⟩
 have o:=g;have g:=Q1 g
 have aF:c=cnW d.ws p:=by rw [hc,Qi (by have:=g;omega)]
 refine Q9<|Xk<|Xk<|X02 ?_;refine aL _ _<|Zs f fun _ aG=>?_;refine Zm rfl<|Za rfl<|Zt aG fun a f=>?_
 refine Q6 (X6 f (Xp f rfl rfl) ?_)
 exact ⟨by rw [aF],m⟩
theorem Y0g(L:World)(d:Dg)(md:Nat)(H:md=d.ns.length)(Ad:Option Addr)(cd:Nat)(C:Rd L L.heap.size 81 encNd Ad d.ns)(Bd:Option Addr)(dd:Nat)(I:Rd L L.heap.size 83 encWr Bd d.ws)(J:d.ws.length<=dd)(p:Int)(aK:0<=p/\p.toNat<d.ns.length)(a6:d.ws.length<=1000000000)(hn:1<=d.n/\d.n<=1000) : Ret Tryz.prog 107 [.agg #[vi d.n,.slice Ad md cd,.slice Bd d.ws.length dd,vi d.t,vi d.r],vi p] L (fun v w=>v=.bool (ndQ d p)/\Below L.heap.size L w):=by
 refine enter Tryz.func107 rfl 47 rfl rfl ?_;intro a e
 have o:=bz L
 refine Zs e fun _ aL=>?_;refine Zf (X0l (zs:=[vi d.n,.slice Ad md cd,.slice Bd d.ws.length dd,vi d.t,vi d.r]) rfl rfl) ?_;rintro _ w1 ⟨b4,rfl,aM,A,x⟩;have aP:=Q0 o.size aM;have o:=btr o A;refine Za rfl<|Zx aL fun a e _ aN=>?_;refine Ze (Vd rfl Xf 1)<|Ze (X0 rfl Xz (x.at 1))<|Zm rfl<|Zj (k:=p.toNat) (u:=(d.ns.getD p.toNat nZ)) (enc:=encNd) (l:=d.ns) tv0 rfl H rfl Xm X06 Xv (C.bx o) (Xg aK.2) (by omega) ?_;intro p7 a7;refine Ze (X03 (l:=[vi ((d.ns.getD p.toNat nZ).k),vi ((d.ns.getD p.toNat nZ).p)]) rfl X22 a7 rfl)<|Zf (Xq (zs:=[vi 0,vi 0]) X6g rfl) ?_;rintro _ w2 ⟨b8,rfl,a8,A,B⟩;have aA:=Q0 o.size a8;have aJ:=(C.bx o).away a8;have x:=x.bw A;have o:=btr o A;refine Zo (Vw [vi ((d.ns.getD p.toNat nZ).k),vi ((d.ns.getD p.toNat nZ).p)] X06 B) ?_;rintro _ w3 ⟨ho,hb⟩;have aB:=B;have x:=x.oz ho aB rfl;have o:=Below.oy o ho aA;have B:=hb;refine ZX aN fun a e _ aO=>?_;refine Zs e fun _ aC=>?_;refine Ze (Vd rfl X12 0)<|Ze (X0 rfl X9 (B.at 0))<|Zt aC fun a e=>?_;refine Q8<|Zs e fun _ aD=>?_;refine Ze (X0k rfl rfl)<|Za rfl<|Zt aD fun a e=>?_
 refine Xi e rfl (fun D=>?_) (fun D=>?_)
 ·have b:=D;have y:=Y5n D;refine Q5 fun _ aE=>?_;refine X0a (fun a w=>Fr a 47 [(4,.bool ((((d.ns.getD p.toNat nZ).p)==0)&&((cnW d.ws p)==0)))]/\Below w3.heap.size w3 w) ?_ ?_
  ·have q:Below w3.heap.size w3 w3:=Below.refl _ _
   refine Zr e<|Ze (Vd rfl X07 1)<|Ze (X0 rfl X9 (B.at 1))<|Ze (X0k rfl rfl)<|Zm rfl ?_
   refine Zg 18 rfl (fun f=>?_) (fun f=>?_)
   ·refine Zv (gW f) (Vn X2 x) ?_;refine Zv (gW f) (X3 rfl) ?_;refine Zk (gW f) (Vc (Xn5 _ d md H Ad cd (C.bx o).top Bd dd (I.bx o).top J p a6) Xc2) ?_;rintro _ w4 ⟨rfl,A⟩;have o:=btr o A;have q:=btr q A;refine Zv (gW f) (X0k rfl rfl) ?_;refine Ze (X5 rfl f rfl)<|Za rfl ?_;refine Zn fun a e=>?_
    have h:Below w3.heap.size w3 w4:=q
    exact ⟨e.sub ⟨X1 rfl (by first|rfl|(simp only [b,f,bs];done)|simp [b,f]),trivial⟩,h⟩
   (iterate 4 refine Zp (gP f) ?_);refine Ze (Xb rfl f rfl)<|Za rfl ?_;refine Zn fun a e=>?_
   have h:Below w3.heap.size w3 w3:=q
   exact ⟨e.sub ⟨X1 rfl (by first|rfl|(simp only [b,f,bs];done)|simp [b,f]),trivial⟩,h⟩
  rintro a w5 ⟨e,A⟩;have o:=btr o A;refine aE _ _<|Q6<|Xw<|X8 ?_;refine X6 e (Xp e rfl rfl) ?_;exact ⟨by rw [y],o⟩
 have b:=D
 have g0:=D
 refine Q5 fun _ M=>?_;refine Zs e fun _ aF=>?_;refine Ze (X0k rfl rfl)<|Za rfl<|Zt aF fun a e=>?_
 refine Xi e rfl (fun E=>?_) (fun E=>?_)
 ·have c:=E
  have y:=Xy6 g0 (by rw [E];rfl)
  refine Q7<|M _ _<|Xlx e (X1 rfl c) ?_;refine Q5 fun _ aG=>?_;refine X0a (fun a w=>Fr a 47 [(4,.bool ((inR ((d.ns.getD p.toNat nZ).p) 0 (d.n-1))&&((cnW d.ws p)==1)))]/\Below w3.heap.size w3 w) ?_ ?_
  ·have q:Below w3.heap.size w3 w3:=Below.refl _ _
   refine Zr e<|Ze (Vd rfl X07 1)<|Ze (X0 rfl X9 (B.at 1))<|Ze (Vd rfl X16 0)<|Ze (X0 rfl X9 (x.at 0))<|Ze (X1h rfl rfl (by omega) (by omega))<|Zf (Vc (F85 _ ((d.ns.getD p.toNat nZ).p) 0 (d.n-1)) X64) ?_;rintro _ _ ⟨rfl,rfl⟩;refine Zm rfl ?_
   refine Zg 33 rfl (fun g=>?_) (fun g=>?_)
   ·refine Zv (gW g) (Vn X2 x) ?_;refine Zv (gW g) (X3 rfl) ?_;refine Zk (gW g) (Vc (Xn5 _ d md H Ad cd (C.bx o).top Bd dd (I.bx o).top J p a6) Xc2) ?_;rintro _ w6 ⟨rfl,A⟩;have o:=btr o A;have q:=btr q A;refine Zv (gW g) (X0k rfl rfl) ?_;refine Ze (X5 rfl g rfl)<|Za rfl ?_;refine Zn fun a e=>?_
    have h:Below w3.heap.size w3 w6:=q
    exact ⟨e.sub ⟨X1 rfl (by first|rfl|(simp only [b,c,g,bs];done)|simp [b,c,g]),trivial⟩,h⟩
   (iterate 4 refine Zp (gP g) ?_);refine Ze (Xb rfl g rfl)<|Za rfl ?_;refine Zn fun a e=>?_
   have h:Below w3.heap.size w3 w3:=q
   exact ⟨e.sub ⟨X1 rfl (by first|rfl|(simp only [b,c,g,bs];done)|simp [b,c,g]),trivial⟩,h⟩
  rintro a w7 ⟨e,A⟩;have o:=btr o A;refine aG _ _<|Q6<|Xw<|X8 ?_;refine X6 e (Xp e rfl rfl) ?_;exact ⟨by rw [y],o⟩
 have c:=E
 have g1:=E
 refine Zr e<|Ze (X0k rfl rfl)<|Za rfl<|Zt M fun a e=>?_
 refine Xi e rfl (fun G=>?_) (fun G=>?_)
 ·have m:=G
  have y:=Xy6 g0 (by rw [g1,G];rfl)
  refine Q5 fun _ aH=>?_;refine X0a (fun a w=>Fr a 47 [(4,.bool ((inR ((d.ns.getD p.toNat nZ).p) 0 (d.n-1))&&((cnW d.ws p)==1)))]/\Below w3.heap.size w3 w) ?_ ?_
  ·have q:Below w3.heap.size w3 w3:=Below.refl _ _
   refine Zr e<|Ze (Vd rfl X07 1)<|Ze (X0 rfl X9 (B.at 1))<|Ze (Vd rfl X16 0)<|Ze (X0 rfl X9 (x.at 0))<|Ze (X1h rfl rfl (by omega) (by omega))<|Zf (Vc (F85 _ ((d.ns.getD p.toNat nZ).p) 0 (d.n-1)) X64) ?_;rintro _ _ ⟨rfl,rfl⟩;refine Zm rfl ?_
   refine Zg 33 rfl (fun i=>?_) (fun i=>?_)
   ·refine Zv (gW i) (Vn X2 x) ?_;refine Zv (gW i) (X3 rfl) ?_;refine Zk (gW i) (Vc (Xn5 _ d md H Ad cd (C.bx o).top Bd dd (I.bx o).top J p a6) Xc2) ?_;rintro _ w8 ⟨rfl,A⟩;have o:=btr o A;have q:=btr q A;refine Zv (gW i) (X0k rfl rfl) ?_;refine Ze (X5 rfl i rfl)<|Za rfl ?_;refine Zn fun a e=>?_
    have h:Below w3.heap.size w3 w8:=q
    exact ⟨e.sub ⟨X1 rfl (by first|rfl|(simp only [b,c,m,i,bs];done)|simp [b,c,m,i]),trivial⟩,h⟩
   (iterate 4 refine Zp (gP i) ?_);refine Ze (Xb rfl i rfl)<|Za rfl ?_;refine Zn fun a e=>?_
   have h:Below w3.heap.size w3 w3:=q
   exact ⟨e.sub ⟨X1 rfl (by first|rfl|(simp only [b,c,m,i,bs];done)|simp [b,c,m,i]),trivial⟩,h⟩
  rintro a w9 ⟨e,A⟩;have o:=btr o A;refine aH _ _<|Q6<|Xw<|X8 ?_;refine X6 e (Xp e rfl rfl) ?_;exact ⟨by rw [y],o⟩
 have m:=G
 have y:=Y4m g0 (by rw [g1,G];rfl)
 refine Q7<|Xa<|aO _ _<|Q5 fun _ aI=>?_;refine X0a (fun a w=>Fr a 47 [(4,.bool ((((d.ns.getD p.toNat nZ).k)==3)&&(inR ((d.ns.getD p.toNat nZ).p) 0 7)))]/\w3=w) ?_ ?_
 ·refine Zr e<|Ze (Vd rfl X12 0)<|Ze (X0 rfl X9 (B.at 0))<|Ze (X0k rfl rfl)<|Zm rfl ?_
  refine Zg 42 rfl (fun j=>?_) (fun j=>?_)
  ·refine Zv (gW j) (Vd rfl X07 1) ?_;refine Zv (gW j) (X0 rfl X9 (B.at 1)) ?_;refine Zk (gW j) (Vc (F85 _ ((d.ns.getD p.toNat nZ).p) 0 7) X64) ?_;rintro _ _ ⟨rfl,rfl⟩;refine Ze (X5 rfl j rfl)<|Za rfl ?_;refine Zn fun a e=>?_;exact ⟨e.sub ⟨X1 rfl (by first|rfl|(simp only [b,c,m,j,bs];done)|simp [b,c,m,j]),trivial⟩,rfl⟩
  (iterate 3 refine Zp (gP j) ?_);refine Ze (Xb rfl j rfl)<|Za rfl ?_;refine Zn fun a e=>?_;exact ⟨e.sub ⟨X1 rfl (by first|rfl|(simp only [b,c,m,j,bs];done)|simp [b,c,m,j]),trivial⟩,rfl⟩
 rintro a _ ⟨e,rfl⟩;refine aI _ _ ?_
 refine Q6 (X6 e (Xp e rfl rfl) ?_)
 exact ⟨by rw [y],o⟩
theorem Y0w(E:World)(d:Dg)(md:Nat)(aC:md=d.ns.length)(Ad:Option Addr)(cd:Nat)(L:Rd E E.heap.size 81 encNd Ad d.ns)(Bd:Option Addr)(dd:Nat)(b6:Rd E E.heap.size 83 encWr Bd d.ws)(m:d.ws.length<=dd)(hN:md<=1000)(hn:1<=d.n/\d.n<=1000) : Ret Tryz.prog 108 [.agg #[vi d.n,.slice Ad md cd,.slice Bd d.ws.length dd,vi d.t,vi d.r]] E (fun v w=>v=.bool (endQ d)/\Below E.heap.size E w):=by
 refine enter Tryz.func108 rfl 40 rfl rfl ?_;intro a b
 have x:=bz E
 refine Zs b fun _ aV=>?_;refine Zf (X0l (zs:=[vi d.n,.slice Ad md cd,.slice Bd d.ws.length dd,vi d.t,vi d.r]) rfl rfl) ?_;rintro _ w1 ⟨b4,rfl,aW,hE,g⟩;have b7:=Q0 x.size aW;have x:=btr x hE;refine Za rfl<|ZX aV fun a b _ aX=>?_;refine Zs b fun _ aY=>?_;refine Za rfl<|Zt aY fun a b=>?_;refine Q8<|X01 (σ:=Nat) (fun (e:Nat) (a:Act) (w:World)=>Fr a 40 [(1,(pZ9 b4)),(3,vi (e:Int))]/\(1<=e/\e<=3)/\(∀ i:Nat,1<=i->i<e->enQ d (i:Int)=true)/\Blk w b4 39 [vi d.n,.slice Ad md cd,.slice Bd d.ws.length dd,vi d.t,vi d.r]/\d.ws.length<=dd/\Below E.heap.size E w) (fun (e:Nat)=>3-e) 1 ?_ ?_
 ·exact ⟨b.sb,⟨Qb _,by omega⟩,(fun i h1 h2=>by omega),g,m,x⟩
 rintro e a w2 ⟨b,he,G,g,m,x⟩;refine Q5 fun _ aZ=>?_;refine Zs b fun _ b0=>?_;refine Zm rfl<|Ze (Xdx rfl rfl)<|Zt b0 fun a b=>?_
 refine Xi b rfl (fun y=>?_) (fun y=>?_)
 ·have H:=y;have y:=Q2 y;have h9:=y;refine Q7<|aZ _ _<|Q5 fun _ aD=>?_;refine Q8<|Zs b fun _ aE=>?_;refine Za rfl<|Zt aE fun a b=>?_;refine Q8<|X01 (σ:=Nat) (fun (j:Nat) (a:Act) (w:World)=>Fr a 40 [(1,(pZ9 b4)),(3,vi (e:Int)),(4,vi (j:Int))]/\(∀ i:Nat,i<j->(ctN d.ns (e:Int) (i:Int)==1)=true)/\Blk w b4 39 [vi d.n,.slice Ad md cd,.slice Bd d.ws.length dd,vi d.t,vi d.r]/\d.ws.length<=dd/\Below E.heap.size E w) (fun (j:Nat)=>d.n.toNat-j) 0 ?_ ?_
  ·exact ⟨b.sb,(fun i hi=>by omega),g,m,x⟩
  rintro j a w3 ⟨b,M,g,m,x⟩;refine Q5 fun _ aF=>?_;refine Zs b fun _ aG=>?_;refine Zm rfl<|Ze (Vd rfl X16 0)<|Ze (X0 rfl X9 (g.at 0))<|Ze (X0n rfl rfl)<|Zt aG fun a b=>?_
  refine Xi b rfl (fun o=>?_) (fun o=>?_)
  ·have C:=o;have o:=Q2 o;have b1:=o;refine Q7<|aF _ _<|Q5 fun _ aH=>?_;refine Q8<|Zs b fun _ aI=>?_;refine Za rfl<|ZX aI fun a b _ aJ=>?_;refine Zs b fun _ aK=>?_;refine Ze (Vd rfl Xf 1)<|Ze (X0 rfl Xz (g.at 1))<|Ze (X09 rfl Xm)<|Zm rfl<|Zt aK fun a b=>?_;refine Q8<|X01 (σ:=Nat×Int) (fun (s:Nat×Int) (a:Act) (w:World)=>match s with|(k,c)=>Fr a 40 [(1,(pZ9 b4)),(3,vi (e:Int)),(4,vi (j:Int)),(5,vi c),(19,.slice Ad md cd),(20,vi (md:Int)),(21,vi (k:Int))]/\(k<=d.ns.length)/\(c=ctN (d.ns.take k) (e:Int) (j:Int))/\Blk w b4 39 [vi d.n,.slice Ad md cd,.slice Bd d.ws.length dd,vi d.t,vi d.r]/\d.ws.length<=dd/\Below E.heap.size E w) (fun (s:Nat×Int)=>match s with|(k,c)=>d.ns.length-k) (0,0) ?_ ?_
   ·exact ⟨b.sb,(Qf _),rfl,g,m,x⟩
   rintro ⟨k,c⟩ a w4 ⟨b,hk,hc,g,m,x⟩;have b2:=Y09 d.ns (e:Int) (j:Int) k
   rw [<- hc] at b2
   refine Zs b fun _ aL=>?_;refine Ze (X0n rfl rfl)<|ZX aL fun a b _ aM=>?_
   refine Xi b rfl (fun q=>?_) (fun q=>?_)
   ·have D:=q;have q:=Q2 q
    obtain ⟨u9,a6⟩:=X4 (l:=d.ns) (k:=k) (by have:=q;omega)
    refine Q7<|aM _ _<|Q5 fun _ N=>?_;refine Q8<|Zs b fun _ aN=>?_;refine Zj (k:=k) (u:=u9) (enc:=encNd) (l:=d.ns) tv0 rfl aC rfl Xm X06 Xv (L.bx x) a6 (by omega) ?_;intro b8 a7;refine Ze (X03 (l:=[vi u9.k,vi u9.p]) rfl X22 a7 rfl)<|Zf (Xq (zs:=[vi 0,vi 0]) X6g rfl) ?_;rintro _ w5 ⟨b9,rfl,Q,hE,h⟩;have a8:=Q0 x.size Q;have aO:=(L.bx x).away Q;have g:=g.bw hE;have x:=btr x hE;refine Zo (Vw [vi u9.k,vi u9.p] X06 h) ?_;rintro _ w6 ⟨ho,hb⟩;have aP:=h;have g:=g.oz ho aP rfl;have x:=Below.oy x ho a8;have h:=hb;refine ZX aN fun a b _ aQ=>?_;refine X0a (fun a w=>Fr a 40 [(1,(pZ9 b4)),(3,vi (e:Int)),(4,vi (j:Int)),(5,vi c),(19,.slice Ad md cd),(20,vi (md:Int)),(21,vi (k:Int)),(34,.bool ((u9.k==(e:Int))&&(u9.p==(j:Int))))]/\w6=w) ?_ ?_
    ·refine Zr b<|Ze (Vd rfl X12 0)<|Ze (X0 rfl X9 (h.at 0))<|Zm rfl<|Ze (X0k rfl rfl)<|Zm rfl ?_
     refine Zg 29 rfl (fun f=>?_) (fun f=>?_)
     ·refine Zv (gW f) (Vd rfl X07 1) ?_;refine Zv (gW f) (X0 rfl X9 (h.at 1)) ?_;refine Zv (gW f) (X3 rfl) ?_;refine Zv (gW f) (X0k rfl rfl) ?_;refine Ze (X5 rfl f rfl) ?_;refine Zn fun a b=>?_;exact ⟨b.sub ⟨rfl,rfl,rfl,rfl,rfl,rfl,rfl,X1 rfl (by simp [H,C,D,f]),trivial⟩,rfl⟩
     (iterate 4 refine Zp (gP f) ?_);refine Ze (Xb rfl f rfl) ?_;refine Zn fun a b=>?_;exact ⟨b.sub ⟨rfl,rfl,rfl,rfl,rfl,rfl,rfl,X1 rfl (by simp [H,C,D,f]),trivial⟩,rfl⟩
    rintro a _ ⟨b,rfl⟩;refine aQ _ _ ?_
    refine Xi b rfl (fun A=>?_) (fun A=>?_)
    ·have aA:=A;have I:=Y4o a6 A
     rw [<- hc] at I
     refine Zr b<|Zm rfl<|Ze (Xs rfl rfl (by omega) (by omega))<|Za rfl ?_;refine Zn fun a b=>?_;refine Xa<|N _ _<|Zr b<|Ze (Xs rfl rfl (by omega) (by omega))<|Zm rfl ?_;refine Zn fun a b=>?_;refine Xc ?_;exact ⟨(k+1,c+1),⟨b.sb,(by omega),(by rw [I]),g,m,x⟩,(by first|omega|(dsimp only;omega))⟩
    have aA:=A;have I:=Y4g a6 A
    rw [<- hc] at I
    refine Q7<|Xa<|N _ _<|Zr b ?_;refine Ze (Xs rfl rfl (by omega) (by omega))<|Zm rfl ?_;refine Zn fun a b=>?_;refine Xc ?_;exact ⟨(k+1,c),⟨b.sb,(by omega),(by rw [I]),g,m,x⟩,(by first|omega|(dsimp only;omega))⟩
   have D:=q;have q:=Q1 q
   have aR:c=ctN d.ns (e:Int) (j:Int):=by rw [hc,Qi (by have:=q;omega)]
   refine Q9<|Xk<|Xk<|X02 ?_;refine aJ _ _<|Zs b fun _ aS=>?_;refine Zm rfl<|Ze (X1e rfl rfl)<|Zt aS fun a b=>?_
   refine Xi b rfl (fun B=>?_) (fun B=>?_)
   ·have aB:=B
    have J:endQ d=false:=Y31 (e:=e) (by omega) (by omega) b1 (by rw [<- aR];exact B)
    refine Zs b fun _ aT=>?_;refine Za rfl<|Zt aT fun a b=>?_;refine Q6<|Xw<|X8<|X8 ?_;refine Xw<|Xw<|X8<|X8 ?_;refine Xw<|X8<|X6 b (Xp b rfl rfl) ?_;exact ⟨by rw [J],x⟩
   have aB:=B
   have b3:(ctN d.ns (e:Int) (j:Int)==1)=true:=by rw [<- aR];have h8:=B;simpa using h8
   refine Q7<|Xa<|aH _ _<|Zr b ?_;refine Zm rfl<|Ze (Xs rfl rfl (by omega) (by omega))<|Za rfl ?_;refine Zn fun a b=>?_;refine Xc ?_;exact ⟨j+1,⟨b.sb,(fun i hi=>by by_cases h9:i=j;rw [h9];exact b3;exact M i (by omega)),g,m,x⟩,(by omega)⟩
  have C:=o;have o:=Q1 o
  have b5:enQ d (e:Int)=true:=X4s fun i hi=>M i (by have:=o;omega)
  refine Q9<|Xk<|Xk<|X02 ?_;refine Xa<|aD _ _<|Zr b<|Zm rfl<|Ze (Xs rfl rfl (by omega) (by omega))<|Za rfl ?_;refine Zn fun a b=>?_;refine Xc ?_;exact ⟨e+1,⟨b.sb,(by omega),(fun i h1 h2=>by by_cases h9:i=e;rw [h9];exact b5;exact G i h1 (by omega)),g,m,x⟩,(by omega)⟩
 have H:=y;have y:=Q1 y
 have J:endQ d=true:=by unfold endQ;rw [show enQ d 1=true from G 1 (by omega) (by have:=y;omega),show enQ d 2=true from G 2 (by omega) (by have:=y;omega)];rfl
 refine Q9<|Xk<|Xk<|X02 ?_;refine aX _ _<|Zs b fun _ aU=>?_;refine Za rfl<|Zt aU fun a b=>?_
 refine Q6 (X6 b (Xp b rfl rfl) ?_)
 exact ⟨by rw [J],x⟩
theorem Xgy(w0:World)(d:Dg)(md:Nat)(J:md=d.ns.length)(Ad:Option Addr)(cd:Nat)(a8:Rd w0 w0.heap.size 81 encNd Ad d.ns)(Bd:Option Addr)(dd:Nat)(L:Rd w0 w0.heap.size 83 encWr Bd d.ws)(G:d.ws.length<=dd)(bJ:d.ws.length<=1000000000)(b7:∀ x ∈ d.ws,-1000000<=x.b/\x.b<=1000000) : Ret Tryz.prog 54 [.agg #[vi d.n,.slice Ad md cd,.slice Bd d.ws.length dd,vi d.t,vi d.r]] w0 (fun v w=>v=.bool (goodD d)/\Below w0.heap.size w0 w):=by
 refine enter Tryz.func54 rfl 80 rfl rfl ?_;intro a e
 have o:=bz w0
 refine Zs e fun _ b8=>?_;refine Zf (X0l (zs:=[vi d.n,.slice Ad md cd,.slice Bd d.ws.length dd,vi d.t,vi d.r]) rfl rfl) ?_;rintro _ w1 ⟨b4,rfl,b9,I,m⟩;have bG:=Q0 o.size b9;have o:=btr o I;refine Za rfl<|ZX b8 fun a e _ bA=>?_;refine Q5 fun _ bB=>?_;refine X0a (fun a w=>Fr a 80 [(1,(pZ9 b4)),(27,.bool ((((!(inR d.n 1 5))||(decide (40<(md:Int))))||(!(inR d.t 0 7)))||(!(inR d.r (-60) 60))))]/\w1=w) ?_ ?_
 ·refine Zr e<|Ze (Vd rfl X16 0)<|Ze (X0 rfl X9 (m.at 0))<|Zf (Vc (F85 _ d.n 1 5) X64) ?_;rintro _ _ ⟨rfl,rfl⟩;refine Ze (X0w rfl)<|Zm rfl ?_
  refine Zg 10 rfl (fun p=>?_) (fun p=>?_)
  ·(iterate 4 refine Zp (gP p) ?_);refine Ze (X5 rfl p rfl)<|Zm rfl<|Zp (gP rfl) ?_;(iterate 3 refine Zp (gP rfl) ?_);refine Ze (X5 rfl rfl rfl)<|Zm rfl<|Zp (gP rfl) ?_;(iterate 3 refine Zp (gP rfl) ?_);refine Ze (X5 rfl rfl rfl) ?_;refine Zn fun a e=>?_;exact ⟨e.sub ⟨rfl,X1 rfl (by simp [p]),trivial⟩,rfl⟩
  refine Zv (gW p) (Vd rfl Xf 1) ?_;refine Zv (gW p) (X0 rfl Xz (m.at 1)) ?_;refine Zv (gW p) (X09 rfl Xm) ?_;refine Zv (gW p) (X2y rfl rfl) ?_;refine Ze (Xb rfl p rfl)<|Zm rfl ?_
  refine Zg 16 rfl (fun A=>?_) (fun A=>?_)
  ·(iterate 4 refine Zp (gP A) ?_);refine Ze (X5 rfl A rfl)<|Zm rfl<|Zp (gP rfl) ?_;(iterate 3 refine Zp (gP rfl) ?_);refine Ze (X5 rfl rfl rfl) ?_;refine Zn fun a e=>?_;exact ⟨e.sub ⟨rfl,X1 rfl (by simp [p,A]),trivial⟩,rfl⟩
  refine Zv (gW A) (Vd rfl X0q 3) ?_;refine Zv (gW A) (X0 rfl X9 (m.at 3)) ?_;refine Zk (gW A) (Vc (F85 _ d.t 0 7) X64) ?_;rintro _ _ ⟨rfl,rfl⟩;refine Zv (gW A) (X0w rfl) ?_;refine Ze (Xb rfl A rfl)<|Zm rfl ?_
  refine Zg 22 rfl (fun E=>?_) (fun E=>?_)
  ·(iterate 4 refine Zp (gP E) ?_);refine Ze (X5 rfl E rfl) ?_;refine Zn fun a e=>?_;exact ⟨e.sub ⟨rfl,X1 rfl (by simp [p,A,E]),trivial⟩,rfl⟩
  refine Zv (gW E) (Vd rfl X00 4) ?_;refine Zv (gW E) (X0 rfl X9 (m.at 4)) ?_;refine Zk (gW E) (Vc (F85 _ d.r (-60) 60) X64) ?_;rintro _ _ ⟨rfl,rfl⟩;refine Zv (gW E) (X0w rfl) ?_;refine Ze (Xb rfl E rfl) ?_;refine Zn fun a e=>?_;exact ⟨e.sub ⟨rfl,X1 rfl (by simp [p,A,E]),trivial⟩,rfl⟩
 rintro a _ ⟨e,rfl⟩;refine bB _ _ ?_
 refine Xi e rfl (fun M=>?_) (fun M=>?_)
 ·have q:=M
  have H:goodD d=false:=Y3b (by rw [<- J];exact M)
  refine Zs e fun _ aM=>?_;refine Za rfl<|Zt aM fun a e=>?_;refine Q6<|X8<|X6 e (Xp e rfl rfl) ?_;exact ⟨by rw [H],o⟩
 have q:=M
 obtain ⟨bC,bK,bL,bD⟩:=Xio (d:=d) (by rw [<- J];exact M)
 refine Q7<|bA _ _<|Q5 fun _ aN=>?_;refine Zs e fun _ aO=>?_;refine Ze (Vd rfl Xl 2)<|Ze (X0 rfl X0d (m.at 2))<|Ze (X09 rfl Xr)<|Zm rfl<|Zt aO fun a e=>?_;refine Q8<|X01 (σ:=Nat) (fun (k:Nat) (a:Act) (w:World)=>Fr a 80 [(1,(pZ9 b4)),(29,.slice Bd d.ws.length dd),(30,vi (d.ws.length:Int)),(31,vi (k:Int))]/\(k<=d.ws.length)/\(∀ i:Nat,i<k->wrQ d i=true)/\Blk w b4 39 [vi d.n,.slice Ad md cd,.slice Bd d.ws.length dd,vi d.t,vi d.r]/\d.ws.length<=dd/\Below w0.heap.size w0 w) (fun (k:Nat)=>d.ws.length-k) 0 ?_ ?_
 ·exact ⟨e.sb,(Qf _),(fun i hi=>by omega),m,G,o⟩
 rintro k a w2 ⟨e,hk,aA,m,G,o⟩;refine Zs e fun _ aP=>?_;refine Ze (X0n rfl rfl)<|ZX aP fun a e _ aQ=>?_
 refine Xi e rfl (fun B=>?_) (fun B=>?_)
 ·have y:=B;have B:=Q2 B
  obtain ⟨bM,bH⟩:=X4 (l:=d.ws) (k:=k) (by omega)
  obtain ⟨W,a7⟩:=X4 (l:=d.ws) (k:=k) (by have:=B;omega)
  have bN:=b7 W (Qe a7);have bE:=(Qg.1 a7).1;have aD:=Xf2 a7
  rw [<- J] at aD
  refine Q7<|aQ _ _<|Q5 fun _ aR=>?_;refine Q8<|Zs e fun _ aS=>?_;refine Zm rfl<|Zi (k:=k) (u:=W) (enc:=encWr) (l:=d.ws) tv0 rfl rfl Xr X0c Xy (L.bx o) a7 rfl ?_;intro bO aE;refine Ze (X03 (l:=[vi W.a,vi W.b,.bool W.h]) rfl X10 aE rfl)<|Zf (Xq (zs:=[vi 0,vi 0,.bool false]) X2s rfl) ?_;rintro _ w3 ⟨bP,rfl,aB,I,C⟩;have aF:=Q0 o.size aB;have aT:=(L.bx o).away aB;have m:=m.bw I;have o:=btr o I;refine Za rfl<|Zo (Vw [vi W.a,vi W.b,.bool W.h] X0c C) ?_;rintro _ w4 ⟨ho,hb⟩;have aU:=C;have m:=m.oz ho aU rfl;have o:=Below.oy o ho aF;have C:=hb;refine ZX aS fun a e _ aV=>?_;refine X0a (fun a w=>Fr a 80 [(1,(pZ9 b4)),(29,.slice Bd d.ws.length dd),(30,vi (d.ws.length:Int)),(31,vi (k:Int)),(65,.bool (!(inR W.a 0 (W.b-1))||decide ((md:Int)<=W.b)||(decide (0<(k:Int))&&!(wlt (d.ws.getD (k-1) wZ) W))))]/\Below w4.heap.size w4 w) ?_ ?_
  ·have N:Below w4.heap.size w4 w4:=Below.refl _ _
   refine X04 none (fun _=>false) mixed ?_;intro w5 I;have m:=m.bw I;have C:=C.bw I;have o:=btr o I;have N:=btr N I;refine Yb e<|Yo 0 rfl (fun _=>Vd rfl X0p 0)<|Ye 1 rfl (X0 rfl X9 (C.at 0))<|Yo 2 rfl (fun _=>Vd rfl X0r 1)<|Ye 3 rfl (X0 rfl X9 (C.at 1))<|Yo 4 rfl (fun _=>X1h rfl rfl (by omega) (by omega))<|Y1 5 ?_;refine Yz rfl tv0 (Vc (F85 _ W.a 0 (W.b-1)) X64) ?_;refine Yo 6 rfl (fun _=>X0w rfl)<|Yo 7 rfl (fun _=>X3 rfl) ?_
   refine Yl 43 rfl (fun f=>?_) (fun f=>?_)
   ·refine Yp 8 rfl (gP f) ?_;refine Yp 9 rfl (gP f) ?_;refine Yp 10 rfl (gP f) ?_;refine Yp 11 rfl (gP f) ?_;refine Yp 12 rfl (gP f) ?_;refine Yp 13 rfl (gP f) ?_;refine Yo 14 rfl (fun _=>X5 rfl f rfl)<|Yo 15 rfl (fun _=>X3 rfl)<|Yp 16 rfl (gP rfl) ?_;refine Yp 17 rfl (gP rfl) ?_;refine Yp 18 rfl (gP rfl) ?_;refine Yp 19 rfl (gP tv0) ?_;refine Yp 20 rfl (gP tv0) ?_;refine Yp 21 rfl (gP tv0) ?_;refine Yp 22 rfl (gP tv0) ?_;refine Yp 23 rfl (gP tv0) ?_;refine Yp 24 rfl (gP tv0) ?_;refine Yp 25 rfl (gP tv0) ?_;refine Y1 26<|Yq rfl ⟨_,_,rfl,rfl,trivial⟩ ?_;refine Yp 27 rfl (gP tv0) ?_;refine Yp 28 rfl (gP rfl) ?_;refine Yo 29 rfl (fun _=>X5 rfl rfl rfl) ?_;refine Yd fun a e=>?_
    have a6:Below w4.heap.size w4 w5:=N
    exact ⟨e.sub ⟨rfl,rfl,rfl,rfl,X1 rfl (by simp [q,y,f]),trivial⟩,a6⟩
   refine Yu 8 rfl (gW f) (fun _=>Vd rfl X0r 1) ?_;refine Yv 9 rfl (gW f) (X0 rfl X9 (C.at 1)) ?_;refine Yu 10 rfl (gW f) (fun _=>Vd rfl Xf 1) ?_;refine Yv 11 rfl (gW f) (X0 rfl Xz (m.at 1)) ?_;refine Yu 12 rfl (gW f) (fun _=>X09 rfl Xm) ?_;refine Yu 13 rfl (gW f) (fun _=>X5h rfl rfl) ?_;refine Yo 14 rfl (fun _=>Xb rfl f rfl)<|Yo 15 rfl (fun _=>X3 rfl) ?_
   refine Yl 51 rfl (fun g=>?_) (fun g=>?_)
   ·refine Yp 16 rfl (gP g) ?_;refine Yp 17 rfl (gP g) ?_;refine Yp 18 rfl (gP g) ?_;refine Yp 19 rfl (gP tv0) ?_;refine Yp 20 rfl (gP tv0) ?_;refine Yp 21 rfl (gP tv0) ?_;refine Yp 22 rfl (gP tv0) ?_;refine Yp 23 rfl (gP tv0) ?_;refine Yp 24 rfl (gP tv0) ?_;refine Yp 25 rfl (gP tv0) ?_;refine Y1 26<|Yq rfl ⟨_,_,rfl,rfl,trivial⟩ ?_;refine Yp 27 rfl (gP tv0) ?_;refine Yp 28 rfl (gP g) ?_;refine Yo 29 rfl (fun _=>X5 rfl g rfl) ?_;refine Yd fun a e=>?_
    have a6:Below w4.heap.size w4 w5:=N
    exact ⟨e.sub ⟨rfl,rfl,rfl,rfl,X1 rfl (by simp [q,y,f,g]),trivial⟩,a6⟩
   refine Yu 16 rfl (gW g) (fun _=>X3 rfl) ?_;refine Yu 17 rfl (gW g) (fun _=>X2y rfl rfl) ?_;refine Yu 18 rfl (gW g) (fun _=>X3 rfl) ?_
   refine Yl 54 rfl (fun c=>?_) (fun c=>?_)
   ·have bQ:0<k:=by have h8:=c;simpa using h8
    refine Yu 19 rfl (gW c) (fun _=>Vd rfl Xl 2) ?_;refine Yv 20 rfl (gW c) (X0 rfl X0d (m.at 2)) ?_;refine Yu 21 rfl (gW c) (fun _=>X3 rfl) ?_;refine Yu 22 rfl (gW c) (fun _=>X1h rfl rfl (by omega) (by omega)) ?_;refine Yi (k:=(k-1)) (u:=(d.ws.getD (k-1) wZ)) (enc:=encWr) (l:=d.ws) 23 rfl ⟨_,_,rfl,rfl,c⟩ rfl rfl Xr X0c Xy (L.bx o) (Xg (by omega)) (by omega) ?_;intro bR aG;refine Yv 24 rfl (gW c) (X03 (l:=[vi ((d.ws.getD (k-1) wZ).a),vi ((d.ws.getD (k-1) wZ).b),.bool ((d.ws.getD (k-1) wZ).h)]) rfl X10 aG rfl) ?_;refine Yv 25 rfl (gW c) (Vn X10 C) ?_;refine Y1 26<|Yk rfl ⟨_,_,rfl,rfl,c⟩ (Vc (Xto _ (d.ws.getD (k-1) wZ) W) Xfj) (fun _ _ ⟨_,I⟩=>I) ?_;rintro _ w6 ⟨rfl,I⟩;have o:=btr o I;have N:=btr N I;refine Yu 27 rfl (gW c) (fun _=>X0w rfl) ?_;refine Yu 28 rfl (gW g) (fun _=>X5 rfl c rfl) ?_;refine Yo 29 rfl (fun _=>Xb rfl g rfl) ?_;refine Yd fun a e=>?_
    have a6:Below w4.heap.size w4 w6:=N
    exact ⟨e.sub ⟨rfl,rfl,rfl,rfl,X1 rfl (by first|rfl|(simp only [q,y,f,g,c,bs];done)|simp [q,y,f,g,c]),trivial⟩,a6⟩
   refine Yp 19 rfl (gP c) ?_;refine Yp 20 rfl (gP c) ?_;refine Yp 21 rfl (gP c) ?_;refine Yp 22 rfl (gP c) ?_;refine Yp 23 rfl (gP c) ?_;refine Yp 24 rfl (gP c) ?_;refine Yp 25 rfl (gP c) ?_;refine Y1 26<|Yq rfl ⟨_,_,rfl,rfl,c⟩ ?_;refine Yp 27 rfl (gP c) ?_;refine Yu 28 rfl (gW g) (fun _=>Xb rfl c rfl) ?_;refine Yo 29 rfl (fun _=>Xb rfl g rfl) ?_;refine Yd fun a e=>?_
   have a6:Below w4.heap.size w4 w5:=N
   exact ⟨e.sub ⟨rfl,rfl,rfl,rfl,X1 rfl (by first|rfl|(simp only [q,y,f,g,c,bs];done)|simp [q,y,f,g,c]),trivial⟩,a6⟩
  rintro a w7 ⟨e,I⟩;have m:=m.bw I;have o:=btr o I;refine aV _ _ ?_
  refine Xi e rfl (fun Q=>?_) (fun Q=>?_)
  ·have aH:=Q
   have H:goodD d=false:=Xxr bE (by rw [aD,Q];rfl)
   refine Zs e fun _ aW=>?_;refine Za rfl<|Zt aW fun a e=>?_;refine Q6<|Xw<|X8<|X8 ?_;refine Xw<|X8<|X6 e (Xp e rfl rfl) ?_;exact ⟨by rw [H],o⟩
  have aH:=Q
  have aI:wrQ d k=true:=by rw [aD,Q];rfl
  refine Q7<|Xa<|aR _ _<|Zr e ?_;refine Ze (Xs rfl rfl (by omega) (by omega))<|Zm rfl ?_;refine Zn fun a e=>?_;refine Xc ?_;exact ⟨k+1,⟨e.sb,(by omega),(fun i hi=>by by_cases h9:i=k;rw [h9];exact aI;exact aA i (by omega)),m,G,o⟩,(by omega)⟩
 have y:=B;have B:=Q1 B
 have aJ:∀ i,i<d.ws.length->wrQ d i=true:=fun i hi=>aA i (by have:=B;omega)
 refine Q9<|Xk<|Xk<|X02 ?_;refine aN _ _<|Q5 fun _ aX=>?_;refine Zs e fun _ aY=>?_;refine Ze (Vd rfl Xf 1)<|Ze (X0 rfl Xz (m.at 1))<|Ze (X09 rfl Xm)<|Zm rfl<|Zt aY fun a e=>?_;refine Q8<|X01 (σ:=Nat) (fun (j:Nat) (a:Act) (w:World)=>Fr a 80 [(1,(pZ9 b4)),(69,vi (md:Int)),(70,vi (j:Int))]/\(j<=d.ns.length)/\(∀ i:Nat,i<j->ndQ d (i:Int)=true)/\Blk w b4 39 [vi d.n,.slice Ad md cd,.slice Bd d.ws.length dd,vi d.t,vi d.r]/\d.ws.length<=dd/\Below w0.heap.size w0 w) (fun (j:Nat)=>d.ns.length-j) 0 ?_ ?_
 ·exact ⟨e.sb,(Qf _),(fun i hi=>by omega),m,G,o⟩
 rintro j a w8 ⟨e,hj,aC,m,G,o⟩;refine Zs e fun _ aZ=>?_;refine Ze (X0n rfl rfl)<|ZX aZ fun a e _ b0=>?_
 refine Xi e rfl (fun D=>?_) (fun D=>?_)
 ·have aK:=D;have D:=Q2 D
  have bF:j<d.ns.length:=by have:=D;omega
  refine Q7<|b0 _ _<|Q5 fun _ b1=>?_;refine Q8<|Zs e fun _ b2=>?_;refine Zm rfl<|Za rfl<|Zx b2 fun a e _ b3=>?_;refine Ze (Vn X2 m)<|Zm rfl<|Zf (Vc (Y0g _ d md J Ad cd (a8.bx o).top Bd dd (L.bx o).top G (j:Int) ⟨by omega,by omega⟩ (by omega) ⟨by omega,by omega⟩) Xo5) ?_;rintro _ w9 ⟨rfl,I⟩;have m:=m.bw I;have o:=btr o I;refine Ze (X0w rfl)<|Zt b3 fun a e=>?_
  refine Xi e rfl (fun U=>?_) (fun U=>?_)
  ·have aL:=U
   have H:goodD d=false:=Xun bF (by have h8:=U;simpa using h8)
   refine Zs e fun _ b5=>?_;refine Za rfl<|Zt b5 fun a e=>?_;refine Q6<|Xw<|X8<|X8 ?_;refine Xw<|X8<|X6 e (Xp e rfl rfl) ?_;exact ⟨by rw [H],o⟩
  have aL:=U
  have aI:ndQ d (j:Int)=true:=by have h8:=U;simpa using h8
  refine Q7<|Xa<|b1 _ _<|Zr e ?_;refine Ze (Xs rfl rfl (by omega) (by omega))<|Zm rfl ?_;refine Zn fun a e=>?_;refine Xc ?_;exact ⟨j+1,⟨e.sb,(by omega),(fun i hi=>by by_cases h9:i=j;rw [h9];exact aI;exact aC i (by omega)),m,G,o⟩,(by omega)⟩
 have aK:=D;have D:=Q1 D
 have H:goodD d=endQ d:=Xvy bC aJ fun i hi=>aC i (by have:=D;omega)
 refine Q9<|Xk<|Xk<|X02 ?_;refine aX _ _<|Zs e fun _ b6=>?_;refine Ze (Vn X2 m)<|Zf (Vc (Y0w _ d md J Ad cd (a8.bx o).top Bd dd (L.bx o).top G (by omega) ⟨by omega,by omega⟩) Xnx) ?_;rintro _ bS ⟨rfl,I⟩;have o:=btr o I;refine Za rfl<|Zt b6 fun a e=>?_
 refine Q6 (X6 e (Xp e rfl rfl) ?_)
 exact ⟨by rw [H],o⟩
def RgW(N:Nat)(ws:List Wr) : Prop:=∀ x ∈ ws,(0<=x.a/\x.a<N)/\(0<=x.b/\x.b<N)
def spN(ns:List Nd) : Nat:=(ns.filter fun x=>x.k==3).length
theorem Xa5{N:Nat}{ws:List Wr}{a b:Int}{h:Bool}(hw:RgW N ws)(ha:0<=a/\a<N)(hb:0<=b/\b<N) : RgW N (jnW ws a b h):=fun x hx=>by
 rcases X6c.1 hx with rfl|hx
 ·dsimp only;omega
 ·exact hw x hx
theorem Xf5{N:Nat}{ws:List Wr}(hw:RgW N ws)(i:Nat) : RgW N (ctW ws i):=fun x hx=>hw x ((X3f ws i).subset hx)
theorem Y3r{N:Nat}{ws:List Wr}(hw:RgW N ws)(k:Int) : RgW N (dpW ws k):=fun x hx=>hw x (List.mem_filter.1 hx).1
theorem X85:∀ (ns:List Nd) (k:Nat) (x:Nd),k<ns.length->spN (ns.set k x)+(if (ns.getD k nZ).k=3 then 1 else 0)=spN ns+(if x.k=3 then 1 else 0)
 | [],_,_,h=>by simp at h
 | y::ns,0,x,_=>by
  unfold spN
  simp only [List.set_cons_zero,List.filter_cons,List.getD_cons_zero,beq_iff_eq]
  split<;>split<;>simp
 | y::ns,k+1,x,h=>by
  have ih:=X85 ns k x (by simpa using h)
  unfold spN at ih ⊢
  simp only [List.set_cons_succ,List.filter_cons,List.getD_cons_succ,beq_iff_eq]
  split<;>(try simp only [Qs])<;>omega
theorem Xiu(ns:List Nd)(x m:Int) : spN (adN ns x m)=spN ns:=by
 by_cases h:x.toNat<ns.length
 ·have h1:=X85 ns x.toNat { ns.getD x.toNat nZ with p:=((ns.getD x.toNat nZ).p+m) % 8 } h
  unfold adN
  dsimp only at h1 ⊢
  omega
 ·unfold adN
  rw [List.set_eq_of_length_le (by omega)]
theorem Xux{ns:List Nd}(k:Int) : spN (dpN ns k)<=spN ns:=by
 by_cases h:k.toNat<ns.length
 ·have h1:=X85 ns k.toNat nZ h
  have h2:(if nZ.k=3 then 1 else 0:Nat)=0:=rfl
  rw [h2] at h1
  unfold dpN
  omega
 ·unfold dpN
  rw [List.set_eq_of_length_le (by omega)]
  exact Qb _
theorem Xfh{ns:List Nd}{k:Int}(hs:spI ns k=true) : spN (dpN ns k)<spN ns:=by
 obtain ⟨_,h,h3⟩:=X0f hs;have h1:=X85 ns k.toNat nZ h
 have h2:(if nZ.k=3 then 1 else 0:Nat)=0:=rfl
 rw [h2,Q4 h3] at h1
 unfold dpN
 omega
structure Nx (N s c:Nat) (d:Dg) : Prop where
 l:d.ns.length=N
 w:RgW N d.ws
 c:d.ws.length<=c
 s:spN d.ns<=s
theorem Nx.mono{N s c s' c':Nat}{d:Dg}(h:Nx N s c d)(hs:s<=s')(hc:c<=c') : Nx N s' c' d:=⟨h.l,h.w,Q0 h.c hc,Q0 h.s hs⟩
theorem Nx.jn{N s c:Nat}{d:Dg}(h:Nx N s c d){a b:Int}{x:Bool}(ha:0<=a/\a<N)(hb:0<=b/\b<N) : Nx N s (c+1) { d with ws:=jnW d.ws a b x }:=
 ⟨h.l,Xa5 h.w ha hb,by have:=h.c;dsimp only;rw [X3u];omega,h.s⟩
theorem Nx.ad{N s c:Nat}{d:Dg}(h:Nx N s c d)(x m:Int) : Nx N s c { d with ns:=adN d.ns x m }:=⟨(X1r _ _ _).trans h.l,h.w,h.c,by dsimp only;rw [Xiu];exact h.s⟩
theorem Nx.dp{N s c:Nat}{d:Dg}(h:Nx N s c d)(k:Int) : Nx N s c (id0 d k):=⟨(X1j _ _).trans h.l,Y3r h.w k,Q0 (X2b _ _) h.c,Q0 (Xux k) h.s⟩
theorem Nx.lk{N s c:Nat}{d:Dg}(h:Nx N s c d){a b:Int}{x:Bool}(ha:0<=a/\a<N)(hb:0<=b/\b<N) : Nx N s (c+1) (lkD d a b x):=by
 have h1:=Xju d a b x
 refine ⟨h1.1.trans h.l,?_,Q0 h1.2 (Nat.succ_le_succ h.c),?_⟩
 ·unfold lkD
  split
  ·exact Xa5 h.w ha hb
  ·split
   ·exact Xf5 h.w _
   ·split
    ·exact Xa5 (Xf5 h.w _) ha hb
    ·exact h.w
 ·unfold lkD
  split
  ·exact h.s
  ·split
   ·exact h.s
   ·split
    ·dsimp only;rw [Xiu];exact h.s
    ·exact h.s
theorem Nx.mt{N s c:Nat}{d:Dg}(h:Nx N s c d){a b:Int}{x:Bool}(ha:0<=a/\a<N)(hb:0<=b/\b<N) : Nx N s (c+1) (mtD d a b x):=by
 unfold mtD
 split
 ·exact h.lk ha hb
 ·exact h.jn ha hb
theorem Nx.tg{N s c:Nat}{d:Dg}(h:Nx N s c d){a b:Int}(ha:0<=a/\a<N)(hb:0<=b/\b<N) : Nx N s (c+1) (tgD d a b):=by
 have h1:=X2d d a b
 refine ⟨by rw [h1.1];exact h.l,?_,Q0 h1.2 (Nat.succ_le_succ h.c),by rw [h1.1];exact h.s⟩
 unfold tgD
 split
 ·exact Xf5 h.w _
 ·exact Xa5 h.w ha hb
theorem Nx.tgl{N s:Nat}{x:Int}(hx:0<=x/\x<N) : ∀ (l:List Int) (c:Nat) (d:Dg),Nx N s c d->(∀ y ∈ l,0<=y/\y<(N:Int))->Nx N s (c+l.length) (tgL d x l)
 | [],c,d,h,_=>h
 | y::l,c,d,h,hl=>by
  have h1:=Nx.tgl hx l (c+1) (tgD d x y) (h.tg hx (hl y (by simp))) fun z hz=>hl z (by simp [hz])
  exact h1.mono (Qb _) (by rw [Qs];omega)
theorem X5u{l:List Int}{N:Nat}(hl:∀ y ∈ l,0<=y/\y<(N:Int)){i:Nat}(hi:i<l.length) : 0<=l.getD i 0/\l.getD i 0<(N:Int):=hl _ (Qe (Xg (d:=0) hi))
theorem Nx.lc{N s c:Nat}{p:Int}{l:List Int}{o:Dg}(h:Nx N s c o)(hl:∀ y ∈ l,0<=y/\y<(N:Int)) : ∀ i,i<=l.length->Nx N s (c+i*l.length) (lcS p l o i)
 | 0,_=>h.mono (Qb _) (by omega)
 | i+1,hi=>by
  have ih:=Nx.lc (p:=p) h hl i (by omega)
  have h1:=Nx.tgl (X5u hl (i:=i) (by omega)) (l.take i) _ _ (ih.ad (l.getD i 0) (8-p)) fun y hy=>hl y (Wd hy)
  refine h1.mono (Qb _) ?_
  rw [Qn,Wb,Nat.one_mul]
  omega
theorem Nx.fu{N s:Nat}{d:Dg}{a b:Int}(ha:0<=a/\a<N) : ∀ (l:List Int) (c:Nat) (o:Dg),Nx N s c o->(∀ y ∈ l,0<=y/\y<(N:Int))->Nx N s (c+l.length) (fuS d a b l o)
 | [],c,o,h,_=>h
 | y::l,c,o,h,hl=>by
  have h0:Nx N s (c+1) (fuT d a b o y):=by
   unfold fuT
   split
   ·exact h.mono (Qb _) (by omega)
   ·exact h.mt ha (hl y (by simp))
  exact (Nx.fu ha l (c+1) (fuT d a b o y) h0 fun z hz=>hl z (by simp [hz])).mono (Qb _) (by rw [Qs];omega)
theorem Nx.st{N s c:Nat}{d:Dg}(h:Nx N s c d)(q:Bool)(x m:Int) : Nx N s c (stN q d x m):=by
 unfold stN
 split
 ·exact h.ad x m
 ·exact h
theorem Nx.pf{N s:Nat}{l m:List Int}{x:Int}(hx:0<=x/\x<N) : ∀ (r:List Int) (c:Nat) (o:Dg),Nx N s c o->(∀ y ∈ r,0<=y/\y<(N:Int))->Nx N s (c+r.length) (pvF l m x r o)
 | [],c,o,h,_=>h
 | y::r,c,o,h,hl=>by
  have h0:Nx N s (c+1) (pvT l m x o y):=by
   unfold pvT
   split
   ·exact h.tg hx (hl y (by simp))
   ·exact h.mono (Qb _) (by omega)
  exact (Nx.pf hx r (c+1) (pvT l m x o y) h0 fun z hz=>hl z (by simp [hz])).mono (Qb _) (by rw [Qs];omega)
theorem Nx.pm{N s c:Nat}{e f:Int}{l m r:List Int}{o:Dg}(h:Nx N s c o)(hl:∀ y ∈ r,0<=y/\y<(N:Int)) : ∀ i,i<=r.length->Nx N s (c+i*r.length) (pvM e f l m r o i)
 | 0,_=>h.mono (Qb _) (by omega)
 | i+1,hi=>by
  have ih:=Nx.pm (e:=e) (f:=f) (l:=l) (m:=m) h hl i (by omega)
  have hg:=X5u hl (i:=i) (by omega)
  have h1:=Nx.pf (l:=l) (m:=m) hg (r.take i) _ _ (((ih.st (l.any fun v=>v==r.getD i 0) (r.getD i 0) f).st (m.any fun v=>v==r.getD i 0) (r.getD i 0) e).st ((l.any fun v=>v==r.getD i 0)&&(m.any fun v=>v==r.getD i 0)) (r.getD i 0) 4) fun y hy=>hl y (Wd hy)
  refine h1.mono (Qb _) ?_
  rw [Qn,Wb,Nat.one_mul]
  omega
theorem InD.rg{d:Dg}(h:InD d) : RgW d.ns.length d.ws:=fun x hx=>by
 have e:=h.e x hx
 have l:=h.w.l x hx
 omega
theorem InD.nx{d:Dg}(h:InD d) : Nx d.ns.length (spN d.ns) 1000001 d:=⟨rfl,h.rg,h.len,Qb _⟩
theorem nx0{d:Dg}(h:InD d){k:Int}(hs:spI d.ns k=true) : Nx d.ns.length (spN d.ns-1) 1000001 (id0 d k):=by
 have h1:=h.nx.dp k
 have h2:spN (dpN d.ns k)<spN d.ns:=Xfh hs
 exact ⟨h1.l,h1.w,h1.c,by show spN (dpN d.ns k)<=_;omega⟩
theorem X79{ns:List Nd}{k:Int}(hs:spI ns k=true) : 0<spN ns:=by
 have:=Xfh hs
 omega
theorem X6u{d:Dg}(h:InD d)(k:Int) : ∀ y ∈ nearW d.ws k,0<=y/\y<(d.ns.length:Int):=fun y hy=>by have:=X1i h hy;omega
theorem Xst{a n:Nat}(h:a<=2000)(h2:n<=2000) : a*n<=4000000:=Q0 (Nat.mul_le_mul h h2) (by decide)
theorem Xw5{N s c:Nat}{d:Dg}(h:Nx N s c d)(t r:Int) : Nx N s c { d with t:=t,r:=r }:=⟨h.l,h.w,h.c,h.s⟩
theorem Xjz{d:Dg}(h:InD d){r:Rz}(hc:doC d r=true) : Nx d.ns.length (spN d.ns-1) 9000000 (doD d r)/\0<spN d.ns:=by
 unfold doC at hc
 unfold doD
 split at hc
 ·rename_i h1
  rw [Q4 h1]
  have hs:=X53 hc
  unfold fuC at hc
  simp only [Qd] at hc
  refine ⟨?_,X79 hc.1.1.2⟩
  have h0:=(nx0 h hc.1.1.2).ad r.a (d.ns.getD r.b.toNat nZ).p;exact (Nx.fu (d:=d) (a:=r.a) (b:=r.b) ⟨hs.1.1,by omega⟩ (nearW d.ws r.b) _ _ h0 (X6u h r.b)).mono (Qb _) (by have:=X3j h r.b;have:=h.m;omega)
 rename_i h1
 rw [Q3 h1]
 split at hc
 ·rename_i h2
  rw [Q4 h2]
  unfold pvC at hc
  simp only [Qd] at hc
  have hsa:=hc.1.1.1.1.1.1.1.1
  refine ⟨?_,X79 hsa⟩
  have h0:=(nx0 h hsa).dp r.b;have h3:=Xam h r.a r.b;have h4:=h.m
  unfold pvD
  refine Xw5 ?_ _ _
  refine (Nx.pm h0 ?_ _ (Qb _)).mono (Qb _) (by have:=Xst (a:=(pvL d r.a r.b).length) (n:=(pvL d r.a r.b).length) (by omega) (by omega);omega)
  intro y hy;obtain ⟨i,hi⟩:=List.mem_iff_getElem?.1 hy
  have:=Xbp h hi
  omega
 rename_i h2
 rw [Q3 h2]
 split at hc
 ·cases hc
 split at hc
 ·rename_i h3
  rw [Q4 h3]
  unfold idC at hc
  simp only [Qd,beq_iff_eq] at hc
  refine ⟨?_,X79 hc.1.1⟩
  have g0:=X5u (X6u h r.a) (i:=0) (by omega)
  have g1:=X5u (X6u h r.a) (i:=1) (by omega)
  exact ((nx0 h hc.1.1).mt g0 g1).mono (Qb _) (by omega)
 rename_i h3
 rw [Q3 h3]
 split at hc
 ·rename_i h4
  rw [Q4 h4]
  unfold lcC at hc
  simp only [Qd] at hc
  have hsa:=hc.1.1.1
  refine ⟨?_,X79 hsa⟩
  have h5:=X3j h r.a;have h6:=h.m
  unfold lcD
  refine Xw5 ?_ _ _
  exact (Nx.lc (nx0 h hsa) (X6u h r.a) _ (Qb _)).mono (Qb _) (by have:=Xst (a:=(nearW d.ws r.a).length) (n:=(nearW d.ws r.a).length) (by omega) (by omega);omega)
 rename_i h4
 rw [Q3 h4]
 split at hc
 ·unfold loC at hc
  simp only [Qd] at hc
  refine ⟨?_,X79 hc.1.1⟩
  exact (Xw5 (nx0 h hc.1.1) d.t _).mono (Qb _) (by omega)
 ·cases hc
def zD:Dg:=⟨0,[],[],0,0⟩
def outD(d:Dg) : Dg:={ d with t:=d.t.tmod 8 }
def apC(d:Dg)(r:Rz) : Bool:=doC d r&&goodD (outD (doD d r))
def apD(d:Dg)(r:Rz) : Dg:=outD (doD d r)
theorem Xah:∀ (l:List Wr),(∀ i,i+1<l.length->wlt (l.getD i wZ) (l.getD (i+1) wZ)=true)->WSd l
 | [],_=>List.Pairwise.nil
 | [x],_=>by simp
 | x::y::l,h=>by
  have h0:=h 0 (by simp)
  have ih:=Xah (y::l) fun i hi=>by
   have:=h (i+1) (by simpa using hi)
   simpa using this
  have h2:=W8.1 ih
  refine W8.2 ⟨fun z hz=>?_,ih⟩
  rcases Qv.1 hz with rfl|hz
  ·simpa using h0
  ·exact Xem (by simpa using h0) (h2.1 z hz)
theorem X23{d:Dg}(h:goodD d=true) : hdQ d=true/\(∀ i,i<d.ws.length->wrQ d i=true)/\(∀ i:Nat,i<d.ns.length->ndQ d (i:Int)=true)/\endQ d=true:=by
 unfold goodD at h
 simp only [Qd,W1,W2] at h
 exact ⟨h.1.1.1,h.1.1.2,h.1.2,h.2⟩
theorem X1b{d:Dg}(h:goodD d=true) : (1<=d.n/\d.n<=5)/\d.ns.length<=40/\(0<=d.t/\d.t<=7)/\-60<=d.r/\d.r<=60:=by
 have h1:=(X23 h).1
 unfold hdQ at h1
 exact (Xio (by simpa using h1)).2
theorem Xfl{d:Dg}(h:goodD d=true){i:Nat}{x:Nd}(hx:d.ns[i]? = some x) : (0<=x.k/\x.k<=3)/\(0<=x.p/\x.p<=7):=by
 have h1:=(X23 h).2.2.1 i (Qg.1 hx).1;have h2:=X1b h
 have hg:d.ns.getD ((i:Int)).toNat nZ=x:=by rw [Qj,Qa,hx];rfl
 unfold ndQ at h1
 rw [hg] at h1
 split at h1
 ·rename_i hk
  simp only [Qd,beq_iff_eq] at h1 hk
  omega
 split at h1
 ·rename_i hk
  simp only [Qd,Bool.or_eq_true,beq_iff_eq,X0o] at h1 hk
  omega
 ·simp only [Qd,beq_iff_eq,X0o] at h1
  omega
theorem Xbr{d:Dg}(h:goodD d=true){i:Nat}{x:Wr}(hx:d.ws[i]? = some x) : 0<=x.a/\x.a<x.b/\x.b<d.ns.length/\(0<i->wlt (d.ws.getD (i-1) wZ) x=true):=by
 have h1:=(X23 h).2.1 i (Qg.1 hx).1
 rw [Xf2 hx] at h1
 simp only [Bool.not_eq_true',Bool.or_eq_false_iff,Bool.not_eq_false',X0o,decide_eq_false_iff_not,Bool.and_eq_false_iff] at h1
 refine ⟨by omega,by omega,by omega,fun h0=>?_⟩
 rcases h1.2 with h3|h3
 ·omega
 ·exact h3
theorem X0e{d:Dg}(h:goodD d=true) : InD d:=by
 refine ⟨⟨Xah _ fun i hi=>?_,fun x hx=>?_⟩,fun x hx=>?_,fun x hx=>?_,by have:=X1b h;omega⟩
 ·have:=(Xbr h (Xg (d:=wZ) hi)).2.2.2 (by omega)
  simpa using this
 ·obtain ⟨i,hi⟩:=List.mem_iff_getElem?.1 hx;exact (Xbr h hi).2.1
 ·obtain ⟨i,hi⟩:=List.mem_iff_getElem?.1 hx
  have:=Xbr h hi
  omega
 ·obtain ⟨i,hi⟩:=List.mem_iff_getElem?.1 hx;exact (Xfl h hi).2
theorem X48{d:Dg}{r:Rz}(h:apC d r=true) : goodD (apD d r)=true:=by
 unfold apC at h
 simp only [Qd] at h
 exact h.2
theorem Xdi{d:Dg}(hd:InD d){r:Rz}(h:apC d r=true) : spN (apD d r).ns<spN d.ns:=by
 unfold apC at h
 simp only [Qd] at h
 have h1:=Xjz hd h.1;have h2:=h1.1.s
 show spN (doD d r).ns<_
 omega
theorem Xsn{d:Dg}{r:Rz}(h1:doC d r=false) : apC d r=false:=by unfold apC;rw [h1];rfl
theorem Xsd{N:Nat}{ws:List Wr}(h:RgW N ws)(hN:N<=1000) : ∀ x ∈ ws,-1000000<=x.b/\x.b<=1000000:=fun x hx=>by have:=h x hx;omega
def alR(d:Dg)(u:Int)(a j:Nat) : List Rz:=((List.range j).map fun (b:Nat)=>(⟨u,a,b⟩ : Rz)).filter (apC d)
def alS(d:Dg)(u:Int)(k:Nat) : List Rz:=(List.range k).flatMap fun a=>alR d u a d.ns.length
def alL(d:Dg)(u:Int) : List Rz:=alS d u d.ns.length
theorem Y35{d:Dg}{u:Int}{a j:Nat}(h:apC d ⟨u,a,j⟩=true) : alR d u a (j+1)=alR d u a j++[⟨u,a,j⟩]:=by
 unfold alR
 rw [List.range_succ,List.map_append,List.filter_append]
 simp [h]
theorem Y3k{d:Dg}{u:Int}{a j:Nat}(h:apC d ⟨u,a,j⟩=false) : alR d u a (j+1)=alR d u a j:=by
 unfold alR
 rw [List.range_succ,List.map_append,List.filter_append]
 simp [h]
theorem Xlq(d:Dg)(u:Int)(k:Nat) : alS d u (k+1)=alS d u k++alR d u k d.ns.length:=by
 unfold alS
 rw [List.range_succ,List.flatMap_append]
 simp
theorem Xfa(d:Dg)(u:Int)(a j:Nat) : (alR d u a j).length<=j:=by
 unfold alR
 exact Q0 (List.length_filter_le _ _) (by simp)
theorem Xb5(d:Dg)(u:Int) : ∀ k,(alS d u k).length<=k*d.ns.length
 | 0=>by simp [alS]
 | k+1=>by
  rw [Xlq,Qh,Wb,Nat.one_mul]
  have h1:=Xb5 d u k;have h2:=Xfa d u k d.ns.length
  omega
theorem Xq1{d:Dg}{u:Int}{a j:Nat}{r:Rz}(h:r ∈ alR d u a j) : apC d r=true:=(List.mem_filter.1 h).2
theorem Xqm{d:Dg}{u:Int}{r:Rz}(h:r ∈ alL d u) : apC d r=true:=by
 unfold alL alS at h
 obtain ⟨a,_,h⟩:=List.mem_flatMap.1 h;exact Xq1 h
def fsF(d:Dg) : List Int->Option Rz
 | []=>none
 | u::l=>match alL d u with
  | r::_=>some r
  | []=>fsF d l
def rwZ:Rz:=⟨0,0,0⟩
theorem Xe1{d:Dg} : ∀ (l m:List Int),fsF d l=none->fsF d (l++m)=fsF d m
 | [],_,_=>rfl
 | u::l,m,h=>by
  have e:∀ q,fsF d (u::q)=match alL d u with
   | r::_=>some r
   | []=>fsF d q:=fun _=>rfl
  rw [e] at h
  rw [Wa,e]
  cases ha:alL d u with
  | nil=>
   rw [ha] at h
   exact Xe1 l m h
  | cons r t=>rw [ha] at h;cases h
theorem Xt2{d:Dg}{l:List Int}{k:Nat}{u:Int}(h:fsF d (l.take k)=none)(hu:l[k]? = some u)(ha:alL d u=[]) : fsF d (l.take (k+1))=none:=by
 rw [Qt,hu,Option.toList_some,Xe1 _ _ h]
 unfold fsF
 rw [ha]
 rfl
theorem Xlo{d:Dg}{l:List Int}{k:Nat}{u:Int}(h:fsF d (l.take k)=none)(hu:l[k]? = some u)(ha:0<(alL d u).length) : fsF d l=some ((alL d u).getD 0 rwZ):=by
 have hl:l=l.take k++(u::l.drop (k+1)):=by
  obtain ⟨hk,e⟩:=Qg.1 hu
  rw [<- e,<- Qy hk,W9]
 rw [hl,Xe1 _ _ h]
 unfold fsF
 cases hc:alL d u with
 | nil=>rw [hc] at ha;simp at ha
 | cons r t=>rfl
theorem Xnj{d:Dg}{l:List Int}{k:Nat}(h:fsF d (l.take k)=none)(hk:l.length<=k) : fsF d l=none:=by rwa [Qi hk] at h
theorem X42{d:Dg}{r:Rz} : ∀ {l:List Int},fsF d l=some r->apC d r=true
 | [],h=>by cases h
 | u::l,h=>by
  unfold fsF at h
  cases ha:alL d u with
  | nil=>rw [ha] at h;exact X42 h
  | cons x t=>
   rw [ha] at h
   injection h with h
   subst h
   exact Xqm (u:=u) (by rw [ha];simp)
def siF:Nat->Dg->List Int->Dg×List Rz
 | 0,d,_=>(d,[])
 | n+1,d,l=>match fsF d l with
  | none=>(d,[])
  | some r=>((siF n (apD d r) l).1,r::(siF n (apD d r) l).2)
def siD(d:Dg)(l:List Int) : Dg:=(siF (spN d.ns) d l).1
def siL(d:Dg)(l:List Int) : List Rz:=(siF (spN d.ns) d l).2
theorem Xeb{l:List Int} : ∀ (n:Nat) (d:Dg),InD d->spN d.ns<=n->siF n d l=siF (spN d.ns) d l
 | 0,d,_,h=>by rw [show spN d.ns=0 by omega]
 | n+1,d,hd,h=>by
  cases hf:fsF d l with
  | none=>
   have h1:siF (n+1) d l=(d,[]):=by unfold siF;rw [hf]
   rw [h1]
   cases hs:spN d.ns with
   | zero=>rfl
   | succ m=>unfold siF;rw [hf]
  | some r=>
   have hc:=X42 hf;have hlt:=Xdi hd hc
   obtain ⟨m,hm⟩ : ∃ m,spN d.ns=m+1:=⟨spN d.ns-1,by omega⟩
   rw [hm]
   have e1:=Xeb (l:=l) n (apD d r) (X0e (X48 hc)) (by omega)
   have e2:=Xeb (l:=l) m (apD d r) (X0e (X48 hc)) (by omega)
   unfold siF
   rw [hf]
   dsimp only
   rw [e1,e2]
theorem X6r{d:Dg}{l:List Int}{r:Rz}(hd:InD d)(hf:fsF d l=some r) : siD d l=siD (apD d r) l/\siL d l=r::siL (apD d r) l:=by
 have hc:=X42 hf;have hlt:=Xdi hd hc
 obtain ⟨m,hm⟩ : ∃ m,spN d.ns=m+1:=⟨spN d.ns-1,by omega⟩
 have e2:=Xeb (l:=l) m (apD d r) (X0e (X48 hc)) (by omega)
 have e3:siF (m+1) d l=((siF m (apD d r) l).1,r::(siF m (apD d r) l).2):=by rw [siF,hf]
 unfold siD siL
 rw [hm,e3,e2]
 exact ⟨rfl,rfl⟩
theorem X8o{d:Dg}{l:List Int}(hf:fsF d l=none) : siD d l=d/\siL d l=[]:=by
 unfold siD siL
 cases hs:spN d.ns with
 | zero=>exact ⟨rfl,rfl⟩
 | succ m=>unfold siF;rw [hf];exact ⟨rfl,rfl⟩
theorem Xg9{l:List Int} : ∀ (n:Nat) (d:Dg),(siF n d l).2.length<=n
 | 0,d=>by simp [siF]
 | n+1,d=>by
  unfold siF
  cases hf:fsF d l with
  | none=>simp
  | some r=>have:=Xg9 (l:=l) n (apD d r);simp only [Qs];omega
def spK(ns:List Nd)(k:Nat) : List Int:=((List.range k).filter fun i=>(ns.getD i nZ).k==3).map fun (i:Nat)=>(i:Int)
def spL(ns:List Nd) : List Int:=spK ns ns.length
theorem Xzo{ns:List Nd}{k:Nat}{x:Nd}(hx:ns[k]? = some x)(h:(x.k==3)=true) : spK ns (k+1)=spK ns k++[(k:Int)]:=by
 have e:ns.getD k nZ=x:=by rw [Qa,hx];rfl
 unfold spK
 rw [List.range_succ,List.filter_append]
 simp only [List.filter_cons,e,h,List.filter_nil,if_true,List.map_append,List.map_cons,List.map_nil]
theorem Y3x{ns:List Nd}{k:Nat}{x:Nd}(hx:ns[k]? = some x)(h:(x.k==3)=false) : spK ns (k+1)=spK ns k:=by
 have e:ns.getD k nZ=x:=by rw [Qa,hx];rfl
 unfold spK
 rw [List.range_succ,List.filter_append]
 simp only [List.filter_cons,e,h,List.filter_nil,List.append_nil,Bool.false_eq_true,if_false]
theorem Xb8(ns:List Nd)(k:Nat) : (spK ns k).length<=k:=by
 unfold spK
 rw [Qo]
 exact Q0 (List.length_filter_le _ _) (by simp)
theorem Xe8(ns:List Nd) : spN ns<=ns.length:=List.length_filter_le _ _
theorem Xdd{l:List Int} : ∀ (n:Nat) (d:Dg),goodD d=true->goodD (siF n d l).1=true
 | 0,d,h=>h
 | n+1,d,h=>by
  unfold siF
  cases hf:fsF d l with
  | none=>exact h
  | some r=>exact Xdd n _ (X48 (X42 hf))
theorem X6s{d:Dg}(l:List Int)(h:goodD d=true) : goodD (siD d l)=true:=Xdd _ d h
theorem Y0k(k:World)(d:Dg)(md:Nat)(m:md=d.ns.length)(Ad:Option Addr)(cd:Nat)(o:Rd k k.heap.size 81 encNd Ad d.ns)(Bd:Option Addr)(dd:Nat)(p:Rd k k.heap.size 83 encWr Bd d.ws)(q:d.ws.length<=dd)(aD:d.ws.length<=1000000000)(aE:∀ x ∈ d.ws,-1000000<=x.b/\x.b<=1000000) : Ret Tryz.prog 80 [.agg #[vi d.n,.slice Ad md cd,.slice Bd d.ws.length dd,vi d.t,vi d.r]] k (fun v w=>∃ A c1 B e,v=.tuple #[.agg #[vi (if (goodD (outD d))=true then outD d else zD).n,.slice A (if (goodD (outD d))=true then outD d else zD).ns.length c1,.slice B (if (goodD (outD d))=true then outD d else zD).ws.length e,vi (if (goodD (outD d))=true then outD d else zD).t,vi (if (goodD (outD d))=true then outD d else zD).r],.bool (goodD (outD d))]/\Rd w w.heap.size 81 encNd A (if (goodD (outD d))=true then outD d else zD).ns/\Rd w w.heap.size 83 encWr B (if (goodD (outD d))=true then outD d else zD).ws/\(if (goodD (outD d))=true then outD d else zD).ws.length<=e/\Below k.heap.size k w):=by
 refine enter Tryz.func80 rfl 13 rfl rfl ?_;intro a j
 have g:=bz k
 refine Zs j fun _ aF=>?_;refine Zf (X0l (zs:=[vi d.n,.slice Ad md cd,.slice Bd d.ws.length dd,vi d.t,vi d.r]) rfl rfl) ?_;rintro _ w1 ⟨b4,rfl,aG,u,f⟩;have a7:=Q0 g.size aG;have g:=btr g u;refine Zf (Xq (zs:=[vi 0,.slice none 0 0,.slice none 0 0,vi 0,vi 0]) X0h rfl) ?_;rintro _ w2 ⟨b7,rfl,aH,u,c⟩
 have aC:b4≠b7:=by have:=f.lt;omega
 have y:=Q0 g.size aH;have f:=f.bw u;have g:=btr g u;refine Za rfl<|Zx aF fun a j _ aI=>?_;refine Ze (Vd rfl X0q 3)<|Ze (X0 rfl X9 (f.at 3))<|Ze (X3k rfl rfl rfl)<|Ze (Vd rfl X0q 3)<|Zo (Vu (vs:=[vi (d.t.tmod 8)]) (l':=[vi d.n,.slice Ad md cd,.slice Bd d.ws.length dd,vi (d.t.tmod 8),vi d.r]) rfl rfl X0b f) ?_;rintro _ w3 ⟨ho,hb⟩;have h:=f;have c:=c.oy ho (by omega);have g:=Below.oy g ho a7;have f:=hb;refine ZX aI fun a j _ aJ=>?_;refine Zs j fun _ a8=>?_;refine Ze (Vn X2 f)<|Zf (Vc (Xgy _ (⟨d.n,d.ns,d.ws,d.t.tmod 8,d.r⟩ : Dg) md m Ad cd (o.bx g).top Bd dd (p.bx g).top q aD aE) X89) ?_;rintro _ w4 ⟨rfl,u⟩;have f:=f.bw u;have c:=c.bw u;have g:=btr g u;refine Ze (X0w rfl)<|Zt a8 fun a j=>?_
 refine Xi j rfl (fun i=>?_) (fun i=>?_)
 ·have a6:=i
  have aK:goodD (outD d)=false:=by have h8:(!goodD (outD d))=true:=i;simpa using h8
  refine Zs j fun _ aA=>?_;refine Ze (X0s (ps:=[]) (cs:=[vi 0,.slice none 0 0,.slice none 0 0,vi 0,vi 0]) rfl (fun _=>by first|rfl|kernel_rfl))<|Zo (Vw [vi 0,.slice none 0 0,.slice none 0 0,vi 0,vi 0] Xh c) ?_;rintro _ w5 ⟨ho,hb⟩;have h:=c;have g:=Below.oy g ho y;have c:=hb;refine Za rfl<|Zt aA fun a j=>?_;refine Q6<|X8<|X6 j (X1v j rfl (ResV.cellN (l:=[vi 0,.slice none 0 0,.slice none 0 0,vi 0,vi 0]) rfl X2 (c.at 0) rfl) rfl) ?_
  rw [aK,Q3 Bool.false_ne_true]
  exact ⟨none,0,none,0,rfl,(Rd.nil _ _ _ _ _),(Rd.nil _ _ _ _ _),(Qf _),g⟩
 have a6:=i
 have aL:goodD (outD d)=true:=by have h8:(!goodD (outD d))=false:=i;simpa using h8
 refine Q7<|aJ _ _<|Zs j fun _ aB=>?_;refine Ze (Vn X2 f)<|Zo (Vw [vi d.n,.slice Ad md cd,.slice Bd d.ws.length dd,vi (d.t.tmod 8),vi d.r] Xh c) ?_;rintro _ w6 ⟨ho,hb⟩;have h:=c;have g:=Below.oy g ho y;have c:=hb;refine Za rfl<|Zt aB fun a j=>?_
 refine Q6 (X6 j (X1v j rfl (ResV.cellN (l:=[vi d.n,.slice Ad md cd,.slice Bd d.ws.length dd,vi (d.t.tmod 8),vi d.r]) rfl X2 (c.at 0) rfl) rfl) ?_)
 rw [aL,Q4 rfl]
 subst m
 exact ⟨Ad,cd,Bd,dd,rfl,(o.bx g).top,(p.bx g).top,q,g⟩
theorem Xmf(U:World)(d:Dg)(md:Nat)(aC:md=d.ns.length)(Ad:Option Addr)(cd:Nat)(aD:Rd U U.heap.size 81 encNd Ad d.ns)(Bd:Option Addr)(dd:Nat)(aE:Rd U U.heap.size 83 encWr Bd d.ws)(aF:d.ws.length<=dd)(x:Rz)(hD:InD d) : Ret Tryz.prog 68 [.agg #[vi d.n,.slice Ad md cd,.slice Bd d.ws.length dd,vi d.t,vi d.r],.agg #[vi x.u,vi x.a,vi x.b]] U (fun v w=>∃ A c1 B e,v=.tuple #[.agg #[vi (if (apC d x)=true then apD d x else zD).n,.slice A (if (apC d x)=true then apD d x else zD).ns.length c1,.slice B (if (apC d x)=true then apD d x else zD).ws.length e,vi (if (apC d x)=true then apD d x else zD).t,vi (if (apC d x)=true then apD d x else zD).r],.bool (apC d x)]/\Rd w w.heap.size 81 encNd A (if (apC d x)=true then apD d x else zD).ns/\Rd w w.heap.size 83 encWr B (if (apC d x)=true then apD d x else zD).ws/\(if (apC d x)=true then apD d x else zD).ws.length<=e/\Below U.heap.size U w):=by
 refine enter Tryz.func68 rfl 21 rfl rfl ?_;intro a y
 have g:=bz U
 refine Zs y fun _ aS=>?_;refine Zf (X0l (zs:=[vi d.n,.slice Ad md cd,.slice Bd d.ws.length dd,vi d.t,vi d.r]) rfl rfl) ?_;rintro _ w1 ⟨b4,rfl,aT,i,k⟩;have aY:=Q0 g.size aT;have g:=btr g i;refine Zf (X0l (zs:=[vi x.u,vi x.a,vi x.b]) rfl rfl) ?_;rintro _ w2 ⟨b5,rfl,aU,i,a6⟩;have aZ:=Q0 g.size aU;have k:=k.bw i;have g:=btr g i;refine Zf (Xq (zs:=[vi 0,.slice none 0 0,.slice none 0 0,vi 0,vi 0]) X0h rfl) ?_;rintro _ w3 ⟨b8,rfl,aV,i,f⟩
 have aR:b4≠b8:=by have:=k.lt;omega
 have W:=Q0 g.size aV;have k:=k.bw i;have a6:=a6.bw i;have g:=btr g i;refine Za rfl<|Zx aS fun a y _ aW=>?_;refine Ze (Vn X2 k)<|Ze (Vn X1n a6)<|Zf (Vc (Y0o _ d md aC Ad cd (aD.bx g).top Bd dd (aE.bx g).top aF x hD) Xqb) ?_;rintro _ w4 ⟨L,M,N,Q,rfl,o,p,aG,aH,i⟩;have k:=k.bw i;have f:=f.bw i;have g:=btr g i;refine Zm rfl<|Ze (Xo (vs:=[.agg #[vi ((if (doC d x)=true then doD d x else d).n),.slice L md M,.slice N ((if (doC d x)=true then doD d x else d).ws).length Q,vi ((if (doC d x)=true then doD d x else d).t),vi ((if (doC d x)=true then doD d x else d).r)],.bool (doC d x)]) rfl rfl)<|Ze (Xo (vs:=[.agg #[vi ((if (doC d x)=true then doD d x else d).n),.slice L md M,.slice N ((if (doC d x)=true then doD d x else d).ws).length Q,vi ((if (doC d x)=true then doD d x else d).t),vi ((if (doC d x)=true then doD d x else d).r)],.bool (doC d x)]) rfl rfl)<|Zf (Xq (zs:=[vi 0,.slice none 0 0,.slice none 0 0,vi 0,vi 0]) X0h rfl) ?_;rintro _ w5 ⟨b14,rfl,aI,i,h⟩
 have aJ:b4≠b14:=by have:=k.lt;omega
 have aK:b8≠b14:=by have:=f.lt;omega
 have a7:=Q0 g.size aI;have f:=f.bw i;have o:=o.bw i;have p:=p.bw i;have g:=btr g i;refine Zo (Vw [vi ((if (doC d x)=true then doD d x else d).n),.slice L md M,.slice N ((if (doC d x)=true then doD d x else d).ws).length Q,vi ((if (doC d x)=true then doD d x else d).t),vi ((if (doC d x)=true then doD d x else d).r)] Xh h) ?_;rintro _ w6 ⟨J,hb⟩;have j:=h;have f:=f.oy J (by omega);have o:=o.oT J j rfl;have p:=p.oT J j rfl;have g:=Below.oy g J a7;have h:=hb;refine Za rfl<|ZX aW fun a y _ aL=>?_;refine Zs y fun _ aM=>?_;refine Zm rfl<|Ze (X0w rfl)<|Zt aM fun a y=>?_
 refine Xi y rfl (fun q=>?_) (fun q=>?_)
 ·have a8:=q
  have aX:apC d x=false:=Xsn (by have h8:=q;simpa using h8)
  refine Zs y fun _ aN=>?_;refine Ze (X0s (ps:=[]) (cs:=[vi 0,.slice none 0 0,.slice none 0 0,vi 0,vi 0]) rfl (fun _=>by first|rfl|kernel_rfl))<|Zo (Vw [vi 0,.slice none 0 0,.slice none 0 0,vi 0,vi 0] Xh f) ?_;rintro _ w7 ⟨J,hb⟩;have j:=f;have g:=Below.oy g J W;have f:=hb;refine Za rfl<|Zt aN fun a y=>?_;refine Q6<|X8<|X6 y (X1v y rfl (ResV.cellN (l:=[vi 0,.slice none 0 0,.slice none 0 0,vi 0,vi 0]) rfl X2 (f.at 0) rfl) rfl) ?_
  rw [aX,Q3 Bool.false_ne_true]
  exact ⟨none,0,none,0,rfl,(Rd.nil _ _ _ _ _),(Rd.nil _ _ _ _ _),(Qf _),g⟩
 have a8:=q
 have aA:doC d x=true:=by have h8:=q;simpa using h8
 have aO:=Xjz hD aA
 have aB:(if doC d x=true then doD d x else d)=doD d x:=Q4 aA
 refine Q7<|aL _ _<|Zs y fun _ aP=>?_;refine Ze (Vn X2 h)<|Zf (Vc (Y0k _ (if (doC d x)=true then doD d x else d) md aH L M o.top N Q p.top aG (by rw [aB];exact Q0 aO.1.c (by decide)) (by rw [aB];exact Xsd aO.1.w hD.m)) Xpf) ?_;rintro _ w8 ⟨C,D,E,G,rfl,H,I,aQ,i⟩;have f:=f.bw i;have g:=btr g i;refine Ze (Xo (vs:=[.agg #[vi ((if (goodD (outD (if (doC d x)=true then doD d x else d)))=true then outD (if (doC d x)=true then doD d x else d) else zD).n),.slice C ((if (goodD (outD (if (doC d x)=true then doD d x else d)))=true then outD (if (doC d x)=true then doD d x else d) else zD).ns).length D,.slice E ((if (goodD (outD (if (doC d x)=true then doD d x else d)))=true then outD (if (doC d x)=true then doD d x else d) else zD).ws).length G,vi ((if (goodD (outD (if (doC d x)=true then doD d x else d)))=true then outD (if (doC d x)=true then doD d x else d) else zD).t),vi ((if (goodD (outD (if (doC d x)=true then doD d x else d)))=true then outD (if (doC d x)=true then doD d x else d) else zD).r)],.bool (goodD (outD (if (doC d x)=true then doD d x else d)))]) rfl rfl)<|Ze (Xo (vs:=[.agg #[vi ((if (goodD (outD (if (doC d x)=true then doD d x else d)))=true then outD (if (doC d x)=true then doD d x else d) else zD).n),.slice C ((if (goodD (outD (if (doC d x)=true then doD d x else d)))=true then outD (if (doC d x)=true then doD d x else d) else zD).ns).length D,.slice E ((if (goodD (outD (if (doC d x)=true then doD d x else d)))=true then outD (if (doC d x)=true then doD d x else d) else zD).ws).length G,vi ((if (goodD (outD (if (doC d x)=true then doD d x else d)))=true then outD (if (doC d x)=true then doD d x else d) else zD).t),vi ((if (goodD (outD (if (doC d x)=true then doD d x else d)))=true then outD (if (doC d x)=true then doD d x else d) else zD).r)],.bool (goodD (outD (if (doC d x)=true then doD d x else d)))]) rfl rfl)<|Zo (Vw [vi ((if (goodD (outD (if (doC d x)=true then doD d x else d)))=true then outD (if (doC d x)=true then doD d x else d) else zD).n),.slice C ((if (goodD (outD (if (doC d x)=true then doD d x else d)))=true then outD (if (doC d x)=true then doD d x else d) else zD).ns).length D,.slice E ((if (goodD (outD (if (doC d x)=true then doD d x else d)))=true then outD (if (doC d x)=true then doD d x else d) else zD).ws).length G,vi ((if (goodD (outD (if (doC d x)=true then doD d x else d)))=true then outD (if (doC d x)=true then doD d x else d) else zD).t),vi ((if (goodD (outD (if (doC d x)=true then doD d x else d)))=true then outD (if (doC d x)=true then doD d x else d) else zD).r)] Xh f) ?_;rintro _ w9 ⟨J,hb⟩
 have j:=f;have H:=H.oT J j rfl;have I:=I.oT J j rfl;have g:=Below.oy g J W;have f:=hb;refine Za rfl<|Zt aP fun a y=>?_
 refine Q6 (X6 y (X1v y rfl (ResV.cellN (l:=[vi ((if (goodD (outD (if (doC d x)=true then doD d x else d)))=true then outD (if (doC d x)=true then doD d x else d) else zD).n),.slice C ((if (goodD (outD (if (doC d x)=true then doD d x else d)))=true then outD (if (doC d x)=true then doD d x else d) else zD).ns).length D,.slice E ((if (goodD (outD (if (doC d x)=true then doD d x else d)))=true then outD (if (doC d x)=true then doD d x else d) else zD).ws).length G,vi ((if (goodD (outD (if (doC d x)=true then doD d x else d)))=true then outD (if (doC d x)=true then doD d x else d) else zD).t),vi ((if (goodD (outD (if (doC d x)=true then doD d x else d)))=true then outD (if (doC d x)=true then doD d x else d) else zD).r)]) rfl X2 (f.at 0) rfl) rfl) ?_)
 rw [show apC d x=goodD (outD (doD d x)) from by unfold apC;rw [aA,Qw]]
 rw [aB] at *
 exact ⟨C,D,E,G,rfl,H.top,I.top,aQ,g⟩
theorem Xiv(j:World)(d:Dg)(md:Nat)(aD:md=d.ns.length)(Ad:Option Addr)(cd:Nat)(D:Rd j j.heap.size 81 encNd Ad d.ns)(Bd:Option Addr)(dd:Nat)(aY:Rd j j.heap.size 83 encWr Bd d.ws)(o:d.ws.length<=dd)(hN:md<=1000) : Ret Tryz.prog 55 [.agg #[vi d.n,.slice Ad md cd,.slice Bd d.ws.length dd,vi d.t,vi d.r]] j (fun v w=>∃ A c,v=.slice A (spL d.ns).length c/\Own w j.heap.size 3 1 encI A c (spL d.ns)/\Below j.heap.size j w):=by
 refine enter Tryz.func55 rfl 23 rfl rfl ?_;intro a f
 have g:=bz j
 refine Zs f fun _ aO=>?_;refine Zf (X0l (zs:=[vi d.n,.slice Ad md cd,.slice Bd d.ws.length dd,vi d.t,vi d.r]) rfl rfl) ?_;rintro _ w1 ⟨b4,rfl,aP,hE,aQ⟩;have aZ:=Q0 g.size aP;have g:=btr g hE;refine Za rfl<|Zx aO fun a f _ aR=>?_;refine Za rfl<|ZX aR fun a f _ aS=>?_;refine Zs f fun _ aT=>?_;refine Ze (Vd rfl Xf 1)<|Ze (X0 rfl Xz (aQ.at 1))<|Ze (X09 rfl Xm)<|Zm rfl<|Zt aT fun a f=>?_;refine Q8<|X01 (σ:=Nat×(List Int)) (fun (s:Nat×(List Int)) (a:Act) (w:World)=>match s with|(k,m)=>∃ y h,Fr a 23 [(3,.slice y m.length h),(7,.slice Ad md cd),(8,vi (md:Int)),(9,vi (k:Int))]/\(k<=d.ns.length)/\(m=spK d.ns k)/\Own w j.heap.size 3 1 encI y h m/\d.ws.length<=dd/\Below j.heap.size j w) (fun (s:Nat×(List Int))=>match s with|(k,m)=>d.ns.length-k) (0,[]) ?_ ?_
 ·exact ⟨none,0,f.sb,(Qf _),rfl,(Own.nil _ _ _ _ _),o,g⟩
 rintro ⟨k,m⟩ a w2 ⟨y,h,f,hk,hm,b,o,g⟩;have aU:=Xb8 d.ns k
 rw [<- hm] at aU
 refine Zs f fun _ aE=>?_;refine Ze (X0n rfl rfl)<|ZX aE fun a f _ aF=>?_
 refine Xi f rfl (fun e=>?_) (fun e=>?_)
 ·have a6:=e;have e:=Q2 e
  obtain ⟨u9,a7⟩:=X4 (l:=d.ns) (k:=k) (by have:=e;omega)
  refine Q7<|aF _ _<|Q5 fun _ E=>?_;refine Q8<|Zs f fun _ aG=>?_;refine Zm rfl<|Zj (k:=k) (u:=u9) (enc:=encNd) (l:=d.ns) tv0 rfl aD rfl Xm X06 Xv (D.bx g) a7 (by omega) ?_;intro b0 a8;refine Ze (X03 (l:=[vi u9.k,vi u9.p]) rfl X22 a8 rfl)<|Zf (Xq (zs:=[vi 0,vi 0]) X6g rfl) ?_;rintro _ w3 ⟨b1,rfl,G,hE,q⟩;have aA:=Q0 g.size G;have aH:=(D.bx g).away G;have b:=b.bw hE;have g:=btr g hE;refine Za rfl<|Zo (Vw [vi u9.k,vi u9.p] X06 q) ?_;rintro _ w4 ⟨ho,hb⟩;have aI:=q;have b:=b.oT ho aI rfl;have g:=Below.oy g ho aA;have q:=hb;refine Zx aG fun a f _ aJ=>?_;refine Ze (Vd rfl X12 0)<|Ze (X0 rfl X9 (q.at 0))<|Ze (X0k rfl rfl)<|Zt aJ fun a f=>?_
  refine Xi f rfl (fun i=>?_) (fun i=>?_)
  ·have aB:=i;have B:=Xzo a7 i
   rw [<- hm] at B
   refine Zr f<|Zm rfl<|Zm rfl<|Zf (Xn (k:=1) (vs:=[vi (k:Int)]) (zs:=[vi (k:Int)]) rfl Xj X1g rfl rfl) ?_;rintro _ w5 ⟨b2,rfl,H,hE,C⟩;have aV:=Q0 g.size H;have x:=b.away H;have b:=b.bw hE;have g:=btr g hE;refine Zf (X0t (enc:=encI) (l:=(m)) (l2:=([(k:Int)])) (B0:=j.heap.size) rfl rfl Xj X1g Xd X1z b (Rd.of_blk C rfl _ C.lt) (by simp only [maxLen];simp;omega) (by simp;omega) g.size) ?_;rintro _ w6 ⟨aW,aX,rfl,aK,hg,aL⟩
   have I:Own _ j.heap.size 3 1 encI _ _ (m):=b
   have aC:=aL _ C.lt x;clear aL;have g:=Below.app g I hg (Qb _) g.size;clear I hg;refine Za rfl ?_;refine Zn fun a f=>?_;refine Xa<|E _ _<|Zr f<|Ze (Xs rfl rfl (by omega) (by omega))<|Zm rfl ?_;refine Zn fun a f=>?_;refine Xc ?_;exact ⟨(k+1,m++([(k:Int)])),⟨aW,aX,f.sb,(by omega),(by rw [B]),aK,o,g⟩,(by first|omega|(dsimp only;omega))⟩
  have aB:=i;have B:=Y3x a7 i
  rw [<- hm] at B
  refine Q7<|Xa<|E _ _<|Zr f ?_;refine Ze (Xs rfl rfl (by omega) (by omega))<|Zm rfl ?_;refine Zn fun a f=>?_;refine Xc ?_;exact ⟨(k+1,m),⟨y,h,f.sb,(by omega),(by rw [B]),b,o,g⟩,(by first|omega|(dsimp only;omega))⟩
 have a6:=e;have e:=Q1 e
 have aM:m=spL d.ns:=by rw [hm,show k=d.ns.length by have:=e;omega];rfl
 refine Q9<|Xk<|Xk<|X02 ?_;refine aS _ _<|Zs f fun _ aN=>?_;refine Zm rfl<|Za rfl<|Zt aN fun a f=>?_
 refine Q6 (X6 f (Xp f rfl rfl) ?_)
 rw [<- aM]
 exact ⟨y,h,rfl,b,g⟩
theorem Xtq(C:World)(d:Dg)(md:Nat)(aO:md=d.ns.length)(Ad:Option Addr)(cd:Nat)(aP:Rd C C.heap.size 81 encNd Ad d.ns)(Bd:Option Addr)(dd:Nat)(aQ:Rd C C.heap.size 83 encWr Bd d.ws)(y:d.ws.length<=dd)(x:Int)(hD:InD d) : Ret Tryz.prog 120 [.agg #[vi d.n,.slice Ad md cd,.slice Bd d.ws.length dd,vi d.t,vi d.r],vi x] C (fun v w=>∃ A c,v=.slice A (alL d x).length c/\Own w C.heap.size 58 3 encRz A c (alL d x)/\Below C.heap.size C w):=by
 have b8:=hD.m;refine enter Tryz.func120 rfl 41 rfl rfl ?_;intro a i
 have o:=bz C
 refine Zs i fun _ b9=>?_;refine Zf (X0l (zs:=[vi d.n,.slice Ad md cd,.slice Bd d.ws.length dd,vi d.t,vi d.r]) rfl rfl) ?_;rintro _ w1 ⟨b4,rfl,bA,h,e⟩;have bL:=Q0 o.size bA;have o:=btr o h;refine Za rfl<|Zx b9 fun a i _ bB=>?_;refine Za rfl<|ZX bB fun a i _ bC=>?_;refine Zs i fun _ bD=>?_;refine Ze (Vd rfl Xf 1)<|Ze (X0 rfl Xz (e.at 1))<|Ze (X09 rfl Xm)<|Zm rfl<|Zt bD fun a i=>?_;refine Q8<|X01 (σ:=Nat×(List Rz)) (fun (s:Nat×(List Rz)) (a:Act) (w:World)=>match s with|(k,m)=>∃ H I,Fr a 41 [(1,vi x),(2,(pZ9 b4)),(5,.slice H m.length I),(13,vi (md:Int)),(14,vi (k:Int))]/\(k<=d.ns.length)/\(m=alS d x k)/\Blk w b4 39 [vi d.n,.slice Ad md cd,.slice Bd d.ws.length dd,vi d.t,vi d.r]/\Own w C.heap.size 58 3 encRz H I m/\d.ws.length<=dd/\Below C.heap.size C w) (fun (s:Nat×(List Rz))=>match s with|(k,m)=>d.ns.length-k) (0,[]) ?_ ?_
 ·exact ⟨none,0,i.sb,(Qf _),rfl,e,(Own.nil _ _ _ _ _),y,o⟩
 rintro ⟨k,m⟩ a w2 ⟨H,I,i,hk,hm,e,U,y,o⟩;have bE:=Xb5 d x k
 rw [<- hm] at bE
 have bP:k*d.ns.length<=1000*1000:=Nat.mul_le_mul (by omega) b8
 refine Zs i fun _ aR=>?_;refine Ze (X0n rfl rfl)<|ZX aR fun a i _ aS=>?_
 refine Xi i rfl (fun p=>?_) (fun p=>?_)
 ·have aA:=p;have p:=Q2 p
  have bQ:k<d.ns.length:=by have:=p;omega
  refine Q7<|aS _ _<|Q5 fun _ aT=>?_;refine Q8<|Zs i fun _ aU=>?_;refine Zm rfl<|Za rfl<|Zx aU fun a i _ aV=>?_;refine Ze (Vd rfl Xf 1)<|Ze (X0 rfl Xz (e.at 1))<|Ze (X09 rfl Xm)<|Zm rfl<|Zt aV fun a i=>?_;refine Q8<|X01 (σ:=Nat×(List Rz)) (fun (s:Nat×(List Rz)) (a:Act) (w:World)=>match s with|(j,g)=>∃ J L,Fr a 41 [(1,vi x),(2,(pZ9 b4)),(5,.slice J g.length L),(6,vi (k:Int)),(13,vi (md:Int)),(14,vi (k:Int)),(19,vi (md:Int)),(20,vi (j:Int))]/\(j<=d.ns.length)/\(g=m++alR d x k j)/\Blk w b4 39 [vi d.n,.slice Ad md cd,.slice Bd d.ws.length dd,vi d.t,vi d.r]/\Own w C.heap.size 58 3 encRz J L g/\d.ws.length<=dd/\Below C.heap.size C w) (fun (s:Nat×(List Rz))=>match s with|(j,g)=>d.ns.length-j) (0,m) ?_ ?_
  ·exact ⟨H,I,i.sb,(Qf _),(by simp [alR]),e,U,y,o⟩
  rintro ⟨j,g⟩ a w3 ⟨J,L,i,hj,W,e,b,y,o⟩;refine Zs i fun _ aW=>?_;refine Ze (X0n rfl rfl)<|ZX aW fun a i _ aX=>?_
  refine Xi i rfl (fun q=>?_) (fun q=>?_)
  ·have aB:=q;have q:=Q2 q
   have bR:j<d.ns.length:=by have:=q;omega
   have bS:g.length<=1000*1000+1000:=by rw [W,Qh];have:=Xfa d x k j;omega
   refine Q7<|aX _ _<|Q5 fun _ a6=>?_;refine Q8<|Zs i fun _ aY=>?_;refine Zm rfl<|Za rfl<|Zx aY fun a i _ aZ=>?_;refine Zm rfl<|Zm rfl<|Zm rfl<|Ze (X0s (ps:=[(0,vi x),(1,vi (k:Int)),(2,vi (j:Int))]) (cs:=[vi x,vi (k:Int),vi (j:Int)]) rfl (fun _=>by first|rfl|kernel_rfl))<|Zf (Xq (zs:=[vi 0,vi 0,vi 0]) X44 rfl) ?_;rintro _ w4 ⟨bF,rfl,a7,h,f⟩;have aC:=Q0 o.size a7;have B:=b.away a7;have e:=e.bw h;have b:=b.bw h;have o:=btr o h;refine Zo (Vw [vi x,vi (k:Int),vi (j:Int)] X27 f) ?_;rintro _ w5 ⟨ho,hb⟩;have E:=f;have e:=e.oz ho E rfl;have b:=b.onlyA ho B;have o:=Below.oy o ho aC;have f:=hb;refine Zx aZ fun a i _ b0=>?_;refine Ze (Vn X2 e)<|Ze (Vn X1n f)<|Zf (Vc (Xmf _ d md aO Ad cd (aP.bx o).top Bd dd (aQ.bx o).top y (⟨x,(k:Int),(j:Int)⟩ : Rz) hD) Xbo) ?_;rintro _ w6 ⟨aD,aE,aF,aG,rfl,bM,bN,bO,h⟩;have e:=e.bw h;have f:=f.bw h;have b:=b.bw h;have o:=btr o h;refine Zm rfl<|Ze (Xo (vs:=[.agg #[vi ((if (apC d (⟨x,(k:Int),(j:Int)⟩ : Rz))=true then apD d (⟨x,(k:Int),(j:Int)⟩ : Rz) else zD).n),.slice aD ((if (apC d (⟨x,(k:Int),(j:Int)⟩ : Rz))=true then apD d (⟨x,(k:Int),(j:Int)⟩ : Rz) else zD).ns).length aE,.slice aF ((if (apC d (⟨x,(k:Int),(j:Int)⟩ : Rz))=true then apD d (⟨x,(k:Int),(j:Int)⟩ : Rz) else zD).ws).length aG,vi ((if (apC d (⟨x,(k:Int),(j:Int)⟩ : Rz))=true then apD d (⟨x,(k:Int),(j:Int)⟩ : Rz) else zD).t),vi ((if (apC d (⟨x,(k:Int),(j:Int)⟩ : Rz))=true then apD d (⟨x,(k:Int),(j:Int)⟩ : Rz) else zD).r)],.bool (apC d (⟨x,(k:Int),(j:Int)⟩ : Rz))]) rfl rfl)<|Ze (Xo (vs:=[.agg #[vi ((if (apC d (⟨x,(k:Int),(j:Int)⟩ : Rz))=true then apD d (⟨x,(k:Int),(j:Int)⟩ : Rz) else zD).n),.slice aD ((if (apC d (⟨x,(k:Int),(j:Int)⟩ : Rz))=true then apD d (⟨x,(k:Int),(j:Int)⟩ : Rz) else zD).ns).length aE,.slice aF ((if (apC d (⟨x,(k:Int),(j:Int)⟩ : Rz))=true then apD d (⟨x,(k:Int),(j:Int)⟩ : Rz) else zD).ws).length aG,vi ((if (apC d (⟨x,(k:Int),(j:Int)⟩ : Rz))=true then apD d (⟨x,(k:Int),(j:Int)⟩ : Rz) else zD).t),vi ((if (apC d (⟨x,(k:Int),(j:Int)⟩ : Rz))=true then apD d (⟨x,(k:Int),(j:Int)⟩ : Rz) else zD).r)],.bool (apC d (⟨x,(k:Int),(j:Int)⟩ : Rz))]) rfl rfl)<|Zf (Xq (zs:=[vi 0,.slice none 0 0,.slice none 0 0,vi 0,vi 0]) X0h rfl) ?_;rintro _ w7 ⟨b30,rfl,b1,h,M⟩
   have b2:b4≠b30:=by have:=e.lt;omega
   have aH:=Q0 o.size b1;have e:=e.bw h;have f:=f.bw h;have b:=b.bw h;have o:=btr o h;refine Zo (Vw [vi ((if (apC d (⟨x,(k:Int),(j:Int)⟩ : Rz))=true then apD d (⟨x,(k:Int),(j:Int)⟩ : Rz) else zD).n),.slice aD ((if (apC d (⟨x,(k:Int),(j:Int)⟩ : Rz))=true then apD d (⟨x,(k:Int),(j:Int)⟩ : Rz) else zD).ns).length aE,.slice aF ((if (apC d (⟨x,(k:Int),(j:Int)⟩ : Rz))=true then apD d (⟨x,(k:Int),(j:Int)⟩ : Rz) else zD).ws).length aG,vi ((if (apC d (⟨x,(k:Int),(j:Int)⟩ : Rz))=true then apD d (⟨x,(k:Int),(j:Int)⟩ : Rz) else zD).t),vi ((if (apC d (⟨x,(k:Int),(j:Int)⟩ : Rz))=true then apD d (⟨x,(k:Int),(j:Int)⟩ : Rz) else zD).r)] Xh M) ?_;rintro _ w8 ⟨ho,hb⟩;have E:=M;have e:=e.oy ho (by omega);have f:=f.oz ho E rfl;have b:=b.oT ho E rfl;have o:=Below.oy o ho aH;have M:=hb;refine Za rfl<|Zx b0 fun a i _ b3=>?_;refine Zm rfl<|Zt b3 fun a i=>?_
   refine Xi i rfl (fun D=>?_) (fun D=>?_)
   ·have aI:=D;have aJ:=Y35 (d:=d) (u:=x) (a:=k) (j:=j) D;refine Zr i<|Zm rfl<|Ze (Vn X1n f)<|Zf (Xn (k:=1) (vs:=[.agg #[vi x,vi (k:Int),vi (j:Int)]]) (zs:=[vi x,vi (k:Int),vi (j:Int)]) rfl X13 X2f rfl rfl) ?_;rintro _ w9 ⟨b33,rfl,a8,h,N⟩
    have aL:bF≠b33:=by have:=f.lt;omega
    have bG:=Q0 o.size a8;have G:=b.away a8;have e:=e.bw h;have f:=f.bw h;have b:=b.bw h;have o:=btr o h;refine Zf (X0t (enc:=encRz) (l:=(g)) (l2:=([(⟨x,(k:Int),(j:Int)⟩ : Rz)])) (B0:=C.heap.size) rfl rfl X13 X2f X2l X5x b (Rd.of_blk N rfl _ N.lt) (by simp only [maxLen];simp;omega) (by simp;omega) o.size) ?_;rintro _ bT ⟨bH,bJ,rfl,b5,W,aK⟩
    have Q:Own _ C.heap.size 58 3 encRz _ _ (g):=b
    have aM:=aK _ f.lt B;have aN:=aK _ N.lt G;clear aK;have e:=e.appT Q W rfl;have o:=Below.app o Q W (Qb _) o.size;clear Q W;refine Za rfl ?_;refine Zn fun a i=>?_;refine Xa<|a6 _ _<|Zr i<|Ze (Xs rfl rfl (by omega) (by omega))<|Zm rfl ?_;refine Zn fun a i=>?_;refine Xc ?_;exact ⟨(j+1,g++([(⟨x,(k:Int),(j:Int)⟩ : Rz)])),⟨bH,bJ,i.sb,(by omega),(by rw [aJ,W];try rw [Qx]),e,b5,y,o⟩,(by first|omega|(dsimp only;omega))⟩
   have aI:=D;have aJ:=Y3k (d:=d) (u:=x) (a:=k) (j:=j) D;refine Q7<|Xa<|a6 _ _<|Zr i ?_;refine Ze (Xs rfl rfl (by omega) (by omega))<|Zm rfl ?_;refine Zn fun a i=>?_;refine Xc ?_;exact ⟨(j+1,g),⟨J,L,i.sb,(by omega),(by rw [aJ,W];try rw [Qx]),e,b,y,o⟩,(by first|omega|(dsimp only;omega))⟩
  have aB:=q;have q:=Q1 q
  have bK:g=alS d x (k+1):=by rw [W,Xlq,show j=d.ns.length by have:=q;omega,hm]
  refine Q9<|Xk<|Xk<|X02 ?_;refine Xa<|aT _ _<|Zr i<|Ze (Xs rfl rfl (by omega) (by omega))<|Zm rfl ?_;refine Zn fun a i=>?_;refine Xc ?_;exact ⟨(k+1,g),⟨J,L,i.sb,(by omega),bK,e,b,y,o⟩,(by first|omega|(dsimp only;omega))⟩
 have aA:=p;have p:=Q1 p
 have b6:m=alL d x:=by rw [hm,show k=d.ns.length by have:=p;omega];rfl
 refine Q9<|Xk<|Xk<|X02 ?_;refine bC _ _<|Zs i fun _ b7=>?_;refine Zm rfl<|Za rfl<|Zt b7 fun a i=>?_
 refine Q6 (X6 i (Xp i rfl rfl) ?_)
 rw [<- b6]
 exact ⟨H,I,rfl,U,o⟩
theorem Y3i(q:World)(d:Dg)(md:Nat)(aD:md=d.ns.length)(Ad:Option Addr)(cd:Nat)(aE:Rd q q.heap.size 81 encNd Ad d.ns)(Bd:Option Addr)(dd:Nat)(aF:Rd q q.heap.size 83 encWr Bd d.ws)(o:d.ws.length<=dd)(Al:Option Addr)(cl:Nat)(l:List Int)(aG:Rd q q.heap.size 3 encI Al l)(hD:InD d)(aZ:l.length<=1000000000) : Ret Tryz.prog 85 [.agg #[vi d.n,.slice Ad md cd,.slice Bd d.ws.length dd,vi d.t,vi d.r],.slice Al l.length cl] q (fun v w=>v=.tuple #[.agg #[vi ((fsF d l).getD rwZ).u,vi ((fsF d l).getD rwZ).a,vi ((fsF d l).getD rwZ).b],.bool ((fsF d l).isSome)]/\Below q.heap.size q w):=by
 refine enter Tryz.func85 rfl 26 rfl rfl ?_;intro a g
 have i:=bz q
 refine Zs g fun _ aQ=>?_;refine Zf (X0l (zs:=[vi d.n,.slice Ad md cd,.slice Bd d.ws.length dd,vi d.t,vi d.r]) rfl rfl) ?_;rintro _ w1 ⟨b5,rfl,aR,y,j⟩;have aX:=Q0 i.size aR;have i:=btr i y;refine Zf (Xq (zs:=[vi 0,vi 0,vi 0]) X44 rfl) ?_;rintro _ w2 ⟨b6,rfl,aS,y,c⟩;have h:=Q0 i.size aS;have j:=j.bw y;have i:=btr i y;refine Za rfl<|ZX aQ fun a g _ aT=>?_;refine Zs g fun _ aU=>?_;refine Zm rfl<|Ze (X09 rfl Xj)<|Zm rfl<|Zt aU fun a g=>?_;refine Q8<|X01 (σ:=Nat) (fun (k:Nat) (a:Act) (w:World)=>Fr a 26 [(2,(pZ9 b5)),(4,(pZ9 b6)),(9,.slice Al l.length cl),(10,vi (l.length:Int)),(11,vi (k:Int))]/\(k<=l.length)/\(fsF d (l.take k)=none)/\Blk w b5 39 [vi d.n,.slice Ad md cd,.slice Bd d.ws.length dd,vi d.t,vi d.r]/\Blk w b6 58 [vi 0,vi 0,vi 0]/\d.ws.length<=dd/\Below q.heap.size q w) (fun (k:Nat)=>l.length-k) 0 ?_ ?_
 ·exact ⟨g.sb,(Qf _),rfl,j,c,o,i⟩
 rintro k a w3 ⟨g,hk,a6,j,c,o,i⟩;refine Zs g fun _ aV=>?_;refine Ze (X0n rfl rfl)<|ZX aV fun a g _ aH=>?_
 refine Xi g rfl (fun e=>?_) (fun e=>?_)
 ·have a7:=e;have e:=Q2 e
  obtain ⟨b0,aY⟩:=X4 (l:=l) (k:=k) (by omega)
  obtain ⟨m,a8⟩:=X4 (l:=l) (k:=k) (by have:=e;omega)
  have b1:=Xb5 d m d.ns.length;refine Q7<|aH _ _<|Q5 fun _ aI=>?_;refine Q8<|Zs g fun _ aJ=>?_;refine Zi (k:=k) (u:=m) (enc:=encI) (l:=l) tv0 rfl rfl Xj X0b Xd (aG.bx i) a8 rfl ?_;intro b2 aA;refine Ze (X0 rfl X9 aA)<|Za rfl<|Zx aJ fun a g _ aK=>?_;refine Ze (Vn X2 j)<|Zm rfl<|Zf (Vc (Xtq _ d md aD Ad cd (aE.bx i).top Bd dd (aF.bx i).top o m hD) Xfr) ?_;rintro _ w4 ⟨b3,b4,rfl,p,y⟩;have aL:=p.awayNew c.lt;have p:=p.lower i.size;have j:=j.bw y;have c:=c.bw y;have i:=btr i y;refine Za rfl<|Zx aK fun a g _ aM=>?_;refine Zm rfl<|Ze (X09 rfl X13)<|Ze (X2y rfl rfl)<|Zt aM fun a g=>?_
  refine Xi g rfl (fun f=>?_) (fun f=>?_)
  ·have aB:=f;have f:=Q2 f
   have A:0<(alL d m).length:=by have:=f;omega
   have x:fsF d l=some ((alL d m).getD 0 rwZ):=Xlo a6 a8 A
   refine Zs g fun _ aN=>?_;refine Zm rfl<|Zi (k:=0) (u:=((alL d m).getD 0 rwZ)) (enc:=encRz) (l:=(alL d m)) tv0 rfl rfl X13 X27 X2l p.rd (Xg A) rfl ?_;intro b7 aC;refine Ze (X03 (l:=[vi (((alL d m).getD 0 rwZ).u),vi (((alL d m).getD 0 rwZ).a),vi (((alL d m).getD 0 rwZ).b)]) rfl X1n aC rfl)<|Zo (Vw [vi (((alL d m).getD 0 rwZ).u),vi (((alL d m).getD 0 rwZ).a),vi (((alL d m).getD 0 rwZ).b)] X27 c) ?_;rintro _ w5 ⟨ho,hb⟩;have aO:=c;have i:=Below.oy i ho h;have c:=hb;refine Za rfl<|Zt aN fun a g=>?_;refine Q6<|Xw<|X8<|X8 ?_;refine Xw<|X8<|X6 g (X1v g rfl (ResV.cellN (l:=[vi (((alL d m).getD 0 rwZ).u),vi (((alL d m).getD 0 rwZ).a),vi (((alL d m).getD 0 rwZ).b)]) rfl X1n (c.at 0) rfl) rfl) ?_;exact ⟨by rw [x];rfl,i⟩
  have aB:=f;have f:=Q1 f
  have aW:fsF d (l.take (k+1))=none:=Xt2 a6 a8 (List.length_eq_zero_iff.1 (by have:=f;omega))
  refine Q7<|Xa<|aI _ _<|Zr g ?_;refine Ze (Xs rfl rfl (by omega) (by omega))<|Zm rfl ?_;refine Zn fun a g=>?_;refine Xc ?_;exact ⟨k+1,⟨g.sb,(by omega),aW,j,c,o,i⟩,(by omega)⟩
 have a7:=e;have e:=Q1 e
 have x:fsF d l=none:=Xnj a6 (by have:=e;omega)
 refine Q9<|Xk<|Xk<|X02 ?_;refine aT _ _<|Zs g fun _ aP=>?_;refine Ze (X0s (ps:=[]) (cs:=[vi 0,vi 0,vi 0]) rfl (fun _=>by first|rfl|kernel_rfl))<|Zo (Vw [vi 0,vi 0,vi 0] X27 c) ?_;rintro _ w6 ⟨ho,hb⟩;have aO:=c;have i:=Below.oy i ho h;have c:=hb;refine Za rfl<|Zt aP fun a g=>?_
 refine Q6 (X6 g (X1v g rfl (ResV.cellN (l:=[vi 0,vi 0,vi 0]) rfl X1n (c.at 0) rfl) rfl) ?_)
 exact ⟨by rw [x];rfl,i⟩
theorem Xyj(w0:World)(d:Dg)(md:Nat)(aU:md=d.ns.length)(Ad:Option Addr)(cd:Nat)(aV:Rd w0 w0.heap.size 81 encNd Ad d.ns)(Bd:Option Addr)(dd:Nat)(aW:Rd w0 w0.heap.size 83 encWr Bd d.ws)(a7:d.ws.length<=dd)(Al:Option Addr)(cl:Nat)(l:List Int)(aX:Rd w0 w0.heap.size 3 encI Al l)(hD:InD d)(bH:l.length<=1000000000) : Ret Tryz.prog 37 [.agg #[vi d.n,.slice Ad md cd,.slice Bd d.ws.length dd,vi d.t,vi d.r],.slice Al l.length cl] w0 (fun v w=>∃ A c B e P q,v=.tuple #[.agg #[vi (siD d l).n,.slice A (siD d l).ns.length c,.slice B (siD d l).ws.length e,vi (siD d l).t,vi (siD d l).r],.slice P (siL d l).length q]/\Rd w w.heap.size 81 encNd A (siD d l).ns/\Rd w w.heap.size 83 encWr B (siD d l).ws/\(siD d l).ws.length<=e/\Own w w0.heap.size 58 3 encRz P q (siL d l)/\Below w0.heap.size w0 w):=by
 have bT:=hD.len;have bU:=hD.m;have bW:=Xe8 d.ns;refine enter Tryz.func37 rfl 31 rfl rfl ?_;intro a H
 have x:=bz w0
 refine Zs H fun _ bJ=>?_;refine Zf (X0l (zs:=[vi d.n,.slice Ad md cd,.slice Bd d.ws.length dd,vi d.t,vi d.r]) rfl rfl) ?_;rintro _ w1 ⟨b5,rfl,bK,y,f⟩;have aI:=Q0 x.size bK;have x:=btr x y;refine Zf (Xq (zs:=[vi 0,.slice none 0 0,.slice none 0 0,vi 0,vi 0]) X0h rfl) ?_;rintro _ w2 ⟨b8,rfl,bL,y,i⟩
 have bG:b5≠b8:=by have:=f.lt;omega
 have aY:=Q0 x.size bL;have f:=f.bw y;have x:=btr x y;refine Za rfl<|Zx bJ fun a H _ aZ=>?_;refine Ze (Vn X2 f)<|Zf (Vc (Xaj _ d md aU Ad cd (aV.bx x).top Bd dd (aW.bx x).top a7 ⟨by omega,by omega⟩) X5y) ?_;rintro _ w3 ⟨b0,b1,b2,b3,rfl,M,I,y⟩;have M:=M.lower x.size;have I:=I.lower x.size;have f:=f.bw y;have i:=i.bw y;have x:=btr x y;refine Zo (Vw [vi d.n,.slice b0 d.ns.length b1,.slice b2 d.ws.length b3,vi d.t,vi d.r] Xh f) ?_;rintro _ w4 ⟨D,hb⟩;have j:=f;have i:=i.oy D (by omega);have M:=M.oT D j rfl;have I:=I.oT D j rfl;have x:=Below.oy x D aI;have f:=hb;refine Zx aZ fun a H _ b4=>?_;refine Za rfl<|Zt b4 fun a H=>?_;refine Q8<|X01 (σ:=Dg×(List Rz)) (fun (s:Dg×(List Rz)) (a:Act) (w:World)=>match s with|(o,m)=>∃ aC aD N a6 Q U,Fr a 31 [(1,.slice Al l.length cl),(2,(pZ9 b5)),(4,(pZ9 b8)),(6,.slice aC m.length aD)]/\(InD o)/\(siD o l=siD d l)/\(m++siL o l=siL d l)/\(m.length+spN o.ns<=spN d.ns)/\Blk w b5 39 [vi o.n,.slice N o.ns.length a6,.slice Q o.ws.length U,vi o.t,vi o.r]/\Blk w b8 39 [vi 0,.slice none 0 0,.slice none 0 0,vi 0,vi 0]/\Own w w0.heap.size 58 3 encRz aC aD m/\Rd w w.heap.size 81 encNd N o.ns/\Rd w w.heap.size 83 encWr Q o.ws/\d.ws.length<=dd/\o.ws.length<=U/\Below w0.heap.size w0 w) (fun (s:Dg×(List Rz))=>match s with|(o,m)=>spN o.ns) (d,[]) ?_ ?_
 ·exact ⟨none,0,b0,b1,b2,b3,H.sb,hD,rfl,rfl,(by simp),f,i,(Own.nil _ _ _ _ _),M.rd,I.rd,a7,I.cap,x⟩
 rintro ⟨o,m⟩ a w5 ⟨aC,aD,N,a6,Q,U,H,hI,hs,hm,bX,f,i,g,h,C,a7,aM,x⟩;refine Q8<|Zs H fun _ b6=>?_;refine Ze (Vn X2 f)<|Zm rfl<|Zf (Vc (Y3i _ o o.ns.length rfl N a6 h.top Q U C.top aM Al cl l (aX.bx x).top hI bH) Xps) ?_;rintro _ w6 ⟨rfl,y⟩;have f:=f.bw y;have i:=i.bw y;have g:=g.bw y;have h:=h.bw y;have C:=C.bw y;have x:=btr x y;refine Zm rfl<|Ze (Xo (vs:=[.agg #[vi (((fsF o l).getD rwZ).u),vi (((fsF o l).getD rwZ).a),vi (((fsF o l).getD rwZ).b)],.bool ((fsF o l).isSome)]) rfl rfl)<|Ze (Xo (vs:=[.agg #[vi (((fsF o l).getD rwZ).u),vi (((fsF o l).getD rwZ).a),vi (((fsF o l).getD rwZ).b)],.bool ((fsF o l).isSome)]) rfl rfl)<|Zf (Xq (zs:=[vi 0,vi 0,vi 0]) X44 rfl) ?_;rintro _ w7 ⟨bM,rfl,aJ,y,p⟩;have aN:=Q0 x.size aJ;have J:=g.away aJ;have f:=f.bw y;have i:=i.bw y;have g:=g.bw y;have h:=h.bw y;have C:=C.bw y;have x:=btr x y;refine Zo (Vw [vi (((fsF o l).getD rwZ).u),vi (((fsF o l).getD rwZ).a),vi (((fsF o l).getD rwZ).b)] X27 p) ?_;rintro _ w8 ⟨D,hb⟩;have j:=p;have f:=f.oz D j rfl;have i:=i.oz D j rfl;have g:=g.onlyA D J;have h:=h.oT D j rfl;have C:=C.oT D j rfl;have x:=Below.oy x D aN;have p:=hb;refine Za rfl<|ZX b6 fun a H _ b7=>?_;refine Zs H fun _ b9=>?_;refine Zm rfl<|Ze (X0w rfl)<|Zt b9 fun a H=>?_
 refine Xi H rfl (fun W=>?_) (fun W=>?_)
 ·have aO:=W
  have bN:fsF o l=none:=by have h8:=W;simpa using h8
  have aK:=X8o bN
  have bO:siD d l=o:=by rw [<- hs,aK.1]
  have bP:siL d l=m:=by rw [<- hm,aK.2,List.append_nil]
  refine Zs H fun _ bA=>?_;refine Ze (Vn X2 f)<|Zm rfl<|Zo (Vw [vi o.n,.slice N o.ns.length a6,.slice Q o.ws.length U,vi o.t,vi o.r] Xh i) ?_;rintro _ w9 ⟨D,hb⟩;have j:=i;have g:=g.oT D j rfl;have h:=h.oT D j rfl;have C:=C.oT D j rfl;have x:=Below.oy x D aY;have i:=hb;refine Za rfl<|Zt bA fun a H=>?_;refine Q6<|X8<|Xw<|X8 ?_;refine Xw<|X6 H (X1v H rfl (ResV.cellN (l:=[vi o.n,.slice N o.ns.length a6,.slice Q o.ws.length U,vi o.t,vi o.r]) rfl X2 (i.at 0) rfl) rfl) ?_
  rw [bO,bP]
  exact ⟨N,a6,Q,U,aC,aD,rfl,h.top,C.top,aM,g,x⟩
 have aO:=W
 have bB:fsF o l=some ((fsF o l).getD rwZ):=by have h8:=W;cases h9:fsF o l with
  | none=>rw [h9] at h8;cases h8
  | some r=>rfl
 have aP:=X42 bB;have bC:=X6r hI bB;have bY:=Xdi hI aP
 have aA:(if apC o ((fsF o l).getD rwZ)=true then apD o ((fsF o l).getD rwZ) else zD)=apD o ((fsF o l).getD rwZ):=Q4 aP
 refine Q7<|b7 _ _<|Zs H fun _ bD=>?_;refine Ze (Vn X2 f)<|Ze (Vn X1n p)<|Zf (Vc (Xmf _ o o.ns.length rfl N a6 h.top Q U C.top aM ((fsF o l).getD rwZ) hI) Xbo) ?_;rintro _ bZ ⟨aE,aF,aG,aH,rfl,E,G,bE,y⟩;have f:=f.bw y;have i:=i.bw y;have p:=p.bw y;have g:=g.bw y;have x:=btr x y;refine Zm rfl<|Ze (Xo (vs:=[.agg #[vi ((if (apC o ((fsF o l).getD rwZ))=true then apD o ((fsF o l).getD rwZ) else zD).n),.slice aE ((if (apC o ((fsF o l).getD rwZ))=true then apD o ((fsF o l).getD rwZ) else zD).ns).length aF,.slice aG ((if (apC o ((fsF o l).getD rwZ))=true then apD o ((fsF o l).getD rwZ) else zD).ws).length aH,vi ((if (apC o ((fsF o l).getD rwZ))=true then apD o ((fsF o l).getD rwZ) else zD).t),vi ((if (apC o ((fsF o l).getD rwZ))=true then apD o ((fsF o l).getD rwZ) else zD).r)],.bool (apC o ((fsF o l).getD rwZ))]) rfl rfl)<|Ze (Xo (vs:=[.agg #[vi ((if (apC o ((fsF o l).getD rwZ))=true then apD o ((fsF o l).getD rwZ) else zD).n),.slice aE ((if (apC o ((fsF o l).getD rwZ))=true then apD o ((fsF o l).getD rwZ) else zD).ns).length aF,.slice aG ((if (apC o ((fsF o l).getD rwZ))=true then apD o ((fsF o l).getD rwZ) else zD).ws).length aH,vi ((if (apC o ((fsF o l).getD rwZ))=true then apD o ((fsF o l).getD rwZ) else zD).t),vi ((if (apC o ((fsF o l).getD rwZ))=true then apD o ((fsF o l).getD rwZ) else zD).r)],.bool (apC o ((fsF o l).getD rwZ))]) rfl rfl)<|Zo (Vw [vi ((if (apC o ((fsF o l).getD rwZ))=true then apD o ((fsF o l).getD rwZ) else zD).n),.slice aE ((if (apC o ((fsF o l).getD rwZ))=true then apD o ((fsF o l).getD rwZ) else zD).ns).length aF,.slice aG ((if (apC o ((fsF o l).getD rwZ))=true then apD o ((fsF o l).getD rwZ) else zD).ws).length aH,vi ((if (apC o ((fsF o l).getD rwZ))=true then apD o ((fsF o l).getD rwZ) else zD).t),vi ((if (apC o ((fsF o l).getD rwZ))=true then apD o ((fsF o l).getD rwZ) else zD).r)] Xh f) ?_;rintro _ c5 ⟨D,hb⟩
 have j:=f;have i:=i.oy D (by omega);have p:=p.oz D j rfl;have g:=g.oT D j rfl;have E:=E.oT D j rfl;have G:=G.oT D j rfl;have x:=Below.oy x D aI;have f:=hb;refine Zt bD fun a H=>?_;refine Zr H<|Zm rfl<|Ze (Vn X1n p)<|Zf (Xn (k:=1) (vs:=[.agg #[vi (((fsF o l).getD rwZ).u),vi (((fsF o l).getD rwZ).a),vi (((fsF o l).getD rwZ).b)]]) (zs:=[vi (((fsF o l).getD rwZ).u),vi (((fsF o l).getD rwZ).a),vi (((fsF o l).getD rwZ).b)]) rfl X13 X2f rfl rfl) ?_;rintro _ cA ⟨b27,rfl,aL,y,aB⟩
 have aR:bM≠b27:=by have:=p.lt;omega
 have bQ:=Q0 x.size aL;have a8:=g.away aL;have f:=f.bw y;have i:=i.bw y;have p:=p.bw y;have g:=g.bw y;have E:=E.bw y;have G:=G.bw y;have x:=btr x y;refine Zf (X0t (enc:=encRz) (l:=(m)) (l2:=([((fsF o l).getD rwZ)])) (B0:=w0.heap.size) rfl rfl X13 X2f X2l X5x g (Rd.of_blk aB rfl _ aB.lt) (by simp only [maxLen];simp;omega) (by simp;omega) x.size) ?_;rintro _ cB ⟨bR,bS,rfl,bF,hg,aQ⟩
 have L:Own _ w0.heap.size 58 3 encRz _ _ (m):=g
 have aS:=aQ _ p.lt J;have aT:=aQ _ aB.lt a8;clear aQ;have f:=f.appT L hg rfl;have i:=i.appT L hg rfl;have E:=E.appT L hg rfl;have G:=G.appT L hg rfl;have x:=Below.app x L hg (Qb _) x.size;clear L hg;refine Za rfl ?_;refine Zn fun a H=>?_;refine Xa<|Xc ?_;exact ⟨((if (apC o ((fsF o l).getD rwZ))=true then apD o ((fsF o l).getD rwZ) else zD),m++([((fsF o l).getD rwZ)])),⟨bR,bS,aE,aF,aG,aH,H.sb,(by rw [aA];exact X0e (X48 aP)),(by rw [aA,<- bC.1];exact hs),(by rw [aA,Qx,<- hm,bC.2];rfl),(by rw [aA,Qh,List.length_singleton];omega),f,i,bF,E.top,G.top,a7,bE,x⟩,(by rw [aA];omega)⟩
theorem Y3l(w0:World) : Ret Tryz.prog 38 [] w0 (fun v w=>∃ A c,v=.slice A ([(1:Int),2,3,4,5]).length c/\Own w w0.heap.size 3 1 encI A c ([(1:Int),2,3,4,5])/\Below w0.heap.size w0 w):=by
 refine enter Tryz.func38 rfl 2 rfl rfl ?_;intro a hf
 have hW:=bz w0
 refine Zs hf fun _ a7=>?_;refine Za rfl<|Zx a7 fun a hf _ a8=>?_;refine Zf (Xn (k:=5) (vs:=[vi 1,vi 2,vi 3,vi 4,vi 5]) (zs:=[vi 1,vi 2,vi 3,vi 4,vi 5]) rfl Xj X1g rfl rfl) ?_;rintro _ w1 ⟨b4,rfl,aA,hE,aB⟩;have a6:=Q0 hW.size aA;have hW:=btr hW hE;refine Za rfl<|Zt a8 fun a hf=>?_
 refine Q6 (X6 hf (Xp hf rfl rfl) ?_)
 exact ⟨(some ⟨b4,0,none⟩),5,rfl,(Own.of_blkL Xd aB a6 rfl rfl (by decide)),hW⟩
def SB(b:Nat)(l:List (Option Addr))(k:Nat) : Prop:=k=b∨∃ A ∈ l,ownB A=some k
def Us(S:Nat->Prop)(w0:World)(A:Option Addr) : Prop:=∀ k,ownB A=some k->S k∨w0.heap.size<=k
theorem SB.us{b:Nat}{l:List (Option Addr)}{A:Option Addr}{w:World}(h:A ∈ l) : Us (SB b l) w A:=fun _ hk=>.inl (.inr ⟨A,h,hk⟩)
theorem Xi5(p:Addr) : ownB (some p)=some p.block:=rfl
theorem Xfo{A:Option Addr}{b:Nat} : Away A b↔ownB A≠some b:=by
 cases A with
 | none=>exact ⟨(fun _ h=>by cases h),fun _ p h=>by cases h⟩
 | some p=>
  rw [Xi5]
  exact ⟨fun h e=>h p rfl (Option.some.inj e),fun h q hq e=>by injection hq with hq;subst hq;exact h (by rw [e])⟩
section
variable {S : Nat -> Prop} {w0 w w' : World} {A A' : Option Addr} {b : Nat} {l : List (Option Addr)}
theorem Us.app(hu:Us S w0 A)(hat:∀ b,b<w.heap.size->Away A b->Away A' b)(hs:w0.heap.size<=w.heap.size) : Us S w0 A':=fun k hk=>by
 by_cases hl:k<w.heap.size
 ·by_cases h2:ownB A=some k
  ·exact hu k h2
  ·exact absurd hk (Xfo.1 (hat k hl (Xfo.2 h2)))
 ·exact .inr (by omega)
theorem Us.new{α:Type}{E:TypeId}{sz c:Nat}{enc:α->List Value}{r:List α}(ho:Own w w0.heap.size E sz enc A c r) : Us S w0 A:=fun _ hk=>.inr (X2i ho hk)
theorem al0{α:Type}{p:α->Prop} : ∀ x ∈ ([] : List α),p x:=fun _ h=>by cases h
theorem alc{α:Type}{p:α->Prop}{a:α}{r:List α}(h:p a)(ht:∀ x ∈ r,p x) : ∀ x ∈ a::r,p x:=List.forall_mem_cons.2 ⟨h,ht⟩
theorem SB.lift(hb:S b∨w0.heap.size<=b)(h:∀ A ∈ l,Us S w0 A) : ∀ k,SB b l k->S k∨w0.heap.size<=k:=fun k hk=>by
 rcases hk with rfl|⟨A,hA,hk⟩
 ·exact hb
 ·exact h A hA k hk
theorem Us.trans(hu:Us (SB b l) w A)(h:∀ k,SB b l k->S k∨w0.heap.size<=k)(hs:w0.heap.size<=w.heap.size) : Us S w0 A:=fun k hk=>by
 rcases hu k hk with h1|h1
 ·exact h k h1
 ·exact .inr (by omega)
theorem SB.ge{N:Nat}(hb:N<=b)(h:∀ A ∈ l,∀ k,ownB A=some k->N<=k) : ∀ k,SB b l k->N<=k:=fun k hk=>by
 rcases hk with rfl|⟨A,hA,hk⟩
 ·exact hb
 ·exact h A hA k hk
theorem nrow{α:Type}{B0:Nat}{E T:TypeId}{sz c:Nat}{enc:α->List Value}{r:List α}{cs:List Value}(ho:Own w B0 E sz enc A c r)(h:Blk w b T cs)(h1:Nat.beq E T=false) : ownB A≠some b:=fun hk=>by
 obtain ⟨_,_,cs',fz,h3⟩:=ho.block (k:=b) (by rw [X4u];exact hk)
 unfold Blk at h;rw [h3] at h;injection h with h;injection h with _ e _;subst e;simp at h1
theorem Blk.tu{b2:Nat}{T T2:TypeId}{bcs cs:List Value}(h:Blk w b2 T2 cs)(hts:TurnS (SB b l) w w')(hb:Blk w b T bcs)(h1:Nat.beq T2 T=false)(hr:∀ A ∈ l,ownB A≠some b2) : Blk w' b2 T2 cs:=by
 refine (hts.block b2 h.lt fun hk=>?_).trans h
 rcases hk with e|⟨A,hA,hk⟩
 ·exact h.ne hb h1 e
 ·exact hr A hA hk
end
structure Br where
 d:Dg
 la:List Int
 hd:List Bool
def nodB(x:Br)(k p q:Int) : Br:=⟨{ x.d with ns:=x.d.ns++[⟨k,p⟩],ws:=jnW x.d.ws (x.la.getD q.toNat 0) (x.d.ns.length:Int) (x.hd.getD q.toNat false) },x.la.set q.toNat (x.d.ns.length:Int),x.hd.set q.toNat false⟩
def plcB(x:Br)(q:Int) : Br:=if (x.hd.getD q.toNat false||(x.d.ns.getD (x.la.getD q.toNat 0).toNat nZ).k != 3)=true then nodB x 3 0 q else x
def trnB(x:Br)(q m:Int) : Br:={ plcB x q with d:={ (plcB x q).d with ns:=adN (plcB x q).d.ns ((plcB x q).la.getD q.toNat 0) m } }
def flpB(x:Br)(q:Int) : Br:={ x with hd:=x.hd.set q.toNat (!(x.hd.getD q.toNat false)) }
def czB(x:Br)(p q:Int) : Br:=
 let y:=plcB (plcB x p) q
 let a:=(plcB x p).la.getD p.toNat 0
 let b:=y.la.getD q.toNat 0
 if 0<=fdW y.d.ws a b then { y with d:={ y.d with ws:=ctW y.d.ws (fdW y.d.ws a b).toNat,r:=wr (y.d.r-1) } } else { y with d:={ y.d with ws:=jnW y.d.ws a b true,r:=wr (y.d.r+1) } }
structure BrOk (n:Nat) (x:Br) : Prop where
 la:x.la.length=n
 hd:x.hd.length=n
 rg:∀ y ∈ x.la,0<=y/\y<(x.d.ns.length:Int)
 p:PhN x.d.ns
theorem Xzi{x:Br}{q:Int}(h:(x.hd.getD q.toNat false||(x.d.ns.getD (x.la.getD q.toNat 0).toNat nZ).k != 3)=true) : plcB x q=nodB x 3 0 q:=Q4 h
theorem Xzj{x:Br}{q:Int}(h:(x.hd.getD q.toNat false||(x.d.ns.getD (x.la.getD q.toNat 0).toNat nZ).k != 3)=false) : plcB x q=x:=Q3 (by rw [h];decide)
theorem BrOk.at{n:Nat}{x:Br}(h:BrOk n x){q:Int}(hq:0<=q/\q.toNat<n) : 0<=x.la.getD q.toNat 0/\(x.la.getD q.toNat 0).toNat<x.d.ns.length:=by
 have:=X5u h.rg (i:=q.toNat) (by rw [h.la];exact hq.2)
 omega
theorem Xc6{n:Nat}{x:Br}(h:BrOk n x){k p q:Int}(hp:0<=p/\p<=7) : BrOk n (nodB x k p q):=by
 have hl:(x.d.ns++[(⟨k,p⟩ : Nd)]).length=x.d.ns.length+1:=by simp
 refine ⟨List.length_set.trans h.la,List.length_set.trans h.hd,fun y hy=>?_,fun y hy=>?_⟩
 ·show 0<=y/\y<((x.d.ns++[(⟨k,p⟩ : Nd)]).length:Int)
  rcases List.mem_or_eq_of_mem_set hy with hy|rfl
  ·have:=h.rg y hy
   omega
  ·omega
 ·rcases Qu.1 hy with hy|hy
  ·exact h.p y hy
  ·rw [Qm.1 hy];exact hp
theorem X8g(x:Br)(k p q:Int) : (nodB x k p q).d.ns.length=x.d.ns.length+1/\(nodB x k p q).d.ws.length=x.d.ws.length+1:=⟨by simp [nodB],X3u _ _ _ _⟩
theorem X45{n:Nat}{x:Br}(h:BrOk n x)(q:Int) : BrOk n (plcB x q):=by
 unfold plcB
 split
 ·exact Xc6 h (by decide)
 ·exact h
theorem X4r(x:Br)(q:Int) : (plcB x q).d.ns.length<=x.d.ns.length+1/\(plcB x q).d.ws.length<=x.d.ws.length+1/\x.d.ns.length<=(plcB x q).d.ns.length:=by
 have:=X8g x 3 0 q
 unfold plcB
 split<;>omega
theorem X57{n:Nat}{x:Br}(h:BrOk n x)(q m:Int) : BrOk n (trnB x q m):=by
 have h1:=X45 h q
 exact ⟨h1.la,h1.hd,fun y hy=>by
  have:=h1.rg y hy
  show 0<=y/\y<((adN _ _ _).length:Int)
  rw [X1r];exact this,X61 h1.p _ _⟩
theorem X70(x:Br)(q m:Int) : (trnB x q m).d.ns.length<=x.d.ns.length+1/\(trnB x q m).d.ws.length<=x.d.ws.length+1:=by
 have:=X4r x q
 show (adN _ _ _).length<=_/\(plcB x q).d.ws.length<=_
 rw [X1r]
 omega
theorem X24{n:Nat}{x:Br}(h:BrOk n x)(q:Int) : BrOk n (flpB x q):=⟨h.la,List.length_set.trans h.hd,h.rg,h.p⟩
theorem Y3g{x:Br}{p q:Int}(h:0<=fdW (plcB (plcB x p) q).d.ws ((plcB x p).la.getD p.toNat 0) ((plcB (plcB x p) q).la.getD q.toNat 0)) : czB x p q = { plcB (plcB x p) q with d:={ (plcB (plcB x p) q).d with ws:=ctW (plcB (plcB x p) q).d.ws (fdW (plcB (plcB x p) q).d.ws ((plcB x p).la.getD p.toNat 0) ((plcB (plcB x p) q).la.getD q.toNat 0)).toNat,r:=wr ((plcB (plcB x p) q).d.r-1) } }:=Q4 h
theorem Y39{x:Br}{p q:Int}(h:¬ 0<=fdW (plcB (plcB x p) q).d.ws ((plcB x p).la.getD p.toNat 0) ((plcB (plcB x p) q).la.getD q.toNat 0)) : czB x p q = { plcB (plcB x p) q with d:={ (plcB (plcB x p) q).d with ws:=jnW (plcB (plcB x p) q).d.ws ((plcB x p).la.getD p.toNat 0) ((plcB (plcB x p) q).la.getD q.toNat 0) true,r:=wr ((plcB (plcB x p) q).d.r+1) } }:=Q3 h
theorem Xts{n:Nat}{x:Br}(h:BrOk n x)(p q:Int) : BrOk n (czB x p q):=by
 have h1:=X45 (X45 h p) q
 unfold czB
 dsimp only
 split
 ·exact ⟨h1.la,h1.hd,h1.rg,h1.p⟩
 ·exact ⟨h1.la,h1.hd,h1.rg,h1.p⟩
theorem Xm3(x:Br)(p q:Int) : (czB x p q).d.ns.length<=x.d.ns.length+2/\(czB x p q).d.ws.length<=x.d.ws.length+3:=by
 have h1:=X4r x p;have h2:=X4r (plcB x p) q
 unfold czB
 dsimp only
 split
 ·have:=(X3f (plcB (plcB x p) q).d.ws (fdW (plcB (plcB x p) q).d.ws ((plcB x p).la.getD p.toNat 0) ((plcB (plcB x p) q).la.getD q.toNat 0)).toNat).length_le
  dsimp only
  omega
 ·dsimp only
  rw [X3u]
  omega
def swpB(x:Br)(a b:Int) : Br:={ x with la:=(x.la.set a.toNat (x.la.getD b.toNat 0)).set b.toNat (x.la.getD a.toNat 0),hd:=(x.hd.set a.toNat (x.hd.getD b.toNat false)).set b.toNat (x.hd.getD a.toNat false) }
def yyB(x:Br)(a:Int) : Br:=flpB (trnB (flpB (trnB x a 4) a) a 4) a
def tnB(x:Br)(k:Int) : Br:={ x with d:={ x.d with t:=wr (x.d.t+k) } }
def gtB(x:Br)(g:Gt) : Br:=
 if (g.k==1)=true then flpB x g.a
 else if (g.k==2)=true then flpB (trnB (flpB x g.a) g.a 4) g.a
 else if (g.k==3)=true then tnB (yyB x g.a) 2
 else if (g.k==9)=true then flpB (czB (flpB x g.b) g.a g.b) g.b
 else if (g.k==10)=true then czB x g.a g.b
 else if (g.k==11)=true then swpB x g.a g.b
 else if (g.k==12)=true then tnB x 1
 else trnB x g.a (rotC g.k)
section
variable {x : Br} {g : Gt}
theorem Y5r(h1:(g.k==1)=true) : gtB x g=flpB x g.a:=Q4 h1
theorem Y4u(h1:(g.k==1)=false)(h2:(g.k==2)=true) : gtB x g=flpB (trnB (flpB x g.a) g.a 4) g.a:=by unfold gtB;rw [h1,h2];rfl
theorem Y56(h1:(g.k==1)=false)(h2:(g.k==2)=false)(h3:(g.k==3)=true) : gtB x g=tnB (yyB x g.a) 2:=by unfold gtB;rw [h1,h2,h3];rfl
theorem Y4y(h1:(g.k==1)=false)(h2:(g.k==2)=false)(h3:(g.k==3)=false)(h9:(g.k==9)=true) : gtB x g=flpB (czB (flpB x g.b) g.a g.b) g.b:=by unfold gtB;rw [h1,h2,h3,h9];rfl
theorem Xyo(h1:(g.k==1)=false)(h2:(g.k==2)=false)(h3:(g.k==3)=false)(h9:(g.k==9)=false)(h10:(g.k==10)=true) : gtB x g=czB x g.a g.b:=by unfold gtB;rw [h1,h2,h3,h9,h10];rfl
theorem Y2w(h1:(g.k==1)=false)(h2:(g.k==2)=false)(h3:(g.k==3)=false)(h9:(g.k==9)=false)(h10:(g.k==10)=false)(h11:(g.k==11)=true) : gtB x g=swpB x g.a g.b:=by unfold gtB;rw [h1,h2,h3,h9,h10,h11];rfl
theorem Y25(h1:(g.k==1)=false)(h2:(g.k==2)=false)(h3:(g.k==3)=false)(h9:(g.k==9)=false)(h10:(g.k==10)=false)(h11:(g.k==11)=false)(h12:(g.k==12)=true) : gtB x g=tnB x 1:=by unfold gtB;rw [h1,h2,h3,h9,h10,h11,h12];rfl
theorem Y5g(h1:(g.k==1)=false)(h2:(g.k==2)=false)(h3:(g.k==3)=false)(h9:(g.k==9)=false)(h10:(g.k==10)=false)(h11:(g.k==11)=false)(h12:(g.k==12)=false) : gtB x g=trnB x g.a (rotC g.k):=by unfold gtB;rw [h1,h2,h3,h9,h10,h11,h12];rfl
end
theorem Xvw{k:Int}(h:4<=k/\k<=8) : ([4,2,6,1,7] : List Int)[(k-4).toNat]? = some (rotC k)/\0<=rotC k/\rotC k<=900:=by
 have:k=4∨k=5∨k=6∨k=7∨k=8:=by omega
 rcases this with e|e|e|e|e<;>subst e<;>decide
theorem Xva{n:Nat}{x:Br}(h:BrOk n x){a b:Int}(ha:0<=a/\a.toNat<n)(hb:0<=b/\b.toNat<n) : BrOk n (swpB x a b):=by
 have h1:=h.at ha;have h2:=h.at hb
 refine ⟨List.length_set.trans (List.length_set.trans h.la),List.length_set.trans (List.length_set.trans h.hd),fun y hy=>?_,h.p⟩
 show 0<=y/\y<(x.d.ns.length:Int)
 rcases List.mem_or_eq_of_mem_set hy with hy|rfl
 ·rcases List.mem_or_eq_of_mem_set hy with hy|rfl
  ·exact h.rg y hy
  ·omega
 ·omega
theorem Xtn{n:Nat}{x:Br}(h:BrOk n x)(k:Int) : BrOk n (tnB x k):=⟨h.la,h.hd,h.rg,h.p⟩
theorem Y3v{n:Nat}{x:Br}(h:BrOk n x)(a:Int) : BrOk n (yyB x a):=X24 (X57 (X24 (X57 h a 4) a) a 4) a
theorem Xxx(x:Br)(a:Int) : (yyB x a).d.ns.length<=x.d.ns.length+2/\(yyB x a).d.ws.length<=x.d.ws.length+2:=by
 have h1:=X70 x a 4;have h2:=X70 (flpB (trnB x a 4) a) a 4
 have e1:(flpB (trnB x a 4) a).d=(trnB x a 4).d:=rfl
 have e2:(yyB x a).d=(trnB (flpB (trnB x a 4) a) a 4).d:=rfl
 rw [e1] at h2
 rw [e2]
 omega
theorem Xjh{n:Nat}{x:Br}(h:BrOk n x){g:Gt}(hg:gOk (n:Int) g=true) : BrOk n (gtB x g):=by
 unfold gtB
 split
 ·exact X24 h _
 split
 ·exact X24 (X57 (X24 h _) _ _) _
 split
 ·exact Xtn (Y3v h _) _
 split
 ·exact X24 (Xts (X24 h _) _ _) _
 split
 ·exact Xts h _ _
 split
 ·exact Xva h (Xcx hg) (Xdr hg)
 split
 ·exact Xtn h _
 ·exact X57 h _ _
theorem Xmg(x:Br)(g:Gt) : (gtB x g).d.ns.length<=x.d.ns.length+3/\(gtB x g).d.ws.length<=x.d.ws.length+3:=by
 unfold gtB
 split
 ·show x.d.ns.length<=_/\x.d.ws.length<=_;omega
 split
 ·have h1:=X70 (flpB x g.a) g.a 4
  have e1:(flpB x g.a).d=x.d:=rfl
  rw [e1] at h1
  show (trnB (flpB x g.a) g.a 4).d.ns.length<=_/\(trnB (flpB x g.a) g.a 4).d.ws.length<=_
  omega
 split
 ·have h1:=Xxx x g.a
  show (yyB x g.a).d.ns.length<=_/\(yyB x g.a).d.ws.length<=_
  omega
 split
 ·have h1:=Xm3 (flpB x g.b) g.a g.b
  have e1:(flpB x g.b).d=x.d:=rfl
  rw [e1] at h1
  show (czB (flpB x g.b) g.a g.b).d.ns.length<=_/\(czB (flpB x g.b) g.a g.b).d.ws.length<=_
  omega
 split
 ·have h1:=Xm3 x g.a g.b
  omega
 split
 ·show x.d.ns.length<=_/\x.d.ws.length<=_;omega
 split
 ·show x.d.ns.length<=_/\x.d.ws.length<=_;omega
 ·have h1:=X70 x g.a (rotC g.k)
  omega
def inN(k:Nat) : List Nd:=(List.range k).map fun (i:Nat)=>(⟨1,i⟩ : Nd)
def ranI(k:Nat) : List Int:=(List.range k).map fun (i:Nat)=>(i:Int)
theorem Y2s(k:Nat) : inN (k+1)=inN k++[(⟨1,(k:Int)⟩ : Nd)]:=by unfold inN;rw [List.range_succ,List.map_append];rfl
theorem Xwa(k:Nat) : ranI (k+1)=ranI k++[(k:Int)]:=by unfold ranI;rw [List.range_succ,List.map_append];rfl
theorem X8h(k:Nat) : (inN k).length=k:=by simp [inN]
theorem X9f(k:Nat) : (ranI k).length=k:=by simp [ranI]
def ofB0(c:Cx) : Br:=⟨⟨c.n,inN c.n.toNat,[],0,0⟩,ranI c.n.toNat,List.replicate c.n.toNat false⟩
def ofB1(c:Cx) : Br:=c.gs.foldl gtB (ofB0 c)
def ofK(c:Cx)(j:Nat) : Br:=(List.range j).foldl (fun x (q:Nat)=>nodB x 2 (q:Int) (q:Int)) (ofB1 c)
def ofD(c:Cx) : Dg:=outD (ofK c c.n.toNat).d
theorem Xd2(c:Cx)(j:Nat) : ofK c (j+1)=nodB (ofK c j) 2 (j:Int) (j:Int):=by unfold ofK;rw [List.range_succ,List.foldl_append];rfl
theorem Xc5{c:Cx}(hn:1<=c.n/\c.n<=5) : BrOk c.n.toNat (ofB0 c):=by
 refine ⟨X9f _,List.length_replicate,fun y hy=>?_,fun y hy=>?_⟩
 ·obtain ⟨i,hi,rfl⟩:=W6.1 hy
  have:=W2.1 hi
  show 0<=(i:Int)/\(i:Int)<((inN _).length:Int)
  rw [X8h]
  omega
 ·obtain ⟨i,hi,rfl⟩:=W6.1 hy
  have:=W2.1 hi
  show 0<=(i:Int)/\(i:Int)<=7
  omega
theorem Xos{N M:Nat}{ws:List Wr}(h:RgW N ws)(hN:N<=M) : RgW M ws:=fun x hx=>by have:=h x hx;omega
def BrG(x:Br) : Prop:=RgW x.d.ns.length x.d.ws
theorem Xm0{n:Nat}{x:Br}(h:BrOk n x)(hg:BrG x){k p q:Int}(hq:0<=q/\q.toNat<n) : BrG (nodB x k p q):=by
 have h1:=h.at hq;have hl:=(X8g x k p q).1
 unfold BrG
 rw [hl]
 exact Xa5 (Xos hg (by omega)) (by omega) (by omega)
theorem Xk9{n:Nat}{x:Br}(h:BrOk n x)(hg:BrG x){q:Int}(hq:0<=q/\q.toNat<n) : BrG (plcB x q):=by
 unfold plcB
 split
 ·exact Xm0 h hg hq
 ·exact hg
theorem Xde{n:Nat}{x:Br}(h:BrOk n x)(hg:BrG x){q:Int}(hq:0<=q/\q.toNat<n)(m:Int) : BrG (trnB x q m):=by
 have h1:=Xk9 h hg hq
 show RgW (adN _ _ _).length (plcB x q).d.ws
 rw [X1r]
 exact h1
theorem Xvk{n:Nat}{x:Br}(h:BrOk n x)(hg:BrG x){p q:Int}(hp:0<=p/\p.toNat<n)(hq:0<=q/\q.toNat<n) : BrG (czB x p q):=by
 have k1:=X45 h p
 have k2:=X45 k1 q
 have h1:=Xk9 k1 (Xk9 h hg hp) hq
 have a1:=k1.at hp
 have a2:=k2.at hq
 have l2:=X4r (plcB x p) q
 unfold czB
 dsimp only
 split
 ·exact Xf5 h1 _
 ·exact Xa5 (N:=(plcB (plcB x p) q).d.ns.length) h1 ⟨a1.1,by omega⟩ ⟨a2.1,by omega⟩
theorem Y53{n:Nat}{x:Br}(h:BrOk n x)(hx:BrG x){g:Gt}(hg:gOk (n:Int) g=true) : BrG (gtB x g):=by
 have ha:=Xcx hg;have hb:=Xdr hg
 unfold gtB
 split
 ·exact hx
 split
 ·exact Xde (X24 h _) hx ha _
 split
 ·exact Xde (X24 (X57 h _ _) _) (Xde h hx ha _) ha _
 split
 ·exact Xvk (X24 h _) hx ha hb
 split
 ·exact Xvk h hx ha hb
 split
 ·exact hx
 split
 ·exact hx
 ·exact Xde h hx ha _
theorem Xjw{n:Nat} : ∀ (l:List Gt) (x:Br),BrOk n x->BrG x->(∀ g ∈ l,gOk (n:Int) g=true)->BrOk n (l.foldl gtB x)/\BrG (l.foldl gtB x)/\(l.foldl gtB x).d.ns.length<=x.d.ns.length+3*l.length/\(l.foldl gtB x).d.ws.length<=x.d.ws.length+3*l.length
 | [],x,h,hg,_=>⟨h,hg,by simp,by simp⟩
 | g::l,x,h,hg,hl=>by
  have h0:=hl g (by simp)
  have h1:=Xjw l (gtB x g) (Xjh h h0) (Y53 h hg h0) fun z hz=>hl z (by simp [hz])
  have h2:=Xmg x g
  rw [List.foldl_cons,Qs]
  exact ⟨h1.1,h1.2.1,by omega,by omega⟩
theorem Xsc{c:Cx}(hc:cOk c=true) : ∀ j,j<=c.n.toNat->BrOk c.n.toNat (ofK c j)/\BrG (ofK c j)/\(ofK c j).d.ns.length<=c.n.toNat+3*c.gs.length+j/\(ofK c j).d.ws.length<=3*c.gs.length+j
 | 0,_=>by
  obtain ⟨n9,hn9,hn1,hn5⟩:=Xa6 hc
  have hcn:c.n=((c.n.toNat:Nat) : Int):=by omega
  have h:=Xjw c.gs (ofB0 c) (Xc5 ⟨by omega,by omega⟩) (fun x hx=>by cases hx) (fun g hg=>by
   obtain ⟨i,hi⟩:=List.mem_iff_getElem?.1 hg
   exact Xn4 hc hcn hi)
  have e1:(ofB0 c).d.ns.length=c.n.toNat:=X8h _
  have e2:(ofB0 c).d.ws.length=0:=rfl
  refine ⟨h.1,h.2.1,?_,?_⟩
  ·show (ofB1 c).d.ns.length<=_
   have:=h.2.2.1
   unfold ofB1
   omega
  ·show (ofB1 c).d.ws.length<=_
   have:=h.2.2.2
   unfold ofB1
   omega
 | j+1,hj=>by
  obtain ⟨n9,hn9,hn1,hn5⟩:=Xa6 hc
  obtain ⟨h1,h2,h3,h4⟩:=Xsc hc j (by omega)
  have h5:=X8g (ofK c j) 2 (j:Int) (j:Int)
  rw [Xd2]
  exact ⟨Xc6 h1 ⟨by omega,by omega⟩,Xm0 h1 h2 ⟨by omega,by omega⟩,by omega,by omega⟩
theorem Xe6{ns:List Nd}{j:Nat}{u:Int}(h:(spL ns)[j]? = some u) : 0<=u/\u.toNat<ns.length:=by
 have hm:=Qe h
 unfold spL spK at hm
 obtain ⟨i,hi,rfl⟩:=W6.1 hm
 have:=W2.1 (List.mem_filter.1 hi).1
 omega
def alR5:List Int:=[1,2,3,4,5]
abbrev wrV(x:Wr) : Value:=.agg #[.int .i64 x.a,.int .i64 x.b,.bool x.h]
abbrev ndV(x:Nd) : Value:=.agg #[.int .i64 x.k,.int .i64 x.p]
theorem Xb3(d:Nat)(x y:Nd)(w:World) : (Op.equalIn (d+2) 81 (ndV x) (ndV y)).run Tryz.prog w=.ok (decide (x=y)) w:=by
 have hf:=X5n Tryz.underlying81;refine (run_equalIn_struct w (d+1) 81 _ _ (by rw [hf];exact Tryz.underlying81) (by kernel_rfl)).trans ?_
 rw [hf]
 have:decide (x=y)=(decide (x.k=y.k)&&(decide (x.p=y.p)&&true)):=by
  obtain ⟨a,b⟩:=x;obtain ⟨a',b'⟩:=y
  simp
 rw [this]
 refine X1m (by decide) X9 Tryz.underlying3 rfl rfl fun _=>?_;refine X1m (by decide) X9 Tryz.underlying3 rfl rfl fun _=>?_
 rfl
theorem Xax:Tryz.prog.eqGuardType Tryz.prog.depth 81=false:=by kernel_rfl
def cmW(x y:Wr) : Int:=if cmI x.a y.a≠0 then cmI x.a y.a else cmI x.b y.b
def orI:List Int->Int
 | []=>0
 | x::l=>if x≠0 then x else orI l
theorem Xry:∀ {l:List Int} {k:Nat} {u:Int},(∀ x ∈ l.take k,x=0)->l[k]? = some u->u≠0->orI l=u
 | [],_,_,_,h,_=>by simp at h
 | x::l,0,u,_,h,hu=>by
  simp only [List.getElem?_cons_zero,Option.some.injEq] at h
  subst h
  exact Q4 hu
 | x::l,k+1,u,ha,h,hu=>by
  have hx:x=0:=ha x (by simp)
  unfold orI
  rw [Q3 (by simpa using hx)]
  exact Xry (l:=l) (k:=k) (fun z hz=>ha z (by simp [hz])) (by simpa using h) hu
theorem Y1r:∀ {l:List Int},(∀ x ∈ l,x=0)->orI l=0
 | [],_=>rfl
 | x::l,ha=>by
  have hx:x=0:=ha x (by simp)
  unfold orI
  rw [Q3 (by simpa using hx)]
  exact Y1r fun z hz=>ha z (by simp [hz])
theorem Xt9(x y:Wr) : orI [cmI x.a y.a,cmI x.b y.b]=cmW x y:=by
 unfold orI cmW
 split
 ·rfl
 ·unfold orI
  split
  ·rfl
  ·rename_i h;simp only [ne_eq,Decidable.not_not] at h;rw [h];rfl
def fnI(ns:List Nd)(x:Nd) : Int:=idxF ns fun y=>decide (x=y)
def nokI(n:Int)(x:Nd) : Bool:=if (x.k==0)=true then x.p==0 else if (x.k==1||x.k==2)=true then inR x.p 0 (n-1) else if (x.k==3)=true then inR x.p 0 7 else false
def bnI(ns:List Nd) : Int:=((ns.filter fun x=>x.k==1||x.k==2).length:Int)
theorem Y4r{ns:List Nd}{j:Nat}{x:Nd}(hj:ns[j]? = some x)(h:(x.k==1||x.k==2)=true) : bnI (ns.take (j+1))=bnI (ns.take j)+1:=by
 unfold bnI
 rw [X3e (q:=fun x=>x.k==1||x.k==2) hj,Q4 h,Qh]
 rfl
theorem Y5d{ns:List Nd}{j:Nat}{x:Nd}(hj:ns[j]? = some x)(h:(x.k==1||x.k==2)=false) : bnI (ns.take (j+1))=bnI (ns.take j):=by
 unfold bnI
 rw [X3e (q:=fun x=>x.k==1||x.k==2) hj,Q3 (by rw [h];decide),List.append_nil]
theorem Y2r(ns:List Nd)(j:Nat) : 0<=bnI (ns.take j)/\bnI (ns.take j)<=j:=by
 have h1:=List.length_filter_le (fun x:Nd=>x.k==1||x.k==2) (ns.take j)
 rw [Qn] at h1
 unfold bnI
 omega
def heQ(d:Dg)(q:Nat) : Bool:=!(decide (fnI d.ns ⟨1,q⟩<0)||decide (fnI d.ns ⟨2,q⟩<0))
def heD(d:Dg) : Bool:=(List.range d.n.toNat).all (heQ d)&&bnI d.ns==2*d.n
theorem Xb7{α:Type}{l:List α}{q:α->Bool} : decide (0<=idxF l q)=l.any q:=by
 rcases X4i l q with ⟨h1,h2⟩|⟨k,x,h1,h2,h3⟩
 ·rw [h1,W7.2 fun x hx=>by rw [h2 x hx];decide]
  rfl
 ·rw [h1,List.any_eq_true.2 ⟨x,Qe h2,h3⟩]
  simp
def wvQ(d:Dg)(i:Nat) : Bool:=!(decide ((d.ws.getD i wZ).a<0)||decide ((d.ws.getD i wZ).b<=(d.ws.getD i wZ).a)||decide ((d.ns.length:Int)<=(d.ws.getD i wZ).b)||(decide (0<(i:Int))&&decide (0<=cmW (d.ws.getD (i-1) wZ) (d.ws.getD i wZ))))
def nvQ(d:Dg)(i:Nat) : Bool:=!(((d.ns.getD i nZ).k==0&&cnW d.ws (i:Int) != 0)||(((d.ns.getD i nZ).k==1||(d.ns.getD i nZ).k==2)&&cnW d.ws (i:Int) != 1))
def hvQ(d:Dg) : Bool:=!(!(inR d.n 1 5)||decide (40<(d.ns.length:Int))||!(inR d.t 0 7)||!(inR d.r (-60) 60)||(d.ns.any fun x=>!nokI d.n x)||!(heD d))
def ivD(d:Dg) : Bool:=hvQ d&&(List.range d.ws.length).all (wvQ d)&&(List.range d.ns.length).all (nvQ d)
theorem Xtb{d:Dg}{i:Nat}{u:Wr}(hu:d.ws[i]? = some u) : wvQ d i = !(decide (u.a<0)||decide (u.b<=u.a)||decide ((d.ns.length:Int)<=u.b)||(decide (0<(i:Int))&&decide (0<=cmW (d.ws.getD (i-1) wZ) u))):=by
 have h:d.ws.getD i wZ=u:=by rw [Qa,hu];rfl
 unfold wvQ
 rw [h]
theorem Xs0{d:Dg}{i:Nat}{u:Nd}(hu:d.ns[i]? = some u) : nvQ d i = !((u.k==0&&cnW d.ws (i:Int) != 0)||((u.k==1||u.k==2)&&cnW d.ws (i:Int) != 1)):=by
 have h:d.ns.getD i nZ=u:=by rw [Qa,hu];rfl
 unfold nvQ
 rw [h]
theorem Y51{d:Dg}(h:(!(inR d.n 1 5)||decide (40<(d.ns.length:Int))||!(inR d.t 0 7)||!(inR d.r (-60) 60)||(d.ns.any fun x=>!nokI d.n x)||!(heD d))=true) : ivD d=false:=by
 unfold ivD hvQ;rw [h];rfl
theorem Y55{d:Dg}{i:Nat}(hi:i<d.ws.length)(h:wvQ d i=false) : ivD d=false:=by
 unfold ivD
 rw [X5e (q:=wvQ d) hi h,Bool.and_false,Bool.false_and]
theorem Y5a{d:Dg}{i:Nat}(hi:i<d.ns.length)(h:nvQ d i=false) : ivD d=false:=by
 unfold ivD
 rw [X5e (q:=nvQ d) hi h,Bool.and_false]
theorem Y4p{d:Dg}(h:(!(inR d.n 1 5)||decide (40<(d.ns.length:Int))||!(inR d.t 0 7)||!(inR d.r (-60) 60)||(d.ns.any fun x=>!nokI d.n x)||!(heD d))=false)(h2:∀ i,i<d.ws.length->wvQ d i=true)(h3:∀ i:Nat,i<d.ns.length->nvQ d i=true) : ivD d=true:=by
 unfold ivD hvQ
 rw [h,X4s (q:=wvQ d) h2,X4s (q:=nvQ d) h3]
 rfl
theorem Xm9(i:World)(Al:Option Addr)(cl:Nat)(l:List Wr)(aA:Rd i i.heap.size 83 encWr Al l)(kq:FuncId)(pq:List Value)(Fq:FuncF Tryz.prog kq)(q:Wr->Bool)(hq:∀ x w,Below i.heap.size i w->Ret Tryz.prog kq ([wrV x]++pq) w (fun v w'=>v=.bool (q x)/\Below w.heap.size w w'))(aN:l.length<=1000000000) : Ret Tryz.prog 160 [.slice Al l.length cl,.func (.func kq) #[] pq.toArray] i (fun v w=>v=vi (idxF l q)/\Below i.heap.size i w):=by
 refine enter Tryz.func160 rfl 19 rfl rfl ?_;intro a c
 have j:=bz i
 refine Zs c fun _ aG=>?_;refine Za rfl<|ZX aG fun a c _ aH=>?_;refine Zs c fun _ aI=>?_;refine Zm rfl<|Ze (X09 rfl Xr)<|Zm rfl<|Zt aI fun a c=>?_;refine Q8<|X01 (σ:=Nat) (fun (k:Nat) (a:Act) (w:World)=>Fr a 19 [(0,.slice Al l.length cl),(1,.func (.func kq) #[] pq.toArray),(7,vi (l.length:Int)),(8,vi (k:Int))]/\(k<=l.length)/\(((l.take k).all fun x=>!q x)=true)/\Below i.heap.size i w) (fun (k:Nat)=>l.length-k) 0 ?_ ?_
 ·exact ⟨c.sb,(Qf _),rfl,j⟩
 rintro k a w1 ⟨c,hk,f,j⟩;refine Zs c fun _ aJ=>?_;refine Ze (X0n rfl rfl)<|ZX aJ fun a c _ aK=>?_
 refine Xi c rfl (fun d=>?_) (fun d=>?_)
 ·have aB:=d;have d:=Q2 d
  obtain ⟨u8,aO⟩:=X4 (l:=l) (k:=k) (by omega)
  obtain ⟨m,a6⟩:=X4 (l:=l) (k:=k) (by have:=d;omega)
  refine Q7<|aK _ _<|Q5 fun _ aL=>?_;refine Q8<|Zs c fun _ aC=>?_;refine Zm rfl<|Za rfl<|Zx aC fun a c _ aD=>?_;refine Zm rfl<|Zm rfl<|Zm rfl<|Zi (k:=k) (u:=m) (enc:=encWr) (l:=l) tv0 rfl rfl Xr X0c Xy (aA.bx j) a6 rfl ?_;intro aP a7;refine Ze (X03 (l:=[vi m.a,vi m.b,.bool m.h]) rfl X10 a7 rfl)<|Zf (X7o (cs:=pq) (vs:=[.agg #[vi m.a,vi m.b,.bool m.h]]) rfl rfl Fq (hq m _ j)) ?_;rintro _ w2 ⟨rfl,hE⟩;have j:=btr j hE;refine Zt aD fun a c=>?_
  refine Xi c rfl (fun e=>?_) (fun e=>?_)
  ·have a8:=e
   have g:idxF l q=(k:Int):=X8t f a6 e
   refine Zs c fun _ aE=>?_;refine Zm rfl<|Za rfl<|Zt aE fun a c=>?_;refine Q6<|Xw<|X8<|X8 ?_;refine Xw<|X8<|X6 c (Xp c rfl rfl) ?_;exact ⟨by rw [g],j⟩
  have a8:=e;have aM:=X72 f a6 e;refine Q7<|Xa<|aL _ _<|Zr c ?_;refine Ze (Xs rfl rfl (by omega) (by omega))<|Zm rfl ?_;refine Zn fun a c=>?_;refine Xc ?_;exact ⟨k+1,⟨c.sb,(by omega),aM,j⟩,(by omega)⟩
 have aB:=d;have d:=Q1 d
 have g:idxF l q = -1:=X9j f (by have:=d;omega)
 refine Q9<|Xk<|Xk<|X02 ?_;refine aH _ _<|Zs c fun _ aF=>?_;refine Za rfl<|Zt aF fun a c=>?_
 refine Q6 (X6 c (Xp c rfl rfl) ?_)
 exact ⟨by rw [g],j⟩
theorem Y0p(g:World)(Al:Option Addr)(cl:Nat)(l:List Nd)(aA:Rd g g.heap.size 81 encNd Al l)(kq:FuncId)(pq:List Value)(Fq:FuncF Tryz.prog kq)(q:Nd->Bool)(hq:∀ x w,Below g.heap.size g w->Ret Tryz.prog kq ([ndV x]++pq) w (fun v w'=>v=.bool (q x)/\Below w.heap.size w w'))(aN:l.length<=1000000000) : Ret Tryz.prog 148 [.slice Al l.length cl,.func (.func kq) #[] pq.toArray] g (fun v w=>v=vi (idxF l q)/\Below g.heap.size g w):=by
 refine enter Tryz.func148 rfl 19 rfl rfl ?_;intro a b
 have i:=bz g
 refine Zs b fun _ aG=>?_;refine Za rfl<|ZX aG fun a b _ aH=>?_;refine Zs b fun _ aI=>?_;refine Zm rfl<|Ze (X09 rfl Xm)<|Zm rfl<|Zt aI fun a b=>?_;refine Q8<|X01 (σ:=Nat) (fun (k:Nat) (a:Act) (w:World)=>Fr a 19 [(0,.slice Al l.length cl),(1,.func (.func kq) #[] pq.toArray),(7,vi (l.length:Int)),(8,vi (k:Int))]/\(k<=l.length)/\(((l.take k).all fun x=>!q x)=true)/\Below g.heap.size g w) (fun (k:Nat)=>l.length-k) 0 ?_ ?_
 ·exact ⟨b.sb,(Qf _),rfl,i⟩
 rintro k a w1 ⟨b,hk,e,i⟩;refine Zs b fun _ aJ=>?_;refine Ze (X0n rfl rfl)<|ZX aJ fun a b _ aK=>?_
 refine Xi b rfl (fun c=>?_) (fun c=>?_)
 ·have aB:=c;have c:=Q2 c
  obtain ⟨u8,aO⟩:=X4 (l:=l) (k:=k) (by omega)
  obtain ⟨u9,a6⟩:=X4 (l:=l) (k:=k) (by have:=c;omega)
  refine Q7<|aK _ _<|Q5 fun _ aL=>?_;refine Q8<|Zs b fun _ aC=>?_;refine Zm rfl<|Za rfl<|Zx aC fun a b _ aD=>?_;refine Zm rfl<|Zm rfl<|Zm rfl<|Zi (k:=k) (u:=u9) (enc:=encNd) (l:=l) tv0 rfl rfl Xm X06 Xv (aA.bx i) a6 rfl ?_;intro aP a7;refine Ze (X03 (l:=[vi u9.k,vi u9.p]) rfl X22 a7 rfl)<|Zf (X7o (cs:=pq) (vs:=[.agg #[vi u9.k,vi u9.p]]) rfl rfl Fq (hq u9 _ i)) ?_;rintro _ w2 ⟨rfl,hE⟩;have i:=btr i hE;refine Zt aD fun a b=>?_
  refine Xi b rfl (fun d=>?_) (fun d=>?_)
  ·have a8:=d
   have f:idxF l q=(k:Int):=X8t e a6 d
   refine Zs b fun _ aE=>?_;refine Zm rfl<|Za rfl<|Zt aE fun a b=>?_;refine Q6<|Xw<|X8<|X8 ?_;refine Xw<|X8<|X6 b (Xp b rfl rfl) ?_;exact ⟨by rw [f],i⟩
  have a8:=d;have aM:=X72 e a6 d;refine Q7<|Xa<|aL _ _<|Zr b ?_;refine Ze (Xs rfl rfl (by omega) (by omega))<|Zm rfl ?_;refine Zn fun a b=>?_;refine Xc ?_;exact ⟨k+1,⟨b.sb,(by omega),aM,i⟩,(by omega)⟩
 have aB:=c;have c:=Q1 c
 have f:idxF l q = -1:=X9j e (by have:=c;omega)
 refine Q9<|Xk<|Xk<|X02 ?_;refine aH _ _<|Zs b fun _ aF=>?_;refine Za rfl<|Zt aF fun a b=>?_
 refine Q6 (X6 b (Xp b rfl rfl) ?_)
 exact ⟨by rw [f],i⟩
theorem Y06(w0:World)(x:Wr)(p q:Int)(ba bb:Nat)(d:Blk w0 ba 3 [vi p])(e:Blk w0 bb 3 [vi q]) : Ret Tryz.prog 199 [.agg #[vi x.a,vi x.b,.bool x.h],(pZ9 ba),(pZ9 bb)] w0 (fun v w=>v=.bool (isW p q x)/\Below w0.heap.size w0 w):=by
 have a7:=d.lt;have a8:=e.lt;refine enter Tryz.func199 rfl 19 rfl rfl ?_;intro a f
 have hW:=bz w0
 refine Zs f fun _ aA=>?_;refine Zf (X0l (zs:=[vi x.a,vi x.b,.bool x.h]) rfl rfl) ?_;rintro _ w1 ⟨b2,rfl,aB,hE,a6⟩;have aD:=Q0 hW.size aB;have d:=d.bw hE;have e:=e.bw hE;have hW:=btr hW hE;refine Za rfl<|ZX aA fun a f _ aC=>?_;refine X0a (fun a w=>Fr a 19 [(4,.bool ((x.a==(min p q))&&(x.b==(max p q))))]/\w1=w) ?_ ?_
 ·refine Zr f<|Ze (Vd rfl X0p 0)<|Ze (X0 rfl X9 (a6.at 0))<|Ze (X0 rfl X9 (d.at 0))<|Ze (X0 rfl X9 (e.at 0))<|Ze (Xw9 rfl rfl)<|Ze (X0k rfl rfl)<|Zm rfl ?_
  refine Zg 11 rfl (fun c=>?_) (fun c=>?_)
  ·refine Zv (gW c) (Vd rfl X0r 1) ?_;refine Zv (gW c) (X0 rfl X9 (a6.at 1)) ?_;refine Zv (gW c) (X0 rfl X9 (d.at 0)) ?_;refine Zv (gW c) (X0 rfl X9 (e.at 0)) ?_;refine Zv (gW c) (Xzv rfl rfl) ?_;refine Zv (gW c) (X0k rfl rfl) ?_;refine Ze (X5 rfl c rfl)<|Za rfl ?_;refine Zn fun a f=>?_;exact ⟨f.sub ⟨X1 rfl (by simp [c]),trivial⟩,rfl⟩
  (iterate 6 refine Zp (gP c) ?_);refine Ze (Xb rfl c rfl)<|Za rfl ?_;refine Zn fun a f=>?_;exact ⟨f.sub ⟨X1 rfl (by simp [c]),trivial⟩,rfl⟩
 rintro a _ ⟨f,rfl⟩;refine aC _ _ ?_
 refine Q6 (X6 f (Xp f rfl rfl) ?_)
 exact ⟨rfl,hW⟩
theorem Xtf(g:World)(d:Dg)(md:Nat)(aG:md=d.ns.length)(Ad:Option Addr)(cd:Nat)(aH:Rd g g.heap.size 81 encNd Ad d.ns)(Bd:Option Addr)(dd:Nat)(a6:Rd g g.heap.size 83 encWr Bd d.ws)(aI:d.ws.length<=dd)(p:Int)(q:Int)(a8:d.ws.length<=1000000000) : Ret Tryz.prog 165 [.agg #[vi d.n,.slice Ad md cd,.slice Bd d.ws.length dd,vi d.t,vi d.r],vi p,vi q] g (fun v w=>v=vi (fdW d.ws p q)/\Below g.heap.size g w):=by
 refine enter Tryz.func165 rfl 11 rfl rfl ?_;intro a hf
 have b:=bz g
 refine Zs hf fun _ aA=>?_;refine Zf (X0l (zs:=[vi d.n,.slice Ad md cd,.slice Bd d.ws.length dd,vi d.t,vi d.r]) rfl rfl) ?_;rintro _ w1 ⟨b4,rfl,aB,e,c⟩;have aJ:=Q0 b.size aB;have b:=btr b e;refine Zf (X0l (zs:=[vi p]) rfl rfl) ?_;rintro _ w2 ⟨b5,rfl,aC,e,f⟩;have aK:=Q0 b.size aC;have c:=c.bw e;have b:=btr b e;refine Zf (X0l (zs:=[vi q]) rfl rfl) ?_;rintro _ w3 ⟨b6,rfl,aD,e,aE⟩
 have a7:b5≠b6:=by have:=f.lt;omega
 have aL:=Q0 b.size aD;have c:=c.bw e;have f:=f.bw e;have b:=btr b e;refine Za rfl<|Zx aA fun a hf _ aF=>?_;refine Ze (Vd rfl Xl 2)<|Ze (X0 rfl X0d (c.at 2))<|Ze (X3p (vs:=[(pZ9 b5),(pZ9 b6)]) rfl)<|Zf (Vc (Xm9 _ Bd dd d.ws (a6.bx b).top 199 [(pZ9 b5),(pZ9 b6)] Xnm (isW p q) (fun x w' hE'=>Y06 w' x p q _ _ (f.bw hE') (aE.bw hE')) a8) Xbs) ?_;rintro _ w4 ⟨rfl,e⟩;have b:=btr b e;refine Za rfl<|Zt aF fun a hf=>?_
 refine Q6 (X6 hf (Xp hf rfl rfl) ?_)
 exact ⟨rfl,b⟩
theorem X78(g:World)(d:Dg)(md:Nat)(a7:md=d.ns.length)(Ad:Option Addr)(cd:Nat)(a8:Rd g g.heap.size 81 encNd Ad d.ns)(Bd:Option Addr)(dd:Nat)(i:Rd g g.heap.size 83 encWr Bd d.ws)(aA:d.ws.length<=dd)(p:Int)(q:Int)(aD:d.ws.length<=1000000000) : Ret Tryz.prog 116 [.agg #[vi d.n,.slice Ad md cd,.slice Bd d.ws.length dd,vi d.t,vi d.r],vi p,vi q] g (fun v w=>v=vi (tyW d.ws p q)/\Below g.heap.size g w):=by
 have aL:=Xaf d.ws p q
 have aE:∀ x:Bool,(if x=true then (1:Int) else 0)=0∨(if x=true then (1:Int) else 0)=1:=fun x=>by cases x;exact .inl rfl;exact .inr rfl
 refine enter Tryz.func116 rfl 22 rfl rfl ?_;intro a c
 have e:=bz g
 refine Zs c fun _ aF=>?_;refine Zf (X0l (zs:=[vi d.n,.slice Ad md cd,.slice Bd d.ws.length dd,vi d.t,vi d.r]) rfl rfl) ?_;rintro _ w1 ⟨b4,rfl,aG,hE,f⟩;have aM:=Q0 e.size aG;have e:=btr e hE;refine Za rfl<|Zx aF fun a c _ aH=>?_;refine Ze (Vn X2 f)<|Zm rfl<|Zm rfl<|Zf (Vc (Xtf _ d md a7 Ad cd (a8.bx e).top Bd dd (i.bx e).top aA p q aD) Xf7) ?_;rintro _ w2 ⟨rfl,hE⟩;have f:=f.bw hE;have e:=btr e hE;refine Za rfl<|ZX aH fun a c _ aI=>?_;refine Zs c fun _ aJ=>?_;refine Zm rfl<|Ze (X0n rfl rfl)<|Zt aJ fun a c=>?_
 refine Xi c rfl (fun b=>?_) (fun b=>?_)
 ·have aB:=b;have b:=Q2 b
  have hz:tyW d.ws p q=0:=by unfold tyW;exact Q4 (by simpa using b)
  refine Zs c fun _ aK=>?_;refine Za rfl<|Zt aK fun a c=>?_;refine Q6<|X8<|X6 c (Xp c rfl rfl) ?_;exact ⟨by rw [hz],e⟩
 have aB:=b;have b:=Q1 b
 have aN:0<=fdW d.ws p q:=by have h9:=b;simp at h9;omega
 have hz:tyW d.ws p q=1+(if (d.ws.getD (fdW d.ws p q).toNat wZ).h=true then 1 else 0):=by unfold tyW;rw [Q3 (by omega)];cases (d.ws.getD (fdW d.ws p q).toNat wZ).h<;>rfl
 have aO:=aE (d.ws.getD (fdW d.ws p q).toNat wZ).h;refine Q7<|aI _ _<|Zs c fun _ aC=>?_;refine Ze (Vd rfl Xl 2)<|Ze (X0 rfl X0d (f.at 2))<|Zm rfl<|Zi (k:=(fdW d.ws p q).toNat) (u:=(d.ws.getD (fdW d.ws p q).toNat wZ)) (enc:=encWr) (l:=d.ws) tv0 rfl rfl Xr X0c Xy (i.bx e) (Xg (by omega)) (by omega) ?_;intro aP a6;refine Ze (X2j rfl X3n)<|Ze (X0 rfl X6q (a6.drop 2))<|Zf (Vc (F59 _ ((d.ws.getD (fdW d.ws p q).toNat wZ).h)) Xcu) ?_;rintro _ _ ⟨rfl,rfl⟩;refine Ze (Xs rfl rfl (by omega) (by omega))<|Za rfl<|Zt aC fun a c=>?_
 refine Q6 (X6 c (Xp c rfl rfl) ?_)
 exact ⟨by rw [hz],e⟩
theorem X52(e:World)(d:Dg)(md:Nat)(f:md=d.ns.length)(Ad:Option Addr)(cd:Nat)(a6:Rd e e.heap.size 81 encNd Ad d.ns)(Bd:Option Addr)(dd:Nat)(aD:Rd e e.heap.size 83 encWr Bd d.ws)(aE:d.ws.length<=dd)(p:Int)(hN:md<=1000) : Ret Tryz.prog 74 [.agg #[vi d.n,.slice Ad md cd,.slice Bd d.ws.length dd,vi d.t,vi d.r],vi p] e (fun v w=>v=.bool (spI d.ns p)/\Below e.heap.size e w):=by
 refine enter Tryz.func74 rfl 20 rfl rfl ?_;intro a c
 have hW:=bz e
 refine Zs c fun _ aA=>?_;refine Zf (X0l (zs:=[vi d.n,.slice Ad md cd,.slice Bd d.ws.length dd,vi d.t,vi d.r]) rfl rfl) ?_;rintro _ w1 ⟨b4,rfl,aB,hE,a7⟩;have aF:=Q0 hW.size aB;have hW:=btr hW hE;refine Za rfl<|ZX aA fun a c _ aC=>?_;refine X0a (fun a w=>Fr a 20 [(4,.bool ((inR p 0 ((md:Int)-1))&&(((d.ns.getD p.toNat nZ).k)==3)))]/\w1=w) ?_ ?_
 ·refine Zr c<|Zm rfl<|Ze (Vd rfl Xf 1)<|Ze (X0 rfl Xz (a7.at 1))<|Ze (X09 rfl Xm)<|Ze (X1h rfl rfl (by omega) (by omega))<|Zf (Vc (F91 _ p 0 ((md:Int)-1)) X7z) ?_;rintro _ _ ⟨rfl,rfl⟩;refine Zm rfl ?_
  refine Zg 11 rfl (fun b=>?_) (fun b=>?_)
  ·have aG:=X0o.1 b;refine Zv (gW b) (Vd rfl Xf 1) ?_;refine Zv (gW b) (X0 rfl Xz (a7.at 1)) ?_;refine Zv (gW b) (X3 rfl) ?_;refine Zj (k:=p.toNat) (u:=(d.ns.getD p.toNat nZ)) (enc:=encNd) (l:=d.ns) ⟨_,_,rfl,rfl,b⟩ rfl f rfl Xm X06 Xv (a6.bx hW) (Xg (by omega)) (by omega) ?_;intro p8 a8;refine Zv (gW b) (X2j rfl X12) ?_;refine Zv (gW b) (X0 rfl X9 (a8.drop 0)) ?_;refine Zv (gW b) (X0k rfl rfl) ?_;refine Ze (X5 rfl b rfl)<|Za rfl ?_;refine Zn fun a c=>?_;exact ⟨c.sub ⟨X1 rfl (by simp [b]),trivial⟩,rfl⟩
  (iterate 7 refine Zp (gP b) ?_);refine Ze (Xb rfl b rfl)<|Za rfl ?_;refine Zn fun a c=>?_;exact ⟨c.sub ⟨X1 rfl (by simp [b]),trivial⟩,rfl⟩
 rintro a _ ⟨c,rfl⟩;refine aC _ _ ?_
 refine Q6 (X6 c (Xp c rfl rfl) ?_)
 exact ⟨by unfold spI;rw [f],hW⟩
theorem X8l(y:World)(d:Dg)(md:Nat)(aP:md=d.ns.length)(Ad:Option Addr)(cd:Nat)(aQ:Rd y y.heap.size 81 encNd Ad d.ns)(Bd:Option Addr)(dd:Nat)(B:Rd y y.heap.size 83 encWr Bd d.ws)(q:d.ws.length<=dd)(p:Int)(aU:d.ws.length<=1000000000) : Ret Tryz.prog 102 [.agg #[vi d.n,.slice Ad md cd,.slice Bd d.ws.length dd,vi d.t,vi d.r],vi p] y (fun v w=>v=vi (cnW d.ws p)/\Below y.heap.size y w):=by
 refine enter Tryz.func102 rfl 29 rfl rfl ?_;intro a f
 have m:=bz y
 refine Zs f fun _ aH=>?_;refine Zf (X0l (zs:=[vi d.n,.slice Ad md cd,.slice Bd d.ws.length dd,vi d.t,vi d.r]) rfl rfl) ?_;rintro _ w1 ⟨b4,rfl,aI,hE,aJ⟩;have aR:=Q0 m.size aI;have m:=btr m hE;refine Za rfl<|Zx aH fun a f _ aK=>?_;refine Za rfl<|ZX aK fun a f _ aL=>?_;refine Zs f fun _ aM=>?_;refine Ze (Vd rfl Xl 2)<|Ze (X0 rfl X0d (aJ.at 2))<|Ze (X09 rfl Xr)<|Zm rfl<|Zt aM fun a f=>?_;refine Q8<|X01 (σ:=Nat×Int) (fun (s:Nat×Int) (a:Act) (w:World)=>match s with|(k,c)=>Fr a 29 [(1,vi p),(5,vi c),(9,.slice Bd d.ws.length dd),(10,vi (d.ws.length:Int)),(11,vi (k:Int))]/\(k<=d.ws.length)/\(c=cnW (d.ws.take k) p)/\d.ws.length<=dd/\Below y.heap.size y w) (fun (s:Nat×Int)=>match s with|(k,c)=>d.ws.length-k) (0,0) ?_ ?_
 ·exact ⟨f.sb,(Qf _),rfl,q,m⟩
 rintro ⟨k,c⟩ a w2 ⟨f,hk,hc,q,m⟩;have aB:=Xf8 d.ws p k
 rw [<- hc] at aB
 refine Zs f fun _ aN=>?_;refine Ze (X0n rfl rfl)<|ZX aN fun a f _ aO=>?_
 refine Xi f rfl (fun g=>?_) (fun g=>?_)
 ·have o:=g;have g:=Q2 g
  obtain ⟨aV,aS⟩:=X4 (l:=d.ws) (k:=k) (by omega)
  obtain ⟨A,a6⟩:=X4 (l:=d.ws) (k:=k) (by have:=g;omega)
  have aB:=Xf8 d.ws p k;refine Q7<|aO _ _<|Q5 fun _ C=>?_;refine Q8<|Zs f fun _ aC=>?_;refine Zi (k:=k) (u:=A) (enc:=encWr) (l:=d.ws) tv0 rfl rfl Xr X0c Xy (B.bx m) a6 rfl ?_;intro aW a7;refine Ze (X03 (l:=[vi A.a,vi A.b,.bool A.h]) rfl X10 a7 rfl)<|Zf (Xq (zs:=[vi 0,vi 0,.bool false]) X2s rfl) ?_;rintro _ w3 ⟨aX,rfl,D,hE,i⟩;have a8:=Q0 m.size D;have aD:=(B.bx m).away D;have m:=btr m hE;refine Zo (Vw [vi A.a,vi A.b,.bool A.h] X0c i) ?_;rintro _ w4 ⟨ho,hb⟩;have aT:=i;have m:=Below.oy m ho a8;have i:=hb;refine ZX aC fun a f _ aE=>?_;refine X0a (fun a w=>Fr a 29 [(1,vi p),(5,vi c),(9,.slice Bd d.ws.length dd),(10,vi (d.ws.length:Int)),(11,vi (k:Int)),(24,.bool ((A.a==p)||(A.b==p)))]/\w4=w) ?_ ?_
  ·refine Zr f<|Ze (Vd rfl X0p 0)<|Ze (X0 rfl X9 (i.at 0))<|Zm rfl<|Ze (X0k rfl rfl)<|Zm rfl ?_
   refine Zg 19 rfl (fun e=>?_) (fun e=>?_)
   ·(iterate 4 refine Zp (gP e) ?_);refine Ze (X5 rfl e rfl) ?_;refine Zn fun a f=>?_;exact ⟨f.sub ⟨rfl,rfl,rfl,rfl,rfl,X1 rfl (by simp [o,e]),trivial⟩,rfl⟩
   refine Zv (gW e) (Vd rfl X0r 1) ?_;refine Zv (gW e) (X0 rfl X9 (i.at 1)) ?_;refine Zv (gW e) (X3 rfl) ?_;refine Zv (gW e) (X0k rfl rfl) ?_;refine Ze (Xb rfl e rfl) ?_;refine Zn fun a f=>?_;exact ⟨f.sub ⟨rfl,rfl,rfl,rfl,rfl,X1 rfl (by simp [o,e]),trivial⟩,rfl⟩
  rintro a _ ⟨f,rfl⟩;refine aE _ _ ?_
  refine Xi f rfl (fun j=>?_) (fun j=>?_)
  ·have aA:=j;have x:=Xye a6 j
   rw [<- hc] at x
   refine Zr f<|Zm rfl<|Ze (Xs rfl rfl (by omega) (by omega))<|Za rfl ?_;refine Zn fun a f=>?_;refine Xa<|C _ _<|Zr f<|Ze (Xs rfl rfl (by omega) (by omega))<|Zm rfl ?_;refine Zn fun a f=>?_;refine Xc ?_;exact ⟨(k+1,c+1),⟨f.sb,(by omega),(by rw [x]),q,m⟩,(by first|omega|(dsimp only;omega))⟩
  have aA:=j;have x:=Xyk a6 j
  rw [<- hc] at x
  refine Q7<|Xa<|C _ _<|Zr f ?_;refine Ze (Xs rfl rfl (by omega) (by omega))<|Zm rfl ?_;refine Zn fun a f=>?_;refine Xc ?_;exact ⟨(k+1,c),⟨f.sb,(by omega),(by rw [x]),q,m⟩,(by first|omega|(dsimp only;omega))⟩
 have o:=g;have g:=Q1 g
 have aF:c=cnW d.ws p:=by rw [hc,Qi (by have:=g;omega)]
 refine Q9<|Xk<|Xk<|X02 ?_;refine aL _ _<|Zs f fun _ aG=>?_;refine Zm rfl<|Za rfl<|Zt aG fun a f=>?_
 refine Q6 (X6 f (Xp f rfl rfl) ?_)
 exact ⟨by rw [aF],m⟩
theorem Xzw(m:World)(Al:Option Addr)(cl:Nat)(l:List Nd)(n:Rd m m.heap.size 81 encNd Al l)(x:Nd)(aO:l.length<=1000000000) : Ret Tryz.prog 167 [.slice Al l.length cl,.agg #[vi x.k,vi x.p]] m (fun v w=>v=vi (fnI l x)/\Below m.heap.size m w):=by
 refine enter Tryz.func167 rfl 19 rfl rfl ?_;intro a c
 have f:=bz m
 refine Zs c fun _ aH=>?_;refine Zf (X0l (zs:=[vi x.k,vi x.p]) rfl rfl) ?_;rintro _ w1 ⟨b3,rfl,a8,hE,e⟩;have aN:=Q0 f.size a8;have aG:=(n.bx f).away a8;have f:=btr f hE;refine Za rfl<|ZX aH fun a c _ aI=>?_;refine Zs c fun _ aJ=>?_;refine Zm rfl<|Ze (X09 rfl Xm)<|Zm rfl<|Zt aJ fun a c=>?_;refine Q8<|X01 (σ:=Nat) (fun (k:Nat) (a:Act) (w:World)=>Fr a 19 [(0,.slice Al l.length cl),(3,(pZ9 b3)),(7,vi (l.length:Int)),(8,vi (k:Int))]/\(k<=l.length)/\(((l.take k).all fun y=>!decide (x=y))=true)/\Blk w b3 81 [vi x.k,vi x.p]/\Below m.heap.size m w) (fun (k:Nat)=>l.length-k) 0 ?_ ?_
 ·exact ⟨c.sb,(Qf _),rfl,e,f⟩
 rintro k a w2 ⟨c,hk,g,e,f⟩;refine Zs c fun _ aK=>?_;refine Ze (X0n rfl rfl)<|ZX aK fun a c _ aL=>?_
 refine Xi c rfl (fun d=>?_) (fun d=>?_)
 ·have aA:=d;have d:=Q2 d
  obtain ⟨u9,j⟩:=X4 (l:=l) (k:=k) (by omega)
  obtain ⟨u9,j⟩:=X4 (l:=l) (k:=k) (by have:=d;omega)
  refine Q7<|aL _ _<|Q5 fun _ aB=>?_;refine Q8<|Zs c fun _ aC=>?_;refine Zm rfl<|Za rfl<|ZX aC fun a c _ aD=>?_;refine X04 none (fun _=>false) mixed ?_;intro w3 hE;have e:=e.bw hE;have f:=btr f hE;refine Yb c<|Ye 0 rfl (Vn X22 e)<|Yo 1 rfl (fun _=>X3 rfl)<|Yo 2 rfl (fun _=>X3 rfl)<|Yi (k:=k) (u:=u9) (enc:=encNd) (l:=l) 3 rfl tv0 rfl rfl Xm X06 Xv (n.bx f) j rfl ?_;intro aP a6;refine Ye 4 rfl (X03 (l:=[vi u9.k,vi u9.p]) rfl X22 a6 rfl)<|Yo 5 rfl (fun _=>Xs7 rfl rfl Xax (fun w=>Xb3 9998 x u9 w)) ?_;refine Yd fun a c=>?_;refine aD _ _ ?_
  refine Xi c rfl (fun b=>?_) (fun b=>?_)
  ·have a7:=b;have b:=Q2 b
   have i:fnI l x=(k:Int):=X8t g j (by simpa using b)
   refine Zs c fun _ aE=>?_;refine Zm rfl<|Za rfl<|Zt aE fun a c=>?_;refine Q6<|Xw<|X8<|X8 ?_;refine Xw<|X8<|X6 c (Xp c rfl rfl) ?_;exact ⟨by rw [i],f⟩
  have a7:=b;have b:=Q1 b
  have aM:=X72 (q:=fun y=>decide (x=y)) g j (by simpa using b)
  refine Q7<|Xa<|aB _ _<|Zr c ?_;refine Ze (Xs rfl rfl (by omega) (by omega))<|Zm rfl ?_;refine Zn fun a c=>?_;refine Xc ?_;exact ⟨k+1,⟨c.sb,(by omega),aM,e,f⟩,(by omega)⟩
 have aA:=d;have d:=Q1 d
 have i:fnI l x = -1:=X9j g (by have:=d;omega)
 refine Q9<|Xk<|Xk<|X02 ?_;refine aI _ _<|Zs c fun _ aF=>?_;refine Za rfl<|Zt aF fun a c=>?_
 refine Q6 (X6 c (Xp c rfl rfl) ?_)
 exact ⟨by rw [i],f⟩
theorem Y3d(w0:World)(n:Int)(x:Nd)(hn:1<=n/\n<=1000) : Ret Tryz.prog 99 [vi n,.agg #[vi x.k,vi x.p]] w0 (fun v w=>v=.bool (nokI n x)/\Below w0.heap.size w0 w):=by
 refine enter Tryz.func99 rfl 25 rfl rfl ?_;intro a b
 have m:=bz w0
 refine Zs b fun _ aG=>?_;refine Zf (X0l (zs:=[vi x.k,vi x.p]) rfl rfl) ?_;rintro _ w1 ⟨b2,rfl,aH,hE,g⟩;have aN:=Q0 m.size aH;have m:=btr m hE;refine Za rfl<|ZX aG fun a b _ aI=>?_;refine Zs b fun _ aJ=>?_;refine Ze (Vd rfl X12 0)<|Ze (X0 rfl X9 (g.at 0))<|Zt aJ fun a b=>?_;refine Q8<|Zs b fun _ aK=>?_;refine Ze (X0k rfl rfl)<|Za rfl<|Zt aK fun a b=>?_
 refine Xi b rfl (fun i=>?_) (fun i=>?_)
 ·have a8:=i
  have c:nokI n x=_:=Q4 i
  refine Zs b fun _ aL=>?_;refine Ze (Vd rfl X07 1)<|Ze (X0 rfl X9 (g.at 1))<|Ze (X0k rfl rfl)<|Za rfl<|Zt aL fun a b=>?_;refine Q6<|Xw<|X8<|X6 b (Xp b rfl rfl) ?_;exact ⟨by rw [c],m⟩
 have a8:=i
 have g0:=i
 refine Q5 fun _ aA=>?_;refine Zs b fun _ aM=>?_;refine Ze (X0k rfl rfl)<|Za rfl<|Zt aM fun a b=>?_
 refine Xi b rfl (fun d=>?_) (fun d=>?_)
 ·have j:=d
  have c:nokI n x=inR x.p 0 (n-1):=by unfold nokI;rw [g0,d];rfl
  refine Q7<|aA _ _<|Xlx b (X1 rfl j) ?_;refine Zs b fun _ aB=>?_;refine Ze (Vd rfl X07 1)<|Ze (X0 rfl X9 (g.at 1))<|Zm rfl<|Ze (X1h rfl rfl (by omega) (by omega))<|Zf (Vc (F91 _ x.p 0 (n-1)) X7z) ?_;rintro _ _ ⟨rfl,rfl⟩;refine Za rfl<|Zt aB fun a b=>?_;refine Q6<|Xw<|X8<|X6 b (Xp b rfl rfl) ?_;exact ⟨by rw [c],m⟩
 have j:=d
 have g1:=d
 refine Zr b<|Ze (X0k rfl rfl)<|Za rfl<|Zt aA fun a b=>?_
 refine Xi b rfl (fun e=>?_) (fun e=>?_)
 ·have a6:=e
  have c:nokI n x=inR x.p 0 (n-1):=by unfold nokI;rw [g0,g1,e];rfl
  refine Zs b fun _ aC=>?_;refine Ze (Vd rfl X07 1)<|Ze (X0 rfl X9 (g.at 1))<|Zm rfl<|Ze (X1h rfl rfl (by omega) (by omega))<|Zf (Vc (F91 _ x.p 0 (n-1)) X7z) ?_;rintro _ _ ⟨rfl,rfl⟩;refine Za rfl<|Zt aC fun a b=>?_;refine Q6<|Xw<|X8<|X6 b (Xp b rfl rfl) ?_;exact ⟨by rw [c],m⟩
 have a6:=e
 have g2:=e
 refine Zs b fun _ aD=>?_;refine Ze (X0k rfl rfl)<|Za rfl<|Zt aD fun a b=>?_
 refine Xi b rfl (fun f=>?_) (fun f=>?_)
 ·have a7:=f
  have c:nokI n x=inR x.p 0 7:=by unfold nokI;rw [g0,g1,g2,f];rfl
  refine Zs b fun _ aE=>?_;refine Ze (Vd rfl X07 1)<|Ze (X0 rfl X9 (g.at 1))<|Zf (Vc (F91 _ x.p 0 7) X7z) ?_;rintro _ _ ⟨rfl,rfl⟩;refine Za rfl<|Zt aE fun a b=>?_;refine Q6<|Xw<|X8<|X6 b (Xp b rfl rfl) ?_;exact ⟨by rw [c],m⟩
 have a7:=f
 have c:nokI n x=false:=by unfold nokI;rw [g0,g1,g2,f];rfl
 refine Q7<|Xa<|aI _ _<|Zs b fun _ aF=>?_;refine Za rfl<|Zt aF fun a b=>?_
 refine Q6 (X6 b (Xp b rfl rfl) ?_)
 exact ⟨by rw [c],m⟩
theorem Xsr(w0:World)(Al:Option Addr)(cl:Nat)(l:List Int)(a8:Rd w0 w0.heap.size 3 encI Al l)(aM:l.length<=1000000000) : Ret Tryz.prog 149 [.slice Al l.length cl] w0 (fun v w=>v=vi (orI l)/\w0=w):=by
 have f:w0=w0:=rfl
 refine enter Tryz.func149 rfl 18 rfl rfl ?_;intro a b
 have hW:=bz w0
 refine Zs b fun _ aG=>?_;refine Za rfl<|Zx aG fun a b _ aH=>?_;refine Za rfl<|ZX aH fun a b _ aI=>?_;refine Zs b fun _ aJ=>?_;refine Zm rfl<|Ze (X09 rfl Xj)<|Zm rfl<|Zt aJ fun a b=>?_;refine Q8<|X01 (σ:=Nat) (fun (k:Nat) (a:Act) (w:World)=>Fr a 18 [(3,vi 0),(6,.slice Al l.length cl),(7,vi (l.length:Int)),(8,vi (k:Int))]/\(k<=l.length)/\(∀ x ∈ l.take k,x=0)/\w0=w/\Below w0.heap.size w0 w) (fun (k:Nat)=>l.length-k) 0 ?_ ?_
 ·exact ⟨b.sb,(Qf _),(by simp),f,hW⟩
 rintro k a w1 ⟨b,hk,e,f,hW⟩;refine Zs b fun _ aK=>?_;refine Ze (X0n rfl rfl)<|ZX aK fun a b _ aL=>?_
 refine Xi b rfl (fun c=>?_) (fun c=>?_)
 ·have aA:=c;have c:=Q2 c
  obtain ⟨u9,i⟩:=X4 (l:=l) (k:=k) (by omega)
  obtain ⟨u9,i⟩:=X4 (l:=l) (k:=k) (by have:=c;omega)
  refine Q7<|aL _ _<|Q5 fun _ aB=>?_;refine Q8<|Zs b fun _ aC=>?_;refine Zi (k:=k) (u:=u9) (enc:=encI) (l:=l) tv0 rfl rfl Xj X0b Xd (a8.bx hW) i rfl ?_;intro aN a6;refine Ze (X0 rfl X9 a6)<|Za rfl<|Zx aC fun a b _ aD=>?_;refine Zm rfl<|Zm rfl<|Ze (X1e rfl rfl)<|Zt aD fun a b=>?_
  refine Xi b rfl (fun d=>?_) (fun d=>?_)
  ·have a7:=d
   have g:orI l=u9:=Xry e i (by simpa using d)
   refine Zs b fun _ aE=>?_;refine Zm rfl<|Za rfl<|Zt aE fun a b=>?_;refine Q6<|Xw<|X8<|X8 ?_;refine Xw<|X8<|X6 b (Xp b rfl rfl) ?_;exact ⟨by rw [g],f⟩
  have a7:=d
  have aO:u9=0:=by have h9:=d;simpa using h9
  refine Q7<|Xa<|aB _ _<|Zr b ?_;refine Ze (Xs rfl rfl (by omega) (by omega))<|Zm rfl ?_;refine Zn fun a b=>?_;refine Xc ?_;exact ⟨k+1,⟨b.sb,(by omega),(fun x hx=>by rw [Qt,i] at hx;rcases Qu.1 hx with hx|hx;exact e x hx;simp at hx;omega),f,hW⟩,(by omega)⟩
 have aA:=c;have c:=Q1 c
 have g:orI l=0:=Y1r (by rw [Qi (by have:=c;omega)] at e;exact e)
 refine Q9<|Xk<|Xk<|X02 ?_;refine aI _ _<|Zs b fun _ aF=>?_;refine Zm rfl<|Za rfl<|Zt aF fun a b=>?_
 refine Q6 (X6 b (Xp b rfl rfl) ?_)
 exact ⟨by rw [g],f⟩
theorem Xzr(w0:World)(x:Wr)(y:Wr) : Ret Tryz.prog 101 [.agg #[vi x.a,vi x.b,.bool x.h],.agg #[vi y.a,vi y.b,.bool y.h]] w0 (fun v w=>v=vi (cmW x y)/\Below w0.heap.size w0 w):=by
 refine enter Tryz.func101 rfl 17 rfl rfl ?_;intro a hf
 have d:=bz w0
 refine Zs hf fun _ a8=>?_;refine Zf (X0l (zs:=[vi x.a,vi x.b,.bool x.h]) rfl rfl) ?_;rintro _ w1 ⟨b2,rfl,aA,e,c⟩;have aE:=Q0 d.size aA;have d:=btr d e;refine Zf (X0l (zs:=[vi y.a,vi y.b,.bool y.h]) rfl rfl) ?_;rintro _ w2 ⟨b3,rfl,aB,e,f⟩
 have a7:b2≠b3:=by have:=c.lt;omega
 have aF:=Q0 d.size aB;have c:=c.bw e;have d:=btr d e;refine Za rfl<|ZX a8 fun a hf _ aC=>?_;refine X04 none (fun _=>false) mixed ?_;intro w3 e;have c:=c.bw e;have f:=f.bw e;have d:=btr d e;refine Yb hf<|Yo 0 rfl (fun _=>Vd rfl X0p 0)<|Ye 1 rfl (X0 rfl X9 (c.at 0))<|Yo 2 rfl (fun _=>Vd rfl X0p 0)<|Ye 3 rfl (X0 rfl X9 (f.at 0))<|Yo 5 rfl (fun _=>Vd rfl X0r 1)<|Ye 6 rfl (X0 rfl X9 (c.at 1))<|Yo 7 rfl (fun _=>Vd rfl X0r 1)<|Ye 8 rfl (X0 rfl X9 (f.at 1))<|Y1 4 ?_;refine Yz rfl tv0 (Vc (Xh4 _ x.a y.a) X8k) ?_;refine Y1 9<|Yz rfl tv0 (Vc (Xh4 _ x.b y.b) X8k) ?_;refine Y1 10<|Yk rfl tv0 (Xn (k:=2) (vs:=[vi (cmI x.a y.a),vi (cmI x.b y.b)]) (zs:=[vi (cmI x.a y.a),vi (cmI x.b y.b)]) rfl Xj X1g rfl rfl) (fun _ _ ⟨_,_,_,h,_⟩=>h) ?_;rintro _ w4 ⟨b5,rfl,aD,e,a6⟩;have aG:=Q0 d.size aD;have d:=btr d e;refine Y1 11<|Yz rfl tv0 (Vc (Xsr _ (some ⟨b5,0,none⟩) 2 ([cmI x.a y.a,cmI x.b y.b]) (Rd.of_blk a6 rfl _ a6.lt) (by simp)) Xfv) ?_;refine Yo 12 rfl (fun _=>X0u rfl) ?_;refine Yd fun a hf=>?_;refine aC _ _ ?_
 refine Q6 (X6 hf (Xp hf rfl rfl) ?_)
 exact ⟨by rw [Xt9],d⟩
theorem Xtt(b:World)(d:Dg)(md:Nat)(a6:md=d.ns.length)(Ad:Option Addr)(cd:Nat)(a7:Rd b b.heap.size 81 encNd Ad d.ns)(Bd:Option Addr)(dd:Nat)(aD:Rd b b.heap.size 83 encWr Bd d.ws)(aE:d.ws.length<=dd)(p:Int)(q:Int)(hN:md<=1000000000) : Ret Tryz.prog 117 [.agg #[vi d.n,.slice Ad md cd,.slice Bd d.ws.length dd,vi d.t,vi d.r],vi p,vi q] b (fun v w=>v=vi (fnI d.ns ⟨p,q⟩)/\Below b.heap.size b w):=by
 subst a6
 refine enter Tryz.func117 rfl 13 rfl rfl ?_;intro a hf
 have hW:=bz b
 refine Zs hf fun _ a8=>?_;refine Zf (X0l (zs:=[vi d.n,.slice Ad d.ns.length cd,.slice Bd d.ws.length dd,vi d.t,vi d.r]) rfl rfl) ?_;rintro _ w1 ⟨b4,rfl,aA,hE,aB⟩;have aF:=Q0 hW.size aA;have hW:=btr hW hE;refine Za rfl<|Zx a8 fun a hf _ aC=>?_;refine Ze (Vd rfl Xf 1)<|Ze (X0 rfl Xz (aB.at 1))<|Zm rfl<|Zm rfl<|Ze (X0s (ps:=[(0,vi p),(1,vi q)]) (cs:=[vi p,vi q]) rfl (fun _=>by first|rfl|kernel_rfl))<|Zf (Vc (Xzw _ Ad cd d.ns (a7.bx hW).top (⟨p,q⟩ : Nd) hN) Xpv) ?_;rintro _ w2 ⟨rfl,hE⟩;have hW:=btr hW hE;refine Za rfl<|Zt aC fun a hf=>?_
 refine Q6 (X6 hf (Xp hf rfl rfl) ?_)
 exact ⟨rfl,hW⟩
theorem Y1q(I:World)(d:Dg)(md:Nat)(J:md=d.ns.length)(Ad:Option Addr)(cd:Nat)(E:Rd I I.heap.size 81 encNd Ad d.ns)(Bd:Option Addr)(dd:Nat)(N:Rd I I.heap.size 83 encWr Bd d.ws)(m:d.ws.length<=dd)(hN:md<=1000)(hn:1<=d.n/\d.n<=1000) : Ret Tryz.prog 100 [.agg #[vi d.n,.slice Ad md cd,.slice Bd d.ws.length dd,vi d.t,vi d.r]] I (fun v w=>v=.bool (heD d)/\Below I.heap.size I w):=by
 refine enter Tryz.func100 rfl 46 rfl rfl ?_;intro a b
 have o:=bz I
 refine Zs b fun _ aQ=>?_;refine Zf (X0l (zs:=[vi d.n,.slice Ad md cd,.slice Bd d.ws.length dd,vi d.t,vi d.r]) rfl rfl) ?_;rintro _ w1 ⟨b4,rfl,aR,G,e⟩;have b1:=Q0 o.size aR;have o:=btr o G;refine Za rfl<|Zx aQ fun a b _ aS=>?_;refine Za rfl<|ZX aS fun a b _ aT=>?_;refine Zs b fun _ aU=>?_;refine Ze (Vd rfl Xf 1)<|Ze (X0 rfl Xz (e.at 1))<|Ze (X09 rfl Xm)<|Zm rfl<|Zt aU fun a b=>?_;refine Q8<|X01 (σ:=Nat×Int) (fun (s:Nat×Int) (a:Act) (w:World)=>match s with|(k,c)=>Fr a 46 [(1,(pZ9 b4)),(3,vi c),(8,.slice Ad md cd),(9,vi (md:Int)),(10,vi (k:Int))]/\(k<=d.ns.length)/\(c=bnI (d.ns.take k))/\Blk w b4 39 [vi d.n,.slice Ad md cd,.slice Bd d.ws.length dd,vi d.t,vi d.r]/\d.ws.length<=dd/\Below I.heap.size I w) (fun (s:Nat×Int)=>match s with|(k,c)=>d.ns.length-k) (0,0) ?_ ?_
 ·exact ⟨b.sb,(Qf _),rfl,e,m,o⟩
 rintro ⟨k,c⟩ a w2 ⟨b,hk,hc,e,m,o⟩;have aV:=Y2r d.ns k
 rw [<- hc] at aV
 refine Zs b fun _ aW=>?_;refine Ze (X0n rfl rfl)<|ZX aW fun a b _ aX=>?_
 refine Xi b rfl (fun x=>?_) (fun x=>?_)
 ·have h:=x;have x:=Q2 x
  obtain ⟨u9,a6⟩:=X4 (l:=d.ns) (k:=k) (by have:=x;omega)
  refine Q7<|aX _ _<|Q5 fun _ Q=>?_;refine Q8<|Zs b fun _ aD=>?_;refine Zj (k:=k) (u:=u9) (enc:=encNd) (l:=d.ns) tv0 rfl J rfl Xm X06 Xv (E.bx o) a6 (by omega) ?_;intro b2 a7;refine Ze (X03 (l:=[vi u9.k,vi u9.p]) rfl X22 a7 rfl)<|Zf (Xq (zs:=[vi 0,vi 0]) X6g rfl) ?_;rintro _ w3 ⟨b3,rfl,U,G,A⟩;have a8:=Q0 o.size U;have aE:=(E.bx o).away U;have e:=e.bw G;have o:=btr o G;refine Zo (Vw [vi u9.k,vi u9.p] X06 A) ?_;rintro _ w4 ⟨ho,hb⟩;have aF:=A;have e:=e.oz ho aF rfl;have o:=Below.oy o ho a8;have A:=hb;refine ZX aD fun a b _ aG=>?_;refine X0a (fun a w=>Fr a 46 [(1,(pZ9 b4)),(3,vi c),(8,.slice Ad md cd),(9,vi (md:Int)),(10,vi (k:Int)),(21,.bool ((u9.k==1)||(u9.k==2)))]/\w4=w) ?_ ?_
  ·refine Zr b<|Ze (Vd rfl X12 0)<|Ze (X0 rfl X9 (A.at 0))<|Ze (X0k rfl rfl)<|Zm rfl ?_
   refine Zg 17 rfl (fun g=>?_) (fun g=>?_)
   ·(iterate 3 refine Zp (gP g) ?_);refine Ze (X5 rfl g rfl) ?_;refine Zn fun a b=>?_;exact ⟨b.sub ⟨rfl,rfl,rfl,rfl,rfl,X1 rfl (by simp [h,g]),trivial⟩,rfl⟩
   refine Zv (gW g) (Vd rfl X12 0) ?_;refine Zv (gW g) (X0 rfl X9 (A.at 0)) ?_;refine Zv (gW g) (X0k rfl rfl) ?_;refine Ze (Xb rfl g rfl) ?_;refine Zn fun a b=>?_;exact ⟨b.sub ⟨rfl,rfl,rfl,rfl,rfl,X1 rfl (by simp [h,g]),trivial⟩,rfl⟩
  rintro a _ ⟨b,rfl⟩;refine aG _ _ ?_
  refine Xi b rfl (fun B=>?_) (fun B=>?_)
  ·have aA:=B;have L:=Y4r a6 B
   rw [<- hc] at L
   refine Zr b<|Zm rfl<|Ze (Xs rfl rfl (by omega) (by omega))<|Za rfl ?_;refine Zn fun a b=>?_;refine Xa<|Q _ _<|Zr b<|Ze (Xs rfl rfl (by omega) (by omega))<|Zm rfl ?_;refine Zn fun a b=>?_;refine Xc ?_;exact ⟨(k+1,c+1),⟨b.sb,(by omega),(by rw [L]),e,m,o⟩,(by first|omega|(dsimp only;omega))⟩
  have aA:=B;have L:=Y5d a6 B
  rw [<- hc] at L
  refine Q7<|Xa<|Q _ _<|Zr b ?_;refine Ze (Xs rfl rfl (by omega) (by omega))<|Zm rfl ?_;refine Zn fun a b=>?_;refine Xc ?_;exact ⟨(k+1,c),⟨b.sb,(by omega),(by rw [L]),e,m,o⟩,(by first|omega|(dsimp only;omega))⟩
 have h:=x;have x:=Q1 x
 have aY:c=bnI d.ns:=by rw [hc,Qi (by have:=x;omega)]
 refine Q9<|Xk<|Xk<|X02 ?_;refine aT _ _<|Q5 fun _ aH=>?_;refine Zs b fun _ aI=>?_;refine Ze (Vd rfl X16 0)<|Ze (X0 rfl X9 (e.at 0))<|Zm rfl<|Zt aI fun a b=>?_;refine Q8<|X01 (σ:=Nat) (fun (j:Nat) (a:Act) (w:World)=>Fr a 46 [(1,(pZ9 b4)),(3,vi c),(26,vi d.n),(27,vi (j:Int))]/\((j:Int)<=d.n)/\(∀ i:Nat,i<j->heQ d i=true)/\Blk w b4 39 [vi d.n,.slice Ad md cd,.slice Bd d.ws.length dd,vi d.t,vi d.r]/\d.ws.length<=dd/\Below I.heap.size I w) (fun (j:Nat)=>d.n.toNat-j) 0 ?_ ?_
 ·exact ⟨b.sb,(by omega),(fun i hi=>by omega),e,m,o⟩
 rintro j a w5 ⟨b,hj,W,e,m,o⟩;refine Zs b fun _ aJ=>?_;refine Ze (X0n rfl rfl)<|ZX aJ fun a b _ aK=>?_
 refine Xi b rfl (fun y=>?_) (fun y=>?_)
 ·have D:=y;have y:=Q2 y;have b5:=y;refine Q7<|aK _ _<|Q5 fun _ aL=>?_;refine Q8<|Zs b fun _ aM=>?_;refine Zm rfl<|Za rfl<|ZX aM fun a b _ aN=>?_;refine X0a (fun a w=>Fr a 46 [(1,(pZ9 b4)),(3,vi c),(26,vi d.n),(27,vi (j:Int)),(39,.bool ((decide ((fnI d.ns ⟨1,(j:Int)⟩)<0))||(decide ((fnI d.ns ⟨2,(j:Int)⟩)<0))))]/\Below w5.heap.size w5 w) ?_ ?_
  ·have H:Below w5.heap.size w5 w5:=Below.refl _ _
   refine Zr b<|Ze (Vn X2 e)<|Zm rfl<|Zf (Vc (Xtt _ d md J Ad cd (E.bx o).top Bd dd (N.bx o).top m 1 (j:Int) (by omega)) Xgm) ?_;rintro _ w6 ⟨rfl,G⟩;have e:=e.bw G;have o:=btr o G;have H:=btr H G;refine Ze (X0n rfl rfl)<|Zm rfl ?_
   refine Zg 34 rfl (fun f=>?_) (fun f=>?_)
   ·(iterate 4 refine Zp (gP f) ?_);refine Ze (X5 rfl f rfl) ?_;refine Zn fun a b=>?_
    have aB:Below w5.heap.size w5 w6:=H
    exact ⟨b.sub ⟨rfl,rfl,rfl,rfl,X1 rfl (by simp [h,D,f]),trivial⟩,aB⟩
   refine Zv (gW f) (Vn X2 e) ?_;refine Zv (gW f) (X3 rfl) ?_;refine Zk (gW f) (Vc (Xtt _ d md J Ad cd (E.bx o).top Bd dd (N.bx o).top m 2 (j:Int) (by omega)) Xgm) ?_;rintro _ w7 ⟨rfl,G⟩;have o:=btr o G;have H:=btr H G;refine Zv (gW f) (X0n rfl rfl) ?_;refine Ze (Xb rfl f rfl) ?_;refine Zn fun a b=>?_
   have aB:Below w5.heap.size w5 w7:=H
   exact ⟨b.sub ⟨rfl,rfl,rfl,rfl,X1 rfl (by simp [h,D,f]),trivial⟩,aB⟩
  rintro a w8 ⟨b,G⟩;have e:=e.bw G;have o:=btr o G;refine aN _ _ ?_
  refine Xi b rfl (fun C=>?_) (fun C=>?_)
  ·have aC:=C
   have M:heD d=false:=by unfold heD;rw [X5e (q:=heQ d) (k:=j) (by omega) (by unfold heQ;rw [C];rfl),Bool.false_and]
   refine Zs b fun _ aO=>?_;refine Za rfl<|Zt aO fun a b=>?_;refine Q6<|Xw<|X8<|X8 ?_;refine Xw<|X8<|X6 b (Xp b rfl rfl) ?_;exact ⟨by rw [M],o⟩
  have aC:=C
  have aZ:heQ d j=true:=by unfold heQ;rw [C];rfl
  refine Q7<|Xa<|aL _ _<|Zr b ?_;refine Ze (Xs rfl rfl (by omega) (by omega))<|Zm rfl ?_;refine Zn fun a b=>?_;refine Xc ?_;exact ⟨j+1,⟨b.sb,(by omega),(fun i hi=>by by_cases h9:i=j;rw [h9];exact aZ;exact W i (by omega)),e,m,o⟩,(by omega)⟩
 have D:=y;have y:=Q1 y
 have b0:(List.range d.n.toNat).all (heQ d)=true:=X4s fun i hi=>W i (by have:=y;omega)
 have M:heD d=(c==2*d.n):=by unfold heD;rw [b0,Qw,aY]
 refine Q9<|Xk<|Xk<|X02 ?_;refine aH _ _<|Zs b fun _ aP=>?_;refine Zm rfl<|Ze (Vd rfl X16 0)<|Ze (X0 rfl X9 (e.at 0))<|Ze (X62 rfl rfl (by omega) (by omega))<|Ze (X0k rfl rfl)<|Za rfl<|Zt aP fun a b=>?_
 refine Q6 (X6 b (Xp b rfl rfl) ?_)
 exact ⟨by rw [M],o⟩
theorem Y0q(w0:World)(x:Nd)(n:Int)(ba:Nat)(v1 v2 v3 v4:Value)(b:Blk w0 ba 39 [vi n,v1,v2,v3,v4])(hn:1<=n/\n<=1000) : Ret Tryz.prog 98 [.agg #[vi x.k,vi x.p],(pZ9 ba)] w0 (fun v w=>v=.bool (!nokI n x)/\Below w0.heap.size w0 w):=by
 have a6:=b.lt;refine enter Tryz.func98 rfl 9 rfl rfl ?_;intro a hf
 have hW:=bz w0
 refine Zs hf fun _ a7=>?_;refine Zf (X0l (zs:=[vi x.k,vi x.p]) rfl rfl) ?_;rintro _ w1 ⟨b2,rfl,a8,hE,aA⟩;have aC:=Q0 hW.size a8;have b:=b.bw hE;have hW:=btr hW hE;refine Za rfl<|Zx a7 fun a hf _ aB=>?_;refine Ze (Vd rfl X16 0)<|Ze (X0 rfl X9 (b.at 0))<|Ze (Vn X22 aA)<|Zf (Vc (Y3d _ n x hn) Xo0) ?_;rintro _ w2 ⟨rfl,hE⟩;have hW:=btr hW hE;refine Ze (X0w rfl)<|Za rfl<|Zt aB fun a hf=>?_
 refine Q6 (X6 hf (Xp hf rfl rfl) ?_)
 exact ⟨rfl,hW⟩
theorem Y04(b:World)(Al:Option Addr)(cl:Nat)(l:List Nd)(a6:Rd b b.heap.size 81 encNd Al l)(kq:FuncId)(pq:List Value)(Fq:FuncF Tryz.prog kq)(q:Nd->Bool)(hq:∀ x w,Below b.heap.size b w->Ret Tryz.prog kq ([ndV x]++pq) w (fun v w'=>v=.bool (q x)/\Below w.heap.size w w'))(a7:l.length<=1000000000) : Ret Tryz.prog 97 [.slice Al l.length cl,.func (.func kq) #[] pq.toArray] b (fun v w=>v=.bool (l.any q)/\Below b.heap.size b w):=by
 refine enter Tryz.func97 rfl 9 rfl rfl ?_;intro a hf
 have hW:=bz b
 refine Zs hf fun _ a8=>?_;refine Za rfl<|Zx a8 fun a hf _ aA=>?_;refine Zm rfl<|Zm rfl<|Zf (Vc (Y0p _ Al cl l (a6.bx hW).top kq pq Fq q (fun x w' hE'=>hq x w' (hW.trans (hE'.mono hW.size))) a7) Xof) ?_;rintro _ w1 ⟨rfl,hE⟩;have hW:=btr hW hE;refine Ze (X5h rfl rfl)<|Za rfl<|Zt aA fun a hf=>?_
 refine Q6 (X6 hf (Xp hf rfl rfl) ?_)
 exact ⟨by rw [Xb7],hW⟩
theorem Xdb(w0:World)(d:Dg)(md:Nat)(b0:md=d.ns.length)(Ad:Option Addr)(cd:Nat)(aB:Rd w0 w0.heap.size 81 encNd Ad d.ns)(Bd:Option Addr)(dd:Nat)(aC:Rd w0 w0.heap.size 83 encWr Bd d.ws)(L:d.ws.length<=dd)(aJ:d.ws.length<=1000000000) : Ret Tryz.prog 50 [.agg #[vi d.n,.slice Ad md cd,.slice Bd d.ws.length dd,vi d.t,vi d.r]] w0 (fun v w=>v=.bool (ivD d)/\Below w0.heap.size w0 w):=by
 subst b0
 refine enter Tryz.func50 rfl 116 rfl rfl ?_;intro a e
 have q:=bz w0
 refine Zs e fun _ bS=>?_;refine Zf (X0l (zs:=[vi d.n,.slice Ad d.ns.length cd,.slice Bd d.ws.length dd,vi d.t,vi d.r]) rfl rfl) ?_;rintro _ w1 ⟨b4,rfl,bT,G,c⟩;have c5:=Q0 q.size bT;have q:=btr q G;refine Za rfl<|ZX bS fun a e _ bU=>?_;refine Q5 fun _ bW=>?_;refine X0a (fun a w=>Fr a 116 [(1,(pZ9 b4)),(39,.bool (!(inR d.n 1 5)||decide (40<(d.ns.length:Int))||!(inR d.t 0 7)||!(inR d.r (-60) 60)||(d.ns.any fun x=>!nokI d.n x)||!(heD d)))]/\Below w1.heap.size w1 w) ?_ ?_
 ·have m:Below w1.heap.size w1 w1:=Below.refl _ _
  refine Zr e<|Ze (Vd rfl X16 0)<|Ze (X0 rfl X9 (c.at 0))<|Zf (Vc (F91 _ d.n 1 5) X7z) ?_;rintro _ _ ⟨rfl,rfl⟩;refine Ze (X0w rfl)<|Zm rfl ?_
  refine Zg 11 rfl (fun Q=>?_) (fun Q=>?_)
  ·(iterate 4 refine Zp (gP Q) ?_);refine Ze (X5 rfl Q rfl)<|Zm rfl<|Zp (gP rfl) ?_;(iterate 3 refine Zp (gP rfl) ?_);refine Ze (X5 rfl rfl rfl)<|Zm rfl<|Zp (gP rfl) ?_;(iterate 3 refine Zp (gP rfl) ?_);refine Ze (X5 rfl rfl rfl)<|Zm rfl<|Zp (gP rfl) ?_;(iterate 3 refine Zp (gP rfl) ?_);refine Ze (X5 rfl rfl rfl)<|Zm rfl<|Zp (gP rfl) ?_;(iterate 2 refine Zp (gP rfl) ?_);refine Ze (X5 rfl rfl rfl) ?_;refine Zn fun a e=>?_
   have o:Below w1.heap.size w1 w1:=m
   exact ⟨e.sub ⟨rfl,X1 rfl (by simp [Q]),trivial⟩,o⟩
  have bX:1<=d.n/\d.n<=5:=X0o.1 (by have h8:=Q;simpa using h8)
  refine Zv (gW Q) (Vd rfl Xf 1) ?_;refine Zv (gW Q) (X0 rfl Xz (c.at 1)) ?_;refine Zv (gW Q) (X09 rfl Xm) ?_;refine Zv (gW Q) (X2y rfl rfl) ?_;refine Ze (Xb rfl Q rfl)<|Zm rfl ?_
  refine Zg 17 rfl (fun U=>?_) (fun U=>?_)
  ·(iterate 4 refine Zp (gP U) ?_);refine Ze (X5 rfl U rfl)<|Zm rfl<|Zp (gP rfl) ?_;(iterate 3 refine Zp (gP rfl) ?_);refine Ze (X5 rfl rfl rfl)<|Zm rfl<|Zp (gP rfl) ?_;(iterate 3 refine Zp (gP rfl) ?_);refine Ze (X5 rfl rfl rfl)<|Zm rfl<|Zp (gP rfl) ?_;(iterate 2 refine Zp (gP rfl) ?_);refine Ze (X5 rfl rfl rfl) ?_;refine Zn fun a e=>?_
   have o:Below w1.heap.size w1 w1:=m
   exact ⟨e.sub ⟨rfl,X1 rfl (by simp [Q,U]),trivial⟩,o⟩
  have b1:d.ns.length<=40:=by have h8:=U;simp at h8;omega
  refine Zv (gW U) (Vd rfl X0q 3) ?_;refine Zv (gW U) (X0 rfl X9 (c.at 3)) ?_;refine Zk (gW U) (Vc (F91 _ d.t 0 7) X7z) ?_;rintro _ _ ⟨rfl,rfl⟩;refine Zv (gW U) (X0w rfl) ?_;refine Ze (Xb rfl U rfl)<|Zm rfl ?_
  refine Zg 23 rfl (fun aA=>?_) (fun aA=>?_)
  ·(iterate 4 refine Zp (gP aA) ?_);refine Ze (X5 rfl aA rfl)<|Zm rfl<|Zp (gP rfl) ?_;(iterate 3 refine Zp (gP rfl) ?_);refine Ze (X5 rfl rfl rfl)<|Zm rfl<|Zp (gP rfl) ?_;(iterate 2 refine Zp (gP rfl) ?_);refine Ze (X5 rfl rfl rfl) ?_;refine Zn fun a e=>?_
   have o:Below w1.heap.size w1 w1:=m
   exact ⟨e.sub ⟨rfl,X1 rfl (by simp [Q,U,aA]),trivial⟩,o⟩
  refine Zv (gW aA) (Vd rfl X00 4) ?_;refine Zv (gW aA) (X0 rfl X9 (c.at 4)) ?_;refine Zk (gW aA) (Vc (F91 _ d.r (-60) 60) X7z) ?_;rintro _ _ ⟨rfl,rfl⟩;refine Zv (gW aA) (X0w rfl) ?_;refine Ze (Xb rfl aA rfl)<|Zm rfl ?_
  refine Zg 29 rfl (fun H=>?_) (fun H=>?_)
  ·(iterate 4 refine Zp (gP H) ?_);refine Ze (X5 rfl H rfl)<|Zm rfl<|Zp (gP rfl) ?_;(iterate 2 refine Zp (gP rfl) ?_);refine Ze (X5 rfl rfl rfl) ?_;refine Zn fun a e=>?_
   have o:Below w1.heap.size w1 w1:=m
   exact ⟨e.sub ⟨rfl,X1 rfl (by simp [Q,U,aA,H]),trivial⟩,o⟩
  refine Zv (gW H) (Vd rfl Xf 1) ?_;refine Zv (gW H) (X0 rfl Xz (c.at 1)) ?_;refine Zv (gW H) (X3p (vs:=[(pZ9 b4)]) rfl) ?_;refine Zk (gW H) (Vc (Y04 _ Ad cd d.ns (aB.bx q).top 98 [(pZ9 b4)] Xnt (fun x=>!nokI d.n x) (fun x w' hE'=>Y0q w' x d.n _ _ _ _ _ (c.bw hE') ⟨by omega,by omega⟩) (by omega)) Xqx) ?_;rintro _ w2 ⟨rfl,G⟩;have c:=c.bw G;have q:=btr q G;have m:=btr m G;refine Ze (Xb rfl H rfl)<|Zm rfl ?_
  refine Zg 35 rfl (fun W=>?_) (fun W=>?_)
  ·(iterate 3 refine Zp (gP W) ?_);refine Ze (X5 rfl W rfl) ?_;refine Zn fun a e=>?_
   have o:Below w1.heap.size w1 w2:=m
   exact ⟨e.sub ⟨rfl,X1 rfl (by simp [Q,U,aA,H,W]),trivial⟩,o⟩
  refine Zv (gW W) (Vn X2 c) ?_;refine Zk (gW W) (Vc (Y1q _ d d.ns.length rfl Ad cd (aB.bx q).top Bd dd (aC.bx q).top L (by omega) ⟨by omega,by omega⟩) Xoh) ?_;rintro _ w3 ⟨rfl,G⟩;have q:=btr q G;have m:=btr m G;refine Zv (gW W) (X0w rfl) ?_;refine Ze (Xb rfl W rfl) ?_;refine Zn fun a e=>?_
  have o:Below w1.heap.size w1 w3:=m
  exact ⟨e.sub ⟨rfl,X1 rfl (by simp [Q,U,aA,H,W]),trivial⟩,o⟩
 rintro a w4 ⟨e,G⟩;have c:=c.bw G;have q:=btr q G;refine bW _ _ ?_
 refine Xi e rfl (fun aG=>?_) (fun aG=>?_)
 ·have A:=aG
  have aF:ivD d=false:=Y51 aG
  refine Zs e fun _ b2=>?_;refine Za rfl<|Zt b2 fun a e=>?_;refine Q6<|X8<|X6 e (Xp e rfl rfl) ?_;exact ⟨by rw [aF],q⟩
 have A:=aG;have b3:=aG;have b5:=b3
 simp only [Bool.or_eq_false_iff,decide_eq_false_iff_not,Bool.not_eq_false'] at b5
 have bX:=X0o.1 b5.1.1.1.1.1
 have b1:d.ns.length<=40:=by omega
 refine Q7<|bU _ _<|Q5 fun _ b6=>?_;refine Zs e fun _ b7=>?_;refine Ze (Vd rfl Xl 2)<|Ze (X0 rfl X0d (c.at 2))<|Ze (X09 rfl Xr)<|Zm rfl<|Zt b7 fun a e=>?_;refine Q8<|X01 (σ:=Nat) (fun (k:Nat) (a:Act) (w:World)=>Fr a 116 [(1,(pZ9 b4)),(41,.slice Bd d.ws.length dd),(42,vi (d.ws.length:Int)),(43,vi (k:Int))]/\(k<=d.ws.length)/\(∀ i:Nat,i<k->wvQ d i=true)/\Blk w b4 39 [vi d.n,.slice Ad d.ns.length cd,.slice Bd d.ws.length dd,vi d.t,vi d.r]/\d.ws.length<=dd/\Below w0.heap.size w0 w) (fun (k:Nat)=>d.ws.length-k) 0 ?_ ?_
 ·exact ⟨e.sb,(Qf _),(fun i hi=>by omega),c,L,q⟩
 rintro k a w5 ⟨e,hk,aL,c,L,q⟩;refine Zs e fun _ b8=>?_;refine Ze (X0n rfl rfl)<|ZX b8 fun a e _ b9=>?_
 refine Xi e rfl (fun aD=>?_) (fun aD=>?_)
 ·have B:=aD;have aD:=Q2 aD
  obtain ⟨cC,cA⟩:=X4 (l:=d.ws) (k:=k) (by omega)
  obtain ⟨u9,aP⟩:=X4 (l:=d.ws) (k:=k) (by have:=aD;omega)
  have bY:=(Qg.1 aP).1;have bA:=Xtb aP;refine Q7<|b9 _ _<|Q5 fun _ bB=>?_;refine Q8<|Zs e fun _ bC=>?_;refine Zm rfl<|Zi (k:=k) (u:=u9) (enc:=encWr) (l:=d.ws) tv0 rfl rfl Xr X0c Xy (aC.bx q) aP rfl ?_;intro cD aQ;refine Ze (X03 (l:=[vi u9.a,vi u9.b,.bool u9.h]) rfl X10 aQ rfl)<|Zf (Xq (zs:=[vi 0,vi 0,.bool false]) X2s rfl) ?_;rintro _ w6 ⟨cE,rfl,aM,G,a7⟩;have aR:=Q0 q.size aM;have bD:=(aC.bx q).away aM;have c:=c.bw G;have q:=btr q G;refine Za rfl<|Zo (Vw [vi u9.a,vi u9.b,.bool u9.h] X0c a7) ?_;rintro _ w7 ⟨ho,hb⟩;have aK:=a7;have c:=c.oz ho aK rfl;have q:=Below.oy q ho aR;have a7:=hb;refine ZX bC fun a e _ bE=>?_;refine X0a (fun a w=>Fr a 116 [(1,(pZ9 b4)),(41,.slice Bd d.ws.length dd),(42,vi (d.ws.length:Int)),(43,vi (k:Int)),(80,.bool (decide (u9.a<0)||decide (u9.b<=u9.a)||decide ((d.ns.length:Int)<=u9.b)||(decide (0<(k:Int))&&decide (0<=cmW (d.ws.getD (k-1) wZ) u9))))]/\Below w7.heap.size w7 w) ?_ ?_
  ·have m:Below w7.heap.size w7 w7:=Below.refl _ _
   refine X04 none (fun _=>false) mixed ?_;intro w8 G;have c:=c.bw G;have a7:=a7.bw G;have q:=btr q G;have m:=btr m G;refine Yb e<|Yo 0 rfl (fun _=>Vd rfl X0p 0)<|Ye 1 rfl (X0 rfl X9 (a7.at 0))<|Yo 2 rfl (fun _=>X0n rfl rfl)<|Yo 3 rfl (fun _=>X3 rfl) ?_
   refine Yl 51 rfl (fun C=>?_) (fun C=>?_)
   ·refine Yp 4 rfl (gP C) ?_;refine Yp 5 rfl (gP C) ?_;refine Yp 6 rfl (gP C) ?_;refine Yp 7 rfl (gP C) ?_;refine Yp 8 rfl (gP C) ?_;refine Yo 9 rfl (fun _=>X5 rfl C rfl)<|Yo 10 rfl (fun _=>X3 rfl)<|Yp 11 rfl (gP rfl) ?_;refine Yp 12 rfl (gP rfl) ?_;refine Yp 13 rfl (gP rfl) ?_;refine Yp 14 rfl (gP rfl) ?_;refine Yp 15 rfl (gP rfl) ?_;refine Yp 16 rfl (gP rfl) ?_;refine Yo 17 rfl (fun _=>X5 rfl rfl rfl)<|Yo 18 rfl (fun _=>X3 rfl)<|Yp 19 rfl (gP rfl) ?_;refine Yp 20 rfl (gP rfl) ?_;refine Yp 21 rfl (gP rfl) ?_;refine Yp 22 rfl (gP tv0) ?_;refine Yp 23 rfl (gP tv0) ?_;refine Yp 24 rfl (gP tv0) ?_;refine Yp 25 rfl (gP tv0) ?_;refine Yp 26 rfl (gP tv0) ?_;refine Yp 27 rfl (gP tv0) ?_;refine Yp 28 rfl (gP tv0) ?_;refine Y1 29<|Yq rfl ⟨_,_,rfl,rfl,trivial⟩ ?_;refine Yp 30 rfl (gP tv0) ?_;refine Yp 31 rfl (gP rfl) ?_;refine Yo 32 rfl (fun _=>X5 rfl rfl rfl) ?_;refine Yd fun a e=>?_
    have o:Below w7.heap.size w7 w8:=m
    exact ⟨e.sub ⟨rfl,rfl,rfl,rfl,X1 rfl (by simp [A,B,C]),trivial⟩,o⟩
   refine Yu 4 rfl (gW C) (fun _=>Vd rfl X0p 0) ?_;refine Yv 5 rfl (gW C) (X0 rfl X9 (a7.at 0)) ?_;refine Yu 6 rfl (gW C) (fun _=>Vd rfl X0r 1) ?_;refine Yv 7 rfl (gW C) (X0 rfl X9 (a7.at 1)) ?_;refine Yu 8 rfl (gW C) (fun _=>X5h rfl rfl) ?_;refine Yo 9 rfl (fun _=>Xb rfl C rfl)<|Yo 10 rfl (fun _=>X3 rfl) ?_
   refine Yl 58 rfl (fun y=>?_) (fun y=>?_)
   ·refine Yp 11 rfl (gP y) ?_;refine Yp 12 rfl (gP y) ?_;refine Yp 13 rfl (gP y) ?_;refine Yp 14 rfl (gP y) ?_;refine Yp 15 rfl (gP y) ?_;refine Yp 16 rfl (gP y) ?_;refine Yo 17 rfl (fun _=>X5 rfl y rfl)<|Yo 18 rfl (fun _=>X3 rfl)<|Yp 19 rfl (gP rfl) ?_;refine Yp 20 rfl (gP rfl) ?_;refine Yp 21 rfl (gP rfl) ?_;refine Yp 22 rfl (gP tv0) ?_;refine Yp 23 rfl (gP tv0) ?_;refine Yp 24 rfl (gP tv0) ?_;refine Yp 25 rfl (gP tv0) ?_;refine Yp 26 rfl (gP tv0) ?_;refine Yp 27 rfl (gP tv0) ?_;refine Yp 28 rfl (gP tv0) ?_;refine Y1 29<|Yq rfl ⟨_,_,rfl,rfl,trivial⟩ ?_;refine Yp 30 rfl (gP tv0) ?_;refine Yp 31 rfl (gP rfl) ?_;refine Yo 32 rfl (fun _=>X5 rfl rfl rfl) ?_;refine Yd fun a e=>?_
    have o:Below w7.heap.size w7 w8:=m
    exact ⟨e.sub ⟨rfl,rfl,rfl,rfl,X1 rfl (by simp [A,B,C,y]),trivial⟩,o⟩
   refine Yu 11 rfl (gW y) (fun _=>Vd rfl X0r 1) ?_;refine Yv 12 rfl (gW y) (X0 rfl X9 (a7.at 1)) ?_;refine Yu 13 rfl (gW y) (fun _=>Vd rfl Xf 1) ?_;refine Yv 14 rfl (gW y) (X0 rfl Xz (c.at 1)) ?_;refine Yu 15 rfl (gW y) (fun _=>X09 rfl Xm) ?_;refine Yu 16 rfl (gW y) (fun _=>X5h rfl rfl) ?_;refine Yo 17 rfl (fun _=>Xb rfl y rfl)<|Yo 18 rfl (fun _=>X3 rfl) ?_
   refine Yl 66 rfl (fun D=>?_) (fun D=>?_)
   ·refine Yp 19 rfl (gP D) ?_;refine Yp 20 rfl (gP D) ?_;refine Yp 21 rfl (gP D) ?_;refine Yp 22 rfl (gP tv0) ?_;refine Yp 23 rfl (gP tv0) ?_;refine Yp 24 rfl (gP tv0) ?_;refine Yp 25 rfl (gP tv0) ?_;refine Yp 26 rfl (gP tv0) ?_;refine Yp 27 rfl (gP tv0) ?_;refine Yp 28 rfl (gP tv0) ?_;refine Y1 29<|Yq rfl ⟨_,_,rfl,rfl,trivial⟩ ?_;refine Yp 30 rfl (gP tv0) ?_;refine Yp 31 rfl (gP D) ?_;refine Yo 32 rfl (fun _=>X5 rfl D rfl) ?_;refine Yd fun a e=>?_
    have o:Below w7.heap.size w7 w8:=m
    exact ⟨e.sub ⟨rfl,rfl,rfl,rfl,X1 rfl (by simp [A,B,C,y,D]),trivial⟩,o⟩
   refine Yu 19 rfl (gW D) (fun _=>X3 rfl) ?_;refine Yu 20 rfl (gW D) (fun _=>X2y rfl rfl) ?_;refine Yu 21 rfl (gW D) (fun _=>X3 rfl) ?_
   refine Yl 69 rfl (fun g=>?_) (fun g=>?_)
   ·have cF:0<k:=by have h8:=g;simpa using h8
    refine Yu 22 rfl (gW g) (fun _=>Vd rfl Xl 2) ?_;refine Yv 23 rfl (gW g) (X0 rfl X0d (c.at 2)) ?_;refine Yu 24 rfl (gW g) (fun _=>X3 rfl) ?_;refine Yu 25 rfl (gW g) (fun _=>X1h rfl rfl (by omega) (by omega)) ?_;refine Yi (k:=(k-1)) (u:=(d.ws.getD (k-1) wZ)) (enc:=encWr) (l:=d.ws) 26 rfl ⟨_,_,rfl,rfl,g⟩ rfl rfl Xr X0c Xy (aC.bx q) (Xg (by omega)) (by omega) ?_;intro cG aS;refine Yv 27 rfl (gW g) (X03 (l:=[vi ((d.ws.getD (k-1) wZ).a),vi ((d.ws.getD (k-1) wZ).b),.bool ((d.ws.getD (k-1) wZ).h)]) rfl X10 aS rfl) ?_;refine Yv 28 rfl (gW g) (Vn X10 a7) ?_;refine Y1 29<|Yk rfl ⟨_,_,rfl,rfl,g⟩ (Vc (Xzr _ (d.ws.getD (k-1) wZ) u9) Xpp) (fun _ _ ⟨_,G⟩=>G) ?_;rintro _ w9 ⟨rfl,G⟩;have q:=btr q G;have m:=btr m G;refine Yu 30 rfl (gW g) (fun _=>X5h rfl rfl) ?_;refine Yu 31 rfl (gW D) (fun _=>X5 rfl g rfl) ?_;refine Yo 32 rfl (fun _=>Xb rfl D rfl) ?_;refine Yd fun a e=>?_
    have o:Below w7.heap.size w7 w9:=m
    exact ⟨e.sub ⟨rfl,rfl,rfl,rfl,X1 rfl (by first|rfl|(simp only [A,B,C,y,D,g,bs];done)|simp [A,B,C,y,D,g]),trivial⟩,o⟩
   refine Yp 22 rfl (gP g) ?_;refine Yp 23 rfl (gP g) ?_;refine Yp 24 rfl (gP g) ?_;refine Yp 25 rfl (gP g) ?_;refine Yp 26 rfl (gP g) ?_;refine Yp 27 rfl (gP g) ?_;refine Yp 28 rfl (gP g) ?_;refine Y1 29<|Yq rfl ⟨_,_,rfl,rfl,g⟩ ?_;refine Yp 30 rfl (gP g) ?_;refine Yu 31 rfl (gW D) (fun _=>Xb rfl g rfl) ?_;refine Yo 32 rfl (fun _=>Xb rfl D rfl) ?_;refine Yd fun a e=>?_
   have o:Below w7.heap.size w7 w8:=m
   exact ⟨e.sub ⟨rfl,rfl,rfl,rfl,X1 rfl (by first|rfl|(simp only [A,B,C,y,D,g,bs];done)|simp [A,B,C,y,D,g]),trivial⟩,o⟩
  rintro a cH ⟨e,G⟩;have c:=c.bw G;have q:=btr q G;refine bE _ _ ?_
  refine Xi e rfl (fun aH=>?_) (fun aH=>?_)
  ·have aT:=aH
   have aF:ivD d=false:=Y55 bY (by rw [bA,aH];rfl)
   refine Zs e fun _ bF=>?_;refine Za rfl<|Zt bF fun a e=>?_;refine Q6<|Xw<|X8<|X8 ?_;refine Xw<|X8<|X6 e (Xp e rfl rfl) ?_;exact ⟨by rw [aF],q⟩
  have aT:=aH
  have aU:wvQ d k=true:=by rw [bA,aH];rfl
  refine Q7<|Xa<|bB _ _<|Zr e ?_;refine Ze (Xs rfl rfl (by omega) (by omega))<|Zm rfl ?_;refine Zn fun a e=>?_;refine Xc ?_;exact ⟨k+1,⟨e.sb,(by omega),(fun i hi=>by by_cases h9:i=k;rw [h9];exact aU;exact aL i (by omega)),c,L,q⟩,(by omega)⟩
 have B:=aD;have aD:=Q1 aD
 have aV:∀ i,i<d.ws.length->wvQ d i=true:=fun i hi=>aL i (by have:=aD;omega)
 refine Q9<|Xk<|Xk<|X02 ?_;refine b6 _ _<|Q5 fun _ bG=>?_;refine Zs e fun _ bH=>?_;refine Ze (Vd rfl Xf 1)<|Ze (X0 rfl Xz (c.at 1))<|Ze (X09 rfl Xm)<|Zm rfl<|Zt bH fun a e=>?_;refine Q8<|X01 (σ:=Nat) (fun (j:Nat) (a:Act) (w:World)=>Fr a 116 [(1,(pZ9 b4)),(83,.slice Ad d.ns.length cd),(84,vi (d.ns.length:Int)),(85,vi (j:Int))]/\(j<=d.ns.length)/\(∀ i:Nat,i<j->nvQ d i=true)/\Blk w b4 39 [vi d.n,.slice Ad d.ns.length cd,.slice Bd d.ws.length dd,vi d.t,vi d.r]/\d.ws.length<=dd/\Below w0.heap.size w0 w) (fun (j:Nat)=>d.ns.length-j) 0 ?_ ?_
 ·exact ⟨e.sb,(Qf _),(fun i hi=>by omega),c,L,q⟩
 rintro j a cI ⟨e,hj,aN,c,L,q⟩;refine Zs e fun _ bJ=>?_;refine Ze (X0n rfl rfl)<|ZX bJ fun a e _ bK=>?_
 refine Xi e rfl (fun aE=>?_) (fun aE=>?_)
 ·have a6:=aE;have aE:=Q2 aE
  obtain ⟨cJ,cB⟩:=X4 (l:=d.ns) (k:=j) (by omega)
  obtain ⟨v9,aW⟩:=X4 (l:=d.ns) (k:=j) (by have:=aE;omega)
  have bZ:=(Qg.1 aW).1;have bL:=Xs0 aW;refine Q7<|bK _ _<|Q5 fun _ bM=>?_;refine Q8<|Zs e fun _ bN=>?_;refine Zm rfl<|Zi (k:=j) (u:=v9) (enc:=encNd) (l:=d.ns) tv0 rfl rfl Xm X06 Xv (aB.bx q) aW rfl ?_;intro cK aX;refine Ze (X03 (l:=[vi v9.k,vi v9.p]) rfl X22 aX rfl)<|Zf (Xq (zs:=[vi 0,vi 0]) X6g rfl) ?_;rintro _ cL ⟨cM,rfl,aO,G,a8⟩;have aY:=Q0 q.size aO;have bO:=(aB.bx q).away aO;have c:=c.bw G;have q:=btr q G;refine Za rfl<|Zo (Vw [vi v9.k,vi v9.p] X06 a8) ?_;rintro _ w13 ⟨ho,hb⟩;have aK:=a8;have c:=c.oz ho aK rfl;have q:=Below.oy q ho aY;have a8:=hb;refine ZX bN fun a e _ bP=>?_;refine X0a (fun a w=>Fr a 116 [(1,(pZ9 b4)),(83,.slice Ad d.ns.length cd),(84,vi (d.ns.length:Int)),(85,vi (j:Int)),(114,.bool ((v9.k==0&&cnW d.ws (j:Int) != 0)||((v9.k==1||v9.k==2)&&cnW d.ws (j:Int) != 1)))]/\Below w13.heap.size w13 w) ?_ ?_
  ·have m:Below w13.heap.size w13 w13:=Below.refl _ _
   refine Zr e<|Ze (Vd rfl X12 0)<|Ze (X0 rfl X9 (a8.at 0))<|Ze (X0k rfl rfl)<|Zm rfl ?_
   refine Zg 93 rfl (fun E=>?_) (fun E=>?_)
   ·refine Zv (gW E) (Vn X2 c) ?_;refine Zv (gW E) (X3 rfl) ?_;refine Zk (gW E) (Vc (X8l _ d d.ns.length rfl Ad cd (aB.bx q).top Bd dd (aC.bx q).top L (j:Int) aJ) X50) ?_;rintro _ w14 ⟨rfl,G⟩;have c:=c.bw G;have a8:=a8.bw G;have q:=btr q G;have m:=btr m G;refine Zv (gW E) (X1e rfl rfl) ?_;refine Ze (X5 rfl E rfl)<|Zm rfl ?_
    refine Zg 99 rfl (fun f=>?_) (fun f=>?_)
    ·(iterate 4 refine Zp (gP f) ?_);(iterate 3 refine Zp (gP tv0) ?_);(iterate 2 refine Zp (gP f) ?_);(iterate 4 refine Zp (gP tv0) ?_);refine Zp (gP f) ?_;refine Ze (X5 rfl f rfl) ?_;refine Zn fun a e=>?_
     have o:Below w13.heap.size w13 w14:=m
     exact ⟨e.sub ⟨rfl,rfl,rfl,rfl,X1 rfl (by simp [A,B,a6,E,f]),trivial⟩,o⟩
    refine Zv (gW f) (Vd rfl X12 0) ?_;refine Zv (gW f) (X0 rfl X9 (a8.at 0)) ?_;refine Zv (gW f) (X0k rfl rfl) ?_;refine Zv (gW f) (X3 rfl) ?_
    refine Zg 103 rfl (fun M=>?_) (fun M=>?_)
    ·(iterate 3 refine Zp (gP M) ?_);refine Zv (gW f) (X5 rfl M rfl) ?_;refine Zv (gW f) (X3 rfl) ?_;refine Zv (gW rfl) (Vn X2 c) ?_;refine Zv (gW rfl) (X3 rfl) ?_;refine Zk (gW rfl) (Vc (X8l _ d d.ns.length rfl Ad cd (aB.bx q).top Bd dd (aC.bx q).top L (j:Int) aJ) X50) ?_;rintro _ w15 ⟨rfl,G⟩;have q:=btr q G;have m:=btr m G;refine Zv (gW rfl) (X1e rfl rfl) ?_;refine Zv (gW f) (X5 rfl rfl rfl) ?_;refine Ze (Xb rfl f rfl) ?_;refine Zn fun a e=>?_
     have o:Below w13.heap.size w13 w15:=m
     exact ⟨e.sub ⟨rfl,rfl,rfl,rfl,X1 rfl (by simp [A,B,a6,E,f,M]),trivial⟩,o⟩
    refine Zv (gW M) (Vd rfl X12 0) ?_;refine Zv (gW M) (X0 rfl X9 (a8.at 0)) ?_;refine Zv (gW M) (X0k rfl rfl) ?_;refine Zv (gW f) (Xb rfl M rfl) ?_;refine Zv (gW f) (X3 rfl) ?_
    refine Zg 108 rfl (fun I=>?_) (fun I=>?_)
    ·refine Zv (gW I) (Vn X2 c) ?_;refine Zv (gW I) (X3 rfl) ?_;refine Zk (gW I) (Vc (X8l _ d d.ns.length rfl Ad cd (aB.bx q).top Bd dd (aC.bx q).top L (j:Int) aJ) X50) ?_;rintro _ w16 ⟨rfl,G⟩;have q:=btr q G;have m:=btr m G;refine Zv (gW I) (X1e rfl rfl) ?_;refine Zv (gW f) (X5 rfl I rfl) ?_;refine Ze (Xb rfl f rfl) ?_;refine Zn fun a e=>?_
     have o:Below w13.heap.size w13 w16:=m
     exact ⟨e.sub ⟨rfl,rfl,rfl,rfl,X1 rfl (by simp [A,B,a6,E,f,M,I]),trivial⟩,o⟩
    (iterate 4 refine Zp (gP I) ?_);refine Zv (gW f) (Xb rfl I rfl) ?_;refine Ze (Xb rfl f rfl) ?_;refine Zn fun a e=>?_
    have o:Below w13.heap.size w13 w14:=m
    exact ⟨e.sub ⟨rfl,rfl,rfl,rfl,X1 rfl (by simp [A,B,a6,E,f,M,I]),trivial⟩,o⟩
   (iterate 4 refine Zp (gP E) ?_);refine Ze (Xb rfl E rfl)<|Zm rfl<|Zv (gW rfl) (Vd rfl X12 0) ?_;refine Zv (gW rfl) (X0 rfl X9 (a8.at 0)) ?_;refine Zv (gW rfl) (X0k rfl rfl) ?_;refine Zv (gW rfl) (X3 rfl) ?_
   refine Zg 103 rfl (fun N=>?_) (fun N=>?_)
   ·(iterate 3 refine Zp (gP N) ?_);refine Zv (gW rfl) (X5 rfl N rfl) ?_;refine Zv (gW rfl) (X3 rfl) ?_;refine Zv (gW rfl) (Vn X2 c) ?_;refine Zv (gW rfl) (X3 rfl) ?_;refine Zk (gW rfl) (Vc (X8l _ d d.ns.length rfl Ad cd (aB.bx q).top Bd dd (aC.bx q).top L (j:Int) aJ) X50) ?_;rintro _ w17 ⟨rfl,G⟩;have q:=btr q G;have m:=btr m G;refine Zv (gW rfl) (X1e rfl rfl) ?_;refine Zv (gW rfl) (X5 rfl rfl rfl) ?_;refine Ze (Xb rfl rfl rfl) ?_;refine Zn fun a e=>?_
    have o:Below w13.heap.size w13 w17:=m
    exact ⟨e.sub ⟨rfl,rfl,rfl,rfl,X1 rfl (by simp [A,B,a6,E,N]),trivial⟩,o⟩
   refine Zv (gW N) (Vd rfl X12 0) ?_;refine Zv (gW N) (X0 rfl X9 (a8.at 0)) ?_;refine Zv (gW N) (X0k rfl rfl) ?_;refine Zv (gW rfl) (Xb rfl N rfl) ?_;refine Zv (gW rfl) (X3 rfl) ?_
   refine Zg 108 rfl (fun J=>?_) (fun J=>?_)
   ·refine Zv (gW J) (Vn X2 c) ?_;refine Zv (gW J) (X3 rfl) ?_;refine Zk (gW J) (Vc (X8l _ d d.ns.length rfl Ad cd (aB.bx q).top Bd dd (aC.bx q).top L (j:Int) aJ) X50) ?_;rintro _ w18 ⟨rfl,G⟩;have q:=btr q G;have m:=btr m G;refine Zv (gW J) (X1e rfl rfl) ?_;refine Zv (gW rfl) (X5 rfl J rfl) ?_;refine Ze (Xb rfl rfl rfl) ?_;refine Zn fun a e=>?_
    have o:Below w13.heap.size w13 w18:=m
    exact ⟨e.sub ⟨rfl,rfl,rfl,rfl,X1 rfl (by simp [A,B,a6,E,N,J]),trivial⟩,o⟩
   (iterate 4 refine Zp (gP J) ?_);refine Zv (gW rfl) (Xb rfl J rfl) ?_;refine Ze (Xb rfl rfl rfl) ?_;refine Zn fun a e=>?_
   have o:Below w13.heap.size w13 w13:=m
   exact ⟨e.sub ⟨rfl,rfl,rfl,rfl,X1 rfl (by simp [A,B,a6,E,N,J]),trivial⟩,o⟩
  rintro a cN ⟨e,G⟩;have c:=c.bw G;have q:=btr q G;refine bP _ _ ?_
  refine Xi e rfl (fun aI=>?_) (fun aI=>?_)
  ·have aZ:=aI
   have aF:ivD d=false:=Y5a bZ (by rw [bL,aI];rfl)
   refine Zs e fun _ bQ=>?_;refine Za rfl<|Zt bQ fun a e=>?_;refine Q6<|Xw<|X8<|X8 ?_;refine Xw<|X8<|X6 e (Xp e rfl rfl) ?_;exact ⟨by rw [aF],q⟩
  have aZ:=aI
  have aU:nvQ d j=true:=by rw [bL,aI];rfl
  refine Q7<|Xa<|bM _ _<|Zr e ?_;refine Ze (Xs rfl rfl (by omega) (by omega))<|Zm rfl ?_;refine Zn fun a e=>?_;refine Xc ?_;exact ⟨j+1,⟨e.sb,(by omega),(fun i hi=>by by_cases h9:i=j;rw [h9];exact aU;exact aN i (by omega)),c,L,q⟩,(by omega)⟩
 have a6:=aE;have aE:=Q1 aE
 have aF:ivD d=true:=Y4p b3 aV fun i hi=>aN i (by have:=aE;omega)
 refine Q9<|Xk<|Xk<|X02 ?_;refine bG _ _<|Zs e fun _ bR=>?_;refine Za rfl<|Zt bR fun a e=>?_
 refine Q6 (X6 e (Xp e rfl rfl) ?_)
 exact ⟨by rw [aF],q⟩
theorem Xfn(Q:World)(d:Dg)(md:Nat)(aQ:md=d.ns.length)(Ad:Option Addr)(cd:Nat)(M:Rd Q Q.heap.size 81 encNd Ad d.ns)(Bd:Option Addr)(dd:Nat)(J:Rd Q Q.heap.size 83 encWr Bd d.ws)(U:d.ws.length<=dd)(b8:d.ns.length<=1000000000/\d.ws.length<=1000000000) : Ret Tryz.prog 75 [.agg #[vi d.n,.slice Ad md cd,.slice Bd d.ws.length dd,vi d.t,vi d.r]] Q (fun v w=>∃ A c B e,v=.agg #[vi d.n,.slice A d.ns.length c,.slice B d.ws.length e,vi d.t,vi d.r]/\Own w Q.heap.size 81 2 encNd A c d.ns/\Own w Q.heap.size 83 3 encWr B e d.ws/\Below Q.heap.size Q w):=by
 subst aQ
 refine enter Tryz.func75 rfl 14 rfl rfl ?_;intro a W
 have i:=bz Q
 refine Zs W fun _ b2=>?_;refine Zf (X0l (zs:=[vi d.n,.slice Ad d.ns.length cd,.slice Bd d.ws.length dd,vi d.t,vi d.r]) rfl rfl) ?_;rintro _ w1 ⟨b4,rfl,b3,g,b⟩;have L:=Q0 i.size b3;have i:=btr i g;refine Zf (Xq (zs:=[vi 0,.slice none 0 0,.slice none 0 0,vi 0,vi 0]) X0h rfl) ?_;rintro _ w2 ⟨b7,rfl,b5,g,f⟩
 have b0:b4≠b7:=by have:=b.lt;omega
 have aR:=Q0 i.size b5;have b:=b.bw g;have i:=btr i g;refine ZX b2 fun a W _ b6=>?_;refine X0a (fun a w=>∃ E G H I,Fr a 14 [(1,(pZ9 b4)),(2,(pZ9 b7))]/\Own w Q.heap.size 81 2 encNd E G d.ns/\Own w Q.heap.size 83 3 encWr H I d.ws/\Blk w b4 39 [vi d.n,.slice E d.ns.length G,.slice H d.ws.length I,vi d.t,vi d.r]/\Blk w b7 39 [vi 0,.slice none 0 0,.slice none 0 0,vi 0,vi 0]/\d.ws.length<=dd/\Below Q.heap.size Q w) ?_ ?_
 ·refine X04 none (fun j=>[9,11].contains j) mixed ?_;intro w3 g;have b:=b.bw g;have f:=f.bw g;have i:=btr i g;refine Yb W<|Yo 1 rfl (fun _=>Vd rfl Xf 1)<|Ye 2 rfl (X0 rfl Xz (b.at 1))<|Yo 5 rfl (fun _=>Vd rfl Xl 2)<|Ye 6 rfl (X0 rfl X0d (b.at 2)) ?_;refine Y2 0 4 ?_ ?_
  ·refine Yk rfl tv0 (Xn (k:=0) (vs:=[]) (zs:=[]) rfl Xm X1x rfl rfl) (fun _ _ ⟨_,_,_,h,_⟩=>h) ?_;rintro _ w4 ⟨b9,rfl,aS,g,aC⟩;have aH:=Q0 i.size aS;have b1:=(M.bx i).away aS;have b:=b.bw g;have f:=f.bw g;have i:=btr i g;refine Y2 3 4 ?_ ?_
   ·refine Yk rfl tv0 (X3m (enc:=encNd) (l2:=(d.ns)) rfl rfl Xm X1x Xv X33 aC (M.bx i) (by simp only [maxLen];omega) (by omega)) (fun _ _ ⟨E,G,_,o,g,q⟩=>g) ?_;rintro _ w5 ⟨E,G,rfl,o,g,q⟩;clear q;have o:=o.lower aH;have b:=b.bw g;have f:=f.bw g;have i:=btr i g;refine Yo 8 rfl (fun _=>Vd rfl Xf 1)<|Y1 4 ?_;refine Yk rfl tv0 (Xn (k:=0) (vs:=[]) (zs:=[]) rfl Xr X0z rfl rfl) (fun _ _ ⟨_,_,_,h,_⟩=>h) ?_;rintro _ w6 ⟨bA,rfl,aI,g,aT⟩;have aM:=Q0 i.size aI;have aU:=(J.bx i).away aI;have b:=b.bw g;have f:=f.bw g;have o:=o.bw g;have i:=btr i g;refine Y1 7<|Yk rfl tv0 (X3m (enc:=encWr) (l2:=(d.ws)) rfl rfl Xr X0z Xy X1p aT (J.bx i) (by simp only [maxLen];omega) (by omega)) (fun _ _ ⟨H,I,_,p,g,q⟩=>g) ?_;rintro _ w7 ⟨H,I,rfl,p,g,q⟩;clear q;have p:=p.lower aM;have b:=b.bw g;have f:=f.bw g;have o:=o.bw g;have i:=btr i g;refine Y1 9<|Yh rfl tv0 rfl (Vu (vs:=[.slice E d.ns.length G]) (l':=[vi d.n,.slice E d.ns.length G,.slice Bd d.ws.length dd,vi d.t,vi d.r]) rfl rfl X4m b) ?_;rintro _ w8 ⟨u,hb⟩;have m:=b;have f:=f.oy u (by omega);have o:=o.oT u m rfl;have p:=p.oT u m rfl;have i:=Below.oy i u L;have b:=hb;refine Yo 10 rfl (fun _=>Vd rfl Xl 2)<|Y1 11 ?_;refine Yh rfl tv0 rfl (Vu (vs:=[.slice H d.ws.length I]) (l':=[vi d.n,.slice E d.ns.length G,.slice H d.ws.length I,vi d.t,vi d.r]) rfl rfl X1f b) ?_;rintro _ w9 ⟨u,hb⟩;have m:=b;have f:=f.oy u (by omega)
    have o:=o.oT u m rfl;have p:=p.oT u m rfl;have i:=Below.oy i u L;have b:=hb;refine Yd fun a W=>?_;exact ⟨E,G,H,I,W.sb,o,p,b,f,U,i⟩
   refine Yk rfl tv0 (Xn (k:=0) (vs:=[]) (zs:=[]) rfl Xr X0z rfl rfl) (fun _ _ ⟨_,_,_,h,_⟩=>h) ?_;rintro _ bB ⟨bC,rfl,aJ,g,a6⟩;have aN:=Q0 i.size aJ;have aV:=(J.bx i).away aJ;have b:=b.bw g;have f:=f.bw g;have aC:=aC.bw g;have i:=btr i g;refine Y1 3<|Yk rfl tv0 (X3m (enc:=encNd) (l2:=(d.ns)) rfl rfl Xm X1x Xv X33 aC (M.bx i) (by simp only [maxLen];omega) (by omega)) (fun _ _ ⟨a7,a8,_,x,g,q⟩=>g) ?_;rintro _ bD ⟨a7,a8,rfl,x,g,q⟩;clear q;have x:=x.lower aH;have b:=b.bw g;have f:=f.bw g;have a6:=a6.bw g;have i:=btr i g;refine Yo 8 rfl (fun _=>Vd rfl Xf 1)<|Y1 7 ?_;refine Yk rfl tv0 (X3m (enc:=encWr) (l2:=(d.ws)) rfl rfl Xr X0z Xy X1p a6 (J.bx i) (by simp only [maxLen];omega) (by omega)) (fun _ _ ⟨aD,aE,_,C,g,q⟩=>g) ?_;rintro _ bE ⟨aD,aE,rfl,C,g,q⟩;clear q;have C:=C.lower aN;have b:=b.bw g;have f:=f.bw g;have x:=x.bw g;have i:=btr i g;refine Y1 9<|Yh rfl tv0 rfl (Vu (vs:=[.slice a7 d.ns.length a8]) (l':=[vi d.n,.slice a7 d.ns.length a8,.slice Bd d.ws.length dd,vi d.t,vi d.r]) rfl rfl X4m b) ?_;rintro _ bF ⟨u,hb⟩;have m:=b;have f:=f.oy u (by omega);have x:=x.oT u m rfl;have C:=C.oT u m rfl;have i:=Below.oy i u L;have b:=hb;refine Yo 10 rfl (fun _=>Vd rfl Xl 2)<|Y1 11 ?_;refine Yh rfl tv0 rfl (Vu (vs:=[.slice aD d.ws.length aE]) (l':=[vi d.n,.slice a7 d.ns.length a8,.slice aD d.ws.length aE,vi d.t,vi d.r]) rfl rfl X1f b) ?_;rintro _ bG ⟨u,hb⟩;have m:=b
   have f:=f.oy u (by omega);have x:=x.oT u m rfl;have C:=C.oT u m rfl;have i:=Below.oy i u L;have b:=hb;refine Yd fun a W=>?_;exact ⟨a7,a8,aD,aE,W.sb,x,C,b,f,U,i⟩
  refine Yk rfl tv0 (Xn (k:=0) (vs:=[]) (zs:=[]) rfl Xr X0z rfl rfl) (fun _ _ ⟨_,_,_,h,_⟩=>h) ?_;rintro _ bH ⟨bJ,rfl,aK,g,N⟩;have aO:=Q0 i.size aK;have aW:=(J.bx i).away aK;have b:=b.bw g;have f:=f.bw g;have i:=btr i g;refine Y1 0<|Yk rfl tv0 (Xn (k:=0) (vs:=[]) (zs:=[]) rfl Xm X1x rfl rfl) (fun _ _ ⟨_,_,_,h,_⟩=>h) ?_;rintro _ bK ⟨bL,rfl,aL,g,aX⟩;have aP:=Q0 i.size aL;have aY:=(M.bx i).away aL;have b:=b.bw g;have f:=f.bw g;have N:=N.bw g;have i:=btr i g;refine Y1 3<|Yk rfl tv0 (X3m (enc:=encNd) (l2:=(d.ns)) rfl rfl Xm X1x Xv X33 aX (M.bx i) (by simp only [maxLen];omega) (by omega)) (fun _ _ ⟨aA,aB,_,y,g,q⟩=>g) ?_;rintro _ bM ⟨aA,aB,rfl,y,g,q⟩;clear q;have y:=y.lower aP;have b:=b.bw g;have f:=f.bw g;have N:=N.bw g;have i:=btr i g;refine Yo 8 rfl (fun _=>Vd rfl Xf 1)<|Y1 7 ?_;refine Yk rfl tv0 (X3m (enc:=encWr) (l2:=(d.ws)) rfl rfl Xr X0z Xy X1p N (J.bx i) (by simp only [maxLen];omega) (by omega)) (fun _ _ ⟨aF,aG,_,D,g,q⟩=>g) ?_;rintro _ bN ⟨aF,aG,rfl,D,g,q⟩;clear q;have D:=D.lower aO;have b:=b.bw g;have f:=f.bw g;have y:=y.bw g;have i:=btr i g;refine Y1 9<|Yh rfl tv0 rfl (Vu (vs:=[.slice aA d.ns.length aB]) (l':=[vi d.n,.slice aA d.ns.length aB,.slice Bd d.ws.length dd,vi d.t,vi d.r]) rfl rfl X4m b) ?_;rintro _ bO ⟨u,hb⟩;have m:=b;have f:=f.oy u (by omega);have y:=y.oT u m rfl;have D:=D.oT u m rfl
  have i:=Below.oy i u L;have b:=hb;refine Yo 10 rfl (fun _=>Vd rfl Xl 2)<|Y1 11 ?_;refine Yh rfl tv0 rfl (Vu (vs:=[.slice aF d.ws.length aG]) (l':=[vi d.n,.slice aA d.ns.length aB,.slice aF d.ws.length aG,vi d.t,vi d.r]) rfl rfl X1f b) ?_;rintro _ bP ⟨u,hb⟩;have m:=b;have f:=f.oy u (by omega);have y:=y.oT u m rfl;have D:=D.oT u m rfl;have i:=Below.oy i u L;have b:=hb;refine Yd fun a W=>?_;exact ⟨aA,aB,aF,aG,W.sb,y,D,b,f,U,i⟩
 rintro a bQ ⟨E,G,H,I,W,o,p,b,f,U,i⟩;refine b6 _ _<|Zs W fun _ aZ=>?_;refine Ze (Vn X2 b)<|Zo (Vw [vi d.n,.slice E d.ns.length G,.slice H d.ws.length I,vi d.t,vi d.r] Xh f) ?_;rintro _ bR ⟨u,hb⟩;have m:=f;have o:=o.oT u m rfl;have p:=p.oT u m rfl;have i:=Below.oy i u aR;have f:=hb;refine Zt aZ fun a W=>?_
 refine Q6 (X6 W (Xp W rfl (ResV.cellN (l:=[vi d.n,.slice E d.ns.length G,.slice H d.ws.length I,vi d.t,vi d.r]) rfl X2 (f.at 0) rfl)) ?_)
 exact ⟨E,G,H,I,rfl,o,p,i⟩
theorem Y0x(j:World)(d:Dg)(md:Nat)(a7:md=d.ns.length)(Ad:Option Addr)(cd:Nat)(k:Rd j j.heap.size 81 encNd Ad d.ns)(Bd:Option Addr)(dd:Nat)(m:Rd j j.heap.size 83 encWr Bd d.ws)(o:d.ws.length<=dd)(aD:d.ws.length<=1000000000) : Ret Tryz.prog 77 [.agg #[vi d.n,.slice Ad md cd,.slice Bd d.ws.length dd,vi d.t,vi d.r]] j (fun v w=>∃ A c1 B e,v=.tuple #[.agg #[vi (if (ivD d)=true then d else zD).n,.slice A (if (ivD d)=true then d else zD).ns.length c1,.slice B (if (ivD d)=true then d else zD).ws.length e,vi (if (ivD d)=true then d else zD).t,vi (if (ivD d)=true then d else zD).r],.bool (ivD d)]/\Rd w w.heap.size 81 encNd A (if (ivD d)=true then d else zD).ns/\Rd w w.heap.size 83 encWr B (if (ivD d)=true then d else zD).ws/\(if (ivD d)=true then d else zD).ws.length<=e/\Below j.heap.size j w):=by
 subst a7
 refine enter Tryz.func77 rfl 9 rfl rfl ?_;intro a i
 have c:=bz j
 refine Zs i fun _ aE=>?_;refine Zf (X0l (zs:=[vi d.n,.slice Ad d.ns.length cd,.slice Bd d.ws.length dd,vi d.t,vi d.r]) rfl rfl) ?_;rintro _ w1 ⟨b4,rfl,aF,p,g⟩;have aL:=Q0 c.size aF;have c:=btr c p;refine Zf (Xq (zs:=[vi 0,.slice none 0 0,.slice none 0 0,vi 0,vi 0]) X0h rfl) ?_;rintro _ w2 ⟨b7,rfl,aG,p,b⟩
 have aC:b4≠b7:=by have:=g.lt;omega
 have q:=Q0 c.size aG;have g:=g.bw p;have c:=btr c p;refine Za rfl<|ZX aE fun a i _ aH=>?_;refine Zs i fun _ aI=>?_;refine Ze (Vn X2 g)<|Zf (Vc (Xdb _ d d.ns.length rfl Ad cd (k.bx c).top Bd dd (m.bx c).top o aD) X7h) ?_;rintro _ w3 ⟨rfl,p⟩;have g:=g.bw p;have b:=b.bw p;have c:=btr c p;refine Ze (X0w rfl)<|Zt aI fun a i=>?_
 refine Xi i rfl (fun f=>?_) (fun f=>?_)
 ·have a6:=f
  have aJ:ivD d=false:=by have h8:=f;simpa using h8
  refine Zs i fun _ a8=>?_;refine Ze (X0s (ps:=[]) (cs:=[vi 0,.slice none 0 0,.slice none 0 0,vi 0,vi 0]) rfl (fun _=>by first|rfl|kernel_rfl))<|Zo (Vw [vi 0,.slice none 0 0,.slice none 0 0,vi 0,vi 0] Xh b) ?_;rintro _ w4 ⟨ho,hb⟩;have aA:=b;have c:=Below.oy c ho q;have b:=hb;refine Za rfl<|Zt a8 fun a i=>?_;refine Q6<|X8<|X6 i (X1v i rfl (ResV.cellN (l:=[vi 0,.slice none 0 0,.slice none 0 0,vi 0,vi 0]) rfl X2 (b.at 0) rfl) rfl) ?_
  rw [aJ,Q3 Bool.false_ne_true]
  exact ⟨none,0,none,0,rfl,(Rd.nil _ _ _ _ _),(Rd.nil _ _ _ _ _),(Qf _),c⟩
 have a6:=f
 have aK:ivD d=true:=by have h8:=f;simpa using h8
 refine Q7<|aH _ _<|Zs i fun _ aB=>?_;refine Ze (Vn X2 g)<|Zo (Vw [vi d.n,.slice Ad d.ns.length cd,.slice Bd d.ws.length dd,vi d.t,vi d.r] Xh b) ?_;rintro _ w5 ⟨ho,hb⟩;have aA:=b;have c:=Below.oy c ho q;have b:=hb;refine Za rfl<|Zt aB fun a i=>?_
 refine Q6 (X6 i (X1v i rfl (ResV.cellN (l:=[vi d.n,.slice Ad d.ns.length cd,.slice Bd d.ws.length dd,vi d.t,vi d.r]) rfl X2 (b.at 0) rfl) rfl) ?_)
 rw [aK,Q4 rfl]
 exact ⟨Ad,cd,Bd,dd,rfl,(k.bx c).top,(m.bx c).top,o,c⟩
theorem Xp1{l:List Int}(h:l.Pairwise (·<=·)) : sortI l=l:=by
 unfold sortI
 exact List.mergeSort_of_pairwise (h.imp fun h=>by simpa using h)
theorem Xxz{l:List Int}(h:Inc l) : l.Pairwise (·<=·):=List.Pairwise.imp (fun h=>Int.le_of_lt h) h
theorem Xi1{ws:List Wr}(h:InW ws)(k:Int) : sortI (nearW ws k)=nearW ws k:=Xp1 (Xxz (X2g h))
theorem Xxs{α:Type}{l:List α}{q:α->Bool}{k:Nat}{u:α}(h:(l.take k).any q=false)(hu:l[k]? = some u)(hq:q u=false) : (l.take (k+1)).any q=false:=by
 rw [Qt,hu,Option.toList_some,List.any_append,h,List.any_cons,hq]
 rfl
theorem Xqv{α:Type}{l:List α}{q:α->Bool}{k:Nat}(h:(l.take k).any q=false)(hk:l.length<=k) : l.any q=false:=by rwa [Qi hk] at h
theorem Xq3{α:Type}{l:List α}{q:α->Bool}{k:Nat}{u:α}(hu:l[k]? = some u)(hq:q u=true) : l.any q=true:=List.any_eq_true.2 ⟨u,Qe hu,hq⟩
def prQ(d:Dg)(l:List Int)(i:Nat) : Bool:=(l.take i).any fun y=>tyW d.ws (l.getD i 0) y==1
def prD(d:Dg)(l:List Int) : Bool:=(List.range l.length).any (prQ d l)
theorem Xvc{d:Dg}{l:List Int}(h:∀ j,j<l.length->prQ d l j=false) : prD d l=false:=W7.2 fun j hj=>by rw [h j (W2.1 hj)];decide
theorem Xrb{d:Dg}{l:List Int}{k:Nat}(hk:k<l.length)(h:prQ d l k=true) : prD d l=true:=List.any_eq_true.2 ⟨k,W2.2 hk,h⟩
theorem Xa1(q:World)(d:Dg)(md:Nat)(bF:md=d.ns.length)(Ad:Option Addr)(cd:Nat)(bG:Rd q q.heap.size 81 encNd Ad d.ns)(Bd:Option Addr)(dd:Nat)(a6:Rd q q.heap.size 83 encWr Bd d.ws)(x:d.ws.length<=dd)(p:Int)(hI:InW d.ws)(bK:d.ws.length<=1000000000) : Ret Tryz.prog 151 [.agg #[vi d.n,.slice Ad md cd,.slice Bd d.ws.length dd,vi d.t,vi d.r],vi p] q (fun v w=>∃ A c,v=.slice A (nearW d.ws p).length c/\Own w q.heap.size 3 1 encI A c (nearW d.ws p)/\Below q.heap.size q w):=by
 refine enter Tryz.func151 rfl 39 rfl rfl ?_;intro a f
 have g:=bz q
 refine Zs f fun _ b0=>?_;refine Zf (X0l (zs:=[vi d.n,.slice Ad md cd,.slice Bd d.ws.length dd,vi d.t,vi d.r]) rfl rfl) ?_;rintro _ w1 ⟨b4,rfl,b1,E,aC⟩;have bH:=Q0 g.size b1;have g:=btr g E;refine Za rfl<|Zx b0 fun a f _ b2=>?_;refine Zf (Xn (k:=0) (vs:=[]) (zs:=[]) rfl Xj X1g rfl rfl) ?_;rintro _ w2 ⟨b7,rfl,b3,E,b5⟩;have aK:=Q0 g.size b3;have aC:=aC.bw E;have g:=btr g E;refine Za rfl<|ZX b2 fun a f _ b6=>?_;refine Zs f fun _ aL=>?_;refine Ze (Vd rfl Xl 2)<|Ze (X0 rfl X0d (aC.at 2))<|Ze (X09 rfl Xr)<|Zm rfl<|Zt aL fun a f=>?_;refine Q8<|X01 (σ:=Nat×(List Int)) (fun (s:Nat×(List Int)) (a:Act) (w:World)=>match s with|(k,m)=>∃ G H,Fr a 39 [(1,vi p),(5,.slice G m.length H),(10,.slice Bd d.ws.length dd),(11,vi (d.ws.length:Int)),(12,vi (k:Int))]/\(k<=d.ws.length)/\(m=nearW (d.ws.take k) p)/\Own w q.heap.size 3 1 encI G H m/\d.ws.length<=dd/\Below q.heap.size q w) (fun (s:Nat×(List Int))=>match s with|(k,m)=>d.ws.length-k) (0,[]) ?_ ?_
 ·exact ⟨some ⟨b7,0,none⟩,0,f.sb,(Qf _),(by simp [nearW]),(Own.empty b5 aK),x,g⟩
 rintro ⟨k,m⟩ a w3 ⟨G,H,f,hk,hm,e,x,g⟩;have aM:=X1y (d.ws.take k) p
 rw [<- hm,Qn] at aM
 refine Zs f fun _ aN=>?_;refine Ze (X0n rfl rfl)<|ZX aN fun a f _ aO=>?_
 refine Xi f rfl (fun i=>?_) (fun i=>?_)
 ·have aD:=i;have i:=Q2 i
  obtain ⟨bL,bJ⟩:=X4 (l:=d.ws) (k:=k) (by omega)
  obtain ⟨D,W⟩:=X4 (l:=d.ws) (k:=k) (by have:=i;omega)
  refine Q7<|aO _ _<|Q5 fun _ L=>?_;refine Q8<|Zs f fun _ aP=>?_;refine Zi (k:=k) (u:=D) (enc:=encWr) (l:=d.ws) tv0 rfl rfl Xr X0c Xy (a6.bx g) W rfl ?_;intro bM aE;refine Ze (X03 (l:=[vi D.a,vi D.b,.bool D.h]) rfl X10 aE rfl)<|Zf (Xq (zs:=[vi 0,vi 0,.bool false]) X2s rfl) ?_;rintro _ w4 ⟨bN,rfl,a7,E,o⟩;have aF:=Q0 g.size a7;have aQ:=(a6.bx g).away a7;have e:=e.bw E;have g:=btr g E;refine Zo (Vw [vi D.a,vi D.b,.bool D.h] X0c o) ?_;rintro _ w5 ⟨ho,hb⟩;have aR:=o;have e:=e.oT ho aR rfl;have g:=Below.oy g ho aF;have o:=hb;refine Zx aP fun a f _ aS=>?_;refine Zm rfl<|Zt aS fun a f=>?_;refine Q8<|Zs f fun _ aT=>?_;refine Ze (Vd rfl X0p 0)<|Ze (X0 rfl X9 (o.at 0))<|Ze (X0k rfl rfl)<|Za rfl<|Zt aT fun a f=>?_
  refine Xi f rfl (fun y=>?_) (fun y=>?_)
  ·have aG:=y
   have B:=Xcr W (by simpa using y)
   rw [<- hm] at B
   refine Zr f<|Zm rfl<|Ze (Vd rfl X0r 1)<|Ze (X0 rfl X9 (o.at 1))<|Zf (Xn (k:=1) (vs:=[vi D.b]) (zs:=[vi D.b]) rfl Xj X1g rfl rfl) ?_;rintro _ w6 ⟨bO,rfl,a8,E,M⟩;have b8:=Q0 g.size a8;have I:=e.away a8;have e:=e.bw E;have g:=btr g E;refine Zf (X0t (enc:=encI) (l:=(m)) (l2:=([D.b])) (B0:=q.heap.size) rfl rfl Xj X1g Xd X1z e (Rd.of_blk M rfl _ M.lt) (by simp only [maxLen];simp;omega) (by simp;omega) g.size) ?_;rintro _ w7 ⟨b9,bA,rfl,aU,hg,N⟩
   have j:Own _ q.heap.size 3 1 encI _ _ (m):=e
   have aI:=N _ M.lt I;clear N;have g:=Below.app g j hg (Qb _) g.size;clear j hg;refine Za rfl ?_;refine Zn fun a f=>?_;refine Xa<|Xa<|L _ _<|Zr f ?_;refine Ze (Xs rfl rfl (by omega) (by omega))<|Zm rfl ?_;refine Zn fun a f=>?_;refine Xc ?_;exact ⟨(k+1,m++([D.b])),⟨b9,bA,f.sb,(by omega),(by rw [B]),aU,x,g⟩,(by first|omega|(dsimp only;omega))⟩
  have aG:=y;have aV:=y;refine Zs f fun _ aW=>?_;refine Ze (Vd rfl X0r 1)<|Ze (X0 rfl X9 (o.at 1))<|Ze (X0k rfl rfl)<|Za rfl<|Zt aW fun a f=>?_
  refine Xi f rfl (fun C=>?_) (fun C=>?_)
  ·have aH:=C
   have B:=Xdo W (by simpa using aV) (by simpa using C)
   rw [<- hm] at B
   refine Zr f<|Zm rfl<|Ze (Vd rfl X0p 0)<|Ze (X0 rfl X9 (o.at 0))<|Zf (Xn (k:=1) (vs:=[vi D.a]) (zs:=[vi D.a]) rfl Xj X1g rfl rfl) ?_;rintro _ w8 ⟨bP,rfl,aA,E,Q⟩;have bB:=Q0 g.size aA;have J:=e.away aA;have e:=e.bw E;have g:=btr g E;refine Zf (X0t (enc:=encI) (l:=(m)) (l2:=([D.a])) (B0:=q.heap.size) rfl rfl Xj X1g Xd X1z e (Rd.of_blk Q rfl _ Q.lt) (by simp only [maxLen];simp;omega) (by simp;omega) g.size) ?_;rintro _ w9 ⟨bC,bD,rfl,aX,hg,N⟩
   have j:Own _ q.heap.size 3 1 encI _ _ (m):=e
   have aJ:=N _ Q.lt J;clear N;have g:=Below.app g j hg (Qb _) g.size;clear j hg;refine Za rfl ?_;refine Zn fun a f=>?_;refine Xa<|Xa<|L _ _<|Zr f ?_;refine Ze (Xs rfl rfl (by omega) (by omega))<|Zm rfl ?_;refine Zn fun a f=>?_;refine Xc ?_;exact ⟨(k+1,m++([D.a])),⟨bC,bD,f.sb,(by omega),(by rw [B]),aX,x,g⟩,(by first|omega|(dsimp only;omega))⟩
  have aH:=C
  have B:=Xai W (by simpa using aV) (by simpa using C)
  rw [<- hm] at B
  refine Q7<|Xa<|Xa<|L _ _ ?_;refine Zr f<|Ze (Xs rfl rfl (by omega) (by omega))<|Zm rfl ?_;refine Zn fun a f=>?_;refine Xc ?_;exact ⟨(k+1,m),⟨G,H,f.sb,(by omega),(by rw [B]),e,x,g⟩,(by first|omega|(dsimp only;omega))⟩
 have aD:=i;have i:=Q1 i
 have U:m=nearW d.ws p:=by rw [hm,Qi (by have:=i;omega)]
 have bQ:m.length<=d.ws.length:=by rw [U];exact X1y _ _
 have bE:sortI m=m:=by rw [U];exact Xi1 hI p
 refine Q9<|Xk<|Xk<|X02 ?_;refine b6 _ _<|Zs f fun _ aY=>?_;refine Zm rfl<|Zf (Vc (F94 _ q.heap.size G H m e (by have:=X1y d.ws p;omega)) Xsx) ?_;rintro _ bR ⟨aB,hg⟩;have j:=e;have g:=Below.app g j hg (Qb _) g.size
 clear j hg;clear e;have e:=aB;clear aB;refine Zx aY fun a f _ aZ=>?_;refine Zm rfl<|Za rfl<|Zt aZ fun a f=>?_
 refine Q6 (X6 f (Xp f rfl rfl) ?_)
 rw [<- U]
 exact ⟨G,H,rfl,bE▸e,g⟩
theorem Y14(c:World)(x:Int)(d:Dg)(md:Nat)(m:md=d.ns.length)(Ad:Option Addr)(cd:Nat)(o:Rd c c.heap.size 81 encNd Ad d.ns)(Bd:Option Addr)(dd:Nat)(q:Rd c c.heap.size 83 encWr Bd d.ws)(u:d.ws.length<=dd)(p:Int)(ba bb:Nat)(f:Blk c ba 39 [vi d.n,.slice Ad md cd,.slice Bd d.ws.length dd,vi d.t,vi d.r])(j:Blk c bb 3 [vi p])(hN:md<=1000)(a7:d.ws.length<=1000000000) : Ret Tryz.prog 227 [vi x,(pZ9 ba),(pZ9 bb)] c (fun v w=>v=.bool (!(spI d.ns x)||tyW d.ws p x != 2)/\Below c.heap.size c w):=by
 have a8:=f.lt;have aA:=j.lt;refine enter Tryz.func227 rfl 16 rfl rfl ?_;intro a i
 have g:=bz c
 refine Zs i fun _ aB=>?_;refine Za rfl<|ZX aB fun a i _ aC=>?_;refine X0a (fun a w=>Fr a 16 [(4,.bool ((!(spI d.ns x))||((tyW d.ws p x) != 2)))]/\Below c.heap.size c w) ?_ ?_
 ·have e:=bz c
  refine Zr i<|Ze (X03 (l:=[vi d.n,.slice Ad md cd,.slice Bd d.ws.length dd,vi d.t,vi d.r]) rfl X2 (f.at 0) rfl)<|Zm rfl<|Zf (Vc (X52 _ d md m Ad cd (o.bx g).top Bd dd (q.bx g).top u x hN) X2h) ?_;rintro _ w1 ⟨rfl,k⟩;have f:=f.bw k;have j:=j.bw k;have g:=btr g k;have e:=btr e k;refine Ze (X0w rfl)<|Zm rfl ?_
  refine Zg 9 rfl (fun b=>?_) (fun b=>?_)
  ·(iterate 5 refine Zp (gP b) ?_);refine Ze (X5 rfl b rfl)<|Za rfl ?_;refine Zn fun a i=>?_
   have a6:Below c.heap.size c w1:=e
   exact ⟨i.sub ⟨X1 rfl (by simp [b]),trivial⟩,a6⟩
  refine Zv (gW b) (X03 (l:=[vi d.n,.slice Ad md cd,.slice Bd d.ws.length dd,vi d.t,vi d.r]) rfl X2 (f.at 0) rfl) ?_;refine Zv (gW b) (X0 rfl X9 (j.at 0)) ?_;refine Zv (gW b) (X3 rfl) ?_;refine Zk (gW b) (Vc (X78 _ d md m Ad cd (o.bx g).top Bd dd (q.bx g).top u p x a7) X3h) ?_;rintro _ w2 ⟨rfl,k⟩;have g:=btr g k;have e:=btr e k;refine Zv (gW b) (X1e rfl rfl) ?_;refine Ze (Xb rfl b rfl)<|Za rfl ?_;refine Zn fun a i=>?_
  have a6:Below c.heap.size c w2:=e
  exact ⟨i.sub ⟨X1 rfl (by simp [b]),trivial⟩,a6⟩
 rintro a w3 ⟨i,k⟩;have g:=btr g k;refine aC _ _ ?_
 refine Q6 (X6 i (Xp i rfl rfl) ?_)
 exact ⟨rfl,g⟩
theorem Xjc(c:World)(d:Dg)(md:Nat)(a7:md=d.ns.length)(Ad:Option Addr)(cd:Nat)(a8:Rd c c.heap.size 81 encNd Ad d.ns)(Bd:Option Addr)(dd:Nat)(aA:Rd c c.heap.size 83 encWr Bd d.ws)(aB:d.ws.length<=dd)(p:Int)(Al:Option Addr)(cl:Nat)(l:List Int)(e:Rd c c.heap.size 3 encI Al l)(hN:md<=1000)(aE:d.ws.length<=1000000000)(aL:l.length<=1000000000) : Ret Tryz.prog 203 [.agg #[vi d.n,.slice Ad md cd,.slice Bd d.ws.length dd,vi d.t,vi d.r],vi p,.slice Al l.length cl] c (fun v w=>v=.bool (!(l.any fun x=>!(spI d.ns x)||tyW d.ws p x != 2))/\Below c.heap.size c w):=by
 refine enter Tryz.func203 rfl 11 rfl rfl ?_;intro a hf
 have b:=bz c
 refine Zs hf fun _ aF=>?_;refine Zf (X0l (zs:=[vi d.n,.slice Ad md cd,.slice Bd d.ws.length dd,vi d.t,vi d.r]) rfl rfl) ?_;rintro _ w1 ⟨b5,rfl,aG,hE,a6⟩;have aJ:=Q0 b.size aG;have b:=btr b hE;refine Zf (X0l (zs:=[vi p]) rfl rfl) ?_;rintro _ w2 ⟨b6,rfl,aC,hE,aH⟩;have aK:=Q0 b.size aC;have aD:=(e.bx b).away aC;have a6:=a6.bw hE;have b:=btr b hE;refine Za rfl<|Zx aF fun a hf _ aI=>?_;refine Zm rfl<|Ze (X3p (vs:=[(pZ9 b5),(pZ9 b6)]) rfl)<|Zf (Vc (Y5o _ Al cl l (e.bx b).top 227 [(pZ9 b5),(pZ9 b6)] Xrh (fun x=>!(spI d.ns x)||tyW d.ws p x != 2) (fun x w' hE'=>Y14 w' x d md a7 Ad cd (((a8.bx b).top).bw hE').top Bd dd (((aA.bx b).top).bw hE').top aB p _ _ (a6.bw hE') (aH.bw hE') hN aE) (by omega)) Xuc) ?_;rintro _ w3 ⟨rfl,hE⟩;have b:=btr b hE;refine Ze (X0w rfl)<|Za rfl<|Zt aI fun a hf=>?_
 refine Q6 (X6 hf (Xp hf rfl rfl) ?_)
 exact ⟨rfl,b⟩
theorem Xs2(q:World)(d:Dg)(md:Nat)(aE:md=d.ns.length)(Ad:Option Addr)(cd:Nat)(aF:Rd q q.heap.size 81 encNd Ad d.ns)(Bd:Option Addr)(dd:Nat)(aG:Rd q q.heap.size 83 encWr Bd d.ws)(f:d.ws.length<=dd)(Al:Option Addr)(cl:Nat)(l:List Int)(h:Rd q q.heap.size 3 encI Al l)(aS:d.ws.length<=1000000000)(b6:l.length<=1000000000)(aT:l.length<=cl) : Ret Tryz.prog 204 [.agg #[vi d.n,.slice Ad md cd,.slice Bd d.ws.length dd,vi d.t,vi d.r],.slice Al l.length cl] q (fun v w=>v=.bool (prD d l)/\Below q.heap.size q w):=by
 refine enter Tryz.func204 rfl 31 rfl rfl ?_;intro a b
 have o:=bz q
 refine Zs b fun _ aU=>?_;refine Zf (X0l (zs:=[vi d.n,.slice Ad md cd,.slice Bd d.ws.length dd,vi d.t,vi d.r]) rfl rfl) ?_;rintro _ w1 ⟨b5,rfl,aV,hE,m⟩;have b2:=Q0 o.size aV;have o:=btr o hE;refine Za rfl<|ZX aU fun a b _ aW=>?_;refine Zs b fun _ aX=>?_;refine Zm rfl<|Ze (X09 rfl Xj)<|Zm rfl<|Zt aX fun a b=>?_;refine Q8<|X01 (σ:=Nat) (fun (k:Nat) (a:Act) (w:World)=>Fr a 31 [(1,.slice Al l.length cl),(2,(pZ9 b5)),(9,.slice Al l.length cl),(10,vi (l.length:Int)),(11,vi (k:Int))]/\(k<=l.length)/\(∀ j:Nat,j<k->prQ d l j=false)/\Blk w b5 39 [vi d.n,.slice Ad md cd,.slice Bd d.ws.length dd,vi d.t,vi d.r]/\d.ws.length<=dd/\Below q.heap.size q w) (fun (k:Nat)=>l.length-k) 0 ?_ ?_
 ·exact ⟨b.sb,(Qf _),(fun j hj=>by omega),m,f,o⟩
 rintro k a w2 ⟨b,hk,A,m,f,o⟩;refine Zs b fun _ aY=>?_;refine Ze (X0n rfl rfl)<|ZX aY fun a b _ aZ=>?_
 refine Xi b rfl (fun c=>?_) (fun c=>?_)
 ·have a6:=c;have c:=Q2 c
  obtain ⟨b7,b3⟩:=X4 (l:=l) (k:=k) (by omega)
  obtain ⟨u9,a7⟩:=X4 (l:=l) (k:=k) (by have:=c;omega)
  have aH:l.getD k 0=u9:=by rw [Qa,a7];rfl
  refine Q7<|aZ _ _<|Q5 fun _ aI=>?_;refine Q8<|Zs b fun _ aJ=>?_;refine Zm rfl<|Zi (k:=k) (u:=u9) (enc:=encI) (l:=l) tv0 rfl rfl Xj X0b Xd (h.bx o) a7 rfl ?_;intro b8 a8;refine Ze (X0 rfl X9 a8)<|Za rfl<|Za rfl<|Zx aJ fun a b _ aK=>?_;refine Zm rfl<|Zm rfl ?_;have g:=((h.bx o).top).takeK Xd k;refine Ze (X2r (l:=l) (k:=k) rfl rfl Xj X0b rfl hk aT)<|Ze (X09 rfl Xj)<|Zm rfl<|Zt aK fun a b=>?_;refine Q8<|X01 (σ:=Nat) (fun (j:Nat) (a:Act) (w:World)=>Fr a 31 [(1,.slice Al l.length cl),(2,(pZ9 b5)),(6,vi u9),(9,.slice Al l.length cl),(10,vi (l.length:Int)),(11,vi (k:Int)),(18,.slice Al (l.take k).length cl),(19,vi ((l.take k).length:Int)),(20,vi (j:Int))]/\(j<=(l.take k).length)/\(((l.take k).take j).any (fun y=>tyW d.ws u9 y==1)=false)/\Blk w b5 39 [vi d.n,.slice Ad md cd,.slice Bd d.ws.length dd,vi d.t,vi d.r]/\Rd w w2.heap.size 3 encI Al (l.take k)/\d.ws.length<=dd/\Below q.heap.size q w) (fun (j:Nat)=>(l.take k).length-j) 0 ?_ ?_
  ·exact ⟨b.sb,(Qf _),rfl,m,g,f,o⟩
  rintro j a w3 ⟨b,hj,B,m,g,f,o⟩;refine Zs b fun _ aL=>?_;refine Ze (X0n rfl rfl)<|ZX aL fun a b _ aM=>?_
  refine Xi b rfl (fun e=>?_) (fun e=>?_)
  ·have aA:=e;have e:=Q2 e
   obtain ⟨b9,b4⟩:=X4 (l:=(l.take k)) (k:=j) (by omega)
   have bA:(l.take k).length<=1000000000:=by rw [Qn];omega
   obtain ⟨v9,aB⟩:=X4 (l:=l.take k) (k:=j) (by have:=e;omega)
   refine Q7<|aM _ _<|Q5 fun _ aN=>?_;refine Q8<|Zs b fun _ aO=>?_;refine Zi (k:=j) (u:=v9) (enc:=encI) (l:=(l.take k)) tv0 rfl rfl Xj X0b Xd g aB rfl ?_;intro bB aC;refine Ze (X0 rfl X9 aC)<|Za rfl<|Zx aO fun a b _ aP=>?_;refine Ze (Vn X2 m)<|Zm rfl<|Zm rfl<|Zf (Vc (X78 _ d md aE Ad cd (aF.bx o).top Bd dd (aG.bx o).top f u9 v9 aS) X3h) ?_;rintro _ w4 ⟨rfl,hE⟩;have m:=m.bw hE;have g:=g.bw hE;have o:=btr o hE;refine Ze (X0k rfl rfl)<|Zt aP fun a b=>?_
   refine Xi b rfl (fun p=>?_) (fun p=>?_)
   ·have aD:=p
    have x:prD d l=true:=Xrb (k:=k) (by have:=(Qg.1 a7).1;omega) (by unfold prQ;rw [aH];exact Xq3 aB (by have h9:=p;simpa using h9))
    refine Zs b fun _ aQ=>?_;refine Za rfl<|Zt aQ fun a b=>?_;refine Q6<|Xw<|X8<|X8 ?_;refine Xw<|Xw<|X8<|X8 ?_;refine Xw<|X8<|X6 b (Xp b rfl rfl) ?_;exact ⟨by rw [x],o⟩
   have aD:=p
   have b0:(tyW d.ws u9 v9==1)=false:=by have h9:=p;simpa using h9
   refine Q7<|Xa<|aN _ _<|Zr b ?_;refine Ze (Xs rfl rfl (by omega) (by omega))<|Zm rfl ?_;refine Zn fun a b=>?_;refine Xc ?_;exact ⟨j+1,⟨b.sb,(by omega),(Xxs B aB b0),m,g,f,o⟩,(by omega)⟩
  have aA:=e;have e:=Q1 e
  have b1:prQ d l k=false:=by unfold prQ;rw [aH];exact Xqv B (by have:=e;omega)
  refine Q9<|Xk<|Xk<|X02 ?_;refine Xa<|aI _ _<|Zr b<|Ze (Xs rfl rfl (by omega) (by omega))<|Zm rfl ?_;refine Zn fun a b=>?_;refine Xc ?_;exact ⟨k+1,⟨b.sb,(by omega),(fun i hi=>by by_cases h9:i=k;rw [h9];exact b1;exact A i (by omega)),m,f,o⟩,(by omega)⟩
 have a6:=c;have c:=Q1 c
 have x:prD d l=false:=Xvc fun j hj=>A j (by have:=c;omega)
 refine Q9<|Xk<|Xk<|X02 ?_;refine aW _ _<|Zs b fun _ aR=>?_;refine Za rfl<|Zt aR fun a b=>?_
 refine Q6 (X6 b (Xp b rfl rfl) ?_)
 exact ⟨by rw [x],o⟩
variable {α : Type} {P : Program} {a : Act} {w : World} {n : Nat} {e : Env} {ty : TypeId} {pos : String} {af : Array Edge} {g : Option (Nat × Bool)} {d : Option Tmp}
theorem Own.takeK{B0:Nat}{E:TypeId}{sz:Nat}{enc:α->List Value}{A:Option Addr}{c:Nat}{l:List α}(h:Own w B0 E sz enc A c l)(hsz:∀ x,(enc x).length=sz){k:Nat}(hk:k<=l.length) : Own w B0 E sz enc A c (l.take k):=by
 refine ⟨Xu hsz _,?_⟩
 have hl:(l.take k).length=k:=by rw [Qn];omega
 rcases h.2 with ⟨h1,h2⟩|⟨gg,cap,cur,h1,h2,h3,h4,h5,h6,h7⟩
 ·have:k=0:=by omega
  subst this
  injection h1 with h1 _ h1'
  exact .inl ⟨by rw [h1,h1'];rfl,rfl⟩
 ·injection h1 with h1 _ h1'
  refine .inr ⟨gg,cap,cur,by rw [h1,h1'],h2,h3,by omega,h5,h6,?_⟩
  rw [hl]
  have e:(l.take k).flatMap enc=(l.flatMap enc).take (k*sz):=by
   have h8:l.flatMap enc=(l.take k).flatMap enc++(l.drop k).flatMap enc:=by rw [<- List.flatMap_append,W9]
   have h9:((l.take k).flatMap enc).length=k*sz:=by rw [Xu hsz,hl]
   rw [h8,List.take_append_of_le_length (by rw [h9];exact Qb _)]
   exact (Qi (by rw [h9];exact Qb _)).symm
  rw [e,<- h7,List.take_take]
  congr 1
  have:=Nat.mul_le_mul_right sz hk
  omega
theorem X9o{z:Array Value}{n:Nat}(hz:z.toList.all one=true)(hn:z≠#[]) : (Builtin.zeroCells z n).toList.length=n*z.size/\(Builtin.zeroCells z n).toList.all one=true:=by
 unfold Builtin.zeroCells
 refine ⟨by simp,?_⟩
 rw [W1]
 intro v hv
 simp only [Array.toList_map,W6] at hv
 obtain ⟨i,_,rfl⟩:=hv
 have hs:0<z.size:=Array.size_pos_iff.2 hn
 have hi:i % z.size<z.size:=Nat.mod_lt _ hs
 rw [getElem!_pos z _ hi]
 exact (W1.1 hz) _ (Array.mem_toList_iff.2 (Array.getElem_mem hi))
theorem Xmv{T E:TypeId}{sz B0 k cc L:Nat}{x:Operand}{z:Value}{enc:α->List Value}{A:Option Addr}{c:Nat}{l:List α}(hf:Fr a n e)(hx:ev e x=some (.slice (if c=k then A else A.map (·.add (k*sz))) L cc))(hT:SliceT P T E)(hZ:ZeroT P E z)
  (ho:Own w B0 E sz enc A c l) (hz1:z.cells.toList.all one=true) (hz2:z.cells.size=sz) (hsz:∀ x,(enc x).length=sz) (hp:0<sz) (hk:k<=l.length) (hL:k+L<=c) :
  Ef P ⟨d,.call ⟨.builtin .clear,#[x],#[T]⟩,ty,pos,af,g⟩ a w (fun _ w'=>Own w' B0 E sz enc A c (l.take k)/\w.grownBy w' (Value.slice A l.length c).ownBlock):=by
 by_cases hkl:L=0
 ·subst hkl
  have hrun:(Builtin.clear_ #[T] ty #[.slice (if c=k then A else A.map (·.add (k*sz))) 0 cc]).run P w=.ok (.tuple #[]) w:=by
   cases (if c=k then A else A.map (·.add (k*sz)))<;>simp [Builtin.clear_,X0g hT]
  refine (Ef.of_run (v:=.tuple #[]) (w':=w) ?_).mono fun v w' ⟨_,e2⟩=>?_
  ·simp [execOp,resolve,invoke,builtin,hf.ev hx,hrun]
  ·subst e2
   rcases ho.2 with ⟨h1,h2⟩|⟨gg,cap,cur,h1,h2,h3,h4,h5,h6,h7⟩
   ·exact ⟨ho.takeK hsz hk,World.grownBy.refl _ _⟩
   ·exact ⟨ho.takeK hsz hk,World.grownBy.refl _ _⟩
 ·have hot:=ho.takeK hsz hk
  rcases ho.2 with ⟨h1,h2⟩|⟨gg,cap,cur,h1,h2,h3,h4,h5,h6,h7⟩
  ·injection h1 with _ _ h1'
   omega
  ·injection h1 with h1 _ h1'
   subst h1'
   subst h1
   have hck:¬ c=k:=by omega
   rw [Q3 hck] at hx
   have hcl:cur.toList.length=c*sz:=Array.length_toList.trans h6
   have hb:Blk w gg E cur.toList:=by unfold Blk;rw [h3]
   have hzz:=X9o (z:=z.cells) (n:=L) hz1 (fun h=>by rw [h] at hz2;simp at hz2;omega)
   have hle:k*sz+L*z.cells.size<=cur.toList.length:=by
    rw [hcl,hz2,<- Wb]
    exact Nat.mul_le_mul_right _ hL
   obtain ⟨w',hr,hO,hB⟩:=X3s (P:=P) (b:=gg) (off:=k*sz) (T:=E) (Builtin.zeroCells z.cells L).toList w cur.toList 0 hb (by rw [hzz.1];omega) hzz.2
   have hpos:∃ m,L=m+1:=⟨L-1,by omega⟩
   obtain ⟨m,hm⟩:=hpos
   have hzv:(zeroValue E).run P w=.ok z w:=by
    obtain ⟨i,hi,hi2⟩:=hZ
    simp [zeroValue,typeInfo,hi,hi2]
   have ha:((⟨gg,0,none⟩ : Addr).add (k*sz))=⟨gg,k*sz,none⟩:=by rw [X1s];simp
   have hrun:(Builtin.clear_ #[T] ty #[.slice (some ⟨gg,k*sz,none⟩) (m+1) cc]).run P w=.ok (.tuple #[]) w':=by
    rw [hm] at hr
    simp [Builtin.clear_,X0g hT,hzv,hr]
   refine (Ef.of_run (v:=.tuple #[]) (w':=w') ?_).mono fun v w1 ⟨_,e2⟩=>?_
   ·rw [hm] at hx
    simp only [Option.map_some,ha] at hx
    simp [execOp,resolve,invoke,builtin,hf.ev hx,hrun]
   ·subst e2
    have hlt:(l.take k).length=k:=by rw [Qn];omega
    have hsl:(splice cur.toList (k*sz) (Builtin.zeroCells z.cells L).toList).length=c*sz:=by rw [X36 (by rw [hzz.1];exact hle),hcl]
    refine ⟨⟨Xu hsz _,.inr ⟨gg,c,(splice cur.toList (k*sz) (Builtin.zeroCells z.cells L).toList).toArray,rfl,h2,?_,by omega,h5,?_,?_⟩⟩,?_⟩
    ·unfold Blk at hB
     simpa using hB
    ·rw [List.size_toArray,hsl]
    ·rw [hlt]
     have e7:cur.toList.take (k*sz)=(l.take k).flatMap enc:=by
      rcases hot.2 with ⟨q1,q2⟩|⟨g2,cap2,cur2,q1,q2,q3,q4,q5,q6,q7⟩
      ·simp at q1
      ·injection q1 with q1 _ q1'
       injection q1 with q1
       injection q1 with q1
       subst q1
       rw [h3] at q3
       injection q3 with q3
       injection q3 with q3
       subst q3
       rw [hlt] at q7
       exact q7
     rw [<- e7]
     show ((splice cur.toList (k*sz) _).toArray.toList).take (k*sz)=_
     rw [List.toList_toArray]
     apply List.ext_getElem?
     intro i
     rw [List.getElem?_take,List.getElem?_take]
     split
     ·rename_i hi
      rw [X2x (by rw [hzz.1];exact hle),Q4 (by omega)]
     ·rfl
    ·exact ⟨hO.os,hO.tape,hO.output,by rw [hO.size];exact Qb _,fun q _ hne=>hO.block q fun e=>hne (by rw [e];rfl)⟩
theorem Xe4{T E:TypeId}{sz B0 k cc L:Nat}{x:Operand}{z:Value}{enc:α->List Value}{A:Option Addr}{c:Nat}{l:List α}(hx:ev e x=some (.slice (if c=k then A else A.map (·.add (k*sz))) L cc))(hT:SliceT P T E)(hZ:ZeroT P E z)(ho:Own w B0 E sz enc A c l)(hz1:z.cells.toList.all one=true)(hz2:z.cells.size=sz)(hsz:∀ x,(enc x).length=sz)(hp:0<sz)(hk:k<=l.length)(hL:k+L<=c) : EfW P ⟨d,.call ⟨.builtin .clear,#[x],#[T]⟩,ty,pos,af,g⟩ n e w (fun _ w'=>Own w' B0 E sz enc A c (l.take k)/\w.grownBy w' (Value.slice A l.length c).ownBlock):=fun a hf=>Xmv hf hx hT hZ ho hz1 hz2 hsz hp hk hL
theorem Xi2{T E sz q c k m:Nat}{x y z:Operand}{A:Option Addr}{i j:Int}(hf:Fr a n e)(hx:ev e x=some (.slice A q c))(hy:ev e y=some (.int .i64 i))(hz:ev e z=some (.int .i64 j))(hT:SliceT P T E)(hs:SizeT P E sz)(hi:i=(k:Int))(hj:j=(m:Int))(hk:k<=m)(hm:m<=c) :
  Ev P ⟨d,.slice T x (some y) (some z) none,ty,pos,af,g⟩ a w (.slice (if c=k then A else A.map (·.add (k*sz))) (m-k) (c-k)):=fun w' _=>by
 subst hi;subst hj
 simp [execOp,Instr.sliceAt,Instr.slice,Instr.sliceBounds,run_sliceBound,X0g hT,run_sizeOf' hs,hf.ev hx,hf.ev hy,hf.ev hz,hk,hm]
theorem Xo6{T E sz q c k m:Nat}{x y z:Operand}{A:Option Addr}{i j:Int}(hx:ev e x=some (.slice A q c))(hy:ev e y=some (.int .i64 i))(hz:ev e z=some (.int .i64 j))(hT:SliceT P T E)(hs:SizeT P E sz)(hi:i=(k:Int))(hj:j=(m:Int))(hk:k<=m)(hm:m<=c) : EvW P ⟨d,.slice T x (some y) (some z) none,ty,pos,af,g⟩ n e w (.slice (if c=k then A else A.map (·.add (k*sz))) (m-k) (c-k)):=fun a hf=>Xi2 hf hx hy hz hT hs hi hj hk hm
theorem Xi3{T E sz q c k m r:Nat}{x y z u:Operand}{A:Option Addr}{i j s:Int}(hf:Fr a n e)(hx:ev e x=some (.slice A q c))(hy:ev e y=some (.int .i64 i))(hz:ev e z=some (.int .i64 j))(hu:ev e u=some (.int .i64 s))(hT:SliceT P T E)(hs:SizeT P E sz)(hi:i=(k:Int))(hj:j=(m:Int))(hr:s=(r:Int))(hk:k<=m)(hm:m<=r)(hrc:r<=c) :
  Ev P ⟨d,.slice T x (some y) (some z) (some u),ty,pos,af,g⟩ a w (.slice (if r=k then A else A.map (·.add (k*sz))) (m-k) (r-k)):=fun w' _=>by
 subst hi;subst hj;subst hr
 simp [execOp,Instr.sliceAt,Instr.slice,Instr.sliceBounds,run_sliceBound,X0g hT,run_sizeOf' hs,hf.ev hx,hf.ev hy,hf.ev hz,hf.ev hu,hk,hm,hrc]
theorem Xp3{T E sz q c k m r:Nat}{x y z u:Operand}{A:Option Addr}{i j s:Int}(hx:ev e x=some (.slice A q c))(hy:ev e y=some (.int .i64 i))(hz:ev e z=some (.int .i64 j))(hu:ev e u=some (.int .i64 s))(hT:SliceT P T E)(hs:SizeT P E sz)(hi:i=(k:Int))(hj:j=(m:Int))(hr:s=(r:Int))(hk:k<=m)(hm:m<=r)(hrc:r<=c) : EvW P ⟨d,.slice T x (some y) (some z) (some u),ty,pos,af,g⟩ n e w (.slice (if r=k then A else A.map (·.add (k*sz))) (m-k) (r-k)):=fun a hf=>Xi3 hf hx hy hz hu hT hs hi hj hr hk hm hrc
theorem Xd7{T E:TypeId}{sz B B0:Nat}{x y:Operand}{enc:α->List Value}{A A2:Option Addr}{c c2:Nat}{l l2:List α}(hf:Fr a n e)(hx:ev e x=some (.slice A l.length c))(hy:ev e y=some (.slice A2 l2.length c2))
  (hT:SliceT P T E) (hs:SizeT P E sz) (hsz:∀ x,(enc x).length=sz) (hone:∀ x,(enc x).all one=true) (ho:Own w B0 E sz enc A c l) (hr:Rd w B E enc A2 l2) (hroom:l.length+l2.length<=c) :
  Ef P ⟨d,.call ⟨.builtin .append,#[x,y],#[T,T]⟩,ty,pos,af,g⟩ a w (fun v w'=>v=.slice A (l++l2).length c/\Own w' B0 E sz enc A c (l++l2)/\w.grownBy w' (Value.slice A l.length c).ownBlock):=by
 obtain ⟨i,hi1,hi2⟩:=hs
 rcases ho.2 with ⟨h1,h2⟩|⟨gg,cap,cur,h1,h2,h3,h4,h5,h6,h7⟩
 ·injection h1 with h1 _ h1'
  subst h1;subst h1'
  have e1:l=[]:=List.eq_nil_of_length_eq_zero h2
  have e2:l2=[]:=List.eq_nil_of_length_eq_zero (by omega)
  subst e1;subst e2
  have hrun:(Builtin.append_ #[T,T] ty #[.slice none 0 0,.slice A2 0 c2]).run P w=.ok (.slice none 0 0) w:=by
   cases A2<;>simp [Builtin.append_,X0g hT,sizeOf,typeInfo,hi1,Builtin.lenOf,Builtin.firstCells,loadCells,loadCellsFrom]
  refine (Ef.of_run (v:=.slice none 0 0) (w':=w) ?_).mono fun v w' ⟨e1,e2⟩=>?_
  ·simp only [List.length_nil] at hx hy
   simp [execOp,resolve,invoke,builtin,hf.ev hx,hf.ev hy,hrun]
  ·subst e1;subst e2
   exact ⟨rfl,ho,World.grownBy.refl w' _⟩
 ·injection h1 with h1 _ h1'
  subst h1;subst h1'
  by_cases hl2:l2=[]
  ·subst hl2
   have hrun:(Builtin.append_ #[T,T] ty #[.slice (some ⟨gg,0,none⟩) l.length c,.slice A2 0 c2]).run P w=.ok (.slice (some ⟨gg,0,none⟩) l.length c) w:=by
    cases A2<;>simp [Builtin.append_,X0g hT,sizeOf,typeInfo,hi1,Builtin.lenOf,Builtin.firstCells,loadCells,loadCellsFrom,h4,storeCells]
   refine (Ef.of_run (v:=.slice (some ⟨gg,0,none⟩) l.length c) (w':=w) ?_).mono fun v w' ⟨e1,e2⟩=>?_
   ·simp only [List.length_nil] at hy
    simp [execOp,resolve,invoke,builtin,hf.ev hx,hf.ev hy,hrun]
   ·subst e1;subst e2
    exact ⟨by simp,by simpa using ho,World.grownBy.refl w' _⟩
  ·obtain ⟨b,off,cs,fz,rfl,g2,g3,g4⟩:=hr hl2;obtain ⟨w',hrun,hown,hg⟩:=run_append_fits (P:=P) (w:=w) B0 T ty E i sz hT hi1 hi2 gg l.length c (l.flatMap enc) ho ⟨b,off,none⟩ l2.length c2 (l2.flatMap enc) (Xu hsz l2)
    (fun j u hu=>by
     have:=g4 j u hu
     rw [X1s]
     simp [World.cell?,g3,this])
    (fun u hu=>by
     obtain ⟨x,_,hx⟩:=List.mem_flatMap.1 hu
     have:=W1.1 (hone x) u hx
     cases u<;>simp_all [Value.oneCell',one]) hroom
   refine (Ef.of_run (v:=.slice (some ⟨gg,0,none⟩) (l.length+l2.length) c) (w':=w') ?_).mono fun v w1 ⟨e1,e2⟩=>?_
   ·simp [execOp,resolve,invoke,builtin,hf.ev hx,hf.ev hy,hrun]
   ·subst e1;subst e2
    refine ⟨by rw [Qh],?_,hg⟩
    unfold Own
    rw [List.flatMap_append,Qh]
    exact hown
theorem Xhx{T E:TypeId}{sz B B0:Nat}{x y:Operand}{enc:α->List Value}{A A2:Option Addr}{c c2:Nat}{l l2:List α}(hx:ev e x=some (.slice A l.length c))(hy:ev e y=some (.slice A2 l2.length c2))(hT:SliceT P T E)(hs:SizeT P E sz)(hsz:∀ x,(enc x).length=sz)(hone:∀ x,(enc x).all one=true)(ho:Own w B0 E sz enc A c l)(hr:Rd w B E enc A2 l2)(hroom:l.length+l2.length<=c) : EfW P ⟨d,.call ⟨.builtin .append,#[x,y],#[T,T]⟩,ty,pos,af,g⟩ n e w (fun v w'=>v=.slice A (l++l2).length c/\Own w' B0 E sz enc A c (l++l2)/\w.grownBy w' (Value.slice A l.length c).ownBlock):=fun a hf=>Xd7 hf hx hy hT hs hsz hone ho hr hroom
theorem Xat{α:Type}{l:List α}{q:α->Bool}{j:Nat}{u:α}(hu:l[j]? = some u)(h:q u=true) : (l.take (j+1)).filter (fun x=>!q x)=(l.take j).filter fun x=>!q x:=by
 rw [X3e (q:=fun x=>!q x) hu,Q3 (by rw [h];decide),List.append_nil]
theorem Xj0{α:Type}{l:List α}{q:α->Bool}{j:Nat}{u:α}(hu:l[j]? = some u)(h:q u=false) : (l.take (j+1)).filter (fun x=>!q x)=((l.take j).filter fun x=>!q x)++[u]:=by
 rw [X3e (q:=fun x=>!q x) hu,Q4 (by rw [h];rfl)]
structure Strk {α:Type} (l:List α) (q:α->Bool) (i j:Nat) (m:List α) : Prop where
 len:m.length=l.length
 ie:i=((l.take j).filter fun x=>!q x).length
 lt:i<j
 jl:j<=l.length
 tk:m.take i=(l.take j).filter fun x=>!q x
 dr:∀ t,j<=t->m[t]? = l[t]?
theorem Strk.at{α:Type}{l m:List α}{q:α->Bool}{i j:Nat}(h:Strk l q i j m){u:α}(hu:l[j]? = some u) : m[j]? = some u:=(h.dr j (Qb _)).trans hu
theorem Strk.no{α:Type}{l m:List α}{q:α->Bool}{i j:Nat}(h:Strk l q i j m){u:α}(hu:l[j]? = some u)(hq:q u=true) : Strk l q i (j+1) m:=
 ⟨h.len,by rw [Xat hu hq];exact h.ie,by have:=h.lt;omega,(Qg.1 hu).1,by rw [Xat hu hq];exact h.tk,fun t ht=>h.dr t (by omega)⟩
theorem Strk.yes{α:Type}{l m:List α}{q:α->Bool}{i j:Nat}(h:Strk l q i j m){u:α}(hu:l[j]? = some u)(hq:q u=false) : Strk l q (i+1) (j+1) (m.set i u):=by
 have hj:=(Qg.1 hu).1;have hl:=h.lt;have hm:=h.len
 refine ⟨List.length_set.trans h.len,by rw [Xj0 hu hq,Qh,<- h.ie];rfl,by omega,hj,?_,fun t ht=>?_⟩
 ·rw [Xj0 hu hq,<- h.tk,Qt,List.getElem?_set_self (by omega)]
  rw [List.take_set_of_le (Qb _)]
  rfl
 ·rw [List.getElem?_set_ne (by omega)]
  exact h.dr t (by omega)
theorem Strk.init{α:Type}{l:List α}{q:α->Bool}{k:Nat}{u:α}(ha:((l.take k).all fun x=>!q x)=true)(hu:l[k]? = some u)(hq:q u=true) : Strk l q k (k+1) l:=by
 have hk:=(Qg.1 hu).1
 have e:(l.take k).filter (fun x=>!q x)=l.take k:=List.filter_eq_self.2 fun x hx=>W1.1 ha x hx
 exact ⟨rfl,by rw [Xat hu hq,e,Qn];omega,by omega,hk,by rw [Xat hu hq,e],fun _ _=>rfl⟩
theorem Strk.fin{α:Type}{l m:List α}{q:α->Bool}{i j:Nat}(h:Strk l q i j m)(hj:l.length<=j) : m.take i=(l.filter fun x=>!q x)/\(l.take i).length=(l.filter fun x=>!q x).length:=by
 have e:=h.tk
 have e2:=h.ie
 rw [Qi hj] at e e2
 have:=h.lt
 have:=h.jl
 exact ⟨e,by rw [<- e2,Qn];omega⟩
theorem Xgg{α:Type}{l:List α}{q:α->Bool}(h:(idxF l q == -1)=false) : ∃ k u,idxF l q=(k:Nat)/\l[k]? = some u/\q u=true/\((l.take k).all fun x=>!q x)=true:=by
 unfold idxF at h ⊢
 cases hf:l.findIdx? q with
 | none=>rw [hf] at h;simp at h
 | some k=>
  obtain ⟨h1,h2,h3⟩:=List.findIdx?_eq_some_iff_getElem.1 hf
  refine ⟨k,l[k],rfl,Qc h1,h2,?_⟩
  rw [W1]
  intro x hx;obtain ⟨t,ht⟩:=List.mem_iff_getElem?.1 hx
  rw [List.getElem?_take] at ht
  split at ht
  ·rename_i htk
   obtain ⟨h5,h6⟩:=Qg.1 ht
   have:=h3 t htk
   rw [<- h6]
   simpa using this
  ·cases ht
theorem X9x{α:Type}{l:List α}{q:α->Bool}(h:(idxF l q == -1)=true) : (l.filter fun x=>!q x)=l:=by
 rcases X4i l q with ⟨_,h2⟩|⟨k,x,h1,_⟩
 ·exact List.filter_eq_self.2 fun x hx=>by rw [h2 x hx];rfl
 ·rw [h1] at h;simp at h
theorem Xz5(G:World)(A:Option Addr)(c B0:Nat)(l:List Wr)(d:Own G B0 83 3 encWr A c l)(b9:B0<=G.heap.size)(kq:FuncId)(pq:List Value)(Fq:FuncF Tryz.prog kq)(q:Wr->Bool)(hq:∀ x w,G.grownBy w (Value.slice A l.length c).ownBlock->Ret Tryz.prog kq ([wrV x]++pq) w (fun v w'=>v=.bool (q x)/\Below w.heap.size w w'))(aP:l.length<=1000000000) : Ret Tryz.prog 208 [.slice A l.length c,.func (.func kq) #[] pq.toArray] G (fun v w=>v=.slice A (l.filter fun x=>!q x).length c/\Own w B0 83 3 encWr A c (l.filter fun x=>!q x)/\G.grownBy w (Value.slice A l.length c).ownBlock):=by
 have aE:=d.cap;refine enter Tryz.func208 rfl 42 rfl rfl ?_;intro a e
 have n:G.grownBy G (Value.slice A l.length c).ownBlock:=World.grownBy.refl _ _
 refine Zs e fun _ aQ=>?_;refine Za rfl<|Zx aQ fun a e _ aR=>?_;refine Zm rfl<|Zm rfl<|Zf (Vc (Xm9 _ A c l d.rd.top kq pq Fq q (fun x w' hE'=>hq x w' (gbel n hE')) aP) Xbs) ?_;rintro _ w1 ⟨rfl,E⟩;have d:=d.bw E;have n:=gbel n E;refine Za rfl<|ZX aR fun a e _ aS=>?_;refine Zs e fun _ aT=>?_;refine Zm rfl<|Ze (X0k rfl rfl)<|Zt aT fun a e=>?_
 refine Xi e rfl (fun y=>?_) (fun y=>?_)
 ·have aF:=y;have B:=X9x y;refine Zs e fun _ aU=>?_;refine Zm rfl<|Za rfl<|Zt aU fun a e=>?_;refine Q6<|X8<|X6 e (Xp e rfl rfl) ?_;exact ⟨by rw [B],by rw [B];exact d,n⟩
 have aF:=y;obtain ⟨k9,u0,aV,aG,aW,aX⟩:=Xgg y;have bA:=(Qg.1 aG).1;refine Q7<|aS _ _<|Q5 fun _ aY=>?_;refine Zs e fun _ aH=>?_;refine Zm rfl<|Ze (Xs rfl rfl (by omega) (by omega))<|Za rfl<|Zt aH fun a e=>?_;refine Q8 ?_
 rw [aV] at e
 refine X01 (σ:=Nat×Nat×(List Wr)) (fun (s:Nat×Nat×(List Wr)) (a:Act) (w:World)=>match s with|(i,j,m)=>Fr a 42 [(0,.slice A l.length c),(1,.func (.func kq) #[] pq.toArray),(5,vi (i:Int)),(6,vi (j:Int))]/\(Strk l q i j m)/\Own w B0 83 3 encWr A c m/\G.grownBy w (Value.slice A l.length c).ownBlock) (fun (s:Nat×Nat×(List Wr))=>match s with|(i,j,m)=>l.length-j) (k9,(k9+1),l) ?_ ?_
 ·exact ⟨e.sb,(Strk.init aX aG aW),d,n⟩
 rintro ⟨i,j,m⟩ a w2 ⟨e,hs,d,n⟩;refine Q5 fun _ aI=>?_;refine Zs e fun _ aJ=>?_;refine Zm rfl<|Zm rfl<|Ze (X09 rfl Xr)<|Ze (X0n rfl rfl)<|Zt aJ fun a e=>?_
 refine Xi e rfl (fun f=>?_) (fun f=>?_)
 ·have a6:=f;have f:=Q2 f
  obtain ⟨bB,b5⟩:=X4 (l:=l) (k:=j) (by omega)
  obtain ⟨o,a7⟩:=X4 (l:=l) (k:=j) (by have:=f;omega)
  have aZ:=hs.at a7;have b0:=hs.len;have b1:=hs.lt;have b2:=hs.jl;refine Q7<|aI _ _<|Q5 fun _ H=>?_;refine Q8<|Zs e fun _ aK=>?_;refine Zm rfl<|Zm rfl<|Zj (k:=j) (u:=o) (enc:=encWr) (l:=m) tv0 rfl (by omega) rfl Xr X0c Xy d.rd aZ (by omega) ?_;intro bC a8;refine Ze (X03 (l:=[vi o.a,vi o.b,.bool o.h]) rfl X10 a8 rfl)<|Zf (Xq (zs:=[vi 0,vi 0,.bool false]) X2s rfl) ?_;rintro _ w3 ⟨bD,rfl,I,E,g⟩;have aA:=Q0 n.size I;have C:=d.away I;have d:=d.bw E;have n:=gbel n E;refine Zo (Vw [vi o.a,vi o.b,.bool o.h] X0c g) ?_;rintro _ w4 ⟨ho,hb⟩;have b6:=g;have d:=d.onlyA ho C;have n:=gonly n ho aA;have g:=hb;refine Zx aK fun a e _ aL=>?_;refine Zm rfl<|Ze (Vn X10 g)<|Zf (X7o (cs:=pq) (vs:=[.agg #[vi o.a,vi o.b,.bool o.h]]) rfl rfl Fq (hq o _ n)) ?_;rintro _ w5 ⟨rfl,E⟩;have g:=g.bw E;have d:=d.bw E;have n:=gbel n E;refine Ze (X0w rfl)<|Zt aL fun a e=>?_
  refine Xi e rfl (fun p=>?_) (fun p=>?_)
  ·have aB:=p
   have aC:q o=false:=by have h8:=p;simpa using h8
   have aD:=hs.yes a7 aC;refine Zs e fun _ aM=>?_;refine Zm rfl<|Zm rfl<|Ze (Vn X10 g)<|Ze (Xx (k:=i) rfl rfl Xr X0c d (by omega) (by omega) (by omega))<|Zo (X11 (enc:=encWr) (l:=m) (vs:=[vi o.a,vi o.b,.bool o.h]) (x0:=(m.getD i wZ)) (u:=o) (k:=i) (j:=0) (n1:=3) rfl rfl X0c d Xy rfl rfl rfl rfl (by decide) (Xg (by omega)) rfl) ?_;rintro _ w6 ⟨t,hg⟩;have D:=d;have n:=gtr n hg
   clear D hg;clear d;have d:=t;clear t;refine Zt aM fun a e=>?_;refine Zr e<|Zm rfl<|Ze (Xs rfl rfl (by omega) (by omega))<|Za rfl ?_;refine Zn fun a e=>?_;refine Xa<|H _ _<|Zr e<|Zm rfl<|Ze (Xs rfl rfl (by omega) (by omega))<|Za rfl ?_;refine Zn fun a e=>?_;refine Xc ?_;exact ⟨(i+1,j+1,(m.set i o)),⟨e.sb,aD,d,n⟩,(by first|omega|(dsimp only;omega))⟩
  have aB:=p
  have aC:q o=true:=by have h8:=p;simpa using h8
  have aD:=hs.no a7 aC;refine Q7<|Xa<|H _ _<|Zr e ?_;refine Zm rfl<|Ze (Xs rfl rfl (by omega) (by omega))<|Za rfl ?_;refine Zn fun a e=>?_;refine Xc ?_;exact ⟨(i,j+1,m),⟨e.sb,aD,d,n⟩,(by first|omega|(dsimp only;omega))⟩
 have a6:=f;have f:=Q1 f
 obtain ⟨b3,b4⟩:=hs.fin (by have:=f;omega)
 have b0:=hs.len;have b1:=hs.lt;have b2:=hs.jl;refine Q9<|Xk<|Xk<|X02 ?_;refine aY _ _<|Zs e fun _ aN=>?_;refine Zm rfl<|Zm rfl ?_;have b7:=(d.rd.top).dropK Xy (c:=c) d.cap i;refine Ze (X6f (l:=l) (k:=i) rfl rfl Xr X0c (by omega) (by omega))<|Zo (Xe4 (enc:=encWr) (l:=m) (k:=i) (L:=(l.drop i).length) rfl Xr X2s d rfl rfl Xy (by decide) (by omega) (by rw [List.length_drop];omega)) ?_;rintro _ w7 ⟨t,hg⟩;have D:=d;have n:=gtr n hg
 clear D hg;clear d;have d:=t;clear t;refine Zx aN fun a e _ aO=>?_;refine Zm rfl<|Zm rfl ?_;have b8:=(d.rd.top).takeK Xy i;refine Ze (X2r (l:=l) (k:=i) rfl rfl Xr X0c (by omega) (by omega) aE)<|Za rfl<|Zt aO fun a e=>?_
 refine Q6 (X6 e (Xp e rfl rfl) ?_)
 exact ⟨by rw [b4],b3▸d,n⟩
theorem Xyg(g:World)(Al:Option Addr)(cl:Nat)(l:List Int)(aA:Rd g g.heap.size 3 encI Al l)(kq:FuncId)(pq:List Value)(Fq:FuncF Tryz.prog kq)(q:Int->Bool)(hq:∀ x w,Below g.heap.size g w->Ret Tryz.prog kq ([vi x]++pq) w (fun v w'=>v=.bool (q x)/\Below w.heap.size w w'))(aN:l.length<=1000000000) : Ret Tryz.prog 253 [.slice Al l.length cl,.func (.func kq) #[] pq.toArray] g (fun v w=>v=vi (idxF l q)/\Below g.heap.size g w):=by
 refine enter Tryz.func253 rfl 19 rfl rfl ?_;intro a b
 have i:=bz g
 refine Zs b fun _ aG=>?_;refine Za rfl<|ZX aG fun a b _ aH=>?_;refine Zs b fun _ aI=>?_;refine Zm rfl<|Ze (X09 rfl Xj)<|Zm rfl<|Zt aI fun a b=>?_;refine Q8<|X01 (σ:=Nat) (fun (k:Nat) (a:Act) (w:World)=>Fr a 19 [(0,.slice Al l.length cl),(1,.func (.func kq) #[] pq.toArray),(7,vi (l.length:Int)),(8,vi (k:Int))]/\(k<=l.length)/\(((l.take k).all fun x=>!q x)=true)/\Below g.heap.size g w) (fun (k:Nat)=>l.length-k) 0 ?_ ?_
 ·exact ⟨b.sb,(Qf _),rfl,i⟩
 rintro k a w1 ⟨b,hk,e,i⟩;refine Zs b fun _ aJ=>?_;refine Ze (X0n rfl rfl)<|ZX aJ fun a b _ aK=>?_
 refine Xi b rfl (fun c=>?_) (fun c=>?_)
 ·have aB:=c;have c:=Q2 c
  obtain ⟨u8,aO⟩:=X4 (l:=l) (k:=k) (by omega)
  obtain ⟨u9,a6⟩:=X4 (l:=l) (k:=k) (by have:=c;omega)
  refine Q7<|aK _ _<|Q5 fun _ aL=>?_;refine Q8<|Zs b fun _ aC=>?_;refine Zm rfl<|Za rfl<|Zx aC fun a b _ aD=>?_;refine Zm rfl<|Zm rfl<|Zm rfl<|Zi (k:=k) (u:=u9) (enc:=encI) (l:=l) tv0 rfl rfl Xj X0b Xd (aA.bx i) a6 rfl ?_;intro aP a7;refine Ze (X0 rfl X9 a7)<|Zf (X7o (cs:=pq) (vs:=[vi u9]) rfl rfl Fq (hq u9 _ i)) ?_;rintro _ w2 ⟨rfl,hE⟩;have i:=btr i hE;refine Zt aD fun a b=>?_
  refine Xi b rfl (fun d=>?_) (fun d=>?_)
  ·have a8:=d
   have f:idxF l q=(k:Int):=X8t e a6 d
   refine Zs b fun _ aE=>?_;refine Zm rfl<|Za rfl<|Zt aE fun a b=>?_;refine Q6<|Xw<|X8<|X8 ?_;refine Xw<|X8<|X6 b (Xp b rfl rfl) ?_;exact ⟨by rw [f],i⟩
  have a8:=d;have aM:=X72 e a6 d;refine Q7<|Xa<|aL _ _<|Zr b ?_;refine Ze (Xs rfl rfl (by omega) (by omega))<|Zm rfl ?_;refine Zn fun a b=>?_;refine Xc ?_;exact ⟨k+1,⟨b.sb,(by omega),aM,i⟩,(by omega)⟩
 have aB:=c;have c:=Q1 c
 have f:idxF l q = -1:=X9j e (by have:=c;omega)
 refine Q9<|Xk<|Xk<|X02 ?_;refine aH _ _<|Zs b fun _ aF=>?_;refine Za rfl<|Zt aF fun a b=>?_
 refine Q6 (X6 b (Xp b rfl rfl) ?_)
 exact ⟨by rw [f],i⟩
theorem Xz4(y:World)(A:Option Addr)(c B0:Nat)(l:List Int)(b:Own y B0 3 1 encI A c l)(b7:B0<=y.heap.size)(kq:FuncId)(pq:List Value)(Fq:FuncF Tryz.prog kq)(q:Int->Bool)(hq:∀ x w,y.grownBy w (Value.slice A l.length c).ownBlock->Ret Tryz.prog kq ([vi x]++pq) w (fun v w'=>v=.bool (q x)/\Below w.heap.size w w'))(aO:l.length<=1000000000) : Ret Tryz.prog 228 [.slice A l.length c,.func (.func kq) #[] pq.toArray] y (fun v w=>v=.slice A (l.filter fun x=>!q x).length c/\Own w B0 3 1 encI A c (l.filter fun x=>!q x)/\y.grownBy w (Value.slice A l.length c).ownBlock):=by
 have aD:=b.cap;refine enter Tryz.func228 rfl 42 rfl rfl ?_;intro a d
 have n:y.grownBy y (Value.slice A l.length c).ownBlock:=World.grownBy.refl _ _
 refine Zs d fun _ aP=>?_;refine Za rfl<|Zx aP fun a d _ aQ=>?_;refine Zm rfl<|Zm rfl<|Zf (Vc (Xyg _ A c l b.rd.top kq pq Fq q (fun x w' hE'=>hq x w' (gbel n hE')) aO) Xl1) ?_;rintro _ w1 ⟨rfl,hE⟩;have b:=b.bw hE;have n:=gbel n hE;refine Za rfl<|ZX aQ fun a d _ aR=>?_;refine Zs d fun _ aS=>?_;refine Zm rfl<|Ze (X0k rfl rfl)<|Zt aS fun a d=>?_
 refine Xi d rfl (fun o=>?_) (fun o=>?_)
 ·have aE:=o;have p:=X9x o;refine Zs d fun _ aT=>?_;refine Zm rfl<|Za rfl<|Zt aT fun a d=>?_;refine Q6<|X8<|X6 d (Xp d rfl rfl) ?_;exact ⟨by rw [p],by rw [p];exact b,n⟩
 have aE:=o;obtain ⟨k9,u0,aU,aF,aV,aW⟩:=Xgg o;have b8:=(Qg.1 aF).1;refine Q7<|aR _ _<|Q5 fun _ aX=>?_;refine Zs d fun _ aG=>?_;refine Zm rfl<|Ze (Xs rfl rfl (by omega) (by omega))<|Za rfl<|Zt aG fun a d=>?_;refine Q8 ?_
 rw [aU] at d
 refine X01 (σ:=Nat×Nat×(List Int)) (fun (s:Nat×Nat×(List Int)) (a:Act) (w:World)=>match s with|(i,j,m)=>Fr a 42 [(0,.slice A l.length c),(1,.func (.func kq) #[] pq.toArray),(5,vi (i:Int)),(6,vi (j:Int))]/\(Strk l q i j m)/\Own w B0 3 1 encI A c m/\y.grownBy w (Value.slice A l.length c).ownBlock) (fun (s:Nat×Nat×(List Int))=>match s with|(i,j,m)=>l.length-j) (k9,(k9+1),l) ?_ ?_
 ·exact ⟨d.sb,(Strk.init aW aF aV),b,n⟩
 rintro ⟨i,j,m⟩ a w2 ⟨d,hs,b,n⟩;refine Q5 fun _ aH=>?_;refine Zs d fun _ aI=>?_;refine Zm rfl<|Zm rfl<|Ze (X09 rfl Xj)<|Ze (X0n rfl rfl)<|Zt aI fun a d=>?_
 refine Xi d rfl (fun e=>?_) (fun e=>?_)
 ·have a6:=e;have e:=Q2 e
  obtain ⟨b9,b4⟩:=X4 (l:=l) (k:=j) (by omega)
  obtain ⟨h,a7⟩:=X4 (l:=l) (k:=j) (by have:=e;omega)
  have aY:=hs.at a7;have aZ:=hs.len;have b0:=hs.lt;have b1:=hs.jl;refine Q7<|aH _ _<|Q5 fun _ B=>?_;refine Q8<|Zs d fun _ aJ=>?_;refine Zm rfl<|Zm rfl<|Zj (k:=j) (u:=h) (enc:=encI) (l:=m) tv0 rfl (by omega) rfl Xj X0b Xd b.rd aY (by omega) ?_;intro bA a8;refine Ze (X0 rfl X9 a8)<|Za rfl<|Zx aJ fun a d _ aK=>?_;refine Zm rfl<|Zm rfl<|Zf (X7o (cs:=pq) (vs:=[vi h]) rfl rfl Fq (hq h _ n)) ?_;rintro _ w3 ⟨rfl,hE⟩;have b:=b.bw hE;have n:=gbel n hE;refine Ze (X0w rfl)<|Zt aK fun a d=>?_
  refine Xi d rfl (fun f=>?_) (fun f=>?_)
  ·have aA:=f
   have aB:q h=false:=by have h8:=f;simpa using h8
   have aC:=hs.yes a7 aB;refine Zs d fun _ aL=>?_;refine Zm rfl<|Zm rfl<|Zm rfl<|Ze (Xx (k:=i) rfl rfl Xj X0b b (by omega) (by omega) (by omega))<|Zo (X11 (enc:=encI) (l:=m) (vs:=[vi h]) (x0:=(m.getD i 0)) (u:=h) (k:=i) (j:=0) (n1:=1) rfl rfl X0b b Xd rfl rfl rfl rfl (by decide) (Xg (by omega)) rfl) ?_;rintro _ w4 ⟨g,hg⟩;have t:=b;have n:=gtr n hg
   clear t hg;clear b;have b:=g;clear g;refine Zt aL fun a d=>?_;refine Zr d<|Zm rfl<|Ze (Xs rfl rfl (by omega) (by omega))<|Za rfl ?_;refine Zn fun a d=>?_;refine Xa<|B _ _<|Zr d<|Zm rfl<|Ze (Xs rfl rfl (by omega) (by omega))<|Za rfl ?_;refine Zn fun a d=>?_;refine Xc ?_;exact ⟨(i+1,j+1,(m.set i h)),⟨d.sb,aC,b,n⟩,(by first|omega|(dsimp only;omega))⟩
  have aA:=f
  have aB:q h=true:=by have h8:=f;simpa using h8
  have aC:=hs.no a7 aB;refine Q7<|Xa<|B _ _<|Zr d ?_;refine Zm rfl<|Ze (Xs rfl rfl (by omega) (by omega))<|Za rfl ?_;refine Zn fun a d=>?_;refine Xc ?_;exact ⟨(i,j+1,m),⟨d.sb,aC,b,n⟩,(by first|omega|(dsimp only;omega))⟩
 have a6:=e;have e:=Q1 e
 obtain ⟨b2,b3⟩:=hs.fin (by have:=e;omega)
 have aZ:=hs.len;have b0:=hs.lt;have b1:=hs.jl;refine Q9<|Xk<|Xk<|X02 ?_;refine aX _ _<|Zs d fun _ aM=>?_;refine Zm rfl<|Zm rfl ?_;have b5:=(b.rd.top).dropK Xd (c:=c) b.cap i;refine Ze (X6f (l:=l) (k:=i) rfl rfl Xj X0b (by omega) (by omega))<|Zo (Xe4 (enc:=encI) (l:=m) (k:=i) (L:=(l.drop i).length) rfl Xj z_3 b rfl rfl Xd (by decide) (by omega) (by rw [List.length_drop];omega)) ?_;rintro _ w5 ⟨g,hg⟩;have t:=b;have n:=gtr n hg
 clear t hg;clear b;have b:=g;clear g;refine Zx aM fun a d _ aN=>?_;refine Zm rfl<|Zm rfl ?_;have b6:=(b.rd.top).takeK Xd i;refine Ze (X2r (l:=l) (k:=i) rfl rfl Xj X0b (by omega) (by omega) aD)<|Za rfl<|Zt aN fun a d=>?_
 refine Q6 (X6 d (Xp d rfl rfl) ?_)
 exact ⟨by rw [b3],b2▸b,n⟩
theorem Y1c(w0:World)(A:Option Addr)(c B0:Nat)(l:List Wr)(d:Own w0 B0 83 3 encWr A c l)(aJ:B0<=w0.heap.size)(p:Int)(hp:0<=p/\p<(l.length:Int))(aK:l.length<=1000000000) : Ret Tryz.prog 185 [.slice A l.length c,vi p,vi (p+1)] w0 (fun v w=>v=.slice A (ctW l p.toNat).length c/\Own w B0 83 3 encWr A c (ctW l p.toNat)/\w0.grownBy w (Value.slice A l.length c).ownBlock):=by
 have n:=d.cap
 have a6:=Xxi (l:=l) (i:=p.toNat) (by omega)
 have aC:l.take p.toNat++l.drop (p.toNat+1)=ctW l p.toNat:=rfl
 have aL:(l.take p.toNat++l.drop (p.toNat+1)).length+1=l.length:=a6
 have aM:=Qn (i:=p.toNat) (l:=l);have aN:=List.length_drop (i:=p.toNat+1) (l:=l);refine enter Tryz.func185 rfl 33 rfl rfl ?_;intro a e
 have hW:w0.grownBy w0 (Value.slice A l.length c).ownBlock:=World.grownBy.refl _ _
 refine Zs e fun _ aD=>?_;refine Za rfl<|Zx aD fun a e _ aE=>?_;refine Zm rfl<|Zm rfl<|Zm rfl<|Zm rfl<|Ze (X09 rfl Xr)<|Ze (Xp3 (k:=p.toNat) (m:=(p.toNat+1)) (r:=l.length) rfl rfl rfl rfl Xr X0c (by omega) (by omega) rfl (by omega) (by omega) n)<|ZX aE fun a e _ aF=>?_;refine Zs e fun _ aG=>?_;refine Zm rfl<|Zm rfl<|Ze (X0k rfl rfl)<|Zt aG fun a e=>?_
 refine Xi e rfl (fun g=>?_) (fun g=>?_)
 ·have a7:=g;exact absurd (beq_iff_eq.1 g) (by omega)
 have a7:=g;refine Q7<|aF _ _<|Zs e fun _ aH=>?_;refine Zm rfl<|Ze (X09 rfl Xr)<|Za rfl<|ZX aH fun a e _ aI=>?_;refine X04 none (fun j=>[6,6].contains j) mixed ?_;intro w1 hE;have d:=d.bw hE;have hW:=gbel hW hE;refine Yb e<|Yo 0 rfl (fun _=>X3 rfl)<|Yo 1 rfl (fun _=>X3 rfl) ?_
 have o:=d.takeK Xy (k:=p.toNat) (by omega)
 refine Yo 2 rfl (fun _=>X2r (l:=l) (k:=p.toNat) rfl rfl Xr X0c (by omega) (by omega) d.cap)<|Yo 3 rfl (fun _=>X3 rfl)<|Yo 4 rfl (fun _=>X3 rfl) ?_;have a8:=(d.rd.top).dropK Xy (c:=c) d.cap (p.toNat+1);refine Yo 5 rfl (fun _=>X6f (l:=l) (k:=(p.toNat+1)) rfl rfl Xr X0c (by omega) (by omega))<|Y1 6 ?_;refine Yt rfl tv0 rfl (Xhx (enc:=encWr) (l:=((l.take p.toNat))) (l2:=((l.drop (p.toNat+1)))) rfl rfl Xr X0c Xy X1p o a8 (by omega)) ?_;rintro _ w2 ⟨rfl,b,hg⟩;have f:=o;have hW:=gtr hW hg;clear f hg;refine Yo 7 rfl (fun _=>X0u rfl) ?_;refine Yd fun a e=>?_;refine aI _ _<|Zs e fun _ aA=>?_;refine Zm rfl<|Zm rfl<|Ze (X09 rfl Xr)<|Zm rfl<|Ze (Xo6 (k:=(l.take p.toNat++l.drop (p.toNat+1)).length) (m:=l.length) rfl rfl rfl Xr X0c rfl rfl (by omega) n)<|Zo (Xe4 (enc:=encWr) (l:=((l.take p.toNat)++(l.drop (p.toNat+1)))) (k:=(l.take p.toNat++l.drop (p.toNat+1)).length) (L:=(l.length-(l.take p.toNat++l.drop (p.toNat+1)).length)) rfl Xr X2s b rfl rfl Xy (by decide) (Qb _) (by omega)) ?_;rintro _ w3 ⟨q,hg⟩;have f:=b;have hW:=gtr hW hg
 clear f hg;clear b;have b:=q;clear q;refine Zx aA fun a e _ aB=>?_;refine Zm rfl<|Za rfl<|Zt aB fun a e=>?_
 refine Q6 (X6 e (Xp e rfl rfl) ?_)
 exact ⟨rfl,by rw [<- aC];exact (List.take_length (l:=l.take p.toNat++l.drop (p.toNat+1)))▸b,hW⟩
end Go.Proofs.YtpifljegadknkaaGreat
namespace Go.Proofs.YtpifljegadknkaaGreat
open Go.RowKit Go.Sort Go.Shelf Go.Lib
def sortWr_ren:Go.Shelf.Ren:=⟨fun|6=>184|15=>222|14=>221|28=>242|29=>243|20=>234|21=>235|22=>236|23=>237|24=>238|25=>239|26=>240|27=>241|46=>254|47=>255|48=>256|49=>257|50=>258|57=>262|n=>n,fun|22=>37|24=>83|25=>141|3=>3|39=>147|0=>0|53=>237|55=>101|4=>4|46=>231|45=>230|50=>76|5=>5|9=>9|66=>244|70=>248|76=>252|77=>253|n=>n,fun|n=>n⟩
theorem Xlh:SlLaysF0.n6 Tryz.prog sortWr_ren:={
 mixed:=by kernel_rfl
 f6:=⟨Tryz.f184.name,by decide,Tryz.func184.trans (congrArg some (by kernel_rfl))⟩
 f14:=⟨Tryz.f221.name,by decide,Tryz.func221.trans (congrArg some (by kernel_rfl))⟩
 f15:=Tryz.func222.trans (congrArg some (by kernel_rfl))
 f20:=⟨Tryz.f234.name,by decide,Tryz.func234.trans (congrArg some (by kernel_rfl))⟩
 f21:=⟨Tryz.f235.name,by decide,Tryz.func235.trans (congrArg some (by kernel_rfl))⟩
 f22:=⟨Tryz.f236.name,by decide,Tryz.func236.trans (congrArg some (by kernel_rfl))⟩
 f23:=⟨Tryz.f237.name,by decide,Tryz.func237.trans (congrArg some (by kernel_rfl))⟩
 f24:=⟨Tryz.f238.name,by decide,Tryz.func238.trans (congrArg some (by kernel_rfl))⟩
 f25:=⟨Tryz.f239.name,by decide,Tryz.func239.trans (congrArg some (by kernel_rfl))⟩
 f26:=⟨Tryz.f240.name,by decide,Tryz.func240.trans (congrArg some (by kernel_rfl))⟩
 f27:=⟨Tryz.f241.name,by decide,Tryz.func241.trans (congrArg some (by kernel_rfl))⟩
 f28:=Tryz.func242.trans (congrArg some (by kernel_rfl))
 f29:=Tryz.func243.trans (congrArg some (by kernel_rfl))
 f46:=⟨Tryz.f254.name,by decide,Tryz.func254.trans (congrArg some (by kernel_rfl))⟩
 f47:=Tryz.func255.trans (congrArg some (by kernel_rfl))
 f48:=Tryz.func256.trans (congrArg some (by kernel_rfl))
 f49:=⟨Tryz.f257.name,by decide,Tryz.func257.trans (congrArg some (by kernel_rfl))⟩
 f50:=⟨Tryz.f258.name,by decide,Tryz.func258.trans (congrArg some (by kernel_rfl))⟩
 f57:=⟨Tryz.f262.name,by decide,Tryz.func262.trans (congrArg some (by kernel_rfl))⟩
 t0:=Tryz.underlying0
 a0:=Tryz.isAgg0
 z0:=Tryz.sizeOf0
 v0:=Tryz.zeroValue0
 t3:=Tryz.underlying3
 a3:=Tryz.isAgg3
 z3:=Tryz.sizeOf3
 v3:=Tryz.zeroValue3
 t4:=Tryz.underlying4
 a4:=Tryz.isAgg4
 z4:=Tryz.sizeOf4
 v4:=Tryz.zeroValue4
 t5:=Tryz.underlying5
 a5:=Tryz.isAgg5
 z5:=Tryz.sizeOf5
 v5:=Tryz.zeroValue5
 t9:=Tryz.underlying9
 a9:=Tryz.isAgg9
 z9:=Tryz.sizeOf9
 v9:=Tryz.zeroValue9
 t22:=Tryz.underlying37
 a22:=Tryz.isAgg37
 z22:=Tryz.sizeOf37
 v22:=Tryz.zeroValue37
 t25:=Tryz.underlying141
 a25:=Tryz.isAgg141
 z25:=Tryz.sizeOf141
 v25:=Tryz.zeroValue141
 t39:=Tryz.underlying147
 a39:=Tryz.isAgg147
 z39:=Tryz.sizeOf147
 v39:=Tryz.zeroValue147
 t45:=Tryz.underlying230
 a45:=Tryz.isAgg230
 z45:=Tryz.sizeOf230
 v45:=Tryz.zeroValue230
 t46:=Tryz.underlying231
 a46:=Tryz.isAgg231
 z46:=Tryz.sizeOf231
 v46:=Tryz.zeroValue231
 t50:=Tryz.underlying76
 a50:=Tryz.isAgg76
 z50:=Tryz.sizeOf76
 v50:=Tryz.zeroValue76
 t53:=Tryz.underlying237
 a53:=Tryz.isAgg237
 z53:=Tryz.sizeOf237
 v53:=Tryz.zeroValue237
 t55:=Tryz.underlying101
 a55:=Tryz.isAgg101
 z55:=Tryz.sizeOf101
 v55:=Tryz.zeroValue101
 t66:=Tryz.underlying244
 a66:=Tryz.isAgg244
 z66:=Tryz.sizeOf244
 v66:=Tryz.zeroValue244
 t70:=Tryz.underlying248
 a70:=Tryz.isAgg248
 z70:=Tryz.sizeOf248
 v70:=Tryz.zeroValue248
 t76:=Tryz.underlying252
 a76:=Tryz.isAgg252
 z76:=Tryz.sizeOf252
 v76:=Tryz.zeroValue252
 t77:=Tryz.underlying253
 a77:=Tryz.isAgg253
 z77:=Tryz.sizeOf253
 v77:=Tryz.zeroValue253 }
section
variable {P : Program} {a : Act} {w : World} {n : Nat} {e : Env} {ty : TypeId} {pos : String} {af : Array Edge} {g : Option (Nat × Bool)} {d : Option Tmp}
theorem Xq2{T:TypeId}{x:Operand}{v:Value}{zs:List Value}(hf:Fr a n e)(hx:ev e x=some v)(hzs:v.cells.toList=zs) : Ef P ⟨d,.box T x,ty,pos,af,g⟩ a w (fun v w'=>∃ b,v=.pointer (some ⟨b,0,none⟩)/\w.heap.size<=b/\Below w.heap.size w w'/\Blk w' b T zs/\w'.drawn=w.drawn):=by
 subst hzs
 have h:(execOp a.eval ⟨d,.box T x,ty,pos,af,g⟩).run P w=.ok (.value (.pointer (some ⟨w.heap.size,0,none⟩))) (w.alloc (.cells v.cells T)):=by
  simp [execOp,Instr.box,X6m,hf.ev hx]
 refine (Ef.of_run h).mono fun v' w' ⟨e1,e2⟩=>?_
 subst e1;subst e2
 have h9:=X4e w T v.cells.toList;exact ⟨_,rfl,Qb _,(Below.refl _ _).alloc (Qb _) _,by simpa using h9,rfl⟩
theorem Xsq{T:TypeId}{x:Operand}{v:Value}{zs:List Value}(hx:ev e x=some v)(hzs:v.cells.toList=zs) : EfW P ⟨d,.box T x,ty,pos,af,g⟩ n e w (fun v w'=>∃ b,v=.pointer (some ⟨b,0,none⟩)/\w.heap.size<=b/\Below w.heap.size w w'/\Blk w' b T zs/\w'.drawn=w.drawn):=fun a hf=>Xq2 hf hx hzs
theorem X8w{T E sz bytes:Nat}{k:Nat}{parts:List (Nat×Operand)}{vs zs:List Value}(hf:Fr a n e)(hp:evp e parts=some (numb 0 vs))(hT:SliceT P T E)(hi:InfoT P E sz bytes)(hv:(vs.all (fun v=>Nat.beq v.cells.size sz)&&Nat.beq vs.length k&&Nat.ble (k*sz) 1000)=true)(hz:vs.flatMap (fun v=>v.cells.toList)=zs) :
  Ef P ⟨d,.buildSlice T k parts.toArray,ty,pos,af,g⟩ a w (fun v w'=>∃ b,v=.slice (some ⟨b,0,none⟩) k k/\w.heap.size<=b/\Below w.heap.size w w'/\Blk w' b E zs/\w'.drawn=w.drawn):=by
 subst hz
 obtain ⟨i,z,hi1,hi2,hi3,hi4,hi5,hi6⟩:=hi
 simp only [Qd,W1] at hv
 obtain ⟨⟨hv1,hv2⟩,hv3⟩:=hv
 have hk:vs.length=k:=Nat.eq_of_beq_eq_true hv2
 have hk3:k*sz<=1000:=Nat.le_of_ble_eq_true hv3
 have h1:=hf.evp hp
 have hfill:=X7m sz vs 0 ((Array.range (k*sz)).map fun j=>z.cells[j % z.cells.size]!) (fun v hv=>Nat.eq_of_beq_eq_true (hv1 v hv)) (by simp [hk])
 simp only [Nat.zero_mul,List.take_zero,List.nil_append] at hfill
 refine (Ef.of_run (v:=.slice (some ⟨w.heap.size,0,none⟩) k k) (w':=w.alloc (.cells (vs.flatMap fun v=>v.cells.toList).toArray E)) ?_).mono fun v w' ⟨e1,e2⟩=>?_
 ·simp only [execOp,List.map_toArray]
  rw [show (List.map (fun x:Nat×Operand=>match x with|(i,x)=>(i,a.eval x)) parts)=numb 0 vs from h1]
  have h24:¬ (16777216<k*sz):=by omega
  by_cases h0:k*sz=0
  ·have hf0:Instr.fill (fun i=>some (i*sz,sz)) #[] (numb 0 vs)=some (vs.flatMap fun v=>v.cells.toList).toArray:=by
    rw [<- hfill,h0]
    congr 1
    simp [Array.range_zero']
   simp [Instr.buildSlice,X0g hT,sizeOf,typeInfo,hi1,hi3,h0,newRow,newObj,Sem.run,Array.range_zero',hf0]
  ·simp [Instr.buildSlice,X0g hT,sizeOf,typeInfo,hi1,hi3,h24,h0,zeroValue,hi2,newRow,newObj,Sem.run,hfill]
 ·subst e1;subst e2
  exact ⟨_,rfl,Qb _,(Below.refl _ _).alloc (Qb _) _,X4e w E _,rfl⟩
theorem Xaq{T E sz bytes:Nat}{k:Nat}{parts:List (Nat×Operand)}{vs zs:List Value}(hp:evp e parts=some (numb 0 vs))(hT:SliceT P T E)(hi:InfoT P E sz bytes)(hv:(vs.all (fun v=>Nat.beq v.cells.size sz)&&Nat.beq vs.length k&&Nat.ble (k*sz) 1000)=true)(hz:vs.flatMap (fun v=>v.cells.toList)=zs) : EfW P ⟨d,.buildSlice T k parts.toArray,ty,pos,af,g⟩ n e w (fun v w'=>∃ b,v=.slice (some ⟨b,0,none⟩) k k/\w.heap.size<=b/\Below w.heap.size w w'/\Blk w' b E zs/\w'.drawn=w.drawn):=fun a hf=>X8w hf hp hT hi hv hz
theorem Xkp(V:Option Vk)(tl:Nat->Bool){id:Nat}{l:List Oper}{Q':Exit->Act->World->Prop}(hm:P.follows .mixedOrders=true)
  (h:∀ w',Below w.heap.size w w'->w.drawn<=w'.drawn->wpS P l.toArray V tl (Q' .normal) l.length (mask l.toArray []) a w') : (Code.region id l.toArray true).wp P Q' a w:=by
 refine wp_region_any hm ?_
 rw [Xcd]
 exact X2o (fun _ _ h=>h) _ _ _ _ (by simpa using h w.drew (Below.refl _ _).drew (Nat.le_succ _))
end
theorem Xvv(w0:World)(x:Wr)(y:Wr) : Ret Tryz.prog 101 [.agg #[vi x.a,vi x.b,.bool x.h],.agg #[vi y.a,vi y.b,.bool y.h]] w0 (fun v w=>v=vi (cmW x y)/\Below w0.heap.size w0 w/\w0.drawn<=w.drawn):=by
 refine enter Tryz.func101 rfl 17 rfl rfl ?_;intro a hf
 have hW:Below w0.heap.size w0 w0:=Below.refl _ _
 have hDr:w0.drawn<=w0.drawn:=Qb _
 refine Zs hf fun _ hK1=>?_;refine Zf (Xsq (zs:=[vi x.a,vi x.b,.bool x.h]) rfl rfl) ?_;rintro _ w1 ⟨b2,rfl,hl2,hE,hB2,hd⟩;replace hDr:=Q0 hDr (Nat.le_of_eq hd.symm);clear hd;have hlo2:=Q0 hW.size hl2;replace hW:=btr hW hE;clear hE;refine Zf (Xsq (zs:=[vi y.a,vi y.b,.bool y.h]) rfl rfl) ?_;rintro _ w2 ⟨b3,rfl,hl3,hE,hB3,hd⟩;replace hDr:=Q0 hDr (Nat.le_of_eq hd.symm);clear hd
 have hne2_3:b2≠b3:=by have:=hB2.lt;omega
 have hlo3:=Q0 hW.size hl3;replace hB2:=hB2.bw hE;replace hW:=btr hW hE;clear hE;refine Za rfl ?_;refine Zt hK1 fun a hf=>?_;refine Q5 fun _ hK4=>?_;refine Xkp none (fun _=>false) mixed ?_;intro w3 hE hd;replace hDr:=Q0 hDr hd;clear hd;replace hB2:=hB2.bw hE;replace hB3:=hB3.bw hE;replace hW:=btr hW hE;clear hE;refine Yb hf ?_;refine Yo 0 rfl (fun _=>Vd rfl X0p 0) ?_;refine Ye 1 rfl (X0 rfl X9 (hB2.at 0)) ?_;refine Yo 2 rfl (fun _=>Vd rfl X0p 0) ?_;refine Ye 3 rfl (X0 rfl X9 (hB3.at 0)) ?_;refine Yo 5 rfl (fun _=>Vd rfl X0r 1) ?_;refine Ye 6 rfl (X0 rfl X9 (hB2.at 1)) ?_;refine Yo 7 rfl (fun _=>Vd rfl X0r 1) ?_;refine Ye 8 rfl (X0 rfl X9 (hB3.at 1)) ?_;refine Y1 4 ?_;refine Yz rfl trivial (Vc (Xh4 _ x.a y.a) X8k) ?_;refine Y1 9 ?_;refine Yz rfl trivial (Vc (Xh4 _ x.b y.b) X8k) ?_;refine Y1 10 ?_;refine Yk rfl trivial (Xaq (k:=2) (vs:=[vi (cmI x.a y.a),vi (cmI x.b y.b)]) (zs:=[vi (cmI x.a y.a),vi (cmI x.b y.b)]) rfl Xj X1g rfl rfl) (fun _ _ ⟨_,_,_,h,_⟩=>h) ?_;rintro _ w4 ⟨b5,rfl,hl5,hE,hB5,hd⟩;replace hDr:=Q0 hDr (Nat.le_of_eq hd.symm);clear hd;have hlo5:=Q0 hW.size hl5;replace hB2:=hB2.bw hE;replace hB3:=hB3.bw hE;replace hW:=btr hW hE;clear hE;refine Y1 11 ?_;refine Yz rfl trivial (Vc (Xsr _ (some ⟨b5,0,none⟩) 2 ([cmI x.a y.a,cmI x.b y.b]) (Rd.of_blk hB5 rfl _ hB5.lt) (by simp)) Xfv) ?_;refine Yo 12 rfl (fun _=>X0u rfl) ?_;refine Yd fun a hf=>?_;refine hK4 _ _ ?_;refine Q6 ?_;refine X6 hf (Xp hf rfl rfl) ?_;exact ⟨by rw [Xt9],hW,hDr⟩
theorem Xes{w w':World}(h:Below w.heap.size w w')(hd:w.drawn<=w'.drawn) : ∃ q os',w'=grow (w.drewN q) os':=by
 refine ⟨w'.drawn-w.drawn,(w'.heap.extract w.heap.size w'.heap.size),?_⟩
 have h1:w.heap++w'.heap.extract w.heap.size w'.heap.size=w'.heap:=by
  apply Array.ext_getElem?
  intro k
  rw [Array.getElem?_append]
  split
  ·rename_i hk
   exact (h.block k hk).symm
  ·rename_i hk
   rw [Array.getElem?_extract]
   have:=h.size
   by_cases h9:k<w'.heap.size
   ·rw [Q4 (by omega)]
    congr 1
    omega
   ·rw [Q3 (by omega),We (by omega)]
 cases w' with
 | mk hp tp dr os out=>
  unfold grow World.drewN
  have e1:=h.os
  have e2:=h.tape
  have e3:=h.output
  dsimp only at e1 e2 e3 h1 hd ⊢
  rw [h1,e1,e2,e3]
  congr 1
  omega
theorem Xxq(x y:Wr)(W:World) : Calls Tryz.prog 101 #[.agg #[.int .i64 x.a,.int .i64 x.b,.bool x.h],.agg #[.int .i64 y.a,.int .i64 y.b,.bool y.h]] W fun e w'=>e=.returned (.int .i64 (cmW x y))/\∃ q os',w'=grow (W.drewN q) os':=
 Calls.mono (Xvv W x y) fun e w ⟨v,h1,h2,h3,h4⟩=>⟨by rw [h1,h2],Xes h3 h4⟩
instance:Inhabited Wr:=⟨wZ⟩
theorem Xlp(x y:Wr) : decide (cmW x y<0)=wlt x y:=by
 unfold cmW cmI wlt
 apply Bool.eq_iff_iff.2
 simp only [Qr,Bool.or_eq_true,Qd,beq_iff_eq]
 by_cases h1:x.a<y.a
 ·simp [h1]
 by_cases h2:y.a<x.a
 ·have:¬ x.a=y.a:=by omega
  simp [h1,h2,this]
 have h3:x.a=y.a:=by omega
 by_cases h4:x.b<y.b
 ·simp [h3,h4]
 by_cases h5:y.b<x.b
 ·simp [h3,h4,h5]
 ·simp [h3,h4,h5]
theorem ltW(x y:Wr) : ltOf cmW x y=wlt x y:=by
 unfold ltOf
 exact Xlp x y
theorem Y5j:SWO (ltOf cmW) where
 irrefl x:=by rw [ltW,X5i];omega
 trans x y z h1 h2:=by rw [ltW] at *;exact Xem h1 h2
 ntrans x y z h1 h2:=by rw [ltW,X5i] at *;omega
theorem Xlv(blk off size:Nat)(w:World) : CmpLays Tryz.prog 101 #[] encWr 3 cmW blk off size w:=fun _ _ _ _ x y=>Xxq x y _
theorem Y1f(w0:World)(B0:Nat)(A:Option Addr)(c:Nat)(l:List Wr)(ho:Own w0 B0 83 3 encWr A c l)(hl:l.length<=100000000) :
  Ret Tryz.prog 184 [.slice A l.length c,.func (.func 101) #[] #[]] w0 (fun v w=>v=.tuple #[]/\(∃ l',l'.Perm l/\(l'.Pairwise fun x y=>wlt y x=false)/\Own w B0 83 3 encWr A c l')/\w0.grownBy w (Value.slice A l.length c).ownBlock):=by
 by_cases h0:l=[]
 ·subst h0
  refine Calls.mono (AnyF.slices_SortFunc_none Xlh A c _ w0) fun e w ⟨e1,e2⟩=>⟨_,e1,?_⟩
  subst e2
  exact ⟨rfl,⟨[],List.Perm.refl _,List.Pairwise.nil,ho⟩,World.grownBy.refl w _⟩
 ·rcases ho.2 with ⟨h1,h2⟩|⟨g,cap,cur,h1,h2,h3,h4,h5,h6,h7⟩
  ·exact absurd (List.eq_nil_of_length_eq_zero h2) h0
  ·injection h1 with h1 _ h1''
   subst h1;subst h1''
   have hfl:(flatK encWr 3 l.toArray).toList=l.flatMap encWr:=X9c Xy l
   have hfs:(flatK encWr 3 l.toArray).size=l.length*3:=by simp
   have hH:HoldsK encWr 3 w0 g 0 l.toArray:=Xxf h3 (by rw [hfs,hfl];exact h7)
   have eg:Enters Tryz.prog 101:=enters_of Tryz.func101 (by kernel_rfl) rfl
   have hcon:=AnyQ.slices_SortFunc Xlh 3 Tryz.isAgg83 Tryz.sizeOf83 encWr Xy (fun x v hv=>by simp [encWr] at hv;rcases hv with rfl|rfl|rfl<;>rfl) cmW Y5j _ #[] g 0 c l.toArray w0 eg (Xlv _ _ _ _) hH (Qp.1 h3).1 (by simp;omega)
   have hcon2:Calls Tryz.prog 184 #[.slice (some ⟨g,0,none⟩) l.length c,.func (.func 101) #[] #[]] w0 fun e w'=>e=.returned (.tuple #[])/\∃ d' n os,PermIn 0 l.toArray.size l.toArray d'/\SortedIn (ltOf cmW) 0 l.toArray.size d'/\w'=sortWorldK encWr 3 w0 g 0 n d' os:=by
    have e:l.toArray.size=l.length:=by simp
    rw [e] at hcon ⊢
    exact hcon
   refine Calls.mono hcon2 fun e w ⟨e1,d',n,os,hp,hs,e2⟩=>⟨_,e1,rfl,?_⟩
   subst e2
   have hd:d'.size=l.length:=by rw [hp.1];simp
   have hpl:d'.toList.Perm l:=by
    have:=hp.2.2
    rw [<- hp.1] at this
    simpa [Qi (show l.length<=d'.size by omega)] using this
   have hfs2:(flatK encWr 3 d').size=l.length*3:=by simp [hd]
   have hfl2:(flatK encWr 3 d').toList=d'.toList.flatMap encWr:=by
    have:=X9c Xy d'.toList
    rw [Array.toArray_toList] at this
    exact this
   have hcur:(flatK encWr 3 d').size<=cur.size:=by
    have:=congrArg List.length h7
    rw [Qn,Xu Xy] at this
    rw [hfs2]
    have h8:cur.toList.length=cur.size:=Array.length_toList
    omega
   have hlen:d'.toList.length=l.length:=by simp [hd]
   refine ⟨⟨d'.toList,hpl,?_,⟨Xu Xy _,.inr ⟨g,c,_,by rw [hlen],h2,Xib _ h3,by rw [hlen];omega,h5,by simp [putCells,h6],?_⟩⟩⟩,?_⟩
   ·rw [W0]
    intro i j hi hj hij
    have hi':i<d'.size:=by simpa using hi
    have hj':j<d'.size:=by simpa using hj
    have h9:=hs i j (Qf _) hij (by rw [<- hp.1];exact hj')
    rw [ltW] at h9
    rw [getElem!_pos d' i hi',getElem!_pos d' j hj'] at h9
    exact h9
   ·have:=Xhq cur (flatK encWr 3 d') hcur
    rw [hfs2,hfl2] at this
    rw [hlen];exact this
   ·exact Xea _
end Go.Proofs.YtpifljegadknkaaGreat
namespace Go.Proofs.YtpifljegadknkaaGreat
open Go.RowKit
theorem X4b:∀ (l:List Wr) (x:Wr),(insW l x).Perm (x::l)
 | [],x=>List.Perm.refl _
 | y::l,x=>by
  unfold insW
  split
  ·exact ((X4b l x).cons y).trans (List.Perm.swap x y l)
  ·exact List.Perm.refl _
theorem Xef{l:List Wr}(h:WSd l){x y:Wr}(hx:x ∈ l)(hy:y ∈ l)(h1:wlt x y=false)(h2:wlt y x=false) : x=y:=by
 obtain ⟨i,hi,rfl⟩:=List.mem_iff_getElem.1 hx;obtain ⟨j,hj,rfl⟩:=List.mem_iff_getElem.1 hy;have hp:=W0.1 h
 rcases Nat.lt_trichotomy i j with h9|h9|h9
 ·rw [hp i j hi hj h9] at h1;cases h1
 ·subst h9;rfl
 ·rw [hp j i hj hi h9] at h2;cases h2
theorem Xja{ws l:List Wr}{x:Wr}(hp:l.Perm (ws++[x]))(hs:l.Pairwise fun x y=>wlt y x=false)(hw:WSd ws)(ha:∀ y ∈ ws,¬ (y.a=x.a/\y.b=x.b)) : l=insW ws x:=by
 have hi:=Xe9 hw ha
 have hpp:l.Perm (insW ws x):=(hp.trans (List.perm_append_singleton x ws)).trans (X4b ws x).symm
 refine List.Perm.eq_of_pairwise (le:=fun x y=>wlt y x=false) (fun a b h1 h2 h3 h4=>?_) hs (hi.imp fun {a b} h=>?_) hpp
 ·exact Xef hi (hpp.mem_iff.1 h1) h2 h4 h3
 ·rw [X5i]
  rw [X3y] at h
  omega
theorem Xwe{ws:List Wr}{p q:Int}(h:fdW ws p q<0){x:Bool} : ∀ y ∈ ws,¬ (y.a=(⟨min p q,max p q,x⟩ : Wr).a/\y.b=(⟨min p q,max p q,x⟩ : Wr).b):=fun y hy h9=>by
 have h1:=Xdz h y hy
 have h2:isW p q y=true:=X1w.2 h9
 rw [h2] at h1
 cases h1
def Dgm(w:World)(b B0:Nat)(A0:Option Addr)(c0:Nat)(A1:Option Addr)(c1 m:Nat)(d:Dg) : Prop:=
 Blk w b 39 [.int .i64 d.n,.slice A0 m c0,.slice A1 d.ws.length c1,.int .i64 d.t,.int .i64 d.r]/\Own w B0 81 2 encNd A0 c0 d.ns/\Own w B0 83 3 encWr A1 c1 d.ws/\m=d.ns.length
def ctO(ws:List Wr)(p q:Int) : List Wr:=if 0<=fdW ws p q then ctW ws (fdW ws p q).toNat else ws
theorem Y2m(l:List Wr)(k:Int) : (l.filter fun x=>!(x.a==k||x.b==k))=dpW l k:=by
 unfold dpW
 congr 1
 funext x
 simp only [bne,Bool.not_or]
theorem Xd9{ws:List Wr}{p q:Int}(h:0<=fdW ws p q) : ctO ws p q=ctW ws (fdW ws p q).toNat:=Q4 h
theorem Xtg{ws:List Wr}{p q:Int}(h:¬ 0<=fdW ws p q) : ctO ws p q=ws:=Q3 h
theorem Xqk{ws:List Wr}{p q:Int}(h:tyW ws p q=0) : fdW ws p q<0:=by
 unfold tyW at h
 split at h
 ·assumption
 ·split at h<;>omega
theorem Xhs{ws:List Wr}{p q:Int}(h:tyW ws p q≠0) : 0<=fdW ws p q:=by
 unfold tyW at h
 split at h
 ·exact absurd rfl h
 ·omega
def tgI(d:Dg)(p q:Int) : Dg:=if tyW d.ws p q=1 then d else tgD d p q
theorem Y3n{d:Dg}{p q:Int}(h:tyW d.ws p q=0) : tgI d p q = { d with ws:=jnW d.ws p q true,r:=wr (d.r+1) }:=by
 unfold tgI
 rw [Q3 (by omega)]
 exact Y2j (by have:=Xqk h;omega)
theorem Xze{d:Dg}{p q:Int}(h:tyW d.ws p q=1) : tgI d p q=d:=Q4 h
theorem Xyn{d:Dg}{p q:Int}(h0:tyW d.ws p q≠0)(h1:tyW d.ws p q≠1) : tgI d p q = { d with ws:=ctO d.ws p q,r:=wr (d.r-1) }:=by
 unfold tgI
 rw [Q3 h1,Y0y (Xhs h0),Xd9 (Xhs h0)]
theorem Xec{ws:List Wr}{p q:Int}(h:0<=fdW ws p q) : tyW ws p q=if (ws.getD (fdW ws p q).toNat wZ).h=true then 2 else 1:=by
 unfold tyW
 rw [Q3 (by omega)]
theorem Xus{ws:List Wr}(hw:WSd ws){p q:Int} : fdW (ctO ws p q) p q<0:=by
 by_cases h:0<=fdW ws p q
 ·obtain ⟨w,h1,h2,_⟩:=X49 h
  rw [Xd9 h,Xh2 hw h1 h2]
  omega
 ·rw [Xtg h];omega
theorem Xy2{ws:List Wr}(hw:WSd ws)(p q:Int) : WSd (ctO ws p q):=by
 unfold ctO
 split
 ·exact Xdp hw _
 ·exact hw
theorem Xpi(ws:List Wr)(p q:Int) : (ctO ws p q).length<=ws.length:=by
 unfold ctO
 split
 ·exact (X3f _ _).length_le
 ·exact Qb _
theorem Xyw{d:Dg}{p q:Int}{x:Bool}(h:tyW d.ws p q=0) : lkD d p q x = { d with ws:=jnW d.ws p q x }:=Y0r (Xqk h)
theorem Y2l{d:Dg}{p q:Int}{x:Bool}(h:(tyW d.ws p q==1&&!x)=true) : lkD d p q x=d:=by
 rw [Qd,beq_iff_eq] at h
 have h0:=Xhs (ws:=d.ws) (p:=p) (q:=q) (by omega)
 have h2:=Xec h0
 cases hh:(d.ws.getD (fdW d.ws p q).toNat wZ).h with
 | true=>rw [hh] at h2;simp at h2;omega
 | false=>
  have hx:x=false:=by simpa using h.2
  subst hx
  exact Y21 (by omega) (by rw [hh];rfl) (by rw [hh];rfl)
theorem Y3c{d:Dg}{p q:Int}{x:Bool}(h:(tyW d.ws p q==2&&x)=true) : lkD d p q x = { d with ws:=ctO d.ws p q,r:=wr (d.r-2) }:=by
 rw [Qd,beq_iff_eq] at h
 have h0:=Xhs (ws:=d.ws) (p:=p) (q:=q) (by omega)
 have h2:=Xec h0
 cases hh:(d.ws.getD (fdW d.ws p q).toNat wZ).h with
 | false=>rw [hh] at h2;simp at h2;omega
 | true=>rw [Y3j (by omega) (by rw [hh,h.2];rfl),Xd9 h0]
theorem Xzu{d:Dg}{p q:Int}{x:Bool}(h0:tyW d.ws p q≠0)(h1:(tyW d.ws p q==1&&!x)=false)(h2:(tyW d.ws p q==2&&x)=false) : lkD d p q x = { d with ns:=adN d.ns (min p q) 4,ws:=jnW (ctO d.ws p q) p q false,r:=wr (d.r-1) }:=by
 have g0:=Xhs h0
 have g2:=Xec g0
 rw [Xd9 g0]
 cases hh:(d.ws.getD (fdW d.ws p q).toNat wZ).h with
 | false=>
  rw [hh] at g2
  have g3:tyW d.ws p q=1:=by simpa using g2
  have hx:x=true:=by rw [g3] at h1;simpa using h1
  subst hx
  exact Xw7 (by omega) (by rw [hh];rfl) (by rw [hh];rfl)
 | true=>
  rw [hh] at g2
  have g3:tyW d.ws p q=2:=by simpa using g2
  have hx:x=false:=by rw [g3] at h2;simpa using h2
  subst hx
  exact Xw7 (by omega) (by rw [hh];rfl) (by rw [hh];rfl)
section
variable {α β : Type} {w w' : World} {b B0 B1 : Nat} {A A' : Option Addr} {l : List (Option Addr)} {E E' T : TypeId} {sz sz' c c' : Nat} {enc : α -> List Value} {enc' : β -> List Value} {r : List α} {r' : List β} {bcs : List Value}
theorem X0v(ho:Own w B0 E' sz' enc' A' c' r')(hE:Nat.beq E' E=false) : ∀ k cs fz,ownB A'=some k->w.heap[k]? = some (.cells cs E fz)->False:=fun k cs fz hk hh=>by
 obtain ⟨_,_,cs',fz',h3⟩:=ho.block (k:=k) (by rw [X4u];exact hk)
 rw [h3] at hh;injection hh with hh;injection hh with _ e _;subst e;simp at hE
theorem Own.tu(h:Own w B0 E sz enc A c r)(hts:TurnS (SB b l) w w')(hb:Blk w b T bcs)(h1:Nat.beq T E=false)(hr:∀ A' ∈ l,∀ k cs fz,ownB A'=some k->w.heap[k]? = some (.cells cs E fz)->False) : Own w' B0 E sz enc A c r:=by
 refine ⟨h.1,?_⟩
 rcases h.2 with h2|⟨g,cap,cur,e1,e2,e3,e4⟩
 ·exact .inl h2
 ·refine .inr ⟨g,cap,cur,e1,e2,?_,e4⟩
  have hlt:g<w.heap.size:=(Qp.1 e3).1
  rw [hts.block g hlt fun hk=>?_]
  ·exact e3
  ·rcases hk with e|⟨A',hA,hk⟩
   ·subst e
    unfold Blk at hb
    rw [hb] at e3;injection e3 with e3;injection e3 with _ e _;subst e;simp at h1
   ·exact hr A' hA g _ _ hk e3
theorem Rd.tu{B:Nat}(h:Rd w B E enc A r)(hts:TurnS (SB b l) w w')(hb:Blk w b T bcs)(h1:Nat.beq T E=false)(hr:∀ A' ∈ l,∀ k cs fz,ownB A'=some k->w.heap[k]? = some (.cells cs E fz)->False) : Rd w' B E enc A r:=fun hl=>by
 obtain ⟨g,off,cs,fz,e1,e2,e3,e4⟩:=h hl
 refine ⟨g,off,cs,fz,e1,e2,?_,e4⟩
 have hlt:g<w.heap.size:=(Qp.1 e3).1
 rw [hts.block g hlt fun hk=>?_]
 ·exact e3
 ·rcases hk with e|⟨A',hA,hk⟩
  ·subst e
   unfold Blk at hb
   rw [hb] at e3;injection e3 with e3;injection e3 with _ e _;subst e;simp at h1
  ·exact hr A' hA g _ _ hk e3
end
theorem X76:∀ {ws:List Wr} {k:Int},(∀ w ∈ ws,w.a<w.b)->cnW ws k=((nearW ws k).length:Int)
 | [],_,_=>rfl
 | w::ws,k,h=>by
  have ih:=X76 (ws:=ws) (k:=k) fun x hx=>h x (by simp [hx])
  have hw:=h w (by simp)
  unfold cnW nearW at ih ⊢
  rw [List.filter_cons,List.filterMap_cons]
  by_cases h1:k=w.a
  ·have e:otW k w=some w.b:=Q4 h1
   have e2:(w.a==k||w.b==k)=true:=by simp [h1]
   rw [e,e2]
   simp only [if_true,Qs]
   omega
  ·by_cases h2:k=w.b
   ·have e:otW k w=some w.a:=by unfold otW;rw [Q3 h1,Q4 h2]
    have e2:(w.a==k||w.b==k)=true:=by simp [h2]
    rw [e,e2]
    simp only [if_true,Qs]
    omega
   ·have e:otW k w=none:=by unfold otW;rw [Q3 h1,Q3 h2]
    have e2:(w.a==k||w.b==k)=false:=by simp [Ne.symm h1,Ne.symm h2]
    rw [e,e2]
    simp only [Bool.false_eq_true,if_false]
    exact ih
theorem Xbi{d:Dg}(hG:goodD d=true){a v:Int}(hv:v ∈ nearW d.ws a)(hs:spI d.ns v=false) : ∀ w ∈ dpW d.ws a,w.a≠v/\w.b≠v:=by
 have hD:=X0e hG;have hr:=X1i hD hv
 have hx:d.ns[v.toNat]? = some (d.ns.getD v.toNat nZ):=Xg hr.2
 have hq:=(X23 hG).2.2.1 v.toNat hr.2
 have hvt:((v.toNat:Nat) : Int)=v:=by omega
 rw [hvt] at hq
 obtain ⟨w0,hw0,ho⟩:=X3b.1 hv;have hab:=hD.w.l
 have hk:(d.ns.getD v.toNat nZ).k≠3:=fun h3=>by
  have:spI d.ns v=true:=by
   unfold spI
   rw [h3,X0o.2 ⟨hr.1,by omega⟩]
   rfl
  rw [this] at hs;cases hs
 have htouch:(w0.a==v||w0.b==v)=true:=by
  rcases X35 ho with ⟨_,h2⟩|⟨_,h2⟩<;>simp [h2]
 have hmem:w0 ∈ d.ws.filter (fun w=>w.a==v||w.b==v):=List.mem_filter.2 ⟨hw0,htouch⟩
 have hone:cnW d.ws v=1:=by
  unfold ndQ at hq
  split at hq
  ·simp only [Qd,beq_iff_eq] at hq
   have h0:=hq.2
   unfold cnW at h0
   have:=List.length_pos_of_mem hmem
   omega
  ·split at hq
   ·simp only [Qd,beq_iff_eq] at hq
    exact hq.2
   ·simp only [Qd,beq_iff_eq] at hq
    exact absurd hq.1 hk
 intro w hw;have hw2:=List.mem_filter.1 hw
 have hna:w.a≠a/\w.b≠a:=by simpa using hw2.2
 by_cases ht:(w.a==v||w.b==v)=true
 ·exfalso
  have hmw:w ∈ d.ws.filter (fun w=>w.a==v||w.b==v):=List.mem_filter.2 ⟨hw2.1,ht⟩
  unfold cnW at hone
  obtain ⟨z,hz⟩:=List.length_eq_one_iff.1 (show (d.ws.filter (fun w=>w.a==v||w.b==v)).length=1 by omega)
  rw [hz] at hmem hmw
  have e1:=Qm.1 hmem
  have e2:=Qm.1 hmw
  subst e1
  subst e2
  rcases X35 ho with ⟨h2,_⟩|⟨h2,_⟩
  ·exact hna.1 h2.symm
  ·exact hna.2 h2.symm
 ·simpa using ht
theorem X3a{ns:List Nd}{a v:Int}(hv:0<=v)(ha:0<=a)(hne:v≠a) : spI (dpN ns a) v=spI ns v:=by
 unfold spI
 rw [X1j]
 unfold dpN
 rw [Qa,List.getElem?_set_ne (by omega),<- Qa]
theorem X2q{d:Dg}(hD:InD d){a v:Int}(hv:v ∈ nearW d.ws a) : v≠a:=by
 obtain ⟨w0,hw0,ho⟩:=X3b.1 hv
 have:=hD.w.l w0 hw0
 rcases X35 ho with ⟨_,h2⟩|⟨_,h2⟩<;>omega
theorem Xc0{ws:List Wr}{u v:Int}(h:(∀ w ∈ ws,w.a≠u/\w.b≠u)∨∀ w ∈ ws,w.a≠v/\w.b≠v) : fdW ws u v<0:=by
 have:fdW ws u v = -1:=Xso fun w hw=>by
  cases hh:isW u v w with
  | false=>rfl
  | true=>
   have h2:=X1w.1 hh
   rcases h with h|h
   ·have:=h w hw;omega
   ·have:=h w hw;omega
 omega
theorem Xnq{d:Dg}(hG:goodD d=true){a u v:Int}(ha:0<=a)(hu:u ∈ nearW d.ws a)(hv:v ∈ nearW d.ws a)(h:(spI (id0 d a).ns u&&spI (id0 d a).ns v)=false) : fdW (id0 d a).ws u v<0:=by
 have hD:=X0e hG
 have ru:=X1i hD hu
 have rv:=X1i hD hv
 have e1:spI (id0 d a).ns u=spI d.ns u:=X3a ru.1 ha (X2q hD hu)
 have e2:spI (id0 d a).ns v=spI d.ns v:=X3a rv.1 ha (X2q hD hv)
 rw [e1,e2,Bool.and_eq_false_iff] at h
 rcases h with h|h
 ·exact Xc0 (.inl (Xbi hG hu h))
 ·exact Xc0 (.inr (Xbi hG hv h))
theorem X8d{ws:List Wr}{k:Int}{j:Nat}(hj:j<(nearW ws k).length) : (nearW ws k).getD j 0 ∈ nearW ws k:=Qe (Xg (d:=0) hj)
theorem Xya{d:Dg}(hD:InD d){a:Int}(h:(!(spI d.ns a)||(d.ns.getD a.toNat nZ).p != 0||cnW d.ws a != 2)=true) : idC d a=false:=by
 rw [X76 hD.w.l] at h
 rw [Bool.or_eq_true] at h
 rcases h with h|h
 ·exact (Xep h).1
 ·exact Xiq h
theorem Xw2{d:Dg}(hD:InD d){a:Int}(h:(!(spI d.ns a)||(d.ns.getD a.toNat nZ).p != 0||cnW d.ws a != 2)=false) : idC d a=true/\(nearW d.ws a).length=2/\0<=a/\a.toNat<d.ns.length:=by
 rw [X76 hD.w.l] at h
 rw [Bool.or_eq_false_iff] at h
 have h1:=Xaw h.1;have h2:=Xhm h1 h.2;have h3:=X0f h1.1;exact ⟨h2.1,h2.2,h3.1,h3.2.1⟩
theorem Xcz(w0:World)(bV B0:Nat)(A0:Option Addr)(c0:Nat)(A1:Option Addr)(c1 m0:Nat)(d:Dg)(a7:Dgm w0 bV B0 A0 c0 A1 c1 m0 d)(aD:B0<=w0.heap.size)(p:Int)(f:Int)(hp:0<=p/\p.toNat<d.ns.length)(a8:PhN d.ns)(aE:-8<=f/\f<=900) : Ret Tryz.prog 201 [(pZ9 bV),vi p,vi f] w0 (fun v w=>∃ A c,TurnS (SB bV [A0,A1]) w0 w/\Us (SB bV [A0,A1]) w0 A/\Dgm w bV B0 A0 c0 A c m0 ({ d with ns:=adN d.ns p f } : Dg)):=by
 obtain ⟨e,b,g,a6⟩:=a7;have aC:=e.lt
 have aA:Us (SB bV [A0,A1]) w0 A0:=SB.us (by simp)
 have aB:Us (SB bV [A0,A1]) w0 A1:=SB.us (by simp)
 have aF:=X1l a8 p.toNat;refine enter Tryz.func201 rfl 25 rfl rfl ?_;intro a hf
 have hW:TurnS (SB bV [A0,A1]) w0 w0:=TurnS.refl _ _
 refine X04 none (fun j=>[19].contains j) mixed ?_;intro w1 hE;have e:=e.bw hE;have b:=b.bw hE;have g:=g.bw hE;have hW:=tsbel hW hE;refine Yb hf<|Yo 0 rfl (fun _=>X3 rfl)<|Yo 1 rfl (fun _=>X08 rfl)<|Yo 2 rfl (fun _=>Vd rfl Xf 1)<|Ye 3 rfl (X0 rfl Xz (e.at 1))<|Yo 4 rfl (fun _=>X3 rfl)<|Yo 5 rfl (fun _=>X3 rfl)<|Yo 6 rfl (fun _=>X08 rfl)<|Yo 7 rfl (fun _=>Vd rfl Xf 1)<|Ye 8 rfl (X0 rfl Xz (e.at 1))<|Yo 9 rfl (fun _=>X3 rfl) ?_;refine Yo 10 rfl (fun _=>Xx (k:=p.toNat) rfl rfl Xm X06 b a6 (by omega) (by omega))<|Yo 11 rfl (fun _=>X0y rfl X07 (m':=p.toNat*2+1) rfl)<|Ye 12 rfl (X0 rfl X9 (X0x b Xv (Xg (d:=nZ) (by omega)) 1 rfl))<|Yo 13 rfl (fun _=>X3 rfl)<|Yo 14 rfl (fun _=>Xs rfl rfl (by omega) (by omega))<|Yo 15 rfl (fun _=>Xs rfl rfl (by omega) (by omega))<|Yo 16 rfl (fun _=>Vx (X3k rfl rfl rfl) (Y4l (by omega)))<|Yo 17 rfl (fun _=>Xx (k:=p.toNat) rfl rfl Xm X06 b a6 (by omega) (by omega))<|Yo 18 rfl (fun _=>X0y rfl X07 (m':=p.toNat*2+1) rfl)<|Y1 19 ?_;refine Yh rfl tv0 rfl (X11 (enc:=encNd) (l:=d.ns) (vs:=[vi (((d.ns.getD p.toNat nZ).p+f) % 8)]) (x0:=(d.ns.getD p.toNat nZ)) (u:=(⟨(d.ns.getD p.toNat nZ).k,(((d.ns.getD p.toNat nZ).p+f) % 8)⟩ : Nd)) (k:=p.toNat) (j:=1) (n1:=1) rfl rfl X0b b Xv rfl rfl rfl rfl (by decide) (Xg (d:=nZ) (by omega)) rfl) ?_;rintro _ w2 ⟨m,hg⟩;have i:=b;have e:=e.appT i hg rfl;have g:=g.appT i hg rfl;have hW:=tsrow hW hg aA
 clear i hg;clear b;have b:=m;clear m;refine Yd fun a hf=>?_;refine X28 hf (X3g rfl) ?_;exact ⟨A1,c1,hW,aB,⟨e,b,g,(a6.trans List.length_set.symm)⟩⟩
theorem Xgw(w0:World)(bV B0:Nat)(A0:Option Addr)(c0:Nat)(A1:Option Addr)(c1 m0:Nat)(d:Dg)(aF:Dgm w0 bV B0 A0 c0 A1 c1 m0 d)(aG:B0<=w0.heap.size)(p:Int)(q:Int)(x:Bool)(aH:WSd d.ws)(hab:fdW d.ws p q<0)(aN:d.ws.length<=90000000) : Ret Tryz.prog 130 [(pZ9 bV),vi p,vi q,.bool x] w0 (fun v w=>∃ A c,TurnS (SB bV [A0,A1]) w0 w/\Us (SB bV [A0,A1]) w0 A/\Dgm w bV B0 A0 c0 A c m0 ({ d with ws:=jnW d.ws p q x } : Dg)):=by
 obtain ⟨b,f,j,aI⟩:=aF;have aL:=b.lt
 have aO:Us (SB bV [A0,A1]) w0 A0:=SB.us (by simp)
 have aA:Us (SB bV [A0,A1]) w0 A1:=SB.us (by simp)
 refine enter Tryz.func130 rfl 30 rfl rfl ?_;intro a hf
 have i:TurnS (SB bV [A0,A1]) w0 w0:=TurnS.refl _ _
 refine Zs hf fun _ aJ=>?_;refine Zm rfl<|Zm rfl<|Ze (X08 rfl)<|Ze (Vd rfl Xl 2)<|Ze (X0 rfl X0d (b.at 2))<|Zm rfl<|Zm rfl<|Ze (Xw9 rfl rfl)<|Zm rfl<|Zm rfl ?_;refine Ze (Xzv rfl rfl)<|Zm rfl<|Ze (X0s (ps:=[(0,vi (min p q)),(1,vi (max p q)),(2,.bool x)]) (cs:=[vi (min p q),vi (max p q),.bool x]) rfl (fun _=>by first|rfl|kernel_rfl))<|Zf (Xn (k:=1) (vs:=[.agg #[vi (min p q),vi (max p q),.bool x]]) (zs:=[vi (min p q),vi (max p q),.bool x]) rfl Xr X0z rfl rfl) ?_;rintro _ w1 ⟨b4,rfl,aB,hE,a6⟩;have aM:=Q0 i.size aB;have m:=j.away aB;have b:=b.bw hE;have f:=f.bw hE;have j:=j.bw hE;have i:=tsbel i hE;refine Zf (X0t (enc:=encWr) (l:=(d.ws)) (l2:=([(⟨min p q,max p q,x⟩ : Wr)])) (B0:=B0) rfl rfl Xr X0z Xy X1p j (Rd.of_blk a6 rfl _ a6.lt) (by simp only [maxLen];simp;omega) (by simp;omega) (Q0 aG i.size)) ?_;rintro _ w2 ⟨A6,c6,rfl,g,o,a7⟩
 have e:Own _ B0 83 3 encWr _ _ (d.ws):=j
 have aE:=a7 _ a6.lt m;have aC:=Us.app aA a7 i.size;clear a7;have b:=b.appT e o rfl;have f:=f.appT e o rfl;have i:=tsrow i o aA;clear e o;refine Ze (X08 rfl)<|Ze (Vd rfl Xl 2)<|Zo (X15 (vs:=[.slice A6 (d.ws++([(⟨min p q,max p q,x⟩ : Wr)])).length c6]) (l':=[vi d.n,.slice A0 m0 c0,.slice A6 (d.ws++([(⟨min p q,max p q,x⟩ : Wr)])).length c6,vi d.t,vi d.r]) rfl rfl X1f b rfl rfl rfl rfl rfl) ?_;rintro _ w3 ⟨ho,hb⟩;have h:=b;have f:=f.oT ho h rfl;have g:=g.oT ho h rfl;have i:=tsonly i ho (.inl (.inl rfl));have b:=hb;refine Zt aJ fun a hf=>?_;refine Zr hf<|Zm rfl<|Ze (X08 rfl)<|Ze (Vd rfl Xl 2)<|Ze (X0 rfl X0d (b.at 2))<|Zf (Vc (Y1f _ B0 A6 c6 (d.ws++([(⟨min p q,max p q,x⟩ : Wr)])) g (by simp;omega)) Xql) ?_;rintro _ w4 ⟨rfl,⟨aK,u,y,B⟩,o⟩;have e:=g;have b:=b.appT e o rfl;have f:=f.appT e o rfl;have i:=tsrow i o aC
 clear e o;clear g;have g:=B;clear B;refine Zn fun a hf=>?_;refine X28 hf (X3g rfl) ?_
 have aD:aK=jnW d.ws p q x:=Xja u y aH (Xwe hab)
 subst aD
 have a8:(d.ws++[(⟨min p q,max p q,x⟩ : Wr)]).length=(jnW d.ws p q x).length:=by rw [X3u,Qh];rfl
 rw [a8] at b
 exact ⟨A6,c6,i,aC,⟨b,f,g,aI⟩⟩
theorem Xiy(w0:World)(bV B0:Nat)(A0:Option Addr)(c0:Nat)(A1:Option Addr)(c1 m0:Nat)(d:Dg)(aC:Dgm w0 bV B0 A0 c0 A1 c1 m0 d)(aD:B0<=w0.heap.size)(p:Int)(q:Int)(aH:d.ws.length<=90000000) : Ret Tryz.prog 131 [(pZ9 bV),vi p,vi q] w0 (fun v w=>∃ A c,TurnS (SB bV [A0,A1]) w0 w/\Us (SB bV [A0,A1]) w0 A/\Dgm w bV B0 A0 c0 A c m0 ({ d with ws:=ctO d.ws p q } : Dg)):=by
 obtain ⟨b,f,e,a6⟩:=aC;have aG:=b.lt
 have aI:Us (SB bV [A0,A1]) w0 A0:=SB.us (by simp)
 have a7:Us (SB bV [A0,A1]) w0 A1:=SB.us (by simp)
 have aA:=Xaf d.ws p q;refine enter Tryz.func131 rfl 26 rfl rfl ?_;intro a k
 have j:TurnS (SB bV [A0,A1]) w0 w0:=TurnS.refl _ _
 refine Zs k fun _ aE=>?_;refine Zm rfl<|Ze (X08 rfl)<|Ze (X03 (l:=[vi d.n,.slice A0 m0 c0,.slice A1 d.ws.length c1,vi d.t,vi d.r]) rfl X2 (b.at 0) rfl)<|Zm rfl<|Zm rfl<|Zf (Vc (Xtf _ d m0 a6 A0 c0 f.rd.top A1 c1 e.rd.top e.cap p q (by omega)) Xf7) ?_;rintro _ w1 ⟨rfl,hE⟩;have b:=b.bw hE;have f:=f.bw hE;have e:=e.bw hE;have j:=tsbel j hE;refine Za rfl<|Zx aE fun a k _ aF=>?_;refine Zm rfl<|Ze (X5h rfl rfl)<|Zt aF fun a k=>?_
 refine Xi k rfl (fun g=>?_) (fun g=>?_)
 ·have aB:=g;have g:=Q2 g;have a8:=Xd9 g;refine Zr k<|Zm rfl<|Zm rfl<|Ze (X08 rfl)<|Ze (Vd rfl Xl 2)<|Ze (X0 rfl X0d (b.at 2))<|Zm rfl<|Zm rfl<|Ze (Xs rfl rfl (by omega) (by omega))<|Zf (Vc (Y1c _ A1 c1 B0 d.ws e (Q0 aD j.size) (fdW d.ws p q) ⟨by omega,aA⟩ (by omega)) Xr4) ?_;rintro _ w2 ⟨rfl,m,hg⟩;have i:=e;have b:=b.appT i hg rfl;have f:=f.appT i hg rfl;have j:=tsrow j hg a7
  clear i hg;clear e;have e:=m;clear m;refine Ze (X08 rfl)<|Ze (Vd rfl Xl 2)<|Zo (X15 (vs:=[.slice A1 (ctW d.ws (fdW d.ws p q).toNat).length c1]) (l':=[vi d.n,.slice A0 m0 c0,.slice A1 (ctW d.ws (fdW d.ws p q).toNat).length c1,vi d.t,vi d.r]) rfl rfl X1f b rfl rfl rfl rfl rfl) ?_;rintro _ w3 ⟨ho,hb⟩;have o:=b;have f:=f.oT ho o rfl;have e:=e.oT ho o rfl;have j:=tsonly j ho (.inl (.inl rfl));have b:=hb;refine Zn fun a k=>?_;refine X28 k (X3g rfl) ?_
  rw [a8]
  exact ⟨A1,c1,j,a7,⟨b,f,e,a6⟩⟩
 have aB:=g;have g:=Q1 g
 have a8:=Xtg (ws:=d.ws) (p:=p) (q:=q) (by have:=g;omega)
 refine Q7<|X28 k (X3g rfl) ?_
 rw [a8]
 exact ⟨A1,c1,j,a7,⟨b,f,e,a6⟩⟩
theorem Y29(w0:World)(x:Wr)(k:Int)(ba:Nat)(d:Blk w0 ba 3 [vi k]) : Ret Tryz.prog 209 [.agg #[vi x.a,vi x.b,.bool x.h],(pZ9 ba)] w0 (fun v w=>v=.bool (x.a==k||x.b==k)/\Below w0.heap.size w0 w):=by
 have a7:=d.lt;refine enter Tryz.func209 rfl 14 rfl rfl ?_;intro a e
 have hW:=bz w0
 refine Zs e fun _ a8=>?_;refine Zf (X0l (zs:=[vi x.a,vi x.b,.bool x.h]) rfl rfl) ?_;rintro _ w1 ⟨b2,rfl,aA,hE,a6⟩;have aC:=Q0 hW.size aA;have d:=d.bw hE;have hW:=btr hW hE;refine Za rfl<|ZX a8 fun a e _ aB=>?_;refine X0a (fun a w=>Fr a 14 [(3,.bool ((x.a==k)||(x.b==k)))]/\w1=w) ?_ ?_
 ·refine Zr e<|Ze (Vd rfl X0p 0)<|Ze (X0 rfl X9 (a6.at 0))<|Ze (X0 rfl X9 (d.at 0))<|Ze (X0k rfl rfl)<|Zm rfl ?_
  refine Zg 8 rfl (fun c=>?_) (fun c=>?_)
  ·(iterate 4 refine Zp (gP c) ?_);refine Ze (X5 rfl c rfl)<|Za rfl ?_;refine Zn fun a e=>?_;exact ⟨e.sub ⟨X1 rfl (by simp [c]),trivial⟩,rfl⟩
  refine Zv (gW c) (Vd rfl X0r 1) ?_;refine Zv (gW c) (X0 rfl X9 (a6.at 1)) ?_;refine Zv (gW c) (X0 rfl X9 (d.at 0)) ?_;refine Zv (gW c) (X0k rfl rfl) ?_;refine Ze (Xb rfl c rfl)<|Za rfl ?_;refine Zn fun a e=>?_;exact ⟨e.sub ⟨X1 rfl (by simp [c]),trivial⟩,rfl⟩
 rintro a _ ⟨e,rfl⟩;refine aB _ _ ?_
 refine Q6 (X6 e (Xp e rfl rfl) ?_)
 exact ⟨rfl,hW⟩
theorem X9v(w0:World)(bV B0:Nat)(A0:Option Addr)(c0:Nat)(A1:Option Addr)(c1 m0:Nat)(d:Dg)(a8:Dgm w0 bV B0 A0 c0 A1 c1 m0 d)(aA:B0<=w0.heap.size)(k:Int)(hk:0<=k/\k.toNat<d.ns.length)(aI:d.ws.length<=90000000) : Ret Tryz.prog 174 [(pZ9 bV),vi k] w0 (fun v w=>∃ A c,TurnS (SB bV [A0,A1]) w0 w/\Us (SB bV [A0,A1]) w0 A/\Dgm w bV B0 A0 c0 A c m0 (id0 d k)):=by
 obtain ⟨e,f,g,a6⟩:=a8;have aG:=e.lt
 have aB:Us (SB bV [A0,A1]) w0 A0:=SB.us (by simp)
 have a7:Us (SB bV [A0,A1]) w0 A1:=SB.us (by simp)
 refine enter Tryz.func174 rfl 20 rfl rfl ?_;intro a hf
 have o:TurnS (SB bV [A0,A1]) w0 w0:=TurnS.refl _ _
 refine Zs hf fun _ aC=>?_;refine Zf (X0l (zs:=[vi k]) rfl rfl) ?_;rintro _ w1 ⟨b4,rfl,aD,q,p⟩;have aH:=Q0 o.size aD;have e:=e.bw q;have f:=f.bw q;have g:=g.bw q;have o:=tsbel o q;refine ZX aC fun a hf _ aE=>?_;refine X04 none (fun j=>[7].contains j) mixed ?_;intro w2 q;have e:=e.bw q;have p:=p.bw q;have f:=f.bw q;have g:=g.bw q;have o:=tsbel o q;refine Yb hf<|Yo 0 rfl (fun _=>X3 rfl)<|Yo 1 rfl (fun _=>X08 rfl)<|Yo 2 rfl (fun _=>Vd rfl Xf 1)<|Ye 3 rfl (X0 rfl Xz (e.at 1))<|Ye 4 rfl (X0 rfl X9 (p.at 0))<|Yo 5 rfl (fun _=>X0s (ps:=[]) (cs:=[vi 0,vi 0]) rfl (fun _=>by first|rfl|kernel_rfl))<|Yo 6 rfl (fun _=>Xx (k:=k.toNat) rfl rfl Xm X06 f a6 (by omega) (by omega))<|Y1 7 ?_;refine Yh rfl tv0 rfl (X11 (enc:=encNd) (l:=d.ns) (vs:=[vi 0,vi 0]) (x0:=(d.ns.getD k.toNat nZ)) (u:=(⟨0,0⟩ : Nd)) (k:=k.toNat) (j:=0) (n1:=2) rfl rfl X06 f Xv rfl rfl rfl rfl (by decide) (Xg (d:=nZ) (by omega)) rfl) ?_;rintro _ w3 ⟨m,y⟩;have i:=f;have e:=e.appT i y rfl;have p:=p.appT i y rfl;have g:=g.appT i y rfl;have o:=tsrow o y aB
 clear i y;clear f;have f:=m;clear m;refine Yd fun a hf=>?_;refine aE _ _<|Zr hf<|Zm rfl<|Zm rfl<|Ze (X08 rfl)<|Ze (Vd rfl Xl 2)<|Ze (X0 rfl X0d (e.at 2))<|Ze (X3p (vs:=[(pZ9 b4)]) rfl)<|Zf (X1k (vs:=[.slice A1 d.ws.length c1,.func (.func 209) #[] #[(pZ9 b4)]]) rfl Xr8 (by have h9:=Xz5 _ A1 c1 B0 d.ws g (Q0 aA o.size) 209 [(pZ9 b4)] Xpd (fun w=>w.a==k||w.b==k) (fun x w' aF=>Y29 w' x k _ (p.appT g aF rfl)) (by omega);rw [Y2m] at h9;exact h9)) ?_;rintro _ w4 ⟨rfl,m,y⟩;have i:=g;have e:=e.appT i y rfl;have f:=f.appT i y rfl;have o:=tsrow o y a7
 clear i y;clear g;have g:=m;clear m;refine Ze (X08 rfl)<|Ze (Vd rfl Xl 2)<|Zo (X15 (vs:=[.slice A1 (dpW d.ws k).length c1]) (l':=[vi d.n,.slice A0 m0 c0,.slice A1 (dpW d.ws k).length c1,vi d.t,vi d.r]) rfl rfl X1f e rfl rfl rfl rfl rfl) ?_;rintro _ w5 ⟨ho,hb⟩;have h:=e;have f:=f.oT ho h rfl;have g:=g.oT ho h rfl;have o:=tsonly o ho (.inl (.inl rfl));have e:=hb;refine Zn fun a hf=>?_;refine X28 hf (X3g rfl) ?_;exact ⟨A1,c1,o,a7,⟨e,f,g,(a6.trans List.length_set.symm)⟩⟩
theorem Xtc(w0:World)(bV B0:Nat)(A0:Option Addr)(c0:Nat)(A1:Option Addr)(c1 H:Nat)(d:Dg)(aN:Dgm w0 bV B0 A0 c0 A1 c1 H d)(aB:B0<=w0.heap.size)(p:Int)(q:Int)(aO:WSd d.ws)(aU:d.ws.length<=80000000) : Ret Tryz.prog 76 [(pZ9 bV),vi p,vi q] w0 (fun v w=>∃ A c,v=.bool (tyW d.ws p q != 1)/\TurnS (SB bV [A0,A1]) w0 w/\Us (SB bV [A0,A1]) w0 A/\Dgm w bV B0 A0 c0 A c H (tgI d p q)):=by
 obtain ⟨b,e,o,G⟩:=aN;have aT:=b.lt
 have aC:Us (SB bV [A0,A1]) w0 A0:=SB.us (by simp)
 have a6:Us (SB bV [A0,A1]) w0 A1:=SB.us (by simp)
 refine enter Tryz.func76 rfl 39 rfl rfl ?_;intro a f
 have g:TurnS (SB bV [A0,A1]) w0 w0:=TurnS.refl _ _
 refine Zs f fun _ aP=>?_;refine Za rfl<|ZX aP fun a f _ aD=>?_;refine Zs f fun _ aQ=>?_;refine Zm rfl<|Ze (X08 rfl)<|Ze (X03 (l:=[vi d.n,.slice A0 H c0,.slice A1 d.ws.length c1,vi d.t,vi d.r]) rfl X2 (b.at 0) rfl)<|Zm rfl<|Zm rfl<|Zf (Vc (X78 _ d H G A0 c0 e.rd.top A1 c1 o.rd.top o.cap p q (by omega)) X3h) ?_;rintro _ w1 ⟨rfl,hE⟩;have b:=b.bw hE;have e:=e.bw hE;have o:=o.bw hE;have g:=tsbel g hE;refine Zt aQ fun a f=>?_;refine Q8<|Zs f fun _ aR=>?_;refine Ze (X0k rfl rfl)<|Za rfl<|Zt aR fun a f=>?_
 refine Xi f rfl (fun y=>?_) (fun y=>?_)
 ·have aE:=y
  have h0:tyW d.ws p q=0:=by simpa using y
  have i:(tyW d.ws p q != 1)=true:=by rw [h0];rfl
  have h:=Y3n h0;refine Zs f fun _ aS=>?_;refine Zm rfl<|Zm rfl<|Zm rfl<|Zf (Vc (Xgw _ bV B0 A0 c0 A1 c1 H d ⟨b,e,o,G⟩ (Q0 aB g.size) p q true aO (Xqk h0) (by omega)) X8a) ?_;rintro _ w2 ⟨A9,c9,B,C,D,j,a7,aF⟩;have u:=SB.lift (S:=SB bV [A0,A1]) (w0:=w0) (.inl (.inl rfl)) (alc aC (alc a6 al0));have C:=Us.trans C u g.size
  have g:=tstr g B u;clear u
  clear B b;have b:=D;clear D
  clear e;have e:=j;clear j;refine Zt aS fun a f=>?_;refine Zr f<|Zm rfl<|Ze (X08 rfl)<|Ze (Vd rfl X00 4)<|Ze (X0 rfl X9 (b.at 4))<|Ze (X2z rfl rfl)<|Ze (X08 rfl)<|Ze (Vd rfl X00 4)<|Zo (X15 (vs:=[vi (wr ((({ d with ws:=jnW d.ws p q true } : Dg).r)+1))]) (l':=[vi (({ d with ws:=jnW d.ws p q true } : Dg).n),.slice A0 H c0,.slice A9 (({ d with ws:=jnW d.ws p q true } : Dg).ws).length c9,vi (({ d with ws:=jnW d.ws p q true } : Dg).t),vi (wr ((({ d with ws:=jnW d.ws p q true } : Dg).r)+1))]) rfl rfl X0b b rfl rfl rfl rfl rfl) ?_;rintro _ w3 ⟨ho,hb⟩;have k:=b;have e:=e.oT ho k rfl;have a7:=a7.oT ho k rfl;have g:=tsonly g ho (.inl (.inl rfl));have b:=hb;refine Zn fun a f=>?_;refine Xa<|aD _ _<|Zs f fun _ aG=>?_;refine Za rfl<|Zt aG fun a f=>?_
  refine Q6 (X6 f (Xp f rfl rfl) ?_)
  rw [i,h]
  exact ⟨A9,c9,rfl,g,C,⟨b,e,a7,aF⟩⟩
 have aE:=y
 have h0:tyW d.ws p q≠0:=by simpa using y
 refine Zs f fun _ aH=>?_;refine Ze (X0k rfl rfl)<|Za rfl<|Zt aH fun a f=>?_
 refine Xi f rfl (fun m=>?_) (fun m=>?_)
 ·have a8:=m
  have h1:tyW d.ws p q=1:=by simpa using m
  have i:(tyW d.ws p q != 1)=false:=by rw [h1];rfl
  have h:=Xze h1;refine Zs f fun _ aI=>?_;refine Za rfl<|Zt aI fun a f=>?_;refine Q6<|Xw<|X8<|X6 f (Xp f rfl rfl) ?_
  rw [i,h]
  exact ⟨A1,c1,rfl,g,a6,⟨b,e,o,G⟩⟩
 have a8:=m
 have h1:tyW d.ws p q≠1:=by simpa using m
 have i:(tyW d.ws p q != 1)=true:=by simpa using h1
 have h:=Xyn h0 h1;refine Zs f fun _ aJ=>?_;refine Zm rfl<|Zm rfl<|Zm rfl<|Zf (Vc (Xiy _ bV B0 A0 c0 A1 c1 H d ⟨b,e,o,G⟩ (Q0 aB g.size) p q (by omega)) Xao) ?_;rintro _ w4 ⟨aK,aL,B,x,D,j,E,aA⟩;have u:=SB.lift (S:=SB bV [A0,A1]) (w0:=w0) (.inl (.inl rfl)) (alc aC (alc a6 al0));have x:=Us.trans x u g.size
 have g:=tstr g B u;clear u
 clear B b;have b:=D;clear D
 clear e;have e:=j;clear j;refine Zt aJ fun a f=>?_;refine Zr f<|Zm rfl<|Ze (X08 rfl)<|Ze (Vd rfl X00 4)<|Ze (X0 rfl X9 (b.at 4))<|Ze (X9m rfl rfl)<|Ze (X08 rfl)<|Ze (Vd rfl X00 4)<|Zo (X15 (vs:=[vi (wr ((({ d with ws:=ctO d.ws p q } : Dg).r)-1))]) (l':=[vi (({ d with ws:=ctO d.ws p q } : Dg).n),.slice A0 H c0,.slice aK (({ d with ws:=ctO d.ws p q } : Dg).ws).length aL,vi (({ d with ws:=ctO d.ws p q } : Dg).t),vi (wr ((({ d with ws:=ctO d.ws p q } : Dg).r)-1))]) rfl rfl X0b b rfl rfl rfl rfl rfl) ?_;rintro _ w5 ⟨ho,hb⟩;have k:=b;have e:=e.oT ho k rfl;have E:=E.oT ho k rfl;have g:=tsonly g ho (.inl (.inl rfl));have b:=hb;refine Zn fun a f=>?_;refine Xa<|aD _ _<|Zs f fun _ aM=>?_;refine Za rfl<|Zt aM fun a f=>?_
 refine Q6 (X6 f (Xp f rfl rfl) ?_)
 rw [i,h]
 exact ⟨aK,aL,rfl,g,x,⟨b,e,E,aA⟩⟩
theorem Xy8(w0:World)(bV B0:Nat)(A0:Option Addr)(c0:Nat)(A1:Option Addr)(c1 J:Nat)(d:Dg)(aT:Dgm w0 bV B0 A0 c0 A1 c1 J d)(L:B0<=w0.heap.size)(p:Int)(q:Int)(x:Bool)(aB:WSd d.ws)(b5:d.ws.length<=80000000)(aU:(0<=p/\p.toNat<d.ns.length)/\(0<=q/\q.toNat<d.ns.length))(aV:PhN d.ns) : Ret Tryz.prog 225 [(pZ9 bV),vi p,vi q,.bool x] w0 (fun v w=>∃ A c,TurnS (SB bV [A0,A1]) w0 w/\Us (SB bV [A0,A1]) w0 A/\Dgm w bV B0 A0 c0 A c J (lkD d p q x)):=by
 obtain ⟨b,e,y,M⟩:=aT;have b4:=b.lt
 have N:Us (SB bV [A0,A1]) w0 A0:=SB.us (by simp)
 have aA:Us (SB bV [A0,A1]) w0 A1:=SB.us (by simp)
 have b6:=Xpi d.ws p q;refine enter Tryz.func225 rfl 67 rfl rfl ?_;intro a i
 have j:TurnS (SB bV [A0,A1]) w0 w0:=TurnS.refl _ _
 refine Zs i fun _ aW=>?_;refine Zm rfl<|Ze (X08 rfl)<|Ze (X03 (l:=[vi d.n,.slice A0 J c0,.slice A1 d.ws.length c1,vi d.t,vi d.r]) rfl X2 (b.at 0) rfl)<|Zm rfl<|Zm rfl<|Zf (Vc (X78 _ d J M A0 c0 e.rd.top A1 c1 y.rd.top y.cap p q (by omega)) X3h) ?_;rintro _ w1 ⟨rfl,hE⟩;have b:=b.bw hE;have e:=e.bw hE;have y:=y.bw hE;have j:=tsbel j hE;refine Za rfl<|Zt aW fun a i=>?_;refine Q8<|Zs i fun _ aX=>?_;refine Zm rfl<|Ze (X0k rfl rfl)<|Za rfl<|Zt aX fun a i=>?_
 refine Xi i rfl (fun Q=>?_) (fun Q=>?_)
 ·have h:=Q
  have h0:tyW d.ws p q=0:=by simpa using Q
  have D:=Xyw (x:=x) h0;refine Zr i<|Zm rfl<|Zm rfl<|Zm rfl<|Zm rfl<|Zf (Vc (Xgw _ bV B0 A0 c0 A1 c1 J d ⟨b,e,y,M⟩ (Q0 L j.size) p q x aB (Xqk h0) (by omega)) X8a) ?_;rintro _ w2 ⟨A6,c6,k,U,m,f,aY,aH⟩;have g:=SB.lift (S:=SB bV [A0,A1]) (w0:=w0) (.inl (.inl rfl)) (alc N (alc aA al0));have U:=Us.trans U g j.size
  have j:=tstr j k g;clear g
  clear k b;have b:=m;clear m
  clear e;have e:=f;clear f;refine Zn fun a i=>?_;refine Xa<|X28 i (X3g rfl) ?_
  rw [D]
  exact ⟨A6,c6,j,U,⟨b,e,aY,aH⟩⟩
 have h:=Q
 have h0:tyW d.ws p q≠0:=by simpa using Q
 refine Q5 fun _ aZ=>?_;refine X0a (fun a w=>Fr a 67 [(0,(pZ9 bV)),(1,vi p),(2,vi q),(3,.bool x),(8,vi (tyW d.ws p q)),(43,.bool (((tyW d.ws p q)==1)&&(!x)))]/\w1=w) ?_ ?_
 ·refine Zr i<|Zm rfl<|Ze (X0k rfl rfl)<|Zm rfl ?_
  refine Zg 46 rfl (fun u=>?_) (fun u=>?_)
  ·refine Zv (gW u) (X3 rfl) ?_;refine Zv (gW u) (X0w rfl) ?_;refine Ze (X5 rfl u rfl)<|Za rfl ?_;refine Zn fun a i=>?_;exact ⟨i.sub ⟨rfl,rfl,rfl,rfl,rfl,X1 rfl (by simp [h,u]),trivial⟩,rfl⟩
  (iterate 2 refine Zp (gP u) ?_);refine Ze (Xb rfl u rfl)<|Za rfl ?_;refine Zn fun a i=>?_;exact ⟨i.sub ⟨rfl,rfl,rfl,rfl,rfl,X1 rfl (by simp [h,u]),trivial⟩,rfl⟩
 rintro a _ ⟨i,rfl⟩;refine aZ _ _ ?_
 refine Xi i rfl (fun W=>?_) (fun W=>?_)
 ·have a6:=W;have D:=Y2l W;refine Q7<|Xa<|X28 i (X3g rfl) ?_
  rw [D]
  exact ⟨A1,c1,j,aA,⟨b,e,y,M⟩⟩
 have a6:=W;have h1:=W;refine Q5 fun _ aI=>?_;refine X0a (fun a w=>Fr a 67 [(0,(pZ9 bV)),(1,vi p),(2,vi q),(50,.bool (((tyW d.ws p q)==2)&&x))]/\w1=w) ?_ ?_
 ·refine Zr i<|Zm rfl<|Ze (X0k rfl rfl)<|Zm rfl ?_
  refine Zg 53 rfl (fun o=>?_) (fun o=>?_)
  ·refine Zv (gW o) (X3 rfl) ?_;refine Ze (X5 rfl o rfl)<|Za rfl ?_;refine Zn fun a i=>?_;exact ⟨i.sub ⟨rfl,rfl,rfl,X1 rfl (by simp [h,a6,o]),trivial⟩,rfl⟩
  refine Zp (gP o) ?_;refine Ze (Xb rfl o rfl)<|Za rfl ?_;refine Zn fun a i=>?_;exact ⟨i.sub ⟨rfl,rfl,rfl,X1 rfl (by simp [h,a6,o]),trivial⟩,rfl⟩
 rintro a _ ⟨i,rfl⟩;refine aI _ _ ?_
 refine Xi i rfl (fun B=>?_) (fun B=>?_)
 ·have aC:=B;have D:=Y3c B;refine Zs i fun _ aJ=>?_;refine Zm rfl<|Zm rfl<|Zm rfl<|Zf (Vc (Xiy _ bV B0 A0 c0 A1 c1 J d ⟨b,e,y,M⟩ (Q0 L j.size) p q (by omega)) Xao) ?_;rintro _ w3 ⟨aK,aL,k,E,m,f,a7,aD⟩;have g:=SB.lift (S:=SB bV [A0,A1]) (w0:=w0) (.inl (.inl rfl)) (alc N (alc aA al0));have E:=Us.trans E g j.size
  have j:=tstr j k g;clear g
  clear k b;have b:=m;clear m
  clear e;have e:=f;clear f;refine Zt aJ fun a i=>?_;refine Zr i<|Zm rfl<|Ze (X08 rfl)<|Ze (Vd rfl X00 4)<|Ze (X0 rfl X9 (b.at 4))<|Ze (X9m rfl rfl)<|Ze (X08 rfl)<|Ze (Vd rfl X00 4)<|Zo (X15 (vs:=[vi (wr ((({ d with ws:=ctO d.ws p q } : Dg).r)-2))]) (l':=[vi (({ d with ws:=ctO d.ws p q } : Dg).n),.slice A0 J c0,.slice aK (({ d with ws:=ctO d.ws p q } : Dg).ws).length aL,vi (({ d with ws:=ctO d.ws p q } : Dg).t),vi (wr ((({ d with ws:=ctO d.ws p q } : Dg).r)-2))]) rfl rfl X0b b rfl rfl rfl rfl rfl) ?_;rintro _ w4 ⟨ho,hb⟩;have C:=b;have e:=e.oT ho C rfl;have a7:=a7.oT ho C rfl;have j:=tsonly j ho (.inl (.inl rfl));have b:=hb;refine Zn fun a i=>?_;refine Xa<|X28 i (X3g rfl) ?_
  rw [D]
  exact ⟨aK,aL,j,E,⟨b,e,a7,aD⟩⟩
 have aC:=B;have D:=Xzu h0 h1 B;refine Zs i fun _ aM=>?_;refine Zm rfl<|Zm rfl<|Zm rfl<|Zf (Vc (Xiy _ bV B0 A0 c0 A1 c1 J d ⟨b,e,y,M⟩ (Q0 L j.size) p q (by omega)) Xao) ?_;rintro _ w5 ⟨b0,b1,k,G,m,f,aN,aE⟩;have g:=SB.lift (S:=SB bV [A0,A1]) (w0:=w0) (.inl (.inl rfl)) (alc N (alc aA al0));have G:=Us.trans G g j.size
 have j:=tstr j k g;clear g
 clear k b;have b:=m;clear m
 clear e;have e:=f;clear f;refine Zx aM fun a i _ aO=>?_;refine Zm rfl<|Zm rfl<|Zm rfl<|Zf (Vc (Xgw _ bV B0 A0 c0 b0 b1 J ({ d with ws:=ctO d.ws p q } : Dg) ⟨b,e,aN,aE⟩ (Q0 L j.size) p q false (Xy2 aB p q) (Xus aB) (by dsimp only;omega)) X8a) ?_;rintro _ w6 ⟨b2,b3,k,H,m,f,aP,aF⟩;have g:=SB.lift (S:=SB bV [A0,A1]) (w0:=w0) (.inl (.inl rfl)) (alc N (alc G al0));have H:=Us.trans H g j.size
 have j:=tstr j k g;clear g
 clear k b;have b:=m;clear m
 clear e;have e:=f;clear f;refine Zx aO fun a i _ aQ=>?_;refine Zm rfl<|Zm rfl<|Zm rfl<|Ze (Xw9 rfl rfl)<|Zf (Vc (Xcz _ bV B0 A0 c0 b2 b3 J ({ ({ d with ws:=ctO d.ws p q } : Dg) with ws:=jnW ({ d with ws:=ctO d.ws p q } : Dg).ws p q false } : Dg) ⟨b,e,aP,aF⟩ (Q0 L j.size) (min p q) 4 (Xlw aU) aV ⟨by decide,by decide⟩) X7j) ?_;rintro _ w7 ⟨aR,aS,k,I,m,f,a8,aG⟩;have g:=SB.lift (S:=SB bV [A0,A1]) (w0:=w0) (.inl (.inl rfl)) (alc N (alc H al0));have I:=Us.trans I g j.size
 have j:=tstr j k g;clear g
 clear k b;have b:=m;clear m
 clear e;have e:=f;clear f;refine Zt aQ fun a i=>?_;refine Zr i<|Zm rfl<|Ze (X08 rfl)<|Ze (Vd rfl X00 4)<|Ze (X0 rfl X9 (b.at 4))<|Ze (X9m rfl rfl)<|Ze (X08 rfl)<|Ze (Vd rfl X00 4)<|Zo (X15 (vs:=[vi (wr ((({ ({ ({ d with ws:=ctO d.ws p q } : Dg) with ws:=jnW ({ d with ws:=ctO d.ws p q } : Dg).ws p q false } : Dg) with ns:=adN ({ ({ d with ws:=ctO d.ws p q } : Dg) with ws:=jnW ({ d with ws:=ctO d.ws p q } : Dg).ws p q false } : Dg).ns (min p q) 4 } : Dg).r)-1))]) (l':=[vi (({ ({ ({ d with ws:=ctO d.ws p q } : Dg) with ws:=jnW ({ d with ws:=ctO d.ws p q } : Dg).ws p q false } : Dg) with ns:=adN ({ ({ d with ws:=ctO d.ws p q } : Dg) with ws:=jnW ({ d with ws:=ctO d.ws p q } : Dg).ws p q false } : Dg).ns (min p q) 4 } : Dg).n),.slice A0 J c0,.slice aR (({ ({ ({ d with ws:=ctO d.ws p q } : Dg) with ws:=jnW ({ d with ws:=ctO d.ws p q } : Dg).ws p q false } : Dg) with ns:=adN ({ ({ d with ws:=ctO d.ws p q } : Dg) with ws:=jnW ({ d with ws:=ctO d.ws p q } : Dg).ws p q false } : Dg).ns (min p q) 4 } : Dg).ws).length aS,vi (({ ({ ({ d with ws:=ctO d.ws p q } : Dg) with ws:=jnW ({ d with ws:=ctO d.ws p q } : Dg).ws p q false } : Dg) with ns:=adN ({ ({ d with ws:=ctO d.ws p q } : Dg) with ws:=jnW ({ d with ws:=ctO d.ws p q } : Dg).ws p q false } : Dg).ns (min p q) 4 } : Dg).t),vi (wr ((({ ({ ({ d with ws:=ctO d.ws p q } : Dg) with ws:=jnW ({ d with ws:=ctO d.ws p q } : Dg).ws p q false } : Dg) with ns:=adN ({ ({ d with ws:=ctO d.ws p q } : Dg) with ws:=jnW ({ d with ws:=ctO d.ws p q } : Dg).ws p q false } : Dg).ns (min p q) 4 } : Dg).r)-1))]) rfl rfl X0b b rfl rfl rfl rfl rfl) ?_;rintro _ w8 ⟨ho,hb⟩;have C:=b;have e:=e.oT ho C rfl;have a8:=a8.oT ho C rfl;have j:=tsonly j ho (.inl (.inl rfl));have b:=hb;refine Zn fun a i=>?_;refine Xa<|X28 i (X3g rfl) ?_
 rw [D]
 exact ⟨aR,aS,j,I,⟨b,e,a8,aG⟩⟩
theorem Xtl(w0:World)(bV B0:Nat)(A0:Option Addr)(c0:Nat)(A1:Option Addr)(c1 G:Nat)(d:Dg)(aH:Dgm w0 bV B0 A0 c0 A1 c1 G d)(a8:B0<=w0.heap.size)(p:Int)(q:Int)(x:Bool)(aA:WSd d.ws)(aI:d.ws.length<=80000000)(aJ:(0<=p/\p.toNat<d.ns.length)/\(0<=q/\q.toNat<d.ns.length))(aK:PhN d.ns)(hN:G<=1000)(hab:(spI d.ns p&&spI d.ns q)=false->fdW d.ws p q<0) : Ret Tryz.prog 202 [(pZ9 bV),vi p,vi q,.bool x] w0 (fun v w=>∃ A c,TurnS (SB bV [A0,A1]) w0 w/\Us (SB bV [A0,A1]) w0 A/\Dgm w bV B0 A0 c0 A c G (mtD d p q x)):=by
 obtain ⟨b,f,g,H⟩:=aH;have aO:=b.lt
 have aB:Us (SB bV [A0,A1]) w0 A0:=SB.us (by simp)
 have aC:Us (SB bV [A0,A1]) w0 A1:=SB.us (by simp)
 refine enter Tryz.func202 rfl 30 rfl rfl ?_;intro a m
 have j:TurnS (SB bV [A0,A1]) w0 w0:=TurnS.refl _ _
 refine Q5 fun _ aL=>?_;refine X0a (fun a w=>Fr a 30 [(0,(pZ9 bV)),(1,vi p),(2,vi q),(3,.bool x),(19,.bool ((spI d.ns p)&&(spI d.ns q)))]/\Below w0.heap.size w0 w) ?_ ?_
 ·have o:=bz w0
  refine Zr m<|Zm rfl<|Ze (X08 rfl)<|Ze (X03 (l:=[vi d.n,.slice A0 G c0,.slice A1 d.ws.length c1,vi d.t,vi d.r]) rfl X2 (b.at 0) rfl)<|Zm rfl<|Zf (Vc (X52 _ d G H A0 c0 f.rd.top A1 c1 g.rd.top g.cap p hN) X2h) ?_;rintro _ w1 ⟨rfl,u⟩;have b:=b.bw u;have f:=f.bw u;have g:=g.bw u;have j:=tsbel j u;have o:=btr o u;refine Zm rfl ?_
  refine Zg 13 rfl (fun e=>?_) (fun e=>?_)
  ·refine Zv (gW e) (X3 rfl) ?_;refine Zv (gW e) (X08 rfl) ?_;refine Zv (gW e) (X03 (l:=[vi d.n,.slice A0 G c0,.slice A1 d.ws.length c1,vi d.t,vi d.r]) rfl X2 (b.at 0) rfl) ?_;refine Zv (gW e) (X3 rfl) ?_;refine Zk (gW e) (Vc (X52 _ d G H A0 c0 f.rd.top A1 c1 g.rd.top g.cap q hN) X2h) ?_;rintro _ w2 ⟨rfl,u⟩;have j:=tsbel j u;have o:=btr o u;refine Ze (X5 rfl e rfl) ?_;refine Zn fun a m=>?_
   have a6:Below w0.heap.size w0 w2:=o
   exact ⟨m.sub ⟨rfl,rfl,rfl,rfl,X1 rfl (by simp [e]),trivial⟩,a6⟩
  (iterate 5 refine Zp (gP e) ?_);refine Ze (Xb rfl e rfl) ?_;refine Zn fun a m=>?_
  have a6:Below w0.heap.size w0 w1:=o
  exact ⟨m.sub ⟨rfl,rfl,rfl,rfl,X1 rfl (by simp [e]),trivial⟩,a6⟩
 rintro a w3 ⟨m,u⟩;have b:=b.bw u;have f:=f.bw u;have g:=g.bw u;have j:=tsbel j u;refine aL _ _ ?_
 refine Xi m rfl (fun y=>?_) (fun y=>?_)
 ·have aD:=y;have a7:=Xz2 (h:=x) y;refine Zr m<|Zm rfl<|Zm rfl<|Zm rfl<|Zm rfl<|Zf (Vc (Xy8 _ bV B0 A0 c0 A1 c1 G d ⟨b,f,g,H⟩ (Q0 a8 j.size) p q x aA aI aJ aK) Xq5) ?_;rintro _ w4 ⟨A6,c6,B,C,D,i,aM,aE⟩;have k:=SB.lift (S:=SB bV [A0,A1]) (w0:=w0) (.inl (.inl rfl)) (alc aB (alc aC al0));have C:=Us.trans C k j.size
  have j:=tstr j B k;clear k
  clear B b;have b:=D;clear D
  clear f;have f:=i;clear i;refine Zn fun a m=>?_;refine X28 m (X3g rfl) ?_
  rw [a7]
  exact ⟨A6,c6,j,C,⟨b,f,aM,aE⟩⟩
 have aD:=y;have aF:=y;have a7:=Y03 (h:=x) aF;refine Zr m<|Zm rfl<|Zm rfl<|Zm rfl<|Zm rfl<|Zf (Vc (Xgw _ bV B0 A0 c0 A1 c1 G d ⟨b,f,g,H⟩ (Q0 a8 j.size) p q x aA (hab aF) (by omega)) X8a) ?_;rintro _ w5 ⟨A7,c7,B,E,D,i,aN,aG⟩;have k:=SB.lift (S:=SB bV [A0,A1]) (w0:=w0) (.inl (.inl rfl)) (alc aB (alc aC al0));have E:=Us.trans E k j.size
 have j:=tstr j B k;clear k
 clear B b;have b:=D;clear D
 clear f;have f:=i;clear i;refine Zn fun a m=>?_;refine X28 m (X3g rfl) ?_
 rw [a7]
 exact ⟨A7,c7,j,E,⟨b,f,aN,aG⟩⟩
theorem Y3e(w0:World)(bV B0:Nat)(A0:Option Addr)(c0:Nat)(A1:Option Addr)(c1 H:Nat)(d:Dg)(aN:Dgm w0 bV B0 A0 c0 A1 c1 H d)(aA:B0<=w0.heap.size)(p:Int)(hG:goodD d=true) : Ret Tryz.prog 171 [(pZ9 bV),vi p] w0 (fun v w=>∃ A c,v=.bool (idC d p)/\TurnS (SB bV [A0,A1]) w0 w/\Us (SB bV [A0,A1]) w0 A/\Dgm w bV B0 A0 c0 A c H (if idC d p=true then idD d p else d)):=by
 obtain ⟨e,f,i,y⟩:=aN;have aY:=e.lt
 have aB:Us (SB bV [A0,A1]) w0 A0:=SB.us (by simp)
 have aC:Us (SB bV [A0,A1]) w0 A1:=SB.us (by simp)
 have N:=X0e hG;have aZ:=N.m;have b0:=N.len;have b1:=X2b d.ws p;refine enter Tryz.func171 rfl 66 rfl rfl ?_;intro a u
 have x:TurnS (SB bV [A0,A1]) w0 w0:=TurnS.refl _ _
 refine Zs u fun _ aO=>?_;refine Za rfl<|ZX aO fun a u _ aP=>?_;refine Q5 fun _ aQ=>?_;refine X0a (fun a w=>Fr a 66 [(0,(pZ9 bV)),(1,vi p),(31,.bool (((!(spI d.ns p))||(((d.ns.getD p.toNat nZ).p) != 0))||((cnW d.ws p) != 2)))]/\Below w0.heap.size w0 w) ?_ ?_
 ·have B:=bz w0
  refine Zr u<|Zm rfl<|Ze (X08 rfl)<|Ze (X03 (l:=[vi d.n,.slice A0 H c0,.slice A1 d.ws.length c1,vi d.t,vi d.r]) rfl X2 (e.at 0) rfl)<|Zm rfl<|Zf (Vc (X52 _ d H y A0 c0 f.rd.top A1 c1 i.rd.top i.cap p (by omega)) X2h) ?_;rintro _ w1 ⟨rfl,o⟩;have e:=e.bw o;have f:=f.bw o;have i:=i.bw o;have x:=tsbel x o;have B:=btr B o;refine Ze (X0w rfl)<|Zm rfl ?_
  refine Zg 13 rfl (fun g=>?_) (fun g=>?_)
  ·(iterate 9 refine Zp (gP g) ?_);refine Ze (X5 rfl g rfl)<|Zm rfl<|Zp (gP rfl) ?_;(iterate 5 refine Zp (gP rfl) ?_);refine Ze (X5 rfl rfl rfl) ?_;refine Zn fun a u=>?_
   have J:Below w0.heap.size w0 w1:=B
   exact ⟨u.sub ⟨rfl,rfl,X1 rfl (by simp [g]),trivial⟩,J⟩
  have a6:0<=p/\p.toNat<d.ns.length:=by have h9:=X0f (ns:=d.ns) (k:=p) (by simpa using g);exact ⟨h9.1,h9.2.1⟩
  refine Zv (gW g) (X3 rfl) ?_;refine Zv (gW g) (X08 rfl) ?_;refine Zv (gW g) (Vd rfl Xf 1) ?_;refine Zv (gW g) (X0 rfl Xz (e.at 1)) ?_;refine Zv (gW g) (X3 rfl) ?_;refine Zv (gW g) (Xx (k:=p.toNat) rfl rfl Xm X06 f y (by omega) (by omega)) ?_;refine Zv (gW g) (X0y rfl X07 (m':=p.toNat*2+1) rfl) ?_;refine Zv (gW g) (X0 rfl X9 (X0x f Xv (Xg (d:=nZ) (by omega)) 1 rfl)) ?_;refine Zv (gW g) (X1e rfl rfl) ?_;refine Ze (Xb rfl g rfl)<|Zm rfl ?_
  refine Zg 24 rfl (fun q=>?_) (fun q=>?_)
  ·(iterate 6 refine Zp (gP q) ?_);refine Ze (X5 rfl q rfl) ?_;refine Zn fun a u=>?_
   have J:Below w0.heap.size w0 w1:=B
   exact ⟨u.sub ⟨rfl,rfl,X1 rfl (by first|rfl|(simp only [g,q,bs];done)|simp [g,q]),trivial⟩,J⟩
  refine Zv (gW q) (X3 rfl) ?_;refine Zv (gW q) (X08 rfl) ?_;refine Zv (gW q) (X03 (l:=[vi d.n,.slice A0 H c0,.slice A1 d.ws.length c1,vi d.t,vi d.r]) rfl X2 (e.at 0) rfl) ?_;refine Zv (gW q) (X3 rfl) ?_;refine Zk (gW q) (Vc (X8l _ d H y A0 c0 f.rd.top A1 c1 i.rd.top i.cap p (by omega)) X50) ?_;rintro _ w2 ⟨rfl,o⟩;have x:=tsbel x o;have B:=btr B o;refine Zv (gW q) (X1e rfl rfl) ?_;refine Ze (Xb rfl q rfl) ?_;refine Zn fun a u=>?_
  have J:Below w0.heap.size w0 w2:=B
  exact ⟨u.sub ⟨rfl,rfl,X1 rfl (by first|rfl|(simp only [g,q,bs];done)|simp [g,q]),trivial⟩,J⟩
 rintro a w3 ⟨u,o⟩;have e:=e.bw o;have f:=f.bw o;have i:=i.bw o;have x:=tsbel x o;refine aQ _ _ ?_
 refine Xi u rfl (fun L=>?_) (fun L=>?_)
 ·have aD:=L;have aR:=Xya N L;refine Zs u fun _ aS=>?_;refine Za rfl<|Zt aS fun a u=>?_;refine Q6<|X8<|X6 u (Xp u rfl rfl) ?_
  rw [aR,Q3 Bool.false_ne_true]
  exact ⟨A1,c1,rfl,x,aC,⟨e,f,i,y⟩⟩
 have aD:=L;obtain ⟨aT,b2,a6⟩:=Xw2 N L
 have aE:=X8j N (k:=p) (j:=0) (by omega)
 have aF:=X8j N (k:=p) (j:=1) (by omega)
 have aG:(id0 d p).ns.length=d.ns.length:=X1j _ _
 refine Q7<|aP _ _<|Zs u fun _ aH=>?_;refine Zm rfl<|Ze (X08 rfl)<|Ze (X03 (l:=[vi d.n,.slice A0 H c0,.slice A1 d.ws.length c1,vi d.t,vi d.r]) rfl X2 (e.at 0) rfl)<|Zm rfl<|Zf (Vc (Xa1 _ d H y A0 c0 f.rd.top A1 c1 i.rd.top i.cap p N.w (by omega)) X5j) ?_;rintro _ w4 ⟨b3,b4,rfl,b,o⟩;have b:=b.lower x.size;have e:=e.bw o;have f:=f.bw o;have i:=i.bw o;have x:=tsbel x o;refine Za rfl<|ZX aH fun a u _ aI=>?_;refine X04 none (fun _=>false) mixed ?_;intro w5 o;have e:=e.bw o;have f:=f.bw o;have i:=i.bw o;have b:=b.bw o;have x:=tsbel x o;refine Yb u<|Yo 0 rfl (fun _=>X3 rfl)<|Yo 1 rfl (fun _=>X08 rfl)<|Ye 2 rfl (X03 (l:=[vi d.n,.slice A0 H c0,.slice A1 d.ws.length c1,vi d.t,vi d.r]) rfl X2 (e.at 0) rfl)<|Yo 3 rfl (fun _=>X3 rfl)<|Yo 4 rfl (fun _=>X3 rfl)<|Yo 5 rfl (fun _=>Xx (k:=0) rfl rfl Xj X0b b rfl rfl (by omega))<|Ye 6 rfl (X0 rfl X9 (X0x b Xd (Xg (k:=0) (d:=(0:Int)) (by omega)) 0 rfl))<|Yo 8 rfl (fun _=>X3 rfl)<|Yo 9 rfl (fun _=>X08 rfl)<|Ye 10 rfl (X03 (l:=[vi d.n,.slice A0 H c0,.slice A1 d.ws.length c1,vi d.t,vi d.r]) rfl X2 (e.at 0) rfl) ?_;refine Yo 11 rfl (fun _=>X3 rfl)<|Yo 12 rfl (fun _=>X3 rfl)<|Yo 13 rfl (fun _=>Xx (k:=1) rfl rfl Xj X0b b rfl rfl (by omega))<|Ye 14 rfl (X0 rfl X9 (X0x b Xd (Xg (k:=1) (d:=(0:Int)) (by omega)) 0 rfl))<|Y1 7 ?_;refine Yk rfl tv0 (Vc (X78 _ d H y A0 c0 f.rd.top A1 c1 i.rd.top i.cap p ((nearW d.ws p).getD 0 0) (by omega)) X3h) (fun _ _ ⟨_,o⟩=>o) ?_;rintro _ w6 ⟨rfl,o⟩;have e:=e.bw o;have f:=f.bw o;have i:=i.bw o
 have b:=b.bw o;have x:=tsbel x o;refine Y1 15<|Yk rfl tv0 (Vc (X78 _ d H y A0 c0 f.rd.top A1 c1 i.rd.top i.cap p ((nearW d.ws p).getD 1 0) (by omega)) X3h) (fun _ _ ⟨_,o⟩=>o) ?_;rintro _ w7 ⟨rfl,o⟩;have e:=e.bw o;have f:=f.bw o;have i:=i.bw o;have b:=b.bw o;have x:=tsbel x o;refine Yo 16 rfl (fun _=>X1e rfl rfl)<|Yo 17 rfl (fun _=>X0u rfl) ?_;refine Yd fun a u=>?_;refine aI _ _<|Zs u fun _ aJ=>?_;refine Zm rfl<|Zm rfl<|Zf (Vc (X9v _ bV B0 A0 c0 A1 c1 H d ⟨e,f,i,y⟩ (Q0 aA x.size) p a6 (by omega)) X5v) ?_;rintro _ w8 ⟨aU,aV,C,D,M,h,I,a7⟩;have b:=b.tu C e rfl (alc (X0v f rfl) (alc (X0v i rfl) al0));have E:=SB.lift (S:=SB bV [A0,A1]) (w0:=w0) (.inl (.inl rfl)) (alc aB (alc aC al0));have D:=Us.trans D E x.size
 have x:=tstr x C E;clear E
 clear C e;have e:=M;clear M
 clear f;have f:=h;clear h;refine ZX aJ fun a u _ aK=>?_;refine X04 none (fun j=>[8].contains j) mixed ?_;intro w9 o;have e:=e.bw o;have f:=f.bw o;have b:=b.bw o;have I:=I.bw o;have x:=tsbel x o;refine Yb u<|Yo 0 rfl (fun _=>X3 rfl)<|Yo 1 rfl (fun _=>X3 rfl)<|Yo 2 rfl (fun _=>Xx (k:=0) rfl rfl Xj X0b b rfl rfl (by omega))<|Ye 3 rfl (X0 rfl X9 (X0x b Xd (Xg (k:=0) (d:=(0:Int)) (by omega)) 0 rfl))<|Yo 4 rfl (fun _=>X3 rfl)<|Yo 5 rfl (fun _=>Xx (k:=1) rfl rfl Xj X0b b rfl rfl (by omega))<|Ye 6 rfl (X0 rfl X9 (X0x b Xd (Xg (k:=1) (d:=(0:Int)) (by omega)) 0 rfl))<|Yo 7 rfl (fun _=>X3 rfl)<|Y1 8 ?_;refine Yt rfl tv0 rfl (Vc (Xtl _ bV B0 A0 c0 aU aV H (id0 d p) ⟨e,f,I,a7⟩ (Q0 aA x.size) ((nearW d.ws p).getD 0 0) ((nearW d.ws p).getD 1 0) ((tyW d.ws p ((nearW d.ws p).getD 0 0)) != (tyW d.ws p ((nearW d.ws p).getD 1 0))) (List.Pairwise.filter _ N.w.s) (by show (dpW d.ws p).length<=_;omega) ⟨⟨aE.1,by rw [aG];exact aE.2⟩,⟨aF.1,by rw [aG];exact aF.2⟩⟩ (X55 N.p p) (by omega) (Xnq hG a6.1 (X8d (by omega)) (X8d (by omega)))) Xgo) ?_;rintro _ b5 ⟨aW,aX,C,G,M,h,aL,a8⟩;have b:=b.tu C e rfl (alc (X0v f rfl) (alc (X0v I rfl) al0));have E:=SB.lift (S:=SB bV [A0,A1]) (w0:=w0) (.inl (.inl rfl)) (alc aB (alc D al0));have G:=Us.trans G E x.size
 have x:=tstr x C E;clear E
 clear C e;have e:=M;clear M
 clear f;have f:=h;clear h;refine Yd fun a u=>?_;refine aK _ _<|Zs u fun _ aM=>?_;refine Za rfl<|Zt aM fun a u=>?_
 refine Q6 (X6 u (Xp u rfl rfl) ?_)
 rw [aT,Q4 rfl]
 exact ⟨aW,aX,rfl,x,G,⟨e,f,aL,a8⟩⟩
end Go.Proofs.YtpifljegadknkaaGreat
