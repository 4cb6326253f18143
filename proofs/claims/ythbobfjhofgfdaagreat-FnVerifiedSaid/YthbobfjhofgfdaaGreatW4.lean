/-
  For all drawn circuits, circuits that are verified by rewriting have the same operator up to a phase, and simplification does not increase the T-count. Conditions: none.
-/
import Derived.Test.YthbobfjhofgfdaaGreatW3
import Derived.Test.YthbobfjhofgfdaaGreatW2
import Derived.Test.YthbobfjhofgfdaaGreatW1
set_option linter.unusedVariables false
set_option linter.defProp false
set_option linter.unusedSimpArgs false
set_option maxRecDepth 4000
set_option linter.unusedSectionVars false
namespace Go.Proofs.YthbobfjhofgfdaaGreat
open Go.RowKit Go.Proofs.Tryz
def Xoi(x:World)(d:Dg)(md:Nat)(aP:md=d.ns.length)(Ad:Option Addr)(cd:Nat)(aQ:Rw x 85 encNd Ad d.ns)(Bd:Option Addr)(dd:Nat)(a8:Rw x 99 encWr Bd d.ws)(i:d.ws.length<=dd)(p:Int)(aT:d.ws.length<=1000000000):RE 119 [.agg #[vi d.n,.slice Ad md cd,.slice Bd d.ws.length dd,vi d.t,vi d.r],vi p] x (fun v w=>v=vi (cnW d.ws p)/\Bl x w):=by
 refine enter func119 O 29 O O ?_;intro a f
 have j:=bz x
 refine ZS f fun aG=>Zf (X0n (zs:=(Zc4 d Ad md cd Bd dd)) O O) ?_;rintro _ w1 ⟨b4,rfl,aH,hE,aI⟩;have aR:=Q0 j.size aH;have j:=btr j hE;refine Za O<|Zx aG fun a f _ aJ=>Za O<|ZX aJ fun a f _ aK=>ZS f fun aL=>Ze (Vd O X02 2)<|Ze (X0 O X1f (aI.at 2))<|Ze (X0w O X0a)<|Zm O<|Zt aL fun a f=>Q8<|X04 (σ:=Nat×Int) (fun (s:Nat×Int) (a:Act) (w:World)=>match s with|(k,c)=>Fr a 29 [(1,vi p),(5,vi c),(9,.slice Bd d.ws.length dd),(10,vi (d.ws.length:Int)),(11,vi (k:Int))]/\(k<=d.ws.length)/\(c=cnW (d.ws.take k) p)/\d.ws.length<=dd/\Bl x w) (fun (s:Nat×Int)=>match s with|(k,c)=>d.ws.length-k) (0,0) ?_ ?_
 ·exact ⟨f.sb,(Qf _),O,i,j⟩
 rintro ⟨k,c⟩ a w2 ⟨f,hk,hc,i,j⟩;have aA:=Xk9 d.ws p k
 rw[<- hc] at aA
 refine ZS f fun aM=>Ze (X16 O O)<|ZX aM fun a f _ aN=>X0y f O (fun g m=>?_) (fun g m=>?_)
 ·obtain ⟨aU,aS⟩:=Xa (l:=d.ws) (k:=k) Z
  obtain ⟨y,a6⟩:=Xa (l:=d.ws) (k:=k) (by have:=m;omega)
  have aA:=Xk9 d.ws p k;refine Q7<|aN _ _<|Q5 fun _ A=>Q8<|ZS f fun aB=>Zi (k:=k) (u:=y) (enc:=encWr) (l:=d.ws) tv0 O O X0a X14 X0d (a8.bx j) a6 O ?_;intro aV a7;refine Ze (X07 (l:=[vi y.a,vi y.b,.bool y.h]) O X23 a7 O)<|ZB [vi y.a,vi y.b,.bool y.h] X4a X14 fun aW w4 aC hE B=>?_;have aO:=Q0 j.size aC;have j:=btr j hE;refine ZX aB fun a f _ aD=>X0i (fun a w=>Fr a 29 [(1,vi p),(5,vi c),(9,.slice Bd d.ws.length dd),(10,vi (d.ws.length:Int)),(11,vi (k:Int)),(24,.bool ((y.a==p)||(y.b==p)))]/\w4=w) ?_ ?_
  ·refine Zr f<|Ze (Vd O X1l 0)<|Ze (X0 O X8 (B.at 0))<|Zm O<|Ze (X0l O O)<|Zm O<|Zg 19 O ?_ ?_<;>intro e
   ·(iterate 4 refine Zp (gP e) ?_);exact Ze (Xc O e O)<|Zn fun a f=>⟨f.sub ⟨O,O,O,O,O,X1 O (by simp[g,e]),trivial⟩,O⟩
   refine Zv (gW e) (Vd O X1p 1) ?_;refine Zv (gW e) (X0 O X8 (B.at 1)) ?_;refine Zv (gW e) (X5 O) ?_;refine Zv (gW e) (X0l O O) ?_;refine Ze (Xi O e O) ?_;exact Zn fun a f=>⟨f.sub ⟨O,O,O,O,O,X1 O (by first|rfl|(simp only[g,e,bs];done)|simp[g,e]),trivial⟩,O⟩
  rintro a _ ⟨f,rfl⟩;refine aD _ _<|Xx f O ?_ ?_<;>intro o
  ·have q:=Y9e a6 o
   rw[<- hc] at q
   exact Zr f<|Zm O<|Ze (Xr O O Z Z)<|Za O<|Zn fun a f=>Xd<|A _ _<|Zr f<|Ze (Xr O O Z Z)<|Zm O<|Zn fun a f=>Xh<|⟨(k+1,c+1),⟨f.sb,Z,(by rw[q]),i,j⟩,O1⟩
  have q:=Y9d a6 o
  rw[<- hc] at q
  exact Q7<|Xd<|A _ _<|Zr f<|Ze (Xr O O Z Z)<|Zm O<|Zn fun a f=>Xh<|⟨(k+1,c),⟨f.sb,Z,(by rw[q]),i,j⟩,O1⟩
 have aE:c=cnW d.ws p:=by rw[hc,Qi (by have:=m;omega)]
 refine Q9<|Xk<|Xk<|X06<|aK _ _<|ZS f fun aF=>Zm O<|Za O<|Zt aF fun a f=>Q6 (X6 f (Xq f O O) ?_)
 exact ⟨by rw[aE],j⟩
theorem Y7y(G:World)(d:Dg)(md:Nat)(A:md=d.ns.length)(Ad:Option Addr)(cd:Nat)(B:Rw G 85 encNd Ad d.ns)(Bd:Option Addr)(dd:Nat)(D:Rw G 99 encWr Bd d.ws)(E:d.ws.length<=dd)(p:Int)(aG:0<=p/\p.toNat<d.ns.length)(a6:d.ws.length<=1000000000)(hn:1<=d.n/\d.n<=1000):RE 89 [.agg #[vi d.n,.slice Ad md cd,.slice Bd d.ws.length dd,vi d.t,vi d.r],vi p] G (fun v w=>v=.bool (ndQ d p)/\Bl G w):=by
 refine enter func89 O 47 O O ?_;intro a e;have o:=bz G;refine ZS e fun aH=>Zf (X0n (zs:=(Zc4 d Ad md cd Bd dd)) O O) ?_;rintro _ w1 ⟨b4,rfl,aI,y,h⟩;have aM:=Q0 o.size aI;have o:=btr o y;refine Za O<|Zx aH fun a e _ aJ=>Ze (Vd O Xn 1)<|Ze (X0 O X0f (h.at 1))<|Zm O<|Zj (k:=p.toNat) (u:=(d.ns.getD p.toNat nZ)) (enc:=encNd) (l:=d.ns) tv0 O A O X00 X0o X03 (B.bx o) (Xg aG.2) Z ?_;intro p7 a7;refine Ze (X07 (l:=[vi ((d.ns.getD p.toNat nZ).k),vi ((d.ns.getD p.toNat nZ).p)]) O X44 a7 O)<|ZB [vi ((d.ns.getD p.toNat nZ).k),vi ((d.ns.getD p.toNat nZ).p)] Xab X0o fun b8 w3 aK y C=>?_;have aN:=Q0 o.size aK;have h:=h.bw y;have o:=btr o y;refine ZX aJ fun a e _ aL=>ZS e fun a8=>Ze (Vd O X1v 0)<|Ze (X0 O X8 (C.at 0))<|Zt a8 fun a e=>Q8<|ZS e fun aA=>Ze (X0l O O)<|Za O<|Zt aA fun a e=>Xx e O ?_ ?_<;>intro b
 ·have x:=Ye6 b;refine Q5 fun _ aB=>X0i (fun a w=>Fr a 47 [(4,.bool ((((d.ns.getD p.toNat nZ).p)==0)&&((cnW d.ws p)==0)))]/\Bl w3 w) ?_ ?_
  ·have q:Bl w3 w3:=Below.refl _ _;refine Zr e<|Ze (Vd O X0m 1)<|Ze (X0 O X8 (C.at 1))<|Ze (X0l O O)<|Zm O<|Zg 18 O ?_ ?_<;>intro f
   ·refine Zv (gW f) (Vn X2 h) ?_;refine Zv (gW f) (X5 O) ?_;refine Zk (gW f) (Vc (Xoi _ d md A Ad cd (B.bx o).top Bd dd (D.bx o).top E p a6) Xf2) ?_;rintro _ w4 ⟨rfl,y⟩;have o:=btr o y;have q:=btr q y;refine Zv (gW f) (X0l O O) ?_;exact Ze (Xc O f O)<|Za O<|Zn fun a e=>⟨e.sub ⟨X1 O (by first|rfl|(simp only[b,f,bs];done)|simp[b,f]),trivial⟩,q⟩
   (iterate 4 refine Zp (gP f) ?_);exact Ze (Xi O f O)<|Za O<|Zn fun a e=>⟨e.sub ⟨X1 O (by first|rfl|(simp only[b,f,bs];done)|simp[b,f]),trivial⟩,q⟩
  intro a w5 ⟨e,y⟩;have o:=btr o y;exact aB _ _<|Q6<|Xu<|X9<|X6 e (Xq e O O)<|⟨by rw[x],o⟩
 have g0:=b;refine Q5 fun _ H=>ZS e fun aC=>Ze (X0l O O)<|Za O<|Zt aC fun a e=>Xx e O ?_ ?_<;>intro c
 ·have x:=Yar g0 (by rw[c];rfl);refine Q7<|H _ _<|Xej e (X1 O c)<|Q5 fun _ aD=>X0i (fun a w=>Fr a 47 [(4,.bool ((inR ((d.ns.getD p.toNat nZ).p) 0 (d.n-1))&&((cnW d.ws p)==1)))]/\Bl w3 w) ?_ ?_
  ·have q:Bl w3 w3:=Below.refl _ _;refine Zr e<|Ze (Vd O X0m 1)<|Ze (X0 O X8 (C.at 1))<|Ze (Vd O X3i 0)<|Ze (X0 O X8 (h.at 0))<|Ze (X1j O O Z Z)<|Zf (Vc (F85 _ ((d.ns.getD p.toNat nZ).p) 0 (d.n-1)) X4n) ?_;rintro _ _ ⟨rfl,rfl⟩;refine Zm O<|Zg 33 O ?_ ?_<;>intro g
   ·refine Zv (gW g) (Vn X2 h) ?_;refine Zv (gW g) (X5 O) ?_;refine Zk (gW g) (Vc (Xoi _ d md A Ad cd (B.bx o).top Bd dd (D.bx o).top E p a6) Xf2) ?_;rintro _ w6 ⟨rfl,y⟩;have o:=btr o y;have q:=btr q y;refine Zv (gW g) (X0l O O) ?_;exact Ze (Xc O g O)<|Za O<|Zn fun a e=>⟨e.sub ⟨X1 O (by first|rfl|(simp only[b,c,g,bs];done)|simp[b,c,g]),trivial⟩,q⟩
   (iterate 4 refine Zp (gP g) ?_);exact Ze (Xi O g O)<|Za O<|Zn fun a e=>⟨e.sub ⟨X1 O (by first|rfl|(simp only[b,c,g,bs];done)|simp[b,c,g]),trivial⟩,q⟩
  intro a w7 ⟨e,y⟩;have o:=btr o y;exact aD _ _<|Q6<|Xu<|X9<|X6 e (Xq e O O)<|⟨by rw[x],o⟩
 have g1:=c;refine Zr e<|Ze (X0l O O)<|Za O<|Zt H fun a e=>Xx e O ?_ ?_<;>intro m
 ·have x:=Yar g0 (by rw[g1,m];rfl);refine Q5 fun _ aE=>X0i (fun a w=>Fr a 47 [(4,.bool ((inR ((d.ns.getD p.toNat nZ).p) 0 (d.n-1))&&((cnW d.ws p)==1)))]/\Bl w3 w) ?_ ?_
  ·have q:Bl w3 w3:=Below.refl _ _;refine Zr e<|Ze (Vd O X0m 1)<|Ze (X0 O X8 (C.at 1))<|Ze (Vd O X3i 0)<|Ze (X0 O X8 (h.at 0))<|Ze (X1j O O Z Z)<|Zf (Vc (F85 _ ((d.ns.getD p.toNat nZ).p) 0 (d.n-1)) X4n) ?_;rintro _ _ ⟨rfl,rfl⟩;refine Zm O<|Zg 33 O ?_ ?_<;>intro i
   ·refine Zv (gW i) (Vn X2 h) ?_;refine Zv (gW i) (X5 O) ?_;refine Zk (gW i) (Vc (Xoi _ d md A Ad cd (B.bx o).top Bd dd (D.bx o).top E p a6) Xf2) ?_;rintro _ w8 ⟨rfl,y⟩;have o:=btr o y;have q:=btr q y;refine Zv (gW i) (X0l O O) ?_;exact Ze (Xc O i O)<|Za O<|Zn fun a e=>⟨e.sub ⟨X1 O (by first|rfl|(simp only[b,c,m,i,bs];done)|simp[b,c,m,i]),trivial⟩,q⟩
   (iterate 4 refine Zp (gP i) ?_);exact Ze (Xi O i O)<|Za O<|Zn fun a e=>⟨e.sub ⟨X1 O (by first|rfl|(simp only[b,c,m,i,bs];done)|simp[b,c,m,i]),trivial⟩,q⟩
  intro a w9 ⟨e,y⟩;have o:=btr o y;exact aE _ _<|Q6<|Xu<|X9<|X6 e (Xq e O O)<|⟨by rw[x],o⟩
 have x:=Ye7 g0 (by rw[g1,m];rfl);refine Q7<|Xd<|aL _ _<|Q5 fun _ aF=>X0i (fun a w=>Fr a 47 [(4,.bool ((((d.ns.getD p.toNat nZ).k)==3)&&(inR ((d.ns.getD p.toNat nZ).p) 0 7)))]/\w3=w) ?_ ?_
 ·refine Zr e<|Ze (Vd O X1v 0)<|Ze (X0 O X8 (C.at 0))<|Ze (X0l O O)<|Zm O<|Zg 42 O ?_ ?_<;>intro j
  ·refine Zv (gW j) (Vd O X0m 1) ?_;refine Zv (gW j) (X0 O X8 (C.at 1)) ?_;refine Zk (gW j) (Vc (F85 _ ((d.ns.getD p.toNat nZ).p) 0 7) X4n) ?_;rintro _ _ ⟨rfl,rfl⟩;exact Ze (Xc O j O)<|Za O<|Zn fun a e=>⟨e.sub ⟨X1 O (by first|rfl|(simp only[b,c,m,j,bs];done)|simp[b,c,m,j]),trivial⟩,O⟩
  (iterate 3 refine Zp (gP j) ?_);exact Ze (Xi O j O)<|Za O<|Zn fun a e=>⟨e.sub ⟨X1 O (by first|rfl|(simp only[b,c,m,j,bs];done)|simp[b,c,m,j]),trivial⟩,O⟩
 rintro a _ ⟨e,rfl⟩;refine aF _ _<|Q6 (X6 e (Xq e O O) ?_);exact ⟨by rw[x],o⟩
def Y7z(h:World)(d:Dg)(md:Nat)(a8:md=d.ns.length)(Ad:Option Addr)(cd:Nat)(aA:Rw h 85 encNd Ad d.ns)(Bd:Option Addr)(dd:Nat)(b3:Rw h 99 encWr Bd d.ws)(g:d.ws.length<=dd)(hN:md<=1000)(hn:1<=d.n/\d.n<=1000):RE 90 [.agg #[vi d.n,.slice Ad md cd,.slice Bd d.ws.length dd,vi d.t,vi d.r]] h (fun v w=>v=.bool (endQ d)/\Bl h w):=by
 refine enter func90 O 40 O O ?_;intro a b
 have x:=bz h
 refine ZS b fun aS=>Zf (X0n (zs:=(Zc4 d Ad md cd Bd dd)) O O) ?_;rintro _ w1 ⟨b4,rfl,aT,hE,m⟩;have b5:=Q0 x.size aT;have x:=btr x hE;refine Za O<|ZX aS fun a b _ aU=>ZS b fun aV=>Za O<|Zt aV fun a b=>Q8<|X04 (σ:=Nat) (fun (e:Nat) (a:Act) (w:World)=>Fr a 40 [(1,(pZ9 b4)),(3,vi (e:Int))]/\(1<=e/\e<=3)/\(∀ i:Nat,1<=i->i<e->enQ d (i:Int)=true)/\Blk w b4 54 (Zc4 d Ad md cd Bd dd)/\d.ws.length<=dd/\Bl h w) (fun (e:Nat)=>3-e) 1 ?_ ?_
 ·exact ⟨b.sb,⟨Qb _,by omega⟩,(fun i h1 h2=>by omega),m,g,x⟩
 rintro e a w2 ⟨b,he,A,m,g,x⟩;refine Q5 fun _ aW=>ZS b fun aX=>Zm O<|Ze (Xef O O)<|Zt aX fun a b=>X0y b O (fun y I=>?_) (fun y I=>?_)
 ·have h9:=I;refine Q7<|aW _ _<|Q5 fun _ aB=>Q8<|ZS b fun aC=>Za O<|Zt aC fun a b=>Q8<|X04 (σ:=Nat) (fun (j:Nat) (a:Act) (w:World)=>Fr a 40 [(1,(pZ9 b4)),(3,vi (e:Int)),(4,vi (j:Int))]/\(∀ i:Nat,i<j->(ctN d.ns (e:Int) (i:Int)==1)=true)/\Blk w b4 54 (Zc4 d Ad md cd Bd dd)/\d.ws.length<=dd/\Bl h w) (fun (j:Nat)=>d.n.toNat-j) 0 ?_ ?_
  ·exact ⟨b.sb,(fun i hi=>by omega),m,g,x⟩
  rintro j a w3 ⟨b,J,m,g,x⟩;refine Q5 fun _ aD=>ZS b fun aE=>Zm O<|Ze (Vd O X3i 0)<|Ze (X0 O X8 (m.at 0))<|Ze (X16 O O)<|Zt aE fun a b=>X0y b O (fun o B=>?_) (fun o B=>?_)
  ·have aY:=B;refine Q7<|aD _ _<|Q5 fun _ aF=>Q8<|ZS b fun aG=>Za O<|ZX aG fun a b _ aH=>ZS b fun aI=>Ze (Vd O Xn 1)<|Ze (X0 O X0f (m.at 1))<|Ze (X0w O X00)<|Zm O<|Zt aI fun a b=>Q8<|X04 (σ:=Nat×Int) (fun (s:Nat×Int) (a:Act) (w:World)=>match s with|(k,c)=>Fr a 40 [(1,(pZ9 b4)),(3,vi (e:Int)),(4,vi (j:Int)),(5,vi c),(19,.slice Ad md cd),(20,vi (md:Int)),(21,vi (k:Int))]/\(k<=d.ns.length)/\(c=ctN (d.ns.take k) (e:Int) (j:Int))/\Blk w b4 54 (Zc4 d Ad md cd Bd dd)/\d.ws.length<=dd/\Bl h w) (fun (s:Nat×Int)=>match s with|(k,c)=>d.ns.length-k) (0,0) ?_ ?_
   ·exact ⟨b.sb,(Qf _),O,m,g,x⟩
   rintro ⟨k,c⟩ a w4 ⟨b,hk,hc,m,g,x⟩;have aZ:=Y9h d.ns (e:Int) (j:Int) k
   rw[<- hc] at aZ
   refine ZS b fun aJ=>Ze (X16 O O)<|ZX aJ fun a b _ aK=>X0y b O (fun q C=>?_) (fun q C=>?_)
   ·obtain ⟨u9,a6⟩:=Xa (l:=d.ns) (k:=k) (by have:=C;omega)
    refine Q7<|aK _ _<|Q5 fun _ L=>Q8<|ZS b fun aL=>Zj (k:=k) (u:=u9) (enc:=encNd) (l:=d.ns) tv0 O a8 O X00 X0o X03 (aA.bx x) a6 Z ?_;intro b6 a7;refine Ze (X07 (l:=[vi u9.k,vi u9.p]) O X44 a7 O)<|ZB [vi u9.k,vi u9.p] Xab X0o fun b7 w6 aM hE M=>?_;have b0:=Q0 x.size aM;have m:=m.bw hE;have x:=btr x hE;refine ZX aL fun a b _ aN=>X0i (fun a w=>Fr a 40 [(1,(pZ9 b4)),(3,vi (e:Int)),(4,vi (j:Int)),(5,vi c),(19,.slice Ad md cd),(20,vi (md:Int)),(21,vi (k:Int)),(34,.bool ((u9.k==(e:Int))&&(u9.p==(j:Int))))]/\w6=w) ?_ ?_
    ·refine Zr b<|Ze (Vd O X1v 0)<|Ze (X0 O X8 (M.at 0))<|Zm O<|Ze (X0l O O)<|Zm O<|Zg 29 O ?_ ?_<;>intro f
     ·refine Zv (gW f) (Vd O X0m 1) ?_;refine Zv (gW f) (X0 O X8 (M.at 1)) ?_;refine Zv (gW f) (X5 O) ?_;refine Zv (gW f) (X0l O O) ?_;refine Ze (Xc O f O) ?_;exact Zn fun a b=>⟨b.sub ⟨O,O,O,O,O,O,O,X1 O (by first|rfl|(simp only[y,o,q,f,bs];done)|simp[y,o,q,f]),trivial⟩,O⟩
     (iterate 4 refine Zp (gP f) ?_);exact Ze (Xi O f O)<|Zn fun a b=>⟨b.sub ⟨O,O,O,O,O,O,O,X1 O (by simp[y,o,q,f]),trivial⟩,O⟩
    rintro a _ ⟨b,rfl⟩;refine aN _ _<|Xx b O ?_ ?_<;>intro D
    ·have E:=Ydh a6 D
     rw[<- hc] at E
     exact Zr b<|Zm O<|Ze (Xr O O Z Z)<|Za O<|Zn fun a b=>Xd<|L _ _<|Zr b<|Ze (Xr O O Z Z)<|Zm O<|Zn fun a b=>Xh<|⟨(k+1,c+1),⟨b.sb,Z,(by rw[E]),m,g,x⟩,O1⟩
    have E:=Ydg a6 D
    rw[<- hc] at E
    exact Q7<|Xd<|L _ _<|Zr b<|Ze (Xr O O Z Z)<|Zm O<|Zn fun a b=>Xh<|⟨(k+1,c),⟨b.sb,Z,(by rw[E]),m,g,x⟩,O1⟩
   have aO:c=ctN d.ns (e:Int) (j:Int):=by rw[hc,Qi (by have:=C;omega)]
   refine Q9<|Xk<|Xk<|X06<|aH _ _<|ZS b fun aP=>Zm O<|Ze (X28 O O)<|Zt aP fun a b=>Xx b O ?_ ?_<;>intro G
   ·have H:endQ d=false:=Y9s (e:=e) Z Z aY (by rw[<- aO];exact G)
    exact ZS b fun aQ=>Za O<|Zt aQ fun a b=>Q6<|Xu<|X9<|X9<|Xu<|Xu<|X9<|X9<|Xu<|X9<|X6 b (Xq b O O)<|⟨by rw[H],x⟩
   have b1:(ctN d.ns (e:Int) (j:Int)==1)=true:=by rw[<- aO];have h8:=G;simpa using h8
   exact Q7<|Xd<|aF _ _<|Zr b<|Zm O<|Ze (Xr O O Z Z)<|Za O<|Zn fun a b=>Xh<|⟨j+1,⟨b.sb,(fun i hi=>by by_cases h9:i=j;rw[h9];exact b1;exact J i Z),m,g,x⟩,Z⟩
  have b2:enQ d (e:Int)=true:=X9m fun i hi=>J i (by have:=B;omega)
  exact Q9<|Xk<|Xk<|X06<|Xd<|aB _ _<|Zr b<|Zm O<|Ze (Xr O O Z Z)<|Za O<|Zn fun a b=>Xh<|⟨e+1,⟨b.sb,Z,(fun i h1 h2=>by by_cases h9:i=e;rw[h9];exact b2;exact A i h1 Z),m,g,x⟩,Z⟩
 have H:endQ d=true:=by unfold endQ;rw[show enQ d 1=true from A 1 Z (by have:=I;omega),show enQ d 2=true from A 2 Z (by have:=I;omega)];rfl
 refine Q9<|Xk<|Xk<|X06<|aU _ _<|ZS b fun aR=>Za O<|Zt aR fun a b=>Q6 (X6 b (Xq b O O) ?_)
 exact ⟨by rw[H],x⟩
theorem Xzg(M:World)(d:Dg)(md:Nat)(H:md=d.ns.length)(Ad:Option Addr)(cd:Nat)(a7:Rw M 85 encNd Ad d.ns)(Bd:Option Addr)(dd:Nat)(L:Rw M 99 encWr Bd d.ws)(D:d.ws.length<=dd)(bF:d.ws.length<=1000000000)(b1:∀ x ∈ d.ws,-1000000<=x.b/\x.b<=1000000):RE 54 [.agg #[vi d.n,.slice Ad md cd,.slice Bd d.ws.length dd,vi d.t,vi d.r]] M (fun v w=>v=.bool (goodD d)/\Bl M w):=by
 refine enter func54 O 80 O O ?_;intro a f;have A:=bz M;refine ZS f fun b2=>Zf (X0n (zs:=(Zc4 d Ad md cd Bd dd)) O O) ?_;rintro _ w1 ⟨b4,rfl,b3,G,m⟩;have bD:=Q0 A.size b3;have A:=btr A G;refine Za O<|ZX b2 fun a f _ b5=>Q5 fun _ b6=>X0i (fun a w=>Fr a 80 [(1,(pZ9 b4)),(27,.bool ((((!(inR d.n 1 5))||(decide (40<(md:Int))))||(!(inR d.t 0 7)))||(!(inR d.r (-60) 60))))]/\w1=w) ?_ ?_
 ·refine Zr f<|Ze (Vd O X3i 0)<|Ze (X0 O X8 (m.at 0))<|Zf (Vc (F85 _ d.n 1 5) X4n) ?_;rintro _ _ ⟨rfl,rfl⟩;refine Ze (X1i O)<|Zm O<|Zg 10 O ?_ ?_<;>intro o
  ·(iterate 4 refine Zp (gP o) ?_);refine Ze (Xc O o O)<|Zm O<|Zp (gP O) ?_;(iterate 3 refine Zp (gP O) ?_);refine Ze (Xc O O O)<|Zm O<|Zp (gP O) ?_;(iterate 3 refine Zp (gP O) ?_);exact Ze (Xc O O O)<|Zn fun a f=>⟨f.sub ⟨O,X1 O (by first|rfl|(simp only[o,bs];done)|simp[o]),trivial⟩,O⟩
  refine Zv (gW o) (Vd O Xn 1) ?_;refine Zv (gW o) (X0 O X0f (m.at 1)) ?_;refine Zv (gW o) (X0w O X00) ?_;refine Zv (gW o) (X52 O O)<|Ze (Xi O o O)<|Zm O<|Zg 16 O ?_ ?_<;>intro q
  ·(iterate 4 refine Zp (gP q) ?_);refine Ze (Xc O q O)<|Zm O<|Zp (gP O) ?_;(iterate 3 refine Zp (gP O) ?_);exact Ze (Xc O O O)<|Zn fun a f=>⟨f.sub ⟨O,X1 O (by first|rfl|(simp only[o,q,bs];done)|simp[o,q]),trivial⟩,O⟩
  refine Zv (gW q) (Vd O X1o 3) ?_;refine Zv (gW q) (X0 O X8 (m.at 3)) ?_;refine Zk (gW q) (Vc (F85 _ d.t 0 7) X4n) ?_;rintro _ _ ⟨rfl,rfl⟩;refine Zv (gW q) (X1i O)<|Ze (Xi O q O)<|Zm O<|Zg 22 O ?_ ?_<;>intro B
  ·(iterate 4 refine Zp (gP B) ?_);exact Ze (Xc O B O)<|Zn fun a f=>⟨f.sub ⟨O,X1 O (by first|rfl|(simp only[o,q,B,bs];done)|simp[o,q,B]),trivial⟩,O⟩
  refine Zv (gW B) (Vd O X0h 4) ?_;refine Zv (gW B) (X0 O X8 (m.at 4)) ?_;refine Zk (gW B) (Vc (F85 _ d.r (-60) 60) X4n) ?_;rintro _ _ ⟨rfl,rfl⟩;refine Zv (gW B) (X1i O) ?_;exact Ze (Xi O B O)<|Zn fun a f=>⟨f.sub ⟨O,X1 O (by first|rfl|(simp only[o,q,B,bs];done)|simp[o,q,B]),trivial⟩,O⟩
 rintro a _ ⟨f,rfl⟩;refine b6 _ _<|Xx f O ?_ ?_<;>intro y
 ·have E:goodD d=false:=Yaa (by rw[<- H];exact y);exact ZS f fun aI=>Za O<|Zt aI fun a f=>Q6<|X9<|X6 f (Xq f O O)<|⟨by rw[E],A⟩
 have ⟨b7,bG,bH,b8⟩:=Xqq (d:=d) (by rw[<- H];exact y);refine Q7<|b5 _ _<|Q5 fun _ aJ=>ZS f fun aK=>Ze (Vd O X02 2)<|Ze (X0 O X1f (m.at 2))<|Ze (X0w O X0a)<|Zm O<|Zt aK fun a f=>Q8<|X04 (σ:=Nat) (fun (k:Nat) (a:Act) (w:World)=>Fr a 80 [(1,(pZ9 b4)),(29,.slice Bd d.ws.length dd),(30,vi (d.ws.length:Int)),(31,vi (k:Int))]/\(k<=d.ws.length)/\(∀ i:Nat,i<k->wrQ d i=true)/\Blk w b4 54 (Zc4 d Ad md cd Bd dd)/\d.ws.length<=dd/\Bl M w) (fun (k:Nat)=>d.ws.length-k) 0 ?_ ?_
 ·exact ⟨f.sb,(Qf _),(fun i hi=>by omega),m,D,A⟩
 intro k a w2 ⟨f,hk,a8,m,D,A⟩;refine ZS f fun aL=>Ze (X16 O O)<|ZX aL fun a f _ aM=>X0y f O (fun p N=>?_) (fun p N=>?_)
 ·have ⟨bI,bE⟩:=Xa (l:=d.ws) (k:=k) Z;have ⟨J,a6⟩:=Xa (l:=d.ws) (k:=k) (by have:=N;omega);have bJ:=b1 J (Qe a6);have b9:=(Qg.1 a6).1;have aB:=Xuc a6;rw[<- H] at aB;refine Q7<|aM _ _<|Q5 fun _ aN=>Q8<|ZS f fun aO=>Zm O<|Zi (k:=k) (u:=J) (enc:=encWr) (l:=d.ws) tv0 O O X0a X14 X0d (L.bx A) a6 O ?_;intro bK aC;refine Ze (X07 (l:=[vi J.a,vi J.b,.bool J.h]) O X23 aC O)<|Zf (X0b (zs:=[vi 0,vi 0,.bool false]) X4a O) ?_;rintro _ w3 ⟨bL,rfl,aP,G,C⟩;have aD:=Q0 A.size aP;have m:=m.bw G;have A:=btr A G;refine Za O<|Zo (Vw [vi J.a,vi J.b,.bool J.h] X14 C) ?_;intro _ w4 ⟨ho,hb⟩;have m:=m.oz ho C O;have A:=Below.oy A ho aD;have C:=hb;refine ZX aO fun a f _ aQ=>X0i (fun a w=>Fr a 80 [(1,(pZ9 b4)),(29,.slice Bd d.ws.length dd),(30,vi (d.ws.length:Int)),(31,vi (k:Int)),(65,.bool (!(inR J.a 0 (J.b-1))||decide ((md:Int)<=J.b)||(decide (0<(k:Int))&&!(wlt (d.ws.getD (k-1) wZ) J))))]/\Bl w4 w) ?_ ?_
  ·have I:Bl w4 w4:=Below.refl _ _;refine Xy none (fun _=>false) mixed ?_;intro w5 G;have ⟨m,C,A,I⟩:=mv4 G m C A I;refine Yb f<|Yo 0 O (fun _=>Vd O X1l 0)<|Ye 1 O (X0 O X8 (C.at 0))<|Yo 2 O (fun _=>Vd O X1p 1)<|Ye 3 O (X0 O X8 (C.at 1))<|Yo 4 O (fun _=>X1j O O Z Z)<|Y1 5<|Yz O tv0 (Vc (F85 _ J.a 0 (J.b-1)) X4n)<|Yo 6 O (fun _=>X1i O)<|YA 7 O O<|Yl 43 O ?_ ?_<;>intro e
   ·refine Yp 8 O (gP e) ?_;refine Yp 9 O (gP e) ?_;refine Yp 10 O (gP e) ?_;refine Yp 11 O (gP e) ?_;refine Yp 12 O (gP e) ?_;refine Yp 13 O (gP e)<|Yo 14 O (fun _=>Xc O e O)<|YA 15 O O<|Yp 16 O (gP O) ?_;refine Yp 17 O (gP O) ?_;refine Yp 18 O (gP O) ?_;refine Yp 19 O (gP tv0) ?_;refine Yp 20 O (gP tv0) ?_;refine Yp 21 O (gP tv0) ?_;refine Yp 22 O (gP tv0) ?_;refine Yp 23 O (gP tv0) ?_;refine Yp 24 O (gP tv0) ?_;refine Yp 25 O (gP tv0) ?_;refine Y1 26<|Yq O ⟨_,_,O,O,trivial⟩ ?_;refine Yp 27 O (gP tv0) ?_;refine Yp 28 O (gP O) ?_;exact Yo 29 O (fun _=>Xc O O O)<|Yd fun a f=>⟨f.sub ⟨O,O,O,O,X1 O (by first|rfl|(simp only[y,p,e,bs];done)|simp[y,p,e]),trivial⟩,I⟩
   refine Yu 8 O (gW e) (fun _=>Vd O X1p 1) ?_;refine Yv 9 O (gW e) (X0 O X8 (C.at 1)) ?_;refine Yu 10 O (gW e) (fun _=>Vd O Xn 1) ?_;refine Yv 11 O (gW e) (X0 O X0f (m.at 1)) ?_;refine Yu 12 O (gW e) (fun _=>X0w O X00) ?_;refine Yu 13 O (gW e) (fun _=>X5q O O) ?_;refine Yo 14 O (fun _=>Xi O e O)<|YA 15 O O<|Yl 51 O ?_ ?_<;>intro g
   ·refine Yp 16 O (gP g) ?_;refine Yp 17 O (gP g) ?_;refine Yp 18 O (gP g) ?_;refine Yp 19 O (gP tv0) ?_;refine Yp 20 O (gP tv0) ?_;refine Yp 21 O (gP tv0) ?_;refine Yp 22 O (gP tv0) ?_;refine Yp 23 O (gP tv0) ?_;refine Yp 24 O (gP tv0) ?_;refine Yp 25 O (gP tv0) ?_;refine Y1 26<|Yq O ⟨_,_,O,O,trivial⟩ ?_;refine Yp 27 O (gP tv0) ?_;refine Yp 28 O (gP g) ?_;refine Yo 29 O (fun _=>Xc O g O) ?_;exact Yd fun a f=>⟨f.sub ⟨O,O,O,O,X1 O (by first|rfl|(simp only[y,p,e,g,bs];done)|simp[y,p,e,g]),trivial⟩,I⟩
   refine Yu 16 O (gW g) (fun _=>X5 O) ?_;refine Yu 17 O (gW g) (fun _=>X52 O O) ?_;refine Yu 18 O (gW g) (fun _=>X5 O) ?_;refine Yl 54 O ?_ ?_<;>intro c
   ·have bM:0<k:=by have h8:=c;simpa using h8
    refine Yu 19 O (gW c) (fun _=>Vd O X02 2) ?_;refine Yv 20 O (gW c) (X0 O X1f (m.at 2)) ?_;refine Yu 21 O (gW c) (fun _=>X5 O) ?_;refine Yu 22 O (gW c) (fun _=>X1j O O Z Z) ?_;refine Yi (k:=(k-1)) (u:=(d.ws.getD (k-1) wZ)) (enc:=encWr) (l:=d.ws) 23 O ⟨_,_,O,O,c⟩ O O X0a X14 X0d (L.bx A) (Xg Z) Z ?_;intro bN aE;refine Yv 24 O (gW c) (X07 (l:=[vi ((d.ws.getD (k-1) wZ).a),vi ((d.ws.getD (k-1) wZ).b),.bool ((d.ws.getD (k-1) wZ).h)]) O X23 aE O) ?_;refine Yv 25 O (gW c) (Vn X23 C) ?_;refine Y1 26<|Yk O ⟨_,_,O,O,c⟩ (Vc (Xzp _ (d.ws.getD (k-1) wZ) J) Xkx) (fun _ _ ⟨_,G⟩=>G) ?_;rintro _ w6 ⟨rfl,G⟩;have A:=btr A G;have I:=btr I G;refine Yu 27 O (gW c) (fun _=>X1i O) ?_;refine Yu 28 O (gW g) (fun _=>Xc O c O) ?_;refine Yo 29 O (fun _=>Xi O g O) ?_;refine Yd fun a f=>?_;exact ⟨f.sub ⟨O,O,O,O,X1 O (by first|rfl|(simp only[y,p,e,g,c,bs];done)|simp[y,p,e,g,c]),trivial⟩,I⟩
   refine Yp 19 O (gP c) ?_;refine Yp 20 O (gP c) ?_;refine Yp 21 O (gP c) ?_;refine Yp 22 O (gP c) ?_;refine Yp 23 O (gP c) ?_;refine Yp 24 O (gP c) ?_;refine Yp 25 O (gP c) ?_;refine Y1 26<|Yq O ⟨_,_,O,O,c⟩ ?_;refine Yp 27 O (gP c) ?_;refine Yu 28 O (gW g) (fun _=>Xi O c O) ?_;refine Yo 29 O (fun _=>Xi O g O) ?_;refine Yd fun a f=>?_;exact ⟨f.sub ⟨O,O,O,O,X1 O (by first|rfl|(simp only[y,p,e,g,c,bs];done)|simp[y,p,e,g,c]),trivial⟩,I⟩
  intro a w7 ⟨f,G⟩;have m:=m.bw G;have A:=btr A G;refine aQ _ _<|Xx f O ?_ ?_<;>intro Q
  ·have E:goodD d=false:=Y4q b9 (by rw[aB,Q];rfl);exact ZS f fun aR=>Za O<|Zt aR fun a f=>Q6<|Xu<|X9<|X9<|Xu<|X9<|X6 f (Xq f O O)<|⟨by rw[E],A⟩
  have aF:wrQ d k=true:=by rw[aB,Q];rfl
  exact Q7<|Xd<|aN _ _<|Zr f<|Ze (Xr O O Z Z)<|Zm O<|Zn fun a f=>Xh<|⟨k+1,⟨f.sb,Z,(fun i hi=>by by_cases h9:i=k;rw[h9];exact aF;exact a8 i Z),m,D,A⟩,Z⟩
 have aG:∀ i,i<d.ws.length->wrQ d i=true:=fun i hi=>a8 i (by have:=N;omega);refine Q9<|Xk<|Xk<|X06<|aJ _ _<|Q5 fun _ aS=>ZS f fun aT=>Ze (Vd O Xn 1)<|Ze (X0 O X0f (m.at 1))<|Ze (X0w O X00)<|Zm O<|Zt aT fun a f=>Q8<|X04 (σ:=Nat) (fun (j:Nat) (a:Act) (w:World)=>Fr a 80 [(1,(pZ9 b4)),(69,vi (md:Int)),(70,vi (j:Int))]/\(j<=d.ns.length)/\(∀ i:Nat,i<j->ndQ d (i:Int)=true)/\Blk w b4 54 (Zc4 d Ad md cd Bd dd)/\d.ws.length<=dd/\Bl M w) (fun (j:Nat)=>d.ns.length-j) 0 ?_ ?_
 ·exact ⟨f.sb,(Qf _),(fun i hi=>by omega),m,D,A⟩
 intro j a w8 ⟨f,hj,aA,m,D,A⟩;refine ZS f fun aU=>Ze (X16 O O)<|ZX aU fun a f _ aV=>X0y f O (fun aH U=>?_) (fun aH U=>?_)
 ·have bC:j<d.ns.length:=by have:=U;omega
  refine Q7<|aV _ _<|Q5 fun _ aW=>Q8<|ZS f fun aX=>Zm O<|Za O<|Zx aX fun a f _ aY=>Ze (Vn X2 m)<|Zm O<|Zf (Vc (Y7y _ d md H Ad cd (a7.bx A).top Bd dd (L.bx A).top D (j:Int) ⟨by omega,by omega⟩ Z ⟨by omega,by omega⟩) Xwq) ?_;rintro _ w9 ⟨rfl,G⟩;have m:=m.bw G;have A:=btr A G;refine Ze (X1i O)<|Zt aY fun a f=>Xx f O ?_ ?_<;>intro W
  ·have E:goodD d=false:=Y4p bC (by have h8:=W;simpa using h8);exact ZS f fun aZ=>Za O<|Zt aZ fun a f=>Q6<|Xu<|X9<|X9<|Xu<|X9<|X6 f (Xq f O O)<|⟨by rw[E],A⟩
  have aF:ndQ d (j:Int)=true:=by have h8:=W;simpa using h8
  exact Q7<|Xd<|aW _ _<|Zr f<|Ze (Xr O O Z Z)<|Zm O<|Zn fun a f=>Xh<|⟨j+1,⟨f.sb,Z,(fun i hi=>by by_cases h9:i=j;rw[h9];exact aF;exact aA i Z),m,D,A⟩,Z⟩
 have E:goodD d=endQ d:=Y4o b7 aG fun i hi=>aA i (by have:=U;omega);refine Q9<|Xk<|Xk<|X06<|aS _ _<|ZS f fun b0=>Ze (Vn X2 m)<|Zf (Vc (Y7z _ d md H Ad cd (a7.bx A).top Bd dd (L.bx A).top D Z ⟨by omega,by omega⟩) Xwr) ?_;rintro _ bO ⟨rfl,G⟩;have A:=btr A G;refine Za O<|Zt b0 fun a f=>Q6 (X6 f (Xq f O O) ?_);exact ⟨by rw[E],A⟩
def RgW(N:Nat)(ws:List Wr) : Prop:=∀ x ∈ ws,(0<=x.a/\x.a<N)/\(0<=x.b/\x.b<N)
def spN(ns:List Nd) : Nat:=(ns.filter fun x=>x.k==3).length
def Xe2{N:Nat}{ws:List Wr}{a b:Int}{h:Bool}(hw:RgW N ws)(ha:0<=a/\a<N)(hb:0<=b/\b<N):RgW N (jnW ws a b h):=fun x hx=>by
 rcases X6z.1 hx with rfl|hx
 ·dsimp only;omega
 ·exact hw x hx
def Xm6{N:Nat}{ws:List Wr}(hw:RgW N ws)(i:Nat):RgW N (ctW ws i):=fun x hx=>hw x ((X4o ws i).subset hx)
def Ybl{N:Nat}{ws:List Wr}(hw:RgW N ws)(k:Int):RgW N (dpW ws k):=fun x hx=>hw x (List.mem_filter.1 hx).1
def Xbe:∀ (ns:List Nd) (k:Nat) (x:Nd),k<ns.length->spN (ns.set k x)+(if (ns.getD k nZ).k=3 then 1 else 0)=spN ns+(if x.k=3 then 1 else 0)
 | [],_,_,h=>by simp at h
 | y::ns,0,x,_=>by
  unfold spN;simp only[List.set_cons_zero,List.filter_cons,List.getD_cons_zero,beq_iff_eq];split<;>split<;>simp
 | y::ns,k+1,x,h=>by
  have ih:=Xbe ns k x (by simpa using h);unfold spN at ih ⊢;simp only[List.set_cons_succ,List.filter_cons,List.getD_cons_succ,beq_iff_eq];split<;>(try simp only[Qs])<;>omega
def Xta(ns:List Nd)(x m:Int):spN (adN ns x m)=spN ns:=by
 by_cases h:x.toNat<ns.length
 ·have h1:=Xbe ns x.toNat { ns.getD x.toNat nZ with p:=((ns.getD x.toNat nZ).p+m) % 8 } h;unfold adN;dsimp only at h1 ⊢;omega
 ·unfold adN;rw[List.set_eq_of_length_le Z]
def Y6f{ns:List Nd}(k:Int):spN (dpN ns k)<=spN ns:=by
 by_cases h:k.toNat<ns.length
 ·have h1:=Xbe ns k.toNat nZ h;have h2:(if nZ.k=3 then 1 else 0:Nat)=0:=rfl;rw[h2] at h1;unfold dpN;omega
 ·unfold dpN;rw[List.set_eq_of_length_le Z];exact Qb _
def Xmi{ns:List Nd}{k:Int}(hs:spI ns k=true):spN (dpN ns k)<spN ns:=by
 have ⟨_,h,h3⟩:=X0z hs;have h1:=Xbe ns k.toNat nZ h;have h2:(if nZ.k=3 then 1 else 0:Nat)=0:=rfl;rw[h2,Q4 h3] at h1;unfold dpN;omega
structure Nx (N s c:Nat) (d:Dg) : Prop where
 l:d.ns.length=N
 w:RgW N d.ws
 c:d.ws.length<=c
 s:spN d.ns<=s
def Nx.mono{N s c s' c':Nat}{d:Dg}(h:Nx N s c d)(hs:s<=s')(hc:c<=c'):Nx N s' c' d:=⟨h.l,h.w,Q0 h.c hc,Q0 h.s hs⟩
def Nx.jn{N s c:Nat}{d:Dg}(h:Nx N s c d){a b:Int}{x:Bool}(ha:0<=a/\a<N)(hb:0<=b/\b<N):Nx N s (c+1) { d with ws:=jnW d.ws a b x }:=
 ⟨h.l,Xe2 h.w ha hb,by have:=h.c;dsimp only;rw[X6f];omega,h.s⟩
def Nx.ad{N s c:Nat}{d:Dg}(h:Nx N s c d)(x m:Int):Nx N s c { d with ns:=adN d.ns x m }:=⟨(X2v _ _ _).trans h.l,h.w,h.c,by dsimp only;rw[Xta];exact h.s⟩
def Nx.dp{N s c:Nat}{d:Dg}(h:Nx N s c d)(k:Int):Nx N s c (id0 d k):=⟨(X2e _ _).trans h.l,Ybl h.w k,Q0 (X3h _ _) h.c,Q0 (Y6f k) h.s⟩
def Nx.lk{N s c:Nat}{d:Dg}(h:Nx N s c d){a b:Int}{x:Bool}(ha:0<=a/\a<N)(hb:0<=b/\b<N):Nx N s (c+1) (lkD d a b x):=by
 have h1:=Xrg d a b x;refine ⟨h1.1.trans h.l,?_,Q0 h1.2 (Nat.succ_le_succ h.c),?_⟩
 ·unfold lkD;split
  ·exact Xe2 h.w ha hb
  ·split
   ·exact Xm6 h.w _
   ·split
    ·exact Xe2 (Xm6 h.w _) ha hb
    ·exact h.w
 ·unfold lkD;split
  ·exact h.s
  ·split
   ·exact h.s
   ·split
    ·dsimp only;rw[Xta];exact h.s
    ·exact h.s
def Nx.mt{N s c:Nat}{d:Dg}(h:Nx N s c d){a b:Int}{x:Bool}(ha:0<=a/\a<N)(hb:0<=b/\b<N):Nx N s (c+1) (mtD d a b x):=by
 unfold mtD;split
 ·exact h.lk ha hb
 ·exact h.jn ha hb
def Nx.tg{N s c:Nat}{d:Dg}(h:Nx N s c d){a b:Int}(ha:0<=a/\a<N)(hb:0<=b/\b<N):Nx N s (c+1) (tgD d a b):=by
 have h1:=X3m d a b;refine ⟨by rw[h1.1];exact h.l,?_,Q0 h1.2 (Nat.succ_le_succ h.c),by rw[h1.1];exact h.s⟩;unfold tgD;split
 ·exact Xm6 h.w _
 ·exact Xe2 h.w ha hb
def Nx.tgl{N s:Nat}{x:Int}(hx:0<=x/\x<N):∀ (l:List Int) (c:Nat) (d:Dg),Nx N s c d->(∀ y ∈ l,0<=y/\y<(N:Int))->Nx N s (c+l.length) (tgL d x l)
 | [],c,d,h,_=>h
 | y::l,c,d,h,hl=>by
  have h1:=Nx.tgl hx l (c+1) (tgD d x y) (h.tg hx (hl y O4)) fun z hz=>hl z (by simp[hz]);exact h1.mono (Qb _) (by rw[Qs];omega)
def X7y{l:List Int}{N:Nat}(hl:∀ y ∈ l,0<=y/\y<(N:Int)){i:Nat}(hi:i<l.length):0<=l.getD i 0/\l.getD i 0<(N:Int):=hl _ (Qe (Xg (d:=0) hi))
def Nx.lc{N s c:Nat}{p:Int}{l:List Int}{o:Dg}(h:Nx N s c o)(hl:∀ y ∈ l,0<=y/\y<(N:Int)):∀ i,i<=l.length->Nx N s (c+i*l.length) (lcS p l o i)
 | 0,_=>h.mono (Qb _) Z
 | i+1,hi=>by
  have ih:=Nx.lc (p:=p) h hl i Z;have h1:=Nx.tgl (X7y hl (i:=i) Z) (l.take i) _ _ (ih.ad (l.getD i 0) (8-p)) fun y hy=>hl y (Wd hy);refine h1.mono (Qb _) ?_;rw[Qn,Wb,Nat.one_mul];omega
def Nx.fu{N s:Nat}{d:Dg}{a b:Int}(ha:0<=a/\a<N):∀ (l:List Int) (c:Nat) (o:Dg),Nx N s c o->(∀ y ∈ l,0<=y/\y<(N:Int))->Nx N s (c+l.length) (fuS d a b l o)
 | [],c,o,h,_=>h
 | y::l,c,o,h,hl=>by
  have h0:Nx N s (c+1) (fuT d a b o y):=by
   unfold fuT;split
   ·exact h.mono (Qb _) Z
   ·exact h.mt ha (hl y O4)
  exact (Nx.fu ha l (c+1) (fuT d a b o y) h0 fun z hz=>hl z (by simp[hz])).mono (Qb _) (by rw[Qs];omega)
def Nx.st{N s c:Nat}{d:Dg}(h:Nx N s c d)(q:Bool)(x m:Int):Nx N s c (stN q d x m):=by
 unfold stN;split
 ·exact h.ad x m
 ·exact h
def Nx.pf{N s:Nat}{l m:List Int}{x:Int}(hx:0<=x/\x<N):∀ (r:List Int) (c:Nat) (o:Dg),Nx N s c o->(∀ y ∈ r,0<=y/\y<(N:Int))->Nx N s (c+r.length) (pvF l m x r o)
 | [],c,o,h,_=>h
 | y::r,c,o,h,hl=>by
  have h0:Nx N s (c+1) (pvT l m x o y):=by
   unfold pvT;split
   ·exact h.tg hx (hl y O4)
   ·exact h.mono (Qb _) Z
  exact (Nx.pf hx r (c+1) (pvT l m x o y) h0 fun z hz=>hl z (by simp[hz])).mono (Qb _) (by rw[Qs];omega)
def Nx.pm{N s c:Nat}{e f:Int}{l m r:List Int}{o:Dg}(h:Nx N s c o)(hl:∀ y ∈ r,0<=y/\y<(N:Int)):∀ i,i<=r.length->Nx N s (c+i*r.length) (pvM e f l m r o i)
 | 0,_=>h.mono (Qb _) Z
 | i+1,hi=>by
  have ih:=Nx.pm (e:=e) (f:=f) (l:=l) (m:=m) h hl i Z;have hg:=X7y hl (i:=i) Z;have h1:=Nx.pf (l:=l) (m:=m) hg (r.take i) _ _ (((ih.st (l.any fun v=>v==r.getD i 0) (r.getD i 0) f).st (m.any fun v=>v==r.getD i 0) (r.getD i 0) e).st ((l.any fun v=>v==r.getD i 0)&&(m.any fun v=>v==r.getD i 0)) (r.getD i 0) 4) fun y hy=>hl y (Wd hy);refine h1.mono (Qb _) ?_;rw[Qn,Wb,Nat.one_mul];omega
def InD.rg{d:Dg}(h:InD d):RgW d.ns.length d.ws:=fun x hx=>by
 have e:=h.e x hx;have l:=h.w.l x hx;omega
def InD.nx{d:Dg}(h:InD d):Nx d.ns.length (spN d.ns) 1000001 d:=⟨rfl,h.rg,h.len,Qb _⟩
def nx0{d:Dg}(h:InD d){k:Int}(hs:spI d.ns k=true):Nx d.ns.length (spN d.ns-1) 1000001 (id0 d k):=by
 have h1:=h.nx.dp k;have h2:spN (dpN d.ns k)<spN d.ns:=Xmi hs;exact ⟨h1.l,h1.w,h1.c,by show spN (dpN d.ns k)<=_;omega⟩
def X9p{ns:List Nd}{k:Int}(hs:spI ns k=true):0<spN ns:=by
 have:=Xmi hs;omega
def Xbc{d:Dg}(h:InD d)(k:Int):∀ y ∈ nearW d.ws k,0<=y/\y<(d.ns.length:Int):=fun y hy=>by have:=X2p h hy;omega
def Y1d{a n:Nat}(h:a<=2000)(h2:n<=2000):a*n<=4000000:=Q0 (Nat.mul_le_mul h h2) O5
def Y5m{N s c:Nat}{d:Dg}(h:Nx N s c d)(t r:Int):Nx N s c { d with t:=t,r:=r }:=⟨h.l,h.w,h.c,h.s⟩
def Xp9{d:Dg}(h:InD d){r:Rz}(hc:doC d r=true):Nx d.ns.length (spN d.ns-1) 9000000 (doD d r)/\0<spN d.ns:=by
 unfold doC at hc;unfold doD;split at hc
 ·rename_i h1;rw[Q4 h1];have hs:=Xc5 hc;unfold fuC at hc;simp only[Qd] at hc;refine ⟨?_,X9p hc.1.1.2⟩;have h0:=(nx0 h hc.1.1.2).ad r.a (d.ns.getD r.b.toNat nZ).p;exact (Nx.fu (d:=d) (a:=r.a) (b:=r.b) ⟨hs.1.1,by omega⟩ (nearW d.ws r.b) _ _ h0 (Xbc h r.b)).mono (Qb _) (by have:=X4t h r.b;have:=h.m;omega)
 rename_i h1;rw[Q3 h1];split at hc
 ·rename_i h2;rw[Q4 h2];unfold pvC at hc;simp only[Qd] at hc;have hsa:=hc.1.1.1.1.1.1.1.1;refine ⟨?_,X9p hsa⟩;have h0:=(nx0 h hsa).dp r.b;have h3:=Xfq h r.a r.b;have h4:=h.m;unfold pvD;refine Y5m ?_ _ _;refine (Nx.pm h0 ?_ _ (Qb _)).mono (Qb _) (by have:=Y1d (a:=(pvL d r.a r.b).length) (n:=(pvL d r.a r.b).length) Z Z;omega);intro y hy;have ⟨i,hi⟩:=List.mem_iff_getElem?.1 hy;have:=Xfp h hi;omega
 rename_i h2;rw[Q3 h2];split at hc
 ·cases hc
 split at hc
 ·rename_i h3;rw[Q4 h3];unfold idC at hc;simp only[Qd,beq_iff_eq] at hc;refine ⟨?_,X9p hc.1.1⟩;have g0:=X7y (Xbc h r.a) (i:=0) Z;have g1:=X7y (Xbc h r.a) (i:=1) Z;exact ((nx0 h hc.1.1).mt g0 g1).mono (Qb _) Z
 rename_i h3;rw[Q3 h3];split at hc
 ·rename_i h4;rw[Q4 h4];unfold lcC at hc;simp only[Qd] at hc;have hsa:=hc.1.1.1;refine ⟨?_,X9p hsa⟩;have h5:=X4t h r.a;have h6:=h.m;unfold lcD;refine Y5m ?_ _ _;exact (Nx.lc (nx0 h hsa) (Xbc h r.a) _ (Qb _)).mono (Qb _) (by have:=Y1d (a:=(nearW d.ws r.a).length) (n:=(nearW d.ws r.a).length) Z Z;omega)
 rename_i h4;rw[Q3 h4];split at hc
 ·unfold loC at hc;simp only[Qd] at hc;refine ⟨?_,X9p hc.1.1⟩;exact (Y5m (nx0 h hc.1.1) d.t _).mono (Qb _) Z
 ·cases hc
def zD:Dg:=⟨0,[],[],0,0⟩
def outD(d:Dg) : Dg:={ d with t:=d.t.tmod 8 }
def apC(d:Dg)(r:Rz) : Bool:=doC d r&&goodD (outD (doD d r))
def apD(d:Dg)(r:Rz) : Dg:=outD (doD d r)
def Xed:∀ (l:List Wr),(∀ i,i+1<l.length->wlt (l.getD i wZ) (l.getD (i+1) wZ)=true)->WSd l
 | [],_=>List.Pairwise.nil
 | [x],_=>by simp
 | x::y::l,h=>by
  have h0:=h 0 O4;have ih:=Xed (y::l) fun i hi=>by
   have:=h (i+1) (by simpa using hi);simpa using this
  have h2:=W8.1 ih;refine W8.2 ⟨fun z hz=>?_,ih⟩;rcases Qv.1 hz with rfl|hz
  ·simpa using h0
  ·exact Xjl (by simpa using h0) (h2.1 z hz)
def X3d{d:Dg}(h:goodD d=true):hdQ d=true/\(∀ i,i<d.ws.length->wrQ d i=true)/\(∀ i:Nat,i<d.ns.length->ndQ d (i:Int)=true)/\endQ d=true:=by grind [endQ,goodD,hdQ,ndQ,wrQ]
def X6b{d:Dg}(h:goodD d=true):(1<=d.n/\d.n<=5)/\d.ns.length<=40/\(0<=d.t/\d.t<=7)/\-60<=d.r/\d.r<=60:=by
 have h1:=(X3d h).1;unfold hdQ at h1;exact (Xqq (by simpa using h1)).2
def X9c{d:Dg}(h:goodD d=true){i:Nat}{x:Nd}(hx:d.ns[i]? = some x):(0<=x.k/\x.k<=3)/\(0<=x.p/\x.p<=7):=by
 have h1:=(X3d h).2.2.1 i (Qg.1 hx).1;have h2:=X6b h;have hg:d.ns.getD ((i:Int)).toNat nZ=x:=by rw[Qj,Qa,hx];rfl
 unfold ndQ at h1;rw[hg] at h1;split at h1
 ·rename_i hk;simp only[Qd,beq_iff_eq] at h1 hk;omega
 split at h1
 ·rename_i hk;simp only[Qd,Bool.or_eq_true,beq_iff_eq,X11] at h1 hk;omega
 ·simp only[Qd,beq_iff_eq,X11] at h1;omega
def Xb6{d:Dg}(h:goodD d=true){i:Nat}{x:Wr}(hx:d.ws[i]? = some x):0<=x.a/\x.a<x.b/\x.b<d.ns.length/\(0<i->wlt (d.ws.getD (i-1) wZ) x=true):=by
 have h1:=(X3d h).2.1 i (Qg.1 hx).1;rw[Xuc hx] at h1;simp only[Bool.not_eq_true',Bool.or_eq_false_iff,Bool.not_eq_false',X11,decide_eq_false_iff_not,Bool.and_eq_false_iff] at h1;refine ⟨by omega,by omega,by omega,fun h0=>?_⟩;rcases h1.2 with h3|h3
 ·omega
 ·exact h3
def X1k{d:Dg}(h:goodD d=true):InD d:=by
 refine ⟨⟨Xed _ fun i hi=>?_,fun x hx=>?_⟩,fun x hx=>?_,fun x hx=>?_,by have:=X6b h;omega⟩
 ·have:=(Xb6 h (Xg (d:=wZ) hi)).2.2.2 Z;simpa using this
 ·have ⟨i,hi⟩:=List.mem_iff_getElem?.1 hx;exact (Xb6 h hi).2.1
 ·have ⟨i,hi⟩:=List.mem_iff_getElem?.1 hx;have:=Xb6 h hi;omega
 ·have ⟨i,hi⟩:=List.mem_iff_getElem?.1 hx;exact (X9c h hi).2
def X92{d:Dg}{r:Rz}(h:apC d r=true):goodD (apD d r)=true:=by grind [apC,apD,goodD]
def Xk2{d:Dg}(hd:InD d){r:Rz}(h:apC d r=true):spN (apD d r).ns<spN d.ns:=by
 unfold apC at h;simp only[Qd] at h;have h1:=Xp9 hd h.1;have h2:=h1.1.s;show spN (doD d r).ns<_;omega
def Y0d{d:Dg}{r:Rz}(h1:doC d r=false):apC d r=false:=by unfold apC;rw[h1];rfl
def Ybk{N:Nat}{ws:List Wr}(h:RgW N ws)(hN:N<=1000):∀ x ∈ ws,-1000000<=x.b/\x.b<=1000000:=by grind [RgW,hN]
def alR(d:Dg)(u:Int)(a j:Nat) : List Rz:=((List.range j).map fun (b:Nat)=>(⟨u,a,b⟩ : Rz)).filter (apC d)
def alS(d:Dg)(u:Int)(k:Nat) : List Rz:=(List.range k).flatMap fun a=>alR d u a d.ns.length
def alL(d:Dg)(u:Int) : List Rz:=alS d u d.ns.length
def Y92{d:Dg}{u:Int}{a j:Nat}(h:apC d ⟨u,a,j⟩=true):alR d u a (j+1)=alR d u a j++[⟨u,a,j⟩]:=by
 unfold alR;rw[List.range_succ,List.map_append,List.filter_append];simp[h]
def Y91{d:Dg}{u:Int}{a j:Nat}(h:apC d ⟨u,a,j⟩=false):alR d u a (j+1)=alR d u a j:=by
 unfold alR;rw[List.range_succ,List.map_append,List.filter_append];simp[h]
def Xou(d:Dg)(u:Int)(k:Nat):alS d u (k+1)=alS d u k++alR d u k d.ns.length:=by
 unfold alS;rw[List.range_succ,List.flatMap_append];simp
def Xk0(d:Dg)(u:Int)(a j:Nat):(alR d u a j).length<=j:=by grind [alR]
def Xeh(d:Dg)(u:Int):∀ k,(alS d u k).length<=k*d.ns.length
 | 0=>by simp[alS]
 | k+1=>by
  rw[Xou,Qh,Wb,Nat.one_mul];have h1:=Xeh d u k;have h2:=Xk0 d u k d.ns.length;omega
def Xuw{d:Dg}{u:Int}{a j:Nat}{r:Rz}(h:r ∈ alR d u a j):apC d r=true:=(List.mem_filter.1 h).2
def Xuv{d:Dg}{u:Int}{r:Rz}(h:r ∈ alL d u):apC d r=true:=by
 unfold alL alS at h;have ⟨a,_,h⟩:=List.mem_flatMap.1 h;exact Xuw h
def fsF(d:Dg) : List Int->Option Rz
 | []=>none
 | u::l=>match alL d u with
  | r::_=>some r
  | []=>fsF d l
def rwZ:Rz:=⟨0,0,0⟩
def Xij{d:Dg}:∀ (l m:List Int),fsF d l=none->fsF d (l++m)=fsF d m
 | [],_,_=>rfl
 | u::l,m,h=>by
  have e:∀ q,fsF d (u::q)=match alL d u with
   | r::_=>some r
   | []=>fsF d q:=fun _=>rfl
  rw[e] at h;rw[Wa,e];cases ha:alL d u with
  | nil=>
   rw[ha] at h;exact Xij l m h
  | cons r t=>rw[ha] at h;cases h
def Y0u{d:Dg}{l:List Int}{k:Nat}{u:Int}(h:fsF d (l.take k)=none)(hu:l[k]? = some u)(ha:alL d u=[]):fsF d (l.take (k+1))=none:=by
 rw[Qt,hu,Option.toList_some,Xij _ _ h];unfold fsF;rw[ha];rfl
def Xqa{d:Dg}{l:List Int}{k:Nat}{u:Int}(h:fsF d (l.take k)=none)(hu:l[k]? = some u)(ha:0<(alL d u).length):fsF d l=some ((alL d u).getD 0 rwZ):=by
 have hl:l=l.take k++(u::l.drop (k+1)):=by
  have ⟨hk,e⟩:=Qg.1 hu;rw[<- e,<- Qy hk,W9]
 rw[hl,Xij _ _ h];unfold fsF;cases hc:alL d u with
 | nil=>rw[hc] at ha;simp at ha
 | cons r t=>rfl
def Xq9{d:Dg}{l:List Int}{k:Nat}(h:fsF d (l.take k)=none)(hk:l.length<=k):fsF d l=none:=by rwa [Qi hk] at h
def X6w{d:Dg}{r:Rz}:∀ {l:List Int},fsF d l=some r->apC d r=true
 | [],h=>by cases h
 | u::l,h=>by
  unfold fsF at h;cases ha:alL d u with
  | nil=>rw[ha] at h;exact X6w h
  | cons x t=>
   rw[ha] at h;injection h with h;subst h;exact Xuv (u:=u) (by rw[ha];simp)
def siF:Nat->Dg->List Int->Dg×List Rz
 | 0,d,_=>(d,[])
 | n+1,d,l=>match fsF d l with
  | none=>(d,[])
  | some r=>((siF n (apD d r) l).1,r::(siF n (apD d r) l).2)
def siD(d:Dg)(l:List Int) : Dg:=(siF (spN d.ns) d l).1
def siL(d:Dg)(l:List Int) : List Rz:=(siF (spN d.ns) d l).2
def Xj9{l:List Int}:∀ (n:Nat) (d:Dg),InD d->spN d.ns<=n->siF n d l=siF (spN d.ns) d l
 | 0,d,_,h=>by rw[show spN d.ns=0 by omega]
 | n+1,d,hd,h=>by
  cases hf:fsF d l with
  | none=>
   have h1:siF (n+1) d l=(d,[]):=by unfold siF;rw[hf]
   rw[h1];cases hs:spN d.ns with
   | zero=>rfl
   | succ m=>unfold siF;rw[hf]
  | some r=>
   have hc:=X6w hf;have hlt:=Xk2 hd hc;have ⟨m,hm⟩ : ∃ m,spN d.ns=m+1:=⟨spN d.ns-1,by omega⟩;rw[hm];have e1:=Xj9 (l:=l) n (apD d r) (X1k (X92 hc)) Z;have e2:=Xj9 (l:=l) m (apD d r) (X1k (X92 hc)) Z;unfold siF;rw[hf];dsimp only;rw[e1,e2]
def Xme{d:Dg}{l:List Int}{r:Rz}(hd:InD d)(hf:fsF d l=some r):siD d l=siD (apD d r) l/\siL d l=r::siL (apD d r) l:=by
 have hc:=X6w hf;have hlt:=Xk2 hd hc;have ⟨m,hm⟩ : ∃ m,spN d.ns=m+1:=⟨spN d.ns-1,by omega⟩;have e2:=Xj9 (l:=l) m (apD d r) (X1k (X92 hc)) Z;have e3:siF (m+1) d l=((siF m (apD d r) l).1,r::(siF m (apD d r) l).2):=by rw[siF,hf]
 unfold siD siL;rw[hm,e3,e2];exact ⟨O,O⟩
def Xt3{d:Dg}{l:List Int}(hf:fsF d l=none):siD d l=d/\siL d l=[]:=by
 unfold siD siL;cases hs:spN d.ns with
 | zero=>exact ⟨rfl,rfl⟩
 | succ m=>unfold siF;rw[hf];exact ⟨rfl,rfl⟩
def spK(ns:List Nd)(k:Nat) : List Int:=((List.range k).filter fun i=>(ns.getD i nZ).k==3).map fun (i:Nat)=>(i:Int)
def spL(ns:List Nd) : List Int:=spK ns ns.length
def Y1w{ns:List Nd}{k:Nat}{x:Nd}(hx:ns[k]? = some x)(h:(x.k==3)=true):spK ns (k+1)=spK ns k++[(k:Int)]:=by
 have e:ns.getD k nZ=x:=by rw[Qa,hx];rfl
 unfold spK;rw[List.range_succ,List.filter_append];simp only[List.filter_cons,e,h,List.filter_nil,if_true,List.map_append,List.map_cons,List.map_nil]
def Y1v{ns:List Nd}{k:Nat}{x:Nd}(hx:ns[k]? = some x)(h:(x.k==3)=false):spK ns (k+1)=spK ns k:=by
 have e:ns.getD k nZ=x:=by rw[Qa,hx];rfl
 unfold spK;rw[List.range_succ,List.filter_append];simp only[List.filter_cons,e,h,List.filter_nil,List.append_nil,Bool.false_eq_true,if_false]
def X86(ns:List Nd)(k:Nat):(spK ns k).length<=k:=by grind [spK]
def Xtb(ns:List Nd):spN ns<=ns.length:=List.length_filter_le _ _
def plQ(d:Dg)(u:Wr) : Bool:=!(u.h||((d.ns.getD u.a.toNat nZ).k+(d.ns.getD u.b.toNat nZ).k != 3)||((d.ns.getD u.a.toNat nZ).p != (d.ns.getD u.b.toNat nZ).p))
def plD(d:Dg) : Bool:=d.ws.all (plQ d)&&((spL d.ns).length:Int)==0
def Xhl{l:List Int}:∀ (n:Nat) (d:Dg),goodD d=true->goodD (siF n d l).1=true
 | 0,d,h=>h
 | n+1,d,h=>by
  unfold siF;cases hf:fsF d l with
  | none=>exact h
  | some r=>exact Xhl n _ (X92 (X6w hf))
def X4h{d:Dg}(l:List Int)(h:goodD d=true):goodD (siD d l)=true:=Xhl _ d h
abbrev Zb5(o:Dg)(l:List Int) : Rz:=(fsF o l).getD rwZ
abbrev Zb6(o:Dg)(r:Rz) : Dg:=if (apC o r)=true then apD o r else zD
abbrev Zb8(d:Dg)(x:Rz) : Dg:=if doC d x=true then outD (doD d x) else d
abbrev Zb9(d:Dg)(x:Rz) : Dg:=if (goodD (outD (Zb7 d x)))=true then outD (Zb7 d x) else zD
theorem Y7o(k:World)(d:Dg)(md:Nat)(m:md=d.ns.length)(Ad:Option Addr)(cd:Nat)(o:Rw k 85 encNd Ad d.ns)(Bd:Option Addr)(dd:Nat)(p:Rw k 99 encWr Bd d.ws)(q:d.ws.length<=dd)(aC:d.ws.length<=1000000000)(aD:∀ x ∈ d.ws,-1000000<=x.b/\x.b<=1000000):RE 93 [.agg #[vi d.n,.slice Ad md cd,.slice Bd d.ws.length dd,vi d.t,vi d.r]] k (fun v w=>∃ A c1 B e,v=.tuple #[.agg #[vi (if (goodD (outD d))=true then outD d else zD).n,.slice A (if (goodD (outD d))=true then outD d else zD).ns.length c1,.slice B (if (goodD (outD d))=true then outD d else zD).ws.length e,vi (if (goodD (outD d))=true then outD d else zD).t,vi (if (goodD (outD d))=true then outD d else zD).r],.bool (goodD (outD d))]/\Rw w 85 encNd A (if (goodD (outD d))=true then outD d else zD).ns/\Rw w 99 encWr B (if (goodD (outD d))=true then outD d else zD).ws/\(if (goodD (outD d))=true then outD d else zD).ws.length<=e/\Bl k w):=by
 refine enter func93 O 13 O O ?_;intro a i;have g:=bz k;refine ZS i fun aE=>Zf (X0n (zs:=(Zc4 d Ad md cd Bd dd)) O O) ?_;rintro _ w1 ⟨b4,rfl,aF,u,c⟩;have a6:=Q0 g.size aF;have g:=btr g u;refine Zf (X0b (zs:=Zc5) X1c O) ?_;rintro _ w2 ⟨b7,rfl,aG,u,f⟩;have aB:b4≠b7:=by have:=c.lt;omega
 have y:=Q0 g.size aG;have c:=c.bw u;have g:=btr g u;refine Za O<|Zx aE fun a i _ aH=>Ze (Vd O X1o 3)<|Ze (X0 O X8 (c.at 3))<|Ze (X46 O O O)<|Ze (Vd O X1o 3)<|Zo (Vu (vs:=[vi (d.t.tmod 8)]) (l':=[vi d.n,.slice Ad md cd,.slice Bd d.ws.length dd,vi (d.t.tmod 8),vi d.r]) O O X0p c) ?_;intro _ w3 ⟨ho,hb⟩;have f:=f.oy ho Z;have g:=Below.oy g ho a6;have c:=hb;refine ZX aH fun a i _ aI=>ZS i fun a7=>Ze (Vn X2 c)<|Zf (Vc (Xzg _ (⟨d.n,d.ns,d.ws,d.t.tmod 8,d.r⟩ : Dg) md m Ad cd (o.bx g).top Bd dd (p.bx g).top q aC aD) Xko) ?_;rintro _ w4 ⟨rfl,u⟩;have ⟨c,f,g⟩:=mv3 u c f g;refine Ze (X1i O)<|Zt a7 fun a i=>Xx i O ?_ ?_<;>intro j
 ·have aJ:goodD (outD d)=false:=by have h8:(!goodD (outD d))=true:=j;simpa using h8
  refine ZS i fun a8=>Ze (X0k (ps:=[]) (cs:=Zc5) O (fun _=>by first|rfl|kernel_rfl))<|Zo (Vw Zc5 Xv f) ?_;intro _ w5 ⟨ho,hb⟩;have g:=Below.oy g ho y;have f:=hb;refine Za O<|Zt a8 fun a i=>Q6<|X9<|X6 i (X1q i O (ResV.cellN (l:=Zc5) O X2 (f.at 0) O) O) ?_;rw[aJ,Q3 Bool.false_ne_true];exact ⟨none,0,none,0,O,(Rd.nil _ _ _ _ _),(Rd.nil _ _ _ _ _),(Qf _),g⟩
 have aK:goodD (outD d)=true:=by have h8:(!goodD (outD d))=false:=j;simpa using h8
 refine Q7<|aI _ _<|ZS i fun aA=>Ze (Vn X2 c)<|Zo (Vw [vi d.n,.slice Ad md cd,.slice Bd d.ws.length dd,vi (d.t.tmod 8),vi d.r] Xv f) ?_;intro _ w6 ⟨ho,hb⟩;have g:=Below.oy g ho y;have f:=hb;refine Za O<|Zt aA fun a i=>Q6 (X6 i (X1q i O (ResV.cellN (l:=[vi d.n,.slice Ad md cd,.slice Bd d.ws.length dd,vi (d.t.tmod 8),vi d.r]) O X2 (f.at 0) O) O) ?_);rw[aK,Q4 rfl];subst m;exact ⟨Ad,cd,Bd,dd,O,(o.bx g).top,(p.bx g).top,q,g⟩
theorem Xzj(M:World)(d:Dg)(md:Nat)(aA:md=d.ns.length)(Ad:Option Addr)(cd:Nat)(aB:Rw M 85 encNd Ad d.ns)(Bd:Option Addr)(dd:Nat)(aC:Rw M 99 encWr Bd d.ws)(aD:d.ws.length<=dd)(x:Rz)(hD:InD d):RE 57 [.agg #[vi d.n,.slice Ad md cd,.slice Bd d.ws.length dd,vi d.t,vi d.r],.agg #[vi x.u,vi x.a,vi x.b]] M (fun v w=>∃ A c1 B e,v=.tuple #[.agg #[vi (if (apC d x)=true then apD d x else zD).n,.slice A (if (apC d x)=true then apD d x else zD).ns.length c1,.slice B (if (apC d x)=true then apD d x else zD).ws.length e,vi (if (apC d x)=true then apD d x else zD).t,vi (if (apC d x)=true then apD d x else zD).r],.bool (apC d x)]/\Rw w 85 encNd A (if (apC d x)=true then apD d x else zD).ns/\Rw w 99 encWr B (if (apC d x)=true then apD d x else zD).ws/\(if (apC d x)=true then apD d x else zD).ws.length<=e/\Bl M w):=by
 refine enter func57 O 21 O O ?_;intro a k;have g:=bz M;refine ZS k fun aR=>Zf (X0n (zs:=(Zc4 d Ad md cd Bd dd)) O O) ?_;rintro _ w1 ⟨b4,rfl,aS,i,j⟩;have aY:=Q0 g.size aS;have g:=btr g i;refine Zf (X0n (zs:=[vi x.u,vi x.a,vi x.b]) O O) ?_;rintro _ w2 ⟨b5,rfl,aT,i,a6⟩;have aZ:=Q0 g.size aT;have j:=j.bw i;have g:=btr g i;refine Zf (X0b (zs:=Zc5) X1c O) ?_;rintro _ w3 ⟨b8,rfl,aU,i,f⟩;have aQ:b4≠b8:=by have:=j.lt;omega
 have N:=Q0 g.size aU;have ⟨j,a6,g⟩:=mv3 i j a6 g;refine Za O<|Zx aR fun a k _ aV=>Ze (Vn X2 j)<|Ze (Vn X30 a6)<|Zf (Vc (Y82 _ d md aA Ad cd (aB.bx g).top Bd dd (aC.bx g).top aD x hD) Xwu) ?_;rintro _ w4 ⟨H,I,J,L,rfl,o,p,aE,aF,i⟩;have ⟨j,f,g⟩:=mv3 i j f g;refine Zm O<|Ze (Xf (vs:=[.agg #[vi ((if (doC d x)=true then doD d x else d).n),.slice H md I,.slice J ((if (doC d x)=true then doD d x else d).ws).length L,vi ((if (doC d x)=true then doD d x else d).t),vi ((if (doC d x)=true then doD d x else d).r)],.bool (doC d x)]) O O)<|Ze (Xf (vs:=[.agg #[vi ((if (doC d x)=true then doD d x else d).n),.slice H md I,.slice J ((if (doC d x)=true then doD d x else d).ws).length L,vi ((if (doC d x)=true then doD d x else d).t),vi ((if (doC d x)=true then doD d x else d).r)],.bool (doC d x)]) O O)<|ZB [vi ((if (doC d x)=true then doD d x else d).n),.slice H md I,.slice J ((if (doC d x)=true then doD d x else d).ws).length L,vi ((if (doC d x)=true then doD d x else d).t),vi ((if (doC d x)=true then doD d x else d).r)] X1c Xv fun b14 w6 aG i aH=>?_;have aI:b4≠b14:=by have:=j.lt;omega
 have aJ:b8≠b14:=by have:=f.lt;omega
 have aW:=Q0 g.size aG;have ⟨f,o,p,g⟩:=mv4 i f o p g;refine Za O<|ZX aV fun a k _ aK=>ZS k fun aL=>Zm O<|Ze (X1i O)<|Zt aL fun a k=>Xx k O ?_ ?_<;>intro q
 ·have aX:apC d x=false:=Y0d (by have h8:=q;simpa using h8);refine ZS k fun aM=>Ze (X0k (ps:=[]) (cs:=Zc5) O (fun _=>by first|rfl|kernel_rfl))<|Zo (Vw Zc5 Xv f) ?_;intro _ w7 ⟨ho,hb⟩;have g:=Below.oy g ho N;have f:=hb;refine Za O<|Zt aM fun a k=>Q6<|X9<|X6 k (X1q k O (ResV.cellN (l:=Zc5) O X2 (f.at 0) O) O) ?_;rw[aX,Q3 Bool.false_ne_true];exact ⟨none,0,none,0,O,(Rd.nil _ _ _ _ _),(Rd.nil _ _ _ _ _),(Qf _),g⟩
 have a7:doC d x=true:=by have h8:=q;simpa using h8
 have aN:=Xp9 hD a7;have a8:(if doC d x=true then doD d x else d)=doD d x:=Q4 a7;refine Q7<|aK _ _<|ZS k fun aO=>Ze (Vn X2 aH)<|Zf (Vc (Y7o _ (if (doC d x)=true then doD d x else d) md aF H I o.top J L p.top aE (by rw[a8];exact Q0 aN.1.c O5) (by rw[a8];exact Ybk aN.1.w hD.m)) Xwg) ?_;rintro _ w8 ⟨y,h,C,D,rfl,E,G,aP,i⟩;have f:=f.bw i;have g:=btr g i;refine Ze (Xf (vs:=[.agg #[vi ((if (goodD (outD (if (doC d x)=true then doD d x else d)))=true then outD (if (doC d x)=true then doD d x else d) else zD).n),.slice y ((if (goodD (outD (if (doC d x)=true then doD d x else d)))=true then outD (if (doC d x)=true then doD d x else d) else zD).ns).length h,.slice C ((if (goodD (outD (if (doC d x)=true then doD d x else d)))=true then outD (if (doC d x)=true then doD d x else d) else zD).ws).length D,vi ((if (goodD (outD (if (doC d x)=true then doD d x else d)))=true then outD (if (doC d x)=true then doD d x else d) else zD).t),vi ((if (goodD (outD (if (doC d x)=true then doD d x else d)))=true then outD (if (doC d x)=true then doD d x else d) else zD).r)],.bool (goodD (outD (if (doC d x)=true then doD d x else d)))]) O O)<|Ze (Xf (vs:=[.agg #[vi ((if (goodD (outD (if (doC d x)=true then doD d x else d)))=true then outD (if (doC d x)=true then doD d x else d) else zD).n),.slice y ((if (goodD (outD (if (doC d x)=true then doD d x else d)))=true then outD (if (doC d x)=true then doD d x else d) else zD).ns).length h,.slice C ((if (goodD (outD (if (doC d x)=true then doD d x else d)))=true then outD (if (doC d x)=true then doD d x else d) else zD).ws).length D,vi ((if (goodD (outD (if (doC d x)=true then doD d x else d)))=true then outD (if (doC d x)=true then doD d x else d) else zD).t),vi ((if (goodD (outD (if (doC d x)=true then doD d x else d)))=true then outD (if (doC d x)=true then doD d x else d) else zD).r)],.bool (goodD (outD (if (doC d x)=true then doD d x else d)))]) O O)<|Zo (Vw [vi ((if (goodD (outD (if (doC d x)=true then doD d x else d)))=true then outD (if (doC d x)=true then doD d x else d) else zD).n),.slice y ((if (goodD (outD (if (doC d x)=true then doD d x else d)))=true then outD (if (doC d x)=true then doD d x else d) else zD).ns).length h,.slice C ((if (goodD (outD (if (doC d x)=true then doD d x else d)))=true then outD (if (doC d x)=true then doD d x else d) else zD).ws).length D,vi ((if (goodD (outD (if (doC d x)=true then doD d x else d)))=true then outD (if (doC d x)=true then doD d x else d) else zD).t),vi ((if (goodD (outD (if (doC d x)=true then doD d x else d)))=true then outD (if (doC d x)=true then doD d x else d) else zD).r)] Xv f) ?_;intro _ w9 ⟨ho,hb⟩;have E:=E.oT ho f O;have G:=G.oT ho f O;have g:=Below.oy g ho N;have f:=hb;refine Za O<|Zt aO fun a k=>Q6 (X6 k (X1q k O (ResV.cellN (l:=[vi ((if (goodD (outD (if (doC d x)=true then doD d x else d)))=true then outD (if (doC d x)=true then doD d x else d) else zD).n),.slice y ((if (goodD (outD (if (doC d x)=true then doD d x else d)))=true then outD (if (doC d x)=true then doD d x else d) else zD).ns).length h,.slice C ((if (goodD (outD (if (doC d x)=true then doD d x else d)))=true then outD (if (doC d x)=true then doD d x else d) else zD).ws).length D,vi ((if (goodD (outD (if (doC d x)=true then doD d x else d)))=true then outD (if (doC d x)=true then doD d x else d) else zD).t),vi ((if (goodD (outD (if (doC d x)=true then doD d x else d)))=true then outD (if (doC d x)=true then doD d x else d) else zD).r)]) O X2 (f.at 0) O) O) ?_)
 rw[show apC d x=goodD (outD (doD d x)) from by unfold apC;rw[a7,Qw]];rw[a8] at *;exact ⟨y,h,C,D,O,E.top,G.top,aP,g⟩
theorem Xzh(g:World)(d:Dg)(md:Nat)(aC:md=d.ns.length)(Ad:Option Addr)(cd:Nat)(aD:Rw g 85 encNd Ad d.ns)(Bd:Option Addr)(dd:Nat)(aX:Rw g 99 encWr Bd d.ws)(i:d.ws.length<=dd)(hN:md<=1000) : RE 58 [.agg #[vi d.n,.slice Ad md cd,.slice Bd d.ws.length dd,vi d.t,vi d.r]] g (fun v w=>∃ A c,v=.slice A (spL d.ns).length c/\Own w g.heap.size 3 1 encI A c (spL d.ns)/\Bl g w):=by
 refine enter func58 O 23 O O ?_;intro a e
 have f:=bz g
 refine ZS e fun aN=>Zf (X0n (zs:=[vi d.n,.slice Ad md cd,.slice Bd d.ws.length dd,vi d.t,vi d.r]) O O) ?_;rintro _ w1 ⟨b4,rfl,aO,hE,aP⟩;have aY:=Q0 f.size aO;have f:=btr f hE;refine Za O<|Zx aN fun a e _ aQ=>Za O<|ZX aQ fun a e _ aR=>ZS e fun aS=>Ze (Vd O Xn 1)<|Ze (X0 O X0f (aP.at 1))<|Ze (X0w O X00)<|Zm O<|Zt aS fun a e=>Q8<|X04 (σ:=Nat×(List Int)) (fun (s:Nat×(List Int)) (a:Act) (w:World)=>match s with|(k,m)=>∃ q x,Fr a 23 [(3,.slice q m.length x),(7,.slice Ad md cd),(8,vi (md:Int)),(9,vi (k:Int))]/\(k<=d.ns.length)/\(m=spK d.ns k)/\Own w g.heap.size 3 1 encI q x m/\d.ws.length<=dd/\Bl g w) (fun (s:Nat×(List Int))=>match s with|(k,m)=>d.ns.length-k) (0,[]) ?_ ?_
 ·exact ⟨none,0,e.sb,(Qf _),O,(Own.nil _ _ _ _ _),i,f⟩
 rintro ⟨k,m⟩ a w2 ⟨q,x,e,hk,hm,b,i,f⟩;have aT:=X86 d.ns k
 rw [<- hm] at aT
 refine ZS e fun aE=>Ze (X16 O O)<|ZX aE fun a e _ aF=>X0y e O (fun a6 y=>?_) (fun a6 y=>?_)
 ·obtain ⟨u9,a7⟩:=Xa (l:=d.ns) (k:=k) (by have:=y;omega)
  refine Q7<|aF _ _<|Q5 fun _ D=>?_;refine Q8<|ZS e fun aG=>?_;refine Zm O<|Zj (k:=k) (u:=u9) (enc:=encNd) (l:=d.ns) tv0 O aC O X00 X0o X03 (aD.bx f) a7 Z ?_;intro aZ a8;refine Ze (X07 (l:=[vi u9.k,vi u9.p]) O X44 a8 O)<|Zf (X0b (zs:=[vi 0,vi 0]) Xab O) ?_;rintro _ w3 ⟨b0,rfl,aH,hE,j⟩;have aA:=Q0 f.size aH;have b:=b.bw hE;have f:=btr f hE;refine Za O<|Zo (Vw [vi u9.k,vi u9.p] X0o j) ?_;rintro _ w4 ⟨ho,hb⟩;have b:=b.oT ho j O;have f:=Below.oy f ho aA;have j:=hb;refine Zx aG fun a e _ aI=>?_;refine Ze (Vd O X1v 0)<|Ze (X0 O X8 (j.at 0))<|Ze (X0l O O)<|Zt aI fun a e=>?_
  refine Xx e O ?_ ?_<;>intro h
  ·have B:=Y1w a7 h
   rw [<- hm] at B
   refine Zr e<|Zm O<|Zm O<|Zf (Xe (k:=1) (vs:=[vi (k:Int)]) (zs:=[vi (k:Int)]) O Xp X21 O O) ?_;rintro _ w5 ⟨b1,rfl,E,hE,C⟩;have aU:=Q0 f.size E;have o:=b.away E;have b:=b.bw hE;have f:=btr f hE;refine Zf (X0r (enc:=encI) (l:=(m)) (l2:=([(k:Int)])) (B0:=g.heap.size) O O Xp X21 Xj X37 b (Rd.of_blk C O _ C.lt) (by simp only [maxLen];simp;omega) O6 f.size) ?_;rintro _ w6 ⟨aV,aW,rfl,aJ,hg,aK⟩
   have G:Own _ g.heap.size 3 1 encI _ _ (m):=b
   have aB:=aK _ C.lt o;clear aK;have f:=Below.app f G hg (Qb _) f.size;clear G hg;exact Za O<|Zn fun a e=>Xd<|D _ _<|Zr e<|Ze (Xr O O Z Z)<|Zm O<|Zn fun a e=>Xh<|⟨(k+1,m++([(k:Int)])),⟨aV,aW,e.sb,Z,(by rw [B]),aJ,i,f⟩,O1⟩
  have B:=Y1v a7 h
  rw [<- hm] at B
  exact Q7<|Xd<|D _ _<|Zr e<|Ze (Xr O O Z Z)<|Zm O<|Zn fun a e=>Xh<|⟨(k+1,m),⟨q,x,e.sb,Z,(by rw [B]),b,i,f⟩,O1⟩
 have aL:m=spL d.ns:=by rw [hm,show k=d.ns.length by have:=y;omega];rfl
 refine Q9<|Xk<|Xk<|X06<|aR _ _<|ZS e fun aM=>Zm O<|Za O<|Zt aM fun a e=>Q6 (X6 e (Xq e O O) ?_)
 rw [<- aL]
 exact ⟨q,x,O,b,f⟩
def Y80(y:World)(d:Dg)(md:Nat)(aJ:md=d.ns.length)(Ad:Option Addr)(cd:Nat)(aK:Rw y 85 encNd Ad d.ns)(Bd:Option Addr)(dd:Nat)(aL:Rw y 99 encWr Bd d.ws)(p:d.ws.length<=dd)(x:Int)(hD:InD d):RE 91 [.agg #[vi d.n,.slice Ad md cd,.slice Bd d.ws.length dd,vi d.t,vi d.r],vi x] y (fun v w=>∃ A c,v=.slice A (alL d x).length c/\Own w y.heap.size 94 3 encRz A c (alL d x)/\Bl y w):=by
 have b2:=hD.m;refine enter func91 O 41 O O ?_;intro a f;have o:=bz y;refine ZS f fun b3=>Zf (X0n (zs:=(Zc4 d Ad md cd Bd dd)) O O) ?_;rintro _ w1 ⟨b4,rfl,b5,q,e⟩;have bJ:=Q0 o.size b5;have o:=btr o q;refine Za O<|Zx b3 fun a f _ b6=>Za O<|ZX b6 fun a f _ b7=>ZS f fun b8=>Ze (Vd O Xn 1)<|Ze (X0 O X0f (e.at 1))<|Ze (X0w O X00)<|Zm O<|Zt b8 fun a f=>Q8<|X04 (σ:=Nat×(List Rz)) (fun (s:Nat×(List Rz)) (a:Act) (w:World)=>match s with|(k,m)=>∃ C D,Fr a 41 [(1,vi x),(2,(pZ9 b4)),(5,.slice C m.length D),(13,vi (md:Int)),(14,vi (k:Int))]/\(k<=d.ns.length)/\(m=alS d x k)/\Blk w b4 54 (Zc4 d Ad md cd Bd dd)/\Own w y.heap.size 94 3 encRz C D m/\d.ws.length<=dd/\Bl y w) (fun (s:Nat×(List Rz))=>match s with|(k,m)=>d.ns.length-k) (0,[]) ?_ ?_
 ·exact ⟨none,0,f.sb,(Qf _),O,e,(Own.nil _ _ _ _ _),p,o⟩
 intro ⟨k,m⟩ a w2 ⟨C,D,f,hk,hm,e,N,p,o⟩;have b9:=Xeh d x k;rw[<- hm] at b9;have bO:k*d.ns.length<=1000*1000:=Nat.mul_le_mul Z b2;refine ZS f fun aM=>Ze (X16 O O)<|ZX aM fun a f _ aN=>X0y f O (fun a7 E=>?_) (fun a7 E=>?_)
 ·have bP:k<d.ns.length:=by have:=E;omega
  refine Q7<|aN _ _<|Q5 fun _ aO=>Q8<|ZS f fun aP=>Zm O<|Za O<|Zx aP fun a f _ aQ=>Ze (Vd O Xn 1)<|Ze (X0 O X0f (e.at 1))<|Ze (X0w O X00)<|Zm O<|Zt aQ fun a f=>Q8<|X04 (σ:=Nat×(List Rz)) (fun (s:Nat×(List Rz)) (a:Act) (w:World)=>match s with|(j,g)=>∃ G H,Fr a 41 [(1,vi x),(2,(pZ9 b4)),(5,.slice G g.length H),(6,vi (k:Int)),(13,vi (md:Int)),(14,vi (k:Int)),(19,vi (md:Int)),(20,vi (j:Int))]/\(j<=d.ns.length)/\(g=m++alR d x k j)/\Blk w b4 54 (Zc4 d Ad md cd Bd dd)/\Own w y.heap.size 94 3 encRz G H g/\d.ws.length<=dd/\Bl y w) (fun (s:Nat×(List Rz))=>match s with|(j,g)=>d.ns.length-j) (0,m) ?_ ?_
  ·exact ⟨C,D,f.sb,(Qf _),(by simp[alR]),e,N,p,o⟩
  intro ⟨j,g⟩ a w3 ⟨G,H,f,hj,Q,e,b,p,o⟩;refine ZS f fun aR=>Ze (X16 O O)<|ZX aR fun a f _ aS=>X0y f O (fun a8 I=>?_) (fun a8 I=>?_)
  ·have bQ:j<d.ns.length:=by have:=I;omega
   have bR:g.length<=1000*1000+1000:=by rw[Q,Qh];have:=Xk0 d x k j;omega
   refine Q7<|aS _ _<|Q5 fun _ U=>Q8<|ZS f fun aT=>Zm O<|Za O<|Zx aT fun a f _ aU=>Zm O<|Zm O<|Zm O<|Ze (X0k (ps:=[(0,vi x),(1,vi (k:Int)),(2,vi (j:Int))]) (cs:=[vi x,vi (k:Int),vi (j:Int)]) O (fun _=>by first|rfl|kernel_rfl))<|ZB [vi x,vi (k:Int),vi (j:Int)] Xaa X4k fun bC w5 W q i=>?_;have bD:=Q0 o.size W;have ⟨e,b,o⟩:=mv3 q e b o;refine Zx aU fun a f _ aV=>Ze (Vn X2 e)<|Ze (Vn X30 i)<|Zf (Vc (Xzj _ d md aJ Ad cd (aK.bx o).top Bd dd (aL.bx o).top p (⟨x,(k:Int),(j:Int)⟩ : Rz) hD) Xkr) ?_;rintro _ w6 ⟨aA,aB,aC,aD,rfl,bK,bL,bM,q⟩;have ⟨e,i,b,o⟩:=mv4 q e i b o;refine Zm O<|Ze (Xf (vs:=[.agg #[vi ((if (apC d (⟨x,(k:Int),(j:Int)⟩ : Rz))=true then apD d (⟨x,(k:Int),(j:Int)⟩ : Rz) else zD).n),.slice aA ((if (apC d (⟨x,(k:Int),(j:Int)⟩ : Rz))=true then apD d (⟨x,(k:Int),(j:Int)⟩ : Rz) else zD).ns).length aB,.slice aC ((if (apC d (⟨x,(k:Int),(j:Int)⟩ : Rz))=true then apD d (⟨x,(k:Int),(j:Int)⟩ : Rz) else zD).ws).length aD,vi ((if (apC d (⟨x,(k:Int),(j:Int)⟩ : Rz))=true then apD d (⟨x,(k:Int),(j:Int)⟩ : Rz) else zD).t),vi ((if (apC d (⟨x,(k:Int),(j:Int)⟩ : Rz))=true then apD d (⟨x,(k:Int),(j:Int)⟩ : Rz) else zD).r)],.bool (apC d (⟨x,(k:Int),(j:Int)⟩ : Rz))]) O O)<|Ze (Xf (vs:=[.agg #[vi ((if (apC d (⟨x,(k:Int),(j:Int)⟩ : Rz))=true then apD d (⟨x,(k:Int),(j:Int)⟩ : Rz) else zD).n),.slice aA ((if (apC d (⟨x,(k:Int),(j:Int)⟩ : Rz))=true then apD d (⟨x,(k:Int),(j:Int)⟩ : Rz) else zD).ns).length aB,.slice aC ((if (apC d (⟨x,(k:Int),(j:Int)⟩ : Rz))=true then apD d (⟨x,(k:Int),(j:Int)⟩ : Rz) else zD).ws).length aD,vi ((if (apC d (⟨x,(k:Int),(j:Int)⟩ : Rz))=true then apD d (⟨x,(k:Int),(j:Int)⟩ : Rz) else zD).t),vi ((if (apC d (⟨x,(k:Int),(j:Int)⟩ : Rz))=true then apD d (⟨x,(k:Int),(j:Int)⟩ : Rz) else zD).r)],.bool (apC d (⟨x,(k:Int),(j:Int)⟩ : Rz))]) O O)<|ZB [vi ((if (apC d (⟨x,(k:Int),(j:Int)⟩ : Rz))=true then apD d (⟨x,(k:Int),(j:Int)⟩ : Rz) else zD).n),.slice aA ((if (apC d (⟨x,(k:Int),(j:Int)⟩ : Rz))=true then apD d (⟨x,(k:Int),(j:Int)⟩ : Rz) else zD).ns).length aB,.slice aC ((if (apC d (⟨x,(k:Int),(j:Int)⟩ : Rz))=true then apD d (⟨x,(k:Int),(j:Int)⟩ : Rz) else zD).ws).length aD,vi ((if (apC d (⟨x,(k:Int),(j:Int)⟩ : Rz))=true then apD d (⟨x,(k:Int),(j:Int)⟩ : Rz) else zD).t),vi ((if (apC d (⟨x,(k:Int),(j:Int)⟩ : Rz))=true then apD d (⟨x,(k:Int),(j:Int)⟩ : Rz) else zD).r)] X1c Xv fun b30 w8 aW q bN=>?_;have aX:b4≠b30:=by have:=e.lt;omega
   have bE:=Q0 o.size aW;have ⟨e,i,b,o⟩:=mv4 q e i b o;refine Za O<|Zx aV fun a f _ aY=>Zm O<|Zt aY fun a f=>Xx f O ?_ ?_<;>intro J
   ·have aE:=Y92 (d:=d) (u:=x) (a:=k) (j:=j) J;refine Zr f<|Zm O<|Ze (Vn X30 i)<|Zf (Xe (k:=1) (vs:=[.agg #[vi x,vi (k:Int),vi (j:Int)]]) (zs:=[vi x,vi (k:Int),vi (j:Int)]) O X36 X3n O O) ?_;rintro _ w9 ⟨b33,rfl,a6,q,L⟩;have aG:bC≠b33:=by have:=i.lt;omega
    have bF:=Q0 o.size a6;have ⟨e,i,b,o⟩:=mv4 q e i b o;refine Zf (X0r (enc:=encRz) (l:=(g)) (l2:=([(⟨x,(k:Int),(j:Int)⟩ : Rz)])) (B0:=y.heap.size) O O X36 X3n X4x X7g b (Rd.of_blk L O _ L.lt) (by simp only[maxLen];simp;omega) O6 o.size) ?_;rintro _ bS ⟨bG,bH,rfl,aZ,Q,aF⟩;have M:Own _ y.heap.size 94 3 encRz _ _ (g):=b;clear aF;have e:=e.appT M Q O;have o:=Below.app o M Q (Qb _) o.size;clear M Q;exact Za O<|Zn fun a f=>Xd<|U _ _<|Zr f<|Ze (Xr O O Z Z)<|Zm O<|Zn fun a f=>Xh<|⟨(j+1,g++([(⟨x,(k:Int),(j:Int)⟩ : Rz)])),⟨bG,bH,f.sb,Z,(by rw[aE,Q];try rw[Qx]),e,aZ,p,o⟩,O1⟩
   have aE:=Y91 (d:=d) (u:=x) (a:=k) (j:=j) J;exact Q7<|Xd<|U _ _<|Zr f<|Ze (Xr O O Z Z)<|Zm O<|Zn fun a f=>Xh<|⟨(j+1,g),⟨G,H,f.sb,Z,(by rw[aE,Q];try rw[Qx]),e,b,p,o⟩,O1⟩
  have bI:g=alS d x (k+1):=by rw[Q,Xou,show j=d.ns.length by have:=I;omega,hm]
  exact Q9<|Xk<|Xk<|X06<|Xd<|aO _ _<|Zr f<|Ze (Xr O O Z Z)<|Zm O<|Zn fun a f=>Xh<|⟨(k+1,g),⟨G,H,f.sb,Z,bI,e,b,p,o⟩,O1⟩
 have b0:m=alL d x:=by rw[hm,show k=d.ns.length by have:=E;omega];rfl
 refine Q9<|Xk<|Xk<|X06<|b7 _ _<|ZS f fun b1=>Zm O<|Za O<|Zt b1 fun a f=>Q6 (X6 f (Xq f O O) ?_);rw[<- b0];exact ⟨C,D,O,N,o⟩
theorem Y7q(o:World)(d:Dg)(md:Nat)(aD:md=d.ns.length)(Ad:Option Addr)(cd:Nat)(aE:Rw o 85 encNd Ad d.ns)(Bd:Option Addr)(dd:Nat)(aF:Rw o 99 encWr Bd d.ws)(j:d.ws.length<=dd)(Al:Option Addr)(cl:Nat)(l:List Int)(aG:Rw o 3 encI Al l)(hD:InD d)(aY:l.length<=1000000000):RE 56 [.agg #[vi d.n,.slice Ad md cd,.slice Bd d.ws.length dd,vi d.t,vi d.r],.slice Al l.length cl] o (fun v w=>v=.tuple #[.agg #[vi ((fsF d l).getD rwZ).u,vi ((fsF d l).getD rwZ).a,vi ((fsF d l).getD rwZ).b],.bool ((fsF d l).isSome)]/\Bl o w):=by
 refine enter func56 O 26 O O ?_;intro a c;have f:=bz o;refine ZS c fun aP=>Zf (X0n (zs:=(Zc4 d Ad md cd Bd dd)) O O) ?_;rintro _ w1 ⟨b5,rfl,aQ,y,g⟩;have aW:=Q0 f.size aQ;have f:=btr f y;refine Zf (X0b (zs:=[vi 0,vi 0,vi 0]) Xaa O) ?_;rintro _ w2 ⟨b6,rfl,aR,y,e⟩;have h:=Q0 f.size aR;have g:=g.bw y;have f:=btr f y;refine Za O<|ZX aP fun a c _ aS=>ZS c fun aT=>Zm O<|Ze (X0w O Xp)<|Zm O<|Zt aT fun a c=>Q8<|X04 (σ:=Nat) (fun (k:Nat) (a:Act) (w:World)=>Fr a 26 [(2,(pZ9 b5)),(4,(pZ9 b6)),(9,.slice Al l.length cl),(10,vi (l.length:Int)),(11,vi (k:Int))]/\(k<=l.length)/\(fsF d (l.take k)=none)/\Blk w b5 54 (Zc4 d Ad md cd Bd dd)/\Blk w b6 94 [vi 0,vi 0,vi 0]/\d.ws.length<=dd/\Bl o w) (fun (k:Nat)=>l.length-k) 0 ?_ ?_
 ·exact ⟨c.sb,(Qf _),O,g,e,j,f⟩
 intro k a w3 ⟨c,hk,a6,g,e,j,f⟩;refine ZS c fun aU=>Ze (X16 O O)<|ZX aU fun a c _ aH=>X0y c O (fun a7 p=>?_) (fun a7 p=>?_)
 ·have ⟨aZ,aX⟩:=Xa (l:=l) (k:=k) Z;have ⟨i,a8⟩:=Xa (l:=l) (k:=k) (by have:=p;omega);have b0:=Xeh d i d.ns.length;refine Q7<|aH _ _<|Q5 fun _ aI=>Q8<|ZS c fun aJ=>Zi (k:=k) (u:=i) (enc:=encI) (l:=l) tv0 O O Xp X0p Xj (aG.bx f) a8 O ?_;intro b1 aA;refine Ze (X0 O X8 aA)<|Za O<|Zx aJ fun a c _ aK=>Ze (Vn X2 g)<|Zm O<|Zf (Vc (Y80 _ d md aD Ad cd (aE.bx f).top Bd dd (aF.bx f).top j i hD) Xws) ?_;rintro _ w4 ⟨b2,b3,rfl,m,y⟩;have m:=m.lower f.size;have ⟨g,e,f⟩:=mv3 y g e f;refine Za O<|Zx aK fun a c _ aM=>Zm O<|Ze (X0w O X36)<|Ze (X52 O O)<|Zt aM fun a c=>X0y c O (fun aB q=>?_) (fun aB q=>?_)
  ·have A:0<(alL d i).length:=by have:=q;omega
   have x:fsF d l=some ((alL d i).getD 0 rwZ):=Xqa a6 a8 A;refine ZS c fun aN=>Zm O<|Zi (k:=0) (u:=((alL d i).getD 0 rwZ)) (enc:=encRz) (l:=(alL d i)) tv0 O O X36 X4k X4x m.rd (Xg A) O ?_;intro b4 aC;refine Ze (X07 (l:=[vi (((alL d i).getD 0 rwZ).u),vi (((alL d i).getD 0 rwZ).a),vi (((alL d i).getD 0 rwZ).b)]) O X30 aC O)<|Zo (Vw [vi (((alL d i).getD 0 rwZ).u),vi (((alL d i).getD 0 rwZ).a),vi (((alL d i).getD 0 rwZ).b)] X4k e) ?_;intro _ w5 ⟨ho,hb⟩;have f:=Below.oy f ho h;have e:=hb;exact Za O<|Zt aN fun a c=>Q6<|Xu<|X9<|X9<|Xu<|X9<|X6 c (X1q c O (ResV.cellN (l:=[vi (((alL d i).getD 0 rwZ).u),vi (((alL d i).getD 0 rwZ).a),vi (((alL d i).getD 0 rwZ).b)]) O X30 (e.at 0) O) O)<|⟨by rw[x];rfl,f⟩
  have aV:fsF d (l.take (k+1))=none:=Y0u a6 a8 (List.length_eq_zero_iff.1 (by have:=q;omega));exact Q7<|Xd<|aI _ _<|Zr c<|Ze (Xr O O Z Z)<|Zm O<|Zn fun a c=>Xh<|⟨k+1,⟨c.sb,Z,aV,g,e,j,f⟩,Z⟩
 have x:fsF d l=none:=Xq9 a6 (by have:=p;omega);refine Q9<|Xk<|Xk<|X06<|aS _ _<|ZS c fun aO=>Ze (X0k (ps:=[]) (cs:=[vi 0,vi 0,vi 0]) O (fun _=>by first|rfl|kernel_rfl))<|Zo (Vw [vi 0,vi 0,vi 0] X4k e) ?_;intro _ w6 ⟨ho,hb⟩;have f:=Below.oy f ho h;have e:=hb;refine Za O<|Zt aO fun a c=>Q6 (X6 c (X1q c O (ResV.cellN (l:=[vi 0,vi 0,vi 0]) O X30 (e.at 0) O) O) ?_);exact ⟨by rw[x];rfl,f⟩
theorem Xd1(N:World)(d:Dg)(md:Nat)(aS:md=d.ns.length)(Ad:Option Addr)(cd:Nat)(aT:Rw N 85 encNd Ad d.ns)(Bd:Option Addr)(dd:Nat)(aU:Rw N 99 encWr Bd d.ws)(W:d.ws.length<=dd)(Al:Option Addr)(cl:Nat)(l:List Int)(aV:Rw N 3 encI Al l)(hD:InD d)(bH:l.length<=1000000000):RE 26 [.agg #[vi d.n,.slice Ad md cd,.slice Bd d.ws.length dd,vi d.t,vi d.r],.slice Al l.length cl] N (fun v w=>∃ A c B e P q,v=.tuple #[.agg #[vi (siD d l).n,.slice A (siD d l).ns.length c,.slice B (siD d l).ws.length e,vi (siD d l).t,vi (siD d l).r],.slice P (siL d l).length q]/\Rw w 85 encNd A (siD d l).ns/\Rw w 99 encWr B (siD d l).ws/\(siD d l).ws.length<=e/\Own w N.heap.size 94 3 encRz P q (siL d l)/\Bl N w):=by
 have bU:=hD.len;have bW:=hD.m;have bX:=Xtb d.ns;refine enter func26 O 31 O O ?_;intro a E;have j:=bz N;refine ZS E fun bI=>Zf (X0n (zs:=(Zc4 d Ad md cd Bd dd)) O O) ?_;rintro _ w1 ⟨b5,rfl,bJ,p,f⟩;have aI:=Q0 j.size bJ;have j:=btr j p;refine Zf (X0b (zs:=Zc5) X1c O) ?_;rintro _ w2 ⟨b8,rfl,bK,p,i⟩;have bG:b5≠b8:=by have:=f.lt;omega
 have aW:=Q0 j.size bK;have f:=f.bw p;have j:=btr j p;refine Za O<|Zx bI fun a E _ aX=>Ze (Vn X2 f)<|Zf (Vc (Xd2 _ d md aS Ad cd (aT.bx j).top Bd dd (aU.bx j).top W ⟨by omega,by omega⟩) X7k) ?_;rintro _ w3 ⟨aY,aZ,b0,b1,rfl,I,G,p⟩;have I:=I.lower j.size;have G:=G.lower j.size;have ⟨f,i,j⟩:=mv3 p f i j;refine Zo (Vw [vi d.n,.slice aY d.ns.length aZ,.slice b0 d.ws.length b1,vi d.t,vi d.r] Xv f) ?_;intro _ w4 ⟨Q,hb⟩;have i:=i.oy Q Z;have I:=I.oT Q f O;have G:=G.oT Q f O;have j:=Below.oy j Q aI;have f:=hb;refine Zx aX fun a E _ b2=>Za O<|Zt b2 fun a E=>Q8<|X04 (σ:=Dg×(List Rz)) (fun (s:Dg×(List Rz)) (a:Act) (w:World)=>match s with|(o,m)=>∃ aC aD J U L M,Fr a 31 [(1,.slice Al l.length cl),(2,(pZ9 b5)),(4,(pZ9 b8)),(6,.slice aC m.length aD)]/\(InD o)/\(siD o l=siD d l)/\(m++siL o l=siL d l)/\(m.length+spN o.ns<=spN d.ns)/\Blk w b5 54 [vi o.n,.slice J o.ns.length U,.slice L o.ws.length M,vi o.t,vi o.r]/\Blk w b8 54 Zc5/\Own w N.heap.size 94 3 encRz aC aD m/\Rw w 85 encNd J o.ns/\Rw w 99 encWr L o.ws/\d.ws.length<=dd/\o.ws.length<=M/\Bl N w) (fun (s:Dg×(List Rz))=>match s with|(o,m)=>spN o.ns) (d,[]) ?_ ?_
 ·exact ⟨none,0,aY,aZ,b0,b1,E.sb,hD,O,O,O4,f,i,(Own.nil _ _ _ _ _),I.rd,G.rd,W,G.cap,j⟩
 intro ⟨o,m⟩ a w5 ⟨aC,aD,J,U,L,M,E,hI,hs,hm,bY,f,i,g,y,h,W,aM,j⟩;refine Q8<|ZS E fun b3=>Ze (Vn X2 f)<|Zm O<|Zf (Vc (Y7q _ o o.ns.length O J U y.top L M h.top aM Al cl l (aV.bx j).top hI bH) Xwi) ?_;rintro _ w6 ⟨rfl,p⟩;have ⟨f,i,g,y,h,j⟩:=mv6 p f i g y h j;refine Zm O<|Ze (Xf (vs:=[.agg #[vi (((fsF o l).getD rwZ).u),vi (((fsF o l).getD rwZ).a),vi (((fsF o l).getD rwZ).b)],.bool ((fsF o l).isSome)]) O O)<|Ze (Xf (vs:=[.agg #[vi (((fsF o l).getD rwZ).u),vi (((fsF o l).getD rwZ).a),vi (((fsF o l).getD rwZ).b)],.bool ((fsF o l).isSome)]) O O)<|ZB [vi (((fsF o l).getD rwZ).u),vi (((fsF o l).getD rwZ).a),vi (((fsF o l).getD rwZ).b)] Xaa X4k fun bL w8 aJ p x=>?_;have bM:=Q0 j.size aJ;have ⟨f,i,g,y,h,j⟩:=mv6 p f i g y h j;refine Za O<|ZX b3 fun a E _ b4=>ZS E fun b6=>Zm O<|Ze (X1i O)<|Zt b6 fun a E=>Xx E O ?_ ?_<;>intro a8
 ·have bN:fsF o l=none:=by have h8:=a8;simpa using h8
  have aK:=Xt3 bN;have bO:siD d l=o:=by rw[<- hs,aK.1]
  have bP:siL d l=m:=by rw[<- hm,aK.2,List.append_nil]
  refine ZS E fun b7=>Ze (Vn X2 f)<|Zm O<|Zo (Vw [vi o.n,.slice J o.ns.length U,.slice L o.ws.length M,vi o.t,vi o.r] Xv i) ?_;intro _ w9 ⟨Q,hb⟩;have g:=g.oT Q i O;have y:=y.oT Q i O;have h:=h.oT Q i O;have j:=Below.oy j Q aW;have i:=hb;refine Za O<|Zt b7 fun a E=>Q6<|X9<|Xu<|X9<|Xu<|X6 E (X1q E O (ResV.cellN (l:=[vi o.n,.slice J o.ns.length U,.slice L o.ws.length M,vi o.t,vi o.r]) O X2 (i.at 0) O) O) ?_;rw[bO,bP];exact ⟨J,U,L,M,aC,aD,O,y.top,h.top,aM,g,j⟩
 have b9:fsF o l=some ((fsF o l).getD rwZ):=by have h8:=a8;cases h9:fsF o l with
  | none=>rw[h9] at h8;cases h8
  | some r=>rfl
 have aN:=X6w b9;have bC:=Xme hI b9;have bZ:=Xk2 hI aN;have aA:(if apC o ((fsF o l).getD rwZ)=true then apD o ((fsF o l).getD rwZ) else zD)=apD o ((fsF o l).getD rwZ):=Q4 aN;refine Q7<|b4 _ _<|ZS E fun bD=>Ze (Vn X2 f)<|Ze (Vn X30 x)<|Zf (Vc (Xzj _ o o.ns.length O J U y.top L M h.top aM ((fsF o l).getD rwZ) hI) Xkr) ?_;rintro _ cA ⟨aE,aF,aG,aH,rfl,C,D,bE,p⟩;have ⟨f,i,x,g,j⟩:=mv5 p f i x g j;refine Zm O<|Ze (Xf (vs:=[.agg #[vi ((if (apC o ((fsF o l).getD rwZ))=true then apD o ((fsF o l).getD rwZ) else zD).n),.slice aE ((if (apC o ((fsF o l).getD rwZ))=true then apD o ((fsF o l).getD rwZ) else zD).ns).length aF,.slice aG ((if (apC o ((fsF o l).getD rwZ))=true then apD o ((fsF o l).getD rwZ) else zD).ws).length aH,vi ((if (apC o ((fsF o l).getD rwZ))=true then apD o ((fsF o l).getD rwZ) else zD).t),vi ((if (apC o ((fsF o l).getD rwZ))=true then apD o ((fsF o l).getD rwZ) else zD).r)],.bool (apC o ((fsF o l).getD rwZ))]) O O)<|Ze (Xf (vs:=[.agg #[vi ((if (apC o ((fsF o l).getD rwZ))=true then apD o ((fsF o l).getD rwZ) else zD).n),.slice aE ((if (apC o ((fsF o l).getD rwZ))=true then apD o ((fsF o l).getD rwZ) else zD).ns).length aF,.slice aG ((if (apC o ((fsF o l).getD rwZ))=true then apD o ((fsF o l).getD rwZ) else zD).ws).length aH,vi ((if (apC o ((fsF o l).getD rwZ))=true then apD o ((fsF o l).getD rwZ) else zD).t),vi ((if (apC o ((fsF o l).getD rwZ))=true then apD o ((fsF o l).getD rwZ) else zD).r)],.bool (apC o ((fsF o l).getD rwZ))]) O O)<|Zo (Vw [vi ((if (apC o ((fsF o l).getD rwZ))=true then apD o ((fsF o l).getD rwZ) else zD).n),.slice aE ((if (apC o ((fsF o l).getD rwZ))=true then apD o ((fsF o l).getD rwZ) else zD).ns).length aF,.slice aG ((if (apC o ((fsF o l).getD rwZ))=true then apD o ((fsF o l).getD rwZ) else zD).ws).length aH,vi ((if (apC o ((fsF o l).getD rwZ))=true then apD o ((fsF o l).getD rwZ) else zD).t),vi ((if (apC o ((fsF o l).getD rwZ))=true then apD o ((fsF o l).getD rwZ) else zD).r)] Xv f) ?_;intro _ cB ⟨Q,hb⟩;have i:=i.oy Q Z;have x:=x.oz Q f O;have g:=g.oT Q f O;have C:=C.oT Q f O;have D:=D.oT Q f O;have j:=Below.oy j Q aI;have f:=hb;refine Zt bD fun a E=>Zr E<|Zm O<|Ze (Vn X30 x)<|Zf (Xe (k:=1) (vs:=[.agg #[vi (((fsF o l).getD rwZ).u),vi (((fsF o l).getD rwZ).a),vi (((fsF o l).getD rwZ).b)]]) (zs:=[vi (((fsF o l).getD rwZ).u),vi (((fsF o l).getD rwZ).a),vi (((fsF o l).getD rwZ).b)]) O X36 X3n O O) ?_;rintro _ cC ⟨b27,rfl,aL,p,aB⟩;have aP:bL≠b27:=by have:=x.lt;omega
 have bQ:=Q0 j.size aL;have ⟨f,i,x,g,C,D,j⟩:=mv7 p f i x g C D j;refine Zf (X0r (enc:=encRz) (l:=(m)) (l2:=([((fsF o l).getD rwZ)])) (B0:=N.heap.size) O O X36 X3n X4x X7g g (Rd.of_blk aB O _ aB.lt) (by simp only[maxLen];simp;omega) O6 j.size) ?_;rintro _ cD ⟨bR,bS,rfl,bF,hg,aO⟩;have H:Own _ N.heap.size 94 3 encRz _ _ (m):=g;clear aO;have f:=f.appT H hg O;have i:=i.appT H hg O;have C:=C.appT H hg O;have D:=D.appT H hg O;have j:=Below.app j H hg (Qb _) j.size;clear H hg;exact Za O<|Zn fun a E=>Xd<|Xh<|⟨((if (apC o ((fsF o l).getD rwZ))=true then apD o ((fsF o l).getD rwZ) else zD),m++([((fsF o l).getD rwZ)])),⟨bR,bS,aE,aF,aG,aH,E.sb,(by rw[aA];exact X1k (X92 aN)),(by rw[aA,<- bC.1];exact hs),(by rw[aA,Qx,<- hm,bC.2];rfl),(by rw[aA,Qh,List.length_singleton];omega),f,i,bF,C.top,D.top,W,bE,j⟩,(by rw[aA];omega)⟩
def Xjo(w0:World):RE 27 [] w0 (fun v w=>∃ A c,v=.slice A Zb4.length c/\Own w w0.heap.size 3 1 encI A c Zb4/\Bl w0 w):=by
 refine enter func27 O 2 O O ?_;intro a hf;have hW:=bz w0;refine ZS hf fun a7=>Za O<|Zx a7 fun a hf _ a8=>Zf (Xe (k:=5) (vs:=[vi 1,vi 2,vi 3,vi 4,vi 5]) (zs:=[vi 1,vi 2,vi 3,vi 4,vi 5]) O Xp X21 O O) ?_;rintro _ w1 ⟨b4,rfl,aA,hE,aB⟩;have a6:=Q0 hW.size aA;have hW:=btr hW hE;refine Za O<|Zt a8 fun a hf=>Q6 (X6 hf (Xq hf O O) ?_);exact ⟨(some ⟨b4,0,none⟩),5,O,(Own.of_blkL Xj aB a6 O O O5),hW⟩
theorem Xof(H:World)(d:Dg)(md:Nat)(y:md=d.ns.length)(Ad:Option Addr)(cd:Nat)(A:Rw H 85 encNd Ad d.ns)(Bd:Option Addr)(dd:Nat)(J:Rw H 99 encWr Bd d.ws)(B:d.ws.length<=dd)(hG:goodD d=true):RE 28 [.agg #[vi d.n,.slice Ad md cd,.slice Bd d.ws.length dd,vi d.t,vi d.r]] H (fun v w=>v=.bool (plD d)/\Bl H w):=by
 have hD:=X1k hG;have aT:=hD.len;have aU:=hD.m;have aV:=X86 d.ns d.ns.length;refine enter func28 O 54 O O ?_;intro a f;have i:=bz H;refine ZS f fun aJ=>?_;refine Zf (X0n (zs:=(Zc4 d Ad md cd Bd dd)) O O) ?_;rintro _ w1 ⟨b4,rfl,aK,C,g⟩;have aR:=Q0 i.size aK;have i:=btr i C;refine Za O<|ZX aJ fun a f _ aL=>?_;refine ZS f fun aM=>?_;refine Ze (Vd O X02 2)<|Ze (X0 O X1f (g.at 2))<|Ze (X0w O X0a)<|Zm O<|Zt aM fun a f=>?_;refine Q8<|X04 (σ:=Nat) (fun (k:Nat) (a:Act) (w:World)=>Fr a 54 [(1,(pZ9 b4)),(6,.slice Bd d.ws.length dd),(7,vi (d.ws.length:Int)),(8,vi (k:Int))]/\(k<=d.ws.length)/\((d.ws.take k).all (plQ d)=true)/\Blk w b4 54 (Zc4 d Ad md cd Bd dd)/\d.ws.length<=dd/\Bl H w) (fun (k:Nat)=>d.ws.length-k) 0 ?_ ?_
 ·exact ⟨f.sb,(Qf _),O,g,B,i⟩
 intro k a w2 ⟨f,hk,L,g,B,i⟩;refine ZS f fun aN=>?_;refine Ze (X16 O O)<|ZX aN fun a f _ aO=>?_;refine X0y f O (fun j a6=>?_) (fun j a6=>?_)
 ·have ⟨aW,aS⟩:=Xa (l:=d.ws) (k:=k) Z;have ⟨o,I⟩:=Xa (l:=d.ws) (k:=k) (by have:=a6;omega);have ⟨aX,aY,aZ,_⟩:=Xb6 hG I;have b0:=X9c hG (Xg (l:=d.ns) (d:=nZ) (k:=o.a.toNat) Z);have b1:=X9c hG (Xg (l:=d.ns) (d:=nZ) (k:=o.b.toNat) Z);refine Q7<|aO _ _<|Q5 fun _ aD=>?_;refine Q8<|ZS f fun aE=>?_;refine Zi (k:=k) (u:=o) (enc:=encWr) (l:=d.ws) tv0 O O X0a X14 X0d (J.bx i) I O ?_;intro b2 a7;refine Ze (X07 (l:=[vi o.a,vi o.b,.bool o.h]) O X23 a7 O) ?_;refine ZB [vi o.a,vi o.b,.bool o.h] X4a X14 fun b3 w4 aF C x=>?_;have aP:=Q0 i.size aF;have g:=g.bw C;have i:=btr i C;refine ZX aE fun a f _ aG=>?_;refine X0i (fun a w=>Fr a 54 [(1,(pZ9 b4)),(6,.slice Bd d.ws.length dd),(7,vi (d.ws.length:Int)),(8,vi (k:Int)),(48,.bool ((o.h||((((d.ns.getD o.a.toNat nZ).k)+((d.ns.getD o.b.toNat nZ).k)) != 3))||(((d.ns.getD o.a.toNat nZ).p) != ((d.ns.getD o.b.toNat nZ).p))))]/\Bl w4 w) ?_ ?_
  ·have D:Bl w4 w4:=Below.refl _ _;refine Xy none (fun _=>false) mixed ?_;intro w5 C;have ⟨g,x,i,D⟩:=mv4 C g x i D;refine Yb f<|Yo 0 O (fun _=>Vd O X7i 2)<|Ye 1 O (X0 O X7a (x.at 2))<|YA 2 O O ?_;refine Yl 14 O ?_ ?_<;>intro c
   ·refine Yp 3 O (gP c) ?_;refine Yp 4 O (gP c) ?_;refine Yp 5 O (gP c) ?_;refine Yp 6 O (gP c) ?_;refine Yp 7 O (gP c) ?_;refine Yp 8 O (gP c) ?_;refine Yp 9 O (gP c) ?_;refine Yp 10 O (gP c) ?_;refine Yp 11 O (gP c) ?_;refine Yp 12 O (gP c) ?_;refine Yp 13 O (gP c) ?_;refine Yp 14 O (gP c) ?_;refine Yp 15 O (gP c) ?_;refine Yp 16 O (gP c) ?_;refine Yp 17 O (gP c) ?_;refine Yp 18 O (gP c) ?_;refine Yo 19 O (fun _=>Xc O c O)<|YA 20 O O<|Yp 21 O (gP O) ?_;refine Yp 22 O (gP O) ?_;refine Yp 23 O (gP O) ?_;refine Yp 24 O (gP O) ?_;refine Yp 25 O (gP O) ?_;refine Yp 26 O (gP O) ?_;refine Yp 27 O (gP O) ?_;refine Yp 28 O (gP O) ?_;refine Yp 29 O (gP O) ?_;refine Yp 30 O (gP O) ?_;refine Yp 31 O (gP O) ?_;refine Yp 32 O (gP O) ?_;refine Yp 33 O (gP O) ?_;refine Yp 34 O (gP O) ?_;refine Yp 35 O (gP O) ?_;refine Yo 36 O (fun _=>Xc O O O) ?_;refine Yd fun a f=>?_;exact ⟨f.sub ⟨O,O,O,O,X1 O (by first|rfl|(simp only[j,c,bs];done)|simp[j,c]),trivial⟩,D⟩
   refine Yu 3 O (gW c) (fun _=>Vd O Xn 1) ?_;refine Yv 4 O (gW c) (X0 O X0f (g.at 1)) ?_;refine Yu 5 O (gW c) (fun _=>Vd O X1l 0) ?_;refine Yv 6 O (gW c) (X0 O X8 (x.at 0)) ?_;refine Yj (k:=o.a.toNat) (u:=(d.ns.getD o.a.toNat nZ)) (enc:=encNd) (l:=d.ns) 7 O ⟨_,_,O,O,c⟩ O y O X00 X0o X03 (A.bx i) (Xg Z) Z ?_;intro b5 a8;refine Yu 8 O (gW c) (fun _=>X2u O X1v) ?_;refine Yv 9 O (gW c) (X0 O X8 (a8.drop 0)) ?_;refine Yu 10 O (gW c) (fun _=>Vd O Xn 1) ?_;refine Yv 11 O (gW c) (X0 O X0f (g.at 1)) ?_;refine Yu 12 O (gW c) (fun _=>Vd O X1p 1) ?_;refine Yv 13 O (gW c) (X0 O X8 (x.at 1)) ?_;refine Yj (k:=o.b.toNat) (u:=(d.ns.getD o.b.toNat nZ)) (enc:=encNd) (l:=d.ns) 14 O ⟨_,_,O,O,c⟩ O y O X00 X0o X03 (A.bx i) (Xg Z) Z ?_;intro b6 aA;refine Yu 15 O (gW c) (fun _=>X2u O X1v) ?_;refine Yv 16 O (gW c) (X0 O X8 (aA.drop 0)) ?_;refine Yu 17 O (gW c) (fun _=>Xr O O Z Z) ?_;refine Yu 18 O (gW c) (fun _=>X28 O O) ?_;refine Yo 19 O (fun _=>Xi O c O)<|YA 20 O O ?_;refine Yl 32 O ?_ ?_<;>intro e
   ·refine Yp 21 O (gP e) ?_;refine Yp 22 O (gP e) ?_;refine Yp 23 O (gP e) ?_;refine Yp 24 O (gP e) ?_;refine Yp 25 O (gP e) ?_;refine Yp 26 O (gP e) ?_;refine Yp 27 O (gP e) ?_;refine Yp 28 O (gP e) ?_;refine Yp 29 O (gP e) ?_;refine Yp 30 O (gP e) ?_;refine Yp 31 O (gP e) ?_;refine Yp 32 O (gP e) ?_;refine Yp 33 O (gP e) ?_;refine Yp 34 O (gP e) ?_;refine Yp 35 O (gP e) ?_;refine Yo 36 O (fun _=>Xc O e O) ?_;refine Yd fun a f=>?_;exact ⟨f.sub ⟨O,O,O,O,X1 O (by first|rfl|(simp only[j,c,e,bs];done)|simp[j,c,e]),trivial⟩,D⟩
   refine Yu 21 O (gW e) (fun _=>Vd O Xn 1) ?_;refine Yv 22 O (gW e) (X0 O X0f (g.at 1)) ?_;refine Yu 23 O (gW e) (fun _=>Vd O X1l 0) ?_;refine Yv 24 O (gW e) (X0 O X8 (x.at 0)) ?_;refine Yj (k:=o.a.toNat) (u:=(d.ns.getD o.a.toNat nZ)) (enc:=encNd) (l:=d.ns) 25 O ⟨_,_,O,O,e⟩ O y O X00 X0o X03 (A.bx i) (Xg Z) Z ?_;intro b7 aB;refine Yu 26 O (gW e) (fun _=>X2u O X0m) ?_;refine Yv 27 O (gW e) (X0 O X8 (aB.drop 1)) ?_;refine Yu 28 O (gW e) (fun _=>Vd O Xn 1) ?_;refine Yv 29 O (gW e) (X0 O X0f (g.at 1)) ?_;refine Yu 30 O (gW e) (fun _=>Vd O X1p 1) ?_;refine Yv 31 O (gW e) (X0 O X8 (x.at 1)) ?_;refine Yj (k:=o.b.toNat) (u:=(d.ns.getD o.b.toNat nZ)) (enc:=encNd) (l:=d.ns) 32 O ⟨_,_,O,O,e⟩ O y O X00 X0o X03 (A.bx i) (Xg Z) Z ?_;intro b8 aC;refine Yu 33 O (gW e) (fun _=>X2u O X0m) ?_;refine Yv 34 O (gW e) (X0 O X8 (aC.drop 1)) ?_;refine Yu 35 O (gW e) (fun _=>X28 O O) ?_;refine Yo 36 O (fun _=>Xi O e O) ?_;refine Yd fun a f=>?_;exact ⟨f.sub ⟨O,O,O,O,X1 O (by first|rfl|(simp only[j,c,e,bs];done)|simp[j,c,e]),trivial⟩,D⟩
  intro a w6 ⟨f,C⟩;have g:=g.bw C;have i:=btr i C;refine aG _ _ ?_;refine Xx f O ?_ ?_<;>intro E
  ·have G:plD d=false:=by unfold plD;rw[Xi0 I (q:=plQ d) (by unfold plQ;rw[E];rfl),Bool.false_and]
   refine ZS f fun aH=>?_;refine Za O<|Zt aH fun a f=>?_;refine Q6<|Xu<|X9<|X9 ?_;refine Xu<|X9<|X6 f (Xq f O O) ?_;exact ⟨by rw[G],i⟩
  have aQ:plQ d o=true:=by unfold plQ;rw[E];rfl
  refine Q7<|Xd<|aD _ _<|Zr f ?_;refine Ze (Xr O O Z Z)<|Zm O ?_;refine Zn fun a f=>?_;refine Xh ?_;exact ⟨k+1,⟨f.sb,Z,(Xi1 L I aQ),g,B,i⟩,Z⟩
 have G:plD d=(((spL d.ns).length:Int)==0):=by unfold plD;rw[Xei L (by have:=a6;omega),Qw]
 refine Q9<|Xk<|Xk<|X06 ?_;refine aL _ _<|ZS f fun aI=>?_;refine Ze (Vn X2 g)<|Zf (Vc (Xzh _ d md y Ad cd (A.bx i).top Bd dd (J.bx i).top B Z) Xkp) ?_;rintro _ w7 ⟨b9,bC,rfl,M,C⟩;have M:=M.lower i.size;have i:=btr i C;refine Ze (X0w O Xp)<|Ze (X0l O O)<|Za O<|Zt aI fun a f=>?_;refine Q6 (X6 f (Xq f O O) ?_);exact ⟨by rw[G],i⟩
def SB(b:Nat)(l:List (Option Addr))(k:Nat) : Prop:=k=b∨∃ A ∈ l,ownB A=some k
def Us(S:Nat->Prop)(w0:World)(A:Option Addr) : Prop:=∀ k,ownB A=some k->S k∨w0.heap.size<=k
def SB.us{b:Nat}{l:List (Option Addr)}{A:Option Addr}{w:World}(h:A ∈ l):Us (SB b l) w A:=fun _ hk=>.inl (.inr ⟨A,h,hk⟩)
def Xnq(p:Addr):ownB (some p)=some p.block:=rfl
def Xk4{A:Option Addr}{b:Nat}:Away A b↔ownB A≠some b:=by
 cases A with
 | none=>exact ⟨(fun _ h=>by cases h),fun _ p h=>by cases h⟩
 | some p=>
  rw[Xnq];exact ⟨fun h e=>h p O (Option.some.inj e),fun h q hq e=>by injection hq with hq;subst hq;exact h (by rw[e])⟩
section
variable {S : Nat -> Prop} {w0 w w' : World} {A A' : Option Addr} {b : Nat} {l : List (Option Addr)}
theorem Us.app(hu:Us S w0 A)(hat:∀ b,b<w.heap.size->Away A b->Away A' b)(hs:w0.heap.size<=w.heap.size):Us S w0 A':=fun k hk=>by
 by_cases hl:k<w.heap.size
 ·by_cases h2:ownB A=some k
  ·exact hu k h2
  ·exact absurd hk (Xk4.1 (hat k hl (Xk4.2 h2)))
 ·exact .inr Z
theorem Us.new{α:Type}{E:TypeId}{sz c:Nat}{enc:α->List Value}{r:List α}(ho:Own w w0.heap.size E sz enc A c r):Us S w0 A:=fun _ hk=>.inr (X2w ho hk)
theorem al0{α:Type}{p:α->Prop}:∀ x ∈ ([] : List α),p x:=fun _ h=>by cases h
theorem alc{α:Type}{p:α->Prop}{a:α}{r:List α}(h:p a)(ht:∀ x ∈ r,p x):∀ x ∈ a::r,p x:=List.forall_mem_cons.2 ⟨h,ht⟩
theorem SB.lift(hb:S b∨w0.heap.size<=b)(h:∀ A ∈ l,Us S w0 A):∀ k,SB b l k->S k∨w0.heap.size<=k:=by grind [SB,Us]
theorem Us.trans(hu:Us (SB b l) w A)(h:∀ k,SB b l k->S k∨w0.heap.size<=k)(hs:w0.heap.size<=w.heap.size):Us S w0 A:=by grind [SB,Us,hs]
theorem SB.ge{N:Nat}(hb:N<=b)(h:∀ A ∈ l,∀ k,ownB A=some k->N<=k):∀ k,SB b l k->N<=k:=by grind [SB,ownB]
theorem nrow{α:Type}{B0:Nat}{E T:TypeId}{sz c:Nat}{enc:α->List Value}{r:List α}{cs:List Value}(ho:Own w B0 E sz enc A c r)(h:Blk w b T cs)(h1:Nat.beq E T=false):ownB A≠some b:=fun hk=>by
 obtain ⟨_,_,cs',fz,h3⟩:=ho.block (k:=b) (by rw[X6h];exact hk);unfold Blk at h;rw[h3] at h;injection h with h;injection h with _ e _;subst e;simp at h1
theorem Blk.tu{b2:Nat}{T T2:TypeId}{bcs cs:List Value}(h:Blk w b2 T2 cs)(hts:TurnS (SB b l) w w')(hb:Blk w b T bcs)(h1:Nat.beq T2 T=false)(hr:∀ A ∈ l,ownB A≠some b2):Blk w' b2 T2 cs:=by
 refine (hts.block b2 h.lt fun hk=>?_).trans h;rcases hk with e|⟨A,hA,hk⟩
 ·exact h.ne hb h1 e
 ·exact hr A hA hk
end
structure Br where
 d:Dg
 la:List Int
 hd:List Bool
def Drw(w:World)(b B0:Nat)(A0:Option Addr)(c0:Nat)(A1:Option Addr)(c1:Nat)(A2:Option Addr)(c2:Nat)(B:Option Addr)(e m n:Nat)(x:Br) : Prop:=
 Blk w b 126 [.int .i64 x.d.n,.slice A0 m c0,.slice B x.d.ws.length e,.int .i64 x.d.t,.int .i64 x.d.r,.slice A1 n c1,.slice A2 n c2]/\Own w B0 85 2 encNd A0 c0 x.d.ns/\Own w B0 3 1 encI A1 c1 x.la/\Own w B0 4 1 encB A2 c2 x.hd/\Rw w 99 encWr B x.d.ws/\x.d.ws.length<=e/\m=x.d.ns.length/\n=x.la.length/\n=x.hd.length
def nodB(x:Br)(k p q:Int) : Br:=⟨{ x.d with ns:=x.d.ns++[⟨k,p⟩],ws:=jnW x.d.ws (x.la.getD q.toNat 0) (x.d.ns.length:Int) (x.hd.getD q.toNat false) },x.la.set q.toNat (x.d.ns.length:Int),x.hd.set q.toNat false⟩
def plcB(x:Br)(q:Int) : Br:=if (x.hd.getD q.toNat false||(x.d.ns.getD (x.la.getD q.toNat 0).toNat nZ).k != 3)=true then nodB x 3 0 q else x
def trnB(x:Br)(q m:Int) : Br:={ plcB x q with d:={ (plcB x q).d with ns:=adN (plcB x q).d.ns ((plcB x q).la.getD q.toNat 0) m } }
def flpB(x:Br)(q:Int) : Br:={ x with hd:=x.hd.set q.toNat (!(x.hd.getD q.toNat false)) }
def czB(x:Br)(p q:Int) : Br:=
 let y:=plcB (plcB x p) q
 let a:=(plcB x p).la.getD p.toNat 0
 let b:=y.la.getD q.toNat 0
 if 0<=fdW y.d.ws a b then { y with d:={ y.d with ws:=ctW y.d.ws (fdW y.d.ws a b).toNat,r:=wr (y.d.r-1) } } else { y with d:={ y.d with ws:=jnW y.d.ws a b true,r:=wr (y.d.r+1) } }
structure BrOk (n:Nat) (x:Br) : Prop where
 la:x.la.length=n
 hd:x.hd.length=n
 rg:∀ y ∈ x.la,0<=y/\y<(x.d.ns.length:Int)
 p:PhN x.d.ns
def Y1t{x:Br}{q:Int}(h:(x.hd.getD q.toNat false||(x.d.ns.getD (x.la.getD q.toNat 0).toNat nZ).k != 3)=true):plcB x q=nodB x 3 0 q:=Q4 h
def Y1s{x:Br}{q:Int}(h:(x.hd.getD q.toNat false||(x.d.ns.getD (x.la.getD q.toNat 0).toNat nZ).k != 3)=false):plcB x q=x:=Q3 (by rw[h];decide)
def BrOk.at{n:Nat}{x:Br}(h:BrOk n x){q:Int}(hq:0<=q/\q.toNat<n):0<=x.la.getD q.toNat 0/\(x.la.getD q.toNat 0).toNat<x.d.ns.length:=by
 have:=X7y h.rg (i:=q.toNat) (by rw[h.la];exact hq.2);omega
def Xcd{n:Nat}{x:Br}(h:BrOk n x){k p q:Int}(hp:0<=p/\p<=7):BrOk n (nodB x k p q):=by
 have hl:(x.d.ns++[(⟨k,p⟩ : Nd)]).length=x.d.ns.length+1:=by simp
 refine ⟨List.length_set.trans h.la,List.length_set.trans h.hd,fun y hy=>?_,fun y hy=>?_⟩
 ·show 0<=y/\y<((x.d.ns++[(⟨k,p⟩ : Nd)]).length:Int);rcases List.mem_or_eq_of_mem_set hy with hy|rfl
  ·have:=h.rg y hy;omega
  ·omega
 ·rcases Qu.1 hy with hy|hy
  ·exact h.p y hy
  ·rw[Qm.1 hy];exact hp
def X82(x:Br)(k p q:Int):(nodB x k p q).d.ns.length=x.d.ns.length+1/\(nodB x k p q).d.ws.length=x.d.ws.length+1:=⟨by simp[nodB],X6f _ _ _ _⟩
def X47{n:Nat}{x:Br}(h:BrOk n x)(q:Int):BrOk n (plcB x q):=by
 unfold plcB;split
 ·exact Xcd h O5
 ·exact h
def X4g(x:Br)(q:Int):(plcB x q).d.ns.length<=x.d.ns.length+1/\(plcB x q).d.ws.length<=x.d.ws.length+1/\x.d.ns.length<=(plcB x q).d.ns.length:=by
 have:=X82 x 3 0 q;unfold plcB;split<;>omega
def X5b{n:Nat}{x:Br}(h:BrOk n x)(q m:Int):BrOk n (trnB x q m):=by
 have h1:=X47 h q;exact ⟨h1.la,h1.hd,fun y hy=>by
  have:=h1.rg y hy;show 0<=y/\y<((adN _ _ _).length:Int);rw[X2v];exact this,X8j h1.p _ _⟩
def X87(x:Br)(q m:Int):(trnB x q m).d.ns.length<=x.d.ns.length+1/\(trnB x q m).d.ws.length<=x.d.ws.length+1:=by
 have:=X4g x q;show (adN _ _ _).length<=_/\(plcB x q).d.ws.length<=_;rw[X2v];omega
def X2f{n:Nat}{x:Br}(h:BrOk n x)(q:Int):BrOk n (flpB x q):=⟨h.la,List.length_set.trans h.hd,h.rg,h.p⟩
def Y9k{x:Br}{p q:Int}(h:0<=fdW (plcB (plcB x p) q).d.ws ((plcB x p).la.getD p.toNat 0) ((plcB (plcB x p) q).la.getD q.toNat 0)):czB x p q = { plcB (plcB x p) q with d:={ (plcB (plcB x p) q).d with ws:=ctW (plcB (plcB x p) q).d.ws (fdW (plcB (plcB x p) q).d.ws ((plcB x p).la.getD p.toNat 0) ((plcB (plcB x p) q).la.getD q.toNat 0)).toNat,r:=wr ((plcB (plcB x p) q).d.r-1) } }:=Q4 h
def Y9i{x:Br}{p q:Int}(h:¬ 0<=fdW (plcB (plcB x p) q).d.ws ((plcB x p).la.getD p.toNat 0) ((plcB (plcB x p) q).la.getD q.toNat 0)):czB x p q = { plcB (plcB x p) q with d:={ (plcB (plcB x p) q).d with ws:=jnW (plcB (plcB x p) q).d.ws ((plcB x p).la.getD p.toNat 0) ((plcB (plcB x p) q).la.getD q.toNat 0) true,r:=wr ((plcB (plcB x p) q).d.r+1) } }:=Q3 h
def Xp6{n:Nat}{x:Br}(h:BrOk n x)(p q:Int):BrOk n (czB x p q):=by
 have h1:=X47 (X47 h p) q;unfold czB;dsimp only;split
 ·exact ⟨h1.la,h1.hd,h1.rg,h1.p⟩
 ·exact ⟨h1.la,h1.hd,h1.rg,h1.p⟩
def Xp5(x:Br)(p q:Int):(czB x p q).d.ns.length<=x.d.ns.length+2/\(czB x p q).d.ws.length<=x.d.ws.length+3:=by
 have h1:=X4g x p;have h2:=X4g (plcB x p) q;unfold czB;dsimp only;split
 ·have:=(X4o (plcB (plcB x p) q).d.ws (fdW (plcB (plcB x p) q).d.ws ((plcB x p).la.getD p.toNat 0) ((plcB (plcB x p) q).la.getD q.toNat 0)).toNat).length_le;dsimp only;omega
 ·dsimp only;rw[X6f];omega
def swpB(x:Br)(a b:Int) : Br:={ x with la:=(x.la.set a.toNat (x.la.getD b.toNat 0)).set b.toNat (x.la.getD a.toNat 0),hd:=(x.hd.set a.toNat (x.hd.getD b.toNat false)).set b.toNat (x.hd.getD a.toNat false) }
def yyB(x:Br)(a:Int) : Br:=flpB (trnB (flpB (trnB x a 4) a) a 4) a
def tnB(x:Br)(k:Int) : Br:={ x with d:={ x.d with t:=wr (x.d.t+k) } }
def gtB(x:Br)(g:Gt) : Br:=
 if (g.k==1)=true then flpB x g.a
 else if (g.k==2)=true then flpB (trnB (flpB x g.a) g.a 4) g.a
 else if (g.k==3)=true then tnB (yyB x g.a) 2
 else if (g.k==9)=true then flpB (czB (flpB x g.b) g.a g.b) g.b
 else if (g.k==10)=true then czB x g.a g.b
 else if (g.k==11)=true then swpB x g.a g.b
 else if (g.k==12)=true then tnB x 1
 else trnB x g.a (rotC g.k)
section
variable {x : Br} {g : Gt}
theorem Y4s(h1:(g.k==1)=true):gtB x g=flpB x g.a:=Q4 h1
theorem Y4t(h1:(g.k==1)=false)(h2:(g.k==2)=true):gtB x g=flpB (trnB (flpB x g.a) g.a 4) g.a:=by unfold gtB;rw[h1,h2];rfl
theorem Y4u(h1:(g.k==1)=false)(h2:(g.k==2)=false)(h3:(g.k==3)=true):gtB x g=tnB (yyB x g.a) 2:=by unfold gtB;rw[h1,h2,h3];rfl
theorem Y4v(h1:(g.k==1)=false)(h2:(g.k==2)=false)(h3:(g.k==3)=false)(h9:(g.k==9)=true):gtB x g=flpB (czB (flpB x g.b) g.a g.b) g.b:=by unfold gtB;rw[h1,h2,h3,h9];rfl
theorem Xqh(h1:(g.k==1)=false)(h2:(g.k==2)=false)(h3:(g.k==3)=false)(h9:(g.k==9)=false)(h10:(g.k==10)=true):gtB x g=czB x g.a g.b:=by unfold gtB;rw[h1,h2,h3,h9,h10];rfl
theorem Xqi(h1:(g.k==1)=false)(h2:(g.k==2)=false)(h3:(g.k==3)=false)(h9:(g.k==9)=false)(h10:(g.k==10)=false)(h11:(g.k==11)=true):gtB x g=swpB x g.a g.b:=by unfold gtB;rw[h1,h2,h3,h9,h10,h11];rfl
theorem Xqj(h1:(g.k==1)=false)(h2:(g.k==2)=false)(h3:(g.k==3)=false)(h9:(g.k==9)=false)(h10:(g.k==10)=false)(h11:(g.k==11)=false)(h12:(g.k==12)=true):gtB x g=tnB x 1:=by unfold gtB;rw[h1,h2,h3,h9,h10,h11,h12];rfl
theorem Y4r(h1:(g.k==1)=false)(h2:(g.k==2)=false)(h3:(g.k==3)=false)(h9:(g.k==9)=false)(h10:(g.k==10)=false)(h11:(g.k==11)=false)(h12:(g.k==12)=false):gtB x g=trnB x g.a (rotC g.k):=by unfold gtB;rw[h1,h2,h3,h9,h10,h11,h12];rfl
end
def Xso{k:Int}(h:4<=k/\k<=8):([4,2,6,1,7] : List Int)[(k-4).toNat]? = some (rotC k)/\0<=rotC k/\rotC k<=900:=by
 have:k=4∨k=5∨k=6∨k=7∨k=8:=by omega
 rcases this with e|e|e|e|e<;>subst e<;>decide
def Xtl{n:Nat}{x:Br}(h:BrOk n x){a b:Int}(ha:0<=a/\a.toNat<n)(hb:0<=b/\b.toNat<n):BrOk n (swpB x a b):=by
 have h1:=h.at ha;have h2:=h.at hb;refine ⟨List.length_set.trans (List.length_set.trans h.la),List.length_set.trans (List.length_set.trans h.hd),fun y hy=>?_,h.p⟩;show 0<=y/\y<(x.d.ns.length:Int);rcases List.mem_or_eq_of_mem_set hy with hy|rfl
 ·rcases List.mem_or_eq_of_mem_set hy with hy|rfl
  ·exact h.rg y hy
  ·omega
 ·omega
def Xtv{n:Nat}{x:Br}(h:BrOk n x)(k:Int):BrOk n (tnB x k):=⟨h.la,h.hd,h.rg,h.p⟩
def Yce{n:Nat}{x:Br}(h:BrOk n x)(a:Int):BrOk n (yyB x a):=X2f (X5b (X2f (X5b h a 4) a) a 4) a
def Y6t(x:Br)(a:Int):(yyB x a).d.ns.length<=x.d.ns.length+2/\(yyB x a).d.ws.length<=x.d.ws.length+2:=by
 have h1:=X87 x a 4;have h2:=X87 (flpB (trnB x a 4) a) a 4;have e1:(flpB (trnB x a 4) a).d=(trnB x a 4).d:=rfl;have e2:(yyB x a).d=(trnB (flpB (trnB x a 4) a) a 4).d:=rfl;rw[e1] at h2;rw[e2];omega
def Xgz{n:Nat}{x:Br}(h:BrOk n x){g:Gt}(hg:gOk (n:Int) g=true):BrOk n (gtB x g):=by
 unfold gtB;split
 ·exact X2f h _
 split
 ·exact X2f (X5b (X2f h _) _ _) _
 split
 ·exact Xtv (Yce h _) _
 split
 ·exact X2f (Xp6 (X2f h _) _ _) _
 split
 ·exact Xp6 h _ _
 split
 ·exact Xtl h (X6x hg) (X6y hg)
 split
 ·exact Xtv h _
 ·exact X5b h _ _
def Xim(x:Br)(g:Gt):(gtB x g).d.ns.length<=x.d.ns.length+3/\(gtB x g).d.ws.length<=x.d.ws.length+3:=by
 unfold gtB;split
 ·show x.d.ns.length<=_/\x.d.ws.length<=_;omega
 split
 ·have h1:=X87 (flpB x g.a) g.a 4;have e1:(flpB x g.a).d=x.d:=rfl;rw[e1] at h1;show (trnB (flpB x g.a) g.a 4).d.ns.length<=_/\(trnB (flpB x g.a) g.a 4).d.ws.length<=_;omega
 split
 ·have h1:=Y6t x g.a;show (yyB x g.a).d.ns.length<=_/\(yyB x g.a).d.ws.length<=_;omega
 split
 ·have h1:=Xp5 (flpB x g.b) g.a g.b;have e1:(flpB x g.b).d=x.d:=rfl;rw[e1] at h1;show (czB (flpB x g.b) g.a g.b).d.ns.length<=_/\(czB (flpB x g.b) g.a g.b).d.ws.length<=_;omega
 split
 ·have h1:=Xp5 x g.a g.b;omega
 split
 ·show x.d.ns.length<=_/\x.d.ws.length<=_;omega
 split
 ·show x.d.ns.length<=_/\x.d.ws.length<=_;omega
 ·have h1:=X87 x g.a (rotC g.k);omega
def inN(k:Nat) : List Nd:=(List.range k).map fun (i:Nat)=>(⟨1,i⟩ : Nd)
def ranI(k:Nat) : List Int:=(List.range k).map fun (i:Nat)=>(i:Int)
def Y13(k:Nat):inN (k+1)=inN k++[(⟨1,(k:Int)⟩ : Nd)]:=by unfold inN;rw[List.range_succ,List.map_append];rfl
def Xsn(k:Nat):ranI (k+1)=ranI k++[(k:Int)]:=by unfold ranI;rw[List.range_succ,List.map_append];rfl
def X5e(k:Nat):(inN k).length=k:=by simp[inN]
def X74(k:Nat):(ranI k).length=k:=by simp[ranI]
def ofB0(c:Cx) : Br:=⟨⟨c.n,inN c.n.toNat,[],0,0⟩,ranI c.n.toNat,List.replicate c.n.toNat false⟩
def ofB1(c:Cx) : Br:=c.gs.foldl gtB (ofB0 c)
def ofK(c:Cx)(j:Nat) : Br:=(List.range j).foldl (fun x (q:Nat)=>nodB x 2 (q:Int) (q:Int)) (ofB1 c)
def ofD(c:Cx) : Dg:=outD (ofK c c.n.toNat).d
def Xdw(c:Cx)(j:Nat):ofK c (j+1)=nodB (ofK c j) 2 (j:Int) (j:Int):=by unfold ofK;rw[List.range_succ,List.foldl_append];rfl
def X9h{c:Cx}(hn:1<=c.n/\c.n<=5):BrOk c.n.toNat (ofB0 c):=by
 refine ⟨X74 _,List.length_replicate,fun y hy=>?_,fun y hy=>?_⟩
 ·obtain ⟨i,hi,rfl⟩:=W6.1 hy;have:=W2.1 hi;show 0<=(i:Int)/\(i:Int)<((inN _).length:Int);rw[X5e];omega
 ·obtain ⟨i,hi,rfl⟩:=W6.1 hy;have:=W2.1 hi;show 0<=(i:Int)/\(i:Int)<=7;omega
def Xbl(w0:World)(bV B0:Nat)(A0:Option Addr)(c0:Nat)(A1:Option Addr)(c1:Nat)(A2:Option Addr)(c2:Nat)(BW:Option Addr)(eW m0 n0:Nat)(x:Br)(a7:Drw w0 bV B0 A0 c0 A1 c1 A2 c2 BW eW m0 n0 x)(aF:B0<=w0.heap.size)(q:Int)(hq:0<=q/\q.toNat<n0):RE 115 [(pZ9 bV),vi q] w0 (fun v w=>∃ A c B e m,TurnS (SB bV [A0,A1,A2]) w0 w/\Us (SB bV [A0,A1,A2]) w0 A/\Drw w bV B0 A c A1 c1 A2 c2 B e m n0 (flpB x q)):=by
 have ⟨f,i,n,b,o,a8,aA,aB,a6⟩:=a7;have aE:=f.lt;have aC:Us (SB bV [A0,A1,A2]) w0 A0:=SB.us O4;have aG:Us (SB bV [A0,A1,A2]) w0 A1:=SB.us O4;have aD:Us (SB bV [A0,A1,A2]) w0 A2:=SB.us O4;refine enter func115 O 18 O O ?_;intro a hf;have hW:TurnS (SB bV [A0,A1,A2]) w0 w0:=TurnS.refl _ _;refine Xy none (fun j=>[14].contains j) mixed ?_;intro w1 hE;have ⟨f,i,n,b,o⟩:=mv5 hE f i n b o;have hW:=tsbel hW hE;refine Yb hf<|YA 0 O O<|YB 1 O O<|Yo 2 O (fun _=>Vd O X3k 6)<|Ye 3 O (X0 O X39 (f.at 6))<|YA 4 O O<|YA 5 O O<|YB 6 O O<|Yo 7 O (fun _=>Vd O X3k 6)<|Ye 8 O (X0 O X39 (f.at 6))<|YA 9 O O<|Yo 10 O (fun _=>Xm (k:=q.toNat) O O X2x X3q b a6 Z Z)<|Ye 11 O (X0 O X7a (X19 b X1s (Xg (d:=false) Z) 0 O))<|Yo 12 O (fun _=>X1i O)<|Yo 13 O (fun _=>Xm (k:=q.toNat) O O X2x X3q b a6 Z Z)<|Y1 14<|Yh O tv0 O (X1a (enc:=encB) (l:=x.hd) (vs:=[.bool (!(x.hd.getD q.toNat false))]) (x0:=(x.hd.getD q.toNat false)) (u:=!(x.hd.getD q.toNat false)) (k:=q.toNat) (j:=0) (n1:=1) O O X3q b X1s O O O O O5 (Xg (d:=false) Z) O) ?_;intro _ w2 ⟨p,hg⟩;have g:=b;have f:=f.appT g hg O;have i:=i.appT g hg O;have n:=n.appT g hg O;have o:=o.appT g hg O;have hW:=tsrow hW hg aD;clear g hg;clear b;have b:=p;clear p;exact Yd fun a hf=>X20 hf (X2y O)<|⟨A0,c0,BW,eW,m0,hW,aC,⟨f,i,n,b,o.top,a8,aA,aB,(a6.trans List.length_set.symm)⟩⟩
def Xzq(w0:World)(bV B0:Nat)(A0:Option Addr)(c0:Nat)(A1:Option Addr)(c1:Nat)(A2:Option Addr)(c2:Nat)(BW:Option Addr)(eW m0 n0:Nat)(x:Br)(aG:Drw w0 bV B0 A0 c0 A1 c1 A2 c2 BW eW m0 n0 x)(aH:B0<=w0.heap.size)(k:Int)(p:Int)(q:Int)(hq:0<=q/\q.toNat<n0)(aR:x.d.ns.length<=100000000/\x.d.ws.length<=100000000):RE 87 [(pZ9 bV),vi k,vi p,vi q] w0 (fun v w=>∃ A c B e m,TurnS (SB bV [A0,A1,A2]) w0 w/\Us (SB bV [A0,A1,A2]) w0 A/\Drw w bV B0 A c A1 c1 A2 c2 B e m n0 (nodB x k p q)):=by
 have ⟨b,H,g,i,E,aI,aJ,a6,a7⟩:=aG;have aP:=b.lt;subst aJ;have aB:Us (SB bV [A0,A1,A2]) w0 A0:=SB.us O4;have aK:Us (SB bV [A0,A1,A2]) w0 A1:=SB.us O4;have aL:Us (SB bV [A0,A1,A2]) w0 A2:=SB.us O4;have aS:(x.d.ns++[(⟨k,p⟩ : Nd)]).length=x.d.ns.length+1:=by simp
 refine enter func87 O 68 O O ?_;intro a J;have h:TurnS (SB bV [A0,A1,A2]) w0 w0:=TurnS.refl _ _;refine ZS J fun aM=>Zm O<|Zm O<|Ze (X05 O)<|Ze (Vd O X1b 0)<|Ze (Vd O Xn 1)<|Ze (X0 O X0f (b.at 1))<|Zm O<|Zm O<|Ze (X0k (ps:=[(0,vi k),(1,vi p)]) (cs:=[vi k,vi p]) O (fun _=>by first|rfl|kernel_rfl))<|Zf (Xe (k:=1) (vs:=[.agg #[vi k,vi p]]) (zs:=[vi k,vi p]) O X00 X2n O O) ?_;rintro _ w1 ⟨b6,rfl,aC,C,a8⟩;have aQ:=Q0 h.size aC;have ⟨b,H,g,i,E⟩:=mv5 C b H g i E;have h:=tsbel h C;refine Zf (X0r (enc:=encNd) (l:=(x.d.ns)) (l2:=([(⟨k,p⟩ : Nd)])) (B0:=B0) O O X00 X2n X03 X3s H (Rd.of_blk a8 O _ a8.lt) (by simp only[maxLen];simp;omega) O6 (Q0 aH h.size)) ?_;rintro _ w2 ⟨A8,c8,rfl,y,D,aA⟩;have f:Own _ B0 85 2 encNd _ _ (x.d.ns):=H;have aN:=Us.app aB aA h.size;clear aA;have b:=b.appT f D O;have g:=g.appT f D O;have i:=i.appT f D O;have E:=E.appT f D O;have h:=tsrow h D aB;clear f D;refine Ze (X05 O)<|Ze (Vd O X1b 0)<|Ze (Vd O Xn 1)<|Zo (X1r (vs:=[.slice A8 (x.d.ns++([(⟨k,p⟩ : Nd)])).length c8]) (l':=[vi x.d.n,.slice A8 (x.d.ns++([(⟨k,p⟩ : Nd)])).length c8,.slice BW x.d.ws.length eW,vi x.d.t,vi x.d.r,.slice A1 n0 c1,.slice A2 n0 c2]) O O X5j b O O O O O) ?_;intro _ w3 ⟨I,hb⟩;have g:=g.oT I b O;have i:=i.oT I b O;have E:=E.oT I b O;have y:=y.oT I b O;have h:=tsonly h I (.inl (.inl O));have b:=hb;refine Zx aM fun a J _ aO=>Zm O<|Ze (X05 O)<|Ze (Vd O X1b 0)<|Ze (Vd O Xn 1)<|Ze (X0 O X0f (b.at 1))<|Ze (X0w O X00)<|Ze (Vx (X1j O O Z Z) (show _=(x.d.ns.length:Int) from Z))<|Za O<|ZX aO fun a J _ aD=>Xy none (fun j=>[25].contains j) mixed ?_;intro w4 C;have ⟨b,g,i,E,y⟩:=mv5 C b g i E y;have h:=tsbel h C;refine Yb J<|YA 0 O O<|YA 1 O O<|YB 2 O O<|Yo 3 O (fun _=>Vd O X1b 0)<|Yo 4 O (fun _=>Vd O X02 2)<|Ye 5 O (X0 O X1f (b.at 2))<|YA 6 O O<|YB 7 O O<|Yo 8 O (fun _=>Vd O X31 5)<|Ye 9 O (X0 O X3g (b.at 5))<|YA 10 O O<|Yo 11 O (fun _=>Xm (k:=q.toNat) O O Xp X0p g a6 Z Z)<|Ye 12 O (X0 O X8 (X19 g Xj (Xg (d:=(0:Int)) Z) 0 O))<|YA 13 O O<|YA 14 O O<|YB 15 O O<|Yo 16 O (fun _=>Vd O X3k 6)<|Ye 17 O (X0 O X39 (b.at 6))<|YA 18 O O<|Yo 19 O (fun _=>Xm (k:=q.toNat) O O X2x X3q i a7 Z Z)<|Ye 20 O (X0 O X7a (X19 i X1s (Xg (d:=false) Z) 0 O))<|Y1 21<|Yk O tv0 (Vc (Xd3 _ BW eW x.d.ws E.top (x.la.getD q.toNat 0) (x.d.ns.length:Int) (x.hd.getD q.toNat false) Z aI) X7m) (fun _ _ ⟨M,N,_,o,C⟩=>C) ?_;rintro _ w5 ⟨M,N,rfl,o,C⟩;have o:=o.lower h.size;have ⟨b,g,i,y⟩:=mv4 C b g i y;have h:=tsbel h C;refine YB 22 O O<|Yo 23 O (fun _=>Vd O X1b 0)<|Yo 24 O (fun _=>Vd O X02 2)<|Y1 25<|Yh O tv0 O (X1r (vs:=[.slice M (jnW x.d.ws (x.la.getD q.toNat 0) (x.d.ns.length:Int) (x.hd.getD q.toNat false)).length N]) (l':=[vi x.d.n,.slice A8 (x.d.ns++([(⟨k,p⟩ : Nd)])).length c8,.slice M (jnW x.d.ws (x.la.getD q.toNat 0) (x.d.ns.length:Int) (x.hd.getD q.toNat false)).length N,vi x.d.t,vi x.d.r,.slice A1 n0 c1,.slice A2 n0 c2]) O O X2h b O O O O O) ?_;intro _ w6 ⟨I,hb⟩;have g:=g.oT I b O;have i:=i.oT I b O;have y:=y.oT I b O;have o:=o.oT I b O;have h:=tsonly h I (.inl (.inl O));have b:=hb;refine Yd fun a J=>aD _ _<|ZS J fun aE=>Zm O<|Ze (X05 O)<|Ze (Vd O X31 5)<|Ze (X0 O X3g (b.at 5))<|Zm O<|Zm O<|Ze (Xm (k:=q.toNat) O O Xp X0p g a6 Z Z)<|Zo (X1a (enc:=encI) (l:=x.la) (vs:=[vi (x.d.ns.length:Int)]) (x0:=(x.la.getD q.toNat 0)) (u:=(x.d.ns.length:Int)) (k:=q.toNat) (j:=0) (n1:=1) O O X0p g Xj O O O O O5 (Xg (d:=(0:Int)) Z) O) ?_;intro _ w7 ⟨G,D⟩;have f:=g;have b:=b.appT f D O;have i:=i.appT f D O;have y:=y.appT f D O
 have o:=o.appT f D O;have h:=tsrow h D aK;clear f D;clear g;have g:=G;clear G;refine Zt aE fun a J=>Zr J<|Zm O<|Ze (X05 O)<|Ze (Vd O X3k 6)<|Ze (X0 O X39 (b.at 6))<|Zm O<|Ze (Xm (k:=q.toNat) O O X2x X3q i a7 Z Z)<|Zo (X1a (enc:=encB) (l:=x.hd) (vs:=[.bool false]) (x0:=(x.hd.getD q.toNat false)) (u:=false) (k:=q.toNat) (j:=0) (n1:=1) O O X3q i X1s O O O O O5 (Xg (d:=false) Z) O) ?_;intro _ w8 ⟨G,D⟩;have f:=i;have b:=b.appT f D O;have y:=y.appT f D O;have o:=o.appT f D O;have g:=g.appT f D O;have h:=tsrow h D aL;clear f D;clear i;have i:=G;clear G;exact Zn fun a J=>X20 J (X2y O)<|⟨A8,c8,M,N,((x.d.ns++([(⟨k,p⟩ : Nd)])).length),h,aN,⟨b,y,g,i,o.rd.top,o.cap,O,(a6.trans List.length_set.symm),(a7.trans List.length_set.symm)⟩⟩
theorem Xom(w0:World)(bV B0:Nat)(A0:Option Addr)(c0:Nat)(A1:Option Addr)(c1:Nat)(A2:Option Addr)(c2:Nat)(BW:Option Addr)(eW m0 n0:Nat)(x:Br)(aO:Drw w0 bV B0 A0 c0 A1 c1 A2 c2 BW eW m0 n0 x)(aP:B0<=w0.heap.size)(q:Int)(hq:0<=q/\q.toNat<n0)(aQ:BrOk n0 x)(b1:x.d.ns.length<=90000000/\x.d.ws.length<=90000000):RE 141 [(pZ9 bV),vi q] w0 (fun v w=>∃ A c B e m,v=vi ((plcB x q).la.getD q.toNat 0)/\TurnS (SB bV [A0,A1,A2]) w0 w/\Us (SB bV [A0,A1,A2]) w0 A/\Drw w bV B0 A c A1 c1 A2 c2 B e m n0 (plcB x q)):=by
 have ⟨f,l,g,i,u,aD,a6,y,a7⟩:=aO;have b0:=f.lt;have aE:Us (SB bV [A0,A1,A2]) w0 A0:=SB.us O4;have aR:Us (SB bV [A0,A1,A2]) w0 A1:=SB.us O4;have aS:Us (SB bV [A0,A1,A2]) w0 A2:=SB.us O4;have b2:=aQ.at hq;refine enter func141 O 40 O O ?_;intro a j;have t:TurnS (SB bV [A0,A1,A2]) w0 w0:=TurnS.refl _ _;refine ZS j fun aT=>Za O<|ZX aT fun a j _ aF=>Q5 fun _ aU=>X0i (fun a w=>Fr a 40 [(0,(pZ9 bV)),(1,vi q),(29,.bool ((x.hd.getD q.toNat false)||(((x.d.ns.getD (x.la.getD q.toNat 0).toNat nZ).k) != 3)))]/\Bl w0 w) ?_ ?_
 ·have h:=bz w0;refine Xy none (fun _=>false) mixed ?_;intro w1 o;have ⟨f,l,g,i⟩:=mv4 o f l g i;have t:=tsbel t o;have h:=btr h o;refine Yb j<|YA 0 O O<|YB 1 O O<|Yo 2 O (fun _=>Vd O X3k 6)<|Ye 3 O (X0 O X39 (f.at 6))<|YA 4 O O<|Yo 5 O (fun _=>Xm (k:=q.toNat) O O X2x X3q i a7 Z Z)<|Ye 6 O (X0 O X7a (X19 i X1s (Xg (d:=false) Z) 0 O))<|YA 7 O O<|Yl 12 O ?_ ?_<;>intro b
  ·refine Yp 8 O (gP b) ?_;refine Yp 9 O (gP b) ?_;refine Yp 10 O (gP b) ?_;refine Yp 11 O (gP b) ?_;refine Yp 12 O (gP b) ?_;refine Yp 13 O (gP b) ?_;refine Yp 14 O (gP b) ?_;refine Yp 15 O (gP b) ?_;refine Yp 16 O (gP b) ?_;refine Yp 17 O (gP b) ?_;refine Yp 18 O (gP b) ?_;refine Yp 19 O (gP b) ?_;refine Yp 20 O (gP b) ?_;refine Yp 21 O (gP b) ?_;refine Yp 22 O (gP b) ?_;exact Yp 23 O (gP b)<|Yo 24 O (fun _=>Xc O b O)<|Yd fun a j=>⟨j.sub ⟨O,O,X1 O (by first|rfl|(simp only[b,bs];done)|simp[b]),trivial⟩,h⟩
  refine Yu 8 O (gW b) (fun _=>X5 O) ?_;refine Yu 9 O (gW b) (fun _=>X05 O) ?_;refine Yu 10 O (gW b) (fun _=>Vd O X1b 0) ?_;refine Yu 11 O (gW b) (fun _=>Vd O Xn 1) ?_;refine Yv 12 O (gW b) (X0 O X0f (f.at 1)) ?_;refine Yu 13 O (gW b) (fun _=>X5 O) ?_;refine Yu 14 O (gW b) (fun _=>X05 O) ?_;refine Yu 15 O (gW b) (fun _=>Vd O X31 5) ?_;refine Yv 16 O (gW b) (X0 O X3g (f.at 5)) ?_;refine Yu 17 O (gW b) (fun _=>X5 O) ?_;refine Yu 18 O (gW b) (fun _=>Xm (k:=q.toNat) O O Xp X0p g y Z Z) ?_;refine Yv 19 O (gW b) (X0 O X8 (X19 g Xj (Xg (d:=(0:Int)) Z) 0 O)) ?_;refine Yu 20 O (gW b) (fun _=>Xm (k:=(x.la.getD q.toNat 0).toNat) O O X00 X0o l a6 Z Z) ?_;refine Yu 21 O (gW b) (fun _=>X1x O X1v (m':=(x.la.getD q.toNat 0).toNat*2+0) O) ?_;refine Yv 22 O (gW b) (X0 O X8 (X19 l X03 (Xg (d:=nZ) Z) 0 O)) ?_;refine Yu 23 O (gW b) (fun _=>X28 O O) ?_;exact Yo 24 O (fun _=>Xi O b O)<|Yd fun a j=>⟨j.sub ⟨O,O,X1 O (by first|rfl|(simp only[b,bs];done)|simp[b]),trivial⟩,h⟩
 intro a w2 ⟨j,o⟩;have ⟨f,l,g,i,u⟩:=mv5 o f l g i u;have t:=tsbel t o;refine aU _ _<|Xx j O ?_ ?_<;>intro a8
 ·have aA:=Y1t a8;refine Zr j<|Zm O<|Zm O<|Zf (Vc (Xzq _ bV B0 A0 c0 A1 c1 A2 c2 BW eW m0 n0 x ⟨f,l,g,i,u.top,aD,a6,y,a7⟩ (Q0 aP t.size) 3 0 q hq Z) Xky) ?_;intro _ w3 ⟨aV,aW,aX,aY,aZ,aG,n,aH,aI,C,D,aJ,aK,aL,p,aB⟩;have aC:=SB.lift (S:=SB bV [A0,A1,A2]) (w0:=w0) (.inl (.inl O)) (alc aE (alc aR (alc aS al0)));have n:=Us.trans n aC t.size;have t:=tstr t aG aC;clear aC;clear aG f;have f:=aH;clear aH;clear g;have g:=C;clear C;clear i;have i:=D;clear D;refine Zx aF fun a j _ aM=>Zm O<|Ze (X05 O)<|Ze (Vd O X31 5)<|Ze (X0 O X3g (f.at 5))<|Zm O<|Ze (Xm (k:=q.toNat) O O Xp X0p g p Z Z)<|Ze (X0 O X8 (X19 g Xj (Xg (d:=(0:Int)) Z) 0 O))<|Za O<|Zt aM fun a j=>Q6 (X6 j (Xq j O O) ?_);rw[aA];exact ⟨aV,aW,aX,aY,aZ,O,t,n,⟨f,aI,g,i,aJ.top,aK,aL,p,aB⟩⟩
 have aA:=Y1s a8;refine Q7<|aF _ _<|ZS j fun aN=>Zm O<|Ze (X05 O)<|Ze (Vd O X31 5)<|Ze (X0 O X3g (f.at 5))<|Zm O<|Ze (Xm (k:=q.toNat) O O Xp X0p g y Z Z)<|Ze (X0 O X8 (X19 g Xj (Xg (d:=(0:Int)) Z) 0 O))<|Za O<|Zt aN fun a j=>Q6 (X6 j (Xq j O O) ?_);rw[aA];exact ⟨A0,c0,BW,eW,m0,O,t,aE,⟨f,l,g,i,u.top,aD,a6,y,a7⟩⟩
def Xjv(w0:World)(bV B0:Nat)(A0:Option Addr)(c0:Nat)(A1:Option Addr)(c1:Nat)(A2:Option Addr)(c2:Nat)(BW:Option Addr)(eW m0 n0:Nat)(x:Br)(aE:Drw w0 bV B0 A0 c0 A1 c1 A2 c2 BW eW m0 n0 x)(aF:B0<=w0.heap.size)(q:Int)(f:Int)(hq:0<=q/\q.toNat<n0)(a8:BrOk n0 x)(aS:x.d.ns.length<=80000000/\x.d.ws.length<=80000000)(aT:0<=f/\f<=900):RE 116 [(pZ9 bV),vi q,vi f] w0 (fun v w=>∃ A c B e m,TurnS (SB bV [A0,A1,A2]) w0 w/\Us (SB bV [A0,A1,A2]) w0 A/\Drw w bV B0 A c A1 c1 A2 c2 B e m n0 (trnB x q f)):=by
 have ⟨b,aG,i,n,aH,aI,aJ,aK,aL⟩:=aE;have aR:=b.lt;have aM:Us (SB bV [A0,A1,A2]) w0 A0:=SB.us O4;have aN:Us (SB bV [A0,A1,A2]) w0 A1:=SB.us O4;have aO:Us (SB bV [A0,A1,A2]) w0 A2:=SB.us O4;have C:=X47 a8 q;have aU:=C.at hq;have aV:=X4g x q;have aW:=X2j C.p ((plcB x q).la.getD q.toNat 0).toNat;refine enter func116 O 30 O O ?_;intro a hf;have h:TurnS (SB bV [A0,A1,A2]) w0 w0:=TurnS.refl _ _;refine ZS hf fun aP=>Zm O<|Zm O<|Zf (Vc (Xom _ bV B0 A0 c0 A1 c1 A2 c2 BW eW m0 n0 x ⟨b,aG,i,n,aH.top,aI,aJ,aK,aL⟩ (Q0 aF h.size) q hq a8 Z) Xf6) ?_;rintro _ w1 ⟨A6,c6,A7,c7,m6,rfl,aA,t,aB,g,D,E,y,aQ,a6,aC,aD⟩;have a7:=SB.lift (S:=SB bV [A0,A1,A2]) (w0:=w0) (.inl (.inl O)) (alc aM (alc aN (alc aO al0)));have t:=Us.trans t a7 h.size;have h:=tstr h aA a7;clear a7;clear aA b;have b:=aB;clear aB;clear i;have i:=D;clear D;clear n;have n:=E;clear E;refine Za O<|Zt aP fun a hf=>Xy none (fun j=>[20].contains j) mixed ?_;intro w2 hE;have ⟨b,i,n,g,y⟩:=mv5 hE b i n g y;have h:=tsbel h hE;refine Yb hf<|YA 0 O O<|YB 1 O O<|Yo 2 O (fun _=>Vd O X1b 0)<|Yo 3 O (fun _=>Vd O Xn 1)<|Ye 4 O (X0 O X0f (b.at 1))<|YA 5 O O<|YA 6 O O<|YB 7 O O<|Yo 8 O (fun _=>Vd O X1b 0)<|Yo 9 O (fun _=>Vd O Xn 1)<|Ye 10 O (X0 O X0f (b.at 1))<|YA 11 O O<|Yo 12 O (fun _=>Xm (k:=((plcB x q).la.getD q.toNat 0).toNat) O O X00 X0o g a6 Z Z)<|Yo 13 O (fun _=>X1x O X0m (m':=((plcB x q).la.getD q.toNat 0).toNat*2+1) O)<|Ye 14 O (X0 O X8 (X19 g X03 (Xg (d:=nZ) Z) 1 O))<|YA 15 O O<|Yo 16 O (fun _=>Xr O O Z Z)<|Yo 17 O (fun _=>Vx (X46 O O O) (tm8 Z))<|Yo 18 O (fun _=>Xm (k:=((plcB x q).la.getD q.toNat 0).toNat) O O X00 X0o g a6 Z Z)<|Yo 19 O (fun _=>X1x O X0m (m':=((plcB x q).la.getD q.toNat 0).toNat*2+1) O)<|Y1 20<|Yh O tv0 O (X1a (enc:=encNd) (l:=(plcB x q).d.ns) (vs:=[vi ((((plcB x q).d.ns.getD ((plcB x q).la.getD q.toNat 0).toNat nZ).p+f) % 8)]) (x0:=((plcB x q).d.ns.getD ((plcB x q).la.getD q.toNat 0).toNat nZ)) (u:=(⟨((plcB x q).d.ns.getD ((plcB x q).la.getD q.toNat 0).toNat nZ).k,((((plcB x q).d.ns.getD ((plcB x q).la.getD q.toNat 0).toNat nZ).p+f) % 8)⟩ : Nd)) (k:=((plcB x q).la.getD q.toNat 0).toNat) (j:=1) (n1:=1) O O X0p g X03 O O O O O5 (Xg (d:=nZ) Z) O) ?_;intro _ w3 ⟨G,hg⟩;have o:=g;have b:=b.appT o hg O;have i:=i.appT o hg O;have n:=n.appT o hg O;have y:=y.appT o hg O;have h:=tsrow h hg t;clear o hg;clear g;have g:=G;clear G;exact Yd fun a hf=>X20 hf (X2y O)<|⟨A6,c6,A7,c7,m6,h,t,⟨b,g,i,n,y.top,aQ,(a6.trans List.length_set.symm),aC,aD⟩⟩
def Xzw(w0:World)(bV B0:Nat)(A0:Option Addr)(c0:Nat)(A1:Option Addr)(c1:Nat)(A2:Option Addr)(c2:Nat)(BW:Option Addr)(eW m0 E:Nat)(x:Br)(aT:Drw w0 bV B0 A0 c0 A1 c1 A2 c2 BW eW m0 E x)(aF:B0<=w0.heap.size)(p:Int)(q:Int)(hp:0<=p/\p.toNat<E)(hq:0<=q/\q.toNat<E)(aG:BrOk E x)(bD:x.d.ns.length<=80000000/\x.d.ws.length<=80000000):RE 117 [(pZ9 bV),vi p,vi q] w0 (fun v w=>∃ A c B e m,TurnS (SB bV [A0,A1,A2]) w0 w/\Us (SB bV [A0,A1,A2]) w0 A/\Drw w bV B0 A c A1 c1 A2 c2 B e m E (czB x p q)):=by
 have ⟨b,aU,f,g,aV,aW,aX,aY,aZ⟩:=aT;have b7:=b.lt;have b0:Us (SB bV [A0,A1,A2]) w0 A0:=SB.us O4;have aH:Us (SB bV [A0,A1,A2]) w0 A1:=SB.us O4;have aI:Us (SB bV [A0,A1,A2]) w0 A2:=SB.us O4;have a6:=X47 aG p;have b8:=X4g x p;have b9:=X47 a6 q;have bC:=X4g (plcB x p) q;have aJ:=Xaf (plcB (plcB x p) q).d.ws ((plcB x p).la.getD p.toNat 0) ((plcB (plcB x p) q).la.getD q.toNat 0);refine enter func117 O 66 O O ?_;intro a D;have j:TurnS (SB bV [A0,A1,A2]) w0 w0:=TurnS.refl _ _;refine ZS D fun b1=>Zm O<|Zm O<|Zf (Vc (Xom _ bV B0 A0 c0 A1 c1 A2 c2 BW eW m0 E x ⟨b,aU,f,g,aV.top,aW,aX,aY,aZ⟩ (Q0 aF j.size) p hp aG Z) Xf6) ?_;rintro _ w1 ⟨A6,c6,A7,c7,m6,rfl,I,J,L,b2,y,h,b3,b4,b5,aK,aL⟩;have G:=SB.lift (S:=SB bV [A0,A1,A2]) (w0:=w0) (.inl (.inl O)) (alc b0 (alc aH (alc aI al0)));have J:=Us.trans J G j.size;have j:=tstr j I G;clear G;clear I b;have b:=L;clear L;clear f;have f:=y;clear y;clear g;have g:=h;clear h;refine Za O<|Zx b1 fun a D _ b6=>Zm O<|Zm O<|Zf (Vc (Xom _ bV B0 A6 c6 A1 c1 A2 c2 A7 c7 m6 E (plcB x p) ⟨b,b2,f,g,b3.top,b4,b5,aK,aL⟩ (Q0 aF j.size) q hq a6 Z) Xf6) ?_;rintro _ w2 ⟨A9,c9,aB,aC,m9,rfl,I,H,L,i,y,h,C,a7,aM,a8,aA⟩;have G:=SB.lift (S:=SB bV [A0,A1,A2]) (w0:=w0) (.inl (.inl O)) (alc J (alc aH (alc aI al0)));have H:=Us.trans H G j.size;have j:=tstr j I G;clear G;clear I b;have b:=L;clear L;clear f;have f:=y;clear y;clear g;have g:=h;clear h;refine Za O<|ZX b6 fun a D _ aN=>ZS D fun aO=>Zm O<|Ze (X05 O)<|Ze (Vd O X1b 0)<|Ze (Vd O X02 2)<|Ze (X0 O X1f (b.at 2))<|Zm O<|Zm O<|Zf (Vc (Xjr _ aB aC ((plcB (plcB x p) q).d.ws) C.top ((plcB x p).la.getD p.toNat 0) ((plcB (plcB x p) q).la.getD q.toNat 0) Z) Xay) ?_;rintro _ w3 ⟨rfl,u⟩;have ⟨b,f,g,i,C⟩:=mv5 u b f g i C;have j:=tsbel j u;refine Za O<|Zx aO fun a D _ aP=>Zm O<|Ze (X5q O O)<|Zt aP fun a D=>X0y D O (fun aD M=>?_) (fun aD M=>?_)
 ·have aE:=Y9k M;refine ZS D fun aQ=>Zm O<|Zm O<|Ze (X05 O)<|Ze (Vd O X1b 0)<|Ze (Vd O X02 2)<|Ze (X0 O X1f (b.at 2))<|Zm O<|Zf (Vc (Xjs _ aB aC ((plcB (plcB x p) q).d.ws) C.top (fdW ((plcB (plcB x p) q).d.ws) ((plcB x p).la.getD p.toNat 0) ((plcB (plcB x p) q).la.getD q.toNat 0)) Z a7 ⟨by omega,aJ⟩) Xaz) ?_;rintro _ w4 ⟨N,Q,rfl,k,u⟩;have k:=k.lower j.size;have ⟨b,f,g,i⟩:=mv4 u b f g i;have j:=tsbel j u;refine Ze (X05 O)<|Ze (Vd O X1b 0)<|Ze (Vd O X02 2)<|Zo (X1r (vs:=[.slice N (ctW ((plcB (plcB x p) q).d.ws) (fdW ((plcB (plcB x p) q).d.ws) ((plcB x p).la.getD p.toNat 0) ((plcB (plcB x p) q).la.getD q.toNat 0)).toNat).length Q]) (l':=[vi ((plcB (plcB x p) q).d.n),.slice A9 m9 c9,.slice N (ctW ((plcB (plcB x p) q).d.ws) (fdW ((plcB (plcB x p) q).d.ws) ((plcB x p).la.getD p.toNat 0) ((plcB (plcB x p) q).la.getD q.toNat 0)).toNat).length Q,vi ((plcB (plcB x p) q).d.t),vi ((plcB (plcB x p) q).d.r),.slice A1 E c1,.slice A2 E c2]) O O X2h b O O O O O) ?_;intro _ w5 ⟨o,hb⟩;have f:=f.oT o b O;have g:=g.oT o b O;have i:=i.oT o b O;have k:=k.oT o b O;have j:=tsonly j o (.inl (.inl O));have b:=hb;refine Zx aQ fun a D _ aR=>Zm O<|Ze (X05 O)<|Ze (Vd O X1b 0)<|Ze (Vd O X0h 4)<|Ze (X0 O X8 (b.at 4))<|Ze (X6r O O)<|Ze (X05 O)<|Ze (Vd O X1b 0)<|Ze (Vd O X0h 4)<|Zo (X1r (vs:=[vi (wr (((plcB (plcB x p) q).d.r)-1))]) (l':=[vi ((plcB (plcB x p) q).d.n),.slice A9 m9 c9,.slice N (ctW ((plcB (plcB x p) q).d.ws) (fdW ((plcB (plcB x p) q).d.ws) ((plcB x p).la.getD p.toNat 0) ((plcB (plcB x p) q).la.getD q.toNat 0)).toNat).length Q,vi ((plcB (plcB x p) q).d.t),vi (wr (((plcB (plcB x p) q).d.r)-1)),.slice A1 E c1,.slice A2 E c2]) O O X0p b O O O O O) ?_;intro _ w6 ⟨o,hb⟩;have f:=f.oT o b O;have g:=g.oT o b O;have i:=i.oT o b O;have k:=k.oT o b O;have j:=tsonly j o (.inl (.inl O));have b:=hb;refine Zt aR fun a D=>Q6<|X9<|X6 D (X2y O) ?_;rw[aE];exact ⟨A9,c9,N,Q,m9,j,H,⟨b,i,f,g,k.rd.top,k.cap,aM,a8,aA⟩⟩
 have aE:=Y9i M;refine Q7<|aN _ _<|ZS D fun aS=>Zm O<|Zm O<|Ze (X05 O)<|Ze (Vd O X1b 0)<|Ze (Vd O X02 2)<|Ze (X0 O X1f (b.at 2))<|Zm O<|Zm O<|Zf (Vc (Xd3 _ aB aC ((plcB (plcB x p) q).d.ws) C.top ((plcB x p).la.getD p.toNat 0) ((plcB (plcB x p) q).la.getD q.toNat 0) true Z a7) X7m) ?_;rintro _ w7 ⟨U,W,rfl,l,u⟩;have l:=l.lower j.size;have ⟨b,f,g,i⟩:=mv4 u b f g i;have j:=tsbel j u;refine Ze (X05 O)<|Ze (Vd O X1b 0)<|Ze (Vd O X02 2)<|Zo (X1r (vs:=[.slice U (jnW ((plcB (plcB x p) q).d.ws) ((plcB x p).la.getD p.toNat 0) ((plcB (plcB x p) q).la.getD q.toNat 0) true).length W]) (l':=[vi ((plcB (plcB x p) q).d.n),.slice A9 m9 c9,.slice U (jnW ((plcB (plcB x p) q).d.ws) ((plcB x p).la.getD p.toNat 0) ((plcB (plcB x p) q).la.getD q.toNat 0) true).length W,vi ((plcB (plcB x p) q).d.t),vi ((plcB (plcB x p) q).d.r),.slice A1 E c1,.slice A2 E c2]) O O X2h b O O O O O) ?_;intro _ w8 ⟨o,hb⟩;have f:=f.oT o b O;have g:=g.oT o b O;have i:=i.oT o b O;have l:=l.oT o b O;have j:=tsonly j o (.inl (.inl O));have b:=hb;refine Zt aS fun a D=>Zr D<|Zm O<|Ze (X05 O)<|Ze (Vd O X1b 0)<|Ze (Vd O X0h 4)<|Ze (X0 O X8 (b.at 4))<|Ze (X3b O O)<|Ze (X05 O)<|Ze (Vd O X1b 0)<|Ze (Vd O X0h 4)<|Zo (X1r (vs:=[vi (wr (((plcB (plcB x p) q).d.r)+1))]) (l':=[vi ((plcB (plcB x p) q).d.n),.slice A9 m9 c9,.slice U (jnW ((plcB (plcB x p) q).d.ws) ((plcB x p).la.getD p.toNat 0) ((plcB (plcB x p) q).la.getD q.toNat 0) true).length W,vi ((plcB (plcB x p) q).d.t),vi (wr (((plcB (plcB x p) q).d.r)+1)),.slice A1 E c1,.slice A2 E c2]) O O X0p b O O O O O) ?_;intro _ w9 ⟨o,hb⟩;have f:=f.oT o b O;have g:=g.oT o b O;have i:=i.oT o b O;have l:=l.oT o b O;have j:=tsonly j o (.inl (.inl O));have b:=hb;refine Zn fun a D=>X20 D (X2y O) ?_;rw[aE];exact ⟨A9,c9,U,W,m9,j,H,⟨b,i,f,g,l.rd.top,l.cap,aM,a8,aA⟩⟩
def Y83(w0:World)(bV B0:Nat)(A0:Option Addr)(c0:Nat)(A1:Option Addr)(c1:Nat)(A2:Option Addr)(c2:Nat)(BW:Option Addr)(eW m0 n0:Nat)(x:Br)(f7:Drw w0 bV B0 A0 c0 A1 c1 A2 c2 BW eW m0 n0 x)(a7:B0<=w0.heap.size)(g:Gt)(aC:BrOk n0 x)(iG:x.d.ns.length<=70000000/\x.d.ws.length<=70000000)(Q:gOk (n0:Int) g=true):RE 86 [(pZ9 bV),.agg #[vi g.k,vi g.a,vi g.b]] w0 (fun v w=>∃ A c B e m,TurnS (SB bV [A0,A1,A2]) w0 w/\Us (SB bV [A0,A1,A2]) w0 A/\Drw w bV B0 A c A1 c1 A2 c2 B e m n0 (gtB x g)):=by
 have ⟨i,G,o,p,J,aD,aE,a8,aA⟩:=f7;have iC:=i.lt;have aF:Us (SB bV [A0,A1,A2]) w0 A0:=SB.us O4;have U:Us (SB bV [A0,A1,A2]) w0 A1:=SB.us O4;have W:Us (SB bV [A0,A1,A2]) w0 A2:=SB.us O4;have aB:=X6x Q;have b2:=X6y Q;have iH:=X22 Q;have aT:x.d.ns.length<=80000000/\x.d.ws.length<=80000000:=by omega
 have o1:=X5b aC g.a 4;have l1:=X87 x g.a 4;have iD:=aC.la;have iE:=aC.hd;refine enter func86 O 164 O O ?_;intro a L;have E:TurnS (SB bV [A0,A1,A2]) w0 w0:=TurnS.refl _ _;refine ZS L fun f8=>Zf (X0n (zs:=[vi g.k,vi g.a,vi g.b]) O O) ?_;rintro _ w1 ⟨b6,rfl,f9,M,f⟩;have iF:=Q0 E.size f9;have ⟨i,G,o,p,J⟩:=mv5 M i G o p J;have E:=tsbel E M;refine Zx f8 fun a L _ fA=>Ze (Vd O X1e 0)<|Ze (X0 O X8 (f.at 0))<|Zt fA fun a L=>Q8<|ZS L fun fB=>Ze (X0l O O)<|Za O<|Zt fB fun a L=>Xx L O ?_ ?_<;>intro bF
 ·have a6:=Y4s (x:=x) bF;refine Zr L<|Zm O<|Ze (Vd O X0j 1)<|Ze (X0 O X8 (f.at 1))<|Zf (Vc (Xbl _ bV B0 A0 c0 A1 c1 A2 c2 BW eW m0 n0 x ⟨i,G,o,p,J.top,aD,aE,a8,aA⟩ (Q0 a7 E.size) g.a aB) X69) ?_;intro _ w2 ⟨fC,fE,fF,fG,fH,C,aG,I,cL,q,y,cM,cN,cO,bG,bH⟩;have f:=f.tu C i O (alc (nrow G f O) (alc (nrow o f O) (alc (nrow p f O) al0)));have D:=SB.lift (S:=SB bV [A0,A1,A2]) (w0:=w0) (.inl (.inl O)) (alc aF (alc U (alc W al0)));have aG:=Us.trans aG D E.size;have E:=tstr E C D;clear D;clear C i;have i:=I;clear I;clear o;have o:=q;clear q;clear p;have p:=y;clear y;refine Zn fun a L=>Xd<|X20 L (X2y O) ?_;rw[a6];exact ⟨fC,fE,fF,fG,fH,E,aG,⟨i,cL,o,p,cM.top,cN,cO,bG,bH⟩⟩
 have g1:=bF;refine ZS L fun cP=>Ze (X0l O O)<|Za O<|Zt cP fun a L=>Xx L O ?_ ?_<;>intro aU
 ·have a6:=Y4t (x:=x) g1 aU;refine ZS L fun cQ=>Zm O<|Ze (Vd O X0j 1)<|Ze (X0 O X8 (f.at 1))<|Zf (Vc (Xbl _ bV B0 A0 c0 A1 c1 A2 c2 BW eW m0 n0 x ⟨i,G,o,p,J.top,aD,aE,a8,aA⟩ (Q0 a7 E.size) g.a aB) X69) ?_;intro _ w3 ⟨fI,fJ,fK,fL,fM,C,aH,I,b4,q,y,cR,cS,cT,bI,bJ⟩;have f:=f.tu C i O (alc (nrow G f O) (alc (nrow o f O) (alc (nrow p f O) al0)));have D:=SB.lift (S:=SB bV [A0,A1,A2]) (w0:=w0) (.inl (.inl O)) (alc aF (alc U (alc W al0)));have aH:=Us.trans aH D E.size;have E:=tstr E C D;clear D;clear C i;have i:=I;clear I;clear o;have o:=q;clear q;clear p;have p:=y;clear y;refine Zx cQ fun a L _ cU=>Zm O<|Ze (Vd O X0j 1)<|Ze (X0 O X8 (f.at 1))<|Zf (Vc (Xjv _ bV B0 fI fJ A1 c1 A2 c2 fK fL fM n0 (flpB x g.a) ⟨i,b4,o,p,cR.top,cS,cT,bI,bJ⟩ (Q0 a7 E.size) g.a 4 aB (X2f aC g.a) aT ⟨by decide,by decide⟩) Xb2) ?_;intro _ w4 ⟨fN,fO,fP,fQ,fR,C,aI,I,b5,q,y,cV,cW,cX,bK,bL⟩;have f:=f.tu C i O (alc (nrow b4 f O) (alc (nrow o f O) (alc (nrow p f O) al0)));have D:=SB.lift (S:=SB bV [A0,A1,A2]) (w0:=w0) (.inl (.inl O)) (alc aH (alc U (alc W al0)));have aI:=Us.trans aI D E.size;have E:=tstr E C D;clear D;clear C i;have i:=I;clear I;clear o;have o:=q;clear q;clear p;have p:=y;clear y;refine Zt cU fun a L=>Zr L<|Zm O<|Ze (Vd O X0j 1)<|Ze (X0 O X8 (f.at 1))<|Zf (Vc (Xbl _ bV B0 fN fO A1 c1 A2 c2 fP fQ fR n0 (trnB (flpB x g.a) g.a 4) ⟨i,b5,o,p,cV.top,cW,cX,bK,bL⟩ (Q0 a7 E.size) g.a aB) X69) ?_;intro _ w5 ⟨fS,fT,fU,fV,fW,C,aJ,I,cY,q,y,d5,d6,d7,bM,bN⟩;have f:=f.tu C i O (alc (nrow b5 f O) (alc (nrow o f O) (alc (nrow p f O) al0)));have D:=SB.lift (S:=SB bV [A0,A1,A2]) (w0:=w0) (.inl (.inl O)) (alc aI (alc U (alc W al0)));have aJ:=Us.trans aJ D E.size;have E:=tstr E C D;clear D;clear C i;have i:=I;clear I;clear o;have o:=q;clear q;clear p;have p:=y;clear y;refine Zn fun a L=>Xd<|X20 L (X2y O) ?_;rw[a6];exact ⟨fS,fT,fU,fV,fW,E,aJ,⟨i,cY,o,p,d5.top,d6,d7,bM,bN⟩⟩
 have g2:=aU;refine ZS L fun d8=>Ze (X0l O O)<|Za O<|Zt d8 fun a L=>Xx L O ?_ ?_<;>intro aV
 ·have a6:=Y4u (x:=x) g1 g2 aV;refine ZS L fun d9=>Zm O<|Ze (Vd O X0j 1)<|Ze (X0 O X8 (f.at 1))<|Zf (Vc (Xjv _ bV B0 A0 c0 A1 c1 A2 c2 BW eW m0 n0 x ⟨i,G,o,p,J.top,aD,aE,a8,aA⟩ (Q0 a7 E.size) g.a 4 aB aC aT ⟨by decide,by decide⟩) Xb2) ?_;intro _ w6 ⟨fX,fY,fZ,g5,g6,C,aK,I,b7,q,y,dA,dB,dC,bO,bP⟩;have f:=f.tu C i O (alc (nrow G f O) (alc (nrow o f O) (alc (nrow p f O) al0)));have D:=SB.lift (S:=SB bV [A0,A1,A2]) (w0:=w0) (.inl (.inl O)) (alc aF (alc U (alc W al0)));have aK:=Us.trans aK D E.size;have E:=tstr E C D;clear D;clear C i;have i:=I;clear I;clear o;have o:=q;clear q;clear p;have p:=y;clear y;refine Zx d9 fun a L _ dD=>Zm O<|Ze (Vd O X0j 1)<|Ze (X0 O X8 (f.at 1))<|Zf (Vc (Xbl _ bV B0 fX fY A1 c1 A2 c2 fZ g5 g6 n0 (trnB x g.a 4) ⟨i,b7,o,p,dA.top,dB,dC,bO,bP⟩ (Q0 a7 E.size) g.a aB) X69) ?_;intro _ w7 ⟨g7,g8,gA,gC,gD,C,aL,I,b8,q,y,dE,dF,dG,bQ,bR⟩;have f:=f.tu C i O (alc (nrow b7 f O) (alc (nrow o f O) (alc (nrow p f O) al0)));have D:=SB.lift (S:=SB bV [A0,A1,A2]) (w0:=w0) (.inl (.inl O)) (alc aK (alc U (alc W al0)));have aL:=Us.trans aL D E.size;have E:=tstr E C D;clear D;clear C i;have i:=I;clear I;clear o;have o:=q;clear q;clear p;have p:=y;clear y;refine Zx dD fun a L _ dH=>Zm O<|Ze (Vd O X0j 1)<|Ze (X0 O X8 (f.at 1))<|Zf (Vc (Xjv _ bV B0 g7 g8 A1 c1 A2 c2 gA gC gD n0 (flpB (trnB x g.a 4) g.a) ⟨i,b8,o,p,dE.top,dF,dG,bQ,bR⟩ (Q0 a7 E.size) g.a 4 aB (X2f o1 g.a) (show (trnB x g.a 4).d.ns.length<=_/\(trnB x g.a 4).d.ws.length<=_ by omega) ⟨by decide,by decide⟩) Xb2) ?_;intro _ w8 ⟨gE,gF,gG,gH,gI,C,aM,I,b9,q,y,dI,dJ,dK,bS,bU⟩;have f:=f.tu C i O (alc (nrow b8 f O) (alc (nrow o f O) (alc (nrow p f O) al0)));have D:=SB.lift (S:=SB bV [A0,A1,A2]) (w0:=w0) (.inl (.inl O)) (alc aL (alc U (alc W al0)));have aM:=Us.trans aM D E.size;have E:=tstr E C D;clear D;clear C i;have i:=I;clear I;clear o;have o:=q;clear q;clear p;have p:=y;clear y;refine Zx dH fun a L _ dL=>Zm O<|Ze (Vd O X0j 1)<|Ze (X0 O X8 (f.at 1))<|Zf (Vc (Xbl _ bV B0 gE gF A1 c1 A2 c2 gG gH gI n0 (trnB (flpB (trnB x g.a 4) g.a) g.a 4) ⟨i,b9,o,p,dI.top,dJ,dK,bS,bU⟩ (Q0 a7 E.size) g.a aB) X69) ?_;intro _ w9 ⟨dM,dN,dO,dP,dQ,C,aN,I,aW,q,y,aX,dR,dS,bW,bX⟩;have f:=f.tu C i O (alc (nrow b9 f O) (alc (nrow o f O) (alc (nrow p f O) al0)));have D:=SB.lift (S:=SB bV [A0,A1,A2]) (w0:=w0) (.inl (.inl O)) (alc aM (alc U (alc W al0)));have aN:=Us.trans aN D E.size;have E:=tstr E C D;clear D;clear C i;have i:=I;clear I;clear o;have o:=q;clear q;clear p;have p:=y;clear y;refine Zt dL fun a L=>Zr L<|Zm O<|Ze (X05 O)<|Ze (Vd O X1b 0)<|Ze (Vd O X1o 3)<|Ze (X0 O X8 (i.at 3))<|Ze (X3b O O)<|Ze (X05 O)<|Ze (Vd O X1b 0)<|Ze (Vd O X1o 3)<|Zo (X1r (vs:=[vi (wr (((flpB (trnB (flpB (trnB x g.a 4) g.a) g.a 4) g.a).d.t)+2))]) (l':=[vi ((flpB (trnB (flpB (trnB x g.a 4) g.a) g.a 4) g.a).d.n),.slice dM dQ dN,.slice dO ((flpB (trnB (flpB (trnB x g.a 4) g.a) g.a 4) g.a).d.ws).length dP,vi (wr (((flpB (trnB (flpB (trnB x g.a 4) g.a) g.a 4) g.a).d.t)+2)),vi ((flpB (trnB (flpB (trnB x g.a 4) g.a) g.a 4) g.a).d.r),.slice A1 n0 c1,.slice A2 n0 c2]) O O X0p i O O O O O) ?_;intro _ iI ⟨ho,hb⟩;have o:=o.oT ho i O;have p:=p.oT ho i O;have aW:=aW.oT ho i O;have aX:=aX.oT ho i O;have E:=tsonly E ho (.inl (.inl O));have i:=hb;refine Zn fun a L=>Xd<|X20 L (X2y O) ?_
  rw[a6];exact ⟨dM,dN,dO,dP,dQ,E,aN,⟨i,aW,o,p,aX.top,dR,dS,bW,bX⟩⟩
 have g3:=aV;refine ZS L fun dT=>Ze (X0l O O)<|Za O<|Zt dT fun a L=>Xx L O ?_ ?_<;>intro aY
 ·have a6:=Y4v (x:=x) g1 g2 g3 aY;refine ZS L fun dU=>Zm O<|Ze (Vd O X1g 2)<|Ze (X0 O X8 (f.at 2))<|Zf (Vc (Xbl _ bV B0 A0 c0 A1 c1 A2 c2 BW eW m0 n0 x ⟨i,G,o,p,J.top,aD,aE,a8,aA⟩ (Q0 a7 E.size) g.b b2) X69) ?_;intro _ iJ ⟨gJ,gK,gL,gM,gN,C,aO,I,bC,q,y,dW,dX,dY,bY,bZ⟩;have f:=f.tu C i O (alc (nrow G f O) (alc (nrow o f O) (alc (nrow p f O) al0)));have D:=SB.lift (S:=SB bV [A0,A1,A2]) (w0:=w0) (.inl (.inl O)) (alc aF (alc U (alc W al0)));have aO:=Us.trans aO D E.size;have E:=tstr E C D;clear D;clear C i;have i:=I;clear I;clear o;have o:=q;clear q;clear p;have p:=y;clear y;refine Zx dU fun a L _ eA=>Zm O<|Ze (Vd O X0j 1)<|Ze (X0 O X8 (f.at 1))<|Ze (Vd O X1g 2)<|Ze (X0 O X8 (f.at 2))<|Zf (Vc (Xzw _ bV B0 gJ gK A1 c1 A2 c2 gL gM gN n0 (flpB x g.b) ⟨i,bC,o,p,dW.top,dX,dY,bY,bZ⟩ (Q0 a7 E.size) g.a g.b aB b2 (X2f aC g.b) aT) Xl4) ?_;intro _ iK ⟨gO,gQ,gR,gS,gT,C,aP,I,bD,q,y,eB,eC,eD,cA,cB⟩;have f:=f.tu C i O (alc (nrow bC f O) (alc (nrow o f O) (alc (nrow p f O) al0)));have D:=SB.lift (S:=SB bV [A0,A1,A2]) (w0:=w0) (.inl (.inl O)) (alc aO (alc U (alc W al0)));have aP:=Us.trans aP D E.size;have E:=tstr E C D;clear D;clear C i;have i:=I;clear I;clear o;have o:=q;clear q;clear p;have p:=y;clear y;refine Zt eA fun a L=>Zr L<|Zm O<|Ze (Vd O X1g 2)<|Ze (X0 O X8 (f.at 2))<|Zf (Vc (Xbl _ bV B0 gO gQ A1 c1 A2 c2 gR gS gT n0 (czB (flpB x g.b) g.a g.b) ⟨i,bD,o,p,eB.top,eC,eD,cA,cB⟩ (Q0 a7 E.size) g.b b2) X69) ?_;intro _ iL ⟨gU,gX,gY,hJ,hY,C,aQ,I,eE,q,y,eF,eG,eH,cC,cD⟩;have f:=f.tu C i O (alc (nrow bD f O) (alc (nrow o f O) (alc (nrow p f O) al0)));have D:=SB.lift (S:=SB bV [A0,A1,A2]) (w0:=w0) (.inl (.inl O)) (alc aP (alc U (alc W al0)));have aQ:=Us.trans aQ D E.size;have E:=tstr E C D;clear D;clear C i;have i:=I;clear I;clear o;have o:=q;clear q;clear p;have p:=y;clear y;refine Zn fun a L=>Xd<|X20 L (X2y O) ?_;rw[a6];exact ⟨gU,gX,gY,hJ,hY,E,aQ,⟨i,eE,o,p,eF.top,eG,eH,cC,cD⟩⟩
 have g9:=aY;refine ZS L fun eI=>Ze (X0l O O)<|Za O<|Zt eI fun a L=>Xx L O ?_ ?_<;>intro aZ
 ·have a6:=Xqh (x:=x) g1 g2 g3 g9 aZ;refine Zr L<|Zm O<|Ze (Vd O X0j 1)<|Ze (X0 O X8 (f.at 1))<|Ze (Vd O X1g 2)<|Ze (X0 O X8 (f.at 2))<|Zf (Vc (Xzw _ bV B0 A0 c0 A1 c1 A2 c2 BW eW m0 n0 x ⟨i,G,o,p,J.top,aD,aE,a8,aA⟩ (Q0 a7 E.size) g.a g.b aB b2 aC aT) Xl4) ?_;intro _ iM ⟨i0,i1,i2,i4,i5,C,aR,I,eJ,q,y,eK,eL,eM,cE,cG⟩;have f:=f.tu C i O (alc (nrow G f O) (alc (nrow o f O) (alc (nrow p f O) al0)));have D:=SB.lift (S:=SB bV [A0,A1,A2]) (w0:=w0) (.inl (.inl O)) (alc aF (alc U (alc W al0)));have aR:=Us.trans aR D E.size;have E:=tstr E C D;clear D;clear C i;have i:=I;clear I;clear o;have o:=q;clear q;clear p;have p:=y;clear y;refine Zn fun a L=>Xd<|X20 L (X2y O) ?_;rw[a6];exact ⟨i0,i1,i2,i4,i5,E,aR,⟨i,eJ,o,p,eK.top,eL,eM,cE,cG⟩⟩
 have b3:=aZ;refine ZS L fun eN=>Ze (X0l O O)<|Za O<|Zt eN fun a L=>Xx L O ?_ ?_<;>intro b0
 ·have a6:=Xqi (x:=x) g1 g2 g3 g9 b3 b0;refine Q5 fun _ eO=>Xy none (fun _=>false) mixed ?_;intro iN M;have ⟨i,f,G,o,p,J⟩:=mv6 M i f G o p J;have E:=tsbel E M;refine Yb L<|YA 0 O O<|YB 1 O O<|Yo 2 O (fun _=>Vd O X31 5)<|Ye 3 O (X0 O X3g (i.at 5))<|Yo 4 O (fun _=>Vd O X0j 1)<|Ye 5 O (X0 O X8 (f.at 1))<|Yo 6 O (fun _=>Xm (k:=g.a.toNat) O O Xp X0p o a8 Z O2)<|Ye 7 O (X0 O X8 (X19 o Xj (Xg (d:=(0:Int)) O2) 0 O))<|YA 8 O O<|YB 9 O O<|Yo 10 O (fun _=>Vd O X3k 6)<|Ye 11 O (X0 O X39 (i.at 6))<|Yo 12 O (fun _=>Vd O X0j 1)<|Ye 13 O (X0 O X8 (f.at 1))<|Yo 14 O (fun _=>Xm (k:=g.a.toNat) O O X2x X3q p aA Z O2)<|Ye 15 O (X0 O X7a (X19 p X1s (Xg (d:=false) O2) 0 O))<|YD 16 O O<|YD 17 O O<|Yd fun a L=>eO _ _<|Q5 fun _ eP=>Xy none (fun j=>[15].contains j) mixed ?_;intro iO M;have ⟨i,f,G,o,p,J⟩:=mv6 M i f G o p J;have E:=tsbel E M;refine Yb L<|YA 0 O O<|YB 1 O O<|Yo 2 O (fun _=>Vd O X31 5)<|Ye 3 O (X0 O X3g (i.at 5))<|Yo 4 O (fun _=>Vd O X0j 1)<|Ye 5 O (X0 O X8 (f.at 1))<|YA 6 O O<|YB 7 O O<|Yo 8 O (fun _=>Vd O X31 5)<|Ye 9 O (X0 O X3g (i.at 5))<|Yo 10 O (fun _=>Vd O X1g 2)<|Ye 11 O (X0 O X8 (f.at 2))<|Yo 12 O (fun _=>Xm (k:=g.b.toNat) O O Xp X0p o a8 Z O2)<|Ye 13 O (X0 O X8 (X19 o Xj (Xg (d:=(0:Int)) O2) 0 O))<|Yo 14 O (fun _=>Xm (k:=g.a.toNat) O O Xp X0p o a8 Z O2)<|Y1 15<|Yh O tv0 O (X1a (enc:=encI) (l:=x.la) (vs:=[vi (x.la.getD g.b.toNat 0)]) (x0:=(x.la.getD g.a.toNat 0)) (u:=(x.la.getD g.b.toNat 0)) (k:=g.a.toNat) (j:=0) (n1:=1) O O X0p o Xj O O O O O5 (Xg (d:=(0:Int)) O2) O) ?_;intro _ iP ⟨N,Q⟩;have H:=o;have i:=i.appT H Q O;have f:=f.appT H Q O;have G:=G.appT H Q O;have p:=p.appT H Q O;have J:=J.appT H Q O;have E:=tsrow E Q U;clear H Q;clear o;have o:=N;clear N;refine Yd fun a L=>eP _ _<|Q5 fun _ eQ=>Xy none (fun j=>[15].contains j) mixed ?_;intro iQ M;have ⟨i,f,G,p,J,o⟩:=mv6 M i f G p J o;have E:=tsbel E M;refine Yb L<|YA 0 O O<|YB 1 O O<|Yo 2 O (fun _=>Vd O X3k 6)<|Ye 3 O (X0 O X39 (i.at 6))<|Yo 4 O (fun _=>Vd O X0j 1)<|Ye 5 O (X0 O X8 (f.at 1))<|YA 6 O O<|YB 7 O O<|Yo 8 O (fun _=>Vd O X3k 6)<|Ye 9 O (X0 O X39 (i.at 6))<|Yo 10 O (fun _=>Vd O X1g 2)<|Ye 11 O (X0 O X8 (f.at 2))<|Yo 12 O (fun _=>Xm (k:=g.b.toNat) O O X2x X3q p aA Z O2)<|Ye 13 O (X0 O X7a (X19 p X1s (Xg (d:=false) O2) 0 O))<|Yo 14 O (fun _=>Xm (k:=g.a.toNat) O O X2x X3q p aA Z O2)<|Y1 15<|Yh O tv0 O (X1a (enc:=encB) (l:=x.hd) (vs:=[.bool (x.hd.getD g.b.toNat false)]) (x0:=(x.hd.getD g.a.toNat false)) (u:=(x.hd.getD g.b.toNat false)) (k:=g.a.toNat) (j:=0) (n1:=1) O O X3q p X1s O O O O O5 (Xg (d:=false) O2) O) ?_;intro _ iR ⟨N,Q⟩;have H:=p;have i:=i.appT H Q O;have f:=f.appT H Q O;have G:=G.appT H Q O;have J:=J.appT H Q O;have o:=o.appT H Q O;have E:=tsrow E Q W;clear H Q;clear p;have p:=N;clear N;refine Yd fun a L=>eQ _ _<|Q5 fun _ eR=>Xy none (fun j=>[8].contains j) mixed ?_;intro iS M;have ⟨i,f,G,J,o,p⟩:=mv6 M i f G J o p;have E:=tsbel E M;refine Yb L<|YA 0 O O<|YB 1 O O<|Yo 2 O (fun _=>Vd O X31 5)<|Ye 3 O (X0 O X3g (i.at 5))<|Yo 4 O (fun _=>Vd O X1g 2)<|Ye 5 O (X0 O X8 (f.at 2))<|YA 6 O O<|Yo 7 O (fun _=>Xm (k:=g.b.toNat) O O Xp X0p o (a8.trans List.length_set.symm) Z O2)<|Y1 8<|Yh O tv0 O (X1a (enc:=encI) (l:=(x.la.set g.a.toNat (x.la.getD g.b.toNat 0))) (vs:=[vi (x.la.getD g.a.toNat 0)]) (x0:=((x.la.set g.a.toNat (x.la.getD g.b.toNat 0)).getD g.b.toNat 0)) (u:=(x.la.getD g.a.toNat 0)) (k:=g.b.toNat) (j:=0) (n1:=1) O O X0p o Xj O O O O O5 (Xg (d:=(0:Int)) O2) O) ?_;intro _ iT ⟨N,Q⟩;have H:=o;have i:=i.appT H Q O;have f:=f.appT H Q O;have G:=G.appT H Q O;have J:=J.appT H Q O;have p:=p.appT H Q O;have E:=tsrow E Q U
  clear H Q;clear o;have o:=N;clear N;refine Yd fun a L=>eR _ _<|Xy none (fun j=>[8].contains j) mixed ?_;intro iU M;have ⟨i,f,G,J,p,o⟩:=mv6 M i f G J p o;have E:=tsbel E M;refine Yb L<|YA 0 O O<|YB 1 O O<|Yo 2 O (fun _=>Vd O X3k 6)<|Ye 3 O (X0 O X39 (i.at 6))<|Yo 4 O (fun _=>Vd O X1g 2)<|Ye 5 O (X0 O X8 (f.at 2))<|YA 6 O O<|Yo 7 O (fun _=>Xm (k:=g.b.toNat) O O X2x X3q p (aA.trans List.length_set.symm) Z O2)<|Y1 8<|Yh O tv0 O (X1a (enc:=encB) (l:=(x.hd.set g.a.toNat (x.hd.getD g.b.toNat false))) (vs:=[.bool (x.hd.getD g.a.toNat false)]) (x0:=((x.hd.set g.a.toNat (x.hd.getD g.b.toNat false)).getD g.b.toNat false)) (u:=(x.hd.getD g.a.toNat false)) (k:=g.b.toNat) (j:=0) (n1:=1) O O X3q p X1s O O O O O5 (Xg (d:=false) O2) O) ?_;intro _ iV ⟨N,Q⟩;have H:=p;have i:=i.appT H Q O;have G:=G.appT H Q O;have J:=J.appT H Q O;have o:=o.appT H Q O;have E:=tsrow E Q W;clear H Q;clear p;have p:=N;clear N;refine Yd fun a L=>Xd<|X20 L (X2y O) ?_;rw[a6];exact ⟨A0,c0,BW,eW,m0,E,aF,⟨i,G,o,p,J.top,aD,aE,((a8.trans List.length_set.symm).trans List.length_set.symm),((aA.trans List.length_set.symm).trans List.length_set.symm)⟩⟩
 have cH:=b0;refine ZS L fun eS=>Ze (X0l O O)<|Za O<|Zt eS fun a L=>Xx L O ?_ ?_<;>intro b1
 ·have a6:=Xqj (x:=x) g1 g2 g3 g9 b3 cH b1;refine Zr L<|Zm O<|Ze (X05 O)<|Ze (Vd O X1b 0)<|Ze (Vd O X1o 3)<|Ze (X0 O X8 (i.at 3))<|Ze (X3b O O)<|Ze (X05 O)<|Ze (Vd O X1b 0)<|Ze (Vd O X1o 3)<|Zo (X1r (vs:=[vi (wr (x.d.t+1))]) (l':=[vi x.d.n,.slice A0 m0 c0,.slice BW x.d.ws.length eW,vi (wr (x.d.t+1)),vi x.d.r,.slice A1 n0 c1,.slice A2 n0 c2]) O O X0p i O O O O O) ?_;intro _ iW ⟨ho,hb⟩;have G:=G.oT ho i O;have o:=o.oT ho i O;have p:=p.oT ho i O;have J:=J.oT ho i O;have E:=tsonly E ho (.inl (.inl O));have i:=hb;refine Zn fun a L=>Xd<|X20 L (X2y O) ?_;rw[a6];exact ⟨A0,c0,BW,eW,m0,E,aF,⟨i,G,o,p,J.top,aD,aE,a8,aA⟩⟩
 have eT:=b1;have a6:=Y4r (x:=x) g1 g2 g3 g9 b3 cH eT;have eU:4<=g.k/\g.k<=8:=by simp only[beq_eq_false_iff_ne] at g1 g2 g3 g9 b3 cH eT;omega
 have eV:=Xso eU;refine Xy none (fun j=>[9].contains j) mixed ?_;intro iX M;have ⟨i,f,G,o,p,J⟩:=mv6 M i f G o p J;have E:=tsbel E M;refine Yb L<|YA 0 O O<|Yo 1 O (fun _=>Vd O X0j 1)<|Ye 2 O (X0 O X8 (f.at 1))<|Yo 4 O (fun _=>Vd O X1e 0)<|Ye 5 O (X0 O X8 (f.at 0))<|Yo 6 O (fun _=>X1j O O Z Z)<|Y1 3<|Yk O tv0 (Xe (k:=5) (vs:=[vi 4,vi 2,vi 6,vi 1,vi 7]) (zs:=[vi 4,vi 2,vi 6,vi 1,vi 7]) O Xp X21 O O) (fun _ _ ⟨_,_,_,h,_⟩=>h) ?_;rintro _ iY ⟨iZ,rfl,eX,M,bE⟩;have i6:=Q0 E.size eX;have ⟨i,f,G,o,p,J⟩:=mv6 M i f G o p J;have E:=tsbel E M;refine Yi (k:=(g.k-4).toNat) (u:=(rotC g.k)) (enc:=encI) (l:=[4,2,6,1,7]) 7 O tv0 O O Xp X0p Xj (Rd.of_blk bE O _ bE.lt) eV.1 Z ?_;intro j0 cI;refine Ye 8 O (X0 O X8 cI)<|Y1 9<|Yt O tv0 O (Vc (Xjv _ bV B0 A0 c0 A1 c1 A2 c2 BW eW m0 n0 x ⟨i,G,o,p,J.top,aD,aE,a8,aA⟩ (Q0 a7 E.size) g.a (rotC g.k) aB aC aT eV.2) Xb2) ?_;intro _ j1 ⟨i7,i8,i9,iA,iB,C,aS,I,eY,q,y,eZ,f0,f5,cJ,cK⟩;have f:=f.tu C i O (alc (nrow G f O) (alc (nrow o f O) (alc (nrow p f O) al0)));have D:=SB.lift (S:=SB bV [A0,A1,A2]) (w0:=w0) (.inl (.inl O)) (alc aF (alc U (alc W al0)));have aS:=Us.trans aS D E.size;have E:=tstr E C D;clear D;clear C i;have i:=I;clear I;clear o;have o:=q;clear q;clear p;have p:=y;clear y;refine Yd fun a L=>Xd<|X20 L (X2y O) ?_;rw[a6];exact ⟨i7,i8,i9,iA,iB,E,aS,⟨i,eY,o,p,eZ.top,f0,f5,cJ,cK⟩⟩
theorem Y7p(M:World)(c:Cx)(Ac:Option Addr)(cc:Nat)(cG:Rw M 45 encG Ac c.gs)(hc:cOk c=true):RE 53 [.agg #[vi c.n,.slice Ac c.gs.length cc]] M (fun v w=>∃ A c1 B e,v=.agg #[vi (ofD c).n,.slice A (ofD c).ns.length c1,.slice B (ofD c).ws.length e,vi (ofD c).t,vi (ofD c).r]/\Rw w 85 encNd A (ofD c).ns/\Rw w 99 encWr B (ofD c).ws/\(ofD c).ws.length<=e/\Bl M w):=by
 have ⟨n9,eZ,f0,f5⟩:=Xdd hc;have cH:c.n=((c.n.toNat:Nat) : Int):=by omega
 have f7:=Xaq hc;have cI:(List.replicate (c.n.toNat:Nat) false).length=(c.n.toNat:Nat):=List.length_replicate;have cJ:(c.n.toNat:Nat)<=maxLen:=by simp only[maxLen];omega
 refine enter func53 O 79 O O ?_;intro a q;have p:=bz M;refine ZS q fun eB=>Zf (X0n (zs:=[vi c.n,.slice Ac c.gs.length cc]) O O) ?_;rintro _ w1 ⟨b3,rfl,eC,E,o⟩;have eX:=Q0 p.size eC;have p:=btr p E;refine Zf (X0b (zs:=Zc5) X1c O) ?_;rintro _ w2 ⟨b6,rfl,eD,E,i⟩;have cK:=Q0 p.size eD;have o:=o.bw E;have p:=btr p E;refine ZX eB fun a q _ eE=>Xy none (fun _=>false) mixed ?_;intro w3 E;have ⟨o,i,p⟩:=mv3 E o i p;refine Yb q<|Yo 0 O (fun _=>Vd O X1z 0)<|Ye 1 O (X0 O X8 (o.at 0))<|Yo 2 O (fun _=>X0k (ps:=[(0,vi c.n)]) (cs:=[vi c.n,.slice none 0 0,.slice none 0 0,vi 0,vi 0]) O (fun _=>by first|rfl|kernel_rfl))<|Yo 3 O (fun _=>Vd O X1z 0)<|Ye 4 O (Vx (X0 O X8 (o.at 0)) cH)<|Y1 5<|Yk O tv0 (X8n (m:=(c.n.toNat:Nat)) (enc:=encB) (z0:=false) O O X2x Y14 z_4 O X1s Z Z) (fun _ _ ⟨_,_,_,h,_⟩=>h) ?_;rintro _ w4 ⟨bF,rfl,cL,E,aV⟩;have bN:=Q0 p.size cL;have ⟨o,i,p⟩:=mv3 E o i p;refine Yo 6 O (fun _=>X0k (ps:=[(0,.agg #[vi c.n,.slice none 0 0,.slice none 0 0,vi 0,vi 0]),(2,.slice (some ⟨bF,0,none⟩) (c.n.toNat:Nat) (c.n.toNat:Nat))]) (cs:=[vi c.n,.slice none 0 0,.slice none 0 0,vi 0,vi 0,.slice none 0 0,.slice (some ⟨bF,0,none⟩) (c.n.toNat:Nat) (c.n.toNat:Nat)]) O (fun _=>by first|rfl|kernel_rfl))<|Y1 7<|Yk O tv0 (X0n (zs:=[vi c.n,.slice none 0 0,.slice none 0 0,vi 0,vi 0,.slice none 0 0,.slice (some ⟨bF,0,none⟩) (c.n.toNat:Nat) (c.n.toNat:Nat)]) O O) (fun _ _ ⟨_,_,_,h,_⟩=>h) ?_;rintro _ w5 ⟨aF,rfl,cM,E,g⟩;have Q:=Q0 p.size cM;have ⟨o,i,aV,p⟩:=mv4 E o i aV p;refine YD 8 O O<|Yd fun a q=>eE _ _<|Q5 fun _ cN=>ZS q fun cO=>Za O<|Zt cO fun a q=>Q8<|X04 (σ:=Nat×(List Nd)×(List Int)) (fun (s:Nat×(List Nd)×(List Int)) (a:Act) (w:World)=>match s with|(k,u,v)=>∃ bG bH aW aX aI aJ,Fr a 79 [(1,(pZ9 b3)),(2,(pZ9 b6)),(3,(pZ9 aF)),(4,vi (k:Int))]/\(k<=c.n.toNat)/\(u=inN k)/\(v=ranI k)/\Blk w b3 26 [vi c.n,.slice Ac c.gs.length cc]/\Blk w b6 54 Zc5/\Blk w aF 126 [vi c.n,.slice bG u.length bH,.slice none 0 0,vi 0,vi 0,.slice aW v.length aX,.slice aI (c.n.toNat:Nat) aJ]/\Own w M.heap.size 85 2 encNd bG bH u/\Own w M.heap.size 3 1 encI aW aX v/\Own w M.heap.size 4 1 encB aI aJ (List.replicate (c.n.toNat:Nat) false)/\Bl M w) (fun (s:Nat×(List Nd)×(List Int))=>match s with|(k,u,v)=>c.n.toNat-k) (0,[],[]) ?_ ?_
 ·exact ⟨none,0,none,0,some ⟨bF,0,none⟩,(c.n.toNat:Nat),q.sb,(Qf _),O,O,o,i,g,(Own.nil _ _ _ _ _),(Own.nil _ _ _ _ _),(Own.of_flat X1s aV bN cI cJ),p⟩
 intro ⟨k,u,v⟩ a w6 ⟨bG,bH,aW,aX,aI,aJ,q,hk,hu,hv,o,i,g,a7,G,D,p⟩;have cP:=X5e k;have cQ:=X74 k;rw[<- hu] at cP;rw[<- hv] at cQ;refine Q5 fun _ cR=>ZS q fun cS=>Zm O<|Ze (Vd O X1z 0)<|Ze (X0 O X8 (o.at 0))<|Ze (X16 O O)<|Zt cS fun a q=>X0y q O (fun bO aY=>?_) (fun bO aY=>?_)
 ·have bI:k<c.n.toNat:=by have:=aY;omega
  refine Q7<|cR _ _<|Q5 fun _ cT=>Q8<|ZS q fun cU=>Zm O<|Zm O<|Ze (X05 O)<|Ze (Vd O X1b 0)<|Ze (Vd O Xn 1)<|Ze (X0 O X0f (g.at 1))<|Zm O<|Ze (X0k (ps:=[(0,vi 1),(1,vi (k:Int))]) (cs:=[vi 1,vi (k:Int)]) O (fun _=>by first|rfl|kernel_rfl))<|Zf (Xe (k:=1) (vs:=[.agg #[vi 1,vi (k:Int)]]) (zs:=[vi 1,vi (k:Int)]) O X00 X2n O O) ?_;rintro _ w7 ⟨f8,rfl,bL,E,aZ⟩;have eF:=Q0 p.size bL;have ⟨o,i,g,a7,G,D,p⟩:=mv7 E o i g a7 G D p;refine Zf (X0r (enc:=encNd) (l:=(u)) (l2:=([(⟨1,(k:Int)⟩ : Nd)])) (B0:=M.heap.size) O O X00 X2n X03 X3s a7 (Rd.of_blk aZ O _ aZ.lt) (by simp only[maxLen];simp;omega) O6 p.size) ?_;rintro _ w8 ⟨bJ,bK,rfl,J,hg,b0⟩;have C:Own _ M.heap.size 85 2 encNd _ _ (u):=a7;clear b0;have o:=o.appT C hg O;have i:=i.appT C hg O;have g:=g.appT C hg O;have G:=G.appT C hg O;have D:=D.appT C hg O;have p:=Below.app p C hg (Qb _) p.size;clear C hg;refine Ze (X05 O)<|Ze (Vd O X1b 0)<|Ze (Vd O Xn 1)<|Zo (Vu (vs:=[.slice bJ (u++([(⟨1,(k:Int)⟩ : Nd)])).length bK]) (l':=[vi c.n,.slice bJ (u++([(⟨1,(k:Int)⟩ : Nd)])).length bK,.slice none 0 0,vi 0,vi 0,.slice aW v.length aX,.slice aI (c.n.toNat:Nat) aJ]) O O X5j g) ?_;intro _ w9 ⟨ho,hb⟩;have o:=o.oz ho g O;have i:=i.oz ho g O;have G:=G.oT ho g O;have D:=D.oT ho g O;have J:=J.oT ho g O;have p:=Below.oy p ho Q;have g:=hb;refine Zt cU fun a q=>Zr q<|Zm O<|Zm O<|Ze (X05 O)<|Ze (Vd O X31 5)<|Ze (X0 O X3g (g.at 5))<|Zm O<|Zf (Xe (k:=1) (vs:=[vi (k:Int)]) (zs:=[vi (k:Int)]) O Xp X21 O O) ?_;rintro _ f9 ⟨fA,rfl,bM,E,b1⟩;have eG:=Q0 p.size bM;have ⟨o,i,g,G,D,J,p⟩:=mv7 E o i g G D J p;refine Zf (X0r (enc:=encI) (l:=(v)) (l2:=([(k:Int)])) (B0:=M.heap.size) O O Xp X21 Xj X37 G (Rd.of_blk b1 O _ b1.lt) (by simp only[maxLen];simp;omega) O6 p.size) ?_;rintro _ fB ⟨bP,bQ,rfl,b2,hg,b0⟩;have C:Own _ M.heap.size 3 1 encI _ _ (v):=G;clear b0;have o:=o.appT C hg O;have i:=i.appT C hg O;have g:=g.appT C hg O;have D:=D.appT C hg O;have J:=J.appT C hg O;have p:=Below.app p C hg (Qb _) p.size;clear C hg;refine Ze (X05 O)<|Ze (Vd O X31 5)<|Zo (Vu (vs:=[.slice bP (v++([(k:Int)])).length bQ]) (l':=[vi c.n,.slice bJ (u++([(⟨1,(k:Int)⟩ : Nd)])).length bK,.slice none 0 0,vi 0,vi 0,.slice bP (v++([(k:Int)])).length bQ,.slice aI (c.n.toNat:Nat) aJ]) O O Xms g) ?_;intro _ fC ⟨ho,hb⟩;have o:=o.oz ho g O;have i:=i.oz ho g O;have D:=D.oT ho g O;have J:=J.oT ho g O;have b2:=b2.oT ho g O;have p:=Below.oy p ho Q;have g:=hb;exact Zn fun a q=>Xd<|cT _ _<|Zr q<|Zm O<|Ze (Xr O O Z Z)<|Za O<|Zn fun a q=>Xh<|⟨(k+1,u++([(⟨1,(k:Int)⟩ : Nd)]),v++([(k:Int)])),⟨bJ,bK,bP,bQ,aI,aJ,q.sb,Z,(by rw[Y13,<- hu]),(by rw[Xsn,<- hv]),o,i,g,J,b2,D,p⟩,O1⟩
 have bI:k=c.n.toNat:=by have:=aY;omega
 have cV:v.length=c.n.toNat:=by rw[hv,bI];exact X74 _
 have cW:(⟨⟨c.n,u,[],0,0⟩,v,List.replicate c.n.toNat false⟩ : Br)=ofB0 c:=by rw[hu,hv,bI];rfl
 have fE:u.length=c.n.toNat:=by rw[hu,bI];exact X5e _
 refine Q9<|Xk<|Xk<|X06<|cN _ _<|Q5 fun _ cX=>ZS q fun cY=>Ze (Vd O X18 1)<|Ze (X0 O X2o (o.at 1))<|Ze (X0w O X0u)<|Zm O<|Zt cY fun a q=>Q8 ?_;rw[cV] at g;refine X04 (σ:=Nat×Br×Nat) (fun (s:Nat×Br×Nat) (a:Act) (w:World)=>match s with|(k,x,mz)=>∃ b4 b5 b7 b8 aN aO aP aQ,Fr a 79 [(1,(pZ9 b3)),(2,(pZ9 b6)),(3,(pZ9 aF)),(46,.slice Ac c.gs.length cc),(47,vi (c.gs.length:Int)),(48,vi (k:Int))]/\(k<=c.gs.length)/\(x=(c.gs.take k).foldl gtB (ofB0 c))/\(BrOk c.n.toNat x)/\(c.n.toNat=x.la.length)/\(c.n.toNat=x.hd.length)/\(mz=x.d.ns.length)/\(x.d.ns.length<=5+3*k/\x.d.ws.length<=3*k)/\Blk w b3 26 [vi c.n,.slice Ac c.gs.length cc]/\Blk w b6 54 Zc5/\Blk w aF 126 [vi x.d.n,.slice b4 mz b5,.slice b7 x.d.ws.length b8,vi x.d.t,vi x.d.r,.slice aN c.n.toNat aO,.slice aP c.n.toNat aQ]/\Own w M.heap.size 85 2 encNd b4 b5 x.d.ns/\Rw w 99 encWr b7 x.d.ws/\Own w M.heap.size 3 1 encI aN aO x.la/\Own w M.heap.size 4 1 encB aP aQ x.hd/\x.d.ws.length<=b8/\Bl M w) (fun (s:Nat×Br×Nat)=>match s with|(k,x,mz)=>c.gs.length-k) (0,⟨⟨c.n,u,[],0,0⟩,v,List.replicate c.n.toNat false⟩,u.length) ?_ ?_
 ·exact ⟨bG,bH,none,0,aW,aX,aI,aJ,q.sb,(Qf _),cW,(cW▸X9h ⟨by omega,by omega⟩),cV.symm,cI.symm,O,⟨by show u.length<=_;omega,Qb _⟩,o,i,g,a7,(Rd.nil _ _ _ _ _),G,D,(Qf _),p⟩
 intro ⟨k,x,mz⟩ a fF ⟨b4,b5,b7,b8,aN,aO,aP,aQ,q,hk,hx,b9,d5,d6,d7,eH,o,i,g,N,aK,H,I,d8,p⟩;refine ZS q fun d9=>Ze (X16 O O)<|ZX d9 fun a q _ dA=>X0y q O (fun bR bC=>?_) (fun bR bC=>?_)
 ·have ⟨fG,eY⟩:=Xa (l:=c.gs) (k:=k) Z;have ⟨u9,bS⟩:=Xa (l:=c.gs) (k:=k) (by have:=bC;omega);have dB:gOk (c.n.toNat:Int) u9=true:=Xk6 hc cH bS;have dC:=X3c (f:=gtB) (b:=ofB0 c) bS;rw[<- hx] at dC;refine Q7<|dA _ _<|Q5 fun _ dD=>Q8<|ZS q fun dE=>Zi (k:=k) (u:=u9) (enc:=encG) (l:=c.gs) tv0 O O X0u X1n X0q (cG.bx p) bS O ?_;intro fH bU;refine Ze (X07 (l:=[vi u9.k,vi u9.a,vi u9.b]) O X12 bU O)<|ZB [vi u9.k,vi u9.a,vi u9.b] X5l X1n fun fI fJ dF E a8=>?_;have eI:=Q0 p.size dF;have ⟨o,i,g,N,aK,H,I,p⟩:=mv8 E o i g N aK H I p;refine Zt dE fun a q=>Zr q<|Zm O<|Ze (Vn X12 a8)<|Zf (Vc (Y83 _ aF M.heap.size b4 b5 aN aO aP aQ b7 b8 mz c.n.toNat x ⟨g,N,H,I,aK.top,d8,d7,d5,d6⟩ p.size u9 b9 Z dB) Xwv) ?_;intro _ fK ⟨eJ,eK,eL,eM,eN,a6,bW,bD,dG,aG,aH,dH,dI,dJ,bX,bY⟩;have o:=o.tu a6 g O (alc (nrow N o O) (alc (nrow H o O) (alc (nrow I o O) al0)));have i:=i.tu a6 g O (alc (nrow N i O) (alc (nrow H i O) (alc (nrow I i O) al0)));have a8:=a8.tu a6 g O (alc (nrow N a8 O) (alc (nrow H a8 O) (alc (nrow I a8 O) al0)));have p:=Below.ts p a6 (SB.ge Q (alc (fun _ h9=>X2w N h9) (alc (fun _ h9=>X2w H h9) (alc (fun _ h9=>X2w I h9) al0)))) p.size;clear bW;clear a6 g;have g:=bD;clear bD;clear H;have H:=aG;clear aG;clear I;have I:=aH;clear aH;exact Zn fun a q=>Xd<|dD _ _<|Zr q<|Ze (Xr O O Z Z)<|Zm O<|Zn fun a q=>Xh<|⟨(k+1,(gtB x u9),eN),⟨eJ,eK,eL,eM,aN,aO,aP,aQ,q.sb,Z,(by rw[dC]),(Xgz b9 dB),bX,bY,dJ,(by have:=Xim x u9;omega),o,i,g,dG,dH.top,H,I,dI,p⟩,O1⟩
 have eO:x=ofB1 c:=by rw[hx,Qi (by have:=bC;omega)];rfl
 refine Q9<|Xk<|Xk<|X06<|cX _ _<|Q5 fun _ dK=>ZS q fun dL=>Za O<|Zt dL fun a q=>Q8<|X04 (σ:=Nat×Br×Nat) (fun (s:Nat×Br×Nat) (a:Act) (w:World)=>match s with|(j,y,my)=>∃ aB aC aD aE aR aS aT aU,Fr a 79 [(1,(pZ9 b3)),(2,(pZ9 b6)),(3,(pZ9 aF)),(7,vi (j:Int))]/\(j<=c.n.toNat)/\(y=ofK c j)/\(BrOk c.n.toNat y)/\(c.n.toNat=y.la.length)/\(c.n.toNat=y.hd.length)/\(my=y.d.ns.length)/\(y.d.ns.length<=5+3*400+j/\y.d.ws.length<=3*400+j)/\Blk w b3 26 [vi c.n,.slice Ac c.gs.length cc]/\Blk w b6 54 Zc5/\Blk w aF 126 [vi y.d.n,.slice aB my aC,.slice aD y.d.ws.length aE,vi y.d.t,vi y.d.r,.slice aR c.n.toNat aS,.slice aT c.n.toNat aU]/\Own w M.heap.size 85 2 encNd aB aC y.d.ns/\Rw w 99 encWr aD y.d.ws/\Own w M.heap.size 3 1 encI aR aS y.la/\Own w M.heap.size 4 1 encB aT aU y.hd/\y.d.ws.length<=aE/\Bl M w) (fun (s:Nat×Br×Nat)=>match s with|(j,y,my)=>c.n.toNat-j) (0,x,mz) ?_ ?_
 ·exact ⟨b4,b5,b7,b8,aN,aO,aP,aQ,q.sb,(Qf _),eO,b9,d5,d6,d7,Z,o,i,g,N,aK.top,H,I,d8,p⟩
 intro ⟨j,y,my⟩ a fL ⟨aB,aC,aD,aE,aR,aS,aT,aU,q,hj,hy,b9,eP,eQ,dM,eH,o,i,g,L,aA,U,W,dN,p⟩;refine Q5 fun _ dO=>ZS q fun dP=>Zm O<|Ze (Vd O X1z 0)<|Ze (X0 O X8 (o.at 0))<|Ze (X16 O O)<|Zt dP fun a q=>X0y q O (fun bZ bE=>?_) (fun bZ bE=>?_)
 ·have dQ:j<c.n.toNat:=by have:=bE;omega
  refine Q7<|dO _ _<|Q5 fun _ dR=>Q8<|Zr q<|Zm O<|Zm O<|Zm O<|Zf (Vc (Xzq _ aF M.heap.size aB aC aR aS aT aU aD aE my c.n.toNat y ⟨g,L,U,W,aA.top,dN,dM,eP,eQ⟩ p.size 2 (j:Int) (j:Int) ⟨by omega,by omega⟩ Z) Xky) ?_;intro _ fM ⟨eR,eS,eT,eU,eV,a6,cA,bD,dS,aG,aH,dT,dU,dW,cB,cC⟩;have o:=o.tu a6 g O (alc (nrow L o O) (alc (nrow U o O) (alc (nrow W o O) al0)));have i:=i.tu a6 g O (alc (nrow L i O) (alc (nrow U i O) (alc (nrow W i O) al0)));have p:=Below.ts p a6 (SB.ge Q (alc (fun _ h9=>X2w L h9) (alc (fun _ h9=>X2w U h9) (alc (fun _ h9=>X2w W h9) al0)))) p.size;clear cA;clear a6 g;have g:=bD;clear bD;clear U;have U:=aG;clear aG;clear W;have W:=aH;clear aH;exact Zn fun a q=>Xd<|dR _ _<|Zr q<|Zm O<|Ze (Xr O O Z Z)<|Za O<|Zn fun a q=>Xh<|⟨(j+1,(nodB y 2 (j:Int) (j:Int)),eV),⟨eR,eS,eT,eU,aR,aS,aT,aU,q.sb,Z,(by rw[Xdw,<- hy]),(Xcd b9 ⟨by omega,by omega⟩),cB,cC,dW,(by have:=X82 y 2 (j:Int) (j:Int);omega),o,i,g,dS,dT.top,U,W,dU,p⟩,O1⟩
 have dQ:j=c.n.toNat:=by have:=bE;omega
 have dX:outD y.d=ofD c:=by rw[hy,dQ];rfl
 refine Q9<|Xk<|Xk<|X06<|dK _ _<|ZS q fun dY=>Zm O<|Ze (X05 O)<|Ze (Vd O X1b 0)<|Ze (Vd O X1o 3)<|Ze (X0 O X8 (g.at 3))<|Ze (X46 O O O)<|Ze (X05 O)<|Ze (Vd O X1b 0)<|Ze (Vd O X1o 3)<|Zo (Vu (vs:=[vi (y.d.t.tmod 8)]) (l':=[vi y.d.n,.slice aB my aC,.slice aD y.d.ws.length aE,vi (y.d.t.tmod 8),vi y.d.r,.slice aR c.n.toNat aS,.slice aT c.n.toNat aU]) O O X0p g) ?_;intro _ fN ⟨ho,hb⟩;have i:=i.oz ho g O;have L:=L.oT ho g O;have aA:=aA.oT ho g O;have p:=Below.oy p ho Q;have g:=hb;refine Zx dY fun a q _ eA=>Zm O<|Ze (X05 O)<|Ze (Vd O X1b 0)<|Ze (X07 (l:=[vi y.d.n,.slice aB my aC,.slice aD y.d.ws.length aE,vi (y.d.t.tmod 8),vi y.d.r]) O X2 ((g.at 0).take 5) O)<|Zo (Vw [vi y.d.n,.slice aB my aC,.slice aD y.d.ws.length aE,vi (y.d.t.tmod 8),vi y.d.r] Xv i) ?_;intro _ fO ⟨ho,hb⟩;have L:=L.oT ho i O;have aA:=aA.oT ho i O;have p:=Below.oy p ho cK;have i:=hb;refine Zt eA fun a q=>Q6 (X6 q (Xq q O (ResV.cellN (l:=[vi y.d.n,.slice aB my aC,.slice aD y.d.ws.length aE,vi (y.d.t.tmod 8),vi y.d.r]) O X2 (i.at 0) O)) ?_);rw[<- dX];subst dM;exact ⟨aB,aC,aD,aE,O,L.rd.top,aA.top,dN,p⟩
def Xyo{N M:Nat}{ws:List Wr}(h:RgW N ws)(hN:N<=M):RgW M ws:=fun x hx=>by have:=h x hx;omega
def BrG(x:Br) : Prop:=RgW x.d.ns.length x.d.ws
def Xrq{n:Nat}{x:Br}(h:BrOk n x)(hg:BrG x){k p q:Int}(hq:0<=q/\q.toNat<n):BrG (nodB x k p q):=by
 have h1:=h.at hq;have hl:=(X82 x k p q).1;unfold BrG;rw[hl];exact Xe2 (Xyo hg Z) Z Z
def Xs6{n:Nat}{x:Br}(h:BrOk n x)(hg:BrG x){q:Int}(hq:0<=q/\q.toNat<n):BrG (plcB x q):=by
 unfold plcB;split
 ·exact Xrq h hg hq
 ·exact hg
def Xht{n:Nat}{x:Br}(h:BrOk n x)(hg:BrG x){q:Int}(hq:0<=q/\q.toNat<n)(m:Int):BrG (trnB x q m):=by
 have h1:=Xs6 h hg hq;show RgW (adN _ _ _).length (plcB x q).d.ws;rw[X2v];exact h1
def Y2p{n:Nat}{x:Br}(h:BrOk n x)(hg:BrG x){p q:Int}(hp:0<=p/\p.toNat<n)(hq:0<=q/\q.toNat<n):BrG (czB x p q):=by
 have k1:=X47 h p;have k2:=X47 k1 q;have h1:=Xs6 k1 (Xs6 h hg hp) hq;have a1:=k1.at hp;have a2:=k2.at hq;have l2:=X4g (plcB x p) q;unfold czB;dsimp only;split
 ·exact Xm6 h1 _
 ·exact Xe2 (N:=(plcB (plcB x p) q).d.ns.length) h1 ⟨a1.1,by omega⟩ ⟨a2.1,by omega⟩
def Ydt{n:Nat}{x:Br}(h:BrOk n x)(hx:BrG x){g:Gt}(hg:gOk (n:Int) g=true):BrG (gtB x g):=by
 have ha:=X6x hg;have hb:=X6y hg;unfold gtB;split
 ·exact hx
 split
 ·exact Xht (X2f h _) hx ha _
 split
 ·exact Xht (X2f (X5b h _ _) _) (Xht h hx ha _) ha _
 split
 ·exact Y2p (X2f h _) hx ha hb
 split
 ·exact Y2p h hx ha hb
 split
 ·exact hx
 split
 ·exact hx
 ·exact Xht h hx ha _
def Xq7{n:Nat}:∀ (l:List Gt) (x:Br),BrOk n x->BrG x->(∀ g ∈ l,gOk (n:Int) g=true)->BrOk n (l.foldl gtB x)/\BrG (l.foldl gtB x)/\(l.foldl gtB x).d.ns.length<=x.d.ns.length+3*l.length/\(l.foldl gtB x).d.ws.length<=x.d.ws.length+3*l.length
 | [],x,h,hg,_=>⟨h,hg,by simp,by simp⟩
 | g::l,x,h,hg,hl=>by
  have h0:=hl g O4;have h1:=Xq7 l (gtB x g) (Xgz h h0) (Ydt h hg h0) fun z hz=>hl z (by simp[hz]);have h2:=Xim x g;rw[List.foldl_cons,Qs];exact ⟨h1.1,h1.2.1,by omega,by omega⟩
def Y1n{c:Cx}(hc:cOk c=true):∀ j,j<=c.n.toNat->BrOk c.n.toNat (ofK c j)/\BrG (ofK c j)/\(ofK c j).d.ns.length<=c.n.toNat+3*c.gs.length+j/\(ofK c j).d.ws.length<=3*c.gs.length+j
 | 0,_=>by
  have ⟨n9,hn9,hn1,hn5⟩:=Xdd hc;have hcn:c.n=((c.n.toNat:Nat) : Int):=by omega
  have h:=Xq7 c.gs (ofB0 c) (X9h ⟨by omega,by omega⟩) (fun x hx=>by cases hx) (fun g hg=>by
   have ⟨i,hi⟩:=List.mem_iff_getElem?.1 hg;exact Xk6 hc hcn hi)
  have e1:(ofB0 c).d.ns.length=c.n.toNat:=X5e _;have e2:(ofB0 c).d.ws.length=0:=rfl;refine ⟨h.1,h.2.1,?_,?_⟩
  ·show (ofB1 c).d.ns.length<=_;have:=h.2.2.1;unfold ofB1;omega
  ·show (ofB1 c).d.ws.length<=_;have:=h.2.2.2;unfold ofB1;omega
 | j+1,hj=>by
  have ⟨n9,hn9,hn1,hn5⟩:=Xdd hc;have ⟨h1,h2,h3,h4⟩:=Y1n hc j Z;have h5:=X82 (ofK c j) 2 (j:Int) (j:Int);rw[Xdw];exact ⟨Xcd h1 ⟨by omega,by omega⟩,Xrq h1 h2 ⟨by omega,by omega⟩,by omega,by omega⟩
def Y1o{c:Cx}(hc:cOk c=true):RgW (ofD c).ns.length (ofD c).ws/\(ofD c).ns.length<=2000/\(ofD c).ws.length<=2000:=by
 have ⟨n9,hn9,hn1,hn5⟩:=Xdd hc;have hl:=Xaq hc;have ⟨_,h2,h3,h4⟩:=Y1n hc c.n.toNat (Qb _);refine ⟨h2,?_,?_⟩
 ·show (ofK c c.n.toNat).d.ns.length<=_;omega
 ·show (ofK c c.n.toNat).d.ws.length<=_;omega
def Yax{c:Cx}(hc:cOk c=true):∀ x ∈ (ofD c).ws,-1000000<=x.b/\x.b<=1000000:=fun x hx=>by
 have h:=Y1o hc;have:=h.1 x hx;omega
def dgC(c:Cx) : Bool:=cOk c&&goodD (ofD c)
def Y0l{c:Cx}(h:cOk c=false):dgC c=false:=by unfold dgC;rw[h];rfl
def Y9l{c:Cx}(h:goodD (ofD c)=false):dgC c=false:=by unfold dgC;rw[h,Bool.and_false]
def Ydj{c:Cx}(h:cOk c=true)(h2:goodD (ofD c)=true):dgC c=true:=by unfold dgC;rw[h,h2];rfl
def X2d{c:Cx}(h:dgC c=true):goodD (ofD c)=true:=by grind [dgC,goodD,ofD]
def Xp7{c:Cx}(h:dgC c=true):cOk c=true:=by grind [cOk,dgC]
def oddP(d:Dg)(s k:Int) : Int:=s+(d.ns.getD k.toNat nZ).p % 2
def oddD(d:Dg) : Int:=(spL d.ns).foldl (oddP d) 0
def Xiv{d:Dg}:∀ (l:List Int) (s:Int),s<=l.foldl (oddP d) s/\l.foldl (oddP d) s<=s+l.length
 | [],s=>by simp
 | k::l,s=>by
  have h:=Xiv (d:=d) l (oddP d s k);rw[List.foldl_cons,Qs];have:oddP d s k=s+(d.ns.getD k.toNat nZ).p % 2:=rfl;omega
def Xt9{ns:List Nd}{j:Nat}{u:Int}(h:(spL ns)[j]? = some u):0<=u/\u.toNat<ns.length:=by
 have hm:=Qe h;unfold spL spK at hm;obtain ⟨i,hi,rfl⟩:=W6.1 hm;have:=W2.1 (List.mem_filter.1 hi).1;omega
def alR5:List Int:=[1,2,3,4,5]
def vfC(a b:Cx) : Option Cx:=(invO b).bind (conO a)
def vfO(a b:Cx) : Bool:=(vfC a b).isSome&&dgC ((vfC a b).getD cZ)
def vfV(a b:Cx) : Bool:=vfO a b&&plD (siD (ofD ((vfC a b).getD cZ)) alR5)
theorem Yca{a b:Cx}(h:(!((invO b).isSome)||!((conO a ((invO b).getD cZ)).isSome)||!(dgC ((conO a ((invO b).getD cZ)).getD cZ)))=true):vfO a b=false:=by
 unfold vfO vfC
 cases hb:invO b with
 | none=>rfl
 | some x=>
  rw[hb] at h
  simp only[Option.isSome_some,Bool.not_true,Bool.false_or,Qq,Qz] at h ⊢
  cases hc:conO a x with
  | none=>rfl
  | some y=>
   rw[hc] at h
   simpa using h
theorem Y6n{a b:Cx}(h:(!((invO b).isSome)||!((conO a ((invO b).getD cZ)).isSome)||!(dgC ((conO a ((invO b).getD cZ)).getD cZ)))=false):vfO a b=true/\vfC a b=conO a ((invO b).getD cZ)/\dgC ((conO a ((invO b).getD cZ)).getD cZ)=true:=by
 unfold vfO vfC
 cases hb:invO b with
 | none=>rw[hb] at h;simp at h
 | some x=>
  rw[hb] at h
  simp only[Option.isSome_some,Bool.not_true,Bool.false_or,Qq,Qz] at h ⊢
  cases hc:conO a x with
  | none=>rw[hc] at h;simp at h
  | some y=>
   rw[hc] at h
   simp only[Option.isSome_some,Bool.not_true,Bool.false_or,Qq,Bool.not_eq_false',Qw] at h ⊢
   exact ⟨h,trivial,h⟩
abbrev Zb3(c:Cx) : Dg:=if (dgC c)=true then ofD c else zD
theorem Xze(w0:World)(c:Cx)(Ac:Option Addr)(cc:Nat)(C:Rw w0 45 encG Ac c.gs):RE 25 [.agg #[vi c.n,.slice Ac c.gs.length cc]] w0 (fun v w=>∃ A c1 B e,v=.tuple #[.agg #[vi (if (dgC c)=true then ofD c else zD).n,.slice A (if (dgC c)=true then ofD c else zD).ns.length c1,.slice B (if (dgC c)=true then ofD c else zD).ws.length e,vi (if (dgC c)=true then ofD c else zD).t,vi (if (dgC c)=true then ofD c else zD).r],.bool (dgC c)]/\Rw w 85 encNd A (if (dgC c)=true then ofD c else zD).ns/\Rw w 99 encWr B (if (dgC c)=true then ofD c else zD).ws/\(if (dgC c)=true then ofD c else zD).ws.length<=e/\Bl w0 w):=by
 refine enter func25 O 16 O O ?_;intro a i;have d:=bz w0;refine ZS i fun aG=>Zf (X0n (zs:=[vi c.n,.slice Ac c.gs.length cc]) O O) ?_;rintro _ w1 ⟨b3,rfl,aH,j,o⟩;have aN:=Q0 d.size aH;have d:=btr d j;refine Zf (X0b (zs:=Zc5) X1c O) ?_;rintro _ w2 ⟨b6,rfl,aI,j,b⟩;have p:=Q0 d.size aI;have o:=o.bw j;have d:=btr d j;refine Za O<|ZX aG fun a i _ aJ=>ZS i fun aK=>Ze (Vn X0t o)<|Zf (Vc (F53 _ c Ac cc (C.bx d).top) Xgq) ?_;rintro _ w3 ⟨rfl,j⟩;have ⟨o,b,d⟩:=mv3 j o b d;refine Ze (X1i O)<|Zt aK fun a i=>Xx i O ?_ ?_<;>intro k
 ·have a6:dgC c=false:=Y0l (by have h8:=k;simpa using h8);refine ZS i fun a7=>Ze (X0k (ps:=[]) (cs:=Zc5) O (fun _=>by first|rfl|kernel_rfl))<|Zo (Vw Zc5 Xv b) ?_;intro _ w4 ⟨ho,hb⟩;have d:=Below.oy d ho p;have b:=hb;refine Za O<|Zt a7 fun a i=>Q6<|X9<|X6 i (X1q i O (ResV.cellN (l:=Zc5) O X2 (b.at 0) O) O) ?_;rw[a6,Q3 Bool.false_ne_true];exact ⟨none,0,none,0,O,(Rd.nil _ _ _ _ _),(Rd.nil _ _ _ _ _),(Qf _),d⟩
 have aO:=k;have k:cOk c=true:=by have h8:=k;simpa using h8
 refine Q7<|aJ _ _<|ZS i fun a8=>Ze (Vn X0t o)<|Zf (Vc (Y7p _ c Ac cc (C.bx d).top k) Xwh) ?_;rintro _ w5 ⟨q,u,x,y,rfl,f,g,D,j⟩;have b:=b.bw j;have d:=btr d j;refine ZB [vi ((ofD c).n),.slice q ((ofD c).ns).length u,.slice x ((ofD c).ws).length y,vi ((ofD c).t),vi ((ofD c).r)] X1c Xv fun b18 w7 aA j m=>?_;have aB:b6≠b18:=by have:=b.lt;omega
 have aL:=Q0 d.size aA;have ⟨b,f,g,d⟩:=mv4 j b f g d;refine ZX a8 fun a i _ aC=>ZS i fun aD=>Ze (Vn X2 m)<|Zf (Vc (Xzg _ (ofD c) (((ofD c).ns).length) O q u f.top x y g.top D (by have:=Y1o k;omega) (Yax k)) Xko) ?_;rintro _ w8 ⟨rfl,j⟩;have ⟨b,m,f,g,d⟩:=mv5 j b m f g d;refine Ze (X1i O)<|Zt aD fun a i=>Xx i O ?_ ?_<;>intro h
 ·have a6:dgC c=false:=Y9l (by have h8:=h;simpa using h8);refine ZS i fun aE=>Ze (X0k (ps:=[]) (cs:=Zc5) O (fun _=>by first|rfl|kernel_rfl))<|Zo (Vw Zc5 Xv b) ?_;intro _ w9 ⟨ho,hb⟩;have d:=Below.oy d ho p;have b:=hb;refine Za O<|Zt aE fun a i=>Q6<|X9<|X6 i (X1q i O (ResV.cellN (l:=Zc5) O X2 (b.at 0) O) O) ?_;rw[a6,Q3 Bool.false_ne_true];exact ⟨none,0,none,0,O,(Rd.nil _ _ _ _ _),(Rd.nil _ _ _ _ _),(Qf _),d⟩
 have aM:dgC c=true:=Ydj k (by have h8:=h;simpa using h8);refine Q7<|aC _ _<|ZS i fun aF=>Ze (Vn X2 m)<|Zo (Vw [vi ((ofD c).n),.slice q ((ofD c).ns).length u,.slice x ((ofD c).ws).length y,vi ((ofD c).t),vi ((ofD c).r)] Xv b) ?_;intro _ aP ⟨ho,hb⟩;have f:=f.oT ho b O;have g:=g.oT ho b O;have d:=Below.oy d ho p;have b:=hb;refine Za O<|Zt aF fun a i=>Q6 (X6 i (X1q i O (ResV.cellN (l:=[vi ((ofD c).n),.slice q ((ofD c).ns).length u,.slice x ((ofD c).ws).length y,vi ((ofD c).t),vi ((ofD c).r)]) O X2 (b.at 0) O) O) ?_);rw[aM,Q4 rfl];exact ⟨q,u,x,y,O,f.top,g.top,D,d⟩
def Xod(q:World)(d:Dg)(md:Nat)(y:md=d.ns.length)(Ad:Option Addr)(cd:Nat)(h:Rw q 85 encNd Ad d.ns)(Bd:Option Addr)(dd:Nat)(aB:Rw q 99 encWr Bd d.ws)(i:d.ws.length<=dd)(hG:goodD d=true):RE 35 [.agg #[vi d.n,.slice Ad md cd,.slice Bd d.ws.length dd,vi d.t,vi d.r]] q (fun v w=>v=vi (oddD d)/\Bl q w):=by
 have hD:=X1k hG;have aU:=hD.m;have aI:=X86 d.ns d.ns.length;refine enter func35 O 24 O O ?_;intro a e;have j:=bz q;refine ZS e fun aJ=>Zf (X0n (zs:=(Zc4 d Ad md cd Bd dd)) O O) ?_;rintro _ w1 ⟨b4,rfl,aK,hE,g⟩;have aR:=Q0 j.size aK;have j:=btr j hE;refine Za O<|Zx aJ fun a e _ aL=>Za O<|ZX aL fun a e _ aM=>ZS e fun aN=>Ze (Vn X2 g)<|Zf (Vc (Xzh _ d md y Ad cd (h.bx j).top Bd dd (aB.bx j).top i Z) Xkp) ?_;rintro _ w2 ⟨A8,c8,rfl,o,hE⟩;have o:=o.lower j.size;have g:=g.bw hE;have j:=btr j hE;refine Ze (X0w O Xp)<|Zm O<|Zt aN fun a e=>Q8<|X04 (σ:=Nat×Int) (fun (s:Nat×Int) (a:Act) (w:World)=>match s with|(k,c)=>Fr a 24 [(1,(pZ9 b4)),(3,vi c),(7,.slice A8 (spL d.ns).length c8),(8,vi ((spL d.ns).length:Int)),(9,vi (k:Int))]/\(k<=(spL d.ns).length)/\(c=((spL d.ns).take k).foldl (oddP d) 0)/\Blk w b4 54 (Zc4 d Ad md cd Bd dd)/\Own w q.heap.size 3 1 encI A8 c8 (spL d.ns)/\d.ws.length<=dd/\Bl q w) (fun (s:Nat×Int)=>match s with|(k,c)=>(spL d.ns).length-k) (0,0) ?_ ?_
 ·exact ⟨e.sb,(Qf _),O,g,o,i,j⟩
 intro ⟨k,c⟩ a w3 ⟨e,hk,hc,g,o,i,j⟩;refine ZS e fun aO=>Ze (X16 O O)<|ZX aO fun a e _ aC=>X0y e O (fun a6 x=>?_) (fun a6 x=>?_)
 ·have ⟨aV,aS⟩:=Xa (l:=(spL d.ns)) (k:=k) Z;have ⟨u9,a7⟩:=Xa (l:=spL d.ns) (k:=k) (by have:=x;omega);have aW:=Xt9 a7;have aP:=X2j hD.p u9.toNat;have aD:=X3c (f:=oddP d) (b:=0) a7;rw[<- hc] at aD;have aQ:=Xiv (d:=d) ((spL d.ns).take k) 0;rw[<- hc,Qn] at aQ;have aT:(spL d.ns).length<=d.ns.length:=aI;refine Q7<|aC _ _<|Q5 fun _ aE=>Q8<|ZS e fun aF=>Zi (k:=k) (u:=u9) (enc:=encI) (l:=(spL d.ns)) tv0 O O Xp X0p Xj o.rd a7 O ?_;intro aX a8;refine Ze (X0 O X8 a8)<|Za O<|Zt aF fun a e=>Zr e<|Zm O<|Ze (Vd O Xn 1)<|Ze (X0 O X0f (g.at 1))<|Zm O<|Zj (k:=u9.toNat) (u:=(d.ns.getD u9.toNat nZ)) (enc:=encNd) (l:=d.ns) tv0 O y O X00 X0o X03 (h.bx j) (Xg Z) Z ?_;intro aY aA;exact Ze (X2u O X0m)<|Ze (X0 O X8 (aA.drop 1))<|Ze (Vx (X46 O O O) (Int.tmod_eq_emod_of_nonneg aP.1))<|Ze (Xr O O Z Z)<|Za O<|Zn fun a e=>Xd<|aE _ _<|Zr e<|Ze (Xr O O Z Z)<|Zm O<|Zn fun a e=>Xh<|⟨(k+1,c+((d.ns.getD u9.toNat nZ).p % 2)),⟨e.sb,Z,(by rw[aD];rfl),g,o,i,j⟩,O1⟩
 have aG:oddD d=c:=by rw[hc,Qi (by have:=x;omega)];rfl
 refine Q9<|Xk<|Xk<|X06<|aM _ _<|ZS e fun aH=>Zm O<|Za O<|Zt aH fun a e=>Q6 (X6 e (Xq e O O) ?_);exact ⟨by rw[aG],j⟩
theorem Y7h(w0:World)(p:Cx)(Ap:Option Addr)(cp:Nat)(bF:Rw w0 45 encG Ap p.gs)(q:Cx)(Aq:Option Addr)(cq:Nat)(bG:Rw w0 45 encG Aq q.gs)(cE:p.gs.length<=2000000)(cG:q.gs.length<=2000000):RE 7 [.agg #[vi p.n,.slice Ap p.gs.length cp],.agg #[vi q.n,.slice Aq q.gs.length cq]] w0 (fun v w=>v=.tuple #[.bool (vfV p q),.bool (vfO p q)]/\Bl w0 w):=by
 refine enter func7 O 48 O O ?_;intro a i;have c:=bz w0;refine ZS i fun cH=>Zf (X0n (zs:=[vi p.n,.slice Ap p.gs.length cp]) O O) ?_;rintro _ w1 ⟨b4,rfl,cI,b,o⟩;have cQ:=Q0 c.size cI;have c:=btr c b;refine Zf (X0n (zs:=[vi q.n,.slice Aq q.gs.length cq]) O O) ?_;rintro _ w2 ⟨b5,rfl,cJ,b,aO⟩;have cB:b4≠b5:=by have:=o.lt;omega
 have cR:=Q0 c.size cJ;have o:=o.bw b;have c:=btr c b;refine Za O<|Za O<|Zx cH fun a i _ cK=>Ze (Vn X0t aO)<|Zf (Vc (Y79 _ q Aq cq (bG.bx c).top cG) Xw3) ?_;rintro _ w3 ⟨A7,c7,rfl,U,b⟩;have U:=U.lower c.size;have ⟨o,aO,c⟩:=mv3 b o aO c;refine Zm O<|Ze (Xf (vs:=[.agg #[vi (((invO q).getD cZ).n),.slice A7 (((invO q).getD cZ).gs).length c7],.bool ((invO q).isSome)]) O O)<|Ze (Xf (vs:=[.agg #[vi (((invO q).getD cZ).n),.slice A7 (((invO q).getD cZ).gs).length c7],.bool ((invO q).isSome)]) O O)<|ZB [vi (((invO q).getD cZ).n),.slice A7 (((invO q).getD cZ).gs).length c7] X3v X1u fun b9 w5 cL b aP=>?_;have cC:b4≠b9:=by have:=o.lt;omega
 have cD:b5≠b9:=by have:=aO.lt;omega
 have cS:=Q0 c.size cL;have ⟨o,U,c⟩:=mv3 b o U c;refine Za O<|Zx cK fun a i _ bH=>Ze (Vn X0t o)<|Ze (Vn X0t aP)<|Zf (Vc (Y77 _ p Ap cp (bF.bx c).top ((invO q).getD cZ) A7 c7 U.rd.top cE (Xlm q)) Xw1) ?_;rintro _ w6 ⟨aQ,aR,rfl,C,b⟩;have C:=C.lower c.size;have ⟨o,aP,c⟩:=mv3 b o aP c;refine Zm O<|Ze (Xf (vs:=[.agg #[vi ((Zb1 p q).n),.slice aQ ((Zb1 p q).gs).length aR],.bool ((conO p ((invO q).getD cZ)).isSome)]) O O)<|Ze (Xf (vs:=[.agg #[vi ((Zb1 p q).n),.slice aQ ((Zb1 p q).gs).length aR],.bool ((conO p ((invO q).getD cZ)).isSome)]) O O)<|ZB [vi ((Zb1 p q).n),.slice aQ ((Zb1 p q).gs).length aR] X3v X1u fun b13 w8 bI b bJ=>?_;have bK:b4≠b13:=by have:=o.lt;omega
 have bL:b9≠b13:=by have:=aP.lt;omega
 have cM:=Q0 c.size bI;have C:=C.bw b;have c:=btr c b;refine Za O<|Zx bH fun a i _ bM=>Ze (Vn X0t bJ)<|Zf (Vc (Xze _ (Zb1 p q) aQ aR C.rd.top) Xkm) ?_;rintro _ w9 ⟨L,M,N,Q,rfl,d,e,W,b⟩;have c:=btr c b;refine Zm O<|Ze (Xf (vs:=[.agg #[vi ((if (dgC (Zb1 p q))=true then ofD (Zb1 p q) else zD).n),.slice L ((if (dgC (Zb1 p q))=true then ofD (Zb1 p q) else zD).ns).length M,.slice N ((if (dgC (Zb1 p q))=true then ofD (Zb1 p q) else zD).ws).length Q,vi ((if (dgC (Zb1 p q))=true then ofD (Zb1 p q) else zD).t),vi ((if (dgC (Zb1 p q))=true then ofD (Zb1 p q) else zD).r)],.bool (dgC (Zb1 p q))]) O O)<|Ze (Xf (vs:=[.agg #[vi ((if (dgC (Zb1 p q))=true then ofD (Zb1 p q) else zD).n),.slice L ((if (dgC (Zb1 p q))=true then ofD (Zb1 p q) else zD).ns).length M,.slice N ((if (dgC (Zb1 p q))=true then ofD (Zb1 p q) else zD).ws).length Q,vi ((if (dgC (Zb1 p q))=true then ofD (Zb1 p q) else zD).t),vi ((if (dgC (Zb1 p q))=true then ofD (Zb1 p q) else zD).r)],.bool (dgC (Zb1 p q))]) O O)<|ZB [vi ((if (dgC (Zb1 p q))=true then ofD (Zb1 p q) else zD).n),.slice L ((if (dgC (Zb1 p q))=true then ofD (Zb1 p q) else zD).ns).length M,.slice N ((if (dgC (Zb1 p q))=true then ofD (Zb1 p q) else zD).ws).length Q,vi ((if (dgC (Zb1 p q))=true then ofD (Zb1 p q) else zD).t),vi ((if (dgC (Zb1 p q))=true then ofD (Zb1 p q) else zD).r)] X1c Xv fun aS cN bN b k=>?_;have cO:=Q0 c.size bN;have ⟨d,e,c⟩:=mv3 b d e c;refine Za O<|ZX bM fun a i _ bO=>Q5 fun _ bP=>X0i (fun a w=>Fr a 48 [(10,(pZ9 aS)),(39,.bool (((!((invO q).isSome))||(!((conO p ((invO q).getD cZ)).isSome)))||(!(dgC (Zb1 p q)))))]/\cN=w) ?_ ?_
 ·refine Zr i<|Zm O<|Ze (X1i O)<|Zm O<|Zg 32 O ?_ ?_<;>intro f
  ·(iterate 2 refine Zp (gP f) ?_);refine Ze (Xc O f O)<|Zm O<|Zp (gP O) ?_;exact Zp (gP O)<|Ze (Xc O O O)<|Zn fun a i=>⟨i.sub ⟨O,X1 O (by simp[f]),trivial⟩,O⟩
  refine Zv (gW f) (X5 O) ?_;refine Zv (gW f) (X1i O)<|Ze (Xi O f O)<|Zm O<|Zg 36 O ?_ ?_<;>intro g
  ·(iterate 2 refine Zp (gP g) ?_);exact Ze (Xc O g O)<|Zn fun a i=>⟨i.sub ⟨O,X1 O (by simp[f,g]),trivial⟩,O⟩
  refine Zv (gW g) (X5 O) ?_;refine Zv (gW g) (X1i O)<|Ze (Xi O g O)<|Zn fun a i=>?_;exact ⟨i.sub ⟨O,X1 O (by simp[f,g]),trivial⟩,O⟩
 rintro a _ ⟨i,rfl⟩;refine bP _ _<|Xx i O ?_ ?_<;>intro a6
 ·have cP:vfO p q=false:=Yca a6;exact ZS i fun bQ=>Za O<|Za O<|Zt bQ fun a i=>Q6<|X9<|X6 i (X1q i O O O)<|⟨by unfold vfV;rw[cP];rfl,c⟩
 have m:=Y6n a6;have B:(if dgC (Zb1 p q)=true then ofD (Zb1 p q) else zD)=ofD (Zb1 p q):=Q4 m.2.2;refine Q7<|bO _ _<|Q5 fun _ a7=>Xy none (fun j=>[7].contains j) mixed ?_;intro cT b;have ⟨k,d,e,c⟩:=mv4 b k d e c;refine Yb i<|Ye 0 O (Vn X2 k)<|Y2 1 6 ?_ ?_
 ·refine Yk O tv0 (Vc (Xjo _) Xav) (fun _ _ ⟨aW,aX,_,u,b⟩=>b) ?_;rintro _ cU ⟨aW,aX,rfl,u,b⟩;have u:=u.lower c.size;have ⟨k,d,e,c⟩:=mv4 b k d e c;refine Y2 2 6 ?_ ?_
  ·refine Yk O tv0 (Vc (Xd1 _ (if (dgC (Zb1 p q))=true then ofD (Zb1 p q) else zD) (((if (dgC (Zb1 p q))=true then ofD (Zb1 p q) else zD).ns).length) O L M d.top N Q e.top W aW aX Zb4 u.rd.top (by rw[B];exact X1k (X2d m.2.2)) O4) X7j) (fun _ _ ⟨a8,aA,aB,aC,aY,aZ,_,y,A,aT,aD,b⟩=>b) ?_;rintro _ cV ⟨a8,aA,aB,aC,aY,aZ,rfl,y,A,aT,aD,b⟩;have aD:=aD.lower c.size;have k:=k.bw b;have c:=btr c b;refine YA 3 O O<|Yo 4 O (fun _=>Xf (vs:=[.agg #[vi ((siD (if (dgC (Zb1 p q))=true then ofD (Zb1 p q) else zD) Zb4).n),.slice a8 ((siD (if (dgC (Zb1 p q))=true then ofD (Zb1 p q) else zD) Zb4).ns).length aA,.slice aB ((siD (if (dgC (Zb1 p q))=true then ofD (Zb1 p q) else zD) Zb4).ws).length aC,vi ((siD (if (dgC (Zb1 p q))=true then ofD (Zb1 p q) else zD) Zb4).t),vi ((siD (if (dgC (Zb1 p q))=true then ofD (Zb1 p q) else zD) Zb4).r)],.slice aY (siL (if (dgC (Zb1 p q))=true then ofD (Zb1 p q) else zD) Zb4).length aZ]) O O)<|Yo 5 O (fun _=>Xf (vs:=[.agg #[vi ((siD (if (dgC (Zb1 p q))=true then ofD (Zb1 p q) else zD) Zb4).n),.slice a8 ((siD (if (dgC (Zb1 p q))=true then ofD (Zb1 p q) else zD) Zb4).ns).length aA,.slice aB ((siD (if (dgC (Zb1 p q))=true then ofD (Zb1 p q) else zD) Zb4).ws).length aC,vi ((siD (if (dgC (Zb1 p q))=true then ofD (Zb1 p q) else zD) Zb4).t),vi ((siD (if (dgC (Zb1 p q))=true then ofD (Zb1 p q) else zD) Zb4).r)],.slice aY (siL (if (dgC (Zb1 p q))=true then ofD (Zb1 p q) else zD) Zb4).length aZ]) O O)<|Y1 6<|Yk O tv0 (X0b (zs:=Zc5) X1c O) (fun _ _ ⟨_,_,_,h,_⟩=>h) ?_;rintro _ cW ⟨b33,rfl,bR,b,D⟩;have bC:aS≠b33:=by have:=k.lt;omega
   have b0:=Q0 c.size bR;have ⟨y,A,c⟩:=mv3 b y A c;refine Y1 7<|Yh O tv0 O (Vw [vi ((siD (if (dgC (Zb1 p q))=true then ofD (Zb1 p q) else zD) Zb4).n),.slice a8 ((siD (if (dgC (Zb1 p q))=true then ofD (Zb1 p q) else zD) Zb4).ns).length aA,.slice aB ((siD (if (dgC (Zb1 p q))=true then ofD (Zb1 p q) else zD) Zb4).ws).length aC,vi ((siD (if (dgC (Zb1 p q))=true then ofD (Zb1 p q) else zD) Zb4).t),vi ((siD (if (dgC (Zb1 p q))=true then ofD (Zb1 p q) else zD) Zb4).r)] Xv D) ?_;intro _ cX ⟨ho,hb⟩;have y:=y.oT ho D O;have A:=A.oT ho D O;have c:=Below.oy c ho b0;have D:=hb;refine YD 8 O O<|Yd fun a i=>a7 _ _<|ZS i fun bS=>Ze (Vn X2 D)<|Zf (Vc (Xof _ (siD (if (dgC (Zb1 p q))=true then ofD (Zb1 p q) else zD) Zb4) (((siD (if (dgC (Zb1 p q))=true then ofD (Zb1 p q) else zD) Zb4).ns).length) O a8 aA y.top aB aC A.top aT (by rw[B];exact X4h _ (X2d m.2.2))) Xf0) ?_;rintro _ cY ⟨rfl,b⟩;have c:=btr c b;refine Za O<|Za O<|Zt bS fun a i=>Q6 (X6 i (X1q i O O O) ?_);exact ⟨by unfold vfV;rw[m.1,m.2.1,Qw,B];rfl,c⟩
  refine Yk O tv0 (X0b (zs:=Zc5) X1c O) (fun _ _ ⟨_,_,_,h,_⟩=>h) ?_;rintro _ d5 ⟨b37,rfl,bU,b,x⟩;have bD:aS≠b37:=by have:=k.lt;omega
  have b1:=Q0 c.size bU;have ⟨d,e,u,c⟩:=mv4 b d e u c;refine Y1 2<|Yk O tv0 (Vc (Xd1 _ (if (dgC (Zb1 p q))=true then ofD (Zb1 p q) else zD) (((if (dgC (Zb1 p q))=true then ofD (Zb1 p q) else zD).ns).length) O L M d.top N Q e.top W aW aX Zb4 u.rd.top (by rw[B];exact X1k (X2d m.2.2)) O4) X7j) (fun _ _ ⟨aE,aF,aG,aH,b2,b3,_,E,G,aU,aI,b⟩=>b) ?_;rintro _ d6 ⟨aE,aF,aG,aH,b2,b3,rfl,E,G,aU,aI,b⟩;have aI:=aI.lower c.size;have x:=x.bw b;have c:=btr c b;refine YA 3 O O<|Yo 4 O (fun _=>Xf (vs:=[.agg #[vi ((siD (if (dgC (Zb1 p q))=true then ofD (Zb1 p q) else zD) Zb4).n),.slice aE ((siD (if (dgC (Zb1 p q))=true then ofD (Zb1 p q) else zD) Zb4).ns).length aF,.slice aG ((siD (if (dgC (Zb1 p q))=true then ofD (Zb1 p q) else zD) Zb4).ws).length aH,vi ((siD (if (dgC (Zb1 p q))=true then ofD (Zb1 p q) else zD) Zb4).t),vi ((siD (if (dgC (Zb1 p q))=true then ofD (Zb1 p q) else zD) Zb4).r)],.slice b2 (siL (if (dgC (Zb1 p q))=true then ofD (Zb1 p q) else zD) Zb4).length b3]) O O)<|Yo 5 O (fun _=>Xf (vs:=[.agg #[vi ((siD (if (dgC (Zb1 p q))=true then ofD (Zb1 p q) else zD) Zb4).n),.slice aE ((siD (if (dgC (Zb1 p q))=true then ofD (Zb1 p q) else zD) Zb4).ns).length aF,.slice aG ((siD (if (dgC (Zb1 p q))=true then ofD (Zb1 p q) else zD) Zb4).ws).length aH,vi ((siD (if (dgC (Zb1 p q))=true then ofD (Zb1 p q) else zD) Zb4).t),vi ((siD (if (dgC (Zb1 p q))=true then ofD (Zb1 p q) else zD) Zb4).r)],.slice b2 (siL (if (dgC (Zb1 p q))=true then ofD (Zb1 p q) else zD) Zb4).length b3]) O O)<|Y1 7<|Yh O tv0 O (Vw [vi ((siD (if (dgC (Zb1 p q))=true then ofD (Zb1 p q) else zD) Zb4).n),.slice aE ((siD (if (dgC (Zb1 p q))=true then ofD (Zb1 p q) else zD) Zb4).ns).length aF,.slice aG ((siD (if (dgC (Zb1 p q))=true then ofD (Zb1 p q) else zD) Zb4).ws).length aH,vi ((siD (if (dgC (Zb1 p q))=true then ofD (Zb1 p q) else zD) Zb4).t),vi ((siD (if (dgC (Zb1 p q))=true then ofD (Zb1 p q) else zD) Zb4).r)] Xv x) ?_;intro _ d7 ⟨ho,hb⟩;have E:=E.oT ho x O;have G:=G.oT ho x O;have c:=Below.oy c ho b1;have x:=hb;refine YD 8 O O<|Yd fun a i=>a7 _ _<|ZS i fun bW=>Ze (Vn X2 x)<|Zf (Vc (Xof _ (siD (if (dgC (Zb1 p q))=true then ofD (Zb1 p q) else zD) Zb4) (((siD (if (dgC (Zb1 p q))=true then ofD (Zb1 p q) else zD) Zb4).ns).length) O aE aF E.top aG aH G.top aU (by rw[B];exact X4h _ (X2d m.2.2))) Xf0) ?_;rintro _ d8 ⟨rfl,b⟩;have c:=btr c b;refine Za O<|Za O<|Zt bW fun a i=>Q6 (X6 i (X1q i O O O) ?_);exact ⟨by unfold vfV;rw[m.1,m.2.1,Qw,B];rfl,c⟩
 refine Yk O tv0 (X0b (zs:=Zc5) X1c O) (fun _ _ ⟨_,_,_,h,_⟩=>h) ?_;rintro _ d9 ⟨b44,rfl,bX,b,l⟩;have bE:aS≠b44:=by have:=k.lt;omega
 have b6:=Q0 c.size bX;have ⟨d,e,c⟩:=mv3 b d e c;refine Y1 1<|Yk O tv0 (Vc (Xjo _) Xav) (fun _ _ ⟨bY,bZ,_,H,b⟩=>b) ?_;rintro _ dA ⟨bY,bZ,rfl,H,b⟩;have H:=H.lower c.size;have ⟨l,d,e,c⟩:=mv4 b l d e c;refine Y1 2<|Yk O tv0 (Vc (Xd1 _ (if (dgC (Zb1 p q))=true then ofD (Zb1 p q) else zD) (((if (dgC (Zb1 p q))=true then ofD (Zb1 p q) else zD).ns).length) O L M d.top N Q e.top W bY bZ Zb4 H.rd.top (by rw[B];exact X1k (X2d m.2.2)) O4) X7j) (fun _ _ ⟨aJ,aK,aL,aM,b7,b8,_,I,J,aV,aN,b⟩=>b) ?_;rintro _ dB ⟨aJ,aK,aL,aM,b7,b8,rfl,I,J,aV,aN,b⟩;have aN:=aN.lower c.size;have l:=l.bw b;have c:=btr c b;refine YA 3 O O<|Yo 4 O (fun _=>Xf (vs:=[.agg #[vi ((siD (if (dgC (Zb1 p q))=true then ofD (Zb1 p q) else zD) Zb4).n),.slice aJ ((siD (if (dgC (Zb1 p q))=true then ofD (Zb1 p q) else zD) Zb4).ns).length aK,.slice aL ((siD (if (dgC (Zb1 p q))=true then ofD (Zb1 p q) else zD) Zb4).ws).length aM,vi ((siD (if (dgC (Zb1 p q))=true then ofD (Zb1 p q) else zD) Zb4).t),vi ((siD (if (dgC (Zb1 p q))=true then ofD (Zb1 p q) else zD) Zb4).r)],.slice b7 (siL (if (dgC (Zb1 p q))=true then ofD (Zb1 p q) else zD) Zb4).length b8]) O O)<|Yo 5 O (fun _=>Xf (vs:=[.agg #[vi ((siD (if (dgC (Zb1 p q))=true then ofD (Zb1 p q) else zD) Zb4).n),.slice aJ ((siD (if (dgC (Zb1 p q))=true then ofD (Zb1 p q) else zD) Zb4).ns).length aK,.slice aL ((siD (if (dgC (Zb1 p q))=true then ofD (Zb1 p q) else zD) Zb4).ws).length aM,vi ((siD (if (dgC (Zb1 p q))=true then ofD (Zb1 p q) else zD) Zb4).t),vi ((siD (if (dgC (Zb1 p q))=true then ofD (Zb1 p q) else zD) Zb4).r)],.slice b7 (siL (if (dgC (Zb1 p q))=true then ofD (Zb1 p q) else zD) Zb4).length b8]) O O)<|Y1 7<|Yh O tv0 O (Vw [vi ((siD (if (dgC (Zb1 p q))=true then ofD (Zb1 p q) else zD) Zb4).n),.slice aJ ((siD (if (dgC (Zb1 p q))=true then ofD (Zb1 p q) else zD) Zb4).ns).length aK,.slice aL ((siD (if (dgC (Zb1 p q))=true then ofD (Zb1 p q) else zD) Zb4).ws).length aM,vi ((siD (if (dgC (Zb1 p q))=true then ofD (Zb1 p q) else zD) Zb4).t),vi ((siD (if (dgC (Zb1 p q))=true then ofD (Zb1 p q) else zD) Zb4).r)] Xv l) ?_;intro _ dC ⟨ho,hb⟩;have I:=I.oT ho l O;have J:=J.oT ho l O;have c:=Below.oy c ho b6;have l:=hb;refine YD 8 O O<|Yd fun a i=>a7 _ _<|ZS i fun cA=>Ze (Vn X2 l)<|Zf (Vc (Xof _ (siD (if (dgC (Zb1 p q))=true then ofD (Zb1 p q) else zD) Zb4) (((siD (if (dgC (Zb1 p q))=true then ofD (Zb1 p q) else zD) Zb4).ns).length) O aJ aK I.top aL aM J.top aV (by rw[B];exact X4h _ (X2d m.2.2))) Xf0) ?_;rintro _ dD ⟨rfl,b⟩;have c:=btr c b;refine Za O<|Za O<|Zt cA fun a i=>Q6 (X6 i (X1q i O O O) ?_);exact ⟨by unfold vfV;rw[m.1,m.2.1,Qw,B];rfl,c⟩
abbrev wrV(x:Wr) : Value:=.agg #[.int .i64 x.a,.int .i64 x.b,.bool x.h]
abbrev ndV(x:Nd) : Value:=.agg #[.int .i64 x.k,.int .i64 x.p]
def Xvd(d:Nat)(x y:Nd)(w:World):(Op.equalIn (d+2) 85 (ndV x) (ndV y)).run prog w=.ok (decide (x=y)) w:=by
 have hf:=X9u underlying85;refine (run_equalIn_struct w (d+1) 85 _ _ (by rw[hf];exact underlying85) O3).trans ?_;rw[hf];have:decide (x=y)=(decide (x.k=y.k)&&(decide (x.p=y.p)&&true)):=by
  have ⟨a,b⟩:=x;obtain ⟨a',b'⟩:=y;simp
 rw[this];refine X34 O5 X8 underlying3 O O fun _=>X34 O5 X8 underlying3 O O fun _=>?_;rfl
def Xxl:prog.eqGuardType prog.depth 85=false:=by kernel_rfl
def cmW(x y:Wr) : Int:=if cmI x.a y.a≠0 then cmI x.a y.a else cmI x.b y.b
def orI:List Int->Int
 | []=>0
 | x::l=>if x≠0 then x else orI l
def Y1r:∀ {l:List Int} {k:Nat} {u:Int},(∀ x ∈ l.take k,x=0)->l[k]? = some u->u≠0->orI l=u
 | [],_,_,_,h,_=>by simp at h
 | x::l,0,u,_,h,hu=>by
  simp only[List.getElem?_cons_zero,Option.some.injEq] at h;subst h;exact Q4 hu
 | x::l,k+1,u,ha,h,hu=>by
  have hx:x=0:=ha x O4;unfold orI;rw[Q3 (by simpa using hx)];exact Y1r (l:=l) (k:=k) (fun z hz=>ha z (by simp[hz])) (by simpa using h) hu
def Yb0:∀ {l:List Int},(∀ x ∈ l,x=0)->orI l=0
 | [],_=>rfl
 | x::l,ha=>by
  have hx:x=0:=ha x O4;unfold orI;rw[Q3 (by simpa using hx)];exact Yb0 fun z hz=>ha z (by simp[hz])
def Y0g(x y:Wr):orI [cmI x.a y.a,cmI x.b y.b]=cmW x y:=by grind [cmI,cmW,orI]
def fnI(ns:List Nd)(x:Nd) : Int:=idxF ns fun y=>decide (x=y)
def nokI(n:Int)(x:Nd) : Bool:=if (x.k==0)=true then x.p==0 else if (x.k==1||x.k==2)=true then inR x.p 0 (n-1) else if (x.k==3)=true then inR x.p 0 7 else false
def bnI(ns:List Nd) : Int:=((ns.filter fun x=>x.k==1||x.k==2).length:Int)
def Ydf{ns:List Nd}{j:Nat}{x:Nd}(hj:ns[j]? = some x)(h:(x.k==1||x.k==2)=true):bnI (ns.take (j+1))=bnI (ns.take j)+1:=by
 unfold bnI;rw[X4p (q:=fun x=>x.k==1||x.k==2) hj,Q4 h,Qh];rfl
def Yde{ns:List Nd}{j:Nat}{x:Nd}(hj:ns[j]? = some x)(h:(x.k==1||x.k==2)=false):bnI (ns.take (j+1))=bnI (ns.take j):=by
 unfold bnI;rw[X4p (q:=fun x=>x.k==1||x.k==2) hj,Q3 (by rw[h];decide),List.append_nil]
def Y99(ns:List Nd)(j:Nat):0<=bnI (ns.take j)/\bnI (ns.take j)<=j:=by grind [bnI]
def heQ(d:Dg)(q:Nat) : Bool:=!(decide (fnI d.ns ⟨1,q⟩<0)||decide (fnI d.ns ⟨2,q⟩<0))
def heD(d:Dg) : Bool:=(List.range d.n.toNat).all (heQ d)&&bnI d.ns==2*d.n
def Xlj{α:Type}{l:List α}{q:α->Bool}:decide (0<=idxF l q)=l.any q:=by grind [idxF]
def wvQ(d:Dg)(i:Nat) : Bool:=!(decide ((d.ws.getD i wZ).a<0)||decide ((d.ws.getD i wZ).b<=(d.ws.getD i wZ).a)||decide ((d.ns.length:Int)<=(d.ws.getD i wZ).b)||(decide (0<(i:Int))&&decide (0<=cmW (d.ws.getD (i-1) wZ) (d.ws.getD i wZ))))
def nvQ(d:Dg)(i:Nat) : Bool:=!(((d.ns.getD i nZ).k==0&&cnW d.ws (i:Int) != 0)||(((d.ns.getD i nZ).k==1||(d.ns.getD i nZ).k==2)&&cnW d.ws (i:Int) != 1))
def hvQ(d:Dg) : Bool:=!(!(inR d.n 1 5)||decide (40<(d.ns.length:Int))||!(inR d.t 0 7)||!(inR d.r (-60) 60)||(d.ns.any fun x=>!nokI d.n x)||!(heD d))
def ivD(d:Dg) : Bool:=hvQ d&&(List.range d.ws.length).all (wvQ d)&&(List.range d.ns.length).all (nvQ d)
def Y23{d:Dg}{i:Nat}{u:Wr}(hu:d.ws[i]? = some u):wvQ d i = !(decide (u.a<0)||decide (u.b<=u.a)||decide ((d.ns.length:Int)<=u.b)||(decide (0<(i:Int))&&decide (0<=cmW (d.ws.getD (i-1) wZ) u))):=by grind [cmW,wZ,wvQ]
def Yav{d:Dg}{i:Nat}{u:Nd}(hu:d.ns[i]? = some u):nvQ d i = !((u.k==0&&cnW d.ws (i:Int) != 0)||((u.k==1||u.k==2)&&cnW d.ws (i:Int) != 1)):=by grind [cnW,nvQ]
def Ydy{d:Dg}(h:(!(inR d.n 1 5)||decide (40<(d.ns.length:Int))||!(inR d.t 0 7)||!(inR d.r (-60) 60)||(d.ns.any fun x=>!nokI d.n x)||!(heD d))=true):ivD d=false:=by
 unfold ivD hvQ;rw[h];rfl
def Ye0{d:Dg}{i:Nat}(hi:i<d.ws.length)(h:wvQ d i=false):ivD d=false:=by grind [ivD,wvQ]
def Ydz{d:Dg}{i:Nat}(hi:i<d.ns.length)(h:nvQ d i=false):ivD d=false:=by grind [ivD,nvQ]
def Ydx{d:Dg}(h:(!(inR d.n 1 5)||decide (40<(d.ns.length:Int))||!(inR d.t 0 7)||!(inR d.r (-60) 60)||(d.ns.any fun x=>!nokI d.n x)||!(heD d))=false)(h2:∀ i,i<d.ws.length->wvQ d i=true)(h3:∀ i:Nat,i<d.ns.length->nvQ d i=true):ivD d=true:=by
 unfold ivD hvQ;rw[h,X9m (q:=wvQ d) h2,X9m (q:=nvQ d) h3];rfl
abbrev Zc0(d:Dg)(x:Rz) : Dg:=if (ivD (Zb8 d x))=true then (Zb8 d x) else zD
def Xzt(g:World)(Al:Option Addr)(cl:Nat)(l:List Wr)(aA:Rw g 99 encWr Al l)(kq:FuncId)(pq:List Value)(Fq:FF kq)(q:Wr->Bool)(hq:∀ x w,Bl g w->RE kq ([wrV x]++pq) w (fun v w'=>v=.bool (q x)/\Bl w w'))(aN:l.length<=1000000000):RE 113 [.slice Al l.length cl,.func (.func kq) #[] pq.toArray] g (fun v w=>v=vi (idxF l q)/\Bl g w):=by
 refine enter func113 O 19 O O ?_;intro a c;have i:=bz g;refine ZS c fun aG=>Za O<|ZX aG fun a c _ aH=>ZS c fun aI=>Zm O<|Ze (X0w O X0a)<|Zm O<|Zt aI fun a c=>Q8<|X04 (σ:=Nat) (fun (k:Nat) (a:Act) (w:World)=>Fr a 19 [(0,.slice Al l.length cl),(1,.func (.func kq) #[] pq.toArray),(7,vi (l.length:Int)),(8,vi (k:Int))]/\(k<=l.length)/\(((l.take k).all fun x=>!q x)=true)/\Bl g w) (fun (k:Nat)=>l.length-k) 0 ?_ ?_
 ·exact ⟨c.sb,(Qf _),O,i⟩
 intro k a w1 ⟨c,hk,d,i⟩;refine ZS c fun aJ=>Ze (X16 O O)<|ZX aJ fun a c _ aK=>X0y c O (fun aB a6=>?_) (fun aB a6=>?_)
 ·have ⟨u8,aO⟩:=Xa (l:=l) (k:=k) Z;have ⟨j,a7⟩:=Xa (l:=l) (k:=k) (by have:=a6;omega);refine Q7<|aK _ _<|Q5 fun _ aL=>Q8<|ZS c fun aC=>Zm O<|Za O<|Zx aC fun a c _ aD=>Zm O<|Zm O<|Zm O<|Zi (k:=k) (u:=j) (enc:=encWr) (l:=l) tv0 O O X0a X14 X0d (aA.bx i) a7 O ?_;intro aP a8;refine Ze (X07 (l:=[vi j.a,vi j.b,.bool j.h]) O X23 a8 O)<|Zf (X6o (cs:=pq) (vs:=[.agg #[vi j.a,vi j.b,.bool j.h]]) O O Fq (hq j _ i)) ?_;rintro _ w2 ⟨rfl,hE⟩;have i:=btr i hE;refine Zt aD fun a c=>Xx c O ?_ ?_<;>intro e
  ·have f:idxF l q=(k:Int):=Xc9 d a7 e;exact ZS c fun aE=>Zm O<|Za O<|Zt aE fun a c=>Q6<|Xu<|X9<|X9<|Xu<|X9<|X6 c (Xq c O O)<|⟨by rw[f],i⟩
  have aM:=X91 d a7 e;exact Q7<|Xd<|aL _ _<|Zr c<|Ze (Xr O O Z Z)<|Zm O<|Zn fun a c=>Xh<|⟨k+1,⟨c.sb,Z,aM,i⟩,Z⟩
 have f:idxF l q = -1:=Xca d (by have:=a6;omega);refine Q9<|Xk<|Xk<|X06<|aH _ _<|ZS c fun aF=>Za O<|Zt aF fun a c=>Q6 (X6 c (Xq c O O) ?_);exact ⟨by rw[f],i⟩
def Y84(f:World)(Al:Option Addr)(cl:Nat)(l:List Nd)(aA:Rw f 85 encNd Al l)(kq:FuncId)(pq:List Value)(Fq:FF kq)(q:Nd->Bool)(hq:∀ x w,Bl f w->RE kq ([ndV x]++pq) w (fun v w'=>v=.bool (q x)/\Bl w w'))(aN:l.length<=1000000000):RE 128 [.slice Al l.length cl,.func (.func kq) #[] pq.toArray] f (fun v w=>v=vi (idxF l q)/\Bl f w):=by
 refine enter func128 O 19 O O ?_;intro a b;have g:=bz f;refine ZS b fun aG=>Za O<|ZX aG fun a b _ aH=>ZS b fun aI=>Zm O<|Ze (X0w O X00)<|Zm O<|Zt aI fun a b=>Q8<|X04 (σ:=Nat) (fun (k:Nat) (a:Act) (w:World)=>Fr a 19 [(0,.slice Al l.length cl),(1,.func (.func kq) #[] pq.toArray),(7,vi (l.length:Int)),(8,vi (k:Int))]/\(k<=l.length)/\(((l.take k).all fun x=>!q x)=true)/\Bl f w) (fun (k:Nat)=>l.length-k) 0 ?_ ?_
 ·exact ⟨b.sb,(Qf _),O,g⟩
 intro k a w1 ⟨b,hk,c,g⟩;refine ZS b fun aJ=>Ze (X16 O O)<|ZX aJ fun a b _ aK=>X0y b O (fun aB a6=>?_) (fun aB a6=>?_)
 ·have ⟨u8,aO⟩:=Xa (l:=l) (k:=k) Z;have ⟨u9,a7⟩:=Xa (l:=l) (k:=k) (by have:=a6;omega);refine Q7<|aK _ _<|Q5 fun _ aL=>Q8<|ZS b fun aC=>Zm O<|Za O<|Zx aC fun a b _ aD=>Zm O<|Zm O<|Zm O<|Zi (k:=k) (u:=u9) (enc:=encNd) (l:=l) tv0 O O X00 X0o X03 (aA.bx g) a7 O ?_;intro aP a8;refine Ze (X07 (l:=[vi u9.k,vi u9.p]) O X44 a8 O)<|Zf (X6o (cs:=pq) (vs:=[.agg #[vi u9.k,vi u9.p]]) O O Fq (hq u9 _ g)) ?_;rintro _ w2 ⟨rfl,hE⟩;have g:=btr g hE;refine Zt aD fun a b=>Xx b O ?_ ?_<;>intro d
  ·have e:idxF l q=(k:Int):=Xc9 c a7 d;exact ZS b fun aE=>Zm O<|Za O<|Zt aE fun a b=>Q6<|Xu<|X9<|X9<|Xu<|X9<|X6 b (Xq b O O)<|⟨by rw[e],g⟩
  have aM:=X91 c a7 d;exact Q7<|Xd<|aL _ _<|Zr b<|Ze (Xr O O Z Z)<|Zm O<|Zn fun a b=>Xh<|⟨k+1,⟨b.sb,Z,aM,g⟩,Z⟩
 have e:idxF l q = -1:=Xca c (by have:=a6;omega);refine Q9<|Xk<|Xk<|X06<|aH _ _<|ZS b fun aF=>Za O<|Zt aF fun a b=>Q6 (X6 b (Xq b O O) ?_);exact ⟨by rw[e],g⟩
def Y8f(w0:World)(x:Wr)(p q:Int)(ba bb:Nat)(d:Blk w0 ba 3 [vi p])(e:Blk w0 bb 3 [vi q]):RE 114 [.agg #[vi x.a,vi x.b,.bool x.h],(pZ9 ba),(pZ9 bb)] w0 (fun v w=>v=.bool (isW p q x)/\Bl w0 w):=by
 have a7:=d.lt;have a8:=e.lt;refine enter func114 O 19 O O ?_;intro a f
 have hW:=bz w0
 refine ZS f fun aA=>Zf (X0n (zs:=[vi x.a,vi x.b,.bool x.h]) O O) ?_;rintro _ w1 ⟨b2,rfl,aB,hE,a6⟩;have aD:=Q0 hW.size aB;have ⟨d,e,hW⟩:=mv3 hE d e hW;refine Za O<|ZX aA fun a f _ aC=>X0i (fun a w=>Fr a 19 [(4,.bool ((x.a==(min p q))&&(x.b==(max p q))))]/\w1=w) ?_ ?_
 ·refine Zr f<|Ze (Vd O X1l 0)<|Ze (X0 O X8 (a6.at 0))<|Ze (X0 O X8 (d.at 0))<|Ze (X0 O X8 (e.at 0))<|Ze (Xum O O)<|Ze (X0l O O)<|Zm O<|Zg 11 O ?_ ?_<;>intro c
  ·refine Zv (gW c) (Vd O X1p 1) ?_;refine Zv (gW c) (X0 O X8 (a6.at 1)) ?_;refine Zv (gW c) (X0 O X8 (d.at 0)) ?_;refine Zv (gW c) (X0 O X8 (e.at 0)) ?_;refine Zv (gW c) (Y2a O O) ?_;refine Zv (gW c) (X0l O O) ?_;refine Ze (Xc O c O)<|Za O ?_;exact Zn fun a f=>⟨f.sub ⟨X1 O (by first|rfl|(simp only[c,bs];done)|simp[c]),trivial⟩,O⟩
  (iterate 6 refine Zp (gP c) ?_);exact Ze (Xi O c O)<|Za O<|Zn fun a f=>⟨f.sub ⟨X1 O (by simp[c]),trivial⟩,O⟩
 rintro a _ ⟨f,rfl⟩;refine aC _ _<|Q6 (X6 f (Xq f O O) ?_)
 exact ⟨O,hW⟩
def Xju(g:World)(d:Dg)(md:Nat)(aG:md=d.ns.length)(Ad:Option Addr)(cd:Nat)(aH:Rw g 85 encNd Ad d.ns)(Bd:Option Addr)(dd:Nat)(a6:Rw g 99 encWr Bd d.ws)(aI:d.ws.length<=dd)(p:Int)(q:Int)(a8:d.ws.length<=1000000000):RE 82 [.agg #[vi d.n,.slice Ad md cd,.slice Bd d.ws.length dd,vi d.t,vi d.r],vi p,vi q] g (fun v w=>v=vi (fdW d.ws p q)/\Bl g w):=by
 refine enter func82 O 11 O O ?_;intro a hf;have b:=bz g;refine ZS hf fun aA=>Zf (X0n (zs:=(Zc4 d Ad md cd Bd dd)) O O) ?_;rintro _ w1 ⟨b4,rfl,aB,e,c⟩;have aJ:=Q0 b.size aB;have b:=btr b e;refine Zf (X0n (zs:=[vi p]) O O) ?_;rintro _ w2 ⟨b5,rfl,aC,e,f⟩;have aK:=Q0 b.size aC;have c:=c.bw e;have b:=btr b e;refine Zf (X0n (zs:=[vi q]) O O) ?_;rintro _ w3 ⟨b6,rfl,aD,e,aE⟩;have a7:b5≠b6:=by have:=f.lt;omega
 have aL:=Q0 b.size aD;have ⟨c,f,b⟩:=mv3 e c f b;refine Za O<|Zx aA fun a hf _ aF=>Ze (Vd O X02 2)<|Ze (X0 O X1f (c.at 2))<|Ze (X4w (vs:=[(pZ9 b5),(pZ9 b6)]) O)<|Zf (Vc (Xzt _ Bd dd d.ws (a6.bx b).top 114 [(pZ9 b5),(pZ9 b6)] Xx7 (isW p q) (fun x w' hE'=>Y8f w' x p q _ _ (f.bw hE') (aE.bw hE')) a8) Xl1) ?_;rintro _ w4 ⟨rfl,e⟩;have b:=btr b e;refine Za O<|Zt aF fun a hf=>Q6 (X6 hf (Xq hf O O) ?_);exact ⟨O,b⟩
def X8a(f:World)(d:Dg)(md:Nat)(a8:md=d.ns.length)(Ad:Option Addr)(cd:Nat)(aA:Rw f 85 encNd Ad d.ns)(Bd:Option Addr)(dd:Nat)(g:Rw f 99 encWr Bd d.ws)(aB:d.ws.length<=dd)(p:Int)(q:Int)(aE:d.ws.length<=1000000000):RE 48 [.agg #[vi d.n,.slice Ad md cd,.slice Bd d.ws.length dd,vi d.t,vi d.r],vi p,vi q] f (fun v w=>v=vi (tyW d.ws p q)/\Bl f w):=by
 have aM:=Xaf d.ws p q;have aF:∀ x:Bool,(if x=true then (1:Int) else 0)=0∨(if x=true then (1:Int) else 0)=1:=fun x=>by cases x;exact .inl O;exact .inr O
 refine enter func48 O 22 O O ?_;intro a b;have c:=bz f;refine ZS b fun aG=>Zf (X0n (zs:=(Zc4 d Ad md cd Bd dd)) O O) ?_;rintro _ w1 ⟨b4,rfl,aH,hE,e⟩;have aN:=Q0 c.size aH;have c:=btr c hE;refine Za O<|Zx aG fun a b _ aI=>Ze (Vn X2 e)<|Zm O<|Zm O<|Zf (Vc (Xju _ d md a8 Ad cd (aA.bx c).top Bd dd (g.bx c).top aB p q aE) Xb1) ?_;rintro _ w2 ⟨rfl,hE⟩;have e:=e.bw hE;have c:=btr c hE;refine Za O<|ZX aI fun a b _ aJ=>ZS b fun aK=>Zm O<|Ze (X16 O O)<|Zt aK fun a b=>X0y b O (fun aC a6=>?_) (fun aC a6=>?_)
 ·have hz:tyW d.ws p q=0:=by unfold tyW;exact Q4 (by simpa using a6)
  exact ZS b fun aL=>Za O<|Zt aL fun a b=>Q6<|X9<|X6 b (Xq b O O)<|⟨by rw[hz],c⟩
 have aO:0<=fdW d.ws p q:=by have h9:=a6;simp at h9;omega
 have hz:tyW d.ws p q=1+(if (d.ws.getD (fdW d.ws p q).toNat wZ).h=true then 1 else 0):=by unfold tyW;rw[Q3 Z];cases (d.ws.getD (fdW d.ws p q).toNat wZ).h<;>rfl
 have aP:=aF (d.ws.getD (fdW d.ws p q).toNat wZ).h;refine Q7<|aJ _ _<|ZS b fun aD=>Ze (Vd O X02 2)<|Ze (X0 O X1f (e.at 2))<|Zm O<|Zi (k:=(fdW d.ws p q).toNat) (u:=(d.ws.getD (fdW d.ws p q).toNat wZ)) (enc:=encWr) (l:=d.ws) tv0 O O X0a X14 X0d (g.bx c) (Xg Z) Z ?_;intro aQ a7;refine Ze (X2u O X7i)<|Ze (X0 O X7a (a7.drop 2))<|Zf (Vc (F59 _ ((d.ws.getD (fdW d.ws p q).toNat wZ).h)) Xgr) ?_;rintro _ _ ⟨rfl,rfl⟩;refine Ze (Xr O O Z Z)<|Za O<|Zt aD fun a b=>Q6 (X6 b (Xq b O O) ?_);exact ⟨by rw[hz],c⟩
theorem X88(e:World)(d:Dg)(md:Nat)(f:md=d.ns.length)(Ad:Option Addr)(cd:Nat)(a6:Rw e 85 encNd Ad d.ns)(Bd:Option Addr)(dd:Nat)(aD:Rw e 99 encWr Bd d.ws)(aE:d.ws.length<=dd)(p:Int)(hN:md<=1000):RE 139 [.agg #[vi d.n,.slice Ad md cd,.slice Bd d.ws.length dd,vi d.t,vi d.r],vi p] e (fun v w=>v=.bool (spI d.ns p)/\Bl e w):=by
 refine enter func139 O 20 O O ?_;intro a c
 have hW:=bz e
 refine ZS c fun aA=>Zf (X0n (zs:=[vi d.n,.slice Ad md cd,.slice Bd d.ws.length dd,vi d.t,vi d.r]) O O) ?_;rintro _ w1 ⟨b4,rfl,aB,hE,a7⟩;have aF:=Q0 hW.size aB;have hW:=btr hW hE;refine Za O<|ZX aA fun a c _ aC=>X0i (fun a w=>Fr a 20 [(4,.bool ((inR p 0 ((md:Int)-1))&&(((d.ns.getD p.toNat nZ).k)==3)))]/\w1=w) ?_ ?_
 ·refine Zr c<|Zm O<|Ze (Vd O Xn 1)<|Ze (X0 O X0f (a7.at 1))<|Ze (X0w O X00)<|Ze (X1j O O Z Z)<|Zf (Vc (F91 _ p 0 ((md:Int)-1)) X55) ?_;rintro _ _ ⟨rfl,rfl⟩;refine Zm O<|Zg 11 O ?_ ?_<;>intro b
  ·have aG:=X11.1 b;refine Zv (gW b) (Vd O Xn 1) ?_;refine Zv (gW b) (X0 O X0f (a7.at 1)) ?_;refine Zv (gW b) (X5 O) ?_;refine Zj (k:=p.toNat) (u:=(d.ns.getD p.toNat nZ)) (enc:=encNd) (l:=d.ns) ⟨_,_,O,O,b⟩ O f O X00 X0o X03 (a6.bx hW) (Xg Z) Z ?_;intro p8 a8;refine Zv (gW b) (X2u O X1v) ?_;refine Zv (gW b) (X0 O X8 (a8.drop 0)) ?_;refine Zv (gW b) (X0l O O) ?_;refine Ze (Xc O b O)<|Za O ?_;refine Zn fun a c=>?_;exact ⟨c.sub ⟨X1 O (by first|rfl|(simp only[b,bs];done)|simp[b]),trivial⟩,O⟩
  (iterate 7 refine Zp (gP b) ?_);exact Ze (Xi O b O)<|Za O<|Zn fun a c=>⟨c.sub ⟨X1 O (by simp[b]),trivial⟩,O⟩
 rintro a _ ⟨c,rfl⟩;refine aC _ _<|Q6 (X6 c (Xq c O O) ?_)
 exact ⟨by unfold spI;rw[f],hW⟩
def Xbj(x:World)(d:Dg)(md:Nat)(aP:md=d.ns.length)(Ad:Option Addr)(cd:Nat)(aQ:Rw x 85 encNd Ad d.ns)(Bd:Option Addr)(dd:Nat)(a8:Rw x 99 encWr Bd d.ws)(i:d.ws.length<=dd)(p:Int)(aT:d.ws.length<=1000000000):RE 103 [.agg #[vi d.n,.slice Ad md cd,.slice Bd d.ws.length dd,vi d.t,vi d.r],vi p] x (fun v w=>v=vi (cnW d.ws p)/\Bl x w):=by
 refine enter func103 O 29 O O ?_;intro a f
 have j:=bz x
 refine ZS f fun aG=>Zf (X0n (zs:=(Zc4 d Ad md cd Bd dd)) O O) ?_;rintro _ w1 ⟨b4,rfl,aH,hE,aI⟩;have aR:=Q0 j.size aH;have j:=btr j hE;refine Za O<|Zx aG fun a f _ aJ=>Za O<|ZX aJ fun a f _ aK=>ZS f fun aL=>Ze (Vd O X02 2)<|Ze (X0 O X1f (aI.at 2))<|Ze (X0w O X0a)<|Zm O<|Zt aL fun a f=>Q8<|X04 (σ:=Nat×Int) (fun (s:Nat×Int) (a:Act) (w:World)=>match s with|(k,c)=>Fr a 29 [(1,vi p),(5,vi c),(9,.slice Bd d.ws.length dd),(10,vi (d.ws.length:Int)),(11,vi (k:Int))]/\(k<=d.ws.length)/\(c=cnW (d.ws.take k) p)/\d.ws.length<=dd/\Bl x w) (fun (s:Nat×Int)=>match s with|(k,c)=>d.ws.length-k) (0,0) ?_ ?_
 ·exact ⟨f.sb,(Qf _),O,i,j⟩
 rintro ⟨k,c⟩ a w2 ⟨f,hk,hc,i,j⟩;have aA:=Xk9 d.ws p k
 rw[<- hc] at aA
 refine ZS f fun aM=>Ze (X16 O O)<|ZX aM fun a f _ aN=>X0y f O (fun g m=>?_) (fun g m=>?_)
 ·obtain ⟨aU,aS⟩:=Xa (l:=d.ws) (k:=k) Z
  obtain ⟨y,a6⟩:=Xa (l:=d.ws) (k:=k) (by have:=m;omega)
  have aA:=Xk9 d.ws p k;refine Q7<|aN _ _<|Q5 fun _ A=>Q8<|ZS f fun aB=>Zi (k:=k) (u:=y) (enc:=encWr) (l:=d.ws) tv0 O O X0a X14 X0d (a8.bx j) a6 O ?_;intro aV a7;refine Ze (X07 (l:=[vi y.a,vi y.b,.bool y.h]) O X23 a7 O)<|ZB [vi y.a,vi y.b,.bool y.h] X4a X14 fun aW w4 aC hE B=>?_;have aO:=Q0 j.size aC;have j:=btr j hE;refine ZX aB fun a f _ aD=>X0i (fun a w=>Fr a 29 [(1,vi p),(5,vi c),(9,.slice Bd d.ws.length dd),(10,vi (d.ws.length:Int)),(11,vi (k:Int)),(24,.bool ((y.a==p)||(y.b==p)))]/\w4=w) ?_ ?_
  ·refine Zr f<|Ze (Vd O X1l 0)<|Ze (X0 O X8 (B.at 0))<|Zm O<|Ze (X0l O O)<|Zm O<|Zg 19 O ?_ ?_<;>intro e
   ·(iterate 4 refine Zp (gP e) ?_);exact Ze (Xc O e O)<|Zn fun a f=>⟨f.sub ⟨O,O,O,O,O,X1 O (by simp[g,e]),trivial⟩,O⟩
   refine Zv (gW e) (Vd O X1p 1) ?_;refine Zv (gW e) (X0 O X8 (B.at 1)) ?_;refine Zv (gW e) (X5 O) ?_;refine Zv (gW e) (X0l O O) ?_;refine Ze (Xi O e O) ?_;exact Zn fun a f=>⟨f.sub ⟨O,O,O,O,O,X1 O (by first|rfl|(simp only[g,e,bs];done)|simp[g,e]),trivial⟩,O⟩
  rintro a _ ⟨f,rfl⟩;refine aD _ _<|Xx f O ?_ ?_<;>intro o
  ·have q:=Y9e a6 o
   rw[<- hc] at q
   exact Zr f<|Zm O<|Ze (Xr O O Z Z)<|Za O<|Zn fun a f=>Xd<|A _ _<|Zr f<|Ze (Xr O O Z Z)<|Zm O<|Zn fun a f=>Xh<|⟨(k+1,c+1),⟨f.sb,Z,(by rw[q]),i,j⟩,O1⟩
  have q:=Y9d a6 o
  rw[<- hc] at q
  exact Q7<|Xd<|A _ _<|Zr f<|Ze (Xr O O Z Z)<|Zm O<|Zn fun a f=>Xh<|⟨(k+1,c),⟨f.sb,Z,(by rw[q]),i,j⟩,O1⟩
 have aE:c=cnW d.ws p:=by rw[hc,Qi (by have:=m;omega)]
 refine Q9<|Xk<|Xk<|X06<|aK _ _<|ZS f fun aF=>Zm O<|Za O<|Zt aF fun a f=>Q6 (X6 f (Xq f O O) ?_)
 exact ⟨by rw[aE],j⟩
def Y85(j:World)(Al:Option Addr)(cl:Nat)(l:List Nd)(aA:Rw j 85 encNd Al l)(x:Nd)(aP:l.length<=1000000000):RE 84 [.slice Al l.length cl,.agg #[vi x.k,vi x.p]] j (fun v w=>v=vi (fnI l x)/\Bl j w):=by
 refine enter func84 O 19 O O ?_;intro a b;have d:=bz j;refine ZS b fun aH=>Zf (X0n (zs:=[vi x.k,vi x.p]) O O) ?_;rintro _ w1 ⟨b3,rfl,aI,hE,c⟩;have aO:=Q0 d.size aI;have d:=btr d hE;refine Za O<|ZX aH fun a b _ aJ=>ZS b fun aK=>Zm O<|Ze (X0w O X00)<|Zm O<|Zt aK fun a b=>Q8<|X04 (σ:=Nat) (fun (k:Nat) (a:Act) (w:World)=>Fr a 19 [(0,.slice Al l.length cl),(3,(pZ9 b3)),(7,vi (l.length:Int)),(8,vi (k:Int))]/\(k<=l.length)/\(((l.take k).all fun y=>!decide (x=y))=true)/\Blk w b3 85 [vi x.k,vi x.p]/\Bl j w) (fun (k:Nat)=>l.length-k) 0 ?_ ?_
 ·exact ⟨b.sb,(Qf _),O,c,d⟩
 intro k a w2 ⟨b,hk,e,c,d⟩;refine ZS b fun aL=>Ze (X16 O O)<|ZX aL fun a b _ aM=>X0y b O (fun aB a6=>?_) (fun aB a6=>?_)
 ·have ⟨u9,i⟩:=Xa (l:=l) (k:=k) Z;have ⟨u9,i⟩:=Xa (l:=l) (k:=k) (by have:=a6;omega);refine Q7<|aM _ _<|Q5 fun _ aC=>Q8<|ZS b fun aD=>Zm O<|Za O<|ZX aD fun a b _ aE=>Xy none (fun _=>false) mixed ?_;intro w3 hE;have c:=c.bw hE;have d:=btr d hE;refine Yb b<|Ye 0 O (Vn X44 c)<|YA 1 O O<|YA 2 O O<|Yi (k:=k) (u:=u9) (enc:=encNd) (l:=l) 3 O tv0 O O X00 X0o X03 (aA.bx d) i O ?_;intro aQ a7;refine Ye 4 O (X07 (l:=[vi u9.k,vi u9.p]) O X44 a7 O)<|Yo 5 O (fun _=>Y8u O O Xxl (fun w=>Xvd 9998 x u9 w))<|Yd fun a b=>aE _ _<|X0y b O (fun a8 f=>?_) (fun a8 f=>?_)
  ·have g:fnI l x=(k:Int):=Xc9 e i (by simpa using f);exact ZS b fun aF=>Zm O<|Za O<|Zt aF fun a b=>Q6<|Xu<|X9<|X9<|Xu<|X9<|X6 b (Xq b O O)<|⟨by rw[g],d⟩
  have aN:=X91 (q:=fun y=>decide (x=y)) e i (by simpa using f);exact Q7<|Xd<|aC _ _<|Zr b<|Ze (Xr O O Z Z)<|Zm O<|Zn fun a b=>Xh<|⟨k+1,⟨b.sb,Z,aN,c,d⟩,Z⟩
 have g:fnI l x = -1:=Xca e (by have:=a6;omega);refine Q9<|Xk<|Xk<|X06<|aJ _ _<|ZS b fun aG=>Za O<|Zt aG fun a b=>Q6 (X6 b (Xq b O O) ?_);exact ⟨by rw[g],d⟩
def Y7u(w0:World)(n:Int)(x:Nd)(hn:1<=n/\n<=1000):RE 100 [vi n,.agg #[vi x.k,vi x.p]] w0 (fun v w=>v=.bool (nokI n x)/\Bl w0 w):=by
 refine enter func100 O 25 O O ?_;intro a b;have i:=bz w0;refine ZS b fun aE=>Zf (X0n (zs:=[vi x.k,vi x.p]) O O) ?_;rintro _ w1 ⟨b2,rfl,aF,hE,e⟩;have aL:=Q0 i.size aF;have i:=btr i hE;refine Za O<|ZX aE fun a b _ aG=>ZS b fun aH=>Ze (Vd O X1v 0)<|Ze (X0 O X8 (e.at 0))<|Zt aH fun a b=>Q8<|ZS b fun aI=>Ze (X0l O O)<|Za O<|Zt aI fun a b=>Xx b O ?_ ?_<;>intro a6
 ·have c:nokI n x=_:=Q4 a6;exact ZS b fun aJ=>Ze (Vd O X0m 1)<|Ze (X0 O X8 (e.at 1))<|Ze (X0l O O)<|Za O<|Zt aJ fun a b=>Q6<|Xu<|X9<|X6 b (Xq b O O)<|⟨by rw[c],i⟩
 have g0:=a6;refine Q5 fun _ a7=>ZS b fun aK=>Ze (X0l O O)<|Za O<|Zt aK fun a b=>Xx b O ?_ ?_<;>intro d
 ·have c:nokI n x=inR x.p 0 (n-1):=by unfold nokI;rw[g0,d];rfl
  refine Q7<|a7 _ _<|Xej b (X1 O d)<|ZS b fun a8=>Ze (Vd O X0m 1)<|Ze (X0 O X8 (e.at 1))<|Zm O<|Ze (X1j O O Z Z)<|Zf (Vc (F91 _ x.p 0 (n-1)) X55) ?_;rintro _ _ ⟨rfl,rfl⟩;exact Za O<|Zt a8 fun a b=>Q6<|Xu<|X9<|X6 b (Xq b O O)<|⟨by rw[c],i⟩
 have g1:=d;refine Zr b<|Ze (X0l O O)<|Za O<|Zt a7 fun a b=>Xx b O ?_ ?_<;>intro f
 ·have c:nokI n x=inR x.p 0 (n-1):=by unfold nokI;rw[g0,g1,f];rfl
  refine ZS b fun aA=>Ze (Vd O X0m 1)<|Ze (X0 O X8 (e.at 1))<|Zm O<|Ze (X1j O O Z Z)<|Zf (Vc (F91 _ x.p 0 (n-1)) X55) ?_;rintro _ _ ⟨rfl,rfl⟩;exact Za O<|Zt aA fun a b=>Q6<|Xu<|X9<|X6 b (Xq b O O)<|⟨by rw[c],i⟩
 have g2:=f;refine ZS b fun aB=>Ze (X0l O O)<|Za O<|Zt aB fun a b=>Xx b O ?_ ?_<;>intro g
 ·have c:nokI n x=inR x.p 0 7:=by unfold nokI;rw[g0,g1,g2,g];rfl
  refine ZS b fun aC=>Ze (Vd O X0m 1)<|Ze (X0 O X8 (e.at 1))<|Zf (Vc (F91 _ x.p 0 7) X55) ?_;rintro _ _ ⟨rfl,rfl⟩;exact Za O<|Zt aC fun a b=>Q6<|Xu<|X9<|X6 b (Xq b O O)<|⟨by rw[c],i⟩
 have c:nokI n x=false:=by unfold nokI;rw[g0,g1,g2,g];rfl
 refine Q7<|Xd<|aG _ _<|ZS b fun aD=>Za O<|Zt aD fun a b=>Q6 (X6 b (Xq b O O) ?_);exact ⟨by rw[c],i⟩
def Xzs(w0:World)(Al:Option Addr)(cl:Nat)(l:List Int)(a8:Rw w0 3 encI Al l)(aM:l.length<=1000000000):RE 129 [.slice Al l.length cl] w0 (fun v w=>v=vi (orI l)/\w0=w):=by
 have d:w0=w0:=rfl;refine enter func129 O 18 O O ?_;intro a b;have hW:=bz w0;refine ZS b fun aG=>Za O<|Zx aG fun a b _ aH=>Za O<|ZX aH fun a b _ aI=>ZS b fun aJ=>Zm O<|Ze (X0w O Xp)<|Zm O<|Zt aJ fun a b=>Q8<|X04 (σ:=Nat) (fun (k:Nat) (a:Act) (w:World)=>Fr a 18 [(3,vi 0),(6,.slice Al l.length cl),(7,vi (l.length:Int)),(8,vi (k:Int))]/\(k<=l.length)/\(∀ x ∈ l.take k,x=0)/\w0=w/\Bl w0 w) (fun (k:Nat)=>l.length-k) 0 ?_ ?_
 ·exact ⟨b.sb,(Qf _),O4,d,hW⟩
 intro k a w1 ⟨b,hk,c,d,hW⟩;refine ZS b fun aK=>Ze (X16 O O)<|ZX aK fun a b _ aL=>X0y b O (fun aA a6=>?_) (fun aA a6=>?_)
 ·have ⟨u9,g⟩:=Xa (l:=l) (k:=k) Z;have ⟨u9,g⟩:=Xa (l:=l) (k:=k) (by have:=a6;omega);refine Q7<|aL _ _<|Q5 fun _ aB=>Q8<|ZS b fun aC=>Zi (k:=k) (u:=u9) (enc:=encI) (l:=l) tv0 O O Xp X0p Xj (a8.bx hW) g O ?_;intro aN a7;refine Ze (X0 O X8 a7)<|Za O<|Zx aC fun a b _ aD=>Zm O<|Zm O<|Ze (X28 O O)<|Zt aD fun a b=>Xx b O ?_ ?_<;>intro e
  ·have f:orI l=u9:=Y1r c g (by simpa using e);exact ZS b fun aE=>Zm O<|Za O<|Zt aE fun a b=>Q6<|Xu<|X9<|X9<|Xu<|X9<|X6 b (Xq b O O)<|⟨by rw[f],d⟩
  have aO:u9=0:=by have h9:=e;simpa using h9
  exact Q7<|Xd<|aB _ _<|Zr b<|Ze (Xr O O Z Z)<|Zm O<|Zn fun a b=>Xh<|⟨k+1,⟨b.sb,Z,(fun x hx=>by rw[Qt,g] at hx;rcases Qu.1 hx with hx|hx;exact c x hx;simp at hx;omega),d,hW⟩,Z⟩
 have f:orI l=0:=Yb0 (by rw[Qi (by have:=a6;omega)] at c;exact c);refine Q9<|Xk<|Xk<|X06<|aI _ _<|ZS b fun aF=>Zm O<|Za O<|Zt aF fun a b=>Q6 (X6 b (Xq b O O) ?_);exact ⟨by rw[f],d⟩
def Y7w(w0:World)(x:Wr)(y:Wr):RE 102 [.agg #[vi x.a,vi x.b,.bool x.h],.agg #[vi y.a,vi y.b,.bool y.h]] w0 (fun v w=>v=vi (cmW x y)/\Bl w0 w):=by
 refine enter func102 O 17 O O ?_;intro a hf;have d:=bz w0;refine ZS hf fun a8=>Zf (X0n (zs:=[vi x.a,vi x.b,.bool x.h]) O O) ?_;rintro _ w1 ⟨b2,rfl,aA,e,c⟩;have aE:=Q0 d.size aA;have d:=btr d e;refine Zf (X0n (zs:=[vi y.a,vi y.b,.bool y.h]) O O) ?_;rintro _ w2 ⟨b3,rfl,aB,e,f⟩;have a7:b2≠b3:=by have:=c.lt;omega
 have aF:=Q0 d.size aB;have c:=c.bw e;have d:=btr d e;refine Za O<|ZX a8 fun a hf _ aC=>Xy none (fun _=>false) mixed ?_;intro w3 e;have ⟨c,f,d⟩:=mv3 e c f d;refine Yb hf<|Yo 0 O (fun _=>Vd O X1l 0)<|Ye 1 O (X0 O X8 (c.at 0))<|Yo 2 O (fun _=>Vd O X1l 0)<|Ye 3 O (X0 O X8 (f.at 0))<|Yo 5 O (fun _=>Vd O X1p 1)<|Ye 6 O (X0 O X8 (c.at 1))<|Yo 7 O (fun _=>Vd O X1p 1)<|Ye 8 O (X0 O X8 (f.at 1))<|Y1 4<|Yz O tv0 (Vc (Xjn _ x.a y.a) Xau) ?_;refine Y1 9<|Yz O tv0 (Vc (Xjn _ x.b y.b) Xau)<|Y1 10<|Yk O tv0 (Xe (k:=2) (vs:=[vi (cmI x.a y.a),vi (cmI x.b y.b)]) (zs:=[vi (cmI x.a y.a),vi (cmI x.b y.b)]) O Xp X21 O O) (fun _ _ ⟨_,_,_,h,_⟩=>h) ?_;rintro _ w4 ⟨b5,rfl,aD,e,a6⟩;have aG:=Q0 d.size aD;have d:=btr d e;refine Y1 11<|Yz O tv0 (Vc (Xzs _ (some ⟨b5,0,none⟩) 2 ([cmI x.a y.a,cmI x.b y.b]) (Rd.of_blk a6 O _ a6.lt) O4) Xl0)<|YD 12 O O<|Yd fun a hf=>aC _ _<|Q6 (X6 hf (Xq hf O O) ?_);exact ⟨by rw[Y0g],d⟩
def Xjp(b:World)(d:Dg)(md:Nat)(a6:md=d.ns.length)(Ad:Option Addr)(cd:Nat)(a7:Rw b 85 encNd Ad d.ns)(Bd:Option Addr)(dd:Nat)(aD:Rw b 99 encWr Bd d.ws)(aE:d.ws.length<=dd)(p:Int)(q:Int)(hN:md<=1000000000):RE 49 [.agg #[vi d.n,.slice Ad md cd,.slice Bd d.ws.length dd,vi d.t,vi d.r],vi p,vi q] b (fun v w=>v=vi (fnI d.ns ⟨p,q⟩)/\Bl b w):=by
 subst a6;refine enter func49 O 13 O O ?_;intro a hf;have hW:=bz b;refine ZS hf fun a8=>Zf (X0n (zs:=[vi d.n,.slice Ad d.ns.length cd,.slice Bd d.ws.length dd,vi d.t,vi d.r]) O O) ?_;rintro _ w1 ⟨b4,rfl,aA,hE,aB⟩;have aF:=Q0 hW.size aA;have hW:=btr hW hE;refine Za O<|Zx a8 fun a hf _ aC=>Ze (Vd O Xn 1)<|Ze (X0 O X0f (aB.at 1))<|Zm O<|Zm O<|Ze (X0k (ps:=[(0,vi p),(1,vi q)]) (cs:=[vi p,vi q]) O (fun _=>by first|rfl|kernel_rfl))<|Zf (Vc (Y85 _ Ad cd d.ns (a7.bx hW).top (⟨p,q⟩ : Nd) hN) Xwx) ?_;rintro _ w2 ⟨rfl,hE⟩;have hW:=btr hW hE;refine Za O<|Zt aC fun a hf=>Q6 (X6 hf (Xq hf O O) ?_);exact ⟨O,hW⟩
def Y7v(B:World)(d:Dg)(md:Nat)(C:md=d.ns.length)(Ad:Option Addr)(cd:Nat)(D:Rw B 85 encNd Ad d.ns)(Bd:Option Addr)(dd:Nat)(M:Rw B 99 encWr Bd d.ws)(o:d.ws.length<=dd)(hN:md<=1000)(hn:1<=d.n/\d.n<=1000):RE 101 [.agg #[vi d.n,.slice Ad md cd,.slice Bd d.ws.length dd,vi d.t,vi d.r]] B (fun v w=>v=.bool (heD d)/\Bl B w):=by
 refine enter func101 O 46 O O ?_;intro a b
 have x:=bz B
 refine ZS b fun aL=>Zf (X0n (zs:=(Zc4 d Ad md cd Bd dd)) O O) ?_;rintro _ w1 ⟨b4,rfl,aM,h,m⟩;have aX:=Q0 x.size aM;have x:=btr x h;refine Za O<|Zx aL fun a b _ aN=>Za O<|ZX aN fun a b _ aO=>ZS b fun aP=>Ze (Vd O Xn 1)<|Ze (X0 O X0f (m.at 1))<|Ze (X0w O X00)<|Zm O<|Zt aP fun a b=>Q8<|X04 (σ:=Nat×Int) (fun (s:Nat×Int) (a:Act) (w:World)=>match s with|(k,c)=>Fr a 46 [(1,(pZ9 b4)),(3,vi c),(8,.slice Ad md cd),(9,vi (md:Int)),(10,vi (k:Int))]/\(k<=d.ns.length)/\(c=bnI (d.ns.take k))/\Blk w b4 54 (Zc4 d Ad md cd Bd dd)/\d.ws.length<=dd/\Bl B w) (fun (s:Nat×Int)=>match s with|(k,c)=>d.ns.length-k) (0,0) ?_ ?_
 ·exact ⟨b.sb,(Qf _),O,m,o,x⟩
 rintro ⟨k,c⟩ a w2 ⟨b,hk,hc,m,o,x⟩;have aQ:=Y99 d.ns k
 rw[<- hc] at aQ
 refine ZS b fun aR=>Ze (X16 O O)<|ZX aR fun a b _ aS=>X0y b O (fun g E=>?_) (fun g E=>?_)
 ·obtain ⟨u9,a6⟩:=Xa (l:=d.ns) (k:=k) (by have:=E;omega)
  refine Q7<|aS _ _<|Q5 fun _ N=>Q8<|ZS b fun a8=>Zj (k:=k) (u:=u9) (enc:=encNd) (l:=d.ns) tv0 O C O X00 X0o X03 (D.bx x) a6 Z ?_;intro aY a7;refine Ze (X07 (l:=[vi u9.k,vi u9.p]) O X44 a7 O)<|ZB [vi u9.k,vi u9.p] Xab X0o fun aZ w4 aA h Q=>?_;have aT:=Q0 x.size aA;have m:=m.bw h;have x:=btr x h;refine ZX a8 fun a b _ aB=>X0i (fun a w=>Fr a 46 [(1,(pZ9 b4)),(3,vi c),(8,.slice Ad md cd),(9,vi (md:Int)),(10,vi (k:Int)),(21,.bool ((u9.k==1)||(u9.k==2)))]/\w4=w) ?_ ?_
  ·refine Zr b<|Ze (Vd O X1v 0)<|Ze (X0 O X8 (Q.at 0))<|Ze (X0l O O)<|Zm O<|Zg 17 O ?_ ?_<;>intro f
   ·(iterate 3 refine Zp (gP f) ?_);exact Ze (Xc O f O)<|Zn fun a b=>⟨b.sub ⟨O,O,O,O,O,X1 O (by simp[g,f]),trivial⟩,O⟩
   refine Zv (gW f) (Vd O X1v 0) ?_;refine Zv (gW f) (X0 O X8 (Q.at 0)) ?_;refine Zv (gW f) (X0l O O) ?_;refine Ze (Xi O f O) ?_;exact Zn fun a b=>⟨b.sub ⟨O,O,O,O,O,X1 O (by first|rfl|(simp only[g,f,bs];done)|simp[g,f]),trivial⟩,O⟩
  rintro a _ ⟨b,rfl⟩;refine aB _ _<|Xx b O ?_ ?_<;>intro G
  ·have H:=Ydf a6 G
   rw[<- hc] at H
   exact Zr b<|Zm O<|Ze (Xr O O Z Z)<|Za O<|Zn fun a b=>Xd<|N _ _<|Zr b<|Ze (Xr O O Z Z)<|Zm O<|Zn fun a b=>Xh<|⟨(k+1,c+1),⟨b.sb,Z,(by rw[H]),m,o,x⟩,O1⟩
  have H:=Yde a6 G
  rw[<- hc] at H
  exact Q7<|Xd<|N _ _<|Zr b<|Ze (Xr O O Z Z)<|Zm O<|Zn fun a b=>Xh<|⟨(k+1,c),⟨b.sb,Z,(by rw[H]),m,o,x⟩,O1⟩
 have aU:c=bnI d.ns:=by rw[hc,Qi (by have:=E;omega)]
 refine Q9<|Xk<|Xk<|X06<|aO _ _<|Q5 fun _ aC=>ZS b fun aD=>Ze (Vd O X3i 0)<|Ze (X0 O X8 (m.at 0))<|Zm O<|Zt aD fun a b=>Q8<|X04 (σ:=Nat) (fun (j:Nat) (a:Act) (w:World)=>Fr a 46 [(1,(pZ9 b4)),(3,vi c),(26,vi d.n),(27,vi (j:Int))]/\((j:Int)<=d.n)/\(∀ i:Nat,i<j->heQ d i=true)/\Blk w b4 54 (Zc4 d Ad md cd Bd dd)/\d.ws.length<=dd/\Bl B w) (fun (j:Nat)=>d.n.toNat-j) 0 ?_ ?_
 ·exact ⟨b.sb,Z,(fun i hi=>by omega),m,o,x⟩
 rintro j a w5 ⟨b,hj,U,m,o,x⟩;refine ZS b fun aE=>Ze (X16 O O)<|ZX aE fun a b _ aF=>X0y b O (fun y I=>?_) (fun y I=>?_)
 ·have b0:=I;refine Q7<|aF _ _<|Q5 fun _ aG=>Q8<|ZS b fun aH=>Zm O<|Za O<|ZX aH fun a b _ aI=>X0i (fun a w=>Fr a 46 [(1,(pZ9 b4)),(3,vi c),(26,vi d.n),(27,vi (j:Int)),(39,.bool ((decide ((fnI d.ns ⟨1,(j:Int)⟩)<0))||(decide ((fnI d.ns ⟨2,(j:Int)⟩)<0))))]/\Bl w5 w) ?_ ?_
  ·have A:Bl w5 w5:=Below.refl _ _
   refine Zr b<|Ze (Vn X2 m)<|Zm O<|Zf (Vc (Xjp _ d md C Ad cd (D.bx x).top Bd dd (M.bx x).top o 1 (j:Int) Z) Xaw) ?_;rintro _ w6 ⟨rfl,h⟩;have ⟨m,x,A⟩:=mv3 h m x A;refine Ze (X16 O O)<|Zm O<|Zg 34 O ?_ ?_<;>intro e
   ·(iterate 4 refine Zp (gP e) ?_);exact Ze (Xc O e O)<|Zn fun a b=>⟨b.sub ⟨O,O,O,O,X1 O (by simp[g,y,e]),trivial⟩,A⟩
   refine Zv (gW e) (Vn X2 m) ?_;refine Zv (gW e) (X5 O) ?_;refine Zk (gW e) (Vc (Xjp _ d md C Ad cd (D.bx x).top Bd dd (M.bx x).top o 2 (j:Int) Z) Xaw) ?_;rintro _ w7 ⟨rfl,h⟩;have x:=btr x h;have A:=btr A h;refine Zv (gW e) (X16 O O) ?_;refine Ze (Xi O e O) ?_;exact Zn fun a b=>⟨b.sub ⟨O,O,O,O,X1 O (by first|rfl|(simp only[g,y,e,bs];done)|simp[g,y,e]),trivial⟩,A⟩
  rintro a w8 ⟨b,h⟩;have m:=m.bw h;have x:=btr x h;refine aI _ _<|Xx b O ?_ ?_<;>intro J
  ·have L:heD d=false:=by unfold heD;rw[Xft (q:=heQ d) (k:=j) Z (by unfold heQ;rw[J];rfl),Bool.false_and]
   exact ZS b fun aJ=>Za O<|Zt aJ fun a b=>Q6<|Xu<|X9<|X9<|Xu<|X9<|X6 b (Xq b O O)<|⟨by rw[L],x⟩
  have aV:heQ d j=true:=by unfold heQ;rw[J];rfl
  exact Q7<|Xd<|aG _ _<|Zr b<|Ze (Xr O O Z Z)<|Zm O<|Zn fun a b=>Xh<|⟨j+1,⟨b.sb,Z,(fun i hi=>by by_cases h9:i=j;rw[h9];exact aV;exact U i Z),m,o,x⟩,Z⟩
 have aW:(List.range d.n.toNat).all (heQ d)=true:=X9m fun i hi=>U i (by have:=I;omega)
 have L:heD d=(c==2*d.n):=by unfold heD;rw[aW,Qw,aU]
 refine Q9<|Xk<|Xk<|X06<|aC _ _<|ZS b fun aK=>Zm O<|Ze (Vd O X3i 0)<|Ze (X0 O X8 (m.at 0))<|Ze (Xbn O O Z Z)<|Ze (X0l O O)<|Za O<|Zt aK fun a b=>Q6 (X6 b (Xq b O O) ?_)
 exact ⟨by rw[L],x⟩
def Y7t(w0:World)(x:Nd)(n:Int)(ba:Nat)(v1 v2 v3 v4:Value)(b:Blk w0 ba 54 [vi n,v1,v2,v3,v4])(hn:1<=n/\n<=1000):RE 99 [.agg #[vi x.k,vi x.p],(pZ9 ba)] w0 (fun v w=>v=.bool (!nokI n x)/\Bl w0 w):=by
 have a6:=b.lt;refine enter func99 O 9 O O ?_;intro a hf;have hW:=bz w0;refine ZS hf fun a7=>Zf (X0n (zs:=[vi x.k,vi x.p]) O O) ?_;rintro _ w1 ⟨b2,rfl,a8,hE,aA⟩;have aC:=Q0 hW.size a8;have b:=b.bw hE;have hW:=btr hW hE;refine Za O<|Zx a7 fun a hf _ aB=>Ze (Vd O X3i 0)<|Ze (X0 O X8 (b.at 0))<|Ze (Vn X44 aA)<|Zf (Vc (Y7u _ n x hn) Xwm) ?_;rintro _ w2 ⟨rfl,hE⟩;have hW:=btr hW hE;refine Ze (X1i O)<|Za O<|Zt aB fun a hf=>Q6 (X6 hf (Xq hf O O) ?_);exact ⟨O,hW⟩
def Y7s(b:World)(Al:Option Addr)(cl:Nat)(l:List Nd)(a6:Rw b 85 encNd Al l)(kq:FuncId)(pq:List Value)(Fq:FF kq)(q:Nd->Bool)(hq:∀ x w,Bl b w->RE kq ([ndV x]++pq) w (fun v w'=>v=.bool (q x)/\Bl w w'))(a7:l.length<=1000000000):RE 98 [.slice Al l.length cl,.func (.func kq) #[] pq.toArray] b (fun v w=>v=.bool (l.any q)/\Bl b w):=by
 refine enter func98 O 9 O O ?_;intro a hf;have hW:=bz b;refine ZS hf fun a8=>Za O<|Zx a8 fun a hf _ aA=>Zm O<|Zm O<|Zf (Vc (Y84 _ Al cl l (a6.bx hW).top kq pq Fq q (fun x w' hE'=>hq x w' (hW.trans (hE'.mono hW.size))) a7) Xww) ?_;rintro _ w1 ⟨rfl,hE⟩;have hW:=btr hW hE;refine Ze (X5q O O)<|Za O<|Zt aA fun a hf=>Q6 (X6 hf (Xq hf O O) ?_);exact ⟨by rw[Xlj],hW⟩
theorem Xoe(w0:World)(d:Dg)(md:Nat)(aT:md=d.ns.length)(Ad:Option Addr)(cd:Nat)(aA:Rw w0 85 encNd Ad d.ns)(Bd:Option Addr)(dd:Nat)(aB:Rw w0 99 encWr Bd d.ws)(a6:d.ws.length<=dd)(aD:d.ws.length<=1000000000):RE 65 [.agg #[vi d.n,.slice Ad md cd,.slice Bd d.ws.length dd,vi d.t,vi d.r]] w0 (fun v w=>v=.bool (ivD d)/\Bl w0 w):=by
 subst aT;refine enter func65 O 116 O O ?_;intro a g;have C:=bz w0;refine ZS g fun bM=>?_;refine Zf (X0n (zs:=[vi d.n,.slice Ad d.ns.length cd,.slice Bd d.ws.length dd,vi d.t,vi d.r]) O O) ?_;rintro _ w1 ⟨b4,rfl,bN,H,f⟩;have bU:=Q0 C.size bN;have C:=btr C H;refine Za O<|ZX bM fun a g _ bO=>?_;refine Q5 fun _ bP=>?_;refine X0i (fun a w=>Fr a 116 [(1,(pZ9 b4)),(39,.bool (!(inR d.n 1 5)||decide (40<(d.ns.length:Int))||!(inR d.t 0 7)||!(inR d.r (-60) 60)||(d.ns.any fun x=>!nokI d.n x)||!(heD d)))]/\Bl w1 w) ?_ ?_
 ·have q:Bl w1 w1:=Below.refl _ _;refine Zr g<|Ze (Vd O X3i 0)<|Ze (X0 O X8 (f.at 0))<|Zf (Vc (F91 _ d.n 1 5) X55) ?_;rintro _ _ ⟨rfl,rfl⟩;refine Ze (X1i O)<|Zm O ?_;refine Zg 11 O ?_ ?_<;>intro I
  ·(iterate 4 refine Zp (gP I) ?_);refine Ze (Xc O I O)<|Zm O<|Zp (gP O) ?_;(iterate 3 refine Zp (gP O) ?_);refine Ze (Xc O O O)<|Zm O<|Zp (gP O) ?_;(iterate 3 refine Zp (gP O) ?_);refine Ze (Xc O O O)<|Zm O<|Zp (gP O) ?_;(iterate 3 refine Zp (gP O) ?_);refine Ze (Xc O O O)<|Zm O<|Zp (gP O) ?_;(iterate 2 refine Zp (gP O) ?_);refine Ze (Xc O O O) ?_;refine Zn fun a g=>?_;exact ⟨g.sub ⟨O,X1 O (by first|rfl|(simp only[I,bs];done)|simp[I]),trivial⟩,q⟩
  have bQ:1<=d.n/\d.n<=5:=X11.1 (by have h8:=I;simpa using h8);refine Zv (gW I) (Vd O Xn 1) ?_;refine Zv (gW I) (X0 O X0f (f.at 1)) ?_;refine Zv (gW I) (X0w O X00) ?_;refine Zv (gW I) (X52 O O) ?_;refine Ze (Xi O I O)<|Zm O ?_;refine Zg 17 O ?_ ?_<;>intro Q
  ·(iterate 4 refine Zp (gP Q) ?_);refine Ze (Xc O Q O)<|Zm O<|Zp (gP O) ?_;(iterate 3 refine Zp (gP O) ?_);refine Ze (Xc O O O)<|Zm O<|Zp (gP O) ?_;(iterate 3 refine Zp (gP O) ?_);refine Ze (Xc O O O)<|Zm O<|Zp (gP O) ?_;(iterate 2 refine Zp (gP O) ?_);refine Ze (Xc O O O) ?_;refine Zn fun a g=>?_;exact ⟨g.sub ⟨O,X1 O (by first|rfl|(simp only[I,Q,bs];done)|simp[I,Q]),trivial⟩,q⟩
  have aU:d.ns.length<=40:=by have h8:=Q;simp at h8;omega
  refine Zv (gW Q) (Vd O X1o 3) ?_;refine Zv (gW Q) (X0 O X8 (f.at 3)) ?_;refine Zk (gW Q) (Vc (F91 _ d.t 0 7) X55) ?_;rintro _ _ ⟨rfl,rfl⟩;refine Zv (gW Q) (X1i O) ?_;refine Ze (Xi O Q O)<|Zm O ?_;refine Zg 23 O ?_ ?_<;>intro W
  ·(iterate 4 refine Zp (gP W) ?_);refine Ze (Xc O W O)<|Zm O<|Zp (gP O) ?_;(iterate 3 refine Zp (gP O) ?_);refine Ze (Xc O O O)<|Zm O<|Zp (gP O) ?_;(iterate 2 refine Zp (gP O) ?_);refine Ze (Xc O O O) ?_;refine Zn fun a g=>?_;exact ⟨g.sub ⟨O,X1 O (by first|rfl|(simp only[I,Q,W,bs];done)|simp[I,Q,W]),trivial⟩,q⟩
  refine Zv (gW W) (Vd O X0h 4) ?_;refine Zv (gW W) (X0 O X8 (f.at 4)) ?_;refine Zk (gW W) (Vc (F91 _ d.r (-60) 60) X55) ?_;rintro _ _ ⟨rfl,rfl⟩;refine Zv (gW W) (X1i O) ?_;refine Ze (Xi O W O)<|Zm O ?_;refine Zg 29 O ?_ ?_<;>intro G
  ·(iterate 4 refine Zp (gP G) ?_);refine Ze (Xc O G O)<|Zm O<|Zp (gP O) ?_;(iterate 2 refine Zp (gP O) ?_);refine Ze (Xc O O O) ?_;refine Zn fun a g=>?_;exact ⟨g.sub ⟨O,X1 O (by first|rfl|(simp only[I,Q,W,G,bs];done)|simp[I,Q,W,G]),trivial⟩,q⟩
  refine Zv (gW G) (Vd O Xn 1) ?_;refine Zv (gW G) (X0 O X0f (f.at 1)) ?_;refine Zv (gW G) (X4w (vs:=[(pZ9 b4)]) O) ?_;refine Zk (gW G) (Vc (Y7s _ Ad cd d.ns (aA.bx C).top 99 [(pZ9 b4)] Xwl (fun x=>!nokI d.n x) (fun x w' hE'=>Y7t w' x d.n _ _ _ _ _ (f.bw hE') ⟨by omega,by omega⟩) Z) Xwk) ?_;rintro _ w2 ⟨rfl,H⟩;have ⟨f,C,q⟩:=mv3 H f C q;refine Ze (Xi O G O)<|Zm O ?_;refine Zg 35 O ?_ ?_<;>intro U
  ·(iterate 3 refine Zp (gP U) ?_);refine Ze (Xc O U O) ?_;refine Zn fun a g=>?_;exact ⟨g.sub ⟨O,X1 O (by first|rfl|(simp only[I,Q,W,G,U,bs];done)|simp[I,Q,W,G,U]),trivial⟩,q⟩
  refine Zv (gW U) (Vn X2 f) ?_;refine Zk (gW U) (Vc (Y7v _ d d.ns.length O Ad cd (aA.bx C).top Bd dd (aB.bx C).top a6 Z ⟨by omega,by omega⟩) Xwn) ?_;rintro _ w3 ⟨rfl,H⟩;have C:=btr C H;have q:=btr q H;refine Zv (gW U) (X1i O) ?_;refine Ze (Xi O U O) ?_;refine Zn fun a g=>?_;exact ⟨g.sub ⟨O,X1 O (by first|rfl|(simp only[I,Q,W,G,U,bs];done)|simp[I,Q,W,G,U]),trivial⟩,q⟩
 intro a w4 ⟨g,H⟩;have f:=f.bw H;have C:=btr C H;refine bP _ _ ?_;refine Xx g O ?_ ?_<;>intro m
 ·have aC:ivD d=false:=Ydy m;refine ZS g fun aV=>?_;refine Za O<|Zt aV fun a g=>?_;refine Q6<|X9<|X6 g (Xq g O O) ?_;exact ⟨by rw[aC],C⟩
 have aW:=m;have aX:=aW;simp only[Bool.or_eq_false_iff,decide_eq_false_iff_not,Bool.not_eq_false'] at aX;have bQ:=X11.1 aX.1.1.1.1.1;have aU:d.ns.length<=40:=by omega
 refine Q7<|bO _ _<|Q5 fun _ aY=>?_;refine ZS g fun aZ=>?_;refine Ze (Vd O X02 2)<|Ze (X0 O X1f (f.at 2))<|Ze (X0w O X0a)<|Zm O<|Zt aZ fun a g=>?_;refine Q8<|X04 (σ:=Nat) (fun (k:Nat) (a:Act) (w:World)=>Fr a 116 [(1,(pZ9 b4)),(41,.slice Bd d.ws.length dd),(42,vi (d.ws.length:Int)),(43,vi (k:Int))]/\(k<=d.ws.length)/\(∀ i:Nat,i<k->wvQ d i=true)/\Blk w b4 54 [vi d.n,.slice Ad d.ns.length cd,.slice Bd d.ws.length dd,vi d.t,vi d.r]/\d.ws.length<=dd/\Bl w0 w) (fun (k:Nat)=>d.ws.length-k) 0 ?_ ?_
 ·exact ⟨g.sb,(Qf _),(fun i hi=>by omega),f,a6,C⟩
 intro k a w5 ⟨g,hk,aI,f,a6,C⟩;refine ZS g fun b0=>?_;refine Ze (X16 O O)<|ZX b0 fun a g _ b1=>?_;refine X0y g O (fun c aE=>?_) (fun c aE=>?_)
 ·have ⟨bY,bW⟩:=Xa (l:=d.ws) (k:=k) Z;have ⟨u9,aK⟩:=Xa (l:=d.ws) (k:=k) (by have:=aE;omega);have bR:=(Qg.1 aK).1;have b2:=Y23 aK;refine Q7<|b1 _ _<|Q5 fun _ b3=>?_;refine Q8<|ZS g fun b5=>?_;refine Zm O<|Zi (k:=k) (u:=u9) (enc:=encWr) (l:=d.ws) tv0 O O X0a X14 X0d (aB.bx C) aK O ?_;intro bZ aL;refine Ze (X07 (l:=[vi u9.a,vi u9.b,.bool u9.h]) O X23 aL O)<|Zf (X0b (zs:=[vi 0,vi 0,.bool false]) X4a O) ?_;rintro _ w6 ⟨cA,rfl,b6,H,a7⟩;have aM:=Q0 C.size b6;have f:=f.bw H;have C:=btr C H;refine Za O<|Zo (Vw [vi u9.a,vi u9.b,.bool u9.h] X14 a7) ?_;intro _ w7 ⟨ho,hb⟩;have f:=f.oz ho a7 O;have C:=Below.oy C ho aM;have a7:=hb;refine ZX b5 fun a g _ b7=>?_;refine X0i (fun a w=>Fr a 116 [(1,(pZ9 b4)),(41,.slice Bd d.ws.length dd),(42,vi (d.ws.length:Int)),(43,vi (k:Int)),(80,.bool (decide (u9.a<0)||decide (u9.b<=u9.a)||decide ((d.ns.length:Int)<=u9.b)||(decide (0<(k:Int))&&decide (0<=cmW (d.ws.getD (k-1) wZ) u9))))]/\Bl w7 w) ?_ ?_
  ·have q:Bl w7 w7:=Below.refl _ _;refine Xy none (fun _=>false) mixed ?_;intro w8 H;have ⟨f,a7,C,q⟩:=mv4 H f a7 C q;refine Yb g<|Yo 0 O (fun _=>Vd O X1l 0)<|Ye 1 O (X0 O X8 (a7.at 0))<|Yo 2 O (fun _=>X16 O O)<|YA 3 O O ?_;refine Yl 51 O ?_ ?_<;>intro A
   ·refine Yp 4 O (gP A) ?_;refine Yp 5 O (gP A) ?_;refine Yp 6 O (gP A) ?_;refine Yp 7 O (gP A) ?_;refine Yp 8 O (gP A) ?_;refine Yo 9 O (fun _=>Xc O A O)<|YA 10 O O<|Yp 11 O (gP O) ?_;refine Yp 12 O (gP O) ?_;refine Yp 13 O (gP O) ?_;refine Yp 14 O (gP O) ?_;refine Yp 15 O (gP O) ?_;refine Yp 16 O (gP O) ?_;refine Yo 17 O (fun _=>Xc O O O)<|YA 18 O O<|Yp 19 O (gP O) ?_;refine Yp 20 O (gP O) ?_;refine Yp 21 O (gP O) ?_;refine Yp 22 O (gP tv0) ?_;refine Yp 23 O (gP tv0) ?_;refine Yp 24 O (gP tv0) ?_;refine Yp 25 O (gP tv0) ?_;refine Yp 26 O (gP tv0) ?_;refine Yp 27 O (gP tv0) ?_;refine Yp 28 O (gP tv0) ?_;refine Y1 29<|Yq O ⟨_,_,O,O,trivial⟩ ?_;refine Yp 30 O (gP tv0) ?_;refine Yp 31 O (gP O) ?_;refine Yo 32 O (fun _=>Xc O O O) ?_;refine Yd fun a g=>?_;exact ⟨g.sub ⟨O,O,O,O,X1 O (by first|rfl|(simp only[m,c,A,bs];done)|simp[m,c,A]),trivial⟩,q⟩
   refine Yu 4 O (gW A) (fun _=>Vd O X1l 0) ?_;refine Yv 5 O (gW A) (X0 O X8 (a7.at 0)) ?_;refine Yu 6 O (gW A) (fun _=>Vd O X1p 1) ?_;refine Yv 7 O (gW A) (X0 O X8 (a7.at 1)) ?_;refine Yu 8 O (gW A) (fun _=>X5q O O) ?_;refine Yo 9 O (fun _=>Xi O A O)<|YA 10 O O ?_;refine Yl 58 O ?_ ?_<;>intro B
   ·refine Yp 11 O (gP B) ?_;refine Yp 12 O (gP B) ?_;refine Yp 13 O (gP B) ?_;refine Yp 14 O (gP B) ?_;refine Yp 15 O (gP B) ?_;refine Yp 16 O (gP B) ?_;refine Yo 17 O (fun _=>Xc O B O)<|YA 18 O O<|Yp 19 O (gP O) ?_;refine Yp 20 O (gP O) ?_;refine Yp 21 O (gP O) ?_;refine Yp 22 O (gP tv0) ?_;refine Yp 23 O (gP tv0) ?_;refine Yp 24 O (gP tv0) ?_;refine Yp 25 O (gP tv0) ?_;refine Yp 26 O (gP tv0) ?_;refine Yp 27 O (gP tv0) ?_;refine Yp 28 O (gP tv0) ?_;refine Y1 29<|Yq O ⟨_,_,O,O,trivial⟩ ?_;refine Yp 30 O (gP tv0) ?_;refine Yp 31 O (gP O) ?_;refine Yo 32 O (fun _=>Xc O O O) ?_;refine Yd fun a g=>?_;exact ⟨g.sub ⟨O,O,O,O,X1 O (by first|rfl|(simp only[m,c,A,B,bs];done)|simp[m,c,A,B]),trivial⟩,q⟩
   refine Yu 11 O (gW B) (fun _=>Vd O X1p 1) ?_;refine Yv 12 O (gW B) (X0 O X8 (a7.at 1)) ?_;refine Yu 13 O (gW B) (fun _=>Vd O Xn 1) ?_;refine Yv 14 O (gW B) (X0 O X0f (f.at 1)) ?_;refine Yu 15 O (gW B) (fun _=>X0w O X00) ?_;refine Yu 16 O (gW B) (fun _=>X5q O O) ?_;refine Yo 17 O (fun _=>Xi O B O)<|YA 18 O O ?_;refine Yl 66 O ?_ ?_<;>intro E
   ·refine Yp 19 O (gP E) ?_;refine Yp 20 O (gP E) ?_;refine Yp 21 O (gP E) ?_;refine Yp 22 O (gP tv0) ?_;refine Yp 23 O (gP tv0) ?_;refine Yp 24 O (gP tv0) ?_;refine Yp 25 O (gP tv0) ?_;refine Yp 26 O (gP tv0) ?_;refine Yp 27 O (gP tv0) ?_;refine Yp 28 O (gP tv0) ?_;refine Y1 29<|Yq O ⟨_,_,O,O,trivial⟩ ?_;refine Yp 30 O (gP tv0) ?_;refine Yp 31 O (gP E) ?_;refine Yo 32 O (fun _=>Xc O E O) ?_;refine Yd fun a g=>?_;exact ⟨g.sub ⟨O,O,O,O,X1 O (by first|rfl|(simp only[m,c,A,B,E,bs];done)|simp[m,c,A,B,E]),trivial⟩,q⟩
   refine Yu 19 O (gW E) (fun _=>X5 O) ?_;refine Yu 20 O (gW E) (fun _=>X52 O O) ?_;refine Yu 21 O (gW E) (fun _=>X5 O) ?_;refine Yl 69 O ?_ ?_<;>intro o
   ·have cB:0<k:=by have h8:=o;simpa using h8
    refine Yu 22 O (gW o) (fun _=>Vd O X02 2) ?_;refine Yv 23 O (gW o) (X0 O X1f (f.at 2)) ?_;refine Yu 24 O (gW o) (fun _=>X5 O) ?_;refine Yu 25 O (gW o) (fun _=>X1j O O Z Z) ?_;refine Yi (k:=(k-1)) (u:=(d.ws.getD (k-1) wZ)) (enc:=encWr) (l:=d.ws) 26 O ⟨_,_,O,O,o⟩ O O X0a X14 X0d (aB.bx C) (Xg Z) Z ?_;intro cC aN;refine Yv 27 O (gW o) (X07 (l:=[vi ((d.ws.getD (k-1) wZ).a),vi ((d.ws.getD (k-1) wZ).b),.bool ((d.ws.getD (k-1) wZ).h)]) O X23 aN O) ?_;refine Yv 28 O (gW o) (Vn X23 a7) ?_;refine Y1 29<|Yk O ⟨_,_,O,O,o⟩ (Vc (Y7w _ (d.ws.getD (k-1) wZ) u9) Xwo) (fun _ _ ⟨_,H⟩=>H) ?_;rintro _ w9 ⟨rfl,H⟩;have C:=btr C H;have q:=btr q H;refine Yu 30 O (gW o) (fun _=>X5q O O) ?_;refine Yu 31 O (gW E) (fun _=>Xc O o O) ?_;refine Yo 32 O (fun _=>Xi O E O) ?_;refine Yd fun a g=>?_;exact ⟨g.sub ⟨O,O,O,O,X1 O (by first|rfl|(simp only[m,c,A,B,E,o,bs];done)|simp[m,c,A,B,E,o]),trivial⟩,q⟩
   refine Yp 22 O (gP o) ?_;refine Yp 23 O (gP o) ?_;refine Yp 24 O (gP o) ?_;refine Yp 25 O (gP o) ?_;refine Yp 26 O (gP o) ?_;refine Yp 27 O (gP o) ?_;refine Yp 28 O (gP o) ?_;refine Y1 29<|Yq O ⟨_,_,O,O,o⟩ ?_;refine Yp 30 O (gP o) ?_;refine Yu 31 O (gW E) (fun _=>Xi O o O) ?_;refine Yo 32 O (fun _=>Xi O E O) ?_;refine Yd fun a g=>?_;exact ⟨g.sub ⟨O,O,O,O,X1 O (by first|rfl|(simp only[m,c,A,B,E,o,bs];done)|simp[m,c,A,B,E,o]),trivial⟩,q⟩
  intro a cD ⟨g,H⟩;have f:=f.bw H;have C:=btr C H;refine b7 _ _ ?_;refine Xx g O ?_ ?_<;>intro aF
  ·have aC:ivD d=false:=Ye0 bR (by rw[b2,aF];rfl);refine ZS g fun b8=>?_;refine Za O<|Zt b8 fun a g=>?_;refine Q6<|Xu<|X9<|X9 ?_;refine Xu<|X9<|X6 g (Xq g O O) ?_;exact ⟨by rw[aC],C⟩
  have aO:wvQ d k=true:=by rw[b2,aF];rfl
  refine Q7<|Xd<|b3 _ _<|Zr g ?_;refine Ze (Xr O O Z Z)<|Zm O ?_;refine Zn fun a g=>?_;refine Xh ?_;exact ⟨k+1,⟨g.sb,Z,(fun i hi=>by by_cases h9:i=k;rw[h9];exact aO;exact aI i Z),f,a6,C⟩,Z⟩
 have aP:∀ i,i<d.ws.length->wvQ d i=true:=fun i hi=>aI i (by have:=aE;omega);refine Q9<|Xk<|Xk<|X06 ?_;refine aY _ _<|Q5 fun _ b9=>?_;refine ZS g fun bC=>?_;refine Ze (Vd O Xn 1)<|Ze (X0 O X0f (f.at 1))<|Ze (X0w O X00)<|Zm O<|Zt bC fun a g=>?_;refine Q8<|X04 (σ:=Nat) (fun (j:Nat) (a:Act) (w:World)=>Fr a 116 [(1,(pZ9 b4)),(83,.slice Ad d.ns.length cd),(84,vi (d.ns.length:Int)),(85,vi (j:Int))]/\(j<=d.ns.length)/\(∀ i:Nat,i<j->nvQ d i=true)/\Blk w b4 54 [vi d.n,.slice Ad d.ns.length cd,.slice Bd d.ws.length dd,vi d.t,vi d.r]/\d.ws.length<=dd/\Bl w0 w) (fun (j:Nat)=>d.ns.length-j) 0 ?_ ?_
 ·exact ⟨g.sb,(Qf _),(fun i hi=>by omega),f,a6,C⟩
 intro j a cE ⟨g,hj,aJ,f,a6,C⟩;refine ZS g fun bD=>?_;refine Ze (X16 O O)<|ZX bD fun a g _ bE=>?_;refine X0y g O (fun D aG=>?_) (fun D aG=>?_)
 ·have ⟨cG,bX⟩:=Xa (l:=d.ns) (k:=j) Z;have ⟨v9,aQ⟩:=Xa (l:=d.ns) (k:=j) (by have:=aG;omega);have bS:=(Qg.1 aQ).1;have bF:=Yav aQ;refine Q7<|bE _ _<|Q5 fun _ bG=>?_;refine Q8<|ZS g fun bH=>?_;refine Zm O<|Zi (k:=j) (u:=v9) (enc:=encNd) (l:=d.ns) tv0 O O X00 X0o X03 (aA.bx C) aQ O ?_;intro cH aR;refine Ze (X07 (l:=[vi v9.k,vi v9.p]) O X44 aR O)<|Zf (X0b (zs:=[vi 0,vi 0]) Xab O) ?_;rintro _ cI ⟨cJ,rfl,bI,H,a8⟩;have aS:=Q0 C.size bI;have f:=f.bw H;have C:=btr C H;refine Za O<|Zo (Vw [vi v9.k,vi v9.p] X0o a8) ?_;intro _ w13 ⟨ho,hb⟩;have f:=f.oz ho a8 O;have C:=Below.oy C ho aS;have a8:=hb;refine ZX bH fun a g _ bJ=>?_;refine X0i (fun a w=>Fr a 116 [(1,(pZ9 b4)),(83,.slice Ad d.ns.length cd),(84,vi (d.ns.length:Int)),(85,vi (j:Int)),(114,.bool ((v9.k==0&&cnW d.ws (j:Int) != 0)||((v9.k==1||v9.k==2)&&cnW d.ws (j:Int) != 1)))]/\Bl w13 w) ?_ ?_
  ·have q:Bl w13 w13:=Below.refl _ _;refine Zr g<|Ze (Vd O X1v 0)<|Ze (X0 O X8 (a8.at 0))<|Ze (X0l O O)<|Zm O ?_;refine Zg 93 O ?_ ?_<;>intro y
   ·refine Zv (gW y) (Vn X2 f) ?_;refine Zv (gW y) (X5 O) ?_;refine Zk (gW y) (Vc (Xbj _ d d.ns.length O Ad cd (aA.bx C).top Bd dd (aB.bx C).top a6 (j:Int) aD) X67) ?_;rintro _ cK ⟨rfl,H⟩;have ⟨f,a8,C,q⟩:=mv4 H f a8 C q;refine Zv (gW y) (X28 O O) ?_;refine Ze (Xc O y O)<|Zm O ?_;refine Zg 99 O ?_ ?_<;>intro e
    ·(iterate 4 refine Zp (gP e) ?_);(iterate 3 refine Zp (gP tv0) ?_);(iterate 2 refine Zp (gP e) ?_);(iterate 4 refine Zp (gP tv0) ?_);refine Zp (gP e) ?_;refine Ze (Xc O e O) ?_;refine Zn fun a g=>?_;exact ⟨g.sub ⟨O,O,O,O,X1 O (by first|rfl|(simp only[m,c,D,y,e,bs];done)|simp[m,c,D,y,e]),trivial⟩,q⟩
    refine Zv (gW e) (Vd O X1v 0) ?_;refine Zv (gW e) (X0 O X8 (a8.at 0)) ?_;refine Zv (gW e) (X0l O O) ?_;refine Zv (gW e) (X5 O) ?_;refine Zg 103 O ?_ ?_<;>intro J
    ·(iterate 3 refine Zp (gP J) ?_);refine Zv (gW e) (Xc O J O) ?_;refine Zv (gW e) (X5 O) ?_;refine Zv (gW O) (Vn X2 f) ?_;refine Zv (gW O) (X5 O) ?_;refine Zk (gW O) (Vc (Xbj _ d d.ns.length O Ad cd (aA.bx C).top Bd dd (aB.bx C).top a6 (j:Int) aD) X67) ?_;rintro _ cL ⟨rfl,H⟩;have C:=btr C H;have q:=btr q H;refine Zv (gW O) (X28 O O) ?_;refine Zv (gW e) (Xc O O O) ?_;refine Ze (Xi O e O) ?_;refine Zn fun a g=>?_;exact ⟨g.sub ⟨O,O,O,O,X1 O (by first|rfl|(simp only[m,c,D,y,e,J,bs];done)|simp[m,c,D,y,e,J]),trivial⟩,q⟩
    refine Zv (gW J) (Vd O X1v 0) ?_;refine Zv (gW J) (X0 O X8 (a8.at 0)) ?_;refine Zv (gW J) (X0l O O) ?_;refine Zv (gW e) (Xi O J O) ?_;refine Zv (gW e) (X5 O) ?_;refine Zg 108 O ?_ ?_<;>intro L
    ·refine Zv (gW L) (Vn X2 f) ?_;refine Zv (gW L) (X5 O) ?_;refine Zk (gW L) (Vc (Xbj _ d d.ns.length O Ad cd (aA.bx C).top Bd dd (aB.bx C).top a6 (j:Int) aD) X67) ?_;rintro _ cM ⟨rfl,H⟩;have C:=btr C H;have q:=btr q H;refine Zv (gW L) (X28 O O) ?_;refine Zv (gW e) (Xc O L O) ?_;refine Ze (Xi O e O) ?_;refine Zn fun a g=>?_;exact ⟨g.sub ⟨O,O,O,O,X1 O (by first|rfl|(simp only[m,c,D,y,e,J,L,bs];done)|simp[m,c,D,y,e,J,L]),trivial⟩,q⟩
    (iterate 4 refine Zp (gP L) ?_);refine Zv (gW e) (Xi O L O) ?_;refine Ze (Xi O e O) ?_;refine Zn fun a g=>?_;exact ⟨g.sub ⟨O,O,O,O,X1 O (by first|rfl|(simp only[m,c,D,y,e,J,L,bs];done)|simp[m,c,D,y,e,J,L]),trivial⟩,q⟩
   (iterate 4 refine Zp (gP y) ?_);refine Ze (Xi O y O)<|Zm O<|Zv (gW O) (Vd O X1v 0) ?_;refine Zv (gW O) (X0 O X8 (a8.at 0)) ?_;refine Zv (gW O) (X0l O O) ?_;refine Zv (gW O) (X5 O) ?_;refine Zg 103 O ?_ ?_<;>intro M
   ·(iterate 3 refine Zp (gP M) ?_);refine Zv (gW O) (Xc O M O) ?_;refine Zv (gW O) (X5 O) ?_;refine Zv (gW O) (Vn X2 f) ?_;refine Zv (gW O) (X5 O) ?_;refine Zk (gW O) (Vc (Xbj _ d d.ns.length O Ad cd (aA.bx C).top Bd dd (aB.bx C).top a6 (j:Int) aD) X67) ?_;rintro _ cN ⟨rfl,H⟩;have C:=btr C H;have q:=btr q H;refine Zv (gW O) (X28 O O) ?_;refine Zv (gW O) (Xc O O O) ?_;refine Ze (Xi O O O) ?_;refine Zn fun a g=>?_;exact ⟨g.sub ⟨O,O,O,O,X1 O (by first|rfl|(simp only[m,c,D,y,M,bs];done)|simp[m,c,D,y,M]),trivial⟩,q⟩
   refine Zv (gW M) (Vd O X1v 0) ?_;refine Zv (gW M) (X0 O X8 (a8.at 0)) ?_;refine Zv (gW M) (X0l O O) ?_;refine Zv (gW O) (Xi O M O) ?_;refine Zv (gW O) (X5 O) ?_;refine Zg 108 O ?_ ?_<;>intro N
   ·refine Zv (gW N) (Vn X2 f) ?_;refine Zv (gW N) (X5 O) ?_;refine Zk (gW N) (Vc (Xbj _ d d.ns.length O Ad cd (aA.bx C).top Bd dd (aB.bx C).top a6 (j:Int) aD) X67) ?_;rintro _ cO ⟨rfl,H⟩;have C:=btr C H;have q:=btr q H;refine Zv (gW N) (X28 O O) ?_;refine Zv (gW O) (Xc O N O) ?_;refine Ze (Xi O O O) ?_;refine Zn fun a g=>?_;exact ⟨g.sub ⟨O,O,O,O,X1 O (by first|rfl|(simp only[m,c,D,y,M,N,bs];done)|simp[m,c,D,y,M,N]),trivial⟩,q⟩
   (iterate 4 refine Zp (gP N) ?_);refine Zv (gW O) (Xi O N O) ?_;refine Ze (Xi O O O) ?_;refine Zn fun a g=>?_;exact ⟨g.sub ⟨O,O,O,O,X1 O (by first|rfl|(simp only[m,c,D,y,M,N,bs];done)|simp[m,c,D,y,M,N]),trivial⟩,q⟩
  intro a cP ⟨g,H⟩;have f:=f.bw H;have C:=btr C H;refine bJ _ _ ?_;refine Xx g O ?_ ?_<;>intro aH
  ·have aC:ivD d=false:=Ydz bS (by rw[bF,aH];rfl);refine ZS g fun bK=>?_;refine Za O<|Zt bK fun a g=>?_;refine Q6<|Xu<|X9<|X9 ?_;refine Xu<|X9<|X6 g (Xq g O O) ?_;exact ⟨by rw[aC],C⟩
  have aO:nvQ d j=true:=by rw[bF,aH];rfl
  refine Q7<|Xd<|bG _ _<|Zr g ?_;refine Ze (Xr O O Z Z)<|Zm O ?_;refine Zn fun a g=>?_;refine Xh ?_;exact ⟨j+1,⟨g.sb,Z,(fun i hi=>by by_cases h9:i=j;rw[h9];exact aO;exact aJ i Z),f,a6,C⟩,Z⟩
 have aC:ivD d=true:=Ydx aW aP fun i hi=>aJ i (by have:=aG;omega);refine Q9<|Xk<|Xk<|X06 ?_;refine b9 _ _<|ZS g fun bL=>?_;refine Za O<|Zt bL fun a g=>?_;refine Q6 (X6 g (Xq g O O) ?_);exact ⟨by rw[aC],C⟩
theorem Xog(L:World)(d:Dg)(md:Nat)(aM:md=d.ns.length)(Ad:Option Addr)(cd:Nat)(U:Rw L 85 encNd Ad d.ns)(Bd:Option Addr)(dd:Nat)(W:Rw L 99 encWr Bd d.ws)(M:d.ws.length<=dd)(b1:d.ns.length<=1000000000/\d.ws.length<=1000000000):RE 79 [.agg #[vi d.n,.slice Ad md cd,.slice Bd d.ws.length dd,vi d.t,vi d.r]] L (fun v w=>∃ A c B e,v=.agg #[vi d.n,.slice A d.ns.length c,.slice B d.ws.length e,vi d.t,vi d.r]/\Own w L.heap.size 85 2 encNd A c d.ns/\Own w L.heap.size 99 3 encWr B e d.ws/\Bl L w):=by
 subst aM;refine enter func79 O 14 O O ?_;intro a N;have i:=bz L;refine ZS N fun aW=>Zf (X0n (zs:=[vi d.n,.slice Ad d.ns.length cd,.slice Bd d.ws.length dd,vi d.t,vi d.r]) O O) ?_;rintro _ w1 ⟨b4,rfl,aX,g,b⟩;have I:=Q0 i.size aX;have i:=btr i g;refine Zf (X0b (zs:=Zc5) X1c O) ?_;rintro _ w2 ⟨b7,rfl,aY,g,f⟩;have aV:b4≠b7:=by have:=b.lt;omega
 have aN:=Q0 i.size aY;have b:=b.bw g;have i:=btr i g;refine ZX aW fun a N _ aZ=>X0i (fun a w=>∃ D E G H,Fr a 14 [(1,(pZ9 b4)),(2,(pZ9 b7))]/\Own w L.heap.size 85 2 encNd D E d.ns/\Own w L.heap.size 99 3 encWr G H d.ws/\Blk w b4 54 [vi d.n,.slice D d.ns.length E,.slice G d.ws.length H,vi d.t,vi d.r]/\Blk w b7 54 Zc5/\d.ws.length<=dd/\Bl L w) ?_ ?_
 ·refine Xy none (fun j=>[9,11].contains j) mixed ?_;intro w3 g;have ⟨b,f,i⟩:=mv3 g b f i;refine Yb N<|Yo 1 O (fun _=>Vd O Xn 1)<|Ye 2 O (X0 O X0f (b.at 1))<|Yo 5 O (fun _=>Vd O X02 2)<|Ye 6 O (X0 O X1f (b.at 2))<|Y2 0 4 ?_ ?_
  ·refine Yk O tv0 (Xe (k:=0) (vs:=[]) (zs:=[]) O X00 X2n O O) (fun _ _ ⟨_,_,_,h,_⟩=>h) ?_;rintro _ w4 ⟨b9,rfl,b0,g,aC⟩;have aH:=Q0 i.size b0;have ⟨b,f,i⟩:=mv3 g b f i;refine Y2 3 4 ?_ ?_
   ·refine Yk O tv0 (X29 (enc:=encNd) (l2:=(d.ns)) O O X00 X2n X03 X3s aC (U.bx i) (by simp only[maxLen];omega) Z) (fun _ _ ⟨D,E,_,m,g,p⟩=>g) ?_;rintro _ w5 ⟨D,E,rfl,m,g,p⟩;clear p;have m:=m.lower aH;have ⟨b,f,i⟩:=mv3 g b f i;refine Yo 8 O (fun _=>Vd O Xn 1)<|Y1 4<|Yk O tv0 (Xe (k:=0) (vs:=[]) (zs:=[]) O X0a X1w O O) (fun _ _ ⟨_,_,_,h,_⟩=>h) ?_;rintro _ w6 ⟨b2,rfl,aO,g,aP⟩;have aI:=Q0 i.size aO;have ⟨b,f,m,i⟩:=mv4 g b f m i;refine Y1 7<|Yk O tv0 (X29 (enc:=encWr) (l2:=(d.ws)) O O X0a X1w X0d X2l aP (W.bx i) (by simp only[maxLen];omega) Z) (fun _ _ ⟨G,H,_,o,g,p⟩=>g) ?_;rintro _ w7 ⟨G,H,rfl,o,g,p⟩;clear p;have o:=o.lower aI;have ⟨b,f,m,i⟩:=mv4 g b f m i;refine Y1 9<|Yh O tv0 O (Vu (vs:=[.slice D d.ns.length E]) (l':=[vi d.n,.slice D d.ns.length E,.slice Bd d.ws.length dd,vi d.t,vi d.r]) O O X5j b) ?_;intro _ w8 ⟨q,Q⟩;have f:=f.oy q Z;have m:=m.oT q b O;have o:=o.oT q b O;have i:=Below.oy i q I;have b:=Q;refine Yo 10 O (fun _=>Vd O X02 2)<|Y1 11<|Yh O tv0 O (Vu (vs:=[.slice G d.ws.length H]) (l':=[vi d.n,.slice D d.ns.length E,.slice G d.ws.length H,vi d.t,vi d.r]) O O X2h b) ?_;intro _ w9 ⟨q,Q⟩;have f:=f.oy q Z;have m:=m.oT q b O;have o:=o.oT q b O;have i:=Below.oy i q I;have b:=Q;exact Yd fun a N=>⟨D,E,G,H,N.sb,m,o,b,f,M,i⟩
   refine Yk O tv0 (Xe (k:=0) (vs:=[]) (zs:=[]) O X0a X1w O O) (fun _ _ ⟨_,_,_,h,_⟩=>h) ?_;rintro _ b3 ⟨b5,rfl,aQ,g,a6⟩;have aJ:=Q0 i.size aQ;have ⟨b,f,aC,i⟩:=mv4 g b f aC i;refine Y1 3<|Yk O tv0 (X29 (enc:=encNd) (l2:=(d.ns)) O O X00 X2n X03 X3s aC (U.bx i) (by simp only[maxLen];omega) Z) (fun _ _ ⟨a7,a8,_,u,g,p⟩=>g) ?_;rintro _ b6 ⟨a7,a8,rfl,u,g,p⟩;clear p;have u:=u.lower aH;have ⟨b,f,a6,i⟩:=mv4 g b f a6 i;refine Yo 8 O (fun _=>Vd O Xn 1)<|Y1 7<|Yk O tv0 (X29 (enc:=encWr) (l2:=(d.ws)) O O X0a X1w X0d X2l a6 (W.bx i) (by simp only[maxLen];omega) Z) (fun _ _ ⟨aD,aE,_,y,g,p⟩=>g) ?_;rintro _ b8 ⟨aD,aE,rfl,y,g,p⟩;clear p;have y:=y.lower aJ;have ⟨b,f,u,i⟩:=mv4 g b f u i;refine Y1 9<|Yh O tv0 O (Vu (vs:=[.slice a7 d.ns.length a8]) (l':=[vi d.n,.slice a7 d.ns.length a8,.slice Bd d.ws.length dd,vi d.t,vi d.r]) O O X5j b) ?_;intro _ bC ⟨q,Q⟩;have f:=f.oy q Z;have u:=u.oT q b O;have y:=y.oT q b O;have i:=Below.oy i q I;have b:=Q;refine Yo 10 O (fun _=>Vd O X02 2)<|Y1 11<|Yh O tv0 O (Vu (vs:=[.slice aD d.ws.length aE]) (l':=[vi d.n,.slice a7 d.ns.length a8,.slice aD d.ws.length aE,vi d.t,vi d.r]) O O X2h b) ?_;intro _ bD ⟨q,Q⟩;have f:=f.oy q Z;have u:=u.oT q b O;have y:=y.oT q b O;have i:=Below.oy i q I;have b:=Q;exact Yd fun a N=>⟨a7,a8,aD,aE,N.sb,u,y,b,f,M,i⟩
  refine Yk O tv0 (Xe (k:=0) (vs:=[]) (zs:=[]) O X0a X1w O O) (fun _ _ ⟨_,_,_,h,_⟩=>h) ?_;rintro _ bE ⟨bF,rfl,aR,g,J⟩;have aK:=Q0 i.size aR;have ⟨b,f,i⟩:=mv3 g b f i;refine Y1 0<|Yk O tv0 (Xe (k:=0) (vs:=[]) (zs:=[]) O X00 X2n O O) (fun _ _ ⟨_,_,_,h,_⟩=>h) ?_;rintro _ bG ⟨bH,rfl,aS,g,aT⟩;have aL:=Q0 i.size aS;have ⟨b,f,J,i⟩:=mv4 g b f J i;refine Y1 3<|Yk O tv0 (X29 (enc:=encNd) (l2:=(d.ns)) O O X00 X2n X03 X3s aT (U.bx i) (by simp only[maxLen];omega) Z) (fun _ _ ⟨aA,aB,_,x,g,p⟩=>g) ?_;rintro _ bI ⟨aA,aB,rfl,x,g,p⟩;clear p;have x:=x.lower aL;have ⟨b,f,J,i⟩:=mv4 g b f J i;refine Yo 8 O (fun _=>Vd O Xn 1)<|Y1 7<|Yk O tv0 (X29 (enc:=encWr) (l2:=(d.ws)) O O X0a X1w X0d X2l J (W.bx i) (by simp only[maxLen];omega) Z) (fun _ _ ⟨aF,aG,_,C,g,p⟩=>g) ?_;rintro _ bJ ⟨aF,aG,rfl,C,g,p⟩;clear p;have C:=C.lower aK;have ⟨b,f,x,i⟩:=mv4 g b f x i;refine Y1 9<|Yh O tv0 O (Vu (vs:=[.slice aA d.ns.length aB]) (l':=[vi d.n,.slice aA d.ns.length aB,.slice Bd d.ws.length dd,vi d.t,vi d.r]) O O X5j b) ?_;intro _ bK ⟨q,Q⟩;have f:=f.oy q Z;have x:=x.oT q b O;have C:=C.oT q b O;have i:=Below.oy i q I;have b:=Q;refine Yo 10 O (fun _=>Vd O X02 2)<|Y1 11<|Yh O tv0 O (Vu (vs:=[.slice aF d.ws.length aG]) (l':=[vi d.n,.slice aA d.ns.length aB,.slice aF d.ws.length aG,vi d.t,vi d.r]) O O X2h b) ?_;intro _ bL ⟨q,Q⟩;have f:=f.oy q Z;have x:=x.oT q b O;have C:=C.oT q b O;have i:=Below.oy i q I;have b:=Q;exact Yd fun a N=>⟨aA,aB,aF,aG,N.sb,x,C,b,f,M,i⟩
 intro a bM ⟨D,E,G,H,N,m,o,b,f,M,i⟩;refine aZ _ _<|ZS N fun aU=>Ze (Vn X2 b)<|Zo (Vw [vi d.n,.slice D d.ns.length E,.slice G d.ws.length H,vi d.t,vi d.r] Xv f) ?_;intro _ bN ⟨q,Q⟩;have m:=m.oT q f O;have o:=o.oT q f O;have i:=Below.oy i q aN;have f:=Q;refine Zt aU fun a N=>Q6 (X6 N (Xq N O (ResV.cellN (l:=[vi d.n,.slice D d.ns.length E,.slice G d.ws.length H,vi d.t,vi d.r]) O X2 (f.at 0) O)) ?_);exact ⟨D,E,G,H,O,m,o,i⟩
theorem Xzm(j:World)(d:Dg)(md:Nat)(a6:md=d.ns.length)(Ad:Option Addr)(cd:Nat)(k:Rw j 85 encNd Ad d.ns)(Bd:Option Addr)(dd:Nat)(m:Rw j 99 encWr Bd d.ws)(o:d.ws.length<=dd)(aB:d.ws.length<=1000000000):RE 45 [.agg #[vi d.n,.slice Ad md cd,.slice Bd d.ws.length dd,vi d.t,vi d.r]] j (fun v w=>∃ A c1 B e,v=.tuple #[.agg #[vi (if (ivD d)=true then d else zD).n,.slice A (if (ivD d)=true then d else zD).ns.length c1,.slice B (if (ivD d)=true then d else zD).ws.length e,vi (if (ivD d)=true then d else zD).t,vi (if (ivD d)=true then d else zD).r],.bool (ivD d)]/\Rw w 85 encNd A (if (ivD d)=true then d else zD).ns/\Rw w 99 encWr B (if (ivD d)=true then d else zD).ws/\(if (ivD d)=true then d else zD).ws.length<=e/\Bl j w):=by
 subst a6;refine enter func45 O 9 O O ?_;intro a g;have b:=bz j;refine ZS g fun aC=>Zf (X0n (zs:=[vi d.n,.slice Ad d.ns.length cd,.slice Bd d.ws.length dd,vi d.t,vi d.r]) O O) ?_;rintro _ w1 ⟨b4,rfl,aD,p,f⟩;have aJ:=Q0 b.size aD;have b:=btr b p;refine Zf (X0b (zs:=Zc5) X1c O) ?_;rintro _ w2 ⟨b7,rfl,aE,p,c⟩;have aA:b4≠b7:=by have:=f.lt;omega
 have q:=Q0 b.size aE;have f:=f.bw p;have b:=btr b p;refine Za O<|ZX aC fun a g _ aF=>ZS g fun aG=>Ze (Vn X2 f)<|Zf (Vc (Xoe _ d d.ns.length O Ad cd (k.bx b).top Bd dd (m.bx b).top o aB) Xez) ?_;rintro _ w3 ⟨rfl,p⟩;have ⟨f,c,b⟩:=mv3 p f c b;refine Ze (X1i O)<|Zt aG fun a g=>Xx g O ?_ ?_<;>intro i
 ·have aH:ivD d=false:=by have h8:=i;simpa using h8
  refine ZS g fun a7=>Ze (X0k (ps:=[]) (cs:=Zc5) O (fun _=>by first|rfl|kernel_rfl))<|Zo (Vw Zc5 Xv c) ?_;intro _ w4 ⟨ho,hb⟩;have b:=Below.oy b ho q;have c:=hb;refine Za O<|Zt a7 fun a g=>Q6<|X9<|X6 g (X1q g O (ResV.cellN (l:=Zc5) O X2 (c.at 0) O) O) ?_;rw[aH,Q3 Bool.false_ne_true];exact ⟨none,0,none,0,O,(Rd.nil _ _ _ _ _),(Rd.nil _ _ _ _ _),(Qf _),b⟩
 have aI:ivD d=true:=by have h8:=i;simpa using h8
 refine Q7<|aF _ _<|ZS g fun a8=>Ze (Vn X2 f)<|Zo (Vw [vi d.n,.slice Ad d.ns.length cd,.slice Bd d.ws.length dd,vi d.t,vi d.r] Xv c) ?_;intro _ w5 ⟨ho,hb⟩;have b:=Below.oy b ho q;have c:=hb;refine Za O<|Zt a8 fun a g=>Q6 (X6 g (X1q g O (ResV.cellN (l:=[vi d.n,.slice Ad d.ns.length cd,.slice Bd d.ws.length dd,vi d.t,vi d.r]) O X2 (c.at 0) O) O) ?_);rw[aI,Q4 rfl];exact ⟨Ad,cd,Bd,dd,O,(k.bx b).top,(m.bx b).top,o,b⟩
theorem Xzk(g:World)(d:Dg)(md:Nat)(aD:md=d.ns.length)(Ad:Option Addr)(cd:Nat)(aE:Rw g 85 encNd Ad d.ns)(Bd:Option Addr)(dd:Nat)(b0:Rw g 99 encWr Bd d.ws)(i:d.ws.length<=dd)(hN:md<=1000) : RE 50 [.agg #[vi d.n,.slice Ad md cd,.slice Bd d.ws.length dd,vi d.t,vi d.r]] g (fun v w=>∃ A c,v=.slice A (spL d.ns).length c/\Own w g.heap.size 3 1 encI A c (spL d.ns)/\Bl g w):=by
 refine enter func50 O 24 O O ?_;intro a e
 have f:=bz g
 refine ZS e fun aQ=>Zf (X0n (zs:=[vi d.n,.slice Ad md cd,.slice Bd d.ws.length dd,vi d.t,vi d.r]) O O) ?_;rintro _ w1 ⟨b4,rfl,aR,D,a6⟩;have b1:=Q0 f.size aR;have f:=btr f D;refine Za O<|Zx aQ fun a e _ aS=>Zf (Xe (k:=0) (vs:=[]) (zs:=[]) O Xp X21 O O) ?_;rintro _ w2 ⟨b7,rfl,aT,D,aU⟩;have aF:=Q0 f.size aT;have a6:=a6.bw D;have f:=btr f D;refine Za O<|ZX aS fun a e _ aV=>ZS e fun aG=>Ze (Vd O Xn 1)<|Ze (X0 O X0f (a6.at 1))<|Ze (X0w O X00)<|Zm O<|Zt aG fun a e=>Q8<|X04 (σ:=Nat×(List Int)) (fun (s:Nat×(List Int)) (a:Act) (w:World)=>match s with|(k,m)=>∃ q x,Fr a 24 [(3,.slice q m.length x),(8,.slice Ad md cd),(9,vi (md:Int)),(10,vi (k:Int))]/\(k<=d.ns.length)/\(m=spK d.ns k)/\Own w g.heap.size 3 1 encI q x m/\d.ws.length<=dd/\Bl g w) (fun (s:Nat×(List Int))=>match s with|(k,m)=>d.ns.length-k) (0,[]) ?_ ?_
 ·exact ⟨some ⟨b7,0,none⟩,0,e.sb,(Qf _),O,(Own.empty aU aF),i,f⟩
 rintro ⟨k,m⟩ a w3 ⟨q,x,e,hk,hm,b,i,f⟩;have aW:=X86 d.ns k
 rw [<- hm] at aW
 refine ZS e fun aH=>Ze (X16 O O)<|ZX aH fun a e _ aI=>X0y e O (fun a7 y=>?_) (fun a7 y=>?_)
 ·obtain ⟨u9,a8⟩:=Xa (l:=d.ns) (k:=k) (by have:=y;omega)
  refine Q7<|aI _ _<|Q5 fun _ E=>?_;refine Q8<|ZS e fun aJ=>?_;refine Zm O<|Zj (k:=k) (u:=u9) (enc:=encNd) (l:=d.ns) tv0 O aD O X00 X0o X03 (aE.bx f) a8 Z ?_;intro b2 aA;refine Ze (X07 (l:=[vi u9.k,vi u9.p]) O X44 aA O)<|Zf (X0b (zs:=[vi 0,vi 0]) Xab O) ?_;rintro _ w4 ⟨b3,rfl,aK,D,j⟩;have aB:=Q0 f.size aK;have b:=b.bw D;have f:=btr f D;refine Za O<|Zo (Vw [vi u9.k,vi u9.p] X0o j) ?_;rintro _ w5 ⟨ho,hb⟩;have b:=b.oT ho j O;have f:=Below.oy f ho aB;have j:=hb;refine Zx aJ fun a e _ aL=>?_;refine Ze (Vd O X1v 0)<|Ze (X0 O X8 (j.at 0))<|Ze (X0l O O)<|Zt aL fun a e=>?_
  refine Xx e O ?_ ?_<;>intro h
  ·have B:=Y1w a8 h
   rw [<- hm] at B
   refine Zr e<|Zm O<|Zm O<|Zf (Xe (k:=1) (vs:=[vi (k:Int)]) (zs:=[vi (k:Int)]) O Xp X21 O O) ?_;rintro _ w6 ⟨b5,rfl,G,D,C⟩;have aX:=Q0 f.size G;have o:=b.away G;have b:=b.bw D;have f:=btr f D;refine Zf (X0r (enc:=encI) (l:=(m)) (l2:=([(k:Int)])) (B0:=g.heap.size) O O Xp X21 Xj X37 b (Rd.of_blk C O _ C.lt) (by simp only [maxLen];simp;omega) O6 f.size) ?_;rintro _ w7 ⟨aY,aZ,rfl,aM,hg,aN⟩
   have H:Own _ g.heap.size 3 1 encI _ _ (m):=b
   have aC:=aN _ C.lt o;clear aN;have f:=Below.app f H hg (Qb _) f.size;clear H hg;exact Za O<|Zn fun a e=>Xd<|E _ _<|Zr e<|Ze (Xr O O Z Z)<|Zm O<|Zn fun a e=>Xh<|⟨(k+1,m++([(k:Int)])),⟨aY,aZ,e.sb,Z,(by rw [B]),aM,i,f⟩,O1⟩
  have B:=Y1v a8 h
  rw [<- hm] at B
  exact Q7<|Xd<|E _ _<|Zr e<|Ze (Xr O O Z Z)<|Zm O<|Zn fun a e=>Xh<|⟨(k+1,m),⟨q,x,e.sb,Z,(by rw [B]),b,i,f⟩,O1⟩
 have aO:m=spL d.ns:=by rw [hm,show k=d.ns.length by have:=y;omega];rfl
 refine Q9<|Xk<|Xk<|X06<|aV _ _<|ZS e fun aP=>Zm O<|Za O<|Zt aP fun a e=>Q6 (X6 e (Xq e O O) ?_)
 rw [<- aO]
 exact ⟨q,x,O,b,f⟩
def Xyv{l:List Int}(h:l.Pairwise (·<=·)):sortI l=l:=by
 unfold sortI;exact List.mergeSort_of_pairwise (h.imp fun h=>by simpa using h)
def Y53{l:List Int}(h:Inc l):l.Pairwise (·<=·):=List.Pairwise.imp (fun h=>Int.le_of_lt h) h
def Xnz{ws:List Wr}(h:InW ws)(k:Int):sortI (nearW ws k)=nearW ws k:=Xyv (Y53 (X3z h))
def Y2d{α:Type}{l:List α}{q:α->Bool}{k:Nat}{u:α}(h:(l.take k).any q=false)(hu:l[k]? = some u)(hq:q u=false):(l.take (k+1)).any q=false:=by
 rw[Qt,hu,Option.toList_some,List.any_append,h,List.any_cons,hq];rfl
def Xuy{α:Type}{l:List α}{q:α->Bool}{k:Nat}(h:(l.take k).any q=false)(hk:l.length<=k):l.any q=false:=by rwa [Qi hk] at h
def Xv0{α:Type}{l:List α}{q:α->Bool}{k:Nat}{u:α}(hu:l[k]? = some u)(hq:q u=true):l.any q=true:=List.any_eq_true.2 ⟨u,Qe hu,hq⟩
def prQ(d:Dg)(l:List Int)(i:Nat) : Bool:=(l.take i).any fun y=>tyW d.ws (l.getD i 0) y==1
def prD(d:Dg)(l:List Int) : Bool:=(List.range l.length).any (prQ d l)
def Y62{d:Dg}{l:List Int}(h:∀ j,j<l.length->prQ d l j=false):prD d l=false:=by grind [prD,prQ]
def Xyh{d:Dg}{l:List Int}{k:Nat}(hk:k<l.length)(h:prQ d l k=true):prD d l=true:=List.any_eq_true.2 ⟨k,W2.2 hk,h⟩
def Xd4(j:World)(d:Dg)(md:Nat)(bD:md=d.ns.length)(Ad:Option Addr)(cd:Nat)(bE:Rw j 85 encNd Ad d.ns)(Bd:Option Addr)(dd:Nat)(aF:Rw j 99 encWr Bd d.ws)(o:d.ws.length<=dd)(p:Int)(hI:InW d.ws)(bH:d.ws.length<=1000000000):RE 134 [.agg #[vi d.n,.slice Ad md cd,.slice Bd d.ws.length dd,vi d.t,vi d.r],vi p] j (fun v w=>∃ A c,v=.slice A (nearW d.ws p).length c/\Own w j.heap.size 3 1 encI A c (nearW d.ws p)/\Bl j w):=by
 refine enter func134 O 39 O O ?_;intro a f;have g:=bz j;refine ZS f fun aV=>Zf (X0n (zs:=(Zc4 d Ad md cd Bd dd)) O O) ?_;rintro _ w1 ⟨b4,rfl,aW,B,aA⟩;have bF:=Q0 g.size aW;have g:=btr g B;refine Za O<|Zx aV fun a f _ aX=>Zf (Xe (k:=0) (vs:=[]) (zs:=[]) O Xp X21 O O) ?_;rintro _ w2 ⟨b7,rfl,aY,B,aZ⟩;have aG:=Q0 g.size aY;have aA:=aA.bw B;have g:=btr g B;refine Za O<|ZX aX fun a f _ b0=>ZS f fun aH=>Ze (Vd O X02 2)<|Ze (X0 O X1f (aA.at 2))<|Ze (X0w O X0a)<|Zm O<|Zt aH fun a f=>Q8<|X04 (σ:=Nat×(List Int)) (fun (s:Nat×(List Int)) (a:Act) (w:World)=>match s with|(k,m)=>∃ C D,Fr a 39 [(1,vi p),(5,.slice C m.length D),(10,.slice Bd d.ws.length dd),(11,vi (d.ws.length:Int)),(12,vi (k:Int))]/\(k<=d.ws.length)/\(m=nearW (d.ws.take k) p)/\Own w j.heap.size 3 1 encI C D m/\d.ws.length<=dd/\Bl j w) (fun (s:Nat×(List Int))=>match s with|(k,m)=>d.ws.length-k) (0,[]) ?_ ?_
 ·exact ⟨some ⟨b7,0,none⟩,0,f.sb,(Qf _),(by simp[nearW]),(Own.empty aZ aG),o,g⟩
 intro ⟨k,m⟩ a w3 ⟨C,D,f,hk,hm,e,o,g⟩;have aI:=X3e (d.ws.take k) p;rw[<- hm,Qn] at aI;refine ZS f fun aJ=>Ze (X16 O O)<|ZX aJ fun a f _ aK=>X0y f O (fun aB H=>?_) (fun aB H=>?_)
 ·have ⟨bI,bG⟩:=Xa (l:=d.ws) (k:=k) Z;have ⟨x,W⟩:=Xa (l:=d.ws) (k:=k) (by have:=H;omega);refine Q7<|aK _ _<|Q5 fun _ I=>Q8<|ZS f fun aL=>Zi (k:=k) (u:=x) (enc:=encWr) (l:=d.ws) tv0 O O X0a X14 X0d (aF.bx g) W O ?_;intro bJ aC;refine Ze (X07 (l:=[vi x.a,vi x.b,.bool x.h]) O X23 aC O)<|ZB [vi x.a,vi x.b,.bool x.h] X4a X14 fun bK w5 aM B y=>?_;have b1:=Q0 g.size aM;have e:=e.bw B;have g:=btr g B;refine Zx aL fun a f _ aN=>Zm O<|Zt aN fun a f=>Q8<|ZS f fun aO=>Ze (Vd O X1l 0)<|Ze (X0 O X8 (y.at 0))<|Ze (X0l O O)<|Za O<|Zt aO fun a f=>Xx f O ?_ ?_<;>intro J
  ·have q:=Xh5 W (by simpa using J);rw[<- hm] at q;refine Zr f<|Zm O<|Ze (Vd O X1p 1)<|Ze (X0 O X8 (y.at 1))<|Zf (Xe (k:=1) (vs:=[vi x.b]) (zs:=[vi x.b]) O Xp X21 O O) ?_;rintro _ w6 ⟨bL,rfl,a6,B,L⟩;have b2:=Q0 g.size a6;have e:=e.bw B;have g:=btr g B;refine Zf (X0r (enc:=encI) (l:=(m)) (l2:=([x.b])) (B0:=j.heap.size) O O Xp X21 Xj X37 e (Rd.of_blk L O _ L.lt) (by simp only[maxLen];simp;omega) O6 g.size) ?_;rintro _ w7 ⟨b3,b5,rfl,aP,hg,M⟩;have i:Own _ j.heap.size 3 1 encI _ _ (m):=e;clear M;have g:=Below.app g i hg (Qb _) g.size;clear i hg;exact Za O<|Zn fun a f=>Xd<|Xd<|I _ _<|Zr f<|Ze (Xr O O Z Z)<|Zm O<|Zn fun a f=>Xh<|⟨(k+1,m++([x.b])),⟨b3,b5,f.sb,Z,(by rw[q]),aP,o,g⟩,O1⟩
  have aQ:=J;refine ZS f fun aR=>Ze (Vd O X1p 1)<|Ze (X0 O X8 (y.at 1))<|Ze (X0l O O)<|Za O<|Zt aR fun a f=>Xx f O ?_ ?_<;>intro N
  ·have q:=Xh7 W (by simpa using aQ) (by simpa using N);rw[<- hm] at q;refine Zr f<|Zm O<|Ze (Vd O X1l 0)<|Ze (X0 O X8 (y.at 0))<|Zf (Xe (k:=1) (vs:=[vi x.a]) (zs:=[vi x.a]) O Xp X21 O O) ?_;rintro _ w8 ⟨bM,rfl,a7,B,Q⟩;have b6:=Q0 g.size a7;have e:=e.bw B;have g:=btr g B;refine Zf (X0r (enc:=encI) (l:=(m)) (l2:=([x.a])) (B0:=j.heap.size) O O Xp X21 Xj X37 e (Rd.of_blk Q O _ Q.lt) (by simp only[maxLen];simp;omega) O6 g.size) ?_;rintro _ w9 ⟨b8,b9,rfl,aS,hg,M⟩;have i:Own _ j.heap.size 3 1 encI _ _ (m):=e;clear M;have g:=Below.app g i hg (Qb _) g.size;clear i hg;exact Za O<|Zn fun a f=>Xd<|Xd<|I _ _<|Zr f<|Ze (Xr O O Z Z)<|Zm O<|Zn fun a f=>Xh<|⟨(k+1,m++([x.a])),⟨b8,b9,f.sb,Z,(by rw[q]),aS,o,g⟩,O1⟩
  have q:=Xdv W (by simpa using aQ) (by simpa using N);rw[<- hm] at q;exact Q7<|Xd<|Xd<|I _ _<|Zr f<|Ze (Xr O O Z Z)<|Zm O<|Zn fun a f=>Xh<|⟨(k+1,m),⟨C,D,f.sb,Z,(by rw[q]),e,o,g⟩,O1⟩
 have U:m=nearW d.ws p:=by rw[hm,Qi (by have:=H;omega)]
 have bN:m.length<=d.ws.length:=by rw[U];exact X3e _ _
 have bC:sortI m=m:=by rw[U];exact Xnz hI p
 refine Q9<|Xk<|Xk<|X06<|b0 _ _<|ZS f fun aT=>Zm O<|Zf (Vc (F94 _ j.heap.size C D m e (by have:=X3e d.ws p;omega)) Y0o) ?_;intro _ bO ⟨a8,hg⟩;have i:=e;have g:=Below.app g i hg (Qb _) g.size;clear i hg;clear e;have e:=a8;clear a8;refine Zx aT fun a f _ aU=>Zm O<|Za O<|Zt aU fun a f=>Q6 (X6 f (Xq f O O) ?_);rw[<- U];exact ⟨C,D,O,bC▸e,g⟩
def Y8j(c:World)(x:Int)(d:Dg)(md:Nat)(m:md=d.ns.length)(Ad:Option Addr)(cd:Nat)(o:Rw c 85 encNd Ad d.ns)(Bd:Option Addr)(dd:Nat)(q:Rw c 99 encWr Bd d.ws)(u:d.ws.length<=dd)(p:Int)(ba bb:Nat)(f:Blk c ba 54 (Zc4 d Ad md cd Bd dd))(j:Blk c bb 3 [vi p])(hN:md<=1000)(a6:d.ws.length<=1000000000):RE 201 [vi x,(pZ9 ba),(pZ9 bb)] c (fun v w=>v=.bool (!(spI d.ns x)||tyW d.ws p x != 2)/\Bl c w):=by
 have a7:=f.lt;have a8:=j.lt;refine enter func201 O 16 O O ?_;intro a i
 have g:=bz c
 refine ZS i fun aA=>Za O<|ZX aA fun a i _ aB=>X0i (fun a w=>Fr a 16 [(4,.bool ((!(spI d.ns x))||((tyW d.ws p x) != 2)))]/\Bl c w) ?_ ?_
 ·have e:=bz c
  refine Zr i<|Ze (X07 (l:=(Zc4 d Ad md cd Bd dd)) O X2 (f.at 0) O)<|Zm O<|Zf (Vc (X88 _ d md m Ad cd (o.bx g).top Bd dd (q.bx g).top u x hN) X4b) ?_;rintro _ w1 ⟨rfl,k⟩;have ⟨f,j,g,e⟩:=mv4 k f j g e;refine Ze (X1i O)<|Zm O<|Zg 9 O ?_ ?_<;>intro b
  ·(iterate 5 refine Zp (gP b) ?_);exact Ze (Xc O b O)<|Za O<|Zn fun a i=>⟨i.sub ⟨X1 O (by simp[b]),trivial⟩,e⟩
  refine Zv (gW b) (X07 (l:=(Zc4 d Ad md cd Bd dd)) O X2 (f.at 0) O) ?_;refine Zv (gW b) (X0 O X8 (j.at 0)) ?_;refine Zv (gW b) (X5 O) ?_;refine Zk (gW b) (Vc (X8a _ d md m Ad cd (o.bx g).top Bd dd (q.bx g).top u p x a6) X4d) ?_;rintro _ w2 ⟨rfl,k⟩;have g:=btr g k;have e:=btr e k;refine Zv (gW b) (X28 O O) ?_;refine Ze (Xi O b O)<|Za O ?_;exact Zn fun a i=>⟨i.sub ⟨X1 O (by first|rfl|(simp only[b,bs];done)|simp[b]),trivial⟩,e⟩
 rintro a w3 ⟨i,k⟩;have g:=btr g k;refine aB _ _<|Q6 (X6 i (Xq i O O) ?_)
 exact ⟨O,g⟩
def Xok(c:World)(d:Dg)(md:Nat)(a7:md=d.ns.length)(Ad:Option Addr)(cd:Nat)(a8:Rw c 85 encNd Ad d.ns)(Bd:Option Addr)(dd:Nat)(aA:Rw c 99 encWr Bd d.ws)(aB:d.ws.length<=dd)(p:Int)(Al:Option Addr)(cl:Nat)(l:List Int)(aC:Rw c 3 encI Al l)(hN:md<=1000)(aD:d.ws.length<=1000000000)(aL:l.length<=1000000000):RE 180 [.agg #[vi d.n,.slice Ad md cd,.slice Bd d.ws.length dd,vi d.t,vi d.r],vi p,.slice Al l.length cl] c (fun v w=>v=.bool (!(l.any fun x=>!(spI d.ns x)||tyW d.ws p x != 2))/\Bl c w):=by
 refine enter func180 O 11 O O ?_;intro a hf;have b:=bz c;refine ZS hf fun aE=>Zf (X0n (zs:=(Zc4 d Ad md cd Bd dd)) O O) ?_;rintro _ w1 ⟨b5,rfl,aF,hE,a6⟩;have aJ:=Q0 b.size aF;have b:=btr b hE;refine Zf (X0n (zs:=[vi p]) O O) ?_;rintro _ w2 ⟨b6,rfl,aG,hE,aH⟩;have aK:=Q0 b.size aG;have a6:=a6.bw hE;have b:=btr b hE;refine Za O<|Zx aE fun a hf _ aI=>Zm O<|Ze (X4w (vs:=[(pZ9 b5),(pZ9 b6)]) O)<|Zf (Vc (Yco _ Al cl l (aC.bx b).top 201 [(pZ9 b5),(pZ9 b6)] Xxb (fun x=>!(spI d.ns x)||tyW d.ws p x != 2) (fun x w' hE'=>Y8j w' x d md a7 Ad cd (((a8.bx b).top).bw hE').top Bd dd (((aA.bx b).top).bw hE').top aB p _ _ (a6.bw hE') (aH.bw hE') hN aD) Z) Y3u) ?_;rintro _ w3 ⟨rfl,hE⟩;have b:=btr b hE;refine Ze (X1i O)<|Za O<|Zt aI fun a hf=>Q6 (X6 hf (Xq hf O O) ?_);exact ⟨O,b⟩
def Xzy(m:World)(d:Dg)(md:Nat)(aD:md=d.ns.length)(Ad:Option Addr)(cd:Nat)(aE:Rw m 85 encNd Ad d.ns)(Bd:Option Addr)(dd:Nat)(aF:Rw m 99 encWr Bd d.ws)(c:d.ws.length<=dd)(Al:Option Addr)(cl:Nat)(l:List Int)(h:Rw m 3 encI Al l)(aR:d.ws.length<=1000000000)(b4:l.length<=1000000000)(aS:l.length<=cl):RE 181 [.agg #[vi d.n,.slice Ad md cd,.slice Bd d.ws.length dd,vi d.t,vi d.r],.slice Al l.length cl] m (fun v w=>v=.bool (prD d l)/\Bl m w):=by
 refine enter func181 O 31 O O ?_;intro a b;have g:=bz m;refine ZS b fun aT=>Zf (X0n (zs:=(Zc4 d Ad md cd Bd dd)) O O) ?_;rintro _ w1 ⟨b5,rfl,aU,hE,f⟩;have b1:=Q0 g.size aU;have g:=btr g hE;refine Za O<|ZX aT fun a b _ aV=>ZS b fun aW=>Zm O<|Ze (X0w O Xp)<|Zm O<|Zt aW fun a b=>Q8<|X04 (σ:=Nat) (fun (k:Nat) (a:Act) (w:World)=>Fr a 31 [(1,.slice Al l.length cl),(2,(pZ9 b5)),(9,.slice Al l.length cl),(10,vi (l.length:Int)),(11,vi (k:Int))]/\(k<=l.length)/\(∀ j:Nat,j<k->prQ d l j=false)/\Blk w b5 54 (Zc4 d Ad md cd Bd dd)/\d.ws.length<=dd/\Bl m w) (fun (k:Nat)=>l.length-k) 0 ?_ ?_
 ·exact ⟨b.sb,(Qf _),(fun j hj=>by omega),f,c,g⟩
 intro k a w2 ⟨b,hk,A,f,c,g⟩;refine ZS b fun aX=>Ze (X16 O O)<|ZX aX fun a b _ aY=>X0y b O (fun a6 o=>?_) (fun a6 o=>?_)
 ·have ⟨b6,b2⟩:=Xa (l:=l) (k:=k) Z;have ⟨u9,a7⟩:=Xa (l:=l) (k:=k) (by have:=o;omega);have aG:l.getD k 0=u9:=by rw[Qa,a7];rfl
  refine Q7<|aY _ _<|Q5 fun _ aH=>Q8<|ZS b fun aI=>Zm O<|Zi (k:=k) (u:=u9) (enc:=encI) (l:=l) tv0 O O Xp X0p Xj (h.bx g) a7 O ?_;intro b7 a8;refine Ze (X0 O X8 a8)<|Za O<|Za O<|Zx aI fun a b _ aJ=>Zm O<|Zm O ?_;have e:=((h.bx g).top).takeK Xj k;refine Ze (X3p (l:=l) (k:=k) O O Xp X0p O hk aS)<|Ze (X0w O Xp)<|Zm O<|Zt aJ fun a b=>Q8<|X04 (σ:=Nat) (fun (j:Nat) (a:Act) (w:World)=>Fr a 31 [(1,.slice Al l.length cl),(2,(pZ9 b5)),(6,vi u9),(9,.slice Al l.length cl),(10,vi (l.length:Int)),(11,vi (k:Int)),(18,.slice Al (l.take k).length cl),(19,vi ((l.take k).length:Int)),(20,vi (j:Int))]/\(j<=(l.take k).length)/\(((l.take k).take j).any (fun y=>tyW d.ws u9 y==1)=false)/\Blk w b5 54 (Zc4 d Ad md cd Bd dd)/\Rd w w2.heap.size 3 encI Al (l.take k)/\d.ws.length<=dd/\Bl m w) (fun (j:Nat)=>(l.take k).length-j) 0 ?_ ?_
  ·exact ⟨b.sb,(Qf _),O,f,e,c,g⟩
  intro j a w3 ⟨b,hj,B,f,e,c,g⟩;refine ZS b fun aK=>Ze (X16 O O)<|ZX aK fun a b _ aL=>X0y b O (fun aA p=>?_) (fun aA p=>?_)
  ·have ⟨b8,b3⟩:=Xa (l:=(l.take k)) (k:=j) Z;have b9:(l.take k).length<=1000000000:=by rw[Qn];omega
   have ⟨v9,aB⟩:=Xa (l:=l.take k) (k:=j) (by have:=p;omega);refine Q7<|aL _ _<|Q5 fun _ aM=>Q8<|ZS b fun aN=>Zi (k:=j) (u:=v9) (enc:=encI) (l:=(l.take k)) tv0 O O Xp X0p Xj e aB O ?_;intro bC aC;refine Ze (X0 O X8 aC)<|Za O<|Zx aN fun a b _ aO=>Ze (Vn X2 f)<|Zm O<|Zm O<|Zf (Vc (X8a _ d md aD Ad cd (aE.bx g).top Bd dd (aF.bx g).top c u9 v9 aR) X4d) ?_;rintro _ w4 ⟨rfl,hE⟩;have ⟨f,e,g⟩:=mv3 hE f e g;refine Ze (X0l O O)<|Zt aO fun a b=>Xx b O ?_ ?_<;>intro q
   ·have x:prD d l=true:=Xyh (k:=k) (by have:=(Qg.1 a7).1;omega) (by unfold prQ;rw[aG];exact Xv0 aB (by have h9:=q;simpa using h9));exact ZS b fun aP=>Za O<|Zt aP fun a b=>Q6<|Xu<|X9<|X9<|Xu<|Xu<|X9<|X9<|Xu<|X9<|X6 b (Xq b O O)<|⟨by rw[x],g⟩
   have aZ:(tyW d.ws u9 v9==1)=false:=by have h9:=q;simpa using h9
   exact Q7<|Xd<|aM _ _<|Zr b<|Ze (Xr O O Z Z)<|Zm O<|Zn fun a b=>Xh<|⟨j+1,⟨b.sb,Z,(Y2d B aB aZ),f,e,c,g⟩,Z⟩
  have b0:prQ d l k=false:=by unfold prQ;rw[aG];exact Xuy B (by have:=p;omega)
  exact Q9<|Xk<|Xk<|X06<|Xd<|aH _ _<|Zr b<|Ze (Xr O O Z Z)<|Zm O<|Zn fun a b=>Xh<|⟨k+1,⟨b.sb,Z,(fun i hi=>by by_cases h9:i=k;rw[h9];exact b0;exact A i Z),f,c,g⟩,Z⟩
 have x:prD d l=false:=Y62 fun j hj=>A j (by have:=o;omega);refine Q9<|Xk<|Xk<|X06<|aV _ _<|ZS b fun aQ=>Za O<|Zt aQ fun a b=>Q6 (X6 b (Xq b O O) ?_);exact ⟨by rw[x],g⟩
end Go.Proofs.YthbobfjhofgfdaaGreat
