/-
  For every circuit, the program's OneQubitPass answers as the reference's does, leaves its argument as it was and hands out memory of its own; the argument and the package's variable half read as before. Conditions: none beside the variable's value that the card ties to the program's text.
-/
import Derived.Test.YtkhbopcihjobdaaGreatDoorO4
import Derived.Test.YtkhbopcihjobdaaGreatDoorO3
import Derived.Test.YtkhbopcihjobdaaGreatDoorO1
import Derived.Test.YtkhbopcihjobdaaGreatDoorO2
set_option linter.unusedVariables false
set_option linter.defProp false
set_option linter.unusedSimpArgs false
set_option maxHeartbeats 1000000
set_option maxRecDepth 4000
set_option linter.unusedSectionVars false
namespace Go.Proofs.YtkhbopcihjobdaaGreatDoor
open Go.RowKit Go.Proofs.Tryz
def VR(E:World)(c:Cx)(U:Option Addr)(W:Nat)(d:Rw E 52 ab U c.gs)(z:c.gs.length<=W)(G:gf c=true):RE 29 [.agg #[vi c.n,.slice U c.gs.length W]] E (fun v w=>∃ A9 e9 B9 f9,v=.tuple #[.agg #[vi ((r' c).getD df).pos,.slice A9 ((r' c).getD df).old.length e9,.slice B9 ((r' c).getD df).new.length f9],.bool (r' c).isSome]/\ah w E.heap.size 52 3 ab A9 e9 ((r' c).getD df).old/\ah w E.heap.size 52 3 ab B9 f9 ((r' c).getD df).new/\a_ A9 B9/\Bl E w):=by
 have ⟨bE,bF,bG⟩:=n' G;refine enter func29 O 35 O O ?_;intro a m;have p:=bz E;refine ZS m fun aZ=>Zf (bt (zs:=[vi c.n,.slice U c.gs.length W]) O O) ?_;rintro _ w1 ⟨b3,rfl,b0,y,g⟩;have bC:=Q0 p.size b0;have d:=d.bw y;have p:=aa p y;refine Zf (Xi (zs:=[vi 0,.slice none 0 0,.slice none 0 0]) px O) ?_;rintro _ w2 ⟨b6,rfl,b1,y,f⟩;have aA:=Q0 p.size b1;have ⟨g,d,p⟩:=bh y g d p;refine Za O<|ZX aZ fun a m _ b2=>ZS m fun b4=>Ze (Vd O is 1)<|Ze (X0 O gj (g.at 1))<|Ze (fh O Xp)<|Zm O<|Zt b4 fun a m=>Q8<|Xw (σ:=Nat) (fun (k:Nat) (a:Act) (w:World)=>Fr a 35 [(1,(ae b3)),(2,(ae b6)),(11,vi (c.gs.length:Int)),(12,vi (k:Int))]/\(k<=c.gs.length)/\(vl c k)/\al w b3 28 [vi c.n,.slice U c.gs.length W]/\al w b6 56 [vi 0,.slice none 0 0,.slice none 0 0]/\Rd w E.heap.size 52 ab U c.gs/\c.gs.length<=W/\Bl E w) (fun (k:Nat)=>c.gs.length-k) 0 ?_ ?_
 ·exact ⟨m.sb,(Qf _),O,g,f,d,z,p⟩
 intro k a w3 ⟨m,hk,hS,g,f,d,z,p⟩;refine ZS m fun b5=>Ze (ew O O)<|ZX b5 fun a m _ aF=>eh m O (fun aB aG=>?_) (fun aB aG=>?_)
 ·have ⟨bH,bD⟩:=Xe (l:=c.gs) (k:=k) O0;refine Q7<|aF _ _<|Q5 fun _ aH=>Q8<|ZS m fun aI=>Zm O<|Za O<|Zx aI fun a m _ aJ=>Ze (Vn g_ g)<|Zm O<|Zf (Vc (R0 _ c U W d.top z k G O0) V7) ?_;rintro _ w4 ⟨aK,b7,lsq,rfl,o,i,h,y⟩;have ⟨g,f,d,p⟩:=dk y g f d p;refine Ze (fh O wK)<|Zm O<|Zt aJ fun a m=>Q8<|Xw (σ:=Nat) (fun (j:Nat) (a:Act) (w:World)=>Fr a 35 [(1,(ae b3)),(2,(ae b6)),(4,vi (k:Int)),(11,vi (c.gs.length:Int)),(12,vi (k:Int)),(17,.slice aK lsq.length b7),(18,vi (lsq.length:Int)),(19,vi (j:Int))]/\(j<=lsq.length)/\(tR c k j)/\al w b3 28 [vi c.n,.slice U c.gs.length W]/\al w b6 56 [vi 0,.slice none 0 0,.slice none 0 0]/\Rd w E.heap.size 52 ab U c.gs/\Rd w w4.heap.size 66 tE aK lsq/\c.gs.length<=W/\(∀ s9 ∈ lsq,Rd w w4.heap.size 3 bk s9.A s9.l)/\Bl E w) (fun (j:Nat)=>lsq.length-j) 0 ?_ ?_
  ·exact ⟨m.sb,(Qf _),(VI c k),g,f,d,o,z,i,p⟩
  intro j a w5 ⟨m,hj,hL,g,f,d,o,z,i,p⟩;refine ZS m fun aL=>Ze (ew O O)<|ZX aL fun a m _ aM=>eh m O (fun aC aN=>?_) (fun aC aN=>?_)
  ·have ⟨e,B⟩:=Xe (l:=lsq) (k:=j) O0;have bI:e.l.length<=2:=Sp c k _ (Qe (Be h B));have bJ:lsq.length<=2:=by have h9:=T8 c k;rw[<- h,Qo] at h9;exact h9
   refine Q7<|aM _ _<|Q5 fun _ aO=>Q8<|ZS m fun aP=>Zi (k:=j) (u:=e) (enc:=tE) (l:=lsq) ad O O wK Ll SV o B O ?_;intro bK aD;have aQ:=i e (Qe B);refine Ze (X0 O uY aD)<|Za O<|Zx aP fun a m _ aR=>Ze (Vn g_ g)<|Zm O<|Zm O<|Zf (ki (vs:=[.agg #[vi c.n,.slice U c.gs.length W],vi (k:Int),.slice e.A e.l.length e.c]) O Ox (by have hq:=Kr w5 c U W d.top z (k:Int) e.A e.c e.l aQ.top G O0;rw[<- QS G] at hq;exact hq)) ?_;rintro _ w6 ⟨I,J,L,M,rfl,q,t,N,y⟩;have q:=q.lower p.size;have t:=t.lower p.size;have ⟨g,f,d,o⟩:=dk y g f d o;have i:=fun s9 C=>(i s9 C).bw y;have p:=aa p y;refine Zm O<|Ze (X2 (vs:=[.agg #[vi (((jp c (k:Int) e.l).getD df).pos),.slice I (((jp c (k:Int) e.l).getD df).old).length J,.slice L (((jp c (k:Int) e.l).getD df).new).length M],.bool ((jp c (k:Int) e.l).isSome)]) O O)<|Ze (X2 (vs:=[.agg #[vi (((jp c (k:Int) e.l).getD df).pos),.slice I (((jp c (k:Int) e.l).getD df).old).length J,.slice L (((jp c (k:Int) e.l).getD df).new).length M],.bool ((jp c (k:Int) e.l).isSome)]) O O)<|Zf (Xi (zs:=[vi 0,.slice none 0 0,.slice none 0 0]) px O) ?_;rintro _ w7 ⟨b31,rfl,aS,y,x⟩;have aT:b6≠b31:=by have:=f.lt;omega
   have aE:=Q0 p.size aS;have ⟨g,f,d,o,q,t⟩:=kf y g f d o q t;have i:=fun s9 C=>(i s9 C).bw y;have p:=aa p y;refine Zo (Vw [vi (((jp c (k:Int) e.l).getD df).pos),.slice I (((jp c (k:Int) e.l).getD df).old).length J,.slice L (((jp c (k:Int) e.l).getD df).new).length M] ml x) ?_;intro _ w8 ⟨D,hb⟩;have g:=g.oz D x O;have f:=f.oy D O0;have d:=d.oT D x O;have o:=o.oT D x O;have q:=q.oT D x O;have t:=t.oT D x O;have i:=fun s9 C=>(i s9 C).oT D x O;have p:=Below.oy p D aE;have x:=hb;refine Za O<|Zx aR fun a m _ aU=>Zm O<|Zt aU fun a m=>Xz m O ?_ ?_<;>intro H
   ·have Q:=Kf hS O0 hL (Be h B) H;have aW:(jp c (k:Int) e.l).isSome=true:=H;refine ZS m fun aX=>Ze (Vn mt x)<|Zo (Vw [vi (((jp c (k:Int) e.l).getD df).pos),.slice I (((jp c (k:Int) e.l).getD df).old).length J,.slice L (((jp c (k:Int) e.l).getD df).new).length M] ml f) ?_;intro _ w9 ⟨D,hb⟩;have q:=q.oT D f O;have t:=t.oT D f O;have i:=fun s9 C=>(i s9 C).oT D f O;have p:=Below.oy p D aA;have f:=hb;refine Za O<|Zt aX fun a m=>Q6<|Xn<|X3<|X3<|Xn<|Xn<|X3<|X3<|Xn<|X3<|X4 m (dj m O (an.cellN (l:=[vi (((jp c (k:Int) e.l).getD df).pos),.slice I (((jp c (k:Int) e.l).getD df).old).length J,.slice L (((jp c (k:Int) e.l).getD df).new).length M]) O mt (f.at 0) O) O) ?_;rw[Q,aW];exact ⟨I,J,L,M,O,q,t,N,p⟩
   have b8:(jp c (k:Int) e.l).isSome=false:=H;exact Q7<|Xk<|aO _ _<|Zr m<|Ze (Xs O O O0 O0)<|Zm O<|Zn fun a m=>Xb<|⟨j+1,⟨m.sb,O0,(Uy hL (Be h B) b8),g,f,d,o,z,i,p⟩,O0⟩
  have b9:=KJ hL (by rw[<- h,Qo];omega);exact Q9<|Xf<|Xf<|Xv<|Xk<|aH _ _<|Zr m<|Ze (Xs O O O0 O0)<|Zm O<|Zn fun a m=>Xb<|⟨k+1,⟨m.sb,O0,(Ly hS b9),g,f,d,z,p⟩,O0⟩
 have Q:=K1 hS O0;refine Q9<|Xf<|Xf<|Xv<|b2 _ _<|ZS m fun aY=>Ze (Xg (ps:=[]) (cs:=[vi 0,.slice none 0 0,.slice none 0 0]) O (fun _=>by first|rfl|kernel_rfl))<|Zo (Vw [vi 0,.slice none 0 0,.slice none 0 0] ml f) ?_;intro _ bL ⟨D,hb⟩;have p:=Below.oy p D aA;have f:=hb;refine Za O<|Zt aY fun a m=>Q6 (X4 m (dj m O (an.cellN (l:=[vi 0,.slice none 0 0,.slice none 0 0]) O mt (f.at 0) O) O) ?_);rw[Q];exact ⟨none,0,none,0,O,(ah.nil _ _ _ _ _),(ah.nil _ _ _ _ _),(a_.none_l _),p⟩
def wG(z:World)(c:Cx)(Ac:Option Addr)(cc:Nat)(t:Rw z 52 ab Ac c.gs)(aK:c.gs.length<=100000000):RE 28 [.agg #[vi c.n,.slice Ac c.gs.length cc]] z (fun v w=>∃ A e,v=.agg #[vi c.n,.slice A c.gs.length e]/\ah w z.heap.size 52 3 ab A e c.gs/\Bl z w):=by
 refine enter func28 O 10 O O ?_;intro a q;have g:=bz z;refine ZS q fun aD=>Zf (bt (zs:=[vi c.n,.slice Ac c.gs.length cc]) O O) ?_;rintro _ w1 ⟨b3,rfl,aE,i,d⟩;have aJ:=Q0 g.size aE;have g:=aa g i;refine Zf (Xi (zs:=[vi 0,.slice none 0 0]) oN O) ?_;rintro _ w2 ⟨b5,rfl,aF,i,f⟩;have aC:b3≠b5:=by have:=d.lt;omega
 have u:=Q0 g.size aF;have d:=d.bw i;have g:=aa g i;refine ZX aD fun a q _ aG=>eo (fun a w=>∃ B C,Fr a 10 [(2,(ae b5))]/\ah w z.heap.size 52 3 ab B C c.gs/\al w b3 28 [vi c.n,.slice Ac c.gs.length cc]/\al w b5 28 [vi c.n,.slice B c.gs.length C]/\Bl z w) ?_ ?_
 ·refine gx none (fun j=>[5,7].contains j) mixed ?_;intro w3 i;have ⟨d,f,g⟩:=bh i d f g;refine Yb q<|Yo 0 O (fun _=>Vd O oY 0)<|Yo 3 O (fun _=>Vd O is 1)<|Ye 4 O (X0 O gj (d.at 1))<|Y2 1 2 ?_ ?_
  ·refine Yz O ad (rS (X0 O X8 (d.at 0)))<|Y1 2<|Yk O ad (X6 (k:=0) (vs:=[]) (zs:=[]) O Xp Xx O O) (fun _ _ ⟨_,_,_,h,_⟩=>h) ?_;rintro _ w4 ⟨b7,rfl,aH,i,aI⟩;have aA:=Q0 g.size aH;have ⟨d,f,g⟩:=bh i d f g;refine Y1 5<|Yt O ad O (vW (enc:=ab) (l2:=(c.gs)) O O Xp Xx Xl lk aI (t.bx g) (by simp only[maxLen];omega) O0) ?_;rintro _ w5 ⟨B,C,rfl,p,i⟩;have p:=p.lower aA;have ⟨d,f,g⟩:=bh i d f g;refine Yo 6 O (fun _=>Xg (ps:=[(0,vi c.n),(1,.slice B c.gs.length C)]) (cs:=[vi c.n,.slice B c.gs.length C]) O (fun _=>by first|rfl|kernel_rfl))<|Y1 7<|Yh O ad O (Vw [vi c.n,.slice B c.gs.length C] mc f) ?_;intro _ w6 ⟨x,hb⟩;have d:=d.oy x O0;have p:=p.oT x f O;have g:=Below.oy g x u;have f:=hb;exact Yd fun a q=>⟨B,C,q.sb,p,d,f,g⟩
  refine Yk O ad (X6 (k:=0) (vs:=[]) (zs:=[]) O Xp Xx O O) (fun _ _ ⟨_,_,_,h,_⟩=>h) ?_;rintro _ w7 ⟨aL,rfl,aB,i,I⟩;have y:=Q0 g.size aB;have ⟨d,f,g⟩:=bh i d f g;refine Y2 1 5 ?_ ?_
  ·refine Yz O ad (rS (X0 O X8 (d.at 0)))<|Y1 5<|Yt O ad O (vW (enc:=ab) (l2:=(c.gs)) O O Xp Xx Xl lk I (t.bx g) (by simp only[maxLen];omega) O0) ?_;rintro _ w8 ⟨D,E,rfl,m,i⟩;have m:=m.lower y;have ⟨d,f,g⟩:=bh i d f g;refine Yo 6 O (fun _=>Xg (ps:=[(0,vi c.n),(1,.slice D c.gs.length E)]) (cs:=[vi c.n,.slice D c.gs.length E]) O (fun _=>by first|rfl|kernel_rfl))<|Y1 7<|Yh O ad O (Vw [vi c.n,.slice D c.gs.length E] mc f) ?_;intro _ w9 ⟨x,hb⟩;have d:=d.oy x O0;have m:=m.oT x f O;have g:=Below.oy g x u;have f:=hb;exact Yd fun a q=>⟨D,E,q.sb,m,d,f,g⟩
  refine Yt O ad O (vW (enc:=ab) (l2:=(c.gs)) O O Xp Xx Xl lk I (t.bx g) (by simp only[maxLen];omega) O0) ?_;rintro _ aM ⟨G,H,rfl,o,i⟩;have o:=o.lower y;have ⟨d,f,g⟩:=bh i d f g;refine Y1 1<|Yz O ad (rS (X0 O X8 (d.at 0)))<|Yo 6 O (fun _=>Xg (ps:=[(0,vi c.n),(1,.slice G c.gs.length H)]) (cs:=[vi c.n,.slice G c.gs.length H]) O (fun _=>by first|rfl|kernel_rfl))<|Y1 7 ?_;refine Yh O ad O (Vw [vi c.n,.slice G c.gs.length H] mc f) ?_;intro _ aN ⟨x,hb⟩;have d:=d.oy x O0;have o:=o.oT x f O;have g:=Below.oy g x u;have f:=hb;exact Yd fun a q=>⟨G,H,q.sb,o,d,f,g⟩
 intro a aO ⟨B,C,q,p,d,f,g⟩;refine aG _ _<|Q6 (X4 q (Xu q O (an.cellN (l:=[vi c.n,.slice B c.gs.length C]) O g_ (f.at 0) O)) ?_);exact ⟨B,C,O,p,g⟩
def P2(w0:World)(y:Nat)(aL:y<=w0.heap.size)(A:Option Addr)(c:Nat)(l:List Sr)(t:ah w0 y 56 3 dv A c l)(s0:Sr)(g:bj w0 y (52:TypeId) (s0::l))(k:Int)(hk:0<=k/\k<=10000000)(aW:l.length<=400)(aD:∀ s ∈ l,s.old.length<=40/\s.new.length<=40):RE 23 [.slice A l.length c,vi k] w0 (fun v w=>v=vi (k+lx l)/\ah w y 56 3 dv A c (gt k l)/\bj w y (52:TypeId) (s0::gt k l)/\Mk y (52:TypeId) (56:TypeId) w0 w):=by
 refine enter func23 O 34 O O ?_;intro a p;have h:Mk y (52:TypeId) (56:TypeId) w0 w0:=Mk.refl aL;refine ZS p fun aM=>Za O<|ZX aM fun a p _ aN=>ZS p fun aO=>Za O<|Zt aO fun a p=>Q8<|Xw (σ:=Nat×Int×(List Sr)) (fun (s:Nat×Int×(List Sr)) (a:Act) (w:World)=>match s with|(j,q,m)=>Fr a 34 [(0,.slice A l.length c),(1,vi q),(5,vi (j:Int))]/\(q=k+lx (l.take j))/\(j<=l.length)/\(m.length=l.length)/\(ud k l j m)/\ah w y 56 3 dv A c m/\bj w y (52:TypeId) (s0::m)/\Mk y (52:TypeId) (56:TypeId) w0 w) (fun (s:Nat×Int×(List Sr))=>match s with|(j,q,m)=>l.length-j) (0,k,l) ?_ ?_
 ·exact ⟨p.sb,(by simp[lx]),(Qf _),O,(VB _ _),t,g,h⟩
 intro ⟨j,q,m⟩ a w1 ⟨p,hq,hj,aE,hm,t,g,h⟩;refine Q5 fun _ aP=>ZS p fun aQ=>Zm O<|Zm O<|Ze (fh O pR)<|Ze (ew O O)<|Zt aQ fun a p=>eh p O (fun aF aR=>?_) (fun aF aR=>?_)
 ·have ⟨u8,C⟩:=Xe (l:=l) (k:=j) O0;have ⟨e,C⟩:=Xe (l:=m) (k:=j) O0;have aA:=P5 hm C O0;have ⟨aX,aY⟩:=aD e (Qe aA);have aS:=xX (m:=40) (l:=l.take j) (fun s hs=>aD s (Wd hs));rw[Qn] at aS;have aZ:=tZ (l.take j);have b0:=GL aA;refine Q7<|aP _ _<|Q5 fun _ aT=>Q8<|ZS p fun aG=>Zm O<|Zm O<|Zm O<|Ze (z8 (k:=j) O O pR ml t aE.symm O O0)<|Ze (Aj O rF (m':=j*3+0) O)<|Zo (zD (enc:=dv) (l:=m) (vs:=[vi q]) (x0:=e) (u:=(⟨q,e.A,e.c,e.old,e.B,e.d,e.new⟩ : Sr)) (k:=j) (j:=0) (n1:=1) O O jw t sk O O O O O2 C O) ?_;intro _ w2 ⟨n,z⟩;have f:=t;have g:=g.appT f z O;have h:=h.app f z (.inr O);clear f z;clear t;have t:=n;clear n;refine Zx aG fun a p _ aH=>Zm O<|Ze (Xs O O O0 O0)<|Za O<|Zx aH fun a p _ aI=>Zm O<|Zm O<|Zj (k:=j) (u:=(⟨q,e.A,e.c,e.old,e.B,e.d,e.new⟩ : Sr)) (enc:=dv) (l:=(m.set j (⟨q,e.A,e.c,e.old,e.B,e.d,e.new⟩ : Sr))) ad O O5 O pR ml sk t.rd (wA O0) O ?_;intro b1 aB;refine Ze (uc O rf)<|Ze (X0 O gj (aB.drop 1))<|Zm O ?_;have o:((m.set j (⟨q,e.A,e.c,e.old,e.B,e.d,e.new⟩ : Sr)))[j]? = some (⟨q,e.A,e.c,e.old,e.B,e.d,e.new⟩ : Sr):=(wA O0);replace g:bj w2 y (52:TypeId) (s0::(m.set j (⟨q,e.A,e.c,e.old,e.B,e.d,e.new⟩ : Sr))):=bj.pos (i:=j+1) g (by exact C);refine Zf (Vc (CJ _ y (⟨q,e.A,e.c,e.old,e.B,e.d,e.new⟩ : Sr).A (⟨q,e.A,e.c,e.old,e.B,e.d,e.new⟩ : Sr).c (⟨q,e.A,e.c,e.old,e.B,e.d,e.new⟩ : Sr).old (g.1 (⟨q,e.A,e.c,e.old,e.B,e.d,e.new⟩ : Sr) (Ql _ (Qe o))).1 (q+1) O0 O8) Ba) ?_;rintro _ w3 ⟨rfl,n,z⟩;have f:=(g.1 (⟨q,e.A,e.c,e.old,e.B,e.d,e.new⟩ : Sr) (Ql _ (Qe o))).1;have t:=t.appT f z O;have h:=h.app f z (.inl O);replace g:bj w3 y (52:TypeId) (s0::((m.set j (⟨q,e.A,e.c,e.old,e.B,e.d,e.new⟩ : Sr)).set j (⟨q,e.A,e.c,bu (q+1) e.old.length,e.B,e.d,e.new⟩ : Sr))):=bj.setA (i:=j+1) g (x:=(⟨q,e.A,e.c,e.old,e.B,e.d,e.new⟩ : Sr)) o n z;replace t:ah w3 y 56 3 dv A c ((m.set j (⟨q,e.A,e.c,e.old,e.B,e.d,e.new⟩ : Sr)).set j (⟨q,e.A,e.c,bu (q+1) e.old.length,e.B,e.d,e.new⟩ : Sr)):=t.reS o (sH _ _) O;clear f n z o;refine Za O<|Zt aI fun a p=>Zr p<|Zm O<|Zm O<|Zj (k:=j) (u:=(⟨q,e.A,e.c,bu (q+1) e.old.length,e.B,e.d,e.new⟩ : Sr)) (enc:=dv) (l:=((m.set j (⟨q,e.A,e.c,e.old,e.B,e.d,e.new⟩ : Sr)).set j (⟨q,e.A,e.c,bu (q+1) e.old.length,e.B,e.d,e.new⟩ : Sr))) ad O O5 O pR ml sk t.rd (by rw[List.set_set];exact (wA O0)) O ?_;intro b2 aC;refine Ze (uc O qV)<|Ze (X0 O gj (aC.drop 2))<|Zm O ?_;have o:(((m.set j (⟨q,e.A,e.c,e.old,e.B,e.d,e.new⟩ : Sr)).set j (⟨q,e.A,e.c,bu (q+1) e.old.length,e.B,e.d,e.new⟩ : Sr)))[j]? = some (⟨q,e.A,e.c,bu (q+1) e.old.length,e.B,e.d,e.new⟩ : Sr):=(by rw[List.set_set];exact wA O0);refine Zf (Vc (CJ _ y (⟨q,e.A,e.c,bu (q+1) e.old.length,e.B,e.d,e.new⟩ : Sr).B (⟨q,e.A,e.c,bu (q+1) e.old.length,e.B,e.d,e.new⟩ : Sr).d (⟨q,e.A,e.c,bu (q+1) e.old.length,e.B,e.d,e.new⟩ : Sr).new (g.1 (⟨q,e.A,e.c,bu (q+1) e.old.length,e.B,e.d,e.new⟩ : Sr) (Ql _ (Qe o))).2.1 ((q+1)+3*((⟨q,e.A,e.c,e.old,e.B,e.d,e.new⟩ : Sr).old.length:Int)) O8 O8) Ba) ?_;rintro _ w4 ⟨rfl,n,z⟩;have f:=(g.1 (⟨q,e.A,e.c,bu (q+1) e.old.length,e.B,e.d,e.new⟩ : Sr) (Ql _ (Qe o))).2.1;have t:=t.appT f z O;have h:=h.app f z (.inl O)
  replace g:bj w4 y (52:TypeId) (s0::(((m.set j (⟨q,e.A,e.c,e.old,e.B,e.d,e.new⟩ : Sr)).set j (⟨q,e.A,e.c,bu (q+1) e.old.length,e.B,e.d,e.new⟩ : Sr)).set j (⟨q,e.A,e.c,bu (q+1) e.old.length,e.B,e.d,bu (q+1+3*(e.old.length:Int)) e.new.length⟩ : Sr))):=bj.setB (i:=j+1) g (x:=(⟨q,e.A,e.c,bu (q+1) e.old.length,e.B,e.d,e.new⟩ : Sr)) o n z;replace t:ah w4 y 56 3 dv A c (((m.set j (⟨q,e.A,e.c,e.old,e.B,e.d,e.new⟩ : Sr)).set j (⟨q,e.A,e.c,bu (q+1) e.old.length,e.B,e.d,e.new⟩ : Sr)).set j (⟨q,e.A,e.c,bu (q+1) e.old.length,e.B,e.d,bu (q+1+3*(e.old.length:Int)) e.new.length⟩ : Sr)):=t.reS o O (sH _ _);clear f n z o;exact Za O<|Zn fun a p=>Xk<|aT _ _<|Zr p<|Zm O<|Ze (Xs O O O0 O0)<|Za O<|Zn fun a p=>Xb<|⟨(j+1,q+1+3*(e.old.length:Int)+3*(e.new.length:Int),(((m.set j (⟨q,e.A,e.c,e.old,e.B,e.d,e.new⟩ : Sr)).set j (⟨q,e.A,e.c,bu (q+1) e.old.length,e.B,e.d,e.new⟩ : Sr)).set j (⟨q,e.A,e.c,bu (q+1) e.old.length,e.B,e.d,bu (q+1+3*(e.old.length:Int)) e.new.length⟩ : Sr))),⟨p.sb,O0,O0,(by simp;exact aE),(by rw[List.set_set,List.set_set];exact NW hm aA hq),t,g,h⟩,O3⟩
 refine Q9<|Xf<|Xf<|Xv<|aN _ _<|ZS p fun aJ=>Zm O<|Za O<|Zt aJ fun a p=>Q6 (X4 p (Xu p O O) ?_);have aK:=UB hm O0;have aU:l.take j=l:=Qi O0;subst aK;exact ⟨by rw[hq,aU],t,g,h⟩
theorem MW(w0:World)(p:Nat)(aC:p<=w0.heap.size)(n m:Int)(A:Option Addr)(e:Nat)(gs:List Gt)(B:Option Addr)(f:Nat)(l:List Sr)(D:Option Addr)(g:Nat)(ds:List Gt)(u:ah w0 p 56 3 dv B f l)(c:bj w0 p (52:TypeId) (⟨0,A,e,gs,D,g,ds⟩::l))(k:Int)(hk:0<=k/\k<=1000)(aL:gs.length<=1048576)(aM:ds.length<=1048576)(aD:l.length<=400)(aB:∀ s ∈ l,s.old.length<=40/\s.new.length<=40) : RE 11 [.agg #[vi n,.slice A gs.length e,.slice B l.length f,vi m,.slice D ds.length g],vi k] w0 (fun v w=>v=vi (((k+3*(gs.length:Int))+lx l)+3*(ds.length:Int))/\ah w p 56 3 dv B f (gt (k+3*(gs.length:Int)) l)/\bj w p (52:TypeId) ((⟨0,A,e,bu k gs.length,D,g,bu ((k+3*(gs.length:Int))+lx l) ds.length⟩ : Sr)::gt (k+3*(gs.length:Int)) l)/\Mk p (52:TypeId) (56:TypeId) w0 w):=by
 have aN:=tZ l;have aO:=xX aB;refine enter func11 O 18 O O ?_;intro a z
 have q:Mk p (52:TypeId) (56:TypeId) w0 w0:=Mk.refl aC
 refine ZS z fun aE=>?_;refine Zf (bt (zs:=[vi n,.slice A gs.length e,.slice B l.length f,vi m,.slice D ds.length g]) O O) ?_;rintro _ w1 ⟨b3,rfl,aF,hE,o⟩;have aK:=Q0 q.size aF;have u:=u.bw hE;have c:=c.bw hE;have q:=q.bw hE;refine Za O<|Zx aE fun a z _ aG=>?_;refine Ze (Vd O zf 0)<|Ze (Xt (l:=[vi n,.slice A gs.length e]) O g_ ((o.at 0).take 2) O)<|Zm O<|Zf (Vc (Di _ p A e gs (c.1 (⟨0,A,e,gs,D,g,ds⟩ : Sr) (Qk ..)).1 n k O0 O0) B_) ?_;rintro _ w2 ⟨rfl,d,y⟩
 have j:ah w1 p 52 3 ab A e gs:=(c.1 (⟨0,A,e,gs,D,g,ds⟩ : Sr) (Qk ..)).1
 have o:=o.appT j y O;have u:=u.appT j y O;have q:=q.app j y (.inl O)
 replace c:bj w2 p (52:TypeId) ((⟨0,A,e,bu k gs.length,D,g,ds⟩ : Sr)::l):=bj.setA (i:=0) c (x:=(⟨0,A,e,gs,D,g,ds⟩ : Sr)) O d y
 clear j d y;refine Za O<|Zx aG fun a z _ aH=>Ze (Vd O sM 2)<|Ze (X0 O uI (o.at 2))<|Zm O<|Zf (Vc (P2 _ p (Q0 q.le q.size) B f l u (⟨0,A,e,bu k gs.length,D,g,ds⟩ : Sr) c (k+3*(gs.length:Int)) O0 aD aB) Nj) ?_;rintro _ w3 ⟨rfl,d,t,aA⟩;have o:=aA.kept _ _ _ o O O
 clear u c;have u:=d;have c:=t;have q:=q.trans aA;clear d t aA;refine Za O<|Zx aH fun a z _ aI=>Ze (Vd O qS 3)<|Ze (Xt (l:=[vi m,.slice D ds.length g]) O g_ ((o.at 3).take 2) O)<|Zm O<|Zf (Vc (Di _ p D g ds (c.1 (⟨0,A,e,bu k gs.length,D,g,ds⟩ : Sr) (Qk ..)).2.1 m ((k+3*(gs.length:Int))+lx l) O0 O0) B_) ?_;rintro _ w4 ⟨rfl,d,y⟩
 have j:ah w3 p 52 3 ab D g ds:=(c.1 (⟨0,A,e,bu k gs.length,D,g,ds⟩ : Sr) (Qk ..)).2.1
 have u:=u.appT j y O;have q:=q.app j y (.inl O)
 replace c:bj w4 p (52:TypeId) ((⟨0,A,e,bu k gs.length,D,g,bu ((k+3*(gs.length:Int))+lx l) ds.length⟩ : Sr)::(gt (k+3*(gs.length:Int)) l)):=bj.setB (i:=0) c (x:=(⟨0,A,e,bu k gs.length,D,g,ds⟩ : Sr)) O d y
 clear j d y;refine Za O<|Zx aI fun a z _ aJ=>Zm O<|Za O<|Zt aJ fun a z=>Q6 (X4 z (Xu z O O) ?_)
 exact ⟨O,u,c,q⟩
def V5(t:World)(A:Option Addr)(c m:Nat)(l:List Sr)(hm:m=l.length)(x:Rw t 56 dv A l)(f:ci t t.heap.size (52:TypeId) l)(k:Int)(hk:0<=k/\k<=10000000)(b3:l.length<=400)(aF:∀ s ∈ l,s.old.length<=40/\s.new.length<=40):RE 25 [.slice A m c,vi k] t (fun v w=>v=vi (pT l k)/\Bl t w):=by
 subst hm;refine enter func25 O 40 O O ?_;intro a e;have o:=bz t;refine ZS e fun aT=>Za O<|ZX aT fun a e _ aU=>ZS e fun aW=>Za O<|Zt aW fun a e=>Q8<|Xw (σ:=Nat×Int) (fun (s:Nat×Int) (a:Act) (w:World)=>match s with|(j,q)=>Fr a 40 [(0,.slice A l.length c),(1,vi q),(5,vi (j:Int))]/\(j<=l.length)/\(0<=q/\q<=k+lx (l.take j))/\(pT (l.drop j) q=pT l k)/\ci w t.heap.size 52 l/\Bl t w) (fun (s:Nat×Int)=>match s with|(j,q)=>l.length-j) (0,k) ?_ ?_
 ·exact ⟨e.sb,(Qf _),(by simp[lx];omega),O,f,o⟩
 intro ⟨j,q⟩ a w1 ⟨e,hj,hq,hp,f,o⟩;refine Q5 fun _ aX=>ZS e fun aY=>Zm O<|Zm O<|Ze (fh O pR)<|Ze (ew O O)<|Zt aY fun a e=>eh e O (fun aG aZ=>?_) (fun aG aZ=>?_)
 ·have ⟨u8,b4⟩:=Xe (l:=l) (k:=j) O0;have ⟨g,n⟩:=Xe (l:=l) (k:=j) O0;rw[Vh n] at hp;have ⟨b5,b6⟩:=aF g (Qe n);have b0:=xX (m:=40) (l:=l.take j) (fun s hs=>aF s (Wd hs));rw[Qn] at b0;have b7:=GL n;have b8:=vV g.old (q+1) O0;refine Q7<|aX _ _<|Q5 fun _ b1=>Q8<|Q5 fun _ aH=>ZS e fun aI=>Zm O<|Zm O<|Zi (k:=j) (u:=g) (enc:=dv) (l:=l) ad O O pR ml sk (x.bx o) n O ?_;intro b9 aA;refine Ze (uc O rF)<|Ze (X0 O X8 (aA.drop 0))<|Zm O<|Ze (kz O O)<|Zt aI fun a e=>Xz e O ?_ ?_<;>intro y
  ·have b2:¬ g.pos=q:=by simpa using y
   have i:pT l k = -1:=by rw[<- hp,Q4 (by unfold rn;rw[Q3 b2];decide)]
   exact ZS e fun aJ=>Za O<|Zt aJ fun a e=>Q6<|X3<|Xn<|X3<|X3<|Xn<|X3<|X4 e (Xu e O O)<|⟨by rw[i],o⟩
  have g1:g.pos=q:=by simpa using y
  refine Q7<|aH _ _<|ZS e fun aK=>Zm O<|Ze (Xs O O O0 O0)<|Za O<|Zx aK fun a e _ aL=>Zm O<|Zm O<|Zi (k:=j) (u:=g) (enc:=dv) (l:=l) ad O O pR ml sk (x.bx o) n O ?_;intro bC aB;refine Ze (uc O rf)<|Ze (X0 O gj (aB.drop 1))<|Zm O<|Zf (Vc (Bt _ g.A g.c g.old.length g.old O (f g (Qe n)).1.top (q+1) O0 O0) Cf) ?_;rintro _ w2 ⟨rfl,hE⟩;have f:=f.bw hE;have o:=aa o hE;refine Za O<|ZX aL fun a e _ aM=>ZS e fun aN=>Zm O<|Ze (ew O O)<|Zt aN fun a e=>eh e O (fun aC z=>?_) (fun aC z=>?_)
  ·have i:pT l k = -1:=by rw[<- hp,Q4 (by unfold rn;rw[Q4 g1,Q4 z];decide)]
   exact ZS e fun aO=>Za O<|Zt aO fun a e=>Q6<|X3<|Xn<|X3<|X3<|Xn<|X3<|X4 e (Xu e O O)<|⟨by rw[i],o⟩
  have g2:=z;have bD:=vV g.new (db g.old (q+1)) O0;refine Q7<|aM _ _<|ZS e fun aP=>Zm O<|Zm O<|Zi (k:=j) (u:=g) (enc:=dv) (l:=l) ad O O pR ml sk (x.bx o) n O ?_;intro bE aD;refine Ze (uc O qV)<|Ze (X0 O gj (aD.drop 2))<|Zm O<|Zf (Vc (Bt _ g.B g.d g.new.length g.new O (f g (Qe n)).2.top (db g.old (q+1)) O0 O0) Cf) ?_;rintro _ w3 ⟨rfl,hE⟩;have f:=f.bw hE;have o:=aa o hE;refine Za O<|Zx aP fun a e _ aQ=>Zm O<|Ze (ew O O)<|Zt aQ fun a e=>eh e O (fun aE p=>?_) (fun aE p=>?_)
  ·have i:pT l k = -1:=by rw[<- hp,Q4 (by unfold rn;rw[Q4 g1,Q3 g2,Q4 p];decide)]
   exact ZS e fun aR=>Za O<|Zt aR fun a e=>Q6<|Xn<|X3<|X3<|Xn<|X3<|X4 e (Xu e O O)<|⟨by rw[i],o⟩
  have g4:rn g q=db g.new (db g.old (q+1)):=by unfold rn;rw[Q4 g1,Q3 g2,Q3 p]
  rw[g4,Q3 p] at hp;exact Q7<|Xk<|b1 _ _<|Zr e<|Zm O<|Ze (Xs O O O0 O0)<|Za O<|Zn fun a e=>Xb<|⟨(j+1,db g.new (db g.old (q+1))),⟨e.sb,O0,O0,hp,f,o⟩,O3⟩
 have i:pT l k=q:=by rw[<- hp,W3 O0];rfl
 refine Q9<|Xf<|Xf<|Xv<|aU _ _<|ZS e fun aS=>Zm O<|Za O<|Zt aS fun a e=>Q6 (X4 e (Xu e O O) ?_);exact ⟨by rw[i],o⟩
theorem FZ(p:World)(n m:Int)(A:Option Addr)(e ea:Nat)(gs:List Gt)(aW:ea=gs.length)(aA:Rw p 52 ab A gs)(B:Option Addr)(f fb:Nat)(l:List Sr)(aX:fb=l.length)(aG:Rw p 56 dv B l)(i:ci p p.heap.size (52:TypeId) l)(D:Option Addr)(g gd:Nat)(ds:List Gt)(aY:gd=ds.length)(aB:Rw p 52 ab D ds)(k:Int)(hk:0<=k/\k<=1000)(b8:gs.length<=1048576)(b9:ds.length<=1048576)(aZ:l.length<=400)(aH:∀ s ∈ l,s.old.length<=40/\s.new.length<=40) : RE 12 [.agg #[vi n,.slice A ea e,.slice B fb f,vi m,.slice D gd g],vi k] p (fun v w=>v=vi (sS gs l ds k)/\Bl p w):=by
 subst aW aX aY
 have bC:=tZ l;have bD:=xX aH;have b6:=vV gs k hk.1
 have aI:=fun h=>E9 l (db gs k) h
 refine enter func12 O 24 O O ?_;intro a c
 have j:=bz p
 refine ZS c fun b0=>?_;refine Zf (bt (zs:=[vi n,.slice A gs.length e,.slice B l.length f,vi m,.slice D ds.length g]) O O) ?_;rintro _ w1 ⟨b5,rfl,b1,q,o⟩;have b7:=Q0 j.size b1;have i:=i.bw q;have j:=aa j q;refine Za O<|Zx b0 fun a c _ b2=>?_;refine Ze (Vd O zf 0)<|Ze (Xt (l:=[vi n,.slice A gs.length e]) O g_ ((o.at 0).take 2) O)<|Zm O<|Zf (Vc (Ic _ A e gs.length gs O (aA.bx j).top n k O0 O0) HV) ?_;rintro _ w2 ⟨rfl,q⟩;have o:=o.bw q;have i:=i.bw q;have j:=aa j q;refine Za O<|ZX b2 fun a c _ b3=>?_;refine ZS c fun b4=>?_;refine Zm O<|Ze (ew O O)<|Zt b4 fun a c=>?_
 refine eh c O (fun aJ aC=>?_) (fun aJ aC=>?_)
 ·have d:sS gs l ds k = -1:=Q4 aC
  exact ZS c fun aK=>Za O<|Zt aK fun a c=>Q6<|X3<|X4 c (Xu c O O)<|⟨by rw [d],j⟩
 have aD:=aC;refine Q7<|b3 _ _<|ZS c fun aL=>Ze (Vd O sM 2)<|Ze (X0 O uI (o.at 2))<|Zm O<|Zf (Vc (V5 _ B f l.length l O (aG.bx j).top i.top (db gs k) O0 aZ aH) OZ) ?_;rintro _ w3 ⟨rfl,q⟩;have o:=o.bw q;have j:=aa j q;refine Za O<|ZX aL fun a c _ aM=>ZS c fun aN=>Zm O<|Ze (ew O O)<|Zt aN fun a c=>eh c O (fun aE t=>?_) (fun aE t=>?_)
 ·have d:sS gs l ds k = -1:=by rw [sS,Q3 aD,Q4 t]
  exact ZS c fun aO=>Za O<|Zt aO fun a c=>Q6<|X3<|X4 c (Xu c O O)<|⟨by rw [d],j⟩
 have aP:=t;refine Q7<|aM _ _<|ZS c fun aQ=>Ze (Vd O qS 3)<|Ze (Xt (l:=[vi m,.slice D ds.length g]) O g_ ((o.at 3).take 2) O)<|Zm O<|Zf (Vc (Ic _ D g ds.length ds O (aB.bx j).top m (pT l (db gs k)) (by have:=aI O0;omega) O0) HV) ?_;rintro _ w4 ⟨rfl,q⟩;have j:=aa j q;refine Za O<|ZX aQ fun a c _ aR=>ZS c fun aS=>Zm O<|Ze (ew O O)<|Zt aS fun a c=>eh c O (fun aF u=>?_) (fun aF u=>?_)
 ·have d:sS gs l ds k = -1:=by rw [sS,Q3 aD,Q3 aP,Q4 u]
  exact ZS c fun aT=>Za O<|Zt aT fun a c=>Q6<|X3<|X4 c (Xu c O O)<|⟨by rw [d],j⟩
 have d:sS gs l ds k=db ds (pT l (db gs k)):=by rw [sS,Q3 aD,Q3 aP,Q3 u]
 refine Q7<|aR _ _<|ZS c fun aU=>Zm O<|Za O<|Zt aU fun a c=>Q6 (X4 c (Xu c O O) ?_)
 exact ⟨by rw [d],j⟩
def ij(w:World) : Prop:=∃ T F,w.heap[0]? = some (.cells (ai pC).toArray T F)
def ij.of{w0 w:World}(h:ij w0)(hW:Bl w0 w):ij w:=by
 have ⟨T,F,h⟩:=h;exact ⟨T,F,(hW.block 0 (Qp.1 h).1).trans h⟩
def ij.at{w:World}(h:ij w)(k:Nat):At w ⟨0,k,none⟩ ((ai pC).drop k):=by
 have ⟨T,F,h⟩:=h;intro j v hj;have e:w.cell? ⟨0,k+j,none⟩=(ai pC)[k+j]?:=by simp[World.cell?,h]
 rw[qD,e,<- hj,List.getElem?_drop]
def gb(x:Dy) : Option Dy:=if dt x=true then some (oK x) else none
def Lp{x:Dy}(h:dt x=false):gb x=none:=by rw[gb,Q3 (by rw[h];decide)]
def F4{x:Dy}(h:dt x=true):gb x=some (oK x):=by rw[gb,Q4 h]
def LR{x:Dy}(h:dt x=true):be (js x.num) [x.num]=js x.num:=by
 have h1:=(sh h).1;have:fk (js x.num) [x.num]=true:=by simp[fk,h1,CM h1]
 rw[be,Q4 this]
def qm(m:Mx) : Option Mx:=if di m=true then ax m.cols m.rows fun i j=>gb (m.at j i) else none
def JB{m:Mx}(h:di m=true):qm m=some (b_ m):=by
 have hd:=qM h;have e:(fun i j=>gb (m.at j i))=fun i j=>some (oK (m.at j i)):=by
  funext i j;exact F4 (Mx.at_ok (oc h) j i)
 rw[qm,Q4 h,e,yr hd.2 hd.1];rfl
def AT{m:Mx}(h:di m=true):m.cells.length<=2305843009213693951:=by
 have h1:=rs h;rw[h1.2.2];exact Q0 (Nat.mul_le_mul (show m.rows.toNat<=32 by omega) (show m.cols.toNat<=32 by omega)) O2
def EH{m:Mx}(h:di m=true):(b_ m).cells.length<=2305843009213693951:=AT (qC h)
def VE{m:Mx}(h:di m=true)(hrc:m.rows=m.cols):sw m.rows=some (ao m.rows.toNat)/\di (ao m.rows.toNat)=true:=by
 have hd:=(qM h).1;have h1:=sW hd;have e:m.rows=((m.rows.toNat:Nat) : Int):=by omega
 have:=s_ (d:=m.rows.toNat) (by rw[<- e];exact hd);rw[<- e] at this;exact this
def EJ{a b c:Mx}(h:bg a b=some c):di c=true:=by
 have hc:(di a&&di b&&a.cols==b.rows)=true:=by unfold bg at h;split at h;assumption;cases h
 simp only[Qd,beq_iff_eq] at hc;exact ((r9 hc.1.1 hc.1.2 hc.2).1 c h).2.1
def Kh{o:Option Mx}(h:∀ c,o=some c->di c=true):(o.getD mZ).cells.length<=2305843009213693951:=by
 cases o with
 | none=>exact Qf _
 | some c=>exact AT (h c rfl)
def yn(a b:Mx):((bg a b).getD mZ).cells.length<=2305843009213693951:=Kh fun _ h=>EJ h
def HT{m:Mx}(h:di m=false∨m.rows≠m.cols):iz m=(false,false):=by
 unfold iz;rw[Q3];simp only[Qd,beq_iff_eq];intro ⟨h1,h2⟩;rcases h with h|h
 ·rw[h1] at h;cases h
 ·exact h h2
def BN{m:Mx}(h:di m=true)(hrc:m.rows=m.cols):iz m=((bg m (b_ m)).isSome&&uE ((bg m (b_ m)).getD mZ) (ao m.rows.toNat),(bg m (b_ m)).isSome):=by
 unfold iz;rw[Q4 (by rw[h,hrc];simp)];cases bg m (b_ m)<;>rfl
def Vs{m:Mx}(h:(di m=false∨m.rows≠2)∨m.cols≠2):li m=false:=by
 cases e:li m with
 | false=>rfl
 | true=>
  have ⟨_,h1,h2,h3⟩:=vE e;rcases h with (h|h)|h
  ·rw[h1] at h;cases h
  ·exact absurd h2 h
  ·exact absurd h3 h
def RR{m:Mx}(h:m.rows=2):li m=((iz m).2&&(iz m).1):=by
 unfold li;rw[h];simp
def Kw(w0:World)(x:Rg):RE 196 [.agg #[vi x.a,vi x.b,vi x.c,vi x.d]] w0 (fun v w=>v=.tuple #[rV (be (js x) [x]),.bool (fk (js x) [x])]/\Bl w0 w):=by
 refine enter func196 O 21 O O ?_;intro a hf;have g:=bz w0;refine ZS hf fun aF=>Zf (bt (zs:=[vi x.a,vi x.b,vi x.c,vi x.d]) O O) ?_;rintro _ w1 ⟨b2,rfl,aG,i,e⟩;have aK:=Q0 g.size aG;have g:=aa g i;refine Zf (Xi (zs:=[vi 0,vi 0,vi 0,vi 0]) nz O) ?_;rintro _ w2 ⟨b3,rfl,aH,i,f⟩;have aC:b2≠b3:=by have:=e.lt;omega
 have aA:=Q0 g.size aH;have e:=e.bw i;have g:=aa g i;refine Za O<|Zx aF fun a hf _ aI=>Ze (Vd O lz 0)<|Ze (X0 O X8 (e.at 0))<|Ze (Vd O lw 3)<|Ze (X0 O X8 (e.at 3))<|Ze (rQ O)<|Ze (Vd O lu 2)<|Ze (X0 O X8 (e.at 2))<|Ze (rQ O)<|Ze (Vd O ly 1)<|Ze (X0 O X8 (e.at 1))<|Ze (rQ O)<|Ze (Xg (ps:=[(0,vi x.a),(1,vi (wr (-x.d))),(2,vi (wr (-x.c))),(3,vi (wr (-x.b)))]) (cs:=[vi x.a,vi (wr (-x.d)),vi (wr (-x.c)),vi (wr (-x.b))]) O (fun _=>by first|rfl|kernel_rfl))<|Ze (Vn g9 e)<|Zf (X6 (k:=1) (vs:=[.agg #[vi x.a,vi x.b,vi x.c,vi x.d]]) (zs:=[vi x.a,vi x.b,vi x.c,vi x.d]) O sX ul O O) ?_;rintro _ w3 ⟨b5,rfl,aJ,i,aB⟩;have aD:b2≠b5:=by have:=e.lt;omega
 have aE:b3≠b5:=by have:=f.lt;omega
 have aL:=Q0 g.size aJ;have f:=f.bw i;have g:=aa g i;refine Zf (Vc (vM _ (⟨x.a,wr (-x.d),wr (-x.c),wr (-x.b)⟩ : Rg) (some ⟨b5,0,none⟩) 1 ([x]) (Rd.of_blk aB O _ aB.lt) O O6 O6) vK) ?_;rintro _ w4 ⟨rfl,i⟩;have f:=f.bw i;have g:=aa g i;refine Ze (X2 (vs:=[.agg #[vi ((be (⟨x.a,wr (-x.d),wr (-x.c),wr (-x.b)⟩ : Rg) ([x])).a),vi ((be (⟨x.a,wr (-x.d),wr (-x.c),wr (-x.b)⟩ : Rg) ([x])).b),vi ((be (⟨x.a,wr (-x.d),wr (-x.c),wr (-x.b)⟩ : Rg) ([x])).c),vi ((be (⟨x.a,wr (-x.d),wr (-x.c),wr (-x.b)⟩ : Rg) ([x])).d)],.bool (fk (⟨x.a,wr (-x.d),wr (-x.c),wr (-x.b)⟩ : Rg) ([x]))]) O O)<|Ze (X2 (vs:=[.agg #[vi ((be (⟨x.a,wr (-x.d),wr (-x.c),wr (-x.b)⟩ : Rg) ([x])).a),vi ((be (⟨x.a,wr (-x.d),wr (-x.c),wr (-x.b)⟩ : Rg) ([x])).b),vi ((be (⟨x.a,wr (-x.d),wr (-x.c),wr (-x.b)⟩ : Rg) ([x])).c),vi ((be (⟨x.a,wr (-x.d),wr (-x.c),wr (-x.b)⟩ : Rg) ([x])).d)],.bool (fk (⟨x.a,wr (-x.d),wr (-x.c),wr (-x.b)⟩ : Rg) ([x]))]) O O)<|Zo (Vw [vi ((be (⟨x.a,wr (-x.d),wr (-x.c),wr (-x.b)⟩ : Rg) ([x])).a),vi ((be (⟨x.a,wr (-x.d),wr (-x.c),wr (-x.b)⟩ : Rg) ([x])).b),vi ((be (⟨x.a,wr (-x.d),wr (-x.c),wr (-x.b)⟩ : Rg) ([x])).c),vi ((be (⟨x.a,wr (-x.d),wr (-x.c),wr (-x.b)⟩ : Rg) ([x])).d)] lr f) ?_;intro _ w5 ⟨ho,hb⟩;have g:=Below.oy g ho aA;have f:=hb;refine Za O<|Zt aI fun a hf=>Q6 (X4 hf (dj hf O (an.cellN (l:=[vi ((be (⟨x.a,wr (-x.d),wr (-x.c),wr (-x.b)⟩ : Rg) ([x])).a),vi ((be (⟨x.a,wr (-x.d),wr (-x.c),wr (-x.b)⟩ : Rg) ([x])).b),vi ((be (⟨x.a,wr (-x.d),wr (-x.c),wr (-x.b)⟩ : Rg) ([x])).c),vi ((be (⟨x.a,wr (-x.d),wr (-x.c),wr (-x.b)⟩ : Rg) ([x])).d)]) O g9 (f.at 0) O) O) ?_);exact ⟨O,g⟩
def L1(w0:World)(x:Dy):RE 165 [.agg #[vi x.num.a,vi x.num.b,vi x.num.c,vi x.num.d,vi x.exp]] w0 (fun v w=>v=.tuple #[dV ((gb x).getD dZ),.bool ((gb x).isSome)]/\Bl w0 w):=by
 refine enter func165 O 20 O O ?_;intro a j;have g:=bz w0;refine ZS j fun aE=>Zf (bt (zs:=[vi x.num.a,vi x.num.b,vi x.num.c,vi x.num.d,vi x.exp]) O O) ?_;rintro _ w1 ⟨b2,rfl,aF,i,e⟩;have aO:=Q0 g.size aF;have g:=aa g i;refine Zf (Xi (zs:=[vi 0,vi 0,vi 0,vi 0,vi 0]) iu O) ?_;rintro _ w2 ⟨b3,rfl,aG,i,f⟩;have aD:b2≠b3:=by have:=e.lt;omega
 have k:=Q0 g.size aG;have e:=e.bw i;have g:=aa g i;refine Za O<|ZX aE fun a j _ aH=>ZS j fun aI=>Ze (Vn Xa e)<|Zf (Vc (tg _ x) s8) ?_;rintro _ w3 ⟨rfl,i⟩;have ⟨e,f,g⟩:=bh i e f g;refine Ze (dn O)<|Zt aI fun a j=>Xz j O ?_ ?_<;>intro aA
 ·have aJ:dt x=false:=by simpa using aA
  refine ZS j fun aK=>Ze (Xg (ps:=[]) (cs:=[vi 0,vi 0,vi 0,vi 0,vi 0]) O (fun _=>by first|rfl|kernel_rfl))<|Zo (Vw [vi 0,vi 0,vi 0,vi 0,vi 0] Xm f) ?_;intro _ w4 ⟨ho,hb⟩;have g:=Below.oy g ho k;have f:=hb;exact Za O<|Zt aK fun a j=>Q6<|X3<|X4 j (dj j O (an.cellN (l:=[vi 0,vi 0,vi 0,vi 0,vi 0]) O Xa (f.at 0) O) O)<|⟨by rw[Lp aJ];rfl,g⟩
 have aB:dt x=true:=by simpa using aA
 refine Q7<|aH _ _<|ZS j fun aL=>Ze (Vd O pG 0)<|Ze (Xt (l:=[vi x.num.a,vi x.num.b,vi x.num.c,vi x.num.d]) O g9 ((e.at 0).take 4) O)<|Zf (Vc (Kw _ x.num) MX) ?_;rintro _ w5 ⟨rfl,i⟩;have ⟨e,f,g⟩:=bh i e f g;refine Zm O<|Ze (X2 (vs:=[.agg #[vi ((be (js x.num) [x.num]).a),vi ((be (js x.num) [x.num]).b),vi ((be (js x.num) [x.num]).c),vi ((be (js x.num) [x.num]).d)],.bool (fk (js x.num) [x.num])]) O O)<|Ze (X2 (vs:=[.agg #[vi ((be (js x.num) [x.num]).a),vi ((be (js x.num) [x.num]).b),vi ((be (js x.num) [x.num]).c),vi ((be (js x.num) [x.num]).d)],.bool (fk (js x.num) [x.num])]) O O)<|ZB [vi ((be (js x.num) [x.num]).a),vi ((be (js x.num) [x.num]).b),vi ((be (js x.num) [x.num]).c),vi ((be (js x.num) [x.num]).d)] nz lr fun b9 w7 aM i aN=>?_;have aP:=Q0 g.size aM;have ⟨e,f,g⟩:=bh i e f g;refine Za O<|Zx aL fun a j _ aC=>Ze (Vn g9 aN)<|Ze (Vd O oJ 4)<|Ze (X0 O X8 (e.at 4))<|Ze (Xg (ps:=[(0,.agg #[vi ((be (js x.num) [x.num]).a),vi ((be (js x.num) [x.num]).b),vi ((be (js x.num) [x.num]).c),vi ((be (js x.num) [x.num]).d)]),(1,vi x.exp)]) (cs:=[vi ((be (js x.num) [x.num]).a),vi ((be (js x.num) [x.num]).b),vi ((be (js x.num) [x.num]).c),vi ((be (js x.num) [x.num]).d),vi x.exp]) O (fun _=>by first|rfl|kernel_rfl))<|Zo (Vw [vi ((be (js x.num) [x.num]).a),vi ((be (js x.num) [x.num]).b),vi ((be (js x.num) [x.num]).c),vi ((be (js x.num) [x.num]).d),vi x.exp] Xm f) ?_;intro _ w8 ⟨ho,hb⟩;have g:=Below.oy g ho k;have f:=hb;refine Za O<|Zt aC fun a j=>Q6 (X4 j (dj j O (an.cellN (l:=[vi ((be (js x.num) [x.num]).a),vi ((be (js x.num) [x.num]).b),vi ((be (js x.num) [x.num]).c),vi ((be (js x.num) [x.num]).d),vi x.exp]) O Xa (f.at 0) O) O) ?_);exact ⟨by rw[F4 aB,LR aB];rfl,g⟩
def Vz(w0:World)(p:Mx)(Aa:Option Addr)(ca:Nat)(ba:Nat)(aB:Rw w0 147 ai Aa p.cells)(g:al w0 ba 91 [vi p.rows,vi p.cols,.slice Aa p.cells.length ca])(aC:di p=true)(i j:Nat)(hi:(i:Int)<p.cols)(hj:(j:Int)<p.rows):RE 164 [vi (i:Int),vi (j:Int),(ae ba)] w0 (fun v w=>v=.tuple #[dV ((gb (p.at j i)).getD dZ),.bool (gb (p.at j i)).isSome]/\Bl w0 w):=by
 have aD:=g.lt;refine enter func164 O 14 O O ?_;intro a hf;have f:=bz w0;refine ZS hf fun aE=>Zf (Xi (zs:=[vi 0,vi 0,vi 0,vi 0,vi 0]) iu O) ?_;rintro _ w1 ⟨b3,rfl,aF,k,e⟩;have aA:=Q0 f.size aF;have g:=g.bw k;have f:=aa f k;refine Za O<|Zx aE fun a hf _ aG=>Ze (Xt (l:=[vi p.rows,vi p.cols,.slice Aa p.cells.length ca]) O fw (g.at 0) O)<|Zm O<|Zm O<|Zf (Vc (u' _ p Aa ca (aB.bx f).top j i aC hj hi) uG) ?_;rintro _ w2 ⟨rfl,k⟩;have e:=e.bw k;have f:=aa f k;refine Zf (Vc (L1 _ (p.at j i)) LX) ?_;rintro _ w3 ⟨rfl,k⟩;have e:=e.bw k;have f:=aa f k;refine Ze (X2 (vs:=[.agg #[vi (((gb (p.at j i)).getD dZ).num.a),vi (((gb (p.at j i)).getD dZ).num.b),vi (((gb (p.at j i)).getD dZ).num.c),vi (((gb (p.at j i)).getD dZ).num.d),vi (((gb (p.at j i)).getD dZ).exp)],.bool ((gb (p.at j i)).isSome)]) O O)<|Ze (X2 (vs:=[.agg #[vi (((gb (p.at j i)).getD dZ).num.a),vi (((gb (p.at j i)).getD dZ).num.b),vi (((gb (p.at j i)).getD dZ).num.c),vi (((gb (p.at j i)).getD dZ).num.d),vi (((gb (p.at j i)).getD dZ).exp)],.bool ((gb (p.at j i)).isSome)]) O O)<|Zo (Vw [vi (((gb (p.at j i)).getD dZ).num.a),vi (((gb (p.at j i)).getD dZ).num.b),vi (((gb (p.at j i)).getD dZ).num.c),vi (((gb (p.at j i)).getD dZ).num.d),vi (((gb (p.at j i)).getD dZ).exp)] Xm e) ?_;intro _ w4 ⟨ho,hb⟩;have f:=Below.oy f ho aA;have e:=hb;refine Za O<|Zt aG fun a hf=>Q6 (X4 hf (dj hf O (an.cellN (l:=[vi (((gb (p.at j i)).getD dZ).num.a),vi (((gb (p.at j i)).getD dZ).num.b),vi (((gb (p.at j i)).getD dZ).num.c),vi (((gb (p.at j i)).getD dZ).num.d),vi (((gb (p.at j i)).getD dZ).exp)]) O Xa (e.at 0) O) O) ?_);exact ⟨O,f⟩
def Jt(w0:World)(p:Mx)(Ap:Option Addr)(cp:Nat)(q:Rw w0 147 ai Ap p.cells)(aD:p.cells.length<=2305843009213693951):RE 126 [.agg #[vi p.rows,vi p.cols,.slice Ap p.cells.length cp]] w0 (fun v w=>∃ A c,v=.tuple #[mV A c ((qm p).getD mZ),.bool (qm p).isSome]/\ah w w0.heap.size 147 5 ai A c ((qm p).getD mZ).cells/\Bl w0 w):=by
 refine enter func126 O 16 O O ?_;intro a k;have e:=bz w0;refine ZS k fun aE=>Zf (bt (zs:=[vi p.rows,vi p.cols,.slice Ap p.cells.length cp]) O O) ?_;rintro _ w1 ⟨b3,rfl,aF,m,f⟩;have aK:=Q0 e.size aF;have e:=aa e m;refine Zf (Xi (zs:=[vi 0,vi 0,.slice none 0 0]) jy O) ?_;rintro _ w2 ⟨b5,rfl,aG,m,d⟩;have aC:b3≠b5:=by have:=f.lt;omega
 have t:=Q0 e.size aG;have f:=f.bw m;have e:=aa e m;refine Za O<|ZX aE fun a k _ aH=>ZS k fun aI=>Ze (Vn fw f)<|Zf (Vc (tq _ p Ap cp (q.bx e).top aD) tr) ?_;rintro _ w3 ⟨rfl,m⟩;have ⟨f,d,e⟩:=bh m f d e;refine Ze (dn O)<|Zt aI fun a k=>Xz k O ?_ ?_<;>intro aA
 ·have hn:di p=false:=by simpa using aA
  refine ZS k fun aJ=>Ze (Xg (ps:=[]) (cs:=[vi 0,vi 0,.slice none 0 0]) O (fun _=>by first|rfl|kernel_rfl))<|Zo (Vw [vi 0,vi 0,.slice none 0 0] jg d) ?_;intro _ w4 ⟨ho,hb⟩;have e:=Below.oy e ho t;have d:=hb;exact Za O<|Zt aJ fun a k=>Q6<|X3<|X4 k (dj k O (an.cellN (l:=[vi 0,vi 0,.slice none 0 0]) O fw (d.at 0) O) O)<|⟨none,0,by rw[qm,hn];rfl,by rw[qm,hn];exact (ah.nil _ _ _ _ _),e⟩
 have hy:di p=true:=by simpa using aA
 refine Q7<|aH _ _<|ZS k fun aB=>Ze (Vd O ou 1)<|Ze (X0 O X8 (f.at 1))<|Ze (Vd O oe 0)<|Ze (X0 O X8 (f.at 0))<|Ze (tQ (vs:=[(ae b3)]) O)<|Zf (Vc (xF _ p.cols p.rows 164 [(ae b3)] Vo (fun i j=>gb (p.at j i)) (fun i j w' hi hj hE'=>Vz w' p _ _ _ ((q.bx e).bw hE').top (f.bw hE') hy i j hi hj)) wL) ?_;rintro _ w5 ⟨n,o,rfl,g,m⟩;have g:=g.lower e.size;have d:=d.bw m;have e:=aa e m;refine Ze (X2 (vs:=[.agg #[vi (((ax p.cols p.rows (fun i j=>gb (p.at j i))).getD mZ).rows),vi (((ax p.cols p.rows (fun i j=>gb (p.at j i))).getD mZ).cols),.slice n (((ax p.cols p.rows (fun i j=>gb (p.at j i))).getD mZ).cells).length o],.bool ((ax p.cols p.rows (fun i j=>gb (p.at j i))).isSome)]) O O)<|Ze (X2 (vs:=[.agg #[vi (((ax p.cols p.rows (fun i j=>gb (p.at j i))).getD mZ).rows),vi (((ax p.cols p.rows (fun i j=>gb (p.at j i))).getD mZ).cols),.slice n (((ax p.cols p.rows (fun i j=>gb (p.at j i))).getD mZ).cells).length o],.bool ((ax p.cols p.rows (fun i j=>gb (p.at j i))).isSome)]) O O)<|Zo (Vw [vi (((ax p.cols p.rows (fun i j=>gb (p.at j i))).getD mZ).rows),vi (((ax p.cols p.rows (fun i j=>gb (p.at j i))).getD mZ).cols),.slice n (((ax p.cols p.rows (fun i j=>gb (p.at j i))).getD mZ).cells).length o] jg d) ?_;intro _ w6 ⟨ho,hb⟩;have g:=g.oT ho d O;have e:=Below.oy e ho t;have d:=hb;refine Za O<|Zt aB fun a k=>Q6 (X4 k (dj k O (an.cellN (l:=[vi (((ax p.cols p.rows (fun i j=>gb (p.at j i))).getD mZ).rows),vi (((ax p.cols p.rows (fun i j=>gb (p.at j i))).getD mZ).cols),.slice n (((ax p.cols p.rows (fun i j=>gb (p.at j i))).getD mZ).cells).length o]) O fw (d.at 0) O) O) ?_);exact ⟨n,o,by rw[qm,Q4 hy],by rw[qm,Q4 hy];exact g,e⟩
abbrev YG:=fun a=>(bg a (b_ a)).getD mZ
def Rh(w0:World)(m:Mx)(Am:Option Addr)(cm:Nat)(t:Rw w0 147 ai Am m.cells)(aA:m.cells.length<=2305843009213693951):RE 163 [.agg #[vi m.rows,vi m.cols,.slice Am m.cells.length cm]] w0 (fun v w=>v=.tuple #[.bool ((iz m).1),.bool ((iz m).2)]/\Bl w0 w):=by
 refine enter func163 O 44 O O ?_;intro a j
 have g:=bz w0
 refine ZS j fun aP=>Zf (bt (zs:=[vi m.rows,vi m.cols,.slice Am m.cells.length cm]) O O) ?_;rintro _ w1 ⟨b3,rfl,aQ,e,c⟩;have b0:=Q0 g.size aQ;have g:=aa g e;refine Za O<|Za O<|ZX aP fun a j _ aR=>Q5 fun _ aS=>eo (fun a w=>Fr a 44 [(1,(ae b3)),(19,.bool ((!(di m))||(m.rows != m.cols)))]/\Bl w1 w) ?_ ?_
 ·have l:Bl w1 w1:=Below.refl _ _
  refine Zr j<|Ze (Vn fw c)<|Zf (Vc (tq _ m Am cm (t.bx g).top aA) tr) ?_;rintro _ w2 ⟨rfl,e⟩;have ⟨c,g,l⟩:=bh e c g l;refine Ze (dn O)<|Zm O<|Zg 13 O ?_ ?_<;>intro f
  ·(iterate 5 refine Zp (gP f) ?_);exact Ze (Xh O f O)<|Zn fun a j=>⟨j.sub ⟨O,X1 O (by simp[f]),trivial⟩,l⟩
  refine Zv (gW f) (Vd O oe 0) ?_;refine Zv (gW f) (X0 O X8 (c.at 0)) ?_;refine Zv (gW f) (Vd O ou 1) ?_;refine Zv (gW f) (X0 O X8 (c.at 1)) ?_;refine Zv (gW f) (kz O O) ?_;refine Ze (X9 O f O) ?_;exact Zn fun a j=>⟨j.sub ⟨O,X1 O (by first|rfl|(simp only[f,bs];done)|simp[f]),trivial⟩,l⟩
 rintro a w3 ⟨j,e⟩;have c:=c.bw e;have g:=aa g e;refine aS _ _<|Xz j O ?_ ?_<;>intro p
 ·have aD:=HT (by simpa using p:di m=false∨m.rows≠m.cols)
  exact ZS j fun aT=>Za O<|Za O<|Zt aT fun a j=>Q6<|X3<|X4 j (dj j O O O)<|⟨by rw[aD],g⟩
 have aU:di m=true/\m.rows=m.cols:=by have h9:=p;revert h9;cases di m<;>simp
 obtain ⟨u,aE⟩:=aU;refine Q7<|aR _ _<|ZS j fun aW=>Ze (Vn fw c)<|Zf (ki (vs:=[.agg #[vi m.rows,vi m.cols,.slice Am m.cells.length cm]]) O GN (by have hq:=Jt w3 m Am cm (t.bx g).top aA;rw[JB u,Qq,Option.isSome_some] at hq;exact hq)) ?_;rintro _ w4 ⟨x,y,rfl,n,e⟩;have n:=n.lower g.size;have c:=c.bw e;have g:=aa g e;refine Zm O<|Ze (X2 (vs:=[.agg #[vi ((b_ m).rows),vi ((b_ m).cols),.slice x ((b_ m).cells).length y],.bool true]) O O)<|Ze (X2 (vs:=[.agg #[vi ((b_ m).rows),vi ((b_ m).cols),.slice x ((b_ m).cells).length y],.bool true]) O O)<|ZB [vi ((b_ m).rows),vi ((b_ m).cols),.slice x ((b_ m).cells).length y] jy jg fun b12 w6 aF e q=>?_
 have aG:b3≠b12:=by have:=c.lt;omega
 have aX:=Q0 g.size aF;have ⟨c,n,g⟩:=bh e c n g;refine Za O<|Zx aW fun a j _ aH=>Ze (Vn fw c)<|Ze (Vn fw q)<|Zf (Vc (wX _ m Am cm (t.bx g).top (b_ m) x y n.rd.top aA (EH u)) wP) ?_;rintro _ w7 ⟨z,h,rfl,i,e⟩;have i:=i.lower g.size;have ⟨c,q,g⟩:=bh e c q g;refine Zm O<|Ze (X2 (vs:=[.agg #[vi ((YG m).rows),vi ((YG m).cols),.slice z ((YG m).cells).length h],.bool ((bg m (b_ m)).isSome)]) O O)<|Ze (X2 (vs:=[.agg #[vi ((YG m).rows),vi ((YG m).cols),.slice z ((YG m).cells).length h],.bool ((bg m (b_ m)).isSome)]) O O)<|ZB [vi ((YG m).rows),vi ((YG m).cols),.slice z ((YG m).cells).length h] jy jg fun b16 w9 aI e k=>?_
 have aJ:b3≠b16:=by have:=c.lt;omega
 have aB:b12≠b16:=by have:=q.lt;omega
 have aY:=Q0 g.size aI;have ⟨c,i,g⟩:=bh e c i g;refine Za O<|Zx aH fun a j _ aK=>Ze (Vd O oe 0)<|Ze (X0 O X8 (c.at 0))<|Zf (ki (vs:=[vi m.rows]) O GY (by have hq:=ET w9 m.rows;rw[(VE u aE).1,Qq,Option.isSome_some] at hq;exact hq)) ?_;rintro _ b1 ⟨A,B,rfl,o,e⟩;have o:=o.lower g.size;have ⟨c,k,i,g⟩:=dk e c k i g;refine Zm O<|Ze (X2 (vs:=[.agg #[vi ((ao m.rows.toNat).rows),vi ((ao m.rows.toNat).cols),.slice A ((ao m.rows.toNat).cells).length B],.bool true]) O O)<|Ze (X2 (vs:=[.agg #[vi ((ao m.rows.toNat).rows),vi ((ao m.rows.toNat).cols),.slice A ((ao m.rows.toNat).cells).length B],.bool true]) O O)<|ZB [vi ((ao m.rows.toNat).rows),vi ((ao m.rows.toNat).cols),.slice A ((ao m.rows.toNat).cells).length B] jy jg fun b20 w12 aL e aM=>?_
 have aN:b3≠b20:=by have:=c.lt;omega
 have aC:b16≠b20:=by have:=k.lt;omega
 have aZ:=Q0 g.size aL;have ⟨k,i,o,g⟩:=dk e k i o g;refine Za O<|ZX aK fun a j _ aO=>eo (fun a w=>Fr a 44 [(2,.bool (((bg m (b_ m)).isSome)&&(decide ((YG m).rows=(ao m.rows.toNat).rows)&&decide ((YG m).cols=(ao m.rows.toNat).cols)&&decide ((YG m).cells=(ao m.rows.toNat).cells)))),(3,.bool ((bg m (b_ m)).isSome))]/\Bl w12 w) ?_ ?_
 ·have l:Bl w12 w12:=Below.refl _ _
  refine Zr j<|Zm O<|Zm O<|Zg 38 O ?_ ?_<;>intro d
  ·refine Zv (gW d) (Vn fw k) ?_;refine Zv (gW d) (Vn fw aM) ?_;refine Zk (gW d) (Vc (H3 _ (YG m) z h i.rd.top (ao m.rows.toNat) A B o.rd.top (yn m (b_ m))) HD) ?_;rintro _ b2 ⟨rfl,e⟩;have g:=aa g e;have l:=aa l e;exact Ze (Xh O d O)<|Zm O<|Za O<|Za O<|Zn fun a j=>⟨j.sub ⟨X1 O (by simp[p,d]),O,trivial⟩,l⟩
  (iterate 3 refine Zp (gP d) ?_);exact Ze (X9 O d O)<|Zm O<|Za O<|Za O<|Zn fun a j=>⟨j.sub ⟨X1 O (by simp[p,d]),O,trivial⟩,l⟩
 rintro a b4 ⟨j,e⟩;have g:=aa g e;refine aO _ _<|Q6 (X4 j (dj j O O O) ?_)
 exact ⟨by rw[BN u aE];rfl,g⟩
def VD(w0:World)(m:Mx)(Am:Option Addr)(cm:Nat)(n:Rw w0 147 ai Am m.cells)(aA:m.cells.length<=2305843009213693951):RE 125 [.agg #[vi m.rows,vi m.cols,.slice Am m.cells.length cm]] w0 (fun v w=>v=.bool (li m)/\Bl w0 w):=by
 refine enter func125 O 27 O O ?_;intro a f;have j:=bz w0;refine ZS f fun aE=>Zf (bt (zs:=[vi m.rows,vi m.cols,.slice Am m.cells.length cm]) O O) ?_;rintro _ w1 ⟨b3,rfl,aF,l,g⟩;have aL:=Q0 j.size aF;have j:=aa j l;refine Za O<|ZX aE fun a f _ aG=>Q5 fun _ aH=>eo (fun a w=>Fr a 27 [(1,(ae b3)),(17,.bool (((!(di m))||(m.rows != 2))||(m.cols != 2)))]/\Bl w1 w) ?_ ?_
 ·have k:Bl w1 w1:=Below.refl _ _;refine Zr f<|Ze (Vn fw g)<|Zf (Vc (tq _ m Am cm (n.bx j).top aA) tr) ?_;rintro _ w2 ⟨rfl,l⟩;have ⟨g,j,k⟩:=bh l g j k;refine Ze (dn O)<|Zm O<|Zg 8 O ?_ ?_<;>intro c
  ·(iterate 3 refine Zp (gP c) ?_);refine Ze (Xh O c O)<|Zm O<|Zp (gP O) ?_;(iterate 2 refine Zp (gP O) ?_);exact Ze (Xh O O O)<|Zn fun a f=>⟨f.sub ⟨O,X1 O (by simp[c]),trivial⟩,k⟩
  refine Zv (gW c) (Vd O oe 0) ?_;refine Zv (gW c) (X0 O X8 (g.at 0)) ?_;refine Zv (gW c) (kz O O)<|Ze (X9 O c O)<|Zm O<|Zg 13 O ?_ ?_<;>intro e
  ·(iterate 3 refine Zp (gP e) ?_);exact Ze (Xh O e O)<|Zn fun a f=>⟨f.sub ⟨O,X1 O (by simp[c,e]),trivial⟩,k⟩
  refine Zv (gW e) (Vd O ou 1) ?_;refine Zv (gW e) (X0 O X8 (g.at 1)) ?_;refine Zv (gW e) (kz O O)<|Ze (X9 O e O)<|Zn fun a f=>?_;exact ⟨f.sub ⟨O,X1 O (by simp[c,e]),trivial⟩,k⟩
 intro a w3 ⟨f,l⟩;have g:=g.bw l;have j:=aa j l;refine aH _ _<|Xz f O ?_ ?_<;>intro i
 ·have aB:=Vs (by simpa using i:(di m=false∨m.rows≠2)∨m.cols≠2);exact ZS f fun aI=>Za O<|Zt aI fun a f=>Q6<|X3<|X4 f (Xu f O O)<|⟨by rw[aB],j⟩
 have aJ:(di m=true/\m.rows=2)/\m.cols=2:=by have h9:=i;revert h9;cases di m<;>simp
 have ⟨⟨aM,aK⟩,aN⟩:=aJ;refine Q7<|aG _ _<|ZS f fun aC=>Ze (Vn fw g)<|Zf (Vc (Rh _ m Am cm (n.bx j).top aA) Kv) ?_;rintro _ w4 ⟨rfl,l⟩;have j:=aa j l;refine Zm O<|Ze (X2 (vs:=[.bool ((iz m).1),.bool ((iz m).2)]) O O)<|Ze (X2 (vs:=[.bool ((iz m).1),.bool ((iz m).2)]) O O)<|Za O<|Za O<|ZX aC fun a f _ aD=>eo (fun a w=>Fr a 27 [(2,.bool (((iz m).2)&&((iz m).1)))]/\w4=w) ?_ ?_
 ·refine Zr f<|Zm O<|Zm O<|Zg 24 O ?_ ?_<;>intro d
  ·refine Zv (gW d) (X7 O)<|Ze (Xh O d O)<|Za O<|Zn fun a f=>?_;exact ⟨f.sub ⟨X1 O (by simp[i,d]),trivial⟩,O⟩
  exact Zp (gP d)<|Ze (X9 O d O)<|Za O<|Zn fun a f=>⟨f.sub ⟨X1 O (by simp[i,d]),trivial⟩,O⟩
 rintro a _ ⟨f,rfl⟩;refine aD _ _<|Q6 (X4 f (Xu f O O) ?_);exact ⟨by rw[RR aK];try rfl,j⟩
def qK(m:Mx) : Nat->Option Dy
 | 0=>some dZ
 | n+1=>(qK m n).bind fun s=>ap s (m.at n n)
def qo(m:Mx) : Option Dy:=if (di m&&m.rows==m.cols)=true then qK m m.rows.toNat else none
def Is{m:Mx}(h:di m=false∨m.rows≠m.cols):qo m=none:=by
 unfold qo;rw[Q3];simp only[Qd,beq_iff_eq];intro ⟨h1,h2⟩;rcases h with h|h
 ·rw[h1] at h;cases h
 ·exact h h2
def SY{o:Option Dy}{x:Dy}{b:Bool}(h:(o.getD dZ,o.isSome)=(x,b))(hb:b=true):o=some x:=by
 cases o with
 | none=>injection h with h1 h2;rw[hb] at h2;cases h2
 | some y=>injection h with h1 h2;exact congrArg some h1
def R2{m:Mx}{i:Nat}{x:Dy}{b:Bool}(h:((qK m i).getD dZ,(qK m i).isSome)=(x,b))(hb:b=true):((qK m (i+1)).getD dZ,(qK m (i+1)).isSome)=((ap x (m.at i i)).getD dZ,(ap x (m.at i i)).isSome):=by
 rw[qK,SY h hb,Qz]
def Vp{m:Mx}{i:Nat}(h:qK m i=none):∀ n,i<=n->qK m n=none:=fun n hn=>by
 induction n with
 | zero=>rw[show i=0 by omega] at h;exact h
 | succ n ih=>
  by_cases e:i=n+1
  ·rw[<- e];exact h
  ·rw[qK,ih O0];rfl
def Oy{m:Mx}{i:Nat}{x:Dy}{b:Bool}(hm:di m=true)(hrc:m.rows=m.cols)(hi:(i:Int)<=m.rows)(h:((qK m i).getD dZ,(qK m i).isSome)=(x,b))(hst:b=true->m.rows<=(i:Int)):((qo m).getD dZ,(qo m).isSome)=(x,b):=by
 have e:qo m=qK m m.rows.toNat:=by rw[qo,Q4 (by rw[hm,hrc];simp)]
 rw[e];cases b with
 | true=>
  have:=hst O;rw[show m.rows.toNat=i by omega];exact h
 | false=>
  cases e2:qK m i with
  | none=>rw[Vp e2 m.rows.toNat O0];rw[e2] at h;exact h
  | some y=>rw[e2] at h;injection h with _ h2;cases h2
def JG{w:World}{b:Nat}{T:TypeId}(h:al w b T [.int .i64 2,.int .i64 3,.int .i64 4]){i:Nat}(hi:i<3):At w ⟨b,i*1,none⟩ (.int .i64 (2+(i:Int))::([.int .i64 2,.int .i64 3,.int .i64 4] : List Value).drop (i+1)):=by
 have h1:=h.at i;rw[Nat.mul_one];rcases oh hi with rfl|rfl|rfl<;>exact h1
def G0{i:Nat}(hi:i<3):br 1 ⟨2+(i:Int),0,0⟩=some (bf i):=by
 have h:gp 1 (⟨2+(i:Int),0,0⟩ : Gt)=true:=by rcases oh hi with rfl|rfl|rfl<;>decide
 exact (r_ h).1
def r7{i:Nat}(hi:i<3):di (bf i)=true:=(rI hi).ok
def HB(i:Nat):(bf i).cells.length<=2305843009213693951:=by
 unfold bf bc;rw[sU];decide
def IZ(q:Mx):bg mZ q=none:=by
 have h:di mZ=false:=by decide
 unfold bg;rw[Q3 (by rw[h,Bool.false_and,Bool.false_and];decide)]
def wi{a b c:Mx}(h:bg a b=some c)(hr:a.rows=2)(hc:b.cols=2):di c=true/\c.rows=2/\c.cols=2:=by
 have ⟨_,q2,q3,_⟩:=AQ h;exact ⟨EJ h,by rw[q2,hr],by rw[q3,hc]⟩
def Mh{m:Mx}(hm:di m=true)(hr:m.rows=2)(hc:m.cols=2):qo m=ap (m.at 0 0) (m.at 1 1):=by
 rw[qo,Q4 (by rw[hm,hr,hc];rfl),hr];show ((some dZ).bind fun s=>ap s (m.at 0 0)).bind (fun s=>ap s (m.at 1 1))=_;rw[Qz,(NR (Mx.at_ok (oc hm) 0 0)).1,Qz]
def Nh{m:Mx}(hm0:di m=true)(hr:m.rows=2)(hc:m.cols=2){i j:Nat}(hi:i<3)(hj:j<3) :
  ((aj ((qo ((bg ((bg ((bg (bf i) m).getD mZ) (bf j)).getD mZ) (b_ m)).getD mZ)).getD dZ) pC).getD dZ,(bg (bf i) m).isSome&&(bg ((bg (bf i) m).getD mZ) (bf j)).isSome&&(bg ((bg ((bg (bf i) m).getD mZ) (bf j)).getD mZ) (b_ m)).isSome&&(qo ((bg ((bg ((bg (bf i) m).getD mZ) (bf j)).getD mZ) (b_ m)).getD mZ)).isSome&&(aj ((qo ((bg ((bg ((bg (bf i) m).getD mZ) (bf j)).getD mZ) (b_ m)).getD mZ)).getD dZ) pC).isSome)=((fj m i j).getD dZ,(fj m i j).isSome):=by
 have t0:qo mZ=none:=Is (.inl O2);have d0:aj dZ pC=some dZ:=by kernel_rfl
 have pi:=rI hi;have pj:=rI hj;unfold fj;cases h1:bg (bf i) m with
 | none=>simp only[Option.getD_none,IZ,t0,d0,Option.bind_none,Option.isSome_none,Bool.false_and,Qq]
 | some x=>
  simp only[Qq,Qz,Option.isSome_some,Qw];cases h2:bg x (bf j) with
  | none=>simp only[Option.getD_none,IZ,t0,d0,Option.bind_none,Option.isSome_none,Bool.false_and,Qq]
  | some y=>
   simp only[Qq,Qz,Option.isSome_some,Qw];cases h3:bg y (b_ m) with
   | none=>simp only[Option.getD_none,t0,d0,Option.bind_none,Option.isSome_none,Bool.false_and,Qq]
   | some z=>
    have ⟨_,a2,a3⟩:=wi h1 pi.r hc;have ⟨_,b2,au⟩:=wi h2 a2 pj.c;have ⟨c1,c2,c3⟩:=wi h3 b2 (show (b_ m).cols=2 from hr);simp only[Qq,Qz,Option.isSome_some,Qw];rw[Mh c1 c2 c3];cases ap (z.at 0 0) (z.at 1 1) with
    | none=>simp only[Option.getD_none,d0,Option.bind_none,Option.isSome_none,Bool.false_and,Qq]
    | some t=>simp only[Qq,Qz,Option.isSome_some,Qw]
def N4(z:World)(m:Mx)(Am:Option Addr)(cm:Nat)(h:Rw z 147 ai Am m.cells)(aM:m.cells.length<=2305843009213693951):RE 166 [.agg #[vi m.rows,vi m.cols,.slice Am m.cells.length cm]] z (fun v w=>v=.tuple #[dV ((qo m).getD dZ),.bool ((qo m).isSome)]/\Bl z w):=by
 refine enter func166 O 39 O O ?_;intro a k;have p:=bz z;refine ZS k fun aN=>Zf (bt (zs:=[vi m.rows,vi m.cols,.slice Am m.cells.length cm]) O O) ?_;rintro _ w1 ⟨b3,rfl,aO,n,e⟩;have aZ:=Q0 p.size aO;have p:=aa p n;refine Zf (Xi (zs:=[vi 0,vi 0,vi 0,vi 0,vi 0]) iu O) ?_;rintro _ w2 ⟨b4,rfl,aP,n,f⟩;have A:=Q0 p.size aP;have e:=e.bw n;have p:=aa p n;refine Za O<|ZX aN fun a k _ aQ=>Q5 fun _ aR=>eo (fun a w=>Fr a 39 [(1,(ae b3)),(2,(ae b4)),(16,.bool ((!(di m))||(m.rows != m.cols)))]/\Bl w2 w) ?_ ?_
 ·have y:Bl w2 w2:=Below.refl _ _;refine Zr k<|Ze (Vn fw e)<|Zf (Vc (tq _ m Am cm (h.bx p).top aM) tr) ?_;rintro _ w3 ⟨rfl,n⟩;have ⟨e,p,y⟩:=bh n e p y;refine Ze (dn O)<|Zm O<|Zg 10 O ?_ ?_<;>intro o
  ·(iterate 5 refine Zp (gP o) ?_);exact Ze (Xh O o O)<|Zn fun a k=>⟨k.sub ⟨O,O,X1 O (by simp[o]),trivial⟩,y⟩
  refine Zv (gW o) (Vd O oe 0) ?_;refine Zv (gW o) (X0 O X8 (e.at 0)) ?_;refine Zv (gW o) (Vd O ou 1) ?_;refine Zv (gW o) (X0 O X8 (e.at 1)) ?_;refine Zv (gW o) (kz O O)<|Ze (X9 O o O)<|Zn fun a k=>?_;exact ⟨k.sub ⟨O,O,X1 O (by simp[o]),trivial⟩,y⟩
 intro a w4 ⟨k,n⟩;have ⟨e,f,p⟩:=bh n e f p;refine aR _ _<|Xz k O ?_ ?_<;>intro t
 ·have aC:=Is (by simpa using t:di m=false∨m.rows≠m.cols);refine ZS k fun aS=>Ze (Xg (ps:=[]) (cs:=[vi 0,vi 0,vi 0,vi 0,vi 0]) O (fun _=>by first|rfl|kernel_rfl))<|Zo (Vw [vi 0,vi 0,vi 0,vi 0,vi 0] Xm f) ?_;intro _ w5 ⟨ho,hb⟩;have p:=Below.oy p ho A;have f:=hb;exact Za O<|Zt aS fun a k=>Q6<|X3<|X4 k (dj k O (an.cellN (l:=[vi 0,vi 0,vi 0,vi 0,vi 0]) O Xa (f.at 0) O) O)<|⟨by rw[aC];rfl,p⟩
 have aT:di m=true/\m.rows=m.cols:=by have h9:=t;revert h9;cases di m<;>simp
 have ⟨aA,aU⟩:=aT;have b0:=sW (qM aA).1;refine Q7<|aQ _ _<|ZS k fun aD=>Ze (Xg (ps:=[]) (cs:=[vi 0,vi 0,vi 0,vi 0,vi 0]) O (fun _=>by first|rfl|kernel_rfl))<|ZB [vi 0,vi 0,vi 0,vi 0,vi 0] iu Xm fun b11 w7 aE n g=>?_;have aF:b4≠b11:=by have:=f.lt;omega
 have aB:=Q0 p.size aE;have ⟨e,f,p⟩:=bh n e f p;refine Za O<|ZX aD fun a k _ aG=>ZS k fun aH=>Za O<|Zt aH fun a k=>Q8<|Xw (σ:=Nat×Dy×Bool) (fun (s:Nat×Dy×Bool) (a:Act) (w:World)=>match s with|(i,x,b)=>Fr a 39 [(1,(ae b3)),(2,(ae b4)),(4,(ae b11)),(5,.bool b),(6,vi (i:Int))]/\((i:Int)<=m.rows)/\(((qK m i).getD dZ,(qK m i).isSome)=(x,b))/\al w b3 91 [vi m.rows,vi m.cols,.slice Am m.cells.length cm]/\al w b4 147 [vi 0,vi 0,vi 0,vi 0,vi 0]/\al w b11 147 [vi x.num.a,vi x.num.b,vi x.num.c,vi x.num.d,vi x.exp]/\Bl z w) (fun (s:Nat×Dy×Bool)=>match s with|(i,x,b)=>m.rows.toNat+1-i) (0,dZ,true) ?_ ?_
 ·exact ⟨k.sb,O0,O,e,f,g,p⟩
 intro ⟨i,x,b⟩ a w8 ⟨k,hi,hx,e,f,g,p⟩;refine Q5 fun _ aI=>Q5 fun _ aJ=>eo (fun a w=>Fr a 39 [(1,(ae b3)),(2,(ae b4)),(4,(ae b11)),(5,.bool b),(6,vi (i:Int)),(25,.bool ((decide ((i:Int)<m.rows))&&b))]/\w8=w) ?_ ?_
 ·refine Zr k<|Zm O<|Ze (Vd O oe 0)<|Ze (X0 O X8 (e.at 0))<|Ze (ew O O)<|Zm O<|Zg 23 O ?_ ?_<;>intro q
  ·refine Zv (gW q) (X7 O)<|Ze (Xh O q O)<|Zn fun a k=>?_;exact ⟨k.sub ⟨O,O,O,O,O,X1 O (by simp[t,q]),trivial⟩,O⟩
  exact Zp (gP q)<|Ze (X9 O q O)<|Zn fun a k=>⟨k.sub ⟨O,O,O,O,O,X1 O (by simp[t,q]),trivial⟩,O⟩
 rintro a _ ⟨k,rfl⟩;refine aJ _ _<|Xz k O ?_ ?_<;>intro u
 ·have aW:(i:Int)<m.rows/\b=true:=by have h9:=u;revert h9;cases b<;>simp
  have ⟨b1,aX⟩:=aW;refine Q7<|aI _ _<|Q5 fun _ aK=>Q8<|gx none (fun j=>[9].contains j) mixed ?_;intro w9 n;have ⟨e,f,g,p⟩:=dk n e f g p;refine Yb k<|Ye 0 O (Vn Xa g)<|Ye 1 O (Vn fw e)<|Yo 2 O (fun _=>X7 O)<|Yo 3 O (fun _=>X7 O)<|Y1 4<|Yk O ad (Vc (u' _ m Am cm (h.bx p).top i i aA O0 O0) uG) (fun _ _ ⟨_,n⟩=>n) ?_;rintro _ b2 ⟨rfl,n⟩;have ⟨e,f,g,p⟩:=dk n e f g p;refine Y1 5<|Yk O ad (Vc (zV _ x (m.at i i)) z_) (fun _ _ ⟨_,n⟩=>n) ?_;rintro _ b5 ⟨rfl,n⟩;have ⟨e,f,g,p⟩:=dk n e f g p;refine Yo 6 O (fun _=>X7 O)<|Yo 7 O (fun _=>X2 (vs:=[.agg #[vi (((ap x (m.at i i)).getD dZ).num.a),vi (((ap x (m.at i i)).getD dZ).num.b),vi (((ap x (m.at i i)).getD dZ).num.c),vi (((ap x (m.at i i)).getD dZ).num.d),vi (((ap x (m.at i i)).getD dZ).exp)],.bool ((ap x (m.at i i)).isSome)]) O O)<|Yo 8 O (fun _=>X2 (vs:=[.agg #[vi (((ap x (m.at i i)).getD dZ).num.a),vi (((ap x (m.at i i)).getD dZ).num.b),vi (((ap x (m.at i i)).getD dZ).num.c),vi (((ap x (m.at i i)).getD dZ).num.d),vi (((ap x (m.at i i)).getD dZ).exp)],.bool ((ap x (m.at i i)).isSome)]) O O)<|Y1 9<|Yh O ad O (Vw [vi (((ap x (m.at i i)).getD dZ).num.a),vi (((ap x (m.at i i)).getD dZ).num.b),vi (((ap x (m.at i i)).getD dZ).num.c),vi (((ap x (m.at i i)).getD dZ).num.d),vi (((ap x (m.at i i)).getD dZ).exp)] Xm g) ?_;intro _ b6 ⟨ho,hb⟩;have e:=e.oz ho g O;have f:=f.oy ho O0;have p:=Below.oy p ho aB;have g:=hb;exact Yo 10 O (fun _=>kk O)<|Yd fun a k=>Xk<|aK _ _<|Zr k<|Zm O<|Ze (Xs O O O0 O0)<|Za O<|Zn fun a k=>Xb<|⟨(i+1,((ap x (m.at i i)).getD dZ),(ap x (m.at i i)).isSome),⟨k.sb,O0,(R2 hx aX),e,f,g,p⟩,O3⟩
 have aY:b=true->m.rows<=(i:Int):=by intro h0;subst h0;have h9:=u;revert h9;simp
 refine Q9<|Xf<|Xf<|Xv<|aG _ _<|ZS k fun aL=>Ze (Vn Xa g)<|Zm O<|Zo (Vw [vi x.num.a,vi x.num.b,vi x.num.c,vi x.num.d,vi x.exp] Xm f) ?_;intro _ b7 ⟨ho,hb⟩;have p:=Below.oy p ho A;have f:=hb;refine Za O<|Zt aL fun a k=>Q6 (X4 k (dj k O (an.cellN (l:=[vi x.num.a,vi x.num.b,vi x.num.c,vi x.num.d,vi x.exp]) O Xa (f.at 0) O) O) ?_);have h9:=Oy aA aU hi hx aY;injection h9 with h91 h92;exact ⟨by rw[h91,h92],p⟩
abbrev Zc:=fun a b c d=>(qo ((bg ((bg ((bg (bf a) b).getD mZ) (bf c)).getD mZ) d).getD mZ)).getD dZ
abbrev ZC:=fun a b c d=>(aj (Zc a b c d) pC).getD dZ
abbrev ZF:=fun a b c=>(bg ((bg (bf a) b).getD mZ) (bf c)).getD mZ
abbrev YN:=fun a b=>(bg (bf a) b).getD mZ
abbrev YO:=fun a b c d=>(bg (ZF a b c) d).getD mZ
theorem Ob(Q:World)(m:Mx)(Am:Option Addr)(cm:Nat)(aP:Rw Q 147 ai Am m.cells)(p:Mx)(Ap:Option Addr)(cp:Nat)(aQ:Rw Q 147 ai Ap p.cells)(i:Nat)(j:Nat)(bQ:m.cells.length<=2305843009213693951)(bR:li m=true)(aR:p=b_ m)(W:i<3)(aA:j<3)(bS:ij Q):RE 127 [.agg #[vi m.rows,vi m.cols,.slice Am m.cells.length cm],.agg #[vi p.rows,vi p.cols,.slice Ap p.cells.length cp],vi (i:Int),vi (j:Int)] Q (fun v w=>v=.tuple #[dV ((fj m i j).getD dZ),.bool ((fj m i j).isSome)]/\Bl Q w):=by
 have ⟨_,aS,bU,bW⟩:=vE bR;have bZ:p.cells.length<=2305843009213693951:=by rw[aR];exact EH aS
 refine enter func127 O 83 O O ?_;intro a C;have g:=bz Q;refine ZS C fun cA=>Zf (bt (zs:=[vi m.rows,vi m.cols,.slice Am m.cells.length cm]) O O) ?_;rintro _ w1 ⟨b4,rfl,cB,f,u⟩;have cM:=Q0 g.size cB;have g:=aa g f;refine Zf (bt (zs:=[vi p.rows,vi p.cols,.slice Ap p.cells.length cp]) O O) ?_;rintro _ w2 ⟨b5,rfl,cC,f,o⟩;have bP:b4≠b5:=by have:=u.lt;omega
 have cO:=Q0 g.size cC;have u:=u.bw f;have g:=aa g f;refine Zf (Xi (zs:=[vi 0,vi 0,vi 0,vi 0,vi 0]) iu O) ?_;rintro _ w3 ⟨b6,rfl,cD,f,e⟩;have J:=Q0 g.size cD;have ⟨u,o,g⟩:=bh f u o g;refine Za O<|Zx cA fun a C _ cE=>Ze (Xg (ps:=[(0,vi 2),(1,vi 3),(2,vi 4)]) (cs:=[vi 2,vi 3,vi 4]) O (fun _=>by first|rfl|kernel_rfl))<|ZB [vi 2,vi 3,vi 4] VO VJ fun b8 w5 cF f M=>?_;have cP:=Q0 g.size cF;have ⟨u,o,e,g⟩:=dk f u o e g;refine Zx cE fun a C _ cG=>Zm O<|Ze (Il (k:=i) O O underlying191 jw O W (Nat.zero_add _))<|Ze (X0 O X8 (JG M W))<|Ze (Xg (ps:=[(0,vi (2+(i:Int)))]) (cs:=[vi (2+(i:Int)),vi 0,vi 0]) O (fun _=>by first|rfl|kernel_rfl))<|Zf (ki (vs:=[vi 1,.agg #[vi (2+(i:Int)),vi 0,vi 0]]) O xi (by have hq:=wM w5 1 (⟨(2+(i:Int)),0,0⟩ : Gt);rw[G0 W,Qq,Option.isSome_some] at hq;exact hq)) ?_;rintro _ w6 ⟨aB,aC,rfl,z,f⟩;have z:=z.lower g.size;have ⟨u,o,e,M,g⟩:=io f u o e M g;refine Zm O<|Ze (X2 (vs:=[.agg #[vi ((bf i).rows),vi ((bf i).cols),.slice aB ((bf i).cells).length aC],.bool true]) O O)<|Ze (X2 (vs:=[.agg #[vi ((bf i).rows),vi ((bf i).cols),.slice aB ((bf i).cells).length aC],.bool true]) O O)<|ZB [vi ((bf i).rows),vi ((bf i).cols),.slice aB ((bf i).cells).length aC] jy jg fun b12 w8 aU f A=>?_;have aW:b4≠b12:=by have:=u.lt;omega
 have aX:b5≠b12:=by have:=o.lt;omega
 have cH:=Q0 g.size aU;have ⟨u,o,e,M,z,g⟩:=kf f u o e M z g;refine Za O<|Zx cG fun a C _ aY=>Zm O<|Ze (Il (k:=j) O O underlying191 jw O aA (Nat.zero_add _))<|Ze (X0 O X8 (JG M aA))<|Ze (Xg (ps:=[(0,vi (2+(j:Int)))]) (cs:=[vi (2+(j:Int)),vi 0,vi 0]) O (fun _=>by first|rfl|kernel_rfl))<|Zf (ki (vs:=[vi 1,.agg #[vi (2+(j:Int)),vi 0,vi 0]]) O xi (by have hq:=wM w8 1 (⟨(2+(j:Int)),0,0⟩ : Gt);rw[G0 aA,Qq,Option.isSome_some] at hq;exact hq)) ?_;rintro _ w9 ⟨aD,aE,rfl,h,f⟩;have h:=h.lower g.size;have ⟨u,o,e,A,z,g⟩:=kf f u o e A z g;refine Zm O<|Ze (X2 (vs:=[.agg #[vi ((bf j).rows),vi ((bf j).cols),.slice aD ((bf j).cells).length aE],.bool true]) O O)<|Ze (X2 (vs:=[.agg #[vi ((bf j).rows),vi ((bf j).cols),.slice aD ((bf j).cells).length aE],.bool true]) O O)<|ZB [vi ((bf j).rows),vi ((bf j).cols),.slice aD ((bf j).cells).length aE] jy jg fun b16 cQ b0 f E=>?_;have b1:b4≠b16:=by have:=u.lt;omega
 have b2:b5≠b16:=by have:=o.lt;omega
 have aL:b12≠b16:=by have:=A.lt;omega
 have cI:=Q0 g.size b0;have ⟨u,o,e,A,z,h,g⟩:=lf f u o e A z h g;refine Za O<|Zx aY fun a C _ b3=>Ze (Vn fw A)<|Ze (Vn fw u)<|Zf (Vc (wX _ (bf i) aB aC z.rd.top m Am cm (aP.bx g).top (HB _) bQ) wP) ?_;rintro _ cR ⟨aF,aG,rfl,G,f⟩;have G:=G.lower g.size;have ⟨u,o,e,A,E,h,g⟩:=lf f u o e A E h g;refine Zm O<|Ze (X2 (vs:=[.agg #[vi ((YN i m).rows),vi ((YN i m).cols),.slice aF ((YN i m).cells).length aG],.bool ((bg (bf i) m).isSome)]) O O)<|Ze (X2 (vs:=[.agg #[vi ((YN i m).rows),vi ((YN i m).cols),.slice aF ((YN i m).cells).length aG],.bool ((bg (bf i) m).isSome)]) O O)<|ZB [vi ((YN i m).rows),vi ((YN i m).cols),.slice aF ((YN i m).cells).length aG] jy jg fun b20 cS b9 f q=>?_;have bC:b4≠b20:=by have:=u.lt;omega
 have bD:b5≠b20:=by have:=o.lt;omega
 have aM:b12≠b20:=by have:=A.lt;omega
 have aN:b16≠b20:=by have:=E.lt;omega
 have U:=Q0 g.size b9;have ⟨o,e,E,h,G,g⟩:=kf f o e E h G g;refine Za O<|Zx b3 fun a C _ bE=>Ze (Vn fw q)<|Ze (Vn fw E)<|Zf (Vc (wX _ (YN i m) aF aG G.rd.top (bf j) aD aE h.rd.top (yn _ _) (HB _)) wP) ?_;rintro _ cT ⟨aH,aI,rfl,H,f⟩;have H:=H.lower g.size;have ⟨o,e,q,g⟩:=dk f o e q g;refine Zm O<|Ze (X2 (vs:=[.agg #[vi ((ZF i m j).rows),vi ((ZF i m j).cols),.slice aH ((ZF i m j).cells).length aI],.bool ((bg (YN i m) (bf j)).isSome)]) O O)<|Ze (X2 (vs:=[.agg #[vi ((ZF i m j).rows),vi ((ZF i m j).cols),.slice aH ((ZF i m j).cells).length aI],.bool ((bg (YN i m) (bf j)).isSome)]) O O)<|Zo (Vw [vi ((ZF i m j).rows),vi ((ZF i m j).cols),.slice aH ((ZF i m j).cells).length aI] jg q) ?_;intro _ cU ⟨D,N⟩;have o:=o.oy D O0;have e:=e.oz D q O;have H:=H.oT D q O;have g:=Below.oy g D U;have q:=N;refine Za O<|Zx bE fun a C _ bG=>Ze (Vn fw q)<|Ze (Vn fw o)<|Zf (Vc (wX _ (ZF i m j) aH aI H.rd.top p Ap cp (aQ.bx g).top (yn _ _) bZ) wP) ?_;rintro _ cV ⟨aJ,aK,rfl,I,f⟩;have I:=I.lower g.size;have ⟨e,q,g⟩:=bh f e q g;refine Zm O<|Ze (X2 (vs:=[.agg #[vi ((YO i m j p).rows),vi ((YO i m j p).cols),.slice aJ ((YO i m j p).cells).length aK],.bool ((bg (ZF i m j) p).isSome)]) O O)<|Ze (X2 (vs:=[.agg #[vi ((YO i m j p).rows),vi ((YO i m j p).cols),.slice aJ ((YO i m j p).cells).length aK],.bool ((bg (ZF i m j) p).isSome)]) O O)<|Zo (Vw [vi ((YO i m j p).rows),vi ((YO i m j p).cols),.slice aJ ((YO i m j p).cells).length aK] jg q) ?_;intro _ cW ⟨D,N⟩;have e:=e.oz D q O;have I:=I.oT D q O;have g:=Below.oy g D U;have q:=N;refine Za O<|Zx bG fun a C _ bI=>Ze (Vn fw q)<|Zf (Vc (N4 _ (YO i m j p) aJ aK I.rd.top (yn _ _)) Ui) ?_;rintro _ cX ⟨rfl,f⟩;have e:=e.bw f;have g:=aa g f;refine Zm O<|Ze (X2 (vs:=[.agg #[vi ((Zc i m j p).num.a),vi ((Zc i m j p).num.b),vi ((Zc i m j p).num.c),vi ((Zc i m j p).num.d),vi ((Zc i m j p).exp)],.bool ((qo (YO i m j p)).isSome)]) O O)<|Ze (X2 (vs:=[.agg #[vi ((Zc i m j p).num.a),vi ((Zc i m j p).num.b),vi ((Zc i m j p).num.c),vi ((Zc i m j p).num.d),vi ((Zc i m j p).exp)],.bool ((qo (YO i m j p)).isSome)]) O O)<|ZB [vi ((Zc i m j p).num.a),vi ((Zc i m j p).num.b),vi ((Zc i m j p).num.c),vi ((Zc i m j p).num.d),vi ((Zc i m j p).exp)] iu Xm fun b26 d5 bJ f L=>?_;have bK:b6≠b26:=by have:=e.lt;omega
 have cJ:=Q0 g.size bJ;have e:=e.bw f;have g:=aa g f;refine Za O<|Zx bI fun a C _ bL=>Ze (Vn Xa L)<|Ze (Xt (l:=[vi pC.num.a,vi pC.num.b,vi pC.num.c,vi pC.num.d,vi pC.exp]) O Xa ((bS.of g).at 0) O)<|Zf (Vc (tm _ (Zc i m j p) pC) tp) ?_;rintro _ d6 ⟨rfl,f⟩;have ⟨e,L,g⟩:=bh f e L g;refine Zm O<|Ze (X2 (vs:=[.agg #[vi ((ZC i m j p).num.a),vi ((ZC i m j p).num.b),vi ((ZC i m j p).num.c),vi ((ZC i m j p).num.d),vi ((ZC i m j p).exp)],.bool ((aj (Zc i m j p) pC).isSome)]) O O)<|Ze (X2 (vs:=[.agg #[vi ((ZC i m j p).num.a),vi ((ZC i m j p).num.b),vi ((ZC i m j p).num.c),vi ((ZC i m j p).num.d),vi ((ZC i m j p).exp)],.bool ((aj (Zc i m j p) pC).isSome)]) O O)<|ZB [vi ((ZC i m j p).num.a),vi ((ZC i m j p).num.b),vi ((ZC i m j p).num.c),vi ((ZC i m j p).num.d),vi ((ZC i m j p).exp)] iu Xm fun b28 d7 bM f n=>?_;have bN:b6≠b28:=by have:=e.lt;omega
 have aO:b26≠b28:=by have:=L.lt;omega
 have cK:=Q0 g.size bM;have e:=e.bw f;have g:=aa g f;refine Za O<|ZX bL fun a C _ bO=>eo (fun a w=>Fr a 83 [(8,(ae b6)),(9,.bool ((((((bg (bf i) m).isSome)&&((bg (YN i m) (bf j)).isSome))&&((bg (ZF i m j) p).isSome))&&((qo (YO i m j p)).isSome))&&((aj (Zc i m j p) pC).isSome)))]/\al w b6 147 [vi ((ZC i m j p).num.a),vi ((ZC i m j p).num.b),vi ((ZC i m j p).num.c),vi ((ZC i m j p).num.d),vi ((ZC i m j p).exp)]/\al w b28 147 [vi ((ZC i m j p).num.a),vi ((ZC i m j p).num.b),vi ((ZC i m j p).num.c),vi ((ZC i m j p).num.d),vi ((ZC i m j p).exp)]/\Bl Q w) ?_ ?_
 ·refine Zr C<|Ze (Vn Xa n)<|Zm O<|Zm O<|Zg 71 O ?_ ?_<;>intro t
  ·refine Zv (gW t) (X7 O)<|Ze (Xh O t O)<|Zm O<|Zg 74 O ?_ ?_<;>intro x
   ·refine Zv (gW x) (X7 O)<|Ze (Xh O x O)<|Zm O<|Zg 77 O ?_ ?_<;>intro y
    ·refine Zv (gW y) (X7 O)<|Ze (Xh O y O)<|Zm O<|Zg 80 O ?_ ?_<;>intro B
     ·refine Zv (gW B) (X7 O) ?_;refine Ze (Xh O B O)<|Zo (Vw [vi ((ZC i m j p).num.a),vi ((ZC i m j p).num.b),vi ((ZC i m j p).num.c),vi ((ZC i m j p).num.d),vi ((ZC i m j p).exp)] Xm e) ?_;intro _ d8 ⟨D,N⟩;have n:=n.oy D O0;have g:=Below.oy g D J;have e:=N;exact Za O<|Zn fun a C=>⟨C.sub ⟨O,X1 O (by simp[t,x,y,B]),trivial⟩,e,n,g⟩
     refine Zp (gP B) ?_;refine Ze (X9 O B O)<|Zo (Vw [vi ((ZC i m j p).num.a),vi ((ZC i m j p).num.b),vi ((ZC i m j p).num.c),vi ((ZC i m j p).num.d),vi ((ZC i m j p).exp)] Xm e) ?_;intro _ d9 ⟨D,N⟩;have n:=n.oy D O0;have g:=Below.oy g D J;have e:=N;exact Za O<|Zn fun a C=>⟨C.sub ⟨O,X1 O (by simp[t,x,y,B]),trivial⟩,e,n,g⟩
    refine Zp (gP y)<|Ze (X9 O y O)<|Zm O<|Zp (gP O) ?_;refine Ze (X9 O O O)<|Zo (Vw [vi ((ZC i m j p).num.a),vi ((ZC i m j p).num.b),vi ((ZC i m j p).num.c),vi ((ZC i m j p).num.d),vi ((ZC i m j p).exp)] Xm e) ?_;intro _ dA ⟨D,N⟩;have n:=n.oy D O0;have g:=Below.oy g D J;have e:=N;exact Za O<|Zn fun a C=>⟨C.sub ⟨O,X1 O (by simp[t,x,y]),trivial⟩,e,n,g⟩
   refine Zp (gP x)<|Ze (X9 O x O)<|Zm O<|Zp (gP O)<|Ze (X9 O O O)<|Zm O<|Zp (gP O) ?_;refine Ze (X9 O O O)<|Zo (Vw [vi ((ZC i m j p).num.a),vi ((ZC i m j p).num.b),vi ((ZC i m j p).num.c),vi ((ZC i m j p).num.d),vi ((ZC i m j p).exp)] Xm e) ?_;intro _ dB ⟨D,N⟩;have n:=n.oy D O0;have g:=Below.oy g D J;have e:=N;exact Za O<|Zn fun a C=>⟨C.sub ⟨O,X1 O (by simp[t,x]),trivial⟩,e,n,g⟩
  refine Zp (gP t)<|Ze (X9 O t O)<|Zm O<|Zp (gP O)<|Ze (X9 O O O)<|Zm O<|Zp (gP O)<|Ze (X9 O O O)<|Zm O<|Zp (gP O) ?_;refine Ze (X9 O O O)<|Zo (Vw [vi ((ZC i m j p).num.a),vi ((ZC i m j p).num.b),vi ((ZC i m j p).num.c),vi ((ZC i m j p).num.d),vi ((ZC i m j p).exp)] Xm e) ?_;intro _ dC ⟨D,N⟩;have n:=n.oy D O0;have g:=Below.oy g D J;have e:=N;refine Za O ?_;exact Zn fun a C=>⟨C.sub ⟨O,X1 O (by simp[t]),trivial⟩,e,n,g⟩
 intro a dD ⟨C,e,n,g⟩;refine bO _ _<|Q6 (X4 C (dj C O (an.cellN (l:=[vi ((ZC i m j p).num.a),vi ((ZC i m j p).num.b),vi ((ZC i m j p).num.c),vi ((ZC i m j p).num.d),vi ((ZC i m j p).exp)]) O Xa (e.at 0) O) O) ?_);subst aR;have h9:=Nh aS bU bW W aA;injection h9 with h91 h92;exact ⟨by rw[<- h91,<- h92],g⟩
def DY(I:World)(m:Mx)(Am:Option Addr)(cm:Nat)(Q:Rw I 147 ai Am m.cells)(aM:m.cells.length<=2305843009213693951)(bR:ij I):RE 98 [.agg #[vi m.rows,vi m.cols,.slice Am m.cells.length cm]] I (fun v w=>∃ A c1,v=.tuple #[.agg #[.slice A ((ak m).getD []).length c1],.bool ((ak m).isSome)]/\ah w I.heap.size 147 5 ai A c1 ((ak m).getD [])/\Bl I w):=by
 refine enter func98 O 47 O O ?_;intro a u;have q:=bz I;refine ZS u fun bS=>Zf (bt (zs:=[vi m.rows,vi m.cols,.slice Am m.cells.length cm]) O O) ?_;rintro _ w1 ⟨b3,rfl,bU,t,o⟩;have cG:=Q0 q.size bU;have q:=aa q t;refine Zf (Xi (zs:=[.slice none 0 0]) pU O) ?_;rintro _ w2 ⟨b5,rfl,bW,t,n⟩;have U:=Q0 q.size bW;have o:=o.bw t;have q:=aa q t;refine Za O<|ZX bS fun a u _ bZ=>ZS u fun cA=>Ze (Vn fw o)<|Zf (Vc (VD _ m Am cm (Q.bx q).top aM) Ns) ?_;rintro _ w3 ⟨rfl,t⟩;have ⟨o,n,q⟩:=bh t o n q;refine Ze (dn O)<|Zt cA fun a u=>Xz u O ?_ ?_<;>intro aN
 ·have cB:li m=false:=by simpa using aN
  refine ZS u fun cC=>Ze (Xg (ps:=[]) (cs:=[.slice none 0 0]) O (fun _=>by first|rfl|kernel_rfl))<|Zo (Vw [.slice none 0 0] pp n) ?_;intro _ w4 ⟨y,J⟩;have q:=Below.oy q y U;have n:=J;refine Za O<|Zt cC fun a u=>Q6<|X3<|X4 u (dj u O (an.cellN (l:=[.slice none 0 0]) O nn (n.at 0) O) O) ?_;have he:ak m=none:=by rw[ak,Q3 (by rw[cB];decide)]
  rw[he];exact ⟨none,0,O,(ah.nil _ _ _ _ _),q⟩
 have aG:li m=true:=by simpa using aN
 have ⟨_,cD,cI,cJ⟩:=vE aG;refine Q7<|bZ _ _<|ZS u fun aZ=>Ze (Vn fw o)<|Zf (ki (vs:=[.agg #[vi m.rows,vi m.cols,.slice Am m.cells.length cm]]) O GN (by have hq:=Jt w3 m Am cm (Q.bx q).top aM;rw[JB cD,Qq,Option.isSome_some] at hq;exact hq)) ?_;rintro _ w5 ⟨C,L,rfl,e,t⟩;have e:=e.lower q.size;have ⟨o,n,q⟩:=bh t o n q;have ⟨B8,G⟩ : ∃ B8,B8=w5.heap.size:=⟨_,O⟩;have p:B8<=w5.heap.size:=Nat.le_of_eq G;have aK:I.heap.size<=B8:=by rw[G];exact q.size
 have e:=e.rd.top;rw[Rw,<- G] at e;clear G;refine Zm O<|Ze (X2 (vs:=[.agg #[vi ((b_ m).rows),vi ((b_ m).cols),.slice C ((b_ m).cells).length L],.bool true]) O O)<|Ze (X2 (vs:=[.agg #[vi ((b_ m).rows),vi ((b_ m).cols),.slice C ((b_ m).cells).length L],.bool true]) O O)<|Zf (Xi (zs:=[vi 0,vi 0,.slice none 0 0]) jy O) ?_;rintro _ w6 ⟨b14,rfl,b0,t,f⟩;have b1:b3≠b14:=by have:=o.lt;omega
 have aO:=Q0 q.size b0;have ⟨o,n,e⟩:=bh t o n e;have p:=Q0 p t.size;have q:=aa q t;refine Zo (Vw [vi ((b_ m).rows),vi ((b_ m).cols),.slice C ((b_ m).cells).length L] jg f) ?_;intro _ w7 ⟨y,J⟩;have o:=o.oy y O0;have n:=n.oz y f O;have e:=e.oT y f O;have p:=Q0 p (Nat.le_of_eq y.size.symm);have q:=Below.oy q y aO;have f:=J;refine Za O<|Zx aZ fun a u _ b2=>Ze (Xg (ps:=[]) (cs:=[.slice none 0 0]) O (fun _=>by first|rfl|kernel_rfl))<|Zf (Xi (zs:=[.slice none 0 0]) pU O) ?_;rintro _ w8 ⟨b18,rfl,b4,t,g⟩;have b6:b5≠b18:=by have:=n.lt;omega
 have W:=Q0 q.size b4;have ⟨o,n,f,e⟩:=dk t o n f e;have p:=Q0 p t.size;have q:=aa q t;refine Zo (Vw [.slice none 0 0] pp g) ?_;intro _ w9 ⟨y,J⟩;have o:=o.oz y g O;have n:=n.oy y O0;have f:=f.oz y g O;have e:=e.oT y g O;have p:=Q0 p (Nat.le_of_eq y.size.symm);have q:=Below.oy q y W;have g:=J;refine ZX b2 fun a u _ b7=>ZS u fun b8=>Zm O<|Zt b8 fun a u=>Q8<|Xw (σ:=Nat×(List Dy)) (fun (s:Nat×(List Dy)) (a:Act) (w:World)=>match s with|(i,l)=>∃ D E,Fr a 47 [(1,(ae b3)),(2,(ae b5)),(4,(ae b14)),(6,(ae b18)),(21,vi (i:Int))]/\(i<=3)/\(gw (f_ (fj m) 3) (i*3)=some l)/\al w b3 91 [vi m.rows,vi m.cols,.slice Am m.cells.length cm]/\al w b5 122 [.slice none 0 0]/\al w b14 91 [vi ((b_ m).rows),vi ((b_ m).cols),.slice C ((b_ m).cells).length L]/\al w b18 122 [.slice D l.length E]/\Rd w B8 147 ai C ((b_ m).cells)/\ah w B8 147 5 ai D E l/\B8<=w.heap.size/\Bl I w) (fun (s:Nat×(List Dy))=>match s with|(i,l)=>3-i) (0,[]) ?_ ?_
 ·exact ⟨none,0,u.sb,O0,O7,o,n,f,g,e,(ah.nil _ _ _ _ _),p,q⟩
 intro ⟨i,l⟩ a cK ⟨D,E,u,hi,hl,o,n,f,g,e,H,p,q⟩;refine ZS u fun b9=>Ze (ew O O)<|ZX b9 fun a u _ bC=>eh u O (fun aP aA=>?_) (fun aP aA=>?_)
 ·have aQ:i<3:=by have:=aA;omega
  refine Q7<|bC _ _<|Q5 fun _ bD=>Q8<|ZS u fun bE=>Zm O<|Za O<|Zx bE fun a u _ bF=>Zm O<|Zt bF fun a u=>Q8<|Xw (σ:=Nat×(List Dy)) (fun (s:Nat×(List Dy)) (a:Act) (w:World)=>match s with|(j,l2)=>∃ aH aI,Fr a 47 [(1,(ae b3)),(2,(ae b5)),(4,(ae b14)),(6,(ae b18)),(7,vi (i:Int)),(21,vi (i:Int)),(24,vi (j:Int))]/\(j<=3)/\(gw (f_ (fj m) 3) (i*3+j)=some l2)/\al w b3 91 [vi m.rows,vi m.cols,.slice Am m.cells.length cm]/\al w b5 122 [.slice none 0 0]/\al w b14 91 [vi ((b_ m).rows),vi ((b_ m).cols),.slice C ((b_ m).cells).length L]/\al w b18 122 [.slice aH l2.length aI]/\Rd w B8 147 ai C ((b_ m).cells)/\ah w B8 147 5 ai aH aI l2/\B8<=w.heap.size/\Bl I w) (fun (s:Nat×(List Dy))=>match s with|(j,l2)=>3-j) (0,l) ?_ ?_
  ·exact ⟨D,E,u.sb,O0,hl,o,n,f,g,e,H,p,q⟩
  intro ⟨j,l2⟩ a cM ⟨aH,aI,u,hj,aJ,o,n,f,g,e,x,p,q⟩;refine ZS u fun bG=>Ze (ew O O)<|ZX bG fun a u _ bH=>eh u O (fun aR aB=>?_) (fun aR aB=>?_)
  ·have aS:j<3:=by have:=aB;omega
   have cH:=sY aJ;refine Q7<|bH _ _<|Q5 fun _ bI=>Q8<|ZS u fun bJ=>Zm O<|Za O<|Zx bJ fun a u _ bK=>Ze (Vn fw o)<|Ze (Vn fw f)<|Zm O<|Zm O<|Zf (Vc (Ob _ m Am cm (Q.bx q).top (b_ m) C L e.top i j aM aG O aQ aS (bR.of q)) NA) ?_;rintro _ cO ⟨rfl,t⟩;have ⟨o,n,f,g,e,x⟩:=kf t o n f g e x;have p:=Q0 p t.size;have q:=aa q t;refine Zm O<|Ze (X2 (vs:=[.agg #[vi (((fj m i j).getD dZ).num.a),vi (((fj m i j).getD dZ).num.b),vi (((fj m i j).getD dZ).num.c),vi (((fj m i j).getD dZ).num.d),vi (((fj m i j).getD dZ).exp)],.bool ((fj m i j).isSome)]) O O)<|Ze (X2 (vs:=[.agg #[vi (((fj m i j).getD dZ).num.a),vi (((fj m i j).getD dZ).num.b),vi (((fj m i j).getD dZ).num.c),vi (((fj m i j).getD dZ).num.d),vi (((fj m i j).getD dZ).exp)],.bool ((fj m i j).isSome)]) O O)<|Zf (Xi (zs:=[vi 0,vi 0,vi 0,vi 0,vi 0]) iu O) ?_;rintro _ cP ⟨cE,rfl,aC,t,z⟩;have aT:=Q0 q.size aC;have M:=e.away aC;have B:=x.away aC;have ⟨o,n,f,g,e,x⟩:=kf t o n f g e x;have p:=Q0 p t.size;have q:=aa q t;refine Zo (Vw [vi (((fj m i j).getD dZ).num.a),vi (((fj m i j).getD dZ).num.b),vi (((fj m i j).getD dZ).num.c),vi (((fj m i j).getD dZ).num.d),vi (((fj m i j).getD dZ).exp)] Xm z) ?_;intro _ cQ ⟨y,J⟩;have o:=o.oz y z O;have n:=n.oz y z O;have f:=f.oz y z O;have g:=g.oz y z O;have e:=e.onlyA y M;have x:=x.onlyA y B;have p:=Q0 p (Nat.le_of_eq y.size.symm);have q:=Below.oy q y aT;have z:=J;refine Za O<|ZX bK fun a u _ bL=>ZS u fun bM=>Zm O<|Ze (dn O)<|Zt bM fun a u=>Xz u O ?_ ?_<;>intro aD
   ·have hn:f_ (fj m) 3 (i*3+j)=none:=by rw[st O0];have h9:=aD;revert h9;cases fj m i j<;>simp
    refine ZS u fun bN=>Ze (Xg (ps:=[]) (cs:=[.slice none 0 0]) O (fun _=>by first|rfl|kernel_rfl))<|Zo (Vw [.slice none 0 0] pp n) ?_;intro _ cR ⟨y,J⟩;have p:=Q0 p (Nat.le_of_eq y.size.symm);have q:=Below.oy q y U;have n:=J;refine Za O<|Zt bN fun a u=>Q6<|X3<|Xn<|X3<|X3<|Xn<|Xn<|X3<|X3<|Xn<|X3<|X4 u (dj u O (an.cellN (l:=[.slice none 0 0]) O nn (n.at 0) O) O) ?_;have he:ak m=none:=by rw[ak,Q4 aG];exact wO hn 9 O0
    rw[he];exact ⟨none,0,O,(ah.nil _ _ _ _ _),q⟩
   have hx:f_ (fj m) 3 (i*3+j)=some ((fj m i j).getD dZ):=by rw[st O0];have h9:=aD;revert h9;cases fj m i j<;>simp
   refine Q7<|bL _ _<|Zr u<|Ze (Vd O o' 0)<|Ze (X0 O ju (g.at 0))<|Ze (Vn Xa z)<|Zf (X6 (k:=1) (vs:=[.agg #[vi (((fj m i j).getD dZ).num.a),vi (((fj m i j).getD dZ).num.b),vi (((fj m i j).getD dZ).num.c),vi (((fj m i j).getD dZ).num.d),vi (((fj m i j).getD dZ).exp)]]) (zs:=[vi (((fj m i j).getD dZ).num.a),vi (((fj m i j).getD dZ).num.b),vi (((fj m i j).getD dZ).num.c),vi (((fj m i j).getD dZ).num.d),vi (((fj m i j).getD dZ).exp)]) O gv my O O) ?_;rintro _ cS ⟨b41,rfl,aL,t,aE⟩;have aW:cE≠b41:=by have:=z.lt;omega
   have cF:=Q0 q.size aL;have ⟨o,n,f,g,z,e,x⟩:=lf t o n f g z e x;have p:=Q0 p t.size;have q:=aa q t;refine Zf (jf (enc:=ai) (l:=(l2)) (l2:=([((fj m i j).getD dZ)])) (B0:=B8) O O gv my kb rM x (Rd.of_blk aE O _ aE.lt) (by simp only[maxLen];simp;omega) O5 p) ?_;rintro _ cT ⟨bO,bP,rfl,aF,hg,aU⟩;have h:ah _ B8 147 5 ai _ _ (l2):=x;clear aU;have o:=o.appT h hg O;have n:=n.appT h hg O;have f:=f.appT h hg O;have g:=g.appT h hg O;have e:=e.appB h hg (Qb _);have p:=Q0 p hg.size;have q:=Below.app q h hg aK q.size;clear h hg;refine Ze (Vd O o' 0)<|Zo (Vw [.slice bO (l2++([((fj m i j).getD dZ)])).length bP] rH g) ?_;intro _ cU ⟨y,J⟩;have o:=o.oz y g O;have n:=n.oy y O0;have f:=f.oz y g O;have e:=e.oT y g O;have aF:=aF.oT y g O;have p:=Q0 p (Nat.le_of_eq y.size.symm);have q:=Below.oy q y W;have g:=J;exact Zn fun a u=>Xk<|bI _ _<|Zr u<|Ze (Xs O O O0 O0)<|Zm O<|Zn fun a u=>Xb<|⟨(j+1,l2++[((fj m i j).getD dZ)]),⟨bO,bP,u.sb,O0,(vI aJ hx),o,n,f,g,e,aF,p,q⟩,O3⟩
  have aS:j=3:=by have:=aB;omega
  exact Q9<|Xf<|Xf<|Xv<|Xk<|bD _ _<|Zr u<|Ze (Xs O O O0 O0)<|Zm O<|Zn fun a u=>Xb<|⟨(i+1,l2),⟨aH,aI,u.sb,O0,(by rw[Wb,Nat.one_mul];rw[aS] at aJ;exact aJ),o,n,f,g,e,x,p,q⟩,O3⟩
 have aQ:i=3:=by have:=aA;omega
 refine Q9<|Xf<|Xf<|Xv<|b7 _ _<|ZS u fun bQ=>Ze (Vn nn g)<|Zo (Vw [.slice D l.length E] pp n) ?_;intro _ cV ⟨y,J⟩;have H:=H.oT y n O;have p:=Q0 p (Nat.le_of_eq y.size.symm);have q:=Below.oy q y U;have n:=J;refine Za O<|Zt bQ fun a u=>Q6 (X4 u (dj u O (an.cellN (l:=[.slice D l.length E]) O nn (n.at 0) O) O) ?_);have he:ak m=some l:=by rw[ak,Q4 aG];rw[aQ] at hl;exact hl
 rw[he];exact ⟨D,E,O,ah.lower H aK,q⟩
def vt{l:List Dy}(h:l.length=9){i j:Nat}(hi:i<3)(hj:j<3):l[3*i+j]? = some ((au l).at i j):=by
 show _=some (l.getD (i*3+j) dZ);rw[Wi 3 i,Qa,Qc O0];rfl
def Im{l:List Dy}{k:Nat}{u:Dy}(h:l[k]? = some u):az (l.take (k+1))=max (az (l.take k)) u.exp:=by
 unfold az;rw[Qt,h,List.foldl_append];rfl
def re(x:Dy) : Bool:=dt x&&x.num.c==0&&x.num.d==wr (-x.num.b)
def zu(a:List Dy):(mi a).length=9:=sU _ _ _
def D9(H:World)(Ap:Option Addr)(cp:Nat)(p:List Dy)(aE:Rw H 147 ai Ap p)(Aq:Option Addr)(cq:Nat)(q:List Dy)(aF:Rw H 147 ai Aq q)(cW:p.length=9)(cX:q.length=9):RE 128 [.slice Ap p.length cp,.slice Aq q.length cq] H (fun v w=>∃ A c1,v=.tuple #[.slice A ((fm p q).getD []).length c1,.bool ((fm p q).isSome)]/\ah w H.heap.size 147 5 ai A c1 ((fm p q).getD [])/\Bl H w):=by
 refine enter func128 O 65 O O ?_;intro a g;have m:=bz H;refine ZS g fun d5=>Za O<|Za O<|Zx d5 fun a g _ d6=>Zf (X6 (k:=0) (vs:=[]) (zs:=[]) O gv my O O) ?_;rintro _ w1 ⟨b6,rfl,d7,o,d8⟩;have bN:=Q0 m.size d7;have m:=aa m o;refine Za O<|ZX d6 fun a g _ d9=>ZS g fun dA=>Zm O<|Zt dA fun a g=>Q8<|Xw (σ:=Nat×(List Dy)) (fun (s:Nat×(List Dy)) (a:Act) (w:World)=>match s with|(i,l)=>∃ aG aH,Fr a 65 [(0,.slice Ap p.length cp),(1,.slice Aq q.length cq),(6,.slice aG l.length aH),(16,vi (i:Int))]/\(i<=3)/\(gw (f_ (fun i j=>de (au p) (au q) i j 3) 3) (i*3)=some l)/\ah w H.heap.size 147 5 ai aG aH l/\Bl H w) (fun (s:Nat×(List Dy))=>match s with|(i,l)=>3-i) (0,[]) ?_ ?_
 ·exact ⟨some ⟨b6,0,none⟩,0,g.sb,O0,O7,(ah.empty d8 bN),m⟩
 intro ⟨i,l⟩ a w2 ⟨aG,aH,g,hi,hl,aW,m⟩;refine ZS g fun bO=>Ze (ew O O)<|ZX bO fun a g _ bP=>eh g O (fun C aI=>?_) (fun C aI=>?_)
 ·have b1:i<3:=by have:=aI;omega
  refine Q7<|bP _ _<|Q5 fun _ bQ=>Q8<|ZS g fun bR=>Zm O<|Za O<|Zx bR fun a g _ bS=>Zm O<|Zt bS fun a g=>Q8<|Xw (σ:=Nat×(List Dy)) (fun (s:Nat×(List Dy)) (a:Act) (w:World)=>match s with|(j,l2)=>∃ I Q,Fr a 65 [(0,.slice Ap p.length cp),(1,.slice Aq q.length cq),(6,.slice I l2.length Q),(7,vi (i:Int)),(16,vi (i:Int)),(19,vi (j:Int))]/\(j<=3)/\(gw (f_ (fun i j=>de (au p) (au q) i j 3) 3) (i*3+j)=some l2)/\ah w H.heap.size 147 5 ai I Q l2/\Bl H w) (fun (s:Nat×(List Dy))=>match s with|(j,l2)=>3-j) (0,l) ?_ ?_
  ·exact ⟨aG,aH,g.sb,O0,hl,aW,m⟩
  intro ⟨j,l2⟩ a w3 ⟨I,Q,g,hj,aT,e,m⟩;refine ZS g fun bU=>Ze (ew O O)<|ZX bU fun a g _ bW=>eh g O (fun D aJ=>?_) (fun D aJ=>?_)
  ·have aK:j<3:=by have:=aJ;omega
   have dI:=sY aT;refine Q7<|bW _ _<|Q5 fun _ bZ=>Q8<|ZS g fun cA=>Zm O<|Za O<|Zx cA fun a g _ cB=>Ze (Xg (ps:=[]) (cs:=[vi 0,vi 0,vi 0,vi 0,vi 0]) O (fun _=>by first|rfl|kernel_rfl))<|ZB [vi 0,vi 0,vi 0,vi 0,vi 0] iu Xm fun E w5 aX o f=>?_;have b2:=Q0 m.size aX;have J:=e.away aX;have e:=e.bw o;have m:=aa m o;refine ZX cB fun a g _ cC=>ZS g fun cD=>Zm O<|Zt cD fun a g=>Q8<|Xw (σ:=Nat×Dy) (fun (s:Nat×Dy) (a:Act) (w:World)=>match s with|(k,s)=>Fr a 65 [(0,.slice Ap p.length cp),(1,.slice Aq q.length cq),(6,.slice I l2.length Q),(7,vi (i:Int)),(8,vi (j:Int)),(9,(ae E)),(16,vi (i:Int)),(19,vi (j:Int)),(23,vi (k:Int))]/\(k<=3)/\(de (au p) (au q) i j k=some s)/\al w E 147 [vi s.num.a,vi s.num.b,vi s.num.c,vi s.num.d,vi s.exp]/\ah w H.heap.size 147 5 ai I Q l2/\Bl H w) (fun (s:Nat×Dy)=>match s with|(k,s)=>3-k) (0,dZ) ?_ ?_
   ·exact ⟨g.sb,O0,O,f,e,m⟩
   intro ⟨k,s⟩ a w6 ⟨g,hk,hs,f,e,m⟩;refine ZS g fun cE=>Ze (ew O O)<|ZX cE fun a g _ cF=>eh g O (fun G aL=>?_) (fun G aL=>?_)
   ·have aU:k<3:=by have:=aL;omega
    refine Q7<|cF _ _<|Q5 fun _ cG=>Q8<|ZS g fun cH=>Zm O<|Za O<|ZX cH fun a g _ cI=>eo (fun a w=>∃ t,Fr a 65 [(0,.slice Ap p.length cp),(1,.slice Aq q.length cq),(6,.slice I l2.length Q),(7,vi (i:Int)),(8,vi (j:Int)),(9,(ae E)),(11,(ae t)),(12,.bool ((aj ((au p).at i k) ((au q).at k j)).isSome)),(16,vi (i:Int)),(19,vi (j:Int)),(23,vi (k:Int))]/\H.heap.size<=t/\al w t 147 [vi (((aj ((au p).at i k) ((au q).at k j)).getD dZ).num.a),vi (((aj ((au p).at i k) ((au q).at k j)).getD dZ).num.b),vi (((aj ((au p).at i k) ((au q).at k j)).getD dZ).num.c),vi (((aj ((au p).at i k) ((au q).at k j)).getD dZ).num.d),vi (((aj ((au p).at i k) ((au q).at k j)).getD dZ).exp)]/\E≠t/\Bl w6 w) ?_ ?_
    ·have x:Bl w6 w6:=Below.refl _ _;refine gx none (fun j=>[19].contains j) mixed ?_;intro w7 o;have ⟨f,e,m,x⟩:=dk o f e m x;refine Yb g<|Yo 0 O (fun _=>X7 O)<|Yo 1 O (fun _=>X7 O)<|Yo 2 O (fun _=>sC O O O0 O0)<|Yo 3 O (fun _=>X7 O)<|Yo 4 O (fun _=>Xs O O O0 O0)<|Yi (k:=(3*i+k)) (u:=((au p).at i k)) (enc:=ai) (l:=p) 5 O ad O O gv Xm kb (aE.bx m) (vt cW b1 aU) O0 ?_;intro dJ b3;refine Ye 6 O (Xt (l:=[vi (((au p).at i k).num.a),vi (((au p).at i k).num.b),vi (((au p).at i k).num.c),vi (((au p).at i k).num.d),vi (((au p).at i k).exp)]) O Xa b3 O)<|Yo 7 O (fun _=>X7 O)<|Yo 8 O (fun _=>X7 O)<|Yo 9 O (fun _=>sC O O O0 O0)<|Yo 10 O (fun _=>X7 O)<|Yo 11 O (fun _=>Xs O O O0 O0)<|Yi (k:=(3*k+j)) (u:=((au q).at k j)) (enc:=ai) (l:=q) 12 O ad O O gv Xm kb (aF.bx m) (vt cX aU aK) O0 ?_;intro dK b4;refine Ye 13 O (Xt (l:=[vi (((au q).at k j).num.a),vi (((au q).at k j).num.b),vi (((au q).at k j).num.c),vi (((au q).at k j).num.d),vi (((au q).at k j).exp)]) O Xa b4 O) ?_;have z:Bl w7 w7:=Below.refl _ _;refine Yc [0,1,2,3,4,5,6,7,8,9,10,11,12,13,14,15,16,17,18] 2 (fun a w=>∃ t,Fr a 65 [(0,.slice Ap p.length cp),(1,.slice Aq q.length cq),(6,.slice I l2.length Q),(7,vi (i:Int)),(8,vi (j:Int)),(9,(ae E)),(11,(ae t)),(16,vi (i:Int)),(19,vi (j:Int)),(23,vi (k:Int)),(42,.agg #[vi (((aj ((au p).at i k) ((au q).at k j)).getD dZ).num.a),vi (((aj ((au p).at i k) ((au q).at k j)).getD dZ).num.b),vi (((aj ((au p).at i k) ((au q).at k j)).getD dZ).num.c),vi (((aj ((au p).at i k) ((au q).at k j)).getD dZ).num.d),vi (((aj ((au p).at i k) ((au q).at k j)).getD dZ).exp)]),(43,.bool ((aj ((au p).at i k) ((au q).at k j)).isSome))]/\H.heap.size<=t/\al w t 147 [vi 0,vi 0,vi 0,vi 0,vi 0]/\E≠t/\w7.heap.size<=t/\w6.heap.size<=t/\il I t/\ef p Ap t/\ef q Aq t/\Bl w7 w) ?_ ?_
     ·intro a w8 ⟨t,g,U,B,L,b5,b7,bH,cJ,cK,o⟩;clear z;have z:=o;have m:=aa m o;have x:=aa x o;refine Yb g<|Y1 19<|Yh O ad O (Vw [vi (((aj ((au p).at i k) ((au q).at k j)).getD dZ).num.a),vi (((aj ((au p).at i k) ((au q).at k j)).getD dZ).num.b),vi (((aj ((au p).at i k) ((au q).at k j)).getD dZ).num.c),vi (((aj ((au p).at i k) ((au q).at k j)).getD dZ).num.d),vi (((aj ((au p).at i k) ((au q).at k j)).getD dZ).exp)] Xm B) ?_;intro _ w9 ⟨ho,hb⟩;have x:=Below.oy x ho b7;have z:=Below.oy z ho b5;have m:=Below.oy m ho U;have B:=hb;exact Yo 20 O (fun _=>kk O)<|Yd fun a g=>⟨t,g.sb,U,B,L,x⟩
     intro aY;refine Y2 14 18 ?_ ?_
     ·refine Yk O ad (Vc (tm _ ((au p).at i k) ((au q).at k j)) tp) (fun _ _ ⟨_,o⟩=>o) ?_;rintro _ dL ⟨rfl,o⟩;have ⟨f,e,m,x,z⟩:=io o f e m x z;refine Yo 15 O (fun _=>X7 O)<|Yo 16 O (fun _=>X2 (vs:=[.agg #[vi (((aj ((au p).at i k) ((au q).at k j)).getD dZ).num.a),vi (((aj ((au p).at i k) ((au q).at k j)).getD dZ).num.b),vi (((aj ((au p).at i k) ((au q).at k j)).getD dZ).num.c),vi (((aj ((au p).at i k) ((au q).at k j)).getD dZ).num.d),vi (((aj ((au p).at i k) ((au q).at k j)).getD dZ).exp)],.bool ((aj ((au p).at i k) ((au q).at k j)).isSome)]) O O)<|Yo 17 O (fun _=>X2 (vs:=[.agg #[vi (((aj ((au p).at i k) ((au q).at k j)).getD dZ).num.a),vi (((aj ((au p).at i k) ((au q).at k j)).getD dZ).num.b),vi (((aj ((au p).at i k) ((au q).at k j)).getD dZ).num.c),vi (((aj ((au p).at i k) ((au q).at k j)).getD dZ).num.d),vi (((aj ((au p).at i k) ((au q).at k j)).getD dZ).exp)],.bool ((aj ((au p).at i k) ((au q).at k j)).isSome)]) O O)<|Y1 18<|Yk O ad (Xi (zs:=[vi 0,vi 0,vi 0,vi 0,vi 0]) iu O) (fun _ _ ⟨_,_,_,h,_⟩=>h) ?_;rintro _ dM ⟨b39,rfl,M,o,cM⟩;have W:E≠b39:=by have:=f.lt;omega
      have b8:=Q0 m.size M;have b9:=Q0 x.size M;have bC:=Q0 z.size M;have aA:=e.away M;have aM:=(aE.bx m).away M;have aN:=(aF.bx m).away M;have ⟨m,x,z⟩:=bh o m x z;exact fun a g=>aY _ a _ O ⟨b39,g.sb,b8,cM,W,bC,b9,aA,aM,aN,z⟩
     refine Yk O ad (Xi (zs:=[vi 0,vi 0,vi 0,vi 0,vi 0]) iu O) (fun _ _ ⟨_,_,_,h,_⟩=>h) ?_;rintro _ dN ⟨b40,rfl,N,o,aO⟩;have aB:E≠b40:=by have:=f.lt;omega
     have bD:=Q0 m.size N;have bE:=Q0 x.size N;have bF:=Q0 z.size N;have aC:=e.away N;have aP:=(aE.bx m).away N;have aQ:=(aF.bx m).away N;have ⟨m,x,z⟩:=bh o m x z;refine Y1 14<|Yk O ad (Vc (tm _ ((au p).at i k) ((au q).at k j)) tp) (fun _ _ ⟨_,o⟩=>o) ?_;rintro _ dP ⟨rfl,o⟩;have ⟨aO,m,x,z⟩:=dk o aO m x z;exact Yo 15 O (fun _=>X7 O)<|Yo 16 O (fun _=>X2 (vs:=[.agg #[vi (((aj ((au p).at i k) ((au q).at k j)).getD dZ).num.a),vi (((aj ((au p).at i k) ((au q).at k j)).getD dZ).num.b),vi (((aj ((au p).at i k) ((au q).at k j)).getD dZ).num.c),vi (((aj ((au p).at i k) ((au q).at k j)).getD dZ).num.d),vi (((aj ((au p).at i k) ((au q).at k j)).getD dZ).exp)],.bool ((aj ((au p).at i k) ((au q).at k j)).isSome)]) O O)<|Yo 17 O (fun _=>X2 (vs:=[.agg #[vi (((aj ((au p).at i k) ((au q).at k j)).getD dZ).num.a),vi (((aj ((au p).at i k) ((au q).at k j)).getD dZ).num.b),vi (((aj ((au p).at i k) ((au q).at k j)).getD dZ).num.c),vi (((aj ((au p).at i k) ((au q).at k j)).getD dZ).num.d),vi (((aj ((au p).at i k) ((au q).at k j)).getD dZ).exp)],.bool ((aj ((au p).at i k) ((au q).at k j)).isSome)]) O O)<|fun a g=>aY _ a _ O ⟨b40,g.sb,bD,aO,aB,bF,bE,aC,aP,aQ,z⟩
    intro a dQ ⟨t,g,U,B,L,o⟩;have ⟨f,e,m⟩:=bh o f e m;refine cI _ _<|ZS g fun cO=>Ze (Vn Xa f)<|Ze (Vn Xa B)<|Zf (Vc (zV _ s ((aj ((au p).at i k) ((au q).at k j)).getD dZ)) z_) ?_;rintro _ dR ⟨rfl,o⟩;have ⟨f,B,e,m⟩:=dk o f B e m;refine Zm O<|Ze (X2 (vs:=[.agg #[vi (((ap s ((aj ((au p).at i k) ((au q).at k j)).getD dZ)).getD dZ).num.a),vi (((ap s ((aj ((au p).at i k) ((au q).at k j)).getD dZ)).getD dZ).num.b),vi (((ap s ((aj ((au p).at i k) ((au q).at k j)).getD dZ)).getD dZ).num.c),vi (((ap s ((aj ((au p).at i k) ((au q).at k j)).getD dZ)).getD dZ).num.d),vi (((ap s ((aj ((au p).at i k) ((au q).at k j)).getD dZ)).getD dZ).exp)],.bool ((ap s ((aj ((au p).at i k) ((au q).at k j)).getD dZ)).isSome)]) O O)<|Ze (X2 (vs:=[.agg #[vi (((ap s ((aj ((au p).at i k) ((au q).at k j)).getD dZ)).getD dZ).num.a),vi (((ap s ((aj ((au p).at i k) ((au q).at k j)).getD dZ)).getD dZ).num.b),vi (((ap s ((aj ((au p).at i k) ((au q).at k j)).getD dZ)).getD dZ).num.c),vi (((ap s ((aj ((au p).at i k) ((au q).at k j)).getD dZ)).getD dZ).num.d),vi (((ap s ((aj ((au p).at i k) ((au q).at k j)).getD dZ)).getD dZ).exp)],.bool ((ap s ((aj ((au p).at i k) ((au q).at k j)).getD dZ)).isSome)]) O O)<|ZB [vi (((ap s ((aj ((au p).at i k) ((au q).at k j)).getD dZ)).getD dZ).num.a),vi (((ap s ((aj ((au p).at i k) ((au q).at k j)).getD dZ)).getD dZ).num.b),vi (((ap s ((aj ((au p).at i k) ((au q).at k j)).getD dZ)).getD dZ).num.c),vi (((ap s ((aj ((au p).at i k) ((au q).at k j)).getD dZ)).getD dZ).num.d),vi (((ap s ((aj ((au p).at i k) ((au q).at k j)).getD dZ)).getD dZ).exp)] iu Xm fun b42 dB cP o cQ=>?_;have bI:E≠b42:=by have:=f.lt;omega
    have bJ:t≠b42:=by have:=B.lt;omega
    have dC:=Q0 m.size cP;have ⟨f,e,m⟩:=bh o f e m;refine Za O<|ZX cO fun a g _ cR=>Q5 fun _ cS=>eo (fun a w=>Fr a 65 [(0,.slice Ap p.length cp),(1,.slice Aq q.length cq),(6,.slice I l2.length Q),(7,vi (i:Int)),(8,vi (j:Int)),(9,(ae E)),(13,(ae b42)),(16,vi (i:Int)),(19,vi (j:Int)),(23,vi (k:Int)),(55,.bool ((!((aj ((au p).at i k) ((au q).at k j)).isSome))||(!((ap s ((aj ((au p).at i k) ((au q).at k j)).getD dZ)).isSome))))]/\dB=w) ?_ ?_
    ·refine Zr g<|Zm O<|Ze (dn O)<|Zm O<|Zg 52 O ?_ ?_<;>intro y
     ·(iterate 2 refine Zp (gP y) ?_);exact Ze (Xh O y O)<|Zn fun a g=>⟨g.sub ⟨O,O,O,O,O,O,O,O,O,O,X1 O (by simp[C,D,G,y]),trivial⟩,O⟩
     refine Zv (gW y) (X7 O) ?_;refine Zv (gW y) (dn O)<|Ze (X9 O y O)<|Zn fun a g=>?_;exact ⟨g.sub ⟨O,O,O,O,O,O,O,O,O,O,X1 O (by simp[C,D,G,y]),trivial⟩,O⟩
    rintro a _ ⟨g,rfl⟩;refine cS _ _<|Xz g O ?_ ?_<;>intro aR
    ·have hn:=xN aR;have dD:de (au p) (au q) i j (k+1)=none:=by rw[de,hs];simp only[Qz];revert hn;cases aj ((au p).at i k) ((au q).at k j)<;>simp
     have dE:=z6 dD 3 O0;refine ZS g fun cT=>Za O<|Za O<|Zt cT fun a g=>Q6<|X3<|Xn<|X3<|X3<|Xn<|X3<|Xn<|X3<|X3<|Xn<|Xn<|X3<|X3<|Xn<|X3<|X4 g (dj g O O O) ?_;have he:fm p q=none:=wO (n:=i*3+j) (by rw[st aK];exact dE) 9 O0;rw[he];exact ⟨none,0,O,(ah.nil _ _ _ _ _),m⟩
    have hy:=xE aR;refine Q7<|cR _ _<|Zr g<|Ze (Vn Xa cQ)<|Zo (Vw [vi (((ap s ((aj ((au p).at i k) ((au q).at k j)).getD dZ)).getD dZ).num.a),vi (((ap s ((aj ((au p).at i k) ((au q).at k j)).getD dZ)).getD dZ).num.b),vi (((ap s ((aj ((au p).at i k) ((au q).at k j)).getD dZ)).getD dZ).num.c),vi (((ap s ((aj ((au p).at i k) ((au q).at k j)).getD dZ)).getD dZ).num.d),vi (((ap s ((aj ((au p).at i k) ((au q).at k j)).getD dZ)).getD dZ).exp)] Xm f) ?_;intro _ dS ⟨ho,hb⟩;have e:=e.onlyA ho J;have m:=Below.oy m ho b2;have f:=hb;exact Zn fun a g=>Xk<|cG _ _<|Zr g<|Ze (Xs O O O0 O0)<|Zm O<|Zn fun a g=>Xb<|⟨(k+1,((ap s ((aj ((au p).at i k) ((au q).at k j)).getD dZ)).getD dZ)),⟨g.sb,O0,(by rw[de,hs];simp only[Qz];revert hy;cases aj ((au p).at i k) ((au q).at k j)<;>simp;intro hy;revert hy;cases ap s _<;>simp),f,e,m⟩,O3⟩
   have aU:k=3:=by have:=aL;omega
   have hx:f_ (fun i j=>de (au p) (au q) i j 3) 3 (i*3+j)=some s:=by rw[st aK,<- hs,aU]
   refine Q9<|Xf<|Xf<|Xv<|cC _ _<|Zr g<|Zm O<|Ze (Vn Xa f)<|Zf (X6 (k:=1) (vs:=[.agg #[vi s.num.a,vi s.num.b,vi s.num.c,vi s.num.d,vi s.exp]]) (zs:=[vi s.num.a,vi s.num.b,vi s.num.c,vi s.num.d,vi s.exp]) O gv my O O) ?_;rintro _ dT ⟨b49,rfl,aZ,o,aS⟩;have bK:E≠b49:=by have:=f.lt;omega
   have dF:=Q0 m.size aZ;have ⟨f,e,m⟩:=bh o f e m;refine Zf (jf (enc:=ai) (l:=(l2)) (l2:=([s])) (B0:=H.heap.size) O O gv my kb rM e (Rd.of_blk aS O _ aS.lt) (by simp only[maxLen];simp;omega) O5 m.size) ?_;rintro _ dU ⟨dG,dH,rfl,cU,hg,bG⟩;have b0:ah _ H.heap.size 147 5 ai _ _ (l2):=e;clear bG;have m:=Below.app m b0 hg (Qb _) m.size;clear b0 hg;exact Za O<|Zn fun a g=>Xk<|bZ _ _<|Zr g<|Ze (Xs O O O0 O0)<|Zm O<|Zn fun a g=>Xb<|⟨(j+1,l2++[s]),⟨dG,dH,g.sb,O0,(vI aT hx),cU,m⟩,O3⟩
  have aK:j=3:=by have:=aJ;omega
  exact Q9<|Xf<|Xf<|Xv<|Xk<|bQ _ _<|Zr g<|Ze (Xs O O O0 O0)<|Zm O<|Zn fun a g=>Xb<|⟨(i+1,l2),⟨I,Q,g.sb,O0,(by rw[Wb,Nat.one_mul];rw[aK] at aT;exact aT),e,m⟩,O3⟩
 have b1:i=3:=by have:=aI;omega
 refine Q9<|Xf<|Xf<|Xv<|d9 _ _<|ZS g fun cV=>Zm O<|Za O<|Za O<|Zt cV fun a g=>Q6 (X4 g (dj g O O O) ?_);have he:fm p q=some l:=by rw[b1] at hl;exact hl
 rw[he];exact ⟨aG,aH,O,aW,m⟩
def Hf(m:World)(Ap:Option Addr)(cp:Nat)(p:List Dy)(aF:Rw m 147 ai Ap p)(aU:p.length=9):RE 129 [.slice Ap p.length cp] m (fun v w=>∃ A c,v=.slice A (mi p).length c/\ah w m.heap.size 147 5 ai A c (mi p)/\Bl m w):=by
 refine enter func129 O 26 O O ?_;intro a e;have g:=bz m;refine ZS e fun aW=>Za O<|Zx aW fun a e _ aX=>Zf (X6 (k:=0) (vs:=[]) (zs:=[]) O gv my O O) ?_;rintro _ w1 ⟨b5,rfl,aY,hE,aZ⟩;have aG:=Q0 g.size aY;have g:=aa g hE;refine Za O<|ZX aX fun a e _ b0=>ZS e fun b1=>Zm O<|Zt b1 fun a e=>Q8<|Xw (σ:=Nat×(List Dy)) (fun (s:Nat×(List Dy)) (a:Act) (w:World)=>match s with|(i,l)=>∃ A9 c9,Fr a 26 [(0,.slice Ap p.length cp),(3,.slice A9 l.length c9),(7,vi (i:Int))]/\(i<=3)/\(fy (fun i j=>(au p).at j i) 3 (i*3)=l)/\ah w m.heap.size 147 5 ai A9 c9 l/\Bl m w) (fun (s:Nat×(List Dy))=>match s with|(i,l)=>3-i) (0,[]) ?_ ?_
 ·exact ⟨some ⟨b5,0,none⟩,0,e.sb,O0,O,(ah.empty aZ aG),g⟩
 intro ⟨i,l⟩ a w2 ⟨A9,c9,e,hi,hl,aH,g⟩;refine ZS e fun aI=>Ze (ew O O)<|ZX aI fun a e _ aJ=>eh e O (fun aA o=>?_) (fun aA o=>?_)
 ·have aB:i<3:=by have:=o;omega
  refine Q7<|aJ _ _<|Q5 fun _ aK=>Q8<|ZS e fun aL=>Zm O<|Za O<|Zx aL fun a e _ aM=>Zm O<|Zt aM fun a e=>Q8<|Xw (σ:=Nat×(List Dy)) (fun (s:Nat×(List Dy)) (a:Act) (w:World)=>match s with|(j,l2)=>∃ x y,Fr a 26 [(0,.slice Ap p.length cp),(3,.slice x l2.length y),(4,vi (i:Int)),(7,vi (i:Int)),(10,vi (j:Int))]/\(j<=3)/\(fy (fun i j=>(au p).at j i) 3 (i*3+j)=l2)/\ah w m.heap.size 147 5 ai x y l2/\Bl m w) (fun (s:Nat×(List Dy))=>match s with|(j,l2)=>3-j) (0,l) ?_ ?_
  ·exact ⟨A9,c9,e.sb,O0,hl,aH,g⟩
  intro ⟨j,l2⟩ a w3 ⟨x,y,e,hj,z,f,g⟩;refine ZS e fun aN=>Ze (ew O O)<|ZX aN fun a e _ aO=>eh e O (fun aC q=>?_) (fun aC q=>?_)
  ·have h:j<3:=by have:=q;omega
   have b6:l2.length=i*3+j:=by rw[<- z,sU]
   refine Q7<|aO _ _<|Q5 fun _ aP=>Q8<|ZS e fun aQ=>Zm O<|Za O<|Zt aQ fun a e=>Zr e<|Zm O<|Zm O<|Zm O<|Ze (sC O O O0 O0)<|Zm O<|Ze (Xs O O O0 O0)<|Zi (k:=(3*j+i)) (u:=((au p).at j i)) (enc:=ai) (l:=p) ad O O gv Xm kb (aF.bx g) (vt aU h aB) O0 ?_;intro b7 aD;refine Ze (Xt (l:=[vi (((au p).at j i).num.a),vi (((au p).at j i).num.b),vi (((au p).at j i).num.c),vi (((au p).at j i).num.d),vi (((au p).at j i).exp)]) O Xa aD O)<|Zf (X6 (k:=1) (vs:=[.agg #[vi (((au p).at j i).num.a),vi (((au p).at j i).num.b),vi (((au p).at j i).num.c),vi (((au p).at j i).num.d),vi (((au p).at j i).exp)]]) (zs:=[vi (((au p).at j i).num.a),vi (((au p).at j i).num.b),vi (((au p).at j i).num.c),vi (((au p).at j i).num.d),vi (((au p).at j i).exp)]) O gv my O O) ?_;rintro _ w4 ⟨b8,rfl,B,hE,t⟩;have b2:=Q0 g.size B;have f:=f.bw hE;have g:=aa g hE;refine Zf (jf (enc:=ai) (l:=(l2)) (l2:=([((au p).at j i)])) (B0:=m.heap.size) O O gv my kb rM f (Rd.of_blk t O _ t.lt) (by simp only[maxLen];simp;omega) O5 g.size) ?_;rintro _ w5 ⟨b3,b4,rfl,aR,hg,aS⟩;have C:ah _ m.heap.size 147 5 ai _ _ (l2):=f;clear aS;have g:=Below.app g C hg (Qb _) g.size;clear C hg;exact Za O<|Zn fun a e=>Xk<|aP _ _<|Zr e<|Ze (Xs O O O0 O0)<|Zm O<|Zn fun a e=>Xb<|⟨(j+1,l2++[((au p).at j i)]),⟨b3,b4,e.sb,O0,(by rw[DJ h,z]),aR,g⟩,O3⟩
  have h:j=3:=by have:=q;omega
  exact Q9<|Xf<|Xf<|Xv<|Xk<|aK _ _<|Zr e<|Ze (Xs O O O0 O0)<|Zm O<|Zn fun a e=>Xb<|⟨(i+1,l2),⟨x,y,e.sb,O0,(by rw[Wb,Nat.one_mul];rw[h] at z;exact z),f,g⟩,O3⟩
 have aB:i=3:=by have:=o;omega
 refine Q9<|Xf<|Xf<|Xv<|b0 _ _<|ZS e fun aT=>Zm O<|Za O<|Zt aT fun a e=>Q6 (X4 e (Xu e O O) ?_);have he:mi p=l:=by rw[aB] at hl;exact hl
 rw[he];exact ⟨A9,c9,O,aH,g⟩
def zS(i:World)(Ap:Option Addr)(cp:Nat)(p:List Dy)(aB:Rw i 147 ai Ap p)(aU:p.length<=9):RE 99 [.agg #[.slice Ap p.length cp]] i (fun v w=>v=vi (az p)/\Bl i w):=by
 refine enter func99 O 19 O O ?_;intro a f;have g:=bz i;refine ZS f fun aJ=>Zf (bt (zs:=[.slice Ap p.length cp]) O O) ?_;rintro _ w1 ⟨b3,rfl,aK,hE,aL⟩;have aT:=Q0 g.size aK;have g:=aa g hE;refine Za O<|Zx aJ fun a f _ aM=>Za O<|ZX aM fun a f _ aN=>ZS f fun aO=>Ze (Vd O o' 0)<|Ze (X0 O ju (aL.at 0))<|Ze (fh O gv)<|Zm O<|Zt aO fun a f=>Q8<|Xw (σ:=Nat) (fun (k:Nat) (a:Act) (w:World)=>Fr a 19 [(3,vi (az (p.take k))),(7,.slice Ap p.length cp),(8,vi (p.length:Int)),(9,vi (k:Int))]/\(k<=p.length)/\Bl i w) (fun (k:Nat)=>p.length-k) 0 ?_ ?_
 ·exact ⟨f.sb,(Qf _),g⟩
 intro k a w2 ⟨f,hk,g⟩;refine ZS f fun aP=>Ze (ew O O)<|ZX aP fun a f _ aQ=>eh f O (fun aC aR=>?_) (fun aC aR=>?_)
 ·have ⟨e,j⟩:=Xe (l:=p) (k:=k) O0;refine Q7<|aQ _ _<|Q5 fun _ aD=>Q8<|ZS f fun aE=>Zi (k:=k) (u:=e) (enc:=ai) (l:=p) ad O O gv Xm kb (aB.bx g) j O ?_;intro aW aA;refine Ze (Xt (l:=[vi e.num.a,vi e.num.b,vi e.num.c,vi e.num.d,vi e.exp]) O Xa aA O)<|ZB [vi e.num.a,vi e.num.b,vi e.num.c,vi e.num.d,vi e.exp] iu Xm fun aX w4 aF hE aG=>?_;have aS:=Q0 g.size aF;have g:=aa g hE;exact Zt aE fun a f=>Zr f<|Zm O<|Ze (Vd O oJ 4)<|Ze (X0 O X8 (aG.at 4))<|Ze (Vx (CT O O) (Im j).symm)<|Za O<|Zn fun a f=>Xk<|aD _ _<|Zr f<|Ze (Xs O O O0 O0)<|Zm O<|Zn fun a f=>Xb<|⟨k+1,⟨f.sb,O0,g⟩,O0⟩
 have aH:az (p.take k)=az p:=by rw[Qi O0]
 refine Q9<|Xf<|Xf<|Xv<|aN _ _<|ZS f fun aI=>Zm O<|Za O<|Zt aI fun a f=>Q6 (X4 f (Xu f O O) ?_);exact ⟨by rw[aH],g⟩
theorem PJ(w0:World)(x:Dy):RE 169 [.agg #[vi x.num.a,vi x.num.b,vi x.num.c,vi x.num.d,vi x.exp]] w0 (fun v w=>v=.bool (re x)/\Bl w0 w):=by
 refine enter func169 O 21 O O ?_;intro a i;have k:=bz w0;refine ZS i fun aA=>Zf (bt (zs:=[vi x.num.a,vi x.num.b,vi x.num.c,vi x.num.d,vi x.exp]) O O) ?_;rintro _ w1 ⟨b2,rfl,aB,hE,g⟩;have aD:=Q0 k.size aB;have k:=aa k hE;refine Za O<|ZX aA fun a i _ aC=>eo (fun a w=>Fr a 21 [(2,.bool (((dt x)&&(x.num.c==0))&&(x.num.d==(wr (-x.num.b)))))]/\Bl w1 w) ?_ ?_
 ·have j:Bl w1 w1:=Below.refl _ _;refine Zr i<|Ze (Vn Xa g)<|Zf (Vc (tg _ x) s8) ?_;rintro _ w2 ⟨rfl,hE⟩;have ⟨g,k,j⟩:=bh hE g k j;refine Zm O<|Zg 5 O ?_ ?_<;>intro f
  ·refine Zv (gW f) (Vd O pG 0) ?_;refine Zv (gW f) (Vd O lu 2) ?_;refine Zv (gW f) (X0 O X8 (g.at 2)) ?_;refine Zv (gW f) (go O O)<|Ze (Xh O f O)<|Zm O<|Zg 11 O ?_ ?_<;>intro e
   ·refine Zv (gW e) (Vd O pG 0) ?_;refine Zv (gW e) (Vd O lw 3) ?_;refine Zv (gW e) (X0 O X8 (g.at 3)) ?_;refine Zv (gW e) (Vd O pG 0) ?_;refine Zv (gW e) (Vd O ly 1) ?_;refine Zv (gW e) (X0 O X8 (g.at 1)) ?_;refine Zv (gW e) (rQ O) ?_;refine Zv (gW e) (go O O)<|Ze (Xh O e O)<|Za O<|Zn fun a i=>?_;exact ⟨i.sub ⟨X1 O (by simp[f,e]),trivial⟩,j⟩
   (iterate 8 refine Zp (gP e) ?_);exact Ze (X9 O e O)<|Za O<|Zn fun a i=>⟨i.sub ⟨X1 O (by simp[f,e]),trivial⟩,j⟩
  (iterate 4 refine Zp (gP f) ?_);refine Ze (X9 O f O)<|Zm O<|Zp (gP O) ?_;(iterate 7 refine Zp (gP O) ?_);exact Ze (X9 O O O)<|Za O<|Zn fun a i=>⟨i.sub ⟨X1 O (by simp[f]),trivial⟩,j⟩
 intro a w3 ⟨i,hE⟩;have k:=aa k hE;refine aC _ _<|Q6 (X4 i (Xu i O O) ?_);exact ⟨by simp[re, *],k⟩
def MV(w0:World)(x:Dy):RE 168 [.agg #[vi x.num.a,vi x.num.b,vi x.num.c,vi x.num.d,vi x.exp]] w0 (fun v w=>v=.bool (!re x)/\Bl w0 w):=by
 refine enter func168 O 6 O O ?_;intro a hf;have hW:=bz w0;refine ZS hf fun aA=>Zf (bt (zs:=[vi x.num.a,vi x.num.b,vi x.num.c,vi x.num.d,vi x.exp]) O O) ?_;rintro _ w1 ⟨b2,rfl,aB,hE,aC⟩;have aE:=Q0 hW.size aB;have hW:=aa hW hE;refine Za O<|Zx aA fun a hf _ aD=>Ze (Vn Xa aC)<|Zf (Vc (PJ _ x) Lb) ?_;rintro _ w2 ⟨rfl,hE⟩;have hW:=aa hW hE;refine Ze (dn O)<|Za O<|Zt aD fun a hf=>Q6 (X4 hf (Xu hf O O) ?_);exact ⟨O,hW⟩
def qB(x y:Rg) : Rg:=⟨wr (x.a-y.a),wr (x.b-y.b),wr (x.c-y.c),wr (x.d-y.d)⟩
def fx(x y:Dy) : Option Dy:=
 if (dt x&&dt y)=true then
  if ((aq x (max x.exp y.exp)).2&&(aq y (max x.exp y.exp)).2&&fk (qB (aq x (max x.exp y.exp)).1 (aq y (max x.exp y.exp)).1) [(aq x (max x.exp y.exp)).1,(aq y (max x.exp y.exp)).1])=true then
   oL (be (qB (aq x (max x.exp y.exp)).1 (aq y (max x.exp y.exp)).1) [(aq x (max x.exp y.exp)).1,(aq y (max x.exp y.exp)).1]) (max x.exp y.exp)
  else none
 else none
def nv(a:Int) : Prop:=-1<=a/\a<=1
def VL:((List.range 5).all fun i=>(List.range 5).all fun j=>decide (aj (dO ((i:Int)-2) 0) (dO ((j:Int)-2) 0)=some (dO (((i:Int)-2)*((j:Int)-2)) 0)))=true:=by kernel_rfl
def Kc:((List.range 13).all fun i=>(List.range 13).all fun j=>decide (ap (dO ((i:Int)-6) 0) (dO ((j:Int)-6) 0)=some (dO (((i:Int)-6)+((j:Int)-6)) 0))&&decide (fx (dO ((i:Int)-6) 0) (dO ((j:Int)-6) 0)=some (dO (((i:Int)-6)-((j:Int)-6)) 0)))=true:=by kernel_rfl
def Gg{a b:Int}(ha:-2<=a/\a<=2)(hb:-2<=b/\b<=2):aj (dO a 0) (dO b 0)=some (dO (a*b) 0):=by
 have h:=VL;simp only[W1,W2,Qr] at h;have:=h (a+2).toNat O0 (b+2).toNat O0
 rwa [show (((a+2).toNat:Nat) : Int)-2=a by omega,show (((b+2).toNat:Nat) : Int)-2=b by omega] at this
def B4{a b:Int}(ha:-6<=a/\a<=6)(hb:-6<=b/\b<=6):ap (dO a 0) (dO b 0)=some (dO (a+b) 0)/\fx (dO a 0) (dO b 0)=some (dO (a-b) 0):=by
 have h:=Kc;simp only[W1,W2,Qd,Qr] at h;have:=h (a+6).toNat O0 (b+6).toNat O0
 rwa [show (((a+6).toNat:Nat) : Int)-6=a by omega,show (((b+6).toNat:Nat) : Int)-6=b by omega] at this
def wB{a b:Int}(ha:nv a)(hb:nv b):nv (a*b):=by
 unfold nv at *;have h1:a = -1∨a=0∨a=1:=by omega
 rcases h1 with rfl|rfl|rfl<;>omega
def Gu{a b:Int}(ha:nv a)(hb:nv b):aj (dO a 0) (dO b 0)=some (dO (a*b) 0):=Gg (by unfold nv at ha;omega) (by unfold nv at hb;omega)
def K7{a b c d:Int}(ha:nv a)(hd:nv d)(hb:nv b)(hc:nv c):fx (dO (a*d) 0) (dO (b*c) 0)=some (dO (a*d-b*c) 0):=by
 have h1:=wB ha hd;have h2:=wB hb hc;unfold nv at h1 h2;exact (B4 O0 O0).2
structure ry (q:List Int) : Prop where
 len:q.length=9
 tri:∀ n,nv (q.getD n 0)
def ry.blen{q:List Int}(h:ry q):(l_ q).length=9:=by simp[l_,h.len]
def ry.get{q:List Int}(h:ry q){n:Nat}(hn:n<9):(l_ q)[n]? = some (dO (q.getD n 0) 0):=by
 have:=h.len;rw[l_,List.getElem?_map,Qa,Qc O0];rfl
def mx(q:List Int)(k:Nat) : Nat->List Int
 | 0=>[]
 | j+1=>if j=k then mx q k j else mx q k j++[q.getD (3+j) 0,q.getD (6+j) 0]
def LD{q:List Int}{k j:Nat}(h:j≠k):l_ (mx q k j)++[dO (q.getD (3+j) 0) 0,dO (q.getD (6+j) 0) 0]=l_ (mx q k (j+1)):=by
 rw[mx,Q3 h];simp[l_]
def Pe{q:List Int}{k j:Nat}(h:j=k):l_ (mx q k j)=l_ (mx q k (j+1)):=by rw[mx,Q4 h]
def N_(q:List Int)(k j:Nat):(l_ (mx q k j)).length<=2*j:=by
 induction j with
 | zero=>exact Qf _
 | succ j ih=>
  rw[mx];split
  ·omega
  ·simp[l_] at ih ⊢;omega
def eN(q:List Int)(k n:Nat) : Int:=(mx q k 3).getD n 0
def EN{q:List Int}{k:Nat}(h:k<3):(l_ (mx q k 3)).length=4:=by
 rcases oh h with rfl|rfl|rfl<;>rfl
def z7{q:List Int}(_:ry q){k:Nat}(h:k<3){n:Nat}(hn:n<4):(l_ (mx q k 3))[n]? = some (dO (eN q k n) 0):=by
 have hl:(mx q k 3).length=4:=by have:=EN (q:=q) h;simpa[l_] using this
 rw[l_,List.getElem?_map,eN,Qa,Qc O0];rfl
def r5{q:List Int}(hS:ry q){k:Nat}(h:k<3){n:Nat}(hn:n<4):nv (eN q k n):=by
 have hn':n=0∨n=1∨n=2∨n=3:=by omega
 rcases oh h with rfl|rfl|rfl<;>rcases hn' with rfl|rfl|rfl|rfl<;>exact hS.tri _
def sL(q:List Int)(k:Nat) : Int:=eN q k 0*eN q k 3-eN q k 2*eN q k 1
def fv(q:List Int) : Nat->Int
 | 0=>0
 | k+1=>if k=1 then fv q k-q.getD k 0*sL q k else fv q k+q.getD k 0*sL q k
def Ii{q:List Int}(hS:ry q){k:Nat}(h:k<3):-2<=sL q k/\sL q k<=2:=by
 have h1:=wB (r5 hS h (show 0<4 by decide)) (r5 hS h (show 3<4 by decide));have h2:=wB (r5 hS h (show 2<4 by decide)) (r5 hS h (show 1<4 by decide));unfold nv at h1 h2;unfold sL;omega
def AV{q:List Int}(hS:ry q){k:Nat}(h:k<3):-2<=q.getD k 0*sL q k/\q.getD k 0*sL q k<=2:=by
 have h1:=Ii hS h;have h2:=hS.tri k;unfold nv at h2;have h3:q.getD k 0 = -1∨q.getD k 0=0∨q.getD k 0=1:=by omega
 rcases h3 with e|e|e<;>rw[e]<;>omega
def HC{q:List Int}(hS:ry q):∀ k:Nat,k<=3->-(2*(k:Int))<=fv q k/\fv q k<=2*(k:Int):=fun k=>by
 induction k with
 | zero=>exact fun _=>⟨Int.le_refl _,Int.le_refl _⟩
 | succ k ih=>
  intro hk;have h1:=ih O0;have h2:=AV hS (show k<3 by omega);rw[fv];split<;>omega
def EU{q:List Int}(hS:ry q){k:Nat}(h:k<3):aj (dO (q.getD k 0) 0) (dO (eN q k 0*eN q k 3-eN q k 2*eN q k 1) 0)=some (dO (q.getD k 0*sL q k) 0):=by
 have h2:=hS.tri k;unfold nv at h2;exact Gg O0 (Ii hS h)
def Pd{q:List Int}(hS:ry q){k:Nat}(h:k<3)(h1:k≠1):ap (dO (fv q k) 0) (dO (q.getD k 0*sL q k) 0)=some (dO (fv q (k+1)) 0):=by
 have a:=HC hS k O0;have b:=AV hS h;rw[(B4 O0 O0).1,fv,Q3 h1]
def Ro{q:List Int}(hS:ry q){k:Nat}(h:k<3)(h1:k=1):fx (dO (fv q k) 0) (dO (q.getD k 0*sL q k) 0)=some (dO (fv q (k+1)) 0):=by
 have a:=HC hS k O0;have b:=AV hS h;rw[(B4 O0 O0).2,fv,Q4 h1]
def pc(k:Nat) : List Int:=yl.getD k []
def Ov:((List.range 24).all fun k=>(pc k).length==9&&(pc k).all (fun x=>decide (-1<=x/\x<=1))&&decide (fv (pc k) 3=1)&&!((ck k).any fun x=>!re x))=true:=by kernel_rfl
def zN{k:Nat}(hk:k<24):ry (pc k)/\fv (pc k) 3=1/\((ck k).any fun x=>!re x)=false:=by
 have h1:=W1.1 Ov k (W2.2 hk);simp only[Qd,beq_iff_eq,Qr,Bool.not_eq_true'] at h1;have ⟨⟨⟨h2,h3⟩,h4⟩,h5⟩:=h1;refine ⟨⟨h2,fun n=>?_⟩,h4,h5⟩;rw[W1] at h3;rw[Qa];cases e:(pc k)[n]? with
 | none=>exact ⟨by decide,by decide⟩
 | some x=>
  have:=h3 x (Qe e);simpa[nv] using this
def UO:((List.range 24).all fun k=>(mi (ck k)).all dt&&(List.range 3).all fun i=>(List.range 3).all fun j=>decide ((au (mi (ck k))).at i j=dO (jm k j i) 0)&&decide (jm k i 0*jm k j 0+jm k i 1*jm k j 1+jm k i 2*jm k j 2=jm 0 i j))=true:=by kernel_rfl
def UM{k:Nat}(hk:k<24):fm (ck k) (mi (ck k))=some (ck 0):=by
 have h1:=W1.1 UO k (W2.2 hk)
 simp only[Qd,W1,W2,Qr] at h1
 obtain ⟨h2,h3⟩:=h1;have hv:=sN hk
 have ht:BV (mi (ck k)) 0 (fun i j=>zI (jm k j i)):=⟨zu _,h2,fun i j hi hj=>by rw[(h3 i hi j hj).1];exact qR rfl rfl⟩
 have hz:∀ a b:Int,zI a*zI b=zI (a*b):=fun a b=>by apply ke<;>simp[pe,pK,pX,pZ,zI]
 have hz2:∀ a b:Int,zI a+zI b=zI (a+b):=fun a b=>rfl
 have ho:∀ i j,i<3->j<3->∃ x,de (au (ck k)) (au (mi (ck k))) i j 3=some x:=fun i j hi hj=>CX hv ht O2 (R:=16) O2 hi hj fun n hn=>by
  have hs:=(zN hk).1.tri
  have t1:nv (jm k i n):=hs _
  have t2:nv (jm k j n):=hs _
  have t3:=wB t1 t2
  show qN (zI _*zI _)<=16
  rw[hz]
  unfold nv at t3
  have h5:jm k i n*jm k j n = -1∨jm k i n*jm k j n=0∨jm k i n*jm k j n=1:=by omega
  rcases h5 with e|e|e<;>rw[e]<;>decide
 obtain ⟨r,hr⟩ : ∃ r,fm (ck k) (mi (ck k))=some r:=vB 9 fun n hn=>ho (n/3) (n % 3) O0 O0
 rw[hr]
 have hb:=Cj hr hv ht
 rw[Ec hb (sN (show 0<24 by decide)) fun i j hi hj=>?_]
 show s2^0*(zI _*zI _+zI _*zI _+zI _*zI _)=s2^(0+0)*zI _
 rw[hz,hz,hz,hz2,hz2,(h3 i hi j hj).2]
def MG:((List.range 9).all fun n=>decide ((ck 0)[n]? = some (dO (if n % 4=0 then 1 else 0) 0)))=true:=by kernel_rfl
def Tj{n:Nat}(hn:n<9):(ck 0)[n]? = some (dO (if n % 4=0 then 1 else 0) 0):=by
 have h1:=W1.1 MG n (W2.2 hn);simpa using h1
def LH{n:Nat}(hn:n<9):dO (if n % 4=0 then 1 else 0) 0=(⟨⟨if ((n:Int).tmod 4==0)=true then 1 else 0,0,0,0⟩,0⟩ : Dy):=by
 have h:n=0∨n=1∨n=2∨n=3∨n=4∨n=5∨n=6∨n=7∨n=8:=by omega
 rcases h with rfl|rfl|rfl|rfl|rfl|rfl|rfl|rfl|rfl<;>rfl
def Lm(w0:World)(x:Rg)(y:Rg):RE 213 [.agg #[vi x.a,vi x.b,vi x.c,vi x.d],.agg #[vi y.a,vi y.b,vi y.c,vi y.d]] w0 (fun v w=>v=.tuple #[rV (be (qB x y) [x,y]),.bool (fk (qB x y) [x,y])]/\Bl w0 w):=by
 refine enter func213 O 33 O O ?_;intro a hf;have g:=bz w0;refine ZS hf fun aI=>Zf (bt (zs:=[vi x.a,vi x.b,vi x.c,vi x.d]) O O) ?_;rintro _ w1 ⟨b2,rfl,aJ,j,e⟩;have aO:=Q0 g.size aJ;have g:=aa g j;refine Zf (bt (zs:=[vi y.a,vi y.b,vi y.c,vi y.d]) O O) ?_;rintro _ w2 ⟨b3,rfl,aK,j,f⟩;have aC:b2≠b3:=by have:=e.lt;omega
 have aP:=Q0 g.size aK;have e:=e.bw j;have g:=aa g j;refine Zf (Xi (zs:=[vi 0,vi 0,vi 0,vi 0]) nz O) ?_;rintro _ w3 ⟨b4,rfl,aL,j,i⟩;have aD:b2≠b4:=by have:=e.lt;omega
 have aE:b3≠b4:=by have:=f.lt;omega
 have aA:=Q0 g.size aL;have ⟨e,f,g⟩:=bh j e f g;refine Za O<|Zx aI fun a hf _ aM=>Ze (Vd O lz 0)<|Ze (X0 O X8 (e.at 0))<|Ze (Vd O lz 0)<|Ze (X0 O X8 (f.at 0))<|Ze (pz O O)<|Ze (Vd O ly 1)<|Ze (X0 O X8 (e.at 1))<|Ze (Vd O ly 1)<|Ze (X0 O X8 (f.at 1))<|Ze (pz O O)<|Ze (Vd O lu 2)<|Ze (X0 O X8 (e.at 2))<|Ze (Vd O lu 2)<|Ze (X0 O X8 (f.at 2))<|Ze (pz O O)<|Ze (Vd O lw 3)<|Ze (X0 O X8 (e.at 3))<|Ze (Vd O lw 3)<|Ze (X0 O X8 (f.at 3))<|Ze (pz O O)<|Ze (Xg (ps:=[(0,vi (wr (x.a-y.a))),(1,vi (wr (x.b-y.b))),(2,vi (wr (x.c-y.c))),(3,vi (wr (x.d-y.d)))]) (cs:=[vi (wr (x.a-y.a)),vi (wr (x.b-y.b)),vi (wr (x.c-y.c)),vi (wr (x.d-y.d))]) O (fun _=>by first|rfl|kernel_rfl))<|Ze (Vn g9 e)<|Ze (Vn g9 f)<|Zf (X6 (k:=2) (vs:=[.agg #[vi x.a,vi x.b,vi x.c,vi x.d],.agg #[vi y.a,vi y.b,vi y.c,vi y.d]]) (zs:=[vi x.a,vi x.b,vi x.c,vi x.d,vi y.a,vi y.b,vi y.c,vi y.d]) O sX ul O O) ?_;rintro _ w4 ⟨b6,rfl,aN,j,aB⟩;have aF:b2≠b6:=by have:=e.lt;omega
 have aG:b3≠b6:=by have:=f.lt;omega
 have aH:b4≠b6:=by have:=i.lt;omega
 have aQ:=Q0 g.size aN;have i:=i.bw j;have g:=aa g j;refine Zf (Vc (vM _ (⟨wr (x.a-y.a),wr (x.b-y.b),wr (x.c-y.c),wr (x.d-y.d)⟩ : Rg) (some ⟨b6,0,none⟩) 2 ([x,y]) (Rd.of_blk aB O _ aB.lt) O O6 O6) vK) ?_;rintro _ w5 ⟨rfl,j⟩;have i:=i.bw j;have g:=aa g j;refine Ze (X2 (vs:=[.agg #[vi ((be (⟨wr (x.a-y.a),wr (x.b-y.b),wr (x.c-y.c),wr (x.d-y.d)⟩ : Rg) ([x,y])).a),vi ((be (⟨wr (x.a-y.a),wr (x.b-y.b),wr (x.c-y.c),wr (x.d-y.d)⟩ : Rg) ([x,y])).b),vi ((be (⟨wr (x.a-y.a),wr (x.b-y.b),wr (x.c-y.c),wr (x.d-y.d)⟩ : Rg) ([x,y])).c),vi ((be (⟨wr (x.a-y.a),wr (x.b-y.b),wr (x.c-y.c),wr (x.d-y.d)⟩ : Rg) ([x,y])).d)],.bool (fk (⟨wr (x.a-y.a),wr (x.b-y.b),wr (x.c-y.c),wr (x.d-y.d)⟩ : Rg) ([x,y]))]) O O)<|Ze (X2 (vs:=[.agg #[vi ((be (⟨wr (x.a-y.a),wr (x.b-y.b),wr (x.c-y.c),wr (x.d-y.d)⟩ : Rg) ([x,y])).a),vi ((be (⟨wr (x.a-y.a),wr (x.b-y.b),wr (x.c-y.c),wr (x.d-y.d)⟩ : Rg) ([x,y])).b),vi ((be (⟨wr (x.a-y.a),wr (x.b-y.b),wr (x.c-y.c),wr (x.d-y.d)⟩ : Rg) ([x,y])).c),vi ((be (⟨wr (x.a-y.a),wr (x.b-y.b),wr (x.c-y.c),wr (x.d-y.d)⟩ : Rg) ([x,y])).d)],.bool (fk (⟨wr (x.a-y.a),wr (x.b-y.b),wr (x.c-y.c),wr (x.d-y.d)⟩ : Rg) ([x,y]))]) O O)<|Zo (Vw [vi ((be (⟨wr (x.a-y.a),wr (x.b-y.b),wr (x.c-y.c),wr (x.d-y.d)⟩ : Rg) ([x,y])).a),vi ((be (⟨wr (x.a-y.a),wr (x.b-y.b),wr (x.c-y.c),wr (x.d-y.d)⟩ : Rg) ([x,y])).b),vi ((be (⟨wr (x.a-y.a),wr (x.b-y.b),wr (x.c-y.c),wr (x.d-y.d)⟩ : Rg) ([x,y])).c),vi ((be (⟨wr (x.a-y.a),wr (x.b-y.b),wr (x.c-y.c),wr (x.d-y.d)⟩ : Rg) ([x,y])).d)] lr i) ?_;intro _ w6 ⟨ho,hb⟩;have g:=Below.oy g ho aA;have i:=hb;refine Za O<|Zt aM fun a hf=>Q6 (X4 hf (dj hf O (an.cellN (l:=[vi ((be (⟨wr (x.a-y.a),wr (x.b-y.b),wr (x.c-y.c),wr (x.d-y.d)⟩ : Rg) ([x,y])).a),vi ((be (⟨wr (x.a-y.a),wr (x.b-y.b),wr (x.c-y.c),wr (x.d-y.d)⟩ : Rg) ([x,y])).b),vi ((be (⟨wr (x.a-y.a),wr (x.b-y.b),wr (x.c-y.c),wr (x.d-y.d)⟩ : Rg) ([x,y])).c),vi ((be (⟨wr (x.a-y.a),wr (x.b-y.b),wr (x.c-y.c),wr (x.d-y.d)⟩ : Rg) ([x,y])).d)]) O g9 (i.at 0) O) O) ?_);exact ⟨O,g⟩
abbrev Zh:=fun (a:Dy) (b:Dy)=>be (qB ((aq a (max a.exp b.exp)).1) ((aq b (max a.exp b.exp)).1)) [((aq a (max a.exp b.exp)).1),((aq b (max a.exp b.exp)).1)]
abbrev ZM:=fun (a:Dy) (b:Dy)=>(oL (Zh a b) (max a.exp b.exp)).getD dZ
def Kl(w0:World)(x:Dy)(y:Dy):RE 194 [.agg #[vi x.num.a,vi x.num.b,vi x.num.c,vi x.num.d,vi x.exp],.agg #[vi y.num.a,vi y.num.b,vi y.num.c,vi y.num.d,vi y.exp],.func (.func 213) #[] #[]] w0 (fun v w=>v=.tuple #[dV ((fx x y).getD dZ),.bool ((fx x y).isSome)]/\Bl w0 w):=by
 refine enter func194 O 64 O O ?_;intro a j;have g:=bz w0;refine ZS j fun aT=>Zf (bt (zs:=[vi x.num.a,vi x.num.b,vi x.num.c,vi x.num.d,vi x.exp]) O O) ?_;rintro _ w1 ⟨b2,rfl,aU,f,p⟩;have bC:=Q0 g.size aU;have g:=aa g f;refine Zf (bt (zs:=[vi y.num.a,vi y.num.b,vi y.num.c,vi y.num.d,vi y.exp]) O O) ?_;rintro _ w2 ⟨b3,rfl,aW,f,m⟩;have aQ:b2≠b3:=by have:=p.lt;omega
 have bD:=Q0 g.size aW;have p:=p.bw f;have g:=aa g f;refine Zf (Xi (zs:=[vi 0,vi 0,vi 0,vi 0,vi 0]) iu O) ?_;rintro _ w3 ⟨b4,rfl,aX,f,e⟩;have aR:b2≠b4:=by have:=p.lt;omega
 have aS:b3≠b4:=by have:=m.lt;omega
 have z:=Q0 g.size aX;have ⟨p,m,g⟩:=bh f p m g;refine Za O<|ZX aT fun a j _ aY=>Q5 fun _ aZ=>eo (fun a w=>Fr a 64 [(2,.func (.func 213) #[] #[]),(3,(ae b2)),(4,(ae b3)),(6,(ae b4)),(22,.bool ((!(dt x))||(!(dt y))))]/\Bl w3 w) ?_ ?_
 ·have u:Bl w3 w3:=Below.refl _ _;refine Zr j<|Ze (Vn Xa p)<|Zf (Vc (tg _ x) s8) ?_;rintro _ w4 ⟨rfl,f⟩;have ⟨m,g,u⟩:=bh f m g u;refine Ze (dn O)<|Zm O<|Zg 18 O ?_ ?_<;>intro o
  ·(iterate 3 refine Zp (gP o) ?_);exact Ze (Xh O o O)<|Zn fun a j=>⟨j.sub ⟨O,O,O,O,X1 O (by simp[o]),trivial⟩,u⟩
  refine Zv (gW o) (Vn Xa m) ?_;refine Zk (gW o) (Vc (tg _ y) s8) ?_;rintro _ w5 ⟨rfl,f⟩;have g:=aa g f;have u:=aa u f;refine Zv (gW o) (dn O)<|Ze (X9 O o O)<|Zn fun a j=>?_;exact ⟨j.sub ⟨O,O,O,O,X1 O (by simp[o]),trivial⟩,u⟩
 intro a w6 ⟨j,f⟩;have ⟨p,m,e,g⟩:=dk f p m e g;refine aZ _ _<|Xz j O ?_ ?_<;>intro h
 ·have q:=h;have hn:(dt x&&dt y)=false:=by revert h;cases dt x<;>cases dt y<;>simp
  refine ZS j fun b0=>Ze (Xg (ps:=[]) (cs:=[vi 0,vi 0,vi 0,vi 0,vi 0]) O (fun _=>by first|rfl|kernel_rfl))<|Zo (Vw [vi 0,vi 0,vi 0,vi 0,vi 0] Xm e) ?_;intro _ w7 ⟨ho,hb⟩;have g:=Below.oy g ho z;have e:=hb;exact Za O<|Zt b0 fun a j=>Q6<|X3<|X4 j (dj j O (an.cellN (l:=[vi 0,vi 0,vi 0,vi 0,vi 0]) O Xa (e.at 0) O) O)<|⟨by rw[fx,hn];rfl,g⟩
 have q:=h;have hy:(dt x&&dt y)=true:=by revert h;cases dt x<;>cases dt y<;>simp
 have hx:=qi (Qd _ _▸hy:dt x=true/\dt y=true).1;have hz:=qi (Qd _ _▸hy:dt x=true/\dt y=true).2;refine Q7<|aY _ _<|ZS j fun aD=>Ze (Vd O oJ 4)<|Ze (X0 O X8 (p.at 4))<|Ze (Vd O oJ 4)<|Ze (X0 O X8 (m.at 4))<|Ze (CT O O)<|Za O<|Zx aD fun a j _ aE=>Ze (Vn Xa p)<|Zm O<|Zf (Vc (y_ _ x (max x.exp y.exp) O0 O0 O0) yK) ?_;rintro _ w8 ⟨rfl,f⟩;have ⟨m,e,g⟩:=bh f m e g;refine Zm O<|Ze (X2 (vs:=[.agg #[vi ((ZD x y).a),vi ((ZD x y).b),vi ((ZD x y).c),vi ((ZD x y).d)],.bool ((aq x (max x.exp y.exp)).2)]) O O)<|Ze (X2 (vs:=[.agg #[vi ((ZD x y).a),vi ((ZD x y).b),vi ((ZD x y).c),vi ((ZD x y).d)],.bool ((aq x (max x.exp y.exp)).2)]) O O)<|ZB [vi ((ZD x y).a),vi ((ZD x y).b),vi ((ZD x y).c),vi ((ZD x y).d)] nz lr fun aF bE aG f n=>?_;have b1:=Q0 g.size aG;have ⟨m,e,g⟩:=bh f m e g;refine Za O<|Zx aE fun a j _ aH=>Ze (Vn Xa m)<|Zm O<|Zf (Vc (y_ _ y (max x.exp y.exp) O0 O0 O0) yK) ?_;rintro _ bF ⟨rfl,f⟩;have ⟨e,n,g⟩:=bh f e n g;refine Zm O<|Ze (X2 (vs:=[.agg #[vi ((ZE y x).a),vi ((ZE y x).b),vi ((ZE y x).c),vi ((ZE y x).d)],.bool ((aq y (max x.exp y.exp)).2)]) O O)<|Ze (X2 (vs:=[.agg #[vi ((ZE y x).a),vi ((ZE y x).b),vi ((ZE y x).c),vi ((ZE y x).d)],.bool ((aq y (max x.exp y.exp)).2)]) O O)<|ZB [vi ((ZE y x).a),vi ((ZE y x).b),vi ((ZE y x).c),vi ((ZE y x).d)] nz lr fun b14 bG aI f t=>?_;have aA:aF≠b14:=by have:=n.lt;omega
 have b5:=Q0 g.size aI;have ⟨e,n,g⟩:=bh f e n g;refine Za O<|Zx aH fun a j _ aJ=>Zm O<|Ze (Vn g9 n)<|Ze (Vn g9 t)<|Zf (ta (cs:=[]) (vs:=[.agg #[vi ((ZD x y).a),vi ((ZD x y).b),vi ((ZD x y).c),vi ((ZD x y).d)],.agg #[vi ((ZE y x).a),vi ((ZE y x).b),vi ((ZE y x).c),vi ((ZE y x).d)]]) O O Ua (Lm _ (ZD x y) (ZE y x))) ?_;rintro _ bH ⟨rfl,f⟩;have ⟨e,n,t,g⟩:=dk f e n t g;refine Zm O<|Ze (X2 (vs:=[.agg #[vi ((Zh x y).a),vi ((Zh x y).b),vi ((Zh x y).c),vi ((Zh x y).d)],.bool (fk (qB (ZD x y) (ZE y x)) [(ZD x y),(ZE y x)])]) O O)<|Ze (X2 (vs:=[.agg #[vi ((Zh x y).a),vi ((Zh x y).b),vi ((Zh x y).c),vi ((Zh x y).d)],.bool (fk (qB (ZD x y) (ZE y x)) [(ZD x y),(ZE y x)])]) O O)<|ZB [vi ((Zh x y).a),vi ((Zh x y).b),vi ((Zh x y).c),vi ((Zh x y).d)] nz lr fun b16 b6 aK f aL=>?_;have aB:aF≠b16:=by have:=n.lt;omega
 have aC:b14≠b16:=by have:=t.lt;omega
 have b7:=Q0 g.size aK;have e:=e.bw f;have g:=aa g f;refine Za O<|ZX aJ fun a j _ aM=>Q5 fun _ aN=>eo (fun a w=>Fr a 64 [(6,(ae b4)),(8,vi (max x.exp y.exp)),(13,(ae b16)),(57,.bool (((!((aq x (max x.exp y.exp)).2))||(!((aq y (max x.exp y.exp)).2)))||(!(fk (qB (ZD x y) (ZE y x)) [(ZD x y),(ZE y x)]))))]/\b6=w) ?_ ?_
 ·refine Zr j<|Zm O<|Ze (dn O)<|Zm O<|Zg 50 O ?_ ?_<;>intro i
  ·(iterate 2 refine Zp (gP i) ?_);refine Ze (Xh O i O)<|Zm O<|Zp (gP O) ?_;exact Zp (gP O)<|Ze (Xh O O O)<|Zn fun a j=>⟨j.sub ⟨O,O,O,X1 O (by simp[q,i]),trivial⟩,O⟩
  refine Zv (gW i) (X7 O) ?_;refine Zv (gW i) (dn O)<|Ze (X9 O i O)<|Zm O<|Zg 54 O ?_ ?_<;>intro k
  ·(iterate 2 refine Zp (gP k) ?_);exact Ze (Xh O k O)<|Zn fun a j=>⟨j.sub ⟨O,O,O,X1 O (by simp[q,i,k]),trivial⟩,O⟩
  refine Zv (gW k) (X7 O) ?_;refine Zv (gW k) (dn O)<|Ze (X9 O k O)<|Zn fun a j=>?_;exact ⟨j.sub ⟨O,O,O,X1 O (by simp[q,i,k]),trivial⟩,O⟩
 rintro a _ ⟨j,rfl⟩;refine aN _ _<|Xz j O ?_ ?_<;>intro A
 ·have b8:=BQ A;refine ZS j fun aO=>Ze (Xg (ps:=[]) (cs:=[vi 0,vi 0,vi 0,vi 0,vi 0]) O (fun _=>by first|rfl|kernel_rfl))<|Zo (Vw [vi 0,vi 0,vi 0,vi 0,vi 0] Xm e) ?_;intro _ bI ⟨ho,hb⟩;have g:=Below.oy g ho z;have e:=hb;exact Za O<|Zt aO fun a j=>Q6<|X3<|X4 j (dj j O (an.cellN (l:=[vi 0,vi 0,vi 0,vi 0,vi 0]) O Xa (e.at 0) O) O)<|⟨by rw[fx,Q4 hy,b8];rfl,g⟩
 have b9:=C4 A;refine Q7<|aM _ _<|ZS j fun aP=>Ze (Vn g9 aL)<|Zm O<|Zf (Vc (Dd _ (Zh x y) (max x.exp y.exp)) Eo) ?_;rintro _ bJ ⟨rfl,f⟩;have e:=e.bw f;have g:=aa g f;refine Ze (X2 (vs:=[.agg #[vi ((ZM x y).num.a),vi ((ZM x y).num.b),vi ((ZM x y).num.c),vi ((ZM x y).num.d),vi ((ZM x y).exp)],.bool ((oL (Zh x y) (max x.exp y.exp)).isSome)]) O O)<|Ze (X2 (vs:=[.agg #[vi ((ZM x y).num.a),vi ((ZM x y).num.b),vi ((ZM x y).num.c),vi ((ZM x y).num.d),vi ((ZM x y).exp)],.bool ((oL (Zh x y) (max x.exp y.exp)).isSome)]) O O)<|Zo (Vw [vi ((ZM x y).num.a),vi ((ZM x y).num.b),vi ((ZM x y).num.c),vi ((ZM x y).num.d),vi ((ZM x y).exp)] Xm e) ?_;intro _ bK ⟨ho,hb⟩
 have g:=Below.oy g ho z;have e:=hb;refine Za O<|Zt aP fun a j=>Q6 (X4 j (dj j O (an.cellN (l:=[vi ((ZM x y).num.a),vi ((ZM x y).num.b),vi ((ZM x y).num.c),vi ((ZM x y).num.d),vi ((ZM x y).exp)]) O Xa (e.at 0) O) O) ?_);exact ⟨by rw[fx,Q4 hy,b9];rfl,g⟩
def J'(w0:World)(x:Dy)(y:Dy):RE 199 [.agg #[vi x.num.a,vi x.num.b,vi x.num.c,vi x.num.d,vi x.exp],.agg #[vi y.num.a,vi y.num.b,vi y.num.c,vi y.num.d,vi y.exp]] w0 (fun v w=>v=.tuple #[dV ((fx x y).getD dZ),.bool ((fx x y).isSome)]/\Bl w0 w):=by
 refine enter func199 O 11 O O ?_;intro a hf;have f:=bz w0;refine ZS hf fun aE=>Zf (bt (zs:=[vi x.num.a,vi x.num.b,vi x.num.c,vi x.num.d,vi x.exp]) O O) ?_;rintro _ w1 ⟨b2,rfl,aF,g,e⟩;have aJ:=Q0 f.size aF;have f:=aa f g;refine Zf (bt (zs:=[vi y.num.a,vi y.num.b,vi y.num.c,vi y.num.d,vi y.exp]) O O) ?_;rintro _ w2 ⟨b3,rfl,aG,g,j⟩;have aB:b2≠b3:=by have:=e.lt;omega
 have aK:=Q0 f.size aG;have e:=e.bw g;have f:=aa f g;refine Zf (Xi (zs:=[vi 0,vi 0,vi 0,vi 0,vi 0]) iu O) ?_;rintro _ w3 ⟨b4,rfl,aH,g,i⟩;have aC:b2≠b4:=by have:=e.lt;omega
 have aD:b3≠b4:=by have:=j.lt;omega
 have aA:=Q0 f.size aH;have ⟨e,j,f⟩:=bh g e j f;refine Za O<|Zx aE fun a hf _ aI=>Ze (Vn Xa e)<|Ze (Vn Xa j)<|Zf (ki (vs:=[.agg #[vi x.num.a,vi x.num.b,vi x.num.c,vi x.num.d,vi x.exp],.agg #[vi y.num.a,vi y.num.b,vi y.num.c,vi y.num.d,vi y.exp],.func (.func 213) #[] #[]]) O Fm (Kl _ x y)) ?_;rintro _ w4 ⟨rfl,g⟩;have i:=i.bw g;have f:=aa f g;refine Ze (X2 (vs:=[.agg #[vi (((fx x y).getD dZ).num.a),vi (((fx x y).getD dZ).num.b),vi (((fx x y).getD dZ).num.c),vi (((fx x y).getD dZ).num.d),vi (((fx x y).getD dZ).exp)],.bool ((fx x y).isSome)]) O O)<|Ze (X2 (vs:=[.agg #[vi (((fx x y).getD dZ).num.a),vi (((fx x y).getD dZ).num.b),vi (((fx x y).getD dZ).num.c),vi (((fx x y).getD dZ).num.d),vi (((fx x y).getD dZ).exp)],.bool ((fx x y).isSome)]) O O)<|Zo (Vw [vi (((fx x y).getD dZ).num.a),vi (((fx x y).getD dZ).num.b),vi (((fx x y).getD dZ).num.c),vi (((fx x y).getD dZ).num.d),vi (((fx x y).getD dZ).exp)] Xm i) ?_;intro _ w5 ⟨ho,hb⟩;have f:=Below.oy f ho aA;have i:=hb;refine Za O<|Zt aI fun a hf=>Q6 (X4 hf (dj hf O (an.cellN (l:=[vi (((fx x y).getD dZ).num.a),vi (((fx x y).getD dZ).num.b),vi (((fx x y).getD dZ).num.c),vi (((fx x y).getD dZ).num.d),vi (((fx x y).getD dZ).exp)]) O Xa (i.at 0) O) O) ?_);exact ⟨O,f⟩
def Iq(w0:World)(p q r t:Int)(aB:nv p)(aC:nv q)(aD:nv r)(aE:nv t):RE 198 [.agg #[vi ((dO p 0).num.a),vi ((dO p 0).num.b),vi ((dO p 0).num.c),vi ((dO p 0).num.d),vi ((dO p 0).exp)],.agg #[vi ((dO q 0).num.a),vi ((dO q 0).num.b),vi ((dO q 0).num.c),vi ((dO q 0).num.d),vi ((dO q 0).exp)],.agg #[vi ((dO r 0).num.a),vi ((dO r 0).num.b),vi ((dO r 0).num.c),vi ((dO r 0).num.d),vi ((dO r 0).exp)],.agg #[vi ((dO t 0).num.a),vi ((dO t 0).num.b),vi ((dO t 0).num.c),vi ((dO t 0).num.d),vi ((dO t 0).exp)]] w0 (fun v w=>v=.tuple #[dV (dO (p*t-q*r) 0),.bool true]/\Bl w0 w):=by
 refine enter func198 O 42 O O ?_;intro a x;have i:=bz w0;refine ZS x fun bE=>Zf (bt (zs:=[vi ((dO p 0).num.a),vi ((dO p 0).num.b),vi ((dO p 0).num.c),vi ((dO p 0).num.d),vi ((dO p 0).exp)]) O O) ?_;rintro _ w1 ⟨b2,rfl,bF,e,j⟩;have bQ:=Q0 i.size bF;have i:=aa i e;refine Zf (bt (zs:=[vi ((dO q 0).num.a),vi ((dO q 0).num.b),vi ((dO q 0).num.c),vi ((dO q 0).num.d),vi ((dO q 0).exp)]) O O) ?_;rintro _ w2 ⟨b3,rfl,bG,e,g⟩;have aQ:b2≠b3:=by have:=j.lt;omega
 have bR:=Q0 i.size bG;have j:=j.bw e;have i:=aa i e;refine Zf (bt (zs:=[vi ((dO r 0).num.a),vi ((dO r 0).num.b),vi ((dO r 0).num.c),vi ((dO r 0).num.d),vi ((dO r 0).exp)]) O O) ?_;rintro _ w3 ⟨b4,rfl,bH,e,k⟩;have aR:b2≠b4:=by have:=j.lt;omega
 have aS:b3≠b4:=by have:=g.lt;omega
 have bS:=Q0 i.size bH;have ⟨j,g,i⟩:=bh e j g i;refine Zf (bt (zs:=[vi ((dO t 0).num.a),vi ((dO t 0).num.b),vi ((dO t 0).num.c),vi ((dO t 0).num.d),vi ((dO t 0).exp)]) O O) ?_;rintro _ w4 ⟨b5,rfl,bI,e,o⟩;have aT:b2≠b5:=by have:=j.lt;omega
 have aU:b3≠b5:=by have:=g.lt;omega
 have aW:b4≠b5:=by have:=k.lt;omega
 have bU:=Q0 i.size bI;have ⟨j,g,k,i⟩:=dk e j g k i;refine Zf (Xi (zs:=[vi 0,vi 0,vi 0,vi 0,vi 0]) iu O) ?_;rintro _ w5 ⟨b6,rfl,bJ,e,f⟩;have aX:b2≠b6:=by have:=j.lt;omega
 have aY:b3≠b6:=by have:=g.lt;omega
 have aZ:b4≠b6:=by have:=k.lt;omega
 have b0:b5≠b6:=by have:=o.lt;omega
 have aF:=Q0 i.size bJ;have ⟨j,g,k,o,i⟩:=io e j g k o i;refine Za O<|Zx bE fun a x _ bK=>Ze (Vn Xa j)<|Ze (Vn Xa o)<|Zf (ki (vs:=[.agg #[vi ((dO p 0).num.a),vi ((dO p 0).num.b),vi ((dO p 0).num.c),vi ((dO p 0).num.d),vi ((dO p 0).exp)],.agg #[vi ((dO t 0).num.a),vi ((dO t 0).num.b),vi ((dO t 0).num.c),vi ((dO t 0).num.d),vi ((dO t 0).exp)]]) O tp (by have y:=tm w5 (dO p 0) (dO t 0);rw[Gu aB aE,Qq,Option.isSome_some] at y;exact y)) ?_;rintro _ w6 ⟨rfl,e⟩;have ⟨j,g,k,o,f,i⟩:=kf e j g k o f i;refine Zm O<|Ze (X2 (vs:=[.agg #[vi ((dO (p*t) 0).num.a),vi ((dO (p*t) 0).num.b),vi ((dO (p*t) 0).num.c),vi ((dO (p*t) 0).num.d),vi ((dO (p*t) 0).exp)],.bool true]) O O)<|Ze (X2 (vs:=[.agg #[vi ((dO (p*t) 0).num.a),vi ((dO (p*t) 0).num.b),vi ((dO (p*t) 0).num.c),vi ((dO (p*t) 0).num.d),vi ((dO (p*t) 0).exp)],.bool true]) O O)<|ZB [vi ((dO (p*t) 0).num.a),vi ((dO (p*t) 0).num.b),vi ((dO (p*t) 0).num.c),vi ((dO (p*t) 0).num.d),vi ((dO (p*t) 0).exp)] iu Xm fun b8 w8 bL e m=>?_;have b1:b2≠b8:=by have:=j.lt;omega
 have b7:b3≠b8:=by have:=g.lt;omega
 have b9:b4≠b8:=by have:=k.lt;omega
 have bC:b5≠b8:=by have:=o.lt;omega
 have bD:b6≠b8:=by have:=f.lt;omega
 have bW:=Q0 i.size bL;have ⟨g,k,f,i⟩:=dk e g k f i;refine Za O<|Zx bK fun a x _ bM=>Ze (Vn Xa g)<|Ze (Vn Xa k)<|Zf (ki (vs:=[.agg #[vi ((dO q 0).num.a),vi ((dO q 0).num.b),vi ((dO q 0).num.c),vi ((dO q 0).num.d),vi ((dO q 0).exp)],.agg #[vi ((dO r 0).num.a),vi ((dO r 0).num.b),vi ((dO r 0).num.c),vi ((dO r 0).num.d),vi ((dO r 0).exp)]]) O tp (by have y:=tm w8 (dO q 0) (dO r 0);rw[Gu aC aD,Qq,Option.isSome_some] at y;exact y)) ?_;rintro _ w9 ⟨rfl,e⟩;have ⟨g,k,f,m,i⟩:=io e g k f m i;refine Zm O<|Ze (X2 (vs:=[.agg #[vi ((dO (q*r) 0).num.a),vi ((dO (q*r) 0).num.b),vi ((dO (q*r) 0).num.c),vi ((dO (q*r) 0).num.d),vi ((dO (q*r) 0).exp)],.bool true]) O O)<|Ze (X2 (vs:=[.agg #[vi ((dO (q*r) 0).num.a),vi ((dO (q*r) 0).num.b),vi ((dO (q*r) 0).num.c),vi ((dO (q*r) 0).num.d),vi ((dO (q*r) 0).exp)],.bool true]) O O)<|ZB [vi ((dO (q*r) 0).num.a),vi ((dO (q*r) 0).num.b),vi ((dO (q*r) 0).num.c),vi ((dO (q*r) 0).num.d),vi ((dO (q*r) 0).exp)] iu Xm fun b10 bN aG e u=>?_;have aH:b3≠b10:=by have:=g.lt;omega
 have aI:b4≠b10:=by have:=k.lt;omega
 have aJ:b6≠b10:=by have:=f.lt;omega
 have aK:b8≠b10:=by have:=m.lt;omega
 have bO:=Q0 i.size aG;have ⟨f,m,i⟩:=bh e f m i;refine Za O<|Zx bM fun a x _ aL=>Ze (Vn Xa m)<|Ze (Vn Xa u)<|Zf (ki (vs:=[.agg #[vi ((dO (p*t) 0).num.a),vi ((dO (p*t) 0).num.b),vi ((dO (p*t) 0).num.c),vi ((dO (p*t) 0).num.d),vi ((dO (p*t) 0).exp)],.agg #[vi ((dO (q*r) 0).num.a),vi ((dO (q*r) 0).num.b),vi ((dO (q*r) 0).num.c),vi ((dO (q*r) 0).num.d),vi ((dO (q*r) 0).exp)]]) O EO (by have y:=J' bN (dO (p*t) 0) (dO (q*r) 0);rw[K7 aB aE aC aD,Qq,Option.isSome_some] at y;exact y)) ?_;rintro _ bZ ⟨rfl,e⟩;have ⟨f,m,u,i⟩:=dk e f m u i;refine Zm O<|Ze (X2 (vs:=[.agg #[vi ((dO (p*t-q*r) 0).num.a),vi ((dO (p*t-q*r) 0).num.b),vi ((dO (p*t-q*r) 0).num.c),vi ((dO (p*t-q*r) 0).num.d),vi ((dO (p*t-q*r) 0).exp)],.bool true]) O O)<|Ze (X2 (vs:=[.agg #[vi ((dO (p*t-q*r) 0).num.a),vi ((dO (p*t-q*r) 0).num.b),vi ((dO (p*t-q*r) 0).num.c),vi ((dO (p*t-q*r) 0).num.d),vi ((dO (p*t-q*r) 0).exp)],.bool true]) O O)<|ZB [vi ((dO (p*t-q*r) 0).num.a),vi ((dO (p*t-q*r) 0).num.b),vi ((dO (p*t-q*r) 0).num.c),vi ((dO (p*t-q*r) 0).num.d),vi ((dO (p*t-q*r) 0).exp)] iu Xm fun b12 cA aM e n=>?_;have aN:b6≠b12:=by have:=f.lt;omega
 have aO:b8≠b12:=by have:=m.lt;omega
 have aA:b10≠b12:=by have:=u.lt;omega
 have bP:=Q0 i.size aM;have f:=f.bw e;have i:=aa i e;refine Za O<|ZX aL fun a x _ aP=>eo (fun a w=>Fr a 42 [(8,(ae b6)),(9,.bool true)]/\al w b6 147 [vi ((dO (p*t-q*r) 0).num.a),vi ((dO (p*t-q*r) 0).num.b),vi ((dO (p*t-q*r) 0).num.c),vi ((dO (p*t-q*r) 0).num.d),vi ((dO (p*t-q*r) 0).exp)]/\al w b12 147 [vi ((dO (p*t-q*r) 0).num.a),vi ((dO (p*t-q*r) 0).num.b),vi ((dO (p*t-q*r) 0).num.c),vi ((dO (p*t-q*r) 0).num.d),vi ((dO (p*t-q*r) 0).exp)]/\Bl w0 w) ?_ ?_
 ·refine Zr x<|Ze (Vn Xa n)<|Zm O<|Zm O<|Zv (gW O) (X7 O) ?_;refine Ze (Xh O O O)<|Zm O<|Zv (gW O) (X7 O) ?_;refine Ze (Xh O O O)<|Zo (Vw [vi ((dO (p*t-q*r) 0).num.a),vi ((dO (p*t-q*r) 0).num.b),vi ((dO (p*t-q*r) 0).num.c),vi ((dO (p*t-q*r) 0).num.d),vi ((dO (p*t-q*r) 0).exp)] Xm f) ?_;intro _ cB ⟨ho,hb⟩;have n:=n.oy ho O0;have i:=Below.oy i ho aF;have f:=hb;exact Za O<|Zn fun a x=>⟨x.sb,f,n,i⟩
 intro a cC ⟨x,f,n,i⟩;refine aP _ _<|Q6 (X4 x (dj x O (an.cellN (l:=[vi ((dO (p*t-q*r) 0).num.a),vi ((dO (p*t-q*r) 0).num.b),vi ((dO (p*t-q*r) 0).num.c),vi ((dO (p*t-q*r) 0).num.d),vi ((dO (p*t-q*r) 0).exp)]) O Xa (f.at 0) O) O) ?_);exact ⟨O,i⟩
abbrev Zq:=fun a b=>dO ((eN a b 0)*(eN a b 3)-(eN a b 2)*(eN a b 1)) 0
abbrev ZH:=fun (a:List Int) b=>dO (a.getD b 0*sL a b) 0
abbrev YJ:=fun (a:List Int) b=>dO (a.getD (3+b) 0) 0
abbrev YK:=fun (a:List Int) b=>dO (a.getD (6+b) 0) 0
def QQ(I:World)(Al:Option Addr)(cl:Nat)(l:List Dy)(C:Rw I 147 ai Al l)(q:List Int)(G:ry q)(b7:l=l_ q):RE 170 [.slice Al l.length cl] I (fun v w=>v=.tuple #[dV (dO (fv q 3) 0),.bool true]/\Bl I w):=by
 have fE:l.length=9:=by rw[b7];exact G.blen
 refine enter func170 O 88 O O ?_;intro a i;have m:=bz I;refine ZS i fun eP=>Zf (Xi (zs:=[vi 0,vi 0,vi 0,vi 0,vi 0]) iu O) ?_;rintro _ w1 ⟨B,rfl,eQ,e,f⟩;have cW:=Q0 m.size eQ;have m:=aa m e;refine Za O<|Zx eP fun a i _ eR=>Ze (Xg (ps:=[]) (cs:=[vi 0,vi 0,vi 0,vi 0,vi 0]) O (fun _=>by first|rfl|kernel_rfl))<|ZB [vi 0,vi 0,vi 0,vi 0,vi 0] iu Xm fun b5 w3 eS e g=>?_;have eO:B≠b5:=by have:=f.lt;omega
 have bC:=Q0 m.size eS;have f:=f.bw e;have m:=aa m e;refine ZX eR fun a i _ eT=>ZS i fun eU=>Zm O<|Zt eU fun a i=>Q8<|Xw (σ:=Nat) (fun (k:Nat) (a:Act) (w:World)=>Fr a 88 [(0,.slice Al l.length cl),(2,(ae B)),(4,(ae b5)),(16,vi (k:Int))]/\(k<=3)/\al w B 147 [vi 0,vi 0,vi 0,vi 0,vi 0]/\al w b5 147 [vi ((dO (fv q k) 0).num.a),vi ((dO (fv q k) 0).num.b),vi ((dO (fv q k) 0).num.c),vi ((dO (fv q k) 0).num.d),vi ((dO (fv q k) 0).exp)]/\Bl I w) (fun (k:Nat)=>3-k) 0 ?_ ?_
 ·exact ⟨i.sb,O0,f,g,m⟩
 intro k a w4 ⟨i,hk,f,g,m⟩;refine ZS i fun eV=>Ze (ew O O)<|ZX eV fun a i _ eW=>eh i O (fun bK aJ=>?_) (fun bK aJ=>?_)
 ·have y:k<3:=by have:=aJ;omega
  refine Q7<|eW _ _<|Q5 fun _ bD=>Q8<|ZS i fun cX=>Zm O<|Za O<|Zx cX fun a i _ d5=>Zf (X6 (k:=0) (vs:=[]) (zs:=[]) O gv my O O) ?_;rintro _ w5 ⟨b14,rfl,d6,e,d7⟩;have d8:B≠b14:=by have:=f.lt;omega
  have d9:b5≠b14:=by have:=g.lt;omega
  have bL:=Q0 m.size d6;have ⟨f,g,m⟩:=bh e f g m;refine Za O<|ZX d5 fun a i _ dA=>ZS i fun dB=>Zm O<|Zt dB fun a i=>Q8<|Xw (σ:=Nat×(List Dy)) (fun (s:Nat×(List Dy)) (a:Act) (w:World)=>match s with|(j,r)=>∃ W b8,Fr a 88 [(0,.slice Al l.length cl),(2,(ae B)),(4,(ae b5)),(5,vi (k:Int)),(6,.slice W r.length b8),(16,vi (k:Int)),(20,vi (j:Int))]/\(j<=3)/\(r=l_ (mx q k j))/\al w B 147 [vi 0,vi 0,vi 0,vi 0,vi 0]/\al w b5 147 [vi ((dO (fv q k) 0).num.a),vi ((dO (fv q k) 0).num.b),vi ((dO (fv q k) 0).num.c),vi ((dO (fv q k) 0).num.d),vi ((dO (fv q k) 0).exp)]/\ah w I.heap.size 147 5 ai W b8 r/\il W B/\il W b5/\Bl I w) (fun (s:Nat×(List Dy))=>match s with|(j,r)=>3-j) (0,[]) ?_ ?_
  ·exact ⟨some ⟨b14,0,none⟩,0,i.sb,O0,O,f,g,(ah.empty d7 bL),(il.ne O0),(il.ne O0),m⟩
  intro ⟨j,r⟩ a w6 ⟨W,b8,i,hj,hr,f,g,p,D,E,m⟩;refine ZS i fun dC=>Ze (ew O O)<|ZX dC fun a i _ dD=>eh i O (fun bM aK=>?_) (fun bM aK=>?_)
  ·have dE:j<3:=by have:=aK;omega
   refine Q7<|dD _ _<|Q5 fun _ bE=>Q8<|ZS i fun dF=>Zm O<|Za O<|Zx dF fun a i _ dG=>Zm O<|Zm O<|Ze (kz O O)<|Zt dG fun a i=>Xz i O ?_ ?_<;>intro aL
   ·have bN:j≠k:=by have h9:=aL;simp at h9;omega
    have dH:=N_ q k j;rw[<- hr] at dH;have fD:r.length<=6:=by have:r.length=(l_ (mx q k j)).length:=(by rw[hr]);omega
    refine gx none (fun j=>[12].contains j) mixed ?_;intro w7 e;have ⟨f,g,p,m⟩:=dk e f g p m;refine Yb i<|Yo 0 O (fun _=>X7 O)<|Yo 1 O (fun _=>X7 O)<|Yo 2 O (fun _=>X7 O)<|Yo 3 O (fun _=>Xs O O O0 O0)<|Yi (k:=(3+j)) (u:=(YJ q j)) (enc:=ai) (l:=l) 4 O ad O O gv Xm kb (C.bx m) (by rw[b7];exact G.get O0) O0 ?_;intro fF bO;refine Ye 5 O (Xt (l:=[vi ((YJ q j).num.a),vi ((YJ q j).num.b),vi ((YJ q j).num.c),vi ((YJ q j).num.d),vi ((YJ q j).exp)]) O Xa bO O)<|Yo 6 O (fun _=>X7 O)<|Yo 7 O (fun _=>X7 O)<|Yo 8 O (fun _=>Xs O O O0 O0)<|Yi (k:=(6+j)) (u:=(YK q j)) (enc:=ai) (l:=l) 9 O ad O O gv Xm kb (C.bx m) (by rw[b7];exact G.get O0) O0 ?_;intro fG bP;refine Ye 10 O (Xt (l:=[vi ((YK q j).num.a),vi ((YK q j).num.b),vi ((YK q j).num.c),vi ((YK q j).num.d),vi ((YK q j).exp)]) O Xa bP O)<|Y1 11<|Yk O ad (X6 (k:=2) (vs:=[.agg #[vi ((YJ q j).num.a),vi ((YJ q j).num.b),vi ((YJ q j).num.c),vi ((YJ q j).num.d),vi ((YJ q j).exp)],.agg #[vi ((YK q j).num.a),vi ((YK q j).num.b),vi ((YK q j).num.c),vi ((YK q j).num.d),vi ((YK q j).exp)]]) (zs:=[vi ((YJ q j).num.a),vi ((YJ q j).num.b),vi ((YJ q j).num.c),vi ((YJ q j).num.d),vi ((YJ q j).exp),vi ((YK q j).num.a),vi ((YK q j).num.b),vi ((YK q j).num.c),vi ((YK q j).num.d),vi ((YK q j).exp)]) O gv my O O) (fun _ _ ⟨_,_,_,h,_⟩=>h) ?_;rintro _ w8 ⟨b30,rfl,bF,e,aM⟩;have dI:B≠b30:=by have:=f.lt;omega
    have dJ:b5≠b30:=by have:=g.lt;omega
    have eX:=Q0 m.size bF;have ⟨f,g,p,m⟩:=dk e f g p m;refine Y1 12<|Yt O ad O (jf (enc:=ai) (l:=(r)) (l2:=([(YJ q j),(YK q j)])) (B0:=I.heap.size) O O gv my kb rM p (Rd.of_blk aM O _ aM.lt) (by simp only[maxLen];simp;omega) O5 m.size) ?_;rintro _ w9 ⟨eY,eZ,rfl,dK,hg,b9⟩;have bG:ah _ I.heap.size 147 5 ai _ _ (r):=p;have aN:=b9 _ f.lt D;have aO:=b9 _ g.lt E;clear b9;have f:=f.appA hg D;have g:=g.appA hg E;have m:=Below.app m bG hg (Qb _) m.size;clear bG hg;exact Yo 13 O (fun _=>kk O)<|Yd fun a i=>Xk<|bE _ _<|Zr i<|Ze (Xs O O O0 O0)<|Zm O<|Zn fun a i=>Xb<|⟨(j+1,r++([(YJ q j),(YK q j)])),⟨eY,eZ,i.sb,O0,(by rw[hr];exact LD bN),f,g,dK,aN,aO,m⟩,O3⟩
   have bN:j=k:=by have h9:=aL;simp at h9;omega
   exact Q7<|Xk<|bE _ _<|Zr i<|Ze (Xs O O O0 O0)<|Zm O<|Zn fun a i=>Xb<|⟨(j+1,r),⟨W,b8,i.sb,O0,(by rw[hr];exact Pe bN),f,g,p,D,E,m⟩,O3⟩
  have dE:j=3:=by have:=aK;omega
  subst dE;have fH:r.length=4:=by rw[hr,EN y]
  refine Q9<|Xf<|Xf<|Xv<|dA _ _<|Q5 fun _ dL=>eo (fun a w=>∃ t,Fr a 88 [(0,.slice Al l.length cl),(2,(ae B)),(4,(ae b5)),(5,vi (k:Int)),(8,(ae t)),(9,.bool true),(16,vi (k:Int))]/\I.heap.size<=t/\al w t 147 [vi ((Zq q k).num.a),vi ((Zq q k).num.b),vi ((Zq q k).num.c),vi ((Zq q k).num.d),vi ((Zq q k).exp)]/\B≠t/\b5≠t/\Bl w6 w) ?_ ?_
  ·have n:Bl w6 w6:=Below.refl _ _;refine gx none (fun j=>[17].contains j) mixed ?_;intro w10 e;have ⟨f,g,p,m,n⟩:=io e f g p m n;refine Yb i<|Yo 0 O (fun _=>X7 O)<|Yi (k:=0) (u:=(dO (eN q k 0) 0)) (enc:=ai) (l:=r) 1 O ad O O gv Xm kb p.rd (by rw[hr];exact (z7 G y O2)) O ?_;intro fI bQ;refine Ye 2 O (Xt (l:=[vi ((dO (eN q k 0) 0).num.a),vi ((dO (eN q k 0) 0).num.b),vi ((dO (eN q k 0) 0).num.c),vi ((dO (eN q k 0) 0).num.d),vi ((dO (eN q k 0) 0).exp)]) O Xa bQ O)<|Yo 3 O (fun _=>X7 O)<|Yi (k:=2) (u:=(dO (eN q k 2) 0)) (enc:=ai) (l:=r) 4 O ad O O gv Xm kb p.rd (by rw[hr];exact (z7 G y O2)) O ?_;intro fJ bR;refine Ye 5 O (Xt (l:=[vi ((dO (eN q k 2) 0).num.a),vi ((dO (eN q k 2) 0).num.b),vi ((dO (eN q k 2) 0).num.c),vi ((dO (eN q k 2) 0).num.d),vi ((dO (eN q k 2) 0).exp)]) O Xa bR O)<|Yo 6 O (fun _=>X7 O)<|Yi (k:=1) (u:=(dO (eN q k 1) 0)) (enc:=ai) (l:=r) 7 O ad O O gv Xm kb p.rd (by rw[hr];exact (z7 G y O2)) O ?_;intro fK bS;refine Ye 8 O (Xt (l:=[vi ((dO (eN q k 1) 0).num.a),vi ((dO (eN q k 1) 0).num.b),vi ((dO (eN q k 1) 0).num.c),vi ((dO (eN q k 1) 0).num.d),vi ((dO (eN q k 1) 0).exp)]) O Xa bS O)<|Yo 9 O (fun _=>X7 O)<|Yi (k:=3) (u:=(dO (eN q k 3) 0)) (enc:=ai) (l:=r) 10 O ad O O gv Xm kb p.rd (by rw[hr];exact (z7 G y O2)) O ?_;intro fL bU;refine Ye 11 O (Xt (l:=[vi ((dO (eN q k 3) 0).num.a),vi ((dO (eN q k 3) 0).num.b),vi ((dO (eN q k 3) 0).num.c),vi ((dO (eN q k 3) 0).num.d),vi ((dO (eN q k 3) 0).exp)]) O Xa bU O) ?_;have o:Bl w10 w10:=Below.refl _ _;refine Yc [0,1,2,3,4,5,6,7,8,9,10,11,12,13,14,15,16] 2 (fun a w=>∃ t,Fr a 88 [(0,.slice Al l.length cl),(2,(ae B)),(4,(ae b5)),(5,vi (k:Int)),(8,(ae t)),(16,vi (k:Int)),(54,.agg #[vi ((Zq q k).num.a),vi ((Zq q k).num.b),vi ((Zq q k).num.c),vi ((Zq q k).num.d),vi ((Zq q k).exp)]),(55,.bool true)]/\I.heap.size<=t/\al w t 147 [vi 0,vi 0,vi 0,vi 0,vi 0]/\B≠t/\b5≠t/\w10.heap.size<=t/\w6.heap.size<=t/\il W t/\ef l Al t/\Bl w10 w) ?_ ?_
   ·intro a fM ⟨t,i,aA,A,J,L,bW,bZ,cT,dM,e⟩;clear o;have o:=e;have m:=aa m e;have n:=aa n e;refine Yb i<|Y1 17<|Yh O ad O (Vw [vi ((Zq q k).num.a),vi ((Zq q k).num.b),vi ((Zq q k).num.c),vi ((Zq q k).num.d),vi ((Zq q k).exp)] Xm A) ?_;intro _ fN ⟨ho,hb⟩;have n:=Below.oy n ho bZ;have o:=Below.oy o ho bW;have m:=Below.oy m ho aA;have A:=hb;exact Yo 18 O (fun _=>kk O)<|Yd fun a i=>⟨t,i.sb,aA,A,J,L,n⟩
   intro bH;refine Y2 12 16 ?_ ?_
   ·refine Yk O ad (Vc (Iq _ (eN q k 0) (eN q k 2) (eN q k 1) (eN q k 3) (r5 G y O2) (r5 G y O2) (r5 G y O2) (r5 G y O2)) F5) (fun _ _ ⟨_,e⟩=>e) ?_;rintro _ fO ⟨rfl,e⟩;have ⟨f,g,p,m,n,o⟩:=kf e f g p m n o;refine Yo 13 O (fun _=>X7 O)<|Yo 14 O (fun _=>X2 (vs:=[.agg #[vi ((Zq q k).num.a),vi ((Zq q k).num.b),vi ((Zq q k).num.c),vi ((Zq q k).num.d),vi ((Zq q k).exp)],.bool true]) O O)<|Yo 15 O (fun _=>X2 (vs:=[.agg #[vi ((Zq q k).num.a),vi ((Zq q k).num.b),vi ((Zq q k).num.c),vi ((Zq q k).num.d),vi ((Zq q k).exp)],.bool true]) O O)<|Y1 16<|Yk O ad (Xi (zs:=[vi 0,vi 0,vi 0,vi 0,vi 0]) iu O) (fun _ _ ⟨_,_,_,h,_⟩=>h) ?_;rintro _ fP ⟨b44,rfl,M,e,dN⟩;have aP:B≠b44:=by have:=f.lt;omega
    have aQ:b5≠b44:=by have:=g.lt;omega
    have cA:=Q0 m.size M;have cB:=Q0 n.size M;have cC:=Q0 o.size M;have aF:=p.away M;have aR:=(C.bx m).away M;have ⟨m,n,o⟩:=bh e m n o;exact fun a i=>bH _ a _ O ⟨b44,i.sb,cA,dN,aP,aQ,cC,cB,aF,aR,o⟩
   refine Yk O ad (Xi (zs:=[vi 0,vi 0,vi 0,vi 0,vi 0]) iu O) (fun _ _ ⟨_,_,_,h,_⟩=>h) ?_;rintro _ fQ ⟨b45,rfl,N,e,aS⟩;have aT:B≠b45:=by have:=f.lt;omega
   have aU:b5≠b45:=by have:=g.lt;omega
   have cD:=Q0 m.size N;have cE:=Q0 n.size N;have cF:=Q0 o.size N;have aG:=p.away N;have aW:=(C.bx m).away N;have ⟨m,n,o⟩:=bh e m n o;refine Y1 12<|Yk O ad (Vc (Iq _ (eN q k 0) (eN q k 2) (eN q k 1) (eN q k 3) (r5 G y O2) (r5 G y O2) (r5 G y O2) (r5 G y O2)) F5) (fun _ _ ⟨_,e⟩=>e) ?_;rintro _ fR ⟨rfl,e⟩;have ⟨aS,m,n,o⟩:=dk e aS m n o;exact Yo 13 O (fun _=>X7 O)<|Yo 14 O (fun _=>X2 (vs:=[.agg #[vi ((Zq q k).num.a),vi ((Zq q k).num.b),vi ((Zq q k).num.c),vi ((Zq q k).num.d),vi ((Zq q k).exp)],.bool true]) O O)<|Yo 15 O (fun _=>X2 (vs:=[.agg #[vi ((Zq q k).num.a),vi ((Zq q k).num.b),vi ((Zq q k).num.c),vi ((Zq q k).num.d),vi ((Zq q k).exp)],.bool true]) O O)<|fun a i=>bH _ a _ O ⟨b45,i.sb,cD,aS,aT,aU,cF,cE,aG,aW,o⟩
  intro a w17 ⟨t,i,aA,A,J,L,e⟩;have ⟨f,g,m⟩:=bh e f g m;refine dL _ _<|Q5 fun _ dP=>eo (fun a w=>∃ x,Fr a 88 [(0,.slice Al l.length cl),(2,(ae B)),(4,(ae b5)),(5,vi (k:Int)),(9,.bool true),(10,(ae x)),(11,.bool true),(16,vi (k:Int))]/\I.heap.size<=x/\al w x 147 [vi ((ZH q k).num.a),vi ((ZH q k).num.b),vi ((ZH q k).num.c),vi ((ZH q k).num.d),vi ((ZH q k).exp)]/\B≠x/\b5≠x/\t≠x/\Bl w17 w) ?_ ?_
  ·have n:Bl w17 w17:=Below.refl _ _;refine gx none (fun j=>[10].contains j) mixed ?_;intro w18 e;have ⟨f,g,A,m,n⟩:=io e f g A m n;refine Yb i<|Yo 0 O (fun _=>X7 O)<|Yo 1 O (fun _=>X7 O)<|Yi (k:=k) (u:=(dO (q.getD k 0) 0)) (enc:=ai) (l:=l) 2 O ad O O gv Xm kb (C.bx m) (by rw[b7];exact G.get O0) O ?_;intro fS cG;refine Ye 3 O (Xt (l:=[vi ((dO (q.getD k 0) 0).num.a),vi ((dO (q.getD k 0) 0).num.b),vi ((dO (q.getD k 0) 0).num.c),vi ((dO (q.getD k 0) 0).num.d),vi ((dO (q.getD k 0) 0).exp)]) O Xa cG O)<|Ye 4 O (Vn Xa A) ?_;have o:Bl w18 w18:=Below.refl _ _;refine Yc [0,1,2,3,4,5,6,7,8,9] 2 (fun a w=>∃ x,Fr a 88 [(0,.slice Al l.length cl),(2,(ae B)),(4,(ae b5)),(5,vi (k:Int)),(9,.bool true),(10,(ae x)),(16,vi (k:Int)),(63,.agg #[vi ((ZH q k).num.a),vi ((ZH q k).num.b),vi ((ZH q k).num.c),vi ((ZH q k).num.d),vi ((ZH q k).exp)]),(64,.bool true)]/\I.heap.size<=x/\al w x 147 [vi 0,vi 0,vi 0,vi 0,vi 0]/\B≠x/\b5≠x/\t≠x/\w18.heap.size<=x/\w17.heap.size<=x/\ef l Al x/\Bl w18 w) ?_ ?_
   ·intro a fT ⟨x,i,aB,z,Q,U,H,cH,cI,dQ,e⟩;clear o;have o:=e;have m:=aa m e;have n:=aa n e;refine Yb i<|Y1 10<|Yh O ad O (Vw [vi ((ZH q k).num.a),vi ((ZH q k).num.b),vi ((ZH q k).num.c),vi ((ZH q k).num.d),vi ((ZH q k).exp)] Xm z) ?_;intro _ fU ⟨ho,hb⟩;have n:=Below.oy n ho cI;have o:=Below.oy o ho cH;have m:=Below.oy m ho aB;have z:=hb;exact Yo 11 O (fun _=>kk O)<|Yd fun a i=>⟨x,i.sb,aB,z,Q,U,H,n⟩
   intro bI;refine Y2 5 9 ?_ ?_
   ·refine Yf O ad (fd.mono (ki (vs:=[.agg #[vi ((dO (q.getD k 0) 0).num.a),vi ((dO (q.getD k 0) 0).num.b),vi ((dO (q.getD k 0) 0).num.c),vi ((dO (q.getD k 0) 0).num.d),vi ((dO (q.getD k 0) 0).exp)],.agg #[vi ((Zq q k).num.a),vi ((Zq q k).num.b),vi ((Zq q k).num.c),vi ((Zq q k).num.d),vi ((Zq q k).exp)]]) O tp (by have hq:=tm w18 (dO (q.getD k 0) 0) (Zq q k);rw[EU G y,Qq,Option.isSome_some] at hq;exact hq)) (fun _ _ h=>⟨fun _=>by obtain ⟨rfl,e⟩:=h;exact e,h⟩)) ?_;rintro _ fV ⟨rfl,e⟩;have ⟨f,g,A,m,n,o⟩:=kf e f g A m n o;refine Yo 6 O (fun _=>X7 O)<|Yo 7 O (fun _=>X2 (vs:=[.agg #[vi ((ZH q k).num.a),vi ((ZH q k).num.b),vi ((ZH q k).num.c),vi ((ZH q k).num.d),vi ((ZH q k).exp)],.bool true]) O O)<|Yo 8 O (fun _=>X2 (vs:=[.agg #[vi ((ZH q k).num.a),vi ((ZH q k).num.b),vi ((ZH q k).num.c),vi ((ZH q k).num.d),vi ((ZH q k).exp)],.bool true]) O O)<|Y1 9<|Yk O ad (Xi (zs:=[vi 0,vi 0,vi 0,vi 0,vi 0]) iu O) (fun _ _ ⟨_,_,_,h,_⟩=>h) ?_;rintro _ fW ⟨b51,rfl,aC,e,dR⟩;have aX:B≠b51:=by have:=f.lt;omega
    have aY:b5≠b51:=by have:=g.lt;omega
    have aH:t≠b51:=by have:=A.lt;omega
    have cJ:=Q0 m.size aC;have cK:=Q0 n.size aC;have cM:=Q0 o.size aC;have aZ:=(C.bx m).away aC;have ⟨m,n,o⟩:=bh e m n o;exact fun a i=>bI _ a _ O ⟨b51,i.sb,cJ,dR,aX,aY,aH,cM,cK,aZ,o⟩
   refine Yk O ad (Xi (zs:=[vi 0,vi 0,vi 0,vi 0,vi 0]) iu O) (fun _ _ ⟨_,_,_,h,_⟩=>h) ?_;rintro _ f7 ⟨b52,rfl,aD,e,b0⟩;have b1:B≠b52:=by have:=f.lt;omega
   have b2:b5≠b52:=by have:=g.lt;omega
   have aI:t≠b52:=by have:=A.lt;omega
   have cO:=Q0 m.size aD;have cP:=Q0 n.size aD;have cQ:=Q0 o.size aD;have b4:=(C.bx m).away aD;have ⟨m,n,o⟩:=bh e m n o;refine Y1 5<|Yf O ad (fd.mono (ki (vs:=[.agg #[vi ((dO (q.getD k 0) 0).num.a),vi ((dO (q.getD k 0) 0).num.b),vi ((dO (q.getD k 0) 0).num.c),vi ((dO (q.getD k 0) 0).num.d),vi ((dO (q.getD k 0) 0).exp)],.agg #[vi ((Zq q k).num.a),vi ((Zq q k).num.b),vi ((Zq q k).num.c),vi ((Zq q k).num.d),vi ((Zq q k).exp)]]) O tp (by have hq:=tm f7 (dO (q.getD k 0) 0) (Zq q k);rw[EU G y,Qq,Option.isSome_some] at hq;exact hq)) (fun _ _ h=>⟨fun _=>by obtain ⟨rfl,e⟩:=h;exact e,h⟩)) ?_;rintro _ fX ⟨rfl,e⟩;have ⟨b0,m,n,o⟩:=dk e b0 m n o;exact Yo 6 O (fun _=>X7 O)<|Yo 7 O (fun _=>X2 (vs:=[.agg #[vi ((ZH q k).num.a),vi ((ZH q k).num.b),vi ((ZH q k).num.c),vi ((ZH q k).num.d),vi ((ZH q k).exp)],.bool true]) O O)<|Yo 8 O (fun _=>X2 (vs:=[.agg #[vi ((ZH q k).num.a),vi ((ZH q k).num.b),vi ((ZH q k).num.c),vi ((ZH q k).num.d),vi ((ZH q k).exp)],.bool true]) O O)<|fun a i=>bI _ a _ O ⟨b52,i.sb,cO,b0,b1,b2,aI,cQ,cP,b4,o⟩
  intro a dS ⟨x,i,aB,z,Q,U,H,e⟩;have ⟨f,g,m⟩:=bh e f g m;refine dP _ _<|ZS i fun dT=>Za O<|ZX dT fun a i _ bJ=>ZS i fun dU=>Zm O<|Ze (go O O)<|Zt dU fun a i=>Xz i O ?_ ?_<;>intro b6
  ·have cR:k=1:=by have h9:=b6;simp at h9;omega
   refine Zr i<|Za O<|Zx bJ fun a i _ dW=>Zm O<|Ze (Vn Xa g)<|Ze (Vn Xa z)<|Zf (ta (cs:=[]) (vs:=[.agg #[vi ((dO (fv q k) 0).num.a),vi ((dO (fv q k) 0).num.b),vi ((dO (fv q k) 0).num.c),vi ((dO (fv q k) 0).num.d),vi ((dO (fv q k) 0).exp)],.agg #[vi ((ZH q k).num.a),vi ((ZH q k).num.b),vi ((ZH q k).num.c),vi ((ZH q k).num.d),vi ((ZH q k).exp)]]) O O EO (by have hq:=J' dS (dO (fv q k) 0) (ZH q k);rw[Ro G y cR,Qq,Option.isSome_some] at hq;exact hq)) ?_;rintro _ fY ⟨rfl,e⟩;have ⟨f,g,z,m⟩:=dk e f g z m;refine Zm O<|Ze (X2 (vs:=[.agg #[vi ((dO (fv q (k+1)) 0).num.a),vi ((dO (fv q (k+1)) 0).num.b),vi ((dO (fv q (k+1)) 0).num.c),vi ((dO (fv q (k+1)) 0).num.d),vi ((dO (fv q (k+1)) 0).exp)],.bool true]) O O)<|Ze (X2 (vs:=[.agg #[vi ((dO (fv q (k+1)) 0).num.a),vi ((dO (fv q (k+1)) 0).num.b),vi ((dO (fv q (k+1)) 0).num.c),vi ((dO (fv q (k+1)) 0).num.d),vi ((dO (fv q (k+1)) 0).exp)],.bool true]) O O)<|ZB [vi ((dO (fv q (k+1)) 0).num.a),vi ((dO (fv q (k+1)) 0).num.b),vi ((dO (fv q (k+1)) 0).num.c),vi ((dO (fv q (k+1)) 0).num.d),vi ((dO (fv q (k+1)) 0).exp)] iu Xm fun b58 f8 dX e dY=>?_;have eA:B≠b58:=by have:=f.lt;omega
   have eB:b5≠b58:=by have:=g.lt;omega
   have cU:x≠b58:=by have:=z.lt;omega
   have fA:=Q0 m.size dX;have ⟨f,g,m⟩:=bh e f g m;refine Za O<|ZX dW fun a i _ eC=>Q5 fun _ eD=>eo (fun a w=>Fr a 88 [(0,.slice Al l.length cl),(2,(ae B)),(4,(ae b5)),(13,(ae b58)),(16,vi (k:Int)),(83,.bool false)]/\f8=w) ?_ ?_
   ·refine Zr i<|Zm O<|Ze (dn O)<|Zm O<|Zv (gW O) (X7 O) ?_;refine Zv (gW O) (dn O) ?_;refine Ze (X9 O O O)<|Zm O<|Zv (gW O) (X7 O) ?_;refine Zv (gW O) (dn O)<|Ze (X9 O O O)<|Zn fun a i=>?_;exact ⟨i.sb,O⟩
   rintro a _ ⟨i,rfl⟩;refine eD _ _<|th i O<|Q7<|eC _ _<|Zr i<|Ze (Vn Xa dY)<|Zo (Vw [vi ((dO (fv q (k+1)) 0).num.a),vi ((dO (fv q (k+1)) 0).num.b),vi ((dO (fv q (k+1)) 0).num.c),vi ((dO (fv q (k+1)) 0).num.d),vi ((dO (fv q (k+1)) 0).exp)] Xm g) ?_;intro _ fZ ⟨ho,hb⟩;have f:=f.oy ho O0;have m:=Below.oy m ho bC;have g:=hb;exact Zn fun a i=>Xk<|bD _ _<|Zr i<|Ze (Xs O O O0 O0)<|Zm O<|Zn fun a i=>Xb<|⟨k+1,⟨i.sb,O0,f,g,m⟩,O0⟩
  have cR:k≠1:=by have h9:=b6;simp at h9;omega
  refine Q7<|bJ _ _<|ZS i fun eE=>Zm O<|Ze (Vn Xa g)<|Ze (Vn Xa z)<|Zf (ta (cs:=[]) (vs:=[.agg #[vi ((dO (fv q k) 0).num.a),vi ((dO (fv q k) 0).num.b),vi ((dO (fv q k) 0).num.c),vi ((dO (fv q k) 0).num.d),vi ((dO (fv q k) 0).exp)],.agg #[vi ((ZH q k).num.a),vi ((ZH q k).num.b),vi ((ZH q k).num.c),vi ((ZH q k).num.d),vi ((ZH q k).exp)]]) O O z_ (by have hq:=zV dS (dO (fv q k) 0) (ZH q k);rw[Pd G y cR,Qq,Option.isSome_some] at hq;exact hq)) ?_;rintro _ g7 ⟨rfl,e⟩;have ⟨f,g,z,m⟩:=dk e f g z m;refine Zm O<|Ze (X2 (vs:=[.agg #[vi ((dO (fv q (k+1)) 0).num.a),vi ((dO (fv q (k+1)) 0).num.b),vi ((dO (fv q (k+1)) 0).num.c),vi ((dO (fv q (k+1)) 0).num.d),vi ((dO (fv q (k+1)) 0).exp)],.bool true]) O O)<|Ze (X2 (vs:=[.agg #[vi ((dO (fv q (k+1)) 0).num.a),vi ((dO (fv q (k+1)) 0).num.b),vi ((dO (fv q (k+1)) 0).num.c),vi ((dO (fv q (k+1)) 0).num.d),vi ((dO (fv q (k+1)) 0).exp)],.bool true]) O O)<|ZB [vi ((dO (fv q (k+1)) 0).num.a),vi ((dO (fv q (k+1)) 0).num.b),vi ((dO (fv q (k+1)) 0).num.c),vi ((dO (fv q (k+1)) 0).num.d),vi ((dO (fv q (k+1)) 0).exp)] iu Xm fun b62 fB eF e eH=>?_;have eI:B≠b62:=by have:=f.lt;omega
  have eJ:b5≠b62:=by have:=g.lt;omega
  have cV:x≠b62:=by have:=z.lt;omega
  have fC:=Q0 m.size eF;have ⟨f,g,m⟩:=bh e f g m;refine Za O<|ZX eE fun a i _ eK=>Q5 fun _ eL=>eo (fun a w=>Fr a 88 [(0,.slice Al l.length cl),(2,(ae B)),(4,(ae b5)),(13,(ae b62)),(16,vi (k:Int)),(83,.bool false)]/\fB=w) ?_ ?_
  ·refine Zr i<|Zm O<|Ze (dn O)<|Zm O<|Zv (gW O) (X7 O) ?_;refine Zv (gW O) (dn O) ?_;refine Ze (X9 O O O)<|Zm O<|Zv (gW O) (X7 O) ?_;refine Zv (gW O) (dn O)<|Ze (X9 O O O)<|Zn fun a i=>?_;exact ⟨i.sb,O⟩
  rintro a _ ⟨i,rfl⟩;refine eL _ _<|th i O<|Q7<|eK _ _<|Zr i<|Ze (Vn Xa eH)<|Zo (Vw [vi ((dO (fv q (k+1)) 0).num.a),vi ((dO (fv q (k+1)) 0).num.b),vi ((dO (fv q (k+1)) 0).num.c),vi ((dO (fv q (k+1)) 0).num.d),vi ((dO (fv q (k+1)) 0).exp)] Xm g) ?_;intro _ g8 ⟨ho,hb⟩;have f:=f.oy ho O0;have m:=Below.oy m ho bC;have g:=hb;exact Zn fun a i=>Xk<|bD _ _<|Zr i<|Ze (Xs O O O0 O0)<|Zm O<|Zn fun a i=>Xb<|⟨k+1,⟨i.sb,O0,f,g,m⟩,O0⟩
 have y:k=3:=by have:=aJ;omega
 refine Q9<|Xf<|Xf<|Xv<|eT _ _<|ZS i fun eM=>Ze (Vn Xa g)<|Zo (Vw [vi ((dO (fv q k) 0).num.a),vi ((dO (fv q k) 0).num.b),vi ((dO (fv q k) 0).num.c),vi ((dO (fv q k) 0).num.d),vi ((dO (fv q k) 0).exp)] Xm f) ?_;intro _ gA ⟨ho,hb⟩;have m:=Below.oy m ho cW;have f:=hb;refine Za O<|Zt eM fun a i=>Q6 (X4 i (dj i O (an.cellN (l:=[vi ((dO (fv q k) 0).num.a),vi ((dO (fv q k) 0).num.b),vi ((dO (fv q k) 0).num.c),vi ((dO (fv q k) 0).num.d),vi ((dO (fv q k) 0).exp)]) O Xa (f.at 0) O) O) ?_);subst y;exact ⟨O,m⟩
def MB(B:World)(Al:Option Addr)(cl:Nat)(l:List Dy)(q:Rw B 147 ai Al l)(k:Nat)(hk:k<24)(C:l=ck k):RE 132 [.agg #[.slice Al l.length cl]] B (fun v w=>v=.bool true/\Bl B w):=by
 obtain ⟨hS,aQ,aR⟩:=zN hk
 have D:l.length=9:=by rw[C];exact hS.blen
 have aS:fm l (mi l)=some (ck 0):=by rw[C];exact UM hk
 have b5:(ck 0).length=9:=rfl
 refine enter func132 O 59 O O ?_;intro a i
 have g:=bz B
 refine ZS i fun aT=>Zf (bt (zs:=[.slice Al l.length cl]) O O) ?_;rintro _ w1 ⟨b3,rfl,aU,f,j⟩;have b1:=Q0 g.size aU;have g:=aa g f;refine Za O<|ZX aT fun a i _ aW=>Q5 fun _ aX=>eo (fun a w=>Fr a 59 [(1,(ae b3)),(17,.bool (((l.length:Int) != 9)||(l.any (fun x=>!re x))))]/\Bl w1 w) ?_ ?_
 ·have o:Bl w1 w1:=Below.refl _ _
  refine Zr i<|Ze (Vd O o' 0)<|Ze (X0 O ju (j.at 0))<|Ze (fh O gv)<|Ze (kz O O)<|Zm O<|Zg 13 O ?_ ?_<;>intro m
  ·(iterate 3 refine Zp (gP m) ?_);exact Ze (Xh O m O)<|Zn fun a i=>⟨i.sub ⟨O,X1 O (by simp[m]),trivial⟩,o⟩
  refine Zv (gW m) (Vd O o' 0) ?_;refine Zv (gW m) (X0 O ju (j.at 0)) ?_;refine Zk (gW m) (Vc (IL _ Al cl l (q.bx g).top 168 [] Ou (fun x=>!re x) (fun x w1 b6=>MV w1 x) (by rw[D];decide)) FC) ?_;rintro _ w2 ⟨rfl,f⟩;have g:=aa g f;have o:=aa o f;exact Ze (X9 O m O)<|Zn fun a i=>⟨i.sub ⟨O,X1 O (by simp[m]),trivial⟩,o⟩
 rintro a w3 ⟨i,f⟩;have j:=j.bw f;have g:=aa g f;refine aX _ _<|Xz i O ?_ ?_<;>intro E
 ·have b2:=E
  rw[D,C,aR] at E;simp at E
 refine Q7<|aW _ _<|Q5 fun _ aY=>gx none (fun _=>false) mixed ?_;intro w4 f;have j:=j.bw f;have g:=aa g f;refine Yb i<|Yo 0 O (fun _=>Vd O o' 0)<|Ye 1 O (X0 O ju (j.at 0))<|Yo 2 O (fun _=>Vd O o' 0)<|Ye 3 O (X0 O ju (j.at 0))<|Y1 4<|Yk O ad (Vc (Hf _ Al cl l (q.bx g).top D) JN) (fun _ _ ⟨A9,c9,_,G,f⟩=>f) ?_;rintro _ w5 ⟨A9,c9,rfl,G,f⟩;have G:=G.lower g.size;have j:=j.bw f;have g:=aa g f;refine Y1 5<|Yf O ad (fd.mono (ki (vs:=[.slice Al l.length cl,.slice A9 (mi l).length c9]) O CD (by have hq:=D9 w5 Al cl l (q.bx g).top A9 c9 (mi l) G.rd.top D (zu l);rw[aS,Qq,Option.isSome_some] at hq;exact hq)) (fun _ _ h=>⟨fun _=>by obtain ⟨t,y,rfl,e,f⟩:=h;exact f,h⟩)) ?_;rintro _ w6 ⟨t,y,rfl,e,f⟩;have e:=e.lower g.size;have j:=j.bw f;have g:=aa g f;refine Yo 6 O (fun _=>X7 O)<|Yo 7 O (fun _=>X2 (vs:=[.slice t (ck 0).length y,.bool true]) O O)<|Yo 8 O (fun _=>X2 (vs:=[.slice t (ck 0).length y,.bool true]) O O)<|Yo 9 O (fun _=>kk O)<|Yo 10 O (fun _=>kk O)<|Yd fun a i=>aY _ _<|ZS i fun aD=>Ze (Vd O o' 0)<|Ze (X0 O ju (j.at 0))<|Zf (Vc (QQ _ Al cl l (q.bx g).top (pc k) hS (by rw[C];rfl)) Pb) ?_;rintro _ w7 ⟨rfl,f⟩;have e:=e.bw f;have g:=aa g f;refine Zm O<|Ze (X2 (vs:=[.agg #[vi ((dO (fv (pc k) 3) 0).num.a),vi ((dO (fv (pc k) 3) 0).num.b),vi ((dO (fv (pc k) 3) 0).num.c),vi ((dO (fv (pc k) 3) 0).num.d),vi ((dO (fv (pc k) 3) 0).exp)],.bool true]) O O)<|Ze (X2 (vs:=[.agg #[vi ((dO (fv (pc k) 3) 0).num.a),vi ((dO (fv (pc k) 3) 0).num.b),vi ((dO (fv (pc k) 3) 0).num.c),vi ((dO (fv (pc k) 3) 0).num.d),vi ((dO (fv (pc k) 3) 0).exp)],.bool true]) O O)<|ZB [vi ((dO (fv (pc k) 3) 0).num.a),vi ((dO (fv (pc k) 3) 0).num.b),vi ((dO (fv (pc k) 3) 0).num.c),vi ((dO (fv (pc k) 3) 0).num.d),vi ((dO (fv (pc k) 3) 0).exp)] iu Xm fun b7 w9 aE f A=>?_;have aZ:=Q0 g.size aE;have e:=e.bw f;have g:=aa g f;refine Za O<|ZX aD fun a i _ aF=>Q5 fun _ aG=>eo (fun a w=>Fr a 59 [(3,.slice t (ck 0).length y),(43,.bool (!decide ((dO (fv (pc k) 3) 0)=(⟨⟨1,0,0,0⟩,0⟩ : Dy))))]/\Bl w9 w) ?_ ?_
 ·have o:Bl w9 w9:=Below.refl _ _
  refine gx none (fun _=>false) mixed ?_;intro b8 f;have ⟨A,g,o⟩:=bh f A g o;refine Yb i<|Yo 0 O (fun _=>X7 O)<|Yo 1 O (fun _=>dn O)<|Yo 2 O (fun _=>X7 O)<|Yu 3 O (gW O) (fun _=>X7 O) ?_;refine Yu 4 O (gW O) (fun _=>dn O) ?_;refine Yo 5 O (fun _=>X9 O O O)<|Yo 6 O (fun _=>X7 O)<|Yv 7 O (gW O) (Vn Xa A)<|Y1 8<|Yk O ⟨_,_,O,O,O⟩ (Vc (vZ _ 1) wn) (fun _ _ ⟨_,f⟩=>f) ?_;rintro _ b9 ⟨rfl,f⟩;have g:=aa g f;have o:=aa o f;refine Yu 9 O (gW O) (fun _=>uz O O wv (fun w=>wt 9997 (dO (fv (pc k) 3) 0) (⟨⟨1,0,0,0⟩,0⟩ : Dy) w))<|Yo 10 O (fun _=>X9 O O O)<|Yd fun a i=>?_;exact ⟨i.sb,o⟩
 rintro a bC ⟨i,f⟩;have e:=e.bw f;have g:=aa g f;refine aG _ _<|Xz i O ?_ ?_<;>intro H
 ·have h9:=H;rw[aQ] at h9;simp[dO] at h9
 refine Q7<|aF _ _<|Q5 fun _ aH=>ZS i fun aI=>Zm O<|Ze (fh O gv)<|Zm O<|Zt aI fun a i=>Q8<|Xw (σ:=Nat) (fun (n:Nat) (a:Act) (w:World)=>Fr a 59 [(44,.slice t (ck 0).length y),(45,vi ((ck 0).length:Int)),(46,vi (n:Int))]/\(n<=9)/\ah w B.heap.size 147 5 ai t y (ck 0)/\Bl B w) (fun (n:Nat)=>9-n) 0 ?_ ?_
 ·exact ⟨i.sb,O0,e,g⟩
 rintro n a bD ⟨i,hn,e,g⟩;refine ZS i fun aJ=>Ze (ew O O)<|ZX aJ fun a i _ aK=>eh i O (fun aA I=>?_) (fun aA I=>?_)
 ·obtain ⟨bE,b4⟩:=Xe (l:=(ck 0)) (k:=n) O0
  have aL:n<9:=by have:=I;omega
  have b0:=Tj aL;refine Q7<|aK _ _<|Q5 fun _ aM=>Q8<|ZS i fun aN=>Zm O<|Zi (k:=n) (u:=(dO (if n % 4=0 then 1 else 0) 0)) (enc:=ai) (l:=(ck 0)) ad O O gv Xm kb e.rd b0 O ?_;intro bF aB;refine Ze (Xt (l:=[vi ((dO (if n % 4=0 then 1 else 0) 0).num.a),vi ((dO (if n % 4=0 then 1 else 0) 0).num.b),vi ((dO (if n % 4=0 then 1 else 0) 0).num.c),vi ((dO (if n % 4=0 then 1 else 0) 0).num.d),vi ((dO (if n % 4=0 then 1 else 0) 0).exp)]) O Xa aB O)<|Zf (Xi (zs:=[vi 0,vi 0,vi 0,vi 0,vi 0]) iu O) ?_;rintro _ bG ⟨bH,rfl,J,f,p⟩;have aC:=Q0 g.size J;have z:=e.away J;have e:=e.bw f;have g:=aa g f;refine Za O<|Zo (Vw [vi ((dO (if n % 4=0 then 1 else 0) 0).num.a),vi ((dO (if n % 4=0 then 1 else 0) 0).num.b),vi ((dO (if n % 4=0 then 1 else 0) 0).num.c),vi ((dO (if n % 4=0 then 1 else 0) 0).num.d),vi ((dO (if n % 4=0 then 1 else 0) 0).exp)] Xm p) ?_;rintro _ bI ⟨ho,hb⟩;have e:=e.onlyA ho z;have g:=Below.oy g ho aC;have p:=hb;refine ZX aN fun a i _ aO=>gx none (fun _=>false) mixed ?_;intro bJ f;have ⟨p,e,g⟩:=bh f p e g;refine Yb i<|Ye 0 O (Vn Xa p)<|Yo 1 O (fun _=>X7 O)<|Yo 2 O (fun _=>sE O O O)<|Yo 3 O (fun _=>go O O)<|Y1 4<|Yz O ad (Vc (vJ _ (((n:Int).tmod 4)==0)) vF) ?_;refine Y1 5<|Yk O ad (Vc (vZ _ (if (((n:Int).tmod 4)==0)=true then 1 else 0)) wn) (fun _ _ ⟨_,f⟩=>f) ?_;rintro _ bK ⟨rfl,f⟩;have e:=e.bw f;have g:=aa g f;refine Yo 6 O (fun _=>uz O O wv (fun w=>wt 9997 (dO (if n % 4=0 then 1 else 0) 0) (⟨⟨(if (((n:Int).tmod 4)==0)=true then 1 else 0),0,0,0⟩,0⟩ : Dy) w)) ?_
  refine Yd fun a i=>aO _ _<|Xz i O ?_ ?_<;>intro L
  ·have h9:=L;revert h9;rw[LH aL];simp
  exact Q7<|Xk<|aM _ _<|Zr i<|Ze (Xs O O O0 O0)<|Zm O<|Zn fun a i=>Xb<|⟨n+1,⟨i.sb,O0,e,g⟩,O0⟩
 refine Q9<|Xf<|Xf<|Xv<|aH _ _<|ZS i fun aP=>Za O<|Zt aP fun a i=>Q6 (X4 i (Xu i O O) ?_)
 exact ⟨O,g⟩
def KD(x:Rg):fu (co x)=true:=by
 unfold co;split
 ·assumption
 ·rfl
def S2:∀ (n:Nat) (f:Bool) (x:Dy),(bi n f x).2.exp=x.exp+n:=yu
def Oq{f:Bool}{x y:Dy}(hx:0<=x.exp/\x.exp<=60)(hy:0<=y.exp/\y.exp<=60):dt (jt f x y).2=true:=by
 unfold jt;have:=S2 (y.exp-x.exp).toNat f x;exact zl (KD _) O0 O0
def HX{a b:Mx}(ha:la a)(hb:la b)(f:Bool)(i j:Nat):∀ n,dt (j_ f a b i j n).2=true
 | 0=>tG
 | n+1=>by
  rw[j_];split
  ·exact HX ha hb f i j n
  ·exact Oq (zr ha hb f i j n) (BO (qi (Mx.at_ok ha i n)) (qi (Mx.at_ok hb n j)))
def Hu{a b:Mx}(ha:la a)(hb:la b)(f:Bool):∀ n,∀ x ∈ (gr f a b n).2,dt x=true
 | 0,x,hx=>by cases hx
 | n+1,x,hx=>by
  rcases Qu.1 hx with hx|hx
  ·exact Hu ha hb f n x hx
  ·rw[Qm.1 hx];exact HX ha hb _ _ _ _
def zR{a b:Mx}(ha:di a=true)(hb:di b=true)(f:Bool):di (ar f a b).2=true/\(ar f a b).2.rows=a.rows/\(ar f a b).2.cols=b.cols:=by
 refine ⟨we (qM ha).1 (qM hb).2 (Bx f a b _) fun x hx=>Hu (oc ha) (oc hb) f _ x hx,O,O⟩
def vw(a b:Mx):(ar true a b).1=true:=by
 have h:∀ n,(gr true a b n).1=true:=fun n=>by
  induction n with
  | zero=>rfl
  | succ n ih=>show (j_ (gr true a b n).1 a b _ _ _).1=true;rw[ih,Gf]
 exact h _
def wH(x y:Dy):(fq true x y).1=true:=by unfold fq;split<;>rfl
def mz(f:Bool)(m:Mx)(i j:Nat) : Bool×Mx:=ar (ar (ar f (bf i) m).1 (ar f (bf i) m).2 (bf j)).1 (ar (ar f (bf i) m).1 (ar f (bf i) m).2 (bf j)).2 (b_ m)
def oX(f:Bool)(m:Mx)(i j:Nat) : Bool×Dy:=jt (mz f m i j).1 ((mz f m i j).2.cells.getD 0 dZ) ((mz f m i j).2.cells.getD 3 dZ)
def o_(f:Bool)(m:Mx)(i j:Nat) : Bool×Dy:=fq (oX f m i j).1 (oX f m i j).2 pC
def OI(m:Mx)(i j:Nat):(o_ true m i j).1=true:=by
 have h1:(mz true m i j).1=true:=by unfold mz;rw[vw,vw,vw]
 have h2:(oX true m i j).1=true:=by unfold oX;rw[h1];exact wN _ _
 unfold o_;rw[h2];exact wH _ _
def II{m:Mx}(hm:di m=true)(hr:m.rows=2)(hc:m.cols=2)(f:Bool){i j:Nat}(hi:i<3)(hj:j<3) :
  di (ar f (bf i) m).2=true/\(ar f (bf i) m).2.cols=(bf j).rows/\di (ar (ar f (bf i) m).1 (ar f (bf i) m).2 (bf j)).2=true/\(ar (ar f (bf i) m).1 (ar f (bf i) m).2 (bf j)).2.cols=(b_ m).rows/\(bf i).cols=m.rows/\(mz f m i j).2.cells.length=4/\di (mz f m i j).2=true:=by
 have ⟨a1,a2,a3⟩:=zR (r7 hi) hm f;have ⟨b1,b2,au⟩:=zR a1 (r7 hj) (ar f (bf i) m).1;have ⟨c1,c2,c3⟩:=zR b1 (qC hm) (ar (ar f (bf i) m).1 (ar f (bf i) m).2 (bf j)).1;refine ⟨a1,by rw[a3,hc,(rI hj).r],b1,by rw[au,(rI hj).c];exact hc.symm,by rw[(rI hi).c,hr],?_,c1⟩;have h1:=(rs c1).2.2;have hr2:(mz f m i j).2.rows=2:=by show (ar _ _ _).2.rows=2;rw[c2,b2,a2,(rI hi).r]
 have hc2:(mz f m i j).2.cols=2:=by show (ar _ _ _).2.cols=2;rw[c3];exact hr
 unfold mz at hr2 hc2 ⊢;rw[h1,hr2,hc2];rfl
def Mi{m:Mx}(hm:di m=true)(hr:m.rows=2)(hc:m.cols=2){i j:Nat}(hi:i<3)(hj:j<3) :
  (∀ z,fj m i j=some z->o_ false m i j=(false,z))/\(fj m i j=none->(o_ false m i j).1=true):=by
 have ⟨a1,a2,b1,b2,d1,c1,c2⟩:=II hm hr hc false hi hj;have pi:=rI hi;have pj:=rI hj;have m1:=r9 (r7 hi) hm d1;unfold fj;cases h1:bg (bf i) m with
 | none=>
  have f1:=m1.2 h1;refine ⟨fun z h=>(by cases h),fun _=>?_⟩;have h1':(mz false m i j).1=true:=by unfold mz;rw[f1,vw,vw]
  have h2:(oX false m i j).1=true:=by unfold oX;rw[h1'];exact wN _ _
  unfold o_;rw[h2];exact wH _ _
 | some x=>
  have f1:=(m1.1 x h1).1;rw[f1] at a1 a2 b1 b2;simp only[Qz];have m2:=r9 a1 (r7 hj) a2;cases h2:bg x (bf j) with
  | none=>
   have f2:=m2.2 h2;refine ⟨fun z h=>(by cases h),fun _=>?_⟩;have h1':(mz false m i j).1=true:=by unfold mz;rw[f1];dsimp only;rw[f2,vw]
   have h2:(oX false m i j).1=true:=by unfold oX;rw[h1'];exact wN _ _
   unfold o_;rw[h2];exact wH _ _
  | some y=>
   have f2:=(m2.1 y h2).1;rw[f2] at b1 b2;simp only[Qz];have m3:=r9 b1 (qC hm) b2;have hX:mz false m i j=ar false y (b_ m):=by unfold mz;rw[f1];dsimp only;rw[f2]
   cases h3:bg y (b_ m) with
   | none=>
    have f3:=m3.2 h3;refine ⟨fun z h=>(by cases h),fun _=>?_⟩;have h2:(oX false m i j).1=true:=by unfold oX;rw[hX,f3];exact wN _ _
    unfold o_;rw[h2];exact wH _ _
   | some z=>
    have f3:=(m3.1 z h3).1;have ⟨z1,z2,z3⟩:=wi h3 (by have:=(wi h2 (by have:=(wi h1 pi.r hc).2.1;exact this) pj.c).2.1;exact this) (show (b_ m).cols=2 from hr);simp only[Qz];have e0:z.cells.getD 0 dZ=z.at 0 0:=by show _=z.cells.getD (0*z.cols.toNat+0) dZ;rw[z3];rfl
    have e3:z.cells.getD 3 dZ=z.at 1 1:=by show _=z.cells.getD (1*z.cols.toNat+1) dZ;rw[z3];rfl
    have hA:oX false m i j=jt false (z.at 0 0) (z.at 1 1):=by unfold oX;rw[hX,f3,e0,e3]
    have ag:=xZ (Mx.at_ok (oc z1) 0 0) (Mx.at_ok (oc z1) 1 1);cases h4:ap (z.at 0 0) (z.at 1 1) with
    | none=>
     refine ⟨fun z h=>(by cases h),fun _=>?_⟩;unfold o_;rw[hA,ag.2 h4];exact wH _ _
    | some t=>
     have ⟨g1,g2⟩:=ag.1 t h4;have am:=xB g2 (show dt pC=true by decide);simp only[Qz];have hS:o_ false m i j=fq false t pC:=by unfold o_;rw[hA,g1]
     rw[hS];exact ⟨fun z h=>(am.1 z h).1,am.2⟩
def xQ(m:Mx)(n:Nat)(f:Bool)(l:List Dy) : Prop:=(f=false->gw (f_ (fj m) 3) n=some l)/\(f=true->gw (f_ (fj m) 3) n=none)/\l.length=n
def NY{m:Mx}(hm:di m=true)(hr:m.rows=2)(hc:m.cols=2){i j:Nat}(hi:i<3)(hj:j<3){f:Bool}{l:List Dy}(h:xQ m (i*3+j) f l):xQ m (i*3+(j+1)) (o_ f m i j).1 (l++[(o_ f m i j).2]):=by
 have ⟨h1,h2,h3⟩:=h;have hg:f_ (fj m) 3 (i*3+j)=fj m i j:=st hj;have hag:=Mi hm hr hc hi hj;refine ⟨fun hf=>?_,fun hf=>?_,by simp[h3];omega⟩
 ·cases f with
  | true=>rw[OI] at hf;cases hf
  | false=>
   cases e:fj m i j with
   | none=>rw[hag.2 e] at hf;cases hf
   | some z=>rw[hag.1 z e];exact vI (n:=i*3+j) (h1 rfl) (hg.trans e)
 ·cases f with
  | true=>
   show gw _ (i*3+j+1)=none;rw[gw,h2 rfl]
  | false=>
   cases e:fj m i j with
   | none=>exact wO (n:=i*3+j) (by rw[hg,e]) _ O0
   | some z=>rw[hag.1 z e] at hf;cases hf
def S'{m:Mx}(h1:li m=true){f:Bool}{l:List Dy}(h:xQ m 9 f l):(f=true->ak m=none)/\(f=false->ak m=some l):=by
 unfold ak;rw[Q4 h1];exact ⟨h.2.1,h.1⟩
def Jp{l:List Dy}(h:l.length=4){k:Nat}(hk:k<4):l[k]? = some (l.getD k dZ):=by
 rw[Qa,Qc O0];rfl
def vT{m:Mx}(h:di m=true)(k:Nat):0<=(m.cells.getD k dZ).exp/\(m.cells.getD k dZ).exp<=60:=by
 rw[Qa];cases e:m.cells[k]? with
 | none=>decide
 | some x=>exact qi (oc h x (Qe e))
def UK{p q r:List Dy}(h:fm p q=some r)(hp:∀ x ∈ p,dt x=true)(hq:∀ x ∈ q,dt x=true){i j k:Nat}(hi:i<3)(hj:j<3)(hk:k<3){s:Dy}(hs:de (au p) (au q) i j k=some s) :
  ∃ z t,fq false ((au p).at i k) ((au q).at k j)=(false,z)/\jt false s z=(false,t)/\de (au p) (au q) i j (k+1)=some t/\(0<=z.exp/\z.exp<=60)/\(0<=s.exp/\s.exp<=60)/\dt s=true:=by
 have h3:=AI h (i*3+j) O0;rw[st hj] at h3;have hso:∀ n s,de (au p) (au q) i j n=some s->dt s=true:=fun n=>by
  induction n with
  | zero=>intro s h;injection h with h;rw[<- h];exact tG
  | succ n ih=>
   intro s h;simp only[de,Option.bind_eq_some_iff] at h;have ⟨u,h1,x,h2,h4⟩:=h;have o1:=((xB (Mx.at_ok (m:=au p) hp i n) (Mx.at_ok (m:=au q) hq n j)).1 x h2).2;exact ((xZ (ih u h1) o1).1 s h4).2
 have hne:∃ t,de (au p) (au q) i j (k+1)=some t:=by
  cases e:de (au p) (au q) i j (k+1) with
  | none=>rw[z6 e 3 O0] at h3;cases h3
  | some t=>exact ⟨t,rfl⟩
 have ⟨t,ht⟩:=hne;have ht2:=ht;rw[de,hs,Qz] at ht2;simp only[Option.bind_eq_some_iff] at ht2;have ⟨z,hz,hz2⟩:=ht2;have a1:=(xB (Mx.at_ok (m:=au p) hp i k) (Mx.at_ok (m:=au q) hq k j)).1 z hz;have os:=hso k s hs;have a2:=(xZ os a1.2).1 t hz2;exact ⟨z,t,a1.1,a2.1,ht,qi a1.2,qi os,os⟩
def P8{p q r:List Dy}(h:fm p q=some r){i j:Nat}(hj:j<3)(hi:i<3){l:List Dy}(hl:gw (f_ (fun i j=>de (au p) (au q) i j 3) 3) (i*3+j)=some l){s:Dy}(hs:de (au p) (au q) i j 3=some s):gw (f_ (fun i j=>de (au p) (au q) i j 3) 3) (i*3+(j+1))=some (l++[s]):=vI (n:=i*3+j) hl ((st (f:=fun i j=>de (au p) (au q) i j 3) hj).trans hs)
def fo(s:Nat) : UInt8:=([84,72,83] : List UInt8).getD s 84
def ST{s:Nat}{u:UInt8}(hs:s<3)(hu:u=fo s)(h:((u.toNat:Int)==72)=true):s=1:=by
 subst hu;rcases oh hs with rfl|rfl|rfl<;>revert h<;>decide
def J8{s:Nat}{u:UInt8}(hs:s<3)(hu:u=fo s)(h:((u.toNat:Int)==83)=true):s=2:=by
 subst hu;rcases oh hs with rfl|rfl|rfl<;>revert h<;>decide
def Ue{s:Nat}{u:UInt8}(hs:s<3)(hu:u=fo s)(h:((u.toNat:Int)==72)=false)(h2:((u.toNat:Int)==83)=false):s=0:=by
 subst hu;rcases oh hs with rfl|rfl|rfl<;>revert h h2<;>decide
def LO{s:Nat}{u:UInt8}(hs:s<3)(hu:u=fo s):((u.toNat:Int) != 84)=true/\s≠0∨((u.toNat:Int) != 84)=false/\s=0:=by
 subst hu;rcases oh hs with rfl|rfl|rfl<;>decide
def Uf{s:Nat}{u:UInt8}(hs:s<3)(hu:u=fo s)(h0:s≠0)(h:((u.toNat:Int)==83)=false):s=1:=by
 subst hu;rcases oh hs with rfl|rfl|rfl
 ·exact absurd O h0
 ·rfl
 ·revert h;decide
def Np{s:Nat}{u:UInt8}(hs:s<3)(hu:u=fo s)(h:((u.toNat:Int) != 84)=false):s=0/\((u.toNat:Int)==83)=false:=by
 subst hu;rcases oh hs with rfl|rfl|rfl<;>revert h<;>decide
def K9{i:Nat}(hi:i<3):(([84,72,83] : List UInt8).drop i).take (i+1-i)=[fo i]:=by rcases oh hi with rfl|rfl|rfl<;>rfl
def Ie{l r:List Dy}{i:Nat}(hi:i<3)(hno:∀ j,j<i->∀ r,fm (jh j) l=some r->az r≠az l-1)(h:fm (jh i) l=some r)(he:az r=az l-1):jr l=some (i,r):=by
 unfold jr;have hn:∀ j,j<i->((fm (jh j) l).bind fun r=>if az r=az l-1 then some (j,r) else none)=none:=fun j hj=>by
  cases e:fm (jh j) l with
  | none=>rfl
  | some q=>rw[Qz,Q3 (hno j hj q e)]
 have hy:((fm (jh i) l).bind fun r=>if az r=az l-1 then some (i,r) else none)=some (i,r):=by rw[h,Qz,Q4 he]
 rcases oh hi with rfl|rfl|rfl
 ·simp only[List.findSome?];rw[hy]
 ·simp only[List.findSome?];rw[hn 0 O2,hy]
 ·simp only[List.findSome?];rw[hn 0 O2,hn 1 O2,hy]
def CL{s:Nat}(hs:s<3):(jh s).length=9/\∀ x ∈ jh s,dt x=true:=⟨(xI hs).len,(xI hs).ok⟩
def Gd.nine{l:List Dy}(h:Gd l):l.length=9/\∀ x ∈ l,dt x=true:=by have ⟨Z,h1,_⟩:=h;exact ⟨h1.len,h1.ok⟩
def lv(i:Nat) : Int:=if i=0 then 1 else 5
def ey(i:Nat) : Nat:=if i=0 then 1 else 2
def OV{i:Nat}(hi:i<2):br 1 ⟨lv i,0,0⟩=some (bc 1 ⟨lv i,0,0⟩)/\ak (bc 1 ⟨lv i,0,0⟩)=some (ck (ey i)):=by
 have key:∀ (g:Gt) (k:Nat),g ∈ G4->k<24->cw k=[if g.k=5 then 83 else 72]->jn (cw k)=[g]->br 1 g=some (bc 1 g)/\ak (bc 1 g)=some (ck k):=fun g k hg hk hw hw2=>by
  have ⟨v,ok⟩:=Bk hg;have ⟨u,_⟩:=EV hg;refine ⟨(r_ ok).1,?_⟩;have hN1:hN g<=1:=by unfold hN;split<;>omega
  refine zj v u O0 (sN hk) fun i j hi hj=>?_;have:=yP k hk i j hi hj;rw[pP,Xj];rw[pW,hw2] at this;have e1:jz [g] i2=g1 g.k:=by show g1 g.k*i2=_;exact uJ _
  have e2:hs [g]=hN g:=by show hN g+0=hN g;rfl
  rw[e1,e2] at this;exact this
 have h2:i=0∨i=1:=by omega
 rcases h2 with rfl|rfl
 ·exact key ⟨1,0,0⟩ 1 O2 O2 O O
 ·exact key ⟨5,0,0⟩ 2 O2 O2 O O
def Ur{i:Nat}(hi:i<3):bf i=⟨2,2,km (2+(i:Int))⟩:=by
 rcases oh hi with rfl|rfl|rfl<;>kernel_rfl
def RZ{m:Mx}(hm:di m=true)(hrc:m.rows=m.cols)(h:(ar false m (b_ m)).1=true):iz m=(false,false):=by
 rw[BN hm hrc];have ha:=r9 hm (qC hm) (show m.cols=(b_ m).rows from O);cases e:bg m (b_ m) with
 | none=>rfl
 | some p=>rw[(ha.1 p e).1] at h;cases h
def PD{m:Mx}(hm:di m=true)(hrc:m.rows=m.cols)(h:(ar false m (b_ m)).1=false):iz m=(uE (ar false m (b_ m)).2 (ao m.rows.toNat),true):=by
 rw[BN hm hrc];have ha:=r9 hm (qC hm) (show m.cols=(b_ m).rows from O);cases e:bg m (b_ m) with
 | none=>rw[ha.2 e] at h;cases h
 | some p=>rw[(ha.1 p e).1];rfl
def Mu(w0:World)(x:Rg):RE 217 [.agg #[vi x.a,vi x.b,vi x.c,vi x.d]] w0 (fun v w=>v=rV (js x)/\Bl w0 w):=by
 refine enter func217 O 15 O O ?_;intro a hf;have f:=bz w0;refine ZS hf fun aD=>Zf (bt (zs:=[vi x.a,vi x.b,vi x.c,vi x.d]) O O) ?_;rintro _ w1 ⟨b2,rfl,aE,hE,e⟩;have aH:=Q0 f.size aE;have f:=aa f hE;refine Zf (Xi (zs:=[vi 0,vi 0,vi 0,vi 0]) nz O) ?_;rintro _ w2 ⟨b3,rfl,aF,hE,aA⟩;have aC:b2≠b3:=by have:=e.lt;omega
 have aB:=Q0 f.size aF;have e:=e.bw hE;have f:=aa f hE;refine Zx aD fun a hf _ aG=>Ze (Vd O lz 0)<|Ze (X0 O X8 (e.at 0))<|Ze (Vd O lw 3)<|Ze (X0 O X8 (e.at 3))<|Ze (rQ O)<|Ze (Vd O lu 2)<|Ze (X0 O X8 (e.at 2))<|Ze (rQ O)<|Ze (Vd O ly 1)<|Ze (X0 O X8 (e.at 1))<|Ze (rQ O)<|Ze (Xg (ps:=[(0,vi x.a),(1,vi (wr (-x.d))),(2,vi (wr (-x.c))),(3,vi (wr (-x.b)))]) (cs:=[vi x.a,vi (wr (-x.d)),vi (wr (-x.c)),vi (wr (-x.b))]) O (fun _=>by first|rfl|kernel_rfl))<|Zo (Vw [vi x.a,vi (wr (-x.d)),vi (wr (-x.c)),vi (wr (-x.b))] lr aA) ?_;intro _ w3 ⟨ho,hb⟩;have f:=Below.oy f ho aB;have aA:=hb;refine Zt aG fun a hf=>Q6 (X4 hf (Xu hf O (an.cellN (l:=[vi x.a,vi (wr (-x.d)),vi (wr (-x.c)),vi (wr (-x.b))]) O g9 (aA.at 0) O)) ?_);exact ⟨O,f⟩
def RT(w0:World)(x:Dy):RE 209 [.agg #[vi x.num.a,vi x.num.b,vi x.num.c,vi x.num.d,vi x.exp]] w0 (fun v w=>v=dV (oK x)/\Bl w0 w):=by
 refine enter func209 O 9 O O ?_;intro a hf;have g:=bz w0;refine ZS hf fun aC=>Zf (bt (zs:=[vi x.num.a,vi x.num.b,vi x.num.c,vi x.num.d,vi x.exp]) O O) ?_;rintro _ w1 ⟨b2,rfl,aD,i,e⟩;have aG:=Q0 g.size aD;have g:=aa g i;refine Zf (Xi (zs:=[vi 0,vi 0,vi 0,vi 0,vi 0]) iu O) ?_;rintro _ w2 ⟨b3,rfl,aE,i,f⟩;have aB:b2≠b3:=by have:=e.lt;omega
 have aA:=Q0 g.size aE;have e:=e.bw i;have g:=aa g i;refine ZX aC fun a hf _ aF=>gx none (fun j=>[6].contains j) mixed ?_;intro w3 i;have ⟨e,f,g⟩:=bh i e f g;refine Yb hf<|Yo 0 O (fun _=>Vd O pG 0)<|Ye 1 O (Xt (l:=[vi x.num.a,vi x.num.b,vi x.num.c,vi x.num.d]) O g9 ((e.at 0).take 4) O)<|Yo 3 O (fun _=>Vd O oJ 4)<|Ye 4 O (X0 O X8 (e.at 4))<|Y1 2<|Yk O ad (Vc (Mu _ x.num) Ot) (fun _ _ ⟨_,i⟩=>i) ?_;rintro _ w4 ⟨rfl,i⟩;have f:=f.bw i;have g:=aa g i;refine Yo 5 O (fun _=>Xg (ps:=[(0,.agg #[vi ((js x.num).a),vi ((js x.num).b),vi ((js x.num).c),vi ((js x.num).d)]),(1,vi x.exp)]) (cs:=[vi ((js x.num).a),vi ((js x.num).b),vi ((js x.num).c),vi ((js x.num).d),vi x.exp]) O (fun _=>by first|rfl|kernel_rfl))<|Y1 6<|Yh O ad O (Vw [vi ((js x.num).a),vi ((js x.num).b),vi ((js x.num).c),vi ((js x.num).d),vi x.exp] Xm f) ?_;intro _ w5 ⟨ho,hb⟩;have g:=Below.oy g ho aA;have f:=hb;refine Yd fun a hf=>aF _ _<|Q6 (X4 hf (Xu hf O (an.cellN (l:=[vi ((js x.num).a),vi ((js x.num).b),vi ((js x.num).c),vi ((js x.num).d),vi x.exp]) O Xa (f.at 0) O)) ?_);exact ⟨O,g⟩
def ue(t:World)(m:Mx)(Am:Option Addr)(cm:Nat)(aI:Rw t 147 ai Am m.cells)(b2:di m=true):RE 187 [.agg #[vi m.rows,vi m.cols,.slice Am m.cells.length cm]] t (fun v w=>∃ A c,v=mV A c (b_ m)/\ah w t.heap.size 147 5 ai A c (b_ m).cells/\Bl t w):=by
 have b4:=rs b2;have b6:m.cols=(m.cols.toNat:Int):=by omega
 have b7:m.rows=(m.rows.toNat:Int):=by omega
 suffices hgoal:RE 187 [.agg #[vi (m.rows.toNat:Int),vi (m.cols.toNat:Int),.slice Am m.cells.length cm]] t (fun v w=>∃ A c,v=.agg #[vi (m.cols.toNat:Int),vi (m.rows.toNat:Int),.slice A (b_ m).cells.length c]/\ah w t.heap.size 147 5 ai A c (b_ m).cells/\Bl t w) by rw[<- b6,<- b7] at hgoal;exact hgoal
 refine enter func187 O 40 O O ?_;intro a p;have n:=bz t;refine ZS p fun b8=>Zf (bt (zs:=[vi (m.rows.toNat:Int),vi (m.cols.toNat:Int),.slice Am m.cells.length cm]) O O) ?_;rintro _ w1 ⟨b3,rfl,bC,q,e⟩;have bH:=Q0 n.size bC;have n:=aa n q;refine Zf (Xi (zs:=[vi 0,vi 0,.slice none 0 0]) jy O) ?_;rintro _ w2 ⟨b5,rfl,bD,q,f⟩;have aZ:b3≠b5:=by have:=e.lt;omega
 have aJ:=Q0 n.size bD;have e:=e.bw q;have n:=aa n q;refine Zx b8 fun a p _ bE=>Ze (Vd O ou 1)<|Ze (X0 O X8 (e.at 1))<|Ze (Vd O oe 0)<|Ze (X0 O X8 (e.at 0))<|Ze (Xg (ps:=[(0,vi (m.cols.toNat:Int)),(1,vi (m.rows.toNat:Int))]) (cs:=[vi (m.cols.toNat:Int),vi (m.rows.toNat:Int),.slice none 0 0]) O (fun _=>by first|rfl|kernel_rfl))<|ZB [vi (m.cols.toNat:Int),vi (m.rows.toNat:Int),.slice none 0 0] jy jg fun b9 w4 bF q g=>?_;have b0:b3≠b9:=by have:=e.lt;omega
 have b1:b5≠b9:=by have:=f.lt;omega
 have aK:=Q0 n.size bF;have ⟨e,f,n⟩:=bh q e f n;refine ZX bE fun a p _ aL=>ZS p fun aM=>Za O<|Zt aM fun a p=>Q8<|Xw (σ:=Nat×(List Dy)) (fun (s:Nat×(List Dy)) (a:Act) (w:World)=>match s with|(j,l)=>∃ y z,Fr a 40 [(1,(ae b3)),(2,(ae b5)),(3,(ae b9)),(4,vi (j:Int))]/\(j<=m.cols.toNat)/\(fy (fun j i=>oK (m.at i j)) m.rows.toNat (j*m.rows.toNat)=l)/\al w b3 91 [vi (m.rows.toNat:Int),vi (m.cols.toNat:Int),.slice Am m.cells.length cm]/\al w b5 91 [vi 0,vi 0,.slice none 0 0]/\al w b9 91 [vi (m.cols.toNat:Int),vi (m.rows.toNat:Int),.slice y l.length z]/\ah w t.heap.size 147 5 ai y z l/\Bl t w) (fun (s:Nat×(List Dy))=>match s with|(j,l)=>m.cols.toNat-j) (0,[]) ?_ ?_
 ·exact ⟨none,0,p.sb,(Qf _),O7,e,f,g,(ah.nil _ _ _ _ _),n⟩
 intro ⟨j,l⟩ a w5 ⟨y,z,p,hj,hl,e,f,g,B,n⟩;refine Q5 fun _ aN=>ZS p fun aO=>Zm O<|Ze (Vd O ou 1)<|Ze (X0 O X8 (e.at 1))<|Ze (ew O O)<|Zt aO fun a p=>eh p O (fun aA D=>?_) (fun aA D=>?_)
 ·have aP:j<m.cols.toNat:=by have:=D;omega
  refine Q7<|aN _ _<|Q5 fun _ aQ=>Q8<|ZS p fun aR=>Za O<|Zt aR fun a p=>Q8<|Xw (σ:=Nat×(List Dy)) (fun (s:Nat×(List Dy)) (a:Act) (w:World)=>match s with|(i,l2)=>∃ I J,Fr a 40 [(1,(ae b3)),(2,(ae b5)),(3,(ae b9)),(4,vi (j:Int)),(5,vi (i:Int))]/\(i<=m.rows.toNat)/\(fy (fun j i=>oK (m.at i j)) m.rows.toNat (j*m.rows.toNat+i)=l2)/\al w b3 91 [vi (m.rows.toNat:Int),vi (m.cols.toNat:Int),.slice Am m.cells.length cm]/\al w b5 91 [vi 0,vi 0,.slice none 0 0]/\al w b9 91 [vi (m.cols.toNat:Int),vi (m.rows.toNat:Int),.slice I l2.length J]/\ah w t.heap.size 147 5 ai I J l2/\Bl t w) (fun (s:Nat×(List Dy))=>match s with|(i,l2)=>m.rows.toNat-i) (0,l) ?_ ?_
  ·exact ⟨y,z,p.sb,(Qf _),hl,e,f,g,B,n⟩
  intro ⟨i,l2⟩ a w6 ⟨I,J,p,hi,aB,e,f,g,o,n⟩;refine Q5 fun _ aS=>ZS p fun aT=>Zm O<|Ze (Vd O oe 0)<|Ze (X0 O X8 (e.at 0))<|Ze (ew O O)<|Zt aT fun a p=>eh p O (fun aC E=>?_) (fun aC E=>?_)
  ·have aD:i<m.rows.toNat:=by have:=E;omega
   have bI:l2.length=j*m.rows.toNat+i:=by rw[<- aB,sU]
   have bK:=rW (show j<=32 by omega) (show m.rows.toNat<=32 by omega);have bJ:=rW (show i<=32 by omega) (show m.cols.toNat<=32 by omega);refine Q7<|aS _ _<|Q5 fun _ aU=>Q8<|gx none (fun j=>[14,16].contains j) mixed ?_;intro w7 q;have ⟨e,f,g,o,n⟩:=io q e f g o n;refine Yb p<|Yo 0 O (fun _=>Vd O og 2)<|Ye 1 O (X0 O ju (g.at 2))<|Yo 2 O (fun _=>Vd O og 2)<|Ye 3 O (X0 O ju (e.at 2))<|Yo 4 O (fun _=>X7 O)<|Yo 5 O (fun _=>Vd O ou 1)<|Ye 6 O (X0 O X8 (e.at 1))<|Yo 7 O (fun _=>ww (m:=i) (k:=m.cols.toNat) O O (by have:=rW (show i<=32 by omega) (show m.cols.toNat<=32 by omega);omega))<|Yo 8 O (fun _=>X7 O)<|Yo 9 O (fun _=>Xs O O O0 O0)<|Yi (k:=(i*m.cols.toNat+j)) (u:=(m.at i j)) (enc:=ai) (l:=m.cells) 10 O ad O O gv Xm kb (aI.bx n) (Mx.at_get (by rw[b4.2.2];exact tB O0 O0)) O0 ?_;intro bL aE;refine Ye 11 O (Xt (l:=[vi ((m.at i j).num.a),vi ((m.at i j).num.b),vi ((m.at i j).num.c),vi ((m.at i j).num.d),vi ((m.at i j).exp)]) O Xa aE O)<|Y1 12<|Yk O ad (Vc (RT _ (m.at i j)) Mc) (fun _ _ ⟨_,q⟩=>q) ?_;rintro _ w8 ⟨rfl,q⟩;have ⟨e,f,g,o,n⟩:=io q e f g o n;refine Y1 13<|Yk O ad (X6 (k:=1) (vs:=[.agg #[vi ((oK (m.at i j)).num.a),vi ((oK (m.at i j)).num.b),vi ((oK (m.at i j)).num.c),vi ((oK (m.at i j)).num.d),vi ((oK (m.at i j)).exp)]]) (zs:=[vi ((oK (m.at i j)).num.a),vi ((oK (m.at i j)).num.b),vi ((oK (m.at i j)).num.c),vi ((oK (m.at i j)).num.d),vi ((oK (m.at i j)).exp)]) O gv my O O) (fun _ _ ⟨_,_,_,h,_⟩=>h) ?_;rintro _ w9 ⟨bM,rfl,L,q,G⟩;have bG:=Q0 n.size L;have ⟨e,f,g,o,n⟩:=io q e f g o n;refine Y1 14<|Yt O ad O (jf (enc:=ai) (l:=(l2)) (l2:=([(oK (m.at i j))])) (B0:=t.heap.size) O O gv my kb rM o (Rd.of_blk G O _ G.lt) (by simp only[maxLen];simp;omega) O5 n.size) ?_;rintro _ bN ⟨aF,aG,rfl,H,hg,aW⟩;have x:ah _ t.heap.size 147 5 ai _ _ (l2):=o;clear aW;have e:=e.appT x hg O;have f:=f.appT x hg O;have g:=g.appT x hg O;have n:=Below.app n x hg (Qb _) n.size;clear x hg;refine Yo 15 O (fun _=>Vd O og 2)<|Y1 16<|Yh O ad O (Vu (vs:=[.slice aF (l2++([(oK (m.at i j))])).length aG]) (l':=[vi (m.cols.toNat:Int),vi (m.rows.toNat:Int),.slice aF (l2++([(oK (m.at i j))])).length aG]) O O rH g) ?_;intro _ bO ⟨ho,hb⟩;have e:=e.oy ho O0;have f:=f.oy ho O0;have H:=H.oT ho g O;have n:=Below.oy n ho aK;have g:=hb;exact Yd fun a p=>Xk<|aU _ _<|Zr p<|Zm O<|Ze (Xs O O O0 O0)<|Za O<|Zn fun a p=>Xb<|⟨(i+1,l2++[oK (m.at i j)]),⟨aF,aG,p.sb,O0,(by rw[DJ aD,aB]),e,f,g,H,n⟩,O3⟩
  have aD:i=m.rows.toNat:=by have:=E;omega
  exact Q9<|Xf<|Xf<|Xv<|Xk<|aQ _ _<|Zr p<|Zm O<|Ze (Xs O O O0 O0)<|Za O<|Zn fun a p=>Xb<|⟨(j+1,l2),⟨I,J,p.sb,O0,(by rw[Wb,Nat.one_mul,<- aB,aD]),e,f,g,o,n⟩,O3⟩
 have aP:j=m.cols.toNat:=by have:=D;omega
 refine Q9<|Xf<|Xf<|Xv<|aL _ _<|ZS p fun aX=>Ze (Vn fw g)<|Zo (Vw [vi (m.cols.toNat:Int),vi (m.rows.toNat:Int),.slice y l.length z] jg f) ?_;intro _ bP ⟨ho,hb⟩;have B:=B.oT ho f O;have n:=Below.oy n ho aJ;have f:=hb;refine Zt aX fun a p=>Q6 (X4 p (Xu p O (an.cellN (l:=[vi (m.cols.toNat:Int),vi (m.rows.toNat:Int),.slice y l.length z]) O fw (f.at 0) O)) ?_);have aY:(b_ m).cells=l:=by rw[<- hl,aP];rfl
 rw[aY];exact ⟨y,z,O,B,n⟩
def wx(w0:World)(i:Nat)(aB:i<3):RE 189 [vi (i:Int)] w0 (fun v w=>∃ A c,v=mV A c (bf i)/\ah w w0.heap.size 147 5 ai A c (bf i).cells/\Bl w0 w):=by
 refine enter func189 O 7 O O ?_;intro a hf;have f:=bz w0;refine ZS hf fun aC=>Zf (Xi (zs:=[vi 0,vi 0,.slice none 0 0]) jy O) ?_;rintro _ w1 ⟨b3,rfl,aD,hE,d⟩;have aA:=Q0 f.size aD;have f:=aa f hE;refine Zx aC fun a hf _ aE=>Zm O<|Ze (Xs O O O0 O0)<|Zf (Vc (J3 _ (2+(i:Int)) O0) Jj) ?_;rintro _ w2 ⟨A5,c5,rfl,e,hE⟩;have e:=e.lower f.size;have d:=d.bw hE;have f:=aa f hE;refine Ze (Xg (ps:=[(0,vi 2),(1,vi 2),(2,.slice A5 (km (2+(i:Int))).length c5)]) (cs:=[vi 2,vi 2,.slice A5 (km (2+(i:Int))).length c5]) O (fun _=>by first|rfl|kernel_rfl))<|Zo (Vw [vi 2,vi 2,.slice A5 (km (2+(i:Int))).length c5] jg d) ?_;intro _ w3 ⟨ho,hb⟩;have e:=e.oT ho d O;have f:=Below.oy f ho aA;have d:=hb;refine Zt aE fun a hf=>Q6 (X4 hf (Xu hf O (an.cellN (l:=[vi 2,vi 2,.slice A5 (km (2+(i:Int))).length c5]) O fw (d.at 0) O)) ?_);have aF:bf i=⟨2,2,km (2+(i:Int))⟩:=Ur aB;rw[aF];exact ⟨A5,c5,O,e,f⟩
abbrev Yx:=fun a=>(ar false a (b_ a)).2
def On(w0:World)(m:Mx)(Am:Option Addr)(cm:Nat)(y:Rw w0 147 ai Am m.cells)(b1:m.cells.length<=2305843009213693951):RE 145 [.agg #[vi m.rows,vi m.cols,.slice Am m.cells.length cm]] w0 (fun v w=>v=.tuple #[.bool ((iz m).1),.bool ((iz m).2)]/\Bl w0 w):=by
 refine enter func145 O 32 O O ?_;intro a n;have f:=bz w0;refine ZS n fun b2=>Zf (bt (zs:=[vi m.rows,vi m.cols,.slice Am m.cells.length cm]) O O) ?_;rintro _ w1 ⟨b3,rfl,b4,e,c⟩;have bC:=Q0 f.size b4;have f:=aa f e;refine Za O<|Za O<|ZX b2 fun a n _ b5=>Q5 fun _ b6=>eo (fun a w=>Fr a 32 [(1,(ae b3)),(15,.bool ((!(di m))||(m.rows != m.cols)))]/\Bl w1 w) ?_ ?_
 ·have aF:Bl w1 w1:=Below.refl _ _;refine Zr n<|Ze (Vn fw c)<|Zf (Vc (T4 _ m Am cm (y.bx f).top b1) QE) ?_;rintro _ w2 ⟨rfl,e⟩;have ⟨c,f,aF⟩:=bh e c f aF;refine Ze (dn O)<|Zm O<|Zg 9 O ?_ ?_<;>intro k
  ·(iterate 5 refine Zp (gP k) ?_);exact Ze (Xh O k O)<|Zn fun a n=>⟨n.sub ⟨O,X1 O (by simp[k]),trivial⟩,aF⟩
  refine Zv (gW k) (Vd O oe 0) ?_;refine Zv (gW k) (X0 O X8 (c.at 0)) ?_;refine Zv (gW k) (Vd O ou 1) ?_;refine Zv (gW k) (X0 O X8 (c.at 1)) ?_;refine Zv (gW k) (kz O O)<|Ze (X9 O k O)<|Zn fun a n=>?_;exact ⟨n.sub ⟨O,X1 O (by simp[k]),trivial⟩,aF⟩
 intro a w3 ⟨n,e⟩;have c:=c.bw e;have f:=aa f e;refine b6 _ _<|Xz n O ?_ ?_<;>intro W
 ·have B:=HT (by simpa using W:di m=false∨m.rows≠m.cols);exact ZS n fun b7=>Za O<|Za O<|Zt b7 fun a n=>Q6<|X3<|X4 n (dj n O O O)<|⟨by rw[B],f⟩
 have b8:di m=true/\m.rows=m.cols:=by have h9:=W;revert h9;cases di m<;>simp
 have ⟨t,aM⟩:=b8;have bD:=sW (qM t).1;refine Q7<|b5 _ _<|ZS n fun b9=>Ze (Xg (ps:=[]) (cs:=[.bool false]) O (fun _=>by first|rfl|kernel_rfl))<|Zf (bt (zs:=[.bool false]) O O) ?_;rintro _ w4 ⟨Q,rfl,aN,e,d⟩;have H:=Q0 f.size aN;have c:=c.bw e;have f:=aa f e;refine Za O<|ZX b9 fun a n _ aO=>eo (fun a w=>∃ b15 C D,Fr a 32 [(1,(ae b3)),(4,(ae Q)),(5,(ae b15))]/\w0.heap.size<=b15/\al w b15 91 [vi ((Yx m).rows),vi ((Yx m).cols),.slice C ((Yx m).cells).length D]/\b3≠b15/\ah w w0.heap.size 147 5 ai C D ((Yx m).cells)/\al w b3 91 [vi m.rows,vi m.cols,.slice Am m.cells.length cm]/\al w Q 137 [.bool ((ar false m (b_ m)).1)]/\Bl w0 w) ?_ ?_
 ·refine gx (some Q) (fun j=>[6].contains j) mixed ?_;intro w5 e;have ⟨c,d,f⟩:=bh e c d f;refine Yb n<|Yo 0 O (fun _=>X7 O)<|Yw 1 O ad (fun w1 h1=>Xt (l:=[vi m.rows,vi m.cols,.slice Am m.cells.length cm]) O fw ((c.oz h1 d O).at 0) O)<|Yw 2 O ad (fun w1 h1=>Xt (l:=[vi m.rows,vi m.cols,.slice Am m.cells.length cm]) O fw ((c.oz h1 d O).at 0) O)<|Y2 3 5 ?_ ?_
  ·refine Yf O ad (fd.mono (Vc (ue _ m Am cm (y.bx f).top t) ug) (fun _ _ h=>⟨fun _=>by obtain ⟨aG,aH,rfl,u,e⟩:=h;exact dw.of_below e,h⟩)) ?_;rintro _ w6 ⟨aG,aH,rfl,u,e⟩;have u:=u.lower f.size;have ⟨c,d,f⟩:=bh e c d f;refine Y2 4 5 ?_ ?_
   ·refine Yf O ad (fd.mono (Vc (qd _ Q false d m Am cm (y.bx f).top (b_ m) aG aH u.rd.top t (qC t) O) qf) (fun _ _ h=>⟨fun _=>by obtain ⟨C,D,rfl,g,J,x⟩:=h;exact J.keep,h⟩)) ?_;rintro _ w7 ⟨C,D,rfl,g,J,x⟩;have E:=f.size;have ⟨wm,U,hm,e⟩:=J.mid;clear hm;have o:=d;have c:=c.oz U o O;have f:=Below.oy f U H;have c:=c.bw e;have f:=aa f e;clear o e U J;have d:=x;clear x;have g:=g.lower E;clear E;refine Y1 5<|Yf O ad (fd.mono (Xi (zs:=[vi 0,vi 0,.slice none 0 0]) jy O) (fun _ _ h=>⟨fun _=>by have ⟨_,_,_,e,_⟩:=h;exact dw.of_below e,h⟩)) ?_;rintro _ w8 ⟨b15,rfl,aP,e,q⟩;have G:b3≠b15:=by have:=c.lt;omega
    have I:=Q0 f.size aP;have ⟨c,d,g,f⟩:=dk e c d g f;refine Y1 6<|Yh O ad O (Vw [vi ((Yx m).rows),vi ((Yx m).cols),.slice C ((Yx m).cells).length D] jg q) ?_;intro _ w9 ⟨L,hb⟩;have c:=c.oy L O0;have d:=d.oz L q O;have g:=g.oT L q O;have f:=Below.oy f L I;have q:=hb;exact Yd fun a n=>⟨b15,C,D,n.sb,I,q,G,g,c,d,f⟩
   refine Yf O ad (fd.mono (Xi (zs:=[vi 0,vi 0,.slice none 0 0]) jy O) (fun _ _ h=>⟨fun _=>by have ⟨_,_,_,e,_⟩:=h;exact dw.of_below e,h⟩)) ?_;rintro _ bE ⟨b17,rfl,aQ,e,p⟩;have aA:b3≠b17:=by have:=c.lt;omega
   have aB:=Q0 f.size aQ;have ⟨c,d,u,f⟩:=dk e c d u f;refine Y1 4<|Yf O ad (fd.mono (Vc (qd _ Q false d m Am cm (y.bx f).top (b_ m) aG aH u.rd.top t (qC t) O) qf) (fun _ _ h=>⟨fun _=>by obtain ⟨aI,aJ,rfl,z,J,x⟩:=h;exact J.keep,h⟩)) ?_;rintro _ bF ⟨aI,aJ,rfl,z,J,x⟩;have E:=f.size;have ⟨wm,U,hm,e⟩:=J.mid;clear hm;have o:=d;have c:=c.oz U o O;have p:=p.oz U o O;have f:=Below.oy f U H;have ⟨c,p,f⟩:=bh e c p f;clear o e U J;have d:=x;clear x;have z:=z.lower E;clear E;refine Y1 6<|Yh O ad O (Vw [vi ((Yx m).rows),vi ((Yx m).cols),.slice aI ((Yx m).cells).length aJ] jg p) ?_;intro _ bG ⟨L,hb⟩;have c:=c.oy L O0;have d:=d.oz L p O;have z:=z.oT L p O;have f:=Below.oy f L aB;have p:=hb;exact Yd fun a n=>⟨b17,aI,aJ,n.sub ⟨O,O,(by first|rfl|(simp[ge,W])),trivial⟩,aB,p,aA,z,c,d,f⟩
  refine Yf O ad (fd.mono (Xi (zs:=[vi 0,vi 0,.slice none 0 0]) jy O) (fun _ _ h=>⟨fun _=>by have ⟨_,_,_,e,_⟩:=h;exact dw.of_below e,h⟩)) ?_;rintro _ bH ⟨b20,rfl,aR,e,i⟩;have aC:b3≠b20:=by have:=c.lt;omega
  have aD:=Q0 f.size aR;have ⟨c,d,f⟩:=bh e c d f;refine Y1 3<|Yf O ad (fd.mono (Vc (ue _ m Am cm (y.bx f).top t) ug) (fun _ _ h=>⟨fun _=>by obtain ⟨aS,aT,rfl,M,e⟩:=h;exact dw.of_below e,h⟩)) ?_;rintro _ bI ⟨aS,aT,rfl,M,e⟩;have M:=M.lower f.size;have ⟨c,d,i,f⟩:=dk e c d i f;refine Y1 4<|Yf O ad (fd.mono (Vc (qd _ Q false d m Am cm (y.bx f).top (b_ m) aS aT M.rd.top t (qC t) O) qf) (fun _ _ h=>⟨fun _=>by obtain ⟨aK,aL,rfl,A,J,x⟩:=h;exact J.keep,h⟩)) ?_;rintro _ bJ ⟨aK,aL,rfl,A,J,x⟩;have E:=f.size;have ⟨wm,U,hm,e⟩:=J.mid;clear hm;have o:=d;have c:=c.oz U o O;have i:=i.oz U o O;have f:=Below.oy f U H;have ⟨c,i,f⟩:=bh e c i f;clear o e U J;have d:=x;clear x;have A:=A.lower E;clear E;refine Y1 6<|Yh O ad O (Vw [vi ((Yx m).rows),vi ((Yx m).cols),.slice aK ((Yx m).cells).length aL] jg i) ?_;intro _ bK ⟨L,hb⟩;have c:=c.oy L O0;have d:=d.oz L i O;have A:=A.oT L i O;have f:=Below.oy f L aD;have i:=hb;exact Yd fun a n=>⟨b20,aK,aL,n.sub ⟨O,O,(by first|rfl|(simp[ge,W])),trivial⟩,aD,i,aC,A,c,d,f⟩
 intro a bL ⟨b15,C,D,n,I,q,G,g,c,d,f⟩;refine aO _ _<|Q5 fun _ aU=>ZS n fun aW=>Zm O<|Ze (uQ O)<|Ze (Vd O vo 0)<|Ze (X0 O xy (d.at 0))<|Zt aW fun a n=>Xz n O ?_ ?_<;>intro aE
 ·have B:=RZ t aM aE;exact ZS n fun aX=>Za O<|Za O<|Zt aX fun a n=>Q6<|X3<|X4 n (dj n O O O)<|⟨by rw[B],f⟩
 have B:=PD t aM aE;refine Q7<|aU _ _<|Q5 fun _ aY=>gx none (fun _=>false) mixed ?_;intro bM e;have ⟨c,q,g,f⟩:=dk e c q g f;refine Yb n<|Ye 0 O (Vn fw q)<|Yo 1 O (fun _=>Vd O oe 0)<|Ye 2 O (Vx (X0 O X8 (c.at 0)) (show _=((m.rows.toNat:Nat) : Int) from O0))<|Y1 3<|Yk O ad (Vc (xu _ (m.rows.toNat:Nat) O0) xR) (fun _ _ ⟨aZ,b0,_,N,e⟩=>e) ?_;rintro _ bN ⟨aZ,b0,rfl,N,e⟩;have N:=N.lower f.size;have g:=g.bw e;have f:=aa f e;refine Y1 4<|Yk O ad (Vc (KF _ (Yx m) C D g.rd.top (ao (m.rows.toNat:Nat)) aZ b0 N.rd.top (AT (zR t (qC t) false).1)) LS) (fun _ _ ⟨_,e⟩=>e) ?_;rintro _ bO ⟨rfl,e⟩;have f:=aa f e;refine Yo 5 O (fun _=>kk O)<|Yo 6 O (fun _=>kk O)<|Yd fun a n=>aY _ _<|Q6 (X4 n (dj n O O O) ?_);exact ⟨by rw[B];rfl,f⟩
def N3(w0:World)(m:Mx)(Am:Option Addr)(cm:Nat)(aA:Rw w0 147 ai Am m.cells)(aB:m.cells.length<=2305843009213693951):RE 115 [.agg #[vi m.rows,vi m.cols,.slice Am m.cells.length cm]] w0 (fun v w=>v=.bool (li m)/\Bl w0 w):=by
 refine enter func115 O 19 O O ?_;intro a e
 have hW:=bz w0
 refine ZS e fun aC=>Zf (bt (zs:=[vi m.rows,vi m.cols,.slice Am m.cells.length cm]) O O) ?_;rintro _ w1 ⟨b3,rfl,aD,hE,f⟩;have aG:=Q0 hW.size aD;have hW:=aa hW hE;refine Za O<|Zx aC fun a e _ aE=>Ze (Vn fw f)<|Zf (Vc (On _ m Am cm (aA.bx hW).top aB) Kz) ?_;rintro _ w2 ⟨rfl,hE⟩;have f:=f.bw hE;have hW:=aa hW hE;refine Zm O<|Ze (X2 (vs:=[.bool ((iz m).1),.bool ((iz m).2)]) O O)<|Ze (X2 (vs:=[.bool ((iz m).1),.bool ((iz m).2)]) O O)<|Za O<|Za O<|ZX aE fun a e _ aF=>eo (fun a w=>Fr a 19 [(2,.bool ((((iz m).2)&&((iz m).1))&&(m.rows==2)))]/\w2=w) ?_ ?_
 ·refine Zr e<|Zm O<|Zm O<|Zg 11 O ?_ ?_<;>intro d
  ·refine Zv (gW d) (X7 O)<|Ze (Xh O d O)<|Zm O<|Zg 14 O ?_ ?_<;>intro c
   ·refine Zv (gW c) (Vd O oe 0) ?_;refine Zv (gW c) (X0 O X8 (f.at 0)) ?_;refine Zv (gW c) (go O O) ?_;refine Ze (Xh O c O)<|Za O ?_;exact Zn fun a e=>⟨e.sub ⟨X1 O (by first|rfl|(simp only[d,c,bs];done)|simp[d,c]),trivial⟩,O⟩
   (iterate 3 refine Zp (gP c) ?_);exact Ze (X9 O c O)<|Za O<|Zn fun a e=>⟨e.sub ⟨X1 O (by simp[d,c]),trivial⟩,O⟩
  refine Zp (gP d)<|Ze (X9 O d O)<|Zm O<|Zp (gP O) ?_;(iterate 2 refine Zp (gP O) ?_);exact Ze (X9 O O O)<|Za O<|Zn fun a e=>⟨e.sub ⟨X1 O (by simp[d]),trivial⟩,O⟩
 rintro a _ ⟨e,rfl⟩;refine aF _ _<|Q6 (X4 e (Xu e O O) ?_)
 exact ⟨by simp[li, *],hW⟩
end Go.Proofs.YtkhbopcihjobdaaGreatDoor
