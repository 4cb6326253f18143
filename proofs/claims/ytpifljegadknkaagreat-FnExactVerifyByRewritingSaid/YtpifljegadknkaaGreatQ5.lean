/-
  For every two circuits, the program's VerifyByRewriting returns what the reference's returns and leaves its arguments as they were.
-/
import Derived.Test.YtpifljegadknkaaGreatQ4
import Derived.Test.YtpifljegadknkaaGreatQ2
import Derived.Test.YtpifljegadknkaaGreatQ1
set_option linter.unusedVariables false
set_option linter.unusedSimpArgs false
set_option maxHeartbeats 1000000
set_option maxRecDepth 4000
set_option linter.unusedSectionVars false
namespace Go.Proofs.YtpifljegadknkaaGreat
open Go.RowKit
theorem Xpl(w0:World)(bV B0:Nat)(A0:Option Addr)(c0:Nat)(A1:Option Addr)(c1 G:Nat)(d:Dg)(aH:Dgm w0 bV B0 A0 c0 A1 c1 G d)(a8:B0≤w0.heap.size)(p:Int)(q:Int)(x:Bool)(aA:WSd d.ws)(aI:d.ws.length≤80000000)(aJ:(0≤p∧p.toNat<d.ns.length)∧(0≤q∧q.toNat<d.ns.length))(aK:PhN d.ns)(hN:G≤1000)(hab:(spI d.ns p&&spI d.ns q)=false→fdW d.ws p q<0) : Ret Tryz.prog 202 [.pointer (some ⟨bV,0,none⟩),vi p,vi q,.bool x] w0 (fun v w=>∃ A c,TurnS (SB bV [A0,A1]) w0 w∧Us (SB bV [A0,A1]) w0 A∧Dgm w bV B0 A0 c0 A c G (mtD d p q x)):=by
 obtain ⟨e,f,g,H⟩:=aH;have aO:=e.lt
 have aB:Us (SB bV [A0,A1]) w0 A0:=SB.us (by simp)
 have aC:Us (SB bV [A0,A1]) w0 A1:=SB.us (by simp)
 refine enter Tryz.func202 rfl 30 rfl rfl ?_;intro a m
 have j:TurnS (SB bV [A0,A1]) w0 w0:=TurnS.refl _ _
 refine Q5 fun _ aL=>?_;refine X0a (fun a w=>Fr a 30 [(0,.pointer (some ⟨bV,0,none⟩)),(1,vi p),(2,vi q),(3,.bool x),(19,.bool ((spI d.ns p)&&(spI d.ns q)))]∧Below w0.heap.size w0 w) ?_ ?_
 ·have o:=bz w0
  refine Zr m<|Zm rfl<|Ze (Xz rfl)<|Ze (X04 (l:=[vi d.n,.slice A0 G c0,.slice A1 d.ws.length c1,vi d.t,vi d.r]) rfl X2 (e.at 0) rfl)<|Zm rfl<|Zf (Vc (X60 _ d G H A0 c0 f.rd.top A1 c1 g.rd.top g.cap p hN) X36) ?_;rintro _ w1 ⟨rfl,u⟩;have e:=e.below u;have f:=f.below u;have g:=g.below u;have j:=tsbel j u;have o:=btr o u;refine Zm rfl ?_
  refine Zg 13 rfl (fun b=>?_) (fun b=>?_)
  ·refine Zv (gW b) (X3 rfl) ?_;refine Zv (gW b) (Xz rfl) ?_;refine Zv (gW b) (X04 (l:=[vi d.n,.slice A0 G c0,.slice A1 d.ws.length c1,vi d.t,vi d.r]) rfl X2 (e.at 0) rfl) ?_;refine Zv (gW b) (X3 rfl) ?_;refine Zk (gW b) (Vc (X60 _ d G H A0 c0 f.rd.top A1 c1 g.rd.top g.cap q hN) X36) ?_;rintro _ w2 ⟨rfl,u⟩;have j:=tsbel j u;have o:=btr o u;refine Ze (X7 rfl b rfl) ?_;refine Zn fun a m=>?_
   have a6:Below w0.heap.size w0 w2:=o
   exact ⟨m.sub ⟨rfl,rfl,rfl,rfl,X1 rfl (by first|rfl|(simp only [b,bs];done)|simp [b]),trivial⟩,a6⟩
  refine Zp (gP b) ?_;refine Zp (gP b) ?_;refine Zp (gP b) ?_;refine Zp (gP b) ?_;refine Zp (gP b) ?_;refine Ze (Xe rfl b rfl) ?_;refine Zn fun a m=>?_
  have a6:Below w0.heap.size w0 w1:=o
  exact ⟨m.sub ⟨rfl,rfl,rfl,rfl,X1 rfl (by first|rfl|(simp only [b,bs];done)|simp [b]),trivial⟩,a6⟩
 rintro a w3 ⟨m,u⟩;have e:=e.below u;have f:=f.below u;have g:=g.below u;have j:=tsbel j u;refine aL _ _ ?_
 refine Xg m rfl (fun y=>?_) (fun y=>?_)
 ·have aD:=y;have a7:=Xwf (h:=x) y;refine Zr m<|Zm rfl<|Zm rfl<|Zm rfl<|Zm rfl<|Zf (Vc (Xv6 _ bV B0 A0 c0 A1 c1 G d ⟨e,f,g,H⟩ (Q0 a8 j.size) p q x aA aI aJ aK) Xkt) ?_;rintro _ w4 ⟨A6,c6,B,C,D,i,aM,aE⟩;have k:=SB.lift (S:=SB bV [A0,A1]) (w0:=w0) (.inl (.inl rfl)) (alc aB (alc aC al0));have C:=Us.trans C k j.size
  have j:=tstr j B k;clear k
  clear B e;have e:=D;clear D
  clear f;have f:=i;clear i;refine Zn fun a m=>?_;refine X1b m (X1x rfl) ?_
  rw [a7]
  exact ⟨A6,c6,j,C,⟨e,f,aM,aE⟩⟩
 have aD:=y;have aF:=y;have a7:=Xub (h:=x) aF;refine Zr m<|Zm rfl<|Zm rfl<|Zm rfl<|Zm rfl<|Zf (Vc (Xe7 _ bV B0 A0 c0 A1 c1 G d ⟨e,f,g,H⟩ (Q0 a8 j.size) p q x aA (hab aF) (by omega)) X56) ?_;rintro _ w5 ⟨A7,c7,B,E,D,i,aN,aG⟩;have k:=SB.lift (S:=SB bV [A0,A1]) (w0:=w0) (.inl (.inl rfl)) (alc aB (alc aC al0));have E:=Us.trans E k j.size
 have j:=tstr j B k;clear k
 clear B e;have e:=D;clear D
 clear f;have f:=i;clear i;refine Zn fun a m=>?_;refine X1b m (X1x rfl) ?_
 rw [a7]
 exact ⟨A7,c7,j,E,⟨e,f,aN,aG⟩⟩
theorem Xtg(w0:World)(bV B0:Nat)(A0:Option Addr)(c0:Nat)(A1:Option Addr)(c1 H:Nat)(d:Dg)(aN:Dgm w0 bV B0 A0 c0 A1 c1 H d)(aA:B0≤w0.heap.size)(p:Int)(hG:goodD d=true) : Ret Tryz.prog 171 [.pointer (some ⟨bV,0,none⟩),vi p] w0 (fun v w=>∃ A c,v=.bool (idC d p)∧TurnS (SB bV [A0,A1]) w0 w∧Us (SB bV [A0,A1]) w0 A∧Dgm w bV B0 A0 c0 A c H (if idC d p=true then idD d p else d)):=by
 obtain ⟨e,f,i,y⟩:=aN;have aZ:=e.lt
 have aB:Us (SB bV [A0,A1]) w0 A0:=SB.us (by simp)
 have aC:Us (SB bV [A0,A1]) w0 A1:=SB.us (by simp)
 have N:=X1e hG;have b0:=N.m;have b1:=N.len;have b2:=X2f d.ws p;refine enter Tryz.func171 rfl 66 rfl rfl ?_;intro a u
 have x:TurnS (SB bV [A0,A1]) w0 w0:=TurnS.refl _ _
 refine Zs u fun _ aO=>?_;refine Za rfl<|ZX aO fun a u _ aP=>?_;refine Q5 fun _ aQ=>?_;refine X0a (fun a w=>Fr a 66 [(0,.pointer (some ⟨bV,0,none⟩)),(1,vi p),(31,.bool (((!(spI d.ns p))||(((d.ns.getD p.toNat nZ).p) != 0))||((cnW d.ws p) != 2)))]∧Below w0.heap.size w0 w) ?_ ?_
 ·have B:=bz w0
  refine Zr u<|Zm rfl<|Ze (Xz rfl)<|Ze (X04 (l:=[vi d.n,.slice A0 H c0,.slice A1 d.ws.length c1,vi d.t,vi d.r]) rfl X2 (e.at 0) rfl)<|Zm rfl<|Zf (Vc (X60 _ d H y A0 c0 f.rd.top A1 c1 i.rd.top i.cap p (by omega)) X36) ?_;rintro _ w1 ⟨rfl,o⟩;have e:=e.below o;have f:=f.below o;have i:=i.below o;have x:=tsbel x o;have B:=btr B o;refine Ze (X0y rfl)<|Zm rfl ?_
  refine Zg 13 rfl (fun g=>?_) (fun g=>?_)
  ·refine Zp (gP g) ?_;refine Zp (gP g) ?_;refine Zp (gP g) ?_;refine Zp (gP g) ?_;refine Zp (gP g) ?_;refine Zp (gP g) ?_;refine Zp (gP g) ?_;refine Zp (gP g) ?_;refine Zp (gP g) ?_;refine Ze (X7 rfl g rfl)<|Zm rfl<|Zp (gP rfl) ?_;refine Zp (gP rfl) ?_;refine Zp (gP rfl) ?_;refine Zp (gP rfl) ?_;refine Zp (gP rfl) ?_;refine Zp (gP rfl) ?_;refine Ze (X7 rfl rfl rfl) ?_;refine Zn fun a u=>?_
   have J:Below w0.heap.size w0 w1:=B
   exact ⟨u.sub ⟨rfl,rfl,X1 rfl (by first|rfl|(simp only [g,bs];done)|simp [g]),trivial⟩,J⟩
  have a6:0≤p∧p.toNat<d.ns.length:=by have h9:=X19 (ns:=d.ns) (k:=p) (by simpa using g);exact ⟨h9.1,h9.2.1⟩
  refine Zv (gW g) (X3 rfl) ?_;refine Zv (gW g) (Xz rfl) ?_;refine Zv (gW g) (Vd rfl Xj 1) ?_;refine Zv (gW g) (X0 rfl X00 (e.at 1)) ?_;refine Zv (gW g) (X3 rfl) ?_;refine Zv (gW g) (Xi (k:=p.toNat) rfl rfl Xs X07 f y (by omega) (by omega)) ?_;refine Zv (gW g) (X15 rfl X06 (m':=p.toNat*2+1) rfl) ?_;refine Zv (gW g) (X0 rfl X9 (X0g f Xv (Xb (d:=nZ) (by omega)) 1 rfl)) ?_;refine Zv (gW g) (X1j rfl rfl) ?_;refine Ze (Xe rfl g rfl)<|Zm rfl ?_
  refine Zg 24 rfl (fun q=>?_) (fun q=>?_)
  ·refine Zp (gP q) ?_;refine Zp (gP q) ?_;refine Zp (gP q) ?_;refine Zp (gP q) ?_;refine Zp (gP q) ?_;refine Zp (gP q) ?_;refine Ze (X7 rfl q rfl) ?_;refine Zn fun a u=>?_
   have J:Below w0.heap.size w0 w1:=B
   exact ⟨u.sub ⟨rfl,rfl,X1 rfl (by first|rfl|(simp only [g,q,bs];done)|simp [g,q]),trivial⟩,J⟩
  refine Zv (gW q) (X3 rfl) ?_;refine Zv (gW q) (Xz rfl) ?_;refine Zv (gW q) (X04 (l:=[vi d.n,.slice A0 H c0,.slice A1 d.ws.length c1,vi d.t,vi d.r]) rfl X2 (e.at 0) rfl) ?_;refine Zv (gW q) (X3 rfl) ?_;refine Zk (gW q) (Vc (X83 _ d H y A0 c0 f.rd.top A1 c1 i.rd.top i.cap p (by omega)) X4q) ?_;rintro _ w2 ⟨rfl,o⟩;have x:=tsbel x o;have B:=btr B o;refine Zv (gW q) (X1j rfl rfl) ?_;refine Ze (Xe rfl q rfl) ?_;refine Zn fun a u=>?_
  have J:Below w0.heap.size w0 w2:=B
  exact ⟨u.sub ⟨rfl,rfl,X1 rfl (by first|rfl|(simp only [g,q,bs];done)|simp [g,q]),trivial⟩,J⟩
 rintro a w3 ⟨u,o⟩;have e:=e.below o;have f:=f.below o;have i:=i.below o;have x:=tsbel x o;refine aQ _ _ ?_
 refine Xg u rfl (fun L=>?_) (fun L=>?_)
 ·have aD:=L;have aR:=Xsw N L;refine Zs u fun _ aS=>?_;refine Za rfl<|Zt aS fun a u=>?_;refine Q6<|X6<|X4 u (Xt u rfl rfl) ?_
  rw [aR,Q3 Bool.false_ne_true]
  exact ⟨A1,c1,rfl,x,aC,⟨e,f,i,y⟩⟩
 have aD:=L;obtain ⟨aT,b3,a6⟩:=Xrt N L
 have aE:=X7n N (k:=p) (j:=0) (by omega)
 have aF:=X7n N (k:=p) (j:=1) (by omega)
 have aG:(id0 d p).ns.length=d.ns.length:=X1v _ _
 refine Q7<|aP _ _<|Zs u fun _ aH=>?_;refine Zm rfl<|Ze (Xz rfl)<|Ze (X04 (l:=[vi d.n,.slice A0 H c0,.slice A1 d.ws.length c1,vi d.t,vi d.r]) rfl X2 (e.at 0) rfl)<|Zm rfl<|Zf (Vc (X9b _ d H y A0 c0 f.rd.top A1 c1 i.rd.top i.cap p N.w (by omega)) X5q) ?_;rintro _ w4 ⟨b4,b5,rfl,b,o⟩;have b:=b.lower x.size;have e:=e.below o;have f:=f.below o;have i:=i.below o;have x:=tsbel x o;refine Za rfl<|ZX aH fun a u _ aI=>?_;refine X05 none (fun _=>false) mixed ?_;intro w5 o;have e:=e.below o;have f:=f.below o;have i:=i.below o;have b:=b.below o;have x:=tsbel x o;refine Yb u<|Yo 0 rfl (fun _=>X3 rfl)<|Yo 1 rfl (fun _=>Xz rfl)<|Ye 2 rfl (X04 (l:=[vi d.n,.slice A0 H c0,.slice A1 d.ws.length c1,vi d.t,vi d.r]) rfl X2 (e.at 0) rfl)<|Yo 3 rfl (fun _=>X3 rfl)<|Yo 4 rfl (fun _=>X3 rfl)<|Yo 5 rfl (fun _=>Xi (k:=0) rfl rfl Xl X08 b rfl rfl (by omega))<|Ye 6 rfl (X0 rfl X9 (X0g b Xf (Xb (k:=0) (d:=(0:Int)) (by omega)) 0 rfl))<|Yo 8 rfl (fun _=>X3 rfl)<|Yo 9 rfl (fun _=>Xz rfl)<|Ye 10 rfl (X04 (l:=[vi d.n,.slice A0 H c0,.slice A1 d.ws.length c1,vi d.t,vi d.r]) rfl X2 (e.at 0) rfl) ?_;refine Yo 11 rfl (fun _=>X3 rfl)<|Yo 12 rfl (fun _=>X3 rfl)<|Yo 13 rfl (fun _=>Xi (k:=1) rfl rfl Xl X08 b rfl rfl (by omega))<|Ye 14 rfl (X0 rfl X9 (X0g b Xf (Xb (k:=1) (d:=(0:Int)) (by omega)) 0 rfl))<|Y1 7 ?_;refine Yk rfl trivial (Vc (X5u _ d H y A0 c0 f.rd.top A1 c1 i.rd.top i.cap p ((nearW d.ws p).getD 0 0) (by omega)) X32) (fun _ _ ⟨_,o⟩=>o) ?_;rintro _ w6 ⟨rfl,o⟩;have e:=e.below o;have f:=f.below o;have i:=i.below o
 have b:=b.below o;have x:=tsbel x o;refine Y1 15<|Yk rfl trivial (Vc (X5u _ d H y A0 c0 f.rd.top A1 c1 i.rd.top i.cap p ((nearW d.ws p).getD 1 0) (by omega)) X32) (fun _ _ ⟨_,o⟩=>o) ?_;rintro _ w7 ⟨rfl,o⟩;have e:=e.below o;have f:=f.below o;have i:=i.below o;have b:=b.below o;have x:=tsbel x o;refine Yo 16 rfl (fun _=>X1j rfl rfl)<|Yo 17 rfl (fun _=>X11 rfl) ?_;refine Yd fun a u=>?_;refine aI _ _<|Zs u fun _ aJ=>?_;refine Zm rfl<|Zm rfl<|Zf (Vc (X9d _ bV B0 A0 c0 A1 c1 H d ⟨e,f,i,y⟩ (Q0 aA x.size) p a6 (by omega)) X5p) ?_;rintro _ w8 ⟨aU,aW,C,D,M,h,I,a7⟩;have b:=b.tu C e rfl (alc (X0n f rfl) (alc (X0n i rfl) al0));have E:=SB.lift (S:=SB bV [A0,A1]) (w0:=w0) (.inl (.inl rfl)) (alc aB (alc aC al0));have D:=Us.trans D E x.size
 have x:=tstr x C E;clear E
 clear C e;have e:=M;clear M
 clear f;have f:=h;clear h;refine ZX aJ fun a u _ aK=>?_;refine X05 none (fun j=>[8].contains j) mixed ?_;intro w9 o;have e:=e.below o;have f:=f.below o;have b:=b.below o;have I:=I.below o;have x:=tsbel x o;refine Yb u<|Yo 0 rfl (fun _=>X3 rfl)<|Yo 1 rfl (fun _=>X3 rfl)<|Yo 2 rfl (fun _=>Xi (k:=0) rfl rfl Xl X08 b rfl rfl (by omega))<|Ye 3 rfl (X0 rfl X9 (X0g b Xf (Xb (k:=0) (d:=(0:Int)) (by omega)) 0 rfl))<|Yo 4 rfl (fun _=>X3 rfl)<|Yo 5 rfl (fun _=>Xi (k:=1) rfl rfl Xl X08 b rfl rfl (by omega))<|Ye 6 rfl (X0 rfl X9 (X0g b Xf (Xb (k:=1) (d:=(0:Int)) (by omega)) 0 rfl))<|Yo 7 rfl (fun _=>X3 rfl)<|Y1 8 ?_;refine Yt rfl trivial rfl (Vc (Xpl _ bV B0 A0 c0 aU aW H (id0 d p) ⟨e,f,I,a7⟩ (Q0 aA x.size) ((nearW d.ws p).getD 0 0) ((nearW d.ws p).getD 1 0) ((tyW d.ws p ((nearW d.ws p).getD 0 0)) != (tyW d.ws p ((nearW d.ws p).getD 1 0))) (List.Pairwise.filter _ N.w.s) (by show (dpW d.ws p).length≤_;omega) ⟨⟨aE.1,by rw [aG];exact aE.2⟩,⟨aF.1,by rw [aG];exact aF.2⟩⟩ (X54 N.p p) (by omega) (Xmz hG a6.1 (Xek (by omega)) (Xek (by omega)))) Xdv) ?_;rintro _ b6 ⟨aX,aY,C,G,M,h,aL,a8⟩;have b:=b.tu C e rfl (alc (X0n f rfl) (alc (X0n I rfl) al0));have E:=SB.lift (S:=SB bV [A0,A1]) (w0:=w0) (.inl (.inl rfl)) (alc aB (alc D al0));have G:=Us.trans G E x.size
 have x:=tstr x C E;clear E
 clear C e;have e:=M;clear M
 clear f;have f:=h;clear h;refine Yd fun a u=>?_;refine aK _ _<|Zs u fun _ aM=>?_;refine Za rfl<|Zt aM fun a u=>?_
 refine Q6 (X4 u (Xt u rfl rfl) ?_)
 rw [aT,Q4 rfl]
 exact ⟨aX,aY,rfl,x,G,⟨e,f,aL,a8⟩⟩
theorem Xly(l:List Wr)(a b:Int)(h:Bool) : jnW l a b h=jnW l b a h:=by unfold jnW;rw [Int.min_comm,Int.max_comm]
theorem Xfo(d:Dg)(a b:Int) : tgD d a b=tgD d b a:=by unfold tgD;rw [Xe3,Xly]
def NoPl(ws:List Wr)(l:List Int) : Prop:=∀ w ∈ ws,∀ u ∈ l,∀ v ∈ l,isW u v w=true→w.h=true
theorem NoPl.ty{ws:List Wr}{l:List Int}(h:NoPl ws l){u v:Int}(hu:u ∈ l)(hv:v ∈ l) : tyW ws u v≠1:=by
 unfold tyW
 split
 ·decide
 ·rename_i h0
  obtain ⟨w,h1,h2,_⟩:=X86 (l:=ws) (a:=u) (b:=v) (by omega)
  have h3:=h w (Qe h1) u hu v hv h2
  rw [show ws.getD (fdW ws u v).toNat wZ=w from by rw [Qa,h1];rfl,h3]
  decide
theorem NoPl.tgI{d:Dg}{l:List Int}(h:NoPl d.ws l){u v:Int}(hu:u ∈ l)(hv:v ∈ l) : tgI d u v=tgD d u v:=by
 unfold Go.Proofs.YtpifljegadknkaaGreat.tgI
 rw [Q3 (h.ty hu hv)]
theorem NoPl.sub{ws ws':List Wr}{l:List Int}(h:NoPl ws l)(hs:∀ w ∈ ws',w ∈ ws) : NoPl ws' l:=fun w hw=>h w (hs w hw)
theorem NoPl.tg{d:Dg}{l:List Int}(h:NoPl d.ws l)(u v:Int) : NoPl (tgD d u v).ws l:=by
 unfold tgD
 split
 ·exact h.sub fun w hw=>(X41 _ _).subset hw
 ·intro w hw
  rcases X8d.1 hw with rfl|hw
  ·intro _ _ _ _ _;rfl
  ·exact h w hw
theorem Xv7{d:Dg}(hw:WSd d.ws)(u v:Int) : WSd (tgD d u v).ws:=by
 unfold tgD
 split
 ·exact Xby hw _
 ·rename_i h
  exact X9p hw (by omega)
theorem Xb5{d:Dg}(hD:InD d){l:List Int}(h:rdyD d l=true) : NoPl d.ws l:=by
 intro w hw u hu v hv hwv
 unfold rdyD at h
 rw [W1] at h
 have key:∀ i j (hi:i<l.length) (hj:j<i),tyW d.ws (l.getD i 0) (l.getD j 0)≠1:=fun i j hi hj=>by
  have h1:=h i (W2.2 hi)
  unfold rdQ at h1
  rw [Qd,W1] at h1
  have h2:=h1.2 (l.getD j 0) (by
   have:(l.take i)[j]? = some (l.getD j 0):=by rw [Wg hj];exact Xb (by omega)
   exact Qe this)
  simpa using h2
 have hiw:=X2e.1 hwv;have hab:=hD.w.l w hw
 have hne:u≠v:=fun e=>by subst e;rw [hiw.1,hiw.2,Int.min_self,Int.max_self] at hab;omega
 obtain ⟨i,hi,rfl⟩:=List.mem_iff_getElem.1 hu;obtain ⟨j,hj,rfl⟩:=List.mem_iff_getElem.1 hv
 have gi:l.getD i 0=l[i]:=by rw [Qa,Qc hi];rfl
 have gj:l.getD j 0=l[j]:=by rw [Qa,Qc hj];rfl
 have hty:tyW d.ws l[i] l[j]≠1:=by
  rcases Nat.lt_trichotomy i j with h9|h9|h9
  ·have:=key j i hj h9
   rw [gi,gj,Xf9] at this
   exact this
  ·subst h9;exact absurd rfl hne
  ·have:=key i j hi h9
   rw [gi,gj] at this
   exact this
 have hfd:0≤fdW d.ws l[i] l[j]:=by
  rcases X49 d.ws l[i] l[j] with ⟨_,h2⟩|⟨k,x,h1,_⟩
  ·rw [h2 w hw] at hwv;cases hwv
  ·omega
 obtain ⟨x,h1,h2,_⟩:=X86 hfd;have hx:=X2e.1 h2
 have e:x=w:=by
  refine Xdn hD.w.s (Qe h1) hw ?_ ?_
  ·rw [X4y];omega
  ·rw [X4y];omega
 subst e
 rw [Xjp hfd,show d.ws.getD (fdW d.ws l[i] l[j]).toNat wZ=x from by rw [Qa,h1];rfl] at hty
 cases hh:x.h with
 | true=>rfl
 | false=>rw [hh] at hty;simp at hty
theorem Xq1(ns:List Nd)(x p:Int) : adN ns x (-p)=adN ns x (8-p):=by
 unfold adN
 congr 2
 omega
theorem Xpf{L:List Int}{x:Int}(hx:x ∈ L) : ∀ (r:List Int) (o:Dg),NoPl o.ws L→(∀ y ∈ r,y ∈ L)→r.foldl (fun o y=>tgI o y x) o=tgL o x r∧NoPl (tgL o x r).ws L
 | [],o,h,_=>⟨rfl,h⟩
 | y::r,o,h,hr=>by
  have hy:=hr y (by simp)
  have e:tgI o y x=tgD o x y:=by rw [h.tgI hy hx,Xfo]
  have ih:=Xpf hx r (tgD o x y) (h.tg x y) fun z hz=>hr z (by simp [hz])
  rw [List.foldl_cons,e]
  exact ih
def lcI(p:Int)(l:List Int)(o:Dg) : Nat→Dg
 | 0=>o
 | i+1=>(l.take i).foldl (fun o y=>tgI o y (l.getD i 0)) { lcI p l o i with ns:=adN (lcI p l o i).ns (l.getD i 0) (-p) }
theorem Xht{p:Int}{l:List Int}{o:Dg}(h:NoPl o.ws l) : ∀ i,i≤l.length→lcI p l o i=lcS p l o i∧NoPl (lcS p l o i).ws l
 | 0,_=>⟨rfl,h⟩
 | i+1,hi=>by
  obtain ⟨h1,h2⟩:=Xht (p:=p) h i (by omega)
  have hx:l.getD i 0 ∈ l:=Qe (Xb (d:=0) (by omega))
  have h3:=Xpf hx (l.take i) { lcS p l o i with ns:=adN (lcS p l o i).ns (l.getD i 0) (8-p) } h2 fun y hy=>Wd hy
  show (l.take i).foldl (fun o y=>tgI o y (l.getD i 0)) { lcI p l o i with ns:=adN (lcI p l o i).ns (l.getD i 0) (-p) }=_∧_
  rw [h1,Xq1]
  exact h3
theorem Xc0(d:Dg)(a:Int)(l:List Int)(hl:l=nearW d.ws a) : (!(l.any fun x=>!(spI d.ns x)||tyW d.ws a x != 2)&&!(prD d l))=(hadD d a&&rdyD d l):=by
 apply Bool.eq_iff_iff.2
 unfold hadD rdyD prD
 rw [← hl]
 simp only [Qd,Bool.not_eq_true',W7,W1,W2]
 constructor
 ·rintro ⟨h1,h2⟩
  refine ⟨fun v hv=>?_,fun i hi=>?_⟩
  ·have:=h1 v hv
   simp only [Bool.or_eq_true,not_or,Bool.not_eq_true',Bool.not_eq_false] at this
   simpa using this.2
  ·have hm:l.getD i 0 ∈ l:=Qe (Xb (d:=0) hi)
   have h3:=h1 _ hm
   simp only [Bool.or_eq_true,not_or,Bool.not_eq_true',Bool.not_eq_false] at h3
   have h4:=h2 i hi
   unfold prQ at h4
   unfold rdQ
   rw [Qd,W1]
   refine ⟨h3.1,fun y hy=>?_⟩
   rw [Bool.not_eq_true,W7] at h4
   have:=h4 y hy
   simpa [bne] using this
 ·rintro ⟨h1,h2⟩
  refine ⟨fun v hv=>?_,fun i hi=>?_⟩
  ·obtain ⟨i,hi,rfl⟩:=List.mem_iff_getElem.1 hv;have h3:=h2 i hi
   unfold rdQ at h3
   rw [Qd] at h3
   have g:l.getD i 0=l[i]:=by rw [Qa,Qc hi];rfl
   rw [g] at h3
   have h4:=h1 _ hv
   rw [h3.1]
   simpa using h4
  ·have h3:=h2 i hi
   unfold rdQ at h3
   rw [Qd,W1] at h3
   unfold prQ
   rw [Bool.not_eq_true,W7]
   intro y hy
   have:=h3.2 y hy
   simpa [bne] using this
theorem Xra{d:Dg}{a:Int}(h:(!(!((nearW d.ws a).any fun x=>!(spI d.ns x)||tyW d.ws a x != 2))||prD d (nearW d.ws a))=true) : lcC d a=false:=by
 have e:=Xc0 d a (nearW d.ws a) rfl
 unfold lcC
 rw [Bool.and_assoc,← e]
 generalize ((nearW d.ws a).any fun x=>!(spI d.ns x)||tyW d.ws a x != 2)=u at h ⊢
 generalize prD d (nearW d.ws a)=v at h ⊢
 cases u<;>cases v<;>simp at h ⊢
theorem Xnk{d:Dg}(hD:InD d){a:Int}(h1:spI d.ns a=true∧((d.ns.getD a.toNat nZ).p=2∨(d.ns.getD a.toNat nZ).p=6))(h:(!(!((nearW d.ws a).any fun x=>!(spI d.ns x)||tyW d.ws a x != 2))||prD d (nearW d.ws a))=false) : lcC d a=true∧NoPl (id0 d a).ws (nearW d.ws a):=by
 have e:=Xc0 d a (nearW d.ws a) rfl
 have h3:(hadD d a&&rdyD d (nearW d.ws a))=true:=by
  rw [← e]
  generalize ((nearW d.ws a).any fun x=>!(spI d.ns x)||tyW d.ws a x != 2)=u at h ⊢
  generalize prD d (nearW d.ws a)=v at h ⊢
  cases u<;>cases v<;>simp at h ⊢
 rw [Qd] at h3
 exact ⟨Xel h1 (by rw [h3.1,h3.2];rfl),(Xb5 hD h3.2).sub fun w hw=>(List.mem_filter.1 hw).1⟩
theorem Xi3{p u:Int}{l:List Int}{o:Dg}{k:Nat}(hu:l[k]? = some u) : lcI p l o (k+1)=(l.take k).foldl (fun o y=>tgI o y u) { lcI p l o k with ns:=adN (lcI p l o k).ns u (-p) }:=by
 have e:l.getD k 0=u:=by rw [Qa,hu];rfl
 show (l.take k).foldl (fun o y=>tgI o y (l.getD k 0)) { lcI p l o k with ns:=adN (lcI p l o k).ns (l.getD k 0) (-p) }=_
 rw [e]
theorem Xak(d:Dg)(a b:Int) : (tgI d a b).ns=d.ns:=by
 unfold tgI
 split
 ·rfl
 ·exact (X2z d a b).1
theorem Xeq(d:Dg)(a b:Int) : (tgI d a b).ws.length≤d.ws.length+1:=by
 unfold tgI
 split
 ·omega
 ·exact (X2z d a b).2
theorem Xiv{d:Dg}(h:WSd d.ws)(a b:Int) : WSd (tgI d a b).ws:=by
 unfold tgI
 split
 ·exact h
 ·exact Xv7 h a b
theorem Xt7(w0:World)(bV B0:Nat)(A0:Option Addr)(c0:Nat)(A1:Option Addr)(c1 m0:Nat)(d:Dg)(bW:Dgm w0 bV B0 A0 c0 A1 c1 m0 d)(aO:B0≤w0.heap.size)(p:Int)(hG:goodD d=true) : Ret Tryz.prog 172 [.pointer (some ⟨bV,0,none⟩),vi p] w0 (fun v w=>∃ A c,v=.bool (lcC d p)∧TurnS (SB bV [A0,A1]) w0 w∧Us (SB bV [A0,A1]) w0 A∧Dgm w bV B0 A0 c0 A c m0 (if lcC d p=true then outD (lcD d p) else d)):=by
 obtain ⟨b,f,B,U⟩:=bW;have cU:=b.lt
 have aP:Us (SB bV [A0,A1]) w0 A0:=SB.us (by simp)
 have aQ:Us (SB bV [A0,A1]) w0 A1:=SB.us (by simp)
 have hD:=X1e hG;have cY:=hD.m;have d5:=hD.len;have bX:=X2f d.ws p;have cV:=X3e hD p;have d6:=X1s hD.p p.toNat;refine enter Tryz.func172 rfl 107 rfl rfl ?_;intro a i
 have C:TurnS (SB bV [A0,A1]) w0 w0:=TurnS.refl _ _
 refine Zs i fun _ bY=>?_;refine Za rfl<|ZX bY fun a i _ c4=>?_;refine Q5 fun _ c5=>?_;refine X0a (fun a w=>Fr a 107 [(0,.pointer (some ⟨bV,0,none⟩)),(1,vi p),(28,.bool ((!(spI d.ns p))||((((d.ns.getD p.toNat nZ).p).tmod 4) != 2)))]∧Below w0.heap.size w0 w) ?_ ?_
 ·have M:=bz w0
  refine Zr i<|Zm rfl<|Ze (Xz rfl)<|Ze (X04 (l:=[vi d.n,.slice A0 m0 c0,.slice A1 d.ws.length c1,vi d.t,vi d.r]) rfl X2 (b.at 0) rfl)<|Zm rfl<|Zf (Vc (X60 _ d m0 U A0 c0 f.rd.top A1 c1 B.rd.top B.cap p (by omega)) X36) ?_;rintro _ w1 ⟨rfl,D⟩;have b:=b.below D;have f:=f.below D;have C:=tsbel C D;have M:=btr M D;refine Ze (X0y rfl)<|Zm rfl ?_
  refine Zg 17 rfl (fun q=>?_) (fun q=>?_)
  ·refine Zp (gP q) ?_;refine Zp (gP q) ?_;refine Zp (gP q) ?_;refine Zp (gP q) ?_;refine Zp (gP q) ?_;refine Zp (gP q) ?_;refine Zp (gP q) ?_;refine Zp (gP q) ?_;refine Zp (gP q) ?_;refine Zp (gP q) ?_;refine Ze (X7 rfl q rfl) ?_;refine Zn fun a i=>?_
   have aC:Below w0.heap.size w0 w1:=M
   exact ⟨i.sub ⟨rfl,rfl,X1 rfl (by first|rfl|(simp only [q,bs];done)|simp [q]),trivial⟩,aC⟩
  have b3:0≤p∧p.toNat<d.ns.length:=by have h9:=X19 (ns:=d.ns) (k:=p) (by simpa using q);exact ⟨h9.1,h9.2.1⟩
  refine Zv (gW q) (X3 rfl) ?_;refine Zv (gW q) (Xz rfl) ?_;refine Zv (gW q) (Vd rfl Xj 1) ?_;refine Zv (gW q) (X0 rfl X00 (b.at 1)) ?_;refine Zv (gW q) (X3 rfl) ?_;refine Zv (gW q) (Xi (k:=p.toNat) rfl rfl Xs X07 f U (by omega) (by omega)) ?_;refine Zv (gW q) (X15 rfl X06 (m':=p.toNat*2+1) rfl) ?_;refine Zv (gW q) (X0 rfl X9 (X0g f Xv (Xb (d:=nZ) (by omega)) 1 rfl)) ?_;refine Zv (gW q) (X4v rfl rfl rfl) ?_;refine Zv (gW q) (X1j rfl rfl) ?_;refine Ze (Xe rfl q rfl) ?_;refine Zn fun a i=>?_
  have aC:Below w0.heap.size w0 w1:=M
  exact ⟨i.sub ⟨rfl,rfl,X1 rfl (by first|rfl|(simp only [q,bs];done)|simp [q]),trivial⟩,aC⟩
 rintro a w2 ⟨i,D⟩;have b:=b.below D;have f:=f.below D;have B:=B.below D;have C:=tsbel C D;refine c5 _ _ ?_
 refine Xg i rfl (fun aJ=>?_) (fun aJ=>?_)
 ·have a6:=aJ;have aR:=Xhz hD aJ;refine Zs i fun _ cA=>?_;refine Za rfl<|Zt cA fun a i=>?_;refine Q6<|X6<|X4 i (Xt i rfl rfl) ?_
  rw [aR,Q3 Bool.false_ne_true]
  exact ⟨A1,c1,rfl,C,aQ,⟨b,f,B,U⟩⟩
 have a6:=aJ;have aK:=Xeb hD aJ
 have b3:0≤p∧p.toNat<d.ns.length:=⟨(X19 aK.1).1,(X19 aK.1).2.1⟩
 refine Q7<|c4 _ _<|Q5 fun _ cB=>?_;refine X05 none (fun _=>false) mixed ?_;intro w3 D;have b:=b.below D;have f:=f.below D;have B:=B.below D;have C:=tsbel C D;refine Yb i<|Yo 0 rfl (fun _=>X3 rfl)<|Yo 1 rfl (fun _=>Xz rfl)<|Ye 2 rfl (X04 (l:=[vi d.n,.slice A0 m0 c0,.slice A1 d.ws.length c1,vi d.t,vi d.r]) rfl X2 (b.at 0) rfl)<|Yo 3 rfl (fun _=>X3 rfl)<|Yo 5 rfl (fun _=>X3 rfl)<|Yo 6 rfl (fun _=>Xz rfl)<|Yo 7 rfl (fun _=>Vd rfl Xj 1)<|Ye 8 rfl (X0 rfl X00 (b.at 1))<|Yo 9 rfl (fun _=>X3 rfl)<|Yo 10 rfl (fun _=>Xi (k:=p.toNat) rfl rfl Xs X07 f U (by omega) (by omega)) ?_;refine Yo 11 rfl (fun _=>X15 rfl X06 (m':=p.toNat*2+1) rfl)<|Ye 12 rfl (X0 rfl X9 (X0g f Xv (Xb (d:=nZ) (by omega)) 1 rfl))<|Y1 4 ?_;refine Yk rfl trivial (Vc (X9b _ d m0 U A0 c0 f.rd.top A1 c1 B.rd.top B.cap p hD.w (by omega)) X5q) (fun _ _ ⟨J,N,_,g,D⟩=>D) ?_;rintro _ w4 ⟨J,N,rfl,g,D⟩;have g:=g.lower C.size;have b:=b.below D;have f:=f.below D;have B:=B.below D;have C:=tsbel C D;refine Yo 13 rfl (fun _=>X11 rfl)<|Yo 14 rfl (fun _=>X11 rfl) ?_;refine Yd fun a i=>?_;refine cB _ _<|Q5 fun _ b4=>?_;refine Q5 fun _ b5=>?_;refine X0a (fun a w=>Fr a 107 [(0,.pointer (some ⟨bV,0,none⟩)),(1,vi p),(5,.slice J (nearW d.ws p).length N),(6,vi ((d.ns.getD p.toNat nZ).p)),(55,.bool ((!(!((nearW d.ws p).any fun x=>!(spI d.ns x)||tyW d.ws p x != 2)))||(prD d (nearW d.ws p))))]∧Below w4.heap.size w4 w) ?_ ?_
 ·have M:Below w4.heap.size w4 w4:=Below.refl _ _
  refine Zr i<|Zm rfl<|Ze (Xz rfl)<|Ze (X04 (l:=[vi d.n,.slice A0 m0 c0,.slice A1 d.ws.length c1,vi d.t,vi d.r]) rfl X2 (b.at 0) rfl)<|Zm rfl<|Zm rfl<|Zf (Vc (Xka _ d m0 U A0 c0 f.rd.top A1 c1 B.rd.top B.cap p J N (nearW d.ws p) g.rd.top (by omega) (by omega) (by omega)) Xag) ?_;rintro _ w5 ⟨rfl,D⟩;have b:=b.below D;have f:=f.below D;have B:=B.below D;have g:=g.below D;have C:=tsbel C D;have M:=btr M D;refine Ze (X0y rfl)<|Zm rfl ?_
  refine Zg 49 rfl (fun h=>?_) (fun h=>?_)
  ·refine Zp (gP h) ?_;refine Zp (gP h) ?_;refine Zp (gP h) ?_;refine Zp (gP h) ?_;refine Zp (gP h) ?_;refine Ze (X7 rfl h rfl) ?_;refine Zn fun a i=>?_
   have aC:Below w4.heap.size w4 w5:=M
   exact ⟨i.sub ⟨rfl,rfl,rfl,rfl,X1 rfl (by first|rfl|(simp only [a6,h,bs];done)|simp [a6,h]),trivial⟩,aC⟩
  refine Zv (gW h) (X3 rfl) ?_;refine Zv (gW h) (Xz rfl) ?_;refine Zv (gW h) (X04 (l:=[vi d.n,.slice A0 m0 c0,.slice A1 d.ws.length c1,vi d.t,vi d.r]) rfl X2 (b.at 0) rfl) ?_;refine Zv (gW h) (X3 rfl) ?_;refine Zk (gW h) (Vc (Xp5 _ d m0 U A0 c0 f.rd.top A1 c1 B.rd.top B.cap J N (nearW d.ws p) g.rd.top (by omega) (by omega) g.cap) Xfr) ?_;rintro _ w6 ⟨rfl,D⟩;have C:=tsbel C D;have M:=btr M D;refine Ze (Xe rfl h rfl) ?_;refine Zn fun a i=>?_
  have aC:Below w4.heap.size w4 w6:=M
  exact ⟨i.sub ⟨rfl,rfl,rfl,rfl,X1 rfl (by first|rfl|(simp only [a6,h,bs];done)|simp [a6,h]),trivial⟩,aC⟩
 rintro a w7 ⟨i,D⟩;have b:=b.below D;have f:=f.below D;have B:=B.below D;have g:=g.below D;have C:=tsbel C D;refine b5 _ _ ?_
 refine Xg i rfl (fun a7=>?_) (fun a7=>?_)
 ·have aS:=a7
  have aR:lcC d p=false:=Xra a7
  refine Zs i fun _ b6=>?_;refine Za rfl<|Zt b6 fun a i=>?_;refine Q6<|X6<|X4 i (Xt i rfl rfl) ?_
  rw [aR,Q3 Bool.false_ne_true]
  exact ⟨A1,c1,rfl,C,aQ,⟨b,f,B,U⟩⟩
 have aS:=a7;obtain ⟨cC,cD⟩:=Xnk hD aK a7;refine Q7<|b4 _ _<|Zs i fun _ b7=>?_;refine Zm rfl<|Zm rfl<|Zf (Vc (X9d _ bV B0 A0 c0 A1 c1 m0 d ⟨b,f,B,U⟩ (Q0 aO C.size) p b3 (by omega)) X5p) ?_;rintro _ w8 ⟨cE,cF,L,aD,a8,I,b8,cG⟩;have g:=g.tu L b rfl (alc (X0n f rfl) (alc (X0n B rfl) al0));have Q:=SB.lift (S:=SB bV [A0,A1]) (w0:=w0) (.inl (.inl rfl)) (alc aP (alc aQ al0));have aD:=Us.trans aD Q C.size
 have C:=tstr C L Q;clear Q
 clear L b;have b:=a8;clear a8
 clear f;have f:=I;clear I;refine ZX b7 fun a i _ b9=>?_;refine Zs i fun _ bA=>?_;refine Zm rfl<|Ze (X0d rfl Xl)<|Zm rfl<|Zt bA fun a i=>?_;refine Q8<|X01 (σ:=Nat×Dg) (fun (s:Nat×Dg) (a:Act) (w:World)=>match s with|(k,o)=>∃ aA aE,Fr a 107 [(0,.pointer (some ⟨bV,0,none⟩)),(5,.slice J (nearW d.ws p).length N),(6,vi ((d.ns.getD p.toNat nZ).p)),(59,.slice J (nearW d.ws p).length N),(60,vi ((nearW d.ws p).length:Int)),(61,vi (k:Int))]∧(k≤(nearW d.ws p).length)∧(o=lcI (d.ns.getD p.toNat nZ).p (nearW d.ws p) (id0 d p) k)∧(m0=o.ns.length)∧(o.ws.length≤d.ws.length+k*1000)∧(PhN o.ns)∧(WSd o.ws)∧Blk w bV 39 [vi o.n,.slice A0 m0 c0,.slice aA o.ws.length aE,vi o.t,vi o.r]∧Own w B0 81 2 encNd A0 c0 o.ns∧Own w w0.heap.size 3 1 encI J N (nearW d.ws p)∧Own w B0 83 3 encWr aA aE o.ws∧Us (SB bV [A0,A1]) w0 aA∧TurnS (SB bV [A0,A1]) w0 w) (fun (s:Nat×Dg)=>match s with|(k,o)=>(nearW d.ws p).length-k) (0,(id0 d p)) ?_ ?_
 ·exact ⟨cE,cF,i.sb,(Qf _),rfl,(U.trans (X1v _ _).symm),(Q0 bX (by omega)),(X54 hD.p p),(List.Pairwise.filter _ hD.w.s),b,f,g,b8,aD,C⟩
 rintro ⟨k,o⟩ a w9 ⟨aA,aE,i,hk,bB,aT,cH,aU,cJ,b,f,g,E,aM,C⟩;refine Zs i fun _ bC=>?_;refine Ze (X0l rfl rfl)<|ZX bC fun a i _ bD=>?_
 refine Xg i rfl (fun G=>?_) (fun G=>?_)
 ·have aW:=G;have G:=Q2 G
  obtain ⟨d7,cW⟩:=X5 (l:=(nearW d.ws p)) (k:=k) (by omega)
  obtain ⟨u9,aX⟩:=X5 (l:=(nearW d.ws p)) (k:=k) (by have:=G;omega)
  have cK:=X6g hD aX;have d8:=X1s aU u9.toNat;refine Q7<|bD _ _<|Q5 fun _ bE=>?_;refine Q8<|Zs i fun _ bF=>?_;refine Zm rfl<|Ze (Xi (k:=k) rfl rfl Xl X08 g rfl rfl (by omega))<|Ze (X0 rfl X9 (X0g g Xf aX 0 rfl))<|Za rfl<|Za rfl<|Zx bF fun a i _ bG=>?_;refine Zm rfl<|Zm rfl<|Zm rfl<|Ze (Vx (Xwy rfl) (IntWalk.i64_in _ ⟨by omega,by omega⟩))<|Zf (Vc (Xbd _ bV B0 A0 c0 aA aE m0 o ⟨b,f,E,aT⟩ (Q0 aO C.size) u9 (-(d.ns.getD p.toNat nZ).p) ⟨cK.1,by omega⟩ aU ⟨by omega,by omega⟩) X6j) ?_;rintro _ cL ⟨cM,cN,L,aF,a8,I,bH,cO⟩;have g:=g.tu L b rfl (alc (X0n f rfl) (alc (X0n E rfl) al0));have Q:=SB.lift (S:=SB bV [A0,A1]) (w0:=w0) (.inl (.inl rfl)) (alc aP (alc aM al0));have aF:=Us.trans aF Q C.size
  have C:=tstr C L Q;clear Q
  clear L b;have b:=a8;clear a8
  clear f;have f:=I;clear I;refine Zx bG fun a i _ bJ=>?_;refine Zm rfl<|Zm rfl ?_;have W:=(g.rd.top).takeK Xf k;refine Ze (X2x (l:=(nearW d.ws p)) (k:=k) rfl rfl Xl X08 rfl hk g.cap)<|Ze (X0d rfl Xl)<|Zm rfl<|Zt bJ fun a i=>?_;refine Q8<|X01 (σ:=Nat×Dg) (fun (s:Nat×Dg) (a:Act) (w:World)=>match s with|(j,z)=>∃ aI aL,Fr a 107 [(0,.pointer (some ⟨bV,0,none⟩)),(5,.slice J (nearW d.ws p).length N),(6,vi ((d.ns.getD p.toNat nZ).p)),(8,vi u9),(59,.slice J (nearW d.ws p).length N),(60,vi ((nearW d.ws p).length:Int)),(61,vi (k:Int)),(73,.slice J ((nearW d.ws p).take k).length N),(74,vi (((nearW d.ws p).take k).length:Int)),(75,vi (j:Int))]∧(j≤((nearW d.ws p).take k).length)∧(z=(((nearW d.ws p).take k).take j).foldl (fun o y=>tgI o y u9) ({ o with ns:=adN o.ns u9 (-(d.ns.getD p.toNat nZ).p) } : Dg))∧(m0=z.ns.length)∧(z.ws.length≤o.ws.length+j)∧(PhN z.ns)∧(WSd z.ws)∧Blk w bV 39 [vi z.n,.slice A0 m0 c0,.slice aI z.ws.length aL,vi z.t,vi z.r]∧Own w B0 81 2 encNd A0 c0 z.ns∧Own w w0.heap.size 3 1 encI J N (nearW d.ws p)∧Rd w cL.heap.size 3 encI J ((nearW d.ws p).take k)∧Own w B0 83 3 encWr aI aL z.ws∧Us (SB bV [A0,A1]) w0 aI∧TurnS (SB bV [A0,A1]) w0 w) (fun (s:Nat×Dg)=>match s with|(j,z)=>((nearW d.ws p).take k).length-j) (0,({ o with ns:=adN o.ns u9 (-(d.ns.getD p.toNat nZ).p) } : Dg)) ?_ ?_
  ·exact ⟨cM,cN,i.sb,(Qf _),rfl,(aT.trans (X21 _ _ _).symm),(Qb _),(X5y aU _ _),cJ,b,f,g,W,bH,aF,C⟩
  rintro ⟨j,z⟩ a d9 ⟨aI,aL,i,hj,hz,aY,cP,bK,aZ,b,f,g,W,aH,aN,C⟩;refine Zs i fun _ bL=>?_;refine Ze (X0l rfl rfl)<|ZX bL fun a i _ bM=>?_
  refine Xg i rfl (fun H=>?_) (fun H=>?_)
  ·have b0:=H;have H:=Q2 H
   obtain ⟨dB,cX⟩:=X5 (l:=((nearW d.ws p).take k)) (k:=j) (by omega)
   obtain ⟨v9,b1⟩:=X5 (l:=(nearW d.ws p).take k) (k:=j) (by have:=H;omega)
   have dC:j<k:=by have:=(Qg.1 b1).1;rw [Qn] at this;omega
   refine Q7<|bM _ _<|Q5 fun _ bN=>?_;refine Q8<|Zs i fun _ bO=>?_;refine Zi (k:=j) (u:=v9) (enc:=encI) (l:=((nearW d.ws p).take k)) trivial rfl rfl Xl X08 Xf W b1 rfl ?_;intro dD b2;refine Ze (X0 rfl X9 b2)<|Za rfl<|Zt bO fun a i=>?_;refine Zr i<|Zm rfl<|Zm rfl<|Zm rfl<|Zf (Vc (Xp6 _ bV B0 A0 c0 aI aL m0 z ⟨b,f,aH,aY⟩ (Q0 aO C.size) v9 u9 aZ (by have:=cP;have:=cH;rw [Qn] at hj;omega)) Xft) ?_;rintro _ dE ⟨cQ,cR,rfl,L,aG,a8,I,bP,cS⟩;have g:=g.tu L b rfl (alc (X0n f rfl) (alc (X0n aH rfl) al0));have W:=W.tu L b rfl (alc (X0n f rfl) (alc (X0n aH rfl) al0));have Q:=SB.lift (S:=SB bV [A0,A1]) (w0:=w0) (.inl (.inl rfl)) (alc aP (alc aN al0));have aG:=Us.trans aG Q C.size
   have C:=tstr C L Q;clear Q
   clear L b;have b:=a8;clear a8
   clear f;have f:=I;clear I;refine Zn fun a i=>?_;refine Xa<|bN _ _<|Zr i<|Ze (Xw rfl rfl (by omega) (by omega))<|Zm rfl ?_;refine Zn fun a i=>?_;refine Xh ?_;exact ⟨(j+1,(tgI z v9 u9)),⟨cQ,cR,i.sb,(by omega),(by rw [X2w b1,← hz]),(by rw [Xak];exact aY),(by have:=Xeq z v9 u9;omega),(by rw [Xak];exact bK),(Xiv aZ v9 u9),b,f,g,W,bP,aG,C⟩,(by first|omega|(dsimp only;omega))⟩
  have b0:=H;have H:=Q1 H
  have dF:j≤k:=by rw [Qn] at hj;omega
  have cT:z=lcI (d.ns.getD p.toNat nZ).p (nearW d.ws p) (id0 d p) (k+1):=by rw [hz,Qi (by have:=H;omega),bB,Xi3 aX]
  refine Q9<|Xk<|Xk<|X03 ?_;refine Xa<|bE _ _<|Zr i<|Ze (Xw rfl rfl (by omega) (by omega))<|Zm rfl ?_;refine Zn fun a i=>?_;refine Xh ?_;exact ⟨(k+1,z),⟨aI,aL,i.sb,(by omega),cT,aY,(by omega),bK,aZ,b,f,g,aH,aN,C⟩,(by first|omega|(dsimp only;omega))⟩
 have aW:=G;have G:=Q1 G
 have bR:o=lcS (d.ns.getD p.toNat nZ).p (nearW d.ws p) (id0 d p) (nearW d.ws p).length:=by rw [bB,show k=(nearW d.ws p).length by have:=G;omega];exact (Xht cD _ (Qb _)).1
 refine Q9<|Xk<|Xk<|X03 ?_;refine b9 _ _<|Q5 fun _ bS=>?_;refine X05 none (fun j=>[12].contains j) mixed ?_;intro dG D;have b:=b.below D;have f:=f.below D;have E:=E.below D;have C:=tsbel C D;refine Yb i<|Yo 0 rfl (fun _=>X3 rfl)<|Yo 1 rfl (fun _=>X3 rfl)<|Yo 2 rfl (fun _=>Xz rfl)<|Yo 3 rfl (fun _=>Vd rfl X0t 3)<|Ye 4 rfl (X0 rfl X9 (b.at 3))<|Yo 5 rfl (fun _=>X0w (ps:=[(2,vi 1),(6,vi 7)]) (cs:=[vi 0,vi 0,vi 1,vi 0,vi 0,vi 0,vi 7]) rfl (fun _=>by first|rfl|kernel_rfl))<|Yo 6 rfl (fun _=>X3 rfl)<|Yo 7 rfl (fun _=>Xuc (k:=(d.ns.getD p.toNat nZ).p.toNat) (vs:=[vi 0,vi 0,vi 1,vi 0,vi 0,vi 0,vi 7]) (v:=vi (if (d.ns.getD p.toNat nZ).p=2 then 1 else 7)) rfl rfl Tryz.underlying211 X08 X9 (by omega) (by rcases aK.2 with e|e<;>rw [e]<;>decide) (by rcases aK.2 with e|e<;>rw [e]<;>rfl))<|Yo 8 rfl (fun _=>X43 rfl rfl)<|Yo 9 rfl (fun _=>X4v rfl rfl rfl) ?_;refine Yo 10 rfl (fun _=>Xz rfl)<|Yo 11 rfl (fun _=>Vd rfl X0t 3)<|Y1 12 ?_;refine Yh rfl trivial rfl (X1a (vs:=[vi ((wr (o.t+(if (d.ns.getD p.toNat nZ).p=2 then 1 else 7))).tmod 8)]) (l':=[vi o.n,.slice A0 m0 c0,.slice aA o.ws.length aE,vi ((wr (o.t+(if (d.ns.getD p.toNat nZ).p=2 then 1 else 7))).tmod 8),vi o.r]) rfl rfl X08 b rfl rfl rfl rfl rfl) ?_;rintro _ dH ⟨ho,hb⟩;have aB:=b;have f:=f.onlyT ho aB rfl;have E:=E.onlyT ho aB rfl;have C:=tsonly C ho (.inl (.inl rfl));have b:=hb;refine Yd fun a i=>?_;refine bS _ _<|Zs i fun _ bT=>?_;refine Zm rfl<|Ze (Xz rfl)<|Ze (Vd rfl X02 4)<|Ze (X0 rfl X9 (b.at 4))<|Zm rfl<|Ze (X0d rfl Xl)<|Ze (X1g rfl rfl (by omega) (by omega))<|Ze (X43 rfl rfl)<|Ze (Xz rfl)<|Ze (Vd rfl X02 4) ?_
 refine Zo (X1a (vs:=[vi (wr (o.r+(1-((nearW d.ws p).length:Int))))]) (l':=[vi o.n,.slice A0 m0 c0,.slice aA o.ws.length aE,vi ((wr (o.t+(if (d.ns.getD p.toNat nZ).p=2 then 1 else 7))).tmod 8),vi (wr (o.r+(1-((nearW d.ws p).length:Int))))]) rfl rfl X08 b rfl rfl rfl rfl rfl) ?_;rintro _ dI ⟨ho,hb⟩;have aB:=b;have f:=f.onlyT ho aB rfl;have E:=E.onlyT ho aB rfl;have C:=tsonly C ho (.inl (.inl rfl));have b:=hb;refine Zx bT fun a i _ bU=>?_;refine Za rfl<|Zt bU fun a i=>?_
 refine Q6 (X4 i (Xt i rfl rfl) ?_)
 rw [cC,Q4 rfl,Xhi bR]
 exact ⟨aA,aE,rfl,C,aM,⟨b,f,E,aT⟩⟩
theorem Xu3(w0:World)(x k:Int)(ba:Nat)(a6:Blk w0 ba 3 [vi k]) : Ret Tryz.prog 230 [vi x,.pointer (some ⟨ba,0,none⟩)] w0 (fun v w=>v=.bool (x==k)∧Below w0.heap.size w0 w):=by
 have a7:=a6.lt;refine enter Tryz.func230 rfl 7 rfl rfl ?_;intro a hf
 have hW:=bz w0
 refine Zs hf fun _ a8=>?_;refine Za rfl<|Zx a8 fun a hf _ aA=>?_;refine Zm rfl<|Ze (X0 rfl X9 (a6.at 0))<|Ze (X0b rfl rfl)<|Za rfl<|Zt aA fun a hf=>?_
 refine Q6 (X4 hf (Xt hf rfl rfl) ?_)
 exact ⟨rfl,hW⟩
theorem Xob(g:World)(Al:Option Addr)(cl:Nat)(l:List Int)(i:Rd g g.heap.size 3 encI Al l)(k:Int)(a6:l.length≤1000000000) : Ret Tryz.prog 205 [.slice Al l.length cl,vi k] g (fun v w=>∃ A c,v=.slice A (l.filter fun v=>v != k).length c∧Own w g.heap.size 3 1 encI A c (l.filter fun v=>v != k)∧Below g.heap.size g w):=by
 refine enter Tryz.func205 rfl 9 rfl rfl ?_;intro a hf
 have d:=bz g
 refine Zs hf fun _ aA=>?_;refine Zf (X0c (zs:=[vi k]) rfl rfl) ?_;rintro _ w1 ⟨b3,rfl,a7,hE,e⟩;have aD:=Q0 d.size a7;have a8:=(i.below' d).away a7;have d:=btr d hE;refine Za rfl<|Zx aA fun a hf _ aB=>?_;refine Zm rfl<|Zf (Vc (Xwv _ Al cl l (i.below' d).top a6) Xsd) ?_;rintro _ w2 ⟨A6,c6,rfl,b,hE⟩;have f:=b.awayNew e.lt;have b:=b.lower d.size;have e:=e.below hE;have d:=btr d hE;refine Ze (X3j (vs:=[.pointer (some ⟨b3,0,none⟩)]) rfl)<|Zf (Vc (Xum _ A6 c6 g.heap.size l b d.size 230 [.pointer (some ⟨b3,0,none⟩)] Xkr (fun v=>v==k) (fun x w' aC=>Xu3 w' x k _ (e.appA aC f)) a6) Xmp) ?_;rintro _ w3 ⟨rfl,j,hg⟩;have m:=b;have d:=Below.app d m hg (Qb _) d.size
 clear m hg;clear b;have b:=j;clear j;refine Za rfl<|Zt aB fun a hf=>?_
 refine Q6 (X4 hf (Xt hf rfl rfl) ?_)
 exact ⟨A6,c6,rfl,b,d⟩
def Off(w:World)(b:Nat)(l:List (Option Addr))(A:Option Addr) : Prop:=∀ k,ownB A=some k→k<w.heap.size∧¬ SB b l k
section
variable {α : Type} {w w' : World} {b B : Nat} {l l' : List (Option Addr)} {A : Option Addr} {E : TypeId} {sz c : Nat} {enc : α → List Value} {r : List α}
theorem X8f(h:Own w B E sz enc A c r){k:Nat}(hk:ownB A=some k) : k<w.heap.size:=by
 obtain ⟨_,_,_,_,h3⟩:=h.block (k:=k) (by rw [X4j];exact hk)
 exact (Qp.1 h3).1
theorem Off.mono(h:Off w b l A)(hs:w.heap.size≤w'.heap.size) : Off w' b l A:=fun k hk=>⟨Nat.lt_of_lt_of_le (h k hk).1 hs,(h k hk).2⟩
theorem Off.new{B':Nat}(h:Own w' B' E sz enc A c r)(hB:w.heap.size≤B')(hb:b<w.heap.size)(hl:∀ A' ∈ l,∀ k,ownB A'=some k→k<w.heap.size) : Off w' b l A:=fun k hk=>⟨X8f h hk,fun hs=>by
 have h9:=X1t h hk
 rcases hs with rfl|⟨A',h1,h2⟩
 ·omega
 ·have:=hl A' h1 k h2;omega⟩
theorem Own.off(h:Own w B E sz enc A c r)(hts:TurnS (SB b l) w w')(ho:Off w b l A) : Own w' B E sz enc A c r:=by
 refine ⟨h.1,?_⟩
 rcases h.2 with h2|⟨g,cap,cur,e1,e2,e3,e4⟩
 ·exact .inl h2
 ·refine .inr ⟨g,cap,cur,e1,e2,?_,e4⟩
  have hA:ownB A=some g:=by injection e1 with e1;subst e1;rfl
  have:=ho g hA
  rw [hts.block g this.1 this.2]
  exact e3
theorem Rd.off(h:Rd w B E enc A r)(hts:TurnS (SB b l) w w')(ho:Off w b l A) : Rd w' B E enc A r:=fun hl=>by
 obtain ⟨g,off,cs,fz,e1,e2,e3,e4⟩:=h hl
 refine ⟨g,off,cs,fz,e1,e2,?_,e4⟩
 subst e1
 have:=ho g rfl
 rw [hts.block g this.1 this.2]
 exact e3
theorem Off.tu(ho:Off w b l A)(hts:TurnS (SB b l) w w')(hl:∀ A' ∈ l',Us (SB b l) w A') : Off w' b l' A:=fun k hk=>⟨Nat.lt_of_lt_of_le (ho k hk).1 hts.size,fun hs=>by
 rcases hs with rfl|⟨A',h1,h2⟩
 ·exact (ho _ hk).2 (.inl rfl)
 ·rcases hl A' h1 k h2 with h3|h3
  ·exact (ho k hk).2 h3
  ·have:=(ho k hk).1;omega⟩
end
theorem Blk.tuN{w w':World}{b b2:Nat}{l:List (Option Addr)}{T2:TypeId}{cs:List Value}(h:Blk w b2 T2 cs)(hts:TurnS (SB b l) w w')(hne:b2≠b)(hr:∀ A ∈ l,ownB A≠some b2) : Blk w' b2 T2 cs:=by
 refine (hts.block b2 h.lt fun hk=>?_).trans h
 rcases hk with e|⟨A,hA,hk⟩
 ·exact hne e
 ·exact hr A hA hk
theorem Xth(o:Dg)(a v:Int)(h:Bool)(u:Int) : spI (mtD o a v h).ns u=spI o.ns u:=by
 unfold mtD lkD
 split
 ·split
  ·rfl
  ·split
   ·rfl
   ·split
    ·exact Xop _ _ _
    ·rfl
 ·rfl
theorem Xw2{o:Dg}{a v:Int}{h:Bool}{w:Wr}(hw:w ∈ (mtD o a v h).ws) : w ∈ o.ws∨(w.a=min a v∧w.b=max a v):=by
 unfold mtD lkD at hw
 split at hw
 ·split at hw
  ·rcases X8d.1 hw with rfl|hw
   ·exact .inr ⟨rfl,rfl⟩
   ·exact .inl hw
  ·split at hw
   ·exact .inl ((X41 _ _).subset hw)
   ·split at hw
    ·rcases X8d.1 hw with rfl|hw
     ·exact .inr ⟨rfl,rfl⟩
     ·exact .inl ((X41 _ _).subset hw)
    ·exact .inl hw
 ·rcases X8d.1 hw with rfl|hw
  ·exact .inr ⟨rfl,rfl⟩
  ·exact .inl hw
theorem Xx0{o:Dg}{a v:Int}{h:Bool}(hs:WSd o.ws)(hab:(spI o.ns a&&spI o.ns v)=false→fdW o.ws a v<0) : WSd (mtD o a v h).ws:=by
 unfold mtD lkD
 split
 ·split
  ·rename_i h1;exact X9p hs h1
  ·rename_i h1
   obtain ⟨w,h2,h3,_⟩:=X86 (l:=o.ws) (a:=a) (b:=v) (by omega)
   split
   ·exact Xby hs _
   ·split
    ·exact X9p (Xby hs _) (by rw [Xex hs h2 h3];omega)
    ·exact hs
 ·rename_i h1
  exact X9p hs (hab (by simpa using h1))
structure FuI (d:Dg) (a b:Int) (k:Nat) (o:Dg) : Prop where
 s:WSd o.ws
 p:PhN o.ns
 l:o.ns.length=d.ns.length
 c:o.ws.length≤d.ws.length+k
 sp:∀ v,spI o.ns v=spI (dpN d.ns b) v
 bd:∀ j v,k≤j→(nearW d.ws b)[j]? = some v→spI d.ns v=false→∀ w ∈ o.ws,w.a≠v∧w.b≠v
theorem Xdg{d:Dg}{a b:Int}(h:fuC d a b=true) : spI d.ns a=true∧spI d.ns b=true∧a<b:=by
 unfold fuC at h
 simp only [Qd,Qr] at h
 exact ⟨h.1.1.1,h.1.1.2,h.1.2⟩
theorem FuI.init{d:Dg}(hG:goodD d=true){a b:Int} : FuI d a b 0 (fu0 d a b):=by
 have hD:=X1e hG
 refine ⟨List.Pairwise.filter _ hD.w.s,Xhc hD a b,(X6h d a b).1,(X6h d a b).2,fun v=>Xop _ _ _,fun j v _ hv hs=>?_⟩
 exact Xdi hG (Qe hv) hs
theorem FuI.hab{d o:Dg}{a b v:Int}{k:Nat}(h:FuI d a b k o)(hD:InD d)(hc:fuC d a b=true)(hv:(nearW d.ws b)[k]? = some v)(hs:(spI o.ns a&&spI o.ns v)=false) : fdW o.ws a v<0:=by
 have h1:=Xdg hc;have h2:=Xbx hc;have hvm:=Qe hv;have hvr:=X34 hD hvm
 rw [h.sp,h.sp,Xeg h2.1.1 h2.2.1 (by omega),Xeg hvr.1 h2.2.1 (X9w hD hvm),h1.1,Qw] at hs
 exact X9z (.inr (h.bd k v (Qb _) hv hs))
theorem Xpz{l:List Int}(h:Inc l){i j:Nat}{x y:Int}(hi:l[i]? = some x)(hj:l[j]? = some y)(hij:i<j) : x<y:=by
 obtain ⟨h1,rfl⟩:=Qg.1 hi;obtain ⟨h2,rfl⟩:=Qg.1 hj;exact W0.1 h i j h1 h2 hij
theorem FuI.step{d o:Dg}{a b v:Int}{k:Nat}{x:Bool}(h:FuI d a b k o)(hD:InD d)(hc:fuC d a b=true)(hv:(nearW d.ws b)[k]? = some v) : FuI d a b (k+1) (mtD o a v x):=by
 have hl:=X67 o a v x
 refine ⟨Xx0 h.s (h.hab hD hc hv),Xjk h.p _ _ _,hl.1.trans h.l,by have:=h.c;omega,fun u=>(Xth o a v x u).trans (h.sp u),fun j u hj hu hs w hw=>?_⟩
 rcases Xw2 hw with hw|⟨e1,e2⟩
 ·exact h.bd j u (by omega) hu hs w hw
 ·have hlt:=Xpz (X3p (k:=b) hD.w) hv hu (by omega)
  have hua:u≠a:=fun e=>by rw [e,(Xdg hc).1] at hs;cases hs
  omega
theorem FuI.skip{d o:Dg}{a b:Int}{k:Nat}(h:FuI d a b k o) : FuI d a b (k+1) o:=⟨h.s,h.p,h.l,by have:=h.c;omega,h.sp,fun j u hj=>h.bd j u (by omega)⟩
theorem Xk4{d:Dg}(h:0≤d.t∧d.t≤7) : outD d=d:=by
 unfold outD
 rw [Int.tmod_eq_emod_of_nonneg h.1,Int.emod_eq_of_lt h.1 (by omega)]
theorem Xoe(o:Dg)(a v:Int)(h:Bool) : (mtD o a v h).t=o.t:=by
 unfold mtD lkD
 split
 ·split
  ·rfl
  ·split
   ·rfl
   ·split<;>rfl
 ·rfl
theorem Xo2{d:Dg}{a b:Int} : ∀ (l:List Int) (o:Dg),(fuS d a b l o).t=o.t
 | [],_=>rfl
 | v::l,o=>by
  show (fuS d a b l (fuT d a b o v)).t=o.t
  rw [Xo2 l]
  unfold fuT
  split
  ·rfl
  ·exact Xoe _ _ _ _
theorem Xqg{d:Dg}{a b:Int}(h:(decide (a<0)||decide (b≤a)||!(spI d.ns a)||!(spI d.ns b)||tyW d.ws a b != 1)=true) : fuC d a b=false:=by
 cases hc:fuC d a b with
 | false=>rfl
 | true=>
  have h1:=Xdg hc;have h2:=Xbx hc
  unfold fuC at hc
  simp only [Qd,beq_iff_eq] at hc
  simp [h1.1,h1.2.1,hc.2] at h
  omega
theorem Xm7{d:Dg}{a b:Int}(h:(decide (a<0)||decide (b≤a)||!(spI d.ns a)||!(spI d.ns b)||tyW d.ws a b != 1)=false) : fuC d a b=true:=by
 unfold fuC
 simp only [Bool.or_eq_false_iff,Bool.not_eq_false',decide_eq_false_iff_not,bne_eq_false_iff_eq] at h
 rw [h.1.1.2,h.1.2,h.2,decide_eq_true (by omega)]
 rfl
theorem Xnt{d:Dg}(h:InD d)(a b:Int) : Inc (othW d.ws a b):=List.Pairwise.filter _ (X3p h.w)
theorem Xqb{d:Dg}(h:InD d)(a b:Int) : unionI (othW d.ws a b) (othW d.ws b a)=pvL d a b:=
 X9y _ _ (Xgo _ _) (Xbe _ _ (Xnt h a b)) fun x=>by
  rw [Xge]
  exact (X6s _ _ _).symm
theorem Xfp{ns:List Nd}{x f e:Int}(hx:x.toNat<ns.length) : adN (adN ns x f) x e=adN ns x (f+e):=by
 have h:(adN ns x f).getD x.toNat nZ=⟨(ns.getD x.toNat nZ).k,((ns.getD x.toNat nZ).p+f) % 8⟩:=by
  unfold adN
  rw [Qa,List.getElem?_set_self hx]
  rfl
 unfold adN at h ⊢
 rw [h,List.set_set]
 congr 2
 dsimp only
 omega
theorem Xwp{ns:List Nd}(hp:PhN ns){x m:Int}(hm:m % 8=0) : adN ns x m=ns:=by
 by_cases hx:x.toNat<ns.length
 ·have h:=X1s hp x.toNat
  unfold adN
  rw [show ((ns.getD x.toNat nZ).p+m) % 8=(ns.getD x.toNat nZ).p by omega]
  apply List.ext_getElem?
  intro i
  rw [List.getElem?_set]
  split
  ·rename_i h1
   subst h1
   rw [Qa,Qc hx]
   simp
  ·rfl
 ·unfold adN
  rw [List.set_eq_of_length_le (by omega)]
theorem Xas{ns:List Nd}{x m m':Int}(h:m % 8=m' % 8) : adN ns x m=adN ns x m':=by
 unfold adN
 congr 2
 omega
theorem X7i(l:List Int)(x:Int) : (l.any fun y=>x==y)=l.any fun v=>v==x:=by congr 1;funext y;exact Bool.beq_comm
def pvG(e f:Int)(p q:Bool) : Int:=(f*(if p=true then 1 else 0)+e*(if q=true then 1 else 0)+4*(if (p&&q)=true then 1 else 0)).tmod 8
theorem Xsb{e f:Int}(he:e=0∨e=4)(hf:f=0∨f=4)(p q:Bool) : 0≤pvG e f p q∧pvG e f p q≤7∧(0≤f*(if p=true then 1 else 0)∧f*(if p=true then 1 else 0)≤4)∧(0≤e*(if q=true then 1 else 0)∧e*(if q=true then 1 else 0)≤4)∧(0≤4*(if (p&&q)=true then 1 else 0:Int)∧4*(if (p&&q)=true then 1 else 0:Int)≤4):=by
 rcases he with rfl|rfl<;>rcases hf with rfl|rfl<;>cases p<;>cases q<;>decide
theorem Xiz(c:Bool)(o:Dg)(x m:Int) : stN c o x m = { o with ns:=if c=true then adN o.ns x m else o.ns }:=by
 unfold stN
 split<;>rfl
theorem Xql{e f:Int}{l m:List Int}{x:Int}{o:Dg}(hp:PhN o.ns)(hx:x.toNat<o.ns.length)(he:e=0∨e=4)(hf:f=0∨f=4) : pv3 e f l m x o = { o with ns:=adN o.ns x (pvG e f (l.any fun v=>v==x) (m.any fun v=>v==x)) }:=by
 unfold pv3
 generalize (l.any fun v=>v==x)=p
 generalize (m.any fun v=>v==x)=q
 rw [Xiz,Xiz,Xiz]
 dsimp only
 congr 1
 cases p<;>cases q<;>simp only [Bool.and_true,Bool.and_false,Qw,if_true,Bool.false_eq_true,if_false]
 ·rcases he with rfl|rfl<;>rcases hf with rfl|rfl<;>exact (Xwp hp (by decide)).symm
 ·rcases he with rfl|rfl<;>rcases hf with rfl|rfl<;>exact Xas (by decide)
 ·rcases he with rfl|rfl<;>rcases hf with rfl|rfl<;>exact Xas (by decide)
 ·rw [Xfp (by rw [X21];exact hx),Xfp hx]
  rcases he with rfl|rfl<;>rcases hf with rfl|rfl<;>exact Xas (by decide)
def pvJ(l m:List Int)(x:Int)(o:Dg)(y:Int) : Dg:=if (((l.any fun v=>v==x)&&(m.any fun v=>v==y)) != ((m.any fun v=>v==x)&&(l.any fun v=>v==y)))=true then tgI o y x else o
theorem Xu4{l m:List Int}{x y:Int}{o:Dg}(h:(((l.any fun v=>v==x)&&(m.any fun v=>v==y)) != ((m.any fun v=>v==x)&&(l.any fun v=>v==y)))=true) : pvJ l m x o y=tgI o y x:=Q4 h
theorem Xwl{l m:List Int}{x y:Int}{o:Dg}(h:(((l.any fun v=>v==x)&&(m.any fun v=>v==y)) != ((m.any fun v=>v==x)&&(l.any fun v=>v==y)))=false) : pvJ l m x o y=o:=Q3 (by rw [h];decide)
def pvI(e f:Int)(l m r:List Int)(o:Dg) : Nat→Dg
 | 0=>o
 | i+1=>(r.take i).foldl (pvJ l m (r.getD i 0)) { pvI e f l m r o i with ns:=adN (pvI e f l m r o i).ns (r.getD i 0) (pvG e f (l.any fun v=>v==r.getD i 0) (m.any fun v=>v==r.getD i 0)) }
theorem Xc9{e f u:Int}{l m r:List Int}{o:Dg}{k:Nat}(hu:r[k]? = some u) : pvI e f l m r o (k+1)=(r.take k).foldl (pvJ l m u) { pvI e f l m r o k with ns:=adN (pvI e f l m r o k).ns u (pvG e f (l.any fun v=>v==u) (m.any fun v=>v==u)) }:=by
 have h:r.getD k 0=u:=by rw [Qa,hu];rfl
 show (r.take k).foldl (pvJ l m (r.getD k 0)) { pvI e f l m r o k with ns:=adN (pvI e f l m r o k).ns (r.getD k 0) (pvG e f (l.any fun v=>v==r.getD k 0) (m.any fun v=>v==r.getD k 0)) }=_
 rw [h]
theorem Xpm{L l m:List Int}{x:Int}(hx:x ∈ L) : ∀ (r:List Int) (o:Dg),NoPl o.ws L→(∀ y ∈ r,y ∈ L)→r.foldl (pvJ l m x) o=pvF l m x r o∧NoPl (pvF l m x r o).ws L∧(pvF l m x r o).ns=o.ns∧(pvF l m x r o).t=o.t
 | [],o,h,_=>⟨rfl,h,rfl,rfl⟩
 | y::r,o,h,hr=>by
  have hy:=hr y (by simp)
  have key:pvJ l m x o y=pvT l m x o y∧NoPl (pvT l m x o y).ws L∧(pvT l m x o y).ns=o.ns∧(pvT l m x o y).t=o.t:=by
   unfold pvJ pvT
   split
   ·rw [h.tgI hy hx,Xfo]
    exact ⟨rfl,h.tg x y,(X2z o x y).1,by unfold tgD;split<;>rfl⟩
   ·exact ⟨rfl,h,rfl,rfl⟩
  have ih:=Xpm (l:=l) (m:=m) hx r (pvT l m x o y) key.2.1 fun z hz=>hr z (by simp [hz])
  rw [List.foldl_cons,key.1]
  exact ⟨ih.1,ih.2.1,ih.2.2.1.trans key.2.2.1,ih.2.2.2.trans key.2.2.2⟩
theorem Xi8{e f:Int}{l m r:List Int}{o:Dg}(h:NoPl o.ws r)(hp:PhN o.ns)(hr:∀ v ∈ r,v.toNat<o.ns.length)(he:e=0∨e=4)(hf:f=0∨f=4) : ∀ i,i≤r.length→pvI e f l m r o i=pvM e f l m r o i∧NoPl (pvM e f l m r o i).ws r∧PhN (pvM e f l m r o i).ns∧(pvM e f l m r o i).ns.length=o.ns.length∧(pvM e f l m r o i).t=o.t
 | 0,_=>⟨rfl,h,hp,rfl,rfl⟩
 | i+1,hi=>by
  obtain ⟨h1,h2,h3,h4,h5⟩:=Xi8 (l:=l) (m:=m) h hp hr he hf i (by omega)
  have hu:r[i]? = some (r.getD i 0):=Xb (d:=0) (by omega)
  have hx:r.getD i 0 ∈ r:=Qe hu
  have h6:=Xql (l:=l) (m:=m) (x:=r.getD i 0) h3 (by rw [h4];exact hr _ hx) he hf
  have h7:=Xpm (l:=l) (m:=m) hx (r.take i) (pv3 e f l m (r.getD i 0) (pvM e f l m r o i)) (by rw [h6];exact h2) fun y hy=>Wd hy
  rw [Xc9 hu,Xcn hu,h1,← h6]
  refine ⟨h7.1,h7.2.1,?_,?_,?_⟩
  ·rw [h7.2.2.1,h6];exact X5y h3 _ _
  ·rw [h7.2.2.1,h6];exact (X21 _ _ _).trans h4
  ·rw [h7.2.2.2,h6];exact h5
theorem Xgv(d:Dg)(l:List Int) : rdyD d l=true↔(∀ v ∈ l,spI d.ns v=true)∧prD d l=false:=by
 unfold rdyD prD
 rw [W1,W7]
 constructor
 ·intro h
  refine ⟨fun v hv=>?_,fun i hi=>?_⟩
  ·obtain ⟨i,hi,rfl⟩:=List.mem_iff_getElem.1 hv;have h3:=h i (W2.2 hi)
   unfold rdQ at h3
   rw [Qd] at h3
   have g:l.getD i 0=l[i]:=by rw [Qa,Qc hi];rfl
   rw [g] at h3
   exact h3.1
  ·have h3:=h i hi
   unfold rdQ at h3
   rw [Qd,W1] at h3
   unfold prQ
   rw [Bool.not_eq_true,W7]
   intro y hy
   have:=h3.2 y hy
   simpa [bne] using this
 ·rintro ⟨h1,h2⟩ i hi
  have hm:l.getD i 0 ∈ l:=Qe (Xb (d:=0) (W2.1 hi))
  have h4:=h2 i hi
  unfold prQ at h4
  unfold rdQ
  rw [Qd,W1]
  refine ⟨h1 _ hm,fun y hy=>?_⟩
  rw [Bool.not_eq_true,W7] at h4
  have:=h4 y hy
  simpa [bne] using this
theorem Xmy{d:Dg}{a:Int} : hadD d a=true↔∀ v ∈ nearW d.ws a,tyW d.ws a v=2:=by
 unfold hadD
 rw [W1]
 exact ⟨fun h v hv=>by simpa using h v hv,fun h v hv=>by simpa using h v hv⟩
theorem Xm4{d:Dg}{a:Int}{l:List Int} : (l.any fun x=>!(spI d.ns x)||tyW d.ws a x != 2)=false↔(∀ v ∈ l,spI d.ns v=true)∧∀ v ∈ l,tyW d.ws a v=2:=by
 rw [W7]
 constructor
 ·intro h
  refine ⟨fun v hv=>?_,fun v hv=>?_⟩
  ·have:=h v hv
   simp only [Bool.or_eq_true,not_or,Bool.not_eq_true',Bool.not_eq_false] at this
   exact this.1
  ·have:=h v hv
   simp only [Bool.or_eq_true,not_or,Bool.not_eq_true',Bool.not_eq_false] at this
   simpa using this.2
 ·rintro ⟨h1,h2⟩ v hv
  rw [h1 v hv,h2 v hv]
  decide
theorem Xck(d:Dg)(a b:Int)(h:tyW d.ws a b=2) : (!((othW d.ws a b).any fun x=>!(spI d.ns x)||tyW d.ws a x != 2)&&!((othW d.ws b a).any fun x=>!(spI d.ns x)||tyW d.ws b x != 2)&&!(prD d (pvL d a b)))=(hadD d a&&hadD d b&&rdyD d (pvL d a b)):=by
 have hm:∀ v,v ∈ pvL d a b↔v ∈ othW d.ws a b∨v ∈ othW d.ws b a:=fun v=>X6s _ _ _
 have ho:∀ x c v,v ∈ othW d.ws x c↔v ∈ nearW d.ws x∧v≠c:=fun x c v=>by unfold othW;rw [List.mem_filter];simp
 apply Bool.eq_iff_iff.2
 simp only [Qd,Bool.not_eq_true',Xm4,Xgv,Xmy]
 constructor
 ·rintro ⟨⟨⟨h1,h2⟩,h3,h4⟩,h5⟩
  refine ⟨⟨fun v hv=>?_,fun v hv=>?_⟩,fun v hv=>?_,h5⟩
  ·by_cases e:v=b
   ·rw [e];exact h
   ·exact h2 v ((ho _ _ _).2 ⟨hv,e⟩)
  ·by_cases e:v=a
   ·rw [e,Xf9];exact h
   ·exact h4 v ((ho _ _ _).2 ⟨hv,e⟩)
  ·rcases (hm v).1 hv with h9|h9
   ·exact h1 v h9
   ·exact h3 v h9
 ·rintro ⟨⟨h1,h2⟩,h3,h5⟩;exact ⟨⟨⟨fun v hv=>h3 v ((hm v).2 (.inl hv)),fun v hv=>h1 v ((ho _ _ _).1 hv).1⟩,fun v hv=>h3 v ((hm v).2 (.inr hv)),fun v hv=>h2 v ((ho _ _ _).1 hv).1⟩,h5⟩
theorem Xkh{d:Dg}(hd:InD d){a b:Int}(h:(decide (a<0)||decide (b≤a)||!(spI d.ns a)||!(spI d.ns b)||(tyW d.ws a b != 2)||((d.ns.getD a.toNat nZ).p.tmod 4 != 0)||((d.ns.getD b.toNat nZ).p.tmod 4 != 0))=true) : pvC d a b=false:=by
 cases hs:spI d.ns a
 ·unfold pvC;rw [hs];rfl
 refine Xjf hd ?_;have h0:=X19 hs
 rw [hs] at h ⊢
 rw [show decide (a<0)=false from decide_eq_false (by omega)] at h
 revert h
 generalize decide (b≤a)=x1
 generalize spI d.ns b=x2
 generalize (tyW d.ws a b != 2)=x3
 generalize ((d.ns.getD a.toNat nZ).p.tmod 4 != 0)=x4
 generalize ((d.ns.getD b.toNat nZ).p.tmod 4 != 0)=x5
 revert x1 x2 x3 x4 x5
 decide
theorem Xjd{d:Dg}(hd:InD d){a b:Int}(h:(decide (a<0)||decide (b≤a)||!(spI d.ns a)||!(spI d.ns b)||(tyW d.ws a b != 2)||((d.ns.getD a.toNat nZ).p.tmod 4 != 0)||((d.ns.getD b.toNat nZ).p.tmod 4 != 0))=false) : (0≤a∧a.toNat<d.ns.length)∧(0≤b∧b.toNat<d.ns.length)∧(((d.ns.getD a.toNat nZ).p=0∨(d.ns.getD a.toNat nZ).p=4)∧((d.ns.getD b.toNat nZ).p=0∨(d.ns.getD b.toNat nZ).p=4))∧(spI d.ns a&&spI d.ns b&&decide (a<b)&&(d.ns.getD a.toNat nZ).p % 4==0&&(d.ns.getD b.toNat nZ).p % 4==0&&tyW d.ws a b==2)=true∧tyW d.ws a b=2∧a<b:=by
 have h2:(!(spI d.ns a)||!(spI d.ns b)||decide (b≤a)||((d.ns.getD a.toNat nZ).p.tmod 4 != 0)||((d.ns.getD b.toNat nZ).p.tmod 4 != 0)||(tyW d.ws a b != 2))=false:=by
  revert h
  generalize decide (a<0)=x0
  generalize spI d.ns a=x6
  generalize decide (b≤a)=x1
  generalize spI d.ns b=x2
  generalize (tyW d.ws a b != 2)=x3
  generalize ((d.ns.getD a.toNat nZ).p.tmod 4 != 0)=x4
  generalize ((d.ns.getD b.toNat nZ).p.tmod 4 != 0)=x5
  revert x0 x6 x1 x2 x3 x4 x5
  decide
 have h3:=Xet hd h2
 refine ⟨h3.1,h3.2.1,h3.2.2.1,h3.2.2.2,?_,?_⟩
 ·simp only [Bool.or_eq_false_iff,bne_eq_false_iff_eq] at h;exact h.1.1.2
 ·simp only [Bool.or_eq_false_iff,decide_eq_false_iff_not] at h;omega
theorem Xlx{d:Dg}{a b:Int}(h2:tyW d.ws a b=2)(h:(!(!((othW d.ws a b).any fun x=>!(spI d.ns x)||tyW d.ws a x != 2))||!(!((othW d.ws b a).any fun x=>!(spI d.ns x)||tyW d.ws b x != 2))||prD d (pvL d a b))=true) : pvC d a b=false:=by
 have e:=Xck d a b h2
 refine Xjq ?_
 revert e h
 generalize ((othW d.ws a b).any fun x=>!(spI d.ns x)||tyW d.ws a x != 2)=x1
 generalize ((othW d.ws b a).any fun x=>!(spI d.ns x)||tyW d.ws b x != 2)=x2
 generalize prD d (pvL d a b)=x3
 generalize hadD d a=x4
 generalize hadD d b=x5
 generalize rdyD d (pvL d a b)=x6
 revert x1 x2 x3 x4 x5 x6
 decide
theorem Xh7{d:Dg}(hD:InD d){a b:Int}(h1:(spI d.ns a&&spI d.ns b&&decide (a<b)&&(d.ns.getD a.toNat nZ).p % 4==0&&(d.ns.getD b.toNat nZ).p % 4==0&&tyW d.ws a b==2)=true)(h2:tyW d.ws a b=2)(h:(!(!((othW d.ws a b).any fun x=>!(spI d.ns x)||tyW d.ws a x != 2))||!(!((othW d.ws b a).any fun x=>!(spI d.ns x)||tyW d.ws b x != 2))||prD d (pvL d a b))=false) : pvC d a b=true∧NoPl (id0 (id0 d a) b).ws (pvL d a b):=by
 have e:=Xck d a b h2
 have h3:(hadD d a&&hadD d b&&rdyD d (pvL d a b))=true:=by
  rw [← e]
  revert h
  generalize ((othW d.ws a b).any fun x=>!(spI d.ns x)||tyW d.ws a x != 2)=x1
  generalize ((othW d.ws b a).any fun x=>!(spI d.ns x)||tyW d.ws b x != 2)=x2
  generalize prD d (pvL d a b)=x3
  revert x1 x2 x3
  decide
 rw [Qd] at h3
 refine ⟨Xfg h1 ?_,(Xb5 hD h3.2).sub fun w hw=>(List.mem_filter.1 (List.mem_filter.1 hw).1).1⟩
 rw [Qd] at h3
 rw [h3.1.1,h3.1.2,h3.2]
 rfl
theorem Xr3{d o:Dg}{a b:Int}(ht:0≤d.t∧d.t≤7)(h:o=pvM (d.ns.getD a.toNat nZ).p (d.ns.getD b.toNat nZ).p (othW d.ws a b) (othW d.ws b a) (pvL d a b) (id0 (id0 d a) b) (pvL d a b).length)(hot:o.t=d.t)(hp:((d.ns.getD a.toNat nZ).p=0∨(d.ns.getD a.toNat nZ).p=4)∧((d.ns.getD b.toNat nZ).p=0∨(d.ns.getD b.toNat nZ).p=4)) :
  outD (pvD d a b) = { o with t:=if ((d.ns.getD a.toNat nZ).p==4&&(d.ns.getD b.toNat nZ).p==4)=true then (wr (o.t+4)).tmod 8 else o.t,r:=wr (o.r+(1-((othW d.ws a b).length:Int)-((othW d.ws b a).length:Int))) }:=by
 rw [Xdf h]
 have e:((d.ns.getD a.toNat nZ).p+(d.ns.getD b.toNat nZ).p==8)=((d.ns.getD a.toNat nZ).p==4&&(d.ns.getD b.toNat nZ).p==4):=by
  rcases hp with ⟨h1|h1,h2|h2⟩<;>rw [h1,h2]<;>rfl
 unfold outD
 rw [e]
 dsimp only
 split
 ·rfl
 ·have:o.t.tmod 8=o.t:=by rw [hot,Int.tmod_eq_emod_of_nonneg ht.1,Int.emod_eq_of_lt ht.1 (by omega)]
  rw [this]
def smQ(f:Nat→Int) : Nat→Int
 | 0=>0
 | n+1=>smQ f n+f n
theorem Xf5(f g:Nat→Int) : ∀ n,smQ (fun j=>f j+g j) n=smQ f n+smQ g n
 | 0=>rfl
 | n+1=>by unfold smQ;rw [Xf5 f g n];omega
theorem X5o{f g:Nat→Int} : ∀ n,(∀ j,j<n→f j=g j)→smQ f n=smQ g n
 | 0,_=>rfl
 | n+1,h=>by unfold smQ;rw [X5o n fun j hj=>h j (by omega),h n (by omega)]
theorem Xfm(p:Int) : ∀ n:Nat,smQ (fun j=>if p=(j:Int) then 1 else 0) n=if 0≤p∧p<(n:Int) then 1 else 0
 | 0=>by rw [Q3 (by omega)];rfl
 | n+1=>by
  unfold smQ
  rw [Xfm p n]
  split<;>split<;>split<;>omega
theorem Xh5{f:Nat→Int} : ∀ n:Nat,(∀ j,j<n→2≤f j)→2*(n:Int)≤smQ f n∧(smQ f n=2*(n:Int)→∀ j,j<n→f j=2)
 | 0,_=>⟨by simp [smQ],fun _ j hj=>by omega⟩
 | n+1,h=>by
  have ih:=Xh5 n fun j hj=>h j (by omega)
  have hn:=h n (by omega)
  unfold smQ
  refine ⟨by omega,fun he j hj=>?_⟩
  by_cases e:j=n
  ·subst e;omega
  ·exact ih.2 (by omega) j (by omega)
theorem Xfq{f:Nat→Int} : ∀ n:Nat,(∀ j,j<n→f j=2)→smQ f n=2*(n:Int)
 | 0,_=>rfl
 | n+1,h=>by
  have ih:=Xfq n fun j hj=>h j (by omega)
  have hn:=h n (by omega)
  unfold smQ
  omega
theorem Xbp(x:Nd)(ns:List Nd)(k p:Int) : ctN (x::ns) k p=(if x.k=k∧x.p=p then 1 else 0)+ctN ns k p:=by
 unfold ctN
 rw [List.filter_cons]
 by_cases h:x.k=k∧x.p=p
 ·rw [Q4 h,Q4 (by simp [h.1,h.2]),Qs]
  omega
 ·rw [Q3 h,Q3 (by simpa using h)]
  omega
theorem Xho(x:Nd)(ns:List Nd) : bnI (x::ns)=(if x.k=1∨x.k=2 then 1 else 0)+bnI ns:=by
 unfold bnI
 rw [List.filter_cons]
 by_cases h:x.k=1∨x.k=2
 ·rw [Q4 h,Q4 (by simpa using h),Qs]
  omega
 ·rw [Q3 h,Q3 (by simpa using h)]
  omega
theorem Xt1{n:Int}{x:Nd}(h:nokI n x=true)(hk:x.k=1∨x.k=2) : 0≤x.p∧x.p<n:=by
 unfold nokI at h
 rw [Q3 (by rcases hk with e|e<;>rw [e]<;>decide),Q4 (by simpa using hk)] at h
 have:=X0f.1 h
 omega
theorem Xhf(n:Nat) : ∀ ns:List Nd,(∀ x ∈ ns,nokI (n:Int) x=true)→bnI ns=smQ (fun j=>ctN ns 1 (j:Int)+ctN ns 2 (j:Int)) n
 | [],_=>by
  have:∀ m,smQ (fun j=>ctN [] 1 (j:Int)+ctN [] 2 (j:Int)) m=0:=fun m=>by
   induction m with
   | zero=>rfl
   | succ m ih=>unfold smQ;rw [ih];rfl
  rw [this]
  rfl
 | x::ns,h=>by
  have ih:=Xhf n ns fun y hy=>h y (by simp [hy])
  have hx:=h x (by simp)
  rw [Xho,ih]
  have e:∀ j:Nat,ctN (x::ns) 1 (j:Int)+ctN (x::ns) 2 (j:Int)=((if x.k=1∨x.k=2 then (if x.p=(j:Int) then 1 else 0) else 0))+(ctN ns 1 (j:Int)+ctN ns 2 (j:Int)):=fun j=>by
   rw [Xbp,Xbp]
   by_cases h1:x.k=1
   ·by_cases h2:x.p=(j:Int)
    ·simp [h1,h2];omega
    ·simp [h1,h2]
   ·by_cases h3:x.k=2
    ·by_cases h2:x.p=(j:Int)
     ·simp [h3,h2];omega
     ·simp [h3,h2]
    ·simp [h1,h3]
  have e2:=Xf5 (fun j:Nat=>if x.k=1∨x.k=2 then (if x.p=(j:Int) then (1:Int) else 0) else 0) (fun j=>ctN ns 1 (j:Int)+ctN ns 2 (j:Int)) n
  rw [X5o n fun j _=>e j]
  refine Eq.trans ?_ e2.symm
  congr 1
  by_cases hk:x.k=1∨x.k=2
  ·rw [Q4 hk,X5o n fun j _=>Q4 hk,Xfm,Q4 (Xt1 hx hk)]
  ·have:∀ m,smQ (fun _=>(0:Int)) m=0:=fun m=>by
    induction m with
    | zero=>rfl
    | succ m ih=>unfold smQ;rw [ih];rfl
   rw [Q3 hk,X5o n fun j _=>Q3 hk,this]
theorem Xp4{ns:List Nd}{k p:Int} : decide (fnI ns ⟨k,p⟩<0)=decide (ctN ns k p<1):=by
 have h:decide (0≤fnI ns ⟨k,p⟩)=ns.any fun y=>decide ((⟨k,p⟩ : Nd)=y):=Xf2
 have h2:(ns.any fun y=>decide ((⟨k,p⟩ : Nd)=y))=decide (1≤ctN ns k p):=by
  rw [Bool.eq_iff_iff,List.any_eq_true,Qr]
  unfold ctN
  constructor
  ·rintro ⟨y,hy,he⟩
   have he:(⟨k,p⟩ : Nd)=y:=by simpa using he
   have hm:y ∈ ns.filter fun x=>x.k==k&&x.p==p:=List.mem_filter.2 ⟨hy,by subst he;simp⟩
   have:=List.length_pos_of_mem hm
   omega
  ·intro hl
   obtain ⟨y,hy⟩:=List.exists_mem_of_length_pos (l:=ns.filter fun x=>x.k==k&&x.p==p) (by omega)
   have hf:=List.mem_filter.1 hy
   refine ⟨y,hf.1,?_⟩
   have hk:y.k=k∧y.p=p:=by simpa using hf.2
   obtain ⟨k',p'⟩:=y
   simp only at hk
   simp [hk.1,hk.2]
 have h3:=h.trans h2
 rw [Bool.eq_iff_iff] at h3 ⊢
 simp only [Qr] at h3 ⊢
 omega
theorem Xrs{d:Dg}(hn:1≤d.n)(hok:∀ x ∈ d.ns,nokI d.n x=true) : heD d=endQ d:=by
 have hnn:d.n=((d.n.toNat:Nat) : Int):=by omega
 have hs:=Xhf d.n.toNat d.ns (by rw [← hnn];exact hok)
 unfold heD endQ enQ heQ
 rw [Bool.eq_iff_iff]
 simp only [Qd,W1,W2,Xp4,Bool.not_eq_true',Bool.or_eq_false_iff,decide_eq_false_iff_not,beq_iff_eq]
 constructor
 ·rintro ⟨h1,h2⟩
  have h3:=Xh5 (f:=fun j=>ctN d.ns 1 (j:Int)+ctN d.ns 2 (j:Int)) d.n.toNat fun j hj=>by have:=h1 j hj;omega
  have h4:=h3.2 (by omega)
  refine ⟨fun j hj=>?_,fun j hj=>?_⟩
  ·have:=h1 j hj;have:=h4 j hj;omega
  ·have:=h1 j hj;have:=h4 j hj;omega
 ·rintro ⟨h1,h2⟩
  refine ⟨fun j hj=>by have:=h1 j hj;have:=h2 j hj;omega,?_⟩
  rw [hs,Xfq d.n.toNat fun j hj=>by have:=h1 j hj;have:=h2 j hj;omega]
  omega
theorem Xi9{d:Dg}{k:Nat}{x:Nd}(hx:d.ns[k]? = some x) : ndQ d (k:Int)=(nokI d.n x&&nvQ d k):=by
 have hg:d.ns.getD ((k:Int)).toNat nZ=x:=by rw [Qj,Qa,hx];rfl
 rw [Xnw hx]
 unfold ndQ nokI
 rw [hg]
 cases h0:(x.k==0)
 ·cases h1:(x.k==1||x.k==2)
  ·cases h3:(x.k==3)
   ·simp
   ·simp
  ·simp [bne]
 ·have e:x.k=0:=by simpa using h0
  rw [e]
  simp [bne]
theorem Xph{d:Dg}{i:Nat}{u:Wr}(hu:d.ws[i]? = some u) : wvQ d i=wrQ d i:=by
 rw [Xp7 hu,Xjb hu]
 have e1:decide (0≤cmW (d.ws.getD (i-1) wZ) u) = !(wlt (d.ws.getD (i-1) wZ) u):=by
  rw [← Xk8]
  rw [Bool.eq_iff_iff]
  simp
 rw [e1]
 congr 1
 have e2:(decide (u.a<0)||decide (u.b≤u.a)) = !(inR u.a 0 (u.b-1)):=by
  rw [Bool.eq_iff_iff]
  simp only [Bool.or_eq_true,Qr,Bool.not_eq_true',← Bool.not_eq_true,X0f]
  omega
 rw [e2]
theorem Xa0(d:Dg) : ivD d=goodD d:=by
 unfold ivD goodD
 have ew:(List.range d.ws.length).all (wvQ d)=(List.range d.ws.length).all (wrQ d):=by
  rw [Bool.eq_iff_iff,W1,W1]
  constructor
  ·intro h i hi
   have:=h i hi
   rwa [Xph (Xb (d:=wZ) (W2.1 hi))] at this
  ·intro h i hi
   rw [Xph (Xb (d:=wZ) (W2.1 hi))]
   exact h i hi
 have en:(List.range d.ns.length).all (fun k=>ndQ d (k:Int))=(!(d.ns.any fun x=>!nokI d.n x)&&(List.range d.ns.length).all (nvQ d)):=by
  rw [Bool.eq_iff_iff]
  simp only [Qd,Bool.not_eq_true',W7,W1,W2]
  constructor
  ·intro h
   refine ⟨fun x hx=>?_,fun i hi=>?_⟩
   ·obtain ⟨i,hi⟩:=List.mem_iff_getElem?.1 hx
    have:=h i (Qg.1 hi).1
    rw [Xi9 hi,Qd] at this
    rw [this.1]
    decide
   ·have:=h i hi
    rw [Xi9 (Xb (d:=nZ) hi),Qd] at this
    exact this.2
  ·rintro ⟨h1,h2⟩ i hi;have hx:=Xb (d:=nZ) hi
   rw [Xi9 hx,h2 i hi,Bool.and_true]
   have:=h1 _ (Qe hx)
   simpa using this
 rw [ew,en]
 unfold hvQ hdQ
 by_cases hok:∀ x ∈ d.ns,nokI d.n x=true
 ·by_cases hn:1≤d.n
  ·rw [Xrs hn hok]
   generalize inR d.n 1 5=x1
   generalize decide (40<(d.ns.length:Int))=x2
   generalize inR d.t 0 7=x3
   generalize inR d.r (-60) 60=x4
   generalize (d.ns.any fun x=>!nokI d.n x)=x5
   generalize endQ d=x6
   generalize (List.range d.ws.length).all (wrQ d)=x7
   generalize (List.range d.ns.length).all (nvQ d)=x8
   revert x1 x2 x3 x4 x5 x6 x7 x8
   decide
  ·have:inR d.n 1 5=false:=by rw [← Bool.not_eq_true,X0f];omega
   rw [this]
   simp
 ·have h5:(d.ns.any fun x=>!nokI d.n x)=true:=by
   rw [List.any_eq_true]
   obtain ⟨x,hx,h9⟩ : ∃ x,x ∈ d.ns∧nokI d.n x≠true:=Classical.byContradiction fun hn=>hok fun x hx=>Classical.byContradiction fun h9=>hn ⟨x,hx,h9⟩
   exact ⟨x,hx,by simpa using h9⟩
  rw [h5]
  simp
def secL(d:Dg)(u:Int)(a:Int) : List Int:=if (u==1||u==4)=true then nearW d.ws a else [0]
def stR(d:Dg)(u:Int)(a:Nat)(l:List Int) : List Rz:=(l.map fun b=>(⟨u,a,b⟩ : Rz)).filter (apC d)
def stA(d:Dg)(u:Int)(k:Nat) : List Rz:=(List.range k).flatMap fun a=>stR d u a (secL d u a)
theorem Xee(d:Dg)(u:Int)(k:Nat) : stA d u (k+1)=stA d u k++stR d u k (secL d u k):=by
 unfold stA
 rw [List.range_succ,List.flatMap_append]
 simp
theorem Xvt{d:Dg}{u:Int}{a j:Nat}{l:List Int}{b:Int}(hb:l[j]? = some b)(h:apC d ⟨u,a,b⟩=true) : stR d u a (l.take (j+1))=stR d u a (l.take j)++[⟨u,a,b⟩]:=by
 unfold stR
 rw [Qt,hb,Option.toList_some,List.map_append,List.filter_append]
 simp [h]
theorem Xty{d:Dg}{u:Int}{a j:Nat}{l:List Int}{b:Int}(hb:l[j]? = some b)(h:apC d ⟨u,a,b⟩=false) : stR d u a (l.take (j+1))=stR d u a (l.take j):=by
 unfold stR
 rw [Qt,hb,Option.toList_some,List.map_append,List.filter_append]
 simp [h]
theorem Xe5{ws:List Wr}(h:InW ws){a b:Int}(ht:tyW ws a b≠0) : b ∈ nearW ws a:=by
 obtain ⟨w,h1,h2,_⟩:=X86 (Xd6 ht);have h3:=X2e.1 h2;have hm:=Qe h1;have hl:=h.l w hm
 refine X6k.2 ⟨w,hm,?_⟩
 unfold otW
 by_cases e:a≤b
 ·rw [Q4 (by omega)]
  congr 1
  omega
 ·rw [Q3 (by omega),Q4 (by omega)]
  congr 1
  omega
theorem Xqr{d:Dg}(hD:InD d){u a b:Int}(h:apC d ⟨u,a,b⟩=true) : b ∈ secL d u a:=by
 unfold apC at h
 rw [Qd] at h
 have hc:=h.1
 unfold doC at hc
 dsimp only at hc
 unfold secL
 split at hc
 ·rename_i h1
  rw [Q4 (by rw [h1];rfl)]
  unfold fuC at hc
  simp only [Qd,beq_iff_eq] at hc
  exact Xe5 hD.w (by omega)
 ·rename_i h1
  split at hc
  ·rename_i h4
   rw [Q4 (by rw [h4];simp)]
   unfold pvC at hc
   simp only [Qd,beq_iff_eq] at hc
   exact Xe5 hD.w (by omega)
  ·rename_i h4
   rw [Q3 (by simp only [Bool.or_eq_true,not_or];exact ⟨h1,h4⟩)]
   split at hc
   ·cases hc
   ·rename_i hb
    have:b=0:=by simpa using hb
    rw [this]
    simp
theorem Xlt{d:Dg}(hD:InD d)(u a:Int) : Inc (secL d u a):=by
 unfold secL
 split
 ·exact X3p hD.w
 ·exact List.pairwise_singleton _ _
theorem Xrp{d:Dg}(hD:InD d)(hn:0<d.ns.length){u a b:Int}(hb:b ∈ secL d u a) : 0≤b∧b<(d.ns.length:Int):=by
 unfold secL at hb
 split at hb
 ·have:=X34 hD hb;omega
 ·have:b=0:=by simpa using hb
  omega
theorem Xi7(n:Nat) : Inc (ranI n):=by
 unfold ranI
 exact List.Pairwise.map _ (fun a b h=>by omega) List.pairwise_lt_range
theorem Xsf{d:Dg}(hD:InD d)(u:Int){a:Nat}(hn:0<d.ns.length) : stR d u a (secL d u a)=alR d u a d.ns.length:=by
 have h1:stR d u a (secL d u a)=((secL d u a).filter fun b=>apC d ⟨u,a,b⟩).map fun b=>(⟨u,a,b⟩ : Rz):=by
  unfold stR
  rw [List.filter_map]
  rfl
 have h2:alR d u a d.ns.length=((ranI d.ns.length).filter fun b=>apC d ⟨u,a,b⟩).map fun b=>(⟨u,a,b⟩ : Rz):=by
  unfold alR ranI
  rw [List.filter_map,List.filter_map,List.map_map]
  rfl
 rw [h1,h2]
 congr 1
 refine X9y _ _ (List.Pairwise.filter _ (Xlt hD u a)) (List.Pairwise.filter _ (Xi7 _)) fun x=>?_
 rw [List.mem_filter,List.mem_filter]
 constructor
 ·rintro ⟨h3,h4⟩
  refine ⟨?_,h4⟩
  have:=Xrp hD hn h3
  unfold ranI
  rw [W6]
  exact ⟨x.toNat,W2.2 (by omega),by omega⟩
 ·rintro ⟨_,h4⟩;exact ⟨Xqr hD h4,h4⟩
theorem Xkb{d:Dg}(hD:InD d)(u:Int) : stA d u d.ns.length=alL d u:=by
 unfold alL
 have h:∀ k,k≤d.ns.length→stA d u k=alS d u k:=fun k=>by
  induction k with
  | zero=>intro _;rfl
  | succ k ih=>
   intro hk
   rw [Xee,Xim,ih (by omega),Xsf hD u (by omega)]
 exact h _ (Qb _)
theorem Xwu{α:Type}{l m:List α}(h:m.length=1) : (m++l).take 1=m:=by
 rw [List.take_append_of_le_length (by omega),Qi (by omega)]
def brQ(d:Dg)(q:Nat) : Bool:=tyW d.ws (fnI d.ns ⟨1,(q:Int)⟩) (fnI d.ns ⟨2,(q:Int)⟩)==1
def brD(d:Dg) : Bool:=(List.range d.n.toNat).all (brQ d)&&((spL d.ns).length:Int)==0
theorem Xl5{α:Type}{l:List α}{p:α→Bool}(h:(l.filter p).length≤1){i j:Nat}{x y:α}(hi:l[i]? = some x)(hj:l[j]? = some y)(hx:p x=true)(hy:p y=true) : i=j:=by
 have key:∀ i j (x y:α),l[i]? = some x→l[j]? = some y→p x=true→p y=true→i<j→False:=fun i j x y hi hj hx hy hij=>by
  have e:l=l.take j++l.drop j:=(W9 j l).symm
  rw [e,List.filter_append,Qh] at h
  have h1:x ∈ (l.take j).filter p:=List.mem_filter.2 ⟨Qe (i:=i) (by rw [Wg hij];exact hi),hx⟩
  have h2:y ∈ (l.drop j).filter p:=List.mem_filter.2 ⟨Qe (i:=0) (by rw [List.getElem?_drop];exact hj),hy⟩
  have:=List.length_pos_of_mem h1
  have:=List.length_pos_of_mem h2
  omega
 rcases Nat.lt_trichotomy i j with h9|h9|h9
 ·exact (key i j x y hi hj hx hy h9).elim
 ·exact h9
 ·exact (key j i y x hj hi hy hx h9).elim
section
variable {d : Dg}
theorem Xih(hG:goodD d=true){e q:Nat}(he:e=1∨e=2)(hq:q<d.n.toNat) : ctN d.ns (e:Int) (q:Int)=1:=by
 have h:=(X2n hG).2.2.2
 unfold endQ enQ at h
 simp only [Qd,W1,W2,beq_iff_eq] at h
 rcases he with rfl|rfl
 ·exact h.1 q hq
 ·exact h.2 q hq
theorem Xay(hG:goodD d=true){e q:Nat}(he:e=1∨e=2)(hq:q<d.n.toNat) : ∃ i:Nat,fnI d.ns ⟨(e:Int),(q:Int)⟩=(i:Int)∧d.ns[i]? = some ⟨(e:Int),(q:Int)⟩:=by
 have h:=Xp4 (ns:=d.ns) (k:=(e:Int)) (p:=(q:Int))
 rw [Xih hG he hq] at h
 have h2:¬ fnI d.ns ⟨(e:Int),(q:Int)⟩<0:=by
  have h3:decide (fnI d.ns ⟨(e:Int),(q:Int)⟩<0)=false:=h
  exact Q1 h3
 unfold fnI at h2 ⊢
 rcases X3l d.ns (fun y=>decide ((⟨(e:Int),(q:Int)⟩ : Nd)=y)) with ⟨h3,_⟩|⟨k,x,h3,h4,h5⟩
 ·omega
 ·refine ⟨k,h3,?_⟩
  rw [h4]
  congr 1
  exact (Q2 h5).symm
theorem Xa4(hG:goodD d=true){e q:Nat}(he:e=1∨e=2)(hq:q<d.n.toNat){i j:Nat}(hi:d.ns[i]? = some ⟨(e:Int),(q:Int)⟩)(hj:d.ns[j]? = some ⟨(e:Int),(q:Int)⟩) : i=j:=by
 have h:=Xih hG he hq
 unfold ctN at h
 exact Xl5 (p:=fun x=>x.k==(e:Int)&&x.p==(q:Int)) (by omega) hi hj (by simp) (by simp)
theorem Xrh(hG:goodD d=true){i:Nat}{x:Nd}(hx:d.ns[i]? = some x)(h3:x.k≠3)(hc:cnW d.ws (i:Int)≠0) : ∃ e q:Nat,(e=1∨e=2)∧q<d.n.toNat∧x=⟨(e:Int),(q:Int)⟩∧cnW d.ws (i:Int)=1:=by
 have h:=(X2n hG).2.2.1 i (Qg.1 hx).1
 have hg:d.ns.getD ((i:Int)).toNat nZ=x:=by rw [Qj,Qa,hx];rfl
 unfold ndQ at h
 rw [hg] at h
 split at h
 ·simp only [Qd,beq_iff_eq] at h
  exact absurd h.2 hc
 ·split at h
  ·rename_i hk
   simp only [Qd,beq_iff_eq,X0f] at h
   simp only [Bool.or_eq_true,beq_iff_eq] at hk
   obtain ⟨k,p⟩:=x
   dsimp only at h hk ⊢
   refine ⟨k.toNat,p.toNat,by omega,by omega,?_,h.2⟩
   congr 1<;>omega
  ·simp only [Qd,beq_iff_eq] at h
   exact absurd h.1 h3
theorem Xg8{k:Int}{w:Wr}(hw:w ∈ d.ws)(ht:w.a=k∨w.b=k) : cnW d.ws k≠0:=by
 unfold cnW
 have hm:w ∈ d.ws.filter fun w=>w.a==k||w.b==k:=List.mem_filter.2 ⟨hw,by simpa using ht⟩
 have:=List.length_pos_of_mem hm
 omega
theorem Xh3{k:Int}(hc:cnW d.ws k=1){w w':Wr}(hw:w ∈ d.ws)(hw':w' ∈ d.ws)(ht:w.a=k∨w.b=k)(ht':w'.a=k∨w'.b=k) : w=w':=by
 unfold cnW at hc
 have hm:w ∈ d.ws.filter fun w=>w.a==k||w.b==k:=List.mem_filter.2 ⟨hw,by simpa using ht⟩
 have hm':w' ∈ d.ws.filter fun w=>w.a==k||w.b==k:=List.mem_filter.2 ⟨hw',by simpa using ht'⟩
 obtain ⟨z,hz⟩:=List.length_eq_one_iff.1 (show (d.ws.filter fun w=>w.a==k||w.b==k).length=1 by omega)
 rw [hz] at hm hm'
 rw [Qm.1 hm,Qm.1 hm']
theorem Xhm{k:Int}(hc:cnW d.ws k=1) : ∃ w ∈ d.ws,w.a=k∨w.b=k:=by
 unfold cnW at hc
 obtain ⟨w,hw⟩:=List.exists_mem_of_length_pos (l:=d.ws.filter fun w=>w.a==k||w.b==k) (by omega)
 have:=List.mem_filter.1 hw
 exact ⟨w,this.1,by simpa using this.2⟩
theorem Xv1(h:((spL d.ns).length:Int)=0){i:Nat}{x:Nd}(hx:d.ns[i]? = some x) : x.k≠3:=fun h3=>by
 have hm:(i:Int) ∈ spL d.ns:=by
  unfold spL spK
  rw [W6]
  refine ⟨i,List.mem_filter.2 ⟨W2.2 (Qg.1 hx).1,?_⟩,rfl⟩
  rw [Qa,hx]
  simpa using h3
 have:=List.length_pos_of_mem hm
 omega
theorem Xk0(hD:InD d){i o:Int}{w:Wr}(hw:w ∈ d.ws)(h:isW i o w=true) : tyW d.ws i o=if w.h=true then 2 else 1:=by
 have hge:0≤fdW d.ws i o:=by
  rcases X49 d.ws i o with ⟨_,h2⟩|⟨k,x,h1,_⟩
  ·rw [h2 w hw] at h;cases h
  ·omega
 obtain ⟨x,h1,h2,_⟩:=X86 hge
 have e1:=X2e.1 h
 have e2:=X2e.1 h2
 have e:x=w:=Xdn hD.w.s (Qe h1) hw (by rw [X4y];omega) (by rw [X4y];omega)
 rw [Xjp hge,show d.ws.getD (fdW d.ws i o).toNat wZ=x from by rw [Qa,h1];rfl,e]
theorem Xlb(hG:goodD d=true) : brD d=plD d:=by
 have hD:=X1e hG
 unfold brD plD
 by_cases hs:((spL d.ns).length:Int)=0
 ·rw [show (((spL d.ns).length:Int)==0)=true from by rw [hs];rfl,Bool.and_true,Bool.and_true,Bool.eq_iff_iff,W1,W1]
  constructor
  ·intro h w hw;have ha:=hD.e w hw;have hl:=hD.w.l w hw
   have gx:=Xb (l:=d.ns) (k:=w.a.toNat) (d:=nZ) (by omega)
   have hat:((w.a.toNat:Nat) : Int)=w.a:=by omega
   obtain ⟨e,q,he,hq,hx,hc⟩:=Xrh hG gx (Xv1 hs gx) (Xg8 hw (by omega))
   obtain ⟨i,hi1,hi2⟩:=Xay hG (e:=1) (.inl rfl) hq;obtain ⟨o,ho1,ho2⟩:=Xay hG (e:=2) (.inr rfl) hq;have h1:=h q (W2.2 hq)
   unfold brQ at h1
   have hi1':fnI d.ns ⟨1,(q:Int)⟩=(i:Int):=hi1
   have ho1':fnI d.ns ⟨2,(q:Int)⟩=(o:Int):=ho1
   rw [hi1',ho1',beq_iff_eq] at h1
   obtain ⟨w',h2,h3,_⟩:=X86 (Xd6 (ws:=d.ws) (p:=(i:Int)) (q:=(o:Int)) (by omega))
   have hw':=Qe h2
   have h4:=X2e.1 h3;have h5:=Xk0 hD hw' h3
   rw [h1] at h5
   have hh:w'.h=false:=by cases hh:w'.h with
    | false=>rfl
    | true=>rw [hh] at h5;simp at h5
   rw [hx] at gx
   have haio:w.a=(i:Int)∨w.a=(o:Int):=by
    rcases he with rfl|rfl
    ·left;have:=Xa4 hG (.inl rfl) hq gx hi2;omega
    ·right;have:=Xa4 hG (.inr rfl) hq gx ho2;omega
   have hee:w=w':=Xh3 (hat▸hc) hw hw' (.inl rfl) (by omega)
   subst hee
   have hno:(i:Int)≠(o:Int):=fun e9=>by omega
   have gi:d.ns.getD i nZ=⟨1,(q:Int)⟩:=by rw [Qa,hi2];rfl
   have go:d.ns.getD o nZ=⟨2,(q:Int)⟩:=by rw [Qa,ho2];rfl
   unfold plQ
   rw [hh]
   by_cases hio:(i:Int)≤(o:Int)
   ·have e1:w.a.toNat=i:=by omega
    have e2:w.b.toNat=o:=by omega
    rw [e1,e2,gi,go]
    simp
   ·have e1:w.a.toNat=o:=by omega
    have e2:w.b.toNat=i:=by omega
    rw [e1,e2,gi,go]
    simp
  ·intro h q hq;have hq:=W2.1 hq;obtain ⟨i,hi1,hi2⟩:=Xay hG (e:=1) (.inl rfl) hq;obtain ⟨o,ho1,ho2⟩:=Xay hG (e:=2) (.inr rfl) hq
   have hi1':fnI d.ns ⟨1,(q:Int)⟩=(i:Int):=hi1
   have ho1':fnI d.ns ⟨2,(q:Int)⟩=(o:Int):=ho1
   have hc:cnW d.ws (i:Int)=1:=by
    have h9:=(X2n hG).2.2.1 i (Qg.1 hi2).1
    have hg:d.ns.getD ((i:Int)).toNat nZ=⟨1,(q:Int)⟩:=by rw [Qj,Qa,hi2];rfl
    unfold ndQ at h9
    rw [hg] at h9
    simp at h9
    exact h9.2
   obtain ⟨w,hw,ht⟩:=Xhm hc;have hp:=h w hw;have ha:=hD.e w hw;have hl:=hD.w.l w hw
   unfold plQ at hp
   simp only [Bool.not_eq_true',Bool.or_eq_false_iff,bne_eq_false_iff_eq] at hp
   have gi:d.ns.getD i nZ=⟨1,(q:Int)⟩:=by rw [Qa,hi2];rfl
   have key:isW (i:Int) (o:Int) w=true:=by
    rcases ht with ht|ht
    ·have e1:w.a.toNat=i:=by omega
     rw [e1,gi] at hp
     have g2:=Xb (l:=d.ns) (k:=w.b.toNat) (d:=nZ) (by omega)
     have g3:d.ns.getD w.b.toNat nZ=⟨2,(q:Int)⟩:=by
      have h7:=hp.1.2;have h8:=hp.2
      revert h7 h8
      generalize d.ns.getD w.b.toNat nZ=z
      obtain ⟨zk,zp⟩:=z
      dsimp only
      intro h7 h8
      congr 1<;>omega
     rw [g3] at g2
     have:=Xa4 hG (.inr rfl) hq g2 ho2
     exact X2e.2 ⟨by omega,by omega⟩
    ·have e1:w.b.toNat=i:=by omega
     rw [e1,gi] at hp
     have g2:=Xb (l:=d.ns) (k:=w.a.toNat) (d:=nZ) (by omega)
     have g3:d.ns.getD w.a.toNat nZ=⟨2,(q:Int)⟩:=by
      have h7:=hp.1.2;have h8:=hp.2
      revert h7 h8
      generalize d.ns.getD w.a.toNat nZ=z
      obtain ⟨zk,zp⟩:=z
      dsimp only
      intro h7 h8
      congr 1<;>omega
     rw [g3] at g2
     have:=Xa4 hG (.inr rfl) hq g2 ho2
     exact X2e.2 ⟨by omega,by omega⟩
   unfold brQ
   rw [hi1',ho1',Xk0 hD hw key,hp.1.1]
   rfl
 ·rw [show (((spL d.ns).length:Int)==0)=false from by simpa using hs,Bool.and_false,Bool.and_false]
end
section
variable {d : Dg} {r : Rz}
theorem ot9(hG:goodD d=true){o:Dg}(h:o.t=d.t) : outD o=o:=Xk4 (by rw [h];exact (X6m hG).2.2.1)
theorem Xxl(h:(r.b != 0&&r.u != 1&&r.u != 4)=true) : doC d r=false:=by
 simp only [Qd,bne_iff_ne] at h
 exact Xw6 (by simpa using h.1.2) (by simpa using h.2) (by simpa using h.1.1)
theorem Xx9(hG:goodD d=true)(h:(r.u==1)=true) : doC d r=fuC d r.a r.b∧outD (doD d r)=fuD d r.a r.b:=by
 obtain ⟨h1,h2⟩:=Xu7 (d:=d) h;exact ⟨h1,by rw [h2];exact ot9 hG (Xo2 _ _)⟩
theorem X8q{m n:Int}(h:(r.u==m)=true)(hn:m≠n) : (r.u==n)=false:=by
 have:r.u=m:=by simpa using h
 rw [this]
 simpa using hn
theorem b_0(h17:(r.b != 0&&r.u != 1&&r.u != 4)=false){m:Int}(h:(r.u==m)=true)(h1:m≠1)(h4:m≠4) : (r.b != 0)=false:=by
 have:r.u=m:=by simpa using h
 rw [this,show (m != 1)=true from by simpa using h1,show (m != 4)=true from by simpa using h4] at h17
 simpa using h17
theorem Xxi(hG:goodD d=true)(h17:(r.b != 0&&r.u != 1&&r.u != 4)=false)(h:(r.u==2)=true) : doC d r=idC d r.a∧outD (doD d r)=idD d r.a:=by
 obtain ⟨h1,h2⟩:=Xsx (d:=d) (X8q h (by decide)) (X8q h (by decide)) (b_0 h17 h (by decide) (by decide)) h
 exact ⟨h1,by rw [h2];exact ot9 hG (Xoe _ _ _ _)⟩
theorem Xxj(h17:(r.b != 0&&r.u != 1&&r.u != 4)=false)(h:(r.u==3)=true) : doC d r=lcC d r.a∧doD d r=lcD d r.a:=
 Xt6 (d:=d) (X8q h (by decide)) (X8q h (by decide)) (b_0 h17 h (by decide) (by decide)) (X8q h (by decide)) h
theorem Xxh(h:(r.u==4)=true) : doC d r=pvC d r.a r.b∧doD d r=pvD d r.a r.b:=Xuv (d:=d) (X8q h (by decide)) h
theorem Xx7(hG:goodD d=true)(h17:(r.b != 0&&r.u != 1&&r.u != 4)=false)(h:(r.u==5)=true) : doC d r=loC d r.a∧outD (doD d r)=loD d r.a:=by
 obtain ⟨h1,h2⟩:=Xts (d:=d) (X8q h (by decide)) (X8q h (by decide)) (b_0 h17 h (by decide) (by decide)) (X8q h (by decide)) (X8q h (by decide)) h
 exact ⟨h1,by rw [h2];exact ot9 hG rfl⟩
theorem Xwz(h1:(r.u==1)=false)(h2:(r.u==2)=false)(h3:(r.u==3)=false)(h4:(r.u==4)=false)(h5:(r.u==5)=false) : doC d r=false:=by
 unfold doC
 rw [h1,h2,h3,h4,h5]
 cases (r.b != 0)<;>rfl
theorem Xs7(hD:InD d){a:Int}(h:(!(spI d.ns a)||(d.ns.getD a.toNat nZ).p != 0||cnW d.ws a != 0)=true) : loC d a=false:=by
 rw [X6r hD.w.l] at h
 refine Xp9 ?_
 rw [Bool.or_eq_true] at h ⊢
 rcases h with h|h
 ·exact .inl h
 ·right
  have:=bne_iff_ne.1 h
  exact decide_eq_true (by omega)
theorem Xl7(hD:InD d){a:Int}(h:(!(spI d.ns a)||(d.ns.getD a.toNat nZ).p != 0||cnW d.ws a != 0)=false) : loC d a=true∧0≤a∧a.toNat<d.ns.length:=by
 rw [X6r hD.w.l] at h
 refine Xik ?_
 rw [Bool.or_eq_false_iff] at h ⊢
 refine ⟨h.1,decide_eq_false ?_⟩
 have:=bne_eq_false_iff_eq.1 h.2
 omega
theorem Xrx{u:Int}(hD:InD d){k:Nat}(hk:k<d.ns.length)(j:Nat) : ∃ l,alL d u=(stA d u k++stR d u k ((secL d u k).take j))++l:=by
 have h1:∃ l,stR d u k (secL d u k)=stR d u k ((secL d u k).take j)++l:=by
  refine ⟨stR d u k ((secL d u k).drop j),?_⟩
  unfold stR
  rw [← List.filter_append,← List.map_append,W9]
 obtain ⟨l1,e1⟩:=h1
 have h2:∀ n,∃ l,stA d u (k+1+n)=stA d u (k+1)++l:=fun n=>by
  induction n with
  | zero=>exact ⟨[],by simp⟩
  | succ n ih=>
   obtain ⟨l,e⟩:=ih;exact ⟨l++stR d u (k+1+n) (secL d u ((k+1+n:Nat) : Int)),by rw [show k+1+(n+1)=(k+1+n)+1 from by omega,Xee,e,Qx]⟩
 obtain ⟨l2,e2⟩:=h2 (d.ns.length-(k+1))
 refine ⟨l1++l2,?_⟩
 rw [← Xkb hD,show d.ns.length=k+1+(d.ns.length-(k+1)) by omega,e2,Xee,e1]
 simp only [Qx]
theorem Xqz{u:Int}(hD:InD d){k:Nat}(hk:k<d.ns.length){j:Nat}{g:List Rz}(hg:g=stA d u k++stR d u k ((secL d u k).take j))(h1:g.length=1) : (alL d u).take 1=g:=by
 obtain ⟨l,e⟩:=Xrx (u:=u) hD hk j
 rw [e,← hg]
 exact Xwu h1
theorem Xij{l:List Rz}(h:0<(l.take 1).length) : (l.take 1)[0]? = some (l.getD 0 rZ):=by
 cases l with
 | nil=>simp at h
 | cons x l=>rfl
theorem Xg9{l:List Rz}(h:0<(l.take 1).length) : 0<l.length:=by rw [Qn] at h;omega
theorem Xgc{l:List Rz}(h:¬ 0<(l.take 1).length) : l=[]:=by
 cases l with
 | nil=>rfl
 | cons x l=>simp at h
theorem Xu1{l:List Int}(h:l=alR5){k:Nat}{u:Int}(hu:l[k]? = some u) : inR u 1 5=true∧((l.take k).any fun y=>u==y)=false:=by
 subst h
 match k,hu with
 | 0,hu=>injection hu with hu;subst hu;exact ⟨rfl,rfl⟩
 | 1,hu=>injection hu with hu;subst hu;exact ⟨rfl,rfl⟩
 | 2,hu=>injection hu with hu;subst hu;exact ⟨rfl,rfl⟩
 | 3,hu=>injection hu with hu;subst hu;exact ⟨rfl,rfl⟩
 | 4,hu=>injection hu with hu;subst hu;exact ⟨rfl,rfl⟩
 | k+5,hu=>simp [alR5] at hu
theorem Xwj{u:Int}{a:Int}(h:(u==1||u==4)=true) : secL d u a=nearW d.ws a:=Q4 h
theorem Xvu{u:Int}{a:Int}(h:(u==1||u==4)=false) : secL d u a=[0]:=Q3 (by rw [h];decide)
theorem Xmi(hD:InD d)(u a:Int) : (secL d u a).length≤1000001:=by
 unfold secL
 split
 ·have:=X3e hD a;have:=hD.m;omega
 ·simp
theorem Xug{q:Nat}(hq:(q:Int)<d.n)(h:brQ d q=false) : brD d=false:=by
 unfold brD
 rw [X4k (q:=brQ d) (k:=q) (by omega) h,Bool.false_and]
theorem Xqu{q:Nat}(hq:d.n≤(q:Int))(h:∀ i:Nat,i<q→brQ d i=true) : brD d=(((spL d.ns).length:Int)==0):=by
 unfold brD
 rw [X3y (q:=brQ d) fun j hj=>h j (by omega),Qw]
end
def Drx(w:World)(b B0:Nat)(A0:Option Addr)(c0:Nat)(A1:Option Addr)(c1:Nat)(A2:Option Addr)(c2:Nat)(A3:Option Addr)(c3 m n:Nat)(x:Br) : Prop:=
 Blk w b 131 [.int .i64 x.d.n,.slice A0 m c0,.slice A1 x.d.ws.length c1,.int .i64 x.d.t,.int .i64 x.d.r,.slice A2 n c2,.slice A3 n c3]∧Own w B0 81 2 encNd A0 c0 x.d.ns∧Own w B0 83 3 encWr A1 c1 x.d.ws∧Own w B0 3 1 encI A2 c2 x.la∧Own w B0 4 1 encB A3 c3 x.hd∧m=x.d.ns.length∧n=x.la.length∧n=x.hd.length
def Dg7(w:World)(b B0:Nat)(A0:Option Addr)(c0:Nat)(A1:Option Addr)(c1:Nat)(v5 v6:Value)(m:Nat)(d:Dg) : Prop:=
 Blk w b 131 [.int .i64 d.n,.slice A0 m c0,.slice A1 d.ws.length c1,.int .i64 d.t,.int .i64 d.r,v5,v6]∧Own w B0 81 2 encNd A0 c0 d.ns∧Own w B0 83 3 encWr A1 c1 d.ws∧m=d.ns.length
def BrS(x:Br) : Prop:=WSd x.d.ws∧RgW x.d.ns.length x.d.ws
theorem Xp8{x:Br}(hs:BrS x)(u:Int) : fdW x.d.ws u (x.d.ns.length:Int)<0:=X9z (.inr fun w hw=>by have:=hs.2 w hw;omega)
theorem Xo4{n:Nat}{x:Br}(h:BrOk n x)(hs:BrS x){k p q:Int}(hq:0≤q∧q.toNat<n) : BrS (nodB x k p q):=⟨X9p hs.1 (Xp8 hs _),Xhl h hs.2 hq⟩
theorem Xc7{n:Nat}{x:Br}(h:BrOk n x)(hs:BrS x){q:Int}(hq:0≤q∧q.toNat<n) : BrS (plcB x q):=by
 unfold plcB
 split
 ·exact Xo4 h hs hq
 ·exact hs
theorem Xba{n:Nat}{x:Br}(h:BrOk n x)(hs:BrS x){q:Int}(hq:0≤q∧q.toNat<n)(m:Int) : BrS (trnB x q m):=⟨(Xc7 h hs hq).1,Xct h hs.2 hq m⟩
theorem Xwq{n:Nat}{x:Br}(h:BrOk n x)(hs:BrS x){p q:Int}(hp:0≤p∧p.toNat<n)(hq:0≤q∧q.toNat<n) : BrS (czB x p q):=by
 refine ⟨?_,Xs2 h hs.2 hp hq⟩
 have h1:=Xc7 (X3c h p) (Xc7 h hs hp) hq
 unfold czB
 dsimp only
 split
 ·exact Xby h1.1 _
 ·rename_i h9
  exact X9p h1.1 (by omega)
theorem Xy2{n:Nat}{x:Br}(h:BrOk n x)(hs:BrS x){g:Gt}(hg:gOk (n:Int) g=true) : BrS (gtB x g):=by
 have ha:=Xcf hg;have hb:=Xbn hg
 unfold gtB
 split
 ·exact hs
 split
 ·exact Xba (X24 h _) hs ha _
 split
 ·exact Xba (X24 (X4w h _ _) _) (Xba h hs ha _) ha _
 split
 ·exact Xwq (X24 h _) hs ha hb
 split
 ·exact Xwq h hs ha hb
 split
 ·exact hs
 split
 ·exact hs
 ·exact Xba h hs ha _
theorem Xs5{x:Br}{q:Int}(h:((x.d.ns.getD (x.la.getD q.toNat 0).toNat nZ).k != 3||x.hd.getD q.toNat false)=false) : plcB x q=x:=Xoy (by rw [Bool.or_comm];exact h)
theorem Xrn{x:Br}{q:Int}(h:((x.d.ns.getD (x.la.getD q.toNat 0).toNat nZ).k != 3||x.hd.getD q.toNat false)=true) : plcB x q=nodB x 3 0 q:=Xok (by rw [Bool.or_comm];exact h)
theorem Xr9{x:Br}{p q:Int}(h:p.toNat≠q.toNat) : (plcB x q).la.getD p.toNat 0=x.la.getD p.toNat 0:=by
 unfold plcB
 split
 ·show (x.la.set q.toNat _).getD p.toNat 0=_
  rw [Qa,List.getElem?_set_ne (by omega),← Qa]
 ·rfl
theorem X89(x:Br)(q:Int) : (plcB x q).d.t=x.d.t:=by unfold plcB;split<;>rfl
theorem X40(x:Br)(q m:Int) : (trnB x q m).d.t=x.d.t:=X89 x q
theorem X8v(x:Br)(p q:Int) : (czB x p q).d.t=x.d.t:=by
 unfold czB
 dsimp only
 split
 ·exact (X89 _ _).trans (X89 _ _)
 ·exact (X89 _ _).trans (X89 _ _)
def reB(x:Br) : Br:={ x with d:=outD x.d }
def g8B(x:Br)(g:Gt) : Br:=reB (gtB x g)
theorem Xw8{x y:Br}(hx:0≤x.d.t∧x.d.t≤7)(h:y.d.t=x.d.t) : reB y=y:=by
 unfold reB
 rw [Xk4 (by rw [h];exact hx)]
theorem Xst(x:Br)(g:Gt) : (gtB x g).d.t=(if (g.k==3)=true then wr (x.d.t+2) else if (g.k==12)=true then wr (x.d.t+1) else x.d.t):=by
 unfold gtB
 split
 ·rename_i h;rw [show g.k=1 by simpa using h];rfl
 split
 ·rename_i h;rw [show g.k=2 by simpa using h];exact X40 _ _ _
 split
 ·show wr ((yyB x g.a).d.t+2)=_
  rw [show (yyB x g.a).d.t=x.d.t from (X40 _ _ _).trans (X40 x g.a 4)]
 split
 ·rename_i h;rw [show g.k=9 by simpa using h];exact X8v _ _ _
 split
 ·rename_i h;rw [show g.k=10 by simpa using h];exact X8v _ _ _
 split
 ·rename_i h;rw [show g.k=11 by simpa using h];rfl
 split
 ·rfl
 ·exact X40 _ _ _
theorem X9f{x:Int}(h:-1000000≤x∧x≤1000000) : wr x=x:=IntWalk.i64_in _ ⟨by omega,by omega⟩
theorem Xif{x:Br}{g:Gt}{k:Nat}(h:0≤x.d.t∧x.d.t≤2*(k:Int))(hk:k≤1000) : 0≤(gtB x g).d.t∧(gtB x g).d.t≤2*((k+1:Nat) : Int):=by
 rw [Xst]
 have e1:=X9f (x:=x.d.t+1) (by omega)
 have e2:=X9f (x:=x.d.t+2) (by omega)
 split
 ·rw [e2];omega
 split
 ·rw [e1];omega
 ·omega
theorem Xqt(x:Br)(k p q:Int) : nodB (reB x) k p q=reB (nodB x k p q):=rfl
theorem Xd0(x:Br)(q:Int) : plcB (reB x) q=reB (plcB x q):=by
 unfold plcB
 split
 ·rename_i h
  have h2:(x.hd.getD q.toNat false||(x.d.ns.getD (x.la.getD q.toNat 0).toNat nZ).k != 3)=true:=h
  rw [Q4 h2]
  rfl
 ·rename_i h
  have h2:¬ (x.hd.getD q.toNat false||(x.d.ns.getD (x.la.getD q.toNat 0).toNat nZ).k != 3)=true:=h
  rw [Q3 h2]
theorem Xb0(x:Br)(q m:Int) : trnB (reB x) q m=reB (trnB x q m):=by
 unfold trnB
 rw [Xd0]
 rfl
theorem Xpk(x:Br)(p q:Int) : czB (reB x) p q=reB (czB x p q):=by
 unfold czB
 rw [Xd0,Xd0]
 dsimp only
 split
 ·rename_i h
  rw [Q4 (show 0≤fdW (plcB (plcB x p) q).d.ws ((plcB x p).la.getD p.toNat 0) ((plcB (plcB x p) q).la.getD q.toNat 0) from h)]
  rfl
 ·rename_i h
  rw [Q3 (show ¬ 0≤fdW (plcB (plcB x p) q).d.ws ((plcB x p).la.getD p.toNat 0) ((plcB (plcB x p) q).la.getD q.toNat 0) from h)]
  rfl
theorem X63(x:Br)(q:Int) : flpB (reB x) q=reB (flpB x q):=rfl
theorem Xvp{x:Br}(h:0≤x.d.t∧x.d.t≤3000) : reB (reB x)=reB x:=by
 unfold reB outD
 dsimp only
 congr 2
 rw [Int.tmod_eq_emod_of_nonneg h.1,Int.tmod_eq_emod_of_nonneg (by omega)]
 omega
theorem Xtm{x:Br}(g:Gt)(h:0≤x.d.t∧x.d.t≤2000) : g8B (reB x) g=reB (gtB x g):=by
 have hr:(reB x).d.t=x.d.t % 8:=Int.tmod_eq_emod_of_nonneg h.1
 have e1:=X9f (x:=x.d.t+1) (by omega)
 have e2:=X9f (x:=x.d.t+2) (by omega)
 have key:∀ y:Br,y.d.t=x.d.t→reB (reB y)=reB y:=fun y hy=>Xvp (by rw [hy];omega)
 unfold g8B gtB
 split
 ·rw [X63];exact key _ rfl
 split
 ·rw [X63,Xb0,X63];exact key _ (X40 _ _ _)
 split
 ·unfold yyB
  rw [Xb0,X63,Xb0,X63]
  have ht:(flpB (trnB (flpB (trnB x g.a 4) g.a) g.a 4) g.a).d.t=x.d.t:=(X40 _ _ _).trans (X40 x g.a 4)
  generalize flpB (trnB (flpB (trnB x g.a 4) g.a) g.a 4) g.a=y at ht
  unfold tnB reB outD
  dsimp only
  rw [ht,e2,Int.tmod_eq_emod_of_nonneg h.1,X9f (x:=x.d.t % 8+2) (by omega)]
  congr 2
  rw [Int.tmod_eq_emod_of_nonneg (by omega),Int.tmod_eq_emod_of_nonneg (by omega)]
  omega
 split
 ·rw [X63,Xpk,X63];exact key _ (X8v _ _ _)
 split
 ·rw [Xpk];exact key _ (X8v _ _ _)
 split
 ·exact key (swpB x g.a g.b) rfl
 split
 ·unfold tnB reB outD
  dsimp only
  rw [e1,Int.tmod_eq_emod_of_nonneg h.1,X9f (x:=x.d.t % 8+1) (by omega)]
  congr 2
  rw [Int.tmod_eq_emod_of_nonneg (by omega),Int.tmod_eq_emod_of_nonneg (by omega)]
  omega
 ·rw [Xb0];exact key _ (X40 _ _ _)
theorem Xpr:∀ (l:List Gt) (x:Br) (k:Nat),0≤x.d.t→x.d.t≤2*(k:Int)→k+l.length≤900→l.foldl g8B (reB x)=reB (l.foldl gtB x)
 | [],_,_,_,_,_=>rfl
 | g::l,x,k,h0,h1,hk=>by
  rw [Qs] at hk
  have h2:=Xif (x:=x) (g:=g) (k:=k) ⟨h0,h1⟩ (by omega)
  rw [List.foldl_cons,List.foldl_cons,Xtm g (by omega)]
  exact Xpr l (gtB x g) (k+1) h2.1 h2.2 (by omega)
theorem Xsl{n:Nat}{x:Br}(h:BrOk n x){g:Gt}(hg:gOk (n:Int) g=true) : BrOk n (g8B x g):=by
 have h1:=Xjm h hg;exact ⟨h1.la,h1.hd,h1.rg,h1.p⟩
theorem Xy1{n:Nat}{x:Br}(h:BrOk n x)(hs:BrS x){g:Gt}(hg:gOk (n:Int) g=true) : BrS (g8B x g):=Xy2 h hs hg
theorem Xs1(x:Br)(g:Gt) : (g8B x g).d.ns.length≤x.d.ns.length+3∧(g8B x g).d.ws.length≤x.d.ws.length+3:=Xdo x g
theorem Xxu{x:Br}{g:Gt}(h:0≤x.d.t∧x.d.t≤7) : 0≤(g8B x g).d.t∧(g8B x g).d.t≤7:=by
 have h2:=Xif (x:=x) (g:=g) (k:=4) ⟨h.1,by omega⟩ (by omega)
 have:(g8B x g).d.t=(gtB x g).d.t % 8:=Int.tmod_eq_emod_of_nonneg h2.1
 omega
section
variable {x : Br} {g : Gt}
theorem Xgt(h:0≤x.d.t∧x.d.t≤7){y:Br}(hy:gtB x g=y)(ht:y.d.t=x.d.t) : g8B x g=y:=by
 unfold g8B
 rw [hy]
 exact Xw8 h ht
end
def of8(c:Cx) : Br:=c.gs.foldl g8B (ofB0 c)
def ok8(c:Cx)(j:Nat) : Br:=(List.range j).foldl (fun x (q:Nat)=>nodB x 2 (q:Int) (q:Int)) (of8 c)
theorem Xo5(c:Cx)(j:Nat) : ok8 c (j+1)=nodB (ok8 c j) 2 (j:Int) (j:Int):=by unfold ok8;rw [List.range_succ,List.foldl_append];rfl
theorem Xq7{c:Cx}(hl:c.gs.length≤800) : of8 c=reB (ofB1 c):=Xpr c.gs (ofB0 c) 0 (Int.le_refl _) (Int.le_refl _) (by omega)
theorem Xic{c:Cx}(hl:c.gs.length≤800) : ∀ j,ok8 c j=reB (ofK c j)
 | 0=>Xq7 hl
 | j+1=>by rw [Xo5,Xjj,Xic hl j,Xqt]
theorem Xui{c:Cx}(hl:c.gs.length≤800) : (ok8 c c.n.toNat).d=ofD c:=by rw [Xic hl];rfl
theorem Xsi(c:Cx) : BrS (ofB0 c):=⟨List.Pairwise.nil,fun x hx=>by cases hx⟩
theorem Xte{p q:Cx}(h:(!(((invO q).bind (conO p)).isSome)||!(dgC (((invO q).bind (conO p)).getD cZ)))=true) : vfO p q=false:=by
 unfold vfO vfC
 revert h
 generalize ((invO q).bind (conO p)).isSome=x
 generalize dgC (((invO q).bind (conO p)).getD cZ)=y
 revert x y
 decide
theorem Xqw{p q:Cx}(h:(!(((invO q).bind (conO p)).isSome)||!(dgC (((invO q).bind (conO p)).getD cZ)))=false) : vfO p q=true∧dgC (((invO q).bind (conO p)).getD cZ)=true:=by
 unfold vfO vfC
 revert h
 generalize ((invO q).bind (conO p)).isSome=x
 generalize dgC (((invO q).bind (conO p)).getD cZ)=y
 revert x y
 decide
theorem Xvg(w0:World)(bV B0:Nat)(A0:Option Addr)(c0:Nat)(A1:Option Addr)(c1 m0:Nat)(d:Dg)(bO:Dgm w0 bV B0 A0 c0 A1 c1 m0 d)(aX:B0≤w0.heap.size)(p:Int)(q:Int)(hG:goodD d=true) : Ret Tryz.prog 170 [.pointer (some ⟨bV,0,none⟩),vi p,vi q] w0 (fun v w=>∃ A c,v=.bool (fuC d p q)∧TurnS (SB bV [A0,A1]) w0 w∧Us (SB bV [A0,A1]) w0 A∧Dgm w bV B0 A0 c0 A c m0 (if fuC d p q=true then fuD d p q else d)):=by
 obtain ⟨i,g,h,aG⟩:=bO;have cE:=i.lt
 have aY:Us (SB bV [A0,A1]) w0 A0:=SB.us (by simp)
 have b5:Us (SB bV [A0,A1]) w0 A1:=SB.us (by simp)
 have hD:=X1e hG;have cH:=hD.m;have cJ:=hD.len;have cK:=X2f d.ws q;have cF:=X3e hD q;refine enter Tryz.func170 rfl 79 rfl rfl ?_;intro a D
 have H:TurnS (SB bV [A0,A1]) w0 w0:=TurnS.refl _ _
 refine Zs D fun _ bP=>?_;refine Za rfl<|ZX bP fun a D _ bR=>?_;refine Q5 fun _ bS=>?_;refine X0a (fun a w=>Fr a 79 [(0,.pointer (some ⟨bV,0,none⟩)),(1,vi p),(2,vi q),(41,.bool (((((decide (p<0))||(decide (q≤p)))||(!(spI d.ns p)))||(!(spI d.ns q)))||((tyW d.ws p q) != 1)))]∧Below w0.heap.size w0 w) ?_ ?_
 ·have N:=bz w0
  refine Zr D<|Zm rfl<|Ze (X0l rfl rfl)<|Zm rfl ?_
  refine Zg 12 rfl (fun I=>?_) (fun I=>?_)
  ·refine Zp (gP I) ?_;refine Zp (gP I) ?_;refine Zp (gP I) ?_;refine Ze (X7 rfl I rfl)<|Zm rfl<|Zp (gP rfl) ?_;refine Zp (gP rfl) ?_;refine Zp (gP rfl) ?_;refine Zp (gP rfl) ?_;refine Zp (gP rfl) ?_;refine Zp (gP rfl) ?_;refine Ze (X7 rfl rfl rfl)<|Zm rfl<|Zp (gP rfl) ?_;refine Zp (gP rfl) ?_;refine Zp (gP rfl) ?_;refine Zp (gP rfl) ?_;refine Zp (gP rfl) ?_;refine Zp (gP rfl) ?_;refine Ze (X7 rfl rfl rfl)<|Zm rfl<|Zp (gP rfl) ?_;refine Zp (gP rfl) ?_;refine Zp (gP rfl) ?_;refine Zp (gP rfl) ?_;refine Zp (gP rfl) ?_;refine Zp (gP rfl) ?_;refine Zp (gP rfl) ?_;refine Ze (X7 rfl rfl rfl) ?_;refine Zn fun a D=>?_
   have aA:Below w0.heap.size w0 w0:=N
   exact ⟨D.sub ⟨rfl,rfl,rfl,X1 rfl (by first|rfl|(simp only [I,bs];done)|simp [I]),trivial⟩,aA⟩
  refine Zv (gW I) (X3 rfl) ?_;refine Zv (gW I) (X3 rfl) ?_;refine Zv (gW I) (X4g rfl rfl) ?_;refine Ze (Xe rfl I rfl)<|Zm rfl ?_
  refine Zg 17 rfl (fun C=>?_) (fun C=>?_)
  ·refine Zp (gP C) ?_;refine Zp (gP C) ?_;refine Zp (gP C) ?_;refine Zp (gP C) ?_;refine Zp (gP C) ?_;refine Zp (gP C) ?_;refine Ze (X7 rfl C rfl)<|Zm rfl<|Zp (gP rfl) ?_;refine Zp (gP rfl) ?_;refine Zp (gP rfl) ?_;refine Zp (gP rfl) ?_;refine Zp (gP rfl) ?_;refine Zp (gP rfl) ?_;refine Ze (X7 rfl rfl rfl)<|Zm rfl<|Zp (gP rfl) ?_;refine Zp (gP rfl) ?_;refine Zp (gP rfl) ?_;refine Zp (gP rfl) ?_;refine Zp (gP rfl) ?_;refine Zp (gP rfl) ?_;refine Zp (gP rfl) ?_;refine Ze (X7 rfl rfl rfl) ?_;refine Zn fun a D=>?_
   have aA:Below w0.heap.size w0 w0:=N
   exact ⟨D.sub ⟨rfl,rfl,rfl,X1 rfl (by first|rfl|(simp only [I,C,bs];done)|simp [I,C]),trivial⟩,aA⟩
  refine Zv (gW C) (X3 rfl) ?_;refine Zv (gW C) (Xz rfl) ?_;refine Zv (gW C) (X04 (l:=[vi d.n,.slice A0 m0 c0,.slice A1 d.ws.length c1,vi d.t,vi d.r]) rfl X2 (i.at 0) rfl) ?_;refine Zv (gW C) (X3 rfl) ?_;refine Zk (gW C) (Vc (X60 _ d m0 aG A0 c0 g.rd.top A1 c1 h.rd.top h.cap p (by omega)) X36) ?_;rintro _ w1 ⟨rfl,y⟩;have i:=i.below y;have g:=g.below y;have h:=h.below y;have H:=tsbel H y;have N:=btr N y;refine Zv (gW C) (X0y rfl) ?_;refine Ze (Xe rfl C rfl)<|Zm rfl ?_
  refine Zg 25 rfl (fun E=>?_) (fun E=>?_)
  ·refine Zp (gP E) ?_;refine Zp (gP E) ?_;refine Zp (gP E) ?_;refine Zp (gP E) ?_;refine Zp (gP E) ?_;refine Zp (gP E) ?_;refine Ze (X7 rfl E rfl)<|Zm rfl<|Zp (gP rfl) ?_;refine Zp (gP rfl) ?_;refine Zp (gP rfl) ?_;refine Zp (gP rfl) ?_;refine Zp (gP rfl) ?_;refine Zp (gP rfl) ?_;refine Zp (gP rfl) ?_;refine Ze (X7 rfl rfl rfl) ?_;refine Zn fun a D=>?_
   have aA:Below w0.heap.size w0 w1:=N
   exact ⟨D.sub ⟨rfl,rfl,rfl,X1 rfl (by first|rfl|(simp only [I,C,E,bs];done)|simp [I,C,E]),trivial⟩,aA⟩
  refine Zv (gW E) (X3 rfl) ?_;refine Zv (gW E) (Xz rfl) ?_;refine Zv (gW E) (X04 (l:=[vi d.n,.slice A0 m0 c0,.slice A1 d.ws.length c1,vi d.t,vi d.r]) rfl X2 (i.at 0) rfl) ?_;refine Zv (gW E) (X3 rfl) ?_;refine Zk (gW E) (Vc (X60 _ d m0 aG A0 c0 g.rd.top A1 c1 h.rd.top h.cap q (by omega)) X36) ?_;rintro _ w2 ⟨rfl,y⟩;have i:=i.below y;have g:=g.below y;have h:=h.below y;have H:=tsbel H y;have N:=btr N y;refine Zv (gW E) (X0y rfl) ?_;refine Ze (Xe rfl E rfl)<|Zm rfl ?_
  refine Zg 33 rfl (fun G=>?_) (fun G=>?_)
  ·refine Zp (gP G) ?_;refine Zp (gP G) ?_;refine Zp (gP G) ?_;refine Zp (gP G) ?_;refine Zp (gP G) ?_;refine Zp (gP G) ?_;refine Zp (gP G) ?_;refine Ze (X7 rfl G rfl) ?_;refine Zn fun a D=>?_
   have aA:Below w0.heap.size w0 w2:=N
   exact ⟨D.sub ⟨rfl,rfl,rfl,X1 rfl (by first|rfl|(simp only [I,C,E,G,bs];done)|simp [I,C,E,G]),trivial⟩,aA⟩
  refine Zv (gW G) (X3 rfl) ?_;refine Zv (gW G) (Xz rfl) ?_;refine Zv (gW G) (X04 (l:=[vi d.n,.slice A0 m0 c0,.slice A1 d.ws.length c1,vi d.t,vi d.r]) rfl X2 (i.at 0) rfl) ?_;refine Zv (gW G) (X3 rfl) ?_;refine Zv (gW G) (X3 rfl) ?_;refine Zk (gW G) (Vc (X5u _ d m0 aG A0 c0 g.rd.top A1 c1 h.rd.top h.cap p q (by omega)) X32) ?_;rintro _ w3 ⟨rfl,y⟩;have H:=tsbel H y;have N:=btr N y;refine Zv (gW G) (X1j rfl rfl) ?_;refine Ze (Xe rfl G rfl) ?_;refine Zn fun a D=>?_
  have aA:Below w0.heap.size w0 w3:=N
  exact ⟨D.sub ⟨rfl,rfl,rfl,X1 rfl (by first|rfl|(simp only [I,C,E,G,bs];done)|simp [I,C,E,G]),trivial⟩,aA⟩
 rintro a w4 ⟨D,y⟩;have i:=i.below y;have g:=g.below y;have h:=h.below y;have H:=tsbel H y;refine bS _ _ ?_
 refine Xg D rfl (fun aC=>?_) (fun aC=>?_)
 ·have aZ:=aC;have bT:=Xqg aC;refine Zs D fun _ b6=>?_;refine Za rfl<|Zt b6 fun a D=>?_;refine Q6<|X6<|X4 D (Xt D rfl rfl) ?_
  rw [bT,Q3 Bool.false_ne_true]
  exact ⟨A1,c1,rfl,H,b5,⟨i,g,h,aG⟩⟩
 have aZ:=aC;have aR:=Xm7 aC;obtain ⟨aS,bU⟩:=Xbx aR;have cL:=X1s hD.p q.toNat;refine Q7<|bR _ _<|Zs D fun _ b7=>?_;refine Zm rfl<|Ze (Xz rfl)<|Ze (X04 (l:=[vi d.n,.slice A0 m0 c0,.slice A1 d.ws.length c1,vi d.t,vi d.r]) rfl X2 (i.at 0) rfl)<|Zf (Vc (Xix _ d m0 aG A0 c0 g.rd.top A1 c1 h.rd.top h.cap ⟨by omega,by omega⟩) Xaq) ?_;rintro _ w5 ⟨aI,aM,aJ,aN,rfl,u,x,y⟩
 have e:=Off.new (l:=[A0,A1]) u (Qb _) i.lt (alc (fun _ h9=>X8f g h9) (alc (fun _ h9=>X8f h h9) al0))
 have f:=Off.new (l:=[A0,A1]) x (Qb _) i.lt (alc (fun _ h9=>X8f g h9) (alc (fun _ h9=>X8f h h9) al0))
 have u:=u.lower H.size;have x:=x.lower H.size;have i:=i.below y;have g:=g.below y;have h:=h.below y;have H:=tsbel H y;refine Zf (Xu (zs:=[vi 0,.slice none 0 0,.slice none 0 0,vi 0,vi 0]) X0s rfl) ?_;rintro _ w6 ⟨b17,rfl,b8,y,j⟩
 have Q:bV≠b17:=by have:=i.lt;omega
 have b0:=Q0 H.size b8;have i:=i.below y;have g:=g.below y;have h:=h.below y;have u:=u.below y;have x:=x.below y;have e:=e.mono y.size;have f:=f.mono y.size;have H:=tsbel H y;refine Zo (Vw [vi d.n,.slice aI d.ns.length aM,.slice aJ d.ws.length aN,vi d.t,vi d.r] Xp j) ?_;rintro _ w7 ⟨ho,hb⟩;have aH:=j;have i:=i.only ho (by omega);have g:=g.onlyT ho aH rfl;have h:=h.onlyT ho aH rfl;have u:=u.onlyT ho aH rfl;have x:=x.onlyT ho aH rfl;have e:=e.mono (Nat.le_of_eq ho.size.symm);have f:=f.mono (Nat.le_of_eq ho.size.symm);have H:=tsonly H ho (.inr b0);have j:=hb;refine Zx b7 fun a D _ b9=>?_;refine Zm rfl<|Zm rfl<|Zf (Vc (X9d _ bV B0 A0 c0 A1 c1 m0 d ⟨i,g,h,aG⟩ (Q0 aX H.size) q bU (by omega)) X5p) ?_;rintro _ w8 ⟨bW,bX,B,U,aD,M,aU,b1⟩;have j:=j.tuN B (Ne.symm Q) (alc (nrow g j rfl) (alc (nrow h j rfl) al0));have u:=u.off B e;have x:=x.off B f
 have e:=e.tu B (alc (SB.us (A:=A0) (by simp)) (alc U al0))
 have f:=f.tu B (alc (SB.us (A:=A0) (by simp)) (alc U al0))
 have W:=SB.lift (S:=SB bV [A0,A1]) (w0:=w0) (.inl (.inl rfl)) (alc aY (alc b5 al0));have U:=Us.trans U W H.size
 have H:=tstr H B W;clear W
 clear B i;have i:=aD;clear aD
 clear g;have g:=M;clear M;refine Zx b9 fun a D _ bA=>?_;refine Zm rfl<|Zm rfl<|Ze (Vd rfl Xj 1)<|Ze (X0 rfl X00 (j.at 1))<|Zm rfl<|Ze (Xi (k:=q.toNat) rfl rfl Xs X07 u rfl (by omega) (by omega))<|Ze (X15 rfl X06 (m':=q.toNat*2+1) rfl)<|Ze (X0 rfl X9 (X0g u Xv (Xb (d:=nZ) (by omega)) 1 rfl))<|Zf (Vc (Xbd _ bV B0 A0 c0 bW bX m0 (id0 d q) ⟨i,g,aU,b1⟩ (Q0 aX H.size) p ((d.ns.getD q.toNat nZ).p) ⟨aS.1,by show p.toNat<(dpN d.ns q).length;rw [X1v];exact aS.2⟩ (X54 hD.p q) ⟨by omega,by omega⟩) X6j) ?_;rintro _ w9 ⟨bY,c4,B,a6,aD,M,aO,c5⟩;have j:=j.tuN B (Ne.symm Q) (alc (nrow g j rfl) (alc (nrow aU j rfl) al0));have u:=u.off B e;have x:=x.off B f
 have e:=e.tu B (alc (SB.us (A:=A0) (by simp)) (alc a6 al0))
 have f:=f.tu B (alc (SB.us (A:=A0) (by simp)) (alc a6 al0))
 have W:=SB.lift (S:=SB bV [A0,A1]) (w0:=w0) (.inl (.inl rfl)) (alc aY (alc U al0));have a6:=Us.trans a6 W H.size
 have H:=tstr H B W;clear W
 clear B i;have i:=aD;clear aD
 clear g;have g:=M;clear M;refine ZX bA fun a D _ bB=>?_;refine Zs D fun _ bC=>?_;refine Ze (Vn X2 j)<|Zm rfl<|Zf (Vc (X9b _ d d.ns.length rfl aI aM u.rd.top aJ aN x.rd.top x.cap q hD.w (by omega)) X5q) ?_;rintro _ cM ⟨bD,bE,rfl,J,y⟩;have J:=J.lower H.size;have i:=i.below y;have j:=j.below y;have g:=g.below y;have u:=u.below y;have x:=x.below y;have aO:=aO.below y;have e:=e.mono y.size;have f:=f.mono y.size;have H:=tsbel H y;refine Ze (X0d rfl Xl)<|Zm rfl<|Zt bC fun a D=>?_;refine Q8<|X01 (σ:=Nat×Dg) (fun (s:Nat×Dg) (a:Act) (w:World)=>match s with|(k,o)=>∃ aB aK,Fr a 79 [(0,.pointer (some ⟨bV,0,none⟩)),(1,vi p),(2,vi q),(7,.pointer (some ⟨b17,0,none⟩)),(60,.slice bD (nearW d.ws q).length bE),(61,vi ((nearW d.ws q).length:Int)),(62,vi (k:Int))]∧(k≤(nearW d.ws q).length)∧(o=fuS d p q ((nearW d.ws q).take k) (fu0 d p q))∧(m0=o.ns.length)∧(FuI d p q k o)∧Blk w bV 39 [vi o.n,.slice A0 m0 c0,.slice aB o.ws.length aK,vi o.t,vi o.r]∧Blk w b17 39 [vi d.n,.slice aI d.ns.length aM,.slice aJ d.ws.length aN,vi d.t,vi d.r]∧Own w B0 81 2 encNd A0 c0 o.ns∧Own w w0.heap.size 81 2 encNd aI aM d.ns∧Own w w0.heap.size 83 3 encWr aJ aN d.ws∧Own w w0.heap.size 3 1 encI bD bE (nearW d.ws q)∧Own w B0 83 3 encWr aB aK o.ws∧Off w bV [A0,aB] aI∧Off w bV [A0,aB] aJ∧Us (SB bV [A0,A1]) w0 aB∧TurnS (SB bV [A0,A1]) w0 w) (fun (s:Nat×Dg)=>match s with|(k,o)=>(nearW d.ws q).length-k) (0,(fu0 d p q)) ?_ ?_
 ·exact ⟨bY,c4,D.sb,(Qf _),rfl,(aG.trans (X6h d p q).1.symm),(FuI.init hG),i,j,g,u,x,J,aO,e,f,a6,H⟩
 rintro ⟨k,o⟩ a cN ⟨aB,aK,D,hk,b2,aT,aE,i,j,g,u,x,J,a7,e,f,aP,H⟩;refine Zs D fun _ bF=>?_;refine Ze (X0l rfl rfl)<|ZX bF fun a D _ bG=>?_
 refine Xg D rfl (fun L=>?_) (fun L=>?_)
 ·have b3:=L;have L:=Q2 L
  obtain ⟨cO,cG⟩:=X5 (l:=(nearW d.ws q)) (k:=k) (by omega)
  obtain ⟨u9,aL⟩:=X5 (l:=(nearW d.ws q)) (k:=k) (by have:=L;omega)
  have bH:=X6g hD aL;refine Q7<|bG _ _<|Q5 fun _ aW=>?_;refine Q8<|Zs D fun _ bJ=>?_;refine Ze (Xi (k:=k) rfl rfl Xl X08 J rfl rfl (by omega))<|Ze (X0 rfl X9 (X0g J Xf aL 0 rfl))<|Za rfl<|Zx bJ fun a D _ bK=>?_;refine Zm rfl<|Zm rfl<|Ze (X1j rfl rfl)<|Zt bK fun a D=>?_
  refine Xg D rfl (fun aF=>?_) (fun aF=>?_)
  ·have b4:=aF;have aQ:=Xb2 (d:=d) (a:=p) (b:=q) (o:=fu0 d p q) aL
   rw [← b2,Xof aF] at aQ
   have cA:=X67 o p u9 (tyW d.ws q u9==2);refine Zr D<|Zm rfl<|Zm rfl<|Zm rfl<|Ze (Vn X2 j)<|Zm rfl<|Zm rfl<|Zf (Vc (X5u _ d d.ns.length rfl aI aM u.rd.top aJ aN x.rd.top x.cap q u9 (by omega)) X32) ?_;rintro _ cP ⟨rfl,y⟩;have i:=i.below y;have j:=j.below y;have g:=g.below y;have u:=u.below y;have x:=x.below y;have J:=J.below y;have a7:=a7.below y;have e:=e.mono y.size;have f:=f.mono y.size;have H:=tsbel H y;refine Ze (X0b rfl rfl)<|Zf (Vc (Xpl _ bV B0 A0 c0 aB aK m0 o ⟨i,g,a7,aT⟩ (Q0 aX H.size) p u9 ((tyW d.ws q u9)==2) aE.s (by have:=aE.c;omega) ⟨⟨aS.1,by rw [aE.l];exact aS.2⟩,⟨bH.1,by rw [aE.l];exact bH.2⟩⟩ aE.p (by omega) (aE.hab hD aR aL)) Xdv) ?_;rintro _ cQ ⟨cB,cC,B,a8,aD,M,bL,cD⟩;have j:=j.tuN B (Ne.symm Q) (alc (nrow g j rfl) (alc (nrow a7 j rfl) al0));have u:=u.off B e;have x:=x.off B f;have J:=J.tu B i rfl (alc (X0n g rfl) (alc (X0n a7 rfl) al0))
   have e:=e.tu B (alc (SB.us (A:=A0) (by simp)) (alc a8 al0))
   have f:=f.tu B (alc (SB.us (A:=A0) (by simp)) (alc a8 al0))
   have W:=SB.lift (S:=SB bV [A0,A1]) (w0:=w0) (.inl (.inl rfl)) (alc aY (alc aP al0));have a8:=Us.trans a8 W H.size
   have H:=tstr H B W;clear W
   clear B i;have i:=aD;clear aD
   clear g;have g:=M;clear M;refine Zn fun a D=>?_;refine Xa<|aW _ _<|Zr D<|Ze (Xw rfl rfl (by omega) (by omega))<|Zm rfl ?_;refine Zn fun a D=>?_;refine Xh ?_;exact ⟨(k+1,(mtD o p u9 ((tyW d.ws q u9)==2))),⟨cB,cC,D.sb,(by omega),aQ.symm,(aT.trans cA.1.symm),(aE.step hD aR aL),i,j,g,u,x,J,bL,e,f,a8,H⟩,(by first|omega|(dsimp only;omega))⟩
  have b4:=aF;have aQ:=Xb2 (d:=d) (a:=p) (b:=q) (o:=fu0 d p q) aL
  rw [← b2,Xoj aF] at aQ
  refine Q7<|Xa<|aW _ _<|Zr D ?_;refine Ze (Xw rfl rfl (by omega) (by omega))<|Zm rfl ?_;refine Zn fun a D=>?_;refine Xh ?_;exact ⟨(k+1,o),⟨aB,aK,D.sb,(by omega),aQ.symm,aT,aE.skip,i,j,g,u,x,J,a7,e,f,aP,H⟩,(by first|omega|(dsimp only;omega))⟩
 have b3:=L;have L:=Q1 L
 have bM:o=fuD d p q:=by rw [b2,Qi (by have:=L;omega)];rfl
 refine Q9<|Xk<|Xk<|X03 ?_;refine bB _ _<|Zs D fun _ bN=>?_;refine Za rfl<|Zt bN fun a D=>?_
 refine Q6 (X4 D (Xt D rfl rfl) ?_)
 rw [aR,Q4 rfl,← bM]
 exact ⟨aB,aK,rfl,H,aP,⟨i,g,a7,aT⟩⟩
theorem Xtl(w0:World)(bV B0:Nat)(A0:Option Addr)(c0:Nat)(A1:Option Addr)(c1 m0:Nat)(d:Dg)(eR:Dgm w0 bV B0 A0 c0 A1 c1 m0 d)(bL:B0≤w0.heap.size)(p:Int)(q:Int)(hG:goodD d=true) : Ret Tryz.prog 173 [.pointer (some ⟨bV,0,none⟩),vi p,vi q] w0 (fun v w=>∃ A c,v=.bool (pvC d p q)∧TurnS (SB bV [A0,A1]) w0 w∧Us (SB bV [A0,A1]) w0 A∧Dgm w bV B0 A0 c0 A c m0 (if pvC d p q=true then outD (pvD d p q) else d)):=by
 obtain ⟨b,e,C,aS⟩:=eR;have fR:=b.lt
 have bM:Us (SB bV [A0,A1]) w0 A0:=SB.us (by simp)
 have cC:Us (SB bV [A0,A1]) w0 A1:=SB.us (by simp)
 have hD:=X1e hG;have eS:=X6m hG;have fW:=hD.m;have fX:=hD.len;have fY:=X2f d.ws p;have cV:=X2f (dpW d.ws p) q;have fS:=X70 hD p q;have fT:=X70 hD q p;have fZ:=Xaj hD p q;have g5:=X1s hD.p p.toNat;have g6:=X1s hD.p q.toNat;refine enter Tryz.func173 rfl 233 rfl rfl ?_;intro a B
 have D:TurnS (SB bV [A0,A1]) w0 w0:=TurnS.refl _ _
 refine Zs B fun _ eT=>?_;refine Za rfl<|ZX eT fun a B _ eU=>?_;refine Q5 fun _ eX=>?_;refine X0a (fun a w=>Fr a 233 [(0,.pointer (some ⟨bV,0,none⟩)),(1,vi p),(2,vi q),(75,.bool (((((((decide (p<0))||(decide (q≤p)))||(!(spI d.ns p)))||(!(spI d.ns q)))||((tyW d.ws p q) != 2))||((((d.ns.getD p.toNat nZ).p).tmod 4) != 0))||((((d.ns.getD q.toNat nZ).p).tmod 4) != 0)))]∧Below w0.heap.size w0 w) ?_ ?_
 ·have L:=bz w0
  refine Zr B<|Zm rfl<|Ze (X0l rfl rfl)<|Zm rfl ?_
  refine Zg 22 rfl (fun aF=>?_) (fun aF=>?_)
  ·refine Zp (gP aF) ?_;refine Zp (gP aF) ?_;refine Zp (gP aF) ?_;refine Ze (X7 rfl aF rfl)<|Zm rfl<|Zp (gP rfl) ?_;refine Zp (gP rfl) ?_;refine Zp (gP rfl) ?_;refine Zp (gP rfl) ?_;refine Zp (gP rfl) ?_;refine Zp (gP rfl) ?_;refine Ze (X7 rfl rfl rfl)<|Zm rfl<|Zp (gP rfl) ?_;refine Zp (gP rfl) ?_;refine Zp (gP rfl) ?_;refine Zp (gP rfl) ?_;refine Zp (gP rfl) ?_;refine Zp (gP rfl) ?_;refine Ze (X7 rfl rfl rfl)<|Zm rfl<|Zp (gP rfl) ?_;refine Zp (gP rfl) ?_;refine Zp (gP rfl) ?_;refine Zp (gP rfl) ?_;refine Zp (gP rfl) ?_;refine Zp (gP rfl) ?_;refine Zp (gP rfl) ?_;refine Ze (X7 rfl rfl rfl)<|Zm rfl<|Zp (gP rfl) ?_;refine Zp (gP rfl) ?_;refine Zp (gP rfl) ?_;refine Zp (gP rfl) ?_;refine Zp (gP rfl) ?_;refine Zp (gP rfl) ?_;refine Zp (gP rfl) ?_;refine Zp (gP rfl) ?_;refine Zp (gP rfl) ?_;refine Zp (gP rfl) ?_;refine Ze (X7 rfl rfl rfl)<|Zm rfl<|Zp (gP rfl) ?_;refine Zp (gP rfl) ?_;refine Zp (gP rfl) ?_;refine Zp (gP rfl) ?_;refine Zp (gP rfl) ?_;refine Zp (gP rfl) ?_;refine Zp (gP rfl) ?_;refine Zp (gP rfl) ?_;refine Zp (gP rfl) ?_;refine Zp (gP rfl) ?_;refine Ze (X7 rfl rfl rfl) ?_;refine Zn fun a B=>?_
   have Q:Below w0.heap.size w0 w0:=L
   exact ⟨B.sub ⟨rfl,rfl,rfl,X1 rfl (by first|rfl|(simp only [aF,bs];done)|simp [aF]),trivial⟩,Q⟩
  refine Zv (gW aF) (X3 rfl) ?_;refine Zv (gW aF) (X3 rfl) ?_;refine Zv (gW aF) (X4g rfl rfl) ?_;refine Ze (Xe rfl aF rfl)<|Zm rfl ?_
  refine Zg 27 rfl (fun U=>?_) (fun U=>?_)
  ·refine Zp (gP U) ?_;refine Zp (gP U) ?_;refine Zp (gP U) ?_;refine Zp (gP U) ?_;refine Zp (gP U) ?_;refine Zp (gP U) ?_;refine Ze (X7 rfl U rfl)<|Zm rfl<|Zp (gP rfl) ?_;refine Zp (gP rfl) ?_;refine Zp (gP rfl) ?_;refine Zp (gP rfl) ?_;refine Zp (gP rfl) ?_;refine Zp (gP rfl) ?_;refine Ze (X7 rfl rfl rfl)<|Zm rfl<|Zp (gP rfl) ?_;refine Zp (gP rfl) ?_;refine Zp (gP rfl) ?_;refine Zp (gP rfl) ?_;refine Zp (gP rfl) ?_;refine Zp (gP rfl) ?_;refine Zp (gP rfl) ?_;refine Ze (X7 rfl rfl rfl)<|Zm rfl<|Zp (gP rfl) ?_;refine Zp (gP rfl) ?_;refine Zp (gP rfl) ?_;refine Zp (gP rfl) ?_;refine Zp (gP rfl) ?_;refine Zp (gP rfl) ?_;refine Zp (gP rfl) ?_;refine Zp (gP rfl) ?_;refine Zp (gP rfl) ?_;refine Zp (gP rfl) ?_;refine Ze (X7 rfl rfl rfl)<|Zm rfl<|Zp (gP rfl) ?_;refine Zp (gP rfl) ?_;refine Zp (gP rfl) ?_;refine Zp (gP rfl) ?_;refine Zp (gP rfl) ?_;refine Zp (gP rfl) ?_;refine Zp (gP rfl) ?_;refine Zp (gP rfl) ?_;refine Zp (gP rfl) ?_;refine Zp (gP rfl) ?_;refine Ze (X7 rfl rfl rfl) ?_;refine Zn fun a B=>?_
   have Q:Below w0.heap.size w0 w0:=L
   exact ⟨B.sub ⟨rfl,rfl,rfl,X1 rfl (by first|rfl|(simp only [aF,U,bs];done)|simp [aF,U]),trivial⟩,Q⟩
  refine Zv (gW U) (X3 rfl) ?_;refine Zv (gW U) (Xz rfl) ?_;refine Zv (gW U) (X04 (l:=[vi d.n,.slice A0 m0 c0,.slice A1 d.ws.length c1,vi d.t,vi d.r]) rfl X2 (b.at 0) rfl) ?_;refine Zv (gW U) (X3 rfl) ?_;refine Zk (gW U) (Vc (X60 _ d m0 aS A0 c0 e.rd.top A1 c1 C.rd.top C.cap p (by omega)) X36) ?_;rintro _ w1 ⟨rfl,h⟩;have b:=b.below h;have e:=e.below h;have C:=C.below h;have D:=tsbel D h;have L:=btr L h;refine Zv (gW U) (X0y rfl) ?_;refine Ze (Xe rfl U rfl)<|Zm rfl ?_
  refine Zg 35 rfl (fun a7=>?_) (fun a7=>?_)
  ·refine Zp (gP a7) ?_;refine Zp (gP a7) ?_;refine Zp (gP a7) ?_;refine Zp (gP a7) ?_;refine Zp (gP a7) ?_;refine Zp (gP a7) ?_;refine Ze (X7 rfl a7 rfl)<|Zm rfl<|Zp (gP rfl) ?_;refine Zp (gP rfl) ?_;refine Zp (gP rfl) ?_;refine Zp (gP rfl) ?_;refine Zp (gP rfl) ?_;refine Zp (gP rfl) ?_;refine Zp (gP rfl) ?_;refine Ze (X7 rfl rfl rfl)<|Zm rfl<|Zp (gP rfl) ?_;refine Zp (gP rfl) ?_;refine Zp (gP rfl) ?_;refine Zp (gP rfl) ?_;refine Zp (gP rfl) ?_;refine Zp (gP rfl) ?_;refine Zp (gP rfl) ?_;refine Zp (gP rfl) ?_;refine Zp (gP rfl) ?_;refine Zp (gP rfl) ?_;refine Ze (X7 rfl rfl rfl)<|Zm rfl<|Zp (gP rfl) ?_;refine Zp (gP rfl) ?_;refine Zp (gP rfl) ?_;refine Zp (gP rfl) ?_;refine Zp (gP rfl) ?_;refine Zp (gP rfl) ?_;refine Zp (gP rfl) ?_;refine Zp (gP rfl) ?_;refine Zp (gP rfl) ?_;refine Zp (gP rfl) ?_;refine Ze (X7 rfl rfl rfl) ?_;refine Zn fun a B=>?_
   have Q:Below w0.heap.size w0 w1:=L
   exact ⟨B.sub ⟨rfl,rfl,rfl,X1 rfl (by first|rfl|(simp only [aF,U,a7,bs];done)|simp [aF,U,a7]),trivial⟩,Q⟩
  have cW:0≤p∧p.toNat<d.ns.length:=by have h9:=X19 (ns:=d.ns) (k:=p) (by simpa using a7);exact ⟨h9.1,h9.2.1⟩
  refine Zv (gW a7) (X3 rfl) ?_;refine Zv (gW a7) (Xz rfl) ?_;refine Zv (gW a7) (X04 (l:=[vi d.n,.slice A0 m0 c0,.slice A1 d.ws.length c1,vi d.t,vi d.r]) rfl X2 (b.at 0) rfl) ?_;refine Zv (gW a7) (X3 rfl) ?_;refine Zk (gW a7) (Vc (X60 _ d m0 aS A0 c0 e.rd.top A1 c1 C.rd.top C.cap q (by omega)) X36) ?_;rintro _ w2 ⟨rfl,h⟩;have b:=b.below h;have e:=e.below h;have C:=C.below h;have D:=tsbel D h;have L:=btr L h;refine Zv (gW a7) (X0y rfl) ?_;refine Ze (Xe rfl a7 rfl)<|Zm rfl ?_
  refine Zg 43 rfl (fun a8=>?_) (fun a8=>?_)
  ·refine Zp (gP a8) ?_;refine Zp (gP a8) ?_;refine Zp (gP a8) ?_;refine Zp (gP a8) ?_;refine Zp (gP a8) ?_;refine Zp (gP a8) ?_;refine Zp (gP a8) ?_;refine Ze (X7 rfl a8 rfl)<|Zm rfl<|Zp (gP rfl) ?_;refine Zp (gP rfl) ?_;refine Zp (gP rfl) ?_;refine Zp (gP rfl) ?_;refine Zp (gP rfl) ?_;refine Zp (gP rfl) ?_;refine Zp (gP rfl) ?_;refine Zp (gP rfl) ?_;refine Zp (gP rfl) ?_;refine Zp (gP rfl) ?_;refine Ze (X7 rfl rfl rfl)<|Zm rfl<|Zp (gP rfl) ?_;refine Zp (gP rfl) ?_;refine Zp (gP rfl) ?_;refine Zp (gP rfl) ?_;refine Zp (gP rfl) ?_;refine Zp (gP rfl) ?_;refine Zp (gP rfl) ?_;refine Zp (gP rfl) ?_;refine Zp (gP rfl) ?_;refine Zp (gP rfl) ?_;refine Ze (X7 rfl rfl rfl) ?_;refine Zn fun a B=>?_
   have Q:Below w0.heap.size w0 w2:=L
   exact ⟨B.sub ⟨rfl,rfl,rfl,X1 rfl (by first|rfl|(simp only [aF,U,a7,a8,bs];done)|simp [aF,U,a7,a8]),trivial⟩,Q⟩
  have cD:0≤q∧q.toNat<d.ns.length:=by have h9:=X19 (ns:=d.ns) (k:=q) (by simpa using a8);exact ⟨h9.1,h9.2.1⟩
  refine Zv (gW a8) (X3 rfl) ?_;refine Zv (gW a8) (Xz rfl) ?_;refine Zv (gW a8) (X04 (l:=[vi d.n,.slice A0 m0 c0,.slice A1 d.ws.length c1,vi d.t,vi d.r]) rfl X2 (b.at 0) rfl) ?_;refine Zv (gW a8) (X3 rfl) ?_;refine Zv (gW a8) (X3 rfl) ?_;refine Zk (gW a8) (Vc (X5u _ d m0 aS A0 c0 e.rd.top A1 c1 C.rd.top C.cap p q (by omega)) X32) ?_;rintro _ w3 ⟨rfl,h⟩;have b:=b.below h;have e:=e.below h;have D:=tsbel D h;have L:=btr L h;refine Zv (gW a8) (X1j rfl rfl) ?_;refine Ze (Xe rfl a8 rfl)<|Zm rfl ?_
  refine Zg 52 rfl (fun E=>?_) (fun E=>?_)
  ·refine Zp (gP E) ?_;refine Zp (gP E) ?_;refine Zp (gP E) ?_;refine Zp (gP E) ?_;refine Zp (gP E) ?_;refine Zp (gP E) ?_;refine Zp (gP E) ?_;refine Zp (gP E) ?_;refine Zp (gP E) ?_;refine Zp (gP E) ?_;refine Ze (X7 rfl E rfl)<|Zm rfl<|Zp (gP rfl) ?_;refine Zp (gP rfl) ?_;refine Zp (gP rfl) ?_;refine Zp (gP rfl) ?_;refine Zp (gP rfl) ?_;refine Zp (gP rfl) ?_;refine Zp (gP rfl) ?_;refine Zp (gP rfl) ?_;refine Zp (gP rfl) ?_;refine Zp (gP rfl) ?_;refine Ze (X7 rfl rfl rfl) ?_;refine Zn fun a B=>?_
   have Q:Below w0.heap.size w0 w3:=L
   exact ⟨B.sub ⟨rfl,rfl,rfl,X1 rfl (by first|rfl|(simp only [aF,U,a7,a8,E,bs];done)|simp [aF,U,a7,a8,E]),trivial⟩,Q⟩
  refine Zv (gW E) (X3 rfl) ?_;refine Zv (gW E) (Xz rfl) ?_;refine Zv (gW E) (Vd rfl Xj 1) ?_;refine Zv (gW E) (X0 rfl X00 (b.at 1)) ?_;refine Zv (gW E) (X3 rfl) ?_;refine Zv (gW E) (Xi (k:=p.toNat) rfl rfl Xs X07 e aS (by omega) (by omega)) ?_;refine Zv (gW E) (X15 rfl X06 (m':=p.toNat*2+1) rfl) ?_;refine Zv (gW E) (X0 rfl X9 (X0g e Xv (Xb (d:=nZ) (by omega)) 1 rfl)) ?_;refine Zv (gW E) (X4v rfl rfl rfl) ?_;refine Zv (gW E) (X1j rfl rfl) ?_;refine Ze (Xe rfl E rfl)<|Zm rfl ?_
  refine Zg 64 rfl (fun G=>?_) (fun G=>?_)
  ·refine Zp (gP G) ?_;refine Zp (gP G) ?_;refine Zp (gP G) ?_;refine Zp (gP G) ?_;refine Zp (gP G) ?_;refine Zp (gP G) ?_;refine Zp (gP G) ?_;refine Zp (gP G) ?_;refine Zp (gP G) ?_;refine Zp (gP G) ?_;refine Ze (X7 rfl G rfl) ?_;refine Zn fun a B=>?_
   have Q:Below w0.heap.size w0 w3:=L
   exact ⟨B.sub ⟨rfl,rfl,rfl,X1 rfl (by first|rfl|(simp only [aF,U,a7,a8,E,G,bs];done)|simp [aF,U,a7,a8,E,G]),trivial⟩,Q⟩
  refine Zv (gW G) (X3 rfl) ?_;refine Zv (gW G) (Xz rfl) ?_;refine Zv (gW G) (Vd rfl Xj 1) ?_;refine Zv (gW G) (X0 rfl X00 (b.at 1)) ?_;refine Zv (gW G) (X3 rfl) ?_;refine Zv (gW G) (Xi (k:=q.toNat) rfl rfl Xs X07 e aS (by omega) (by omega)) ?_;refine Zv (gW G) (X15 rfl X06 (m':=q.toNat*2+1) rfl) ?_;refine Zv (gW G) (X0 rfl X9 (X0g e Xv (Xb (d:=nZ) (by omega)) 1 rfl)) ?_;refine Zv (gW G) (X4v rfl rfl rfl) ?_;refine Zv (gW G) (X1j rfl rfl) ?_;refine Ze (Xe rfl G rfl) ?_;refine Zn fun a B=>?_
  have Q:Below w0.heap.size w0 w3:=L
  exact ⟨B.sub ⟨rfl,rfl,rfl,X1 rfl (by first|rfl|(simp only [aF,U,a7,a8,E,G,bs];done)|simp [aF,U,a7,a8,E,G]),trivial⟩,Q⟩
 rintro a w4 ⟨B,h⟩;have b:=b.below h;have e:=e.below h;have C:=C.below h;have D:=tsbel D h;refine eX _ _ ?_
 refine Xg B rfl (fun b5=>?_) (fun b5=>?_)
 ·have H:=b5;have cE:=Xkh hD b5;refine Zs B fun _ cX=>?_;refine Za rfl<|Zt cX fun a B=>?_;refine Q6<|X6<|X4 B (Xt B rfl rfl) ?_
  rw [cE,Q3 Bool.false_ne_true]
  exact ⟨A1,c1,rfl,D,cC,⟨b,e,C,aS⟩⟩
 have H:=b5;obtain ⟨cW,cD,bN,cY,d5,hab⟩:=Xjd hD b5;refine Q7<|eU _ _<|Q5 fun _ d6=>?_;refine X05 none (fun _=>false) mixed ?_;intro w5 h;have b:=b.below h;have e:=e.below h;have C:=C.below h;have D:=tsbel D h;refine Yb B<|Yo 0 rfl (fun _=>X3 rfl)<|Yo 1 rfl (fun _=>Xz rfl)<|Ye 2 rfl (X04 (l:=[vi d.n,.slice A0 m0 c0,.slice A1 d.ws.length c1,vi d.t,vi d.r]) rfl X2 (b.at 0) rfl)<|Yo 3 rfl (fun _=>X3 rfl)<|Yo 5 rfl (fun _=>X3 rfl)<|Yo 7 rfl (fun _=>X3 rfl)<|Yo 8 rfl (fun _=>Xz rfl)<|Ye 9 rfl (X04 (l:=[vi d.n,.slice A0 m0 c0,.slice A1 d.ws.length c1,vi d.t,vi d.r]) rfl X2 (b.at 0) rfl)<|Yo 10 rfl (fun _=>X3 rfl)<|Yo 12 rfl (fun _=>X3 rfl) ?_;refine Y1 4<|Yk rfl trivial (Vc (X9b _ d m0 aS A0 c0 e.rd.top A1 c1 C.rd.top C.cap p hD.w (by omega)) X5q) (fun _ _ ⟨d7,d8,_,aN,h⟩=>h) ?_;rintro _ w6 ⟨d7,d8,rfl,aN,h⟩;have aN:=aN.lower D.size;have b:=b.below h;have e:=e.below h;have C:=C.below h;have D:=tsbel D h;refine Y1 6<|Yk rfl trivial (Vc (Xob _ d7 d8 (nearW d.ws p) aN.rd.top q (by have:=X3e hD p;omega)) Xfz) (fun _ _ ⟨aB,aC,_,f,h⟩=>h) ?_;rintro _ w7 ⟨aB,aC,rfl,f,h⟩;have cP:=aN.apart f (Qb _);have f:=f.lower D.size;have b:=b.below h;have e:=e.below h;have C:=C.below h;have aN:=aN.below h;have D:=tsbel D h;refine Y1 11<|Yk rfl trivial (Vc (X9b _ d m0 aS A0 c0 e.rd.top A1 c1 C.rd.top C.cap q hD.w (by omega)) X5q) (fun _ _ ⟨d9,dB,_,aZ,h⟩=>h) ?_;rintro _ w8 ⟨d9,dB,rfl,aZ,h⟩;have cQ:=aN.apart aZ (Qb _);have cR:=f.apart aZ (Qb _);have aZ:=aZ.lower D.size
 have b:=b.below h;have e:=e.below h;have C:=C.below h;have aN:=aN.below h;have f:=f.below h;have D:=tsbel D h;refine Y1 13<|Yk rfl trivial (Vc (Xob _ d9 dB (nearW d.ws q) aZ.rd.top p (by have:=X3e hD q;omega)) Xfz) (fun _ _ ⟨aD,aE,_,y,h⟩=>h) ?_;rintro _ w9 ⟨aD,aE,rfl,y,h⟩;have cS:=aN.apart y (Qb _);have cT:=f.apart y (Qb _);have cU:=aZ.apart y (Qb _);have y:=y.lower D.size;have b:=b.below h;have e:=e.below h;have C:=C.below h;have f:=f.below h;have D:=tsbel D h;refine Yo 14 rfl (fun _=>X11 rfl)<|Yo 15 rfl (fun _=>X11 rfl) ?_;refine Yd fun a B=>?_;refine d6 _ _<|Zs B fun _ dC=>?_;refine Zm rfl<|Zm rfl<|Zf (Xm (k:=2) (vs:=[.slice aB (othW d.ws p q).length aC,.slice aD (othW d.ws q p).length aE]) (zs:=[.slice aB (othW d.ws p q).length aC,.slice aD (othW d.ws q p).length aE]) rfl X87 Xrk rfl rfl) ?_;rintro _ g7 ⟨eY,rfl,dD,h,bX⟩;have f0:=Q0 D.size dD;have b:=b.below h;have e:=e.below h;have C:=C.below h;have f:=f.below h;have y:=y.below h;have D:=tsbel D h;refine Zf (Vc (F93 _ [(⟨aB,aC,(othW d.ws p q)⟩ : Sl),(⟨aD,aE,(othW d.ws q p)⟩ : Sl)] (some ⟨eY,0,none⟩) 2 (Rd.of_blk bX rfl _ bX.lt) (fun s hs=>by rcases Qv.1 hs with rfl|hs;exact f.rd.top;rw [Qm.1 hs];exact y.rd.top) (by simp) (by simp;omega)) Xvy) ?_;rintro _ g8 ⟨aG,aI,rfl,g,h⟩;have b3:=f.apart g (Qb _);have b4:=y.apart g (Qb _);have g:=g.lower D.size;have b:=b.below h;have e:=e.below h;have C:=C.below h;have f:=f.below h
 have y:=y.below h;have D:=tsbel D h;refine Za rfl<|Zx dC fun a B _ dE=>?_;refine Zm rfl<|Zf (Vc (F94 _ w0.heap.size aG aI (List.flatMap Sl.l [(⟨aB,aC,(othW d.ws p q)⟩ : Sl),(⟨aD,aE,(othW d.ws q p)⟩ : Sl)]) g (by simp;omega)) Xo1) ?_;rintro _ gA ⟨b6,hg⟩;have aO:=g;have b:=b.appT aO hg rfl;have e:=e.appT aO hg rfl;have C:=C.appT aO hg rfl;have f:=f.appP hg b3;have y:=y.appP hg b4
 have D:=tsrow D hg (fun _ cF=>.inr (X1t aO cF))
 clear aO hg;clear g;have g:=b6;clear b6;refine Zx dE fun a B _ dF=>?_;refine Zm rfl<|Zf (X5s (vs:=[.slice aG (List.flatMap Sl.l [(⟨aB,aC,(othW d.ws p q)⟩ : Sl),(⟨aD,aE,(othW d.ws q p)⟩ : Sl)]).length aI]) rfl Xuf (by have h9:=Xxd _ w0.heap.size aG aI (sortI (List.flatMap Sl.l [(⟨aB,aC,(othW d.ws p q)⟩ : Sl),(⟨aD,aE,(othW d.ws q p)⟩ : Sl)])) ((List.flatMap Sl.l [(⟨aB,aC,(othW d.ws p q)⟩ : Sl),(⟨aD,aE,(othW d.ws q p)⟩ : Sl)]).length) (by simp [sortI]) g (by simp [sortI];omega);rw [show Lib.compact (sortI (List.flatMap Sl.l [(⟨aB,aC,(othW d.ws p q)⟩ : Sl),(⟨aD,aE,(othW d.ws q p)⟩ : Sl)]))=(pvL d p q) from by rw [← Xqb hD];unfold unionI;congr 2] at h9;exact h9)) ?_;rintro _ w13 ⟨rfl,b6,hg⟩;have aO:=g;have b:=b.appT aO hg rfl;have e:=e.appT aO hg rfl;have C:=C.appT aO hg rfl;have f:=f.appP hg b3;have y:=y.appP hg b4
 have D:=tsrow D hg (fun _ cF=>.inr (X1t aO cF))
 clear aO hg;clear g;have g:=b6;clear b6;refine Za rfl<|ZX dF fun a B _ dG=>?_;refine Q5 fun _ dH=>?_;refine X0a (fun a w=>Fr a 233 [(0,.pointer (some ⟨bV,0,none⟩)),(1,vi p),(2,vi q),(7,.slice aB (othW d.ws p q).length aC),(8,.slice aD (othW d.ws q p).length aE),(9,.slice aG (pvL d p q).length aI),(120,.bool (((!(!((othW d.ws p q).any fun x=>!(spI d.ns x)||tyW d.ws p x != 2)))||(!(!((othW d.ws q p).any fun x=>!(spI d.ns x)||tyW d.ws q x != 2))))||(prD d (pvL d p q))))]∧Below w13.heap.size w13 w) ?_ ?_
 ·have L:Below w13.heap.size w13 w13:=Below.refl _ _
  refine Zr B<|Zm rfl<|Ze (Xz rfl)<|Ze (X04 (l:=[vi d.n,.slice A0 m0 c0,.slice A1 d.ws.length c1,vi d.t,vi d.r]) rfl X2 (b.at 0) rfl)<|Zm rfl<|Zm rfl<|Zf (Vc (Xka _ d m0 aS A0 c0 e.rd.top A1 c1 C.rd.top C.cap p aB aC (othW d.ws p q) f.rd.top (by omega) (by omega) (by omega)) Xag) ?_;rintro _ w14 ⟨rfl,h⟩;have b:=b.below h;have e:=e.below h;have C:=C.below h;have y:=y.below h;have g:=g.below h;have D:=tsbel D h;have L:=btr L h;refine Ze (X0y rfl)<|Zm rfl ?_
  refine Zg 105 rfl (fun I=>?_) (fun I=>?_)
  ·refine Zp (gP I) ?_;refine Zp (gP I) ?_;refine Zp (gP I) ?_;refine Zp (gP I) ?_;refine Zp (gP I) ?_;refine Zp (gP I) ?_;refine Zp (gP I) ?_;refine Ze (X7 rfl I rfl)<|Zm rfl<|Zp (gP rfl) ?_;refine Zp (gP rfl) ?_;refine Zp (gP rfl) ?_;refine Zp (gP rfl) ?_;refine Zp (gP rfl) ?_;refine Ze (X7 rfl rfl rfl) ?_;refine Zn fun a B=>?_
   have Q:Below w13.heap.size w13 w14:=L
   exact ⟨B.sub ⟨rfl,rfl,rfl,rfl,rfl,rfl,X1 rfl (by first|rfl|(simp only [H,I,bs];done)|simp [H,I]),trivial⟩,Q⟩
  refine Zv (gW I) (X3 rfl) ?_;refine Zv (gW I) (Xz rfl) ?_;refine Zv (gW I) (X04 (l:=[vi d.n,.slice A0 m0 c0,.slice A1 d.ws.length c1,vi d.t,vi d.r]) rfl X2 (b.at 0) rfl) ?_;refine Zv (gW I) (X3 rfl) ?_;refine Zv (gW I) (X3 rfl) ?_;refine Zk (gW I) (Vc (Xka _ d m0 aS A0 c0 e.rd.top A1 c1 C.rd.top C.cap q aD aE (othW d.ws q p) y.rd.top (by omega) (by omega) (by omega)) Xag) ?_;rintro _ w15 ⟨rfl,h⟩;have b:=b.below h;have e:=e.below h;have C:=C.below h;have g:=g.below h;have D:=tsbel D h;have L:=btr L h;refine Zv (gW I) (X0y rfl) ?_;refine Ze (Xe rfl I rfl)<|Zm rfl ?_
  refine Zg 114 rfl (fun aA=>?_) (fun aA=>?_)
  ·refine Zp (gP aA) ?_;refine Zp (gP aA) ?_;refine Zp (gP aA) ?_;refine Zp (gP aA) ?_;refine Zp (gP aA) ?_;refine Ze (X7 rfl aA rfl) ?_;refine Zn fun a B=>?_
   have Q:Below w13.heap.size w13 w15:=L
   exact ⟨B.sub ⟨rfl,rfl,rfl,rfl,rfl,rfl,X1 rfl (by first|rfl|(simp only [H,I,aA,bs];done)|simp [H,I,aA]),trivial⟩,Q⟩
  refine Zv (gW aA) (X3 rfl) ?_;refine Zv (gW aA) (Xz rfl) ?_;refine Zv (gW aA) (X04 (l:=[vi d.n,.slice A0 m0 c0,.slice A1 d.ws.length c1,vi d.t,vi d.r]) rfl X2 (b.at 0) rfl) ?_;refine Zv (gW aA) (X3 rfl) ?_;refine Zk (gW aA) (Vc (Xp5 _ d m0 aS A0 c0 e.rd.top A1 c1 C.rd.top C.cap aG aI (pvL d p q) g.rd.top (by omega) (by omega) g.cap) Xfr) ?_;rintro _ w16 ⟨rfl,h⟩;have D:=tsbel D h;have L:=btr L h;refine Ze (Xe rfl aA rfl) ?_;refine Zn fun a B=>?_
  have Q:Below w13.heap.size w13 w16:=L
  exact ⟨B.sub ⟨rfl,rfl,rfl,rfl,rfl,rfl,X1 rfl (by first|rfl|(simp only [H,I,aA,bs];done)|simp [H,I,aA]),trivial⟩,Q⟩
 rintro a gB ⟨B,h⟩;have b:=b.below h;have e:=e.below h;have C:=C.below h;have f:=f.below h;have y:=y.below h;have g:=g.below h;have D:=tsbel D h;refine dH _ _ ?_
 refine Xg B rfl (fun b7=>?_) (fun b7=>?_)
 ·have W:=b7
  have cE:pvC d p q=false:=Xlx d5 b7
  refine Zs B fun _ dI=>?_;refine Za rfl<|Zt dI fun a B=>?_;refine Q6<|X6<|X4 B (Xt B rfl rfl) ?_
  rw [cE,Q3 Bool.false_ne_true]
  exact ⟨A1,c1,rfl,D,cC,⟨b,e,C,aS⟩⟩
 have W:=b7;obtain ⟨dJ,f3⟩:=Xh7 hD cY d5 b7
 have dK:∀ v ∈ pvL d p q,v.toNat<(id0 (id0 d p) q).ns.length:=fun v hv=>by obtain ⟨i,hi⟩:=List.mem_iff_getElem?.1 hv;have:=X9x hD hi;show v.toNat<(dpN (dpN d.ns p) q).length;rw [X1v,X1v];exact this.2
 have bY:PhN (id0 (id0 d p) q).ns:=X54 (X54 hD.p p) q
 refine Q7<|dG _ _<|Q5 fun _ dL=>?_;refine X05 none (fun _=>false) mixed ?_;intro gC h;have b:=b.below h;have e:=e.below h;have C:=C.below h;have f:=f.below h;have y:=y.below h;have g:=g.below h;have D:=tsbel D h;refine Yb B<|Yo 0 rfl (fun _=>X3 rfl)<|Yo 1 rfl (fun _=>Xz rfl)<|Yo 2 rfl (fun _=>Vd rfl Xj 1)<|Ye 3 rfl (X0 rfl X00 (b.at 1))<|Yo 4 rfl (fun _=>X3 rfl)<|Yo 5 rfl (fun _=>Xi (k:=p.toNat) rfl rfl Xs X07 e aS (by omega) (by omega))<|Yo 6 rfl (fun _=>X15 rfl X06 (m':=p.toNat*2+1) rfl)<|Ye 7 rfl (X0 rfl X9 (X0g e Xv (Xb (d:=nZ) (by omega)) 1 rfl))<|Yo 8 rfl (fun _=>X3 rfl)<|Yo 9 rfl (fun _=>Xz rfl) ?_;refine Yo 10 rfl (fun _=>Vd rfl Xj 1)<|Ye 11 rfl (X0 rfl X00 (b.at 1))<|Yo 12 rfl (fun _=>X3 rfl)<|Yo 13 rfl (fun _=>Xi (k:=q.toNat) rfl rfl Xs X07 e aS (by omega) (by omega))<|Yo 14 rfl (fun _=>X15 rfl X06 (m':=q.toNat*2+1) rfl)<|Ye 15 rfl (X0 rfl X9 (X0g e Xv (Xb (d:=nZ) (by omega)) 1 rfl))<|Yo 16 rfl (fun _=>X11 rfl)<|Yo 17 rfl (fun _=>X11 rfl) ?_;refine Yd fun a B=>?_;refine dL _ _<|Zs B fun _ dM=>?_;refine Zm rfl<|Zm rfl<|Zf (Vc (X9d _ bV B0 A0 c0 A1 c1 m0 d ⟨b,e,C,aS⟩ (Q0 bL D.size) p cW (by omega)) X5p) ?_;rintro _ gD ⟨f7,f8,N,bA,aT,aH,bH,cG⟩;have f:=f.tu N b rfl (alc (X0n e rfl) (alc (X0n C rfl) al0));have y:=y.tu N b rfl (alc (X0n e rfl) (alc (X0n C rfl) al0));have g:=g.tu N b rfl (alc (X0n e rfl) (alc (X0n C rfl) al0));have aL:=SB.lift (S:=SB bV [A0,A1]) (w0:=w0) (.inl (.inl rfl)) (alc bM (alc cC al0));have bA:=Us.trans bA aL D.size
 have D:=tstr D N aL;clear aL
 clear N b;have b:=aT;clear aT
 clear e;have e:=aH;clear aH;refine Zx dM fun a B _ dN=>?_;refine Zm rfl<|Zm rfl<|Zf (Vc (X9d _ bV B0 A0 c0 f7 f8 m0 (id0 d p) ⟨b,e,bH,cG⟩ (Q0 bL D.size) q ⟨cD.1,by show q.toNat<(dpN d.ns p).length;rw [X1v];exact cD.2⟩ (by show (dpW d.ws p).length≤_;omega)) X5p) ?_;rintro _ gE ⟨f9,fA,N,bB,aT,aH,dO,fB⟩;have f:=f.tu N b rfl (alc (X0n e rfl) (alc (X0n bH rfl) al0));have y:=y.tu N b rfl (alc (X0n e rfl) (alc (X0n bH rfl) al0));have g:=g.tu N b rfl (alc (X0n e rfl) (alc (X0n bH rfl) al0));have aL:=SB.lift (S:=SB bV [A0,A1]) (w0:=w0) (.inl (.inl rfl)) (alc bM (alc bA al0));have bB:=Us.trans bB aL D.size
 have D:=tstr D N aL;clear aL
 clear N b;have b:=aT;clear aT
 clear e;have e:=aH;clear aH;refine ZX dN fun a B _ dP=>?_;refine Zs B fun _ dQ=>?_;refine Zm rfl<|Ze (X0d rfl Xl)<|Zm rfl<|Zt dQ fun a B=>?_;refine Q8<|X01 (σ:=Nat×Dg) (fun (s:Nat×Dg) (a:Act) (w:World)=>match s with|(k,o)=>∃ aY b2,Fr a 233 [(0,.pointer (some ⟨bV,0,none⟩)),(7,.slice aB (othW d.ws p q).length aC),(8,.slice aD (othW d.ws q p).length aE),(9,.slice aG (pvL d p q).length aI),(10,vi ((d.ns.getD p.toNat nZ).p)),(11,vi ((d.ns.getD q.toNat nZ).p)),(143,.slice aG (pvL d p q).length aI),(144,vi ((pvL d p q).length:Int)),(145,vi (k:Int))]∧(k≤(pvL d p q).length)∧(o=pvI (d.ns.getD p.toNat nZ).p (d.ns.getD q.toNat nZ).p (othW d.ws p q) (othW d.ws q p) (pvL d p q) (id0 (id0 d p) q) k)∧(m0=o.ns.length)∧(o.ws.length≤d.ws.length+k*2000)∧(PhN o.ns)∧(WSd o.ws)∧Blk w bV 39 [vi o.n,.slice A0 m0 c0,.slice aY o.ws.length b2,vi o.t,vi o.r]∧Own w B0 81 2 encNd A0 c0 o.ns∧Own w w0.heap.size 3 1 encI aB aC (othW d.ws p q)∧Own w w0.heap.size 3 1 encI aD aE (othW d.ws q p)∧Own w w0.heap.size 3 1 encI aG aI (pvL d p q)∧Own w B0 83 3 encWr aY b2 o.ws∧Us (SB bV [A0,A1]) w0 aY∧TurnS (SB bV [A0,A1]) w0 w) (fun (s:Nat×Dg)=>match s with|(k,o)=>(pvL d p q).length-k) (0,(id0 (id0 d p) q)) ?_ ?_
 ·exact ⟨f9,fA,B.sb,(Qf _),rfl,((aS.trans (X1v _ _).symm).trans (X1v _ _).symm),(Q0 cV (by omega)),bY,(List.Pairwise.filter _ (List.Pairwise.filter _ hD.w.s)),b,e,f,y,g,dO,bB,D⟩
 rintro ⟨k,o⟩ a fC ⟨aY,b2,B,hk,dR,bO,fD,bS,fE,b,e,f,y,g,M,b0,D⟩;refine Zs B fun _ dS=>?_;refine Ze (X0l rfl rfl)<|ZX dS fun a B _ dU=>?_
 refine Xg B rfl (fun aU=>?_) (fun aU=>?_)
 ·have a6:=aU;have aU:=Q2 aU
  obtain ⟨gF,fU⟩:=X5 (l:=(pvL d p q)) (k:=k) (by omega)
  obtain ⟨J,cH⟩:=X5 (l:=(pvL d p q)) (k:=k) (by have:=aU;omega)
  have dW:=X9x hD cH;have gG:=X1s bS J.toNat
  have gH:=Xsb bN.1 bN.2 ((othW d.ws p q).any fun v=>v==J) ((othW d.ws q p).any fun v=>v==J)
  refine Q7<|dU _ _<|Q5 fun _ dX=>?_;refine Q8<|Zs B fun _ dY=>?_;refine Zm rfl<|Ze (Xi (k:=k) rfl rfl Xl X08 g rfl rfl (by omega))<|Ze (X0 rfl X9 (X0g g Xf cH 0 rfl))<|Za rfl<|Za rfl<|Zx dY fun a B _ e8=>?_;refine Zm rfl<|Zm rfl<|Zf (X5s (vs:=[.slice aB (othW d.ws p q).length aC,vi J]) rfl X8k (by have h9:=Xi2 _ aB aC (othW d.ws p q) f.rd.top J (by omega);rw [X7i] at h9;exact h9)) ?_;rintro _ gI ⟨rfl,h⟩;have b:=b.below h;have e:=e.below h;have f:=f.below h;have y:=y.below h;have g:=g.below h;have M:=M.below h;have D:=tsbel D h;refine Zm rfl<|Zm rfl<|Zf (X5s (vs:=[.slice aD (othW d.ws q p).length aE,vi J]) rfl X8k (by have h9:=Xi2 _ aD aE (othW d.ws q p) y.rd.top J (by omega);rw [X7i] at h9;exact h9)) ?_;rintro _ gJ ⟨rfl,h⟩;have b:=b.below h;have e:=e.below h;have f:=f.below h;have y:=y.below h;have g:=g.below h;have M:=M.below h;have D:=tsbel D h;refine Za rfl<|Za rfl<|ZX e8 fun a B _ eA=>?_;refine X0a (fun a w=>∃ bC bJ,Fr a 233 [(0,.pointer (some ⟨bV,0,none⟩)),(7,.slice aB (othW d.ws p q).length aC),(8,.slice aD (othW d.ws q p).length aE),(9,.slice aG (pvL d p q).length aI),(10,vi ((d.ns.getD p.toNat nZ).p)),(11,vi ((d.ns.getD q.toNat nZ).p)),(12,vi (k:Int)),(13,vi J),(14,.bool ((othW d.ws p q).any fun v=>v==J)),(15,.bool ((othW d.ws q p).any fun v=>v==J)),(143,.slice aG (pvL d p q).length aI),(144,vi ((pvL d p q).length:Int)),(145,vi (k:Int))]∧Own w B0 83 3 encWr bC bJ (({ o with ns:=adN o.ns J (pvG (d.ns.getD p.toNat nZ).p (d.ns.getD q.toNat nZ).p ((othW d.ws p q).any fun v=>v==J) ((othW d.ws q p).any fun v=>v==J)) } : Dg).ws)∧Us (SB bV [A0,A1]) w0 bC∧Blk w bV 39 [vi (({ o with ns:=adN o.ns J (pvG (d.ns.getD p.toNat nZ).p (d.ns.getD q.toNat nZ).p ((othW d.ws p q).any fun v=>v==J) ((othW d.ws q p).any fun v=>v==J)) } : Dg).n),.slice A0 m0 c0,.slice bC (({ o with ns:=adN o.ns J (pvG (d.ns.getD p.toNat nZ).p (d.ns.getD q.toNat nZ).p ((othW d.ws p q).any fun v=>v==J) ((othW d.ws q p).any fun v=>v==J)) } : Dg).ws).length bJ,vi (({ o with ns:=adN o.ns J (pvG (d.ns.getD p.toNat nZ).p (d.ns.getD q.toNat nZ).p ((othW d.ws p q).any fun v=>v==J) ((othW d.ws q p).any fun v=>v==J)) } : Dg).t),vi (({ o with ns:=adN o.ns J (pvG (d.ns.getD p.toNat nZ).p (d.ns.getD q.toNat nZ).p ((othW d.ws p q).any fun v=>v==J) ((othW d.ws q p).any fun v=>v==J)) } : Dg).r)]∧Own w B0 81 2 encNd A0 c0 (({ o with ns:=adN o.ns J (pvG (d.ns.getD p.toNat nZ).p (d.ns.getD q.toNat nZ).p ((othW d.ws p q).any fun v=>v==J) ((othW d.ws q p).any fun v=>v==J)) } : Dg).ns)∧Own w w0.heap.size 3 1 encI aB aC (othW d.ws p q)∧Own w w0.heap.size 3 1 encI aD aE (othW d.ws q p)∧Own w w0.heap.size 3 1 encI aG aI (pvL d p q)∧Us (SB bV [A0,A1]) w0 aY∧TurnS (SB bV [A0,A1]) w0 w) ?_ ?_
  ·refine Zr B<|Zm rfl<|Zm rfl<|Zm rfl<|Zm rfl<|Zf (Vc (F59 _ ((othW d.ws p q).any fun v=>v==J)) Xcj) ?_;rintro _ _ ⟨rfl,rfl⟩;refine Ze (Xco rfl rfl (by omega) (by omega))<|Zm rfl<|Zm rfl<|Zf (Vc (F59 _ ((othW d.ws q p).any fun v=>v==J)) Xcj) ?_;rintro _ _ ⟨rfl,rfl⟩;refine Ze (Xco rfl rfl (by omega) (by omega))<|Ze (Xw rfl rfl (by omega) (by omega))<|Zm rfl<|Zm rfl ?_
   refine Zg 168 rfl (fun b1=>?_) (fun b1=>?_)
   ·refine Zv (gW b1) (X3 rfl) ?_;refine Ze (X7 rfl b1 rfl)<|Zf (Vc (F59 _ ((othW d.ws q p).any fun v=>v==J)) Xcj) ?_;rintro _ _ ⟨rfl,rfl⟩;refine Ze (Vx (Xco rfl rfl (by omega) (by omega)) (show _=(4*(if (((othW d.ws p q).any fun v=>v==J)&&((othW d.ws q p).any fun v=>v==J))=true then 1 else 0)) from (by rw [b1,Qw])))<|Ze (Xw rfl rfl (by omega) (by omega))<|Ze (Vx (X4v rfl rfl rfl) (rfl:_=(pvG (d.ns.getD p.toNat nZ).p (d.ns.getD q.toNat nZ).p ((othW d.ws p q).any fun v=>v==J) ((othW d.ws q p).any fun v=>v==J))))<|Zf (Vc (Xbd _ bV B0 A0 c0 aY b2 m0 o ⟨b,e,M,bO⟩ (Q0 bL D.size) J (pvG (d.ns.getD p.toNat nZ).p (d.ns.getD q.toNat nZ).p ((othW d.ws p q).any fun v=>v==J) ((othW d.ws q p).any fun v=>v==J)) ⟨dW.1,by omega⟩ bS ⟨by omega,by omega⟩) X6j) ?_;rintro _ gK ⟨bC,bJ,N,bD,aT,aH,bP,fF⟩;have f:=f.tu N b rfl (alc (X0n e rfl) (alc (X0n M rfl) al0));have y:=y.tu N b rfl (alc (X0n e rfl) (alc (X0n M rfl) al0));have g:=g.tu N b rfl (alc (X0n e rfl) (alc (X0n M rfl) al0));have aL:=SB.lift (S:=SB bV [A0,A1]) (w0:=w0) (.inl (.inl rfl)) (alc bM (alc b0 al0));have bD:=Us.trans bD aL D.size
    have D:=tstr D N aL;clear aL
    clear N b;have b:=aT;clear aT
    clear e;have e:=aH;clear aH;refine Zn fun a B=>?_;exact ⟨bC,bJ,B.sb,bP,bD,b,e,f,y,g,b0,D⟩
   refine Zp (gP b1) ?_;refine Ze (Xe rfl b1 rfl)<|Zf (Vc (F59 _ false) Xcj) ?_;rintro _ _ ⟨rfl,rfl⟩;refine Ze (Vx (Xco rfl rfl (by omega) (by omega)) (show _=(4*(if (((othW d.ws p q).any fun v=>v==J)&&((othW d.ws q p).any fun v=>v==J))=true then 1 else 0)) from (by rw [b1,Bool.false_and])))<|Ze (Xw rfl rfl (by omega) (by omega))<|Ze (Vx (X4v rfl rfl rfl) (rfl:_=(pvG (d.ns.getD p.toNat nZ).p (d.ns.getD q.toNat nZ).p ((othW d.ws p q).any fun v=>v==J) ((othW d.ws q p).any fun v=>v==J))))<|Zf (Vc (Xbd _ bV B0 A0 c0 aY b2 m0 o ⟨b,e,M,bO⟩ (Q0 bL D.size) J (pvG (d.ns.getD p.toNat nZ).p (d.ns.getD q.toNat nZ).p ((othW d.ws p q).any fun v=>v==J) ((othW d.ws q p).any fun v=>v==J)) ⟨dW.1,by omega⟩ bS ⟨by omega,by omega⟩) X6j) ?_;rintro _ gL ⟨fG,fH,N,bE,aT,aH,eB,fI⟩;have f:=f.tu N b rfl (alc (X0n e rfl) (alc (X0n M rfl) al0));have y:=y.tu N b rfl (alc (X0n e rfl) (alc (X0n M rfl) al0));have g:=g.tu N b rfl (alc (X0n e rfl) (alc (X0n M rfl) al0));have aL:=SB.lift (S:=SB bV [A0,A1]) (w0:=w0) (.inl (.inl rfl)) (alc bM (alc b0 al0));have bE:=Us.trans bE aL D.size
   have D:=tstr D N aL;clear aL
   clear N b;have b:=aT;clear aT
   clear e;have e:=aH;clear aH;refine Zn fun a B=>?_;exact ⟨fG,fH,B.sb,eB,bE,b,e,f,y,g,b0,D⟩
  rintro a fJ ⟨bC,bJ,B,bP,eC,b,e,f,y,g,b0,D⟩;refine eA _ _<|Zs B fun _ eD=>?_;refine Zm rfl<|Zm rfl ?_;have aP:=(g.rd.top).takeK Xf k;refine Ze (X2x (l:=(pvL d p q)) (k:=k) rfl rfl Xl X08 rfl hk g.cap)<|Ze (X0d rfl Xl)<|Zm rfl<|Zt eD fun a B=>?_;refine Q8<|X01 (σ:=Nat×Dg) (fun (s:Nat×Dg) (a:Act) (w:World)=>match s with|(j,z)=>∃ bF bK,Fr a 233 [(0,.pointer (some ⟨bV,0,none⟩)),(7,.slice aB (othW d.ws p q).length aC),(8,.slice aD (othW d.ws q p).length aE),(9,.slice aG (pvL d p q).length aI),(10,vi ((d.ns.getD p.toNat nZ).p)),(11,vi ((d.ns.getD q.toNat nZ).p)),(13,vi J),(14,.bool ((othW d.ws p q).any fun v=>v==J)),(15,.bool ((othW d.ws q p).any fun v=>v==J)),(143,.slice aG (pvL d p q).length aI),(144,vi ((pvL d p q).length:Int)),(145,vi (k:Int)),(178,.slice aG ((pvL d p q).take k).length aI),(179,vi (((pvL d p q).take k).length:Int)),(180,vi (j:Int))]∧(j≤((pvL d p q).take k).length)∧(z=(((pvL d p q).take k).take j).foldl (pvJ (othW d.ws p q) (othW d.ws q p) J) ({ o with ns:=adN o.ns J (pvG (d.ns.getD p.toNat nZ).p (d.ns.getD q.toNat nZ).p ((othW d.ws p q).any fun v=>v==J) ((othW d.ws q p).any fun v=>v==J)) } : Dg))∧(m0=z.ns.length)∧(z.ws.length≤o.ws.length+j)∧(PhN z.ns)∧(WSd z.ws)∧Blk w bV 39 [vi z.n,.slice A0 m0 c0,.slice bF z.ws.length bK,vi z.t,vi z.r]∧Own w B0 81 2 encNd A0 c0 z.ns∧Own w w0.heap.size 3 1 encI aB aC (othW d.ws p q)∧Own w w0.heap.size 3 1 encI aD aE (othW d.ws q p)∧Own w w0.heap.size 3 1 encI aG aI (pvL d p q)∧Rd w fJ.heap.size 3 encI aG ((pvL d p q).take k)∧Own w B0 83 3 encWr bF bK z.ws∧Us (SB bV [A0,A1]) w0 bF∧TurnS (SB bV [A0,A1]) w0 w) (fun (s:Nat×Dg)=>match s with|(j,z)=>((pvL d p q).take k).length-j) (0,({ o with ns:=adN o.ns J (pvG (d.ns.getD p.toNat nZ).p (d.ns.getD q.toNat nZ).p ((othW d.ws p q).any fun v=>v==J) ((othW d.ws q p).any fun v=>v==J)) } : Dg)) ?_ ?_
  ·exact ⟨bC,bJ,B.sb,(Qf _),rfl,(bO.trans (X21 _ _ _).symm),(Qb _),(X5y bS _ _),fE,b,e,f,y,g,aP,bP,eC,D⟩
  rintro ⟨j,z⟩ a w27 ⟨bF,bK,B,hj,hz,bT,fK,cJ,bU,b,e,f,y,g,aP,aQ,bR,D⟩;refine Zs B fun _ eE=>?_;refine Ze (X0l rfl rfl)<|ZX eE fun a B _ eF=>?_
  refine Xg B rfl (fun aW=>?_) (fun aW=>?_)
  ·have aM:=aW;have aW:=Q2 aW
   obtain ⟨gM,fV⟩:=X5 (l:=((pvL d p q).take k)) (k:=j) (by omega)
   obtain ⟨v9,bW⟩:=X5 (l:=(pvL d p q).take k) (k:=j) (by have:=aW;omega)
   have gN:j<k:=by have:=(Qg.1 bW).1;rw [Qn] at this;omega
   refine Q7<|eF _ _<|Q5 fun _ c4=>?_;refine Q8<|Zs B fun _ eG=>?_;refine Zi (k:=j) (u:=v9) (enc:=encI) (l:=((pvL d p q).take k)) trivial rfl rfl Xl X08 Xf aP bW rfl ?_;intro gO cK;refine Ze (X0 rfl X9 cK)<|Za rfl<|ZX eG fun a B _ eH=>?_;refine X0a (fun a w=>Fr a 233 [(0,.pointer (some ⟨bV,0,none⟩)),(7,.slice aB (othW d.ws p q).length aC),(8,.slice aD (othW d.ws q p).length aE),(9,.slice aG (pvL d p q).length aI),(10,vi ((d.ns.getD p.toNat nZ).p)),(11,vi ((d.ns.getD q.toNat nZ).p)),(13,vi J),(14,.bool ((othW d.ws p q).any fun v=>v==J)),(15,.bool ((othW d.ws q p).any fun v=>v==J)),(17,vi v9),(18,.bool (((othW d.ws p q).any fun v=>v==J)&&((othW d.ws q p).any fun v=>v==v9))),(143,.slice aG (pvL d p q).length aI),(144,vi ((pvL d p q).length:Int)),(145,vi (k:Int)),(178,.slice aG ((pvL d p q).take k).length aI),(179,vi (((pvL d p q).take k).length:Int)),(180,vi (j:Int))]∧Below w27.heap.size w27 w) ?_ ?_
   ·have L:Below w27.heap.size w27 w27:=Below.refl _ _
    refine Zr B<|Zm rfl<|Zm rfl ?_
    refine Zg 185 rfl (fun aJ=>?_) (fun aJ=>?_)
    ·refine Zv (gW aJ) (X3 rfl) ?_;refine Zv (gW aJ) (X3 rfl) ?_;refine Zk (gW aJ) (X5s (vs:=[.slice aD (othW d.ws q p).length aE,vi v9]) rfl X8k (by have h9:=Xi2 _ aD aE (othW d.ws q p) y.rd.top v9 (by omega);rw [X7i] at h9;exact h9)) ?_;rintro _ w28 ⟨rfl,h⟩;have D:=tsbel D h;have L:=btr L h;refine Ze (X7 rfl aJ rfl)<|Za rfl ?_;refine Zn fun a B=>?_
     have Q:Below w27.heap.size w27 w28:=L
     exact ⟨B.sub ⟨rfl,rfl,rfl,rfl,rfl,rfl,rfl,rfl,rfl,rfl,X1 rfl (by first|rfl|(simp only [H,W,a6,aM,aJ,bs];done)|simp [H,W,a6,aM,aJ]),rfl,rfl,rfl,rfl,rfl,rfl,trivial⟩,Q⟩
    refine Zp (gP aJ) ?_;refine Zp (gP aJ) ?_;refine Zp (gP aJ) ?_;refine Ze (Xe rfl aJ rfl)<|Za rfl ?_;refine Zn fun a B=>?_
    have Q:Below w27.heap.size w27 w27:=L
    exact ⟨B.sub ⟨rfl,rfl,rfl,rfl,rfl,rfl,rfl,rfl,rfl,rfl,X1 rfl (by first|rfl|(simp only [H,W,a6,aM,aJ,bs];done)|simp [H,W,a6,aM,aJ]),rfl,rfl,rfl,rfl,rfl,rfl,trivial⟩,Q⟩
   rintro a w29 ⟨B,h⟩;have b:=b.below h;have e:=e.below h;have f:=f.below h;have y:=y.below h;have g:=g.below h;have aP:=aP.below h;have aQ:=aQ.below h;have D:=tsbel D h;refine eH _ _<|Q5 fun _ eI=>?_;refine X0a (fun a w=>Fr a 233 [(0,.pointer (some ⟨bV,0,none⟩)),(7,.slice aB (othW d.ws p q).length aC),(8,.slice aD (othW d.ws q p).length aE),(9,.slice aG (pvL d p q).length aI),(10,vi ((d.ns.getD p.toNat nZ).p)),(11,vi ((d.ns.getD q.toNat nZ).p)),(13,vi J),(14,.bool ((othW d.ws p q).any fun v=>v==J)),(15,.bool ((othW d.ws q p).any fun v=>v==J)),(17,vi v9),(18,.bool (((othW d.ws p q).any fun v=>v==J)&&((othW d.ws q p).any fun v=>v==v9))),(19,.bool (((othW d.ws q p).any fun v=>v==J)&&((othW d.ws p q).any fun v=>v==v9))),(143,.slice aG (pvL d p q).length aI),(144,vi ((pvL d p q).length:Int)),(145,vi (k:Int)),(178,.slice aG ((pvL d p q).take k).length aI),(179,vi (((pvL d p q).take k).length:Int)),(180,vi (j:Int))]∧Below w29.heap.size w29 w) ?_ ?_
   ·have L:Below w29.heap.size w29 w29:=Below.refl _ _
    refine Zr B<|Zm rfl<|Zm rfl ?_
    refine Zg 191 rfl (fun aK=>?_) (fun aK=>?_)
    ·refine Zv (gW aK) (X3 rfl) ?_;refine Zv (gW aK) (X3 rfl) ?_;refine Zk (gW aK) (X5s (vs:=[.slice aB (othW d.ws p q).length aC,vi v9]) rfl X8k (by have h9:=Xi2 _ aB aC (othW d.ws p q) f.rd.top v9 (by omega);rw [X7i] at h9;exact h9)) ?_;rintro _ w30 ⟨rfl,h⟩;have D:=tsbel D h;have L:=btr L h;refine Ze (X7 rfl aK rfl)<|Za rfl ?_;refine Zn fun a B=>?_
     have Q:Below w29.heap.size w29 w30:=L
     exact ⟨B.sub ⟨rfl,rfl,rfl,rfl,rfl,rfl,rfl,rfl,rfl,rfl,rfl,X1 rfl (by first|rfl|(simp only [H,W,a6,aM,aK,bs];done)|simp [H,W,a6,aM,aK]),rfl,rfl,rfl,rfl,rfl,rfl,trivial⟩,Q⟩
    refine Zp (gP aK) ?_;refine Zp (gP aK) ?_;refine Zp (gP aK) ?_;refine Ze (Xe rfl aK rfl)<|Za rfl ?_;refine Zn fun a B=>?_
    have Q:Below w29.heap.size w29 w29:=L
    exact ⟨B.sub ⟨rfl,rfl,rfl,rfl,rfl,rfl,rfl,rfl,rfl,rfl,rfl,X1 rfl (by first|rfl|(simp only [H,W,a6,aM,aK,bs];done)|simp [H,W,a6,aM,aK]),rfl,rfl,rfl,rfl,rfl,rfl,trivial⟩,Q⟩
   rintro a gQ ⟨B,h⟩;have b:=b.below h;have e:=e.below h;have f:=f.below h;have y:=y.below h;have g:=g.below h;have aP:=aP.below h;have aQ:=aQ.below h;have D:=tsbel D h;refine eI _ _<|Zs B fun _ eJ=>?_;refine Zm rfl<|Zm rfl<|Ze (X77 Tryz.underlying4 rfl rfl)<|Zt eJ fun a B=>?_
   refine Xg B rfl (fun b8=>?_) (fun b8=>?_)
   ·have cL:=b8;have cM:=Xu4 (o:=z) b8;refine Zr B<|Zm rfl<|Zm rfl<|Zm rfl<|Zf (Vc (Xp6 _ bV B0 A0 c0 bF bK m0 z ⟨b,e,aQ,bT⟩ (Q0 bL D.size) v9 J bU (by have:=fK;have:=fD;rw [Qn] at hj;omega)) Xft) ?_;rintro _ gR ⟨fL,fM,rfl,N,bG,aT,aH,eK,fN⟩;have f:=f.tu N b rfl (alc (X0n e rfl) (alc (X0n aQ rfl) al0));have y:=y.tu N b rfl (alc (X0n e rfl) (alc (X0n aQ rfl) al0));have g:=g.tu N b rfl (alc (X0n e rfl) (alc (X0n aQ rfl) al0));have aP:=aP.tu N b rfl (alc (X0n e rfl) (alc (X0n aQ rfl) al0));have aL:=SB.lift (S:=SB bV [A0,A1]) (w0:=w0) (.inl (.inl rfl)) (alc bM (alc bR al0));have bG:=Us.trans bG aL D.size
    have D:=tstr D N aL;clear aL
    clear N b;have b:=aT;clear aT
    clear e;have e:=aH;clear aH;refine Zn fun a B=>?_;refine Xa<|c4 _ _<|Zr B<|Ze (Xw rfl rfl (by omega) (by omega))<|Zm rfl ?_;refine Zn fun a B=>?_;refine Xh ?_;exact ⟨(j+1,(tgI z v9 J)),⟨fL,fM,B.sb,(by omega),(by rw [X2w bW,← hz,cM]),(by rw [Xak];exact bT),(by have:=Xeq z v9 J;omega),(by rw [Xak];exact cJ),(Xiv bU v9 J),b,e,f,y,g,aP,eK,bG,D⟩,(by first|omega|(dsimp only;omega))⟩
   have cL:=b8;have cM:=Xwl (o:=z) b8;refine Q7<|Xa<|c4 _ _<|Zr B ?_;refine Ze (Xw rfl rfl (by omega) (by omega))<|Zm rfl ?_;refine Zn fun a B=>?_;refine Xh ?_;exact ⟨(j+1,z),⟨bF,bK,B.sb,(by omega),(by rw [X2w bW,← hz,cM]),bT,(by omega),cJ,bU,b,e,f,y,g,aP,aQ,bR,D⟩,(by first|omega|(dsimp only;omega))⟩
  have aM:=aW;have aW:=Q1 aW
  have gS:j≤k:=by rw [Qn] at hj;omega
  have fO:z=pvI (d.ns.getD p.toNat nZ).p (d.ns.getD q.toNat nZ).p (othW d.ws p q) (othW d.ws q p) (pvL d p q) (id0 (id0 d p) q) (k+1):=by rw [hz,Qi (by have:=aW;omega),dR,Xc9 cH]
  refine Q9<|Xk<|Xk<|X03 ?_;refine Xa<|dX _ _<|Zr B<|Ze (Xw rfl rfl (by omega) (by omega))<|Zm rfl ?_;refine Zn fun a B=>?_;refine Xh ?_;exact ⟨(k+1,z),⟨bF,bK,B.sb,(by omega),fO,bT,(by omega),cJ,bU,b,e,f,y,g,aQ,bR,D⟩,(by first|omega|(dsimp only;omega))⟩
 have a6:=aU;have aU:=Q1 aU
 have fP:k=(pvL d p q).length:=by have:=aU;omega
 have eL:=Xi8 (l:=(othW d.ws p q)) (m:=(othW d.ws q p)) f3 bY dK bN.1 bN.2 _ (Qb _)
 have c5:o=pvM (d.ns.getD p.toNat nZ).p (d.ns.getD q.toNat nZ).p (othW d.ws p q) (othW d.ws q p) (pvL d p q) (id0 (id0 d p) q) (pvL d p q).length:=by rw [dR,fP];exact eL.1
 have fQ:o.t=d.t:=by rw [c5];exact eL.2.2.2.2
 have cA:=Xr3 eS.2.2.1 c5 fQ bN;refine Q9<|Xk<|Xk<|X03 ?_;refine dP _ _<|Q5 fun _ cB=>?_;refine Q5 fun _ eM=>?_;refine X0a (fun a w=>Fr a 233 [(0,.pointer (some ⟨bV,0,none⟩)),(7,.slice aB (othW d.ws p q).length aC),(8,.slice aD (othW d.ws q p).length aE),(210,.bool ((((d.ns.getD p.toNat nZ).p)==4)&&(((d.ns.getD q.toNat nZ).p)==4)))]∧fC=w) ?_ ?_
 ·refine Zr B<|Zm rfl<|Ze (X0b rfl rfl)<|Zm rfl ?_
  refine Zg 207 rfl (fun aR=>?_) (fun aR=>?_)
  ·refine Zv (gW aR) (X3 rfl) ?_;refine Zv (gW aR) (X0b rfl rfl) ?_;refine Ze (X7 rfl aR rfl) ?_;refine Zn fun a B=>?_;exact ⟨B.sub ⟨rfl,rfl,rfl,X1 rfl (by first|rfl|(simp only [H,W,a6,aR,bs];done)|simp [H,W,a6,aR]),trivial⟩,rfl⟩
  refine Zp (gP aR) ?_;refine Zp (gP aR) ?_;refine Ze (Xe rfl aR rfl) ?_;refine Zn fun a B=>?_;exact ⟨B.sub ⟨rfl,rfl,rfl,X1 rfl (by first|rfl|(simp only [H,W,a6,aR,bs];done)|simp [H,W,a6,aR]),trivial⟩,rfl⟩
 rintro a _ ⟨B,rfl⟩;refine eM _ _ ?_
 refine Xg B rfl (fun b9=>?_) (fun b9=>?_)
 ·have cN:=b9;have cO:=b9;refine Zr B<|Zm rfl<|Zm rfl<|Ze (Xz rfl)<|Ze (Vd rfl X0t 3)<|Ze (X0 rfl X9 (b.at 3))<|Ze (X43 rfl rfl)<|Ze (X4v rfl rfl rfl)<|Ze (Xz rfl)<|Ze (Vd rfl X0t 3)<|Zo (X1a (vs:=[vi ((wr (o.t+4)).tmod 8)]) (l':=[vi o.n,.slice A0 m0 c0,.slice aY o.ws.length b2,vi ((wr (o.t+4)).tmod 8),vi o.r]) rfl rfl X08 b rfl rfl rfl rfl rfl) ?_;rintro _ gT ⟨ho,hb⟩;have aX:=b;have e:=e.onlyT ho aX rfl;have M:=M.onlyT ho aX rfl;have D:=tsonly D ho (.inl (.inl rfl));have b:=hb;refine Zx cB fun a B _ eN=>?_;refine Zm rfl<|Ze (Xz rfl)<|Ze (Vd rfl X02 4)<|Ze (X0 rfl X9 (b.at 4))<|Zm rfl<|Ze (X0d rfl Xl)<|Ze (X1g rfl rfl (by omega) (by omega))<|Zm rfl<|Ze (X0d rfl Xl)<|Ze (X1g rfl rfl (by omega) (by omega)) ?_;refine Ze (X43 rfl rfl)<|Ze (Xz rfl)<|Ze (Vd rfl X02 4)<|Zo (X1a (vs:=[vi (wr (o.r+((1-((othW d.ws p q).length:Int))-((othW d.ws q p).length:Int))))]) (l':=[vi o.n,.slice A0 m0 c0,.slice aY o.ws.length b2,vi ((wr (o.t+4)).tmod 8),vi (wr (o.r+((1-((othW d.ws p q).length:Int))-((othW d.ws q p).length:Int))))]) rfl rfl X08 b rfl rfl rfl rfl rfl) ?_;rintro _ gU ⟨ho,hb⟩;have aX:=b;have e:=e.onlyT ho aX rfl;have M:=M.onlyT ho aX rfl;have D:=tsonly D ho (.inl (.inl rfl));have b:=hb;refine Zx eN fun a B _ eO=>?_;refine Za rfl<|Zt eO fun a B=>?_
  refine Q6 (X4 B (Xt B rfl rfl) ?_)
  rw [dJ,Q4 rfl,cA,Q4 cO]
  exact ⟨aY,b2,rfl,D,b0,⟨b,e,M,bO⟩⟩
 have cN:=b9;have cO:=b9;refine Q7<|cB _ _<|Zs B fun _ eP=>?_;refine Zm rfl<|Ze (Xz rfl)<|Ze (Vd rfl X02 4)<|Ze (X0 rfl X9 (b.at 4))<|Zm rfl<|Ze (X0d rfl Xl)<|Ze (X1g rfl rfl (by omega) (by omega))<|Zm rfl<|Ze (X0d rfl Xl)<|Ze (X1g rfl rfl (by omega) (by omega)) ?_;refine Ze (X43 rfl rfl)<|Ze (Xz rfl)<|Ze (Vd rfl X02 4)<|Zo (X1a (vs:=[vi (wr (o.r+((1-((othW d.ws p q).length:Int))-((othW d.ws q p).length:Int))))]) (l':=[vi o.n,.slice A0 m0 c0,.slice aY o.ws.length b2,vi o.t,vi (wr (o.r+((1-((othW d.ws p q).length:Int))-((othW d.ws q p).length:Int))))]) rfl rfl X08 b rfl rfl rfl rfl rfl) ?_;rintro _ gX ⟨ho,hb⟩;have aX:=b;have e:=e.onlyT ho aX rfl;have M:=M.onlyT ho aX rfl;have D:=tsonly D ho (.inl (.inl rfl));have b:=hb;refine Zx eP fun a B _ eQ=>?_;refine Za rfl<|Zt eQ fun a B=>?_
 refine Q6 (X4 B (Xt B rfl rfl) ?_)
 rw [dJ,Q4 rfl,cA,Q3 (by rw [cO];decide)]
 exact ⟨aY,b2,rfl,D,b0,⟨b,e,M,bO⟩⟩
theorem Xue(w0:World)(bV B0:Nat)(A0:Option Addr)(c0:Nat)(A1:Option Addr)(c1 m0:Nat)(d:Dg)(bR:Dgm w0 bV B0 A0 c0 A1 c1 m0 d)(aJ:B0≤w0.heap.size)(r:Rz)(hG:goodD d=true) : Ret Tryz.prog 122 [.pointer (some ⟨bV,0,none⟩),.agg #[vi r.u,vi r.a,vi r.b]] w0 (fun v w=>∃ A c,v=.bool (doC d r)∧TurnS (SB bV [A0,A1]) w0 w∧Us (SB bV [A0,A1]) w0 A∧Dgm w bV B0 A0 c0 A c m0 (if doC d r=true then outD (doD d r) else d)):=by
 obtain ⟨f,g,q,Q⟩:=bR;have cF:=f.lt
 have aK:Us (SB bV [A0,A1]) w0 A0:=SB.us (by simp)
 have a6:Us (SB bV [A0,A1]) w0 A1:=SB.us (by simp)
 have hD:=X1e hG;have cH:=hD.m;have cJ:=hD.len;refine enter Tryz.func122 rfl 89 rfl rfl ?_;intro a j
 have y:TurnS (SB bV [A0,A1]) w0 w0:=TurnS.refl _ _
 refine Zs j fun _ bS=>?_;refine Zf (X0c (zs:=[vi r.u,vi r.a,vi r.b]) rfl rfl) ?_;rintro _ w1 ⟨b4,rfl,bT,C,i⟩;have cG:=Q0 y.size bT;have f:=f.below C;have g:=g.below C;have q:=q.below C;have y:=tsbel y C;refine Za rfl<|ZX bS fun a j _ bU=>?_;refine Q5 fun _ bW=>?_;refine X0a (fun a w=>Fr a 89 [(0,.pointer (some ⟨bV,0,none⟩)),(3,.pointer (some ⟨b4,0,none⟩)),(17,.bool (((r.b != 0)&&(r.u != 1))&&(r.u != 4)))]∧w1=w) ?_ ?_
 ·refine Zr j<|Ze (Vd rfl X3i 2)<|Ze (X0 rfl X9 (i.at 2))<|Ze (X1j rfl rfl)<|Zm rfl ?_
  refine Zg 8 rfl (fun D=>?_) (fun D=>?_)
  ·refine Zv (gW D) (Vd rfl X48 0) ?_;refine Zv (gW D) (X0 rfl X9 (i.at 0)) ?_;refine Zv (gW D) (X1j rfl rfl) ?_;refine Ze (X7 rfl D rfl)<|Zm rfl ?_
   refine Zg 13 rfl (fun N=>?_) (fun N=>?_)
   ·refine Zv (gW N) (Vd rfl X48 0) ?_;refine Zv (gW N) (X0 rfl X9 (i.at 0)) ?_;refine Zv (gW N) (X1j rfl rfl) ?_;refine Ze (X7 rfl N rfl) ?_;refine Zn fun a j=>?_;exact ⟨j.sub ⟨rfl,rfl,X1 rfl (by first|rfl|(simp only [D,N,bs];done)|simp [D,N]),trivial⟩,rfl⟩
   refine Zp (gP N) ?_;refine Zp (gP N) ?_;refine Zp (gP N) ?_;refine Ze (Xe rfl N rfl) ?_;refine Zn fun a j=>?_;exact ⟨j.sub ⟨rfl,rfl,X1 rfl (by first|rfl|(simp only [D,N,bs];done)|simp [D,N]),trivial⟩,rfl⟩
  refine Zp (gP D) ?_;refine Zp (gP D) ?_;refine Zp (gP D) ?_;refine Ze (Xe rfl D rfl)<|Zm rfl<|Zp (gP rfl) ?_;refine Zp (gP rfl) ?_;refine Zp (gP rfl) ?_;refine Ze (Xe rfl rfl rfl) ?_;refine Zn fun a j=>?_;exact ⟨j.sub ⟨rfl,rfl,X1 rfl (by first|rfl|(simp only [D,bs];done)|simp [D]),trivial⟩,rfl⟩
 rintro a _ ⟨j,rfl⟩;refine bW _ _ ?_
 refine Xg j rfl (fun aL=>?_) (fun aL=>?_)
 ·have U:=aL
  have aM:doC d r=false:=Xxl aL
  refine Zs j fun _ aY=>?_;refine Za rfl<|Zt aY fun a j=>?_;refine Q6<|X6<|X4 j (Xt j rfl rfl) ?_
  rw [aM,Q3 Bool.false_ne_true]
  exact ⟨A1,c1,rfl,y,a6,⟨f,g,q,Q⟩⟩
 have U:=aL;have aQ:=aL;refine Q7<|bU _ _<|Q5 fun _ aZ=>?_;refine Zs j fun _ b0=>?_;refine Ze (Vd rfl X48 0)<|Ze (X0 rfl X9 (i.at 0))<|Zt b0 fun a j=>?_;refine Q8<|Zs j fun _ b1=>?_;refine Ze (X0b rfl rfl)<|Za rfl<|Zt b1 fun a j=>?_
 refine Xg j rfl (fun a7=>?_) (fun a7=>?_)
 ·have E:=a7;have G:=Xx9 hG a7;refine Zs j fun _ b2=>?_;refine Zm rfl<|Ze (Vd rfl X1n 1)<|Ze (X0 rfl X9 (i.at 1))<|Ze (Vd rfl X3i 2)<|Ze (X0 rfl X9 (i.at 2))<|Zf (Vc (Xvg _ bV B0 A0 c0 A1 c1 m0 d ⟨f,g,q,Q⟩ (Q0 aJ y.size) r.a r.b hG) Xkn) ?_;rintro _ w2 ⟨bX,bY,rfl,h,aE,M,x,b3,aR⟩;have i:=i.tu h f rfl (alc (nrow g i rfl) (alc (nrow q i rfl) al0));have B:=SB.lift (S:=SB bV [A0,A1]) (w0:=w0) (.inl (.inl rfl)) (alc aK (alc a6 al0));have aE:=Us.trans aE B y.size
  have y:=tstr y h B;clear B
  clear h f;have f:=M;clear M
  clear g;have g:=x;clear x;refine Za rfl<|Zt b2 fun a j=>?_;refine Q6<|Xq<|X6<|X4 j (Xt j rfl rfl) ?_
  rw [G.1,G.2]
  exact ⟨bX,bY,rfl,y,aE,⟨f,g,b3,aR⟩⟩
 have E:=a7
 have g1:=a7
 refine Zs j fun _ b5=>?_;refine Ze (X0b rfl rfl)<|Za rfl<|Zt b5 fun a j=>?_
 refine Xg j rfl (fun a8=>?_) (fun a8=>?_)
 ·have H:=a8;have G:=Xxi hG aQ a8;refine Zs j fun _ b6=>?_;refine Zm rfl<|Ze (Vd rfl X1n 1)<|Ze (X0 rfl X9 (i.at 1))<|Zf (Vc (Xtg _ bV B0 A0 c0 A1 c1 m0 d ⟨f,g,q,Q⟩ (Q0 aJ y.size) r.a hG) Xmf) ?_;rintro _ w3 ⟨c4,c5,rfl,h,aF,M,x,b7,aS⟩;have i:=i.tu h f rfl (alc (nrow g i rfl) (alc (nrow q i rfl) al0));have B:=SB.lift (S:=SB bV [A0,A1]) (w0:=w0) (.inl (.inl rfl)) (alc aK (alc a6 al0));have aF:=Us.trans aF B y.size
  have y:=tstr y h B;clear B
  clear h f;have f:=M;clear M
  clear g;have g:=x;clear x;refine Za rfl<|Zt b6 fun a j=>?_;refine Q6<|Xq<|X6<|X4 j (Xt j rfl rfl) ?_
  rw [G.1,G.2]
  exact ⟨c4,c5,rfl,y,aF,⟨f,g,b7,aS⟩⟩
 have H:=a8
 have g2:=a8
 refine Zs j fun _ b8=>?_;refine Ze (X0b rfl rfl)<|Za rfl<|Zt b8 fun a j=>?_
 refine Xg j rfl (fun aA=>?_) (fun aA=>?_)
 ·have I:=aA;have G:=Xxj (d:=d) aQ aA;refine Zs j fun _ b9=>?_;refine Zm rfl<|Ze (Vd rfl X1n 1)<|Ze (X0 rfl X9 (i.at 1))<|Zf (Vc (Xt7 _ bV B0 A0 c0 A1 c1 m0 d ⟨f,g,q,Q⟩ (Q0 aJ y.size) r.a hG) Xlk) ?_;rintro _ w4 ⟨cA,cB,rfl,h,aG,M,x,bA,aT⟩;have i:=i.tu h f rfl (alc (nrow g i rfl) (alc (nrow q i rfl) al0));have B:=SB.lift (S:=SB bV [A0,A1]) (w0:=w0) (.inl (.inl rfl)) (alc aK (alc a6 al0));have aG:=Us.trans aG B y.size
  have y:=tstr y h B;clear B
  clear h f;have f:=M;clear M
  clear g;have g:=x;clear x;refine Za rfl<|Zt b9 fun a j=>?_;refine Q6<|Xq<|X6<|X4 j (Xt j rfl rfl) ?_
  rw [G.1,G.2]
  exact ⟨cA,cB,rfl,y,aG,⟨f,g,bA,aT⟩⟩
 have I:=aA
 have g3:=aA
 refine Zs j fun _ bB=>?_;refine Ze (X0b rfl rfl)<|Za rfl<|Zt bB fun a j=>?_
 refine Xg j rfl (fun aB=>?_) (fun aB=>?_)
 ·have J:=aB;have G:=Xxh (d:=d) aB;refine Zs j fun _ bC=>?_;refine Zm rfl<|Ze (Vd rfl X1n 1)<|Ze (X0 rfl X9 (i.at 1))<|Ze (Vd rfl X3i 2)<|Ze (X0 rfl X9 (i.at 2))<|Zf (Vc (Xtl _ bV B0 A0 c0 A1 c1 m0 d ⟨f,g,q,Q⟩ (Q0 aJ y.size) r.a r.b hG) Xmm) ?_;rintro _ w5 ⟨cC,cD,rfl,h,aH,M,x,bD,aU⟩;have i:=i.tu h f rfl (alc (nrow g i rfl) (alc (nrow q i rfl) al0));have B:=SB.lift (S:=SB bV [A0,A1]) (w0:=w0) (.inl (.inl rfl)) (alc aK (alc a6 al0));have aH:=Us.trans aH B y.size
  have y:=tstr y h B;clear B
  clear h f;have f:=M;clear M
  clear g;have g:=x;clear x;refine Za rfl<|Zt bC fun a j=>?_;refine Q6<|Xq<|X6<|X4 j (Xt j rfl rfl) ?_
  rw [G.1,G.2]
  exact ⟨cC,cD,rfl,y,aH,⟨f,g,bD,aU⟩⟩
 have J:=aB
 have g4:=aB
 refine Zs j fun _ bE=>?_;refine Ze (X0b rfl rfl)<|Za rfl<|Zt bE fun a j=>?_
 refine Xg j rfl (fun aC=>?_) (fun aC=>?_)
 ·have L:=aC;have G:=Xx7 hG aQ aC;refine Q5 fun _ bF=>?_;refine Q5 fun _ bG=>?_;refine X0a (fun a w=>Fr a 89 [(0,.pointer (some ⟨bV,0,none⟩)),(3,.pointer (some ⟨b4,0,none⟩)),(77,.bool (((!(spI d.ns r.a))||(((d.ns.getD r.a.toNat nZ).p) != 0))||((cnW d.ws r.a) != 0)))]∧Below w1.heap.size w1 w) ?_ ?_
  ·have W:Below w1.heap.size w1 w1:=Below.refl _ _
   refine X05 none (fun _=>false) mixed ?_;intro w6 C;have f:=f.below C;have i:=i.below C;have g:=g.below C;have q:=q.below C;have y:=tsbel y C;have W:=btr W C;refine Yb j<|Yo 0 rfl (fun _=>X3 rfl)<|Yo 1 rfl (fun _=>Xz rfl)<|Ye 2 rfl (X04 (l:=[vi d.n,.slice A0 m0 c0,.slice A1 d.ws.length c1,vi d.t,vi d.r]) rfl X2 (f.at 0) rfl)<|Yo 3 rfl (fun _=>Vd rfl X1n 1)<|Ye 4 rfl (X0 rfl X9 (i.at 1))<|Y1 5 ?_;refine Yk rfl trivial (Vc (X60 _ d m0 Q A0 c0 g.rd.top A1 c1 q.rd.top q.cap r.a (by omega)) X36) (fun _ _ ⟨_,C⟩=>C) ?_;rintro _ w7 ⟨rfl,C⟩;have f:=f.below C;have i:=i.below C;have g:=g.below C;have q:=q.below C;have y:=tsbel y C;have W:=btr W C;refine Yo 6 rfl (fun _=>X0y rfl)<|Yo 7 rfl (fun _=>X3 rfl) ?_
   refine Yl 57 rfl (fun e=>?_) (fun e=>?_)
   ·refine Yp 8 rfl (gP e) ?_;refine Yp 9 rfl (gP e) ?_;refine Yp 10 rfl (gP e) ?_;refine Yp 11 rfl (gP e) ?_;refine Yp 12 rfl (gP e) ?_;refine Yp 13 rfl (gP e) ?_;refine Yp 14 rfl (gP e) ?_;refine Yp 15 rfl (gP e) ?_;refine Yp 16 rfl (gP e) ?_;refine Yp 17 rfl (gP e) ?_;refine Yo 18 rfl (fun _=>X7 rfl e rfl)<|Yo 19 rfl (fun _=>X3 rfl)<|Yp 20 rfl (gP rfl) ?_;refine Yp 21 rfl (gP rfl) ?_;refine Yp 22 rfl (gP rfl) ?_;refine Yp 23 rfl (gP rfl) ?_;refine Yp 24 rfl (gP rfl) ?_;refine Y1 25<|Yq rfl ⟨_,_,rfl,rfl,rfl⟩ ?_;refine Yp 26 rfl (gP rfl) ?_;refine Yo 27 rfl (fun _=>X7 rfl rfl rfl) ?_;refine Yd fun a j=>?_
    have aN:Below w1.heap.size w1 w7:=W
    exact ⟨j.sub ⟨rfl,rfl,X1 rfl (by first|rfl|(simp only [U,E,H,I,J,L,e,bs];done)|simp [U,E,H,I,J,L,e]),trivial⟩,aN⟩
   have bH:0≤r.a∧r.a.toNat<d.ns.length:=by have h9:=X19 (ns:=d.ns) (k:=r.a) (by simpa using e);exact ⟨h9.1,h9.2.1⟩
   refine Yu 8 rfl (gW e) (fun _=>X3 rfl) ?_;refine Yu 9 rfl (gW e) (fun _=>Xz rfl) ?_;refine Yu 10 rfl (gW e) (fun _=>Vd rfl Xj 1) ?_;refine Yv 11 rfl (gW e) (X0 rfl X00 (f.at 1)) ?_;refine Yu 12 rfl (gW e) (fun _=>Vd rfl X1n 1) ?_;refine Yv 13 rfl (gW e) (X0 rfl X9 (i.at 1)) ?_;refine Yu 14 rfl (gW e) (fun _=>Xi (k:=r.a.toNat) rfl rfl Xs X07 g Q (by omega) (by omega)) ?_;refine Yu 15 rfl (gW e) (fun _=>X15 rfl X06 (m':=r.a.toNat*2+1) rfl) ?_;refine Yv 16 rfl (gW e) (X0 rfl X9 (X0g g Xv (Xb (d:=nZ) (by omega)) 1 rfl)) ?_;refine Yu 17 rfl (gW e) (fun _=>X1j rfl rfl) ?_;refine Yo 18 rfl (fun _=>Xe rfl e rfl)<|Yo 19 rfl (fun _=>X3 rfl) ?_
   refine Yl 69 rfl (fun o=>?_) (fun o=>?_)
   ·refine Yp 20 rfl (gP o) ?_;refine Yp 21 rfl (gP o) ?_;refine Yp 22 rfl (gP o) ?_;refine Yp 23 rfl (gP o) ?_;refine Yp 24 rfl (gP o) ?_;refine Y1 25<|Yq rfl ⟨_,_,rfl,rfl,o⟩ ?_;refine Yp 26 rfl (gP o) ?_;refine Yo 27 rfl (fun _=>X7 rfl o rfl) ?_;refine Yd fun a j=>?_
    have aN:Below w1.heap.size w1 w7:=W
    exact ⟨j.sub ⟨rfl,rfl,X1 rfl (by first|rfl|(simp only [U,E,H,I,J,L,e,o,bs];done)|simp [U,E,H,I,J,L,e,o]),trivial⟩,aN⟩
   refine Yu 20 rfl (gW o) (fun _=>X3 rfl) ?_;refine Yu 21 rfl (gW o) (fun _=>Xz rfl) ?_;refine Yv 22 rfl (gW o) (X04 (l:=[vi d.n,.slice A0 m0 c0,.slice A1 d.ws.length c1,vi d.t,vi d.r]) rfl X2 (f.at 0) rfl) ?_;refine Yu 23 rfl (gW o) (fun _=>Vd rfl X1n 1) ?_;refine Yv 24 rfl (gW o) (X0 rfl X9 (i.at 1)) ?_;refine Y1 25<|Yk rfl ⟨_,_,rfl,rfl,o⟩ (Vc (X83 _ d m0 Q A0 c0 g.rd.top A1 c1 q.rd.top q.cap r.a (by omega)) X4q) (fun _ _ ⟨_,C⟩=>C) ?_;rintro _ w8 ⟨rfl,C⟩;have y:=tsbel y C;have W:=btr W C;refine Yu 26 rfl (gW o) (fun _=>X1j rfl rfl) ?_;refine Yo 27 rfl (fun _=>Xe rfl o rfl) ?_;refine Yd fun a j=>?_
   have aN:Below w1.heap.size w1 w8:=W
   exact ⟨j.sub ⟨rfl,rfl,X1 rfl (by first|rfl|(simp only [U,E,H,I,J,L,e,o,bs];done)|simp [U,E,H,I,J,L,e,o]),trivial⟩,aN⟩
  rintro a w9 ⟨j,C⟩;have f:=f.below C;have i:=i.below C;have g:=g.below C;have q:=q.below C;have y:=tsbel y C;refine bG _ _ ?_
  refine Xg j rfl (fun aD=>?_) (fun aD=>?_)
  ·have aW:=aD;have aM:=Xs7 hD aD;refine Zs j fun _ bJ=>?_;refine Za rfl<|Zt bJ fun a j=>?_;refine Q6<|X6<|Xq<|X6 ?_;refine X4 j (Xt j rfl rfl) ?_
   rw [G.1,aM,Q3 Bool.false_ne_true]
   exact ⟨A1,c1,rfl,y,a6,⟨f,g,q,Q⟩⟩
  have aW:=aD;obtain ⟨cE,bH⟩:=Xl7 hD aD;refine Q7<|bF _ _<|Zs j fun _ bK=>?_;refine Zm rfl<|Ze (Vd rfl X1n 1)<|Ze (X0 rfl X9 (i.at 1))<|Zf (Vc (X9d _ bV B0 A0 c0 A1 c1 m0 d ⟨f,g,q,Q⟩ (Q0 aJ y.size) r.a bH (by omega)) X5p) ?_;rintro _ cK ⟨bL,bM,h,aI,M,x,aO,aX⟩;have i:=i.tu h f rfl (alc (nrow g i rfl) (alc (nrow q i rfl) al0));have B:=SB.lift (S:=SB bV [A0,A1]) (w0:=w0) (.inl (.inl rfl)) (alc aK (alc a6 al0));have aI:=Us.trans aI B y.size
  have y:=tstr y h B;clear B
  clear h f;have f:=M;clear M
  clear g;have g:=x;clear x;refine Zx bK fun a j _ bN=>?_;refine Zm rfl<|Ze (Xz rfl)<|Ze (Vd rfl X02 4)<|Ze (X0 rfl X9 (f.at 4))<|Ze (X43 rfl rfl)<|Ze (Xz rfl)<|Ze (Vd rfl X02 4)<|Zo (X1a (vs:=[vi (wr (((id0 d r.a).r)+2))]) (l':=[vi ((id0 d r.a).n),.slice A0 m0 c0,.slice bL ((id0 d r.a).ws).length bM,vi ((id0 d r.a).t),vi (wr (((id0 d r.a).r)+2))]) rfl rfl X08 f rfl rfl rfl rfl rfl) ?_;rintro _ cL ⟨ho,hb⟩;have aP:=f;have g:=g.onlyT ho aP rfl;have aO:=aO.onlyT ho aP rfl;have y:=tsonly y ho (.inl (.inl rfl));have f:=hb;refine Zx bN fun a j _ bO=>?_;refine Za rfl<|Zt bO fun a j=>?_;refine Q6<|Xq<|X6<|X4 j (Xt j rfl rfl) ?_
  rw [G.1,G.2,cE,Q4 rfl]
  exact ⟨bL,bM,rfl,y,aI,⟨f,g,aO,aX⟩⟩
 have L:=aC
 have aM:doC d r=false:=Xwz g1 g2 g3 g4 aC
 refine Q7<|Xa<|aZ _ _<|Zs j fun _ bP=>?_;refine Za rfl<|Zt bP fun a j=>?_
 refine Q6 (X4 j (Xt j rfl rfl) ?_)
 rw [aM,Q3 Bool.false_ne_true]
 exact ⟨A1,c1,rfl,y,a6,⟨f,g,q,Q⟩⟩
theorem Xol(Q:World)(d:Dg)(md:Nat)(aF:md=d.ns.length)(Ad:Option Addr)(cd:Nat)(aG:Rd Q Q.heap.size 81 encNd Ad d.ns)(Bd:Option Addr)(dd:Nat)(aH:Rd Q Q.heap.size 83 encWr Bd d.ws)(aI:d.ws.length≤dd)(x:Rz)(hG:goodD d=true) : Ret Tryz.prog 67 [.agg #[vi d.n,.slice Ad md cd,.slice Bd d.ws.length dd,vi d.t,vi d.r],.agg #[vi x.u,vi x.a,vi x.b]] Q (fun v w=>∃ A c1 B e,v=.tuple #[.agg #[vi (if (apC d x)=true then apD d x else zD).n,.slice A (if (apC d x)=true then apD d x else zD).ns.length c1,.slice B (if (apC d x)=true then apD d x else zD).ws.length e,vi (if (apC d x)=true then apD d x else zD).t,vi (if (apC d x)=true then apD d x else zD).r],.bool (apC d x)]∧Rd w w.heap.size 81 encNd A (if (apC d x)=true then apD d x else zD).ns∧Rd w w.heap.size 83 encWr B (if (apC d x)=true then apD d x else zD).ws∧(if (apC d x)=true then apD d x else zD).ws.length≤e∧Below Q.heap.size Q w):=by
 subst aF
 have hD:=X1e hG;have bA:=hD.m;have bB:=hD.len;refine enter Tryz.func67 rfl 17 rfl rfl ?_;intro a C
 have i:=bz Q
 refine Zs C fun _ aW=>?_;refine Zf (X0c (zs:=[vi d.n,.slice Ad d.ns.length cd,.slice Bd d.ws.length dd,vi d.t,vi d.r]) rfl rfl) ?_;rintro _ w1 ⟨b4,rfl,aX,q,y⟩;have b7:=Q0 i.size aX;have i:=btr i q;refine Zf (X0c (zs:=[vi x.u,vi x.a,vi x.b]) rfl rfl) ?_;rintro _ w2 ⟨b5,rfl,aY,q,k⟩;have b9:=Q0 i.size aY;have y:=y.below q;have i:=btr i q;refine Zf (Xu (zs:=[vi 0,.slice none 0 0,.slice none 0 0,vi 0,vi 0]) X0s rfl) ?_;rintro _ w3 ⟨b8,rfl,aZ,q,f⟩
 have aU:b4≠b8:=by have:=y.lt;omega
 have W:=Q0 i.size aZ;have y:=y.below q;have k:=k.below q;have i:=btr i q;refine Za rfl<|Zx aW fun a C _ b0=>?_;refine Ze (Vn X2 y)<|Zf (Vc (Xix _ d d.ns.length rfl Ad cd (aG.below' i).top Bd dd (aH.below' i).top aI ⟨by omega,by omega⟩) Xaq) ?_;rintro _ w4 ⟨a8,aA,aJ,aK,rfl,g,j,q⟩;have g:=g.lower i.size;have j:=j.lower i.size;have y:=y.below q;have k:=k.below q;have f:=f.below q;have i:=btr i q;refine Zf (Xu (zs:=[vi 0,.slice none 0 0,.slice none 0 0,vi 0,vi 0]) X0s rfl) ?_;rintro _ w5 ⟨b14,rfl,aL,q,o⟩
 have aM:b4≠b14:=by have:=y.lt;omega
 have D:b8≠b14:=by have:=f.lt;omega
 have E:=Q0 i.size aL;have k:=k.below q;have f:=f.below q;have g:=g.below q;have j:=j.below q;have i:=btr i q;refine Zo (Vw [vi d.n,.slice a8 d.ns.length aA,.slice aJ d.ws.length aK,vi d.t,vi d.r] Xp o) ?_;rintro _ w6 ⟨G,hb⟩;have p:=o;have k:=k.only G (Blk.ne k p rfl);have f:=f.only G (by omega);have g:=g.onlyT G p rfl;have j:=j.onlyT G p rfl;have i:=Below.only i G E;have o:=hb;refine ZX b0 fun a C _ aN=>?_;refine Zs C fun _ aO=>?_;refine Ze (Vn X1y k)<|Zf (Vc (Xue _ b14 Q.heap.size a8 aA aJ aK d.ns.length d ⟨o,g,j,rfl⟩ i.size x hG) Xkm) ?_;rintro _ w7 ⟨b1,b2,rfl,U,aB,aP,a6,a7,aC⟩;have k:=k.tu U o rfl (alc (nrow g k rfl) (alc (nrow j k rfl) al0));have f:=f.tuN U D (alc (nrow g f rfl) (alc (nrow j f rfl) al0))
 have i:=Below.ts i U (SB.ge E (alc (fun _ h9=>X1t g h9) (alc (fun _ h9=>X1t j h9) al0))) i.size
 clear aB
 clear U o;have o:=aP;clear aP
 clear g;have g:=a6;clear a6;refine Ze (X0y rfl)<|Zt aO fun a C=>?_
 refine Xg C rfl (fun h=>?_) (fun h=>?_)
 ·have aD:=h
  have b3:apC d x=false:=Xp2 (by have h8:=h;simpa using h8)
  refine Zs C fun _ aQ=>?_;refine Ze (X0w (ps:=[]) (cs:=[vi 0,.slice none 0 0,.slice none 0 0,vi 0,vi 0]) rfl (fun _=>by first|rfl|kernel_rfl))<|Zo (Vw [vi 0,.slice none 0 0,.slice none 0 0,vi 0,vi 0] Xp f) ?_;rintro _ w8 ⟨G,hb⟩;have p:=f;have i:=Below.only i G W;have f:=hb;refine Za rfl<|Zt aQ fun a C=>?_;refine Q6<|X6<|X4 C (X17 C rfl (ResV.cellN (l:=[vi 0,.slice none 0 0,.slice none 0 0,vi 0,vi 0]) rfl X2 (f.at 0) rfl) rfl) ?_
  rw [b3,Q3 Bool.false_ne_true]
  exact ⟨none,0,none,0,rfl,(Rd.nil _ _ _ _ _),(Rd.nil _ _ _ _ _),(Qf _),i⟩
 have aD:=h
 have aE:doC d x=true:=by have h8:=h;simpa using h8
 have b6:=Xj6 hD aE
 have aR:(if doC d x=true then outD (doD d x) else d)=outD (doD d x):=Q4 aE
 refine Q7<|aN _ _<|Zs C fun _ aS=>?_;refine Ze (Vn X2 o)<|Zf (Vc (Xod _ (if doC d x=true then outD (doD d x) else d) d.ns.length aC a8 aA g.rd.top b1 b2 a7.rd.top a7.cap (by rw [aR];exact Q0 b6.1.c (by decide))) Xf0) ?_;rintro _ w9 ⟨H,I,J,L,rfl,M,N,aT,q⟩;have f:=f.below q;have i:=btr i q;refine Ze (Xn (vs:=[.agg #[vi ((if (ivD (if doC d x=true then outD (doD d x) else d))=true then (if doC d x=true then outD (doD d x) else d) else zD).n),.slice H ((if (ivD (if doC d x=true then outD (doD d x) else d))=true then (if doC d x=true then outD (doD d x) else d) else zD).ns).length I,.slice J ((if (ivD (if doC d x=true then outD (doD d x) else d))=true then (if doC d x=true then outD (doD d x) else d) else zD).ws).length L,vi ((if (ivD (if doC d x=true then outD (doD d x) else d))=true then (if doC d x=true then outD (doD d x) else d) else zD).t),vi ((if (ivD (if doC d x=true then outD (doD d x) else d))=true then (if doC d x=true then outD (doD d x) else d) else zD).r)],.bool (ivD (if doC d x=true then outD (doD d x) else d))]) rfl rfl)<|Ze (Xn (vs:=[.agg #[vi ((if (ivD (if doC d x=true then outD (doD d x) else d))=true then (if doC d x=true then outD (doD d x) else d) else zD).n),.slice H ((if (ivD (if doC d x=true then outD (doD d x) else d))=true then (if doC d x=true then outD (doD d x) else d) else zD).ns).length I,.slice J ((if (ivD (if doC d x=true then outD (doD d x) else d))=true then (if doC d x=true then outD (doD d x) else d) else zD).ws).length L,vi ((if (ivD (if doC d x=true then outD (doD d x) else d))=true then (if doC d x=true then outD (doD d x) else d) else zD).t),vi ((if (ivD (if doC d x=true then outD (doD d x) else d))=true then (if doC d x=true then outD (doD d x) else d) else zD).r)],.bool (ivD (if doC d x=true then outD (doD d x) else d))]) rfl rfl)<|Zo (Vw [vi ((if (ivD (if doC d x=true then outD (doD d x) else d))=true then (if doC d x=true then outD (doD d x) else d) else zD).n),.slice H ((if (ivD (if doC d x=true then outD (doD d x) else d))=true then (if doC d x=true then outD (doD d x) else d) else zD).ns).length I,.slice J ((if (ivD (if doC d x=true then outD (doD d x) else d))=true then (if doC d x=true then outD (doD d x) else d) else zD).ws).length L,vi ((if (ivD (if doC d x=true then outD (doD d x) else d))=true then (if doC d x=true then outD (doD d x) else d) else zD).t),vi ((if (ivD (if doC d x=true then outD (doD d x) else d))=true then (if doC d x=true then outD (doD d x) else d) else zD).r)] Xp f) ?_;rintro _ bC ⟨G,hb⟩
 have p:=f;have M:=M.onlyT G p rfl;have N:=N.onlyT G p rfl;have i:=Below.only i G W;have f:=hb;refine Za rfl<|Zt aS fun a C=>?_
 refine Q6 (X4 C (X17 C rfl (ResV.cellN (l:=[vi ((if (ivD (if doC d x=true then outD (doD d x) else d))=true then (if doC d x=true then outD (doD d x) else d) else zD).n),.slice H ((if (ivD (if doC d x=true then outD (doD d x) else d))=true then (if doC d x=true then outD (doD d x) else d) else zD).ns).length I,.slice J ((if (ivD (if doC d x=true then outD (doD d x) else d))=true then (if doC d x=true then outD (doD d x) else d) else zD).ws).length L,vi ((if (ivD (if doC d x=true then outD (doD d x) else d))=true then (if doC d x=true then outD (doD d x) else d) else zD).t),vi ((if (ivD (if doC d x=true then outD (doD d x) else d))=true then (if doC d x=true then outD (doD d x) else d) else zD).r)]) rfl X2 (f.at 0) rfl) rfl) ?_)
 rw [show apC d x=ivD (outD (doD d x)) from by unfold apC;rw [aE,Qw,Xa0]]
 rw [aR] at *
 exact ⟨H,I,J,L,rfl,M.top,N.top,aT,i⟩
theorem Xwe(H:World)(d:Dg)(md:Nat)(b9:md=d.ns.length)(Ad:Option Addr)(cd:Nat)(aH:Rd H H.heap.size 81 encNd Ad d.ns)(Bd:Option Addr)(dd:Nat)(aI:Rd H H.heap.size 83 encWr Bd d.ws)(y:d.ws.length≤dd)(x:Int)(hG:goodD d=true) : Ret Tryz.prog 103 [.agg #[vi d.n,.slice Ad md cd,.slice Bd d.ws.length dd,vi d.t,vi d.r],vi x,vi 1] H (fun v w=>∃ A c,v=.slice A ((alL d x).take 1).length c∧Own w H.heap.size 58 3 encRz A c ((alL d x).take 1)∧Below H.heap.size H w):=by
 subst b9
 have hD:=X1e hG;have cY:=hD.m;have d5:=hD.len;refine enter Tryz.func103 rfl 61 rfl rfl ?_;intro a e
 have p:=bz H
 refine Zs e fun _ cC=>?_;refine Zf (X0c (zs:=[vi d.n,.slice Ad d.ns.length cd,.slice Bd d.ws.length dd,vi d.t,vi d.r]) rfl rfl) ?_;rintro _ w1 ⟨b4,rfl,cD,h,b⟩;have cS:=Q0 p.size cD;have p:=btr p h;refine Za rfl<|Zx cC fun a e _ cE=>?_;refine Zf (Xm (k:=0) (vs:=[]) (zs:=[]) rfl X22 X2i rfl rfl) ?_;rintro _ w2 ⟨b7,rfl,cF,h,cG⟩;have bA:=Q0 p.size cF;have b:=b.below h;have p:=btr p h;refine Za rfl<|ZX cE fun a e _ cH=>?_;refine Zs e fun _ bB=>?_;refine Ze (Vd rfl Xj 1)<|Ze (X0 rfl X00 (b.at 1))<|Ze (X0d rfl Xs)<|Zm rfl<|Zt bB fun a e=>?_;refine Q8<|X01 (σ:=Nat×(List Rz)) (fun (s:Nat×(List Rz)) (a:Act) (w:World)=>match s with|(k,m)=>∃ L M,Fr a 61 [(1,vi x),(2,vi 1),(3,.pointer (some ⟨b4,0,none⟩)),(7,.slice L m.length M),(18,vi (d.ns.length:Int)),(19,vi (k:Int))]∧(k≤d.ns.length)∧(m=stA d x k)∧(m.length≤1)∧Blk w b4 39 [vi d.n,.slice Ad d.ns.length cd,.slice Bd d.ws.length dd,vi d.t,vi d.r]∧Own w H.heap.size 58 3 encRz L M m∧d.ws.length≤dd∧Below H.heap.size H w) (fun (s:Nat×(List Rz))=>match s with|(k,m)=>d.ns.length-k) (0,[]) ?_ ?_
 ·exact ⟨some ⟨b7,0,none⟩,0,e.sb,(Qf _),rfl,(by simp),b,(Own.empty cG bA),y,p⟩
 rintro ⟨k,m⟩ a w3 ⟨L,M,e,hk,hm,bC,b,C,y,p⟩;refine Zs e fun _ bD=>?_;refine Ze (X0l rfl rfl)<|ZX bD fun a e _ bE=>?_
 refine Xg e rfl (fun D=>?_) (fun D=>?_)
 ·have G:=D;have D:=Q2 D
  obtain ⟨d6,cT⟩:=X5 (l:=d.ns) (k:=k) (by omega)
  have cJ:k<d.ns.length:=by have:=D;omega
  have d7:=Xmi hD x (k:Int);refine Q7<|bE _ _<|Q5 fun _ bF=>?_;refine Q8<|Zs e fun _ bG=>?_;refine Zm rfl<|Za rfl<|Zx bG fun a e _ bH=>?_;refine Zf (Xm (k:=1) (vs:=[vi 0]) (zs:=[vi 0]) rfl Xl X1q rfl rfl) ?_;rintro _ w4 ⟨bJ,rfl,bK,h,aB⟩;have cK:=Q0 p.size bK;have b:=b.below h;have C:=C.below h;have p:=btr p h;refine Za rfl<|ZX bH fun a e _ bL=>?_;refine Q5 fun _ bM=>?_;refine X0a (fun a w=>Fr a 61 [(1,vi x),(2,vi 1),(3,.pointer (some ⟨b4,0,none⟩)),(7,.slice L m.length M),(8,vi (k:Int)),(9,.slice (some ⟨bJ,0,none⟩) ([0]).length 1),(18,vi (d.ns.length:Int)),(19,vi (k:Int)),(28,.bool ((x==1)||(x==4)))]∧w4=w) ?_ ?_
  ·refine Zr e<|Zm rfl<|Ze (X0b rfl rfl)<|Zm rfl ?_
   refine Zg 25 rfl (fun B=>?_) (fun B=>?_)
   ·refine Zp (gP B) ?_;refine Zp (gP B) ?_;refine Ze (X7 rfl B rfl) ?_;refine Zn fun a e=>?_;exact ⟨e.sub ⟨rfl,rfl,rfl,rfl,rfl,rfl,rfl,rfl,X1 rfl (by first|rfl|(simp only [G,B,bs];done)|simp [G,B]),trivial⟩,rfl⟩
   refine Zv (gW B) (X3 rfl) ?_;refine Zv (gW B) (X0b rfl rfl) ?_;refine Ze (Xe rfl B rfl) ?_;refine Zn fun a e=>?_;exact ⟨e.sub ⟨rfl,rfl,rfl,rfl,rfl,rfl,rfl,rfl,X1 rfl (by first|rfl|(simp only [G,B,bs];done)|simp [G,B]),trivial⟩,rfl⟩
  rintro a _ ⟨e,rfl⟩;refine bM _ _<|X0a (fun a w=>∃ aC aM,Fr a 61 [(1,vi x),(2,vi 1),(3,.pointer (some ⟨b4,0,none⟩)),(7,.slice L m.length M),(8,vi (k:Int)),(9,.slice aC (secL d x k).length aM),(18,vi (d.ns.length:Int)),(19,vi (k:Int))]∧Blk w b4 39 [vi d.n,.slice Ad d.ns.length cd,.slice Bd d.ws.length dd,vi d.t,vi d.r]∧Own w H.heap.size 58 3 encRz L M m∧Rd w w.heap.size 3 encI aC (secL d x k)∧d.ws.length≤dd∧Below H.heap.size H w) ?_ ?_
  ·refine Xg e rfl (fun N=>?_) (fun N=>?_)
   ·have aN:=N;have aD:=Xwj (d:=d) (a:=(k:Int)) N;refine Zr e<|Ze (Vn X2 b)<|Zm rfl<|Zf (Vc (X9b _ d d.ns.length rfl Ad cd (aH.below' p).top Bd dd (aI.below' p).top y (k:Int) hD.w (by omega)) X5q) ?_;rintro _ w5 ⟨cL,cM,rfl,W,h⟩;have b3:=W.awayNew aB.lt;have W:=W.lower p.size;have b:=b.below h;have C:=C.below h;have p:=btr p h;refine Za rfl ?_;refine Zn fun a e=>?_
    rw [aD]
    refine Xh ?_;exact ⟨cL,cM,e.sb,b,C,W.rd.top,y,p⟩
   have aN:=N;have aD:=Xvu (d:=d) (a:=(k:Int)) N;refine Q7 ?_
   rw [aD]
   refine Xh ?_;exact ⟨some ⟨bJ,0,none⟩,1,e.sb,b,C,(Rd.of_blk aB rfl _ aB.lt),y,p⟩
  rintro a w6 ⟨aC,aM,e,b,C,f,y,p⟩;refine bL _ _<|Zs e fun _ bN=>?_;refine Zm rfl<|Ze (X0d rfl Xl)<|Zm rfl<|Zt bN fun a e=>?_;refine Q8<|X01 (σ:=Nat×(List Rz)) (fun (s:Nat×(List Rz)) (a:Act) (w:World)=>match s with|(j,g)=>∃ a7 a8,Fr a 61 [(1,vi x),(2,vi 1),(3,.pointer (some ⟨b4,0,none⟩)),(7,.slice a7 g.length a8),(8,vi (k:Int)),(18,vi (d.ns.length:Int)),(19,vi (k:Int)),(32,.slice aC (secL d x k).length aM),(33,vi ((secL d x k).length:Int)),(34,vi (j:Int))]∧(j≤(secL d x k).length)∧(g=stA d x k++stR d x k ((secL d x k).take j))∧(g.length≤1)∧Blk w b4 39 [vi d.n,.slice Ad d.ns.length cd,.slice Bd d.ws.length dd,vi d.t,vi d.r]∧Own w H.heap.size 58 3 encRz a7 a8 g∧Rd w w6.heap.size 3 encI aC (secL d x k)∧d.ws.length≤dd∧Below H.heap.size H w) (fun (s:Nat×(List Rz))=>match s with|(j,g)=>(secL d x k).length-j) (0,m) ?_ ?_
  ·exact ⟨L,M,e.sb,(Qf _),(by rw [hm];simp [stR]),bC,b,C,f,y,p⟩
  rintro ⟨j,g⟩ a w7 ⟨a7,a8,e,hj,hg,aO,b,i,f,y,p⟩;refine Zs e fun _ bO=>?_;refine Ze (X0l rfl rfl)<|ZX bO fun a e _ bP=>?_
  refine Xg e rfl (fun E=>?_) (fun E=>?_)
  ·have aP:=E;have E:=Q2 E
   obtain ⟨d8,cU⟩:=X5 (l:=(secL d x k)) (k:=j) (by omega)
   obtain ⟨q,aQ⟩:=X5 (l:=secL d x k) (k:=j) (by have:=E;omega)
   refine Q7<|bP _ _<|Q5 fun _ aJ=>?_;refine Q8<|Zs e fun _ bR=>?_;refine Zi (k:=j) (u:=q) (enc:=encI) (l:=(secL d x k)) trivial rfl rfl Xl X08 Xf f aQ rfl ?_;intro d9 aR;refine Ze (X0 rfl X9 aR)<|Za rfl<|Zx bR fun a e _ bS=>?_;refine Zm rfl<|Zm rfl<|Zm rfl<|Ze (X0w (ps:=[(0,vi x),(1,vi (k:Int)),(2,vi q)]) (cs:=[vi x,vi (k:Int),vi q]) rfl (fun _=>by first|rfl|kernel_rfl))<|Zf (Xu (zs:=[vi 0,vi 0,vi 0]) X6v rfl) ?_;rintro _ w8 ⟨cN,rfl,aK,h,o⟩;have aS:=Q0 p.size aK;have I:=i.away aK;have b:=b.below h;have i:=i.below h;have f:=f.below h;have p:=btr p h;refine Zo (Vw [vi x,vi (k:Int),vi q] X33 o) ?_;rintro _ w9 ⟨ho,hb⟩;have J:=o;have b:=b.only ho (Blk.ne b J rfl);have i:=i.onlyA ho I;have f:=f.onlyT ho J rfl;have p:=Below.only p ho aS;have o:=hb;refine ZX bS fun a e _ bT=>?_;refine Zs e fun _ bU=>?_;refine Zm rfl<|Ze (X0d rfl X22)<|Zm rfl<|Ze (X0b rfl rfl)<|Zt bU fun a e=>?_
   refine Xg e rfl (fun Q=>?_) (fun Q=>?_)
   ·have aT:=Q
    have aE:(alL d x).take 1=g:=Xqz hD cJ hg (by have h8:=Q;simp at h8;omega)
    refine Zs e fun _ bW=>?_;refine Zm rfl<|Za rfl<|Zt bW fun a e=>?_;refine Q6<|X6<|Xq<|X6 ?_;refine X6<|Xq<|Xq<|X6 ?_;refine X6<|Xq<|X6<|X4 e (Xt e rfl rfl) ?_
    rw [aE]
    exact ⟨a7,a8,rfl,i,p⟩
   have aT:=Q
   have dB:g.length=0:=by have h8:=Q;simp at h8;omega
   refine Q7<|bT _ _<|Zs e fun _ bX=>?_;refine Ze (Vn X2 b)<|Ze (Vn X1y o)<|Zf (Vc (Xol _ d d.ns.length rfl Ad cd (aH.below' p).top Bd dd (aI.below' p).top y (⟨x,(k:Int),q⟩ : Rz) hG) Xfu) ?_;rintro _ dC ⟨aU,aW,aX,aY,rfl,cV,cW,cX,h⟩;have b:=b.below h;have o:=o.below h;have i:=i.below h;have f:=f.below h;have p:=btr p h;refine Zm rfl<|Ze (Xn (vs:=[.agg #[vi ((if (apC d (⟨x,(k:Int),q⟩ : Rz))=true then apD d (⟨x,(k:Int),q⟩ : Rz) else zD).n),.slice aU ((if (apC d (⟨x,(k:Int),q⟩ : Rz))=true then apD d (⟨x,(k:Int),q⟩ : Rz) else zD).ns).length aW,.slice aX ((if (apC d (⟨x,(k:Int),q⟩ : Rz))=true then apD d (⟨x,(k:Int),q⟩ : Rz) else zD).ws).length aY,vi ((if (apC d (⟨x,(k:Int),q⟩ : Rz))=true then apD d (⟨x,(k:Int),q⟩ : Rz) else zD).t),vi ((if (apC d (⟨x,(k:Int),q⟩ : Rz))=true then apD d (⟨x,(k:Int),q⟩ : Rz) else zD).r)],.bool (apC d (⟨x,(k:Int),q⟩ : Rz))]) rfl rfl)<|Ze (Xn (vs:=[.agg #[vi ((if (apC d (⟨x,(k:Int),q⟩ : Rz))=true then apD d (⟨x,(k:Int),q⟩ : Rz) else zD).n),.slice aU ((if (apC d (⟨x,(k:Int),q⟩ : Rz))=true then apD d (⟨x,(k:Int),q⟩ : Rz) else zD).ns).length aW,.slice aX ((if (apC d (⟨x,(k:Int),q⟩ : Rz))=true then apD d (⟨x,(k:Int),q⟩ : Rz) else zD).ws).length aY,vi ((if (apC d (⟨x,(k:Int),q⟩ : Rz))=true then apD d (⟨x,(k:Int),q⟩ : Rz) else zD).t),vi ((if (apC d (⟨x,(k:Int),q⟩ : Rz))=true then apD d (⟨x,(k:Int),q⟩ : Rz) else zD).r)],.bool (apC d (⟨x,(k:Int),q⟩ : Rz))]) rfl rfl)<|Zf (Xu (zs:=[vi 0,.slice none 0 0,.slice none 0 0,vi 0,vi 0]) X0s rfl) ?_;rintro _ dD ⟨b48,rfl,bY,h,aF⟩
   have c4:b4≠b48:=by have:=b.lt;omega
   have aZ:=Q0 p.size bY;have b:=b.below h;have o:=o.below h;have i:=i.below h;have f:=f.below h;have p:=btr p h;refine Zo (Vw [vi ((if (apC d (⟨x,(k:Int),q⟩ : Rz))=true then apD d (⟨x,(k:Int),q⟩ : Rz) else zD).n),.slice aU ((if (apC d (⟨x,(k:Int),q⟩ : Rz))=true then apD d (⟨x,(k:Int),q⟩ : Rz) else zD).ns).length aW,.slice aX ((if (apC d (⟨x,(k:Int),q⟩ : Rz))=true then apD d (⟨x,(k:Int),q⟩ : Rz) else zD).ws).length aY,vi ((if (apC d (⟨x,(k:Int),q⟩ : Rz))=true then apD d (⟨x,(k:Int),q⟩ : Rz) else zD).t),vi ((if (apC d (⟨x,(k:Int),q⟩ : Rz))=true then apD d (⟨x,(k:Int),q⟩ : Rz) else zD).r)] Xp aF) ?_;rintro _ dE ⟨ho,hb⟩;have J:=aF;have b:=b.only ho (by omega);have o:=o.only ho (Blk.ne o J rfl);have i:=i.onlyT ho J rfl;have f:=f.onlyT ho J rfl;have p:=Below.only p ho aZ;have aF:=hb;refine Za rfl<|Zx bX fun a e _ c5=>?_;refine Zm rfl<|Zt c5 fun a e=>?_
   refine Xg e rfl (fun U=>?_) (fun U=>?_)
   ·have b0:=U;have b1:=Xvt aQ U;refine Zr e<|Zm rfl<|Ze (Vn X1y o)<|Zf (Xm (k:=1) (vs:=[.agg #[vi x,vi (k:Int),vi q]]) (zs:=[vi x,vi (k:Int),vi q]) rfl X22 X2i rfl rfl) ?_;rintro _ dF ⟨b51,rfl,aL,h,aG⟩
    have b5:cN≠b51:=by have:=o.lt;omega
    have cO:=Q0 p.size aL;have aA:=i.away aL;have b:=b.below h;have o:=o.below h;have i:=i.below h;have f:=f.below h;have p:=btr p h;refine Zf (X0m (enc:=encRz) (l:=(g)) (l2:=([(⟨x,(k:Int),q⟩ : Rz)])) (B0:=H.heap.size) rfl rfl X22 X2i X3f X5c i (Rd.of_blk aG rfl _ aG.lt) (by simp only [maxLen];simp;omega) (by simp;omega) p.size) ?_;rintro _ dG ⟨cP,cQ,rfl,cA,hg,b2⟩
    have a6:Own _ H.heap.size 58 3 encRz _ _ (g):=i
    have b6:=b2 _ o.lt I;have b8:=b2 _ aG.lt aA;clear b2;have b:=b.appT a6 hg rfl;have f:=f.appT a6 hg rfl;have p:=Below.app p a6 hg (Qb _) p.size;clear a6 hg;refine Za rfl ?_;refine Zn fun a e=>?_;refine Xa<|aJ _ _<|Zr e<|Ze (Xw rfl rfl (by omega) (by omega))<|Zm rfl ?_;refine Zn fun a e=>?_;refine Xh ?_;exact ⟨(j+1,g++([(⟨x,(k:Int),q⟩ : Rz)])),⟨cP,cQ,e.sb,(by omega),(by rw [b1,hg];try rw [Qx]),(by first|exact aO|(rw [Qh,List.length_singleton];omega)),b,cA,f,y,p⟩,(by first|omega|(dsimp only;omega))⟩
   have b0:=U;have b1:=Xty aQ U;refine Q7<|Xa<|aJ _ _<|Zr e ?_;refine Ze (Xw rfl rfl (by omega) (by omega))<|Zm rfl ?_;refine Zn fun a e=>?_;refine Xh ?_;exact ⟨(j+1,g),⟨a7,a8,e.sb,(by omega),(by rw [b1,hg];try rw [Qx]),(by first|exact aO|(rw [Qh,List.length_singleton];omega)),b,i,f,y,p⟩,(by first|omega|(dsimp only;omega))⟩
  have aP:=E;have E:=Q1 E
  have cR:g=stA d x (k+1):=by rw [Xee,hg,Qi (by have:=E;omega)]
  refine Q9<|Xk<|Xk<|X03 ?_;refine Xa<|bF _ _<|Zr e<|Ze (Xw rfl rfl (by omega) (by omega))<|Zm rfl ?_;refine Zn fun a e=>?_;refine Xh ?_;exact ⟨(k+1,g),⟨a7,a8,e.sb,(by omega),cR,aO,b,i,y,p⟩,(by first|omega|(dsimp only;omega))⟩
 have G:=D;have D:=Q1 D
 have aE:(alL d x).take 1=m:=by rw [← Xkb hD,show d.ns.length=k by have:=D;omega,← hm];exact Qi bC
 refine Q9<|Xk<|Xk<|X03 ?_;refine cH _ _<|Zs e fun _ cB=>?_;refine Zm rfl<|Za rfl<|Zt cB fun a e=>?_
 refine Q6 (X4 e (Xt e rfl rfl) ?_)
 rw [aE]
 exact ⟨L,M,rfl,C,p⟩
theorem Xsr(q:World)(d:Dg)(md:Nat)(aD:md=d.ns.length)(Ad:Option Addr)(cd:Nat)(aE:Rd q q.heap.size 81 encNd Ad d.ns)(Bd:Option Addr)(dd:Nat)(aF:Rd q q.heap.size 83 encWr Bd d.ws)(o:d.ws.length≤dd)(Al:Option Addr)(cl:Nat)(l:List Int)(aG:Rd q q.heap.size 3 encI Al l)(hG:goodD d=true)(b0:l.length≤1000000000) : Ret Tryz.prog 51 [.agg #[vi d.n,.slice Ad md cd,.slice Bd d.ws.length dd,vi d.t,vi d.r],.slice Al l.length cl] q (fun v w=>v=.tuple #[.agg #[vi ((fsF d l).getD rZ).u,vi ((fsF d l).getD rZ).a,vi ((fsF d l).getD rZ).b],.bool ((fsF d l).isSome)]∧Below q.heap.size q w):=by
 subst aD
 refine enter Tryz.func51 rfl 26 rfl rfl ?_;intro a g
 have i:=bz q
 refine Zs g fun _ aQ=>?_;refine Zf (X0c (zs:=[vi d.n,.slice Ad d.ns.length cd,.slice Bd d.ws.length dd,vi d.t,vi d.r]) rfl rfl) ?_;rintro _ w1 ⟨b5,rfl,aR,y,j⟩;have aY:=Q0 i.size aR;have i:=btr i y;refine Zf (Xu (zs:=[vi 0,vi 0,vi 0]) X6v rfl) ?_;rintro _ w2 ⟨b6,rfl,aS,y,c⟩;have h:=Q0 i.size aS;have j:=j.below y;have i:=btr i y;refine Za rfl<|ZX aQ fun a g _ aT=>?_;refine Zs g fun _ aU=>?_;refine Zm rfl<|Ze (X0d rfl Xl)<|Zm rfl<|Zt aU fun a g=>?_;refine Q8<|X01 (σ:=Nat) (fun (k:Nat) (a:Act) (w:World)=>Fr a 26 [(2,.pointer (some ⟨b5,0,none⟩)),(4,.pointer (some ⟨b6,0,none⟩)),(9,.slice Al l.length cl),(10,vi (l.length:Int)),(11,vi (k:Int))]∧(k≤l.length)∧(fsF d (l.take k)=none)∧Blk w b5 39 [vi d.n,.slice Ad d.ns.length cd,.slice Bd d.ws.length dd,vi d.t,vi d.r]∧Blk w b6 58 [vi 0,vi 0,vi 0]∧d.ws.length≤dd∧Below q.heap.size q w) (fun (k:Nat)=>l.length-k) 0 ?_ ?_
 ·exact ⟨g.sb,(Qf _),rfl,j,c,o,i⟩
 rintro k a w3 ⟨g,hk,a6,j,c,o,i⟩;refine Zs g fun _ aW=>?_;refine Ze (X0l rfl rfl)<|ZX aW fun a g _ aH=>?_
 refine Xg g rfl (fun e=>?_) (fun e=>?_)
 ·have a7:=e;have e:=Q2 e
  obtain ⟨b1,aZ⟩:=X5 (l:=l) (k:=k) (by omega)
  obtain ⟨m,a8⟩:=X5 (l:=l) (k:=k) (by have:=e;omega)
  refine Q7<|aH _ _<|Q5 fun _ aI=>?_;refine Q8<|Zs g fun _ aJ=>?_;refine Zi (k:=k) (u:=m) (enc:=encI) (l:=l) trivial rfl rfl Xl X08 Xf (aG.below' i) a8 rfl ?_;intro b2 aA;refine Ze (X0 rfl X9 aA)<|Za rfl<|Zx aJ fun a g _ aK=>?_;refine Ze (Vn X2 j)<|Zm rfl<|Zf (Vc (Xwe _ d d.ns.length rfl Ad cd (aE.below' i).top Bd dd (aF.below' i).top o m hG) Xlv) ?_;rintro _ w4 ⟨b3,b4,rfl,p,y⟩;have aL:=p.awayNew c.lt;have p:=p.lower i.size;have j:=j.below y;have c:=c.below y;have i:=btr i y;refine Za rfl<|Zx aK fun a g _ aM=>?_;refine Zm rfl<|Ze (X0d rfl X22)<|Ze (X6o rfl rfl)<|Zt aM fun a g=>?_
  refine Xg g rfl (fun f=>?_) (fun f=>?_)
  ·have aB:=f;have f:=Q2 f
   have A:0<((alL d m).take 1).length:=by have:=f;omega
   have x:fsF d l=some ((alL d m).getD 0 rZ):=Xiw a6 a8 (Xg9 A)
   refine Zs g fun _ aN=>?_;refine Zm rfl<|Zi (k:=0) (u:=((alL d m).getD 0 rZ)) (enc:=encRz) (l:=((alL d m).take 1)) trivial rfl rfl X22 X33 X3f p.rd (Xij A) rfl ?_;intro b7 aC;refine Ze (X04 (l:=[vi (((alL d m).getD 0 rZ).u),vi (((alL d m).getD 0 rZ).a),vi (((alL d m).getD 0 rZ).b)]) rfl X1y aC rfl)<|Zo (Vw [vi (((alL d m).getD 0 rZ).u),vi (((alL d m).getD 0 rZ).a),vi (((alL d m).getD 0 rZ).b)] X33 c) ?_;rintro _ w5 ⟨ho,hb⟩;have aO:=c;have i:=Below.only i ho h;have c:=hb;refine Za rfl<|Zt aN fun a g=>?_;refine Q6<|Xq<|X6<|X6 ?_;refine Xq<|X6<|X4 g (X17 g rfl (ResV.cellN (l:=[vi (((alL d m).getD 0 rZ).u),vi (((alL d m).getD 0 rZ).a),vi (((alL d m).getD 0 rZ).b)]) rfl X1y (c.at 0) rfl) rfl) ?_;exact ⟨by rw [x];rfl,i⟩
  have aB:=f;have f:=Q1 f
  have aX:fsF d (l.take (k+1))=none:=Xoa a6 a8 (Xgc (by have:=f;omega))
  refine Q7<|Xa<|aI _ _<|Zr g ?_;refine Ze (Xw rfl rfl (by omega) (by omega))<|Zm rfl ?_;refine Zn fun a g=>?_;refine Xh ?_;exact ⟨k+1,⟨g.sb,(by omega),aX,j,c,o,i⟩,(by omega)⟩
 have a7:=e;have e:=Q1 e
 have x:fsF d l=none:=Xji a6 (by have:=e;omega)
 refine Q9<|Xk<|Xk<|X03 ?_;refine aT _ _<|Zs g fun _ aP=>?_;refine Ze (X0w (ps:=[]) (cs:=[vi 0,vi 0,vi 0]) rfl (fun _=>by first|rfl|kernel_rfl))<|Zo (Vw [vi 0,vi 0,vi 0] X33 c) ?_;rintro _ w6 ⟨ho,hb⟩;have aO:=c;have i:=Below.only i ho h;have c:=hb;refine Za rfl<|Zt aP fun a g=>?_
 refine Q6 (X4 g (X17 g rfl (ResV.cellN (l:=[vi 0,vi 0,vi 0]) rfl X1y (c.at 0) rfl) rfl) ?_)
 exact ⟨by rw [x];rfl,i⟩
theorem Xvr(w0:World) : Ret Tryz.prog 48 [] w0 (fun v w=>∃ A c,v=.slice A ([(1:Int),2,3,4,5]).length c∧Own w w0.heap.size 3 1 encI A c ([(1:Int),2,3,4,5])∧Below w0.heap.size w0 w):=by
 refine enter Tryz.func48 rfl 2 rfl rfl ?_;intro a hf
 have hW:=bz w0
 refine Zs hf fun _ a7=>?_;refine Za rfl<|Zx a7 fun a hf _ a8=>?_;refine Zf (Xm (k:=5) (vs:=[vi 1,vi 2,vi 3,vi 4,vi 5]) (zs:=[vi 1,vi 2,vi 3,vi 4,vi 5]) rfl Xl X1q rfl rfl) ?_;rintro _ w1 ⟨b4,rfl,aA,hE,aB⟩;have a6:=Q0 hW.size aA;have hW:=btr hW hE;refine Za rfl<|Zt a8 fun a hf=>?_
 refine Q6 (X4 hf (Xt hf rfl rfl) ?_)
 exact ⟨(some ⟨b4,0,none⟩),5,rfl,(Own.of_blkL Xf aB a6 rfl rfl (by decide)),hW⟩
theorem Xtf(w0:World)(d:Dg)(md:Nat)(bF:md=d.ns.length)(Ad:Option Addr)(cd:Nat)(aX:Rd w0 w0.heap.size 81 encNd Ad d.ns)(Bd:Option Addr)(dd:Nat)(aY:Rd w0 w0.heap.size 83 encWr Bd d.ws)(M:d.ws.length≤dd)(Al:Option Addr)(cl:Nat)(l:List Int)(aM:Rd w0 w0.heap.size 3 encI Al l)(hG:goodD d=true)(bG:l=alR5)(cQ:l.length≤cl) : Ret Tryz.prog 47 [.agg #[vi d.n,.slice Ad md cd,.slice Bd d.ws.length dd,vi d.t,vi d.r],.slice Al l.length cl] w0 (fun v w=>∃ A c B e P q,v=.tuple #[.agg #[vi (siD d l).n,.slice A (siD d l).ns.length c,.slice B (siD d l).ws.length e,vi (siD d l).t,vi (siD d l).r],.slice P (siL d l).length q,.bool true]∧Rd w w.heap.size 81 encNd A (siD d l).ns∧Rd w w.heap.size 83 encWr B (siD d l).ws∧(siD d l).ws.length≤e∧Own w w0.heap.size 58 3 encRz P q (siL d l)∧Below w0.heap.size w0 w):=by
 subst bF
 have hD:=X1e hG;have dD:=hD.len;have dE:=hD.m;have dF:=Xje d.ns
 have d9:l.length=5:=by rw [bG];rfl
 have cR:ivD d=true:=by rw [Xa0];exact hG
 refine enter Tryz.func47 rfl 64 rfl rfl ?_;intro a C
 have j:=bz w0
 refine Zs C fun _ cS=>?_;refine Zf (X0c (zs:=[vi d.n,.slice Ad d.ns.length cd,.slice Bd d.ws.length dd,vi d.t,vi d.r]) rfl rfl) ?_;rintro _ w1 ⟨b5,rfl,cT,i,G⟩;have dB:=Q0 j.size cT;have j:=btr j i;refine Zf (Xu (zs:=[vi 0,.slice none 0 0,.slice none 0 0,vi 0,vi 0]) X0s rfl) ?_;rintro _ w2 ⟨b8,rfl,cU,i,f⟩
 have cP:b5≠b8:=by have:=G.lt;omega
 have bH:=Q0 j.size cU;have G:=G.below i;have j:=btr j i;refine Za rfl<|Za rfl<|ZX cS fun a C _ bJ=>?_;refine Q5 fun _ bK=>?_;refine X0a (fun a w=>Fr a 64 [(1,.slice Al l.length cl),(2,.pointer (some ⟨b5,0,none⟩)),(4,.pointer (some ⟨b8,0,none⟩)),(20,.bool ((!(ivD d))||(decide (5<(l.length:Int)))))]∧Below w2.heap.size w2 w) ?_ ?_
 ·have aC:Below w2.heap.size w2 w2:=Below.refl _ _
  refine Zr C<|Ze (Vn X2 G)<|Zf (Vc (Xoh _ d d.ns.length rfl Ad cd (aX.below' j).top Bd dd (aY.below' j).top M (by omega)) Xep) ?_;rintro _ w3 ⟨rfl,i⟩;have j:=btr j i;have aC:=btr aC i;refine Ze (X0y rfl)<|Zm rfl ?_
  refine Zg 16 rfl (fun E=>?_) (fun E=>?_)
  ·refine Zp (gP E) ?_;refine Zp (gP E) ?_;refine Zp (gP E) ?_;refine Ze (X7 rfl E rfl) ?_;refine Zn fun a C=>?_
   have aH:Below w2.heap.size w2 w3:=aC
   exact ⟨C.sub ⟨rfl,rfl,rfl,X1 rfl (by first|rfl|(simp only [E,bs];done)|simp [E]),trivial⟩,aH⟩
  refine Zv (gW E) (X3 rfl) ?_;refine Zv (gW E) (X0d rfl Xl) ?_;refine Zv (gW E) (X6o rfl rfl) ?_;refine Ze (Xe rfl E rfl) ?_;refine Zn fun a C=>?_
  have aH:Below w2.heap.size w2 w3:=aC
  exact ⟨C.sub ⟨rfl,rfl,rfl,X1 rfl (by first|rfl|(simp only [E,bs];done)|simp [E]),trivial⟩,aH⟩
 rintro a w4 ⟨C,i⟩;have G:=G.below i;have f:=f.below i;have j:=btr j i;refine bK _ _ ?_
 refine Xg C rfl (fun aJ=>?_) (fun aJ=>?_)
 ·have U:=aJ;exact absurd aJ (by rw [cR];simp;omega)
 have U:=aJ;refine Q7<|bJ _ _<|Q5 fun _ bL=>?_;refine Zs C fun _ bM=>?_;refine Zm rfl<|Ze (X0d rfl Xl)<|Zm rfl<|Zt bM fun a C=>?_;refine Q8<|X01 (σ:=Nat) (fun (k:Nat) (a:Act) (w:World)=>Fr a 64 [(1,.slice Al l.length cl),(2,.pointer (some ⟨b5,0,none⟩)),(4,.pointer (some ⟨b8,0,none⟩)),(22,.slice Al l.length cl),(23,vi (l.length:Int)),(24,vi (k:Int))]∧(k≤l.length)∧Blk w b5 39 [vi d.n,.slice Ad d.ns.length cd,.slice Bd d.ws.length dd,vi d.t,vi d.r]∧Blk w b8 39 [vi 0,.slice none 0 0,.slice none 0 0,vi 0,vi 0]∧d.ws.length≤dd∧Below w0.heap.size w0 w) (fun (k:Nat)=>l.length-k) 0 ?_ ?_
 ·exact ⟨C.sb,(Qf _),G,f,M,j⟩
 rintro k a w5 ⟨C,hk,G,f,M,j⟩;refine Zs C fun _ bN=>?_;refine Ze (X0l rfl rfl)<|ZX bN fun a C _ bO=>?_
 refine Xg C rfl (fun N=>?_) (fun N=>?_)
 ·have W:=N;have N:=Q2 N
  obtain ⟨dG,dC⟩:=X5 (l:=l) (k:=k) (by omega)
  obtain ⟨u9,bP⟩:=X5 (l:=l) (k:=k) (by have:=N;omega)
  have bR:=Xu1 bG bP;refine Q7<|bO _ _<|Q5 fun _ bS=>?_;refine Q8<|Zs C fun _ bT=>?_;refine Zm rfl<|Zi (k:=k) (u:=u9) (enc:=encI) (l:=l) trivial rfl rfl Xl X08 Xf (aM.below' j) bP rfl ?_;intro dH b2;refine Ze (X0 rfl X9 b2)<|Za rfl<|Za rfl<|ZX bT fun a C _ bU=>?_;refine X0a (fun a w=>Fr a 64 [(1,.slice Al l.length cl),(2,.pointer (some ⟨b5,0,none⟩)),(4,.pointer (some ⟨b8,0,none⟩)),(22,.slice Al l.length cl),(23,vi (l.length:Int)),(24,vi (k:Int)),(38,.bool ((!(inR u9 1 5))||((l.take k).any fun y=>u9==y)))]∧Below w5.heap.size w5 w) ?_ ?_
  ·have aC:Below w5.heap.size w5 w5:=Below.refl _ _
   refine Zr C<|Zm rfl<|Zf (Vc (F91 _ u9 1 5) X3n) ?_;rintro _ _ ⟨rfl,rfl⟩;refine Ze (X0y rfl)<|Zm rfl ?_
   refine Zg 32 rfl (fun x=>?_) (fun x=>?_)
   ·refine Zp (gP x) ?_;refine Zp (gP x) ?_;refine Zp (gP x) ?_;refine Zp (gP x) ?_;refine Zp (gP x) ?_;refine Ze (X7 rfl x rfl) ?_;refine Zn fun a C=>?_
    have aH:Below w5.heap.size w5 w5:=aC
    exact ⟨C.sub ⟨rfl,rfl,rfl,rfl,rfl,rfl,X1 rfl (by first|rfl|(simp only [U,W,x,bs];done)|simp [U,W,x]),trivial⟩,aH⟩
   refine Zv (gW x) (X3 rfl) ?_;refine Zv (gW x) (X3 rfl) ?_;have bW:=((aM.below' j).top).takeK Xf k;refine Zv (gW x) (X2x (l:=l) (k:=k) rfl rfl Xl X08 rfl hk cQ) ?_;refine Zv (gW x) (X3 rfl) ?_;refine Zk (gW x) (Vc (Xi2 _ Al cl (l.take k) bW.top u9 (by rw [Qn];omega)) X8k) ?_;rintro _ w6 ⟨rfl,i⟩;have j:=btr j i;have aC:=btr aC i;refine Ze (Xe rfl x rfl) ?_;refine Zn fun a C=>?_
   have aH:Below w5.heap.size w5 w6:=aC
   exact ⟨C.sub ⟨rfl,rfl,rfl,rfl,rfl,rfl,X1 rfl (by first|rfl|(simp only [U,W,x,bs];done)|simp [U,W,x]),trivial⟩,aH⟩
  rintro a w7 ⟨C,i⟩;have G:=G.below i;have f:=f.below i;have j:=btr j i;refine bU _ _ ?_
  refine Xg C rfl (fun aK=>?_) (fun aK=>?_)
  ·have b3:=aK;exact absurd aK (by rw [bR.1,bR.2];decide)
  have b3:=aK;refine Q7<|Xa<|bS _ _<|Zr C ?_;refine Ze (Xw rfl rfl (by omega) (by omega))<|Zm rfl ?_;refine Zn fun a C=>?_;refine Xh ?_;exact ⟨k+1,⟨C.sb,(by omega),G,f,M,j⟩,(by omega)⟩
 have W:=N;have N:=Q1 N;refine Q9<|Xk<|Xk<|X03 ?_;refine bL _ _<|Zs C fun _ bX=>?_;refine Ze (Vn X2 G)<|Zf (Vc (Xix _ d d.ns.length rfl Ad cd (aX.below' j).top Bd dd (aY.below' j).top M ⟨by omega,by omega⟩) Xaq) ?_;rintro _ w8 ⟨bY,c4,c5,cA,rfl,L,J,i⟩;have L:=L.lower j.size;have J:=J.lower j.size;have G:=G.below i;have f:=f.below i;have j:=btr j i;refine Zf (Xm (k:=0) (vs:=[]) (zs:=[]) rfl X22 X2i rfl rfl) ?_;rintro _ w9 ⟨cV,rfl,cB,i,a8⟩;have b4:=Q0 j.size cB;have G:=G.below i;have f:=f.below i;have L:=L.below i;have J:=J.below i;have j:=btr j i;refine Zf (Xu (zs:=[vi 0,.slice none 0 0,.slice none 0 0,vi 0,vi 0]) X0s rfl) ?_;rintro _ dI ⟨b35,rfl,cC,i,g⟩
 have cD:b5≠b35:=by have:=G.lt;omega
 have cE:b8≠b35:=by have:=f.lt;omega
 have aN:=Q0 j.size cC;have f:=f.below i;have a8:=a8.below i;have L:=L.below i;have J:=J.below i;have j:=btr j i;refine Zo (Vw [vi d.n,.slice bY d.ns.length c4,.slice c5 d.ws.length cA,vi d.t,vi d.r] Xp g) ?_;rintro _ dJ ⟨Q,hb⟩;have h:=g;have f:=f.only Q (by omega);have a8:=a8.only Q (Blk.ne a8 h rfl);have L:=L.onlyT Q h rfl;have J:=J.onlyT Q h rfl;have j:=Below.only j Q aN;have g:=hb;refine Za rfl<|Zt bX fun a C=>?_;refine Q8<|X01 (σ:=Dg×(List Rz)) (fun (s:Dg×(List Rz)) (a:Act) (w:World)=>match s with|(o,m)=>∃ aQ aR aD aI aE aF,Fr a 64 [(1,.slice Al l.length cl),(4,.pointer (some ⟨b8,0,none⟩)),(9,.pointer (some ⟨b35,0,none⟩)),(10,.slice aQ m.length aR)]∧(goodD o=true)∧(siD o l=siD d l)∧(m++siL o l=siL d l)∧(m.length+spN o.ns≤spN d.ns)∧Blk w b8 39 [vi 0,.slice none 0 0,.slice none 0 0,vi 0,vi 0]∧Blk w b35 39 [vi o.n,.slice aD o.ns.length aI,.slice aE o.ws.length aF,vi o.t,vi o.r]∧Own w w0.heap.size 58 3 encRz aQ aR m∧Rd w w.heap.size 81 encNd aD o.ns∧Rd w w.heap.size 83 encWr aE o.ws∧d.ws.length≤dd∧o.ws.length≤aF∧Below w0.heap.size w0 w) (fun (s:Dg×(List Rz))=>match s with|(o,m)=>spN o.ns) (d,[]) ?_ ?_
 ·exact ⟨some ⟨cV,0,none⟩,0,bY,c4,c5,cA,C.sb,hG,rfl,rfl,(by simp),f,g,(Own.empty a8 b4),L.rd,J.rd,M,J.cap,j⟩
 rintro ⟨o,m⟩ a dK ⟨aQ,aR,aD,aI,aE,aF,C,hI,hs,hm,dL,f,g,p,H,I,M,b6,j⟩;refine Q8<|Zs C fun _ cF=>?_;refine Ze (Vn X2 g)<|Zm rfl<|Zf (Vc (Xsr _ o o.ns.length rfl aD aI H.top aE aF I.top b6 Al cl l (aM.below' j).top hI (by omega)) Xnm) ?_;rintro _ dM ⟨rfl,i⟩;have f:=f.below i;have g:=g.below i;have p:=p.below i;have H:=H.below i;have I:=I.below i;have j:=btr j i;refine Zm rfl<|Ze (Xn (vs:=[.agg #[vi (((fsF o l).getD rZ).u),vi (((fsF o l).getD rZ).a),vi (((fsF o l).getD rZ).b)],.bool ((fsF o l).isSome)]) rfl rfl)<|Ze (Xn (vs:=[.agg #[vi (((fsF o l).getD rZ).u),vi (((fsF o l).getD rZ).a),vi (((fsF o l).getD rZ).b)],.bool ((fsF o l).isSome)]) rfl rfl)<|Zf (Xu (zs:=[vi 0,vi 0,vi 0]) X6v rfl) ?_;rintro _ dN ⟨cW,rfl,aZ,i,D⟩;have b7:=Q0 j.size aZ;have aA:=p.away aZ;have f:=f.below i;have g:=g.below i;have p:=p.below i;have H:=H.below i;have I:=I.below i;have j:=btr j i;refine Zo (Vw [vi (((fsF o l).getD rZ).u),vi (((fsF o l).getD rZ).a),vi (((fsF o l).getD rZ).b)] X33 D) ?_;rintro _ dO ⟨Q,hb⟩;have h:=D;have f:=f.only Q (Blk.ne f h rfl);have g:=g.only Q (Blk.ne g h rfl);have p:=p.onlyA Q aA;have H:=H.onlyT Q h rfl;have I:=I.onlyT Q h rfl;have j:=Below.only j Q b7;have D:=hb;refine Za rfl<|ZX cF fun a C _ cG=>?_;refine Zs C fun _ cH=>?_;refine Zm rfl<|Ze (X0y rfl)<|Zt cH fun a C=>?_
 refine Xg C rfl (fun aG=>?_) (fun aG=>?_)
 ·have b9:=aG
  have cX:fsF o l=none:=by have h8:=aG;simpa using h8
  have b0:=Xh2 cX
  have cY:siD d l=o:=by rw [← hs,b0.1]
  have d5:siL d l=m:=by rw [← hm,b0.2,List.append_nil]
  refine Zs C fun _ cJ=>?_;refine Ze (Vn X2 g)<|Zm rfl<|Zo (Vw [vi o.n,.slice aD o.ns.length aI,.slice aE o.ws.length aF,vi o.t,vi o.r] Xp f) ?_;rintro _ dP ⟨Q,hb⟩;have h:=f;have p:=p.onlyT Q h rfl;have H:=H.onlyT Q h rfl;have I:=I.onlyT Q h rfl;have j:=Below.only j Q bH;have f:=hb;refine Za rfl<|Za rfl<|Zt cJ fun a C=>?_;refine Q6<|X6<|Xq<|X6 ?_;refine Xq<|X4 C (Xci C rfl (ResV.cellN (l:=[vi o.n,.slice aD o.ns.length aI,.slice aE o.ws.length aF,vi o.t,vi o.r]) rfl X2 (f.at 0) rfl) rfl rfl) ?_
  rw [cY,d5]
  exact ⟨aD,aI,aE,aF,aQ,aR,rfl,H.top,I.top,b6,p,j⟩
 have b9:=aG
 have cK:fsF o l=some ((fsF o l).getD rZ):=by have h8:=aG;cases h9:fsF o l with
  | none=>rw [h9] at h8;cases h8
  | some r=>rfl
 have bA:=X6x cK;have cL:=Xfj (X1e hI) cK;have dQ:=Xei (X1e hI) bA
 have aO:(if apC o ((fsF o l).getD rZ)=true then apD o ((fsF o l).getD rZ) else zD)=apD o ((fsF o l).getD rZ):=Q4 bA
 refine Q7<|cG _ _<|Zs C fun _ cM=>?_;refine Ze (Vn X2 g)<|Ze (Vn X1y D)<|Zf (Vc (Xol _ o o.ns.length rfl aD aI H.top aE aF I.top b6 ((fsF o l).getD rZ) hI) Xfu) ?_;rintro _ dR ⟨aS,aT,aU,aW,rfl,a6,a7,cN,i⟩;have f:=f.below i;have g:=g.below i;have D:=D.below i;have p:=p.below i;have j:=btr j i;refine Zm rfl<|Ze (Xn (vs:=[.agg #[vi ((if (apC o ((fsF o l).getD rZ))=true then apD o ((fsF o l).getD rZ) else zD).n),.slice aS ((if (apC o ((fsF o l).getD rZ))=true then apD o ((fsF o l).getD rZ) else zD).ns).length aT,.slice aU ((if (apC o ((fsF o l).getD rZ))=true then apD o ((fsF o l).getD rZ) else zD).ws).length aW,vi ((if (apC o ((fsF o l).getD rZ))=true then apD o ((fsF o l).getD rZ) else zD).t),vi ((if (apC o ((fsF o l).getD rZ))=true then apD o ((fsF o l).getD rZ) else zD).r)],.bool (apC o ((fsF o l).getD rZ))]) rfl rfl)<|Ze (Xn (vs:=[.agg #[vi ((if (apC o ((fsF o l).getD rZ))=true then apD o ((fsF o l).getD rZ) else zD).n),.slice aS ((if (apC o ((fsF o l).getD rZ))=true then apD o ((fsF o l).getD rZ) else zD).ns).length aT,.slice aU ((if (apC o ((fsF o l).getD rZ))=true then apD o ((fsF o l).getD rZ) else zD).ws).length aW,vi ((if (apC o ((fsF o l).getD rZ))=true then apD o ((fsF o l).getD rZ) else zD).t),vi ((if (apC o ((fsF o l).getD rZ))=true then apD o ((fsF o l).getD rZ) else zD).r)],.bool (apC o ((fsF o l).getD rZ))]) rfl rfl)<|Zo (Vw [vi ((if (apC o ((fsF o l).getD rZ))=true then apD o ((fsF o l).getD rZ) else zD).n),.slice aS ((if (apC o ((fsF o l).getD rZ))=true then apD o ((fsF o l).getD rZ) else zD).ns).length aT,.slice aU ((if (apC o ((fsF o l).getD rZ))=true then apD o ((fsF o l).getD rZ) else zD).ws).length aW,vi ((if (apC o ((fsF o l).getD rZ))=true then apD o ((fsF o l).getD rZ) else zD).t),vi ((if (apC o ((fsF o l).getD rZ))=true then apD o ((fsF o l).getD rZ) else zD).r)] Xp g) ?_;rintro _ dS ⟨Q,hb⟩
 have h:=g;have f:=f.only Q (by omega);have D:=D.only Q (Blk.ne D h rfl);have p:=p.onlyT Q h rfl;have a6:=a6.onlyT Q h rfl;have a7:=a7.onlyT Q h rfl;have j:=Below.only j Q aN;have g:=hb;refine Zt cM fun a C=>?_;refine Zr C<|Zm rfl<|Ze (Vn X1y D)<|Zf (Xm (k:=1) (vs:=[.agg #[vi (((fsF o l).getD rZ).u),vi (((fsF o l).getD rZ).a),vi (((fsF o l).getD rZ).b)]]) (zs:=[vi (((fsF o l).getD rZ).u),vi (((fsF o l).getD rZ).a),vi (((fsF o l).getD rZ).b)]) rfl X22 X2i rfl rfl) ?_;rintro _ dU ⟨b48,rfl,b1,i,aP⟩
 have bC:cW≠b48:=by have:=D.lt;omega
 have d6:=Q0 j.size b1;have aL:=p.away b1;have f:=f.below i;have g:=g.below i;have D:=D.below i;have p:=p.below i;have a6:=a6.below i;have a7:=a7.below i;have j:=btr j i;refine Zf (X0m (enc:=encRz) (l:=(m)) (l2:=([((fsF o l).getD rZ)])) (B0:=w0.heap.size) rfl rfl X22 X2i X3f X5c p (Rd.of_blk aP rfl _ aP.lt) (by simp only [maxLen];simp;omega) (by simp;omega) j.size) ?_;rintro _ dW ⟨d7,d8,rfl,cO,hg,bB⟩
 have aB:Own _ w0.heap.size 58 3 encRz _ _ (m):=p
 have bD:=bB _ D.lt aA;have bE:=bB _ aP.lt aL;clear bB;have f:=f.appT aB hg rfl;have g:=g.appT aB hg rfl;have a6:=a6.appT aB hg rfl;have a7:=a7.appT aB hg rfl;have j:=Below.app j aB hg (Qb _) j.size;clear aB hg;refine Za rfl ?_;refine Zn fun a C=>?_;refine Xa<|Xh ?_;exact ⟨((if (apC o ((fsF o l).getD rZ))=true then apD o ((fsF o l).getD rZ) else zD),m++([((fsF o l).getD rZ)])),⟨d7,d8,aS,aT,aU,aW,C.sb,(by rw [aO];exact X8z bA),(by rw [aO,← cL.1];exact hs),(by rw [aO,Qx,← hm,cL.2];rfl),(by rw [aO,Qh,List.length_singleton];omega),f,g,cO,a6.top,a7.top,M,cN,j⟩,(by rw [aO];omega)⟩
theorem Xus(G:World)(d:Dg)(md:Nat)(a6:md=d.ns.length)(Ad:Option Addr)(cd:Nat)(a7:Rd G G.heap.size 81 encNd Ad d.ns)(Bd:Option Addr)(dd:Nat)(a8:Rd G G.heap.size 83 encWr Bd d.ws)(aA:d.ws.length≤dd)(hG:goodD d=true) : Ret Tryz.prog 14 [.agg #[vi d.n,.slice Ad md cd,.slice Bd d.ws.length dd,vi d.t,vi d.r]] G (fun v w=>∃ A c B e P q,v=.tuple #[.agg #[vi (siD d alR5).n,.slice A (siD d alR5).ns.length c,.slice B (siD d alR5).ws.length e,vi (siD d alR5).t,vi (siD d alR5).r],.slice P (siL d alR5).length q,.bool true]∧Rd w w.heap.size 81 encNd A (siD d alR5).ns∧Rd w w.heap.size 83 encWr B (siD d alR5).ws∧(siD d alR5).ws.length≤e∧Own w G.heap.size 58 3 encRz P q (siL d alR5)∧Below G.heap.size G w):=by
 refine enter Tryz.func14 rfl 11 rfl rfl ?_;intro a hf
 have g:=bz G
 refine Zs hf fun _ aF=>?_;refine Zf (X0c (zs:=[vi d.n,.slice Ad md cd,.slice Bd d.ws.length dd,vi d.t,vi d.r]) rfl rfl) ?_;rintro _ w1 ⟨b4,rfl,aG,i,h⟩;have aJ:=Q0 g.size aG;have g:=btr g i;refine Zf (Xu (zs:=[vi 0,.slice none 0 0,.slice none 0 0,vi 0,vi 0]) X0s rfl) ?_;rintro _ w2 ⟨b7,rfl,aH,i,b⟩
 have aE:b4≠b7:=by have:=h.lt;omega
 have aB:=Q0 g.size aH;have h:=h.below i;have g:=btr g i;refine Za rfl<|Za rfl<|ZX aF fun a hf _ aI=>?_;refine X05 none (fun j=>[6].contains j) mixed ?_;intro w3 i;have h:=h.below i;have b:=b.below i;have g:=btr g i;refine Yb hf<|Ye 0 rfl (Vn X2 h)<|Y1 1 ?_;refine Yk rfl trivial (Vc (Xvr _) Xn0) (fun _ _ ⟨aC,aD,_,k,i⟩=>i) ?_;rintro _ w4 ⟨aC,aD,rfl,k,i⟩;have k:=k.lower g.size;have b:=b.below i;have g:=btr g i;refine Y1 2<|Yk rfl trivial (Vc (Xtf _ d md a6 Ad cd (a7.below' g).top Bd dd (a8.below' g).top aA aC aD ([(1:Int),2,3,4,5]) k.rd.top hG rfl k.cap) Xnp) (fun _ _ ⟨m,o,p,u,C,D,_,x,y,H,f,i⟩=>i) ?_;rintro _ w5 ⟨m,o,p,u,C,D,rfl,x,y,H,f,i⟩;have f:=f.lower g.size;have b:=b.below i;have g:=btr g i;refine Yo 3 rfl (fun _=>Xn (vs:=[.agg #[vi ((siD d ([(1:Int),2,3,4,5])).n),.slice m ((siD d ([(1:Int),2,3,4,5])).ns).length o,.slice p ((siD d ([(1:Int),2,3,4,5])).ws).length u,vi ((siD d ([(1:Int),2,3,4,5])).t),vi ((siD d ([(1:Int),2,3,4,5])).r)],.slice C (siL d ([(1:Int),2,3,4,5])).length D,.bool true]) rfl rfl)<|Yo 4 rfl (fun _=>Xn (vs:=[.agg #[vi ((siD d ([(1:Int),2,3,4,5])).n),.slice m ((siD d ([(1:Int),2,3,4,5])).ns).length o,.slice p ((siD d ([(1:Int),2,3,4,5])).ws).length u,vi ((siD d ([(1:Int),2,3,4,5])).t),vi ((siD d ([(1:Int),2,3,4,5])).r)],.slice C (siL d ([(1:Int),2,3,4,5])).length D,.bool true]) rfl rfl)<|Yo 5 rfl (fun _=>Xn (vs:=[.agg #[vi ((siD d ([(1:Int),2,3,4,5])).n),.slice m ((siD d ([(1:Int),2,3,4,5])).ns).length o,.slice p ((siD d ([(1:Int),2,3,4,5])).ws).length u,vi ((siD d ([(1:Int),2,3,4,5])).t),vi ((siD d ([(1:Int),2,3,4,5])).r)],.slice C (siL d ([(1:Int),2,3,4,5])).length D,.bool true]) rfl rfl)<|Y1 6 ?_
 refine Yh rfl trivial rfl (Vw [vi ((siD d ([(1:Int),2,3,4,5])).n),.slice m ((siD d ([(1:Int),2,3,4,5])).ns).length o,.slice p ((siD d ([(1:Int),2,3,4,5])).ws).length u,vi ((siD d ([(1:Int),2,3,4,5])).t),vi ((siD d ([(1:Int),2,3,4,5])).r)] Xp b) ?_;rintro _ w6 ⟨ho,hb⟩;have E:=b;have x:=x.onlyT ho E rfl;have y:=y.onlyT ho E rfl;have f:=f.onlyT ho E rfl;have g:=Below.only g ho aB;have b:=hb;refine Yo 7 rfl (fun _=>X11 rfl)<|Yo 8 rfl (fun _=>X11 rfl) ?_;refine Yd fun a hf=>?_;refine aI _ _ ?_
 refine Q6 (X4 hf (Xci hf rfl (ResV.cellN (l:=[vi ((siD d ([(1:Int),2,3,4,5])).n),.slice m ((siD d ([(1:Int),2,3,4,5])).ns).length o,.slice p ((siD d ([(1:Int),2,3,4,5])).ws).length u,vi ((siD d ([(1:Int),2,3,4,5])).t),vi ((siD d ([(1:Int),2,3,4,5])).r)]) rfl X2 (b.at 0) rfl) rfl rfl) ?_)
 exact ⟨m,o,p,u,C,D,rfl,x.top,y.top,H,f,g⟩
theorem Xt2(u:World)(d:Dg)(md:Nat)(a7:md=d.ns.length)(Ad:Option Addr)(cd:Nat)(l:Rd u u.heap.size 81 encNd Ad d.ns)(Bd:Option Addr)(dd:Nat)(o:Rd u u.heap.size 83 encWr Bd d.ws)(f:d.ws.length≤dd)(hG:goodD d=true) : Ret Tryz.prog 62 [.agg #[vi d.n,.slice Ad md cd,.slice Bd d.ws.length dd,vi d.t,vi d.r]] u (fun v w=>v=.bool (brD d)∧Below u.heap.size u w):=by
 subst a7
 have hD:=X1e hG;have aN:=hD.len;have aO:=hD.m;have aP:=X6m hG;have aQ:=X7b d.ns d.ns.length;refine enter Tryz.func62 rfl 23 rfl rfl ?_;intro a e
 have c:=bz u
 refine Zs e fun _ aF=>?_;refine Zf (X0c (zs:=[vi d.n,.slice Ad d.ns.length cd,.slice Bd d.ws.length dd,vi d.t,vi d.r]) rfl rfl) ?_;rintro _ w1 ⟨b4,rfl,aG,g,b⟩;have aM:=Q0 c.size aG;have c:=btr c g;refine Za rfl<|ZX aF fun a e _ aH=>?_;refine Zs e fun _ aI=>?_;refine Ze (Vd rfl X2b 0)<|Ze (X0 rfl X9 (b.at 0))<|Zm rfl<|Zt aI fun a e=>?_;refine Q8<|X01 (σ:=Nat) (fun (q:Nat) (a:Act) (w:World)=>Fr a 23 [(1,.pointer (some ⟨b4,0,none⟩)),(5,vi d.n),(6,vi (q:Int))]∧((q:Int)≤d.n)∧(∀ i:Nat,i<q→brQ d i=true)∧Blk w b4 39 [vi d.n,.slice Ad d.ns.length cd,.slice Bd d.ws.length dd,vi d.t,vi d.r]∧d.ws.length≤dd∧Below u.heap.size u w) (fun (q:Nat)=>d.n.toNat-q) 0 ?_ ?_
 ·exact ⟨e.sb,(by omega),(fun i hi=>by omega),b,f,c⟩
 rintro q a w2 ⟨e,hq,x,b,f,c⟩;refine Zs e fun _ aJ=>?_;refine Ze (X0l rfl rfl)<|ZX aJ fun a e _ aK=>?_
 refine Xg e rfl (fun j=>?_) (fun j=>?_)
 ·have a8:=j;have j:=Q2 j;refine Q7<|aK _ _<|Q5 fun _ aA=>?_;refine Q8<|Zs e fun _ aB=>?_;refine Zm rfl<|Za rfl<|ZX aB fun a e _ aC=>?_;refine X05 none (fun _=>false) mixed ?_;intro w3 g;have b:=b.below g;have c:=btr c g;refine Yb e<|Ye 0 rfl (Vn X2 b)<|Ye 1 rfl (Vn X2 b)<|Yo 2 rfl (fun _=>X3 rfl)<|Ye 4 rfl (Vn X2 b)<|Yo 5 rfl (fun _=>X3 rfl)<|Y1 3 ?_;refine Yk rfl trivial (Vc (Xdz _ d d.ns.length rfl Ad cd (l.below' c).top Bd dd (o.below' c).top f 1 (q:Int) (by omega)) X7o) (fun _ _ ⟨_,g⟩=>g) ?_;rintro _ w4 ⟨rfl,g⟩;have b:=b.below g;have c:=btr c g;refine Y1 6<|Yk rfl trivial (Vc (Xdz _ d d.ns.length rfl Ad cd (l.below' c).top Bd dd (o.below' c).top f 2 (q:Int) (by omega)) X7o) (fun _ _ ⟨_,g⟩=>g) ?_;rintro _ w5 ⟨rfl,g⟩;have b:=b.below g;have c:=btr c g;refine Y1 7<|Yk rfl trivial (Vc (X5u _ d d.ns.length rfl Ad cd (l.below' c).top Bd dd (o.below' c).top f (fnI d.ns ⟨1,(q:Int)⟩) (fnI d.ns ⟨2,(q:Int)⟩) (by omega)) X32) (fun _ _ ⟨_,g⟩=>g) ?_;rintro _ w6 ⟨rfl,g⟩;have b:=b.below g;have c:=btr c g;refine Yo 8 rfl (fun _=>X1j rfl rfl) ?_;refine Yd fun a e=>?_;refine aC _ _ ?_
  refine Xg e rfl (fun k=>?_) (fun k=>?_)
  ·have a6:=k
   have p:brD d=false:=Xug (q:=q) (by omega) (by unfold brQ;have h8:=k;simpa using h8)
   refine Zs e fun _ aD=>?_;refine Za rfl<|Zt aD fun a e=>?_;refine Q6<|Xq<|X6<|X6 ?_;refine Xq<|X6<|X4 e (Xt e rfl rfl) ?_;exact ⟨by rw [p],c⟩
  have a6:=k
  have aL:brQ d q=true:=by unfold brQ;have h8:=k;simpa using h8
  refine Q7<|Xa<|aA _ _<|Zr e ?_;refine Ze (Xw rfl rfl (by omega) (by omega))<|Zm rfl ?_;refine Zn fun a e=>?_;refine Xh ?_;exact ⟨q+1,⟨e.sb,(by omega),(fun i hi=>by by_cases h9:i=q;rw [h9];exact aL;exact x i (by omega)),b,f,c⟩,(by omega)⟩
 have a8:=j;have j:=Q1 j
 have p:=Xqu (d:=d) (q:=q) (by have:=j;omega) x
 refine Q9<|Xk<|Xk<|X03 ?_;refine aH _ _<|Zs e fun _ aE=>?_;refine Ze (Vn X2 b)<|Zf (Vc (Xws _ d d.ns.length rfl Ad cd (l.below' c).top Bd dd (o.below' c).top f (by omega)) Xl1) ?_;rintro _ w7 ⟨aR,aS,rfl,y,g⟩;have y:=y.lower c.size;have c:=btr c g;refine Ze (X0d rfl Xl)<|Ze (X0b rfl rfl)<|Za rfl<|Zt aE fun a e=>?_
 refine Q6 (X4 e (Xt e rfl rfl) ?_)
 exact ⟨by rw [p],c⟩
theorem Xpc(w0:World)(bV B0:Nat)(A0:Option Addr)(c0:Nat)(A1:Option Addr)(c1:Nat)(v5 v6:Value)(m0:Nat)(d:Dg)(aF:Dg7 w0 bV B0 A0 c0 A1 c1 v5 v6 m0 d)(aG:B0≤w0.heap.size)(p:Int)(q:Int)(x:Bool)(aH:WSd d.ws)(hab:fdW d.ws p q<0)(aN:d.ws.length≤90000000) : Ret Tryz.prog 130 [.pointer (some ⟨bV,0,none⟩),vi p,vi q,.bool x] w0 (fun v w=>∃ A c,TurnS (SB bV [A0,A1]) w0 w∧Us (SB bV [A0,A1]) w0 A∧Dg7 w bV B0 A0 c0 A c v5 v6 m0 ({ d with ws:=jnW d.ws p q x } : Dg)):=by
 obtain ⟨b,f,j,aI⟩:=aF;have aL:=b.lt
 have aO:Us (SB bV [A0,A1]) w0 A0:=SB.us (by simp)
 have aA:Us (SB bV [A0,A1]) w0 A1:=SB.us (by simp)
 refine enter Tryz.func130 rfl 30 rfl rfl ?_;intro a hf
 have i:TurnS (SB bV [A0,A1]) w0 w0:=TurnS.refl _ _
 refine Zs hf fun _ aJ=>?_;refine Zm rfl<|Zm rfl<|Ze (Xz rfl)<|Ze (Vd rfl Xr 2)<|Ze (X0 rfl X0j (b.at 2))<|Zm rfl<|Zm rfl<|Ze (Xnn rfl rfl)<|Zm rfl<|Zm rfl ?_;refine Ze (Xrd rfl rfl)<|Zm rfl<|Ze (X0w (ps:=[(0,vi (min p q)),(1,vi (max p q)),(2,.bool x)]) (cs:=[vi (min p q),vi (max p q),.bool x]) rfl (fun _=>by first|rfl|kernel_rfl))<|Zf (Xm (k:=1) (vs:=[.agg #[vi (min p q),vi (max p q),.bool x]]) (zs:=[vi (min p q),vi (max p q),.bool x]) rfl Xx X14 rfl rfl) ?_;rintro _ w1 ⟨b4,rfl,aB,hE,a6⟩;have aM:=Q0 i.size aB;have m:=j.away aB;have b:=b.below hE;have f:=f.below hE;have j:=j.below hE;have i:=tsbel i hE;refine Zf (X0m (enc:=encWr) (l:=(d.ws)) (l2:=([(⟨min p q,max p q,x⟩ : Wr)])) (B0:=B0) rfl rfl Xx X14 Xy X1o j (Rd.of_blk a6 rfl _ a6.lt) (by simp only [maxLen];simp;omega) (by simp;omega) (Q0 aG i.size)) ?_;rintro _ w2 ⟨A6,c6,rfl,g,o,a7⟩
 have e:Own _ B0 83 3 encWr _ _ (d.ws):=j
 have aE:=a7 _ a6.lt m;have aC:=Us.app aA a7 i.size;clear a7;have b:=b.appT e o rfl;have f:=f.appT e o rfl;have i:=tsrow i o aA;clear e o;refine Ze (Xz rfl)<|Ze (Vd rfl Xr 2)<|Zo (X1a (vs:=[.slice A6 (d.ws++([(⟨min p q,max p q,x⟩ : Wr)])).length c6]) (l':=[vi d.n,.slice A0 m0 c0,.slice A6 (d.ws++([(⟨min p q,max p q,x⟩ : Wr)])).length c6,vi d.t,vi d.r,v5,v6]) rfl rfl X1l b rfl rfl rfl rfl rfl) ?_;rintro _ w3 ⟨ho,hb⟩;have h:=b;have f:=f.onlyT ho h rfl;have g:=g.onlyT ho h rfl;have i:=tsonly i ho (.inl (.inl rfl));have b:=hb;refine Zt aJ fun a hf=>?_;refine Zr hf<|Zm rfl<|Ze (Xz rfl)<|Ze (Vd rfl Xr 2)<|Ze (X0 rfl X0j (b.at 2))<|Zf (Vc (Xpn _ B0 A6 c6 (d.ws++([(⟨min p q,max p q,x⟩ : Wr)])) g (by simp;omega)) Xem) ?_;rintro _ w4 ⟨rfl,⟨aK,u,y,B⟩,o⟩;have e:=g;have b:=b.appT e o rfl;have f:=f.appT e o rfl;have i:=tsrow i o aC
 clear e o;clear g;have g:=B;clear B;refine Zn fun a hf=>?_;refine X1b hf (X1x rfl) ?_
 have aD:aK=jnW d.ws p q x:=Xc5 u y aH (Xh6 hab)
 subst aD
 have a8:(d.ws++[(⟨min p q,max p q,x⟩ : Wr)]).length=(jnW d.ws p q x).length:=by rw [X4p,Qh];rfl
 rw [a8] at b
 exact ⟨A6,c6,i,aC,⟨b,f,g,aI⟩⟩
theorem Xvk(w0:World)(bV B0:Nat)(A0:Option Addr)(c0:Nat)(A1:Option Addr)(c1:Nat)(v5 v6:Value)(m0:Nat)(d:Dg)(aC:Dg7 w0 bV B0 A0 c0 A1 c1 v5 v6 m0 d)(aD:B0≤w0.heap.size)(p:Int)(q:Int)(aH:d.ws.length≤90000000) : Ret Tryz.prog 131 [.pointer (some ⟨bV,0,none⟩),vi p,vi q] w0 (fun v w=>∃ A c,TurnS (SB bV [A0,A1]) w0 w∧Us (SB bV [A0,A1]) w0 A∧Dg7 w bV B0 A0 c0 A c v5 v6 m0 ({ d with ws:=ctO d.ws p q } : Dg)):=by
 obtain ⟨b,f,e,a6⟩:=aC;have aG:=b.lt
 have aI:Us (SB bV [A0,A1]) w0 A0:=SB.us (by simp)
 have a7:Us (SB bV [A0,A1]) w0 A1:=SB.us (by simp)
 have aA:=X79 d.ws p q;refine enter Tryz.func131 rfl 26 rfl rfl ?_;intro a k
 have j:TurnS (SB bV [A0,A1]) w0 w0:=TurnS.refl _ _
 refine Zs k fun _ aE=>?_;refine Zm rfl<|Ze (Xz rfl)<|Ze (X04 (l:=[vi d.n,.slice A0 m0 c0,.slice A1 d.ws.length c1,vi d.t,vi d.r]) rfl X2 ((b.at 0).take 5) rfl)<|Zm rfl<|Zm rfl<|Zf (Vc (Xfn _ d m0 a6 A0 c0 f.rd.top A1 c1 e.rd.top e.cap p q (by omega)) X7k) ?_;rintro _ w1 ⟨rfl,hE⟩;have b:=b.below hE;have f:=f.below hE;have e:=e.below hE;have j:=tsbel j hE;refine Za rfl<|Zx aE fun a k _ aF=>?_;refine Zm rfl<|Ze (X4g rfl rfl)<|Zt aF fun a k=>?_
 refine Xg k rfl (fun g=>?_) (fun g=>?_)
 ·have aB:=g;have g:=Q2 g;have a8:=X82 g;refine Zr k<|Zm rfl<|Zm rfl<|Ze (Xz rfl)<|Ze (Vd rfl Xr 2)<|Ze (X0 rfl X0j (b.at 2))<|Zm rfl<|Zm rfl<|Ze (Xw rfl rfl (by omega) (by omega))<|Zf (Vc (Xor _ A1 c1 B0 d.ws e (Q0 aD j.size) (fdW d.ws p q) ⟨by omega,aA⟩ (by omega)) Xf8) ?_;rintro _ w2 ⟨rfl,m,hg⟩;have i:=e;have b:=b.appT i hg rfl;have f:=f.appT i hg rfl;have j:=tsrow j hg a7
  clear i hg;clear e;have e:=m;clear m;refine Ze (Xz rfl)<|Ze (Vd rfl Xr 2)<|Zo (X1a (vs:=[.slice A1 (ctW d.ws (fdW d.ws p q).toNat).length c1]) (l':=[vi d.n,.slice A0 m0 c0,.slice A1 (ctW d.ws (fdW d.ws p q).toNat).length c1,vi d.t,vi d.r,v5,v6]) rfl rfl X1l b rfl rfl rfl rfl rfl) ?_;rintro _ w3 ⟨ho,hb⟩;have o:=b;have f:=f.onlyT ho o rfl;have e:=e.onlyT ho o rfl;have j:=tsonly j ho (.inl (.inl rfl));have b:=hb;refine Zn fun a k=>?_;refine X1b k (X1x rfl) ?_
  rw [a8]
  exact ⟨A1,c1,j,a7,⟨b,f,e,a6⟩⟩
 have aB:=g;have g:=Q1 g
 have a8:=Xil (ws:=d.ws) (p:=p) (q:=q) (by have:=g;omega)
 refine Q7<|X1b k (X1x rfl) ?_
 rw [a8]
 exact ⟨A1,c1,j,a7,⟨b,f,e,a6⟩⟩
theorem X8h(w0:World)(bV B0:Nat)(A0:Option Addr)(c0:Nat)(A1:Option Addr)(c1:Nat)(A2:Option Addr)(c2:Nat)(A3:Option Addr)(c3 m0 n0:Nat)(x:Br)(a7:Drx w0 bV B0 A0 c0 A1 c1 A2 c2 A3 c3 m0 n0 x)(aF:B0≤w0.heap.size)(q:Int)(hq:0≤q∧q.toNat<n0) : Ret Tryz.prog 141 [.pointer (some ⟨bV,0,none⟩),vi q] w0 (fun v w=>∃ A c B e m,TurnS (SB bV [A0,A1,A2,A3]) w0 w∧Us (SB bV [A0,A1,A2,A3]) w0 A∧Us (SB bV [A0,A1,A2,A3]) w0 B∧Drx w bV B0 A c B e A2 c2 A3 c3 m n0 (flpB x q)):=by
 obtain ⟨f,i,n,o,b,a8,aA,a6⟩:=a7;have aE:=f.lt
 have aB:Us (SB bV [A0,A1,A2,A3]) w0 A0:=SB.us (by simp)
 have aC:Us (SB bV [A0,A1,A2,A3]) w0 A1:=SB.us (by simp)
 have aG:Us (SB bV [A0,A1,A2,A3]) w0 A2:=SB.us (by simp)
 have aD:Us (SB bV [A0,A1,A2,A3]) w0 A3:=SB.us (by simp)
 refine enter Tryz.func141 rfl 18 rfl rfl ?_;intro a hf
 have hW:TurnS (SB bV [A0,A1,A2,A3]) w0 w0:=TurnS.refl _ _
 refine X05 none (fun j=>[14].contains j) mixed ?_;intro w1 hE;have f:=f.below hE;have i:=i.below hE;have n:=n.below hE;have o:=o.below hE;have b:=b.below hE;have hW:=tsbel hW hE;refine Yb hf<|Yo 0 rfl (fun _=>X3 rfl)<|Yo 1 rfl (fun _=>Xz rfl)<|Yo 2 rfl (fun _=>Vd rfl X2h 6)<|Ye 3 rfl (X0 rfl X26 (f.at 6))<|Yo 4 rfl (fun _=>X3 rfl)<|Yo 5 rfl (fun _=>X3 rfl)<|Yo 6 rfl (fun _=>Xz rfl)<|Yo 7 rfl (fun _=>Vd rfl X2h 6)<|Ye 8 rfl (X0 rfl X26 (f.at 6))<|Yo 9 rfl (fun _=>X3 rfl) ?_;refine Yo 10 rfl (fun _=>Xi (k:=q.toNat) rfl rfl X1u X2u b a6 (by omega) (by omega))<|Ye 11 rfl (X0 rfl X6c (X0g b X0z (Xb (d:=false) (by omega)) 0 rfl))<|Yo 12 rfl (fun _=>X0y rfl)<|Yo 13 rfl (fun _=>Xi (k:=q.toNat) rfl rfl X1u X2u b a6 (by omega) (by omega))<|Y1 14 ?_;refine Yh rfl trivial rfl (X0h (enc:=encB) (l:=x.hd) (vs:=[.bool (!(x.hd.getD q.toNat false))]) (x0:=(x.hd.getD q.toNat false)) (u:=!(x.hd.getD q.toNat false)) (k:=q.toNat) (j:=0) (n1:=1) rfl rfl X2u b X0z rfl rfl rfl rfl (by decide) (Xb (d:=false) (by omega)) rfl) ?_;rintro _ w2 ⟨p,hg⟩;have g:=b;have f:=f.appT g hg rfl;have i:=i.appT g hg rfl;have n:=n.appT g hg rfl;have o:=o.appT g hg rfl;have hW:=tsrow hW hg aD
 clear g hg;clear b;have b:=p;clear p;refine Yd fun a hf=>?_;refine X1b hf (X1x rfl) ?_;exact ⟨A0,c0,A1,c1,m0,hW,aB,aC,⟨f,i,n,o,b,a8,aA,(a6.trans List.length_set.symm)⟩⟩
theorem Xon(w0:World)(bV B0:Nat)(A0:Option Addr)(c0:Nat)(A1:Option Addr)(c1:Nat)(A2:Option Addr)(c2:Nat)(A3:Option Addr)(c3 m0 n0:Nat)(x:Br)(aR:Drx w0 bV B0 A0 c0 A1 c1 A2 c2 A3 c3 m0 n0 x)(aG:B0≤w0.heap.size)(q:Int)(k:Nd)(hq:0≤q∧q.toNat<n0)(aS:BrOk n0 x)(b7:x.d.ns.length≤90000000∧x.d.ws.length≤90000000)(aH:BrS x) : Ret Tryz.prog 92 [.pointer (some ⟨bV,0,none⟩),vi q,.agg #[vi k.k,vi k.p]] w0 (fun v w=>∃ A c B e m,TurnS (SB bV [A0,A1,A2,A3]) w0 w∧Us (SB bV [A0,A1,A2,A3]) w0 A∧Us (SB bV [A0,A1,A2,A3]) w0 B∧Drx w bV B0 A c B e A2 c2 A3 c3 m n0 (nodB x k.k k.p q)):=by
 obtain ⟨b,G,C,f,g,aT,aC,aD⟩:=aR;have b3:=b.lt
 subst aT
 have aI:Us (SB bV [A0,A1,A2,A3]) w0 A0:=SB.us (by simp)
 have aU:Us (SB bV [A0,A1,A2,A3]) w0 A1:=SB.us (by simp)
 have aW:Us (SB bV [A0,A1,A2,A3]) w0 A2:=SB.us (by simp)
 have aX:Us (SB bV [A0,A1,A2,A3]) w0 A3:=SB.us (by simp)
 have N:=aS.at hq
 have b9:(x.d.ns++[k]).length=x.d.ns.length+1:=by simp
 refine enter Tryz.func92 rfl 58 rfl rfl ?_;intro a Q
 have D:TurnS (SB bV [A0,A1,A2,A3]) w0 w0:=TurnS.refl _ _
 refine Zs Q fun _ aY=>?_;refine Zf (X0c (zs:=[vi k.k,vi k.p]) rfl rfl) ?_;rintro _ w1 ⟨b6,rfl,aJ,y,J⟩;have b4:=Q0 D.size aJ;have U:=G.away aJ;have b:=b.below y;have G:=G.below y;have C:=C.below y;have f:=f.below y;have g:=g.below y;have D:=tsbel D y;refine ZX aY fun a Q _ aZ=>?_;refine X05 none (fun j=>[8,12].contains j) mixed ?_;intro w2 y;have b:=b.below y;have J:=J.below y;have G:=G.below y;have C:=C.below y;have f:=f.below y;have g:=g.below y;have D:=tsbel D y;refine Yb Q<|Yo 0 rfl (fun _=>X3 rfl)<|Yo 1 rfl (fun _=>X3 rfl)<|Yo 2 rfl (fun _=>Xz rfl)<|Yo 3 rfl (fun _=>Vd rfl X10 0)<|Yo 4 rfl (fun _=>Vd rfl Xj 1)<|Ye 5 rfl (X0 rfl X00 (b.at 1))<|Ye 6 rfl (Vn X2s J)<|Y1 7 ?_;refine Yk rfl trivial (Xm (k:=1) (vs:=[.agg #[vi k.k,vi k.p]]) (zs:=[vi k.k,vi k.p]) rfl Xs X1p rfl rfl) (fun _ _ ⟨_,_,_,h,_⟩=>h) ?_;rintro _ w3 ⟨b8,rfl,aK,y,aE⟩
 have aQ:b6≠b8:=by have:=J.lt;omega
 have b5:=Q0 D.size aK;have W:=G.away aK;have b:=b.below y;have J:=J.below y;have G:=G.below y;have C:=C.below y;have f:=f.below y;have g:=g.below y;have D:=tsbel D y;refine Y1 8<|Yt rfl trivial rfl (X0m (enc:=encNd) (l:=(x.d.ns)) (l2:=([k])) (B0:=B0) rfl rfl Xs X1p Xv X2o G (Rd.of_blk aE rfl _ aE.lt) (by simp only [maxLen];simp;omega) (by simp;omega) (Q0 aG D.size)) ?_;rintro _ w4 ⟨a6,a7,rfl,o,H,N⟩
 have i:Own _ B0 81 2 encNd _ _ (x.d.ns):=G
 have aL:=N _ J.lt U;have aM:=N _ aE.lt W;have aA:=Us.app aI N D.size;clear N;have b:=b.appT i H rfl;have C:=C.appT i H rfl;have f:=f.appT i H rfl;have g:=g.appT i H rfl;have D:=tsrow D H aI;clear i H;refine Yo 9 rfl (fun _=>Xz rfl)<|Yo 10 rfl (fun _=>Vd rfl X10 0)<|Yo 11 rfl (fun _=>Vd rfl Xj 1)<|Y1 12 ?_;refine Yh rfl trivial rfl (X1a (vs:=[.slice a6 (x.d.ns++([k])).length a7]) (l':=[vi x.d.n,.slice a6 (x.d.ns++([k])).length a7,.slice A1 x.d.ws.length c1,vi x.d.t,vi x.d.r,.slice A2 n0 c2,.slice A3 n0 c3]) rfl rfl X3s b rfl rfl rfl rfl rfl) ?_;rintro _ w5 ⟨ho,hb⟩;have M:=b;have C:=C.onlyT ho M rfl;have f:=f.onlyT ho M rfl;have g:=g.onlyT ho M rfl;have o:=o.onlyT ho M rfl;have D:=tsonly D ho (.inl (.inl rfl));have b:=hb;refine Yd fun a Q=>?_;refine aZ _ _<|Zs Q fun _ aN=>?_;refine Zm rfl<|Ze (Xz rfl)<|Ze (Vd rfl X10 0)<|Ze (Vd rfl Xj 1)<|Ze (X0 rfl X00 (b.at 1))<|Ze (X0d rfl Xs)<|Ze (Vx (X1g rfl rfl (by omega) (by omega)) (show _=(x.d.ns.length:Int) from (by omega)))<|Za rfl<|ZX aN fun a Q _ aO=>?_;refine X05 none (fun j=>[18].contains j) mixed ?_;intro w6 y;have b:=b.below y;have C:=C.below y;have f:=f.below y;have g:=g.below y;have o:=o.below y;have D:=tsbel D y;refine Yb Q<|Yo 0 rfl (fun _=>X3 rfl)<|Yo 1 rfl (fun _=>Xz rfl)<|Yo 2 rfl (fun _=>Vd rfl X10 0)<|Yo 3 rfl (fun _=>X3 rfl)<|Yo 4 rfl (fun _=>Xz rfl)<|Yo 5 rfl (fun _=>Vd rfl X1r 5)<|Ye 6 rfl (X0 rfl X28 (b.at 5))<|Yo 7 rfl (fun _=>X3 rfl)<|Yo 8 rfl (fun _=>Xi (k:=q.toNat) rfl rfl Xl X08 f aC (by omega) (by omega))<|Ye 9 rfl (X0 rfl X9 (X0g f Xf (Xb (d:=(0:Int)) (by omega)) 0 rfl)) ?_
 refine Yo 10 rfl (fun _=>X3 rfl)<|Yo 11 rfl (fun _=>X3 rfl)<|Yo 12 rfl (fun _=>Xz rfl)<|Yo 13 rfl (fun _=>Vd rfl X2h 6)<|Ye 14 rfl (X0 rfl X26 (b.at 6))<|Yo 15 rfl (fun _=>X3 rfl)<|Yo 16 rfl (fun _=>Xi (k:=q.toNat) rfl rfl X1u X2u g aD (by omega) (by omega))<|Ye 17 rfl (X0 rfl X6c (X0g g X0z (Xb (d:=false) (by omega)) 0 rfl))<|Y1 18 ?_;refine Yt rfl trivial rfl (X5s (vs:=[.pointer (some ⟨bV,0,none⟩),vi (x.la.getD q.toNat 0),vi (x.d.ns.length:Int),.bool (x.hd.getD q.toNat false)]) rfl X56 (Xpc _ bV B0 a6 a7 A1 c1 (.slice A2 n0 c2) (.slice A3 n0 c3) ((x.d.ns++([k])).length) (⟨x.d.n,x.d.ns++([k]),x.d.ws,x.d.t,x.d.r⟩ : Dg) ⟨b,o,C,rfl⟩ (Q0 aG D.size) (x.la.getD q.toNat 0) (x.d.ns.length:Int) (x.hd.getD q.toNat false) aH.1 (Xp8 aH _) (by dsimp only;omega))) ?_;rintro _ w7 ⟨b0,b1,a8,L,aP,aB,E,b2⟩;have f:=f.tu a8 b rfl (alc (X0n o rfl) (alc (X0n C rfl) al0));have g:=g.tu a8 b rfl (alc (X0n o rfl) (alc (X0n C rfl) al0));have aF:=SB.lift (S:=SB bV [A0,A1,A2,A3]) (w0:=w0) (.inl (.inl rfl)) (alc aA (alc aU al0));have L:=Us.trans L aF D.size
 have D:=tstr D a8 aF;clear aF
 clear a8 b;have b:=aP;clear aP
 clear o;have o:=aB;clear aB;refine Yd fun a Q=>?_;refine aO _ _<|X05 none (fun j=>[12,14].contains j) mixed ?_;intro w8 y;have b:=b.below y;have f:=f.below y;have g:=g.below y;have o:=o.below y;have E:=E.below y;have D:=tsbel D y;refine Yb Q<|Yo 0 rfl (fun _=>X3 rfl)<|Yo 1 rfl (fun _=>Xz rfl)<|Yo 2 rfl (fun _=>Vd rfl X1r 5)<|Ye 3 rfl (X0 rfl X28 (b.at 5))<|Yo 4 rfl (fun _=>X3 rfl)<|Yo 5 rfl (fun _=>X3 rfl)<|Yo 6 rfl (fun _=>Xz rfl)<|Yo 7 rfl (fun _=>Vd rfl X2h 6)<|Ye 8 rfl (X0 rfl X26 (b.at 6))<|Yo 9 rfl (fun _=>X3 rfl) ?_;refine Yo 10 rfl (fun _=>X3 rfl)<|Yo 11 rfl (fun _=>Xi (k:=q.toNat) rfl rfl Xl X08 f aC (by omega) (by omega))<|Y1 12 ?_;refine Yh rfl trivial rfl (X0h (enc:=encI) (l:=x.la) (vs:=[vi (x.d.ns.length:Int)]) (x0:=(x.la.getD q.toNat 0)) (u:=(x.d.ns.length:Int)) (k:=q.toNat) (j:=0) (n1:=1) rfl rfl X08 f Xf rfl rfl rfl rfl (by decide) (Xb (d:=(0:Int)) (by omega)) rfl) ?_;rintro _ w9 ⟨I,H⟩;have i:=f;have b:=b.appT i H rfl;have g:=g.appT i H rfl;have o:=o.appT i H rfl;have E:=E.appT i H rfl;have D:=tsrow D H aW
 clear i H;clear f;have f:=I;clear I;refine Y1 13<|Yz rfl trivial (Uev (Xi (k:=q.toNat) rfl rfl X1u X2u g aD (by omega) (by omega))) ?_;refine Y1 14<|Yh rfl trivial rfl (X0h (enc:=encB) (l:=x.hd) (vs:=[.bool false]) (x0:=(x.hd.getD q.toNat false)) (u:=false) (k:=q.toNat) (j:=0) (n1:=1) rfl rfl X2u g X0z rfl rfl rfl rfl (by decide) (Xb (d:=false) (by omega)) rfl) ?_;rintro _ bA ⟨I,H⟩;have i:=g;have b:=b.appT i H rfl;have o:=o.appT i H rfl;have E:=E.appT i H rfl;have f:=f.appT i H rfl;have D:=tsrow D H aX
 clear i H;clear g;have g:=I;clear I;refine Yd fun a Q=>?_;refine X1b Q (X1x rfl) ?_;exact ⟨a6,a7,b0,b1,((x.d.ns++([k])).length),D,aA,L,⟨b,o,E,f,g,rfl,(aC.trans List.length_set.symm),(aD.trans List.length_set.symm)⟩⟩
theorem Xhb(w0:World)(bV B0:Nat)(A0:Option Addr)(c0:Nat)(A1:Option Addr)(c1:Nat)(A2:Option Addr)(c2:Nat)(A3:Option Addr)(c3 m0 n0:Nat)(x:Br)(aK:Drx w0 bV B0 A0 c0 A1 c1 A2 c2 A3 c3 m0 n0 x)(aL:B0≤w0.heap.size)(q:Int)(hq:0≤q∧q.toNat<n0)(aC:BrOk n0 x)(aU:x.d.ns.length≤90000000∧x.d.ws.length≤90000000)(aM:BrS x) : Ret Tryz.prog 193 [.pointer (some ⟨bV,0,none⟩),vi q] w0 (fun v w=>∃ A c B e m,TurnS (SB bV [A0,A1,A2,A3]) w0 w∧Us (SB bV [A0,A1,A2,A3]) w0 A∧Us (SB bV [A0,A1,A2,A3]) w0 B∧Drx w bV B0 A c B e A2 c2 A3 c3 m n0 (plcB x q)):=by
 obtain ⟨f,j,y,g,i,a6,a7,a8⟩:=aK;have aT:=f.lt
 have aD:Us (SB bV [A0,A1,A2,A3]) w0 A0:=SB.us (by simp)
 have aE:Us (SB bV [A0,A1,A2,A3]) w0 A1:=SB.us (by simp)
 have aN:Us (SB bV [A0,A1,A2,A3]) w0 A2:=SB.us (by simp)
 have aO:Us (SB bV [A0,A1,A2,A3]) w0 A3:=SB.us (by simp)
 have aW:=aC.at hq;refine enter Tryz.func193 rfl 33 rfl rfl ?_;intro a n
 have o:TurnS (SB bV [A0,A1,A2,A3]) w0 w0:=TurnS.refl _ _
 refine Q5 fun _ aP=>?_;refine X0a (fun a w=>Fr a 33 [(0,.pointer (some ⟨bV,0,none⟩)),(1,vi q),(28,.bool ((((x.d.ns.getD (x.la.getD q.toNat 0).toNat nZ).k) != 3)||(x.hd.getD q.toNat false)))]∧Below w0.heap.size w0 w) ?_ ?_
 ·have h:=bz w0
  refine X05 none (fun _=>false) mixed ?_;intro w1 l;have f:=f.below l;have j:=j.below l;have g:=g.below l;have i:=i.below l;have o:=tsbel o l;have h:=btr h l;refine Yb n<|Yo 0 rfl (fun _=>X3 rfl)<|Yo 1 rfl (fun _=>Xz rfl)<|Yo 2 rfl (fun _=>Vd rfl X10 0)<|Yo 3 rfl (fun _=>Vd rfl Xj 1)<|Ye 4 rfl (X0 rfl X00 (f.at 1))<|Yo 5 rfl (fun _=>X3 rfl)<|Yo 6 rfl (fun _=>Xz rfl)<|Yo 7 rfl (fun _=>Vd rfl X1r 5)<|Ye 8 rfl (X0 rfl X28 (f.at 5))<|Yo 9 rfl (fun _=>X3 rfl) ?_;refine Yo 10 rfl (fun _=>Xi (k:=q.toNat) rfl rfl Xl X08 g a7 (by omega) (by omega))<|Ye 11 rfl (X0 rfl X9 (X0g g Xf (Xb (d:=(0:Int)) (by omega)) 0 rfl))<|Yo 12 rfl (fun _=>Xi (k:=(x.la.getD q.toNat 0).toNat) rfl rfl Xs X07 j a6 (by omega) (by omega))<|Yo 13 rfl (fun _=>X15 rfl X13 (m':=(x.la.getD q.toNat 0).toNat*2+0) rfl)<|Ye 14 rfl (X0 rfl X9 (X0g j Xv (Xb (d:=nZ) (by omega)) 0 rfl))<|Yo 15 rfl (fun _=>X1j rfl rfl)<|Yo 16 rfl (fun _=>X3 rfl) ?_
  refine Yl 20 rfl (fun b=>?_) (fun b=>?_)
  ·refine Yp 17 rfl (gP b) ?_;refine Yp 18 rfl (gP b) ?_;refine Yp 19 rfl (gP b) ?_;refine Yp 20 rfl (gP b) ?_;refine Yp 21 rfl (gP b) ?_;refine Yp 22 rfl (gP b) ?_;refine Yp 23 rfl (gP b) ?_;refine Yo 24 rfl (fun _=>X7 rfl b rfl) ?_;refine Yd fun a n=>?_
   have aA:Below w0.heap.size w0 w1:=h
   exact ⟨n.sub ⟨rfl,rfl,X1 rfl (by first|rfl|(simp only [b,bs];done)|simp [b]),trivial⟩,aA⟩
  refine Yu 17 rfl (gW b) (fun _=>X3 rfl) ?_;refine Yu 18 rfl (gW b) (fun _=>Xz rfl) ?_;refine Yu 19 rfl (gW b) (fun _=>Vd rfl X2h 6) ?_;refine Yv 20 rfl (gW b) (X0 rfl X26 (f.at 6)) ?_;refine Yu 21 rfl (gW b) (fun _=>X3 rfl) ?_;refine Yu 22 rfl (gW b) (fun _=>Xi (k:=q.toNat) rfl rfl X1u X2u i a8 (by omega) (by omega)) ?_;refine Yv 23 rfl (gW b) (X0 rfl X6c (X0g i X0z (Xb (d:=false) (by omega)) 0 rfl)) ?_;refine Yo 24 rfl (fun _=>Xe rfl b rfl) ?_;refine Yd fun a n=>?_
  have aA:Below w0.heap.size w0 w1:=h
  exact ⟨n.sub ⟨rfl,rfl,X1 rfl (by first|rfl|(simp only [b,bs];done)|simp [b]),trivial⟩,aA⟩
 rintro a w2 ⟨n,l⟩;have f:=f.below l;have j:=j.below l;have y:=y.below l;have g:=g.below l;have i:=i.below l;have o:=tsbel o l;refine aP _ _ ?_
 refine Xg n rfl (fun p=>?_) (fun p=>?_)
 ·have aF:=p;have aB:=Xrn p;refine Zr n<|Zm rfl<|Zm rfl<|Ze (X0w (ps:=[(0,vi 3)]) (cs:=[vi 3,vi 0]) rfl (fun _=>by first|rfl|kernel_rfl))<|Zf (Vc (Xon _ bV B0 A0 c0 A1 c1 A2 c2 A3 c3 m0 n0 x ⟨f,j,y,g,i,a6,a7,a8⟩ (Q0 aL o.size) q (⟨3,0⟩ : Nd) hq aC (by omega) aM) Xeu) ?_;rintro _ w3 ⟨A8,c8,A9,c9,m8,aG,t,u,aH,aQ,aR,D,E,aS,aI,aJ⟩;have C:=SB.lift (S:=SB bV [A0,A1,A2,A3]) (w0:=w0) (.inl (.inl rfl)) (alc aD (alc aE (alc aN (alc aO al0))));have t:=Us.trans t C o.size;have u:=Us.trans u C o.size
  have o:=tstr o aG C;clear C
  clear aG f;have f:=aH;clear aH
  clear g;have g:=D;clear D
  clear i;have i:=E;clear E;refine Zn fun a n=>?_;refine X1b n (X1x rfl) ?_
  rw [aB]
  exact ⟨A8,c8,A9,c9,m8,o,t,u,⟨f,aQ,aR,g,i,aS,aI,aJ⟩⟩
 have aF:=p;have aB:=Xs5 p;refine Q7<|X1b n (X1x rfl) ?_
 rw [aB]
 exact ⟨A0,c0,A1,c1,m0,o,aD,aE,⟨f,j,y,g,i,a6,a7,a8⟩⟩
theorem Xej(w0:World)(bV B0:Nat)(A0:Option Addr)(c0:Nat)(A1:Option Addr)(c1:Nat)(A2:Option Addr)(c2:Nat)(A3:Option Addr)(c3 m0 n0:Nat)(x:Br)(aC:Drx w0 bV B0 A0 c0 A1 c1 A2 c2 A3 c3 m0 n0 x)(aD:B0≤w0.heap.size)(q:Int)(f:Int)(hq:0≤q∧q.toNat<n0)(a6:BrOk n0 x)(aR:x.d.ns.length≤80000000∧x.d.ws.length≤80000000)(aE:BrS x)(aS:0≤f∧f≤900) : Ret Tryz.prog 142 [.pointer (some ⟨bV,0,none⟩),vi q,vi f] w0 (fun v w=>∃ A c B e m,TurnS (SB bV [A0,A1,A2,A3]) w0 w∧Us (SB bV [A0,A1,A2,A3]) w0 A∧Us (SB bV [A0,A1,A2,A3]) w0 B∧Drx w bV B0 A c B e A2 c2 A3 c3 m n0 (trnB x q f)):=by
 obtain ⟨b,aF,aG,g,n,aH,aI,aJ⟩:=aC;have aQ:=b.lt
 have aK:Us (SB bV [A0,A1,A2,A3]) w0 A0:=SB.us (by simp)
 have aL:Us (SB bV [A0,A1,A2,A3]) w0 A1:=SB.us (by simp)
 have aM:Us (SB bV [A0,A1,A2,A3]) w0 A2:=SB.us (by simp)
 have aN:Us (SB bV [A0,A1,A2,A3]) w0 A3:=SB.us (by simp)
 have E:=X3c a6 q;have aT:=E.at hq;have aU:=X37 x q;have aW:=X1s E.p ((plcB x q).la.getD q.toNat 0).toNat;refine enter Tryz.func142 rfl 33 rfl rfl ?_;intro a hf
 have C:TurnS (SB bV [A0,A1,A2,A3]) w0 w0:=TurnS.refl _ _
 refine Zs hf fun _ aO=>?_;refine Zm rfl<|Zm rfl<|Zf (Vc (Xhb _ bV B0 A0 c0 A1 c1 A2 c2 A3 c3 m0 n0 x ⟨b,aF,aG,g,n,aH,aI,aJ⟩ (Q0 aD C.size) q hq a6 (by omega) aE) Xb3) ?_;rintro _ w1 ⟨A6,c6,A7,c7,m6,a7,t,y,a8,i,h,G,H,aA,I,aB⟩;have D:=SB.lift (S:=SB bV [A0,A1,A2,A3]) (w0:=w0) (.inl (.inl rfl)) (alc aK (alc aL (alc aM (alc aN al0))));have t:=Us.trans t D C.size;have y:=Us.trans y D C.size
 have C:=tstr C a7 D;clear D
 clear a7 b;have b:=a8;clear a8
 clear g;have g:=G;clear G
 clear n;have n:=H;clear H;refine ZX aO fun a hf _ aP=>?_;refine X05 none (fun _=>false) mixed ?_;intro w2 hE;have b:=b.below hE;have g:=g.below hE;have n:=n.below hE;have i:=i.below hE;have h:=h.below hE;have C:=tsbel C hE;refine Yb hf<|Yo 0 rfl (fun _=>X3 rfl)<|Yo 1 rfl (fun _=>Xz rfl)<|Yo 2 rfl (fun _=>Vd rfl X10 0)<|Yo 3 rfl (fun _=>Vd rfl Xj 1)<|Ye 4 rfl (X0 rfl X00 (b.at 1))<|Yo 5 rfl (fun _=>X3 rfl)<|Yo 6 rfl (fun _=>Xz rfl)<|Yo 7 rfl (fun _=>Vd rfl X1r 5)<|Ye 8 rfl (X0 rfl X28 (b.at 5))<|Yo 9 rfl (fun _=>X3 rfl) ?_;refine Yo 10 rfl (fun _=>Xi (k:=q.toNat) rfl rfl Xl X08 g I (by omega) (by omega))<|Ye 11 rfl (X0 rfl X9 (X0g g Xf (Xb (d:=(0:Int)) (by omega)) 0 rfl))<|Yo 12 rfl (fun _=>Xi (k:=((plcB x q).la.getD q.toNat 0).toNat) rfl rfl Xs X07 i aA (by omega) (by omega))<|Yo 13 rfl (fun _=>X11 rfl) ?_;refine Yd fun a hf=>?_;refine aP _ _<|Zr hf<|Zm rfl<|Zm rfl<|Ze (Xz rfl)<|Ze (X15 rfl X06 (m':=((plcB x q).la.getD q.toNat 0).toNat*2+1) rfl)<|Ze (X0 rfl X9 (X0g i Xv (Xb (d:=nZ) (by omega)) 1 rfl))<|Zm rfl<|Ze (Xw rfl rfl (by omega) (by omega))<|Ze (Vx (X4v rfl rfl rfl) (tm8 (by omega)))<|Ze (Xz rfl)<|Ze (X15 rfl X06 (m':=((plcB x q).la.getD q.toNat 0).toNat*2+1) rfl) ?_;refine Zo (X0h (enc:=encNd) (l:=(plcB x q).d.ns) (vs:=[vi ((((plcB x q).d.ns.getD ((plcB x q).la.getD q.toNat 0).toNat nZ).p+f) % 8)]) (x0:=((plcB x q).d.ns.getD ((plcB x q).la.getD q.toNat 0).toNat nZ)) (u:=(⟨((plcB x q).d.ns.getD ((plcB x q).la.getD q.toNat 0).toNat nZ).k,((((plcB x q).d.ns.getD ((plcB x q).la.getD q.toNat 0).toNat nZ).p+f) % 8)⟩ : Nd)) (k:=((plcB x q).la.getD q.toNat 0).toNat) (j:=1) (n1:=1) rfl rfl X08 i Xv rfl rfl rfl rfl (by decide) (Xb (d:=nZ) (by omega)) rfl) ?_;rintro _ w3 ⟨J,hg⟩
 have o:=i;have b:=b.appT o hg rfl;have g:=g.appT o hg rfl;have n:=n.appT o hg rfl;have h:=h.appT o hg rfl;have C:=tsrow C hg t
 clear o hg;clear i;have i:=J;clear J;refine Zn fun a hf=>?_;refine X1b hf (X1x rfl) ?_;exact ⟨A6,c6,A7,c7,m6,C,t,y,⟨b,i,h,g,n,(aA.trans List.length_set.symm),I,aB⟩⟩
theorem Xom(w0:World)(bV B0:Nat)(A0:Option Addr)(c0:Nat)(A1:Option Addr)(c1:Nat)(A2:Option Addr)(c2:Nat)(A3:Option Addr)(c3 m0 L:Nat)(x:Br)(b3:Drx w0 bV B0 A0 c0 A1 c1 A2 c2 A3 c3 m0 L x)(aB:B0≤w0.heap.size)(p:Int)(q:Int)(hp:0≤p∧p.toNat<L)(hq:0≤q∧q.toNat<L)(bP:p≠q)(aF:BrOk L x)(bR:x.d.ns.length≤80000000∧x.d.ws.length≤80000000)(aL:BrS x) : Ret Tryz.prog 143 [.pointer (some ⟨bV,0,none⟩),vi p,vi q] w0 (fun v w=>∃ A c B e m,TurnS (SB bV [A0,A1,A2,A3]) w0 w∧Us (SB bV [A0,A1,A2,A3]) w0 A∧Us (SB bV [A0,A1,A2,A3]) w0 B∧Drx w bV B0 A c B e A2 c2 A3 c3 m L (czB x p q)):=by
 obtain ⟨b,b4,b5,f,i,b6,b7,b8⟩:=b3;have bK:=b.lt
 have b9:Us (SB bV [A0,A1,A2,A3]) w0 A0:=SB.us (by simp)
 have bA:Us (SB bV [A0,A1,A2,A3]) w0 A1:=SB.us (by simp)
 have aM:Us (SB bV [A0,A1,A2,A3]) w0 A2:=SB.us (by simp)
 have aN:Us (SB bV [A0,A1,A2,A3]) w0 A3:=SB.us (by simp)
 have W:=X3c aF p;have bL:=X37 x p;have bM:=X3c W q;have bN:=X37 (plcB x p) q;have aO:=Xc7 aF aL hp;have bB:=Xc7 W aO hq;have bO:=X79 (plcB (plcB x p) q).d.ws ((plcB x p).la.getD p.toNat 0) ((plcB (plcB x p) q).la.getD q.toNat 0)
 have aP:(plcB (plcB x p) q).la.getD p.toNat 0=((plcB x p).la.getD p.toNat 0):=Xr9 (by omega)
 refine enter Tryz.func143 rfl 66 rfl rfl ?_;intro a I
 have D:TurnS (SB bV [A0,A1,A2,A3]) w0 w0:=TurnS.refl _ _
 refine Zs I fun _ bC=>?_;refine Zm rfl<|Zm rfl<|Zf (Vc (Xhb _ bV B0 A0 c0 A1 c1 A2 c2 A3 c3 m0 L x ⟨b,b4,b5,f,i,b6,b7,b8⟩ (Q0 aB D.size) p hp aF (by omega) aL) Xb3) ?_;rintro _ w1 ⟨A6,c6,A7,c7,m6,h,a6,a7,E,bD,bE,o,J,bF,aQ,aR⟩;have u:=SB.lift (S:=SB bV [A0,A1,A2,A3]) (w0:=w0) (.inl (.inl rfl)) (alc b9 (alc bA (alc aM (alc aN al0))));have a6:=Us.trans a6 u D.size;have a7:=Us.trans a7 u D.size
 have D:=tstr D h u;clear u
 clear h b;have b:=E;clear E
 clear f;have f:=o;clear o
 clear i;have i:=J;clear J;refine Zx bC fun a I _ bG=>?_;refine Zm rfl<|Zm rfl<|Zf (Vc (Xhb _ bV B0 A6 c6 A7 c7 A2 c2 A3 c3 m6 L (plcB x p) ⟨b,bD,bE,f,i,bF,aQ,aR⟩ (Q0 aB D.size) q hq W (by omega) aO) Xb3) ?_;rintro _ w2 ⟨A9,c9,aC,aD,m9,h,G,H,E,g,j,o,J,aG,Q,aE⟩;have u:=SB.lift (S:=SB bV [A0,A1,A2,A3]) (w0:=w0) (.inl (.inl rfl)) (alc a6 (alc a7 (alc aM (alc aN al0))));have G:=Us.trans G u D.size;have H:=Us.trans H u D.size
 have D:=tstr D h u;clear u
 clear h b;have b:=E;clear E
 clear f;have f:=o;clear o
 clear i;have i:=J;clear J;refine ZX bG fun a I _ aS=>?_;refine X05 none (fun _=>false) mixed ?_;intro w3 U;have b:=b.below U;have f:=f.below U;have i:=i.below U;have g:=g.below U;have j:=j.below U;have D:=tsbel D U;refine Yb I<|Yo 0 rfl (fun _=>X3 rfl)<|Yo 1 rfl (fun _=>Xz rfl)<|Yo 2 rfl (fun _=>Vd rfl X1r 5)<|Ye 3 rfl (X0 rfl X28 (b.at 5))<|Yo 4 rfl (fun _=>X3 rfl)<|Yo 5 rfl (fun _=>Xi (k:=p.toNat) rfl rfl Xl X08 f Q (by omega) (by omega))<|Ye 6 rfl (X0 rfl X9 (X0g f Xf (by have h9:=Xb (l:=(plcB (plcB x p) q).la) (k:=p.toNat) (d:=(0:Int)) (by omega);rw [aP] at h9;exact h9) 0 rfl))<|Yo 7 rfl (fun _=>X3 rfl)<|Yo 8 rfl (fun _=>Xz rfl)<|Yo 9 rfl (fun _=>Vd rfl X1r 5) ?_;refine Ye 10 rfl (X0 rfl X28 (b.at 5))<|Yo 11 rfl (fun _=>X3 rfl)<|Yo 12 rfl (fun _=>Xi (k:=q.toNat) rfl rfl Xl X08 f Q (by omega) (by omega))<|Ye 13 rfl (X0 rfl X9 (X0g f Xf (Xb (d:=(0:Int)) (by omega)) 0 rfl))<|Yo 14 rfl (fun _=>X11 rfl)<|Yo 15 rfl (fun _=>X11 rfl) ?_;refine Yd fun a I=>?_;refine aS _ _<|Q5 fun _ aT=>?_;refine Zs I fun _ aU=>?_;refine Zm rfl<|Ze (Xz rfl)<|Ze (Vd rfl X10 0)<|Ze (X04 (l:=[vi ((plcB (plcB x p) q).d.n),.slice A9 m9 c9,.slice aC ((plcB (plcB x p) q).d.ws).length aD,vi ((plcB (plcB x p) q).d.t),vi ((plcB (plcB x p) q).d.r)]) rfl X2 ((b.at 0).take 5) rfl)<|Zm rfl<|Zm rfl<|Zf (Vc (Xfn _ ((plcB (plcB x p) q).d) m9 aG A9 c9 g.rd.top aC aD j.rd.top j.cap ((plcB x p).la.getD p.toNat 0) ((plcB (plcB x p) q).la.getD q.toNat 0) (by omega)) X7k) ?_;rintro _ w4 ⟨rfl,U⟩;have b:=b.below U;have f:=f.below U;have i:=i.below U;have g:=g.below U
 have j:=j.below U;have D:=tsbel D U;refine Ze (X4g rfl rfl)<|Zt aU fun a I=>?_
 refine Xg I rfl (fun y=>?_) (fun y=>?_)
 ·have aH:=y;have y:=Q2 y;have aI:=Xua y
  have bH:ctO (plcB (plcB x p) q).d.ws ((plcB x p).la.getD p.toNat 0) ((plcB (plcB x p) q).la.getD q.toNat 0)=ctW (plcB (plcB x p) q).d.ws (fdW (plcB (plcB x p) q).d.ws ((plcB x p).la.getD p.toNat 0) ((plcB (plcB x p) q).la.getD q.toNat 0)).toNat:=X82 y
  refine Zs I fun _ aW=>?_;refine Zm rfl<|Ze (Xz rfl)<|Ze (Vd rfl X10 0)<|Zm rfl<|Zm rfl<|Zf (X5s (vs:=[.pointer (some ⟨bV,0,none⟩),vi ((plcB x p).la.getD p.toNat 0),vi ((plcB (plcB x p) q).la.getD q.toNat 0)]) rfl X7l (Xvk _ bV B0 A9 c9 aC aD (.slice A2 L c2) (.slice A3 L c3) m9 ((plcB (plcB x p) q).d) ⟨b,g,j,aG⟩ (Q0 aB D.size) ((plcB x p).la.getD p.toNat 0) ((plcB (plcB x p) q).la.getD q.toNat 0) (by omega))) ?_;rintro _ w5 ⟨aX,aY,h,M,E,o,a8,aJ⟩;have f:=f.tu h b rfl (alc (X0n g rfl) (alc (X0n j rfl) al0));have i:=i.tu h b rfl (alc (X0n g rfl) (alc (X0n j rfl) al0));have u:=SB.lift (S:=SB bV [A0,A1,A2,A3]) (w0:=w0) (.inl (.inl rfl)) (alc G (alc H al0));have M:=Us.trans M u D.size
  have D:=tstr D h u;clear u
  clear h b;have b:=E;clear E
  clear g;have g:=o;clear o;refine Zx aW fun a I _ aZ=>?_;refine Zm rfl<|Ze (Xz rfl)<|Ze (Vd rfl X10 0)<|Ze (Vd rfl X02 4)<|Ze (X0 rfl X9 (b.at 4))<|Ze (Xbi rfl rfl)<|Ze (Xz rfl)<|Ze (Vd rfl X10 0)<|Ze (Vd rfl X02 4)<|Zo (X1a (vs:=[vi (wr ((({ ((plcB (plcB x p) q).d) with ws:=ctO ((plcB (plcB x p) q).d).ws ((plcB x p).la.getD p.toNat 0) ((plcB (plcB x p) q).la.getD q.toNat 0) } : Dg).r)-1))]) (l':=[vi (({ ((plcB (plcB x p) q).d) with ws:=ctO ((plcB (plcB x p) q).d).ws ((plcB x p).la.getD p.toNat 0) ((plcB (plcB x p) q).la.getD q.toNat 0) } : Dg).n),.slice A9 m9 c9,.slice aX (({ ((plcB (plcB x p) q).d) with ws:=ctO ((plcB (plcB x p) q).d).ws ((plcB x p).la.getD p.toNat 0) ((plcB (plcB x p) q).la.getD q.toNat 0) } : Dg).ws).length aY,vi (({ ((plcB (plcB x p) q).d) with ws:=ctO ((plcB (plcB x p) q).d).ws ((plcB x p).la.getD p.toNat 0) ((plcB (plcB x p) q).la.getD q.toNat 0) } : Dg).t),vi (wr ((({ ((plcB (plcB x p) q).d) with ws:=ctO ((plcB (plcB x p) q).d).ws ((plcB x p).la.getD p.toNat 0) ((plcB (plcB x p) q).la.getD q.toNat 0) } : Dg).r)-1)),.slice A2 L c2,.slice A3 L c3]) rfl rfl X08 b rfl rfl rfl rfl rfl) ?_;rintro _ w6 ⟨ho,hb⟩;have C:=b;have f:=f.onlyT ho C rfl;have i:=i.onlyT ho C rfl;have g:=g.onlyT ho C rfl;have a8:=a8.onlyT ho C rfl;have D:=tsonly D ho (.inl (.inl rfl));have b:=hb;refine Zt aZ fun a I=>?_;refine Q6<|X6<|X4 I (X1x rfl) ?_
  rw [aI,← bH]
  exact ⟨A9,c9,aX,aY,m9,D,G,M,⟨b,g,a8,f,i,aJ,Q,aE⟩⟩
 have aH:=y;have y:=Q1 y;have aI:=Xu8 y
 have bJ:decide (0≤(fdW (plcB (plcB x p) q).d.ws ((plcB x p).la.getD p.toNat 0) ((plcB (plcB x p) q).la.getD q.toNat 0)))=false:=decide_eq_false y
 refine Q7<|aT _ _<|Zs I fun _ b0=>?_;refine Zm rfl<|Ze (Xz rfl)<|Ze (Vd rfl X10 0)<|Zm rfl<|Zm rfl<|Zf (X5s (vs:=[.pointer (some ⟨bV,0,none⟩),vi ((plcB x p).la.getD p.toNat 0),vi ((plcB (plcB x p) q).la.getD q.toNat 0),.bool true]) rfl X56 (Xpc _ bV B0 A9 c9 aC aD (.slice A2 L c2) (.slice A3 L c3) m9 ((plcB (plcB x p) q).d) ⟨b,g,j,aG⟩ (Q0 aB D.size) ((plcB x p).la.getD p.toNat 0) ((plcB (plcB x p) q).la.getD q.toNat 0) true bB.1 (by have:=Q1 bJ;omega) (by omega))) ?_;rintro _ w7 ⟨b1,b2,h,N,E,o,aA,aK⟩;have f:=f.tu h b rfl (alc (X0n g rfl) (alc (X0n j rfl) al0));have i:=i.tu h b rfl (alc (X0n g rfl) (alc (X0n j rfl) al0));have u:=SB.lift (S:=SB bV [A0,A1,A2,A3]) (w0:=w0) (.inl (.inl rfl)) (alc G (alc H al0));have N:=Us.trans N u D.size
 have D:=tstr D h u;clear u
 clear h b;have b:=E;clear E
 clear g;have g:=o;clear o;refine Zt b0 fun a I=>?_;refine Zr I<|Zm rfl<|Ze (Xz rfl)<|Ze (Vd rfl X10 0)<|Ze (Vd rfl X02 4)<|Ze (X0 rfl X9 (b.at 4))<|Ze (X43 rfl rfl)<|Ze (Xz rfl)<|Ze (Vd rfl X10 0)<|Ze (Vd rfl X02 4)<|Zo (X1a (vs:=[vi (wr ((({ ((plcB (plcB x p) q).d) with ws:=jnW ((plcB (plcB x p) q).d).ws ((plcB x p).la.getD p.toNat 0) ((plcB (plcB x p) q).la.getD q.toNat 0) true } : Dg).r)+1))]) (l':=[vi (({ ((plcB (plcB x p) q).d) with ws:=jnW ((plcB (plcB x p) q).d).ws ((plcB x p).la.getD p.toNat 0) ((plcB (plcB x p) q).la.getD q.toNat 0) true } : Dg).n),.slice A9 m9 c9,.slice b1 (({ ((plcB (plcB x p) q).d) with ws:=jnW ((plcB (plcB x p) q).d).ws ((plcB x p).la.getD p.toNat 0) ((plcB (plcB x p) q).la.getD q.toNat 0) true } : Dg).ws).length b2,vi (({ ((plcB (plcB x p) q).d) with ws:=jnW ((plcB (plcB x p) q).d).ws ((plcB x p).la.getD p.toNat 0) ((plcB (plcB x p) q).la.getD q.toNat 0) true } : Dg).t),vi (wr ((({ ((plcB (plcB x p) q).d) with ws:=jnW ((plcB (plcB x p) q).d).ws ((plcB x p).la.getD p.toNat 0) ((plcB (plcB x p) q).la.getD q.toNat 0) true } : Dg).r)+1)),.slice A2 L c2,.slice A3 L c3]) rfl rfl X08 b rfl rfl rfl rfl rfl) ?_;rintro _ w8 ⟨ho,hb⟩;have C:=b;have f:=f.onlyT ho C rfl;have i:=i.onlyT ho C rfl;have g:=g.onlyT ho C rfl;have aA:=aA.onlyT ho C rfl;have D:=tsonly D ho (.inl (.inl rfl));have b:=hb;refine Zn fun a I=>?_;refine X1b I (X1x rfl) ?_
 rw [aI]
 exact ⟨A9,c9,b1,b2,m9,D,G,N,⟨b,g,aA,f,i,aK,Q,aE⟩⟩
theorem Xt8(w0:World)(bV B0:Nat)(A0:Option Addr)(c0:Nat)(A1:Option Addr)(c1:Nat)(A2:Option Addr)(c2:Nat)(A3:Option Addr)(c3 m0 n0:Nat)(x:Br)(fC:Drx w0 bV B0 A0 c0 A1 c1 A2 c2 A3 c3 m0 n0 x)(a7:B0≤w0.heap.size)(g:Gt)(aE:BrOk n0 x)(iJ:x.d.ns.length≤70000000∧x.d.ws.length≤70000000)(bE:BrS x)(M:gOk (n0:Int) g=true)(ht:0≤x.d.t∧x.d.t≤7) : Ret Tryz.prog 91 [.pointer (some ⟨bV,0,none⟩),.agg #[vi g.k,vi g.a,vi g.b]] w0 (fun v w=>∃ A c B e m,TurnS (SB bV [A0,A1,A2,A3]) w0 w∧Us (SB bV [A0,A1,A2,A3]) w0 A∧Us (SB bV [A0,A1,A2,A3]) w0 B∧Drx w bV B0 A c B e A2 c2 A3 c3 m n0 (g8B x g)):=by
 obtain ⟨p,G,H,i,o,aF,a8,aA⟩:=fC;have iF:=p.lt
 have aG:Us (SB bV [A0,A1,A2,A3]) w0 A0:=SB.us (by simp)
 have aH:Us (SB bV [A0,A1,A2,A3]) w0 A1:=SB.us (by simp)
 have N:Us (SB bV [A0,A1,A2,A3]) w0 A2:=SB.us (by simp)
 have Q:Us (SB bV [A0,A1,A2,A3]) w0 A3:=SB.us (by simp)
 have aB:=Xcf M;have bL:=Xbn M;have dH:=Xbt M
 have bF:x.d.ns.length≤80000000∧x.d.ws.length≤80000000:=by omega
 have o1:=X4w aE g.a 4
 have l1:=X58 x g.a 4
 have s1:=Xba aE bE aB 4
 have iG:=aE.la;have iH:=aE.hd;refine enter Tryz.func91 rfl 161 rfl rfl ?_;intro a L
 have D:TurnS (SB bV [A0,A1,A2,A3]) w0 w0:=TurnS.refl _ _
 refine Zs L fun _ fD=>?_;refine Zf (X0c (zs:=[vi g.k,vi g.a,vi g.b]) rfl rfl) ?_;rintro _ w1 ⟨b6,rfl,fE,W,f⟩;have iI:=Q0 D.size fE;have p:=p.below W;have G:=G.below W;have H:=H.below W;have i:=i.below W;have o:=o.below W;have D:=tsbel D W;refine Zx fD fun a L _ fF=>?_;refine Ze (Vd rfl X0p 0)<|Ze (X0 rfl X9 (f.at 0))<|Zt fF fun a L=>?_;refine Q8<|Zs L fun _ fG=>?_;refine Ze (X0b rfl rfl)<|Za rfl<|Zt fG fun a L=>?_
 refine Xg L rfl (fun bG=>?_) (fun bG=>?_)
 ·have dI:=bG;have U:=Xwh (x:=x) bG;refine Zr L<|Zm rfl<|Ze (Vd rfl X09 1)<|Ze (X0 rfl X9 (f.at 1))<|Zf (Vc (X8h _ bV B0 A0 c0 A1 c1 A2 c2 A3 c3 m0 n0 x ⟨p,G,H,i,o,aF,a8,aA⟩ (Q0 a7 D.size) g.a aB) X4r) ?_;rintro _ w2 ⟨fH,fI,fJ,fK,fL,E,aM,aN,I,dJ,dK,h,C,dL,cC,cD⟩;have f:=f.tu E p rfl (alc (nrow G f rfl) (alc (nrow H f rfl) (alc (nrow i f rfl) (alc (nrow o f rfl) al0))));have y:=SB.lift (S:=SB bV [A0,A1,A2,A3]) (w0:=w0) (.inl (.inl rfl)) (alc aG (alc aH (alc N (alc Q al0))));have aM:=Us.trans aM y D.size;have aN:=Us.trans aN y D.size
  have D:=tstr D E y;clear y
  clear E p;have p:=I;clear I
  clear i;have i:=h;clear h
  clear o;have o:=C;clear C;refine Zn fun a L=>?_;refine Xa<|X1b L (X1x rfl) ?_
  rw [Xgt ht U rfl]
  exact ⟨fH,fI,fJ,fK,fL,D,aM,aN,⟨p,dJ,dK,i,o,dL,cC,cD⟩⟩
 have dI:=bG
 have g1:=bG
 refine Zs L fun _ dM=>?_;refine Ze (X0b rfl rfl)<|Za rfl<|Zt dM fun a L=>?_
 refine Xg L rfl (fun aI=>?_) (fun aI=>?_)
 ·have cE:=aI;have U:=Xuj (x:=x) g1 aI;refine Zs L fun _ dN=>?_;refine Zm rfl<|Ze (Vd rfl X09 1)<|Ze (X0 rfl X9 (f.at 1))<|Zf (Vc (X8h _ bV B0 A0 c0 A1 c1 A2 c2 A3 c3 m0 n0 x ⟨p,G,H,i,o,aF,a8,aA⟩ (Q0 a7 D.size) g.a aB) X4r) ?_;rintro _ w3 ⟨fM,fN,fO,fP,fQ,E,aO,aP,I,bN,bO,h,C,dO,cF,cG⟩;have f:=f.tu E p rfl (alc (nrow G f rfl) (alc (nrow H f rfl) (alc (nrow i f rfl) (alc (nrow o f rfl) al0))));have y:=SB.lift (S:=SB bV [A0,A1,A2,A3]) (w0:=w0) (.inl (.inl rfl)) (alc aG (alc aH (alc N (alc Q al0))));have aO:=Us.trans aO y D.size;have aP:=Us.trans aP y D.size
  have D:=tstr D E y;clear y
  clear E p;have p:=I;clear I
  clear i;have i:=h;clear h
  clear o;have o:=C;clear C;refine Zx dN fun a L _ dP=>?_;refine Zm rfl<|Ze (Vd rfl X09 1)<|Ze (X0 rfl X9 (f.at 1))<|Zf (Vc (Xej _ bV B0 fM fN fO fP A2 c2 A3 c3 fQ n0 (flpB x g.a) ⟨p,bN,bO,i,o,dO,cF,cG⟩ (Q0 a7 D.size) g.a 4 aB (X24 aE g.a) bF bE ⟨by decide,by decide⟩) X7e) ?_;rintro _ w4 ⟨fR,fS,fT,fU,fV,E,aQ,aR,I,bP,bR,h,C,dQ,cH,cJ⟩;have f:=f.tu E p rfl (alc (nrow bN f rfl) (alc (nrow bO f rfl) (alc (nrow i f rfl) (alc (nrow o f rfl) al0))));have y:=SB.lift (S:=SB bV [A0,A1,A2,A3]) (w0:=w0) (.inl (.inl rfl)) (alc aO (alc aP (alc N (alc Q al0))));have aQ:=Us.trans aQ y D.size;have aR:=Us.trans aR y D.size
  have D:=tstr D E y;clear y
  clear E p;have p:=I;clear I
  clear i;have i:=h;clear h
  clear o;have o:=C;clear C;refine Zt dP fun a L=>?_;refine Zr L<|Zm rfl<|Ze (Vd rfl X09 1)<|Ze (X0 rfl X9 (f.at 1))<|Zf (Vc (X8h _ bV B0 fR fS fT fU A2 c2 A3 c3 fV n0 (trnB (flpB x g.a) g.a 4) ⟨p,bP,bR,i,o,dQ,cH,cJ⟩ (Q0 a7 D.size) g.a aB) X4r) ?_;rintro _ w5 ⟨fW,fX,fY,fZ,g5,E,aS,aT,I,dR,dS,h,C,dU,cK,cL⟩;have f:=f.tu E p rfl (alc (nrow bP f rfl) (alc (nrow bR f rfl) (alc (nrow i f rfl) (alc (nrow o f rfl) al0))));have y:=SB.lift (S:=SB bV [A0,A1,A2,A3]) (w0:=w0) (.inl (.inl rfl)) (alc aQ (alc aR (alc N (alc Q al0))));have aS:=Us.trans aS y D.size;have aT:=Us.trans aT y D.size
  have D:=tstr D E y;clear y
  clear E p;have p:=I;clear I
  clear i;have i:=h;clear h
  clear o;have o:=C;clear C;refine Zn fun a L=>?_;refine Xa<|X1b L (X1x rfl) ?_
  rw [Xgt ht U (X40 (flpB x g.a) g.a 4)]
  exact ⟨fW,fX,fY,fZ,g5,D,aS,aT,⟨p,dR,dS,i,o,dU,cK,cL⟩⟩
 have cE:=aI
 have g2:=aI
 refine Zs L fun _ dW=>?_;refine Ze (X0b rfl rfl)<|Za rfl<|Zt dW fun a L=>?_
 refine Xg L rfl (fun aJ=>?_) (fun aJ=>?_)
 ·have cM:=aJ;have U:=Xw1 (x:=x) g1 g2 aJ;refine Zs L fun _ dX=>?_;refine Zm rfl<|Ze (Vd rfl X09 1)<|Ze (X0 rfl X9 (f.at 1))<|Zf (Vc (Xej _ bV B0 A0 c0 A1 c1 A2 c2 A3 c3 m0 n0 x ⟨p,G,H,i,o,aF,a8,aA⟩ (Q0 a7 D.size) g.a 4 aB aE bF bE ⟨by decide,by decide⟩) X7e) ?_;rintro _ w6 ⟨g6,g7,g8,gA,gB,E,aU,aW,I,bS,bT,h,C,dY,cN,cO⟩;have f:=f.tu E p rfl (alc (nrow G f rfl) (alc (nrow H f rfl) (alc (nrow i f rfl) (alc (nrow o f rfl) al0))));have y:=SB.lift (S:=SB bV [A0,A1,A2,A3]) (w0:=w0) (.inl (.inl rfl)) (alc aG (alc aH (alc N (alc Q al0))));have aU:=Us.trans aU y D.size;have aW:=Us.trans aW y D.size
  have D:=tstr D E y;clear y
  clear E p;have p:=I;clear I
  clear i;have i:=h;clear h
  clear o;have o:=C;clear C;refine Zx dX fun a L _ e8=>?_;refine Zm rfl<|Ze (Vd rfl X09 1)<|Ze (X0 rfl X9 (f.at 1))<|Zf (Vc (X8h _ bV B0 g6 g7 g8 gA A2 c2 A3 c3 gB n0 (trnB x g.a 4) ⟨p,bS,bT,i,o,dY,cN,cO⟩ (Q0 a7 D.size) g.a aB) X4r) ?_;rintro _ w7 ⟨gC,gD,gE,gF,gG,E,aX,aY,I,bU,bW,h,C,eA,cP,cQ⟩;have f:=f.tu E p rfl (alc (nrow bS f rfl) (alc (nrow bT f rfl) (alc (nrow i f rfl) (alc (nrow o f rfl) al0))));have y:=SB.lift (S:=SB bV [A0,A1,A2,A3]) (w0:=w0) (.inl (.inl rfl)) (alc aU (alc aW (alc N (alc Q al0))));have aX:=Us.trans aX y D.size;have aY:=Us.trans aY y D.size
  have D:=tstr D E y;clear y
  clear E p;have p:=I;clear I
  clear i;have i:=h;clear h
  clear o;have o:=C;clear C;refine Zx e8 fun a L _ eB=>?_;refine Zm rfl<|Ze (Vd rfl X09 1)<|Ze (X0 rfl X9 (f.at 1))<|Zf (Vc (Xej _ bV B0 gC gD gE gF A2 c2 A3 c3 gG n0 (flpB (trnB x g.a 4) g.a) ⟨p,bU,bW,i,o,eA,cP,cQ⟩ (Q0 a7 D.size) g.a 4 aB (X24 o1 g.a) (show (trnB x g.a 4).d.ns.length≤_∧(trnB x g.a 4).d.ws.length≤_ by omega) s1 ⟨by decide,by decide⟩) X7e) ?_;rintro _ w8 ⟨gH,gI,gJ,gK,gL,E,aZ,b0,I,bX,bY,h,C,eC,cR,cS⟩;have f:=f.tu E p rfl (alc (nrow bU f rfl) (alc (nrow bW f rfl) (alc (nrow i f rfl) (alc (nrow o f rfl) al0))));have y:=SB.lift (S:=SB bV [A0,A1,A2,A3]) (w0:=w0) (.inl (.inl rfl)) (alc aX (alc aY (alc N (alc Q al0))));have aZ:=Us.trans aZ y D.size;have b0:=Us.trans b0 y D.size
  have D:=tstr D E y;clear y
  clear E p;have p:=I;clear I
  clear i;have i:=h;clear h
  clear o;have o:=C;clear C;refine Zx eB fun a L _ eD=>?_;refine Zm rfl<|Ze (Vd rfl X09 1)<|Ze (X0 rfl X9 (f.at 1))<|Zf (Vc (X8h _ bV B0 gH gI gJ gK A2 c2 A3 c3 gL n0 (trnB (flpB (trnB x g.a 4) g.a) g.a 4) ⟨p,bX,bY,i,o,eC,cR,cS⟩ (Q0 a7 D.size) g.a aB) X4r) ?_;rintro _ w9 ⟨eE,eF,eG,eH,eI,E,b1,b2,I,bH,bJ,h,C,eJ,cT,cU⟩;have f:=f.tu E p rfl (alc (nrow bX f rfl) (alc (nrow bY f rfl) (alc (nrow i f rfl) (alc (nrow o f rfl) al0))));have y:=SB.lift (S:=SB bV [A0,A1,A2,A3]) (w0:=w0) (.inl (.inl rfl)) (alc aZ (alc b0 (alc N (alc Q al0))));have b1:=Us.trans b1 y D.size;have b2:=Us.trans b2 y D.size
  have D:=tstr D E y;clear y
  clear E p;have p:=I;clear I
  clear i;have i:=h;clear h
  clear o;have o:=C;clear C;refine Zt eD fun a L=>?_;refine Zr L<|Zm rfl<|Zm rfl<|Ze (Xz rfl)<|Ze (Vd rfl X10 0)<|Ze (Vd rfl X0t 3)<|Ze (X0 rfl X9 (p.at 3))<|Ze (X43 rfl rfl)<|Ze (X4v rfl rfl rfl)<|Ze (Xz rfl)<|Ze (Vd rfl X10 0) ?_;refine Ze (Vd rfl X0t 3)<|Zo (X1a (vs:=[vi ((wr (((flpB (trnB (flpB (trnB x g.a 4) g.a) g.a 4) g.a).d.t)+2)).tmod 8)]) (l':=[vi ((flpB (trnB (flpB (trnB x g.a 4) g.a) g.a 4) g.a).d.n),.slice eE eI eF,.slice eG ((flpB (trnB (flpB (trnB x g.a 4) g.a) g.a 4) g.a).d.ws).length eH,vi ((wr (((flpB (trnB (flpB (trnB x g.a 4) g.a) g.a 4) g.a).d.t)+2)).tmod 8),vi ((flpB (trnB (flpB (trnB x g.a 4) g.a) g.a 4) g.a).d.r),.slice A2 n0 c2,.slice A3 n0 c3]) rfl rfl X08 p rfl rfl rfl rfl rfl) ?_;rintro _ iK ⟨ho,hb⟩;have a6:=p;have i:=i.onlyT ho a6 rfl;have o:=o.onlyT ho a6 rfl;have bH:=bH.onlyT ho a6 rfl;have bJ:=bJ.onlyT ho a6 rfl;have D:=tsonly D ho (.inl (.inl rfl));have p:=hb;refine Zn fun a L=>?_;refine Xa<|X1b L (X1x rfl) ?_
  rw [show g8B x g=reB (tnB (yyB x g.a) 2) from by unfold g8B;rw [U]]
  exact ⟨eE,eF,eG,eH,eI,D,b1,b2,⟨p,bH,bJ,i,o,eJ,cT,cU⟩⟩
 have cM:=aJ
 have g3:=aJ
 refine Zs L fun _ eK=>?_;refine Ze (X0b rfl rfl)<|Za rfl<|Zt eK fun a L=>?_
 refine Xg L rfl (fun aC=>?_) (fun aC=>?_)
 ·have cV:=aC;have U:=Xvs (x:=x) g1 g2 g3 aC
  have bK:g.a≠g.b:=by have h9:=aC;simp at h9;exact (dH.2.2.2 (by omega)).2.2
  refine Zs L fun _ eL=>?_;refine Zm rfl<|Ze (Vd rfl X0r 2)<|Ze (X0 rfl X9 (f.at 2))<|Zf (Vc (X8h _ bV B0 A0 c0 A1 c1 A2 c2 A3 c3 m0 n0 x ⟨p,G,H,i,o,aF,a8,aA⟩ (Q0 a7 D.size) g.b bL) X4r) ?_;rintro _ iM ⟨gM,gN,gO,gQ,gR,E,b3,b4,I,c4,c5,h,C,eM,cW,cX⟩;have f:=f.tu E p rfl (alc (nrow G f rfl) (alc (nrow H f rfl) (alc (nrow i f rfl) (alc (nrow o f rfl) al0))));have y:=SB.lift (S:=SB bV [A0,A1,A2,A3]) (w0:=w0) (.inl (.inl rfl)) (alc aG (alc aH (alc N (alc Q al0))));have b3:=Us.trans b3 y D.size;have b4:=Us.trans b4 y D.size
  have D:=tstr D E y;clear y
  clear E p;have p:=I;clear I
  clear i;have i:=h;clear h
  clear o;have o:=C;clear C;refine Zx eL fun a L _ eN=>?_;refine Zm rfl<|Ze (Vd rfl X09 1)<|Ze (X0 rfl X9 (f.at 1))<|Ze (Vd rfl X0r 2)<|Ze (X0 rfl X9 (f.at 2))<|Zf (Vc (Xom _ bV B0 gM gN gO gQ A2 c2 A3 c3 gR n0 (flpB x g.b) ⟨p,c4,c5,i,o,eM,cW,cX⟩ (Q0 a7 D.size) g.a g.b aB bL bK (X24 aE g.b) bF bE) Xf1) ?_;rintro _ iN ⟨gS,gT,gU,gX,gY,E,b5,b7,I,cA,cB,h,C,eO,cY,d5⟩;have f:=f.tu E p rfl (alc (nrow c4 f rfl) (alc (nrow c5 f rfl) (alc (nrow i f rfl) (alc (nrow o f rfl) al0))));have y:=SB.lift (S:=SB bV [A0,A1,A2,A3]) (w0:=w0) (.inl (.inl rfl)) (alc b3 (alc b4 (alc N (alc Q al0))));have b5:=Us.trans b5 y D.size;have b7:=Us.trans b7 y D.size
  have D:=tstr D E y;clear y
  clear E p;have p:=I;clear I
  clear i;have i:=h;clear h
  clear o;have o:=C;clear C;refine Zt eN fun a L=>?_;refine Zr L<|Zm rfl<|Ze (Vd rfl X0r 2)<|Ze (X0 rfl X9 (f.at 2))<|Zf (Vc (X8h _ bV B0 gS gT gU gX A2 c2 A3 c3 gY n0 (czB (flpB x g.b) g.a g.b) ⟨p,cA,cB,i,o,eO,cY,d5⟩ (Q0 a7 D.size) g.b bL) X4r) ?_;rintro _ iO ⟨hJ,hY,i0,i1,i2,E,b8,b9,I,eP,eQ,h,C,eR,d6,d7⟩;have f:=f.tu E p rfl (alc (nrow cA f rfl) (alc (nrow cB f rfl) (alc (nrow i f rfl) (alc (nrow o f rfl) al0))));have y:=SB.lift (S:=SB bV [A0,A1,A2,A3]) (w0:=w0) (.inl (.inl rfl)) (alc b5 (alc b7 (alc N (alc Q al0))));have b8:=Us.trans b8 y D.size;have b9:=Us.trans b9 y D.size
  have D:=tstr D E y;clear y
  clear E p;have p:=I;clear I
  clear i;have i:=h;clear h
  clear o;have o:=C;clear C;refine Zn fun a L=>?_;refine Xa<|X1b L (X1x rfl) ?_
  rw [Xgt ht U (X8v (flpB x g.b) g.a g.b)]
  exact ⟨hJ,hY,i0,i1,i2,D,b8,b9,⟨p,eP,eQ,i,o,eR,d6,d7⟩⟩
 have cV:=aC
 have g9:=aC
 refine Zs L fun _ eS=>?_;refine Ze (X0b rfl rfl)<|Za rfl<|Zt eS fun a L=>?_
 refine Xg L rfl (fun aD=>?_) (fun aD=>?_)
 ·have d8:=aD;have U:=Xog (x:=x) g1 g2 g3 g9 aD
  have bK:g.a≠g.b:=by have h9:=aD;simp at h9;exact (dH.2.2.2 (by omega)).2.2
  refine Zr L<|Zm rfl<|Ze (Vd rfl X09 1)<|Ze (X0 rfl X9 (f.at 1))<|Ze (Vd rfl X0r 2)<|Ze (X0 rfl X9 (f.at 2))<|Zf (Vc (Xom _ bV B0 A0 c0 A1 c1 A2 c2 A3 c3 m0 n0 x ⟨p,G,H,i,o,aF,a8,aA⟩ (Q0 a7 D.size) g.a g.b aB bL bK aE bF bE) Xf1) ?_;rintro _ iP ⟨i4,i5,i6,i7,i8,E,bA,bB,I,eT,eU,h,C,eX,d9,dB⟩;have f:=f.tu E p rfl (alc (nrow G f rfl) (alc (nrow H f rfl) (alc (nrow i f rfl) (alc (nrow o f rfl) al0))));have y:=SB.lift (S:=SB bV [A0,A1,A2,A3]) (w0:=w0) (.inl (.inl rfl)) (alc aG (alc aH (alc N (alc Q al0))));have bA:=Us.trans bA y D.size;have bB:=Us.trans bB y D.size
  have D:=tstr D E y;clear y
  clear E p;have p:=I;clear I
  clear i;have i:=h;clear h
  clear o;have o:=C;clear C;refine Zn fun a L=>?_;refine Xa<|X1b L (X1x rfl) ?_
  rw [Xgt ht U (X8v x g.a g.b)]
  exact ⟨i4,i5,i6,i7,i8,D,bA,bB,⟨p,eT,eU,i,o,eX,d9,dB⟩⟩
 have d8:=aD
 have bM:=aD
 refine Zs L fun _ eY=>?_;refine Ze (X0b rfl rfl)<|Za rfl<|Zt eY fun a L=>?_
 refine Xg L rfl (fun aK=>?_) (fun aK=>?_)
 ·have dC:=aK;have U:=Xot (x:=x) g1 g2 g3 g9 bM aK;refine Q5 fun _ f0=>?_;refine X0a (fun a w=>Fr a 161 [(0,.pointer (some ⟨bV,0,none⟩)),(3,.pointer (some ⟨b6,0,none⟩))]∧Blk w bV 131 [vi x.d.n,.slice A0 m0 c0,.slice A1 x.d.ws.length c1,vi x.d.t,vi x.d.r,.slice A2 n0 c2,.slice A3 n0 c3]∧Blk w b6 123 [vi g.k,vi g.a,vi g.b]∧Own w B0 81 2 encNd A0 c0 x.d.ns∧Own w B0 83 3 encWr A1 c1 x.d.ws∧Own w B0 4 1 encB A3 c3 x.hd∧Own w B0 3 1 encI A2 c2 ((x.la.set g.a.toNat (x.la.getD g.b.toNat 0)).set g.b.toNat (x.la.getD g.a.toNat 0))∧TurnS (SB bV [A0,A1,A2,A3]) w0 w) ?_ ?_
  ·refine X05 none (fun j=>[29,31].contains j) mixed ?_;intro iQ W;have p:=p.below W;have f:=f.below W;have G:=G.below W;have H:=H.below W;have i:=i.below W;have o:=o.below W;have D:=tsbel D W;refine Yb L<|Yo 0 rfl (fun _=>X3 rfl)<|Yo 1 rfl (fun _=>Xz rfl)<|Yo 2 rfl (fun _=>Vd rfl X1r 5)<|Ye 3 rfl (X0 rfl X28 (p.at 5))<|Yo 4 rfl (fun _=>Vd rfl X09 1)<|Ye 5 rfl (X0 rfl X9 (f.at 1))<|Yo 6 rfl (fun _=>X3 rfl)<|Yo 7 rfl (fun _=>Xz rfl)<|Yo 8 rfl (fun _=>Vd rfl X1r 5)<|Ye 9 rfl (X0 rfl X28 (p.at 5)) ?_;refine Yo 10 rfl (fun _=>Vd rfl X0r 2)<|Yo 12 rfl (fun _=>X3 rfl)<|Yo 13 rfl (fun _=>Xz rfl)<|Yo 14 rfl (fun _=>Vd rfl X1r 5)<|Ye 15 rfl (X0 rfl X28 (p.at 5))<|Yo 16 rfl (fun _=>Vd rfl X0r 2)<|Ye 17 rfl (X0 rfl X9 (f.at 2))<|Yo 18 rfl (fun _=>Xi (k:=g.b.toNat) rfl rfl Xl X08 i a8 (by omega) (by first|omega|(rw [List.length_set];omega)))<|Ye 19 rfl (X0 rfl X9 (X0g i Xf (Xb (d:=(0:Int)) (by first|omega|(rw [List.length_set];omega))) 0 rfl))<|Yo 20 rfl (fun _=>X3 rfl) ?_;refine Yo 21 rfl (fun _=>Xz rfl)<|Yo 22 rfl (fun _=>Vd rfl X1r 5)<|Ye 23 rfl (X0 rfl X28 (p.at 5))<|Yo 24 rfl (fun _=>Vd rfl X09 1)<|Ye 25 rfl (X0 rfl X9 (f.at 1))<|Yo 26 rfl (fun _=>Xi (k:=g.a.toNat) rfl rfl Xl X08 i a8 (by omega) (by first|omega|(rw [List.length_set];omega)))<|Ye 27 rfl (X0 rfl X9 (X0g i Xf (Xb (d:=(0:Int)) (by first|omega|(rw [List.length_set];omega))) 0 rfl))<|Yo 28 rfl (fun _=>Xi (k:=g.a.toNat) rfl rfl Xl X08 i a8 (by omega) (by first|omega|(rw [List.length_set];omega))) ?_;refine Y2 11 29 ?_ ?_
   ·refine Yz rfl trivial (Uev (X0 rfl X9 (f.at 2))) ?_;refine Y1 29<|Yh rfl trivial rfl (X0h (enc:=encI) (l:=x.la) (vs:=[vi (x.la.getD g.b.toNat 0)]) (x0:=(x.la.getD g.a.toNat 0)) (u:=(x.la.getD g.b.toNat 0)) (k:=g.a.toNat) (j:=0) (n1:=1) rfl rfl X08 i Xf rfl rfl rfl rfl (by decide) (Xb (d:=(0:Int)) (by first|omega|(rw [List.length_set];omega))) rfl) ?_;rintro _ iS ⟨J,M⟩;have q:=i;have p:=p.appT q M rfl;have f:=f.appT q M rfl;have G:=G.appT q M rfl;have H:=H.appT q M rfl;have o:=o.appT q M rfl;have D:=tsrow D M N
    clear q M;clear i;have i:=J;clear J;refine Y1 30<|Yz rfl trivial (Uev (Xi (k:=g.b.toNat) rfl rfl Xl X08 i (a8.trans List.length_set.symm) (by omega) (by first|omega|(rw [List.length_set];omega)))) ?_;refine Y1 31<|Yh rfl trivial rfl (X0h (enc:=encI) (l:=(x.la.set g.a.toNat (x.la.getD g.b.toNat 0))) (vs:=[vi (x.la.getD g.a.toNat 0)]) (x0:=((x.la.set g.a.toNat (x.la.getD g.b.toNat 0)).getD g.b.toNat 0)) (u:=(x.la.getD g.a.toNat 0)) (k:=g.b.toNat) (j:=0) (n1:=1) rfl rfl X08 i Xf rfl rfl rfl rfl (by decide) (Xb (d:=(0:Int)) (by first|omega|(rw [List.length_set];omega))) rfl) ?_;rintro _ iT ⟨J,M⟩;have q:=i;have p:=p.appT q M rfl;have f:=f.appT q M rfl;have G:=G.appT q M rfl;have H:=H.appT q M rfl;have o:=o.appT q M rfl;have D:=tsrow D M N
    clear q M;clear i;have i:=J;clear J;refine Yd fun a L=>?_;exact ⟨L.sb,p,f,G,H,o,i,D⟩
   refine Yh rfl trivial rfl (X0h (enc:=encI) (l:=x.la) (vs:=[vi (x.la.getD g.b.toNat 0)]) (x0:=(x.la.getD g.a.toNat 0)) (u:=(x.la.getD g.b.toNat 0)) (k:=g.a.toNat) (j:=0) (n1:=1) rfl rfl X08 i Xf rfl rfl rfl rfl (by decide) (Xb (d:=(0:Int)) (by first|omega|(rw [List.length_set];omega))) rfl) ?_;rintro _ iU ⟨J,M⟩;have q:=i;have p:=p.appT q M rfl;have f:=f.appT q M rfl;have G:=G.appT q M rfl;have H:=H.appT q M rfl;have o:=o.appT q M rfl;have D:=tsrow D M N
   clear q M;clear i;have i:=J;clear J;refine Y1 11<|Yz rfl trivial (Uev (X0 rfl X9 (f.at 2))) ?_;refine Y1 30<|Yz rfl trivial (Uev (Xi (k:=g.b.toNat) rfl rfl Xl X08 i (a8.trans List.length_set.symm) (by omega) (by first|omega|(rw [List.length_set];omega)))) ?_;refine Y1 31<|Yh rfl trivial rfl (X0h (enc:=encI) (l:=(x.la.set g.a.toNat (x.la.getD g.b.toNat 0))) (vs:=[vi (x.la.getD g.a.toNat 0)]) (x0:=((x.la.set g.a.toNat (x.la.getD g.b.toNat 0)).getD g.b.toNat 0)) (u:=(x.la.getD g.a.toNat 0)) (k:=g.b.toNat) (j:=0) (n1:=1) rfl rfl X08 i Xf rfl rfl rfl rfl (by decide) (Xb (d:=(0:Int)) (by first|omega|(rw [List.length_set];omega))) rfl) ?_;rintro _ iV ⟨J,M⟩;have q:=i;have p:=p.appT q M rfl;have f:=f.appT q M rfl;have G:=G.appT q M rfl;have H:=H.appT q M rfl;have o:=o.appT q M rfl;have D:=tsrow D M N
   clear q M;clear i;have i:=J;clear J;refine Yd fun a L=>?_;exact ⟨L.sb,p,f,G,H,o,i,D⟩
  rintro a iW ⟨L,p,f,G,H,o,i,D⟩;refine f0 _ _<|X0a (fun a w=>Fr a 161 []∧Blk w bV 131 [vi x.d.n,.slice A0 m0 c0,.slice A1 x.d.ws.length c1,vi x.d.t,vi x.d.r,.slice A2 n0 c2,.slice A3 n0 c3]∧Blk w b6 123 [vi g.k,vi g.a,vi g.b]∧Own w B0 81 2 encNd A0 c0 x.d.ns∧Own w B0 83 3 encWr A1 c1 x.d.ws∧Own w B0 3 1 encI A2 c2 ((x.la.set g.a.toNat (x.la.getD g.b.toNat 0)).set g.b.toNat (x.la.getD g.a.toNat 0))∧Own w B0 4 1 encB A3 c3 ((x.hd.set g.a.toNat (x.hd.getD g.b.toNat false)).set g.b.toNat (x.hd.getD g.a.toNat false))∧TurnS (SB bV [A0,A1,A2,A3]) w0 w) ?_ ?_
  ·refine X05 none (fun j=>[29,31].contains j) mixed ?_;intro iX W;have p:=p.below W;have f:=f.below W;have G:=G.below W;have H:=H.below W;have o:=o.below W;have i:=i.below W;have D:=tsbel D W;refine Yb L<|Yo 0 rfl (fun _=>X3 rfl)<|Yo 1 rfl (fun _=>Xz rfl)<|Yo 2 rfl (fun _=>Vd rfl X2h 6)<|Ye 3 rfl (X0 rfl X26 (p.at 6))<|Yo 4 rfl (fun _=>Vd rfl X09 1)<|Ye 5 rfl (X0 rfl X9 (f.at 1))<|Yo 6 rfl (fun _=>X3 rfl)<|Yo 7 rfl (fun _=>Xz rfl)<|Yo 8 rfl (fun _=>Vd rfl X2h 6)<|Ye 9 rfl (X0 rfl X26 (p.at 6)) ?_;refine Yo 10 rfl (fun _=>Vd rfl X0r 2)<|Yo 12 rfl (fun _=>X3 rfl)<|Yo 13 rfl (fun _=>Xz rfl)<|Yo 14 rfl (fun _=>Vd rfl X2h 6)<|Ye 15 rfl (X0 rfl X26 (p.at 6))<|Yo 16 rfl (fun _=>Vd rfl X0r 2)<|Ye 17 rfl (X0 rfl X9 (f.at 2))<|Yo 18 rfl (fun _=>Xi (k:=g.b.toNat) rfl rfl X1u X2u o aA (by omega) (by first|omega|(rw [List.length_set];omega)))<|Ye 19 rfl (X0 rfl X6c (X0g o X0z (Xb (d:=false) (by first|omega|(rw [List.length_set];omega))) 0 rfl))<|Yo 20 rfl (fun _=>X3 rfl) ?_;refine Yo 21 rfl (fun _=>Xz rfl)<|Yo 22 rfl (fun _=>Vd rfl X2h 6)<|Ye 23 rfl (X0 rfl X26 (p.at 6))<|Yo 24 rfl (fun _=>Vd rfl X09 1)<|Ye 25 rfl (X0 rfl X9 (f.at 1))<|Yo 26 rfl (fun _=>Xi (k:=g.a.toNat) rfl rfl X1u X2u o aA (by omega) (by first|omega|(rw [List.length_set];omega)))<|Ye 27 rfl (X0 rfl X6c (X0g o X0z (Xb (d:=false) (by first|omega|(rw [List.length_set];omega))) 0 rfl))<|Yo 28 rfl (fun _=>Xi (k:=g.a.toNat) rfl rfl X1u X2u o aA (by omega) (by first|omega|(rw [List.length_set];omega))) ?_;refine Y2 11 29 ?_ ?_
   ·refine Yz rfl trivial (Uev (X0 rfl X9 (f.at 2))) ?_;refine Y1 29<|Yh rfl trivial rfl (X0h (enc:=encB) (l:=x.hd) (vs:=[.bool (x.hd.getD g.b.toNat false)]) (x0:=(x.hd.getD g.a.toNat false)) (u:=(x.hd.getD g.b.toNat false)) (k:=g.a.toNat) (j:=0) (n1:=1) rfl rfl X2u o X0z rfl rfl rfl rfl (by decide) (Xb (d:=false) (by first|omega|(rw [List.length_set];omega))) rfl) ?_;rintro _ iY ⟨J,M⟩;have q:=o;have p:=p.appT q M rfl;have f:=f.appT q M rfl;have G:=G.appT q M rfl;have H:=H.appT q M rfl;have i:=i.appT q M rfl;have D:=tsrow D M Q
    clear q M;clear o;have o:=J;clear J;refine Y1 30<|Yz rfl trivial (Uev (Xi (k:=g.b.toNat) rfl rfl X1u X2u o (aA.trans List.length_set.symm) (by omega) (by first|omega|(rw [List.length_set];omega)))) ?_;refine Y1 31<|Yh rfl trivial rfl (X0h (enc:=encB) (l:=(x.hd.set g.a.toNat (x.hd.getD g.b.toNat false))) (vs:=[.bool (x.hd.getD g.a.toNat false)]) (x0:=((x.hd.set g.a.toNat (x.hd.getD g.b.toNat false)).getD g.b.toNat false)) (u:=(x.hd.getD g.a.toNat false)) (k:=g.b.toNat) (j:=0) (n1:=1) rfl rfl X2u o X0z rfl rfl rfl rfl (by decide) (Xb (d:=false) (by first|omega|(rw [List.length_set];omega))) rfl) ?_;rintro _ iZ ⟨J,M⟩;have q:=o;have p:=p.appT q M rfl;have f:=f.appT q M rfl;have G:=G.appT q M rfl;have H:=H.appT q M rfl;have i:=i.appT q M rfl;have D:=tsrow D M Q
    clear q M;clear o;have o:=J;clear J;refine Yd fun a L=>?_;exact ⟨L.sub trivial,p,f,G,H,i,o,D⟩
   refine Yh rfl trivial rfl (X0h (enc:=encB) (l:=x.hd) (vs:=[.bool (x.hd.getD g.b.toNat false)]) (x0:=(x.hd.getD g.a.toNat false)) (u:=(x.hd.getD g.b.toNat false)) (k:=g.a.toNat) (j:=0) (n1:=1) rfl rfl X2u o X0z rfl rfl rfl rfl (by decide) (Xb (d:=false) (by first|omega|(rw [List.length_set];omega))) rfl) ?_;rintro _ j0 ⟨J,M⟩;have q:=o;have p:=p.appT q M rfl;have f:=f.appT q M rfl;have G:=G.appT q M rfl;have H:=H.appT q M rfl;have i:=i.appT q M rfl;have D:=tsrow D M Q
   clear q M;clear o;have o:=J;clear J;refine Y1 11<|Yz rfl trivial (Uev (X0 rfl X9 (f.at 2))) ?_;refine Y1 30<|Yz rfl trivial (Uev (Xi (k:=g.b.toNat) rfl rfl X1u X2u o (aA.trans List.length_set.symm) (by omega) (by first|omega|(rw [List.length_set];omega)))) ?_;refine Y1 31<|Yh rfl trivial rfl (X0h (enc:=encB) (l:=(x.hd.set g.a.toNat (x.hd.getD g.b.toNat false))) (vs:=[.bool (x.hd.getD g.a.toNat false)]) (x0:=((x.hd.set g.a.toNat (x.hd.getD g.b.toNat false)).getD g.b.toNat false)) (u:=(x.hd.getD g.a.toNat false)) (k:=g.b.toNat) (j:=0) (n1:=1) rfl rfl X2u o X0z rfl rfl rfl rfl (by decide) (Xb (d:=false) (by first|omega|(rw [List.length_set];omega))) rfl) ?_;rintro _ j1 ⟨J,M⟩;have q:=o;have p:=p.appT q M rfl;have f:=f.appT q M rfl;have G:=G.appT q M rfl;have H:=H.appT q M rfl;have i:=i.appT q M rfl;have D:=tsrow D M Q
   clear q M;clear o;have o:=J;clear J;refine Yd fun a L=>?_;exact ⟨L.sub trivial,p,f,G,H,i,o,D⟩
  rintro a j2 ⟨L,p,f,G,H,i,o,D⟩;refine Xa<|X1b L (X1x rfl) ?_
  rw [Xgt ht U rfl]
  exact ⟨A0,c0,A1,c1,m0,D,aG,aH,⟨p,G,H,i,o,aF,((a8.trans List.length_set.symm).trans List.length_set.symm),((aA.trans List.length_set.symm).trans List.length_set.symm)⟩⟩
 have dC:=aK
 have dD:=aK
 refine Zs L fun _ f3=>?_;refine Ze (X0b rfl rfl)<|Za rfl<|Zt f3 fun a L=>?_
 refine Xg L rfl (fun aL=>?_) (fun aL=>?_)
 ·have dE:=aL;have U:=Xpa (x:=x) g1 g2 g3 g9 bM dD aL;refine Zr L<|Zm rfl<|Zm rfl<|Ze (Xz rfl)<|Ze (Vd rfl X10 0)<|Ze (Vd rfl X0t 3)<|Ze (X0 rfl X9 (p.at 3))<|Ze (X43 rfl rfl)<|Ze (X4v rfl rfl rfl)<|Ze (Xz rfl)<|Ze (Vd rfl X10 0) ?_;refine Ze (Vd rfl X0t 3)<|Zo (X1a (vs:=[vi ((wr (x.d.t+1)).tmod 8)]) (l':=[vi x.d.n,.slice A0 m0 c0,.slice A1 x.d.ws.length c1,vi ((wr (x.d.t+1)).tmod 8),vi x.d.r,.slice A2 n0 c2,.slice A3 n0 c3]) rfl rfl X08 p rfl rfl rfl rfl rfl) ?_;rintro _ j3 ⟨ho,hb⟩;have a6:=p;have G:=G.onlyT ho a6 rfl;have H:=H.onlyT ho a6 rfl;have i:=i.onlyT ho a6 rfl;have o:=o.onlyT ho a6 rfl;have D:=tsonly D ho (.inl (.inl rfl));have p:=hb;refine Zn fun a L=>?_;refine Xa<|X1b L (X1x rfl) ?_
  rw [show g8B x g=reB (tnB x 1) from by unfold g8B;rw [U]]
  exact ⟨A0,c0,A1,c1,m0,D,aG,aH,⟨p,G,H,i,o,aF,a8,aA⟩⟩
 have dE:=aL
 have f7:=aL
 have U:=Xvb (x:=x) g1 g2 g3 g9 bM dD f7
 have f8:4≤g.k∧g.k≤8:=by simp only [beq_eq_false_iff_ne] at g1 g2 g3 g9 bM dD f7;omega
 have i9:=Xj1 f8;refine X05 none (fun j=>[6].contains j) mixed ?_;intro j4 W;have p:=p.below W;have f:=f.below W;have G:=G.below W;have H:=H.below W;have i:=i.below W;have o:=o.below W;have D:=tsbel D W;refine Yb L<|Yo 0 rfl (fun _=>X3 rfl)<|Yo 1 rfl (fun _=>Vd rfl X09 1)<|Ye 2 rfl (X0 rfl X9 (f.at 1))<|Yo 3 rfl (fun _=>Vd rfl X0p 0)<|Ye 4 rfl (X0 rfl X9 (f.at 0))<|Y1 5 ?_;refine Yz rfl trivial (Vc (Xu6 _ g.k) Xld) ?_;refine Y1 6<|Yt rfl trivial rfl (Vc (Xej _ bV B0 A0 c0 A1 c1 A2 c2 A3 c3 m0 n0 x ⟨p,G,H,i,o,aF,a8,aA⟩ (Q0 a7 D.size) g.a (rotC g.k) aB aE bF bE i9.2) X7e) ?_;rintro _ j5 ⟨iA,iB,iC,iD,iE,E,bC,bD,I,f9,fA,h,C,fB,dF,dG⟩;have f:=f.tu E p rfl (alc (nrow G f rfl) (alc (nrow H f rfl) (alc (nrow i f rfl) (alc (nrow o f rfl) al0))));have y:=SB.lift (S:=SB bV [A0,A1,A2,A3]) (w0:=w0) (.inl (.inl rfl)) (alc aG (alc aH (alc N (alc Q al0))));have bC:=Us.trans bC y D.size;have bD:=Us.trans bD y D.size
 have D:=tstr D E y;clear y
 clear E p;have p:=I;clear I
 clear i;have i:=h;clear h
 clear o;have o:=C;clear C;refine Yd fun a L=>?_;refine Xa<|X1b L (X1x rfl) ?_
 rw [Xgt ht U (X40 x g.a _)]
 exact ⟨iA,iB,iC,iD,iE,D,bC,bD,⟨p,f9,fA,i,o,fB,dF,dG⟩⟩
theorem Xtu(Q:World)(c:Cx)(Ac:Option Addr)(cc:Nat)(aY:Rd Q Q.heap.size 123 encG Ac c.gs)(fN:c.gs.length≤2305843009213693951) : Ret Tryz.prog 43 [.agg #[vi c.n,.slice Ac c.gs.length cc]] Q (fun v w=>∃ A c1 B e,v=.tuple #[.agg #[vi (if (dgC c)=true then ofD c else zD).n,.slice A (if (dgC c)=true then ofD c else zD).ns.length c1,.slice B (if (dgC c)=true then ofD c else zD).ws.length e,vi (if (dgC c)=true then ofD c else zD).t,vi (if (dgC c)=true then ofD c else zD).r],.bool (dgC c)]∧Rd w w.heap.size 81 encNd A (if (dgC c)=true then ofD c else zD).ns∧Rd w w.heap.size 83 encWr B (if (dgC c)=true then ofD c else zD).ws∧(if (dgC c)=true then ofD c else zD).ws.length≤e∧Below Q.heap.size Q w):=by
 refine enter Tryz.func43 rfl 79 rfl rfl ?_;intro a C
 have q:=bz Q
 refine Zs C fun _ eQ=>?_;refine Zf (X0c (zs:=[vi c.n,.slice Ac c.gs.length cc]) rfl rfl) ?_;rintro _ w1 ⟨b3,rfl,eR,D,o⟩;have fL:=Q0 q.size eR;have q:=btr q D;refine Zf (Xu (zs:=[vi 0,.slice none 0 0,.slice none 0 0,vi 0,vi 0]) X0s rfl) ?_;rintro _ w2 ⟨b6,rfl,eS,D,i⟩;have bX:=Q0 q.size eS;have o:=o.below D;have q:=btr q D;refine Za rfl<|ZX eQ fun a C _ eT=>?_;refine Zs C fun _ eU=>?_;refine Ze (Vn X12 o)<|Zf (Vc (F55 _ c Ac cc (aY.below' q).top (by assumption)) Xca) ?_;rintro _ w3 ⟨rfl,D⟩;have o:=o.below D;have i:=i.below D;have q:=btr q D;refine Ze (X0y rfl)<|Zt eU fun a C=>?_
 refine Xg C rfl (fun aZ=>?_) (fun aZ=>?_)
 ·have cX:=aZ
  have eX:dgC c=false:=Xoq (by have h8:=aZ;simpa using h8)
  refine Zs C fun _ cY=>?_;refine Ze (X0w (ps:=[]) (cs:=[vi 0,.slice none 0 0,.slice none 0 0,vi 0,vi 0]) rfl (fun _=>by first|rfl|kernel_rfl))<|Zo (Vw [vi 0,.slice none 0 0,.slice none 0 0,vi 0,vi 0] Xp i) ?_;rintro _ w4 ⟨ho,hb⟩;have p:=i;have q:=Below.only q ho bX;have i:=hb;refine Za rfl<|Zt cY fun a C=>?_;refine Q6<|X6<|X4 C (X17 C rfl (ResV.cellN (l:=[vi 0,.slice none 0 0,.slice none 0 0,vi 0,vi 0]) rfl X2 (i.at 0) rfl) rfl) ?_
  rw [eX,Q3 Bool.false_ne_true]
  exact ⟨none,0,none,0,rfl,(Rd.nil _ _ _ _ _),(Rd.nil _ _ _ _ _),(Qf _),q⟩
 have cX:=aZ
 have hc:cOk c=true:=by have h8:=aZ;simpa using h8
 obtain ⟨n9,fO,fP,fQ⟩:=Xcc hc
 have d5:c.n=((c.n.toNat:Nat) : Int):=by omega
 have fR:=Xap hc
 have d6:(List.replicate (c.n.toNat:Nat) false).length=(c.n.toNat:Nat):=List.length_replicate
 have d7:(c.n.toNat:Nat)≤maxLen:=by simp only [maxLen];omega
 refine Q7<|eT _ _<|Q5 fun _ d8=>?_;refine X05 none (fun _=>false) mixed ?_;intro w5 D;have o:=o.below D;have i:=i.below D;have q:=btr q D;refine Yb C<|Yo 0 rfl (fun _=>Vd rfl X1d 0)<|Ye 1 rfl (X0 rfl X9 (o.at 0))<|Yo 2 rfl (fun _=>X0w (ps:=[(0,vi c.n)]) (cs:=[vi c.n,.slice none 0 0,.slice none 0 0,vi 0,vi 0]) rfl (fun _=>by first|rfl|kernel_rfl))<|Yo 3 rfl (fun _=>Vd rfl X1d 0)<|Ye 4 rfl (Vx (X0 rfl X9 (o.at 0)) d5)<|Y1 5 ?_;refine Yk rfl trivial (X6b (m:=(c.n.toNat:Nat)) (enc:=encB) (z0:=false) rfl rfl X1u Xnx z_4 rfl X0z (by omega) (by omega)) (fun _ _ ⟨_,_,_,h,_⟩=>h) ?_;rintro _ w6 ⟨bP,rfl,d9,D,b0⟩;have cB:=Q0 q.size d9;have o:=o.below D;have i:=i.below D;have q:=btr q D;refine Yo 6 rfl (fun _=>X0w (ps:=[(0,.agg #[vi c.n,.slice none 0 0,.slice none 0 0,vi 0,vi 0]),(2,.slice (some ⟨bP,0,none⟩) (c.n.toNat:Nat) (c.n.toNat:Nat))]) (cs:=[vi c.n,.slice none 0 0,.slice none 0 0,vi 0,vi 0,.slice none 0 0,.slice (some ⟨bP,0,none⟩) (c.n.toNat:Nat) (c.n.toNat:Nat)]) rfl (fun _=>by first|rfl|kernel_rfl))<|Y1 7 ?_;refine Yk rfl trivial (X0c (zs:=[vi c.n,.slice none 0 0,.slice none 0 0,vi 0,vi 0,.slice none 0 0,.slice (some ⟨bP,0,none⟩) (c.n.toNat:Nat) (c.n.toNat:Nat)]) rfl rfl) (fun _ _ ⟨_,_,_,h,_⟩=>h) ?_;rintro _ w7 ⟨aE,rfl,dB,D,g⟩;have aC:=Q0 q.size dB;have o:=o.below D;have i:=i.below D;have b0:=b0.below D;have q:=btr q D;refine Yo 8 rfl (fun _=>X11 rfl) ?_;refine Yd fun a C=>?_;refine d8 _ _<|Q5 fun _ dC=>?_;refine Zs C fun _ dD=>?_;refine Ze (Vd rfl X1d 0)<|Ze (X0 rfl X9 (o.at 0))<|Zm rfl<|Zt dD fun a C=>?_;refine Q8<|X01 (σ:=Nat×(List Nd)×(List Int)) (fun (s:Nat×(List Nd)×(List Int)) (a:Act) (w:World)=>match s with|(k,u,v)=>∃ bR bS b1 b2 aJ aK,Fr a 79 [(1,.pointer (some ⟨b3,0,none⟩)),(2,.pointer (some ⟨b6,0,none⟩)),(4,.pointer (some ⟨aE,0,none⟩)),(22,vi c.n),(23,vi (k:Int))]∧(k≤c.n.toNat)∧(u=inN k)∧(v=ranI k)∧Blk w b3 30 [vi c.n,.slice Ac c.gs.length cc]∧Blk w b6 39 [vi 0,.slice none 0 0,.slice none 0 0,vi 0,vi 0]∧Blk w aE 131 [vi c.n,.slice bR u.length bS,.slice none 0 0,vi 0,vi 0,.slice b1 v.length b2,.slice aJ (c.n.toNat:Nat) aK]∧Own w Q.heap.size 81 2 encNd bR bS u∧Own w Q.heap.size 3 1 encI b1 b2 v∧Own w Q.heap.size 4 1 encB aJ aK (List.replicate (c.n.toNat:Nat) false)∧Below Q.heap.size Q w) (fun (s:Nat×(List Nd)×(List Int))=>match s with|(k,u,v)=>c.n.toNat-k) (0,[],[]) ?_ ?_
 ·exact ⟨none,0,none,0,some ⟨bP,0,none⟩,(c.n.toNat:Nat),C.sb,(Qf _),rfl,rfl,o,i,g,(Own.nil _ _ _ _ _),(Own.nil _ _ _ _ _),(Own.of_flat X0z b0 cB d6 d7),q⟩
 rintro ⟨k,u,v⟩ a w8 ⟨bR,bS,b1,b2,aJ,aK,C,hk,hu,hv,o,i,g,a8,J,G,q⟩;have dE:=X5r k;have dF:=X55 k
 rw [← hu] at dE
 rw [← hv] at dF
 refine Zs C fun _ dG=>?_;refine Ze (X0l rfl rfl)<|ZX dG fun a C _ dH=>?_
 refine Xg C rfl (fun U=>?_) (fun U=>?_)
 ·have cC:=U;have U:=Q2 U
  have bT:k<c.n.toNat:=by have:=U;omega
  refine Q7<|dH _ _<|Q5 fun _ dI=>?_;refine Q8<|Zs C fun _ dJ=>?_;refine Zm rfl<|Za rfl<|Zx dJ fun a C _ dK=>?_;refine Zm rfl<|Zm rfl<|Ze (Xz rfl)<|Ze (Vd rfl X10 0)<|Ze (Vd rfl Xj 1)<|Ze (X0 rfl X00 (g.at 1))<|Zm rfl<|Ze (X0w (ps:=[(0,vi 1),(1,vi (k:Int))]) (cs:=[vi 1,vi (k:Int)]) rfl (fun _=>by first|rfl|kernel_rfl))<|Zf (Xm (k:=1) (vs:=[.agg #[vi 1,vi (k:Int)]]) (zs:=[vi 1,vi (k:Int)]) rfl Xs X1p rfl rfl) ?_;rintro _ w9 ⟨fS,rfl,bY,D,b4⟩;have eY:=Q0 q.size bY;have aM:=a8.away bY;have o:=o.below D;have i:=i.below D;have g:=g.below D;have a8:=a8.below D;have J:=J.below D;have G:=G.below D;have q:=btr q D;refine Zf (X0m (enc:=encNd) (l:=(u)) (l2:=([(⟨1,(k:Int)⟩ : Nd)])) (B0:=Q.heap.size) rfl rfl Xs X1p Xv X2o a8 (Rd.of_blk b4 rfl _ b4.lt) (by simp only [maxLen];simp;omega) (by simp;omega) q.size) ?_;rintro _ fT ⟨bU,bW,rfl,W,hg,b5⟩
  have E:Own _ Q.heap.size 81 2 encNd _ _ (u):=a8
  have cV:=b5 _ b4.lt aM;clear b5;have o:=o.appT E hg rfl;have i:=i.appT E hg rfl;have g:=g.appT E hg rfl;have J:=J.appT E hg rfl;have G:=G.appT E hg rfl;have q:=Below.app q E hg (Qb _) q.size;clear E hg;refine Ze (Xz rfl)<|Ze (Vd rfl X10 0)<|Ze (Vd rfl Xj 1)<|Zo (Vu (vs:=[.slice bU (u++([(⟨1,(k:Int)⟩ : Nd)])).length bW]) (l':=[vi c.n,.slice bU (u++([(⟨1,(k:Int)⟩ : Nd)])).length bW,.slice none 0 0,vi 0,vi 0,.slice b1 v.length b2,.slice aJ (c.n.toNat:Nat) aK]) rfl rfl X3s g) ?_;rintro _ fU ⟨ho,hb⟩;have p:=g;have o:=o.only ho (Blk.ne o p rfl);have i:=i.only ho (Blk.ne i p rfl);have J:=J.onlyT ho p rfl;have G:=G.onlyT ho p rfl;have W:=W.onlyT ho p rfl;have q:=Below.only q ho aC;have g:=hb;refine Zt dK fun a C=>?_;refine Zr C<|Zm rfl<|Zm rfl<|Ze (Xz rfl)<|Ze (Vd rfl X1r 5)<|Ze (X0 rfl X28 (g.at 5))<|Zm rfl<|Zf (Xm (k:=1) (vs:=[vi (k:Int)]) (zs:=[vi (k:Int)]) rfl Xl X1q rfl rfl) ?_;rintro _ fV ⟨fW,rfl,c4,D,b7⟩;have f0:=Q0 q.size c4;have aN:=J.away c4;have o:=o.below D;have i:=i.below D;have g:=g.below D;have J:=J.below D;have G:=G.below D;have W:=W.below D;have q:=btr q D;refine Zf (X0m (enc:=encI) (l:=(v)) (l2:=([(k:Int)])) (B0:=Q.heap.size) rfl rfl Xl X1q Xf X25 J (Rd.of_blk b7 rfl _ b7.lt) (by simp only [maxLen];simp;omega) (by simp;omega) q.size) ?_;rintro _ fX ⟨cD,cE,rfl,b8,hg,b5⟩
  have E:Own _ Q.heap.size 3 1 encI _ _ (v):=J
  have cW:=b5 _ b7.lt aN;clear b5;have o:=o.appT E hg rfl;have i:=i.appT E hg rfl;have g:=g.appT E hg rfl;have G:=G.appT E hg rfl;have W:=W.appT E hg rfl;have q:=Below.app q E hg (Qb _) q.size;clear E hg;refine Ze (Xz rfl)<|Ze (Vd rfl X1r 5)<|Zo (Vu (vs:=[.slice cD (v++([(k:Int)])).length cE]) (l':=[vi c.n,.slice bU (u++([(⟨1,(k:Int)⟩ : Nd)])).length bW,.slice none 0 0,vi 0,vi 0,.slice cD (v++([(k:Int)])).length cE,.slice aJ (c.n.toNat:Nat) aK]) rfl rfl Xev g) ?_;rintro _ fY ⟨ho,hb⟩;have p:=g;have o:=o.only ho (Blk.ne o p rfl);have i:=i.only ho (Blk.ne i p rfl);have G:=G.onlyT ho p rfl;have W:=W.onlyT ho p rfl;have b8:=b8.onlyT ho p rfl;have q:=Below.only q ho aC;have g:=hb;refine Zn fun a C=>?_;refine Xa<|dI _ _<|Zr C<|Ze (Xw rfl rfl (by omega) (by omega))<|Zm rfl ?_;refine Zn fun a C=>?_;refine Xh ?_;exact ⟨(k+1,u++([(⟨1,(k:Int)⟩ : Nd)]),v++([(k:Int)])),⟨bU,bW,cD,cE,aJ,aK,C.sb,(by omega),(by rw [Xpb,← hu]),(by rw [Xjz,← hv]),o,i,g,W,b8,G,q⟩,(by first|omega|(dsimp only;omega))⟩
 have cC:=U;have U:=Q1 U
 have bT:k=c.n.toNat:=by have:=U;omega
 have dL:v.length=c.n.toNat:=by rw [hv,bT];exact X55 _
 have cF:(⟨⟨c.n,u,[],0,0⟩,v,List.replicate c.n.toNat false⟩ : Br)=ofB0 c:=by rw [hu,hv,bT];rfl
 have fZ:u.length=c.n.toNat:=by rw [hu,bT];exact X5r _
 refine Q9<|Xk<|Xk<|X03 ?_;refine dC _ _<|Q5 fun _ dM=>?_;refine Zs C fun _ dN=>?_;refine Ze (Vd rfl X18 1)<|Ze (X0 rfl X29 (o.at 1))<|Ze (X0d rfl X1f)<|Zm rfl<|Zt dN fun a C=>?_;refine Q8 ?_
 rw [dL] at g
 refine X01 (σ:=Nat×Br×Nat) (fun (s:Nat×Br×Nat) (a:Act) (w:World)=>match s with|(k,x,mz)=>∃ b9 bA bB bC aO aP aQ aR,Fr a 79 [(1,.pointer (some ⟨b3,0,none⟩)),(2,.pointer (some ⟨b6,0,none⟩)),(4,.pointer (some ⟨aE,0,none⟩)),(51,.slice Ac c.gs.length cc),(52,vi (c.gs.length:Int)),(53,vi (k:Int))]∧(k≤c.gs.length)∧(x=(c.gs.take k).foldl g8B (ofB0 c))∧(BrOk c.n.toNat x)∧(BrS x)∧(0≤x.d.t∧x.d.t≤7)∧(c.n.toNat=x.la.length)∧(c.n.toNat=x.hd.length)∧(mz=x.d.ns.length)∧(x.d.ns.length≤5+3*k∧x.d.ws.length≤3*k)∧Blk w b3 30 [vi c.n,.slice Ac c.gs.length cc]∧Blk w b6 39 [vi 0,.slice none 0 0,.slice none 0 0,vi 0,vi 0]∧Blk w aE 131 [vi x.d.n,.slice b9 mz bA,.slice bB x.d.ws.length bC,vi x.d.t,vi x.d.r,.slice aO c.n.toNat aP,.slice aQ c.n.toNat aR]∧Own w Q.heap.size 81 2 encNd b9 bA x.d.ns∧Own w Q.heap.size 83 3 encWr bB bC x.d.ws∧Own w Q.heap.size 3 1 encI aO aP x.la∧Own w Q.heap.size 4 1 encB aQ aR x.hd∧Below Q.heap.size Q w) (fun (s:Nat×Br×Nat)=>match s with|(k,x,mz)=>c.gs.length-k) (0,⟨⟨c.n,u,[],0,0⟩,v,List.replicate c.n.toNat false⟩,u.length) ?_ ?_
 ·exact ⟨bR,bS,none,0,b1,b2,aJ,aK,C.sb,(Qf _),cF,(cF▸Xb1 ⟨by omega,by omega⟩),(cF▸Xsi c),⟨Int.le_refl _,(by decide:(0:Int)≤7)⟩,dL.symm,d6.symm,rfl,⟨by show u.length≤_;omega,Qb _⟩,o,i,g,a8,(Own.nil _ _ _ _ _),J,G,q⟩
 rintro ⟨k,x,mz⟩ a g5 ⟨b9,bA,bB,bC,aO,aP,aQ,aR,C,hk,hx,aF,aS,dO,dP,dQ,dR,f3,o,i,g,L,M,H,I,q⟩;refine Zs C fun _ dS=>?_;refine Ze (X0l rfl rfl)<|ZX dS fun a C _ dU=>?_
 refine Xg C rfl (fun a6=>?_) (fun a6=>?_)
 ·have cG:=a6;have a6:=Q2 a6
  obtain ⟨g6,fM⟩:=X5 (l:=c.gs) (k:=k) (by omega)
  obtain ⟨u9,cH⟩:=X5 (l:=c.gs) (k:=k) (by have:=a6;omega)
  have cJ:gOk (c.n.toNat:Int) u9=true:=Xii hc d5 cH
  have dW:=X2w (f:=g8B) (b:=ofB0 c) cH
  rw [← hx] at dW
  refine Q7<|dU _ _<|Q5 fun _ dX=>?_;refine Q8<|Zs C fun _ dY=>?_;refine Zi (k:=k) (u:=u9) (enc:=encG) (l:=c.gs) trivial rfl rfl X1f X1h X16 (aY.below' q) cH rfl ?_;intro g7 cK;refine Ze (X04 (l:=[vi u9.k,vi u9.a,vi u9.b]) rfl X0o cK rfl)<|Zf (Xu (zs:=[vi 0,vi 0,vi 0]) X5w rfl) ?_;rintro _ g8 ⟨gA,rfl,c5,D,N⟩;have cL:=Q0 q.size c5;have e8:=(aY.below' q).away c5;have o:=o.below D;have i:=i.below D;have g:=g.below D;have L:=L.below D;have M:=M.below D;have H:=H.below D;have I:=I.below D;have q:=btr q D;refine Zo (Vw [vi u9.k,vi u9.a,vi u9.b] X1h N) ?_;rintro _ gB ⟨ho,hb⟩;have p:=N;have o:=o.only ho (Blk.ne o p rfl);have i:=i.only ho (Blk.ne i p rfl);have g:=g.only ho (Blk.ne g p rfl);have L:=L.onlyT ho p rfl;have M:=M.onlyT ho p rfl;have H:=H.onlyT ho p rfl;have I:=I.onlyT ho p rfl;have q:=Below.only q ho cL;have N:=hb;refine Zt dY fun a C=>?_;refine Zr C<|Zm rfl<|Ze (Vn X0o N)<|Zf (Vc (Xt8 _ aE Q.heap.size b9 bA bB bC aO aP aQ aR mz c.n.toNat x ⟨g,L,M,H,I,dR,dP,dQ⟩ q.size u9 aF (by omega) aS cJ dO) Xnv) ?_;rintro _ gC ⟨f7,f8,f9,fA,fB,aD,cM,cN,bD,eA,eB,aG,aH,eC,cO,cP⟩;have o:=o.tu aD g rfl (alc (nrow L o rfl) (alc (nrow M o rfl) (alc (nrow H o rfl) (alc (nrow I o rfl) al0))));have i:=i.tu aD g rfl (alc (nrow L i rfl) (alc (nrow M i rfl) (alc (nrow H i rfl) (alc (nrow I i rfl) al0))));have N:=N.tu aD g rfl (alc (nrow L N rfl) (alc (nrow M N rfl) (alc (nrow H N rfl) (alc (nrow I N rfl) al0))))
  have q:=Below.ts q aD (SB.ge aC (alc (fun _ h9=>X1t L h9) (alc (fun _ h9=>X1t M h9) (alc (fun _ h9=>X1t H h9) (alc (fun _ h9=>X1t I h9) al0))))) q.size
  clear cM;clear cN
  clear aD g;have g:=bD;clear bD
  clear H;have H:=aG;clear aG
  clear I;have I:=aH;clear aH;refine Zn fun a C=>?_;refine Xa<|dX _ _<|Zr C<|Ze (Xw rfl rfl (by omega) (by omega))<|Zm rfl ?_;refine Zn fun a C=>?_;refine Xh ?_;exact ⟨(k+1,(g8B x u9),fB),⟨f7,f8,f9,fA,aO,aP,aQ,aR,C.sb,(by omega),(by rw [dW]),(Xsl aF cJ),(Xy1 aF aS cJ),(Xxu dO),cO,cP,eC,(by have:=Xs1 x u9;omega),o,i,g,eA,eB,H,I,q⟩,(by first|omega|(dsimp only;omega))⟩
 have cG:=a6;have a6:=Q1 a6
 have fC:x=of8 c:=by rw [hx,Qi (by have:=a6;omega)];rfl
 refine Q9<|Xk<|Xk<|X03 ?_;refine dM _ _<|Q5 fun _ eD=>?_;refine Zs C fun _ eE=>?_;refine Ze (Vd rfl X1d 0)<|Ze (X0 rfl X9 (o.at 0))<|Zm rfl<|Zt eE fun a C=>?_;refine Q8<|X01 (σ:=Nat×Br×Nat) (fun (s:Nat×Br×Nat) (a:Act) (w:World)=>match s with|(j,y,my)=>∃ aT aU aW aX bE bF bG bH,Fr a 79 [(2,.pointer (some ⟨b6,0,none⟩)),(4,.pointer (some ⟨aE,0,none⟩)),(62,vi c.n),(63,vi (j:Int))]∧(j≤c.n.toNat)∧(y=ok8 c j)∧(BrOk c.n.toNat y)∧(BrS y)∧(c.n.toNat=y.la.length)∧(c.n.toNat=y.hd.length)∧(my=y.d.ns.length)∧(y.d.ns.length≤5+3*400+j∧y.d.ws.length≤3*400+j)∧Blk w b6 39 [vi 0,.slice none 0 0,.slice none 0 0,vi 0,vi 0]∧Blk w aE 131 [vi y.d.n,.slice aT my aU,.slice aW y.d.ws.length aX,vi y.d.t,vi y.d.r,.slice bE c.n.toNat bF,.slice bG c.n.toNat bH]∧Own w Q.heap.size 81 2 encNd aT aU y.d.ns∧Own w Q.heap.size 83 3 encWr aW aX y.d.ws∧Own w Q.heap.size 3 1 encI bE bF y.la∧Own w Q.heap.size 4 1 encB bG bH y.hd∧Below Q.heap.size Q w) (fun (s:Nat×Br×Nat)=>match s with|(j,y,my)=>c.n.toNat-j) (0,x,mz) ?_ ?_
 ·exact ⟨b9,bA,bB,bC,aO,aP,aQ,aR,C.sb,(Qf _),fC,aF,aS,dP,dQ,dR,(by omega),i,g,L,M,H,I,q⟩
 rintro ⟨j,y,my⟩ a gD ⟨aT,aU,aW,aX,bE,bF,bG,bH,C,hj,hy,aF,aS,fD,fE,eF,f3,i,g,aL,aI,aA,aB,q⟩;refine Zs C fun _ eG=>?_;refine Ze (X0l rfl rfl)<|ZX eG fun a C _ eH=>?_
 refine Xg C rfl (fun a7=>?_) (fun a7=>?_)
 ·have cQ:=a7;have a7:=Q2 a7
  have eI:j<c.n.toNat:=by have:=a7;omega
  refine Q7<|eH _ _<|Q5 fun _ eJ=>?_;refine Q8<|Zs C fun _ eK=>?_;refine Zm rfl<|Za rfl<|Zt eK fun a C=>?_;refine Zr C<|Zm rfl<|Zm rfl<|Zm rfl<|Ze (X0w (ps:=[(0,vi 2),(1,vi (j:Int))]) (cs:=[vi 2,vi (j:Int)]) rfl (fun _=>by first|rfl|kernel_rfl))<|Zf (Vc (Xon _ aE Q.heap.size aT aU aW aX bE bF bG bH my c.n.toNat y ⟨g,aL,aI,aA,aB,eF,fD,fE⟩ q.size (j:Int) (⟨2,(j:Int)⟩ : Nd) ⟨by omega,by omega⟩ aF (by omega) aS) Xeu) ?_;rintro _ gE ⟨fF,fG,fH,fI,fJ,aD,cR,cS,bD,eL,eM,aG,aH,eN,cT,cU⟩;have i:=i.tu aD g rfl (alc (nrow aL i rfl) (alc (nrow aI i rfl) (alc (nrow aA i rfl) (alc (nrow aB i rfl) al0))))
  have q:=Below.ts q aD (SB.ge aC (alc (fun _ h9=>X1t aL h9) (alc (fun _ h9=>X1t aI h9) (alc (fun _ h9=>X1t aA h9) (alc (fun _ h9=>X1t aB h9) al0))))) q.size
  clear cR;clear cS
  clear aD g;have g:=bD;clear bD
  clear aA;have aA:=aG;clear aG
  clear aB;have aB:=aH;clear aH;refine Zn fun a C=>?_;refine Xa<|eJ _ _<|Zr C<|Ze (Xw rfl rfl (by omega) (by omega))<|Zm rfl ?_;refine Zn fun a C=>?_;refine Xh ?_;exact ⟨(j+1,(nodB y 2 (j:Int) (j:Int)),fJ),⟨fF,fG,fH,fI,bE,bF,bG,bH,C.sb,(by omega),(by rw [Xo5,← hy]),(Xa9 aF ⟨by omega,by omega⟩),(Xo4 aF aS ⟨by omega,by omega⟩),cT,cU,eN,(by have:=X6t y 2 (j:Int) (j:Int);omega),i,g,eL,eM,aA,aB,q⟩,(by first|omega|(dsimp only;omega))⟩
 have cQ:=a7;have a7:=Q1 a7
 have eI:j=c.n.toNat:=by have:=a7;omega
 have cA:y.d=ofD c:=by rw [hy,eI];exact Xui (by omega)
 have fK:dgC c=ivD y.d:=by unfold dgC;rw [hc,Qw,Xa0,cA]
 refine Q9<|Xk<|Xk<|X03 ?_;refine eD _ _<|Zs C fun _ eO=>?_;refine Zm rfl<|Ze (Xz rfl)<|Ze (Vd rfl X10 0)<|Ze (X04 (l:=[vi y.d.n,.slice aT my aU,.slice aW y.d.ws.length aX,vi y.d.t,vi y.d.r]) rfl X2 ((g.at 0).take 5) rfl)<|Zf (Vc (Xod _ y.d my eF aT aU aL.rd.top aW aX aI.rd.top aI.cap (by omega)) Xf0) ?_;rintro _ gF ⟨bJ,bK,bL,bM,rfl,bN,bO,eP,D⟩;have i:=i.below D;have q:=btr q D;refine Ze (Xn (vs:=[.agg #[vi ((if (ivD y.d)=true then y.d else zD).n),.slice bJ ((if (ivD y.d)=true then y.d else zD).ns).length bK,.slice bL ((if (ivD y.d)=true then y.d else zD).ws).length bM,vi ((if (ivD y.d)=true then y.d else zD).t),vi ((if (ivD y.d)=true then y.d else zD).r)],.bool (ivD y.d)]) rfl rfl)<|Ze (Xn (vs:=[.agg #[vi ((if (ivD y.d)=true then y.d else zD).n),.slice bJ ((if (ivD y.d)=true then y.d else zD).ns).length bK,.slice bL ((if (ivD y.d)=true then y.d else zD).ws).length bM,vi ((if (ivD y.d)=true then y.d else zD).t),vi ((if (ivD y.d)=true then y.d else zD).r)],.bool (ivD y.d)]) rfl rfl)<|Zo (Vw [vi ((if (ivD y.d)=true then y.d else zD).n),.slice bJ ((if (ivD y.d)=true then y.d else zD).ns).length bK,.slice bL ((if (ivD y.d)=true then y.d else zD).ws).length bM,vi ((if (ivD y.d)=true then y.d else zD).t),vi ((if (ivD y.d)=true then y.d else zD).r)] Xp i) ?_;rintro _ gG ⟨ho,hb⟩;have p:=i;have bN:=bN.onlyT ho p rfl;have bO:=bO.onlyT ho p rfl;have q:=Below.only q ho bX;have i:=hb;refine Za rfl<|Zt eO fun a C=>?_
 refine Q6 (X4 C (X17 C rfl (ResV.cellN (l:=[vi ((if (ivD y.d)=true then y.d else zD).n),.slice bJ ((if (ivD y.d)=true then y.d else zD).ns).length bK,.slice bL ((if (ivD y.d)=true then y.d else zD).ws).length bM,vi ((if (ivD y.d)=true then y.d else zD).t),vi ((if (ivD y.d)=true then y.d else zD).r)]) rfl X2 (i.at 0) rfl) rfl) ?_)
 rw [fK,← cA]
 exact ⟨bJ,bK,bL,bM,rfl,bN.top,bO.top,eP,q⟩
end Go.Proofs.YtpifljegadknkaaGreat
