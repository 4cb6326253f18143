/-
  For all drawn circuits and diagrams, the diagram of a circuit stands for its operator, the adjoint diagram for the adjoint matrix, and texts are parsed back. Conditions: none beside the variables' values, which the card ties to the program's text.
-/
import Derived.Test.YtgobkmhhckhbfaaGreatDoorU4
import Derived.Test.YtgobkmhhckhbfaaGreatDoorU3
import Derived.Test.YtgobkmhhckhbfaaGreatDoorU2
import Derived.Lib.SplitLaws
import Derived.Lib.IndexBytes
import Derived.Lib.Atoi
import Derived.Lib.ItoaNum
import Derived.Lib.Join
import Derived.Lib.SlicesS
import Derived.Shelf.Strings.OnBuilder
import Derived.Shelf.Small.Bits
import Derived.Shelf.Small.Strs
import Derived.Shelf.Strconv.Atoi
import Derived.Shelf.LaysM
import Derived.Ground.NamesProg
import Derived.Shelf.Strconv.Itoa3
import Derived.Shelf.Strings.Search1
import Derived.Shelf.Strings.Search2
import Derived.Shelf.Strings.Search3
import Derived.Shelf.Strings.Cut
import Derived.Shelf.Strings.Split
import Derived.Test.YtgobkmhhckhbfaaGreatDoorProg
import Derived.Lib.IndexMore
import Derived.Lib.AtoiErrMem
import Derived.Lib.LaidTab
import Derived.Test.YtgobkmhhckhbfaaGreatDoorU1
import Derived.Test.YtgobkmhhckhbfaaGreatDoorRows
import Derived.Lib.LaidU8
import Derived.Lib.AppendIntMem
import Derived.ChangeVars
import Derived.MakeChecks
import Derived.OpenShut
import Derived.Handed
import Derived.HandedShaped
import Derived.Shelf.Vars
import Derived.Test.YtgobkmhhckhbfaaGreatDoorCards
import Derived.Test.YtgobkmhhckhbfaaGreatDoorTie
import Derived.Lay
set_option linter.unusedVariables false
set_option linter.unusedSimpArgs false
set_option maxHeartbeats 1000000
set_option maxRecDepth 4000
set_option linter.unusedSectionVars false
namespace Go.Proofs.YtgobkmhhckhbfaaGreatDoor
open Go.RowKit
theorem X9d(w0:World)(bV B0:Nat)(A0:Option Addr)(c0:Nat)(A1:Option Addr)(c1:Nat)(A2:Option Addr)(c2:Nat)(A3:Option Addr)(c3 m0 n0:Nat)(x:Br)(a7:Drx w0 bV B0 A0 c0 A1 c1 A2 c2 A3 c3 m0 n0 x)(aF:B0<=w0.heap.size)(q:Int)(hq:0<=q/\q.toNat<n0) : Ret Tryz.prog 60 [(pZ9 bV),vi q] w0 (fun v w=>∃ A c B e m,TurnS (SB bV [A0,A1,A2,A3]) w0 w/\Us (SB bV [A0,A1,A2,A3]) w0 A/\Us (SB bV [A0,A1,A2,A3]) w0 B/\Drx w bV B0 A c B e A2 c2 A3 c3 m n0 (flpB x q)):=by
 obtain ⟨f,i,o,p,b,a8,aA,a6⟩:=a7;have aE:=f.lt
 have aB:Us (SB bV [A0,A1,A2,A3]) w0 A0:=SB.us O5
 have aC:Us (SB bV [A0,A1,A2,A3]) w0 A1:=SB.us O5
 have aG:Us (SB bV [A0,A1,A2,A3]) w0 A2:=SB.us O5
 have aD:Us (SB bV [A0,A1,A2,A3]) w0 A3:=SB.us O5
 refine enter Tryz.func60 O 18 O O ?_;intro a hf
 have hW:TurnS (SB bV [A0,A1,A2,A3]) w0 w0:=TurnS.refl _ _
 refine Xl none (fun j=>[14].contains j) mixed ?_;intro w1 hE;have f:=f.bw hE;have i:=i.bw hE;have o:=o.bw hE;have p:=p.bw hE;have b:=b.bw hE;have hW:=tsbel hW hE;refine Yb hf<|Yo 0 O (fun _=>X3 O)<|Yo 1 O (fun _=>Xw O)<|Yo 2 O (fun _=>Vd O X3e 6)<|Ye 3 O (X0 O X27 (f.at 6))<|Yo 4 O (fun _=>X3 O)<|Yo 5 O (fun _=>X3 O)<|Yo 6 O (fun _=>Xw O)<|Yo 7 O (fun _=>Vd O X3e 6)<|Ye 8 O (X0 O X27 (f.at 6))<|Yo 9 O (fun _=>X3 O) ?_;refine Yo 10 O (fun _=>Xd (k:=q.toNat) O O X1t X2k b a6 Z Z)<|Ye 11 O (X0 O X4d (X17 b X0n (Xf (d:=false) Z) 0 O))<|Yo 12 O (fun _=>X1w O)<|Yo 13 O (fun _=>Xd (k:=q.toNat) O O X1t X2k b a6 Z Z)<|Y1 14 ?_;refine Yh O tv0 O (X0d (enc:=encB) (l:=x.hd) (vs:=[.bool (!(x.hd.getD q.toNat false))]) (x0:=(x.hd.getD q.toNat false)) (u:=!(x.hd.getD q.toNat false)) (k:=q.toNat) (j:=0) (n1:=1) O O X2k b X0n O O O O O4 (Xf (d:=false) Z) O) ?_;rintro _ w2 ⟨t,hg⟩;have g:=b;have f:=f.appT g hg O;have i:=i.appT g hg O;have o:=o.appT g hg O;have p:=p.appT g hg O;have hW:=tsrow hW hg aD
 clear g hg;clear b;have b:=t;clear t;refine Yd fun a hf=>?_;refine X1u hf (X2s O) ?_;exact ⟨A0,c0,A1,c1,m0,hW,aB,aC,⟨f,i,o,p,b,a8,aA,(a6.trans List.length_set.symm)⟩⟩
theorem Xs9(w0:World)(bV B0:Nat)(A0:Option Addr)(c0:Nat)(A1:Option Addr)(c1:Nat)(A2:Option Addr)(c2:Nat)(A3:Option Addr)(c3 m0 n0:Nat)(x:Br)(aQ:Drx w0 bV B0 A0 c0 A1 c1 A2 c2 A3 c3 m0 n0 x)(aF:B0<=w0.heap.size)(q:Int)(k:Nd)(hq:0<=q/\q.toNat<n0)(aR:BrOk n0 x)(b4:x.d.ns.length<=90000000/\x.d.ws.length<=90000000)(aG:BrS x) : Ret Tryz.prog 25 [(pZ9 bV),vi q,.agg #[vi k.k,vi k.p]] w0 (fun v w=>∃ A c B e m,TurnS (SB bV [A0,A1,A2,A3]) w0 w/\Us (SB bV [A0,A1,A2,A3]) w0 A/\Us (SB bV [A0,A1,A2,A3]) w0 B/\Drx w bV B0 A c B e A2 c2 A3 c3 m n0 (nodB x k.k k.p q)):=by
 obtain ⟨b,G,C,f,g,aS,aB,aC⟩:=aQ;have b1:=b.lt
 subst aS
 have aH:Us (SB bV [A0,A1,A2,A3]) w0 A0:=SB.us O5
 have aT:Us (SB bV [A0,A1,A2,A3]) w0 A1:=SB.us O5
 have aU:Us (SB bV [A0,A1,A2,A3]) w0 A2:=SB.us O5
 have aV:Us (SB bV [A0,A1,A2,A3]) w0 A3:=SB.us O5
 have M:=aR.at hq
 have b5:(x.d.ns++[k]).length=x.d.ns.length+1:=by simp
 refine enter Tryz.func25 O 58 O O ?_;intro a N
 have D:TurnS (SB bV [A0,A1,A2,A3]) w0 w0:=TurnS.refl _ _
 refine Zs N fun _ aW=>?_;refine Zf (X0u (zs:=[vi k.k,vi k.p]) O O) ?_;rintro _ w1 ⟨b6,rfl,aI,z,J⟩;have b2:=Q0 D.size aI;have Q:=G.away aI;have b:=b.bw z;have G:=G.bw z;have C:=C.bw z;have f:=f.bw z;have g:=g.bw z;have D:=tsbel D z;refine ZX aW fun a N _ aX=>?_;refine Xl none (fun j=>[8,12].contains j) mixed ?_;intro w2 z;have b:=b.bw z;have J:=J.bw z;have G:=G.bw z;have C:=C.bw z;have f:=f.bw z;have g:=g.bw z;have D:=tsbel D z;refine Yb N<|Yo 0 O (fun _=>X3 O)<|Yo 1 O (fun _=>X3 O)<|Yo 2 O (fun _=>Xw O)<|Yo 3 O (fun _=>Vd O X1l 0)<|Yo 4 O (fun _=>Vd O Xi 1)<|Ye 5 O (X0 O X0b (b.at 1))<|Ye 6 O (Vn X23 J)<|Y1 7 ?_;refine Yk O tv0 (X9 (k:=1) (vs:=[.agg #[vi k.k,vi k.p]]) (zs:=[vi k.k,vi k.p]) O Xp X1r O O) (fun _ _ ⟨_,_,_,h,_⟩=>h) ?_;rintro _ w3 ⟨b8,rfl,aJ,z,aD⟩
 have aP:b6≠b8:=by have:=J.lt;omega
 have b3:=Q0 D.size aJ;have U:=G.away aJ;have b:=b.bw z;have J:=J.bw z;have G:=G.bw z;have C:=C.bw z;have f:=f.bw z;have g:=g.bw z;have D:=tsbel D z;refine Y1 8<|Yt O tv0 O (X15 (enc:=encNd) (l:=(x.d.ns)) (l2:=([k])) (B0:=B0) O O Xp X1r X02 X2x G (Rd.of_blk aD O _ aD.lt) (by simp only [maxLen];simp;omega) O6 (Q0 aF D.size)) ?_;rintro _ w4 ⟨W,a6,rfl,o,H,M⟩
 have i:Own _ B0 64 2 encNd _ _ (x.d.ns):=G
 have aK:=M _ J.lt Q;have aL:=M _ aD.lt U;have a8:=Us.app aH M D.size;clear M;have b:=b.appT i H O;have C:=C.appT i H O;have f:=f.appT i H O;have g:=g.appT i H O;have D:=tsrow D H aH;clear i H;refine Yo 9 O (fun _=>Xw O)<|Yo 10 O (fun _=>Vd O X1l 0)<|Yo 11 O (fun _=>Vd O Xi 1)<|Y1 12 ?_;refine Yh O tv0 O (X1m (vs:=[.slice W (x.d.ns++([k])).length a6]) (l':=[vi x.d.n,.slice W (x.d.ns++([k])).length a6,.slice A1 x.d.ws.length c1,vi x.d.t,vi x.d.r,.slice A2 n0 c2,.slice A3 n0 c3]) O O X3x b O O O O O) ?_;rintro _ w5 ⟨ho,hb⟩;have C:=C.oT ho b O;have f:=f.oT ho b O;have g:=g.oT ho b O;have o:=o.oT ho b O;have D:=tsonly D ho (.inl (.inl O));have b:=hb;refine Yd fun a N=>?_;refine aX _ _<|Zs N fun _ aM=>?_;refine Zm O<|Ze (Xw O)<|Ze (Vd O X1l 0)<|Ze (Vd O Xi 1)<|Ze (X0 O X0b (b.at 1))<|Ze (X11 O Xp)<|Ze (Vx (X1c O O Z Z) (show _=(x.d.ns.length:Int) from Z))<|Za O<|ZX aM fun a N _ aN=>?_;refine Xl none (fun j=>[18].contains j) mixed ?_;intro w6 z;have b:=b.bw z;have C:=C.bw z;have f:=f.bw z;have g:=g.bw z;have o:=o.bw z;have D:=tsbel D z;refine Yb N<|Yo 0 O (fun _=>X3 O)<|Yo 1 O (fun _=>Xw O)<|Yo 2 O (fun _=>Vd O X1l 0)<|Yo 3 O (fun _=>X3 O)<|Yo 4 O (fun _=>Xw O)<|Yo 5 O (fun _=>Vd O X2o 5)<|Ye 6 O (X0 O X2d (b.at 5))<|Yo 7 O (fun _=>X3 O)<|Yo 8 O (fun _=>Xd (k:=q.toNat) O O Xy X0e f aB Z Z)<|Ye 9 O (X0 O X2 (X17 f Xn (Xf (d:=(0:Int)) Z) 0 O)) ?_
 refine Yo 10 O (fun _=>X3 O)<|Yo 11 O (fun _=>X3 O)<|Yo 12 O (fun _=>Xw O)<|Yo 13 O (fun _=>Vd O X3e 6)<|Ye 14 O (X0 O X27 (b.at 6))<|Yo 15 O (fun _=>X3 O)<|Yo 16 O (fun _=>Xd (k:=q.toNat) O O X1t X2k g aC Z Z)<|Ye 17 O (X0 O X4d (X17 g X0n (Xf (d:=false) Z) 0 O))<|Y1 18 ?_;refine Yt O tv0 O (X2b (vs:=[(pZ9 bV),vi (x.la.getD q.toNat 0),vi (x.d.ns.length:Int),.bool (x.hd.getD q.toNat false)]) O Xh5 (Xsj _ bV B0 W a6 A1 c1 (.slice A2 n0 c2) (.slice A3 n0 c3) ((x.d.ns++([k])).length) (⟨x.d.n,x.d.ns++([k]),x.d.ws,x.d.t,x.d.r⟩ : Dg) ⟨b,o,C,O⟩ (Q0 aF D.size) (x.la.getD q.toNat 0) (x.d.ns.length:Int) (x.hd.getD q.toNat false) aG.1 (Xtt aG _) (by dsimp only;omega))) ?_;rintro _ w7 ⟨aY,aZ,a7,L,aO,aA,E,b0⟩;have f:=f.tu a7 b O (alc (X5p o O) (alc (X5p C O) al0));have g:=g.tu a7 b O (alc (X5p o O) (alc (X5p C O) al0));have aE:=SB.lift (S:=SB bV [A0,A1,A2,A3]) (w0:=w0) (.inl (.inl O)) (alc a8 (alc aT al0));have L:=Us.trans L aE D.size
 have D:=tstr D a7 aE;clear aE
 clear a7 b;have b:=aO;clear aO
 clear o;have o:=aA;clear aA;refine Yd fun a N=>?_;refine aN _ _<|Xl none (fun j=>[12,14].contains j) mixed ?_;intro w8 z;have b:=b.bw z;have f:=f.bw z;have g:=g.bw z;have o:=o.bw z;have E:=E.bw z;have D:=tsbel D z;refine Yb N<|Yo 0 O (fun _=>X3 O)<|Yo 1 O (fun _=>Xw O)<|Yo 2 O (fun _=>Vd O X2o 5)<|Ye 3 O (X0 O X2d (b.at 5))<|Yo 4 O (fun _=>X3 O)<|Yo 5 O (fun _=>X3 O)<|Yo 6 O (fun _=>Xw O)<|Yo 7 O (fun _=>Vd O X3e 6)<|Ye 8 O (X0 O X27 (b.at 6))<|Yo 9 O (fun _=>X3 O) ?_;refine Yo 10 O (fun _=>X3 O)<|Yo 11 O (fun _=>Xd (k:=q.toNat) O O Xy X0e f aB Z Z)<|Y1 12 ?_;refine Yh O tv0 O (X0d (enc:=encI) (l:=x.la) (vs:=[vi (x.d.ns.length:Int)]) (x0:=(x.la.getD q.toNat 0)) (u:=(x.d.ns.length:Int)) (k:=q.toNat) (j:=0) (n1:=1) O O X0e f Xn O O O O O4 (Xf (d:=(0:Int)) Z) O) ?_;rintro _ w9 ⟨I,H⟩;have i:=f;have b:=b.appT i H O;have g:=g.appT i H O;have o:=o.appT i H O;have E:=E.appT i H O;have D:=tsrow D H aU
 clear i H;clear f;have f:=I;clear I;refine Y1 13<|Yz O tv0 (Uev (Xd (k:=q.toNat) O O X1t X2k g aC Z Z)) ?_;refine Y1 14<|Yh O tv0 O (X0d (enc:=encB) (l:=x.hd) (vs:=[.bool false]) (x0:=(x.hd.getD q.toNat false)) (u:=false) (k:=q.toNat) (j:=0) (n1:=1) O O X2k g X0n O O O O O4 (Xf (d:=false) Z) O) ?_;rintro _ b7 ⟨I,H⟩;have i:=g;have b:=b.appT i H O;have o:=o.appT i H O;have E:=E.appT i H O;have f:=f.appT i H O;have D:=tsrow D H aV
 clear i H;clear g;have g:=I;clear I;refine Yd fun a N=>?_;refine X1u N (X2s O) ?_;exact ⟨W,a6,aY,aZ,((x.d.ns++([k])).length),D,a8,L,⟨b,o,E,f,g,O,(aB.trans List.length_set.symm),(aC.trans List.length_set.symm)⟩⟩
theorem Xjl(w0:World)(bV B0:Nat)(A0:Option Addr)(c0:Nat)(A1:Option Addr)(c1:Nat)(A2:Option Addr)(c2:Nat)(A3:Option Addr)(c3 m0 n0:Nat)(x:Br)(aJ:Drx w0 bV B0 A0 c0 A1 c1 A2 c2 A3 c3 m0 n0 x)(aK:B0<=w0.heap.size)(q:Int)(hq:0<=q/\q.toNat<n0)(aC:BrOk n0 x)(aT:x.d.ns.length<=90000000/\x.d.ws.length<=90000000)(aL:BrS x) : Ret Tryz.prog 102 [(pZ9 bV),vi q] w0 (fun v w=>∃ A c B e m,TurnS (SB bV [A0,A1,A2,A3]) w0 w/\Us (SB bV [A0,A1,A2,A3]) w0 A/\Us (SB bV [A0,A1,A2,A3]) w0 B/\Drx w bV B0 A c B e A2 c2 A3 c3 m n0 (plcB x q)):=by
 obtain ⟨f,j,h,g,i,a6,a7,a8⟩:=aJ;have aS:=f.lt
 have aD:Us (SB bV [A0,A1,A2,A3]) w0 A0:=SB.us O5
 have aE:Us (SB bV [A0,A1,A2,A3]) w0 A1:=SB.us O5
 have aM:Us (SB bV [A0,A1,A2,A3]) w0 A2:=SB.us O5
 have aN:Us (SB bV [A0,A1,A2,A3]) w0 A3:=SB.us O5
 have aU:=aC.at hq;refine enter Tryz.func102 O 33 O O ?_;intro a p
 have t:TurnS (SB bV [A0,A1,A2,A3]) w0 w0:=TurnS.refl _ _
 refine Q5 fun _ aO=>?_;refine X0p (fun a w=>Fr a 33 [(0,(pZ9 bV)),(1,vi q),(28,.bool ((((x.d.ns.getD (x.la.getD q.toNat 0).toNat nZ).k) != 3)||(x.hd.getD q.toNat false)))]/\Below w0.heap.size w0 w) ?_ ?_
 ·have C:=bz w0
  refine Xl none (fun _=>false) mixed ?_;intro w1 o;have f:=f.bw o;have j:=j.bw o;have g:=g.bw o;have i:=i.bw o;have t:=tsbel t o;have C:=btr C o;refine Yb p<|Yo 0 O (fun _=>X3 O)<|Yo 1 O (fun _=>Xw O)<|Yo 2 O (fun _=>Vd O X1l 0)<|Yo 3 O (fun _=>Vd O Xi 1)<|Ye 4 O (X0 O X0b (f.at 1))<|Yo 5 O (fun _=>X3 O)<|Yo 6 O (fun _=>Xw O)<|Yo 7 O (fun _=>Vd O X2o 5)<|Ye 8 O (X0 O X2d (f.at 5))<|Yo 9 O (fun _=>X3 O) ?_;refine Yo 10 O (fun _=>Xd (k:=q.toNat) O O Xy X0e g a7 Z Z)<|Ye 11 O (X0 O X2 (X17 g Xn (Xf (d:=(0:Int)) Z) 0 O))<|Yo 12 O (fun _=>Xd (k:=(x.la.getD q.toNat 0).toNat) O O Xp X0g j a6 Z Z)<|Yo 13 O (fun _=>X1z O X0y (m':=(x.la.getD q.toNat 0).toNat*2+0) O)<|Ye 14 O (X0 O X2 (X17 j X02 (Xf (d:=nZ) Z) 0 O))<|Yo 15 O (fun _=>X3t O O)<|Yo 16 O (fun _=>X3 O) ?_
  refine Yl 20 O (fun b=>?_) (fun b=>?_)
  ·refine Yp 17 O (gP b) ?_;refine Yp 18 O (gP b) ?_;refine Yp 19 O (gP b) ?_;refine Yp 20 O (gP b) ?_;refine Yp 21 O (gP b) ?_;refine Yp 22 O (gP b) ?_;refine Yp 23 O (gP b) ?_;refine Yo 24 O (fun _=>Xa O b O) ?_;refine Yd fun a p=>?_;exact ⟨p.sub ⟨O,O,X1 O (by first|rfl|(simp only [b,bs];done)|simp [b]),trivial⟩,C⟩
  refine Yu 17 O (gW b) (fun _=>X3 O) ?_;refine Yu 18 O (gW b) (fun _=>Xw O) ?_;refine Yu 19 O (gW b) (fun _=>Vd O X3e 6) ?_;refine Yv 20 O (gW b) (X0 O X27 (f.at 6)) ?_;refine Yu 21 O (gW b) (fun _=>X3 O) ?_;refine Yu 22 O (gW b) (fun _=>Xd (k:=q.toNat) O O X1t X2k i a8 Z Z) ?_;refine Yv 23 O (gW b) (X0 O X4d (X17 i X0n (Xf (d:=false) Z) 0 O)) ?_;refine Yo 24 O (fun _=>Xh O b O) ?_;refine Yd fun a p=>?_;exact ⟨p.sub ⟨O,O,X1 O (by first|rfl|(simp only [b,bs];done)|simp [b]),trivial⟩,C⟩
 rintro a w2 ⟨p,o⟩;have f:=f.bw o;have j:=j.bw o;have h:=h.bw o;have g:=g.bw o;have i:=i.bw o;have t:=tsbel t o;refine aO _ _ ?_
 refine Xz p O (fun aA=>?_) (fun aA=>?_)
 ·have aB:=Xxf aA;refine Zr p<|Zm O<|Zm O<|Ze (Xt (ps:=[(0,vi 3)]) (cs:=[vi 3,vi 0]) O (fun _=>by first|rfl|kernel_rfl))<|Zf (Vc (Xs9 _ bV B0 A0 c0 A1 c1 A2 c2 A3 c3 m0 n0 x ⟨f,j,h,g,i,a6,a7,a8⟩ (Q0 aK t.size) q (⟨3,0⟩ : Nd) hq aC Z aL) Xh2) ?_;rintro _ w3 ⟨A8,c8,A9,c9,m8,aF,u,z,aG,aP,aQ,E,G,aR,aH,aI⟩;have D:=SB.lift (S:=SB bV [A0,A1,A2,A3]) (w0:=w0) (.inl (.inl O)) (alc aD (alc aE (alc aM (alc aN al0))));have u:=Us.trans u D t.size;have z:=Us.trans z D t.size
  have t:=tstr t aF D;clear D
  clear aF f;have f:=aG;clear aG
  clear g;have g:=E;clear E
  clear i;have i:=G;clear G;refine Zn fun a p=>?_;refine X1u p (X2s O) ?_
  rw [aB]
  exact ⟨A8,c8,A9,c9,m8,t,u,z,⟨f,aP,aQ,g,i,aR,aH,aI⟩⟩
 have aB:=Xxd aA;refine Q7<|X1u p (X2s O) ?_
 rw [aB]
 exact ⟨A0,c0,A1,c1,m0,t,aD,aE,⟨f,j,h,g,i,a6,a7,a8⟩⟩
theorem Xg9(w0:World)(bV B0:Nat)(A0:Option Addr)(c0:Nat)(A1:Option Addr)(c1:Nat)(A2:Option Addr)(c2:Nat)(A3:Option Addr)(c3 m0 n0:Nat)(x:Br)(aC:Drx w0 bV B0 A0 c0 A1 c1 A2 c2 A3 c3 m0 n0 x)(aD:B0<=w0.heap.size)(q:Int)(f:Int)(hq:0<=q/\q.toNat<n0)(a6:BrOk n0 x)(aR:x.d.ns.length<=80000000/\x.d.ws.length<=80000000)(aE:BrS x)(aS:0<=f/\f<=900) : Ret Tryz.prog 61 [(pZ9 bV),vi q,vi f] w0 (fun v w=>∃ A c B e m,TurnS (SB bV [A0,A1,A2,A3]) w0 w/\Us (SB bV [A0,A1,A2,A3]) w0 A/\Us (SB bV [A0,A1,A2,A3]) w0 B/\Drx w bV B0 A c B e A2 c2 A3 c3 m n0 (trnB x q f)):=by
 obtain ⟨b,aF,aG,g,o,aH,aI,aJ⟩:=aC;have aQ:=b.lt
 have aK:Us (SB bV [A0,A1,A2,A3]) w0 A0:=SB.us O5
 have aL:Us (SB bV [A0,A1,A2,A3]) w0 A1:=SB.us O5
 have aM:Us (SB bV [A0,A1,A2,A3]) w0 A2:=SB.us O5
 have aN:Us (SB bV [A0,A1,A2,A3]) w0 A3:=SB.us O5
 have G:=X3h a6 q;have aT:=G.at hq;have aU:=X3f x q;have aV:=Xee G.p ((plcB x q).la.getD q.toNat 0).toNat;refine enter Tryz.func61 O 33 O O ?_;intro a hf
 have D:TurnS (SB bV [A0,A1,A2,A3]) w0 w0:=TurnS.refl _ _
 refine Zs hf fun _ aO=>?_;refine Zm O<|Zm O<|Zf (Vc (Xjl _ bV B0 A0 c0 A1 c1 A2 c2 A3 c3 m0 n0 x ⟨b,aF,aG,g,o,aH,aI,aJ⟩ (Q0 aD D.size) q hq a6 Z aE) Xc5) ?_;rintro _ w1 ⟨A6,c6,A7,c7,m6,a7,z,h,a8,i,C,H,I,aA,J,aB⟩;have E:=SB.lift (S:=SB bV [A0,A1,A2,A3]) (w0:=w0) (.inl (.inl O)) (alc aK (alc aL (alc aM (alc aN al0))));have z:=Us.trans z E D.size;have h:=Us.trans h E D.size
 have D:=tstr D a7 E;clear E
 clear a7 b;have b:=a8;clear a8
 clear g;have g:=H;clear H
 clear o;have o:=I;clear I;refine ZX aO fun a hf _ aP=>?_;refine Xl none (fun _=>false) mixed ?_;intro w2 hE;have b:=b.bw hE;have g:=g.bw hE;have o:=o.bw hE;have i:=i.bw hE;have C:=C.bw hE;have D:=tsbel D hE;refine Yb hf<|Yo 0 O (fun _=>X3 O)<|Yo 1 O (fun _=>Xw O)<|Yo 2 O (fun _=>Vd O X1l 0)<|Yo 3 O (fun _=>Vd O Xi 1)<|Ye 4 O (X0 O X0b (b.at 1))<|Yo 5 O (fun _=>X3 O)<|Yo 6 O (fun _=>Xw O)<|Yo 7 O (fun _=>Vd O X2o 5)<|Ye 8 O (X0 O X2d (b.at 5))<|Yo 9 O (fun _=>X3 O) ?_;refine Yo 10 O (fun _=>Xd (k:=q.toNat) O O Xy X0e g J Z Z)<|Ye 11 O (X0 O X2 (X17 g Xn (Xf (d:=(0:Int)) Z) 0 O))<|Yo 12 O (fun _=>Xd (k:=((plcB x q).la.getD q.toNat 0).toNat) O O Xp X0g i aA Z Z)<|Yo 13 O (fun _=>X19 O) ?_;refine Yd fun a hf=>?_;refine aP _ _<|Zr hf<|Zm O<|Zm O<|Ze (Xw O)<|Ze (X1z O X0x (m':=((plcB x q).la.getD q.toNat 0).toNat*2+1) O)<|Ze (X0 O X2 (X17 i X02 (Xf (d:=nZ) Z) 1 O))<|Zm O<|Ze (Xr O O Z Z)<|Ze (Vx (X4n O O O) (tm8 Z))<|Ze (Xw O)<|Ze (X1z O X0x (m':=((plcB x q).la.getD q.toNat 0).toNat*2+1) O) ?_;refine Zo (X0d (enc:=encNd) (l:=(plcB x q).d.ns) (vs:=[vi ((((plcB x q).d.ns.getD ((plcB x q).la.getD q.toNat 0).toNat nZ).p+f) % 8)]) (x0:=((plcB x q).d.ns.getD ((plcB x q).la.getD q.toNat 0).toNat nZ)) (u:=(⟨((plcB x q).d.ns.getD ((plcB x q).la.getD q.toNat 0).toNat nZ).k,((((plcB x q).d.ns.getD ((plcB x q).la.getD q.toNat 0).toNat nZ).p+f) % 8)⟩ : Nd)) (k:=((plcB x q).la.getD q.toNat 0).toNat) (j:=1) (n1:=1) O O X0e i X02 O O O O O4 (Xf (d:=nZ) Z) O) ?_;rintro _ w3 ⟨L,hg⟩
 have t:=i;have b:=b.appT t hg O;have g:=g.appT t hg O;have o:=o.appT t hg O;have C:=C.appT t hg O;have D:=tsrow D hg z
 clear t hg;clear i;have i:=L;clear L;refine Zn fun a hf=>?_;refine X1u hf (X2s O) ?_;exact ⟨A6,c6,A7,c7,m6,D,z,h,⟨b,i,C,g,o,(aA.trans List.length_set.symm),J,aB⟩⟩
theorem Xse(w0:World)(bV B0:Nat)(A0:Option Addr)(c0:Nat)(A1:Option Addr)(c1:Nat)(A2:Option Addr)(c2:Nat)(A3:Option Addr)(c3 m0 J:Nat)(x:Br)(b1:Drx w0 bV B0 A0 c0 A1 c1 A2 c2 A3 c3 m0 J x)(aA:B0<=w0.heap.size)(p:Int)(q:Int)(hp:0<=p/\p.toNat<J)(hq:0<=q/\q.toNat<J)(bP:p≠q)(aE:BrOk J x)(bQ:x.d.ns.length<=80000000/\x.d.ws.length<=80000000)(aK:BrS x) : Ret Tryz.prog 62 [(pZ9 bV),vi p,vi q] w0 (fun v w=>∃ A c B e m,TurnS (SB bV [A0,A1,A2,A3]) w0 w/\Us (SB bV [A0,A1,A2,A3]) w0 A/\Us (SB bV [A0,A1,A2,A3]) w0 B/\Drx w bV B0 A c B e A2 c2 A3 c3 m J (czB x p q)):=by
 obtain ⟨b,b2,b3,f,i,b4,b5,b6⟩:=b1;have bK:=b.lt
 have b7:Us (SB bV [A0,A1,A2,A3]) w0 A0:=SB.us O5
 have b8:Us (SB bV [A0,A1,A2,A3]) w0 A1:=SB.us O5
 have aL:Us (SB bV [A0,A1,A2,A3]) w0 A2:=SB.us O5
 have aM:Us (SB bV [A0,A1,A2,A3]) w0 A3:=SB.us O5
 have U:=X3h aE p;have bL:=X3f x p;have bM:=X3h U q;have bN:=X3f (plcB x p) q;have aN:=Xef aE aK hp;have b9:=Xef U aN hq;have bO:=Xgt (plcB (plcB x p) q).d.ws ((plcB x p).la.getD p.toNat 0) ((plcB (plcB x p) q).la.getD q.toNat 0)
 have aO:(plcB (plcB x p) q).la.getD p.toNat 0=((plcB x p).la.getD p.toNat 0):=Xfp Z
 refine enter Tryz.func62 O 66 O O ?_;intro a G
 have h:TurnS (SB bV [A0,A1,A2,A3]) w0 w0:=TurnS.refl _ _
 refine Zs G fun _ bC=>?_;refine Zm O<|Zm O<|Zf (Vc (Xjl _ bV B0 A0 c0 A1 c1 A2 c2 A3 c3 m0 J x ⟨b,b2,b3,f,i,b4,b5,b6⟩ (Q0 aA h.size) p hp aE Z aK) Xc5) ?_;rintro _ w1 ⟨A6,c6,A7,c7,m6,z,W,a6,C,bD,bE,o,H,bF,aP,aQ⟩;have u:=SB.lift (S:=SB bV [A0,A1,A2,A3]) (w0:=w0) (.inl (.inl O)) (alc b7 (alc b8 (alc aL (alc aM al0))));have W:=Us.trans W u h.size;have a6:=Us.trans a6 u h.size
 have h:=tstr h z u;clear u
 clear z b;have b:=C;clear C
 clear f;have f:=o;clear o
 clear i;have i:=H;clear H;refine Zx bC fun a G _ bG=>?_;refine Zm O<|Zm O<|Zf (Vc (Xjl _ bV B0 A6 c6 A7 c7 A2 c2 A3 c3 m6 J (plcB x p) ⟨b,bD,bE,f,i,bF,aP,aQ⟩ (Q0 aA h.size) q hq U Z aN) Xc5) ?_;rintro _ w2 ⟨A9,c9,aB,aC,m9,z,D,E,C,g,j,o,H,aF,N,aD⟩;have u:=SB.lift (S:=SB bV [A0,A1,A2,A3]) (w0:=w0) (.inl (.inl O)) (alc W (alc a6 (alc aL (alc aM al0))));have D:=Us.trans D u h.size;have E:=Us.trans E u h.size
 have h:=tstr h z u;clear u
 clear z b;have b:=C;clear C
 clear f;have f:=o;clear o
 clear i;have i:=H;clear H;refine ZX bG fun a G _ aR=>?_;refine Xl none (fun _=>false) mixed ?_;intro w3 Q;have b:=b.bw Q;have f:=f.bw Q;have i:=i.bw Q;have g:=g.bw Q;have j:=j.bw Q;have h:=tsbel h Q;refine Yb G<|Yo 0 O (fun _=>X3 O)<|Yo 1 O (fun _=>Xw O)<|Yo 2 O (fun _=>Vd O X2o 5)<|Ye 3 O (X0 O X2d (b.at 5))<|Yo 4 O (fun _=>X3 O)<|Yo 5 O (fun _=>Xd (k:=p.toNat) O O Xy X0e f N Z Z)<|Ye 6 O (X0 O X2 (X17 f Xn (by have h9:=Xf (l:=(plcB (plcB x p) q).la) (k:=p.toNat) (d:=(0:Int)) Z;rw [aO] at h9;exact h9) 0 O))<|Yo 7 O (fun _=>X3 O)<|Yo 8 O (fun _=>Xw O)<|Yo 9 O (fun _=>Vd O X2o 5) ?_;refine Ye 10 O (X0 O X2d (b.at 5))<|Yo 11 O (fun _=>X3 O)<|Yo 12 O (fun _=>Xd (k:=q.toNat) O O Xy X0e f N Z Z)<|Ye 13 O (X0 O X2 (X17 f Xn (Xf (d:=(0:Int)) Z) 0 O))<|Yo 14 O (fun _=>X19 O)<|Yo 15 O (fun _=>X19 O) ?_;refine Yd fun a G=>?_;refine aR _ _<|Q5 fun _ aS=>?_;refine Zs G fun _ aT=>?_;refine Zm O<|Ze (Xw O)<|Ze (Vd O X1l 0)<|Ze (X09 (l:=[vi ((plcB (plcB x p) q).d.n),.slice A9 m9 c9,.slice aB ((plcB (plcB x p) q).d.ws).length aC,vi ((plcB (plcB x p) q).d.t),vi ((plcB (plcB x p) q).d.r)]) O Xm ((b.at 0).take 5) O)<|Zm O<|Zm O<|Zf (Vc (Xsg _ ((plcB (plcB x p) q).d) m9 aF A9 c9 g.rd.top aB aC j.rd.top j.cap ((plcB x p).la.getD p.toNat 0) ((plcB (plcB x p) q).la.getD q.toNat 0) Z) Xha) ?_;rintro _ w4 ⟨rfl,Q⟩;have b:=b.bw Q;have f:=f.bw Q;have i:=i.bw Q;have g:=g.bw Q
 have j:=j.bw Q;have h:=tsbel h Q;refine Ze (X8s O O)<|Zt aT fun a G=>?_
 refine X0z G O (fun aG I=>?_) (fun aG I=>?_)
 ·have aH:=Xor I
  have bH:ctO (plcB (plcB x p) q).d.ws ((plcB x p).la.getD p.toNat 0) ((plcB (plcB x p) q).la.getD q.toNat 0)=ctW (plcB (plcB x p) q).d.ws (fdW (plcB (plcB x p) q).d.ws ((plcB x p).la.getD p.toNat 0) ((plcB (plcB x p) q).la.getD q.toNat 0)).toNat:=Xt1 I
  refine Zs G fun _ aU=>?_;refine Zm O<|Ze (Xw O)<|Ze (Vd O X1l 0)<|Zm O<|Zm O<|Zf (X2b (vs:=[(pZ9 bV),vi ((plcB x p).la.getD p.toNat 0),vi ((plcB (plcB x p) q).la.getD q.toNat 0)]) O Xqi (Y04 _ bV B0 A9 c9 aB aC (.slice A2 J c2) (.slice A3 J c3) m9 ((plcB (plcB x p) q).d) ⟨b,g,j,aF⟩ (Q0 aA h.size) ((plcB x p).la.getD p.toNat 0) ((plcB (plcB x p) q).la.getD q.toNat 0) Z)) ?_;rintro _ w5 ⟨aV,aW,z,L,C,o,a7,aI⟩;have f:=f.tu z b O (alc (X5p g O) (alc (X5p j O) al0));have i:=i.tu z b O (alc (X5p g O) (alc (X5p j O) al0));have u:=SB.lift (S:=SB bV [A0,A1,A2,A3]) (w0:=w0) (.inl (.inl O)) (alc D (alc E al0));have L:=Us.trans L u h.size
  have h:=tstr h z u;clear u
  clear z b;have b:=C;clear C
  clear g;have g:=o;clear o;refine Zx aU fun a G _ aX=>?_;refine Zm O<|Ze (Xw O)<|Ze (Vd O X1l 0)<|Ze (Vd O X1f 4)<|Ze (X0 O X2 (b.at 4))<|Ze (X5u O O)<|Ze (Xw O)<|Ze (Vd O X1l 0)<|Ze (Vd O X1f 4)<|Zo (X1m (vs:=[vi (wr ((({ ((plcB (plcB x p) q).d) with ws:=ctO ((plcB (plcB x p) q).d).ws ((plcB x p).la.getD p.toNat 0) ((plcB (plcB x p) q).la.getD q.toNat 0) } : Dg).r)-1))]) (l':=[vi (({ ((plcB (plcB x p) q).d) with ws:=ctO ((plcB (plcB x p) q).d).ws ((plcB x p).la.getD p.toNat 0) ((plcB (plcB x p) q).la.getD q.toNat 0) } : Dg).n),.slice A9 m9 c9,.slice aV (({ ((plcB (plcB x p) q).d) with ws:=ctO ((plcB (plcB x p) q).d).ws ((plcB x p).la.getD p.toNat 0) ((plcB (plcB x p) q).la.getD q.toNat 0) } : Dg).ws).length aW,vi (({ ((plcB (plcB x p) q).d) with ws:=ctO ((plcB (plcB x p) q).d).ws ((plcB x p).la.getD p.toNat 0) ((plcB (plcB x p) q).la.getD q.toNat 0) } : Dg).t),vi (wr ((({ ((plcB (plcB x p) q).d) with ws:=ctO ((plcB (plcB x p) q).d).ws ((plcB x p).la.getD p.toNat 0) ((plcB (plcB x p) q).la.getD q.toNat 0) } : Dg).r)-1)),.slice A2 J c2,.slice A3 J c3]) O O X0e b O O O O O) ?_;rintro _ w6 ⟨ho,hb⟩;have f:=f.oT ho b O;have i:=i.oT ho b O;have g:=g.oT ho b O;have a7:=a7.oT ho b O;have h:=tsonly h ho (.inl (.inl O));have b:=hb;refine Zt aX fun a G=>?_;refine Q6<|X7<|X4 G (X2s O) ?_
  rw [aH,<- bH]
  exact ⟨A9,c9,aV,aW,m9,h,D,L,⟨b,g,a7,f,i,aI,N,aD⟩⟩
 have aH:=Xoq I
 have bJ:decide (0<=(fdW (plcB (plcB x p) q).d.ws ((plcB x p).la.getD p.toNat 0) ((plcB (plcB x p) q).la.getD q.toNat 0)))=false:=decide_eq_false I
 refine Q7<|aS _ _<|Zs G fun _ aY=>?_;refine Zm O<|Ze (Xw O)<|Ze (Vd O X1l 0)<|Zm O<|Zm O<|Zf (X2b (vs:=[(pZ9 bV),vi ((plcB x p).la.getD p.toNat 0),vi ((plcB (plcB x p) q).la.getD q.toNat 0),.bool true]) O Xh5 (Xsj _ bV B0 A9 c9 aB aC (.slice A2 J c2) (.slice A3 J c3) m9 ((plcB (plcB x p) q).d) ⟨b,g,j,aF⟩ (Q0 aA h.size) ((plcB x p).la.getD p.toNat 0) ((plcB (plcB x p) q).la.getD q.toNat 0) true b9.1 (by have:=Q1 bJ;omega) Z)) ?_;rintro _ w7 ⟨aZ,b0,z,M,C,o,a8,aJ⟩;have f:=f.tu z b O (alc (X5p g O) (alc (X5p j O) al0));have i:=i.tu z b O (alc (X5p g O) (alc (X5p j O) al0));have u:=SB.lift (S:=SB bV [A0,A1,A2,A3]) (w0:=w0) (.inl (.inl O)) (alc D (alc E al0));have M:=Us.trans M u h.size
 have h:=tstr h z u;clear u
 clear z b;have b:=C;clear C
 clear g;have g:=o;clear o;refine Zt aY fun a G=>?_;refine Zr G<|Zm O<|Ze (Xw O)<|Ze (Vd O X1l 0)<|Ze (Vd O X1f 4)<|Ze (X0 O X2 (b.at 4))<|Ze (X3s O O)<|Ze (Xw O)<|Ze (Vd O X1l 0)<|Ze (Vd O X1f 4)<|Zo (X1m (vs:=[vi (wr ((({ ((plcB (plcB x p) q).d) with ws:=jnW ((plcB (plcB x p) q).d).ws ((plcB x p).la.getD p.toNat 0) ((plcB (plcB x p) q).la.getD q.toNat 0) true } : Dg).r)+1))]) (l':=[vi (({ ((plcB (plcB x p) q).d) with ws:=jnW ((plcB (plcB x p) q).d).ws ((plcB x p).la.getD p.toNat 0) ((plcB (plcB x p) q).la.getD q.toNat 0) true } : Dg).n),.slice A9 m9 c9,.slice aZ (({ ((plcB (plcB x p) q).d) with ws:=jnW ((plcB (plcB x p) q).d).ws ((plcB x p).la.getD p.toNat 0) ((plcB (plcB x p) q).la.getD q.toNat 0) true } : Dg).ws).length b0,vi (({ ((plcB (plcB x p) q).d) with ws:=jnW ((plcB (plcB x p) q).d).ws ((plcB x p).la.getD p.toNat 0) ((plcB (plcB x p) q).la.getD q.toNat 0) true } : Dg).t),vi (wr ((({ ((plcB (plcB x p) q).d) with ws:=jnW ((plcB (plcB x p) q).d).ws ((plcB x p).la.getD p.toNat 0) ((plcB (plcB x p) q).la.getD q.toNat 0) true } : Dg).r)+1)),.slice A2 J c2,.slice A3 J c3]) O O X0e b O O O O O) ?_;rintro _ w8 ⟨ho,hb⟩;have f:=f.oT ho b O;have i:=i.oT ho b O;have g:=g.oT ho b O;have a8:=a8.oT ho b O;have h:=tsonly h ho (.inl (.inl O));have b:=hb;refine Zn fun a G=>?_;refine X1u G (X2s O) ?_
 rw [aH]
 exact ⟨A9,c9,aZ,b0,m9,h,D,M,⟨b,g,a8,f,i,aJ,N,aD⟩⟩
theorem Xz4(w0:World)(bV B0:Nat)(A0:Option Addr)(c0:Nat)(A1:Option Addr)(c1:Nat)(A2:Option Addr)(c2:Nat)(A3:Option Addr)(c3 m0 n0:Nat)(x:Br)(eZ:Drx w0 bV B0 A0 c0 A1 c1 A2 c2 A3 c3 m0 n0 x)(a6:B0<=w0.heap.size)(g:Gt)(aB:BrOk n0 x)(iF:x.d.ns.length<=70000000/\x.d.ws.length<=70000000)(b8:BrS x)(M:gOk (n0:Int) g=true)(ht:0<=x.d.t/\x.d.t<=7) : Ret Tryz.prog 24 [(pZ9 bV),.agg #[vi g.k,vi g.a,vi g.b]] w0 (fun v w=>∃ A c B e m,TurnS (SB bV [A0,A1,A2,A3]) w0 w/\Us (SB bV [A0,A1,A2,A3]) w0 A/\Us (SB bV [A0,A1,A2,A3]) w0 B/\Drx w bV B0 A c B e A2 c2 A3 c3 m n0 (g8B x g)):=by
 obtain ⟨i,G,H,o,p,aC,a7,a8⟩:=eZ;have iB:=i.lt
 have aD:Us (SB bV [A0,A1,A2,A3]) w0 A0:=SB.us O5
 have aE:Us (SB bV [A0,A1,A2,A3]) w0 A1:=SB.us O5
 have N:Us (SB bV [A0,A1,A2,A3]) w0 A2:=SB.us O5
 have Q:Us (SB bV [A0,A1,A2,A3]) w0 A3:=SB.us O5
 have aA:=X5x M;have bK:=X5o M;have dB:=X2i M
 have b9:x.d.ns.length<=80000000/\x.d.ws.length<=80000000:=by omega
 have o1:=X4f aB g.a 4
 have l1:=X5m x g.a 4
 have s1:=Xba aB b8 aA 4
 have iC:=aB.la;have iD:=aB.hd;refine enter Tryz.func24 O 161 O O ?_;intro a L
 have D:TurnS (SB bV [A0,A1,A2,A3]) w0 w0:=TurnS.refl _ _
 refine Zs L fun _ f0=>?_;refine Zf (X0u (zs:=[vi g.k,vi g.a,vi g.b]) O O) ?_;rintro _ w1 ⟨b6,rfl,f4,W,f⟩;have iE:=Q0 D.size f4;have i:=i.bw W;have G:=G.bw W;have H:=H.bw W;have o:=o.bw W;have p:=p.bw W;have D:=tsbel D W;refine Zx f0 fun a L _ f5=>?_;refine Ze (Vd O X25 0)<|Ze (X0 O X2 (f.at 0))<|Zt f5 fun a L=>?_;refine Q8<|Zs L fun _ f7=>?_;refine Ze (X0f O O)<|Za O<|Zt f7 fun a L=>?_
 refine Xz L O (fun cC=>?_) (fun cC=>?_)
 ·have U:=Xr2 (x:=x) cC;refine Zr L<|Zm O<|Ze (Vd O Xs 1)<|Ze (X0 O X2 (f.at 1))<|Zf (Vc (X9d _ bV B0 A0 c0 A1 c1 A2 c2 A3 c3 m0 n0 x ⟨i,G,H,o,p,aC,a7,a8⟩ (Q0 a6 D.size) g.a aA) X5f) ?_;rintro _ w2 ⟨f8,f9,fA,fB,fC,E,aF,aG,I,dC,dD,h,C,dE,cD,cE⟩;have f:=f.tu E i O (alc (nrow G f O) (alc (nrow H f O) (alc (nrow o f O) (alc (nrow p f O) al0))));have z:=SB.lift (S:=SB bV [A0,A1,A2,A3]) (w0:=w0) (.inl (.inl O)) (alc aD (alc aE (alc N (alc Q al0))));have aF:=Us.trans aF z D.size;have aG:=Us.trans aG z D.size
  have D:=tstr D E z;clear z
  clear E i;have i:=I;clear I
  clear o;have o:=h;clear h
  clear p;have p:=C;clear C;refine Zn fun a L=>?_;refine X6<|X1u L (X2s O) ?_
  rw [Xiz ht U rfl]
  exact ⟨f8,f9,fA,fB,fC,D,aF,aG,⟨i,dC,dD,o,p,dE,cD,cE⟩⟩
 have g1:=cC
 refine Zs L fun _ dF=>?_;refine Ze (X0f O O)<|Za O<|Zt dF fun a L=>?_
 refine Xz L O (fun bC=>?_) (fun bC=>?_)
 ·have U:=Xr3 (x:=x) g1 bC;refine Zs L fun _ dG=>?_;refine Zm O<|Ze (Vd O Xs 1)<|Ze (X0 O X2 (f.at 1))<|Zf (Vc (X9d _ bV B0 A0 c0 A1 c1 A2 c2 A3 c3 m0 n0 x ⟨i,G,H,o,p,aC,a7,a8⟩ (Q0 a6 D.size) g.a aA) X5f) ?_;rintro _ w3 ⟨fE,fF,fG,fH,fI,E,aH,aI,I,bM,bN,h,C,dH,cG,cH⟩;have f:=f.tu E i O (alc (nrow G f O) (alc (nrow H f O) (alc (nrow o f O) (alc (nrow p f O) al0))));have z:=SB.lift (S:=SB bV [A0,A1,A2,A3]) (w0:=w0) (.inl (.inl O)) (alc aD (alc aE (alc N (alc Q al0))));have aH:=Us.trans aH z D.size;have aI:=Us.trans aI z D.size
  have D:=tstr D E z;clear z
  clear E i;have i:=I;clear I
  clear o;have o:=h;clear h
  clear p;have p:=C;clear C;refine Zx dG fun a L _ dI=>?_;refine Zm O<|Ze (Vd O Xs 1)<|Ze (X0 O X2 (f.at 1))<|Zf (Vc (Xg9 _ bV B0 fE fF fG fH A2 c2 A3 c3 fI n0 (flpB x g.a) ⟨i,bM,bN,o,p,dH,cG,cH⟩ (Q0 a6 D.size) g.a 4 aA (X20 aB g.a) b9 b8 ⟨by decide,by decide⟩) X93) ?_;rintro _ w4 ⟨fJ,fK,fL,fM,fN,E,aJ,aK,I,bO,bP,h,C,dJ,cI,cJ⟩;have f:=f.tu E i O (alc (nrow bM f O) (alc (nrow bN f O) (alc (nrow o f O) (alc (nrow p f O) al0))));have z:=SB.lift (S:=SB bV [A0,A1,A2,A3]) (w0:=w0) (.inl (.inl O)) (alc aH (alc aI (alc N (alc Q al0))));have aJ:=Us.trans aJ z D.size;have aK:=Us.trans aK z D.size
  have D:=tstr D E z;clear z
  clear E i;have i:=I;clear I
  clear o;have o:=h;clear h
  clear p;have p:=C;clear C;refine Zt dI fun a L=>?_;refine Zr L<|Zm O<|Ze (Vd O Xs 1)<|Ze (X0 O X2 (f.at 1))<|Zf (Vc (X9d _ bV B0 fJ fK fL fM A2 c2 A3 c3 fN n0 (trnB (flpB x g.a) g.a 4) ⟨i,bO,bP,o,p,dJ,cI,cJ⟩ (Q0 a6 D.size) g.a aA) X5f) ?_;rintro _ w5 ⟨fO,fP,fQ,fR,fS,E,aL,aM,I,dK,dL,h,C,dM,cK,cL⟩;have f:=f.tu E i O (alc (nrow bO f O) (alc (nrow bP f O) (alc (nrow o f O) (alc (nrow p f O) al0))));have z:=SB.lift (S:=SB bV [A0,A1,A2,A3]) (w0:=w0) (.inl (.inl O)) (alc aJ (alc aK (alc N (alc Q al0))));have aL:=Us.trans aL z D.size;have aM:=Us.trans aM z D.size
  have D:=tstr D E z;clear z
  clear E i;have i:=I;clear I
  clear o;have o:=h;clear h
  clear p;have p:=C;clear C;refine Zn fun a L=>?_;refine X6<|X1u L (X2s O) ?_
  rw [Xiz ht U (X52 (flpB x g.a) g.a 4)]
  exact ⟨fO,fP,fQ,fR,fS,D,aL,aM,⟨i,dK,dL,o,p,dM,cK,cL⟩⟩
 have g2:=bC
 refine Zs L fun _ dN=>?_;refine Ze (X0f O O)<|Za O<|Zt dN fun a L=>?_
 refine Xz L O (fun bD=>?_) (fun bD=>?_)
 ·have U:=Xr4 (x:=x) g1 g2 bD;refine Zs L fun _ dO=>?_;refine Zm O<|Ze (Vd O Xs 1)<|Ze (X0 O X2 (f.at 1))<|Zf (Vc (Xg9 _ bV B0 A0 c0 A1 c1 A2 c2 A3 c3 m0 n0 x ⟨i,G,H,o,p,aC,a7,a8⟩ (Q0 a6 D.size) g.a 4 aA aB b9 b8 ⟨by decide,by decide⟩) X93) ?_;rintro _ w6 ⟨fT,fU,fV,fW,fX,E,aN,aO,I,bQ,bR,h,C,dP,cM,cN⟩;have f:=f.tu E i O (alc (nrow G f O) (alc (nrow H f O) (alc (nrow o f O) (alc (nrow p f O) al0))));have z:=SB.lift (S:=SB bV [A0,A1,A2,A3]) (w0:=w0) (.inl (.inl O)) (alc aD (alc aE (alc N (alc Q al0))));have aN:=Us.trans aN z D.size;have aO:=Us.trans aO z D.size
  have D:=tstr D E z;clear z
  clear E i;have i:=I;clear I
  clear o;have o:=h;clear h
  clear p;have p:=C;clear C;refine Zx dO fun a L _ dQ=>?_;refine Zm O<|Ze (Vd O Xs 1)<|Ze (X0 O X2 (f.at 1))<|Zf (Vc (X9d _ bV B0 fT fU fV fW A2 c2 A3 c3 fX n0 (trnB x g.a 4) ⟨i,bQ,bR,o,p,dP,cM,cN⟩ (Q0 a6 D.size) g.a aA) X5f) ?_;rintro _ w7 ⟨fY,fZ,g5,g6,g7,E,aP,aQ,I,bS,bU,h,C,dR,cO,cP⟩;have f:=f.tu E i O (alc (nrow bQ f O) (alc (nrow bR f O) (alc (nrow o f O) (alc (nrow p f O) al0))));have z:=SB.lift (S:=SB bV [A0,A1,A2,A3]) (w0:=w0) (.inl (.inl O)) (alc aN (alc aO (alc N (alc Q al0))));have aP:=Us.trans aP z D.size;have aQ:=Us.trans aQ z D.size
  have D:=tstr D E z;clear z
  clear E i;have i:=I;clear I
  clear o;have o:=h;clear h
  clear p;have p:=C;clear C;refine Zx dQ fun a L _ dS=>?_;refine Zm O<|Ze (Vd O Xs 1)<|Ze (X0 O X2 (f.at 1))<|Zf (Vc (Xg9 _ bV B0 fY fZ g5 g6 A2 c2 A3 c3 g7 n0 (flpB (trnB x g.a 4) g.a) ⟨i,bS,bU,o,p,dR,cO,cP⟩ (Q0 a6 D.size) g.a 4 aA (X20 o1 g.a) (show (trnB x g.a 4).d.ns.length<=_/\(trnB x g.a 4).d.ws.length<=_ by omega) s1 ⟨by decide,by decide⟩) X93) ?_;rintro _ w8 ⟨g8,gA,gC,gD,gE,E,aR,aS,I,bW,bX,h,C,dT,cQ,cR⟩;have f:=f.tu E i O (alc (nrow bS f O) (alc (nrow bU f O) (alc (nrow o f O) (alc (nrow p f O) al0))));have z:=SB.lift (S:=SB bV [A0,A1,A2,A3]) (w0:=w0) (.inl (.inl O)) (alc aP (alc aQ (alc N (alc Q al0))));have aR:=Us.trans aR z D.size;have aS:=Us.trans aS z D.size
  have D:=tstr D E z;clear z
  clear E i;have i:=I;clear I
  clear o;have o:=h;clear h
  clear p;have p:=C;clear C;refine Zx dS fun a L _ dU=>?_;refine Zm O<|Ze (Vd O Xs 1)<|Ze (X0 O X2 (f.at 1))<|Zf (Vc (X9d _ bV B0 g8 gA gC gD A2 c2 A3 c3 gE n0 (trnB (flpB (trnB x g.a 4) g.a) g.a 4) ⟨i,bW,bX,o,p,dT,cQ,cR⟩ (Q0 a6 D.size) g.a aA) X5f) ?_;rintro _ w9 ⟨dW,dX,dY,eA,eB,E,aT,aU,I,bE,bF,h,C,eC,cS,cT⟩;have f:=f.tu E i O (alc (nrow bW f O) (alc (nrow bX f O) (alc (nrow o f O) (alc (nrow p f O) al0))));have z:=SB.lift (S:=SB bV [A0,A1,A2,A3]) (w0:=w0) (.inl (.inl O)) (alc aR (alc aS (alc N (alc Q al0))));have aT:=Us.trans aT z D.size;have aU:=Us.trans aU z D.size
  have D:=tstr D E z;clear z
  clear E i;have i:=I;clear I
  clear o;have o:=h;clear h
  clear p;have p:=C;clear C;refine Zt dU fun a L=>?_;refine Zr L<|Zm O<|Zm O<|Ze (Xw O)<|Ze (Vd O X1l 0)<|Ze (Vd O X0w 3)<|Ze (X0 O X2 (i.at 3))<|Ze (X3s O O)<|Ze (X4n O O O)<|Ze (Xw O)<|Ze (Vd O X1l 0) ?_;refine Ze (Vd O X0w 3)<|Zo (X1m (vs:=[vi ((wr (((flpB (trnB (flpB (trnB x g.a 4) g.a) g.a 4) g.a).d.t)+2)).tmod 8)]) (l':=[vi ((flpB (trnB (flpB (trnB x g.a 4) g.a) g.a 4) g.a).d.n),.slice dW eB dX,.slice dY ((flpB (trnB (flpB (trnB x g.a 4) g.a) g.a 4) g.a).d.ws).length eA,vi ((wr (((flpB (trnB (flpB (trnB x g.a 4) g.a) g.a 4) g.a).d.t)+2)).tmod 8),vi ((flpB (trnB (flpB (trnB x g.a 4) g.a) g.a 4) g.a).d.r),.slice A2 n0 c2,.slice A3 n0 c3]) O O X0e i O O O O O) ?_;rintro _ iG ⟨ho,hb⟩;have o:=o.oT ho i O;have p:=p.oT ho i O;have bE:=bE.oT ho i O;have bF:=bF.oT ho i O;have D:=tsonly D ho (.inl (.inl O));have i:=hb;refine Zn fun a L=>?_;refine X6<|X1u L (X2s O) ?_
  rw [show g8B x g=reB (tnB (yyB x g.a) 2) from by unfold g8B;rw [U]]
  exact ⟨dW,dX,dY,eA,eB,D,aT,aU,⟨i,bE,bF,o,p,eC,cS,cT⟩⟩
 have g3:=bD
 refine Zs L fun _ eD=>?_;refine Ze (X0f O O)<|Za O<|Zt eD fun a L=>?_
 refine Xz L O (fun b5=>?_) (fun b5=>?_)
 ·have U:=Xr5 (x:=x) g1 g2 g3 b5
  have bG:g.a≠g.b:=by have h9:=b5;simp at h9;exact (dB.2.2.2 Z).2.2
  refine Zs L fun _ eE=>?_;refine Zm O<|Ze (Vd O X0h 2)<|Ze (X0 O X2 (f.at 2))<|Zf (Vc (X9d _ bV B0 A0 c0 A1 c1 A2 c2 A3 c3 m0 n0 x ⟨i,G,H,o,p,aC,a7,a8⟩ (Q0 a6 D.size) g.b bK) X5f) ?_;rintro _ iH ⟨gF,gG,gH,gI,gJ,E,aV,aW,I,bY,bZ,h,C,eF,cU,cV⟩;have f:=f.tu E i O (alc (nrow G f O) (alc (nrow H f O) (alc (nrow o f O) (alc (nrow p f O) al0))));have z:=SB.lift (S:=SB bV [A0,A1,A2,A3]) (w0:=w0) (.inl (.inl O)) (alc aD (alc aE (alc N (alc Q al0))));have aV:=Us.trans aV z D.size;have aW:=Us.trans aW z D.size
  have D:=tstr D E z;clear z
  clear E i;have i:=I;clear I
  clear o;have o:=h;clear h
  clear p;have p:=C;clear C;refine Zx eE fun a L _ eG=>?_;refine Zm O<|Ze (Vd O Xs 1)<|Ze (X0 O X2 (f.at 1))<|Ze (Vd O X0h 2)<|Ze (X0 O X2 (f.at 2))<|Zf (Vc (Xse _ bV B0 gF gG gH gI A2 c2 A3 c3 gJ n0 (flpB x g.b) ⟨i,bY,bZ,o,p,eF,cU,cV⟩ (Q0 a6 D.size) g.a g.b aA bK bG (X20 aB g.b) b9 b8) Xh8) ?_;rintro _ iI ⟨gK,gL,gM,gN,gO,E,aX,aY,I,cA,cB,h,C,eH,cW,cX⟩;have f:=f.tu E i O (alc (nrow bY f O) (alc (nrow bZ f O) (alc (nrow o f O) (alc (nrow p f O) al0))));have z:=SB.lift (S:=SB bV [A0,A1,A2,A3]) (w0:=w0) (.inl (.inl O)) (alc aV (alc aW (alc N (alc Q al0))));have aX:=Us.trans aX z D.size;have aY:=Us.trans aY z D.size
  have D:=tstr D E z;clear z
  clear E i;have i:=I;clear I
  clear o;have o:=h;clear h
  clear p;have p:=C;clear C;refine Zt eG fun a L=>?_;refine Zr L<|Zm O<|Ze (Vd O X0h 2)<|Ze (X0 O X2 (f.at 2))<|Zf (Vc (X9d _ bV B0 gK gL gM gN A2 c2 A3 c3 gO n0 (czB (flpB x g.b) g.a g.b) ⟨i,cA,cB,o,p,eH,cW,cX⟩ (Q0 a6 D.size) g.b bK) X5f) ?_;rintro _ iJ ⟨gQ,gR,gS,gT,gU,E,aZ,b0,I,eI,eJ,h,C,eK,cY,cZ⟩;have f:=f.tu E i O (alc (nrow cA f O) (alc (nrow cB f O) (alc (nrow o f O) (alc (nrow p f O) al0))));have z:=SB.lift (S:=SB bV [A0,A1,A2,A3]) (w0:=w0) (.inl (.inl O)) (alc aX (alc aY (alc N (alc Q al0))));have aZ:=Us.trans aZ z D.size;have b0:=Us.trans b0 z D.size
  have D:=tstr D E z;clear z
  clear E i;have i:=I;clear I
  clear o;have o:=h;clear h
  clear p;have p:=C;clear C;refine Zn fun a L=>?_;refine X6<|X1u L (X2s O) ?_
  rw [Xiz ht U (Xar (flpB x g.b) g.a g.b)]
  exact ⟨gQ,gR,gS,gT,gU,D,aZ,b0,⟨i,eI,eJ,o,p,eK,cY,cZ⟩⟩
 have g9:=b5
 refine Zs L fun _ eL=>?_;refine Ze (X0f O O)<|Za O<|Zt eL fun a L=>?_
 refine Xz L O (fun b7=>?_) (fun b7=>?_)
 ·have U:=Xhf (x:=x) g1 g2 g3 g9 b7
  have bG:g.a≠g.b:=by have h9:=b7;simp at h9;exact (dB.2.2.2 Z).2.2
  refine Zr L<|Zm O<|Ze (Vd O Xs 1)<|Ze (X0 O X2 (f.at 1))<|Ze (Vd O X0h 2)<|Ze (X0 O X2 (f.at 2))<|Zf (Vc (Xse _ bV B0 A0 c0 A1 c1 A2 c2 A3 c3 m0 n0 x ⟨i,G,H,o,p,aC,a7,a8⟩ (Q0 a6 D.size) g.a g.b aA bK bG aB b9 b8) Xh8) ?_;rintro _ iK ⟨gX,gY,gZ,hJ,hP,E,b1,b2,I,eM,eO,h,C,eP,d5,d6⟩;have f:=f.tu E i O (alc (nrow G f O) (alc (nrow H f O) (alc (nrow o f O) (alc (nrow p f O) al0))));have z:=SB.lift (S:=SB bV [A0,A1,A2,A3]) (w0:=w0) (.inl (.inl O)) (alc aD (alc aE (alc N (alc Q al0))));have b1:=Us.trans b1 z D.size;have b2:=Us.trans b2 z D.size
  have D:=tstr D E z;clear z
  clear E i;have i:=I;clear I
  clear o;have o:=h;clear h
  clear p;have p:=C;clear C;refine Zn fun a L=>?_;refine X6<|X1u L (X2s O) ?_
  rw [Xiz ht U (Xar x g.a g.b)]
  exact ⟨gX,gY,gZ,hJ,hP,D,b1,b2,⟨i,eM,eO,o,p,eP,d5,d6⟩⟩
 have bL:=b7
 refine Zs L fun _ eQ=>?_;refine Ze (X0f O O)<|Za O<|Zt eQ fun a L=>?_
 refine Xz L O (fun bH=>?_) (fun bH=>?_)
 ·have U:=Xhg (x:=x) g1 g2 g3 g9 bL bH;refine Q5 fun _ eR=>?_;refine X0p (fun a w=>Fr a 161 [(0,(pZ9 bV)),(3,(pZ9 b6))]/\Blk w bV 62 [vi x.d.n,.slice A0 m0 c0,.slice A1 x.d.ws.length c1,vi x.d.t,vi x.d.r,.slice A2 n0 c2,.slice A3 n0 c3]/\Blk w b6 66 [vi g.k,vi g.a,vi g.b]/\Own w B0 64 2 encNd A0 c0 x.d.ns/\Own w B0 72 3 encWr A1 c1 x.d.ws/\Own w B0 4 1 encB A3 c3 x.hd/\Own w B0 3 1 encI A2 c2 ((x.la.set g.a.toNat (x.la.getD g.b.toNat 0)).set g.b.toNat (x.la.getD g.a.toNat 0))/\TurnS (SB bV [A0,A1,A2,A3]) w0 w) ?_ ?_
  ·refine Xl none (fun j=>[29,31].contains j) mixed ?_;intro iM W;have i:=i.bw W;have f:=f.bw W;have G:=G.bw W;have H:=H.bw W;have o:=o.bw W;have p:=p.bw W;have D:=tsbel D W;refine Yb L<|Yo 0 O (fun _=>X3 O)<|Yo 1 O (fun _=>Xw O)<|Yo 2 O (fun _=>Vd O X2o 5)<|Ye 3 O (X0 O X2d (i.at 5))<|Yo 4 O (fun _=>Vd O Xs 1)<|Ye 5 O (X0 O X2 (f.at 1))<|Yo 6 O (fun _=>X3 O)<|Yo 7 O (fun _=>Xw O)<|Yo 8 O (fun _=>Vd O X2o 5)<|Ye 9 O (X0 O X2d (i.at 5)) ?_;refine Yo 10 O (fun _=>Vd O X0h 2)<|Yo 12 O (fun _=>X3 O)<|Yo 13 O (fun _=>Xw O)<|Yo 14 O (fun _=>Vd O X2o 5)<|Ye 15 O (X0 O X2d (i.at 5))<|Yo 16 O (fun _=>Vd O X0h 2)<|Ye 17 O (X0 O X2 (f.at 2))<|Yo 18 O (fun _=>Xd (k:=g.b.toNat) O O Xy X0e o a7 Z O2)<|Ye 19 O (X0 O X2 (X17 o Xn (Xf (d:=(0:Int)) O2) 0 O))<|Yo 20 O (fun _=>X3 O) ?_;refine Yo 21 O (fun _=>Xw O)<|Yo 22 O (fun _=>Vd O X2o 5)<|Ye 23 O (X0 O X2d (i.at 5))<|Yo 24 O (fun _=>Vd O Xs 1)<|Ye 25 O (X0 O X2 (f.at 1))<|Yo 26 O (fun _=>Xd (k:=g.a.toNat) O O Xy X0e o a7 Z O2)<|Ye 27 O (X0 O X2 (X17 o Xn (Xf (d:=(0:Int)) O2) 0 O))<|Yo 28 O (fun _=>Xd (k:=g.a.toNat) O O Xy X0e o a7 Z O2) ?_;refine Y2 11 29 ?_ ?_
   ·refine Yz O tv0 (Uev (X0 O X2 (f.at 2))) ?_;refine Y1 29<|Yh O tv0 O (X0d (enc:=encI) (l:=x.la) (vs:=[vi (x.la.getD g.b.toNat 0)]) (x0:=(x.la.getD g.a.toNat 0)) (u:=(x.la.getD g.b.toNat 0)) (k:=g.a.toNat) (j:=0) (n1:=1) O O X0e o Xn O O O O O4 (Xf (d:=(0:Int)) O2) O) ?_;rintro _ iN ⟨J,M⟩;have q:=o;have i:=i.appT q M O;have f:=f.appT q M O;have G:=G.appT q M O;have H:=H.appT q M O;have p:=p.appT q M O;have D:=tsrow D M N
    clear q M;clear o;have o:=J;clear J;refine Y1 30<|Yz O tv0 (Uev (Xd (k:=g.b.toNat) O O Xy X0e o (a7.trans List.length_set.symm) Z O2)) ?_;refine Y1 31<|Yh O tv0 O (X0d (enc:=encI) (l:=(x.la.set g.a.toNat (x.la.getD g.b.toNat 0))) (vs:=[vi (x.la.getD g.a.toNat 0)]) (x0:=((x.la.set g.a.toNat (x.la.getD g.b.toNat 0)).getD g.b.toNat 0)) (u:=(x.la.getD g.a.toNat 0)) (k:=g.b.toNat) (j:=0) (n1:=1) O O X0e o Xn O O O O O4 (Xf (d:=(0:Int)) O2) O) ?_;rintro _ iO ⟨J,M⟩;have q:=o;have i:=i.appT q M O;have f:=f.appT q M O;have G:=G.appT q M O;have H:=H.appT q M O;have p:=p.appT q M O;have D:=tsrow D M N
    clear q M;clear o;have o:=J;clear J;refine Yd fun a L=>?_;exact ⟨L.sb,i,f,G,H,p,o,D⟩
   refine Yh O tv0 O (X0d (enc:=encI) (l:=x.la) (vs:=[vi (x.la.getD g.b.toNat 0)]) (x0:=(x.la.getD g.a.toNat 0)) (u:=(x.la.getD g.b.toNat 0)) (k:=g.a.toNat) (j:=0) (n1:=1) O O X0e o Xn O O O O O4 (Xf (d:=(0:Int)) O2) O) ?_;rintro _ iP ⟨J,M⟩;have q:=o;have i:=i.appT q M O;have f:=f.appT q M O;have G:=G.appT q M O;have H:=H.appT q M O;have p:=p.appT q M O;have D:=tsrow D M N
   clear q M;clear o;have o:=J;clear J;refine Y1 11<|Yz O tv0 (Uev (X0 O X2 (f.at 2))) ?_;refine Y1 30<|Yz O tv0 (Uev (Xd (k:=g.b.toNat) O O Xy X0e o (a7.trans List.length_set.symm) Z O2)) ?_;refine Y1 31<|Yh O tv0 O (X0d (enc:=encI) (l:=(x.la.set g.a.toNat (x.la.getD g.b.toNat 0))) (vs:=[vi (x.la.getD g.a.toNat 0)]) (x0:=((x.la.set g.a.toNat (x.la.getD g.b.toNat 0)).getD g.b.toNat 0)) (u:=(x.la.getD g.a.toNat 0)) (k:=g.b.toNat) (j:=0) (n1:=1) O O X0e o Xn O O O O O4 (Xf (d:=(0:Int)) O2) O) ?_;rintro _ iQ ⟨J,M⟩;have q:=o;have i:=i.appT q M O;have f:=f.appT q M O;have G:=G.appT q M O;have H:=H.appT q M O;have p:=p.appT q M O;have D:=tsrow D M N
   clear q M;clear o;have o:=J;clear J;refine Yd fun a L=>?_;exact ⟨L.sb,i,f,G,H,p,o,D⟩
  rintro a iS ⟨L,i,f,G,H,p,o,D⟩;refine eR _ _<|X0p (fun a w=>Fr a 161 []/\Blk w bV 62 [vi x.d.n,.slice A0 m0 c0,.slice A1 x.d.ws.length c1,vi x.d.t,vi x.d.r,.slice A2 n0 c2,.slice A3 n0 c3]/\Blk w b6 66 [vi g.k,vi g.a,vi g.b]/\Own w B0 64 2 encNd A0 c0 x.d.ns/\Own w B0 72 3 encWr A1 c1 x.d.ws/\Own w B0 3 1 encI A2 c2 ((x.la.set g.a.toNat (x.la.getD g.b.toNat 0)).set g.b.toNat (x.la.getD g.a.toNat 0))/\Own w B0 4 1 encB A3 c3 ((x.hd.set g.a.toNat (x.hd.getD g.b.toNat false)).set g.b.toNat (x.hd.getD g.a.toNat false))/\TurnS (SB bV [A0,A1,A2,A3]) w0 w) ?_ ?_
  ·refine Xl none (fun j=>[29,31].contains j) mixed ?_;intro iT W;have i:=i.bw W;have f:=f.bw W;have G:=G.bw W;have H:=H.bw W;have p:=p.bw W;have o:=o.bw W;have D:=tsbel D W;refine Yb L<|Yo 0 O (fun _=>X3 O)<|Yo 1 O (fun _=>Xw O)<|Yo 2 O (fun _=>Vd O X3e 6)<|Ye 3 O (X0 O X27 (i.at 6))<|Yo 4 O (fun _=>Vd O Xs 1)<|Ye 5 O (X0 O X2 (f.at 1))<|Yo 6 O (fun _=>X3 O)<|Yo 7 O (fun _=>Xw O)<|Yo 8 O (fun _=>Vd O X3e 6)<|Ye 9 O (X0 O X27 (i.at 6)) ?_;refine Yo 10 O (fun _=>Vd O X0h 2)<|Yo 12 O (fun _=>X3 O)<|Yo 13 O (fun _=>Xw O)<|Yo 14 O (fun _=>Vd O X3e 6)<|Ye 15 O (X0 O X27 (i.at 6))<|Yo 16 O (fun _=>Vd O X0h 2)<|Ye 17 O (X0 O X2 (f.at 2))<|Yo 18 O (fun _=>Xd (k:=g.b.toNat) O O X1t X2k p a8 Z O2)<|Ye 19 O (X0 O X4d (X17 p X0n (Xf (d:=false) O2) 0 O))<|Yo 20 O (fun _=>X3 O) ?_;refine Yo 21 O (fun _=>Xw O)<|Yo 22 O (fun _=>Vd O X3e 6)<|Ye 23 O (X0 O X27 (i.at 6))<|Yo 24 O (fun _=>Vd O Xs 1)<|Ye 25 O (X0 O X2 (f.at 1))<|Yo 26 O (fun _=>Xd (k:=g.a.toNat) O O X1t X2k p a8 Z O2)<|Ye 27 O (X0 O X4d (X17 p X0n (Xf (d:=false) O2) 0 O))<|Yo 28 O (fun _=>Xd (k:=g.a.toNat) O O X1t X2k p a8 Z O2) ?_;refine Y2 11 29 ?_ ?_
   ·refine Yz O tv0 (Uev (X0 O X2 (f.at 2))) ?_;refine Y1 29<|Yh O tv0 O (X0d (enc:=encB) (l:=x.hd) (vs:=[.bool (x.hd.getD g.b.toNat false)]) (x0:=(x.hd.getD g.a.toNat false)) (u:=(x.hd.getD g.b.toNat false)) (k:=g.a.toNat) (j:=0) (n1:=1) O O X2k p X0n O O O O O4 (Xf (d:=false) O2) O) ?_;rintro _ iU ⟨J,M⟩;have q:=p;have i:=i.appT q M O;have f:=f.appT q M O;have G:=G.appT q M O;have H:=H.appT q M O;have o:=o.appT q M O;have D:=tsrow D M Q
    clear q M;clear p;have p:=J;clear J;refine Y1 30<|Yz O tv0 (Uev (Xd (k:=g.b.toNat) O O X1t X2k p (a8.trans List.length_set.symm) Z O2)) ?_;refine Y1 31<|Yh O tv0 O (X0d (enc:=encB) (l:=(x.hd.set g.a.toNat (x.hd.getD g.b.toNat false))) (vs:=[.bool (x.hd.getD g.a.toNat false)]) (x0:=((x.hd.set g.a.toNat (x.hd.getD g.b.toNat false)).getD g.b.toNat false)) (u:=(x.hd.getD g.a.toNat false)) (k:=g.b.toNat) (j:=0) (n1:=1) O O X2k p X0n O O O O O4 (Xf (d:=false) O2) O) ?_;rintro _ iV ⟨J,M⟩;have q:=p;have i:=i.appT q M O;have f:=f.appT q M O;have G:=G.appT q M O;have H:=H.appT q M O;have o:=o.appT q M O;have D:=tsrow D M Q
    clear q M;clear p;have p:=J;clear J;refine Yd fun a L=>?_;exact ⟨L.sub tv0,i,f,G,H,o,p,D⟩
   refine Yh O tv0 O (X0d (enc:=encB) (l:=x.hd) (vs:=[.bool (x.hd.getD g.b.toNat false)]) (x0:=(x.hd.getD g.a.toNat false)) (u:=(x.hd.getD g.b.toNat false)) (k:=g.a.toNat) (j:=0) (n1:=1) O O X2k p X0n O O O O O4 (Xf (d:=false) O2) O) ?_;rintro _ iW ⟨J,M⟩;have q:=p;have i:=i.appT q M O;have f:=f.appT q M O;have G:=G.appT q M O;have H:=H.appT q M O;have o:=o.appT q M O;have D:=tsrow D M Q
   clear q M;clear p;have p:=J;clear J;refine Y1 11<|Yz O tv0 (Uev (X0 O X2 (f.at 2))) ?_;refine Y1 30<|Yz O tv0 (Uev (Xd (k:=g.b.toNat) O O X1t X2k p (a8.trans List.length_set.symm) Z O2)) ?_;refine Y1 31<|Yh O tv0 O (X0d (enc:=encB) (l:=(x.hd.set g.a.toNat (x.hd.getD g.b.toNat false))) (vs:=[.bool (x.hd.getD g.a.toNat false)]) (x0:=((x.hd.set g.a.toNat (x.hd.getD g.b.toNat false)).getD g.b.toNat false)) (u:=(x.hd.getD g.a.toNat false)) (k:=g.b.toNat) (j:=0) (n1:=1) O O X2k p X0n O O O O O4 (Xf (d:=false) O2) O) ?_;rintro _ iX ⟨J,M⟩;have q:=p;have i:=i.appT q M O;have f:=f.appT q M O;have G:=G.appT q M O;have H:=H.appT q M O;have o:=o.appT q M O;have D:=tsrow D M Q
   clear q M;clear p;have p:=J;clear J;refine Yd fun a L=>?_;exact ⟨L.sub tv0,i,f,G,H,o,p,D⟩
  rintro a iY ⟨L,i,f,G,H,o,p,D⟩;refine X6<|X1u L (X2s O) ?_
  rw [Xiz ht U rfl]
  exact ⟨A0,c0,A1,c1,m0,D,aD,aE,⟨i,G,H,o,p,aC,((a7.trans List.length_set.symm).trans List.length_set.symm),((a8.trans List.length_set.symm).trans List.length_set.symm)⟩⟩
 have d7:=bH
 refine Zs L fun _ eS=>?_;refine Ze (X0f O O)<|Za O<|Zt eS fun a L=>?_
 refine Xz L O (fun bJ=>?_) (fun bJ=>?_)
 ·have U:=Xhh (x:=x) g1 g2 g3 g9 bL d7 bJ;refine Zr L<|Zm O<|Zm O<|Ze (Xw O)<|Ze (Vd O X1l 0)<|Ze (Vd O X0w 3)<|Ze (X0 O X2 (i.at 3))<|Ze (X3s O O)<|Ze (X4n O O O)<|Ze (Xw O)<|Ze (Vd O X1l 0) ?_;refine Ze (Vd O X0w 3)<|Zo (X1m (vs:=[vi ((wr (x.d.t+1)).tmod 8)]) (l':=[vi x.d.n,.slice A0 m0 c0,.slice A1 x.d.ws.length c1,vi ((wr (x.d.t+1)).tmod 8),vi x.d.r,.slice A2 n0 c2,.slice A3 n0 c3]) O O X0e i O O O O O) ?_;rintro _ iZ ⟨ho,hb⟩;have G:=G.oT ho i O;have H:=H.oT ho i O;have o:=o.oT ho i O;have p:=p.oT ho i O;have D:=tsonly D ho (.inl (.inl O));have i:=hb;refine Zn fun a L=>?_;refine X6<|X1u L (X2s O) ?_
  rw [show g8B x g=reB (tnB x 1) from by unfold g8B;rw [U]]
  exact ⟨A0,c0,A1,c1,m0,D,aD,aE,⟨i,G,H,o,p,aC,a7,a8⟩⟩
 have eT:=bJ
 have U:=Xr1 (x:=x) g1 g2 g3 g9 bL d7 eT
 have eU:4<=g.k/\g.k<=8:=by simp only [beq_eq_false_iff_ne] at g1 g2 g3 g9 bL d7 eT;omega
 have hY:=Xfw eU;refine Xl none (fun j=>[6].contains j) mixed ?_;intro j0 W;have i:=i.bw W;have f:=f.bw W;have G:=G.bw W;have H:=H.bw W;have o:=o.bw W;have p:=p.bw W;have D:=tsbel D W;refine Yb L<|Yo 0 O (fun _=>X3 O)<|Yo 1 O (fun _=>Vd O Xs 1)<|Ye 2 O (X0 O X2 (f.at 1))<|Yo 3 O (fun _=>Vd O X25 0)<|Ye 4 O (X0 O X2 (f.at 0))<|Y1 5 ?_;refine Yz O tv0 (Vc (Xye _ g.k) Xpn) ?_;refine Y1 6<|Yt O tv0 O (Vc (Xg9 _ bV B0 A0 c0 A1 c1 A2 c2 A3 c3 m0 n0 x ⟨i,G,H,o,p,aC,a7,a8⟩ (Q0 a6 D.size) g.a (rotC g.k) aA aB b9 b8 hY.2) X93) ?_;rintro _ j1 ⟨i1,i6,i7,i8,iA,E,b3,b4,I,eV,eX,h,C,eY,d8,dA⟩;have f:=f.tu E i O (alc (nrow G f O) (alc (nrow H f O) (alc (nrow o f O) (alc (nrow p f O) al0))));have z:=SB.lift (S:=SB bV [A0,A1,A2,A3]) (w0:=w0) (.inl (.inl O)) (alc aD (alc aE (alc N (alc Q al0))));have b3:=Us.trans b3 z D.size;have b4:=Us.trans b4 z D.size
 have D:=tstr D E z;clear z
 clear E i;have i:=I;clear I
 clear o;have o:=h;clear h
 clear p;have p:=C;clear C;refine Yd fun a L=>?_;refine X6<|X1u L (X2s O) ?_
 rw [Xiz ht U (X52 x g.a _)]
 exact ⟨i1,i6,i7,i8,iA,D,b3,b4,⟨i,eV,eX,o,p,eY,d8,dA⟩⟩
theorem Xyv(I:World)(c:Cx)(Ac:Option Addr)(cc:Nat)(bS:Rd I I.heap.size 66 encG Ac c.gs)(fJ:c.gs.length<=2305843009213693951) : Ret Tryz.prog 6 [.agg #[vi c.n,.slice Ac c.gs.length cc]] I (fun v w=>∃ A c1 B e,v=.tuple #[.agg #[vi (if (dgC c)=true then ofD c else zD).n,.slice A (if (dgC c)=true then ofD c else zD).ns.length c1,.slice B (if (dgC c)=true then ofD c else zD).ws.length e,vi (if (dgC c)=true then ofD c else zD).t,vi (if (dgC c)=true then ofD c else zD).r],.bool (dgC c)]/\Rd w w.heap.size 64 encNd A (if (dgC c)=true then ofD c else zD).ns/\Rd w w.heap.size 72 encWr B (if (dgC c)=true then ofD c else zD).ws/\(if (dgC c)=true then ofD c else zD).ws.length<=e/\Below I.heap.size I w):=by
 refine enter Tryz.func6 O 79 O O ?_;intro a q
 have p:=bz I
 refine Zs q fun _ eM=>?_;refine Zf (X0u (zs:=[vi c.n,.slice Ac c.gs.length cc]) O O) ?_;rintro _ w1 ⟨b3,rfl,eO,z,o⟩;have fH:=Q0 p.size eO;have p:=btr p z;refine Zf (X03 (zs:=[vi 0,.slice none 0 0,.slice none 0 0,vi 0,vi 0]) X2l O) ?_;rintro _ w2 ⟨b6,rfl,eP,z,i⟩;have bU:=Q0 p.size eP;have o:=o.bw z;have p:=btr p z;refine Za O<|ZX eM fun a q _ eQ=>?_;refine Zs q fun _ eR=>?_;refine Ze (Vn X3g o)<|Zf (Vc (F55 _ c Ac cc (bS.bx p).top (by assumption)) Y1d) ?_;rintro _ w3 ⟨rfl,z⟩;have o:=o.bw z;have i:=i.bw z;have p:=btr p z;refine Ze (X1w O)<|Zt eR fun a q=>?_
 refine Xz q O (fun bZ=>?_) (fun bZ=>?_)
 ·have eS:dgC c=false:=Xt6 (by have h8:=bZ;simpa using h8)
  refine Zs q fun _ cV=>?_;refine Ze (Xt (ps:=[]) (cs:=[vi 0,.slice none 0 0,.slice none 0 0,vi 0,vi 0]) O (fun _=>by first|rfl|kernel_rfl))<|Zo (Vw [vi 0,.slice none 0 0,.slice none 0 0,vi 0,vi 0] X10 i) ?_;rintro _ w4 ⟨ho,hb⟩;have p:=Below.oy p ho bU;have i:=hb;refine Za O<|Zt cV fun a q=>?_;refine Q6<|X7<|X4 q (X2u q O (ResV.cellN (l:=[vi 0,.slice none 0 0,.slice none 0 0,vi 0,vi 0]) O Xm (i.at 0) O) O) ?_
  rw [eS,Q3 Bool.false_ne_true]
  exact ⟨none,0,none,0,O,(Rd.nil _ _ _ _ _),(Rd.nil _ _ _ _ _),(Qf _),p⟩
 have hc:cOk c=true:=by have h8:=bZ;simpa using h8
 obtain ⟨n9,fK,fL,fM⟩:=X6v hc
 have cW:c.n=((c.n.toNat:Nat) : Int):=by omega
 have fN:=X7g hc
 have cX:(List.replicate (c.n.toNat:Nat) false).length=(c.n.toNat:Nat):=List.length_replicate
 have cY:(c.n.toNat:Nat)<=maxLen:=by simp only [maxLen];omega
 refine Q7<|eQ _ _<|Q5 fun _ cZ=>?_;refine Xl none (fun _=>false) mixed ?_;intro w5 z;have o:=o.bw z;have i:=i.bw z;have p:=btr p z;refine Yb q<|Yo 0 O (fun _=>Vd O X2f 0)<|Ye 1 O (X0 O X2 (o.at 0))<|Yo 2 O (fun _=>Xt (ps:=[(0,vi c.n)]) (cs:=[vi c.n,.slice none 0 0,.slice none 0 0,vi 0,vi 0]) O (fun _=>by first|rfl|kernel_rfl))<|Yo 3 O (fun _=>Vd O X2f 0)<|Ye 4 O (Vx (X0 O X2 (o.at 0)) cW)<|Y1 5 ?_;refine Yk O tv0 (X41 (m:=(c.n.toNat:Nat)) (enc:=encB) (z0:=false) O O X1t Xlo z_4 O X0n Z Z) (fun _ _ ⟨_,_,_,h,_⟩=>h) ?_;rintro _ w6 ⟨bM,rfl,d5,z,aS⟩;have cA:=Q0 p.size d5;have o:=o.bw z;have i:=i.bw z;have p:=btr p z;refine Yo 6 O (fun _=>Xt (ps:=[(0,.agg #[vi c.n,.slice none 0 0,.slice none 0 0,vi 0,vi 0]),(2,.slice (some ⟨bM,0,none⟩) (c.n.toNat:Nat) (c.n.toNat:Nat))]) (cs:=[vi c.n,.slice none 0 0,.slice none 0 0,vi 0,vi 0,.slice none 0 0,.slice (some ⟨bM,0,none⟩) (c.n.toNat:Nat) (c.n.toNat:Nat)]) O (fun _=>by first|rfl|kernel_rfl))<|Y1 7 ?_;refine Yk O tv0 (X0u (zs:=[vi c.n,.slice none 0 0,.slice none 0 0,vi 0,vi 0,.slice none 0 0,.slice (some ⟨bM,0,none⟩) (c.n.toNat:Nat) (c.n.toNat:Nat)]) O O) (fun _ _ ⟨_,_,_,h,_⟩=>h) ?_;rintro _ w7 ⟨a8,rfl,d6,z,g⟩;have a6:=Q0 p.size d6;have o:=o.bw z;have i:=i.bw z;have aS:=aS.bw z;have p:=btr p z;refine Yo 8 O (fun _=>X19 O) ?_;refine Yd fun a q=>?_;refine cZ _ _<|Q5 fun _ d7=>?_;refine Zs q fun _ d8=>?_;refine Ze (Vd O X2f 0)<|Ze (X0 O X2 (o.at 0))<|Zm O<|Zt d8 fun a q=>?_;refine Q8<|X00 (σ:=Nat×(List Nd)×(List Int)) (fun (s:Nat×(List Nd)×(List Int)) (a:Act) (w:World)=>match s with|(k,u,v)=>∃ bN bO aT aU aE aF,Fr a 79 [(1,(pZ9 b3)),(2,(pZ9 b6)),(4,(pZ9 a8)),(22,vi c.n),(23,vi (k:Int))]/\(k<=c.n.toNat)/\(u=inN k)/\(v=ranI k)/\Blk w b3 26 [vi c.n,.slice Ac c.gs.length cc]/\Blk w b6 31 [vi 0,.slice none 0 0,.slice none 0 0,vi 0,vi 0]/\Blk w a8 62 [vi c.n,.slice bN u.length bO,.slice none 0 0,vi 0,vi 0,.slice aT v.length aU,.slice aE (c.n.toNat:Nat) aF]/\Own w I.heap.size 64 2 encNd bN bO u/\Own w I.heap.size 3 1 encI aT aU v/\Own w I.heap.size 4 1 encB aE aF (List.replicate (c.n.toNat:Nat) false)/\Below I.heap.size I w) (fun (s:Nat×(List Nd)×(List Int))=>match s with|(k,u,v)=>c.n.toNat-k) (0,[],[]) ?_ ?_
 ·exact ⟨none,0,none,0,some ⟨bM,0,none⟩,(c.n.toNat:Nat),q.sb,(Qf _),O,O,o,i,g,(Own.nil _ _ _ _ _),(Own.nil _ _ _ _ _),(Own.of_flat X0n aS cA cX cY),p⟩
 rintro ⟨k,u,v⟩ a w8 ⟨bN,bO,aT,aU,aE,aF,q,hk,hu,hv,o,i,g,Q,E,D,p⟩;have dA:=X48 k;have dB:=X4q k
 rw [<- hu] at dA
 rw [<- hv] at dB
 refine Zs q fun _ dC=>?_;refine Ze (X1a O O)<|ZX dC fun a q _ dD=>?_
 refine X0z q O (fun cB aV=>?_) (fun cB aV=>?_)
 ·have bP:k<c.n.toNat:=by have:=aV;omega
  refine Q7<|dD _ _<|Q5 fun _ dE=>?_;refine Q8<|Zs q fun _ dF=>?_;refine Zm O<|Za O<|Zx dF fun a q _ dG=>?_;refine Zm O<|Zm O<|Ze (Xw O)<|Ze (Vd O X1l 0)<|Ze (Vd O Xi 1)<|Ze (X0 O X0b (g.at 1))<|Zm O<|Ze (Xt (ps:=[(0,vi 1),(1,vi (k:Int))]) (cs:=[vi 1,vi (k:Int)]) O (fun _=>by first|rfl|kernel_rfl))<|Zf (X9 (k:=1) (vs:=[.agg #[vi 1,vi (k:Int)]]) (zs:=[vi 1,vi (k:Int)]) O Xp X1r O O) ?_;rintro _ w9 ⟨fO,rfl,bW,z,aW⟩;have eT:=Q0 p.size bW;have aH:=Q.away bW;have o:=o.bw z;have i:=i.bw z;have g:=g.bw z;have Q:=Q.bw z;have E:=E.bw z;have D:=D.bw z;have p:=btr p z;refine Zf (X15 (enc:=encNd) (l:=(u)) (l2:=([(⟨1,(k:Int)⟩ : Nd)])) (B0:=I.heap.size) O O Xp X1r X02 X2x Q (Rd.of_blk aW O _ aW.lt) (by simp only [maxLen];simp;omega) O6 p.size) ?_;rintro _ fP ⟨bQ,bR,rfl,J,hg,aX⟩
  have C:Own _ I.heap.size 64 2 encNd _ _ (u):=Q
  have cT:=aX _ aW.lt aH;clear aX;have o:=o.appT C hg O;have i:=i.appT C hg O;have g:=g.appT C hg O;have E:=E.appT C hg O;have D:=D.appT C hg O;have p:=Below.app p C hg (Qb _) p.size;clear C hg;refine Ze (Xw O)<|Ze (Vd O X1l 0)<|Ze (Vd O Xi 1)<|Zo (Vu (vs:=[.slice bQ (u++([(⟨1,(k:Int)⟩ : Nd)])).length bR]) (l':=[vi c.n,.slice bQ (u++([(⟨1,(k:Int)⟩ : Nd)])).length bR,.slice none 0 0,vi 0,vi 0,.slice aT v.length aU,.slice aE (c.n.toNat:Nat) aF]) O O X3x g) ?_;rintro _ fQ ⟨ho,hb⟩;have o:=o.oz ho g O;have i:=i.oz ho g O;have E:=E.oT ho g O;have D:=D.oT ho g O;have J:=J.oT ho g O;have p:=Below.oy p ho a6;have g:=hb;refine Zt dG fun a q=>?_;refine Zr q<|Zm O<|Zm O<|Ze (Xw O)<|Ze (Vd O X2o 5)<|Ze (X0 O X2d (g.at 5))<|Zm O<|Zf (X9 (k:=1) (vs:=[vi (k:Int)]) (zs:=[vi (k:Int)]) O Xy X2j O O) ?_;rintro _ fR ⟨fS,rfl,bX,z,aY⟩;have eU:=Q0 p.size bX;have aI:=E.away bX;have o:=o.bw z;have i:=i.bw z;have g:=g.bw z;have E:=E.bw z;have D:=D.bw z;have J:=J.bw z;have p:=btr p z;refine Zf (X15 (enc:=encI) (l:=(v)) (l2:=([(k:Int)])) (B0:=I.heap.size) O O Xy X2j Xn X33 E (Rd.of_blk aY O _ aY.lt) (by simp only [maxLen];simp;omega) O6 p.size) ?_;rintro _ fT ⟨cC,cD,rfl,aZ,hg,aX⟩
  have C:Own _ I.heap.size 3 1 encI _ _ (v):=E
  have cU:=aX _ aY.lt aI;clear aX;have o:=o.appT C hg O;have i:=i.appT C hg O;have g:=g.appT C hg O;have D:=D.appT C hg O;have J:=J.appT C hg O;have p:=Below.app p C hg (Qb _) p.size;clear C hg;refine Ze (Xw O)<|Ze (Vd O X2o 5)<|Zo (Vu (vs:=[.slice cC (v++([(k:Int)])).length cD]) (l':=[vi c.n,.slice bQ (u++([(⟨1,(k:Int)⟩ : Nd)])).length bR,.slice none 0 0,vi 0,vi 0,.slice cC (v++([(k:Int)])).length cD,.slice aE (c.n.toNat:Nat) aF]) O O Xid g) ?_;rintro _ fU ⟨ho,hb⟩;have o:=o.oz ho g O;have i:=i.oz ho g O;have D:=D.oT ho g O;have J:=J.oT ho g O;have aZ:=aZ.oT ho g O;have p:=Below.oy p ho a6;have g:=hb;refine Zn fun a q=>?_;refine X6<|dE _ _<|Zr q<|Ze (Xr O O Z Z)<|Zm O ?_;refine Zn fun a q=>?_;refine Xc ?_;exact ⟨(k+1,u++([(⟨1,(k:Int)⟩ : Nd)]),v++([(k:Int)])),⟨bQ,bR,cC,cD,aE,aF,q.sb,Z,(by rw [Xln,<- hu]),(by rw [Xfv,<- hv]),o,i,g,J,aZ,D,p⟩,O0⟩
 have bP:k=c.n.toNat:=by have:=aV;omega
 have dH:v.length=c.n.toNat:=by rw [hv,bP];exact X4q _
 have cE:(⟨⟨c.n,u,[],0,0⟩,v,List.replicate c.n.toNat false⟩ : Br)=ofB0 c:=by rw [hu,hv,bP];rfl
 have fV:u.length=c.n.toNat:=by rw [hu,bP];exact X48 _
 refine Q9<|Xg<|Xg<|X01 ?_;refine d7 _ _<|Q5 fun _ dI=>?_;refine Zs q fun _ dJ=>?_;refine Ze (Vd O X38 1)<|Ze (X0 O X69 (o.at 1))<|Ze (X11 O X3q)<|Zm O<|Zt dJ fun a q=>?_;refine Q8 ?_
 rw [dH] at g
 refine X00 (σ:=Nat×Br×Nat) (fun (s:Nat×Br×Nat) (a:Act) (w:World)=>match s with|(k,x,mz)=>∃ b0 b1 b2 b4 aJ aK aL aM,Fr a 79 [(1,(pZ9 b3)),(2,(pZ9 b6)),(4,(pZ9 a8)),(51,.slice Ac c.gs.length cc),(52,vi (c.gs.length:Int)),(53,vi (k:Int))]/\(k<=c.gs.length)/\(x=(c.gs.take k).foldl g8B (ofB0 c))/\(BrOk c.n.toNat x)/\(BrS x)/\(0<=x.d.t/\x.d.t<=7)/\(c.n.toNat=x.la.length)/\(c.n.toNat=x.hd.length)/\(mz=x.d.ns.length)/\(x.d.ns.length<=5+3*k/\x.d.ws.length<=3*k)/\Blk w b3 26 [vi c.n,.slice Ac c.gs.length cc]/\Blk w b6 31 [vi 0,.slice none 0 0,.slice none 0 0,vi 0,vi 0]/\Blk w a8 62 [vi x.d.n,.slice b0 mz b1,.slice b2 x.d.ws.length b4,vi x.d.t,vi x.d.r,.slice aJ c.n.toNat aK,.slice aL c.n.toNat aM]/\Own w I.heap.size 64 2 encNd b0 b1 x.d.ns/\Own w I.heap.size 72 3 encWr b2 b4 x.d.ws/\Own w I.heap.size 3 1 encI aJ aK x.la/\Own w I.heap.size 4 1 encB aL aM x.hd/\Below I.heap.size I w) (fun (s:Nat×Br×Nat)=>match s with|(k,x,mz)=>c.gs.length-k) (0,⟨⟨c.n,u,[],0,0⟩,v,List.replicate c.n.toNat false⟩,u.length) ?_ ?_
 ·exact ⟨bN,bO,none,0,aT,aU,aE,aF,q.sb,(Qf _),cE,(cE▸X7x ⟨by omega,by omega⟩),(cE▸Xmj c),⟨Int.le_refl _,(by decide:(0:Int)<=7)⟩,dH.symm,cX.symm,O,⟨by show u.length<=_;omega,Qb _⟩,o,i,g,Q,(Own.nil _ _ _ _ _),E,D,p⟩
 rintro ⟨k,x,mz⟩ a fW ⟨b0,b1,b2,b4,aJ,aK,aL,aM,q,hk,hx,aA,aN,dK,dL,dM,dN,eV,o,i,g,L,M,G,H,p⟩;refine Zs q fun _ dO=>?_;refine Ze (X1a O O)<|ZX dO fun a q _ dP=>?_
 refine X0z q O (fun cG b5=>?_) (fun cG b5=>?_)
 ·obtain ⟨fX,fI⟩:=X8 (l:=c.gs) (k:=k) Z
  obtain ⟨u9,cH⟩:=X8 (l:=c.gs) (k:=k) (by have:=b5;omega)
  have cI:gOk (c.n.toNat:Int) u9=true:=Xaq hc cW cH
  have dQ:=X74 (f:=g8B) (b:=ofB0 c) cH
  rw [<- hx] at dQ
  refine Q7<|dP _ _<|Q5 fun _ dR=>?_;refine Q8<|Zs q fun _ dS=>?_;refine Zi (k:=k) (u:=u9) (enc:=encG) (l:=c.gs) tv0 O O X3q X2t X3u (bS.bx p) cH O ?_;intro fY cJ;refine Ze (X09 (l:=[vi u9.k,vi u9.a,vi u9.b]) O X28 cJ O) ?_;refine ZB [vi u9.k,vi u9.a,vi u9.b] X87 X2t fun fZ g5 dT z N=>?_;have eX:=Q0 p.size dT;have o:=o.bw z;have i:=i.bw z;have g:=g.bw z;have L:=L.bw z;have M:=M.bw z;have G:=G.bw z;have H:=H.bw z;have p:=btr p z;refine Zt dS fun a q=>?_;refine Zr q<|Zm O<|Ze (Vn X28 N)<|Zf (Vc (Xz4 _ a8 I.heap.size b0 b1 b2 b4 aJ aK aL aM mz c.n.toNat x ⟨g,L,M,G,H,dN,dL,dM⟩ p.size u9 aA Z aN cI dK) Xq6) ?_;rintro _ g6 ⟨eY,eZ,f0,f4,f5,a7,cK,cL,b7,dU,dW,aB,aC,dX,cM,cN⟩;have o:=o.tu a7 g O (alc (nrow L o O) (alc (nrow M o O) (alc (nrow G o O) (alc (nrow H o O) al0))));have i:=i.tu a7 g O (alc (nrow L i O) (alc (nrow M i O) (alc (nrow G i O) (alc (nrow H i O) al0))));have N:=N.tu a7 g O (alc (nrow L N O) (alc (nrow M N O) (alc (nrow G N O) (alc (nrow H N O) al0))))
  have p:=Below.ts p a7 (SB.ge a6 (alc (fun _ h9=>X2g L h9) (alc (fun _ h9=>X2g M h9) (alc (fun _ h9=>X2g G h9) (alc (fun _ h9=>X2g H h9) al0))))) p.size
  clear cK;clear cL
  clear a7 g;have g:=b7;clear b7
  clear G;have G:=aB;clear aB
  clear H;have H:=aC;clear aC;refine Zn fun a q=>?_;refine X6<|dR _ _<|Zr q<|Ze (Xr O O Z Z)<|Zm O ?_;refine Zn fun a q=>?_;refine Xc ?_;exact ⟨(k+1,(g8B x u9),f5),⟨eY,eZ,f0,f4,aJ,aK,aL,aM,q.sb,Z,(by rw [dQ]),(Y1g aA cI),(Y3u aA aN cI),(Y3v dK),cM,cN,dX,(by have:=Xwg x u9;omega),o,i,g,dU,dW,G,H,p⟩,O0⟩
 have f7:x=of8 c:=by rw [hx,Qi (by have:=b5;omega)];rfl
 refine Q9<|Xg<|Xg<|X01 ?_;refine dI _ _<|Q5 fun _ dY=>?_;refine Zs q fun _ eA=>?_;refine Ze (Vd O X2f 0)<|Ze (X0 O X2 (o.at 0))<|Zm O<|Zt eA fun a q=>?_;refine Q8<|X00 (σ:=Nat×Br×Nat) (fun (s:Nat×Br×Nat) (a:Act) (w:World)=>match s with|(j,y,my)=>∃ aO aP aQ aR b8 b9 bC bD,Fr a 79 [(2,(pZ9 b6)),(4,(pZ9 a8)),(62,vi c.n),(63,vi (j:Int))]/\(j<=c.n.toNat)/\(y=ok8 c j)/\(BrOk c.n.toNat y)/\(BrS y)/\(c.n.toNat=y.la.length)/\(c.n.toNat=y.hd.length)/\(my=y.d.ns.length)/\(y.d.ns.length<=5+3*400+j/\y.d.ws.length<=3*400+j)/\Blk w b6 31 [vi 0,.slice none 0 0,.slice none 0 0,vi 0,vi 0]/\Blk w a8 62 [vi y.d.n,.slice aO my aP,.slice aQ y.d.ws.length aR,vi y.d.t,vi y.d.r,.slice b8 c.n.toNat b9,.slice bC c.n.toNat bD]/\Own w I.heap.size 64 2 encNd aO aP y.d.ns/\Own w I.heap.size 72 3 encWr aQ aR y.d.ws/\Own w I.heap.size 3 1 encI b8 b9 y.la/\Own w I.heap.size 4 1 encB bC bD y.hd/\Below I.heap.size I w) (fun (s:Nat×Br×Nat)=>match s with|(j,y,my)=>c.n.toNat-j) (0,x,mz) ?_ ?_
 ·exact ⟨b0,b1,b2,b4,aJ,aK,aL,aM,q.sb,(Qf _),f7,aA,aN,dL,dM,dN,Z,i,g,L,M,G,H,p⟩
 rintro ⟨j,y,my⟩ a g7 ⟨aO,aP,aQ,aR,b8,b9,bC,bD,q,hj,hy,aA,aN,f8,f9,eB,eV,i,g,aG,aD,U,W,p⟩;refine Zs q fun _ eC=>?_;refine Ze (X1a O O)<|ZX eC fun a q _ eD=>?_
 refine X0z q O (fun cO bE=>?_) (fun cO bE=>?_)
 ·have eE:j<c.n.toNat:=by have:=bE;omega
  refine Q7<|eD _ _<|Q5 fun _ eF=>?_;refine Q8<|Zs q fun _ eG=>?_;refine Zm O<|Za O<|Zt eG fun a q=>?_;refine Zr q<|Zm O<|Zm O<|Zm O<|Ze (Xt (ps:=[(0,vi 2),(1,vi (j:Int))]) (cs:=[vi 2,vi (j:Int)]) O (fun _=>by first|rfl|kernel_rfl))<|Zf (Vc (Xs9 _ a8 I.heap.size aO aP aQ aR b8 b9 bC bD my c.n.toNat y ⟨g,aG,aD,U,W,eB,f8,f9⟩ p.size (j:Int) (⟨2,(j:Int)⟩ : Nd) ⟨by omega,by omega⟩ aA Z aN) Xh2) ?_;rintro _ g8 ⟨fA,fB,fC,fE,fF,a7,cP,cQ,b7,eH,eI,aB,aC,eJ,cR,cS⟩;have i:=i.tu a7 g O (alc (nrow aG i O) (alc (nrow aD i O) (alc (nrow U i O) (alc (nrow W i O) al0))))
  have p:=Below.ts p a7 (SB.ge a6 (alc (fun _ h9=>X2g aG h9) (alc (fun _ h9=>X2g aD h9) (alc (fun _ h9=>X2g U h9) (alc (fun _ h9=>X2g W h9) al0))))) p.size
  clear cP;clear cQ
  clear a7 g;have g:=b7;clear b7
  clear U;have U:=aB;clear aB
  clear W;have W:=aC;clear aC;refine Zn fun a q=>?_;refine X6<|eF _ _<|Zr q<|Ze (Xr O O Z Z)<|Zm O ?_;refine Zn fun a q=>?_;refine Xc ?_;exact ⟨(j+1,(nodB y 2 (j:Int) (j:Int)),fF),⟨fA,fB,fC,fE,b8,b9,bC,bD,q.sb,Z,(by rw [Xtx,<- hy]),(X77 aA ⟨by omega,by omega⟩),(Xho aA aN ⟨by omega,by omega⟩),cR,cS,eJ,(by have:=X5k y 2 (j:Int) (j:Int);omega),i,g,eH,eI,U,W,p⟩,O0⟩
 have eE:j=c.n.toNat:=by have:=bE;omega
 have bY:y.d=ofD c:=by rw [hy,eE];exact Y25 Z
 have fG:dgC c=ivD y.d:=by unfold dgC;rw [hc,Qw,X6o,bY]
 refine Q9<|Xg<|Xg<|X01 ?_;refine dY _ _<|Zs q fun _ eK=>?_;refine Zm O<|Ze (Xw O)<|Ze (Vd O X1l 0)<|Ze (X09 (l:=[vi y.d.n,.slice aO my aP,.slice aQ y.d.ws.length aR,vi y.d.t,vi y.d.r]) O Xm ((g.at 0).take 5) O)<|Zf (Vc (Xz2 _ y.d my eB aO aP aG.rd.top aQ aR aD.rd.top aD.cap Z) Xq5) ?_;rintro _ gA ⟨bF,bG,bH,bJ,rfl,bK,bL,eL,z⟩;have i:=i.bw z;have p:=btr p z;refine Ze (Xj (vs:=[.agg #[vi ((if (ivD y.d)=true then y.d else zD).n),.slice bF ((if (ivD y.d)=true then y.d else zD).ns).length bG,.slice bH ((if (ivD y.d)=true then y.d else zD).ws).length bJ,vi ((if (ivD y.d)=true then y.d else zD).t),vi ((if (ivD y.d)=true then y.d else zD).r)],.bool (ivD y.d)]) O O)<|Ze (Xj (vs:=[.agg #[vi ((if (ivD y.d)=true then y.d else zD).n),.slice bF ((if (ivD y.d)=true then y.d else zD).ns).length bG,.slice bH ((if (ivD y.d)=true then y.d else zD).ws).length bJ,vi ((if (ivD y.d)=true then y.d else zD).t),vi ((if (ivD y.d)=true then y.d else zD).r)],.bool (ivD y.d)]) O O)<|Zo (Vw [vi ((if (ivD y.d)=true then y.d else zD).n),.slice bF ((if (ivD y.d)=true then y.d else zD).ns).length bG,.slice bH ((if (ivD y.d)=true then y.d else zD).ws).length bJ,vi ((if (ivD y.d)=true then y.d else zD).t),vi ((if (ivD y.d)=true then y.d else zD).r)] X10 i) ?_;rintro _ gC ⟨ho,hb⟩;have bK:=bK.oT ho i O;have bL:=bL.oT ho i O;have p:=Below.oy p ho bU;have i:=hb;refine Za O<|Zt eK fun a q=>?_
 refine Q6 (X4 q (X2u q O (ResV.cellN (l:=[vi ((if (ivD y.d)=true then y.d else zD).n),.slice bF ((if (ivD y.d)=true then y.d else zD).ns).length bG,.slice bH ((if (ivD y.d)=true then y.d else zD).ws).length bJ,vi ((if (ivD y.d)=true then y.d else zD).t),vi ((if (ivD y.d)=true then y.d else zD).r)]) O Xm (i.at 0) O) O) ?_)
 rw [fG,<- bY]
 exact ⟨bF,bG,bH,bJ,O,bK.top,bL.top,eL,p⟩
end Go.Proofs.YtgobkmhhckhbfaaGreatDoor
namespace Go.Proofs.YtgobkmhhckhbfaaGreatDoor
def cj(z:Rg) : Rg:=⟨z.a,-z.d,-z.c,-z.b⟩
theorem Y0s(z:Rg) : (cj z).a=z.a:=rfl
theorem Y0t(z:Rg) : (cj z).b = -z.d:=rfl
theorem Y0u(z:Rg) : (cj z).c = -z.c:=rfl
theorem Y0v(z:Rg) : (cj z).d = -z.b:=rfl
theorem Xuq(x y:Rg) : cj (x+y)=cj x+cj y:=by (apply X3c<;>simp only [Y0s,Y0t,Y0u,Y0v,Xdd,Xde,Xdf,Xdg]<;>omega)
theorem X71(x y:Rg) : cj (x*y)=cj x*cj y:=by (apply X3c<;>simp only [Y0s,Y0t,Y0u,Y0v,X7t,X7u,X7v,X7w]<;>grind)
theorem Y0z:cj s2=s2:=rfl
theorem Xf4:∀ n:Nat,cj (s2^n)=s2^n
 | 0=>rfl
 | n+1=>by rw [show s2^(n+1)=s2^n*s2 from rfl,X71,Xf4 n,Y0z]
def rCj(x:Rg) : Rg:=⟨x.a,wr (-x.d),wr (-x.c),wr (-x.b)⟩
def dCj(x:Dy) : Dy:=⟨rCj x.num,x.exp⟩
theorem Xcs{x:Rg}(h:rOk x=true) : rCj x=cj x:=by
 have h1:=X3l.1 h
 unfold rCj cj
 rw [X0v Z Z,X0v Z Z,X0v Z Z]
theorem Xft{x:Rg}(h:rOk x=true) : rOk (rCj x)=true:=by
 rw [Xcs h]
 have h1:=X3l.1 h;exact X3l.2 ⟨by simp only [cj];omega,by simp only [cj];omega,by simp only [cj];omega,by simp only [cj];omega⟩
theorem Xn1{x:Rg}(h:rOk x=true) : rEven (rCj x)=rEven x:=by
 have h1:=X6q h;have h2:=X6q (Xft h)
 rw [Xcs h] at h2 ⊢
 have:(cj x).a+(cj x).c=x.a-x.c:=by simp only [cj];omega
 have h3:(cj x).b+(cj x).d = -(x.b+x.d):=by simp only [cj];omega
 rw [this,h3] at h2
 cases hx:rEven x<;>cases hy:rEven (cj x)<;>simp only [hx,hy] at h1 h2 ⊢<;>simp at h1 h2<;>omega
theorem Xux{x:Dy}(h:dOk x=true) : dOk (dCj x)=true:=by
 obtain ⟨h1,h2,h3⟩:=X2z.1 h;exact X2z.2 ⟨Xft h1,h2,by rw [show (dCj x).num=rCj x.num from rfl,Xn1 h1];exact h3⟩
theorem Y3m{x:Dy}{m:Nat}{z:Rg}(h:dOk x=true)(hv:V x m z) : V (dCj x) m (cj z):=by
 obtain ⟨h0,k,h1,h2⟩:=hv;exact ⟨h0,k,h1,by rw [h2,X71,Xf4,show (dCj x).num=rCj x.num from rfl,Xcs (X53 h).1]⟩
def adjS(m:Mx) : Mx:=⟨m.cols,m.rows,gridL (fun i j=>dCj (m.at j i)) m.rows.toNat (m.cols.toNat*m.rows.toNat)⟩
theorem Xld{f:Nat->Nat->Dy}{R C i j:Nat}(hi:i<R)(hj:j<C) : (gridL f C (R*C)).getD (i*C+j) dZ=f i j:=by
 have h:i*C+j<R*C:=X4y hi hj
 rw [gridL,Qa,List.getElem?_map,List.getElem?_range h]
 exact Xe0 hj
end Go.Proofs.YtgobkmhhckhbfaaGreatDoor
namespace Go.Proofs.YtgobkmhhckhbfaaGreatDoor
open Go.RowKit
theorem Xj3{c:Cx}(hc:cOk c=true)(hG:goodD (ofD c)=true)(h16:((spL (ofD c).ns).length:Int)+2*(ofD c).n<=16){M:Mx}(hM:opI c=some M){i j:Nat}(hi:i<2^c.n.toNat)(hj:j<2^c.n.toNat){x:Dy}(hx:cellD (ofD c) i j=some x) : x=M.at i j:=by
 obtain ⟨e,N,he,hN,hlen,hio,hsem⟩:=Xx7 hc;have hn:=X9m hc;have hgs:=Xbn hc;have hv:=(Xfm (N:=c.n.toNat) hn.2 hM).1 i j hi hj;have hok:=(Xfm (N:=c.n.toNat) hn.2 hM).2.1;have hx2:=Xcy (Xem hG h16 _) hx
 have hnn:(ofD c).n=((c.n.toNat:Nat) : Int):=(Y24 c).trans hn.2
 have h1:=hsem (bdB (ofD c) i j)
 have b1:∀ q,q<c.n.toNat->bdB (ofD c) i j q=pt c.n.toNat j q:=fun q hq=>by
  unfold bdB
  rw [(hio q hq).1]
  show (bitF (ofD c).n (j:Int) (q:Int)==1)=_
  rw [hnn,X8e hq]
  cases pt c.n.toNat j q<;>rfl
 have b2:∀ q,q<c.n.toNat->bdB (ofD c) i j (N+q)=pt c.n.toNat i q:=fun q hq=>by
  unfold bdB
  rw [(hio q hq).2]
  show (bitF (ofD c).n (i:Int) (q:Int)==1)=_
  rw [hnn,X8e hq]
  cases pt c.n.toNat i q<;>rfl
 have e1:lwB c.n.toNat (bdB (ofD c) i j)=pt c.n.toNat j:=by
  funext q
  unfold lwB
  by_cases hq:q<c.n.toNat
  ·rw [Q4 hq,b1 q hq]
  ·rw [Q3 hq]
   unfold pt
   rw [decide_eq_false hq,Bool.false_and]
 have e2:dlt (fun q=>bdB (ofD c) i j (N+q)) c.n.toNat=eb c.n.toNat i:=by
  funext b
  rw [Xk9]
  unfold eb
  congr 1
  refine propext ⟨fun h q hq=>(h q hq).trans (b2 q hq),fun h q hq=>(h q hq).trans (b2 q hq).symm⟩
 rw [e1,e2,<- Xn6 Z hgs hi hj] at h1
 rw [<- he] at hx2
 have w1:=hx2.1.up (hs c.gs)
 have w2:=hv.up e
 rw [show (-((e:Nat) : Int)).toNat=0 by omega,show s2^0=(1:Rg) from rfl,Xk,Qj,h1,Nat.add_comm] at w1
 have hat:dOk (M.at i j)=true:=Mx.at_ok (X7s hok) i j
 exact Xso hx2.2 hat w1 w2
theorem Xrf{c:Cx}(hc:cOk c=true){M U:Mx}(hM:mnO (ofD c)=some M)(hU:opI c=some U) : M=U:=by
 unfold mnO at hM
 split at hM
 ·rename_i h
  rw [Qd,Qr] at h
  have hn:=X9m hc;obtain ⟨a1,a2,a3,a4⟩:=X4p hM;obtain ⟨_,m1,r1,q1⟩:=Xfm (N:=c.n.toNat) hn.2 hU
  have l1:=(X98 m1).2.2
  rw [r1,q1,Qj] at l1
  rw [Y24] at a1 a2 a3 a4
  rw [Qj] at a1 a4
  exact Xm9 a2 r1 a3 q1 a4 l1 fun i j hi hj=>Xj3 hc h.1 h.2 hU hi hj (a1 i j hi hj)
 ·cases hM
def adNd(x:Nd) : Nd:=if x.k=1 then ⟨2,x.p⟩ else if x.k=2 then ⟨1,x.p⟩ else if x.k=3 then ⟨3,(8-x.p) % 8⟩ else x
def adD(d:Dg) : Dg:={ d with ns:=d.ns.map adNd,t:=(8-d.t) % 8 }
theorem Xul(x:Nd) : ((adNd x).k=3↔x.k=3)/\((adNd x).k=1↔x.k=2)/\((adNd x).k=2↔x.k=1):=by
 unfold adNd
 split
 ·rename_i h;rw [h];show (((2:Int)=3↔(1:Int)=3)/\((2:Int)=1↔(1:Int)=2)/\((2:Int)=2↔(1:Int)=1));decide
 ·split
  ·rename_i _ h;rw [h];show (((1:Int)=3↔(2:Int)=3)/\((1:Int)=1↔(2:Int)=2)/\((1:Int)=2↔(2:Int)=1));decide
  ·split
   ·rename_i _ _ h;rw [h];show (((3:Int)=3↔(3:Int)=3)/\((3:Int)=1↔(3:Int)=2)/\((3:Int)=2↔(3:Int)=1));decide
   ·rename_i h1 h2 h3
    exact ⟨Iff.rfl,⟨fun h=>absurd h h1,fun h=>absurd h h2⟩,⟨fun h=>absurd h h2,fun h=>absurd h h1⟩⟩
theorem Xsw(ns:List Nd)(i:Nat) : (ns.map adNd).getD i nZ=adNd (ns.getD i nZ):=by
 rw [Qa,List.getElem?_map,Qa]
 cases ns[i]?<;>rfl
theorem Xsy(k:Int) : cj (omZ k)=omZ (-k):=by
 have h:∀ n:Nat,n<8->cj (om^n)=om^((8-n) % 8):=fun n hn=>by
  have:n=0∨n=1∨n=2∨n=3∨n=4∨n=5∨n=6∨n=7:=by omega
  rcases this with rfl|rfl|rfl|rfl|rfl|rfl|rfl|rfl<;>decide
 unfold omZ
 rw [h _ Z]
 congr 1
 omega
theorem Y0x(h x y:Bool) : cj (gf h x y)=gf h x y:=by cases h<;>cases x<;>cases y<;>decide
theorem Xsz:∀ (ws:List Wr) (β:Nat->Bool),cj (wP ws β)=wP ws β
 | [],_=>rfl
 | w::ws,β=>by
  show cj (wf w β*wP ws β)=wf w β*wP ws β
  rw [X71,Xsz ws β]
  unfold wf
  rw [Y0x]
theorem Y0y(x:Nd)(b:Bool) : cj (nf x b)=nf (adNd x) b:=by
 have hk:=(Xul x).1
 unfold nf
 by_cases h3:x.k=3
 ·have e:adNd x=⟨3,(8-x.p) % 8⟩:=by unfold adNd;rw [Q3 Z,Q3 Z,Q4 h3]
  rw [e,h3]
  cases b
  ·rfl
  ·show cj (omZ x.p)=omZ ((8-x.p) % 8)
   rw [Xsy]
   exact Xa3 (Cg.symm ((Cg.mod _).trans ⟨1,by omega⟩))
 ·rw [show (x.k==3)=false by simpa using h3,show ((adNd x).k==3)=false by simpa using fun h=>h3 (hk.1 h)]
  rfl
theorem Xsx:∀ (ns:List Nd) (k:Nat) (β:Nat->Bool),cj (nP ns k β)=nP (ns.map adNd) k β
 | [],_,_=>rfl
 | x::ns,k,β=>by
  show cj (nf x (β k)*nP ns (k+1) β)=nf (adNd x) (β k)*nP (ns.map adNd) (k+1) β
  rw [X71,Y0y,Xsx ns (k+1) β]
theorem Y0w(d:Dg)(β:Nat->Bool) : fD (adD d) β=cj (fD d β):=by
 unfold fD adD
 dsimp only
 rw [X71,X71,Xsy,Xsx,Xsz]
 congr 1
 exact Xa3 ((Cg.mod _).trans ⟨1,by omega⟩)
theorem Xk3:∀ (l:List Nat) (G:(Nat->Bool)->Rg) (β:Nat->Bool),zL l (fun β=>cj (G β)) β=cj (zL l G β)
 | [],_,_=>rfl
 | k::l,G,β=>by unfold zL;rw [Xk3 l,Xk3 l,Xuq]
theorem Xxq(ns:List Nd) : spS (ns.map adNd)=spS ns:=by
 unfold spS
 rw [Qo]
 refine List.filter_congr fun i _=>?_
 rw [Xsw]
 have:=(Xul (ns.getD i nZ)).1
 by_cases h:(ns.getD i nZ).k=3
 ·rw [h,this.2 h]
 ·rw [show ((ns.getD i nZ).k==3)=false by simpa using h,show ((adNd (ns.getD i nZ)).k==3)=false by simpa using fun h2=>h (this.1 h2)]
theorem Xxn(d:Dg)(β:Nat->Bool) : smD (adD d) β=cj (smD d β):=by
 unfold smD
 show zL (spS (d.ns.map adNd)) _ β=_
 rw [Xxq,<- Xk3]
 exact X36 _ _ fun γ=>Y0w d γ
theorem Xuo(d:Dg)(i j:Int) : bdB (adD d) i j=bdB d j i:=by
 funext q
 unfold bdB
 have e:(adD d).ns.getD q nZ=adNd (d.ns.getD q nZ):=Xsw _ _
 rw [e,show (adD d).n=d.n from rfl]
 have hk:=Xul (d.ns.getD q nZ)
 have hp1:(d.ns.getD q nZ).k=1->(adNd (d.ns.getD q nZ)).p=(d.ns.getD q nZ).p:=fun h=>by unfold adNd;rw [Q4 h]
 have hp2:(d.ns.getD q nZ).k=2->(adNd (d.ns.getD q nZ)).p=(d.ns.getD q nZ).p:=fun h=>by unfold adNd;rw [Q3 Z,Q4 h]
 generalize adNd (d.ns.getD q nZ)=y at *
 generalize d.ns.getD q nZ=x at *
 by_cases h1:x.k=1
 ·have h2:=hk.2.2.2 h1
  rw [hp1 h1]
  simp [h1,h2]
 ·by_cases h2:x.k=2
  ·have h3:=hk.2.1.2 h2
   rw [hp2 h2]
   simp [h2,h3]
  ·have a1:¬ y.k=1:=fun h=>h2 (hk.2.1.1 h)
   have a2:¬ y.k=2:=fun h=>h1 (hk.2.2.1 h)
   simp [h1,h2,a1,a2]
theorem Xxi{z:Rg}(h:rOk z=true) : rOk (cj z)=true:=by rw [<- Xcs h];exact Xft h
theorem Xm1{d:Dg}(hG:goodD d=true){M N:Mx}(hM:mnO d=some M)(hN:mnO (adD d)=some N) : N=adjS M:=by
 have hM0:=hM
 unfold mnO at hM hN
 split at hM
 ·split at hN
  ·rename_i h1 h2
   rw [Qd,Qr] at h1 h2
   obtain ⟨a1,a2,a3,a4⟩:=X4p hM;obtain ⟨b1,b2,b3,b4⟩:=X4p hN
   have hn:(adD d).n=d.n:=rfl
   rw [hn] at b1 b2 b3 b4
   rw [Qj] at a1 a4 b1 b4
   refine Xm9 b2 a3 b3 a2 b4 (by simp only [adjS,X56];rw [a2,a3,Qj]) fun i j hi hj=>?_
   have e1:(adjS M).at i j=dCj (M.at j i):=by
    show (gridL (fun i j=>dCj (M.at j i)) M.rows.toNat (M.cols.toNat*M.rows.toNat)).getD (i*M.rows.toNat+j) dZ=_
    rw [a2,a3,Qj]
    exact Xld hi hj
   have x1:=a1 j i hj hi
   have y1:=b1 i j hi hj
   have z1:=Xem hG h1.2 (bdB d j i)
   have x2:=Xcy z1 x1
   have ey:cellD (adD d) i j=sclI (cj (smD d (bdB d j i))) (exD d):=by
    unfold cellD
    rw [Xuo,Xxn]
    rfl
   rw [ey] at y1
   have y2:=Xcy (Xxi z1) y1
   rw [e1]
   have w:=Y3m x2.2 x2.1
   rw [X71,Xf4] at w
   exact Xso y2.2 (Xux x2.2) y2.1 w
  ·cases hN
 ·cases hM
theorem Xlq:∀ (a r:List UInt8) {c:UInt8},c ∉ a->Lib.indexByte (a++c::r) c=a.length
 | [],r,c,_=>by
  show (if c==c then (0:Int) else _)=_
  rw [Q4 O5]
  rfl
 | b::a,r,c,h=>by
  have hb:¬ (b==c)=true:=fun h9=>h (by rw [<- beq_iff_eq.1 h9];simp)
  have ih:=Xlq a r (c:=c) fun h9=>h (by simp [h9])
  show (if b==c then (0:Int) else if Lib.indexByte (a++c::r) c == -1 then -1 else Lib.indexByte (a++c::r) c+1)=_
  rw [Q3 hb,ih,Q3 (by rw [beq_iff_eq];omega),Qs]
  omega
theorem Xlr:∀ (a:List UInt8) {c:UInt8},c ∉ a->Lib.indexByte a c = -1
 | [],c,_=>rfl
 | b::a,c,h=>by
  have hb:¬ (b==c)=true:=fun h9=>h (by rw [<- beq_iff_eq.1 h9];simp)
  have ih:=Xlr a (c:=c) fun h9=>h (by simp [h9])
  show (if b==c then (0:Int) else if Lib.indexByte a c == -1 then -1 else Lib.indexByte a c+1)=_
  rw [Q3 hb,ih]
  rfl
theorem Xls(a r:List UInt8){c:UInt8}(h:c ∉ a) : Lib.index (a++c::r) [c]=a.length:=by rw [Lib.index_one];exact Xlq a r h
theorem Xtj(a:List UInt8){c:UInt8}(h:c ∉ a) : Lib.index a [c] = -1:=by rw [Lib.index_one];exact Xlr a h
theorem Xbq(a r:List UInt8)(c:UInt8) : (a++c::r).drop (a.length+1)=r:=by
 rw [List.drop_append]
 simp
theorem X2y(x y:List UInt8)(r:List (List UInt8))(c:UInt8) : Lib.join (x::y::r) [c]=x++c::Lib.join (y::r) [c]:=by
 rw [Lib.join_cons,Lib.join_cons]
 unfold Lib.joinTail
 simp
theorem X76{c:UInt8} : ∀ (ps:List (List UInt8)) (x:List UInt8),(∀ p ∈ x::ps,c ∉ p)->Lib.count (Lib.join (x::ps) [c]) [c]=ps.length/\Lib.splitK [c] 0 ps.length (Lib.join (x::ps) [c])=x::ps
 | [],x,h=>by
  rw [Lib.join_one]
  exact ⟨Lib.count_miss (Xtj x (h x O5)),O⟩
 | y::ps,x,h=>by
  have hx:=h x O5
  have ih:=X76 ps y fun p hp=>h p (by simp only [Qv] at hp ⊢;exact .inr hp)
  have e1:=Xls x (Lib.join (y::ps) [c]) hx
  rw [X2y]
  refine ⟨?_,?_⟩
  ·rw [Lib.count_hit O5 e1,List.length_singleton,Xbq,ih.1,Qs]
   omega
  ·rw [Qs]
   unfold Lib.splitK
   rw [e1,Q3 (by rw [beq_iff_eq];omega),show ((x.length:Int).toNat+[c].length)=x.length+1 from O,Xbq,ih.2]
   simp
section
end
end Go.Proofs.YtgobkmhhckhbfaaGreatDoor
namespace Go.Proofs
open Go.Shelf
def Tryz.lays156_ren:Go.Shelf.Ren:=⟨fun|156=>41|165=>88|166=>89|169=>90|240=>124|241=>125|276=>164|277=>165|n=>n,fun|31=>88|9=>9|3=>3|4=>4|0=>0|20=>20|72=>138|76=>141|70=>136|37=>22|75=>140|127=>167|164=>191|5=>5|80=>143|n=>n,fun|n=>n⟩
theorem Tryz.lays156:Go.Proofs.Lays.n156 Tryz.prog Tryz.lays156_ren:={
  mixed:=by kernel_rfl
  f156:=Tryz.func41.trans (congrArg some (by kernel_rfl))
  f165:=Tryz.func88.trans (congrArg some (by kernel_rfl))
  f166:=Tryz.func89.trans (congrArg some (by kernel_rfl))
  f169:=Tryz.func90.trans (congrArg some (by kernel_rfl))
  f240:=Tryz.func124.trans (congrArg some (by kernel_rfl))
  f241:=Tryz.func125.trans (congrArg some (by kernel_rfl))
  f276:=Tryz.func164.trans (congrArg some (by kernel_rfl))
  f277:=Tryz.func165.trans (congrArg some (by kernel_rfl))
  t0:=Tryz.underlying0
  a0:=Tryz.isAgg0
  z0:=Tryz.sizeOf0
  v0:=Tryz.zeroValue0
  t3:=Tryz.underlying3
  a3:=Tryz.isAgg3
  z3:=Tryz.sizeOf3
  v3:=Tryz.zeroValue3
  t4:=Tryz.underlying4
  a4:=Tryz.isAgg4
  z4:=Tryz.sizeOf4
  v4:=Tryz.zeroValue4
  t9:=Tryz.underlying9
  a9:=Tryz.isAgg9
  z9:=Tryz.sizeOf9
  v9:=Tryz.zeroValue9
  t20:=Tryz.underlying20
  a20:=Tryz.isAgg20
  z20:=Tryz.sizeOf20
  v20:=Tryz.zeroValue20
  t31:=Tryz.underlying88
  a31:=Tryz.isAgg88
  z31:=Tryz.sizeOf88
  v31:=Tryz.zeroValue88
  t37:=Tryz.underlying22
  a37:=Tryz.isAgg22
  z37:=Tryz.sizeOf22
  v37:=Tryz.zeroValue22
  t70:=Tryz.underlying136
  a70:=Tryz.isAgg136
  z70:=Tryz.sizeOf136
  v70:=Tryz.zeroValue136
  t72:=Tryz.underlying138
  a72:=Tryz.isAgg138
  z72:=Tryz.sizeOf138
  v72:=Tryz.zeroValue138
  t75:=Tryz.underlying140
  a75:=Tryz.isAgg140
  z75:=Tryz.sizeOf140
  v75:=Tryz.zeroValue140
  t76:=Tryz.underlying141
  a76:=Tryz.isAgg141
  z76:=Tryz.sizeOf141
  v76:=Tryz.zeroValue141
  t127:=Tryz.underlying167
  a127:=Tryz.isAgg167
  z127:=Tryz.sizeOf167
  v127:=Tryz.zeroValue167
  t164:=Tryz.underlying191
  a164:=Tryz.isAgg191
  z164:=Tryz.sizeOf191
  v164:=Tryz.zeroValue191 }
theorem Tryz.Builder_Extra_156:Builder.Extra Tryz.prog Tryz.lays156_ren:={
  sizeBuilder:=by kernel_rfl
  liesBuilder:=by kernel_rfl
  t5:=Tryz.underlying5
  a5:=Tryz.isAgg5
  z5:=Tryz.sizeOf5
  v5:=Tryz.zeroValue5
  infoByte:=by kernel_rfl
  cellsByte:=by kernel_rfl
  sizeByte:=by kernel_rfl
  neB5:=by decide }
open Go.RowKit in
theorem Tryz.strings_Join_none(a:Option Addr)(c:Nat)(sep:ByteArray)(w:World) :
    Calls Tryz.prog 41 #[.slice a 0 c,.string sep] w fun e w'=>e=.returned (.string ⟨#[]⟩)/\w'=w:=Any.strings_Join_none Tryz.lays156 Tryz.Builder_Extra_156 a c sep w
open Go.RowKit in
theorem Tryz.strings_Join(bk o c:Nat)(xs:List ByteArray)(sep:ByteArray)(w:World)(hcells:∀ (j:Nat) x,xs[j]? = some x->w.cell? ⟨bk,o+j,none⟩=some (.string x))(hbk:bk<w.heap.size)(hN:xs.length<=140737488355328)(hcap:xs.length<=c)(hlen:(Lib.join (xs.map (·.data.toList)) sep.data.toList).length<=140737488355328) :
    Calls Tryz.prog 41 #[.slice (some ⟨bk,o,none⟩) xs.length c,.string sep] w fun e w'=>e=.returned (.string ⟨(Lib.join (xs.map (·.data.toList)) sep.data.toList).toArray⟩)/\Below w.heap.size w w':=Any.strings_Join Tryz.lays156 Tryz.Builder_Extra_156 bk o c xs sep w hcells hbk hN hcap hlen
def Tryz.lays137_ren:Go.Shelf.Ren:=⟨fun|137=>93|217=>131|266=>175|n=>n,fun|9=>9|5=>5|3=>3|n=>n,fun|n=>n⟩
theorem Tryz.lays137:Go.Proofs.Lays.n137 Tryz.prog Tryz.lays137_ren:={
  mixed:=by kernel_rfl
  f137:=Tryz.func93.trans (congrArg some (by kernel_rfl))
  f217:=Tryz.func131.trans (congrArg some (by kernel_rfl))
  f266:=Tryz.func175.trans (congrArg some (by kernel_rfl))
  t3:=Tryz.underlying3
  a3:=Tryz.isAgg3
  z3:=Tryz.sizeOf3
  v3:=Tryz.zeroValue3
  t5:=Tryz.underlying5
  a5:=Tryz.isAgg5
  z5:=Tryz.sizeOf5
  v5:=Tryz.zeroValue5
  t9:=Tryz.underlying9
  a9:=Tryz.isAgg9
  z9:=Tryz.sizeOf9
  v9:=Tryz.zeroValue9 }
open Go.RowKit in
theorem Tryz.strings_IndexByte(s:ByteArray)(c:Int)(w:World) :
    Calls Tryz.prog 93 #[.string s,.int .u8 c] w fun e w'=>e=.returned (.int .i64 (Lib.indexByte s.data.toList c.toNat.toUInt8))/\w'=w:=Any.strings_IndexByte Tryz.lays137 s c w
def Tryz.lays172_ren:Go.Shelf.Ren:=⟨fun|172=>92|244=>129|245=>130|247=>170|279=>171|280=>172|281=>173|282=>174|287=>198|316=>199|171=>38|205=>200|321=>210|322=>211|243=>87|246=>123|283=>160|284=>161|285=>162|286=>163|129=>187|317=>190|318=>191|319=>192|320=>193|337=>207|338=>208|n=>n,fun|9=>9|3=>3|75=>140|76=>141|4=>4|5=>5|167=>197|37=>22|0=>0|85=>198|2=>2|168=>200|53=>50|175=>216|46=>87|210=>220|127=>167|145=>238|143=>236|21=>21|171=>186|173=>189|212=>214|51=>212|20=>20|213=>215|232=>242|233=>243|80=>143|n=>n,fun|15=>2|16=>3|17=>0|18=>6|19=>7|n=>n⟩
theorem Tryz.lays172:Go.Proofs.Lays.n172 Tryz.prog Tryz.lays172_ren:={
  mixed:=by kernel_rfl
  f129:=Tryz.func187.trans (congrArg some (by kernel_rfl))
  f171:=Tryz.func38.trans (congrArg some (by kernel_rfl))
  f172:=Tryz.func92.trans (congrArg some (by kernel_rfl))
  f205:=Tryz.func200.trans (congrArg some (by kernel_rfl))
  f243:=Tryz.func87.trans (congrArg some (by kernel_rfl))
  f244:=Tryz.func129.trans (congrArg some (by kernel_rfl))
  f245:=Tryz.func130.trans (congrArg some (by kernel_rfl))
  f246:=Tryz.func123.trans (congrArg some (by kernel_rfl))
  f247:=Tryz.func170.trans (congrArg some (by kernel_rfl))
  f279:=Tryz.func171.trans (congrArg some (by kernel_rfl))
  f280:=Tryz.func172.trans (congrArg some (by kernel_rfl))
  f281:=Tryz.func173.trans (congrArg some (by kernel_rfl))
  f282:=Tryz.func174.trans (congrArg some (by kernel_rfl))
  f283:=Tryz.func160.trans (congrArg some (by kernel_rfl))
  f284:=Tryz.func161.trans (congrArg some (by kernel_rfl))
  f285:=Tryz.func162.trans (congrArg some (by kernel_rfl))
  f286:=Tryz.func163.trans (congrArg some (by kernel_rfl))
  f287:=Tryz.func198.trans (congrArg some (by kernel_rfl))
  f316:=Tryz.func199.trans (congrArg some (by kernel_rfl))
  f317:=Tryz.func190.trans (congrArg some (by kernel_rfl))
  f318:=Tryz.func191.trans (congrArg some (by kernel_rfl))
  f319:=Tryz.func192.trans (congrArg some (by kernel_rfl))
  f320:=Tryz.func193.trans (congrArg some (by kernel_rfl))
  f321:=Tryz.func210.trans (congrArg some (by kernel_rfl))
  f322:=Tryz.func211.trans (congrArg some (by kernel_rfl))
  f337:=Tryz.func207.trans (congrArg some (by kernel_rfl))
  f338:=Tryz.func208.trans (congrArg some (by kernel_rfl))
  t0:=Tryz.underlying0
  a0:=Tryz.isAgg0
  z0:=Tryz.sizeOf0
  v0:=Tryz.zeroValue0
  t2:=Tryz.underlying2
  a2:=Tryz.isAgg2
  z2:=Tryz.sizeOf2
  v2:=Tryz.zeroValue2
  t3:=Tryz.underlying3
  a3:=Tryz.isAgg3
  z3:=Tryz.sizeOf3
  v3:=Tryz.zeroValue3
  t4:=Tryz.underlying4
  a4:=Tryz.isAgg4
  z4:=Tryz.sizeOf4
  v4:=Tryz.zeroValue4
  t5:=Tryz.underlying5
  a5:=Tryz.isAgg5
  z5:=Tryz.sizeOf5
  v5:=Tryz.zeroValue5
  t9:=Tryz.underlying9
  a9:=Tryz.isAgg9
  z9:=Tryz.sizeOf9
  v9:=Tryz.zeroValue9
  t20:=Tryz.underlying20
  a20:=Tryz.isAgg20
  z20:=Tryz.sizeOf20
  v20:=Tryz.zeroValue20
  t21:=Tryz.underlying21
  a21:=Tryz.isAgg21
  z21:=Tryz.sizeOf21
  v21:=Tryz.zeroValue21
  t37:=Tryz.underlying22
  a37:=Tryz.isAgg22
  z37:=Tryz.sizeOf22
  v37:=Tryz.zeroValue22
  t46:=Tryz.underlying87
  a46:=Tryz.isAgg87
  z46:=Tryz.sizeOf87
  v46:=Tryz.zeroValue87
  t51:=Tryz.underlying212
  a51:=Tryz.isAgg212
  z51:=Tryz.sizeOf212
  v51:=Tryz.zeroValue212
  t53:=Tryz.underlying50
  a53:=Tryz.isAgg50
  z53:=Tryz.sizeOf50
  v53:=Tryz.zeroValue50
  t75:=Tryz.underlying140
  a75:=Tryz.isAgg140
  z75:=Tryz.sizeOf140
  v75:=Tryz.zeroValue140
  t76:=Tryz.underlying141
  a76:=Tryz.isAgg141
  z76:=Tryz.sizeOf141
  v76:=Tryz.zeroValue141
  t85:=Tryz.underlying198
  a85:=Tryz.isAgg198
  z85:=Tryz.sizeOf198
  v85:=Tryz.zeroValue198
  t127:=Tryz.underlying167
  a127:=Tryz.isAgg167
  z127:=Tryz.sizeOf167
  v127:=Tryz.zeroValue167
  t143:=Tryz.underlying236
  a143:=Tryz.isAgg236
  z143:=Tryz.sizeOf236
  v143:=Tryz.zeroValue236
  t145:=Tryz.underlying238
  a145:=Tryz.isAgg238
  z145:=Tryz.sizeOf238
  v145:=Tryz.zeroValue238
  t167:=Tryz.underlying197
  a167:=Tryz.isAgg197
  z167:=Tryz.sizeOf197
  v167:=Tryz.zeroValue197
  t168:=Tryz.underlying200
  a168:=Tryz.isAgg200
  z168:=Tryz.sizeOf200
  v168:=Tryz.zeroValue200
  t171:=Tryz.underlying186
  a171:=Tryz.isAgg186
  z171:=Tryz.sizeOf186
  v171:=Tryz.zeroValue186
  t173:=Tryz.underlying189
  a173:=Tryz.isAgg189
  z173:=Tryz.sizeOf189
  v173:=Tryz.zeroValue189
  t175:=Tryz.underlying216
  a175:=Tryz.isAgg216
  z175:=Tryz.sizeOf216
  v175:=Tryz.zeroValue216
  t210:=Tryz.underlying220
  a210:=Tryz.isAgg220
  z210:=Tryz.sizeOf220
  v210:=Tryz.zeroValue220
  t212:=Tryz.underlying214
  a212:=Tryz.isAgg214
  z212:=Tryz.sizeOf214
  v212:=Tryz.zeroValue214
  t213:=Tryz.underlying215
  a213:=Tryz.isAgg215
  z213:=Tryz.sizeOf215
  t232:=Tryz.underlying242
  a232:=Tryz.isAgg242
  z232:=Tryz.sizeOf242
  v232:=Tryz.zeroValue242
  t233:=Tryz.underlying243
  a233:=Tryz.isAgg243
  z233:=Tryz.sizeOf243
  v233:=Tryz.zeroValue243
  g15:=by kernel_rfl
  g16:=by kernel_rfl
  g17:=by kernel_rfl
  g18:=by kernel_rfl
  g19:=by kernel_rfl }
open Go.RowKit in
theorem Tryz.strconv_Atoi(s:ByteArray)(n:Int)(hl:s.size<=18)(h:Lib.atoi s.data.toList=some n)(w:World) :
    Calls Tryz.prog 92 #[.string s] w fun e w'=>e=.returned (.tuple #[.int .i64 n,.nilIface])/\∃ t,w'=Lib.bytesWorld w 5 t:=Any.strconv_Atoi Tryz.lays172 s n hl h w
def Tryz.laysM171_ren:Go.Shelf.Ren:=⟨fun|171=>38|243=>87|246=>123|283=>160|284=>161|285=>162|286=>163|129=>187|317=>190|318=>191|319=>192|320=>193|337=>207|338=>208|n=>n,fun|3=>3|9=>9|2=>2|4=>4|171=>186|0=>0|53=>50|37=>22|5=>5|173=>189|212=>214|51=>212|20=>20|213=>215|46=>87|232=>242|233=>243|n=>n,fun|17=>0|18=>6|19=>7|n=>n⟩
theorem Tryz.laysM171:Go.Proofs.LaysM.n171 Tryz.prog Tryz.laysM171_ren:={
  mixed:=by kernel_rfl
  f129:=Tryz.func187.trans (congrArg some (by kernel_rfl))
  f171:=Tryz.func38.trans (congrArg some (by kernel_rfl))
  f243:=Tryz.func87.trans (congrArg some (by kernel_rfl))
  f246:=Tryz.func123.trans (congrArg some (by kernel_rfl))
  f283:=Tryz.func160.trans (congrArg some (by kernel_rfl))
  f284:=Tryz.func161.trans (congrArg some (by kernel_rfl))
  f285:=Tryz.func162.trans (congrArg some (by kernel_rfl))
  f286:=Tryz.func163.trans (congrArg some (by kernel_rfl))
  f317:=Tryz.func190.trans (congrArg some (by kernel_rfl))
  f318:=Tryz.func191.trans (congrArg some (by kernel_rfl))
  f319:=Tryz.func192.trans (congrArg some (by kernel_rfl))
  f320:=Tryz.func193.trans (congrArg some (by kernel_rfl))
  f337:=Tryz.func207.trans (congrArg some (by kernel_rfl))
  f338:=Tryz.func208.trans (congrArg some (by kernel_rfl))
  t0:=Tryz.underlying0
  a0:=Tryz.isAgg0
  z0:=Tryz.sizeOf0
  v0:=Tryz.zeroValue0
  t2:=Tryz.underlying2
  a2:=Tryz.isAgg2
  z2:=Tryz.sizeOf2
  v2:=Tryz.zeroValue2
  t3:=Tryz.underlying3
  a3:=Tryz.isAgg3
  z3:=Tryz.sizeOf3
  v3:=Tryz.zeroValue3
  t4:=Tryz.underlying4
  a4:=Tryz.isAgg4
  z4:=Tryz.sizeOf4
  v4:=Tryz.zeroValue4
  t5:=Tryz.underlying5
  a5:=Tryz.isAgg5
  z5:=Tryz.sizeOf5
  v5:=Tryz.zeroValue5
  t9:=Tryz.underlying9
  a9:=Tryz.isAgg9
  z9:=Tryz.sizeOf9
  v9:=Tryz.zeroValue9
  t20:=Tryz.underlying20
  a20:=Tryz.isAgg20
  z20:=Tryz.sizeOf20
  v20:=Tryz.zeroValue20
  t37:=Tryz.underlying22
  a37:=Tryz.isAgg22
  z37:=Tryz.sizeOf22
  v37:=Tryz.zeroValue22
  t46:=Tryz.underlying87
  a46:=Tryz.isAgg87
  z46:=Tryz.sizeOf87
  v46:=Tryz.zeroValue87
  t51:=Tryz.underlying212
  a51:=Tryz.isAgg212
  z51:=Tryz.sizeOf212
  v51:=Tryz.zeroValue212
  t53:=Tryz.underlying50
  a53:=Tryz.isAgg50
  z53:=Tryz.sizeOf50
  v53:=Tryz.zeroValue50
  t171:=Tryz.underlying186
  a171:=Tryz.isAgg186
  z171:=Tryz.sizeOf186
  v171:=Tryz.zeroValue186
  t173:=Tryz.underlying189
  a173:=Tryz.isAgg189
  z173:=Tryz.sizeOf189
  v173:=Tryz.zeroValue189
  t212:=Tryz.underlying214
  a212:=Tryz.isAgg214
  z212:=Tryz.sizeOf214
  v212:=Tryz.zeroValue214
  t213:=Tryz.underlying215
  a213:=Tryz.isAgg215
  z213:=Tryz.sizeOf215
  t232:=Tryz.underlying242
  a232:=Tryz.isAgg242
  z232:=Tryz.sizeOf242
  v232:=Tryz.zeroValue242
  t233:=Tryz.underlying243
  a233:=Tryz.isAgg243
  z233:=Tryz.sizeOf243
  v233:=Tryz.zeroValue243
  g17:=by kernel_rfl
  g18:=by kernel_rfl
  g19:=by kernel_rfl
  i0:=by kernel_rfl
  i2:=by kernel_rfl
  i3:=by kernel_rfl
  i4:=by kernel_rfl
  i5:=by kernel_rfl
  i9:=by kernel_rfl
  i20:=by kernel_rfl
  i37:=by kernel_rfl
  i46:=by kernel_rfl
  i51:=by kernel_rfl
  i53:=by kernel_rfl
  i171:=by kernel_rfl
  i173:=by kernel_rfl
  i212:=by kernel_rfl
  i232:=by kernel_rfl
  i233:=by kernel_rfl
  m17:=by kernel_rfl
  m18:=by kernel_rfl
  m19:=by kernel_rfl }
open Go.RowKit Go.Sort Go.Lib in
theorem Tryz.strconv_Itoa (n : Int) (h0 : -9223372036854775808 <= n) (h1 : n <= 9223372036854775807) (w : World) (htab : Lib.TabIs Tryz.prog w "internal/strconv.uint64pow10" .u64 Lib.pow10Tab) :
    Calls Tryz.prog 38 #[.int .i64 n] w fun e w'=>e=.returned (.string ⟨(Lib.itoa n).toArray⟩)/\∃ k os,w'=grow (w.drewN k) os:=Any.strconv_Itoa Tryz.laysM171 n h0 h1 w htab
def Tryz.lays145_ren:Go.Shelf.Ren:=⟨fun|145=>94|220=>132|219=>169|217=>131|225=>195|224=>196|267=>197|266=>175|314=>209|n=>n,fun|9=>9|4=>4|59=>146|3=>3|5=>5|46=>87|146=>232|51=>212|n=>n,fun|1=>1|n=>n⟩
theorem Tryz.lays145:Go.Proofs.Lays.n145 Tryz.prog Tryz.lays145_ren:={
  mixed:=by kernel_rfl
  f145:=Tryz.func94.trans (congrArg some (by kernel_rfl))
  f217:=Tryz.func131.trans (congrArg some (by kernel_rfl))
  f219:=Tryz.func169.trans (congrArg some (by kernel_rfl))
  f220:=Tryz.func132.trans (congrArg some (by kernel_rfl))
  f224:=Tryz.func196.trans (congrArg some (by kernel_rfl))
  f225:=Tryz.func195.trans (congrArg some (by kernel_rfl))
  f266:=Tryz.func175.trans (congrArg some (by kernel_rfl))
  f267:=Tryz.func197.trans (congrArg some (by kernel_rfl))
  f314:=Tryz.func209.trans (congrArg some (by kernel_rfl))
  t3:=Tryz.underlying3
  a3:=Tryz.isAgg3
  z3:=Tryz.sizeOf3
  v3:=Tryz.zeroValue3
  t4:=Tryz.underlying4
  a4:=Tryz.isAgg4
  z4:=Tryz.sizeOf4
  v4:=Tryz.zeroValue4
  t5:=Tryz.underlying5
  a5:=Tryz.isAgg5
  z5:=Tryz.sizeOf5
  v5:=Tryz.zeroValue5
  t9:=Tryz.underlying9
  a9:=Tryz.isAgg9
  z9:=Tryz.sizeOf9
  v9:=Tryz.zeroValue9
  t46:=Tryz.underlying87
  a46:=Tryz.isAgg87
  z46:=Tryz.sizeOf87
  v46:=Tryz.zeroValue87
  t51:=Tryz.underlying212
  a51:=Tryz.isAgg212
  z51:=Tryz.sizeOf212
  v51:=Tryz.zeroValue212
  t59:=Tryz.underlying146
  a59:=Tryz.isAgg146
  z59:=Tryz.sizeOf146
  v59:=Tryz.zeroValue146
  t146:=Tryz.underlying232
  a146:=Tryz.isAgg232
  z146:=Tryz.sizeOf232
  v146:=Tryz.zeroValue232
  g1:=by kernel_rfl }
open Go.RowKit Go.Lib in
theorem Tryz.strings_Cut(s sep:ByteArray)(m:Int)(w:World)(hs:s.size<4294967281)(hm:w.cell? ⟨1,0,none⟩=some (.int .i64 m)) :
    Calls Tryz.prog 94 #[.string s,.string sep] w fun e w'=>e=.returned (.tuple #[.string ⟨(Lib.cut s.data.toList sep.data.toList).1.toArray⟩,.string ⟨(Lib.cut s.data.toList sep.data.toList).2.1.toArray⟩,.bool (Lib.cut s.data.toList sep.data.toList).2.2])/\∃ n,w'=w.drewN n:=Any.strings_Cut Tryz.lays145 s sep m w hs hm
def Tryz.lays146_ren:Go.Shelf.Ren:=⟨fun|146=>42|221=>91|268=>126|138=>127|143=>128|195=>166|197=>167|218=>168|219=>169|260=>194|217=>131|225=>195|224=>196|267=>197|266=>175|314=>209|n=>n,fun|9=>9|31=>88|3=>3|4=>4|0=>0|105=>195|21=>21|5=>5|46=>87|119=>228|139=>231|138=>230|146=>232|51=>212|n=>n,fun|1=>1|3=>4|4=>5|n=>n⟩
theorem Tryz.lays146:Go.Proofs.Lays.n146 Tryz.prog Tryz.lays146_ren:={
  mixed:=by kernel_rfl
  f138:=Tryz.func127.trans (congrArg some (by kernel_rfl))
  f143:=Tryz.func128.trans (congrArg some (by kernel_rfl))
  f146:=Tryz.func42.trans (congrArg some (by kernel_rfl))
  f195:=Tryz.func166.trans (congrArg some (by kernel_rfl))
  f197:=Tryz.func167.trans (congrArg some (by kernel_rfl))
  f217:=Tryz.func131.trans (congrArg some (by kernel_rfl))
  f218:=Tryz.func168.trans (congrArg some (by kernel_rfl))
  f219:=Tryz.func169.trans (congrArg some (by kernel_rfl))
  f221:=Tryz.func91.trans (congrArg some (by kernel_rfl))
  f224:=Tryz.func196.trans (congrArg some (by kernel_rfl))
  f225:=Tryz.func195.trans (congrArg some (by kernel_rfl))
  f260:=Tryz.func194.trans (congrArg some (by kernel_rfl))
  f266:=Tryz.func175.trans (congrArg some (by kernel_rfl))
  f267:=Tryz.func197.trans (congrArg some (by kernel_rfl))
  f268:=Tryz.func126.trans (congrArg some (by kernel_rfl))
  f314:=Tryz.func209.trans (congrArg some (by kernel_rfl))
  t0:=Tryz.underlying0
  a0:=Tryz.isAgg0
  z0:=Tryz.sizeOf0
  v0:=Tryz.zeroValue0
  t3:=Tryz.underlying3
  a3:=Tryz.isAgg3
  z3:=Tryz.sizeOf3
  v3:=Tryz.zeroValue3
  t4:=Tryz.underlying4
  a4:=Tryz.isAgg4
  z4:=Tryz.sizeOf4
  v4:=Tryz.zeroValue4
  t5:=Tryz.underlying5
  a5:=Tryz.isAgg5
  z5:=Tryz.sizeOf5
  v5:=Tryz.zeroValue5
  t9:=Tryz.underlying9
  a9:=Tryz.isAgg9
  z9:=Tryz.sizeOf9
  v9:=Tryz.zeroValue9
  t21:=Tryz.underlying21
  a21:=Tryz.isAgg21
  z21:=Tryz.sizeOf21
  v21:=Tryz.zeroValue21
  t31:=Tryz.underlying88
  a31:=Tryz.isAgg88
  z31:=Tryz.sizeOf88
  v31:=Tryz.zeroValue88
  t46:=Tryz.underlying87
  a46:=Tryz.isAgg87
  z46:=Tryz.sizeOf87
  v46:=Tryz.zeroValue87
  t51:=Tryz.underlying212
  a51:=Tryz.isAgg212
  z51:=Tryz.sizeOf212
  v51:=Tryz.zeroValue212
  t105:=Tryz.underlying195
  a105:=Tryz.isAgg195
  z105:=Tryz.sizeOf195
  v105:=Tryz.zeroValue195
  t119:=Tryz.underlying228
  a119:=Tryz.isAgg228
  z119:=Tryz.sizeOf228
  t138:=Tryz.underlying230
  a138:=Tryz.isAgg230
  z138:=Tryz.sizeOf230
  v138:=Tryz.zeroValue230
  t139:=Tryz.underlying231
  a139:=Tryz.isAgg231
  z139:=Tryz.sizeOf231
  v139:=Tryz.zeroValue231
  t146:=Tryz.underlying232
  a146:=Tryz.isAgg232
  z146:=Tryz.sizeOf232
  v146:=Tryz.zeroValue232
  g1:=by kernel_rfl
  g3:=by kernel_rfl
  g4:=by kernel_rfl }
open Go.RowKit Go.Lib in
theorem Tryz.strings_Split(s sep:ByteArray)(m:Int)(w:World)(hs:s.size<4294967281)(hm:w.cell? ⟨1,0,none⟩=some (.int .i64 m))(h1:1<=sep.size) :
    Calls Tryz.prog 42 #[.string s,.string sep] w fun e w'=>
      e=.returned (.slice (some ⟨w.heap.size,0,none⟩) (Lib.countB s sep+1) (Lib.countB s sep+1))/\w'=w.alloc (.cells ((Lib.splitB sep 0 (Lib.countB s sep) s).map Value.string).toArray 9):=Any.strings_Split Tryz.lays146 (by kernel_rfl) s sep m w hs hm h1
end Go.Proofs
namespace Go.Proofs.YtgobkmhhckhbfaaGreatDoor
open Go.RowKit
def adOp(m:Mx) : Option Mx:=if mOk m=true then some (adjS m) else none
theorem Y0m{m:Mx}(h:mOk m=true) : adOp m=some (adjS m):=Q4 h
theorem Y0l{m:Mx}(h:mOk m=false) : adOp m=none:=Q3 (by rw [h];decide)
theorem Xoh{l m:List Nd}{k:Nat}{u:Nd}(h:m=(l.take k).map adNd++l.drop k)(hu:l[k]? = some u) : m[k]? = some u:=by
 obtain ⟨h1,rfl⟩:=Qg.1 hu
 rw [h,W5 (by rw [Qo,Qn];omega),Qo,Qn,Nat.min_eq_left Z,Nat.sub_self,List.getElem?_drop]
 exact Qc h1
theorem X8t{l m:List Nd}{k:Nat}{u v:Nd}(h:m=(l.take k).map adNd++l.drop k)(hu:l[k]? = some u)(hv:v=adNd u) : m.set k v=(l.take (k+1)).map adNd++l.drop (k+1):=by
 obtain ⟨h1,rfl⟩:=Qg.1 hu
 have h9:((l.take k).map adNd).length=k:=by simp;omega
 rw [h,hv,List.set_append_right _ _ Z,h9,Nat.sub_self,Qy h1,List.set_cons_zero,Wf h1,List.map_append]
 simp
theorem X7c{l m:List Nd}{k:Nat}{u:Nd}(h:m=(l.take k).map adNd++l.drop k)(hu:l[k]? = some u)(hv:adNd u=u) : m=(l.take (k+1)).map adNd++l.drop (k+1):=by
 obtain ⟨h1,rfl⟩:=Qg.1 hu
 rw [h,Qy h1,Wf h1,List.map_append]
 simp [hv]
theorem Y0h{u:Nd}(h:u.k=1) : (⟨2,u.p⟩ : Nd)=adNd u:=by unfold adNd;rw [Q4 h]
theorem Y0i{u:Nd}(h1:¬ u.k=1)(h:u.k=2) : (⟨1,u.p⟩ : Nd)=adNd u:=by unfold adNd;rw [Q3 h1,Q4 h]
theorem Y0j{u:Nd}(h1:¬ u.k=1)(h2:¬ u.k=2)(h:u.k=3) : (⟨u.k,(8-u.p) % 8⟩ : Nd)=adNd u:=by unfold adNd;rw [Q3 h1,Q3 h2,Q4 h,h]
theorem Y0k{u:Nd}(h1:¬ u.k=1)(h2:¬ u.k=2)(h:¬ u.k=3) : adNd u=u:=by unfold adNd;rw [Q3 h1,Q3 h2,Q3 h]
theorem Xwr:((List.range 121).all fun n=>!(Lib.itoa ((n:Int)-60)).contains 59&&!(Lib.itoa ((n:Int)-60)).contains 44&&!(Lib.itoa ((n:Int)-60)).contains 61&&(decide ((n:Int)-60<0)||!(Lib.itoa ((n:Int)-60)).contains 45)&&decide (Lib.atoi (Lib.itoa ((n:Int)-60))=some ((n:Int)-60))&&decide ((Lib.itoa ((n:Int)-60)).length<=3))=true:=by decide +kernel
theorem nct{s:List UInt8}{c:UInt8}(h:(!s.contains c)=true) : c ∉ s:=fun h9=>by
 rw [List.contains_iff_mem.2 h9] at h
 cases h
theorem X3p{n:Int}(h:-60<=n/\n<=60) : (59:UInt8) ∉ Lib.itoa n/\(44:UInt8) ∉ Lib.itoa n/\(61:UInt8) ∉ Lib.itoa n/\(0<=n->(45:UInt8) ∉ Lib.itoa n)/\Lib.atoi (Lib.itoa n)=some n/\(Lib.itoa n).length<=3:=by
 have:=W1.1 Xwr (n+60).toNat (W2.2 Z)
 rw [show (((n+60).toNat:Nat) : Int)-60=n by omega] at this
 simp only [Qd,Bool.or_eq_true,Qr] at this
 obtain ⟨⟨⟨⟨⟨h1,h2⟩,h3⟩,h4⟩,h5⟩,h6⟩:=this;exact ⟨nct h1,nct h2,nct h3,fun h0=>nct (h4.resolve_left Z),h5,h6⟩
def ndC(k:Int) : UInt8:=if k=0 then 45 else if k=1 then 105 else if k=2 then 111 else 122
def ndB(x:Nd) : List UInt8:=if x.k=0 then [45] else [ndC x.k]++Lib.itoa x.p
def seC(h:Bool) : UInt8:=if h=true then 61 else 45
def weB(w:Wr) : List UInt8:=(Lib.itoa w.a++[seC w.h])++Lib.itoa w.b
def dgB(d:Dg) : List UInt8:=(((Lib.join [Lib.itoa d.n,Lib.itoa d.t,Lib.itoa d.r] [59]++[59])++Lib.join (d.ns.map ndB) [44])++[59])++Lib.join (d.ws.map weB) [44]
def dgP(d:Dg) : List (List UInt8):=[Lib.itoa d.n,Lib.itoa d.t,Lib.itoa d.r,Lib.join (d.ns.map ndB) [44],Lib.join (d.ws.map weB) [44]]
theorem Xot(d:Dg) : dgB d=Lib.join (dgP d) [59]:=by
 unfold dgB dgP
 rw [X2y,X2y,Lib.join_one,X2y,X2y,X2y,X2y,Lib.join_one]
 simp
def ndOk(x:Nd) : Prop:=(x.k=0/\x.p=0)∨((1<=x.k/\x.k<=3)/\0<=x.p/\x.p<=7)
def weOk(w:Wr) : Prop:=(0<=w.a/\w.a<=39)/\0<=w.b/\w.b<=39
theorem Xcp{c s:UInt8}(hc:c≠s) : ∀ {ps:List (List UInt8)},(∀ p ∈ ps,c ∉ p)->c ∉ Lib.join ps [s]
 | [],_=>by unfold Lib.join;simp
 | [x],h=>by rw [Lib.join_one];exact h x O5
 | x::y::r,h=>by
  rw [X2y]
  have ih:=Xcp hc (ps:=y::r) fun p hp=>h p (by simp only [Qv] at hp ⊢;exact .inr hp)
  have hx:=h x O5
  simp [hx,hc,ih]
theorem Xco{x:Nd}(h:ndOk x) : (59:UInt8) ∉ ndB x/\(44:UInt8) ∉ ndB x/\1<=(ndB x).length/\(ndB x).length<=4:=by
 unfold ndB
 rcases h with ⟨h,_⟩|⟨hk,hp⟩
 ·rw [Q4 h];decide
 ·have hi:=X3p (n:=x.p) ⟨by omega,by omega⟩
  have hc:(59:UInt8)≠ndC x.k/\(44:UInt8)≠ndC x.k:=by
   have:x.k=1∨x.k=2∨x.k=3:=by omega
   rcases this with h9|h9|h9<;>rw [h9]<;>decide
  rw [Q3 Z]
  simp [hi,hc]
theorem X7a{w:Wr}(h:weOk w) : (59:UInt8) ∉ weB w/\(44:UInt8) ∉ weB w/\1<=(weB w).length/\(weB w).length<=7:=by
 have h1:=X3p (n:=w.a) ⟨by have:=h.1;omega,by have:=h.1;omega⟩
 have h2:=X3p (n:=w.b) ⟨by have:=h.2;omega,by have:=h.2;omega⟩
 have hc:(59:UInt8)≠seC w.h/\(44:UInt8)≠seC w.h:=by cases w.h<;>decide
 unfold weB
 simp [h1,h2,hc]
 omega
theorem Xea{α:Type}{f:α->List UInt8}{l:List α}(h0:l≠[])(h:∀ x ∈ l,(44:UInt8) ∉ f x) : Lib.count (Lib.join (l.map f) [44]) [44]=(l.map f).length-1/\Lib.splitK [44] 0 ((l.map f).length-1) (Lib.join (l.map f) [44])=l.map f:=by
 cases l with
 | nil=>exact absurd rfl h0
 | cons x l=>
  have hs:=X76 (l.map f) (f x) (c:=44) fun p hp=>by
   rw [<- List.map_cons] at hp
   obtain ⟨y,hy,rfl⟩:=W6.1 hp;exact h y hy
  rw [List.map_cons,Qs,Nat.add_sub_cancel]
  exact hs
theorem Xcn{α:Type}{f:α->List UInt8}{c:Nat} : ∀ {l:List α},(∀ x ∈ l,(f x).length<=c)->(Lib.join (l.map f) [44]).length<=(c+1)*l.length
 | [],_=>by unfold Lib.join;simp
 | [x],h=>by
  rw [List.map_singleton,Lib.join_one]
  have:=h x O5
  simp
  omega
 | x::y::r,h=>by
  have ih:=Xcn (f:=f) (c:=c) (l:=y::r) fun z hz=>h z (by simp only [Qv] at hz ⊢;exact .inr hz)
  have hx:=h x O5
  rw [List.map_cons,List.map_cons,X2y,Qh,Qs,Qs,Nat.mul_add]
  rw [List.map_cons] at ih
  omega
theorem Xk8{d:Dg}(hn:-60<=d.n/\d.n<=60)(ht:-60<=d.t/\d.t<=60)(hr:-60<=d.r/\d.r<=60)(hns:∀ x ∈ d.ns,ndOk x)(hws:∀ w ∈ d.ws,weOk w) : Lib.count (dgB d) [59]=(dgP d).length-1/\Lib.splitK [59] 0 ((dgP d).length-1) (dgB d)=dgP d:=by
 rw [Xot]
 exact X76 _ _ fun p hp=>by
  simp only [Qv,List.not_mem_nil,or_false] at hp
  rcases hp with rfl|rfl|rfl|rfl|rfl
  ·exact (X3p hn).1
  ·exact (X3p ht).1
  ·exact (X3p hr).1
  ·exact Xcp O4 fun p hp=>by
    obtain ⟨y,hy,rfl⟩:=W6.1 hp;exact (Xco (hns y hy)).1
  ·exact Xcp O4 fun p hp=>by
    obtain ⟨y,hy,rfl⟩:=W6.1 hp;exact (X7a (hws y hy)).1
theorem Xxy{w:Wr}(h:weOk w)(hh:w.h=true) : Lib.cut (weB w) [61]=(Lib.itoa w.a,Lib.itoa w.b,true):=by
 have h1:=X3p (n:=w.a) ⟨by have:=h.1;omega,by have:=h.1;omega⟩
 have e:weB w=Lib.itoa w.a++61::Lib.itoa w.b:=by unfold weB seC;rw [Q4 hh];simp
 unfold Lib.cut
 rw [e,Xls _ _ h1.2.2.1,Q4 Z,Qj,List.length_singleton,Xbq,List.take_left]
theorem Xii{w:Wr}(h:weOk w)(hh:w.h=false) : Lib.cut (weB w) [61]=(weB w,[],false)/\Lib.cut (weB w) [45]=(Lib.itoa w.a,Lib.itoa w.b,true):=by
 have h1:=X3p (n:=w.a) ⟨by have:=h.1;omega,by have:=h.1;omega⟩
 have h2:=X3p (n:=w.b) ⟨by have:=h.2;omega,by have:=h.2;omega⟩
 have e:weB w=Lib.itoa w.a++45::Lib.itoa w.b:=by unfold weB seC;rw [Q3 (by rw [hh];decide)];simp
 unfold Lib.cut
 constructor
 ·rw [Xtj _ (by rw [e];simp [h1,h2]),Q3 O4]
 ·rw [e,Xls _ _ (h1.2.2.2.1 h.1.1),Q4 Z,Qj,List.length_singleton,Xbq,List.take_left]
theorem Y1v{x:Nd}(h:ndOk x)(hk:¬ x.k=0) : Lib.indexByte [45,105,111,122] (ndC x.k)=x.k:=by
 rcases h with ⟨h,_⟩|⟨h,_⟩
 ·exact absurd h hk
 ·have:x.k=1∨x.k=2∨x.k=3:=by omega
  rcases this with h9|h9|h9<;>rw [h9]<;>decide
theorem X5z{d:Dg}(h:goodD d=true) : ∀ x ∈ d.ns,ndOk x:=fun x hx=>by
 obtain ⟨i,hi⟩:=List.mem_iff_getElem?.1 hx;have h0:=Xca h hi;have h1:=(X44 h).2.2.1 i (Qg.1 hi).1
 have hg:d.ns.getD ((i:Int)).toNat nZ=x:=by rw [Qj,Qa,hi];rfl
 by_cases hk:x.k=0
 ·rw [Y1u (by rw [hg,hk];rfl),hg,Qd,beq_iff_eq] at h1
  exact .inl ⟨hk,h1.1⟩
 ·exact .inr ⟨by omega,h0.2⟩
theorem X60{d:Dg}(h:goodD d=true) : ∀ x ∈ d.ws,weOk x:=fun x hx=>by
 obtain ⟨i,hi⟩:=List.mem_iff_getElem?.1 hx;have h0:=X96 h hi;have h1:=X22 h;exact ⟨by omega,by omega⟩
theorem Xs2{ws:List Wr}{k:Int}(h:cnW ws k=1) : ws≠[]:=fun h9=>by
 rw [h9] at h
 cases h
theorem Xj2{d:Dg}(h:goodD d=true) : d.ns≠[]/\d.ws≠[]:=by
 have hp:=X44 h;have hn:=(X22 h).1;have he:=hp.2.2.2
 unfold endQ enQ at he
 rw [Qd] at he
 have h1:=W1.1 he.1 0 (W2.2 Z)
 rw [beq_iff_eq] at h1
 unfold ctN at h1
 cases hf:d.ns.filter (fun x=>x.k==1&&x.p==((0:Nat) : Int)) with
 | nil=>rw [hf] at h1;cases h1
 | cons x r=>
  have hm:x ∈ d.ns.filter (fun x=>x.k==1&&x.p==((0:Nat) : Int)):=by rw [hf];simp
  rw [List.mem_filter,Qd,beq_iff_eq] at hm
  obtain ⟨i,hi⟩:=List.mem_iff_getElem?.1 hm.1;have h2:=hp.2.2.1 i (Qg.1 hi).1
  have hg:d.ns.getD ((i:Int)).toNat nZ=x:=by rw [Qj,Qa,hi];rfl
  rw [Xx1 (by rw [hg,hm.2.1];rfl) (by rw [hg,hm.2.1];rfl),Qd,beq_iff_eq] at h2
  exact ⟨fun h9=>by rw [h9] at hi;simp at hi,Xs2 h2.2⟩
theorem Xfg{d:Dg}(h:goodD d=true) : Lib.count (dgB d) [59]=(dgP d).length-1/\Lib.splitK [59] 0 ((dgP d).length-1) (dgB d)=dgP d:=by
 have h1:=X22 h;exact Xk8 ⟨by omega,by omega⟩ ⟨by omega,by omega⟩ ⟨by omega,by omega⟩ (X5z h) (X60 h)
theorem Xaw{d:Dg}(h:goodD d=true)(hw:d.ws.length<=2000) : (Lib.join (d.ns.map ndB) [44]).length<=200/\(Lib.join (d.ws.map weB) [44]).length<=16000/\(dgB d).length<=17000:=by
 have h1:=X22 h
 have a:=Xcn (f:=ndB) (c:=4) (l:=d.ns) fun x hx=>(Xco (X5z h x hx)).2.2.2
 have b:=Xcn (f:=weB) (c:=7) (l:=d.ws) fun x hx=>(X7a (X60 h x hx)).2.2.2
 have n1:=(X3p (n:=d.n) ⟨by omega,by omega⟩).2.2.2.2.2
 have n2:=(X3p (n:=d.t) ⟨by omega,by omega⟩).2.2.2.2.2
 have n3:=(X3p (n:=d.r) ⟨by omega,by omega⟩).2.2.2.2.2
 refine ⟨by omega,by omega,?_⟩
 unfold dgB
 rw [X2y,X2y,Lib.join_one]
 simp only [Qh,Qs,List.length_nil]
 omega
theorem Xmn{d:Dg}(h:goodD d=true){k:Nat}{u:Nd}(hu:d.ns[k]? = some u) : ndOk u:=X5z h u (Qe hu)
theorem Xmo{d:Dg}(h:goodD d=true){k:Nat}{u:Wr}(hu:d.ws[k]? = some u) : weOk u:=X60 h u (Qe hu)
end Go.Proofs.YtgobkmhhckhbfaaGreatDoor
namespace Go.Proofs.YtgobkmhhckhbfaaGreatDoor
open Go.RowKit Go.Sort
theorem Xih(s:List UInt8) : (tx s).toList=s:=by rw [ByteArray.toList_eq];rfl
section
variable {P : Program} {a : Act} {w : World} {n : Nat} {e : Env} {ty : TypeId} {pos : String} {af : Array Edge} {g : Option (Nat × Bool)} {d : Option Tmp} {t t' : TypeId}
theorem Xp4{x y:Operand}{s:List UInt8}(hf:Fr a n e)(hx:ev e x=some (.string (tx s)))(hy:ev e y=some (.string (tx s))) : Ev P ⟨d,.binOp .eql t x y t',ty,pos,af,g⟩ a w (.bool true):=fun w' _=>by
 simp [execOp,hf.ev hx,hf.ev hy,eqGuard,binOp,Op.stringOp]
theorem Y0a{x y:Operand}{s:List UInt8}(hx:ev e x=some (.string (tx s)))(hy:ev e y=some (.string (tx s))) : EvW P ⟨d,.binOp .eql t x y t',ty,pos,af,g⟩ n e w (.bool true):=fun _ hf=>Xp4 hf hx hy
theorem Xxv(s r:List UInt8) : decide ((tx s).toList=(tx r).toList)=decide (s=r):=by rw [Xih,Xih]
theorem Xkl{x y:Operand}{s r:List UInt8}(hf:Fr a n e)(hx:ev e x=some (.string (tx s)))(hy:ev e y=some (.string (tx r))) : Ev P ⟨d,.binOp .eql t x y t',ty,pos,af,g⟩ a w (.bool (decide (s=r))):=fun w' _=>by
 rw [<- Xxv]
 simp [execOp,hf.ev hx,hf.ev hy,eqGuard,binOp,Op.stringOp]
 exact Bool.eq_iff_iff.2 O5
theorem Xjs{x y:Operand}{s r:List UInt8}(hx:ev e x=some (.string (tx s)))(hy:ev e y=some (.string (tx r))) : EvW P ⟨d,.binOp .eql t x y t',ty,pos,af,g⟩ n e w (.bool (decide (s=r))):=fun _ hf=>Xkl hf hx hy
theorem Xiu{x:Operand}(hf:Fr a n e)(hx:ev e x=some .nilIface)(hT:P.underlying t=some (.interface (P.methodsAt t))) : Ev P ⟨d,.binOp .eql t x (.const .nilIface) t',ty,pos,af,g⟩ a w (.bool true):=fun w' _=>by
 have hc:a.eval (.const .nilIface)=.nilIface:=rfl
 simp [execOp,hf.ev hx,hc,eqGuard,binOp,run_equal_nil_nil w' t hT]
theorem Xob{x:Operand}(hx:ev e x=some .nilIface)(hT:P.underlying t=some (.interface (P.methodsAt t))) : EvW P ⟨d,.binOp .eql t x (.const .nilIface) t',ty,pos,af,g⟩ n e w (.bool true):=fun _ hf=>Xiu hf hx hT
end
section
variable {P : Program} {a : Act} {w : World} {n : Nat} {e : Env} {ty : TypeId} {pos : String} {af : Array Edge} {g : Option (Nat × Bool)} {d : Option Tmp}
theorem Xkk{x y:Operand}{T:TypeId}{s r:List UInt8}{i:Int}{k:Nat}(hf:Fr a n e)(hx:ev e x=some (.string (tx s)))(hy:ev e y=some (.int .i64 i))(hT:P.underlying T=some .string)(hi:i=(k:Int))(hk:k<=s.length)(hr:s.drop k=r) : Ev P ⟨d,.slice T x (some y) none none,ty,pos,af,g⟩ a w (.string (tx r)):=fun w' _=>by
 subst hi
 have h:=run_slice_string_from_if (P:=P) w' T (tx s) .i64 (k:Int) hT
 rw [Q4 ⟨by omega,by rw [X3y];omega⟩] at h
 have e1:(tx s).extract (k:Int).toNat (tx s).size=tx r:=by
  rw [show (k:Int).toNat=k from O,X3y]
  unfold tx
  rw [ByteArray.extract_mk,<- hr]
  simp
  exact Qi (by rw [List.length_drop];exact Qb _)
 rw [e1] at h
 simp [execOp,Instr.sliceAt,hf.ev hx,hf.ev hy,run_underlying hT,h]
theorem Xuj{x y:Operand}{T:TypeId}{s r:List UInt8}{i:Int}{k:Nat}(hx:ev e x=some (.string (tx s)))(hy:ev e y=some (.int .i64 i))(hT:P.underlying T=some .string)(hi:i=(k:Int))(hk:k<=s.length)(hr:s.drop k=r) : EvW P ⟨d,.slice T x (some y) none none,ty,pos,af,g⟩ n e w (.string (tx r)):=fun _ hf=>Xkk hf hx hy hT hi hk hr
end
theorem Xrz:Tryz.prog.underlying (140:TypeId)=some (.interface (Tryz.prog.methodsAt (140:TypeId))):=by kernel_rfl
def PowT (w : World) : Prop := ∀ w', Below w.heap.size w w' -> Lib.TabIs Tryz.prog w' "internal/strconv.uint64pow10" .u64 Lib.pow10Tab
theorem PowT.of{w0 w:World}(h:PowT w0)(hW:Below w0.heap.size w0 w) : PowT w:=fun w' hw=>h w' (hW.trans (hw.mono hW.size))
theorem Xdh(w:World)(k:Nat)(os:Array Obj) : Below w.heap.size w (grow (w.drewN k) os):=
 ⟨rfl,rfl,rfl,by simp [grow,World.drewN],fun i hi=>by simp only [grow,World.drewN];rw [Array.getElem?_append_left hi]⟩
theorem Xd8(w:World)(n:Int)(h:-60<=n/\n<=60)(hp:PowT w) : Ret Tryz.prog 38 [.int .i64 n] w (fun v w'=>v=.string (tx (Lib.itoa n))/\Below w.heap.size w w'):=
 Calls.mono (Tryz.strconv_Itoa n Z Z w (hp w (Below.refl _ _))) fun _ _ ⟨he,k,os,hw⟩=>⟨_,he,rfl,by subst hw;exact Xdh w k os⟩
theorem Xyq(w:World)(n:Int)(h:-60<=n/\n<=60) : Ret Tryz.prog 92 [.string (tx (Lib.itoa n))] w (fun v w'=>v=.tuple #[.int .i64 n,.nilIface]/\Below w.heap.size w w'):=
 Calls.mono (Tryz.strconv_Atoi (tx (Lib.itoa n)) n (by rw [X3y];have:=(X3p h).2.2.2.2.2;omega) (by rw [X3m];exact (X3p h).2.2.2.2.1) w) fun _ _ ⟨he,t,hw⟩=>⟨_,he,rfl,by subst hw;exact Lib.bytesWorld_below _ _ _⟩
def MaxT(w:World) : Prop:=∃ m:Int,w.cell? ⟨1,0,none⟩=some (.int .i64 m)
theorem MaxT.of{w0 w:World}(h:MaxT w0)(hW:Below w0.heap.size w0 w) : MaxT w:=by
 obtain ⟨m,hm⟩:=h;have hb:=World.block_lt_of_cell? _ _ hm
 refine ⟨m,?_⟩
 rw [<- hm]
 unfold World.cell?
 rw [hW.block _ hb]
theorem Xjg(w:World)(s:List UInt8)(c:UInt8)(ps:List (List UInt8))(h0:0<ps.length)(hc:Lib.count s [c]=ps.length-1)(hs:Lib.splitK [c] 0 (ps.length-1) s=ps)(hl:s.length<=100000)(hm:MaxT w) : Ret Tryz.prog 42 [.string (tx s),.string (tx [c])] w (fun v w'=>∃ A d,v=.slice A (ps.map tx).length d/\Rd w' w'.heap.size 9 encTx A (ps.map tx)/\Below w.heap.size w w'):=by
 obtain ⟨m,hm⟩:=hm
 have e1:Lib.countB (tx s) (tx [c])=ps.length-1:=hc
 have e2:Lib.splitB (tx [c]) 0 (ps.length-1) (tx s)=ps.map tx:=by
  have h:=Lib.splitB_data (tx [c]) 0 (ps.length-1) (tx s)
  rw [X3m,X3m,hs] at h
  have h2:=congrArg (List.map tx) h
  rw [List.map_map] at h2
  have h3:∀ l:List ByteArray,l.map (tx ∘ fun x=>x.data.toList)=l:=fun l=>by
   induction l with
   | nil=>rfl
   | cons x l ih=>rw [List.map_cons,ih];simp [Xxw]
  rw [h3] at h2
  exact h2
 refine Calls.mono (Tryz.strings_Split (tx s) (tx [c]) m w (by rw [X3y];omega) hm (by rw [X3y];exact Qb _)) fun _ w' ⟨he,hw⟩=>⟨_,he,?_⟩
 rw [e1,e2] at hw
 rw [e1,show ps.length-1+1=(ps.map tx).length by rw [Qo];omega]
 subst hw
 have e3:((ps.map tx).map Value.string)=(ps.map tx).flatMap encTx:=by
  generalize ps.map tx=l
  induction l with
  | nil=>rfl
  | cons x l ih=>rw [List.map_cons,ih];rfl
 rw [e3]
 exact ⟨_,_,O,Rd.of_blk (X42 w 9 _) O _ (X42 w 9 _).lt,(Below.refl _ _).alloc (Qb _) _⟩
def joT(l:List ByteArray)(s:ByteArray) : ByteArray:=tx (Lib.join (l.map (·.data.toList)) s.data.toList)
theorem Xjf(w:World){B:Nat}{E:TypeId}(A:Option Addr)(c:Nat)(l:List ByteArray)(s:ByteArray)(hr:Rd w B E encTx A l)(hc:l.length<=c)(hl:l.length<=1048576)(hb:(Lib.join (l.map (·.data.toList)) s.data.toList).length<=140737488355328) :
  Ret Tryz.prog 41 [.slice A l.length c,.string s] w (fun v w'=>v=.string (joT l s)/\Below w.heap.size w w'):=by
 by_cases h:l=[]
 ·subst h
  exact Calls.mono (Tryz.strings_Join_none A c s w) fun _ _ ⟨he,hw⟩=>⟨_,he,O,by rw [hw];exact Below.refl _ _⟩
 ·obtain ⟨b,off,cs,fz,rfl,h2,h3,h4⟩:=hr h
  have hlt:b<w.heap.size:=(Qp.1 h3).1
  refine Calls.mono (Tryz.strings_Join b off c l s w (fun j x hj=>?_) hlt Z hc hb) fun _ _ ⟨he,hw⟩=>⟨_,he,O,hw⟩
  have h5:=h4 j (.string x) (by
   have:=X5g X2m l j x hj 0 (.string x) O
   simpa using this)
  simp only [World.cell?,h3]
  simpa using h5
theorem Xzy(w:World)(s:List UInt8)(c:UInt8)(r:Int)(h:Lib.indexByte s c=r) : Ret Tryz.prog 93 [.string (tx s),.int .u8 (c.toNat:Int)] w (fun v w'=>v=.int .i64 r/\w=w'):=
 Calls.mono (Tryz.strings_IndexByte (tx s) (c.toNat:Int) w) fun _ _ ⟨he,hw⟩=>⟨_,he,by rw [X3m,<- h];congr 2;simp,hw.symm⟩
theorem Xjn(w:World)(s a b:List UInt8)(c:UInt8)(f:Bool)(h:Lib.cut s [c]=(a,b,f))(hl:s.length<=100000)(hm:MaxT w) : Ret Tryz.prog 94 [.string (tx s),.string (tx [c])] w (fun v w'=>v=.tuple #[.string (tx a),.string (tx b),.bool f]/\Below w.heap.size w w'):=by
 obtain ⟨m,hm⟩:=hm
 refine Calls.mono (Tryz.strings_Cut (tx s) (tx [c]) m w (by rw [X3y];omega) hm) fun _ w' ⟨he,n,hw⟩=>⟨_,he,?_⟩
 rw [X3m,X3m,h]
 exact ⟨O,by subst hw;exact ⟨rfl,rfl,rfl,Qb _,fun _ _=>rfl⟩⟩
end Go.Proofs.YtgobkmhhckhbfaaGreatDoor
namespace Go.Proofs.YtgobkmhhckhbfaaGreatDoor
open Go.RowKit
theorem Xzx(w0:World){aI:TypeId}(k:Option Addr)(m:Nat)(f:List Int)(i:Rd w0 w0.heap.size aI encU k f)(aJ:∀ x ∈ f,0<=x/\x<=255) : Ret Tryz.prog 46 [.slice k f.length m] w0 (fun v w=>∃ (d:Dg) (A:Option Addr) (c1:Nat) (B:Option Addr) (e:Nat),v=.agg #[vi d.n,.slice A d.ns.length c1,.slice B d.ws.length e,vi d.t,vi d.r]/\(d.ns.length<=1000/\d.ws.length<=2000000/\∀ x ∈ d.ws,-1000000<=x.b/\x.b<=1000000)/\Rd w w.heap.size 64 encNd A d.ns/\Rd w w.heap.size 72 encWr B d.ws/\d.ws.length<=e/\Below w0.heap.size w0 w):=by
 refine enter Tryz.func46 O 9 O O ?_;intro a hf
 have j:=bz w0
 refine Zs hf fun _ aK=>?_;refine Zf (X03 (zs:=[vi 0,.slice none 0 0,.slice none 0 0,vi 0,vi 0]) X2l O) ?_;rintro _ w1 ⟨b5,rfl,aL,u,c⟩;have aC:=Q0 j.size aL;have j:=btr j u;refine Zx aK fun a hf _ aM=>?_;refine Zm O<|Ze (Xt (ps:=[(0,.slice k f.length m)]) (cs:=[.slice k f.length m,vi 0,.int .u64 0]) O (fun _=>by first|rfl|kernel_rfl))<|Zf (X0u (zs:=[.slice k f.length m,vi 0,.int .u64 0]) O O) ?_;rintro _ w2 ⟨b8,rfl,aD,u,a6⟩;have aE:=Q0 j.size aD;have q:=(i.bx j).away aD;have c:=c.bw u;have j:=btr j u;refine Za O<|Zx aM fun a hf _ aN=>?_;refine Zm O<|Zf (Vc (Xyx _ b8 k m f (i.bx j).top aJ q 0 0 a6 Z) Xq0) ?_;rintro _ w3 ⟨g,a7,a8,aA,aB,aP,aQ,rfl,aF,aO,o,p,aG,hK,aH⟩;obtain ⟨wm,hO,hm,u⟩:=hK.mid;clear hm;have z:=a6;have c:=c.oz hO z O;have j:=Below.oy j hO aE;have c:=c.bw u;have j:=btr j u
 clear z u hO hK;have a6:=aH;clear aH;refine Zo (Vw [vi g.n,.slice a7 g.ns.length a8,.slice aA g.ws.length aB,vi g.t,vi g.r] X10 c) ?_;rintro _ w4 ⟨ho,hb⟩;have o:=o.oT ho c O;have p:=p.oT ho c O;have j:=Below.oy j ho aC;have c:=hb;refine Zt aN fun a hf=>?_
 refine Q6 (X4 hf (Xo hf O (ResV.cellN (l:=[vi g.n,.slice a7 g.ns.length a8,.slice aA g.ws.length aB,vi g.t,vi g.r]) O Xm (c.at 0) O)) ?_)
 exact ⟨g,a7,a8,aA,aB,O,⟨by omega,by omega,aF.2.2.1⟩,o.top,p.top,aG,j⟩
theorem Xzs(w0:World){aG:TypeId}(a6:Option Addr)(aC:Nat)(g:List Int)(i:Rd w0 w0.heap.size aG encU a6 g)(aH:∀ x ∈ g,0<=x/\x<=255) : Ret Tryz.prog 14 [.slice a6 g.length aC] w0 (fun v w=>∃ (d:Dg) (A:Option Addr) (c1:Nat) (B:Option Addr) (e:Nat),v=.agg #[vi d.n,.slice A d.ns.length c1,.slice B d.ws.length e,vi d.t,vi d.r]/\(d.ns.length<=1000/\d.ws.length<=2000000/\∀ x ∈ d.ws,-1000000<=x.b/\x.b<=1000000)/\Rd w w.heap.size 64 encNd A d.ns/\Rd w w.heap.size 72 encWr B d.ws/\d.ws.length<=e/\Below w0.heap.size w0 w):=by
 refine enter Tryz.func14 O 5 O O ?_;intro a hf
 have m:=bz w0
 refine Zs hf fun _ aI=>?_;refine Zf (X03 (zs:=[vi 0,.slice none 0 0,.slice none 0 0,vi 0,vi 0]) X2l O) ?_;rintro _ w1 ⟨b5,rfl,aJ,hE,f⟩;have aD:=Q0 m.size aJ;have m:=btr m hE;refine Zx aI fun a hf _ aK=>?_;refine Zm O<|Zf (Vc (Xzx _ a6 aC g (i.bx m).top aH) Xqx) ?_;rintro _ w2 ⟨c,a7,a8,aA,aB,rfl,aE,j,k,aF,hE⟩;have f:=f.bw hE;have m:=btr m hE;refine Zo (Vw [vi c.n,.slice a7 c.ns.length a8,.slice aA c.ws.length aB,vi c.t,vi c.r] X10 f) ?_;rintro _ w3 ⟨ho,hb⟩;have j:=j.oT ho f O;have k:=k.oT ho f O;have m:=Below.oy m ho aD;have f:=hb;refine Zt aK fun a hf=>?_
 refine Q6 (X4 hf (Xo hf O (ResV.cellN (l:=[vi c.n,.slice a7 c.ns.length a8,.slice aA c.ws.length aB,vi c.t,vi c.r]) O Xm (f.at 0) O)) ?_)
 exact ⟨c,a7,a8,aA,aB,O,aE,j.top,k.top,aF,m⟩
theorem Xyn(w0:World)(x:Rg) : Ret Tryz.prog 142 [.agg #[vi x.a,vi x.b,vi x.c,vi x.d]] w0 (fun v w=>v=rV (rCj x)/\Below w0.heap.size w0 w):=by
 refine enter Tryz.func142 O 15 O O ?_;intro a hf
 have f:=bz w0
 refine Zs hf fun _ aA=>?_;refine Zf (X0u (zs:=[vi x.a,vi x.b,vi x.c,vi x.d]) O O) ?_;rintro _ w1 ⟨b2,rfl,aB,hE,e⟩;have aE:=Q0 f.size aB;have f:=btr f hE;refine Zf (X03 (zs:=[vi 0,vi 0,vi 0,vi 0]) X4u O) ?_;rintro _ w2 ⟨b3,rfl,aC,hE,a6⟩
 have a8:b2≠b3:=by have:=e.lt;omega
 have a7:=Q0 f.size aC;have e:=e.bw hE;have f:=btr f hE;refine Zx aA fun a hf _ aD=>?_;refine Ze (Vd O X1g 0)<|Ze (X0 O X2 (e.at 0))<|Ze (Vd O X1j 3)<|Ze (X0 O X2 (e.at 3))<|Ze (Xbi O)<|Ze (Vd O X1i 2)<|Ze (X0 O X2 (e.at 2))<|Ze (Xbi O)<|Ze (Vd O X1h 1)<|Ze (X0 O X2 (e.at 1)) ?_;refine Ze (Xbi O)<|Ze (Xt (ps:=[(0,vi x.a),(1,vi (wr (-x.d))),(2,vi (wr (-x.c))),(3,vi (wr (-x.b)))]) (cs:=[vi x.a,vi (wr (-x.d)),vi (wr (-x.c)),vi (wr (-x.b))]) O (fun _=>by first|rfl|kernel_rfl))<|Zo (Vw [vi x.a,vi (wr (-x.d)),vi (wr (-x.c)),vi (wr (-x.b))] X2a a6) ?_;rintro _ w3 ⟨ho,hb⟩;have f:=Below.oy f ho a7;have a6:=hb;refine Zt aD fun a hf=>?_
 refine Q6 (X4 hf (Xo hf O (ResV.cellN (l:=[vi x.a,vi (wr (-x.d)),vi (wr (-x.c)),vi (wr (-x.b))]) O X0j (a6.at 0) O)) ?_)
 exact ⟨O,f⟩
theorem Xym(w0:World)(x:Dy) : Ret Tryz.prog 99 [.agg #[vi x.num.a,vi x.num.b,vi x.num.c,vi x.num.d,vi x.exp]] w0 (fun v w=>v=dV (dCj x)/\Below w0.heap.size w0 w):=by
 refine enter Tryz.func99 O 9 O O ?_;intro a hf
 have g:=bz w0
 refine Zs hf fun _ a8=>?_;refine Zf (X0u (zs:=[vi x.num.a,vi x.num.b,vi x.num.c,vi x.num.d,vi x.exp]) O O) ?_;rintro _ w1 ⟨b2,rfl,aA,i,e⟩;have aD:=Q0 g.size aA;have g:=btr g i;refine Zf (X03 (zs:=[vi 0,vi 0,vi 0,vi 0,vi 0]) X3d O) ?_;rintro _ w2 ⟨b3,rfl,aB,i,f⟩
 have a7:b2≠b3:=by have:=e.lt;omega
 have a6:=Q0 g.size aB;have e:=e.bw i;have g:=btr g i;refine ZX a8 fun a hf _ aC=>?_;refine Xl none (fun j=>[6].contains j) mixed ?_;intro w3 i;have e:=e.bw i;have f:=f.bw i;have g:=btr g i;refine Yb hf<|Yo 0 O (fun _=>Vd O X35 0)<|Ye 1 O (X09 (l:=[vi x.num.a,vi x.num.b,vi x.num.c,vi x.num.d]) O X0j ((e.at 0).take 4) O)<|Yo 3 O (fun _=>Vd O X26 4)<|Ye 4 O (X0 O X2 (e.at 4))<|Y1 2 ?_;refine Yk O tv0 (Vc (Xyn _ x.num) Xpt) (fun _ _ ⟨_,i⟩=>i) ?_;rintro _ w4 ⟨rfl,i⟩;have f:=f.bw i;have g:=btr g i;refine Yo 5 O (fun _=>Xt (ps:=[(0,.agg #[vi ((rCj x.num).a),vi ((rCj x.num).b),vi ((rCj x.num).c),vi ((rCj x.num).d)]),(1,vi x.exp)]) (cs:=[vi ((rCj x.num).a),vi ((rCj x.num).b),vi ((rCj x.num).c),vi ((rCj x.num).d),vi x.exp]) O (fun _=>by first|rfl|kernel_rfl))<|Y1 6 ?_;refine Yh O tv0 O (Vw [vi ((rCj x.num).a),vi ((rCj x.num).b),vi ((rCj x.num).c),vi ((rCj x.num).d),vi x.exp] X0i f) ?_;rintro _ w5 ⟨ho,hb⟩;have g:=Below.oy g ho a6;have f:=hb;refine Yd fun a hf=>?_;refine aC _ _ ?_
 refine Q6 (X4 hf (Xo hf O (ResV.cellN (l:=[vi ((rCj x.num).a),vi ((rCj x.num).b),vi ((rCj x.num).c),vi ((rCj x.num).d),vi x.exp]) O X04 (f.at 0) O)) ?_)
 exact ⟨O,g⟩
theorem Xyl(x:World)(m:Mx)(Am:Option Addr)(cm:Nat)(aF:Rd x x.heap.size 78 encD Am m.cells)(aY:mOk m=true) : Ret Tryz.prog 51 [.agg #[vi m.rows,vi m.cols,.slice Am m.cells.length cm]] x (fun v w=>∃ A c,v=mV A c (adjS m)/\Own w x.heap.size 78 5 encD A c (adjS m).cells/\Below x.heap.size x w):=by
 have aZ:=X98 aY
 have b0:m.cols=(m.cols.toNat:Int):=by omega
 have b1:m.rows=(m.rows.toNat:Int):=by omega
 suffices hgoal:Ret Tryz.prog 51 [.agg #[vi (m.rows.toNat:Int),vi (m.cols.toNat:Int),.slice Am m.cells.length cm]] x (fun v w=>∃ A c,v=.agg #[vi (m.cols.toNat:Int),vi (m.rows.toNat:Int),.slice A (adjS m).cells.length c]/\Own w x.heap.size 78 5 encD A c (adjS m).cells/\Below x.heap.size x w) by rw [<- b0,<- b1] at hgoal;exact hgoal
 refine enter Tryz.func51 O 40 O O ?_;intro a q
 have o:=bz x
 refine Zs q fun _ b2=>?_;refine Zf (X0u (zs:=[vi (m.rows.toNat:Int),vi (m.cols.toNat:Int),.slice Am m.cells.length cm]) O O) ?_;rintro _ w1 ⟨b3,rfl,b4,t,e⟩;have bD:=Q0 o.size b4;have o:=btr o t;refine Zf (X03 (zs:=[vi 0,vi 0,.slice none 0 0]) X3a O) ?_;rintro _ w2 ⟨b5,rfl,b6,t,f⟩
 have aV:b3≠b5:=by have:=e.lt;omega
 have aG:=Q0 o.size b6;have e:=e.bw t;have o:=btr o t;refine Zx b2 fun a q _ b7=>?_;refine Ze (Vd O X34 1)<|Ze (X0 O X2 (e.at 1))<|Ze (Vd O X4a 0)<|Ze (X0 O X2 (e.at 0))<|Ze (Xt (ps:=[(0,vi (m.cols.toNat:Int)),(1,vi (m.rows.toNat:Int))]) (cs:=[vi (m.cols.toNat:Int),vi (m.rows.toNat:Int),.slice none 0 0]) O (fun _=>by first|rfl|kernel_rfl)) ?_;refine ZB [vi (m.cols.toNat:Int),vi (m.rows.toNat:Int),.slice none 0 0] X3a X1o fun b9 w4 b8 t g=>?_
 have aW:b3≠b9:=by have:=e.lt;omega
 have aX:b5≠b9:=by have:=f.lt;omega
 have aH:=Q0 o.size b8;have e:=e.bw t;have f:=f.bw t;have o:=btr o t;refine ZX b7 fun a q _ aI=>?_;refine Zs q fun _ aJ=>?_;refine Za O<|Zt aJ fun a q=>?_;refine Q8<|X00 (σ:=Nat×(List Dy)) (fun (s:Nat×(List Dy)) (a:Act) (w:World)=>match s with|(j,l)=>∃ B C,Fr a 40 [(1,(pZ9 b3)),(2,(pZ9 b5)),(3,(pZ9 b9)),(4,vi (j:Int))]/\(j<=m.cols.toNat)/\(gridL (fun j i=>dCj (m.at i j)) m.rows.toNat (j*m.rows.toNat)=l)/\Blk w b3 37 [vi (m.rows.toNat:Int),vi (m.cols.toNat:Int),.slice Am m.cells.length cm]/\Blk w b5 37 [vi 0,vi 0,.slice none 0 0]/\Blk w b9 37 [vi (m.cols.toNat:Int),vi (m.rows.toNat:Int),.slice B l.length C]/\Own w x.heap.size 78 5 encD B C l/\Below x.heap.size x w) (fun (s:Nat×(List Dy))=>match s with|(j,l)=>m.cols.toNat-j) (0,[]) ?_ ?_
 ·exact ⟨none,0,q.sb,(Qf _),O8,e,f,g,(Own.nil _ _ _ _ _),o⟩
 rintro ⟨j,l⟩ a w5 ⟨B,C,q,hj,hl,e,f,g,D,o⟩;refine Q5 fun _ aK=>?_;refine Zs q fun _ aL=>?_;refine Zm O<|Ze (Vd O X34 1)<|Ze (X0 O X2 (e.at 1))<|Ze (X1a O O)<|Zt aL fun a q=>?_
 refine X0z q O (fun a6 G=>?_) (fun a6 G=>?_)
 ·have aM:j<m.cols.toNat:=by have:=G;omega
  refine Q7<|aK _ _<|Q5 fun _ aN=>?_;refine Q8<|Zs q fun _ aO=>?_;refine Za O<|Zt aO fun a q=>?_;refine Q8<|X00 (σ:=Nat×(List Dy)) (fun (s:Nat×(List Dy)) (a:Act) (w:World)=>match s with|(i,l2)=>∃ L M,Fr a 40 [(1,(pZ9 b3)),(2,(pZ9 b5)),(3,(pZ9 b9)),(4,vi (j:Int)),(5,vi (i:Int))]/\(i<=m.rows.toNat)/\(gridL (fun j i=>dCj (m.at i j)) m.rows.toNat (j*m.rows.toNat+i)=l2)/\Blk w b3 37 [vi (m.rows.toNat:Int),vi (m.cols.toNat:Int),.slice Am m.cells.length cm]/\Blk w b5 37 [vi 0,vi 0,.slice none 0 0]/\Blk w b9 37 [vi (m.cols.toNat:Int),vi (m.rows.toNat:Int),.slice L l2.length M]/\Own w x.heap.size 78 5 encD L M l2/\Below x.heap.size x w) (fun (s:Nat×(List Dy))=>match s with|(i,l2)=>m.rows.toNat-i) (0,l) ?_ ?_
  ·exact ⟨B,C,q.sb,(Qf _),hl,e,f,g,D,o⟩
  rintro ⟨i,l2⟩ a w6 ⟨L,M,q,hi,a7,e,f,g,p,o⟩;refine Q5 fun _ aP=>?_;refine Zs q fun _ aQ=>?_;refine Zm O<|Ze (Vd O X4a 0)<|Ze (X0 O X2 (e.at 0))<|Ze (X1a O O)<|Zt aQ fun a q=>?_
  refine X0z q O (fun a8 H=>?_) (fun a8 H=>?_)
  ·have aA:i<m.rows.toNat:=by have:=H;omega
   have bE:l2.length=j*m.rows.toNat+i:=by rw [<- a7,X56]
   have bG:=X30 (show j<=32 by omega) (show m.rows.toNat<=32 by omega)
   have bF:=X30 (show i<=32 by omega) (show m.cols.toNat<=32 by omega)
   refine Q7<|aP _ _<|Q5 fun _ aR=>?_;refine Q8<|Xl none (fun j=>[14,16].contains j) mixed ?_;intro w7 t;have e:=e.bw t;have f:=f.bw t;have g:=g.bw t;have p:=p.bw t;have o:=btr o t;refine Yb q<|Yo 0 O (fun _=>Vd O X1q 2)<|Ye 1 O (X0 O X3i (g.at 2))<|Yo 2 O (fun _=>Vd O X1q 2)<|Ye 3 O (X0 O X3i (e.at 2))<|Yo 4 O (fun _=>X3 O)<|Yo 5 O (fun _=>Vd O X34 1)<|Ye 6 O (X0 O X2 (e.at 1))<|Yo 7 O (fun _=>Xal (m:=i) (k:=m.cols.toNat) O O (by have:=X30 (show i<=32 by omega) (show m.cols.toNat<=32 by omega);omega))<|Yo 8 O (fun _=>X3 O)<|Yo 9 O (fun _=>Xr O O Z Z) ?_;refine Yi (k:=(i*m.cols.toNat+j)) (u:=(m.at i j)) (enc:=encD) (l:=m.cells) 10 O tv0 O O X21 X0i X1x (aF.bx o) (Mx.at_get (by rw [aZ.2.2];exact X4y Z Z)) Z ?_;intro bH aB;refine Ye 11 O (X09 (l:=[vi ((m.at i j).num.a),vi ((m.at i j).num.b),vi ((m.at i j).num.c),vi ((m.at i j).num.d),vi ((m.at i j).exp)]) O X04 aB O)<|Y1 12 ?_;refine Yk O tv0 (Vc (Xym _ (m.at i j)) Xps) (fun _ _ ⟨_,t⟩=>t) ?_;rintro _ w8 ⟨rfl,t⟩;have e:=e.bw t;have f:=f.bw t;have g:=g.bw t;have p:=p.bw t;have o:=btr o t;refine Y1 13<|Yk O tv0 (X9 (k:=1) (vs:=[.agg #[vi ((dCj (m.at i j)).num.a),vi ((dCj (m.at i j)).num.b),vi ((dCj (m.at i j)).num.c),vi ((dCj (m.at i j)).num.d),vi ((dCj (m.at i j)).exp)]]) (zs:=[vi ((dCj (m.at i j)).num.a),vi ((dCj (m.at i j)).num.b),vi ((dCj (m.at i j)).num.c),vi ((dCj (m.at i j)).num.d),vi ((dCj (m.at i j)).exp)]) O X21 X31 O O) (fun _ _ ⟨_,_,_,h,_⟩=>h) ?_;rintro _ w9 ⟨bJ,rfl,N,t,I⟩
   have bC:=Q0 o.size N;have E:=p.away N;have e:=e.bw t;have f:=f.bw t;have g:=g.bw t;have p:=p.bw t;have o:=btr o t;refine Y1 14<|Yt O tv0 O (X15 (enc:=encD) (l:=(l2)) (l2:=([(dCj (m.at i j))])) (B0:=x.heap.size) O O X21 X31 X1x X54 p (Rd.of_blk I O _ I.lt) (by simp only [maxLen];simp;omega) O6 o.size) ?_;rintro _ bK ⟨aC,aD,rfl,J,hg,aS⟩
   have z:Own _ x.heap.size 78 5 encD _ _ (l2):=p
   have aE:=aS _ I.lt E;clear aS;have e:=e.appT z hg O;have f:=f.appT z hg O;have g:=g.appT z hg O;have o:=Below.app o z hg (Qb _) o.size;clear z hg;refine Yo 15 O (fun _=>Vd O X1q 2)<|Y1 16 ?_;refine Yh O tv0 O (Vu (vs:=[.slice aC (l2++([(dCj (m.at i j))])).length aD]) (l':=[vi (m.cols.toNat:Int),vi (m.rows.toNat:Int),.slice aC (l2++([(dCj (m.at i j))])).length aD]) O O Xa9 g) ?_;rintro _ bL ⟨ho,hb⟩;have e:=e.oy ho Z;have f:=f.oy ho Z;have J:=J.oT ho g O;have o:=Below.oy o ho aH;have g:=hb;refine Yd fun a q=>?_;refine X6<|aR _ _<|Zr q<|Zm O<|Ze (Xr O O Z Z)<|Za O ?_;refine Zn fun a q=>?_;refine Xc ?_;exact ⟨(i+1,l2++[dCj (m.at i j)]),⟨aC,aD,q.sb,Z,(by rw [X9y aA,a7]),e,f,g,J,o⟩,O0⟩
  have aA:i=m.rows.toNat:=by have:=H;omega
  refine Q9<|Xg<|Xg<|X01 ?_;refine X6<|aN _ _<|Zr q<|Zm O<|Ze (Xr O O Z Z)<|Za O ?_;refine Zn fun a q=>?_;refine Xc ?_;exact ⟨(j+1,l2),⟨L,M,q.sb,Z,(by rw [Wb,Nat.one_mul,<- a7,aA]),e,f,g,p,o⟩,O0⟩
 have aM:j=m.cols.toNat:=by have:=G;omega
 refine Q9<|Xg<|Xg<|X01 ?_;refine aI _ _<|Zs q fun _ aT=>?_;refine Ze (Vn X1d g)<|Zo (Vw [vi (m.cols.toNat:Int),vi (m.rows.toNat:Int),.slice B l.length C] X1o f) ?_;rintro _ bM ⟨ho,hb⟩;have D:=D.oT ho f O;have o:=Below.oy o ho aG;have f:=hb;refine Zt aT fun a q=>?_
 refine Q6 (X4 q (Xo q O (ResV.cellN (l:=[vi (m.cols.toNat:Int),vi (m.rows.toNat:Int),.slice B l.length C]) O X1d (f.at 0) O)) ?_)
 have aU:(adjS m).cells=l:=by rw [<- hl,aM];rfl
 rw [aU]
 exact ⟨B,C,O,D,o⟩
theorem Xzu(w0:World)(m:Mx)(Am:Option Addr)(cm:Nat)(j:Rd w0 w0.heap.size 78 encD Am m.cells)(aD:m.cells.length<=2305843009213693951) : Ret Tryz.prog 18 [.agg #[vi m.rows,vi m.cols,.slice Am m.cells.length cm]] w0 (fun v w=>∃ A c,v=.tuple #[mV A c (((adOp m)).getD mZ),.bool ((adOp m)).isSome]/\Own w w0.heap.size 78 5 encD A c (((adOp m)).getD mZ).cells/\Below w0.heap.size w0 w):=by
 refine enter Tryz.func18 O 10 O O ?_;intro a g
 have d:=bz w0
 refine Zs g fun _ aE=>?_;refine Zf (X0u (zs:=[vi m.rows,vi m.cols,.slice Am m.cells.length cm]) O O) ?_;rintro _ w1 ⟨b3,rfl,aF,i,f⟩;have aL:=Q0 d.size aF;have d:=btr d i;refine Zf (X03 (zs:=[vi 0,vi 0,.slice none 0 0]) X3a O) ?_;rintro _ w2 ⟨b5,rfl,aG,i,b⟩
 have aC:b3≠b5:=by have:=f.lt;omega
 have k:=Q0 d.size aG;have f:=f.bw i;have d:=btr d i;refine Za O<|ZX aE fun a g _ aH=>?_;refine Zs g fun _ aI=>?_;refine Ze (Vn X1d f)<|Zf (Vc (Xyh _ m Am cm (j.bx d).top aD) Xpo) ?_;rintro _ w3 ⟨rfl,i⟩;have f:=f.bw i;have b:=b.bw i;have d:=btr d i;refine Ze (X1w O)<|Zt aI fun a g=>?_
 refine Xz g O (fun a6=>?_) (fun a6=>?_)
 ·have aJ:mOk m=false:=by have h8:=a6;simpa using h8
  refine Zs g fun _ aK=>?_;refine Ze (Xt (ps:=[]) (cs:=[vi 0,vi 0,.slice none 0 0]) O (fun _=>by first|rfl|kernel_rfl))<|Zo (Vw [vi 0,vi 0,.slice none 0 0] X1o b) ?_;rintro _ w4 ⟨ho,hb⟩;have d:=Below.oy d ho k;have b:=hb;refine Za O<|Zt aK fun a g=>?_;refine Q6<|X7<|X4 g (X2u g O (ResV.cellN (l:=[vi 0,vi 0,.slice none 0 0]) O X1d (b.at 0) O) O) ?_
  rw [Y0l aJ]
  exact ⟨none,0,O,(Own.nil _ _ _ _ _),d⟩
 have aA:mOk m=true:=by have h8:=a6;simpa using h8
 refine Q7<|aH _ _<|Zs g fun _ aB=>?_;refine Ze (Vn X1d f)<|Zf (Vc (Xyl _ m Am cm (j.bx d).top aA) Xpr) ?_;rintro _ w5 ⟨a7,a8,rfl,e,i⟩;have e:=e.lower d.size;have b:=b.bw i;have d:=btr d i;refine Zo (Vw [vi ((adjS m).rows),vi ((adjS m).cols),.slice a7 ((adjS m).cells).length a8] X1o b) ?_;rintro _ w6 ⟨ho,hb⟩;have e:=e.oT ho b O;have d:=Below.oy d ho k;have b:=hb;refine Za O<|Zt aB fun a g=>?_
 refine Q6 (X4 g (X2u g O (ResV.cellN (l:=[vi ((adjS m).rows),vi ((adjS m).cols),.slice a7 ((adjS m).cells).length a8]) O X1d (b.at 0) O) O) ?_)
 rw [Y0m aA]
 exact ⟨a7,a8,O,e,d⟩
theorem Xzt(w0:World)(d:Dg)(md:Nat)(aJ:md=d.ns.length)(Ad:Option Addr)(cd:Nat)(aC:Rd w0 w0.heap.size 64 encNd Ad d.ns)(Bd:Option Addr)(dd:Nat)(aK:Rd w0 w0.heap.size 72 encWr Bd d.ws)(z:d.ws.length<=dd)(bQ:d.ws.length<=90000000)(hN:md<=1000000) : Ret Tryz.prog 15 [.agg #[vi d.n,.slice Ad md cd,.slice Bd d.ws.length dd,vi d.t,vi d.r]] w0 (fun v w=>∃ A c1 B e,v=.tuple #[.agg #[vi (if (goodD d)=true then adD d else zD).n,.slice A (if (goodD d)=true then adD d else zD).ns.length c1,.slice B (if (goodD d)=true then adD d else zD).ws.length e,vi (if (goodD d)=true then adD d else zD).t,vi (if (goodD d)=true then adD d else zD).r],.bool (goodD d)]/\Rd w w.heap.size 64 encNd A (if (goodD d)=true then adD d else zD).ns/\Rd w w.heap.size 72 encWr B (if (goodD d)=true then adD d else zD).ws/\(if (goodD d)=true then adD d else zD).ws.length<=e/\Below w0.heap.size w0 w):=by
 refine enter Tryz.func15 O 55 O O ?_;intro a q
 have x:=bz w0
 refine Zs q fun _ bJ=>?_;refine Zf (X0u (zs:=[vi d.n,.slice Ad md cd,.slice Bd d.ws.length dd,vi d.t,vi d.r]) O O) ?_;rintro _ w1 ⟨b4,rfl,bK,E,i⟩;have bP:=Q0 x.size bK;have x:=btr x E;refine Zf (X03 (zs:=[vi 0,.slice none 0 0,.slice none 0 0,vi 0,vi 0]) X2l O) ?_;rintro _ w2 ⟨b7,rfl,bL,E,g⟩
 have bH:b4≠b7:=by have:=i.lt;omega
 have aL:=Q0 x.size bL;have i:=i.bw E;have x:=btr x E;refine Za O<|ZX bJ fun a q _ bM=>?_;refine Zs q fun _ bN=>?_;refine Ze (Vn Xm i)<|Zf (Vc (Xg8 _ d md aJ Ad cd (aC.bx x).top Bd dd (aK.bx x).top z Z) X91) ?_;rintro _ w3 ⟨rfl,E⟩;have i:=i.bw E;have g:=g.bw E;have x:=btr x E;refine Ze (X1w O)<|Zt bN fun a q=>?_
 refine Xz q O (fun aD=>?_) (fun aD=>?_)
 ·have bO:goodD d=false:=by have Q:=aD;rw [X6o] at Q;simpa using Q
  refine Zs q fun _ aU=>?_;refine Ze (Xt (ps:=[]) (cs:=[vi 0,.slice none 0 0,.slice none 0 0,vi 0,vi 0]) O (fun _=>by first|rfl|kernel_rfl))<|Zo (Vw [vi 0,.slice none 0 0,.slice none 0 0,vi 0,vi 0] X10 g) ?_;rintro _ w4 ⟨U,hb⟩;have x:=Below.oy x U aL;have g:=hb;refine Za O<|Zt aU fun a q=>?_;refine Q6<|X7<|X4 q (X2u q O (ResV.cellN (l:=[vi 0,.slice none 0 0,.slice none 0 0,vi 0,vi 0]) O Xm (g.at 0) O) O) ?_
  rw [bO,Q3 Bool.false_ne_true]
  exact ⟨none,0,none,0,O,(Rd.nil _ _ _ _ _),(Rd.nil _ _ _ _ _),(Qf _),x⟩
 have aN:goodD d=true:=by have Q:=aD;rw [X6o] at Q;simpa using Q
 have hD:=X3k aN;have bR:=(X22 aN).2.2.1;refine Q7<|bM _ _<|Zs q fun _ aV=>?_;refine Ze (Vn Xm i)<|Zf (Vc (Xz1 _ d md aJ Ad cd (aC.bx x).top Bd dd (aK.bx x).top z ⟨by omega,by omega⟩) Xq4) ?_;rintro _ w5 ⟨aW,aX,a6,a7,rfl,W,c,E⟩;have W:=W.lower x.size;have c:=c.lower x.size;have i:=i.bw E;have g:=g.bw E;have x:=btr x E;refine ZB [vi d.n,.slice aW d.ns.length aX,.slice a6 d.ws.length a7,vi d.t,vi d.r] X2l X10 fun b19 w7 aY E f=>?_
 have aZ:b4≠b19:=by have:=i.lt;omega
 have b0:b7≠b19:=by have:=g.lt;omega
 have aO:=Q0 x.size aY;have i:=i.bw E;have g:=g.bw E;have W:=W.bw E;have c:=c.bw E;have x:=btr x E;refine ZX aV fun a q _ b1=>?_;refine Zs q fun _ b2=>?_;refine Ze (Vd O Xi 1)<|Ze (X0 O X0b (i.at 1))<|Ze (X11 O Xp)<|Zm O<|Zt b2 fun a q=>?_;refine Q8<|X00 (σ:=Nat×(List Nd)) (fun (s:Nat×(List Nd)) (a:Act) (w:World)=>match s with|(k,m)=>∃ I J,Fr a 55 [(1,(pZ9 b4)),(2,(pZ9 b7)),(4,(pZ9 b19)),(14,.slice Ad md cd),(15,vi (md:Int)),(16,vi (k:Int))]/\(k<=d.ns.length)/\(m=(d.ns.take k).map adNd++d.ns.drop k)/\(m.length=d.ns.length)/\Blk w b4 31 [vi d.n,.slice Ad md cd,.slice Bd d.ws.length dd,vi d.t,vi d.r]/\Blk w b7 31 [vi 0,.slice none 0 0,.slice none 0 0,vi 0,vi 0]/\Blk w b19 31 [vi d.n,.slice I d.ns.length J,.slice a6 d.ws.length a7,vi d.t,vi d.r]/\Own w w0.heap.size 72 3 encWr a6 a7 d.ws/\Own w w0.heap.size 64 2 encNd I J m/\d.ws.length<=dd/\Below w0.heap.size w0 w) (fun (s:Nat×(List Nd))=>match s with|(k,m)=>d.ns.length-k) (0,d.ns) ?_ ?_
 ·exact ⟨aW,aX,q.sb,(Qf _),O,O,i,g,f,c,W,z,x⟩
 rintro ⟨k,m⟩ a w8 ⟨I,J,q,hk,hm,G,i,g,f,c,b,z,x⟩;refine Zs q fun _ b3=>?_;refine Ze (X1a O O)<|ZX b3 fun a q _ b5=>?_
 refine X0z q O (fun aP a8=>?_) (fun aP a8=>?_)
 ·obtain ⟨H,L⟩:=X8 (l:=d.ns) (k:=k) (by have:=a8;omega)
  have bS:0<=H.p/\H.p<=7:=by
   have h:=Xee hD.p k
   rw [Qa,L] at h
   exact h
  have aQ:=Xoh hm L;refine Q7<|b5 _ _<|Q5 fun _ aA=>?_;refine Q8<|Zs q fun _ b6=>?_;refine Zm O<|Zj (k:=k) (u:=H) (enc:=encNd) (l:=d.ns) tv0 O Z O Xp X0g X02 (aC.bx x) L O ?_;intro bU aR;refine Ze (X09 (l:=[vi H.k,vi H.p]) O X23 aR O)<|Zf (X03 (zs:=[vi 0,vi 0]) X40 O) ?_;rintro _ w9 ⟨bW,rfl,aM,E,C⟩;have aS:=Q0 x.size aM;have aB:=b.away aM;have i:=i.bw E;have g:=g.bw E;have f:=f.bw E;have c:=c.bw E;have b:=b.bw E;have x:=btr x E;refine Za O<|Zo (Vw [vi H.k,vi H.p] X0g C) ?_;rintro _ bX ⟨U,hb⟩;have i:=i.oz U C O;have g:=g.oz U C O;have f:=f.oz U C O;have c:=c.oT U C O;have b:=b.onlyA U aB;have x:=Below.oy x U aS;have C:=hb;refine Zx b6 fun a q _ b8=>?_;refine Ze (Vd O X0y 0)<|Ze (X0 O X2 (C.at 0))<|Zt b8 fun a q=>?_;refine Q8<|Zs q fun _ b9=>?_;refine Ze (X0f O O)<|Za O<|Zt b9 fun a q=>?_
  refine Xz q O (fun aE=>?_) (fun aE=>?_)
  ·have aF:H.k=1:=by have Q:=aE;simpa using Q
   have M:=Y0h aF;refine Zr q<|Ze (Vd O Xi 1)<|Ze (X0 O X0b (f.at 1))<|Zm O<|Ze (Xd (k:=k) O O Xp X0g b G.symm O Z)<|Ze (X1z O X0y (m':=k*2+0) O)<|Zo (X0d (enc:=encNd) (l:=m) (vs:=[vi 2]) (x0:=H) (u:=(⟨2,H.p⟩ : Nd)) (k:=k) (j:=0) (n1:=1) O O X0e b X02 O O O O O4 aQ O) ?_;rintro _ bY ⟨D,N⟩;have o:=b;have i:=i.appT o N O;have g:=g.appT o N O;have f:=f.appT o N O;have c:=c.appT o N O;have x:=Below.app x o N (Qb _) x.size
   clear o N;clear b;have b:=D;clear D;refine Zn fun a q=>?_;refine X6<|X6<|aA _ _<|Zr q ?_;refine Ze (Xr O O Z Z)<|Zm O ?_;refine Zn fun a q=>?_;refine Xc ?_;exact ⟨(k+1,(m.set k (⟨2,H.p⟩ : Nd))),⟨I,J,q.sb,Z,(by first|exact X8t hm L M|exact X7c hm L M),(by first|exact G|(rw [List.length_set];exact G)),i,g,f,c,b,z,x⟩,O0⟩
  have aF:¬ H.k=1:=by have Q:=aE;simpa using Q
  refine Zs q fun _ bC=>?_;refine Ze (X0f O O)<|Za O<|Zt bC fun a q=>?_
  refine Xz q O (fun aG=>?_) (fun aG=>?_)
  ·have aI:H.k=2:=by have Q:=aG;simpa using Q
   have M:=Y0i aF aI;refine Zr q<|Ze (Vd O Xi 1)<|Ze (X0 O X0b (f.at 1))<|Zm O<|Ze (Xd (k:=k) O O Xp X0g b G.symm O Z)<|Ze (X1z O X0y (m':=k*2+0) O)<|Zo (X0d (enc:=encNd) (l:=m) (vs:=[vi 1]) (x0:=H) (u:=(⟨1,H.p⟩ : Nd)) (k:=k) (j:=0) (n1:=1) O O X0e b X02 O O O O O4 aQ O) ?_;rintro _ bZ ⟨D,N⟩;have o:=b;have i:=i.appT o N O;have g:=g.appT o N O;have f:=f.appT o N O;have c:=c.appT o N O;have x:=Below.app x o N (Qb _) x.size
   clear o N;clear b;have b:=D;clear D;refine Zn fun a q=>?_;refine X6<|X6<|aA _ _<|Zr q ?_;refine Ze (Xr O O Z Z)<|Zm O ?_;refine Zn fun a q=>?_;refine Xc ?_;exact ⟨(k+1,(m.set k (⟨1,H.p⟩ : Nd))),⟨I,J,q.sb,Z,(by first|exact X8t hm L M|exact X7c hm L M),(by first|exact G|(rw [List.length_set];exact G)),i,g,f,c,b,z,x⟩,O0⟩
  have aI:¬ H.k=2:=by have Q:=aG;simpa using Q
  refine Zs q fun _ bD=>?_;refine Ze (X0f O O)<|Za O<|Zt bD fun a q=>?_
  refine Xz q O (fun aH=>?_) (fun aH=>?_)
  ·have aT:H.k=3:=by have Q:=aH;simpa using Q
   have M:=Y0j aF aI aT;refine Zr q<|Ze (Vd O Xi 1)<|Ze (X0 O X0b (f.at 1))<|Zm O<|Ze (Vd O X0x 1)<|Ze (X0 O X2 (C.at 1))<|Ze (X1c O O Z Z)<|Ze (Vx (X4n O O O) (tm8 Z))<|Ze (Xd (k:=k) O O Xp X0g b G.symm O Z)<|Ze (X1z O X0x (m':=k*2+1) O)<|Zo (X0d (enc:=encNd) (l:=m) (vs:=[vi ((8-H.p) % 8)]) (x0:=H) (u:=(⟨H.k,((8-H.p) % 8)⟩ : Nd)) (k:=k) (j:=1) (n1:=1) O O X0e b X02 O O O O O4 aQ O) ?_;rintro _ cA ⟨D,N⟩;have o:=b;have i:=i.appT o N O;have g:=g.appT o N O;have f:=f.appT o N O;have c:=c.appT o N O;have x:=Below.app x o N (Qb _) x.size
   clear o N;clear b;have b:=D;clear D;refine Zn fun a q=>?_;refine X6<|X6<|aA _ _<|Zr q ?_;refine Ze (Xr O O Z Z)<|Zm O ?_;refine Zn fun a q=>?_;refine Xc ?_;exact ⟨(k+1,(m.set k (⟨H.k,((8-H.p) % 8)⟩ : Nd))),⟨I,J,q.sb,Z,(by first|exact X8t hm L M|exact X7c hm L M),(by first|exact G|(rw [List.length_set];exact G)),i,g,f,c,b,z,x⟩,O0⟩
  have aT:¬ H.k=3:=by have Q:=aH;simpa using Q
  have M:=Y0k aF aI aT;refine Q7<|X6<|X6<|aA _ _ ?_;refine Zr q<|Ze (Xr O O Z Z)<|Zm O ?_;refine Zn fun a q=>?_;refine Xc ?_;exact ⟨(k+1,m),⟨I,J,q.sb,Z,(by first|exact X8t hm L M|exact X7c hm L M),(by first|exact G|(rw [List.length_set];exact G)),i,g,f,c,b,z,x⟩,O0⟩
 have bE:(adD d).ns=m:=by rw [hm,Qi (by have:=a8;omega),W3 (by have:=a8;omega),List.append_nil];rfl
 refine Q9<|Xg<|Xg<|X01 ?_;refine b1 _ _<|Zs q fun _ bF=>?_;refine Ze (Vd O X0w 3)<|Ze (X0 O X2 (i.at 3))<|Ze (X1c O O Z Z)<|Ze (Vx (X4n O O O) (tm8 Z))<|Ze (Vd O X0w 3)<|Zo (Vu (vs:=[vi ((8-d.t) % 8)]) (l':=[vi d.n,.slice I d.ns.length J,.slice a6 d.ws.length a7,vi ((8-d.t) % 8),vi d.r]) O O X0e f) ?_;rintro _ cB ⟨U,hb⟩;have g:=g.oy U Z;have c:=c.oT U f O;have b:=b.oT U f O;have x:=Below.oy x U aO;have f:=hb;refine Zx bF fun a q _ bG=>?_;refine Ze (Vn Xm f)<|Zo (Vw [vi d.n,.slice I d.ns.length J,.slice a6 d.ws.length a7,vi ((8-d.t) % 8),vi d.r] X10 g) ?_;rintro _ cC ⟨U,hb⟩;have c:=c.oT U g O;have b:=b.oT U g O;have x:=Below.oy x U aL;have g:=hb;refine Za O<|Zt bG fun a q=>?_
 refine Q6 (X4 q (X2u q O (ResV.cellN (l:=[vi d.n,.slice I d.ns.length J,.slice a6 d.ws.length a7,vi ((8-d.t) % 8),vi d.r]) O Xm (g.at 0) O) O) ?_)
 rw [aN,Q4 O,bE,G]
 exact ⟨I,J,a6,a7,O,b.rd.top,c.rd.top,c.cap,x⟩
theorem Xri{x:Nd}(h:ndOk x)(e:ndB x=[45]) : x.k=0/\x.p=0:=by
 rcases h with h|⟨hk,hp⟩
 ·exact h
 ·unfold ndB at e
  rw [Q3 Z] at e
  have:x.k=1∨x.k=2∨x.k=3:=by omega
  injection e with e1 e2
  rcases this with h9|h9|h9<;>rw [h9] at e1<;>exact absurd e1 O4
theorem Xx2{x:Nd}(h:ndOk x)(hk:¬ x.k=0) : (1<=x.k/\x.k<=3)/\0<=x.p/\x.p<=7:=by
 rcases h with h|h
 ·exact absurd h.1 hk
 ·exact h
theorem Xrh{x:Nd}(_:ndOk x)(hk:¬ x.k=0) : ndB x=ndC x.k::Lib.itoa x.p:=by unfold ndB;rw [Q3 hk];rfl
theorem X8j(w0:World)(n:Int)(a7:-60<=n/\n<=60)(a8:PowT w0) : Ret Tryz.prog 43 [.string (tx (Lib.itoa n))] w0 (fun v w=>v=.tuple #[vi n,.bool true]/\Below w0.heap.size w0 w):=by
 refine enter Tryz.func43 O 20 O O ?_;intro a b
 have c:=bz w0
 refine Zs b fun _ aA=>?_;refine Za O<|Za O<|Zx aA fun a b _ aB=>?_;refine Zm O<|Zf (Vc (Xyq _ n a7) Xpu) ?_;rintro _ w1 ⟨rfl,hE⟩;have c:=btr c hE;refine Zm O<|Ze (Xj (vs:=[vi n,.nilIface]) O O)<|Ze (Xj (vs:=[vi n,.nilIface]) O O)<|Za O<|Za O<|ZX aB fun a b _ aC=>?_;refine X0p (fun a w=>Fr a 20 [(2,vi n),(3,.bool true)]/\Below w1.heap.size w1 w) ?_ ?_
 ·have a6:Below w1.heap.size w1 w1:=Below.refl _ _
  refine Zr b<|Zm O<|Zm O<|Ze (Xob O Xrz)<|Zm O<|Zv (gW O) (X3 O) ?_;refine Zk (gW O) (Vc (Xd8 _ n a7 (a8.of c)) X7l) ?_;rintro _ w2 ⟨rfl,hE⟩;have c:=btr c hE;have a6:=btr a6 hE;refine Zv (gW O) (X3 O) ?_;refine Zv (gW O) (Y0a O O) ?_;refine Ze (Xa O O O)<|Za O<|Za O ?_;refine Zn fun a b=>?_;exact ⟨b.sb,a6⟩
 rintro a w3 ⟨b,hE⟩;have c:=btr c hE;refine aC _ _ ?_
 refine Q6 (X4 b (X2u b O O O) ?_)
 exact ⟨O,c⟩
theorem Xzv(w0:World)(x:Nd)(hx:ndOk x)(aD:PowT w0) : Ret Tryz.prog 44 [.string (tx (ndB x))] w0 (fun v w=>v=.tuple #[.agg #[vi x.k,vi x.p],.bool true]/\Below w0.heap.size w0 w):=by
 refine enter Tryz.func44 O 24 O O ?_;intro a b
 have d:=bz w0
 refine Zs b fun _ aE=>?_;refine Zf (X03 (zs:=[vi 0,vi 0]) X40 O) ?_;rintro _ w1 ⟨b2,rfl,aF,hE,c⟩;have f:=Q0 d.size aF;have d:=btr d hE;refine Za O<|ZX aE fun a b _ aG=>?_;refine Zs b fun _ aH=>?_;refine Zm O<|Ze (Xjs (s:=(ndB x)) (r:=[45]) O O)<|Zt aH fun a b=>?_
 refine X0z b O (fun a7 a6=>?_) (fun a7 a6=>?_)
 ·have h0:x.k=0/\x.p=0:=Xri hx (by have h8:=a6;simpa using h8)
  refine Zs b fun _ aI=>?_;refine Ze (Xt (ps:=[]) (cs:=[vi 0,vi 0]) O (fun _=>by first|rfl|kernel_rfl))<|Zo (Vw [vi 0,vi 0] X0g c) ?_;rintro _ w2 ⟨ho,hb⟩;have d:=Below.oy d ho f;have c:=hb;refine Za O<|Zt aI fun a b=>?_;refine Q6<|X7<|X4 b (X2u b O (ResV.cellN (l:=[vi 0,vi 0]) O X23 (c.at 0) O) O) ?_;exact ⟨by rw [h0.1,h0.2],d⟩
 have h0:¬ x.k=0:=fun h9=>a6 (by unfold ndB;rw [Q4 h9])
 have aL:=Xx2 hx h0;have e:=Xrh hx h0;refine Q7<|aG _ _<|Q5 fun _ aJ=>?_;refine Zs b fun _ aK=>?_;refine Zm O<|Ze (Xjs (s:=(ndB x)) (r:=[]) O O)<|Zt aK fun a b=>?_
 refine X0z b O (fun a8 aA=>?_) (fun a8 aA=>?_)
 ·have h8:=aA;rw [e] at h8;revert h8;simp
 refine Q7<|aJ _ _<|Zs b fun _ aB=>?_;refine Zm O<|Ze (Xuj (s:=(ndB x)) (r:=(Lib.itoa x.p)) (k:=1) O O Tryz.underlying9 O (by rw [e];simp) (by rw [e];rfl))<|Zf (Vc (X8j _ x.p Z (aD.of d)) X4w) ?_;rintro _ w3 ⟨rfl,hE⟩;have c:=c.bw hE;have d:=btr d hE;refine Zm O<|Ze (Xj (vs:=[vi x.p,.bool true]) O O)<|Ze (Xj (vs:=[vi x.p,.bool true]) O O)<|Za O<|Za O<|Zx aB fun a b _ aC=>?_;refine Zm O<|Ze (Y0b (s:=(ndB x)) (k:=0) (u:=(ndC x.k)) O O Tryz.underlying9 O (by rw [e];rfl))<|Zf (Vc (Xzy _ _ (ndC x.k) x.k (Y1v hx h0)) Xqy) ?_;rintro _ _ ⟨rfl,rfl⟩;refine Zm O<|Ze (Xt (ps:=[(0,vi x.k),(1,vi x.p)]) (cs:=[vi x.k,vi x.p]) O (fun _=>by first|rfl|kernel_rfl))<|Zm O<|Zo (Vw [vi x.k,vi x.p] X0g c) ?_;rintro _ w4 ⟨ho,hb⟩;have d:=Below.oy d ho f;have c:=hb;refine Za O<|Zt aC fun a b=>?_
 refine Q6 (X4 b (X2u b O (ResV.cellN (l:=[vi x.k,vi x.p]) O X23 (c.at 0) O) O) ?_)
 exact ⟨O,d⟩
theorem Xzw(g:World)(x:Wr)(hx:weOk x)(a6:PowT g)(a8:MaxT g)(hh:x.h=true) : Ret Tryz.prog 45 [.string (tx (weB x))] g (fun v w=>v=.tuple #[.agg #[vi x.a,vi x.b,.bool x.h],.bool true]/\Below g.heap.size g w):=by
 have aI:=hx.1;have aJ:=hx.2;refine enter Tryz.func45 O 43 O O ?_;intro a e
 have d:=bz g
 refine Zs e fun _ aA=>?_;refine Zf (X03 (zs:=[vi 0,vi 0,.bool false]) X3n O) ?_;rintro _ w1 ⟨b2,rfl,aB,f,c⟩;have a7:=Q0 d.size aB;have d:=btr d f;refine Za O<|Zx aA fun a e _ aC=>?_;refine Zm O<|Zf (Vc (Xjn _ _ _ _ _ _ (Xxy hx hh) (Q0 (X7a hx).2.2.2 O4) (a8.of d)) Xc6) ?_;rintro _ w2 ⟨rfl,f⟩;have c:=c.bw f;have d:=btr d f;refine Zm O<|Ze (Xj (vs:=[.string (tx (Lib.itoa x.a)),.string (tx (Lib.itoa x.b)),.bool true]) O O)<|Ze (Xj (vs:=[.string (tx (Lib.itoa x.a)),.string (tx (Lib.itoa x.b)),.bool true]) O O)<|Ze (Xj (vs:=[.string (tx (Lib.itoa x.a)),.string (tx (Lib.itoa x.b)),.bool true]) O O)<|Za O<|Za O<|Za O<|ZX aC fun a e _ aD=>?_;refine Zs e fun _ aE=>?_;refine Zm O<|Ze (X1w O)<|Zt aE fun a e=>?_;refine X6d e O ?_;refine Q7<|aD _ _<|Zs e fun _ aF=>?_;refine Zm O<|Zf (Vc (X8j _ x.a Z (a6.of d)) X4w) ?_;rintro _ w3 ⟨rfl,f⟩;have c:=c.bw f;have d:=btr d f;refine Zm O<|Ze (Xj (vs:=[vi x.a,.bool true]) O O)<|Ze (Xj (vs:=[vi x.a,.bool true]) O O)<|Za O<|Za O<|Zx aF fun a e _ aG=>?_;refine Zm O<|Zf (Vc (X8j _ x.b Z (a6.of d)) X4w) ?_;rintro _ w4 ⟨rfl,f⟩;have c:=c.bw f;have d:=btr d f;refine Zm O<|Ze (Xj (vs:=[vi x.b,.bool true]) O O)<|Ze (Xj (vs:=[vi x.b,.bool true]) O O)<|Za O<|Za O<|ZX aG fun a e _ aH=>?_;refine X0p (fun a w=>Fr a 43 [(2,(pZ9 b2)),(3,.bool true)]/\Blk w b2 72 [vi x.a,vi x.b,.bool true]/\Below g.heap.size g w) ?_ ?_
 ·refine Zr e<|Zm O<|Zm O<|Zm O<|Ze (Xt (ps:=[(0,vi x.a),(1,vi x.b),(2,.bool true)]) (cs:=[vi x.a,vi x.b,.bool true]) O (fun _=>by first|rfl|kernel_rfl))<|Zm O<|Zm O<|Zv (gW O) (X3 O) ?_;refine Ze (Xa O O O)<|Zo (Vw [vi x.a,vi x.b,.bool true] X0s c) ?_;rintro _ w5 ⟨ho,hb⟩;have d:=Below.oy d ho a7;have c:=hb;refine Za O ?_;refine Zn fun a e=>?_;exact ⟨e.sb,c,d⟩
 rintro a w6 ⟨e,c,d⟩;refine aH _ _ ?_
 refine Q6 (X4 e (X2u e O (ResV.cellN (l:=[vi x.a,vi x.b,.bool true]) O X1y (c.at 0) O) O) ?_)
 exact ⟨by rw [hh],d⟩
theorem Y06(g:World)(x:Wr)(hx:weOk x)(a6:PowT g)(a7:MaxT g)(hh:x.h=false) : Ret Tryz.prog 45 [.string (tx (weB x))] g (fun v w=>v=.tuple #[.agg #[vi x.a,vi x.b,.bool x.h],.bool true]/\Below g.heap.size g w):=by
 have aI:=hx.1;have aJ:=hx.2;refine enter Tryz.func45 O 43 O O ?_;intro a e
 have d:=bz g
 refine Zs e fun _ aA=>?_;refine Zf (X03 (zs:=[vi 0,vi 0,.bool false]) X3n O) ?_;rintro _ w1 ⟨b2,rfl,aB,f,c⟩;have a8:=Q0 d.size aB;have d:=btr d f;refine Za O<|Zx aA fun a e _ aC=>?_;refine Zm O<|Zf (Vc (Xjn _ _ _ _ _ _ (Xii hx hh).1 (Q0 (X7a hx).2.2.2 O4) (a7.of d)) Xc6) ?_;rintro _ w2 ⟨rfl,f⟩;have c:=c.bw f;have d:=btr d f;refine Zm O<|Ze (Xj (vs:=[.string (tx (weB x)),.string (tx []),.bool false]) O O)<|Ze (Xj (vs:=[.string (tx (weB x)),.string (tx []),.bool false]) O O)<|Ze (Xj (vs:=[.string (tx (weB x)),.string (tx []),.bool false]) O O)<|Za O<|Za O<|Za O<|ZX aC fun a e _ aD=>?_;refine Zs e fun _ aE=>?_;refine Zm O<|Ze (X1w O)<|Zt aE fun a e=>?_;refine Xbo e O ?_;refine Zr e<|Zm O<|Zf (Vc (Xjn _ _ _ _ _ _ (Xii hx hh).2 (Q0 (X7a hx).2.2.2 O4) (a7.of d)) Xc6) ?_;rintro _ w3 ⟨rfl,f⟩;have c:=c.bw f;have d:=btr d f;refine Zm O<|Ze (Xj (vs:=[.string (tx (Lib.itoa x.a)),.string (tx (Lib.itoa x.b)),.bool true]) O O)<|Ze (Xj (vs:=[.string (tx (Lib.itoa x.a)),.string (tx (Lib.itoa x.b)),.bool true]) O O)<|Ze (Xj (vs:=[.string (tx (Lib.itoa x.a)),.string (tx (Lib.itoa x.b)),.bool true]) O O)<|Za O<|Za O<|Zx aD fun a e _ aF=>?_;refine Zm O<|Zf (Vc (X8j _ x.a Z (a6.of d)) X4w) ?_;rintro _ w4 ⟨rfl,f⟩;have c:=c.bw f;have d:=btr d f;refine Zm O<|Ze (Xj (vs:=[vi x.a,.bool true]) O O)<|Ze (Xj (vs:=[vi x.a,.bool true]) O O)<|Za O<|Za O<|Zx aF fun a e _ aG=>?_;refine Zm O<|Zf (Vc (X8j _ x.b Z (a6.of d)) X4w) ?_;rintro _ w5 ⟨rfl,f⟩;have c:=c.bw f
 have d:=btr d f;refine Zm O<|Ze (Xj (vs:=[vi x.b,.bool true]) O O)<|Ze (Xj (vs:=[vi x.b,.bool true]) O O)<|Za O<|Za O<|ZX aG fun a e _ aH=>?_;refine X0p (fun a w=>Fr a 43 [(2,(pZ9 b2)),(3,.bool true)]/\Blk w b2 72 [vi x.a,vi x.b,.bool false]/\Below g.heap.size g w) ?_ ?_
 ·refine Zr e<|Zm O<|Zm O<|Zm O<|Ze (Xt (ps:=[(0,vi x.a),(1,vi x.b),(2,.bool false)]) (cs:=[vi x.a,vi x.b,.bool false]) O (fun _=>by first|rfl|kernel_rfl))<|Zm O<|Zm O<|Zv (gW O) (X3 O) ?_;refine Ze (Xa O O O)<|Zo (Vw [vi x.a,vi x.b,.bool false] X0s c) ?_;rintro _ w6 ⟨ho,hb⟩;have d:=Below.oy d ho a8;have c:=hb;refine Za O ?_;refine Zn fun a e=>?_;exact ⟨e.sb,c,d⟩
 rintro a w7 ⟨e,c,d⟩;refine aH _ _ ?_
 refine Q6 (X4 e (X2u e O (ResV.cellN (l:=[vi x.a,vi x.b,.bool false]) O X1y (c.at 0) O) O) ?_)
 exact ⟨by rw [hh],d⟩
theorem mpS{α β:Type}{f:α->β}{l:List α}{k:Nat}{q:List β}{u:α}(h:q=(l.take k).map f)(hu:l[k]? = some u) : q++[f u]=(l.take (k+1)).map f:=by
 obtain ⟨h1,rfl⟩:=Qg.1 hu
 rw [h,Wf h1,List.map_append]
 rfl
theorem Xlv{α:Type}(f:α->List UInt8)(l:List α)(s:List UInt8) : joT (l.map fun x=>tx (f x)) (tx s)=tx (Lib.join (l.map f) s):=by
 unfold joT
 rw [List.map_map,X3m]
 congr 2
 first|done|exact List.map_congr_left fun x _=>X3m _
theorem Xtk{α:Type}{f:α->List UInt8}{c:Nat}{l:List α}(h:∀ x ∈ l,(f x).length<=c)(hl:(c+1)*l.length<=100000) : (Lib.join ((l.map fun x=>tx (f x)).map (·.data.toList)) (tx [44]).data.toList).length<=140737488355328:=by
 have e:(l.map fun x=>tx (f x)).map (·.data.toList)=l.map f:=by
  rw [List.map_map]
  exact List.map_congr_left fun x _=>X3m _
 rw [e,X3m]
 have:=Xcn (f:=f) h
 omega
theorem Xe4{a b c:Int}(ha:-60<=a/\a<=60)(hb:-60<=b/\b<=60)(hc:-60<=c/\c<=60) : (Lib.join ([a,b,c].map Lib.itoa) [59]).length<=11:=by
 have h1:=(X3p ha).2.2.2.2.2;have h2:=(X3p hb).2.2.2.2.2;have h3:=(X3p hc).2.2.2.2.2
 rw [List.map_cons,List.map_cons,List.map_cons,List.map_nil,X2y,X2y,Lib.join_one]
 simp only [Qh,Qs]
 omega
theorem Xws{l:List Int}{a b c:Int}(hl:l=[a,b,c])(h:∀ n ∈ l,-60<=n/\n<=60) : (Lib.join ((l.map fun n=>tx (Lib.itoa n)).map (·.data.toList)) (tx [59]).data.toList).length<=140737488355328:=by
 have e:(l.map fun x=>tx (Lib.itoa x)).map (·.data.toList)=l.map Lib.itoa:=by
  rw [List.map_map]
  exact List.map_congr_left fun x _=>X3m _
 rw [e,X3m]
 subst hl
 have:=Xe4 (h a O5) (h b O5) (h c O5)
 omega
theorem Xx3{x:Nd}(h:ndOk x) : ([.string (tx [45]),.string (tx [105]),.string (tx [111]),.string (tx [122])] : List Value)[x.k.toNat]? = some (.string (tx [ndC x.k])):=by
 rcases h with ⟨h,_⟩|⟨h,_⟩
 ·rw [h];rfl
 ·have:x.k=1∨x.k=2∨x.k=3:=by omega
  rcases this with h9|h9|h9<;>rw [h9]<;>rfl
theorem Y1w{x:Nd}(h:x.k=0) : ([ndC x.k] : List UInt8)=ndB x:=by unfold ndB;rw [Q4 h,h];rfl
theorem Y1x{x:Nd}(h:¬ x.k=0) : [ndC x.k]++Lib.itoa x.p=ndB x:=(Q3 h).symm
theorem Y07(w0:World)(x:Wr)(hx:weOk x)(a6:PowT w0)(a7:MaxT w0) : Ret Tryz.prog 45 [.string (tx (weB x))] w0 (fun v w=>v=.tuple #[.agg #[vi x.a,vi x.b,.bool x.h],.bool true]/\Below w0.heap.size w0 w):=by
 by_cases hh:x.h=true
 ·exact Xzw w0 x hx a6 a7 hh
 ·exact Y06 w0 x hx a6 a7 (by simpa using hh)
theorem Xyk(i:World)(Al:Option Addr)(cl:Nat)(l:List Int)(aA:Rd i i.heap.size 3 encI Al l)(a b c:Int)(aB:l=[a,b,c])(aC:∀ n ∈ l,-60<=n/\n<=60)(aM:PowT i) : Ret Tryz.prog 40 [.slice Al l.length cl,.string (tx [59])] i (fun v w=>v=.string (tx (Lib.join (l.map Lib.itoa) [59]))/\Below i.heap.size i w):=by
 have aX:l.length=3:=by rw [aB];rfl
 refine enter Tryz.func40 O 24 O O ?_;intro a d
 have e:=bz i
 refine Zs d fun _ aN=>?_;refine Za O<|Zx aN fun a d _ aO=>?_;refine Zf (X9 (k:=0) (vs:=[]) (zs:=[]) O X29 X61 O O) ?_;rintro _ w1 ⟨b4,rfl,aP,p,aQ⟩;have aD:=Q0 e.size aP;have e:=btr e p;refine Za O<|ZX aO fun a d _ aR=>?_;refine Zs d fun _ aS=>?_;refine Zm O<|Ze (X11 O Xy)<|Zm O<|Zt aS fun a d=>?_;refine Q8<|X00 (σ:=Nat×(List ByteArray)) (fun (s:Nat×(List ByteArray)) (a:Act) (w:World)=>match s with|(k,q)=>∃ A8 c8,Fr a 24 [(1,.string (tx [59])),(5,.slice A8 q.length c8),(9,.slice Al l.length cl),(10,vi (l.length:Int)),(11,vi (k:Int))]/\(k<=l.length)/\(q=(l.take k).map fun n=>tx (Lib.itoa n))/\(q.length=k)/\Own w i.heap.size 9 1 encTx A8 c8 q/\Below i.heap.size i w) (fun (s:Nat×(List ByteArray))=>match s with|(k,q)=>l.length-k) (0,[]) ?_ ?_
 ·exact ⟨some ⟨b4,0,none⟩,0,d.sb,(Qf _),O,O,(Own.empty aQ aD),e⟩
 rintro ⟨k,q⟩ a w2 ⟨A8,c8,d,hk,hq,aE,f,e⟩;refine Zs d fun _ aT=>?_;refine Ze (X1a O O)<|ZX aT fun a d _ aF=>?_
 refine X0z d O (fun a6 aG=>?_) (fun a6 aG=>?_)
 ·obtain ⟨g,j⟩:=X8 (l:=l) (k:=k) Z
  refine Q7<|aF _ _<|Q5 fun _ aH=>?_;refine Q8<|Zs d fun _ aI=>?_;refine Zi (k:=k) (u:=g) (enc:=encI) (l:=l) tv0 O O Xy X0e Xn (aA.bx e) j O ?_;intro aY a7;refine Ze (X0 O X2 a7)<|Za O<|Zt aI fun a d=>?_;refine Zr d<|Zm O<|Zm O<|Zf (Vc (Xd8 _ g (aC _ (Qe j)) (aM.of e)) X7l) ?_;rintro _ w3 ⟨rfl,p⟩;have f:=f.bw p;have e:=btr e p;refine Zf (X9 (k:=1) (vs:=[.string (tx (Lib.itoa g))]) (zs:=[.string (tx (Lib.itoa g))]) O X29 X61 O O) ?_;rintro _ w4 ⟨aZ,rfl,t,p,m⟩;have aU:=Q0 e.size t;have o:=f.away t;have f:=f.bw p;have e:=btr e p;refine Zf (X15 (enc:=encTx) (l:=(q)) (l2:=([tx (Lib.itoa g)])) (B0:=i.heap.size) O O X29 X61 X2m X6f f (Rd.of_blk m O _ m.lt) (by simp only [maxLen];simp;omega) O6 e.size) ?_;rintro _ w5 ⟨aV,aW,rfl,aJ,hg,aK⟩
  have x:Own _ i.heap.size 9 1 encTx _ _ (q):=f
  have a8:=aK _ m.lt o;clear aK;have e:=Below.app e x hg (Qb _) e.size;clear x hg;refine Za O ?_;refine Zn fun a d=>?_;refine X6<|aH _ _<|Zr d<|Ze (Xr O O Z Z)<|Zm O ?_;refine Zn fun a d=>?_;refine Xc ?_;exact ⟨(k+1,(q++[tx (Lib.itoa g)])),⟨aV,aW,d.sb,Z,(mpS hq j),(by simp;exact aE),aJ,e⟩,O0⟩
 have z:q=l.map fun n=>tx (Lib.itoa n):=by rw [hq,Qi Z]
 refine Q9<|Xg<|Xg<|X01 ?_;refine aR _ _<|Zs d fun _ aL=>?_;refine Zm O<|Zm O<|Zf (X2b (vs:=[.slice A8 q.length c8,.string (tx [59])]) O Xbv (by have hq:=Xjf w2 A8 c8 q (tx [59]) f.rd.top f.cap (by rw [aE];omega) (by rw [z];exact Xws aB aC);rw [show joT q (tx [59])=tx (Lib.join (l.map Lib.itoa) [59]) by rw [z];exact Xlv Lib.itoa l [59]] at hq;exact hq)) ?_;rintro _ w6 ⟨rfl,p⟩;have e:=btr e p;refine Za O<|Zt aL fun a d=>?_
 refine Q6 (X4 d (Xo d O O) ?_)
 exact ⟨O,e⟩
theorem Xsi(I:World)(d:Dg)(md:Nat)(b8:md=d.ns.length)(Ad:Option Addr)(cd:Nat)(aO:Rd I I.heap.size 64 encNd Ad d.ns)(Bd:Option Addr)(dd:Nat)(aP:Rd I I.heap.size 72 encWr Bd d.ws)(E:d.ws.length<=dd)(hG:goodD d=true)(cH:d.ws.length<=2000)(aL:PowT I) : Ret Tryz.prog 12 [.agg #[vi d.n,.slice Ad md cd,.slice Bd d.ws.length dd,vi d.t,vi d.r]] I (fun v w=>v=.tuple #[.string (tx (dgB d)),.bool true]/\Below I.heap.size I w):=by
 have dD:=X22 hG
 have cI:ivD d=true:=by rw [X6o];exact hG
 have dE:=Xaw hG cH;refine enter Tryz.func12 O 80 O O ?_;intro a A
 have i:=bz I
 refine Zs A fun _ cJ=>?_;refine Zf (X0u (zs:=[vi d.n,.slice Ad md cd,.slice Bd d.ws.length dd,vi d.t,vi d.r]) O O) ?_;rintro _ w1 ⟨b4,rfl,cK,g,f⟩;have dB:=Q0 i.size cK;have i:=btr i g;refine Za O<|Za O<|ZX cJ fun a A _ cL=>?_;refine Zs A fun _ cM=>?_;refine Ze (Vn Xm f)<|Zf (Vc (Xg8 _ d md b8 Ad cd (aO.bx i).top Bd dd (aP.bx i).top E Z) X91) ?_;rintro _ w2 ⟨rfl,g⟩;have f:=f.bw g;have i:=btr i g;refine Ze (X1w O)<|Zt cM fun a A=>?_
 refine Xz A O (fun bC=>?_) (fun bC=>?_)
 ·have h8:=bC;rw [cI] at h8;cases h8
 refine Q7<|cL _ _<|Zs A fun _ cN=>?_;refine Zf (X9 (k:=0) (vs:=[]) (zs:=[]) O X29 X61 O O) ?_;rintro _ w3 ⟨b9,rfl,cO,g,aM⟩;have bD:=Q0 i.size cO;have f:=f.bw g;have i:=btr i g;refine Zf (X9 (k:=0) (vs:=[]) (zs:=[]) O X29 X61 O O) ?_;rintro _ w4 ⟨b11,rfl,bE,g,o⟩
 have bF:b9≠b11:=by have:=aM.lt;omega
 have aW:=Q0 i.size bE;have f:=f.bw g;have aM:=aM.bw g;have i:=btr i g;refine Za O<|Za O<|ZX cN fun a A _ bG=>?_;refine Zs A fun _ bH=>?_;refine Ze (Vd O Xi 1)<|Ze (X0 O X0b (f.at 1))<|Ze (X11 O Xp)<|Zm O<|Zt bH fun a A=>?_;refine Q8<|X00 (σ:=Nat×(List ByteArray)) (fun (s:Nat×(List ByteArray)) (a:Act) (w:World)=>match s with|(k,q)=>∃ L N,Fr a 80 [(1,(pZ9 b4)),(4,.slice L q.length N),(5,.slice (some ⟨b11,0,none⟩) 0 0),(17,.slice Ad md cd),(18,vi (md:Int)),(19,vi (k:Int))]/\(k<=d.ns.length)/\(q=(d.ns.take k).map fun x=>tx (ndB x))/\(q.length=k)/\Blk w b4 31 [vi d.n,.slice Ad md cd,.slice Bd d.ws.length dd,vi d.t,vi d.r]/\Blk w b11 9 []/\Own w I.heap.size 9 1 encTx L N q/\d.ws.length<=dd/\Away L b11/\Below I.heap.size I w) (fun (s:Nat×(List ByteArray))=>match s with|(k,q)=>d.ns.length-k) (0,[]) ?_ ?_
 ·exact ⟨some ⟨b9,0,none⟩,0,A.sb,(Qf _),O,O,f,o,(Own.empty aM bD),E,(Away.ne Z),i⟩
 rintro ⟨k,q⟩ a w5 ⟨L,N,A,hk,hq,dF,f,o,e,E,B,i⟩;refine Zs A fun _ bJ=>?_;refine Ze (X1a O O)<|ZX bJ fun a A _ bK=>?_
 refine X0z A O (fun aX aC=>?_) (fun aX aC=>?_)
 ·obtain ⟨G,aD⟩:=X8 (l:=d.ns) (k:=k) (by have:=aC;omega)
  have cP:=Xmn hG aD;have dG:=Xca hG aD
  have dH:=(X3p (n:=G.p) ⟨by omega,by omega⟩).2.2.2.2.2
  refine Q7<|bK _ _<|Q5 fun _ aQ=>?_;refine Q8<|Zs A fun _ bL=>?_;refine Zj (k:=k) (u:=G) (enc:=encNd) (l:=d.ns) tv0 O Z O Xp X0g X02 (aO.bx i) aD O ?_;intro dI aY;refine Ze (X09 (l:=[vi G.k,vi G.p]) O X23 aY O) ?_;refine ZB [vi G.k,vi G.p] X40 X0g fun dJ w7 bM g aE=>?_;have cQ:=Q0 i.size bM;have f:=f.bw g;have o:=o.bw g;have e:=e.bw g;have i:=btr i g;refine Zx bL fun a A _ bN=>?_;refine Ze (Xt (ps:=[(0,.string (tx [45])),(1,.string (tx [105])),(2,.string (tx [111])),(3,.string (tx [122]))]) (cs:=[.string (tx [45]),.string (tx [105]),.string (tx [111]),.string (tx [122])]) O (fun _=>by first|rfl|kernel_rfl))<|Ze (Vd O X0y 0)<|Ze (X0 O X2 (aE.at 0))<|Ze (Xss (k:=G.k.toNat) (vs:=[.string (tx [45]),.string (tx [105]),.string (tx [111]),.string (tx [122])]) (v:=.string (tx [ndC G.k])) O O Tryz.underlying89 Xcz Xd1 Z Z (Xx3 cP))<|Za O<|ZX bN fun a A _ aR=>?_;refine Zs A fun _ bO=>?_;refine Ze (Vd O X0y 0)<|Ze (X0 O X2 (aE.at 0))<|Ze (X3t O O)<|Zt bO fun a A=>?_
  refine Xz A O (fun aF=>?_) (fun aF=>?_)
  ·have aZ:=Y1x (x:=G) (by have h8:=aF;simpa using h8)
   refine Zr A<|Zm O<|Ze (Vd O X0x 1)<|Ze (X0 O X2 (aE.at 1))<|Zf (Vc (Xd8 _ G.p ⟨by omega,by omega⟩ (aL.of i)) X7l) ?_;rintro _ w8 ⟨rfl,g⟩;have f:=f.bw g;have o:=o.bw g;have e:=e.bw g;have i:=btr i g;refine Ze (X9g (s:=[ndC G.k]) (r:=(Lib.itoa G.p)) O O (by simp only [Qh,List.length_singleton];omega))<|Za O<|Zt aR fun a A=>?_;refine Zr A<|Zm O<|Zm O<|Zf (X9 (k:=1) (vs:=[.string (tx ([ndC G.k]++(Lib.itoa G.p)))]) (zs:=[.string (tx ([ndC G.k]++(Lib.itoa G.p)))]) O X29 X61 O O) ?_;rintro _ w9 ⟨b28,rfl,aS,g,aG⟩
   have b2:b11≠b28:=by have:=o.lt;omega
   have cR:=Q0 i.size aS;have U:=e.away aS;have f:=f.bw g;have o:=o.bw g;have e:=e.bw g;have i:=btr i g;refine Zf (X15 (enc:=encTx) (l:=(q)) (l2:=([tx ([ndC G.k]++(Lib.itoa G.p))])) (B0:=I.heap.size) O O X29 X61 X2m X6f e (Rd.of_blk aG O _ aG.lt) (by simp only [maxLen];simp;omega) O6 i.size) ?_;rintro _ dK ⟨cS,cT,rfl,bP,Q,H⟩
   have C:Own _ I.heap.size 9 1 encTx _ _ (q):=e
   have W:=H _ o.lt B;have b3:=H _ aG.lt U;clear H;have f:=f.appT C Q O;have o:=o.appA Q B;have i:=Below.app i C Q (Qb _) i.size;clear C Q;refine Za O ?_;refine Zn fun a A=>?_;refine X6<|aQ _ _<|Zr A<|Ze (Xr O O Z Z)<|Zm O ?_;refine Zn fun a A=>?_;refine Xc ?_;exact ⟨(k+1,q++([tx ([ndC G.k]++(Lib.itoa G.p))])),⟨cS,cT,A.sb,Z,(by rw [aZ];exact mpS hq aD),(by rw [Qh,List.length_singleton];omega),f,o,bP,E,W,i⟩,O0⟩
  have aZ:=Y1w (x:=G) (by have h8:=aF;simpa using h8)
  refine Q7<|aR _ _<|Zr A<|Zm O<|Zm O<|Zf (X9 (k:=1) (vs:=[.string (tx [ndC G.k])]) (zs:=[.string (tx [ndC G.k])]) O X29 X61 O O) ?_;rintro _ dL ⟨b31,rfl,aT,g,aH⟩
  have b5:b11≠b31:=by have:=o.lt;omega
  have cU:=Q0 i.size aT;have a6:=e.away aT;have f:=f.bw g;have o:=o.bw g;have e:=e.bw g;have i:=btr i g;refine Zf (X15 (enc:=encTx) (l:=(q)) (l2:=([tx [ndC G.k]])) (B0:=I.heap.size) O O X29 X61 X2m X6f e (Rd.of_blk aH O _ aH.lt) (by simp only [maxLen];simp;omega) O6 i.size) ?_;rintro _ dM ⟨cV,cW,rfl,bQ,Q,H⟩
  have C:Own _ I.heap.size 9 1 encTx _ _ (q):=e
  have a7:=H _ o.lt B;have b6:=H _ aH.lt a6;clear H;have f:=f.appT C Q O;have o:=o.appA Q B;have i:=Below.app i C Q (Qb _) i.size;clear C Q;refine Za O ?_;refine Zn fun a A=>?_;refine X6<|aQ _ _<|Zr A<|Ze (Xr O O Z Z)<|Zm O ?_;refine Zn fun a A=>?_;refine Xc ?_;exact ⟨(k+1,q++([tx [ndC G.k]])),⟨cV,cW,A.sb,Z,(by rw [aZ];exact mpS hq aD),(by rw [Qh,List.length_singleton];omega),f,o,bQ,E,a7,i⟩,O0⟩
 have bR:q=d.ns.map fun x=>tx (ndB x):=by rw [hq,Qi (by have:=aC;omega)]
 refine Q9<|Xg<|Xg<|X01 ?_;refine bG _ _<|Q5 fun _ bS=>?_;refine Zs A fun _ bU=>?_;refine Ze (Vd O Xv 2)<|Ze (X0 O X12 (f.at 2))<|Ze (X11 O Xx)<|Zm O<|Zt bU fun a A=>?_;refine Q8<|X00 (σ:=Nat×(List ByteArray)) (fun (s:Nat×(List ByteArray)) (a:Act) (w:World)=>match s with|(j,m)=>∃ a8 aI,Fr a 80 [(1,(pZ9 b4)),(4,.slice L q.length N),(5,.slice a8 m.length aI),(41,.slice Bd d.ws.length dd),(42,vi (d.ws.length:Int)),(43,vi (j:Int))]/\(j<=d.ws.length)/\(m=(d.ws.take j).map fun x=>tx (weB x))/\(m.length=j)/\Blk w b4 31 [vi d.n,.slice Ad md cd,.slice Bd d.ws.length dd,vi d.t,vi d.r]/\Own w I.heap.size 9 1 encTx a8 aI m/\Own w I.heap.size 9 1 encTx L N q/\d.ws.length<=dd/\Apart L a8/\Below I.heap.size I w) (fun (s:Nat×(List ByteArray))=>match s with|(j,m)=>d.ws.length-j) (0,[]) ?_ ?_
 ·exact ⟨some ⟨b11,0,none⟩,0,A.sb,(Qf _),O,O,f,(Own.empty o aW),e,E,(Apart.of_away B),i⟩
 rintro ⟨j,m⟩ a dN ⟨a8,aI,A,hj,hv,dO,f,z,e,E,J,i⟩;refine Zs A fun _ bW=>?_;refine Ze (X1a O O)<|ZX bW fun a A _ bX=>?_
 refine X0z A O (fun b0 aJ=>?_) (fun b0 aJ=>?_)
 ·obtain ⟨dP,dC⟩:=X8 (l:=d.ws) (k:=j) Z
  obtain ⟨D,aN⟩:=X8 (l:=d.ws) (k:=j) (by have:=aJ;omega)
  have bY:=Xmo hG aN;have dQ:=bY.1;have dR:=bY.2
  have dS:=(X3p (n:=D.a) ⟨by omega,by omega⟩).2.2.2.2.2
  have dT:=(X3p (n:=D.b) ⟨by omega,by omega⟩).2.2.2.2.2
  refine Q7<|bX _ _<|Q5 fun _ bZ=>?_;refine Q8<|Zs A fun _ cA=>?_;refine Zi (k:=j) (u:=D) (enc:=encWr) (l:=d.ws) tv0 O O Xx X0s X06 (aP.bx i) aN O ?_;intro dU b1;refine Ze (X09 (l:=[vi D.a,vi D.b,.bool D.h]) O X1y b1 O) ?_;refine ZB [vi D.a,vi D.b,.bool D.h] X3n X0s fun dW dX cB g M=>?_;have cX:=Q0 i.size cB;have f:=f.bw g;have z:=z.bw g;have e:=e.bw g;have i:=btr i g;refine Zt cA fun a A=>?_;refine Xl none (fun j=>[15].contains j) mixed ?_;intro dY g;have f:=f.bw g;have M:=M.bw g;have z:=z.bw g;have e:=e.bw g;have i:=btr i g;refine Yb A<|Yo 0 O (fun _=>X3 O)<|Yo 1 O (fun _=>Vd O X1k 0)<|Ye 2 O (X0 O X2 (M.at 0))<|Yo 4 O (fun _=>Xt (ps:=[(0,.string (tx [45])),(1,.string (tx [61]))]) (cs:=[.string (tx [45]),.string (tx [61])]) O (fun _=>by first|rfl|kernel_rfl))<|Yo 5 O (fun _=>Vd O X55 2)<|Ye 6 O (X0 O X4d (M.at 2))<|Yo 10 O (fun _=>Vd O X1n 1)<|Ye 11 O (X0 O X2 (M.at 1))<|Y1 3 ?_;refine Yk O tv0 (Vc (Xd8 _ D.a ⟨by omega,by omega⟩ (aL.of i)) X7l) (fun _ _ ⟨_,g⟩=>g) ?_;rintro _ eA ⟨rfl,g⟩;have f:=f.bw g;have z:=z.bw g;have e:=e.bw g;have i:=btr i g;refine Y1 7<|Yz O tv0 (Vc (F59 _ D.h) Xt9) ?_;refine Yo 8 O (fun _=>Xss (k:=(if D.h=true then 1 else 0)) (vs:=[.string (tx [45]),.string (tx [61])]) (v:=.string (tx [seC D.h])) O O Tryz.underlying91 Xcz Xd1 (by split<;>rfl) (by split<;>decide) (by unfold seC;split<;>rfl))<|Yo 9 O (fun _=>X9g (s:=(Lib.itoa D.a)) (r:=[seC D.h]) O O (by simp only [Qh,List.length_singleton];omega))<|Y1 12 ?_
  refine Yk O tv0 (Vc (Xd8 _ D.b ⟨by omega,by omega⟩ (aL.of i)) X7l) (fun _ _ ⟨_,g⟩=>g) ?_;rintro _ eB ⟨rfl,g⟩;have f:=f.bw g;have z:=z.bw g;have e:=e.bw g;have i:=btr i g;refine Yo 13 O (fun _=>X9g (s:=((Lib.itoa D.a)++[seC D.h])) (r:=(Lib.itoa D.b)) O O (by simp only [Qh,List.length_singleton];omega))<|Y1 14 ?_;refine Yk O tv0 (X9 (k:=1) (vs:=[.string (tx (((Lib.itoa D.a)++[seC D.h])++(Lib.itoa D.b)))]) (zs:=[.string (tx (((Lib.itoa D.a)++[seC D.h])++(Lib.itoa D.b)))]) O X29 X61 O O) (fun _ _ ⟨_,_,_,h,_⟩=>h) ?_;rintro _ eC ⟨eD,rfl,aU,g,aK⟩;have cY:=Q0 i.size aU;have aA:=z.away aU;have f:=f.bw g;have z:=z.bw g;have e:=e.bw g;have i:=btr i g;refine Y1 15<|Yt O tv0 O (X15 (enc:=encTx) (l:=(m)) (l2:=([tx (((Lib.itoa D.a)++[seC D.h])++(Lib.itoa D.b))])) (B0:=I.heap.size) O O X29 X61 X2m X6f z (Rd.of_blk aK O _ aK.lt) (by simp only [maxLen];simp;omega) O6 i.size) ?_;rintro _ eE ⟨cZ,d5,rfl,cC,Q,H⟩
  have C:Own _ I.heap.size 9 1 encTx _ _ (m):=z
  have b7:=H _ aK.lt aA;have aB:=Apart.app e J H;clear H;have f:=f.appT C Q O;have e:=e.appP Q J;have i:=Below.app i C Q (Qb _) i.size;clear C Q;refine Yo 16 O (fun _=>X19 O) ?_;refine Yd fun a A=>?_;refine X6<|bZ _ _<|Zr A<|Ze (Xr O O Z Z)<|Zm O ?_;refine Zn fun a A=>?_;refine Xc ?_;exact ⟨(j+1,m++([tx (((Lib.itoa D.a)++[seC D.h])++(Lib.itoa D.b))])),⟨cZ,d5,A.sb,Z,(by first|exact mpS hv aN|(rw [show _=weB D from rfl];exact mpS hv aN)),(by rw [Qh,List.length_singleton];omega),f,cC,e,E,aB,i⟩,O0⟩
 have cD:m=d.ws.map fun x=>tx (weB x):=by rw [hv,Qi (by have:=aJ;omega)]
 refine Q9<|Xg<|Xg<|X01 ?_;refine bS _ _<|Zs A fun _ cE=>?_;refine Ze (Vd O X1e 0)<|Ze (X0 O X2 (f.at 0))<|Ze (Vd O X0w 3)<|Ze (X0 O X2 (f.at 3))<|Ze (Vd O X1f 4)<|Ze (X0 O X2 (f.at 4))<|Zf (X9 (k:=3) (vs:=[vi d.n,vi d.t,vi d.r]) (zs:=[vi d.n,vi d.t,vi d.r]) O Xy X2j O O) ?_;rintro _ eF ⟨d6,rfl,cG,g,aV⟩;have d7:=Q0 i.size cG;have z:=z.bw g;have e:=e.bw g;have i:=btr i g;refine Zf (Vc (Xyk _ (some ⟨d6,0,none⟩) 3 ([d.n,d.t,d.r]) (Rd.of_blk aV O _ aV.lt) _ _ _ O (by intro n hn;simp only [Qv,List.not_mem_nil,or_false] at hn;rcases hn with rfl|rfl|rfl<;>omega) (aL.of i)) Xpq) ?_;rintro _ d8 ⟨rfl,g⟩;have z:=z.bw g;have e:=e.bw g;have i:=btr i g;refine Ze (X9g (s:=(Lib.join [Lib.itoa d.n,Lib.itoa d.t,Lib.itoa d.r] [59])) (r:=[59]) O O (by have h3:=Xe4 (a:=d.n) (b:=d.t) (c:=d.r) ⟨by omega,by omega⟩ ⟨by omega,by omega⟩ ⟨by omega,by omega⟩;simp only [List.map_cons,List.map_nil] at h3;simp only [Qh,List.length_singleton];omega))<|Zm O<|Zf (X2b (vs:=[.slice L q.length N,.string (tx [44])]) O Xbv (by have hq:=Xjf d8 L N q (tx [44]) e.rd.top e.cap Z (by rw [bR];exact Xtk (c:=4) (fun x hx=>(Xco (X5z hG x hx)).2.2.2) Z);rw [show joT q (tx [44])=tx (Lib.join (d.ns.map ndB) [44]) by rw [bR];exact Xlv ndB d.ns [44]] at hq;exact hq)) ?_;rintro _ dA ⟨rfl,g⟩;have z:=z.bw g;have i:=btr i g;refine Ze (X9g (s:=((Lib.join [Lib.itoa d.n,Lib.itoa d.t,Lib.itoa d.r] [59])++[59])) (r:=(Lib.join (d.ns.map ndB) [44])) O O (by have h3:=Xe4 (a:=d.n) (b:=d.t) (c:=d.r) ⟨by omega,by omega⟩ ⟨by omega,by omega⟩ ⟨by omega,by omega⟩;simp only [List.map_cons,List.map_nil] at h3;simp only [Qh,List.length_singleton];omega))<|Ze (X9g (s:=(((Lib.join [Lib.itoa d.n,Lib.itoa d.t,Lib.itoa d.r] [59])++[59])++(Lib.join (d.ns.map ndB) [44]))) (r:=[59]) O O (by have h3:=Xe4 (a:=d.n) (b:=d.t) (c:=d.r) ⟨by omega,by omega⟩ ⟨by omega,by omega⟩ ⟨by omega,by omega⟩;simp only [List.map_cons,List.map_nil] at h3;simp only [Qh,List.length_singleton];omega))<|Zm O<|Zf (X2b (vs:=[.slice a8 m.length aI,.string (tx [44])]) O Xbv (by have hq:=Xjf dA a8 aI m (tx [44]) z.rd.top z.cap Z (by rw [cD];exact Xtk (c:=7) (fun x hx=>(X7a (X60 hG x hx)).2.2.2) Z);rw [show joT m (tx [44])=tx (Lib.join (d.ws.map weB) [44]) by rw [cD];exact Xlv weB d.ws [44]] at hq;exact hq)) ?_;rintro _ eG ⟨rfl,g⟩
 have i:=btr i g;refine Ze (X9g (s:=((((Lib.join [Lib.itoa d.n,Lib.itoa d.t,Lib.itoa d.r] [59])++[59])++(Lib.join (d.ns.map ndB) [44]))++[59])) (r:=(Lib.join (d.ws.map weB) [44])) O O (by have h3:=Xe4 (a:=d.n) (b:=d.t) (c:=d.r) ⟨by omega,by omega⟩ ⟨by omega,by omega⟩ ⟨by omega,by omega⟩;simp only [List.map_cons,List.map_nil] at h3;simp only [Qh,List.length_singleton];omega))<|Za O<|Za O<|Zt cE fun a A=>?_
 refine Q6 (X4 A (X2u A O O O) ?_)
 exact ⟨O,i⟩
section
variable {P : Program} {a : Act} {w : World} {n : Nat} {e : Env} {ty : TypeId} {pos : String} {af : Array Edge} {g : Option (Nat × Bool)} {d : Option Tmp} {t t' : TypeId}
theorem Xpc{x y:Operand}{s:List UInt8}(hf:Fr a n e)(hx:ev e x=some (.string (tx s)))(hy:ev e y=some (.string (tx s))) : Ev P ⟨d,.binOp .neq t x y t',ty,pos,af,g⟩ a w (.bool false):=fun w' _=>by
 simp [execOp,hf.ev hx,hf.ev hy,eqGuard,binOp,Op.stringOp]
theorem Y0e{x y:Operand}{s:List UInt8}(hx:ev e x=some (.string (tx s)))(hy:ev e y=some (.string (tx s))) : EvW P ⟨d,.binOp .neq t x y t',ty,pos,af,g⟩ n e w (.bool false):=fun _ hf=>Xpc hf hx hy
end
theorem tkS{α:Type}{l m:List α}{k:Nat}{u:α}(h:m=l.take k)(hu:l[k]? = some u) : m++[u]=l.take (k+1):=by
 obtain ⟨h1,rfl⟩:=Qg.1 hu
 rw [h]
 exact (Wf h1).symm
theorem Xm8{α:Type}{f:α->List UInt8}{l:List α}{k:Nat}{u:α}(h:l[k]? = some u) : ((l.map f).map tx)[k]? = some (tx (f u)):=by
 rw [List.getElem?_map,List.getElem?_map,h]
 rfl
theorem Xzr(W:World)(d:Dg)(hG:goodD d=true)(bL:d.ws.length<=2000)(aC:PowT W)(aN:MaxT W) : Ret Tryz.prog 13 [.string (tx (dgB d))] W (fun v w=>∃ A c B e,v=.tuple #[.agg #[vi d.n,.slice A d.ns.length c,.slice B d.ws.length e,vi d.t,vi d.r],.bool true]/\Rd w w.heap.size 64 encNd A d.ns/\Rd w w.heap.size 72 encWr B d.ws/\d.ws.length<=e/\Below W.heap.size W w):=by
 have dP:=X22 hG;have dQ:=Xaw hG bL;have aO:=Xj2 hG;have bM:=Xfg hG
 have bN:=Xea (f:=ndB) aO.1 fun x hx=>(Xco (X5z hG x hx)).2.1
 have bO:=Xea (f:=weB) aO.2 fun x hx=>(X7a (X60 hG x hx)).2.1
 have d5:0<(d.ns.map ndB).length:=by rw [Qo];exact List.length_pos_iff.2 aO.1
 have d6:0<(d.ws.map weB).length:=by rw [Qo];exact List.length_pos_iff.2 aO.2
 refine enter Tryz.func13 O 116 O O ?_;intro a E
 have D:=bz W
 refine Zs E fun _ d7=>?_;refine Zf (X03 (zs:=[vi 0,.slice none 0 0,.slice none 0 0,vi 0,vi 0]) X2l O) ?_;rintro _ w1 ⟨b4,rfl,d8,C,i⟩;have bP:=Q0 D.size d8;have D:=btr D C;refine Za O<|Zx d7 fun a E _ dA=>?_;refine Zm O<|Zf (Vc (Xjg _ _ _ (dgP d) (show 0<5 by decide) bM.1 bM.2 Z (aN.of D)) Xby) ?_;rintro _ w2 ⟨A6,c6,rfl,o,C⟩;have i:=i.bw C;have D:=btr D C;refine Za O<|ZX dA fun a E _ dB=>?_;refine Zs E fun _ dC=>?_;refine Zm O<|Ze (X11 O X29)<|Ze (X3t O O)<|Zt dC fun a E=>?_
 refine Xz E O (fun bQ=>?_) (fun bQ=>?_)
 ·have h8:=bQ;exact absurd h8 (show ¬ ((((5:Nat) : Int)) != 5)=true by decide)
 refine Q7<|dB _ _<|Zs E fun _ bR=>?_;refine Ze (Xt (ps:=[]) (cs:=[vi 0,.slice none 0 0,.slice none 0 0,vi 0,vi 0]) O (fun _=>by first|rfl|kernel_rfl)) ?_;refine ZB [vi 0,.slice none 0 0,.slice none 0 0,vi 0,vi 0] X2l X10 fun b15 w4 bS C g=>?_
 have bU:b4≠b15:=by have:=i.lt;omega
 have M:=Q0 D.size bS;have i:=i.bw C;have o:=o.bw C;have D:=btr D C;refine Zx bR fun a E _ bW=>?_;refine Zm O<|Zi (k:=0) (u:=tx (Lib.itoa d.n)) (enc:=encTx) (l:=((dgP d).map tx)) tv0 O O X29 Xcz X2m o O O ?_;intro dR aV;refine Ze (X0 O Xd1 aV)<|Zf (Vc (X8j _ d.n ⟨by omega,by omega⟩ (aC.of D)) X4w) ?_;rintro _ w5 ⟨rfl,C⟩;have i:=i.bw C;have g:=g.bw C;have o:=o.bw C;have D:=btr D C;refine Zm O<|Ze (Xj (vs:=[vi d.n,.bool true]) O O)<|Ze (Xj (vs:=[vi d.n,.bool true]) O O)<|Ze (Vd O X1e 0)<|Zo (Vu (vs:=[vi d.n]) (l':=[vi d.n,.slice none 0 0,.slice none 0 0,vi 0,vi 0]) O O X0e g) ?_;rintro _ w6 ⟨L,hb⟩;have i:=i.oy L Z;have o:=o.oT L g O;have D:=Below.oy D L M;have g:=hb;refine Zx bW fun a E _ bX=>?_;refine Zm O<|Zi (k:=1) (u:=tx (Lib.itoa d.t)) (enc:=encTx) (l:=((dgP d).map tx)) tv0 O O X29 Xcz X2m o O O ?_;intro dS aW;refine Ze (X0 O Xd1 aW)<|Zf (Vc (X8j _ d.t ⟨by omega,by omega⟩ (aC.of D)) X4w) ?_;rintro _ w7 ⟨rfl,C⟩;have i:=i.bw C;have g:=g.bw C;have o:=o.bw C;have D:=btr D C;refine Zm O<|Ze (Xj (vs:=[vi d.t,.bool true]) O O)<|Ze (Xj (vs:=[vi d.t,.bool true]) O O)<|Ze (Vd O X0w 3)<|Zo (Vu (vs:=[vi d.t]) (l':=[vi d.n,.slice none 0 0,.slice none 0 0,vi d.t,vi 0]) O O X0e g) ?_;rintro _ w8 ⟨L,hb⟩;have i:=i.oy L Z;have o:=o.oT L g O;have D:=Below.oy D L M;have g:=hb;refine Zx bX fun a E _ bY=>?_;refine Zm O<|Zi (k:=2) (u:=tx (Lib.itoa d.r)) (enc:=encTx) (l:=((dgP d).map tx)) tv0 O O X29 Xcz X2m o O O ?_;intro dT aX
 refine Ze (X0 O Xd1 aX)<|Zf (Vc (X8j _ d.r ⟨by omega,by omega⟩ (aC.of D)) X4w) ?_;rintro _ w9 ⟨rfl,C⟩;have i:=i.bw C;have g:=g.bw C;have o:=o.bw C;have D:=btr D C;refine Zm O<|Ze (Xj (vs:=[vi d.r,.bool true]) O O)<|Ze (Xj (vs:=[vi d.r,.bool true]) O O)<|Ze (Vd O X1f 4)<|Zo (Vu (vs:=[vi d.r]) (l':=[vi d.n,.slice none 0 0,.slice none 0 0,vi d.t,vi d.r]) O O X0e g) ?_;rintro _ dU ⟨L,hb⟩;have i:=i.oy L Z;have o:=o.oT L g O;have D:=Below.oy D L M;have g:=hb;refine ZX bY fun a E _ bZ=>?_;refine Zs E fun _ cA=>?_;refine Zm O<|Zi (k:=3) (u:=tx (Lib.join (d.ns.map ndB) [44])) (enc:=encTx) (l:=((dgP d).map tx)) tv0 O O X29 Xcz X2m o O O ?_;intro dW aY;refine Ze (X0 O Xd1 aY)<|Zf (Vc (Xjg _ _ _ (d.ns.map ndB) d5 bN.1 bN.2 Z (aN.of D)) Xby) ?_;rintro _ dD ⟨cB,dE,rfl,H,C⟩;have i:=i.bw C;have g:=g.bw C;have o:=o.bw C;have D:=btr D C;refine Ze (X11 O X29)<|Zm O<|Zt cA fun a E=>?_;refine Q8<|X00 (σ:=Nat×(List Nd)) (fun (s:Nat×(List Nd)) (a:Act) (w:World)=>match s with|(k,m)=>∃ Q U,Fr a 116 [(0,.string (tx (dgB d))),(2,(pZ9 b4)),(4,.slice A6 ((dgP d).map tx).length c6),(5,(pZ9 b15)),(50,.slice cB ((d.ns.map ndB).map tx).length dE),(51,vi (((d.ns.map ndB).map tx).length:Int)),(52,vi (k:Int))]/\(k<=d.ns.length)/\(m=d.ns.take k)/\(m.length=k)/\Blk w b4 31 [vi 0,.slice none 0 0,.slice none 0 0,vi 0,vi 0]/\Blk w b15 31 [vi d.n,.slice Q m.length U,.slice none 0 0,vi d.t,vi d.r]/\Rd w w2.heap.size 9 encTx A6 ((dgP d).map tx)/\Rd w dD.heap.size 9 encTx cB ((d.ns.map ndB).map tx)/\Own w W.heap.size 64 2 encNd Q U m/\Below W.heap.size W w) (fun (s:Nat×(List Nd))=>match s with|(k,m)=>d.ns.length-k) (0,[]) ?_ ?_
 ·exact ⟨none,0,E.sb,(Qf _),O,O,i,g,o,H,(Own.nil _ _ _ _ _),D⟩
 rintro ⟨k,m⟩ a dX ⟨Q,U,E,hk,hm,dY,i,g,o,H,z,D⟩;refine Zs E fun _ cC=>?_;refine Ze (X1a O O)<|ZX cC fun a E _ cD=>?_
 refine X0z E O (fun aZ aH=>?_) (fun aZ aH=>?_)
 ·obtain ⟨eA,dN⟩:=X8 (l:=((d.ns.map ndB).map tx)) (k:=k) Z
  obtain ⟨u9,aP⟩:=X8 (l:=d.ns) (k:=k) (by have h8:=aH;simp only [Qo] at h8;omega)
  have eB:=(Qg.1 aP).1;refine Q7<|cD _ _<|Q5 fun _ cE=>?_;refine Q8<|Zs E fun _ cG=>?_;refine Zi (k:=k) (u:=tx (ndB u9)) (enc:=encTx) (l:=((d.ns.map ndB).map tx)) tv0 O O X29 Xcz X2m H (Xm8 aP) O ?_;intro eC b0;refine Ze (X0 O Xd1 b0)<|Za O<|Zx cG fun a E _ cH=>?_;refine Zm O<|Zf (Vc (Xzv _ u9 (Xmn hG aP) (aC.of D)) Xqv) ?_;rintro _ eD ⟨rfl,C⟩;have i:=i.bw C;have g:=g.bw C;have o:=o.bw C;have H:=H.bw C;have z:=z.bw C;have D:=btr D C;refine Zm O<|Ze (Xj (vs:=[.agg #[vi u9.k,vi u9.p],.bool true]) O O)<|Ze (Xj (vs:=[.agg #[vi u9.k,vi u9.p],.bool true]) O O) ?_;refine ZB [vi u9.k,vi u9.p] X40 X0g fun dF eE aR C a6=>?_;have dG:=Q0 D.size aR;have aD:=z.away aR;have i:=i.bw C;have g:=g.bw C;have o:=o.bw C;have H:=H.bw C;have z:=z.bw C;have D:=btr D C;refine Za O<|ZX cH fun a E _ cI=>?_;refine Zs E fun _ cJ=>?_;refine Zm O<|Ze (X1w O)<|Zt cJ fun a E=>?_;refine X6d E O ?_;refine Q7<|cI _ _<|Zr E<|Ze (Vd O Xi 1)<|Ze (X0 O X0b (g.at 1))<|Ze (Vn X23 a6)<|Zf (X9 (k:=1) (vs:=[.agg #[vi u9.k,vi u9.p]]) (zs:=[vi u9.k,vi u9.p]) O Xp X1r O O) ?_;rintro _ eF ⟨b43,rfl,aS,C,aI⟩
  have bE:dF≠b43:=by have:=a6.lt;omega
  have dH:=Q0 D.size aS;have aE:=z.away aS;have i:=i.bw C;have g:=g.bw C;have a6:=a6.bw C;have o:=o.bw C;have H:=H.bw C;have z:=z.bw C;have D:=btr D C;refine Zf (X15 (enc:=encNd) (l:=(m)) (l2:=([u9])) (B0:=W.heap.size) O O Xp X1r X02 X2x z (Rd.of_blk aI O _ aI.lt) (by simp only [maxLen];simp only [Qs,List.length_nil];omega) (by simp only [Qs,List.length_nil];omega) D.size) ?_;rintro _ eG ⟨b1,b2,rfl,aJ,hg,a8⟩
  have I:Own _ W.heap.size 64 2 encNd _ _ (m):=z
  have bF:=a8 _ a6.lt aD;have bG:=a8 _ aI.lt aE;clear a8;have i:=i.appT I hg O;have g:=g.appT I hg O;have o:=o.appT I hg O;have H:=H.appT I hg O;have D:=Below.app D I hg (Qb _) D.size;clear I hg;refine Ze (Vd O Xi 1)<|Zo (Vu (vs:=[.slice b1 (m++([u9])).length b2]) (l':=[vi d.n,.slice b1 (m++([u9])).length b2,.slice none 0 0,vi d.t,vi d.r]) O O X3x g) ?_;rintro _ eH ⟨L,hb⟩;have i:=i.oy L Z;have o:=o.oT L g O;have H:=H.oT L g O;have aJ:=aJ.oT L g O;have D:=Below.oy D L M;have g:=hb;refine Zn fun a E=>?_;refine X6<|cE _ _<|Zr E<|Ze (Xr O O Z Z)<|Zm O ?_;refine Zn fun a E=>?_;refine Xc ?_;exact ⟨(k+1,m++([u9])),⟨b1,b2,E.sb,Z,(tkS hm aP),(by rw [Qh,List.length_singleton];omega),i,g,o,H,aJ,D⟩,O0⟩
 have b3:m=d.ns:=by rw [hm,Qi (by have h8:=aH;simp only [Qo] at h8;omega)]
 rw [b3] at g z
 refine Q9<|Xg<|Xg<|X01 ?_;refine bZ _ _<|Q5 fun _ cK=>?_;refine Zs E fun _ cL=>?_;refine Zm O<|Zi (k:=4) (u:=tx (Lib.join (d.ws.map weB) [44])) (enc:=encTx) (l:=((dgP d).map tx)) tv0 O O X29 Xcz X2m o O O ?_;intro eI b5;refine Ze (X0 O Xd1 b5)<|Zf (Vc (Xjg _ _ _ (d.ws.map weB) d6 bO.1 bO.2 Z (aN.of D)) Xby) ?_;rintro _ dI ⟨b6,cM,rfl,J,C⟩;have i:=i.bw C;have g:=g.bw C;have o:=o.bw C;have z:=z.bw C;have D:=btr D C;refine Ze (X11 O X29)<|Zm O<|Zt cL fun a E=>?_;refine Q8<|X00 (σ:=Nat×(List Wr)) (fun (s:Nat×(List Wr)) (a:Act) (w:World)=>match s with|(j,q)=>∃ aA aB,Fr a 116 [(0,.string (tx (dgB d))),(2,(pZ9 b4)),(4,.slice A6 ((dgP d).map tx).length c6),(5,(pZ9 b15)),(74,.slice b6 ((d.ws.map weB).map tx).length cM),(75,vi (((d.ws.map weB).map tx).length:Int)),(76,vi (j:Int))]/\(j<=d.ws.length)/\(q=d.ws.take j)/\(q.length=j)/\Blk w b4 31 [vi 0,.slice none 0 0,.slice none 0 0,vi 0,vi 0]/\Blk w b15 31 [vi d.n,.slice Q d.ns.length U,.slice aA q.length aB,vi d.t,vi d.r]/\Rd w w2.heap.size 9 encTx A6 ((dgP d).map tx)/\Own w W.heap.size 64 2 encNd Q U d.ns/\Rd w dI.heap.size 9 encTx b6 ((d.ws.map weB).map tx)/\Own w W.heap.size 72 3 encWr aA aB q/\Below W.heap.size W w) (fun (s:Nat×(List Wr))=>match s with|(j,q)=>d.ws.length-j) (0,[]) ?_ ?_
 ·exact ⟨none,0,E.sb,(Qf _),O,O,i,g,o,z,J,(Own.nil _ _ _ _ _),D⟩
 rintro ⟨j,q⟩ a eJ ⟨aA,aB,E,hj,hv,eK,i,g,o,z,J,G,D⟩;refine Zs E fun _ cN=>?_;refine Ze (X1a O O)<|ZX cN fun a E _ cO=>?_
 refine X0z E O (fun b7 aK=>?_) (fun b7 aK=>?_)
 ·obtain ⟨eL,dO⟩:=X8 (l:=((d.ws.map weB).map tx)) (k:=j) Z
  obtain ⟨N,aQ⟩:=X8 (l:=d.ws) (k:=j) (by have h8:=aK;simp only [Qo] at h8;omega)
  have eM:=(Qg.1 aQ).1;refine Q7<|cO _ _<|Q5 fun _ cP=>?_;refine Q8<|Zs E fun _ cQ=>?_;refine Zi (k:=j) (u:=tx (weB N)) (enc:=encTx) (l:=((d.ws.map weB).map tx)) tv0 O O X29 Xcz X2m J (Xm8 aQ) O ?_;intro eO b8;refine Ze (X0 O Xd1 b8)<|Za O<|Zx cQ fun a E _ cR=>?_;refine Zm O<|Zf (X2b (vs:=[.string (tx (weB N))]) O Xqw (Y07 _ N (Xmo hG aQ) (aC.of D) (aN.of D))) ?_;rintro _ eP ⟨rfl,C⟩;have i:=i.bw C;have g:=g.bw C;have o:=o.bw C;have z:=z.bw C;have J:=J.bw C;have G:=G.bw C;have D:=btr D C;refine Zm O<|Ze (Xj (vs:=[.agg #[vi N.a,vi N.b,.bool N.h],.bool true]) O O)<|Ze (Xj (vs:=[.agg #[vi N.a,vi N.b,.bool N.h],.bool true]) O O) ?_;refine ZB [vi N.a,vi N.b,.bool N.h] X3n X0s fun cS dJ aT C a7=>?_;have dK:=Q0 D.size aT;have aF:=G.away aT;have i:=i.bw C;have g:=g.bw C;have o:=o.bw C;have z:=z.bw C;have J:=J.bw C;have G:=G.bw C;have D:=btr D C;refine Za O<|ZX cR fun a E _ cT=>?_;refine Q5 fun _ cU=>?_;refine X0p (fun a w=>Fr a 116 [(0,.string (tx (dgB d))),(2,(pZ9 b4)),(4,.slice A6 ((dgP d).map tx).length c6),(5,(pZ9 b15)),(12,(pZ9 cS)),(13,.bool true),(74,.slice b6 ((d.ws.map weB).map tx).length cM),(75,vi (((d.ws.map weB).map tx).length:Int)),(76,vi (j:Int)),(92,.bool false)]/\dJ=w) ?_ ?_
  ·refine Zr E<|Zm O<|Ze (X1w O)<|Zm O<|Zp (gP O) ?_;(iterate 3 refine Zp (gP O) ?_);refine Ze (Xh O O O) ?_;refine Zn fun a E=>?_;exact ⟨E.sb,O⟩
  rintro a _ ⟨E,rfl⟩;refine cU _ _<|X6d E O ?_;refine Q7<|cT _ _<|Zs E fun _ cV=>?_;refine Zm O<|Zt cV fun a E=>?_;refine Xbo E O ?_;refine Zr E<|Ze (Vd O Xv 2)<|Ze (X0 O X12 (g.at 2))<|Ze (Vn X1y a7)<|Zf (X9 (k:=1) (vs:=[.agg #[vi N.a,vi N.b,.bool N.h]]) (zs:=[vi N.a,vi N.b,.bool N.h]) O Xx X1v O O) ?_;rintro _ eQ ⟨b65,rfl,aU,C,aL⟩
  have bH:cS≠b65:=by have:=a7.lt;omega
  have dL:=Q0 D.size aU;have aG:=G.away aU;have i:=i.bw C;have g:=g.bw C;have a7:=a7.bw C;have o:=o.bw C;have z:=z.bw C;have J:=J.bw C;have G:=G.bw C;have D:=btr D C;refine Zf (X15 (enc:=encWr) (l:=(q)) (l2:=([N])) (B0:=W.heap.size) O O Xx X1v X06 X2n G (Rd.of_blk aL O _ aL.lt) (by simp only [maxLen];simp only [Qs,List.length_nil];omega) (by simp only [Qs,List.length_nil];omega) D.size) ?_;rintro _ eR ⟨b9,bC,rfl,aM,hg,a8⟩
  have I:Own _ W.heap.size 72 3 encWr _ _ (q):=G
  have bJ:=a8 _ a7.lt aF;have bK:=a8 _ aL.lt aG;clear a8;have i:=i.appT I hg O;have g:=g.appT I hg O;have o:=o.appT I hg O;have z:=z.appT I hg O;have J:=J.appT I hg O;have D:=Below.app D I hg (Qb _) D.size;clear I hg;refine Ze (Vd O Xv 2)<|Zo (Vu (vs:=[.slice b9 (q++([N])).length bC]) (l':=[vi d.n,.slice Q d.ns.length U,.slice b9 (q++([N])).length bC,vi d.t,vi d.r]) O O X32 g) ?_;rintro _ eS ⟨L,hb⟩;have i:=i.oy L Z;have o:=o.oT L g O;have z:=z.oT L g O;have J:=J.oT L g O;have aM:=aM.oT L g O;have D:=Below.oy D L M;have g:=hb;refine Zn fun a E=>?_;refine X6<|cP _ _<|Zr E<|Ze (Xr O O Z Z)<|Zm O ?_;refine Zn fun a E=>?_;refine Xc ?_;exact ⟨(j+1,q++([N])),⟨b9,bC,E.sb,Z,(tkS hv aQ),(by rw [Qh,List.length_singleton];omega),i,g,o,z,J,aM,D⟩,O0⟩
 have bD:q=d.ws:=by rw [hv,Qi (by have h8:=aK;simp only [Qo] at h8;omega)]
 rw [bD] at g G
 refine Q9<|Xg<|Xg<|X01 ?_;refine cK _ _<|Q5 fun _ cW=>?_;refine Zs E fun _ cX=>?_;refine Ze (Vn Xm g)<|Zf (Vc (Xsi _ d d.ns.length O Q U z.rd.top aA aB G.rd.top G.cap hG bL (aC.of D)) Xhb) ?_;rintro _ dM ⟨rfl,C⟩;have i:=i.bw C;have g:=g.bw C;have z:=z.bw C;have G:=G.bw C;have D:=btr D C;refine Zm O<|Ze (Xj (vs:=[.string (tx (dgB d)),.bool true]) O O)<|Ze (Xj (vs:=[.string (tx (dgB d)),.bool true]) O O)<|Za O<|Za O<|ZX cX fun a E _ cY=>?_;refine X0p (fun a w=>Fr a 116 [(2,(pZ9 b4)),(5,(pZ9 b15)),(113,.bool false)]/\dM=w) ?_ ?_
 ·refine Zr E<|Zm O<|Ze (X1w O)<|Zm O<|Zv (gW O) (X3 O) ?_;refine Zv (gW O) (X3 O) ?_;refine Zv (gW O) (Y0e O O) ?_;refine Ze (Xh O O O) ?_;refine Zn fun a E=>?_;exact ⟨E.sb,O⟩
 rintro a _ ⟨E,rfl⟩;refine cY _ _<|X6d E O ?_;refine Q7<|cW _ _<|Zs E fun _ cZ=>?_;refine Ze (Vn Xm g)<|Zo (Vw [vi d.n,.slice Q d.ns.length U,.slice aA d.ws.length aB,vi d.t,vi d.r] X10 i) ?_;rintro _ eT ⟨L,hb⟩;have z:=z.oT L i O;have G:=G.oT L i O;have D:=Below.oy D L bP;have i:=hb;refine Za O<|Zt cZ fun a E=>?_
 refine Q6 (X4 E (X2u E O (ResV.cellN (l:=[vi d.n,.slice Q d.ns.length U,.slice aA d.ws.length aB,vi d.t,vi d.r]) O Xm (i.at 0) O) O) ?_)
 exact ⟨Q,U,aA,aB,O,z.rd.top,G.rd.top,G.cap,D⟩
theorem Xwq{c:Cx}(hl:c.gs.length<=100) : InD (if (dgC c)=true then ofD c else zD)/\(if (dgC c)=true then ofD c else zD).ws.length<=2000:=by
 by_cases h:dgC c=true
 ·rw [Q4 h]
  have hc:cOk c=true:=by unfold dgC at h;simp only [Qd] at h;exact h.1
  exact ⟨X3k (Xgp h),(Xml hc).2.2⟩
 ·rw [Q3 h];exact ⟨Y1q,by decide⟩
theorem Xuy{c:Cx}(h:dgC c=true) : cOk c=true:=by unfold dgC at h;simp only [Qd] at h;exact h.1
theorem Xgd(d:Dg)(P Q:Nat)(h:d.ns.length<=P/\d.ws.length<=Q) : (if (goodD d)=true then adD d else zD).ns.length<=P/\(if (goodD d)=true then adD d else zD).ws.length<=Q:=by
 by_cases hg:goodD d=true
 ·rw [Q4 hg]
  exact ⟨by show (d.ns.map adNd).length<=P;rw [Qo];exact h.1,h.2⟩
 ·rw [Q3 hg];exact ⟨Qf _,Qf _⟩
theorem Xcm(d:Dg) : ((mnO d).getD mZ).cells.length<=1024:=by
 cases h:mnO d with
 | none=>exact Qf _
 | some M=>
  show M.cells.length<=1024
  unfold mnO at h
  split at h
  ·rename_i hg
   rw [Qd] at hg
   have hn:=(X22 hg.1).1;have h1:=X4p h
   rw [h1.2.2.2,Qj]
   have h2:2^d.n.toNat<=32:=Nat.pow_le_pow_right (n:=2) O4 (show d.n.toNat<=5 by omega)
   exact X30 h2 h2
  ·cases h
theorem Y1r{c:Cx}(hd:dgC c=true){M U:Mx}(hM:mnO (if (dgC c)=true then ofD c else zD)=some M)(hU:opS c=some U) : M=U:=by
 rw [Q4 hd] at hM
 exact Xrf (Xuy hd) hM ((Xtz c).1.trans hU)
theorem Xx0{d:Dg}(hG:goodD d=true){M N X:Mx}(hM:mnO d=some M)(hN:mnO (if (goodD d)=true then adD d else zD)=some N)(hX:adOp M=some X) : N=X:=by
 rw [Q4 hG] at hN
 have h:=Xm1 hG hM hN
 unfold adOp at hX
 split at hX
 ·rw [h];exact Option.some.inj hX
 ·cases hX
theorem Xm5(d:Dg)(N:Option Mx)(hN:N=mnO (if (goodD d)=true then adD d else zD)) : (!goodD d||!(mnO d).isSome||!N.isSome||!(adOp ((mnO d).getD mZ)).isSome||decide ((N.getD mZ).rows=((adOp ((mnO d).getD mZ)).getD mZ).rows)&&decide ((N.getD mZ).cols=((adOp ((mnO d).getD mZ)).getD mZ).cols)&&decide ((N.getD mZ).cells=((adOp ((mnO d).getD mZ)).getD mZ).cells))=true:=by
 cases hG:goodD d with
 | false=>rfl
 | true=>
  cases hM:mnO d with
  | none=>rfl
  | some M=>
   cases a6:N with
   | none=>rfl
   | some N'=>
    cases hX:adOp M with
    | none=>simp [hX]
    | some X=>
     have h:=Xx0 hG hM (hN.symm.trans a6) hX
     subst h
     simp [hX]
theorem Xzq(w0:World){dW:TypeId}(b9:Option Addr)(bZ:Nat)(aJ:List Int)(aK:Rd w0 w0.heap.size dW encU b9 aJ)(dX:∀ x ∈ aJ,0<=x/\x<=255){dY:TypeId}(aL:Option Addr)(aO:Nat)(more:List Int)(aM:Rd w0 w0.heap.size dY encU aL more)(eA:∀ x ∈ more,0<=x/\x<=255)(cL:PowT w0)(eB:MaxT w0) : Ret Tryz.prog 3 [.slice b9 aJ.length bZ,.slice aL more.length aO] w0 (fun v w=>v=.bool true/\Below w0.heap.size w0 w):=by
 refine enter Tryz.func3 O 139 O O ?_;intro a j
 have f:=bz w0
 refine Zs j fun _ eC=>?_;refine Za O<|ZX eC fun a j _ eD=>?_;refine Zs j fun _ eE=>?_;refine Zm O<|Zm O<|Zf (Vc (Xya _ b9 bZ aJ (aK.bx f).top aL aO more (aM.bx f).top) Xpi) ?_;rintro _ w1 ⟨rfl,e⟩;have f:=btr f e;refine Zt eE fun a j=>?_
 refine Xz j O (fun U=>?_) (fun U=>?_)
 ·refine Zs j fun _ eF=>?_;refine Za O<|Zt eF fun a j=>?_;refine Q6<|X7<|X4 j (Xo j O O) ?_;exact ⟨by first|rfl|exact congrArg Value.bool (Xm5 _ _ rfl),f⟩
 refine Q7<|eD _ _<|Zs j fun _ eG=>?_;refine Zm O<|Zf (Vc (Xzp _ b9 bZ aJ (aK.bx f).top dX) Xqq) ?_;rintro _ w2 ⟨b,aQ,aR,rfl,cA,g,e⟩;have g:=g.lower f.size;have f:=btr f e
 have aE:=Xwq (c:=b) Z
 refine ZB [vi b.n,.slice aQ b.gs.length aR] Xd6 X59 fun eH w4 cM e D=>?_;have eI:=Q0 f.size cM;have g:=g.bw e;have f:=btr f e;refine Zx eG fun a j _ cN=>?_;refine Ze (Vn X3g D)<|Zf (Vc (Xyv _ b aQ aR g.rd.top (Q0 cA O4)) Xpy) ?_;rintro _ w5 ⟨aW,aX,aY,aZ,rfl,p,q,b0,e⟩;have D:=D.bw e;have g:=g.bw e;have f:=btr f e;refine Zm O<|Ze (Xj (vs:=[.agg #[vi ((if (dgC b)=true then ofD b else zD).n),.slice aW ((if (dgC b)=true then ofD b else zD).ns).length aX,.slice aY ((if (dgC b)=true then ofD b else zD).ws).length aZ,vi ((if (dgC b)=true then ofD b else zD).t),vi ((if (dgC b)=true then ofD b else zD).r)],.bool (dgC b)]) O O)<|Ze (Xj (vs:=[.agg #[vi ((if (dgC b)=true then ofD b else zD).n),.slice aW ((if (dgC b)=true then ofD b else zD).ns).length aX,.slice aY ((if (dgC b)=true then ofD b else zD).ws).length aZ,vi ((if (dgC b)=true then ofD b else zD).t),vi ((if (dgC b)=true then ofD b else zD).r)],.bool (dgC b)]) O O) ?_;refine ZB [vi ((if (dgC b)=true then ofD b else zD).n),.slice aW ((if (dgC b)=true then ofD b else zD).ns).length aX,.slice aY ((if (dgC b)=true then ofD b else zD).ws).length aZ,vi ((if (dgC b)=true then ofD b else zD).t),vi ((if (dgC b)=true then ofD b else zD).r)] X2l X10 fun cB w7 cO e z=>?_;have eJ:=Q0 f.size cO;have D:=D.bw e;have g:=g.bw e;have p:=p.bw e;have q:=q.bw e;have f:=btr f e;refine Za O<|Zx cN fun a j _ cP=>?_;refine Ze (Vn X3g D)<|Zf (Vc (Xyt _ b aQ aR g.rd.top) Xpx) ?_;rintro _ w8 ⟨b1,b2,b3,b4,rfl,k,o,bX,e⟩
 have D:=D.bw e;have z:=z.bw e;have g:=g.bw e;have p:=p.bw e;have q:=q.bw e;have f:=btr f e;refine Zm O<|Ze (Xj (vs:=[.agg #[vi ((if (dgC b)=true then ofD b else zD).n),.slice b1 ((if (dgC b)=true then ofD b else zD).ns).length b2,.slice b3 ((if (dgC b)=true then ofD b else zD).ws).length b4,vi ((if (dgC b)=true then ofD b else zD).t),vi ((if (dgC b)=true then ofD b else zD).r)],.bool (dgC b)]) O O)<|Ze (Xj (vs:=[.agg #[vi ((if (dgC b)=true then ofD b else zD).n),.slice b1 ((if (dgC b)=true then ofD b else zD).ns).length b2,.slice b3 ((if (dgC b)=true then ofD b else zD).ws).length b4,vi ((if (dgC b)=true then ofD b else zD).t),vi ((if (dgC b)=true then ofD b else zD).r)],.bool (dgC b)]) O O) ?_;refine ZB [vi ((if (dgC b)=true then ofD b else zD).n),.slice b1 ((if (dgC b)=true then ofD b else zD).ns).length b2,.slice b3 ((if (dgC b)=true then ofD b else zD).ws).length b4,vi ((if (dgC b)=true then ofD b else zD).t),vi ((if (dgC b)=true then ofD b else zD).r)] X2l X10 fun b23 w10 cQ e u=>?_
 have cD:cB≠b23:=by have:=z.lt;omega
 have eK:=Q0 f.size cQ;have D:=D.bw e;have z:=z.bw e;have g:=g.bw e;have p:=p.bw e;have q:=q.bw e;have k:=k.bw e;have o:=o.bw e;have f:=btr f e;refine Za O<|ZX cP fun a j _ cR=>?_;refine Q5 fun _ cS=>?_;refine X0p (fun a w=>Fr a 139 [(1,.slice aL more.length aO),(5,(pZ9 eH)),(6,(pZ9 cB)),(7,.bool (dgC b)),(8,(pZ9 b23)),(50,.bool (((dgC b) != (dgC b))||(!(decide ((if (dgC b)=true then ofD b else zD)=(if (dgC b)=true then ofD b else zD))))))]/\Below w10.heap.size w10 w) ?_ ?_
 ·have Q:Below w10.heap.size w10 w10:=Below.refl _ _
  refine Zr j<|Zm O<|Zm O<|Ze (Xsr Tryz.underlying4 O O)<|Zm O ?_
  refine Zg 45 O (fun A=>?_) (fun A=>?_)
  ·(iterate 4 refine Zp (gP A) ?_);refine Ze (Xa O A O) ?_;refine Zn fun a j=>?_;exact ⟨j.sub ⟨O,O,O,O,O,X1 O (by first|rfl|(simp only [A,Qw,Bool.false_and,Bool.true_or,Bool.false_or];done)|(simp only [U,A,Qw,Bool.false_and,Bool.true_or,Bool.false_or];done)|(simp [U,A];done)|(exfalso;revert A;simp)),trivial⟩,Q⟩
  refine Zv (gW A) (Vn Xm z) ?_;refine Zv (gW A) (Vn Xm u) ?_;refine Zk (gW A) (Vc (Xs7 _ (if (dgC b)=true then ofD b else zD) (((if (dgC b)=true then ofD b else zD).ns).length) O aW aX p.top aY aZ q.top b0 (if (dgC b)=true then ofD b else zD) (((if (dgC b)=true then ofD b else zD).ns).length) O b1 b2 k.top b3 b4 o.top bX (Q0 aE.1.len O4) (Q0 aE.1.m O4)) Xgz) ?_;rintro _ f0 ⟨rfl,e⟩;have f:=btr f e;have Q:=btr Q e;refine Zv (gW A) (X1w O) ?_;refine Ze (Xh O A O) ?_;refine Zn fun a j=>?_;exact ⟨j.sub ⟨O,O,O,O,O,X1 O (by first|rfl|(simp only [A,Qw,Bool.false_and,Bool.true_or,Bool.false_or];done)|(simp only [U,A,Qw,Bool.false_and,Bool.true_or,Bool.false_or];done)|(simp [U,A];done)|(exfalso;revert A;simp)),trivial⟩,Q⟩
 rintro a f4 ⟨j,e⟩;have D:=D.bw e;have z:=z.bw e;have u:=u.bw e;have g:=g.bw e;have p:=p.bw e;have q:=q.bw e;have k:=k.bw e;have o:=o.bw e;have f:=btr f e;refine cS _ _ ?_
 refine Xz j O (fun B=>?_) (fun B=>?_)
 ·have eL:=B
  simp at B
 refine Q7<|cR _ _<|Q5 fun _ cT=>?_;refine Zs j fun _ cU=>?_;refine Zm O<|Zt cU fun a j=>?_;refine X0p (fun a w=>Fr a 139 [(1,.slice aL more.length aO)]/\Below w0.heap.size w0 w) ?_ ?_
 ·refine Xz j O (fun aF=>?_) (fun aF=>?_)
  ·have cC:dgC b=true:=aF
   have cV:goodD (if (dgC b)=true then ofD b else zD)=true:=by rw [Q4 cC];exact Xgp cC
   refine Zs j fun _ cW=>?_;refine Ze (Vn Xm z)<|Zf (Vc (Xs8 _ (if (dgC b)=true then ofD b else zD) (((if (dgC b)=true then ofD b else zD).ns).length) O aW aX p.top aY aZ q.top b0 (Q0 aE.1.len O4) aE.1.m) Xh0) ?_;rintro _ f5 ⟨bC,bD,rfl,a7,e⟩;have a7:=a7.lower f.size;have D:=D.bw e;have z:=z.bw e;have u:=u.bw e;have g:=g.bw e;have p:=p.bw e;have q:=q.bw e;have k:=k.bw e;have o:=o.bw e;have f:=btr f e;refine Zm O<|Ze (Xj (vs:=[.agg #[vi ((((mnO (if (dgC b)=true then ofD b else zD))).getD mZ).rows),vi ((((mnO (if (dgC b)=true then ofD b else zD))).getD mZ).cols),.slice bC ((((mnO (if (dgC b)=true then ofD b else zD))).getD mZ).cells).length bD],.bool (((mnO (if (dgC b)=true then ofD b else zD))).isSome)]) O O)<|Ze (Xj (vs:=[.agg #[vi ((((mnO (if (dgC b)=true then ofD b else zD))).getD mZ).rows),vi ((((mnO (if (dgC b)=true then ofD b else zD))).getD mZ).cols),.slice bC ((((mnO (if (dgC b)=true then ofD b else zD))).getD mZ).cells).length bD],.bool (((mnO (if (dgC b)=true then ofD b else zD))).isSome)]) O O) ?_;refine ZB [vi ((((mnO (if (dgC b)=true then ofD b else zD))).getD mZ).rows),vi ((((mnO (if (dgC b)=true then ofD b else zD))).getD mZ).cols),.slice bC ((((mnO (if (dgC b)=true then ofD b else zD))).getD mZ).cells).length bD] X3a X1o fun eM f7 cX e aH=>?_;have eO:=Q0 f.size cX;have D:=D.bw e;have z:=z.bw e;have u:=u.bw e;have g:=g.bw e;have p:=p.bw e;have q:=q.bw e;have k:=k.bw e;have o:=o.bw e;have a7:=a7.bw e;have f:=btr f e
   refine Za O<|Zx cW fun a j _ cY=>?_;refine Ze (Vn X3g D)<|Zf (Vc (Y31 _ b aQ aR g.rd.top) Xvw) ?_;rintro _ f8 ⟨bE,bF,rfl,b5,e⟩;have z:=z.bw e;have u:=u.bw e;have aH:=aH.bw e;have p:=p.bw e;have q:=q.bw e;have k:=k.bw e;have o:=o.bw e;have a7:=a7.bw e;have f:=btr f e;refine Zm O<|Ze (Xj (vs:=[.agg #[vi (((opS b).getD mZ).rows),vi (((opS b).getD mZ).cols),.slice bE (((opS b).getD mZ).cells).length bF],.bool ((opS b).isSome)]) O O)<|Ze (Xj (vs:=[.agg #[vi (((opS b).getD mZ).rows),vi (((opS b).getD mZ).cols),.slice bE (((opS b).getD mZ).cells).length bF],.bool ((opS b).isSome)]) O O) ?_;refine ZB [vi (((opS b).getD mZ).rows),vi (((opS b).getD mZ).cols),.slice bE (((opS b).getD mZ).cells).length bF] X3a X1o fun b38 w18 cZ e d5=>?_
   have cE:eM≠b38:=by have:=aH.lt;omega
   have eP:=Q0 f.size cZ;have z:=z.bw e;have u:=u.bw e;have aH:=aH.bw e;have p:=p.bw e;have q:=q.bw e;have k:=k.bw e;have o:=o.bw e;have a7:=a7.bw e;have b5:=b5.bw e;have f:=btr f e;refine Za O<|ZX cY fun a j _ d6=>?_;refine Q5 fun _ d7=>?_;refine X0p (fun a w=>Fr a 139 [(1,.slice aL more.length aO),(6,(pZ9 cB)),(8,(pZ9 b23)),(71,.bool (((((mnO (if (dgC b)=true then ofD b else zD))).isSome)&&((opS b).isSome))&&(!(decide ((((mnO (if (dgC b)=true then ofD b else zD))).getD mZ).rows=((opS b).getD mZ).rows)&&decide ((((mnO (if (dgC b)=true then ofD b else zD))).getD mZ).cols=((opS b).getD mZ).cols)&&decide ((((mnO (if (dgC b)=true then ofD b else zD))).getD mZ).cells=((opS b).getD mZ).cells)))))]/\Below w18.heap.size w18 w) ?_ ?_
   ·have Q:Below w18.heap.size w18 w18:=Below.refl _ _
    refine Zr j<|Zm O<|Zm O ?_
    refine Zg 63 O (fun H=>?_) (fun H=>?_)
    ·refine Zv (gW H) (X3 O) ?_;refine Ze (Xa O H O)<|Zm O ?_
     refine Zg 66 O (fun C=>?_) (fun C=>?_)
     ·refine Zv (gW C) (Vn X1d aH) ?_;refine Zv (gW C) (Vn X1d d5) ?_;refine Zk (gW C) (Vc (Xy8 _ (((mnO (if (dgC b)=true then ofD b else zD))).getD mZ) bC bD a7.rd.top ((opS b).getD mZ) bE bF b5.top (Q0 (Xcm _) O4)) Xkz) ?_;rintro _ f9 ⟨rfl,e⟩;have f:=btr f e;have Q:=btr Q e;refine Zv (gW C) (X1w O) ?_;refine Ze (Xa O C O) ?_;refine Zn fun a j=>?_;exact ⟨j.sub ⟨O,O,O,X1 O (by first|rfl|(simp only [H,C,Qw,Bool.false_and,Bool.true_or,Bool.false_or];done)|(simp only [U,B,aF,H,C,Qw,Bool.false_and,Bool.true_or,Bool.false_or];done)|(simp [U,B,aF,H,C];done)|(exfalso;revert C;simp)),trivial⟩,Q⟩
     (iterate 4 refine Zp (gP C) ?_);refine Ze (Xh O C O) ?_;refine Zn fun a j=>?_;exact ⟨j.sub ⟨O,O,O,X1 O (by first|rfl|(simp only [H,C,Qw,Bool.false_and,Bool.true_or,Bool.false_or];done)|(simp only [U,B,aF,H,C,Qw,Bool.false_and,Bool.true_or,Bool.false_or];done)|(simp [U,B,aF,H,C];done)|(exfalso;revert C;simp)),trivial⟩,Q⟩
    refine Zp (gP H) ?_;refine Ze (Xh O H O)<|Zm O<|Zp (gP O) ?_;(iterate 3 refine Zp (gP O) ?_);refine Ze (Xh O O O) ?_;refine Zn fun a j=>?_;exact ⟨j.sub ⟨O,O,O,X1 O (by first|rfl|(simp only [H,Qw,Bool.false_and,Bool.true_or,Bool.false_or];done)|(simp only [U,B,aF,H,Qw,Bool.false_and,Bool.true_or,Bool.false_or];done)|(simp [U,B,aF,H];done)|(exfalso;revert H;simp)),trivial⟩,Q⟩
   rintro a fA ⟨j,e⟩;have z:=z.bw e;have u:=u.bw e;have p:=p.bw e;have q:=q.bw e;have k:=k.bw e;have o:=o.bw e;have f:=btr f e;refine d7 _ _ ?_
   refine Xz j O (fun bY=>?_) (fun bY=>?_)
   ·have h8:=bY;cases e1:mnO (if (dgC b)=true then ofD b else zD) with|none=>rw [e1] at h8;simp at h8|some M=>cases e2:opS b with|none=>rw [e1,e2] at h8;simp at h8|some N=>have h7:=Y1r cC e1 e2;subst h7;rw [e1,e2] at h8;simp at h8
   refine Q7<|d6 _ _<|Zs j fun _ d8=>?_;refine Ze (Vn Xm z)<|Zf (Vc (Xsi _ (if (dgC b)=true then ofD b else zD) (((if (dgC b)=true then ofD b else zD).ns).length) O aW aX p.top aY aZ q.top b0 cV aE.2 (cL.of f)) Xhb) ?_;rintro _ fB ⟨rfl,e⟩;have u:=u.bw e;have k:=k.bw e;have o:=o.bw e;have f:=btr f e;refine Zm O<|Ze (Xj (vs:=[.string (tx (dgB (if (dgC b)=true then ofD b else zD))),.bool true]) O O)<|Ze (Xj (vs:=[.string (tx (dgB (if (dgC b)=true then ofD b else zD))),.bool true]) O O)<|Za O<|Za O<|Zx d8 fun a j _ dA=>?_;refine Zm O<|Zf (Vc (Xzr _ (if (dgC b)=true then ofD b else zD) cV aE.2 (cL.of f) (eB.of f)) Xqr) ?_;rintro _ fC ⟨bG,bH,bJ,bK,rfl,b6,b7,dB,e⟩;have u:=u.bw e;have k:=k.bw e;have o:=o.bw e;have f:=btr f e;refine Zm O<|Ze (Xj (vs:=[.agg #[vi ((if (dgC b)=true then ofD b else zD).n),.slice bG ((if (dgC b)=true then ofD b else zD).ns).length bH,.slice bJ ((if (dgC b)=true then ofD b else zD).ws).length bK,vi ((if (dgC b)=true then ofD b else zD).t),vi ((if (dgC b)=true then ofD b else zD).r)],.bool true]) O O)<|Ze (Xj (vs:=[.agg #[vi ((if (dgC b)=true then ofD b else zD).n),.slice bG ((if (dgC b)=true then ofD b else zD).ns).length bH,.slice bJ ((if (dgC b)=true then ofD b else zD).ws).length bK,vi ((if (dgC b)=true then ofD b else zD).t),vi ((if (dgC b)=true then ofD b else zD).r)],.bool true]) O O) ?_;refine ZB [vi ((if (dgC b)=true then ofD b else zD).n),.slice bG ((if (dgC b)=true then ofD b else zD).ns).length bH,.slice bJ ((if (dgC b)=true then ofD b else zD).ws).length bK,vi ((if (dgC b)=true then ofD b else zD).t),vi ((if (dgC b)=true then ofD b else zD).r)] X2l X10 fun b50 w24 dC e dD=>?_
   have cG:b23≠b50:=by have:=u.lt;omega
   have eQ:=Q0 f.size dC;have u:=u.bw e;have k:=k.bw e;have o:=o.bw e;have b6:=b6.bw e;have b7:=b7.bw e;have f:=btr f e;refine Za O<|ZX dA fun a j _ dE=>?_;refine X0p (fun a w=>Fr a 139 [(1,.slice aL more.length aO),(93,.bool (!(decide ((if (dgC b)=true then ofD b else zD)=(if (dgC b)=true then ofD b else zD)))))]/\Below w24.heap.size w24 w) ?_ ?_
   ·have Q:Below w24.heap.size w24 w24:=Below.refl _ _
    refine Zr j<|Zm O<|Ze (X1w O)<|Zm O<|Zv (gW O) (X3 O) ?_;refine Zv (gW O) (X1w O) ?_;refine Ze (Xh O O O)<|Zm O<|Zv (gW O) (Vn Xm dD) ?_;refine Zv (gW O) (Vn Xm u) ?_;refine Zk (gW O) (Vc (Xs7 _ (if (dgC b)=true then ofD b else zD) (((if (dgC b)=true then ofD b else zD).ns).length) O bG bH b6.top bJ bK b7.top dB (if (dgC b)=true then ofD b else zD) (((if (dgC b)=true then ofD b else zD).ns).length) O b1 b2 k.top b3 b4 o.top bX (Q0 aE.1.len O4) (Q0 aE.1.m O4)) Xgz) ?_;rintro _ fE ⟨rfl,e⟩;have f:=btr f e;have Q:=btr Q e;refine Zv (gW O) (X1w O) ?_;refine Ze (Xh O O O) ?_;refine Zn fun a j=>?_;exact ⟨j.sb,Q⟩
   rintro a fF ⟨j,e⟩;have f:=btr f e;refine dE _ _ ?_
   refine Xz j O (fun b8=>?_) (fun b8=>?_)
   ·have eR:=b8
    simp at b8
   refine Q7<|Xc ?_;exact ⟨j.sb,f⟩
  refine Q7<|Xc ?_;exact ⟨j.sb,f⟩
 rintro a fG ⟨j,f⟩;refine cT _ _<|Zs j fun _ dF=>?_;refine Zm O<|Zf (Vc (Xzs _ aL aO more (aM.bx f).top eA) Xqs) ?_;rintro _ fH ⟨d,aS,aT,aU,aV,rfl,I,J,L,aP,e⟩;have f:=btr f e;refine ZB [vi d.n,.slice aS d.ns.length aT,.slice aU d.ws.length aV,vi d.t,vi d.r] X2l X10 fun eS fI dG e a6=>?_;have eT:=Q0 f.size dG;have J:=J.bw e;have L:=L.bw e;have f:=btr f e;refine Zx dF fun a j _ dH=>?_;refine Ze (Vn Xm a6)<|Zf (Vc (Xzt _ d d.ns.length O aS aT J.top aU aV L.top aP (Q0 I.2.1 O4) (Q0 I.1 O4)) Xqt) ?_;rintro _ fJ ⟨bL,bM,bN,bO,rfl,a8,aA,dI,e⟩;have a6:=a6.bw e;have J:=J.bw e;have L:=L.bw e;have f:=btr f e;refine Zm O<|Ze (Xj (vs:=[.agg #[vi ((if (goodD d)=true then adD d else zD).n),.slice bL ((if (goodD d)=true then adD d else zD).ns).length bM,.slice bN ((if (goodD d)=true then adD d else zD).ws).length bO,vi ((if (goodD d)=true then adD d else zD).t),vi ((if (goodD d)=true then adD d else zD).r)],.bool (goodD d)]) O O)<|Ze (Xj (vs:=[.agg #[vi ((if (goodD d)=true then adD d else zD).n),.slice bL ((if (goodD d)=true then adD d else zD).ns).length bM,.slice bN ((if (goodD d)=true then adD d else zD).ws).length bO,vi ((if (goodD d)=true then adD d else zD).t),vi ((if (goodD d)=true then adD d else zD).r)],.bool (goodD d)]) O O) ?_;refine ZB [vi ((if (goodD d)=true then adD d else zD).n),.slice bL ((if (goodD d)=true then adD d else zD).ns).length bM,.slice bN ((if (goodD d)=true then adD d else zD).ws).length bO,vi ((if (goodD d)=true then adD d else zD).t),vi ((if (goodD d)=true then adD d else zD).r)] X2l X10 fun b64 fK dJ e aG=>?_
 have cH:eS≠b64:=by have:=a6.lt;omega
 have eU:=Q0 f.size dJ;have a6:=a6.bw e;have J:=J.bw e;have L:=L.bw e;have a8:=a8.bw e;have aA:=aA.bw e;have f:=btr f e;refine Za O<|ZX dH fun a j _ dK=>?_;refine Zs j fun _ dL=>?_;refine Zm O<|Ze (Vn Xm a6)<|Zf (Vc (Xys _ d d.ns.length O aS aT J.top aU aV L.top aP (Q0 I.2.1 O4) I.2.2) Xpw) ?_;rintro _ fL ⟨rfl,e⟩;have a6:=a6.bw e;have aG:=aG.bw e;have J:=J.bw e;have L:=L.bw e;have a8:=a8.bw e;have aA:=aA.bw e;have f:=btr f e;refine Ze (Xsr Tryz.underlying4 O O)<|Zt dL fun a j=>?_
 refine Xz j O (fun W=>?_) (fun W=>?_)
 ·have eV:=W
  simp at W
 refine Q7<|dK _ _<|Zs j fun _ dM=>?_;refine Ze (Vn Xm a6)<|Zf (Vc (Xyr _ d d.ns.length O aS aT J.top aU aV L.top aP (Q0 I.2.1 O4) I.2.2 I.1) Xpv) ?_;rintro _ fM ⟨bP,bQ,rfl,aB,e⟩;have aB:=aB.lower f.size;have aG:=aG.bw e;have a8:=a8.bw e;have aA:=aA.bw e;have f:=btr f e;refine Zm O<|Ze (Xj (vs:=[.agg #[vi ((((mnO d)).getD mZ).rows),vi ((((mnO d)).getD mZ).cols),.slice bP ((((mnO d)).getD mZ).cells).length bQ],.bool (((mnO d)).isSome)]) O O)<|Ze (Xj (vs:=[.agg #[vi ((((mnO d)).getD mZ).rows),vi ((((mnO d)).getD mZ).cols),.slice bP ((((mnO d)).getD mZ).cells).length bQ],.bool (((mnO d)).isSome)]) O O) ?_;refine ZB [vi ((((mnO d)).getD mZ).rows),vi ((((mnO d)).getD mZ).cols),.slice bP ((((mnO d)).getD mZ).cells).length bQ] X3a X1o fun dN fN dO e aC=>?_;have eX:=Q0 f.size dO;have aG:=aG.bw e;have a8:=a8.bw e;have aA:=aA.bw e;have aB:=aB.bw e;have f:=btr f e;refine Za O<|Zx dM fun a j _ dP=>?_;refine Ze (Vn Xm aG)<|Zf (Vc (Xs8 _ (if (goodD d)=true then adD d else zD) (((if (goodD d)=true then adD d else zD).ns).length) O bL bM a8.top bN bO aA.top dI (Q0 (Xgd d 1000 2000000 ⟨I.1,I.2.1⟩).2 O4) (Xgd d 1000 2000000 ⟨I.1,I.2.1⟩).1) Xh0) ?_;rintro _ fO ⟨bR,bS,rfl,aD,e⟩;have aD:=aD.lower f.size;have aC:=aC.bw e;have aB:=aB.bw e;have f:=btr f e;refine Zm O<|Ze (Xj (vs:=[.agg #[vi ((((mnO (if (goodD d)=true then adD d else zD))).getD mZ).rows),vi ((((mnO (if (goodD d)=true then adD d else zD))).getD mZ).cols),.slice bR ((((mnO (if (goodD d)=true then adD d else zD))).getD mZ).cells).length bS],.bool (((mnO (if (goodD d)=true then adD d else zD))).isSome)]) O O)<|Ze (Xj (vs:=[.agg #[vi ((((mnO (if (goodD d)=true then adD d else zD))).getD mZ).rows),vi ((((mnO (if (goodD d)=true then adD d else zD))).getD mZ).cols),.slice bR ((((mnO (if (goodD d)=true then adD d else zD))).getD mZ).cells).length bS],.bool (((mnO (if (goodD d)=true then adD d else zD))).isSome)]) O O) ?_
 refine ZB [vi ((((mnO (if (goodD d)=true then adD d else zD))).getD mZ).rows),vi ((((mnO (if (goodD d)=true then adD d else zD))).getD mZ).cols),.slice bR ((((mnO (if (goodD d)=true then adD d else zD))).getD mZ).cells).length bS] X3a X1o fun b75 fP dQ e aI=>?_
 have cI:dN≠b75:=by have:=aC.lt;omega
 have eY:=Q0 f.size dQ;have aC:=aC.bw e;have aB:=aB.bw e;have aD:=aD.bw e;have f:=btr f e;refine Za O<|Zx dP fun a j _ dR=>?_;refine Ze (Vn X1d aC)<|Zf (Vc (Xzu _ (((mnO d)).getD mZ) bP bQ aB.rd.top (Q0 (Xcm _) O4)) Xqu) ?_;rintro _ fQ ⟨bU,bW,rfl,aN,e⟩;have aN:=aN.lower f.size;have aC:=aC.bw e;have aI:=aI.bw e;have aD:=aD.bw e;have f:=btr f e;refine Zm O<|Ze (Xj (vs:=[.agg #[vi ((((adOp (((mnO d)).getD mZ))).getD mZ).rows),vi ((((adOp (((mnO d)).getD mZ))).getD mZ).cols),.slice bU ((((adOp (((mnO d)).getD mZ))).getD mZ).cells).length bW],.bool (((adOp (((mnO d)).getD mZ))).isSome)]) O O)<|Ze (Xj (vs:=[.agg #[vi ((((adOp (((mnO d)).getD mZ))).getD mZ).rows),vi ((((adOp (((mnO d)).getD mZ))).getD mZ).cols),.slice bU ((((adOp (((mnO d)).getD mZ))).getD mZ).cells).length bW],.bool (((adOp (((mnO d)).getD mZ))).isSome)]) O O) ?_;refine ZB [vi ((((adOp (((mnO d)).getD mZ))).getD mZ).rows),vi ((((adOp (((mnO d)).getD mZ))).getD mZ).cols),.slice bU ((((adOp (((mnO d)).getD mZ))).getD mZ).cells).length bW] X3a X1o fun b79 w43 dS e dT=>?_
 have cJ:dN≠b79:=by have:=aC.lt;omega
 have cK:b75≠b79:=by have:=aI.lt;omega
 have eZ:=Q0 f.size dS;have aI:=aI.bw e;have aD:=aD.bw e;have aN:=aN.bw e;have f:=btr f e;refine Za O<|ZX dR fun a j _ dU=>?_;refine X0p (fun a w=>Fr a 139 [(4,.bool (((((!(goodD d))||(!(((mnO d)).isSome)))||(!(((mnO (if (goodD d)=true then adD d else zD))).isSome)))||(!(((adOp (((mnO d)).getD mZ))).isSome)))||(decide ((((mnO (if (goodD d)=true then adD d else zD))).getD mZ).rows=(((adOp (((mnO d)).getD mZ))).getD mZ).rows)&&decide ((((mnO (if (goodD d)=true then adD d else zD))).getD mZ).cols=(((adOp (((mnO d)).getD mZ))).getD mZ).cols)&&decide ((((mnO (if (goodD d)=true then adD d else zD))).getD mZ).cells=(((adOp (((mnO d)).getD mZ))).getD mZ).cells))))]/\Below w43.heap.size w43 w) ?_ ?_
 ·have Q:Below w43.heap.size w43 w43:=Below.refl _ _
  refine Zr j<|Zm O<|Ze (X1w O)<|Zm O ?_
  refine Zg 122 O (fun i=>?_) (fun i=>?_)
  ·(iterate 2 refine Zp (gP i) ?_);refine Ze (Xa O i O)<|Zm O<|Zp (gP O) ?_;refine Zp (gP O) ?_;refine Ze (Xa O O O)<|Zm O<|Zp (gP O) ?_;refine Zp (gP O) ?_;refine Ze (Xa O O O)<|Zm O<|Zp (gP O) ?_;(iterate 2 refine Zp (gP O) ?_);refine Ze (Xa O O O)<|Za O ?_;refine Zn fun a j=>?_;exact ⟨j.sub ⟨X1 O (by first|rfl|(simp only [i,Qw,Bool.false_and,Bool.true_or,Bool.false_or];done)|(simp only [U,B,W,i,Qw,Bool.false_and,Bool.true_or,Bool.false_or];done)|(simp [U,B,W,i];done)|(exfalso;revert i;simp)),trivial⟩,Q⟩
  refine Zv (gW i) (X3 O) ?_;refine Zv (gW i) (X1w O) ?_;refine Ze (Xh O i O)<|Zm O ?_
  refine Zg 126 O (fun h=>?_) (fun h=>?_)
  ·(iterate 2 refine Zp (gP h) ?_);refine Ze (Xa O h O)<|Zm O<|Zp (gP O) ?_;refine Zp (gP O) ?_;refine Ze (Xa O O O)<|Zm O<|Zp (gP O) ?_;(iterate 2 refine Zp (gP O) ?_);refine Ze (Xa O O O)<|Za O ?_;refine Zn fun a j=>?_;exact ⟨j.sub ⟨X1 O (by first|rfl|(simp only [i,h,Qw,Bool.false_and,Bool.true_or,Bool.false_or];done)|(simp only [U,B,W,i,h,Qw,Bool.false_and,Bool.true_or,Bool.false_or];done)|(simp [U,B,W,i,h];done)|(exfalso;revert h;simp)),trivial⟩,Q⟩
  refine Zv (gW h) (X3 O) ?_;refine Zv (gW h) (X1w O) ?_;refine Ze (Xh O h O)<|Zm O ?_
  refine Zg 130 O (fun E=>?_) (fun E=>?_)
  ·(iterate 2 refine Zp (gP E) ?_);refine Ze (Xa O E O)<|Zm O<|Zp (gP O) ?_;(iterate 2 refine Zp (gP O) ?_);refine Ze (Xa O O O)<|Za O ?_;refine Zn fun a j=>?_;exact ⟨j.sub ⟨X1 O (by first|rfl|(simp only [i,h,E,Qw,Bool.false_and,Bool.true_or,Bool.false_or];done)|(simp only [U,B,W,i,h,E,Qw,Bool.false_and,Bool.true_or,Bool.false_or];done)|(simp [U,B,W,i,h,E];done)|(exfalso;revert E;simp)),trivial⟩,Q⟩
  refine Zv (gW E) (X3 O) ?_;refine Zv (gW E) (X1w O) ?_;refine Ze (Xh O E O)<|Zm O ?_
  refine Zg 134 O (fun G=>?_) (fun G=>?_)
  ·(iterate 3 refine Zp (gP G) ?_);refine Ze (Xa O G O)<|Za O ?_;refine Zn fun a j=>?_;exact ⟨j.sub ⟨X1 O (by first|rfl|(simp only [i,h,E,G,Qw,Bool.false_and,Bool.true_or,Bool.false_or];done)|(simp only [U,B,W,i,h,E,G,Qw,Bool.false_and,Bool.true_or,Bool.false_or];done)|(simp [U,B,W,i,h,E,G];done)|(exfalso;revert G;simp)),trivial⟩,Q⟩
  refine Zv (gW G) (Vn X1d aI) ?_;refine Zv (gW G) (Vn X1d dT) ?_;refine Zk (gW G) (Vc (Xy8 _ (((mnO (if (goodD d)=true then adD d else zD))).getD mZ) bR bS aD.rd.top (((adOp (((mnO d)).getD mZ))).getD mZ) bU bW aN.rd.top (Q0 (Xcm _) O4)) Xkz) ?_;rintro _ fR ⟨rfl,e⟩;have f:=btr f e;have Q:=btr Q e;refine Ze (Xh O G O)<|Za O ?_;refine Zn fun a j=>?_;exact ⟨j.sub ⟨X1 O (by first|rfl|(simp only [i,h,E,G,Qw,Bool.false_and,Bool.true_or,Bool.false_or];done)|(simp only [U,B,W,i,h,E,G,Qw,Bool.false_and,Bool.true_or,Bool.false_or];done)|(simp [U,B,W,i,h,E,G];done)|(exfalso;revert G;simp)),trivial⟩,Q⟩
 rintro a fS ⟨j,e⟩;have f:=btr f e;refine dU _ _ ?_
 refine Q6 (X4 j (Xo j O O) ?_)
 exact ⟨by first|rfl|exact congrArg Value.bool (Xm5 _ _ rfl),f⟩
end Go.Proofs.YtgobkmhhckhbfaaGreatDoor
namespace Go.Proofs.YtgobkmhhckhbfaaGreatDoor
open Go.ChangeShapes Go.WideShapes Go.ChangeAt Go.RowKit Go.Deep Go.Joins
set_option linter.unusedVariables false
theorem Xe2{H:Type}{enc:TypeId×Value->H}{C:Checked}{os:Os}{f:FuncId}{fn:Func}{s:ChangeSpec}{apart fresh handsOn again:Bool}{X:World->Array Value->Prop}
  (hX:∀ (w w':World) (args:Array Value),w.heap=w'.heap->X w args->X w' args)
  (own:ownKnob C.prog.godebug=none) (started:os.Started) (noInit:C.prog.inits.idxOf? f=none) (hfn:C.prog.funcs[f]? = some fn)
  (witness:∃ (w:World) (tape:Tape) (i:Input),w.os=os/\(w.forCall tape i).Shaped C.prog/\i.vars=[]/\Input.okWide C.prog (w.forCall tape i) .any w.heap.size f i/\
   ((s.pre enc C.prog fn [] apart (w.forCall tape i).memory i.args/\X (w.forCall tape i).memory i.args)/\sizedMet enc C.prog fn (OpenSpec.ofChange s) apart (w.forCall tape i).memory i.args)/\({} : Assume).holds C.prog (lone (Frame.enter C.prog f i.args .normal) [] (w.forCall tape i)))
  (contract:∀ (W:World) (base:Nat) (args:Array Value) (ds gs:List (DataW H)) (before:List MemPlace),
   (∀ (j:Nat) t v,fn.params[j]? = some t->args[j]? = some v->Value.okWide C.prog W .any base t v)->
   DataW.Whole enc C.prog fn.params.toList s.vars apart W args.toList ds gs before->W.ShapedOpen C.prog->X W args->
   Calls C.prog f args W fun e W'=>∃ v,e=.returned v/\s.post enc C.prog fn apart fresh handsOn again W args v W') :
  ReturnsInHanded {} C os f .any (fun w args=>(s.pre enc C.prog fn [] apart w args/\X w args)/\sizedMet enc C.prog fn (OpenSpec.ofChange s) apart w args) (s.post enc C.prog fn apart fresh handsOn again):=by
 refine returnsInHanded_of_calls own started noInit witness ?_;intro w tape i _ hsh _ hok hpre hholds;obtain ⟨_,_,_,fn',hfn',_,_,_,_,hval⟩:=hok
 obtain rfl:fn'=fn:=Option.some.inj (hfn'.symm.trans hfn)
 obtain ⟨⟨⟨ds,gs,before,hw,_⟩,hx⟩,_⟩:=hpre;refine (contract (w.forCall tape i) w.heap.size i.args ds gs before hval (hw.of_heap (by rfl)) hsh (hX _ _ _ (by rfl) hx)).mono fun e W' ⟨v,he,hp⟩=>?_
 subst he
 exact ChangeSpec.post_blind hp
theorem Y4k : ((Tryz.prog.globalNamed "internal/strconv.uint64pow10").bind fun g => (Tryz.prog.globals[g]?).map (·.type)) = some (214 : TypeId) := by kernel_rfl
theorem Y4j:(Rows.laid_internal_strconv_uint64pow10:DataW Unit)=Lib.tabData .u64 Lib.pow10Tab:=by kernel_rfl
theorem Xxg{W:World}(h:laidMetH Tryz.prog Rows.fnMeaningRow.laid W) : PowT W:=by
 rw [MakeChecks.laidMetH_plain _ _ _ O3] at h
 obtain ⟨g,t,cs,fuel,p,h1,h2,h3,h4⟩:=Lib.laidMet.reads h (.tail _ (.tail _ (.head _)));have h5:=Y4k
 rw [h1,Qz,h2] at h5
 injection h5 with h5
 subst h5
 rw [Y4j] at h4
 have hc:=Lib.cells_of_tab Tryz.underlying214 Tryz.underlying50 O3 O3 h4
 have ht : Lib.TabIs Tryz.prog W "internal/strconv.uint64pow10" .u64 Lib.pow10Tab := by
  unfold Lib.TabIs
  rw [h3,<- hc]
 exact Lib.tabBelow_of_tabIs ht
theorem Xwy{W:World}(h:W.ShapedOpen Tryz.prog) : MaxT W:=
 cell_of_shapedOpen_int (P:=Tryz.prog) (g:=1) (t:=3) (zero:=#[.int .i64 0]) h (Q2 O3) O3 rfl O3 O3 Tryz.underlying3
set_option linter.unusedVariables false
set_option maxRecDepth 100000 in
theorem Xe9(os:Os)(started:os.Started)(H:Type)(enc:TypeId×Value->H) :
  ReturnsInHanded {} Tryz.checked os 3 .any (fun w args=>(Rows.fnMeaningSpec.pre enc Tryz.prog Tryz.f3 [] false w args/\laidMetH Tryz.prog Rows.fnMeaningRow.laid w)/\sizedMet enc Tryz.prog Tryz.f3 (OpenSpec.ofChange Rows.fnMeaningSpec) false w args)
   (Rows.fnMeaningSpec.post enc Tryz.prog Tryz.f3 false true false false):=by
 refine Xe2 (C:=Tryz.checked) (X:=fun w _=>laidMetH Tryz.prog Rows.fnMeaningRow.laid w) (fun _ _ _ hh h=>h.of_heap hh) own started O3 Tryz.func3
  (ChangeSpec.witness_shaped (enc:=enc) (C:=Tryz.checked) (os:=os) (X:=fun w _=>laidMetH Tryz.prog Rows.fnMeaningRow.laid w) false (World.laidAll Tryz.prog os Rows.fnMeaningRow.laid) #[.slice none 0 0,.slice none 0 0] 8 (World.laidAll_os _ _ _)
   (World.shaped_of_ZipB O3 O3) O3 O3 O3
   (by rw [MakeChecks.laidMetH_plain _ _ _ O3];exact laidMet_laidAll _ O3 O3)) ?_
 intro W base args ds gs before hval0 hW hsh hL
 have hval:∀ (j:Nat) t v,Tryz.f3.params[j]? = some t->args[j]? = some v->Value.okWide Tryz.prog W .any base t v:=hval0
 have hW':=hW
 obtain ⟨p,q,hA0,hV,rfl,hfz,hnd⟩:=hW
 have hA:DataW.TrodAll enc Tryz.prog W 0 (fun _=>true) true Tryz.f3.params.toList args.toList ds p:=hA0
 rw [Tryz.params3] at hA hval
 obtain ⟨v0,v1,d0,d1,p0,p1,rfl,rfl,rfl,h0,h1⟩:=trodAll_two hA;obtain ⟨rfl,rfl⟩:=trodVars_none hV;have h0k:=h0;have h1k:=h1
 obtain ⟨A,c,i,E,rfl,hr0,hc0⟩:=Xa4 (hval 0 22 v0 O O) h0 (fun _=>rfl)
 obtain ⟨B,l,k,F,rfl,hr1,hc1⟩:=Xa4 (hval 1 22 v1 O O) h1 (fun _=>rfl)
 clear hA0 hval0
 simp only [List.append_nil] at hW'
 have hlt:∀ x ∈ p0++p1,x.block<W.heap.size:=fun x hx=>hW'.lt x (by simpa using hx)
 refine Calls.mono (Xzq W A i c hr0 hc0 B k l hr1 hc1 (Xxg hL) (Xwy hsh)) fun r W' ⟨v,he,hv,hb⟩=>?_
 subst hv
 refine ⟨_,he,Xfr (pa:=p0++p1) (pv:=[]) hW' (fun _ _ _=>trodAll_mk1 (shut_bool Tryz.underlying4 true)) (fun sp hsp=>?_) (fun _ _=>rfl) O5 hb⟩
 exact trodAll_mk2 (WideElems.Trod_stays Xhl O3 (Q2 O3) h0k (fun x hx=>hb.same (hlt x (List.mem_append_left _ hx))) (fun x hx=>hsp x (by simp [hx])))
  (WideElems.Trod_stays Xhl O3 (Q2 O3) h1k (fun x hx=>hb.same (hlt x (List.mem_append_right _ hx))) (fun x hx=>hsp x (by simp [hx])))
theorem Xm2:Rows.FnMeaningSaid:=
 OpenClaim.holds_of_wide 3 Tryz.f3 rfl rfl rfl rfl rfl rfl rfl ⟨rfl,rfl,rfl,rfl,rfl⟩ rfl rfl rfl rfl rfl O3 Tryz.func3 O3
  (Q2 O3) (by unfold Func.isWrapper;first|(rw [Q4 O1];kernel_rfl)|(rw [Q3 O1];exact ⟨rfl,rfl⟩))
  (fun os started H enc _=>Xe9 os started H enc)
theorem Xre : Tryz.prog.funcNamed "loop.example/g00864/laws.FnMeaning" = some 3 := by kernel_rfl
theorem Xfl:Tryz.prog.wantsStandIn 22=false:=by kernel_rfl
theorem mean_holds:Rows.FnMeaningCardSaid:=
 Claim7.holds_tied_plain_at .later [] [.data, .data, .data, .data, .sentinel, .sentinel, .pinned] true (true, "9c607bc74f09007d4898c3ce3731aa152e17995f5ab33e330c297e53564c525c") true
  Xm2 (fun _ h=>by cases h) O3 (fun _ h=>by cases h) fnMeaning_row_tie rfl ⟨rfl,rfl⟩ O3 rfl
  (fun f fn hf hfn=>by
   obtain rfl:f=3:=Option.some.inj (Xre.symm.trans hf) |>.symm
   obtain rfl:fn=Tryz.f3:=(Option.some.inj (Tryz.func3.symm.trans hfn)).symm
   exact ⟨by kernel_rfl,fun j t ht=>by
    rw [Tryz.params3] at ht
    have hm:=Array.mem_of_getElem? ht
    simp only [List.mem_toArray,Qv,List.mem_nil_iff,or_false] at hm
    rcases hm with rfl|rfl<;>exact Xfl⟩)
  O3
end Go.Proofs.YtgobkmhhckhbfaaGreatDoor
