/-
  For every circuit, the program's OneQubitPass answers as the reference's does, leaves its argument as it was and hands out memory of its own; the argument and the package's variable half read as before. Conditions: none beside the variable's value that the card ties to the program's text.
-/
import Derived.Test.YtkhbopcihjobdaaGreatDoorO1
import Derived.MapKept
import Derived.Shelf.Sort.Plain
import Derived.Shelf.Slices.Turned
import Derived.Ground.Names2Prog
import Derived.Shelf.Slices.Clone
import Derived.Shelf.Slices.CompactI
import Derived.Shelf.Slices.Cells
import Derived.Test.YtkhbopcihjobdaaGreatDoorProg
import Derived.Shelf.Spec.SlicesGrow
import Derived.Laws.MakeOwn
import Derived.Laws.Slices
import Derived.Shelf.Slices.In.SortNone
set_option linter.unusedVariables false
set_option linter.defProp false
set_option linter.unusedSimpArgs false
set_option maxRecDepth 4000
set_option linter.unusedSectionVars false
namespace Go.Proofs.YtkhbopcihjobdaaGreatDoor
open Go.RowKit Go.Proofs.Tryz
def SF(w0:World)(i:Int)(j:Int):RE 121 [vi i,vi j] w0 (fun v w=>v=.tuple #[dV (if i=j then (⟨⟨1,0,0,0⟩,0⟩ : Dy) else dZ),.bool true]/\Bl w0 w):=by
 refine enter func121 O 11 O O ?_;intro a f;have g:=bz w0;refine ZS f fun aC=>Zf (Xi (zs:=[vi 0,vi 0,vi 0,vi 0,vi 0]) iu O) ?_;rintro _ w1 ⟨b2,rfl,aD,hE,e⟩;have m:=Q0 g.size aD;have g:=aa g hE;refine Za O<|ZX aC fun a f _ aE=>ZS f fun aF=>Zm O<|Zm O<|Ze (go O O)<|Zt aF fun a f=>Xz f O ?_ ?_<;>intro k
 ·have aB:=k;have aA:i=j:=by revert k;simp
  refine ZS f fun aG=>Zf (Vc (vZ _ 1) wn) ?_;rintro _ w2 ⟨rfl,hE⟩;have e:=e.bw hE;have g:=aa g hE;refine Zo (Vw [vi ((⟨⟨1,0,0,0⟩,0⟩ : Dy).num.a),vi ((⟨⟨1,0,0,0⟩,0⟩ : Dy).num.b),vi ((⟨⟨1,0,0,0⟩,0⟩ : Dy).num.c),vi ((⟨⟨1,0,0,0⟩,0⟩ : Dy).num.d),vi ((⟨⟨1,0,0,0⟩,0⟩ : Dy).exp)] Xm e) ?_;intro _ w3 ⟨ho,hb⟩;have g:=Below.oy g ho m;have e:=hb;exact Za O<|Zt aG fun a f=>Q6<|X3<|X4 f (dj f O (an.cellN (l:=[vi ((⟨⟨1,0,0,0⟩,0⟩ : Dy).num.a),vi ((⟨⟨1,0,0,0⟩,0⟩ : Dy).num.b),vi ((⟨⟨1,0,0,0⟩,0⟩ : Dy).num.c),vi ((⟨⟨1,0,0,0⟩,0⟩ : Dy).num.d),vi ((⟨⟨1,0,0,0⟩,0⟩ : Dy).exp)]) O Xa (e.at 0) O) O)<|⟨by rw[Q4 aA],g⟩
 have aB:=k;have aA:¬ i=j:=by revert k;simp
 refine Q7<|aE _ _<|ZS f fun aH=>Ze (Xg (ps:=[]) (cs:=[vi 0,vi 0,vi 0,vi 0,vi 0]) O (fun _=>by first|rfl|kernel_rfl))<|Zo (Vw [vi 0,vi 0,vi 0,vi 0,vi 0] Xm e) ?_;intro _ w4 ⟨ho,hb⟩;have g:=Below.oy g ho m;have e:=hb;refine Za O<|Zt aH fun a f=>Q6 (X4 f (dj f O (an.cellN (l:=[vi 0,vi 0,vi 0,vi 0,vi 0]) O Xa (e.at 0) O) O) ?_);exact ⟨by rw[Q3 aA];rfl,g⟩
def ET(w0:World)(n:Int):RE 96 [vi n] w0 (fun v w=>∃ A c,v=.tuple #[mV A c ((sw n).getD mZ),.bool (sw n).isSome]/\ah w w0.heap.size 147 5 ai A c ((sw n).getD mZ).cells/\Bl w0 w):=by
 refine enter func96 O 9 O O ?_;intro a hf;have f:=bz w0;refine ZS hf fun aB=>Zf (Xi (zs:=[vi 0,vi 0,.slice none 0 0]) jy O) ?_;rintro _ w1 ⟨b3,rfl,aC,hE,d⟩;have aA:=Q0 f.size aC;have f:=aa f hE;refine Za O<|Zx aB fun a hf _ aD=>Zm O<|Zm O<|Zf (Vc (xF _ n n 121 [] M6 (fun i j=>some (if i=j then ⟨⟨1,0,0,0⟩,0⟩ else dZ)) (fun i j w' hi hj hE'=>(SF w' (i:Int) (j:Int)).mono fun v w'' ⟨h1,h2⟩=>⟨by rw[h1];simp only[Int.natCast_inj];rfl,h2⟩)) wL) ?_;rintro _ w2 ⟨A5,c5,rfl,e,hE⟩;have e:=e.lower f.size;have d:=d.bw hE;have f:=aa f hE;refine Ze (X2 (vs:=[.agg #[vi (((ax n n (fun i j=>some (if i=j then ⟨⟨1,0,0,0⟩,0⟩ else dZ))).getD mZ).rows),vi (((ax n n (fun i j=>some (if i=j then ⟨⟨1,0,0,0⟩,0⟩ else dZ))).getD mZ).cols),.slice A5 (((ax n n (fun i j=>some (if i=j then ⟨⟨1,0,0,0⟩,0⟩ else dZ))).getD mZ).cells).length c5],.bool ((ax n n (fun i j=>some (if i=j then ⟨⟨1,0,0,0⟩,0⟩ else dZ))).isSome)]) O O)<|Ze (X2 (vs:=[.agg #[vi (((ax n n (fun i j=>some (if i=j then ⟨⟨1,0,0,0⟩,0⟩ else dZ))).getD mZ).rows),vi (((ax n n (fun i j=>some (if i=j then ⟨⟨1,0,0,0⟩,0⟩ else dZ))).getD mZ).cols),.slice A5 (((ax n n (fun i j=>some (if i=j then ⟨⟨1,0,0,0⟩,0⟩ else dZ))).getD mZ).cells).length c5],.bool ((ax n n (fun i j=>some (if i=j then ⟨⟨1,0,0,0⟩,0⟩ else dZ))).isSome)]) O O)<|Zo (Vw [vi (((ax n n (fun i j=>some (if i=j then ⟨⟨1,0,0,0⟩,0⟩ else dZ))).getD mZ).rows),vi (((ax n n (fun i j=>some (if i=j then ⟨⟨1,0,0,0⟩,0⟩ else dZ))).getD mZ).cols),.slice A5 (((ax n n (fun i j=>some (if i=j then ⟨⟨1,0,0,0⟩,0⟩ else dZ))).getD mZ).cells).length c5] jg d) ?_;intro _ w3 ⟨ho,hb⟩;have e:=e.oT ho d O;have f:=Below.oy f ho aA;have d:=hb;refine Za O<|Zt aD fun a hf=>Q6 (X4 hf (dj hf O (an.cellN (l:=[vi (((ax n n (fun i j=>some (if i=j then ⟨⟨1,0,0,0⟩,0⟩ else dZ))).getD mZ).rows),vi (((ax n n (fun i j=>some (if i=j then ⟨⟨1,0,0,0⟩,0⟩ else dZ))).getD mZ).cols),.slice A5 (((ax n n (fun i j=>some (if i=j then ⟨⟨1,0,0,0⟩,0⟩ else dZ))).getD mZ).cells).length c5]) O fw (d.at 0) O) O) ?_);exact ⟨A5,c5,O,e,f⟩
def L8(N:World)(p q:Mx)(Aa Ab:Option Addr)(ca cb:Nat)(ba bb:Nat)(U:Rw N 147 ai Aa p.cells)(W:Rw N 147 ai Ab q.cells)(u:al N ba 91 [vi p.rows,vi p.cols,.slice Aa p.cells.length ca])(x:al N bb 91 [vi q.rows,vi q.cols,.slice Ab q.cells.length cb])(bC:di p=true)(cC:di q=true)(dK:p.cols=q.rows)(i j:Nat)(hi:(i:Int)<p.rows)(hj:(j:Int)<q.cols):RE 159 [vi (i:Int),vi (j:Int),(ae ba),(ae bb)] N (fun v w=>v=.tuple #[dV ((de p q i j p.cols.toNat).getD dZ),.bool (de p q i j p.cols.toNat).isSome]/\Bl N w):=by
 have dL:=rs bC;have d7:=u.lt;have d8:=x.lt
 have dM:p.cols=(p.cols.toNat:Int):=by omega
 refine enter func159 O 48 O O ?_;intro a t
 have m:=bz N
 refine ZS t fun d9=>Zf (Xi (zs:=[vi 0,vi 0,vi 0,vi 0,vi 0]) iu O) ?_;rintro _ w1 ⟨E,rfl,dA,e,n⟩;have b3:=Q0 m.size dA;have ⟨u,x,m⟩:=bh e u x m;refine Za O<|Zx d9 fun a t _ dB=>Ze (Xg (ps:=[]) (cs:=[vi 0,vi 0,vi 0,vi 0,vi 0]) O (fun _=>by first|rfl|kernel_rfl))<|ZB [vi 0,vi 0,vi 0,vi 0,vi 0] iu Xm fun b6 w3 dC e o=>?_
 have d6:E≠b6:=by have:=n.lt;omega
 have cD:=Q0 m.size dC;have ⟨u,x,n,m⟩:=dk e u x n m;refine ZX dB fun a t _ dD=>ZS t fun dE=>Ze (Vd O ou 1)<|Ze (X0 O X8 (u.at 1))<|Zm O<|Zt dE fun a t=>Q8<|Xw (σ:=Nat×Dy) (fun (s:Nat×Dy) (a:Act) (w:World)=>match s with|(k,sum)=>Fr a 48 [(0,vi (i:Int)),(1,vi (j:Int)),(2,(ae ba)),(3,(ae bb)),(6,(ae E)),(8,(ae b6)),(16,vi p.cols),(17,vi (k:Int))]/\((k:Int)<=p.cols)/\(de p q i j k=some sum)/\al w ba 91 [vi p.rows,vi p.cols,.slice Aa p.cells.length ca]/\al w bb 91 [vi q.rows,vi q.cols,.slice Ab q.cells.length cb]/\al w E 147 [vi 0,vi 0,vi 0,vi 0,vi 0]/\al w b6 147 [vi sum.num.a,vi sum.num.b,vi sum.num.c,vi sum.num.d,vi sum.exp]/\Bl N w) (fun (s:Nat×Dy)=>match s with|(k,sum)=>(p.cols-k).toNat) (0,dZ) ?_ ?_
 ·exact ⟨t.sb,O0,O,u,x,n,o,m⟩
 rintro ⟨k,sum⟩ a w4 ⟨t,hk,hs,u,x,n,o,m⟩;refine ZS t fun dF=>Ze (ew O O)<|ZX dF fun a t _ cE=>eh t O (fun B b5=>?_) (fun B b5=>?_)
 ·have cF:(k:Int)<p.cols:=b5
  refine Q7<|cE _ _<|Q5 fun _ cG=>Q8<|ZS t fun cH=>Zm O<|Za O<|ZX cH fun a t _ cI=>eo (fun a w=>∃ y,Fr a 48 [(0,vi (i:Int)),(1,vi (j:Int)),(2,(ae ba)),(3,(ae bb)),(6,(ae E)),(8,(ae b6)),(10,(ae y)),(11,.bool ((aj (p.at i k) (q.at k j)).isSome)),(16,vi p.cols),(17,vi (k:Int))]/\N.heap.size<=y/\al w y 147 [vi ((jl p q i k k j).num.a),vi ((jl p q i k k j).num.b),vi ((jl p q i k k j).num.c),vi ((jl p q i k k j).num.d),vi ((jl p q i k k j).exp)]/\E≠y/\b6≠y/\Bl w4 w) ?_ ?_
  ·have g:Bl w4 w4:=Below.refl _ _
   refine gx none (fun j=>[13].contains j) mixed ?_;intro w5 e;have ⟨u,x,n,o,m,g⟩:=kf e u x n o m g;refine Yb t<|Ye 0 O (Xt (l:=[vi p.rows,vi p.cols,.slice Aa p.cells.length ca]) O fw (u.at 0) O)<|Yo 1 O (fun _=>X7 O)<|Yo 2 O (fun _=>X7 O)<|Ye 4 O (Xt (l:=[vi q.rows,vi q.cols,.slice Ab q.cells.length cb]) O fw (x.at 0) O)<|Yo 5 O (fun _=>X7 O)<|Yo 6 O (fun _=>X7 O) ?_
   have f:Bl w5 w5:=Below.refl _ _
   refine Yc [0,1,2,3,4,5,6,7,8,9,10,11,12] 2 (fun a w=>∃ y,Fr a 48 [(0,vi (i:Int)),(1,vi (j:Int)),(2,(ae ba)),(3,(ae bb)),(6,(ae E)),(8,(ae b6)),(10,(ae y)),(16,vi p.cols),(17,vi (k:Int)),(30,.agg #[vi ((jl p q i k k j).num.a),vi ((jl p q i k k j).num.b),vi ((jl p q i k k j).num.c),vi ((jl p q i k k j).num.d),vi ((jl p q i k k j).exp)]),(31,.bool ((aj (p.at i k) (q.at k j)).isSome))]/\N.heap.size<=y/\al w y 147 [vi 0,vi 0,vi 0,vi 0,vi 0]/\E≠y/\b6≠y/\w5.heap.size<=y/\w4.heap.size<=y/\ef p.cells Aa y/\ef q.cells Ab y/\Bl w5 w) ?_ ?_
   ·rintro a w6 ⟨y,t,Q,A,G,H,bD,bE,cJ,cK,e⟩;clear f;have f:=e;have m:=aa m e;have g:=aa g e;refine Yb t<|Y1 13<|Yh O ad O (Vw [vi ((jl p q i k k j).num.a),vi ((jl p q i k k j).num.b),vi ((jl p q i k k j).num.c),vi ((jl p q i k k j).num.d),vi ((jl p q i k k j).exp)] Xm A) ?_;rintro _ w7 ⟨ho,hb⟩;have g:=Below.oy g ho bE;have f:=Below.oy f ho bD;have m:=Below.oy m ho Q;have A:=hb;exact Yo 14 O (fun _=>kk O)<|Yd fun a t=>⟨y,t.sb,Q,A,G,H,g⟩
   intro b7;refine Yc [0,1,2,3,4,5,6,7,12] 6 (fun a w=>∃ C,Fr a 48 [(0,vi (i:Int)),(1,vi (j:Int)),(2,(ae ba)),(3,(ae bb)),(6,(ae E)),(8,(ae b6)),(10,(ae C)),(16,vi p.cols),(17,vi (k:Int)),(24,.agg #[vi ((p.at i k).num.a),vi ((p.at i k).num.b),vi ((p.at i k).num.c),vi ((p.at i k).num.d),vi ((p.at i k).exp)]),(28,.agg #[vi ((q.at k j).num.a),vi ((q.at k j).num.b),vi ((q.at k j).num.c),vi ((q.at k j).num.d),vi ((q.at k j).exp)])]/\N.heap.size<=C/\al w C 147 [vi 0,vi 0,vi 0,vi 0,vi 0]/\E≠C/\b6≠C/\w5.heap.size<=C/\w4.heap.size<=C/\ef p.cells Aa C/\ef q.cells Ab C/\Bl w5 w) ?_ ?_
   ·rintro a w8 ⟨C,t,bF,aA,aB,aC,bG,bH,aD,aE,e⟩;clear f;have f:=e;have m:=aa m e;have g:=aa g e;refine Yb t<|Y1 8<|Yk O ad (Vc (tm _ (p.at i k) (q.at k j)) tp) (fun _ _ ⟨_,e⟩=>e) ?_;rintro _ w9 ⟨rfl,e⟩;have ⟨aA,m,g,f⟩:=dk e aA m g f;exact Yo 9 O (fun _=>X7 O)<|Yo 10 O (fun _=>X2 (vs:=[.agg #[vi ((jl p q i k k j).num.a),vi ((jl p q i k k j).num.b),vi ((jl p q i k k j).num.c),vi ((jl p q i k k j).num.d),vi ((jl p q i k k j).exp)],.bool ((aj (p.at i k) (q.at k j)).isSome)]) O O)<|Yo 11 O (fun _=>X2 (vs:=[.agg #[vi ((jl p q i k k j).num.a),vi ((jl p q i k k j).num.b),vi ((jl p q i k k j).num.c),vi ((jl p q i k k j).num.d),vi ((jl p q i k k j).exp)],.bool ((aj (p.at i k) (q.at k j)).isSome)]) O O)<|fun a t=>b7 _ a _ O ⟨C,t.sb,bF,aA,aB,aC,bG,bH,aD,aE,f⟩
   intro b8;refine Yc [0,1,2,3,4,5,6,12] 7 (fun a w=>∃ D,Fr a 48 [(0,vi (i:Int)),(1,vi (j:Int)),(2,(ae ba)),(3,(ae bb)),(6,(ae E)),(8,(ae b6)),(10,(ae D)),(16,vi p.cols),(17,vi (k:Int)),(24,.agg #[vi ((p.at i k).num.a),vi ((p.at i k).num.b),vi ((p.at i k).num.c),vi ((p.at i k).num.d),vi ((p.at i k).exp)]),(25,.agg #[vi q.rows,vi q.cols,.slice Ab q.cells.length cb]),(26,vi (k:Int)),(27,vi (j:Int))]/\N.heap.size<=D/\al w D 147 [vi 0,vi 0,vi 0,vi 0,vi 0]/\E≠D/\b6≠D/\w5.heap.size<=D/\w4.heap.size<=D/\ef p.cells Aa D/\ef q.cells Ab D/\Bl w5 w) ?_ ?_
   ·rintro a dN ⟨D,t,bI,aF,aG,aH,bJ,bK,aI,aJ,e⟩;clear f;have f:=e;have m:=aa m e;have g:=aa g e;refine Yb t<|Y1 7<|Yk O ad (Vc (u' _ q Ab cb (W.bx m).top k j cC O0 hj) uG) (fun _ _ ⟨_,e⟩=>e) ?_;rintro _ dP ⟨rfl,e⟩;have ⟨aF,m,g,f⟩:=dk e aF m g f;exact fun a t=>b8 _ a _ O ⟨D,t.sb,bI,aF,aG,aH,bJ,bK,aI,aJ,f⟩
   intro b9;refine Y2 3 12 ?_ ?_
   ·refine Yk O ad (Vc (u' _ p Aa ca (U.bx m).top i k bC hi O0) uG) (fun _ _ ⟨_,e⟩=>e) ?_;rintro _ dQ ⟨rfl,e⟩;have ⟨n,o,m,g,f⟩:=io e n o m g f;refine Y2 7 12 ?_ ?_
    ·refine Yk O ad (Vc (u' _ q Ab cb (W.bx m).top k j cC O0 hj) uG) (fun _ _ ⟨_,e⟩=>e) ?_;rintro _ dR ⟨rfl,e⟩;have ⟨n,o,m,g,f⟩:=io e n o m g f;refine Y2 8 12 ?_ ?_
     ·refine Yk O ad (Vc (tm _ (p.at i k) (q.at k j)) tp) (fun _ _ ⟨_,e⟩=>e) ?_;rintro _ dS ⟨rfl,e⟩;have ⟨n,o,m,g,f⟩:=io e n o m g f;refine Yo 9 O (fun _=>X7 O)<|Yo 10 O (fun _=>X2 (vs:=[.agg #[vi ((jl p q i k k j).num.a),vi ((jl p q i k k j).num.b),vi ((jl p q i k k j).num.c),vi ((jl p q i k k j).num.d),vi ((jl p q i k k j).exp)],.bool ((aj (p.at i k) (q.at k j)).isSome)]) O O)<|Yo 11 O (fun _=>X2 (vs:=[.agg #[vi ((jl p q i k k j).num.a),vi ((jl p q i k k j).num.b),vi ((jl p q i k k j).num.c),vi ((jl p q i k k j).num.d),vi ((jl p q i k k j).exp)],.bool ((aj (p.at i k) (q.at k j)).isSome)]) O O)<|Y1 12<|Yk O ad (Xi (zs:=[vi 0,vi 0,vi 0,vi 0,vi 0]) iu O) (fun _ _ ⟨_,_,_,h,_⟩=>h) ?_;rintro _ dT ⟨b21,rfl,I,e,cM⟩
      have aK:E≠b21:=by have:=n.lt;omega
      have aL:b6≠b21:=by have:=o.lt;omega
      have bL:=Q0 m.size I;have bM:=Q0 g.size I;have bN:=Q0 f.size I;have aM:=(U.bx m).away I;have aN:=(W.bx m).away I;have ⟨m,g,f⟩:=bh e m g f;exact fun a t=>b7 _ a _ O ⟨b21,t.sb,bL,cM,aK,aL,bN,bM,aM,aN,f⟩
     refine Yk O ad (Xi (zs:=[vi 0,vi 0,vi 0,vi 0,vi 0]) iu O) (fun _ _ ⟨_,_,_,h,_⟩=>h) ?_;rintro _ dU ⟨b22,rfl,J,e,cO⟩
     have aO:E≠b22:=by have:=n.lt;omega
     have aP:b6≠b22:=by have:=o.lt;omega
     have bO:=Q0 m.size J;have bP:=Q0 g.size J;have bQ:=Q0 f.size J;have aQ:=(U.bx m).away J;have aR:=(W.bx m).away J;have ⟨m,g,f⟩:=bh e m g f;exact fun a t=>b8 _ a _ O ⟨b22,t.sb,bO,cO,aO,aP,bQ,bP,aQ,aR,f⟩
    refine Yk O ad (Xi (zs:=[vi 0,vi 0,vi 0,vi 0,vi 0]) iu O) (fun _ _ ⟨_,_,_,h,_⟩=>h) ?_;rintro _ dW ⟨b23,rfl,L,e,cP⟩
    have aS:E≠b23:=by have:=n.lt;omega
    have aT:b6≠b23:=by have:=o.lt;omega
    have bR:=Q0 m.size L;have bS:=Q0 g.size L;have bU:=Q0 f.size L;have aU:=(U.bx m).away L;have aW:=(W.bx m).away L;have ⟨m,g,f⟩:=bh e m g f;exact fun a t=>b9 _ a _ O ⟨b23,t.sb,bR,cP,aS,aT,bU,bS,aU,aW,f⟩
   refine Yk O ad (Xi (zs:=[vi 0,vi 0,vi 0,vi 0,vi 0]) iu O) (fun _ _ ⟨_,_,_,h,_⟩=>h) ?_;rintro _ dX ⟨b24,rfl,M,e,aX⟩
   have aY:E≠b24:=by have:=n.lt;omega
   have aZ:b6≠b24:=by have:=o.lt;omega
   have bW:=Q0 m.size M;have bZ:=Q0 g.size M;have cA:=Q0 f.size M;have b0:=(U.bx m).away M;have b1:=(W.bx m).away M;have ⟨m,g,f⟩:=bh e m g f;refine Y1 3<|Yk O ad (Vc (u' _ p Aa ca (U.bx m).top i k bC hi O0) uG) (fun _ _ ⟨_,e⟩=>e) ?_;rintro _ dY ⟨rfl,e⟩;have ⟨aX,m,g,f⟩:=dk e aX m g f;exact fun a t=>b9 _ a _ O ⟨b24,t.sb,bW,aX,aY,aZ,cA,bZ,b0,b1,f⟩
  rintro a eA ⟨y,t,Q,A,G,H,e⟩;have ⟨u,x,n,o,m⟩:=io e u x n o m;refine cI _ _<|ZS t fun cQ=>Ze (Vn Xa o)<|Ze (Vn Xa A)<|Zf (Vc (zV _ sum (jl p q i k k j)) z_) ?_;rintro _ eB ⟨rfl,e⟩;have ⟨u,x,n,o,A,m⟩:=kf e u x n o A m;refine Zm O<|Ze (X2 (vs:=[.agg #[vi (((ap sum (jl p q i k k j)).getD dZ).num.a),vi (((ap sum (jl p q i k k j)).getD dZ).num.b),vi (((ap sum (jl p q i k k j)).getD dZ).num.c),vi (((ap sum (jl p q i k k j)).getD dZ).num.d),vi (((ap sum (jl p q i k k j)).getD dZ).exp)],.bool ((ap sum (jl p q i k k j)).isSome)]) O O)<|Ze (X2 (vs:=[.agg #[vi (((ap sum (jl p q i k k j)).getD dZ).num.a),vi (((ap sum (jl p q i k k j)).getD dZ).num.b),vi (((ap sum (jl p q i k k j)).getD dZ).num.c),vi (((ap sum (jl p q i k k j)).getD dZ).num.d),vi (((ap sum (jl p q i k k j)).getD dZ).exp)],.bool ((ap sum (jl p q i k k j)).isSome)]) O O)<|ZB [vi (((ap sum (jl p q i k k j)).getD dZ).num.a),vi (((ap sum (jl p q i k k j)).getD dZ).num.b),vi (((ap sum (jl p q i k k j)).getD dZ).num.c),vi (((ap sum (jl p q i k k j)).getD dZ).num.d),vi (((ap sum (jl p q i k k j)).getD dZ).exp)] iu Xm fun b26 dG cR e cS=>?_
  have cT:E≠b26:=by have:=n.lt;omega
  have cU:b6≠b26:=by have:=o.lt;omega
  have cB:y≠b26:=by have:=A.lt;omega
  have dH:=Q0 m.size cR;have ⟨u,x,n,o,m⟩:=io e u x n o m;refine Za O<|ZX cQ fun a t _ cV=>Q5 fun _ cW=>eo (fun a w=>Fr a 48 [(0,vi (i:Int)),(1,vi (j:Int)),(2,(ae ba)),(3,(ae bb)),(6,(ae E)),(8,(ae b6)),(12,(ae b26)),(16,vi p.cols),(17,vi (k:Int)),(43,.bool ((!((aj (p.at i k) (q.at k j)).isSome))||(!((ap sum (jl p q i k k j)).isSome))))]/\dG=w) ?_ ?_
  ·refine Zr t<|Zm O<|Ze (dn O)<|Zm O<|Zg 40 O ?_ ?_<;>intro z
   ·(iterate 2 refine Zp (gP z) ?_);exact Ze (Xh O z O)<|Zn fun a t=>⟨t.sub ⟨O,O,O,O,O,O,O,O,O,X1 O (by simp[B,z]),trivial⟩,O⟩
   refine Zv (gW z) (X7 O) ?_;refine Zv (gW z) (dn O) ?_;refine Ze (X9 O z O) ?_;exact Zn fun a t=>⟨t.sub ⟨O,O,O,O,O,O,O,O,O,X1 O (by first|rfl|(simp only[B,z,bs];done)|simp[B,z]),trivial⟩,O⟩
  rintro a _ ⟨t,rfl⟩;refine cW _ _<|Xz t O ?_ ?_<;>intro b2
  ·have hn:=xN b2
   have dI:de p q i j (k+1)=none:=by rw[de,hs];simp only[Qz];revert hn;unfold jl;cases aj (p.at i k) (q.at k j)<;>simp
   have dJ:=z6 dI p.cols.toNat O0
   refine ZS t fun cX=>Ze (Xg (ps:=[]) (cs:=[vi 0,vi 0,vi 0,vi 0,vi 0]) O (fun _=>by first|rfl|kernel_rfl))<|Zo (Vw [vi 0,vi 0,vi 0,vi 0,vi 0] Xm n) ?_;rintro _ eC ⟨ho,hb⟩;have m:=Below.oy m ho b3;have n:=hb;exact Za O<|Zt cX fun a t=>Q6<|X3<|Xn<|X3<|X3<|Xn<|X3<|X4 t (dj t O (an.cellN (l:=[vi 0,vi 0,vi 0,vi 0,vi 0]) O Xa (n.at 0) O) O)<|⟨by rw[dJ];rfl,m⟩
  have hy:=xE b2;refine Q7<|cV _ _<|Zr t<|Ze (Vn Xa cS)<|Zo (Vw [vi (((ap sum (jl p q i k k j)).getD dZ).num.a),vi (((ap sum (jl p q i k k j)).getD dZ).num.b),vi (((ap sum (jl p q i k k j)).getD dZ).num.c),vi (((ap sum (jl p q i k k j)).getD dZ).num.d),vi (((ap sum (jl p q i k k j)).getD dZ).exp)] Xm o) ?_;rintro _ eD ⟨ho,hb⟩;have u:=u.oz ho o O;have x:=x.oz ho o O;have n:=n.oy ho O0;have m:=Below.oy m ho cD;have o:=hb;exact Zn fun a t=>Xk<|cG _ _<|Zr t<|Ze (Xs O O O0 O0)<|Zm O<|Zn fun a t=>Xb<|⟨(k+1,((ap sum (jl p q i k k j)).getD dZ)),⟨t.sb,O0,(by rw[de,hs];simp only[Qz];revert hy;unfold jl;cases aj (p.at i k) (q.at k j)<;>simp;intro hy;revert hy;cases ap sum _<;>simp),u,x,n,o,m⟩,O3⟩
 have cF:k=p.cols.toNat:=by omega
 refine Q9<|Xf<|Xf<|Xv<|dD _ _<|ZS t fun d5=>Ze (Vn Xa o)<|Zo (Vw [vi sum.num.a,vi sum.num.b,vi sum.num.c,vi sum.num.d,vi sum.exp] Xm n) ?_;rintro _ eE ⟨ho,hb⟩;have m:=Below.oy m ho b3;have n:=hb;refine Za O<|Zt d5 fun a t=>Q6 (X4 t (dj t O (an.cellN (l:=[vi sum.num.a,vi sum.num.b,vi sum.num.c,vi sum.num.d,vi sum.exp]) O Xa (n.at 0) O) O) ?_)
 exact ⟨by rw[<- cF,hs];rfl,m⟩
def wX(h:World)(p:Mx)(Ap:Option Addr)(cp:Nat)(B:Rw h 147 ai Ap p.cells)(q:Mx)(Aq:Option Addr)(cq:Nat)(C:Rw h 147 ai Aq q.cells)(aH:p.cells.length<=2305843009213693951)(aI:q.cells.length<=2305843009213693951):RE 124 [.agg #[vi p.rows,vi p.cols,.slice Ap p.cells.length cp],.agg #[vi q.rows,vi q.cols,.slice Aq q.cells.length cq]] h (fun v w=>∃ A c,v=.tuple #[mV A c ((bg p q).getD mZ),.bool (bg p q).isSome]/\ah w h.heap.size 147 5 ai A c ((bg p q).getD mZ).cells/\Bl h w):=by
 refine enter func124 O 30 O O ?_;intro a o
 have g:=bz h
 refine ZS o fun aJ=>Zf (bt (zs:=[vi p.rows,vi p.cols,.slice Ap p.cells.length cp]) O O) ?_;rintro _ w1 ⟨b4,rfl,aK,m,f⟩;have aQ:=Q0 g.size aK;have g:=aa g m;refine Zf (bt (zs:=[vi q.rows,vi q.cols,.slice Aq q.cells.length cq]) O O) ?_;rintro _ w2 ⟨b5,rfl,aL,m,k⟩
 have aE:b4≠b5:=by have:=f.lt;omega
 have aR:=Q0 g.size aL;have f:=f.bw m;have g:=aa g m;refine Zf (Xi (zs:=[vi 0,vi 0,.slice none 0 0]) jy O) ?_;rintro _ w3 ⟨b7,rfl,aM,m,n⟩
 have aF:b4≠b7:=by have:=f.lt;omega
 have aG:b5≠b7:=by have:=k.lt;omega
 have D:=Q0 g.size aM;have ⟨f,k,g⟩:=bh m f k g;refine Za O<|ZX aJ fun a o _ aN=>Q5 fun _ aO=>eo (fun a w=>Fr a 30 [(2,(ae b4)),(3,(ae b5)),(4,(ae b7)),(20,.bool (((!(di p))||(!(di q)))||(p.cols != q.rows)))]/\Bl w3 w) ?_ ?_
 ·have x:Bl w3 w3:=Below.refl _ _
  refine Zr o<|Ze (Vn fw f)<|Zf (Vc (tq _ p Ap cp (B.bx g).top aH) tr) ?_;rintro _ w4 ⟨rfl,m⟩;have ⟨f,k,g,x⟩:=dk m f k g x;refine Ze (dn O)<|Zm O<|Zg 9 O ?_ ?_<;>intro e
  ·(iterate 3 refine Zp (gP e) ?_);refine Ze (Xh O e O)<|Zm O<|Zp (gP O) ?_;(iterate 4 refine Zp (gP O) ?_);exact Ze (Xh O O O)<|Zn fun a o=>⟨o.sub ⟨O,O,O,X1 O (by simp[e]),trivial⟩,x⟩
  refine Zv (gW e) (Vn fw k) ?_;refine Zk (gW e) (Vc (tq _ q Aq cq (C.bx g).top aI) tr) ?_;rintro _ w5 ⟨rfl,m⟩;have ⟨f,k,g,x⟩:=dk m f k g x;refine Zv (gW e) (dn O) ?_;refine Ze (X9 O e O)<|Zm O<|Zg 14 O ?_ ?_<;>intro d
  ·(iterate 5 refine Zp (gP d) ?_);exact Ze (Xh O d O)<|Zn fun a o=>⟨o.sub ⟨O,O,O,X1 O (by simp[e,d]),trivial⟩,x⟩
  refine Zv (gW d) (Vd O ou 1) ?_;refine Zv (gW d) (X0 O X8 (f.at 1)) ?_;refine Zv (gW d) (Vd O oe 0) ?_;refine Zv (gW d) (X0 O X8 (k.at 0)) ?_;refine Zv (gW d) (kz O O) ?_;refine Ze (X9 O d O) ?_;exact Zn fun a o=>⟨o.sub ⟨O,O,O,X1 O (by first|rfl|(simp only[e,d,bs];done)|simp[e,d]),trivial⟩,x⟩
 rintro a w6 ⟨o,m⟩;have ⟨f,k,n,g⟩:=dk m f k n g;refine aO _ _<|Xz o O ?_ ?_<;>intro t
 ·have aA:=t
  have hn:(di p&&di q&&p.cols==q.rows)=false:=by revert t;cases di p<;>cases di q<;>simp
  refine ZS o fun aC=>Ze (Xg (ps:=[]) (cs:=[vi 0,vi 0,.slice none 0 0]) O (fun _=>by first|rfl|kernel_rfl))<|Zo (Vw [vi 0,vi 0,.slice none 0 0] jg n) ?_;rintro _ w7 ⟨ho,hb⟩;have g:=Below.oy g ho D;have n:=hb;exact Za O<|Zt aC fun a o=>Q6<|X3<|X4 o (dj o O (an.cellN (l:=[vi 0,vi 0,.slice none 0 0]) O fw (n.at 0) O) O)<|⟨none,0,by rw[bg,hn];rfl,by rw[bg,hn];exact (ah.nil _ _ _ _ _),g⟩
 have aA:=t
 have hy:(di p&&di q&&p.cols==q.rows)=true:=by revert t;cases di p<;>cases di q<;>simp
 have aB:=IX hy
 have aP:p.cols=q.rows:=by simpa using aB.2.2
 refine Q7<|aN _ _<|ZS o fun aD=>Ze (Vd O oe 0)<|Ze (X0 O X8 (f.at 0))<|Ze (Vd O ou 1)<|Ze (X0 O X8 (k.at 1))<|Ze (tQ (vs:=[(ae b4),(ae b5)]) O)<|Zf (Vc (xF _ p.rows q.cols 159 [(ae b4),(ae b5)] K8 (fun i j=>de p q i j p.cols.toNat) (fun i j w' hi hj hE'=>L8 w' p q _ _ _ _ _ _ ((B.bx g).bw hE').top ((C.bx g).bw hE').top (f.bw hE') (k.bw hE') aB.1 aB.2.1 aP i j hi hj)) wL) ?_;rintro _ w8 ⟨y,z,rfl,u,m⟩;have u:=u.lower g.size;have n:=n.bw m;have g:=aa g m;refine Ze (X2 (vs:=[.agg #[vi (((ax p.rows q.cols (fun i j=>de p q i j p.cols.toNat)).getD mZ).rows),vi (((ax p.rows q.cols (fun i j=>de p q i j p.cols.toNat)).getD mZ).cols),.slice y (((ax p.rows q.cols (fun i j=>de p q i j p.cols.toNat)).getD mZ).cells).length z],.bool ((ax p.rows q.cols (fun i j=>de p q i j p.cols.toNat)).isSome)]) O O)<|Ze (X2 (vs:=[.agg #[vi (((ax p.rows q.cols (fun i j=>de p q i j p.cols.toNat)).getD mZ).rows),vi (((ax p.rows q.cols (fun i j=>de p q i j p.cols.toNat)).getD mZ).cols),.slice y (((ax p.rows q.cols (fun i j=>de p q i j p.cols.toNat)).getD mZ).cells).length z],.bool ((ax p.rows q.cols (fun i j=>de p q i j p.cols.toNat)).isSome)]) O O)<|Zo (Vw [vi (((ax p.rows q.cols (fun i j=>de p q i j p.cols.toNat)).getD mZ).rows),vi (((ax p.rows q.cols (fun i j=>de p q i j p.cols.toNat)).getD mZ).cols),.slice y (((ax p.rows q.cols (fun i j=>de p q i j p.cols.toNat)).getD mZ).cells).length z] jg n) ?_;rintro _ w9 ⟨ho,hb⟩;have u:=u.oT ho n O;have g:=Below.oy g ho D;have n:=hb;refine Za O<|Zt aD fun a o=>Q6 (X4 o (dj o O (an.cellN (l:=[vi (((ax p.rows q.cols (fun i j=>de p q i j p.cols.toNat)).getD mZ).rows),vi (((ax p.rows q.cols (fun i j=>de p q i j p.cols.toNat)).getD mZ).cols),.slice y (((ax p.rows q.cols (fun i j=>de p q i j p.cols.toNat)).getD mZ).cells).length z]) O fw (n.at 0) O) O) ?_)
 exact ⟨y,z,by rw[bg,Q4 hy],by rw[bg,Q4 hy];exact u,g⟩
def RC(n:World)(p:Mx)(x:Dy)(Aa:Option Addr)(ca:Nat)(ba bb:Nat)(aC:Rw n 147 ai Aa p.cells)(k:al n ba 91 [vi p.rows,vi p.cols,.slice Aa p.cells.length ca])(g:al n bb 147 (ai x))(aD:di p=true)(i j:Nat)(hi:(i:Int)<p.rows)(hj:(j:Int)<p.cols):RE 175 [vi (i:Int),vi (j:Int),(ae ba),(ae bb)] n (fun v w=>v=.tuple #[dV ((aj (p.at i j) x).getD dZ),.bool (aj (p.at i j) x).isSome]/\Bl n w):=by
 have aE:=k.lt;have aF:=g.lt;unfold ai at g;refine enter func175 O 16 O O ?_;intro a hf;have m:=bz n;refine ZS hf fun aG=>Zf (Xi (zs:=[vi 0,vi 0,vi 0,vi 0,vi 0]) iu O) ?_;rintro _ w1 ⟨b3,rfl,aH,f,e⟩;have aB:bb≠b3:=by have:=g.lt;omega
 have aA:=Q0 m.size aH;have ⟨k,g,m⟩:=bh f k g m;refine Za O<|ZX aG fun a hf _ aI=>gx none (fun j=>[8].contains j) mixed ?_;intro w2 f;have ⟨k,g,e,m⟩:=dk f k g e m;refine Yb hf<|Ye 0 O (Xt (l:=[vi p.rows,vi p.cols,.slice Aa p.cells.length ca]) O fw (k.at 0) O)<|Yo 1 O (fun _=>X7 O)<|Yo 2 O (fun _=>X7 O)<|Ye 4 O (Xt (l:=[vi x.num.a,vi x.num.b,vi x.num.c,vi x.num.d,vi x.exp]) O Xa (g.at 0) O)<|Y1 3<|Yk O ad (Vc (u' _ p Aa ca (aC.bx m).top i j aD hi hj) uG) (fun _ _ ⟨_,f⟩=>f) ?_;rintro _ w3 ⟨rfl,f⟩;have e:=e.bw f;have m:=aa m f;refine Y1 5<|Yk O ad (Vc (tm _ (p.at i j) x) tp) (fun _ _ ⟨_,f⟩=>f) ?_;rintro _ w4 ⟨rfl,f⟩;have e:=e.bw f;have m:=aa m f;refine Yo 6 O (fun _=>X2 (vs:=[.agg #[vi (((aj (p.at i j) x).getD dZ).num.a),vi (((aj (p.at i j) x).getD dZ).num.b),vi (((aj (p.at i j) x).getD dZ).num.c),vi (((aj (p.at i j) x).getD dZ).num.d),vi (((aj (p.at i j) x).getD dZ).exp)],.bool ((aj (p.at i j) x).isSome)]) O O)<|Yo 7 O (fun _=>X2 (vs:=[.agg #[vi (((aj (p.at i j) x).getD dZ).num.a),vi (((aj (p.at i j) x).getD dZ).num.b),vi (((aj (p.at i j) x).getD dZ).num.c),vi (((aj (p.at i j) x).getD dZ).num.d),vi (((aj (p.at i j) x).getD dZ).exp)],.bool ((aj (p.at i j) x).isSome)]) O O)<|Y1 8<|Yh O ad O (Vw [vi (((aj (p.at i j) x).getD dZ).num.a),vi (((aj (p.at i j) x).getD dZ).num.b),vi (((aj (p.at i j) x).getD dZ).num.c),vi (((aj (p.at i j) x).getD dZ).num.d),vi (((aj (p.at i j) x).getD dZ).exp)] Xm e) ?_;intro _ w5 ⟨ho,hb⟩;have m:=Below.oy m ho aA;have e:=hb;refine Yo 9 O (fun _=>kk O)<|Yd fun a hf=>aI _ _<|Q6 (X4 hf (dj hf O (an.cellN (l:=[vi (((aj (p.at i j) x).getD dZ).num.a),vi (((aj (p.at i j) x).getD dZ).num.b),vi (((aj (p.at i j) x).getD dZ).num.c),vi (((aj (p.at i j) x).getD dZ).num.d),vi (((aj (p.at i j) x).getD dZ).exp)]) O Xa (e.at 0) O) O) ?_);exact ⟨O,m⟩
def C5(w0:World)(p:Mx)(Ap:Option Addr)(cp:Nat)(h:Rw w0 147 ai Ap p.cells)(x:Dy)(aF:p.cells.length<=2305843009213693951):RE 135 [.agg #[vi p.rows,vi p.cols,.slice Ap p.cells.length cp],.agg #[vi x.num.a,vi x.num.b,vi x.num.c,vi x.num.d,vi x.exp]] w0 (fun v w=>∃ A c,v=.tuple #[mV A c ((bp p x).getD mZ),.bool (bp p x).isSome]/\ah w w0.heap.size 147 5 ai A c ((bp p x).getD mZ).cells/\Bl w0 w):=by
 refine enter func135 O 23 O O ?_;intro a q
 have f:=bz w0
 refine ZS q fun aG=>Zf (bt (zs:=[vi p.rows,vi p.cols,.slice Ap p.cells.length cp]) O O) ?_;rintro _ w1 ⟨b3,rfl,aH,g,k⟩;have aN:=Q0 f.size aH;have f:=aa f g;refine Zf (bt (zs:=[vi x.num.a,vi x.num.b,vi x.num.c,vi x.num.d,vi x.exp]) O O) ?_;rintro _ w2 ⟨b4,rfl,aI,g,o⟩;have aO:=Q0 f.size aI;have k:=k.bw g;have f:=aa f g;refine Zf (Xi (zs:=[vi 0,vi 0,.slice none 0 0]) jy O) ?_;rintro _ w3 ⟨b6,rfl,aJ,g,m⟩
 have aE:b3≠b6:=by have:=k.lt;omega
 have B:=Q0 f.size aJ;have ⟨k,o,f⟩:=bh g k o f;refine Za O<|ZX aG fun a q _ aK=>Q5 fun _ aL=>eo (fun a w=>Fr a 23 [(2,(ae b3)),(3,(ae b4)),(4,(ae b6)),(13,.bool ((!(di p))||(!(dt x))))]/\Bl w3 w) ?_ ?_
 ·have u:Bl w3 w3:=Below.refl _ _
  refine Zr q<|Ze (Vn fw k)<|Zf (Vc (tq _ p Ap cp (h.bx f).top aF) tr) ?_;rintro _ w4 ⟨rfl,g⟩;have ⟨o,f,u⟩:=bh g o f u;refine Ze (dn O)<|Zm O<|Zg 9 O ?_ ?_<;>intro e
  ·(iterate 3 refine Zp (gP e) ?_);exact Ze (Xh O e O)<|Zn fun a q=>⟨q.sub ⟨O,O,O,X1 O (by simp[e]),trivial⟩,u⟩
  refine Zv (gW e) (Vn Xa o) ?_;refine Zk (gW e) (Vc (tg _ x) s8) ?_;rintro _ w5 ⟨rfl,g⟩;have f:=aa f g;have u:=aa u g;refine Zv (gW e) (dn O) ?_;refine Ze (X9 O e O) ?_;exact Zn fun a q=>⟨q.sub ⟨O,O,O,X1 O (by first|rfl|(simp only[e,bs];done)|simp[e]),trivial⟩,u⟩
 rintro a w6 ⟨q,g⟩;have ⟨k,o,m,f⟩:=dk g k o m f;refine aL _ _<|Xz q O ?_ ?_<;>intro t
 ·have aA:=t
  have hn:(di p&&dt x)=false:=by revert t;cases di p<;>cases dt x<;>simp
  refine ZS q fun aB=>Ze (Xg (ps:=[]) (cs:=[vi 0,vi 0,.slice none 0 0]) O (fun _=>by first|rfl|kernel_rfl))<|Zo (Vw [vi 0,vi 0,.slice none 0 0] jg m) ?_;rintro _ w7 ⟨ho,hb⟩;have f:=Below.oy f ho B;have m:=hb;exact Za O<|Zt aB fun a q=>Q6<|X3<|X4 q (dj q O (an.cellN (l:=[vi 0,vi 0,.slice none 0 0]) O fw (m.at 0) O) O)<|⟨none,0,by rw[bp,hn];rfl,by rw[bp,hn];exact (ah.nil _ _ _ _ _),f⟩
 have aA:=t
 have hy:(di p&&dt x)=true:=by revert t;cases di p<;>cases dt x<;>simp
 have aM:=(Qd _ _▸hy:di p=true/\dt x=true);refine Q7<|aK _ _<|ZS q fun aC=>Ze (Vd O oe 0)<|Ze (X0 O X8 (k.at 0))<|Ze (Vd O ou 1)<|Ze (X0 O X8 (k.at 1))<|Ze (tQ (vs:=[(ae b3),(ae b4)]) O)<|Zf (Vc (xF _ p.rows p.cols 175 [(ae b3),(ae b4)] QP (fun i j=>aj (p.at i j) x) (fun i j w' hi hj hE'=>RC w' p x _ _ _ _ ((h.bx f).bw hE').top (k.bw hE') (o.bw hE') aM.1 i j hi hj)) wL) ?_;rintro _ w8 ⟨y,z,rfl,n,g⟩;have aD:=n.awayNew o.lt;have n:=n.lower f.size;have m:=m.bw g;have f:=aa f g;refine Ze (X2 (vs:=[.agg #[vi (((ax p.rows p.cols (fun i j=>aj (p.at i j) x)).getD mZ).rows),vi (((ax p.rows p.cols (fun i j=>aj (p.at i j) x)).getD mZ).cols),.slice y (((ax p.rows p.cols (fun i j=>aj (p.at i j) x)).getD mZ).cells).length z],.bool ((ax p.rows p.cols (fun i j=>aj (p.at i j) x)).isSome)]) O O)<|Ze (X2 (vs:=[.agg #[vi (((ax p.rows p.cols (fun i j=>aj (p.at i j) x)).getD mZ).rows),vi (((ax p.rows p.cols (fun i j=>aj (p.at i j) x)).getD mZ).cols),.slice y (((ax p.rows p.cols (fun i j=>aj (p.at i j) x)).getD mZ).cells).length z],.bool ((ax p.rows p.cols (fun i j=>aj (p.at i j) x)).isSome)]) O O)<|Zo (Vw [vi (((ax p.rows p.cols (fun i j=>aj (p.at i j) x)).getD mZ).rows),vi (((ax p.rows p.cols (fun i j=>aj (p.at i j) x)).getD mZ).cols),.slice y (((ax p.rows p.cols (fun i j=>aj (p.at i j) x)).getD mZ).cells).length z] jg m) ?_;rintro _ w9 ⟨ho,hb⟩;have n:=n.oT ho m O;have f:=Below.oy f ho B;have m:=hb;refine Za O<|Zt aC fun a q=>Q6 (X4 q (dj q O (an.cellN (l:=[vi (((ax p.rows p.cols (fun i j=>aj (p.at i j) x)).getD mZ).rows),vi (((ax p.rows p.cols (fun i j=>aj (p.at i j) x)).getD mZ).cols),.slice y (((ax p.rows p.cols (fun i j=>aj (p.at i j) x)).getD mZ).cells).length z]) O fw (m.at 0) O) O) ?_)
 exact ⟨y,z,by rw[bp,Q4 hy],by rw[bp,Q4 hy];exact n,f⟩
def DU(n:World)(Ap:Option Addr)(cp:Nat)(p:List Dy)(aF:Rw n 147 ai Ap p)(Aq:Option Addr)(cq:Nat)(q:List Dy)(aG:Rw n 147 ai Aq q)(aY:p.length<=2305843009213693951):RE 134 [.slice Ap p.length cp,.slice Aq q.length cq] n (fun v w=>v=.bool (decide (p=q))/\Bl n w):=by
 refine enter func134 O 26 O O ?_;intro a e;have o:=bz n;refine ZS e fun aP=>Za O<|ZX aP fun a e _ aQ=>ZS e fun aR=>Zm O<|Ze (fh O gv)<|Zm O<|Ze (fh O gv)<|Ze (kz O O)<|Zt aR fun a e=>Xz e O ?_ ?_<;>intro i
 ·have aX:=i;have aA:¬ p=q:=by intro h9;rw[h9] at i;simp at i
  exact ZS e fun aS=>Za O<|Zt aS fun a e=>Q6<|X3<|X4 e (Xu e O O)<|⟨by simp[aA],o⟩
 have aZ:p.length=q.length:=by have h9:(p.length:Int)=q.length:=(by simpa using i);omega
 refine Q7<|aQ _ _<|Q5 fun _ aT=>ZS e fun aU=>Zm O<|Ze (fh O gv)<|Zm O<|Zt aU fun a e=>Q8<|Xw (σ:=Nat) (fun (k:Nat) (a:Act) (w:World)=>Fr a 26 [(0,.slice Ap p.length cp),(1,.slice Aq q.length cq),(12,vi (p.length:Int)),(13,vi (k:Int))]/\(k<=p.length)/\(p.take k=q.take k)/\Bl n w) (fun (k:Nat)=>p.length-k) 0 ?_ ?_
 ·exact ⟨e.sb,(Qf _),O6,o⟩
 intro k a w1 ⟨e,hk,j,o⟩;refine ZS e fun aH=>Ze (ew O O)<|ZX aH fun a e _ aI=>eh e O (fun aB aJ=>?_) (fun aB aJ=>?_)
 ·have ⟨f,m⟩:=Xe (l:=p) (k:=k) O0;have ⟨v9,t⟩:=Xe (l:=q) (k:=k) O0;refine Q7<|aI _ _<|Q5 fun _ aK=>Q8<|ZS e fun aL=>Zm O<|Za O<|ZX aL fun a e _ aM=>gx none (fun _=>false) mixed ?_;intro w2 hE;have o:=aa o hE;refine Yb e<|Yo 0 O (fun _=>X7 O)<|Yo 1 O (fun _=>X7 O)<|Yi (k:=k) (u:=f) (enc:=ai) (l:=p) 2 O ad O O gv Xm kb (aF.bx o) m O ?_;intro b0 aC;refine Ye 3 O (Xt (l:=[vi f.num.a,vi f.num.b,vi f.num.c,vi f.num.d,vi f.exp]) O Xa aC O)<|Yo 4 O (fun _=>X7 O)<|Yo 5 O (fun _=>X7 O)<|Yi (k:=k) (u:=v9) (enc:=ai) (l:=q) 6 O ad O O gv Xm kb (aG.bx o) t O ?_;intro b1 aD;refine Ye 7 O (Xt (l:=[vi v9.num.a,vi v9.num.b,vi v9.num.c,vi v9.num.d,vi v9.exp]) O Xa aD O)<|Yo 8 O (fun _=>uz O O wv (fun w=>wt 9997 f v9 w))<|Yd fun a e=>aM _ _<|Xz e O ?_ ?_<;>intro g
  ·have aE:=g;have aA:¬ p=q:=by rintro rfl;rw[m] at t;injection t with e9;revert g;simp[e9]
   exact ZS e fun aN=>Za O<|Zt aN fun a e=>Q6<|Xn<|X3<|X3<|Xn<|X3<|X4 e (Xu e O O)<|⟨by simp[aA],o⟩
  have aE:=g;have aW:f=v9:=by revert g;simp
  exact Q7<|Xk<|aK _ _<|Zr e<|Ze (Xs O O O0 O0)<|Zm O<|Zn fun a e=>Xb<|⟨k+1,⟨e.sb,O0,(uV j m t aW),o⟩,O0⟩
 refine Q9<|Xf<|Xf<|Xv<|aT _ _<|ZS e fun aO=>Za O<|Zt aO fun a e=>Q6 (X4 e (Xu e O O) ?_);have he:p=q:=by rw[Qi O0,Qi O0] at j;exact j
 exact ⟨by simp[he],o⟩
def H3(k:World)(p:Mx)(Ap:Option Addr)(cp:Nat)(aB:Rw k 147 ai Ap p.cells)(q:Mx)(Aq:Option Addr)(cq:Nat)(aC:Rw k 147 ai Aq q.cells)(aK:p.cells.length<=2305843009213693951):RE 138 [.agg #[vi p.rows,vi p.cols,.slice Ap p.cells.length cp],.agg #[vi q.rows,vi q.cols,.slice Aq q.cells.length cq]] k (fun v w=>v=.bool (decide (p.rows=q.rows)&&decide (p.cols=q.cols)&&decide (p.cells=q.cells))/\Bl k w):=by
 refine enter func138 O 24 O O ?_;intro a g;have e:=bz k;refine ZS g fun aE=>Zf (bt (zs:=[vi p.rows,vi p.cols,.slice Ap p.cells.length cp]) O O) ?_;rintro _ w1 ⟨b4,rfl,aF,j,f⟩;have aI:=Q0 e.size aF;have e:=aa e j;refine Zf (bt (zs:=[vi q.rows,vi q.cols,.slice Aq q.cells.length cq]) O O) ?_;rintro _ w2 ⟨b5,rfl,aG,j,aA⟩;have aD:b4≠b5:=by have:=f.lt;omega
 have aJ:=Q0 e.size aG;have f:=f.bw j;have e:=aa e j;refine Za O<|ZX aE fun a g _ aH=>eo (fun a w=>Fr a 24 [(4,.bool (((p.rows==q.rows)&&(p.cols==q.cols))&&(decide (p.cells=q.cells))))]/\Bl w2 w) ?_ ?_
 ·have i:Bl w2 w2:=Below.refl _ _;refine Zr g<|Ze (Vd O oe 0)<|Ze (X0 O X8 (f.at 0))<|Ze (Vd O oe 0)<|Ze (X0 O X8 (aA.at 0))<|Ze (go O O)<|Zm O<|Zg 10 O ?_ ?_<;>intro c
  ·refine Zv (gW c) (Vd O ou 1) ?_;refine Zv (gW c) (X0 O X8 (f.at 1)) ?_;refine Zv (gW c) (Vd O ou 1) ?_;refine Zv (gW c) (X0 O X8 (aA.at 1)) ?_;refine Zv (gW c) (go O O)<|Ze (Xh O c O)<|Zm O<|Zg 17 O ?_ ?_<;>intro d
   ·refine Zv (gW d) (Vd O og 2) ?_;refine Zv (gW d) (X0 O ju (f.at 2)) ?_;refine Zv (gW d) (Vd O og 2) ?_;refine Zv (gW d) (X0 O ju (aA.at 2)) ?_;refine Zk (gW d) (Vc (DU _ Ap cp p.cells (aB.bx e).top Aq cq q.cells (aC.bx e).top O9) BX) ?_;rintro _ w3 ⟨rfl,j⟩;have e:=aa e j;have i:=aa i j;exact Ze (Xh O d O)<|Za O<|Zn fun a g=>⟨g.sub ⟨X1 O (by simp[c,d]),trivial⟩,i⟩
   (iterate 5 refine Zp (gP d) ?_);exact Ze (X9 O d O)<|Za O<|Zn fun a g=>⟨g.sub ⟨X1 O (by simp[c,d]),trivial⟩,i⟩
  (iterate 5 refine Zp (gP c) ?_);refine Ze (X9 O c O)<|Zm O<|Zp (gP O) ?_;(iterate 4 refine Zp (gP O) ?_);exact Ze (X9 O O O)<|Za O<|Zn fun a g=>⟨g.sub ⟨X1 O (by simp[c]),trivial⟩,i⟩
 intro a w4 ⟨g,j⟩;have e:=aa e j;refine aH _ _<|Q6 (X4 g (Xu g O O) ?_);exact ⟨O,e⟩
theorem yI(w0:World)(n:Int)(x:Gt):RE 36 [vi n,.agg #[vi x.k,vi x.a,vi x.b]] w0 (fun v w=>v=.bool (gp n x)/\Bl w0 w):=by
 refine enter func36 O 60 O O ?_;intro a e;have hW:=bz w0;refine ZS e fun aF=>Zf (bt (zs:=[vi x.k,vi x.a,vi x.b]) O O) ?_;rintro _ w1 ⟨b2,rfl,aG,hE,o⟩;have aM:=Q0 hW.size aG;have hW:=aa hW hE;refine Za O<|ZX aF fun a e _ aH=>Q8<|Q5 fun _ aI=>eo (fun a w=>Fr a 60 [(0,vi n),(3,(ae b2)),(5,.bool ((!(bq n 1 5))||(!(bq x.k 1 12))))]/\w1=w) ?_ ?_
 ·refine Zr e<|Zm O<|Zf (Vc (qc _ n 1 5) pV) ?_;rintro _ _ ⟨rfl,rfl⟩;refine Ze (dn O)<|Zm O<|Zg 9 O ?_ ?_<;>intro m
  ·(iterate 4 refine Zp (gP m) ?_);exact Ze (Xh O m O)<|Za O<|Zn fun a e=>⟨e.sub ⟨O,O,X1 O (by simp[m]),trivial⟩,O⟩
  refine Zv (gW m) (Vd O mo 0) ?_;refine Zv (gW m) (X0 O X8 (o.at 0)) ?_;refine Zk (gW m) (Vc (qc _ x.k 1 12) pV) ?_;rintro _ _ ⟨rfl,rfl⟩;refine Zv (gW m) (dn O)<|Ze (X9 O m O)<|Za O<|Zn fun a e=>?_;exact ⟨e.sub ⟨O,O,X1 O (by simp[m]),trivial⟩,O⟩
 rintro a _ ⟨e,rfl⟩;refine aI _ _<|Xz e O ?_ ?_<;>intro j
 ·have hn:=xN j;exact ZS e fun aJ=>Za O<|Zt aJ fun a e=>Q6<|Xn<|X3<|X4 e (Xu e O O)<|⟨by rw[gp,hn];rfl,hW⟩
 have hy:=xE j;have aK:=(Qd _ _▸hy:bq n 1 5=true/\bq x.k 1 12=true);have aN:=iw.1 aK.1;refine ZS e fun aL=>Ze (Vd O mo 0)<|Ze (X0 O X8 (o.at 0))<|Ze (go O O)<|Za O<|Zt aL fun a e=>Xz e O ?_ ?_<;>intro l
 ·have hk:x.k=12:=by simpa using l
  refine Q5 fun _ aB=>eo (fun a w=>Fr a 60 [(4,.bool ((x.a==0)&&(x.b==0)))]/\w1=w) ?_ ?_
  ·refine Zr e<|Ze (Vd O lm 1)<|Ze (X0 O X8 (o.at 1))<|Ze (go O O)<|Zm O<|Zg 22 O ?_ ?_<;>intro f
   ·refine Zv (gW f) (Vd O no 2) ?_;refine Zv (gW f) (X0 O X8 (o.at 2)) ?_;refine Zv (gW f) (go O O)<|Ze (Xh O f O)<|Za O<|Zn fun a e=>?_;exact ⟨e.sub ⟨X1 O (by simp[j,l,f]),trivial⟩,O⟩
   (iterate 3 refine Zp (gP f) ?_);exact Ze (X9 O f O)<|Za O<|Zn fun a e=>⟨e.sub ⟨X1 O (by simp[j,l,f]),trivial⟩,O⟩
  rintro a _ ⟨e,rfl⟩;exact aB _ _<|Q6<|Xn<|X3<|X4 e (Xu e O O)<|⟨by rw[gp,hy,Q4 hk,Qw],hW⟩
 have hk:¬ x.k=12:=by simpa using l
 refine ZS e fun aC=>Ze (Vd O mo 0)<|Ze (X0 O X8 (o.at 0))<|Zf (Vc (vH _ x.k) wC) ?_;rintro _ _ ⟨rfl,rfl⟩;refine Za O<|Zt aC fun a e=>Xz e O ?_ ?_<;>intro g
 ·have aA:=g;refine Q5 fun _ aD=>eo (fun a w=>Fr a 60 [(4,.bool (((bq x.a 0 (n-1))&&(bq x.b 0 (n-1)))&&(x.a != x.b)))]/\w1=w) ?_ ?_
  ·refine Zr e<|Ze (Vd O lm 1)<|Ze (X0 O X8 (o.at 1))<|Zm O<|Ze (ld O O O0 O0)<|Zf (Vc (qc _ x.a 0 (n-1)) pV) ?_;rintro _ _ ⟨rfl,rfl⟩;refine Zm O<|Zg 36 O ?_ ?_<;>intro c
   ·refine Zv (gW c) (Vd O no 2) ?_;refine Zv (gW c) (X0 O X8 (o.at 2)) ?_;refine Zv (gW c) (X7 O) ?_;refine Zv (gW c) (ld O O O0 O0) ?_;refine Zk (gW c) (Vc (qc _ x.b 0 (n-1)) pV) ?_;rintro _ _ ⟨rfl,rfl⟩;refine Ze (Xh O c O)<|Zm O<|Zg 43 O ?_ ?_<;>intro d
    ·refine Zv (gW d) (Vd O lm 1) ?_;refine Zv (gW d) (X0 O X8 (o.at 1)) ?_;refine Zv (gW d) (Vd O no 2) ?_;refine Zv (gW d) (X0 O X8 (o.at 2)) ?_;refine Zv (gW d) (kz O O) ?_;refine Ze (Xh O d O)<|Za O<|Zn fun a e=>?_;exact ⟨e.sub ⟨X1 O (by simp[j,l,g,c,d]),trivial⟩,O⟩
    (iterate 5 refine Zp (gP d) ?_);exact Ze (X9 O d O)<|Za O<|Zn fun a e=>⟨e.sub ⟨X1 O (by simp[j,l,g,c,d]),trivial⟩,O⟩
   (iterate 5 refine Zp (gP c) ?_);refine Ze (X9 O c O)<|Zm O<|Zp (gP O) ?_;(iterate 4 refine Zp (gP O) ?_);exact Ze (X9 O O O)<|Za O<|Zn fun a e=>⟨e.sub ⟨X1 O (by simp[j,l,g,c]),trivial⟩,O⟩
  rintro a _ ⟨e,rfl⟩;exact aD _ _<|Q6<|Xn<|X3<|X4 e (Xu e O O)<|⟨by rw[gp,hy,Q3 hk,Q4 aA,Qw],hW⟩
 have aA:¬ bq x.k 9 11=true:=by rw[g];simp
 refine Q7<|Xk<|aH _ _<|Q5 fun _ aE=>eo (fun a w=>Fr a 60 [(4,.bool ((bq x.a 0 (n-1))&&(x.b==0)))]/\w1=w) ?_ ?_
 ·refine Zr e<|Ze (Vd O lm 1)<|Ze (X0 O X8 (o.at 1))<|Zm O<|Ze (ld O O O0 O0)<|Zf (Vc (qc _ x.a 0 (n-1)) pV) ?_;rintro _ _ ⟨rfl,rfl⟩;refine Zm O<|Zg 55 O ?_ ?_<;>intro i
  ·refine Zv (gW i) (Vd O no 2) ?_;refine Zv (gW i) (X0 O X8 (o.at 2)) ?_;refine Zv (gW i) (go O O)<|Ze (Xh O i O)<|Za O<|Zn fun a e=>?_;exact ⟨e.sub ⟨X1 O (by simp[j,l,g,i]),trivial⟩,O⟩
  (iterate 3 refine Zp (gP i) ?_);exact Ze (X9 O i O)<|Za O<|Zn fun a e=>⟨e.sub ⟨X1 O (by simp[j,l,g,i]),trivial⟩,O⟩
 rintro a _ ⟨e,rfl⟩;refine aE _ _<|Q6 (X4 e (Xu e O O) ?_);exact ⟨by rw[gp,hy,Q3 hk,Q3 aA,Qw],hW⟩
def TJ(e:World)(Al:Option Addr)(cl:Nat)(l:List Gt)(aD:Rw e 52 ab Al l)(kq:FuncId)(pq:List Value)(Fq:FF kq)(q:Gt->Bool)(hq:∀ x w,Bl e w->RE kq ([gV x]++pq) w (fun v w'=>v=.bool (q x)/\Bl w w'))(aS:l.length<=2305843009213693951):RE 60 [.slice Al l.length cl,.func (.func kq) #[] pq.toArray] e (fun v w=>∃ i:Int,v=vi i/\decide (0<=i)=l.any q/\Bl e w):=by
 refine enter func60 O 19 O O ?_;intro a c;have g:=bz e;refine ZS c fun aJ=>Za O<|ZX aJ fun a c _ aK=>ZS c fun aL=>Zm O<|Ze (fh O Xp)<|Zm O<|Zt aL fun a c=>Q8<|Xw (σ:=Nat) (fun (k:Nat) (a:Act) (w:World)=>Fr a 19 [(0,.slice Al l.length cl),(1,.func (.func kq) #[] pq.toArray),(7,vi (l.length:Int)),(8,vi (k:Int))]/\(k<=l.length)/\((l.take k).all (fun x=>!q x)=true)/\Bl e w) (fun (k:Nat)=>l.length+1-k) 0 ?_ ?_
 ·exact ⟨c.sb,(Qf _),O6,g⟩
 intro k a w1 ⟨c,hk,j,g⟩;refine ZS c fun aM=>Ze (ew O O)<|ZX aM fun a c _ aN=>eh c O (fun aE aO=>?_) (fun aE aO=>?_)
 ·have ⟨f,aA⟩:=Xe (l:=l) (k:=k) O0;refine Q7<|aN _ _<|Q5 fun _ aP=>Q8<|ZS c fun aF=>Zm O<|Za O<|Zx aF fun a c _ aG=>Zm O<|Zm O<|Zm O<|Zi (k:=k) (u:=f) (enc:=ab) (l:=l) ad O O Xp ji Xl (aD.bx g) aA O ?_;intro aT aB;refine Ze (Xt (l:=[vi f.k,vi f.a,vi f.b]) O jd aB O)<|Zf (ta (cs:=pq) (vs:=[.agg #[vi f.k,vi f.a,vi f.b]]) O O Fq (hq f _ g)) ?_;rintro _ w2 ⟨rfl,hE⟩;have g:=aa g hE;refine Zt aG fun a c=>Xz c O ?_ ?_<;>intro d
  ·have aC:l.any q=true:=tO aA d;exact ZS c fun aH=>Zm O<|Za O<|Zt aH fun a c=>Q6<|Xn<|X3<|X3<|Xn<|X3<|X4 c (Xu c O O)<|⟨_,O,by rw[aC];simp,g⟩
  have aQ:=d;have aR:(!q f)=true:=by revert d;cases q f<;>simp
  exact Q7<|Xk<|aP _ _<|Zr c<|Ze (Xs O O O0 O0)<|Zm O<|Zn fun a c=>Xb<|⟨k+1,⟨c.sb,O0,(sa j aA aR),g⟩,O0⟩
 refine Q9<|Xf<|Xf<|Xv<|aK _ _<|ZS c fun aI=>Za O<|Zt aI fun a c=>Q6 (X4 c (Xu c O O) ?_);have aC:l.any q=false:=tJ (sF j O0);exact ⟨_,O,by rw[aC];rfl,g⟩
def GA(c:World)(Al:Option Addr)(cl:Nat)(l:List Gt)(aA:Rw c 52 ab Al l)(kq:FuncId)(pq:List Value)(Fq:FF kq)(q:Gt->Bool)(hq:∀ x w,Bl c w->RE kq ([gV x]++pq) w (fun v w'=>v=.bool (q x)/\Bl w w'))(aB:l.length<=2305843009213693951):RE 34 [.slice Al l.length cl,.func (.func kq) #[] pq.toArray] c (fun v w=>v=.bool (l.any q)/\Bl c w):=by
 refine enter func34 O 9 O O ?_;intro a hf;have hW:=bz c;refine ZS hf fun aC=>Za O<|Zx aC fun a hf _ aD=>Zm O<|Zm O<|Zf (Vc (TJ _ Al cl l (aA.bx hW).top kq pq Fq q (fun x w' hE'=>hq x w' (hW.trans (hE'.mono hW.size))) aB) LA) ?_;rintro _ w1 ⟨ix,rfl,aE,hE⟩;have hW:=aa hW hE;refine Ze (r0 O O)<|Za O<|Zt aD fun a hf=>Q6 (X4 hf (Xu hf O O) ?_);exact ⟨by rw[<- aE],hW⟩
def Px(w0:World)(x:Gt)(n:Int)(ba:Nat)(v1:Value)(c:al w0 ba 28 [vi n,v1]):RE 35 [.agg #[vi x.k,vi x.a,vi x.b],(ae ba)] w0 (fun v w=>v=.bool (!gp n x)/\Bl w0 w):=by
 have aA:=c.lt;refine enter func35 O 9 O O ?_;intro a hf;have hW:=bz w0;refine ZS hf fun aB=>Zf (bt (zs:=[vi x.k,vi x.a,vi x.b]) O O) ?_;rintro _ w1 ⟨b2,rfl,aC,hE,aD⟩;have aF:=Q0 hW.size aC;have c:=c.bw hE;have hW:=aa hW hE;refine Za O<|Zx aB fun a hf _ aE=>Ze (Vd O oY 0)<|Ze (X0 O X8 (c.at 0))<|Ze (Vn jd aD)<|Zf (Vc (yI _ n x) zh) ?_;rintro _ w2 ⟨rfl,hE⟩;have hW:=aa hW hE;refine Ze (dn O)<|Za O<|Zt aE fun a hf=>Q6 (X4 hf (Xu hf O O) ?_);exact ⟨O,hW⟩
def Od(w0:World)(x:Gt)(n:Int)(ba:Nat)(c:al w0 ba 3 [vi n]):RE 119 [.agg #[vi x.k,vi x.a,vi x.b],(ae ba)] w0 (fun v w=>v=.bool (!gp n x)/\Bl w0 w):=by
 have aA:=c.lt;refine enter func119 O 8 O O ?_;intro a hf;have hW:=bz w0;refine ZS hf fun aB=>Zf (bt (zs:=[vi x.k,vi x.a,vi x.b]) O O) ?_;rintro _ w1 ⟨b2,rfl,aC,hE,aD⟩;have aF:=Q0 hW.size aC;have c:=c.bw hE;have hW:=aa hW hE;refine Za O<|Zx aB fun a hf _ aE=>Ze (X0 O X8 (c.at 0))<|Ze (Vn jd aD)<|Zf (Vc (yI _ n x) zh) ?_;rintro _ w2 ⟨rfl,hE⟩;have hW:=aa hW hE;refine Ze (dn O)<|Za O<|Zt aE fun a hf=>Q6 (X4 hf (Xu hf O O) ?_);exact ⟨O,hW⟩
def FU(w0:World)(n:Int)(Al:Option Addr)(cl:Nat)(l:List Gt)(aA:Rw w0 52 ab Al l)(aB:l.length<=2305843009213693951):RE 91 [vi n,.slice Al l.length cl] w0 (fun v w=>v=.bool (!(l.any fun x=>!gp n x))/\Bl w0 w):=by
 refine enter func91 O 9 O O ?_;intro a hf;have hW:=bz w0;refine ZS hf fun aC=>Zf (bt (zs:=[vi n]) O O) ?_;rintro _ w1 ⟨b3,rfl,aD,hE,aE⟩;have aG:=Q0 hW.size aD;have hW:=aa hW hE;refine Za O<|Zx aC fun a hf _ aF=>Zm O<|Ze (tQ (vs:=[(ae b3)]) O)<|Zf (Vc (GA _ Al cl l (aA.bx hW).top 119 [(ae b3)] M5 (fun x=>!gp n x) (fun x w' hE'=>Od w' x n _ (aE.bw hE')) aB) GS) ?_;rintro _ w2 ⟨rfl,hE⟩;have hW:=aa hW hE;refine Ze (dn O)<|Za O<|Zt aF fun a hf=>Q6 (X4 hf (Xu hf O O) ?_);exact ⟨O,hW⟩
def xY(w0:World)(c:Cx)(Ac:Option Addr)(cc:Nat)(aA:Rw w0 52 ab Ac c.gs)(aB:c.gs.length<=2305843009213693951):RE 17 [.agg #[vi c.n,.slice Ac c.gs.length cc]] w0 (fun v w=>v=.bool (gf c)/\Bl w0 w):=by
 refine enter func17 O 19 O O ?_;intro a f
 have i:=bz w0
 refine ZS f fun aC=>Zf (bt (zs:=[vi c.n,.slice Ac c.gs.length cc]) O O) ?_;rintro _ w1 ⟨b3,rfl,aD,hE,j⟩;have aF:=Q0 i.size aD;have i:=aa i hE;refine Za O<|ZX aC fun a f _ aE=>eo (fun a w=>Fr a 19 [(2,.bool (((bq c.n 1 5)&&(decide ((c.gs.length:Int)<=400)))&&(!(c.gs.any (fun x=>!gp c.n x)))))]/\Bl w1 w) ?_ ?_
 ·have g:Bl w1 w1:=Below.refl _ _
  refine Zr f<|Ze (Vd O oY 0)<|Ze (X0 O X8 (j.at 0))<|Zf (Vc (qc _ c.n 1 5) pV) ?_;rintro _ _ ⟨rfl,rfl⟩;refine Zm O<|Zg 6 O ?_ ?_<;>intro d
  ·refine Zv (gW d) (Vd O is 1) ?_;refine Zv (gW d) (X0 O gj (j.at 1)) ?_;refine Zv (gW d) (fh O Xp) ?_;refine Zv (gW d) (se O O) ?_;refine Ze (Xh O d O)<|Zm O<|Zg 12 O ?_ ?_<;>intro e
   ·refine Zv (gW e) (Vd O is 1) ?_;refine Zv (gW e) (X0 O gj (j.at 1)) ?_;refine Zv (gW e) (tQ (vs:=[(ae b3)]) O) ?_;refine Zk (gW e) (Vc (GA _ Ac cc c.gs (aA.bx i).top 35 [(ae b3)] QI (fun x=>!gp c.n x) (fun x w' hE'=>Px w' x c.n _ _ (j.bw hE')) aB) GS) ?_;rintro _ w2 ⟨rfl,hE⟩;have i:=aa i hE;have g:=aa g hE;refine Zv (gW e) (dn O) ?_;exact Ze (Xh O e O)<|Za O<|Zn fun a f=>⟨f.sub ⟨X1 O (by first|rfl|(simp only[d,e,bs];done)|simp[d,e]),trivial⟩,g⟩
   (iterate 5 refine Zp (gP e) ?_);exact Ze (X9 O e O)<|Za O<|Zn fun a f=>⟨f.sub ⟨X1 O (by simp[d,e]),trivial⟩,g⟩
  (iterate 4 refine Zp (gP d) ?_);refine Ze (X9 O d O)<|Zm O<|Zp (gP O) ?_;(iterate 4 refine Zp (gP O) ?_);exact Ze (X9 O O O)<|Za O<|Zn fun a f=>⟨f.sub ⟨X1 O (by simp[d]),trivial⟩,g⟩
 rintro a w3 ⟨f,hE⟩;have i:=aa i hE;refine aE _ _<|Q6 (X4 f (Xu f O O) ?_)
 exact ⟨by simp[gf, *],i⟩
def yz(w0:World)(bV:Nat)(f:Bool)(e:al w0 bV 137 [.bool f])(x:Rg):RE 179 [(ae bV),.agg #[vi x.a,vi x.b,vi x.c,vi x.d]] w0 (fun v w=>v=rV (co x)/\cn bV w0.heap.size w0 w/\al w bV 137 [.bool (f||!fu x)]):=by
 have aK:=e.lt;refine enter func179 O 13 O O ?_;intro a m;have j:cn bV w0.heap.size w0 w0:=cn.refl _ _ _;refine ZS m fun aC=>Zf (bt (zs:=[vi x.a,vi x.b,vi x.c,vi x.d]) O O) ?_;rintro _ w1 ⟨b2,rfl,aD,n,k⟩;have aL:=Q0 j.size aD;have e:=e.bw n;have j:=kj j n;refine Zf (Xi (zs:=[vi 0,vi 0,vi 0,vi 0]) nz O) ?_;rintro _ w2 ⟨b3,rfl,aE,n,g⟩;have aB:b2≠b3:=by have:=k.lt;omega
 have p:=Q0 j.size aE;have e:=e.bw n;have k:=k.bw n;have j:=kj j n;refine ZX aC fun a m _ aF=>ZS m fun aG=>Ze (Vn g9 k)<|Zf (Vc (IT _ x) Gk) ?_;rintro _ w3 ⟨rfl,n⟩;have ⟨e,k,g⟩:=bh n e k g;have j:=kj j n;refine Ze (dn O)<|Zt aG fun a m=>Xz m O ?_ ?_<;>intro o
 ·have aA:=o;have i:fu x=false:=by revert o;cases fu x<;>simp
  refine ZS m fun aH=>Zm O<|Ze (uQ O)<|Ze (Vd O vo 0)<|Zo (xM (vs:=[.bool true]) (l':=[.bool true]) O O IE e O O O O O) ?_;intro _ w4 ⟨i,q⟩;have g:=g.oz i e O;have j:=j.self i;have e:=q;clear q i;refine Zx aH fun a m _ aI=>Ze (Xg (ps:=[]) (cs:=[vi 0,vi 0,vi 0,vi 0]) O (fun _=>by first|rfl|kernel_rfl))<|Zo (Vw [vi 0,vi 0,vi 0,vi 0] lr g) ?_;intro _ w5 ⟨i,q⟩;have e:=e.oz i g O;have j:=cn.oy j i p;have g:=q;clear q i;exact Zt aI fun a m=>Q6<|X3<|X4 m (Xu m O (an.cellN (l:=[vi 0,vi 0,vi 0,vi 0]) O g9 (g.at 0) O))<|⟨by simp[co,i],j,by simpa[i] using e⟩
 have aA:=o;have i:fu x=true:=by revert o;cases fu x<;>simp
 refine Q7<|aF _ _<|ZS m fun aJ=>Ze (Vn g9 k)<|Zo (Vw [vi x.a,vi x.b,vi x.c,vi x.d] lr g) ?_;intro _ w6 ⟨i,q⟩;have e:=e.oz i g O;have j:=cn.oy j i p;have g:=q;clear q i;refine Zt aJ fun a m=>Q6 (X4 m (Xu m O (an.cellN (l:=[vi x.a,vi x.b,vi x.c,vi x.d]) O g9 (g.at 0) O)) ?_);exact ⟨by simp[co,i],j,by simpa[i] using e⟩
abbrev Yn:=fun (a:Dy) (b:Dy)=>ip (co (ir a.num b.num)) (a.exp+b.exp)
def AX(w0:World)(bV:Nat)(f:Bool)(e:al w0 bV 137 [.bool f])(x:Dy)(y:Dy)(hx:0<=x.exp/\x.exp<=60)(hy:0<=y.exp/\y.exp<=60):RE 142 [(ae bV),.agg #[vi x.num.a,vi x.num.b,vi x.num.c,vi x.num.d,vi x.exp],.agg #[vi y.num.a,vi y.num.b,vi y.num.c,vi y.num.d,vi y.exp]] w0 (fun v w=>v=dV ((fq f x y).2)/\cn bV w0.heap.size w0 w/\al w bV 137 [.bool ((fq f x y).1)]):=by
 have aP:=e.lt;refine enter func142 O 30 O O ?_;intro a o;have k:cn bV w0.heap.size w0 w0:=cn.refl _ _ _;refine ZS o fun aH=>Zf (bt (zs:=[vi x.num.a,vi x.num.b,vi x.num.c,vi x.num.d,vi x.exp]) O O) ?_;rintro _ w1 ⟨b2,rfl,aI,i,m⟩;have aQ:=Q0 k.size aI;have e:=e.bw i;have k:=kj k i;refine Zf (bt (zs:=[vi y.num.a,vi y.num.b,vi y.num.c,vi y.num.d,vi y.exp]) O O) ?_;rintro _ w2 ⟨b3,rfl,aJ,i,n⟩;have aE:b2≠b3:=by have:=m.lt;omega
 have aR:=Q0 k.size aJ;have e:=e.bw i;have m:=m.bw i;have k:=kj k i;refine Zf (Xi (zs:=[vi 0,vi 0,vi 0,vi 0,vi 0]) iu O) ?_;rintro _ w3 ⟨b4,rfl,aK,i,g⟩;have aF:b2≠b4:=by have:=m.lt;omega
 have aG:b3≠b4:=by have:=n.lt;omega
 have p:=Q0 k.size aK;have ⟨e,m,n⟩:=bh i e m n;have k:=kj k i;refine ZX aH fun a o _ aL=>ZS o fun aM=>Ze (Vd O oJ 4)<|Ze (X0 O X8 (m.at 4))<|Ze (Vd O oJ 4)<|Ze (X0 O X8 (n.at 4))<|Ze (Xs O O O0 O0)<|Ze (oo O O)<|Zt aM fun a o=>eh o O (fun aC aA=>?_) (fun aC aA=>?_)
 ·have hm:60<x.exp+y.exp:=aA;refine ZS o fun aN=>Zm O<|Ze (uQ O)<|Ze (Vd O vo 0)<|Zo (xM (vs:=[.bool true]) (l':=[.bool true]) O O IE e O O O O O) ?_;intro _ w4 ⟨q,hb⟩;have g:=g.oz q e O;have k:=k.self q;have e:=hb;refine Zx aN fun a o _ aO=>Ze (Xg (ps:=[]) (cs:=[vi 0,vi 0,vi 0,vi 0,vi 0]) O (fun _=>by first|rfl|kernel_rfl))<|Zo (Vw [vi 0,vi 0,vi 0,vi 0,vi 0] Xm g) ?_;intro _ w5 ⟨q,hb⟩;have e:=e.oz q g O;have k:=cn.oy k q p;have g:=hb;exact Zt aO fun a o=>Q6<|X3<|X4 o (Xu o O (an.cellN (l:=[vi 0,vi 0,vi 0,vi 0,vi 0]) O Xa (g.at 0) O))<|⟨by rw[fq,Q4 hm];rfl,k,by rw[fq,Q4 hm];exact e⟩
 have hm:¬ 60<x.exp+y.exp:=aA;refine Q7<|aL _ _<|Q5 fun _ aD=>gx (some bV) (fun j=>[13].contains j) mixed ?_;intro w6 i;have ⟨e,m,n,g⟩:=dk i e m n g;have k:=kj k i;refine Yb o<|Yo 0 O (fun _=>X7 O)<|Yo 1 O (fun _=>Vd O pG 0)<|Yw 2 O ad (fun w1 h1=>Xt (l:=[vi x.num.a,vi x.num.b,vi x.num.c,vi x.num.d]) O g9 (((m.oz h1 e O).at 0).take 4) O)<|Yo 3 O (fun _=>Vd O pG 0)<|Yw 4 O ad (fun w1 h1=>Xt (l:=[vi y.num.a,vi y.num.b,vi y.num.c,vi y.num.d]) O g9 (((n.oz h1 e O).at 0).take 4) O)<|Yo 7 O (fun _=>Vd O oJ 4)<|Yw 8 O ad (fun w1 h1=>X0 O X8 ((m.oz h1 e O).at 4))<|Yo 9 O (fun _=>Vd O oJ 4)<|Yw 10 O ad (fun w1 h1=>X0 O X8 ((n.oz h1 e O).at 4)) ?_;refine Yo 11 O (fun _=>Xs O O O0 O0)<|Y1 5 ?_;refine Yf O ad (fd.mono (Vc (Ug _ x.num y.num) UH) (fun _ _ h=>⟨fun _=>by obtain ⟨rfl,i⟩:=h;exact dw.of_below i,h⟩)) ?_;rintro _ w7 ⟨rfl,i⟩;have e:=e.bw i;have g:=g.bw i;have k:=kj k i;refine Y1 6<|Yf O ad (fd.mono (Vc (yz _ bV f e (ir x.num y.num)) zL) (fun _ _ h=>⟨fun _=>by obtain ⟨rfl,hK,aB⟩:=h;exact hK.keep,h⟩)) ?_;rintro _ w8 ⟨rfl,hK,aB⟩;have ⟨wm,hO,hm,i⟩:=hK.mid;clear hm;have t:=e;have g:=g.oz hO t O;have k:=k.self hO;have g:=g.bw i;have k:=kj k i;clear t i hO hK;have e:=aB;clear aB;refine Y1 12<|Yf O ad (fd.mono (Vc (E3 _ (co (ir x.num y.num)) (x.exp+y.exp) O0) Jx) (fun _ _ h=>⟨fun _=>by obtain ⟨rfl,i⟩:=h;exact dw.of_below i,h⟩)) ?_;rintro _ w9 ⟨rfl,i⟩;have e:=e.bw i;have g:=g.bw i;have k:=kj k i;refine Y1 13<|Yh O ad O (Vw [vi ((Yn x y).num.a),vi ((Yn x y).num.b),vi ((Yn x y).num.c),vi ((Yn x y).num.d),vi ((Yn x y).exp)] Xm g) ?_;intro _ aS ⟨q,hb⟩;have e:=e.oz q g O;have k:=cn.oy k q p;have g:=hb;refine Yd fun a o=>aD _ _<|Q6 (X4 o (Xu o O (an.cellN (l:=[vi ((Yn x y).num.a),vi ((Yn x y).num.b),vi ((Yn x y).num.c),vi ((Yn x y).num.d),vi ((Yn x y).exp)]) O Xa (g.at 0) O)) ?_);exact ⟨by rw[fq,Q3 hm],k,by rw[fq,Q3 hm];exact e⟩
def yg(w0:World)(bV:Nat)(f:Bool)(e:al w0 bV 137 [.bool f])(x:Dy)(y:Dy)(hx:0<=x.exp/\x.exp<=60)(hy:0<=y.exp/\y.exp<=60):RE 141 [(ae bV),.agg #[vi x.num.a,vi x.num.b,vi x.num.c,vi x.num.d,vi x.exp],.agg #[vi y.num.a,vi y.num.b,vi y.num.c,vi y.num.d,vi y.exp]] w0 (fun v w=>v=dV ((jt f x y).2)/\cn bV w0.heap.size w0 w/\al w bV 137 [.bool ((jt f x y).1)]):=by
 have aY:=e.lt;refine enter func141 O 45 O O ?_;intro a u
 have p:cn bV w0.heap.size w0 w0:=cn.refl _ _ _
 refine ZS u fun aP=>Zf (bt (zs:=[vi x.num.a,vi x.num.b,vi x.num.c,vi x.num.d,vi x.exp]) O O) ?_;rintro _ w1 ⟨b2,rfl,aQ,n,g⟩;have aD:=Q0 p.size aQ;have e:=e.bw n;have p:=kj p n;refine Zf (bt (zs:=[vi y.num.a,vi y.num.b,vi y.num.c,vi y.num.d,vi y.exp]) O O) ?_;rintro _ w2 ⟨b3,rfl,aR,n,k⟩
 have aM:b2≠b3:=by have:=g.lt;omega
 have aE:=Q0 p.size aR;have e:=e.bw n;have g:=g.bw n;have p:=kj p n;refine Zf (Xi (zs:=[vi 0,vi 0,vi 0,vi 0,vi 0]) iu O) ?_;rintro _ w3 ⟨b4,rfl,aS,n,i⟩
 have aN:b2≠b4:=by have:=g.lt;omega
 have aO:b3≠b4:=by have:=k.lt;omega
 have aF:=Q0 p.size aS;have ⟨e,g,k⟩:=bh n e g k;have p:=kj p n;refine ZX aP fun a u _ aT=>Q8<|Xw (σ:=Bool×Dy) (fun (s:Bool×Dy) (a:Act) (w:World)=>match s with|(G,m)=>Fr a 45 [(0,(ae bV)),(4,(ae b2)),(5,(ae b3)),(6,(ae b4))]/\(bi (y.exp-m.exp).toNat G m=bi (y.exp-x.exp).toNat f x)/\(0<=m.exp/\m.exp<=60)/\al w bV 137 [.bool G]/\al w b2 147 [vi m.num.a,vi m.num.b,vi m.num.c,vi m.num.d,vi m.exp]/\al w b3 147 [vi y.num.a,vi y.num.b,vi y.num.c,vi y.num.d,vi y.exp]/\al w b4 147 [vi 0,vi 0,vi 0,vi 0,vi 0]/\cn bV w0.heap.size w0 w) (fun (s:Bool×Dy)=>match s with|(G,m)=>(y.exp-m.exp).toNat) (f,x) ?_ ?_
 ·exact ⟨u.sb,O,hx,e,g,k,i,p⟩
 rintro ⟨G,m⟩ a w4 ⟨u,H,aZ,e,g,k,i,p⟩;refine Q5 fun _ aU=>ZS u fun aW=>Ze (Vd O oJ 4)<|Ze (X0 O X8 (g.at 4))<|Ze (Vd O oJ 4)<|Ze (X0 O X8 (k.at 4))<|Ze (ew O O)<|Zt aW fun a u=>eh u O (fun aG aA=>?_) (fun aG aA=>?_)
 ·have aB:m.exp<y.exp:=aA
  refine Q7<|aU _ _<|Q8<|gx (some bV) (fun j=>[9].contains j) mixed ?_;intro w5 n;have ⟨e,g,k,i⟩:=dk n e g k i;have p:=kj p n;refine Yb u<|Yo 0 O (fun _=>X7 O)<|Yo 1 O (fun _=>Vd O pG 0)<|Yw 2 O ad (fun w1 B=>Xt (l:=[vi m.num.a,vi m.num.b,vi m.num.c,vi m.num.d]) O g9 (((g.oz B e O).at 0).take 4) O)<|Yo 5 O (fun _=>Vd O oJ 4)<|Yw 6 O ad (fun w1 B=>X0 O X8 ((g.oz B e O).at 4)) ?_;refine Yo 7 O (fun _=>Xs O O O0 O0)<|Y1 3 ?_;refine Yf O ad (fd.mono (Vc (CB _ m.num) Dp) (fun _ _ h=>⟨fun _=>by obtain ⟨rfl,n⟩:=h;exact dw.of_below n,h⟩)) ?_;rintro _ w6 ⟨rfl,n⟩;have ⟨e,g,k,i⟩:=dk n e g k i;have p:=kj p n;refine Y1 4<|Yf O ad (fd.mono (Vc (yz _ bV G e (aw m.num)) zL) (fun _ _ h=>⟨fun _=>by obtain ⟨rfl,A,t⟩:=h;exact A.keep,h⟩)) ?_;rintro _ w7 ⟨rfl,A,t⟩;obtain ⟨wm,z,hm,n⟩:=A.mid;clear hm;have q:=e;have g:=g.oz z q O;have k:=k.oz z q O;have i:=i.oz z q O;have p:=p.self z;have ⟨g,k,i⟩:=bh n g k i;have p:=kj p n
  clear q n z A;have e:=t;clear t;refine Yo 8 O (fun _=>Xg (ps:=[(0,.agg #[vi ((co (aw m.num)).a),vi ((co (aw m.num)).b),vi ((co (aw m.num)).c),vi ((co (aw m.num)).d)]),(1,vi (m.exp+1))]) (cs:=[vi ((co (aw m.num)).a),vi ((co (aw m.num)).b),vi ((co (aw m.num)).c),vi ((co (aw m.num)).d),vi (m.exp+1)]) O (fun _=>by first|rfl|kernel_rfl))<|Y1 9<|Yh O ad O (Vw [vi ((co (aw m.num)).a),vi ((co (aw m.num)).b),vi ((co (aw m.num)).c),vi ((co (aw m.num)).d),vi (m.exp+1)] Xm g) ?_;rintro _ w8 ⟨C,hb⟩;have e:=e.oz C g O;have k:=k.oy C O0;have i:=i.oy C O0;have p:=cn.oy p C aD;have g:=hb;exact Yd fun a u=>Xk<|Xb<|⟨(G||!fu (aw m.num),⟨co (aw m.num),m.exp+1⟩),⟨u.sb,(JW H aB),O8,e,g,k,i,p⟩,O3⟩
 have aH:=EM H aA;refine Q9<|Xf<|Xf<|Xv<|aT _ _<|Q5 fun _ aX=>Q8<|Xw (σ:=Bool×Dy) (fun (s:Bool×Dy) (a:Act) (w:World)=>match s with|(f2,o)=>Fr a 45 [(0,(ae bV)),(4,(ae b2)),(5,(ae b3)),(6,(ae b4))]/\(bi (m.exp-o.exp).toNat f2 o=bi (m.exp-y.exp).toNat G y)/\(0<=o.exp/\o.exp<=60)/\al w bV 137 [.bool f2]/\al w b2 147 [vi m.num.a,vi m.num.b,vi m.num.c,vi m.num.d,vi m.exp]/\al w b3 147 [vi o.num.a,vi o.num.b,vi o.num.c,vi o.num.d,vi o.exp]/\al w b4 147 [vi 0,vi 0,vi 0,vi 0,vi 0]/\cn bV w0.heap.size w0 w) (fun (s:Bool×Dy)=>match s with|(f2,o)=>(m.exp-o.exp).toNat) (G,y) ?_ ?_
 ·exact ⟨u.sb,O,hy,e,g,k,i,p⟩
 rintro ⟨f2,o⟩ a w9 ⟨u,D,b0,e,g,k,i,p⟩;refine Q5 fun _ aI=>ZS u fun aJ=>Ze (Vd O oJ 4)<|Ze (X0 O X8 (k.at 4))<|Ze (Vd O oJ 4)<|Ze (X0 O X8 (g.at 4))<|Ze (ew O O)<|Zt aJ fun a u=>eh u O (fun aC E=>?_) (fun aC E=>?_)
 ·have aB:o.exp<m.exp:=E
  refine Q7<|aI _ _<|Q8<|gx (some bV) (fun j=>[9].contains j) mixed ?_;intro b1 n;have ⟨e,g,k,i⟩:=dk n e g k i;have p:=kj p n;refine Yb u<|Yo 0 O (fun _=>X7 O)<|Yo 1 O (fun _=>Vd O pG 0)<|Yw 2 O ad (fun w1 B=>Xt (l:=[vi o.num.a,vi o.num.b,vi o.num.c,vi o.num.d]) O g9 (((k.oz B e O).at 0).take 4) O)<|Yo 5 O (fun _=>Vd O oJ 4)<|Yw 6 O ad (fun w1 B=>X0 O X8 ((k.oz B e O).at 4)) ?_;refine Yo 7 O (fun _=>Xs O O O0 O0)<|Y1 3 ?_;refine Yf O ad (fd.mono (Vc (CB _ o.num) Dp) (fun _ _ h=>⟨fun _=>by obtain ⟨rfl,n⟩:=h;exact dw.of_below n,h⟩)) ?_;rintro _ b5 ⟨rfl,n⟩;have ⟨e,g,k,i⟩:=dk n e g k i;have p:=kj p n;refine Y1 4<|Yf O ad (fd.mono (Vc (yz _ bV f2 e (aw o.num)) zL) (fun _ _ h=>⟨fun _=>by obtain ⟨rfl,A,t⟩:=h;exact A.keep,h⟩)) ?_;rintro _ b6 ⟨rfl,A,t⟩;obtain ⟨wm,z,hm,n⟩:=A.mid;clear hm;have q:=e;have g:=g.oz z q O;have k:=k.oz z q O;have i:=i.oz z q O;have p:=p.self z;have ⟨g,k,i⟩:=bh n g k i;have p:=kj p n
  clear q n z A;have e:=t;clear t;refine Yo 8 O (fun _=>Xg (ps:=[(0,.agg #[vi ((co (aw o.num)).a),vi ((co (aw o.num)).b),vi ((co (aw o.num)).c),vi ((co (aw o.num)).d)]),(1,vi (o.exp+1))]) (cs:=[vi ((co (aw o.num)).a),vi ((co (aw o.num)).b),vi ((co (aw o.num)).c),vi ((co (aw o.num)).d),vi (o.exp+1)]) O (fun _=>by first|rfl|kernel_rfl))<|Y1 9<|Yh O ad O (Vw [vi ((co (aw o.num)).a),vi ((co (aw o.num)).b),vi ((co (aw o.num)).c),vi ((co (aw o.num)).d),vi (o.exp+1)] Xm k) ?_;rintro _ b7 ⟨C,hb⟩;have e:=e.oz C k O;have g:=g.oy C O0;have i:=i.oy C O0;have p:=cn.oy p C aE;have k:=hb;exact Yd fun a u=>Xk<|Xb<|⟨(f2||!fu (aw o.num),⟨co (aw o.num),o.exp+1⟩),⟨u.sb,(JW D aB),O8,e,g,k,i,p⟩,O3⟩
 have aK:=EM D E;refine Q9<|Xf<|Xf<|Xv<|aX _ _<|Q5 fun _ aL=>gx (some bV) (fun j=>[10].contains j) mixed ?_;intro b8 n;have ⟨e,g,k,i⟩:=dk n e g k i;have p:=kj p n;refine Yb u<|Yo 0 O (fun _=>X7 O)<|Yo 1 O (fun _=>Vd O pG 0)<|Yw 2 O ad (fun w1 B=>Xt (l:=[vi m.num.a,vi m.num.b,vi m.num.c,vi m.num.d]) O g9 (((g.oz B e O).at 0).take 4) O)<|Yo 3 O (fun _=>Vd O pG 0)<|Yw 4 O ad (fun w1 B=>Xt (l:=[vi o.num.a,vi o.num.b,vi o.num.c,vi o.num.d]) O g9 (((k.oz B e O).at 0).take 4) O)<|Yo 7 O (fun _=>Vd O oJ 4)<|Yw 8 O ad (fun w1 B=>X0 O X8 ((g.oz B e O).at 4)) ?_;refine Y1 5<|Yf O ad (fd.mono (Vc (SA _ m.num o.num) UT) (fun _ _ h=>⟨fun _=>by obtain ⟨rfl,n⟩:=h;exact dw.of_below n,h⟩)) ?_;rintro _ b9 ⟨rfl,n⟩;have e:=e.bw n;have i:=i.bw n;have p:=kj p n;refine Y1 6<|Yf O ad (fd.mono (Vc (yz _ bV f2 e (ig m.num o.num)) zL) (fun _ _ h=>⟨fun _=>by obtain ⟨rfl,A,t⟩:=h;exact A.keep,h⟩)) ?_;rintro _ bC ⟨rfl,A,t⟩;obtain ⟨wm,z,hm,n⟩:=A.mid;clear hm;have q:=e;have i:=i.oz z q O;have p:=p.self z;have i:=i.bw n;have p:=kj p n
 clear q n z A;have e:=t;clear t;refine Y1 9<|Yf O ad (fd.mono (Vc (E3 _ (co (ig m.num o.num)) m.exp O0) Jx) (fun _ _ h=>⟨fun _=>by obtain ⟨rfl,n⟩:=h;exact dw.of_below n,h⟩)) ?_;rintro _ bD ⟨rfl,n⟩;have e:=e.bw n;have i:=i.bw n;have p:=kj p n;refine Y1 10<|Yh O ad O (Vw [vi ((ip (co (ig m.num o.num)) m.exp).num.a),vi ((ip (co (ig m.num o.num)) m.exp).num.b),vi ((ip (co (ig m.num o.num)) m.exp).num.c),vi ((ip (co (ig m.num o.num)) m.exp).num.d),vi ((ip (co (ig m.num o.num)) m.exp).exp)] Xm i) ?_;rintro _ bE ⟨C,hb⟩;have e:=e.oz C i O;have p:=cn.oy p C aF;have i:=hb;refine Yd fun a u=>?_;refine aL _ _<|Q6 (X4 u (Xu u O (an.cellN (l:=[vi ((ip (co (ig m.num o.num)) m.exp).num.a),vi ((ip (co (ig m.num o.num)) m.exp).num.b),vi ((ip (co (ig m.num o.num)) m.exp).num.c),vi ((ip (co (ig m.num o.num)) m.exp).num.d),vi ((ip (co (ig m.num o.num)) m.exp).exp)]) O Xa (i.at 0) O)) ?_)
 exact ⟨by rw[jt,aH];dsimp only;rw[aK],p,by rw[jt,aH];dsimp only;rw[aK];exact e⟩
def vD(w0:World)(n:Int)(s:Int)(q:Int)(h0:0<=q)(h1:q<n)(h2:n<=5):RE 156 [vi n,vi s,vi q] w0 (fun v w=>v=vi (d_ n s q)/\w0=w):=by
 refine enter func156 O 14 O O ?_;intro a hf;have hW:=bz w0;refine ZS hf fun aA=>Za O<|Zx aA fun a hf _ aB=>Zm O<|Zm O<|Ze (ld O O O0 O0)<|Zm O<|Ze (ld O O O0 O0)<|Ze (I9 (m:=(n-1-q).toNat) O O O0 O0)<|Ze (BW O O)<|Za O<|Zt aB fun a hf=>Q6 (X4 hf (Xu hf O O) ?_);exact ⟨O,O⟩
def zP(w0:World)(n:Int)(s:Int)(q:Int)(h0:0<=q)(h1:q<n)(h2:n<=5):RE 157 [vi n,vi s,vi q] w0 (fun v w=>v=vi (kg n s q)/\w0=w):=by
 refine enter func157 O 14 O O ?_;intro a hf;have hW:=bz w0;refine ZS hf fun aA=>Za O<|Zx aA fun a hf _ aB=>Zm O<|Zm O<|Ze (ld O O O0 O0)<|Zm O<|Ze (ld O O O0 O0)<|Ze (wU (m:=(n-1-q).toNat) O O O0 O0)<|Ze (xp O O)<|Za O<|Zt aB fun a hf=>Q6 (X4 hf (Xu hf O O) ?_);exact ⟨O,O⟩
def vp(w0:World)(n:Int)(s:Int)(q:Int)(h0:0<=q)(h1:q<n)(h2:n<=5):RE 184 [vi n,vi s,vi q] w0 (fun v w=>v=vi (d_ n s q)/\w0=w):=by
 refine enter func184 O 15 O O ?_;intro a hf;have hW:=bz w0;refine ZS hf fun aA=>Za O<|Zx aA fun a hf _ aB=>Zm O<|Zm O<|Ze (ld O O O0 O0)<|Zm O<|Ze (ld O O O0 O0)<|Ze (ui (m:=(n-1-q).toNat) underlying3 underlying139 O O0 O0)<|Ze (I9 (m:=(n-1-q).toNat) O O O O0)<|Ze (BW O O)<|Za O<|Zt aB fun a hf=>Q6 (X4 hf (Xu hf O O) ?_);exact ⟨O,O⟩
def J3(w0:World)(k:Int)(hk:1<=k/\k<=8):RE 185 [vi k] w0 (fun v w=>∃ A c,v=.slice A (km k).length c/\ah w w0.heap.size 147 5 ai A c (km k)/\Bl w0 w):=by
 refine enter func185 O 43 O O ?_;intro a j;have i:=bz w0;refine ZS j fun bF=>Za O<|Zx bF fun a j _ bG=>Zf (Vc (ux _ 0) uj) ?_;rintro _ w1 ⟨rfl,g⟩;have i:=aa i g;refine Ze (Xg (ps:=[]) (cs:=[vi 0,vi 0,vi 0,vi 0,vi 0]) O (fun _=>by first|rfl|kernel_rfl))<|Zf (Xi (zs:=[vi 0,vi 0,vi 0,vi 0,vi 0]) iu O) ?_;rintro _ w2 ⟨b4,rfl,bH,g,e⟩;have aF:=Q0 i.size bH;have i:=aa i g;refine Zf (Xi (zs:=[vi 0,vi 0,vi 0,vi 0,vi 0]) iu O) ?_;rintro _ w3 ⟨b5,rfl,bI,g,f⟩;have bC:b4≠b5:=by have:=e.lt;omega
 have aG:=Q0 i.size bI;have e:=e.bw g;have i:=aa i g;refine Zo (Vw [vi ((ac 0).num.a),vi ((ac 0).num.b),vi ((ac 0).num.c),vi ((ac 0).num.d),vi ((ac 0).exp)] Xm e) ?_;intro _ w4 ⟨ho,hb⟩;have f:=f.oy ho O0;have i:=Below.oy i ho aF;have e:=hb;refine Zo (Vw [vi 0,vi 0,vi 0,vi 0,vi 0] Xm f) ?_;intro _ w5 ⟨ho,hb⟩;have e:=e.oy ho O0;have i:=Below.oy i ho aG;have f:=hb;refine Zx bG fun a j _ bJ=>Ze (Xg (ps:=[(0,vi 1)]) (cs:=[vi 1,vi 0,vi 0,vi 0]) O (fun _=>by first|rfl|kernel_rfl))<|Ze (Xg (ps:=[(0,.agg #[vi 1,vi 0,vi 0,vi 0]),(1,vi 1)]) (cs:=[vi 1,vi 0,vi 0,vi 0,vi 1]) O (fun _=>by first|rfl|kernel_rfl))<|ZB [vi 1,vi 0,vi 0,vi 0,vi 1] iu Xm fun b7 w7 bK g m=>?_;have bD:b4≠b7:=by have:=e.lt;omega
 have bE:b5≠b7:=by have:=f.lt;omega
 have bO:=Q0 i.size bK;have ⟨e,f,i⟩:=bh g e f i;refine ZX bJ fun a j _ bL=>ZS j fun bM=>Zm O<|Zt bM fun a j=>Q8<|ZS j fun aH=>Ze (go O O)<|Za O<|Zt aH fun a j=>Xz j O ?_ ?_<;>intro n
 ·have q:k=1:=by simpa using n
  refine Q5 fun _ aI=>gx none (fun _=>false) mixed ?_;intro w8 g;have ⟨e,f,m,i⟩:=dk g e f m i;refine Yb j<|Ye 0 O (Vn Xa m)<|Ye 1 O (Vn Xa m)<|Ye 2 O (Vn Xa m)<|Ye 3 O (Vn Xa m)<|Y1 4<|Yk O ad (Vc (M8 _ (⟨(⟨1,0,0,0⟩ : Rg),1⟩ : Dy)) Tb) (fun _ _ ⟨_,g⟩=>g) ?_;rintro _ w9 ⟨rfl,g⟩;have ⟨e,f,m,i⟩:=dk g e f m i;refine Y1 5<|Yk O ad (X6 (k:=4) (vs:=[.agg #[vi 1,vi 0,vi 0,vi 0,vi 1],.agg #[vi 1,vi 0,vi 0,vi 0,vi 1],.agg #[vi 1,vi 0,vi 0,vi 0,vi 1],.agg #[vi ((oU (⟨(⟨1,0,0,0⟩ : Rg),1⟩ : Dy)).num.a),vi ((oU (⟨(⟨1,0,0,0⟩ : Rg),1⟩ : Dy)).num.b),vi ((oU (⟨(⟨1,0,0,0⟩ : Rg),1⟩ : Dy)).num.c),vi ((oU (⟨(⟨1,0,0,0⟩ : Rg),1⟩ : Dy)).num.d),vi ((oU (⟨(⟨1,0,0,0⟩ : Rg),1⟩ : Dy)).exp)]]) (zs:=[vi 1,vi 0,vi 0,vi 0,vi 1,vi 1,vi 0,vi 0,vi 0,vi 1,vi 1,vi 0,vi 0,vi 0,vi 1,vi ((oU (⟨(⟨1,0,0,0⟩ : Rg),1⟩ : Dy)).num.a),vi ((oU (⟨(⟨1,0,0,0⟩ : Rg),1⟩ : Dy)).num.b),vi ((oU (⟨(⟨1,0,0,0⟩ : Rg),1⟩ : Dy)).num.c),vi ((oU (⟨(⟨1,0,0,0⟩ : Rg),1⟩ : Dy)).num.d),vi ((oU (⟨(⟨1,0,0,0⟩ : Rg),1⟩ : Dy)).exp)]) O gv my O O) (fun _ _ ⟨_,_,_,h,_⟩=>h) ?_;rintro _ bP ⟨b13,rfl,aJ,g,aK⟩;have aL:b4≠b13:=by have:=e.lt;omega
  have aM:b5≠b13:=by have:=f.lt;omega
  have aN:b7≠b13:=by have:=m.lt;omega
  have aA:=Q0 i.size aJ;have i:=aa i g;exact Yo 6 O (fun _=>kk O)<|Yd fun a j=>aI _ _<|Q6<|Xn<|X3<|X4 j (Xu j O O)<|⟨(some ⟨b13,0,none⟩),4,by rw[km,Q4 q];rfl,by rw[km,Q4 q];exact (ah.of_blkL kb aK aA rfl rfl O2),i⟩
 have q:¬ k=1:=by simpa using n
 refine ZS j fun aO=>Ze (go O O)<|Za O<|Zt aO fun a j=>Xz j O ?_ ?_<;>intro o
 ·have e2:k=2:=by simpa using o
  refine ZS j fun aP=>Ze (Vn Xa f)<|Ze (Vn Xa e)<|Ze (Vn Xa e)<|Ze (Vn Xa f)<|Zf (X6 (k:=4) (vs:=[.agg #[vi 0,vi 0,vi 0,vi 0,vi 0],.agg #[vi ((ac 0).num.a),vi ((ac 0).num.b),vi ((ac 0).num.c),vi ((ac 0).num.d),vi ((ac 0).exp)],.agg #[vi ((ac 0).num.a),vi ((ac 0).num.b),vi ((ac 0).num.c),vi ((ac 0).num.d),vi ((ac 0).exp)],.agg #[vi 0,vi 0,vi 0,vi 0,vi 0]]) (zs:=[vi 0,vi 0,vi 0,vi 0,vi 0,vi ((ac 0).num.a),vi ((ac 0).num.b),vi ((ac 0).num.c),vi ((ac 0).num.d),vi ((ac 0).exp),vi ((ac 0).num.a),vi ((ac 0).num.b),vi ((ac 0).num.c),vi ((ac 0).num.d),vi ((ac 0).exp),vi 0,vi 0,vi 0,vi 0,vi 0]) O gv my O O) ?_;rintro _ bQ ⟨b18,rfl,aQ,g,aR⟩;have aS:b4≠b18:=by have:=e.lt;omega
  have aT:b5≠b18:=by have:=f.lt;omega
  have aB:=Q0 i.size aQ;have i:=aa i g;exact Za O<|Zt aP fun a j=>Q6<|Xn<|X3<|X4 j (Xu j O O)<|⟨(some ⟨b18,0,none⟩),4,by rw[km,Q3 q,Q4 e2];rfl,by rw[km,Q3 q,Q4 e2];exact (ah.of_blkL kb aR aB rfl rfl O2),i⟩
 have e2:¬ k=2:=by simpa using o
 refine ZS j fun aU=>Ze (go O O)<|Za O<|Zt aU fun a j=>Xz j O ?_ ?_<;>intro p
 ·have e3:k=3:=by simpa using p
  refine Q5 fun _ aW=>gx none (fun _=>false) mixed ?_;intro bR g;have ⟨e,f,i⟩:=bh g e f i;refine Yb j<|Ye 0 O (Vn Xa f)<|Ye 3 O (Vn Xa f)<|Y1 1<|Yk O ad (Vc (ux _ 6) uj) (fun _ _ ⟨_,g⟩=>g) ?_;rintro _ bS ⟨rfl,g⟩;have ⟨e,f,i⟩:=bh g e f i;refine Y1 2<|Yk O ad (Vc (ux _ 2) uj) (fun _ _ ⟨_,g⟩=>g) ?_;rintro _ bU ⟨rfl,g⟩;have ⟨e,f,i⟩:=bh g e f i;refine Y1 4<|Yk O ad (X6 (k:=4) (vs:=[.agg #[vi 0,vi 0,vi 0,vi 0,vi 0],.agg #[vi ((ac 6).num.a),vi ((ac 6).num.b),vi ((ac 6).num.c),vi ((ac 6).num.d),vi ((ac 6).exp)],.agg #[vi ((ac 2).num.a),vi ((ac 2).num.b),vi ((ac 2).num.c),vi ((ac 2).num.d),vi ((ac 2).exp)],.agg #[vi 0,vi 0,vi 0,vi 0,vi 0]]) (zs:=[vi 0,vi 0,vi 0,vi 0,vi 0,vi ((ac 6).num.a),vi ((ac 6).num.b),vi ((ac 6).num.c),vi ((ac 6).num.d),vi ((ac 6).exp),vi ((ac 2).num.a),vi ((ac 2).num.b),vi ((ac 2).num.c),vi ((ac 2).num.d),vi ((ac 2).exp),vi 0,vi 0,vi 0,vi 0,vi 0]) O gv my O O) (fun _ _ ⟨_,_,_,h,_⟩=>h) ?_;rintro _ bW ⟨b23,rfl,aX,g,aY⟩;have aZ:b4≠b23:=by have:=e.lt;omega
  have b0:b5≠b23:=by have:=f.lt;omega
  have aC:=Q0 i.size aX;have i:=aa i g;exact Yo 5 O (fun _=>kk O)<|Yd fun a j=>aW _ _<|Q6<|Xn<|X3<|X4 j (Xu j O O)<|⟨(some ⟨b23,0,none⟩),4,by rw[km,Q3 q,Q3 e2,Q4 e3];rfl,by rw[km,Q3 q,Q3 e2,Q4 e3];exact (ah.of_blkL kb aY aC rfl rfl O2),i⟩
 have e3:¬ k=3:=by simpa using p
 refine Q7<|Xk<|bL _ _<|Q5 fun _ b1=>gx none (fun _=>false) mixed ?_;intro bZ g;have ⟨e,f,i⟩:=bh g e f i;refine Yb j<|Ye 0 O (Vn Xa e)<|Ye 1 O (Vn Xa f)<|Ye 2 O (Vn Xa f)<|Yo 4 O (fun _=>X7 O)<|Yo 5 O (fun _=>ld O O O0 O0)<|Y1 3<|Yk O ad (X6 (k:=5) (vs:=[vi 4,vi 2,vi 6,vi 1,vi 7]) (zs:=[vi 4,vi 2,vi 6,vi 1,vi 7]) O gq pD O O) (fun _ _ ⟨_,_,_,h,_⟩=>h) ?_;rintro _ cA ⟨cB,rfl,b2,g,t⟩;have bN:=Q0 i.size b2;have ⟨e,f,i⟩:=bh g e f i;refine Yi (k:=(k-4).toNat) (u:=(dz k)) (enc:=bk) (l:=[4,2,6,1,7]) 6 O ad O O gq jw kp (Rd.of_blk t O _ t.lt) (OM O0 O0) O0 ?_;intro cC aD;refine Ye 7 O (X0 O X8 aD)<|Y1 8<|Yk O ad (Vc (ux _ (dz k)) uj) (fun _ _ ⟨_,g⟩=>g) ?_;rintro _ cD ⟨rfl,g⟩;have ⟨e,f,i⟩:=bh g e f i;refine Y1 9<|Yk O ad (X6 (k:=4) (vs:=[.agg #[vi ((ac 0).num.a),vi ((ac 0).num.b),vi ((ac 0).num.c),vi ((ac 0).num.d),vi ((ac 0).exp)],.agg #[vi 0,vi 0,vi 0,vi 0,vi 0],.agg #[vi 0,vi 0,vi 0,vi 0,vi 0],.agg #[vi ((ac (dz k)).num.a),vi ((ac (dz k)).num.b),vi ((ac (dz k)).num.c),vi ((ac (dz k)).num.d),vi ((ac (dz k)).exp)]]) (zs:=[vi ((ac 0).num.a),vi ((ac 0).num.b),vi ((ac 0).num.c),vi ((ac 0).num.d),vi ((ac 0).exp),vi 0,vi 0,vi 0,vi 0,vi 0,vi 0,vi 0,vi 0,vi 0,vi 0,vi ((ac (dz k)).num.a),vi ((ac (dz k)).num.b),vi ((ac (dz k)).num.c),vi ((ac (dz k)).num.d),vi ((ac (dz k)).exp)]) O gv my O O) (fun _ _ ⟨_,_,_,h,_⟩=>h) ?_;rintro _ cE ⟨b30,rfl,b3,g,b6⟩;have b8:b4≠b30:=by have:=e.lt;omega
 have b9:b5≠b30:=by have:=f.lt;omega
 have aE:=Q0 i.size b3;have i:=aa i g;refine Yo 10 O (fun _=>kk O)<|Yd fun a j=>b1 _ _<|Q6 (X4 j (Xu j O O) ?_);exact ⟨(some ⟨b30,0,none⟩),4,by rw[km,Q3 q,Q3 e2,Q3 e3];rfl,by rw[km,Q3 q,Q3 e2,Q3 e3];exact (ah.of_blkL kb b6 aE rfl rfl O2),i⟩
abbrev ZK:=fun (a:Gt) b c d=>(km a.k).getD (2*d_ b c a.a+d_ b d a.a).toNat dZ
theorem Li(w0:World)(n:Int)(g:Gt)(row:Int)(col:Int)(hg:gp n g=true):RE 143 [vi n,.agg #[vi g.k,vi g.a,vi g.b],vi row,vi col] w0 (fun v w=>v=dV (cu n g row col)/\Bl w0 w):=by
 have cR:=qe hg;have cS:=ti n row g.a;have cT:=ti n col g.a;refine enter func143 O 119 O O ?_;intro a f;have o:=bz w0;refine ZS f fun cE=>Zf (bt (zs:=[vi g.k,vi g.a,vi g.b]) O O) ?_;rintro _ w1 ⟨b2,rfl,cF,h,p⟩;have cQ:=Q0 o.size cF;have o:=aa o h;refine Zf (Xi (zs:=[vi 0,vi 0,vi 0,vi 0,vi 0]) iu O) ?_;rintro _ w2 ⟨b3,rfl,cG,h,e⟩;have y:=Q0 o.size cG;have p:=p.bw h;have o:=aa o h;refine Zx cE fun a f _ cH=>Zf (Vc (ux _ 0) uj) ?_;rintro _ w3 ⟨rfl,h⟩;have ⟨p,e,o⟩:=bh h p e o;refine Ze (Xg (ps:=[]) (cs:=[vi 0,vi 0,vi 0,vi 0,vi 0]) O (fun _=>by first|rfl|kernel_rfl))<|Zf (Xi (zs:=[vi 0,vi 0,vi 0,vi 0,vi 0]) iu O) ?_;rintro _ w4 ⟨b5,rfl,cI,h,x⟩;have cB:b3≠b5:=by have:=e.lt;omega
 have M:=Q0 o.size cI;have ⟨p,e,o⟩:=bh h p e o;refine Zf (Xi (zs:=[vi 0,vi 0,vi 0,vi 0,vi 0]) iu O) ?_;rintro _ w5 ⟨b6,rfl,cJ,h,t⟩;have cC:b3≠b6:=by have:=e.lt;omega
 have cD:b5≠b6:=by have:=x.lt;omega
 have aK:=Q0 o.size cJ;have ⟨p,e,x,o⟩:=dk h p e x o;refine Zo (Vw [vi ((ac 0).num.a),vi ((ac 0).num.b),vi ((ac 0).num.c),vi ((ac 0).num.d),vi ((ac 0).exp)] Xm x) ?_;intro _ w6 ⟨z,A⟩;have p:=p.oz z x O;have e:=e.oy z O0;have t:=t.oy z O0;have o:=Below.oy o z M;have x:=A;refine Zo (Vw [vi 0,vi 0,vi 0,vi 0,vi 0] Xm t) ?_;intro _ w7 ⟨z,A⟩;have p:=p.oz z t O;have e:=e.oy z O0;have x:=x.oy z O0;have o:=Below.oy o z aK;have t:=A;refine Zx cH fun a f _ cK=>Zm O<|Za O<|ZX cK fun a f _ I=>ZS f fun cM=>Ze (Vd O mo 0)<|Ze (X0 O X8 (p.at 0))<|Zt cM fun a f=>Q8<|ZS f fun aL=>Ze (go O O)<|Za O<|Zt aL fun a f=>Xz f O ?_ ?_<;>intro C
 ·have J:=eq_of_beq C;have G:¬ g.k<=8:=by omega
  have B:nt n g col=col:=by simp[nt,J]
  have N:ll n g col=ac 1:=by simp[ll,J]
  refine Zr f<|Zf (Vc (ux _ 1) uj) ?_;rintro _ w8 ⟨rfl,h⟩;have ⟨e,x,t,o⟩:=dk h e x t o;refine Zo (Vw [vi ((ac 1).num.a),vi ((ac 1).num.b),vi ((ac 1).num.c),vi ((ac 1).num.d),vi ((ac 1).exp)] Xm x) ?_;intro _ w9 ⟨z,A⟩;have e:=e.oy z O0;have t:=t.oy z O0;have o:=Below.oy o z M;have x:=A;refine Zn fun a f=>Xk<|I _ _<|Q5 fun _ aM=>ZS f fun aN=>Zm O<|Zm O<|Ze (go O O)<|Zt aN fun a f=>Xz f O ?_ ?_<;>intro Q
  ·have i:cu n g row col=ll n g col:=by rw[cu,Q3 G,Q4 ((eq_of_beq Q).trans B.symm)]
   rw[N] at i;refine ZS f fun aO=>Ze (Vn Xa x)<|Zo (Vw [vi ((ac 1).num.a),vi ((ac 1).num.b),vi ((ac 1).num.c),vi ((ac 1).num.d),vi ((ac 1).exp)] Xm e) ?_;intro _ cU ⟨z,A⟩;have o:=Below.oy o z y;have e:=A;exact Zt aO fun a f=>Q6<|X3<|X4 f (Xu f O (an.cellN (l:=[vi ((ac 1).num.a),vi ((ac 1).num.b),vi ((ac 1).num.c),vi ((ac 1).num.d),vi ((ac 1).exp)]) O Xa (e.at 0) O))<|⟨(by rw[i];try rfl),o⟩
  have i:cu n g row col=dZ:=by rw[cu,Q3 G,Q3 (fun L=>q' Q (L.trans B))]
  refine Q7<|aM _ _<|ZS f fun aP=>Ze (Vn Xa t)<|Zo (Vw [vi 0,vi 0,vi 0,vi 0,vi 0] Xm e) ?_;intro _ cV ⟨z,A⟩;have o:=Below.oy o z y;have e:=A;refine Zt aP fun a f=>Q6 (X4 f (Xu f O (an.cellN (l:=[vi 0,vi 0,vi 0,vi 0,vi 0]) O Xa (e.at 0) O)) ?_);exact ⟨(by rw[i];try rfl),o⟩
 have cW:=q' C;refine ZS f fun aQ=>Ze (go O O)<|Za O<|Zt aQ fun a f=>Xz f O ?_ ?_<;>intro D
 ·have J:=eq_of_beq D;have G:¬ g.k<=8:=by omega
  have N:ll n g col=ac 0:=by simp[ll,J]
  refine ZS f fun aR=>Zm O<|Zm O<|Ze (Vd O lm 1)<|Ze (X0 O X8 (p.at 1))<|Zf (Vc (vp _ n col g.a O0 O0 O0) ve) ?_;rintro _ _ ⟨rfl,rfl⟩;refine Ze (go O O)<|Zt aR fun a f=>Xz f O ?_ ?_<;>intro U
  ·have B:nt n g col=kg n col g.b:=by rw[nt,Q4 J,Q4 (eq_of_beq U)]
   refine Zr f<|Zm O<|Zm O<|Ze (ld O O O0 O0)<|Ze (Vd O no 2)<|Ze (X0 O X8 (p.at 2))<|Ze (ld O O O0 O0)<|Ze (ui (m:=(n-1-g.b).toNat) underlying3 underlying139 O O0 O0)<|Ze (wU (m:=(n-1-g.b).toNat) O O O O0)<|Ze (xp O O)<|Za O<|Zn fun a f=>Xk<|I _ _<|Q5 fun _ aS=>ZS f fun aT=>Zm O<|Zm O<|Ze (go O O)<|Zt aT fun a f=>Xz f O ?_ ?_<;>intro W
   ·have i:cu n g row col=ll n g col:=by rw[cu,Q3 G,Q4 ((eq_of_beq W).trans B.symm)]
    rw[N] at i;refine ZS f fun aU=>Ze (Vn Xa x)<|Zo (Vw [vi ((ac 0).num.a),vi ((ac 0).num.b),vi ((ac 0).num.c),vi ((ac 0).num.d),vi ((ac 0).exp)] Xm e) ?_;intro _ cX ⟨z,A⟩;have o:=Below.oy o z y;have e:=A;exact Zt aU fun a f=>Q6<|X3<|X4 f (Xu f O (an.cellN (l:=[vi ((ac 0).num.a),vi ((ac 0).num.b),vi ((ac 0).num.c),vi ((ac 0).num.d),vi ((ac 0).exp)]) O Xa (e.at 0) O))<|⟨(by rw[i];try rfl),o⟩
   have i:cu n g row col=dZ:=by rw[cu,Q3 G,Q3 (fun L=>q' W (L.trans B))]
   refine Q7<|aS _ _<|ZS f fun aW=>Ze (Vn Xa t)<|Zo (Vw [vi 0,vi 0,vi 0,vi 0,vi 0] Xm e) ?_;intro _ d5 ⟨z,A⟩;have o:=Below.oy o z y;have e:=A;refine Zt aW fun a f=>Q6 (X4 f (Xu f O (an.cellN (l:=[vi 0,vi 0,vi 0,vi 0,vi 0]) O Xa (e.at 0) O)) ?_);exact ⟨(by rw[i];try rfl),o⟩
  have B:nt n g col=col:=by rw[nt,Q4 J,Q3 (q' U)]
  refine Q7<|Xk<|I _ _<|Q5 fun _ aX=>ZS f fun aY=>Zm O<|Zm O<|Ze (go O O)<|Zt aY fun a f=>Xz f O ?_ ?_<;>intro aA
  ·have i:cu n g row col=ll n g col:=by rw[cu,Q3 G,Q4 ((eq_of_beq aA).trans B.symm)]
   rw[N] at i;refine ZS f fun aZ=>Ze (Vn Xa x)<|Zo (Vw [vi ((ac 0).num.a),vi ((ac 0).num.b),vi ((ac 0).num.c),vi ((ac 0).num.d),vi ((ac 0).exp)] Xm e) ?_;intro _ d6 ⟨z,A⟩;have o:=Below.oy o z y;have e:=A;exact Zt aZ fun a f=>Q6<|X3<|X4 f (Xu f O (an.cellN (l:=[vi ((ac 0).num.a),vi ((ac 0).num.b),vi ((ac 0).num.c),vi ((ac 0).num.d),vi ((ac 0).exp)]) O Xa (e.at 0) O))<|⟨(by rw[i];try rfl),o⟩
  have i:cu n g row col=dZ:=by rw[cu,Q3 G,Q3 (fun L=>q' aA (L.trans B))]
  refine Q7<|aX _ _<|ZS f fun b0=>Ze (Vn Xa t)<|Zo (Vw [vi 0,vi 0,vi 0,vi 0,vi 0] Xm e) ?_;intro _ d7 ⟨z,A⟩;have o:=Below.oy o z y;have e:=A;refine Zt b0 fun a f=>Q6 (X4 f (Xu f O (an.cellN (l:=[vi 0,vi 0,vi 0,vi 0,vi 0]) O Xa (e.at 0) O)) ?_);exact ⟨(by rw[i];try rfl),o⟩
 have h9:=q' D;refine ZS f fun b1=>Ze (go O O)<|Za O<|Zt b1 fun a f=>Xz f O ?_ ?_<;>intro E
 ·have J:=eq_of_beq E;have G:¬ g.k<=8:=by omega
  have B:nt n g col=col:=by simp[nt,J]
  refine Q5 fun _ b4=>eo (fun a w=>Fr a 119 [(2,vi row),(8,(ae b3)),(9,(ae b5)),(10,(ae b6)),(11,vi col),(82,.bool (((d_ n col g.a)==1)&&((d_ n col g.b)==1)))]/\w7=w) ?_ ?_
  ·refine Zr f<|Zm O<|Zm O<|Ze (Vd O lm 1)<|Ze (X0 O X8 (p.at 1))<|Zf (Vc (vp _ n col g.a O0 O0 O0) ve) ?_;rintro _ _ ⟨rfl,rfl⟩;refine Ze (go O O)<|Zm O<|Zg 75 O ?_ ?_<;>intro q
   ·refine Zv (gW q) (X7 O) ?_;refine Zv (gW q) (X7 O) ?_;refine Zv (gW q) (Vd O no 2) ?_;refine Zv (gW q) (X0 O X8 (p.at 2)) ?_;refine Zk (gW q) (Vc (vp _ n col g.b O0 O0 O0) ve) ?_;rintro _ _ ⟨rfl,rfl⟩;refine Zv (gW q) (go O O)<|Ze (Xh O q O)<|Zn fun a f=>?_;exact ⟨f.sub ⟨O,O,O,O,O,X1 O (by simp[C,D,E,q]),trivial⟩,O⟩
   (iterate 6 refine Zp (gP q) ?_);exact Ze (X9 O q O)<|Zn fun a f=>⟨f.sub ⟨O,O,O,O,O,X1 O (by simp[C,D,E,q]),trivial⟩,O⟩
  rintro a _ ⟨f,rfl⟩;refine b4 _ _<|Xz f O ?_ ?_<;>intro aB
  ·have N:ll n g col=ac 4:=by have h9:d_ n col g.a=1/\d_ n col g.b=1:=(by simpa using aB);simp[ll,J,h9]
   refine Zr f<|Zf (Vc (ux _ 4) uj) ?_;rintro _ d8 ⟨rfl,h⟩;have ⟨e,x,t,o⟩:=dk h e x t o;refine Zo (Vw [vi ((ac 4).num.a),vi ((ac 4).num.b),vi ((ac 4).num.c),vi ((ac 4).num.d),vi ((ac 4).exp)] Xm x) ?_;intro _ d9 ⟨z,A⟩;have e:=e.oy z O0;have t:=t.oy z O0;have o:=Below.oy o z M;have x:=A;refine Zn fun a f=>Xk<|I _ _<|Q5 fun _ b7=>ZS f fun b8=>Zm O<|Zm O<|Ze (go O O)<|Zt b8 fun a f=>Xz f O ?_ ?_<;>intro aC
   ·have i:cu n g row col=ll n g col:=by rw[cu,Q3 G,Q4 ((eq_of_beq aC).trans B.symm)]
    rw[N] at i;refine ZS f fun b9=>Ze (Vn Xa x)<|Zo (Vw [vi ((ac 4).num.a),vi ((ac 4).num.b),vi ((ac 4).num.c),vi ((ac 4).num.d),vi ((ac 4).exp)] Xm e) ?_;intro _ dA ⟨z,A⟩;have o:=Below.oy o z y;have e:=A;exact Zt b9 fun a f=>Q6<|X3<|X4 f (Xu f O (an.cellN (l:=[vi ((ac 4).num.a),vi ((ac 4).num.b),vi ((ac 4).num.c),vi ((ac 4).num.d),vi ((ac 4).exp)]) O Xa (e.at 0) O))<|⟨(by rw[i];try rfl),o⟩
   have i:cu n g row col=dZ:=by rw[cu,Q3 G,Q3 (fun L=>q' aC (L.trans B))]
   refine Q7<|b7 _ _<|ZS f fun bC=>Ze (Vn Xa t)<|Zo (Vw [vi 0,vi 0,vi 0,vi 0,vi 0] Xm e) ?_;intro _ dB ⟨z,A⟩;have o:=Below.oy o z y;have e:=A;refine Zt bC fun a f=>Q6 (X4 f (Xu f O (an.cellN (l:=[vi 0,vi 0,vi 0,vi 0,vi 0]) O Xa (e.at 0) O)) ?_);exact ⟨(by rw[i];try rfl),o⟩
  have N:ll n g col=ac 0:=by have h9:¬ (d_ n col g.a=1/\d_ n col g.b=1):=(by simpa using aB);simp only[ll,J,h9];simp
  refine Q7<|Xk<|I _ _<|Q5 fun _ bD=>ZS f fun bE=>Zm O<|Zm O<|Ze (go O O)<|Zt bE fun a f=>Xz f O ?_ ?_<;>intro aD
  ·have i:cu n g row col=ll n g col:=by rw[cu,Q3 G,Q4 ((eq_of_beq aD).trans B.symm)]
   rw[N] at i;refine ZS f fun bF=>Ze (Vn Xa x)<|Zo (Vw [vi ((ac 0).num.a),vi ((ac 0).num.b),vi ((ac 0).num.c),vi ((ac 0).num.d),vi ((ac 0).exp)] Xm e) ?_;intro _ dC ⟨z,A⟩;have o:=Below.oy o z y;have e:=A;exact Zt bF fun a f=>Q6<|X3<|X4 f (Xu f O (an.cellN (l:=[vi ((ac 0).num.a),vi ((ac 0).num.b),vi ((ac 0).num.c),vi ((ac 0).num.d),vi ((ac 0).exp)]) O Xa (e.at 0) O))<|⟨(by rw[i];try rfl),o⟩
  have i:cu n g row col=dZ:=by rw[cu,Q3 G,Q3 (fun L=>q' aD (L.trans B))]
  refine Q7<|bD _ _<|ZS f fun bG=>Ze (Vn Xa t)<|Zo (Vw [vi 0,vi 0,vi 0,vi 0,vi 0] Xm e) ?_;intro _ dD ⟨z,A⟩;have o:=Below.oy o z y;have e:=A;refine Zt bG fun a f=>Q6 (X4 f (Xu f O (an.cellN (l:=[vi 0,vi 0,vi 0,vi 0,vi 0]) O Xa (e.at 0) O)) ?_);exact ⟨(by rw[i];try rfl),o⟩
 have dE:=q' E;refine ZS f fun bH=>Ze (go O O)<|Za O<|Zt bH fun a f=>Xz f O ?_ ?_<;>intro aE
 ·have J:=eq_of_beq aE;have G:¬ g.k<=8:=by omega
  have N:ll n g col=ac 0:=by simp[ll,J]
  refine Q5 fun _ bI=>gx none (fun _=>false) mixed ?_;intro dF h;have ⟨p,e,x,t,o⟩:=io h p e x t o;refine Yb f<|Yo 0 O (fun _=>X7 O)<|Yo 1 O (fun _=>X7 O)<|Yo 2 O (fun _=>Vd O lm 1)<|Ye 3 O (X0 O X8 (p.at 1))<|Yo 5 O (fun _=>X7 O)<|Yo 6 O (fun _=>X7 O)<|Yo 7 O (fun _=>Vd O no 2)<|Ye 8 O (X0 O X8 (p.at 2))<|Y1 4<|Yz O ad (Vc (vp _ n col g.a O0 O0 O0) ve) ?_;refine Y1 9<|Yz O ad (Vc (vp _ n col g.b O0 O0 O0) ve)<|Yo 10 O (fun _=>kz O O)<|Yd fun a f=>bI _ _<|Xz f O ?_ ?_<;>intro aF
  ·have B:nt n g col=kg n (kg n col g.a) g.b:=by have h9:d_ n col g.a≠d_ n col g.b:=(by simpa using aF);simp[nt,J,h9]
   refine Zr f<|Zm O<|Zm O<|Ze (ld O O O0 O0)<|Ze (Vd O lm 1)<|Ze (X0 O X8 (p.at 1))<|Ze (ld O O O0 O0)<|Ze (ui (m:=(n-1-g.a).toNat) underlying3 underlying139 O O0 O0)<|Ze (wU (m:=(n-1-g.a).toNat) O O O O0)<|Ze (xp O O)<|Zm O<|Ze (ld O O O0 O0)<|Ze (Vd O no 2)<|Ze (X0 O X8 (p.at 2))<|Ze (ld O O O0 O0)<|Ze (ui (m:=(n-1-g.b).toNat) underlying3 underlying139 O O0 O0)<|Ze (wU (m:=(n-1-g.b).toNat) O O O O0)<|Ze (xp O O)<|Za O<|Zn fun a f=>Xk<|I _ _<|Q5 fun _ bJ=>ZS f fun bK=>Zm O<|Zm O<|Ze (go O O)<|Zt bK fun a f=>Xz f O ?_ ?_<;>intro aG
   ·have i:cu n g row col=ll n g col:=by rw[cu,Q3 G,Q4 ((eq_of_beq aG).trans B.symm)]
    rw[N] at i;refine ZS f fun bL=>Ze (Vn Xa x)<|Zo (Vw [vi ((ac 0).num.a),vi ((ac 0).num.b),vi ((ac 0).num.c),vi ((ac 0).num.d),vi ((ac 0).exp)] Xm e) ?_;intro _ dG ⟨z,A⟩;have o:=Below.oy o z y;have e:=A;exact Zt bL fun a f=>Q6<|X3<|X4 f (Xu f O (an.cellN (l:=[vi ((ac 0).num.a),vi ((ac 0).num.b),vi ((ac 0).num.c),vi ((ac 0).num.d),vi ((ac 0).exp)]) O Xa (e.at 0) O))<|⟨(by rw[i];try rfl),o⟩
   have i:cu n g row col=dZ:=by rw[cu,Q3 G,Q3 (fun L=>q' aG (L.trans B))]
   refine Q7<|bJ _ _<|ZS f fun bM=>Ze (Vn Xa t)<|Zo (Vw [vi 0,vi 0,vi 0,vi 0,vi 0] Xm e) ?_;intro _ dH ⟨z,A⟩;have o:=Below.oy o z y;have e:=A;refine Zt bM fun a f=>Q6 (X4 f (Xu f O (an.cellN (l:=[vi 0,vi 0,vi 0,vi 0,vi 0]) O Xa (e.at 0) O)) ?_);exact ⟨(by rw[i];try rfl),o⟩
  have B:nt n g col=col:=by have h9:d_ n col g.a=d_ n col g.b:=(by simpa using aF);simp[nt,J,h9]
  refine Q7<|Xk<|I _ _<|Q5 fun _ bN=>ZS f fun bO=>Zm O<|Zm O<|Ze (go O O)<|Zt bO fun a f=>Xz f O ?_ ?_<;>intro aH
  ·have i:cu n g row col=ll n g col:=by rw[cu,Q3 G,Q4 ((eq_of_beq aH).trans B.symm)]
   rw[N] at i;refine ZS f fun bP=>Ze (Vn Xa x)<|Zo (Vw [vi ((ac 0).num.a),vi ((ac 0).num.b),vi ((ac 0).num.c),vi ((ac 0).num.d),vi ((ac 0).exp)] Xm e) ?_;intro _ dI ⟨z,A⟩;have o:=Below.oy o z y;have e:=A;exact Zt bP fun a f=>Q6<|X3<|X4 f (Xu f O (an.cellN (l:=[vi ((ac 0).num.a),vi ((ac 0).num.b),vi ((ac 0).num.c),vi ((ac 0).num.d),vi ((ac 0).exp)]) O Xa (e.at 0) O))<|⟨(by rw[i];try rfl),o⟩
  have i:cu n g row col=dZ:=by rw[cu,Q3 G,Q3 (fun L=>q' aH (L.trans B))]
  refine Q7<|bN _ _<|ZS f fun bQ=>Ze (Vn Xa t)<|Zo (Vw [vi 0,vi 0,vi 0,vi 0,vi 0] Xm e) ?_;intro _ dJ ⟨z,A⟩;have o:=Below.oy o z y;have e:=A;refine Zt bQ fun a f=>Q6 (X4 f (Xu f O (an.cellN (l:=[vi 0,vi 0,vi 0,vi 0,vi 0]) O Xa (e.at 0) O)) ?_);exact ⟨(by rw[i];try rfl),o⟩
 have dK:=q' aE;have G:g.k<=8:=by omega
 refine Q5 fun _ bR=>ZS f fun bS=>Zm O<|Zm O<|Ze (xp O O)<|Zm O<|Ze (ld O O O0 O0)<|Ze (Vd O lm 1)<|Ze (X0 O X8 (p.at 1))<|Ze (ld O O O0 O0)<|Ze (ui (m:=(n-1-g.a).toNat) underlying3 underlying139 O O0 O0)<|Ze (wU (m:=(n-1-g.a).toNat) O O O O0)<|Ze (VX O O)<|Ze (kz O O)<|Zt bS fun a f=>Xz f O ?_ ?_<;>intro aI
 ·have i:cu n g row col=dZ:=by rw[cu,Q4 G,Q4 (by simpa using aI)]
  refine ZS f fun bU=>Ze (Vn Xa t)<|Zo (Vw [vi 0,vi 0,vi 0,vi 0,vi 0] Xm e) ?_;intro _ dL ⟨z,A⟩;have o:=Below.oy o z y;have e:=A;exact Zt bU fun a f=>Q6<|X3<|Xn<|X3<|X4 f (Xu f O (an.cellN (l:=[vi 0,vi 0,vi 0,vi 0,vi 0]) O Xa (e.at 0) O))<|⟨(by rw[i];try rfl),o⟩
 have i:cu n g row col=(km g.k).getD (2*d_ n row g.a+d_ n col g.a).toNat dZ:=by rw[cu,Q4 G,Q3 (by simpa using aI)]
 refine Q7<|bR _ _<|Q5 fun _ bW=>gx none (fun j=>[17].contains j) mixed ?_;intro dM h;have ⟨p,e,t,o⟩:=dk h p e t o;refine Yb f<|Yo 0 O (fun _=>Vd O mo 0)<|Ye 1 O (X0 O X8 (p.at 0))<|Yo 3 O (fun _=>X7 O)<|Yo 4 O (fun _=>X7 O)<|Yo 5 O (fun _=>Vd O lm 1)<|Ye 6 O (X0 O X8 (p.at 1))<|Yo 9 O (fun _=>X7 O)<|Yo 10 O (fun _=>X7 O)<|Yo 11 O (fun _=>Vd O lm 1)<|Ye 12 O (X0 O X8 (p.at 1))<|Y1 2<|Yk O ad (Vc (J3 _ g.k O0) Jj) (fun _ _ ⟨cO,cP,_,H,h⟩=>h) ?_;rintro _ dN ⟨cO,cP,rfl,H,h⟩;have H:=H.lower o.size;have e:=e.bw h;have o:=aa o h;refine Y1 7<|Yz O ad (Vc (vp _ n row g.a O0 O0 O0) ve) ?_;refine Yo 8 O (fun _=>sC O O O0 O0)<|Y1 13<|Yz O ad (Vc (vp _ n col g.a O0 O0 O0) ve) ?_;refine Yo 14 O (fun _=>Xs O O O0 O0)<|Yi (k:=(2*d_ n row g.a+d_ n col g.a).toNat) (u:=(ZK g n row col)) (enc:=ai) (l:=(km g.k)) 15 O ad O O gv Xm kb H.rd (PQ O0) O0 ?_;intro dP aJ;refine Ye 16 O (Xt (l:=[vi ((ZK g n row col).num.a),vi ((ZK g n row col).num.b),vi ((ZK g n row col).num.c),vi ((ZK g n row col).num.d),vi ((ZK g n row col).exp)]) O Xa aJ O)<|Y1 17<|Yh O ad O (Vw [vi ((ZK g n row col).num.a),vi ((ZK g n row col).num.b),vi ((ZK g n row col).num.c),vi ((ZK g n row col).num.d),vi ((ZK g n row col).exp)] Xm e) ?_;intro _ dQ ⟨z,A⟩;have o:=Below.oy o z y;have e:=A;exact Yd fun a f=>bW _ _<|Q6<|Xn<|X3<|X4 f (Xu f O (an.cellN (l:=[vi ((ZK g n row col).num.a),vi ((ZK g n row col).num.b),vi ((ZK g n row col).num.c),vi ((ZK g n row col).num.d),vi ((ZK g n row col).exp)]) O Xa (e.at 0) O))<|⟨(by rw[i];try rfl),o⟩
def FR(C:World)(n:Int)(g:Gt)(Q:gp n g=true):RE 110 [vi n,.agg #[vi g.k,vi g.a,vi g.b]] C (fun v w=>∃ A c,v=mV A c (bc n g)/\ah w C.heap.size 147 5 ai A c (bc n g).cells/\Bl C w):=by
 have aY:=qe Q;have ⟨d,hd⟩ : ∃ d:Nat,d=2^n.toNat:=⟨_,O⟩;have aG:d<=32:=by rw[hd];exact wu aY.1.2
 refine enter func110 O 36 O O ?_;intro a t;have q:=bz C;refine ZS t fun aZ=>Zf (bt (zs:=[vi g.k,vi g.a,vi g.b]) O O) ?_;rintro _ w1 ⟨b2,rfl,G,u,f⟩;have b7:=Q0 q.size G;have q:=aa q u;refine Zf (Xi (zs:=[vi 0,vi 0,.slice none 0 0]) jy O) ?_;rintro _ w2 ⟨b4,rfl,b0,u,e⟩;have aH:=Q0 q.size b0;have f:=f.bw u;have q:=aa q u;refine Zx aZ fun a t _ b1=>Zm O<|Ze (ui (m:=n.toNat) underlying3 underlying139 O O0 O0)<|Ze (wg (m:=n.toNat) (D:=d) O O O ⟨hd,by omega⟩)<|Za O<|Zx b1 fun a t _ b3=>Zm O<|Zm O<|Ze (Xg (ps:=[(0,vi (d:Int)),(1,vi (d:Int))]) (cs:=[vi (d:Int),vi (d:Int),.slice none 0 0]) O (fun _=>by first|rfl|kernel_rfl))<|ZB [vi (d:Int),vi (d:Int),.slice none 0 0] jy jg fun b9 w4 b5 u o=>?_;have aX:b4≠b9:=by have:=e.lt;omega
 have aI:=Q0 q.size b5;have ⟨f,e,q⟩:=bh u f e q;refine ZX b3 fun a t _ aJ=>ZS t fun aK=>Za O<|Zt aK fun a t=>Q8<|Xw (σ:=Nat×(List Dy)) (fun (s:Nat×(List Dy)) (a:Act) (w:World)=>match s with|(i,l)=>∃ y z,Fr a 36 [(0,vi n),(3,(ae b2)),(4,(ae b4)),(5,vi (d:Int)),(6,(ae b9)),(7,vi (i:Int))]/\(i<=d)/\(fy (fun i j=>cu n g (i:Int) (j:Int)) d (i*d)=l)/\al w b2 52 [vi g.k,vi g.a,vi g.b]/\al w b4 91 [vi 0,vi 0,.slice none 0 0]/\al w b9 91 [vi (d:Int),vi (d:Int),.slice y l.length z]/\ah w C.heap.size 147 5 ai y z l/\Bl C w) (fun (s:Nat×(List Dy))=>match s with|(i,l)=>d-i) (0,[]) ?_ ?_
 ·exact ⟨none,0,t.sb,(Qf _),O7,f,e,o,(ah.nil _ _ _ _ _),q⟩
 intro ⟨i,l⟩ a w5 ⟨y,z,t,bC,hl,f,e,o,B,q⟩;refine Q5 fun _ aL=>ZS t fun aM=>Zm O<|Zm O<|Ze (ew O O)<|Zt aM fun a t=>eh t O (fun aA H=>?_) (fun aA H=>?_)
 ·have aN:i<d:=by have:=H;omega
  have bD:i*d<=1024:=Q0 (Nat.mul_le_mul (show i<=32 by omega) aG) O2;refine Q7<|aL _ _<|Q5 fun _ aO=>Q8<|ZS t fun aP=>Za O<|Zt aP fun a t=>Q8<|Xw (σ:=Nat×(List Dy)) (fun (s:Nat×(List Dy)) (a:Act) (w:World)=>match s with|(j,l2)=>∃ M N,Fr a 36 [(0,vi n),(3,(ae b2)),(4,(ae b4)),(5,vi (d:Int)),(6,(ae b9)),(7,vi (i:Int)),(8,vi (j:Int))]/\(j<=d)/\(fy (fun i j=>cu n g (i:Int) (j:Int)) d (i*d+j)=l2)/\al w b2 52 [vi g.k,vi g.a,vi g.b]/\al w b4 91 [vi 0,vi 0,.slice none 0 0]/\al w b9 91 [vi (d:Int),vi (d:Int),.slice M l2.length N]/\ah w C.heap.size 147 5 ai M N l2/\Bl C w) (fun (s:Nat×(List Dy))=>match s with|(j,l2)=>d-j) (0,l) ?_ ?_
  ·exact ⟨y,z,t.sb,(Qf _),hl,f,e,o,B,q⟩
  intro ⟨j,l2⟩ a w6 ⟨M,N,t,bE,G,f,e,o,p,q⟩;refine Q5 fun _ aQ=>ZS t fun aR=>Zm O<|Zm O<|Ze (ew O O)<|Zt aR fun a t=>eh t O (fun aB I=>?_) (fun aB I=>?_)
  ·have aC:j<d:=by have:=I;omega
   have b8:l2.length=i*d+j:=by rw[<- G,sU]
   refine Q7<|aQ _ _<|Q5 fun _ aS=>Q8<|gx none (fun j=>[8,10].contains j) mixed ?_;intro w7 u;have ⟨f,e,o,p,q⟩:=io u f e o p q;refine Yb t<|Yo 0 O (fun _=>Vd O og 2)<|Ye 1 O (X0 O ju (o.at 2))<|Yo 2 O (fun _=>X7 O)<|Ye 3 O (Vn jd f)<|Yo 4 O (fun _=>X7 O)<|Yo 5 O (fun _=>X7 O)<|Y1 6<|Yk O ad (Vc (Li _ n g (i:Int) (j:Int) Q) N9) (fun _ _ ⟨_,u⟩=>u) ?_;rintro _ w8 ⟨rfl,u⟩;have ⟨f,e,o,p,q⟩:=io u f e o p q;refine Y1 7<|Yk O ad (X6 (k:=1) (vs:=[.agg #[vi ((cu n g (i:Int) (j:Int)).num.a),vi ((cu n g (i:Int) (j:Int)).num.b),vi ((cu n g (i:Int) (j:Int)).num.c),vi ((cu n g (i:Int) (j:Int)).num.d),vi ((cu n g (i:Int) (j:Int)).exp)]]) (zs:=[vi ((cu n g (i:Int) (j:Int)).num.a),vi ((cu n g (i:Int) (j:Int)).num.b),vi ((cu n g (i:Int) (j:Int)).num.c),vi ((cu n g (i:Int) (j:Int)).num.d),vi ((cu n g (i:Int) (j:Int)).exp)]) O gv my O O) (fun _ _ ⟨_,_,_,h,_⟩=>h) ?_;rintro _ w9 ⟨bF,rfl,U,u,J⟩;have b6:=Q0 q.size U;have ⟨f,e,o,p,q⟩:=io u f e o p q;refine Y1 8<|Yt O ad O (jf (enc:=ai) (l:=(l2)) (l2:=([(cu n g (i:Int) (j:Int))])) (B0:=C.heap.size) O O gv my kb rM p (Rd.of_blk J O _ J.lt) (by simp only[maxLen];simp;omega) O5 q.size) ?_;rintro _ bG ⟨aD,aE,rfl,L,Q,aT⟩;have x:ah _ C.heap.size 147 5 ai _ _ (l2):=p;clear aT;have f:=f.appT x Q O;have e:=e.appT x Q O;have o:=o.appT x Q O;have q:=Below.app q x Q (Qb _) q.size;clear x Q;refine Yo 9 O (fun _=>Vd O og 2)<|Y1 10<|Yh O ad O (Vu (vs:=[.slice aD (l2++([(cu n g (i:Int) (j:Int))])).length aE]) (l':=[vi (d:Int),vi (d:Int),.slice aD (l2++([(cu n g (i:Int) (j:Int))])).length aE]) O O rH o) ?_;intro _ bH ⟨ho,hb⟩;have f:=f.oz ho o O;have e:=e.oy ho O0;have L:=L.oT ho o O;have q:=Below.oy q ho aI;have o:=hb;exact Yd fun a t=>Xk<|aS _ _<|Zr t<|Zm O<|Ze (Xs O O O0 O0)<|Za O<|Zn fun a t=>Xb<|⟨(j+1,l2++[(cu n g (i:Int) (j:Int))]),⟨aD,aE,t.sb,O0,(by rw[DJ aC,G]),f,e,o,L,q⟩,O3⟩
  have aC:j=d:=by have:=I;omega
  exact Q9<|Xf<|Xf<|Xv<|Xk<|aO _ _<|Zr t<|Zm O<|Ze (Xs O O O0 O0)<|Za O<|Zn fun a t=>Xb<|⟨(i+1,l2),⟨M,N,t.sb,O0,(by rw[Wb,Nat.one_mul,<- G,aC]),f,e,o,p,q⟩,O3⟩
 have aN:i=d:=by have:=H;omega
 refine Q9<|Xf<|Xf<|Xv<|aJ _ _<|ZS t fun aU=>Ze (Vn fw o)<|Zo (Vw [vi (d:Int),vi (d:Int),.slice y l.length z] jg e) ?_;intro _ bI ⟨ho,hb⟩;have B:=B.oT ho e O;have q:=Below.oy q ho aH;have e:=hb;refine Zt aU fun a t=>Q6 (X4 t (Xu t O (an.cellN (l:=[vi (d:Int),vi (d:Int),.slice y l.length z]) O fw (e.at 0) O)) ?_);have aW:bc n g=⟨(d:Int),(d:Int),l⟩:=by rw[bc,<- hl,aN,hd]
 rw[aW];exact ⟨y,z,O,B,q⟩
def Hb(A:World)(p:Mx)(Ap:Option Addr)(cp:Nat)(aF:Rw A 147 ai Ap p.cells)(q:Mx)(Aq:Option Addr)(cq:Nat)(aG:Rw A 147 ai Aq q.cells)(k:Int)(bC:p.cells.length=q.cells.length)(bD:q.cells.length<=2305843009213693951):RE 140 [.agg #[vi p.rows,vi p.cols,.slice Ap p.cells.length cp],.agg #[vi q.rows,vi q.cols,.slice Aq q.cells.length cq],vi k] A (fun v w=>v=.bool (dh p q k)/\Bl A w):=by
 refine enter func140 O 42 O O ?_;intro a j
 have n:=bz A
 refine ZS j fun aY=>Zf (bt (zs:=[vi p.rows,vi p.cols,.slice Ap p.cells.length cp]) O O) ?_;rintro _ w1 ⟨b4,rfl,aZ,o,e⟩;have b8:=Q0 n.size aZ;have n:=aa n o;refine Zf (bt (zs:=[vi q.rows,vi q.cols,.slice Aq q.cells.length cq]) O O) ?_;rintro _ w2 ⟨b5,rfl,b0,o,aA⟩
 have aX:b4≠b5:=by have:=e.lt;omega
 have b9:=Q0 n.size b0;have e:=e.bw o;have n:=aa n o;refine Za O<|ZX aY fun a j _ b1=>Q5 fun _ b2=>eo (fun a w=>Fr a 42 [(2,vi k),(3,(ae b4)),(4,(ae b5)),(20,.bool ((p.rows != q.rows)||(p.cols != q.cols)))]/\w2=w) ?_ ?_
 ·refine Zr j<|Ze (Vd O oe 0)<|Ze (X0 O X8 (e.at 0))<|Ze (Vd O oe 0)<|Ze (X0 O X8 (aA.at 0))<|Ze (kz O O)<|Zm O<|Zg 14 O ?_ ?_<;>intro m
  ·(iterate 5 refine Zp (gP m) ?_);exact Ze (Xh O m O)<|Zn fun a j=>⟨j.sub ⟨O,O,O,X1 O (by simp[m]),trivial⟩,O⟩
  refine Zv (gW m) (Vd O ou 1) ?_;refine Zv (gW m) (X0 O X8 (e.at 1)) ?_;refine Zv (gW m) (Vd O ou 1) ?_;refine Zv (gW m) (X0 O X8 (aA.at 1)) ?_;refine Zv (gW m) (kz O O) ?_;refine Ze (X9 O m O) ?_;exact Zn fun a j=>⟨j.sub ⟨O,O,O,X1 O (by first|rfl|(simp only[m,bs];done)|simp[m]),trivial⟩,O⟩
 rintro a _ ⟨j,rfl⟩;refine b2 _ _<|Xz j O ?_ ?_<;>intro x
 ·have aH:=x
  have hn:dh p q k=false:=by have h9:¬ (p.rows=q.rows/\p.cols=q.cols):=(by intro h8;revert x;simp[h8.1,h8.2]);unfold dh;revert h9;by_cases e1:p.rows=q.rows<;>by_cases e2:p.cols=q.cols<;>simp[e1,e2]
  exact ZS j fun aI=>Za O<|Zt aI fun a j=>Q6<|X3<|X4 j (Xu j O O)<|⟨by rw[hn],n⟩
 have aH:=x
 have aJ:p.rows=q.rows/\p.cols=q.cols:=by revert x;by_cases e1:p.rows=q.rows<;>by_cases e2:p.cols=q.cols<;>simp[e1,e2]
 refine Q7<|b1 _ _<|Q5 fun _ aK=>ZS j fun aL=>Ze (Vd O og 2)<|Ze (X0 O ju (aA.at 2))<|Ze (fh O gv)<|Zm O<|Zt aL fun a j=>Q8<|Xw (σ:=Nat) (fun (i:Nat) (a:Act) (w:World)=>Fr a 42 [(2,vi k),(3,(ae b4)),(22,.slice Aq q.cells.length cq),(23,vi (q.cells.length:Int)),(24,vi (i:Int))]/\(i<=q.cells.length)/\(p.cells.take i=(q.cells.map (f' k)).take i)/\al w b4 91 [vi p.rows,vi p.cols,.slice Ap p.cells.length cp]/\Bl A w) (fun (i:Nat)=>q.cells.length-i) 0 ?_ ?_
 ·exact ⟨j.sb,(Qf _),O6,e,n⟩
 rintro i a w3 ⟨j,hi,y,e,n⟩;refine ZS j fun aM=>Ze (ew O O)<|ZX aM fun a j _ aN=>eh j O (fun aB aO=>?_) (fun aB aO=>?_)
 ·obtain ⟨u16,z⟩:=Xe (l:=q.cells) (k:=i) O0
  obtain ⟨B,aC⟩:=Xe (l:=p.cells) (k:=i) O0
  refine Q7<|aN _ _<|Q5 fun _ aP=>Q8<|ZS j fun aQ=>Zm O<|Zi (k:=i) (u:=u16) (enc:=ai) (l:=q.cells) ad O O gv Xm kb (aG.bx n) z O ?_;intro bE aD;refine Ze (Xt (l:=[vi u16.num.a,vi u16.num.b,vi u16.num.c,vi u16.num.d,vi u16.exp]) O Xa aD O)<|Zf (Xi (zs:=[vi 0,vi 0,vi 0,vi 0,vi 0]) iu O) ?_;rintro _ w4 ⟨bF,rfl,aR,o,g⟩;have h:=Q0 n.size aR;have e:=e.bw o;have n:=aa n o;refine Za O<|Zo (Vw [vi u16.num.a,vi u16.num.b,vi u16.num.c,vi u16.num.d,vi u16.exp] Xm g) ?_;rintro _ w5 ⟨ho,hb⟩;have e:=e.oz ho g O;have n:=Below.oy n ho h;have g:=hb;refine Zx aQ fun a j _ aS=>Ze (Vd O pG 0)<|Ze (Xt (l:=[vi u16.num.a,vi u16.num.b,vi u16.num.c,vi u16.num.d]) O g9 ((g.at 0).take 4) O)<|Zm O<|Zf (Vc (JI _ u16.num k) Fo) ?_;rintro _ w6 ⟨rfl,o⟩;have ⟨e,g,n⟩:=bh o e g n;refine Ze (Vd O pG 0)<|Zo (Vu (vs:=[vi ((c_ u16.num k).a),vi ((c_ u16.num k).b),vi ((c_ u16.num k).c),vi ((c_ u16.num k).d)]) (l':=[vi ((c_ u16.num k).a),vi ((c_ u16.num k).b),vi ((c_ u16.num k).c),vi ((c_ u16.num k).d),vi u16.exp]) O O lr g) ?_;rintro _ w7 ⟨ho,hb⟩;have e:=e.oz ho g O;have n:=Below.oy n ho h;have g:=hb;refine ZX aS fun a j _ aT=>gx none (fun _=>false) mixed ?_;intro w8 o;have ⟨e,g,n⟩:=bh o e g n;refine Yb j<|Yo 0 O (fun _=>Vd O og 2)<|Ye 1 O (X0 O ju (e.at 2))<|Yo 2 O (fun _=>X7 O)<|Yi (k:=i) (u:=B) (enc:=ai) (l:=p.cells) 3 O ad O O gv Xm kb (aF.bx n) aC O ?_;intro bG aE
  refine Ye 4 O (Xt (l:=[vi B.num.a,vi B.num.b,vi B.num.c,vi B.num.d,vi B.exp]) O Xa aE O)<|Ye 5 O (Vn Xa g)<|Yo 6 O (fun _=>uz O O wv (fun w=>wt 9997 B (⟨(c_ u16.num k),u16.exp⟩ : Dy) w))<|Yd fun a j=>aT _ _<|Xz j O ?_ ?_<;>intro t
  ·have b3:=t
   have b6:¬ B=f' k u16:=by intro e9;revert t;rw[e9];simp[f']
   have hn:dh p q k=false:=by have h8:¬ p.cells=q.cells.map (f' k):=(by intro e9;have h7:=JZ (f:=f' k) z;rw[<- e9,aC] at h7;injection h7 with h7;exact b6 h7);simp[dh,h8]
   exact ZS j fun aU=>Za O<|Zt aU fun a j=>Q6<|Xn<|X3<|X3<|Xn<|X3<|X4 j (Xu j O O)<|⟨by rw[hn],n⟩
  have b7:B=f' k u16:=by simpa[f'] using t
  exact Q7<|Xk<|aP _ _<|Zr j<|Ze (Xs O O O0 O0)<|Zm O<|Zn fun a j=>Xb<|⟨i+1,⟨j.sb,O0,(uV y aC (JZ z) b7),e,n⟩,O0⟩
 refine Q9<|Xf<|Xf<|Xv<|aK _ _<|ZS j fun aW=>Za O<|Zt aW fun a j=>Q6 (X4 j (Xu j O O) ?_)
 have he:p.cells=q.cells.map (f' k):=by rw[Qi O0,Qi O5] at y;exact y
 exact ⟨by simp[dh,aJ.1,aJ.2,<- he],n⟩
def Nw(m:World)(p:Mx)(Ap:Option Addr)(cp:Nat)(aB:Rw m 147 ai Ap p.cells)(q:Mx)(Aq:Option Addr)(cq:Nat)(aC:Rw m 147 ai Aq q.cells)(aI:p.cells.length=q.cells.length)(aJ:q.cells.length<=2305843009213693951):RE 107 [.agg #[vi p.rows,vi p.cols,.slice Ap p.cells.length cp],.agg #[vi q.rows,vi q.cols,.slice Aq q.cells.length cq]] m (fun v w=>∃ i:Int,v=.tuple #[vi i,.bool (gi p q)]/\Bl m w):=by
 refine enter func107 O 16 O O ?_;intro a c;have e:=bz m;refine ZS c fun aK=>Zf (bt (zs:=[vi p.rows,vi p.cols,.slice Ap p.cells.length cp]) O O) ?_;rintro _ w1 ⟨b4,rfl,aL,n,d⟩;have aR:=Q0 e.size aL;have e:=aa e n;refine Zf (bt (zs:=[vi q.rows,vi q.cols,.slice Aq q.cells.length cq]) O O) ?_;rintro _ w2 ⟨b5,rfl,aM,n,g⟩;have aH:b4≠b5:=by have:=d.lt;omega
 have aS:=Q0 e.size aM;have d:=d.bw n;have e:=aa e n;refine Za O<|Za O<|ZX aK fun a c _ aN=>ZS c fun aO=>Za O<|Zt aO fun a c=>Q8<|Xw (σ:=Nat) (fun (k:Nat) (a:Act) (w:World)=>Fr a 16 [(2,(ae b4)),(3,(ae b5)),(6,vi (k:Int))]/\(k<=8)/\(∀ j<k,dh p q ((j:Nat) : Int)=false)/\al w b4 91 [vi p.rows,vi p.cols,.slice Ap p.cells.length cp]/\al w b5 91 [vi q.rows,vi q.cols,.slice Aq q.cells.length cq]/\Bl m w) (fun (k:Nat)=>8-k) 0 ?_ ?_
 ·exact ⟨c.sb,O0,(fun j hj=>by omega),d,g,e⟩
 intro k a w3 ⟨c,hk,o,d,g,e⟩;refine Q5 fun _ aP=>ZS c fun aQ=>Zm O<|Ze (ew O O)<|Zt aQ fun a c=>eh c O (fun aA t=>?_) (fun aA t=>?_)
 ·have aT:(k:Int)<8:=t;refine Q7<|aP _ _<|Q5 fun _ aD=>Q8<|ZS c fun aE=>Ze (Vn fw d)<|Ze (Vn fw g)<|Zm O<|Zf (Vc (Hb _ p Ap cp (aB.bx e).top q Aq cq (aC.bx e).top (k:Int) aI aJ) Hn) ?_;rintro _ w4 ⟨rfl,n⟩;have ⟨d,g,e⟩:=bh n d g e;refine Zt aE fun a c=>Xz c O ?_ ?_<;>intro l
  ·have hT:dh p q (k:Int)=true:=l;exact ZS c fun aF=>Zm O<|Za O<|Za O<|Zt aF fun a c=>Q6<|Xn<|X3<|X3<|Xn<|X3<|X4 c (dj c O O O)<|⟨_,by rw[gi,Cv (f:=fun k=>dh p q ((k:Nat) : Int)) (k:=k) O0 hT],e⟩
  have hT:dh p q (k:Int)=false:=l;exact Q7<|Xk<|aD _ _<|Zr c<|Zm O<|Ze (Xs O O O0 O0)<|Za O<|Zn fun a c=>Xb<|⟨k+1,⟨c.sb,O0,(fun j hj=>by rcases W4 j k with h9|h9;exact o j h9;obtain rfl:j=k:=O0;exact hT),d,g,e⟩,O0⟩
 refine Q9<|Xf<|Xf<|Xv<|aN _ _<|ZS c fun aG=>Za O<|Za O<|Zt aG fun a c=>Q6 (X4 c (dj c O O O) ?_);exact ⟨_,by rw[gi,xH (fun j hj=>o j O0)],e⟩
theorem Cq(w0:World)(n:Int)(g:Gt)(hn:1<=n/\n<=5):RE 27 [vi n,.agg #[vi g.k,vi g.a,vi g.b]] w0 (fun v w=>v=.bool (gp n g)/\Bl w0 w):=by
 refine enter func27 O 55 O O ?_;intro a j;have hW:=bz w0;refine ZS j fun aC=>Zf (bt (zs:=[vi g.k,vi g.a,vi g.b]) O O) ?_;rintro _ w1 ⟨b2,rfl,aD,hE,o⟩;have aJ:=Q0 hW.size aD;have hW:=aa hW hE;refine Za O<|ZX aC fun a j _ aE=>Q8<|ZS j fun aF=>Ze (Vd O mo 0)<|Ze (X0 O X8 (o.at 0))<|Zf (Vc (ru _ g.k 1 8) rq) ?_;rintro _ _ ⟨rfl,rfl⟩;refine Za O<|Zt aF fun a j=>Xz j O ?_ ?_<;>intro i
 ·have p:=UC hn i;refine Q5 fun _ aG=>eo (fun a w=>Fr a 55 [(4,.bool ((bq g.a 0 (n-1))&&(g.b==0)))]/\w1=w) ?_ ?_
  ·refine Zr j<|Ze (Vd O lm 1)<|Ze (X0 O X8 (o.at 1))<|Zm O<|Ze (ld O O O0 O0)<|Zf (Vc (ru _ g.a 0 (n-1)) rq) ?_;rintro _ _ ⟨rfl,rfl⟩;refine Zm O<|Zg 14 O ?_ ?_<;>intro m
   ·refine Zv (gW m) (Vd O no 2) ?_;refine Zv (gW m) (X0 O X8 (o.at 2)) ?_;refine Zv (gW m) (go O O)<|Ze (Xh O m O)<|Za O<|Zn fun a j=>?_;exact ⟨j.sub ⟨X1 O (by simp[i,m]),trivial⟩,O⟩
   (iterate 3 refine Zp (gP m) ?_);exact Ze (X9 O m O)<|Za O<|Zn fun a j=>⟨j.sub ⟨X1 O (by simp[i,m]),trivial⟩,O⟩
  rintro a _ ⟨j,rfl⟩;exact aG _ _<|Q6<|Xn<|X3<|X4 j (Xu j O O)<|⟨by rw[p],hW⟩
 have aH:=i;refine ZS j fun aI=>Ze (Vd O mo 0)<|Ze (X0 O X8 (o.at 0))<|Zf (Vc (ru _ g.k 9 11) rq) ?_;rintro _ _ ⟨rfl,rfl⟩;refine Za O<|Zt aI fun a j=>Xz j O ?_ ?_<;>intro l
 ·have p:=NO hn l;refine Q5 fun _ aA=>eo (fun a w=>Fr a 55 [(4,.bool (((bq g.a 0 (n-1))&&(bq g.b 0 (n-1)))&&(g.a != g.b)))]/\w1=w) ?_ ?_
  ·refine Zr j<|Ze (Vd O lm 1)<|Ze (X0 O X8 (o.at 1))<|Zm O<|Ze (ld O O O0 O0)<|Zf (Vc (ru _ g.a 0 (n-1)) rq) ?_;rintro _ _ ⟨rfl,rfl⟩;refine Zm O<|Zg 28 O ?_ ?_<;>intro c
   ·refine Zv (gW c) (Vd O no 2) ?_;refine Zv (gW c) (X0 O X8 (o.at 2)) ?_;refine Zv (gW c) (X7 O) ?_;refine Zv (gW c) (ld O O O0 O0) ?_;refine Zk (gW c) (Vc (ru _ g.b 0 (n-1)) rq) ?_;rintro _ _ ⟨rfl,rfl⟩;refine Ze (Xh O c O)<|Zm O<|Zg 35 O ?_ ?_<;>intro d
    ·refine Zv (gW d) (Vd O lm 1) ?_;refine Zv (gW d) (X0 O X8 (o.at 1)) ?_;refine Zv (gW d) (Vd O no 2) ?_;refine Zv (gW d) (X0 O X8 (o.at 2)) ?_;refine Zv (gW d) (kz O O)<|Ze (Xh O d O)<|Za O<|Zn fun a j=>?_;exact ⟨j.sub ⟨X1 O (by simp[i,l,c,d]),trivial⟩,O⟩
    (iterate 5 refine Zp (gP d) ?_);exact Ze (X9 O d O)<|Za O<|Zn fun a j=>⟨j.sub ⟨X1 O (by simp[i,l,c,d]),trivial⟩,O⟩
   (iterate 5 refine Zp (gP c) ?_);refine Ze (X9 O c O)<|Zm O<|Zp (gP O) ?_;(iterate 4 refine Zp (gP O) ?_);exact Ze (X9 O O O)<|Za O<|Zn fun a j=>⟨j.sub ⟨X1 O (by simp[i,l,c]),trivial⟩,O⟩
  rintro a _ ⟨j,rfl⟩;exact aA _ _<|Q6<|Xn<|X3<|X4 j (Xu j O O)<|⟨by rw[p],hW⟩
 have p:=K2 hn aH l;refine Q7<|Xk<|aE _ _<|Q5 fun _ aB=>eo (fun a w=>Fr a 55 [(4,.bool (((g.k==12)&&(g.a==0))&&(g.b==0)))]/\w1=w) ?_ ?_
 ·refine Zr j<|Ze (Vd O mo 0)<|Ze (X0 O X8 (o.at 0))<|Ze (go O O)<|Zm O<|Zg 45 O ?_ ?_<;>intro e
  ·refine Zv (gW e) (Vd O lm 1) ?_;refine Zv (gW e) (X0 O X8 (o.at 1)) ?_;refine Zv (gW e) (go O O)<|Ze (Xh O e O)<|Zm O<|Zg 50 O ?_ ?_<;>intro f
   ·refine Zv (gW f) (Vd O no 2) ?_;refine Zv (gW f) (X0 O X8 (o.at 2)) ?_;refine Zv (gW f) (go O O)<|Ze (Xh O f O)<|Za O<|Zn fun a j=>?_;exact ⟨j.sub ⟨X1 O (by simp[i,l,e,f]),trivial⟩,O⟩
   (iterate 3 refine Zp (gP f) ?_);exact Ze (X9 O f O)<|Za O<|Zn fun a j=>⟨j.sub ⟨X1 O (by simp[i,l,e,f]),trivial⟩,O⟩
  (iterate 3 refine Zp (gP e) ?_);refine Ze (X9 O e O)<|Zm O<|Zp (gP O) ?_;(iterate 2 refine Zp (gP O) ?_);exact Ze (X9 O O O)<|Za O<|Zn fun a j=>⟨j.sub ⟨X1 O (by simp[i,l,e]),trivial⟩,O⟩
 rintro a _ ⟨j,rfl⟩;refine aB _ _<|Q6 (X4 j (Xu j O O) ?_);exact ⟨by rw[p],hW⟩
def Jf(p:World)(c:Cx)(Ac:Option Addr)(cc:Nat)(aD:Rw p 52 ab Ac c.gs):RE 14 [.agg #[vi c.n,.slice Ac c.gs.length cc]] p (fun v w=>v=.bool (gf c)/\Bl p w):=by
 refine enter func14 O 28 O O ?_;intro a d
 have i:=bz p
 refine ZS d fun aR=>Zf (bt (zs:=[vi c.n,.slice Ac c.gs.length cc]) O O) ?_;rintro _ w1 ⟨b3,rfl,aS,hE,f⟩;have b1:=Q0 i.size aS;have i:=aa i hE;refine Za O<|ZX aR fun a d _ aT=>Q5 fun _ aU=>eo (fun a w=>Fr a 28 [(1,(ae b3)),(14,.bool ((!(bq c.n 1 5))||(decide (400<(c.gs.length:Int)))))]/\w1=w) ?_ ?_
 ·refine Zr d<|Ze (Vd O oY 0)<|Ze (X0 O X8 (f.at 0))<|Zf (Vc (ru _ c.n 1 5) rq) ?_;rintro _ _ ⟨rfl,rfl⟩;refine Ze (dn O)<|Zm O<|Zg 9 O ?_ ?_<;>intro e
  ·(iterate 4 refine Zp (gP e) ?_);exact Ze (Xh O e O)<|Zn fun a d=>⟨d.sub ⟨O,X1 O (by simp[e]),trivial⟩,O⟩
  refine Zv (gW e) (Vd O is 1) ?_;refine Zv (gW e) (X0 O gj (f.at 1)) ?_;refine Zv (gW e) (fh O Xp) ?_;refine Zv (gW e) (oo O O) ?_;refine Ze (X9 O e O) ?_;exact Zn fun a d=>⟨d.sub ⟨O,X1 O (by first|rfl|(simp only[e,bs];done)|simp[e]),trivial⟩,O⟩
 rintro a _ ⟨d,rfl⟩;refine aU _ _<|Xz d O ?_ ?_<;>intro m
 ·have aE:=m
  have hn:(bq c.n 1 5&&decide ((c.gs.length:Int)<=400))=false:=by revert m;cases bq c.n 1 5<;>simp
  exact ZS d fun aW=>Za O<|Zt aW fun a d=>Q6<|X3<|X4 d (Xu d O O)<|⟨by rw[gf,hn];rfl,i⟩
 have aE:=m
 have hy:(bq c.n 1 5&&decide ((c.gs.length:Int)<=400))=true:=by revert m;cases bq c.n 1 5<;>simp
 have aF:=(Qd _ _▸hy:bq c.n 1 5=true/\decide ((c.gs.length:Int)<=400)=true);have hn:=iw.1 aF.1;have b2:=Q2 aF.2;refine Q7<|aT _ _<|Q5 fun _ aX=>ZS d fun aG=>Ze (Vd O is 1)<|Ze (X0 O gj (f.at 1))<|Ze (fh O Xp)<|Zm O<|Zt aG fun a d=>Q8<|Xw (σ:=Nat) (fun (k:Nat) (a:Act) (w:World)=>Fr a 28 [(1,(ae b3)),(16,.slice Ac c.gs.length cc),(17,vi (c.gs.length:Int)),(18,vi (k:Int))]/\(k<=c.gs.length)/\((c.gs.take k).all (fun x=>gp c.n x)=true)/\al w b3 28 [vi c.n,.slice Ac c.gs.length cc]/\Bl p w) (fun (k:Nat)=>c.gs.length+1-k) 0 ?_ ?_
 ·exact ⟨d.sb,(Qf _),O6,f,i⟩
 rintro k a w2 ⟨d,hk,q,f,i⟩;refine ZS d fun aH=>Ze (ew O O)<|ZX aH fun a d _ aI=>eh d O (fun aA aJ=>?_) (fun aA aJ=>?_)
 ·obtain ⟨g,o⟩:=Xe (l:=c.gs) (k:=k) O0
  refine Q7<|aI _ _<|Q5 fun _ aK=>Q8<|ZS d fun aL=>Zi (k:=k) (u:=g) (enc:=ab) (l:=c.gs) ad O O Xp ji Xl (aD.bx i) o O ?_;intro b4 aB;refine Ze (Xt (l:=[vi g.k,vi g.a,vi g.b]) O jd aB O)<|ZB [vi g.k,vi g.a,vi g.b] ql ji fun b5 w4 aM hE aN=>?_;have aY:=Q0 i.size aM;have f:=f.bw hE;have i:=aa i hE;refine Zx aL fun a d _ aO=>Ze (Vd O oY 0)<|Ze (X0 O X8 (f.at 0))<|Ze (Vn jd aN)<|Zf (Vc (Cq _ c.n g hn) DC) ?_;rintro _ w5 ⟨rfl,hE⟩;have f:=f.bw hE;have i:=aa i hE;refine Ze (dn O)<|Zt aO fun a d=>Xz d O ?_ ?_<;>intro j
  ·have aC:(c.gs.any fun x=>!gp c.n x)=true:=tO o j
   exact ZS d fun aP=>Za O<|Zt aP fun a d=>Q6<|Xn<|X3<|X3<|Xn<|X3<|X4 d (Xu d O O)<|⟨by rw[gf,hy,aC];rfl,i⟩
  have aZ:=j
  have b0:gp c.n g=true:=by revert j;cases gp c.n g<;>simp
  exact Q7<|Xk<|aK _ _<|Zr d<|Ze (Xs O O O0 O0)<|Zm O<|Zn fun a d=>Xb<|⟨k+1,⟨d.sb,O0,(sa q o b0),f,i⟩,O0⟩
 refine Q9<|Xf<|Xf<|Xv<|aX _ _<|ZS d fun aQ=>Za O<|Zt aQ fun a d=>Q6 (X4 d (Xu d O O) ?_)
 have aC:(c.gs.any fun x=>!gp c.n x)=false:=tJ (by simpa using sF q O0)
 exact ⟨by rw[gf,hy,aC];rfl,i⟩
def ER(g:World)(n:Int)(Al:Option Addr)(cl:Nat)(l:List Gt)(aD:Rw g 52 ab Al l)(m:Int)(hn:1<=n/\n<=5)(aW:l.length<=2305843009213693951):RE 90 [vi n,.slice Al l.length cl,vi m] g (fun v w=>v=.bool (!(l.any fun x=>!gp n x)&&decide ((l.length:Int)<=m))/\Bl g w):=by
 refine enter func90 O 24 O O ?_;intro a c;have e:=bz g;refine ZS c fun aL=>Za O<|ZX aL fun a c _ aM=>ZS c fun aN=>Zm O<|Ze (fh O Xp)<|Zm O<|Zt aN fun a c=>Q8<|Xw (σ:=Nat) (fun (k:Nat) (a:Act) (w:World)=>Fr a 24 [(0,vi n),(1,.slice Al l.length cl),(2,vi m),(9,.slice Al l.length cl),(10,vi (l.length:Int)),(11,vi (k:Int))]/\(k<=l.length)/\((l.take k).all (fun x=>gp n x)=true)/\Bl g w) (fun (k:Nat)=>l.length+1-k) 0 ?_ ?_
 ·exact ⟨c.sb,(Qf _),O6,e⟩
 intro k a w1 ⟨c,hk,i,e⟩;refine ZS c fun aO=>Ze (ew O O)<|ZX aO fun a c _ aP=>eh c O (fun aE aQ=>?_) (fun aE aQ=>?_)
 ·have ⟨f,aA⟩:=Xe (l:=l) (k:=k) O0;refine Q7<|aP _ _<|Q5 fun _ aR=>Q8<|ZS c fun aF=>Zi (k:=k) (u:=f) (enc:=ab) (l:=l) ad O O Xp ji Xl (aD.bx e) aA O ?_;intro aX aB;refine Ze (Xt (l:=[vi f.k,vi f.a,vi f.b]) O jd aB O)<|ZB [vi f.k,vi f.a,vi f.b] ql ji fun aY w3 aG hE aH=>?_;have aS:=Q0 e.size aG;have e:=aa e hE;refine Zx aF fun a c _ aI=>Zm O<|Ze (Vn jd aH)<|Zf (Vc (Cq _ n f hn) DC) ?_;rintro _ w4 ⟨rfl,hE⟩;have e:=aa e hE;refine Ze (dn O)<|Zt aI fun a c=>Xz c O ?_ ?_<;>intro d
  ·have aC:(l.any fun x=>!gp n x)=true:=tO aA d;exact ZS c fun aJ=>Za O<|Zt aJ fun a c=>Q6<|Xn<|X3<|X3<|Xn<|X3<|X4 c (Xu c O O)<|⟨by rw[aC];rfl,e⟩
  have aT:=d;have aU:gp n f=true:=by revert d;cases gp n f<;>simp
  exact Q7<|Xk<|aR _ _<|Zr c<|Ze (Xs O O O0 O0)<|Zm O<|Zn fun a c=>Xb<|⟨k+1,⟨c.sb,O0,(sa i aA aU),e⟩,O0⟩
 refine Q9<|Xf<|Xf<|Xv<|aM _ _<|ZS c fun aK=>Zm O<|Ze (fh O Xp)<|Zm O<|Ze (se O O)<|Za O<|Zt aK fun a c=>Q6 (X4 c (Xu c O O) ?_);have aC:(l.any fun x=>!gp n x)=false:=tJ (by simpa using sF i O0);exact ⟨by rw[aC];rfl,e⟩
def SM(w0:World)(x:Gt)(y:Gt):RE 48 [.agg #[vi x.k,vi x.a,vi x.b],.agg #[vi y.k,vi y.a,vi y.b]] w0 (fun v w=>v=.bool (decide (x=y))/\Bl w0 w):=by
 refine enter func48 O 20 O O ?_;intro a c;have i:=bz w0;refine ZS c fun aH=>Zf (bt (zs:=[vi x.k,vi x.a,vi x.b]) O O) ?_;rintro _ w1 ⟨b2,rfl,aI,hE,f⟩;have aR:=Q0 i.size aI;have i:=aa i hE;refine Zf (bt (zs:=[vi y.k,vi y.a,vi y.b]) O O) ?_;rintro _ w2 ⟨b3,rfl,aJ,hE,aA⟩;have aG:b2≠b3:=by have:=f.lt;omega
 have aS:=Q0 i.size aJ;have f:=f.bw hE;have i:=aa i hE;refine Za O<|ZX aH fun a c _ aK=>ZS c fun aL=>Ze (Vd O mo 0)<|Ze (X0 O X8 (f.at 0))<|Ze (Vd O mo 0)<|Ze (X0 O X8 (aA.at 0))<|Ze (kz O O)<|Zt aL fun a c=>Xz c O ?_ ?_<;>intro j
 ·have aT:=j;have g:¬ x=y:=by rintro rfl;simp at j
  exact ZS c fun aM=>Za O<|Zt aM fun a c=>Q6<|X3<|X4 c (Xu c O O)<|⟨by simp[g],i⟩
 have e1:x.k=y.k:=by simpa using j
 refine Q7<|aK _ _<|Q5 fun _ aN=>ZS c fun aO=>Ze (Vd O lm 1)<|Ze (X0 O X8 (f.at 1))<|Ze (Vd O lm 1)<|Ze (X0 O X8 (aA.at 1))<|Ze (kz O O)<|Zt aO fun a c=>Xz c O ?_ ?_<;>intro d
 ·have aP:=d;have g:¬ x=y:=by rintro rfl;simp at d
  exact ZS c fun aB=>Za O<|Zt aB fun a c=>Q6<|X3<|X4 c (Xu c O O)<|⟨by simp[g],i⟩
 have e2:x.a=y.a:=by simpa using d
 refine Q7<|aN _ _<|Q5 fun _ aC=>ZS c fun aD=>Ze (Vd O no 2)<|Ze (X0 O X8 (f.at 2))<|Ze (Vd O no 2)<|Ze (X0 O X8 (aA.at 2))<|Ze (kz O O)<|Zt aD fun a c=>Xz c O ?_ ?_<;>intro e
 ·have aQ:=e;have g:¬ x=y:=by rintro rfl;simp at e
  exact ZS c fun aE=>Za O<|Zt aE fun a c=>Q6<|X3<|X4 c (Xu c O O)<|⟨by simp[g],i⟩
 have e3:x.b=y.b:=by simpa using e
 refine Q7<|aC _ _<|ZS c fun aF=>Za O<|Zt aF fun a c=>Q6 (X4 c (Xu c O O) ?_);have he:x=y:=by cases x;cases y;simp_all
 exact ⟨by simp[he],i⟩
def BJ(m:World)(Ap:Option Addr)(cp:Nat)(p:List Gt)(aF:Rw m 52 ab Ap p)(Aq:Option Addr)(cq:Nat)(q:List Gt)(aG:Rw m 52 ab Aq q)(aX:p.length<=2305843009213693951):RE 21 [.slice Ap p.length cp,.slice Aq q.length cq] m (fun v w=>v=.bool (decide (p=q))/\Bl m w):=by
 refine enter func21 O 27 O O ?_;intro a c;have f:=bz m;refine ZS c fun aO=>Za O<|ZX aO fun a c _ aP=>ZS c fun aQ=>Zm O<|Ze (fh O Xp)<|Zm O<|Ze (fh O Xp)<|Ze (kz O O)<|Zt aQ fun a c=>Xz c O ?_ ?_<;>intro g
 ·have aW:=g;have aA:¬ p=q:=by intro h9;rw[h9] at g;simp at g
  exact ZS c fun aR=>Za O<|Zt aR fun a c=>Q6<|X3<|X4 c (Xu c O O)<|⟨by simp[aA],f⟩
 have aY:p.length=q.length:=by have h9:(p.length:Int)=q.length:=(by simpa using g);omega
 refine Q7<|aP _ _<|Q5 fun _ aS=>ZS c fun aT=>Za O<|Zt aT fun a c=>Q8<|Xw (σ:=Nat) (fun (k:Nat) (a:Act) (w:World)=>Fr a 27 [(0,.slice Ap p.length cp),(1,.slice Aq q.length cq),(5,vi (k:Int))]/\(k<=p.length)/\(p.take k=q.take k)/\Bl m w) (fun (k:Nat)=>p.length-k) 0 ?_ ?_
 ·exact ⟨c.sb,(Qf _),O6,f⟩
 intro k a w1 ⟨c,hk,i,f⟩;refine Q5 fun _ aH=>ZS c fun aI=>Zm O<|Zm O<|Ze (fh O Xp)<|Ze (ew O O)<|Zt aI fun a c=>eh c O (fun aB aJ=>?_) (fun aB aJ=>?_)
 ·have ⟨e,j⟩:=Xe (l:=p) (k:=k) O0;have ⟨v9,n⟩:=Xe (l:=q) (k:=k) O0;refine Q7<|aH _ _<|Q5 fun _ aK=>Q8<|Q5 fun _ aL=>gx none (fun _=>false) mixed ?_;intro w2 hE;have f:=aa f hE;refine Yb c<|Yo 0 O (fun _=>X7 O)<|Yo 1 O (fun _=>X7 O)<|Yi (k:=k) (u:=e) (enc:=ab) (l:=p) 2 O ad O O Xp ji Xl (aF.bx f) j O ?_;intro aZ aC;refine Ye 3 O (Xt (l:=[vi e.k,vi e.a,vi e.b]) O jd aC O)<|Yo 4 O (fun _=>X7 O)<|Yo 5 O (fun _=>X7 O)<|Yi (k:=k) (u:=v9) (enc:=ab) (l:=q) 6 O ad O O Xp ji Xl (aG.bx f) n O ?_;intro b0 aD;refine Ye 7 O (Xt (l:=[vi v9.k,vi v9.a,vi v9.b]) O jd aD O)<|Y1 8<|Yk O ad (Vc (SM _ e v9) QX) (fun _ _ ⟨_,hE⟩=>hE) ?_;rintro _ w3 ⟨rfl,hE⟩;have f:=aa f hE;refine Yo 9 O (fun _=>dn O)<|Yd fun a c=>aL _ _<|Xz c O ?_ ?_<;>intro d
  ·have aE:=d;have aA:¬ p=q:=by rintro rfl;rw[j] at n;injection n with e9;revert d;simp[e9]
   exact ZS c fun aM=>Za O<|Zt aM fun a c=>Q6<|Xn<|X3<|X3<|Xn<|X3<|X4 c (Xu c O O)<|⟨by simp[aA],f⟩
  have aE:=d;have aU:e=v9:=by revert d;simp
  exact Q7<|Xk<|aK _ _<|Zr c<|Zm O<|Ze (Xs O O O0 O0)<|Za O<|Zn fun a c=>Xb<|⟨k+1,⟨c.sb,O0,(uV i j n aU),f⟩,O0⟩
 refine Q9<|Xf<|Xf<|Xv<|aS _ _<|ZS c fun aN=>Za O<|Zt aN fun a c=>Q6 (X4 c (Xu c O O) ?_);have he:p=q:=by rw[Qi O0,Qi O0] at i;exact i
 exact ⟨by simp[he],f⟩
def NB(w0:World)(n:Int)(g:Gt)(s0:Int)(hg:gp n g=true)(aE:9<=g.k/\g.k<=11):RE 155 [vi n,.agg #[vi g.k,vi g.a,vi g.b],vi s0] w0 (fun v w=>v=vi (nt n g s0)/\Bl w0 w):=by
 have aA:=qe hg;have aN:=aA.2.2.1 O0;have aO:=aA.2.2.2 aE;refine enter func155 O 51 O O ?_;intro a d;have l:=bz w0;refine ZS d fun aF=>Zf (bt (zs:=[vi g.k,vi g.a,vi g.b]) O O) ?_;rintro _ w1 ⟨b2,rfl,aG,hE,e⟩;have aM:=Q0 l.size aG;have l:=aa l hE;refine Za O<|ZX aF fun a d _ aH=>gx none (fun _=>false) mixed ?_;intro w2 hE;have e:=e.bw hE;have l:=aa l hE;refine Yb d<|Yo 0 O (fun _=>X7 O)<|Yo 1 O (fun _=>X7 O)<|Yo 2 O (fun _=>Vd O lm 1)<|Ye 3 O (X0 O X8 (e.at 1))<|Yo 5 O (fun _=>X7 O)<|Yo 6 O (fun _=>X7 O)<|Yo 7 O (fun _=>Vd O no 2)<|Ye 8 O (X0 O X8 (e.at 2))<|Y1 4<|Yz O ad (Vc (vD _ n s0 g.a O0 O0 O0) vy) ?_;refine Y1 9<|Yz O ad (Vc (vD _ n s0 g.b O0 O0 O0) vy)<|Yo 10 O (fun _=>kk O)<|Yo 11 O (fun _=>kk O)<|Yd fun a d=>aH _ _<|Q5 fun _ aI=>Q8<|Q5 fun _ aJ=>eo (fun a w=>Fr a 51 [(0,vi n),(2,vi s0),(4,(ae b2)),(7,vi (d_ n s0 g.a)),(8,vi (d_ n s0 g.b)),(19,.bool ((g.k==9)&&((d_ n s0 g.a)==1)))]/\w2=w) ?_ ?_
 ·refine Zr d<|Ze (Vd O mo 0)<|Ze (X0 O X8 (e.at 0))<|Ze (go O O)<|Zm O<|Zg 23 O ?_ ?_<;>intro f
  ·refine Zv (gW f) (X7 O) ?_;refine Zv (gW f) (go O O)<|Ze (Xh O f O)<|Za O<|Zn fun a d=>?_;exact ⟨d.sub ⟨O,O,O,O,O,X1 O (by simp[f]),trivial⟩,O⟩
  (iterate 2 refine Zp (gP f) ?_);exact Ze (X9 O f O)<|Za O<|Zn fun a d=>⟨d.sub ⟨O,O,O,O,O,X1 O (by simp[f]),trivial⟩,O⟩
 rintro a _ ⟨d,rfl⟩;refine aJ _ _<|Xz d O ?_ ?_<;>intro i
 ·have h9:g.k=9/\d_ n s0 g.a=1:=by simpa using i
  refine ZS d fun aK=>Zm O<|Zm O<|Ze (Vd O no 2)<|Ze (X0 O X8 (e.at 2))<|Zf (Vc (zP _ n s0 g.b O0 O0 O0) y') ?_;rintro _ _ ⟨rfl,rfl⟩;exact Za O<|Zt aK fun a d=>Q6<|Xn<|X3<|X4 d (Xu d O O)<|⟨by rw[nt,Q4 h9.1,Q4 h9.2],l⟩
 have h9:g.k=9->¬ d_ n s0 g.a=1:=by simpa using i
 refine Q5 fun _ aL=>eo (fun a w=>Fr a 51 [(0,vi n),(2,vi s0),(4,(ae b2)),(32,.bool ((g.k==11)&&((d_ n s0 g.a) != (d_ n s0 g.b))))]/\w2=w) ?_ ?_
 ·refine Zr d<|Ze (Vd O mo 0)<|Ze (X0 O X8 (e.at 0))<|Ze (go O O)<|Zm O<|Zg 36 O ?_ ?_<;>intro c
  ·refine Zv (gW c) (X7 O) ?_;refine Zv (gW c) (X7 O) ?_;refine Zv (gW c) (kz O O)<|Ze (Xh O c O)<|Za O<|Zn fun a d=>?_;exact ⟨d.sub ⟨O,O,O,X1 O (by simp[i,c]),trivial⟩,O⟩
  (iterate 3 refine Zp (gP c) ?_);exact Ze (X9 O c O)<|Za O<|Zn fun a d=>⟨d.sub ⟨O,O,O,X1 O (by simp[i,c]),trivial⟩,O⟩
 rintro a _ ⟨d,rfl⟩;refine aL _ _<|Xz d O ?_ ?_<;>intro j
 ·have m:g.k=11/\¬ d_ n s0 g.a=d_ n s0 g.b:=by simpa using j
  refine Q5 fun _ aB=>gx none (fun _=>false) mixed ?_;intro w3 hE;have e:=e.bw hE;have l:=aa l hE;refine Yb d<|Yo 0 O (fun _=>X7 O)<|Yo 1 O (fun _=>X7 O)<|Yo 2 O (fun _=>X7 O)<|Yo 3 O (fun _=>Vd O lm 1)<|Ye 4 O (X0 O X8 (e.at 1))<|Yo 6 O (fun _=>Vd O no 2)<|Ye 7 O (X0 O X8 (e.at 2))<|Y1 5<|Yz O ad (Vc (zP _ n s0 g.a O0 O0 O0) y') ?_;exact Y1 8<|Yz O ad (Vc (zP _ n (kg n s0 g.a) g.b O0 O0 O0) y')<|Yo 9 O (fun _=>kk O)<|Yd fun a d=>aB _ _<|Q6<|Xn<|X3<|X4 d (Xu d O O)<|⟨by rw[nt,Q3 O0,Q4 m.1,Q4 m.2],l⟩
 have m:g.k=11->d_ n s0 g.a=d_ n s0 g.b:=by simpa using j
 refine Q7<|Xk<|aI _ _<|ZS d fun aC=>Zm O<|Za O<|Zt aC fun a d=>Q6 (X4 d (Xu d O O) ?_);have aD:nt n g s0=s0:=by unfold nt;split;rw[Q3 (h9 O9)];split;rw[Q3 (by simpa using m O9)];rfl
 exact ⟨by rw[aD],l⟩
def qx(p:Int×Int×Nat) : MapEntry:={ key:=.int .i64 p.1,val:=.int .i64 p.2.1,born:=p.2.2 }
def kl(w:World)(b:Nat)(l:List (Int×Int×Nat))(clock:Nat) : Prop:=w.heap[b]? = some (.map (l.map qx).toArray clock)
def Fb{k:IntKind}{x:Int}:∀ (l:List (Int×Int×Nat)) (i:Nat),(l.all fun p=>p.1 != x)=true->Instr.findNow (.int k) (.int .i64 x) (l.map qx) i=some none
 | [],_,_=>rfl
 | p::l,i,h=>by
  simp only[List.all_cons,Qd,bne_iff_ne] at h;have h1:(x==p.1)=false:=by simpa using Ne.symm h.1
  simp only[List.map_cons,Instr.findNow,qx,Instr.sameNow,if_true,h1];exact Fb l (i+1) h.2
def G1{k:IntKind}{x v:Int}:∀ (l:List (Int×Int×Nat)) (i:Nat),(l.find? fun p=>p.1==x).map (fun p=>p.2.1)=some v->∃ j,Instr.findNow (.int k) (.int .i64 x) (l.map qx) i=some (some (j,.int .i64 v))
 | [],_,h=>by cases h
 | p::l,i,h=>by
  by_cases hx:p.1=x
  ·refine ⟨i,?_⟩;have h1:(p.1==x)=true:=by simpa using hx
   simp only[List.find?_cons,h1,Option.map_some,Option.some.injEq] at h;have h2:(x==p.1)=true:=by simpa using hx.symm
   simp only[List.map_cons,Instr.findNow,qx,Instr.sameNow,if_true,h2,h]
  ·have h1:(p.1==x)=false:=by simpa using hx
   simp only[List.find?_cons,h1] at h;have ⟨j,hj⟩:=G1 (k:=k) l (i+1) h;refine ⟨j,?_⟩;have h2:(x==p.1)=false:=by simpa using fun e=>hx e.symm
   simp only[List.map_cons,Instr.findNow,qx,Instr.sameNow,if_true,h2];exact hj
def kl.bw{w w':World}{b clock:Nat}{l:List (Int×Int×Nat)}(h:kl w b l clock)(hb:Bl w w'):kl w' b l clock:=by
 have hlt:b<w.heap.size:=by
  rcases W4 b w.heap.size with h'|h'
  ·exact h'
  ·simp[kl,We h'] at h
 exact (hb.block b hlt).trans h
def kl.oy{w w':World}{b b' clock:Nat}{l:List (Int×Int×Nat)}(h:kl w b l clock)(ho:iq b' w w')(hne:b≠b'):kl w' b l clock:=(ho.block b hne).trans h
def kl.ne{w:World}{b b' clock:Nat}{l:List (Int×Int×Nat)}{T:TypeId}{cs:List Value}(h:kl w b l clock)(hb:al w b' T cs):b≠b':=by grind [al,kl]
section
variable {P : Program} {a : Act} {w : World} {n : Nat} {e : kt} {ty : TypeId} {pos : String} {af : Array Edge} {g : Option (Nat × Bool)} {d : Option Tmp}
theorem M3{T:TypeId}:Ef P ⟨d,.makeMap T none,ty,pos,af,g⟩ a w (fun v w'=>∃ b,v=.map (some b)/\w.heap.size<=b/\Bl w w'/\kl w' b [] 0):=by
 refine (Ef.of_run (v:=.map (some w.heap.size)) (w':=w.alloc (.map #[] 0)) ?_).mono fun v w' ⟨e1,e2⟩=>?_
 ·rfl
 ·subst e1;subst e2;exact ⟨_,O,Qb _,(Below.refl _ _).alloc (Qb _) _,heap_alloc_new w _⟩
theorem TH{n:Nat}{e:List (Nat×Value)}{T:TypeId}:fd P ⟨d,.makeMap T none,ty,pos,af,g⟩ n e w (fun v w'=>∃ b,v=.map (some b)/\w.heap.size<=b/\Bl w w'/\kl w' b [] 0):=fun a _=>M3
theorem LB{T K E:TypeId}{m x y:Operand}{b clock:Nat}{l:List (Int×Int×Nat)}{i j:Int}(hf:Fr a n e)(hm:ev e m=some (.map (some b)))(hx:ev e x=some (.int .i64 i))(hy:ev e y=some (.int .i64 j))(hT:P.underlying T=some (.map K E))(hK:P.underlying K=some (.int .i64))(hM:kl w b l clock)(hnew:(l.all fun p=>p.1 != i)=true) :
  Ef P ⟨d,.insert T m x y,ty,pos,af,g⟩ a w (fun _ w'=>iq b w w'/\kl w' b (l++[(i,j,clock)]) (clock+1)):=by
 have hfind:=Fb (k:=.i64) l 0 hnew;have hck:(Instr.checkKey false 10000 K (.int .i64 i)).run P w=.ok () w:=MapKept.run_checkKey hK (show MapKept.IsKey (.int .i64) (.int .i64 i) from O) false 9999;have hlt:b<w.heap.size:=by
  rcases W4 b w.heap.size with h'|h'
  ·exact h'
  ·simp[kl,We h'] at hM
 unfold kl at hM;refine (Ef.of_skip (w':={ w with heap:=w.heap.setIfInBounds b (.map ((l++[(i,j,clock)]).map qx).toArray (clock+1)) }) ?_).mono fun v w' ⟨_,e2⟩=>?_
 ·simp[execOp,Instr.mapUpdate,hf.ev hm,hf.ev hx,hf.ev hy,pM hT,getObj,hM,hck,Instr.findKey,pM hK,hfind,setObj,Sem.run,qx]
 ·subst e2;refine ⟨⟨O,O,O,by simp,fun k hk=>?_⟩,?_⟩
  ·show (w.heap.setIfInBounds b _)[k]? = _;rw[Wh (Ne.symm hk)]
  ·show (w.heap.setIfInBounds b _)[b]? = _;simp[hlt]
theorem xv{T K E:TypeId}{m x y:Operand}{b clock:Nat}{l:List (Int×Int×Nat)}{i j:Int}(hm:ev e m=some (.map (some b)))(hx:ev e x=some (.int .i64 i))(hy:ev e y=some (.int .i64 j))(hT:P.underlying T=some (.map K E))(hK:P.underlying K=some (.int .i64))(hM:kl w b l clock)(hnew:(l.all fun p=>p.1 != i)=true):fd P ⟨d,.insert T m x y,ty,pos,af,g⟩ n e w (fun _ w'=>iq b w w'/\kl w' b (l++[(i,j,clock)]) (clock+1)):=fun a hf=>LB hf hm hx hy hT hK hM hnew
theorem NP{T K E:TypeId}{m x:Operand}{b clock:Nat}{l:List (Int×Int×Nat)}{i v:Int}(hf:Fr a n e)(hm:ev e m=some (.map (some b)))(hx:ev e x=some (.int .i64 i))(hT:P.underlying T=some (.map K E))(hK:P.underlying K=some (.int .i64))(hM:kl w b l clock)(hv:(l.find? fun p=>p.1==i).map (fun p=>p.2.1)=some v) :
  Ev P ⟨d,.lookup T m x false,ty,pos,af,g⟩ a w (.int .i64 v):=fun w' hw=>by
 have ⟨j,hj⟩:=G1 (k:=.i64) l 0 hv;have hM':=hM.bw hw;have hck:∀ em,(Instr.checkKey em 10000 K (.int .i64 i)).run P w'=.ok () w':=fun em=>MapKept.run_checkKey hK (show MapKept.IsKey (.int .i64) (.int .i64 i) from O) em 9999;unfold kl at hM';simp[execOp,Instr.lookup,hf.ev hm,hf.ev hx,pM hT,getObj,Sem.run,hM',hck,Instr.findKey,pM hK,hj]
theorem KY{T K E:TypeId}{m x:Operand}{b clock:Nat}{l:List (Int×Int×Nat)}{i v:Int}(hm:ev e m=some (.map (some b)))(hx:ev e x=some (.int .i64 i))(hT:P.underlying T=some (.map K E))(hK:P.underlying K=some (.int .i64))(hM:kl w b l clock)(hv:(l.find? fun p=>p.1==i).map (fun p=>p.2.1)=some v):iv P ⟨d,.lookup T m x false,ty,pos,af,g⟩ n e w (.int .i64 v):=fun a hf=>NP hf hm hx hT hK hM hv
end
theorem Tn(w0:World)(k:Int)(i:Int)(j:Int)(hk:1<=k/\k<=8)(hj:j=0∨j=1):RE 158 [vi k,vi i,vi j] w0 (fun v w=>v=dV (gn k i j)/\Bl w0 w):=by
 refine enter func158 O 67 O O ?_;intro a f;have g:=bz w0;refine ZS f fun aO=>Zf (Xi (zs:=[vi 0,vi 0,vi 0,vi 0,vi 0]) iu O) ?_;rintro _ w1 ⟨b2,rfl,aP,D,e⟩;have C:=Q0 g.size aP;have g:=aa g D;refine Zx aO fun a f _ aQ=>Ze (Xg (ps:=[(0,vi 1)]) (cs:=[vi 1,vi 0,vi 0,vi 0]) O (fun _=>by first|rfl|kernel_rfl))<|Ze (Xg (ps:=[(0,.agg #[vi 1,vi 0,vi 0,vi 0]),(1,vi 1)]) (cs:=[vi 1,vi 0,vi 0,vi 0,vi 1]) O (fun _=>by first|rfl|kernel_rfl))<|ZB [vi 1,vi 0,vi 0,vi 0,vi 1] iu Xm fun b4 w3 aR D n=>?_;have aN:b2≠b4:=by have:=e.lt;omega
 have aA:=Q0 g.size aR;have e:=e.bw D;have g:=aa g D;refine Zx aQ fun a f _ aS=>Zf (TH) ?_;rintro _ w4 ⟨b6,rfl,aT,D,o⟩;have E:=Q0 g.size aT;have ⟨e,n,g⟩:=bh D e n g;refine Zo (xv (l:=[]) (clock:=0) O O O underlying209 underlying3 o O) ?_;intro _ w5 ⟨q,m⟩;have e:=e.oy q (Ne.symm (o.ne e));have n:=n.oy q (Ne.symm (o.ne n));have g:=Below.oy g q E;have o:=m;clear m q;refine Zo (xv (l:=[(4,4,0)]) (clock:=1) O O O underlying209 underlying3 o O) ?_;intro _ w6 ⟨q,m⟩;have e:=e.oy q (Ne.symm (o.ne e));have n:=n.oy q (Ne.symm (o.ne n));have g:=Below.oy g q E;have o:=m;clear m q;refine Zo (xv (l:=[(4,4,0),(5,2,1)]) (clock:=2) O O O underlying209 underlying3 o O) ?_;intro _ w7 ⟨q,m⟩;have e:=e.oy q (Ne.symm (o.ne e));have n:=n.oy q (Ne.symm (o.ne n));have g:=Below.oy g q E;have o:=m;clear m q;refine Zo (xv (l:=[(4,4,0),(5,2,1),(6,6,2)]) (clock:=3) O O O underlying209 underlying3 o O) ?_;intro _ w8 ⟨q,m⟩;have e:=e.oy q (Ne.symm (o.ne e));have n:=n.oy q (Ne.symm (o.ne n));have g:=Below.oy g q E;have o:=m;clear m q;refine Zo (xv (l:=[(4,4,0),(5,2,1),(6,6,2),(7,1,3)]) (clock:=4) O O O underlying209 underlying3 o O) ?_;intro _ w9 ⟨q,m⟩;have e:=e.oy q (Ne.symm (o.ne e));have n:=n.oy q (Ne.symm (o.ne n));have g:=Below.oy g q E;have o:=m;clear m q;refine Zm O<|Za O<|ZX aS fun a f _ aU=>Q8<|ZS f fun aW=>Zm O<|Ze (go O O)<|Za O<|Zt aW fun a f=>Xz f O ?_ ?_<;>intro p
 ·have L:k=1:=by simpa using p
  refine Q5 fun _ M=>Q5 fun _ aB=>eo (fun a w=>Fr a 67 [(6,(ae b2)),(7,(ae b4)),(21,.bool ((i==1)&&(j==1)))]/\w9=w) ?_ ?_
  ·refine Zr f<|Zm O<|Ze (go O O)<|Zm O<|Zg 18 O ?_ ?_<;>intro A
   ·refine Zv (gW A) (X7 O) ?_;refine Zv (gW A) (go O O)<|Ze (Xh O A O)<|Zn fun a f=>?_;exact ⟨f.sub ⟨O,O,X1 O (by simp[p,A]),trivial⟩,O⟩
   (iterate 2 refine Zp (gP A) ?_);exact Ze (X9 O A O)<|Zn fun a f=>⟨f.sub ⟨O,O,X1 O (by simp[p,A]),trivial⟩,O⟩
  rintro a _ ⟨f,rfl⟩;refine aB _ _<|Xz f O ?_ ?_<;>intro H
  ·have t:gn k i j=⟨⟨-1,0,0,0⟩,1⟩:=by rw[gn,Q4 L,Q4 (by simpa using H)]
   refine Zr f<|Ze (Vd O pG 0)<|Ze (Vd O lz 0)<|Zo (Vu (vs:=[vi (-1)]) (l':=[vi (-1),vi 0,vi 0,vi 0,vi 1]) O O jw n) ?_;intro _ aY ⟨q,G⟩;have e:=e.oy q O0;have g:=Below.oy g q aA;have n:=G;refine Zx M fun a f _ aC=>Ze (Vn Xa n)<|Zo (Vw [vi (-1),vi 0,vi 0,vi 0,vi 1] Xm e) ?_;intro _ aZ ⟨q,G⟩;have g:=Below.oy g q C;have e:=G;exact Zt aC fun a f=>Q6<|Xn<|X3<|X4 f (Xu f O (an.cellN (l:=[vi (-1),vi 0,vi 0,vi 0,vi 1]) O Xa (e.at 0) O))<|⟨(by rw[t];try rfl),g⟩
  have t:gn k i j=qa:=by rw[gn,Q4 L,Q3 (by simpa using H)]
  refine Q7<|M _ _<|ZS f fun aD=>Ze (Vn Xa n)<|Zo (Vw [vi 1,vi 0,vi 0,vi 0,vi 1] Xm e) ?_;intro _ b0 ⟨q,G⟩;have g:=Below.oy g q C;have e:=G;exact Zt aD fun a f=>Q6<|Xn<|X3<|X4 f (Xu f O (an.cellN (l:=[vi 1,vi 0,vi 0,vi 0,vi 1]) O Xa (e.at 0) O))<|⟨(by rw[t];try rfl),g⟩
 have L:¬ k=1:=by simpa using p
 refine Q5 fun _ aE=>eo (fun a w=>Fr a 67 [(0,vi k),(1,vi i),(2,vi j),(6,(ae b2)),(8,.map (some b6)),(25,.bool ((k==2)&&(i != j)))]/\w9=w) ?_ ?_
 ·refine Zr f<|Zm O<|Ze (go O O)<|Zm O<|Zg 28 O ?_ ?_<;>intro u
  ·refine Zv (gW u) (X7 O) ?_;refine Zv (gW u) (X7 O) ?_;refine Zv (gW u) (kz O O)<|Ze (Xh O u O)<|Za O<|Zn fun a f=>?_;exact ⟨f.sub ⟨O,O,O,O,O,X1 O (by simp[p,u]),trivial⟩,O⟩
  (iterate 3 refine Zp (gP u) ?_);exact Ze (X9 O u O)<|Za O<|Zn fun a f=>⟨f.sub ⟨O,O,O,O,O,X1 O (by simp[p,u]),trivial⟩,O⟩
 rintro a _ ⟨f,rfl⟩;refine aE _ _<|Xz f O ?_ ?_<;>intro x
 ·have t:gn k i j=⟨⟨1,0,0,0⟩,0⟩:=by rw[gn,Q3 L,Q4 (by simpa using x)]
  refine ZS f fun aF=>Zf (Vc (vZ _ 1) wn) ?_;rintro _ b1 ⟨rfl,D⟩;have e:=e.bw D;have g:=aa g D;refine Zo (Vw [vi ((⟨⟨1,0,0,0⟩,0⟩ : Dy).num.a),vi ((⟨⟨1,0,0,0⟩,0⟩ : Dy).num.b),vi ((⟨⟨1,0,0,0⟩,0⟩ : Dy).num.c),vi ((⟨⟨1,0,0,0⟩,0⟩ : Dy).num.d),vi ((⟨⟨1,0,0,0⟩,0⟩ : Dy).exp)] Xm e) ?_;intro _ b3 ⟨q,G⟩;have g:=Below.oy g q C;have e:=G;exact Zt aF fun a f=>Q6<|Xn<|X3<|X4 f (Xu f O (an.cellN (l:=[vi ((⟨⟨1,0,0,0⟩,0⟩ : Dy).num.a),vi ((⟨⟨1,0,0,0⟩,0⟩ : Dy).num.b),vi ((⟨⟨1,0,0,0⟩,0⟩ : Dy).num.c),vi ((⟨⟨1,0,0,0⟩,0⟩ : Dy).num.d),vi ((⟨⟨1,0,0,0⟩,0⟩ : Dy).exp)]) O Xa (e.at 0) O))<|⟨(by rw[t];try rfl),g⟩
 have e2:¬ (k=2/\i≠j):=by simpa using x
 refine Q5 fun _ aG=>eo (fun a w=>Fr a 67 [(0,vi k),(1,vi i),(2,vi j),(6,(ae b2)),(8,.map (some b6)),(34,.bool ((k==3)&&(i != j)))]/\w9=w) ?_ ?_
 ·refine Zr f<|Zm O<|Ze (go O O)<|Zm O<|Zg 37 O ?_ ?_<;>intro y
  ·refine Zv (gW y) (X7 O) ?_;refine Zv (gW y) (X7 O) ?_;refine Zv (gW y) (kz O O)<|Ze (Xh O y O)<|Za O<|Zn fun a f=>?_;exact ⟨f.sub ⟨O,O,O,O,O,X1 O (by simp[p,x,y]),trivial⟩,O⟩
  (iterate 3 refine Zp (gP y) ?_);exact Ze (X9 O y O)<|Za O<|Zn fun a f=>⟨f.sub ⟨O,O,O,O,O,X1 O (by simp[p,x,y]),trivial⟩,O⟩
 rintro a _ ⟨f,rfl⟩;refine aG _ _<|Xz f O ?_ ?_<;>intro B
 ·have aX:k=3/\i≠j:=(by simpa using B);have t:gn k i j=ac (2+4*j):=by rw[gn,Q3 L,Q3 e2,Q4 aX]
  refine ZS f fun aH=>Zm O<|Ze (sC O O O0 O0)<|Ze (Xs O O O0 O0)<|Zf (Vc (tS _ (2+(4*j)) (iw.2 ⟨by omega,by omega⟩)) tP) ?_;rintro _ b5 ⟨rfl,D⟩;have e:=e.bw D;have g:=aa g D;refine Zo (Vw [vi ((ac (2+(4*j))).num.a),vi ((ac (2+(4*j))).num.b),vi ((ac (2+(4*j))).num.c),vi ((ac (2+(4*j))).num.d),vi ((ac (2+(4*j))).exp)] Xm e) ?_;intro _ b7 ⟨q,G⟩;have g:=Below.oy g q C;have e:=G;exact Zt aH fun a f=>Q6<|Xn<|X3<|X4 f (Xu f O (an.cellN (l:=[vi ((ac (2+(4*j))).num.a),vi ((ac (2+(4*j))).num.b),vi ((ac (2+(4*j))).num.c),vi ((ac (2+(4*j))).num.d),vi ((ac (2+(4*j))).exp)]) O Xa (e.at 0) O))<|⟨(by rw[t];try rfl),g⟩
 have e3:¬ (k=3/\i≠j):=by simpa using B
 refine Q5 fun _ aI=>eo (fun a w=>Fr a 67 [(0,vi k),(1,vi i),(6,(ae b2)),(8,.map (some b6)),(46,.bool (((k==2)||(k==3))||(i != j)))]/\w9=w) ?_ ?_
 ·refine Zr f<|Zm O<|Ze (go O O)<|Zm O<|Zg 49 O ?_ ?_<;>intro z
  ·(iterate 2 refine Zp (gP z) ?_);refine Ze (Xh O z O)<|Zm O<|Zp (gP O) ?_;(iterate 2 refine Zp (gP O) ?_);exact Ze (Xh O O O)<|Za O<|Zn fun a f=>⟨f.sub ⟨O,O,O,O,X1 O (by simp[p,x,B,z]),trivial⟩,O⟩
  refine Zv (gW z) (X7 O) ?_;refine Zv (gW z) (go O O)<|Ze (X9 O z O)<|Zm O<|Zg 53 O ?_ ?_<;>intro h
  ·(iterate 3 refine Zp (gP h) ?_);exact Ze (Xh O h O)<|Za O<|Zn fun a f=>⟨f.sub ⟨O,O,O,O,X1 O (by simp[p,x,B,z,h]),trivial⟩,O⟩
  refine Zv (gW h) (X7 O) ?_;refine Zv (gW h) (X7 O) ?_;refine Zv (gW h) (kz O O)<|Ze (X9 O h O)<|Za O<|Zn fun a f=>?_;exact ⟨f.sub ⟨O,O,O,O,X1 O (by simp[p,x,B,z,h]),trivial⟩,O⟩
 rintro a _ ⟨f,rfl⟩;refine aI _ _<|Xz f O ?_ ?_<;>intro I
 ·have t:gn k i j=dZ:=by rw[gn,Q3 L,Q3 e2,Q3 e3,Q4 (by simpa[or_assoc] using I)]
  refine ZS f fun aJ=>Ze (Xg (ps:=[]) (cs:=[vi 0,vi 0,vi 0,vi 0,vi 0]) O (fun _=>by first|rfl|kernel_rfl))<|Zo (Vw [vi 0,vi 0,vi 0,vi 0,vi 0] Xm e) ?_;intro _ b8 ⟨q,G⟩;have g:=Below.oy g q C;have e:=G;exact Zt aJ fun a f=>Q6<|Xn<|X3<|X4 f (Xu f O (an.cellN (l:=[vi 0,vi 0,vi 0,vi 0,vi 0]) O Xa (e.at 0) O))<|⟨(by rw[t];try rfl),g⟩
 have e4:¬ (k=2∨k=3∨i≠j):=by simpa[not_or,and_assoc] using I
 refine ZS f fun aK=>Zm O<|Ze (go O O)<|Za O<|Zt aK fun a f=>Xz f O ?_ ?_<;>intro J
 ·have t:gn k i j=⟨⟨1,0,0,0⟩,0⟩:=by rw[gn,Q3 L,Q3 e2,Q3 e3,Q3 e4,Q4 (by simpa using J)]
  refine ZS f fun aL=>Zf (Vc (vZ _ 1) wn) ?_;rintro _ b9 ⟨rfl,D⟩;have e:=e.bw D;have g:=aa g D;refine Zo (Vw [vi ((⟨⟨1,0,0,0⟩,0⟩ : Dy).num.a),vi ((⟨⟨1,0,0,0⟩,0⟩ : Dy).num.b),vi ((⟨⟨1,0,0,0⟩,0⟩ : Dy).num.c),vi ((⟨⟨1,0,0,0⟩,0⟩ : Dy).num.d),vi ((⟨⟨1,0,0,0⟩,0⟩ : Dy).exp)] Xm e) ?_;intro _ bC ⟨q,G⟩;have g:=Below.oy g q C;have e:=G;exact Zt aL fun a f=>Q6<|Xn<|X3<|X4 f (Xu f O (an.cellN (l:=[vi ((⟨⟨1,0,0,0⟩,0⟩ : Dy).num.a),vi ((⟨⟨1,0,0,0⟩,0⟩ : Dy).num.b),vi ((⟨⟨1,0,0,0⟩,0⟩ : Dy).num.c),vi ((⟨⟨1,0,0,0⟩,0⟩ : Dy).num.d),vi ((⟨⟨1,0,0,0⟩,0⟩ : Dy).exp)]) O Xa (e.at 0) O))<|⟨(by rw[t];try rfl),g⟩
 have t:gn k i j=ac (dz k):=by rw[gn,Q3 L,Q3 e2,Q3 e3,Q3 e4,Q3 (by simpa using J)]
 refine Q7<|Xk<|aU _ _<|ZS f fun aM=>Zm O<|Zm O<|Ze (KY (v:=(dz k)) O O underlying209 underlying3 o (OG O0 O0))<|Zf (Vc (tS _ (dz k) (PA k)) tP) ?_;rintro _ bD ⟨rfl,D⟩;have e:=e.bw D;have g:=aa g D;refine Zo (Vw [vi ((ac (dz k)).num.a),vi ((ac (dz k)).num.b),vi ((ac (dz k)).num.c),vi ((ac (dz k)).num.d),vi ((ac (dz k)).exp)] Xm e) ?_;intro _ bE ⟨q,G⟩;have g:=Below.oy g q C;have e:=G;refine Zt aM fun a f=>Q6 (X4 f (Xu f O (an.cellN (l:=[vi ((ac (dz k)).num.a),vi ((ac (dz k)).num.b),vi ((ac (dz k)).num.c),vi ((ac (dz k)).num.d),vi ((ac (dz k)).exp)]) O Xa (e.at 0) O)) ?_);exact ⟨(by rw[t];try rfl),g⟩
abbrev Zz:=fun (a:Gt) b c=>((a.k==10)&&((d_ b c a.a)==1))&&((d_ b c a.b)==1)
abbrev YF:=fun (a:Gt) b c d=>gn a.k (d_ b c a.a) (d_ b d a.a)
theorem Ki(J:World)(g:Gt)(n:Int)(ba bb:Nat)(f:al J ba 52 (ab g))(m:al J bb 3 [vi n])(hg:gp n g=true)(i j:Int):RE 154 [vi i,vi j,(ae ba),(ae bb)] J (fun v w=>v=.tuple #[dV (e_ n g i j),.bool true]/\Bl J w):=by
 have aL:=f.lt;have aM:=m.lt;unfold ab at f;have aC:=qe hg;have aD:=ti n j g.a;refine enter func154 O 75 O O ?_;intro a t;have u:=bz J;refine ZS t fun aN=>Zf (Xi (zs:=[vi 0,vi 0,vi 0,vi 0,vi 0]) iu O) ?_;rintro _ w1 ⟨b2,rfl,aO,x,e⟩;have A:=Q0 u.size aO;have ⟨f,m,u⟩:=bh x f m u;refine Za O<|ZX aN fun a t _ aA=>Q8<|ZS t fun aP=>Ze (Vd O mo 0)<|Ze (X0 O X8 (f.at 0))<|Ze (go O O)<|Za O<|Zt aP fun a t=>Xz t O ?_ ?_<;>intro B
 ·have L:=eq_of_beq B;refine ZS t fun aQ=>Zm O<|Zm O<|Ze (go O O)<|Zt aQ fun a t=>Xz t O ?_ ?_<;>intro aB
  ·have y:e_ n g i j=ac 1:=by rw[e_,Q4 L,Q4 (eq_of_beq aB)]
   refine ZS t fun aR=>Zf (Vc (tS _ 1 (by rfl)) tP) ?_;rintro _ w2 ⟨rfl,x⟩;have e:=e.bw x;have u:=aa u x;refine Zo (Vw [vi ((ac 1).num.a),vi ((ac 1).num.b),vi ((ac 1).num.c),vi ((ac 1).num.d),vi ((ac 1).exp)] Xm e) ?_;intro _ w3 ⟨C,G⟩;have u:=Below.oy u C A;have e:=G;exact Za O<|Zt aR fun a t=>Q6<|Xn<|X3<|X4 t (dj t O (an.cellN (l:=[vi ((ac 1).num.a),vi ((ac 1).num.b),vi ((ac 1).num.c),vi ((ac 1).num.d),vi ((ac 1).exp)]) O Xa (e.at 0) O) O)<|⟨(by rw[y];try rfl),u⟩
  have y:e_ n g i j=dZ:=by rw[e_,Q4 L,Q3 (q' aB)]
  refine Q7<|Xk<|aA _ _<|ZS t fun aS=>Ze (Xg (ps:=[]) (cs:=[vi 0,vi 0,vi 0,vi 0,vi 0]) O (fun _=>by first|rfl|kernel_rfl))<|Zo (Vw [vi 0,vi 0,vi 0,vi 0,vi 0] Xm e) ?_;intro _ w4 ⟨C,G⟩;have u:=Below.oy u C A;have e:=G;refine Za O<|Zt aS fun a t=>Q6 (X4 t (dj t O (an.cellN (l:=[vi 0,vi 0,vi 0,vi 0,vi 0]) O Xa (e.at 0) O) O) ?_);exact ⟨(by rw[y];try rfl),u⟩
 have L:=q' B;have aU:=aC.2.2.1 L;refine ZS t fun aE=>Ze (Vd O mo 0)<|Ze (X0 O X8 (f.at 0))<|Zf (Vc (vH _ g.k) wC) ?_;rintro _ _ ⟨rfl,rfl⟩;refine Za O<|Zt aE fun a t=>Xz t O ?_ ?_<;>intro z
 ·have E:=z;have aW:=aC.2.2.2 (iw.1 E);refine ZS t fun aF=>Ze (X0 O X8 (m.at 0))<|Ze (Xt (l:=[vi g.k,vi g.a,vi g.b]) O jd (f.at 0) O)<|Zm O<|Zf (Vc (NB _ n g i hg (iw.1 E)) TO) ?_;rintro _ w5 ⟨rfl,x⟩;have ⟨f,m,e,u⟩:=dk x f m e u;refine Zm O<|Ze (go O O)<|Zt aF fun a t=>Xz t O ?_ ?_<;>intro D
  ·have y:e_ n g i j=ac (4*(if ra n g i=true then 1 else 0)):=by rw[e_,Q3 L,Q4 E,Q4 (eq_of_beq D)]
   refine Q5 fun _ aG=>eo (fun a w=>Fr a 75 [(6,(ae b2)),(7,.bool true)]/\al w ba 52 [vi g.k,vi g.a,vi g.b]/\al w bb 3 [vi n]/\al w b2 147 [vi ((ac (4*(if (Zz g n i)=true then 1 else 0))).num.a),vi ((ac (4*(if (Zz g n i)=true then 1 else 0))).num.b),vi ((ac (4*(if (Zz g n i)=true then 1 else 0))).num.c),vi ((ac (4*(if (Zz g n i)=true then 1 else 0))).num.d),vi ((ac (4*(if (Zz g n i)=true then 1 else 0))).exp)]/\Bl J w) ?_ ?_
   ·refine Zr t<|Ze (Vd O mo 0)<|Ze (X0 O X8 (f.at 0))<|Ze (go O O)<|Zm O<|Zg 29 O ?_ ?_<;>intro p
    ·refine Zv (gW p) (X0 O X8 (m.at 0)) ?_;refine Zv (gW p) (X7 O) ?_;refine Zv (gW p) (Vd O lm 1) ?_;refine Zv (gW p) (X0 O X8 (f.at 1)) ?_;refine Zk (gW p) (Vc (vD _ n i g.a O0 O0 O0) vy) ?_;rintro _ _ ⟨rfl,rfl⟩;refine Zv (gW p) (go O O)<|Ze (Xh O p O)<|Zm O<|Zg 37 O ?_ ?_<;>intro q
     ·refine Zv (gW q) (X0 O X8 (m.at 0)) ?_;refine Zv (gW q) (X7 O) ?_;refine Zv (gW q) (Vd O no 2) ?_;refine Zv (gW q) (X0 O X8 (f.at 2)) ?_;refine Zk (gW q) (Vc (vD _ n i g.b O0 O0 O0) vy) ?_;rintro _ _ ⟨rfl,rfl⟩;refine Zv (gW q) (go O O)<|Ze (Xh O q O)<|Zf (Vc (vJ _ ((d_ n i g.b)==1)) vF) ?_;rintro _ _ ⟨rfl,rfl⟩;refine Ze (sC O O (by split<;>decide) (by split<;>decide))<|Zf (Vc (tS _ (4*(if ((d_ n i g.b)==1)=true then 1 else 0)) (by split<;>rfl)) tP) ?_;rintro _ w6 ⟨rfl,x⟩;have ⟨f,m,e,u⟩:=dk x f m e u;refine Zo (Vw [vi ((ac (4*(if ((d_ n i g.b)==1)=true then 1 else 0))).num.a),vi ((ac (4*(if ((d_ n i g.b)==1)=true then 1 else 0))).num.b),vi ((ac (4*(if ((d_ n i g.b)==1)=true then 1 else 0))).num.c),vi ((ac (4*(if ((d_ n i g.b)==1)=true then 1 else 0))).num.d),vi ((ac (4*(if ((d_ n i g.b)==1)=true then 1 else 0))).exp)] Xm e) ?_;intro _ w7 ⟨C,G⟩;have f:=f.oz C e O;have m:=m.oz C e O;have u:=Below.oy u C A;have e:=G;refine Za O<|Zn fun a t=>?_;have H:(Zz g n i)=((d_ n i g.b)==1):=by simp[B,z,D,p,q]
      have e:al w7 b2 147 [vi ((ac (4*(if (Zz g n i)=true then 1 else 0))).num.a),vi ((ac (4*(if (Zz g n i)=true then 1 else 0))).num.b),vi ((ac (4*(if (Zz g n i)=true then 1 else 0))).num.c),vi ((ac (4*(if (Zz g n i)=true then 1 else 0))).num.d),vi ((ac (4*(if (Zz g n i)=true then 1 else 0))).exp)]:=by rw[H];exact e
      exact ⟨t.sb,f,m,e,u⟩
     (iterate 6 refine Zp (gP q) ?_);refine Ze (X9 O q O)<|Zf (Vc (vJ _ false) vF) ?_;rintro _ _ ⟨rfl,rfl⟩;refine Ze (sC O O (by split<;>decide) (by split<;>decide))<|Zf (Vc (tS _ (4*(if false=true then 1 else 0)) (by split<;>rfl)) tP) ?_;rintro _ w8 ⟨rfl,x⟩;have ⟨f,m,e,u⟩:=dk x f m e u;refine Zo (Vw [vi ((ac (4*(if false=true then 1 else 0))).num.a),vi ((ac (4*(if false=true then 1 else 0))).num.b),vi ((ac (4*(if false=true then 1 else 0))).num.c),vi ((ac (4*(if false=true then 1 else 0))).num.d),vi ((ac (4*(if false=true then 1 else 0))).exp)] Xm e) ?_;intro _ w9 ⟨C,G⟩;have f:=f.oz C e O;have m:=m.oz C e O;have u:=Below.oy u C A;have e:=G;refine Za O<|Zn fun a t=>?_;have H:(Zz g n i)=(false):=by simp[B,z,D,p,q]
     have e:al w9 b2 147 [vi ((ac (4*(if (Zz g n i)=true then 1 else 0))).num.a),vi ((ac (4*(if (Zz g n i)=true then 1 else 0))).num.b),vi ((ac (4*(if (Zz g n i)=true then 1 else 0))).num.c),vi ((ac (4*(if (Zz g n i)=true then 1 else 0))).num.d),vi ((ac (4*(if (Zz g n i)=true then 1 else 0))).exp)]:=by rw[H];exact e
     exact ⟨t.sb,f,m,e,u⟩
    (iterate 6 refine Zp (gP p) ?_);refine Ze (X9 O p O)<|Zm O<|Zp (gP O) ?_;(iterate 5 refine Zp (gP O) ?_);refine Ze (X9 O O O)<|Zf (Vc (vJ _ false) vF) ?_;rintro _ _ ⟨rfl,rfl⟩;refine Ze (sC O O (by split<;>decide) (by split<;>decide))<|Zf (Vc (tS _ (4*(if false=true then 1 else 0)) (by split<;>rfl)) tP) ?_;rintro _ aX ⟨rfl,x⟩;have ⟨f,m,e,u⟩:=dk x f m e u;refine Zo (Vw [vi ((ac (4*(if false=true then 1 else 0))).num.a),vi ((ac (4*(if false=true then 1 else 0))).num.b),vi ((ac (4*(if false=true then 1 else 0))).num.c),vi ((ac (4*(if false=true then 1 else 0))).num.d),vi ((ac (4*(if false=true then 1 else 0))).exp)] Xm e) ?_;intro _ aT ⟨C,G⟩;have f:=f.oz C e O;have m:=m.oz C e O;have u:=Below.oy u C A;have e:=G;refine Za O<|Zn fun a t=>?_;have H:(Zz g n i)=(false):=by simp[B,z,D,p]
    have e:al aT b2 147 [vi ((ac (4*(if (Zz g n i)=true then 1 else 0))).num.a),vi ((ac (4*(if (Zz g n i)=true then 1 else 0))).num.b),vi ((ac (4*(if (Zz g n i)=true then 1 else 0))).num.c),vi ((ac (4*(if (Zz g n i)=true then 1 else 0))).num.d),vi ((ac (4*(if (Zz g n i)=true then 1 else 0))).exp)]:=by rw[H];exact e
    exact ⟨t.sb,f,m,e,u⟩
   intro a aY ⟨t,f,m,e,u⟩;exact aG _ _<|Q6<|Xn<|X3<|X4 t (dj t O (an.cellN (l:=[vi ((ac (4*(if (Zz g n i)=true then 1 else 0))).num.a),vi ((ac (4*(if (Zz g n i)=true then 1 else 0))).num.b),vi ((ac (4*(if (Zz g n i)=true then 1 else 0))).num.c),vi ((ac (4*(if (Zz g n i)=true then 1 else 0))).num.d),vi ((ac (4*(if (Zz g n i)=true then 1 else 0))).exp)]) O Xa (e.at 0) O) O)<|⟨(by rw[y];try rfl),u⟩
  have y:e_ n g i j=dZ:=by rw[e_,Q3 L,Q4 E,Q3 (q' D)]
  refine Q7<|Xk<|aA _ _<|ZS t fun aH=>Ze (Xg (ps:=[]) (cs:=[vi 0,vi 0,vi 0,vi 0,vi 0]) O (fun _=>by first|rfl|kernel_rfl))<|Zo (Vw [vi 0,vi 0,vi 0,vi 0,vi 0] Xm e) ?_;intro _ aZ ⟨C,G⟩;have u:=Below.oy u C A;have e:=G;refine Za O<|Zt aH fun a t=>Q6 (X4 t (dj t O (an.cellN (l:=[vi 0,vi 0,vi 0,vi 0,vi 0]) O Xa (e.at 0) O) O) ?_);exact ⟨(by rw[y];try rfl),u⟩
 have E:¬ bq g.k 9 11=true:=by rw[z];simp
 have b0:g.k<=8:=by have h9:¬ (9<=g.k/\g.k<=11):=(fun h=>E (iw.2 h));omega
 refine Q5 fun _ aI=>eo (fun a w=>Fr a 75 [(0,vi i),(1,vi j),(2,(ae ba)),(3,(ae bb)),(6,(ae b2)),(48,.bool ((i==j)||((kg n i g.a)==j)))]/\w1=w) ?_ ?_
 ·refine Zr t<|Zm O<|Zm O<|Ze (go O O)<|Zm O<|Zg 52 O ?_ ?_<;>intro o
  ·(iterate 7 refine Zp (gP o) ?_);exact Ze (Xh O o O)<|Za O<|Zn fun a t=>⟨t.sub ⟨O,O,O,O,O,X1 O (by simp[B,z,o]),trivial⟩,O⟩
  refine Zv (gW o) (X0 O X8 (m.at 0)) ?_;refine Zv (gW o) (X7 O) ?_;refine Zv (gW o) (Vd O lm 1) ?_;refine Zv (gW o) (X0 O X8 (f.at 1)) ?_;refine Zk (gW o) (Vc (zP _ n i g.a O0 O0 O0) y') ?_;rintro _ _ ⟨rfl,rfl⟩;refine Zv (gW o) (X7 O) ?_;refine Zv (gW o) (go O O)<|Ze (X9 O o O)<|Za O<|Zn fun a t=>?_;exact ⟨t.sub ⟨O,O,O,O,O,X1 O (by simp[B,z,o]),trivial⟩,O⟩
 rintro a _ ⟨t,rfl⟩;refine aI _ _<|Xz t O ?_ ?_<;>intro I
 ·have y:e_ n g i j=gn g.k (d_ n i g.a) (d_ n j g.a):=by rw[e_,Q3 L,Q3 E,Q4 (by simpa using I)]
  refine Q5 fun _ aJ=>gx none (fun j=>[13].contains j) mixed ?_;intro b1 x;have ⟨f,m,e,u⟩:=dk x f m e u;refine Yb t<|Yo 0 O (fun _=>Vd O mo 0)<|Ye 1 O (X0 O X8 (f.at 0))<|Ye 2 O (X0 O X8 (m.at 0))<|Yo 3 O (fun _=>X7 O)<|Yo 4 O (fun _=>Vd O lm 1)<|Ye 5 O (X0 O X8 (f.at 1))<|Ye 7 O (X0 O X8 (m.at 0))<|Yo 8 O (fun _=>X7 O)<|Yo 9 O (fun _=>Vd O lm 1)<|Ye 10 O (X0 O X8 (f.at 1))<|Y1 6<|Yz O ad (Vc (vD _ n i g.a O0 O0 O0) vy) ?_;refine Y1 11<|Yz O ad (Vc (vD _ n j g.a O0 O0 O0) vy) ?_;refine Y1 12<|Yk O ad (Vc (Tn _ g.k (d_ n i g.a) (d_ n j g.a) O0 aD) LM) (fun _ _ ⟨_,x⟩=>x) ?_;rintro _ b3 ⟨rfl,x⟩;have e:=e.bw x;have u:=aa u x;refine Y1 13<|Yh O ad O (Vw [vi ((YF g n i j).num.a),vi ((YF g n i j).num.b),vi ((YF g n i j).num.c),vi ((YF g n i j).num.d),vi ((YF g n i j).exp)] Xm e) ?_;intro _ b4 ⟨C,G⟩;have u:=Below.oy u C A;have e:=G;refine Yo 14 O (fun _=>kk O) ?_;exact Yd fun a t=>aJ _ _<|Q6<|Xn<|X3<|X4 t (dj t O (an.cellN (l:=[vi ((YF g n i j).num.a),vi ((YF g n i j).num.b),vi ((YF g n i j).num.c),vi ((YF g n i j).num.d),vi ((YF g n i j).exp)]) O Xa (e.at 0) O) O)<|⟨(by rw[y];try rfl),u⟩
 have y:e_ n g i j=dZ:=by rw[e_,Q3 L,Q3 E,Q3 (by simpa using I)]
 refine Q7<|Xk<|aA _ _<|ZS t fun aK=>Ze (Xg (ps:=[]) (cs:=[vi 0,vi 0,vi 0,vi 0,vi 0]) O (fun _=>by first|rfl|kernel_rfl))<|Zo (Vw [vi 0,vi 0,vi 0,vi 0,vi 0] Xm e) ?_;intro _ b5 ⟨C,G⟩;have u:=Below.oy u C A;have e:=G;refine Za O<|Zt aK fun a t=>Q6 (X4 t (dj t O (an.cellN (l:=[vi 0,vi 0,vi 0,vi 0,vi 0]) O Xa (e.at 0) O) O) ?_);exact ⟨(by rw[y];try rfl),u⟩
def wM(w0:World)(n:Int)(g:Gt):RE 123 [vi n,.agg #[vi g.k,vi g.a,vi g.b]] w0 (fun v w=>∃ A c,v=.tuple #[mV A c ((br n g).getD mZ),.bool (br n g).isSome]/\ah w w0.heap.size 147 5 ai A c ((br n g).getD mZ).cells/\Bl w0 w):=by
 refine enter func123 O 19 O O ?_;intro a u;have p:=bz w0;refine ZS u fun aD=>Zf (bt (zs:=[vi n]) O O) ?_;rintro _ w1 ⟨b2,rfl,aE,o,f⟩;have aK:=Q0 p.size aE;have p:=aa p o;refine Zf (bt (zs:=[vi g.k,vi g.a,vi g.b]) O O) ?_;rintro _ w2 ⟨b3,rfl,aF,o,t⟩;have aL:=Q0 p.size aF;have f:=f.bw o;have p:=aa p o;refine Zf (Xi (zs:=[vi 0,vi 0,.slice none 0 0]) jy O) ?_;rintro _ w3 ⟨b5,rfl,aG,o,e⟩;have h:=Q0 p.size aG;have ⟨f,t,p⟩:=bh o f t p;refine Za O<|ZX aD fun a u _ aH=>ZS u fun aI=>Ze (X0 O X8 (f.at 0))<|Ze (Vn jd t)<|Zf (Vc (yI _ n g) zh) ?_;rintro _ w4 ⟨rfl,o⟩;have ⟨f,t,e,p⟩:=dk o f t e p;refine Ze (dn O)<|Zt aI fun a u=>Xz u O ?_ ?_<;>intro z
 ·have aA:=z;have hn:¬ gp n g=true:=by revert z;cases gp n g<;>simp
  refine ZS u fun aJ=>Ze (Xg (ps:=[]) (cs:=[vi 0,vi 0,.slice none 0 0]) O (fun _=>by first|rfl|kernel_rfl))<|Zo (Vw [vi 0,vi 0,.slice none 0 0] jg e) ?_;intro _ w5 ⟨ho,hb⟩;have p:=Below.oy p ho h;have e:=hb;exact Za O<|Zt aJ fun a u=>Q6<|X3<|X4 u (dj u O (an.cellN (l:=[vi 0,vi 0,.slice none 0 0]) O fw (e.at 0) O) O)<|⟨none,0,by rw[br,Q3 hn];rfl,by rw[br,Q3 hn];exact (ah.nil _ _ _ _ _),p⟩
 have aA:=z;have hg:gp n g=true:=by revert z;cases gp n g<;>simp
 have aM:=qe hg;have ⟨d,hd⟩ : ∃ d:Nat,d=2^n.toNat:=⟨_,O⟩;refine Q7<|aH _ _<|Q5 fun _ aB=>gx none (fun j=>[8].contains j) mixed ?_;intro w6 o;have ⟨f,t,e,p⟩:=dk o f t e p;refine Yb u<|Ye 0 O (X0 O X8 (f.at 0))<|Yo 1 O (fun _=>wg (m:=n.toNat) (D:=d) O O O0 ⟨hd,by omega⟩)<|Ye 2 O (X0 O X8 (f.at 0))<|Yo 3 O (fun _=>wg (m:=n.toNat) (D:=d) O O O0 ⟨hd,by omega⟩)<|Yo 4 O (fun _=>tQ (vs:=[(ae b3),(ae b2)]) O)<|Y1 5<|Yk O ad (Vc (xF _ (d:Int) (d:Int) 154 [(ae b3),(ae b2)] Vm (fun i j=>some (e_ n g i j)) (fun i j w' hi hj hE'=>Ki w' g n _ _ (t.bw hE') (f.bw hE') hg i j)) wL) (fun _ _ ⟨x,y,_,q,o⟩=>o) ?_;rintro _ w7 ⟨x,y,rfl,q,o⟩;have q:=q.lower p.size;have e:=e.bw o;have p:=aa p o;refine Yo 6 O (fun _=>X2 (vs:=[.agg #[vi (((ax (d:Int) (d:Int) (fun i j=>some (e_ n g i j))).getD mZ).rows),vi (((ax (d:Int) (d:Int) (fun i j=>some (e_ n g i j))).getD mZ).cols),.slice x (((ax (d:Int) (d:Int) (fun i j=>some (e_ n g i j))).getD mZ).cells).length y],.bool ((ax (d:Int) (d:Int) (fun i j=>some (e_ n g i j))).isSome)]) O O)<|Yo 7 O (fun _=>X2 (vs:=[.agg #[vi (((ax (d:Int) (d:Int) (fun i j=>some (e_ n g i j))).getD mZ).rows),vi (((ax (d:Int) (d:Int) (fun i j=>some (e_ n g i j))).getD mZ).cols),.slice x (((ax (d:Int) (d:Int) (fun i j=>some (e_ n g i j))).getD mZ).cells).length y],.bool ((ax (d:Int) (d:Int) (fun i j=>some (e_ n g i j))).isSome)]) O O)<|Y1 8<|Yh O ad O (Vw [vi (((ax (d:Int) (d:Int) (fun i j=>some (e_ n g i j))).getD mZ).rows),vi (((ax (d:Int) (d:Int) (fun i j=>some (e_ n g i j))).getD mZ).cols),.slice x (((ax (d:Int) (d:Int) (fun i j=>some (e_ n g i j))).getD mZ).cells).length y] jg e) ?_;intro _ w8 ⟨ho,hb⟩;have q:=q.oT ho e O;have p:=Below.oy p ho h;have e:=hb;refine Yo 9 O (fun _=>kk O)<|Yd fun a u=>aB _ _<|Q6 (X4 u (dj u O (an.cellN (l:=[vi (((ax (d:Int) (d:Int) (fun i j=>some (e_ n g i j))).getD mZ).rows),vi (((ax (d:Int) (d:Int) (fun i j=>some (e_ n g i j))).getD mZ).cols),.slice x (((ax (d:Int) (d:Int) (fun i j=>some (e_ n g i j))).getD mZ).cells).length y]) O fw (e.at 0) O) O) ?_);have aC:br n g=ax (d:Int) (d:Int) fun i j=>some (e_ n g i j):=by rw[br,Q4 hg,hd]
 rw[aC];exact ⟨x,y,O,q,p⟩
end Go.Proofs.YtkhbopcihjobdaaGreatDoor
namespace Go.Proofs
open Go.Proofs.Tryz
open Go.Shelf Go.Proofs.Tryz
end Go.Proofs
namespace Go.Proofs.YtkhbopcihjobdaaGreatDoor
open Go.Proofs.Tryz
open Go.RowKit Go.Proofs.Tryz
section
variable {α : Type}
theorem Fi{enc:α->List Value}{sz:Nat}(hsz:∀ x,(enc x).length=sz){l:List α}{j:Nat}(hj:j<l.length*sz):∃ x,l[j/sz]? = some x/\(l.flatMap enc)[j]? = (enc x)[j % sz]?:=by
 have h0:0<sz:=by
  rcases Nat.eq_zero_or_pos sz with h|h
  ·subst h;simp at hj
  ·exact h
 have hk:j/sz<l.length:=Nat.div_lt_of_lt_mul (by rw[Wi];exact hj);refine ⟨l[j/sz],Qc hk,?_⟩;have hm:j % sz<(enc l[j/sz]).length:=by rw[hsz];exact Nat.mod_lt _ h0
 have h1:=Cu hsz l (j/sz) _ (Qc hk) (j % sz) _ (Qc hm);rw[show j/sz*sz+j % sz=j from by rw[Wi];exact Nat.div_add_mod j sz] at h1;rw[h1,Qc hm]
theorem Wj{enc:α->List Value}{sz:Nat}(hsz:∀ x,(enc x).length=sz){z:Value}{z0:α}(hz:z.cells.toList=enc z0)(n:Nat):madeCells z.cells (n*sz)=((List.replicate n z0).flatMap enc).toArray:=by
 have hs:z.cells.size=sz:=by rw[<- hsz z0,<- hz];simp
 apply Array.ext';apply List.ext_getElem?;intro j;by_cases hj:j<n*sz
 ·have ⟨x,hx,h1⟩:=Fi hsz (l:=List.replicate n z0) (j:=j) (by simpa using hj);obtain rfl:x=z0:=(List.eq_of_mem_replicate (Qe hx));have h0:0<sz:=by
   rcases Nat.eq_zero_or_pos sz with h|h
   ·subst h;simp at hj
   ·exact h
  have hm:j % sz<z.cells.size:=by rw[hs];exact Nat.mod_lt _ h0
  rw[List.toList_toArray,h1,<- hz];simp only[madeCells,Array.getElem?_toList,Array.getElem?_map,Array.getElem?_range,hj,if_true,Option.map_some,hs];rw[getElem!_pos z.cells (j % sz) hm,Array.getElem?_eq_getElem hm]
 ·rw[List.getElem?_eq_none (by simp[madeCells];omega),List.toList_toArray,List.getElem?_eq_none (by rw[qh hsz];simp;omega)]
theorem D7{enc:α->List Value}{sz:Nat}(hsz:∀ x,(enc x).length=sz):∀ (l:List α) (k:Nat) (x:α),k<l.length->et (l.flatMap enc) (k*sz) (enc x)=(l.set k x).flatMap enc
 | [],k,x,h=>by simp at h
 | y::l,0,x,h=>by
  simp only[et,Nat.zero_mul,List.take_zero,List.nil_append,Nat.zero_add,Wc,List.set_cons_zero];rw[hsz,<- hsz y,List.drop_left]
 | y::l,k+1,x,h=>by
  have ih:=D7 hsz l k x (by simpa using h);unfold et at ih ⊢;have h1:(k+1)*sz=(enc y).length+k*sz:=by rw[hsz,Wb];omega
  rw[h1];simp only[Wc,List.set_cons_succ];rw[List.take_length_add_append,show (enc y).length+k*sz+(enc x).length=(enc y).length+(k*sz+(enc x).length) from by omega,List.drop_length_add_append,Qx,Qx];rw[<- ih,Qx]
end
section
variable {α : Type} {P : Program} {a : Act} {w : World} {n : Nat} {e : kt} {ty : TypeId} {pos : String} {af : Array Edge} {g : Option (Nat × Bool)} {d : Option Tmp}
theorem OQ{T E sz bytes m:Nat}{x y:Operand}{enc:α->List Value}{z:Value}{z0:α}(hf:Fr a n e)(hx:ev e x=some (.int .i64 (m:Int)))(hy:ev e y=some (.int .i64 (m:Int)))(hT:bn P T E)(hi:ik P E sz bytes)(hz:jv P E z)(hz0:z.cells.toList=enc z0)(hsz:∀ x,(enc x).length=sz)(hb:bytes*m<=281474976710656)(hm:m<=4611686018427387904) :
  Ef P ⟨d,.makeSlice T x y,ty,pos,af,g⟩ a w (fun v w'=>∃ b,v=.slice (some ⟨b,0,none⟩) m m/\w.heap.size<=b/\Bl w w'/\al w' b E ((List.replicate m z0).flatMap enc)):=by
 have ⟨i,z1,hi1,hi2,hi3,hi4,hi5,hi6⟩:=hi;obtain ⟨i',hi1',hz1⟩:=hz;rw[hi1] at hi1';injection hi1' with hi1';subst hi1';rw[hi2] at hz1;injection hz1 with hz1;subst hz1;have hb':(i.bytes:Int)*(m:Int)<=281474976710656:=by
  have h:((i.bytes*m:Nat) : Int)<=281474976710656:=by rw[hi4];omega
  rwa [Int.natCast_mul] at h
 have hr:=run_make (P:=P) w T E i z1 hT hi1 hi2 .i64 .i64 m m O0 (Int.le_refl _) hb' O0;refine (Ef.of_run (v:=.slice (some ⟨w.heap.size,0,none⟩) m m) (w':=w.alloc (.cells ((List.replicate m z0).flatMap enc).toArray E)) ?_).mono fun v w' ⟨e1,e2⟩=>?_
 ·rw[hi3,Qj,Wj hsz hz0] at hr;simp[execOp,hf.ev hx,hf.ev hy,hr]
 ·subst e1;subst e2;exact ⟨_,O,Qb _,(Below.refl _ _).alloc (Qb _) _,DG w E _⟩
theorem C'{T E sz bytes m:Nat}{x y:Operand}{enc:α->List Value}{z:Value}{z0:α}(hx:ev e x=some (.int .i64 (m:Int)))(hy:ev e y=some (.int .i64 (m:Int)))(hT:bn P T E)(hi:ik P E sz bytes)(hz:jv P E z)(hz0:z.cells.toList=enc z0)(hsz:∀ x,(enc x).length=sz)(hb:bytes*m<=281474976710656)(hm:m<=4611686018427387904):fd P ⟨d,.makeSlice T x y,ty,pos,af,g⟩ n e w (fun v w'=>∃ b,v=.slice (some ⟨b,0,none⟩) m m/\w.heap.size<=b/\Bl w w'/\al w' b E ((List.replicate m z0).flatMap enc)):=fun a hf=>OQ hf hx hy hT hi hz hz0 hsz hb hm
theorem IC{T E sz b m c k off:Nat}{x y:Operand}{i:Int}(hf:Fr a n e)(hx:ev e x=some (.slice (some ⟨b,0,none⟩) m c))(hy:ev e y=some (.int .i64 i))(hT:bn P T E)(hs:da P E sz)(hi:i=(k:Int))(hk:k<m)(ho:k*sz=off) :
  Ev P ⟨d,.indexAddr T x y,ty,pos,af,g⟩ a w (.pointer (some ⟨b,off,none⟩)):=by
 have h:=yB (P:=P) (w:=w) (d:=d) (ty:=ty) (pos:=pos) (af:=af) (g:=g) hf hx hy hT hs hi hk
 rwa [qD,Nat.zero_add,ho] at h
theorem Ce{T E sz b m c k off:Nat}{x y:Operand}{i:Int}(hx:ev e x=some (.slice (some ⟨b,0,none⟩) m c))(hy:ev e y=some (.int .i64 i))(hT:bn P T E)(hs:da P E sz)(hi:i=(k:Int))(hk:k<m)(ho:k*sz=off):iv P ⟨d,.indexAddr T x y,ty,pos,af,g⟩ n e w (.pointer (some ⟨b,off,none⟩)):=fun a hf=>IC hf hx hy hT hs hi hk ho
theorem VY{t T b k sz:Nat}{x y:Operand}{v:Value}{enc:α->List Value}{l:List α}{u:α}(hf:Fr a n e)(hx:ev e x=some (.pointer (some ⟨b,k*sz,none⟩)))(hy:ev e y=some v)(hs:da P t sz)(hb:al w b T (l.flatMap enc))(hsz:∀ x,(enc x).length=sz)(hone:∀ x,(enc x).all one=true)(hv:v.cells.toList=enc u)(hk:k<l.length) :
  Ef P ⟨d,.store t x y,ty,pos,af,g⟩ a w (ow w b T ((l.set k u).flatMap enc)):=by
 have hl:k*sz+sz<=(l.flatMap enc).length:=by
  rw[qh hsz];have:=Nat.mul_le_mul_right sz (show k+1<=l.length by omega)
  rwa [Wb,Nat.one_mul] at this
 exact BT (vs:=enc u) hf hx hy hs hb hv (by rw[hsz];simp) (hone u) (by rw[Nat.ble_eq];exact hl) (D7 hsz l k u hk)
theorem BU{t T b k sz:Nat}{x y:Operand}{v:Value}{enc:α->List Value}{l:List α}{u:α}(hx:ev e x=some (.pointer (some ⟨b,k*sz,none⟩)))(hy:ev e y=some v)(hs:da P t sz)(hb:al w b T (l.flatMap enc))(hsz:∀ x,(enc x).length=sz)(hone:∀ x,(enc x).all one=true)(hv:v.cells.toList=enc u)(hk:k<l.length):fd P ⟨d,.store t x y,ty,pos,af,g⟩ n e w (ow w b T ((l.set k u).flatMap enc)):=fun a hf=>VY hf hx hy hs hb hsz hone hv hk
theorem Ph{T E sz m c k:Nat}{x y:Operand}{A:Option Addr}{i:Int}(hf:Fr a n e)(hx:ev e x=some (.slice A m c))(hy:ev e y=some (.int .i64 i))(hT:bn P T E)(hs:da P E sz)(hi:i=(k:Int))(hk:k<=c) :
  Ev P ⟨d,.slice T x none (some y) none,ty,pos,af,g⟩ a w (.slice A k c):=fun w' _=>by
 subst hi;have h0:∀ p:Addr,p.add 0=p:=fun p=>by simp[Addr.add]
 simp[execOp,Instr.sliceAt,Instr.slice,Instr.sliceBounds,run_sliceBound,pM hT,gm hs,hf.ev hx,hf.ev hy,hk,h0]
theorem KU{T E sz m c k:Nat}{x y:Operand}{A:Option Addr}{i:Int}(hf:Fr a n e)(hx:ev e x=some (.slice A m c))(hy:ev e y=some (.int .i64 i))(hT:bn P T E)(hs:da P E sz)(hi:i=(k:Int))(hk:k<=m) :
  Ev P ⟨d,.slice T x (some y) none none,ty,pos,af,g⟩ a w (.slice (if c=k then A else A.map (·.add (k*sz))) (m-k) (c-k)):=fun w' _=>by
 subst hi;simp[execOp,Instr.sliceAt,Instr.slice,Instr.sliceBounds,run_sliceBound,pM hT,gm hs,hf.ev hx,hf.ev hy,hk]
end
section
variable {α : Type} {w : World} {B B0 : Nat} {E : TypeId} {sz : Nat} {enc : α -> List Value} {A : Option Addr} {c : Nat} {l : List α}
theorem TQ(hsz:∀ x,(enc x).length=sz)(k:Nat):(l.take k).flatMap enc=(l.flatMap enc).take (k*sz):=by
 conv=>rhs;rw[<- W9 k l]
 rw[List.flatMap_append];by_cases hk:k<=l.length
 ·have:((l.take k).flatMap enc).length=k*sz:=by rw[qh hsz,Qn,Nat.min_eq_left hk]
  rw[<- this,List.take_left]
 ·rw[Qi O0,W3 O0];simp only[List.flatMap_nil,List.append_nil];rw[Qi (by rw[qh hsz];exact Nat.mul_le_mul_right _ O0)]
theorem MQ(hsz:∀ x,(enc x).length=sz)(k:Nat):(l.drop k).flatMap enc=(l.flatMap enc).drop (k*sz):=by
 conv=>rhs;rw[<- W9 k l]
 rw[List.flatMap_append];by_cases hk:k<=l.length
 ·have:((l.take k).flatMap enc).length=k*sz:=by rw[qh hsz,Qn,Nat.min_eq_left hk]
  rw[<- this,List.drop_left]
 ·have h1:l.drop k=[]:=W3 O0;rw[h1,List.flatMap_nil,List.append_nil,W3 (by rw[qh hsz,Qn];exact Nat.mul_le_mul_right _ O0)]
theorem Rd.takeK(hsz:∀ x,(enc x).length=sz)(h:Rd w B E enc A l)(k:Nat):Rd w B E enc A (l.take k):=fun hl=>by
 have hl':l≠[]:=by rintro rfl;simp at hl
 have ⟨b,off,cs,fz,h1,h2,h3,h4⟩:=h hl';refine ⟨b,off,cs,fz,h1,h2,h3,fun j v hj=>h4 j v ?_⟩;rw[TQ hsz,List.getElem?_take] at hj;split at hj
 ·exact hj
 ·cases hj
theorem Rd.dropK(hsz:∀ x,(enc x).length=sz)(h:Rd w B E enc A l)(hc:l.length<=c)(k:Nat):Rd w B E enc (if c=k then A else A.map (·.add (k*sz))) (l.drop k):=fun hl=>by
 have hk:k<l.length:=by
  rcases W4 k l.length with h'|h'
  ·exact h'
  ·exact absurd (W3 h') hl
 have hl':l≠[]:=by rintro rfl;simp at hk
 have ⟨b,off,cs,fz,h1,h2,h3,h4⟩:=h hl';rw[Q3 O0,h1];refine ⟨b,off+k*sz,cs,fz,by rw[Option.map_some,qD],h2,h3,fun j v hj=>?_⟩;rw[MQ hsz,List.getElem?_drop] at hj;rw[Nat.add_assoc];exact h4 _ v hj
theorem SC{P:Program}{a:Act}{n:Nat}{e:kt}{ty:TypeId}{pos:String}{af:Array Edge}{g:Option (Nat×Bool)}{d:Option Tmp}{T k:Nat}{x y:Operand}{i:Int}(hf:Fr a n e)(hx:ev e x=some (.slice A l.length c))(hy:ev e y=some (.int .i64 i))(hT:bn P T E)(hs:da P E sz)(hi:i=(k:Int))(hk:k<=l.length)(hc:l.length<=c) :
  Ev P ⟨d,.slice T x none (some y) none,ty,pos,af,g⟩ a w (.slice A (l.take k).length c):=by
 rw[Qn,Nat.min_eq_left hk];exact Ph hf hx hy hT hs hi O0
theorem DK{P:Program}{n:Nat}{e:kt}{ty:TypeId}{pos:String}{af:Array Edge}{g:Option (Nat×Bool)}{d:Option Tmp}{T k:Nat}{x y:Operand}{i:Int}(hx:ev e x=some (.slice A l.length c))(hy:ev e y=some (.int .i64 i))(hT:bn P T E)(hs:da P E sz)(hi:i=(k:Int))(hk:k<=l.length)(hc:l.length<=c):iv P ⟨d,.slice T x none (some y) none,ty,pos,af,g⟩ n e w (.slice A (l.take k).length c):=fun a hf=>SC hf hx hy hT hs hi hk hc
theorem NM{P:Program}{a:Act}{n:Nat}{e:kt}{ty:TypeId}{pos:String}{af:Array Edge}{g:Option (Nat×Bool)}{d:Option Tmp}{T k:Nat}{x y:Operand}{i:Int}(hf:Fr a n e)(hx:ev e x=some (.slice A l.length c))(hy:ev e y=some (.int .i64 i))(hT:bn P T E)(hs:da P E sz)(hi:i=(k:Int))(hk:k<=l.length) :
  Ev P ⟨d,.slice T x (some y) none none,ty,pos,af,g⟩ a w (.slice (if c=k then A else A.map (·.add (k*sz))) (l.drop k).length (c-k)):=by
 rw[List.length_drop];exact KU hf hx hy hT hs hi hk
theorem zY{P:Program}{n:Nat}{e:kt}{ty:TypeId}{pos:String}{af:Array Edge}{g:Option (Nat×Bool)}{d:Option Tmp}{T k:Nat}{x y:Operand}{i:Int}(hx:ev e x=some (.slice A l.length c))(hy:ev e y=some (.int .i64 i))(hT:bn P T E)(hs:da P E sz)(hi:i=(k:Int))(hk:k<=l.length):iv P ⟨d,.slice T x (some y) none none,ty,pos,af,g⟩ n e w (.slice (if c=k then A else A.map (·.add (k*sz))) (l.drop k).length (c-k)):=fun a hf=>NM hf hx hy hT hs hi hk
theorem BZ(hc:l.length<=c)(k:Nat):(l.take k).length<=c:=Q0 (List.length_take_le' _ _) hc
theorem Mv{P:Program}{a:Act}{n:Nat}{e:kt}{ty:TypeId}{pos:String}{af:Array Edge}{g:Option (Nat×Bool)}{d:Option Tmp}{T k m:Nat}{x y z:Operand}{i j:Int}(hf:Fr a n e)(hx:ev e x=some (.slice A l.length c))(hy:ev e y=some (.int .i64 i))(hz:ev e z=some (.int .i64 j))(hT:bn P T E)(hs:da P E sz)(hi:i=(k:Int))(hj:j=(m:Int))(hk:k<=m)(hm:m<=l.length)(hc:l.length<=c) :
  Ev P ⟨d,.slice T x (some y) (some z) none,ty,pos,af,g⟩ a w (.slice (if c=k then A else A.map (·.add (k*sz))) ((l.take m).drop k).length (c-k)):=fun w' _=>by
 subst hi;subst hj;have h1:m<=c:=by omega
 have h2:((l.take m).drop k).length=m-k:=by rw[List.length_drop,Qn,Nat.min_eq_left hm]
 rw[h2];simp[execOp,Instr.sliceAt,Instr.slice,Instr.sliceBounds,run_sliceBound,pM hT,gm hs,hf.ev hx,hf.ev hy,hf.ev hz,hk,h1]
theorem B5{P:Program}{n:Nat}{e:kt}{ty:TypeId}{pos:String}{af:Array Edge}{g:Option (Nat×Bool)}{d:Option Tmp}{T k m:Nat}{x y z:Operand}{i j:Int}(hx:ev e x=some (.slice A l.length c))(hy:ev e y=some (.int .i64 i))(hz:ev e z=some (.int .i64 j))(hT:bn P T E)(hs:da P E sz)(hi:i=(k:Int))(hj:j=(m:Int))(hk:k<=m)(hm:m<=l.length)(hc:l.length<=c):iv P ⟨d,.slice T x (some y) (some z) none,ty,pos,af,g⟩ n e w (.slice (if c=k then A else A.map (·.add (k*sz))) ((l.take m).drop k).length (c-k)):=fun a hf=>Mv hf hx hy hz hT hs hi hj hk hm hc
theorem ah.cap(h:ah w B0 E sz enc A c l):l.length<=c:=by
 rcases h.2 with ⟨h1,h2⟩|⟨g,cap,cur,h1,h2,h3,h4,h5,h6⟩
 ·omega
 ·injection h1 with _ _ h1;omega
theorem ah.of_flat(hsz:∀ x,(enc x).length=sz){b m:Nat}(h:al w b E (l.flatMap enc))(hb:B0<=b)(hl:l.length=m)(hk:m<=maxLen):ah w B0 E sz enc (some ⟨b,0,none⟩) m l:=ah.of_blkL hsz h hb rfl hl hk
end
def cn.app{α:Type}{b B B0:Nat}{w0 w w':World}{E:TypeId}{sz:Nat}{enc:α->List Value}{A:Option Addr}{c:Nat}{l:List α}(h:cn b B w0 w)(ho:ah w B0 E sz enc A c l)(hg:w.grownBy w' (Value.slice A l.length c).ownBlock)(hB:B<=B0)(hs:B<=w.heap.size):cn b B w0 w':=
 ⟨hg.os.trans h.os,hg.tape.trans h.tape,hg.output.trans h.output,Q0 h.size hg.size,fun k hk hne=>(hg.block k O0 fun hk'=>by have:=(ho.block hk'.symm).1;omega).trans (h.block k hk hne)⟩
def LU{α:Type}{P:Program}{a:Act}{w:World}{n:Nat}{e:kt}{ty:TypeId}{pos:String}{af:Array Edge}{g:Option (Nat×Bool)}{d:Option Tmp}{T E:TypeId}{sz bytes B b0:Nat}{x y:Operand}{enc:α->List Value}{A2:Option Addr}{c2:Nat}{l2:List α}(hf:Fr a n e)(hx:ev e x=some (.slice (some ⟨b0,0,none⟩) 0 0))(hy:ev e y=some (.slice A2 l2.length c2))
  (hT:bn P T E) (hi:ik P E sz bytes) (hsz:∀ x,(enc x).length=sz) (hone:∀ x,(enc x).all one=true) (hb:al w b0 E []) (hr:Rd w B E enc A2 l2) (h63:l2.length<=maxLen) (hbytes:l2.length*bytes<=140737488355328) :
  Ef P ⟨d,.call ⟨.builtin .append,#[x,y],#[T,T]⟩,ty,pos,af,g⟩ a w (fun v w'=>∃ A' c',v=.slice A' l2.length c'/\ah w' b0 E sz enc A' c' l2/\Bl w w'):=by
 by_cases hl2:l2=[]
 ·subst hl2;have ⟨i,z,hi1,hi2,hi3,hi4,hi5,hi6⟩:=hi;have hrun:(Builtin.append_ #[T,T] ty #[.slice (some ⟨b0,0,none⟩) 0 0,.slice A2 0 c2]).run P w=.ok (.slice (some ⟨b0,0,none⟩) 0 0) w:=by
   cases A2<;>simp[Builtin.append_,pM hT,sizeOf,typeInfo,hi1,Builtin.lenOf,Builtin.firstCells,loadCells,loadCellsFrom,storeCells]
  refine (Ef.of_run (v:=.slice (some ⟨b0,0,none⟩) 0 0) (w':=w) ?_).mono fun v w' ⟨e1,e2⟩=>?_
  ·simp only[List.length_nil] at hy;simp[execOp,resolve,invoke,builtin,hf.ev hx,hf.ev hy,hrun]
  ·subst e1;subst e2;exact ⟨_,_,O,ah.empty hb (Qb _),Below.refl _ _⟩
 ·have hown:ah w b0 E sz enc (some ⟨b0,0,none⟩) 0 ([] : List α):=ah.empty hb (Qb _);obtain ⟨i,z,hi1,hi2,rfl,rfl,hi5,hi6⟩:=hi;obtain ⟨b,off,cs,fz,rfl,h2,h3,h4⟩:=hr hl2;have hlen2:=qh hsz l2;have hpos:0<l2.length:=List.length_pos_iff.2 hl2;have h:=run_append_grow (P:=P) w T ty E i z hT hi1 hi2 ⟨b0,0,none⟩ 0 0 [] O6 (fun j u hu=>by simp at hu)
   ⟨b,off,none⟩ l2.length c2 (l2.flatMap enc) hlen2 (fun j u hu=>by
    have:=h4 j u hu;rw[qD];simp[World.cell?,h3,this])
   O0 (by simp only[maxLen] at h63;omega) (growslice_fits O0 (by simpa using hbytes))
  simp only[Nat.zero_add] at h;refine (Ef.of_run (w':=w.drew.alloc (.cells (([] : List Value).toArray++(l2.flatMap enc).toArray++Builtin.zeroCells z.cells (grownCap w l2.length 0 E-l2.length)) E)) (v:=.slice (some ⟨w.heap.size,0,none⟩) l2.length (grownCap w l2.length 0 E)) ?_).mono fun v w' ⟨e1,e2⟩=>?_
  ·simp[execOp,resolve,invoke,builtin,hf.ev hx,hf.ev hy,h]
  ·subst e1;subst e2;have hb0:=hb.lt;have hge:=grownCap_ge w l2.length 0 E;refine ⟨_,_,O,?_,((Below.refl _ _).drew).alloc (Qb _) _⟩;refine ⟨qh hsz _,.inr ⟨w.heap.size,_,_,O,by omega,heap_alloc_new w.drew _,hge,grownCap_le_maxLen w _ _ E h63,?_,?_⟩⟩
   ·simp only[Array.size_append,List.size_toArray,size_zeroCells,hi5,hlen2,List.length_nil,Nat.zero_add,<- Wb];congr 1;omega
   ·rw[<- hlen2];simp only[Array.toList_append,Qx,List.nil_append];exact List.take_left
def vW{α:Type}{P:Program}{w:World}{n:Nat}{e:kt}{ty:TypeId}{pos:String}{af:Array Edge}{g:Option (Nat×Bool)}{d:Option Tmp}{T E:TypeId}{sz bytes B b0:Nat}{x y:Operand}{enc:α->List Value}{A2:Option Addr}{c2:Nat}{l2:List α}(hx:ev e x=some (.slice (some ⟨b0,0,none⟩) 0 0))(hy:ev e y=some (.slice A2 l2.length c2))(hT:bn P T E)(hi:ik P E sz bytes)(hsz:∀ x,(enc x).length=sz)(hone:∀ x,(enc x).all one=true)(hb:al w b0 E [])(hr:Rd w B E enc A2 l2)(h63:l2.length<=maxLen)(hbytes:l2.length*bytes<=140737488355328):fd P ⟨d,.call ⟨.builtin .append,#[x,y],#[T,T]⟩,ty,pos,af,g⟩ n e w (fun v w'=>∃ A' c',v=.slice A' l2.length c'/\ah w' b0 E sz enc A' c' l2/\Bl w w'):=fun a hf=>LU hf hx hy hT hi hsz hone hb hr h63 hbytes
end Go.Proofs.YtkhbopcihjobdaaGreatDoor
namespace Go.Proofs.YtkhbopcihjobdaaGreatDoor
open Go.Proofs.Tryz
open Go.RowKit Go.Sort Go.Proofs.Tryz
end Go.Proofs.YtkhbopcihjobdaaGreatDoor
namespace Go.Proofs.YtkhbopcihjobdaaGreatDoor
open Go.Proofs.Tryz
open Go.RowKit Go.Proofs.Tryz
structure Sl where (A:Option Addr) (c:Nat) (l:List Int)
def tE(s:Sl) : List Value:=[.slice s.A s.l.length s.c]
def SV:∀ x,(tE x).length=1:=fun _=>rfl
structure Rp where (pos:Int) (old new:List Gt)
def GR{α β:Type}{f:α->List β}{l:List α}{k:Nat}{u:α}(h:l[k]? = some u):(l.take (k+1)).flatMap f=(l.take k).flatMap f++f u:=by
 rw[Qt,h];simp
def Cn{α β:Type}(f:α->List β)(l:List α)(k:Nat):((l.take k).flatMap f).length<=(l.flatMap f).length:=by
 conv=>rhs;rw[<- W9 k l]
 rw[List.flatMap_append,Qh];omega
def P4{α β:Type}(f:α->List β){l:List α}{k:Nat}(h:l.length<=k):(l.take k).flatMap f=l.flatMap f:=by rw[Qi h]
def bv(g:Gt) : List Int:=if g.k=12 then [] else if bq g.k 9 11=true then [g.a,g.b] else [g.a]
def xx(g:Gt):(bv g).length<=2:=by unfold bv;split<;>(try split)<;>simp
def ma:List Int->Nat->List Int->List Int
 | [],_,to=>to
 | q::l,i,to=>ma l (i+1) (to.set q.toNat (i:Int))
def jc(l:List Int) : List Int:=ma l 0 [0,0,0,0,0]
def FD:∀ (l:List Int) (i:Nat) (to:List Int),(ma l i to).length=to.length
 | [],_,_=>rfl
 | _::l,i,to=>by rw[ma,FD l];simp
def Hk:∀ (l:List Int) (q:Int) (i:Nat) (to:List Int),ma (l++[q]) i to=(ma l i to).set q.toNat ((i+l.length:Nat) : Int)
 | [],q,i,to=>by simp[ma]
 | x::l,q,i,to=>by
  rw[Wa,ma,ma,Hk l];congr 2;simp only[Qs];omega
def G6{l:List Int}{k:Nat}{u:Int}(h:l[k]? = some u):jc (l.take (k+1))=(jc (l.take k)).set u.toNat (k:Int):=by
 have hk:=(Qg.1 h).1;unfold jc;rw[Qt,h,Option.toList_some,Hk,Qn,Nat.min_eq_left O0,Nat.zero_add]
def BD(l:List Int):(jc l).length=5:=by rw[jc,FD];rfl
def mb(to:List Int)(g:Gt) : Gt:=⟨g.k,if g.k=12 then g.a else to.getD g.a.toNat 0,if bq g.k 9 11=true then to.getD g.b.toNat 0 else g.b⟩
def av(l:List Gt)(to:List Int) : List Gt:=l.map (mb to)
def CH{α β:Type}{f:α->β}{l:List α}{k:Nat}{u:α}(h:l[k]? = some u):(l.take (k+1)).map f=(l.take k).map f++[f u]:=by
 rw[Qt,h];simp
def yU{l:List Int}{k:Nat}(h:k<l.length):l[k]? = some (l.getD k 0):=by grind
def qv(n:Int)(r:Rp) : Bool:=bq n 1 5&&bq r.pos 0 400&&decide ((r.old.length:Int)<=40)&&decide ((r.new.length:Int)<=40)&&!(r.old.any fun x=>!gp n x)&&!(r.new.any fun x=>!gp n x)
def oA(A:Option Addr)(m:Nat) : Addr:=match A with
 | some p=>⟨p.block,m,none⟩
 | none=>⟨0,m,none⟩
def wJ{l vs:List Value}{off:Nat}(h:off+vs.length<=l.length)(i:Nat):(et l off vs)[i]? = if i<off then l[i]? else if i<off+vs.length then vs[i-off]? else l[i]?:=by grind [et]
def CN{l vs:List Value}{off:Nat}(h:off+vs.length<=l.length):(et l off vs).length=l.length:=by grind [et]
def PR{l x vs:List Value}{o j:Nat}(hx:∀ i,i<x.length->l[o+i]? = x[i]?)(h1:o+x.length<=l.length)(h2:j+vs.length<=x.length):et l (o+j) vs=et l o (et x j vs):=by
 have h3:=CN h2;apply List.ext_getElem?;intro i;rw[wJ O0,wJ O0,h3];by_cases a1:i<o
 ·rw[Q4 O0,Q4 a1]
 ·rw[Q3 a1];by_cases a2:i<o+x.length
  ·rw[Q4 a2,wJ h2];by_cases a3:i<o+j
   ·rw[Q4 a3,Q4 (show i-o<j by omega),<- hx (i-o) O0];congr 1;omega
   ·rw[Q3 a3,Q3 (show ¬ i-o<j by omega)];by_cases a4:i<o+j+vs.length
    ·rw[Q4 a4,Q4 (show i-o<j+vs.length by omega)];congr 1;omega
    ·rw[Q3 a4,Q3 (show ¬ i-o<j+vs.length by omega),<- hx (i-o) O0];congr 1;omega
  ·rw[Q3 a2,Q3 O0,Q3 O0]
def OA{l vs:List Value}{off N:Nat}(h:off+vs.length<=N)(hN:N<=l.length):(et l off vs).take N=et (l.take N) off vs:=by
 apply List.ext_getElem?;intro i;by_cases hi:i<N
 ·rw[Wg hi,wJ O0,wJ (by rw[Qn];omega),Wg hi]
 ·rw[List.getElem?_take_eq_none O0,List.getElem?_eq_none];rw[CN (by rw[Qn];omega),Qn];omega
def Gy{α:Type}{enc:α->List Value}{sz:Nat}(hsz:∀ x,(enc x).length=sz):∀ (l:List α) (k i:Nat) (x:α),l[k]? = some x->i<sz->(l.flatMap enc)[k*sz+i]? = (enc x)[i]?
 | [],k,i,x,h,_=>by simp at h
 | y::l,0,i,x,h,hi=>by
  simp at h;subst h;rw[Wc,Nat.zero_mul,Nat.zero_add,List.getElem?_append_left (by rw[hsz];exact hi)]
 | y::l,k+1,i,x,h,hi=>by
  have h':l[k]? = some x:=by simpa using h
  have e:(k+1)*sz+i=sz+(k*sz+i):=by rw[Wb];omega
  rw[Wc,e,W5 (by rw[hsz];omega),hsz,Nat.add_sub_cancel_left];exact Gy hsz l k i x h' hi
section
variable {P : Program} {a : Act} {w w' : World} {n : Nat} {e : kt} {ty : TypeId} {pos : String} {af : Array Edge} {g : Option (Nat × Bool)} {d : Option Tmp} {α : Type}
theorem Sv{T E:TypeId}{sz B0 k m:Nat}{x y:Operand}{enc:α->List Value}{A:Option Addr}{c:Nat}{l:List α}{i:Int}(hf:Fr a n e)(hx:ev e x=some (.slice A m c))(hy:ev e y=some (.int .i64 i))(hT:bn P T E)(hs:da P E sz)
  (ho:ah w' B0 E sz enc A c l) (hm:m=l.length) (hi:i=(k:Int)) (hk:k<l.length) : Ev P ⟨d,.indexAddr T x y,ty,pos,af,g⟩ a w (.pointer (some (oA A (k*sz)))):=by
 subst hm;rcases ho.2 with ⟨h1,h2⟩|⟨b,cap,cur,h1,h2,h3,h4⟩
 ·omega
 ·injection h1 with h1;rw[h1] at hx ⊢;exact IC (b:=b) (off:=k*sz) hf hx hy hT hs hi hk O
theorem z8{T E:TypeId}{sz B0 k m:Nat}{x y:Operand}{enc:α->List Value}{A:Option Addr}{c:Nat}{l:List α}{i:Int}(hx:ev e x=some (.slice A m c))(hy:ev e y=some (.int .i64 i))(hT:bn P T E)(hs:da P E sz)(ho:ah w' B0 E sz enc A c l)(hm:m=l.length)(hi:i=(k:Int))(hk:k<l.length):iv P ⟨d,.indexAddr T x y,ty,pos,af,g⟩ n e w (.pointer (some (oA A (k*sz)))):=fun a hf=>Sv hf hx hy hT hs ho hm hi hk
theorem QR{T f k m:Nat}{x:Operand}{A:Option Addr}(hf:Fr a n e)(hx:ev e x=some (.pointer (some (oA A m))))(hF:cy P T f k){m':Nat}(hm:m+k=m'):Ev P ⟨d,.fieldAddr T x f,ty,pos,af,g⟩ a w (.pointer (some (oA A m'))):=by
 subst hm;have h:=Dt (P:=P) (w:=w) (d:=d) (ty:=ty) (pos:=pos) (af:=af) (g:=g) hf hx hF;have e:(oA A m).add k=oA A (m+k):=by cases A<;>simp[oA,Addr.add]
 rw[e] at h;exact h
theorem Aj{T f k m:Nat}{x:Operand}{A:Option Addr}(hx:ev e x=some (.pointer (some (oA A m))))(hF:cy P T f k){m':Nat}(hm:m+k=m'):iv P ⟨d,.fieldAddr T x f,ty,pos,af,g⟩ n e w (.pointer (some (oA A m'))):=fun a hf=>QR hf hx hF hm
theorem KB{t E:TypeId}{sz B0 k j m n1:Nat}{x y:Operand}{enc:α->List Value}{A:Option Addr}{c:Nat}{l:List α}{v:Value}{vs:List Value}{x0 u:α}(hf:Fr a n e)(hx:ev e x=some (.pointer (some (oA A m))))(hy:ev e y=some v)(hs:da P t n1)
  (ho:ah w B0 E sz enc A c l) (hsz:∀ x,(enc x).length=sz) (hv:v.cells.toList=vs) (hn:Nat.beq vs.length n1=true) (h1:vs.all one=true) (hm:k*sz+j=m) (hj:j+n1<=sz) (hk:l[k]? = some x0) (hu:et (enc x0) j vs=enc u) :
  Ef P ⟨d,.store t x y,ty,pos,af,g⟩ a w (fun _ w'=>ah w' B0 E sz enc A c (l.set k u)/\w.grownBy w' (Value.slice A l.length c).ownBlock):=by
 have hkl:k<l.length:=(Qg.1 hk).1;rcases ho.2 with ⟨e1,e2⟩|⟨b,cap,cur,e1,e2,e3,e4,e5,e6,e7⟩
 ·omega
 ·injection e1 with e1 _ e1';subst hm;subst e1';have hcl:cur.toList.length=c*sz:=Array.length_toList.trans e6;have hN:l.length*sz<=cur.toList.length:=by rw[hcl];exact Nat.mul_le_mul_right _ e4
  have hks:k*sz+sz<=l.length*sz:=by
   have:=Nat.mul_le_mul_right sz (show k+1<=l.length by omega)
   rwa [Wb,Nat.one_mul] at this
  have hn':vs.length=n1:=Nat.eq_of_beq_eq_true hn;rw[e1] at hx;have hb:al w b E cur.toList:=by unfold al;rw[e3]
  refine (BT (b:=b) (off:=k*sz+j) (vs:=vs) hf hx hy hs hb hv hn h1 (by rw[Nat.ble_eq];omega) O).mono fun _ w' ⟨hO,hB⟩=>?_;have hlen:((l.set k u).flatMap enc).length=(l.set k u).length*sz:=qh hsz _;refine ⟨⟨hlen,.inr ⟨b,c,_,by rw[e1],e2,hB,by simp;omega,e5,?_,?_⟩⟩,?_⟩
  ·rw[List.size_toArray,CN O0,hcl]
  ·simp only[List.length_set];rw[OA O0 hN,e7,PR (x:=enc x0) (fun i hi=>?_) (by rw[qh hsz,hsz];omega) (by rw[hsz];omega),hu]
   ·exact D7 hsz l k u hkl
   ·exact Gy hsz l k i x0 hk (by rw[<- hsz x0];exact hi)
  ·rw[e1];exact ⟨hO.os,hO.tape,hO.output,by rw[hO.size];exact Qb _,fun q _ hne=>hO.block q fun e=>hne (by rw[e];rfl)⟩
theorem zD{t E:TypeId}{sz B0 k j m n1:Nat}{x y:Operand}{enc:α->List Value}{A:Option Addr}{c:Nat}{l:List α}{v:Value}{vs:List Value}{x0 u:α}(hx:ev e x=some (.pointer (some (oA A m))))(hy:ev e y=some v)(hs:da P t n1)(ho:ah w B0 E sz enc A c l)(hsz:∀ x,(enc x).length=sz)(hv:v.cells.toList=vs)(hn:Nat.beq vs.length n1=true)(h1:vs.all one=true)(hm:k*sz+j=m)(hj:j+n1<=sz)(hk:l[k]? = some x0)(hu:et (enc x0) j vs=enc u):fd P ⟨d,.store t x y,ty,pos,af,g⟩ n e w (fun _ w'=>ah w' B0 E sz enc A c (l.set k u)/\w.grownBy w' (Value.slice A l.length c).ownBlock):=fun a hf=>KB hf hx hy hs ho hsz hv hn h1 hm hj hk hu
end
section
variable {P : Program} {ops : Array Oper} {a : Act} {w : World} {n d : Nat} {e : kt} {ty : TypeId} {pos : String} {af : Array Edge} {g : Option (Nat × Bool)} {α : Type}
end
def a_(A A':Option Addr) : Prop:=∀ p q,A=some p->A'=some q->p.block≠q.block
section
variable {α β : Type} {w w' : World} {B B0 B1 : Nat} {E E' : TypeId} {sz sz' : Nat} {enc : α -> List Value} {enc' : β -> List Value} {A A' : Option Addr} {c c' : Nat} {l : List α} {l' : List β}
theorem ah.apart(h:ah w B E sz enc A c l)(h':ah w' B0 E' sz' enc' A' c' l')(hB:w.heap.size<=B0):a_ A A':=fun p q hp hq=>by
 rcases h.2 with ⟨h1,_⟩|⟨g,cap,cur,h1,h2,h3,_⟩
 ·injection h1 with h1;rw[h1] at hp;cases hp
 ·rcases h'.2 with ⟨k1,_⟩|⟨g',cap',cur',k1,k2,k3,_⟩
  ·injection k1 with k1;rw[k1] at hq;cases hq
  ·injection h1 with h1;injection k1 with k1;rw[h1] at hp;rw[k1] at hq;injection hp with hp;injection hq with hq;subst hp;subst hq;have:=(Qp.1 h3).1;intro e;simp only at e;omega
theorem ah.appP(h:ah w B1 E' sz' enc' A' c' l')(hg:w.grownBy w' (Value.slice A l.length c).ownBlock)(ha:a_ A' A):ah w' B1 E' sz' enc' A' c' l':=by
 refine ⟨h.1,?_⟩;rcases h.2 with h1|⟨g,cap,cur,h1,h2,h3,h4⟩
 ·exact .inl h1
 ·refine .inr ⟨g,cap,cur,h1,h2,(hg.block g (Qp.1 h3).1 fun hk=>?_).trans h3,h4⟩;injection h1 with h1;cases A with
  | none=>simp[Value.ownBlock] at hk
  | some q=>
   simp only[Value.ownBlock,Option.some.injEq] at hk;exact ha _ q h1 O hk
theorem AY{r:Option Nat}{w0 w w':World}(h:w0.grownBy w r)(hE:Bl w w'):w0.grownBy w' r:=
 ⟨hE.os.trans h.os,hE.tape.trans h.tape,hE.output.trans h.output,Q0 h.size hE.size,fun k hk hn=>(hE.block k (Nat.lt_of_lt_of_le hk h.size)).trans (h.block k hk hn)⟩
theorem Sy(A:Option Addr)(n m c d:Nat):(Value.slice A n c).ownBlock=(Value.slice A m d).ownBlock:=by cases A<;>rfl
theorem gtr{A:Option Addr}{n m c d:Nat}{w0 w w':World}(h:w0.grownBy w (Value.slice A n c).ownBlock)(k:w.grownBy w' (Value.slice A m d).ownBlock):w0.grownBy w' (Value.slice A n c).ownBlock:=
 ⟨k.os.trans h.os,k.tape.trans h.tape,k.output.trans h.output,Q0 h.size k.size,fun q hq hn=>(k.block q (Nat.lt_of_lt_of_le hq h.size) (by rw[Sy A m n d c];exact hn)).trans (h.block q hq hn)⟩
theorem ah.len{m:Nat}(h:ah w B E sz enc A c l)(hm:m=l.length):ah w B E sz enc A c l/\Value.slice A m c=Value.slice A l.length c:=⟨h,by rw[hm]⟩
theorem a_.symm(h:a_ A A'):a_ A' A:=fun p q hp hq e=>h q p hq hp e.symm
end
section
variable {w w' : World} {B : Nat} {l : List Sl}
end
section
variable {α : Type} {w w' : World} {B B1 : Nat} {E : TypeId} {sz : Nat} {enc : α -> List Value} {A : Option Addr} {c : Nat} {l : List α} {m : List Sl}
end
def a_.app{α:Type}{w:World}{B:Nat}{E:TypeId}{sz:Nat}{enc:α->List Value}{A A1 A2:Option Addr}{c:Nat}{l:List α}(h:ah w B E sz enc A c l)(ha:a_ A A1)(hat:∀ b,b<w.heap.size->il A1 b->il A2 b):a_ A A2:=by
 intro p q hp hq;rcases h.2 with ⟨h1,_⟩|⟨g,cap,cur,h1,_,h3,_⟩
 ·injection h1 with h1;rw[h1] at hp;cases hp
 ·injection h1 with h1;rw[h1] at hp;injection hp with hp;have hlt:p.block<w.heap.size:=by rw[<- hp];exact (Qp.1 h3).1
  have haw:il A1 p.block:=fun r hr e=>ha p r (by rw[h1,hp]) hr e.symm;exact fun e=>hat _ hlt haw q hq e.symm
def TL{α:Type}{P:Program}{a:Act}{w:World}{n:Nat}{e:kt}{ty:TypeId}{pos:String}{af:Array Edge}{g:Option (Nat×Bool)}{d:Option Tmp}{T E:TypeId}{sz bytes B b0:Nat}{x y:Operand}{enc:α->List Value}{A2:Option Addr}{c2:Nat}{l2:List α}(hf:Fr a n e)(hx:ev e x=some (.slice (some ⟨b0,0,none⟩) 0 0))(hy:ev e y=some (.slice A2 l2.length c2))
  (hT:bn P T E) (hi:ik P E sz bytes) (hsz:∀ x,(enc x).length=sz) (hone:∀ x,(enc x).all one=true) (hb:al w b0 E []) (hr:Rd w B E enc A2 l2) (h63:l2.length<=maxLen) (hbytes:l2.length*bytes<=140737488355328) :
  Ef P ⟨d,.call ⟨.builtin .append,#[x,y],#[T,T]⟩,ty,pos,af,g⟩ a w (fun v w'=>∃ A' c',v=.slice A' l2.length c'/\ah w' b0 E sz enc A' c' l2/\Bl w w'/\∀ b,b<w.heap.size->b≠b0->il A' b):=by
 by_cases hl2:l2=[]
 ·subst hl2;have ⟨i,z,hi1,hi2,hi3,hi4,hi5,hi6⟩:=hi;have hrun:(Builtin.append_ #[T,T] ty #[.slice (some ⟨b0,0,none⟩) 0 0,.slice A2 0 c2]).run P w=.ok (.slice (some ⟨b0,0,none⟩) 0 0) w:=by
   cases A2<;>simp[Builtin.append_,pM hT,sizeOf,typeInfo,hi1,Builtin.lenOf,Builtin.firstCells,loadCells,loadCellsFrom,storeCells]
  refine (Ef.of_run (v:=.slice (some ⟨b0,0,none⟩) 0 0) (w':=w) ?_).mono fun v w' ⟨e1,e2⟩=>?_
  ·simp only[List.length_nil] at hy;simp[execOp,resolve,invoke,builtin,hf.ev hx,hf.ev hy,hrun]
  ·subst e1;subst e2;exact ⟨_,_,O,ah.empty hb (Qb _),Below.refl _ _,fun b _ hne=>il.ne hne⟩
 ·have hown:ah w b0 E sz enc (some ⟨b0,0,none⟩) 0 ([] : List α):=ah.empty hb (Qb _);obtain ⟨i,z,hi1,hi2,rfl,rfl,hi5,hi6⟩:=hi;obtain ⟨b,off,cs,fz,rfl,h2,h3,h4⟩:=hr hl2;have hlen2:=qh hsz l2;have hpos:0<l2.length:=List.length_pos_iff.2 hl2;have h:=run_append_grow (P:=P) w T ty E i z hT hi1 hi2 ⟨b0,0,none⟩ 0 0 [] O6 (fun j u hu=>by simp at hu)
   ⟨b,off,none⟩ l2.length c2 (l2.flatMap enc) hlen2 (fun j u hu=>by
    have:=h4 j u hu;rw[qD];simp[World.cell?,h3,this])
   O0 (by simp only[maxLen] at h63;omega) (growslice_fits O0 (by simpa using hbytes))
  simp only[Nat.zero_add] at h;refine (Ef.of_run (w':=w.drew.alloc (.cells (([] : List Value).toArray++(l2.flatMap enc).toArray++Builtin.zeroCells z.cells (grownCap w l2.length 0 E-l2.length)) E)) (v:=.slice (some ⟨w.heap.size,0,none⟩) l2.length (grownCap w l2.length 0 E)) ?_).mono fun v w' ⟨e1,e2⟩=>?_
  ·simp[execOp,resolve,invoke,builtin,hf.ev hx,hf.ev hy,h]
  ·subst e1;subst e2;have hb0:=hb.lt;have hge:=grownCap_ge w l2.length 0 E;refine ⟨_,_,O,?_,((Below.refl _ _).drew).alloc (Qb _) _,fun b hb _=>il.ne O0⟩;refine ⟨qh hsz _,.inr ⟨w.heap.size,_,_,O,by omega,heap_alloc_new w.drew _,hge,grownCap_le_maxLen w _ _ E h63,?_,?_⟩⟩
   ·simp only[Array.size_append,List.size_toArray,size_zeroCells,hi5,hlen2,List.length_nil,Nat.zero_add,<- Wb];congr 1;omega
   ·rw[<- hlen2];simp only[Array.toList_append,Qx,List.nil_append];exact List.take_left
def vG{α:Type}{P:Program}{w:World}{n:Nat}{e:kt}{ty:TypeId}{pos:String}{af:Array Edge}{g:Option (Nat×Bool)}{d:Option Tmp}{T E:TypeId}{sz bytes B b0:Nat}{x y:Operand}{enc:α->List Value}{A2:Option Addr}{c2:Nat}{l2:List α}(hx:ev e x=some (.slice (some ⟨b0,0,none⟩) 0 0))(hy:ev e y=some (.slice A2 l2.length c2))(hT:bn P T E)(hi:ik P E sz bytes)(hsz:∀ x,(enc x).length=sz)(hone:∀ x,(enc x).all one=true)(hb:al w b0 E [])(hr:Rd w B E enc A2 l2)(h63:l2.length<=maxLen)(hbytes:l2.length*bytes<=140737488355328):fd P ⟨d,.call ⟨.builtin .append,#[x,y],#[T,T]⟩,ty,pos,af,g⟩ n e w (fun v w'=>∃ A' c',v=.slice A' l2.length c'/\ah w' b0 E sz enc A' c' l2/\Bl w w'/\∀ b,b<w.heap.size->b≠b0->il A' b):=fun a hf=>TL hf hx hy hT hi hsz hone hb hr h63 hbytes
def a_.new0{α:Type}{w:World}{B b0:Nat}{E:TypeId}{sz:Nat}{enc:α->List Value}{A A':Option Addr}{c:Nat}{l:List α}(h:ah w B E sz enc A c l)(ha:il A b0)(hat:∀ b,b<w.heap.size->b≠b0->il A' b):a_ A A':=fun p q hp hq e=>by
 rcases h.2 with ⟨h1,_⟩|⟨g,cap,cur,h1,_,h3,_⟩
 ·injection h1 with h1;rw[h1] at hp;cases hp
 ·injection h1 with h1;rw[h1] at hp;injection hp with hp;have hlt:p.block<w.heap.size:=by rw[<- hp];exact (Qp.1 h3).1
  exact hat _ hlt (ha p (by rw[h1,hp])) q hq e.symm
section
variable {P : Program} {ops : Array Oper} {V : Option Vk} {tl : Nat -> Bool} {Q : Act -> World -> Prop} {fuel : Nat} {done : List Nat} {w : World} {o : Oper} {op : Op} {ty : TypeId} {pos : String} {af : Array Edge} {g : Option (Nat × Bool)} {n d : Nat} {e : kt} {v : Value} {R : Value -> World -> Prop} {x : Operand}
end
def a_.nl(A:Option Addr):a_ none A:=fun _ _ h=>by cases h
def a_.nr(A:Option Addr):a_ A none:=fun _ _ _ h=>by cases h
def bu(k:Int)(n:Nat) : List Gt:=(List.range n).map fun (j:Nat)=>⟨k+3*(j:Int),k+3*(j:Int)+1,k+3*(j:Int)+2⟩
def R9{α:Type}{m:List α}{j:Nat}{x:α}(h:j<m.length):(m.set j x).take (j+1)=m.take j++[x]:=by
 rw[Wf (by simpa using h),List.take_set_of_le (Qb _),List.getElem_set_self]
def S4{m:List Gt}{k:Int}{x:Gt}{j:Nat}(h:m.take j=bu k j)(hj:j<m.length)(h1:x.k=k+3*(j:Int))(h2:x.a=k+3*(j:Int)+1)(h3:x.b=k+3*(j:Int)+2):(m.set j x).take (j+1)=bu k (j+1):=by
 have hx:x=⟨k+3*(j:Int),k+3*(j:Int)+1,k+3*(j:Int)+2⟩:=by cases x;simp at h1 h2 h3;simp[h1,h2,h3]
 rw[R9 hj,h,bu,bu,List.range_succ,List.map_append,hx];rfl
def sH(k:Int)(n:Nat):(bu k n).length=n:=by simp[bu]
def wA{α:Type}{m:List α}{j:Nat}{x:α}(h:j<m.length):(m.set j x)[j]? = some x:=List.getElem?_set_self h
def db:List Gt->Int->Int
 | [],k=>k
 | x::l,k=>if x.k=k/\x.a=k+1/\x.b=k+2 then db l (k+3) else -1
def FV{α:Type}{l:List α}{j:Nat}{u:α}(h:l[j]? = some u):l.drop j=u::l.drop (j+1):=by
 have ⟨h1,h2⟩:=Qg.1 h;rw[Qy h1,h2]
def NH{l:List Gt}{j:Nat}{u:Gt}{k:Int}(h:l[j]? = some u):db (l.drop j) k=if u.k=k/\u.a=k+1/\u.b=k+2 then db (l.drop (j+1)) (k+3) else -1:=by rw[FV h];rfl
def K0{l:List Gt}{j:Nat}{k:Int}(h:l.length<=j):db (l.drop j) k=k:=by rw[W3 h];rfl
def U0(k:Int)(n:Nat):bu k (n+1)=⟨k,k+1,k+2⟩::bu (k+3) n:=by
 unfold bu;rw[List.range_succ_eq_map,List.map_cons,List.map_map];congr 1
 ·simp
 ·apply List.map_congr_left;intro j _;simp only[Function.comp_apply,Nat.succ_eq_add_one,Gt.mk.injEq];refine ⟨?_,?_,?_⟩<;>push_cast<;>omega
def wD:∀ (n:Nat) (k:Int),db (bu k n) k=k+3*(n:Int)
 | 0,k=>by simp[bu,db]
 | n+1,k=>by rw[U0,db,Q4 ⟨rfl,rfl,rfl⟩,wD n];push_cast;omega
def pH{x:Dy}:dt x=true↔fu x.num=true/\(0<=x.exp/\x.exp<=60)/\(x.exp=0∨ei x.num=false):=by
 simp only[dt,Qd,iw,Bool.or_eq_true,beq_iff_eq,Bool.not_eq_true',and_assoc]
def Hw:∀ (m:Nat) (x:Rg),fu x=true->m<=60->dt (ip x m)=true
 | 0,x,h,_=>by
  rw[td O0];exact pH.2 ⟨h,by simp,.inl rfl⟩
 | m+1,x,h,hm=>by
  by_cases he:ei x=true
  ·rw[wR O0 he,show ((m+1:Nat) : Int)-1=(m:Int) from by omega];exact Hw m _ (yG h) O0
  ·have he':ei x=false:=by simpa using he
   rw[td fun _=>he'];exact pH.2 ⟨h,by dsimp only;omega,.inr he'⟩
def zl{x:Rg}{e:Int}(h:fu x=true)(h0:0<=e)(h1:e<=60):dt (ip x e)=true:=by
 obtain ⟨m,rfl⟩ : ∃ m:Nat,e=m:=⟨e.toNat,by omega⟩;exact Hw m x h O0
def su(o:Option Dy)(p:Bool×Dy) : Prop:=(∀ z,o=some z->p=(false,z)/\dt z=true)/\(o=none->p.1=true)
def uS{x y z:Rg}(hx:fu x=true)(hy:fu y=true):fk z [x,y]=fu z:=by simp[fk,hx,hy]
def AZ{x z:Rg}(hx:fu x=true):fk z [x]=fu z:=by simp[fk,hx]
def xB{x y:Dy}(hx:dt x=true)(hy:dt y=true):su (aj x y) (fq false x y):=by
 have kx:=pH.1 hx;have ky:=pH.1 hy;unfold aj fq;rw[hx,hy,uS kx.1 ky.1,be,uS kx.1 ky.1,Qw,Qw];by_cases hr:fu (ir x.num y.num)=true
 ·rw[Q4 hr,Q4 hr];unfold oL;rw[hr,Qw];by_cases he:60<x.exp+y.exp
  ·have h1:¬ bq (x.exp+y.exp) 0 60=true:=fun h=>by have:=iw.1 h;omega
   rw[Q3 h1,Q4 he];exact ⟨fun z h=>(by cases h),fun _=>rfl⟩
  ·have h1:bq (x.exp+y.exp) 0 60=true:=iw.2 O0;rw[Q4 h1,Q3 he,co,Q4 hr];exact ⟨fun z h=>(by injection h with h;subst h;exact ⟨rfl,zl hr O0 O0⟩),fun h=>by cases h⟩
 ·have hr':fu (ir x.num y.num)=false:=by simpa using hr
  rw[Q3 hr];refine ⟨fun z h=>(by cases h),fun _=>?_⟩;by_cases he:60<x.exp+y.exp
  ·rw[Q4 he]
  ·rw[Q3 he,hr'];rfl
def yu:∀ (n:Nat) (f:Bool) (x:Dy),(bi n f x).2.exp=x.exp+n
 | 0,f,x=>by simp[bi]
 | n+1,f,x=>by rw[bi,yu n];dsimp only;omega
def xf:∀ (n:Nat) (x:Dy),(bi n true x).1=true
 | 0,x=>rfl
 | n+1,x=>by rw[bi];exact xf n _
def CE:∀ (n:Nat) (x:Dy),fu x.num=true->(gc n x.num).2=true->bi n false x=(false,⟨(gc n x.num).1,x.exp+n⟩)/\fu (gc n x.num).1=true
 | 0,x,h,_=>⟨by simp[bi,gc],h⟩
 | n+1,x,h,hr=>by
  unfold gc at hr ⊢;rw[AZ h] at hr ⊢;by_cases h1:fu (aw x.num)=true
  ·rw[Q4 h1] at hr ⊢;rw[bi,h1,co,Q4 h1];have:=CE n ⟨aw x.num,x.exp+1⟩ h1 hr;refine ⟨?_,this.2⟩;simp only[Bool.not_true,Bool.or_false];rw[this.1];dsimp only;congr 2;omega
  ·rw[Q3 h1] at hr;cases hr
def Bi:∀ (n:Nat) (x:Dy),fu x.num=true->(gc n x.num).2=false->(bi n false x).1=true
 | 0,x,h,hr=>by cases hr
 | n+1,x,h,hr=>by
  unfold gc at hr;rw[AZ h] at hr;by_cases h1:fu (aw x.num)=true
  ·rw[Q4 h1] at hr;rw[bi,h1,co,Q4 h1];simp only[Bool.not_true,Bool.or_false];exact Bi n ⟨aw x.num,x.exp+1⟩ h1 hr
  ·have h2:fu (aw x.num)=false:=by simpa using h1
   rw[bi,h2];exact xf n _
def xZ{x y:Dy}(hx:dt x=true)(hy:dt y=true):su (ap x y) (jt false x y):=by
 have kx:=pH.1 hx
 have ky:=pH.1 hy
 obtain ⟨m,hm⟩ : ∃ m,m=max x.exp y.exp:=⟨_,O⟩
 have e1:(m-x.exp).toNat=(y.exp-x.exp).toNat:=by omega
 have e3:x.exp+((y.exp-x.exp).toNat:Int)=m:=by omega
 have ed1:aq x m=gc (y.exp-x.exp).toNat x.num:=by rw[aq,e1]
 unfold ap jt
 rw[hx,hy,Bool.and_self,Q4 O,<- hm,yu,e3]
 cases h1:(aq x m).2 with
 | false=>
  have hb:=Bi _ x kx.1 (by rw[<- ed1];exact h1)
  rw[hb,xf]
  simp only[Bool.false_and,Bool.false_eq_true,if_false,Bool.true_or]
  exact ⟨fun z h=>(by cases h),fun _=>rfl⟩
 | true=>
  obtain ⟨g1,g2⟩:=CE _ x kx.1 (by rw[<- ed1];exact h1)
  rw[g1]
  rw[<- ed1] at g2 ⊢
  dsimp only
  have ed2:aq y m=gc (m-y.exp).toNat y.num:=rfl
  cases h2:(aq y m).2 with
  | false=>
   have hb:=Bi _ y ky.1 (by rw[<- ed2];exact h2)
   rw[hb]
   simp only[Bool.and_false,Bool.false_and,Bool.false_eq_true,if_false,Bool.true_or]
   exact ⟨fun z h=>(by cases h),fun _=>rfl⟩
  | true=>
   obtain ⟨k1,k2⟩:=CE _ y ky.1 (by rw[<- ed2];exact h2)
   rw[k1]
   rw[<- ed2] at k2 ⊢
   dsimp only
   rw[uS g2 k2,be,uS g2 k2,Qw,Qw,Bool.false_or]
   by_cases hr:fu (ig (aq x m).1 (aq y m).1)=true
   ·have h3:bq m 0 60=true:=iw.2 O0
    rw[Q4 hr,Q4 hr,oL,hr,h3,co,Q4 hr]
    exact ⟨fun z h=>(by simp only[Bool.and_self,if_true] at h;injection h with h;subst h;exact ⟨rfl,zl hr O0 O0⟩),fun h=>by simp at h⟩
   ·have hr':fu (ig (aq x m).1 (aq y m).1)=false:=by simpa using hr
    rw[Q3 hr,hr']
    exact ⟨fun z h=>(by cases h),fun _=>rfl⟩
def j_(f:Bool)(a b:Mx)(i j:Nat) : Nat->Bool×Dy
 | 0=>(f,dZ)
 | n+1=>if (j_ f a b i j n).1=true then j_ f a b i j n else
   jt (fq false (a.at i n) (b.at n j)).1 (j_ f a b i j n).2 (fq false (a.at i n) (b.at n j)).2
def Em{f:Bool}{a b:Mx}{i j n:Nat}(h:(j_ f a b i j n).1=true):∀ m,n<=m->j_ f a b i j m=j_ f a b i j n
 | 0,h'=>by
  obtain rfl:n=0:=by omega
  rfl
 | m+1,h'=>by
  by_cases hm:n=m+1
  ·subst hm;rfl
  ·rw[j_,Em h m O0,Q4 h]
def Gf(a b:Mx)(i j n:Nat):j_ true a b i j n=(true,dZ):=Em (n:=0) rfl n (Qf _)
def tG:dt dZ=true:=by decide
def wN(x y:Dy):(jt true x y).1=true:=by
 unfold jt;rw[show (bi (y.exp-x.exp).toNat true x).1=true from xf _ _,xf];rfl
def la(m:Mx) : Prop:=∀ x ∈ m.cells,dt x=true
def Mx.at_ok{m:Mx}(h:la m)(i j:Nat):dt (m.at i j)=true:=by
 unfold Mx.at
 rw[Qa];cases hx:m.cells[i*m.cols.toNat+j]? with
 | none=>exact tG
 | some x=>exact h x (Qe hx)
def FY{a b:Mx}(ha:la a)(hb:la b)(i j:Nat):∀ n,su (de a b i j n) (j_ false a b i j n)
 | 0=>⟨fun z h=>(by injection h with h;subst h;exact ⟨rfl,tG⟩),fun h=>by cases h⟩
 | n+1=>by
  have ih:=FY ha hb i j n;have hm:=xB (Mx.at_ok ha i n) (Mx.at_ok hb n j);unfold de j_;cases h1:de a b i j n with
  | none=>
   have h2:=ih.2 h1;rw[Q4 h2];exact ⟨fun z h=>(by cases h),fun _=>h2⟩
  | some s=>
   have ⟨h2,h3⟩:=ih.1 s h1;rw[h2];simp only[Bool.false_eq_true,if_false,Qz];cases h4:aj (a.at i n) (b.at n j) with
   | none=>
    rw[hm.2 h4];exact ⟨fun z h=>(by cases h),fun _=>wN _ _⟩
   | some x=>
    have ⟨h5,h6⟩:=hm.1 x h4;rw[h5];exact xZ h3 h6
def gr(f:Bool)(a b:Mx) : Nat->Bool×List Dy
 | 0=>(f,[])
 | n+1=>((j_ (gr f a b n).1 a b (n/b.cols.toNat) (n % b.cols.toNat) a.cols.toNat).1,(gr f a b n).2++[(j_ (gr f a b n).1 a b (n/b.cols.toNat) (n % b.cols.toNat) a.cols.toNat).2])
def ar(f:Bool)(a b:Mx) : Bool×Mx:=((gr f a b (a.rows.toNat*b.cols.toNat)).1,⟨a.rows,b.cols,(gr f a b (a.rows.toNat*b.cols.toNat)).2⟩)
def Bx(f:Bool)(a b:Mx):∀ n,(gr f a b n).2.length=n
 | 0=>rfl
 | n+1=>by simp[gr,Bx f a b n]
def RF{f:Bool}{a b:Mx}{i j:Nat}(hj:j<b.cols.toNat):gr f a b (i*b.cols.toNat+(j+1))=((j_ (gr f a b (i*b.cols.toNat+j)).1 a b i j a.cols.toNat).1,(gr f a b (i*b.cols.toNat+j)).2++[(j_ (gr f a b (i*b.cols.toNat+j)).1 a b i j a.cols.toNat).2]):=by
 have h1:(i*b.cols.toNat+j)/b.cols.toNat=i:=by rw[Wi,Nat.mul_add_div O0,Nat.div_eq_of_lt hj];omega
 have h2:(i*b.cols.toNat+j) % b.cols.toNat=j:=by rw[Wi,Nat.mul_add_mod,Nat.mod_eq_of_lt hj]
 rw[show i*b.cols.toNat+(j+1)=(i*b.cols.toNat+j)+1 from O,gr,h1,h2]
def JM{a b:Mx}(ha:la a)(hb:la b):∀ n,(∀ l,gw (f_ (fun i j=>de a b i j a.cols.toNat) b.cols.toNat) n=some l->gr false a b n=(false,l)/\∀ x ∈ l,dt x=true)/\
  (gw (f_ (fun i j=>de a b i j a.cols.toNat) b.cols.toNat) n=none->(gr false a b n).1=true)
 | 0=>⟨fun l h=>(by injection h with h;subst h;exact ⟨rfl,fun x hx=>by cases hx⟩),fun h=>by cases h⟩
 | n+1=>by
  have ih:=JM ha hb n;have hd:=FY ha hb (n/b.cols.toNat) (n % b.cols.toNat) a.cols.toNat
  unfold gw gr;cases h1:gw (f_ (fun i j=>de a b i j a.cols.toNat) b.cols.toNat) n with
  | none=>
   rw[ih.2 h1,Gf];exact ⟨fun l h=>(by cases h),fun _=>rfl⟩
  | some l=>
   have ⟨h2,h3⟩:=ih.1 l h1;rw[h2];dsimp only;rw[show f_ (fun i j=>de a b i j a.cols.toNat) b.cols.toNat n=de a b (n/b.cols.toNat) (n % b.cols.toNat) a.cols.toNat from rfl];cases h4:de a b (n/b.cols.toNat) (n % b.cols.toNat) a.cols.toNat with
   | none=>exact ⟨fun l h=>(by cases h),fun _=>hd.2 h4⟩
   | some x=>
    have ⟨h5,h6⟩:=hd.1 x h4;rw[h5];refine ⟨fun l' h=>?_,fun h=>by cases h⟩;injection h with h;subst h;exact ⟨O,fun y hy=>by
     rcases Qu.1 hy with hy|hy
     ·exact h3 y hy
     ·rw[Qm.1 hy];exact h6⟩
def oc{m:Mx}(h:di m=true):la m:=by grind [la,di]
def qM{m:Mx}(h:di m=true):dm m.rows=true/\dm m.cols=true:=by grind [dm,di]
def we{m:Mx}(hr:dm m.rows=true)(hc:dm m.cols=true)(hl:m.cells.length=m.rows.toNat*m.cols.toNat)(ha:la m):di m=true:=by
 have h1:=sW hr;have h2:=sW hc;have h3:(m.cells.any fun x=>!dt x)=false:=by
  rw[W7];intro x hx;simp[ha x hx]
 have h4:wr (m.rows*m.cols)=(m.cells.length:Int):=by
  have ⟨r,hr⟩ : ∃ r:Nat,m.rows=r:=⟨m.rows.toNat,by omega⟩;have ⟨c,hc⟩ : ∃ c:Nat,m.cols=c:=⟨m.cols.toNat,by omega⟩;rw[hr] at h1;rw[hc] at h2;rw[hl,hr,hc];have h5:r*c<=32*32:=Nat.mul_le_mul O0 O0;rw[<- Int.natCast_mul,im O0 O0];simp
 unfold di;rw[hr,hc,h3,h4];simp
def tj{n:Int}(h:1<=n/\n<=5):dm ((2^n.toNat:Nat) : Int)=true:=by
 have:n=1∨n=2∨n=3∨n=4∨n=5:=by omega
 rcases this with rfl|rfl|rfl|rfl|rfl<;>decide
def r9{a b:Mx}(ha:di a=true)(hb:di b=true)(hab:a.cols=b.rows):(∀ m,bg a b=some m->ar false a b=(false,m)/\di m=true/\m.rows=a.rows/\m.cols=b.cols)/\(bg a b=none->(ar false a b).1=true):=by
 have hd1:=(qM ha).1;have hd2:=(qM hb).2;have h:=JM (oc ha) (oc hb) (a.rows.toNat*b.cols.toNat);unfold bg ax ar;rw[ha,hb,hd1,hd2,Q4 (by simp[hab]),Q4 (show (true&&true)=true from O)];cases h1:gw (f_ (fun i j=>de a b i j a.cols.toNat) b.cols.toNat) (a.rows.toNat*b.cols.toNat) with
 | none=>exact ⟨fun m h=>(by cases h),fun _=>h.2 h1⟩
 | some l=>
  have ⟨h2,h3⟩:=h.1 l h1;rw[h2];refine ⟨fun m hm=>?_,fun hm=>by cases hm⟩;injection hm with hm;subst hm;exact ⟨O,we hd1 hd2 (sY h1) h3,O,O⟩
def Fz{f:Nat->Dy}:∀ n,gw (fun m=>some (f m)) n=some ((List.range n).map f)
 | 0=>rfl
 | n+1=>by simp[gw,Fz n,List.range_succ]
def yr{R C:Int}(hR:dm R=true)(hC:dm C=true)(f:Nat->Nat->Dy):ax R C (fun i j=>some (f i j))=some ⟨R,C,fy f C.toNat (R.toNat*C.toNat)⟩:=by
 unfold ax;rw[hR,hC,Q4 (show (true&&true)=true from O)];have:f_ (fun i j=>some (f i j)) C.toNat=fun m=>some (p_ f C.toNat m):=rfl;rw[this,Fz];rfl
def Vt{f g:Nat->Nat->Dy}{R C:Nat}(h:∀ i j,i<R->j<C->f i j=g i j):fy f C (R*C)=fy g C (R*C):=by
 unfold fy;refine List.map_congr_left fun m hm=>?_;have hm':=W2.1 hm;have hC:0<C:=by
  rcases Nat.eq_zero_or_pos C with h0|h0
  ·subst h0;simp at hm'
  ·exact h0
 exact h _ _ (Nat.div_lt_of_lt_mul (by rw[Wi];exact hm')) (Nat.mod_lt _ hC)
def Dr{f:Nat->Nat->Dy}{R C:Nat}{x:Dy}(h:x ∈ fy f C (R*C)):∃ i j,i<R/\j<C/\x=f i j:=by
 unfold fy at h;obtain ⟨m,hm,rfl⟩:=W6.1 h;have hm':=W2.1 hm;have hC:0<C:=by
  rcases Nat.eq_zero_or_pos C with h0|h0
  ·subst h0;simp at hm'
  ·exact h0
 exact ⟨_,_,Nat.div_lt_of_lt_mul (by rw[Wi];exact hm'),Nat.mod_lt _ hC,O⟩
def ao(d:Nat) : Mx:=⟨(d:Int),(d:Int),fy (fun i j=>if i=j then ac 0 else dZ) d (d*d)⟩
def s_{d:Nat}(h:dm (d:Int)=true):sw (d:Int)=some (ao d)/\di (ao d)=true:=by
 refine ⟨?_,?_⟩
 ·unfold sw;rw[yr h h (fun i j=>if i=j then ⟨⟨1,0,0,0⟩,0⟩ else dZ)];rfl
 ·refine we h h (by simp[ao,sU]) fun x hx=>?_;obtain ⟨i,j,_,_,rfl⟩:=Dr hx;split
  ·rfl
  ·rfl
def kr(p s:Nat) : Int:=bits .and .i64 ((s:Int)/2^p) 1
def ct(p s:Nat) : Int:=bits .xor .i64 (s:Int) (wr (1*2^p))
def rx:Bool:=(List.range 5).all fun p=>(List.range 32).all fun s=>
 let f:=ct p s
 Nat.blt f.toNat 32&&f==(f.toNat:Int)&&ct p f.toNat==(s:Int)&&(kr p f.toNat==1-kr p s)&&(kr p s==0||kr p s==1) &&
 (List.range 5).all (fun q=>(q==p)||kr q f.toNat==kr q s) &&
 (List.range 5).all (fun q=>let g:=ct q s;ct p g.toNat==ct q f.toNat) &&
 (List.range 32).all fun t=>(((t:Int)==s||f==(t:Int))==(bits .andNot .i64 (bits .xor .i64 (s:Int) (t:Int)) (wr (1*2^p))==0))
def QT:rx=true:=by kernel_rfl
def qw:Bool:=(List.range 6).all fun n=>(List.range n).all fun q=>(List.range (2^n)).all fun s=>Nat.blt (ct (n-1-q) s).toNat (2^n)
def Pq:qw=true:=by kernel_rfl
structure vg (p s:Nat) : Prop where
 nat:ct p s=((ct p s).toNat:Int)
 lt:(ct p s).toNat<32
 back:ct p (ct p s).toNat=(s:Int)
 bit:kr p (ct p s).toNat=1-kr p s
 other:∀ q<5,q≠p->kr q (ct p s).toNat=kr q s
 comm:∀ q<5,ct p (ct q s).toNat=ct q (ct p s).toNat
 sel:∀ t:Nat,t<32->(((t:Int)=s∨ct p s=(t:Int))↔bits .andNot .i64 (bits .xor .i64 (s:Int) (t:Int)) (wr (1*2^p))=0)
def tw{p s:Nat}(hp:p<5)(hs:s<32):vg p s:=by
 have h:=QT;simp only[rx,W1,W2] at h;have h:=h p hp s hs;simp only[Qd,W1,W2,beq_iff_eq,Bool.or_eq_true,Nat.blt_eq] at h;have ⟨⟨⟨⟨⟨⟨⟨h1,h2⟩,h3⟩,h4⟩,_⟩,h6⟩,h7⟩,h8⟩:=h;refine ⟨h2,h1,h3,h4,fun q hq hne=>(h6 q hq).resolve_left hne,h7,fun t ht=>?_⟩;have h9:=h8 t ht;rw[Bool.eq_iff_iff] at h9;simpa using h9
def yV{n q s:Nat}(hn:n<=5)(hq:q<n)(hs:s<2^n):(ct (n-1-q) s).toNat<2^n:=by
 have h:=Pq;simp only[qw,W1,W2] at h;have h:=h n O0 q hq s hs;simpa[Nat.blt_eq] using h
def DX{n q:Int}(s:Nat):d_ n (s:Int) q=kr (n-1-q).toNat s:=rfl
def vP{n q:Int}(s:Nat):kg n (s:Int) q=ct (n-1-q).toNat s:=rfl
def HF{n q:Int}(hq:0<=q)(hqn:q<n):(n-1-q).toNat=n.toNat-1-q.toNat:=by omega
def Ct{n:Int}{g:Gt}(hg:gp n g=true){s:Nat}(hs:s<2^n.toNat)(hk:9<=g.k/\g.k<=11):∃ t:Nat,t<2^n.toNat/\nt n g s=(t:Int)/\nt n g t=(s:Int)/\(g.k=10->t=s):=by
 have ⟨hn,hk0,ha,hb⟩:=qe hg;have ha:=ha O0;have hb:=hb hk;have h32:2^n.toNat<=32:=wu hn.2;have ⟨p,hp⟩ : ∃ p,p=(n-1-g.a).toNat:=⟨_,O⟩;have ⟨q,hq⟩ : ∃ q,q=(n-1-g.b).toNat:=⟨_,O⟩;have hp5:p<5:=by omega
 have hq5:q<5:=by omega
 have hpq:p≠q:=by omega
 have hsm:∀ s,s<2^n.toNat->(ct p s).toNat<2^n.toNat:=fun s hs=>by
  rw[hp,HF O0 O0];exact yV O0 O0 hs
 have hsm2:∀ s,s<2^n.toNat->(ct q s).toNat<2^n.toNat:=fun s hs=>by
  rw[hq,HF O0 O0];exact yV O0 O0 hs
 unfold nt;simp only[DX,vP,<- hp,<- hq];have Bp:=tw (p:=p) (s:=s) hp5 O0;have Bq:=tw (p:=q) (s:=s) hq5 O0;by_cases h9:g.k=9
 ·simp only[h9,if_true];by_cases hb1:kr p s=1
  ·refine ⟨(ct q s).toNat,hsm2 s hs,by rw[Q4 hb1];exact Bq.nat,?_,by omega⟩;rw[Q4 (by rw[Bq.other p hp5 hpq];exact hb1)];exact Bq.back
  ·exact ⟨s,hs,by rw[Q3 hb1],by rw[Q3 hb1],by omega⟩
 ·simp only[h9,if_false];by_cases h11:g.k=11
  ·simp only[h11,if_true];by_cases hb1:kr p s=kr q s
   ·exact ⟨s,hs,by rw[Q3 (by simpa using hb1)],by rw[Q3 (by simpa using hb1)],by omega⟩
   ·have Bf:=tw (p:=q) (s:=(ct p s).toNat) hq5 Bp.lt;have Bg:=tw (p:=p) (s:=(ct q (ct p s).toNat).toNat) hp5 Bf.lt;have e1:kg n (ct p s) g.b=ct q (ct p s).toNat:=by rw[Bp.nat,vP,<- hq,Qj]
    refine ⟨(ct q (ct p s).toNat).toNat,hsm2 _ (hsm _ hs),?_,?_,by omega⟩
    ·rw[Q4 hb1,e1];exact Bf.nat
    ·have e2:kr p (ct q (ct p s).toNat).toNat=1-kr p s:=by rw[Bf.other p hp5 hpq,Bp.bit]
     have e3:kr q (ct q (ct p s).toNat).toNat=1-kr q s:=by rw[Bf.bit,Bp.other q hq5 (Ne.symm hpq)]
     have e4:ct p (ct q (ct p s).toNat).toNat=ct q (ct p (ct p s).toNat).toNat:=(tw (p:=p) (s:=(ct p s).toNat) hp5 Bp.lt).comm q hq5;rw[Q4 (by rw[e2,e3];omega),e4,Bp.back,Qj,Bq.nat,vP,<- hq,Bq.back]
  ·exact ⟨s,hs,by rw[Q3 h11],by rw[Q3 h11],fun _=>rfl⟩
def Rm{k:Int}(h:1<=k/\k<=8){i j:Int}(hi:i=0∨i=1)(hj:j=0∨j=1):(km k).getD (2*i+j).toNat dZ=gn k i j:=by
 have:k=1∨k=2∨k=3∨k=4∨k=5∨k=6∨k=7∨k=8:=by omega
 rcases this with rfl|rfl|rfl|rfl|rfl|rfl|rfl|rfl<;>rcases hi with rfl|rfl<;>rcases hj with rfl|rfl<;>rfl
def Nb{n:Int}{g:Gt}(hg:gp n g=true){i j:Nat}(hi:i<2^n.toNat)(hj:j<2^n.toNat):e_ n g i j=cu n g i j:=by
 have ⟨hn,hk0,ha,hb⟩:=qe hg;have h32:2^n.toNat<=32:=wu hn.2;unfold e_ cu;by_cases h12:g.k=12
 ·rw[Q4 h12,Q3 (show ¬ g.k<=8 by omega)];have e1:nt n g j=j:=by unfold nt;rw[Q3 (show ¬ g.k=9 by omega),Q3 (show ¬ g.k=11 by omega)]
  rw[e1];by_cases hij:(i:Int)=j
  ·rw[Q4 hij,Q4 hij,ll,Q4 h12]
  ·rw[Q3 hij,Q3 hij]
 ·rw[Q3 h12];by_cases h2:9<=g.k/\g.k<=11
  ·rw[Q4 (iw.2 h2),Q3 (show ¬ g.k<=8 by omega)];have ⟨t,ht,e1,e2,e3⟩:=Ct hg hi h2;obtain ⟨t',ht',e1',e2',e3'⟩:=Ct hg hj h2;by_cases hij:nt n g i=j
   ·have hts:(i:Int)=nt n g j:=by rw[<- e2,<- e1,hij]
    rw[Q4 hij,Q4 hts,ll,Q3 h12];by_cases h10:g.k=10
    ·have hij2:i=j:=by rw[e1] at hij;have:=e3 h10;omega
     subst hij2;by_cases hc:d_ n i g.a=1/\d_ n i g.b=1
     ·rw[Q4 (by simp[ra,h10,hc]),Q4 ⟨h10,hc⟩];rfl
     ·have hc':¬ ra n g i=true:=by simp only[ra,h10,Qd,beq_iff_eq,true_and,and_assoc];exact hc
      rw[Q3 hc',Q3 (fun h=>hc h.2)];rfl
    ·have hc':¬ ra n g i=true:=by simp[ra,h10]
     rw[Q3 hc',Q3 (fun h=>h10 h.1)];rfl
   ·have hts:¬ (i:Int)=nt n g j:=fun h=>by
     rw[e1'] at h;have h:i=t':=by omega
     subst h;exact hij e2'
    rw[Q3 hij,Q3 hts]
  ·have h8:g.k<=8:=by omega
   have ha:=ha h12;rw[Q3 (fun h=>h2 (iw.1 h)),Q4 h8];have B:=tw (p:=(n-1-g.a).toNat) (s:=i) O0 O0;have hs:=B.sel j O0;rw[vP];have e0:((i:Int)=j∨ct (n-1-g.a).toNat i=(j:Int))↔((j:Int)=i∨ct (n-1-g.a).toNat i=(j:Int)):=by
    constructor<;>rintro (h|h)<;>first|exact .inl h.symm|exact .inr h
   by_cases hz:bits .andNot .i64 (bits .xor .i64 (i:Int) (j:Int)) (wr (1*2^(n-1-g.a).toNat))=0
   ·rw[Q4 (e0.2 (hs.2 hz)),Q3 (fun h=>h hz)];exact (Rm ⟨hk0.1,h8⟩ (ti _ _ _) (ti _ _ _)).symm
   ·rw[Q3 (fun h=>hz (hs.1 (e0.1 h))),Q4 hz]
def Nz{k:Int}(h:1<=k/\k<=8){i j:Int}(hi:i=0∨i=1)(hj:j=0∨j=1):dt (gn k i j)=true:=by
 have:k=1∨k=2∨k=3∨k=4∨k=5∨k=6∨k=7∨k=8:=by omega
 rcases this with rfl|rfl|rfl|rfl|rfl|rfl|rfl|rfl<;>rcases hi with rfl|rfl<;>rcases hj with rfl|rfl<;>rfl
def Ku{n:Int}{g:Gt}(hg:gp n g=true)(i j:Int):dt (e_ n g i j)=true:=by
 have ⟨hn,hk0,ha,hb⟩:=qe hg;unfold e_;split
 ·split<;>rfl
 ·split
  ·split
   ·split<;>rfl
   ·rfl
  ·rename_i h1 h2;split
   ·exact Nz (by have h3:¬ (9<=g.k/\g.k<=11):=fun h=>h2 (iw.2 h);omega) (ti _ _ _) (ti _ _ _)
   ·rfl
def r_{n:Int}{g:Gt}(hg:gp n g=true):br n g=some (bc n g)/\di (bc n g)=true:=by
 have hn:=(qe hg).1;have hd:=tj hn;have he:fy (fun i j=>e_ n g i j) (2^n.toNat) (2^n.toNat*2^n.toNat)=fy (fun i j=>cu n g i j) (2^n.toNat) (2^n.toNat*2^n.toNat):=Vt fun i j hi hj=>Nb hg hi hj;refine ⟨?_,?_⟩
 ·unfold br;rw[Q4 hg,yr hd hd (fun i j=>e_ n g i j)];simp only[Qj];rw[he];rfl
 ·refine we hd hd (by simp only[bc,sU,Qj]) fun x hx=>?_;simp only[bc] at hx;rw[<- he] at hx;obtain ⟨i,j,_,_,rfl⟩:=Dr hx;exact Ku hg _ _
def gk(n:Int) : List Gt->Mx->Option Mx
 | [],m=>some m
 | g::l,m=>(bg ((br n g).getD mZ) m).bind (gk n l)
def lg(n:Int)(f:Bool) : List Gt->Mx->Bool×Mx
 | [],m=>(f,m)
 | g::l,m=>if f=true then (f,m) else lg n (ar false (bc n g) m).1 l (ar false (bc n g) m).2
def Bo(n:Int):∀ (l:List Gt) (m:Mx),lg n true l m=(true,m)
 | [],_=>rfl
 | _::_,_=>rfl
def FO{n:Int}:∀ (l:List Gt) (m:Mx),(∀ g ∈ l,gp n g=true)->di m=true->m.rows=((2^n.toNat:Nat) : Int)->
  (∀ m',gk n l m=some m'->lg n false l m=(false,m')/\di m'=true/\m'.rows=((2^n.toNat:Nat) : Int))/\(gk n l m=none->(lg n false l m).1=true)
 | [],m,_,hm,hr=>⟨fun m' h=>(by injection h with h;subst h;exact ⟨rfl,hm,hr⟩),fun h=>by cases h⟩
 | g::l,m,hg,hm,hr=>by
  have ⟨h1,h2⟩:=r_ (hg g O6);have h3:=r9 h2 hm (by rw[hr];rfl);unfold gk lg;rw[h1,Qq,Q3 O2];cases h4:bg (bc n g) m with
  | none=>
   rw[h3.2 h4,Bo];exact ⟨fun m' h=>(by cases h),fun _=>rfl⟩
  | some m1=>
   have ⟨h5,h6,h7,h8⟩:=h3.1 m1 h4;rw[h5];exact FO l m1 (fun g hg'=>hg g (by simp[hg'])) h6 (by rw[h7];rfl)
def eu(c:Cx) : Option Mx:=if gf c=true then (sw ((2^c.n.toNat:Nat) : Int)).bind (gk c.n c.gs) else none
def rL(c:Cx) : Option Mx:=if gf c=true then (if (lg c.n false c.gs (ao (2^c.n.toNat))).1=true then none else some (lg c.n false c.gs (ao (2^c.n.toNat))).2) else none
def n'{c:Cx}(h:gf c=true):(1<=c.n/\c.n<=5)/\c.gs.length<=400/\∀ g ∈ c.gs,gp c.n g=true:=by
 simp only[gf,Qd,iw,Qr,Bool.not_eq_true',W7] at h;exact ⟨h.1.1,by omega,fun g hg=>by simpa using h.2 g hg⟩
def v8(c:Cx):eu c=rL c/\∀ m,rL c=some m->di m=true/\m.rows=((2^c.n.toNat:Nat) : Int):=by
 unfold eu rL;by_cases hc:gf c=true
 ·have ⟨hn,_,hg⟩:=n' hc;have ⟨h1,h2⟩:=s_ (tj hn);have h3:=FO c.gs _ hg h2 O;rw[Q4 hc,Q4 hc,h1,Qz];cases h4:gk c.n c.gs (ao (2^c.n.toNat)) with
  | none=>rw[h3.2 h4,Q4 rfl];exact ⟨rfl,fun m h=>by cases h⟩
  | some m'=>
   have ⟨h5,h6,h7⟩:=h3.1 m' h4;rw[h5,Q3 (show ¬ (false=true) by decide)];exact ⟨O,fun m h=>(by injection h with h;subst h;exact ⟨h6,h7⟩)⟩
 ·rw[Q3 hc,Q3 hc];exact ⟨O,fun m h=>by cases h⟩
def NT{x:Cx}{M:Mx}(hx:gf x=true)(h:eu x=some M):lg x.n false x.gs (ao (2^x.n.toNat))=(false,M):=by
 rw[(v8 x).1,rL,Q4 hx] at h;cases e:(lg x.n false x.gs (ao (2^x.n.toNat))).1 with
 | true=>rw[Q4 e] at h;cases h
 | false=>
  rw[Q3 (by rw[e];decide)] at h;injection h with h;exact Prod.ext e h
def Cg{x:Rg}(h:fu x=true):fu (qG x)=true/\qG x=⟨-x.d,x.a,x.b,x.c⟩:=by
 rw[qP] at h;have e:qG x=⟨-x.d,x.a,x.b,x.c⟩:=by unfold qG;rw[im O0 O0]
 refine ⟨?_,e⟩;rw[e,qP];dsimp only;omega
def uR{x:Rg}(h:fu x=true):ei x=true↔(x.a+x.c) % 2=0/\(x.b+x.d) % 2=0:=by
 rw[qP] at h;unfold ei;rw[im O0 O0,im O0 O0];simp only[Qd,beq_iff_eq];have key:∀ i:Int,i.tmod 2=0↔i % 2=0:=fun i=>by
  rw[<- Int.dvd_iff_tmod_eq_zero,<- Int.dvd_iff_emod_eq_zero]
 rw[key,key]
def PW{x:Rg}(h:fu x=true):ei (qG x)=ei x:=by
 have ⟨h1,h2⟩:=Cg h;rw[Bool.eq_iff_iff,uR h1,uR h,h2];dsimp only;omega
def JY:∀ (k:Nat) (x:Rg),fu x=true->fu (gz k x)=true/\ei (gz k x)=ei x
 | 0,_,h=>⟨h,rfl⟩
 | k+1,x,h=>by
  have ⟨h1,h2⟩:=JY k (qG x) (Cg h).1;exact ⟨h1,h2.trans (PW h)⟩
def yv{x:Rg}(h:fu x=true)(k:Int):fu (c_ x k)=true/\ei (c_ x k)=ei x:=JY _ _ h
def un:wr 0=0:=rfl
def L5{x:Rg}(h:fu x=true){k:Nat}(hk:k<8):ir x (c_ ⟨1,0,0,0⟩ k)=c_ x k:=by
 have h':=qP.1 h;have ⟨a,b,c,d⟩:=x;dsimp only at h';have wa:wr a=a:=im O0 O0;have wb:wr b=b:=im O0 O0;have wc:wr c=c:=im O0 O0;have wd:wr d=d:=im O0 O0;have na:wr (-a) = -a:=im O0 O0;have nb:wr (-b) = -b:=im O0 O0;have nc:wr (-c) = -c:=im O0 O0;have nd:wr (-d) = -d:=im O0 O0;have:k=0∨k=1∨k=2∨k=3∨k=4∨k=5∨k=6∨k=7:=by omega
 have s0:c_ ⟨1,0,0,0⟩ ((0:Nat) : Int)=⟨1,0,0,0⟩:=by decide
 have s1:c_ ⟨1,0,0,0⟩ ((1:Nat) : Int)=⟨0,1,0,0⟩:=by decide
 have s2:c_ ⟨1,0,0,0⟩ ((2:Nat) : Int)=⟨0,0,1,0⟩:=by decide
 have s3:c_ ⟨1,0,0,0⟩ ((3:Nat) : Int)=⟨0,0,0,1⟩:=by decide
 have s4:c_ ⟨1,0,0,0⟩ ((4:Nat) : Int)=⟨-1,0,0,0⟩:=by decide
 have s5:c_ ⟨1,0,0,0⟩ ((5:Nat) : Int)=⟨0,-1,0,0⟩:=by decide
 have s6:c_ ⟨1,0,0,0⟩ ((6:Nat) : Int)=⟨0,0,-1,0⟩:=by decide
 have s7:c_ ⟨1,0,0,0⟩ ((7:Nat) : Int)=⟨0,0,0,-1⟩:=by decide
 have T:∀ j:Nat,j<8->c_ ⟨a,b,c,d⟩ (j:Int)=gz j ⟨a,b,c,d⟩:=fun j hj=>by
  have:(jb (j:Int)).toNat=j:=by
   have:j=0∨j=1∨j=2∨j=3∨j=4∨j=5∨j=6∨j=7:=by omega
   rcases this with rfl|rfl|rfl|rfl|rfl|rfl|rfl|rfl<;>decide
  rw[c_,this]
 rcases this with rfl|rfl|rfl|rfl|rfl|rfl|rfl|rfl
 ·rw[T 0 O0,s0];simp[ir,gz,qG,un,wa,wb,wc,wd,na,nb,nc,nd]
 ·rw[T 1 O0,s1];simp[ir,gz,qG,un,wa,wb,wc,wd,na,nb,nc,nd]
 ·rw[T 2 O0,s2];simp[ir,gz,qG,un,wa,wb,wc,wd,na,nb,nc,nd]
 ·rw[T 3 O0,s3];simp[ir,gz,qG,un,wa,wb,wc,wd,na,nb,nc,nd]
 ·rw[T 4 O0,s4];simp[ir,gz,qG,un,wa,wb,wc,wd,na,nb,nc,nd]
 ·rw[T 5 O0,s5];simp[ir,gz,qG,un,wa,wb,wc,wd,na,nb,nc,nd]
 ·rw[T 6 O0,s6];simp[ir,gz,qG,un,wa,wb,wc,wd,na,nb,nc,nd]
 ·rw[T 7 O0,s7];simp[ir,gz,qG,un,wa,wb,wc,wd,na,nb,nc,nd]
def OB{z:Dy}(h:dt z=true){k:Nat}(hk:k<8):aj z (ac k)=some (f' k z):=by
 have hz:=pH.1 h;have h1:fu (c_ ⟨1,0,0,0⟩ k)=true:=(yv O2 _).1;have hp:dt (ac k)=true:=pH.2 ⟨h1,by simp[ac],.inl rfl⟩;have ⟨h2,h3⟩:=yv hz.1 (k:Int);unfold aj;rw[h,hp,show (ac k).num=c_ ⟨1,0,0,0⟩ k from O,be,uS hz.1 h1,L5 hz.1 hk,h2];simp only[Bool.and_self,if_true];unfold oL;rw[h2,show z.exp+(ac k).exp=z.exp from by simp[ac],iw.2 hz.2.1];simp only[Bool.and_self,if_true];rw[td fun h0=>by rw[h3];rcases hz.2.2 with h4|h4;exact absurd h4 O0;exact h4];rfl
def zG{q:Mx}(h:di q=true){k:Nat}(hk:k<8):bp q (ac k)=some ⟨q.rows,q.cols,q.cells.map (f' k)⟩:=by
 have h1:fu (c_ ⟨1,0,0,0⟩ k)=true:=(yv O2 _).1;have hp:dt (ac k)=true:=pH.2 ⟨h1,by simp[ac],.inl rfl⟩;have hd:=qM h;have hl:=rs h;have ha:=oc h;have hf:(fun i j=>aj (q.at i j) (ac k))=fun i j=>some (f' k (q.at i j)):=by
  funext i j;exact OB (Mx.at_ok ha i j) hk
 unfold bp;rw[h,hp,Q4 (show (true&&true)=true from O),hf,yr hd.1 hd.2 (fun i j=>f' k (q.at i j))];congr 2;unfold fy;apply List.ext_getElem
 ·simp[hl.2.2]
 ·intro m h1 h2;simp only[Qo,List.length_range] at h1;simp only[List.getElem_map,List.getElem_range];unfold p_ Mx.at
  dsimp only;have:m/q.cols.toNat*q.cols.toNat+m % q.cols.toNat=m:=by rw[Wi];exact Nat.div_add_mod m _
  rw[this,Qa,Qc (by rw[hl.2.2];exact h1)];rfl
def RA{p q:Mx}(h:di q=true):qk p q=gi p q:=by
 unfold qk gi;rw[Bool.eq_iff_iff,List.any_eq_true,List.any_eq_true];constructor
 ·intro ⟨k,hk,h1⟩;refine ⟨k,hk,?_⟩;rw[n_,zG h (W2.1 hk)] at h1;exact h1
 ·intro ⟨k,hk,h1⟩;refine ⟨k,hk,?_⟩;rw[n_,zG h (W2.1 hk)];exact h1
def FM{n:Int}(hn:1<=n/\n<=5){g:Gt}:(bc n g).cells.length<=2305843009213693951:=by
 have h:=wu hn.2;have h2:2^n.toNat*2^n.toNat<=32*32:=Nat.mul_le_mul h h;simp only[bc,sU];omega
def EL{m:Mx}(h:di m=true):m.cells.length<=2305843009213693951:=by
 have h1:=rs h;have h2:m.rows.toNat*m.cols.toNat<=32*32:=Nat.mul_le_mul O0 O0;omega
def wW(a:Cx):((eu a).getD mZ).cells.length<=2305843009213693951:=by
 have h:=v8 a;cases ha:eu a with
 | none=>exact Qf _
 | some m=>rw[h.1] at ha;exact EL (h.2 m ha).1
def Gc{α:Type}{l:List α}{i:Nat}{u:α}(h:l[i]? = some u):l.drop i=u::l.drop (i+1):=by
 have ⟨h1,h2⟩:=Qg.1 h;rw[Qy h1,h2]
def ni(d i:Nat) : List Dy:=(List.range (d*d)).map fun m=>if m/d=m % d/\m/d<i then ac 0 else dZ
def Iw(d i:Nat):(ni d i).length=d*d:=by simp[ni]
def Nm(d:Nat):List.replicate (d*d) dZ=ni d 0:=by
 unfold ni;apply List.ext_getElem
 ·simp
 ·intro k h1 h2;simp
def R5{d i:Nat}(h:i<d):(ni d i).set (i*d+i) (ac 0)=ni d (i+1):=by
 have e1:(i*d+i)/d=i:=by rw[Wi,Nat.mul_add_div O0,Nat.div_eq_of_lt h];omega
 have e2:(i*d+i) % d=i:=by rw[Wi,Nat.mul_add_mod,Nat.mod_eq_of_lt h]
 unfold ni;apply List.ext_getElem
 ·simp
 ·intro k h1 h2;simp only[List.length_set,Qo,List.length_range] at h1;rw[List.getElem_set];split
  ·rename_i hk;subst hk;simp[e1,e2]
  ·rename_i hk;simp only[List.getElem_map,List.getElem_range];have:(k/d=k % d/\k/d<i)↔(k/d=k % d/\k/d<i+1):=by
    constructor
    ·intro ⟨h3,h4⟩;exact ⟨h3,by omega⟩
    ·intro ⟨h3,h4⟩;refine ⟨h3,?_⟩;rcases W4 (k/d) i with h5|h5
     ·exact h5
     ·have h6:k/d=i:=by omega
      have h7:=Nat.div_add_mod k d;rw[<- h3,h6] at h7;exact absurd (show i*d+i=k by rw[Wi i d];exact h7) hk
   by_cases hc:k/d=k % d/\k/d<i
   ·rw[Q4 hc,Q4 (this.1 hc)]
   ·rw[Q3 hc,Q3 (fun h=>hc (this.2 h))]
def Vb{d:Nat}:(ao d).cells=ni d d:=by
 unfold ni ao fy;refine List.map_congr_left fun m hm=>?_;have hm':=W2.1 hm;have h1:m/d<d:=Nat.div_lt_of_lt_mul hm';unfold p_;dsimp only;by_cases hc:m/d=m % d
 ·rw[Q4 hc,Q4 ⟨hc,h1⟩]
 ·rw[Q3 hc,Q3 (fun h=>hc h.1)]
def G':∀ (m:Nat) (x:Rg),0<=(ip x m).exp/\(ip x m).exp<=m
 | 0,x=>by rw[td O0];simp
 | m+1,x=>by
  by_cases he:ei x=true
  ·rw[wR O0 he,show ((m+1:Nat) : Int)-1=(m:Int) from by omega];have:=G' m (iy x);omega
  ·rw[td fun _=>by simpa using he];dsimp only;omega
def Ht{x:Rg}{e:Int}(h0:0<=e):0<=(ip x e).exp/\(ip x e).exp<=e:=by
 obtain ⟨m,rfl⟩ : ∃ m:Nat,e=m:=⟨e.toNat,by omega⟩;exact G' m x
def BO{f:Bool}{x y:Dy}(hx:0<=x.exp/\x.exp<=60)(hy:0<=y.exp/\y.exp<=60):0<=(fq f x y).2.exp/\(fq f x y).2.exp<=60:=by
 unfold fq;split
 ·exact ⟨Int.le_refl _,by decide⟩
 ·have:=Ht (x:=co (ir x.num y.num)) (e:=x.exp+y.exp) O0;dsimp only;omega
def GE{f:Bool}{x y:Dy}(hx:0<=x.exp/\x.exp<=60)(hy:0<=y.exp/\y.exp<=60):0<=(jt f x y).2.exp/\(jt f x y).2.exp<=60:=by
 unfold jt;dsimp only;rw[yu];have:=fun z=>Ht (x:=z) (e:=x.exp+((y.exp-x.exp).toNat:Int)) O0;have h:=this (co (ig (bi (y.exp-x.exp).toNat f x).2.num (bi (x.exp+((y.exp-x.exp).toNat:Int)-y.exp).toNat (bi (y.exp-x.exp).toNat f x).1 y).2.num));omega
def zr{a b:Mx}(ha:la a)(hb:la b)(f:Bool)(i j:Nat):∀ n,0<=(j_ f a b i j n).2.exp/\(j_ f a b i j n).2.exp<=60
 | 0=>⟨Int.le_refl _,show (0:Int)<=60 by decide⟩
 | n+1=>by
  rw[j_];split
  ·exact zr ha hb f i j n
  ·exact GE (zr ha hb f i j n) (BO (qi (Mx.at_ok ha i n)) (qi (Mx.at_ok hb n j)))
def KC{a b:Mx}{f f3:Bool}{i j k n:Nat}{s:Dy}(h:j_ f a b i j k=(f3,s))(hk:k<=n)(he:f3=true∨k=n):j_ f a b i j n=(f3,s):=by
 rcases he with he|he
 ·subst he;rw[Em (n:=k) (by rw[h]) n hk,h]
 ·subst he;exact h
def MI{a b:Mx}{f f3:Bool}{i j k:Nat}{s:Dy}(h:j_ f a b i j k=(f3,s))(hf:f3=false) :
  j_ f a b i j (k+1)=((jt (fq f3 (a.at i k) (b.at k j)).1 s (fq f3 (a.at i k) (b.at k j)).2).1,(jt (fq f3 (a.at i k) (b.at k j)).1 s (fq f3 (a.at i k) (b.at k j)).2).2):=by grind [j_,jt,fq]
def rW{a b:Nat}(ha:a<=32)(hb:b<=32):a*b<=1024:=Q0 (Nat.mul_le_mul ha hb) O2
def J6{l:List Int}{k:Nat}(h:decide ((k:Int)<(l.length:Int))=true):l[k]? = some (l.getD k 0):=yU (by simpa using h)
def ku:List Int->Int->List Int
 | [],n=>[n]
 | x::l,n=>if x<n then x::ku l n else if x=n then x::l else n::x::l
def Ia:∀ (l:List Int) (n:Int),(ku l n).length<=l.length+1
 | [],n=>by simp[ku]
 | x::l,n=>by
  unfold ku;split
  ·have:=Ia l n;simp only[Qs];omega
  ·split<;>simp
def Fe:∀ (l:List Int) (n:Int) (k:Nat),(l.take k).all (fun x=>decide (x<n))=true->k<=l.length->(k<l.length->¬ l.getD k 0<n)->
  (k<l.length/\l.getD k 0=n->ku l n=l)/\(¬ (k<l.length/\l.getD k 0=n)->ku l n=l.take k++[n]++l.drop k)
 | [],n,k,_,hk,_=>by
  have:k=0:=by simpa using hk
  subst this;exact ⟨fun h=>by simp at h,fun _=>rfl⟩
 | x::l,n,0,_,_,h=>by
  have h:=h O6;simp only[List.getD_cons_zero] at h;refine ⟨fun h1=>?_,fun h1=>?_⟩
  ·have h2:=h1.2;simp only[List.getD_cons_zero] at h2;rw[ku,Q3 h,Q4 h2]
  ·have h2:¬ x=n:=fun e=>h1 ⟨by simp,by simpa using e⟩;rw[ku,Q3 h,Q3 h2];rfl
 | x::l,n,k+1,ha,hk,h=>by
  simp only[List.take_succ_cons,List.all_cons,Qd,Qr] at ha;have ih:=Fe l n k ha.2 (by simpa using hk) (fun h1=>by have:=h (by simpa using h1);simpa using this);simp only[Qs,Nat.add_lt_add_iff_right,List.getD_cons_succ,List.take_succ_cons,List.drop_succ_cons,Wa] at *;rw[ku,Q4 ha.1];exact ⟨fun h1=>by rw[ih.1 h1],fun h1=>by rw[ih.2 h1]⟩
def jk(l:List Int)(q:Int) : Nat->Int
 | 0=>0
 | k+1=>if l.getD k 0=q then (k:Int) else jk l q k
def GJ{l:List Int}{q u:Int}{k:Nat}(h:l[k]? = some u):jk l q (k+1)=if u=q then (k:Int) else jk l q k:=by grind [jk]
section
variable {us : List Int} {j : Nat} {v q x k : Int}
end
def en(used:List Int)(g:Gt) : Gt:=⟨g.k,if g.k=12 then 0 else jk used g.a used.length,if bq g.k 9 11=true then jk used g.b used.length else 0⟩
def ms(n:Int)(r:Rp) : Bool:=bq n 1 5&&bq r.pos 0 400&&(!(r.old.any fun x=>!gp n x)&&decide ((r.old.length:Int)<=40))&&(!(r.new.any fun x=>!gp n x)&&decide ((r.new.length:Int)<=40))
def AB(n:Int)(r:Rp):ms n r=qv n r:=by grind [ms,qv]
abbrev sn(l:List Int) : Prop:=l.Pairwise (· < ·)
def V8{l:List Int}{i j:Nat}{x:Int}(hi:i<l.length):(l.set i x).getD j 0=if i=j then x else l.getD j 0:=by grind
def JR{l:List Int}(hq:∀ x ∈ l,0<=x/\x<=4){q:Int}(h0:0<=q)(h4:q<=4):∀ k,k<=l.length->(jc (l.take k)).getD q.toNat 0=jk l q k
 | 0,_=>by
  have:q=0∨q=1∨q=2∨q=3∨q=4:=by omega
  rcases this with rfl|rfl|rfl|rfl|rfl<;>rfl
 | k+1,hk=>by
  have hu:=Qc (show k<l.length by omega);have hb:=hq _ (List.getElem_mem (show k<l.length by omega));rw[G6 hu,GJ hu,V8 (by rw[BD];omega),JR hq h0 h4 k O0];by_cases h:l[k]=q
  ·rw[Q4 h,Q4 (by rw[h])]
  ·rw[Q3 h,Q3 O0]
def Mz{l:List Int}(h:sn l)(hq:∀ x ∈ l,0<=x/\x<=4):l.length<=5:=by
 have key:∀ (l:List Int) (a:Int),sn l->(∀ x ∈ l,a<=x/\x<=4)->a<=5->(l.length:Int)<=5-a:=by
  intro l
  induction l with
  | nil=>intro a _ _ h;simp;omega
  | cons x l ih=>
   intro a hl hb ha;have hl':=W8.1 hl;have hx:=hb x O6;have:=ih (x+1) hl'.2 (fun y hy=>⟨by have:=hl'.1 y hy;omega,(hb y (by simp[hy])).2⟩) O0;simp only[Qs];omega
 have:=key l 0 h hq O0;omega
def Hs{l:List Int}{q:Int}:∀ k,k<=l.length->q ∈ l.take k->∃ j:Nat,j<k/\jk l q k=(j:Int)/\l.getD j 0=q
 | 0,_,h=>by simp at h
 | k+1,hk,h=>by
  have hu:=Qc (show k<l.length by omega);rw[GJ hu];by_cases he:l[k]=q
  ·rw[Q4 he];exact ⟨k,by omega,rfl,by rw[Qa,hu];exact he⟩
  ·rw[Q3 he];rw[Qt,hu,Option.toList_some] at h;rcases Qu.1 h with h|h
   ·have ⟨j,h1,h2,h3⟩:=Hs k O0 h;exact ⟨j,by omega,h2,h3⟩
   ·exact absurd (Qm.1 h).symm he
def CV{l:List Int}{q:Int}(h:q ∈ l):∃ j:Nat,j<l.length/\jk l q l.length=(j:Int)/\l.getD j 0=q:=Hs l.length (Qb _) (by rw[List.take_length];exact h)
structure oO (us:List Int) (n:Int) (g:Gt) : Prop where
 ok:gp n g=true
 use:∀ x ∈ bv g,x ∈ us
def Ux{us:List Int}{n:Int}{g:Gt}(hq:∀ x ∈ us,0<=x/\x<=4)(h:oO us n g):mb (jc us) g=en us g:=by
 have ⟨hn,hk,ha,hb⟩:=qe h.ok;have hf:∀ q,0<=q->q<=4->(jc us).getD q.toNat 0=jk us q us.length:=fun q h0 h4=>by
  have:=JR hq h0 h4 us.length (Qb _)
  rwa [List.take_length] at this
 unfold mb en;have hok:=h.ok;simp only[gp,Qd,iw] at hok;by_cases h12:g.k=12
 ·have h9:¬ bq g.k 9 11=true:=fun e=>by have:=iw.1 e;omega
  rw[Q4 h12] at hok;simp only[Qd,beq_iff_eq] at hok;rw[Q4 h12,Q4 h12,Q3 h9,Q3 h9,hok.2.1,hok.2.2]
 ·have ha:=ha h12;rw[Q3 h12] at hok ⊢;rw[Q3 h12,hf g.a O0 O0];by_cases h9:bq g.k 9 11=true
  ·have hb:=hb (iw.1 h9);rw[Q4 h9,Q4 h9,hf g.b O0 O0]
  ·rw[Q3 h9,Q3 h9];rw[Q3 (fun e=>h9 (iw.2 e))] at hok;simp only[Qd,beq_iff_eq] at hok;rw[hok.2.2]
def RS{us:List Int}{n:Int}{g:Gt}(hi:sn us)(hq:∀ x ∈ us,0<=x/\x<=4)(h:oO us n g):gp (max 1 (us.length:Int)) (en us g)=true:=by
 have ⟨hn,hk,ha,hb⟩:=qe h.ok;have hl:=Mz hi hq;have e1:bq (max 1 (us.length:Int)) 1 5=true:=iw.2 O0;have e2:bq g.k 1 12=true:=iw.2 hk;unfold gp en;dsimp only;rw[e1,e2];simp only[Qw];by_cases h12:g.k=12
 ·have h9:¬ bq g.k 9 11=true:=fun e=>by have:=iw.1 e;omega
  rw[Q4 h12,Q4 h12,Q3 h9];rfl
 ·have hqa:g.a ∈ us:=h.use _ (by unfold bv;rw[Q3 h12];split<;>simp);have ⟨i,hi1,hi2,hi3⟩:=CV hqa;rw[Q3 h12,Q3 h12,hi2];have e3:bq (i:Int) 0 (max 1 (us.length:Int)-1)=true:=iw.2 O0;rw[e3];by_cases h9:bq g.k 9 11=true
  ·have hqb:g.b ∈ us:=h.use _ (by unfold bv;rw[Q3 h12,Q4 h9];simp);have ⟨j,hj1,hj2,hj3⟩:=CV hqb;have e4:bq (j:Int) 0 (max 1 (us.length:Int)-1)=true:=iw.2 O0;rw[Q4 h9,Q4 h9,hj2,e4];have hne:=(hb (iw.1 h9)).2.2;have:(i:Int)≠j:=fun e=>by
    obtain rfl:i=j:=by omega
    exact hne (hi3.symm.trans hj3)
   simpa using this
  ·rw[Q3 h9,Q3 h9];rfl
def Ex{n:Int}{r:Rp}(h:qv n r=true):(1<=n/\n<=5)/\(r.old.length<=40/\r.new.length<=40)/\(∀ g ∈ r.old,gp n g=true)/\(∀ g ∈ r.new,gp n g=true):=by
 simp only[qv,Qd,iw,Qr,Bool.not_eq_true',W7] at h;refine ⟨h.1.1.1.1.1,by omega,fun g hg=>by simpa using h.1.2 g hg,fun g hg=>by simpa using h.2 g hg⟩
def rN(l:List Gt)(left:Int) : Int:=if left-(l.length:Int)<0 then -1 else left-(l.length:Int)
def U2{l:List Gt}{left:Int}(h:¬ rN l left<0):rN l left=left-(l.length:Int)/\0<=left-(l.length:Int):=by grind [rN]
def Mr{α:Type}{m l:List α}{k:Nat}{u:α}(h:m.take k=l.take k)(hk:k<m.length)(hu:l[k]? = some u):(m.set k u).take (k+1)=l.take (k+1):=by
 rw[Qt,Qt,hu,<- h];congr 1
 ·rw[List.take_set_of_le (Qb _)]
 ·simp[hk]
structure Sr where (pos:Int) (A:Option Addr) (c:Nat) (old:List Gt) (B:Option Addr) (d:Nat) (new:List Gt)
def dv(s:Sr) : List Value:=[.int .i64 s.pos,.slice s.A s.old.length s.c,.slice s.B s.new.length s.d]
def sk:∀ x,(dv x).length=3:=fun _=>rfl
def Ao:∀ x,(dv x).all one=true:=fun _=>rfl
abbrev Sr.rp(s:Sr) : Rp:=⟨s.pos,s.old,s.new⟩
def S9:Sr:=⟨0,none,0,[],none,0,[]⟩
def ci(w:World)(B:Nat)(E:TypeId)(l:List Sr) : Prop:=∀ s ∈ l,Rd w B E ab s.A s.old/\Rd w B E ab s.B s.new
section
variable {w w' : World} {B : Nat} {E : TypeId} {l : List Sr}
theorem ci.bw(h:ci w B E l)(hb:Bl w w'):ci w' B E l:=fun s hs=>⟨(h s hs).1.bw hb,(h s hs).2.bw hb⟩
theorem ci.top(h:ci w B E l):ci w w.heap.size E l:=fun s hs=>⟨(h s hs).1.top,(h s hs).2.top⟩
theorem ci.oy{b:Nat}(h:ci w B E l)(ho:iq b w w')(hB:B<=b):ci w' B E l:=fun s hs=>⟨(h s hs).1.oy ho hB,(h s hs).2.oy ho hB⟩
theorem ci.oT{b:Nat}{T:TypeId}{lc:List Value}(h:ci w B E l)(ho:iq b w w')(hb:al w b T lc)(hT:Nat.beq E T=false):ci w' B E l:=fun s hs=>⟨(h s hs).1.oT ho hb hT,(h s hs).2.oT ho hb hT⟩
theorem ci.appB{B0:Nat}{E':TypeId}{sz:Nat}{α:Type}{enc:α->List Value}{A:Option Addr}{c:Nat}{m:List α}(h:ci w B E l)(ho:ah w B0 E' sz enc A c m)(hg:w.grownBy w' (Value.slice A m.length c).ownBlock)(hB:B<=B0):ci w' B E l:=fun s hs=>⟨(h s hs).1.appB ho hg hB,(h s hs).2.appB ho hg hB⟩
theorem ci.appT{B0:Nat}{E':TypeId}{sz:Nat}{α:Type}{enc:α->List Value}{A:Option Addr}{c:Nat}{m:List α}(h:ci w B E l)(ho:ah w B0 E' sz enc A c m)(hg:w.grownBy w' (Value.slice A m.length c).ownBlock)(hT:Nat.beq E' E=false):ci w' B E l:=fun s hs=>⟨(h s hs).1.appT ho hg hT,(h s hs).2.appT ho hg hT⟩
end
def ci.zero(w:World)(B:Nat)(E:TypeId)(n:Nat):ci w B E (List.replicate n S9):=fun s hs=>by
 obtain rfl:=List.eq_of_mem_replicate hs;exact ⟨Rd.nil _ _ _ _ _,Rd.nil _ _ _ _ _⟩
def ci.set{w:World}{B:Nat}{E:TypeId}{l:List Sr}(h:ci w B E l){x:Sr}(h1:Rd w B E ab x.A x.old)(h2:Rd w B E ab x.B x.new)(k:Nat):ci w B E (l.set k x):=by grind [ci,Rd,ab]
def gh(c:Cx) : Option Cx:=if gf c=true then some c else none
def rD(c:Cx)(r:Rp) : Cx:=⟨c.n,c.gs.take r.pos.toNat++(r.new++(c.gs.drop (r.pos.toNat+r.old.length)++[]))⟩
def tt(c:Cx)(r:Rp) : Bool:=gf c&&qv c.n r&&decide (r.pos+(r.old.length:Int)<=(c.gs.length:Int))&&decide ((c.gs.take (r.pos.toNat+r.old.length)).drop r.pos.toNat=r.old)
def jq(c:Cx)(r:Rp) : Option Cx:=if tt c r=true then gh (rD c r) else none
def rJ(c:Cx)(r:Rp) : Bool:=ms c.n r&&decide (r.pos+(r.old.length:Int)<=(c.gs.length:Int))&&decide ((c.gs.length:Int)-(r.old.length:Int)+(r.new.length:Int)<=400)
def dc(c:Cx)(r:Rp) : Option Cx:=if rJ c r=true/\(c.gs.take (r.pos.toNat+r.old.length)).drop r.pos.toNat=r.old then some ⟨c.n,c.gs.take r.pos.toNat++r.new++c.gs.drop (r.pos.toNat+r.old.length)⟩ else none
def p'(c d:Cx) : Bool:=c.n==d.n&&decide (c.gs=d.gs)
def Bh{c:Cx}{r:Rp}(hc:gf c=true):jq c r=dc c r/\∀ c',dc c r=some c'->gf c'=true/\c'.n=c.n/\qv c.n r=true:=by
 have ⟨hn,hl,hg⟩:=n' hc;unfold jq dc tt rJ;rw[hc,AB,Qw];by_cases hv:qv c.n r=true
 ·have ⟨_,hl2,ho,hw⟩:=Ex hv;have hp:0<=r.pos:=by simp only[qv,Qd,iw] at hv;omega
  rw[hv,Qw];by_cases hle:r.pos+(r.old.length:Int)<=(c.gs.length:Int)
  ·rw[decide_eq_true hle,Qw,Qw];by_cases he:(c.gs.take (r.pos.toNat+r.old.length)).drop r.pos.toNat=r.old
   ·rw[decide_eq_true he,Q4 rfl];have hlen:(c.gs.take r.pos.toNat++r.new++c.gs.drop (r.pos.toNat+r.old.length)).length=c.gs.length-r.old.length+r.new.length:=by
     simp only[Qh,Qn,List.length_drop];omega
    have hall:∀ g ∈ c.gs.take r.pos.toNat++r.new++c.gs.drop (r.pos.toNat+r.old.length),gp c.n g=true:=fun g h=>by
     rcases Qu.1 h with h|h
     ·rcases Qu.1 h with h|h
      ·exact hg g (Wd h)
      ·exact hw g h
     ·exact hg g (List.mem_of_mem_drop h)
    have hmid:rD c r=⟨c.n,c.gs.take r.pos.toNat++r.new++c.gs.drop (r.pos.toNat+r.old.length)⟩:=by unfold rD;simp
    by_cases h4:(c.gs.length:Int)-(r.old.length:Int)+(r.new.length:Int)<=400
    ·have hok:gf (rD c r)=true:=by
      rw[hmid];have h5:((c.gs.take r.pos.toNat++r.new++c.gs.drop (r.pos.toNat+r.old.length)).any fun x=>!gp c.n x)=false:=by
       rw[W7];intro x hx;simp[hall x hx]
      unfold gf;simp only;rw[h5,iw.2 hn,hlen,decide_eq_true O0];rfl
     rw[gh,Q4 hok,Q4 ⟨by simpa using h4,he⟩,hmid];refine ⟨O,fun c' h=>?_⟩;injection h with h;rw[<- h];rw[hmid] at hok;exact ⟨hok,O,O⟩
    ·have hok:¬ gf (rD c r)=true:=fun h=>by
      have ⟨_,h6,_⟩:=n' h;rw[hmid] at h6;simp only at h6;rw[hlen] at h6;omega
     rw[gh,Q3 hok,Q3 (fun h=>h4 (by simpa using h.1))];exact ⟨O,fun c' h=>by cases h⟩
   ·rw[decide_eq_false he,Q3 O2,Q3 (fun h=>he h.2)];exact ⟨O,fun c' h=>by cases h⟩
  ·rw[decide_eq_false hle];exact ⟨O,fun c' h=>by simp at h⟩
 ·have hv':qv c.n r=false:=by simpa using hv
  rw[hv'];exact ⟨O,fun c' h=>by simp at h⟩
structure Sg where (A:Option Addr) (c:Nat) (l:List Gt)
def rt(s:Sg) : List Value:=[.slice s.A s.l.length s.c]
def FA:∀ x,(rt x).length=1:=fun _=>rfl
def pf:Go.Shelf.Ren:=⟨fun|4=>92|n=>n,fun|22=>26|25=>52|n=>n,fun|n=>n⟩
def Gq:Lays8.n4 prog pf:={
 mixed:=by kernel_rfl
 f4:=⟨Tryz.f92.name,by decide,func92.trans (congrArg some O4)⟩
 t0:=underlying0
 a0:=isAgg0
 z0:=sizeOf0
 v0:=zeroValue0
 t3:=underlying3
 a3:=isAgg3
 z3:=sizeOf3
 v3:=zeroValue3
 t4:=underlying4
 a4:=isAgg4
 z4:=sizeOf4
 v4:=zeroValue4
 t9:=underlying9
 a9:=isAgg9
 z9:=sizeOf9
 v9:=zeroValue9
 t20:=underlying20
 a20:=isAgg20
 z20:=sizeOf20
 v20:=zeroValue20
 t22:=underlying26
 a22:=isAgg26
 z22:=sizeOf26
 v22:=zeroValue26 }
def OY(w0:World)(n:Nat)(hn:n<=1000000000):RE 92 [.slice none 0 0,.int .i64 (n:Int)] w0 (fun v w=>∃ A c,v=.slice A 0 c/\ah w w0.heap.size 52 3 ab A c ([] : List Gt)/\Bl w0 w):=by
 by_cases h0:n=0
 ·subst h0;refine Calls.mono (Any8.slices_Grow_room Gq none 0 0 0 w0 O0 O0 O0 O0) fun e w ⟨e1,e2⟩=>⟨_,e1,none,0,O,?_⟩;subst e2;exact ⟨ah.nil _ _ _ _ _,Below.refl _ _⟩
 ·have ⟨i,z,hi1,hi2,hi3,hi4,hi5,hi6⟩:=Xx;refine Calls.mono (Any8.slices_Grow_grow Gq i z hi1 hi2 O0 none 0 0 n [] w0 O0 O0 (by rw[hi4];omega) O0 O6 (fun _=>rfl) (fun a h=>by cases h)) fun e w ⟨e1,e2⟩=>⟨_,e1,_,_,O,?_⟩;subst e2;have hge:=grownCap_ge w0 (0+n) 0 (pf.t 25);refine ⟨⟨O,.inr ⟨w0.heap.size,_,_,O,Qb _,heap_alloc_new w0.drew _,Qf _,grownCap_le_maxLen w0 _ _ _ (by simp only[maxLen];omega),?_,by simp⟩⟩,((Below.refl _ _).drew).alloc (Qb _) _⟩;simp only[Array.size_append,List.size_toArray,size_zeroCells,hi5,List.length_nil,Nat.zero_add,Nat.zero_mul] at hge ⊢;generalize grownCap w0 n 0 (pf.t 25)=G at *;have h9:n-0+(G-n)=G:=by omega
  rw[<- h9,Wb,h9]
def ub{n:Int}{r:Rp}(h:(!qv n r)=false):r.pos=(r.pos.toNat:Int)/\wr (r.pos+(r.old.length:Int))=((r.pos.toNat+r.old.length:Nat) : Int)/\wr (r.pos+(r.old.length:Int))=r.pos+(r.old.length:Int)/\r.pos.toNat<=400/\r.old.length<=40/\r.new.length<=40:=by
 have h:qv n r=true:=by revert h;cases qv n r<;>simp
 have ⟨_,hl,_,_⟩:=Ex h;have hp:0<=r.pos/\r.pos<=400:=by simp only[qv,Qd,iw] at h;omega
 have e:wr (r.pos+(r.old.length:Int))=r.pos+(r.old.length:Int):=im O0 O0;rw[e];refine ⟨by omega,by omega,rfl,by omega,hl.1,hl.2⟩
def HU{m:Nat}{x:Int}(h:decide ((m:Int)<x)=false):x<=(m:Int):=by simpa using h
def SE{a b:Bool}{c:Bool}{d:Bool}(h:(!a||!b||c||!d)=false):a=true/\b=true/\c=false/\d=true:=by grind
abbrev cZ:Cx:=⟨0,[]⟩
def LN{c:Cx}{r:Rp}(h:((!ms c.n r)||decide ((c.gs.length:Int)<wr (r.pos+(r.old.length:Int)))||decide (400<(c.gs.length:Int)-(r.old.length:Int)+(r.new.length:Int)))=true):dc c r=none:=by
 unfold dc;rw[Q3];intro ⟨h1,_⟩;simp only[rJ,Qd,Qr] at h1;have ⟨⟨h2,h3⟩,h4⟩:=h1;have h5:=ub (n:=c.n) (r:=r) (by rw[<- AB,h2];rfl);rw[h2,h5.2.2.1] at h;simp at h;omega
def QL{c:Cx}{r:Rp}(h:((!ms c.n r)||decide ((c.gs.length:Int)<wr (r.pos+(r.old.length:Int)))||decide (400<(c.gs.length:Int)-(r.old.length:Int)+(r.new.length:Int)))=false) :
  rJ c r=true/\qv c.n r=true/\r.pos+(r.old.length:Int)<=(c.gs.length:Int):=by
 simp only[Bool.or_eq_false_iff,Bool.not_eq_false',decide_eq_false_iff_not] at h;have ⟨⟨h1,h2⟩,h3⟩:=h;have h5:=ub (n:=c.n) (r:=r) (by rw[<- AB,h1];rfl);rw[h5.2.2.1] at h2;refine ⟨?_,by rw[<- AB];exact h1,by omega⟩;simp only[rJ,h1,Qw,Qd,Qr];omega
def MJ{α:Type}{l m:List α}{p k:Nat}{u v:α}(h:(l.drop p).take k=m.take k)(hu:m[k]? = some u)(hv:l[p+k]? = some v)(he:v=u):(l.drop p).take (k+1)=m.take (k+1):=by
 subst he;exact uV h (by rw[List.getElem?_drop];exact hv) hu O
def VW{α:Type}{l m:List α}{p:Nat}(h:(l.drop p).take m.length=m.take m.length):(l.take (p+m.length)).drop p=m:=by grind
def NI{α:Type}{l m:List α}{p k:Nat}{u v:α}(hu:m[k]? = some u)(hv:l[p+k]? = some v)(hne:¬ v=u):¬ (l.take (p+m.length)).drop p=m:=by grind
def uN(c:Cx)(r:Rp) : Cx:=⟨c.n,c.gs.take r.pos.toNat++r.new++c.gs.drop (r.pos.toNat+r.old.length)⟩
def Kn{c:Cx}{r:Rp}(h1:rJ c r=true)(h2:(c.gs.take (r.pos.toNat+r.old.length)).drop r.pos.toNat=r.old):dc c r=some (uN c r):=by
 unfold dc uN;rw[Q4 ⟨h1,h2⟩]
def TK{c:Cx}{r:Rp}(h2:¬ (c.gs.take (r.pos.toNat+r.old.length)).drop r.pos.toNat=r.old):dc c r=none:=by
 unfold dc;rw[Q3 fun h=>h2 h.2]
def AJ{c:Cx}(h:gf c=true):c.gs.length<=400:=(n' h).2.1
def NK{l:List Gt}{t:Int}(h:rN l t<0):rN l t = -1:=by grind [rN]
def I7{s t:Sr}:s.rp=t.rp↔s.pos=t.pos/\s.old=t.old/\s.new=t.new:=by simp[Sr.rp]
instance:DecidableEq Rp:=fun a b=>decidable_of_iff (a.pos=b.pos/\a.old=b.old/\a.new=b.new) (by cases a;cases b;simp)
def UU{p q:List Sr}{k:Nat}{u v:Sr}(hu:p[k]? = some u)(hv:q[k]? = some v)(h:¬ u.rp=v.rp):¬ p.map Sr.rp=q.map Sr.rp:=fun e=>by
 have h2:=congrArg (fun l=>l[k]?) e;simp only[List.getElem?_map,hu,hv,Option.map_some] at h2;injection h2 with h2;exact h h2
def Sh{p q:List Sr}{k:Nat}{u v:Sr}(h:(p.take k).map Sr.rp=(q.take k).map Sr.rp)(hu:p[k]? = some u)(hv:q[k]? = some v)(e:u.rp=v.rp):(p.take (k+1)).map Sr.rp=(q.take (k+1)).map Sr.rp:=by
 rw[CH hu,CH hv,h,e]
def Hy(w0:World)(g:Gt):RE 67 [.agg #[vi g.k,vi g.a,vi g.b]] w0 (fun v w=>∃ A c,v=.slice A (bv g).length c/\ah w w0.heap.size 3 1 bk A c (bv g)/\Bl w0 w):=by
 refine enter func67 O 19 O O ?_;intro a d;have f:=bz w0;refine ZS d fun aK=>Zf (bt (zs:=[vi g.k,vi g.a,vi g.b]) O O) ?_;rintro _ w1 ⟨b2,rfl,aL,hE,i⟩;have aS:=Q0 f.size aL;have f:=aa f hE;refine Za O<|ZX aK fun a d _ aM=>Q8<|ZS d fun aN=>Ze (Vd O mo 0)<|Ze (X0 O X8 (i.at 0))<|Ze (go O O)<|Za O<|Zt aN fun a d=>Xz d O ?_ ?_<;>intro aA
 ·have e:bv g=[]:=by rw[bv,Q4 (by simpa using aA)]
  refine ZS d fun aO=>Za O<|Zt aO fun a d=>Q6<|Xn<|X3<|X4 d (Xu d O O) ?_;rw[e];exact ⟨none,0,O,(ah.nil _ _ _ _ _),f⟩
 have aD:¬ g.k=12:=by simpa using aA
 refine ZS d fun aP=>Ze (Vd O mo 0)<|Ze (X0 O X8 (i.at 0))<|Zf (Vc (vH _ g.k) wC) ?_;rintro _ _ ⟨rfl,rfl⟩;refine Za O<|Zt aP fun a d=>Xz d O ?_ ?_<;>intro j
 ·have e:bv g=[g.a,g.b]:=by rw[bv,Q3 aD,Q4 j]
  refine ZS d fun aE=>Ze (Vd O lm 1)<|Ze (X0 O X8 (i.at 1))<|Ze (Vd O no 2)<|Ze (X0 O X8 (i.at 2))<|Zf (X6 (k:=2) (vs:=[vi g.a,vi g.b]) (zs:=[vi g.a,vi g.b]) O gq pD O O) ?_;rintro _ w2 ⟨aQ,rfl,aF,hE,aG⟩;have aB:=Q0 f.size aF;have f:=aa f hE;refine Za O<|Zt aE fun a d=>Q6<|Xn<|X3<|X4 d (Xu d O O) ?_;rw[e];exact ⟨(some ⟨aQ,0,none⟩),2,O,(ah.of_blkL kp aG aB O O O2),f⟩
 have e:bv g=[g.a]:=by rw[bv,Q3 aD,Q3 (by rw[j];simp)]
 refine Q7<|Xk<|aM _ _<|ZS d fun aH=>Ze (Vd O lm 1)<|Ze (X0 O X8 (i.at 1))<|Zf (X6 (k:=1) (vs:=[vi g.a]) (zs:=[vi g.a]) O gq pD O O) ?_;rintro _ w3 ⟨aR,rfl,aI,hE,aJ⟩;have aC:=Q0 f.size aI;have f:=aa f hE;refine Za O<|Zt aH fun a d=>Q6 (X4 d (Xu d O O) ?_);rw[e];exact ⟨(some ⟨aR,0,none⟩),1,O,(ah.of_blkL kp aJ aC O O O2),f⟩
def Lc:jv prog 3 (.int .i64 0):=sf O4
def V2(j:World)(Al:Option Addr)(cl:Nat)(l:List Int)(aD:Rw j 3 bk Al l)(hq:∀ x ∈ l,0<=x/\x<=4)(aT:l.length<=1000000):RE 44 [.slice Al l.length cl] j (fun v w=>∃ A c,v=.slice A (jc l).length c/\ah w j.heap.size 3 1 bk A c (jc l)/\Bl j w):=by
 refine enter func44 O 20 O O ?_;intro a d;have i:=bz j;refine ZS d fun aM=>Za O<|Zx aM fun a d _ aN=>Zf (C' (m:=5) (enc:=bk) (z0:=0) O O gq pD Lc O kp O2 O2) ?_;rintro _ w1 ⟨b5,rfl,aO,hE,e⟩;have n:=Q0 i.size aO;have i:=aa i hE;refine Za O<|ZX aN fun a d _ aP=>ZS d fun aQ=>Zm O<|Ze (fh O gq)<|Zm O<|Zt aQ fun a d=>Q8<|Xw (σ:=Nat×(List Int)) (fun (s:Nat×(List Int)) (a:Act) (w:World)=>match s with|(k,to)=>Fr a 20 [(3,.slice (some ⟨b5,0,none⟩) 5 5),(7,.slice Al l.length cl),(8,vi (l.length:Int)),(9,vi (k:Int))]/\(k<=l.length)/\(to=jc (l.take k))/\al w b5 3 (to.flatMap bk)/\Bl j w) (fun (s:Nat×(List Int))=>match s with|(k,to)=>l.length-k) (0,[0,0,0,0,0]) ?_ ?_
 ·exact ⟨d.sb,(Qf _),O,e,i⟩
 intro ⟨k,to⟩ a w2 ⟨d,hk,aA,e,i⟩;have aR:to.length=5:=by rw[aA,BD]
 refine ZS d fun aS=>Ze (ew O O)<|ZX aS fun a d _ aE=>eh d O (fun aB aF=>?_) (fun aB aF=>?_)
 ·have ⟨f,g⟩:=Xe (l:=l) (k:=k) O0;have hb:=hq f (Qe g);refine Q7<|aE _ _<|Q5 fun _ aG=>Q8<|ZS d fun aH=>Zm O<|Zi (k:=k) (u:=f) (enc:=bk) (l:=l) ad O O gq jw kp (aD.bx i) g O ?_;intro aU aC;refine Ze (X0 O X8 aC)<|Za O<|Za O<|Zt aH fun a d=>Zr d<|Zm O<|Zm O<|Zm O<|Ze (Ce (k:=f.toNat) (off:=f.toNat*1) O O gq jw O0 O0 O)<|Zo (BU (enc:=bk) (l:=to) (u:=(k:Int)) (k:=f.toNat) O O jw e kp vR O O0) ?_;intro _ w3 ⟨ho,hb⟩;have i:=Below.oy i ho n;have e:=hb;clear hb ho;exact Zn fun a d=>Xk<|aG _ _<|Zr d<|Ze (Xs O O O0 O0)<|Zm O<|Zn fun a d=>Xb<|⟨(k+1,(to.set (f.toNat) (k:Int))),⟨d.sb,O0,(by rw[G6 g,aA]),e,i⟩,O3⟩
 refine Q9<|Xf<|Xf<|Xv<|aP _ _<|ZS d fun aI=>Zm O<|Za O<|Zt aI fun a d=>Q6 (X4 d (Xu d O O) ?_);have aJ:to.length=5:=aR;have aK:5<=maxLen:=by simp[maxLen]
 have aL:jc l=to:=by rw[aA,Qi O0]
 rw[aL];exact ⟨(some ⟨b5,0,none⟩),5,by rw[aJ],(ah.of_flat kp e n aJ aK),i⟩
def C8(q:World)(Al:Option Addr)(cl:Nat)(l:List Gt)(aW:Rw q 52 ab Al l)(Ato:Option Addr)(cto:Nat)(to:List Int)(B:Rw q 3 bk Ato to)(L:Nat)(hq:∀ g ∈ l,(g.k≠12->0<=g.a/\g.a<(L:Int))/\(bq g.k 9 11=true->0<=g.b/\g.b<(L:Int)))(bU:to.length=L)(bW:l.length<=1000000):RE 43 [.slice Al l.length cl,.slice Ato to.length cto] q (fun v w=>∃ A c,v=.slice A (av l to).length c/\ah w q.heap.size 52 3 ab A c (av l to)/\Bl q w):=by
 refine enter func43 O 39 O O ?_;intro a i;have n:=bz q;refine ZS i fun bE=>Za O<|Zx bE fun a i _ bF=>Zf (X6 (k:=0) (vs:=[]) (zs:=[]) O Xp Xx O O) ?_;rintro _ w1 ⟨b6,rfl,bG,t,bH⟩;have aX:=Q0 n.size bG;have n:=aa n t;refine Za O<|ZX bF fun a i _ bI=>ZS i fun bJ=>Zm O<|Ze (fh O Xp)<|Zm O<|Zt bJ fun a i=>Q8<|Xw (σ:=Nat×(List Gt)) (fun (s:Nat×(List Gt)) (a:Act) (w:World)=>match s with|(k,m)=>∃ W aA,Fr a 39 [(1,.slice Ato to.length cto),(5,.slice W m.length aA),(9,.slice Al l.length cl),(10,vi (l.length:Int)),(11,vi (k:Int))]/\(k<=l.length)/\(m=(l.take k).map (mb to))/\ah w q.heap.size 52 3 ab W aA m/\Bl q w) (fun (s:Nat×(List Gt))=>match s with|(k,m)=>l.length-k) (0,[]) ?_ ?_
 ·exact ⟨some ⟨b6,0,none⟩,0,i.sb,(Qf _),O,(ah.empty bH aX),n⟩
 intro ⟨k,m⟩ a w2 ⟨W,aA,i,hk,hm,e,n⟩;have bZ:m.length=k:=by rw[hm,Qo,Qn,Nat.min_eq_left hk]
 refine ZS i fun aY=>Ze (ew O O)<|ZX aY fun a i _ aZ=>eh i O (fun aH b0=>?_) (fun aH b0=>?_)
 ·have ⟨u14,C⟩:=Xe (l:=l) (k:=k) O0;have hb:=hq u14 (Qe C);have x:=CH (f:=mb to) C;refine Q7<|aZ _ _<|Q5 fun _ D=>Q8<|ZS i fun b1=>Zi (k:=k) (u:=u14) (enc:=ab) (l:=l) ad O O Xp ji Xl (aW.bx n) C O ?_;intro cA aI;refine Ze (Xt (l:=[vi u14.k,vi u14.a,vi u14.b]) O jd aI O)<|ZB [vi u14.k,vi u14.a,vi u14.b] ql ji fun aJ w4 aB t d=>?_;have E:=Q0 n.size aB;have j:=e.away aB;have e:=e.bw t;have n:=aa n t;refine ZX b1 fun a i _ aC=>ZS i fun b2=>Ze (Vd O mo 0)<|Ze (X0 O X8 (d.at 0))<|Ze (kz O O)<|Zt b2 fun a i=>Xz i O ?_ ?_<;>intro G
  ·have H:¬ u14.k=12:=by simpa using G
   have ha:=hb.1 H;refine Zr i<|Zm O<|Ze (Vd O lm 1)<|Ze (X0 O X8 (d.at 1))<|Zi (k:=u14.a.toNat) (u:=(to.getD u14.a.toNat 0)) (enc:=bk) (l:=to) ad O O gq jw kp (B.bx n) (yU O0) O0 ?_;intro cB aK;refine Ze (X0 O X8 aK)<|Ze (Vd O lm 1)<|Zo (Vu (vs:=[vi (to.getD u14.a.toNat 0)]) (l':=[vi u14.k,vi (to.getD u14.a.toNat 0),vi u14.b]) O O jw d) ?_;intro _ w5 ⟨ho,hb⟩;have e:=e.onlyA ho j;have n:=Below.oy n ho E;have d:=hb;clear hb ho;refine ZX aC fun a i _ aD=>ZS i fun b3=>Ze (Vd O mo 0)<|Ze (X0 O X8 (d.at 0))<|Zf (Vc (vH _ u14.k) wC) ?_;rintro _ _ ⟨rfl,rfl⟩;refine Zt b3 fun a i=>Xz i O ?_ ?_<;>intro I
   ·have h9:bq u14.k 9 11=true:=I;have cC:=hb.2 h9;have J:mb to u14=⟨u14.k,to.getD u14.a.toNat 0,to.getD u14.b.toNat 0⟩:=by rw[mb,Q3 H,Q4 h9]
    refine Zr i<|Zm O<|Ze (Vd O no 2)<|Ze (X0 O X8 (d.at 2))<|Zi (k:=u14.b.toNat) (u:=(to.getD u14.b.toNat 0)) (enc:=bk) (l:=to) ad O O gq jw kp (B.bx n) (yU O0) O0 ?_;intro cD aL;refine Ze (X0 O X8 aL)<|Ze (Vd O no 2)<|Zo (Vu (vs:=[vi (to.getD u14.b.toNat 0)]) (l':=[vi u14.k,vi (to.getD u14.a.toNat 0),vi (to.getD u14.b.toNat 0)]) O O jw d) ?_;intro _ w6 ⟨ho,hb⟩;have e:=e.onlyA ho j;have n:=Below.oy n ho E;have d:=hb;clear hb ho;refine Zt aD fun a i=>Zr i<|Zm O<|Ze (Vn jd d)<|Zf (X6 (k:=1) (vs:=[.agg #[vi u14.k,vi (to.getD u14.a.toNat 0),vi (to.getD u14.b.toNat 0)]]) (zs:=[vi u14.k,vi (to.getD u14.a.toNat 0),vi (to.getD u14.b.toNat 0)]) O Xp Xx O O) ?_;rintro _ w7 ⟨b30,rfl,aE,t,M⟩;have aM:aJ≠b30:=by have:=d.lt;omega
    have bK:=Q0 n.size aE;have ⟨d,e,n⟩:=bh t d e n;refine Zf (jf (enc:=ab) (l:=(m)) (l2:=([(⟨u14.k,(to.getD u14.a.toNat 0),(to.getD u14.b.toNat 0)⟩ : Gt)])) (B0:=q.heap.size) O O Xp Xx Xl lk e (Rd.of_blk M O _ M.lt) (by simp only[maxLen];simp;omega) O5 n.size) ?_;rintro _ w8 ⟨bL,bM,rfl,b4,hg,p⟩;have o:ah _ q.heap.size 52 3 ab _ _ (m):=e;clear p;have n:=Below.app n o hg (Qb _) n.size;clear o hg;refine Za O<|Zn fun a i=>Xk<|D _ _<|Zr i<|Ze (Xs O O O0 O0)<|Zm O<|Zn fun a i=>?_;rw[J] at x;exact Xb<|⟨(k+1,m++[(⟨u14.k,(to.getD u14.a.toNat 0),(to.getD u14.b.toNat 0)⟩ : Gt)]),⟨bL,bM,i.sb,O0,(by rw[x,hm]),b4,n⟩,O3⟩
   have h9:¬ bq u14.k 9 11=true:=by rw[I];simp
   have J:mb to u14=⟨u14.k,to.getD u14.a.toNat 0,u14.b⟩:=by rw[mb,Q3 H,Q3 h9]
   refine Q7<|aD _ _<|Zr i<|Zm O<|Ze (Vn jd d)<|Zf (X6 (k:=1) (vs:=[.agg #[vi u14.k,vi (to.getD u14.a.toNat 0),vi u14.b]]) (zs:=[vi u14.k,vi (to.getD u14.a.toNat 0),vi u14.b]) O Xp Xx O O) ?_;rintro _ w9 ⟨b33,rfl,aF,t,N⟩;have aP:aJ≠b33:=by have:=d.lt;omega
   have bN:=Q0 n.size aF;have ⟨d,e,n⟩:=bh t d e n;refine Zf (jf (enc:=ab) (l:=(m)) (l2:=([(⟨u14.k,(to.getD u14.a.toNat 0),u14.b⟩ : Gt)])) (B0:=q.heap.size) O O Xp Xx Xl lk e (Rd.of_blk N O _ N.lt) (by simp only[maxLen];simp;omega) O5 n.size) ?_;rintro _ cE ⟨bO,bP,rfl,b5,hg,p⟩;have o:ah _ q.heap.size 52 3 ab _ _ (m):=e;clear p;have n:=Below.app n o hg (Qb _) n.size;clear o hg;refine Za O<|Zn fun a i=>Xk<|D _ _<|Zr i<|Ze (Xs O O O0 O0)<|Zm O<|Zn fun a i=>?_;rw[J] at x;exact Xb<|⟨(k+1,m++[(⟨u14.k,(to.getD u14.a.toNat 0),u14.b⟩ : Gt)]),⟨bO,bP,i.sb,O0,(by rw[x,hm]),b5,n⟩,O3⟩
  have H:u14.k=12:=by simpa using G
  refine Q7<|aC _ _<|Q5 fun _ b7=>ZS i fun b8=>Ze (Vd O mo 0)<|Ze (X0 O X8 (d.at 0))<|Zf (Vc (vH _ u14.k) wC) ?_;rintro _ _ ⟨rfl,rfl⟩;refine Zt b8 fun a i=>Xz i O ?_ ?_<;>intro Q
  ·exact absurd (iw.1 Q) O0
  have h9:¬ bq u14.k 9 11=true:=by rw[Q];simp
  have J:mb to u14=u14:=by rw[mb,Q4 H,Q3 h9]
  refine Q7<|b7 _ _<|Zr i<|Zm O<|Ze (Vn jd d)<|Zf (X6 (k:=1) (vs:=[.agg #[vi u14.k,vi u14.a,vi u14.b]]) (zs:=[vi u14.k,vi u14.a,vi u14.b]) O Xp Xx O O) ?_;rintro _ cF ⟨b39,rfl,aG,t,U⟩;have aS:aJ≠b39:=by have:=d.lt;omega
  have bQ:=Q0 n.size aG;have ⟨d,e,n⟩:=bh t d e n;refine Zf (jf (enc:=ab) (l:=(m)) (l2:=([u14])) (B0:=q.heap.size) O O Xp Xx Xl lk e (Rd.of_blk U O _ U.lt) (by simp only[maxLen];simp;omega) O5 n.size) ?_;rintro _ cG ⟨bR,bS,rfl,b9,hg,p⟩;have o:ah _ q.heap.size 52 3 ab _ _ (m):=e;clear p;have n:=Below.app n o hg (Qb _) n.size;clear o hg;refine Za O<|Zn fun a i=>Xk<|D _ _<|Zr i<|Ze (Xs O O O0 O0)<|Zm O<|Zn fun a i=>?_;rw[J] at x;exact Xb<|⟨(k+1,m++[u14]),⟨bR,bS,i.sb,O0,(by rw[x,hm]),b9,n⟩,O3⟩
 refine Q9<|Xf<|Xf<|Xv<|bI _ _<|ZS i fun bC=>Zm O<|Za O<|Zt bC fun a i=>Q6 (X4 i (Xu i O O) ?_);have bD:av l to=m:=by rw[hm,Qi O0];rfl
 rw[bD];exact ⟨W,aA,O,e,n⟩
theorem K_(o:World)(n:Int)(r:Rp)(Ar:Option Addr)(cr:Nat)(aA:Rw o 52 ab Ar r.old)(Br:Option Addr)(dr:Nat)(aB:Rw o 52 ab Br r.new)(aC:r.old.length<=2305843009213693951)(aD:r.new.length<=2305843009213693951):RE 61 [vi n,.agg #[vi r.pos,.slice Ar r.old.length cr,.slice Br r.new.length dr]] o (fun v w=>v=.bool (qv n r)/\Bl o w):=by
 refine enter func61 O 36 O O ?_;intro a j;have l:=bz o;refine ZS j fun aE=>Zf (bt (zs:=[vi r.pos,.slice Ar r.old.length cr,.slice Br r.new.length dr]) O O) ?_;rintro _ w1 ⟨b4,rfl,aF,m,k⟩;have aH:=Q0 l.size aF;have l:=aa l m;refine Za O<|ZX aE fun a j _ aG=>eo (fun a w=>Fr a 36 [(4,.bool ((((((bq n 1 5)&&(bq r.pos 0 400))&&(decide ((r.old.length:Int)<=40)))&&(decide ((r.new.length:Int)<=40)))&&(!(r.old.any fun x=>!gp n x)))&&(!(r.new.any fun x=>!gp n x))))]/\Bl w1 w) ?_ ?_
 ·have i:Bl w1 w1:=Below.refl _ _;refine Zr j<|Zm O<|Zf (Vc (qc _ n 1 5) pV) ?_;rintro _ _ ⟨rfl,rfl⟩;refine Zm O<|Zg 7 O ?_ ?_<;>intro d
  ·refine Zv (gW d) (Vd O rF 0) ?_;refine Zv (gW d) (X0 O X8 (k.at 0)) ?_;refine Zk (gW d) (Vc (qc _ r.pos 0 400) pV) ?_;rintro _ _ ⟨rfl,rfl⟩;refine Ze (Xh O d O)<|Zm O<|Zg 12 O ?_ ?_<;>intro e
   ·refine Zv (gW e) (Vd O rf 1) ?_;refine Zv (gW e) (X0 O gj (k.at 1)) ?_;refine Zv (gW e) (fh O Xp) ?_;refine Zv (gW e) (se O O)<|Ze (Xh O e O)<|Zm O<|Zg 18 O ?_ ?_<;>intro f
    ·refine Zv (gW f) (Vd O qV 2) ?_;refine Zv (gW f) (X0 O gj (k.at 2)) ?_;refine Zv (gW f) (fh O Xp) ?_;refine Zv (gW f) (se O O)<|Ze (Xh O f O)<|Zm O<|Zg 24 O ?_ ?_<;>intro g
     ·refine Zv (gW g) (X7 O) ?_;refine Zv (gW g) (Vd O rf 1) ?_;refine Zv (gW g) (X0 O gj (k.at 1)) ?_;refine Zk (gW g) (Vc (FU _ n Ar cr r.old (aA.bx l).top aC) Ez) ?_;rintro _ w2 ⟨rfl,m⟩;have ⟨k,l,i⟩:=bh m k l i;refine Ze (Xh O g O)<|Zm O<|Zg 30 O ?_ ?_<;>intro c
      ·refine Zv (gW c) (X7 O) ?_;refine Zv (gW c) (Vd O qV 2) ?_;refine Zv (gW c) (X0 O gj (k.at 2)) ?_;refine Zk (gW c) (Vc (FU _ n Br dr r.new (aB.bx l).top aD) Ez) ?_;rintro _ w3 ⟨rfl,m⟩;have l:=aa l m;have i:=aa i m;exact Ze (Xh O c O)<|Za O<|Zn fun a j=>⟨j.sub ⟨X1 O (by simp[d,e,f,g,c]),trivial⟩,i⟩
      (iterate 4 refine Zp (gP c) ?_);exact Ze (X9 O c O)<|Za O<|Zn fun a j=>⟨j.sub ⟨X1 O (by simp[d,e,f,g,c]),trivial⟩,i⟩
     (iterate 4 refine Zp (gP g) ?_);refine Ze (X9 O g O)<|Zm O<|Zp (gP O) ?_;(iterate 3 refine Zp (gP O) ?_);exact Ze (X9 O O O)<|Za O<|Zn fun a j=>⟨j.sub ⟨X1 O (by simp[d,e,f,g]),trivial⟩,i⟩
    (iterate 4 refine Zp (gP f) ?_);refine Ze (X9 O f O)<|Zm O<|Zp (gP O) ?_;(iterate 3 refine Zp (gP O) ?_);refine Ze (X9 O O O)<|Zm O<|Zp (gP O) ?_;(iterate 3 refine Zp (gP O) ?_);exact Ze (X9 O O O)<|Za O<|Zn fun a j=>⟨j.sub ⟨X1 O (by simp[d,e,f]),trivial⟩,i⟩
   (iterate 4 refine Zp (gP e) ?_);refine Ze (X9 O e O)<|Zm O<|Zp (gP O) ?_;(iterate 3 refine Zp (gP O) ?_);refine Ze (X9 O O O)<|Zm O<|Zp (gP O) ?_;(iterate 3 refine Zp (gP O) ?_);refine Ze (X9 O O O)<|Zm O<|Zp (gP O) ?_;(iterate 3 refine Zp (gP O) ?_);exact Ze (X9 O O O)<|Za O<|Zn fun a j=>⟨j.sub ⟨X1 O (by simp[d,e]),trivial⟩,i⟩
  (iterate 3 refine Zp (gP d) ?_);refine Ze (X9 O d O)<|Zm O<|Zp (gP O) ?_;(iterate 3 refine Zp (gP O) ?_);refine Ze (X9 O O O)<|Zm O<|Zp (gP O) ?_;(iterate 3 refine Zp (gP O) ?_);refine Ze (X9 O O O)<|Zm O<|Zp (gP O) ?_;(iterate 3 refine Zp (gP O) ?_);refine Ze (X9 O O O)<|Zm O<|Zp (gP O) ?_;(iterate 3 refine Zp (gP O) ?_);exact Ze (X9 O O O)<|Za O<|Zn fun a j=>⟨j.sub ⟨X1 O (by simp[d]),trivial⟩,i⟩
 intro a w4 ⟨j,m⟩;have l:=aa l m;refine aG _ _<|Q6 (X4 j (Xu j O O) ?_);exact ⟨by simp only[qv],l⟩
def TR(Q:World)(c:Cx)(Ac:Option Addr)(cc:Nat)(b3:Rw Q 52 ab Ac c.gs)(m:Mx)(Am:Option Addr)(cm:Nat)(b6:Rw Q 147 ai Am m.cells)(hc:gf c=true)(hm:di m=true)(hr:m.rows=((2^c.n.toNat:Nat) : Int)):RE 97 [.agg #[vi c.n,.slice Ac c.gs.length cc],.agg #[vi m.rows,vi m.cols,.slice Am m.cells.length cm],.bool true] Q (fun v w=>∃ A c1,v=.tuple #[mV A c1 ((gk c.n c.gs m).getD mZ),.bool (gk c.n c.gs m).isSome]/\Rw w 147 ai A ((gk c.n c.gs m).getD mZ).cells/\Bl Q w):=by
 have ⟨hn,cB,bM⟩:=n' hc;refine enter func97 O 40 O O ?_;intro a y;have f:=bz Q;refine ZS y fun bN=>Zf (bt (zs:=[vi c.n,.slice Ac c.gs.length cc]) O O) ?_;rintro _ w1 ⟨b4,rfl,bO,d,g⟩;have cC:=Q0 f.size bO;have f:=aa f d;refine Zf (bt (zs:=[vi m.rows,vi m.cols,.slice Am m.cells.length cm]) O O) ?_;rintro _ w2 ⟨b5,rfl,bP,d,e⟩;have b8:=Q0 f.size bP;have g:=g.bw d;have f:=aa f d;refine Zf (Xi (zs:=[vi 0,vi 0,.slice none 0 0]) jy O) ?_;rintro _ w3 ⟨b7,rfl,bQ,d,o⟩;have bL:b5≠b7:=by have:=e.lt;omega
 have b9:=Q0 f.size bQ;have ⟨g,e,f⟩:=bh d g e f;refine Za O<|ZX bN fun a y _ bR=>ZS y fun bS=>Za O<|Zt bS fun a y=>Q8<|Xw (σ:=Nat×Mx×Bool) (fun (s:Nat×Mx×Bool) (a:Act) (w:World)=>match s with|(i,x,b)=>∃ M W,Fr a 40 [(2,.bool b),(3,(ae b4)),(4,(ae b5)),(6,(ae b7)),(8,vi (i:Int))]/\((if b=true then gk c.n (c.gs.drop i) x else none)=(gk c.n c.gs m))/\(b=false->x=mZ)/\(b=true->di x=true/\x.rows=((2^c.n.toNat:Nat) : Int))/\(i<=c.gs.length)/\al w b4 28 [vi c.n,.slice Ac c.gs.length cc]/\al w b5 91 [vi x.rows,vi x.cols,.slice M x.cells.length W]/\al w b7 91 [vi 0,vi 0,.slice none 0 0]/\Rw w 147 ai M x.cells/\Bl Q w) (fun (s:Nat×Mx×Bool)=>match s with|(i,x,b)=>c.gs.length-i) (0,m,true) ?_ ?_
 ·exact ⟨Am,cm,y.sb,O,O6,(fun _=>⟨hm,hr⟩),(Qf _),g,e,o,(b6.bx f).top,f⟩
 intro ⟨i,x,b⟩ a w4 ⟨M,W,y,aP,hz,aS,hi,g,e,o,D,f⟩;refine Q5 fun _ bC=>Q5 fun _ bD=>eo (fun a w=>Fr a 40 [(2,.bool b),(3,(ae b4)),(4,(ae b5)),(6,(ae b7)),(8,vi (i:Int)),(18,.bool ((decide ((i:Int)<(c.gs.length:Int)))&&b))]/\w4=w) ?_ ?_
 ·refine Zr y<|Zm O<|Ze (Vd O is 1)<|Ze (X0 O gj (g.at 1))<|Ze (fh O Xp)<|Ze (ew O O)<|Zm O<|Zg 16 O ?_ ?_<;>intro z
  ·refine Zv (gW z) (X7 O) ?_;exact Ze (Xh O z O)<|Zn fun a y=>⟨y.sub ⟨O,O,O,O,O,X1 O (by first|rfl|(simp only[z,bs];done)|simp[z]),trivial⟩,O⟩
  exact Zp (gP z)<|Ze (X9 O z O)<|Zn fun a y=>⟨y.sub ⟨O,O,O,O,O,X1 O (by first|rfl|(simp only[z,bs];done)|simp[z]),trivial⟩,O⟩
 rintro a _ ⟨y,rfl⟩;refine bD _ _<|Xz y O ?_ ?_<;>intro aA
 ·have bU:(i:Int)<c.gs.length/\b=true:=by simpa using aA
  have aI:=bU.2;have ⟨u,hu⟩:=Xe (l:=c.gs) (k:=i) O0;have bW:=bM u (Qe hu);have ⟨bE,bZ⟩:=r_ bW;have bF:=r9 bZ (aS aI).1 (by rw[(aS aI).2];rfl);have cA:=Gc hu;refine Q7<|bC _ _<|Q5 fun _ bG=>Q8<|Q5 fun _ bH=>eo (fun a w=>∃ q B C,Fr a 40 [(3,(ae b4)),(4,(ae b5)),(6,(ae b7)),(8,vi (i:Int)),(9,(ae q))]/\Q.heap.size<=q/\al w q 91 [vi (((br c.n u).getD mZ).rows),vi (((br c.n u).getD mZ).cols),.slice B (((br c.n u).getD mZ).cells).length C]/\b5≠q/\b7≠q/\ah w Q.heap.size 147 5 ai B C (((br c.n u).getD mZ).cells)/\Bl w4 w) ?_ ?_
  ·have p:Bl w4 w4:=Below.refl _ _;refine gx none (fun j=>[12].contains j) mixed ?_;intro w5 d;have ⟨g,e,o,f,p⟩:=io d g e o f p;refine Yb y<|Yo 0 O (fun _=>Vd O oY 0)<|Ye 1 O (X0 O X8 (g.at 0))<|Yo 2 O (fun _=>Vd O is 1)<|Ye 3 O (X0 O gj (g.at 1))<|Yo 4 O (fun _=>X7 O)<|Yi (k:=i) (u:=u) (enc:=ab) (l:=c.gs) 5 O ad O O Xp ji Xl (b3.bx f) hu O ?_;intro cD aT;refine Ye 6 O (Xt (l:=[vi u.k,vi u.a,vi u.b]) O jd aT O) ?_;have t:Bl w5 w5:=Below.refl _ _;refine Yc [0,1,2,3,4,5,6,7,8,9,10,11] 2 (fun a w=>∃ q B C,Fr a 40 [(3,(ae b4)),(4,(ae b5)),(6,(ae b7)),(8,vi (i:Int)),(9,(ae q)),(30,.agg #[vi (((br c.n u).getD mZ).rows),vi (((br c.n u).getD mZ).cols),.slice B (((br c.n u).getD mZ).cells).length C]),(31,.bool ((br c.n u).isSome))]/\Q.heap.size<=q/\al w q 91 [vi 0,vi 0,.slice none 0 0]/\b5≠q/\b7≠q/\w5.heap.size<=q/\w4.heap.size<=q/\ah w Q.heap.size 147 5 ai B C (((br c.n u).getD mZ).cells)/\Bl w5 w) ?_ ?_
   ·intro a w6 ⟨q,B,C,y,N,E,H,I,aU,aW,J,d⟩;clear t;have t:=d;have f:=aa f d;have p:=aa p d;refine Yb y<|Y1 12<|Yh O ad O (Vw [vi (((br c.n u).getD mZ).rows),vi (((br c.n u).getD mZ).cols),.slice B (((br c.n u).getD mZ).cells).length C] jg E) ?_;intro _ w7 ⟨ho,hb⟩;have J:=J.oT ho E O;have p:=Below.oy p ho aW;have t:=Below.oy t ho aU;have f:=Below.oy f ho N;have E:=hb;exact Yo 13 O (fun _=>kk O)<|Yd fun a y=>⟨q,B,C,y.sb,N,E,H,I,J,p⟩
   intro aQ;refine Y2 7 11 ?_ ?_
   ·refine Yk O ad (Vc (wM _ c.n u) xi) (fun _ _ ⟨aJ,aK,_,G,d⟩=>d) ?_;rintro _ w8 ⟨aJ,aK,rfl,G,d⟩;have G:=G.lower f.size;have ⟨e,o,f,p,t⟩:=io d e o f p t;refine Yo 8 O (fun _=>X7 O)<|Yo 9 O (fun _=>X2 (vs:=[.agg #[vi (((br c.n u).getD mZ).rows),vi (((br c.n u).getD mZ).cols),.slice aJ (((br c.n u).getD mZ).cells).length aK],.bool ((br c.n u).isSome)]) O O)<|Yo 10 O (fun _=>X2 (vs:=[.agg #[vi (((br c.n u).getD mZ).rows),vi (((br c.n u).getD mZ).cols),.slice aJ (((br c.n u).getD mZ).cells).length aK],.bool ((br c.n u).isSome)]) O O)<|Y1 11<|Yk O ad (Xi (zs:=[vi 0,vi 0,.slice none 0 0]) jy O) (fun _ _ ⟨_,_,_,h,_⟩=>h) ?_;rintro _ w9 ⟨b23,rfl,aB,d,bI⟩;have aC:b5≠b23:=by have:=e.lt;omega
    have aD:b7≠b23:=by have:=o.lt;omega
    have aX:=Q0 f.size aB;have aY:=Q0 p.size aB;have aZ:=Q0 t.size aB;have ⟨G,f,p,t⟩:=dk d G f p t;exact fun a y=>aQ _ a _ O ⟨b23,aJ,aK,y.sb,aX,bI,aC,aD,aZ,aY,G,t⟩
   refine Yk O ad (Xi (zs:=[vi 0,vi 0,.slice none 0 0]) jy O) (fun _ _ ⟨_,_,_,h,_⟩=>h) ?_;rintro _ cE ⟨b25,rfl,aE,d,aF⟩;have aG:b5≠b25:=by have:=e.lt;omega
   have aH:b7≠b25:=by have:=o.lt;omega
   have b0:=Q0 f.size aE;have b1:=Q0 p.size aE;have b2:=Q0 t.size aE;have ⟨f,p,t⟩:=bh d f p t;refine Y1 7<|Yk O ad (Vc (wM _ c.n u) xi) (fun _ _ ⟨aL,aM,_,U,d⟩=>d) ?_;rintro _ cF ⟨aL,aM,rfl,U,d⟩;have U:=U.lower f.size;have ⟨aF,f,p,t⟩:=dk d aF f p t;exact Yo 8 O (fun _=>X7 O)<|Yo 9 O (fun _=>X2 (vs:=[.agg #[vi (((br c.n u).getD mZ).rows),vi (((br c.n u).getD mZ).cols),.slice aL (((br c.n u).getD mZ).cells).length aM],.bool ((br c.n u).isSome)]) O O)<|Yo 10 O (fun _=>X2 (vs:=[.agg #[vi (((br c.n u).getD mZ).rows),vi (((br c.n u).getD mZ).cols),.slice aL (((br c.n u).getD mZ).cells).length aM],.bool ((br c.n u).isSome)]) O O)<|fun a y=>aQ _ a _ O ⟨b25,aL,aM,y.sb,b0,aF,aG,aH,b2,b1,U,t⟩
  intro a cG ⟨q,B,C,y,N,E,H,I,J,d⟩;have ⟨g,e,o,D,f⟩:=io d g e o D f;refine bH _ _<|Zr y<|Ze (Vn fw E)<|Ze (Vn fw e)<|Zf (Vc (wX _ ((br c.n u).getD mZ) B C J.rd.top x M W D.top (by rw[bE,Qq];exact FM hn) (EL (aS aI).1)) wP) ?_;rintro _ cH ⟨aN,aO,rfl,L,d⟩;have L:=L.lower f.size;have ⟨g,e,o,f⟩:=dk d g e o f;refine Zm O<|Ze (X2 (vs:=[.agg #[vi (((bg ((br c.n u).getD mZ) x).getD mZ).rows),vi (((bg ((br c.n u).getD mZ) x).getD mZ).cols),.slice aN (((bg ((br c.n u).getD mZ) x).getD mZ).cells).length aO],.bool ((bg ((br c.n u).getD mZ) x).isSome)]) O O)<|Ze (X2 (vs:=[.agg #[vi (((bg ((br c.n u).getD mZ) x).getD mZ).rows),vi (((bg ((br c.n u).getD mZ) x).getD mZ).cols),.slice aN (((bg ((br c.n u).getD mZ) x).getD mZ).cells).length aO],.bool ((bg ((br c.n u).getD mZ) x).isSome)]) O O)<|Zo (Vw [vi (((bg ((br c.n u).getD mZ) x).getD mZ).rows),vi (((bg ((br c.n u).getD mZ) x).getD mZ).cols),.slice aN (((bg ((br c.n u).getD mZ) x).getD mZ).cells).length aO] jg e) ?_;intro _ cI ⟨ho,hb⟩;have g:=g.oz ho e O;have o:=o.oy ho O0;have L:=L.oT ho e O;have f:=Below.oy f ho b8;have e:=hb;exact Za O<|Zn fun a y=>Xk<|bG _ _<|Zr y<|Zm O<|Ze (Xs O O O0 O0)<|Za O<|Zn fun a y=>Xb<|⟨(i+1,((bg ((br c.n u).getD mZ) x).getD mZ),(bg ((br c.n u).getD mZ) x).isSome),⟨aN,aO,y.sb,(by rw[<- aP,Q4 aI,cA,gk];cases bg ((br c.n u).getD mZ) x<;>rfl),(by cases bg ((br c.n u).getD mZ) x<;>simp),(by rw[bE,Qq];intro h0;cases h1:bg (bc c.n u) x with|none=>rw[h1] at h0;cases h0|some x1=>exact ⟨(bF.1 x1 h1).2.1,by rw[Qq,(bF.1 x1 h1).2.2.1];rfl⟩),O0,g,e,o,L.rd,f⟩,O3⟩
 have bJ:b=true->¬ (i:Int)<c.gs.length:=by intro h0;subst h0;simpa using aA
 refine Q9<|Xf<|Xf<|Xv<|bR _ _<|ZS y fun bK=>Ze (Vn fw e)<|Zm O<|Zo (Vw [vi x.rows,vi x.cols,.slice M x.cells.length W] jg o) ?_;intro _ cJ ⟨ho,hb⟩;have D:=D.oT ho o O;have f:=Below.oy f ho b9;have o:=hb;refine Za O<|Zt bK fun a y=>Q6 (X4 y (dj y O (an.cellN (l:=[vi x.rows,vi x.cols,.slice M x.cells.length W]) O fw (o.at 0) O) O) ?_);have aR:gk c.n c.gs m=if b=true then some x else none:=by rw[<- aP];cases b with|false=>rfl|true=>rw[Q4 rfl,Q4 rfl,W3 (by have:=bJ rfl;omega)];rfl
 have h1:(gk c.n c.gs m).getD mZ=x:=by rw[aR];cases b with|false=>exact (hz rfl).symm|true=>rfl
 have h2:(gk c.n c.gs m).isSome=b:=by rw[aR];cases b<;>rfl
 rw[h1,h2];exact ⟨M,W,O,D.top,f⟩
def Ni(w0:World)(d:Nat)(h:dm (d:Int)=true):RE 96 [vi (d:Int)] w0 (fun v w=>∃ A c,v=.tuple #[mV A c (ao d),.bool true]/\ah w w0.heap.size 147 5 ai A c (ao d).cells/\Bl w0 w):=by
 have h1:=ET w0 (d:Int);rw[(s_ h).1] at h1;exact h1
abbrev Ys:=fun (a:Cx) b=>(gk a.n a.gs (ao b)).getD mZ
def El(w0:World)(c:Cx)(Ac:Option Addr)(cc:Nat)(z:Rw w0 52 ab Ac c.gs)(aG:c.gs.length<=2305843009213693951):RE 70 [.agg #[vi c.n,.slice Ac c.gs.length cc]] w0 (fun v w=>∃ A c1,v=.tuple #[mV A c1 ((eu c).getD mZ),.bool (eu c).isSome]/\Rw w 147 ai A ((eu c).getD mZ).cells/\Bl w0 w):=by
 refine enter func70 O 23 O O ?_;intro a k;have f:=bz w0;refine ZS k fun aH=>Zf (bt (zs:=[vi c.n,.slice Ac c.gs.length cc]) O O) ?_;rintro _ w1 ⟨b3,rfl,aI,i,g⟩;have aO:=Q0 f.size aI;have f:=aa f i;refine Zf (Xi (zs:=[vi 0,vi 0,.slice none 0 0]) jy O) ?_;rintro _ w2 ⟨b5,rfl,aJ,i,e⟩;have h:=Q0 f.size aJ;have g:=g.bw i;have f:=aa f i;refine Za O<|ZX aH fun a k _ aK=>ZS k fun aL=>Ze (Vn g_ g)<|Zf (Vc (xY _ c Ac cc (z.bx f).top aG) xT) ?_;rintro _ w3 ⟨rfl,i⟩;have ⟨g,e,f⟩:=bh i g e f;refine Ze (dn O)<|Zt aL fun a k=>Xz k O ?_ ?_<;>intro o
 ·have aA:=o;have hn:¬ gf c=true:=by revert o;cases gf c<;>simp
  refine ZS k fun aM=>Ze (Xg (ps:=[]) (cs:=[vi 0,vi 0,.slice none 0 0]) O (fun _=>by first|rfl|kernel_rfl))<|Zo (Vw [vi 0,vi 0,.slice none 0 0] jg e) ?_;intro _ w4 ⟨ho,hb⟩;have f:=Below.oy f ho h;have e:=hb;refine Za O<|Zt aM fun a k=>Q6<|X3<|X4 k (dj k O (an.cellN (l:=[vi 0,vi 0,.slice none 0 0]) O fw (e.at 0) O) O) ?_;have p:eu c=none:=by rw[eu,Q3 hn]
  rw[p];exact ⟨none,0,O,(Rd.nil _ 0 _ _ _).top,f⟩
 have aA:=o;have hc:gf c=true:=by revert o;cases gf c<;>simp
 have ⟨hn,aP,aQ⟩:=n' hc;have ⟨d,hd⟩ : ∃ d:Nat,d=2^c.n.toNat:=⟨_,O⟩;refine Q7<|aK _ _<|ZS k fun aB=>Ze (Vd O oY 0)<|Ze (X0 O X8 (g.at 0))<|Ze (wg (m:=c.n.toNat) (D:=d) O O O0 ⟨hd,by omega⟩)<|Zf (Vc (Ni _ d (by rw[hd];exact tj hn)) GY) ?_;rintro _ w5 ⟨x,y,rfl,j,i⟩;have j:=j.lower f.size;have ⟨g,e,f⟩:=bh i g e f;refine Zm O<|Ze (X2 (vs:=[.agg #[vi ((ao d).rows),vi ((ao d).cols),.slice x ((ao d).cells).length y],.bool true]) O O)<|Ze (X2 (vs:=[.agg #[vi ((ao d).rows),vi ((ao d).cols),.slice x ((ao d).cells).length y],.bool true]) O O)<|ZB [vi ((ao d).rows),vi ((ao d).cols),.slice x ((ao d).cells).length y] jy jg fun b14 w7 aC i aD=>?_;have aE:b5≠b14:=by have:=e.lt;omega
 have aN:=Q0 f.size aC;have ⟨g,e,j,f⟩:=dk i g e j f;refine Za O<|Zx aB fun a k _ aF=>Ze (Vn g_ g)<|Ze (Vn fw aD)<|Zm O<|Zf (Vc (TR _ c Ac cc (z.bx f).top (ao d) x y j.rd.top hc (s_ (by rw[hd];exact tj hn)).2 (by rw[<- hd];rfl)) Kj) ?_;rintro _ w8 ⟨q,t,rfl,u,i⟩;have e:=e.bw i;have f:=aa f i;refine Ze (X2 (vs:=[.agg #[vi ((Ys c d).rows),vi ((Ys c d).cols),.slice q ((Ys c d).cells).length t],.bool ((gk c.n c.gs (ao d)).isSome)]) O O)<|Ze (X2 (vs:=[.agg #[vi ((Ys c d).rows),vi ((Ys c d).cols),.slice q ((Ys c d).cells).length t],.bool ((gk c.n c.gs (ao d)).isSome)]) O O)<|Zo (Vw [vi ((Ys c d).rows),vi ((Ys c d).cols),.slice q ((Ys c d).cells).length t] jg e) ?_;intro _ w9 ⟨ho,hb⟩;have u:=u.oT ho e O;have f:=Below.oy f ho h;have e:=hb;refine Za O<|Zt aF fun a k=>Q6 (X4 k (dj k O (an.cellN (l:=[vi ((Ys c d).rows),vi ((Ys c d).cols),.slice q ((Ys c d).cells).length t]) O fw (e.at 0) O) O) ?_);have p:eu c=gk c.n c.gs (ao d):=by rw[eu,Q4 hc,<- hd,(s_ (by rw[hd];exact tj hn)).1];rfl
 rw[p];exact ⟨q,t,O,u.top,f⟩
end Go.Proofs.YtkhbopcihjobdaaGreatDoor
