/-
  For every drawn circuit, the certificate of the peephole pass is accepted, gates and T gates do not become more, and nothing is left to replace. Conditions: none beside the variables' values, which the card ties to the program's text.
-/
import Derived.Test.YtfkokcbjcndjpaaGreatDoorP1
import Derived.MapKept
import Derived.Shelf.Sort.Plain
import Derived.Shelf.Slices.Turned
import Derived.Ground.Names2Prog
import Derived.Shelf.Slices.Clone
import Derived.Shelf.Slices.CompactI
import Derived.Shelf.Slices.Cells
import Derived.Test.YtfkokcbjcndjpaaGreatDoorProg
import Derived.Shelf.Spec.SlicesGrow
import Derived.Laws.MakeOwn
import Derived.Laws.Slices
import Derived.Shelf.Slices.In.SortNone
set_option linter.unusedVariables false
set_option linter.unusedSimpArgs false
set_option maxRecDepth 4000
set_option linter.unusedSectionVars false
namespace Go.Proofs.YtfkokcbjcndjpaaGreatDoor
open Go.RowKit
theorem Y20(w0:World)(i:Int)(j:Int) : Ret Tryz.prog 127 [vi i,vi j] w0 (fun v w=>v=.tuple #[dV (if i=j then (⟨⟨1,0,0,0⟩,0⟩ : Dy) else dZ),.bool true]/\Below w0.heap.size w0 w):=by
 refine enter Tryz.func127 O 11 O O ?_;intro a f
 have g:=bz w0
 refine Zs f fun _ aC=>?_;refine Zf (Xl (zs:=[vi 0,vi 0,vi 0,vi 0,vi 0]) X1s O) ?_;rintro _ w1 ⟨b2,rfl,aD,hE,e⟩;have m:=Q0 g.size aD;have g:=btr g hE;refine Za O<|ZX aC fun a f _ aE=>?_;refine Zs f fun _ aF=>?_;refine Zm O<|Zm O<|Ze (X13 O O)<|Zt aF fun a f=>?_
 refine X04 f O (fun k=>?_) (fun k=>?_)
 ·have aB:=k
  have aA:i=j:=by revert k;simp
  refine Zs f fun _ aG=>?_;refine Zf (Vc (Xvr _ 1) Xhh) ?_;rintro _ w2 ⟨rfl,hE⟩;have e:=e.bw hE;have g:=btr g hE;refine Zo (Vw [vi ((⟨⟨1,0,0,0⟩,0⟩ : Dy).num.a),vi ((⟨⟨1,0,0,0⟩,0⟩ : Dy).num.b),vi ((⟨⟨1,0,0,0⟩,0⟩ : Dy).num.c),vi ((⟨⟨1,0,0,0⟩,0⟩ : Dy).num.d),vi ((⟨⟨1,0,0,0⟩,0⟩ : Dy).exp)] X09 e) ?_;rintro _ w3 ⟨ho,hb⟩;have g:=Below.oy g ho m;have e:=hb;refine Za O<|Zt aG fun a f=>?_;refine Q6<|X5<|X4 f (X0q f O (ResV.cellN (l:=[vi ((⟨⟨1,0,0,0⟩,0⟩ : Dy).num.a),vi ((⟨⟨1,0,0,0⟩,0⟩ : Dy).num.b),vi ((⟨⟨1,0,0,0⟩,0⟩ : Dy).num.c),vi ((⟨⟨1,0,0,0⟩,0⟩ : Dy).num.d),vi ((⟨⟨1,0,0,0⟩,0⟩ : Dy).exp)]) O Xr (e.at 0) O) O) ?_;exact ⟨by rw [Q4 aA],g⟩
 have aB:=k
 have aA:¬ i=j:=by revert k;simp
 refine Q7<|aE _ _<|Zs f fun _ aH=>?_;refine Ze (Xi (ps:=[]) (cs:=[vi 0,vi 0,vi 0,vi 0,vi 0]) O (fun _=>by first|rfl|kernel_rfl))<|Zo (Vw [vi 0,vi 0,vi 0,vi 0,vi 0] X09 e) ?_;rintro _ w4 ⟨ho,hb⟩;have g:=Below.oy g ho m;have e:=hb;refine Za O<|Zt aH fun a f=>?_
 refine Q6 (X4 f (X0q f O (ResV.cellN (l:=[vi 0,vi 0,vi 0,vi 0,vi 0]) O Xr (e.at 0) O) O) ?_)
 exact ⟨by rw [Q3 aA];rfl,g⟩
theorem Xz9(w0:World)(n:Int) : Ret Tryz.prog 86 [vi n] w0 (fun v w=>∃ A c,v=.tuple #[mV A c ((idI n).getD mZ),.bool (idI n).isSome]/\Own w w0.heap.size 139 5 encD A c ((idI n).getD mZ).cells/\Below w0.heap.size w0 w):=by
 refine enter Tryz.func86 O 9 O O ?_;intro a hf
 have e:=bz w0
 refine Zs hf fun _ aB=>?_;refine Zf (Xl (zs:=[vi 0,vi 0,.slice none 0 0]) X1r O) ?_;rintro _ w1 ⟨b3,rfl,aC,hE,b⟩;have aA:=Q0 e.size aC;have e:=btr e hE;refine Za O<|Zx aB fun a hf _ aD=>?_;refine Zm O<|Zm O<|Zf (Vc (Xqz _ n n 127 [] Xxa (fun i j=>some (if i=j then ⟨⟨1,0,0,0⟩,0⟩ else dZ)) (fun i j w' hi hj hE'=>(Y20 w' (i:Int) (j:Int)).mono fun v w'' ⟨h1,h2⟩=>⟨by rw [h1];simp only [Int.natCast_inj];rfl,h2⟩)) Xdn) ?_;rintro _ w2 ⟨A5,c5,rfl,d,hE⟩;have d:=d.lower e.size;have b:=b.bw hE;have e:=btr e hE;refine Ze (X3 (vs:=[.agg #[vi (((matOf n n (fun i j=>some (if i=j then ⟨⟨1,0,0,0⟩,0⟩ else dZ))).getD mZ).rows),vi (((matOf n n (fun i j=>some (if i=j then ⟨⟨1,0,0,0⟩,0⟩ else dZ))).getD mZ).cols),.slice A5 (((matOf n n (fun i j=>some (if i=j then ⟨⟨1,0,0,0⟩,0⟩ else dZ))).getD mZ).cells).length c5],.bool ((matOf n n (fun i j=>some (if i=j then ⟨⟨1,0,0,0⟩,0⟩ else dZ))).isSome)]) O O)<|Ze (X3 (vs:=[.agg #[vi (((matOf n n (fun i j=>some (if i=j then ⟨⟨1,0,0,0⟩,0⟩ else dZ))).getD mZ).rows),vi (((matOf n n (fun i j=>some (if i=j then ⟨⟨1,0,0,0⟩,0⟩ else dZ))).getD mZ).cols),.slice A5 (((matOf n n (fun i j=>some (if i=j then ⟨⟨1,0,0,0⟩,0⟩ else dZ))).getD mZ).cells).length c5],.bool ((matOf n n (fun i j=>some (if i=j then ⟨⟨1,0,0,0⟩,0⟩ else dZ))).isSome)]) O O)<|Zo (Vw [vi (((matOf n n (fun i j=>some (if i=j then ⟨⟨1,0,0,0⟩,0⟩ else dZ))).getD mZ).rows),vi (((matOf n n (fun i j=>some (if i=j then ⟨⟨1,0,0,0⟩,0⟩ else dZ))).getD mZ).cols),.slice A5 (((matOf n n (fun i j=>some (if i=j then ⟨⟨1,0,0,0⟩,0⟩ else dZ))).getD mZ).cells).length c5] X19 b) ?_;rintro _ w3 ⟨ho,hb⟩;have d:=d.oT ho b O;have e:=Below.oy e ho aA;have b:=hb;refine Za O<|Zt aD fun a hf=>?_
 refine Q6 (X4 hf (X0q hf O (ResV.cellN (l:=[vi (((matOf n n (fun i j=>some (if i=j then ⟨⟨1,0,0,0⟩,0⟩ else dZ))).getD mZ).rows),vi (((matOf n n (fun i j=>some (if i=j then ⟨⟨1,0,0,0⟩,0⟩ else dZ))).getD mZ).cols),.slice A5 (((matOf n n (fun i j=>some (if i=j then ⟨⟨1,0,0,0⟩,0⟩ else dZ))).getD mZ).cells).length c5]) O X0j (b.at 0) O) O) ?_)
 exact ⟨A5,c5,O,d,e⟩
theorem Y2e(N:World)(p q:Mx)(Aa Ab:Option Addr)(ca cb:Nat)(ba bb:Nat)(U:Rd N N.heap.size 139 encD Aa p.cells)(W:Rd N N.heap.size 139 encD Ab q.cells)(u:Blk N ba 92 [vi p.rows,vi p.cols,.slice Aa p.cells.length ca])(x:Blk N bb 92 [vi q.rows,vi q.cols,.slice Ab q.cells.length cb])(b9:mOk p=true)(bZ:mOk q=true)(dD:p.cols=q.rows)(i j:Nat)(hi:(i:Int)<p.rows)(hj:(j:Int)<q.cols) : Ret Tryz.prog 134 [vi (i:Int),vi (j:Int),(pZ9 ba),(pZ9 bb)] N (fun v w=>v=.tuple #[dV ((dotI p q i j p.cols.toNat).getD dZ),.bool (dotI p q i j p.cols.toNat).isSome]/\Below N.heap.size N w):=by
 have dE:=X3b b9;have cU:=u.lt;have cV:=x.lt
 have dF:p.cols=(p.cols.toNat:Int):=by omega
 refine enter Tryz.func134 O 48 O O ?_;intro a t
 have m:=bz N
 refine Zs t fun _ cW=>?_;refine Zf (Xl (zs:=[vi 0,vi 0,vi 0,vi 0,vi 0]) X1s O) ?_;rintro _ w1 ⟨E,rfl,cX,e,n⟩;have b2:=Q0 m.size cX;have u:=u.bw e;have x:=x.bw e;have m:=btr m e;refine Za O<|Zx cW fun a t _ cY=>?_;refine Ze (Xi (ps:=[]) (cs:=[vi 0,vi 0,vi 0,vi 0,vi 0]) O (fun _=>by first|rfl|kernel_rfl)) ?_;refine ZB [vi 0,vi 0,vi 0,vi 0,vi 0] X1s X09 fun b6 w3 d5 e o=>?_
 have cT:E≠b6:=by have:=n.lt;omega
 have c4:=Q0 m.size d5;have u:=u.bw e;have x:=x.bw e;have n:=n.bw e;have m:=btr m e;refine ZX cY fun a t _ d6=>?_;refine Zs t fun _ d7=>?_;refine Ze (Vd O X1v 1)<|Ze (X0 O X8 (u.at 1))<|Zm O<|Zt d7 fun a t=>?_;refine Q8<|X0d (σ:=Nat×Dy) (fun (s:Nat×Dy) (a:Act) (w:World)=>match s with|(k,sum)=>Fr a 48 [(0,vi (i:Int)),(1,vi (j:Int)),(2,(pZ9 ba)),(3,(pZ9 bb)),(6,(pZ9 E)),(8,(pZ9 b6)),(16,vi p.cols),(17,vi (k:Int))]/\((k:Int)<=p.cols)/\(dotI p q i j k=some sum)/\Blk w ba 92 [vi p.rows,vi p.cols,.slice Aa p.cells.length ca]/\Blk w bb 92 [vi q.rows,vi q.cols,.slice Ab q.cells.length cb]/\Blk w E 139 [vi 0,vi 0,vi 0,vi 0,vi 0]/\Blk w b6 139 [vi sum.num.a,vi sum.num.b,vi sum.num.c,vi sum.num.d,vi sum.exp]/\Below N.heap.size N w) (fun (s:Nat×Dy)=>match s with|(k,sum)=>(p.cols-k).toNat) (0,dZ) ?_ ?_
 ·exact ⟨t.sb,Z,O,u,x,n,o,m⟩
 rintro ⟨k,sum⟩ a w4 ⟨t,hk,hs,u,x,n,o,m⟩;refine Zs t fun _ d8=>?_;refine Ze (X16 O O)<|ZX d8 fun a t _ cA=>?_
 refine X12 t O (fun B b3=>?_) (fun B b3=>?_)
 ·have cB:(k:Int)<p.cols:=b3
  refine Q7<|cA _ _<|Q5 fun _ cC=>?_;refine Q8<|Zs t fun _ cD=>?_;refine Zm O<|Za O<|ZX cD fun a t _ cE=>?_;refine X0f (fun a w=>∃ y,Fr a 48 [(0,vi (i:Int)),(1,vi (j:Int)),(2,(pZ9 ba)),(3,(pZ9 bb)),(6,(pZ9 E)),(8,(pZ9 b6)),(10,(pZ9 y)),(11,.bool ((dMulI (p.at i k) (q.at k j)).isSome)),(16,vi p.cols),(17,vi (k:Int))]/\N.heap.size<=y/\Blk w y 139 [vi ((Za5 p q i k k j).num.a),vi ((Za5 p q i k k j).num.b),vi ((Za5 p q i k k j).num.c),vi ((Za5 p q i k k j).num.d),vi ((Za5 p q i k k j).exp)]/\E≠y/\b6≠y/\Below w4.heap.size w4 w) ?_ ?_
  ·have g:Below w4.heap.size w4 w4:=Below.refl _ _
   refine X08 none (fun j=>[13].contains j) mixed ?_;intro w5 e;have u:=u.bw e;have x:=x.bw e;have n:=n.bw e;have o:=o.bw e;have m:=btr m e;have g:=btr g e;refine Yb t<|Ye 0 O (Xx (l:=[vi p.rows,vi p.cols,.slice Aa p.cells.length ca]) O X0j (u.at 0) O)<|Yo 1 O (fun _=>X7 O)<|Yo 2 O (fun _=>X7 O)<|Ye 4 O (Xx (l:=[vi q.rows,vi q.cols,.slice Ab q.cells.length cb]) O X0j (x.at 0) O)<|Yo 5 O (fun _=>X7 O)<|Yo 6 O (fun _=>X7 O) ?_
   have f:Below w5.heap.size w5 w5:=Below.refl _ _
   refine Yc [0,1,2,3,4,5,6,7,8,9,10,11,12] 2 (fun a w=>∃ y,Fr a 48 [(0,vi (i:Int)),(1,vi (j:Int)),(2,(pZ9 ba)),(3,(pZ9 bb)),(6,(pZ9 E)),(8,(pZ9 b6)),(10,(pZ9 y)),(16,vi p.cols),(17,vi (k:Int)),(30,.agg #[vi ((Za5 p q i k k j).num.a),vi ((Za5 p q i k k j).num.b),vi ((Za5 p q i k k j).num.c),vi ((Za5 p q i k k j).num.d),vi ((Za5 p q i k k j).exp)]),(31,.bool ((dMulI (p.at i k) (q.at k j)).isSome))]/\N.heap.size<=y/\Blk w y 139 [vi 0,vi 0,vi 0,vi 0,vi 0]/\E≠y/\b6≠y/\w5.heap.size<=y/\w4.heap.size<=y/\AwayR p.cells Aa y/\AwayR q.cells Ab y/\Below w5.heap.size w5 w) ?_ ?_
   ·rintro a w6 ⟨y,t,Q,A,G,H,bC,bD,cF,cG,e⟩;clear f;have f:=e;have m:=btr m e;have g:=btr g e;refine Yb t<|Y1 13<|Yh O tv0 O (Vw [vi ((Za5 p q i k k j).num.a),vi ((Za5 p q i k k j).num.b),vi ((Za5 p q i k k j).num.c),vi ((Za5 p q i k k j).num.d),vi ((Za5 p q i k k j).exp)] X09 A) ?_;rintro _ w7 ⟨ho,hb⟩;have g:=Below.oy g ho bD;have f:=Below.oy f ho bC;have m:=Below.oy m ho Q;have A:=hb;refine Yo 14 O (fun _=>X0y O) ?_;refine Yd fun a t=>?_;exact ⟨y,t.sb,Q,A,G,H,g⟩
   intro b5;refine Yc [0,1,2,3,4,5,6,7,12] 6 (fun a w=>∃ C,Fr a 48 [(0,vi (i:Int)),(1,vi (j:Int)),(2,(pZ9 ba)),(3,(pZ9 bb)),(6,(pZ9 E)),(8,(pZ9 b6)),(10,(pZ9 C)),(16,vi p.cols),(17,vi (k:Int)),(24,.agg #[vi ((p.at i k).num.a),vi ((p.at i k).num.b),vi ((p.at i k).num.c),vi ((p.at i k).num.d),vi ((p.at i k).exp)]),(28,.agg #[vi ((q.at k j).num.a),vi ((q.at k j).num.b),vi ((q.at k j).num.c),vi ((q.at k j).num.d),vi ((q.at k j).exp)])]/\N.heap.size<=C/\Blk w C 139 [vi 0,vi 0,vi 0,vi 0,vi 0]/\E≠C/\b6≠C/\w5.heap.size<=C/\w4.heap.size<=C/\AwayR p.cells Aa C/\AwayR q.cells Ab C/\Below w5.heap.size w5 w) ?_ ?_
   ·rintro a w8 ⟨C,t,bE,aA,aB,aC,bF,bG,aD,aE,e⟩;clear f;have f:=e;have m:=btr m e;have g:=btr g e;refine Yb t<|Y1 8<|Yk O tv0 (Vc (Xvt _ (p.at i k) (q.at k j)) Xhj) (fun _ _ ⟨_,e⟩=>e) ?_;rintro _ w9 ⟨rfl,e⟩;have aA:=aA.bw e;have m:=btr m e;have g:=btr g e;have f:=btr f e;refine Yo 9 O (fun _=>X7 O)<|Yo 10 O (fun _=>X3 (vs:=[.agg #[vi ((Za5 p q i k k j).num.a),vi ((Za5 p q i k k j).num.b),vi ((Za5 p q i k k j).num.c),vi ((Za5 p q i k k j).num.d),vi ((Za5 p q i k k j).exp)],.bool ((dMulI (p.at i k) (q.at k j)).isSome)]) O O)<|Yo 11 O (fun _=>X3 (vs:=[.agg #[vi ((Za5 p q i k k j).num.a),vi ((Za5 p q i k k j).num.b),vi ((Za5 p q i k k j).num.c),vi ((Za5 p q i k k j).num.d),vi ((Za5 p q i k k j).exp)],.bool ((dMulI (p.at i k) (q.at k j)).isSome)]) O O) ?_;exact fun a t=>b5 _ a _ O ⟨C,t.sb,bE,aA,aB,aC,bF,bG,aD,aE,f⟩
   intro b7;refine Yc [0,1,2,3,4,5,6,12] 7 (fun a w=>∃ D,Fr a 48 [(0,vi (i:Int)),(1,vi (j:Int)),(2,(pZ9 ba)),(3,(pZ9 bb)),(6,(pZ9 E)),(8,(pZ9 b6)),(10,(pZ9 D)),(16,vi p.cols),(17,vi (k:Int)),(24,.agg #[vi ((p.at i k).num.a),vi ((p.at i k).num.b),vi ((p.at i k).num.c),vi ((p.at i k).num.d),vi ((p.at i k).exp)]),(25,.agg #[vi q.rows,vi q.cols,.slice Ab q.cells.length cb]),(26,vi (k:Int)),(27,vi (j:Int))]/\N.heap.size<=D/\Blk w D 139 [vi 0,vi 0,vi 0,vi 0,vi 0]/\E≠D/\b6≠D/\w5.heap.size<=D/\w4.heap.size<=D/\AwayR p.cells Aa D/\AwayR q.cells Ab D/\Below w5.heap.size w5 w) ?_ ?_
   ·rintro a dG ⟨D,t,bH,aF,aG,aH,bI,bJ,aI,aJ,e⟩;clear f;have f:=e;have m:=btr m e;have g:=btr g e;refine Yb t<|Y1 7<|Yk O tv0 (Vc (Xmh _ q Ab cb (W.bx m).top k j bZ Z hj) Xak) (fun _ _ ⟨_,e⟩=>e) ?_;rintro _ dH ⟨rfl,e⟩;have aF:=aF.bw e;have m:=btr m e;have g:=btr g e;have f:=btr f e;exact fun a t=>b7 _ a _ O ⟨D,t.sb,bH,aF,aG,aH,bI,bJ,aI,aJ,f⟩
   intro b8;refine Y2 3 12 ?_ ?_
   ·refine Yk O tv0 (Vc (Xmh _ p Aa ca (U.bx m).top i k b9 hi Z) Xak) (fun _ _ ⟨_,e⟩=>e) ?_;rintro _ dI ⟨rfl,e⟩;have n:=n.bw e;have o:=o.bw e;have m:=btr m e;have g:=btr g e;have f:=btr f e;refine Y2 7 12 ?_ ?_
    ·refine Yk O tv0 (Vc (Xmh _ q Ab cb (W.bx m).top k j bZ Z hj) Xak) (fun _ _ ⟨_,e⟩=>e) ?_;rintro _ dJ ⟨rfl,e⟩;have n:=n.bw e;have o:=o.bw e;have m:=btr m e;have g:=btr g e;have f:=btr f e;refine Y2 8 12 ?_ ?_
     ·refine Yk O tv0 (Vc (Xvt _ (p.at i k) (q.at k j)) Xhj) (fun _ _ ⟨_,e⟩=>e) ?_;rintro _ dK ⟨rfl,e⟩;have n:=n.bw e;have o:=o.bw e;have m:=btr m e;have g:=btr g e;have f:=btr f e;refine Yo 9 O (fun _=>X7 O)<|Yo 10 O (fun _=>X3 (vs:=[.agg #[vi ((Za5 p q i k k j).num.a),vi ((Za5 p q i k k j).num.b),vi ((Za5 p q i k k j).num.c),vi ((Za5 p q i k k j).num.d),vi ((Za5 p q i k k j).exp)],.bool ((dMulI (p.at i k) (q.at k j)).isSome)]) O O)<|Yo 11 O (fun _=>X3 (vs:=[.agg #[vi ((Za5 p q i k k j).num.a),vi ((Za5 p q i k k j).num.b),vi ((Za5 p q i k k j).num.c),vi ((Za5 p q i k k j).num.d),vi ((Za5 p q i k k j).exp)],.bool ((dMulI (p.at i k) (q.at k j)).isSome)]) O O)<|Y1 12 ?_;refine Yk O tv0 (Xl (zs:=[vi 0,vi 0,vi 0,vi 0,vi 0]) X1s O) (fun _ _ ⟨_,_,_,h,_⟩=>h) ?_;rintro _ dL ⟨b21,rfl,I,e,cH⟩
      have aK:E≠b21:=by have:=n.lt;omega
      have aL:b6≠b21:=by have:=o.lt;omega
      have bK:=Q0 m.size I;have bL:=Q0 g.size I;have bM:=Q0 f.size I;have aM:=(U.bx m).away I;have aN:=(W.bx m).away I;have m:=btr m e;have g:=btr g e;have f:=btr f e;exact fun a t=>b5 _ a _ O ⟨b21,t.sb,bK,cH,aK,aL,bM,bL,aM,aN,f⟩
     refine Yk O tv0 (Xl (zs:=[vi 0,vi 0,vi 0,vi 0,vi 0]) X1s O) (fun _ _ ⟨_,_,_,h,_⟩=>h) ?_;rintro _ dM ⟨b22,rfl,J,e,cI⟩
     have aO:E≠b22:=by have:=n.lt;omega
     have aP:b6≠b22:=by have:=o.lt;omega
     have bN:=Q0 m.size J;have bO:=Q0 g.size J;have bP:=Q0 f.size J;have aQ:=(U.bx m).away J;have aR:=(W.bx m).away J;have m:=btr m e;have g:=btr g e;have f:=btr f e;exact fun a t=>b7 _ a _ O ⟨b22,t.sb,bN,cI,aO,aP,bP,bO,aQ,aR,f⟩
    refine Yk O tv0 (Xl (zs:=[vi 0,vi 0,vi 0,vi 0,vi 0]) X1s O) (fun _ _ ⟨_,_,_,h,_⟩=>h) ?_;rintro _ dN ⟨b23,rfl,L,e,cJ⟩
    have aS:E≠b23:=by have:=n.lt;omega
    have aT:b6≠b23:=by have:=o.lt;omega
    have bQ:=Q0 m.size L;have bR:=Q0 g.size L;have bS:=Q0 f.size L;have aU:=(U.bx m).away L;have aV:=(W.bx m).away L;have m:=btr m e;have g:=btr g e;have f:=btr f e;exact fun a t=>b8 _ a _ O ⟨b23,t.sb,bQ,cJ,aS,aT,bS,bR,aU,aV,f⟩
   refine Yk O tv0 (Xl (zs:=[vi 0,vi 0,vi 0,vi 0,vi 0]) X1s O) (fun _ _ ⟨_,_,_,h,_⟩=>h) ?_;rintro _ dO ⟨b24,rfl,M,e,aW⟩
   have aX:E≠b24:=by have:=n.lt;omega
   have aY:b6≠b24:=by have:=o.lt;omega
   have bU:=Q0 m.size M;have bW:=Q0 g.size M;have bX:=Q0 f.size M;have aZ:=(U.bx m).away M;have b0:=(W.bx m).away M;have m:=btr m e;have g:=btr g e;have f:=btr f e;refine Y1 3<|Yk O tv0 (Vc (Xmh _ p Aa ca (U.bx m).top i k b9 hi Z) Xak) (fun _ _ ⟨_,e⟩=>e) ?_;rintro _ dP ⟨rfl,e⟩;have aW:=aW.bw e;have m:=btr m e;have g:=btr g e;have f:=btr f e;exact fun a t=>b8 _ a _ O ⟨b24,t.sb,bU,aW,aX,aY,bX,bW,aZ,b0,f⟩
  rintro a dQ ⟨y,t,Q,A,G,H,e⟩;have u:=u.bw e;have x:=x.bw e;have n:=n.bw e;have o:=o.bw e;have m:=btr m e;refine cE _ _<|Zs t fun _ cK=>?_;refine Ze (Vn Xr o)<|Ze (Vn Xr A)<|Zf (Vc (Y2f _ sum (Za5 p q i k k j)) Xxp) ?_;rintro _ dR ⟨rfl,e⟩;have u:=u.bw e;have x:=x.bw e;have n:=n.bw e;have o:=o.bw e;have A:=A.bw e;have m:=btr m e;refine Zm O<|Ze (X3 (vs:=[.agg #[vi (((dAddI sum (Za5 p q i k k j)).getD dZ).num.a),vi (((dAddI sum (Za5 p q i k k j)).getD dZ).num.b),vi (((dAddI sum (Za5 p q i k k j)).getD dZ).num.c),vi (((dAddI sum (Za5 p q i k k j)).getD dZ).num.d),vi (((dAddI sum (Za5 p q i k k j)).getD dZ).exp)],.bool ((dAddI sum (Za5 p q i k k j)).isSome)]) O O)<|Ze (X3 (vs:=[.agg #[vi (((dAddI sum (Za5 p q i k k j)).getD dZ).num.a),vi (((dAddI sum (Za5 p q i k k j)).getD dZ).num.b),vi (((dAddI sum (Za5 p q i k k j)).getD dZ).num.c),vi (((dAddI sum (Za5 p q i k k j)).getD dZ).num.d),vi (((dAddI sum (Za5 p q i k k j)).getD dZ).exp)],.bool ((dAddI sum (Za5 p q i k k j)).isSome)]) O O) ?_;refine ZB [vi (((dAddI sum (Za5 p q i k k j)).getD dZ).num.a),vi (((dAddI sum (Za5 p q i k k j)).getD dZ).num.b),vi (((dAddI sum (Za5 p q i k k j)).getD dZ).num.c),vi (((dAddI sum (Za5 p q i k k j)).getD dZ).num.d),vi (((dAddI sum (Za5 p q i k k j)).getD dZ).exp)] X1s X09 fun b26 d9 cL e cM=>?_
  have cN:E≠b26:=by have:=n.lt;omega
  have cO:b6≠b26:=by have:=o.lt;omega
  have bY:y≠b26:=by have:=A.lt;omega
  have dA:=Q0 m.size cL;have u:=u.bw e;have x:=x.bw e;have n:=n.bw e;have o:=o.bw e;have m:=btr m e;refine Za O<|ZX cK fun a t _ cP=>?_;refine Q5 fun _ cQ=>?_;refine X0f (fun a w=>Fr a 48 [(0,vi (i:Int)),(1,vi (j:Int)),(2,(pZ9 ba)),(3,(pZ9 bb)),(6,(pZ9 E)),(8,(pZ9 b6)),(12,(pZ9 b26)),(16,vi p.cols),(17,vi (k:Int)),(43,.bool ((!((dMulI (p.at i k) (q.at k j)).isSome))||(!((dAddI sum (Za5 p q i k k j)).isSome))))]/\d9=w) ?_ ?_
  ·refine Zr t<|Zm O<|Ze (X0x O)<|Zm O ?_
   refine Zg 40 O (fun z=>?_) (fun z=>?_)
   ·(iterate 2 refine Zp (gP z) ?_);refine Ze (Xf O z O) ?_;refine Zn fun a t=>?_;exact ⟨t.sub ⟨O,O,O,O,O,O,O,O,O,X1 O (by first|rfl|(simp only [B,z,bs];done)|simp [B,z]),trivial⟩,O⟩
   refine Zv (gW z) (X7 O) ?_;refine Zv (gW z) (X0x O) ?_;refine Ze (Xb O z O) ?_;refine Zn fun a t=>?_;exact ⟨t.sub ⟨O,O,O,O,O,O,O,O,O,X1 O (by first|rfl|(simp only [B,z,bs];done)|simp [B,z]),trivial⟩,O⟩
  rintro a _ ⟨t,rfl⟩;refine cQ _ _ ?_
  refine X04 t O (fun b1=>?_) (fun b1=>?_)
  ·have hn:=X66 b1
   have dB:dotI p q i j (k+1)=none:=by rw [dotI,hs];simp only [Qz];revert hn;unfold Za5;cases dMulI (p.at i k) (q.at k j)<;>simp
   have dC:=Xby dB p.cols.toNat Z
   refine Zs t fun _ cR=>?_;refine Ze (Xi (ps:=[]) (cs:=[vi 0,vi 0,vi 0,vi 0,vi 0]) O (fun _=>by first|rfl|kernel_rfl))<|Zo (Vw [vi 0,vi 0,vi 0,vi 0,vi 0] X09 n) ?_;rintro _ dS ⟨ho,hb⟩;have m:=Below.oy m ho b2;have n:=hb;refine Za O<|Zt cR fun a t=>?_;refine Q6<|X5<|Xo<|X5 ?_;refine X5<|Xo<|X5<|X4 t (X0q t O (ResV.cellN (l:=[vi 0,vi 0,vi 0,vi 0,vi 0]) O Xr (n.at 0) O) O) ?_;exact ⟨by rw [dC];rfl,m⟩
  have hy:=X7k b1;refine Q7<|cP _ _<|Zr t<|Ze (Vn Xr cM)<|Zo (Vw [vi (((dAddI sum (Za5 p q i k k j)).getD dZ).num.a),vi (((dAddI sum (Za5 p q i k k j)).getD dZ).num.b),vi (((dAddI sum (Za5 p q i k k j)).getD dZ).num.c),vi (((dAddI sum (Za5 p q i k k j)).getD dZ).num.d),vi (((dAddI sum (Za5 p q i k k j)).getD dZ).exp)] X09 o) ?_;rintro _ dT ⟨ho,hb⟩;have u:=u.oz ho o O;have x:=x.oz ho o O;have n:=n.oy ho Z;have m:=Below.oy m ho c4;have o:=hb;refine Zn fun a t=>?_;refine Xn<|cC _ _<|Zr t<|Ze (X03 O O Z Z)<|Zm O ?_;refine Zn fun a t=>?_;refine Xd ?_;exact ⟨(k+1,((dAddI sum (Za5 p q i k k j)).getD dZ)),⟨t.sb,Z,(by rw [dotI,hs];simp only [Qz];revert hy;unfold Za5;cases dMulI (p.at i k) (q.at k j)<;>simp;intro hy;revert hy;cases dAddI sum _<;>simp),u,x,n,o,m⟩,O1⟩
 have cB:k=p.cols.toNat:=by omega
 refine Q9<|Xm<|Xm<|X0a ?_;refine d6 _ _<|Zs t fun _ cS=>?_;refine Ze (Vn Xr o)<|Zo (Vw [vi sum.num.a,vi sum.num.b,vi sum.num.c,vi sum.num.d,vi sum.exp] X09 n) ?_;rintro _ dU ⟨ho,hb⟩;have m:=Below.oy m ho b2;have n:=hb;refine Za O<|Zt cS fun a t=>?_
 refine Q6 (X4 t (X0q t O (ResV.cellN (l:=[vi sum.num.a,vi sum.num.b,vi sum.num.c,vi sum.num.d,vi sum.exp]) O Xr (n.at 0) O) O) ?_)
 exact ⟨by rw [<- cB,hs];rfl,m⟩
theorem Xzf(z:World)(p:Mx)(Ap:Option Addr)(cp:Nat)(h:Rd z z.heap.size 139 encD Ap p.cells)(q:Mx)(Aq:Option Addr)(cq:Nat)(B:Rd z z.heap.size 139 encD Aq q.cells)(aH:p.cells.length<=2305843009213693951)(aI:q.cells.length<=2305843009213693951) : Ret Tryz.prog 89 [.agg #[vi p.rows,vi p.cols,.slice Ap p.cells.length cp],.agg #[vi q.rows,vi q.cols,.slice Aq q.cells.length cq]] z (fun v w=>∃ A c,v=.tuple #[mV A c ((mulI p q).getD mZ),.bool (mulI p q).isSome]/\Own w z.heap.size 139 5 encD A c ((mulI p q).getD mZ).cells/\Below z.heap.size z w):=by
 refine enter Tryz.func89 O 30 O O ?_;intro a n
 have f:=bz z
 refine Zs n fun _ aJ=>?_;refine Zf (X0m (zs:=[vi p.rows,vi p.cols,.slice Ap p.cells.length cp]) O O) ?_;rintro _ w1 ⟨b4,rfl,aK,k,e⟩;have aQ:=Q0 f.size aK;have f:=btr f k;refine Zf (X0m (zs:=[vi q.rows,vi q.cols,.slice Aq q.cells.length cq]) O O) ?_;rintro _ w2 ⟨b5,rfl,aL,k,g⟩
 have aE:b4≠b5:=by have:=e.lt;omega
 have aR:=Q0 f.size aL;have e:=e.bw k;have f:=btr f k;refine Zf (Xl (zs:=[vi 0,vi 0,.slice none 0 0]) X1r O) ?_;rintro _ w3 ⟨b7,rfl,aM,k,m⟩
 have aF:b4≠b7:=by have:=e.lt;omega
 have aG:b5≠b7:=by have:=g.lt;omega
 have C:=Q0 f.size aM;have e:=e.bw k;have g:=g.bw k;have f:=btr f k;refine Za O<|ZX aJ fun a n _ aN=>?_;refine Q5 fun _ aO=>?_;refine X0f (fun a w=>Fr a 30 [(2,(pZ9 b4)),(3,(pZ9 b5)),(4,(pZ9 b7)),(20,.bool (((!(mOk p))||(!(mOk q)))||(p.cols != q.rows)))]/\Below w3.heap.size w3 w) ?_ ?_
 ·have u:Below w3.heap.size w3 w3:=Below.refl _ _
  refine Zr n<|Ze (Vn X0j e)<|Zf (Vc (Xl1 _ p Ap cp (h.bx f).top aH) X87) ?_;rintro _ w4 ⟨rfl,k⟩;have e:=e.bw k;have g:=g.bw k;have f:=btr f k;have u:=btr u k;refine Ze (X0x O)<|Zm O ?_
  refine Zg 9 O (fun d=>?_) (fun d=>?_)
  ·(iterate 3 refine Zp (gP d) ?_);refine Ze (Xf O d O)<|Zm O<|Zp (gP O) ?_;(iterate 4 refine Zp (gP O) ?_);refine Ze (Xf O O O) ?_;refine Zn fun a n=>?_;exact ⟨n.sub ⟨O,O,O,X1 O (by first|rfl|(simp only [d,bs];done)|simp [d]),trivial⟩,u⟩
  refine Zv (gW d) (Vn X0j g) ?_;refine Zk (gW d) (Vc (Xl1 _ q Aq cq (B.bx f).top aI) X87) ?_;rintro _ w5 ⟨rfl,k⟩;have e:=e.bw k;have g:=g.bw k;have f:=btr f k;have u:=btr u k;refine Zv (gW d) (X0x O) ?_;refine Ze (Xb O d O)<|Zm O ?_
  refine Zg 14 O (fun b=>?_) (fun b=>?_)
  ·(iterate 5 refine Zp (gP b) ?_);refine Ze (Xf O b O) ?_;refine Zn fun a n=>?_;exact ⟨n.sub ⟨O,O,O,X1 O (by first|rfl|(simp only [d,b,bs];done)|simp [d,b]),trivial⟩,u⟩
  refine Zv (gW b) (Vd O X1v 1) ?_;refine Zv (gW b) (X0 O X8 (e.at 1)) ?_;refine Zv (gW b) (Vd O X22 0) ?_;refine Zv (gW b) (X0 O X8 (g.at 0)) ?_;refine Zv (gW b) (X47 O O) ?_;refine Ze (Xb O b O) ?_;refine Zn fun a n=>?_;exact ⟨n.sub ⟨O,O,O,X1 O (by first|rfl|(simp only [d,b,bs];done)|simp [d,b]),trivial⟩,u⟩
 rintro a w6 ⟨n,k⟩;have e:=e.bw k;have g:=g.bw k;have m:=m.bw k;have f:=btr f k;refine aO _ _ ?_
 refine X04 n O (fun o=>?_) (fun o=>?_)
 ·have aA:=o
  have hn:(mOk p&&mOk q&&p.cols==q.rows)=false:=by revert o;cases mOk p<;>cases mOk q<;>simp
  refine Zs n fun _ aC=>?_;refine Ze (Xi (ps:=[]) (cs:=[vi 0,vi 0,.slice none 0 0]) O (fun _=>by first|rfl|kernel_rfl))<|Zo (Vw [vi 0,vi 0,.slice none 0 0] X19 m) ?_;rintro _ w7 ⟨ho,hb⟩;have f:=Below.oy f ho C;have m:=hb;refine Za O<|Zt aC fun a n=>?_;refine Q6<|X5<|X4 n (X0q n O (ResV.cellN (l:=[vi 0,vi 0,.slice none 0 0]) O X0j (m.at 0) O) O) ?_;exact ⟨none,0,by rw [mulI,hn];rfl,by rw [mulI,hn];exact (Own.nil _ _ _ _ _),f⟩
 have aA:=o
 have hy:(mOk p&&mOk q&&p.cols==q.rows)=true:=by revert o;cases mOk p<;>cases mOk q<;>simp
 have aB:=Y0v hy
 have aP:p.cols=q.rows:=by simpa using aB.2.2
 refine Q7<|aN _ _<|Zs n fun _ aD=>?_;refine Ze (Vd O X22 0)<|Ze (X0 O X8 (e.at 0))<|Ze (Vd O X1v 1)<|Ze (X0 O X8 (g.at 1))<|Ze (X33 (vs:=[(pZ9 b4),(pZ9 b5)]) O)<|Zf (Vc (Xqz _ p.rows q.cols 134 [(pZ9 b4),(pZ9 b5)] Xxo (fun i j=>dotI p q i j p.cols.toNat) (fun i j w' hi hj hE'=>Y2e w' p q _ _ _ _ _ _ ((h.bx f).bw hE').top ((B.bx f).bw hE').top (e.bw hE') (g.bw hE') aB.1 aB.2.1 aP i j hi hj)) Xdn) ?_;rintro _ w8 ⟨x,y,rfl,t,k⟩;have t:=t.lower f.size;have m:=m.bw k;have f:=btr f k;refine Ze (X3 (vs:=[.agg #[vi (((matOf p.rows q.cols (fun i j=>dotI p q i j p.cols.toNat)).getD mZ).rows),vi (((matOf p.rows q.cols (fun i j=>dotI p q i j p.cols.toNat)).getD mZ).cols),.slice x (((matOf p.rows q.cols (fun i j=>dotI p q i j p.cols.toNat)).getD mZ).cells).length y],.bool ((matOf p.rows q.cols (fun i j=>dotI p q i j p.cols.toNat)).isSome)]) O O)<|Ze (X3 (vs:=[.agg #[vi (((matOf p.rows q.cols (fun i j=>dotI p q i j p.cols.toNat)).getD mZ).rows),vi (((matOf p.rows q.cols (fun i j=>dotI p q i j p.cols.toNat)).getD mZ).cols),.slice x (((matOf p.rows q.cols (fun i j=>dotI p q i j p.cols.toNat)).getD mZ).cells).length y],.bool ((matOf p.rows q.cols (fun i j=>dotI p q i j p.cols.toNat)).isSome)]) O O)<|Zo (Vw [vi (((matOf p.rows q.cols (fun i j=>dotI p q i j p.cols.toNat)).getD mZ).rows),vi (((matOf p.rows q.cols (fun i j=>dotI p q i j p.cols.toNat)).getD mZ).cols),.slice x (((matOf p.rows q.cols (fun i j=>dotI p q i j p.cols.toNat)).getD mZ).cells).length y] X19 m) ?_;rintro _ w9 ⟨ho,hb⟩;have t:=t.oT ho m O;have f:=Below.oy f ho C;have m:=hb;refine Za O<|Zt aD fun a n=>?_
 refine Q6 (X4 n (X0q n O (ResV.cellN (l:=[vi (((matOf p.rows q.cols (fun i j=>dotI p q i j p.cols.toNat)).getD mZ).rows),vi (((matOf p.rows q.cols (fun i j=>dotI p q i j p.cols.toNat)).getD mZ).cols),.slice x (((matOf p.rows q.cols (fun i j=>dotI p q i j p.cols.toNat)).getD mZ).cells).length y]) O X0j (m.at 0) O) O) ?_)
 exact ⟨x,y,by rw [mulI,Q4 hy],by rw [mulI,Q4 hy];exact t,f⟩
theorem Y23(n:World)(p:Mx)(x:Dy)(Aa:Option Addr)(ca:Nat)(ba bb:Nat)(aC:Rd n n.heap.size 139 encD Aa p.cells)(k:Blk n ba 92 [vi p.rows,vi p.cols,.slice Aa p.cells.length ca])(g:Blk n bb 139 (encD x))(aD:mOk p=true)(i j:Nat)(hi:(i:Int)<p.rows)(hj:(j:Int)<p.cols) : Ret Tryz.prog 176 [vi (i:Int),vi (j:Int),(pZ9 ba),(pZ9 bb)] n (fun v w=>v=.tuple #[dV ((dMulI (p.at i j) x).getD dZ),.bool (dMulI (p.at i j) x).isSome]/\Below n.heap.size n w):=by
 have aE:=k.lt;have aF:=g.lt
 unfold encD at g
 refine enter Tryz.func176 O 16 O O ?_;intro a hf
 have m:=bz n
 refine Zs hf fun _ aG=>?_;refine Zf (Xl (zs:=[vi 0,vi 0,vi 0,vi 0,vi 0]) X1s O) ?_;rintro _ w1 ⟨b3,rfl,aH,f,e⟩
 have aB:bb≠b3:=by have:=g.lt;omega
 have aA:=Q0 m.size aH;have k:=k.bw f;have g:=g.bw f;have m:=btr m f;refine Za O<|ZX aG fun a hf _ aI=>?_;refine X08 none (fun j=>[8].contains j) mixed ?_;intro w2 f;have k:=k.bw f;have g:=g.bw f;have e:=e.bw f;have m:=btr m f;refine Yb hf<|Ye 0 O (Xx (l:=[vi p.rows,vi p.cols,.slice Aa p.cells.length ca]) O X0j (k.at 0) O)<|Yo 1 O (fun _=>X7 O)<|Yo 2 O (fun _=>X7 O)<|Ye 4 O (Xx (l:=[vi x.num.a,vi x.num.b,vi x.num.c,vi x.num.d,vi x.exp]) O Xr (g.at 0) O)<|Y1 3 ?_;refine Yk O tv0 (Vc (Xmh _ p Aa ca (aC.bx m).top i j aD hi hj) Xak) (fun _ _ ⟨_,f⟩=>f) ?_;rintro _ w3 ⟨rfl,f⟩;have e:=e.bw f;have m:=btr m f;refine Y1 5<|Yk O tv0 (Vc (Xvt _ (p.at i j) x) Xhj) (fun _ _ ⟨_,f⟩=>f) ?_;rintro _ w4 ⟨rfl,f⟩;have e:=e.bw f;have m:=btr m f;refine Yo 6 O (fun _=>X3 (vs:=[.agg #[vi (((dMulI (p.at i j) x).getD dZ).num.a),vi (((dMulI (p.at i j) x).getD dZ).num.b),vi (((dMulI (p.at i j) x).getD dZ).num.c),vi (((dMulI (p.at i j) x).getD dZ).num.d),vi (((dMulI (p.at i j) x).getD dZ).exp)],.bool ((dMulI (p.at i j) x).isSome)]) O O)<|Yo 7 O (fun _=>X3 (vs:=[.agg #[vi (((dMulI (p.at i j) x).getD dZ).num.a),vi (((dMulI (p.at i j) x).getD dZ).num.b),vi (((dMulI (p.at i j) x).getD dZ).num.c),vi (((dMulI (p.at i j) x).getD dZ).num.d),vi (((dMulI (p.at i j) x).getD dZ).exp)],.bool ((dMulI (p.at i j) x).isSome)]) O O)<|Y1 8 ?_;refine Yh O tv0 O (Vw [vi (((dMulI (p.at i j) x).getD dZ).num.a),vi (((dMulI (p.at i j) x).getD dZ).num.b),vi (((dMulI (p.at i j) x).getD dZ).num.c),vi (((dMulI (p.at i j) x).getD dZ).num.d),vi (((dMulI (p.at i j) x).getD dZ).exp)] X09 e) ?_;rintro _ w5 ⟨ho,hb⟩;have m:=Below.oy m ho aA
 have e:=hb;refine Yo 9 O (fun _=>X0y O) ?_;refine Yd fun a hf=>?_;refine aI _ _ ?_
 refine Q6 (X4 hf (X0q hf O (ResV.cellN (l:=[vi (((dMulI (p.at i j) x).getD dZ).num.a),vi (((dMulI (p.at i j) x).getD dZ).num.b),vi (((dMulI (p.at i j) x).getD dZ).num.c),vi (((dMulI (p.at i j) x).getD dZ).num.d),vi (((dMulI (p.at i j) x).getD dZ).exp)]) O Xr (e.at 0) O) O) ?_)
 exact ⟨O,m⟩
theorem Xqy(w0:World)(p:Mx)(Ap:Option Addr)(cp:Nat)(h:Rd w0 w0.heap.size 139 encD Ap p.cells)(x:Dy)(aF:p.cells.length<=2305843009213693951) : Ret Tryz.prog 122 [.agg #[vi p.rows,vi p.cols,.slice Ap p.cells.length cp],.agg #[vi x.num.a,vi x.num.b,vi x.num.c,vi x.num.d,vi x.exp]] w0 (fun v w=>∃ A c,v=.tuple #[mV A c ((scaleI p x).getD mZ),.bool (scaleI p x).isSome]/\Own w w0.heap.size 139 5 encD A c ((scaleI p x).getD mZ).cells/\Below w0.heap.size w0 w):=by
 refine enter Tryz.func122 O 23 O O ?_;intro a q
 have f:=bz w0
 refine Zs q fun _ aG=>?_;refine Zf (X0m (zs:=[vi p.rows,vi p.cols,.slice Ap p.cells.length cp]) O O) ?_;rintro _ w1 ⟨b3,rfl,aH,g,k⟩;have aN:=Q0 f.size aH;have f:=btr f g;refine Zf (X0m (zs:=[vi x.num.a,vi x.num.b,vi x.num.c,vi x.num.d,vi x.exp]) O O) ?_;rintro _ w2 ⟨b4,rfl,aI,g,o⟩;have aO:=Q0 f.size aI;have k:=k.bw g;have f:=btr f g;refine Zf (Xl (zs:=[vi 0,vi 0,.slice none 0 0]) X1r O) ?_;rintro _ w3 ⟨b6,rfl,aJ,g,m⟩
 have aE:b3≠b6:=by have:=k.lt;omega
 have B:=Q0 f.size aJ;have k:=k.bw g;have o:=o.bw g;have f:=btr f g;refine Za O<|ZX aG fun a q _ aK=>?_;refine Q5 fun _ aL=>?_;refine X0f (fun a w=>Fr a 23 [(2,(pZ9 b3)),(3,(pZ9 b4)),(4,(pZ9 b6)),(13,.bool ((!(mOk p))||(!(dOk x))))]/\Below w3.heap.size w3 w) ?_ ?_
 ·have u:Below w3.heap.size w3 w3:=Below.refl _ _
  refine Zr q<|Ze (Vn X0j k)<|Zf (Vc (Xl1 _ p Ap cp (h.bx f).top aF) X87) ?_;rintro _ w4 ⟨rfl,g⟩;have o:=o.bw g;have f:=btr f g;have u:=btr u g;refine Ze (X0x O)<|Zm O ?_
  refine Zg 9 O (fun e=>?_) (fun e=>?_)
  ·(iterate 3 refine Zp (gP e) ?_);refine Ze (Xf O e O) ?_;refine Zn fun a q=>?_;exact ⟨q.sub ⟨O,O,O,X1 O (by first|rfl|(simp only [e,bs];done)|simp [e]),trivial⟩,u⟩
  refine Zv (gW e) (Vn Xr o) ?_;refine Zk (gW e) (Vc (Xgy _ x) X6s) ?_;rintro _ w5 ⟨rfl,g⟩;have f:=btr f g;have u:=btr u g;refine Zv (gW e) (X0x O) ?_;refine Ze (Xb O e O) ?_;refine Zn fun a q=>?_;exact ⟨q.sub ⟨O,O,O,X1 O (by first|rfl|(simp only [e,bs];done)|simp [e]),trivial⟩,u⟩
 rintro a w6 ⟨q,g⟩;have k:=k.bw g;have o:=o.bw g;have m:=m.bw g;have f:=btr f g;refine aL _ _ ?_
 refine X04 q O (fun t=>?_) (fun t=>?_)
 ·have aA:=t
  have hn:(mOk p&&dOk x)=false:=by revert t;cases mOk p<;>cases dOk x<;>simp
  refine Zs q fun _ aB=>?_;refine Ze (Xi (ps:=[]) (cs:=[vi 0,vi 0,.slice none 0 0]) O (fun _=>by first|rfl|kernel_rfl))<|Zo (Vw [vi 0,vi 0,.slice none 0 0] X19 m) ?_;rintro _ w7 ⟨ho,hb⟩;have f:=Below.oy f ho B;have m:=hb;refine Za O<|Zt aB fun a q=>?_;refine Q6<|X5<|X4 q (X0q q O (ResV.cellN (l:=[vi 0,vi 0,.slice none 0 0]) O X0j (m.at 0) O) O) ?_;exact ⟨none,0,by rw [scaleI,hn];rfl,by rw [scaleI,hn];exact (Own.nil _ _ _ _ _),f⟩
 have aA:=t
 have hy:(mOk p&&dOk x)=true:=by revert t;cases mOk p<;>cases dOk x<;>simp
 have aM:=(Qd _ _▸hy:mOk p=true/\dOk x=true);refine Q7<|aK _ _<|Zs q fun _ aC=>?_;refine Ze (Vd O X22 0)<|Ze (X0 O X8 (k.at 0))<|Ze (Vd O X1v 1)<|Ze (X0 O X8 (k.at 1))<|Ze (X33 (vs:=[(pZ9 b3),(pZ9 b4)]) O)<|Zf (Vc (Xqz _ p.rows p.cols 176 [(pZ9 b3),(pZ9 b4)] Xxd (fun i j=>dMulI (p.at i j) x) (fun i j w' hi hj hE'=>Y23 w' p x _ _ _ _ ((h.bx f).bw hE').top (k.bw hE') (o.bw hE') aM.1 i j hi hj)) Xdn) ?_;rintro _ w8 ⟨y,z,rfl,n,g⟩;have aD:=n.awayNew o.lt;have n:=n.lower f.size;have m:=m.bw g;have f:=btr f g;refine Ze (X3 (vs:=[.agg #[vi (((matOf p.rows p.cols (fun i j=>dMulI (p.at i j) x)).getD mZ).rows),vi (((matOf p.rows p.cols (fun i j=>dMulI (p.at i j) x)).getD mZ).cols),.slice y (((matOf p.rows p.cols (fun i j=>dMulI (p.at i j) x)).getD mZ).cells).length z],.bool ((matOf p.rows p.cols (fun i j=>dMulI (p.at i j) x)).isSome)]) O O)<|Ze (X3 (vs:=[.agg #[vi (((matOf p.rows p.cols (fun i j=>dMulI (p.at i j) x)).getD mZ).rows),vi (((matOf p.rows p.cols (fun i j=>dMulI (p.at i j) x)).getD mZ).cols),.slice y (((matOf p.rows p.cols (fun i j=>dMulI (p.at i j) x)).getD mZ).cells).length z],.bool ((matOf p.rows p.cols (fun i j=>dMulI (p.at i j) x)).isSome)]) O O)<|Zo (Vw [vi (((matOf p.rows p.cols (fun i j=>dMulI (p.at i j) x)).getD mZ).rows),vi (((matOf p.rows p.cols (fun i j=>dMulI (p.at i j) x)).getD mZ).cols),.slice y (((matOf p.rows p.cols (fun i j=>dMulI (p.at i j) x)).getD mZ).cells).length z] X19 m) ?_;rintro _ w9 ⟨ho,hb⟩;have n:=n.oT ho m O;have f:=Below.oy f ho B;have m:=hb;refine Za O<|Zt aC fun a q=>?_
 refine Q6 (X4 q (X0q q O (ResV.cellN (l:=[vi (((matOf p.rows p.cols (fun i j=>dMulI (p.at i j) x)).getD mZ).rows),vi (((matOf p.rows p.cols (fun i j=>dMulI (p.at i j) x)).getD mZ).cols),.slice y (((matOf p.rows p.cols (fun i j=>dMulI (p.at i j) x)).getD mZ).cells).length z]) O X0j (m.at 0) O) O) ?_)
 exact ⟨y,z,by rw [scaleI,Q4 hy],by rw [scaleI,Q4 hy];exact n,f⟩
theorem Y24(n:World)(Ap:Option Addr)(cp:Nat)(p:List Dy)(aF:Rd n n.heap.size 139 encD Ap p)(Aq:Option Addr)(cq:Nat)(q:List Dy)(aG:Rd n n.heap.size 139 encD Aq q)(aX:p.length<=2305843009213693951) : Ret Tryz.prog 177 [.slice Ap p.length cp,.slice Aq q.length cq] n (fun v w=>v=.bool (decide (p=q))/\Below n.heap.size n w):=by
 refine enter Tryz.func177 O 26 O O ?_;intro a e
 have o:=bz n
 refine Zs e fun _ aP=>?_;refine Za O<|ZX aP fun a e _ aQ=>?_;refine Zs e fun _ aR=>?_;refine Zm O<|Ze (X0o O X1h)<|Zm O<|Ze (X0o O X1h)<|Ze (X47 O O)<|Zt aR fun a e=>?_
 refine X04 e O (fun i=>?_) (fun i=>?_)
 ·have aW:=i
  have aA:¬ p=q:=by intro h9;rw [h9] at i;simp at i
  refine Zs e fun _ aS=>?_;refine Za O<|Zt aS fun a e=>?_;refine Q6<|X5<|X4 e (Xv e O O) ?_;exact ⟨by simp [aA],o⟩
 have aY:p.length=q.length:=by have h9:(p.length:Int)=q.length:=(by simpa using i);omega
 refine Q7<|aQ _ _<|Q5 fun _ aT=>?_;refine Zs e fun _ aU=>?_;refine Zm O<|Ze (X0o O X1h)<|Zm O<|Zt aU fun a e=>?_;refine Q8<|X0d (σ:=Nat) (fun (k:Nat) (a:Act) (w:World)=>Fr a 26 [(0,.slice Ap p.length cp),(1,.slice Aq q.length cq),(12,vi (p.length:Int)),(13,vi (k:Int))]/\(k<=p.length)/\(p.take k=q.take k)/\Below n.heap.size n w) (fun (k:Nat)=>p.length-k) 0 ?_ ?_
 ·exact ⟨e.sb,(Qf _),O5,o⟩
 rintro k a w1 ⟨e,hk,j,o⟩;refine Zs e fun _ aH=>?_;refine Ze (X16 O O)<|ZX aH fun a e _ aI=>?_
 refine X12 e O (fun aB aJ=>?_) (fun aB aJ=>?_)
 ·obtain ⟨f,m⟩:=Xj (l:=p) (k:=k) Z
  obtain ⟨v9,t⟩:=Xj (l:=q) (k:=k) Z
  refine Q7<|aI _ _<|Q5 fun _ aK=>?_;refine Q8<|Zs e fun _ aL=>?_;refine Zm O<|Za O<|ZX aL fun a e _ aM=>?_;refine X08 none (fun _=>false) mixed ?_;intro w2 hE;have o:=btr o hE;refine Yb e<|Yo 0 O (fun _=>X7 O)<|Yo 1 O (fun _=>X7 O)<|Yi (k:=k) (u:=f) (enc:=encD) (l:=p) 2 O tv0 O O X1h X09 X1e (aF.bx o) m O ?_;intro aZ aC;refine Ye 3 O (Xx (l:=[vi f.num.a,vi f.num.b,vi f.num.c,vi f.num.d,vi f.exp]) O Xr aC O)<|Yo 4 O (fun _=>X7 O)<|Yo 5 O (fun _=>X7 O)<|Yi (k:=k) (u:=v9) (enc:=encD) (l:=q) 6 O tv0 O O X1h X09 X1e (aG.bx o) t O ?_;intro b0 aD;refine Ye 7 O (Xx (l:=[vi v9.num.a,vi v9.num.b,vi v9.num.c,vi v9.num.d,vi v9.exp]) O Xr aD O)<|Yo 8 O (fun _=>Xf6 O O Xho (fun w=>eqD 9997 f v9 w)) ?_;refine Yd fun a e=>?_;refine aM _ _ ?_
  refine X04 e O (fun g=>?_) (fun g=>?_)
  ·have aE:=g
   have aA:¬ p=q:=by rintro rfl;rw [m] at t;injection t with e9;revert g;simp [e9]
   refine Zs e fun _ aN=>?_;refine Za O<|Zt aN fun a e=>?_;refine Q6<|Xo<|X5<|X5 ?_;refine Xo<|X5<|X4 e (Xv e O O) ?_;exact ⟨by simp [aA],o⟩
  have aE:=g
  have aV:f=v9:=by revert g;simp
  refine Q7<|Xn<|aK _ _<|Zr e ?_;refine Ze (X03 O O Z Z)<|Zm O ?_;refine Zn fun a e=>?_;refine Xd ?_;exact ⟨k+1,⟨e.sb,Z,(X9x j m t aV),o⟩,Z⟩
 refine Q9<|Xm<|Xm<|X0a ?_;refine aT _ _<|Zs e fun _ aO=>?_;refine Za O<|Zt aO fun a e=>?_
 refine Q6 (X4 e (Xv e O O) ?_)
 have he:p=q:=by rw [Qi Z,Qi Z] at j;exact j
 exact ⟨by simp [he],o⟩
theorem Y1u(j:World)(p:Mx)(Ap:Option Addr)(cp:Nat)(aB:Rd j j.heap.size 139 encD Ap p.cells)(q:Mx)(Aq:Option Addr)(cq:Nat)(aC:Rd j j.heap.size 139 encD Aq q.cells)(aK:p.cells.length<=2305843009213693951) : Ret Tryz.prog 124 [.agg #[vi p.rows,vi p.cols,.slice Ap p.cells.length cp],.agg #[vi q.rows,vi q.cols,.slice Aq q.cells.length cq]] j (fun v w=>v=.bool (decide (p.rows=q.rows)&&decide (p.cols=q.cols)&&decide (p.cells=q.cells))/\Below j.heap.size j w):=by
 refine enter Tryz.func124 O 24 O O ?_;intro a f
 have d:=bz j
 refine Zs f fun _ aE=>?_;refine Zf (X0m (zs:=[vi p.rows,vi p.cols,.slice Ap p.cells.length cp]) O O) ?_;rintro _ w1 ⟨b4,rfl,aF,i,e⟩;have aI:=Q0 d.size aF;have d:=btr d i;refine Zf (X0m (zs:=[vi q.rows,vi q.cols,.slice Aq q.cells.length cq]) O O) ?_;rintro _ w2 ⟨b5,rfl,aG,i,aA⟩
 have aD:b4≠b5:=by have:=e.lt;omega
 have aJ:=Q0 d.size aG;have e:=e.bw i;have d:=btr d i;refine Za O<|ZX aE fun a f _ aH=>?_;refine X0f (fun a w=>Fr a 24 [(4,.bool (((p.rows==q.rows)&&(p.cols==q.cols))&&(decide (p.cells=q.cells))))]/\Below w2.heap.size w2 w) ?_ ?_
 ·have g:Below w2.heap.size w2 w2:=Below.refl _ _
  refine Zr f<|Ze (Vd O X22 0)<|Ze (X0 O X8 (e.at 0))<|Ze (Vd O X22 0)<|Ze (X0 O X8 (aA.at 0))<|Ze (X13 O O)<|Zm O ?_
  refine Zg 10 O (fun b=>?_) (fun b=>?_)
  ·refine Zv (gW b) (Vd O X1v 1) ?_;refine Zv (gW b) (X0 O X8 (e.at 1)) ?_;refine Zv (gW b) (Vd O X1v 1) ?_;refine Zv (gW b) (X0 O X8 (aA.at 1)) ?_;refine Zv (gW b) (X13 O O) ?_;refine Ze (Xf O b O)<|Zm O ?_
   refine Zg 17 O (fun c=>?_) (fun c=>?_)
   ·refine Zv (gW c) (Vd O X1l 2) ?_;refine Zv (gW c) (X0 O X2f (e.at 2)) ?_;refine Zv (gW c) (Vd O X1l 2) ?_;refine Zv (gW c) (X0 O X2f (aA.at 2)) ?_;refine Zk (gW c) (Vc (Y24 _ Ap cp p.cells (aB.bx d).top Aq cq q.cells (aC.bx d).top O6) Xxe) ?_;rintro _ w3 ⟨rfl,i⟩;have d:=btr d i;have g:=btr g i;refine Ze (Xf O c O)<|Za O ?_;refine Zn fun a f=>?_;exact ⟨f.sub ⟨X1 O (by first|rfl|(simp only [b,c,bs];done)|simp [b,c]),trivial⟩,g⟩
   (iterate 5 refine Zp (gP c) ?_);refine Ze (Xb O c O)<|Za O ?_;refine Zn fun a f=>?_;exact ⟨f.sub ⟨X1 O (by first|rfl|(simp only [b,c,bs];done)|simp [b,c]),trivial⟩,g⟩
  (iterate 5 refine Zp (gP b) ?_);refine Ze (Xb O b O)<|Zm O<|Zp (gP O) ?_;(iterate 4 refine Zp (gP O) ?_);refine Ze (Xb O O O)<|Za O ?_;refine Zn fun a f=>?_;exact ⟨f.sub ⟨X1 O (by first|rfl|(simp only [b,bs];done)|simp [b]),trivial⟩,g⟩
 rintro a w4 ⟨f,i⟩;have d:=btr d i;refine aH _ _ ?_
 refine Q6 (X4 f (Xv f O O) ?_)
 exact ⟨O,d⟩
theorem Xqx(w0:World)(n:Int)(x:Gt) : Ret Tryz.prog 40 [vi n,.agg #[vi x.k,vi x.a,vi x.b]] w0 (fun v w=>v=.bool (gOk n x)/\Below w0.heap.size w0 w):=by
 refine enter Tryz.func40 O 60 O O ?_;intro a e
 have hW:=bz w0
 refine Zs e fun _ aF=>?_;refine Zf (X0m (zs:=[vi x.k,vi x.a,vi x.b]) O O) ?_;rintro _ w1 ⟨b2,rfl,aG,hE,o⟩;have aM:=Q0 hW.size aG;have hW:=btr hW hE;refine Za O<|ZX aF fun a e _ aH=>?_;refine Q8<|Q5 fun _ aI=>?_;refine X0f (fun a w=>Fr a 60 [(0,vi n),(3,(pZ9 b2)),(5,.bool ((!(inR n 1 5))||(!(inR x.k 1 12))))]/\w1=w) ?_ ?_
 ·refine Zr e<|Zm O<|Zf (Vc (F91 _ n 1 5) X3c) ?_;rintro _ _ ⟨rfl,rfl⟩;refine Ze (X0x O)<|Zm O ?_
  refine Zg 9 O (fun m=>?_) (fun m=>?_)
  ·(iterate 4 refine Zp (gP m) ?_);refine Ze (Xf O m O)<|Za O ?_;refine Zn fun a e=>?_;exact ⟨e.sub ⟨O,O,X1 O (by first|rfl|(simp only [m,bs];done)|simp [m]),trivial⟩,O⟩
  refine Zv (gW m) (Vd O X0n 0) ?_;refine Zv (gW m) (X0 O X8 (o.at 0)) ?_;refine Zk (gW m) (Vc (F91 _ x.k 1 12) X3c) ?_;rintro _ _ ⟨rfl,rfl⟩;refine Zv (gW m) (X0x O) ?_;refine Ze (Xb O m O)<|Za O ?_;refine Zn fun a e=>?_;exact ⟨e.sub ⟨O,O,X1 O (by first|rfl|(simp only [m,bs];done)|simp [m]),trivial⟩,O⟩
 rintro a _ ⟨e,rfl⟩;refine aI _ _ ?_
 refine X04 e O (fun j=>?_) (fun j=>?_)
 ·have hn:=X66 j;refine Zs e fun _ aJ=>?_;refine Za O<|Zt aJ fun a e=>?_;refine Q6<|Xo<|X5<|X4 e (Xv e O O) ?_;exact ⟨by rw [gOk,hn];rfl,hW⟩
 have hy:=X7k j;have aK:=(Qd _ _▸hy:inR n 1 5=true/\inR x.k 1 12=true);have aN:=X0b.1 aK.1;refine Zs e fun _ aL=>?_;refine Ze (Vd O X0n 0)<|Ze (X0 O X8 (o.at 0))<|Ze (X13 O O)<|Za O<|Zt aL fun a e=>?_
 refine X04 e O (fun l=>?_) (fun l=>?_)
 ·have hk:x.k=12:=by simpa using l
  refine Q5 fun _ aB=>?_;refine X0f (fun a w=>Fr a 60 [(4,.bool ((x.a==0)&&(x.b==0)))]/\w1=w) ?_ ?_
  ·refine Zr e<|Ze (Vd O X0p 1)<|Ze (X0 O X8 (o.at 1))<|Ze (X13 O O)<|Zm O ?_
   refine Zg 22 O (fun f=>?_) (fun f=>?_)
   ·refine Zv (gW f) (Vd O X14 2) ?_;refine Zv (gW f) (X0 O X8 (o.at 2)) ?_;refine Zv (gW f) (X13 O O) ?_;refine Ze (Xf O f O)<|Za O ?_;refine Zn fun a e=>?_;exact ⟨e.sub ⟨X1 O (by first|rfl|(simp only [j,l,f,bs];done)|simp [j,l,f]),trivial⟩,O⟩
   (iterate 3 refine Zp (gP f) ?_);refine Ze (Xb O f O)<|Za O ?_;refine Zn fun a e=>?_;exact ⟨e.sub ⟨X1 O (by first|rfl|(simp only [j,l,f,bs];done)|simp [j,l,f]),trivial⟩,O⟩
  rintro a _ ⟨e,rfl⟩;refine aB _ _<|Q6<|Xo<|X5 ?_;refine X4 e (Xv e O O) ?_;exact ⟨by rw [gOk,hy,Q4 hk,Qw],hW⟩
 have hk:¬ x.k=12:=by simpa using l
 refine Zs e fun _ aC=>?_;refine Ze (Vd O X0n 0)<|Ze (X0 O X8 (o.at 0))<|Zf (Vc (F99 _ x.k) Xal) ?_;rintro _ _ ⟨rfl,rfl⟩;refine Za O<|Zt aC fun a e=>?_
 refine X04 e O (fun g=>?_) (fun g=>?_)
 ·have aA:=g;refine Q5 fun _ aD=>?_;refine X0f (fun a w=>Fr a 60 [(4,.bool (((inR x.a 0 (n-1))&&(inR x.b 0 (n-1)))&&(x.a != x.b)))]/\w1=w) ?_ ?_
  ·refine Zr e<|Ze (Vd O X0p 1)<|Ze (X0 O X8 (o.at 1))<|Zm O<|Ze (X18 O O Z Z)<|Zf (Vc (F91 _ x.a 0 (n-1)) X3c) ?_;rintro _ _ ⟨rfl,rfl⟩;refine Zm O ?_
   refine Zg 36 O (fun c=>?_) (fun c=>?_)
   ·refine Zv (gW c) (Vd O X14 2) ?_;refine Zv (gW c) (X0 O X8 (o.at 2)) ?_;refine Zv (gW c) (X7 O) ?_;refine Zv (gW c) (X18 O O Z Z) ?_;refine Zk (gW c) (Vc (F91 _ x.b 0 (n-1)) X3c) ?_;rintro _ _ ⟨rfl,rfl⟩;refine Ze (Xf O c O)<|Zm O ?_
    refine Zg 43 O (fun d=>?_) (fun d=>?_)
    ·refine Zv (gW d) (Vd O X0p 1) ?_;refine Zv (gW d) (X0 O X8 (o.at 1)) ?_;refine Zv (gW d) (Vd O X14 2) ?_;refine Zv (gW d) (X0 O X8 (o.at 2)) ?_;refine Zv (gW d) (X47 O O) ?_;refine Ze (Xf O d O)<|Za O ?_;refine Zn fun a e=>?_;exact ⟨e.sub ⟨X1 O (by first|rfl|(simp only [j,l,g,c,d,bs];done)|simp [j,l,g,c,d]),trivial⟩,O⟩
    (iterate 5 refine Zp (gP d) ?_);refine Ze (Xb O d O)<|Za O ?_;refine Zn fun a e=>?_;exact ⟨e.sub ⟨X1 O (by first|rfl|(simp only [j,l,g,c,d,bs];done)|simp [j,l,g,c,d]),trivial⟩,O⟩
   (iterate 5 refine Zp (gP c) ?_);refine Ze (Xb O c O)<|Zm O<|Zp (gP O) ?_;(iterate 4 refine Zp (gP O) ?_);refine Ze (Xb O O O)<|Za O ?_;refine Zn fun a e=>?_;exact ⟨e.sub ⟨X1 O (by first|rfl|(simp only [j,l,g,c,bs];done)|simp [j,l,g,c]),trivial⟩,O⟩
  rintro a _ ⟨e,rfl⟩;refine aD _ _<|Q6<|Xo<|X5 ?_;refine X4 e (Xv e O O) ?_;exact ⟨by rw [gOk,hy,Q3 hk,Q4 aA,Qw],hW⟩
 have aA:¬ inR x.k 9 11=true:=by rw [g];simp
 refine Q7<|Xn<|aH _ _<|Q5 fun _ aE=>?_;refine X0f (fun a w=>Fr a 60 [(4,.bool ((inR x.a 0 (n-1))&&(x.b==0)))]/\w1=w) ?_ ?_
 ·refine Zr e<|Ze (Vd O X0p 1)<|Ze (X0 O X8 (o.at 1))<|Zm O<|Ze (X18 O O Z Z)<|Zf (Vc (F91 _ x.a 0 (n-1)) X3c) ?_;rintro _ _ ⟨rfl,rfl⟩;refine Zm O ?_
  refine Zg 55 O (fun i=>?_) (fun i=>?_)
  ·refine Zv (gW i) (Vd O X14 2) ?_;refine Zv (gW i) (X0 O X8 (o.at 2)) ?_;refine Zv (gW i) (X13 O O) ?_;refine Ze (Xf O i O)<|Za O ?_;refine Zn fun a e=>?_;exact ⟨e.sub ⟨X1 O (by first|rfl|(simp only [j,l,g,i,bs];done)|simp [j,l,g,i]),trivial⟩,O⟩
  (iterate 3 refine Zp (gP i) ?_);refine Ze (Xb O i O)<|Za O ?_;refine Zn fun a e=>?_;exact ⟨e.sub ⟨X1 O (by first|rfl|(simp only [j,l,g,i,bs];done)|simp [j,l,g,i]),trivial⟩,O⟩
 rintro a _ ⟨e,rfl⟩;refine aE _ _ ?_
 refine Q6 (X4 e (Xv e O O) ?_)
 exact ⟨by rw [gOk,hy,Q3 hk,Q3 aA,Qw],hW⟩
theorem Y1w(e:World)(Al:Option Addr)(cl:Nat)(l:List Gt)(aD:Rd e e.heap.size 59 encG Al l)(kq:FuncId)(pq:List Value)(Fq:FuncF Tryz.prog kq)(q:Gt->Bool)(hq:∀ x w,Below e.heap.size e w->Ret Tryz.prog kq ([gV x]++pq) w (fun v w'=>v=.bool (q x)/\Below w.heap.size w w'))(aS:l.length<=2305843009213693951) : Ret Tryz.prog 85 [.slice Al l.length cl,.func (.func kq) #[] pq.toArray] e (fun v w=>∃ i:Int,v=vi i/\decide (0<=i)=l.any q/\Below e.heap.size e w):=by
 refine enter Tryz.func85 O 19 O O ?_;intro a c
 have g:=bz e
 refine Zs c fun _ aJ=>?_;refine Za O<|ZX aJ fun a c _ aK=>?_;refine Zs c fun _ aL=>?_;refine Zm O<|Ze (X0o O Xa)<|Zm O<|Zt aL fun a c=>?_;refine Q8<|X0d (σ:=Nat) (fun (k:Nat) (a:Act) (w:World)=>Fr a 19 [(0,.slice Al l.length cl),(1,.func (.func kq) #[] pq.toArray),(7,vi (l.length:Int)),(8,vi (k:Int))]/\(k<=l.length)/\((l.take k).all (fun x=>!q x)=true)/\Below e.heap.size e w) (fun (k:Nat)=>l.length+1-k) 0 ?_ ?_
 ·exact ⟨c.sb,(Qf _),O5,g⟩
 rintro k a w1 ⟨c,hk,j,g⟩;refine Zs c fun _ aM=>?_;refine Ze (X16 O O)<|ZX aM fun a c _ aN=>?_
 refine X12 c O (fun aE aO=>?_) (fun aE aO=>?_)
 ·obtain ⟨f,aA⟩:=Xj (l:=l) (k:=k) Z
  refine Q7<|aN _ _<|Q5 fun _ aP=>?_;refine Q8<|Zs c fun _ aF=>?_;refine Zm O<|Za O<|Zx aF fun a c _ aG=>?_;refine Zm O<|Zm O<|Zm O<|Zi (k:=k) (u:=f) (enc:=encG) (l:=l) tv0 O O Xa X0g X9 (aD.bx g) aA O ?_;intro aT aB;refine Ze (Xx (l:=[vi f.k,vi f.a,vi f.b]) O X01 aB O)<|Zf (X6p (cs:=pq) (vs:=[.agg #[vi f.k,vi f.a,vi f.b]]) O O Fq (hq f _ g)) ?_;rintro _ w2 ⟨rfl,hE⟩;have g:=btr g hE;refine Zt aG fun a c=>?_
  refine X04 c O (fun d=>?_) (fun d=>?_)
  ·have aC:l.any q=true:=X3n aA d
   refine Zs c fun _ aH=>?_;refine Zm O<|Za O<|Zt aH fun a c=>?_;refine Q6<|Xo<|X5<|X5 ?_;refine Xo<|X5<|X4 c (Xv c O O) ?_;exact ⟨_,O,by rw [aC];simp,g⟩
  have aQ:=d
  have aR:(!q f)=true:=by revert d;cases q f<;>simp
  refine Q7<|Xn<|aP _ _<|Zr c ?_;refine Ze (X03 O O Z Z)<|Zm O ?_;refine Zn fun a c=>?_;refine Xd ?_;exact ⟨k+1,⟨c.sb,Z,(X2g j aA aR),g⟩,Z⟩
 refine Q9<|Xm<|Xm<|X0a ?_;refine aK _ _<|Zs c fun _ aI=>?_;refine Za O<|Zt aI fun a c=>?_
 refine Q6 (X4 c (Xv c O O) ?_)
 have aC:l.any q=false:=X2w (X28 j Z)
 exact ⟨_,O,by rw [aC];rfl,g⟩
theorem Xz6(b:World)(Al:Option Addr)(cl:Nat)(l:List Gt)(aA:Rd b b.heap.size 59 encG Al l)(kq:FuncId)(pq:List Value)(Fq:FuncF Tryz.prog kq)(q:Gt->Bool)(hq:∀ x w,Below b.heap.size b w->Ret Tryz.prog kq ([gV x]++pq) w (fun v w'=>v=.bool (q x)/\Below w.heap.size w w'))(aB:l.length<=2305843009213693951) : Ret Tryz.prog 38 [.slice Al l.length cl,.func (.func kq) #[] pq.toArray] b (fun v w=>v=.bool (l.any q)/\Below b.heap.size b w):=by
 refine enter Tryz.func38 O 9 O O ?_;intro a hf
 have hW:=bz b
 refine Zs hf fun _ aC=>?_;refine Za O<|Zx aC fun a hf _ aD=>?_;refine Zm O<|Zm O<|Zf (Vc (Y1w _ Al cl l (aA.bx hW).top kq pq Fq q (fun x w' hE'=>hq x w' (hW.trans (hE'.mono hW.size))) aB) Xx6) ?_;rintro _ w1 ⟨ix,rfl,aE,hE⟩;have hW:=btr hW hE;refine Ze (Xa2 O O)<|Za O<|Zt aD fun a hf=>?_
 refine Q6 (X4 hf (Xv hf O O) ?_)
 exact ⟨by rw [<- aE],hW⟩
theorem Y1o(w0:World)(x:Gt)(n:Int)(ba:Nat)(v1:Value)(c:Blk w0 ba 25 [vi n,v1]) : Ret Tryz.prog 39 [.agg #[vi x.k,vi x.a,vi x.b],(pZ9 ba)] w0 (fun v w=>v=.bool (!gOk n x)/\Below w0.heap.size w0 w):=by
 have aA:=c.lt;refine enter Tryz.func39 O 9 O O ?_;intro a hf
 have hW:=bz w0
 refine Zs hf fun _ aB=>?_;refine Zf (X0m (zs:=[vi x.k,vi x.a,vi x.b]) O O) ?_;rintro _ w1 ⟨b2,rfl,aC,hE,aD⟩;have aF:=Q0 hW.size aC;have c:=c.bw hE;have hW:=btr hW hE;refine Za O<|Zx aB fun a hf _ aE=>?_;refine Ze (Vd O X1d 0)<|Ze (X0 O X8 (c.at 0))<|Ze (Vn X01 aD)<|Zf (Vc (Xqx _ n x) Xdl) ?_;rintro _ w2 ⟨rfl,hE⟩;have hW:=btr hW hE;refine Ze (X0x O)<|Za O<|Zt aE fun a hf=>?_
 refine Q6 (X4 hf (Xv hf O O) ?_)
 exact ⟨O,hW⟩
theorem Y1r(w0:World)(x:Gt)(n:Int)(ba:Nat)(c:Blk w0 ba 3 [vi n]) : Ret Tryz.prog 117 [.agg #[vi x.k,vi x.a,vi x.b],(pZ9 ba)] w0 (fun v w=>v=.bool (!gOk n x)/\Below w0.heap.size w0 w):=by
 have aA:=c.lt;refine enter Tryz.func117 O 8 O O ?_;intro a hf
 have hW:=bz w0
 refine Zs hf fun _ aB=>?_;refine Zf (X0m (zs:=[vi x.k,vi x.a,vi x.b]) O O) ?_;rintro _ w1 ⟨b2,rfl,aC,hE,aD⟩;have aF:=Q0 hW.size aC;have c:=c.bw hE;have hW:=btr hW hE;refine Za O<|Zx aB fun a hf _ aE=>?_;refine Ze (X0 O X8 (c.at 0))<|Ze (Vn X01 aD)<|Zf (Vc (Xqx _ n x) Xdl) ?_;rintro _ w2 ⟨rfl,hE⟩;have hW:=btr hW hE;refine Ze (X0x O)<|Za O<|Zt aE fun a hf=>?_
 refine Q6 (X4 hf (Xv hf O O) ?_)
 exact ⟨O,hW⟩
theorem F92(w0:World)(n:Int)(Al:Option Addr)(cl:Nat)(l:List Gt)(aA:Rd w0 w0.heap.size 59 encG Al l)(aB:l.length<=2305843009213693951) : Ret Tryz.prog 70 [vi n,.slice Al l.length cl] w0 (fun v w=>v=.bool (!(l.any fun x=>!gOk n x))/\Below w0.heap.size w0 w):=by
 refine enter Tryz.func70 O 9 O O ?_;intro a hf
 have hW:=bz w0
 refine Zs hf fun _ aC=>?_;refine Zf (X0m (zs:=[vi n]) O O) ?_;rintro _ w1 ⟨b3,rfl,aD,hE,aE⟩;have aG:=Q0 hW.size aD;have hW:=btr hW hE;refine Za O<|Zx aC fun a hf _ aF=>?_;refine Zm O<|Ze (X33 (vs:=[(pZ9 b3)]) O)<|Zf (Vc (Xz6 _ Al cl l (aA.bx hW).top 117 [(pZ9 b3)] Xx1 (fun x=>!gOk n x) (fun x w' hE'=>Y1r w' x n _ (aE.bw hE')) aB) Xo8) ?_;rintro _ w2 ⟨rfl,hE⟩;have hW:=btr hW hE;refine Ze (X0x O)<|Za O<|Zt aF fun a hf=>?_
 refine Q6 (X4 hf (Xv hf O O) ?_)
 exact ⟨O,hW⟩
theorem F55(w0:World)(c:Cx)(Ac:Option Addr)(cc:Nat)(aA:Rd w0 w0.heap.size 59 encG Ac c.gs)(aB:c.gs.length<=2305843009213693951) : Ret Tryz.prog 16 [.agg #[vi c.n,.slice Ac c.gs.length cc]] w0 (fun v w=>v=.bool (cOk c)/\Below w0.heap.size w0 w):=by
 refine enter Tryz.func16 O 19 O O ?_;intro a e
 have g:=bz w0
 refine Zs e fun _ aC=>?_;refine Zf (X0m (zs:=[vi c.n,.slice Ac c.gs.length cc]) O O) ?_;rintro _ w1 ⟨b3,rfl,aD,hE,i⟩;have aF:=Q0 g.size aD;have g:=btr g hE;refine Za O<|ZX aC fun a e _ aE=>?_;refine X0f (fun a w=>Fr a 19 [(2,.bool (((inR c.n 1 5)&&(decide ((c.gs.length:Int)<=400)))&&(!(c.gs.any (fun x=>!gOk c.n x)))))]/\Below w1.heap.size w1 w) ?_ ?_
 ·have f:Below w1.heap.size w1 w1:=Below.refl _ _
  refine Zr e<|Ze (Vd O X1d 0)<|Ze (X0 O X8 (i.at 0))<|Zf (Vc (F91 _ c.n 1 5) X3c) ?_;rintro _ _ ⟨rfl,rfl⟩;refine Zm O ?_
  refine Zg 6 O (fun b=>?_) (fun b=>?_)
  ·refine Zv (gW b) (Vd O X05 1) ?_;refine Zv (gW b) (X0 O X0l (i.at 1)) ?_;refine Zv (gW b) (X0o O Xa) ?_;refine Zv (gW b) (X6i O O) ?_;refine Ze (Xf O b O)<|Zm O ?_
   refine Zg 12 O (fun d=>?_) (fun d=>?_)
   ·refine Zv (gW d) (Vd O X05 1) ?_;refine Zv (gW d) (X0 O X0l (i.at 1)) ?_;refine Zv (gW d) (X33 (vs:=[(pZ9 b3)]) O) ?_;refine Zk (gW d) (Vc (Xz6 _ Ac cc c.gs (aA.bx g).top 39 [(pZ9 b3)] Xwy (fun x=>!gOk c.n x) (fun x w' hE'=>Y1o w' x c.n _ _ (i.bw hE')) aB) Xo8) ?_;rintro _ w2 ⟨rfl,hE⟩;have g:=btr g hE;have f:=btr f hE;refine Zv (gW d) (X0x O) ?_;refine Ze (Xf O d O)<|Za O ?_;refine Zn fun a e=>?_;exact ⟨e.sub ⟨X1 O (by first|rfl|(simp only [b,d,bs];done)|simp [b,d]),trivial⟩,f⟩
   (iterate 5 refine Zp (gP d) ?_);refine Ze (Xb O d O)<|Za O ?_;refine Zn fun a e=>?_;exact ⟨e.sub ⟨X1 O (by first|rfl|(simp only [b,d,bs];done)|simp [b,d]),trivial⟩,f⟩
  (iterate 4 refine Zp (gP b) ?_);refine Ze (Xb O b O)<|Zm O<|Zp (gP O) ?_;(iterate 4 refine Zp (gP O) ?_);refine Ze (Xb O O O)<|Za O ?_;refine Zn fun a e=>?_;exact ⟨e.sub ⟨X1 O (by first|rfl|(simp only [b,bs];done)|simp [b]),trivial⟩,f⟩
 rintro a w3 ⟨e,hE⟩;have g:=btr g hE;refine aE _ _ ?_
 refine Q6 (X4 e (Xv e O O) ?_)
 exact ⟨by simp [cOk, *],g⟩
theorem F98(I:World)(p:Mx)(Ap:Option Addr)(cp:Nat)(aQ:Rd I I.heap.size 139 encD Ap p.cells)(q:Mx)(Aq:Option Addr)(cq:Nat)(Q:Rd I I.heap.size 139 encD Aq q.cells)(bE:p.cells.length<=2305843009213693951)(aV:q.cells.length<=2305843009213693951) : Ret Tryz.prog 75 [.agg #[vi p.rows,vi p.cols,.slice Ap p.cells.length cp],.agg #[vi q.rows,vi q.cols,.slice Aq q.cells.length cq]] I (fun v w=>∃ i:Int,v=.tuple #[vi i,.bool (mOk p&&mOk q&&eqPh p q),.bool (mOk p&&mOk q)]/\Below I.heap.size I w):=by
 refine enter Tryz.func75 O 36 O O ?_;intro a g
 have l:=bz I
 refine Zs g fun _ bU=>?_;refine Zf (X0m (zs:=[vi p.rows,vi p.cols,.slice Ap p.cells.length cp]) O O) ?_;rintro _ w1 ⟨M,rfl,bW,e,n⟩;have c4:=Q0 l.size bW;have l:=btr l e;refine Zf (X0m (zs:=[vi q.rows,vi q.cols,.slice Aq q.cells.length cq]) O O) ?_;rintro _ w2 ⟨b5,rfl,bX,e,o⟩
 have bS:M≠b5:=by have:=n.lt;omega
 have cA:=Q0 l.size bX;have n:=n.bw e;have l:=btr l e;refine Za O<|Za O<|Za O<|ZX bU fun a g _ bY=>?_;refine Q5 fun _ bZ=>?_;refine X0f (fun a w=>Fr a 36 [(2,(pZ9 M)),(3,(pZ9 b5)),(17,.bool ((!(mOk p))||(!(mOk q))))]/\Below w2.heap.size w2 w) ?_ ?_
 ·have f:Below w2.heap.size w2 w2:=Below.refl _ _
  refine Zr g<|Ze (Vn X0j n)<|Zf (Vc (Xl1 _ p Ap cp (aQ.bx l).top bE) X87) ?_;rintro _ w3 ⟨rfl,e⟩;have o:=o.bw e;have l:=btr l e;have f:=btr f e;refine Ze (X0x O)<|Zm O ?_
  refine Zg 13 O (fun x=>?_) (fun x=>?_)
  ·(iterate 3 refine Zp (gP x) ?_);refine Ze (Xf O x O) ?_;refine Zn fun a g=>?_;exact ⟨g.sub ⟨O,O,X1 O (by first|rfl|(simp only [x,bs];done)|simp [x]),trivial⟩,f⟩
  refine Zv (gW x) (Vn X0j o) ?_;refine Zk (gW x) (Vc (Xl1 _ q Aq cq (Q.bx l).top aV) X87) ?_;rintro _ w4 ⟨rfl,e⟩;have l:=btr l e;have f:=btr f e;refine Zv (gW x) (X0x O) ?_;refine Ze (Xb O x O) ?_;refine Zn fun a g=>?_;exact ⟨g.sub ⟨O,O,X1 O (by first|rfl|(simp only [x,bs];done)|simp [x]),trivial⟩,f⟩
 rintro a w5 ⟨g,e⟩;have n:=n.bw e;have o:=o.bw e;have l:=btr l e;refine bZ _ _ ?_
 refine X04 g O (fun J=>?_) (fun J=>?_)
 ·have hn:=X66 J;refine Zs g fun _ bF=>?_;refine Za O<|Za O<|Za O<|Zt bF fun a g=>?_;refine Q6<|X5<|X4 g (X99 g O O O O) ?_;exact ⟨_,by rw [hn];rfl,l⟩
 have hy:=X7k J;refine Q7<|bY _ _<|Q5 fun _ bG=>?_;refine Zs g fun _ bH=>?_;refine Zm O<|Zt bH fun a g=>?_;refine Q8<|X0d (σ:=Nat) (fun (k:Nat) (a:Act) (w:World)=>Fr a 36 [(2,(pZ9 M)),(3,(pZ9 b5)),(18,vi (k:Int))]/\(k<=8)/\(∀ j<k,eqPhT p q j=false)/\Blk w M 92 [vi p.rows,vi p.cols,.slice Ap p.cells.length cp]/\Blk w b5 92 [vi q.rows,vi q.cols,.slice Aq q.cells.length cq]/\Below I.heap.size I w) (fun (k:Nat)=>8-k) 0 ?_ ?_
 ·exact ⟨g.sb,Z,(fun j hj=>by omega),n,o,l⟩
 rintro k a w6 ⟨g,hk,aR,n,o,l⟩;refine Zs g fun _ bI=>?_;refine Ze (X16 O O)<|ZX bI fun a g _ bJ=>?_
 refine X12 g O (fun y aS=>?_) (fun y aS=>?_)
 ·have cB:(k:Int)<8:=aS
  refine Q7<|bJ _ _<|Q5 fun _ bK=>?_;refine Q8<|Zs g fun _ bL=>?_;refine Zm O<|Za O<|ZX bL fun a g _ bM=>?_;refine X0f (fun a w=>∃ u z A,Fr a 36 [(2,(pZ9 M)),(3,(pZ9 b5)),(7,vi (k:Int)),(8,(pZ9 u)),(9,.bool ((scaleI q (dPow (k:Int))).isSome)),(18,vi (k:Int))]/\I.heap.size<=u/\Blk w u 92 [vi (((scaleI q (dPow (k:Int))).getD mZ).rows),vi (((scaleI q (dPow (k:Int))).getD mZ).cols),.slice z (((scaleI q (dPow (k:Int))).getD mZ).cells).length A]/\M≠u/\b5≠u/\Own w I.heap.size 139 5 encD z A (((scaleI q (dPow (k:Int))).getD mZ).cells)/\Below w6.heap.size w6 w) ?_ ?_
  ·have f:Below w6.heap.size w6 w6:=Below.refl _ _
   refine X08 none (fun j=>[8].contains j) mixed ?_;intro w7 e;have n:=n.bw e;have o:=o.bw e;have l:=btr l e;have f:=btr f e;refine Yb g<|Ye 0 O (Vn X0j o)<|Yo 1 O (fun _=>X7 O) ?_
   have m:Below w7.heap.size w7 w7:=Below.refl _ _
   refine Yc [0,1,2,3,4,5,6,7] 2 (fun a w=>∃ u z A,Fr a 36 [(2,(pZ9 M)),(3,(pZ9 b5)),(7,vi (k:Int)),(8,(pZ9 u)),(18,vi (k:Int)),(26,.agg #[vi (((scaleI q (dPow (k:Int))).getD mZ).rows),vi (((scaleI q (dPow (k:Int))).getD mZ).cols),.slice z (((scaleI q (dPow (k:Int))).getD mZ).cells).length A]),(27,.bool ((scaleI q (dPow (k:Int))).isSome))]/\I.heap.size<=u/\Blk w u 92 [vi 0,vi 0,.slice none 0 0]/\M≠u/\b5≠u/\w7.heap.size<=u/\w6.heap.size<=u/\Own w I.heap.size 139 5 encD z A (((scaleI q (dPow (k:Int))).getD mZ).cells)/\Below w7.heap.size w7 w) ?_ ?_
   ·rintro a w8 ⟨u,z,A,g,L,B,E,G,aW,aX,H,e⟩;clear m;have m:=e;have l:=btr l e;have f:=btr f e;refine Yb g<|Y1 8<|Yh O tv0 O (Vw [vi (((scaleI q (dPow (k:Int))).getD mZ).rows),vi (((scaleI q (dPow (k:Int))).getD mZ).cols),.slice z (((scaleI q (dPow (k:Int))).getD mZ).cells).length A] X19 B) ?_;rintro _ w9 ⟨ho,hb⟩;have H:=H.oT ho B O;have f:=Below.oy f ho aX;have m:=Below.oy m ho aW;have l:=Below.oy l ho L;have B:=hb;refine Yo 9 O (fun _=>X0y O) ?_;refine Yd fun a g=>?_;exact ⟨u,z,A,g.sb,L,B,E,G,H,f⟩
   intro aT;refine Yc [0,1,2,7] 6 (fun a w=>∃ D,Fr a 36 [(2,(pZ9 M)),(3,(pZ9 b5)),(7,vi (k:Int)),(8,(pZ9 D)),(18,vi (k:Int)),(22,.agg #[vi q.rows,vi q.cols,.slice Aq q.cells.length cq]),(24,.agg #[vi ((dPow (k:Int)).num.a),vi ((dPow (k:Int)).num.b),vi ((dPow (k:Int)).num.c),vi ((dPow (k:Int)).num.d),vi ((dPow (k:Int)).exp)])]/\I.heap.size<=D/\Blk w D 92 [vi 0,vi 0,.slice none 0 0]/\M≠D/\b5≠D/\w7.heap.size<=D/\w6.heap.size<=D/\Below w7.heap.size w7 w) ?_ ?_
   ·rintro a cC ⟨D,g,aY,U,W,aA,aZ,b0,e⟩;clear m;have m:=e;have l:=btr l e;have f:=btr f e;refine Yb g<|Y1 3<|Yk O tv0 (Vc (Xqy _ q Aq cq (Q.bx l).top (dPow (k:Int)) aV) Xdm) (fun _ _ ⟨aM,aN,_,N,e⟩=>e) ?_;rintro _ cD ⟨aM,aN,rfl,N,e⟩;have N:=N.lower l.size;have U:=U.bw e;have l:=btr l e;have f:=btr f e;have m:=btr m e;refine Yo 4 O (fun _=>X7 O)<|Yo 5 O (fun _=>X3 (vs:=[.agg #[vi (((scaleI q (dPow (k:Int))).getD mZ).rows),vi (((scaleI q (dPow (k:Int))).getD mZ).cols),.slice aM (((scaleI q (dPow (k:Int))).getD mZ).cells).length aN],.bool ((scaleI q (dPow (k:Int))).isSome)]) O O)<|Yo 6 O (fun _=>X3 (vs:=[.agg #[vi (((scaleI q (dPow (k:Int))).getD mZ).rows),vi (((scaleI q (dPow (k:Int))).getD mZ).cols),.slice aM (((scaleI q (dPow (k:Int))).getD mZ).cells).length aN],.bool ((scaleI q (dPow (k:Int))).isSome)]) O O) ?_;exact fun a g=>aT _ a _ O ⟨D,aM,aN,g.sb,aY,U,W,aA,aZ,b0,N,m⟩
   intro aU;refine Y2 2 7 ?_ ?_
   ·refine Yk O tv0 (Vc (Xbh _ (k:Int) (X0b.2 ⟨by omega,by omega⟩)) X48) (fun _ _ ⟨_,e⟩=>e) ?_;rintro _ cE ⟨rfl,e⟩;have n:=n.bw e;have o:=o.bw e;have l:=btr l e;have f:=btr f e;have m:=btr m e;refine Y2 3 7 ?_ ?_
    ·refine Yk O tv0 (Vc (Xqy _ q Aq cq (Q.bx l).top (dPow (k:Int)) aV) Xdm) (fun _ _ ⟨aO,aP,_,C,e⟩=>e) ?_;rintro _ cF ⟨aO,aP,rfl,C,e⟩;have C:=C.lower l.size;have n:=n.bw e;have o:=o.bw e;have l:=btr l e;have f:=btr f e;have m:=btr m e;refine Yo 4 O (fun _=>X7 O)<|Yo 5 O (fun _=>X3 (vs:=[.agg #[vi (((scaleI q (dPow (k:Int))).getD mZ).rows),vi (((scaleI q (dPow (k:Int))).getD mZ).cols),.slice aO (((scaleI q (dPow (k:Int))).getD mZ).cells).length aP],.bool ((scaleI q (dPow (k:Int))).isSome)]) O O)<|Yo 6 O (fun _=>X3 (vs:=[.agg #[vi (((scaleI q (dPow (k:Int))).getD mZ).rows),vi (((scaleI q (dPow (k:Int))).getD mZ).cols),.slice aO (((scaleI q (dPow (k:Int))).getD mZ).cells).length aP],.bool ((scaleI q (dPow (k:Int))).isSome)]) O O)<|Y1 7 ?_;refine Yk O tv0 (Xl (zs:=[vi 0,vi 0,.slice none 0 0]) X1r O) (fun _ _ ⟨_,_,_,h,_⟩=>h) ?_;rintro _ cG ⟨b26,rfl,aB,e,bN⟩
     have aC:M≠b26:=by have:=n.lt;omega
     have aD:b5≠b26:=by have:=o.lt;omega
     have b1:=Q0 l.size aB;have b2:=Q0 f.size aB;have b3:=Q0 m.size aB;have C:=C.bw e;have l:=btr l e;have f:=btr f e;have m:=btr m e;exact fun a g=>aT _ a _ O ⟨b26,aO,aP,g.sb,b1,bN,aC,aD,b3,b2,C,m⟩
    refine Yk O tv0 (Xl (zs:=[vi 0,vi 0,.slice none 0 0]) X1r O) (fun _ _ ⟨_,_,_,h,_⟩=>h) ?_;rintro _ cH ⟨b28,rfl,aE,e,bO⟩
    have aF:M≠b28:=by have:=n.lt;omega
    have aG:b5≠b28:=by have:=o.lt;omega
    have b6:=Q0 l.size aE;have b7:=Q0 f.size aE;have b8:=Q0 m.size aE;have l:=btr l e;have f:=btr f e;have m:=btr m e;exact fun a g=>aU _ a _ O ⟨b28,g.sb,b6,bO,aF,aG,b8,b7,m⟩
   refine Yk O tv0 (Xl (zs:=[vi 0,vi 0,.slice none 0 0]) X1r O) (fun _ _ ⟨_,_,_,h,_⟩=>h) ?_;rintro _ cI ⟨b30,rfl,aH,e,aI⟩
   have aJ:M≠b30:=by have:=n.lt;omega
   have aK:b5≠b30:=by have:=o.lt;omega
   have b9:=Q0 l.size aH;have bC:=Q0 f.size aH;have bD:=Q0 m.size aH;have l:=btr l e;have f:=btr f e;have m:=btr m e;refine Y1 2<|Yk O tv0 (Vc (Xbh _ (k:Int) (X0b.2 ⟨by omega,by omega⟩)) X48) (fun _ _ ⟨_,e⟩=>e) ?_;rintro _ cJ ⟨rfl,e⟩;have aI:=aI.bw e;have l:=btr l e;have f:=btr f e;have m:=btr m e;exact fun a g=>aU _ a _ O ⟨b30,g.sb,b9,aI,aJ,aK,bD,bC,m⟩
  rintro a w18 ⟨u,z,A,g,L,B,E,G,H,e⟩;have n:=n.bw e;have o:=o.bw e;have l:=btr l e;refine bM _ _<|Q5 fun _ bP=>?_;refine X0f (fun a w=>Fr a 36 [(2,(pZ9 M)),(3,(pZ9 b5)),(7,vi (k:Int)),(18,vi (k:Int)),(33,.bool (((scaleI q (dPow (k:Int))).isSome)&&(decide (p.rows=((scaleI q (dPow (k:Int))).getD mZ).rows)&&decide (p.cols=((scaleI q (dPow (k:Int))).getD mZ).cols)&&decide (p.cells=((scaleI q (dPow (k:Int))).getD mZ).cells))))]/\Below w18.heap.size w18 w) ?_ ?_
  ·have f:Below w18.heap.size w18 w18:=Below.refl _ _
   refine Zr g<|Zm O<|Zm O ?_
   refine Zg 29 O (fun t=>?_) (fun t=>?_)
   ·refine Zv (gW t) (Vn X0j n) ?_;refine Zv (gW t) (Vn X0j B) ?_;refine Zk (gW t) (Vc (Y1u _ p Ap cp (aQ.bx l).top ((scaleI q (dPow (k:Int))).getD mZ) z A H.rd.top bE) Xx4) ?_;rintro _ cK ⟨rfl,e⟩;have l:=btr l e;have f:=btr f e;refine Ze (Xf O t O) ?_;refine Zn fun a g=>?_;exact ⟨g.sub ⟨O,O,O,O,X1 O (by first|rfl|(simp only [J,y,t,bs];done)|simp [J,y,t]),trivial⟩,f⟩
   (iterate 3 refine Zp (gP t) ?_);refine Ze (Xb O t O) ?_;refine Zn fun a g=>?_;exact ⟨g.sub ⟨O,O,O,O,X1 O (by first|rfl|(simp only [J,y,t,bs];done)|simp [J,y,t]),trivial⟩,f⟩
  rintro a cL ⟨g,e⟩;have n:=n.bw e;have o:=o.bw e;have l:=btr l e;refine bP _ _ ?_
  refine X04 g O (fun aL=>?_) (fun aL=>?_)
  ·have hT:eqPhT p q k=true:=aL
   refine Zs g fun _ bQ=>?_;refine Zm O<|Za O<|Za O<|Za O<|Zt bQ fun a g=>?_;refine Q6<|Xo<|X5<|X5 ?_;refine Xo<|X5<|X4 g (X99 g O O O O) ?_;exact ⟨_,by rw [hy,Qw,eqPh,Xcu Z hT],l⟩
  have hT:eqPhT p q k=false:=aL
  refine Q7<|Xn<|bK _ _<|Zr g ?_;refine Ze (X03 O O Z Z)<|Zm O ?_;refine Zn fun a g=>?_;refine Xd ?_;exact ⟨k+1,⟨g.sb,Z,(fun j hj=>by rcases W4 j k with h9|h9;exact aR j h9;obtain rfl:j=k:=Z;exact hT),n,o,l⟩,Z⟩
 refine Q9<|Xm<|Xm<|X0a ?_;refine bG _ _<|Zs g fun _ bR=>?_;refine Za O<|Za O<|Za O<|Zt bR fun a g=>?_
 refine Q6 (X4 g (X99 g O O O O) ?_)
 exact ⟨_,by rw [hy,Qw,eqPh,Xb3 (fun j hj=>aR j Z)],l⟩
theorem Xr2(w0:World)(bV:Nat)(f:Bool)(e:Blk w0 bV 149 [.bool f])(x:Rg) : Ret Tryz.prog 194 [(pZ9 bV),.agg #[vi x.a,vi x.b,vi x.c,vi x.d]] w0 (fun v w=>v=rV (sRing x)/\Kept bV w0.heap.size w0 w/\Blk w bV 149 [.bool (f||!rOk x)]):=by
 have aK:=e.lt;refine enter Tryz.func194 O 13 O O ?_;intro a m
 have j:Kept bV w0.heap.size w0 w0:=Kept.refl _ _ _
 refine Zs m fun _ aC=>?_;refine Zf (X0m (zs:=[vi x.a,vi x.b,vi x.c,vi x.d]) O O) ?_;rintro _ w1 ⟨b2,rfl,aD,n,k⟩;have aL:=Q0 j.size aD;have e:=e.bw n;have j:=ktr j n;refine Zf (Xl (zs:=[vi 0,vi 0,vi 0,vi 0]) X2c O) ?_;rintro _ w2 ⟨b3,rfl,aE,n,g⟩
 have aB:b2≠b3:=by have:=k.lt;omega
 have p:=Q0 j.size aE;have e:=e.bw n;have k:=k.bw n;have j:=ktr j n;refine ZX aC fun a m _ aF=>?_;refine Zs m fun _ aG=>?_;refine Ze (Vn X0k k)<|Zf (Vc (Y2p _ x) Xxy) ?_;rintro _ w3 ⟨rfl,n⟩;have e:=e.bw n;have k:=k.bw n;have g:=g.bw n;have j:=ktr j n;refine Ze (X0x O)<|Zt aG fun a m=>?_
 refine X04 m O (fun o=>?_) (fun o=>?_)
 ·have aA:=o
  have i:rOk x=false:=by revert o;cases rOk x<;>simp
  refine Zs m fun _ aH=>?_;refine Zm O<|Ze (X3z O)<|Ze (Vd O X78 0)<|Zo (X4o (vs:=[.bool true]) (l':=[.bool true]) O O Y1k e O O O O O) ?_;rintro _ w4 ⟨i,q⟩;have g:=g.oz i e O;have j:=j.self i;have e:=q;clear q i;refine Zx aH fun a m _ aI=>?_;refine Ze (Xi (ps:=[]) (cs:=[vi 0,vi 0,vi 0,vi 0]) O (fun _=>by first|rfl|kernel_rfl))<|Zo (Vw [vi 0,vi 0,vi 0,vi 0] X1c g) ?_;rintro _ w5 ⟨i,q⟩;have e:=e.oz i g O;have j:=Kept.oy j i p;have g:=q;clear q i;refine Zt aI fun a m=>?_;refine Q6<|X5<|X4 m (Xv m O (ResV.cellN (l:=[vi 0,vi 0,vi 0,vi 0]) O X0k (g.at 0) O)) ?_;exact ⟨by simp [sRing,i],j,by simpa [i] using e⟩
 have aA:=o
 have i:rOk x=true:=by revert o;cases rOk x<;>simp
 refine Q7<|aF _ _<|Zs m fun _ aJ=>?_;refine Ze (Vn X0k k)<|Zo (Vw [vi x.a,vi x.b,vi x.c,vi x.d] X1c g) ?_;rintro _ w6 ⟨i,q⟩;have e:=e.oz i g O;have j:=Kept.oy j i p;have g:=q;clear q i;refine Zt aJ fun a m=>?_
 refine Q6 (X4 m (Xv m O (ResV.cellN (l:=[vi x.a,vi x.b,vi x.c,vi x.d]) O X0k (g.at 0) O)) ?_)
 exact ⟨by simp [sRing,i],j,by simpa [i] using e⟩
theorem Y28(w0:World)(bV:Nat)(f:Bool)(e:Blk w0 bV 149 [.bool f])(x:Dy)(y:Dy)(hx:0<=x.exp/\x.exp<=60)(hy:0<=y.exp/\y.exp<=60) : Ret Tryz.prog 159 [(pZ9 bV),.agg #[vi x.num.a,vi x.num.b,vi x.num.c,vi x.num.d,vi x.exp],.agg #[vi y.num.a,vi y.num.b,vi y.num.c,vi y.num.d,vi y.exp]] w0 (fun v w=>v=dV ((sMul f x y).2)/\Kept bV w0.heap.size w0 w/\Blk w bV 149 [.bool ((sMul f x y).1)]):=by
 have aP:=e.lt;refine enter Tryz.func159 O 30 O O ?_;intro a o
 have k:Kept bV w0.heap.size w0 w0:=Kept.refl _ _ _
 refine Zs o fun _ aH=>?_;refine Zf (X0m (zs:=[vi x.num.a,vi x.num.b,vi x.num.c,vi x.num.d,vi x.exp]) O O) ?_;rintro _ w1 ⟨b2,rfl,aI,i,m⟩;have aQ:=Q0 k.size aI;have e:=e.bw i;have k:=ktr k i;refine Zf (X0m (zs:=[vi y.num.a,vi y.num.b,vi y.num.c,vi y.num.d,vi y.exp]) O O) ?_;rintro _ w2 ⟨b3,rfl,aJ,i,n⟩
 have aE:b2≠b3:=by have:=m.lt;omega
 have aR:=Q0 k.size aJ;have e:=e.bw i;have m:=m.bw i;have k:=ktr k i;refine Zf (Xl (zs:=[vi 0,vi 0,vi 0,vi 0,vi 0]) X1s O) ?_;rintro _ w3 ⟨b4,rfl,aK,i,g⟩
 have aF:b2≠b4:=by have:=m.lt;omega
 have aG:b3≠b4:=by have:=n.lt;omega
 have p:=Q0 k.size aK;have e:=e.bw i;have m:=m.bw i;have n:=n.bw i;have k:=ktr k i;refine ZX aH fun a o _ aL=>?_;refine Zs o fun _ aM=>?_;refine Ze (Vd O X1m 4)<|Ze (X0 O X8 (m.at 4))<|Ze (Vd O X1m 4)<|Ze (X0 O X8 (n.at 4))<|Ze (X03 O O Z Z)<|Ze (X29 O O)<|Zt aM fun a o=>?_
 refine X12 o O (fun aC aA=>?_) (fun aC aA=>?_)
 ·have hm:60<x.exp+y.exp:=aA
  refine Zs o fun _ aN=>?_;refine Zm O<|Ze (X3z O)<|Ze (Vd O X78 0)<|Zo (X4o (vs:=[.bool true]) (l':=[.bool true]) O O Y1k e O O O O O) ?_;rintro _ w4 ⟨q,hb⟩;have g:=g.oz q e O;have k:=k.self q;have e:=hb;refine Zx aN fun a o _ aO=>?_;refine Ze (Xi (ps:=[]) (cs:=[vi 0,vi 0,vi 0,vi 0,vi 0]) O (fun _=>by first|rfl|kernel_rfl))<|Zo (Vw [vi 0,vi 0,vi 0,vi 0,vi 0] X09 g) ?_;rintro _ w5 ⟨q,hb⟩;have e:=e.oz q g O;have k:=Kept.oy k q p;have g:=hb;refine Zt aO fun a o=>?_;refine Q6<|X5<|X4 o (Xv o O (ResV.cellN (l:=[vi 0,vi 0,vi 0,vi 0,vi 0]) O Xr (g.at 0) O)) ?_;exact ⟨by rw [sMul,Q4 hm];rfl,k,by rw [sMul,Q4 hm];exact e⟩
 have hm:¬ 60<x.exp+y.exp:=aA
 refine Q7<|aL _ _<|Q5 fun _ aD=>?_;refine X08 (some bV) (fun j=>[13].contains j) mixed ?_;intro w6 i;have e:=e.bw i;have m:=m.bw i;have n:=n.bw i;have g:=g.bw i;have k:=ktr k i;refine Yb o<|Yo 0 O (fun _=>X7 O)<|Yo 1 O (fun _=>Vd O X1q 0) ?_;refine Yw 2 O tv0 (fun w1 h1=>Xx (l:=[vi x.num.a,vi x.num.b,vi x.num.c,vi x.num.d]) O X0k (((m.oz h1 e O).at 0).take 4) O) ?_;refine Yo 3 O (fun _=>Vd O X1q 0) ?_;refine Yw 4 O tv0 (fun w1 h1=>Xx (l:=[vi y.num.a,vi y.num.b,vi y.num.c,vi y.num.d]) O X0k (((n.oz h1 e O).at 0).take 4) O) ?_;refine Yo 7 O (fun _=>Vd O X1m 4) ?_;refine Yw 8 O tv0 (fun w1 h1=>X0 O X8 ((m.oz h1 e O).at 4)) ?_;refine Yo 9 O (fun _=>Vd O X1m 4) ?_;refine Yw 10 O tv0 (fun w1 h1=>X0 O X8 ((n.oz h1 e O).at 4)) ?_;refine Yo 11 O (fun _=>X03 O O Z Z)<|Y1 5 ?_;refine Yf O tv0 (EfW.mono (Vc (Y2k _ x.num y.num) Xxt) (fun _ _ h=>⟨fun _=>by obtain ⟨rfl,i⟩:=h;exact Keep.of_below i,h⟩)) ?_;rintro _ w7 ⟨rfl,i⟩;have e:=e.bw i;have g:=g.bw i;have k:=ktr k i;refine Y1 6<|Yf O tv0 (EfW.mono (Vc (Xr2 _ bV f e (rMul x.num y.num)) Xdx) (fun _ _ h=>⟨fun _=>by obtain ⟨rfl,hK,aB⟩:=h;exact hK.keep,h⟩)) ?_;rintro _ w8 ⟨rfl,hK,aB⟩;obtain ⟨wm,hO,hm,i⟩:=hK.mid;clear hm;have t:=e;have g:=g.oz hO t O;have k:=k.self hO;have g:=g.bw i;have k:=ktr k i
 clear t i hO hK;have e:=aB;clear aB;refine Y1 12<|Yf O tv0 (EfW.mono (Vc (Y0h _ (sRing (rMul x.num y.num)) (x.exp+y.exp) Z) Xom) (fun _ _ h=>⟨fun _=>by obtain ⟨rfl,i⟩:=h;exact Keep.of_below i,h⟩)) ?_;rintro _ w9 ⟨rfl,i⟩;have e:=e.bw i;have g:=g.bw i;have k:=ktr k i;refine Y1 13<|Yh O tv0 O (Vw [vi ((dLow (sRing (rMul x.num y.num)) (x.exp+y.exp)).num.a),vi ((dLow (sRing (rMul x.num y.num)) (x.exp+y.exp)).num.b),vi ((dLow (sRing (rMul x.num y.num)) (x.exp+y.exp)).num.c),vi ((dLow (sRing (rMul x.num y.num)) (x.exp+y.exp)).num.d),vi ((dLow (sRing (rMul x.num y.num)) (x.exp+y.exp)).exp)] X09 g) ?_;rintro _ aS ⟨q,hb⟩;have e:=e.oz q g O;have k:=Kept.oy k q p;have g:=hb;refine Yd fun a o=>?_;refine aD _ _ ?_
 refine Q6 (X4 o (Xv o O (ResV.cellN (l:=[vi ((dLow (sRing (rMul x.num y.num)) (x.exp+y.exp)).num.a),vi ((dLow (sRing (rMul x.num y.num)) (x.exp+y.exp)).num.b),vi ((dLow (sRing (rMul x.num y.num)) (x.exp+y.exp)).num.c),vi ((dLow (sRing (rMul x.num y.num)) (x.exp+y.exp)).num.d),vi ((dLow (sRing (rMul x.num y.num)) (x.exp+y.exp)).exp)]) O Xr (g.at 0) O)) ?_)
 exact ⟨by rw [sMul,Q3 hm],k,by rw [sMul,Q3 hm];exact e⟩
theorem Y27(w0:World)(bV:Nat)(f:Bool)(e:Blk w0 bV 149 [.bool f])(x:Dy)(y:Dy)(hx:0<=x.exp/\x.exp<=60)(hy:0<=y.exp/\y.exp<=60) : Ret Tryz.prog 158 [(pZ9 bV),.agg #[vi x.num.a,vi x.num.b,vi x.num.c,vi x.num.d,vi x.exp],.agg #[vi y.num.a,vi y.num.b,vi y.num.c,vi y.num.d,vi y.exp]] w0 (fun v w=>v=dV ((sAdd f x y).2)/\Kept bV w0.heap.size w0 w/\Blk w bV 149 [.bool ((sAdd f x y).1)]):=by
 have aX:=e.lt;refine enter Tryz.func158 O 45 O O ?_;intro a u
 have p:Kept bV w0.heap.size w0 w0:=Kept.refl _ _ _
 refine Zs u fun _ aP=>?_;refine Zf (X0m (zs:=[vi x.num.a,vi x.num.b,vi x.num.c,vi x.num.d,vi x.exp]) O O) ?_;rintro _ w1 ⟨b2,rfl,aQ,n,g⟩;have aD:=Q0 p.size aQ;have e:=e.bw n;have p:=ktr p n;refine Zf (X0m (zs:=[vi y.num.a,vi y.num.b,vi y.num.c,vi y.num.d,vi y.exp]) O O) ?_;rintro _ w2 ⟨b3,rfl,aR,n,k⟩
 have aM:b2≠b3:=by have:=g.lt;omega
 have aE:=Q0 p.size aR;have e:=e.bw n;have g:=g.bw n;have p:=ktr p n;refine Zf (Xl (zs:=[vi 0,vi 0,vi 0,vi 0,vi 0]) X1s O) ?_;rintro _ w3 ⟨b4,rfl,aS,n,i⟩
 have aN:b2≠b4:=by have:=g.lt;omega
 have aO:b3≠b4:=by have:=k.lt;omega
 have aF:=Q0 p.size aS;have e:=e.bw n;have g:=g.bw n;have k:=k.bw n;have p:=ktr p n;refine ZX aP fun a u _ aT=>?_;refine Q8<|X0d (σ:=Bool×Dy) (fun (s:Bool×Dy) (a:Act) (w:World)=>match s with|(G,m)=>Fr a 45 [(0,(pZ9 bV)),(4,(pZ9 b2)),(5,(pZ9 b3)),(6,(pZ9 b4))]/\(sRaiseN (y.exp-m.exp).toNat G m=sRaiseN (y.exp-x.exp).toNat f x)/\(0<=m.exp/\m.exp<=60)/\Blk w bV 149 [.bool G]/\Blk w b2 139 [vi m.num.a,vi m.num.b,vi m.num.c,vi m.num.d,vi m.exp]/\Blk w b3 139 [vi y.num.a,vi y.num.b,vi y.num.c,vi y.num.d,vi y.exp]/\Blk w b4 139 [vi 0,vi 0,vi 0,vi 0,vi 0]/\Kept bV w0.heap.size w0 w) (fun (s:Bool×Dy)=>match s with|(G,m)=>(y.exp-m.exp).toNat) (f,x) ?_ ?_
 ·exact ⟨u.sb,O,hx,e,g,k,i,p⟩
 rintro ⟨G,m⟩ a w4 ⟨u,H,aY,e,g,k,i,p⟩;refine Q5 fun _ aU=>?_;refine Zs u fun _ aV=>?_;refine Ze (Vd O X1m 4)<|Ze (X0 O X8 (g.at 4))<|Ze (Vd O X1m 4)<|Ze (X0 O X8 (k.at 4))<|Ze (X16 O O)<|Zt aV fun a u=>?_
 refine X12 u O (fun aG aA=>?_) (fun aG aA=>?_)
 ·have aB:m.exp<y.exp:=aA
  refine Q7<|aU _ _<|Q8<|X08 (some bV) (fun j=>[9].contains j) mixed ?_;intro w5 n;have e:=e.bw n;have g:=g.bw n;have k:=k.bw n;have i:=i.bw n;have p:=ktr p n;refine Yb u<|Yo 0 O (fun _=>X7 O)<|Yo 1 O (fun _=>Vd O X1q 0) ?_;refine Yw 2 O tv0 (fun w1 B=>Xx (l:=[vi m.num.a,vi m.num.b,vi m.num.c,vi m.num.d]) O X0k (((g.oz B e O).at 0).take 4) O) ?_;refine Yo 5 O (fun _=>Vd O X1m 4) ?_;refine Yw 6 O tv0 (fun w1 B=>X0 O X8 ((g.oz B e O).at 4)) ?_;refine Yo 7 O (fun _=>X03 O O Z Z)<|Y1 3 ?_;refine Yf O tv0 (EfW.mono (Vc (Xvy _ m.num) Xhl) (fun _ _ h=>⟨fun _=>by obtain ⟨rfl,n⟩:=h;exact Keep.of_below n,h⟩)) ?_;rintro _ w6 ⟨rfl,n⟩;have e:=e.bw n;have g:=g.bw n;have k:=k.bw n;have i:=i.bw n;have p:=ktr p n;refine Y1 4<|Yf O tv0 (EfW.mono (Vc (Xr2 _ bV G e (rRoot m.num)) Xdx) (fun _ _ h=>⟨fun _=>by obtain ⟨rfl,A,t⟩:=h;exact A.keep,h⟩)) ?_;rintro _ w7 ⟨rfl,A,t⟩;obtain ⟨wm,z,hm,n⟩:=A.mid;clear hm;have q:=e;have g:=g.oz z q O;have k:=k.oz z q O;have i:=i.oz z q O;have p:=p.self z;have g:=g.bw n;have k:=k.bw n;have i:=i.bw n;have p:=ktr p n
  clear q n z A;have e:=t;clear t;refine Yo 8 O (fun _=>Xi (ps:=[(0,.agg #[vi ((sRing (rRoot m.num)).a),vi ((sRing (rRoot m.num)).b),vi ((sRing (rRoot m.num)).c),vi ((sRing (rRoot m.num)).d)]),(1,vi (m.exp+1))]) (cs:=[vi ((sRing (rRoot m.num)).a),vi ((sRing (rRoot m.num)).b),vi ((sRing (rRoot m.num)).c),vi ((sRing (rRoot m.num)).d),vi (m.exp+1)]) O (fun _=>by first|rfl|kernel_rfl))<|Y1 9 ?_;refine Yh O tv0 O (Vw [vi ((sRing (rRoot m.num)).a),vi ((sRing (rRoot m.num)).b),vi ((sRing (rRoot m.num)).c),vi ((sRing (rRoot m.num)).d),vi (m.exp+1)] X09 g) ?_;rintro _ w8 ⟨C,hb⟩;have e:=e.oz C g O;have k:=k.oy C Z;have i:=i.oy C Z;have p:=Kept.oy p C aD;have g:=hb;refine Yd fun a u=>?_;refine Xn<|Xd ?_;exact ⟨(G||!rOk (rRoot m.num),⟨sRing (rRoot m.num),m.exp+1⟩),⟨u.sb,(X94 H aB),O7,e,g,k,i,p⟩,O1⟩
 have aH:=X93 H aA;refine Q9<|Xm<|Xm<|X0a ?_;refine aT _ _<|Q5 fun _ aW=>?_;refine Q8<|X0d (σ:=Bool×Dy) (fun (s:Bool×Dy) (a:Act) (w:World)=>match s with|(f2,o)=>Fr a 45 [(0,(pZ9 bV)),(4,(pZ9 b2)),(5,(pZ9 b3)),(6,(pZ9 b4))]/\(sRaiseN (m.exp-o.exp).toNat f2 o=sRaiseN (m.exp-y.exp).toNat G y)/\(0<=o.exp/\o.exp<=60)/\Blk w bV 149 [.bool f2]/\Blk w b2 139 [vi m.num.a,vi m.num.b,vi m.num.c,vi m.num.d,vi m.exp]/\Blk w b3 139 [vi o.num.a,vi o.num.b,vi o.num.c,vi o.num.d,vi o.exp]/\Blk w b4 139 [vi 0,vi 0,vi 0,vi 0,vi 0]/\Kept bV w0.heap.size w0 w) (fun (s:Bool×Dy)=>match s with|(f2,o)=>(m.exp-o.exp).toNat) (G,y) ?_ ?_
 ·exact ⟨u.sb,O,hy,e,g,k,i,p⟩
 rintro ⟨f2,o⟩ a w9 ⟨u,D,aZ,e,g,k,i,p⟩;refine Q5 fun _ aI=>?_;refine Zs u fun _ aJ=>?_;refine Ze (Vd O X1m 4)<|Ze (X0 O X8 (k.at 4))<|Ze (Vd O X1m 4)<|Ze (X0 O X8 (g.at 4))<|Ze (X16 O O)<|Zt aJ fun a u=>?_
 refine X12 u O (fun aC E=>?_) (fun aC E=>?_)
 ·have aB:o.exp<m.exp:=E
  refine Q7<|aI _ _<|Q8<|X08 (some bV) (fun j=>[9].contains j) mixed ?_;intro b0 n;have e:=e.bw n;have g:=g.bw n;have k:=k.bw n;have i:=i.bw n;have p:=ktr p n;refine Yb u<|Yo 0 O (fun _=>X7 O)<|Yo 1 O (fun _=>Vd O X1q 0) ?_;refine Yw 2 O tv0 (fun w1 B=>Xx (l:=[vi o.num.a,vi o.num.b,vi o.num.c,vi o.num.d]) O X0k (((k.oz B e O).at 0).take 4) O) ?_;refine Yo 5 O (fun _=>Vd O X1m 4) ?_;refine Yw 6 O tv0 (fun w1 B=>X0 O X8 ((k.oz B e O).at 4)) ?_;refine Yo 7 O (fun _=>X03 O O Z Z)<|Y1 3 ?_;refine Yf O tv0 (EfW.mono (Vc (Xvy _ o.num) Xhl) (fun _ _ h=>⟨fun _=>by obtain ⟨rfl,n⟩:=h;exact Keep.of_below n,h⟩)) ?_;rintro _ b1 ⟨rfl,n⟩;have e:=e.bw n;have g:=g.bw n;have k:=k.bw n;have i:=i.bw n;have p:=ktr p n;refine Y1 4<|Yf O tv0 (EfW.mono (Vc (Xr2 _ bV f2 e (rRoot o.num)) Xdx) (fun _ _ h=>⟨fun _=>by obtain ⟨rfl,A,t⟩:=h;exact A.keep,h⟩)) ?_;rintro _ b5 ⟨rfl,A,t⟩;obtain ⟨wm,z,hm,n⟩:=A.mid;clear hm;have q:=e;have g:=g.oz z q O;have k:=k.oz z q O;have i:=i.oz z q O;have p:=p.self z;have g:=g.bw n;have k:=k.bw n;have i:=i.bw n;have p:=ktr p n
  clear q n z A;have e:=t;clear t;refine Yo 8 O (fun _=>Xi (ps:=[(0,.agg #[vi ((sRing (rRoot o.num)).a),vi ((sRing (rRoot o.num)).b),vi ((sRing (rRoot o.num)).c),vi ((sRing (rRoot o.num)).d)]),(1,vi (o.exp+1))]) (cs:=[vi ((sRing (rRoot o.num)).a),vi ((sRing (rRoot o.num)).b),vi ((sRing (rRoot o.num)).c),vi ((sRing (rRoot o.num)).d),vi (o.exp+1)]) O (fun _=>by first|rfl|kernel_rfl))<|Y1 9 ?_;refine Yh O tv0 O (Vw [vi ((sRing (rRoot o.num)).a),vi ((sRing (rRoot o.num)).b),vi ((sRing (rRoot o.num)).c),vi ((sRing (rRoot o.num)).d),vi (o.exp+1)] X09 k) ?_;rintro _ b6 ⟨C,hb⟩;have e:=e.oz C k O;have g:=g.oy C Z;have i:=i.oy C Z;have p:=Kept.oy p C aE;have k:=hb;refine Yd fun a u=>?_;refine Xn<|Xd ?_;exact ⟨(f2||!rOk (rRoot o.num),⟨sRing (rRoot o.num),o.exp+1⟩),⟨u.sb,(X94 D aB),O7,e,g,k,i,p⟩,O1⟩
 have aK:=X93 D E;refine Q9<|Xm<|Xm<|X0a ?_;refine aW _ _<|Q5 fun _ aL=>?_;refine X08 (some bV) (fun j=>[10].contains j) mixed ?_;intro b7 n;have e:=e.bw n;have g:=g.bw n;have k:=k.bw n;have i:=i.bw n;have p:=ktr p n;refine Yb u<|Yo 0 O (fun _=>X7 O)<|Yo 1 O (fun _=>Vd O X1q 0) ?_;refine Yw 2 O tv0 (fun w1 B=>Xx (l:=[vi m.num.a,vi m.num.b,vi m.num.c,vi m.num.d]) O X0k (((g.oz B e O).at 0).take 4) O) ?_;refine Yo 3 O (fun _=>Vd O X1q 0) ?_;refine Yw 4 O tv0 (fun w1 B=>Xx (l:=[vi o.num.a,vi o.num.b,vi o.num.c,vi o.num.d]) O X0k (((k.oz B e O).at 0).take 4) O) ?_;refine Yo 7 O (fun _=>Vd O X1m 4) ?_;refine Yw 8 O tv0 (fun w1 B=>X0 O X8 ((g.oz B e O).at 4)) ?_;refine Y1 5<|Yf O tv0 (EfW.mono (Vc (Y2j _ m.num o.num) Xxs) (fun _ _ h=>⟨fun _=>by obtain ⟨rfl,n⟩:=h;exact Keep.of_below n,h⟩)) ?_;rintro _ b8 ⟨rfl,n⟩;have e:=e.bw n;have i:=i.bw n;have p:=ktr p n;refine Y1 6<|Yf O tv0 (EfW.mono (Vc (Xr2 _ bV f2 e (rAdd m.num o.num)) Xdx) (fun _ _ h=>⟨fun _=>by obtain ⟨rfl,A,t⟩:=h;exact A.keep,h⟩)) ?_;rintro _ b9 ⟨rfl,A,t⟩;obtain ⟨wm,z,hm,n⟩:=A.mid;clear hm;have q:=e;have i:=i.oz z q O;have p:=p.self z;have i:=i.bw n;have p:=ktr p n
 clear q n z A;have e:=t;clear t;refine Y1 9<|Yf O tv0 (EfW.mono (Vc (Y0h _ (sRing (rAdd m.num o.num)) m.exp Z) Xom) (fun _ _ h=>⟨fun _=>by obtain ⟨rfl,n⟩:=h;exact Keep.of_below n,h⟩)) ?_;rintro _ bC ⟨rfl,n⟩;have e:=e.bw n;have i:=i.bw n;have p:=ktr p n;refine Y1 10<|Yh O tv0 O (Vw [vi ((dLow (sRing (rAdd m.num o.num)) m.exp).num.a),vi ((dLow (sRing (rAdd m.num o.num)) m.exp).num.b),vi ((dLow (sRing (rAdd m.num o.num)) m.exp).num.c),vi ((dLow (sRing (rAdd m.num o.num)) m.exp).num.d),vi ((dLow (sRing (rAdd m.num o.num)) m.exp).exp)] X09 i) ?_;rintro _ bD ⟨C,hb⟩;have e:=e.oz C i O;have p:=Kept.oy p C aF;have i:=hb;refine Yd fun a u=>?_;refine aL _ _ ?_
 refine Q6 (X4 u (Xv u O (ResV.cellN (l:=[vi ((dLow (sRing (rAdd m.num o.num)) m.exp).num.a),vi ((dLow (sRing (rAdd m.num o.num)) m.exp).num.b),vi ((dLow (sRing (rAdd m.num o.num)) m.exp).num.c),vi ((dLow (sRing (rAdd m.num o.num)) m.exp).num.d),vi ((dLow (sRing (rAdd m.num o.num)) m.exp).exp)]) O Xr (i.at 0) O)) ?_)
 exact ⟨by rw [sAdd,aH];dsimp only;rw [aK],p,by rw [sAdd,aH];dsimp only;rw [aK];exact e⟩
theorem Xl2(w0:World)(n:Int)(s:Int)(q:Int)(h0:0<=q)(h1:q<n)(h2:n<=5) : Ret Tryz.prog 131 [vi n,vi s,vi q] w0 (fun v w=>v=vi (bitF n s q)/\w0=w):=by
 refine enter Tryz.func131 O 14 O O ?_;intro a hf
 have hW:=bz w0
 refine Zs hf fun _ aA=>?_;refine Za O<|Zx aA fun a hf _ aB=>?_;refine Zm O<|Zm O<|Ze (X18 O O Z Z)<|Zm O<|Ze (X18 O O Z Z)<|Ze (Y0r (m:=(n-1-q).toNat) O O Z Z)<|Ze (Xw3 O O)<|Za O<|Zt aB fun a hf=>?_
 refine Q6 (X4 hf (Xv hf O O) ?_)
 exact ⟨O,O⟩
theorem Xr1(w0:World)(n:Int)(s:Int)(q:Int)(h0:0<=q)(h1:q<n)(h2:n<=5) : Ret Tryz.prog 132 [vi n,vi s,vi q] w0 (fun v w=>v=vi (flipF n s q)/\w0=w):=by
 refine enter Tryz.func132 O 14 O O ?_;intro a hf
 have hW:=bz w0
 refine Zs hf fun _ aA=>?_;refine Za O<|Zx aA fun a hf _ aB=>?_;refine Zm O<|Zm O<|Ze (X18 O O Z Z)<|Zm O<|Ze (X18 O O Z Z)<|Ze (Xmu (m:=(n-1-q).toNat) O O Z Z)<|Ze (Xmv O O)<|Za O<|Zt aB fun a hf=>?_
 refine Q6 (X4 hf (Xv hf O O) ?_)
 exact ⟨O,O⟩
theorem Xgz(w0:World)(n:Int)(s:Int)(q:Int)(h0:0<=q)(h1:q<n)(h2:n<=5) : Ret Tryz.prog 199 [vi n,vi s,vi q] w0 (fun v w=>v=vi (bitF n s q)/\w0=w):=by
 refine enter Tryz.func199 O 15 O O ?_;intro a hf
 have hW:=bz w0
 refine Zs hf fun _ aA=>?_;refine Za O<|Zx aA fun a hf _ aB=>?_;refine Zm O<|Zm O<|Ze (X18 O O Z Z)<|Zm O<|Ze (X18 O O Z Z)<|Ze (Xh4 (m:=(n-1-q).toNat) Tryz.underlying3 Tryz.underlying151 O Z Z)<|Ze (Y0r (m:=(n-1-q).toNat) O O O Z)<|Ze (Xw3 O O)<|Za O<|Zt aB fun a hf=>?_
 refine Q6 (X4 hf (Xv hf O O) ?_)
 exact ⟨O,O⟩
theorem Y2i(w0:World)(k:Int)(hk:1<=k/\k<=8) : Ret Tryz.prog 200 [vi k] w0 (fun v w=>∃ A c,v=.slice A (oneL k).length c/\Own w w0.heap.size 139 5 encD A c (oneL k)/\Below w0.heap.size w0 w):=by
 refine enter Tryz.func200 O 43 O O ?_;intro a j
 have i:=bz w0
 refine Zs j fun _ bE=>?_;refine Za O<|Zx bE fun a j _ bF=>?_;refine Zf (Vc (Xf2 _ 0) X57) ?_;rintro _ w1 ⟨rfl,g⟩;have i:=btr i g;refine Ze (Xi (ps:=[]) (cs:=[vi 0,vi 0,vi 0,vi 0,vi 0]) O (fun _=>by first|rfl|kernel_rfl))<|Zf (Xl (zs:=[vi 0,vi 0,vi 0,vi 0,vi 0]) X1s O) ?_;rintro _ w2 ⟨b4,rfl,bG,g,e⟩;have aF:=Q0 i.size bG;have i:=btr i g;refine Zf (Xl (zs:=[vi 0,vi 0,vi 0,vi 0,vi 0]) X1s O) ?_;rintro _ w3 ⟨b5,rfl,bH,g,f⟩
 have b9:b4≠b5:=by have:=e.lt;omega
 have aG:=Q0 i.size bH;have e:=e.bw g;have i:=btr i g;refine Zo (Vw [vi ((dPow 0).num.a),vi ((dPow 0).num.b),vi ((dPow 0).num.c),vi ((dPow 0).num.d),vi ((dPow 0).exp)] X09 e) ?_;rintro _ w4 ⟨ho,hb⟩;have f:=f.oy ho Z;have i:=Below.oy i ho aF;have e:=hb;refine Zo (Vw [vi 0,vi 0,vi 0,vi 0,vi 0] X09 f) ?_;rintro _ w5 ⟨ho,hb⟩;have e:=e.oy ho Z;have i:=Below.oy i ho aG;have f:=hb;refine Zx bF fun a j _ bI=>?_;refine Ze (Xi (ps:=[(0,vi 1)]) (cs:=[vi 1,vi 0,vi 0,vi 0]) O (fun _=>by first|rfl|kernel_rfl))<|Ze (Xi (ps:=[(0,.agg #[vi 1,vi 0,vi 0,vi 0]),(1,vi 1)]) (cs:=[vi 1,vi 0,vi 0,vi 0,vi 1]) O (fun _=>by first|rfl|kernel_rfl)) ?_;refine ZB [vi 1,vi 0,vi 0,vi 0,vi 1] X1s X09 fun b7 w7 bJ g m=>?_
 have bC:b4≠b7:=by have:=e.lt;omega
 have bD:b5≠b7:=by have:=f.lt;omega
 have bN:=Q0 i.size bJ;have e:=e.bw g;have f:=f.bw g;have i:=btr i g;refine ZX bI fun a j _ bK=>?_;refine Zs j fun _ bL=>?_;refine Zm O<|Zt bL fun a j=>?_;refine Q8<|Zs j fun _ aH=>?_;refine Ze (X13 O O)<|Za O<|Zt aH fun a j=>?_
 refine X04 j O (fun n=>?_) (fun n=>?_)
 ·have q:k=1:=by simpa using n
  refine Q5 fun _ aI=>?_;refine X08 none (fun _=>false) mixed ?_;intro w8 g;have e:=e.bw g;have f:=f.bw g;have m:=m.bw g;have i:=btr i g;refine Yb j<|Ye 0 O (Vn Xr m)<|Ye 1 O (Vn Xr m)<|Ye 2 O (Vn Xr m)<|Ye 3 O (Vn Xr m)<|Y1 4 ?_;refine Yk O tv0 (Vc (Y2o _ (⟨(⟨1,0,0,0⟩ : Rg),1⟩ : Dy)) Xxx) (fun _ _ ⟨_,g⟩=>g) ?_;rintro _ w9 ⟨rfl,g⟩;have e:=e.bw g;have f:=f.bw g;have m:=m.bw g;have i:=btr i g;refine Y1 5<|Yk O tv0 (X2 (k:=4) (vs:=[.agg #[vi 1,vi 0,vi 0,vi 0,vi 1],.agg #[vi 1,vi 0,vi 0,vi 0,vi 1],.agg #[vi 1,vi 0,vi 0,vi 0,vi 1],.agg #[vi ((dNeg (⟨(⟨1,0,0,0⟩ : Rg),1⟩ : Dy)).num.a),vi ((dNeg (⟨(⟨1,0,0,0⟩ : Rg),1⟩ : Dy)).num.b),vi ((dNeg (⟨(⟨1,0,0,0⟩ : Rg),1⟩ : Dy)).num.c),vi ((dNeg (⟨(⟨1,0,0,0⟩ : Rg),1⟩ : Dy)).num.d),vi ((dNeg (⟨(⟨1,0,0,0⟩ : Rg),1⟩ : Dy)).exp)]]) (zs:=[vi 1,vi 0,vi 0,vi 0,vi 1,vi 1,vi 0,vi 0,vi 0,vi 1,vi 1,vi 0,vi 0,vi 0,vi 1,vi ((dNeg (⟨(⟨1,0,0,0⟩ : Rg),1⟩ : Dy)).num.a),vi ((dNeg (⟨(⟨1,0,0,0⟩ : Rg),1⟩ : Dy)).num.b),vi ((dNeg (⟨(⟨1,0,0,0⟩ : Rg),1⟩ : Dy)).num.c),vi ((dNeg (⟨(⟨1,0,0,0⟩ : Rg),1⟩ : Dy)).num.d),vi ((dNeg (⟨(⟨1,0,0,0⟩ : Rg),1⟩ : Dy)).exp)]) O X1h X30 O O) (fun _ _ ⟨_,_,_,h,_⟩=>h) ?_;rintro _ bO ⟨b13,rfl,aJ,g,aK⟩
  have aL:b4≠b13:=by have:=e.lt;omega
  have aM:b5≠b13:=by have:=f.lt;omega
  have aN:b7≠b13:=by have:=m.lt;omega
  have aA:=Q0 i.size aJ;have i:=btr i g;refine Yo 6 O (fun _=>X0y O) ?_;refine Yd fun a j=>?_;refine aI _ _<|Q6<|Xo<|X5 ?_;refine X4 j (Xv j O O) ?_;exact ⟨(some ⟨b13,0,none⟩),4,by rw [oneL,Q4 q];rfl,by rw [oneL,Q4 q];exact (Own.of_blkL X1e aK aA rfl rfl O4),i⟩
 have q:¬ k=1:=by simpa using n
 refine Zs j fun _ aO=>?_;refine Ze (X13 O O)<|Za O<|Zt aO fun a j=>?_
 refine X04 j O (fun o=>?_) (fun o=>?_)
 ·have e2:k=2:=by simpa using o
  refine Zs j fun _ aP=>?_;refine Ze (Vn Xr f)<|Ze (Vn Xr e)<|Ze (Vn Xr e)<|Ze (Vn Xr f)<|Zf (X2 (k:=4) (vs:=[.agg #[vi 0,vi 0,vi 0,vi 0,vi 0],.agg #[vi ((dPow 0).num.a),vi ((dPow 0).num.b),vi ((dPow 0).num.c),vi ((dPow 0).num.d),vi ((dPow 0).exp)],.agg #[vi ((dPow 0).num.a),vi ((dPow 0).num.b),vi ((dPow 0).num.c),vi ((dPow 0).num.d),vi ((dPow 0).exp)],.agg #[vi 0,vi 0,vi 0,vi 0,vi 0]]) (zs:=[vi 0,vi 0,vi 0,vi 0,vi 0,vi ((dPow 0).num.a),vi ((dPow 0).num.b),vi ((dPow 0).num.c),vi ((dPow 0).num.d),vi ((dPow 0).exp),vi ((dPow 0).num.a),vi ((dPow 0).num.b),vi ((dPow 0).num.c),vi ((dPow 0).num.d),vi ((dPow 0).exp),vi 0,vi 0,vi 0,vi 0,vi 0]) O X1h X30 O O) ?_;rintro _ bP ⟨b18,rfl,aQ,g,aR⟩
  have aS:b4≠b18:=by have:=e.lt;omega
  have aT:b5≠b18:=by have:=f.lt;omega
  have aB:=Q0 i.size aQ;have i:=btr i g;refine Za O<|Zt aP fun a j=>?_;refine Q6<|Xo<|X5<|X4 j (Xv j O O) ?_;exact ⟨(some ⟨b18,0,none⟩),4,by rw [oneL,Q3 q,Q4 e2];rfl,by rw [oneL,Q3 q,Q4 e2];exact (Own.of_blkL X1e aR aB rfl rfl O4),i⟩
 have e2:¬ k=2:=by simpa using o
 refine Zs j fun _ aU=>?_;refine Ze (X13 O O)<|Za O<|Zt aU fun a j=>?_
 refine X04 j O (fun p=>?_) (fun p=>?_)
 ·have e3:k=3:=by simpa using p
  refine Q5 fun _ aV=>?_;refine X08 none (fun _=>false) mixed ?_;intro bQ g;have e:=e.bw g;have f:=f.bw g;have i:=btr i g;refine Yb j<|Ye 0 O (Vn Xr f)<|Ye 3 O (Vn Xr f)<|Y1 1 ?_;refine Yk O tv0 (Vc (Xf2 _ 6) X57) (fun _ _ ⟨_,g⟩=>g) ?_;rintro _ bR ⟨rfl,g⟩;have e:=e.bw g;have f:=f.bw g;have i:=btr i g;refine Y1 2<|Yk O tv0 (Vc (Xf2 _ 2) X57) (fun _ _ ⟨_,g⟩=>g) ?_;rintro _ bS ⟨rfl,g⟩;have e:=e.bw g;have f:=f.bw g;have i:=btr i g;refine Y1 4<|Yk O tv0 (X2 (k:=4) (vs:=[.agg #[vi 0,vi 0,vi 0,vi 0,vi 0],.agg #[vi ((dPow 6).num.a),vi ((dPow 6).num.b),vi ((dPow 6).num.c),vi ((dPow 6).num.d),vi ((dPow 6).exp)],.agg #[vi ((dPow 2).num.a),vi ((dPow 2).num.b),vi ((dPow 2).num.c),vi ((dPow 2).num.d),vi ((dPow 2).exp)],.agg #[vi 0,vi 0,vi 0,vi 0,vi 0]]) (zs:=[vi 0,vi 0,vi 0,vi 0,vi 0,vi ((dPow 6).num.a),vi ((dPow 6).num.b),vi ((dPow 6).num.c),vi ((dPow 6).num.d),vi ((dPow 6).exp),vi ((dPow 2).num.a),vi ((dPow 2).num.b),vi ((dPow 2).num.c),vi ((dPow 2).num.d),vi ((dPow 2).exp),vi 0,vi 0,vi 0,vi 0,vi 0]) O X1h X30 O O) (fun _ _ ⟨_,_,_,h,_⟩=>h) ?_;rintro _ bU ⟨b23,rfl,aW,g,aX⟩
  have aY:b4≠b23:=by have:=e.lt;omega
  have aZ:b5≠b23:=by have:=f.lt;omega
  have aC:=Q0 i.size aW;have i:=btr i g;refine Yo 5 O (fun _=>X0y O) ?_;refine Yd fun a j=>?_;refine aV _ _<|Q6<|Xo<|X5 ?_;refine X4 j (Xv j O O) ?_;exact ⟨(some ⟨b23,0,none⟩),4,by rw [oneL,Q3 q,Q3 e2,Q4 e3];rfl,by rw [oneL,Q3 q,Q3 e2,Q4 e3];exact (Own.of_blkL X1e aX aC rfl rfl O4),i⟩
 have e3:¬ k=3:=by simpa using p
 refine Q7<|Xn<|bK _ _<|Q5 fun _ b0=>?_;refine X08 none (fun _=>false) mixed ?_;intro bW g;have e:=e.bw g;have f:=f.bw g;have i:=btr i g;refine Yb j<|Ye 0 O (Vn Xr e)<|Ye 1 O (Vn Xr f)<|Ye 2 O (Vn Xr f)<|Yo 4 O (fun _=>X7 O)<|Yo 5 O (fun _=>X18 O O Z Z)<|Y1 3 ?_;refine Yk O tv0 (X2 (k:=5) (vs:=[vi 4,vi 2,vi 6,vi 1,vi 7]) (zs:=[vi 4,vi 2,vi 6,vi 1,vi 7]) O Xy X1a O O) (fun _ _ ⟨_,_,_,h,_⟩=>h) ?_;rintro _ bX ⟨bY,rfl,b1,g,t⟩;have bM:=Q0 i.size b1;have e:=e.bw g;have f:=f.bw g;have i:=btr i g;refine Yi (k:=(k-4).toNat) (u:=(turnOf k)) (enc:=encI) (l:=[4,2,6,1,7]) 6 O tv0 O O Xy X1o Xt (Rd.of_blk t O _ t.lt) (Xqo Z Z) Z ?_;intro bZ aD;refine Ye 7 O (X0 O X8 aD)<|Y1 8 ?_;refine Yk O tv0 (Vc (Xf2 _ (turnOf k)) X57) (fun _ _ ⟨_,g⟩=>g) ?_;rintro _ c4 ⟨rfl,g⟩;have e:=e.bw g;have f:=f.bw g;have i:=btr i g;refine Y1 9<|Yk O tv0 (X2 (k:=4) (vs:=[.agg #[vi ((dPow 0).num.a),vi ((dPow 0).num.b),vi ((dPow 0).num.c),vi ((dPow 0).num.d),vi ((dPow 0).exp)],.agg #[vi 0,vi 0,vi 0,vi 0,vi 0],.agg #[vi 0,vi 0,vi 0,vi 0,vi 0],.agg #[vi ((dPow (turnOf k)).num.a),vi ((dPow (turnOf k)).num.b),vi ((dPow (turnOf k)).num.c),vi ((dPow (turnOf k)).num.d),vi ((dPow (turnOf k)).exp)]]) (zs:=[vi ((dPow 0).num.a),vi ((dPow 0).num.b),vi ((dPow 0).num.c),vi ((dPow 0).num.d),vi ((dPow 0).exp),vi 0,vi 0,vi 0,vi 0,vi 0,vi 0,vi 0,vi 0,vi 0,vi 0,vi ((dPow (turnOf k)).num.a),vi ((dPow (turnOf k)).num.b),vi ((dPow (turnOf k)).num.c),vi ((dPow (turnOf k)).num.d),vi ((dPow (turnOf k)).exp)]) O X1h X30 O O) (fun _ _ ⟨_,_,_,h,_⟩=>h) ?_;rintro _ cA ⟨b30,rfl,b2,g,b3⟩
 have b6:b4≠b30:=by have:=e.lt;omega
 have b8:b5≠b30:=by have:=f.lt;omega
 have aE:=Q0 i.size b2;have i:=btr i g;refine Yo 10 O (fun _=>X0y O) ?_;refine Yd fun a j=>?_;refine b0 _ _ ?_
 refine Q6 (X4 j (Xv j O O) ?_)
 exact ⟨(some ⟨b30,0,none⟩),4,by rw [oneL,Q3 q,Q3 e2,Q3 e3];rfl,by rw [oneL,Q3 q,Q3 e2,Q3 e3];exact (Own.of_blkL X1e b3 aE rfl rfl O4),i⟩
theorem Y25(w0:World)(n:Int)(g:Gt)(row:Int)(col:Int)(hg:gOk n g=true) : Ret Tryz.prog 160 [vi n,.agg #[vi g.k,vi g.a,vi g.b],vi row,vi col] w0 (fun v w=>v=dV (cellS n g row col)/\Below w0.heap.size w0 w):=by
 have cL:=X1i hg;have cM:=X36 n row g.a;have cN:=X36 n col g.a;refine enter Tryz.func160 O 119 O O ?_;intro a f
 have o:=bz w0
 refine Zs f fun _ cA=>?_;refine Zf (X0m (zs:=[vi g.k,vi g.a,vi g.b]) O O) ?_;rintro _ w1 ⟨b2,rfl,cB,h,p⟩;have cK:=Q0 o.size cB;have o:=btr o h;refine Zf (Xl (zs:=[vi 0,vi 0,vi 0,vi 0,vi 0]) X1s O) ?_;rintro _ w2 ⟨b3,rfl,cC,h,e⟩;have y:=Q0 o.size cC;have p:=p.bw h;have o:=btr o h;refine Zx cA fun a f _ cD=>?_;refine Zf (Vc (Xf2 _ 0) X57) ?_;rintro _ w3 ⟨rfl,h⟩;have p:=p.bw h;have e:=e.bw h;have o:=btr o h;refine Ze (Xi (ps:=[]) (cs:=[vi 0,vi 0,vi 0,vi 0,vi 0]) O (fun _=>by first|rfl|kernel_rfl))<|Zf (Xl (zs:=[vi 0,vi 0,vi 0,vi 0,vi 0]) X1s O) ?_;rintro _ w4 ⟨b5,rfl,cE,h,x⟩
 have bY:b3≠b5:=by have:=e.lt;omega
 have M:=Q0 o.size cE;have p:=p.bw h;have e:=e.bw h;have o:=btr o h;refine Zf (Xl (zs:=[vi 0,vi 0,vi 0,vi 0,vi 0]) X1s O) ?_;rintro _ w5 ⟨b6,rfl,cF,h,t⟩
 have bZ:b3≠b6:=by have:=e.lt;omega
 have c4:b5≠b6:=by have:=x.lt;omega
 have aK:=Q0 o.size cF;have p:=p.bw h;have e:=e.bw h;have x:=x.bw h;have o:=btr o h;refine Zo (Vw [vi ((dPow 0).num.a),vi ((dPow 0).num.b),vi ((dPow 0).num.c),vi ((dPow 0).num.d),vi ((dPow 0).exp)] X09 x) ?_;rintro _ w6 ⟨z,A⟩;have p:=p.oz z x O;have e:=e.oy z Z;have t:=t.oy z Z;have o:=Below.oy o z M;have x:=A;refine Zo (Vw [vi 0,vi 0,vi 0,vi 0,vi 0] X09 t) ?_;rintro _ w7 ⟨z,A⟩;have p:=p.oz z t O;have e:=e.oy z Z;have x:=x.oy z Z;have o:=Below.oy o z aK;have t:=A;refine Zx cD fun a f _ cG=>?_;refine Zm O<|Za O<|ZX cG fun a f _ I=>?_;refine Zs f fun _ cH=>?_;refine Ze (Vd O X0n 0)<|Ze (X0 O X8 (p.at 0))<|Zt cH fun a f=>?_;refine Q8<|Zs f fun _ aL=>?_;refine Ze (X13 O O)<|Za O<|Zt aL fun a f=>?_
 refine X04 f O (fun C=>?_) (fun C=>?_)
 ·have J:=eq_of_beq C
  have G:¬ g.k<=8:=by omega
  have B:toS n g col=col:=by simp [toS,J]
  have N:valS n g col=dPow 1:=by simp [valS,J]
  refine Zr f<|Zf (Vc (Xf2 _ 1) X57) ?_;rintro _ w8 ⟨rfl,h⟩;have e:=e.bw h;have x:=x.bw h;have t:=t.bw h;have o:=btr o h;refine Zo (Vw [vi ((dPow 1).num.a),vi ((dPow 1).num.b),vi ((dPow 1).num.c),vi ((dPow 1).num.d),vi ((dPow 1).exp)] X09 x) ?_;rintro _ w9 ⟨z,A⟩;have e:=e.oy z Z;have t:=t.oy z Z;have o:=Below.oy o z M;have x:=A;refine Zn fun a f=>?_;refine Xn<|I _ _<|Q5 fun _ aM=>?_;refine Zs f fun _ aN=>?_;refine Zm O<|Zm O<|Ze (X13 O O)<|Zt aN fun a f=>?_
  refine X04 f O (fun Q=>?_) (fun Q=>?_)
  ·have i:cellS n g row col=valS n g col:=by rw [cellS,Q3 G,Q4 ((eq_of_beq Q).trans B.symm)]
   rw [N] at i
   refine Zs f fun _ aO=>?_;refine Ze (Vn Xr x)<|Zo (Vw [vi ((dPow 1).num.a),vi ((dPow 1).num.b),vi ((dPow 1).num.c),vi ((dPow 1).num.d),vi ((dPow 1).exp)] X09 e) ?_;rintro _ cO ⟨z,A⟩;have o:=Below.oy o z y;have e:=A;refine Zt aO fun a f=>?_;refine Q6<|X5<|X4 f (Xv f O (ResV.cellN (l:=[vi ((dPow 1).num.a),vi ((dPow 1).num.b),vi ((dPow 1).num.c),vi ((dPow 1).num.d),vi ((dPow 1).exp)]) O Xr (e.at 0) O)) ?_;exact ⟨(by rw [i];try rfl),o⟩
  have i:cellS n g row col=dZ:=by rw [cellS,Q3 G,Q3 (fun L=>X1k Q (L.trans B))]
  refine Q7<|aM _ _<|Zs f fun _ aP=>?_;refine Ze (Vn Xr t)<|Zo (Vw [vi 0,vi 0,vi 0,vi 0,vi 0] X09 e) ?_;rintro _ cP ⟨z,A⟩;have o:=Below.oy o z y;have e:=A;refine Zt aP fun a f=>?_
  refine Q6 (X4 f (Xv f O (ResV.cellN (l:=[vi 0,vi 0,vi 0,vi 0,vi 0]) O Xr (e.at 0) O)) ?_)
  exact ⟨(by rw [i];try rfl),o⟩
 have cQ:=X1k C;refine Zs f fun _ aQ=>?_;refine Ze (X13 O O)<|Za O<|Zt aQ fun a f=>?_
 refine X04 f O (fun D=>?_) (fun D=>?_)
 ·have J:=eq_of_beq D
  have G:¬ g.k<=8:=by omega
  have N:valS n g col=dPow 0:=by simp [valS,J]
  refine Zs f fun _ aR=>?_;refine Zm O<|Zm O<|Ze (Vd O X0p 1)<|Ze (X0 O X8 (p.at 1))<|Zf (Vc (Xgz _ n col g.a Z Z Z) X6t) ?_;rintro _ _ ⟨rfl,rfl⟩;refine Ze (X13 O O)<|Zt aR fun a f=>?_
  refine X04 f O (fun U=>?_) (fun U=>?_)
  ·have B:toS n g col=flipF n col g.b:=by rw [toS,Q4 J,Q4 (eq_of_beq U)]
   refine Zr f<|Zm O<|Zm O<|Ze (X18 O O Z Z)<|Ze (Vd O X14 2)<|Ze (X0 O X8 (p.at 2))<|Ze (X18 O O Z Z)<|Ze (Xh4 (m:=(n-1-g.b).toNat) Tryz.underlying3 Tryz.underlying151 O Z Z)<|Ze (Xmu (m:=(n-1-g.b).toNat) O O O Z)<|Ze (Xmv O O)<|Za O ?_;refine Zn fun a f=>?_;refine Xn<|I _ _<|Q5 fun _ aS=>?_;refine Zs f fun _ aT=>?_;refine Zm O<|Zm O<|Ze (X13 O O)<|Zt aT fun a f=>?_
   refine X04 f O (fun W=>?_) (fun W=>?_)
   ·have i:cellS n g row col=valS n g col:=by rw [cellS,Q3 G,Q4 ((eq_of_beq W).trans B.symm)]
    rw [N] at i
    refine Zs f fun _ aU=>?_;refine Ze (Vn Xr x)<|Zo (Vw [vi ((dPow 0).num.a),vi ((dPow 0).num.b),vi ((dPow 0).num.c),vi ((dPow 0).num.d),vi ((dPow 0).exp)] X09 e) ?_;rintro _ cR ⟨z,A⟩;have o:=Below.oy o z y;have e:=A;refine Zt aU fun a f=>?_;refine Q6<|X5<|X4 f (Xv f O (ResV.cellN (l:=[vi ((dPow 0).num.a),vi ((dPow 0).num.b),vi ((dPow 0).num.c),vi ((dPow 0).num.d),vi ((dPow 0).exp)]) O Xr (e.at 0) O)) ?_;exact ⟨(by rw [i];try rfl),o⟩
   have i:cellS n g row col=dZ:=by rw [cellS,Q3 G,Q3 (fun L=>X1k W (L.trans B))]
   refine Q7<|aS _ _<|Zs f fun _ aV=>?_;refine Ze (Vn Xr t)<|Zo (Vw [vi 0,vi 0,vi 0,vi 0,vi 0] X09 e) ?_;rintro _ cS ⟨z,A⟩;have o:=Below.oy o z y;have e:=A;refine Zt aV fun a f=>?_
   refine Q6 (X4 f (Xv f O (ResV.cellN (l:=[vi 0,vi 0,vi 0,vi 0,vi 0]) O Xr (e.at 0) O)) ?_)
   exact ⟨(by rw [i];try rfl),o⟩
  have B:toS n g col=col:=by rw [toS,Q4 J,Q3 (X1k U)]
  refine Q7<|Xn<|I _ _<|Q5 fun _ aW=>?_;refine Zs f fun _ aX=>?_;refine Zm O<|Zm O<|Ze (X13 O O)<|Zt aX fun a f=>?_
  refine X04 f O (fun aA=>?_) (fun aA=>?_)
  ·have i:cellS n g row col=valS n g col:=by rw [cellS,Q3 G,Q4 ((eq_of_beq aA).trans B.symm)]
   rw [N] at i
   refine Zs f fun _ aY=>?_;refine Ze (Vn Xr x)<|Zo (Vw [vi ((dPow 0).num.a),vi ((dPow 0).num.b),vi ((dPow 0).num.c),vi ((dPow 0).num.d),vi ((dPow 0).exp)] X09 e) ?_;rintro _ cT ⟨z,A⟩;have o:=Below.oy o z y;have e:=A;refine Zt aY fun a f=>?_;refine Q6<|X5<|X4 f (Xv f O (ResV.cellN (l:=[vi ((dPow 0).num.a),vi ((dPow 0).num.b),vi ((dPow 0).num.c),vi ((dPow 0).num.d),vi ((dPow 0).exp)]) O Xr (e.at 0) O)) ?_;exact ⟨(by rw [i];try rfl),o⟩
  have i:cellS n g row col=dZ:=by rw [cellS,Q3 G,Q3 (fun L=>X1k aA (L.trans B))]
  refine Q7<|aW _ _<|Zs f fun _ aZ=>?_;refine Ze (Vn Xr t)<|Zo (Vw [vi 0,vi 0,vi 0,vi 0,vi 0] X09 e) ?_;rintro _ cU ⟨z,A⟩;have o:=Below.oy o z y;have e:=A;refine Zt aZ fun a f=>?_
  refine Q6 (X4 f (Xv f O (ResV.cellN (l:=[vi 0,vi 0,vi 0,vi 0,vi 0]) O Xr (e.at 0) O)) ?_)
  exact ⟨(by rw [i];try rfl),o⟩
 have h9:=X1k D;refine Zs f fun _ b0=>?_;refine Ze (X13 O O)<|Za O<|Zt b0 fun a f=>?_
 refine X04 f O (fun E=>?_) (fun E=>?_)
 ·have J:=eq_of_beq E
  have G:¬ g.k<=8:=by omega
  have B:toS n g col=col:=by simp [toS,J]
  refine Q5 fun _ b1=>?_;refine X0f (fun a w=>Fr a 119 [(2,vi row),(8,(pZ9 b3)),(9,(pZ9 b5)),(10,(pZ9 b6)),(11,vi col),(82,.bool (((bitF n col g.a)==1)&&((bitF n col g.b)==1)))]/\w7=w) ?_ ?_
  ·refine Zr f<|Zm O<|Zm O<|Ze (Vd O X0p 1)<|Ze (X0 O X8 (p.at 1))<|Zf (Vc (Xgz _ n col g.a Z Z Z) X6t) ?_;rintro _ _ ⟨rfl,rfl⟩;refine Ze (X13 O O)<|Zm O ?_
   refine Zg 75 O (fun q=>?_) (fun q=>?_)
   ·refine Zv (gW q) (X7 O) ?_;refine Zv (gW q) (X7 O) ?_;refine Zv (gW q) (Vd O X14 2) ?_;refine Zv (gW q) (X0 O X8 (p.at 2)) ?_;refine Zk (gW q) (Vc (Xgz _ n col g.b Z Z Z) X6t) ?_;rintro _ _ ⟨rfl,rfl⟩;refine Zv (gW q) (X13 O O) ?_;refine Ze (Xf O q O) ?_;refine Zn fun a f=>?_;exact ⟨f.sub ⟨O,O,O,O,O,X1 O (by first|rfl|(simp only [C,D,E,q,bs];done)|simp [C,D,E,q]),trivial⟩,O⟩
   (iterate 6 refine Zp (gP q) ?_);refine Ze (Xb O q O) ?_;refine Zn fun a f=>?_;exact ⟨f.sub ⟨O,O,O,O,O,X1 O (by first|rfl|(simp only [C,D,E,q,bs];done)|simp [C,D,E,q]),trivial⟩,O⟩
  rintro a _ ⟨f,rfl⟩;refine b1 _ _ ?_
  refine X04 f O (fun aB=>?_) (fun aB=>?_)
  ·have N:valS n g col=dPow 4:=by have h9:bitF n col g.a=1/\bitF n col g.b=1:=(by simpa using aB);simp [valS,J,h9]
   refine Zr f<|Zf (Vc (Xf2 _ 4) X57) ?_;rintro _ cV ⟨rfl,h⟩;have e:=e.bw h;have x:=x.bw h;have t:=t.bw h;have o:=btr o h;refine Zo (Vw [vi ((dPow 4).num.a),vi ((dPow 4).num.b),vi ((dPow 4).num.c),vi ((dPow 4).num.d),vi ((dPow 4).exp)] X09 x) ?_;rintro _ cW ⟨z,A⟩;have e:=e.oy z Z;have t:=t.oy z Z;have o:=Below.oy o z M;have x:=A;refine Zn fun a f=>?_;refine Xn<|I _ _<|Q5 fun _ b4=>?_;refine Zs f fun _ b7=>?_;refine Zm O<|Zm O<|Ze (X13 O O)<|Zt b7 fun a f=>?_
   refine X04 f O (fun aC=>?_) (fun aC=>?_)
   ·have i:cellS n g row col=valS n g col:=by rw [cellS,Q3 G,Q4 ((eq_of_beq aC).trans B.symm)]
    rw [N] at i
    refine Zs f fun _ b8=>?_;refine Ze (Vn Xr x)<|Zo (Vw [vi ((dPow 4).num.a),vi ((dPow 4).num.b),vi ((dPow 4).num.c),vi ((dPow 4).num.d),vi ((dPow 4).exp)] X09 e) ?_;rintro _ cX ⟨z,A⟩;have o:=Below.oy o z y;have e:=A;refine Zt b8 fun a f=>?_;refine Q6<|X5<|X4 f (Xv f O (ResV.cellN (l:=[vi ((dPow 4).num.a),vi ((dPow 4).num.b),vi ((dPow 4).num.c),vi ((dPow 4).num.d),vi ((dPow 4).exp)]) O Xr (e.at 0) O)) ?_;exact ⟨(by rw [i];try rfl),o⟩
   have i:cellS n g row col=dZ:=by rw [cellS,Q3 G,Q3 (fun L=>X1k aC (L.trans B))]
   refine Q7<|b4 _ _<|Zs f fun _ b9=>?_;refine Ze (Vn Xr t)<|Zo (Vw [vi 0,vi 0,vi 0,vi 0,vi 0] X09 e) ?_;rintro _ cY ⟨z,A⟩;have o:=Below.oy o z y;have e:=A;refine Zt b9 fun a f=>?_
   refine Q6 (X4 f (Xv f O (ResV.cellN (l:=[vi 0,vi 0,vi 0,vi 0,vi 0]) O Xr (e.at 0) O)) ?_)
   exact ⟨(by rw [i];try rfl),o⟩
  have N:valS n g col=dPow 0:=by have h9:¬ (bitF n col g.a=1/\bitF n col g.b=1):=(by simpa using aB);simp only [valS,J,h9];simp
  refine Q7<|Xn<|I _ _<|Q5 fun _ bC=>?_;refine Zs f fun _ bD=>?_;refine Zm O<|Zm O<|Ze (X13 O O)<|Zt bD fun a f=>?_
  refine X04 f O (fun aD=>?_) (fun aD=>?_)
  ·have i:cellS n g row col=valS n g col:=by rw [cellS,Q3 G,Q4 ((eq_of_beq aD).trans B.symm)]
   rw [N] at i
   refine Zs f fun _ bE=>?_;refine Ze (Vn Xr x)<|Zo (Vw [vi ((dPow 0).num.a),vi ((dPow 0).num.b),vi ((dPow 0).num.c),vi ((dPow 0).num.d),vi ((dPow 0).exp)] X09 e) ?_;rintro _ d5 ⟨z,A⟩;have o:=Below.oy o z y;have e:=A;refine Zt bE fun a f=>?_;refine Q6<|X5<|X4 f (Xv f O (ResV.cellN (l:=[vi ((dPow 0).num.a),vi ((dPow 0).num.b),vi ((dPow 0).num.c),vi ((dPow 0).num.d),vi ((dPow 0).exp)]) O Xr (e.at 0) O)) ?_;exact ⟨(by rw [i];try rfl),o⟩
  have i:cellS n g row col=dZ:=by rw [cellS,Q3 G,Q3 (fun L=>X1k aD (L.trans B))]
  refine Q7<|bC _ _<|Zs f fun _ bF=>?_;refine Ze (Vn Xr t)<|Zo (Vw [vi 0,vi 0,vi 0,vi 0,vi 0] X09 e) ?_;rintro _ d6 ⟨z,A⟩;have o:=Below.oy o z y;have e:=A;refine Zt bF fun a f=>?_
  refine Q6 (X4 f (Xv f O (ResV.cellN (l:=[vi 0,vi 0,vi 0,vi 0,vi 0]) O Xr (e.at 0) O)) ?_)
  exact ⟨(by rw [i];try rfl),o⟩
 have d7:=X1k E;refine Zs f fun _ bG=>?_;refine Ze (X13 O O)<|Za O<|Zt bG fun a f=>?_
 refine X04 f O (fun aE=>?_) (fun aE=>?_)
 ·have J:=eq_of_beq aE
  have G:¬ g.k<=8:=by omega
  have N:valS n g col=dPow 0:=by simp [valS,J]
  refine Q5 fun _ bH=>?_;refine X08 none (fun _=>false) mixed ?_;intro d8 h;have p:=p.bw h;have e:=e.bw h;have x:=x.bw h;have t:=t.bw h;have o:=btr o h;refine Yb f<|Yo 0 O (fun _=>X7 O)<|Yo 1 O (fun _=>X7 O)<|Yo 2 O (fun _=>Vd O X0p 1)<|Ye 3 O (X0 O X8 (p.at 1))<|Yo 5 O (fun _=>X7 O)<|Yo 6 O (fun _=>X7 O)<|Yo 7 O (fun _=>Vd O X14 2)<|Ye 8 O (X0 O X8 (p.at 2))<|Y1 4 ?_;refine Yz O tv0 (Vc (Xgz _ n col g.a Z Z Z) X6t) ?_;refine Y1 9<|Yz O tv0 (Vc (Xgz _ n col g.b Z Z Z) X6t) ?_;refine Yo 10 O (fun _=>X47 O O) ?_;refine Yd fun a f=>?_;refine bH _ _ ?_
  refine X04 f O (fun aF=>?_) (fun aF=>?_)
  ·have B:toS n g col=flipF n (flipF n col g.a) g.b:=by have h9:bitF n col g.a≠bitF n col g.b:=(by simpa using aF);simp [toS,J,h9]
   refine Zr f<|Zm O<|Zm O<|Ze (X18 O O Z Z)<|Ze (Vd O X0p 1)<|Ze (X0 O X8 (p.at 1))<|Ze (X18 O O Z Z)<|Ze (Xh4 (m:=(n-1-g.a).toNat) Tryz.underlying3 Tryz.underlying151 O Z Z)<|Ze (Xmu (m:=(n-1-g.a).toNat) O O O Z)<|Ze (Xmv O O)<|Zm O ?_;refine Ze (X18 O O Z Z)<|Ze (Vd O X14 2)<|Ze (X0 O X8 (p.at 2))<|Ze (X18 O O Z Z)<|Ze (Xh4 (m:=(n-1-g.b).toNat) Tryz.underlying3 Tryz.underlying151 O Z Z)<|Ze (Xmu (m:=(n-1-g.b).toNat) O O O Z)<|Ze (Xmv O O)<|Za O ?_;refine Zn fun a f=>?_;refine Xn<|I _ _<|Q5 fun _ bI=>?_;refine Zs f fun _ bJ=>?_;refine Zm O<|Zm O<|Ze (X13 O O)<|Zt bJ fun a f=>?_
   refine X04 f O (fun aG=>?_) (fun aG=>?_)
   ·have i:cellS n g row col=valS n g col:=by rw [cellS,Q3 G,Q4 ((eq_of_beq aG).trans B.symm)]
    rw [N] at i
    refine Zs f fun _ bK=>?_;refine Ze (Vn Xr x)<|Zo (Vw [vi ((dPow 0).num.a),vi ((dPow 0).num.b),vi ((dPow 0).num.c),vi ((dPow 0).num.d),vi ((dPow 0).exp)] X09 e) ?_;rintro _ d9 ⟨z,A⟩;have o:=Below.oy o z y;have e:=A;refine Zt bK fun a f=>?_;refine Q6<|X5<|X4 f (Xv f O (ResV.cellN (l:=[vi ((dPow 0).num.a),vi ((dPow 0).num.b),vi ((dPow 0).num.c),vi ((dPow 0).num.d),vi ((dPow 0).exp)]) O Xr (e.at 0) O)) ?_;exact ⟨(by rw [i];try rfl),o⟩
   have i:cellS n g row col=dZ:=by rw [cellS,Q3 G,Q3 (fun L=>X1k aG (L.trans B))]
   refine Q7<|bI _ _<|Zs f fun _ bL=>?_;refine Ze (Vn Xr t)<|Zo (Vw [vi 0,vi 0,vi 0,vi 0,vi 0] X09 e) ?_;rintro _ dA ⟨z,A⟩;have o:=Below.oy o z y;have e:=A;refine Zt bL fun a f=>?_
   refine Q6 (X4 f (Xv f O (ResV.cellN (l:=[vi 0,vi 0,vi 0,vi 0,vi 0]) O Xr (e.at 0) O)) ?_)
   exact ⟨(by rw [i];try rfl),o⟩
  have B:toS n g col=col:=by have h9:bitF n col g.a=bitF n col g.b:=(by simpa using aF);simp [toS,J,h9]
  refine Q7<|Xn<|I _ _<|Q5 fun _ bM=>?_;refine Zs f fun _ bN=>?_;refine Zm O<|Zm O<|Ze (X13 O O)<|Zt bN fun a f=>?_
  refine X04 f O (fun aH=>?_) (fun aH=>?_)
  ·have i:cellS n g row col=valS n g col:=by rw [cellS,Q3 G,Q4 ((eq_of_beq aH).trans B.symm)]
   rw [N] at i
   refine Zs f fun _ bO=>?_;refine Ze (Vn Xr x)<|Zo (Vw [vi ((dPow 0).num.a),vi ((dPow 0).num.b),vi ((dPow 0).num.c),vi ((dPow 0).num.d),vi ((dPow 0).exp)] X09 e) ?_;rintro _ dB ⟨z,A⟩;have o:=Below.oy o z y;have e:=A;refine Zt bO fun a f=>?_;refine Q6<|X5<|X4 f (Xv f O (ResV.cellN (l:=[vi ((dPow 0).num.a),vi ((dPow 0).num.b),vi ((dPow 0).num.c),vi ((dPow 0).num.d),vi ((dPow 0).exp)]) O Xr (e.at 0) O)) ?_;exact ⟨(by rw [i];try rfl),o⟩
  have i:cellS n g row col=dZ:=by rw [cellS,Q3 G,Q3 (fun L=>X1k aH (L.trans B))]
  refine Q7<|bM _ _<|Zs f fun _ bP=>?_;refine Ze (Vn Xr t)<|Zo (Vw [vi 0,vi 0,vi 0,vi 0,vi 0] X09 e) ?_;rintro _ dC ⟨z,A⟩;have o:=Below.oy o z y;have e:=A;refine Zt bP fun a f=>?_
  refine Q6 (X4 f (Xv f O (ResV.cellN (l:=[vi 0,vi 0,vi 0,vi 0,vi 0]) O Xr (e.at 0) O)) ?_)
  exact ⟨(by rw [i];try rfl),o⟩
 have dD:=X1k aE
 have G:g.k<=8:=by omega
 refine Q5 fun _ bQ=>?_;refine Zs f fun _ bR=>?_;refine Zm O<|Zm O<|Ze (Xmv O O)<|Zm O<|Ze (X18 O O Z Z)<|Ze (Vd O X0p 1)<|Ze (X0 O X8 (p.at 1))<|Ze (X18 O O Z Z)<|Ze (Xh4 (m:=(n-1-g.a).toNat) Tryz.underlying3 Tryz.underlying151 O Z Z)<|Ze (Xmu (m:=(n-1-g.a).toNat) O O O Z) ?_;refine Ze (Xr6 O O)<|Ze (X47 O O)<|Zt bR fun a f=>?_
 refine X04 f O (fun aI=>?_) (fun aI=>?_)
 ·have i:cellS n g row col=dZ:=by rw [cellS,Q4 G,Q4 (by simpa using aI)]
  refine Zs f fun _ bS=>?_;refine Ze (Vn Xr t)<|Zo (Vw [vi 0,vi 0,vi 0,vi 0,vi 0] X09 e) ?_;rintro _ dE ⟨z,A⟩;have o:=Below.oy o z y;have e:=A;refine Zt bS fun a f=>?_;refine Q6<|X5<|Xo<|X5 ?_;refine X4 f (Xv f O (ResV.cellN (l:=[vi 0,vi 0,vi 0,vi 0,vi 0]) O Xr (e.at 0) O)) ?_;exact ⟨(by rw [i];try rfl),o⟩
 have i:cellS n g row col=(oneL g.k).getD (2*bitF n row g.a+bitF n col g.a).toNat dZ:=by rw [cellS,Q4 G,Q3 (by simpa using aI)]
 refine Q7<|bQ _ _<|Q5 fun _ bU=>?_;refine X08 none (fun j=>[17].contains j) mixed ?_;intro dF h;have p:=p.bw h;have e:=e.bw h;have t:=t.bw h;have o:=btr o h;refine Yb f<|Yo 0 O (fun _=>Vd O X0n 0)<|Ye 1 O (X0 O X8 (p.at 0))<|Yo 3 O (fun _=>X7 O)<|Yo 4 O (fun _=>X7 O)<|Yo 5 O (fun _=>Vd O X0p 1)<|Ye 6 O (X0 O X8 (p.at 1))<|Yo 9 O (fun _=>X7 O)<|Yo 10 O (fun _=>X7 O)<|Yo 11 O (fun _=>Vd O X0p 1)<|Ye 12 O (X0 O X8 (p.at 1)) ?_;refine Y1 2<|Yk O tv0 (Vc (Y2i _ g.k Z) Xxr) (fun _ _ ⟨cI,cJ,_,H,h⟩=>h) ?_;rintro _ dG ⟨cI,cJ,rfl,H,h⟩;have bW:=H.awayNew e.lt;have bX:=H.awayNew t.lt;have H:=H.lower o.size;have e:=e.bw h;have o:=btr o h;refine Y1 7<|Yz O tv0 (Vc (Xgz _ n row g.a Z Z Z) X6t) ?_;refine Yo 8 O (fun _=>Xbo O O Z Z)<|Y1 13 ?_;refine Yz O tv0 (Vc (Xgz _ n col g.a Z Z Z) X6t) ?_;refine Yo 14 O (fun _=>X03 O O Z Z)<|Yi (k:=(2*bitF n row g.a+bitF n col g.a).toNat) (u:=((oneL g.k).getD (2*bitF n row g.a+bitF n col g.a).toNat dZ)) (enc:=encD) (l:=(oneL g.k)) 15 O tv0 O O X1h X09 X1e H.rd (Xph Z) Z ?_;intro dH aJ;refine Ye 16 O (Xx (l:=[vi (((oneL g.k).getD (2*bitF n row g.a+bitF n col g.a).toNat dZ).num.a),vi (((oneL g.k).getD (2*bitF n row g.a+bitF n col g.a).toNat dZ).num.b),vi (((oneL g.k).getD (2*bitF n row g.a+bitF n col g.a).toNat dZ).num.c),vi (((oneL g.k).getD (2*bitF n row g.a+bitF n col g.a).toNat dZ).num.d),vi (((oneL g.k).getD (2*bitF n row g.a+bitF n col g.a).toNat dZ).exp)]) O Xr aJ O)<|Y1 17 ?_
 refine Yh O tv0 O (Vw [vi (((oneL g.k).getD (2*bitF n row g.a+bitF n col g.a).toNat dZ).num.a),vi (((oneL g.k).getD (2*bitF n row g.a+bitF n col g.a).toNat dZ).num.b),vi (((oneL g.k).getD (2*bitF n row g.a+bitF n col g.a).toNat dZ).num.c),vi (((oneL g.k).getD (2*bitF n row g.a+bitF n col g.a).toNat dZ).num.d),vi (((oneL g.k).getD (2*bitF n row g.a+bitF n col g.a).toNat dZ).exp)] X09 e) ?_;rintro _ dI ⟨z,A⟩;have o:=Below.oy o z y;have e:=A;refine Yd fun a f=>?_;refine bU _ _<|Q6<|Xo<|X5 ?_;refine X4 f (Xv f O (ResV.cellN (l:=[vi (((oneL g.k).getD (2*bitF n row g.a+bitF n col g.a).toNat dZ).num.a),vi (((oneL g.k).getD (2*bitF n row g.a+bitF n col g.a).toNat dZ).num.b),vi (((oneL g.k).getD (2*bitF n row g.a+bitF n col g.a).toNat dZ).num.c),vi (((oneL g.k).getD (2*bitF n row g.a+bitF n col g.a).toNat dZ).num.d),vi (((oneL g.k).getD (2*bitF n row g.a+bitF n col g.a).toNat dZ).exp)]) O Xr (e.at 0) O)) ?_;exact ⟨(by rw [i];try rfl),o⟩
theorem Xzb(C:World)(n:Int)(g:Gt)(Q:gOk n g=true) : Ret Tryz.prog 113 [vi n,.agg #[vi g.k,vi g.a,vi g.b]] C (fun v w=>∃ A c,v=mV A c (gateS n g)/\Own w C.heap.size 139 5 encD A c (gateS n g).cells/\Below C.heap.size C w):=by
 have aX:=X1i Q
 obtain ⟨d,hd⟩ : ∃ d:Nat,d=2^n.toNat:=⟨_,O⟩
 have aG:d<=32:=by rw [hd];exact X5b aX.1.2
 refine enter Tryz.func113 O 36 O O ?_;intro a t
 have q:=bz C
 refine Zs t fun _ aY=>?_;refine Zf (X0m (zs:=[vi g.k,vi g.a,vi g.b]) O O) ?_;rintro _ w1 ⟨b2,rfl,G,u,f⟩;have b6:=Q0 q.size G;have q:=btr q u;refine Zf (Xl (zs:=[vi 0,vi 0,.slice none 0 0]) X1r O) ?_;rintro _ w2 ⟨b4,rfl,aZ,u,e⟩;have aH:=Q0 q.size aZ;have f:=f.bw u;have q:=btr q u;refine Zx aY fun a t _ b0=>?_;refine Zm O<|Ze (Xh4 (m:=n.toNat) Tryz.underlying3 Tryz.underlying151 O Z Z)<|Ze (Xbp (m:=n.toNat) (D:=d) O O O ⟨hd,by omega⟩)<|Za O<|Zx b0 fun a t _ b1=>?_;refine Zm O<|Zm O<|Ze (Xi (ps:=[(0,vi (d:Int)),(1,vi (d:Int))]) (cs:=[vi (d:Int),vi (d:Int),.slice none 0 0]) O (fun _=>by first|rfl|kernel_rfl)) ?_;refine ZB [vi (d:Int),vi (d:Int),.slice none 0 0] X1r X19 fun b9 w4 b3 u o=>?_
 have aW:b4≠b9:=by have:=e.lt;omega
 have aI:=Q0 q.size b3;have f:=f.bw u;have e:=e.bw u;have q:=btr q u;refine ZX b1 fun a t _ aJ=>?_;refine Zs t fun _ aK=>?_;refine Za O<|Zt aK fun a t=>?_;refine Q8<|X0d (σ:=Nat×(List Dy)) (fun (s:Nat×(List Dy)) (a:Act) (w:World)=>match s with|(i,l)=>∃ y z,Fr a 36 [(0,vi n),(3,(pZ9 b2)),(4,(pZ9 b4)),(5,vi (d:Int)),(6,(pZ9 b9)),(7,vi (i:Int))]/\(i<=d)/\(gridL (fun i j=>cellS n g (i:Int) (j:Int)) d (i*d)=l)/\Blk w b2 59 [vi g.k,vi g.a,vi g.b]/\Blk w b4 92 [vi 0,vi 0,.slice none 0 0]/\Blk w b9 92 [vi (d:Int),vi (d:Int),.slice y l.length z]/\Own w C.heap.size 139 5 encD y z l/\Below C.heap.size C w) (fun (s:Nat×(List Dy))=>match s with|(i,l)=>d-i) (0,[]) ?_ ?_
 ·exact ⟨none,0,t.sb,(Qf _),O9,f,e,o,(Own.nil _ _ _ _ _),q⟩
 rintro ⟨i,l⟩ a w5 ⟨y,z,t,b8,hl,f,e,o,B,q⟩;refine Q5 fun _ aL=>?_;refine Zs t fun _ aM=>?_;refine Zm O<|Zm O<|Ze (X16 O O)<|Zt aM fun a t=>?_
 refine X12 t O (fun aA H=>?_) (fun aA H=>?_)
 ·have aN:i<d:=by have:=H;omega
  have bC:i*d<=1024:=Q0 (Nat.mul_le_mul (show i<=32 by omega) aG) O4
  refine Q7<|aL _ _<|Q5 fun _ aO=>?_;refine Q8<|Zs t fun _ aP=>?_;refine Za O<|Zt aP fun a t=>?_;refine Q8<|X0d (σ:=Nat×(List Dy)) (fun (s:Nat×(List Dy)) (a:Act) (w:World)=>match s with|(j,l2)=>∃ M N,Fr a 36 [(0,vi n),(3,(pZ9 b2)),(4,(pZ9 b4)),(5,vi (d:Int)),(6,(pZ9 b9)),(7,vi (i:Int)),(8,vi (j:Int))]/\(j<=d)/\(gridL (fun i j=>cellS n g (i:Int) (j:Int)) d (i*d+j)=l2)/\Blk w b2 59 [vi g.k,vi g.a,vi g.b]/\Blk w b4 92 [vi 0,vi 0,.slice none 0 0]/\Blk w b9 92 [vi (d:Int),vi (d:Int),.slice M l2.length N]/\Own w C.heap.size 139 5 encD M N l2/\Below C.heap.size C w) (fun (s:Nat×(List Dy))=>match s with|(j,l2)=>d-j) (0,l) ?_ ?_
  ·exact ⟨y,z,t.sb,(Qf _),hl,f,e,o,B,q⟩
  rintro ⟨j,l2⟩ a w6 ⟨M,N,t,bD,G,f,e,o,p,q⟩;refine Q5 fun _ aQ=>?_;refine Zs t fun _ aR=>?_;refine Zm O<|Zm O<|Ze (X16 O O)<|Zt aR fun a t=>?_
  refine X12 t O (fun aB I=>?_) (fun aB I=>?_)
  ·have aC:j<d:=by have:=I;omega
   have b7:l2.length=i*d+j:=by rw [<- G,X63]
   refine Q7<|aQ _ _<|Q5 fun _ aS=>?_;refine Q8<|X08 none (fun j=>[8,10].contains j) mixed ?_;intro w7 u;have f:=f.bw u;have e:=e.bw u;have o:=o.bw u;have p:=p.bw u;have q:=btr q u;refine Yb t<|Yo 0 O (fun _=>Vd O X1l 2)<|Ye 1 O (X0 O X2f (o.at 2))<|Yo 2 O (fun _=>X7 O)<|Ye 3 O (Vn X01 f)<|Yo 4 O (fun _=>X7 O)<|Yo 5 O (fun _=>X7 O)<|Y1 6 ?_;refine Yk O tv0 (Vc (Y25 _ n g (i:Int) (j:Int) Q) Xxf) (fun _ _ ⟨_,u⟩=>u) ?_;rintro _ w8 ⟨rfl,u⟩;have f:=f.bw u;have e:=e.bw u;have o:=o.bw u;have p:=p.bw u;have q:=btr q u;refine Y1 7<|Yk O tv0 (X2 (k:=1) (vs:=[.agg #[vi ((cellS n g (i:Int) (j:Int)).num.a),vi ((cellS n g (i:Int) (j:Int)).num.b),vi ((cellS n g (i:Int) (j:Int)).num.c),vi ((cellS n g (i:Int) (j:Int)).num.d),vi ((cellS n g (i:Int) (j:Int)).exp)]]) (zs:=[vi ((cellS n g (i:Int) (j:Int)).num.a),vi ((cellS n g (i:Int) (j:Int)).num.b),vi ((cellS n g (i:Int) (j:Int)).num.c),vi ((cellS n g (i:Int) (j:Int)).num.d),vi ((cellS n g (i:Int) (j:Int)).exp)]) O X1h X30 O O) (fun _ _ ⟨_,_,_,h,_⟩=>h) ?_;rintro _ w9 ⟨bE,rfl,U,u,J⟩;have b5:=Q0 q.size U;have E:=p.away U;have f:=f.bw u;have e:=e.bw u;have o:=o.bw u;have p:=p.bw u;have q:=btr q u;refine Y1 8<|Yt O tv0 O (X0i (enc:=encD) (l:=(l2)) (l2:=([(cellS n g (i:Int) (j:Int))])) (B0:=C.heap.size) O O X1h X30 X1e X76 p (Rd.of_blk J O _ J.lt) (by simp only [maxLen];simp;omega) O3 q.size) ?_;rintro _ bF ⟨aD,aE,rfl,L,Q,aT⟩
   have x:Own _ C.heap.size 139 5 encD _ _ (l2):=p
   have aF:=aT _ J.lt E;clear aT;have f:=f.appT x Q O;have e:=e.appT x Q O;have o:=o.appT x Q O;have q:=Below.app q x Q (Qb _) q.size;clear x Q;refine Yo 9 O (fun _=>Vd O X1l 2)<|Y1 10 ?_;refine Yh O tv0 O (Vu (vs:=[.slice aD (l2++([(cellS n g (i:Int) (j:Int))])).length aE]) (l':=[vi (d:Int),vi (d:Int),.slice aD (l2++([(cellS n g (i:Int) (j:Int))])).length aE]) O O Xi4 o) ?_;rintro _ bG ⟨ho,hb⟩;have f:=f.oz ho o O;have e:=e.oy ho Z;have L:=L.oT ho o O;have q:=Below.oy q ho aI;have o:=hb;refine Yd fun a t=>?_;refine Xn<|aS _ _<|Zr t<|Zm O<|Ze (X03 O O Z Z)<|Za O ?_;refine Zn fun a t=>?_;refine Xd ?_;exact ⟨(j+1,l2++[(cellS n g (i:Int) (j:Int))]),⟨aD,aE,t.sb,Z,(by rw [Xhp aC,G]),f,e,o,L,q⟩,O1⟩
  have aC:j=d:=by have:=I;omega
  refine Q9<|Xm<|Xm<|X0a ?_;refine Xn<|aO _ _<|Zr t<|Zm O<|Ze (X03 O O Z Z)<|Za O ?_;refine Zn fun a t=>?_;refine Xd ?_;exact ⟨(i+1,l2),⟨M,N,t.sb,Z,(by rw [Wb,Nat.one_mul,<- G,aC]),f,e,o,p,q⟩,O1⟩
 have aN:i=d:=by have:=H;omega
 refine Q9<|Xm<|Xm<|X0a ?_;refine aJ _ _<|Zs t fun _ aU=>?_;refine Ze (Vn X0j o)<|Zo (Vw [vi (d:Int),vi (d:Int),.slice y l.length z] X19 e) ?_;rintro _ bH ⟨ho,hb⟩;have B:=B.oT ho e O;have q:=Below.oy q ho aH;have e:=hb;refine Zt aU fun a t=>?_
 refine Q6 (X4 t (Xv t O (ResV.cellN (l:=[vi (d:Int),vi (d:Int),.slice y l.length z]) O X0j (e.at 0) O)) ?_)
 have aV:gateS n g=⟨(d:Int),(d:Int),l⟩:=by rw [gateS,<- hl,aN,hd]
 rw [aV]
 exact ⟨y,z,O,B,q⟩
theorem Y1z(A:World)(p:Mx)(Ap:Option Addr)(cp:Nat)(aF:Rd A A.heap.size 139 encD Ap p.cells)(q:Mx)(Aq:Option Addr)(cq:Nat)(aG:Rd A A.heap.size 139 encD Aq q.cells)(k:Int)(b9:p.cells.length=q.cells.length)(bC:q.cells.length<=2305843009213693951) : Ret Tryz.prog 157 [.agg #[vi p.rows,vi p.cols,.slice Ap p.cells.length cp],.agg #[vi q.rows,vi q.cols,.slice Aq q.cells.length cq],vi k] A (fun v w=>v=.bool (turnedS p q k)/\Below A.heap.size A w):=by
 refine enter Tryz.func157 O 42 O O ?_;intro a j
 have n:=bz A
 refine Zs j fun _ aX=>?_;refine Zf (X0m (zs:=[vi p.rows,vi p.cols,.slice Ap p.cells.length cp]) O O) ?_;rintro _ w1 ⟨b4,rfl,aY,o,e⟩;have b7:=Q0 n.size aY;have n:=btr n o;refine Zf (X0m (zs:=[vi q.rows,vi q.cols,.slice Aq q.cells.length cq]) O O) ?_;rintro _ w2 ⟨b5,rfl,aZ,o,aA⟩
 have aW:b4≠b5:=by have:=e.lt;omega
 have b8:=Q0 n.size aZ;have e:=e.bw o;have n:=btr n o;refine Za O<|ZX aX fun a j _ b0=>?_;refine Q5 fun _ b1=>?_;refine X0f (fun a w=>Fr a 42 [(2,vi k),(3,(pZ9 b4)),(4,(pZ9 b5)),(20,.bool ((p.rows != q.rows)||(p.cols != q.cols)))]/\w2=w) ?_ ?_
 ·refine Zr j<|Ze (Vd O X22 0)<|Ze (X0 O X8 (e.at 0))<|Ze (Vd O X22 0)<|Ze (X0 O X8 (aA.at 0))<|Ze (X47 O O)<|Zm O ?_
  refine Zg 14 O (fun m=>?_) (fun m=>?_)
  ·(iterate 5 refine Zp (gP m) ?_);refine Ze (Xf O m O) ?_;refine Zn fun a j=>?_;exact ⟨j.sub ⟨O,O,O,X1 O (by first|rfl|(simp only [m,bs];done)|simp [m]),trivial⟩,O⟩
  refine Zv (gW m) (Vd O X1v 1) ?_;refine Zv (gW m) (X0 O X8 (e.at 1)) ?_;refine Zv (gW m) (Vd O X1v 1) ?_;refine Zv (gW m) (X0 O X8 (aA.at 1)) ?_;refine Zv (gW m) (X47 O O) ?_;refine Ze (Xb O m O) ?_;refine Zn fun a j=>?_;exact ⟨j.sub ⟨O,O,O,X1 O (by first|rfl|(simp only [m,bs];done)|simp [m]),trivial⟩,O⟩
 rintro a _ ⟨j,rfl⟩;refine b1 _ _ ?_
 refine X04 j O (fun x=>?_) (fun x=>?_)
 ·have aH:=x
  have hn:turnedS p q k=false:=by have h9:¬ (p.rows=q.rows/\p.cols=q.cols):=(by intro h8;revert x;simp [h8.1,h8.2]);unfold turnedS;revert h9;by_cases e1:p.rows=q.rows<;>by_cases e2:p.cols=q.cols<;>simp [e1,e2]
  refine Zs j fun _ aI=>?_;refine Za O<|Zt aI fun a j=>?_;refine Q6<|X5<|X4 j (Xv j O O) ?_;exact ⟨by rw [hn],n⟩
 have aH:=x
 have aJ:p.rows=q.rows/\p.cols=q.cols:=by revert x;by_cases e1:p.rows=q.rows<;>by_cases e2:p.cols=q.cols<;>simp [e1,e2]
 refine Q7<|b0 _ _<|Q5 fun _ aK=>?_;refine Zs j fun _ aL=>?_;refine Ze (Vd O X1l 2)<|Ze (X0 O X2f (aA.at 2))<|Ze (X0o O X1h)<|Zm O<|Zt aL fun a j=>?_;refine Q8<|X0d (σ:=Nat) (fun (i:Nat) (a:Act) (w:World)=>Fr a 42 [(2,vi k),(3,(pZ9 b4)),(22,.slice Aq q.cells.length cq),(23,vi (q.cells.length:Int)),(24,vi (i:Int))]/\(i<=q.cells.length)/\(p.cells.take i=(q.cells.map (dTurn k)).take i)/\Blk w b4 92 [vi p.rows,vi p.cols,.slice Ap p.cells.length cp]/\Below A.heap.size A w) (fun (i:Nat)=>q.cells.length-i) 0 ?_ ?_
 ·exact ⟨j.sb,(Qf _),O5,e,n⟩
 rintro i a w3 ⟨j,hi,y,e,n⟩;refine Zs j fun _ aM=>?_;refine Ze (X16 O O)<|ZX aM fun a j _ aN=>?_
 refine X12 j O (fun aB aO=>?_) (fun aB aO=>?_)
 ·obtain ⟨u16,z⟩:=Xj (l:=q.cells) (k:=i) Z
  obtain ⟨B,aC⟩:=Xj (l:=p.cells) (k:=i) Z
  refine Q7<|aN _ _<|Q5 fun _ aP=>?_;refine Q8<|Zs j fun _ aQ=>?_;refine Zm O<|Zi (k:=i) (u:=u16) (enc:=encD) (l:=q.cells) tv0 O O X1h X09 X1e (aG.bx n) z O ?_;intro bD aD;refine Ze (Xx (l:=[vi u16.num.a,vi u16.num.b,vi u16.num.c,vi u16.num.d,vi u16.exp]) O Xr aD O)<|Zf (Xl (zs:=[vi 0,vi 0,vi 0,vi 0,vi 0]) X1s O) ?_;rintro _ w4 ⟨bE,rfl,aR,o,g⟩;have h:=Q0 n.size aR;have e:=e.bw o;have n:=btr n o;refine Za O<|Zo (Vw [vi u16.num.a,vi u16.num.b,vi u16.num.c,vi u16.num.d,vi u16.exp] X09 g) ?_;rintro _ w5 ⟨ho,hb⟩;have e:=e.oz ho g O;have n:=Below.oy n ho h;have g:=hb;refine Zx aQ fun a j _ aS=>?_;refine Ze (Vd O X1q 0)<|Ze (Xx (l:=[vi u16.num.a,vi u16.num.b,vi u16.num.c,vi u16.num.d]) O X0k ((g.at 0).take 4) O)<|Zm O<|Zf (Vc (Xzm _ u16.num k) Xoi) ?_;rintro _ w6 ⟨rfl,o⟩;have e:=e.bw o;have g:=g.bw o;have n:=btr n o;refine Ze (Vd O X1q 0)<|Zo (Vu (vs:=[vi ((rTurn u16.num k).a),vi ((rTurn u16.num k).b),vi ((rTurn u16.num k).c),vi ((rTurn u16.num k).d)]) (l':=[vi ((rTurn u16.num k).a),vi ((rTurn u16.num k).b),vi ((rTurn u16.num k).c),vi ((rTurn u16.num k).d),vi u16.exp]) O O X1c g) ?_;rintro _ w7 ⟨ho,hb⟩;have e:=e.oz ho g O;have n:=Below.oy n ho h;have g:=hb;refine ZX aS fun a j _ aT=>?_;refine X08 none (fun _=>false) mixed ?_;intro w8 o;have e:=e.bw o;have g:=g.bw o;have n:=btr n o;refine Yb j<|Yo 0 O (fun _=>Vd O X1l 2)<|Ye 1 O (X0 O X2f (e.at 2))<|Yo 2 O (fun _=>X7 O)<|Yi (k:=i) (u:=B) (enc:=encD) (l:=p.cells) 3 O tv0 O O X1h X09 X1e (aF.bx n) aC O ?_;intro bF aE
  refine Ye 4 O (Xx (l:=[vi B.num.a,vi B.num.b,vi B.num.c,vi B.num.d,vi B.exp]) O Xr aE O)<|Ye 5 O (Vn Xr g)<|Yo 6 O (fun _=>Xf6 O O Xho (fun w=>eqD 9997 B (⟨(rTurn u16.num k),u16.exp⟩ : Dy) w)) ?_;refine Yd fun a j=>?_;refine aT _ _ ?_
  refine X04 j O (fun t=>?_) (fun t=>?_)
  ·have b2:=t
   have b3:¬ B=dTurn k u16:=by intro e9;revert t;rw [e9];simp [dTurn]
   have hn:turnedS p q k=false:=by have h8:¬ p.cells=q.cells.map (dTurn k):=(by intro e9;have h7:=Xjy (f:=dTurn k) z;rw [<- e9,aC] at h7;injection h7 with h7;exact b3 h7);simp [turnedS,h8]
   refine Zs j fun _ aU=>?_;refine Za O<|Zt aU fun a j=>?_;refine Q6<|Xo<|X5<|X5 ?_;refine Xo<|X5<|X4 j (Xv j O O) ?_;exact ⟨by rw [hn],n⟩
  have b6:B=dTurn k u16:=by simpa [dTurn] using t
  refine Q7<|Xn<|aP _ _<|Zr j ?_;refine Ze (X03 O O Z Z)<|Zm O ?_;refine Zn fun a j=>?_;refine Xd ?_;exact ⟨i+1,⟨j.sb,Z,(X9x y aC (Xjy z) b6),e,n⟩,Z⟩
 refine Q9<|Xm<|Xm<|X0a ?_;refine aK _ _<|Zs j fun _ aV=>?_;refine Za O<|Zt aV fun a j=>?_
 refine Q6 (X4 j (Xv j O O) ?_)
 have he:p.cells=q.cells.map (dTurn k):=by rw [Qi Z,Qi O3] at y;exact y
 exact ⟨by simp [turnedS,aJ.1,aJ.2,<- he],n⟩
theorem Y1q(l:World)(p:Mx)(Ap:Option Addr)(cp:Nat)(aB:Rd l l.heap.size 139 encD Ap p.cells)(q:Mx)(Aq:Option Addr)(cq:Nat)(aC:Rd l l.heap.size 139 encD Aq q.cells)(aI:p.cells.length=q.cells.length)(aJ:q.cells.length<=2305843009213693951) : Ret Tryz.prog 110 [.agg #[vi p.rows,vi p.cols,.slice Ap p.cells.length cp],.agg #[vi q.rows,vi q.cols,.slice Aq q.cells.length cq]] l (fun v w=>∃ i:Int,v=.tuple #[vi i,.bool (phaseS p q)]/\Below l.heap.size l w):=by
 refine enter Tryz.func110 O 16 O O ?_;intro a b
 have d:=bz l
 refine Zs b fun _ aK=>?_;refine Zf (X0m (zs:=[vi p.rows,vi p.cols,.slice Ap p.cells.length cp]) O O) ?_;rintro _ w1 ⟨b4,rfl,aL,m,c⟩;have aR:=Q0 d.size aL;have d:=btr d m;refine Zf (X0m (zs:=[vi q.rows,vi q.cols,.slice Aq q.cells.length cq]) O O) ?_;rintro _ w2 ⟨b5,rfl,aM,m,e⟩
 have aH:b4≠b5:=by have:=c.lt;omega
 have aS:=Q0 d.size aM;have c:=c.bw m;have d:=btr d m;refine Za O<|Za O<|ZX aK fun a b _ aN=>?_;refine Zs b fun _ aO=>?_;refine Za O<|Zt aO fun a b=>?_;refine Q8<|X0d (σ:=Nat) (fun (k:Nat) (a:Act) (w:World)=>Fr a 16 [(2,(pZ9 b4)),(3,(pZ9 b5)),(6,vi (k:Int))]/\(k<=8)/\(∀ j<k,turnedS p q ((j:Nat) : Int)=false)/\Blk w b4 92 [vi p.rows,vi p.cols,.slice Ap p.cells.length cp]/\Blk w b5 92 [vi q.rows,vi q.cols,.slice Aq q.cells.length cq]/\Below l.heap.size l w) (fun (k:Nat)=>8-k) 0 ?_ ?_
 ·exact ⟨b.sb,Z,(fun j hj=>by omega),c,e,d⟩
 rintro k a w3 ⟨b,hk,n,c,e,d⟩;refine Q5 fun _ aP=>?_;refine Zs b fun _ aQ=>?_;refine Zm O<|Ze (X16 O O)<|Zt aQ fun a b=>?_
 refine X12 b O (fun aA o=>?_) (fun aA o=>?_)
 ·have aT:(k:Int)<8:=o
  refine Q7<|aP _ _<|Q5 fun _ aD=>?_;refine Q8<|Zs b fun _ aE=>?_;refine Ze (Vn X0j c)<|Ze (Vn X0j e)<|Zm O<|Zf (Vc (Y1z _ p Ap cp (aB.bx d).top q Aq cq (aC.bx d).top (k:Int) aI aJ) Xx9) ?_;rintro _ w4 ⟨rfl,m⟩;have c:=c.bw m;have e:=e.bw m;have d:=btr d m;refine Zt aE fun a b=>?_
  refine X04 b O (fun g=>?_) (fun g=>?_)
  ·have hT:turnedS p q (k:Int)=true:=g
   refine Zs b fun _ aF=>?_;refine Zm O<|Za O<|Za O<|Zt aF fun a b=>?_;refine Q6<|Xo<|X5<|X5 ?_;refine Xo<|X5<|X4 b (X0q b O O O) ?_;exact ⟨_,by rw [phaseS,Xcu (f:=fun k=>turnedS p q ((k:Nat) : Int)) (k:=k) Z hT],d⟩
  have hT:turnedS p q (k:Int)=false:=g
  refine Q7<|Xn<|aD _ _<|Zr b ?_;refine Zm O<|Ze (X03 O O Z Z)<|Za O ?_;refine Zn fun a b=>?_;refine Xd ?_;exact ⟨k+1,⟨b.sb,Z,(fun j hj=>by rcases W4 j k with h9|h9;exact n j h9;obtain rfl:j=k:=Z;exact hT),c,e,d⟩,Z⟩
 refine Q9<|Xm<|Xm<|X0a ?_;refine aN _ _<|Zs b fun _ aG=>?_;refine Za O<|Za O<|Zt aG fun a b=>?_
 refine Q6 (X4 b (X0q b O O O) ?_)
 exact ⟨_,by rw [phaseS,Xb3 (fun j hj=>n j Z)],d⟩
theorem Xvm(w0:World)(n:Int)(g:Gt)(hn:1<=n/\n<=5) : Ret Tryz.prog 45 [vi n,.agg #[vi g.k,vi g.a,vi g.b]] w0 (fun v w=>v=.bool (gOk n g)/\Below w0.heap.size w0 w):=by
 refine enter Tryz.func45 O 55 O O ?_;intro a j
 have hW:=bz w0
 refine Zs j fun _ aC=>?_;refine Zf (X0m (zs:=[vi g.k,vi g.a,vi g.b]) O O) ?_;rintro _ w1 ⟨b2,rfl,aD,hE,o⟩;have aJ:=Q0 hW.size aD;have hW:=btr hW hE;refine Za O<|ZX aC fun a j _ aE=>?_;refine Q8<|Zs j fun _ aF=>?_;refine Ze (Vd O X0n 0)<|Ze (X0 O X8 (o.at 0))<|Zf (Vc (F85 _ g.k 1 8) X3g) ?_;rintro _ _ ⟨rfl,rfl⟩;refine Za O<|Zt aF fun a j=>?_
 refine X04 j O (fun i=>?_) (fun i=>?_)
 ·have p:=Y2z hn i;refine Q5 fun _ aG=>?_;refine X0f (fun a w=>Fr a 55 [(4,.bool ((inR g.a 0 (n-1))&&(g.b==0)))]/\w1=w) ?_ ?_
  ·refine Zr j<|Ze (Vd O X0p 1)<|Ze (X0 O X8 (o.at 1))<|Zm O<|Ze (X18 O O Z Z)<|Zf (Vc (F85 _ g.a 0 (n-1)) X3g) ?_;rintro _ _ ⟨rfl,rfl⟩;refine Zm O ?_
   refine Zg 14 O (fun m=>?_) (fun m=>?_)
   ·refine Zv (gW m) (Vd O X14 2) ?_;refine Zv (gW m) (X0 O X8 (o.at 2)) ?_;refine Zv (gW m) (X13 O O) ?_;refine Ze (Xf O m O)<|Za O ?_;refine Zn fun a j=>?_;exact ⟨j.sub ⟨X1 O (by first|rfl|(simp only [i,m,bs];done)|simp [i,m]),trivial⟩,O⟩
   (iterate 3 refine Zp (gP m) ?_);refine Ze (Xb O m O)<|Za O ?_;refine Zn fun a j=>?_;exact ⟨j.sub ⟨X1 O (by first|rfl|(simp only [i,m,bs];done)|simp [i,m]),trivial⟩,O⟩
  rintro a _ ⟨j,rfl⟩;refine aG _ _<|Q6<|Xo<|X5 ?_;refine X4 j (Xv j O O) ?_;exact ⟨by rw [p],hW⟩
 have aH:=i;refine Zs j fun _ aI=>?_;refine Ze (Vd O X0n 0)<|Ze (X0 O X8 (o.at 0))<|Zf (Vc (F85 _ g.k 9 11) X3g) ?_;rintro _ _ ⟨rfl,rfl⟩;refine Za O<|Zt aI fun a j=>?_
 refine X04 j O (fun l=>?_) (fun l=>?_)
 ·have p:=Y30 hn l;refine Q5 fun _ aA=>?_;refine X0f (fun a w=>Fr a 55 [(4,.bool (((inR g.a 0 (n-1))&&(inR g.b 0 (n-1)))&&(g.a != g.b)))]/\w1=w) ?_ ?_
  ·refine Zr j<|Ze (Vd O X0p 1)<|Ze (X0 O X8 (o.at 1))<|Zm O<|Ze (X18 O O Z Z)<|Zf (Vc (F85 _ g.a 0 (n-1)) X3g) ?_;rintro _ _ ⟨rfl,rfl⟩;refine Zm O ?_
   refine Zg 28 O (fun c=>?_) (fun c=>?_)
   ·refine Zv (gW c) (Vd O X14 2) ?_;refine Zv (gW c) (X0 O X8 (o.at 2)) ?_;refine Zv (gW c) (X7 O) ?_;refine Zv (gW c) (X18 O O Z Z) ?_;refine Zk (gW c) (Vc (F85 _ g.b 0 (n-1)) X3g) ?_;rintro _ _ ⟨rfl,rfl⟩;refine Ze (Xf O c O)<|Zm O ?_
    refine Zg 35 O (fun d=>?_) (fun d=>?_)
    ·refine Zv (gW d) (Vd O X0p 1) ?_;refine Zv (gW d) (X0 O X8 (o.at 1)) ?_;refine Zv (gW d) (Vd O X14 2) ?_;refine Zv (gW d) (X0 O X8 (o.at 2)) ?_;refine Zv (gW d) (X47 O O) ?_;refine Ze (Xf O d O)<|Za O ?_;refine Zn fun a j=>?_;exact ⟨j.sub ⟨X1 O (by first|rfl|(simp only [i,l,c,d,bs];done)|simp [i,l,c,d]),trivial⟩,O⟩
    (iterate 5 refine Zp (gP d) ?_);refine Ze (Xb O d O)<|Za O ?_;refine Zn fun a j=>?_;exact ⟨j.sub ⟨X1 O (by first|rfl|(simp only [i,l,c,d,bs];done)|simp [i,l,c,d]),trivial⟩,O⟩
   (iterate 5 refine Zp (gP c) ?_);refine Ze (Xb O c O)<|Zm O<|Zp (gP O) ?_;(iterate 4 refine Zp (gP O) ?_);refine Ze (Xb O O O)<|Za O ?_;refine Zn fun a j=>?_;exact ⟨j.sub ⟨X1 O (by first|rfl|(simp only [i,l,c,bs];done)|simp [i,l,c]),trivial⟩,O⟩
  rintro a _ ⟨j,rfl⟩;refine aA _ _<|Q6<|Xo<|X5 ?_;refine X4 j (Xv j O O) ?_;exact ⟨by rw [p],hW⟩
 have p:=Y31 hn aH l;refine Q7<|Xn<|aE _ _<|Q5 fun _ aB=>?_;refine X0f (fun a w=>Fr a 55 [(4,.bool (((g.k==12)&&(g.a==0))&&(g.b==0)))]/\w1=w) ?_ ?_
 ·refine Zr j<|Ze (Vd O X0n 0)<|Ze (X0 O X8 (o.at 0))<|Ze (X13 O O)<|Zm O ?_
  refine Zg 45 O (fun e=>?_) (fun e=>?_)
  ·refine Zv (gW e) (Vd O X0p 1) ?_;refine Zv (gW e) (X0 O X8 (o.at 1)) ?_;refine Zv (gW e) (X13 O O) ?_;refine Ze (Xf O e O)<|Zm O ?_
   refine Zg 50 O (fun f=>?_) (fun f=>?_)
   ·refine Zv (gW f) (Vd O X14 2) ?_;refine Zv (gW f) (X0 O X8 (o.at 2)) ?_;refine Zv (gW f) (X13 O O) ?_;refine Ze (Xf O f O)<|Za O ?_;refine Zn fun a j=>?_;exact ⟨j.sub ⟨X1 O (by first|rfl|(simp only [i,l,e,f,bs];done)|simp [i,l,e,f]),trivial⟩,O⟩
   (iterate 3 refine Zp (gP f) ?_);refine Ze (Xb O f O)<|Za O ?_;refine Zn fun a j=>?_;exact ⟨j.sub ⟨X1 O (by first|rfl|(simp only [i,l,e,f,bs];done)|simp [i,l,e,f]),trivial⟩,O⟩
  (iterate 3 refine Zp (gP e) ?_);refine Ze (Xb O e O)<|Zm O<|Zp (gP O) ?_;(iterate 2 refine Zp (gP O) ?_);refine Ze (Xb O O O)<|Za O ?_;refine Zn fun a j=>?_;exact ⟨j.sub ⟨X1 O (by first|rfl|(simp only [i,l,e,bs];done)|simp [i,l,e]),trivial⟩,O⟩
 rintro a _ ⟨j,rfl⟩;refine aB _ _ ?_
 refine Q6 (X4 j (Xv j O O) ?_)
 exact ⟨by rw [p],hW⟩
theorem F53(p:World)(c:Cx)(Ac:Option Addr)(cc:Nat)(aD:Rd p p.heap.size 59 encG Ac c.gs) : Ret Tryz.prog 20 [.agg #[vi c.n,.slice Ac c.gs.length cc]] p (fun v w=>v=.bool (cOk c)/\Below p.heap.size p w):=by
 refine enter Tryz.func20 O 28 O O ?_;intro a d
 have i:=bz p
 refine Zs d fun _ aR=>?_;refine Zf (X0m (zs:=[vi c.n,.slice Ac c.gs.length cc]) O O) ?_;rintro _ w1 ⟨b3,rfl,aS,hE,f⟩;have b0:=Q0 i.size aS;have i:=btr i hE;refine Za O<|ZX aR fun a d _ aT=>?_;refine Q5 fun _ aU=>?_;refine X0f (fun a w=>Fr a 28 [(1,(pZ9 b3)),(14,.bool ((!(inR c.n 1 5))||(decide (400<(c.gs.length:Int)))))]/\w1=w) ?_ ?_
 ·refine Zr d<|Ze (Vd O X1d 0)<|Ze (X0 O X8 (f.at 0))<|Zf (Vc (F85 _ c.n 1 5) X3g) ?_;rintro _ _ ⟨rfl,rfl⟩;refine Ze (X0x O)<|Zm O ?_
  refine Zg 9 O (fun e=>?_) (fun e=>?_)
  ·(iterate 4 refine Zp (gP e) ?_);refine Ze (Xf O e O) ?_;refine Zn fun a d=>?_;exact ⟨d.sub ⟨O,X1 O (by first|rfl|(simp only [e,bs];done)|simp [e]),trivial⟩,O⟩
  refine Zv (gW e) (Vd O X05 1) ?_;refine Zv (gW e) (X0 O X0l (f.at 1)) ?_;refine Zv (gW e) (X0o O Xa) ?_;refine Zv (gW e) (X29 O O) ?_;refine Ze (Xb O e O) ?_;refine Zn fun a d=>?_;exact ⟨d.sub ⟨O,X1 O (by first|rfl|(simp only [e,bs];done)|simp [e]),trivial⟩,O⟩
 rintro a _ ⟨d,rfl⟩;refine aU _ _ ?_
 refine X04 d O (fun m=>?_) (fun m=>?_)
 ·have aE:=m
  have hn:(inR c.n 1 5&&decide ((c.gs.length:Int)<=400))=false:=by revert m;cases inR c.n 1 5<;>simp
  refine Zs d fun _ aV=>?_;refine Za O<|Zt aV fun a d=>?_;refine Q6<|X5<|X4 d (Xv d O O) ?_;exact ⟨by rw [cOk,hn];rfl,i⟩
 have aE:=m
 have hy:(inR c.n 1 5&&decide ((c.gs.length:Int)<=400))=true:=by revert m;cases inR c.n 1 5<;>simp
 have aF:=(Qd _ _▸hy:inR c.n 1 5=true/\decide ((c.gs.length:Int)<=400)=true);have hn:=X0b.1 aF.1;have b1:=Q2 aF.2;refine Q7<|aT _ _<|Q5 fun _ aW=>?_;refine Zs d fun _ aG=>?_;refine Ze (Vd O X05 1)<|Ze (X0 O X0l (f.at 1))<|Ze (X0o O Xa)<|Zm O<|Zt aG fun a d=>?_;refine Q8<|X0d (σ:=Nat) (fun (k:Nat) (a:Act) (w:World)=>Fr a 28 [(1,(pZ9 b3)),(16,.slice Ac c.gs.length cc),(17,vi (c.gs.length:Int)),(18,vi (k:Int))]/\(k<=c.gs.length)/\((c.gs.take k).all (fun x=>gOk c.n x)=true)/\Blk w b3 25 [vi c.n,.slice Ac c.gs.length cc]/\Below p.heap.size p w) (fun (k:Nat)=>c.gs.length+1-k) 0 ?_ ?_
 ·exact ⟨d.sb,(Qf _),O5,f,i⟩
 rintro k a w2 ⟨d,hk,q,f,i⟩;refine Zs d fun _ aH=>?_;refine Ze (X16 O O)<|ZX aH fun a d _ aI=>?_
 refine X12 d O (fun aA aJ=>?_) (fun aA aJ=>?_)
 ·obtain ⟨g,o⟩:=Xj (l:=c.gs) (k:=k) Z
  refine Q7<|aI _ _<|Q5 fun _ aK=>?_;refine Q8<|Zs d fun _ aL=>?_;refine Zi (k:=k) (u:=g) (enc:=encG) (l:=c.gs) tv0 O O Xa X0g X9 (aD.bx i) o O ?_;intro b2 aB;refine Ze (Xx (l:=[vi g.k,vi g.a,vi g.b]) O X01 aB O) ?_;refine ZB [vi g.k,vi g.a,vi g.b] X26 X0g fun b4 w4 aM hE aN=>?_;have aX:=Q0 i.size aM;have f:=f.bw hE;have i:=btr i hE;refine Zx aL fun a d _ aO=>?_;refine Ze (Vd O X1d 0)<|Ze (X0 O X8 (f.at 0))<|Ze (Vn X01 aN)<|Zf (Vc (Xvm _ c.n g hn) Xhc) ?_;rintro _ w5 ⟨rfl,hE⟩;have f:=f.bw hE;have i:=btr i hE;refine Ze (X0x O)<|Zt aO fun a d=>?_
  refine X04 d O (fun j=>?_) (fun j=>?_)
  ·have aC:(c.gs.any fun x=>!gOk c.n x)=true:=X3n o j
   refine Zs d fun _ aP=>?_;refine Za O<|Zt aP fun a d=>?_;refine Q6<|Xo<|X5<|X5 ?_;refine Xo<|X5<|X4 d (Xv d O O) ?_;exact ⟨by rw [cOk,hy,aC];rfl,i⟩
  have aY:=j
  have aZ:gOk c.n g=true:=by revert j;cases gOk c.n g<;>simp
  refine Q7<|Xn<|aK _ _<|Zr d ?_;refine Ze (X03 O O Z Z)<|Zm O ?_;refine Zn fun a d=>?_;refine Xd ?_;exact ⟨k+1,⟨d.sb,Z,(X2g q o aZ),f,i⟩,Z⟩
 refine Q9<|Xm<|Xm<|X0a ?_;refine aW _ _<|Zs d fun _ aQ=>?_;refine Za O<|Zt aQ fun a d=>?_
 refine Q6 (X4 d (Xv d O O) ?_)
 have aC:(c.gs.any fun x=>!gOk c.n x)=false:=X2w (by simpa using X28 q Z)
 exact ⟨by rw [cOk,hy,aC];rfl,i⟩
theorem F86(g:World)(n:Int)(Al:Option Addr)(cl:Nat)(l:List Gt)(aD:Rd g g.heap.size 59 encG Al l)(m:Int)(hn:1<=n/\n<=5)(aV:l.length<=2305843009213693951) : Ret Tryz.prog 141 [vi n,.slice Al l.length cl,vi m] g (fun v w=>v=.bool (!(l.any fun x=>!gOk n x)&&decide ((l.length:Int)<=m))/\Below g.heap.size g w):=by
 refine enter Tryz.func141 O 24 O O ?_;intro a c
 have e:=bz g
 refine Zs c fun _ aL=>?_;refine Za O<|ZX aL fun a c _ aM=>?_;refine Zs c fun _ aN=>?_;refine Zm O<|Ze (X0o O Xa)<|Zm O<|Zt aN fun a c=>?_;refine Q8<|X0d (σ:=Nat) (fun (k:Nat) (a:Act) (w:World)=>Fr a 24 [(0,vi n),(1,.slice Al l.length cl),(2,vi m),(9,.slice Al l.length cl),(10,vi (l.length:Int)),(11,vi (k:Int))]/\(k<=l.length)/\((l.take k).all (fun x=>gOk n x)=true)/\Below g.heap.size g w) (fun (k:Nat)=>l.length+1-k) 0 ?_ ?_
 ·exact ⟨c.sb,(Qf _),O5,e⟩
 rintro k a w1 ⟨c,hk,i,e⟩;refine Zs c fun _ aO=>?_;refine Ze (X16 O O)<|ZX aO fun a c _ aP=>?_
 refine X12 c O (fun aE aQ=>?_) (fun aE aQ=>?_)
 ·obtain ⟨f,aA⟩:=Xj (l:=l) (k:=k) Z
  refine Q7<|aP _ _<|Q5 fun _ aR=>?_;refine Q8<|Zs c fun _ aF=>?_;refine Zi (k:=k) (u:=f) (enc:=encG) (l:=l) tv0 O O Xa X0g X9 (aD.bx e) aA O ?_;intro aW aB;refine Ze (Xx (l:=[vi f.k,vi f.a,vi f.b]) O X01 aB O) ?_;refine ZB [vi f.k,vi f.a,vi f.b] X26 X0g fun aX w3 aG hE aH=>?_;have aS:=Q0 e.size aG;have e:=btr e hE;refine Zx aF fun a c _ aI=>?_;refine Zm O<|Ze (Vn X01 aH)<|Zf (Vc (Xvm _ n f hn) Xhc) ?_;rintro _ w4 ⟨rfl,hE⟩;have e:=btr e hE;refine Ze (X0x O)<|Zt aI fun a c=>?_
  refine X04 c O (fun d=>?_) (fun d=>?_)
  ·have aC:(l.any fun x=>!gOk n x)=true:=X3n aA d
   refine Zs c fun _ aJ=>?_;refine Za O<|Zt aJ fun a c=>?_;refine Q6<|Xo<|X5<|X5 ?_;refine Xo<|X5<|X4 c (Xv c O O) ?_;exact ⟨by rw [aC];rfl,e⟩
  have aT:=d
  have aU:gOk n f=true:=by revert d;cases gOk n f<;>simp
  refine Q7<|Xn<|aR _ _<|Zr c ?_;refine Ze (X03 O O Z Z)<|Zm O ?_;refine Zn fun a c=>?_;refine Xd ?_;exact ⟨k+1,⟨c.sb,Z,(X2g i aA aU),e⟩,Z⟩
 refine Q9<|Xm<|Xm<|X0a ?_;refine aM _ _<|Zs c fun _ aK=>?_;refine Zm O<|Ze (X0o O Xa)<|Zm O<|Ze (X6i O O)<|Za O<|Zt aK fun a c=>?_
 refine Q6 (X4 c (Xv c O O) ?_)
 have aC:(l.any fun x=>!gOk n x)=false:=X2w (by simpa using X28 i Z)
 exact ⟨by rw [aC];rfl,e⟩
theorem Y2c(w0:World)(n:Int)(g:Gt)(s0:Int)(hg:gOk n g=true)(aE:9<=g.k/\g.k<=11) : Ret Tryz.prog 130 [vi n,.agg #[vi g.k,vi g.a,vi g.b],vi s0] w0 (fun v w=>v=vi (toS n g s0)/\Below w0.heap.size w0 w):=by
 have aA:=X1i hg
 have aN:=aA.2.2.1 Z
 have aO:=aA.2.2.2 aE;refine enter Tryz.func130 O 51 O O ?_;intro a d
 have l:=bz w0
 refine Zs d fun _ aF=>?_;refine Zf (X0m (zs:=[vi g.k,vi g.a,vi g.b]) O O) ?_;rintro _ w1 ⟨b2,rfl,aG,hE,e⟩;have aM:=Q0 l.size aG;have l:=btr l hE;refine Za O<|ZX aF fun a d _ aH=>?_;refine X08 none (fun _=>false) mixed ?_;intro w2 hE;have e:=e.bw hE;have l:=btr l hE;refine Yb d<|Yo 0 O (fun _=>X7 O)<|Yo 1 O (fun _=>X7 O)<|Yo 2 O (fun _=>Vd O X0p 1)<|Ye 3 O (X0 O X8 (e.at 1))<|Yo 5 O (fun _=>X7 O)<|Yo 6 O (fun _=>X7 O)<|Yo 7 O (fun _=>Vd O X14 2)<|Ye 8 O (X0 O X8 (e.at 2))<|Y1 4 ?_;refine Yz O tv0 (Vc (Xl2 _ n s0 g.a Z Z Z) X88) ?_;refine Y1 9<|Yz O tv0 (Vc (Xl2 _ n s0 g.b Z Z Z) X88) ?_;refine Yo 10 O (fun _=>X0y O)<|Yo 11 O (fun _=>X0y O) ?_;refine Yd fun a d=>?_;refine aH _ _<|Q5 fun _ aI=>?_;refine Q8<|Q5 fun _ aJ=>?_;refine X0f (fun a w=>Fr a 51 [(0,vi n),(2,vi s0),(4,(pZ9 b2)),(7,vi (bitF n s0 g.a)),(8,vi (bitF n s0 g.b)),(19,.bool ((g.k==9)&&((bitF n s0 g.a)==1)))]/\w2=w) ?_ ?_
 ·refine Zr d<|Ze (Vd O X0n 0)<|Ze (X0 O X8 (e.at 0))<|Ze (X13 O O)<|Zm O ?_
  refine Zg 23 O (fun f=>?_) (fun f=>?_)
  ·refine Zv (gW f) (X7 O) ?_;refine Zv (gW f) (X13 O O) ?_;refine Ze (Xf O f O)<|Za O ?_;refine Zn fun a d=>?_;exact ⟨d.sub ⟨O,O,O,O,O,X1 O (by first|rfl|(simp only [f,bs];done)|simp [f]),trivial⟩,O⟩
  (iterate 2 refine Zp (gP f) ?_);refine Ze (Xb O f O)<|Za O ?_;refine Zn fun a d=>?_;exact ⟨d.sub ⟨O,O,O,O,O,X1 O (by first|rfl|(simp only [f,bs];done)|simp [f]),trivial⟩,O⟩
 rintro a _ ⟨d,rfl⟩;refine aJ _ _ ?_
 refine X04 d O (fun i=>?_) (fun i=>?_)
 ·have h9:g.k=9/\bitF n s0 g.a=1:=by simpa using i
  refine Zs d fun _ aK=>?_;refine Zm O<|Zm O<|Ze (Vd O X14 2)<|Ze (X0 O X8 (e.at 2))<|Zf (Vc (Xr1 _ n s0 g.b Z Z Z) Xdr) ?_;rintro _ _ ⟨rfl,rfl⟩;refine Za O<|Zt aK fun a d=>?_;refine Q6<|Xo<|X5<|X4 d (Xv d O O) ?_;exact ⟨by rw [toS,Q4 h9.1,Q4 h9.2],l⟩
 have h9:g.k=9->¬ bitF n s0 g.a=1:=by simpa using i
 refine Q5 fun _ aL=>?_;refine X0f (fun a w=>Fr a 51 [(0,vi n),(2,vi s0),(4,(pZ9 b2)),(32,.bool ((g.k==11)&&((bitF n s0 g.a) != (bitF n s0 g.b))))]/\w2=w) ?_ ?_
 ·refine Zr d<|Ze (Vd O X0n 0)<|Ze (X0 O X8 (e.at 0))<|Ze (X13 O O)<|Zm O ?_
  refine Zg 36 O (fun c=>?_) (fun c=>?_)
  ·refine Zv (gW c) (X7 O) ?_;refine Zv (gW c) (X7 O) ?_;refine Zv (gW c) (X47 O O) ?_;refine Ze (Xf O c O)<|Za O ?_;refine Zn fun a d=>?_;exact ⟨d.sub ⟨O,O,O,X1 O (by first|rfl|(simp only [i,c,bs];done)|simp [i,c]),trivial⟩,O⟩
  (iterate 3 refine Zp (gP c) ?_);refine Ze (Xb O c O)<|Za O ?_;refine Zn fun a d=>?_;exact ⟨d.sub ⟨O,O,O,X1 O (by first|rfl|(simp only [i,c,bs];done)|simp [i,c]),trivial⟩,O⟩
 rintro a _ ⟨d,rfl⟩;refine aL _ _ ?_
 refine X04 d O (fun j=>?_) (fun j=>?_)
 ·have m:g.k=11/\¬ bitF n s0 g.a=bitF n s0 g.b:=by simpa using j
  refine Q5 fun _ aB=>?_;refine X08 none (fun _=>false) mixed ?_;intro w3 hE;have e:=e.bw hE;have l:=btr l hE;refine Yb d<|Yo 0 O (fun _=>X7 O)<|Yo 1 O (fun _=>X7 O)<|Yo 2 O (fun _=>X7 O)<|Yo 3 O (fun _=>Vd O X0p 1)<|Ye 4 O (X0 O X8 (e.at 1))<|Yo 6 O (fun _=>Vd O X14 2)<|Ye 7 O (X0 O X8 (e.at 2))<|Y1 5 ?_;refine Yz O tv0 (Vc (Xr1 _ n s0 g.a Z Z Z) Xdr) ?_;refine Y1 8<|Yz O tv0 (Vc (Xr1 _ n (flipF n s0 g.a) g.b Z Z Z) Xdr) ?_;refine Yo 9 O (fun _=>X0y O) ?_;refine Yd fun a d=>?_;refine aB _ _<|Q6<|Xo<|X5 ?_;refine X4 d (Xv d O O) ?_;exact ⟨by rw [toS,Q3 Z,Q4 m.1,Q4 m.2],l⟩
 have m:g.k=11->bitF n s0 g.a=bitF n s0 g.b:=by simpa using j
 refine Q7<|Xn<|aI _ _<|Zs d fun _ aC=>?_;refine Zm O<|Za O<|Zt aC fun a d=>?_
 refine Q6 (X4 d (Xv d O O) ?_)
 have aD:toS n g s0=s0:=by unfold toS;split;rw [Q3 (h9 O6)];split;rw [Q3 (by simpa using m O6)];rfl
 exact ⟨by rw [aD],l⟩
def entI(p:Int×Int×Nat) : MapEntry:={ key:=.int .i64 p.1,val:=.int .i64 p.2.1,born:=p.2.2 }
def MapI(w:World)(b:Nat)(l:List (Int×Int×Nat))(clock:Nat) : Prop:=w.heap[b]? = some (.map (l.map entI).toArray clock)
theorem X7a{k:IntKind}{x:Int} : ∀ (l:List (Int×Int×Nat)) (i:Nat),(l.all fun p=>p.1 != x)=true->Instr.findNow (.int k) (.int .i64 x) (l.map entI) i=some none
 | [],_,_=>rfl
 | p::l,i,h=>by
  simp only [List.all_cons,Qd,bne_iff_ne] at h
  have h1:(x==p.1)=false:=by simpa using Ne.symm h.1
  simp only [List.map_cons,Instr.findNow,entI,Instr.sameNow,if_true,h1]
  exact X7a l (i+1) h.2
theorem X7b{k:IntKind}{x v:Int} : ∀ (l:List (Int×Int×Nat)) (i:Nat),(l.find? fun p=>p.1==x).map (fun p=>p.2.1)=some v->∃ j,Instr.findNow (.int k) (.int .i64 x) (l.map entI) i=some (some (j,.int .i64 v))
 | [],_,h=>by cases h
 | p::l,i,h=>by
  by_cases hx:p.1=x
  ·refine ⟨i,?_⟩
   have h1:(p.1==x)=true:=by simpa using hx
   simp only [List.find?_cons,h1,Option.map_some,Option.some.injEq] at h
   have h2:(x==p.1)=true:=by simpa using hx.symm
   simp only [List.map_cons,Instr.findNow,entI,Instr.sameNow,if_true,h2,h]
  ·have h1:(p.1==x)=false:=by simpa using hx
   simp only [List.find?_cons,h1] at h
   obtain ⟨j,hj⟩:=X7b (k:=k) l (i+1) h
   refine ⟨j,?_⟩
   have h2:(x==p.1)=false:=by simpa using fun e=>hx e.symm
   simp only [List.map_cons,Instr.findNow,entI,Instr.sameNow,if_true,h2]
   exact hj
theorem MapI.bw{w w':World}{b clock:Nat}{l:List (Int×Int×Nat)}(h:MapI w b l clock)(hb:Below w.heap.size w w') : MapI w' b l clock:=by
 have hlt:b<w.heap.size:=by
  rcases W4 b w.heap.size with h'|h'
  ·exact h'
  ·simp [MapI,We h'] at h
 exact (hb.block b hlt).trans h
theorem MapI.oy{w w':World}{b b' clock:Nat}{l:List (Int×Int×Nat)}(h:MapI w b l clock)(ho:Only b' w w')(hne:b≠b') : MapI w' b l clock:=(ho.block b hne).trans h
theorem MapI.ne{w:World}{b b' clock:Nat}{l:List (Int×Int×Nat)}{T:TypeId}{cs:List Value}(h:MapI w b l clock)(hb:Blk w b' T cs) : b≠b':=by grind [Blk,MapI]
section
variable {P : Program} {a : Act} {w : World} {n : Nat} {e : Env} {ty : TypeId} {pos : String} {af : Array Edge} {g : Option (Nat × Bool)} {d : Option Tmp}
theorem Xaf{T:TypeId} : Ef P ⟨d,.makeMap T none,ty,pos,af,g⟩ a w (fun v w'=>∃ b,v=.map (some b)/\w.heap.size<=b/\Below w.heap.size w w'/\MapI w' b [] 0):=by
 refine (Ef.of_run (v:=.map (some w.heap.size)) (w':=w.alloc (.map #[] 0)) ?_).mono fun v w' ⟨e1,e2⟩=>?_
 ·rfl
 ·subst e1;subst e2
  exact ⟨_,O,Qb _,(Below.refl _ _).alloc (Qb _) _,heap_alloc_new w _⟩
theorem Xmn{n:Nat}{e:List (Nat×Value)}{T:TypeId} : EfW P ⟨d,.makeMap T none,ty,pos,af,g⟩ n e w (fun v w'=>∃ b,v=.map (some b)/\w.heap.size<=b/\Below w.heap.size w w'/\MapI w' b [] 0):=fun a _=>Xaf
theorem Xle{T K E:TypeId}{m x y:Operand}{b clock:Nat}{l:List (Int×Int×Nat)}{i j:Int}(hf:Fr a n e)(hm:ev e m=some (.map (some b)))(hx:ev e x=some (.int .i64 i))(hy:ev e y=some (.int .i64 j))(hT:P.underlying T=some (.map K E))(hK:P.underlying K=some (.int .i64))(hM:MapI w b l clock)(hnew:(l.all fun p=>p.1 != i)=true) :
  Ef P ⟨d,.insert T m x y,ty,pos,af,g⟩ a w (fun _ w'=>Only b w w'/\MapI w' b (l++[(i,j,clock)]) (clock+1)):=by
 have hfind:=X7a (k:=.i64) l 0 hnew
 have hck:(Instr.checkKey false 10000 K (.int .i64 i)).run P w=.ok () w:=MapKept.run_checkKey hK (show MapKept.IsKey (.int .i64) (.int .i64 i) from O) false 9999
 have hlt:b<w.heap.size:=by
  rcases W4 b w.heap.size with h'|h'
  ·exact h'
  ·simp [MapI,We h'] at hM
 unfold MapI at hM
 refine (Ef.of_skip (w':={ w with heap:=w.heap.setIfInBounds b (.map ((l++[(i,j,clock)]).map entI).toArray (clock+1)) }) ?_).mono fun v w' ⟨_,e2⟩=>?_
 ·simp [execOp,Instr.mapUpdate,hf.ev hm,hf.ev hx,hf.ev hy,X0t hT,getObj,hM,hck,Instr.findKey,X0t hK,hfind,setObj,Sem.run,entI]
 ·subst e2
  refine ⟨⟨O,O,O,by simp,fun k hk=>?_⟩,?_⟩
  ·show (w.heap.setIfInBounds b _)[k]? = _
   rw [Wh (Ne.symm hk)]
  ·show (w.heap.setIfInBounds b _)[b]? = _
   simp [hlt]
theorem X73{T K E:TypeId}{m x y:Operand}{b clock:Nat}{l:List (Int×Int×Nat)}{i j:Int}(hm:ev e m=some (.map (some b)))(hx:ev e x=some (.int .i64 i))(hy:ev e y=some (.int .i64 j))(hT:P.underlying T=some (.map K E))(hK:P.underlying K=some (.int .i64))(hM:MapI w b l clock)(hnew:(l.all fun p=>p.1 != i)=true) : EfW P ⟨d,.insert T m x y,ty,pos,af,g⟩ n e w (fun _ w'=>Only b w w'/\MapI w' b (l++[(i,j,clock)]) (clock+1)):=fun a hf=>Xle hf hm hx hy hT hK hM hnew
theorem Xlm{T K E:TypeId}{m x:Operand}{b clock:Nat}{l:List (Int×Int×Nat)}{i v:Int}(hf:Fr a n e)(hm:ev e m=some (.map (some b)))(hx:ev e x=some (.int .i64 i))(hT:P.underlying T=some (.map K E))(hK:P.underlying K=some (.int .i64))(hM:MapI w b l clock)(hv:(l.find? fun p=>p.1==i).map (fun p=>p.2.1)=some v) :
  Ev P ⟨d,.lookup T m x false,ty,pos,af,g⟩ a w (.int .i64 v):=fun w' hw=>by
 obtain ⟨j,hj⟩:=X7b (k:=.i64) l 0 hv
 have hM':=hM.bw hw
 have hck:∀ em,(Instr.checkKey em 10000 K (.int .i64 i)).run P w'=.ok () w':=fun em=>MapKept.run_checkKey hK (show MapKept.IsKey (.int .i64) (.int .i64 i) from O) em 9999
 unfold MapI at hM'
 simp [execOp,Instr.lookup,hf.ev hm,hf.ev hx,X0t hT,getObj,Sem.run,hM',hck,Instr.findKey,X0t hK,hj]
theorem Xr8{T K E:TypeId}{m x:Operand}{b clock:Nat}{l:List (Int×Int×Nat)}{i v:Int}(hm:ev e m=some (.map (some b)))(hx:ev e x=some (.int .i64 i))(hT:P.underlying T=some (.map K E))(hK:P.underlying K=some (.int .i64))(hM:MapI w b l clock)(hv:(l.find? fun p=>p.1==i).map (fun p=>p.2.1)=some v) : EvW P ⟨d,.lookup T m x false,ty,pos,af,g⟩ n e w (.int .i64 v):=fun a hf=>Xlm hf hm hx hT hK hM hv
end
theorem Y2d(w0:World)(k:Int)(i:Int)(j:Int)(hk:1<=k/\k<=8)(hj:j=0∨j=1) : Ret Tryz.prog 133 [vi k,vi i,vi j] w0 (fun v w=>v=dV (entryI k i j)/\Below w0.heap.size w0 w):=by
 refine enter Tryz.func133 O 67 O O ?_;intro a f
 have g:=bz w0
 refine Zs f fun _ aO=>?_;refine Zf (Xl (zs:=[vi 0,vi 0,vi 0,vi 0,vi 0]) X1s O) ?_;rintro _ w1 ⟨b2,rfl,aP,D,e⟩;have C:=Q0 g.size aP;have g:=btr g D;refine Zx aO fun a f _ aQ=>?_;refine Ze (Xi (ps:=[(0,vi 1)]) (cs:=[vi 1,vi 0,vi 0,vi 0]) O (fun _=>by first|rfl|kernel_rfl))<|Ze (Xi (ps:=[(0,.agg #[vi 1,vi 0,vi 0,vi 0]),(1,vi 1)]) (cs:=[vi 1,vi 0,vi 0,vi 0,vi 1]) O (fun _=>by first|rfl|kernel_rfl)) ?_;refine ZB [vi 1,vi 0,vi 0,vi 0,vi 1] X1s X09 fun b4 w3 aR D n=>?_
 have aN:b2≠b4:=by have:=e.lt;omega
 have aA:=Q0 g.size aR;have e:=e.bw D;have g:=btr g D;refine Zx aQ fun a f _ aS=>?_;refine Zf (Xmn) ?_;rintro _ w4 ⟨b6,rfl,aT,D,o⟩;have E:=Q0 g.size aT;have e:=e.bw D;have n:=n.bw D;have g:=btr g D;refine Zo (X73 (l:=[]) (clock:=0) O O O Tryz.underlying214 Tryz.underlying3 o O) ?_;rintro _ w5 ⟨q,m⟩;have e:=e.oy q (Ne.symm (o.ne e));have n:=n.oy q (Ne.symm (o.ne n));have g:=Below.oy g q E
 have o:=m;clear m q;refine Zo (X73 (l:=[(4,4,0)]) (clock:=1) O O O Tryz.underlying214 Tryz.underlying3 o O) ?_;rintro _ w6 ⟨q,m⟩;have e:=e.oy q (Ne.symm (o.ne e));have n:=n.oy q (Ne.symm (o.ne n));have g:=Below.oy g q E
 have o:=m;clear m q;refine Zo (X73 (l:=[(4,4,0),(5,2,1)]) (clock:=2) O O O Tryz.underlying214 Tryz.underlying3 o O) ?_;rintro _ w7 ⟨q,m⟩;have e:=e.oy q (Ne.symm (o.ne e));have n:=n.oy q (Ne.symm (o.ne n));have g:=Below.oy g q E
 have o:=m;clear m q;refine Zo (X73 (l:=[(4,4,0),(5,2,1),(6,6,2)]) (clock:=3) O O O Tryz.underlying214 Tryz.underlying3 o O) ?_;rintro _ w8 ⟨q,m⟩;have e:=e.oy q (Ne.symm (o.ne e));have n:=n.oy q (Ne.symm (o.ne n));have g:=Below.oy g q E
 have o:=m;clear m q;refine Zo (X73 (l:=[(4,4,0),(5,2,1),(6,6,2),(7,1,3)]) (clock:=4) O O O Tryz.underlying214 Tryz.underlying3 o O) ?_;rintro _ w9 ⟨q,m⟩;have e:=e.oy q (Ne.symm (o.ne e));have n:=n.oy q (Ne.symm (o.ne n));have g:=Below.oy g q E
 have o:=m;clear m q;refine Zm O<|Za O<|ZX aS fun a f _ aU=>?_;refine Q8<|Zs f fun _ aV=>?_;refine Zm O<|Ze (X13 O O)<|Za O<|Zt aV fun a f=>?_
 refine X04 f O (fun p=>?_) (fun p=>?_)
 ·have L:k=1:=by simpa using p
  refine Q5 fun _ M=>?_;refine Q5 fun _ aB=>?_;refine X0f (fun a w=>Fr a 67 [(6,(pZ9 b2)),(7,(pZ9 b4)),(21,.bool ((i==1)&&(j==1)))]/\w9=w) ?_ ?_
  ·refine Zr f<|Zm O<|Ze (X13 O O)<|Zm O ?_
   refine Zg 18 O (fun A=>?_) (fun A=>?_)
   ·refine Zv (gW A) (X7 O) ?_;refine Zv (gW A) (X13 O O) ?_;refine Ze (Xf O A O) ?_;refine Zn fun a f=>?_;exact ⟨f.sub ⟨O,O,X1 O (by first|rfl|(simp only [p,A,bs];done)|simp [p,A]),trivial⟩,O⟩
   (iterate 2 refine Zp (gP A) ?_);refine Ze (Xb O A O) ?_;refine Zn fun a f=>?_;exact ⟨f.sub ⟨O,O,X1 O (by first|rfl|(simp only [p,A,bs];done)|simp [p,A]),trivial⟩,O⟩
  rintro a _ ⟨f,rfl⟩;refine aB _ _ ?_
  refine X04 f O (fun H=>?_) (fun H=>?_)
  ·have t:entryI k i j=⟨⟨-1,0,0,0⟩,1⟩:=by rw [entryI,Q4 L,Q4 (by simpa using H)]
   refine Zr f<|Ze (Vd O X1q 0)<|Ze (Vd O X0s 0)<|Zo (Vu (vs:=[vi (-1)]) (l':=[vi (-1),vi 0,vi 0,vi 0,vi 1]) O O X1o n) ?_;rintro _ aX ⟨q,G⟩;have e:=e.oy q Z;have g:=Below.oy g q aA;have n:=G;refine Zx M fun a f _ aC=>?_;refine Ze (Vn Xr n)<|Zo (Vw [vi (-1),vi 0,vi 0,vi 0,vi 1] X09 e) ?_;rintro _ aY ⟨q,G⟩;have g:=Below.oy g q C;have e:=G;refine Zt aC fun a f=>?_;refine Q6<|Xo<|X5<|X4 f (Xv f O (ResV.cellN (l:=[vi (-1),vi 0,vi 0,vi 0,vi 1]) O Xr (e.at 0) O)) ?_;exact ⟨(by rw [t];try rfl),g⟩
  have t:entryI k i j=dHalf:=by rw [entryI,Q4 L,Q3 (by simpa using H)]
  refine Q7<|M _ _<|Zs f fun _ aD=>?_;refine Ze (Vn Xr n)<|Zo (Vw [vi 1,vi 0,vi 0,vi 0,vi 1] X09 e) ?_;rintro _ aZ ⟨q,G⟩;have g:=Below.oy g q C;have e:=G;refine Zt aD fun a f=>?_;refine Q6<|Xo<|X5<|X4 f (Xv f O (ResV.cellN (l:=[vi 1,vi 0,vi 0,vi 0,vi 1]) O Xr (e.at 0) O)) ?_;exact ⟨(by rw [t];try rfl),g⟩
 have L:¬ k=1:=by simpa using p
 refine Q5 fun _ aE=>?_;refine X0f (fun a w=>Fr a 67 [(0,vi k),(1,vi i),(2,vi j),(6,(pZ9 b2)),(8,.map (some b6)),(25,.bool ((k==2)&&(i != j)))]/\w9=w) ?_ ?_
 ·refine Zr f<|Zm O<|Ze (X13 O O)<|Zm O ?_
  refine Zg 28 O (fun u=>?_) (fun u=>?_)
  ·refine Zv (gW u) (X7 O) ?_;refine Zv (gW u) (X7 O) ?_;refine Zv (gW u) (X47 O O) ?_;refine Ze (Xf O u O)<|Za O ?_;refine Zn fun a f=>?_;exact ⟨f.sub ⟨O,O,O,O,O,X1 O (by first|rfl|(simp only [p,u,bs];done)|simp [p,u]),trivial⟩,O⟩
  (iterate 3 refine Zp (gP u) ?_);refine Ze (Xb O u O)<|Za O ?_;refine Zn fun a f=>?_;exact ⟨f.sub ⟨O,O,O,O,O,X1 O (by first|rfl|(simp only [p,u,bs];done)|simp [p,u]),trivial⟩,O⟩
 rintro a _ ⟨f,rfl⟩;refine aE _ _ ?_
 refine X04 f O (fun x=>?_) (fun x=>?_)
 ·have t:entryI k i j=⟨⟨1,0,0,0⟩,0⟩:=by rw [entryI,Q3 L,Q4 (by simpa using x)]
  refine Zs f fun _ aF=>?_;refine Zf (Vc (Xvr _ 1) Xhh) ?_;rintro _ b0 ⟨rfl,D⟩;have e:=e.bw D;have g:=btr g D;refine Zo (Vw [vi ((⟨⟨1,0,0,0⟩,0⟩ : Dy).num.a),vi ((⟨⟨1,0,0,0⟩,0⟩ : Dy).num.b),vi ((⟨⟨1,0,0,0⟩,0⟩ : Dy).num.c),vi ((⟨⟨1,0,0,0⟩,0⟩ : Dy).num.d),vi ((⟨⟨1,0,0,0⟩,0⟩ : Dy).exp)] X09 e) ?_;rintro _ b1 ⟨q,G⟩;have g:=Below.oy g q C;have e:=G;refine Zt aF fun a f=>?_;refine Q6<|Xo<|X5<|X4 f (Xv f O (ResV.cellN (l:=[vi ((⟨⟨1,0,0,0⟩,0⟩ : Dy).num.a),vi ((⟨⟨1,0,0,0⟩,0⟩ : Dy).num.b),vi ((⟨⟨1,0,0,0⟩,0⟩ : Dy).num.c),vi ((⟨⟨1,0,0,0⟩,0⟩ : Dy).num.d),vi ((⟨⟨1,0,0,0⟩,0⟩ : Dy).exp)]) O Xr (e.at 0) O)) ?_;exact ⟨(by rw [t];try rfl),g⟩
 have e2:¬ (k=2/\i≠j):=by simpa using x
 refine Q5 fun _ aG=>?_;refine X0f (fun a w=>Fr a 67 [(0,vi k),(1,vi i),(2,vi j),(6,(pZ9 b2)),(8,.map (some b6)),(34,.bool ((k==3)&&(i != j)))]/\w9=w) ?_ ?_
 ·refine Zr f<|Zm O<|Ze (X13 O O)<|Zm O ?_
  refine Zg 37 O (fun y=>?_) (fun y=>?_)
  ·refine Zv (gW y) (X7 O) ?_;refine Zv (gW y) (X7 O) ?_;refine Zv (gW y) (X47 O O) ?_;refine Ze (Xf O y O)<|Za O ?_;refine Zn fun a f=>?_;exact ⟨f.sub ⟨O,O,O,O,O,X1 O (by first|rfl|(simp only [p,x,y,bs];done)|simp [p,x,y]),trivial⟩,O⟩
  (iterate 3 refine Zp (gP y) ?_);refine Ze (Xb O y O)<|Za O ?_;refine Zn fun a f=>?_;exact ⟨f.sub ⟨O,O,O,O,O,X1 O (by first|rfl|(simp only [p,x,y,bs];done)|simp [p,x,y]),trivial⟩,O⟩
 rintro a _ ⟨f,rfl⟩;refine aG _ _ ?_
 refine X04 f O (fun B=>?_) (fun B=>?_)
 ·have aW:k=3/\i≠j:=(by simpa using B)
  have t:entryI k i j=dPow (2+4*j):=by rw [entryI,Q3 L,Q3 e2,Q4 aW]
  refine Zs f fun _ aH=>?_;refine Zm O<|Ze (Xbo O O Z Z)<|Ze (X03 O O Z Z)<|Zf (Vc (Xbh _ (2+(4*j)) (X0b.2 ⟨by omega,by omega⟩)) X48) ?_;rintro _ b3 ⟨rfl,D⟩;have e:=e.bw D;have g:=btr g D;refine Zo (Vw [vi ((dPow (2+(4*j))).num.a),vi ((dPow (2+(4*j))).num.b),vi ((dPow (2+(4*j))).num.c),vi ((dPow (2+(4*j))).num.d),vi ((dPow (2+(4*j))).exp)] X09 e) ?_;rintro _ b5 ⟨q,G⟩;have g:=Below.oy g q C;have e:=G;refine Zt aH fun a f=>?_;refine Q6<|Xo<|X5<|X4 f (Xv f O (ResV.cellN (l:=[vi ((dPow (2+(4*j))).num.a),vi ((dPow (2+(4*j))).num.b),vi ((dPow (2+(4*j))).num.c),vi ((dPow (2+(4*j))).num.d),vi ((dPow (2+(4*j))).exp)]) O Xr (e.at 0) O)) ?_;exact ⟨(by rw [t];try rfl),g⟩
 have e3:¬ (k=3/\i≠j):=by simpa using B
 refine Q5 fun _ aI=>?_;refine X0f (fun a w=>Fr a 67 [(0,vi k),(1,vi i),(6,(pZ9 b2)),(8,.map (some b6)),(46,.bool (((k==2)||(k==3))||(i != j)))]/\w9=w) ?_ ?_
 ·refine Zr f<|Zm O<|Ze (X13 O O)<|Zm O ?_
  refine Zg 49 O (fun z=>?_) (fun z=>?_)
  ·(iterate 2 refine Zp (gP z) ?_);refine Ze (Xf O z O)<|Zm O<|Zp (gP O) ?_;(iterate 2 refine Zp (gP O) ?_);refine Ze (Xf O O O)<|Za O ?_;refine Zn fun a f=>?_;exact ⟨f.sub ⟨O,O,O,O,X1 O (by first|rfl|(simp only [p,x,B,z,bs];done)|simp [p,x,B,z]),trivial⟩,O⟩
  refine Zv (gW z) (X7 O) ?_;refine Zv (gW z) (X13 O O) ?_;refine Ze (Xb O z O)<|Zm O ?_
  refine Zg 53 O (fun h=>?_) (fun h=>?_)
  ·(iterate 3 refine Zp (gP h) ?_);refine Ze (Xf O h O)<|Za O ?_;refine Zn fun a f=>?_;exact ⟨f.sub ⟨O,O,O,O,X1 O (by first|rfl|(simp only [p,x,B,z,h,bs];done)|simp [p,x,B,z,h]),trivial⟩,O⟩
  refine Zv (gW h) (X7 O) ?_;refine Zv (gW h) (X7 O) ?_;refine Zv (gW h) (X47 O O) ?_;refine Ze (Xb O h O)<|Za O ?_;refine Zn fun a f=>?_;exact ⟨f.sub ⟨O,O,O,O,X1 O (by first|rfl|(simp only [p,x,B,z,h,bs];done)|simp [p,x,B,z,h]),trivial⟩,O⟩
 rintro a _ ⟨f,rfl⟩;refine aI _ _ ?_
 refine X04 f O (fun I=>?_) (fun I=>?_)
 ·have t:entryI k i j=dZ:=by rw [entryI,Q3 L,Q3 e2,Q3 e3,Q4 (by simpa [or_assoc] using I)]
  refine Zs f fun _ aJ=>?_;refine Ze (Xi (ps:=[]) (cs:=[vi 0,vi 0,vi 0,vi 0,vi 0]) O (fun _=>by first|rfl|kernel_rfl))<|Zo (Vw [vi 0,vi 0,vi 0,vi 0,vi 0] X09 e) ?_;rintro _ b7 ⟨q,G⟩;have g:=Below.oy g q C;have e:=G;refine Zt aJ fun a f=>?_;refine Q6<|Xo<|X5<|X4 f (Xv f O (ResV.cellN (l:=[vi 0,vi 0,vi 0,vi 0,vi 0]) O Xr (e.at 0) O)) ?_;exact ⟨(by rw [t];try rfl),g⟩
 have e4:¬ (k=2∨k=3∨i≠j):=by simpa [not_or,and_assoc] using I
 refine Zs f fun _ aK=>?_;refine Zm O<|Ze (X13 O O)<|Za O<|Zt aK fun a f=>?_
 refine X04 f O (fun J=>?_) (fun J=>?_)
 ·have t:entryI k i j=⟨⟨1,0,0,0⟩,0⟩:=by rw [entryI,Q3 L,Q3 e2,Q3 e3,Q3 e4,Q4 (by simpa using J)]
  refine Zs f fun _ aL=>?_;refine Zf (Vc (Xvr _ 1) Xhh) ?_;rintro _ b8 ⟨rfl,D⟩;have e:=e.bw D;have g:=btr g D;refine Zo (Vw [vi ((⟨⟨1,0,0,0⟩,0⟩ : Dy).num.a),vi ((⟨⟨1,0,0,0⟩,0⟩ : Dy).num.b),vi ((⟨⟨1,0,0,0⟩,0⟩ : Dy).num.c),vi ((⟨⟨1,0,0,0⟩,0⟩ : Dy).num.d),vi ((⟨⟨1,0,0,0⟩,0⟩ : Dy).exp)] X09 e) ?_;rintro _ b9 ⟨q,G⟩;have g:=Below.oy g q C;have e:=G;refine Zt aL fun a f=>?_;refine Q6<|Xo<|X5<|X4 f (Xv f O (ResV.cellN (l:=[vi ((⟨⟨1,0,0,0⟩,0⟩ : Dy).num.a),vi ((⟨⟨1,0,0,0⟩,0⟩ : Dy).num.b),vi ((⟨⟨1,0,0,0⟩,0⟩ : Dy).num.c),vi ((⟨⟨1,0,0,0⟩,0⟩ : Dy).num.d),vi ((⟨⟨1,0,0,0⟩,0⟩ : Dy).exp)]) O Xr (e.at 0) O)) ?_;exact ⟨(by rw [t];try rfl),g⟩
 have t:entryI k i j=dPow (turnOf k):=by rw [entryI,Q3 L,Q3 e2,Q3 e3,Q3 e4,Q3 (by simpa using J)]
 refine Q7<|Xn<|aU _ _<|Zs f fun _ aM=>?_;refine Zm O<|Zm O<|Ze (Xr8 (v:=(turnOf k)) O O Tryz.underlying214 Tryz.underlying3 o (Xmd Z Z))<|Zf (Vc (Xbh _ (turnOf k) (Xmc k)) X48) ?_;rintro _ bC ⟨rfl,D⟩;have e:=e.bw D;have g:=btr g D;refine Zo (Vw [vi ((dPow (turnOf k)).num.a),vi ((dPow (turnOf k)).num.b),vi ((dPow (turnOf k)).num.c),vi ((dPow (turnOf k)).num.d),vi ((dPow (turnOf k)).exp)] X09 e) ?_;rintro _ bD ⟨q,G⟩;have g:=Below.oy g q C;have e:=G;refine Zt aM fun a f=>?_
 refine Q6 (X4 f (Xv f O (ResV.cellN (l:=[vi ((dPow (turnOf k)).num.a),vi ((dPow (turnOf k)).num.b),vi ((dPow (turnOf k)).num.c),vi ((dPow (turnOf k)).num.d),vi ((dPow (turnOf k)).exp)]) O Xr (e.at 0) O)) ?_)
 exact ⟨(by rw [t];try rfl),g⟩
theorem Y2b(J:World)(g:Gt)(n:Int)(ba bb:Nat)(f:Blk J ba 59 (encG g))(m:Blk J bb 3 [vi n])(hg:gOk n g=true)(i j:Int) : Ret Tryz.prog 129 [vi i,vi j,(pZ9 ba),(pZ9 bb)] J (fun v w=>v=.tuple #[dV (cellI n g i j),.bool true]/\Below J.heap.size J w):=by
 have aL:=f.lt;have aM:=m.lt
 unfold encG at f
 have aC:=X1i hg;have aD:=X36 n j g.a;refine enter Tryz.func129 O 75 O O ?_;intro a t
 have u:=bz J
 refine Zs t fun _ aN=>?_;refine Zf (Xl (zs:=[vi 0,vi 0,vi 0,vi 0,vi 0]) X1s O) ?_;rintro _ w1 ⟨b2,rfl,aO,x,e⟩;have A:=Q0 u.size aO;have f:=f.bw x;have m:=m.bw x;have u:=btr u x;refine Za O<|ZX aN fun a t _ aA=>?_;refine Q8<|Zs t fun _ aP=>?_;refine Ze (Vd O X0n 0)<|Ze (X0 O X8 (f.at 0))<|Ze (X13 O O)<|Za O<|Zt aP fun a t=>?_
 refine X04 t O (fun B=>?_) (fun B=>?_)
 ·have L:=eq_of_beq B;refine Zs t fun _ aQ=>?_;refine Zm O<|Zm O<|Ze (X13 O O)<|Zt aQ fun a t=>?_
  refine X04 t O (fun aB=>?_) (fun aB=>?_)
  ·have y:cellI n g i j=dPow 1:=by rw [cellI,Q4 L,Q4 (eq_of_beq aB)]
   refine Zs t fun _ aR=>?_;refine Zf (Vc (Xbh _ 1 (by rfl)) X48) ?_;rintro _ w2 ⟨rfl,x⟩;have e:=e.bw x;have u:=btr u x;refine Zo (Vw [vi ((dPow 1).num.a),vi ((dPow 1).num.b),vi ((dPow 1).num.c),vi ((dPow 1).num.d),vi ((dPow 1).exp)] X09 e) ?_;rintro _ w3 ⟨C,G⟩;have u:=Below.oy u C A;have e:=G;refine Za O<|Zt aR fun a t=>?_;refine Q6<|Xo<|X5<|X4 t (X0q t O (ResV.cellN (l:=[vi ((dPow 1).num.a),vi ((dPow 1).num.b),vi ((dPow 1).num.c),vi ((dPow 1).num.d),vi ((dPow 1).exp)]) O Xr (e.at 0) O) O) ?_;exact ⟨(by rw [y];try rfl),u⟩
  have y:cellI n g i j=dZ:=by rw [cellI,Q4 L,Q3 (X1k aB)]
  refine Q7<|Xn<|aA _ _<|Zs t fun _ aS=>?_;refine Ze (Xi (ps:=[]) (cs:=[vi 0,vi 0,vi 0,vi 0,vi 0]) O (fun _=>by first|rfl|kernel_rfl))<|Zo (Vw [vi 0,vi 0,vi 0,vi 0,vi 0] X09 e) ?_;rintro _ w4 ⟨C,G⟩;have u:=Below.oy u C A;have e:=G;refine Za O<|Zt aS fun a t=>?_
  refine Q6 (X4 t (X0q t O (ResV.cellN (l:=[vi 0,vi 0,vi 0,vi 0,vi 0]) O Xr (e.at 0) O) O) ?_)
  exact ⟨(by rw [y];try rfl),u⟩
 have L:=X1k B;have aU:=aC.2.2.1 L;refine Zs t fun _ aE=>?_;refine Ze (Vd O X0n 0)<|Ze (X0 O X8 (f.at 0))<|Zf (Vc (F99 _ g.k) Xal) ?_;rintro _ _ ⟨rfl,rfl⟩;refine Za O<|Zt aE fun a t=>?_
 refine X04 t O (fun z=>?_) (fun z=>?_)
 ·have E:=z;have aV:=aC.2.2.2 (X0b.1 E);refine Zs t fun _ aF=>?_;refine Ze (X0 O X8 (m.at 0))<|Ze (Xx (l:=[vi g.k,vi g.a,vi g.b]) O X01 (f.at 0) O)<|Zm O<|Zf (Vc (Y2c _ n g i hg (X0b.1 E)) Xxm) ?_;rintro _ w5 ⟨rfl,x⟩;have f:=f.bw x;have m:=m.bw x;have e:=e.bw x;have u:=btr u x;refine Zm O<|Ze (X13 O O)<|Zt aF fun a t=>?_
  refine X04 t O (fun D=>?_) (fun D=>?_)
  ·have y:cellI n g i j=dPow (4*(if czI n g i=true then 1 else 0)):=by rw [cellI,Q3 L,Q4 E,Q4 (eq_of_beq D)]
   refine Q5 fun _ aG=>?_;refine X0f (fun a w=>Fr a 75 [(6,(pZ9 b2)),(7,.bool true)]/\Blk w ba 59 [vi g.k,vi g.a,vi g.b]/\Blk w bb 3 [vi n]/\Blk w b2 139 [vi ((dPow (4*(if (((g.k==10)&&((bitF n i g.a)==1))&&((bitF n i g.b)==1))=true then 1 else 0))).num.a),vi ((dPow (4*(if (((g.k==10)&&((bitF n i g.a)==1))&&((bitF n i g.b)==1))=true then 1 else 0))).num.b),vi ((dPow (4*(if (((g.k==10)&&((bitF n i g.a)==1))&&((bitF n i g.b)==1))=true then 1 else 0))).num.c),vi ((dPow (4*(if (((g.k==10)&&((bitF n i g.a)==1))&&((bitF n i g.b)==1))=true then 1 else 0))).num.d),vi ((dPow (4*(if (((g.k==10)&&((bitF n i g.a)==1))&&((bitF n i g.b)==1))=true then 1 else 0))).exp)]/\Below J.heap.size J w) ?_ ?_
   ·refine Zr t<|Ze (Vd O X0n 0)<|Ze (X0 O X8 (f.at 0))<|Ze (X13 O O)<|Zm O ?_
    refine Zg 29 O (fun p=>?_) (fun p=>?_)
    ·refine Zv (gW p) (X0 O X8 (m.at 0)) ?_;refine Zv (gW p) (X7 O) ?_;refine Zv (gW p) (Vd O X0p 1) ?_;refine Zv (gW p) (X0 O X8 (f.at 1)) ?_;refine Zk (gW p) (Vc (Xl2 _ n i g.a Z Z Z) X88) ?_;rintro _ _ ⟨rfl,rfl⟩;refine Zv (gW p) (X13 O O) ?_;refine Ze (Xf O p O)<|Zm O ?_
     refine Zg 37 O (fun q=>?_) (fun q=>?_)
     ·refine Zv (gW q) (X0 O X8 (m.at 0)) ?_;refine Zv (gW q) (X7 O) ?_;refine Zv (gW q) (Vd O X14 2) ?_;refine Zv (gW q) (X0 O X8 (f.at 2)) ?_;refine Zk (gW q) (Vc (Xl2 _ n i g.b Z Z Z) X88) ?_;rintro _ _ ⟨rfl,rfl⟩;refine Zv (gW q) (X13 O O) ?_;refine Ze (Xf O q O)<|Zf (Vc (F59 _ ((bitF n i g.b)==1)) Xjg) ?_;rintro _ _ ⟨rfl,rfl⟩;refine Ze (Xbo O O (by split<;>decide) (by split<;>decide))<|Zf (Vc (Xbh _ (4*(if ((bitF n i g.b)==1)=true then 1 else 0)) (by split<;>rfl)) X48) ?_;rintro _ w6 ⟨rfl,x⟩;have f:=f.bw x;have m:=m.bw x;have e:=e.bw x;have u:=btr u x;refine Zo (Vw [vi ((dPow (4*(if ((bitF n i g.b)==1)=true then 1 else 0))).num.a),vi ((dPow (4*(if ((bitF n i g.b)==1)=true then 1 else 0))).num.b),vi ((dPow (4*(if ((bitF n i g.b)==1)=true then 1 else 0))).num.c),vi ((dPow (4*(if ((bitF n i g.b)==1)=true then 1 else 0))).num.d),vi ((dPow (4*(if ((bitF n i g.b)==1)=true then 1 else 0))).exp)] X09 e) ?_;rintro _ w7 ⟨C,G⟩;have f:=f.oz C e O;have m:=m.oz C e O;have u:=Below.oy u C A;have e:=G;refine Za O ?_;refine Zn fun a t=>?_
      have H:(((g.k==10)&&((bitF n i g.a)==1))&&((bitF n i g.b)==1))=((bitF n i g.b)==1):=by simp [B,z,D,p,q]
      have e:Blk w7 b2 139 [vi ((dPow (4*(if (((g.k==10)&&((bitF n i g.a)==1))&&((bitF n i g.b)==1))=true then 1 else 0))).num.a),vi ((dPow (4*(if (((g.k==10)&&((bitF n i g.a)==1))&&((bitF n i g.b)==1))=true then 1 else 0))).num.b),vi ((dPow (4*(if (((g.k==10)&&((bitF n i g.a)==1))&&((bitF n i g.b)==1))=true then 1 else 0))).num.c),vi ((dPow (4*(if (((g.k==10)&&((bitF n i g.a)==1))&&((bitF n i g.b)==1))=true then 1 else 0))).num.d),vi ((dPow (4*(if (((g.k==10)&&((bitF n i g.a)==1))&&((bitF n i g.b)==1))=true then 1 else 0))).exp)]:=by rw [H];exact e
      exact ⟨t.sb,f,m,e,u⟩
     (iterate 6 refine Zp (gP q) ?_);refine Ze (Xb O q O)<|Zf (Vc (F59 _ false) Xjg) ?_;rintro _ _ ⟨rfl,rfl⟩;refine Ze (Xbo O O (by split<;>decide) (by split<;>decide))<|Zf (Vc (Xbh _ (4*(if false=true then 1 else 0)) (by split<;>rfl)) X48) ?_;rintro _ w8 ⟨rfl,x⟩;have f:=f.bw x;have m:=m.bw x;have e:=e.bw x;have u:=btr u x;refine Zo (Vw [vi ((dPow (4*(if false=true then 1 else 0))).num.a),vi ((dPow (4*(if false=true then 1 else 0))).num.b),vi ((dPow (4*(if false=true then 1 else 0))).num.c),vi ((dPow (4*(if false=true then 1 else 0))).num.d),vi ((dPow (4*(if false=true then 1 else 0))).exp)] X09 e) ?_;rintro _ w9 ⟨C,G⟩;have f:=f.oz C e O;have m:=m.oz C e O;have u:=Below.oy u C A;have e:=G;refine Za O ?_;refine Zn fun a t=>?_
     have H:(((g.k==10)&&((bitF n i g.a)==1))&&((bitF n i g.b)==1))=(false):=by simp [B,z,D,p,q]
     have e:Blk w9 b2 139 [vi ((dPow (4*(if (((g.k==10)&&((bitF n i g.a)==1))&&((bitF n i g.b)==1))=true then 1 else 0))).num.a),vi ((dPow (4*(if (((g.k==10)&&((bitF n i g.a)==1))&&((bitF n i g.b)==1))=true then 1 else 0))).num.b),vi ((dPow (4*(if (((g.k==10)&&((bitF n i g.a)==1))&&((bitF n i g.b)==1))=true then 1 else 0))).num.c),vi ((dPow (4*(if (((g.k==10)&&((bitF n i g.a)==1))&&((bitF n i g.b)==1))=true then 1 else 0))).num.d),vi ((dPow (4*(if (((g.k==10)&&((bitF n i g.a)==1))&&((bitF n i g.b)==1))=true then 1 else 0))).exp)]:=by rw [H];exact e
     exact ⟨t.sb,f,m,e,u⟩
    (iterate 6 refine Zp (gP p) ?_);refine Ze (Xb O p O)<|Zm O<|Zp (gP O) ?_;(iterate 5 refine Zp (gP O) ?_);refine Ze (Xb O O O)<|Zf (Vc (F59 _ false) Xjg) ?_;rintro _ _ ⟨rfl,rfl⟩;refine Ze (Xbo O O (by split<;>decide) (by split<;>decide))<|Zf (Vc (Xbh _ (4*(if false=true then 1 else 0)) (by split<;>rfl)) X48) ?_;rintro _ aW ⟨rfl,x⟩;have f:=f.bw x;have m:=m.bw x;have e:=e.bw x;have u:=btr u x;refine Zo (Vw [vi ((dPow (4*(if false=true then 1 else 0))).num.a),vi ((dPow (4*(if false=true then 1 else 0))).num.b),vi ((dPow (4*(if false=true then 1 else 0))).num.c),vi ((dPow (4*(if false=true then 1 else 0))).num.d),vi ((dPow (4*(if false=true then 1 else 0))).exp)] X09 e) ?_;rintro _ aT ⟨C,G⟩;have f:=f.oz C e O;have m:=m.oz C e O;have u:=Below.oy u C A;have e:=G;refine Za O ?_;refine Zn fun a t=>?_
    have H:(((g.k==10)&&((bitF n i g.a)==1))&&((bitF n i g.b)==1))=(false):=by simp [B,z,D,p]
    have e:Blk aT b2 139 [vi ((dPow (4*(if (((g.k==10)&&((bitF n i g.a)==1))&&((bitF n i g.b)==1))=true then 1 else 0))).num.a),vi ((dPow (4*(if (((g.k==10)&&((bitF n i g.a)==1))&&((bitF n i g.b)==1))=true then 1 else 0))).num.b),vi ((dPow (4*(if (((g.k==10)&&((bitF n i g.a)==1))&&((bitF n i g.b)==1))=true then 1 else 0))).num.c),vi ((dPow (4*(if (((g.k==10)&&((bitF n i g.a)==1))&&((bitF n i g.b)==1))=true then 1 else 0))).num.d),vi ((dPow (4*(if (((g.k==10)&&((bitF n i g.a)==1))&&((bitF n i g.b)==1))=true then 1 else 0))).exp)]:=by rw [H];exact e
    exact ⟨t.sb,f,m,e,u⟩
   rintro a aX ⟨t,f,m,e,u⟩;refine aG _ _<|Q6<|Xo<|X5 ?_;refine X4 t (X0q t O (ResV.cellN (l:=[vi ((dPow (4*(if (((g.k==10)&&((bitF n i g.a)==1))&&((bitF n i g.b)==1))=true then 1 else 0))).num.a),vi ((dPow (4*(if (((g.k==10)&&((bitF n i g.a)==1))&&((bitF n i g.b)==1))=true then 1 else 0))).num.b),vi ((dPow (4*(if (((g.k==10)&&((bitF n i g.a)==1))&&((bitF n i g.b)==1))=true then 1 else 0))).num.c),vi ((dPow (4*(if (((g.k==10)&&((bitF n i g.a)==1))&&((bitF n i g.b)==1))=true then 1 else 0))).num.d),vi ((dPow (4*(if (((g.k==10)&&((bitF n i g.a)==1))&&((bitF n i g.b)==1))=true then 1 else 0))).exp)]) O Xr (e.at 0) O) O) ?_;exact ⟨(by rw [y];try rfl),u⟩
  have y:cellI n g i j=dZ:=by rw [cellI,Q3 L,Q4 E,Q3 (X1k D)]
  refine Q7<|Xn<|aA _ _<|Zs t fun _ aH=>?_;refine Ze (Xi (ps:=[]) (cs:=[vi 0,vi 0,vi 0,vi 0,vi 0]) O (fun _=>by first|rfl|kernel_rfl))<|Zo (Vw [vi 0,vi 0,vi 0,vi 0,vi 0] X09 e) ?_;rintro _ aY ⟨C,G⟩;have u:=Below.oy u C A;have e:=G;refine Za O<|Zt aH fun a t=>?_
  refine Q6 (X4 t (X0q t O (ResV.cellN (l:=[vi 0,vi 0,vi 0,vi 0,vi 0]) O Xr (e.at 0) O) O) ?_)
  exact ⟨(by rw [y];try rfl),u⟩
 have E:¬ inR g.k 9 11=true:=by rw [z];simp
 have aZ:g.k<=8:=by have h9:¬ (9<=g.k/\g.k<=11):=(fun h=>E (X0b.2 h));omega
 refine Q5 fun _ aI=>?_;refine X0f (fun a w=>Fr a 75 [(0,vi i),(1,vi j),(2,(pZ9 ba)),(3,(pZ9 bb)),(6,(pZ9 b2)),(48,.bool ((i==j)||((flipF n i g.a)==j)))]/\w1=w) ?_ ?_
 ·refine Zr t<|Zm O<|Zm O<|Ze (X13 O O)<|Zm O ?_
  refine Zg 52 O (fun o=>?_) (fun o=>?_)
  ·(iterate 7 refine Zp (gP o) ?_);refine Ze (Xf O o O)<|Za O ?_;refine Zn fun a t=>?_;exact ⟨t.sub ⟨O,O,O,O,O,X1 O (by first|rfl|(simp only [B,z,o,bs];done)|simp [B,z,o]),trivial⟩,O⟩
  refine Zv (gW o) (X0 O X8 (m.at 0)) ?_;refine Zv (gW o) (X7 O) ?_;refine Zv (gW o) (Vd O X0p 1) ?_;refine Zv (gW o) (X0 O X8 (f.at 1)) ?_;refine Zk (gW o) (Vc (Xr1 _ n i g.a Z Z Z) Xdr) ?_;rintro _ _ ⟨rfl,rfl⟩;refine Zv (gW o) (X7 O) ?_;refine Zv (gW o) (X13 O O) ?_;refine Ze (Xb O o O)<|Za O ?_;refine Zn fun a t=>?_;exact ⟨t.sub ⟨O,O,O,O,O,X1 O (by first|rfl|(simp only [B,z,o,bs];done)|simp [B,z,o]),trivial⟩,O⟩
 rintro a _ ⟨t,rfl⟩;refine aI _ _ ?_
 refine X04 t O (fun I=>?_) (fun I=>?_)
 ·have y:cellI n g i j=entryI g.k (bitF n i g.a) (bitF n j g.a):=by rw [cellI,Q3 L,Q3 E,Q4 (by simpa using I)]
  refine Q5 fun _ aJ=>?_;refine X08 none (fun j=>[13].contains j) mixed ?_;intro b0 x;have f:=f.bw x;have m:=m.bw x;have e:=e.bw x;have u:=btr u x;refine Yb t<|Yo 0 O (fun _=>Vd O X0n 0)<|Ye 1 O (X0 O X8 (f.at 0))<|Ye 2 O (X0 O X8 (m.at 0))<|Yo 3 O (fun _=>X7 O)<|Yo 4 O (fun _=>Vd O X0p 1)<|Ye 5 O (X0 O X8 (f.at 1))<|Ye 7 O (X0 O X8 (m.at 0))<|Yo 8 O (fun _=>X7 O)<|Yo 9 O (fun _=>Vd O X0p 1)<|Ye 10 O (X0 O X8 (f.at 1)) ?_;refine Y1 6<|Yz O tv0 (Vc (Xl2 _ n i g.a Z Z Z) X88) ?_;refine Y1 11<|Yz O tv0 (Vc (Xl2 _ n j g.a Z Z Z) X88) ?_;refine Y1 12<|Yk O tv0 (Vc (Y2d _ g.k (bitF n i g.a) (bitF n j g.a) Z aD) Xxn) (fun _ _ ⟨_,x⟩=>x) ?_;rintro _ b1 ⟨rfl,x⟩;have e:=e.bw x;have u:=btr u x;refine Y1 13<|Yh O tv0 O (Vw [vi ((entryI g.k (bitF n i g.a) (bitF n j g.a)).num.a),vi ((entryI g.k (bitF n i g.a) (bitF n j g.a)).num.b),vi ((entryI g.k (bitF n i g.a) (bitF n j g.a)).num.c),vi ((entryI g.k (bitF n i g.a) (bitF n j g.a)).num.d),vi ((entryI g.k (bitF n i g.a) (bitF n j g.a)).exp)] X09 e) ?_;rintro _ b3 ⟨C,G⟩;have u:=Below.oy u C A;have e:=G;refine Yo 14 O (fun _=>X0y O) ?_;refine Yd fun a t=>?_;refine aJ _ _<|Q6<|Xo<|X5 ?_;refine X4 t (X0q t O (ResV.cellN (l:=[vi ((entryI g.k (bitF n i g.a) (bitF n j g.a)).num.a),vi ((entryI g.k (bitF n i g.a) (bitF n j g.a)).num.b),vi ((entryI g.k (bitF n i g.a) (bitF n j g.a)).num.c),vi ((entryI g.k (bitF n i g.a) (bitF n j g.a)).num.d),vi ((entryI g.k (bitF n i g.a) (bitF n j g.a)).exp)]) O Xr (e.at 0) O) O) ?_;exact ⟨(by rw [y];try rfl),u⟩
 have y:cellI n g i j=dZ:=by rw [cellI,Q3 L,Q3 E,Q3 (by simpa using I)]
 refine Q7<|Xn<|aA _ _<|Zs t fun _ aK=>?_;refine Ze (Xi (ps:=[]) (cs:=[vi 0,vi 0,vi 0,vi 0,vi 0]) O (fun _=>by first|rfl|kernel_rfl))<|Zo (Vw [vi 0,vi 0,vi 0,vi 0,vi 0] X09 e) ?_;rintro _ b4 ⟨C,G⟩;have u:=Below.oy u C A;have e:=G;refine Za O<|Zt aK fun a t=>?_
 refine Q6 (X4 t (X0q t O (ResV.cellN (l:=[vi 0,vi 0,vi 0,vi 0,vi 0]) O Xr (e.at 0) O) O) ?_)
 exact ⟨(by rw [y];try rfl),u⟩
theorem Xvs(w0:World)(n:Int)(g:Gt) : Ret Tryz.prog 88 [vi n,.agg #[vi g.k,vi g.a,vi g.b]] w0 (fun v w=>∃ A c,v=.tuple #[mV A c ((gateI n g).getD mZ),.bool (gateI n g).isSome]/\Own w w0.heap.size 139 5 encD A c ((gateI n g).getD mZ).cells/\Below w0.heap.size w0 w):=by
 refine enter Tryz.func88 O 19 O O ?_;intro a u
 have p:=bz w0
 refine Zs u fun _ aD=>?_;refine Zf (X0m (zs:=[vi n]) O O) ?_;rintro _ w1 ⟨b2,rfl,aE,o,f⟩;have aK:=Q0 p.size aE;have p:=btr p o;refine Zf (X0m (zs:=[vi g.k,vi g.a,vi g.b]) O O) ?_;rintro _ w2 ⟨b3,rfl,aF,o,t⟩;have aL:=Q0 p.size aF;have f:=f.bw o;have p:=btr p o;refine Zf (Xl (zs:=[vi 0,vi 0,.slice none 0 0]) X1r O) ?_;rintro _ w3 ⟨b5,rfl,aG,o,e⟩;have h:=Q0 p.size aG;have f:=f.bw o;have t:=t.bw o;have p:=btr p o;refine Za O<|ZX aD fun a u _ aH=>?_;refine Zs u fun _ aI=>?_;refine Ze (X0 O X8 (f.at 0))<|Ze (Vn X01 t)<|Zf (Vc (Xqx _ n g) Xdl) ?_;rintro _ w4 ⟨rfl,o⟩;have f:=f.bw o;have t:=t.bw o;have e:=e.bw o;have p:=btr p o;refine Ze (X0x O)<|Zt aI fun a u=>?_
 refine X04 u O (fun z=>?_) (fun z=>?_)
 ·have aA:=z
  have hn:¬ gOk n g=true:=by revert z;cases gOk n g<;>simp
  refine Zs u fun _ aJ=>?_;refine Ze (Xi (ps:=[]) (cs:=[vi 0,vi 0,.slice none 0 0]) O (fun _=>by first|rfl|kernel_rfl))<|Zo (Vw [vi 0,vi 0,.slice none 0 0] X19 e) ?_;rintro _ w5 ⟨ho,hb⟩;have p:=Below.oy p ho h;have e:=hb;refine Za O<|Zt aJ fun a u=>?_;refine Q6<|X5<|X4 u (X0q u O (ResV.cellN (l:=[vi 0,vi 0,.slice none 0 0]) O X0j (e.at 0) O) O) ?_;exact ⟨none,0,by rw [gateI,Q3 hn];rfl,by rw [gateI,Q3 hn];exact (Own.nil _ _ _ _ _),p⟩
 have aA:=z
 have hg:gOk n g=true:=by revert z;cases gOk n g<;>simp
 have aM:=X1i hg
 obtain ⟨d,hd⟩ : ∃ d:Nat,d=2^n.toNat:=⟨_,O⟩
 refine Q7<|aH _ _<|Q5 fun _ aB=>?_;refine X08 none (fun j=>[8].contains j) mixed ?_;intro w6 o;have f:=f.bw o;have t:=t.bw o;have e:=e.bw o;have p:=btr p o;refine Yb u<|Ye 0 O (X0 O X8 (f.at 0))<|Yo 1 O (fun _=>Xbp (m:=n.toNat) (D:=d) O O Z ⟨hd,by omega⟩)<|Ye 2 O (X0 O X8 (f.at 0))<|Yo 3 O (fun _=>Xbp (m:=n.toNat) (D:=d) O O Z ⟨hd,by omega⟩)<|Yo 4 O (fun _=>X33 (vs:=[(pZ9 b3),(pZ9 b2)]) O)<|Y1 5 ?_;refine Yk O tv0 (Vc (Xqz _ (d:Int) (d:Int) 129 [(pZ9 b3),(pZ9 b2)] Xxl (fun i j=>some (cellI n g i j)) (fun i j w' hi hj hE'=>Y2b w' g n _ _ (t.bw hE') (f.bw hE') hg i j)) Xdn) (fun _ _ ⟨x,y,_,q,o⟩=>o) ?_;rintro _ w7 ⟨x,y,rfl,q,o⟩;have q:=q.lower p.size;have e:=e.bw o;have p:=btr p o;refine Yo 6 O (fun _=>X3 (vs:=[.agg #[vi (((matOf (d:Int) (d:Int) (fun i j=>some (cellI n g i j))).getD mZ).rows),vi (((matOf (d:Int) (d:Int) (fun i j=>some (cellI n g i j))).getD mZ).cols),.slice x (((matOf (d:Int) (d:Int) (fun i j=>some (cellI n g i j))).getD mZ).cells).length y],.bool ((matOf (d:Int) (d:Int) (fun i j=>some (cellI n g i j))).isSome)]) O O)<|Yo 7 O (fun _=>X3 (vs:=[.agg #[vi (((matOf (d:Int) (d:Int) (fun i j=>some (cellI n g i j))).getD mZ).rows),vi (((matOf (d:Int) (d:Int) (fun i j=>some (cellI n g i j))).getD mZ).cols),.slice x (((matOf (d:Int) (d:Int) (fun i j=>some (cellI n g i j))).getD mZ).cells).length y],.bool ((matOf (d:Int) (d:Int) (fun i j=>some (cellI n g i j))).isSome)]) O O)<|Y1 8 ?_;refine Yh O tv0 O (Vw [vi (((matOf (d:Int) (d:Int) (fun i j=>some (cellI n g i j))).getD mZ).rows),vi (((matOf (d:Int) (d:Int) (fun i j=>some (cellI n g i j))).getD mZ).cols),.slice x (((matOf (d:Int) (d:Int) (fun i j=>some (cellI n g i j))).getD mZ).cells).length y] X19 e) ?_;rintro _ w8 ⟨ho,hb⟩
 have q:=q.oT ho e O;have p:=Below.oy p ho h;have e:=hb;refine Yo 9 O (fun _=>X0y O) ?_;refine Yd fun a u=>?_;refine aB _ _ ?_
 refine Q6 (X4 u (X0q u O (ResV.cellN (l:=[vi (((matOf (d:Int) (d:Int) (fun i j=>some (cellI n g i j))).getD mZ).rows),vi (((matOf (d:Int) (d:Int) (fun i j=>some (cellI n g i j))).getD mZ).cols),.slice x (((matOf (d:Int) (d:Int) (fun i j=>some (cellI n g i j))).getD mZ).cells).length y]) O X0j (e.at 0) O) O) ?_)
 have aC:gateI n g=matOf (d:Int) (d:Int) fun i j=>some (cellI n g i j):=by rw [gateI,Q4 hg,hd]
 rw [aC]
 exact ⟨x,y,O,q,p⟩
end Go.Proofs.YtfkokcbjcndjpaaGreatDoor
namespace Go.Proofs
open Go.Shelf
def Tryz.lays189_ren:Go.Shelf.Ren:=⟨fun|189=>72|125=>120|257=>119|128=>171|129=>172|294=>162|295=>163|296=>164|297=>165|298=>166|299=>167|216=>168|300=>169|301=>170|328=>201|329=>202|330=>203|331=>204|332=>205|215=>206|343=>227|n=>n,fun|28=>32|3=>3|46=>151|0=>0|51=>210|53=>70|4=>4|183=>204|182=>203|131=>42|5=>5|9=>9|218=>229|222=>233|228=>254|229=>144|n=>n,fun|n=>n⟩
theorem Tryz.lays189:Go.Proofs.Lays.n189 Tryz.prog Tryz.lays189_ren:={
  mixed:=by kernel_rfl
  f125:=Tryz.func120.trans (congrArg some (by kernel_rfl))
  f128:=Tryz.func171.trans (congrArg some (by kernel_rfl))
  f129:=Tryz.func172.trans (congrArg some (by kernel_rfl))
  f189:=Tryz.func72.trans (congrArg some (by kernel_rfl))
  f215:=Tryz.func206.trans (congrArg some (by kernel_rfl))
  f216:=Tryz.func168.trans (congrArg some (by kernel_rfl))
  f257:=Tryz.func119.trans (congrArg some (by kernel_rfl))
  f294:=Tryz.func162.trans (congrArg some (by kernel_rfl))
  f295:=Tryz.func163.trans (congrArg some (by kernel_rfl))
  f296:=Tryz.func164.trans (congrArg some (by kernel_rfl))
  f297:=Tryz.func165.trans (congrArg some (by kernel_rfl))
  f298:=Tryz.func166.trans (congrArg some (by kernel_rfl))
  f299:=Tryz.func167.trans (congrArg some (by kernel_rfl))
  f300:=Tryz.func169.trans (congrArg some (by kernel_rfl))
  f301:=Tryz.func170.trans (congrArg some (by kernel_rfl))
  f328:=Tryz.func201.trans (congrArg some (by kernel_rfl))
  f329:=Tryz.func202.trans (congrArg some (by kernel_rfl))
  f330:=Tryz.func203.trans (congrArg some (by kernel_rfl))
  f331:=Tryz.func204.trans (congrArg some (by kernel_rfl))
  f332:=Tryz.func205.trans (congrArg some (by kernel_rfl))
  f343:=Tryz.func227.trans (congrArg some (by kernel_rfl))
  t0:=Tryz.underlying0
  a0:=Tryz.isAgg0
  z0:=Tryz.sizeOf0
  v0:=Tryz.zeroValue0
  t3:=Tryz.underlying3
  a3:=Tryz.isAgg3
  z3:=Tryz.sizeOf3
  v3:=Tryz.zeroValue3
  t4:=Tryz.underlying4
  a4:=Tryz.isAgg4
  z4:=Tryz.sizeOf4
  v4:=Tryz.zeroValue4
  t5:=Tryz.underlying5
  a5:=Tryz.isAgg5
  z5:=Tryz.sizeOf5
  v5:=Tryz.zeroValue5
  t9:=Tryz.underlying9
  a9:=Tryz.isAgg9
  z9:=Tryz.sizeOf9
  v9:=Tryz.zeroValue9
  t28:=Tryz.underlying32
  a28:=Tryz.isAgg32
  z28:=Tryz.sizeOf32
  v28:=Tryz.zeroValue32
  t46:=Tryz.underlying151
  a46:=Tryz.isAgg151
  z46:=Tryz.sizeOf151
  v46:=Tryz.zeroValue151
  t51:=Tryz.underlying210
  a51:=Tryz.isAgg210
  z51:=Tryz.sizeOf210
  v51:=Tryz.zeroValue210
  t53:=Tryz.underlying70
  a53:=Tryz.isAgg70
  z53:=Tryz.sizeOf70
  v53:=Tryz.zeroValue70
  t131:=Tryz.underlying42
  a131:=Tryz.isAgg42
  z131:=Tryz.sizeOf42
  v131:=Tryz.zeroValue42
  t182:=Tryz.underlying203
  a182:=Tryz.isAgg203
  z182:=Tryz.sizeOf203
  v182:=Tryz.zeroValue203
  t183:=Tryz.underlying204
  a183:=Tryz.isAgg204
  z183:=Tryz.sizeOf204
  v183:=Tryz.zeroValue204
  t218:=Tryz.underlying229
  a218:=Tryz.isAgg229
  z218:=Tryz.sizeOf229
  v218:=Tryz.zeroValue229
  t222:=Tryz.underlying233
  a222:=Tryz.isAgg233
  z222:=Tryz.sizeOf233
  v222:=Tryz.zeroValue233
  t228:=Tryz.underlying254
  a228:=Tryz.isAgg254
  z228:=Tryz.sizeOf254
  v228:=Tryz.zeroValue254
  t229:=Tryz.underlying144
  a229:=Tryz.isAgg144
  z229:=Tryz.sizeOf144
  v229:=Tryz.zeroValue144 }
open Go.Sort Go.RowKit in
theorem Tryz.slices_Sort_int(blk off cap:Nat)(zs:List Int)(w:World)(hH:Holds (Value.int .i64) w blk off zs.toArray)(hblk:blk<w.heap.size)(hsz:zs.length<4611686018427387904) :
    Calls Tryz.prog 72 #[.slice (some ⟨blk,off,none⟩) zs.length cap] w fun e w'=>
      e=.returned (.tuple #[])/\∃ n os,w'=grow (putRow (Value.int .i64) (Sort.ahead w n) blk off (zs.mergeSort fun x y=>decide (x<=y)).toArray) os:=Any.slices_Sort_int Tryz.lays189 blk off cap zs w hH hblk hsz
def Tryz.laysNm220_ren:Go.Shelf.Ren:=⟨fun|20=>73|n=>n,fun|22=>32|3=>3|4=>4|0=>0|n=>n,fun|n=>n⟩
theorem Tryz.laysNm220:Go.Proofs.Lays2.n20 Tryz.prog Tryz.laysNm220_ren:={
  mixed:=by kernel_rfl
  f20:=Tryz.func73.trans (congrArg some (by kernel_rfl))
  t0:=Tryz.underlying0
  a0:=Tryz.isAgg0
  z0:=Tryz.sizeOf0
  v0:=Tryz.zeroValue0
  t3:=Tryz.underlying3
  a3:=Tryz.isAgg3
  z3:=Tryz.sizeOf3
  v3:=Tryz.zeroValue3
  t4:=Tryz.underlying4
  a4:=Tryz.isAgg4
  z4:=Tryz.sizeOf4
  v4:=Tryz.zeroValue4
  t22:=Tryz.underlying32
  a22:=Tryz.isAgg32
  z22:=Tryz.sizeOf32
  v22:=Tryz.zeroValue32
  i3:=by kernel_rfl }
open Go.RowKit Go.Lib Go.Sort in
theorem Tryz.slices_Compact_int(blk off cap:Nat)(zs:List Int)(w:World)(hH:Holds (Value.int .i64) w blk off zs.toArray)(hsz:zs.length<=9223372036854775807)(hcap:zs.length<=cap) :
    Calls Tryz.prog 73 #[.slice (some ⟨blk,off,none⟩) zs.length cap] w fun e w'=>e=.returned (.slice (some ⟨blk,off,none⟩) (Lib.compact zs).length cap)/\∃ q,w'=putRow (Value.int .i64) (Sort.ahead w q) blk off (Lib.compact zs++List.replicate (zs.length-(Lib.compact zs).length) 0).toArray:=Any.slices_Compact_int Tryz.laysNm220 blk off cap zs w hH hsz hcap
open Go.RowKit Go.Lib Go.Sort in
theorem Tryz.slices_Compact_int_empty(a:Option Addr)(cap:Nat)(w:World) :
    Calls Tryz.prog 73 #[.slice a 0 cap] w fun e w'=>e=.returned (.slice a 0 cap)/\w'=w:=Any.slices_Compact_int_empty Tryz.laysNm220 a cap w
end Go.Proofs
namespace Go.Proofs.YtfkokcbjcndjpaaGreatDoor
open Go.RowKit
section
variable {α : Type}
theorem X8v{enc:α->List Value}{sz:Nat}(hsz:∀ x,(enc x).length=sz){l:List α}{j:Nat}(hj:j<l.length*sz) : ∃ x,l[j/sz]? = some x/\(l.flatMap enc)[j]? = (enc x)[j % sz]?:=by
 have h0:0<sz:=by
  rcases Nat.eq_zero_or_pos sz with h|h
  ·subst h;simp at hj
  ·exact h
 have hk:j/sz<l.length:=Nat.div_lt_of_lt_mul (by rw [Wi];exact hj)
 refine ⟨l[j/sz],Qc hk,?_⟩
 have hm:j % sz<(enc l[j/sz]).length:=by rw [hsz];exact Nat.mod_lt _ h0
 have h1:=X4s hsz l (j/sz) _ (Qc hk) (j % sz) _ (Qc hm)
 rw [show j/sz*sz+j % sz=j from by rw [Wi];exact Nat.div_add_mod j sz] at h1
 rw [h1,Qc hm]
theorem Xbl{enc:α->List Value}{sz:Nat}(hsz:∀ x,(enc x).length=sz){z:Value}{z0:α}(hz:z.cells.toList=enc z0)(n:Nat) : madeCells z.cells (n*sz)=((List.replicate n z0).flatMap enc).toArray:=by
 have hs:z.cells.size=sz:=by rw [<- hsz z0,<- hz];simp
 apply Array.ext'
 apply List.ext_getElem?
 intro j
 by_cases hj:j<n*sz
 ·obtain ⟨x,hx,h1⟩:=X8v hsz (l:=List.replicate n z0) (j:=j) (by simpa using hj)
  obtain rfl:x=z0:=(List.eq_of_mem_replicate (Qe hx))
  have h0:0<sz:=by
   rcases Nat.eq_zero_or_pos sz with h|h
   ·subst h;simp at hj
   ·exact h
  have hm:j % sz<z.cells.size:=by rw [hs];exact Nat.mod_lt _ h0
  rw [List.toList_toArray,h1,<- hz]
  simp only [madeCells,Array.getElem?_toList,Array.getElem?_map,Array.getElem?_range,hj,if_true,Option.map_some,hs]
  rw [getElem!_pos z.cells (j % sz) hm,Array.getElem?_eq_getElem hm]
 ·rw [List.getElem?_eq_none (by simp [madeCells];omega),List.toList_toArray,List.getElem?_eq_none (by rw [X0h hsz];simp;omega)]
theorem X96{enc:α->List Value}{sz:Nat}(hsz:∀ x,(enc x).length=sz) : ∀ (l:List α) (k:Nat) (x:α),k<l.length->splice (l.flatMap enc) (k*sz) (enc x)=(l.set k x).flatMap enc
 | [],k,x,h=>by simp at h
 | y::l,0,x,h=>by
  simp only [splice,Nat.zero_mul,List.take_zero,List.nil_append,Nat.zero_add,Wc,List.set_cons_zero]
  rw [hsz,<- hsz y,List.drop_left]
 | y::l,k+1,x,h=>by
  have ih:=X96 hsz l k x (by simpa using h)
  unfold splice at ih ⊢
  have h1:(k+1)*sz=(enc y).length+k*sz:=by rw [hsz,Wb];omega
  rw [h1]
  simp only [Wc,List.set_cons_succ]
  rw [List.take_length_add_append,show (enc y).length+k*sz+(enc x).length=(enc y).length+(k*sz+(enc x).length) from by omega,List.drop_length_add_append,Qx,Qx]
  rw [<- ih,Qx]
end
section
variable {α : Type} {P : Program} {a : Act} {w : World} {n : Nat} {e : Env} {ty : TypeId} {pos : String} {af : Array Edge} {g : Option (Nat × Bool)} {d : Option Tmp}
theorem Xdg{T E sz bytes m:Nat}{x y:Operand}{enc:α->List Value}{z:Value}{z0:α}(hf:Fr a n e)(hx:ev e x=some (.int .i64 (m:Int)))(hy:ev e y=some (.int .i64 (m:Int)))(hT:SliceT P T E)(hi:InfoT P E sz bytes)(hz:ZeroT P E z)(hz0:z.cells.toList=enc z0)(hsz:∀ x,(enc x).length=sz)(hb:bytes*m<=281474976710656)(hm:m<=4611686018427387904) :
  Ef P ⟨d,.makeSlice T x y,ty,pos,af,g⟩ a w (fun v w'=>∃ b,v=.slice (some ⟨b,0,none⟩) m m/\w.heap.size<=b/\Below w.heap.size w w'/\Blk w' b E ((List.replicate m z0).flatMap enc)):=by
 obtain ⟨i,z1,hi1,hi2,hi3,hi4,hi5,hi6⟩:=hi;obtain ⟨i',hi1',hz1⟩:=hz
 rw [hi1] at hi1'
 injection hi1' with hi1'
 subst hi1'
 rw [hi2] at hz1
 injection hz1 with hz1
 subst hz1
 have hb':(i.bytes:Int)*(m:Int)<=281474976710656:=by
  have h:((i.bytes*m:Nat) : Int)<=281474976710656:=by rw [hi4];omega
  rwa [Int.natCast_mul] at h
 have hr:=run_make (P:=P) w T E i z1 hT hi1 hi2 .i64 .i64 m m Z (Int.le_refl _) hb' Z
 refine (Ef.of_run (v:=.slice (some ⟨w.heap.size,0,none⟩) m m) (w':=w.alloc (.cells ((List.replicate m z0).flatMap enc).toArray E)) ?_).mono fun v w' ⟨e1,e2⟩=>?_
 ·rw [hi3,Qj,Xbl hsz hz0] at hr
  simp [execOp,hf.ev hx,hf.ev hy,hr]
 ·subst e1;subst e2
  exact ⟨_,O,Qb _,(Below.refl _ _).alloc (Qb _) _,X82 w E _⟩
theorem Xa0{T E sz bytes m:Nat}{x y:Operand}{enc:α->List Value}{z:Value}{z0:α}(hx:ev e x=some (.int .i64 (m:Int)))(hy:ev e y=some (.int .i64 (m:Int)))(hT:SliceT P T E)(hi:InfoT P E sz bytes)(hz:ZeroT P E z)(hz0:z.cells.toList=enc z0)(hsz:∀ x,(enc x).length=sz)(hb:bytes*m<=281474976710656)(hm:m<=4611686018427387904) : EfW P ⟨d,.makeSlice T x y,ty,pos,af,g⟩ n e w (fun v w'=>∃ b,v=.slice (some ⟨b,0,none⟩) m m/\w.heap.size<=b/\Below w.heap.size w w'/\Blk w' b E ((List.replicate m z0).flatMap enc)):=fun a hf=>Xdg hf hx hy hT hi hz hz0 hsz hb hm
theorem Xll{T E sz b m c k off:Nat}{x y:Operand}{i:Int}(hf:Fr a n e)(hx:ev e x=some (.slice (some ⟨b,0,none⟩) m c))(hy:ev e y=some (.int .i64 i))(hT:SliceT P T E)(hs:SizeT P E sz)(hi:i=(k:Int))(hk:k<m)(ho:k*sz=off) :
  Ev P ⟨d,.indexAddr T x y,ty,pos,af,g⟩ a w (.pointer (some ⟨b,off,none⟩)):=by
 have h:=X77 (P:=P) (w:=w) (d:=d) (ty:=ty) (pos:=pos) (af:=af) (g:=g) hf hx hy hT hs hi hk
 rwa [X1w,Nat.zero_add,ho] at h
theorem Xik{T E sz b m c k off:Nat}{x y:Operand}{i:Int}(hx:ev e x=some (.slice (some ⟨b,0,none⟩) m c))(hy:ev e y=some (.int .i64 i))(hT:SliceT P T E)(hs:SizeT P E sz)(hi:i=(k:Int))(hk:k<m)(ho:k*sz=off) : EvW P ⟨d,.indexAddr T x y,ty,pos,af,g⟩ n e w (.pointer (some ⟨b,off,none⟩)):=fun a hf=>Xll hf hx hy hT hs hi hk ho
theorem Xlf{t T b k sz:Nat}{x y:Operand}{v:Value}{enc:α->List Value}{l:List α}{u:α}(hf:Fr a n e)(hx:ev e x=some (.pointer (some ⟨b,k*sz,none⟩)))(hy:ev e y=some v)(hs:SizeT P t sz)(hb:Blk w b T (l.flatMap enc))(hsz:∀ x,(enc x).length=sz)(hone:∀ x,(enc x).all one=true)(hv:v.cells.toList=enc u)(hk:k<l.length) :
  Ef P ⟨d,.store t x y,ty,pos,af,g⟩ a w (Stored w b T ((l.set k u).flatMap enc)):=by
 have hl:k*sz+sz<=(l.flatMap enc).length:=by
  rw [X0h hsz]
  have:=Nat.mul_le_mul_right sz (show k+1<=l.length by omega)
  rwa [Wb,Nat.one_mul] at this
 exact Xfi (vs:=enc u) hf hx hy hs hb hv (by rw [hsz];simp) (hone u) (by rw [Nat.ble_eq];exact hl) (X96 hsz l k u hk)
theorem Xii{t T b k sz:Nat}{x y:Operand}{v:Value}{enc:α->List Value}{l:List α}{u:α}(hx:ev e x=some (.pointer (some ⟨b,k*sz,none⟩)))(hy:ev e y=some v)(hs:SizeT P t sz)(hb:Blk w b T (l.flatMap enc))(hsz:∀ x,(enc x).length=sz)(hone:∀ x,(enc x).all one=true)(hv:v.cells.toList=enc u)(hk:k<l.length) : EfW P ⟨d,.store t x y,ty,pos,af,g⟩ n e w (Stored w b T ((l.set k u).flatMap enc)):=fun a hf=>Xlf hf hx hy hs hb hsz hone hv hk
theorem Xha{T E sz m c k:Nat}{x y:Operand}{A:Option Addr}{i:Int}(hf:Fr a n e)(hx:ev e x=some (.slice A m c))(hy:ev e y=some (.int .i64 i))(hT:SliceT P T E)(hs:SizeT P E sz)(hi:i=(k:Int))(hk:k<=c) :
  Ev P ⟨d,.slice T x none (some y) none,ty,pos,af,g⟩ a w (.slice A k c):=fun w' _=>by
 subst hi
 have h0:∀ p:Addr,p.add 0=p:=fun p=>by simp [Addr.add]
 simp [execOp,Instr.sliceAt,Instr.slice,Instr.sliceBounds,run_sliceBound,X0t hT,run_sizeOf' hs,hf.ev hx,hf.ev hy,hk,h0]
theorem Xdj{T E sz m c k:Nat}{x y:Operand}{A:Option Addr}{i:Int}(hf:Fr a n e)(hx:ev e x=some (.slice A m c))(hy:ev e y=some (.int .i64 i))(hT:SliceT P T E)(hs:SizeT P E sz)(hi:i=(k:Int))(hk:k<=m) :
  Ev P ⟨d,.slice T x (some y) none none,ty,pos,af,g⟩ a w (.slice (if c=k then A else A.map (·.add (k*sz))) (m-k) (c-k)):=fun w' _=>by
 subst hi
 simp [execOp,Instr.sliceAt,Instr.slice,Instr.sliceBounds,run_sliceBound,X0t hT,run_sizeOf' hs,hf.ev hx,hf.ev hy,hk]
end
section
variable {α : Type} {w : World} {B B0 : Nat} {E : TypeId} {sz : Nat} {enc : α -> List Value} {A : Option Addr} {c : Nat} {l : List α}
theorem Xe1(hsz:∀ x,(enc x).length=sz)(k:Nat) : (l.take k).flatMap enc=(l.flatMap enc).take (k*sz):=by
 conv=>rhs;rw [<- W9 k l]
 rw [List.flatMap_append]
 by_cases hk:k<=l.length
 ·have:((l.take k).flatMap enc).length=k*sz:=by rw [X0h hsz,Qn,Nat.min_eq_left hk]
  rw [<- this,List.take_left]
 ·rw [Qi Z,W3 Z]
  simp only [List.flatMap_nil,List.append_nil]
  rw [Qi (by rw [X0h hsz];exact Nat.mul_le_mul_right _ Z)]
theorem Xe0(hsz:∀ x,(enc x).length=sz)(k:Nat) : (l.drop k).flatMap enc=(l.flatMap enc).drop (k*sz):=by
 conv=>rhs;rw [<- W9 k l]
 rw [List.flatMap_append]
 by_cases hk:k<=l.length
 ·have:((l.take k).flatMap enc).length=k*sz:=by rw [X0h hsz,Qn,Nat.min_eq_left hk]
  rw [<- this,List.drop_left]
 ·have h1:l.drop k=[]:=W3 Z
  rw [h1,List.flatMap_nil,List.append_nil,W3 (by rw [X0h hsz,Qn];exact Nat.mul_le_mul_right _ Z)]
theorem Rd.takeK(hsz:∀ x,(enc x).length=sz)(h:Rd w B E enc A l)(k:Nat) : Rd w B E enc A (l.take k):=fun hl=>by
 have hl':l≠[]:=by rintro rfl;simp at hl
 obtain ⟨b,off,cs,fz,h1,h2,h3,h4⟩:=h hl'
 refine ⟨b,off,cs,fz,h1,h2,h3,fun j v hj=>h4 j v ?_⟩
 rw [Xe1 hsz,List.getElem?_take] at hj
 split at hj
 ·exact hj
 ·cases hj
theorem Rd.dropK(hsz:∀ x,(enc x).length=sz)(h:Rd w B E enc A l)(hc:l.length<=c)(k:Nat) : Rd w B E enc (if c=k then A else A.map (·.add (k*sz))) (l.drop k):=fun hl=>by
 have hk:k<l.length:=by
  rcases W4 k l.length with h'|h'
  ·exact h'
  ·exact absurd (W3 h') hl
 have hl':l≠[]:=by rintro rfl;simp at hk
 obtain ⟨b,off,cs,fz,h1,h2,h3,h4⟩:=h hl'
 rw [Q3 Z,h1]
 refine ⟨b,off+k*sz,cs,fz,by rw [Option.map_some,X1w],h2,h3,fun j v hj=>?_⟩
 rw [Xe0 hsz,List.getElem?_drop] at hj
 rw [Nat.add_assoc]
 exact h4 _ v hj
theorem Xo5{P:Program}{a:Act}{n:Nat}{e:Env}{ty:TypeId}{pos:String}{af:Array Edge}{g:Option (Nat×Bool)}{d:Option Tmp}{T k:Nat}{x y:Operand}{i:Int}(hf:Fr a n e)(hx:ev e x=some (.slice A l.length c))(hy:ev e y=some (.int .i64 i))(hT:SliceT P T E)(hs:SizeT P E sz)(hi:i=(k:Int))(hk:k<=l.length)(hc:l.length<=c) :
  Ev P ⟨d,.slice T x none (some y) none,ty,pos,af,g⟩ a w (.slice A (l.take k).length c):=by
 rw [Qn,Nat.min_eq_left hk]
 exact Xha hf hx hy hT hs hi Z
theorem Xa4{P:Program}{n:Nat}{e:Env}{ty:TypeId}{pos:String}{af:Array Edge}{g:Option (Nat×Bool)}{d:Option Tmp}{T k:Nat}{x y:Operand}{i:Int}(hx:ev e x=some (.slice A l.length c))(hy:ev e y=some (.int .i64 i))(hT:SliceT P T E)(hs:SizeT P E sz)(hi:i=(k:Int))(hk:k<=l.length)(hc:l.length<=c) : EvW P ⟨d,.slice T x none (some y) none,ty,pos,af,g⟩ n e w (.slice A (l.take k).length c):=fun a hf=>Xo5 hf hx hy hT hs hi hk hc
theorem Xnx{P:Program}{a:Act}{n:Nat}{e:Env}{ty:TypeId}{pos:String}{af:Array Edge}{g:Option (Nat×Bool)}{d:Option Tmp}{T k:Nat}{x y:Operand}{i:Int}(hf:Fr a n e)(hx:ev e x=some (.slice A l.length c))(hy:ev e y=some (.int .i64 i))(hT:SliceT P T E)(hs:SizeT P E sz)(hi:i=(k:Int))(hk:k<=l.length) :
  Ev P ⟨d,.slice T x (some y) none none,ty,pos,af,g⟩ a w (.slice (if c=k then A else A.map (·.add (k*sz))) (l.drop k).length (c-k)):=by
 rw [List.length_drop]
 exact Xdj hf hx hy hT hs hi hk
theorem X54{P:Program}{n:Nat}{e:Env}{ty:TypeId}{pos:String}{af:Array Edge}{g:Option (Nat×Bool)}{d:Option Tmp}{T k:Nat}{x y:Operand}{i:Int}(hx:ev e x=some (.slice A l.length c))(hy:ev e y=some (.int .i64 i))(hT:SliceT P T E)(hs:SizeT P E sz)(hi:i=(k:Int))(hk:k<=l.length) : EvW P ⟨d,.slice T x (some y) none none,ty,pos,af,g⟩ n e w (.slice (if c=k then A else A.map (·.add (k*sz))) (l.drop k).length (c-k)):=fun a hf=>Xnx hf hx hy hT hs hi hk
theorem Xeq(hc:l.length<=c)(k:Nat) : (l.take k).length<=c:=Q0 (List.length_take_le' _ _) hc
theorem Xru{P:Program}{a:Act}{n:Nat}{e:Env}{ty:TypeId}{pos:String}{af:Array Edge}{g:Option (Nat×Bool)}{d:Option Tmp}{T k m:Nat}{x y z:Operand}{i j:Int}(hf:Fr a n e)(hx:ev e x=some (.slice A l.length c))(hy:ev e y=some (.int .i64 i))(hz:ev e z=some (.int .i64 j))(hT:SliceT P T E)(hs:SizeT P E sz)(hi:i=(k:Int))(hj:j=(m:Int))(hk:k<=m)(hm:m<=l.length)(hc:l.length<=c) :
  Ev P ⟨d,.slice T x (some y) (some z) none,ty,pos,af,g⟩ a w (.slice (if c=k then A else A.map (·.add (k*sz))) ((l.take m).drop k).length (c-k)):=fun w' _=>by
 subst hi;subst hj
 have h1:m<=c:=by omega
 have h2:((l.take m).drop k).length=m-k:=by rw [List.length_drop,Qn,Nat.min_eq_left hm]
 rw [h2]
 simp [execOp,Instr.sliceAt,Instr.slice,Instr.sliceBounds,run_sliceBound,X0t hT,run_sizeOf' hs,hf.ev hx,hf.ev hy,hf.ev hz,hk,h1]
theorem Xms{P:Program}{n:Nat}{e:Env}{ty:TypeId}{pos:String}{af:Array Edge}{g:Option (Nat×Bool)}{d:Option Tmp}{T k m:Nat}{x y z:Operand}{i j:Int}(hx:ev e x=some (.slice A l.length c))(hy:ev e y=some (.int .i64 i))(hz:ev e z=some (.int .i64 j))(hT:SliceT P T E)(hs:SizeT P E sz)(hi:i=(k:Int))(hj:j=(m:Int))(hk:k<=m)(hm:m<=l.length)(hc:l.length<=c) : EvW P ⟨d,.slice T x (some y) (some z) none,ty,pos,af,g⟩ n e w (.slice (if c=k then A else A.map (·.add (k*sz))) ((l.take m).drop k).length (c-k)):=fun a hf=>Xru hf hx hy hz hT hs hi hj hk hm hc
theorem Own.cap(h:Own w B0 E sz enc A c l) : l.length<=c:=by
 rcases h.2 with ⟨h1,h2⟩|⟨g,cap,cur,h1,h2,h3,h4,h5,h6⟩
 ·omega
 ·injection h1 with _ _ h1
  omega
theorem Own.of_flat(hsz:∀ x,(enc x).length=sz){b m:Nat}(h:Blk w b E (l.flatMap enc))(hb:B0<=b)(hl:l.length=m)(hk:m<=maxLen) : Own w B0 E sz enc (some ⟨b,0,none⟩) m l:=Own.of_blkL hsz h hb rfl hl hk
end
theorem Kept.app{α:Type}{b B B0:Nat}{w0 w w':World}{E:TypeId}{sz:Nat}{enc:α->List Value}{A:Option Addr}{c:Nat}{l:List α}(h:Kept b B w0 w)(ho:Own w B0 E sz enc A c l)(hg:w.grownBy w' (Value.slice A l.length c).ownBlock)(hB:B<=B0)(hs:B<=w.heap.size) : Kept b B w0 w':=
 ⟨hg.os.trans h.os,hg.tape.trans h.tape,hg.output.trans h.output,Q0 h.size hg.size,fun k hk hne=>(hg.block k Z fun hk'=>by have:=(ho.block hk'.symm).1;omega).trans (h.block k hk hne)⟩
theorem Xh8{α:Type}{P:Program}{a:Act}{w:World}{n:Nat}{e:Env}{ty:TypeId}{pos:String}{af:Array Edge}{g:Option (Nat×Bool)}{d:Option Tmp}{T E:TypeId}{sz bytes B b0:Nat}{x y:Operand}{enc:α->List Value}{A2:Option Addr}{c2:Nat}{l2:List α}(hf:Fr a n e)(hx:ev e x=some (.slice (some ⟨b0,0,none⟩) 0 0))(hy:ev e y=some (.slice A2 l2.length c2))
  (hT:SliceT P T E) (hi:InfoT P E sz bytes) (hsz:∀ x,(enc x).length=sz) (hone:∀ x,(enc x).all one=true) (hb:Blk w b0 E []) (hr:Rd w B E enc A2 l2) (h63:l2.length<=maxLen) (hbytes:l2.length*bytes<=140737488355328) :
  Ef P ⟨d,.call ⟨.builtin .append,#[x,y],#[T,T]⟩,ty,pos,af,g⟩ a w (fun v w'=>∃ A' c',v=.slice A' l2.length c'/\Own w' b0 E sz enc A' c' l2/\Below w.heap.size w w'):=by
 by_cases hl2:l2=[]
 ·subst hl2
  obtain ⟨i,z,hi1,hi2,hi3,hi4,hi5,hi6⟩:=hi
  have hrun:(Builtin.append_ #[T,T] ty #[.slice (some ⟨b0,0,none⟩) 0 0,.slice A2 0 c2]).run P w=.ok (.slice (some ⟨b0,0,none⟩) 0 0) w:=by
   cases A2<;>simp [Builtin.append_,X0t hT,sizeOf,typeInfo,hi1,Builtin.lenOf,Builtin.firstCells,loadCells,loadCellsFrom,storeCells]
  refine (Ef.of_run (v:=.slice (some ⟨b0,0,none⟩) 0 0) (w':=w) ?_).mono fun v w' ⟨e1,e2⟩=>?_
  ·simp only [List.length_nil] at hy
   simp [execOp,resolve,invoke,builtin,hf.ev hx,hf.ev hy,hrun]
  ·subst e1;subst e2
   exact ⟨_,_,O,Own.empty hb (Qb _),Below.refl _ _⟩
 ·have hown:Own w b0 E sz enc (some ⟨b0,0,none⟩) 0 ([] : List α):=Own.empty hb (Qb _)
  obtain ⟨i,z,hi1,hi2,rfl,rfl,hi5,hi6⟩:=hi;obtain ⟨b,off,cs,fz,rfl,h2,h3,h4⟩:=hr hl2;have hlen2:=X0h hsz l2
  have hpos:0<l2.length:=List.length_pos_iff.2 hl2
  have h:=run_append_grow (P:=P) w T ty E i z hT hi1 hi2 ⟨b0,0,none⟩ 0 0 [] O5 (fun j u hu=>by simp at hu)
   ⟨b,off,none⟩ l2.length c2 (l2.flatMap enc) hlen2 (fun j u hu=>by
    have:=h4 j u hu
    rw [X1w]
    simp [World.cell?,h3,this])
   Z (by simp only [maxLen] at h63;omega) (growslice_fits Z (by simpa using hbytes))
  simp only [Nat.zero_add] at h
  refine (Ef.of_run (w':=w.drew.alloc (.cells (([] : List Value).toArray++(l2.flatMap enc).toArray++Builtin.zeroCells z.cells (grownCap w l2.length 0 E-l2.length)) E)) (v:=.slice (some ⟨w.heap.size,0,none⟩) l2.length (grownCap w l2.length 0 E)) ?_).mono fun v w' ⟨e1,e2⟩=>?_
  ·simp [execOp,resolve,invoke,builtin,hf.ev hx,hf.ev hy,h]
  ·subst e1;subst e2
   have hb0:=hb.lt;have hge:=grownCap_ge w l2.length 0 E
   refine ⟨_,_,O,?_,((Below.refl _ _).drew).alloc (Qb _) _⟩
   refine ⟨X0h hsz _,.inr ⟨w.heap.size,_,_,O,by omega,heap_alloc_new w.drew _,hge,grownCap_le_maxLen w _ _ E h63,?_,?_⟩⟩
   ·simp only [Array.size_append,List.size_toArray,size_zeroCells,hi5,hlen2,List.length_nil,Nat.zero_add,<- Wb]
    congr 1
    omega
   ·rw [<- hlen2]
    simp only [Array.toList_append,Qx,List.nil_append]
    exact List.take_left
theorem X49{α:Type}{P:Program}{w:World}{n:Nat}{e:Env}{ty:TypeId}{pos:String}{af:Array Edge}{g:Option (Nat×Bool)}{d:Option Tmp}{T E:TypeId}{sz bytes B b0:Nat}{x y:Operand}{enc:α->List Value}{A2:Option Addr}{c2:Nat}{l2:List α}(hx:ev e x=some (.slice (some ⟨b0,0,none⟩) 0 0))(hy:ev e y=some (.slice A2 l2.length c2))(hT:SliceT P T E)(hi:InfoT P E sz bytes)(hsz:∀ x,(enc x).length=sz)(hone:∀ x,(enc x).all one=true)(hb:Blk w b0 E [])(hr:Rd w B E enc A2 l2)(h63:l2.length<=maxLen)(hbytes:l2.length*bytes<=140737488355328) : EfW P ⟨d,.call ⟨.builtin .append,#[x,y],#[T,T]⟩,ty,pos,af,g⟩ n e w (fun v w'=>∃ A' c',v=.slice A' l2.length c'/\Own w' b0 E sz enc A' c' l2/\Below w.heap.size w w'):=fun a hf=>Xh8 hf hx hy hT hi hsz hone hb hr h63 hbytes
end Go.Proofs.YtfkokcbjcndjpaaGreatDoor
namespace Go.Proofs.YtfkokcbjcndjpaaGreatDoor
open Go.RowKit Go.Sort
theorem X6l{w:World}{g n:Nat}{os:Array Obj}{cur:Array Value}{e:TypeId}{fr:Nat×Nat}(d:Array Int)(hb:w.heap[g]? = some (.cells cur e fr)) :
  (grow (putRow (Value.int .i64) (Sort.ahead w n) g 0 d) os).heap[g]? = some (.cells (putCells (Value.int .i64) 0 d cur) e fr):=by
 have hg:g<w.heap.size:=(Qp.1 hb).1
 rw [heap_grow_old _ _ (by simpa using hg)]
 simp [putRow,mapBlock,Sort.ahead,Array.getElem?_modify,hb,onCells]
theorem X5c{w:World}{g n:Nat}{os:Array Obj}(d:Array Int) : w.grownBy (grow (putRow (Value.int .i64) (Sort.ahead w n) g 0 d) os) (some g):=by
 refine ⟨O,O,O,by simp,fun k hk hne=>?_⟩
 rw [heap_grow_old _ _ (by simpa using hk)]
 have:g≠k:=fun e=>hne (by rw [e])
 simp [putRow,mapBlock,Sort.ahead,Array.getElem?_modify,this]
theorem Xca(l:List Int) : l.flatMap encI=l.map (Value.int .i64):=by
 induction l with
 | nil=>rfl
 | cons x l ih=>simp only [Wc,List.map_cons,ih];rfl
theorem Xgw(cur:Array Value)(d ts:List Int)(h:d.length<=cur.size)(ht:d.take ts.length=ts) : (putCells (Value.int .i64) 0 d.toArray cur).toList.take (ts.length*1)=ts.flatMap encI:=by
 have hl:ts.length<=d.length:=by
  have:=congrArg List.length ht
  rw [Qn] at this
  omega
 rw [Xca,Nat.mul_one]
 apply List.ext_getElem?
 intro j
 by_cases hj:j<ts.length
 ·rw [Wg hj,Array.getElem?_toList]
  have h1:ts[j]? = d[j]?:=by
   conv=>lhs;rw [<- ht]
   rw [Wg hj]
  have h2:j<d.length:=by omega
  rw [List.getElem?_map,h1]
  simp [putCells,h2,show j<cur.size by omega]
 ·rw [List.getElem?_take_eq_none Z,List.getElem?_eq_none O3]
theorem Xce{w:World}{g:Nat}{cur:Array Value}{e:TypeId}{l:List Int}(hb:w.heap[g]? = some (.cells cur e (0,0)))(ht:cur.toList.take (l.length*1)=l.flatMap encI) : Holds (Value.int .i64) w g 0 l.toArray:=by
 intro j hj
 have hj':j<l.length:=by simpa using hj
 refine ⟨?_,by simp [World.frozen?,hb]⟩
 rw [Xca,Nat.mul_one] at ht
 have h1:(cur.toList.take l.length)[j]? = (l.map (Value.int .i64))[j]?:=by rw [ht]
 rw [Wg hj'] at h1
 simp only [World.cell?,hb,Nat.zero_add]
 simp only [Option.isSome_none,Bool.false_eq_true,if_false]
 rw [<- Array.getElem?_toList,h1]
 simp [hj']
def sortI(l:List Int) : List Int:=l.mergeSort fun x y=>decide (x<=y)
theorem F94(w0:World)(B0:Nat)(A:Option Addr)(c:Nat)(l:List Int)(ho:Own w0 B0 3 1 encI A c l)(hl:l.length<=1000000000) :
  Ret Tryz.prog 72 [.slice A l.length c] w0 (fun _ w=>Own w B0 3 1 encI A c (sortI l)/\w0.grownBy w (Value.slice A l.length c).ownBlock):=by
 by_cases h0:l=[]
 ·subst h0
  refine Calls.mono (Any.slices_Sort_int_none Tryz.lays189 A c w0) fun e w ⟨e1,e2⟩=>⟨_,e1,?_⟩
  subst e2
  exact ⟨by simpa [sortI] using ho,World.grownBy.refl w _⟩
 ·rcases ho.2 with ⟨h1,h2⟩|⟨g,cap,cur,h1,h2,h3,h4,h5,h6,h7⟩
  ·exact absurd (List.eq_nil_of_length_eq_zero h2) h0
  ·injection h1 with h1 _ h1''
   subst h1;subst h1''
   have hs:(sortI l).length=l.length:=by simp [sortI]
   refine Calls.mono (Tryz.slices_Sort_int g 0 c l w0 (Xce h3 h7) (Qp.1 h3).1 Z) fun e w ⟨e1,n,os,e2⟩=>⟨_,e1,?_⟩
   subst e2
   refine ⟨⟨X0h Xt _,.inr ⟨g,c,_,by rw [hs],h2,X6l _ h3,by omega,h5,by simp [putCells,h6],?_⟩⟩,?_⟩
   ·exact Xgw cur (sortI l) (sortI l) Z List.take_length
   ·exact X5c _
theorem X8t(l:List Int) : (Lib.compact l).length<=l.length:=by
 unfold Lib.compact Lib.compactUpTo
 rw [Qo]
 exact Q0 (List.length_filter_le _ _) O5
theorem F95(w0:World)(B0:Nat)(A:Option Addr)(c:Nat)(l:List Int)(ho:Own w0 B0 3 1 encI A c l)(hl:l.length<=1000000000) :
  Ret Tryz.prog 73 [.slice A l.length c] w0 (fun v w=>v=.slice A (Lib.compact l).length c/\Own w B0 3 1 encI A c (Lib.compact l)/\w0.grownBy w (Value.slice A l.length c).ownBlock):=by
 by_cases h0:l=[]
 ·subst h0
  refine Calls.mono (Tryz.slices_Compact_int_empty A c w0) fun e w ⟨e1,e2⟩=>⟨_,e1,?_⟩
  subst e2
  exact ⟨O,ho,World.grownBy.refl w _⟩
 ·rcases ho.2 with ⟨h1,h2⟩|⟨g,cap,cur,h1,h2,h3,h4,h5,h6,h7⟩
  ·exact absurd (List.eq_nil_of_length_eq_zero h2) h0
  ·injection h1 with h1 _ h1''
   subst h1;subst h1''
   have hc:=X8t l
   refine Calls.mono (Tryz.slices_Compact_int g 0 c l w0 (Xce h3 h7) Z h4) fun e w ⟨e1,q,e2⟩=>⟨_,e1,O,?_⟩
   have e3:w=grow (putRow (Value.int .i64) (Sort.ahead w0 q) g 0 (Lib.compact l++List.replicate (l.length-(Lib.compact l).length) 0).toArray) #[]:=by rw [grow_empty];exact e2
   subst e3
   refine ⟨⟨X0h Xt _,.inr ⟨g,c,_,O,h2,X6l _ h3,by omega,h5,by simp [putCells,h6],?_⟩⟩,?_⟩
   ·exact Xgw cur _ (Lib.compact l) O3 List.take_left
   ·exact X5c _
theorem Y2v(w0:World)(B0:Nat)(A:Option Addr)(c:Nat)(l:List Int)(m:Nat)(hm:m=l.length)(ho:Own w0 B0 3 1 encI A c l)(hl:l.length<=1000000000) :
  Ret Tryz.prog 73 [.slice A m c] w0 (fun v w=>v=.slice A (Lib.compact l).length c/\Own w B0 3 1 encI A c (Lib.compact l)/\w0.grownBy w (Value.slice A l.length c).ownBlock):=by
 subst hm
 exact F95 w0 B0 A c l ho hl
def growRen:Go.Shelf.Ren:=⟨fun|4=>118|n=>n,fun|22=>32|25=>3|n=>n,fun|n=>n⟩
theorem Xjo:Lays8.n4 Tryz.prog growRen:={
 mixed:=by kernel_rfl
 f4:=⟨Tryz.f118.name,by decide,Tryz.func118.trans (congrArg some O2)⟩
 t0:=Tryz.underlying0
 a0:=Tryz.isAgg0
 z0:=Tryz.sizeOf0
 v0:=Tryz.zeroValue0
 t3:=Tryz.underlying3
 a3:=Tryz.isAgg3
 z3:=Tryz.sizeOf3
 v3:=Tryz.zeroValue3
 t4:=Tryz.underlying4
 a4:=Tryz.isAgg4
 z4:=Tryz.sizeOf4
 v4:=Tryz.zeroValue4
 t9:=Tryz.underlying9
 a9:=Tryz.isAgg9
 z9:=Tryz.sizeOf9
 v9:=Tryz.zeroValue9
 t20:=Tryz.underlying20
 a20:=Tryz.isAgg20
 z20:=Tryz.sizeOf20
 v20:=Tryz.zeroValue20
 t22:=Tryz.underlying32
 a22:=Tryz.isAgg32
 z22:=Tryz.sizeOf32
 v22:=Tryz.zeroValue32 }
theorem Y1s(w0:World)(n:Nat)(hn:n<=1000000000) : Ret Tryz.prog 118 [.slice none 0 0,.int .i64 (n:Int)] w0 (fun v w=>∃ A c,v=.slice A 0 c/\Own w w0.heap.size 3 1 encI A c ([] : List Int)/\Below w0.heap.size w0 w):=by
 by_cases h0:n=0
 ·subst h0
  refine Calls.mono (Any8.slices_Grow_room Xjo none 0 0 0 w0 Z Z Z Z) fun e w ⟨e1,e2⟩=>⟨_,e1,none,0,O,?_⟩
  subst e2
  exact ⟨Own.nil _ _ _ _ _,Below.refl _ _⟩
 ·obtain ⟨i,z,hi1,hi2,hi3,hi4,hi5,hi6⟩:=X1a
  refine Calls.mono (Any8.slices_Grow_grow Xjo i z hi1 hi2 Z none 0 0 n [] w0 Z Z (by rw [hi4];omega) Z O5 (fun _=>rfl) (fun a h=>by cases h)) fun e w ⟨e1,e2⟩=>⟨_,e1,_,_,O,?_⟩
  subst e2
  have hge:=grownCap_ge w0 (0+n) 0 (growRen.t 25)
  refine ⟨⟨O,.inr ⟨w0.heap.size,_,_,O,Qb _,heap_alloc_new w0.drew _,Qf _,grownCap_le_maxLen w0 _ _ _ (by simp only [maxLen];omega),?_,by simp⟩⟩,((Below.refl _ _).drew).alloc (Qb _) _⟩
  simp only [Array.size_append,List.size_toArray,size_zeroCells,hi5,List.length_nil,Nat.zero_add,Nat.mul_one] at hge ⊢
  omega
end Go.Proofs.YtfkokcbjcndjpaaGreatDoor
namespace Go.Proofs.YtfkokcbjcndjpaaGreatDoor
open Go.RowKit
structure Sl where (A:Option Addr) (c:Nat) (l:List Int)
def encS(s:Sl) : List Value:=[.slice s.A s.l.length s.c]
theorem X2z:∀ x,(encS x).length=1:=fun _=>rfl
theorem Xnq:∀ x,(encS x).all one=true:=fun _=>rfl
structure Rp where (pos:Int) (old new:List Gt)
theorem X4e{α β:Type}{f:α->List β}{l:List α}{k:Nat}{u:α}(h:l[k]? = some u) : (l.take (k+1)).flatMap f=(l.take k).flatMap f++f u:=by
 rw [Qt,h]
 simp
theorem X5y{α β:Type}(f:α->List β)(l:List α)(k:Nat) : ((l.take k).flatMap f).length<=(l.flatMap f).length:=by
 conv=>rhs;rw [<- W9 k l]
 rw [List.flatMap_append,Qh]
 omega
theorem X8b{α β:Type}(f:α->List β){l:List α}{k:Nat}(h:l.length<=k) : (l.take k).flatMap f=l.flatMap f:=by rw [Qi h]
def unionI(p q:List Int) : List Int:=Lib.compact (sortI (p++(q++[])))
def qubI(g:Gt) : List Int:=if g.k=12 then [] else if inR g.k 9 11=true then [g.a,g.b] else [g.a]
def usedI(l:List Gt) : List Int:=unionI (l.flatMap qubI) []
theorem X2e(g:Gt) : (qubI g).length<=2:=by unfold qubI;split<;>(try split)<;>simp
theorem Xd4(p q:List Int) : (unionI p q).length<=p.length+q.length:=by
 unfold unionI
 refine Q0 (X8t _) ?_
 simp [sortI]
theorem Xan(l:List Gt) : (l.flatMap qubI).length<=2*l.length:=by
 induction l with
 | nil=>simp
 | cons g l ih=>have:=X2e g;simp only [Wc,Qh,Qs];omega
theorem X7w(l:List Gt) : (usedI l).length<=2*l.length:=by
 have h1:=Xd4 (l.flatMap qubI) [];have h2:=Xan l
 unfold usedI
 simp only [List.length_nil] at h1
 omega
def setAll:List Int->Nat->List Int->List Int
 | [],_,to=>to
 | q::l,i,to=>setAll l (i+1) (to.set q.toNat (i:Int))
def numbI(l:List Int) : List Int:=setAll l 0 [0,0,0,0,0]
theorem Xb8:∀ (l:List Int) (i:Nat) (to:List Int),(setAll l i to).length=to.length
 | [],_,_=>rfl
 | _::l,i,to=>by rw [setAll,Xb8 l];simp
theorem X95:∀ (l:List Int) (q:Int) (i:Nat) (to:List Int),setAll (l++[q]) i to=(setAll l i to).set q.toNat ((i+l.length:Nat) : Int)
 | [],q,i,to=>by simp [setAll]
 | x::l,q,i,to=>by
  rw [Wa,setAll,setAll,X95 l]
  congr 2
  simp only [Qs]
  omega
theorem Xcr{l:List Int}{k:Nat}{u:Int}(h:l[k]? = some u) : numbI (l.take (k+1))=(numbI (l.take k)).set u.toNat (k:Int):=by
 have hk:=(Qg.1 h).1
 unfold numbI
 rw [Qt,h,Option.toList_some,X95,Qn,Nat.min_eq_left Z,Nat.zero_add]
theorem X4h(l:List Int) : (numbI l).length=5:=by rw [numbI,Xb8];rfl
def mapG(to:List Int)(g:Gt) : Gt:=⟨g.k,if g.k=12 then g.a else to.getD g.a.toNat 0,if inR g.k 9 11=true then to.getD g.b.toNat 0 else g.b⟩
def mapI(l:List Gt)(to:List Int) : List Gt:=l.map (mapG to)
theorem Xp9{α β:Type}{f:α->β}{l:List α}{k:Nat}{u:α}(h:l[k]? = some u) : (l.take (k+1)).map f=(l.take k).map f++[f u]:=by
 rw [Qt,h]
 simp
theorem X7e{l:List Int}{k:Nat}(h:k<l.length) : l[k]? = some (l.getD k 0):=by grind
def vrI(n:Int)(r:Rp) : Bool:=inR n 1 5&&inR r.pos 0 400&&decide ((r.old.length:Int)<=40)&&decide ((r.new.length:Int)<=40)&&!(r.old.any fun x=>!gOk n x)&&!(r.new.any fun x=>!gOk n x)
section
variable {P : Program} {a : Act} {w w' : World} {n : Nat} {e : Env} {ty : TypeId} {pos : String} {af : Array Edge} {g : Option (Nat × Bool)} {d : Option Tmp} {α : Type}
end
section
variable {P : Program} {ops : Array Oper} {a : Act} {w : World} {n d : Nat} {e : Env} {ty : TypeId} {pos : String} {af : Array Edge} {g : Option (Nat × Bool)} {α : Type}
end
def Apart(A A':Option Addr) : Prop:=∀ p q,A=some p->A'=some q->p.block≠q.block
section
variable {α β : Type} {w w' : World} {B B0 B1 : Nat} {E E' : TypeId} {sz sz' : Nat} {enc : α -> List Value} {enc' : β -> List Value} {A A' : Option Addr} {c c' : Nat} {l : List α} {l' : List β}
theorem Own.apart(h:Own w B E sz enc A c l)(h':Own w' B0 E' sz' enc' A' c' l')(hB:w.heap.size<=B0) : Apart A A':=fun p q hp hq=>by
 rcases h.2 with ⟨h1,_⟩|⟨g,cap,cur,h1,h2,h3,_⟩
 ·injection h1 with h1;rw [h1] at hp;cases hp
 ·rcases h'.2 with ⟨k1,_⟩|⟨g',cap',cur',k1,k2,k3,_⟩
  ·injection k1 with k1;rw [k1] at hq;cases hq
  ·injection h1 with h1
   injection k1 with k1
   rw [h1] at hp
   rw [k1] at hq
   injection hp with hp
   injection hq with hq
   subst hp;subst hq
   have:=(Qp.1 h3).1
   intro e
   simp only at e
   omega
theorem Own.appP(h:Own w B1 E' sz' enc' A' c' l')(hg:w.grownBy w' (Value.slice A l.length c).ownBlock)(ha:Apart A' A) : Own w' B1 E' sz' enc' A' c' l':=by
 refine ⟨h.1,?_⟩
 rcases h.2 with h1|⟨g,cap,cur,h1,h2,h3,h4⟩
 ·exact .inl h1
 ·refine .inr ⟨g,cap,cur,h1,h2,(hg.block g (Qp.1 h3).1 fun hk=>?_).trans h3,h4⟩
  injection h1 with h1
  cases A with
  | none=>simp [Value.ownBlock] at hk
  | some q=>
   simp only [Value.ownBlock,Option.some.injEq] at hk
   exact ha _ q h1 O hk
theorem Xk3(A:Option Addr)(n m c d:Nat) : (Value.slice A n c).ownBlock=(Value.slice A m d).ownBlock:=by cases A<;>rfl
theorem gtr{A:Option Addr}{n m c d:Nat}{w0 w w':World}(h:w0.grownBy w (Value.slice A n c).ownBlock)(k:w.grownBy w' (Value.slice A m d).ownBlock) : w0.grownBy w' (Value.slice A n c).ownBlock:=
 ⟨k.os.trans h.os,k.tape.trans h.tape,k.output.trans h.output,Q0 h.size k.size,fun q hq hn=>(k.block q (Nat.lt_of_lt_of_le hq h.size) (by rw [Xk3 A m n d c];exact hn)).trans (h.block q hq hn)⟩
theorem Own.len{m:Nat}(h:Own w B E sz enc A c l)(hm:m=l.length) : Own w B E sz enc A c l/\Value.slice A m c=Value.slice A l.length c:=⟨h,by rw [hm]⟩
theorem Apart.symm(h:Apart A A') : Apart A' A:=fun p q hp hq e=>h q p hq hp e.symm
end
section
variable {w w' : World} {B : Nat} {l : List Sl}
end
section
variable {α : Type} {w w' : World} {B B1 : Nat} {E : TypeId} {sz : Nat} {enc : α -> List Value} {A : Option Addr} {c : Nat} {l : List α} {m : List Sl}
end
theorem Apart.of_away{A:Option Addr}{b:Nat}(h:Away A b) : Apart A (some ⟨b,0,none⟩):=by grind [Apart,Away]
theorem Apart.app{α:Type}{w:World}{B:Nat}{E:TypeId}{sz:Nat}{enc:α->List Value}{A A1 A2:Option Addr}{c:Nat}{l:List α}(h:Own w B E sz enc A c l)(ha:Apart A A1)(hat:∀ b,b<w.heap.size->Away A1 b->Away A2 b) : Apart A A2:=by
 intro p q hp hq
 rcases h.2 with ⟨h1,_⟩|⟨g,cap,cur,h1,_,h3,_⟩
 ·injection h1 with h1;rw [h1] at hp;cases hp
 ·injection h1 with h1
  rw [h1] at hp
  injection hp with hp
  have hlt:p.block<w.heap.size:=by rw [<- hp];exact (Qp.1 h3).1
  have haw:Away A1 p.block:=fun r hr e=>ha p r (by rw [h1,hp]) hr e.symm
  exact fun e=>hat _ hlt haw q hq e.symm
theorem Xfh{α:Type}{P:Program}{a:Act}{w:World}{n:Nat}{e:Env}{ty:TypeId}{pos:String}{af:Array Edge}{g:Option (Nat×Bool)}{d:Option Tmp}{T E:TypeId}{sz bytes B b0:Nat}{x y:Operand}{enc:α->List Value}{A2:Option Addr}{c2:Nat}{l2:List α}(hf:Fr a n e)(hx:ev e x=some (.slice (some ⟨b0,0,none⟩) 0 0))(hy:ev e y=some (.slice A2 l2.length c2))
  (hT:SliceT P T E) (hi:InfoT P E sz bytes) (hsz:∀ x,(enc x).length=sz) (hone:∀ x,(enc x).all one=true) (hb:Blk w b0 E []) (hr:Rd w B E enc A2 l2) (h63:l2.length<=maxLen) (hbytes:l2.length*bytes<=140737488355328) :
  Ef P ⟨d,.call ⟨.builtin .append,#[x,y],#[T,T]⟩,ty,pos,af,g⟩ a w (fun v w'=>∃ A' c',v=.slice A' l2.length c'/\Own w' b0 E sz enc A' c' l2/\Below w.heap.size w w'/\∀ b,b<w.heap.size->b≠b0->Away A' b):=by
 by_cases hl2:l2=[]
 ·subst hl2
  obtain ⟨i,z,hi1,hi2,hi3,hi4,hi5,hi6⟩:=hi
  have hrun:(Builtin.append_ #[T,T] ty #[.slice (some ⟨b0,0,none⟩) 0 0,.slice A2 0 c2]).run P w=.ok (.slice (some ⟨b0,0,none⟩) 0 0) w:=by
   cases A2<;>simp [Builtin.append_,X0t hT,sizeOf,typeInfo,hi1,Builtin.lenOf,Builtin.firstCells,loadCells,loadCellsFrom,storeCells]
  refine (Ef.of_run (v:=.slice (some ⟨b0,0,none⟩) 0 0) (w':=w) ?_).mono fun v w' ⟨e1,e2⟩=>?_
  ·simp only [List.length_nil] at hy
   simp [execOp,resolve,invoke,builtin,hf.ev hx,hf.ev hy,hrun]
  ·subst e1;subst e2
   exact ⟨_,_,O,Own.empty hb (Qb _),Below.refl _ _,fun b _ hne=>Away.ne hne⟩
 ·have hown:Own w b0 E sz enc (some ⟨b0,0,none⟩) 0 ([] : List α):=Own.empty hb (Qb _)
  obtain ⟨i,z,hi1,hi2,rfl,rfl,hi5,hi6⟩:=hi;obtain ⟨b,off,cs,fz,rfl,h2,h3,h4⟩:=hr hl2;have hlen2:=X0h hsz l2
  have hpos:0<l2.length:=List.length_pos_iff.2 hl2
  have h:=run_append_grow (P:=P) w T ty E i z hT hi1 hi2 ⟨b0,0,none⟩ 0 0 [] O5 (fun j u hu=>by simp at hu)
   ⟨b,off,none⟩ l2.length c2 (l2.flatMap enc) hlen2 (fun j u hu=>by
    have:=h4 j u hu
    rw [X1w]
    simp [World.cell?,h3,this])
   Z (by simp only [maxLen] at h63;omega) (growslice_fits Z (by simpa using hbytes))
  simp only [Nat.zero_add] at h
  refine (Ef.of_run (w':=w.drew.alloc (.cells (([] : List Value).toArray++(l2.flatMap enc).toArray++Builtin.zeroCells z.cells (grownCap w l2.length 0 E-l2.length)) E)) (v:=.slice (some ⟨w.heap.size,0,none⟩) l2.length (grownCap w l2.length 0 E)) ?_).mono fun v w' ⟨e1,e2⟩=>?_
  ·simp [execOp,resolve,invoke,builtin,hf.ev hx,hf.ev hy,h]
  ·subst e1;subst e2
   have hb0:=hb.lt;have hge:=grownCap_ge w l2.length 0 E
   refine ⟨_,_,O,?_,((Below.refl _ _).drew).alloc (Qb _) _,fun b hb _=>Away.ne Z⟩
   refine ⟨X0h hsz _,.inr ⟨w.heap.size,_,_,O,by omega,heap_alloc_new w.drew _,hge,grownCap_le_maxLen w _ _ E h63,?_,?_⟩⟩
   ·simp only [Array.size_append,List.size_toArray,size_zeroCells,hi5,hlen2,List.length_nil,Nat.zero_add,<- Wb]
    congr 1
    omega
   ·rw [<- hlen2]
    simp only [Array.toList_append,Qx,List.nil_append]
    exact List.take_left
theorem X0r{α:Type}{P:Program}{w:World}{n:Nat}{e:Env}{ty:TypeId}{pos:String}{af:Array Edge}{g:Option (Nat×Bool)}{d:Option Tmp}{T E:TypeId}{sz bytes B b0:Nat}{x y:Operand}{enc:α->List Value}{A2:Option Addr}{c2:Nat}{l2:List α}(hx:ev e x=some (.slice (some ⟨b0,0,none⟩) 0 0))(hy:ev e y=some (.slice A2 l2.length c2))(hT:SliceT P T E)(hi:InfoT P E sz bytes)(hsz:∀ x,(enc x).length=sz)(hone:∀ x,(enc x).all one=true)(hb:Blk w b0 E [])(hr:Rd w B E enc A2 l2)(h63:l2.length<=maxLen)(hbytes:l2.length*bytes<=140737488355328) : EfW P ⟨d,.call ⟨.builtin .append,#[x,y],#[T,T]⟩,ty,pos,af,g⟩ n e w (fun v w'=>∃ A' c',v=.slice A' l2.length c'/\Own w' b0 E sz enc A' c' l2/\Below w.heap.size w w'/\∀ b,b<w.heap.size->b≠b0->Away A' b):=fun a hf=>Xfh hf hx hy hT hi hsz hone hb hr h63 hbytes
theorem Apart.new0{α:Type}{w:World}{B b0:Nat}{E:TypeId}{sz:Nat}{enc:α->List Value}{A A':Option Addr}{c:Nat}{l:List α}(h:Own w B E sz enc A c l)(ha:Away A b0)(hat:∀ b,b<w.heap.size->b≠b0->Away A' b) : Apart A A':=fun p q hp hq e=>by
 rcases h.2 with ⟨h1,_⟩|⟨g,cap,cur,h1,_,h3,_⟩
 ·injection h1 with h1;rw [h1] at hp;cases hp
 ·injection h1 with h1
  rw [h1] at hp
  injection hp with hp
  have hlt:p.block<w.heap.size:=by rw [<- hp];exact (Qp.1 h3).1
  exact hat _ hlt (ha p (by rw [h1,hp])) q hq e.symm
section
variable {P : Program} {ops : Array Oper} {V : Option Vk} {tl : Nat -> Bool} {Q : Act -> World -> Prop} {fuel : Nat} {done : List Nat} {w : World} {o : Oper} {op : Op} {ty : TypeId} {pos : String} {af : Array Edge} {g : Option (Nat × Bool)} {n d : Nat} {e : Env} {v : Value} {R : Value -> World -> Prop} {x : Operand}
theorem Xyr{a:Act}(i j k l:Nat)(hr:Region.ready .any ops (mask ops done)=[i,j,k,l])(hi:wpR P ops V tl i (wpS P ops V tl Q fuel (mask ops (i::done))) a w)
  (hj:wpR P ops V tl j (wpS P ops V tl Q fuel (mask ops (j::done))) a w) (hk:wpR P ops V tl k (wpS P ops V tl Q fuel (mask ops (k::done))) a w) (hl:wpR P ops V tl l (wpS P ops V tl Q fuel (mask ops (l::done))) a w) : wpS P ops V tl Q (fuel+1) (mask ops done) a w:=by
 refine ⟨fun h0=>(by rw [hr] at h0;cases h0),fun m hm=>?_⟩
 rw [hr] at hm
 rw [X3t]
 simp only [Qv,List.not_mem_nil,or_false] at hm
 rcases hm with rfl|rfl|rfl|rfl
 ·exact hi
 ·exact hj
 ·exact hk
 ·exact hl
theorem Y4(i j k l:Nat)(hi:WR P ops V tl Q i fuel done n e w)(hj:WR P ops V tl Q j fuel done n e w)(hk:WR P ops V tl Q k fuel done n e w)(hl:WR P ops V tl Q l fuel done n e w)(hr:Region.ready .any ops (mask ops done)=[i,j,k,l]:=by kernel_rfl) : WS P ops V tl Q (fuel+1) done n e w:=fun a hf=>Xyr i j k l hr (hi a hf) (hj a hf) (hk a hf) (hl a hf)
end
theorem X1t{x:Dy} : dOk x=true↔rOk x.num=true/\(0<=x.exp/\x.exp<=60)/\(x.exp=0∨rEven x.num=false):=by
 simp only [dOk,Qd,X0b,Bool.or_eq_true,beq_iff_eq,Bool.not_eq_true',and_assoc]
theorem Xis:∀ (m:Nat) (x:Rg),rOk x=true->m<=60->dOk (dLow x m)=true
 | 0,x,h,_=>by
  rw [X2h Z]
  exact X1t.2 ⟨h,by simp,.inl rfl⟩
 | m+1,x,h,hm=>by
  by_cases he:rEven x=true
  ·rw [X4c Z he,show ((m+1:Nat) : Int)-1=(m:Int) from by omega]
   exact Xis m _ (X7o h) Z
  ·have he':rEven x=false:=by simpa using he
   rw [X2h fun _=>he']
   exact X1t.2 ⟨h,by dsimp only;omega,.inr he'⟩
theorem Xa9{x:Rg}{e:Int}(h:rOk x=true)(h0:0<=e)(h1:e<=60) : dOk (dLow x e)=true:=by
 obtain ⟨m,rfl⟩ : ∃ m:Nat,e=m:=⟨e.toNat,by omega⟩
 exact Xis m x h Z
def Agree(o:Option Dy)(p:Bool×Dy) : Prop:=(∀ z,o=some z->p=(false,z)/\dOk z=true)/\(o=none->p.1=true)
theorem X5d{x y z:Rg}(hx:rOk x=true)(hy:rOk y=true) : rIf2 z [x,y]=rOk z:=by simp [rIf2,hx,hy]
theorem X8h{x z:Rg}(hx:rOk x=true) : rIf2 z [x]=rOk z:=by simp [rIf2,hx]
theorem Xl8{x y:Dy}(hx:dOk x=true)(hy:dOk y=true) : Agree (dMulI x y) (sMul false x y):=by
 have kx:=X1t.1 hx
 have ky:=X1t.1 hy
 unfold dMulI sMul
 rw [hx,hy,X5d kx.1 ky.1,rIf1,X5d kx.1 ky.1,Qw,Qw]
 by_cases hr:rOk (rMul x.num y.num)=true
 ·rw [Q4 hr,Q4 hr]
  unfold dOf
  rw [hr,Qw]
  by_cases he:60<x.exp+y.exp
  ·have h1:¬ inR (x.exp+y.exp) 0 60=true:=fun h=>by have:=X0b.1 h;omega
   rw [Q3 h1,Q4 he]
   exact ⟨fun z h=>(by cases h),fun _=>rfl⟩
  ·have h1:inR (x.exp+y.exp) 0 60=true:=X0b.2 Z
   rw [Q4 h1,Q3 he,sRing,Q4 hr]
   exact ⟨fun z h=>(by injection h with h;subst h;exact ⟨rfl,Xa9 hr Z Z⟩),fun h=>by cases h⟩
 ·have hr':rOk (rMul x.num y.num)=false:=by simpa using hr
  rw [Q3 hr]
  refine ⟨fun z h=>(by cases h),fun _=>?_⟩
  by_cases he:60<x.exp+y.exp
  ·rw [Q4 he]
  ·rw [Q3 he,hr'];rfl
theorem X70:∀ (n:Nat) (f:Bool) (x:Dy),(sRaiseN n f x).2.exp=x.exp+n
 | 0,f,x=>by simp [sRaiseN]
 | n+1,f,x=>by rw [sRaiseN,X70 n];dsimp only;omega
theorem X3v:∀ (n:Nat) (x:Dy),(sRaiseN n true x).1=true
 | 0,x=>rfl
 | n+1,x=>by rw [sRaiseN];exact X3v n _
theorem X5h:∀ (n:Nat) (x:Dy),rOk x.num=true->(raiseI n x.num).2=true->sRaiseN n false x=(false,⟨(raiseI n x.num).1,x.exp+n⟩)/\rOk (raiseI n x.num).1=true
 | 0,x,h,_=>⟨by simp [sRaiseN,raiseI],h⟩
 | n+1,x,h,hr=>by
  unfold raiseI at hr ⊢
  rw [X8h h] at hr ⊢
  by_cases h1:rOk (rRoot x.num)=true
  ·rw [Q4 h1] at hr ⊢
   rw [sRaiseN,h1,sRing,Q4 h1]
   have:=X5h n ⟨rRoot x.num,x.exp+1⟩ h1 hr
   refine ⟨?_,this.2⟩
   simp only [Bool.not_true,Bool.or_false]
   rw [this.1]
   dsimp only
   congr 2
   omega
  ·rw [Q3 h1] at hr
   cases hr
theorem X5i:∀ (n:Nat) (x:Dy),rOk x.num=true->(raiseI n x.num).2=false->(sRaiseN n false x).1=true
 | 0,x,h,hr=>by cases hr
 | n+1,x,h,hr=>by
  unfold raiseI at hr
  rw [X8h h] at hr
  by_cases h1:rOk (rRoot x.num)=true
  ·rw [Q4 h1] at hr
   rw [sRaiseN,h1,sRing,Q4 h1]
   simp only [Bool.not_true,Bool.or_false]
   exact X5i n ⟨rRoot x.num,x.exp+1⟩ h1 hr
  ·have h2:rOk (rRoot x.num)=false:=by simpa using h1
   rw [sRaiseN,h2]
   exact X3v n _
theorem Xl7{x y:Dy}(hx:dOk x=true)(hy:dOk y=true) : Agree (dAddI x y) (sAdd false x y):=by
 have kx:=X1t.1 hx
 have ky:=X1t.1 hy
 obtain ⟨m,hm⟩ : ∃ m,m=max x.exp y.exp:=⟨_,O⟩
 have e1:(m-x.exp).toNat=(y.exp-x.exp).toNat:=by omega
 have e3:x.exp+((y.exp-x.exp).toNat:Int)=m:=by omega
 have ed1:dRaise x m=raiseI (y.exp-x.exp).toNat x.num:=by rw [dRaise,e1]
 unfold dAddI sAdd
 rw [hx,hy,Bool.and_self,Q4 O,<- hm,X70,e3]
 cases h1:(dRaise x m).2 with
 | false=>
  have hb:=X5i _ x kx.1 (by rw [<- ed1];exact h1)
  rw [hb,X3v]
  simp only [Bool.false_and,Bool.false_eq_true,if_false,Bool.true_or]
  exact ⟨fun z h=>(by cases h),fun _=>rfl⟩
 | true=>
  obtain ⟨g1,g2⟩:=X5h _ x kx.1 (by rw [<- ed1];exact h1)
  rw [g1]
  rw [<- ed1] at g2 ⊢
  dsimp only
  have ed2:dRaise y m=raiseI (m-y.exp).toNat y.num:=rfl
  cases h2:(dRaise y m).2 with
  | false=>
   have hb:=X5i _ y ky.1 (by rw [<- ed2];exact h2)
   rw [hb]
   simp only [Bool.and_false,Bool.false_and,Bool.false_eq_true,if_false,Bool.true_or]
   exact ⟨fun z h=>(by cases h),fun _=>rfl⟩
  | true=>
   obtain ⟨k1,k2⟩:=X5h _ y ky.1 (by rw [<- ed2];exact h2)
   rw [k1]
   rw [<- ed2] at k2 ⊢
   dsimp only
   rw [X5d g2 k2,rIf1,X5d g2 k2,Qw,Qw,Bool.false_or]
   by_cases hr:rOk (rAdd (dRaise x m).1 (dRaise y m).1)=true
   ·have h3:inR m 0 60=true:=X0b.2 Z
    rw [Q4 hr,Q4 hr,dOf,hr,h3,sRing,Q4 hr]
    exact ⟨fun z h=>(by simp only [Bool.and_self,if_true] at h;injection h with h;subst h;exact ⟨rfl,Xa9 hr Z Z⟩),fun h=>by simp at h⟩
   ·have hr':rOk (rAdd (dRaise x m).1 (dRaise y m).1)=false:=by simpa using hr
    rw [Q3 hr,hr']
    exact ⟨fun z h=>(by cases h),fun _=>rfl⟩
def dotS(f:Bool)(a b:Mx)(i j:Nat) : Nat->Bool×Dy
 | 0=>(f,dZ)
 | n+1=>if (dotS f a b i j n).1=true then dotS f a b i j n else
   sAdd (sMul false (a.at i n) (b.at n j)).1 (dotS f a b i j n).2 (sMul false (a.at i n) (b.at n j)).2
theorem Xac{f:Bool}{a b:Mx}{i j n:Nat}(h:(dotS f a b i j n).1=true) : ∀ m,n<=m->dotS f a b i j m=dotS f a b i j n
 | 0,h'=>by
  obtain rfl:n=0:=by omega
  rfl
 | m+1,h'=>by
  by_cases hm:n=m+1
  ·subst hm;rfl
  ·rw [dotS,Xac h m Z,Q4 h]
theorem Xlc(a b:Mx)(i j n:Nat) : dotS true a b i j n=(true,dZ):=Xac (n:=0) rfl n (Qf _)
theorem Xva:dOk dZ=true:=by decide
theorem Xq3(x y:Dy) : (sAdd true x y).1=true:=by
 unfold sAdd
 rw [show (sRaiseN (y.exp-x.exp).toNat true x).1=true from X3v _ _,X3v]
 rfl
def AllOk(m:Mx) : Prop:=∀ x ∈ m.cells,dOk x=true
theorem Mx.at_ok{m:Mx}(h:AllOk m)(i j:Nat) : dOk (m.at i j)=true:=by
 unfold Mx.at
 rw [Qa]
 cases hx:m.cells[i*m.cols.toNat+j]? with
 | none=>exact Xva
 | some x=>exact h x (Qe hx)
theorem Xbr{a b:Mx}(ha:AllOk a)(hb:AllOk b)(i j:Nat) : ∀ n,Agree (dotI a b i j n) (dotS false a b i j n)
 | 0=>⟨fun z h=>(by injection h with h;subst h;exact ⟨rfl,Xva⟩),fun h=>by cases h⟩
 | n+1=>by
  have ih:=Xbr ha hb i j n
  have hm:=Xl8 (Mx.at_ok ha i n) (Mx.at_ok hb n j)
  unfold dotI dotS
  cases h1:dotI a b i j n with
  | none=>
   have h2:=ih.2 h1
   rw [Q4 h2]
   exact ⟨fun z h=>(by cases h),fun _=>h2⟩
  | some s=>
   obtain ⟨h2,h3⟩:=ih.1 s h1
   rw [h2]
   simp only [Bool.false_eq_true,if_false,Qz]
   cases h4:dMulI (a.at i n) (b.at n j) with
   | none=>
    rw [hm.2 h4]
    exact ⟨fun z h=>(by cases h),fun _=>Xq3 _ _⟩
   | some x=>
    obtain ⟨h5,h6⟩:=hm.1 x h4
    rw [h5]
    exact Xl7 h3 h6
def timesL(f:Bool)(a b:Mx) : Nat->Bool×List Dy
 | 0=>(f,[])
 | n+1=>((dotS (timesL f a b n).1 a b (n/b.cols.toNat) (n % b.cols.toNat) a.cols.toNat).1,(timesL f a b n).2++[(dotS (timesL f a b n).1 a b (n/b.cols.toNat) (n % b.cols.toNat) a.cols.toNat).2])
def timesS(f:Bool)(a b:Mx) : Bool×Mx:=((timesL f a b (a.rows.toNat*b.cols.toNat)).1,⟨a.rows,b.cols,(timesL f a b (a.rows.toNat*b.cols.toNat)).2⟩)
theorem Xbg(f:Bool)(a b:Mx) : ∀ n,(timesL f a b n).2.length=n
 | 0=>rfl
 | n+1=>by simp [timesL,Xbg f a b n]
theorem Xgx{f:Bool}{a b:Mx}{i j:Nat}(hj:j<b.cols.toNat) : timesL f a b (i*b.cols.toNat+(j+1))=((dotS (timesL f a b (i*b.cols.toNat+j)).1 a b i j a.cols.toNat).1,(timesL f a b (i*b.cols.toNat+j)).2++[(dotS (timesL f a b (i*b.cols.toNat+j)).1 a b i j a.cols.toNat).2]):=by
 have h1:(i*b.cols.toNat+j)/b.cols.toNat=i:=by rw [Wi,Nat.mul_add_div Z,Nat.div_eq_of_lt hj];omega
 have h2:(i*b.cols.toNat+j) % b.cols.toNat=j:=by rw [Wi,Nat.mul_add_mod,Nat.mod_eq_of_lt hj]
 rw [show i*b.cols.toNat+(j+1)=(i*b.cols.toNat+j)+1 from O,timesL,h1,h2]
theorem X8r{a b:Mx}(ha:AllOk a)(hb:AllOk b) : ∀ n,(∀ l,seqO (gridG (fun i j=>dotI a b i j a.cols.toNat) b.cols.toNat) n=some l->timesL false a b n=(false,l)/\∀ x ∈ l,dOk x=true)/\
  (seqO (gridG (fun i j=>dotI a b i j a.cols.toNat) b.cols.toNat) n=none->(timesL false a b n).1=true)
 | 0=>⟨fun l h=>(by injection h with h;subst h;exact ⟨rfl,fun x hx=>by cases hx⟩),fun h=>by cases h⟩
 | n+1=>by
  have ih:=X8r ha hb n
  have hd:=Xbr ha hb (n/b.cols.toNat) (n % b.cols.toNat) a.cols.toNat
  unfold seqO timesL
  cases h1:seqO (gridG (fun i j=>dotI a b i j a.cols.toNat) b.cols.toNat) n with
  | none=>
   rw [ih.2 h1,Xlc]
   exact ⟨fun l h=>(by cases h),fun _=>rfl⟩
  | some l=>
   obtain ⟨h2,h3⟩:=ih.1 l h1
   rw [h2]
   dsimp only
   rw [show gridG (fun i j=>dotI a b i j a.cols.toNat) b.cols.toNat n=dotI a b (n/b.cols.toNat) (n % b.cols.toNat) a.cols.toNat from rfl]
   cases h4:dotI a b (n/b.cols.toNat) (n % b.cols.toNat) a.cols.toNat with
   | none=>exact ⟨fun l h=>(by cases h),fun _=>hd.2 h4⟩
   | some x=>
    obtain ⟨h5,h6⟩:=hd.1 x h4
    rw [h5]
    refine ⟨fun l' h=>?_,fun h=>by cases h⟩
    injection h with h
    subst h
    exact ⟨O,fun y hy=>by
     rcases Qu.1 hy with hy|hy
     ·exact h3 y hy
     ·rw [Qm.1 hy];exact h6⟩
theorem X25{m:Mx}(h:mOk m=true) : AllOk m:=by grind [AllOk,mOk]
theorem X5a{m:Mx}(h:mOk m=true) : isDimB m.rows=true/\isDimB m.cols=true:=by grind [isDimB,mOk]
theorem Xhu{m:Mx}(hr:isDimB m.rows=true)(hc:isDimB m.cols=true)(hl:m.cells.length=m.rows.toNat*m.cols.toNat)(ha:AllOk m) : mOk m=true:=by
 have h1:=X2t hr;have h2:=X2t hc
 have h3:(m.cells.any fun x=>!dOk x)=false:=by
  rw [W7]
  intro x hx
  simp [ha x hx]
 have h4:wr (m.rows*m.cols)=(m.cells.length:Int):=by
  obtain ⟨r,hr⟩ : ∃ r:Nat,m.rows=r:=⟨m.rows.toNat,by omega⟩
  obtain ⟨c,hc⟩ : ∃ c:Nat,m.cols=c:=⟨m.cols.toNat,by omega⟩
  rw [hr] at h1
  rw [hc] at h2
  rw [hl,hr,hc]
  have h5:r*c<=32*32:=Nat.mul_le_mul Z Z
  rw [<- Int.natCast_mul,X11 Z Z]
  simp
 unfold mOk
 rw [hr,hc,h3,h4]
 simp
theorem X2j{n:Int}(h:1<=n/\n<=5) : isDimB ((2^n.toNat:Nat) : Int)=true:=by
 have:n=1∨n=2∨n=3∨n=4∨n=5:=by omega
 rcases this with rfl|rfl|rfl|rfl|rfl<;>decide
theorem X4g{a b:Mx}(ha:mOk a=true)(hb:mOk b=true)(hab:a.cols=b.rows) : (∀ m,mulI a b=some m->timesS false a b=(false,m)/\mOk m=true/\m.rows=a.rows/\m.cols=b.cols)/\(mulI a b=none->(timesS false a b).1=true):=by
 have hd1:=(X5a ha).1;have hd2:=(X5a hb).2;have h:=X8r (X25 ha) (X25 hb) (a.rows.toNat*b.cols.toNat)
 unfold mulI matOf timesS
 rw [ha,hb,hd1,hd2,Q4 (by simp [hab]),Q4 (show (true&&true)=true from O)]
 cases h1:seqO (gridG (fun i j=>dotI a b i j a.cols.toNat) b.cols.toNat) (a.rows.toNat*b.cols.toNat) with
 | none=>exact ⟨fun m h=>(by cases h),fun _=>h.2 h1⟩
 | some l=>
  obtain ⟨h2,h3⟩:=h.1 l h1
  rw [h2]
  refine ⟨fun m hm=>?_,fun hm=>by cases hm⟩
  injection hm with hm
  subst hm
  exact ⟨O,Xhu hd1 hd2 (X5j h1) h3,O,O⟩
theorem Xcz{f:Nat->Dy} : ∀ n,seqO (fun m=>some (f m)) n=some ((List.range n).map f)
 | 0=>rfl
 | n+1=>by simp [seqO,Xcz n,List.range_succ]
theorem X6x{R C:Int}(hR:isDimB R=true)(hC:isDimB C=true)(f:Nat->Nat->Dy) : matOf R C (fun i j=>some (f i j))=some ⟨R,C,gridL f C.toNat (R.toNat*C.toNat)⟩:=by
 unfold matOf
 rw [hR,hC,Q4 (show (true&&true)=true from O)]
 have:gridG (fun i j=>some (f i j)) C.toNat=fun m=>some (gridF f C.toNat m):=rfl
 rw [this,Xcz]
 rfl
theorem Xfs{f g:Nat->Nat->Dy}{R C:Nat}(h:∀ i j,i<R->j<C->f i j=g i j) : gridL f C (R*C)=gridL g C (R*C):=by
 unfold gridL
 refine List.map_congr_left fun m hm=>?_
 have hm':=W2.1 hm
 have hC:0<C:=by
  rcases Nat.eq_zero_or_pos C with h0|h0
  ·subst h0;simp at hm'
  ·exact h0
 exact h _ _ (Nat.div_lt_of_lt_mul (by rw [Wi];exact hm')) (Nat.mod_lt _ hC)
theorem Xcd{f:Nat->Nat->Dy}{R C:Nat}{x:Dy}(h:x ∈ gridL f C (R*C)) : ∃ i j,i<R/\j<C/\x=f i j:=by
 unfold gridL at h
 obtain ⟨m,hm,rfl⟩:=W6.1 h
 have hm':=W2.1 hm
 have hC:0<C:=by
  rcases Nat.eq_zero_or_pos C with h0|h0
  ·subst h0;simp at hm'
  ·exact h0
 exact ⟨_,_,Nat.div_lt_of_lt_mul (by rw [Wi];exact hm'),Nat.mod_lt _ hC,O⟩
def unitS(d:Nat) : Mx:=⟨(d:Int),(d:Int),gridL (fun i j=>if i=j then dPow 0 else dZ) d (d*d)⟩
theorem X3d{d:Nat}(h:isDimB (d:Int)=true) : idI (d:Int)=some (unitS d)/\mOk (unitS d)=true:=by
 refine ⟨?_,?_⟩
 ·unfold idI
  rw [X6x h h (fun i j=>if i=j then ⟨⟨1,0,0,0⟩,0⟩ else dZ)]
  rfl
 ·refine Xhu h h (by simp [unitS,X63]) fun x hx=>?_;obtain ⟨i,j,_,_,rfl⟩:=Xcd hx
  split
  ·rfl
  ·rfl
def bitT(p s:Nat) : Int:=bits .and .i64 ((s:Int)/2^p) 1
def flipT(p s:Nat) : Int:=bits .xor .i64 (s:Int) (wr (1*2^p))
def chkBits:Bool:=(List.range 5).all fun p=>(List.range 32).all fun s=>
 let f:=flipT p s
 Nat.blt f.toNat 32&&f==(f.toNat:Int)&&flipT p f.toNat==(s:Int)&&(bitT p f.toNat==1-bitT p s)&&(bitT p s==0||bitT p s==1) &&
 (List.range 5).all (fun q=>(q==p)||bitT q f.toNat==bitT q s) &&
 (List.range 5).all (fun q=>let g:=flipT q s;flipT p g.toNat==flipT q f.toNat) &&
 (List.range 32).all fun t=>(((t:Int)==s||f==(t:Int))==(bits .andNot .i64 (bits .xor .i64 (s:Int) (t:Int)) (wr (1*2^p))==0))
theorem Xde:chkBits=true:=by kernel_rfl
def chkSmall:Bool:=(List.range 6).all fun n=>(List.range n).all fun q=>(List.range (2^n)).all fun s=>Nat.blt (flipT (n-1-q) s).toNat (2^n)
theorem Xbi:chkSmall=true:=by kernel_rfl
structure BitsOk (p s:Nat) : Prop where
 nat:flipT p s=((flipT p s).toNat:Int)
 lt:(flipT p s).toNat<32
 back:flipT p (flipT p s).toNat=(s:Int)
 bit:bitT p (flipT p s).toNat=1-bitT p s
 other:∀ q<5,q≠p->bitT q (flipT p s).toNat=bitT q s
 comm:∀ q<5,flipT p (flipT q s).toNat=flipT q (flipT p s).toNat
 sel:∀ t:Nat,t<32->(((t:Int)=s∨flipT p s=(t:Int))↔bits .andNot .i64 (bits .xor .i64 (s:Int) (t:Int)) (wr (1*2^p))=0)
theorem X4p{p s:Nat}(hp:p<5)(hs:s<32) : BitsOk p s:=by
 have h:=Xde
 simp only [chkBits,W1,W2] at h
 have h:=h p hp s hs
 simp only [Qd,W1,W2,beq_iff_eq,Bool.or_eq_true,Nat.blt_eq] at h
 obtain ⟨⟨⟨⟨⟨⟨⟨h1,h2⟩,h3⟩,h4⟩,_⟩,h6⟩,h7⟩,h8⟩:=h
 refine ⟨h2,h1,h3,h4,fun q hq hne=>(h6 q hq).resolve_left hne,h7,fun t ht=>?_⟩
 have h9:=h8 t ht
 rw [Bool.eq_iff_iff] at h9
 simpa using h9
theorem X4t{n q s:Nat}(hn:n<=5)(hq:q<n)(hs:s<2^n) : (flipT (n-1-q) s).toNat<2^n:=by
 have h:=Xbi
 simp only [chkSmall,W1,W2] at h
 have h:=h n Z q hq s hs
 simpa [Nat.blt_eq] using h
theorem Xh5{n q:Int}(s:Nat) : bitF n (s:Int) q=bitT (n-1-q).toNat s:=rfl
theorem X5z{n q:Int}(s:Nat) : flipF n (s:Int) q=flipT (n-1-q).toNat s:=rfl
theorem Xd2{n q:Int}(hq:0<=q)(hqn:q<n) : (n-1-q).toNat=n.toNat-1-q.toNat:=by omega
theorem Xer{n:Int}{g:Gt}(hg:gOk n g=true){s:Nat}(hs:s<2^n.toNat)(hk:9<=g.k/\g.k<=11) : ∃ t:Nat,t<2^n.toNat/\toS n g s=(t:Int)/\toS n g t=(s:Int)/\(g.k=10->t=s):=by
 obtain ⟨hn,hk0,ha,hb⟩:=X1i hg
 have ha:=ha Z
 have hb:=hb hk
 have h32:2^n.toNat<=32:=X5b hn.2
 obtain ⟨p,hp⟩ : ∃ p,p=(n-1-g.a).toNat:=⟨_,O⟩
 obtain ⟨q,hq⟩ : ∃ q,q=(n-1-g.b).toNat:=⟨_,O⟩
 have hp5:p<5:=by omega
 have hq5:q<5:=by omega
 have hpq:p≠q:=by omega
 have hsm:∀ s,s<2^n.toNat->(flipT p s).toNat<2^n.toNat:=fun s hs=>by
  rw [hp,Xd2 Z Z]
  exact X4t Z Z hs
 have hsm2:∀ s,s<2^n.toNat->(flipT q s).toNat<2^n.toNat:=fun s hs=>by
  rw [hq,Xd2 Z Z]
  exact X4t Z Z hs
 unfold toS
 simp only [Xh5,X5z,<- hp,<- hq]
 have Bp:=X4p (p:=p) (s:=s) hp5 Z
 have Bq:=X4p (p:=q) (s:=s) hq5 Z
 by_cases h9:g.k=9
 ·simp only [h9,if_true]
  by_cases hb1:bitT p s=1
  ·refine ⟨(flipT q s).toNat,hsm2 s hs,by rw [Q4 hb1];exact Bq.nat,?_,by omega⟩
   rw [Q4 (by rw [Bq.other p hp5 hpq];exact hb1)]
   exact Bq.back
  ·exact ⟨s,hs,by rw [Q3 hb1],by rw [Q3 hb1],by omega⟩
 ·simp only [h9,if_false]
  by_cases h11:g.k=11
  ·simp only [h11,if_true]
   by_cases hb1:bitT p s=bitT q s
   ·exact ⟨s,hs,by rw [Q3 (by simpa using hb1)],by rw [Q3 (by simpa using hb1)],by omega⟩
   ·have Bf:=X4p (p:=q) (s:=(flipT p s).toNat) hq5 Bp.lt
    have Bg:=X4p (p:=p) (s:=(flipT q (flipT p s).toNat).toNat) hp5 Bf.lt
    have e1:flipF n (flipT p s) g.b=flipT q (flipT p s).toNat:=by rw [Bp.nat,X5z,<- hq,Qj]
    refine ⟨(flipT q (flipT p s).toNat).toNat,hsm2 _ (hsm _ hs),?_,?_,by omega⟩
    ·rw [Q4 hb1,e1];exact Bf.nat
    ·have e2:bitT p (flipT q (flipT p s).toNat).toNat=1-bitT p s:=by rw [Bf.other p hp5 hpq,Bp.bit]
     have e3:bitT q (flipT q (flipT p s).toNat).toNat=1-bitT q s:=by rw [Bf.bit,Bp.other q hq5 (Ne.symm hpq)]
     have e4:flipT p (flipT q (flipT p s).toNat).toNat=flipT q (flipT p (flipT p s).toNat).toNat:=(X4p (p:=p) (s:=(flipT p s).toNat) hp5 Bp.lt).comm q hq5
     rw [Q4 (by rw [e2,e3];omega),e4,Bp.back,Qj,Bq.nat,X5z,<- hq,Bq.back]
  ·exact ⟨s,hs,by rw [Q3 h11],by rw [Q3 h11],fun _=>rfl⟩
theorem Xtn{k:Int}(h:1<=k/\k<=8){i j:Int}(hi:i=0∨i=1)(hj:j=0∨j=1) : (oneL k).getD (2*i+j).toNat dZ=entryI k i j:=by
 have:k=1∨k=2∨k=3∨k=4∨k=5∨k=6∨k=7∨k=8:=by omega
 rcases this with rfl|rfl|rfl|rfl|rfl|rfl|rfl|rfl<;>rcases hi with rfl|rfl<;>rcases hj with rfl|rfl<;>rfl
theorem Xri{n:Int}{g:Gt}(hg:gOk n g=true){i j:Nat}(hi:i<2^n.toNat)(hj:j<2^n.toNat) : cellI n g i j=cellS n g i j:=by
 obtain ⟨hn,hk0,ha,hb⟩:=X1i hg
 have h32:2^n.toNat<=32:=X5b hn.2
 unfold cellI cellS
 by_cases h12:g.k=12
 ·rw [Q4 h12,Q3 (show ¬ g.k<=8 by omega)]
  have e1:toS n g j=j:=by unfold toS;rw [Q3 (show ¬ g.k=9 by omega),Q3 (show ¬ g.k=11 by omega)]
  rw [e1]
  by_cases hij:(i:Int)=j
  ·rw [Q4 hij,Q4 hij,valS,Q4 h12]
  ·rw [Q3 hij,Q3 hij]
 ·rw [Q3 h12]
  by_cases h2:9<=g.k/\g.k<=11
  ·rw [Q4 (X0b.2 h2),Q3 (show ¬ g.k<=8 by omega)]
   obtain ⟨t,ht,e1,e2,e3⟩:=Xer hg hi h2;obtain ⟨t',ht',e1',e2',e3'⟩:=Xer hg hj h2
   by_cases hij:toS n g i=j
   ·have hts:(i:Int)=toS n g j:=by rw [<- e2,<- e1,hij]
    rw [Q4 hij,Q4 hts,valS,Q3 h12]
    by_cases h10:g.k=10
    ·have hij2:i=j:=by rw [e1] at hij;have:=e3 h10;omega
     subst hij2
     by_cases hc:bitF n i g.a=1/\bitF n i g.b=1
     ·rw [Q4 (by simp [czI,h10,hc]),Q4 ⟨h10,hc⟩];rfl
     ·have hc':¬ czI n g i=true:=by simp only [czI,h10,Qd,beq_iff_eq,true_and,and_assoc];exact hc
      rw [Q3 hc',Q3 (fun h=>hc h.2)];rfl
    ·have hc':¬ czI n g i=true:=by simp [czI,h10]
     rw [Q3 hc',Q3 (fun h=>h10 h.1)];rfl
   ·have hts:¬ (i:Int)=toS n g j:=fun h=>by
     rw [e1'] at h
     have h:i=t':=by omega
     subst h
     exact hij e2'
    rw [Q3 hij,Q3 hts]
  ·have h8:g.k<=8:=by omega
   have ha:=ha h12
   rw [Q3 (fun h=>h2 (X0b.1 h)),Q4 h8]
   have B:=X4p (p:=(n-1-g.a).toNat) (s:=i) Z Z
   have hs:=B.sel j Z
   rw [X5z]
   have e0:((i:Int)=j∨flipT (n-1-g.a).toNat i=(j:Int))↔((j:Int)=i∨flipT (n-1-g.a).toNat i=(j:Int)):=by
    constructor<;>rintro (h|h)<;>first|exact .inl h.symm|exact .inr h
   by_cases hz:bits .andNot .i64 (bits .xor .i64 (i:Int) (j:Int)) (wr (1*2^(n-1-g.a).toNat))=0
   ·rw [Q4 (e0.2 (hs.2 hz)),Q3 (fun h=>h hz)]
    exact (Xtn ⟨hk0.1,h8⟩ (X36 _ _ _) (X36 _ _ _)).symm
   ·rw [Q3 (fun h=>hz (hs.1 (e0.1 h))),Q4 hz]
theorem Xnr{k:Int}(h:1<=k/\k<=8){i j:Int}(hi:i=0∨i=1)(hj:j=0∨j=1) : dOk (entryI k i j)=true:=by
 have:k=1∨k=2∨k=3∨k=4∨k=5∨k=6∨k=7∨k=8:=by omega
 rcases this with rfl|rfl|rfl|rfl|rfl|rfl|rfl|rfl<;>rcases hi with rfl|rfl<;>rcases hj with rfl|rfl<;>rfl
theorem Xrj{n:Int}{g:Gt}(hg:gOk n g=true)(i j:Int) : dOk (cellI n g i j)=true:=by
 obtain ⟨hn,hk0,ha,hb⟩:=X1i hg
 unfold cellI
 split
 ·split<;>rfl
 ·split
  ·split
   ·split<;>rfl
   ·rfl
  ·rename_i h1 h2
   split
   ·exact Xnr (by have h3:¬ (9<=g.k/\g.k<=11):=fun h=>h2 (X0b.2 h);omega) (X36 _ _ _) (X36 _ _ _)
   ·rfl
theorem X39{n:Int}{g:Gt}(hg:gOk n g=true) : gateI n g=some (gateS n g)/\mOk (gateS n g)=true:=by
 have hn:=(X1i hg).1;have hd:=X2j hn
 have he:gridL (fun i j=>cellI n g i j) (2^n.toNat) (2^n.toNat*2^n.toNat)=gridL (fun i j=>cellS n g i j) (2^n.toNat) (2^n.toNat*2^n.toNat):=Xfs fun i j hi hj=>Xri hg hi hj
 refine ⟨?_,?_⟩
 ·unfold gateI
  rw [Q4 hg,X6x hd hd (fun i j=>cellI n g i j)]
  simp only [Qj]
  rw [he]
  rfl
 ·refine Xhu hd hd (by simp only [gateS,X63,Qj]) fun x hx=>?_
  simp only [gateS] at hx
  rw [<- he] at hx
  obtain ⟨i,j,_,_,rfl⟩:=Xcd hx;exact Xrj hg _ _
def applI(n:Int) : List Gt->Mx->Option Mx
 | [],m=>some m
 | g::l,m=>(mulI ((gateI n g).getD mZ) m).bind (applI n l)
def runS(n:Int)(f:Bool) : List Gt->Mx->Bool×Mx
 | [],m=>(f,m)
 | g::l,m=>if f=true then (f,m) else runS n (timesS false (gateS n g) m).1 l (timesS false (gateS n g) m).2
theorem X8i(n:Int) : ∀ (l:List Gt) (m:Mx),runS n true l m=(true,m)
 | [],_=>rfl
 | _::_,_=>rfl
theorem Xcw{n:Int} : ∀ (l:List Gt) (m:Mx),(∀ g ∈ l,gOk n g=true)->mOk m=true->m.rows=((2^n.toNat:Nat) : Int)->
  (∀ m',applI n l m=some m'->runS n false l m=(false,m')/\mOk m'=true/\m'.rows=((2^n.toNat:Nat) : Int))/\(applI n l m=none->(runS n false l m).1=true)
 | [],m,_,hm,hr=>⟨fun m' h=>(by injection h with h;subst h;exact ⟨rfl,hm,hr⟩),fun h=>by cases h⟩
 | g::l,m,hg,hm,hr=>by
  obtain ⟨h1,h2⟩:=X39 (hg g O5)
  have h3:=X4g h2 hm (by rw [hr];rfl)
  unfold applI runS
  rw [h1,Qq,Q3 O4]
  cases h4:mulI (gateS n g) m with
  | none=>
   rw [h3.2 h4,X8i]
   exact ⟨fun m' h=>(by cases h),fun _=>rfl⟩
  | some m1=>
   obtain ⟨h5,h6,h7,h8⟩:=h3.1 m1 h4
   rw [h5]
   exact Xcw l m1 (fun g hg'=>hg g (by simp [hg'])) h6 (by rw [h7];rfl)
def opI(c:Cx) : Option Mx:=if cOk c=true then (idI ((2^c.n.toNat:Nat) : Int)).bind (applI c.n c.gs) else none
def opS(c:Cx) : Option Mx:=if cOk c=true then (if (runS c.n false c.gs (unitS (2^c.n.toNat))).1=true then none else some (runS c.n false c.gs (unitS (2^c.n.toNat))).2) else none
theorem X10{c:Cx}(h:cOk c=true) : (1<=c.n/\c.n<=5)/\c.gs.length<=400/\∀ g ∈ c.gs,gOk c.n g=true:=by
 simp only [cOk,Qd,X0b,Qr,Bool.not_eq_true',W7] at h
 exact ⟨h.1.1,by omega,fun g hg=>by simpa using h.2 g hg⟩
theorem X91(c:Cx) : opI c=opS c/\∀ m,opS c=some m->mOk m=true/\m.rows=((2^c.n.toNat:Nat) : Int):=by
 unfold opI opS
 by_cases hc:cOk c=true
 ·obtain ⟨hn,_,hg⟩:=X10 hc;obtain ⟨h1,h2⟩:=X3d (X2j hn);have h3:=Xcw c.gs _ hg h2 O
  rw [Q4 hc,Q4 hc,h1,Qz]
  cases h4:applI c.n c.gs (unitS (2^c.n.toNat)) with
  | none=>rw [h3.2 h4,Q4 rfl];exact ⟨rfl,fun m h=>by cases h⟩
  | some m'=>
   obtain ⟨h5,h6,h7⟩:=h3.1 m' h4
   rw [h5,Q3 (show ¬ (false=true) by decide)]
   exact ⟨O,fun m h=>(by injection h with h;subst h;exact ⟨h6,h7⟩)⟩
 ·rw [Q3 hc,Q3 hc]
  exact ⟨O,fun m h=>by cases h⟩
theorem Xyh{x:Cx}{M:Mx}(hx:cOk x=true)(h:opI x=some M) : runS x.n false x.gs (unitS (2^x.n.toNat))=(false,M):=by
 rw [(X91 x).1,opS,Q4 hx] at h
 cases e:(runS x.n false x.gs (unitS (2^x.n.toNat))).1 with
 | true=>rw [Q4 e] at h;cases h
 | false=>
  rw [Q3 (by rw [e];decide)] at h
  injection h with h
  exact Prod.ext e h
theorem Xhy{x:Rg}(h:rOk x=true) : rOk (rOm x)=true/\rOm x=⟨-x.d,x.a,x.b,x.c⟩:=by
 rw [X2r] at h
 have e:rOm x=⟨-x.d,x.a,x.b,x.c⟩:=by unfold rOm;rw [X11 Z Z]
 refine ⟨?_,e⟩
 rw [e,X2r]
 dsimp only
 omega
theorem X69{x:Rg}(h:rOk x=true) : rEven x=true↔(x.a+x.c) % 2=0/\(x.b+x.d) % 2=0:=by
 rw [X2r] at h
 unfold rEven
 rw [X11 Z Z,X11 Z Z]
 simp only [Qd,beq_iff_eq]
 have key:∀ i:Int,i.tmod 2=0↔i % 2=0:=fun i=>by
  rw [<- Int.dvd_iff_tmod_eq_zero,<- Int.dvd_iff_emod_eq_zero]
 rw [key,key]
theorem Xpy{x:Rg}(h:rOk x=true) : rEven (rOm x)=rEven x:=by
 obtain ⟨h1,h2⟩:=Xhy h
 rw [Bool.eq_iff_iff,X69 h1,X69 h,h2]
 dsimp only
 omega
theorem X6b:∀ (k:Nat) (x:Rg),rOk x=true->rOk (rTurnN k x)=true/\rEven (rTurnN k x)=rEven x
 | 0,_,h=>⟨h,rfl⟩
 | k+1,x,h=>by
  obtain ⟨h1,h2⟩:=X6b k (rOm x) (Xhy h).1;exact ⟨h1,h2.trans (Xpy h)⟩
theorem X7p{x:Rg}(h:rOk x=true)(k:Int) : rOk (rTurn x k)=true/\rEven (rTurn x k)=rEven x:=X6b _ _ h
theorem wr0:wr 0=0:=rfl
theorem Xpc{x:Rg}(h:rOk x=true){k:Nat}(hk:k<8) : rMul x (rTurn ⟨1,0,0,0⟩ k)=rTurn x k:=by
 have h':=X2r.1 h
 obtain ⟨a,b,c,d⟩:=x
 dsimp only at h'
 have wa:wr a=a:=X11 Z Z
 have wb:wr b=b:=X11 Z Z
 have wc:wr c=c:=X11 Z Z
 have wd:wr d=d:=X11 Z Z
 have na:wr (-a) = -a:=X11 Z Z
 have nb:wr (-b) = -b:=X11 Z Z
 have nc:wr (-c) = -c:=X11 Z Z
 have nd:wr (-d) = -d:=X11 Z Z
 have:k=0∨k=1∨k=2∨k=3∨k=4∨k=5∨k=6∨k=7:=by omega
 have s0:rTurn ⟨1,0,0,0⟩ ((0:Nat) : Int)=⟨1,0,0,0⟩:=by decide
 have s1:rTurn ⟨1,0,0,0⟩ ((1:Nat) : Int)=⟨0,1,0,0⟩:=by decide
 have s2:rTurn ⟨1,0,0,0⟩ ((2:Nat) : Int)=⟨0,0,1,0⟩:=by decide
 have s3:rTurn ⟨1,0,0,0⟩ ((3:Nat) : Int)=⟨0,0,0,1⟩:=by decide
 have s4:rTurn ⟨1,0,0,0⟩ ((4:Nat) : Int)=⟨-1,0,0,0⟩:=by decide
 have s5:rTurn ⟨1,0,0,0⟩ ((5:Nat) : Int)=⟨0,-1,0,0⟩:=by decide
 have s6:rTurn ⟨1,0,0,0⟩ ((6:Nat) : Int)=⟨0,0,-1,0⟩:=by decide
 have s7:rTurn ⟨1,0,0,0⟩ ((7:Nat) : Int)=⟨0,0,0,-1⟩:=by decide
 have T:∀ j:Nat,j<8->rTurn ⟨a,b,c,d⟩ (j:Int)=rTurnN j ⟨a,b,c,d⟩:=fun j hj=>by
  have:(turns (j:Int)).toNat=j:=by
   have:j=0∨j=1∨j=2∨j=3∨j=4∨j=5∨j=6∨j=7:=by omega
   rcases this with rfl|rfl|rfl|rfl|rfl|rfl|rfl|rfl<;>decide
  rw [rTurn,this]
 rcases this with rfl|rfl|rfl|rfl|rfl|rfl|rfl|rfl
 ·rw [T 0 Z,s0];simp [rMul,rTurnN,rOm,wr0,wa,wb,wc,wd,na,nb,nc,nd]
 ·rw [T 1 Z,s1];simp [rMul,rTurnN,rOm,wr0,wa,wb,wc,wd,na,nb,nc,nd]
 ·rw [T 2 Z,s2];simp [rMul,rTurnN,rOm,wr0,wa,wb,wc,wd,na,nb,nc,nd]
 ·rw [T 3 Z,s3];simp [rMul,rTurnN,rOm,wr0,wa,wb,wc,wd,na,nb,nc,nd]
 ·rw [T 4 Z,s4];simp [rMul,rTurnN,rOm,wr0,wa,wb,wc,wd,na,nb,nc,nd]
 ·rw [T 5 Z,s5];simp [rMul,rTurnN,rOm,wr0,wa,wb,wc,wd,na,nb,nc,nd]
 ·rw [T 6 Z,s6];simp [rMul,rTurnN,rOm,wr0,wa,wb,wc,wd,na,nb,nc,nd]
 ·rw [T 7 Z,s7];simp [rMul,rTurnN,rOm,wr0,wa,wb,wc,wd,na,nb,nc,nd]
theorem Xbx{z:Dy}(h:dOk z=true){k:Nat}(hk:k<8) : dMulI z (dPow k)=some (dTurn k z):=by
 have hz:=X1t.1 h
 have h1:rOk (rTurn ⟨1,0,0,0⟩ k)=true:=(X7p O4 _).1
 have hp:dOk (dPow k)=true:=X1t.2 ⟨h1,by simp [dPow],.inl rfl⟩
 obtain ⟨h2,h3⟩:=X7p hz.1 (k:Int)
 unfold dMulI
 rw [h,hp,show (dPow k).num=rTurn ⟨1,0,0,0⟩ k from O,rIf1,X5d hz.1 h1,Xpc hz.1 hk,h2]
 simp only [Bool.and_self,if_true]
 unfold dOf
 rw [h2,show z.exp+(dPow k).exp=z.exp from by simp [dPow],X0b.2 hz.2.1]
 simp only [Bool.and_self,if_true]
 rw [X2h fun h0=>by rw [h3];rcases hz.2.2 with h4|h4;exact absurd h4 Z;exact h4]
 rfl
theorem X71{q:Mx}(h:mOk q=true){k:Nat}(hk:k<8) : scaleI q (dPow k)=some ⟨q.rows,q.cols,q.cells.map (dTurn k)⟩:=by
 have h1:rOk (rTurn ⟨1,0,0,0⟩ k)=true:=(X7p O4 _).1
 have hp:dOk (dPow k)=true:=X1t.2 ⟨h1,by simp [dPow],.inl rfl⟩
 have hd:=X5a h;have hl:=X3b h;have ha:=X25 h
 have hf:(fun i j=>dMulI (q.at i j) (dPow k))=fun i j=>some (dTurn k (q.at i j)):=by
  funext i j
  exact Xbx (Mx.at_ok ha i j) hk
 unfold scaleI
 rw [h,hp,Q4 (show (true&&true)=true from O),hf,X6x hd.1 hd.2 (fun i j=>dTurn k (q.at i j))]
 congr 2
 unfold gridL
 apply List.ext_getElem
 ·simp [hl.2.2]
 ·intro m h1 h2
  simp only [Qo,List.length_range] at h1
  simp only [List.getElem_map,List.getElem_range]
  unfold gridF Mx.at
  dsimp only
  have:m/q.cols.toNat*q.cols.toNat+m % q.cols.toNat=m:=by rw [Wi];exact Nat.div_add_mod m _
  rw [this,Qa,Qc (by rw [hl.2.2];exact h1)]
  rfl
theorem Xpl{p q:Mx}(h:mOk q=true) : eqPh p q=phaseS p q:=by
 unfold eqPh phaseS
 rw [Bool.eq_iff_iff,List.any_eq_true,List.any_eq_true]
 constructor
 ·rintro ⟨k,hk,h1⟩
  refine ⟨k,hk,?_⟩
  rw [eqPhT,X71 h (W2.1 hk)] at h1
  exact h1
 ·rintro ⟨k,hk,h1⟩
  refine ⟨k,hk,?_⟩
  rw [eqPhT,X71 h (W2.1 hk)]
  exact h1
def sameI(a b:Cx) : Bool×Bool:=
 if ((opI a).isSome&&(opI b).isSome&&a.n==b.n)=true then
  (mOk ((opI a).getD mZ)&&mOk ((opI b).getD mZ)&&eqPh ((opI a).getD mZ) ((opI b).getD mZ),mOk ((opI a).getD mZ)&&mOk ((opI b).getD mZ)) else (false,false)
def sameS(a b:Cx) : Bool×Bool:=
 if ((opS a).isSome&&(opS b).isSome&&a.n==b.n)=true then (phaseS ((opS a).getD mZ) ((opS b).getD mZ),true) else (false,false)
theorem Xtv(a b:Cx) : sameI a b=sameS a b:=by
 unfold sameI sameS
 rw [(X91 a).1,(X91 b).1]
 cases h1:opS a with
 | none=>rfl
 | some x=>
  cases h2:opS b with
  | none=>rfl
  | some y=>
   have hx:=((X91 a).2 x h1).1;have hy:=((X91 b).2 y h2).1
   simp only [Qq,hx,hy,Xpl hy,Bool.and_self,Qw]
theorem Xov{n:Int}(hn:1<=n/\n<=5){g:Gt} : (gateS n g).cells.length<=2305843009213693951:=by
 have h:=X5b hn.2
 have h2:2^n.toNat*2^n.toNat<=32*32:=Nat.mul_le_mul h h
 simp only [gateS,X63]
 omega
theorem Xp7{m:Mx}(h:mOk m=true) : m.cells.length<=2305843009213693951:=by
 have h1:=X3b h
 have h2:m.rows.toNat*m.cols.toNat<=32*32:=Nat.mul_le_mul Z Z
 omega
theorem Xpj(a:Cx) : ((opI a).getD mZ).cells.length<=2305843009213693951:=by
 have h:=X91 a
 cases ha:opI a with
 | none=>exact Qf _
 | some m=>rw [h.1] at ha;exact Xp7 (h.2 m ha).1
theorem Xae{α:Type}{l:List α}{i:Nat}{u:α}(h:l[i]? = some u) : l.drop i=u::l.drop (i+1):=by
 obtain ⟨h1,h2⟩:=Qg.1 h
 rw [Qy h1,h2]
def unitP(d i:Nat) : List Dy:=(List.range (d*d)).map fun m=>if m/d=m % d/\m/d<i then dPow 0 else dZ
theorem Xd5(d i:Nat) : (unitP d i).length=d*d:=by simp [unitP]
theorem Xie(d:Nat) : List.replicate (d*d) dZ=unitP d 0:=by
 unfold unitP
 apply List.ext_getElem
 ·simp
 ·intro k h1 h2
  simp
theorem Xid{d i:Nat}(h:i<d) : (unitP d i).set (i*d+i) (dPow 0)=unitP d (i+1):=by
 have e1:(i*d+i)/d=i:=by rw [Wi,Nat.mul_add_div Z,Nat.div_eq_of_lt h];omega
 have e2:(i*d+i) % d=i:=by rw [Wi,Nat.mul_add_mod,Nat.mod_eq_of_lt h]
 unfold unitP
 apply List.ext_getElem
 ·simp
 ·intro k h1 h2
  simp only [List.length_set,Qo,List.length_range] at h1
  rw [List.getElem_set]
  split
  ·rename_i hk
   subst hk
   simp [e1,e2]
  ·rename_i hk
   simp only [List.getElem_map,List.getElem_range]
   have:(k/d=k % d/\k/d<i)↔(k/d=k % d/\k/d<i+1):=by
    constructor
    ·rintro ⟨h3,h4⟩;exact ⟨h3,by omega⟩
    ·rintro ⟨h3,h4⟩
     refine ⟨h3,?_⟩
     rcases W4 (k/d) i with h5|h5
     ·exact h5
     ·have h6:k/d=i:=by omega
      have h7:=Nat.div_add_mod k d
      rw [<- h3,h6] at h7
      exact absurd (show i*d+i=k by rw [Wi i d];exact h7) hk
   by_cases hc:k/d=k % d/\k/d<i
   ·rw [Q4 hc,Q4 (this.1 hc)]
   ·rw [Q3 hc,Q3 (fun h=>hc (this.2 h))]
theorem Xic{d:Nat} : (unitS d).cells=unitP d d:=by
 unfold unitP unitS gridL
 refine List.map_congr_left fun m hm=>?_
 have hm':=W2.1 hm
 have h1:m/d<d:=Nat.div_lt_of_lt_mul hm'
 unfold gridF
 dsimp only
 by_cases hc:m/d=m % d
 ·rw [Q4 hc,Q4 ⟨hc,h1⟩]
 ·rw [Q3 hc,Q3 (fun h=>hc h.1)]
theorem Xfg:∀ (m:Nat) (x:Rg),0<=(dLow x m).exp/\(dLow x m).exp<=m
 | 0,x=>by rw [X2h Z];simp
 | m+1,x=>by
  by_cases he:rEven x=true
  ·rw [X4c Z he,show ((m+1:Nat) : Int)-1=(m:Int) from by omega]
   have:=Xfg m (rHalf x)
   omega
  ·rw [X2h fun _=>by simpa using he]
   dsimp only
   omega
theorem Xbw{x:Rg}{e:Int}(h0:0<=e) : 0<=(dLow x e).exp/\(dLow x e).exp<=e:=by
 obtain ⟨m,rfl⟩ : ∃ m:Nat,e=m:=⟨e.toNat,by omega⟩
 exact Xfg m x
theorem Xgq{f:Bool}{x y:Dy}(hx:0<=x.exp/\x.exp<=60)(hy:0<=y.exp/\y.exp<=60) : 0<=(sMul f x y).2.exp/\(sMul f x y).2.exp<=60:=by
 unfold sMul
 split
 ·exact ⟨Int.le_refl _,by decide⟩
 ·have:=Xbw (x:=sRing (rMul x.num y.num)) (e:=x.exp+y.exp) Z
  dsimp only
  omega
theorem Xq4{f:Bool}{x y:Dy}(hx:0<=x.exp/\x.exp<=60)(hy:0<=y.exp/\y.exp<=60) : 0<=(sAdd f x y).2.exp/\(sAdd f x y).2.exp<=60:=by
 unfold sAdd
 dsimp only
 rw [X70]
 have:=fun z=>Xbw (x:=z) (e:=x.exp+((y.exp-x.exp).toNat:Int)) Z
 have h:=this (sRing (rAdd (sRaiseN (y.exp-x.exp).toNat f x).2.num (sRaiseN (x.exp+((y.exp-x.exp).toNat:Int)-y.exp).toNat (sRaiseN (y.exp-x.exp).toNat f x).1 y).2.num))
 omega
theorem Xad{a b:Mx}(ha:AllOk a)(hb:AllOk b)(f:Bool)(i j:Nat) : ∀ n,0<=(dotS f a b i j n).2.exp/\(dotS f a b i j n).2.exp<=60
 | 0=>⟨Int.le_refl _,show (0:Int)<=60 by decide⟩
 | n+1=>by
  rw [dotS]
  split
  ·exact Xad ha hb f i j n
  ·exact Xq4 (Xad ha hb f i j n) (Xgq (X37 (Mx.at_ok ha i n)) (X37 (Mx.at_ok hb n j)))
theorem Xrl{a b:Mx}{f f3:Bool}{i j k n:Nat}{s:Dy}(h:dotS f a b i j k=(f3,s))(hk:k<=n)(he:f3=true∨k=n) : dotS f a b i j n=(f3,s):=by
 rcases he with he|he
 ·subst he
  rw [Xac (n:=k) (by rw [h]) n hk,h]
 ·subst he;exact h
theorem Xnh{a b:Mx}{f f3:Bool}{i j k:Nat}{s:Dy}(h:dotS f a b i j k=(f3,s))(hf:f3=false) :
  dotS f a b i j (k+1)=((sAdd (sMul f3 (a.at i k) (b.at k j)).1 s (sMul f3 (a.at i k) (b.at k j)).2).1,(sAdd (sMul f3 (a.at i k) (b.at k j)).1 s (sMul f3 (a.at i k) (b.at k j)).2).2):=by grind [dotS,sAdd,sMul]
theorem X3a{a b:Nat}(ha:a<=32)(hb:b<=32) : a*b<=1024:=Q0 (Nat.mul_le_mul ha hb) O4
theorem Xcc{l:List Int}{k:Nat}(h:decide ((k:Int)<(l.length:Int))=true) : l[k]? = some (l.getD k 0):=X7e (by simpa using h)
def putI:List Int->Int->List Int
 | [],n=>[n]
 | x::l,n=>if x<n then x::putI l n else if x=n then x::l else n::x::l
theorem X1f:∀ (l:List Int) (n:Int),(putI l n).length<=l.length+1
 | [],n=>by simp [putI]
 | x::l,n=>by
  unfold putI
  split
  ·have:=X1f l n;simp only [Qs];omega
  ·split<;>simp
theorem Xpp:∀ (l:List Int) (n:Int) (k:Nat),(l.take k).all (fun x=>decide (x<n))=true->k<=l.length->(k<l.length->¬ l.getD k 0<n)->
  (k<l.length/\l.getD k 0=n->putI l n=l)/\(¬ (k<l.length/\l.getD k 0=n)->putI l n=l.take k++[n]++l.drop k)
 | [],n,k,_,hk,_=>by
  have:k=0:=by simpa using hk
  subst this
  exact ⟨fun h=>by simp at h,fun _=>rfl⟩
 | x::l,n,0,_,_,h=>by
  have h:=h O5
  simp only [List.getD_cons_zero] at h
  refine ⟨fun h1=>?_,fun h1=>?_⟩
  ·have h2:=h1.2
   simp only [List.getD_cons_zero] at h2
   rw [putI,Q3 h,Q4 h2]
  ·have h2:¬ x=n:=fun e=>h1 ⟨by simp,by simpa using e⟩
   rw [putI,Q3 h,Q3 h2]
   rfl
 | x::l,n,k+1,ha,hk,h=>by
  simp only [List.take_succ_cons,List.all_cons,Qd,Qr] at ha
  have ih:=Xpp l n k ha.2 (by simpa using hk) (fun h1=>by have:=h (by simpa using h1);simpa using this)
  simp only [Qs,Nat.add_lt_add_iff_right,List.getD_cons_succ,List.take_succ_cons,List.drop_succ_cons,Wa] at *
  rw [putI,Q4 ha.1]
  exact ⟨fun h1=>by rw [ih.1 h1],fun h1=>by rw [ih.2 h1]⟩
def usedStep(m:List Int)(g:Gt) : List Int:=if g.k=12 then m else if inR g.k 9 11=true then putI (putI m g.a) g.b else putI m g.a
def usedS(l:List Gt) : List Int:=l.foldl usedStep []
def lastN(l:List Int)(q:Int) : Nat->Int
 | 0=>0
 | k+1=>if l.getD k 0=q then (k:Int) else lastN l q k
theorem Xau{l:List Int}{q u:Int}{k:Nat}(h:l[k]? = some u) : lastN l q (k+1)=if u=q then (k:Int) else lastN l q k:=by grind [lastN]
section
variable {us : List Int} {j : Nat} {v q x k : Int}
end
def smallG(used:List Int)(g:Gt) : Gt:=⟨g.k,if g.k=12 then 0 else lastN used g.a used.length,if inR g.k 9 11=true then lastN used g.b used.length else 0⟩
def validS(n:Int)(r:Rp) : Bool:=inR n 1 5&&inR r.pos 0 400&&(!(r.old.any fun x=>!gOk n x)&&decide ((r.old.length:Int)<=40))&&(!(r.new.any fun x=>!gOk n x)&&decide ((r.new.length:Int)<=40))
theorem X3x(n:Int)(r:Rp) : validS n r=vrI n r:=by grind [validS,vrI]
abbrev Inc(l:List Int) : Prop:=l.Pairwise (· < ·)
theorem Xe7:∀ (l m:List Int),Inc l->Inc m->(∀ x,x ∈ l↔x ∈ m)->l=m
 | [],[],_,_,_=>rfl
 | [],y::m,_,_,h=>by have:=(h y).2 O5;cases this
 | x::l,[],_,_,h=>by have:=(h x).1 O5;cases this
 | x::l,y::m,hl,hm,h=>by
  have hl':=W8.1 hl
  have hm':=W8.1 hm
  have hxy:x=y:=by
   have h1:=(h x).1 O5
   have h2:=(h y).2 O5
   rcases Qv.1 h1 with h1|h1
   ·exact h1
   ·rcases Qv.1 h2 with h2|h2
    ·exact h2.symm
    ·have h3:=hm'.1 x h1;have h4:=hl'.1 y h2
     omega
  subst hxy
  congr 1
  refine Xe7 l m hl'.2 hm'.2 fun z=>?_
  constructor
  ·intro hz
   rcases Qv.1 ((h z).1 (Ql _ hz)) with h1|h1
   ·have:=hl'.1 z hz;omega
   ·exact h1
  ·intro hz
   rcases Qv.1 ((h z).2 (Ql _ hz)) with h1|h1
   ·have:=hm'.1 z hz;omega
   ·exact h1
theorem X68:∀ (l:List Int) (n x:Int),x ∈ putI l n↔x ∈ l∨x=n
 | [],n,x=>by simp [putI]
 | y::l,n,x=>by
  unfold putI
  split
  ·rw [Qv,X68 l n x,Qv,or_assoc]
  ·split
   ·rename_i h;subst h;simp only [Qv];constructor
    ·exact .inl
    ·rintro (h|h)
     ·exact h
     ·exact .inl h
   ·simp only [Qv];constructor
    ·rintro (h|h|h)
     ·exact .inr h
     ·exact .inl (.inl h)
     ·exact .inl (.inr h)
    ·rintro ((h|h)|h)
     ·exact .inr (.inl h)
     ·exact .inr (.inr h)
     ·exact .inl h
theorem X7m:∀ (l:List Int) (n:Int),Inc l->Inc (putI l n)
 | [],n,_=>by simp [putI]
 | y::l,n,h=>by
  have h':=W8.1 h
  unfold putI
  split
  ·rename_i h1
   refine W8.2 ⟨fun z hz=>?_,X7m l n h'.2⟩
   rcases (X68 l n z).1 hz with h2|h2
   ·exact h'.1 z h2
   ·omega
  ·split
   ·exact h
   ·rename_i h1 h2
    refine W8.2 ⟨fun z hz=>?_,h⟩
    rcases Qv.1 hz with h3|h3
    ·omega
    ·have:=h'.1 z h3;omega
theorem Xex(m:List Int)(g:Gt)(x:Int) : x ∈ usedStep m g↔x ∈ m∨x ∈ qubI g:=by
 unfold usedStep qubI
 split
 ·simp
 ·split
  ·rw [X68,X68,or_assoc];simp
  ·rw [X68];simp
theorem X7v:∀ (l:List Gt) (m:List Int) (x:Int),x ∈ l.foldl usedStep m↔x ∈ m∨∃ g ∈ l,x ∈ qubI g
 | [],m,x=>by simp
 | g::l,m,x=>by
  rw [List.foldl_cons,X7v l,Xex,or_assoc]
  simp
theorem Xew{m:List Int}(g:Gt)(h:Inc m) : Inc (usedStep m g):=by
 unfold usedStep
 split
 ·exact h
 ·split
  ·exact X7m _ _ (X7m _ _ h)
  ·exact X7m _ _ h
theorem X7u:∀ (l:List Gt) (m:List Int),Inc m->Inc (l.foldl usedStep m)
 | [],m,h=>h
 | g::l,m,h=>X7u l _ (Xew g h)
theorem X4l(l:List Gt)(x:Int) : x ∈ usedS l↔∃ g ∈ l,x ∈ qubI g:=by unfold usedS;rw [X7v];simp
theorem X8n(l:List Gt) : Inc (usedS l):=X7u l [] List.Pairwise.nil
theorem Xm9(l:List Int)(x:Int) : x ∈ sortI l↔x ∈ l:=List.mem_mergeSort
theorem Xen(l:List Int) : (sortI l).Pairwise (·<=·):=by
 have:=List.pairwise_mergeSort (le:=fun x y:Int=>decide (x<=y)) (fun a b c h1 h2=>by simp only [Qr] at *;omega) (fun a b=>by simp only [Bool.or_eq_true,Qr];omega) l
 exact this.imp fun h=>by simpa using h
theorem Xbb{l:List Int}(h:l.Pairwise (·<=·)){i j:Nat}(hij:i<=j)(hj:j<l.length) : l[i]'Z<=l[j]:=by
 rcases W4 i j with h1|h1
 ·exact W0.1 h i j Z hj h1
 ·obtain rfl:i=j:=by omega
  exact Int.le_refl _
theorem X5p{l:List Int}{j:Nat}(hj:j<l.length) : l.toArray[j]! = l[j]:=by grind
theorem Xci{l:List Int}{j:Nat}(hj:j<l.length) : Lib.keeps l.toArray j=true↔j=0∨l[j]≠l[j-1]:=by
 unfold Lib.keeps
 rw [Qr,X5p hj,X5p (show j-1<l.length by omega)]
theorem Xff(l:List Int)(x:Int) : x ∈ Lib.compact l↔x ∈ l:=by
 unfold Lib.compact Lib.compactUpTo
 rw [W6]
 constructor
 ·rintro ⟨j,hj,rfl⟩
  have hj':=W2.1 (List.mem_filter.1 hj).1
  rw [X5p hj']
  exact List.getElem_mem _
 ·intro hx;obtain ⟨j,hj,hjx⟩:=List.mem_iff_getElem.1 hx
  have key:∀ n j,j<=n->(hj:j<l.length)->l[j]=x->∃ k,∃ hk:k<l.length,l[k]=x/\(k=0∨l[k]≠l[k-1]):=by
   intro n
   induction n with
   | zero=>
    intro j h0 hj hx;obtain rfl:j=0:=by omega
    exact ⟨0,hj,hx,.inl O⟩
   | succ n ih=>
    intro j h0 hj hx
    by_cases h:j=0∨l[j]≠l[j-1]
    ·exact ⟨j,hj,hx,h⟩
    ·have h1:¬ j=0:=fun e=>h (.inl e)
     have h2:l[j]=l[j-1]:=Classical.byContradiction fun e=>h (.inr e)
     exact ih (j-1) Z Z (by rw [<- h2];exact hx)
  obtain ⟨k,hk,h1,h2⟩:=key j j (Qb _) hj hjx;exact ⟨k,List.mem_filter.2 ⟨W2.2 hk,(Xci hk).2 h2⟩,by rw [X5p hk];exact h1⟩
theorem Xfe{l:List Int}(h:l.Pairwise (·<=·)) : Inc (Lib.compact l):=by
 unfold Lib.compact Lib.compactUpTo
 rw [Inc,List.pairwise_map]
 refine List.Pairwise.imp_of_mem (R:=(· < ·)) (fun {i j} hi hj hij=>?_) (List.Pairwise.filter _ List.pairwise_lt_range)
 have hi':=W2.1 (List.mem_filter.1 hi).1
 have hj':=W2.1 (List.mem_filter.1 hj).1
 have hk:=(Xci hj').1 (List.mem_filter.1 hj).2
 rw [X5p hi',X5p hj']
 have h1:=Xbb h (show i<=j-1 by omega) Z
 have h2:=Xbb h (show j-1<=j by omega) hj'
 have h3:l[j]≠l[j-1]:=hk.resolve_left Z
 omega
theorem X8m(p q:List Int)(x:Int) : x ∈ unionI p q↔x ∈ p∨x ∈ q:=by
 unfold unionI
 rw [Xff,Xm9]
 simp
theorem Xd3(p q:List Int) : Inc (unionI p q):=Xfe (Xen _)
theorem Xd6(l:List Gt)(x:Int) : x ∈ usedI l↔∃ g ∈ l,x ∈ qubI g:=by
 unfold usedI
 rw [X8m]
 simp [List.mem_flatMap]
theorem Xkx(p q:List Gt) : unionI (usedI p) (usedI q)=usedS (p++q):=by
 refine Xe7 _ _ (Xd3 _ _) (X8n _) fun x=>?_
 rw [X8m,Xd6,Xd6,X4l]
 constructor
 ·rintro (⟨g,hg,hx⟩|⟨g,hg,hx⟩)
  ·exact ⟨g,List.mem_append_left _ hg,hx⟩
  ·exact ⟨g,List.mem_append_right _ hg,hx⟩
 ·rintro ⟨g,hg,hx⟩
  rcases Qu.1 hg with hg|hg
  ·exact .inl ⟨g,hg,hx⟩
  ·exact .inr ⟨g,hg,hx⟩
theorem Xq7{l:List Int}{i j:Nat}{x:Int}(hi:i<l.length) : (l.set i x).getD j 0=if i=j then x else l.getD j 0:=by grind
theorem Xcq{l:List Int}(hq:∀ x ∈ l,0<=x/\x<=4){q:Int}(h0:0<=q)(h4:q<=4) : ∀ k,k<=l.length->(numbI (l.take k)).getD q.toNat 0=lastN l q k
 | 0,_=>by
  have:q=0∨q=1∨q=2∨q=3∨q=4:=by omega
  rcases this with rfl|rfl|rfl|rfl|rfl<;>rfl
 | k+1,hk=>by
  have hu:=Qc (show k<l.length by omega)
  have hb:=hq _ (List.getElem_mem (show k<l.length by omega))
  rw [Xcr hu,Xau hu,Xq7 (by rw [X4h];omega),Xcq hq h0 h4 k Z]
  by_cases h:l[k]=q
  ·rw [Q4 h,Q4 (by rw [h])]
  ·rw [Q3 h,Q3 Z]
theorem Xjr{l:List Int}(h:Inc l)(hq:∀ x ∈ l,0<=x/\x<=4) : l.length<=5:=by
 have key:∀ (l:List Int) (a:Int),Inc l->(∀ x ∈ l,a<=x/\x<=4)->a<=5->(l.length:Int)<=5-a:=by
  intro l
  induction l with
  | nil=>intro a _ _ h;simp;omega
  | cons x l ih=>
   intro a hl hb ha
   have hl':=W8.1 hl
   have hx:=hb x O5
   have:=ih (x+1) hl'.2 (fun y hy=>⟨by have:=hl'.1 y hy;omega,(hb y (by simp [hy])).2⟩) Z
   simp only [Qs]
   omega
 have:=key l 0 h hq Z
 omega
theorem Xg0{l:List Int}{q:Int} : ∀ k,k<=l.length->q ∈ l.take k->∃ j:Nat,j<k/\lastN l q k=(j:Int)/\l.getD j 0=q
 | 0,_,h=>by simp at h
 | k+1,hk,h=>by
  have hu:=Qc (show k<l.length by omega)
  rw [Xau hu]
  by_cases he:l[k]=q
  ·rw [Q4 he]
   exact ⟨k,by omega,rfl,by rw [Qa,hu];exact he⟩
  ·rw [Q3 he]
   rw [Qt,hu,Option.toList_some] at h
   rcases Qu.1 h with h|h
   ·obtain ⟨j,h1,h2,h3⟩:=Xg0 k Z h
    exact ⟨j,by omega,h2,h3⟩
   ·exact absurd (Qm.1 h).symm he
theorem X2k{l:List Int}{q:Int}(h:q ∈ l) : ∃ j:Nat,j<l.length/\lastN l q l.length=(j:Int)/\l.getD j 0=q:=Xg0 l.length (Qb _) (by rw [List.take_length];exact h)
structure GoodG (us:List Int) (n:Int) (g:Gt) : Prop where
 ok:gOk n g=true
 use:∀ x ∈ qubI g,x ∈ us
theorem Xcm{us:List Int}{n:Int}{g:Gt}(hq:∀ x ∈ us,0<=x/\x<=4)(h:GoodG us n g) : mapG (numbI us) g=smallG us g:=by
 obtain ⟨hn,hk,ha,hb⟩:=X1i h.ok
 have hf:∀ q,0<=q->q<=4->(numbI us).getD q.toNat 0=lastN us q us.length:=fun q h0 h4=>by
  have:=Xcq hq h0 h4 us.length (Qb _)
  rwa [List.take_length] at this
 unfold mapG smallG
 have hok:=h.ok
 simp only [gOk,Qd,X0b] at hok
 by_cases h12:g.k=12
 ·have h9:¬ inR g.k 9 11=true:=fun e=>by have:=X0b.1 e;omega
  rw [Q4 h12] at hok
  simp only [Qd,beq_iff_eq] at hok
  rw [Q4 h12,Q4 h12,Q3 h9,Q3 h9,hok.2.1,hok.2.2]
 ·have ha:=ha h12
  rw [Q3 h12] at hok ⊢
  rw [Q3 h12,hf g.a Z Z]
  by_cases h9:inR g.k 9 11=true
  ·have hb:=hb (X0b.1 h9)
   rw [Q4 h9,Q4 h9,hf g.b Z Z]
  ·rw [Q3 h9,Q3 h9]
   rw [Q3 (fun e=>h9 (X0b.2 e))] at hok
   simp only [Qd,beq_iff_eq] at hok
   rw [hok.2.2]
theorem Xba{us:List Int}{n:Int}{g:Gt}(hi:Inc us)(hq:∀ x ∈ us,0<=x/\x<=4)(h:GoodG us n g) : gOk (max 1 (us.length:Int)) (smallG us g)=true:=by
 obtain ⟨hn,hk,ha,hb⟩:=X1i h.ok;have hl:=Xjr hi hq
 have e1:inR (max 1 (us.length:Int)) 1 5=true:=X0b.2 Z
 have e2:inR g.k 1 12=true:=X0b.2 hk
 unfold gOk smallG
 dsimp only
 rw [e1,e2]
 simp only [Qw]
 by_cases h12:g.k=12
 ·have h9:¬ inR g.k 9 11=true:=fun e=>by have:=X0b.1 e;omega
  rw [Q4 h12,Q4 h12,Q3 h9];rfl
 ·have hqa:g.a ∈ us:=h.use _ (by unfold qubI;rw [Q3 h12];split<;>simp)
  obtain ⟨i,hi1,hi2,hi3⟩:=X2k hqa
  rw [Q3 h12,Q3 h12,hi2]
  have e3:inR (i:Int) 0 (max 1 (us.length:Int)-1)=true:=X0b.2 Z
  rw [e3]
  by_cases h9:inR g.k 9 11=true
  ·have hqb:g.b ∈ us:=h.use _ (by unfold qubI;rw [Q3 h12,Q4 h9];simp)
   obtain ⟨j,hj1,hj2,hj3⟩:=X2k hqb
   have e4:inR (j:Int) 0 (max 1 (us.length:Int)-1)=true:=X0b.2 Z
   rw [Q4 h9,Q4 h9,hj2,e4]
   have hne:=(hb (X0b.1 h9)).2.2
   have:(i:Int)≠j:=fun e=>by
    obtain rfl:i=j:=by omega
    exact hne (hi3.symm.trans hj3)
   simpa using this
  ·rw [Q3 h9,Q3 h9];rfl
theorem Xm1{n:Int}{g:Gt}(h:gOk n g=true){x:Int}(hx:x ∈ qubI g) : 0<=x/\x<=4:=by
 obtain ⟨hn,hk,ha,hb⟩:=X1i h
 unfold qubI at hx
 split at hx
 ·cases hx
 ·rename_i h12
  have ha:=ha h12
  split at hx
  ·rename_i h9
   have hb:=hb (X0b.1 h9)
   rcases Qv.1 hx with hx|hx
   ·omega
   ·have:=Qm.1 hx;omega
  ·have:=Qm.1 hx;omega
def smallC(l:List Gt)(us:List Int) : Cx:=⟨max 1 (us.length:Int),l.map (smallG us)⟩
def mapC(l:List Gt)(us:List Int) : Cx:=⟨max (us.length:Int) 1,mapI l (numbI us)⟩
def justS(r:Rp) : Bool×Bool:=sameS (smallC r.old (usedS (r.old++r.new))) (smallC r.new (usedS (r.old++r.new)))
def justI(r:Rp) : Bool×Bool:=sameI (mapC r.old (unionI (usedI r.old) (usedI r.new))) (mapC r.new (unionI (usedI r.old) (usedI r.new)))
theorem X4z{n:Int}{r:Rp}(h:vrI n r=true) : (1<=n/\n<=5)/\(r.old.length<=40/\r.new.length<=40)/\(∀ g ∈ r.old,gOk n g=true)/\(∀ g ∈ r.new,gOk n g=true):=by
 simp only [vrI,Qd,X0b,Qr,Bool.not_eq_true',W7] at h
 refine ⟨h.1.1.1.1.1,by omega,fun g hg=>by simpa using h.1.2 g hg,fun g hg=>by simpa using h.2 g hg⟩
theorem X4y{n:Int}{l:List Gt}(h:∀ g ∈ l,gOk n g=true) : ∀ x ∈ usedS l,0<=x/\x<=4:=fun x hx=>by
 obtain ⟨g,hg,hx⟩:=(X4l l x).1 hx;exact Xm1 (h g hg) hx
theorem Xjx{n:Int}{l:List Gt}{us:List Int}(hq:∀ x ∈ us,0<=x/\x<=4)(h:∀ g ∈ l,GoodG us n g) : mapC l us=smallC l us:=by
 unfold mapC smallC mapI
 rw [Int.max_comm]
 congr 1
 exact List.map_congr_left fun g hg=>Xcm hq (h g hg)
theorem Xtg{n:Int}{r:Rp}(h:vrI n r=true) : justI r=justS r:=by
 obtain ⟨hn,hl,ho,hw⟩:=X4z h
 have hall:∀ g ∈ r.old++r.new,gOk n g=true:=fun g hg=>by
  rcases Qu.1 hg with hg|hg
  ·exact ho g hg
  ·exact hw g hg
 have hq:=X4y hall
 have hgo:∀ g ∈ r.old++r.new,GoodG (usedS (r.old++r.new)) n g:=fun g hg=>⟨hall g hg,fun x hx=>(X4l _ x).2 ⟨g,hg,hx⟩⟩
 unfold justI justS
 rw [Xkx,Xjx hq fun g hg=>hgo g (List.mem_append_left _ hg),Xjx hq fun g hg=>hgo g (List.mem_append_right _ hg),Xtv]
theorem Xd8{n:Int}{l:List Gt}(h:∀ g ∈ l,gOk n g=true) : ∀ g ∈ l,(g.k≠12->0<=g.a/\g.a<5)/\(inR g.k 9 11=true->0<=g.b/\g.b<5):=by grind [gOk,inR]
theorem Xud{n:Int}{r:Rp}(h:vrI n r=true) : ∀ x ∈ unionI (usedI r.old) (usedI r.new),0<=x/\x<=4:=fun x hx=>by
 obtain ⟨_,_,ho,hw⟩:=X4z h
 rw [Xkx] at hx
 refine X4y (n:=n) (fun g hg=>?_) x hx
 rcases Qu.1 hg with hg|hg
 ·exact ho g hg
 ·exact hw g hg
def implJ(n:Int)(r:Rp) : Bool×Bool:=if vrI n r=true then justI r else (false,false)
def specJ(n:Int)(r:Rp) : Bool×Bool:=if validS n r=true then justS r else (false,false)
theorem Xfv(n:Int)(r:Rp) : implJ n r=specJ n r:=by
 unfold implJ specJ
 rw [X3x]
 split
 ·rename_i h;exact Xtg h
 ·rfl
structure Sr where (pos:Int) (A:Option Addr) (c:Nat) (old:List Gt) (B:Option Addr) (d:Nat) (new:List Gt)
def encSr(s:Sr) : List Value:=[.int .i64 s.pos,.slice s.A s.old.length s.c,.slice s.B s.new.length s.d]
theorem X4d:∀ x,(encSr x).length=3:=fun _=>rfl
theorem X5v:∀ x,(encSr x).all one=true:=fun _=>rfl
abbrev Sr.rp(s:Sr) : Rp:=⟨s.pos,s.old,s.new⟩
def srZ:Sr:=⟨0,none,0,[],none,0,[]⟩
def DeepR(w:World)(B:Nat)(E:TypeId)(l:List Sr) : Prop:=∀ s ∈ l,Rd w B E encG s.A s.old/\Rd w B E encG s.B s.new
section
variable {w w' : World} {B : Nat} {E : TypeId} {l : List Sr}
theorem DeepR.bw(h:DeepR w B E l)(hb:Below w.heap.size w w') : DeepR w' B E l:=fun s hs=>⟨(h s hs).1.bw hb,(h s hs).2.bw hb⟩
theorem DeepR.top(h:DeepR w B E l) : DeepR w w.heap.size E l:=fun s hs=>⟨(h s hs).1.top,(h s hs).2.top⟩
theorem DeepR.oy{b:Nat}(h:DeepR w B E l)(ho:Only b w w')(hB:B<=b) : DeepR w' B E l:=fun s hs=>⟨(h s hs).1.oy ho hB,(h s hs).2.oy ho hB⟩
theorem DeepR.oT{b:Nat}{T:TypeId}{lc:List Value}(h:DeepR w B E l)(ho:Only b w w')(hb:Blk w b T lc)(hT:Nat.beq E T=false) : DeepR w' B E l:=fun s hs=>⟨(h s hs).1.oT ho hb hT,(h s hs).2.oT ho hb hT⟩
theorem DeepR.appB{B0:Nat}{E':TypeId}{sz:Nat}{α:Type}{enc:α->List Value}{A:Option Addr}{c:Nat}{m:List α}(h:DeepR w B E l)(ho:Own w B0 E' sz enc A c m)(hg:w.grownBy w' (Value.slice A m.length c).ownBlock)(hB:B<=B0) : DeepR w' B E l:=fun s hs=>⟨(h s hs).1.appB ho hg hB,(h s hs).2.appB ho hg hB⟩
theorem DeepR.appT{B0:Nat}{E':TypeId}{sz:Nat}{α:Type}{enc:α->List Value}{A:Option Addr}{c:Nat}{m:List α}(h:DeepR w B E l)(ho:Own w B0 E' sz enc A c m)(hg:w.grownBy w' (Value.slice A m.length c).ownBlock)(hT:Nat.beq E' E=false) : DeepR w' B E l:=fun s hs=>⟨(h s hs).1.appT ho hg hT,(h s hs).2.appT ho hg hT⟩
end
theorem DeepR.zero(w:World)(B:Nat)(E:TypeId)(n:Nat) : DeepR w B E (List.replicate n srZ):=fun s hs=>by
 obtain rfl:=List.eq_of_mem_replicate hs
 exact ⟨Rd.nil _ _ _ _ _,Rd.nil _ _ _ _ _⟩
theorem DeepR.set{w:World}{B:Nat}{E:TypeId}{l:List Sr}(h:DeepR w B E l){x:Sr}(h1:Rd w B E encG x.A x.old)(h2:Rd w B E encG x.B x.new)(k:Nat) : DeepR w B E (l.set k x):=by grind [DeepR,Rd,encG]
def cIf(c:Cx) : Option Cx:=if cOk c=true then some c else none
def midC(c:Cx)(r:Rp) : Cx:=⟨c.n,c.gs.take r.pos.toNat++(r.new++(c.gs.drop (r.pos.toNat+r.old.length)++[]))⟩
def fitI(c:Cx)(r:Rp) : Bool:=cOk c&&vrI c.n r&&decide (r.pos+(r.old.length:Int)<=(c.gs.length:Int))&&decide ((c.gs.take (r.pos.toNat+r.old.length)).drop r.pos.toNat=r.old)
def applyI(c:Cx)(r:Rp) : Option Cx:=if fitI c r=true then cIf (midC c r) else none
def fitS(c:Cx)(r:Rp) : Bool:=validS c.n r&&decide (r.pos+(r.old.length:Int)<=(c.gs.length:Int))&&decide ((c.gs.length:Int)-(r.old.length:Int)+(r.new.length:Int)<=400)
def applyS(c:Cx)(r:Rp) : Option Cx:=if fitS c r=true/\(c.gs.take (r.pos.toNat+r.old.length)).drop r.pos.toNat=r.old then some ⟨c.n,c.gs.take r.pos.toNat++r.new++c.gs.drop (r.pos.toNat+r.old.length)⟩ else none
def eqC(c d:Cx) : Bool:=c.n==d.n&&decide (c.gs=d.gs)
def checkLI(i:Nat)(c:Cx)(d:Cx) : List Rp->Int
 | []=>if eqC c d=true then 0 else (i:Int)+1
 | r::l=>if ((applyI c r).isSome&&(implJ c.n r).2&&(implJ c.n r).1)=true then checkLI (i+1) ((applyI c r).getD ⟨0,[]⟩) d l else (i:Int)+1
def checkLS(i:Nat)(c:Cx)(d:Cx) : List Rp->Int
 | []=>if eqC c d=true then 0 else (i:Int)+1
 | r::l=>if ((applyS c r).isSome&&(justS r).1&&(justS r).2)=true then checkLS (i+1) ((applyS c r).getD ⟨0,[]⟩) d l else (i:Int)+1
def checkI(c d:Cx)(l:List Rp) : Int×Bool:=if (cOk c&&decide ((l.length:Int)<=400))=true then (checkLI 0 c d l,true) else (0,false)
def checkS(c d:Cx)(l:List Rp) : Int×Bool:=if (cOk c&&decide ((l.length:Int)<=400))=true then (checkLS 0 c d l,true) else (0,false)
theorem X55{c:Cx}{r:Rp}(hc:cOk c=true) : applyI c r=applyS c r/\∀ c',applyS c r=some c'->cOk c'=true/\c'.n=c.n/\vrI c.n r=true:=by
 obtain ⟨hn,hl,hg⟩:=X10 hc
 unfold applyI applyS fitI fitS
 rw [hc,X3x,Qw]
 by_cases hv:vrI c.n r=true
 ·obtain ⟨_,hl2,ho,hw⟩:=X4z hv
  have hp:0<=r.pos:=by simp only [vrI,Qd,X0b] at hv;omega
  rw [hv,Qw]
  by_cases hle:r.pos+(r.old.length:Int)<=(c.gs.length:Int)
  ·rw [decide_eq_true hle,Qw,Qw]
   by_cases he:(c.gs.take (r.pos.toNat+r.old.length)).drop r.pos.toNat=r.old
   ·rw [decide_eq_true he,Q4 rfl]
    have hlen:(c.gs.take r.pos.toNat++r.new++c.gs.drop (r.pos.toNat+r.old.length)).length=c.gs.length-r.old.length+r.new.length:=by
     simp only [Qh,Qn,List.length_drop];omega
    have hall:∀ g ∈ c.gs.take r.pos.toNat++r.new++c.gs.drop (r.pos.toNat+r.old.length),gOk c.n g=true:=fun g h=>by
     rcases Qu.1 h with h|h
     ·rcases Qu.1 h with h|h
      ·exact hg g (Wd h)
      ·exact hw g h
     ·exact hg g (List.mem_of_mem_drop h)
    have hmid:midC c r=⟨c.n,c.gs.take r.pos.toNat++r.new++c.gs.drop (r.pos.toNat+r.old.length)⟩:=by unfold midC;simp
    by_cases h4:(c.gs.length:Int)-(r.old.length:Int)+(r.new.length:Int)<=400
    ·have hok:cOk (midC c r)=true:=by
      rw [hmid]
      have h5:((c.gs.take r.pos.toNat++r.new++c.gs.drop (r.pos.toNat+r.old.length)).any fun x=>!gOk c.n x)=false:=by
       rw [W7];intro x hx;simp [hall x hx]
      unfold cOk
      simp only
      rw [h5,X0b.2 hn,hlen,decide_eq_true Z];rfl
     rw [cIf,Q4 hok,Q4 ⟨by simpa using h4,he⟩,hmid]
     refine ⟨O,fun c' h=>?_⟩
     injection h with h
     rw [<- h]
     rw [hmid] at hok
     exact ⟨hok,O,O⟩
    ·have hok:¬ cOk (midC c r)=true:=fun h=>by
      obtain ⟨_,h6,_⟩:=X10 h
      rw [hmid] at h6
      simp only at h6
      rw [hlen] at h6
      omega
     rw [cIf,Q3 hok,Q3 (fun h=>h4 (by simpa using h.1))]
     exact ⟨O,fun c' h=>by cases h⟩
   ·rw [decide_eq_false he,Q3 O4,Q3 (fun h=>he h.2)]
    exact ⟨O,fun c' h=>by cases h⟩
  ·rw [decide_eq_false hle]
   exact ⟨O,fun c' h=>by simp at h⟩
 ·have hv':vrI c.n r=false:=by simpa using hv
  rw [hv']
  exact ⟨O,fun c' h=>by simp at h⟩
theorem Xbv(d:Cx) : ∀ (l:List Rp) (i:Nat) (c:Cx),cOk c=true->checkLI i c d l=checkLS i c d l
 | [],_,_,_=>rfl
 | r::l,i,c,hc=>by
  obtain ⟨h1,h2⟩:=X55 (r:=r) hc
  unfold checkLI checkLS
  rw [h1]
  cases ha:applyS c r with
  | none=>rfl
  | some c'=>
   obtain ⟨h3,h4,h5⟩:=h2 c' ha
   have hj:implJ c.n r=justS r:=by rw [Xfv,specJ,X3x,Q4 h5]
   simp only [Option.isSome_some,Qq,Qw]
   rw [hj,Xbv d l (i+1) c' h3,Bool.and_comm]
theorem Xnb(c d:Cx)(l:List Rp) : checkI c d l=checkS c d l:=by
 unfold checkI checkS
 split
 ·rename_i h
  rw [Xbv d l 0 c (by simp only [Qd] at h;exact h.1)]
 ·rfl
structure Sg where (A:Option Addr) (c:Nat) (l:List Gt)
def encSg(s:Sg) : List Value:=[.slice s.A s.l.length s.c]
theorem Xc0:∀ x,(encSg x).length=1:=fun _=>rfl
def growRenG:Go.Shelf.Ren:=⟨fun|4=>125|n=>n,fun|22=>23|25=>59|n=>n,fun|n=>n⟩
theorem Xft:Lays8.n4 Tryz.prog growRenG:={
 mixed:=by kernel_rfl
 f4:=⟨Tryz.f125.name,by decide,Tryz.func125.trans (congrArg some O2)⟩
 t0:=Tryz.underlying0
 a0:=Tryz.isAgg0
 z0:=Tryz.sizeOf0
 v0:=Tryz.zeroValue0
 t3:=Tryz.underlying3
 a3:=Tryz.isAgg3
 z3:=Tryz.sizeOf3
 v3:=Tryz.zeroValue3
 t4:=Tryz.underlying4
 a4:=Tryz.isAgg4
 z4:=Tryz.sizeOf4
 v4:=Tryz.zeroValue4
 t9:=Tryz.underlying9
 a9:=Tryz.isAgg9
 z9:=Tryz.sizeOf9
 v9:=Tryz.zeroValue9
 t20:=Tryz.underlying20
 a20:=Tryz.isAgg20
 z20:=Tryz.sizeOf20
 v20:=Tryz.zeroValue20
 t22:=Tryz.underlying23
 a22:=Tryz.isAgg23
 z22:=Tryz.sizeOf23
 v22:=Tryz.zeroValue23 }
theorem Y1x(w0:World)(n:Nat)(hn:n<=1000000000) : Ret Tryz.prog 125 [.slice none 0 0,.int .i64 (n:Int)] w0 (fun v w=>∃ A c,v=.slice A 0 c/\Own w w0.heap.size 59 3 encG A c ([] : List Gt)/\Below w0.heap.size w0 w):=by
 by_cases h0:n=0
 ·subst h0
  refine Calls.mono (Any8.slices_Grow_room Xft none 0 0 0 w0 Z Z Z Z) fun e w ⟨e1,e2⟩=>⟨_,e1,none,0,O,?_⟩
  subst e2
  exact ⟨Own.nil _ _ _ _ _,Below.refl _ _⟩
 ·obtain ⟨i,z,hi1,hi2,hi3,hi4,hi5,hi6⟩:=Xc
  refine Calls.mono (Any8.slices_Grow_grow Xft i z hi1 hi2 Z none 0 0 n [] w0 Z Z (by rw [hi4];omega) Z O5 (fun _=>rfl) (fun a h=>by cases h)) fun e w ⟨e1,e2⟩=>⟨_,e1,_,_,O,?_⟩
  subst e2
  have hge:=grownCap_ge w0 (0+n) 0 (growRenG.t 25)
  refine ⟨⟨O,.inr ⟨w0.heap.size,_,_,O,Qb _,heap_alloc_new w0.drew _,Qf _,grownCap_le_maxLen w0 _ _ _ (by simp only [maxLen];omega),?_,by simp⟩⟩,((Below.refl _ _).drew).alloc (Qb _) _⟩
  simp only [Array.size_append,List.size_toArray,size_zeroCells,hi5,List.length_nil,Nat.zero_add,Nat.zero_mul] at hge ⊢
  generalize grownCap w0 n 0 (growRenG.t 25)=G at *
  have h9:n-0+(G-n)=G:=by omega
  rw [<- h9,Wb,h9]
theorem X56{n:Int}{r:Rp}(h:(!vrI n r)=false) : r.pos=(r.pos.toNat:Int)/\wr (r.pos+(r.old.length:Int))=((r.pos.toNat+r.old.length:Nat) : Int)/\wr (r.pos+(r.old.length:Int))=r.pos+(r.old.length:Int)/\r.pos.toNat<=400/\r.old.length<=40/\r.new.length<=40:=by
 have h:vrI n r=true:=by revert h;cases vrI n r<;>simp
 obtain ⟨_,hl,_,_⟩:=X4z h
 have hp:0<=r.pos/\r.pos<=400:=by simp only [vrI,Qd,X0b] at h;omega
 have e:wr (r.pos+(r.old.length:Int))=r.pos+(r.old.length:Int):=X11 Z Z
 rw [e]
 refine ⟨by omega,by omega,rfl,by omega,hl.1,hl.2⟩
theorem Xor{m:Nat}{x:Int}(h:decide ((m:Int)<x)=false) : x<=(m:Int):=by simpa using h
theorem Xlx{a b:Bool}{c:Bool}{d:Bool}(h:(!a||!b||c||!d)=false) : a=true/\b=true/\c=false/\d=true:=by grind
abbrev cZ:Cx:=⟨0,[]⟩
theorem Xhm{c:Cx}{r:Rp}(h:((!validS c.n r)||decide ((c.gs.length:Int)<wr (r.pos+(r.old.length:Int)))||decide (400<(c.gs.length:Int)-(r.old.length:Int)+(r.new.length:Int)))=true) : applyS c r=none:=by
 unfold applyS
 rw [Q3]
 rintro ⟨h1,_⟩
 simp only [fitS,Qd,Qr] at h1
 obtain ⟨⟨h2,h3⟩,h4⟩:=h1
 have h5:=X56 (n:=c.n) (r:=r) (by rw [<- X3x,h2];rfl)
 rw [h2,h5.2.2.1] at h
 simp at h
 omega
theorem Xlp{c:Cx}{r:Rp}(h:((!validS c.n r)||decide ((c.gs.length:Int)<wr (r.pos+(r.old.length:Int)))||decide (400<(c.gs.length:Int)-(r.old.length:Int)+(r.new.length:Int)))=false) :
  fitS c r=true/\vrI c.n r=true/\r.pos+(r.old.length:Int)<=(c.gs.length:Int):=by
 simp only [Bool.or_eq_false_iff,Bool.not_eq_false',decide_eq_false_iff_not] at h
 obtain ⟨⟨h1,h2⟩,h3⟩:=h
 have h5:=X56 (n:=c.n) (r:=r) (by rw [<- X3x,h1];rfl)
 rw [h5.2.2.1] at h2
 refine ⟨?_,by rw [<- X3x];exact h1,by omega⟩
 simp only [fitS,h1,Qw,Qd,Qr]
 omega
theorem Xlz{α:Type}{l m:List α}{p k:Nat}{u v:α}(h:(l.drop p).take k=m.take k)(hu:m[k]? = some u)(hv:l[p+k]? = some v)(he:v=u) : (l.drop p).take (k+1)=m.take (k+1):=by
 subst he
 exact X9x h (by rw [List.getElem?_drop];exact hv) hu O
theorem Xly{α:Type}{l m:List α}{p:Nat}(h:(l.drop p).take m.length=m.take m.length) : (l.take (p+m.length)).drop p=m:=by grind
theorem Xto{α:Type}{l m:List α}{p k:Nat}{u v:α}(hu:m[k]? = some u)(hv:l[p+k]? = some v)(hne:¬ v=u) : ¬ (l.take (p+m.length)).drop p=m:=by grind
def midS(c:Cx)(r:Rp) : Cx:=⟨c.n,c.gs.take r.pos.toNat++r.new++c.gs.drop (r.pos.toNat+r.old.length)⟩
theorem Xf9{c:Cx}{r:Rp}(h1:fitS c r=true)(h2:(c.gs.take (r.pos.toNat+r.old.length)).drop r.pos.toNat=r.old) : applyS c r=some (midS c r):=by
 unfold applyS midS
 rw [Q4 ⟨h1,h2⟩]
theorem Xf8{c:Cx}{r:Rp}(h2:¬ (c.gs.take (r.pos.toNat+r.old.length)).drop r.pos.toNat=r.old) : applyS c r=none:=by
 unfold applyS
 rw [Q3 fun h=>h2 h.2]
theorem Xq0{l:List Sr}{k:Nat}{u:Sr}(h:l[k]? = some u) : (l.map Sr.rp).drop k=u.rp::(l.map Sr.rp).drop (k+1):=Xae (by rw [List.getElem?_map,h];rfl)
theorem Xn1{c:Cx}(h:cOk c=true) : c.gs.length<=400:=(X10 h).2.1
instance:DecidableEq Rp:=fun a b=>decidable_of_iff (a.pos=b.pos/\a.old=b.old/\a.new=b.new) (by cases a;cases b;simp)
theorem F93(d:World)(ls:List Sl)(Al:Option Addr)(cl:Nat)(i:Rd d d.heap.size 32 encS Al ls)(z:∀ s ∈ ls,Rd d d.heap.size 3 encI s.A s.l)(bD:ls.length<=1000)(b9:(ls.flatMap Sl.l).length<=1000000000) : Ret Tryz.prog 71 [.slice Al ls.length cl] d (fun v w=>∃ A c,v=.slice A (ls.flatMap Sl.l).length c/\Own w d.heap.size 3 1 encI A c (ls.flatMap Sl.l)/\Below d.heap.size d w):=by
 refine enter Tryz.func71 O 36 O O ?_;intro a b
 have e:=bz d
 refine Zs b fun _ aW=>?_;refine Za O<|Zx aW fun a b _ aX=>?_;refine Za O<|ZX aX fun a b _ aY=>?_;refine Zs b fun _ aZ=>?_;refine Zm O<|Ze (X0o O X1u)<|Zm O<|Zt aZ fun a b=>?_;refine Q8<|X0d (σ:=Nat) (fun (k:Nat) (a:Act) (w:World)=>Fr a 36 [(0,.slice Al ls.length cl),(3,vi (((ls.take k).flatMap Sl.l).length:Int)),(9,.slice Al ls.length cl),(10,vi (ls.length:Int)),(11,vi (k:Int))]/\(k<=ls.length)/\Below d.heap.size d w) (fun (k:Nat)=>ls.length-k) 0 ?_ ?_
 ·exact ⟨b.sb,(Qf _),e⟩
 rintro k a w1 ⟨b,hk,e⟩;refine Zs b fun _ b0=>?_;refine Ze (X16 O O)<|ZX b0 fun a b _ b1=>?_
 refine X12 b O (fun aF b2=>?_) (fun aF b2=>?_)
 ·obtain ⟨m,n⟩:=Xj (l:=ls) (k:=k) Z
  have o:=X4e (f:=Sl.l) n;have aA:=X5y Sl.l ls (k+1)
  rw [o,Qh] at aA
  refine Q7<|b1 _ _<|Q5 fun _ aG=>?_;refine Q8<|Zs b fun _ aH=>?_;refine Zi (k:=k) (u:=m) (enc:=encS) (l:=ls) tv0 O O X1u Xbd X2z (i.bx e) n O ?_;intro bE aB
  have bC:Rd w1 d.heap.size 3 encI m.A m.l:=(z m (Qe n)).bx e
  refine Ze (X0 O X4k aB)<|Za O<|Zx aH fun a b _ aI=>?_;refine Zm O<|Zm O<|Ze (X0o O Xy)<|Ze (X03 O O Z Z)<|Za O<|Zx aI fun a b _ aJ=>?_;refine Zm O<|Ze (X16 O O)<|Zt aJ fun a b=>?_
  refine X12 b O (fun aC h=>?_) (fun aC h=>?_)
  ·exact absurd h Z
  refine Q7<|Xn<|aG _ _<|Zr b ?_;refine Ze (X03 O O Z Z)<|Zm O ?_;refine Zn fun a b=>?_
  have b3:((((ls.take k).flatMap Sl.l).length:Int)+(m.l.length:Int))=(((ls.take (k+1)).flatMap Sl.l).length:Int):=by rw [o,Qh];omega
  rw [b3] at b
  refine Xd ?_;exact ⟨k+1,⟨b.sb,Z,e⟩,Z⟩
 refine Q9<|Xm<|Xm<|X0a ?_;refine aY _ _<|Zs b fun _ aK=>?_;refine Zm O<|Zf (Vc (Y1s _ (((ls.take k).flatMap Sl.l).length) (by have:=X5y Sl.l ls k;omega)) Xx2) ?_;rintro _ w2 ⟨b4,b5,rfl,p,hE⟩;have p:=p.lower e.size;have e:=btr e hE;refine Za O<|ZX aK fun a b _ aL=>?_;refine Zs b fun _ aM=>?_;refine Zm O<|Ze (X0o O X1u)<|Zm O<|Zt aM fun a b=>?_;refine Q8<|X0d (σ:=Nat×(List Int)) (fun (s:Nat×(List Int)) (a:Act) (w:World)=>match s with|(j,l)=>∃ x y,Fr a 36 [(6,.slice x l.length y),(25,.slice Al ls.length cl),(26,vi (ls.length:Int)),(27,vi (j:Int))]/\(j<=ls.length)/\(l=(ls.take j).flatMap Sl.l)/\Own w d.heap.size 3 1 encI x y l/\Below d.heap.size d w) (fun (s:Nat×(List Int))=>match s with|(j,l)=>ls.length-j) (0,[]) ?_ ?_
 ·exact ⟨b4,b5,b.sb,(Qf _),O,p,e⟩
 rintro ⟨j,l⟩ a w3 ⟨x,y,b,hj,hl,q,e⟩;refine Zs b fun _ aN=>?_;refine Ze (X16 O O)<|ZX aN fun a b _ aO=>?_
 refine X12 b O (fun aD aP=>?_) (fun aD aP=>?_)
 ·obtain ⟨g,t⟩:=Xj (l:=ls) (k:=j) Z
  have o:=X4e (f:=Sl.l) t;have aA:=X5y Sl.l ls (j+1)
  rw [o,Qh,<- hl] at aA
  refine Q7<|aO _ _<|Q5 fun _ aQ=>?_;refine Q8<|Zs b fun _ aR=>?_;refine Zi (k:=j) (u:=g) (enc:=encS) (l:=ls) tv0 O O X1u Xbd X2z (i.bx e) t O ?_;intro bF aE
  have aS:Rd w3 d.heap.size 3 encI g.A g.l:=(z g (Qe t)).bx e
  refine Ze (X0 O X4k aE)<|Za O<|Zt aR fun a b=>?_;refine Zr b<|Zm O<|Zm O<|Zf (X0i (enc:=encI) (l:=(l)) (l2:=(g.l)) (B0:=d.heap.size) O O Xy X1a Xt X1x q aS (by simp only [maxLen];omega) Z e.size) ?_;rintro _ w4 ⟨b6,b7,rfl,aT,hg,b8⟩
  have B:Own _ d.heap.size 3 1 encI _ _ (l):=q
  clear b8;have e:=Below.app e B hg (Qb _) e.size;clear B hg;refine Za O ?_;refine Zn fun a b=>?_;refine Xn<|aQ _ _<|Zr b<|Ze (X03 O O Z Z)<|Zm O ?_;refine Zn fun a b=>?_;refine Xd ?_;exact ⟨(j+1,l++g.l),⟨b6,b7,b.sb,Z,(by rw [o,hl]),aT,e⟩,O1⟩
 refine Q9<|Xm<|Xm<|X0a ?_;refine aL _ _<|Zs b fun _ aU=>?_;refine Zm O<|Za O<|Zt aU fun a b=>?_
 refine Q6 (X4 b (Xv b O O) ?_)
 have aV:l=ls.flatMap Sl.l:=by rw [hl];exact X8b _ Z
 rw [<- aV]
 exact ⟨x,y,O,q,e⟩
theorem F47(g:World)(i:Option Addr)(j:Nat)(p:List Int)(aA:Rd g g.heap.size 3 encI i p)(Aq:Option Addr)(cq:Nat)(q:List Int)(aB:Rd g g.heap.size 3 encI Aq q)(aK:p.length<=100000000)(aL:q.length<=100000000) : Ret Tryz.prog 27 [.slice i p.length j,.slice Aq q.length cq] g (fun v w=>∃ A c,v=.slice A (unionI p q).length c/\Own w g.heap.size 3 1 encI A c (unionI p q)/\Below g.heap.size g w):=by
 refine enter Tryz.func27 O 14 O O ?_;intro a hf
 have f:=bz g
 refine Zs hf fun _ aF=>?_;refine Za O<|Zx aF fun a hf _ aG=>?_;refine Zm O<|Zm O<|Zf (X2 (k:=2) (vs:=[.slice i p.length j,.slice Aq q.length cq]) (zs:=[.slice i p.length j,.slice Aq q.length cq]) O X1u X3q O O) ?_;rintro _ w1 ⟨b6,rfl,aH,hE,aC⟩;have aJ:=Q0 f.size aH;have f:=btr f hE;refine Zf (Vc (F93 _ [(⟨i,j,p⟩ : Sl),(⟨Aq,cq,q⟩ : Sl)] (some ⟨b6,0,none⟩) 2 (Rd.of_blk aC O _ aC.lt) (fun s hs=>by rcases Qv.1 hs with rfl|hs;exact (aA.bx f).top;rw [Qm.1 hs];exact (aB.bx f).top) O5 O3) Y15) ?_;rintro _ w2 ⟨A8,c8,rfl,b,hE⟩;have b:=b.lower f.size;have f:=btr f hE;refine Za O<|Zx aG fun a hf _ aI=>?_;refine Zm O<|Zf (Vc (F94 _ g.heap.size A8 c8 (List.flatMap Sl.l [(⟨i,j,p⟩ : Sl),(⟨Aq,cq,q⟩ : Sl)]) b O3) Y16) ?_;rintro _ w3 ⟨d,hg⟩;have e:=b;have f:=Below.app f e hg (Qb _) f.size
 clear e hg;clear b;have b:=d;clear d;refine Zx aI fun a hf _ aD=>?_;refine Zm O<|Zf (Vc (Y2v _ g.heap.size A8 c8 (sortI (List.flatMap Sl.l [(⟨i,j,p⟩ : Sl),(⟨Aq,cq,q⟩ : Sl)])) ((List.flatMap Sl.l [(⟨i,j,p⟩ : Sl),(⟨Aq,cq,q⟩ : Sl)]).length) (by simp [sortI]) b (by simp [sortI];omega)) Y17) ?_;rintro _ w4 ⟨rfl,d,hg⟩;have e:=b;have f:=Below.app f e hg (Qb _) f.size
 clear e hg;clear b;have b:=d;clear d;refine Za O<|Zt aD fun a hf=>?_
 refine Q6 (X4 hf (Xv hf O O) ?_)
 have aE:unionI p q=Lib.compact (sortI (List.flatMap Sl.l [(⟨i,j,p⟩ : Sl),(⟨Aq,cq,q⟩ : Sl)])):=by unfold unionI;congr 2
 rw [aE]
 exact ⟨A8,c8,O,b,f⟩
theorem F96(w0:World)(g:Gt) : Ret Tryz.prog 74 [.agg #[vi g.k,vi g.a,vi g.b]] w0 (fun v w=>∃ A c,v=.slice A (qubI g).length c/\Own w w0.heap.size 3 1 encI A c (qubI g)/\Below w0.heap.size w0 w):=by
 refine enter Tryz.func74 O 19 O O ?_;intro a d
 have f:=bz w0
 refine Zs d fun _ aK=>?_;refine Zf (X0m (zs:=[vi g.k,vi g.a,vi g.b]) O O) ?_;rintro _ w1 ⟨b2,rfl,aL,hE,i⟩;have aS:=Q0 f.size aL;have f:=btr f hE;refine Za O<|ZX aK fun a d _ aM=>?_;refine Q8<|Zs d fun _ aN=>?_;refine Ze (Vd O X0n 0)<|Ze (X0 O X8 (i.at 0))<|Ze (X13 O O)<|Za O<|Zt aN fun a d=>?_
 refine X04 d O (fun aA=>?_) (fun aA=>?_)
 ·have e:qubI g=[]:=by rw [qubI,Q4 (by simpa using aA)]
  refine Zs d fun _ aO=>?_;refine Za O<|Zt aO fun a d=>?_;refine Q6<|Xo<|X5<|X4 d (Xv d O O) ?_
  rw [e]
  exact ⟨none,0,O,(Own.nil _ _ _ _ _),f⟩
 have aD:¬ g.k=12:=by simpa using aA
 refine Zs d fun _ aP=>?_;refine Ze (Vd O X0n 0)<|Ze (X0 O X8 (i.at 0))<|Zf (Vc (F99 _ g.k) Xal) ?_;rintro _ _ ⟨rfl,rfl⟩;refine Za O<|Zt aP fun a d=>?_
 refine X04 d O (fun j=>?_) (fun j=>?_)
 ·have e:qubI g=[g.a,g.b]:=by rw [qubI,Q3 aD,Q4 j]
  refine Zs d fun _ aE=>?_;refine Ze (Vd O X0p 1)<|Ze (X0 O X8 (i.at 1))<|Ze (Vd O X14 2)<|Ze (X0 O X8 (i.at 2))<|Zf (X2 (k:=2) (vs:=[vi g.a,vi g.b]) (zs:=[vi g.a,vi g.b]) O Xy X1a O O) ?_;rintro _ w2 ⟨aQ,rfl,aF,hE,aG⟩;have aB:=Q0 f.size aF;have f:=btr f hE;refine Za O<|Zt aE fun a d=>?_;refine Q6<|Xo<|X5<|X4 d (Xv d O O) ?_
  rw [e]
  exact ⟨(some ⟨aQ,0,none⟩),2,O,(Own.of_blkL Xt aG aB O O O4),f⟩
 have e:qubI g=[g.a]:=by rw [qubI,Q3 aD,Q3 (by rw [j];simp)]
 refine Q7<|Xn<|aM _ _<|Zs d fun _ aH=>?_;refine Ze (Vd O X0p 1)<|Ze (X0 O X8 (i.at 1))<|Zf (X2 (k:=1) (vs:=[vi g.a]) (zs:=[vi g.a]) O Xy X1a O O) ?_;rintro _ w3 ⟨aR,rfl,aI,hE,aJ⟩;have aC:=Q0 f.size aI;have f:=btr f hE;refine Za O<|Zt aH fun a d=>?_
 refine Q6 (X4 d (Xv d O O) ?_)
 rw [e]
 exact ⟨(some ⟨aR,0,none⟩),1,O,(Own.of_blkL Xt aJ aC O O O4),f⟩
theorem F48(j:World)(Al:Option Addr)(cl:Nat)(l:List Gt)(aC:Rd j j.heap.size 59 encG Al l)(b2:l.length<=10000000) : Ret Tryz.prog 28 [.slice Al l.length cl] j (fun v w=>∃ A c,v=.slice A (usedI l).length c/\Own w j.heap.size 3 1 encI A c (usedI l)/\Below j.heap.size j w):=by
 refine enter Tryz.func28 O 20 O O ?_;intro a e
 have g:=bz j
 refine Zs e fun _ aO=>?_;refine Za O<|Zx aO fun a e _ aP=>?_;refine Zf (X2 (k:=0) (vs:=[]) (zs:=[]) O Xy X1a O O) ?_;rintro _ w1 ⟨b5,rfl,aQ,p,aR⟩;have aD:=Q0 g.size aQ;have g:=btr g p;refine Za O<|ZX aP fun a e _ aS=>?_;refine Zs e fun _ aT=>?_;refine Zm O<|Ze (X0o O Xa)<|Zm O<|Zt aT fun a e=>?_;refine Q8<|X0d (σ:=Nat×(List Int)) (fun (s:Nat×(List Int)) (a:Act) (w:World)=>match s with|(k,m)=>∃ A9 c9,Fr a 20 [(3,.slice A9 m.length c9),(7,.slice Al l.length cl),(8,vi (l.length:Int)),(9,vi (k:Int))]/\(k<=l.length)/\(m=(l.take k).flatMap qubI)/\Own w j.heap.size 3 1 encI A9 c9 m/\Below j.heap.size j w) (fun (s:Nat×(List Int))=>match s with|(k,m)=>l.length-k) (0,[]) ?_ ?_
 ·exact ⟨some ⟨b5,0,none⟩,0,e.sb,(Qf _),O,(Own.empty aR aD),g⟩
 rintro ⟨k,m⟩ a w2 ⟨A9,c9,e,hk,hm,i,g⟩;refine Zs e fun _ aE=>?_;refine Ze (X16 O O)<|ZX aE fun a e _ aF=>?_
 refine X12 e O (fun aA aG=>?_) (fun aA aG=>?_)
 ·obtain ⟨d,q⟩:=Xj (l:=l) (k:=k) Z
  have aU:=X4e (f:=qubI) q;have aV:=Xan (l.take k);have b3:=X2e d;have b4:=List.length_take_le k l
  rw [<- hm] at aV
  refine Q7<|aF _ _<|Q5 fun _ aH=>?_;refine Q8<|Zs e fun _ aI=>?_;refine Zi (k:=k) (u:=d) (enc:=encG) (l:=l) tv0 O O Xa X0g X9 (aC.bx g) q O ?_;intro b6 aB;refine Ze (Xx (l:=[vi d.k,vi d.a,vi d.b]) O X01 aB O) ?_;refine ZB [vi d.k,vi d.a,vi d.b] X26 X0g fun b7 w4 aJ p aK=>?_;have aW:=Q0 g.size aJ;have i:=i.bw p;have g:=btr g p;refine Zt aI fun a e=>?_;refine Zr e<|Zm O<|Ze (Vn X01 aK)<|Zf (Vc (F96 _ d) Xfp) ?_;rintro _ w5 ⟨b8,b9,rfl,n,p⟩;have n:=n.lower g.size;have i:=i.bw p;have g:=btr g p;refine Zf (X0i (enc:=encI) (l:=(m)) (l2:=((qubI d))) (B0:=j.heap.size) O O Xy X1a Xt X1x i n.rd (by simp only [maxLen];omega) Z g.size) ?_;rintro _ w6 ⟨aX,aY,rfl,aL,hg,aZ⟩
  have t:Own _ j.heap.size 3 1 encI _ _ (m):=i
  clear aZ;have g:=Below.app g t hg (Qb _) g.size;clear t hg;refine Za O ?_;refine Zn fun a e=>?_;refine Xn<|aH _ _<|Zr e<|Ze (X03 O O Z Z)<|Zm O ?_;refine Zn fun a e=>?_;refine Xd ?_;exact ⟨(k+1,m++qubI d),⟨aX,aY,e.sb,Z,(by rw [aU,hm]),aL,g⟩,O1⟩
 refine Q9<|Xm<|Xm<|X0a ?_;refine aS _ _<|Zs e fun _ aM=>?_;refine Zm O<|Zf (Vc (F47 _ A9 c9 m i.rd.top none 0 ([] : List Int) (Rd.nil _ _ _ _ _) (by have:=Xan (l.take k);have:=List.length_take_le k l;rw [hm];omega) O5) Xje) ?_;rintro _ w7 ⟨b0,b1,rfl,o,p⟩;have o:=o.lower g.size;have g:=btr g p;refine Za O<|Zt aM fun a e=>?_
 refine Q6 (X4 e (Xv e O O) ?_)
 have aN:usedI l=unionI m []:=by rw [usedI,hm,X8b _ (show l.length<=k by omega)]
 rw [aN]
 exact ⟨b0,b1,O,o,g⟩
end Go.Proofs.YtfkokcbjcndjpaaGreatDoor
