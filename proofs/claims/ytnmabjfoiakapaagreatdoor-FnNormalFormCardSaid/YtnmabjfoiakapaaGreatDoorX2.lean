/-
  What is proved: for every drawn matrix and circuit, the normal form, its matrix, its circuit and the count of T bear each other out, in the code as in the reference; a reduced circuit has the operator and no more T than before; the arguments and the variable half read as before. Conditions: none beside the variable's value, which the card ties to the program's text.
-/
import Derived.Test.YtnmabjfoiakapaaGreatDoorX1
import Derived.MapKept
import Derived.Ground.Names2Prog
import Derived.Shelf.Slices.Clone
import Derived.Shelf.Slices.CompactI
import Derived.Shelf.Slices.Cells
import Derived.Test.YtnmabjfoiakapaaGreatDoorProg
import Derived.Shelf.Spec.SlicesGrow
import Derived.Laws.MakeOwn
import Derived.Laws.Slices
set_option linter.unusedVariables false
set_option linter.unusedSimpArgs false
set_option maxRecDepth 4000
set_option linter.unusedSectionVars false
namespace Go.Proofs.YtnmabjfoiakapaaGreatDoor
open Go.RowKit
theorem Y0t(w0:World)(i:Int)(j:Int) : Ret Tryz.prog 139 [vi i,vi j] w0 (fun v w=>v=.tuple #[dV (if i=j then (⟨⟨1,0,0,0⟩,0⟩ : Dy) else dZ),.bool true]∧Below w0.heap.size w0 w):=by
 refine enter Tryz.func139 rfl 11 rfl rfl ?_;intro a f
 have g:=bz w0
 refine Zs f fun _ aC=>?_;refine Zf (X3 (zs:=[vi 0,vi 0,vi 0,vi 0,vi 0]) X0l rfl) ?_;rintro _ w1 ⟨b2,rfl,aD,hE,e⟩;have m:=Q0 g.size aD;have g:=btr g hE;refine Za rfl<|ZX aC fun a f _ aE=>?_;refine Zs f fun _ aF=>?_;refine Zm rfl<|Zm rfl<|Ze (X15 rfl rfl)<|Zt aF fun a f=>?_
 refine Xi f rfl (fun k=>?_) (fun k=>?_)
 ·have aA:=k
  have a9:i=j:=by revert k;simp
  refine Zs f fun _ aG=>?_;refine Zf (Vc (Xj7 _ 1) X8q) ?_;rintro _ w2 ⟨rfl,hE⟩;have e:=e.below hE;have g:=btr g hE;refine Zo (Vw [vi ((⟨⟨1,0,0,0⟩,0⟩ : Dy).num.a),vi ((⟨⟨1,0,0,0⟩,0⟩ : Dy).num.b),vi ((⟨⟨1,0,0,0⟩,0⟩ : Dy).num.c),vi ((⟨⟨1,0,0,0⟩,0⟩ : Dy).num.d),vi ((⟨⟨1,0,0,0⟩,0⟩ : Dy).exp)] Xb e) ?_;rintro _ w3 ⟨ho,hb⟩;have aB:=e;have g:=Below.only g ho m;have e:=hb;refine Za rfl<|Zt aG fun a f=>?_;refine Q6<|X8<|X4 f (X0s f rfl (ResV.cellN (l:=[vi ((⟨⟨1,0,0,0⟩,0⟩ : Dy).num.a),vi ((⟨⟨1,0,0,0⟩,0⟩ : Dy).num.b),vi ((⟨⟨1,0,0,0⟩,0⟩ : Dy).num.c),vi ((⟨⟨1,0,0,0⟩,0⟩ : Dy).num.d),vi ((⟨⟨1,0,0,0⟩,0⟩ : Dy).exp)]) rfl X6 (e.at 0) rfl) rfl) ?_;exact ⟨by rw [Q4 a9],g⟩
 have aA:=k
 have a9:¬ i=j:=by revert k;simp
 refine Q7<|aE _ _<|Zs f fun _ aH=>?_;refine Ze (Xf (ps:=[]) (cs:=[vi 0,vi 0,vi 0,vi 0,vi 0]) rfl (fun _=>by first|rfl|kernel_rfl))<|Zo (Vw [vi 0,vi 0,vi 0,vi 0,vi 0] Xb e) ?_;rintro _ w4 ⟨ho,hb⟩;have aB:=e;have g:=Below.only g ho m;have e:=hb;refine Za rfl<|Zt aH fun a f=>?_
 refine Q6 (X4 f (X0s f rfl (ResV.cellN (l:=[vi 0,vi 0,vi 0,vi 0,vi 0]) rfl X6 (e.at 0) rfl) rfl) ?_)
 exact ⟨by rw [Q3 a9];rfl,g⟩
theorem Xxd(w0:World)(n:Int) : Ret Tryz.prog 86 [vi n] w0 (fun v w=>∃ A c,v=.tuple #[mV A c ((idI n).getD mZ),.bool (idI n).isSome]∧Own w w0.heap.size 86 5 encD A c ((idI n).getD mZ).cells∧Below w0.heap.size w0 w):=by
 refine enter Tryz.func86 rfl 9 rfl rfl ?_;intro a hf
 have e:=bz w0
 refine Zs hf fun _ aB=>?_;refine Zf (X3 (zs:=[vi 0,vi 0,.slice none 0 0]) X0n rfl) ?_;rintro _ w1 ⟨b3,rfl,aC,hE,b⟩;have a9:=Q0 e.size aC;have e:=btr e hE;refine Za rfl<|Zx aB fun a hf _ aD=>?_;refine Zm rfl<|Zm rfl<|Zf (Vc (Xkk _ n n 139 [] Xw5 (fun i j=>some (if i=j then ⟨⟨1,0,0,0⟩,0⟩ else dZ)) (fun i j w' hi hj hE'=>(Y0t w' (i:Int) (j:Int)).mono fun v w'' ⟨h1,h2⟩=>⟨by rw [h1];simp only [Int.natCast_inj];rfl,h2⟩)) Xau) ?_;rintro _ w2 ⟨A5,c5,rfl,d,hE⟩;have d:=d.lower e.size;have b:=b.below hE;have e:=btr e hE;refine Ze (X1 (vs:=[.agg #[vi (((matOf n n (fun i j=>some (if i=j then ⟨⟨1,0,0,0⟩,0⟩ else dZ))).getD mZ).rows),vi (((matOf n n (fun i j=>some (if i=j then ⟨⟨1,0,0,0⟩,0⟩ else dZ))).getD mZ).cols),.slice A5 (((matOf n n (fun i j=>some (if i=j then ⟨⟨1,0,0,0⟩,0⟩ else dZ))).getD mZ).cells).length c5],.bool ((matOf n n (fun i j=>some (if i=j then ⟨⟨1,0,0,0⟩,0⟩ else dZ))).isSome)]) rfl rfl)<|Ze (X1 (vs:=[.agg #[vi (((matOf n n (fun i j=>some (if i=j then ⟨⟨1,0,0,0⟩,0⟩ else dZ))).getD mZ).rows),vi (((matOf n n (fun i j=>some (if i=j then ⟨⟨1,0,0,0⟩,0⟩ else dZ))).getD mZ).cols),.slice A5 (((matOf n n (fun i j=>some (if i=j then ⟨⟨1,0,0,0⟩,0⟩ else dZ))).getD mZ).cells).length c5],.bool ((matOf n n (fun i j=>some (if i=j then ⟨⟨1,0,0,0⟩,0⟩ else dZ))).isSome)]) rfl rfl)<|Zo (Vw [vi (((matOf n n (fun i j=>some (if i=j then ⟨⟨1,0,0,0⟩,0⟩ else dZ))).getD mZ).rows),vi (((matOf n n (fun i j=>some (if i=j then ⟨⟨1,0,0,0⟩,0⟩ else dZ))).getD mZ).cols),.slice A5 (((matOf n n (fun i j=>some (if i=j then ⟨⟨1,0,0,0⟩,0⟩ else dZ))).getD mZ).cells).length c5] Xt b) ?_;rintro _ w3 ⟨ho,hb⟩;have aA:=b;have d:=d.onlyT ho aA rfl;have e:=Below.only e ho a9;have b:=hb;refine Za rfl<|Zt aD fun a hf=>?_
 refine Q6 (X4 hf (X0s hf rfl (ResV.cellN (l:=[vi (((matOf n n (fun i j=>some (if i=j then ⟨⟨1,0,0,0⟩,0⟩ else dZ))).getD mZ).rows),vi (((matOf n n (fun i j=>some (if i=j then ⟨⟨1,0,0,0⟩,0⟩ else dZ))).getD mZ).cols),.slice A5 (((matOf n n (fun i j=>some (if i=j then ⟨⟨1,0,0,0⟩,0⟩ else dZ))).getD mZ).cells).length c5]) rfl Xg (b.at 0) rfl) rfl) ?_)
 exact ⟨A5,c5,rfl,d,e⟩
theorem Y1e(w0:World)(p q:Mx)(Aa Ab:Option Addr)(ca cb:Nat)(ba bb:Nat)(I:Rd w0 w0.heap.size 86 encD Aa p.cells)(J:Rd w0 w0.heap.size 86 encD Ab q.cells)(u:Blk w0 ba 32 [vi p.rows,vi p.cols,.slice Aa p.cells.length ca])(x:Blk w0 bb 32 [vi q.rows,vi q.cols,.slice Ab q.cells.length cb])(bF:mOk p=true)(cK:mOk q=true)(dW:p.cols=q.rows)(i j:Nat)(hi:(i:Int)<p.rows)(hj:(j:Int)<q.cols) : Ret Tryz.prog 167 [vi (i:Int),vi (j:Int),.pointer (some ⟨ba,0,none⟩),.pointer (some ⟨bb,0,none⟩)] w0 (fun v w=>v=.tuple #[dV ((dotI p q i j p.cols.toNat).getD dZ),.bool (dotI p q i j p.cols.toNat).isSome]∧Below w0.heap.size w0 w):=by
 have dX:=X2d bF;have dJ:=u.lt;have dK:=x.lt
 have dY:p.cols=(p.cols.toNat:Int):=by omega
 refine enter Tryz.func167 rfl 48 rfl rfl ?_;intro a t
 have f:=bz w0
 refine Zs t fun _ dL=>?_;refine Zf (X3 (zs:=[vi 0,vi 0,vi 0,vi 0,vi 0]) X0l rfl) ?_;rintro _ w1 ⟨L,rfl,bG,e,g⟩;have b8:=Q0 f.size bG;have dE:=(I.below' f).away bG;have dF:=(J.below' f).away bG;have u:=u.below e;have x:=x.below e;have f:=btr f e;refine Za rfl<|Zx dL fun a t _ dM=>?_;refine Ze (Xf (ps:=[]) (cs:=[vi 0,vi 0,vi 0,vi 0,vi 0]) rfl (fun _=>by first|rfl|kernel_rfl))<|Zf (X3 (zs:=[vi 0,vi 0,vi 0,vi 0,vi 0]) X0l rfl) ?_;rintro _ w2 ⟨b6,rfl,bH,e,o⟩
 have dG:L≠b6:=by have:=g.lt;omega
 have b9:=Q0 f.size bH;have dH:=(I.below' f).away bH;have dI:=(J.below' f).away bH;have u:=u.below e;have x:=x.below e;have g:=g.below e;have f:=btr f e;refine Zo (Vw [vi 0,vi 0,vi 0,vi 0,vi 0] Xb o) ?_;rintro _ w3 ⟨D,hb⟩;have z:=o;have u:=u.only D (Blk.ne u z rfl);have x:=x.only D (Blk.ne x z rfl);have g:=g.only D (by omega);have f:=Below.only f D b9;have o:=hb;refine ZX dM fun a t _ dN=>?_;refine Zs t fun _ dP=>?_;refine Ze (Vd rfl X0w 1)<|Ze (X0 rfl X9 (u.at 1))<|Zm rfl<|Zt dP fun a t=>?_;refine Q8<|X04 (σ:=Nat×Dy) (fun (s:Nat×Dy) (a:Act) (w:World)=>match s with|(k,sum)=>Fr a 48 [(0,vi (i:Int)),(1,vi (j:Int)),(2,.pointer (some ⟨ba,0,none⟩)),(3,.pointer (some ⟨bb,0,none⟩)),(6,.pointer (some ⟨L,0,none⟩)),(8,.pointer (some ⟨b6,0,none⟩)),(16,vi p.cols),(17,vi (k:Int))]∧((k:Int)≤p.cols)∧(dotI p q i j k=some sum)∧Blk w ba 32 [vi p.rows,vi p.cols,.slice Aa p.cells.length ca]∧Blk w bb 32 [vi q.rows,vi q.cols,.slice Ab q.cells.length cb]∧Blk w L 86 [vi 0,vi 0,vi 0,vi 0,vi 0]∧Blk w b6 86 [vi sum.num.a,vi sum.num.b,vi sum.num.c,vi sum.num.d,vi sum.exp]∧Below w0.heap.size w0 w) (fun (s:Nat×Dy)=>match s with|(k,sum)=>(p.cols-k).toNat) (0,dZ) ?_ ?_
 ·exact ⟨t.sb,(by omega),rfl,u,x,g,o,f⟩
 rintro ⟨k,sum⟩ a w4 ⟨t,hk,hs,u,x,g,o,f⟩;refine Zs t fun _ dQ=>?_;refine Ze (X19 rfl rfl)<|ZX dQ fun a t _ cM=>?_
 refine Xi t rfl (fun C=>?_) (fun C=>?_)
 ·have E:=C;have C:=Q2 C
  have cO:(k:Int)<p.cols:=C
  refine Q7<|cM _ _<|Q5 fun _ cP=>?_;refine Q8<|Zs t fun _ cQ=>?_;refine Zm rfl<|Za rfl<|ZX cQ fun a t _ cR=>?_;refine X09 (fun a w=>∃ y,Fr a 48 [(0,vi (i:Int)),(1,vi (j:Int)),(2,.pointer (some ⟨ba,0,none⟩)),(3,.pointer (some ⟨bb,0,none⟩)),(6,.pointer (some ⟨L,0,none⟩)),(8,.pointer (some ⟨b6,0,none⟩)),(10,.pointer (some ⟨y,0,none⟩)),(11,.bool ((dMulI (p.at i k) (q.at k j)).isSome)),(16,vi p.cols),(17,vi (k:Int))]∧w0.heap.size≤y∧Blk w y 86 [vi ((Za5 p q i k k j).num.a),vi ((Za5 p q i k k j).num.b),vi ((Za5 p q i k k j).num.c),vi ((Za5 p q i k k j).num.d),vi ((Za5 p q i k k j).exp)]∧L≠y∧b6≠y∧Below w4.heap.size w4 w) ?_ ?_
  ·have n:Below w4.heap.size w4 w4:=Below.refl _ _
   refine Xy none (fun j=>[13].contains j) mixed ?_;intro w5 e;have u:=u.below e;have x:=x.below e;have g:=g.below e;have o:=o.below e;have f:=btr f e;have n:=btr n e;refine Yb t<|Ye 0 rfl (Xz (l:=[vi p.rows,vi p.cols,.slice Aa p.cells.length ca]) rfl Xg (u.at 0) rfl)<|Yo 1 rfl (fun _=>Xa rfl)<|Yo 2 rfl (fun _=>Xa rfl)<|Ye 4 rfl (Xz (l:=[vi q.rows,vi q.cols,.slice Ab q.cells.length cb]) rfl Xg (x.at 0) rfl)<|Yo 5 rfl (fun _=>Xa rfl)<|Yo 6 rfl (fun _=>Xa rfl) ?_
   have m:Below w5.heap.size w5 w5:=Below.refl _ _
   refine Yc [0,1,2,3,4,5,6,7,8,9,10,11,12] 2 (fun a w=>∃ y,Fr a 48 [(0,vi (i:Int)),(1,vi (j:Int)),(2,.pointer (some ⟨ba,0,none⟩)),(3,.pointer (some ⟨bb,0,none⟩)),(6,.pointer (some ⟨L,0,none⟩)),(8,.pointer (some ⟨b6,0,none⟩)),(10,.pointer (some ⟨y,0,none⟩)),(16,vi p.cols),(17,vi (k:Int)),(30,.agg #[vi ((Za5 p q i k k j).num.a),vi ((Za5 p q i k k j).num.b),vi ((Za5 p q i k k j).num.c),vi ((Za5 p q i k k j).num.d),vi ((Za5 p q i k k j).exp)]),(31,.bool ((dMulI (p.at i k) (q.at k j)).isSome))]∧w0.heap.size≤y∧Blk w y 86 [vi 0,vi 0,vi 0,vi 0,vi 0]∧L≠y∧b6≠y∧w5.heap.size≤y∧w4.heap.size≤y∧AwayR p.cells Aa y∧AwayR q.cells Ab y∧Below w5.heap.size w5 w) ?_ ?_
   ·rintro a w6 ⟨y,t,aB,B,M,N,bI,bJ,cS,cU,e⟩;clear m;have m:=e;have f:=btr f e;have n:=btr n e;refine Yb t<|Y1 13<|Yh rfl trivial rfl (Vw [vi ((Za5 p q i k k j).num.a),vi ((Za5 p q i k k j).num.b),vi ((Za5 p q i k k j).num.c),vi ((Za5 p q i k k j).num.d),vi ((Za5 p q i k k j).exp)] Xb B) ?_;rintro _ w7 ⟨D,hb⟩;have z:=B;have n:=Below.only n D bJ;have m:=Below.only m D bI;have f:=Below.only f D aB;have B:=hb;refine Yo 14 rfl (fun _=>X0q rfl) ?_;refine Yd fun a t=>?_
    have dR:Below w4.heap.size w4 w7:=n
    exact ⟨y,t.sb,aB,B,M,N,dR⟩
   intro bC;refine Yc [0,1,2,3,4,5,6,7,12] 6 (fun a w=>∃ G,Fr a 48 [(0,vi (i:Int)),(1,vi (j:Int)),(2,.pointer (some ⟨ba,0,none⟩)),(3,.pointer (some ⟨bb,0,none⟩)),(6,.pointer (some ⟨L,0,none⟩)),(8,.pointer (some ⟨b6,0,none⟩)),(10,.pointer (some ⟨G,0,none⟩)),(16,vi p.cols),(17,vi (k:Int)),(24,.agg #[vi ((p.at i k).num.a),vi ((p.at i k).num.b),vi ((p.at i k).num.c),vi ((p.at i k).num.d),vi ((p.at i k).exp)]),(28,.agg #[vi ((q.at k j).num.a),vi ((q.at k j).num.b),vi ((q.at k j).num.c),vi ((q.at k j).num.d),vi ((q.at k j).exp)])]∧w0.heap.size≤G∧Blk w G 86 [vi 0,vi 0,vi 0,vi 0,vi 0]∧L≠G∧b6≠G∧w5.heap.size≤G∧w4.heap.size≤G∧AwayR p.cells Aa G∧AwayR q.cells Ab G∧Below w5.heap.size w5 w) ?_ ?_
   ·rintro a w8 ⟨G,t,bK,aD,aE,aF,bL,bM,aG,aH,e⟩;clear m;have m:=e;have f:=btr f e;have n:=btr n e;refine Yb t<|Y1 8<|Yk rfl trivial (Vc (Xbc _ (p.at i k) (q.at k j)) X4w) (fun _ _ ⟨_,e⟩=>e) ?_;rintro _ w9 ⟨rfl,e⟩;have aD:=aD.below e;have f:=btr f e;have n:=btr n e;have m:=btr m e;refine Yo 9 rfl (fun _=>Xa rfl)<|Yo 10 rfl (fun _=>X1 (vs:=[.agg #[vi ((Za5 p q i k k j).num.a),vi ((Za5 p q i k k j).num.b),vi ((Za5 p q i k k j).num.c),vi ((Za5 p q i k k j).num.d),vi ((Za5 p q i k k j).exp)],.bool ((dMulI (p.at i k) (q.at k j)).isSome)]) rfl rfl)<|Yo 11 rfl (fun _=>X1 (vs:=[.agg #[vi ((Za5 p q i k k j).num.a),vi ((Za5 p q i k k j).num.b),vi ((Za5 p q i k k j).num.c),vi ((Za5 p q i k k j).num.d),vi ((Za5 p q i k k j).exp)],.bool ((dMulI (p.at i k) (q.at k j)).isSome)]) rfl rfl) ?_;exact fun a t=>bC _ a _ rfl ⟨G,t.sb,bK,aD,aE,aF,bL,bM,aG,aH,m⟩
   intro bD;refine Yc [0,1,2,3,4,5,6,12] 7 (fun a w=>∃ H,Fr a 48 [(0,vi (i:Int)),(1,vi (j:Int)),(2,.pointer (some ⟨ba,0,none⟩)),(3,.pointer (some ⟨bb,0,none⟩)),(6,.pointer (some ⟨L,0,none⟩)),(8,.pointer (some ⟨b6,0,none⟩)),(10,.pointer (some ⟨H,0,none⟩)),(16,vi p.cols),(17,vi (k:Int)),(24,.agg #[vi ((p.at i k).num.a),vi ((p.at i k).num.b),vi ((p.at i k).num.c),vi ((p.at i k).num.d),vi ((p.at i k).exp)]),(25,.agg #[vi q.rows,vi q.cols,.slice Ab q.cells.length cb]),(26,vi (k:Int)),(27,vi (j:Int))]∧w0.heap.size≤H∧Blk w H 86 [vi 0,vi 0,vi 0,vi 0,vi 0]∧L≠H∧b6≠H∧w5.heap.size≤H∧w4.heap.size≤H∧AwayR p.cells Aa H∧AwayR q.cells Ab H∧Below w5.heap.size w5 w) ?_ ?_
   ·rintro a e8 ⟨H,t,bN,aI,aJ,aK,bO,bP,aL,aM,e⟩;clear m;have m:=e;have f:=btr f e;have n:=btr n e;refine Yb t<|Y1 7<|Yk rfl trivial (Vc (Xfw _ q Ab cb (J.below' f).top k j cK (by omega) hj) X79) (fun _ _ ⟨_,e⟩=>e) ?_;rintro _ eA ⟨rfl,e⟩;have aI:=aI.below e;have f:=btr f e;have n:=btr n e;have m:=btr m e;exact fun a t=>bD _ a _ rfl ⟨H,t.sb,bN,aI,aJ,aK,bO,bP,aL,aM,m⟩
   intro bE;refine Y2 3 12 ?_ ?_
   ·refine Yk rfl trivial (Vc (Xfw _ p Aa ca (I.below' f).top i k bF hi (by omega)) X79) (fun _ _ ⟨_,e⟩=>e) ?_;rintro _ eB ⟨rfl,e⟩;have g:=g.below e;have o:=o.below e;have f:=btr f e;have n:=btr n e;have m:=btr m e;refine Y2 7 12 ?_ ?_
    ·refine Yk rfl trivial (Vc (Xfw _ q Ab cb (J.below' f).top k j cK (by omega) hj) X79) (fun _ _ ⟨_,e⟩=>e) ?_;rintro _ eC ⟨rfl,e⟩;have g:=g.below e;have o:=o.below e;have f:=btr f e;have n:=btr n e;have m:=btr m e;refine Y2 8 12 ?_ ?_
     ·refine Yk rfl trivial (Vc (Xbc _ (p.at i k) (q.at k j)) X4w) (fun _ _ ⟨_,e⟩=>e) ?_;rintro _ eD ⟨rfl,e⟩;have g:=g.below e;have o:=o.below e;have f:=btr f e;have n:=btr n e;have m:=btr m e;refine Yo 9 rfl (fun _=>Xa rfl)<|Yo 10 rfl (fun _=>X1 (vs:=[.agg #[vi ((Za5 p q i k k j).num.a),vi ((Za5 p q i k k j).num.b),vi ((Za5 p q i k k j).num.c),vi ((Za5 p q i k k j).num.d),vi ((Za5 p q i k k j).exp)],.bool ((dMulI (p.at i k) (q.at k j)).isSome)]) rfl rfl)<|Yo 11 rfl (fun _=>X1 (vs:=[.agg #[vi ((Za5 p q i k k j).num.a),vi ((Za5 p q i k k j).num.b),vi ((Za5 p q i k k j).num.c),vi ((Za5 p q i k k j).num.d),vi ((Za5 p q i k k j).exp)],.bool ((dMulI (p.at i k) (q.at k j)).isSome)]) rfl rfl)<|Y1 12 ?_;refine Yk rfl trivial (X3 (zs:=[vi 0,vi 0,vi 0,vi 0,vi 0]) X0l rfl) (fun _ _ ⟨_,_,_,h,_⟩=>h) ?_;rintro _ eE ⟨b21,rfl,Q,e,cV⟩
      have aN:L≠b21:=by have:=g.lt;omega
      have aO:b6≠b21:=by have:=o.lt;omega
      have bQ:=Q0 f.size Q;have bR:=Q0 n.size Q;have bS:=Q0 m.size Q;have aP:=(I.below' f).away Q;have aQ:=(J.below' f).away Q;have f:=btr f e;have n:=btr n e;have m:=btr m e;exact fun a t=>bC _ a _ rfl ⟨b21,t.sb,bQ,cV,aN,aO,bS,bR,aP,aQ,m⟩
     refine Yk rfl trivial (X3 (zs:=[vi 0,vi 0,vi 0,vi 0,vi 0]) X0l rfl) (fun _ _ ⟨_,_,_,h,_⟩=>h) ?_;rintro _ eF ⟨b22,rfl,U,e,cW⟩
     have aR:L≠b22:=by have:=g.lt;omega
     have aS:b6≠b22:=by have:=o.lt;omega
     have bU:=Q0 f.size U;have bW:=Q0 n.size U;have bZ:=Q0 m.size U;have aT:=(I.below' f).away U;have aU:=(J.below' f).away U;have f:=btr f e;have n:=btr n e;have m:=btr m e;exact fun a t=>bD _ a _ rfl ⟨b22,t.sb,bU,cW,aR,aS,bZ,bW,aT,aU,m⟩
    refine Yk rfl trivial (X3 (zs:=[vi 0,vi 0,vi 0,vi 0,vi 0]) X0l rfl) (fun _ _ ⟨_,_,_,h,_⟩=>h) ?_;rintro _ eH ⟨b23,rfl,W,e,cX⟩
    have aW:L≠b23:=by have:=g.lt;omega
    have aX:b6≠b23:=by have:=o.lt;omega
    have cA:=Q0 f.size W;have cB:=Q0 n.size W;have cC:=Q0 m.size W;have aY:=(I.below' f).away W;have aZ:=(J.below' f).away W;have f:=btr f e;have n:=btr n e;have m:=btr m e;exact fun a t=>bE _ a _ rfl ⟨b23,t.sb,cA,cX,aW,aX,cC,cB,aY,aZ,m⟩
   refine Yk rfl trivial (X3 (zs:=[vi 0,vi 0,vi 0,vi 0,vi 0]) X0l rfl) (fun _ _ ⟨_,_,_,h,_⟩=>h) ?_;rintro _ eI ⟨b24,rfl,a9,e,b0⟩
   have b1:L≠b24:=by have:=g.lt;omega
   have b2:b6≠b24:=by have:=o.lt;omega
   have cD:=Q0 f.size a9;have cE:=Q0 n.size a9;have cF:=Q0 m.size a9;have b3:=(I.below' f).away a9;have b5:=(J.below' f).away a9;have f:=btr f e;have n:=btr n e;have m:=btr m e;refine Y1 3<|Yk rfl trivial (Vc (Xfw _ p Aa ca (I.below' f).top i k bF hi (by omega)) X79) (fun _ _ ⟨_,e⟩=>e) ?_;rintro _ eJ ⟨rfl,e⟩;have b0:=b0.below e;have f:=btr f e;have n:=btr n e;have m:=btr m e;exact fun a t=>bE _ a _ rfl ⟨b24,t.sb,cD,b0,b1,b2,cF,cE,b3,b5,m⟩
  rintro a eK ⟨y,t,aB,B,M,N,e⟩;have u:=u.below e;have x:=x.below e;have g:=g.below e;have o:=o.below e;have f:=btr f e;refine cR _ _<|Zs t fun _ d5=>?_;refine Ze (Vn X6 o)<|Ze (Vn X6 B)<|Zf (Vc (Xnu _ sum (Za5 p q i k k j)) Xcp) ?_;rintro _ eL ⟨rfl,e⟩;have u:=u.below e;have x:=x.below e;have g:=g.below e;have o:=o.below e;have B:=B.below e;have f:=btr f e;refine Zm rfl<|Ze (X1 (vs:=[.agg #[vi (((dAddI sum (Za5 p q i k k j)).getD dZ).num.a),vi (((dAddI sum (Za5 p q i k k j)).getD dZ).num.b),vi (((dAddI sum (Za5 p q i k k j)).getD dZ).num.c),vi (((dAddI sum (Za5 p q i k k j)).getD dZ).num.d),vi (((dAddI sum (Za5 p q i k k j)).getD dZ).exp)],.bool ((dAddI sum (Za5 p q i k k j)).isSome)]) rfl rfl)<|Ze (X1 (vs:=[.agg #[vi (((dAddI sum (Za5 p q i k k j)).getD dZ).num.a),vi (((dAddI sum (Za5 p q i k k j)).getD dZ).num.b),vi (((dAddI sum (Za5 p q i k k j)).getD dZ).num.c),vi (((dAddI sum (Za5 p q i k k j)).getD dZ).num.d),vi (((dAddI sum (Za5 p q i k k j)).getD dZ).exp)],.bool ((dAddI sum (Za5 p q i k k j)).isSome)]) rfl rfl)<|Zf (X3 (zs:=[vi 0,vi 0,vi 0,vi 0,vi 0]) X0l rfl) ?_;rintro _ eM ⟨b26,rfl,b7,e,aC⟩
  have d6:L≠b26:=by have:=g.lt;omega
  have d7:b6≠b26:=by have:=o.lt;omega
  have cJ:y≠b26:=by have:=B.lt;omega
  have cG:=Q0 f.size b7;have d8:=(I.below' f).away b7;have d9:=(J.below' f).away b7;have u:=u.below e;have x:=x.below e;have g:=g.below e;have o:=o.below e;have f:=btr f e;refine Zo (Vw [vi (((dAddI sum (Za5 p q i k k j)).getD dZ).num.a),vi (((dAddI sum (Za5 p q i k k j)).getD dZ).num.b),vi (((dAddI sum (Za5 p q i k k j)).getD dZ).num.c),vi (((dAddI sum (Za5 p q i k k j)).getD dZ).num.d),vi (((dAddI sum (Za5 p q i k k j)).getD dZ).exp)] Xb aC) ?_;rintro _ dS ⟨D,hb⟩;have z:=aC;have u:=u.only D (Blk.ne u z rfl);have x:=x.only D (Blk.ne x z rfl);have g:=g.only D (by omega);have o:=o.only D (by omega);have f:=Below.only f D cG;have aC:=hb;refine Za rfl<|ZX d5 fun a t _ dA=>?_;refine Q5 fun _ dB=>?_;refine X09 (fun a w=>Fr a 48 [(0,vi (i:Int)),(1,vi (j:Int)),(2,.pointer (some ⟨ba,0,none⟩)),(3,.pointer (some ⟨bb,0,none⟩)),(6,.pointer (some ⟨L,0,none⟩)),(8,.pointer (some ⟨b6,0,none⟩)),(12,.pointer (some ⟨b26,0,none⟩)),(16,vi p.cols),(17,vi (k:Int)),(43,.bool ((!((dMulI (p.at i k) (q.at k j)).isSome))||(!((dAddI sum (Za5 p q i k k j)).isSome))))]∧dS=w) ?_ ?_
  ·refine Zr t<|Zm rfl<|Ze (X0p rfl)<|Zm rfl ?_
   refine Zg 40 rfl (fun A=>?_) (fun A=>?_)
   ·refine Zp (gP A) ?_;refine Zp (gP A) ?_;refine Ze (Xh rfl A rfl) ?_;refine Zn fun a t=>?_;exact ⟨t.sub ⟨rfl,rfl,rfl,rfl,rfl,rfl,rfl,rfl,rfl,X2 rfl (by first|rfl|(simp only [E,A,bs];done)|simp [E,A]),trivial⟩,rfl⟩
   refine Zv (gW A) (Xa rfl) ?_;refine Zv (gW A) (X0p rfl) ?_;refine Ze (Xd rfl A rfl) ?_;refine Zn fun a t=>?_;exact ⟨t.sub ⟨rfl,rfl,rfl,rfl,rfl,rfl,rfl,rfl,rfl,X2 rfl (by first|rfl|(simp only [E,A,bs];done)|simp [E,A]),trivial⟩,rfl⟩
  rintro a _ ⟨t,rfl⟩;refine dB _ _ ?_
  refine Xi t rfl (fun aA=>?_) (fun aA=>?_)
  ·have cH:=aA;have hn:=X5a aA
   have dT:dotI p q i j (k+1)=none:=by rw [dotI,hs];simp only [Qz];revert hn;unfold Za5;cases dMulI (p.at i k) (q.at k j)<;>simp
   have dU:=X6z dT p.cols.toNat (by omega)
   refine Zs t fun _ dC=>?_;refine Ze (Xf (ps:=[]) (cs:=[vi 0,vi 0,vi 0,vi 0,vi 0]) rfl (fun _=>by first|rfl|kernel_rfl))<|Zo (Vw [vi 0,vi 0,vi 0,vi 0,vi 0] Xb g) ?_;rintro _ eO ⟨D,hb⟩;have z:=g;have f:=Below.only f D b8;have g:=hb;refine Za rfl<|Zt dC fun a t=>?_;refine Q6<|X8<|X00<|X8 ?_;refine X8<|X00<|X8<|X4 t (X0s t rfl (ResV.cellN (l:=[vi 0,vi 0,vi 0,vi 0,vi 0]) rfl X6 (g.at 0) rfl) rfl) ?_;exact ⟨by rw [dU];rfl,f⟩
  have cH:=aA;have hy:=X69 aA;refine Q7<|dA _ _<|Zr t<|Ze (Vn X6 aC)<|Zo (Vw [vi (((dAddI sum (Za5 p q i k k j)).getD dZ).num.a),vi (((dAddI sum (Za5 p q i k k j)).getD dZ).num.b),vi (((dAddI sum (Za5 p q i k k j)).getD dZ).num.c),vi (((dAddI sum (Za5 p q i k k j)).getD dZ).num.d),vi (((dAddI sum (Za5 p q i k k j)).getD dZ).exp)] Xb o) ?_;rintro _ eP ⟨D,hb⟩;have z:=o;have u:=u.only D (Blk.ne u z rfl);have x:=x.only D (Blk.ne x z rfl);have g:=g.only D (by omega);have f:=Below.only f D b9;have o:=hb;refine Zn fun a t=>?_;refine Xk<|cP _ _<|Zr t<|Ze (X02 rfl rfl (by omega) (by omega))<|Zm rfl ?_;refine Zn fun a t=>?_;refine Xn ?_;exact ⟨(k+1,((dAddI sum (Za5 p q i k k j)).getD dZ)),⟨t.sb,(by omega),(by rw [dotI,hs];simp only [Qz];revert hy;unfold Za5;cases dMulI (p.at i k) (q.at k j)<;>simp;intro hy;revert hy;cases dAddI sum _<;>simp),u,x,g,o,f⟩,(by first|omega|(dsimp only;omega))⟩
 have E:=C;have C:=Q1 C
 have cO:k=p.cols.toNat:=by omega
 refine Q9<|Xm<|Xm<|X06 ?_;refine dN _ _<|Zs t fun _ dD=>?_;refine Ze (Vn X6 o)<|Zo (Vw [vi sum.num.a,vi sum.num.b,vi sum.num.c,vi sum.num.d,vi sum.exp] Xb g) ?_;rintro _ eQ ⟨D,hb⟩;have z:=g;have f:=Below.only f D b8;have g:=hb;refine Za rfl<|Zt dD fun a t=>?_
 refine Q6 (X4 t (X0s t rfl (ResV.cellN (l:=[vi sum.num.a,vi sum.num.b,vi sum.num.c,vi sum.num.d,vi sum.exp]) rfl X6 (g.at 0) rfl) rfl) ?_)
 exact ⟨by rw [← cO,hs];rfl,f⟩
theorem Xk4(h:World)(p:Mx)(Ap:Option Addr)(cp:Nat)(B:Rd h h.heap.size 86 encD Ap p.cells)(q:Mx)(Aq:Option Addr)(cq:Nat)(C:Rd h h.heap.size 86 encD Aq q.cells)(aG:p.cells.length≤2305843009213693951)(aH:q.cells.length≤2305843009213693951) : Ret Tryz.prog 121 [.agg #[vi p.rows,vi p.cols,.slice Ap p.cells.length cp],.agg #[vi q.rows,vi q.cols,.slice Aq q.cells.length cq]] h (fun v w=>∃ A c,v=.tuple #[mV A c ((mulI p q).getD mZ),.bool (mulI p q).isSome]∧Own w h.heap.size 86 5 encD A c ((mulI p q).getD mZ).cells∧Below h.heap.size h w):=by
 refine enter Tryz.func121 rfl 30 rfl rfl ?_;intro a n
 have f:=bz h
 refine Zs n fun _ aI=>?_;refine Zf (X0b (zs:=[vi p.rows,vi p.cols,.slice Ap p.cells.length cp]) rfl rfl) ?_;rintro _ w1 ⟨b4,rfl,aJ,k,e⟩;have aP:=Q0 f.size aJ;have f:=btr f k;refine Zf (X0b (zs:=[vi q.rows,vi q.cols,.slice Aq q.cells.length cq]) rfl rfl) ?_;rintro _ w2 ⟨b5,rfl,aK,k,g⟩
 have aD:b4≠b5:=by have:=e.lt;omega
 have aQ:=Q0 f.size aK;have e:=e.below k;have f:=btr f k;refine Zf (X3 (zs:=[vi 0,vi 0,.slice none 0 0]) X0n rfl) ?_;rintro _ w3 ⟨b7,rfl,aL,k,m⟩
 have aE:b4≠b7:=by have:=e.lt;omega
 have aF:b5≠b7:=by have:=g.lt;omega
 have D:=Q0 f.size aL;have e:=e.below k;have g:=g.below k;have f:=btr f k;refine Za rfl<|ZX aI fun a n _ aM=>?_;refine Q5 fun _ aN=>?_;refine X09 (fun a w=>Fr a 30 [(2,.pointer (some ⟨b4,0,none⟩)),(3,.pointer (some ⟨b5,0,none⟩)),(4,.pointer (some ⟨b7,0,none⟩)),(20,.bool (((!(mOk p))||(!(mOk q)))||(p.cols != q.rows)))]∧Below w3.heap.size w3 w) ?_ ?_
 ·have u:Below w3.heap.size w3 w3:=Below.refl _ _
  refine Zr n<|Ze (Vn Xg e)<|Zf (Vc (Xcz _ p Ap cp (B.below' f).top aG) X5i) ?_;rintro _ w4 ⟨rfl,k⟩;have e:=e.below k;have g:=g.below k;have f:=btr f k;have u:=btr u k;refine Ze (X0p rfl)<|Zm rfl ?_
  refine Zg 9 rfl (fun d=>?_) (fun d=>?_)
  ·refine Zp (gP d) ?_;refine Zp (gP d) ?_;refine Zp (gP d) ?_;refine Ze (Xh rfl d rfl)<|Zm rfl<|Zp (gP rfl) ?_;refine Zp (gP rfl) ?_;refine Zp (gP rfl) ?_;refine Zp (gP rfl) ?_;refine Zp (gP rfl) ?_;refine Ze (Xh rfl rfl rfl) ?_;refine Zn fun a n=>?_
   have x:Below w3.heap.size w3 w4:=u
   exact ⟨n.sub ⟨rfl,rfl,rfl,X2 rfl (by first|rfl|(simp only [d,bs];done)|simp [d]),trivial⟩,x⟩
  refine Zv (gW d) (Vn Xg g) ?_;refine Zk (gW d) (Vc (Xcz _ q Aq cq (C.below' f).top aH) X5i) ?_;rintro _ w5 ⟨rfl,k⟩;have e:=e.below k;have g:=g.below k;have f:=btr f k;have u:=btr u k;refine Zv (gW d) (X0p rfl) ?_;refine Ze (Xd rfl d rfl)<|Zm rfl ?_
  refine Zg 14 rfl (fun b=>?_) (fun b=>?_)
  ·refine Zp (gP b) ?_;refine Zp (gP b) ?_;refine Zp (gP b) ?_;refine Zp (gP b) ?_;refine Zp (gP b) ?_;refine Ze (Xh rfl b rfl) ?_;refine Zn fun a n=>?_
   have x:Below w3.heap.size w3 w5:=u
   exact ⟨n.sub ⟨rfl,rfl,rfl,X2 rfl (by first|rfl|(simp only [d,b,bs];done)|simp [d,b]),trivial⟩,x⟩
  refine Zv (gW b) (Vd rfl X0w 1) ?_;refine Zv (gW b) (X0 rfl X9 (e.at 1)) ?_;refine Zv (gW b) (Vd rfl X13 0) ?_;refine Zv (gW b) (X0 rfl X9 (g.at 0)) ?_;refine Zv (gW b) (X3w rfl rfl) ?_;refine Ze (Xd rfl b rfl) ?_;refine Zn fun a n=>?_
  have x:Below w3.heap.size w3 w5:=u
  exact ⟨n.sub ⟨rfl,rfl,rfl,X2 rfl (by first|rfl|(simp only [d,b,bs];done)|simp [d,b]),trivial⟩,x⟩
 rintro a w6 ⟨n,k⟩;have e:=e.below k;have g:=g.below k;have m:=m.below k;have f:=btr f k;refine aN _ _ ?_
 refine Xi n rfl (fun o=>?_) (fun o=>?_)
 ·have a9:=o
  have hn:(mOk p&&mOk q&&p.cols==q.rows)=false:=by revert o;cases mOk p<;>cases mOk q<;>simp
  refine Zs n fun _ aB=>?_;refine Ze (Xf (ps:=[]) (cs:=[vi 0,vi 0,.slice none 0 0]) rfl (fun _=>by first|rfl|kernel_rfl))<|Zo (Vw [vi 0,vi 0,.slice none 0 0] Xt m) ?_;rintro _ w7 ⟨ho,hb⟩;have E:=m;have f:=Below.only f ho D;have m:=hb;refine Za rfl<|Zt aB fun a n=>?_;refine Q6<|X8<|X4 n (X0s n rfl (ResV.cellN (l:=[vi 0,vi 0,.slice none 0 0]) rfl Xg (m.at 0) rfl) rfl) ?_;exact ⟨none,0,by rw [mulI,hn];rfl,by rw [mulI,hn];exact (Own.nil _ _ _ _ _),f⟩
 have a9:=o
 have hy:(mOk p&&mOk q&&p.cols==q.rows)=true:=by revert o;cases mOk p<;>cases mOk q<;>simp
 have aA:=Xzq hy
 have aO:p.cols=q.rows:=by simpa using aA.2.2
 refine Q7<|aM _ _<|Zs n fun _ aC=>?_;refine Ze (Vd rfl X13 0)<|Ze (X0 rfl X9 (e.at 0))<|Ze (Vd rfl X0w 1)<|Ze (X0 rfl X9 (g.at 1))<|Ze (X4b (vs:=[.pointer (some ⟨b4,0,none⟩),.pointer (some ⟨b5,0,none⟩)]) rfl)<|Zf (Vc (Xkk _ p.rows q.cols 167 [.pointer (some ⟨b4,0,none⟩),.pointer (some ⟨b5,0,none⟩)] Xtn (fun i j=>dotI p q i j p.cols.toNat) (fun i j w' hi hj hE'=>Y1e w' p q _ _ _ _ _ _ ((B.below' f).below hE').top ((C.below' f).below hE').top (e.below hE') (g.below hE') aA.1 aA.2.1 aO i j hi hj)) Xau) ?_;rintro _ w8 ⟨y,z,rfl,t,k⟩;have t:=t.lower f.size;have m:=m.below k;have f:=btr f k;refine Ze (X1 (vs:=[.agg #[vi (((matOf p.rows q.cols (fun i j=>dotI p q i j p.cols.toNat)).getD mZ).rows),vi (((matOf p.rows q.cols (fun i j=>dotI p q i j p.cols.toNat)).getD mZ).cols),.slice y (((matOf p.rows q.cols (fun i j=>dotI p q i j p.cols.toNat)).getD mZ).cells).length z],.bool ((matOf p.rows q.cols (fun i j=>dotI p q i j p.cols.toNat)).isSome)]) rfl rfl)<|Ze (X1 (vs:=[.agg #[vi (((matOf p.rows q.cols (fun i j=>dotI p q i j p.cols.toNat)).getD mZ).rows),vi (((matOf p.rows q.cols (fun i j=>dotI p q i j p.cols.toNat)).getD mZ).cols),.slice y (((matOf p.rows q.cols (fun i j=>dotI p q i j p.cols.toNat)).getD mZ).cells).length z],.bool ((matOf p.rows q.cols (fun i j=>dotI p q i j p.cols.toNat)).isSome)]) rfl rfl)<|Zo (Vw [vi (((matOf p.rows q.cols (fun i j=>dotI p q i j p.cols.toNat)).getD mZ).rows),vi (((matOf p.rows q.cols (fun i j=>dotI p q i j p.cols.toNat)).getD mZ).cols),.slice y (((matOf p.rows q.cols (fun i j=>dotI p q i j p.cols.toNat)).getD mZ).cells).length z] Xt m) ?_;rintro _ w9 ⟨ho,hb⟩;have E:=m;have t:=t.onlyT ho E rfl;have f:=Below.only f ho D;have m:=hb;refine Za rfl<|Zt aC fun a n=>?_
 refine Q6 (X4 n (X0s n rfl (ResV.cellN (l:=[vi (((matOf p.rows q.cols (fun i j=>dotI p q i j p.cols.toNat)).getD mZ).rows),vi (((matOf p.rows q.cols (fun i j=>dotI p q i j p.cols.toNat)).getD mZ).cols),.slice y (((matOf p.rows q.cols (fun i j=>dotI p q i j p.cols.toNat)).getD mZ).cells).length z]) rfl Xg (m.at 0) rfl) rfl) ?_)
 exact ⟨y,z,by rw [mulI,Q4 hy],by rw [mulI,Q4 hy];exact t,f⟩
theorem Y1a(n:World)(p:Mx)(x:Dy)(Aa:Option Addr)(ca:Nat)(ba bb:Nat)(a9:Rd n n.heap.size 86 encD Aa p.cells)(m:Blk n ba 32 [vi p.rows,vi p.cols,.slice Aa p.cells.length ca])(g:Blk n bb 86 (encD x))(aE:mOk p=true)(i j:Nat)(hi:(i:Int)<p.rows)(hj:(j:Int)<p.cols) : Ret Tryz.prog 93 [vi (i:Int),vi (j:Int),.pointer (some ⟨ba,0,none⟩),.pointer (some ⟨bb,0,none⟩)] n (fun v w=>v=.tuple #[dV ((dMulI (p.at i j) x).getD dZ),.bool (dMulI (p.at i j) x).isSome]∧Below n.heap.size n w):=by
 have aF:=m.lt;have aG:=g.lt
 unfold encD at g
 refine enter Tryz.func93 rfl 16 rfl rfl ?_;intro a hf
 have k:=bz n
 refine Zs hf fun _ aH=>?_;refine Zf (X3 (zs:=[vi 0,vi 0,vi 0,vi 0,vi 0]) X0l rfl) ?_;rintro _ w1 ⟨b3,rfl,aA,f,e⟩
 have aC:bb≠b3:=by have:=g.lt;omega
 have aB:=Q0 k.size aA;have aD:=(a9.below' k).away aA;have m:=m.below f;have g:=g.below f;have k:=btr k f;refine Za rfl<|ZX aH fun a hf _ aI=>?_;refine Xy none (fun j=>[8].contains j) mixed ?_;intro w2 f;have m:=m.below f;have g:=g.below f;have e:=e.below f;have k:=btr k f;refine Yb hf<|Ye 0 rfl (Xz (l:=[vi p.rows,vi p.cols,.slice Aa p.cells.length ca]) rfl Xg (m.at 0) rfl)<|Yo 1 rfl (fun _=>Xa rfl)<|Yo 2 rfl (fun _=>Xa rfl)<|Ye 4 rfl (Xz (l:=[vi x.num.a,vi x.num.b,vi x.num.c,vi x.num.d,vi x.exp]) rfl X6 (g.at 0) rfl)<|Y1 3 ?_;refine Yk rfl trivial (Vc (Xfw _ p Aa ca (a9.below' k).top i j aE hi hj) X79) (fun _ _ ⟨_,f⟩=>f) ?_;rintro _ w3 ⟨rfl,f⟩;have e:=e.below f;have k:=btr k f;refine Y1 5<|Yk rfl trivial (Vc (Xbc _ (p.at i j) x) X4w) (fun _ _ ⟨_,f⟩=>f) ?_;rintro _ w4 ⟨rfl,f⟩;have e:=e.below f;have k:=btr k f;refine Yo 6 rfl (fun _=>X1 (vs:=[.agg #[vi (((dMulI (p.at i j) x).getD dZ).num.a),vi (((dMulI (p.at i j) x).getD dZ).num.b),vi (((dMulI (p.at i j) x).getD dZ).num.c),vi (((dMulI (p.at i j) x).getD dZ).num.d),vi (((dMulI (p.at i j) x).getD dZ).exp)],.bool ((dMulI (p.at i j) x).isSome)]) rfl rfl)<|Yo 7 rfl (fun _=>X1 (vs:=[.agg #[vi (((dMulI (p.at i j) x).getD dZ).num.a),vi (((dMulI (p.at i j) x).getD dZ).num.b),vi (((dMulI (p.at i j) x).getD dZ).num.c),vi (((dMulI (p.at i j) x).getD dZ).num.d),vi (((dMulI (p.at i j) x).getD dZ).exp)],.bool ((dMulI (p.at i j) x).isSome)]) rfl rfl)<|Y1 8 ?_;refine Yh rfl trivial rfl (Vw [vi (((dMulI (p.at i j) x).getD dZ).num.a),vi (((dMulI (p.at i j) x).getD dZ).num.b),vi (((dMulI (p.at i j) x).getD dZ).num.c),vi (((dMulI (p.at i j) x).getD dZ).num.d),vi (((dMulI (p.at i j) x).getD dZ).exp)] Xb e) ?_;rintro _ w5 ⟨ho,hb⟩
 have aJ:=e;have k:=Below.only k ho aB;have e:=hb;refine Yo 9 rfl (fun _=>X0q rfl) ?_;refine Yd fun a hf=>?_;refine aI _ _ ?_
 refine Q6 (X4 hf (X0s hf rfl (ResV.cellN (l:=[vi (((dMulI (p.at i j) x).getD dZ).num.a),vi (((dMulI (p.at i j) x).getD dZ).num.b),vi (((dMulI (p.at i j) x).getD dZ).num.c),vi (((dMulI (p.at i j) x).getD dZ).num.d),vi (((dMulI (p.at i j) x).getD dZ).exp)]) rfl X6 (e.at 0) rfl) rfl) ?_)
 exact ⟨rfl,k⟩
theorem Xv0(w0:World)(p:Mx)(Ap:Option Addr)(cp:Nat)(y:Rd w0 w0.heap.size 86 encD Ap p.cells)(x:Dy)(aH:p.cells.length≤2305843009213693951) : Ret Tryz.prog 48 [.agg #[vi p.rows,vi p.cols,.slice Ap p.cells.length cp],.agg #[vi x.num.a,vi x.num.b,vi x.num.c,vi x.num.d,vi x.exp]] w0 (fun v w=>∃ A c,v=.tuple #[mV A c ((scaleI p x).getD mZ),.bool (scaleI p x).isSome]∧Own w w0.heap.size 86 5 encD A c ((scaleI p x).getD mZ).cells∧Below w0.heap.size w0 w):=by
 refine enter Tryz.func48 rfl 23 rfl rfl ?_;intro a q
 have e:=bz w0
 refine Zs q fun _ aI=>?_;refine Zf (X0b (zs:=[vi p.rows,vi p.cols,.slice Ap p.cells.length cp]) rfl rfl) ?_;rintro _ w1 ⟨b3,rfl,aJ,k,m⟩;have aO:=Q0 e.size aJ;have e:=btr e k;refine Zf (X0b (zs:=[vi x.num.a,vi x.num.b,vi x.num.c,vi x.num.d,vi x.exp]) rfl rfl) ?_;rintro _ w2 ⟨b4,rfl,aB,k,o⟩;have aP:=Q0 e.size aB;have aF:=(y.below' e).away aB;have m:=m.below k;have e:=btr e k;refine Zf (X3 (zs:=[vi 0,vi 0,.slice none 0 0]) X0n rfl) ?_;rintro _ w3 ⟨b6,rfl,aK,k,g⟩
 have aG:b3≠b6:=by have:=m.lt;omega
 have B:=Q0 e.size aK;have m:=m.below k;have o:=o.below k;have e:=btr e k;refine Za rfl<|ZX aI fun a q _ aL=>?_;refine Q5 fun _ aM=>?_;refine X09 (fun a w=>Fr a 23 [(2,.pointer (some ⟨b3,0,none⟩)),(3,.pointer (some ⟨b4,0,none⟩)),(4,.pointer (some ⟨b6,0,none⟩)),(13,.bool ((!(mOk p))||(!(dOk x))))]∧Below w3.heap.size w3 w) ?_ ?_
 ·have u:Below w3.heap.size w3 w3:=Below.refl _ _
  refine Zr q<|Ze (Vn Xg m)<|Zf (Vc (Xcz _ p Ap cp (y.below' e).top aH) X5i) ?_;rintro _ w4 ⟨rfl,k⟩;have o:=o.below k;have e:=btr e k;have u:=btr u k;refine Ze (X0p rfl)<|Zm rfl ?_
  refine Zg 9 rfl (fun f=>?_) (fun f=>?_)
  ·refine Zp (gP f) ?_;refine Zp (gP f) ?_;refine Zp (gP f) ?_;refine Ze (Xh rfl f rfl) ?_;refine Zn fun a q=>?_
   have a9:Below w3.heap.size w3 w4:=u
   exact ⟨q.sub ⟨rfl,rfl,rfl,X2 rfl (by first|rfl|(simp only [f,bs];done)|simp [f]),trivial⟩,a9⟩
  refine Zv (gW f) (Vn X6 o) ?_;refine Zk (gW f) (Vc (Xbi _ x) X4z) ?_;rintro _ w5 ⟨rfl,k⟩;have e:=btr e k;have u:=btr u k;refine Zv (gW f) (X0p rfl) ?_;refine Ze (Xd rfl f rfl) ?_;refine Zn fun a q=>?_
  have a9:Below w3.heap.size w3 w5:=u
  exact ⟨q.sub ⟨rfl,rfl,rfl,X2 rfl (by first|rfl|(simp only [f,bs];done)|simp [f]),trivial⟩,a9⟩
 rintro a w6 ⟨q,k⟩;have m:=m.below k;have o:=o.below k;have g:=g.below k;have e:=btr e k;refine aM _ _ ?_
 refine Xi q rfl (fun t=>?_) (fun t=>?_)
 ·have aA:=t
  have hn:(mOk p&&dOk x)=false:=by revert t;cases mOk p<;>cases dOk x<;>simp
  refine Zs q fun _ aC=>?_;refine Ze (Xf (ps:=[]) (cs:=[vi 0,vi 0,.slice none 0 0]) rfl (fun _=>by first|rfl|kernel_rfl))<|Zo (Vw [vi 0,vi 0,.slice none 0 0] Xt g) ?_;rintro _ w7 ⟨ho,hb⟩;have C:=g;have e:=Below.only e ho B;have g:=hb;refine Za rfl<|Zt aC fun a q=>?_;refine Q6<|X8<|X4 q (X0s q rfl (ResV.cellN (l:=[vi 0,vi 0,.slice none 0 0]) rfl Xg (g.at 0) rfl) rfl) ?_;exact ⟨none,0,by rw [scaleI,hn];rfl,by rw [scaleI,hn];exact (Own.nil _ _ _ _ _),e⟩
 have aA:=t
 have hy:(mOk p&&dOk x)=true:=by revert t;cases mOk p<;>cases dOk x<;>simp
 have aN:=(Qd _ _▸hy:mOk p=true∧dOk x=true);refine Q7<|aL _ _<|Zs q fun _ aD=>?_;refine Ze (Vd rfl X13 0)<|Ze (X0 rfl X9 (m.at 0))<|Ze (Vd rfl X0w 1)<|Ze (X0 rfl X9 (m.at 1))<|Ze (X4b (vs:=[.pointer (some ⟨b3,0,none⟩),.pointer (some ⟨b4,0,none⟩)]) rfl)<|Zf (Vc (Xkk _ p.rows p.cols 93 [.pointer (some ⟨b3,0,none⟩),.pointer (some ⟨b4,0,none⟩)] Xwe (fun i j=>dMulI (p.at i j) x) (fun i j w' hi hj hE'=>Y1a w' p x _ _ _ _ ((y.below' e).below hE').top (m.below hE') (o.below hE') aN.1 i j hi hj)) Xau) ?_;rintro _ w8 ⟨z,h,rfl,n,k⟩;have aE:=n.awayNew o.lt;have n:=n.lower e.size;have g:=g.below k;have e:=btr e k;refine Ze (X1 (vs:=[.agg #[vi (((matOf p.rows p.cols (fun i j=>dMulI (p.at i j) x)).getD mZ).rows),vi (((matOf p.rows p.cols (fun i j=>dMulI (p.at i j) x)).getD mZ).cols),.slice z (((matOf p.rows p.cols (fun i j=>dMulI (p.at i j) x)).getD mZ).cells).length h],.bool ((matOf p.rows p.cols (fun i j=>dMulI (p.at i j) x)).isSome)]) rfl rfl)<|Ze (X1 (vs:=[.agg #[vi (((matOf p.rows p.cols (fun i j=>dMulI (p.at i j) x)).getD mZ).rows),vi (((matOf p.rows p.cols (fun i j=>dMulI (p.at i j) x)).getD mZ).cols),.slice z (((matOf p.rows p.cols (fun i j=>dMulI (p.at i j) x)).getD mZ).cells).length h],.bool ((matOf p.rows p.cols (fun i j=>dMulI (p.at i j) x)).isSome)]) rfl rfl)<|Zo (Vw [vi (((matOf p.rows p.cols (fun i j=>dMulI (p.at i j) x)).getD mZ).rows),vi (((matOf p.rows p.cols (fun i j=>dMulI (p.at i j) x)).getD mZ).cols),.slice z (((matOf p.rows p.cols (fun i j=>dMulI (p.at i j) x)).getD mZ).cells).length h] Xt g) ?_;rintro _ w9 ⟨ho,hb⟩;have C:=g;have n:=n.onlyT ho C rfl;have e:=Below.only e ho B;have g:=hb;refine Za rfl<|Zt aD fun a q=>?_
 refine Q6 (X4 q (X0s q rfl (ResV.cellN (l:=[vi (((matOf p.rows p.cols (fun i j=>dMulI (p.at i j) x)).getD mZ).rows),vi (((matOf p.rows p.cols (fun i j=>dMulI (p.at i j) x)).getD mZ).cols),.slice z (((matOf p.rows p.cols (fun i j=>dMulI (p.at i j) x)).getD mZ).cells).length h]) rfl Xg (g.at 0) rfl) rfl) ?_)
 exact ⟨z,h,by rw [scaleI,Q4 hy],by rw [scaleI,Q4 hy];exact n,e⟩
theorem Xtw(o:World)(Ap:Option Addr)(cp:Nat)(p:List Dy)(aE:Rd o o.heap.size 86 encD Ap p)(Aq:Option Addr)(cq:Nat)(q:List Dy)(aF:Rd o o.heap.size 86 encD Aq q)(aW:p.length≤2305843009213693951) : Ret Tryz.prog 78 [.slice Ap p.length cp,.slice Aq q.length cq] o (fun v w=>v=.bool (decide (p=q))∧Below o.heap.size o w):=by
 refine enter Tryz.func78 rfl 26 rfl rfl ?_;intro a e
 have t:=bz o
 refine Zs e fun _ aO=>?_;refine Za rfl<|ZX aO fun a e _ aP=>?_;refine Zs e fun _ aQ=>?_;refine Zm rfl<|Ze (X22 rfl Xs)<|Zm rfl<|Ze (X22 rfl Xs)<|Ze (X3w rfl rfl)<|Zt aQ fun a e=>?_
 refine Xi e rfl (fun j=>?_) (fun j=>?_)
 ·have aG:=j
  have a9:¬ p=q:=by intro h9;rw [h9] at j;simp at j
  refine Zs e fun _ aR=>?_;refine Za rfl<|Zt aR fun a e=>?_;refine Q6<|X8<|X4 e (Xp e rfl rfl) ?_;exact ⟨by simp [a9],t⟩
 have aG:=j
 have aX:p.length=q.length:=by have h9:(p.length:Int)=q.length:=(by simpa using j);omega
 refine Q7<|aP _ _<|Q5 fun _ aS=>?_;refine Zs e fun _ aT=>?_;refine Zm rfl<|Ze (X22 rfl Xs)<|Zm rfl<|Zt aT fun a e=>?_;refine Q8<|X04 (σ:=Nat) (fun (k:Nat) (a:Act) (w:World)=>Fr a 26 [(0,.slice Ap p.length cp),(1,.slice Aq q.length cq),(12,vi (p.length:Int)),(13,vi (k:Int))]∧(k≤p.length)∧(p.take k=q.take k)∧Below o.heap.size o w) (fun (k:Nat)=>p.length-k) 0 ?_ ?_
 ·exact ⟨e.sb,(Qf _),(by simp),t⟩
 rintro k a w1 ⟨e,hk,m,t⟩;refine Zs e fun _ aH=>?_;refine Ze (X19 rfl rfl)<|ZX aH fun a e _ aI=>?_
 refine Xi e rfl (fun f=>?_) (fun f=>?_)
 ·have aA:=f;have f:=Q2 f
  obtain ⟨g,n⟩:=Xr (l:=p) (k:=k) (by omega)
  obtain ⟨v9,x⟩:=Xr (l:=q) (k:=k) (by omega)
  refine Q7<|aI _ _<|Q5 fun _ aJ=>?_;refine Q8<|Zs e fun _ aK=>?_;refine Zm rfl<|Za rfl<|ZX aK fun a e _ aL=>?_;refine Xy none (fun _=>false) mixed ?_;intro w2 hE;have t:=btr t hE;refine Yb e<|Yo 0 rfl (fun _=>Xa rfl)<|Yo 1 rfl (fun _=>Xa rfl)<|Yi (k:=k) (u:=g) (enc:=encD) (l:=p) 2 rfl trivial rfl rfl Xs Xb Xw (aE.below' t) n rfl ?_;intro aY aB;refine Ye 3 rfl (Xz (l:=[vi g.num.a,vi g.num.b,vi g.num.c,vi g.num.d,vi g.exp]) rfl X6 aB rfl)<|Yo 4 rfl (fun _=>Xa rfl)<|Yo 5 rfl (fun _=>Xa rfl)<|Yi (k:=k) (u:=v9) (enc:=encD) (l:=q) 6 rfl trivial rfl rfl Xs Xb Xw (aF.below' t) x rfl ?_;intro aZ aC;refine Ye 7 rfl (Xz (l:=[vi v9.num.a,vi v9.num.b,vi v9.num.c,vi v9.num.d,vi v9.exp]) rfl X6 aC rfl)<|Yo 8 rfl (fun _=>Xaq rfl rfl X8m (fun w=>eqD 9997 g v9 w)) ?_;refine Yd fun a e=>?_;refine aL _ _ ?_
  refine Xi e rfl (fun i=>?_) (fun i=>?_)
  ·have aD:=i
   have a9:¬ p=q:=by rintro rfl;rw [n] at x;injection x with e9;revert i;simp [e9]
   refine Zs e fun _ aM=>?_;refine Za rfl<|Zt aM fun a e=>?_;refine Q6<|X00<|X8<|X8 ?_;refine X00<|X8<|X4 e (Xp e rfl rfl) ?_;exact ⟨by simp [a9],t⟩
  have aD:=i
  have aU:g=v9:=by revert i;simp
  refine Q7<|Xk<|aJ _ _<|Zr e ?_;refine Ze (X02 rfl rfl (by omega) (by omega))<|Zm rfl ?_;refine Zn fun a e=>?_;refine Xn ?_;exact ⟨k+1,⟨e.sb,(by omega),(X9h m n x aU),t⟩,(by omega)⟩
 have aA:=f;have f:=Q1 f;refine Q9<|Xm<|Xm<|X06 ?_;refine aS _ _<|Zs e fun _ aN=>?_;refine Za rfl<|Zt aN fun a e=>?_
 refine Q6 (X4 e (Xp e rfl rfl) ?_)
 have he:p=q:=by rw [Qi (by omega),Qi (by omega)] at m;exact m
 exact ⟨by simp [he],t⟩
theorem Xxb(k:World)(p:Mx)(Ap:Option Addr)(cp:Nat)(aA:Rd k k.heap.size 86 encD Ap p.cells)(q:Mx)(Aq:Option Addr)(cq:Nat)(aB:Rd k k.heap.size 86 encD Aq q.cells)(aJ:p.cells.length≤2305843009213693951) : Ret Tryz.prog 80 [.agg #[vi p.rows,vi p.cols,.slice Ap p.cells.length cp],.agg #[vi q.rows,vi q.cols,.slice Aq q.cells.length cq]] k (fun v w=>v=.bool (decide (p.rows=q.rows)&&decide (p.cols=q.cols)&&decide (p.cells=q.cells))∧Below k.heap.size k w):=by
 refine enter Tryz.func80 rfl 24 rfl rfl ?_;intro a f
 have d:=bz k
 refine Zs f fun _ aD=>?_;refine Zf (X0b (zs:=[vi p.rows,vi p.cols,.slice Ap p.cells.length cp]) rfl rfl) ?_;rintro _ w1 ⟨b4,rfl,aE,j,e⟩;have aH:=Q0 d.size aE;have d:=btr d j;refine Zf (X0b (zs:=[vi q.rows,vi q.cols,.slice Aq q.cells.length cq]) rfl rfl) ?_;rintro _ w2 ⟨b5,rfl,aF,j,a9⟩
 have aC:b4≠b5:=by have:=e.lt;omega
 have aI:=Q0 d.size aF;have e:=e.below j;have d:=btr d j;refine Za rfl<|ZX aD fun a f _ aG=>?_;refine X09 (fun a w=>Fr a 24 [(4,.bool (((p.rows==q.rows)&&(p.cols==q.cols))&&(decide (p.cells=q.cells))))]∧Below w2.heap.size w2 w) ?_ ?_
 ·have g:Below w2.heap.size w2 w2:=Below.refl _ _
  refine Zr f<|Ze (Vd rfl X13 0)<|Ze (X0 rfl X9 (e.at 0))<|Ze (Vd rfl X13 0)<|Ze (X0 rfl X9 (a9.at 0))<|Ze (X15 rfl rfl)<|Zm rfl ?_
  refine Zg 10 rfl (fun b=>?_) (fun b=>?_)
  ·refine Zv (gW b) (Vd rfl X0w 1) ?_;refine Zv (gW b) (X0 rfl X9 (e.at 1)) ?_;refine Zv (gW b) (Vd rfl X0w 1) ?_;refine Zv (gW b) (X0 rfl X9 (a9.at 1)) ?_;refine Zv (gW b) (X15 rfl rfl) ?_;refine Ze (Xh rfl b rfl)<|Zm rfl ?_
   refine Zg 17 rfl (fun c=>?_) (fun c=>?_)
   ·refine Zv (gW c) (Vd rfl X0m 2) ?_;refine Zv (gW c) (X0 rfl X0c (e.at 2)) ?_;refine Zv (gW c) (Vd rfl X0m 2) ?_;refine Zv (gW c) (X0 rfl X0c (a9.at 2)) ?_;refine Zk (gW c) (Vc (Xtw _ Ap cp p.cells (aA.below' d).top Aq cq q.cells (aB.below' d).top (by assumption)) Xft) ?_;rintro _ w3 ⟨rfl,j⟩;have d:=btr d j;have g:=btr g j;refine Ze (Xh rfl c rfl)<|Za rfl ?_;refine Zn fun a f=>?_
    have i:Below w2.heap.size w2 w3:=g
    exact ⟨f.sub ⟨X2 rfl (by first|rfl|(simp only [b,c,bs];done)|simp [b,c]),trivial⟩,i⟩
   refine Zp (gP c) ?_;refine Zp (gP c) ?_;refine Zp (gP c) ?_;refine Zp (gP c) ?_;refine Zp (gP c) ?_;refine Ze (Xd rfl c rfl)<|Za rfl ?_;refine Zn fun a f=>?_
   have i:Below w2.heap.size w2 w2:=g
   exact ⟨f.sub ⟨X2 rfl (by first|rfl|(simp only [b,c,bs];done)|simp [b,c]),trivial⟩,i⟩
  refine Zp (gP b) ?_;refine Zp (gP b) ?_;refine Zp (gP b) ?_;refine Zp (gP b) ?_;refine Zp (gP b) ?_;refine Ze (Xd rfl b rfl)<|Zm rfl<|Zp (gP rfl) ?_;refine Zp (gP rfl) ?_;refine Zp (gP rfl) ?_;refine Zp (gP rfl) ?_;refine Zp (gP rfl) ?_;refine Ze (Xd rfl rfl rfl)<|Za rfl ?_;refine Zn fun a f=>?_
  have i:Below w2.heap.size w2 w2:=g
  exact ⟨f.sub ⟨X2 rfl (by first|rfl|(simp only [b,bs];done)|simp [b]),trivial⟩,i⟩
 rintro a w4 ⟨f,j⟩;have d:=btr d j;refine aG _ _ ?_
 refine Q6 (X4 f (Xp f rfl rfl) ?_)
 exact ⟨rfl,d⟩
theorem Xz5(w0:World)(n:Int)(x:Gt) : Ret Tryz.prog 138 [vi n,.agg #[vi x.k,vi x.a,vi x.b]] w0 (fun v w=>v=.bool (gOk n x)∧Below w0.heap.size w0 w):=by
 refine enter Tryz.func138 rfl 60 rfl rfl ?_;intro a i
 have hW:=bz w0
 refine Zs i fun _ aE=>?_;refine Zf (X0b (zs:=[vi x.k,vi x.a,vi x.b]) rfl rfl) ?_;rintro _ w1 ⟨b2,rfl,aF,hE,o⟩;have aL:=Q0 hW.size aF;have hW:=btr hW hE;refine Za rfl<|ZX aE fun a i _ aG=>?_;refine Q8<|Q5 fun _ aH=>?_;refine X09 (fun a w=>Fr a 60 [(0,vi n),(3,.pointer (some ⟨b2,0,none⟩)),(5,.bool ((!(inR n 1 5))||(!(inR x.k 1 12))))]∧w1=w) ?_ ?_
 ·refine Zr i<|Zm rfl<|Zf (Vc (F91 _ n 1 5) X4e) ?_;rintro _ _ ⟨rfl,rfl⟩;refine Ze (X0p rfl)<|Zm rfl ?_
  refine Zg 9 rfl (fun m=>?_) (fun m=>?_)
  ·refine Zp (gP m) ?_;refine Zp (gP m) ?_;refine Zp (gP m) ?_;refine Zp (gP m) ?_;refine Ze (Xh rfl m rfl)<|Za rfl ?_;refine Zn fun a i=>?_;exact ⟨i.sub ⟨rfl,rfl,X2 rfl (by first|rfl|(simp only [m,bs];done)|simp [m]),trivial⟩,rfl⟩
  refine Zv (gW m) (Vd rfl X1t 0) ?_;refine Zv (gW m) (X0 rfl X9 (o.at 0)) ?_;refine Zk (gW m) (Vc (F91 _ x.k 1 12) X4e) ?_;rintro _ _ ⟨rfl,rfl⟩;refine Zv (gW m) (X0p rfl) ?_;refine Ze (Xd rfl m rfl)<|Za rfl ?_;refine Zn fun a i=>?_;exact ⟨i.sub ⟨rfl,rfl,X2 rfl (by first|rfl|(simp only [m,bs];done)|simp [m]),trivial⟩,rfl⟩
 rintro a _ ⟨i,rfl⟩;refine aH _ _ ?_
 refine Xi i rfl (fun q=>?_) (fun q=>?_)
 ·have e:=q;have hn:=X5a q;refine Zs i fun _ aI=>?_;refine Za rfl<|Zt aI fun a i=>?_;refine Q6<|X00<|X8<|X4 i (Xp i rfl rfl) ?_;exact ⟨by rw [gOk,hn];rfl,hW⟩
 have e:=q;have hy:=X69 q;have aJ:=(Qd _ _▸hy:inR n 1 5=true∧inR x.k 1 12=true);have aM:=X0a.1 aJ.1;refine Zs i fun _ aK=>?_;refine Ze (Vd rfl X1t 0)<|Ze (X0 rfl X9 (o.at 0))<|Ze (X15 rfl rfl)<|Za rfl<|Zt aK fun a i=>?_
 refine Xi i rfl (fun t=>?_) (fun t=>?_)
 ·have f:=t
  have hk:x.k=12:=by simpa using t
  refine Q5 fun _ aA=>?_;refine X09 (fun a w=>Fr a 60 [(4,.bool ((x.a==0)&&(x.b==0)))]∧w1=w) ?_ ?_
  ·refine Zr i<|Ze (Vd rfl X18 1)<|Ze (X0 rfl X9 (o.at 1))<|Ze (X15 rfl rfl)<|Zm rfl ?_
   refine Zg 22 rfl (fun j=>?_) (fun j=>?_)
   ·refine Zv (gW j) (Vd rfl X1s 2) ?_;refine Zv (gW j) (X0 rfl X9 (o.at 2)) ?_;refine Zv (gW j) (X15 rfl rfl) ?_;refine Ze (Xh rfl j rfl)<|Za rfl ?_;refine Zn fun a i=>?_;exact ⟨i.sub ⟨X2 rfl (by first|rfl|(simp only [e,f,j,bs];done)|simp [e,f,j]),trivial⟩,rfl⟩
   refine Zp (gP j) ?_;refine Zp (gP j) ?_;refine Zp (gP j) ?_;refine Ze (Xd rfl j rfl)<|Za rfl ?_;refine Zn fun a i=>?_;exact ⟨i.sub ⟨X2 rfl (by first|rfl|(simp only [e,f,j,bs];done)|simp [e,f,j]),trivial⟩,rfl⟩
  rintro a _ ⟨i,rfl⟩;refine aA _ _<|Q6<|X00<|X8 ?_;refine X4 i (Xp i rfl rfl) ?_;exact ⟨by rw [gOk,hy,Q4 hk,Qw],hW⟩
 have f:=t
 have hk:¬ x.k=12:=by simpa using t
 refine Zs i fun _ aB=>?_;refine Ze (Vd rfl X1t 0)<|Ze (X0 rfl X9 (o.at 0))<|Zf (Vc (F99 _ x.k) Xsr) ?_;rintro _ _ ⟨rfl,rfl⟩;refine Za rfl<|Zt aB fun a i=>?_
 refine Xi i rfl (fun p=>?_) (fun p=>?_)
 ·have g:=p;have a9:=p;refine Q5 fun _ aC=>?_;refine X09 (fun a w=>Fr a 60 [(4,.bool (((inR x.a 0 (n-1))&&(inR x.b 0 (n-1)))&&(x.a != x.b)))]∧w1=w) ?_ ?_
  ·refine Zr i<|Ze (Vd rfl X18 1)<|Ze (X0 rfl X9 (o.at 1))<|Zm rfl<|Ze (X1j rfl rfl (by omega) (by omega))<|Zf (Vc (F91 _ x.a 0 (n-1)) X4e) ?_;rintro _ _ ⟨rfl,rfl⟩;refine Zm rfl ?_
   refine Zg 36 rfl (fun c=>?_) (fun c=>?_)
   ·refine Zv (gW c) (Vd rfl X1s 2) ?_;refine Zv (gW c) (X0 rfl X9 (o.at 2)) ?_;refine Zv (gW c) (Xa rfl) ?_;refine Zv (gW c) (X1j rfl rfl (by omega) (by omega)) ?_;refine Zk (gW c) (Vc (F91 _ x.b 0 (n-1)) X4e) ?_;rintro _ _ ⟨rfl,rfl⟩;refine Ze (Xh rfl c rfl)<|Zm rfl ?_
    refine Zg 43 rfl (fun d=>?_) (fun d=>?_)
    ·refine Zv (gW d) (Vd rfl X18 1) ?_;refine Zv (gW d) (X0 rfl X9 (o.at 1)) ?_;refine Zv (gW d) (Vd rfl X1s 2) ?_;refine Zv (gW d) (X0 rfl X9 (o.at 2)) ?_;refine Zv (gW d) (X3w rfl rfl) ?_;refine Ze (Xh rfl d rfl)<|Za rfl ?_;refine Zn fun a i=>?_;exact ⟨i.sub ⟨X2 rfl (by first|rfl|(simp only [e,f,g,c,d,bs];done)|simp [e,f,g,c,d]),trivial⟩,rfl⟩
    refine Zp (gP d) ?_;refine Zp (gP d) ?_;refine Zp (gP d) ?_;refine Zp (gP d) ?_;refine Zp (gP d) ?_;refine Ze (Xd rfl d rfl)<|Za rfl ?_;refine Zn fun a i=>?_;exact ⟨i.sub ⟨X2 rfl (by first|rfl|(simp only [e,f,g,c,d,bs];done)|simp [e,f,g,c,d]),trivial⟩,rfl⟩
   refine Zp (gP c) ?_;refine Zp (gP c) ?_;refine Zp (gP c) ?_;refine Zp (gP c) ?_;refine Zp (gP c) ?_;refine Ze (Xd rfl c rfl)<|Zm rfl<|Zp (gP rfl) ?_;refine Zp (gP rfl) ?_;refine Zp (gP rfl) ?_;refine Zp (gP rfl) ?_;refine Zp (gP rfl) ?_;refine Ze (Xd rfl rfl rfl)<|Za rfl ?_;refine Zn fun a i=>?_;exact ⟨i.sub ⟨X2 rfl (by first|rfl|(simp only [e,f,g,c,bs];done)|simp [e,f,g,c]),trivial⟩,rfl⟩
  rintro a _ ⟨i,rfl⟩;refine aC _ _<|Q6<|X00<|X8 ?_;refine X4 i (Xp i rfl rfl) ?_;exact ⟨by rw [gOk,hy,Q3 hk,Q4 a9,Qw],hW⟩
 have g:=p
 have a9:¬ inR x.k 9 11=true:=by rw [p];simp
 refine Q7<|Xk<|aG _ _<|Q5 fun _ aD=>?_;refine X09 (fun a w=>Fr a 60 [(4,.bool ((inR x.a 0 (n-1))&&(x.b==0)))]∧w1=w) ?_ ?_
 ·refine Zr i<|Ze (Vd rfl X18 1)<|Ze (X0 rfl X9 (o.at 1))<|Zm rfl<|Ze (X1j rfl rfl (by omega) (by omega))<|Zf (Vc (F91 _ x.a 0 (n-1)) X4e) ?_;rintro _ _ ⟨rfl,rfl⟩;refine Zm rfl ?_
  refine Zg 55 rfl (fun l=>?_) (fun l=>?_)
  ·refine Zv (gW l) (Vd rfl X1s 2) ?_;refine Zv (gW l) (X0 rfl X9 (o.at 2)) ?_;refine Zv (gW l) (X15 rfl rfl) ?_;refine Ze (Xh rfl l rfl)<|Za rfl ?_;refine Zn fun a i=>?_;exact ⟨i.sub ⟨X2 rfl (by first|rfl|(simp only [e,f,g,l,bs];done)|simp [e,f,g,l]),trivial⟩,rfl⟩
  refine Zp (gP l) ?_;refine Zp (gP l) ?_;refine Zp (gP l) ?_;refine Ze (Xd rfl l rfl)<|Za rfl ?_;refine Zn fun a i=>?_;exact ⟨i.sub ⟨X2 rfl (by first|rfl|(simp only [e,f,g,l,bs];done)|simp [e,f,g,l]),trivial⟩,rfl⟩
 rintro a _ ⟨i,rfl⟩;refine aD _ _ ?_
 refine Q6 (X4 i (Xp i rfl rfl) ?_)
 exact ⟨by rw [gOk,hy,Q3 hk,Q3 a9,Qw],hW⟩
theorem Y00(f:World)(Al:Option Addr)(cl:Nat)(l:List Gt)(aD:Rd f f.heap.size 90 encG Al l)(kq:FuncId)(pq:List Value)(Fq:FuncF Tryz.prog kq)(q:Gt→Bool)(hq:∀ x w,Below f.heap.size f w→Ret Tryz.prog kq ([gV x]++pq) w (fun v w'=>v=.bool (q x)∧Below w.heap.size w w'))(aQ:l.length≤2305843009213693951) : Ret Tryz.prog 174 [.slice Al l.length cl,.func (.func kq) #[] pq.toArray] f (fun v w=>∃ i:Int,v=vi i∧decide (0≤i)=l.any q∧Below f.heap.size f w):=by
 refine enter Tryz.func174 rfl 19 rfl rfl ?_;intro a c
 have j:=bz f
 refine Zs c fun _ aJ=>?_;refine Za rfl<|ZX aJ fun a c _ aK=>?_;refine Zs c fun _ aL=>?_;refine Zm rfl<|Ze (X22 rfl X17)<|Zm rfl<|Zt aL fun a c=>?_;refine Q8<|X04 (σ:=Nat) (fun (k:Nat) (a:Act) (w:World)=>Fr a 19 [(0,.slice Al l.length cl),(1,.func (.func kq) #[] pq.toArray),(7,vi (l.length:Int)),(8,vi (k:Int))]∧(k≤l.length)∧((l.take k).all (fun x=>!q x)=true)∧Below f.heap.size f w) (fun (k:Nat)=>l.length+1-k) 0 ?_ ?_
 ·exact ⟨c.sb,(Qf _),(by simp),j⟩
 rintro k a w1 ⟨c,hk,m,j⟩;refine Zs c fun _ aM=>?_;refine Ze (X19 rfl rfl)<|ZX aM fun a c _ aN=>?_
 refine Xi c rfl (fun e=>?_) (fun e=>?_)
 ·have aE:=e;have e:=Q2 e
  obtain ⟨g,a9⟩:=Xr (l:=l) (k:=k) (by omega)
  refine Q7<|aN _ _<|Q5 fun _ aO=>?_;refine Q8<|Zs c fun _ aF=>?_;refine Zm rfl<|Za rfl<|Zx aF fun a c _ aG=>?_;refine Zm rfl<|Zm rfl<|Zm rfl<|Zi (k:=k) (u:=g) (enc:=encG) (l:=l) trivial rfl rfl X17 X39 X10 (aD.below' j) a9 rfl ?_;intro aR aA;refine Ze (Xz (l:=[vi g.k,vi g.a,vi g.b]) rfl X2f aA rfl)<|Zf (X6h (cs:=pq) (vs:=[.agg #[vi g.k,vi g.a,vi g.b]]) rfl rfl Fq (hq g _ j)) ?_;rintro _ w2 ⟨rfl,hE⟩;have j:=btr j hE;refine Zt aG fun a c=>?_
  refine Xi c rfl (fun d=>?_) (fun d=>?_)
  ·have aB:=d
   have aC:l.any q=true:=X5f a9 d
   refine Zs c fun _ aH=>?_;refine Zm rfl<|Za rfl<|Zt aH fun a c=>?_;refine Q6<|X00<|X8<|X8 ?_;refine X00<|X8<|X4 c (Xp c rfl rfl) ?_;exact ⟨_,rfl,by rw [aC];simp,j⟩
  have aB:=d
  have aP:(!q g)=true:=by revert d;cases q g<;>simp
  refine Q7<|Xk<|aO _ _<|Zr c ?_;refine Ze (X02 rfl rfl (by omega) (by omega))<|Zm rfl ?_;refine Zn fun a c=>?_;refine Xn ?_;exact ⟨k+1,⟨c.sb,(by omega),(X3p m a9 aP),j⟩,(by omega)⟩
 have aE:=e;have e:=Q1 e;refine Q9<|Xm<|Xm<|X06 ?_;refine aK _ _<|Zs c fun _ aI=>?_;refine Za rfl<|Zt aI fun a c=>?_
 refine Q6 (X4 c (Xp c rfl rfl) ?_)
 have aC:l.any q=false:=X4c (X3e m (by omega))
 exact ⟨_,rfl,by rw [aC];rfl,j⟩
theorem Y03(b:World)(Al:Option Addr)(cl:Nat)(l:List Gt)(a9:Rd b b.heap.size 90 encG Al l)(kq:FuncId)(pq:List Value)(Fq:FuncF Tryz.prog kq)(q:Gt→Bool)(hq:∀ x w,Below b.heap.size b w→Ret Tryz.prog kq ([gV x]++pq) w (fun v w'=>v=.bool (q x)∧Below w.heap.size w w'))(aA:l.length≤2305843009213693951) : Ret Tryz.prog 136 [.slice Al l.length cl,.func (.func kq) #[] pq.toArray] b (fun v w=>v=.bool (l.any q)∧Below b.heap.size b w):=by
 refine enter Tryz.func136 rfl 9 rfl rfl ?_;intro a hf
 have hW:=bz b
 refine Zs hf fun _ aB=>?_;refine Za rfl<|Zx aB fun a hf _ aC=>?_;refine Zm rfl<|Zm rfl<|Zf (Vc (Y00 _ Al cl l (a9.below' hW).top kq pq Fq q (fun x w' hE'=>hq x w' (hW.trans (hE'.mono hW.size))) aA) Xvc) ?_;rintro _ w1 ⟨ix,rfl,aD,hE⟩;have hW:=btr hW hE;refine Ze (Xjc rfl rfl)<|Za rfl<|Zt aC fun a hf=>?_
 refine Q6 (X4 hf (Xp hf rfl rfl) ?_)
 exact ⟨by rw [← aD],hW⟩
theorem Y08(w0:World)(x:Gt)(n:Int)(ba:Nat)(v1:Value)(c:Blk w0 ba 43 [vi n,v1]) : Ret Tryz.prog 137 [.agg #[vi x.k,vi x.a,vi x.b],.pointer (some ⟨ba,0,none⟩)] w0 (fun v w=>v=.bool (!gOk n x)∧Below w0.heap.size w0 w):=by
 have a9:=c.lt;refine enter Tryz.func137 rfl 9 rfl rfl ?_;intro a hf
 have hW:=bz w0
 refine Zs hf fun _ aA=>?_;refine Zf (X0b (zs:=[vi x.k,vi x.a,vi x.b]) rfl rfl) ?_;rintro _ w1 ⟨b2,rfl,aB,hE,aC⟩;have aE:=Q0 hW.size aB;have c:=c.below hE;have hW:=btr hW hE;refine Za rfl<|Zx aA fun a hf _ aD=>?_;refine Ze (Vd rfl X2x 0)<|Ze (X0 rfl X9 (c.at 0))<|Ze (Vn X2f aC)<|Zf (Vc (Xz5 _ n x) Xl5) ?_;rintro _ w2 ⟨rfl,hE⟩;have hW:=btr hW hE;refine Ze (X0p rfl)<|Za rfl<|Zt aD fun a hf=>?_
 refine Q6 (X4 hf (Xp hf rfl rfl) ?_)
 exact ⟨rfl,hW⟩
theorem F55(w0:World)(c:Cx)(Ac:Option Addr)(cc:Nat)(a9:Rd w0 w0.heap.size 90 encG Ac c.gs)(aA:c.gs.length≤2305843009213693951) : Ret Tryz.prog 85 [.agg #[vi c.n,.slice Ac c.gs.length cc]] w0 (fun v w=>v=.bool (cOk c)∧Below w0.heap.size w0 w):=by
 refine enter Tryz.func85 rfl 19 rfl rfl ?_;intro a e
 have i:=bz w0
 refine Zs e fun _ aB=>?_;refine Zf (X0b (zs:=[vi c.n,.slice Ac c.gs.length cc]) rfl rfl) ?_;rintro _ w1 ⟨b3,rfl,aC,hE,j⟩;have aE:=Q0 i.size aC;have i:=btr i hE;refine Za rfl<|ZX aB fun a e _ aD=>?_;refine X09 (fun a w=>Fr a 19 [(2,.bool (((inR c.n 1 5)&&(decide ((c.gs.length:Int)≤400)))&&(!(c.gs.any (fun x=>!gOk c.n x)))))]∧Below w1.heap.size w1 w) ?_ ?_
 ·have f:Below w1.heap.size w1 w1:=Below.refl _ _
  refine Zr e<|Ze (Vd rfl X2x 0)<|Ze (X0 rfl X9 (j.at 0))<|Zf (Vc (F91 _ c.n 1 5) X4e) ?_;rintro _ _ ⟨rfl,rfl⟩;refine Zm rfl ?_
  refine Zg 6 rfl (fun b=>?_) (fun b=>?_)
  ·refine Zv (gW b) (Vd rfl X1h 1) ?_;refine Zv (gW b) (X0 rfl X3t (j.at 1)) ?_;refine Zv (gW b) (X22 rfl X17) ?_;refine Zv (gW b) (Xbd rfl rfl) ?_;refine Ze (Xh rfl b rfl)<|Zm rfl ?_
   refine Zg 12 rfl (fun d=>?_) (fun d=>?_)
   ·refine Zv (gW d) (Vd rfl X1h 1) ?_;refine Zv (gW d) (X0 rfl X3t (j.at 1)) ?_;refine Zv (gW d) (X4b (vs:=[.pointer (some ⟨b3,0,none⟩)]) rfl) ?_;refine Zk (gW d) (Vc (Y03 _ Ac cc c.gs (a9.below' i).top 137 [.pointer (some ⟨b3,0,none⟩)] Xv1 (fun x=>!gOk c.n x) (fun x w' hE'=>Y08 w' x c.n _ _ (j.below hE')) aA) Xw6) ?_;rintro _ w2 ⟨rfl,hE⟩;have i:=btr i hE;have f:=btr f hE;refine Zv (gW d) (X0p rfl) ?_;refine Ze (Xh rfl d rfl)<|Za rfl ?_;refine Zn fun a e=>?_
    have g:Below w1.heap.size w1 w2:=f
    exact ⟨e.sub ⟨X2 rfl (by first|rfl|(simp only [b,d,bs];done)|simp [b,d]),trivial⟩,g⟩
   refine Zp (gP d) ?_;refine Zp (gP d) ?_;refine Zp (gP d) ?_;refine Zp (gP d) ?_;refine Zp (gP d) ?_;refine Ze (Xd rfl d rfl)<|Za rfl ?_;refine Zn fun a e=>?_
   have g:Below w1.heap.size w1 w1:=f
   exact ⟨e.sub ⟨X2 rfl (by first|rfl|(simp only [b,d,bs];done)|simp [b,d]),trivial⟩,g⟩
  refine Zp (gP b) ?_;refine Zp (gP b) ?_;refine Zp (gP b) ?_;refine Zp (gP b) ?_;refine Ze (Xd rfl b rfl)<|Zm rfl<|Zp (gP rfl) ?_;refine Zp (gP rfl) ?_;refine Zp (gP rfl) ?_;refine Zp (gP rfl) ?_;refine Zp (gP rfl) ?_;refine Ze (Xd rfl rfl rfl)<|Za rfl ?_;refine Zn fun a e=>?_
  have g:Below w1.heap.size w1 w1:=f
  exact ⟨e.sub ⟨X2 rfl (by first|rfl|(simp only [b,bs];done)|simp [b]),trivial⟩,g⟩
 rintro a w3 ⟨e,hE⟩;have i:=btr i hE;refine aD _ _ ?_
 refine Q6 (X4 e (Xp e rfl rfl) ?_)
 exact ⟨by simp [cOk, *],i⟩
theorem Xot(w0:World)(bV:Nat)(f:Bool)(e:Blk w0 bV 95 [.bool f])(x:Rg) : Ret Tryz.prog 155 [.pointer (some ⟨bV,0,none⟩),.agg #[vi x.a,vi x.b,vi x.c,vi x.d]] w0 (fun v w=>v=rV (sRing x)∧Kept bV w0.heap.size w0 w∧Blk w bV 95 [.bool (f||!rOk x)]):=by
 have aJ:=e.lt;refine enter Tryz.func155 rfl 13 rfl rfl ?_;intro a n
 have k:Kept bV w0.heap.size w0 w0:=Kept.refl _ _ _
 refine Zs n fun _ aB=>?_;refine Zf (X0b (zs:=[vi x.a,vi x.b,vi x.c,vi x.d]) rfl rfl) ?_;rintro _ w1 ⟨b2,rfl,aC,o,m⟩;have aK:=Q0 k.size aC;have e:=e.below o;have k:=ktr k o;refine Zf (X3 (zs:=[vi 0,vi 0,vi 0,vi 0]) X1w rfl) ?_;rintro _ w2 ⟨b3,rfl,aD,o,g⟩
 have aA:b2≠b3:=by have:=m.lt;omega
 have q:=Q0 k.size aD;have e:=e.below o;have m:=m.below o;have k:=ktr k o;refine ZX aB fun a n _ aE=>?_;refine Zs n fun _ aF=>?_;refine Ze (Vn Xx m)<|Zf (Vc (Xvd _ x) Xfk) ?_;rintro _ w3 ⟨rfl,o⟩;have e:=e.below o;have m:=m.below o;have g:=g.below o;have k:=ktr k o;refine Ze (X0p rfl)<|Zt aF fun a n=>?_
 refine Xi n rfl (fun p=>?_) (fun p=>?_)
 ·have a9:=p
  have j:rOk x=false:=by revert p;cases rOk x<;>simp
  refine Zs n fun _ aG=>?_;refine Zm rfl<|Ze (X3s rfl)<|Ze (Vd rfl X3u 0)<|Zo (X6g (vs:=[.bool true]) (l':=[.bool true]) rfl rfl Xzb e rfl rfl rfl rfl rfl) ?_;rintro _ w4 ⟨j,t⟩;have i:=e;have g:=g.only j (Blk.ne g i rfl);have k:=k.self j;clear i;have e:=t;clear t j;refine Zx aG fun a n _ aH=>?_;refine Ze (Xf (ps:=[]) (cs:=[vi 0,vi 0,vi 0,vi 0]) rfl (fun _=>by first|rfl|kernel_rfl))<|Zo (Vw [vi 0,vi 0,vi 0,vi 0] X0t g) ?_;rintro _ w5 ⟨j,t⟩;have i:=g;have e:=e.only j (Blk.ne e i rfl);have k:=Kept.only k j q;clear i;have g:=t;clear t j;refine Zt aH fun a n=>?_;refine Q6<|X8<|X4 n (Xp n rfl (ResV.cellN (l:=[vi 0,vi 0,vi 0,vi 0]) rfl Xx (g.at 0) rfl)) ?_;exact ⟨by simp [sRing,j],k,by simpa [j] using e⟩
 have a9:=p
 have j:rOk x=true:=by revert p;cases rOk x<;>simp
 refine Q7<|aE _ _<|Zs n fun _ aI=>?_;refine Ze (Vn Xx m)<|Zo (Vw [vi x.a,vi x.b,vi x.c,vi x.d] X0t g) ?_;rintro _ w6 ⟨j,t⟩;have i:=g;have e:=e.only j (Blk.ne e i rfl);have k:=Kept.only k j q;clear i;have g:=t;clear t j;refine Zt aI fun a n=>?_
 refine Q6 (X4 n (Xp n rfl (ResV.cellN (l:=[vi x.a,vi x.b,vi x.c,vi x.d]) rfl Xx (g.at 0) rfl)) ?_)
 exact ⟨by simp [sRing,j],k,by simpa [j] using e⟩
theorem Xtl(w0:World)(bV:Nat)(f:Bool)(e:Blk w0 bV 95 [.bool f])(x:Dy)(y:Dy)(hx:0≤x.exp∧x.exp≤60)(hy:0≤y.exp∧y.exp≤60) : Ret Tryz.prog 110 [.pointer (some ⟨bV,0,none⟩),.agg #[vi x.num.a,vi x.num.b,vi x.num.c,vi x.num.d,vi x.exp],.agg #[vi y.num.a,vi y.num.b,vi y.num.c,vi y.num.d,vi y.exp]] w0 (fun v w=>v=dV ((sMul f x y).2)∧Kept bV w0.heap.size w0 w∧Blk w bV 95 [.bool ((sMul f x y).1)]):=by
 have aN:=e.lt;refine enter Tryz.func110 rfl 30 rfl rfl ?_;intro a q
 have k:Kept bV w0.heap.size w0 w0:=Kept.refl _ _ _
 refine Zs q fun _ aF=>?_;refine Zf (X0b (zs:=[vi x.num.a,vi x.num.b,vi x.num.c,vi x.num.d,vi x.exp]) rfl rfl) ?_;rintro _ w1 ⟨b2,rfl,aG,i,m⟩;have aO:=Q0 k.size aG;have e:=e.below i;have k:=ktr k i;refine Zf (X0b (zs:=[vi y.num.a,vi y.num.b,vi y.num.c,vi y.num.d,vi y.exp]) rfl rfl) ?_;rintro _ w2 ⟨b3,rfl,aH,i,o⟩
 have aC:b2≠b3:=by have:=m.lt;omega
 have aP:=Q0 k.size aH;have e:=e.below i;have m:=m.below i;have k:=ktr k i;refine Zf (X3 (zs:=[vi 0,vi 0,vi 0,vi 0,vi 0]) X0l rfl) ?_;rintro _ w3 ⟨b4,rfl,aI,i,g⟩
 have aD:b2≠b4:=by have:=m.lt;omega
 have aE:b3≠b4:=by have:=o.lt;omega
 have t:=Q0 k.size aI;have e:=e.below i;have m:=m.below i;have o:=o.below i;have k:=ktr k i;refine ZX aF fun a q _ aJ=>?_;refine Zs q fun _ aK=>?_;refine Ze (Vd rfl X11 4)<|Ze (X0 rfl X9 (m.at 4))<|Ze (Vd rfl X11 4)<|Ze (X0 rfl X9 (o.at 4))<|Ze (X02 rfl rfl (by omega) (by omega))<|Ze (X7h rfl rfl)<|Zt aK fun a q=>?_
 refine Xi q rfl (fun p=>?_) (fun p=>?_)
 ·have aA:=p;have p:=Q2 p
  have hm:60<x.exp+y.exp:=p
  refine Zs q fun _ aL=>?_;refine Zm rfl<|Ze (X3s rfl)<|Ze (Vd rfl X3u 0)<|Zo (X6g (vs:=[.bool true]) (l':=[.bool true]) rfl rfl Xzb e rfl rfl rfl rfl rfl) ?_;rintro _ w4 ⟨u,hb⟩;have n:=e;have g:=g.only u (Blk.ne g n rfl);have k:=k.self u;have e:=hb;refine Zx aL fun a q _ aM=>?_;refine Ze (Xf (ps:=[]) (cs:=[vi 0,vi 0,vi 0,vi 0,vi 0]) rfl (fun _=>by first|rfl|kernel_rfl))<|Zo (Vw [vi 0,vi 0,vi 0,vi 0,vi 0] Xb g) ?_;rintro _ w5 ⟨u,hb⟩;have n:=g;have e:=e.only u (Blk.ne e n rfl);have k:=Kept.only k u t;have g:=hb;refine Zt aM fun a q=>?_;refine Q6<|X8<|X4 q (Xp q rfl (ResV.cellN (l:=[vi 0,vi 0,vi 0,vi 0,vi 0]) rfl X6 (g.at 0) rfl)) ?_;exact ⟨by rw [sMul,Q4 hm];rfl,k,by rw [sMul,Q4 hm];exact e⟩
 have aA:=p;have p:=Q1 p
 have hm:¬ 60<x.exp+y.exp:=p
 refine Q7<|aJ _ _<|Q5 fun _ aB=>?_;refine Xy (some bV) (fun j=>[13].contains j) mixed ?_;intro w6 i;have e:=e.below i;have m:=m.below i;have o:=o.below i;have g:=g.below i;have k:=ktr k i;refine Yb q<|Yo 0 rfl (fun _=>Xa rfl)<|Yo 1 rfl (fun _=>Vd rfl X1b 0) ?_;refine Yw 2 rfl trivial (fun w1 h1=>Xz (l:=[vi x.num.a,vi x.num.b,vi x.num.c,vi x.num.d]) rfl Xx (((m.only h1 (Blk.ne m e rfl)).at 0).take 4) rfl) ?_;refine Yo 3 rfl (fun _=>Vd rfl X1b 0) ?_;refine Yw 4 rfl trivial (fun w1 h1=>Xz (l:=[vi y.num.a,vi y.num.b,vi y.num.c,vi y.num.d]) rfl Xx (((o.only h1 (Blk.ne o e rfl)).at 0).take 4) rfl) ?_;refine Yo 7 rfl (fun _=>Vd rfl X11 4) ?_;refine Yw 8 rfl trivial (fun w1 h1=>X0 rfl X9 ((m.only h1 (Blk.ne m e rfl)).at 4)) ?_;refine Yo 9 rfl (fun _=>Vd rfl X11 4) ?_;refine Yw 10 rfl trivial (fun w1 h1=>X0 rfl X9 ((o.only h1 (Blk.ne o e rfl)).at 4)) ?_;refine Yo 11 rfl (fun _=>X02 rfl rfl (by omega) (by omega))<|Y1 5 ?_;refine Yf rfl trivial (EfW.mono (Vc (Y1b _ x.num y.num) Xu6) (fun _ _ h=>⟨fun _=>by obtain ⟨rfl,i⟩:=h;exact Keep.of_below i,h⟩)) ?_;rintro _ w7 ⟨rfl,i⟩;have e:=e.below i;have g:=g.below i;have k:=ktr k i;refine Y1 6<|Yf rfl trivial (EfW.mono (Vc (Xot _ bV f e (rMul x.num y.num)) Xdv) (fun _ _ h=>⟨fun _=>by obtain ⟨rfl,hK,a9⟩:=h;exact hK.keep,h⟩)) ?_;rintro _ w8 ⟨rfl,hK,a9⟩;obtain ⟨wm,hO,hm,i⟩:=hK.mid;clear hm;have n:=e;have g:=g.only hO (Blk.ne g n rfl);have k:=k.self hO;have g:=g.below i;have k:=ktr k i
 clear n i hO hK;have e:=a9;clear a9;refine Y1 12<|Yf rfl trivial (EfW.mono (Vc (Xqd _ (sRing (rMul x.num y.num)) (x.exp+y.exp) (by omega)) Xdt) (fun _ _ h=>⟨fun _=>by obtain ⟨rfl,i⟩:=h;exact Keep.of_below i,h⟩)) ?_;rintro _ w9 ⟨rfl,i⟩;have e:=e.below i;have g:=g.below i;have k:=ktr k i;refine Y1 13<|Yh rfl trivial rfl (Vw [vi ((dLow (sRing (rMul x.num y.num)) (x.exp+y.exp)).num.a),vi ((dLow (sRing (rMul x.num y.num)) (x.exp+y.exp)).num.b),vi ((dLow (sRing (rMul x.num y.num)) (x.exp+y.exp)).num.c),vi ((dLow (sRing (rMul x.num y.num)) (x.exp+y.exp)).num.d),vi ((dLow (sRing (rMul x.num y.num)) (x.exp+y.exp)).exp)] Xb g) ?_;rintro _ aQ ⟨u,hb⟩;have n:=g;have e:=e.only u (Blk.ne e n rfl);have k:=Kept.only k u t;have g:=hb;refine Yd fun a q=>?_;refine aB _ _ ?_
 refine Q6 (X4 q (Xp q rfl (ResV.cellN (l:=[vi ((dLow (sRing (rMul x.num y.num)) (x.exp+y.exp)).num.a),vi ((dLow (sRing (rMul x.num y.num)) (x.exp+y.exp)).num.b),vi ((dLow (sRing (rMul x.num y.num)) (x.exp+y.exp)).num.c),vi ((dLow (sRing (rMul x.num y.num)) (x.exp+y.exp)).num.d),vi ((dLow (sRing (rMul x.num y.num)) (x.exp+y.exp)).exp)]) rfl X6 (g.at 0) rfl)) ?_)
 exact ⟨by rw [sMul,Q3 hm],k,by rw [sMul,Q3 hm];exact e⟩
theorem Xpm(w0:World)(bV:Nat)(f:Bool)(e:Blk w0 bV 95 [.bool f])(x:Dy)(y:Dy)(hx:0≤x.exp∧x.exp≤60)(hy:0≤y.exp∧y.exp≤60) : Ret Tryz.prog 109 [.pointer (some ⟨bV,0,none⟩),.agg #[vi x.num.a,vi x.num.b,vi x.num.c,vi x.num.d,vi x.exp],.agg #[vi y.num.a,vi y.num.b,vi y.num.c,vi y.num.d,vi y.exp]] w0 (fun v w=>v=dV ((sAdd f x y).2)∧Kept bV w0.heap.size w0 w∧Blk w bV 95 [.bool ((sAdd f x y).1)]):=by
 have aW:=e.lt;refine enter Tryz.func109 rfl 45 rfl rfl ?_;intro a z
 have q:Kept bV w0.heap.size w0 w0:=Kept.refl _ _ _
 refine Zs z fun _ aN=>?_;refine Zf (X0b (zs:=[vi x.num.a,vi x.num.b,vi x.num.c,vi x.num.d,vi x.exp]) rfl rfl) ?_;rintro _ w1 ⟨b2,rfl,aO,n,g⟩;have aB:=Q0 q.size aO;have e:=e.below n;have q:=ktr q n;refine Zf (X0b (zs:=[vi y.num.a,vi y.num.b,vi y.num.c,vi y.num.d,vi y.exp]) rfl rfl) ?_;rintro _ w2 ⟨b3,rfl,aP,n,k⟩
 have aK:b2≠b3:=by have:=g.lt;omega
 have aC:=Q0 q.size aP;have e:=e.below n;have g:=g.below n;have q:=ktr q n;refine Zf (X3 (zs:=[vi 0,vi 0,vi 0,vi 0,vi 0]) X0l rfl) ?_;rintro _ w3 ⟨b4,rfl,aQ,n,i⟩
 have aL:b2≠b4:=by have:=g.lt;omega
 have aM:b3≠b4:=by have:=k.lt;omega
 have aD:=Q0 q.size aQ;have e:=e.below n;have g:=g.below n;have k:=k.below n;have q:=ktr q n;refine ZX aN fun a z _ aR=>?_;refine Q8<|X04 (σ:=Bool×Dy) (fun (s:Bool×Dy) (a:Act) (w:World)=>match s with|(H,m)=>Fr a 45 [(0,.pointer (some ⟨bV,0,none⟩)),(4,.pointer (some ⟨b2,0,none⟩)),(5,.pointer (some ⟨b3,0,none⟩)),(6,.pointer (some ⟨b4,0,none⟩))]∧(sRaiseN (y.exp-m.exp).toNat H m=sRaiseN (y.exp-x.exp).toNat f x)∧(0≤m.exp∧m.exp≤60)∧Blk w bV 95 [.bool H]∧Blk w b2 86 [vi m.num.a,vi m.num.b,vi m.num.c,vi m.num.d,vi m.exp]∧Blk w b3 86 [vi y.num.a,vi y.num.b,vi y.num.c,vi y.num.d,vi y.exp]∧Blk w b4 86 [vi 0,vi 0,vi 0,vi 0,vi 0]∧Kept bV w0.heap.size w0 w) (fun (s:Bool×Dy)=>match s with|(H,m)=>(y.exp-m.exp).toNat) (f,x) ?_ ?_
 ·exact ⟨z.sb,rfl,hx,e,g,k,i,q⟩
 rintro ⟨H,m⟩ a w4 ⟨z,I,aX,e,g,k,i,q⟩;refine Q5 fun _ aS=>?_;refine Zs z fun _ aT=>?_;refine Ze (Vd rfl X11 4)<|Ze (X0 rfl X9 (g.at 4))<|Ze (Vd rfl X11 4)<|Ze (X0 rfl X9 (k.at 4))<|Ze (X19 rfl rfl)<|Zt aT fun a z=>?_
 refine Xi z rfl (fun A=>?_) (fun A=>?_)
 ·have aE:=A;have A:=Q2 A
  have a9:m.exp<y.exp:=A
  refine Q7<|aS _ _<|Q8<|Xy (some bV) (fun j=>[9].contains j) mixed ?_;intro w5 n;have e:=e.below n;have g:=g.below n;have k:=k.below n;have i:=i.below n;have q:=ktr q n;refine Yb z<|Yo 0 rfl (fun _=>Xa rfl)<|Yo 1 rfl (fun _=>Vd rfl X1b 0) ?_;refine Yw 2 rfl trivial (fun w1 D=>Xz (l:=[vi m.num.a,vi m.num.b,vi m.num.c,vi m.num.d]) rfl Xx (((g.only D (Blk.ne g e rfl)).at 0).take 4) rfl) ?_;refine Yo 5 rfl (fun _=>Vd rfl X11 4) ?_;refine Yw 6 rfl trivial (fun w1 D=>X0 rfl X9 ((g.only D (Blk.ne g e rfl)).at 4)) ?_;refine Yo 7 rfl (fun _=>X02 rfl rfl (by omega) (by omega))<|Y1 3 ?_;refine Yf rfl trivial (EfW.mono (Vc (Xsx _ m.num) Xfh) (fun _ _ h=>⟨fun _=>by obtain ⟨rfl,n⟩:=h;exact Keep.of_below n,h⟩)) ?_;rintro _ w6 ⟨rfl,n⟩;have e:=e.below n;have g:=g.below n;have k:=k.below n;have i:=i.below n;have q:=ktr q n;refine Y1 4<|Yf rfl trivial (EfW.mono (Vc (Xot _ bV H e (rRoot m.num)) Xdv) (fun _ _ h=>⟨fun _=>by obtain ⟨rfl,C,u⟩:=h;exact C.keep,h⟩)) ?_;rintro _ w7 ⟨rfl,C,u⟩;obtain ⟨wm,B,hm,n⟩:=C.mid;clear hm;have o:=e;have g:=g.only B (Blk.ne g o rfl);have k:=k.only B (Blk.ne k o rfl);have i:=i.only B (Blk.ne i o rfl);have q:=q.self B;have g:=g.below n;have k:=k.below n;have i:=i.below n;have q:=ktr q n
  clear o n B C;have e:=u;clear u;refine Yo 8 rfl (fun _=>Xf (ps:=[(0,.agg #[vi ((sRing (rRoot m.num)).a),vi ((sRing (rRoot m.num)).b),vi ((sRing (rRoot m.num)).c),vi ((sRing (rRoot m.num)).d)]),(1,vi (m.exp+1))]) (cs:=[vi ((sRing (rRoot m.num)).a),vi ((sRing (rRoot m.num)).b),vi ((sRing (rRoot m.num)).c),vi ((sRing (rRoot m.num)).d),vi (m.exp+1)]) rfl (fun _=>by first|rfl|kernel_rfl))<|Y1 9 ?_;refine Yh rfl trivial rfl (Vw [vi ((sRing (rRoot m.num)).a),vi ((sRing (rRoot m.num)).b),vi ((sRing (rRoot m.num)).c),vi ((sRing (rRoot m.num)).d),vi (m.exp+1)] Xb g) ?_;rintro _ w8 ⟨E,hb⟩;have o:=g;have e:=e.only E (Blk.ne e o rfl);have k:=k.only E (by omega);have i:=i.only E (by omega);have q:=Kept.only q E aB;have g:=hb;refine Yd fun a z=>?_;refine Xk<|Xn ?_;exact ⟨(H||!rOk (rRoot m.num),⟨sRing (rRoot m.num),m.exp+1⟩),⟨z.sb,(X92 I a9),(by dsimp only;omega),e,g,k,i,q⟩,(by first|omega|(dsimp only;omega))⟩
 have aE:=A;have A:=Q1 A;have aF:=X91 I A;refine Q9<|Xm<|Xm<|X06 ?_;refine aR _ _<|Q5 fun _ aU=>?_;refine Q8<|X04 (σ:=Bool×Dy) (fun (s:Bool×Dy) (a:Act) (w:World)=>match s with|(f2,p)=>Fr a 45 [(0,.pointer (some ⟨bV,0,none⟩)),(4,.pointer (some ⟨b2,0,none⟩)),(5,.pointer (some ⟨b3,0,none⟩)),(6,.pointer (some ⟨b4,0,none⟩))]∧(sRaiseN (m.exp-p.exp).toNat f2 p=sRaiseN (m.exp-y.exp).toNat H y)∧(0≤p.exp∧p.exp≤60)∧Blk w bV 95 [.bool f2]∧Blk w b2 86 [vi m.num.a,vi m.num.b,vi m.num.c,vi m.num.d,vi m.exp]∧Blk w b3 86 [vi p.num.a,vi p.num.b,vi p.num.c,vi p.num.d,vi p.exp]∧Blk w b4 86 [vi 0,vi 0,vi 0,vi 0,vi 0]∧Kept bV w0.heap.size w0 w) (fun (s:Bool×Dy)=>match s with|(f2,p)=>(m.exp-p.exp).toNat) (H,y) ?_ ?_
 ·exact ⟨z.sb,rfl,hy,e,g,k,i,q⟩
 rintro ⟨f2,p⟩ a w9 ⟨z,G,aY,e,g,k,i,q⟩;refine Q5 fun _ aG=>?_;refine Zs z fun _ aH=>?_;refine Ze (Vd rfl X11 4)<|Ze (X0 rfl X9 (k.at 4))<|Ze (Vd rfl X11 4)<|Ze (X0 rfl X9 (g.at 4))<|Ze (X19 rfl rfl)<|Zt aH fun a z=>?_
 refine Xi z rfl (fun t=>?_) (fun t=>?_)
 ·have aA:=t;have t:=Q2 t
  have a9:p.exp<m.exp:=t
  refine Q7<|aG _ _<|Q8<|Xy (some bV) (fun j=>[9].contains j) mixed ?_;intro aZ n;have e:=e.below n;have g:=g.below n;have k:=k.below n;have i:=i.below n;have q:=ktr q n;refine Yb z<|Yo 0 rfl (fun _=>Xa rfl)<|Yo 1 rfl (fun _=>Vd rfl X1b 0) ?_;refine Yw 2 rfl trivial (fun w1 D=>Xz (l:=[vi p.num.a,vi p.num.b,vi p.num.c,vi p.num.d]) rfl Xx (((k.only D (Blk.ne k e rfl)).at 0).take 4) rfl) ?_;refine Yo 5 rfl (fun _=>Vd rfl X11 4) ?_;refine Yw 6 rfl trivial (fun w1 D=>X0 rfl X9 ((k.only D (Blk.ne k e rfl)).at 4)) ?_;refine Yo 7 rfl (fun _=>X02 rfl rfl (by omega) (by omega))<|Y1 3 ?_;refine Yf rfl trivial (EfW.mono (Vc (Xsx _ p.num) Xfh) (fun _ _ h=>⟨fun _=>by obtain ⟨rfl,n⟩:=h;exact Keep.of_below n,h⟩)) ?_;rintro _ b0 ⟨rfl,n⟩;have e:=e.below n;have g:=g.below n;have k:=k.below n;have i:=i.below n;have q:=ktr q n;refine Y1 4<|Yf rfl trivial (EfW.mono (Vc (Xot _ bV f2 e (rRoot p.num)) Xdv) (fun _ _ h=>⟨fun _=>by obtain ⟨rfl,C,u⟩:=h;exact C.keep,h⟩)) ?_;rintro _ b1 ⟨rfl,C,u⟩;obtain ⟨wm,B,hm,n⟩:=C.mid;clear hm;have o:=e;have g:=g.only B (Blk.ne g o rfl);have k:=k.only B (Blk.ne k o rfl);have i:=i.only B (Blk.ne i o rfl);have q:=q.self B;have g:=g.below n;have k:=k.below n;have i:=i.below n;have q:=ktr q n
  clear o n B C;have e:=u;clear u;refine Yo 8 rfl (fun _=>Xf (ps:=[(0,.agg #[vi ((sRing (rRoot p.num)).a),vi ((sRing (rRoot p.num)).b),vi ((sRing (rRoot p.num)).c),vi ((sRing (rRoot p.num)).d)]),(1,vi (p.exp+1))]) (cs:=[vi ((sRing (rRoot p.num)).a),vi ((sRing (rRoot p.num)).b),vi ((sRing (rRoot p.num)).c),vi ((sRing (rRoot p.num)).d),vi (p.exp+1)]) rfl (fun _=>by first|rfl|kernel_rfl))<|Y1 9 ?_;refine Yh rfl trivial rfl (Vw [vi ((sRing (rRoot p.num)).a),vi ((sRing (rRoot p.num)).b),vi ((sRing (rRoot p.num)).c),vi ((sRing (rRoot p.num)).d),vi (p.exp+1)] Xb k) ?_;rintro _ b5 ⟨E,hb⟩;have o:=k;have e:=e.only E (Blk.ne e o rfl);have g:=g.only E (by omega);have i:=i.only E (by omega);have q:=Kept.only q E aC;have k:=hb;refine Yd fun a z=>?_;refine Xk<|Xn ?_;exact ⟨(f2||!rOk (rRoot p.num),⟨sRing (rRoot p.num),p.exp+1⟩),⟨z.sb,(X92 G a9),(by dsimp only;omega),e,g,k,i,q⟩,(by first|omega|(dsimp only;omega))⟩
 have aA:=t;have t:=Q1 t;have aI:=X91 G t;refine Q9<|Xm<|Xm<|X06 ?_;refine aU _ _<|Q5 fun _ aJ=>?_;refine Xy (some bV) (fun j=>[10].contains j) mixed ?_;intro b6 n;have e:=e.below n;have g:=g.below n;have k:=k.below n;have i:=i.below n;have q:=ktr q n;refine Yb z<|Yo 0 rfl (fun _=>Xa rfl)<|Yo 1 rfl (fun _=>Vd rfl X1b 0) ?_;refine Yw 2 rfl trivial (fun w1 D=>Xz (l:=[vi m.num.a,vi m.num.b,vi m.num.c,vi m.num.d]) rfl Xx (((g.only D (Blk.ne g e rfl)).at 0).take 4) rfl) ?_;refine Yo 3 rfl (fun _=>Vd rfl X1b 0) ?_;refine Yw 4 rfl trivial (fun w1 D=>Xz (l:=[vi p.num.a,vi p.num.b,vi p.num.c,vi p.num.d]) rfl Xx (((k.only D (Blk.ne k e rfl)).at 0).take 4) rfl) ?_;refine Yo 7 rfl (fun _=>Vd rfl X11 4) ?_;refine Yw 8 rfl trivial (fun w1 D=>X0 rfl X9 ((g.only D (Blk.ne g e rfl)).at 4)) ?_;refine Y1 5<|Yf rfl trivial (EfW.mono (Vc (Y0b _ m.num p.num) Xtc) (fun _ _ h=>⟨fun _=>by obtain ⟨rfl,n⟩:=h;exact Keep.of_below n,h⟩)) ?_;rintro _ b7 ⟨rfl,n⟩;have e:=e.below n;have i:=i.below n;have q:=ktr q n;refine Y1 6<|Yf rfl trivial (EfW.mono (Vc (Xot _ bV f2 e (rAdd m.num p.num)) Xdv) (fun _ _ h=>⟨fun _=>by obtain ⟨rfl,C,u⟩:=h;exact C.keep,h⟩)) ?_;rintro _ b8 ⟨rfl,C,u⟩;obtain ⟨wm,B,hm,n⟩:=C.mid;clear hm;have o:=e;have i:=i.only B (Blk.ne i o rfl);have q:=q.self B;have i:=i.below n;have q:=ktr q n
 clear o n B C;have e:=u;clear u;refine Y1 9<|Yf rfl trivial (EfW.mono (Vc (Xqd _ (sRing (rAdd m.num p.num)) m.exp (by omega)) Xdt) (fun _ _ h=>⟨fun _=>by obtain ⟨rfl,n⟩:=h;exact Keep.of_below n,h⟩)) ?_;rintro _ b9 ⟨rfl,n⟩;have e:=e.below n;have i:=i.below n;have q:=ktr q n;refine Y1 10<|Yh rfl trivial rfl (Vw [vi ((dLow (sRing (rAdd m.num p.num)) m.exp).num.a),vi ((dLow (sRing (rAdd m.num p.num)) m.exp).num.b),vi ((dLow (sRing (rAdd m.num p.num)) m.exp).num.c),vi ((dLow (sRing (rAdd m.num p.num)) m.exp).num.d),vi ((dLow (sRing (rAdd m.num p.num)) m.exp).exp)] Xb i) ?_;rintro _ bC ⟨E,hb⟩;have o:=i;have e:=e.only E (Blk.ne e o rfl);have q:=Kept.only q E aD;have i:=hb;refine Yd fun a z=>?_;refine aJ _ _ ?_
 refine Q6 (X4 z (Xp z rfl (ResV.cellN (l:=[vi ((dLow (sRing (rAdd m.num p.num)) m.exp).num.a),vi ((dLow (sRing (rAdd m.num p.num)) m.exp).num.b),vi ((dLow (sRing (rAdd m.num p.num)) m.exp).num.c),vi ((dLow (sRing (rAdd m.num p.num)) m.exp).num.d),vi ((dLow (sRing (rAdd m.num p.num)) m.exp).exp)]) rfl X6 (i.at 0) rfl)) ?_)
 exact ⟨by rw [sAdd,aF];dsimp only;rw [aI],q,by rw [sAdd,aF];dsimp only;rw [aI];exact e⟩
theorem Xj3(w0:World)(n:Int)(s:Int)(q:Int)(h0:0≤q)(h1:q<n)(h2:n≤5) : Ret Tryz.prog 164 [vi n,vi s,vi q] w0 (fun v w=>v=vi (bitF n s q)∧w0=w):=by
 refine enter Tryz.func164 rfl 14 rfl rfl ?_;intro a hf
 have hW:=bz w0
 refine Zs hf fun _ a9=>?_;refine Za rfl<|Zx a9 fun a hf _ aA=>?_;refine Zm rfl<|Zm rfl<|Ze (X1j rfl rfl (by omega) (by omega))<|Zm rfl<|Ze (X1j rfl rfl (by omega) (by omega))<|Ze (Xzm (m:=(n-1-q).toNat) rfl rfl (by omega) (by omega))<|Ze (Xte rfl rfl)<|Za rfl<|Zt aA fun a hf=>?_
 refine Q6 (X4 hf (Xp hf rfl rfl) ?_)
 exact ⟨rfl,rfl⟩
theorem Xni(w0:World)(n:Int)(s:Int)(q:Int)(h0:0≤q)(h1:q<n)(h2:n≤5) : Ret Tryz.prog 165 [vi n,vi s,vi q] w0 (fun v w=>v=vi (flipF n s q)∧w0=w):=by
 refine enter Tryz.func165 rfl 14 rfl rfl ?_;intro a hf
 have hW:=bz w0
 refine Zs hf fun _ a9=>?_;refine Za rfl<|Zx a9 fun a hf _ aA=>?_;refine Zm rfl<|Zm rfl<|Ze (X1j rfl rfl (by omega) (by omega))<|Zm rfl<|Ze (X1j rfl rfl (by omega) (by omega))<|Ze (Xm2 (m:=(n-1-q).toNat) rfl rfl (by omega) (by omega))<|Ze (Xn3 rfl rfl)<|Za rfl<|Zt aA fun a hf=>?_
 refine Q6 (X4 hf (Xp hf rfl rfl) ?_)
 exact ⟨rfl,rfl⟩
theorem Xfs(w0:World)(n:Int)(s:Int)(q:Int)(h0:0≤q)(h1:q<n)(h2:n≤5) : Ret Tryz.prog 181 [vi n,vi s,vi q] w0 (fun v w=>v=vi (bitF n s q)∧w0=w):=by
 refine enter Tryz.func181 rfl 15 rfl rfl ?_;intro a hf
 have hW:=bz w0
 refine Zs hf fun _ a9=>?_;refine Za rfl<|Zx a9 fun a hf _ aA=>?_;refine Zm rfl<|Zm rfl<|Ze (X1j rfl rfl (by omega) (by omega))<|Zm rfl<|Ze (X1j rfl rfl (by omega) (by omega))<|Ze (Xdy (m:=(n-1-q).toNat) Tryz.underlying3 Tryz.underlying99 rfl (by omega) (by omega))<|Ze (Xzm (m:=(n-1-q).toNat) rfl rfl rfl (by omega))<|Ze (Xte rfl rfl)<|Za rfl<|Zt aA fun a hf=>?_
 refine Q6 (X4 hf (Xp hf rfl rfl) ?_)
 exact ⟨rfl,rfl⟩
theorem Xx5(w0:World)(k:Int)(hk:1≤k∧k≤8) : Ret Tryz.prog 154 [vi k] w0 (fun v w=>∃ A c,v=.slice A (oneL k).length c∧Own w w0.heap.size 86 5 encD A c (oneL k)∧Below w0.heap.size w0 w):=by
 refine enter Tryz.func154 rfl 43 rfl rfl ?_;intro a j
 have i:=bz w0
 refine Zs j fun _ bI=>?_;refine Za rfl<|Zx bI fun a j _ bJ=>?_;refine Zf (Vc (Xdz _ 0) X5j) ?_;rintro _ w1 ⟨rfl,g⟩;have i:=btr i g;refine Ze (Xf (ps:=[]) (cs:=[vi 0,vi 0,vi 0,vi 0,vi 0]) rfl (fun _=>by first|rfl|kernel_rfl))<|Zf (X3 (zs:=[vi 0,vi 0,vi 0,vi 0,vi 0]) X0l rfl) ?_;rintro _ w2 ⟨b4,rfl,bK,g,e⟩;have aH:=Q0 i.size bK;have i:=btr i g;refine Zf (X3 (zs:=[vi 0,vi 0,vi 0,vi 0,vi 0]) X0l rfl) ?_;rintro _ w3 ⟨b5,rfl,bL,g,f⟩
 have bF:b4≠b5:=by have:=e.lt;omega
 have aI:=Q0 i.size bL;have e:=e.below g;have i:=btr i g;refine Zo (Vw [vi ((dPow 0).num.a),vi ((dPow 0).num.b),vi ((dPow 0).num.c),vi ((dPow 0).num.d),vi ((dPow 0).exp)] Xb e) ?_;rintro _ w4 ⟨q,hb⟩;have x:=e;have f:=f.only q (by omega);have i:=Below.only i q aH;have e:=hb;refine Zo (Vw [vi 0,vi 0,vi 0,vi 0,vi 0] Xb f) ?_;rintro _ w5 ⟨q,hb⟩;have x:=f;have e:=e.only q (by omega);have i:=Below.only i q aI;have f:=hb;refine Zx bJ fun a j _ bM=>?_;refine Ze (Xf (ps:=[(0,vi 1)]) (cs:=[vi 1,vi 0,vi 0,vi 0]) rfl (fun _=>by first|rfl|kernel_rfl))<|Ze (Xf (ps:=[(0,.agg #[vi 1,vi 0,vi 0,vi 0]),(1,vi 1)]) (cs:=[vi 1,vi 0,vi 0,vi 0,vi 1]) rfl (fun _=>by first|rfl|kernel_rfl))<|Zf (X3 (zs:=[vi 0,vi 0,vi 0,vi 0,vi 0]) X0l rfl) ?_;rintro _ w6 ⟨b7,rfl,bN,g,m⟩
 have bG:b4≠b7:=by have:=e.lt;omega
 have bH:b5≠b7:=by have:=f.lt;omega
 have aJ:=Q0 i.size bN;have e:=e.below g;have f:=f.below g;have i:=btr i g;refine Zo (Vw [vi 1,vi 0,vi 0,vi 0,vi 1] Xb m) ?_;rintro _ w7 ⟨q,hb⟩;have x:=m;have e:=e.only q (by omega);have f:=f.only q (by omega);have i:=Below.only i q aJ;have m:=hb;refine ZX bM fun a j _ bO=>?_;refine Zs j fun _ bP=>?_;refine Zm rfl<|Zt bP fun a j=>?_;refine Q8<|Zs j fun _ aK=>?_;refine Ze (X15 rfl rfl)<|Za rfl<|Zt aK fun a j=>?_
 refine Xi j rfl (fun n=>?_) (fun n=>?_)
 ·have a9:=n
  have t:k=1:=by simpa using n
  refine Q5 fun _ aL=>?_;refine Xy none (fun _=>false) mixed ?_;intro w8 g;have e:=e.below g;have f:=f.below g;have m:=m.below g;have i:=btr i g;refine Yb j<|Ye 0 rfl (Vn X6 m)<|Ye 1 rfl (Vn X6 m)<|Ye 2 rfl (Vn X6 m)<|Ye 3 rfl (Vn X6 m)<|Y1 4 ?_;refine Yk rfl trivial (Vc (Y0i _ (⟨(⟨1,0,0,0⟩ : Rg),1⟩ : Dy)) Xve) (fun _ _ ⟨_,g⟩=>g) ?_;rintro _ w9 ⟨rfl,g⟩;have e:=e.below g;have f:=f.below g;have m:=m.below g;have i:=btr i g;refine Y1 5<|Yk rfl trivial (X7 (k:=4) (vs:=[.agg #[vi 1,vi 0,vi 0,vi 0,vi 1],.agg #[vi 1,vi 0,vi 0,vi 0,vi 1],.agg #[vi 1,vi 0,vi 0,vi 0,vi 1],.agg #[vi ((dNeg (⟨(⟨1,0,0,0⟩ : Rg),1⟩ : Dy)).num.a),vi ((dNeg (⟨(⟨1,0,0,0⟩ : Rg),1⟩ : Dy)).num.b),vi ((dNeg (⟨(⟨1,0,0,0⟩ : Rg),1⟩ : Dy)).num.c),vi ((dNeg (⟨(⟨1,0,0,0⟩ : Rg),1⟩ : Dy)).num.d),vi ((dNeg (⟨(⟨1,0,0,0⟩ : Rg),1⟩ : Dy)).exp)]]) (zs:=[vi 1,vi 0,vi 0,vi 0,vi 1,vi 1,vi 0,vi 0,vi 0,vi 1,vi 1,vi 0,vi 0,vi 0,vi 1,vi ((dNeg (⟨(⟨1,0,0,0⟩ : Rg),1⟩ : Dy)).num.a),vi ((dNeg (⟨(⟨1,0,0,0⟩ : Rg),1⟩ : Dy)).num.b),vi ((dNeg (⟨(⟨1,0,0,0⟩ : Rg),1⟩ : Dy)).num.c),vi ((dNeg (⟨(⟨1,0,0,0⟩ : Rg),1⟩ : Dy)).num.d),vi ((dNeg (⟨(⟨1,0,0,0⟩ : Rg),1⟩ : Dy)).exp)]) rfl Xs X0u rfl rfl) (fun _ _ ⟨_,_,_,h,_⟩=>h) ?_;rintro _ bR ⟨b13,rfl,aM,g,aN⟩
  have aO:b4≠b13:=by have:=e.lt;omega
  have aP:b5≠b13:=by have:=f.lt;omega
  have aQ:b7≠b13:=by have:=m.lt;omega
  have aA:=Q0 i.size aM;have i:=btr i g;refine Yo 6 rfl (fun _=>X0q rfl) ?_;refine Yd fun a j=>?_;refine aL _ _<|Q6<|X00<|X8 ?_;refine X4 j (Xp j rfl rfl) ?_;exact ⟨(some ⟨b13,0,none⟩),4,by rw [oneL,Q4 t];rfl,by rw [oneL,Q4 t];exact (Own.of_blkL Xw aN aA rfl rfl (by decide)),i⟩
 have a9:=n
 have t:¬ k=1:=by simpa using n
 refine Zs j fun _ aR=>?_;refine Ze (X15 rfl rfl)<|Za rfl<|Zt aR fun a j=>?_
 refine Xi j rfl (fun o=>?_) (fun o=>?_)
 ·have aB:=o
  have e2:k=2:=by simpa using o
  refine Zs j fun _ aS=>?_;refine Ze (Vn X6 f)<|Ze (Vn X6 e)<|Ze (Vn X6 e)<|Ze (Vn X6 f)<|Zf (X7 (k:=4) (vs:=[.agg #[vi 0,vi 0,vi 0,vi 0,vi 0],.agg #[vi ((dPow 0).num.a),vi ((dPow 0).num.b),vi ((dPow 0).num.c),vi ((dPow 0).num.d),vi ((dPow 0).exp)],.agg #[vi ((dPow 0).num.a),vi ((dPow 0).num.b),vi ((dPow 0).num.c),vi ((dPow 0).num.d),vi ((dPow 0).exp)],.agg #[vi 0,vi 0,vi 0,vi 0,vi 0]]) (zs:=[vi 0,vi 0,vi 0,vi 0,vi 0,vi ((dPow 0).num.a),vi ((dPow 0).num.b),vi ((dPow 0).num.c),vi ((dPow 0).num.d),vi ((dPow 0).exp),vi ((dPow 0).num.a),vi ((dPow 0).num.b),vi ((dPow 0).num.c),vi ((dPow 0).num.d),vi ((dPow 0).exp),vi 0,vi 0,vi 0,vi 0,vi 0]) rfl Xs X0u rfl rfl) ?_;rintro _ bS ⟨b18,rfl,aT,g,aU⟩
  have aW:b4≠b18:=by have:=e.lt;omega
  have aX:b5≠b18:=by have:=f.lt;omega
  have aC:=Q0 i.size aT;have i:=btr i g;refine Za rfl<|Zt aS fun a j=>?_;refine Q6<|X00<|X8<|X4 j (Xp j rfl rfl) ?_;exact ⟨(some ⟨b18,0,none⟩),4,by rw [oneL,Q3 t,Q4 e2];rfl,by rw [oneL,Q3 t,Q4 e2];exact (Own.of_blkL Xw aU aC rfl rfl (by decide)),i⟩
 have aB:=o
 have e2:¬ k=2:=by simpa using o
 refine Zs j fun _ aY=>?_;refine Ze (X15 rfl rfl)<|Za rfl<|Zt aY fun a j=>?_
 refine Xi j rfl (fun p=>?_) (fun p=>?_)
 ·have aD:=p
  have e3:k=3:=by simpa using p
  refine Q5 fun _ aZ=>?_;refine Xy none (fun _=>false) mixed ?_;intro bU g;have e:=e.below g;have f:=f.below g;have i:=btr i g;refine Yb j<|Ye 0 rfl (Vn X6 f)<|Ye 3 rfl (Vn X6 f)<|Y1 1 ?_;refine Yk rfl trivial (Vc (Xdz _ 6) X5j) (fun _ _ ⟨_,g⟩=>g) ?_;rintro _ bW ⟨rfl,g⟩;have e:=e.below g;have f:=f.below g;have i:=btr i g;refine Y1 2<|Yk rfl trivial (Vc (Xdz _ 2) X5j) (fun _ _ ⟨_,g⟩=>g) ?_;rintro _ bZ ⟨rfl,g⟩;have e:=e.below g;have f:=f.below g;have i:=btr i g;refine Y1 4<|Yk rfl trivial (X7 (k:=4) (vs:=[.agg #[vi 0,vi 0,vi 0,vi 0,vi 0],.agg #[vi ((dPow 6).num.a),vi ((dPow 6).num.b),vi ((dPow 6).num.c),vi ((dPow 6).num.d),vi ((dPow 6).exp)],.agg #[vi ((dPow 2).num.a),vi ((dPow 2).num.b),vi ((dPow 2).num.c),vi ((dPow 2).num.d),vi ((dPow 2).exp)],.agg #[vi 0,vi 0,vi 0,vi 0,vi 0]]) (zs:=[vi 0,vi 0,vi 0,vi 0,vi 0,vi ((dPow 6).num.a),vi ((dPow 6).num.b),vi ((dPow 6).num.c),vi ((dPow 6).num.d),vi ((dPow 6).exp),vi ((dPow 2).num.a),vi ((dPow 2).num.b),vi ((dPow 2).num.c),vi ((dPow 2).num.d),vi ((dPow 2).exp),vi 0,vi 0,vi 0,vi 0,vi 0]) rfl Xs X0u rfl rfl) (fun _ _ ⟨_,_,_,h,_⟩=>h) ?_;rintro _ cA ⟨b23,rfl,b0,g,b1⟩
  have b2:b4≠b23:=by have:=e.lt;omega
  have b3:b5≠b23:=by have:=f.lt;omega
  have aE:=Q0 i.size b0;have i:=btr i g;refine Yo 5 rfl (fun _=>X0q rfl) ?_;refine Yd fun a j=>?_;refine aZ _ _<|Q6<|X00<|X8 ?_;refine X4 j (Xp j rfl rfl) ?_;exact ⟨(some ⟨b23,0,none⟩),4,by rw [oneL,Q3 t,Q3 e2,Q4 e3];rfl,by rw [oneL,Q3 t,Q3 e2,Q4 e3];exact (Own.of_blkL Xw b1 aE rfl rfl (by decide)),i⟩
 have aD:=p
 have e3:¬ k=3:=by simpa using p
 refine Q7<|Xk<|bO _ _<|Q5 fun _ b6=>?_;refine Xy none (fun _=>false) mixed ?_;intro cB g;have e:=e.below g;have f:=f.below g;have i:=btr i g;refine Yb j<|Ye 0 rfl (Vn X6 e)<|Ye 1 rfl (Vn X6 f)<|Ye 2 rfl (Vn X6 f)<|Yo 4 rfl (fun _=>Xa rfl)<|Yo 5 rfl (fun _=>X1j rfl rfl (by omega) (by omega))<|Y1 3 ?_;refine Yk rfl trivial (X7 (k:=5) (vs:=[vi 4,vi 2,vi 6,vi 1,vi 7]) (zs:=[vi 4,vi 2,vi 6,vi 1,vi 7]) rfl X2r X4j rfl rfl) (fun _ _ ⟨_,_,_,h,_⟩=>h) ?_;rintro _ cC ⟨cD,rfl,b8,g,y⟩;have bQ:=Q0 i.size b8;have e:=e.below g;have f:=f.below g;have i:=btr i g;refine Yi (k:=(k-4).toNat) (u:=(turnOf k)) (enc:=encI) (l:=[4,2,6,1,7]) 6 rfl trivial rfl rfl X2r X66 X6f (Rd.of_blk y rfl _ y.lt) (Xkm (by omega) (by omega)) (by omega) ?_;intro cE aF;refine Ye 7 rfl (X0 rfl X9 aF)<|Y1 8 ?_;refine Yk rfl trivial (Vc (Xdz _ (turnOf k)) X5j) (fun _ _ ⟨_,g⟩=>g) ?_;rintro _ cF ⟨rfl,g⟩;have e:=e.below g;have f:=f.below g;have i:=btr i g;refine Y1 9<|Yk rfl trivial (X7 (k:=4) (vs:=[.agg #[vi ((dPow 0).num.a),vi ((dPow 0).num.b),vi ((dPow 0).num.c),vi ((dPow 0).num.d),vi ((dPow 0).exp)],.agg #[vi 0,vi 0,vi 0,vi 0,vi 0],.agg #[vi 0,vi 0,vi 0,vi 0,vi 0],.agg #[vi ((dPow (turnOf k)).num.a),vi ((dPow (turnOf k)).num.b),vi ((dPow (turnOf k)).num.c),vi ((dPow (turnOf k)).num.d),vi ((dPow (turnOf k)).exp)]]) (zs:=[vi ((dPow 0).num.a),vi ((dPow 0).num.b),vi ((dPow 0).num.c),vi ((dPow 0).num.d),vi ((dPow 0).exp),vi 0,vi 0,vi 0,vi 0,vi 0,vi 0,vi 0,vi 0,vi 0,vi 0,vi ((dPow (turnOf k)).num.a),vi ((dPow (turnOf k)).num.b),vi ((dPow (turnOf k)).num.c),vi ((dPow (turnOf k)).num.d),vi ((dPow (turnOf k)).exp)]) rfl Xs X0u rfl rfl) (fun _ _ ⟨_,_,_,h,_⟩=>h) ?_;rintro _ cG ⟨b30,rfl,b9,g,bC⟩
 have bD:b4≠b30:=by have:=e.lt;omega
 have bE:b5≠b30:=by have:=f.lt;omega
 have aG:=Q0 i.size b9;have i:=btr i g;refine Yo 10 rfl (fun _=>X0q rfl) ?_;refine Yd fun a j=>?_;refine b6 _ _ ?_
 refine Q6 (X4 j (Xp j rfl rfl) ?_)
 exact ⟨(some ⟨b30,0,none⟩),4,by rw [oneL,Q3 t,Q3 e2,Q3 e3];rfl,by rw [oneL,Q3 t,Q3 e2,Q3 e3];exact (Own.of_blkL Xw bC aG rfl rfl (by decide)),i⟩
theorem Y12(w0:World)(n:Int)(g:Gt)(row:Int)(col:Int)(hg:gOk n g=true) : Ret Tryz.prog 148 [vi n,.agg #[vi g.k,vi g.a,vi g.b],vi row,vi col] w0 (fun v w=>v=dV (cellS n g row col)∧Below w0.heap.size w0 w):=by
 have dC:=X2k hg;have dD:=X3o n row g.a;have dE:=X3o n col g.a;refine enter Tryz.func148 rfl 119 rfl rfl ?_;intro a f
 have o:=bz w0
 refine Zs f fun _ cU=>?_;refine Zf (X0b (zs:=[vi g.k,vi g.a,vi g.b]) rfl rfl) ?_;rintro _ w1 ⟨b2,rfl,cV,A,q⟩;have dB:=Q0 o.size cV;have o:=btr o A;refine Zf (X3 (zs:=[vi 0,vi 0,vi 0,vi 0,vi 0]) X0l rfl) ?_;rintro _ w2 ⟨b3,rfl,cW,A,e⟩;have z:=Q0 o.size cW;have q:=q.below A;have o:=btr o A;refine Zx cU fun a f _ cX=>?_;refine Zf (Vc (Xdz _ 0) X5j) ?_;rintro _ w3 ⟨rfl,A⟩;have q:=q.below A;have e:=e.below A;have o:=btr o A;refine Ze (Xf (ps:=[]) (cs:=[vi 0,vi 0,vi 0,vi 0,vi 0]) rfl (fun _=>by first|rfl|kernel_rfl))<|Zf (X3 (zs:=[vi 0,vi 0,vi 0,vi 0,vi 0]) X0l rfl) ?_;rintro _ w4 ⟨b5,rfl,d5,A,x⟩
 have cQ:b3≠b5:=by have:=e.lt;omega
 have aI:=Q0 o.size d5;have q:=q.below A;have e:=e.below A;have o:=btr o A;refine Zf (X3 (zs:=[vi 0,vi 0,vi 0,vi 0,vi 0]) X0l rfl) ?_;rintro _ w5 ⟨b6,rfl,d6,A,y⟩
 have cR:b3≠b6:=by have:=e.lt;omega
 have cS:b5≠b6:=by have:=x.lt;omega
 have aX:=Q0 o.size d6;have q:=q.below A;have e:=e.below A;have x:=x.below A;have o:=btr o A;refine Zo (Vw [vi ((dPow 0).num.a),vi ((dPow 0).num.b),vi ((dPow 0).num.c),vi ((dPow 0).num.d),vi ((dPow 0).exp)] Xb x) ?_;rintro _ w6 ⟨h,B⟩;have p:=x;have q:=q.only h (Blk.ne q p rfl);have e:=e.only h (by omega);have y:=y.only h (by omega);have o:=Below.only o h aI;have x:=B;refine Zo (Vw [vi 0,vi 0,vi 0,vi 0,vi 0] Xb y) ?_;rintro _ w7 ⟨h,B⟩;have p:=y;have q:=q.only h (Blk.ne q p rfl);have e:=e.only h (by omega);have x:=x.only h (by omega);have o:=Below.only o h aX;have y:=B;refine Zx cX fun a f _ d7=>?_;refine Zm rfl<|Za rfl<|ZX d7 fun a f _ aH=>?_;refine Zs f fun _ d8=>?_;refine Ze (Vd rfl X1t 0)<|Ze (X0 rfl X9 (q.at 0))<|Zt d8 fun a f=>?_;refine Q8<|Zs f fun _ aY=>?_;refine Ze (X15 rfl rfl)<|Za rfl<|Zt aY fun a f=>?_
 refine Xi f rfl (fun J=>?_) (fun J=>?_)
 ·have D:=J;have hk:=eq_of_beq J
  have H:¬ g.k≤8:=by omega
  have C:toS n g col=col:=by simp [toS,hk]
  have hv:valS n g col=dPow 1:=by simp [valS,hk]
  refine Zr f<|Zf (Vc (Xdz _ 1) X5j) ?_;rintro _ w8 ⟨rfl,A⟩;have e:=e.below A;have x:=x.below A;have y:=y.below A;have o:=btr o A;refine Zo (Vw [vi ((dPow 1).num.a),vi ((dPow 1).num.b),vi ((dPow 1).num.c),vi ((dPow 1).num.d),vi ((dPow 1).exp)] Xb x) ?_;rintro _ w9 ⟨h,B⟩;have p:=x;have e:=e.only h (by omega);have y:=y.only h (by omega);have o:=Below.only o h aI;have x:=B;refine Zn fun a f=>?_;refine Xk<|aH _ _<|Q5 fun _ aZ=>?_;refine Zs f fun _ b0=>?_;refine Zm rfl<|Zm rfl<|Ze (X15 rfl rfl)<|Zt b0 fun a f=>?_
  refine Xi f rfl (fun L=>?_) (fun L=>?_)
  ·have aJ:=L
   have i:cellS n g row col=valS n g col:=by rw [cellS,Q3 H,Q4 ((eq_of_beq L).trans C.symm)]
   rw [hv] at i
   refine Zs f fun _ b1=>?_;refine Ze (Vn X6 x)<|Zo (Vw [vi ((dPow 1).num.a),vi ((dPow 1).num.b),vi ((dPow 1).num.c),vi ((dPow 1).num.d),vi ((dPow 1).exp)] Xb e) ?_;rintro _ dF ⟨h,B⟩;have p:=e;have o:=Below.only o h z;have e:=B;refine Zt b1 fun a f=>?_;refine Q6<|X8<|X4 f (Xp f rfl (ResV.cellN (l:=[vi ((dPow 1).num.a),vi ((dPow 1).num.b),vi ((dPow 1).num.c),vi ((dPow 1).num.d),vi ((dPow 1).exp)]) rfl X6 (e.at 0) rfl)) ?_;exact ⟨(by rw [i];try rfl),o⟩
  have aJ:=L
  have i:cellS n g row col=dZ:=by rw [cellS,Q3 H,Q3 (fun e9=>X1k L (e9.trans C))]
  refine Q7<|aZ _ _<|Zs f fun _ b4=>?_;refine Ze (Vn X6 y)<|Zo (Vw [vi 0,vi 0,vi 0,vi 0,vi 0] Xb e) ?_;rintro _ dG ⟨h,B⟩;have p:=e;have o:=Below.only o h z;have e:=B;refine Zt b4 fun a f=>?_
  refine Q6 (X4 f (Xp f rfl (ResV.cellN (l:=[vi 0,vi 0,vi 0,vi 0,vi 0]) rfl X6 (e.at 0) rfl)) ?_)
  exact ⟨(by rw [i];try rfl),o⟩
 have D:=J;have dH:=X1k J;refine Zs f fun _ b7=>?_;refine Ze (X15 rfl rfl)<|Za rfl<|Zt b7 fun a f=>?_
 refine Xi f rfl (fun M=>?_) (fun M=>?_)
 ·have E:=M;have hk:=eq_of_beq M
  have H:¬ g.k≤8:=by omega
  have hv:valS n g col=dPow 0:=by simp [valS,hk]
  refine Zs f fun _ b8=>?_;refine Zm rfl<|Zm rfl<|Ze (Vd rfl X18 1)<|Ze (X0 rfl X9 (q.at 1))<|Zf (Vc (Xfs _ n col g.a (by omega) (by omega) (by omega)) X7a) ?_;rintro _ _ ⟨rfl,rfl⟩;refine Ze (X15 rfl rfl)<|Zt b8 fun a f=>?_
  refine Xi f rfl (fun N=>?_) (fun N=>?_)
  ·have aK:=N
   have C:toS n g col=flipF n col g.b:=by rw [toS,Q4 hk,Q4 (eq_of_beq N)]
   refine Zr f<|Zm rfl<|Zm rfl<|Ze (X1j rfl rfl (by omega) (by omega))<|Ze (Vd rfl X1s 2)<|Ze (X0 rfl X9 (q.at 2))<|Ze (X1j rfl rfl (by omega) (by omega))<|Ze (Xdy (m:=(n-1-g.b).toNat) Tryz.underlying3 Tryz.underlying99 rfl (by omega) (by omega))<|Ze (Xm2 (m:=(n-1-g.b).toNat) rfl rfl rfl (by omega))<|Ze (Xn3 rfl rfl)<|Za rfl ?_;refine Zn fun a f=>?_;refine Xk<|aH _ _<|Q5 fun _ b9=>?_;refine Zs f fun _ bC=>?_;refine Zm rfl<|Zm rfl<|Ze (X15 rfl rfl)<|Zt bC fun a f=>?_
   refine Xi f rfl (fun Q=>?_) (fun Q=>?_)
   ·have aL:=Q
    have i:cellS n g row col=valS n g col:=by rw [cellS,Q3 H,Q4 ((eq_of_beq Q).trans C.symm)]
    rw [hv] at i
    refine Zs f fun _ bD=>?_;refine Ze (Vn X6 x)<|Zo (Vw [vi ((dPow 0).num.a),vi ((dPow 0).num.b),vi ((dPow 0).num.c),vi ((dPow 0).num.d),vi ((dPow 0).exp)] Xb e) ?_;rintro _ dI ⟨h,B⟩;have p:=e;have o:=Below.only o h z;have e:=B;refine Zt bD fun a f=>?_;refine Q6<|X8<|X4 f (Xp f rfl (ResV.cellN (l:=[vi ((dPow 0).num.a),vi ((dPow 0).num.b),vi ((dPow 0).num.c),vi ((dPow 0).num.d),vi ((dPow 0).exp)]) rfl X6 (e.at 0) rfl)) ?_;exact ⟨(by rw [i];try rfl),o⟩
   have aL:=Q
   have i:cellS n g row col=dZ:=by rw [cellS,Q3 H,Q3 (fun e9=>X1k Q (e9.trans C))]
   refine Q7<|b9 _ _<|Zs f fun _ bE=>?_;refine Ze (Vn X6 y)<|Zo (Vw [vi 0,vi 0,vi 0,vi 0,vi 0] Xb e) ?_;rintro _ dJ ⟨h,B⟩;have p:=e;have o:=Below.only o h z;have e:=B;refine Zt bE fun a f=>?_
   refine Q6 (X4 f (Xp f rfl (ResV.cellN (l:=[vi 0,vi 0,vi 0,vi 0,vi 0]) rfl X6 (e.at 0) rfl)) ?_)
   exact ⟨(by rw [i];try rfl),o⟩
  have aK:=N
  have C:toS n g col=col:=by rw [toS,Q4 hk,Q3 (X1k N)]
  refine Q7<|Xk<|aH _ _<|Q5 fun _ bF=>?_;refine Zs f fun _ bG=>?_;refine Zm rfl<|Zm rfl<|Ze (X15 rfl rfl)<|Zt bG fun a f=>?_
  refine Xi f rfl (fun U=>?_) (fun U=>?_)
  ·have aM:=U
   have i:cellS n g row col=valS n g col:=by rw [cellS,Q3 H,Q4 ((eq_of_beq U).trans C.symm)]
   rw [hv] at i
   refine Zs f fun _ bH=>?_;refine Ze (Vn X6 x)<|Zo (Vw [vi ((dPow 0).num.a),vi ((dPow 0).num.b),vi ((dPow 0).num.c),vi ((dPow 0).num.d),vi ((dPow 0).exp)] Xb e) ?_;rintro _ dK ⟨h,B⟩;have p:=e;have o:=Below.only o h z;have e:=B;refine Zt bH fun a f=>?_;refine Q6<|X8<|X4 f (Xp f rfl (ResV.cellN (l:=[vi ((dPow 0).num.a),vi ((dPow 0).num.b),vi ((dPow 0).num.c),vi ((dPow 0).num.d),vi ((dPow 0).exp)]) rfl X6 (e.at 0) rfl)) ?_;exact ⟨(by rw [i];try rfl),o⟩
  have aM:=U
  have i:cellS n g row col=dZ:=by rw [cellS,Q3 H,Q3 (fun e9=>X1k U (e9.trans C))]
  refine Q7<|bF _ _<|Zs f fun _ bI=>?_;refine Ze (Vn X6 y)<|Zo (Vw [vi 0,vi 0,vi 0,vi 0,vi 0] Xb e) ?_;rintro _ dL ⟨h,B⟩;have p:=e;have o:=Below.only o h z;have e:=B;refine Zt bI fun a f=>?_
  refine Q6 (X4 f (Xp f rfl (ResV.cellN (l:=[vi 0,vi 0,vi 0,vi 0,vi 0]) rfl X6 (e.at 0) rfl)) ?_)
  exact ⟨(by rw [i];try rfl),o⟩
 have E:=M;have h9:=X1k M;refine Zs f fun _ bJ=>?_;refine Ze (X15 rfl rfl)<|Za rfl<|Zt bJ fun a f=>?_
 refine Xi f rfl (fun W=>?_) (fun W=>?_)
 ·have G:=W;have hk:=eq_of_beq W
  have H:¬ g.k≤8:=by omega
  have C:toS n g col=col:=by simp [toS,hk]
  refine Q5 fun _ bK=>?_;refine X09 (fun a w=>Fr a 119 [(2,vi row),(8,.pointer (some ⟨b3,0,none⟩)),(9,.pointer (some ⟨b5,0,none⟩)),(10,.pointer (some ⟨b6,0,none⟩)),(11,vi col),(82,.bool (((bitF n col g.a)==1)&&((bitF n col g.b)==1)))]∧w7=w) ?_ ?_
  ·refine Zr f<|Zm rfl<|Zm rfl<|Ze (Vd rfl X18 1)<|Ze (X0 rfl X9 (q.at 1))<|Zf (Vc (Xfs _ n col g.a (by omega) (by omega) (by omega)) X7a) ?_;rintro _ _ ⟨rfl,rfl⟩;refine Ze (X15 rfl rfl)<|Zm rfl ?_
   refine Zg 75 rfl (fun t=>?_) (fun t=>?_)
   ·refine Zv (gW t) (Xa rfl) ?_;refine Zv (gW t) (Xa rfl) ?_;refine Zv (gW t) (Vd rfl X1s 2) ?_;refine Zv (gW t) (X0 rfl X9 (q.at 2)) ?_;refine Zk (gW t) (Vc (Xfs _ n col g.b (by omega) (by omega) (by omega)) X7a) ?_;rintro _ _ ⟨rfl,rfl⟩;refine Zv (gW t) (X15 rfl rfl) ?_;refine Ze (Xh rfl t rfl) ?_;refine Zn fun a f=>?_;exact ⟨f.sub ⟨rfl,rfl,rfl,rfl,rfl,X2 rfl (by first|rfl|(simp only [D,E,G,t,bs];done)|simp [D,E,G,t]),trivial⟩,rfl⟩
   refine Zp (gP t) ?_;refine Zp (gP t) ?_;refine Zp (gP t) ?_;refine Zp (gP t) ?_;refine Zp (gP t) ?_;refine Zp (gP t) ?_;refine Ze (Xd rfl t rfl) ?_;refine Zn fun a f=>?_;exact ⟨f.sub ⟨rfl,rfl,rfl,rfl,rfl,X2 rfl (by first|rfl|(simp only [D,E,G,t,bs];done)|simp [D,E,G,t]),trivial⟩,rfl⟩
  rintro a _ ⟨f,rfl⟩;refine bK _ _ ?_
  refine Xi f rfl (fun a9=>?_) (fun a9=>?_)
  ·have aN:=a9
   have hv:valS n g col=dPow 4:=by have h9:bitF n col g.a=1∧bitF n col g.b=1:=(by simpa using a9);simp [valS,hk,h9]
   refine Zr f<|Zf (Vc (Xdz _ 4) X5j) ?_;rintro _ dM ⟨rfl,A⟩;have e:=e.below A;have x:=x.below A;have y:=y.below A;have o:=btr o A;refine Zo (Vw [vi ((dPow 4).num.a),vi ((dPow 4).num.b),vi ((dPow 4).num.c),vi ((dPow 4).num.d),vi ((dPow 4).exp)] Xb x) ?_;rintro _ dN ⟨h,B⟩;have p:=x;have e:=e.only h (by omega);have y:=y.only h (by omega);have o:=Below.only o h aI;have x:=B;refine Zn fun a f=>?_;refine Xk<|aH _ _<|Q5 fun _ bL=>?_;refine Zs f fun _ bM=>?_;refine Zm rfl<|Zm rfl<|Ze (X15 rfl rfl)<|Zt bM fun a f=>?_
   refine Xi f rfl (fun aA=>?_) (fun aA=>?_)
   ·have aO:=aA
    have i:cellS n g row col=valS n g col:=by rw [cellS,Q3 H,Q4 ((eq_of_beq aA).trans C.symm)]
    rw [hv] at i
    refine Zs f fun _ bN=>?_;refine Ze (Vn X6 x)<|Zo (Vw [vi ((dPow 4).num.a),vi ((dPow 4).num.b),vi ((dPow 4).num.c),vi ((dPow 4).num.d),vi ((dPow 4).exp)] Xb e) ?_;rintro _ dP ⟨h,B⟩;have p:=e;have o:=Below.only o h z;have e:=B;refine Zt bN fun a f=>?_;refine Q6<|X8<|X4 f (Xp f rfl (ResV.cellN (l:=[vi ((dPow 4).num.a),vi ((dPow 4).num.b),vi ((dPow 4).num.c),vi ((dPow 4).num.d),vi ((dPow 4).exp)]) rfl X6 (e.at 0) rfl)) ?_;exact ⟨(by rw [i];try rfl),o⟩
   have aO:=aA
   have i:cellS n g row col=dZ:=by rw [cellS,Q3 H,Q3 (fun e9=>X1k aA (e9.trans C))]
   refine Q7<|bL _ _<|Zs f fun _ bO=>?_;refine Ze (Vn X6 y)<|Zo (Vw [vi 0,vi 0,vi 0,vi 0,vi 0] Xb e) ?_;rintro _ dQ ⟨h,B⟩;have p:=e;have o:=Below.only o h z;have e:=B;refine Zt bO fun a f=>?_
   refine Q6 (X4 f (Xp f rfl (ResV.cellN (l:=[vi 0,vi 0,vi 0,vi 0,vi 0]) rfl X6 (e.at 0) rfl)) ?_)
   exact ⟨(by rw [i];try rfl),o⟩
  have aN:=a9
  have hv:valS n g col=dPow 0:=by have h9:¬ (bitF n col g.a=1∧bitF n col g.b=1):=(by simpa using a9);simp only [valS,hk,h9];simp
  refine Q7<|Xk<|aH _ _<|Q5 fun _ bP=>?_;refine Zs f fun _ bQ=>?_;refine Zm rfl<|Zm rfl<|Ze (X15 rfl rfl)<|Zt bQ fun a f=>?_
  refine Xi f rfl (fun aB=>?_) (fun aB=>?_)
  ·have aP:=aB
   have i:cellS n g row col=valS n g col:=by rw [cellS,Q3 H,Q4 ((eq_of_beq aB).trans C.symm)]
   rw [hv] at i
   refine Zs f fun _ bR=>?_;refine Ze (Vn X6 x)<|Zo (Vw [vi ((dPow 0).num.a),vi ((dPow 0).num.b),vi ((dPow 0).num.c),vi ((dPow 0).num.d),vi ((dPow 0).exp)] Xb e) ?_;rintro _ dR ⟨h,B⟩;have p:=e;have o:=Below.only o h z;have e:=B;refine Zt bR fun a f=>?_;refine Q6<|X8<|X4 f (Xp f rfl (ResV.cellN (l:=[vi ((dPow 0).num.a),vi ((dPow 0).num.b),vi ((dPow 0).num.c),vi ((dPow 0).num.d),vi ((dPow 0).exp)]) rfl X6 (e.at 0) rfl)) ?_;exact ⟨(by rw [i];try rfl),o⟩
  have aP:=aB
  have i:cellS n g row col=dZ:=by rw [cellS,Q3 H,Q3 (fun e9=>X1k aB (e9.trans C))]
  refine Q7<|bP _ _<|Zs f fun _ bS=>?_;refine Ze (Vn X6 y)<|Zo (Vw [vi 0,vi 0,vi 0,vi 0,vi 0] Xb e) ?_;rintro _ dS ⟨h,B⟩;have p:=e;have o:=Below.only o h z;have e:=B;refine Zt bS fun a f=>?_
  refine Q6 (X4 f (Xp f rfl (ResV.cellN (l:=[vi 0,vi 0,vi 0,vi 0,vi 0]) rfl X6 (e.at 0) rfl)) ?_)
  exact ⟨(by rw [i];try rfl),o⟩
 have G:=W;have dT:=X1k W;refine Zs f fun _ bU=>?_;refine Ze (X15 rfl rfl)<|Za rfl<|Zt bU fun a f=>?_
 refine Xi f rfl (fun aC=>?_) (fun aC=>?_)
 ·have aQ:=aC;have hk:=eq_of_beq aC
  have H:¬ g.k≤8:=by omega
  have hv:valS n g col=dPow 0:=by simp [valS,hk]
  refine Q5 fun _ bW=>?_;refine Xy none (fun _=>false) mixed ?_;intro dU A;have q:=q.below A;have e:=e.below A;have x:=x.below A;have y:=y.below A;have o:=btr o A;refine Yb f<|Yo 0 rfl (fun _=>Xa rfl)<|Yo 1 rfl (fun _=>Xa rfl)<|Yo 2 rfl (fun _=>Vd rfl X18 1)<|Ye 3 rfl (X0 rfl X9 (q.at 1))<|Yo 5 rfl (fun _=>Xa rfl)<|Yo 6 rfl (fun _=>Xa rfl)<|Yo 7 rfl (fun _=>Vd rfl X1s 2)<|Ye 8 rfl (X0 rfl X9 (q.at 2))<|Y1 4 ?_;refine Yz rfl trivial (Vc (Xfs _ n col g.a (by omega) (by omega) (by omega)) X7a) ?_;refine Y1 9<|Yz rfl trivial (Vc (Xfs _ n col g.b (by omega) (by omega) (by omega)) X7a) ?_;refine Yo 10 rfl (fun _=>X3w rfl rfl) ?_;refine Yd fun a f=>?_;refine bW _ _ ?_
  refine Xi f rfl (fun aD=>?_) (fun aD=>?_)
  ·have aR:=aD
   have C:toS n g col=flipF n (flipF n col g.a) g.b:=by have h9:bitF n col g.a≠bitF n col g.b:=(by simpa using aD);simp [toS,hk,h9]
   refine Zr f<|Zm rfl<|Zm rfl<|Ze (X1j rfl rfl (by omega) (by omega))<|Ze (Vd rfl X18 1)<|Ze (X0 rfl X9 (q.at 1))<|Ze (X1j rfl rfl (by omega) (by omega))<|Ze (Xdy (m:=(n-1-g.a).toNat) Tryz.underlying3 Tryz.underlying99 rfl (by omega) (by omega))<|Ze (Xm2 (m:=(n-1-g.a).toNat) rfl rfl rfl (by omega))<|Ze (Xn3 rfl rfl)<|Zm rfl ?_;refine Ze (X1j rfl rfl (by omega) (by omega))<|Ze (Vd rfl X1s 2)<|Ze (X0 rfl X9 (q.at 2))<|Ze (X1j rfl rfl (by omega) (by omega))<|Ze (Xdy (m:=(n-1-g.b).toNat) Tryz.underlying3 Tryz.underlying99 rfl (by omega) (by omega))<|Ze (Xm2 (m:=(n-1-g.b).toNat) rfl rfl rfl (by omega))<|Ze (Xn3 rfl rfl)<|Za rfl ?_;refine Zn fun a f=>?_;refine Xk<|aH _ _<|Q5 fun _ bZ=>?_;refine Zs f fun _ cA=>?_;refine Zm rfl<|Zm rfl<|Ze (X15 rfl rfl)<|Zt cA fun a f=>?_
   refine Xi f rfl (fun aE=>?_) (fun aE=>?_)
   ·have aS:=aE
    have i:cellS n g row col=valS n g col:=by rw [cellS,Q3 H,Q4 ((eq_of_beq aE).trans C.symm)]
    rw [hv] at i
    refine Zs f fun _ cB=>?_;refine Ze (Vn X6 x)<|Zo (Vw [vi ((dPow 0).num.a),vi ((dPow 0).num.b),vi ((dPow 0).num.c),vi ((dPow 0).num.d),vi ((dPow 0).exp)] Xb e) ?_;rintro _ dW ⟨h,B⟩;have p:=e;have o:=Below.only o h z;have e:=B;refine Zt cB fun a f=>?_;refine Q6<|X8<|X4 f (Xp f rfl (ResV.cellN (l:=[vi ((dPow 0).num.a),vi ((dPow 0).num.b),vi ((dPow 0).num.c),vi ((dPow 0).num.d),vi ((dPow 0).exp)]) rfl X6 (e.at 0) rfl)) ?_;exact ⟨(by rw [i];try rfl),o⟩
   have aS:=aE
   have i:cellS n g row col=dZ:=by rw [cellS,Q3 H,Q3 (fun e9=>X1k aE (e9.trans C))]
   refine Q7<|bZ _ _<|Zs f fun _ cC=>?_;refine Ze (Vn X6 y)<|Zo (Vw [vi 0,vi 0,vi 0,vi 0,vi 0] Xb e) ?_;rintro _ dX ⟨h,B⟩;have p:=e;have o:=Below.only o h z;have e:=B;refine Zt cC fun a f=>?_
   refine Q6 (X4 f (Xp f rfl (ResV.cellN (l:=[vi 0,vi 0,vi 0,vi 0,vi 0]) rfl X6 (e.at 0) rfl)) ?_)
   exact ⟨(by rw [i];try rfl),o⟩
  have aR:=aD
  have C:toS n g col=col:=by have h9:bitF n col g.a=bitF n col g.b:=(by simpa using aD);simp [toS,hk,h9]
  refine Q7<|Xk<|aH _ _<|Q5 fun _ cD=>?_;refine Zs f fun _ cE=>?_;refine Zm rfl<|Zm rfl<|Ze (X15 rfl rfl)<|Zt cE fun a f=>?_
  refine Xi f rfl (fun aF=>?_) (fun aF=>?_)
  ·have aT:=aF
   have i:cellS n g row col=valS n g col:=by rw [cellS,Q3 H,Q4 ((eq_of_beq aF).trans C.symm)]
   rw [hv] at i
   refine Zs f fun _ cF=>?_;refine Ze (Vn X6 x)<|Zo (Vw [vi ((dPow 0).num.a),vi ((dPow 0).num.b),vi ((dPow 0).num.c),vi ((dPow 0).num.d),vi ((dPow 0).exp)] Xb e) ?_;rintro _ dY ⟨h,B⟩;have p:=e;have o:=Below.only o h z;have e:=B;refine Zt cF fun a f=>?_;refine Q6<|X8<|X4 f (Xp f rfl (ResV.cellN (l:=[vi ((dPow 0).num.a),vi ((dPow 0).num.b),vi ((dPow 0).num.c),vi ((dPow 0).num.d),vi ((dPow 0).exp)]) rfl X6 (e.at 0) rfl)) ?_;exact ⟨(by rw [i];try rfl),o⟩
  have aT:=aF
  have i:cellS n g row col=dZ:=by rw [cellS,Q3 H,Q3 (fun e9=>X1k aF (e9.trans C))]
  refine Q7<|cD _ _<|Zs f fun _ cG=>?_;refine Ze (Vn X6 y)<|Zo (Vw [vi 0,vi 0,vi 0,vi 0,vi 0] Xb e) ?_;rintro _ e8 ⟨h,B⟩;have p:=e;have o:=Below.only o h z;have e:=B;refine Zt cG fun a f=>?_
  refine Q6 (X4 f (Xp f rfl (ResV.cellN (l:=[vi 0,vi 0,vi 0,vi 0,vi 0]) rfl X6 (e.at 0) rfl)) ?_)
  exact ⟨(by rw [i];try rfl),o⟩
 have aQ:=aC;have eA:=X1k aC
 have H:g.k≤8:=by omega
 refine Q5 fun _ cH=>?_;refine Zs f fun _ cJ=>?_;refine Zm rfl<|Zm rfl<|Ze (Xn3 rfl rfl)<|Zm rfl<|Ze (X1j rfl rfl (by omega) (by omega))<|Ze (Vd rfl X18 1)<|Ze (X0 rfl X9 (q.at 1))<|Ze (X1j rfl rfl (by omega) (by omega))<|Ze (Xdy (m:=(n-1-g.a).toNat) Tryz.underlying3 Tryz.underlying99 rfl (by omega) (by omega))<|Ze (Xm2 (m:=(n-1-g.a).toNat) rfl rfl rfl (by omega)) ?_;refine Ze (Xpq rfl rfl)<|Ze (X3w rfl rfl)<|Zt cJ fun a f=>?_
 refine Xi f rfl (fun aG=>?_) (fun aG=>?_)
 ·have aU:=aG
  have i:cellS n g row col=dZ:=by rw [cellS,Q4 H,Q4 (by simpa using aG)]
  refine Zs f fun _ cK=>?_;refine Ze (Vn X6 y)<|Zo (Vw [vi 0,vi 0,vi 0,vi 0,vi 0] Xb e) ?_;rintro _ eB ⟨h,B⟩;have p:=e;have o:=Below.only o h z;have e:=B;refine Zt cK fun a f=>?_;refine Q6<|X8<|X00<|X8 ?_;refine X4 f (Xp f rfl (ResV.cellN (l:=[vi 0,vi 0,vi 0,vi 0,vi 0]) rfl X6 (e.at 0) rfl)) ?_;exact ⟨(by rw [i];try rfl),o⟩
 have aU:=aG
 have i:cellS n g row col=(oneL g.k).getD (2*bitF n row g.a+bitF n col g.a).toNat dZ:=by rw [cellS,Q4 H,Q3 (by simpa using aG)]
 refine Q7<|cH _ _<|Q5 fun _ cM=>?_;refine Xy none (fun j=>[17].contains j) mixed ?_;intro eC A;have q:=q.below A;have e:=e.below A;have y:=y.below A;have o:=btr o A;refine Yb f<|Yo 0 rfl (fun _=>Vd rfl X1t 0)<|Ye 1 rfl (X0 rfl X9 (q.at 0))<|Yo 3 rfl (fun _=>Xa rfl)<|Yo 4 rfl (fun _=>Xa rfl)<|Yo 5 rfl (fun _=>Vd rfl X18 1)<|Ye 6 rfl (X0 rfl X9 (q.at 1))<|Yo 9 rfl (fun _=>Xa rfl)<|Yo 10 rfl (fun _=>Xa rfl)<|Yo 11 rfl (fun _=>Vd rfl X18 1)<|Ye 12 rfl (X0 rfl X9 (q.at 1)) ?_;refine Y1 2<|Yk rfl trivial (Vc (Xx5 _ g.k (by omega)) Xlk) (fun _ _ ⟨d9,dA,_,I,A⟩=>A) ?_;rintro _ eD ⟨d9,dA,rfl,I,A⟩;have cO:=I.awayNew e.lt;have cP:=I.awayNew y.lt;have I:=I.lower o.size;have e:=e.below A;have o:=btr o A;refine Y1 7<|Yz rfl trivial (Vc (Xfs _ n row g.a (by omega) (by omega) (by omega)) X7a) ?_;refine Yo 8 rfl (fun _=>X4r rfl rfl (by omega) (by omega))<|Y1 13 ?_;refine Yz rfl trivial (Vc (Xfs _ n col g.a (by omega) (by omega) (by omega)) X7a) ?_;refine Yo 14 rfl (fun _=>X02 rfl rfl (by omega) (by omega))<|Yi (k:=(2*bitF n row g.a+bitF n col g.a).toNat) (u:=((oneL g.k).getD (2*bitF n row g.a+bitF n col g.a).toNat dZ)) (enc:=encD) (l:=(oneL g.k)) 15 rfl trivial rfl rfl Xs Xb Xw I.rd (Xkl (by omega)) (by omega) ?_;intro eE aW;refine Ye 16 rfl (Xz (l:=[vi (((oneL g.k).getD (2*bitF n row g.a+bitF n col g.a).toNat dZ).num.a),vi (((oneL g.k).getD (2*bitF n row g.a+bitF n col g.a).toNat dZ).num.b),vi (((oneL g.k).getD (2*bitF n row g.a+bitF n col g.a).toNat dZ).num.c),vi (((oneL g.k).getD (2*bitF n row g.a+bitF n col g.a).toNat dZ).num.d),vi (((oneL g.k).getD (2*bitF n row g.a+bitF n col g.a).toNat dZ).exp)]) rfl X6 aW rfl)<|Y1 17 ?_
 refine Yh rfl trivial rfl (Vw [vi (((oneL g.k).getD (2*bitF n row g.a+bitF n col g.a).toNat dZ).num.a),vi (((oneL g.k).getD (2*bitF n row g.a+bitF n col g.a).toNat dZ).num.b),vi (((oneL g.k).getD (2*bitF n row g.a+bitF n col g.a).toNat dZ).num.c),vi (((oneL g.k).getD (2*bitF n row g.a+bitF n col g.a).toNat dZ).num.d),vi (((oneL g.k).getD (2*bitF n row g.a+bitF n col g.a).toNat dZ).exp)] Xb e) ?_;rintro _ eF ⟨h,B⟩;have p:=e;have o:=Below.only o h z;have e:=B;refine Yd fun a f=>?_;refine cM _ _<|Q6<|X00<|X8 ?_;refine X4 f (Xp f rfl (ResV.cellN (l:=[vi (((oneL g.k).getD (2*bitF n row g.a+bitF n col g.a).toNat dZ).num.a),vi (((oneL g.k).getD (2*bitF n row g.a+bitF n col g.a).toNat dZ).num.b),vi (((oneL g.k).getD (2*bitF n row g.a+bitF n col g.a).toNat dZ).num.c),vi (((oneL g.k).getD (2*bitF n row g.a+bitF n col g.a).toNat dZ).num.d),vi (((oneL g.k).getD (2*bitF n row g.a+bitF n col g.a).toNat dZ).exp)]) rfl X6 (e.at 0) rfl)) ?_;exact ⟨(by rw [i];try rfl),o⟩
theorem Xxv(H:World)(n:Int)(g:Gt)(W:gOk n g=true) : Ret Tryz.prog 100 [vi n,.agg #[vi g.k,vi g.a,vi g.b]] H (fun v w=>∃ A c,v=mV A c (gateS n g)∧Own w H.heap.size 86 5 encD A c (gateS n g).cells∧Below H.heap.size H w):=by
 have aY:=X2k W
 obtain ⟨d,hd⟩ : ∃ d:Nat,d=2^n.toNat:=⟨_,rfl⟩
 have aH:d≤32:=by rw [hd];exact X4f aY.1.2
 refine enter Tryz.func100 rfl 36 rfl rfl ?_;intro a t
 have p:=bz H
 refine Zs t fun _ aZ=>?_;refine Zf (X0b (zs:=[vi g.k,vi g.a,vi g.b]) rfl rfl) ?_;rintro _ w1 ⟨b2,rfl,J,y,e⟩;have b7:=Q0 p.size J;have p:=btr p y;refine Zf (X3 (zs:=[vi 0,vi 0,.slice none 0 0]) X0n rfl) ?_;rintro _ w2 ⟨b4,rfl,b0,y,f⟩;have aI:=Q0 p.size b0;have e:=e.below y;have p:=btr p y;refine Zx aZ fun a t _ b1=>?_;refine Zm rfl<|Ze (Xdy (m:=n.toNat) Tryz.underlying3 Tryz.underlying99 rfl (by omega) (by omega))<|Ze (Xa7 (m:=n.toNat) (D:=d) rfl rfl rfl ⟨hd,by omega⟩)<|Za rfl<|Zx b1 fun a t _ b3=>?_;refine Zm rfl<|Zm rfl<|Ze (Xf (ps:=[(0,vi (d:Int)),(1,vi (d:Int))]) (cs:=[vi (d:Int),vi (d:Int),.slice none 0 0]) rfl (fun _=>by first|rfl|kernel_rfl))<|Zf (X3 (zs:=[vi 0,vi 0,.slice none 0 0]) X0n rfl) ?_;rintro _ w3 ⟨b9,rfl,b5,y,o⟩
 have aX:b4≠b9:=by have:=f.lt;omega
 have a9:=Q0 p.size b5;have e:=e.below y;have f:=f.below y;have p:=btr p y;refine Zo (Vw [vi (d:Int),vi (d:Int),.slice none 0 0] Xt o) ?_;rintro _ w4 ⟨L,hb⟩;have z:=o;have e:=e.only L (Blk.ne e z rfl);have f:=f.only L (by omega);have p:=Below.only p L a9;have o:=hb;refine ZX b3 fun a t _ aJ=>?_;refine Zs t fun _ aK=>?_;refine Za rfl<|Zt aK fun a t=>?_;refine Q8<|X04 (σ:=Nat×(List Dy)) (fun (s:Nat×(List Dy)) (a:Act) (w:World)=>match s with|(i,l)=>∃ C E,Fr a 36 [(0,vi n),(3,.pointer (some ⟨b2,0,none⟩)),(4,.pointer (some ⟨b4,0,none⟩)),(5,vi (d:Int)),(6,.pointer (some ⟨b9,0,none⟩)),(7,vi (i:Int))]∧(i≤d)∧(gridL (fun i j=>cellS n g (i:Int) (j:Int)) d (i*d)=l)∧Blk w b2 90 [vi g.k,vi g.a,vi g.b]∧Blk w b4 32 [vi 0,vi 0,.slice none 0 0]∧Blk w b9 32 [vi (d:Int),vi (d:Int),.slice C l.length E]∧Own w H.heap.size 86 5 encD C E l∧Below H.heap.size H w) (fun (s:Nat×(List Dy))=>match s with|(i,l)=>d-i) (0,[]) ?_ ?_
 ·exact ⟨none,0,t.sb,(Qf _),(by rw [Nat.zero_mul];rfl),e,f,o,(Own.nil _ _ _ _ _),p⟩
 rintro ⟨i,l⟩ a w5 ⟨C,E,t,bC,hl,e,f,o,G,p⟩;refine Q5 fun _ aL=>?_;refine Zs t fun _ aM=>?_;refine Zm rfl<|Zm rfl<|Ze (X19 rfl rfl)<|Zt aM fun a t=>?_
 refine Xi t rfl (fun u=>?_) (fun u=>?_)
 ·have aB:=u;have u:=Q2 u
  have aN:i<d:=by have:=u;omega
  have bD:i*d≤1024:=Q0 (Nat.mul_le_mul (show i≤32 by omega) aH) (by decide)
  refine Q7<|aL _ _<|Q5 fun _ aO=>?_;refine Q8<|Zs t fun _ aP=>?_;refine Za rfl<|Zt aP fun a t=>?_;refine Q8<|X04 (σ:=Nat×(List Dy)) (fun (s:Nat×(List Dy)) (a:Act) (w:World)=>match s with|(j,l2)=>∃ Q U,Fr a 36 [(0,vi n),(3,.pointer (some ⟨b2,0,none⟩)),(4,.pointer (some ⟨b4,0,none⟩)),(5,vi (d:Int)),(6,.pointer (some ⟨b9,0,none⟩)),(7,vi (i:Int)),(8,vi (j:Int))]∧(j≤d)∧(gridL (fun i j=>cellS n g (i:Int) (j:Int)) d (i*d+j)=l2)∧Blk w b2 90 [vi g.k,vi g.a,vi g.b]∧Blk w b4 32 [vi 0,vi 0,.slice none 0 0]∧Blk w b9 32 [vi (d:Int),vi (d:Int),.slice Q l2.length U]∧Own w H.heap.size 86 5 encD Q U l2∧Below H.heap.size H w) (fun (s:Nat×(List Dy))=>match s with|(j,l2)=>d-j) (0,l) ?_ ?_
  ·exact ⟨C,E,t.sb,(Qf _),hl,e,f,o,G,p⟩
  rintro ⟨j,l2⟩ a w6 ⟨Q,U,t,bE,J,e,f,o,q,p⟩;refine Q5 fun _ aQ=>?_;refine Zs t fun _ aR=>?_;refine Zm rfl<|Zm rfl<|Ze (X19 rfl rfl)<|Zt aR fun a t=>?_
  refine Xi t rfl (fun x=>?_) (fun x=>?_)
  ·have aC:=x;have x:=Q2 x
   have aD:j<d:=by have:=x;omega
   have b8:l2.length=i*d+j:=by rw [← J,X2o]
   refine Q7<|aQ _ _<|Q5 fun _ aS=>?_;refine Q8<|Xy none (fun j=>[8,10].contains j) mixed ?_;intro w7 y;have e:=e.below y;have f:=f.below y;have o:=o.below y;have q:=q.below y;have p:=btr p y;refine Yb t<|Yo 0 rfl (fun _=>Vd rfl X0m 2)<|Ye 1 rfl (X0 rfl X0c (o.at 2))<|Yo 2 rfl (fun _=>Xa rfl)<|Ye 3 rfl (Vn X2f e)<|Yo 4 rfl (fun _=>Xa rfl)<|Yo 5 rfl (fun _=>Xa rfl)<|Y1 6 ?_;refine Yk rfl trivial (Vc (Y12 _ n g (i:Int) (j:Int) W) Xvw) (fun _ _ ⟨_,y⟩=>y) ?_;rintro _ w8 ⟨rfl,y⟩;have e:=e.below y;have f:=f.below y;have o:=o.below y;have q:=q.below y;have p:=btr p y;refine Y1 7<|Yk rfl trivial (X7 (k:=1) (vs:=[.agg #[vi ((cellS n g (i:Int) (j:Int)).num.a),vi ((cellS n g (i:Int) (j:Int)).num.b),vi ((cellS n g (i:Int) (j:Int)).num.c),vi ((cellS n g (i:Int) (j:Int)).num.d),vi ((cellS n g (i:Int) (j:Int)).exp)]]) (zs:=[vi ((cellS n g (i:Int) (j:Int)).num.a),vi ((cellS n g (i:Int) (j:Int)).num.b),vi ((cellS n g (i:Int) (j:Int)).num.c),vi ((cellS n g (i:Int) (j:Int)).num.d),vi ((cellS n g (i:Int) (j:Int)).exp)]) rfl Xs X0u rfl rfl) (fun _ _ ⟨_,_,_,h,_⟩=>h) ?_;rintro _ w9 ⟨bF,rfl,aA,y,M⟩;have b6:=Q0 p.size aA;have I:=q.away aA;have e:=e.below y;have f:=f.below y;have o:=o.below y;have q:=q.below y;have p:=btr p y;refine Y1 8<|Yt rfl trivial rfl (X0k (enc:=encD) (l:=(l2)) (l2:=([(cellS n g (i:Int) (j:Int))])) (B0:=H.heap.size) rfl rfl Xs X0u Xw X28 q (Rd.of_blk M rfl _ M.lt) (by simp only [maxLen];simp;omega) (by simp;omega) p.size) ?_;rintro _ bG ⟨aE,aF,rfl,N,W,aT⟩
   have B:Own _ H.heap.size 86 5 encD _ _ (l2):=q
   have aG:=aT _ M.lt I;clear aT;have e:=e.appT B W rfl;have f:=f.appT B W rfl;have o:=o.appT B W rfl;have p:=Below.app p B W (Qb _) p.size;clear B W;refine Yo 9 rfl (fun _=>Vd rfl X0m 2)<|Y1 10 ?_;refine Yh rfl trivial rfl (Vu (vs:=[.slice aE (l2++([(cellS n g (i:Int) (j:Int))])).length aF]) (l':=[vi (d:Int),vi (d:Int),.slice aE (l2++([(cellS n g (i:Int) (j:Int))])).length aF]) rfl rfl X3a o) ?_;rintro _ bH ⟨L,hb⟩;have z:=o;have e:=e.only L (Blk.ne e z rfl);have f:=f.only L (by omega);have N:=N.onlyT L z rfl;have p:=Below.only p L a9;have o:=hb;refine Yd fun a t=>?_;refine Xk<|aS _ _<|Zr t<|Zm rfl<|Ze (X02 rfl rfl (by omega) (by omega))<|Za rfl ?_;refine Zn fun a t=>?_;refine Xn ?_;exact ⟨(j+1,l2++[(cellS n g (i:Int) (j:Int))]),⟨aE,aF,t.sb,(by omega),(by rw [X78 aD,J]),e,f,o,N,p⟩,(by first|omega|(dsimp only;omega))⟩
  have aC:=x;have x:=Q1 x
  have aD:j=d:=by have:=x;omega
  refine Q9<|Xm<|Xm<|X06 ?_;refine Xk<|aO _ _<|Zr t<|Zm rfl<|Ze (X02 rfl rfl (by omega) (by omega))<|Za rfl ?_;refine Zn fun a t=>?_;refine Xn ?_;exact ⟨(i+1,l2),⟨Q,U,t.sb,(by omega),(by rw [Wb,Nat.one_mul,← J,aD]),e,f,o,q,p⟩,(by first|omega|(dsimp only;omega))⟩
 have aB:=u;have u:=Q1 u
 have aN:i=d:=by have:=u;omega
 refine Q9<|Xm<|Xm<|X06 ?_;refine aJ _ _<|Zs t fun _ aU=>?_;refine Ze (Vn Xg o)<|Zo (Vw [vi (d:Int),vi (d:Int),.slice C l.length E] Xt f) ?_;rintro _ bI ⟨L,hb⟩;have z:=f;have G:=G.onlyT L z rfl;have p:=Below.only p L aI;have f:=hb;refine Zt aU fun a t=>?_
 refine Q6 (X4 t (Xp t rfl (ResV.cellN (l:=[vi (d:Int),vi (d:Int),.slice C l.length E]) rfl Xg (f.at 0) rfl)) ?_)
 have aW:gateS n g=⟨(d:Int),(d:Int),l⟩:=by rw [gateS,← hl,aN,hd]
 rw [aW]
 exact ⟨C,E,rfl,G,p⟩
theorem Y0l(D:World)(p:Mx)(Ap:Option Addr)(cp:Nat)(G:Rd D D.heap.size 86 encD Ap p.cells)(q:Mx)(Aq:Option Addr)(cq:Nat)(H:Rd D D.heap.size 86 encD Aq q.cells)(k:Int)(b7:p.cells.length=q.cells.length)(b8:q.cells.length≤2305843009213693951) : Ret Tryz.prog 115 [.agg #[vi p.rows,vi p.cols,.slice Ap p.cells.length cp],.agg #[vi q.rows,vi q.cols,.slice Aq q.cells.length cq],vi k] D (fun v w=>v=.bool (turnedS p q k)∧Below D.heap.size D w):=by
 refine enter Tryz.func115 rfl 42 rfl rfl ?_;intro a j
 have n:=bz D
 refine Zs j fun _ aW=>?_;refine Zf (X0b (zs:=[vi p.rows,vi p.cols,.slice Ap p.cells.length cp]) rfl rfl) ?_;rintro _ w1 ⟨b4,rfl,aX,x,e⟩;have b3:=Q0 n.size aX;have n:=btr n x;refine Zf (X0b (zs:=[vi q.rows,vi q.cols,.slice Aq q.cells.length cq]) rfl rfl) ?_;rintro _ w2 ⟨b5,rfl,aY,x,a9⟩
 have aU:b4≠b5:=by have:=e.lt;omega
 have b6:=Q0 n.size aY;have e:=e.below x;have n:=btr n x;refine Za rfl<|ZX aW fun a j _ aZ=>?_;refine Q5 fun _ b0=>?_;refine X09 (fun a w=>Fr a 42 [(2,vi k),(3,.pointer (some ⟨b4,0,none⟩)),(4,.pointer (some ⟨b5,0,none⟩)),(20,.bool ((p.rows != q.rows)||(p.cols != q.cols)))]∧w2=w) ?_ ?_
 ·refine Zr j<|Ze (Vd rfl X13 0)<|Ze (X0 rfl X9 (e.at 0))<|Ze (Vd rfl X13 0)<|Ze (X0 rfl X9 (a9.at 0))<|Ze (X3w rfl rfl)<|Zm rfl ?_
  refine Zg 14 rfl (fun m=>?_) (fun m=>?_)
  ·refine Zp (gP m) ?_;refine Zp (gP m) ?_;refine Zp (gP m) ?_;refine Zp (gP m) ?_;refine Zp (gP m) ?_;refine Ze (Xh rfl m rfl) ?_;refine Zn fun a j=>?_;exact ⟨j.sub ⟨rfl,rfl,rfl,X2 rfl (by first|rfl|(simp only [m,bs];done)|simp [m]),trivial⟩,rfl⟩
  refine Zv (gW m) (Vd rfl X0w 1) ?_;refine Zv (gW m) (X0 rfl X9 (e.at 1)) ?_;refine Zv (gW m) (Vd rfl X0w 1) ?_;refine Zv (gW m) (X0 rfl X9 (a9.at 1)) ?_;refine Zv (gW m) (X3w rfl rfl) ?_;refine Ze (Xd rfl m rfl) ?_;refine Zn fun a j=>?_;exact ⟨j.sub ⟨rfl,rfl,rfl,X2 rfl (by first|rfl|(simp only [m,bs];done)|simp [m]),trivial⟩,rfl⟩
 rintro a _ ⟨j,rfl⟩;refine b0 _ _ ?_
 refine Xi j rfl (fun y=>?_) (fun y=>?_)
 ·have aF:=y
  have hn:turnedS p q k=false:=by have h9:¬ (p.rows=q.rows∧p.cols=q.cols):=(by intro h8;revert y;simp [h8.1,h8.2]);unfold turnedS;revert h9;by_cases e1:p.rows=q.rows<;>by_cases e2:p.cols=q.cols<;>simp [e1,e2]
  refine Zs j fun _ aG=>?_;refine Za rfl<|Zt aG fun a j=>?_;refine Q6<|X8<|X4 j (Xp j rfl rfl) ?_;exact ⟨by rw [hn],n⟩
 have aF:=y
 have aH:p.rows=q.rows∧p.cols=q.cols:=by revert y;by_cases e1:p.rows=q.rows<;>by_cases e2:p.cols=q.cols<;>simp [e1,e2]
 refine Q7<|aZ _ _<|Q5 fun _ aI=>?_;refine Zs j fun _ aJ=>?_;refine Ze (Vd rfl X0m 2)<|Ze (X0 rfl X0c (a9.at 2))<|Ze (X22 rfl Xs)<|Zm rfl<|Zt aJ fun a j=>?_;refine Q8<|X04 (σ:=Nat) (fun (i:Nat) (a:Act) (w:World)=>Fr a 42 [(2,vi k),(3,.pointer (some ⟨b4,0,none⟩)),(22,.slice Aq q.cells.length cq),(23,vi (q.cells.length:Int)),(24,vi (i:Int))]∧(i≤q.cells.length)∧(p.cells.take i=(q.cells.map (dTurn k)).take i)∧Blk w b4 32 [vi p.rows,vi p.cols,.slice Ap p.cells.length cp]∧Below D.heap.size D w) (fun (i:Nat)=>q.cells.length-i) 0 ?_ ?_
 ·exact ⟨j.sb,(Qf _),(by simp),e,n⟩
 rintro i a w3 ⟨j,hi,z,e,n⟩;refine Zs j fun _ aK=>?_;refine Ze (X19 rfl rfl)<|ZX aK fun a j _ aL=>?_
 refine Xi j rfl (fun o=>?_) (fun o=>?_)
 ·have aA:=o;have o:=Q2 o
  obtain ⟨u16,h⟩:=Xr (l:=q.cells) (k:=i) (by omega)
  obtain ⟨E,aB⟩:=Xr (l:=p.cells) (k:=i) (by omega)
  refine Q7<|aL _ _<|Q5 fun _ aM=>?_;refine Q8<|Zs j fun _ aN=>?_;refine Zm rfl<|Zi (k:=i) (u:=u16) (enc:=encD) (l:=q.cells) trivial rfl rfl Xs Xb Xw (H.below' n) h rfl ?_;intro b9 aC;refine Ze (Xz (l:=[vi u16.num.a,vi u16.num.b,vi u16.num.c,vi u16.num.d,vi u16.exp]) rfl X6 aC rfl)<|Zf (X3 (zs:=[vi 0,vi 0,vi 0,vi 0,vi 0]) X0l rfl) ?_;rintro _ w4 ⟨bC,rfl,A,x,g⟩;have B:=Q0 n.size A;have aO:=(G.below' n).away A;have aP:=(H.below' n).away A;have e:=e.below x;have n:=btr n x;refine Za rfl<|Zo (Vw [vi u16.num.a,vi u16.num.b,vi u16.num.c,vi u16.num.d,vi u16.exp] Xb g) ?_;rintro _ w5 ⟨ho,hb⟩;have C:=g;have e:=e.only ho (Blk.ne e C rfl);have n:=Below.only n ho B;have g:=hb;refine Zx aN fun a j _ aQ=>?_;refine Ze (Vd rfl X1b 0)<|Ze (Xz (l:=[vi u16.num.a,vi u16.num.b,vi u16.num.c,vi u16.num.d]) rfl Xx ((g.at 0).take 4) rfl)<|Zm rfl<|Zf (Vc (Xz4 _ u16.num k) Xke) ?_;rintro _ w6 ⟨rfl,x⟩;have e:=e.below x;have g:=g.below x;have n:=btr n x;refine Ze (Vd rfl X1b 0)<|Zo (Vu (vs:=[vi ((rTurn u16.num k).a),vi ((rTurn u16.num k).b),vi ((rTurn u16.num k).c),vi ((rTurn u16.num k).d)]) (l':=[vi ((rTurn u16.num k).a),vi ((rTurn u16.num k).b),vi ((rTurn u16.num k).c),vi ((rTurn u16.num k).d),vi u16.exp]) rfl rfl X0t g) ?_;rintro _ w7 ⟨ho,hb⟩;have C:=g;have e:=e.only ho (Blk.ne e C rfl);have n:=Below.only n ho B;have g:=hb;refine ZX aQ fun a j _ aR=>?_;refine Xy none (fun _=>false) mixed ?_;intro w8 x;have e:=e.below x;have g:=g.below x;have n:=btr n x
  refine Yb j<|Yo 0 rfl (fun _=>Vd rfl X0m 2)<|Ye 1 rfl (X0 rfl X0c (e.at 2))<|Yo 2 rfl (fun _=>Xa rfl)<|Yi (k:=i) (u:=E) (enc:=encD) (l:=p.cells) 3 rfl trivial rfl rfl Xs Xb Xw (G.below' n) aB rfl ?_;intro bD aD;refine Ye 4 rfl (Xz (l:=[vi E.num.a,vi E.num.b,vi E.num.c,vi E.num.d,vi E.exp]) rfl X6 aD rfl)<|Ye 5 rfl (Vn X6 g)<|Yo 6 rfl (fun _=>Xaq rfl rfl X8m (fun w=>eqD 9997 E (⟨(rTurn u16.num k),u16.exp⟩ : Dy) w)) ?_;refine Yd fun a j=>?_;refine aR _ _ ?_
  refine Xi j rfl (fun t=>?_) (fun t=>?_)
  ·have aE:=t
   have b1:¬ E=dTurn k u16:=by intro e9;revert t;rw [e9];simp [dTurn]
   have hn:turnedS p q k=false:=by have h8:¬ p.cells=q.cells.map (dTurn k):=(by intro e9;have h7:=Xin (f:=dTurn k) h;rw [← e9,aB] at h7;injection h7 with h7;exact b1 h7);simp [turnedS,h8]
   refine Zs j fun _ aS=>?_;refine Za rfl<|Zt aS fun a j=>?_;refine Q6<|X00<|X8<|X8 ?_;refine X00<|X8<|X4 j (Xp j rfl rfl) ?_;exact ⟨by rw [hn],n⟩
  have aE:=t
  have b2:E=dTurn k u16:=by simpa [dTurn] using t
  refine Q7<|Xk<|aM _ _<|Zr j ?_;refine Ze (X02 rfl rfl (by omega) (by omega))<|Zm rfl ?_;refine Zn fun a j=>?_;refine Xn ?_;exact ⟨i+1,⟨j.sb,(by omega),(X9h z aB (Xin h) b2),e,n⟩,(by omega)⟩
 have aA:=o;have o:=Q1 o;refine Q9<|Xm<|Xm<|X06 ?_;refine aI _ _<|Zs j fun _ aT=>?_;refine Za rfl<|Zt aT fun a j=>?_
 refine Q6 (X4 j (Xp j rfl rfl) ?_)
 have he:p.cells=q.cells.map (dTurn k):=by rw [Qi (by omega),Qi (by simp;omega)] at z;exact z
 exact ⟨by simp [turnedS,aH.1,aH.2,← he],n⟩
theorem Y0d(w0:World)(n:Int)(g:Gt)(hn:1≤n∧n≤5) : Ret Tryz.prog 98 [vi n,.agg #[vi g.k,vi g.a,vi g.b]] w0 (fun v w=>v=.bool (gOk n g)∧Below w0.heap.size w0 w):=by
 refine enter Tryz.func98 rfl 55 rfl rfl ?_;intro a l
 have hW:=bz w0
 refine Zs l fun _ aB=>?_;refine Zf (X0b (zs:=[vi g.k,vi g.a,vi g.b]) rfl rfl) ?_;rintro _ w1 ⟨b2,rfl,aC,hE,o⟩;have aI:=Q0 hW.size aC;have hW:=btr hW hE;refine Za rfl<|ZX aB fun a l _ aD=>?_;refine Q8<|Zs l fun _ aE=>?_;refine Ze (Vd rfl X1t 0)<|Ze (X0 rfl X9 (o.at 0))<|Zf (Vc (F85 _ g.k 1 8) X75) ?_;rintro _ _ ⟨rfl,rfl⟩;refine Za rfl<|Zt aE fun a l=>?_
 refine Xi l rfl (fun p=>?_) (fun p=>?_)
 ·have d:=p;have q:=Y0j hn p;refine Q5 fun _ aF=>?_;refine X09 (fun a w=>Fr a 55 [(4,.bool ((inR g.a 0 (n-1))&&(g.b==0)))]∧w1=w) ?_ ?_
  ·refine Zr l<|Ze (Vd rfl X18 1)<|Ze (X0 rfl X9 (o.at 1))<|Zm rfl<|Ze (X1j rfl rfl (by omega) (by omega))<|Zf (Vc (F85 _ g.a 0 (n-1)) X75) ?_;rintro _ _ ⟨rfl,rfl⟩;refine Zm rfl ?_
   refine Zg 14 rfl (fun m=>?_) (fun m=>?_)
   ·refine Zv (gW m) (Vd rfl X1s 2) ?_;refine Zv (gW m) (X0 rfl X9 (o.at 2)) ?_;refine Zv (gW m) (X15 rfl rfl) ?_;refine Ze (Xh rfl m rfl)<|Za rfl ?_;refine Zn fun a l=>?_;exact ⟨l.sub ⟨X2 rfl (by first|rfl|(simp only [d,m,bs];done)|simp [d,m]),trivial⟩,rfl⟩
   refine Zp (gP m) ?_;refine Zp (gP m) ?_;refine Zp (gP m) ?_;refine Ze (Xd rfl m rfl)<|Za rfl ?_;refine Zn fun a l=>?_;exact ⟨l.sub ⟨X2 rfl (by first|rfl|(simp only [d,m,bs];done)|simp [d,m]),trivial⟩,rfl⟩
  rintro a _ ⟨l,rfl⟩;refine aF _ _<|Q6<|X00<|X8 ?_;refine X4 l (Xp l rfl rfl) ?_;exact ⟨by rw [q],hW⟩
 have d:=p;have aG:=p;refine Zs l fun _ aH=>?_;refine Ze (Vd rfl X1t 0)<|Ze (X0 rfl X9 (o.at 0))<|Zf (Vc (F85 _ g.k 9 11) X75) ?_;rintro _ _ ⟨rfl,rfl⟩;refine Za rfl<|Zt aH fun a l=>?_
 refine Xi l rfl (fun t=>?_) (fun t=>?_)
 ·have i:=t;have q:=Y0o hn t;refine Q5 fun _ a9=>?_;refine X09 (fun a w=>Fr a 55 [(4,.bool (((inR g.a 0 (n-1))&&(inR g.b 0 (n-1)))&&(g.a != g.b)))]∧w1=w) ?_ ?_
  ·refine Zr l<|Ze (Vd rfl X18 1)<|Ze (X0 rfl X9 (o.at 1))<|Zm rfl<|Ze (X1j rfl rfl (by omega) (by omega))<|Zf (Vc (F85 _ g.a 0 (n-1)) X75) ?_;rintro _ _ ⟨rfl,rfl⟩;refine Zm rfl ?_
   refine Zg 28 rfl (fun c=>?_) (fun c=>?_)
   ·refine Zv (gW c) (Vd rfl X1s 2) ?_;refine Zv (gW c) (X0 rfl X9 (o.at 2)) ?_;refine Zv (gW c) (Xa rfl) ?_;refine Zv (gW c) (X1j rfl rfl (by omega) (by omega)) ?_;refine Zk (gW c) (Vc (F85 _ g.b 0 (n-1)) X75) ?_;rintro _ _ ⟨rfl,rfl⟩;refine Ze (Xh rfl c rfl)<|Zm rfl ?_
    refine Zg 35 rfl (fun e=>?_) (fun e=>?_)
    ·refine Zv (gW e) (Vd rfl X18 1) ?_;refine Zv (gW e) (X0 rfl X9 (o.at 1)) ?_;refine Zv (gW e) (Vd rfl X1s 2) ?_;refine Zv (gW e) (X0 rfl X9 (o.at 2)) ?_;refine Zv (gW e) (X3w rfl rfl) ?_;refine Ze (Xh rfl e rfl)<|Za rfl ?_;refine Zn fun a l=>?_;exact ⟨l.sub ⟨X2 rfl (by first|rfl|(simp only [d,i,c,e,bs];done)|simp [d,i,c,e]),trivial⟩,rfl⟩
    refine Zp (gP e) ?_;refine Zp (gP e) ?_;refine Zp (gP e) ?_;refine Zp (gP e) ?_;refine Zp (gP e) ?_;refine Ze (Xd rfl e rfl)<|Za rfl ?_;refine Zn fun a l=>?_;exact ⟨l.sub ⟨X2 rfl (by first|rfl|(simp only [d,i,c,e,bs];done)|simp [d,i,c,e]),trivial⟩,rfl⟩
   refine Zp (gP c) ?_;refine Zp (gP c) ?_;refine Zp (gP c) ?_;refine Zp (gP c) ?_;refine Zp (gP c) ?_;refine Ze (Xd rfl c rfl)<|Zm rfl<|Zp (gP rfl) ?_;refine Zp (gP rfl) ?_;refine Zp (gP rfl) ?_;refine Zp (gP rfl) ?_;refine Zp (gP rfl) ?_;refine Ze (Xd rfl rfl rfl)<|Za rfl ?_;refine Zn fun a l=>?_;exact ⟨l.sub ⟨X2 rfl (by first|rfl|(simp only [d,i,c,bs];done)|simp [d,i,c]),trivial⟩,rfl⟩
  rintro a _ ⟨l,rfl⟩;refine a9 _ _<|Q6<|X00<|X8 ?_;refine X4 l (Xp l rfl rfl) ?_;exact ⟨by rw [q],hW⟩
 have i:=t;have q:=Y0f hn aG t;refine Q7<|Xk<|aD _ _<|Q5 fun _ aA=>?_;refine X09 (fun a w=>Fr a 55 [(4,.bool (((g.k==12)&&(g.a==0))&&(g.b==0)))]∧w1=w) ?_ ?_
 ·refine Zr l<|Ze (Vd rfl X1t 0)<|Ze (X0 rfl X9 (o.at 0))<|Ze (X15 rfl rfl)<|Zm rfl ?_
  refine Zg 45 rfl (fun f=>?_) (fun f=>?_)
  ·refine Zv (gW f) (Vd rfl X18 1) ?_;refine Zv (gW f) (X0 rfl X9 (o.at 1)) ?_;refine Zv (gW f) (X15 rfl rfl) ?_;refine Ze (Xh rfl f rfl)<|Zm rfl ?_
   refine Zg 50 rfl (fun j=>?_) (fun j=>?_)
   ·refine Zv (gW j) (Vd rfl X1s 2) ?_;refine Zv (gW j) (X0 rfl X9 (o.at 2)) ?_;refine Zv (gW j) (X15 rfl rfl) ?_;refine Ze (Xh rfl j rfl)<|Za rfl ?_;refine Zn fun a l=>?_;exact ⟨l.sub ⟨X2 rfl (by first|rfl|(simp only [d,i,f,j,bs];done)|simp [d,i,f,j]),trivial⟩,rfl⟩
   refine Zp (gP j) ?_;refine Zp (gP j) ?_;refine Zp (gP j) ?_;refine Ze (Xd rfl j rfl)<|Za rfl ?_;refine Zn fun a l=>?_;exact ⟨l.sub ⟨X2 rfl (by first|rfl|(simp only [d,i,f,j,bs];done)|simp [d,i,f,j]),trivial⟩,rfl⟩
  refine Zp (gP f) ?_;refine Zp (gP f) ?_;refine Zp (gP f) ?_;refine Ze (Xd rfl f rfl)<|Zm rfl<|Zp (gP rfl) ?_;refine Zp (gP rfl) ?_;refine Zp (gP rfl) ?_;refine Ze (Xd rfl rfl rfl)<|Za rfl ?_;refine Zn fun a l=>?_;exact ⟨l.sub ⟨X2 rfl (by first|rfl|(simp only [d,i,f,bs];done)|simp [d,i,f]),trivial⟩,rfl⟩
 rintro a _ ⟨l,rfl⟩;refine aA _ _ ?_
 refine Q6 (X4 l (Xp l rfl rfl) ?_)
 exact ⟨by rw [q],hW⟩
theorem F53(t:World)(c:Cx)(Ac:Option Addr)(cc:Nat)(y:Rd t t.heap.size 90 encG Ac c.gs) : Ret Tryz.prog 52 [.agg #[vi c.n,.slice Ac c.gs.length cc]] t (fun v w=>v=.bool (cOk c)∧Below t.heap.size t w):=by
 refine enter Tryz.func52 rfl 28 rfl rfl ?_;intro a d
 have j:=bz t
 refine Zs d fun _ aQ=>?_;refine Zf (X0b (zs:=[vi c.n,.slice Ac c.gs.length cc]) rfl rfl) ?_;rintro _ w1 ⟨b3,rfl,aR,hE,f⟩;have aY:=Q0 j.size aR;have j:=btr j hE;refine Za rfl<|ZX aQ fun a d _ aS=>?_;refine Q5 fun _ aT=>?_;refine X09 (fun a w=>Fr a 28 [(1,.pointer (some ⟨b3,0,none⟩)),(14,.bool ((!(inR c.n 1 5))||(decide (400<(c.gs.length:Int)))))]∧w1=w) ?_ ?_
 ·refine Zr d<|Ze (Vd rfl X2x 0)<|Ze (X0 rfl X9 (f.at 0))<|Zf (Vc (F85 _ c.n 1 5) X75) ?_;rintro _ _ ⟨rfl,rfl⟩;refine Ze (X0p rfl)<|Zm rfl ?_
  refine Zg 9 rfl (fun e=>?_) (fun e=>?_)
  ·refine Zp (gP e) ?_;refine Zp (gP e) ?_;refine Zp (gP e) ?_;refine Zp (gP e) ?_;refine Ze (Xh rfl e rfl) ?_;refine Zn fun a d=>?_;exact ⟨d.sub ⟨rfl,X2 rfl (by first|rfl|(simp only [e,bs];done)|simp [e]),trivial⟩,rfl⟩
  refine Zv (gW e) (Vd rfl X1h 1) ?_;refine Zv (gW e) (X0 rfl X3t (f.at 1)) ?_;refine Zv (gW e) (X22 rfl X17) ?_;refine Zv (gW e) (X7h rfl rfl) ?_;refine Ze (Xd rfl e rfl) ?_;refine Zn fun a d=>?_;exact ⟨d.sub ⟨rfl,X2 rfl (by first|rfl|(simp only [e,bs];done)|simp [e]),trivial⟩,rfl⟩
 rintro a _ ⟨d,rfl⟩;refine aT _ _ ?_
 refine Xi d rfl (fun p=>?_) (fun p=>?_)
 ·have aE:=p
  have hn:(inR c.n 1 5&&decide ((c.gs.length:Int)≤400))=false:=by revert p;cases inR c.n 1 5<;>simp
  refine Zs d fun _ aU=>?_;refine Za rfl<|Zt aU fun a d=>?_;refine Q6<|X8<|X4 d (Xp d rfl rfl) ?_;exact ⟨by rw [cOk,hn];rfl,j⟩
 have aE:=p
 have hy:(inR c.n 1 5&&decide ((c.gs.length:Int)≤400))=true:=by revert p;cases inR c.n 1 5<;>simp
 have aF:=(Qd _ _▸hy:inR c.n 1 5=true∧decide ((c.gs.length:Int)≤400)=true);have hn:=X0a.1 aF.1;have aZ:=Q2 aF.2;refine Q7<|aS _ _<|Q5 fun _ aW=>?_;refine Zs d fun _ aG=>?_;refine Ze (Vd rfl X1h 1)<|Ze (X0 rfl X3t (f.at 1))<|Ze (X22 rfl X17)<|Zm rfl<|Zt aG fun a d=>?_;refine Q8<|X04 (σ:=Nat) (fun (k:Nat) (a:Act) (w:World)=>Fr a 28 [(1,.pointer (some ⟨b3,0,none⟩)),(16,.slice Ac c.gs.length cc),(17,vi (c.gs.length:Int)),(18,vi (k:Int))]∧(k≤c.gs.length)∧((c.gs.take k).all (fun x=>gOk c.n x)=true)∧Blk w b3 43 [vi c.n,.slice Ac c.gs.length cc]∧Below t.heap.size t w) (fun (k:Nat)=>c.gs.length+1-k) 0 ?_ ?_
 ·exact ⟨d.sb,(Qf _),(by simp),f,j⟩
 rintro k a w2 ⟨d,hk,z,f,j⟩;refine Zs d fun _ aH=>?_;refine Ze (X19 rfl rfl)<|ZX aH fun a d _ aI=>?_
 refine Xi d rfl (fun g=>?_) (fun g=>?_)
 ·have a9:=g;have g:=Q2 g
  obtain ⟨i,q⟩:=Xr (l:=c.gs) (k:=k) (by omega)
  refine Q7<|aI _ _<|Q5 fun _ aJ=>?_;refine Q8<|Zs d fun _ aK=>?_;refine Zi (k:=k) (u:=i) (enc:=encG) (l:=c.gs) trivial rfl rfl X17 X39 X10 (y.below' j) q rfl ?_;intro b0 aA;refine Ze (Xz (l:=[vi i.k,vi i.a,vi i.b]) rfl X2f aA rfl)<|Zf (X3 (zs:=[vi 0,vi 0,vi 0]) Xcc rfl) ?_;rintro _ w3 ⟨b1,rfl,h,hE,o⟩;have aB:=Q0 j.size h;have aL:=(y.below' j).away h;have f:=f.below hE;have j:=btr j hE;refine Zo (Vw [vi i.k,vi i.a,vi i.b] X39 o) ?_;rintro _ w4 ⟨ho,hb⟩;have aM:=o;have f:=f.only ho (Blk.ne f aM rfl);have j:=Below.only j ho aB;have o:=hb;refine Zx aK fun a d _ aN=>?_;refine Ze (Vd rfl X2x 0)<|Ze (X0 rfl X9 (f.at 0))<|Ze (Vn X2f o)<|Zf (Vc (Y0d _ c.n i hn) Xur) ?_;rintro _ w5 ⟨rfl,hE⟩;have f:=f.below hE;have j:=btr j hE;refine Ze (X0p rfl)<|Zt aN fun a d=>?_
  refine Xi d rfl (fun m=>?_) (fun m=>?_)
  ·have aC:=m
   have aD:(c.gs.any fun x=>!gOk c.n x)=true:=X5f q m
   refine Zs d fun _ aO=>?_;refine Za rfl<|Zt aO fun a d=>?_;refine Q6<|X00<|X8<|X8 ?_;refine X00<|X8<|X4 d (Xp d rfl rfl) ?_;exact ⟨by rw [cOk,hy,aD];rfl,j⟩
  have aC:=m
  have aX:gOk c.n i=true:=by revert m;cases gOk c.n i<;>simp
  refine Q7<|Xk<|aJ _ _<|Zr d ?_;refine Ze (X02 rfl rfl (by omega) (by omega))<|Zm rfl ?_;refine Zn fun a d=>?_;refine Xn ?_;exact ⟨k+1,⟨d.sb,(by omega),(X3p z q aX),f,j⟩,(by omega)⟩
 have a9:=g;have g:=Q1 g;refine Q9<|Xm<|Xm<|X06 ?_;refine aW _ _<|Zs d fun _ aP=>?_;refine Za rfl<|Zt aP fun a d=>?_
 refine Q6 (X4 d (Xp d rfl rfl) ?_)
 have aD:(c.gs.any fun x=>!gOk c.n x)=false:=X4c (by simpa using X3e z (by omega))
 exact ⟨by rw [cOk,hy,aD];rfl,j⟩
theorem Y0h(w0:World)(n:Int)(g:Gt)(s0:Int)(hg:gOk n g=true)(aE:9≤g.k∧g.k≤11) : Ret Tryz.prog 163 [vi n,.agg #[vi g.k,vi g.a,vi g.b],vi s0] w0 (fun v w=>v=vi (toS n g s0)∧Below w0.heap.size w0 w):=by
 have aA:=X2k hg
 have aN:=aA.2.2.1 (by omega)
 have aO:=aA.2.2.2 aE;refine enter Tryz.func163 rfl 51 rfl rfl ?_;intro a d
 have m:=bz w0
 refine Zs d fun _ aF=>?_;refine Zf (X0b (zs:=[vi g.k,vi g.a,vi g.b]) rfl rfl) ?_;rintro _ w1 ⟨b2,rfl,aG,hE,e⟩;have aM:=Q0 m.size aG;have m:=btr m hE;refine Za rfl<|ZX aF fun a d _ aH=>?_;refine Xy none (fun _=>false) mixed ?_;intro w2 hE;have e:=e.below hE;have m:=btr m hE;refine Yb d<|Yo 0 rfl (fun _=>Xa rfl)<|Yo 1 rfl (fun _=>Xa rfl)<|Yo 2 rfl (fun _=>Vd rfl X18 1)<|Ye 3 rfl (X0 rfl X9 (e.at 1))<|Yo 5 rfl (fun _=>Xa rfl)<|Yo 6 rfl (fun _=>Xa rfl)<|Yo 7 rfl (fun _=>Vd rfl X1s 2)<|Ye 8 rfl (X0 rfl X9 (e.at 2))<|Y1 4 ?_;refine Yz rfl trivial (Vc (Xj3 _ n s0 g.a (by omega) (by omega) (by omega)) X8f) ?_;refine Y1 9<|Yz rfl trivial (Vc (Xj3 _ n s0 g.b (by omega) (by omega) (by omega)) X8f) ?_;refine Yo 10 rfl (fun _=>X0q rfl)<|Yo 11 rfl (fun _=>X0q rfl) ?_;refine Yd fun a d=>?_;refine aH _ _<|Q5 fun _ aI=>?_;refine Q8<|Q5 fun _ aJ=>?_;refine X09 (fun a w=>Fr a 51 [(0,vi n),(2,vi s0),(4,.pointer (some ⟨b2,0,none⟩)),(7,vi (bitF n s0 g.a)),(8,vi (bitF n s0 g.b)),(19,.bool ((g.k==9)&&((bitF n s0 g.a)==1)))]∧w2=w) ?_ ?_
 ·refine Zr d<|Ze (Vd rfl X1t 0)<|Ze (X0 rfl X9 (e.at 0))<|Ze (X15 rfl rfl)<|Zm rfl ?_
  refine Zg 23 rfl (fun f=>?_) (fun f=>?_)
  ·refine Zv (gW f) (Xa rfl) ?_;refine Zv (gW f) (X15 rfl rfl) ?_;refine Ze (Xh rfl f rfl)<|Za rfl ?_;refine Zn fun a d=>?_;exact ⟨d.sub ⟨rfl,rfl,rfl,rfl,rfl,X2 rfl (by first|rfl|(simp only [f,bs];done)|simp [f]),trivial⟩,rfl⟩
  refine Zp (gP f) ?_;refine Zp (gP f) ?_;refine Ze (Xd rfl f rfl)<|Za rfl ?_;refine Zn fun a d=>?_;exact ⟨d.sub ⟨rfl,rfl,rfl,rfl,rfl,X2 rfl (by first|rfl|(simp only [f,bs];done)|simp [f]),trivial⟩,rfl⟩
 rintro a _ ⟨d,rfl⟩;refine aJ _ _ ?_
 refine Xi d rfl (fun l=>?_) (fun l=>?_)
 ·have i:=l
  have h9:g.k=9∧bitF n s0 g.a=1:=by simpa using l
  refine Zs d fun _ aK=>?_;refine Zm rfl<|Zm rfl<|Ze (Vd rfl X1s 2)<|Ze (X0 rfl X9 (e.at 2))<|Zf (Vc (Xni _ n s0 g.b (by omega) (by omega) (by omega)) Xdu) ?_;rintro _ _ ⟨rfl,rfl⟩;refine Za rfl<|Zt aK fun a d=>?_;refine Q6<|X00<|X8<|X4 d (Xp d rfl rfl) ?_;exact ⟨by rw [toS,Q4 h9.1,Q4 h9.2],m⟩
 have i:=l
 have h9:g.k=9→¬ bitF n s0 g.a=1:=by simpa using l
 refine Q5 fun _ aL=>?_;refine X09 (fun a w=>Fr a 51 [(0,vi n),(2,vi s0),(4,.pointer (some ⟨b2,0,none⟩)),(32,.bool ((g.k==11)&&((bitF n s0 g.a) != (bitF n s0 g.b))))]∧w2=w) ?_ ?_
 ·refine Zr d<|Ze (Vd rfl X1t 0)<|Ze (X0 rfl X9 (e.at 0))<|Ze (X15 rfl rfl)<|Zm rfl ?_
  refine Zg 36 rfl (fun c=>?_) (fun c=>?_)
  ·refine Zv (gW c) (Xa rfl) ?_;refine Zv (gW c) (Xa rfl) ?_;refine Zv (gW c) (X3w rfl rfl) ?_;refine Ze (Xh rfl c rfl)<|Za rfl ?_;refine Zn fun a d=>?_;exact ⟨d.sub ⟨rfl,rfl,rfl,X2 rfl (by first|rfl|(simp only [i,c,bs];done)|simp [i,c]),trivial⟩,rfl⟩
  refine Zp (gP c) ?_;refine Zp (gP c) ?_;refine Zp (gP c) ?_;refine Ze (Xd rfl c rfl)<|Za rfl ?_;refine Zn fun a d=>?_;exact ⟨d.sub ⟨rfl,rfl,rfl,X2 rfl (by first|rfl|(simp only [i,c,bs];done)|simp [i,c]),trivial⟩,rfl⟩
 rintro a _ ⟨d,rfl⟩;refine aL _ _ ?_
 refine Xi d rfl (fun j=>?_) (fun j=>?_)
 ·have a9:=j
  have o:g.k=11∧¬ bitF n s0 g.a=bitF n s0 g.b:=by simpa using j
  refine Q5 fun _ aB=>?_;refine Xy none (fun _=>false) mixed ?_;intro w3 hE;have e:=e.below hE;have m:=btr m hE;refine Yb d<|Yo 0 rfl (fun _=>Xa rfl)<|Yo 1 rfl (fun _=>Xa rfl)<|Yo 2 rfl (fun _=>Xa rfl)<|Yo 3 rfl (fun _=>Vd rfl X18 1)<|Ye 4 rfl (X0 rfl X9 (e.at 1))<|Yo 6 rfl (fun _=>Vd rfl X1s 2)<|Ye 7 rfl (X0 rfl X9 (e.at 2))<|Y1 5 ?_;refine Yz rfl trivial (Vc (Xni _ n s0 g.a (by omega) (by omega) (by omega)) Xdu) ?_;refine Y1 8<|Yz rfl trivial (Vc (Xni _ n (flipF n s0 g.a) g.b (by omega) (by omega) (by omega)) Xdu) ?_;refine Yo 9 rfl (fun _=>X0q rfl) ?_;refine Yd fun a d=>?_;refine aB _ _<|Q6<|X00<|X8 ?_;refine X4 d (Xp d rfl rfl) ?_;exact ⟨by rw [toS,Q3 (by omega),Q4 o.1,Q4 o.2],m⟩
 have a9:=j
 have o:g.k=11→bitF n s0 g.a=bitF n s0 g.b:=by simpa using j
 refine Q7<|Xk<|aI _ _<|Zs d fun _ aC=>?_;refine Zm rfl<|Za rfl<|Zt aC fun a d=>?_
 refine Q6 (X4 d (Xp d rfl rfl) ?_)
 have aD:toS n g s0=s0:=by unfold toS;split;rw [Q3 (h9 (by assumption))];split;rw [Q3 (by simpa using o (by assumption))];rfl
 exact ⟨by rw [aD],m⟩
def entI(p:Int×Int×Nat) : MapEntry:={ key:=.int .i64 p.1,val:=.int .i64 p.2.1,born:=p.2.2 }
def MapI(w:World)(b:Nat)(l:List (Int×Int×Nat))(clock:Nat) : Prop:=w.heap[b]? = some (.map (l.map entI).toArray clock)
theorem X7x{k:IntKind}{x:Int} : ∀ (l:List (Int×Int×Nat)) (i:Nat),(l.all fun p=>p.1 != x)=true→Instr.findNow (.int k) (.int .i64 x) (l.map entI) i=some none
 | [],_,_=>rfl
 | p::l,i,h=>by
  simp only [List.all_cons,Qd,bne_iff_ne] at h
  have h1:(x==p.1)=false:=by simpa using Ne.symm h.1
  simp only [List.map_cons,Instr.findNow,entI,Instr.sameNow,if_true,h1]
  exact X7x l (i+1) h.2
theorem X7v{k:IntKind}{x v:Int} : ∀ (l:List (Int×Int×Nat)) (i:Nat),(l.find? fun p=>p.1==x).map (fun p=>p.2.1)=some v→∃ j,Instr.findNow (.int k) (.int .i64 x) (l.map entI) i=some (some (j,.int .i64 v))
 | [],_,h=>by cases h
 | p::l,i,h=>by
  by_cases hx:p.1=x
  ·refine ⟨i,?_⟩
   have h1:(p.1==x)=true:=by simpa using hx
   simp only [List.find?_cons,h1,Option.map_some,Option.some.injEq] at h
   have h2:(x==p.1)=true:=by simpa using hx.symm
   simp only [List.map_cons,Instr.findNow,entI,Instr.sameNow,if_true,h2,h]
  ·have h1:(p.1==x)=false:=by simpa using hx
   simp only [List.find?_cons,h1] at h
   obtain ⟨j,hj⟩:=X7v (k:=k) l (i+1) h
   refine ⟨j,?_⟩
   have h2:(x==p.1)=false:=by simpa using fun e=>hx e.symm
   simp only [List.map_cons,Instr.findNow,entI,Instr.sameNow,if_true,h2]
   exact hj
theorem MapI.below{w w':World}{b clock:Nat}{l:List (Int×Int×Nat)}(h:MapI w b l clock)(hb:Below w.heap.size w w') : MapI w' b l clock:=by
 have hlt:b<w.heap.size:=by
  rcases W4 b w.heap.size with h'|h'
  ·exact h'
  ·simp [MapI,We h'] at h
 exact (hb.block b hlt).trans h
theorem MapI.only{w w':World}{b b' clock:Nat}{l:List (Int×Int×Nat)}(h:MapI w b l clock)(ho:Only b' w w')(hne:b≠b') : MapI w' b l clock:=(ho.block b hne).trans h
theorem MapI.ne{w:World}{b b' clock:Nat}{l:List (Int×Int×Nat)}{T:TypeId}{cs:List Value}(h:MapI w b l clock)(hb:Blk w b' T cs) : b≠b':=by
 rintro rfl
 unfold MapI at h
 unfold Blk at hb
 rw [h] at hb
 cases hb
section
variable {P : Program} {a : Act} {w : World} {n : Nat} {e : Env} {ty : TypeId} {pos : String} {af : Array Edge} {g : Option (Nat × Bool)} {d : Option Tmp}
theorem Xfi{T:TypeId} : Ef P ⟨d,.makeMap T none,ty,pos,af,g⟩ a w (fun v w'=>∃ b,v=.map (some b)∧w.heap.size≤b∧Below w.heap.size w w'∧MapI w' b [] 0):=by
 refine (Ef.of_run (v:=.map (some w.heap.size)) (w':=w.alloc (.map #[] 0)) ?_).mono fun v w' ⟨e1,e2⟩=>?_
 ·rfl
 ·subst e1;subst e2
  exact ⟨_,rfl,Qb _,(Below.refl _ _).alloc (Qb _) _,heap_alloc_new w _⟩
theorem Xle{n:Nat}{e:List (Nat×Value)}{T:TypeId} : EfW P ⟨d,.makeMap T none,ty,pos,af,g⟩ n e w (fun v w'=>∃ b,v=.map (some b)∧w.heap.size≤b∧Below w.heap.size w w'∧MapI w' b [] 0):=fun a _=>Xfi
theorem Xix{T K E:TypeId}{m x y:Operand}{b clock:Nat}{l:List (Int×Int×Nat)}{i j:Int}(hf:Fr a n e)(hm:ev e m=some (.map (some b)))(hx:ev e x=some (.int .i64 i))(hy:ev e y=some (.int .i64 j))(hT:P.underlying T=some (.map K E))(hK:P.underlying K=some (.int .i64))(hM:MapI w b l clock)(hnew:(l.all fun p=>p.1 != i)=true) :
  Ef P ⟨d,.insert T m x y,ty,pos,af,g⟩ a w (fun _ w'=>Only b w w'∧MapI w' b (l++[(i,j,clock)]) (clock+1)):=by
 have hfind:=X7x (k:=.i64) l 0 hnew
 have hck:(Instr.checkKey false 10000 K (.int .i64 i)).run P w=.ok () w:=MapKept.run_checkKey hK (show MapKept.IsKey (.int .i64) (.int .i64 i) from rfl) false 9999
 have hlt:b<w.heap.size:=by
  rcases W4 b w.heap.size with h'|h'
  ·exact h'
  ·simp [MapI,We h'] at hM
 unfold MapI at hM
 refine (Ef.of_skip (w':={ w with heap:=w.heap.setIfInBounds b (.map ((l++[(i,j,clock)]).map entI).toArray (clock+1)) }) ?_).mono fun v w' ⟨_,e2⟩=>?_
 ·simp [execOp,Instr.mapUpdate,hf.ev hm,hf.ev hx,hf.ev hy,X12 hT,getObj,hM,hck,Instr.findKey,X12 hK,hfind,setObj,Sem.run,entI]
 ·subst e2
  refine ⟨⟨rfl,rfl,rfl,by simp,fun k hk=>?_⟩,?_⟩
  ·show (w.heap.setIfInBounds b _)[k]? = _
   rw [Wh (Ne.symm hk)]
  ·show (w.heap.setIfInBounds b _)[b]? = _
   simp [hlt]
theorem X83{T K E:TypeId}{m x y:Operand}{b clock:Nat}{l:List (Int×Int×Nat)}{i j:Int}(hm:ev e m=some (.map (some b)))(hx:ev e x=some (.int .i64 i))(hy:ev e y=some (.int .i64 j))(hT:P.underlying T=some (.map K E))(hK:P.underlying K=some (.int .i64))(hM:MapI w b l clock)(hnew:(l.all fun p=>p.1 != i)=true) : EfW P ⟨d,.insert T m x y,ty,pos,af,g⟩ n e w (fun _ w'=>Only b w w'∧MapI w' b (l++[(i,j,clock)]) (clock+1)):=fun a hf=>Xix hf hm hx hy hT hK hM hnew
theorem Xj1{T K E:TypeId}{m x:Operand}{b clock:Nat}{l:List (Int×Int×Nat)}{i v:Int}(hf:Fr a n e)(hm:ev e m=some (.map (some b)))(hx:ev e x=some (.int .i64 i))(hT:P.underlying T=some (.map K E))(hK:P.underlying K=some (.int .i64))(hM:MapI w b l clock)(hv:(l.find? fun p=>p.1==i).map (fun p=>p.2.1)=some v) :
  Ev P ⟨d,.lookup T m x false,ty,pos,af,g⟩ a w (.int .i64 v):=fun w' hw=>by
 obtain ⟨j,hj⟩:=X7v (k:=.i64) l 0 hv
 have hM':=hM.below hw
 have hck:∀ em,(Instr.checkKey em 10000 K (.int .i64 i)).run P w'=.ok () w':=fun em=>MapKept.run_checkKey hK (show MapKept.IsKey (.int .i64) (.int .i64 i) from rfl) em 9999
 unfold MapI at hM'
 simp [execOp,Instr.lookup,hf.ev hm,hf.ev hx,X12 hT,getObj,Sem.run,hM',hck,Instr.findKey,X12 hK,hj]
theorem Xns{T K E:TypeId}{m x:Operand}{b clock:Nat}{l:List (Int×Int×Nat)}{i v:Int}(hm:ev e m=some (.map (some b)))(hx:ev e x=some (.int .i64 i))(hT:P.underlying T=some (.map K E))(hK:P.underlying K=some (.int .i64))(hM:MapI w b l clock)(hv:(l.find? fun p=>p.1==i).map (fun p=>p.2.1)=some v) : EvW P ⟨d,.lookup T m x false,ty,pos,af,g⟩ n e w (.int .i64 v):=fun a hf=>Xj1 hf hm hx hT hK hM hv
end
theorem Y0r(w0:World)(k:Int)(i:Int)(j:Int)(hk:1≤k∧k≤8)(hj:j=0∨j=1) : Ret Tryz.prog 166 [vi k,vi i,vi j] w0 (fun v w=>v=dV (entryI k i j)∧Below w0.heap.size w0 w):=by
 refine enter Tryz.func166 rfl 67 rfl rfl ?_;intro a f
 have m:=bz w0
 refine Zs f fun _ aQ=>?_;refine Zf (X3 (zs:=[vi 0,vi 0,vi 0,vi 0,vi 0]) X0l rfl) ?_;rintro _ w1 ⟨b2,rfl,aR,E,e⟩;have D:=Q0 m.size aR;have m:=btr m E;refine Zx aQ fun a f _ aS=>?_;refine Ze (Xf (ps:=[(0,vi 1)]) (cs:=[vi 1,vi 0,vi 0,vi 0]) rfl (fun _=>by first|rfl|kernel_rfl))<|Ze (Xf (ps:=[(0,.agg #[vi 1,vi 0,vi 0,vi 0]),(1,vi 1)]) (cs:=[vi 1,vi 0,vi 0,vi 0,vi 1]) rfl (fun _=>by first|rfl|kernel_rfl))<|Zf (X3 (zs:=[vi 0,vi 0,vi 0,vi 0,vi 0]) X0l rfl) ?_;rintro _ w2 ⟨b4,rfl,aT,E,n⟩
 have aP:b2≠b4:=by have:=e.lt;omega
 have U:=Q0 m.size aT;have e:=e.below E;have m:=btr m E;refine Zo (Vw [vi 1,vi 0,vi 0,vi 0,vi 1] Xb n) ?_;rintro _ w3 ⟨p,G⟩;have C:=n;have e:=e.only p (by omega);have m:=Below.only m p U;have n:=G;refine Zx aS fun a f _ aU=>?_;refine Zf (Xle) ?_;rintro _ w4 ⟨b6,rfl,aW,E,t⟩;have H:=Q0 m.size aW;have e:=e.below E;have n:=n.below E;have m:=btr m E;refine Zo (X83 (l:=[]) (clock:=0) rfl rfl rfl Tryz.underlying203 Tryz.underlying3 t rfl) ?_;rintro _ w5 ⟨p,q⟩;have e:=e.only p (Ne.symm (t.ne e));have n:=n.only p (Ne.symm (t.ne n));have m:=Below.only m p H
 have t:=q;clear q p;refine Zo (X83 (l:=[(4,4,0)]) (clock:=1) rfl rfl rfl Tryz.underlying203 Tryz.underlying3 t rfl) ?_;rintro _ w6 ⟨p,q⟩;have e:=e.only p (Ne.symm (t.ne e));have n:=n.only p (Ne.symm (t.ne n));have m:=Below.only m p H
 have t:=q;clear q p;refine Zo (X83 (l:=[(4,4,0),(5,2,1)]) (clock:=2) rfl rfl rfl Tryz.underlying203 Tryz.underlying3 t rfl) ?_;rintro _ w7 ⟨p,q⟩;have e:=e.only p (Ne.symm (t.ne e));have n:=n.only p (Ne.symm (t.ne n));have m:=Below.only m p H
 have t:=q;clear q p;refine Zo (X83 (l:=[(4,4,0),(5,2,1),(6,6,2)]) (clock:=3) rfl rfl rfl Tryz.underlying203 Tryz.underlying3 t rfl) ?_;rintro _ w8 ⟨p,q⟩;have e:=e.only p (Ne.symm (t.ne e));have n:=n.only p (Ne.symm (t.ne n));have m:=Below.only m p H
 have t:=q;clear q p;refine Zo (X83 (l:=[(4,4,0),(5,2,1),(6,6,2),(7,1,3)]) (clock:=4) rfl rfl rfl Tryz.underlying203 Tryz.underlying3 t rfl) ?_;rintro _ w9 ⟨p,q⟩;have e:=e.only p (Ne.symm (t.ne e));have n:=n.only p (Ne.symm (t.ne n));have m:=Below.only m p H
 have t:=q;clear q p;refine Zm rfl<|Za rfl<|ZX aU fun a f _ aX=>?_;refine Q8<|Zs f fun _ aY=>?_;refine Zm rfl<|Ze (X15 rfl rfl)<|Za rfl<|Zt aY fun a f=>?_
 refine Xi f rfl (fun Q=>?_) (fun Q=>?_)
 ·have g:=Q
  have W:k=1:=by simpa using Q
  refine Q5 fun _ a9=>?_;refine Q5 fun _ aD=>?_;refine X09 (fun a w=>Fr a 67 [(6,.pointer (some ⟨b2,0,none⟩)),(7,.pointer (some ⟨b4,0,none⟩)),(21,.bool ((i==1)&&(j==1)))]∧w9=w) ?_ ?_
  ·refine Zr f<|Zm rfl<|Ze (X15 rfl rfl)<|Zm rfl ?_
   refine Zg 18 rfl (fun A=>?_) (fun A=>?_)
   ·refine Zv (gW A) (Xa rfl) ?_;refine Zv (gW A) (X15 rfl rfl) ?_;refine Ze (Xh rfl A rfl) ?_;refine Zn fun a f=>?_;exact ⟨f.sub ⟨rfl,rfl,X2 rfl (by first|rfl|(simp only [g,A,bs];done)|simp [g,A]),trivial⟩,rfl⟩
   refine Zp (gP A) ?_;refine Zp (gP A) ?_;refine Ze (Xd rfl A rfl) ?_;refine Zn fun a f=>?_;exact ⟨f.sub ⟨rfl,rfl,X2 rfl (by first|rfl|(simp only [g,A,bs];done)|simp [g,A]),trivial⟩,rfl⟩
  rintro a _ ⟨f,rfl⟩;refine aD _ _ ?_
  refine Xi f rfl (fun I=>?_) (fun I=>?_)
  ·have aA:=I
   have u:entryI k i j=⟨⟨-1,0,0,0⟩,1⟩:=by rw [entryI,Q4 W,Q4 (by simpa using I)]
   refine Zr f<|Ze (Vd rfl X1b 0)<|Ze (Vd rfl X0h 0)<|Zo (Vu (vs:=[vi (-1)]) (l':=[vi (-1),vi 0,vi 0,vi 0,vi 1]) rfl rfl X66 n) ?_;rintro _ b0 ⟨p,G⟩;have C:=n;have e:=e.only p (by omega);have m:=Below.only m p U;have n:=G;refine Zx a9 fun a f _ aE=>?_;refine Ze (Vn X6 n)<|Zo (Vw [vi (-1),vi 0,vi 0,vi 0,vi 1] Xb e) ?_;rintro _ b1 ⟨p,G⟩;have C:=e;have m:=Below.only m p D;have e:=G;refine Zt aE fun a f=>?_;refine Q6<|X00<|X8<|X4 f (Xp f rfl (ResV.cellN (l:=[vi (-1),vi 0,vi 0,vi 0,vi 1]) rfl X6 (e.at 0) rfl)) ?_;exact ⟨(by rw [u];try rfl),m⟩
  have aA:=I
  have u:entryI k i j=dHalf:=by rw [entryI,Q4 W,Q3 (by simpa using I)]
  refine Q7<|a9 _ _<|Zs f fun _ aF=>?_;refine Ze (Vn X6 n)<|Zo (Vw [vi 1,vi 0,vi 0,vi 0,vi 1] Xb e) ?_;rintro _ b3 ⟨p,G⟩;have C:=e;have m:=Below.only m p D;have e:=G;refine Zt aF fun a f=>?_;refine Q6<|X00<|X8<|X4 f (Xp f rfl (ResV.cellN (l:=[vi 1,vi 0,vi 0,vi 0,vi 1]) rfl X6 (e.at 0) rfl)) ?_;exact ⟨(by rw [u];try rfl),m⟩
 have g:=Q
 have W:¬ k=1:=by simpa using Q
 refine Q5 fun _ aG=>?_;refine X09 (fun a w=>Fr a 67 [(0,vi k),(1,vi i),(2,vi j),(6,.pointer (some ⟨b2,0,none⟩)),(8,.map (some b6)),(25,.bool ((k==2)&&(i != j)))]∧w9=w) ?_ ?_
 ·refine Zr f<|Zm rfl<|Ze (X15 rfl rfl)<|Zm rfl ?_
  refine Zg 28 rfl (fun x=>?_) (fun x=>?_)
  ·refine Zv (gW x) (Xa rfl) ?_;refine Zv (gW x) (Xa rfl) ?_;refine Zv (gW x) (X3w rfl rfl) ?_;refine Ze (Xh rfl x rfl)<|Za rfl ?_;refine Zn fun a f=>?_;exact ⟨f.sub ⟨rfl,rfl,rfl,rfl,rfl,X2 rfl (by first|rfl|(simp only [g,x,bs];done)|simp [g,x]),trivial⟩,rfl⟩
  refine Zp (gP x) ?_;refine Zp (gP x) ?_;refine Zp (gP x) ?_;refine Ze (Xd rfl x rfl)<|Za rfl ?_;refine Zn fun a f=>?_;exact ⟨f.sub ⟨rfl,rfl,rfl,rfl,rfl,X2 rfl (by first|rfl|(simp only [g,x,bs];done)|simp [g,x]),trivial⟩,rfl⟩
 rintro a _ ⟨f,rfl⟩;refine aG _ _ ?_
 refine Xi f rfl (fun J=>?_) (fun J=>?_)
 ·have o:=J
  have u:entryI k i j=⟨⟨1,0,0,0⟩,0⟩:=by rw [entryI,Q3 W,Q4 (by simpa using J)]
  refine Zs f fun _ aH=>?_;refine Zf (Vc (Xj7 _ 1) X8q) ?_;rintro _ b5 ⟨rfl,E⟩;have e:=e.below E;have m:=btr m E;refine Zo (Vw [vi ((⟨⟨1,0,0,0⟩,0⟩ : Dy).num.a),vi ((⟨⟨1,0,0,0⟩,0⟩ : Dy).num.b),vi ((⟨⟨1,0,0,0⟩,0⟩ : Dy).num.c),vi ((⟨⟨1,0,0,0⟩,0⟩ : Dy).num.d),vi ((⟨⟨1,0,0,0⟩,0⟩ : Dy).exp)] Xb e) ?_;rintro _ b7 ⟨p,G⟩;have C:=e;have m:=Below.only m p D;have e:=G;refine Zt aH fun a f=>?_;refine Q6<|X00<|X8<|X4 f (Xp f rfl (ResV.cellN (l:=[vi ((⟨⟨1,0,0,0⟩,0⟩ : Dy).num.a),vi ((⟨⟨1,0,0,0⟩,0⟩ : Dy).num.b),vi ((⟨⟨1,0,0,0⟩,0⟩ : Dy).num.c),vi ((⟨⟨1,0,0,0⟩,0⟩ : Dy).num.d),vi ((⟨⟨1,0,0,0⟩,0⟩ : Dy).exp)]) rfl X6 (e.at 0) rfl)) ?_;exact ⟨(by rw [u];try rfl),m⟩
 have o:=J
 have e2:¬ (k=2∧i≠j):=by simpa using J
 refine Q5 fun _ aI=>?_;refine X09 (fun a w=>Fr a 67 [(0,vi k),(1,vi i),(2,vi j),(6,.pointer (some ⟨b2,0,none⟩)),(8,.map (some b6)),(34,.bool ((k==3)&&(i != j)))]∧w9=w) ?_ ?_
 ·refine Zr f<|Zm rfl<|Ze (X15 rfl rfl)<|Zm rfl ?_
  refine Zg 37 rfl (fun y=>?_) (fun y=>?_)
  ·refine Zv (gW y) (Xa rfl) ?_;refine Zv (gW y) (Xa rfl) ?_;refine Zv (gW y) (X3w rfl rfl) ?_;refine Ze (Xh rfl y rfl)<|Za rfl ?_;refine Zn fun a f=>?_;exact ⟨f.sub ⟨rfl,rfl,rfl,rfl,rfl,X2 rfl (by first|rfl|(simp only [g,o,y,bs];done)|simp [g,o,y]),trivial⟩,rfl⟩
  refine Zp (gP y) ?_;refine Zp (gP y) ?_;refine Zp (gP y) ?_;refine Ze (Xd rfl y rfl)<|Za rfl ?_;refine Zn fun a f=>?_;exact ⟨f.sub ⟨rfl,rfl,rfl,rfl,rfl,X2 rfl (by first|rfl|(simp only [g,o,y,bs];done)|simp [g,o,y]),trivial⟩,rfl⟩
 rintro a _ ⟨f,rfl⟩;refine aI _ _ ?_
 refine Xi f rfl (fun L=>?_) (fun L=>?_)
 ·have B:=L
  have aZ:k=3∧i≠j:=(by simpa using L)
  have u:entryI k i j=dPow (2+4*j):=by rw [entryI,Q3 W,Q3 e2,Q4 aZ]
  refine Zs f fun _ aJ=>?_;refine Zm rfl<|Ze (X4r rfl rfl (by omega) (by omega))<|Ze (X02 rfl rfl (by omega) (by omega))<|Zf (Vc (Xdh _ (2+(4*j)) (X0a.2 ⟨by omega,by omega⟩)) X5r) ?_;rintro _ b8 ⟨rfl,E⟩;have e:=e.below E;have m:=btr m E;refine Zo (Vw [vi ((dPow (2+(4*j))).num.a),vi ((dPow (2+(4*j))).num.b),vi ((dPow (2+(4*j))).num.c),vi ((dPow (2+(4*j))).num.d),vi ((dPow (2+(4*j))).exp)] Xb e) ?_;rintro _ b9 ⟨p,G⟩;have C:=e;have m:=Below.only m p D;have e:=G;refine Zt aJ fun a f=>?_;refine Q6<|X00<|X8<|X4 f (Xp f rfl (ResV.cellN (l:=[vi ((dPow (2+(4*j))).num.a),vi ((dPow (2+(4*j))).num.b),vi ((dPow (2+(4*j))).num.c),vi ((dPow (2+(4*j))).num.d),vi ((dPow (2+(4*j))).exp)]) rfl X6 (e.at 0) rfl)) ?_;exact ⟨(by rw [u];try rfl),m⟩
 have B:=L
 have e3:¬ (k=3∧i≠j):=by simpa using L
 refine Q5 fun _ aK=>?_;refine X09 (fun a w=>Fr a 67 [(0,vi k),(1,vi i),(6,.pointer (some ⟨b2,0,none⟩)),(8,.map (some b6)),(46,.bool (((k==2)||(k==3))||(i != j)))]∧w9=w) ?_ ?_
 ·refine Zr f<|Zm rfl<|Ze (X15 rfl rfl)<|Zm rfl ?_
  refine Zg 49 rfl (fun z=>?_) (fun z=>?_)
  ·refine Zp (gP z) ?_;refine Zp (gP z) ?_;refine Ze (Xh rfl z rfl)<|Zm rfl<|Zp (gP rfl) ?_;refine Zp (gP rfl) ?_;refine Zp (gP rfl) ?_;refine Ze (Xh rfl rfl rfl)<|Za rfl ?_;refine Zn fun a f=>?_;exact ⟨f.sub ⟨rfl,rfl,rfl,rfl,X2 rfl (by first|rfl|(simp only [g,o,B,z,bs];done)|simp [g,o,B,z]),trivial⟩,rfl⟩
  refine Zv (gW z) (Xa rfl) ?_;refine Zv (gW z) (X15 rfl rfl) ?_;refine Ze (Xd rfl z rfl)<|Zm rfl ?_
  refine Zg 53 rfl (fun h=>?_) (fun h=>?_)
  ·refine Zp (gP h) ?_;refine Zp (gP h) ?_;refine Zp (gP h) ?_;refine Ze (Xh rfl h rfl)<|Za rfl ?_;refine Zn fun a f=>?_;exact ⟨f.sub ⟨rfl,rfl,rfl,rfl,X2 rfl (by first|rfl|(simp only [g,o,B,z,h,bs];done)|simp [g,o,B,z,h]),trivial⟩,rfl⟩
  refine Zv (gW h) (Xa rfl) ?_;refine Zv (gW h) (Xa rfl) ?_;refine Zv (gW h) (X3w rfl rfl) ?_;refine Ze (Xd rfl h rfl)<|Za rfl ?_;refine Zn fun a f=>?_;exact ⟨f.sub ⟨rfl,rfl,rfl,rfl,X2 rfl (by first|rfl|(simp only [g,o,B,z,h,bs];done)|simp [g,o,B,z,h]),trivial⟩,rfl⟩
 rintro a _ ⟨f,rfl⟩;refine aK _ _ ?_
 refine Xi f rfl (fun M=>?_) (fun M=>?_)
 ·have aB:=M
  have u:entryI k i j=dZ:=by rw [entryI,Q3 W,Q3 e2,Q3 e3,Q4 (by simpa [or_assoc] using M)]
  refine Zs f fun _ aL=>?_;refine Ze (Xf (ps:=[]) (cs:=[vi 0,vi 0,vi 0,vi 0,vi 0]) rfl (fun _=>by first|rfl|kernel_rfl))<|Zo (Vw [vi 0,vi 0,vi 0,vi 0,vi 0] Xb e) ?_;rintro _ bC ⟨p,G⟩;have C:=e;have m:=Below.only m p D;have e:=G;refine Zt aL fun a f=>?_;refine Q6<|X00<|X8<|X4 f (Xp f rfl (ResV.cellN (l:=[vi 0,vi 0,vi 0,vi 0,vi 0]) rfl X6 (e.at 0) rfl)) ?_;exact ⟨(by rw [u];try rfl),m⟩
 have aB:=M
 have e4:¬ (k=2∨k=3∨i≠j):=by simpa [not_or,and_assoc] using M
 refine Zs f fun _ aM=>?_;refine Zm rfl<|Ze (X15 rfl rfl)<|Za rfl<|Zt aM fun a f=>?_
 refine Xi f rfl (fun N=>?_) (fun N=>?_)
 ·have aC:=N
  have u:entryI k i j=⟨⟨1,0,0,0⟩,0⟩:=by rw [entryI,Q3 W,Q3 e2,Q3 e3,Q3 e4,Q4 (by simpa using N)]
  refine Zs f fun _ aN=>?_;refine Zf (Vc (Xj7 _ 1) X8q) ?_;rintro _ bD ⟨rfl,E⟩;have e:=e.below E;have m:=btr m E;refine Zo (Vw [vi ((⟨⟨1,0,0,0⟩,0⟩ : Dy).num.a),vi ((⟨⟨1,0,0,0⟩,0⟩ : Dy).num.b),vi ((⟨⟨1,0,0,0⟩,0⟩ : Dy).num.c),vi ((⟨⟨1,0,0,0⟩,0⟩ : Dy).num.d),vi ((⟨⟨1,0,0,0⟩,0⟩ : Dy).exp)] Xb e) ?_;rintro _ bE ⟨p,G⟩;have C:=e;have m:=Below.only m p D;have e:=G;refine Zt aN fun a f=>?_;refine Q6<|X00<|X8<|X4 f (Xp f rfl (ResV.cellN (l:=[vi ((⟨⟨1,0,0,0⟩,0⟩ : Dy).num.a),vi ((⟨⟨1,0,0,0⟩,0⟩ : Dy).num.b),vi ((⟨⟨1,0,0,0⟩,0⟩ : Dy).num.c),vi ((⟨⟨1,0,0,0⟩,0⟩ : Dy).num.d),vi ((⟨⟨1,0,0,0⟩,0⟩ : Dy).exp)]) rfl X6 (e.at 0) rfl)) ?_;exact ⟨(by rw [u];try rfl),m⟩
 have aC:=N
 have u:entryI k i j=dPow (turnOf k):=by rw [entryI,Q3 W,Q3 e2,Q3 e3,Q3 e4,Q3 (by simpa using N)]
 refine Q7<|Xk<|aX _ _<|Zs f fun _ aO=>?_;refine Zm rfl<|Zm rfl<|Ze (Xns (v:=(turnOf k)) rfl rfl Tryz.underlying203 Tryz.underlying3 t (Xiv (by omega) (by omega)))<|Zf (Vc (Xdh _ (turnOf k) (Xjh k)) X5r) ?_;rintro _ bF ⟨rfl,E⟩;have e:=e.below E;have m:=btr m E;refine Zo (Vw [vi ((dPow (turnOf k)).num.a),vi ((dPow (turnOf k)).num.b),vi ((dPow (turnOf k)).num.c),vi ((dPow (turnOf k)).num.d),vi ((dPow (turnOf k)).exp)] Xb e) ?_;rintro _ bG ⟨p,G⟩;have C:=e;have m:=Below.only m p D;have e:=G;refine Zt aO fun a f=>?_
 refine Q6 (X4 f (Xp f rfl (ResV.cellN (l:=[vi ((dPow (turnOf k)).num.a),vi ((dPow (turnOf k)).num.b),vi ((dPow (turnOf k)).num.c),vi ((dPow (turnOf k)).num.d),vi ((dPow (turnOf k)).exp)]) rfl X6 (e.at 0) rfl)) ?_)
 exact ⟨(by rw [u];try rfl),m⟩
theorem Y1f(U:World)(g:Gt)(n:Int)(ba bb:Nat)(f:Blk U ba 90 (encG g))(m:Blk U bb 3 [vi n])(hg:gOk n g=true)(i j:Int) : Ret Tryz.prog 161 [vi i,vi j,.pointer (some ⟨ba,0,none⟩),.pointer (some ⟨bb,0,none⟩)] U (fun v w=>v=.tuple #[dV (cellI n g i j),.bool true]∧Below U.heap.size U w):=by
 have aL:=f.lt;have aM:=m.lt
 unfold encG at f
 have aB:=X2k hg;have aC:=X3o n j g.a;refine enter Tryz.func161 rfl 75 rfl rfl ?_;intro a t
 have u:=bz U
 refine Zs t fun _ aN=>?_;refine Zf (X3 (zs:=[vi 0,vi 0,vi 0,vi 0,vi 0]) X0l rfl) ?_;rintro _ w1 ⟨b2,rfl,aO,y,e⟩;have B:=Q0 u.size aO;have f:=f.below y;have m:=m.below y;have u:=btr u y;refine Za rfl<|ZX aN fun a t _ a9=>?_;refine Q8<|Zs t fun _ aP=>?_;refine Ze (Vd rfl X1t 0)<|Ze (X0 rfl X9 (f.at 0))<|Ze (X15 rfl rfl)<|Za rfl<|Zt aP fun a t=>?_
 refine Xi t rfl (fun M=>?_) (fun M=>?_)
 ·have C:=M;have W:=eq_of_beq M;refine Zs t fun _ aQ=>?_;refine Zm rfl<|Zm rfl<|Ze (X15 rfl rfl)<|Zt aQ fun a t=>?_
  refine Xi t rfl (fun N=>?_) (fun N=>?_)
  ·have aD:=N
   have z:cellI n g i j=dPow 1:=by rw [cellI,Q4 W,Q4 (eq_of_beq N)]
   refine Zs t fun _ aR=>?_;refine Zf (Vc (Xdh _ 1 (by rfl)) X5r) ?_;rintro _ w2 ⟨rfl,y⟩;have e:=e.below y;have u:=btr u y;refine Zo (Vw [vi ((dPow 1).num.a),vi ((dPow 1).num.b),vi ((dPow 1).num.c),vi ((dPow 1).num.d),vi ((dPow 1).exp)] Xb e) ?_;rintro _ w3 ⟨D,L⟩;have x:=e;have u:=Below.only u D B;have e:=L;refine Za rfl<|Zt aR fun a t=>?_;refine Q6<|X00<|X8<|X4 t (X0s t rfl (ResV.cellN (l:=[vi ((dPow 1).num.a),vi ((dPow 1).num.b),vi ((dPow 1).num.c),vi ((dPow 1).num.d),vi ((dPow 1).exp)]) rfl X6 (e.at 0) rfl) rfl) ?_;exact ⟨(by rw [z];try rfl),u⟩
  have aD:=N
  have z:cellI n g i j=dZ:=by rw [cellI,Q4 W,Q3 (X1k N)]
  refine Q7<|Xk<|a9 _ _<|Zs t fun _ aS=>?_;refine Ze (Xf (ps:=[]) (cs:=[vi 0,vi 0,vi 0,vi 0,vi 0]) rfl (fun _=>by first|rfl|kernel_rfl))<|Zo (Vw [vi 0,vi 0,vi 0,vi 0,vi 0] Xb e) ?_;rintro _ w4 ⟨D,L⟩;have x:=e;have u:=Below.only u D B;have e:=L;refine Za rfl<|Zt aS fun a t=>?_
  refine Q6 (X4 t (X0s t rfl (ResV.cellN (l:=[vi 0,vi 0,vi 0,vi 0,vi 0]) rfl X6 (e.at 0) rfl) rfl) ?_)
  exact ⟨(by rw [z];try rfl),u⟩
 have C:=M;have W:=X1k M;have aU:=aB.2.2.1 W;refine Zs t fun _ aE=>?_;refine Ze (Vd rfl X1t 0)<|Ze (X0 rfl X9 (f.at 0))<|Zf (Vc (F99 _ g.k) Xsr) ?_;rintro _ _ ⟨rfl,rfl⟩;refine Za rfl<|Zt aE fun a t=>?_
 refine Xi t rfl (fun G=>?_) (fun G=>?_)
 ·have A:=G;have H:=G;have aW:=aB.2.2.2 (X0a.1 H);refine Zs t fun _ aF=>?_;refine Ze (X0 rfl X9 (m.at 0))<|Ze (Xz (l:=[vi g.k,vi g.a,vi g.b]) rfl X2f (f.at 0) rfl)<|Zm rfl<|Zf (Vc (Y0h _ n g i hg (X0a.1 H)) Xtp) ?_;rintro _ w5 ⟨rfl,y⟩;have f:=f.below y;have m:=m.below y;have e:=e.below y;have u:=btr u y;refine Zm rfl<|Ze (X15 rfl rfl)<|Zt aF fun a t=>?_
  refine Xi t rfl (fun I=>?_) (fun I=>?_)
  ·have E:=I
   have z:cellI n g i j=dPow (4*(if czI n g i=true then 1 else 0)):=by rw [cellI,Q3 W,Q4 H,Q4 (eq_of_beq I)]
   refine Q5 fun _ aG=>?_;refine X09 (fun a w=>Fr a 75 [(6,.pointer (some ⟨b2,0,none⟩)),(7,.bool true)]∧Blk w ba 90 [vi g.k,vi g.a,vi g.b]∧Blk w bb 3 [vi n]∧Blk w b2 86 [vi ((dPow (4*(if (((g.k==10)&&((bitF n i g.a)==1))&&((bitF n i g.b)==1))=true then 1 else 0))).num.a),vi ((dPow (4*(if (((g.k==10)&&((bitF n i g.a)==1))&&((bitF n i g.b)==1))=true then 1 else 0))).num.b),vi ((dPow (4*(if (((g.k==10)&&((bitF n i g.a)==1))&&((bitF n i g.b)==1))=true then 1 else 0))).num.c),vi ((dPow (4*(if (((g.k==10)&&((bitF n i g.a)==1))&&((bitF n i g.b)==1))=true then 1 else 0))).num.d),vi ((dPow (4*(if (((g.k==10)&&((bitF n i g.a)==1))&&((bitF n i g.b)==1))=true then 1 else 0))).exp)]∧Below U.heap.size U w) ?_ ?_
   ·refine Zr t<|Ze (Vd rfl X1t 0)<|Ze (X0 rfl X9 (f.at 0))<|Ze (X15 rfl rfl)<|Zm rfl ?_
    refine Zg 29 rfl (fun p=>?_) (fun p=>?_)
    ·refine Zv (gW p) (X0 rfl X9 (m.at 0)) ?_;refine Zv (gW p) (Xa rfl) ?_;refine Zv (gW p) (Vd rfl X18 1) ?_;refine Zv (gW p) (X0 rfl X9 (f.at 1)) ?_;refine Zk (gW p) (Vc (Xj3 _ n i g.a (by omega) (by omega) (by omega)) X8f) ?_;rintro _ _ ⟨rfl,rfl⟩;refine Zv (gW p) (X15 rfl rfl) ?_;refine Ze (Xh rfl p rfl)<|Zm rfl ?_
     refine Zg 37 rfl (fun q=>?_) (fun q=>?_)
     ·refine Zv (gW q) (X0 rfl X9 (m.at 0)) ?_;refine Zv (gW q) (Xa rfl) ?_;refine Zv (gW q) (Vd rfl X1s 2) ?_;refine Zv (gW q) (X0 rfl X9 (f.at 2)) ?_;refine Zk (gW q) (Vc (Xj3 _ n i g.b (by omega) (by omega) (by omega)) X8f) ?_;rintro _ _ ⟨rfl,rfl⟩;refine Zv (gW q) (X15 rfl rfl) ?_;refine Ze (Xh rfl q rfl)<|Zf (Vc (F59 _ ((bitF n i g.b)==1)) Xev) ?_;rintro _ _ ⟨rfl,rfl⟩;refine Ze (X4r rfl rfl (by split<;>decide) (by split<;>decide))<|Zf (Vc (Xdh _ (4*(if ((bitF n i g.b)==1)=true then 1 else 0)) (by split<;>rfl)) X5r) ?_;rintro _ w6 ⟨rfl,y⟩;have f:=f.below y;have m:=m.below y;have e:=e.below y;have u:=btr u y;refine Zo (Vw [vi ((dPow (4*(if ((bitF n i g.b)==1)=true then 1 else 0))).num.a),vi ((dPow (4*(if ((bitF n i g.b)==1)=true then 1 else 0))).num.b),vi ((dPow (4*(if ((bitF n i g.b)==1)=true then 1 else 0))).num.c),vi ((dPow (4*(if ((bitF n i g.b)==1)=true then 1 else 0))).num.d),vi ((dPow (4*(if ((bitF n i g.b)==1)=true then 1 else 0))).exp)] Xb e) ?_;rintro _ w7 ⟨D,L⟩;have x:=e;have f:=f.only D (Blk.ne f x rfl);have m:=m.only D (Blk.ne m x rfl);have u:=Below.only u D B;have e:=L;refine Za rfl ?_;refine Zn fun a t=>?_
      have Q:(((g.k==10)&&((bitF n i g.a)==1))&&((bitF n i g.b)==1))=((bitF n i g.b)==1):=by simp [C,A,E,p,q]
      have e:Blk w7 b2 86 [vi ((dPow (4*(if (((g.k==10)&&((bitF n i g.a)==1))&&((bitF n i g.b)==1))=true then 1 else 0))).num.a),vi ((dPow (4*(if (((g.k==10)&&((bitF n i g.a)==1))&&((bitF n i g.b)==1))=true then 1 else 0))).num.b),vi ((dPow (4*(if (((g.k==10)&&((bitF n i g.a)==1))&&((bitF n i g.b)==1))=true then 1 else 0))).num.c),vi ((dPow (4*(if (((g.k==10)&&((bitF n i g.a)==1))&&((bitF n i g.b)==1))=true then 1 else 0))).num.d),vi ((dPow (4*(if (((g.k==10)&&((bitF n i g.a)==1))&&((bitF n i g.b)==1))=true then 1 else 0))).exp)]:=by rw [Q];exact e
      exact ⟨t.sb,f,m,e,u⟩
     refine Zp (gP q) ?_;refine Zp (gP q) ?_;refine Zp (gP q) ?_;refine Zp (gP q) ?_;refine Zp (gP q) ?_;refine Zp (gP q) ?_;refine Ze (Xd rfl q rfl)<|Zf (Vc (F59 _ false) Xev) ?_;rintro _ _ ⟨rfl,rfl⟩;refine Ze (X4r rfl rfl (by split<;>decide) (by split<;>decide))<|Zf (Vc (Xdh _ (4*(if false=true then 1 else 0)) (by split<;>rfl)) X5r) ?_;rintro _ w8 ⟨rfl,y⟩;have f:=f.below y;have m:=m.below y;have e:=e.below y;have u:=btr u y;refine Zo (Vw [vi ((dPow (4*(if false=true then 1 else 0))).num.a),vi ((dPow (4*(if false=true then 1 else 0))).num.b),vi ((dPow (4*(if false=true then 1 else 0))).num.c),vi ((dPow (4*(if false=true then 1 else 0))).num.d),vi ((dPow (4*(if false=true then 1 else 0))).exp)] Xb e) ?_;rintro _ w9 ⟨D,L⟩;have x:=e;have f:=f.only D (Blk.ne f x rfl);have m:=m.only D (Blk.ne m x rfl);have u:=Below.only u D B;have e:=L;refine Za rfl ?_;refine Zn fun a t=>?_
     have Q:(((g.k==10)&&((bitF n i g.a)==1))&&((bitF n i g.b)==1))=(false):=by simp [C,A,E,p,q]
     have e:Blk w9 b2 86 [vi ((dPow (4*(if (((g.k==10)&&((bitF n i g.a)==1))&&((bitF n i g.b)==1))=true then 1 else 0))).num.a),vi ((dPow (4*(if (((g.k==10)&&((bitF n i g.a)==1))&&((bitF n i g.b)==1))=true then 1 else 0))).num.b),vi ((dPow (4*(if (((g.k==10)&&((bitF n i g.a)==1))&&((bitF n i g.b)==1))=true then 1 else 0))).num.c),vi ((dPow (4*(if (((g.k==10)&&((bitF n i g.a)==1))&&((bitF n i g.b)==1))=true then 1 else 0))).num.d),vi ((dPow (4*(if (((g.k==10)&&((bitF n i g.a)==1))&&((bitF n i g.b)==1))=true then 1 else 0))).exp)]:=by rw [Q];exact e
     exact ⟨t.sb,f,m,e,u⟩
    refine Zp (gP p) ?_;refine Zp (gP p) ?_;refine Zp (gP p) ?_;refine Zp (gP p) ?_;refine Zp (gP p) ?_;refine Zp (gP p) ?_;refine Ze (Xd rfl p rfl)<|Zm rfl<|Zp (gP rfl) ?_;refine Zp (gP rfl) ?_;refine Zp (gP rfl) ?_;refine Zp (gP rfl) ?_;refine Zp (gP rfl) ?_;refine Zp (gP rfl) ?_;refine Ze (Xd rfl rfl rfl)<|Zf (Vc (F59 _ false) Xev) ?_;rintro _ _ ⟨rfl,rfl⟩;refine Ze (X4r rfl rfl (by split<;>decide) (by split<;>decide))<|Zf (Vc (Xdh _ (4*(if false=true then 1 else 0)) (by split<;>rfl)) X5r) ?_;rintro _ aX ⟨rfl,y⟩;have f:=f.below y;have m:=m.below y;have e:=e.below y;have u:=btr u y;refine Zo (Vw [vi ((dPow (4*(if false=true then 1 else 0))).num.a),vi ((dPow (4*(if false=true then 1 else 0))).num.b),vi ((dPow (4*(if false=true then 1 else 0))).num.c),vi ((dPow (4*(if false=true then 1 else 0))).num.d),vi ((dPow (4*(if false=true then 1 else 0))).exp)] Xb e) ?_;rintro _ aT ⟨D,L⟩;have x:=e;have f:=f.only D (Blk.ne f x rfl);have m:=m.only D (Blk.ne m x rfl);have u:=Below.only u D B;have e:=L;refine Za rfl ?_;refine Zn fun a t=>?_
    have Q:(((g.k==10)&&((bitF n i g.a)==1))&&((bitF n i g.b)==1))=(false):=by simp [C,A,E,p]
    have e:Blk aT b2 86 [vi ((dPow (4*(if (((g.k==10)&&((bitF n i g.a)==1))&&((bitF n i g.b)==1))=true then 1 else 0))).num.a),vi ((dPow (4*(if (((g.k==10)&&((bitF n i g.a)==1))&&((bitF n i g.b)==1))=true then 1 else 0))).num.b),vi ((dPow (4*(if (((g.k==10)&&((bitF n i g.a)==1))&&((bitF n i g.b)==1))=true then 1 else 0))).num.c),vi ((dPow (4*(if (((g.k==10)&&((bitF n i g.a)==1))&&((bitF n i g.b)==1))=true then 1 else 0))).num.d),vi ((dPow (4*(if (((g.k==10)&&((bitF n i g.a)==1))&&((bitF n i g.b)==1))=true then 1 else 0))).exp)]:=by rw [Q];exact e
    exact ⟨t.sb,f,m,e,u⟩
   rintro a aY ⟨t,f,m,e,u⟩;refine aG _ _<|Q6<|X00<|X8 ?_;refine X4 t (X0s t rfl (ResV.cellN (l:=[vi ((dPow (4*(if (((g.k==10)&&((bitF n i g.a)==1))&&((bitF n i g.b)==1))=true then 1 else 0))).num.a),vi ((dPow (4*(if (((g.k==10)&&((bitF n i g.a)==1))&&((bitF n i g.b)==1))=true then 1 else 0))).num.b),vi ((dPow (4*(if (((g.k==10)&&((bitF n i g.a)==1))&&((bitF n i g.b)==1))=true then 1 else 0))).num.c),vi ((dPow (4*(if (((g.k==10)&&((bitF n i g.a)==1))&&((bitF n i g.b)==1))=true then 1 else 0))).num.d),vi ((dPow (4*(if (((g.k==10)&&((bitF n i g.a)==1))&&((bitF n i g.b)==1))=true then 1 else 0))).exp)]) rfl X6 (e.at 0) rfl) rfl) ?_;exact ⟨(by rw [z];try rfl),u⟩
  have E:=I
  have z:cellI n g i j=dZ:=by rw [cellI,Q3 W,Q4 H,Q3 (X1k I)]
  refine Q7<|Xk<|a9 _ _<|Zs t fun _ aH=>?_;refine Ze (Xf (ps:=[]) (cs:=[vi 0,vi 0,vi 0,vi 0,vi 0]) rfl (fun _=>by first|rfl|kernel_rfl))<|Zo (Vw [vi 0,vi 0,vi 0,vi 0,vi 0] Xb e) ?_;rintro _ aZ ⟨D,L⟩;have x:=e;have u:=Below.only u D B;have e:=L;refine Za rfl<|Zt aH fun a t=>?_
  refine Q6 (X4 t (X0s t rfl (ResV.cellN (l:=[vi 0,vi 0,vi 0,vi 0,vi 0]) rfl X6 (e.at 0) rfl) rfl) ?_)
  exact ⟨(by rw [z];try rfl),u⟩
 have A:=G
 have H:¬ inR g.k 9 11=true:=by rw [G];simp
 have b0:g.k≤8:=by have h9:¬ (9≤g.k∧g.k≤11):=(fun h=>H (X0a.2 h));omega
 refine Q5 fun _ aI=>?_;refine X09 (fun a w=>Fr a 75 [(0,vi i),(1,vi j),(2,.pointer (some ⟨ba,0,none⟩)),(3,.pointer (some ⟨bb,0,none⟩)),(6,.pointer (some ⟨b2,0,none⟩)),(48,.bool ((i==j)||((flipF n i g.a)==j)))]∧w1=w) ?_ ?_
 ·refine Zr t<|Zm rfl<|Zm rfl<|Ze (X15 rfl rfl)<|Zm rfl ?_
  refine Zg 52 rfl (fun o=>?_) (fun o=>?_)
  ·refine Zp (gP o) ?_;refine Zp (gP o) ?_;refine Zp (gP o) ?_;refine Zp (gP o) ?_;refine Zp (gP o) ?_;refine Zp (gP o) ?_;refine Zp (gP o) ?_;refine Ze (Xh rfl o rfl)<|Za rfl ?_;refine Zn fun a t=>?_;exact ⟨t.sub ⟨rfl,rfl,rfl,rfl,rfl,X2 rfl (by first|rfl|(simp only [C,A,o,bs];done)|simp [C,A,o]),trivial⟩,rfl⟩
  refine Zv (gW o) (X0 rfl X9 (m.at 0)) ?_;refine Zv (gW o) (Xa rfl) ?_;refine Zv (gW o) (Vd rfl X18 1) ?_;refine Zv (gW o) (X0 rfl X9 (f.at 1)) ?_;refine Zk (gW o) (Vc (Xni _ n i g.a (by omega) (by omega) (by omega)) Xdu) ?_;rintro _ _ ⟨rfl,rfl⟩;refine Zv (gW o) (Xa rfl) ?_;refine Zv (gW o) (X15 rfl rfl) ?_;refine Ze (Xd rfl o rfl)<|Za rfl ?_;refine Zn fun a t=>?_;exact ⟨t.sub ⟨rfl,rfl,rfl,rfl,rfl,X2 rfl (by first|rfl|(simp only [C,A,o,bs];done)|simp [C,A,o]),trivial⟩,rfl⟩
 rintro a _ ⟨t,rfl⟩;refine aI _ _ ?_
 refine Xi t rfl (fun J=>?_) (fun J=>?_)
 ·have aA:=J
  have z:cellI n g i j=entryI g.k (bitF n i g.a) (bitF n j g.a):=by rw [cellI,Q3 W,Q3 H,Q4 (by simpa using J)]
  refine Q5 fun _ aJ=>?_;refine Xy none (fun j=>[13].contains j) mixed ?_;intro b1 y;have f:=f.below y;have m:=m.below y;have e:=e.below y;have u:=btr u y;refine Yb t<|Yo 0 rfl (fun _=>Vd rfl X1t 0)<|Ye 1 rfl (X0 rfl X9 (f.at 0))<|Ye 2 rfl (X0 rfl X9 (m.at 0))<|Yo 3 rfl (fun _=>Xa rfl)<|Yo 4 rfl (fun _=>Vd rfl X18 1)<|Ye 5 rfl (X0 rfl X9 (f.at 1))<|Ye 7 rfl (X0 rfl X9 (m.at 0))<|Yo 8 rfl (fun _=>Xa rfl)<|Yo 9 rfl (fun _=>Vd rfl X18 1)<|Ye 10 rfl (X0 rfl X9 (f.at 1)) ?_;refine Y1 6<|Yz rfl trivial (Vc (Xj3 _ n i g.a (by omega) (by omega) (by omega)) X8f) ?_;refine Y1 11<|Yz rfl trivial (Vc (Xj3 _ n j g.a (by omega) (by omega) (by omega)) X8f) ?_;refine Y1 12<|Yk rfl trivial (Vc (Y0r _ g.k (bitF n i g.a) (bitF n j g.a) (by omega) aC) Xwc) (fun _ _ ⟨_,y⟩=>y) ?_;rintro _ b3 ⟨rfl,y⟩;have e:=e.below y;have u:=btr u y;refine Y1 13<|Yh rfl trivial rfl (Vw [vi ((entryI g.k (bitF n i g.a) (bitF n j g.a)).num.a),vi ((entryI g.k (bitF n i g.a) (bitF n j g.a)).num.b),vi ((entryI g.k (bitF n i g.a) (bitF n j g.a)).num.c),vi ((entryI g.k (bitF n i g.a) (bitF n j g.a)).num.d),vi ((entryI g.k (bitF n i g.a) (bitF n j g.a)).exp)] Xb e) ?_;rintro _ b4 ⟨D,L⟩;have x:=e;have u:=Below.only u D B;have e:=L;refine Yo 14 rfl (fun _=>X0q rfl) ?_;refine Yd fun a t=>?_;refine aJ _ _<|Q6<|X00<|X8 ?_;refine X4 t (X0s t rfl (ResV.cellN (l:=[vi ((entryI g.k (bitF n i g.a) (bitF n j g.a)).num.a),vi ((entryI g.k (bitF n i g.a) (bitF n j g.a)).num.b),vi ((entryI g.k (bitF n i g.a) (bitF n j g.a)).num.c),vi ((entryI g.k (bitF n i g.a) (bitF n j g.a)).num.d),vi ((entryI g.k (bitF n i g.a) (bitF n j g.a)).exp)]) rfl X6 (e.at 0) rfl) rfl) ?_
  exact ⟨(by rw [z];try rfl),u⟩
 have aA:=J
 have z:cellI n g i j=dZ:=by rw [cellI,Q3 W,Q3 H,Q3 (by simpa using J)]
 refine Q7<|Xk<|a9 _ _<|Zs t fun _ aK=>?_;refine Ze (Xf (ps:=[]) (cs:=[vi 0,vi 0,vi 0,vi 0,vi 0]) rfl (fun _=>by first|rfl|kernel_rfl))<|Zo (Vw [vi 0,vi 0,vi 0,vi 0,vi 0] Xb e) ?_;rintro _ b5 ⟨D,L⟩;have x:=e;have u:=Below.only u D B;have e:=L;refine Za rfl<|Zt aK fun a t=>?_
 refine Q6 (X4 t (X0s t rfl (ResV.cellN (l:=[vi 0,vi 0,vi 0,vi 0,vi 0]) rfl X6 (e.at 0) rfl) rfl) ?_)
 exact ⟨(by rw [z];try rfl),u⟩
theorem Xlu(w0:World)(n:Int)(g:Gt) : Ret Tryz.prog 120 [vi n,.agg #[vi g.k,vi g.a,vi g.b]] w0 (fun v w=>∃ A c,v=.tuple #[mV A c ((gateI n g).getD mZ),.bool (gateI n g).isSome]∧Own w w0.heap.size 86 5 encD A c ((gateI n g).getD mZ).cells∧Below w0.heap.size w0 w):=by
 refine enter Tryz.func120 rfl 19 rfl rfl ?_;intro a u
 have p:=bz w0
 refine Zs u fun _ aC=>?_;refine Zf (X0b (zs:=[vi n]) rfl rfl) ?_;rintro _ w1 ⟨b2,rfl,aD,o,f⟩;have aJ:=Q0 p.size aD;have p:=btr p o;refine Zf (X0b (zs:=[vi g.k,vi g.a,vi g.b]) rfl rfl) ?_;rintro _ w2 ⟨b3,rfl,aE,o,t⟩;have aK:=Q0 p.size aE;have f:=f.below o;have p:=btr p o;refine Zf (X3 (zs:=[vi 0,vi 0,.slice none 0 0]) X0n rfl) ?_;rintro _ w3 ⟨b5,rfl,aF,o,e⟩;have h:=Q0 p.size aF;have f:=f.below o;have t:=t.below o;have p:=btr p o;refine Za rfl<|ZX aC fun a u _ aG=>?_;refine Zs u fun _ aH=>?_;refine Ze (X0 rfl X9 (f.at 0))<|Ze (Vn X2f t)<|Zf (Vc (Xz5 _ n g) Xl5) ?_;rintro _ w4 ⟨rfl,o⟩;have f:=f.below o;have t:=t.below o;have e:=e.below o;have p:=btr p o;refine Ze (X0p rfl)<|Zt aH fun a u=>?_
 refine Xi u rfl (fun z=>?_) (fun z=>?_)
 ·have a9:=z
  have hn:¬ gOk n g=true:=by revert z;cases gOk n g<;>simp
  refine Zs u fun _ aI=>?_;refine Ze (Xf (ps:=[]) (cs:=[vi 0,vi 0,.slice none 0 0]) rfl (fun _=>by first|rfl|kernel_rfl))<|Zo (Vw [vi 0,vi 0,.slice none 0 0] Xt e) ?_;rintro _ w5 ⟨ho,hb⟩;have B:=e;have p:=Below.only p ho h;have e:=hb;refine Za rfl<|Zt aI fun a u=>?_;refine Q6<|X8<|X4 u (X0s u rfl (ResV.cellN (l:=[vi 0,vi 0,.slice none 0 0]) rfl Xg (e.at 0) rfl) rfl) ?_;exact ⟨none,0,by rw [gateI,Q3 hn];rfl,by rw [gateI,Q3 hn];exact (Own.nil _ _ _ _ _),p⟩
 have a9:=z
 have hg:gOk n g=true:=by revert z;cases gOk n g<;>simp
 have aL:=X2k hg
 obtain ⟨d,hd⟩ : ∃ d:Nat,d=2^n.toNat:=⟨_,rfl⟩
 refine Q7<|aG _ _<|Q5 fun _ aA=>?_;refine Xy none (fun j=>[8].contains j) mixed ?_;intro w6 o;have f:=f.below o;have t:=t.below o;have e:=e.below o;have p:=btr p o;refine Yb u<|Ye 0 rfl (X0 rfl X9 (f.at 0))<|Yo 1 rfl (fun _=>Xa7 (m:=n.toNat) (D:=d) rfl rfl (by omega) ⟨hd,by omega⟩)<|Ye 2 rfl (X0 rfl X9 (f.at 0))<|Yo 3 rfl (fun _=>Xa7 (m:=n.toNat) (D:=d) rfl rfl (by omega) ⟨hd,by omega⟩)<|Yo 4 rfl (fun _=>X4b (vs:=[.pointer (some ⟨b3,0,none⟩),.pointer (some ⟨b2,0,none⟩)]) rfl)<|Y1 5 ?_;refine Yk rfl trivial (Vc (Xkk _ (d:Int) (d:Int) 161 [.pointer (some ⟨b3,0,none⟩),.pointer (some ⟨b2,0,none⟩)] Xvk (fun i j=>some (cellI n g i j)) (fun i j w' hi hj hE'=>Y1f w' g n _ _ (t.below hE') (f.below hE') hg i j)) Xau) (fun _ _ ⟨x,y,_,q,o⟩=>o) ?_;rintro _ w7 ⟨x,y,rfl,q,o⟩;have q:=q.lower p.size;have e:=e.below o;have p:=btr p o;refine Yo 6 rfl (fun _=>X1 (vs:=[.agg #[vi (((matOf (d:Int) (d:Int) (fun i j=>some (cellI n g i j))).getD mZ).rows),vi (((matOf (d:Int) (d:Int) (fun i j=>some (cellI n g i j))).getD mZ).cols),.slice x (((matOf (d:Int) (d:Int) (fun i j=>some (cellI n g i j))).getD mZ).cells).length y],.bool ((matOf (d:Int) (d:Int) (fun i j=>some (cellI n g i j))).isSome)]) rfl rfl)<|Yo 7 rfl (fun _=>X1 (vs:=[.agg #[vi (((matOf (d:Int) (d:Int) (fun i j=>some (cellI n g i j))).getD mZ).rows),vi (((matOf (d:Int) (d:Int) (fun i j=>some (cellI n g i j))).getD mZ).cols),.slice x (((matOf (d:Int) (d:Int) (fun i j=>some (cellI n g i j))).getD mZ).cells).length y],.bool ((matOf (d:Int) (d:Int) (fun i j=>some (cellI n g i j))).isSome)]) rfl rfl)<|Y1 8 ?_;refine Yh rfl trivial rfl (Vw [vi (((matOf (d:Int) (d:Int) (fun i j=>some (cellI n g i j))).getD mZ).rows),vi (((matOf (d:Int) (d:Int) (fun i j=>some (cellI n g i j))).getD mZ).cols),.slice x (((matOf (d:Int) (d:Int) (fun i j=>some (cellI n g i j))).getD mZ).cells).length y] Xt e) ?_;rintro _ w8 ⟨ho,hb⟩
 have B:=e;have q:=q.onlyT ho B rfl;have p:=Below.only p ho h;have e:=hb;refine Yo 9 rfl (fun _=>X0q rfl) ?_;refine Yd fun a u=>?_;refine aA _ _ ?_
 refine Q6 (X4 u (X0s u rfl (ResV.cellN (l:=[vi (((matOf (d:Int) (d:Int) (fun i j=>some (cellI n g i j))).getD mZ).rows),vi (((matOf (d:Int) (d:Int) (fun i j=>some (cellI n g i j))).getD mZ).cols),.slice x (((matOf (d:Int) (d:Int) (fun i j=>some (cellI n g i j))).getD mZ).cells).length y]) rfl Xg (e.at 0) rfl) rfl) ?_)
 have aB:gateI n g=matOf (d:Int) (d:Int) fun i j=>some (cellI n g i j):=by rw [gateI,Q4 hg,hd]
 rw [aB]
 exact ⟨x,y,rfl,q,p⟩
end Go.Proofs.YtnmabjfoiakapaaGreatDoor
namespace Go.Proofs
open Go.Shelf
end Go.Proofs
namespace Go.Proofs.YtnmabjfoiakapaaGreatDoor
open Go.RowKit
section
variable {α : Type}
theorem X94{enc:α→List Value}{sz:Nat}(hsz:∀ x,(enc x).length=sz){l:List α}{j:Nat}(hj:j<l.length*sz) : ∃ x,l[j/sz]? = some x∧(l.flatMap enc)[j]? = (enc x)[j % sz]?:=by
 have h0:0<sz:=by
  rcases Nat.eq_zero_or_pos sz with h|h
  ·subst h;simp at hj
  ·exact h
 have hk:j/sz<l.length:=Nat.div_lt_of_lt_mul (by rw [Wi];exact hj)
 refine ⟨l[j/sz],Qc hk,?_⟩
 have hm:j % sz<(enc l[j/sz]).length:=by rw [hsz];exact Nat.mod_lt _ h0
 have h1:=X7d hsz l (j/sz) _ (Qc hk) (j % sz) _ (Qc hm)
 rw [show j/sz*sz+j % sz=j from by rw [Wi];exact Nat.div_add_mod j sz] at h1
 rw [h1,Qc hm]
theorem Xbe{enc:α→List Value}{sz:Nat}(hsz:∀ x,(enc x).length=sz){z:Value}{z0:α}(hz:z.cells.toList=enc z0)(n:Nat) : madeCells z.cells (n*sz)=((List.replicate n z0).flatMap enc).toArray:=by
 have hs:z.cells.size=sz:=by rw [← hsz z0,← hz];simp
 apply Array.ext'
 apply List.ext_getElem?
 intro j
 by_cases hj:j<n*sz
 ·obtain ⟨x,hx,h1⟩:=X94 hsz (l:=List.replicate n z0) (j:=j) (by simpa using hj)
  obtain rfl:x=z0:=(List.eq_of_mem_replicate (Qe hx))
  have h0:0<sz:=by
   rcases Nat.eq_zero_or_pos sz with h|h
   ·subst h;simp at hj
   ·exact h
  have hm:j % sz<z.cells.size:=by rw [hs];exact Nat.mod_lt _ h0
  rw [List.toList_toArray,h1,← hz]
  simp only [madeCells,Array.getElem?_toList,Array.getElem?_map,Array.getElem?_range,hj,if_true,Option.map_some,hs]
  rw [getElem!_pos z.cells (j % sz) hm,Array.getElem?_eq_getElem hm]
 ·rw [List.getElem?_eq_none (by simp [madeCells];omega),List.toList_toArray,List.getElem?_eq_none (by rw [X0j hsz];simp;omega)]
theorem X6k{enc:α→List Value}{sz:Nat}(hsz:∀ x,(enc x).length=sz) : ∀ (l:List α) (k:Nat) (x:α),k<l.length→splice (l.flatMap enc) (k*sz) (enc x)=(l.set k x).flatMap enc
 | [],k,x,h=>by simp at h
 | y::l,0,x,h=>by
  simp only [splice,Nat.zero_mul,List.take_zero,List.nil_append,Nat.zero_add,Wc,List.set_cons_zero]
  rw [hsz,← hsz y,List.drop_left]
 | y::l,k+1,x,h=>by
  have ih:=X6k hsz l k x (by simpa using h)
  unfold splice at ih ⊢
  have h1:(k+1)*sz=(enc y).length+k*sz:=by rw [hsz,Wb];omega
  rw [h1]
  simp only [Wc,List.set_cons_succ]
  rw [List.take_length_add_append,show (enc y).length+k*sz+(enc x).length=(enc y).length+(k*sz+(enc x).length) from by omega,List.drop_length_add_append,Qx,Qx]
  rw [← ih,Qx]
end
section
variable {α : Type} {P : Program} {a : Act} {w : World} {n : Nat} {e : Env} {ty : TypeId} {pos : String} {af : Array Edge} {g : Option (Nat × Bool)} {d : Option Tmp}
theorem Xdf{T E sz bytes m:Nat}{x y:Operand}{enc:α→List Value}{z:Value}{z0:α}(hf:Fr a n e)(hx:ev e x=some (.int .i64 (m:Int)))(hy:ev e y=some (.int .i64 (m:Int)))(hT:SliceT P T E)(hi:InfoT P E sz bytes)(hz:ZeroT P E z)(hz0:z.cells.toList=enc z0)(hsz:∀ x,(enc x).length=sz)(hb:bytes*m≤281474976710656)(hm:m≤4611686018427387904) :
  Ef P ⟨d,.makeSlice T x y,ty,pos,af,g⟩ a w (fun v w'=>∃ b,v=.slice (some ⟨b,0,none⟩) m m∧w.heap.size≤b∧Below w.heap.size w w'∧Blk w' b E ((List.replicate m z0).flatMap enc)):=by
 obtain ⟨i,z1,hi1,hi2,hi3,hi4,hi5,hi6⟩:=hi;obtain ⟨i',hi1',hz1⟩:=hz
 rw [hi1] at hi1'
 injection hi1' with hi1'
 subst hi1'
 rw [hi2] at hz1
 injection hz1 with hz1
 subst hz1
 have hb':(i.bytes:Int)*(m:Int)≤281474976710656:=by
  have h:((i.bytes*m:Nat) : Int)≤281474976710656:=by rw [hi4];omega
  rwa [Int.natCast_mul] at h
 have hr:=run_make (P:=P) w T E i z1 hT hi1 hi2 .i64 .i64 m m (by omega) (Int.le_refl _) hb' (by omega)
 refine (Ef.of_run (v:=.slice (some ⟨w.heap.size,0,none⟩) m m) (w':=w.alloc (.cells ((List.replicate m z0).flatMap enc).toArray E)) ?_).mono fun v w' ⟨e1,e2⟩=>?_
 ·rw [hi3,Qj,Xbe hsz hz0] at hr
  simp [execOp,hf.ev hx,hf.ev hy,hr]
 ·subst e1;subst e2
  exact ⟨_,rfl,Qb _,(Below.refl _ _).alloc (Qb _) _,X8s w E _⟩
theorem Xgq{T E sz bytes m:Nat}{x y:Operand}{enc:α→List Value}{z:Value}{z0:α}(hx:ev e x=some (.int .i64 (m:Int)))(hy:ev e y=some (.int .i64 (m:Int)))(hT:SliceT P T E)(hi:InfoT P E sz bytes)(hz:ZeroT P E z)(hz0:z.cells.toList=enc z0)(hsz:∀ x,(enc x).length=sz)(hb:bytes*m≤281474976710656)(hm:m≤4611686018427387904) : EfW P ⟨d,.makeSlice T x y,ty,pos,af,g⟩ n e w (fun v w'=>∃ b,v=.slice (some ⟨b,0,none⟩) m m∧w.heap.size≤b∧Below w.heap.size w w'∧Blk w' b E ((List.replicate m z0).flatMap enc)):=fun a hf=>Xdf hf hx hy hT hi hz hz0 hsz hb hm
theorem Xbz{T E sz b m c k off:Nat}{x y:Operand}{i:Int}(hf:Fr a n e)(hx:ev e x=some (.slice (some ⟨b,0,none⟩) m c))(hy:ev e y=some (.int .i64 i))(hT:SliceT P T E)(hs:SizeT P E sz)(hi:i=(k:Int))(hk:k<m)(ho:k*sz=off) :
  Ev P ⟨d,.indexAddr T x y,ty,pos,af,g⟩ a w (.pointer (some ⟨b,off,none⟩)):=by
 have h:=X8a (P:=P) (w:=w) (d:=d) (ty:=ty) (pos:=pos) (af:=af) (g:=g) hf hx hy hT hs hi hk
 rwa [X1y,Nat.zero_add,ho] at h
theorem Xpx{T E sz b m c k off:Nat}{x y:Operand}{i:Int}(hx:ev e x=some (.slice (some ⟨b,0,none⟩) m c))(hy:ev e y=some (.int .i64 i))(hT:SliceT P T E)(hs:SizeT P E sz)(hi:i=(k:Int))(hk:k<m)(ho:k*sz=off) : EvW P ⟨d,.indexAddr T x y,ty,pos,af,g⟩ n e w (.pointer (some ⟨b,off,none⟩)):=fun a hf=>Xbz hf hx hy hT hs hi hk ho
theorem Xiz{t T b k sz:Nat}{x y:Operand}{v:Value}{enc:α→List Value}{l:List α}{u:α}(hf:Fr a n e)(hx:ev e x=some (.pointer (some ⟨b,k*sz,none⟩)))(hy:ev e y=some v)(hs:SizeT P t sz)(hb:Blk w b T (l.flatMap enc))(hsz:∀ x,(enc x).length=sz)(hone:∀ x,(enc x).all one=true)(hv:v.cells.toList=enc u)(hk:k<l.length) :
  Ef P ⟨d,.store t x y,ty,pos,af,g⟩ a w (Stored w b T ((l.set k u).flatMap enc)):=by
 have hl:k*sz+sz≤(l.flatMap enc).length:=by
  rw [X0j hsz]
  have:=Nat.mul_le_mul_right sz (show k+1≤l.length by omega)
  rwa [Wb,Nat.one_mul] at this
 exact Xaa (vs:=enc u) hf hx hy hs hb hv (by rw [hsz];simp) (hone u) (by rw [Nat.ble_eq];exact hl) (X6k hsz l k u hk)
theorem Xpn{t T b k sz:Nat}{x y:Operand}{v:Value}{enc:α→List Value}{l:List α}{u:α}(hx:ev e x=some (.pointer (some ⟨b,k*sz,none⟩)))(hy:ev e y=some v)(hs:SizeT P t sz)(hb:Blk w b T (l.flatMap enc))(hsz:∀ x,(enc x).length=sz)(hone:∀ x,(enc x).all one=true)(hv:v.cells.toList=enc u)(hk:k<l.length) : EfW P ⟨d,.store t x y,ty,pos,af,g⟩ n e w (Stored w b T ((l.set k u).flatMap enc)):=fun a hf=>Xiz hf hx hy hs hb hsz hone hv hk
theorem Xdo{T E sz m c k:Nat}{x y:Operand}{A:Option Addr}{i:Int}(hf:Fr a n e)(hx:ev e x=some (.slice A m c))(hy:ev e y=some (.int .i64 i))(hT:SliceT P T E)(hs:SizeT P E sz)(hi:i=(k:Int))(hk:k≤m) :
  Ev P ⟨d,.slice T x (some y) none none,ty,pos,af,g⟩ a w (.slice (if c=k then A else A.map (·.add (k*sz))) (m-k) (c-k)):=fun w' _=>by
 subst hi
 simp [execOp,Instr.sliceAt,Instr.slice,Instr.sliceBounds,run_sliceBound,X12 hT,run_sizeOf' hs,hf.ev hx,hf.ev hy,hk]
end
section
variable {α : Type} {w : World} {B B0 : Nat} {E : TypeId} {sz : Nat} {enc : α → List Value} {A : Option Addr} {c : Nat} {l : List α}
theorem Xdp(hsz:∀ x,(enc x).length=sz)(k:Nat) : (l.drop k).flatMap enc=(l.flatMap enc).drop (k*sz):=by
 conv=>rhs;rw [← W9 k l]
 rw [List.flatMap_append]
 by_cases hk:k≤l.length
 ·have:((l.take k).flatMap enc).length=k*sz:=by rw [X0j hsz,Qn,Nat.min_eq_left hk]
  rw [← this,List.drop_left]
 ·have h1:l.drop k=[]:=W3 (by omega)
  rw [h1,List.flatMap_nil,List.append_nil,W3 (by rw [X0j hsz,Qn];exact Nat.mul_le_mul_right _ (by omega))]
theorem Rd.dropK(hsz:∀ x,(enc x).length=sz)(h:Rd w B E enc A l)(hc:l.length≤c)(k:Nat) : Rd w B E enc (if c=k then A else A.map (·.add (k*sz))) (l.drop k):=fun hl=>by
 have hk:k<l.length:=by
  rcases W4 k l.length with h'|h'
  ·exact h'
  ·exact absurd (W3 h') hl
 have hl':l≠[]:=by rintro rfl;simp at hk
 obtain ⟨b,off,cs,fz,h1,h2,h3,h4⟩:=h hl'
 rw [Q3 (by omega),h1]
 refine ⟨b,off+k*sz,cs,fz,by rw [Option.map_some,X1y],h2,h3,fun j v hj=>?_⟩
 rw [Xdp hsz,List.getElem?_drop] at hj
 rw [Nat.add_assoc]
 exact h4 _ v hj
theorem Xmv{P:Program}{a:Act}{n:Nat}{e:Env}{ty:TypeId}{pos:String}{af:Array Edge}{g:Option (Nat×Bool)}{d:Option Tmp}{T k:Nat}{x y:Operand}{i:Int}(hf:Fr a n e)(hx:ev e x=some (.slice A l.length c))(hy:ev e y=some (.int .i64 i))(hT:SliceT P T E)(hs:SizeT P E sz)(hi:i=(k:Int))(hk:k≤l.length) :
  Ev P ⟨d,.slice T x (some y) none none,ty,pos,af,g⟩ a w (.slice (if c=k then A else A.map (·.add (k*sz))) (l.drop k).length (c-k)):=by
 rw [List.length_drop]
 exact Xdo hf hx hy hT hs hi hk
theorem Xu3{P:Program}{n:Nat}{e:Env}{ty:TypeId}{pos:String}{af:Array Edge}{g:Option (Nat×Bool)}{d:Option Tmp}{T k:Nat}{x y:Operand}{i:Int}(hx:ev e x=some (.slice A l.length c))(hy:ev e y=some (.int .i64 i))(hT:SliceT P T E)(hs:SizeT P E sz)(hi:i=(k:Int))(hk:k≤l.length) : EvW P ⟨d,.slice T x (some y) none none,ty,pos,af,g⟩ n e w (.slice (if c=k then A else A.map (·.add (k*sz))) (l.drop k).length (c-k)):=fun a hf=>Xmv hf hx hy hT hs hi hk
theorem Own.cap(h:Own w B0 E sz enc A c l) : l.length≤c:=by
 rcases h.2 with ⟨h1,h2⟩|⟨g,cap,cur,h1,h2,h3,h4,h5,h6⟩
 ·omega
 ·injection h1 with _ _ h1
  omega
theorem Own.of_flat(hsz:∀ x,(enc x).length=sz){b m:Nat}(h:Blk w b E (l.flatMap enc))(hb:B0≤b)(hl:l.length=m)(hk:m≤maxLen) : Own w B0 E sz enc (some ⟨b,0,none⟩) m l:=Own.of_blkL hsz h hb rfl hl hk
end
theorem Kept.app{α:Type}{b B B0:Nat}{w0 w w':World}{E:TypeId}{sz:Nat}{enc:α→List Value}{A:Option Addr}{c:Nat}{l:List α}(h:Kept b B w0 w)(ho:Own w B0 E sz enc A c l)(hg:w.grownBy w' (Value.slice A l.length c).ownBlock)(hB:B≤B0)(hs:B≤w.heap.size) : Kept b B w0 w':=
 ⟨hg.os.trans h.os,hg.tape.trans h.tape,hg.output.trans h.output,Q0 h.size hg.size,fun k hk hne=>(hg.block k (by omega) fun hk'=>by have:=(ho.block hk'.symm).1;omega).trans (h.block k hk hne)⟩
def sortI(l:List Int) : List Int:=l.mergeSort fun x y=>decide (x≤y)
structure Sl where (A:Option Addr) (c:Nat) (l:List Int)
def encS(s:Sl) : List Value:=[.slice s.A s.l.length s.c]
structure Rp where (pos:Int) (old new:List Gt)
def unionI(p q:List Int) : List Int:=Lib.compact (sortI (p++(q++[])))
def qubI(g:Gt) : List Int:=if g.k=12 then [] else if inR g.k 9 11=true then [g.a,g.b] else [g.a]
def usedI(l:List Gt) : List Int:=unionI (l.flatMap qubI) []
def setAll:List Int→Nat→List Int→List Int
 | [],_,to=>to
 | q::l,i,to=>setAll l (i+1) (to.set q.toNat (i:Int))
def numbI(l:List Int) : List Int:=setAll l 0 [0,0,0,0,0]
def mapG(to:List Int)(g:Gt) : Gt:=⟨g.k,if g.k=12 then g.a else to.getD g.a.toNat 0,if inR g.k 9 11=true then to.getD g.b.toNat 0 else g.b⟩
def mapI(l:List Gt)(to:List Int) : List Gt:=l.map (mapG to)
def vrI(n:Int)(r:Rp) : Bool:=inR n 1 5&&inR r.pos 0 400&&decide ((r.old.length:Int)≤40)&&decide ((r.new.length:Int)≤40)&&!(r.old.any fun x=>!gOk n x)&&!(r.new.any fun x=>!gOk n x)
def oA(A:Option Addr)(m:Nat) : Addr:=match A with
 | some p=>⟨p.block,m,none⟩
 | none=>⟨0,m,none⟩
theorem X4g{l vs:List Value}{off:Nat}(h:off+vs.length≤l.length)(i:Nat) : (splice l off vs)[i]? = if i<off then l[i]? else if i<off+vs.length then vs[i-off]? else l[i]?:=by
 unfold splice
 have h1:(l.take off).length=off:=by rw [Qn];omega
 by_cases h2:i<off
 ·rw [Q4 h2,Qx,List.getElem?_append_left (by omega),Wg h2]
 ·rw [Q3 h2]
  by_cases h3:i<off+vs.length
  ·rw [Q4 h3,List.getElem?_append_left (by rw [Qh];omega),W5 (by omega),h1]
  ·rw [Q3 h3,W5 (by rw [Qh];omega),Qh,h1,List.getElem?_drop]
   congr 1
   omega
theorem X4u{l vs:List Value}{off:Nat}(h:off+vs.length≤l.length) : (splice l off vs).length=l.length:=by
 unfold splice
 simp only [Qh,Qn,List.length_drop]
 omega
theorem Xer{l x vs:List Value}{o j:Nat}(hx:∀ i,i<x.length→l[o+i]? = x[i]?)(h1:o+x.length≤l.length)(h2:j+vs.length≤x.length) : splice l (o+j) vs=splice l o (splice x j vs):=by
 have h3:=X4u h2
 apply List.ext_getElem?
 intro i
 rw [X4g (by omega),X4g (by omega),h3]
 by_cases a1:i<o
 ·rw [Q4 (by omega),Q4 a1]
 ·rw [Q3 a1]
  by_cases a2:i<o+x.length
  ·rw [Q4 a2,X4g h2]
   by_cases a3:i<o+j
   ·rw [Q4 a3,Q4 (show i-o<j by omega),← hx (i-o) (by omega)];congr 1;omega
   ·rw [Q3 a3,Q3 (show ¬ i-o<j by omega)]
    by_cases a4:i<o+j+vs.length
    ·rw [Q4 a4,Q4 (show i-o<j+vs.length by omega)];congr 1;omega
    ·rw [Q3 a4,Q3 (show ¬ i-o<j+vs.length by omega),← hx (i-o) (by omega)];congr 1;omega
  ·rw [Q3 a2,Q3 (by omega),Q3 (by omega)]
theorem Xek{l vs:List Value}{off N:Nat}(h:off+vs.length≤N)(hN:N≤l.length) : (splice l off vs).take N=splice (l.take N) off vs:=by
 apply List.ext_getElem?
 intro i
 by_cases hi:i<N
 ·rw [Wg hi,X4g (by omega),X4g (by rw [Qn];omega),Wg hi]
 ·rw [List.getElem?_take_eq_none (by omega),List.getElem?_eq_none]
  rw [X4u (by rw [Qn];omega),Qn];omega
theorem Xh2{α:Type}{enc:α→List Value}{sz:Nat}(hsz:∀ x,(enc x).length=sz) : ∀ (l:List α) (k i:Nat) (x:α),l[k]? = some x→i<sz→(l.flatMap enc)[k*sz+i]? = (enc x)[i]?
 | [],k,i,x,h,_=>by simp at h
 | y::l,0,i,x,h,hi=>by
  simp at h;subst h
  rw [Wc,Nat.zero_mul,Nat.zero_add,List.getElem?_append_left (by rw [hsz];exact hi)]
 | y::l,k+1,i,x,h,hi=>by
  have h':l[k]? = some x:=by simpa using h
  have e:(k+1)*sz+i=sz+(k*sz+i):=by rw [Wb];omega
  rw [Wc,e,W5 (by rw [hsz];omega),hsz,Nat.add_sub_cancel_left]
  exact Xh2 hsz l k i x h' hi
section
variable {P : Program} {a : Act} {w w' : World} {n : Nat} {e : Env} {ty : TypeId} {pos : String} {af : Array Edge} {g : Option (Nat × Bool)} {d : Option Tmp} {α : Type}
theorem Xe5{T E:TypeId}{sz B0 k m:Nat}{x y:Operand}{enc:α→List Value}{A:Option Addr}{c:Nat}{l:List α}{i:Int}(hf:Fr a n e)(hx:ev e x=some (.slice A m c))(hy:ev e y=some (.int .i64 i))(hT:SliceT P T E)(hs:SizeT P E sz)
  (ho:Own w' B0 E sz enc A c l) (hm:m=l.length) (hi:i=(k:Int)) (hk:k<l.length) : Ev P ⟨d,.indexAddr T x y,ty,pos,af,g⟩ a w (.pointer (some (oA A (k*sz)))):=by
 subst hm
 rcases ho.2 with ⟨h1,h2⟩|⟨b,cap,cur,h1,h2,h3,h4⟩
 ·omega
 ·injection h1 with h1
  rw [h1] at hx ⊢
  exact Xbz (b:=b) (off:=k*sz) hf hx hy hT hs hi hk rfl
theorem Xbk{T E:TypeId}{sz B0 k m:Nat}{x y:Operand}{enc:α→List Value}{A:Option Addr}{c:Nat}{l:List α}{i:Int}(hx:ev e x=some (.slice A m c))(hy:ev e y=some (.int .i64 i))(hT:SliceT P T E)(hs:SizeT P E sz)(ho:Own w' B0 E sz enc A c l)(hm:m=l.length)(hi:i=(k:Int))(hk:k<l.length) : EvW P ⟨d,.indexAddr T x y,ty,pos,af,g⟩ n e w (.pointer (some (oA A (k*sz)))):=fun a hf=>Xe5 hf hx hy hT hs ho hm hi hk
theorem Xe4{t E:TypeId}{sz B0 k j m n1:Nat}{x y:Operand}{enc:α→List Value}{A:Option Addr}{c:Nat}{l:List α}{v:Value}{vs:List Value}{x0 u:α}(hf:Fr a n e)(hx:ev e x=some (.pointer (some (oA A m))))(hy:ev e y=some v)(hs:SizeT P t n1)
  (ho:Own w B0 E sz enc A c l) (hsz:∀ x,(enc x).length=sz) (hv:v.cells.toList=vs) (hn:Nat.beq vs.length n1=true) (h1:vs.all one=true) (hm:k*sz+j=m) (hj:j+n1≤sz) (hk:l[k]? = some x0) (hu:splice (enc x0) j vs=enc u) :
  Ef P ⟨d,.store t x y,ty,pos,af,g⟩ a w (fun _ w'=>Own w' B0 E sz enc A c (l.set k u)∧w.grownBy w' (Value.slice A l.length c).ownBlock):=by
 have hkl:k<l.length:=(Qg.1 hk).1
 rcases ho.2 with ⟨e1,e2⟩|⟨b,cap,cur,e1,e2,e3,e4,e5,e6,e7⟩
 ·omega
 ·injection e1 with e1 _ e1'
  subst hm;subst e1'
  have hcl:cur.toList.length=c*sz:=Array.length_toList.trans e6
  have hN:l.length*sz≤cur.toList.length:=by rw [hcl];exact Nat.mul_le_mul_right _ e4
  have hks:k*sz+sz≤l.length*sz:=by
   have:=Nat.mul_le_mul_right sz (show k+1≤l.length by omega)
   rwa [Wb,Nat.one_mul] at this
  have hn':vs.length=n1:=Nat.eq_of_beq_eq_true hn
  rw [e1] at hx
  have hb:Blk w b E cur.toList:=by unfold Blk;rw [e3]
  refine (Xaa (b:=b) (off:=k*sz+j) (vs:=vs) hf hx hy hs hb hv hn h1 (by rw [Nat.ble_eq];omega) rfl).mono fun _ w' ⟨hO,hB⟩=>?_
  have hlen:((l.set k u).flatMap enc).length=(l.set k u).length*sz:=X0j hsz _
  refine ⟨⟨hlen,.inr ⟨b,c,_,by rw [e1],e2,hB,by simp;omega,e5,?_,?_⟩⟩,?_⟩
  ·rw [List.size_toArray,X4u (by omega),hcl]
  ·simp only [List.length_set]
   rw [Xek (by omega) hN,e7,Xer (x:=enc x0) (fun i hi=>?_) (by rw [X0j hsz,hsz];omega) (by rw [hsz];omega),hu]
   ·exact X6k hsz l k u hkl
   ·exact Xh2 hsz l k i x0 hk (by rw [← hsz x0];exact hi)
  ·rw [e1]
   exact ⟨hO.os,hO.tape,hO.output,by rw [hO.size];exact Qb _,fun q _ hne=>hO.block q fun e=>hne (by rw [e];rfl)⟩
theorem Xcj{t E:TypeId}{sz B0 k j m n1:Nat}{x y:Operand}{enc:α→List Value}{A:Option Addr}{c:Nat}{l:List α}{v:Value}{vs:List Value}{x0 u:α}(hx:ev e x=some (.pointer (some (oA A m))))(hy:ev e y=some v)(hs:SizeT P t n1)(ho:Own w B0 E sz enc A c l)(hsz:∀ x,(enc x).length=sz)(hv:v.cells.toList=vs)(hn:Nat.beq vs.length n1=true)(h1:vs.all one=true)(hm:k*sz+j=m)(hj:j+n1≤sz)(hk:l[k]? = some x0)(hu:splice (enc x0) j vs=enc u) : EfW P ⟨d,.store t x y,ty,pos,af,g⟩ n e w (fun _ w'=>Own w' B0 E sz enc A c (l.set k u)∧w.grownBy w' (Value.slice A l.length c).ownBlock):=fun a hf=>Xe4 hf hx hy hs ho hsz hv hn h1 hm hj hk hu
end
section
variable {P : Program} {ops : Array Oper} {a : Act} {w : World} {n d : Nat} {e : Env} {ty : TypeId} {pos : String} {af : Array Edge} {g : Option (Nat × Bool)} {α : Type}
end
def Apart(A A':Option Addr) : Prop:=∀ p q,A=some p→A'=some q→p.block≠q.block
section
variable {α β : Type} {w w' : World} {B B0 B1 : Nat} {E E' : TypeId} {sz sz' : Nat} {enc : α → List Value} {enc' : β → List Value} {A A' : Option Addr} {c c' : Nat} {l : List α} {l' : List β}
theorem Own.apart(h:Own w B E sz enc A c l)(h':Own w' B0 E' sz' enc' A' c' l')(hB:w.heap.size≤B0) : Apart A A':=fun p q hp hq=>by
 rcases h.2 with ⟨h1,_⟩|⟨g,cap,cur,h1,h2,h3,_⟩
 ·injection h1 with h1;rw [h1] at hp;cases hp
 ·rcases h'.2 with ⟨k1,_⟩|⟨g',cap',cur',k1,k2,k3,_⟩
  ·injection k1 with k1;rw [k1] at hq;cases hq
  ·injection h1 with h1
   injection k1 with k1
   rw [h1] at hp
   rw [k1] at hq
   injection hp with hp
   injection hq with hq
   subst hp;subst hq
   have:=(Qp.1 h3).1
   intro e
   simp only at e
   omega
theorem Own.appP(h:Own w B1 E' sz' enc' A' c' l')(hg:w.grownBy w' (Value.slice A l.length c).ownBlock)(ha:Apart A' A) : Own w' B1 E' sz' enc' A' c' l':=by
 refine ⟨h.1,?_⟩
 rcases h.2 with h1|⟨g,cap,cur,h1,h2,h3,h4⟩
 ·exact .inl h1
 ·refine .inr ⟨g,cap,cur,h1,h2,(hg.block g (Qp.1 h3).1 fun hk=>?_).trans h3,h4⟩
  injection h1 with h1
  cases A with
  | none=>simp [Value.ownBlock] at hk
  | some q=>
   simp only [Value.ownBlock,Option.some.injEq] at hk
   exact ha _ q h1 rfl hk
theorem Xcq(A:Option Addr)(n m c d:Nat) : (Value.slice A n c).ownBlock=(Value.slice A m d).ownBlock:=by cases A<;>rfl
theorem gtr{A:Option Addr}{n m c d:Nat}{w0 w w':World}(h:w0.grownBy w (Value.slice A n c).ownBlock)(k:w.grownBy w' (Value.slice A m d).ownBlock) : w0.grownBy w' (Value.slice A n c).ownBlock:=
 ⟨k.os.trans h.os,k.tape.trans h.tape,k.output.trans h.output,Q0 h.size k.size,fun q hq hn=>(k.block q (Nat.lt_of_lt_of_le hq h.size) (by rw [Xcq A m n d c];exact hn)).trans (h.block q hq hn)⟩
theorem Own.len{m:Nat}(h:Own w B E sz enc A c l)(hm:m=l.length) : Own w B E sz enc A c l∧Value.slice A m c=Value.slice A l.length c:=⟨h,by rw [hm]⟩
theorem Apart.symm(h:Apart A A') : Apart A' A:=fun p q hp hq e=>h q p hq hp e.symm
end
def DeepI(w:World)(B:Nat)(l:List Sl) : Prop:=∀ s ∈ l,Rd w B 3 encI s.A s.l
section
variable {w w' : World} {B : Nat} {l : List Sl}
theorem DeepI.below(h:DeepI w B l)(hb:Below w.heap.size w w') : DeepI w' B l:=fun s hs=>(h s hs).below hb
theorem DeepI.top(h:DeepI w B l) : DeepI w w.heap.size l:=fun s hs=>(h s hs).top
theorem DeepI.only{b:Nat}(h:DeepI w B l)(ho:Only b w w')(hB:B≤b) : DeepI w' B l:=fun s hs=>(h s hs).only ho hB
theorem DeepI.onlyT{b:Nat}{T:TypeId}{lc:List Value}(h:DeepI w B l)(ho:Only b w w')(hb:Blk w b T lc)(hT:Nat.beq 3 T=false) : DeepI w' B l:=fun s hs=>(h s hs).onlyT ho hb hT
theorem DeepI.appB{B0:Nat}{E':TypeId}{sz:Nat}{α:Type}{enc:α→List Value}{A:Option Addr}{c:Nat}{m:List α}(h:DeepI w B l)(ho:Own w B0 E' sz enc A c m)(hg:w.grownBy w' (Value.slice A m.length c).ownBlock)(hB:B≤B0) : DeepI w' B l:=fun s hs=>(h s hs).appB ho hg hB
theorem DeepI.appT{B0:Nat}{E':TypeId}{sz:Nat}{α:Type}{enc:α→List Value}{A:Option Addr}{c:Nat}{m:List α}(h:DeepI w B l)(ho:Own w B0 E' sz enc A c m)(hg:w.grownBy w' (Value.slice A m.length c).ownBlock)(hT:Nat.beq E' 3=false) : DeepI w' B l:=fun s hs=>(h s hs).appT ho hg hT
theorem DeepI.nil(w:World)(B:Nat) : DeepI w B []:=fun s hs=>by cases hs
theorem DeepI.snoc{s:Sl}(h:DeepI w B l)(hr:Rd w B 3 encI s.A s.l) : DeepI w B (l++[s]):=fun t ht=>by
 rcases Qu.1 ht with h1|h1
 ·exact h t h1
 ·rw [Qm] at h1;subst h1;exact hr
end
def LowI(B:Nat)(l:List Sl) : Prop:=∀ s ∈ l,∀ p,s.A=some p→B≤p.block
def Und(A:Option Addr)(B:Nat) : Prop:=∀ p,A=some p→p.block<B
theorem LowI.nil(B:Nat) : LowI B []:=fun s hs=>by cases hs
theorem LowI.snoc{B:Nat}{l:List Sl}{s:Sl}(h:LowI B l)(hs:∀ p,s.A=some p→B≤p.block) : LowI B (l++[s]):=fun t ht=>by
 rcases Qu.1 ht with h1|h1
 ·exact h t h1
 ·rw [Qm] at h1;subst h1;exact hs
section
variable {α : Type} {w w' : World} {B B1 : Nat} {E : TypeId} {sz : Nat} {enc : α → List Value} {A : Option Addr} {c : Nat} {l : List α} {m : List Sl}
end
theorem Apart.app{α:Type}{w:World}{B:Nat}{E:TypeId}{sz:Nat}{enc:α→List Value}{A A1 A2:Option Addr}{c:Nat}{l:List α}(h:Own w B E sz enc A c l)(ha:Apart A A1)(hat:∀ b,b<w.heap.size→Away A1 b→Away A2 b) : Apart A A2:=by
 intro p q hp hq
 rcases h.2 with ⟨h1,_⟩|⟨g,cap,cur,h1,_,h3,_⟩
 ·injection h1 with h1;rw [h1] at hp;cases hp
 ·injection h1 with h1
  rw [h1] at hp
  injection hp with hp
  have hlt:p.block<w.heap.size:=by rw [← hp];exact (Qp.1 h3).1
  have haw:Away A1 p.block:=fun r hr e=>ha p r (by rw [h1,hp]) hr e.symm
  exact fun e=>hat _ hlt haw q hq e.symm
section
variable {P : Program} {ops : Array Oper} {V : Option Nat} {tl : Nat → Bool} {Q : Act → World → Prop} {fuel : Nat} {done : List Nat} {w : World} {o : Oper} {op : Op} {ty : TypeId} {pos : String} {af : Array Edge} {g : Option (Nat × Bool)} {n d : Nat} {e : Env} {v : Value} {R : Value → World → Prop} {x : Operand}
end
def markI(k:Int)(n:Nat) : List Int:=(List.range n).map fun (j:Nat)=>k+(j:Int)
def markG(k:Int)(n:Nat) : List Gt:=(List.range n).map fun (j:Nat)=>⟨k+3*(j:Int),k+3*(j:Int)+1,k+3*(j:Int)+2⟩
def heldI:List Int→Int→Int
 | [],k=>k
 | x::l,k=>if x=k then heldI l (k+1) else -1
def heldG:List Gt→Int→Int
 | [],k=>k
 | x::l,k=>if x.k=k∧x.a=k+1∧x.b=k+2 then heldG l (k+3) else -1
theorem X1m{x:Dy} : dOk x=true↔rOk x.num=true∧(0≤x.exp∧x.exp≤60)∧(x.exp=0∨rEven x.num=false):=by
 simp only [dOk,Qd,X0a,Bool.or_eq_true,beq_iff_eq,Bool.not_eq_true',and_assoc]
theorem Xgv:∀ (m:Nat) (x:Rg),rOk x=true→m≤60→dOk (dLow x m)=true
 | 0,x,h,_=>by
  rw [X2n (by omega)]
  exact X1m.2 ⟨h,by simp,.inl rfl⟩
 | m+1,x,h,hm=>by
  by_cases he:rEven x=true
  ·rw [X5b (by omega) he,show ((m+1:Nat) : Int)-1=(m:Int) from by omega]
   exact Xgv m _ (X85 h) (by omega)
  ·have he':rEven x=false:=by simpa using he
   rw [X2n fun _=>he']
   exact X1m.2 ⟨h,by dsimp only;omega,.inr he'⟩
theorem X88{x:Rg}{e:Int}(h:rOk x=true)(h0:0≤e)(h1:e≤60) : dOk (dLow x e)=true:=by
 obtain ⟨m,rfl⟩ : ∃ m:Nat,e=m:=⟨e.toNat,by omega⟩
 exact Xgv m x h (by omega)
def Agree(o:Option Dy)(p:Bool×Dy) : Prop:=(∀ z,o=some z→p=(false,z)∧dOk z=true)∧(o=none→p.1=true)
theorem X4k{x y z:Rg}(hx:rOk x=true)(hy:rOk y=true) : rIf2 z [x,y]=rOk z:=by simp [rIf2,hx,hy]
theorem X8t{x z:Rg}(hx:rOk x=true) : rIf2 z [x]=rOk z:=by simp [rIf2,hx]
theorem X50{x y:Dy}(hx:dOk x=true)(hy:dOk y=true) : Agree (dMulI x y) (sMul false x y):=by
 have kx:=X1m.1 hx
 have ky:=X1m.1 hy
 unfold dMulI sMul
 rw [hx,hy,X4k kx.1 ky.1,rIf1,X4k kx.1 ky.1,Qw,Qw]
 by_cases hr:rOk (rMul x.num y.num)=true
 ·rw [Q4 hr,Q4 hr]
  unfold dOf
  rw [hr,Qw]
  by_cases he:60<x.exp+y.exp
  ·have h1:¬ inR (x.exp+y.exp) 0 60=true:=fun h=>by have:=X0a.1 h;omega
   rw [Q3 h1,Q4 he]
   exact ⟨fun z h=>(by cases h),fun _=>rfl⟩
  ·have h1:inR (x.exp+y.exp) 0 60=true:=X0a.2 (by omega)
   rw [Q4 h1,Q3 he,sRing,Q4 hr]
   exact ⟨fun z h=>(by injection h with h;subst h;exact ⟨rfl,X88 hr (by omega) (by omega)⟩),fun h=>by cases h⟩
 ·have hr':rOk (rMul x.num y.num)=false:=by simpa using hr
  rw [Q3 hr]
  refine ⟨fun z h=>(by cases h),fun _=>?_⟩
  by_cases he:60<x.exp+y.exp
  ·rw [Q4 he]
  ·rw [Q3 he,hr'];rfl
theorem X5h:∀ (n:Nat) (f:Bool) (x:Dy),(sRaiseN n f x).2.exp=x.exp+n
 | 0,f,x=>by simp [sRaiseN]
 | n+1,f,x=>by rw [sRaiseN,X5h n];dsimp only;omega
theorem X4i:∀ (n:Nat) (x:Dy),(sRaiseN n true x).1=true
 | 0,x=>rfl
 | n+1,x=>by rw [sRaiseN];exact X4i n _
theorem X6e:∀ (n:Nat) (x:Dy),rOk x.num=true→(raiseI n x.num).2=true→sRaiseN n false x=(false,⟨(raiseI n x.num).1,x.exp+n⟩)∧rOk (raiseI n x.num).1=true
 | 0,x,h,_=>⟨by simp [sRaiseN,raiseI],h⟩
 | n+1,x,h,hr=>by
  unfold raiseI at hr ⊢
  rw [X8t h] at hr ⊢
  by_cases h1:rOk (rRoot x.num)=true
  ·rw [Q4 h1] at hr ⊢
   rw [sRaiseN,h1,sRing,Q4 h1]
   have:=X6e n ⟨rRoot x.num,x.exp+1⟩ h1 hr
   refine ⟨?_,this.2⟩
   simp only [Bool.not_true,Bool.or_false]
   rw [this.1]
   dsimp only
   congr 2
   omega
  ·rw [Q3 h1] at hr
   cases hr
theorem X6j:∀ (n:Nat) (x:Dy),rOk x.num=true→(raiseI n x.num).2=false→(sRaiseN n false x).1=true
 | 0,x,h,hr=>by cases hr
 | n+1,x,h,hr=>by
  unfold raiseI at hr
  rw [X8t h] at hr
  by_cases h1:rOk (rRoot x.num)=true
  ·rw [Q4 h1] at hr
   rw [sRaiseN,h1,sRing,Q4 h1]
   simp only [Bool.not_true,Bool.or_false]
   exact X6j n ⟨rRoot x.num,x.exp+1⟩ h1 hr
  ·have h2:rOk (rRoot x.num)=false:=by simpa using h1
   rw [sRaiseN,h2]
   exact X4i n _
theorem X57{x y:Dy}(hx:dOk x=true)(hy:dOk y=true) : Agree (dAddI x y) (sAdd false x y):=by
 have kx:=X1m.1 hx
 have ky:=X1m.1 hy
 obtain ⟨m,hm⟩ : ∃ m,m=max x.exp y.exp:=⟨_,rfl⟩
 have e1:(m-x.exp).toNat=(y.exp-x.exp).toNat:=by omega
 have e3:x.exp+((y.exp-x.exp).toNat:Int)=m:=by omega
 have ed1:dRaise x m=raiseI (y.exp-x.exp).toNat x.num:=by rw [dRaise,e1]
 unfold dAddI sAdd
 rw [hx,hy,Bool.and_self,Q4 rfl,← hm,X5h,e3]
 cases h1:(dRaise x m).2 with
 | false=>
  have hb:=X6j _ x kx.1 (by rw [← ed1];exact h1)
  rw [hb,X4i]
  simp only [Bool.false_and,Bool.false_eq_true,if_false,Bool.true_or]
  exact ⟨fun z h=>(by cases h),fun _=>rfl⟩
 | true=>
  obtain ⟨g1,g2⟩:=X6e _ x kx.1 (by rw [← ed1];exact h1)
  rw [g1]
  rw [← ed1] at g2 ⊢
  dsimp only
  have ed2:dRaise y m=raiseI (m-y.exp).toNat y.num:=rfl
  cases h2:(dRaise y m).2 with
  | false=>
   have hb:=X6j _ y ky.1 (by rw [← ed2];exact h2)
   rw [hb]
   simp only [Bool.and_false,Bool.false_and,Bool.false_eq_true,if_false,Bool.true_or]
   exact ⟨fun z h=>(by cases h),fun _=>rfl⟩
  | true=>
   obtain ⟨k1,k2⟩:=X6e _ y ky.1 (by rw [← ed2];exact h2)
   rw [k1]
   rw [← ed2] at k2 ⊢
   dsimp only
   rw [X4k g2 k2,rIf1,X4k g2 k2,Qw,Qw,Bool.false_or]
   by_cases hr:rOk (rAdd (dRaise x m).1 (dRaise y m).1)=true
   ·have h3:inR m 0 60=true:=X0a.2 (by omega)
    rw [Q4 hr,Q4 hr,dOf,hr,h3,sRing,Q4 hr]
    exact ⟨fun z h=>(by simp only [Bool.and_self,if_true] at h;injection h with h;subst h;exact ⟨rfl,X88 hr (by omega) (by omega)⟩),fun h=>by simp at h⟩
   ·have hr':rOk (rAdd (dRaise x m).1 (dRaise y m).1)=false:=by simpa using hr
    rw [Q3 hr,hr']
    exact ⟨fun z h=>(by cases h),fun _=>rfl⟩
def dotS(f:Bool)(a b:Mx)(i j:Nat) : Nat→Bool×Dy
 | 0=>(f,dZ)
 | n+1=>if (dotS f a b i j n).1=true then dotS f a b i j n else
   sAdd (sMul false (a.at i n) (b.at n j)).1 (dotS f a b i j n).2 (sMul false (a.at i n) (b.at n j)).2
theorem Xb5{f:Bool}{a b:Mx}{i j n:Nat}(h:(dotS f a b i j n).1=true) : ∀ m,n≤m→dotS f a b i j m=dotS f a b i j n
 | 0,h'=>by
  obtain rfl:n=0:=by omega
  rfl
 | m+1,h'=>by
  by_cases hm:n=m+1
  ·subst hm;rfl
  ·rw [dotS,Xb5 h m (by omega),Q4 h]
theorem Xbp(a b:Mx)(i j n:Nat) : dotS true a b i j n=(true,dZ):=Xb5 (n:=0) rfl n (Qf _)
theorem X82:dOk dZ=true:=by decide
theorem X6n(x y:Dy) : (sAdd true x y).1=true:=by
 unfold sAdd
 rw [show (sRaiseN (y.exp-x.exp).toNat true x).1=true from X4i _ _,X4i]
 rfl
def AllOk(m:Mx) : Prop:=∀ x ∈ m.cells,dOk x=true
theorem Mx.at_ok{m:Mx}(h:AllOk m)(i j:Nat) : dOk (m.at i j)=true:=by
 unfold Mx.at
 rw [Qa]
 cases hx:m.cells[i*m.cols.toNat+j]? with
 | none=>exact X82
 | some x=>exact h x (Qe hx)
theorem Xbu{a b:Mx}(ha:AllOk a)(hb:AllOk b)(i j:Nat) : ∀ n,Agree (dotI a b i j n) (dotS false a b i j n)
 | 0=>⟨fun z h=>(by injection h with h;subst h;exact ⟨rfl,X82⟩),fun h=>by cases h⟩
 | n+1=>by
  have ih:=Xbu ha hb i j n
  have hm:=X50 (Mx.at_ok ha i n) (Mx.at_ok hb n j)
  unfold dotI dotS
  cases h1:dotI a b i j n with
  | none=>
   have h2:=ih.2 h1
   rw [Q4 h2]
   exact ⟨fun z h=>(by cases h),fun _=>h2⟩
  | some s=>
   obtain ⟨h2,h3⟩:=ih.1 s h1
   rw [h2]
   simp only [Bool.false_eq_true,if_false,Qz]
   cases h4:dMulI (a.at i n) (b.at n j) with
   | none=>
    rw [hm.2 h4]
    exact ⟨fun z h=>(by cases h),fun _=>X6n _ _⟩
   | some x=>
    obtain ⟨h5,h6⟩:=hm.1 x h4
    rw [h5]
    exact X57 h3 h6
def timesL(f:Bool)(a b:Mx) : Nat→Bool×List Dy
 | 0=>(f,[])
 | n+1=>((dotS (timesL f a b n).1 a b (n/b.cols.toNat) (n % b.cols.toNat) a.cols.toNat).1,(timesL f a b n).2++[(dotS (timesL f a b n).1 a b (n/b.cols.toNat) (n % b.cols.toNat) a.cols.toNat).2])
def timesS(f:Bool)(a b:Mx) : Bool×Mx:=((timesL f a b (a.rows.toNat*b.cols.toNat)).1,⟨a.rows,b.cols,(timesL f a b (a.rows.toNat*b.cols.toNat)).2⟩)
theorem X7e(f:Bool)(a b:Mx) : ∀ n,(timesL f a b n).2.length=n
 | 0=>rfl
 | n+1=>by simp [timesL,X7e f a b n]
theorem Xeh{f:Bool}{a b:Mx}{i j:Nat}(hj:j<b.cols.toNat) : timesL f a b (i*b.cols.toNat+(j+1))=((dotS (timesL f a b (i*b.cols.toNat+j)).1 a b i j a.cols.toNat).1,(timesL f a b (i*b.cols.toNat+j)).2++[(dotS (timesL f a b (i*b.cols.toNat+j)).1 a b i j a.cols.toNat).2]):=by
 have h1:(i*b.cols.toNat+j)/b.cols.toNat=i:=by rw [Wi,Nat.mul_add_div (by omega),Nat.div_eq_of_lt hj];omega
 have h2:(i*b.cols.toNat+j) % b.cols.toNat=j:=by rw [Wi,Nat.mul_add_mod,Nat.mod_eq_of_lt hj]
 rw [show i*b.cols.toNat+(j+1)=(i*b.cols.toNat+j)+1 from rfl,timesL,h1,h2]
theorem X93{a b:Mx}(ha:AllOk a)(hb:AllOk b) : ∀ n,(∀ l,seqO (gridG (fun i j=>dotI a b i j a.cols.toNat) b.cols.toNat) n=some l→timesL false a b n=(false,l)∧∀ x ∈ l,dOk x=true)∧
  (seqO (gridG (fun i j=>dotI a b i j a.cols.toNat) b.cols.toNat) n=none→(timesL false a b n).1=true)
 | 0=>⟨fun l h=>(by injection h with h;subst h;exact ⟨rfl,fun x hx=>by cases hx⟩),fun h=>by cases h⟩
 | n+1=>by
  have ih:=X93 ha hb n
  have hd:=Xbu ha hb (n/b.cols.toNat) (n % b.cols.toNat) a.cols.toNat
  unfold seqO timesL
  cases h1:seqO (gridG (fun i j=>dotI a b i j a.cols.toNat) b.cols.toNat) n with
  | none=>
   rw [ih.2 h1,Xbp]
   exact ⟨fun l h=>(by cases h),fun _=>rfl⟩
  | some l=>
   obtain ⟨h2,h3⟩:=ih.1 l h1
   rw [h2]
   dsimp only
   rw [show gridG (fun i j=>dotI a b i j a.cols.toNat) b.cols.toNat n=dotI a b (n/b.cols.toNat) (n % b.cols.toNat) a.cols.toNat from rfl]
   cases h4:dotI a b (n/b.cols.toNat) (n % b.cols.toNat) a.cols.toNat with
   | none=>exact ⟨fun l h=>(by cases h),fun _=>hd.2 h4⟩
   | some x=>
    obtain ⟨h5,h6⟩:=hd.1 x h4
    rw [h5]
    refine ⟨fun l' h=>?_,fun h=>by cases h⟩
    injection h with h
    subst h
    exact ⟨rfl,fun y hy=>by
     rcases Qu.1 hy with hy|hy
     ·exact h3 y hy
     ·rw [Qm.1 hy];exact h6⟩
theorem X0z{m:Mx}(h:mOk m=true) : AllOk m:=by
 simp only [mOk,Qd,Bool.not_eq_true',W7] at h
 intro x hx
 have:=h.2 x hx
 simpa using this
theorem X1n{m:Mx}(h:mOk m=true) : isDimB m.rows=true∧isDimB m.cols=true:=by
 simp only [mOk,Qd] at h
 exact ⟨h.1.1.1,h.1.1.2⟩
theorem X8e{m:Mx}(hr:isDimB m.rows=true)(hc:isDimB m.cols=true)(hl:m.cells.length=m.rows.toNat*m.cols.toNat)(ha:AllOk m) : mOk m=true:=by
 have h1:=X2a hr;have h2:=X2a hc
 have h3:(m.cells.any fun x=>!dOk x)=false:=by
  rw [W7]
  intro x hx
  simp [ha x hx]
 have h4:wr (m.rows*m.cols)=(m.cells.length:Int):=by
  obtain ⟨r,hr⟩ : ∃ r:Nat,m.rows=r:=⟨m.rows.toNat,by omega⟩
  obtain ⟨c,hc⟩ : ∃ c:Nat,m.cols=c:=⟨m.cols.toNat,by omega⟩
  rw [hr] at h1
  rw [hc] at h2
  rw [hl,hr,hc]
  have h5:r*c≤32*32:=Nat.mul_le_mul (by omega) (by omega)
  rw [← Int.natCast_mul,X0i (by omega) (by omega)]
  simp
 unfold mOk
 rw [hr,hc,h3,h4]
 simp
theorem X26{n:Int}(h:1≤n∧n≤5) : isDimB ((2^n.toNat:Nat) : Int)=true:=by
 have:n=1∨n=2∨n=3∨n=4∨n=5:=by omega
 rcases this with rfl|rfl|rfl|rfl|rfl<;>decide
theorem X24{a b:Mx}(ha:mOk a=true)(hb:mOk b=true)(hab:a.cols=b.rows) : (∀ m,mulI a b=some m→timesS false a b=(false,m)∧mOk m=true∧m.rows=a.rows∧m.cols=b.cols)∧(mulI a b=none→(timesS false a b).1=true):=by
 have hd1:=(X1n ha).1;have hd2:=(X1n hb).2;have h:=X93 (X0z ha) (X0z hb) (a.rows.toNat*b.cols.toNat)
 unfold mulI matOf timesS
 rw [ha,hb,hd1,hd2,Q4 (by simp [hab]),Q4 (show (true&&true)=true from rfl)]
 cases h1:seqO (gridG (fun i j=>dotI a b i j a.cols.toNat) b.cols.toNat) (a.rows.toNat*b.cols.toNat) with
 | none=>exact ⟨fun m h=>(by cases h),fun _=>h.2 h1⟩
 | some l=>
  obtain ⟨h2,h3⟩:=h.1 l h1
  rw [h2]
  refine ⟨fun m hm=>?_,fun hm=>by cases hm⟩
  injection hm with hm
  subst hm
  exact ⟨rfl,X8e hd1 hd2 (X36 h1) h3,rfl,rfl⟩
theorem Xc1{f:Nat→Dy} : ∀ n,seqO (fun m=>some (f m)) n=some ((List.range n).map f)
 | 0=>rfl
 | n+1=>by simp [seqO,Xc1 n,List.range_succ]
theorem X5s{R C:Int}(hR:isDimB R=true)(hC:isDimB C=true)(f:Nat→Nat→Dy) : matOf R C (fun i j=>some (f i j))=some ⟨R,C,gridL f C.toNat (R.toNat*C.toNat)⟩:=by
 unfold matOf
 rw [hR,hC,Q4 (show (true&&true)=true from rfl)]
 have:gridG (fun i j=>some (f i j)) C.toNat=fun m=>some (gridF f C.toNat m):=rfl
 rw [this,Xc1]
 rfl
theorem Xes{f g:Nat→Nat→Dy}{R C:Nat}(h:∀ i j,i<R→j<C→f i j=g i j) : gridL f C (R*C)=gridL g C (R*C):=by
 unfold gridL
 refine List.map_congr_left fun m hm=>?_
 have hm':=W2.1 hm
 have hC:0<C:=by
  rcases Nat.eq_zero_or_pos C with h0|h0
  ·subst h0;simp at hm'
  ·exact h0
 exact h _ _ (Nat.div_lt_of_lt_mul (by rw [Wi];exact hm')) (Nat.mod_lt _ hC)
theorem X8p{f:Nat→Nat→Dy}{R C:Nat}{x:Dy}(h:x ∈ gridL f C (R*C)) : ∃ i j,i<R∧j<C∧x=f i j:=by
 unfold gridL at h
 obtain ⟨m,hm,rfl⟩:=W6.1 h
 have hm':=W2.1 hm
 have hC:0<C:=by
  rcases Nat.eq_zero_or_pos C with h0|h0
  ·subst h0;simp at hm'
  ·exact h0
 exact ⟨_,_,Nat.div_lt_of_lt_mul (by rw [Wi];exact hm'),Nat.mod_lt _ hC,rfl⟩
def unitS(d:Nat) : Mx:=⟨(d:Int),(d:Int),gridL (fun i j=>if i=j then dPow 0 else dZ) d (d*d)⟩
theorem X2m{d:Nat}(h:isDimB (d:Int)=true) : idI (d:Int)=some (unitS d)∧mOk (unitS d)=true:=by
 refine ⟨?_,?_⟩
 ·unfold idI
  rw [X5s h h (fun i j=>if i=j then ⟨⟨1,0,0,0⟩,0⟩ else dZ)]
  rfl
 ·refine X8e h h (by simp [unitS,X2o]) fun x hx=>?_;obtain ⟨i,j,_,_,rfl⟩:=X8p hx
  split
  ·rfl
  ·rfl
def bitT(p s:Nat) : Int:=bits .and .i64 ((s:Int)/2^p) 1
def flipT(p s:Nat) : Int:=bits .xor .i64 (s:Int) (wr (1*2^p))
def chkBits:Bool:=(List.range 5).all fun p=>(List.range 32).all fun s=>
 let f:=flipT p s
 Nat.blt f.toNat 32&&f==(f.toNat:Int)&&flipT p f.toNat==(s:Int)&&(bitT p f.toNat==1-bitT p s)&&(bitT p s==0||bitT p s==1) &&
 (List.range 5).all (fun q=>(q==p)||bitT q f.toNat==bitT q s) &&
 (List.range 5).all (fun q=>let g:=flipT q s;flipT p g.toNat==flipT q f.toNat) &&
 (List.range 32).all fun t=>(((t:Int)==s||f==(t:Int))==(bits .andNot .i64 (bits .xor .i64 (s:Int) (t:Int)) (wr (1*2^p))==0))
theorem Xd7:chkBits=true:=by kernel_rfl
def chkSmall:Bool:=(List.range 6).all fun n=>(List.range n).all fun q=>(List.range (2^n)).all fun s=>Nat.blt (flipT (n-1-q) s).toNat (2^n)
theorem Xba:chkSmall=true:=by kernel_rfl
structure BitsOk (p s:Nat) : Prop where
 nat:flipT p s=((flipT p s).toNat:Int)
 lt:(flipT p s).toNat<32
 back:flipT p (flipT p s).toNat=(s:Int)
 bit:bitT p (flipT p s).toNat=1-bitT p s
 other:∀ q<5,q≠p→bitT q (flipT p s).toNat=bitT q s
 comm:∀ q<5,flipT p (flipT q s).toNat=flipT q (flipT p s).toNat
 sel:∀ t:Nat,t<32→(((t:Int)=s∨flipT p s=(t:Int))↔bits .andNot .i64 (bits .xor .i64 (s:Int) (t:Int)) (wr (1*2^p))=0)
theorem X5z{p s:Nat}(hp:p<5)(hs:s<32) : BitsOk p s:=by
 have h:=Xd7
 simp only [chkBits,W1,W2] at h
 have h:=h p hp s hs
 simp only [Qd,W1,W2,beq_iff_eq,Bool.or_eq_true,Nat.blt_eq] at h
 obtain ⟨⟨⟨⟨⟨⟨⟨h1,h2⟩,h3⟩,h4⟩,_⟩,h6⟩,h7⟩,h8⟩:=h
 refine ⟨h2,h1,h3,h4,fun q hq hne=>(h6 q hq).resolve_left hne,h7,fun t ht=>?_⟩
 have h9:=h8 t ht
 rw [Bool.eq_iff_iff] at h9
 simpa using h9
theorem X5w{n q s:Nat}(hn:n≤5)(hq:q<n)(hs:s<2^n) : (flipT (n-1-q) s).toNat<2^n:=by
 have h:=Xba
 simp only [chkSmall,W1,W2] at h
 have h:=h n (by omega) q hq s hs
 simpa [Nat.blt_eq] using h
theorem Xgm{n q:Int}(s:Nat) : bitF n (s:Int) q=bitT (n-1-q).toNat s:=rfl
theorem X6r{n q:Int}(s:Nat) : flipF n (s:Int) q=flipT (n-1-q).toNat s:=rfl
theorem Xc8{n q:Int}(hq:0≤q)(hqn:q<n) : (n-1-q).toNat=n.toNat-1-q.toNat:=by omega
theorem Xda{n:Int}{g:Gt}(hg:gOk n g=true){s:Nat}(hs:s<2^n.toNat)(hk:9≤g.k∧g.k≤11) : ∃ t:Nat,t<2^n.toNat∧toS n g s=(t:Int)∧toS n g t=(s:Int)∧(g.k=10→t=s):=by
 obtain ⟨hn,hk0,ha,hb⟩:=X2k hg
 have ha:=ha (by omega)
 have hb:=hb hk
 have h32:2^n.toNat≤32:=X4f hn.2
 obtain ⟨p,hp⟩ : ∃ p,p=(n-1-g.a).toNat:=⟨_,rfl⟩
 obtain ⟨q,hq⟩ : ∃ q,q=(n-1-g.b).toNat:=⟨_,rfl⟩
 have hp5:p<5:=by omega
 have hq5:q<5:=by omega
 have hpq:p≠q:=by omega
 have hsm:∀ s,s<2^n.toNat→(flipT p s).toNat<2^n.toNat:=fun s hs=>by
  rw [hp,Xc8 (by omega) (by omega)]
  exact X5w (by omega) (by omega) hs
 have hsm2:∀ s,s<2^n.toNat→(flipT q s).toNat<2^n.toNat:=fun s hs=>by
  rw [hq,Xc8 (by omega) (by omega)]
  exact X5w (by omega) (by omega) hs
 unfold toS
 simp only [Xgm,X6r,← hp,← hq]
 have Bp:=X5z (p:=p) (s:=s) hp5 (by omega)
 have Bq:=X5z (p:=q) (s:=s) hq5 (by omega)
 by_cases h9:g.k=9
 ·simp only [h9,if_true]
  by_cases hb1:bitT p s=1
  ·refine ⟨(flipT q s).toNat,hsm2 s hs,by rw [Q4 hb1];exact Bq.nat,?_,by omega⟩
   rw [Q4 (by rw [Bq.other p hp5 hpq];exact hb1)]
   exact Bq.back
  ·exact ⟨s,hs,by rw [Q3 hb1],by rw [Q3 hb1],by omega⟩
 ·simp only [h9,if_false]
  by_cases h11:g.k=11
  ·simp only [h11,if_true]
   by_cases hb1:bitT p s=bitT q s
   ·exact ⟨s,hs,by rw [Q3 (by simpa using hb1)],by rw [Q3 (by simpa using hb1)],by omega⟩
   ·have Bf:=X5z (p:=q) (s:=(flipT p s).toNat) hq5 Bp.lt
    have Bg:=X5z (p:=p) (s:=(flipT q (flipT p s).toNat).toNat) hp5 Bf.lt
    have e1:flipF n (flipT p s) g.b=flipT q (flipT p s).toNat:=by rw [Bp.nat,X6r,← hq,Qj]
    refine ⟨(flipT q (flipT p s).toNat).toNat,hsm2 _ (hsm _ hs),?_,?_,by omega⟩
    ·rw [Q4 hb1,e1];exact Bf.nat
    ·have e2:bitT p (flipT q (flipT p s).toNat).toNat=1-bitT p s:=by rw [Bf.other p hp5 hpq,Bp.bit]
     have e3:bitT q (flipT q (flipT p s).toNat).toNat=1-bitT q s:=by rw [Bf.bit,Bp.other q hq5 (Ne.symm hpq)]
     have e4:flipT p (flipT q (flipT p s).toNat).toNat=flipT q (flipT p (flipT p s).toNat).toNat:=(X5z (p:=p) (s:=(flipT p s).toNat) hp5 Bp.lt).comm q hq5
     rw [Q4 (by rw [e2,e3];omega),e4,Bp.back,Qj,Bq.nat,X6r,← hq,Bq.back]
  ·exact ⟨s,hs,by rw [Q3 h11],by rw [Q3 h11],fun _=>rfl⟩
theorem Xp1{k:Int}(h:1≤k∧k≤8){i j:Int}(hi:i=0∨i=1)(hj:j=0∨j=1) : (oneL k).getD (2*i+j).toNat dZ=entryI k i j:=by
 have:k=1∨k=2∨k=3∨k=4∨k=5∨k=6∨k=7∨k=8:=by omega
 rcases this with rfl|rfl|rfl|rfl|rfl|rfl|rfl|rfl<;>rcases hi with rfl|rfl<;>rcases hj with rfl|rfl<;>rfl
theorem Xql{n:Int}{g:Gt}(hg:gOk n g=true){i j:Nat}(hi:i<2^n.toNat)(hj:j<2^n.toNat) : cellI n g i j=cellS n g i j:=by
 obtain ⟨hn,hk0,ha,hb⟩:=X2k hg
 have h32:2^n.toNat≤32:=X4f hn.2
 unfold cellI cellS
 by_cases h12:g.k=12
 ·rw [Q4 h12,Q3 (show ¬ g.k≤8 by omega)]
  have e1:toS n g j=j:=by unfold toS;rw [Q3 (show ¬ g.k=9 by omega),Q3 (show ¬ g.k=11 by omega)]
  rw [e1]
  by_cases hij:(i:Int)=j
  ·rw [Q4 hij,Q4 hij,valS,Q4 h12]
  ·rw [Q3 hij,Q3 hij]
 ·rw [Q3 h12]
  by_cases h2:9≤g.k∧g.k≤11
  ·rw [Q4 (X0a.2 h2),Q3 (show ¬ g.k≤8 by omega)]
   obtain ⟨t,ht,e1,e2,e3⟩:=Xda hg hi h2;obtain ⟨t',ht',e1',e2',e3'⟩:=Xda hg hj h2
   by_cases hij:toS n g i=j
   ·have hts:(i:Int)=toS n g j:=by rw [← e2,← e1,hij]
    rw [Q4 hij,Q4 hts,valS,Q3 h12]
    by_cases h10:g.k=10
    ·have hij2:i=j:=by rw [e1] at hij;have:=e3 h10;omega
     subst hij2
     by_cases hc:bitF n i g.a=1∧bitF n i g.b=1
     ·rw [Q4 (by simp [czI,h10,hc]),Q4 ⟨h10,hc⟩];rfl
     ·have hc':¬ czI n g i=true:=by simp only [czI,h10,Qd,beq_iff_eq,true_and,and_assoc];exact hc
      rw [Q3 hc',Q3 (fun h=>hc h.2)];rfl
    ·have hc':¬ czI n g i=true:=by simp [czI,h10]
     rw [Q3 hc',Q3 (fun h=>h10 h.1)];rfl
   ·have hts:¬ (i:Int)=toS n g j:=fun h=>by
     rw [e1'] at h
     have h:i=t':=by omega
     subst h
     exact hij e2'
    rw [Q3 hij,Q3 hts]
  ·have h8:g.k≤8:=by omega
   have ha:=ha h12
   rw [Q3 (fun h=>h2 (X0a.1 h)),Q4 h8]
   have B:=X5z (p:=(n-1-g.a).toNat) (s:=i) (by omega) (by omega)
   have hs:=B.sel j (by omega)
   rw [X6r]
   have e0:((i:Int)=j∨flipT (n-1-g.a).toNat i=(j:Int))↔((j:Int)=i∨flipT (n-1-g.a).toNat i=(j:Int)):=by
    constructor<;>rintro (h|h)<;>first|exact .inl h.symm|exact .inr h
   by_cases hz:bits .andNot .i64 (bits .xor .i64 (i:Int) (j:Int)) (wr (1*2^(n-1-g.a).toNat))=0
   ·rw [Q4 (e0.2 (hs.2 hz)),Q3 (fun h=>h hz)]
    exact (Xp1 ⟨hk0.1,h8⟩ (X3o _ _ _) (X3o _ _ _)).symm
   ·rw [Q3 (fun h=>hz (hs.1 (e0.1 h))),Q4 hz]
theorem Xmf{k:Int}(h:1≤k∧k≤8){i j:Int}(hi:i=0∨i=1)(hj:j=0∨j=1) : dOk (entryI k i j)=true:=by
 have:k=1∨k=2∨k=3∨k=4∨k=5∨k=6∨k=7∨k=8:=by omega
 rcases this with rfl|rfl|rfl|rfl|rfl|rfl|rfl|rfl<;>rcases hi with rfl|rfl<;>rcases hj with rfl|rfl<;>rfl
theorem Xnv{n:Int}{g:Gt}(hg:gOk n g=true)(i j:Int) : dOk (cellI n g i j)=true:=by
 obtain ⟨hn,hk0,ha,hb⟩:=X2k hg
 unfold cellI
 split
 ·split<;>rfl
 ·split
  ·split
   ·split<;>rfl
   ·rfl
  ·rename_i h1 h2
   split
   ·exact Xmf (by have h3:¬ (9≤g.k∧g.k≤11):=fun h=>h2 (X0a.2 h);omega) (X3o _ _ _) (X3o _ _ _)
   ·rfl
theorem X3h{n:Int}{g:Gt}(hg:gOk n g=true) : gateI n g=some (gateS n g)∧mOk (gateS n g)=true:=by
 have hn:=(X2k hg).1;have hd:=X26 hn
 have he:gridL (fun i j=>cellI n g i j) (2^n.toNat) (2^n.toNat*2^n.toNat)=gridL (fun i j=>cellS n g i j) (2^n.toNat) (2^n.toNat*2^n.toNat):=Xes fun i j hi hj=>Xql hg hi hj
 refine ⟨?_,?_⟩
 ·unfold gateI
  rw [Q4 hg,X5s hd hd (fun i j=>cellI n g i j)]
  simp only [Qj]
  rw [he]
  rfl
 ·refine X8e hd hd (by simp only [gateS,X2o,Qj]) fun x hx=>?_
  simp only [gateS] at hx
  rw [← he] at hx
  obtain ⟨i,j,_,_,rfl⟩:=X8p hx;exact Xnv hg _ _
def applI(n:Int) : List Gt→Mx→Option Mx
 | [],m=>some m
 | g::l,m=>(mulI ((gateI n g).getD mZ) m).bind (applI n l)
def runS(n:Int)(f:Bool) : List Gt→Mx→Bool×Mx
 | [],m=>(f,m)
 | g::l,m=>if f=true then (f,m) else runS n (timesS false (gateS n g) m).1 l (timesS false (gateS n g) m).2
theorem X5c(n:Int) : ∀ (l:List Gt) (m:Mx),runS n true l m=(true,m)
 | [],_=>rfl
 | _::_,_=>rfl
theorem Xbm{n:Int} : ∀ (l:List Gt) (m:Mx),(∀ g ∈ l,gOk n g=true)→mOk m=true→m.rows=((2^n.toNat:Nat) : Int)→
  (∀ m',applI n l m=some m'→runS n false l m=(false,m')∧mOk m'=true∧m'.rows=((2^n.toNat:Nat) : Int))∧(applI n l m=none→(runS n false l m).1=true)
 | [],m,_,hm,hr=>⟨fun m' h=>(by injection h with h;subst h;exact ⟨rfl,hm,hr⟩),fun h=>by cases h⟩
 | g::l,m,hg,hm,hr=>by
  obtain ⟨h1,h2⟩:=X3h (hg g (by simp))
  have h3:=X24 h2 hm (by rw [hr];rfl)
  unfold applI runS
  rw [h1,Qq,Q3 (by decide)]
  cases h4:mulI (gateS n g) m with
  | none=>
   rw [h3.2 h4,X5c]
   exact ⟨fun m' h=>(by cases h),fun _=>rfl⟩
  | some m1=>
   obtain ⟨h5,h6,h7,h8⟩:=h3.1 m1 h4
   rw [h5]
   exact Xbm l m1 (fun g hg'=>hg g (by simp [hg'])) h6 (by rw [h7];rfl)
def opI(c:Cx) : Option Mx:=if cOk c=true then (idI ((2^c.n.toNat:Nat) : Int)).bind (applI c.n c.gs) else none
def opS(c:Cx) : Option Mx:=if cOk c=true then (if (runS c.n false c.gs (unitS (2^c.n.toNat))).1=true then none else some (runS c.n false c.gs (unitS (2^c.n.toNat))).2) else none
theorem X1z{c:Cx}(h:cOk c=true) : (1≤c.n∧c.n≤5)∧c.gs.length≤400∧∀ g ∈ c.gs,gOk c.n g=true:=by
 simp only [cOk,Qd,X0a,Qr,Bool.not_eq_true',W7] at h
 exact ⟨h.1.1,by omega,fun g hg=>by simpa using h.2 g hg⟩
theorem Xad(c:Cx) : opI c=opS c∧∀ m,opS c=some m→mOk m=true∧m.rows=((2^c.n.toNat:Nat) : Int):=by
 unfold opI opS
 by_cases hc:cOk c=true
 ·obtain ⟨hn,_,hg⟩:=X1z hc;obtain ⟨h1,h2⟩:=X2m (X26 hn);have h3:=Xbm c.gs _ hg h2 rfl
  rw [Q4 hc,Q4 hc,h1,Qz]
  cases h4:applI c.n c.gs (unitS (2^c.n.toNat)) with
  | none=>rw [h3.2 h4,Q4 rfl];exact ⟨rfl,fun m h=>by cases h⟩
  | some m'=>
   obtain ⟨h5,h6,h7⟩:=h3.1 m' h4
   rw [h5,Q3 (show ¬ (false=true) by decide)]
   exact ⟨rfl,fun m h=>(by injection h with h;subst h;exact ⟨h6,h7⟩)⟩
 ·rw [Q3 hc,Q3 hc]
  exact ⟨rfl,fun m h=>by cases h⟩
theorem Xl8{x:Cx}{M:Mx}(hx:cOk x=true)(h:opI x=some M) : runS x.n false x.gs (unitS (2^x.n.toNat))=(false,M):=by
 rw [(Xad x).1,opS,Q4 hx] at h
 cases e:(runS x.n false x.gs (unitS (2^x.n.toNat))).1 with
 | true=>rw [Q4 e] at h;cases h
 | false=>
  rw [Q3 (by rw [e];decide)] at h
  injection h with h
  exact Prod.ext e h
theorem Xfu{x:Rg}(h:rOk x=true) : rOk (rOm x)=true∧rOm x=⟨-x.d,x.a,x.b,x.c⟩:=by
 rw [X29] at h
 have e:rOm x=⟨-x.d,x.a,x.b,x.c⟩:=by unfold rOm;rw [X0i (by omega) (by omega)]
 refine ⟨?_,e⟩
 rw [e,X29]
 dsimp only
 omega
theorem X3l{x:Rg}(h:rOk x=true) : rEven x=true↔(x.a+x.c) % 2=0∧(x.b+x.d) % 2=0:=by
 rw [X29] at h
 unfold rEven
 rw [X0i (by omega) (by omega),X0i (by omega) (by omega)]
 simp only [Qd,beq_iff_eq]
 have key:∀ i:Int,i.tmod 2=0↔i % 2=0:=fun i=>by
  rw [← Int.dvd_iff_tmod_eq_zero,← Int.dvd_iff_emod_eq_zero]
 rw [key,key]
theorem Xku{x:Rg}(h:rOk x=true) : rEven (rOm x)=rEven x:=by
 obtain ⟨h1,h2⟩:=Xfu h
 rw [Bool.eq_iff_iff,X3l h1,X3l h,h2]
 dsimp only
 omega
theorem Xca:∀ (k:Nat) (x:Rg),rOk x=true→rOk (rTurnN k x)=true∧rEven (rTurnN k x)=rEven x
 | 0,_,h=>⟨h,rfl⟩
 | k+1,x,h=>by
  obtain ⟨h1,h2⟩:=Xca k (rOm x) (Xfu h).1;exact ⟨h1,h2.trans (Xku h)⟩
theorem X7q{x:Rg}(h:rOk x=true)(k:Int) : rOk (rTurn x k)=true∧rEven (rTurn x k)=rEven x:=Xca _ _ h
theorem wr0:wr 0=0:=rfl
theorem Xlv{x:Rg}(h:rOk x=true){k:Nat}(hk:k<8) : rMul x (rTurn ⟨1,0,0,0⟩ k)=rTurn x k:=by
 have h':=X29.1 h
 obtain ⟨a,b,c,d⟩:=x
 dsimp only at h'
 have wa:wr a=a:=X0i (by omega) (by omega)
 have wb:wr b=b:=X0i (by omega) (by omega)
 have wc:wr c=c:=X0i (by omega) (by omega)
 have wd:wr d=d:=X0i (by omega) (by omega)
 have na:wr (-a) = -a:=X0i (by omega) (by omega)
 have nb:wr (-b) = -b:=X0i (by omega) (by omega)
 have nc:wr (-c) = -c:=X0i (by omega) (by omega)
 have nd:wr (-d) = -d:=X0i (by omega) (by omega)
 have:k=0∨k=1∨k=2∨k=3∨k=4∨k=5∨k=6∨k=7:=by omega
 have s0:rTurn ⟨1,0,0,0⟩ ((0:Nat) : Int)=⟨1,0,0,0⟩:=by decide
 have s1:rTurn ⟨1,0,0,0⟩ ((1:Nat) : Int)=⟨0,1,0,0⟩:=by decide
 have s2:rTurn ⟨1,0,0,0⟩ ((2:Nat) : Int)=⟨0,0,1,0⟩:=by decide
 have s3:rTurn ⟨1,0,0,0⟩ ((3:Nat) : Int)=⟨0,0,0,1⟩:=by decide
 have s4:rTurn ⟨1,0,0,0⟩ ((4:Nat) : Int)=⟨-1,0,0,0⟩:=by decide
 have s5:rTurn ⟨1,0,0,0⟩ ((5:Nat) : Int)=⟨0,-1,0,0⟩:=by decide
 have s6:rTurn ⟨1,0,0,0⟩ ((6:Nat) : Int)=⟨0,0,-1,0⟩:=by decide
 have s7:rTurn ⟨1,0,0,0⟩ ((7:Nat) : Int)=⟨0,0,0,-1⟩:=by decide
 have T:∀ j:Nat,j<8→rTurn ⟨a,b,c,d⟩ (j:Int)=rTurnN j ⟨a,b,c,d⟩:=fun j hj=>by
  have:(turns (j:Int)).toNat=j:=by
   have:j=0∨j=1∨j=2∨j=3∨j=4∨j=5∨j=6∨j=7:=by omega
   rcases this with rfl|rfl|rfl|rfl|rfl|rfl|rfl|rfl<;>decide
  rw [rTurn,this]
 rcases this with rfl|rfl|rfl|rfl|rfl|rfl|rfl|rfl
 ·rw [T 0 (by omega),s0];simp [rMul,rTurnN,rOm,wr0,wa,wb,wc,wd,na,nb,nc,nd]
 ·rw [T 1 (by omega),s1];simp [rMul,rTurnN,rOm,wr0,wa,wb,wc,wd,na,nb,nc,nd]
 ·rw [T 2 (by omega),s2];simp [rMul,rTurnN,rOm,wr0,wa,wb,wc,wd,na,nb,nc,nd]
 ·rw [T 3 (by omega),s3];simp [rMul,rTurnN,rOm,wr0,wa,wb,wc,wd,na,nb,nc,nd]
 ·rw [T 4 (by omega),s4];simp [rMul,rTurnN,rOm,wr0,wa,wb,wc,wd,na,nb,nc,nd]
 ·rw [T 5 (by omega),s5];simp [rMul,rTurnN,rOm,wr0,wa,wb,wc,wd,na,nb,nc,nd]
 ·rw [T 6 (by omega),s6];simp [rMul,rTurnN,rOm,wr0,wa,wb,wc,wd,na,nb,nc,nd]
 ·rw [T 7 (by omega),s7];simp [rMul,rTurnN,rOm,wr0,wa,wb,wc,wd,na,nb,nc,nd]
theorem Xj4{z:Dy}(h:dOk z=true){k:Nat}(hk:k<8) : dMulI z (dPow k)=some (dTurn k z):=by
 have hz:=X1m.1 h
 have h1:rOk (rTurn ⟨1,0,0,0⟩ k)=true:=(X7q (by decide) _).1
 have hp:dOk (dPow k)=true:=X1m.2 ⟨h1,by simp [dPow],.inl rfl⟩
 obtain ⟨h2,h3⟩:=X7q hz.1 (k:Int)
 unfold dMulI
 rw [h,hp,show (dPow k).num=rTurn ⟨1,0,0,0⟩ k from rfl,rIf1,X4k hz.1 h1,Xlv hz.1 hk,h2]
 simp only [Bool.and_self,if_true]
 unfold dOf
 rw [h2,show z.exp+(dPow k).exp=z.exp from by simp [dPow],X0a.2 hz.2.1]
 simp only [Bool.and_self,if_true]
 rw [X2n fun h0=>by rw [h3];rcases hz.2.2 with h4|h4;exact absurd h4 (by omega);exact h4]
 rfl
theorem X60{q:Mx}(h:mOk q=true){k:Nat}(hk:k<8) : scaleI q (dPow k)=some ⟨q.rows,q.cols,q.cells.map (dTurn k)⟩:=by
 have h1:rOk (rTurn ⟨1,0,0,0⟩ k)=true:=(X7q (by decide) _).1
 have hp:dOk (dPow k)=true:=X1m.2 ⟨h1,by simp [dPow],.inl rfl⟩
 have hd:=X1n h;have hl:=X2d h;have ha:=X0z h
 have hf:(fun i j=>dMulI (q.at i j) (dPow k))=fun i j=>some (dTurn k (q.at i j)):=by
  funext i j
  exact Xj4 (Mx.at_ok ha i j) hk
 unfold scaleI
 rw [h,hp,Q4 (show (true&&true)=true from rfl),hf,X5s hd.1 hd.2 (fun i j=>dTurn k (q.at i j))]
 congr 2
 unfold gridL
 apply List.ext_getElem
 ·simp [hl.2.2]
 ·intro m h1 h2
  simp only [Qo,List.length_range] at h1
  simp only [List.getElem_map,List.getElem_range]
  unfold gridF Mx.at
  dsimp only
  have:m/q.cols.toNat*q.cols.toNat+m % q.cols.toNat=m:=by rw [Wi];exact Nat.div_add_mod m _
  rw [this,Qa,Qc (by rw [hl.2.2];exact h1)]
  rfl
theorem Xk1{p q:Mx}(h:mOk q=true) : eqPh p q=phaseS p q:=by
 unfold eqPh phaseS
 rw [Bool.eq_iff_iff,List.any_eq_true,List.any_eq_true]
 constructor
 ·rintro ⟨k,hk,h1⟩
  refine ⟨k,hk,?_⟩
  rw [eqPhT,X60 h (W2.1 hk)] at h1
  exact h1
 ·rintro ⟨k,hk,h1⟩
  refine ⟨k,hk,?_⟩
  rw [eqPhT,X60 h (W2.1 hk)]
  exact h1
def sameI(a b:Cx) : Bool×Bool:=
 if ((opI a).isSome&&(opI b).isSome&&a.n==b.n)=true then
  (mOk ((opI a).getD mZ)&&mOk ((opI b).getD mZ)&&eqPh ((opI a).getD mZ) ((opI b).getD mZ),mOk ((opI a).getD mZ)&&mOk ((opI b).getD mZ)) else (false,false)
def sameS(a b:Cx) : Bool×Bool:=
 if ((opS a).isSome&&(opS b).isSome&&a.n==b.n)=true then (phaseS ((opS a).getD mZ) ((opS b).getD mZ),true) else (false,false)
theorem Xe8{n:Int}(hn:1≤n∧n≤5){g:Gt} : (gateS n g).cells.length≤2305843009213693951:=by
 have h:=X4f hn.2
 have h2:2^n.toNat*2^n.toNat≤32*32:=Nat.mul_le_mul h h
 simp only [gateS,X2o]
 omega
theorem Xjr{m:Mx}(h:mOk m=true) : m.cells.length≤2305843009213693951:=by
 have h1:=X2d h
 have h2:m.rows.toNat*m.cols.toNat≤32*32:=Nat.mul_le_mul (by omega) (by omega)
 omega
theorem Xb6(a:Cx) : ((opI a).getD mZ).cells.length≤2305843009213693951:=by
 have h:=Xad a
 cases ha:opI a with
 | none=>exact Qf _
 | some m=>rw [h.1] at ha;exact Xjr (h.2 m ha).1
theorem Xaw{α:Type}{l:List α}{i:Nat}{u:α}(h:l[i]? = some u) : l.drop i=u::l.drop (i+1):=by
 obtain ⟨h1,h2⟩:=Qg.1 h
 rw [Qy h1,h2]
def unitP(d i:Nat) : List Dy:=(List.range (d*d)).map fun m=>if m/d=m % d∧m/d<i then dPow 0 else dZ
theorem Xbq(d i:Nat) : (unitP d i).length=d*d:=by simp [unitP]
theorem Xg6(d:Nat) : List.replicate (d*d) dZ=unitP d 0:=by
 unfold unitP
 apply List.ext_getElem
 ·simp
 ·intro k h1 h2
  simp
theorem Xfe{d i:Nat}(h:i<d) : (unitP d i).set (i*d+i) (dPow 0)=unitP d (i+1):=by
 have e1:(i*d+i)/d=i:=by rw [Wi,Nat.mul_add_div (by omega),Nat.div_eq_of_lt h];omega
 have e2:(i*d+i) % d=i:=by rw [Wi,Nat.mul_add_mod,Nat.mod_eq_of_lt h]
 unfold unitP
 apply List.ext_getElem
 ·simp
 ·intro k h1 h2
  simp only [List.length_set,Qo,List.length_range] at h1
  rw [List.getElem_set]
  split
  ·rename_i hk
   subst hk
   simp [e1,e2]
  ·rename_i hk
   simp only [List.getElem_map,List.getElem_range]
   have:(k/d=k % d∧k/d<i)↔(k/d=k % d∧k/d<i+1):=by
    constructor
    ·rintro ⟨h3,h4⟩;exact ⟨h3,by omega⟩
    ·rintro ⟨h3,h4⟩
     refine ⟨h3,?_⟩
     rcases W4 (k/d) i with h5|h5
     ·exact h5
     ·have h6:k/d=i:=by omega
      have h7:=Nat.div_add_mod k d
      rw [← h3,h6] at h7
      exact absurd (show i*d+i=k by rw [Wi i d];exact h7) hk
   by_cases hc:k/d=k % d∧k/d<i
   ·rw [Q4 hc,Q4 (this.1 hc)]
   ·rw [Q3 hc,Q3 (fun h=>hc (this.2 h))]
theorem Xgc{d:Nat} : (unitS d).cells=unitP d d:=by
 unfold unitP unitS gridL
 refine List.map_congr_left fun m hm=>?_
 have hm':=W2.1 hm
 have h1:m/d<d:=Nat.div_lt_of_lt_mul hm'
 unfold gridF
 dsimp only
 by_cases hc:m/d=m % d
 ·rw [Q4 hc,Q4 ⟨hc,h1⟩]
 ·rw [Q3 hc,Q3 (fun h=>hc h.1)]
theorem Xfa:∀ (m:Nat) (x:Rg),0≤(dLow x m).exp∧(dLow x m).exp≤m
 | 0,x=>by rw [X2n (by omega)];simp
 | m+1,x=>by
  by_cases he:rEven x=true
  ·rw [X5b (by omega) he,show ((m+1:Nat) : Int)-1=(m:Int) from by omega]
   have:=Xfa m (rHalf x)
   omega
  ·rw [X2n fun _=>by simpa using he]
   dsimp only
   omega
theorem Xc3{x:Rg}{e:Int}(h0:0≤e) : 0≤(dLow x e).exp∧(dLow x e).exp≤e:=by
 obtain ⟨m,rfl⟩ : ∃ m:Nat,e=m:=⟨e.toNat,by omega⟩
 exact Xfa m x
theorem Xal{f:Bool}{x y:Dy}(hx:0≤x.exp∧x.exp≤60)(hy:0≤y.exp∧y.exp≤60) : 0≤(sMul f x y).2.exp∧(sMul f x y).2.exp≤60:=by
 unfold sMul
 split
 ·exact ⟨Int.le_refl _,by decide⟩
 ·have:=Xc3 (x:=sRing (rMul x.num y.num)) (e:=x.exp+y.exp) (by omega)
  dsimp only
  omega
theorem Xeb{f:Bool}{x y:Dy}(hx:0≤x.exp∧x.exp≤60)(hy:0≤y.exp∧y.exp≤60) : 0≤(sAdd f x y).2.exp∧(sAdd f x y).2.exp≤60:=by
 unfold sAdd
 dsimp only
 rw [X5h]
 have:=fun z=>Xc3 (x:=z) (e:=x.exp+((y.exp-x.exp).toNat:Int)) (by omega)
 have h:=this (sRing (rAdd (sRaiseN (y.exp-x.exp).toNat f x).2.num (sRaiseN (x.exp+((y.exp-x.exp).toNat:Int)-y.exp).toNat (sRaiseN (y.exp-x.exp).toNat f x).1 y).2.num))
 omega
theorem X7m{a b:Mx}(ha:AllOk a)(hb:AllOk b)(f:Bool)(i j:Nat) : ∀ n,0≤(dotS f a b i j n).2.exp∧(dotS f a b i j n).2.exp≤60
 | 0=>⟨Int.le_refl _,show (0:Int)≤60 by decide⟩
 | n+1=>by
  rw [dotS]
  split
  ·exact X7m ha hb f i j n
  ·exact Xeb (X7m ha hb f i j n) (Xal (X1u (Mx.at_ok ha i n)) (X1u (Mx.at_ok hb n j)))
theorem Xoo{a b:Mx}{f f3:Bool}{i j k n:Nat}{s:Dy}(h:dotS f a b i j k=(f3,s))(hk:k≤n)(he:f3=true∨k=n) : dotS f a b i j n=(f3,s):=by
 rcases he with he|he
 ·subst he
  rw [Xb5 (n:=k) (by rw [h]) n hk,h]
 ·subst he;exact h
theorem Xkb{a b:Mx}{f f3:Bool}{i j k:Nat}{s:Dy}(h:dotS f a b i j k=(f3,s))(hf:f3=false) :
  dotS f a b i j (k+1)=((sAdd (sMul f3 (a.at i k) (b.at k j)).1 s (sMul f3 (a.at i k) (b.at k j)).2).1,(sAdd (sMul f3 (a.at i k) (b.at k j)).1 s (sMul f3 (a.at i k) (b.at k j)).2).2):=by
 subst hf
 rw [dotS,h,Q3 (show ¬ (false=true) by decide)]
theorem X2z{a b:Nat}(ha:a≤32)(hb:b≤32) : a*b≤1024:=Q0 (Nat.mul_le_mul ha hb) (by decide)
def putI:List Int→Int→List Int
 | [],n=>[n]
 | x::l,n=>if x<n then x::putI l n else if x=n then x::l else n::x::l
def usedStep(m:List Int)(g:Gt) : List Int:=if g.k=12 then m else if inR g.k 9 11=true then putI (putI m g.a) g.b else putI m g.a
def usedS(l:List Gt) : List Int:=l.foldl usedStep []
def lastN(l:List Int)(q:Int) : Nat→Int
 | 0=>0
 | k+1=>if l.getD k 0=q then (k:Int) else lastN l q k
section
variable {us : List Int} {j : Nat} {v q x k : Int}
end
def smallG(used:List Int)(g:Gt) : Gt:=⟨g.k,if g.k=12 then 0 else lastN used g.a used.length,if inR g.k 9 11=true then lastN used g.b used.length else 0⟩
def validS(n:Int)(r:Rp) : Bool:=inR n 1 5&&inR r.pos 0 400&&(!(r.old.any fun x=>!gOk n x)&&decide ((r.old.length:Int)≤40))&&(!(r.new.any fun x=>!gOk n x)&&decide ((r.new.length:Int)≤40))
theorem Xmi(n:Int)(r:Rp) : validS n r=vrI n r:=by
 unfold validS vrI
 cases inR n 1 5<;>cases inR r.pos 0 400<;>cases (r.old.any fun x=>!gOk n x)<;>cases (r.new.any fun x=>!gOk n x)<;>cases decide ((r.old.length:Int)≤40)<;>cases decide ((r.new.length:Int)≤40)<;>rfl
abbrev Inc(l:List Int) : Prop:=l.Pairwise (· < ·)
structure GoodG (us:List Int) (n:Int) (g:Gt) : Prop where
 ok:gOk n g=true
 use:∀ x ∈ qubI g,x ∈ us
def smallC(l:List Gt)(us:List Int) : Cx:=⟨max 1 (us.length:Int),l.map (smallG us)⟩
def mapC(l:List Gt)(us:List Int) : Cx:=⟨max (us.length:Int) 1,mapI l (numbI us)⟩
def justS(r:Rp) : Bool×Bool:=sameS (smallC r.old (usedS (r.old++r.new))) (smallC r.new (usedS (r.old++r.new)))
def justI(r:Rp) : Bool×Bool:=sameI (mapC r.old (unionI (usedI r.old) (usedI r.new))) (mapC r.new (unionI (usedI r.old) (usedI r.new)))
theorem Xob{n:Int}{r:Rp}(h:vrI n r=true) : (1≤n∧n≤5)∧(r.old.length≤40∧r.new.length≤40)∧(∀ g ∈ r.old,gOk n g=true)∧(∀ g ∈ r.new,gOk n g=true):=by
 simp only [vrI,Qd,X0a,Qr,Bool.not_eq_true',W7] at h
 refine ⟨h.1.1.1.1.1,by omega,fun g hg=>by simpa using h.1.2 g hg,fun g hg=>by simpa using h.2 g hg⟩
def implJ(n:Int)(r:Rp) : Bool×Bool:=if vrI n r=true then justI r else (false,false)
def specJ(n:Int)(r:Rp) : Bool×Bool:=if validS n r=true then justS r else (false,false)
def szG(l:List Gt)(left:Int) : Int:=if left-(l.length:Int)<0 then -1 else left-(l.length:Int)
def szR(r:Rp)(left:Int) : Int:=if szG r.old left<0 then -1 else if szG r.new (szG r.old left)<0 then -1 else szG r.new (szG r.old left)
structure Sr where (pos:Int) (A:Option Addr) (c:Nat) (old:List Gt) (B:Option Addr) (d:Nat) (new:List Gt)
def encSr(s:Sr) : List Value:=[.int .i64 s.pos,.slice s.A s.old.length s.c,.slice s.B s.new.length s.d]
abbrev Sr.rp(s:Sr) : Rp:=⟨s.pos,s.old,s.new⟩
def srZ:Sr:=⟨0,none,0,[],none,0,[]⟩
def DeepR(w:World)(B:Nat)(E:TypeId)(l:List Sr) : Prop:=∀ s ∈ l,Rd w B E encG s.A s.old∧Rd w B E encG s.B s.new
def DeepX(w:World)(B:Nat)(l:List Sr) : Prop:=∀ s ∈ l,(∃ E,Rd w B E encG s.A s.old)∧∃ E,Rd w B E encG s.B s.new
section
variable {w w' : World} {B : Nat} {E : TypeId} {l : List Sr}
theorem DeepR.below(h:DeepR w B E l)(hb:Below w.heap.size w w') : DeepR w' B E l:=fun s hs=>⟨(h s hs).1.below hb,(h s hs).2.below hb⟩
theorem DeepR.top(h:DeepR w B E l) : DeepR w w.heap.size E l:=fun s hs=>⟨(h s hs).1.top,(h s hs).2.top⟩
theorem DeepR.only{b:Nat}(h:DeepR w B E l)(ho:Only b w w')(hB:B≤b) : DeepR w' B E l:=fun s hs=>⟨(h s hs).1.only ho hB,(h s hs).2.only ho hB⟩
theorem DeepR.onlyT{b:Nat}{T:TypeId}{lc:List Value}(h:DeepR w B E l)(ho:Only b w w')(hb:Blk w b T lc)(hT:Nat.beq E T=false) : DeepR w' B E l:=fun s hs=>⟨(h s hs).1.onlyT ho hb hT,(h s hs).2.onlyT ho hb hT⟩
theorem DeepR.appB{B0:Nat}{E':TypeId}{sz:Nat}{α:Type}{enc:α→List Value}{A:Option Addr}{c:Nat}{m:List α}(h:DeepR w B E l)(ho:Own w B0 E' sz enc A c m)(hg:w.grownBy w' (Value.slice A m.length c).ownBlock)(hB:B≤B0) : DeepR w' B E l:=fun s hs=>⟨(h s hs).1.appB ho hg hB,(h s hs).2.appB ho hg hB⟩
theorem DeepR.appT{B0:Nat}{E':TypeId}{sz:Nat}{α:Type}{enc:α→List Value}{A:Option Addr}{c:Nat}{m:List α}(h:DeepR w B E l)(ho:Own w B0 E' sz enc A c m)(hg:w.grownBy w' (Value.slice A m.length c).ownBlock)(hT:Nat.beq E' E=false) : DeepR w' B E l:=fun s hs=>⟨(h s hs).1.appT ho hg hT,(h s hs).2.appT ho hg hT⟩
theorem DeepX.below(h:DeepX w B l)(hb:Below w.heap.size w w') : DeepX w' B l:=fun s hs=>⟨(h s hs).1.imp fun _ k=>k.below hb,(h s hs).2.imp fun _ k=>k.below hb⟩
theorem DeepX.top(h:DeepX w B l) : DeepX w w.heap.size l:=fun s hs=>⟨(h s hs).1.imp fun _ k=>k.top,(h s hs).2.imp fun _ k=>k.top⟩
theorem DeepX.only{b:Nat}(h:DeepX w B l)(ho:Only b w w')(hB:B≤b) : DeepX w' B l:=fun s hs=>⟨(h s hs).1.imp fun _ k=>k.only ho hB,(h s hs).2.imp fun _ k=>k.only ho hB⟩
theorem DeepX.appB{B0:Nat}{E':TypeId}{sz:Nat}{α:Type}{enc:α→List Value}{A:Option Addr}{c:Nat}{m:List α}(h:DeepX w B l)(ho:Own w B0 E' sz enc A c m)(hg:w.grownBy w' (Value.slice A m.length c).ownBlock)(hB:B≤B0) : DeepX w' B l:=fun s hs=>⟨(h s hs).1.imp fun _ k=>k.appB ho hg hB,(h s hs).2.imp fun _ k=>k.appB ho hg hB⟩
end
theorem DeepR.zero(w:World)(B:Nat)(E:TypeId)(n:Nat) : DeepR w B E (List.replicate n srZ):=fun s hs=>by
 obtain rfl:=List.eq_of_mem_replicate hs
 exact ⟨Rd.nil _ _ _ _ _,Rd.nil _ _ _ _ _⟩
theorem DeepR.set{w:World}{B:Nat}{E:TypeId}{l:List Sr}(h:DeepR w B E l){x:Sr}(h1:Rd w B E encG x.A x.old)(h2:Rd w B E encG x.B x.new)(k:Nat) : DeepR w B E (l.set k x):=fun s hs=>by
 rcases List.mem_or_eq_of_mem_set hs with hs|hs
 ·exact h s hs
 ·subst hs;exact ⟨h1,h2⟩
def cIf(c:Cx) : Option Cx:=if cOk c=true then some c else none
def midC(c:Cx)(r:Rp) : Cx:=⟨c.n,c.gs.take r.pos.toNat++(r.new++(c.gs.drop (r.pos.toNat+r.old.length)++[]))⟩
def fitI(c:Cx)(r:Rp) : Bool:=cOk c&&vrI c.n r&&decide (r.pos+(r.old.length:Int)≤(c.gs.length:Int))&&decide ((c.gs.take (r.pos.toNat+r.old.length)).drop r.pos.toNat=r.old)
def applyI(c:Cx)(r:Rp) : Option Cx:=if fitI c r=true then cIf (midC c r) else none
def fitS(c:Cx)(r:Rp) : Bool:=validS c.n r&&decide (r.pos+(r.old.length:Int)≤(c.gs.length:Int))&&decide ((c.gs.length:Int)-(r.old.length:Int)+(r.new.length:Int)≤400)
def applyS(c:Cx)(r:Rp) : Option Cx:=if fitS c r=true∧(c.gs.take (r.pos.toNat+r.old.length)).drop r.pos.toNat=r.old then some ⟨c.n,c.gs.take r.pos.toNat++r.new++c.gs.drop (r.pos.toNat+r.old.length)⟩ else none
def eqC(c d:Cx) : Bool:=c.n==d.n&&decide (c.gs=d.gs)
def checkLI(i:Nat)(c:Cx)(d:Cx) : List Rp→Int
 | []=>if eqC c d=true then 0 else (i:Int)+1
 | r::l=>if ((applyI c r).isSome&&(implJ c.n r).2&&(implJ c.n r).1)=true then checkLI (i+1) ((applyI c r).getD ⟨0,[]⟩) d l else (i:Int)+1
def checkLS(i:Nat)(c:Cx)(d:Cx) : List Rp→Int
 | []=>if eqC c d=true then 0 else (i:Int)+1
 | r::l=>if ((applyS c r).isSome&&(justS r).1&&(justS r).2)=true then checkLS (i+1) ((applyS c r).getD ⟨0,[]⟩) d l else (i:Int)+1
def checkI(c d:Cx)(l:List Rp) : Int×Bool:=if (cOk c&&decide ((l.length:Int)≤400))=true then (checkLI 0 c d l,true) else (0,false)
def checkS(c d:Cx)(l:List Rp) : Int×Bool:=if (cOk c&&decide ((l.length:Int)≤400))=true then (checkLS 0 c d l,true) else (0,false)
theorem Xl2{c:Cx}{r:Rp}(hc:cOk c=true) : applyI c r=applyS c r∧∀ c',applyS c r=some c'→cOk c'=true∧c'.n=c.n∧vrI c.n r=true:=by
 obtain ⟨hn,hl,hg⟩:=X1z hc
 unfold applyI applyS fitI fitS
 rw [hc,Xmi,Qw]
 by_cases hv:vrI c.n r=true
 ·obtain ⟨_,hl2,ho,hw⟩:=Xob hv
  have hp:0≤r.pos:=by simp only [vrI,Qd,X0a] at hv;omega
  rw [hv,Qw]
  by_cases hle:r.pos+(r.old.length:Int)≤(c.gs.length:Int)
  ·rw [decide_eq_true hle,Qw,Qw]
   by_cases he:(c.gs.take (r.pos.toNat+r.old.length)).drop r.pos.toNat=r.old
   ·rw [decide_eq_true he,Q4 rfl]
    have hlen:(c.gs.take r.pos.toNat++r.new++c.gs.drop (r.pos.toNat+r.old.length)).length=c.gs.length-r.old.length+r.new.length:=by
     simp only [Qh,Qn,List.length_drop];omega
    have hall:∀ g ∈ c.gs.take r.pos.toNat++r.new++c.gs.drop (r.pos.toNat+r.old.length),gOk c.n g=true:=fun g h=>by
     rcases Qu.1 h with h|h
     ·rcases Qu.1 h with h|h
      ·exact hg g (Wd h)
      ·exact hw g h
     ·exact hg g (List.mem_of_mem_drop h)
    have hmid:midC c r=⟨c.n,c.gs.take r.pos.toNat++r.new++c.gs.drop (r.pos.toNat+r.old.length)⟩:=by unfold midC;simp
    by_cases h4:(c.gs.length:Int)-(r.old.length:Int)+(r.new.length:Int)≤400
    ·have hok:cOk (midC c r)=true:=by
      rw [hmid]
      have h5:((c.gs.take r.pos.toNat++r.new++c.gs.drop (r.pos.toNat+r.old.length)).any fun x=>!gOk c.n x)=false:=by
       rw [W7];intro x hx;simp [hall x hx]
      unfold cOk
      simp only
      rw [h5,X0a.2 hn,hlen,decide_eq_true (by omega)];rfl
     rw [cIf,Q4 hok,Q4 ⟨by simpa using h4,he⟩,hmid]
     refine ⟨rfl,fun c' h=>?_⟩
     injection h with h
     rw [← h]
     rw [hmid] at hok
     exact ⟨hok,rfl,rfl⟩
    ·have hok:¬ cOk (midC c r)=true:=fun h=>by
      obtain ⟨_,h6,_⟩:=X1z h
      rw [hmid] at h6
      simp only at h6
      rw [hlen] at h6
      omega
     rw [cIf,Q3 hok,Q3 (fun h=>h4 (by simpa using h.1))]
     exact ⟨rfl,fun c' h=>by cases h⟩
   ·rw [decide_eq_false he,Q3 (by decide),Q3 (fun h=>he h.2)]
    exact ⟨rfl,fun c' h=>by cases h⟩
  ·rw [decide_eq_false hle]
   exact ⟨rfl,fun c' h=>by simp at h⟩
 ·have hv':vrI c.n r=false:=by simpa using hv
  rw [hv']
  exact ⟨rfl,fun c' h=>by simp at h⟩
structure Sg where (A:Option Addr) (c:Nat) (l:List Gt)
def encSg(s:Sg) : List Value:=[.slice s.A s.l.length s.c]
abbrev cZ:Cx:=⟨0,[]⟩
def midS(c:Cx)(r:Rp) : Cx:=⟨c.n,c.gs.take r.pos.toNat++r.new++c.gs.drop (r.pos.toNat+r.old.length)⟩
theorem Xew{c:Cx}{r:Rp}(h1:fitS c r=true)(h2:(c.gs.take (r.pos.toNat+r.old.length)).drop r.pos.toNat=r.old) : applyS c r=some (midS c r):=by
 unfold applyS midS
 rw [Q4 ⟨h1,h2⟩]
def szF:List Sr→Int→Int
 | [],t=>t
 | s::l,t=>if szR s.rp t<0 then -1 else szF l (szR s.rp t)
def szL(l:List Sr)(t:Int) : Int:=if t-(l.length:Int)<0 then -1 else szF l (t-(l.length:Int))
def szZ(c:Cx)(l:List Sr)(d:Cx)(t:Int) : Int:=if szG c.gs t<0 then -1 else if szL l (szG c.gs t)<0 then -1 else szG d.gs (szL l (szG c.gs t))
instance:DecidableEq Rp:=fun a b=>decidable_of_iff (a.pos=b.pos∧a.old=b.old∧a.new=b.new) (by cases a;cases b;simp)
theorem Y17(W:World)(c:Cx)(Ac:Option Addr)(cc:Nat)(b6:Rd W W.heap.size 90 encG Ac c.gs)(m:Mx)(Am:Option Addr)(cm:Nat)(b8:Rd W W.heap.size 86 encD Am m.cells)(hc:cOk c=true)(hm:mOk m=true)(hr:m.rows=((2^c.n.toNat:Nat) : Int)) : Ret Tryz.prog 87 [.agg #[vi c.n,.slice Ac c.gs.length cc],.agg #[vi m.rows,vi m.cols,.slice Am m.cells.length cm],.bool true] W (fun v w=>∃ A c1,v=.tuple #[mV A c1 ((applI c.n c.gs m).getD mZ),.bool (applI c.n c.gs m).isSome]∧Rd w w.heap.size 86 encD A ((applI c.n c.gs m).getD mZ).cells∧Below W.heap.size W w):=by
 obtain ⟨hn,cD,bN⟩:=X1z hc;refine enter Tryz.func87 rfl 40 rfl rfl ?_;intro a y
 have f:=bz W
 refine Zs y fun _ bO=>?_;refine Zf (X0b (zs:=[vi c.n,.slice Ac c.gs.length cc]) rfl rfl) ?_;rintro _ w1 ⟨b4,rfl,bP,d,g⟩;have cE:=Q0 f.size bP;have f:=btr f d;refine Zf (X0b (zs:=[vi m.rows,vi m.cols,.slice Am m.cells.length cm]) rfl rfl) ?_;rintro _ w2 ⟨b5,rfl,bQ,d,e⟩;have b9:=Q0 f.size bQ;have g:=g.below d;have f:=btr f d;refine Zf (X3 (zs:=[vi 0,vi 0,.slice none 0 0]) X0n rfl) ?_;rintro _ w3 ⟨b7,rfl,bR,d,o⟩
 have bM:b5≠b7:=by have:=e.lt;omega
 have bC:=Q0 f.size bR;have g:=g.below d;have e:=e.below d;have f:=btr f d;refine Za rfl<|ZX bO fun a y _ bS=>?_;refine Zs y fun _ bU=>?_;refine Za rfl<|Zt bU fun a y=>?_;refine Q8<|X04 (σ:=Nat×Mx×Bool) (fun (s:Nat×Mx×Bool) (a:Act) (w:World)=>match s with|(i,x,b)=>∃ Q aA,Fr a 40 [(2,.bool b),(3,.pointer (some ⟨b4,0,none⟩)),(4,.pointer (some ⟨b5,0,none⟩)),(6,.pointer (some ⟨b7,0,none⟩)),(8,vi (i:Int))]∧((if b=true then applI c.n (c.gs.drop i) x else none)=(applI c.n c.gs m))∧(b=false→x=mZ)∧(b=true→mOk x=true∧x.rows=((2^c.n.toNat:Nat) : Int))∧(i≤c.gs.length)∧Blk w b4 43 [vi c.n,.slice Ac c.gs.length cc]∧Blk w b5 32 [vi x.rows,vi x.cols,.slice Q x.cells.length aA]∧Blk w b7 32 [vi 0,vi 0,.slice none 0 0]∧Rd w w.heap.size 86 encD Q x.cells∧Below W.heap.size W w) (fun (s:Nat×Mx×Bool)=>match s with|(i,x,b)=>c.gs.length-i) (0,m,true) ?_ ?_
 ·exact ⟨Am,cm,y.sb,rfl,(by simp),(fun _=>⟨hm,hr⟩),(Qf _),g,e,o,(b8.below' f).top,f⟩
 rintro ⟨i,x,b⟩ a w4 ⟨Q,aA,y,aP,hz,aS,hi,g,e,o,D,f⟩;refine Q5 fun _ bD=>?_;refine Q5 fun _ bE=>?_;refine X09 (fun a w=>Fr a 40 [(2,.bool b),(3,.pointer (some ⟨b4,0,none⟩)),(4,.pointer (some ⟨b5,0,none⟩)),(6,.pointer (some ⟨b7,0,none⟩)),(8,vi (i:Int)),(18,.bool ((decide ((i:Int)<(c.gs.length:Int)))&&b))]∧w4=w) ?_ ?_
 ·refine Zr y<|Zm rfl<|Ze (Vd rfl X1h 1)<|Ze (X0 rfl X3t (g.at 1))<|Ze (X22 rfl X17)<|Ze (X19 rfl rfl)<|Zm rfl ?_
  refine Zg 16 rfl (fun z=>?_) (fun z=>?_)
  ·refine Zv (gW z) (Xa rfl) ?_;refine Ze (Xh rfl z rfl) ?_;refine Zn fun a y=>?_;exact ⟨y.sub ⟨rfl,rfl,rfl,rfl,rfl,X2 rfl (by first|rfl|(simp only [z,bs];done)|simp [z]),trivial⟩,rfl⟩
  refine Zp (gP z) ?_;refine Ze (Xd rfl z rfl) ?_;refine Zn fun a y=>?_;exact ⟨y.sub ⟨rfl,rfl,rfl,rfl,rfl,X2 rfl (by first|rfl|(simp only [z,bs];done)|simp [z]),trivial⟩,rfl⟩
 rintro a _ ⟨y,rfl⟩;refine bE _ _ ?_
 refine Xi y rfl (fun I=>?_) (fun I=>?_)
 ·have aT:=I
  have bW:(i:Int)<c.gs.length∧b=true:=by simpa using I
  have aI:=bW.2
  obtain ⟨u,hu⟩:=Xr (l:=c.gs) (k:=i) (by omega)
  have bZ:=bN u (Qe hu);obtain ⟨bF,cA⟩:=X3h bZ
  have bG:=X24 cA (aS aI).1 (by rw [(aS aI).2];rfl)
  have cB:=Xaw hu;refine Q7<|bD _ _<|Q5 fun _ bH=>?_;refine Q8<|Q5 fun _ bI=>?_;refine X09 (fun a w=>∃ q B C,Fr a 40 [(3,.pointer (some ⟨b4,0,none⟩)),(4,.pointer (some ⟨b5,0,none⟩)),(6,.pointer (some ⟨b7,0,none⟩)),(8,vi (i:Int)),(9,.pointer (some ⟨q,0,none⟩))]∧W.heap.size≤q∧Blk w q 32 [vi (((gateI c.n u).getD mZ).rows),vi (((gateI c.n u).getD mZ).cols),.slice B (((gateI c.n u).getD mZ).cells).length C]∧b5≠q∧b7≠q∧Own w W.heap.size 86 5 encD B C (((gateI c.n u).getD mZ).cells)∧Below w4.heap.size w4 w) ?_ ?_
  ·have p:Below w4.heap.size w4 w4:=Below.refl _ _
   refine Xy none (fun j=>[12].contains j) mixed ?_;intro w5 d;have g:=g.below d;have e:=e.below d;have o:=o.below d;have f:=btr f d;have p:=btr p d;refine Yb y<|Yo 0 rfl (fun _=>Vd rfl X2x 0)<|Ye 1 rfl (X0 rfl X9 (g.at 0))<|Yo 2 rfl (fun _=>Vd rfl X1h 1)<|Ye 3 rfl (X0 rfl X3t (g.at 1))<|Yo 4 rfl (fun _=>Xa rfl)<|Yi (k:=i) (u:=u) (enc:=encG) (l:=c.gs) 5 rfl trivial rfl rfl X17 X39 X10 (b6.below' f) hu rfl ?_;intro cF aU;refine Ye 6 rfl (Xz (l:=[vi u.k,vi u.a,vi u.b]) rfl X2f aU rfl) ?_
   have t:Below w5.heap.size w5 w5:=Below.refl _ _
   refine Yc [0,1,2,3,4,5,6,7,8,9,10,11] 2 (fun a w=>∃ q B C,Fr a 40 [(3,.pointer (some ⟨b4,0,none⟩)),(4,.pointer (some ⟨b5,0,none⟩)),(6,.pointer (some ⟨b7,0,none⟩)),(8,vi (i:Int)),(9,.pointer (some ⟨q,0,none⟩)),(30,.agg #[vi (((gateI c.n u).getD mZ).rows),vi (((gateI c.n u).getD mZ).cols),.slice B (((gateI c.n u).getD mZ).cells).length C]),(31,.bool ((gateI c.n u).isSome))]∧W.heap.size≤q∧Blk w q 32 [vi 0,vi 0,.slice none 0 0]∧b5≠q∧b7≠q∧w5.heap.size≤q∧w4.heap.size≤q∧Own w W.heap.size 86 5 encD B C (((gateI c.n u).getD mZ).cells)∧Below w5.heap.size w5 w) ?_ ?_
   ·rintro a w6 ⟨q,B,C,y,U,E,J,L,aW,aX,M,d⟩;clear t;have t:=d;have f:=btr f d;have p:=btr p d;refine Yb y<|Y1 12<|Yh rfl trivial rfl (Vw [vi (((gateI c.n u).getD mZ).rows),vi (((gateI c.n u).getD mZ).cols),.slice B (((gateI c.n u).getD mZ).cells).length C] Xt E) ?_;rintro _ w7 ⟨ho,hb⟩;have G:=E;have M:=M.onlyT ho G rfl;have p:=Below.only p ho aX;have t:=Below.only t ho aW;have f:=Below.only f ho U;have E:=hb;refine Yo 13 rfl (fun _=>X0q rfl) ?_;refine Yd fun a y=>?_
    have cC:Below w4.heap.size w4 w7:=p
    exact ⟨q,B,C,y.sb,U,E,J,L,M,cC⟩
   intro aQ;refine Y2 7 11 ?_ ?_
   ·refine Yk rfl trivial (Vc (Xlu _ c.n u) Xar) (fun _ _ ⟨aJ,aK,_,H,d⟩=>d) ?_;rintro _ w8 ⟨aJ,aK,rfl,H,d⟩;have H:=H.lower f.size;have e:=e.below d;have o:=o.below d;have f:=btr f d;have p:=btr p d;have t:=btr t d;refine Yo 8 rfl (fun _=>Xa rfl)<|Yo 9 rfl (fun _=>X1 (vs:=[.agg #[vi (((gateI c.n u).getD mZ).rows),vi (((gateI c.n u).getD mZ).cols),.slice aJ (((gateI c.n u).getD mZ).cells).length aK],.bool ((gateI c.n u).isSome)]) rfl rfl)<|Yo 10 rfl (fun _=>X1 (vs:=[.agg #[vi (((gateI c.n u).getD mZ).rows),vi (((gateI c.n u).getD mZ).cols),.slice aJ (((gateI c.n u).getD mZ).cells).length aK],.bool ((gateI c.n u).isSome)]) rfl rfl)<|Y1 11 ?_;refine Yk rfl trivial (X3 (zs:=[vi 0,vi 0,.slice none 0 0]) X0n rfl) (fun _ _ ⟨_,_,_,h,_⟩=>h) ?_;rintro _ w9 ⟨b23,rfl,aB,d,bJ⟩
    have aC:b5≠b23:=by have:=e.lt;omega
    have aD:b7≠b23:=by have:=o.lt;omega
    have aY:=Q0 f.size aB;have aZ:=Q0 p.size aB;have b0:=Q0 t.size aB;have H:=H.below d;have f:=btr f d;have p:=btr p d;have t:=btr t d;exact fun a y=>aQ _ a _ rfl ⟨b23,aJ,aK,y.sb,aY,bJ,aC,aD,b0,aZ,H,t⟩
   refine Yk rfl trivial (X3 (zs:=[vi 0,vi 0,.slice none 0 0]) X0n rfl) (fun _ _ ⟨_,_,_,h,_⟩=>h) ?_;rintro _ cG ⟨b25,rfl,aE,d,aF⟩
   have aG:b5≠b25:=by have:=e.lt;omega
   have aH:b7≠b25:=by have:=o.lt;omega
   have b1:=Q0 f.size aE;have b2:=Q0 p.size aE;have b3:=Q0 t.size aE;have f:=btr f d;have p:=btr p d;have t:=btr t d;refine Y1 7<|Yk rfl trivial (Vc (Xlu _ c.n u) Xar) (fun _ _ ⟨aL,aM,_,a9,d⟩=>d) ?_;rintro _ cH ⟨aL,aM,rfl,a9,d⟩;have a9:=a9.lower f.size;have aF:=aF.below d;have f:=btr f d;have p:=btr p d;have t:=btr t d;refine Yo 8 rfl (fun _=>Xa rfl)<|Yo 9 rfl (fun _=>X1 (vs:=[.agg #[vi (((gateI c.n u).getD mZ).rows),vi (((gateI c.n u).getD mZ).cols),.slice aL (((gateI c.n u).getD mZ).cells).length aM],.bool ((gateI c.n u).isSome)]) rfl rfl)<|Yo 10 rfl (fun _=>X1 (vs:=[.agg #[vi (((gateI c.n u).getD mZ).rows),vi (((gateI c.n u).getD mZ).cols),.slice aL (((gateI c.n u).getD mZ).cells).length aM],.bool ((gateI c.n u).isSome)]) rfl rfl) ?_;exact fun a y=>aQ _ a _ rfl ⟨b25,aL,aM,y.sb,b1,aF,aG,aH,b3,b2,a9,t⟩
  rintro a cJ ⟨q,B,C,y,U,E,J,L,M,d⟩;have g:=g.below d;have e:=e.below d;have o:=o.below d;have D:=D.below d;have f:=btr f d;refine bI _ _<|Zr y<|Ze (Vn Xg E)<|Ze (Vn Xg e)<|Zf (Vc (Xk4 _ ((gateI c.n u).getD mZ) B C M.rd.top x Q aA D.top (by rw [bF,Qq];exact Xe8 hn) (Xjr (aS aI).1)) Xb9) ?_;rintro _ cK ⟨aN,aO,rfl,N,d⟩;have N:=N.lower f.size;have g:=g.below d;have e:=e.below d;have o:=o.below d;have f:=btr f d;refine Zm rfl<|Ze (X1 (vs:=[.agg #[vi (((mulI ((gateI c.n u).getD mZ) x).getD mZ).rows),vi (((mulI ((gateI c.n u).getD mZ) x).getD mZ).cols),.slice aN (((mulI ((gateI c.n u).getD mZ) x).getD mZ).cells).length aO],.bool ((mulI ((gateI c.n u).getD mZ) x).isSome)]) rfl rfl)<|Ze (X1 (vs:=[.agg #[vi (((mulI ((gateI c.n u).getD mZ) x).getD mZ).rows),vi (((mulI ((gateI c.n u).getD mZ) x).getD mZ).cols),.slice aN (((mulI ((gateI c.n u).getD mZ) x).getD mZ).cells).length aO],.bool ((mulI ((gateI c.n u).getD mZ) x).isSome)]) rfl rfl)<|Zo (Vw [vi (((mulI ((gateI c.n u).getD mZ) x).getD mZ).rows),vi (((mulI ((gateI c.n u).getD mZ) x).getD mZ).cols),.slice aN (((mulI ((gateI c.n u).getD mZ) x).getD mZ).cells).length aO] Xt e) ?_;rintro _ cM ⟨ho,hb⟩;have G:=e;have g:=g.only ho (Blk.ne g G rfl);have o:=o.only ho (by omega);have N:=N.onlyT ho G rfl;have f:=Below.only f ho b9;have e:=hb;refine Za rfl ?_;refine Zn fun a y=>?_;refine Xk<|bH _ _<|Zr y<|Zm rfl<|Ze (X02 rfl rfl (by omega) (by omega))<|Za rfl ?_;refine Zn fun a y=>?_;refine Xn ?_;exact ⟨(i+1,((mulI ((gateI c.n u).getD mZ) x).getD mZ),(mulI ((gateI c.n u).getD mZ) x).isSome),⟨aN,aO,y.sb,(by rw [← aP,Q4 aI,cB,applI];cases mulI ((gateI c.n u).getD mZ) x<;>rfl),(by cases mulI ((gateI c.n u).getD mZ) x<;>simp),(by rw [bF,Qq];intro h0;cases h1:mulI (gateS c.n u) x with|none=>rw [h1] at h0;cases h0|some x1=>exact ⟨(bG.1 x1 h1).2.1,by rw [Qq,(bG.1 x1 h1).2.2.1];rfl⟩),(by omega),g,e,o,N.rd,f⟩,(by first|omega|(dsimp only;omega))⟩
 have aT:=I
 have bK:b=true→¬ (i:Int)<c.gs.length:=by intro h0;subst h0;simpa using I
 refine Q9<|Xm<|Xm<|X06 ?_;refine bS _ _<|Zs y fun _ bL=>?_;refine Ze (Vn Xg e)<|Zm rfl<|Zo (Vw [vi x.rows,vi x.cols,.slice Q x.cells.length aA] Xt o) ?_;rintro _ cO ⟨ho,hb⟩;have G:=o;have D:=D.onlyT ho G rfl;have f:=Below.only f ho bC;have o:=hb;refine Za rfl<|Zt bL fun a y=>?_
 refine Q6 (X4 y (X0s y rfl (ResV.cellN (l:=[vi x.rows,vi x.cols,.slice Q x.cells.length aA]) rfl Xg (o.at 0) rfl) rfl) ?_)
 have aR:applI c.n c.gs m=if b=true then some x else none:=by rw [← aP];cases b with|false=>rfl|true=>rw [Q4 rfl,Q4 rfl,W3 (by have:=bK rfl;omega)];rfl
 have h1:(applI c.n c.gs m).getD mZ=x:=by rw [aR];cases b with|false=>exact (hz rfl).symm|true=>rfl
 have h2:(applI c.n c.gs m).isSome=b:=by rw [aR];cases b<;>rfl
 rw [h1,h2]
 exact ⟨Q,aA,rfl,D.top,f⟩
theorem Xyu(w0:World)(d:Nat)(h:isDimB (d:Int)=true) : Ret Tryz.prog 86 [vi (d:Int)] w0 (fun v w=>∃ A c,v=.tuple #[mV A c (unitS d),.bool true]∧Own w w0.heap.size 86 5 encD A c (unitS d).cells∧Below w0.heap.size w0 w):=by
 have h1:=Xxd w0 (d:Int)
 rw [(X2m h).1] at h1
 exact h1
theorem F97(w0:World)(c:Cx)(Ac:Option Addr)(cc:Nat)(B:Rd w0 w0.heap.size 90 encG Ac c.gs)(aF:c.gs.length≤2305843009213693951) : Ret Tryz.prog 42 [.agg #[vi c.n,.slice Ac c.gs.length cc]] w0 (fun v w=>∃ A c1,v=.tuple #[mV A c1 ((opI c).getD mZ),.bool (opI c).isSome]∧Rd w w.heap.size 86 encD A ((opI c).getD mZ).cells∧Below w0.heap.size w0 w):=by
 refine enter Tryz.func42 rfl 23 rfl rfl ?_;intro a k
 have f:=bz w0
 refine Zs k fun _ aG=>?_;refine Zf (X0b (zs:=[vi c.n,.slice Ac c.gs.length cc]) rfl rfl) ?_;rintro _ w1 ⟨b3,rfl,aH,i,e⟩;have aM:=Q0 f.size aH;have f:=btr f i;refine Zf (X3 (zs:=[vi 0,vi 0,.slice none 0 0]) X0n rfl) ?_;rintro _ w2 ⟨b5,rfl,aI,i,b⟩;have C:=Q0 f.size aI;have e:=e.below i;have f:=btr f i;refine Za rfl<|ZX aG fun a k _ aJ=>?_;refine Zs k fun _ aK=>?_;refine Ze (Vn X1i e)<|Zf (Vc (F55 _ c Ac cc (B.below' f).top aF) Xrs) ?_;rintro _ w3 ⟨rfl,i⟩;have e:=e.below i;have b:=b.below i;have f:=btr f i;refine Ze (X0p rfl)<|Zt aK fun a k=>?_
 refine Xi k rfl (fun p=>?_) (fun p=>?_)
 ·have aA:=p
  have hn:¬ cOk c=true:=by revert p;cases cOk c<;>simp
  refine Zs k fun _ aL=>?_;refine Ze (Xf (ps:=[]) (cs:=[vi 0,vi 0,.slice none 0 0]) rfl (fun _=>by first|rfl|kernel_rfl))<|Zo (Vw [vi 0,vi 0,.slice none 0 0] Xt b) ?_;rintro _ w4 ⟨y,hb⟩;have j:=b;have f:=Below.only f y C;have b:=hb;refine Za rfl<|Zt aL fun a k=>?_;refine Q6<|X8<|X4 k (X0s k rfl (ResV.cellN (l:=[vi 0,vi 0,.slice none 0 0]) rfl Xg (b.at 0) rfl) rfl) ?_
  have q:opI c=none:=by rw [opI,Q3 hn]
  rw [q]
  exact ⟨none,0,rfl,(Rd.nil _ 0 _ _ _).top,f⟩
 have aA:=p
 have hc:cOk c=true:=by revert p;cases cOk c<;>simp
 obtain ⟨hn,aN,aO⟩:=X1z hc
 obtain ⟨d,hd⟩ : ∃ d:Nat,d=2^c.n.toNat:=⟨_,rfl⟩
 refine Q7<|aJ _ _<|Zs k fun _ aB=>?_;refine Ze (Vd rfl X2x 0)<|Ze (X0 rfl X9 (e.at 0))<|Ze (Xa7 (m:=c.n.toNat) (D:=d) rfl rfl (by omega) ⟨hd,by omega⟩)<|Zf (Vc (Xyu _ d (by rw [hd];exact X26 hn)) Xn2) ?_;rintro _ w5 ⟨z,h,rfl,g,i⟩;have g:=g.lower f.size;have e:=e.below i;have b:=b.below i;have f:=btr f i;refine Zm rfl<|Ze (X1 (vs:=[.agg #[vi ((unitS d).rows),vi ((unitS d).cols),.slice z ((unitS d).cells).length h],.bool true]) rfl rfl)<|Ze (X1 (vs:=[.agg #[vi ((unitS d).rows),vi ((unitS d).cols),.slice z ((unitS d).cells).length h],.bool true]) rfl rfl)<|Zf (X3 (zs:=[vi 0,vi 0,.slice none 0 0]) X0n rfl) ?_;rintro _ w6 ⟨b14,rfl,aC,i,o⟩
 have aD:b5≠b14:=by have:=b.lt;omega
 have a9:=Q0 f.size aC;have e:=e.below i;have b:=b.below i;have g:=g.below i;have f:=btr f i;refine Zo (Vw [vi ((unitS d).rows),vi ((unitS d).cols),.slice z ((unitS d).cells).length h] Xt o) ?_;rintro _ w7 ⟨y,hb⟩;have j:=o;have e:=e.only y (Blk.ne e j rfl);have b:=b.only y (by omega);have g:=g.onlyT y j rfl;have f:=Below.only f y a9;have o:=hb;refine Za rfl<|Zx aB fun a k _ aE=>?_;refine Ze (Vn X1i e)<|Ze (Vn Xg o)<|Zm rfl<|Zf (Vc (Y17 _ c Ac cc (B.below' f).top (unitS d) z h g.rd.top hc (X2m (by rw [hd];exact X26 hn)).2 (by rw [← hd];rfl)) Xuz) ?_;rintro _ w8 ⟨t,u,rfl,x,i⟩;have b:=b.below i;have f:=btr f i;refine Ze (X1 (vs:=[.agg #[vi (((applI c.n c.gs (unitS d)).getD mZ).rows),vi (((applI c.n c.gs (unitS d)).getD mZ).cols),.slice t (((applI c.n c.gs (unitS d)).getD mZ).cells).length u],.bool ((applI c.n c.gs (unitS d)).isSome)]) rfl rfl)<|Ze (X1 (vs:=[.agg #[vi (((applI c.n c.gs (unitS d)).getD mZ).rows),vi (((applI c.n c.gs (unitS d)).getD mZ).cols),.slice t (((applI c.n c.gs (unitS d)).getD mZ).cells).length u],.bool ((applI c.n c.gs (unitS d)).isSome)]) rfl rfl)<|Zo (Vw [vi (((applI c.n c.gs (unitS d)).getD mZ).rows),vi (((applI c.n c.gs (unitS d)).getD mZ).cols),.slice t (((applI c.n c.gs (unitS d)).getD mZ).cells).length u] Xt b) ?_;rintro _ w9 ⟨y,hb⟩;have j:=b;have x:=x.onlyT y j rfl;have f:=Below.only f y C;have b:=hb;refine Za rfl<|Zt aE fun a k=>?_
 refine Q6 (X4 k (X0s k rfl (ResV.cellN (l:=[vi (((applI c.n c.gs (unitS d)).getD mZ).rows),vi (((applI c.n c.gs (unitS d)).getD mZ).cols),.slice t (((applI c.n c.gs (unitS d)).getD mZ).cells).length u]) rfl Xg (b.at 0) rfl) rfl) ?_)
 have q:opI c=applI c.n c.gs (unitS d):=by rw [opI,Q4 hc,← hd,(X2m (by rw [hd];exact X26 hn)).1];rfl
 rw [q]
 exact ⟨t,u,rfl,x.top,f⟩
theorem Xk5(w0:World)(d:Nat)(hd:d≤32) : Ret Tryz.prog 55 [vi (d:Int)] w0 (fun v w=>∃ A c,v=mV A c (unitS d)∧Own w w0.heap.size 86 5 encD A c (unitS d).cells∧Below w0.heap.size w0 w):=by
 have aQ:d*d≤1024:=X2z hd hd
 refine enter Tryz.func55 rfl 27 rfl rfl ?_;intro a q
 have n:=bz w0
 refine Zs q fun _ aL=>?_;refine Zf (X3 (zs:=[vi 0,vi 0,.slice none 0 0]) X0n rfl) ?_;rintro _ w1 ⟨b3,rfl,aM,o,b⟩;have aA:=Q0 n.size aM;have n:=btr n o;refine Zx aL fun a q _ aN=>?_;refine Zm rfl<|Zm rfl<|Zm rfl<|Zm rfl<|Ze (Xbo (m:=d) (k:=d) rfl rfl (by omega))<|Zf (Xgq (m:=(d*d:Nat)) (enc:=encD) (z0:=dZ) rfl rfl Xs X0u X0l rfl Xw (by omega) (by omega)) ?_;rintro _ w2 ⟨y,rfl,aO,o,e⟩;have z:=Q0 n.size aO;have b:=b.below o;have n:=btr n o;refine Ze (Xf (ps:=[(0,vi (d:Int)),(1,vi (d:Int)),(2,.slice (some ⟨y,0,none⟩) (d*d:Nat) (d*d:Nat))]) (cs:=[vi (d:Int),vi (d:Int),.slice (some ⟨y,0,none⟩) (d*d:Nat) (d*d:Nat)]) rfl (fun _=>by first|rfl|kernel_rfl))<|Zf (X3 (zs:=[vi 0,vi 0,.slice none 0 0]) X0n rfl) ?_;rintro _ w3 ⟨b9,rfl,aP,o,f⟩
 have aK:b3≠b9:=by have:=b.lt;omega
 have aB:=Q0 n.size aP;have b:=b.below o;have e:=e.below o;have n:=btr n o;refine Zo (Vw [vi (d:Int),vi (d:Int),.slice (some ⟨y,0,none⟩) (d*d:Nat) (d*d:Nat)] Xt f) ?_;rintro _ w4 ⟨x,hb⟩;have p:=f;have b:=b.only x (by omega);have e:=e.only x (Blk.ne e p rfl);have n:=Below.only n x aB;have f:=hb;refine ZX aN fun a q _ aC=>?_;refine Zs q fun _ aD=>?_;refine Za rfl<|Zt aD fun a q=>?_;refine Q8<|X04 (σ:=Nat×(List Dy)) (fun (s:Nat×(List Dy)) (a:Act) (w:World)=>match s with|(i,l)=>Fr a 27 [(0,vi (d:Int)),(2,.pointer (some ⟨b3,0,none⟩)),(3,.pointer (some ⟨b9,0,none⟩)),(4,vi (i:Int))]∧(i≤d)∧(l=unitP d i)∧Blk w b3 32 [vi 0,vi 0,.slice none 0 0]∧Blk w y 86 (l.flatMap encD)∧Blk w b9 32 [vi (d:Int),vi (d:Int),.slice (some ⟨y,0,none⟩) (d*d:Nat) (d*d:Nat)]∧Below w0.heap.size w0 w) (fun (s:Nat×(List Dy))=>match s with|(i,l)=>d-i) (0,List.replicate (d*d) dZ) ?_ ?_
 ·exact ⟨q.sb,(Qf _),(Xg6 d),b,e,f,n⟩
 rintro ⟨i,l⟩ a w5 ⟨q,hi,hl,b,e,f,n⟩;refine Q5 fun _ aE=>?_;refine Zs q fun _ aF=>?_;refine Zm rfl<|Zm rfl<|Ze (X19 rfl rfl)<|Zt aF fun a q=>?_
 refine Xi q rfl (fun g=>?_) (fun g=>?_)
 ·have a9:=g;have g:=Q2 g
  have t:i<d:=by have:=g;omega
  have aR:=X2z (show i≤32 by omega) hd
  refine Q7<|aE _ _<|Q5 fun _ aG=>?_;refine Q8<|Xy none (fun j=>[9].contains j) mixed ?_;intro w6 o;have b:=b.below o;have e:=e.below o;have f:=f.below o;have n:=btr n o;refine Yb q<|Yo 0 rfl (fun _=>Vd rfl X0m 2)<|Ye 1 rfl (X0 rfl X0c (f.at 2))<|Yo 2 rfl (fun _=>Xa rfl)<|Yo 3 rfl (fun _=>Xa rfl)<|Yo 4 rfl (fun _=>Xbo (m:=i) (k:=d) rfl rfl (by have:=X2z (show i≤32 by omega) hd;omega))<|Yo 5 rfl (fun _=>Xa rfl)<|Yo 6 rfl (fun _=>X02 rfl rfl (by omega) (by omega))<|Y1 7 ?_;refine Yk rfl trivial (Vc (Xdz _ 0) X5j) (fun _ _ ⟨_,o⟩=>o) ?_;rintro _ w7 ⟨rfl,o⟩;have b:=b.below o;have e:=e.below o;have f:=f.below o;have n:=btr n o;refine Yo 8 rfl (fun _=>Xpx (k:=(i*d+i)) (off:=(i*d+i)*5) rfl rfl Xs Xb (by omega) (X45 t t) rfl)<|Y1 9 ?_;refine Yh rfl trivial rfl (Xpn (enc:=encD) (l:=l) (u:=(dPow 0)) (k:=(i*d+i)) rfl rfl Xb e Xw X28 rfl (by rw [hl,Xbq];exact X45 t t)) ?_;rintro _ w8 ⟨x,hb⟩;have p:=e;have b:=b.only x (Blk.ne b p rfl);have f:=f.only x (Blk.ne f p rfl);have n:=Below.only n x z;have e:=hb;refine Yd fun a q=>?_;refine Xk<|aG _ _<|Zr q<|Zm rfl<|Ze (X02 rfl rfl (by omega) (by omega))<|Za rfl ?_;refine Zn fun a q=>?_;refine Xn ?_;exact ⟨(i+1,(l.set (i*d+i) (dPow 0))),⟨q.sb,(by omega),(by rw [hl];exact Xfe t),b,e,f,n⟩,(by first|omega|(dsimp only;omega))⟩
 have a9:=g;have g:=Q1 g
 have t:i=d:=by have:=g;omega
 refine Q9<|Xm<|Xm<|X06 ?_;refine aC _ _<|Zs q fun _ aH=>?_;refine Ze (Vn Xg f)<|Zo (Vw [vi (d:Int),vi (d:Int),.slice (some ⟨y,0,none⟩) (d*d:Nat) (d*d:Nat)] Xt b) ?_;rintro _ w9 ⟨x,hb⟩;have p:=b;have e:=e.only x (Blk.ne e p rfl);have n:=Below.only n x aA;have b:=hb;refine Zt aH fun a q=>?_
 refine Q6 (X4 q (Xp q rfl (ResV.cellN (l:=[vi (d:Int),vi (d:Int),.slice (some ⟨y,0,none⟩) (d*d:Nat) (d*d:Nat)]) rfl Xg (b.at 0) rfl)) ?_)
 have aI:l.length=d*d:=by rw [hl,Xbq]
 have aJ:d*d≤maxLen:=by simp only [maxLen];omega
 have h:(unitS d).cells=l:=by rw [Xgc,hl,t]
 exact ⟨(some ⟨y,0,none⟩),(d*d:Nat),by show _=Value.agg #[vi (d:Int),vi (d:Int),.slice _ (unitS d).cells.length _];rw [h,aI],by rw [h];exact (Own.of_flat Xw e z aI aJ),n⟩
theorem X5g(w0:World)(bV:Nat)(f:Bool)(t:Blk w0 bV 95 [.bool f])(p:Mx)(Ap:Option Addr)(cp:Nat)(e:Rd w0 w0.heap.size 86 encD Ap p.cells)(q:Mx)(Aq:Option Addr)(cq:Nat)(g:Rd w0 w0.heap.size 86 encD Aq q.cells)(hp:mOk p=true)(hq:mOk q=true)(dD:p.cols=q.rows) : Ret Tryz.prog 99 [.pointer (some ⟨bV,0,none⟩),.agg #[vi p.rows,vi p.cols,.slice Ap p.cells.length cp],.agg #[vi q.rows,vi q.cols,.slice Aq q.cells.length cq]] w0 (fun v w=>∃ A c1,v=mV A c1 ((timesS f p q).2)∧Own w w0.heap.size 86 5 encD A c1 ((timesS f p q).2).cells∧Kept bV w0.heap.size w0 w∧Blk w bV 95 [.bool ((timesS f p q).1)]):=by
 have d9:=t.lt;have b8:=X2d hp;have b9:=X2d hq;have aS:=X0z hp;have aT:=X0z hq
 have dE:p.cells.length≤1024:=by rw [b8.2.2];exact X2z (by omega) (by omega)
 have dF:q.cells.length≤1024:=by rw [b9.2.2];exact X2z (by omega) (by omega)
 have cO:p.cols=(p.cols.toNat:Int):=by omega
 have cP:q.cols=(q.cols.toNat:Int):=by omega
 suffices hgoal:Ret Tryz.prog 99 [.pointer (some ⟨bV,0,none⟩),.agg #[vi p.rows,vi (p.cols.toNat:Int),.slice Ap p.cells.length cp],.agg #[vi q.rows,vi (q.cols.toNat:Int),.slice Aq q.cells.length cq]] w0 (fun v w=>∃ A c1,v=.agg #[vi p.rows,vi (q.cols.toNat:Int),.slice A (timesS f p q).2.cells.length c1]∧Own w w0.heap.size 86 5 encD A c1 (timesS f p q).2.cells∧Kept bV w0.heap.size w0 w∧Blk w bV 95 [.bool (timesS f p q).1]) by rw [← cO,← cP] at hgoal;exact hgoal
 refine enter Tryz.func99 rfl 75 rfl rfl ?_;intro a H
 have G:Kept bV w0.heap.size w0 w0:=Kept.refl _ _ _
 refine Zs H fun _ cQ=>?_;refine Zf (X0b (zs:=[vi p.rows,vi (p.cols.toNat:Int),.slice Ap p.cells.length cp]) rfl rfl) ?_;rintro _ w1 ⟨b4,rfl,cR,D,x⟩;have dA:=Q0 G.size cR;have t:=t.below D;have e:=e.below D;have g:=g.below D;have G:=ktr G D;refine Zf (X0b (zs:=[vi q.rows,vi (q.cols.toNat:Int),.slice Aq q.cells.length cq]) rfl rfl) ?_;rintro _ w2 ⟨b5,rfl,cS,D,y⟩
 have cJ:b4≠b5:=by have:=x.lt;omega
 have dB:=Q0 G.size cS;have t:=t.below D;have x:=x.below D;have e:=e.below D;have g:=g.below D;have G:=ktr G D;refine Zf (X3 (zs:=[vi 0,vi 0,.slice none 0 0]) X0n rfl) ?_;rintro _ w3 ⟨b7,rfl,cU,D,z⟩
 have cK:b4≠b7:=by have:=x.lt;omega
 have cM:b5≠b7:=by have:=y.lt;omega
 have bC:=Q0 G.size cU;have t:=t.below D;have x:=x.below D;have y:=y.below D;have e:=e.below D;have g:=g.below D;have G:=ktr G D;refine Zx cQ fun a H _ cV=>?_;refine Ze (Vd rfl X13 0)<|Ze (X0 rfl X9 (x.at 0))<|Ze (Vd rfl X0w 1)<|Ze (X0 rfl X9 (y.at 1))<|Ze (Xf (ps:=[(0,vi p.rows),(1,vi (q.cols.toNat:Int))]) (cs:=[vi p.rows,vi (q.cols.toNat:Int),.slice none 0 0]) rfl (fun _=>by first|rfl|kernel_rfl))<|Zf (X3 (zs:=[vi 0,vi 0,.slice none 0 0]) X0n rfl) ?_;rintro _ w4 ⟨b11,rfl,bD,D,o⟩
 have bE:b4≠b11:=by have:=x.lt;omega
 have bF:b5≠b11:=by have:=y.lt;omega
 have bG:b7≠b11:=by have:=z.lt;omega
 have aK:=Q0 G.size bD;have t:=t.below D;have x:=x.below D;have y:=y.below D;have z:=z.below D;have e:=e.below D;have g:=g.below D;have G:=ktr G D;refine Zo (Vw [vi p.rows,vi (q.cols.toNat:Int),.slice none 0 0] Xt o) ?_;rintro _ w5 ⟨I,hb⟩;have n:=o;have t:=t.only I (Blk.ne t n rfl);have x:=x.only I (by omega);have y:=y.only I (by omega);have z:=z.only I (by omega);have e:=e.onlyT I n rfl;have g:=g.onlyT I n rfl;have G:=Kept.only G I aK;have o:=hb;refine ZX cV fun a H _ bH=>?_;refine Zs H fun _ bI=>?_;refine Za rfl<|Zt bI fun a H=>?_;refine Q8<|X04 (σ:=Nat×(List Dy)×Bool) (fun (s:Nat×(List Dy)×Bool) (a:Act) (w:World)=>match s with|(i,l,f1)=>∃ aB aC,Fr a 75 [(0,.pointer (some ⟨bV,0,none⟩)),(4,.pointer (some ⟨b4,0,none⟩)),(5,.pointer (some ⟨b5,0,none⟩)),(6,.pointer (some ⟨b7,0,none⟩)),(7,.pointer (some ⟨b11,0,none⟩)),(8,vi (i:Int))]∧((i:Int)≤p.rows)∧(timesL f p q (i*q.cols.toNat)=(f1,l))∧Blk w bV 95 [.bool f1]∧Blk w b4 32 [vi p.rows,vi (p.cols.toNat:Int),.slice Ap p.cells.length cp]∧Blk w b5 32 [vi q.rows,vi (q.cols.toNat:Int),.slice Aq q.cells.length cq]∧Blk w b7 32 [vi 0,vi 0,.slice none 0 0]∧Blk w b11 32 [vi p.rows,vi (q.cols.toNat:Int),.slice aB l.length aC]∧Rd w w0.heap.size 86 encD Ap p.cells∧Rd w w0.heap.size 86 encD Aq q.cells∧Own w w0.heap.size 86 5 encD aB aC l∧Kept bV w0.heap.size w0 w) (fun (s:Nat×(List Dy)×Bool)=>match s with|(i,l,f1)=>(p.rows-i).toNat) (0,[],f) ?_ ?_
 ·exact ⟨none,0,H.sb,(by omega),(by rw [Nat.zero_mul];rfl),t,x,y,z,o,e,g,(Own.nil _ _ _ _ _),G⟩
 rintro ⟨i,l,f1⟩ a w6 ⟨aB,aC,H,hi,hl,t,x,y,z,o,e,g,aE,G⟩;refine Q5 fun _ bJ=>?_;refine Zs H fun _ bK=>?_;refine Zm rfl<|Ze (Vd rfl X13 0)<|Ze (X0 rfl X9 (x.at 0))<|Ze (X19 rfl rfl)<|Zt bK fun a H=>?_
 refine Xi H rfl (fun J=>?_) (fun J=>?_)
 ·have W:=J;have J:=Q2 J
  have bL:(i:Int)<p.rows:=J
  refine Q7<|bJ _ _<|Q5 fun _ bM=>?_;refine Q8<|Zs H fun _ bN=>?_;refine Za rfl<|Zt bN fun a H=>?_;refine Q8<|X04 (σ:=Nat×(List Dy)×Bool) (fun (s:Nat×(List Dy)×Bool) (a:Act) (w:World)=>match s with|(j,l2,f2)=>∃ aH aI,Fr a 75 [(0,.pointer (some ⟨bV,0,none⟩)),(4,.pointer (some ⟨b4,0,none⟩)),(5,.pointer (some ⟨b5,0,none⟩)),(6,.pointer (some ⟨b7,0,none⟩)),(7,.pointer (some ⟨b11,0,none⟩)),(8,vi (i:Int)),(9,vi (j:Int))]∧(j≤q.cols.toNat)∧(timesL f p q (i*q.cols.toNat+j)=(f2,l2))∧Blk w bV 95 [.bool f2]∧Blk w b4 32 [vi p.rows,vi (p.cols.toNat:Int),.slice Ap p.cells.length cp]∧Blk w b5 32 [vi q.rows,vi (q.cols.toNat:Int),.slice Aq q.cells.length cq]∧Blk w b7 32 [vi 0,vi 0,.slice none 0 0]∧Blk w b11 32 [vi p.rows,vi (q.cols.toNat:Int),.slice aH l2.length aI]∧Rd w w0.heap.size 86 encD Ap p.cells∧Rd w w0.heap.size 86 encD Aq q.cells∧Own w w0.heap.size 86 5 encD aH aI l2∧Kept bV w0.heap.size w0 w) (fun (s:Nat×(List Dy)×Bool)=>match s with|(j,l2,f2)=>q.cols.toNat-j) (0,l,f1) ?_ ?_
  ·exact ⟨aB,aC,H.sb,(Qf _),hl,t,x,y,z,o,e,g,aE,G⟩
  rintro ⟨j,l2,f2⟩ a w7 ⟨aH,aI,H,hj,aN,t,x,y,z,o,e,g,C,G⟩;refine Q5 fun _ bO=>?_;refine Zs H fun _ bP=>?_;refine Zm rfl<|Ze (Vd rfl X0w 1)<|Ze (X0 rfl X9 (y.at 1))<|Ze (X19 rfl rfl)<|Zt bP fun a H=>?_
  refine Xi H rfl (fun L=>?_) (fun L=>?_)
  ·have a9:=L;have L:=Q2 L
   have aO:j<q.cols.toNat:=by have:=L;omega
   have dC:l2.length=i*q.cols.toNat+j:=by have:=X7e f p q (i*q.cols.toNat+j);rw [aN] at this;exact this
   have dG:=X2z (show i≤32 by omega) (show q.cols.toNat≤32 by omega)
   have aU:=Xeh (f:=f) (a:=p) (b:=q) (i:=i) aO
   rw [aN] at aU
   refine Q7<|bO _ _<|Q5 fun _ bQ=>?_;refine Q8<|Zs H fun _ bR=>?_;refine Ze (Xf (ps:=[]) (cs:=[vi 0,vi 0,vi 0,vi 0,vi 0]) rfl (fun _=>by first|rfl|kernel_rfl))<|Zf (X3 (zs:=[vi 0,vi 0,vi 0,vi 0,vi 0]) X0l rfl) ?_;rintro _ w8 ⟨aP,rfl,aF,D,B⟩;have N:=Q0 G.size aF;have bS:=e.away aF;have bU:=g.away aF;have Q:=C.away aF;have t:=t.below D;have x:=x.below D;have y:=y.below D;have z:=z.below D;have o:=o.below D;have e:=e.below D;have g:=g.below D;have C:=C.below D;have G:=ktr G D;refine Zo (Vw [vi 0,vi 0,vi 0,vi 0,vi 0] Xb B) ?_;rintro _ w9 ⟨I,hb⟩;have n:=B;have t:=t.only I (Blk.ne t n rfl);have x:=x.only I (Blk.ne x n rfl);have y:=y.only I (Blk.ne y n rfl);have z:=z.only I (Blk.ne z n rfl);have o:=o.only I (Blk.ne o n rfl);have e:=e.only I N;have g:=g.only I N;have C:=C.onlyA I Q;have G:=Kept.only G I N;have B:=hb;refine ZX bR fun a H _ bW=>?_;refine Zs H fun _ bZ=>?_;refine Za rfl<|Zt bZ fun a H=>?_;refine Q8<|X04 (σ:=Nat×Dy×Bool) (fun (s:Nat×Dy×Bool) (a:Act) (w:World)=>match s with|(k,sum,U)=>Fr a 75 [(0,.pointer (some ⟨bV,0,none⟩)),(4,.pointer (some ⟨b4,0,none⟩)),(5,.pointer (some ⟨b5,0,none⟩)),(6,.pointer (some ⟨b7,0,none⟩)),(7,.pointer (some ⟨b11,0,none⟩)),(8,vi (i:Int)),(9,vi (j:Int)),(10,.pointer (some ⟨aP,0,none⟩)),(11,vi (k:Int))]∧(k≤p.cols.toNat)∧(dotS f2 p q i j k=(U,sum))∧Blk w bV 95 [.bool U]∧Blk w b4 32 [vi p.rows,vi (p.cols.toNat:Int),.slice Ap p.cells.length cp]∧Blk w b5 32 [vi q.rows,vi (q.cols.toNat:Int),.slice Aq q.cells.length cq]∧Blk w b7 32 [vi 0,vi 0,.slice none 0 0]∧Blk w b11 32 [vi p.rows,vi (q.cols.toNat:Int),.slice aH l2.length aI]∧Blk w aP 86 [vi sum.num.a,vi sum.num.b,vi sum.num.c,vi sum.num.d,vi sum.exp]∧Rd w w0.heap.size 86 encD Ap p.cells∧Rd w w0.heap.size 86 encD Aq q.cells∧Own w w0.heap.size 86 5 encD aH aI l2∧Kept bV w0.heap.size w0 w) (fun (s:Nat×Dy×Bool)=>match s with|(k,sum,U)=>p.cols.toNat-k) (0,dZ,f2) ?_ ?_
   ·exact ⟨H.sb,(Qf _),rfl,t,x,y,z,o,B,e,g,C,G⟩
   rintro ⟨k,sum,U⟩ a cW ⟨H,hk,hs,t,x,y,z,o,B,e,g,C,G⟩
   have cX:0≤sum.exp∧sum.exp≤60:=by have:=X7m aS aT f2 i j k;rw [hs] at this;exact this
   refine Q5 fun _ cA=>?_;refine Q5 fun _ cB=>?_;refine X09 (fun a w=>Fr a 75 [(0,.pointer (some ⟨bV,0,none⟩)),(4,.pointer (some ⟨b4,0,none⟩)),(5,.pointer (some ⟨b5,0,none⟩)),(6,.pointer (some ⟨b7,0,none⟩)),(7,.pointer (some ⟨b11,0,none⟩)),(8,vi (i:Int)),(9,vi (j:Int)),(10,.pointer (some ⟨aP,0,none⟩)),(11,vi (k:Int)),(40,.bool ((decide ((k:Int)<(p.cols.toNat:Int)))&&(!U)))]∧cW=w) ?_ ?_
   ·refine Zr H<|Zm rfl<|Ze (Vd rfl X0w 1)<|Ze (X0 rfl X9 (x.at 1))<|Ze (X19 rfl rfl)<|Zm rfl ?_
    refine Zg 34 rfl (fun E=>?_) (fun E=>?_)
    ·refine Zv (gW E) (Xa rfl) ?_;refine Zv (gW E) (X3s rfl) ?_;refine Zv (gW E) (Vd rfl X3u 0) ?_;refine Zv (gW E) (X0 rfl Xjb (t.at 0)) ?_;refine Zv (gW E) (X0p rfl) ?_;refine Ze (Xh rfl E rfl) ?_;refine Zn fun a H=>?_;exact ⟨H.sub ⟨rfl,rfl,rfl,rfl,rfl,rfl,rfl,rfl,rfl,X2 rfl (by first|rfl|(simp only [W,a9,E,bs];done)|simp [W,a9,E]),trivial⟩,rfl⟩
    refine Zp (gP E) ?_;refine Zp (gP E) ?_;refine Zp (gP E) ?_;refine Zp (gP E) ?_;refine Zp (gP E) ?_;refine Ze (Xd rfl E rfl) ?_;refine Zn fun a H=>?_;exact ⟨H.sub ⟨rfl,rfl,rfl,rfl,rfl,rfl,rfl,rfl,rfl,X2 rfl (by first|rfl|(simp only [W,a9,E,bs];done)|simp [W,a9,E]),trivial⟩,rfl⟩
   rintro a _ ⟨H,rfl⟩;refine cB _ _ ?_
   refine Xi H rfl (fun aA=>?_) (fun aA=>?_)
   ·have aW:=aA
    have d5:(k:Int)<(p.cols.toNat:Int)∧U=false:=by simpa using aA
    have dH:k<p.cols.toNat:=by omega
    have dI:=X2z (show i≤32 by omega) (show p.cols.toNat≤32 by omega)
    have dJ:=X2z (show k≤32 by omega) (show q.cols.toNat≤32 by omega)
    have d6:=Xkb hs d5.2;refine Q7<|cA _ _<|Q5 fun _ cC=>?_;refine Q8<|Xy (some bV) (fun j=>[25].contains j) mixed ?_;intro dK D;have t:=t.below D;have x:=x.below D;have y:=y.below D;have z:=z.below D;have o:=o.below D;have B:=B.below D;have e:=e.below D;have g:=g.below D;have C:=C.below D;have G:=ktr G D;refine Yb H<|Yo 0 rfl (fun _=>Xa rfl) ?_;refine Yw 1 rfl trivial (fun w1 h1=>Xz (l:=[vi sum.num.a,vi sum.num.b,vi sum.num.c,vi sum.num.d,vi sum.exp]) rfl X6 ((B.only h1 (Blk.ne B t rfl)).at 0) rfl) ?_;refine Yo 2 rfl (fun _=>Xa rfl)<|Yo 3 rfl (fun _=>Vd rfl X0m 2) ?_;refine Yw 4 rfl trivial (fun w1 h1=>X0 rfl X0c ((x.only h1 (Blk.ne x t rfl)).at 2)) ?_;refine Yo 5 rfl (fun _=>Xa rfl)<|Yo 6 rfl (fun _=>Vd rfl X0w 1) ?_;refine Yw 7 rfl trivial (fun w1 h1=>X0 rfl X9 ((x.only h1 (Blk.ne x t rfl)).at 1)) ?_;refine Yo 8 rfl (fun _=>Xbo (m:=i) (k:=p.cols.toNat) rfl rfl (by have:=X2z (show i≤32 by omega) (show p.cols.toNat≤32 by omega);omega))<|Yo 9 rfl (fun _=>Xa rfl)<|Yo 10 rfl (fun _=>X02 rfl rfl (by omega) (by omega)) ?_;refine Ya (k:=(i*p.cols.toNat+k)) (u:=(p.at i k)) (enc:=encD) (l:=p.cells) 11 rfl trivial t rfl rfl rfl Xs Xb Xw e (Mx.at_get (by rw [b8.2.2];exact X45 (by omega) (by omega))) (by omega) ?_;intro dL aX aQ;refine Yw 12 rfl trivial (fun w1 h1=>Xz (l:=[vi ((p.at i k).num.a),vi ((p.at i k).num.b),vi ((p.at i k).num.c),vi ((p.at i k).num.d),vi ((p.at i k).exp)]) rfl X6 (aX.only h1 aQ) rfl) ?_;refine Yo 13 rfl (fun _=>Vd rfl X0m 2) ?_;refine Yw 14 rfl trivial (fun w1 h1=>X0 rfl X0c ((y.only h1 (Blk.ne y t rfl)).at 2)) ?_;refine Yo 15 rfl (fun _=>Xa rfl)<|Yo 16 rfl (fun _=>Vd rfl X0w 1) ?_
    refine Yw 17 rfl trivial (fun w1 h1=>X0 rfl X9 ((y.only h1 (Blk.ne y t rfl)).at 1)) ?_;refine Yo 18 rfl (fun _=>Xbo (m:=k) (k:=q.cols.toNat) rfl rfl (by have:=X2z (show k≤32 by omega) (show q.cols.toNat≤32 by omega);omega))<|Yo 19 rfl (fun _=>Xa rfl)<|Yo 20 rfl (fun _=>X02 rfl rfl (by omega) (by omega)) ?_;refine Ya (k:=(k*q.cols.toNat+j)) (u:=(q.at k j)) (enc:=encD) (l:=q.cells) 21 rfl trivial t rfl rfl rfl Xs Xb Xw g (Mx.at_get (by rw [b9.2.2];exact X45 (by omega) (by omega))) (by omega) ?_;intro dM aY aR;refine Yw 22 rfl trivial (fun w1 h1=>Xz (l:=[vi ((q.at k j).num.a),vi ((q.at k j).num.b),vi ((q.at k j).num.c),vi ((q.at k j).num.d),vi ((q.at k j).exp)]) rfl X6 (aY.only h1 aR) rfl) ?_;refine Y1 23<|Yf rfl trivial (EfW.mono (Vc (Xtl _ bV U t (p.at i k) (q.at k j) (X1u (Mx.at_ok aS i k)) (X1u (Mx.at_ok aT k j))) Xfp) (fun _ _ h=>⟨fun _=>by obtain ⟨rfl,hK,aD⟩:=h;exact hK.keep,h⟩)) ?_;rintro _ dN ⟨rfl,hK,aD⟩;obtain ⟨wm,hO,hm,D⟩:=hK.mid;clear hm;have n:=t;have x:=x.only hO (Blk.ne x n rfl);have y:=y.only hO (Blk.ne y n rfl);have z:=z.only hO (Blk.ne z n rfl);have o:=o.only hO (Blk.ne o n rfl);have B:=B.only hO (Blk.ne B n rfl);have e:=e.onlyT hO n rfl;have g:=g.onlyT hO n rfl;have C:=C.onlyT hO n rfl;have G:=G.self hO;have x:=x.below D;have y:=y.below D;have z:=z.below D;have o:=o.below D;have B:=B.below D;have e:=e.below D;have g:=g.below D;have C:=C.below D;have G:=ktr G D
    clear n D hO hK;have t:=aD;clear aD;refine Y1 24<|Yf rfl trivial (EfW.mono (Vc (Xpm _ bV ((sMul U (p.at i k) (q.at k j)).1) t sum ((sMul U (p.at i k) (q.at k j)).2) cX (Xal (X1u (Mx.at_ok aS i k)) (X1u (Mx.at_ok aT k j)))) Xd1) (fun _ _ h=>⟨fun _=>by obtain ⟨rfl,hK,aD⟩:=h;exact hK.keep,h⟩)) ?_;rintro _ dP ⟨rfl,hK,aD⟩;obtain ⟨wm,hO,hm,D⟩:=hK.mid;clear hm;have n:=t;have x:=x.only hO (Blk.ne x n rfl);have y:=y.only hO (Blk.ne y n rfl);have z:=z.only hO (Blk.ne z n rfl);have o:=o.only hO (Blk.ne o n rfl);have B:=B.only hO (Blk.ne B n rfl);have e:=e.onlyT hO n rfl;have g:=g.onlyT hO n rfl;have C:=C.onlyT hO n rfl;have G:=G.self hO;have x:=x.below D;have y:=y.below D;have z:=z.below D;have o:=o.below D;have B:=B.below D;have e:=e.below D;have g:=g.below D;have C:=C.below D;have G:=ktr G D
    clear n D hO hK;have t:=aD;clear aD;refine Y1 25<|Yh rfl trivial rfl (Vw [vi (((sAdd ((sMul U (p.at i k) (q.at k j)).1) sum ((sMul U (p.at i k) (q.at k j)).2)).2).num.a),vi (((sAdd ((sMul U (p.at i k) (q.at k j)).1) sum ((sMul U (p.at i k) (q.at k j)).2)).2).num.b),vi (((sAdd ((sMul U (p.at i k) (q.at k j)).1) sum ((sMul U (p.at i k) (q.at k j)).2)).2).num.c),vi (((sAdd ((sMul U (p.at i k) (q.at k j)).1) sum ((sMul U (p.at i k) (q.at k j)).2)).2).num.d),vi (((sAdd ((sMul U (p.at i k) (q.at k j)).1) sum ((sMul U (p.at i k) (q.at k j)).2)).2).exp)] Xb B) ?_;rintro _ dQ ⟨I,hb⟩;have n:=B;have t:=t.only I (Blk.ne t n rfl);have x:=x.only I (Blk.ne x n rfl);have y:=y.only I (Blk.ne y n rfl);have z:=z.only I (Blk.ne z n rfl);have o:=o.only I (Blk.ne o n rfl);have e:=e.only I N;have g:=g.only I N;have C:=C.onlyA I Q;have G:=Kept.only G I N;have B:=hb;refine Yd fun a H=>?_;refine Xk<|cC _ _<|Zr H<|Zm rfl<|Ze (X02 rfl rfl (by omega) (by omega))<|Za rfl ?_;refine Zn fun a H=>?_;refine Xn ?_;exact ⟨(k+1,(sAdd (sMul U (p.at i k) (q.at k j)).1 sum (sMul U (p.at i k) (q.at k j)).2).2,(sAdd (sMul U (p.at i k) (q.at k j)).1 sum (sMul U (p.at i k) (q.at k j)).2).1),⟨H.sb,(by omega),d6,t,x,y,z,o,B,e,g,C,G⟩,(by first|omega|(dsimp only;omega))⟩
   have aW:=aA
   have cD:U=true∨k=p.cols.toNat:=by (cases U with|true=>exact .inl rfl|false=>exact .inr (by have h9:¬ (k:Int)<(p.cols.toNat:Int):=(by simpa using aA);omega))
   have d7:=Xoo hs hk cD
   rw [d7] at aU
   refine Q9<|Xm<|Xm<|X06 ?_;refine bW _ _<|Zr H<|Ze (Vd rfl X0m 2)<|Ze (X0 rfl X0c (o.at 2))<|Ze (Vn X6 B)<|Zf (X7 (k:=1) (vs:=[.agg #[vi sum.num.a,vi sum.num.b,vi sum.num.c,vi sum.num.d,vi sum.exp]]) (zs:=[vi sum.num.a,vi sum.num.b,vi sum.num.c,vi sum.num.d,vi sum.exp]) rfl Xs X0u rfl rfl) ?_;rintro _ dR ⟨b38,rfl,aG,D,aL⟩
   have b2:aP≠b38:=by have:=B.lt;omega
   have d8:=Q0 G.size aG;have cE:=e.away aG;have cF:=g.away aG;have aJ:=C.away aG;have t:=t.below D;have x:=x.below D;have y:=y.below D;have z:=z.below D;have o:=o.below D;have B:=B.below D;have e:=e.below D;have g:=g.below D;have C:=C.below D;have G:=ktr G D;refine Zf (X0k (enc:=encD) (l:=(l2)) (l2:=([sum])) (B0:=w0.heap.size) rfl rfl Xs X0u Xw X28 C (Rd.of_blk aL rfl _ aL.lt) (by simp only [maxLen];simp;omega) (by simp;omega) G.size) ?_;rintro _ dS ⟨aZ,b0,rfl,aM,hg,b1⟩
   have M:Own _ w0.heap.size 86 5 encD _ _ (l2):=C
   have b3:=b1 _ B.lt Q;have b6:=b1 _ aL.lt aJ;clear b1;have t:=t.appT M hg rfl;have x:=x.appT M hg rfl;have y:=y.appT M hg rfl;have z:=z.appT M hg rfl;have o:=o.appT M hg rfl;have e:=e.appB M hg (Qb _);have g:=g.appB M hg (Qb _);have G:=Kept.app G M hg (Qb _) G.size;clear M hg;refine Ze (Vd rfl X0m 2)<|Zo (Vu (vs:=[.slice aZ (l2++([sum])).length b0]) (l':=[vi p.rows,vi (q.cols.toNat:Int),.slice aZ (l2++([sum])).length b0]) rfl rfl X3a o) ?_;rintro _ dT ⟨I,hb⟩;have n:=o;have t:=t.only I (Blk.ne t n rfl);have x:=x.only I (by omega);have y:=y.only I (by omega);have z:=z.only I (by omega);have e:=e.onlyT I n rfl;have g:=g.onlyT I n rfl;have aM:=aM.onlyT I n rfl;have G:=Kept.only G I aK;have o:=hb;refine Zn fun a H=>?_;refine Xk<|bQ _ _<|Zr H<|Zm rfl<|Ze (X02 rfl rfl (by omega) (by omega))<|Za rfl ?_;refine Zn fun a H=>?_;refine Xn ?_;exact ⟨(j+1,l2++[sum],U),⟨aZ,b0,H.sb,(by omega),aU,t,x,y,z,o,e,g,aM,G⟩,(by first|omega|(dsimp only;omega))⟩
  have a9:=L;have L:=Q1 L
  have aO:j=q.cols.toNat:=by have:=L;omega
  refine Q9<|Xm<|Xm<|X06 ?_;refine Xk<|bM _ _<|Zr H<|Zm rfl<|Ze (X02 rfl rfl (by omega) (by omega))<|Za rfl ?_;refine Zn fun a H=>?_;refine Xn ?_;exact ⟨(i+1,l2,f2),⟨aH,aI,H.sb,(by omega),(by rw [Wb,Nat.one_mul,← aO];rw [← aO] at aN;exact aN),t,x,y,z,o,e,g,C,G⟩,(by first|omega|(dsimp only;omega))⟩
 have W:=J;have J:=Q1 J
 have bL:i=p.rows.toNat:=by have:=J;omega
 refine Q9<|Xm<|Xm<|X06 ?_;refine bH _ _<|Zs H fun _ cG=>?_;refine Ze (Vn Xg o)<|Zo (Vw [vi p.rows,vi (q.cols.toNat:Int),.slice aB l.length aC] Xt z) ?_;rintro _ dU ⟨I,hb⟩;have n:=z;have t:=t.only I (Blk.ne t n rfl);have aE:=aE.onlyT I n rfl;have G:=Kept.only G I bC;have z:=hb;refine Zt cG fun a H=>?_
 refine Q6 (X4 H (Xp H rfl (ResV.cellN (l:=[vi p.rows,vi (q.cols.toNat:Int),.slice aB l.length aC]) rfl Xg (z.at 0) rfl)) ?_)
 have cH:timesS f p q=(f1,⟨p.rows,q.cols,l⟩):=by rw [timesS,← bL,hl]
 rw [cH]
 exact ⟨aB,aC,rfl,aE,G,t⟩
end Go.Proofs.YtnmabjfoiakapaaGreatDoor
