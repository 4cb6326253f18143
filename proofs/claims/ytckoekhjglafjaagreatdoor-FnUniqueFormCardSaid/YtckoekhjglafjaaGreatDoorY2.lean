/-
  For every drawn normal form, the code and the reference have one matrix for it, the normal form of that matrix, where there is one, is the form again, and its text is read back; forms at two places differ, and a form at a place is valid and has its length.
-/
import Derived.Test.YtckoekhjglafjaaGreatDoorY1
import Derived.MapKept
import Derived.Ground.Names2Prog
import Derived.Shelf.Slices.Clone
import Derived.Shelf.Slices.CompactI
import Derived.Shelf.Slices.Cells
import Derived.Test.YtckoekhjglafjaaGreatDoorProg
import Derived.Shelf.Spec.SlicesGrow
import Derived.Laws.MakeOwn
import Derived.Laws.Slices
import Derived.WideKeyRuns
set_option linter.unusedVariables false
set_option linter.unusedSimpArgs false
set_option maxRecDepth 4000
set_option linter.unusedSectionVars false
namespace Go.Proofs.YtckoekhjglafjaaGreatDoor
open Go.RowKit
theorem Y08(w0:World)(i:Int)(j:Int) : Ret Tryz.prog 74 [vi i,vi j] w0 (fun v w=>v=.tuple #[dV (if i=j then (⟨⟨1,0,0,0⟩,0⟩ : Dy) else dZ),.bool true]∧Below w0.heap.size w0 w):=by
 refine enter Tryz.func74 rfl 11 rfl rfl ?_;intro a f
 have g:=bz w0
 refine Zs f fun _ aD=>?_;refine Zf (X3 (zs:=[vi 0,vi 0,vi 0,vi 0,vi 0]) X0n rfl) ?_;rintro _ w1 ⟨b2,rfl,aE,hE,e⟩;have m:=Q0 g.size aE;have g:=btr g hE;refine Za rfl<|ZX aD fun a f _ aF=>?_;refine Zs f fun _ aG=>?_;refine Zm rfl<|Zm rfl<|Ze (X1b rfl rfl)<|Zt aG fun a f=>?_
 refine Xl f rfl (fun k=>?_) (fun k=>?_)
 ·have aB:=k
  have aA:i=j:=by revert k;simp
  refine Zs f fun _ aH=>?_;refine Zf (Vc (Xik _ 1) X87) ?_;rintro _ w2 ⟨rfl,hE⟩;have e:=e.below hE;have g:=btr g hE;refine Zo (Vw [vi ((⟨⟨1,0,0,0⟩,0⟩ : Dy).num.a),vi ((⟨⟨1,0,0,0⟩,0⟩ : Dy).num.b),vi ((⟨⟨1,0,0,0⟩,0⟩ : Dy).num.c),vi ((⟨⟨1,0,0,0⟩,0⟩ : Dy).num.d),vi ((⟨⟨1,0,0,0⟩,0⟩ : Dy).exp)] Xd e) ?_;rintro _ w3 ⟨ho,hb⟩;have aC:=e;have g:=Below.only g ho m;have e:=hb;refine Za rfl<|Zt aH fun a f=>?_;refine Q6<|Xf<|X4 f (X0r f rfl (ResV.cellN (l:=[vi ((⟨⟨1,0,0,0⟩,0⟩ : Dy).num.a),vi ((⟨⟨1,0,0,0⟩,0⟩ : Dy).num.b),vi ((⟨⟨1,0,0,0⟩,0⟩ : Dy).num.c),vi ((⟨⟨1,0,0,0⟩,0⟩ : Dy).num.d),vi ((⟨⟨1,0,0,0⟩,0⟩ : Dy).exp)]) rfl X6 (e.at 0) rfl) rfl) ?_;exact ⟨by rw [Q4 aA],g⟩
 have aB:=k
 have aA:¬ i=j:=by revert k;simp
 refine Q7<|aF _ _<|Zs f fun _ aI=>?_;refine Ze (Xg (ps:=[]) (cs:=[vi 0,vi 0,vi 0,vi 0,vi 0]) rfl (fun _=>by first|rfl|kernel_rfl))<|Zo (Vw [vi 0,vi 0,vi 0,vi 0,vi 0] Xd e) ?_;rintro _ w4 ⟨ho,hb⟩;have aC:=e;have g:=Below.only g ho m;have e:=hb;refine Za rfl<|Zt aI fun a f=>?_
 refine Q6 (X4 f (X0r f rfl (ResV.cellN (l:=[vi 0,vi 0,vi 0,vi 0,vi 0]) rfl X6 (e.at 0) rfl) rfl) ?_)
 exact ⟨by rw [Q3 aA];rfl,g⟩
theorem Xw7(w0:World)(n:Int) : Ret Tryz.prog 39 [vi n] w0 (fun v w=>∃ A c,v=.tuple #[mV A c ((idI n).getD mZ),.bool (idI n).isSome]∧Own w w0.heap.size 53 5 encD A c ((idI n).getD mZ).cells∧Below w0.heap.size w0 w):=by
 refine enter Tryz.func39 rfl 9 rfl rfl ?_;intro a hf
 have e:=bz w0
 refine Zs hf fun _ aC=>?_;refine Zf (X3 (zs:=[vi 0,vi 0,.slice none 0 0]) X0y rfl) ?_;rintro _ w1 ⟨b3,rfl,aD,hE,b⟩;have aA:=Q0 e.size aD;have e:=btr e hE;refine Za rfl<|Zx aC fun a hf _ aE=>?_;refine Zm rfl<|Zm rfl<|Zf (Vc (Xj9 _ n n 74 [] Xuc (fun i j=>some (if i=j then ⟨⟨1,0,0,0⟩,0⟩ else dZ)) (fun i j w' hi hj hE'=>(Y08 w' (i:Int) (j:Int)).mono fun v w'' ⟨h1,h2⟩=>⟨by rw [h1];simp only [Int.natCast_inj];rfl,h2⟩)) X9t) ?_;rintro _ w2 ⟨A5,c5,rfl,d,hE⟩;have d:=d.lower e.size;have b:=b.below hE;have e:=btr e hE;refine Ze (X1 (vs:=[.agg #[vi (((matOf n n (fun i j=>some (if i=j then ⟨⟨1,0,0,0⟩,0⟩ else dZ))).getD mZ).rows),vi (((matOf n n (fun i j=>some (if i=j then ⟨⟨1,0,0,0⟩,0⟩ else dZ))).getD mZ).cols),.slice A5 (((matOf n n (fun i j=>some (if i=j then ⟨⟨1,0,0,0⟩,0⟩ else dZ))).getD mZ).cells).length c5],.bool ((matOf n n (fun i j=>some (if i=j then ⟨⟨1,0,0,0⟩,0⟩ else dZ))).isSome)]) rfl rfl)<|Ze (X1 (vs:=[.agg #[vi (((matOf n n (fun i j=>some (if i=j then ⟨⟨1,0,0,0⟩,0⟩ else dZ))).getD mZ).rows),vi (((matOf n n (fun i j=>some (if i=j then ⟨⟨1,0,0,0⟩,0⟩ else dZ))).getD mZ).cols),.slice A5 (((matOf n n (fun i j=>some (if i=j then ⟨⟨1,0,0,0⟩,0⟩ else dZ))).getD mZ).cells).length c5],.bool ((matOf n n (fun i j=>some (if i=j then ⟨⟨1,0,0,0⟩,0⟩ else dZ))).isSome)]) rfl rfl)<|Zo (Vw [vi (((matOf n n (fun i j=>some (if i=j then ⟨⟨1,0,0,0⟩,0⟩ else dZ))).getD mZ).rows),vi (((matOf n n (fun i j=>some (if i=j then ⟨⟨1,0,0,0⟩,0⟩ else dZ))).getD mZ).cols),.slice A5 (((matOf n n (fun i j=>some (if i=j then ⟨⟨1,0,0,0⟩,0⟩ else dZ))).getD mZ).cells).length c5] X0b b) ?_;rintro _ w3 ⟨ho,hb⟩;have aB:=b;have d:=d.onlyT ho aB rfl;have e:=Below.only e ho aA;have b:=hb;refine Za rfl<|Zt aE fun a hf=>?_
 refine Q6 (X4 hf (X0r hf rfl (ResV.cellN (l:=[vi (((matOf n n (fun i j=>some (if i=j then ⟨⟨1,0,0,0⟩,0⟩ else dZ))).getD mZ).rows),vi (((matOf n n (fun i j=>some (if i=j then ⟨⟨1,0,0,0⟩,0⟩ else dZ))).getD mZ).cols),.slice A5 (((matOf n n (fun i j=>some (if i=j then ⟨⟨1,0,0,0⟩,0⟩ else dZ))).getD mZ).cells).length c5]) rfl Xr (b.at 0) rfl) rfl) ?_)
 exact ⟨A5,c5,rfl,d,e⟩
theorem Xzi(w0:World)(p q:Mx)(Aa Ab:Option Addr)(ca cb:Nat)(ba bb:Nat)(I:Rd w0 w0.heap.size 53 encD Aa p.cells)(J:Rd w0 w0.heap.size 53 encD Ab q.cells)(u:Blk w0 ba 29 [vi p.rows,vi p.cols,.slice Aa p.cells.length ca])(x:Blk w0 bb 29 [vi q.rows,vi q.cols,.slice Ab q.cells.length cb])(bG:mOk p=true)(cM:mOk q=true)(dX:p.cols=q.rows)(i j:Nat)(hi:(i:Int)<p.rows)(hj:(j:Int)<q.cols) : Ret Tryz.prog 118 [vi (i:Int),vi (j:Int),.pointer (some ⟨ba,0,none⟩),.pointer (some ⟨bb,0,none⟩)] w0 (fun v w=>v=.tuple #[dV ((dotI p q i j p.cols.toNat).getD dZ),.bool (dotI p q i j p.cols.toNat).isSome]∧Below w0.heap.size w0 w):=by
 have dY:=X2q bG;have dK:=u.lt;have dL:=x.lt
 have e7:p.cols=(p.cols.toNat:Int):=by omega
 refine enter Tryz.func118 rfl 48 rfl rfl ?_;intro a t
 have f:=bz w0
 refine Zs t fun _ dM=>?_;refine Zf (X3 (zs:=[vi 0,vi 0,vi 0,vi 0,vi 0]) X0n rfl) ?_;rintro _ w1 ⟨L,rfl,bH,e,g⟩;have b9:=Q0 f.size bH;have dF:=(I.below' f).away bH;have dG:=(J.below' f).away bH;have u:=u.below e;have x:=x.below e;have f:=btr f e;refine Za rfl<|Zx dM fun a t _ dN=>?_;refine Ze (Xg (ps:=[]) (cs:=[vi 0,vi 0,vi 0,vi 0,vi 0]) rfl (fun _=>by first|rfl|kernel_rfl))<|Zf (X3 (zs:=[vi 0,vi 0,vi 0,vi 0,vi 0]) X0n rfl) ?_;rintro _ w2 ⟨b6,rfl,bI,e,o⟩
 have dH:L≠b6:=by have:=g.lt;omega
 have bC:=Q0 f.size bI;have dI:=(I.below' f).away bI;have dJ:=(J.below' f).away bI;have u:=u.below e;have x:=x.below e;have g:=g.below e;have f:=btr f e;refine Zo (Vw [vi 0,vi 0,vi 0,vi 0,vi 0] Xd o) ?_;rintro _ w3 ⟨D,hb⟩;have z:=o;have u:=u.only D (Blk.ne u z rfl);have x:=x.only D (Blk.ne x z rfl);have g:=g.only D (by omega);have f:=Below.only f D bC;have o:=hb;refine ZX dN fun a t _ dP=>?_;refine Zs t fun _ dQ=>?_;refine Ze (Vd rfl X14 1)<|Ze (X0 rfl X9 (u.at 1))<|Zm rfl<|Zt dQ fun a t=>?_;refine Q8<|X07 (σ:=Nat×Dy) (fun (s:Nat×Dy) (a:Act) (w:World)=>match s with|(k,sum)=>Fr a 48 [(0,vi (i:Int)),(1,vi (j:Int)),(2,.pointer (some ⟨ba,0,none⟩)),(3,.pointer (some ⟨bb,0,none⟩)),(6,.pointer (some ⟨L,0,none⟩)),(8,.pointer (some ⟨b6,0,none⟩)),(16,vi p.cols),(17,vi (k:Int))]∧((k:Int)≤p.cols)∧(dotI p q i j k=some sum)∧Blk w ba 29 [vi p.rows,vi p.cols,.slice Aa p.cells.length ca]∧Blk w bb 29 [vi q.rows,vi q.cols,.slice Ab q.cells.length cb]∧Blk w L 53 [vi 0,vi 0,vi 0,vi 0,vi 0]∧Blk w b6 53 [vi sum.num.a,vi sum.num.b,vi sum.num.c,vi sum.num.d,vi sum.exp]∧Below w0.heap.size w0 w) (fun (s:Nat×Dy)=>match s with|(k,sum)=>(p.cols-k).toNat) (0,dZ) ?_ ?_
 ·exact ⟨t.sb,(by omega),rfl,u,x,g,o,f⟩
 rintro ⟨k,sum⟩ a w4 ⟨t,hk,hs,u,x,g,o,f⟩;refine Zs t fun _ dR=>?_;refine Ze (X1h rfl rfl)<|ZX dR fun a t _ cO=>?_
 refine Xl t rfl (fun C=>?_) (fun C=>?_)
 ·have E:=C;have C:=Q2 C
  have cP:(k:Int)<p.cols:=C
  refine Q7<|cO _ _<|Q5 fun _ cQ=>?_;refine Q8<|Zs t fun _ cR=>?_;refine Zm rfl<|Za rfl<|ZX cR fun a t _ cS=>?_;refine X02 (fun a w=>∃ y,Fr a 48 [(0,vi (i:Int)),(1,vi (j:Int)),(2,.pointer (some ⟨ba,0,none⟩)),(3,.pointer (some ⟨bb,0,none⟩)),(6,.pointer (some ⟨L,0,none⟩)),(8,.pointer (some ⟨b6,0,none⟩)),(10,.pointer (some ⟨y,0,none⟩)),(11,.bool ((dMulI (p.at i k) (q.at k j)).isSome)),(16,vi p.cols),(17,vi (k:Int))]∧w0.heap.size≤y∧Blk w y 53 [vi ((Za5 p q i k k j).num.a),vi ((Za5 p q i k k j).num.b),vi ((Za5 p q i k k j).num.c),vi ((Za5 p q i k k j).num.d),vi ((Za5 p q i k k j).exp)]∧L≠y∧b6≠y∧Below w4.heap.size w4 w) ?_ ?_
  ·have n:Below w4.heap.size w4 w4:=Below.refl _ _
   refine Xz none (fun j=>[13].contains j) mixed ?_;intro w5 e;have u:=u.below e;have x:=x.below e;have g:=g.below e;have o:=o.below e;have f:=btr f e;have n:=btr n e;refine Yb t<|Ye 0 rfl (X09 (l:=[vi p.rows,vi p.cols,.slice Aa p.cells.length ca]) rfl Xr (u.at 0) rfl)<|Yo 1 rfl (fun _=>X7 rfl)<|Yo 2 rfl (fun _=>X7 rfl)<|Ye 4 rfl (X09 (l:=[vi q.rows,vi q.cols,.slice Ab q.cells.length cb]) rfl Xr (x.at 0) rfl)<|Yo 5 rfl (fun _=>X7 rfl)<|Yo 6 rfl (fun _=>X7 rfl) ?_
   have m:Below w5.heap.size w5 w5:=Below.refl _ _
   refine Yc [0,1,2,3,4,5,6,7,8,9,10,11,12] 2 (fun a w=>∃ y,Fr a 48 [(0,vi (i:Int)),(1,vi (j:Int)),(2,.pointer (some ⟨ba,0,none⟩)),(3,.pointer (some ⟨bb,0,none⟩)),(6,.pointer (some ⟨L,0,none⟩)),(8,.pointer (some ⟨b6,0,none⟩)),(10,.pointer (some ⟨y,0,none⟩)),(16,vi p.cols),(17,vi (k:Int)),(30,.agg #[vi ((Za5 p q i k k j).num.a),vi ((Za5 p q i k k j).num.b),vi ((Za5 p q i k k j).num.c),vi ((Za5 p q i k k j).num.d),vi ((Za5 p q i k k j).exp)]),(31,.bool ((dMulI (p.at i k) (q.at k j)).isSome))]∧w0.heap.size≤y∧Blk w y 53 [vi 0,vi 0,vi 0,vi 0,vi 0]∧L≠y∧b6≠y∧w5.heap.size≤y∧w4.heap.size≤y∧AwayR p.cells Aa y∧AwayR q.cells Ab y∧Below w5.heap.size w5 w) ?_ ?_
   ·rintro a w6 ⟨y,t,aC,B,M,N,bJ,bK,cU,cV,e⟩;clear m;have m:=e;have f:=btr f e;have n:=btr n e;refine Yb t<|Y1 13<|Yh rfl trivial rfl (Vw [vi ((Za5 p q i k k j).num.a),vi ((Za5 p q i k k j).num.b),vi ((Za5 p q i k k j).num.c),vi ((Za5 p q i k k j).num.d),vi ((Za5 p q i k k j).exp)] Xd B) ?_;rintro _ w7 ⟨D,hb⟩;have z:=B;have n:=Below.only n D bK;have m:=Below.only m D bJ;have f:=Below.only f D aC;have B:=hb;refine Yo 14 rfl (fun _=>X0i rfl) ?_;refine Yd fun a t=>?_
    have dS:Below w4.heap.size w4 w7:=n
    exact ⟨y,t.sb,aC,B,M,N,dS⟩
   intro bD;refine Yc [0,1,2,3,4,5,6,7,12] 6 (fun a w=>∃ G,Fr a 48 [(0,vi (i:Int)),(1,vi (j:Int)),(2,.pointer (some ⟨ba,0,none⟩)),(3,.pointer (some ⟨bb,0,none⟩)),(6,.pointer (some ⟨L,0,none⟩)),(8,.pointer (some ⟨b6,0,none⟩)),(10,.pointer (some ⟨G,0,none⟩)),(16,vi p.cols),(17,vi (k:Int)),(24,.agg #[vi ((p.at i k).num.a),vi ((p.at i k).num.b),vi ((p.at i k).num.c),vi ((p.at i k).num.d),vi ((p.at i k).exp)]),(28,.agg #[vi ((q.at k j).num.a),vi ((q.at k j).num.b),vi ((q.at k j).num.c),vi ((q.at k j).num.d),vi ((q.at k j).exp)])]∧w0.heap.size≤G∧Blk w G 53 [vi 0,vi 0,vi 0,vi 0,vi 0]∧L≠G∧b6≠G∧w5.heap.size≤G∧w4.heap.size≤G∧AwayR p.cells Aa G∧AwayR q.cells Ab G∧Below w5.heap.size w5 w) ?_ ?_
   ·rintro a w8 ⟨G,t,bL,aE,aF,aG,bM,bN,aH,aI,e⟩;clear m;have m:=e;have f:=btr f e;have n:=btr n e;refine Yb t<|Y1 8<|Yk rfl trivial (Vc (Xas _ (p.at i k) (q.at k j)) X4l) (fun _ _ ⟨_,e⟩=>e) ?_;rintro _ w9 ⟨rfl,e⟩;have aE:=aE.below e;have f:=btr f e;have n:=btr n e;have m:=btr m e;refine Yo 9 rfl (fun _=>X7 rfl)<|Yo 10 rfl (fun _=>X1 (vs:=[.agg #[vi ((Za5 p q i k k j).num.a),vi ((Za5 p q i k k j).num.b),vi ((Za5 p q i k k j).num.c),vi ((Za5 p q i k k j).num.d),vi ((Za5 p q i k k j).exp)],.bool ((dMulI (p.at i k) (q.at k j)).isSome)]) rfl rfl)<|Yo 11 rfl (fun _=>X1 (vs:=[.agg #[vi ((Za5 p q i k k j).num.a),vi ((Za5 p q i k k j).num.b),vi ((Za5 p q i k k j).num.c),vi ((Za5 p q i k k j).num.d),vi ((Za5 p q i k k j).exp)],.bool ((dMulI (p.at i k) (q.at k j)).isSome)]) rfl rfl) ?_;exact fun a t=>bD _ a _ rfl ⟨G,t.sb,bL,aE,aF,aG,bM,bN,aH,aI,m⟩
   intro bE;refine Yc [0,1,2,3,4,5,6,12] 7 (fun a w=>∃ H,Fr a 48 [(0,vi (i:Int)),(1,vi (j:Int)),(2,.pointer (some ⟨ba,0,none⟩)),(3,.pointer (some ⟨bb,0,none⟩)),(6,.pointer (some ⟨L,0,none⟩)),(8,.pointer (some ⟨b6,0,none⟩)),(10,.pointer (some ⟨H,0,none⟩)),(16,vi p.cols),(17,vi (k:Int)),(24,.agg #[vi ((p.at i k).num.a),vi ((p.at i k).num.b),vi ((p.at i k).num.c),vi ((p.at i k).num.d),vi ((p.at i k).exp)]),(25,.agg #[vi q.rows,vi q.cols,.slice Ab q.cells.length cb]),(26,vi (k:Int)),(27,vi (j:Int))]∧w0.heap.size≤H∧Blk w H 53 [vi 0,vi 0,vi 0,vi 0,vi 0]∧L≠H∧b6≠H∧w5.heap.size≤H∧w4.heap.size≤H∧AwayR p.cells Aa H∧AwayR q.cells Ab H∧Below w5.heap.size w5 w) ?_ ?_
   ·rintro a e8 ⟨H,t,bO,aJ,aK,aL,bP,bQ,aM,aN,e⟩;clear m;have m:=e;have f:=btr f e;have n:=btr n e;refine Yb t<|Y1 7<|Yk rfl trivial (Vc (Xfe _ q Ab cb (J.below' f).top k j cM (by omega) hj) X74) (fun _ _ ⟨_,e⟩=>e) ?_;rintro _ eA ⟨rfl,e⟩;have aJ:=aJ.below e;have f:=btr f e;have n:=btr n e;have m:=btr m e;exact fun a t=>bE _ a _ rfl ⟨H,t.sb,bO,aJ,aK,aL,bP,bQ,aM,aN,m⟩
   intro bF;refine Y2 3 12 ?_ ?_
   ·refine Yk rfl trivial (Vc (Xfe _ p Aa ca (I.below' f).top i k bG hi (by omega)) X74) (fun _ _ ⟨_,e⟩=>e) ?_;rintro _ eB ⟨rfl,e⟩;have g:=g.below e;have o:=o.below e;have f:=btr f e;have n:=btr n e;have m:=btr m e;refine Y2 7 12 ?_ ?_
    ·refine Yk rfl trivial (Vc (Xfe _ q Ab cb (J.below' f).top k j cM (by omega) hj) X74) (fun _ _ ⟨_,e⟩=>e) ?_;rintro _ eC ⟨rfl,e⟩;have g:=g.below e;have o:=o.below e;have f:=btr f e;have n:=btr n e;have m:=btr m e;refine Y2 8 12 ?_ ?_
     ·refine Yk rfl trivial (Vc (Xas _ (p.at i k) (q.at k j)) X4l) (fun _ _ ⟨_,e⟩=>e) ?_;rintro _ eD ⟨rfl,e⟩;have g:=g.below e;have o:=o.below e;have f:=btr f e;have n:=btr n e;have m:=btr m e;refine Yo 9 rfl (fun _=>X7 rfl)<|Yo 10 rfl (fun _=>X1 (vs:=[.agg #[vi ((Za5 p q i k k j).num.a),vi ((Za5 p q i k k j).num.b),vi ((Za5 p q i k k j).num.c),vi ((Za5 p q i k k j).num.d),vi ((Za5 p q i k k j).exp)],.bool ((dMulI (p.at i k) (q.at k j)).isSome)]) rfl rfl)<|Yo 11 rfl (fun _=>X1 (vs:=[.agg #[vi ((Za5 p q i k k j).num.a),vi ((Za5 p q i k k j).num.b),vi ((Za5 p q i k k j).num.c),vi ((Za5 p q i k k j).num.d),vi ((Za5 p q i k k j).exp)],.bool ((dMulI (p.at i k) (q.at k j)).isSome)]) rfl rfl)<|Y1 12 ?_;refine Yk rfl trivial (X3 (zs:=[vi 0,vi 0,vi 0,vi 0,vi 0]) X0n rfl) (fun _ _ ⟨_,_,_,h,_⟩=>h) ?_;rintro _ eE ⟨b21,rfl,Q,e,cW⟩
      have aO:L≠b21:=by have:=g.lt;omega
      have aP:b6≠b21:=by have:=o.lt;omega
      have bR:=Q0 f.size Q;have bS:=Q0 n.size Q;have bU:=Q0 m.size Q;have aQ:=(I.below' f).away Q;have aR:=(J.below' f).away Q;have f:=btr f e;have n:=btr n e;have m:=btr m e;exact fun a t=>bD _ a _ rfl ⟨b21,t.sb,bR,cW,aO,aP,bU,bS,aQ,aR,m⟩
     refine Yk rfl trivial (X3 (zs:=[vi 0,vi 0,vi 0,vi 0,vi 0]) X0n rfl) (fun _ _ ⟨_,_,_,h,_⟩=>h) ?_;rintro _ eF ⟨b22,rfl,U,e,cX⟩
     have aS:L≠b22:=by have:=g.lt;omega
     have aT:b6≠b22:=by have:=o.lt;omega
     have bW:=Q0 f.size U;have bZ:=Q0 n.size U;have cA:=Q0 m.size U;have aU:=(I.below' f).away U;have aW:=(J.below' f).away U;have f:=btr f e;have n:=btr n e;have m:=btr m e;exact fun a t=>bE _ a _ rfl ⟨b22,t.sb,bW,cX,aS,aT,cA,bZ,aU,aW,m⟩
    refine Yk rfl trivial (X3 (zs:=[vi 0,vi 0,vi 0,vi 0,vi 0]) X0n rfl) (fun _ _ ⟨_,_,_,h,_⟩=>h) ?_;rintro _ eH ⟨b23,rfl,W,e,d5⟩
    have aX:L≠b23:=by have:=g.lt;omega
    have aY:b6≠b23:=by have:=o.lt;omega
    have cB:=Q0 f.size W;have cC:=Q0 n.size W;have cD:=Q0 m.size W;have aZ:=(I.below' f).away W;have b0:=(J.below' f).away W;have f:=btr f e;have n:=btr n e;have m:=btr m e;exact fun a t=>bF _ a _ rfl ⟨b23,t.sb,cB,d5,aX,aY,cD,cC,aZ,b0,m⟩
   refine Yk rfl trivial (X3 (zs:=[vi 0,vi 0,vi 0,vi 0,vi 0]) X0n rfl) (fun _ _ ⟨_,_,_,h,_⟩=>h) ?_;rintro _ eI ⟨b24,rfl,aA,e,b1⟩
   have b2:L≠b24:=by have:=g.lt;omega
   have b3:b6≠b24:=by have:=o.lt;omega
   have cE:=Q0 f.size aA;have cF:=Q0 n.size aA;have cG:=Q0 m.size aA;have b5:=(I.below' f).away aA;have b7:=(J.below' f).away aA;have f:=btr f e;have n:=btr n e;have m:=btr m e;refine Y1 3<|Yk rfl trivial (Vc (Xfe _ p Aa ca (I.below' f).top i k bG hi (by omega)) X74) (fun _ _ ⟨_,e⟩=>e) ?_;rintro _ eJ ⟨rfl,e⟩;have b1:=b1.below e;have f:=btr f e;have n:=btr n e;have m:=btr m e;exact fun a t=>bF _ a _ rfl ⟨b24,t.sb,cE,b1,b2,b3,cG,cF,b5,b7,m⟩
  rintro a eK ⟨y,t,aC,B,M,N,e⟩;have u:=u.below e;have x:=x.below e;have g:=g.below e;have o:=o.below e;have f:=btr f e;refine cS _ _<|Zs t fun _ d6=>?_;refine Ze (Vn X6 o)<|Ze (Vn X6 B)<|Zf (Vc (Xqe _ sum (Za5 p q i k k j)) Xca) ?_;rintro _ eM ⟨rfl,e⟩;have u:=u.below e;have x:=x.below e;have g:=g.below e;have o:=o.below e;have B:=B.below e;have f:=btr f e;refine Zm rfl<|Ze (X1 (vs:=[.agg #[vi (((dAddI sum (Za5 p q i k k j)).getD dZ).num.a),vi (((dAddI sum (Za5 p q i k k j)).getD dZ).num.b),vi (((dAddI sum (Za5 p q i k k j)).getD dZ).num.c),vi (((dAddI sum (Za5 p q i k k j)).getD dZ).num.d),vi (((dAddI sum (Za5 p q i k k j)).getD dZ).exp)],.bool ((dAddI sum (Za5 p q i k k j)).isSome)]) rfl rfl)<|Ze (X1 (vs:=[.agg #[vi (((dAddI sum (Za5 p q i k k j)).getD dZ).num.a),vi (((dAddI sum (Za5 p q i k k j)).getD dZ).num.b),vi (((dAddI sum (Za5 p q i k k j)).getD dZ).num.c),vi (((dAddI sum (Za5 p q i k k j)).getD dZ).num.d),vi (((dAddI sum (Za5 p q i k k j)).getD dZ).exp)],.bool ((dAddI sum (Za5 p q i k k j)).isSome)]) rfl rfl)<|Zf (X3 (zs:=[vi 0,vi 0,vi 0,vi 0,vi 0]) X0n rfl) ?_;rintro _ eO ⟨b26,rfl,b8,e,aD⟩
  have d7:L≠b26:=by have:=g.lt;omega
  have d8:b6≠b26:=by have:=o.lt;omega
  have cK:y≠b26:=by have:=B.lt;omega
  have cH:=Q0 f.size b8;have d9:=(I.below' f).away b8;have dA:=(J.below' f).away b8;have u:=u.below e;have x:=x.below e;have g:=g.below e;have o:=o.below e;have f:=btr f e;refine Zo (Vw [vi (((dAddI sum (Za5 p q i k k j)).getD dZ).num.a),vi (((dAddI sum (Za5 p q i k k j)).getD dZ).num.b),vi (((dAddI sum (Za5 p q i k k j)).getD dZ).num.c),vi (((dAddI sum (Za5 p q i k k j)).getD dZ).num.d),vi (((dAddI sum (Za5 p q i k k j)).getD dZ).exp)] Xd aD) ?_;rintro _ dT ⟨D,hb⟩;have z:=aD;have u:=u.only D (Blk.ne u z rfl);have x:=x.only D (Blk.ne x z rfl);have g:=g.only D (by omega);have o:=o.only D (by omega);have f:=Below.only f D cH;have aD:=hb;refine Za rfl<|ZX d6 fun a t _ dB=>?_;refine Q5 fun _ dC=>?_;refine X02 (fun a w=>Fr a 48 [(0,vi (i:Int)),(1,vi (j:Int)),(2,.pointer (some ⟨ba,0,none⟩)),(3,.pointer (some ⟨bb,0,none⟩)),(6,.pointer (some ⟨L,0,none⟩)),(8,.pointer (some ⟨b6,0,none⟩)),(12,.pointer (some ⟨b26,0,none⟩)),(16,vi p.cols),(17,vi (k:Int)),(43,.bool ((!((dMulI (p.at i k) (q.at k j)).isSome))||(!((dAddI sum (Za5 p q i k k j)).isSome))))]∧dT=w) ?_ ?_
  ·refine Zr t<|Zm rfl<|Ze (X0o rfl)<|Zm rfl ?_
   refine Zg 40 rfl (fun A=>?_) (fun A=>?_)
   ·refine Zp (gP A) ?_;refine Zp (gP A) ?_;refine Ze (Xe rfl A rfl) ?_;refine Zn fun a t=>?_;exact ⟨t.sub ⟨rfl,rfl,rfl,rfl,rfl,rfl,rfl,rfl,rfl,X2 rfl (by first|rfl|(simp only [E,A,bs];done)|simp [E,A]),trivial⟩,rfl⟩
   refine Zv (gW A) (X7 rfl) ?_;refine Zv (gW A) (X0o rfl) ?_;refine Ze (Xc rfl A rfl) ?_;refine Zn fun a t=>?_;exact ⟨t.sub ⟨rfl,rfl,rfl,rfl,rfl,rfl,rfl,rfl,rfl,X2 rfl (by first|rfl|(simp only [E,A,bs];done)|simp [E,A]),trivial⟩,rfl⟩
  rintro a _ ⟨t,rfl⟩;refine dC _ _ ?_
  refine Xl t rfl (fun aB=>?_) (fun aB=>?_)
  ·have cJ:=aB;have hn:=X4w aB
   have dU:dotI p q i j (k+1)=none:=by rw [dotI,hs];simp only [Qz];revert hn;unfold Za5;cases dMulI (p.at i k) (q.at k j)<;>simp
   have dW:=X8n dU p.cols.toNat (by omega)
   refine Zs t fun _ dD=>?_;refine Ze (Xg (ps:=[]) (cs:=[vi 0,vi 0,vi 0,vi 0,vi 0]) rfl (fun _=>by first|rfl|kernel_rfl))<|Zo (Vw [vi 0,vi 0,vi 0,vi 0,vi 0] Xd g) ?_;rintro _ eP ⟨D,hb⟩;have z:=g;have f:=Below.only f D b9;have g:=hb;refine Za rfl<|Zt dD fun a t=>?_;refine Q6<|Xf<|X05<|Xf ?_;refine Xf<|X05<|Xf<|X4 t (X0r t rfl (ResV.cellN (l:=[vi 0,vi 0,vi 0,vi 0,vi 0]) rfl X6 (g.at 0) rfl) rfl) ?_;exact ⟨by rw [dW];rfl,f⟩
  have cJ:=aB;have hy:=X5p aB;refine Q7<|dB _ _<|Zr t<|Ze (Vn X6 aD)<|Zo (Vw [vi (((dAddI sum (Za5 p q i k k j)).getD dZ).num.a),vi (((dAddI sum (Za5 p q i k k j)).getD dZ).num.b),vi (((dAddI sum (Za5 p q i k k j)).getD dZ).num.c),vi (((dAddI sum (Za5 p q i k k j)).getD dZ).num.d),vi (((dAddI sum (Za5 p q i k k j)).getD dZ).exp)] Xd o) ?_;rintro _ eQ ⟨D,hb⟩;have z:=o;have u:=u.only D (Blk.ne u z rfl);have x:=x.only D (Blk.ne x z rfl);have g:=g.only D (by omega);have f:=Below.only f D bC;have o:=hb;refine Zn fun a t=>?_;refine Xn<|cQ _ _<|Zr t<|Ze (X03 rfl rfl (by omega) (by omega))<|Zm rfl ?_;refine Zn fun a t=>?_;refine Xo ?_;exact ⟨(k+1,((dAddI sum (Za5 p q i k k j)).getD dZ)),⟨t.sb,(by omega),(by rw [dotI,hs];simp only [Qz];revert hy;unfold Za5;cases dMulI (p.at i k) (q.at k j)<;>simp;intro hy;revert hy;cases dAddI sum _<;>simp),u,x,g,o,f⟩,(by first|omega|(dsimp only;omega))⟩
 have E:=C;have C:=Q1 C
 have cP:k=p.cols.toNat:=by omega
 refine Q9<|Xm<|Xm<|X08 ?_;refine dP _ _<|Zs t fun _ dE=>?_;refine Ze (Vn X6 o)<|Zo (Vw [vi sum.num.a,vi sum.num.b,vi sum.num.c,vi sum.num.d,vi sum.exp] Xd g) ?_;rintro _ eR ⟨D,hb⟩;have z:=g;have f:=Below.only f D b9;have g:=hb;refine Za rfl<|Zt dE fun a t=>?_
 refine Q6 (X4 t (X0r t rfl (ResV.cellN (l:=[vi sum.num.a,vi sum.num.b,vi sum.num.c,vi sum.num.d,vi sum.exp]) rfl X6 (g.at 0) rfl) rfl) ?_)
 exact ⟨by rw [← cP,hs];rfl,f⟩
theorem Xk6(h:World)(p:Mx)(Ap:Option Addr)(cp:Nat)(B:Rd h h.heap.size 53 encD Ap p.cells)(q:Mx)(Aq:Option Addr)(cq:Nat)(C:Rd h h.heap.size 53 encD Aq q.cells)(aH:p.cells.length≤2305843009213693951)(aI:q.cells.length≤2305843009213693951) : Ret Tryz.prog 77 [.agg #[vi p.rows,vi p.cols,.slice Ap p.cells.length cp],.agg #[vi q.rows,vi q.cols,.slice Aq q.cells.length cq]] h (fun v w=>∃ A c,v=.tuple #[mV A c ((mulI p q).getD mZ),.bool (mulI p q).isSome]∧Own w h.heap.size 53 5 encD A c ((mulI p q).getD mZ).cells∧Below h.heap.size h w):=by
 refine enter Tryz.func77 rfl 30 rfl rfl ?_;intro a n
 have f:=bz h
 refine Zs n fun _ aJ=>?_;refine Zf (X0j (zs:=[vi p.rows,vi p.cols,.slice Ap p.cells.length cp]) rfl rfl) ?_;rintro _ w1 ⟨b4,rfl,aK,k,e⟩;have aQ:=Q0 f.size aK;have f:=btr f k;refine Zf (X0j (zs:=[vi q.rows,vi q.cols,.slice Aq q.cells.length cq]) rfl rfl) ?_;rintro _ w2 ⟨b5,rfl,aL,k,g⟩
 have aE:b4≠b5:=by have:=e.lt;omega
 have aR:=Q0 f.size aL;have e:=e.below k;have f:=btr f k;refine Zf (X3 (zs:=[vi 0,vi 0,.slice none 0 0]) X0y rfl) ?_;rintro _ w3 ⟨b7,rfl,aM,k,m⟩
 have aF:b4≠b7:=by have:=e.lt;omega
 have aG:b5≠b7:=by have:=g.lt;omega
 have D:=Q0 f.size aM;have e:=e.below k;have g:=g.below k;have f:=btr f k;refine Za rfl<|ZX aJ fun a n _ aN=>?_;refine Q5 fun _ aO=>?_;refine X02 (fun a w=>Fr a 30 [(2,.pointer (some ⟨b4,0,none⟩)),(3,.pointer (some ⟨b5,0,none⟩)),(4,.pointer (some ⟨b7,0,none⟩)),(20,.bool (((!(mOk p))||(!(mOk q)))||(p.cols != q.rows)))]∧Below w3.heap.size w3 w) ?_ ?_
 ·have u:Below w3.heap.size w3 w3:=Below.refl _ _
  refine Zr n<|Ze (Vn Xr e)<|Zf (Vc (Xct _ p Ap cp (B.below' f).top aH) X55) ?_;rintro _ w4 ⟨rfl,k⟩;have e:=e.below k;have g:=g.below k;have f:=btr f k;have u:=btr u k;refine Ze (X0o rfl)<|Zm rfl ?_
  refine Zg 9 rfl (fun d=>?_) (fun d=>?_)
  ·refine Zp (gP d) ?_;refine Zp (gP d) ?_;refine Zp (gP d) ?_;refine Ze (Xe rfl d rfl)<|Zm rfl<|Zp (gP rfl) ?_;refine Zp (gP rfl) ?_;refine Zp (gP rfl) ?_;refine Zp (gP rfl) ?_;refine Zp (gP rfl) ?_;refine Ze (Xe rfl rfl rfl) ?_;refine Zn fun a n=>?_
   have x:Below w3.heap.size w3 w4:=u
   exact ⟨n.sub ⟨rfl,rfl,rfl,X2 rfl (by first|rfl|(simp only [d,bs];done)|simp [d]),trivial⟩,x⟩
  refine Zv (gW d) (Vn Xr g) ?_;refine Zk (gW d) (Vc (Xct _ q Aq cq (C.below' f).top aI) X55) ?_;rintro _ w5 ⟨rfl,k⟩;have e:=e.below k;have g:=g.below k;have f:=btr f k;have u:=btr u k;refine Zv (gW d) (X0o rfl) ?_;refine Ze (Xc rfl d rfl)<|Zm rfl ?_
  refine Zg 14 rfl (fun b=>?_) (fun b=>?_)
  ·refine Zp (gP b) ?_;refine Zp (gP b) ?_;refine Zp (gP b) ?_;refine Zp (gP b) ?_;refine Zp (gP b) ?_;refine Ze (Xe rfl b rfl) ?_;refine Zn fun a n=>?_
   have x:Below w3.heap.size w3 w5:=u
   exact ⟨n.sub ⟨rfl,rfl,rfl,X2 rfl (by first|rfl|(simp only [d,b,bs];done)|simp [d,b]),trivial⟩,x⟩
  refine Zv (gW b) (Vd rfl X14 1) ?_;refine Zv (gW b) (X0 rfl X9 (e.at 1)) ?_;refine Zv (gW b) (Vd rfl X1c 0) ?_;refine Zv (gW b) (X0 rfl X9 (g.at 0)) ?_;refine Zv (gW b) (X4h rfl rfl) ?_;refine Ze (Xc rfl b rfl) ?_;refine Zn fun a n=>?_
  have x:Below w3.heap.size w3 w5:=u
  exact ⟨n.sub ⟨rfl,rfl,rfl,X2 rfl (by first|rfl|(simp only [d,b,bs];done)|simp [d,b]),trivial⟩,x⟩
 rintro a w6 ⟨n,k⟩;have e:=e.below k;have g:=g.below k;have m:=m.below k;have f:=btr f k;refine aO _ _ ?_
 refine Xl n rfl (fun o=>?_) (fun o=>?_)
 ·have aA:=o
  have hn:(mOk p&&mOk q&&p.cols==q.rows)=false:=by revert o;cases mOk p<;>cases mOk q<;>simp
  refine Zs n fun _ aC=>?_;refine Ze (Xg (ps:=[]) (cs:=[vi 0,vi 0,.slice none 0 0]) rfl (fun _=>by first|rfl|kernel_rfl))<|Zo (Vw [vi 0,vi 0,.slice none 0 0] X0b m) ?_;rintro _ w7 ⟨ho,hb⟩;have E:=m;have f:=Below.only f ho D;have m:=hb;refine Za rfl<|Zt aC fun a n=>?_;refine Q6<|Xf<|X4 n (X0r n rfl (ResV.cellN (l:=[vi 0,vi 0,.slice none 0 0]) rfl Xr (m.at 0) rfl) rfl) ?_;exact ⟨none,0,by rw [mulI,hn];rfl,by rw [mulI,hn];exact (Own.nil _ _ _ _ _),f⟩
 have aA:=o
 have hy:(mOk p&&mOk q&&p.cols==q.rows)=true:=by revert o;cases mOk p<;>cases mOk q<;>simp
 have aB:=Xy2 hy
 have aP:p.cols=q.rows:=by simpa using aB.2.2
 refine Q7<|aN _ _<|Zs n fun _ aD=>?_;refine Ze (Vd rfl X1c 0)<|Ze (X0 rfl X9 (e.at 0))<|Ze (Vd rfl X14 1)<|Ze (X0 rfl X9 (g.at 1))<|Ze (X3z (vs:=[.pointer (some ⟨b4,0,none⟩),.pointer (some ⟨b5,0,none⟩)]) rfl)<|Zf (Vc (Xj9 _ p.rows q.cols 118 [.pointer (some ⟨b4,0,none⟩),.pointer (some ⟨b5,0,none⟩)] Xv7 (fun i j=>dotI p q i j p.cols.toNat) (fun i j w' hi hj hE'=>Xzi w' p q _ _ _ _ _ _ ((B.below' f).below hE').top ((C.below' f).below hE').top (e.below hE') (g.below hE') aB.1 aB.2.1 aP i j hi hj)) X9t) ?_;rintro _ w8 ⟨y,z,rfl,t,k⟩;have t:=t.lower f.size;have m:=m.below k;have f:=btr f k;refine Ze (X1 (vs:=[.agg #[vi (((matOf p.rows q.cols (fun i j=>dotI p q i j p.cols.toNat)).getD mZ).rows),vi (((matOf p.rows q.cols (fun i j=>dotI p q i j p.cols.toNat)).getD mZ).cols),.slice y (((matOf p.rows q.cols (fun i j=>dotI p q i j p.cols.toNat)).getD mZ).cells).length z],.bool ((matOf p.rows q.cols (fun i j=>dotI p q i j p.cols.toNat)).isSome)]) rfl rfl)<|Ze (X1 (vs:=[.agg #[vi (((matOf p.rows q.cols (fun i j=>dotI p q i j p.cols.toNat)).getD mZ).rows),vi (((matOf p.rows q.cols (fun i j=>dotI p q i j p.cols.toNat)).getD mZ).cols),.slice y (((matOf p.rows q.cols (fun i j=>dotI p q i j p.cols.toNat)).getD mZ).cells).length z],.bool ((matOf p.rows q.cols (fun i j=>dotI p q i j p.cols.toNat)).isSome)]) rfl rfl)<|Zo (Vw [vi (((matOf p.rows q.cols (fun i j=>dotI p q i j p.cols.toNat)).getD mZ).rows),vi (((matOf p.rows q.cols (fun i j=>dotI p q i j p.cols.toNat)).getD mZ).cols),.slice y (((matOf p.rows q.cols (fun i j=>dotI p q i j p.cols.toNat)).getD mZ).cells).length z] X0b m) ?_;rintro _ w9 ⟨ho,hb⟩;have E:=m;have t:=t.onlyT ho E rfl;have f:=Below.only f ho D;have m:=hb;refine Za rfl<|Zt aD fun a n=>?_
 refine Q6 (X4 n (X0r n rfl (ResV.cellN (l:=[vi (((matOf p.rows q.cols (fun i j=>dotI p q i j p.cols.toNat)).getD mZ).rows),vi (((matOf p.rows q.cols (fun i j=>dotI p q i j p.cols.toNat)).getD mZ).cols),.slice y (((matOf p.rows q.cols (fun i j=>dotI p q i j p.cols.toNat)).getD mZ).cells).length z]) rfl Xr (m.at 0) rfl) rfl) ?_)
 exact ⟨y,z,by rw [mulI,Q4 hy],by rw [mulI,Q4 hy];exact t,f⟩
theorem Y0e(n:World)(p:Mx)(x:Dy)(Aa:Option Addr)(ca:Nat)(ba bb:Nat)(aA:Rd n n.heap.size 53 encD Aa p.cells)(m:Blk n ba 29 [vi p.rows,vi p.cols,.slice Aa p.cells.length ca])(g:Blk n bb 53 (encD x))(aF:mOk p=true)(i j:Nat)(hi:(i:Int)<p.rows)(hj:(j:Int)<p.cols) : Ret Tryz.prog 46 [vi (i:Int),vi (j:Int),.pointer (some ⟨ba,0,none⟩),.pointer (some ⟨bb,0,none⟩)] n (fun v w=>v=.tuple #[dV ((dMulI (p.at i j) x).getD dZ),.bool (dMulI (p.at i j) x).isSome]∧Below n.heap.size n w):=by
 have aG:=m.lt;have aH:=g.lt
 unfold encD at g
 refine enter Tryz.func46 rfl 16 rfl rfl ?_;intro a hf
 have k:=bz n
 refine Zs hf fun _ aI=>?_;refine Zf (X3 (zs:=[vi 0,vi 0,vi 0,vi 0,vi 0]) X0n rfl) ?_;rintro _ w1 ⟨b3,rfl,aB,f,e⟩
 have aD:bb≠b3:=by have:=g.lt;omega
 have aC:=Q0 k.size aB;have aE:=(aA.below' k).away aB;have m:=m.below f;have g:=g.below f;have k:=btr k f;refine Za rfl<|ZX aI fun a hf _ aJ=>?_;refine Xz none (fun j=>[8].contains j) mixed ?_;intro w2 f;have m:=m.below f;have g:=g.below f;have e:=e.below f;have k:=btr k f;refine Yb hf<|Ye 0 rfl (X09 (l:=[vi p.rows,vi p.cols,.slice Aa p.cells.length ca]) rfl Xr (m.at 0) rfl)<|Yo 1 rfl (fun _=>X7 rfl)<|Yo 2 rfl (fun _=>X7 rfl)<|Ye 4 rfl (X09 (l:=[vi x.num.a,vi x.num.b,vi x.num.c,vi x.num.d,vi x.exp]) rfl X6 (g.at 0) rfl)<|Y1 3 ?_;refine Yk rfl trivial (Vc (Xfe _ p Aa ca (aA.below' k).top i j aF hi hj) X74) (fun _ _ ⟨_,f⟩=>f) ?_;rintro _ w3 ⟨rfl,f⟩;have e:=e.below f;have k:=btr k f;refine Y1 5<|Yk rfl trivial (Vc (Xas _ (p.at i j) x) X4l) (fun _ _ ⟨_,f⟩=>f) ?_;rintro _ w4 ⟨rfl,f⟩;have e:=e.below f;have k:=btr k f;refine Yo 6 rfl (fun _=>X1 (vs:=[.agg #[vi (((dMulI (p.at i j) x).getD dZ).num.a),vi (((dMulI (p.at i j) x).getD dZ).num.b),vi (((dMulI (p.at i j) x).getD dZ).num.c),vi (((dMulI (p.at i j) x).getD dZ).num.d),vi (((dMulI (p.at i j) x).getD dZ).exp)],.bool ((dMulI (p.at i j) x).isSome)]) rfl rfl)<|Yo 7 rfl (fun _=>X1 (vs:=[.agg #[vi (((dMulI (p.at i j) x).getD dZ).num.a),vi (((dMulI (p.at i j) x).getD dZ).num.b),vi (((dMulI (p.at i j) x).getD dZ).num.c),vi (((dMulI (p.at i j) x).getD dZ).num.d),vi (((dMulI (p.at i j) x).getD dZ).exp)],.bool ((dMulI (p.at i j) x).isSome)]) rfl rfl)<|Y1 8 ?_;refine Yh rfl trivial rfl (Vw [vi (((dMulI (p.at i j) x).getD dZ).num.a),vi (((dMulI (p.at i j) x).getD dZ).num.b),vi (((dMulI (p.at i j) x).getD dZ).num.c),vi (((dMulI (p.at i j) x).getD dZ).num.d),vi (((dMulI (p.at i j) x).getD dZ).exp)] Xd e) ?_;rintro _ w5 ⟨ho,hb⟩
 have aK:=e;have k:=Below.only k ho aC;have e:=hb;refine Yo 9 rfl (fun _=>X0i rfl) ?_;refine Yd fun a hf=>?_;refine aJ _ _ ?_
 refine Q6 (X4 hf (X0r hf rfl (ResV.cellN (l:=[vi (((dMulI (p.at i j) x).getD dZ).num.a),vi (((dMulI (p.at i j) x).getD dZ).num.b),vi (((dMulI (p.at i j) x).getD dZ).num.c),vi (((dMulI (p.at i j) x).getD dZ).num.d),vi (((dMulI (p.at i j) x).getD dZ).exp)]) rfl X6 (e.at 0) rfl) rfl) ?_)
 exact ⟨rfl,k⟩
theorem Xu5(w0:World)(p:Mx)(Ap:Option Addr)(cp:Nat)(y:Rd w0 w0.heap.size 53 encD Ap p.cells)(x:Dy)(aI:p.cells.length≤2305843009213693951) : Ret Tryz.prog 19 [.agg #[vi p.rows,vi p.cols,.slice Ap p.cells.length cp],.agg #[vi x.num.a,vi x.num.b,vi x.num.c,vi x.num.d,vi x.exp]] w0 (fun v w=>∃ A c,v=.tuple #[mV A c ((scaleI p x).getD mZ),.bool (scaleI p x).isSome]∧Own w w0.heap.size 53 5 encD A c ((scaleI p x).getD mZ).cells∧Below w0.heap.size w0 w):=by
 refine enter Tryz.func19 rfl 23 rfl rfl ?_;intro a q
 have e:=bz w0
 refine Zs q fun _ aJ=>?_;refine Zf (X0j (zs:=[vi p.rows,vi p.cols,.slice Ap p.cells.length cp]) rfl rfl) ?_;rintro _ w1 ⟨b3,rfl,aK,k,m⟩;have aP:=Q0 e.size aK;have e:=btr e k;refine Zf (X0j (zs:=[vi x.num.a,vi x.num.b,vi x.num.c,vi x.num.d,vi x.exp]) rfl rfl) ?_;rintro _ w2 ⟨b4,rfl,aC,k,o⟩;have aQ:=Q0 e.size aC;have aG:=(y.below' e).away aC;have m:=m.below k;have e:=btr e k;refine Zf (X3 (zs:=[vi 0,vi 0,.slice none 0 0]) X0y rfl) ?_;rintro _ w3 ⟨b6,rfl,aL,k,g⟩
 have aH:b3≠b6:=by have:=m.lt;omega
 have B:=Q0 e.size aL;have m:=m.below k;have o:=o.below k;have e:=btr e k;refine Za rfl<|ZX aJ fun a q _ aM=>?_;refine Q5 fun _ aN=>?_;refine X02 (fun a w=>Fr a 23 [(2,.pointer (some ⟨b3,0,none⟩)),(3,.pointer (some ⟨b4,0,none⟩)),(4,.pointer (some ⟨b6,0,none⟩)),(13,.bool ((!(mOk p))||(!(dOk x))))]∧Below w3.heap.size w3 w) ?_ ?_
 ·have u:Below w3.heap.size w3 w3:=Below.refl _ _
  refine Zr q<|Ze (Vn Xr m)<|Zf (Vc (Xct _ p Ap cp (y.below' e).top aI) X55) ?_;rintro _ w4 ⟨rfl,k⟩;have o:=o.below k;have e:=btr e k;have u:=btr u k;refine Ze (X0o rfl)<|Zm rfl ?_
  refine Zg 9 rfl (fun f=>?_) (fun f=>?_)
  ·refine Zp (gP f) ?_;refine Zp (gP f) ?_;refine Zp (gP f) ?_;refine Ze (Xe rfl f rfl) ?_;refine Zn fun a q=>?_
   have aA:Below w3.heap.size w3 w4:=u
   exact ⟨q.sub ⟨rfl,rfl,rfl,X2 rfl (by first|rfl|(simp only [f,bs];done)|simp [f]),trivial⟩,aA⟩
  refine Zv (gW f) (Vn X6 o) ?_;refine Zk (gW f) (Vc (Xar _ x) X4i) ?_;rintro _ w5 ⟨rfl,k⟩;have e:=btr e k;have u:=btr u k;refine Zv (gW f) (X0o rfl) ?_;refine Ze (Xc rfl f rfl) ?_;refine Zn fun a q=>?_
  have aA:Below w3.heap.size w3 w5:=u
  exact ⟨q.sub ⟨rfl,rfl,rfl,X2 rfl (by first|rfl|(simp only [f,bs];done)|simp [f]),trivial⟩,aA⟩
 rintro a w6 ⟨q,k⟩;have m:=m.below k;have o:=o.below k;have g:=g.below k;have e:=btr e k;refine aN _ _ ?_
 refine Xl q rfl (fun t=>?_) (fun t=>?_)
 ·have aB:=t
  have hn:(mOk p&&dOk x)=false:=by revert t;cases mOk p<;>cases dOk x<;>simp
  refine Zs q fun _ aD=>?_;refine Ze (Xg (ps:=[]) (cs:=[vi 0,vi 0,.slice none 0 0]) rfl (fun _=>by first|rfl|kernel_rfl))<|Zo (Vw [vi 0,vi 0,.slice none 0 0] X0b g) ?_;rintro _ w7 ⟨ho,hb⟩;have C:=g;have e:=Below.only e ho B;have g:=hb;refine Za rfl<|Zt aD fun a q=>?_;refine Q6<|Xf<|X4 q (X0r q rfl (ResV.cellN (l:=[vi 0,vi 0,.slice none 0 0]) rfl Xr (g.at 0) rfl) rfl) ?_;exact ⟨none,0,by rw [scaleI,hn];rfl,by rw [scaleI,hn];exact (Own.nil _ _ _ _ _),e⟩
 have aB:=t
 have hy:(mOk p&&dOk x)=true:=by revert t;cases mOk p<;>cases dOk x<;>simp
 have aO:=(Qd _ _▸hy:mOk p=true∧dOk x=true);refine Q7<|aM _ _<|Zs q fun _ aE=>?_;refine Ze (Vd rfl X1c 0)<|Ze (X0 rfl X9 (m.at 0))<|Ze (Vd rfl X14 1)<|Ze (X0 rfl X9 (m.at 1))<|Ze (X3z (vs:=[.pointer (some ⟨b3,0,none⟩),.pointer (some ⟨b4,0,none⟩)]) rfl)<|Zf (Vc (Xj9 _ p.rows p.cols 46 [.pointer (some ⟨b3,0,none⟩),.pointer (some ⟨b4,0,none⟩)] Xug (fun i j=>dMulI (p.at i j) x) (fun i j w' hi hj hE'=>Y0e w' p x _ _ _ _ ((y.below' e).below hE').top (m.below hE') (o.below hE') aO.1 i j hi hj)) X9t) ?_;rintro _ w8 ⟨z,h,rfl,n,k⟩;have aF:=n.awayNew o.lt;have n:=n.lower e.size;have g:=g.below k;have e:=btr e k;refine Ze (X1 (vs:=[.agg #[vi (((matOf p.rows p.cols (fun i j=>dMulI (p.at i j) x)).getD mZ).rows),vi (((matOf p.rows p.cols (fun i j=>dMulI (p.at i j) x)).getD mZ).cols),.slice z (((matOf p.rows p.cols (fun i j=>dMulI (p.at i j) x)).getD mZ).cells).length h],.bool ((matOf p.rows p.cols (fun i j=>dMulI (p.at i j) x)).isSome)]) rfl rfl)<|Ze (X1 (vs:=[.agg #[vi (((matOf p.rows p.cols (fun i j=>dMulI (p.at i j) x)).getD mZ).rows),vi (((matOf p.rows p.cols (fun i j=>dMulI (p.at i j) x)).getD mZ).cols),.slice z (((matOf p.rows p.cols (fun i j=>dMulI (p.at i j) x)).getD mZ).cells).length h],.bool ((matOf p.rows p.cols (fun i j=>dMulI (p.at i j) x)).isSome)]) rfl rfl)<|Zo (Vw [vi (((matOf p.rows p.cols (fun i j=>dMulI (p.at i j) x)).getD mZ).rows),vi (((matOf p.rows p.cols (fun i j=>dMulI (p.at i j) x)).getD mZ).cols),.slice z (((matOf p.rows p.cols (fun i j=>dMulI (p.at i j) x)).getD mZ).cells).length h] X0b g) ?_;rintro _ w9 ⟨ho,hb⟩;have C:=g;have n:=n.onlyT ho C rfl;have e:=Below.only e ho B;have g:=hb;refine Za rfl<|Zt aE fun a q=>?_
 refine Q6 (X4 q (X0r q rfl (ResV.cellN (l:=[vi (((matOf p.rows p.cols (fun i j=>dMulI (p.at i j) x)).getD mZ).rows),vi (((matOf p.rows p.cols (fun i j=>dMulI (p.at i j) x)).getD mZ).cols),.slice z (((matOf p.rows p.cols (fun i j=>dMulI (p.at i j) x)).getD mZ).cells).length h]) rfl Xr (g.at 0) rfl) rfl) ?_)
 exact ⟨z,h,by rw [scaleI,Q4 hy],by rw [scaleI,Q4 hy];exact n,e⟩
theorem Xvn(o:World)(Ap:Option Addr)(cp:Nat)(p:List Dy)(aF:Rd o o.heap.size 53 encD Ap p)(Aq:Option Addr)(cq:Nat)(q:List Dy)(aG:Rd o o.heap.size 53 encD Aq q)(aX:p.length≤2305843009213693951) : Ret Tryz.prog 63 [.slice Ap p.length cp,.slice Aq q.length cq] o (fun v w=>v=.bool (decide (p=q))∧Below o.heap.size o w):=by
 refine enter Tryz.func63 rfl 26 rfl rfl ?_;intro a e
 have t:=bz o
 refine Zs e fun _ aP=>?_;refine Za rfl<|ZX aP fun a e _ aQ=>?_;refine Zs e fun _ aR=>?_;refine Zm rfl<|Ze (X2k rfl X01)<|Zm rfl<|Ze (X2k rfl X01)<|Ze (X4h rfl rfl)<|Zt aR fun a e=>?_
 refine Xl e rfl (fun j=>?_) (fun j=>?_)
 ·have aH:=j
  have aA:¬ p=q:=by intro h9;rw [h9] at j;simp at j
  refine Zs e fun _ aS=>?_;refine Za rfl<|Zt aS fun a e=>?_;refine Q6<|Xf<|X4 e (Xx e rfl rfl) ?_;exact ⟨by simp [aA],t⟩
 have aH:=j
 have aY:p.length=q.length:=by have h9:(p.length:Int)=q.length:=(by simpa using j);omega
 refine Q7<|aQ _ _<|Q5 fun _ aT=>?_;refine Zs e fun _ aU=>?_;refine Zm rfl<|Ze (X2k rfl X01)<|Zm rfl<|Zt aU fun a e=>?_;refine Q8<|X07 (σ:=Nat) (fun (k:Nat) (a:Act) (w:World)=>Fr a 26 [(0,.slice Ap p.length cp),(1,.slice Aq q.length cq),(12,vi (p.length:Int)),(13,vi (k:Int))]∧(k≤p.length)∧(p.take k=q.take k)∧Below o.heap.size o w) (fun (k:Nat)=>p.length-k) 0 ?_ ?_
 ·exact ⟨e.sb,(Qf _),(by simp),t⟩
 rintro k a w1 ⟨e,hk,m,t⟩;refine Zs e fun _ aI=>?_;refine Ze (X1h rfl rfl)<|ZX aI fun a e _ aJ=>?_
 refine Xl e rfl (fun f=>?_) (fun f=>?_)
 ·have aB:=f;have f:=Q2 f
  obtain ⟨g,n⟩:=Xw (l:=p) (k:=k) (by omega)
  obtain ⟨v9,x⟩:=Xw (l:=q) (k:=k) (by omega)
  refine Q7<|aJ _ _<|Q5 fun _ aK=>?_;refine Q8<|Zs e fun _ aL=>?_;refine Zm rfl<|Za rfl<|ZX aL fun a e _ aM=>?_;refine Xz none (fun _=>false) mixed ?_;intro w2 hE;have t:=btr t hE;refine Yb e<|Yo 0 rfl (fun _=>X7 rfl)<|Yo 1 rfl (fun _=>X7 rfl)<|Yi (k:=k) (u:=g) (enc:=encD) (l:=p) 2 rfl trivial rfl rfl X01 Xd X06 (aF.below' t) n rfl ?_;intro aZ aC;refine Ye 3 rfl (X09 (l:=[vi g.num.a,vi g.num.b,vi g.num.c,vi g.num.d,vi g.exp]) rfl X6 aC rfl)<|Yo 4 rfl (fun _=>X7 rfl)<|Yo 5 rfl (fun _=>X7 rfl)<|Yi (k:=k) (u:=v9) (enc:=encD) (l:=q) 6 rfl trivial rfl rfl X01 Xd X06 (aG.below' t) x rfl ?_;intro b0 aD;refine Ye 7 rfl (X09 (l:=[vi v9.num.a,vi v9.num.b,vi v9.num.c,vi v9.num.d,vi v9.exp]) rfl X6 aD rfl)<|Yo 8 rfl (fun _=>X7w rfl rfl Xaa (fun w=>eqD 9997 g v9 w)) ?_;refine Yd fun a e=>?_;refine aM _ _ ?_
  refine Xl e rfl (fun i=>?_) (fun i=>?_)
  ·have aE:=i
   have aA:¬ p=q:=by rintro rfl;rw [n] at x;injection x with e9;revert i;simp [e9]
   refine Zs e fun _ aN=>?_;refine Za rfl<|Zt aN fun a e=>?_;refine Q6<|X05<|Xf<|Xf ?_;refine X05<|Xf<|X4 e (Xx e rfl rfl) ?_;exact ⟨by simp [aA],t⟩
  have aE:=i
  have aW:g=v9:=by revert i;simp
  refine Q7<|Xn<|aK _ _<|Zr e ?_;refine Ze (X03 rfl rfl (by omega) (by omega))<|Zm rfl ?_;refine Zn fun a e=>?_;refine Xo ?_;exact ⟨k+1,⟨e.sb,(by omega),(Xd3 m n x aW),t⟩,(by omega)⟩
 have aB:=f;have f:=Q1 f;refine Q9<|Xm<|Xm<|X08 ?_;refine aT _ _<|Zs e fun _ aO=>?_;refine Za rfl<|Zt aO fun a e=>?_
 refine Q6 (X4 e (Xx e rfl rfl) ?_)
 have he:p=q:=by rw [Qi (by omega),Qi (by omega)] at m;exact m
 exact ⟨by simp [he],t⟩
theorem Xw0(k:World)(p:Mx)(Ap:Option Addr)(cp:Nat)(aB:Rd k k.heap.size 53 encD Ap p.cells)(q:Mx)(Aq:Option Addr)(cq:Nat)(aC:Rd k k.heap.size 53 encD Aq q.cells)(aK:p.cells.length≤2305843009213693951) : Ret Tryz.prog 64 [.agg #[vi p.rows,vi p.cols,.slice Ap p.cells.length cp],.agg #[vi q.rows,vi q.cols,.slice Aq q.cells.length cq]] k (fun v w=>v=.bool (decide (p.rows=q.rows)&&decide (p.cols=q.cols)&&decide (p.cells=q.cells))∧Below k.heap.size k w):=by
 refine enter Tryz.func64 rfl 24 rfl rfl ?_;intro a f
 have d:=bz k
 refine Zs f fun _ aE=>?_;refine Zf (X0j (zs:=[vi p.rows,vi p.cols,.slice Ap p.cells.length cp]) rfl rfl) ?_;rintro _ w1 ⟨b4,rfl,aF,j,e⟩;have aI:=Q0 d.size aF;have d:=btr d j;refine Zf (X0j (zs:=[vi q.rows,vi q.cols,.slice Aq q.cells.length cq]) rfl rfl) ?_;rintro _ w2 ⟨b5,rfl,aG,j,aA⟩
 have aD:b4≠b5:=by have:=e.lt;omega
 have aJ:=Q0 d.size aG;have e:=e.below j;have d:=btr d j;refine Za rfl<|ZX aE fun a f _ aH=>?_;refine X02 (fun a w=>Fr a 24 [(4,.bool (((p.rows==q.rows)&&(p.cols==q.cols))&&(decide (p.cells=q.cells))))]∧Below w2.heap.size w2 w) ?_ ?_
 ·have g:Below w2.heap.size w2 w2:=Below.refl _ _
  refine Zr f<|Ze (Vd rfl X1c 0)<|Ze (X0 rfl X9 (e.at 0))<|Ze (Vd rfl X1c 0)<|Ze (X0 rfl X9 (aA.at 0))<|Ze (X1b rfl rfl)<|Zm rfl ?_
  refine Zg 10 rfl (fun b=>?_) (fun b=>?_)
  ·refine Zv (gW b) (Vd rfl X14 1) ?_;refine Zv (gW b) (X0 rfl X9 (e.at 1)) ?_;refine Zv (gW b) (Vd rfl X14 1) ?_;refine Zv (gW b) (X0 rfl X9 (aA.at 1)) ?_;refine Zv (gW b) (X1b rfl rfl) ?_;refine Ze (Xe rfl b rfl)<|Zm rfl ?_
   refine Zg 17 rfl (fun c=>?_) (fun c=>?_)
   ·refine Zv (gW c) (Vd rfl X11 2) ?_;refine Zv (gW c) (X0 rfl X0p (e.at 2)) ?_;refine Zv (gW c) (Vd rfl X11 2) ?_;refine Zv (gW c) (X0 rfl X0p (aA.at 2)) ?_;refine Zk (gW c) (Vc (Xvn _ Ap cp p.cells (aB.below' d).top Aq cq q.cells (aC.below' d).top (by assumption)) Xfn) ?_;rintro _ w3 ⟨rfl,j⟩;have d:=btr d j;have g:=btr g j;refine Ze (Xe rfl c rfl)<|Za rfl ?_;refine Zn fun a f=>?_
    have i:Below w2.heap.size w2 w3:=g
    exact ⟨f.sub ⟨X2 rfl (by first|rfl|(simp only [b,c,bs];done)|simp [b,c]),trivial⟩,i⟩
   refine Zp (gP c) ?_;refine Zp (gP c) ?_;refine Zp (gP c) ?_;refine Zp (gP c) ?_;refine Zp (gP c) ?_;refine Ze (Xc rfl c rfl)<|Za rfl ?_;refine Zn fun a f=>?_
   have i:Below w2.heap.size w2 w2:=g
   exact ⟨f.sub ⟨X2 rfl (by first|rfl|(simp only [b,c,bs];done)|simp [b,c]),trivial⟩,i⟩
  refine Zp (gP b) ?_;refine Zp (gP b) ?_;refine Zp (gP b) ?_;refine Zp (gP b) ?_;refine Zp (gP b) ?_;refine Ze (Xc rfl b rfl)<|Zm rfl<|Zp (gP rfl) ?_;refine Zp (gP rfl) ?_;refine Zp (gP rfl) ?_;refine Zp (gP rfl) ?_;refine Zp (gP rfl) ?_;refine Ze (Xc rfl rfl rfl)<|Za rfl ?_;refine Zn fun a f=>?_
  have i:Below w2.heap.size w2 w2:=g
  exact ⟨f.sub ⟨X2 rfl (by first|rfl|(simp only [b,bs];done)|simp [b]),trivial⟩,i⟩
 rintro a w4 ⟨f,j⟩;have d:=btr d j;refine aH _ _ ?_
 refine Q6 (X4 f (Xx f rfl rfl) ?_)
 exact ⟨rfl,d⟩
theorem Xxd(w0:World)(n:Int)(x:Gt) : Ret Tryz.prog 73 [vi n,.agg #[vi x.k,vi x.a,vi x.b]] w0 (fun v w=>v=.bool (gOk n x)∧Below w0.heap.size w0 w):=by
 refine enter Tryz.func73 rfl 60 rfl rfl ?_;intro a i
 have hW:=bz w0
 refine Zs i fun _ aF=>?_;refine Zf (X0j (zs:=[vi x.k,vi x.a,vi x.b]) rfl rfl) ?_;rintro _ w1 ⟨b2,rfl,aG,hE,o⟩;have aM:=Q0 hW.size aG;have hW:=btr hW hE;refine Za rfl<|ZX aF fun a i _ aH=>?_;refine Q8<|Q5 fun _ aI=>?_;refine X02 (fun a w=>Fr a 60 [(0,vi n),(3,.pointer (some ⟨b2,0,none⟩)),(5,.bool ((!(inR n 1 5))||(!(inR x.k 1 12))))]∧w1=w) ?_ ?_
 ·refine Zr i<|Zm rfl<|Zf (Vc (F91 _ n 1 5) X36) ?_;rintro _ _ ⟨rfl,rfl⟩;refine Ze (X0o rfl)<|Zm rfl ?_
  refine Zg 9 rfl (fun m=>?_) (fun m=>?_)
  ·refine Zp (gP m) ?_;refine Zp (gP m) ?_;refine Zp (gP m) ?_;refine Zp (gP m) ?_;refine Ze (Xe rfl m rfl)<|Za rfl ?_;refine Zn fun a i=>?_;exact ⟨i.sub ⟨rfl,rfl,X2 rfl (by first|rfl|(simp only [m,bs];done)|simp [m]),trivial⟩,rfl⟩
  refine Zv (gW m) (Vd rfl X2i 0) ?_;refine Zv (gW m) (X0 rfl X9 (o.at 0)) ?_;refine Zk (gW m) (Vc (F91 _ x.k 1 12) X36) ?_;rintro _ _ ⟨rfl,rfl⟩;refine Zv (gW m) (X0o rfl) ?_;refine Ze (Xc rfl m rfl)<|Za rfl ?_;refine Zn fun a i=>?_;exact ⟨i.sub ⟨rfl,rfl,X2 rfl (by first|rfl|(simp only [m,bs];done)|simp [m]),trivial⟩,rfl⟩
 rintro a _ ⟨i,rfl⟩;refine aI _ _ ?_
 refine Xl i rfl (fun q=>?_) (fun q=>?_)
 ·have e:=q;have hn:=X4w q;refine Zs i fun _ aJ=>?_;refine Za rfl<|Zt aJ fun a i=>?_;refine Q6<|X05<|Xf<|X4 i (Xx i rfl rfl) ?_;exact ⟨by rw [gOk,hn];rfl,hW⟩
 have e:=q;have hy:=X5p q;have aK:=(Qd _ _▸hy:inR n 1 5=true∧inR x.k 1 12=true);have aN:=X0g.1 aK.1;refine Zs i fun _ aL=>?_;refine Ze (Vd rfl X2i 0)<|Ze (X0 rfl X9 (o.at 0))<|Ze (X1b rfl rfl)<|Za rfl<|Zt aL fun a i=>?_
 refine Xl i rfl (fun t=>?_) (fun t=>?_)
 ·have f:=t
  have hk:x.k=12:=by simpa using t
  refine Q5 fun _ aB=>?_;refine X02 (fun a w=>Fr a 60 [(4,.bool ((x.a==0)&&(x.b==0)))]∧w1=w) ?_ ?_
  ·refine Zr i<|Ze (Vd rfl X1l 1)<|Ze (X0 rfl X9 (o.at 1))<|Ze (X1b rfl rfl)<|Zm rfl ?_
   refine Zg 22 rfl (fun j=>?_) (fun j=>?_)
   ·refine Zv (gW j) (Vd rfl X27 2) ?_;refine Zv (gW j) (X0 rfl X9 (o.at 2)) ?_;refine Zv (gW j) (X1b rfl rfl) ?_;refine Ze (Xe rfl j rfl)<|Za rfl ?_;refine Zn fun a i=>?_;exact ⟨i.sub ⟨X2 rfl (by first|rfl|(simp only [e,f,j,bs];done)|simp [e,f,j]),trivial⟩,rfl⟩
   refine Zp (gP j) ?_;refine Zp (gP j) ?_;refine Zp (gP j) ?_;refine Ze (Xc rfl j rfl)<|Za rfl ?_;refine Zn fun a i=>?_;exact ⟨i.sub ⟨X2 rfl (by first|rfl|(simp only [e,f,j,bs];done)|simp [e,f,j]),trivial⟩,rfl⟩
  rintro a _ ⟨i,rfl⟩;refine aB _ _<|Q6<|X05<|Xf ?_;refine X4 i (Xx i rfl rfl) ?_;exact ⟨by rw [gOk,hy,Q4 hk,Qw],hW⟩
 have f:=t
 have hk:¬ x.k=12:=by simpa using t
 refine Zs i fun _ aC=>?_;refine Ze (Vd rfl X2i 0)<|Ze (X0 rfl X9 (o.at 0))<|Zf (Vc (F99 _ x.k) Xrv) ?_;rintro _ _ ⟨rfl,rfl⟩;refine Za rfl<|Zt aC fun a i=>?_
 refine Xl i rfl (fun p=>?_) (fun p=>?_)
 ·have g:=p;have aA:=p;refine Q5 fun _ aD=>?_;refine X02 (fun a w=>Fr a 60 [(4,.bool (((inR x.a 0 (n-1))&&(inR x.b 0 (n-1)))&&(x.a != x.b)))]∧w1=w) ?_ ?_
  ·refine Zr i<|Ze (Vd rfl X1l 1)<|Ze (X0 rfl X9 (o.at 1))<|Zm rfl<|Ze (X1m rfl rfl (by omega) (by omega))<|Zf (Vc (F91 _ x.a 0 (n-1)) X36) ?_;rintro _ _ ⟨rfl,rfl⟩;refine Zm rfl ?_
   refine Zg 36 rfl (fun c=>?_) (fun c=>?_)
   ·refine Zv (gW c) (Vd rfl X27 2) ?_;refine Zv (gW c) (X0 rfl X9 (o.at 2)) ?_;refine Zv (gW c) (X7 rfl) ?_;refine Zv (gW c) (X1m rfl rfl (by omega) (by omega)) ?_;refine Zk (gW c) (Vc (F91 _ x.b 0 (n-1)) X36) ?_;rintro _ _ ⟨rfl,rfl⟩;refine Ze (Xe rfl c rfl)<|Zm rfl ?_
    refine Zg 43 rfl (fun d=>?_) (fun d=>?_)
    ·refine Zv (gW d) (Vd rfl X1l 1) ?_;refine Zv (gW d) (X0 rfl X9 (o.at 1)) ?_;refine Zv (gW d) (Vd rfl X27 2) ?_;refine Zv (gW d) (X0 rfl X9 (o.at 2)) ?_;refine Zv (gW d) (X4h rfl rfl) ?_;refine Ze (Xe rfl d rfl)<|Za rfl ?_;refine Zn fun a i=>?_;exact ⟨i.sub ⟨X2 rfl (by first|rfl|(simp only [e,f,g,c,d,bs];done)|simp [e,f,g,c,d]),trivial⟩,rfl⟩
    refine Zp (gP d) ?_;refine Zp (gP d) ?_;refine Zp (gP d) ?_;refine Zp (gP d) ?_;refine Zp (gP d) ?_;refine Ze (Xc rfl d rfl)<|Za rfl ?_;refine Zn fun a i=>?_;exact ⟨i.sub ⟨X2 rfl (by first|rfl|(simp only [e,f,g,c,d,bs];done)|simp [e,f,g,c,d]),trivial⟩,rfl⟩
   refine Zp (gP c) ?_;refine Zp (gP c) ?_;refine Zp (gP c) ?_;refine Zp (gP c) ?_;refine Zp (gP c) ?_;refine Ze (Xc rfl c rfl)<|Zm rfl<|Zp (gP rfl) ?_;refine Zp (gP rfl) ?_;refine Zp (gP rfl) ?_;refine Zp (gP rfl) ?_;refine Zp (gP rfl) ?_;refine Ze (Xc rfl rfl rfl)<|Za rfl ?_;refine Zn fun a i=>?_;exact ⟨i.sub ⟨X2 rfl (by first|rfl|(simp only [e,f,g,c,bs];done)|simp [e,f,g,c]),trivial⟩,rfl⟩
  rintro a _ ⟨i,rfl⟩;refine aD _ _<|Q6<|X05<|Xf ?_;refine X4 i (Xx i rfl rfl) ?_;exact ⟨by rw [gOk,hy,Q3 hk,Q4 aA,Qw],hW⟩
 have g:=p
 have aA:¬ inR x.k 9 11=true:=by rw [p];simp
 refine Q7<|Xn<|aH _ _<|Q5 fun _ aE=>?_;refine X02 (fun a w=>Fr a 60 [(4,.bool ((inR x.a 0 (n-1))&&(x.b==0)))]∧w1=w) ?_ ?_
 ·refine Zr i<|Ze (Vd rfl X1l 1)<|Ze (X0 rfl X9 (o.at 1))<|Zm rfl<|Ze (X1m rfl rfl (by omega) (by omega))<|Zf (Vc (F91 _ x.a 0 (n-1)) X36) ?_;rintro _ _ ⟨rfl,rfl⟩;refine Zm rfl ?_
  refine Zg 55 rfl (fun l=>?_) (fun l=>?_)
  ·refine Zv (gW l) (Vd rfl X27 2) ?_;refine Zv (gW l) (X0 rfl X9 (o.at 2)) ?_;refine Zv (gW l) (X1b rfl rfl) ?_;refine Ze (Xe rfl l rfl)<|Za rfl ?_;refine Zn fun a i=>?_;exact ⟨i.sub ⟨X2 rfl (by first|rfl|(simp only [e,f,g,l,bs];done)|simp [e,f,g,l]),trivial⟩,rfl⟩
  refine Zp (gP l) ?_;refine Zp (gP l) ?_;refine Zp (gP l) ?_;refine Ze (Xc rfl l rfl)<|Za rfl ?_;refine Zn fun a i=>?_;exact ⟨i.sub ⟨X2 rfl (by first|rfl|(simp only [e,f,g,l,bs];done)|simp [e,f,g,l]),trivial⟩,rfl⟩
 rintro a _ ⟨i,rfl⟩;refine aE _ _ ?_
 refine Q6 (X4 i (Xx i rfl rfl) ?_)
 exact ⟨by rw [gOk,hy,Q3 hk,Q3 aA,Qw],hW⟩
theorem Y0h(f:World)(Al:Option Addr)(cl:Nat)(l:List Gt)(aE:Rd f f.heap.size 103 encG Al l)(kq:FuncId)(pq:List Value)(Fq:FuncF Tryz.prog kq)(q:Gt→Bool)(hq:∀ x w,Below f.heap.size f w→Ret Tryz.prog kq ([gV x]++pq) w (fun v w'=>v=.bool (q x)∧Below w.heap.size w w'))(aR:l.length≤2305843009213693951) : Ret Tryz.prog 111 [.slice Al l.length cl,.func (.func kq) #[] pq.toArray] f (fun v w=>∃ i:Int,v=vi i∧decide (0≤i)=l.any q∧Below f.heap.size f w):=by
 refine enter Tryz.func111 rfl 19 rfl rfl ?_;intro a c
 have j:=bz f
 refine Zs c fun _ aK=>?_;refine Za rfl<|ZX aK fun a c _ aL=>?_;refine Zs c fun _ aM=>?_;refine Zm rfl<|Ze (X2k rfl X1p)<|Zm rfl<|Zt aM fun a c=>?_;refine Q8<|X07 (σ:=Nat) (fun (k:Nat) (a:Act) (w:World)=>Fr a 19 [(0,.slice Al l.length cl),(1,.func (.func kq) #[] pq.toArray),(7,vi (l.length:Int)),(8,vi (k:Int))]∧(k≤l.length)∧((l.take k).all (fun x=>!q x)=true)∧Below f.heap.size f w) (fun (k:Nat)=>l.length+1-k) 0 ?_ ?_
 ·exact ⟨c.sb,(Qf _),(by simp),j⟩
 rintro k a w1 ⟨c,hk,m,j⟩;refine Zs c fun _ aN=>?_;refine Ze (X1h rfl rfl)<|ZX aN fun a c _ aO=>?_
 refine Xl c rfl (fun e=>?_) (fun e=>?_)
 ·have aF:=e;have e:=Q2 e
  obtain ⟨g,aA⟩:=Xw (l:=l) (k:=k) (by omega)
  refine Q7<|aO _ _<|Q5 fun _ aP=>?_;refine Q8<|Zs c fun _ aG=>?_;refine Zm rfl<|Za rfl<|Zx aG fun a c _ aH=>?_;refine Zm rfl<|Zm rfl<|Zm rfl<|Zi (k:=k) (u:=g) (enc:=encG) (l:=l) trivial rfl rfl X1p Xdg X1a (aE.below' j) aA rfl ?_;intro aS aB;refine Ze (X09 (l:=[vi g.k,vi g.a,vi g.b]) rfl X61 aB rfl)<|Zf (X64 (cs:=pq) (vs:=[.agg #[vi g.k,vi g.a,vi g.b]]) rfl rfl Fq (hq g _ j)) ?_;rintro _ w2 ⟨rfl,hE⟩;have j:=btr j hE;refine Zt aH fun a c=>?_
  refine Xl c rfl (fun d=>?_) (fun d=>?_)
  ·have aC:=d
   have aD:l.any q=true:=Xab aA d
   refine Zs c fun _ aI=>?_;refine Zm rfl<|Za rfl<|Zt aI fun a c=>?_;refine Q6<|X05<|Xf<|Xf ?_;refine X05<|Xf<|X4 c (Xx c rfl rfl) ?_;exact ⟨_,rfl,by rw [aD];simp,j⟩
  have aC:=d
  have aQ:(!q g)=true:=by revert d;cases q g<;>simp
  refine Q7<|Xn<|aP _ _<|Zr c ?_;refine Ze (X03 rfl rfl (by omega) (by omega))<|Zm rfl ?_;refine Zn fun a c=>?_;refine Xo ?_;exact ⟨k+1,⟨c.sb,(by omega),(X66 m aA aQ),j⟩,(by omega)⟩
 have aF:=e;have e:=Q1 e;refine Q9<|Xm<|Xm<|X08 ?_;refine aL _ _<|Zs c fun _ aJ=>?_;refine Za rfl<|Zt aJ fun a c=>?_
 refine Q6 (X4 c (Xx c rfl rfl) ?_)
 have aD:l.any q=false:=X8e (X4m m (by omega))
 exact ⟨_,rfl,by rw [aD];rfl,j⟩
theorem Xzs(b:World)(Al:Option Addr)(cl:Nat)(l:List Gt)(aA:Rd b b.heap.size 103 encG Al l)(kq:FuncId)(pq:List Value)(Fq:FuncF Tryz.prog kq)(q:Gt→Bool)(hq:∀ x w,Below b.heap.size b w→Ret Tryz.prog kq ([gV x]++pq) w (fun v w'=>v=.bool (q x)∧Below w.heap.size w w'))(aB:l.length≤2305843009213693951) : Ret Tryz.prog 71 [.slice Al l.length cl,.func (.func kq) #[] pq.toArray] b (fun v w=>v=.bool (l.any q)∧Below b.heap.size b w):=by
 refine enter Tryz.func71 rfl 9 rfl rfl ?_;intro a hf
 have hW:=bz b
 refine Zs hf fun _ aC=>?_;refine Za rfl<|Zx aC fun a hf _ aD=>?_;refine Zm rfl<|Zm rfl<|Zf (Vc (Y0h _ Al cl l (aA.below' hW).top kq pq Fq q (fun x w' hE'=>hq x w' (hW.trans (hE'.mono hW.size))) aB) Xu6) ?_;rintro _ w1 ⟨ix,rfl,aE,hE⟩;have hW:=btr hW hE;refine Ze (Xdd rfl rfl)<|Za rfl<|Zt aD fun a hf=>?_
 refine Q6 (X4 hf (Xx hf rfl rfl) ?_)
 exact ⟨by rw [← aE],hW⟩
theorem Y0k(w0:World)(x:Gt)(n:Int)(ba:Nat)(v1:Value)(c:Blk w0 ba 48 [vi n,v1]) : Ret Tryz.prog 72 [.agg #[vi x.k,vi x.a,vi x.b],.pointer (some ⟨ba,0,none⟩)] w0 (fun v w=>v=.bool (!gOk n x)∧Below w0.heap.size w0 w):=by
 have aA:=c.lt;refine enter Tryz.func72 rfl 9 rfl rfl ?_;intro a hf
 have hW:=bz w0
 refine Zs hf fun _ aB=>?_;refine Zf (X0j (zs:=[vi x.k,vi x.a,vi x.b]) rfl rfl) ?_;rintro _ w1 ⟨b2,rfl,aC,hE,aD⟩;have aF:=Q0 hW.size aC;have c:=c.below hE;have hW:=btr hW hE;refine Za rfl<|Zx aB fun a hf _ aE=>?_;refine Ze (Vd rfl X6h 0)<|Ze (X0 rfl X9 (c.at 0))<|Ze (Vn X61 aD)<|Zf (Vc (Xxd _ n x) Xmf) ?_;rintro _ w2 ⟨rfl,hE⟩;have hW:=btr hW hE;refine Ze (X0o rfl)<|Za rfl<|Zt aE fun a hf=>?_
 refine Q6 (X4 hf (Xx hf rfl rfl) ?_)
 exact ⟨rfl,hW⟩
theorem F55(w0:World)(c:Cx)(Ac:Option Addr)(cc:Nat)(aA:Rd w0 w0.heap.size 103 encG Ac c.gs)(aB:c.gs.length≤2305843009213693951) : Ret Tryz.prog 38 [.agg #[vi c.n,.slice Ac c.gs.length cc]] w0 (fun v w=>v=.bool (cOk c)∧Below w0.heap.size w0 w):=by
 refine enter Tryz.func38 rfl 19 rfl rfl ?_;intro a e
 have i:=bz w0
 refine Zs e fun _ aC=>?_;refine Zf (X0j (zs:=[vi c.n,.slice Ac c.gs.length cc]) rfl rfl) ?_;rintro _ w1 ⟨b3,rfl,aD,hE,j⟩;have aF:=Q0 i.size aD;have i:=btr i hE;refine Za rfl<|ZX aC fun a e _ aE=>?_;refine X02 (fun a w=>Fr a 19 [(2,.bool (((inR c.n 1 5)&&(decide ((c.gs.length:Int)≤400)))&&(!(c.gs.any (fun x=>!gOk c.n x)))))]∧Below w1.heap.size w1 w) ?_ ?_
 ·have f:Below w1.heap.size w1 w1:=Below.refl _ _
  refine Zr e<|Ze (Vd rfl X6h 0)<|Ze (X0 rfl X9 (j.at 0))<|Zf (Vc (F91 _ c.n 1 5) X36) ?_;rintro _ _ ⟨rfl,rfl⟩;refine Zm rfl ?_
  refine Zg 6 rfl (fun b=>?_) (fun b=>?_)
  ·refine Zv (gW b) (Vd rfl X1x 1) ?_;refine Zv (gW b) (X0 rfl X6b (j.at 1)) ?_;refine Zv (gW b) (X2k rfl X1p) ?_;refine Zv (gW b) (Xat rfl rfl) ?_;refine Ze (Xe rfl b rfl)<|Zm rfl ?_
   refine Zg 12 rfl (fun d=>?_) (fun d=>?_)
   ·refine Zv (gW d) (Vd rfl X1x 1) ?_;refine Zv (gW d) (X0 rfl X6b (j.at 1)) ?_;refine Zv (gW d) (X3z (vs:=[.pointer (some ⟨b3,0,none⟩)]) rfl) ?_;refine Zk (gW d) (Vc (Xzs _ Ac cc c.gs (aA.below' i).top 72 [.pointer (some ⟨b3,0,none⟩)] Xt8 (fun x=>!gOk c.n x) (fun x w' hE'=>Y0k w' x c.n _ _ (j.below hE')) aB) Xsb) ?_;rintro _ w2 ⟨rfl,hE⟩;have i:=btr i hE;have f:=btr f hE;refine Zv (gW d) (X0o rfl) ?_;refine Ze (Xe rfl d rfl)<|Za rfl ?_;refine Zn fun a e=>?_
    have g:Below w1.heap.size w1 w2:=f
    exact ⟨e.sub ⟨X2 rfl (by first|rfl|(simp only [b,d,bs];done)|simp [b,d]),trivial⟩,g⟩
   refine Zp (gP d) ?_;refine Zp (gP d) ?_;refine Zp (gP d) ?_;refine Zp (gP d) ?_;refine Zp (gP d) ?_;refine Ze (Xc rfl d rfl)<|Za rfl ?_;refine Zn fun a e=>?_
   have g:Below w1.heap.size w1 w1:=f
   exact ⟨e.sub ⟨X2 rfl (by first|rfl|(simp only [b,d,bs];done)|simp [b,d]),trivial⟩,g⟩
  refine Zp (gP b) ?_;refine Zp (gP b) ?_;refine Zp (gP b) ?_;refine Zp (gP b) ?_;refine Ze (Xc rfl b rfl)<|Zm rfl<|Zp (gP rfl) ?_;refine Zp (gP rfl) ?_;refine Zp (gP rfl) ?_;refine Zp (gP rfl) ?_;refine Zp (gP rfl) ?_;refine Ze (Xc rfl rfl rfl)<|Za rfl ?_;refine Zn fun a e=>?_
  have g:Below w1.heap.size w1 w1:=f
  exact ⟨e.sub ⟨X2 rfl (by first|rfl|(simp only [b,bs];done)|simp [b]),trivial⟩,g⟩
 rintro a w3 ⟨e,hE⟩;have i:=btr i hE;refine aE _ _ ?_
 refine Q6 (X4 e (Xx e rfl rfl) ?_)
 exact ⟨by simp [cOk, *],i⟩
theorem Xoh(w0:World)(bV:Nat)(f:Bool)(e:Blk w0 bV 97 [.bool f])(x:Rg) : Ret Tryz.prog 148 [.pointer (some ⟨bV,0,none⟩),.agg #[vi x.a,vi x.b,vi x.c,vi x.d]] w0 (fun v w=>v=rV (sRing x)∧Kept bV w0.heap.size w0 w∧Blk w bV 97 [.bool (f||!rOk x)]):=by
 have aK:=e.lt;refine enter Tryz.func148 rfl 13 rfl rfl ?_;intro a n
 have k:Kept bV w0.heap.size w0 w0:=Kept.refl _ _ _
 refine Zs n fun _ aC=>?_;refine Zf (X0j (zs:=[vi x.a,vi x.b,vi x.c,vi x.d]) rfl rfl) ?_;rintro _ w1 ⟨b2,rfl,aD,o,m⟩;have aL:=Q0 k.size aD;have e:=e.below o;have k:=ktr k o;refine Zf (X3 (zs:=[vi 0,vi 0,vi 0,vi 0]) X1y rfl) ?_;rintro _ w2 ⟨b3,rfl,aE,o,g⟩
 have aB:b2≠b3:=by have:=m.lt;omega
 have q:=Q0 k.size aE;have e:=e.below o;have m:=m.below o;have k:=ktr k o;refine ZX aC fun a n _ aF=>?_;refine Zs n fun _ aG=>?_;refine Ze (Vn Xv m)<|Zf (Vc (Y0q _ x) Xsw) ?_;rintro _ w3 ⟨rfl,o⟩;have e:=e.below o;have m:=m.below o;have g:=g.below o;have k:=ktr k o;refine Ze (X0o rfl)<|Zt aG fun a n=>?_
 refine Xl n rfl (fun p=>?_) (fun p=>?_)
 ·have aA:=p
  have j:rOk x=false:=by revert p;cases rOk x<;>simp
  refine Zs n fun _ aH=>?_;refine Zm rfl<|Ze (X48 rfl)<|Ze (Vd rfl X5x 0)<|Zo (X5q (vs:=[.bool true]) (l':=[.bool true]) rfl rfl Xw6 e rfl rfl rfl rfl rfl) ?_;rintro _ w4 ⟨j,t⟩;have i:=e;have g:=g.only j (Blk.ne g i rfl);have k:=k.self j;clear i;have e:=t;clear t j;refine Zx aH fun a n _ aI=>?_;refine Ze (Xg (ps:=[]) (cs:=[vi 0,vi 0,vi 0,vi 0]) rfl (fun _=>by first|rfl|kernel_rfl))<|Zo (Vw [vi 0,vi 0,vi 0,vi 0] X0w g) ?_;rintro _ w5 ⟨j,t⟩;have i:=g;have e:=e.only j (Blk.ne e i rfl);have k:=Kept.only k j q;clear i;have g:=t;clear t j;refine Zt aI fun a n=>?_;refine Q6<|Xf<|X4 n (Xx n rfl (ResV.cellN (l:=[vi 0,vi 0,vi 0,vi 0]) rfl Xv (g.at 0) rfl)) ?_;exact ⟨by simp [sRing,j],k,by simpa [j] using e⟩
 have aA:=p
 have j:rOk x=true:=by revert p;cases rOk x<;>simp
 refine Q7<|aF _ _<|Zs n fun _ aJ=>?_;refine Ze (Vn Xv m)<|Zo (Vw [vi x.a,vi x.b,vi x.c,vi x.d] X0w g) ?_;rintro _ w6 ⟨j,t⟩;have i:=g;have e:=e.only j (Blk.ne e i rfl);have k:=Kept.only k j q;clear i;have g:=t;clear t j;refine Zt aJ fun a n=>?_
 refine Q6 (X4 n (Xx n rfl (ResV.cellN (l:=[vi x.a,vi x.b,vi x.c,vi x.d]) rfl Xv (g.at 0) rfl)) ?_)
 exact ⟨by simp [sRing,j],k,by simpa [j] using e⟩
theorem Xwq(w0:World)(bV:Nat)(f:Bool)(e:Blk w0 bV 97 [.bool f])(x:Dy)(y:Dy)(hx:0≤x.exp∧x.exp≤60)(hy:0≤y.exp∧y.exp≤60) : Ret Tryz.prog 124 [.pointer (some ⟨bV,0,none⟩),.agg #[vi x.num.a,vi x.num.b,vi x.num.c,vi x.num.d,vi x.exp],.agg #[vi y.num.a,vi y.num.b,vi y.num.c,vi y.num.d,vi y.exp]] w0 (fun v w=>v=dV ((sMul f x y).2)∧Kept bV w0.heap.size w0 w∧Blk w bV 97 [.bool ((sMul f x y).1)]):=by
 have aO:=e.lt;refine enter Tryz.func124 rfl 30 rfl rfl ?_;intro a q
 have k:Kept bV w0.heap.size w0 w0:=Kept.refl _ _ _
 refine Zs q fun _ aG=>?_;refine Zf (X0j (zs:=[vi x.num.a,vi x.num.b,vi x.num.c,vi x.num.d,vi x.exp]) rfl rfl) ?_;rintro _ w1 ⟨b2,rfl,aH,i,m⟩;have aP:=Q0 k.size aH;have e:=e.below i;have k:=ktr k i;refine Zf (X0j (zs:=[vi y.num.a,vi y.num.b,vi y.num.c,vi y.num.d,vi y.exp]) rfl rfl) ?_;rintro _ w2 ⟨b3,rfl,aI,i,o⟩
 have aD:b2≠b3:=by have:=m.lt;omega
 have aQ:=Q0 k.size aI;have e:=e.below i;have m:=m.below i;have k:=ktr k i;refine Zf (X3 (zs:=[vi 0,vi 0,vi 0,vi 0,vi 0]) X0n rfl) ?_;rintro _ w3 ⟨b4,rfl,aJ,i,g⟩
 have aE:b2≠b4:=by have:=m.lt;omega
 have aF:b3≠b4:=by have:=o.lt;omega
 have t:=Q0 k.size aJ;have e:=e.below i;have m:=m.below i;have o:=o.below i;have k:=ktr k i;refine ZX aG fun a q _ aK=>?_;refine Zs q fun _ aL=>?_;refine Ze (Vd rfl X12 4)<|Ze (X0 rfl X9 (m.at 4))<|Ze (Vd rfl X12 4)<|Ze (X0 rfl X9 (o.at 4))<|Ze (X03 rfl rfl (by omega) (by omega))<|Ze (X72 rfl rfl)<|Zt aL fun a q=>?_
 refine Xl q rfl (fun p=>?_) (fun p=>?_)
 ·have aB:=p;have p:=Q2 p
  have hm:60<x.exp+y.exp:=p
  refine Zs q fun _ aM=>?_;refine Zm rfl<|Ze (X48 rfl)<|Ze (Vd rfl X5x 0)<|Zo (X5q (vs:=[.bool true]) (l':=[.bool true]) rfl rfl Xw6 e rfl rfl rfl rfl rfl) ?_;rintro _ w4 ⟨u,hb⟩;have n:=e;have g:=g.only u (Blk.ne g n rfl);have k:=k.self u;have e:=hb;refine Zx aM fun a q _ aN=>?_;refine Ze (Xg (ps:=[]) (cs:=[vi 0,vi 0,vi 0,vi 0,vi 0]) rfl (fun _=>by first|rfl|kernel_rfl))<|Zo (Vw [vi 0,vi 0,vi 0,vi 0,vi 0] Xd g) ?_;rintro _ w5 ⟨u,hb⟩;have n:=g;have e:=e.only u (Blk.ne e n rfl);have k:=Kept.only k u t;have g:=hb;refine Zt aN fun a q=>?_;refine Q6<|Xf<|X4 q (Xx q rfl (ResV.cellN (l:=[vi 0,vi 0,vi 0,vi 0,vi 0]) rfl X6 (g.at 0) rfl)) ?_;exact ⟨by rw [sMul,Q4 hm];rfl,k,by rw [sMul,Q4 hm];exact e⟩
 have aB:=p;have p:=Q1 p
 have hm:¬ 60<x.exp+y.exp:=p
 refine Q7<|aK _ _<|Q5 fun _ aC=>?_;refine Xz (some bV) (fun j=>[13].contains j) mixed ?_;intro w6 i;have e:=e.below i;have m:=m.below i;have o:=o.below i;have g:=g.below i;have k:=ktr k i;refine Yb q<|Yo 0 rfl (fun _=>X7 rfl)<|Yo 1 rfl (fun _=>Vd rfl X1i 0) ?_;refine Yw 2 rfl trivial (fun w1 h1=>X09 (l:=[vi x.num.a,vi x.num.b,vi x.num.c,vi x.num.d]) rfl Xv (((m.only h1 (Blk.ne m e rfl)).at 0).take 4) rfl) ?_;refine Yo 3 rfl (fun _=>Vd rfl X1i 0) ?_;refine Yw 4 rfl trivial (fun w1 h1=>X09 (l:=[vi y.num.a,vi y.num.b,vi y.num.c,vi y.num.d]) rfl Xv (((o.only h1 (Blk.ne o e rfl)).at 0).take 4) rfl) ?_;refine Yo 7 rfl (fun _=>Vd rfl X12 4) ?_;refine Yw 8 rfl trivial (fun w1 h1=>X0 rfl X9 ((m.only h1 (Blk.ne m e rfl)).at 4)) ?_;refine Yo 9 rfl (fun _=>Vd rfl X12 4) ?_;refine Yw 10 rfl trivial (fun w1 h1=>X0 rfl X9 ((o.only h1 (Blk.ne o e rfl)).at 4)) ?_;refine Yo 11 rfl (fun _=>X03 rfl rfl (by omega) (by omega))<|Y1 5 ?_;refine Yf rfl trivial (EfW.mono (Vc (Xzh _ x.num y.num) Xul) (fun _ _ h=>⟨fun _=>by obtain ⟨rfl,i⟩:=h;exact Keep.of_below i,h⟩)) ?_;rintro _ w7 ⟨rfl,i⟩;have e:=e.below i;have g:=g.below i;have k:=ktr k i;refine Y1 6<|Yf rfl trivial (EfW.mono (Vc (Xoh _ bV f e (rMul x.num y.num)) Xdj) (fun _ _ h=>⟨fun _=>by obtain ⟨rfl,hK,aA⟩:=h;exact hK.keep,h⟩)) ?_;rintro _ w8 ⟨rfl,hK,aA⟩;obtain ⟨wm,hO,hm,i⟩:=hK.mid;clear hm;have n:=e;have g:=g.only hO (Blk.ne g n rfl);have k:=k.self hO;have g:=g.below i;have k:=ktr k i
 clear n i hO hK;have e:=aA;clear aA;refine Y1 12<|Yf rfl trivial (EfW.mono (Vc (Xwd _ (sRing (rMul x.num y.num)) (x.exp+y.exp) (by omega)) Xla) (fun _ _ h=>⟨fun _=>by obtain ⟨rfl,i⟩:=h;exact Keep.of_below i,h⟩)) ?_;rintro _ w9 ⟨rfl,i⟩;have e:=e.below i;have g:=g.below i;have k:=ktr k i;refine Y1 13<|Yh rfl trivial rfl (Vw [vi ((dLow (sRing (rMul x.num y.num)) (x.exp+y.exp)).num.a),vi ((dLow (sRing (rMul x.num y.num)) (x.exp+y.exp)).num.b),vi ((dLow (sRing (rMul x.num y.num)) (x.exp+y.exp)).num.c),vi ((dLow (sRing (rMul x.num y.num)) (x.exp+y.exp)).num.d),vi ((dLow (sRing (rMul x.num y.num)) (x.exp+y.exp)).exp)] Xd g) ?_;rintro _ aR ⟨u,hb⟩;have n:=g;have e:=e.only u (Blk.ne e n rfl);have k:=Kept.only k u t;have g:=hb;refine Yd fun a q=>?_;refine aC _ _ ?_
 refine Q6 (X4 q (Xx q rfl (ResV.cellN (l:=[vi ((dLow (sRing (rMul x.num y.num)) (x.exp+y.exp)).num.a),vi ((dLow (sRing (rMul x.num y.num)) (x.exp+y.exp)).num.b),vi ((dLow (sRing (rMul x.num y.num)) (x.exp+y.exp)).num.c),vi ((dLow (sRing (rMul x.num y.num)) (x.exp+y.exp)).num.d),vi ((dLow (sRing (rMul x.num y.num)) (x.exp+y.exp)).exp)]) rfl X6 (g.at 0) rfl)) ?_)
 exact ⟨by rw [sMul,Q3 hm],k,by rw [sMul,Q3 hm];exact e⟩
theorem Xtk(w0:World)(bV:Nat)(f:Bool)(e:Blk w0 bV 97 [.bool f])(x:Dy)(y:Dy)(hx:0≤x.exp∧x.exp≤60)(hy:0≤y.exp∧y.exp≤60) : Ret Tryz.prog 123 [.pointer (some ⟨bV,0,none⟩),.agg #[vi x.num.a,vi x.num.b,vi x.num.c,vi x.num.d,vi x.exp],.agg #[vi y.num.a,vi y.num.b,vi y.num.c,vi y.num.d,vi y.exp]] w0 (fun v w=>v=dV ((sAdd f x y).2)∧Kept bV w0.heap.size w0 w∧Blk w bV 97 [.bool ((sAdd f x y).1)]):=by
 have aX:=e.lt;refine enter Tryz.func123 rfl 45 rfl rfl ?_;intro a z
 have q:Kept bV w0.heap.size w0 w0:=Kept.refl _ _ _
 refine Zs z fun _ aO=>?_;refine Zf (X0j (zs:=[vi x.num.a,vi x.num.b,vi x.num.c,vi x.num.d,vi x.exp]) rfl rfl) ?_;rintro _ w1 ⟨b2,rfl,aP,n,g⟩;have aC:=Q0 q.size aP;have e:=e.below n;have q:=ktr q n;refine Zf (X0j (zs:=[vi y.num.a,vi y.num.b,vi y.num.c,vi y.num.d,vi y.exp]) rfl rfl) ?_;rintro _ w2 ⟨b3,rfl,aQ,n,k⟩
 have aL:b2≠b3:=by have:=g.lt;omega
 have aD:=Q0 q.size aQ;have e:=e.below n;have g:=g.below n;have q:=ktr q n;refine Zf (X3 (zs:=[vi 0,vi 0,vi 0,vi 0,vi 0]) X0n rfl) ?_;rintro _ w3 ⟨b4,rfl,aR,n,i⟩
 have aM:b2≠b4:=by have:=g.lt;omega
 have aN:b3≠b4:=by have:=k.lt;omega
 have aE:=Q0 q.size aR;have e:=e.below n;have g:=g.below n;have k:=k.below n;have q:=ktr q n;refine ZX aO fun a z _ aS=>?_;refine Q8<|X07 (σ:=Bool×Dy) (fun (s:Bool×Dy) (a:Act) (w:World)=>match s with|(H,m)=>Fr a 45 [(0,.pointer (some ⟨bV,0,none⟩)),(4,.pointer (some ⟨b2,0,none⟩)),(5,.pointer (some ⟨b3,0,none⟩)),(6,.pointer (some ⟨b4,0,none⟩))]∧(sRaiseN (y.exp-m.exp).toNat H m=sRaiseN (y.exp-x.exp).toNat f x)∧(0≤m.exp∧m.exp≤60)∧Blk w bV 97 [.bool H]∧Blk w b2 53 [vi m.num.a,vi m.num.b,vi m.num.c,vi m.num.d,vi m.exp]∧Blk w b3 53 [vi y.num.a,vi y.num.b,vi y.num.c,vi y.num.d,vi y.exp]∧Blk w b4 53 [vi 0,vi 0,vi 0,vi 0,vi 0]∧Kept bV w0.heap.size w0 w) (fun (s:Bool×Dy)=>match s with|(H,m)=>(y.exp-m.exp).toNat) (f,x) ?_ ?_
 ·exact ⟨z.sb,rfl,hx,e,g,k,i,q⟩
 rintro ⟨H,m⟩ a w4 ⟨z,I,aY,e,g,k,i,q⟩;refine Q5 fun _ aT=>?_;refine Zs z fun _ aU=>?_;refine Ze (Vd rfl X12 4)<|Ze (X0 rfl X9 (g.at 4))<|Ze (Vd rfl X12 4)<|Ze (X0 rfl X9 (k.at 4))<|Ze (X1h rfl rfl)<|Zt aU fun a z=>?_
 refine Xl z rfl (fun A=>?_) (fun A=>?_)
 ·have aF:=A;have A:=Q2 A
  have aA:m.exp<y.exp:=A
  refine Q7<|aT _ _<|Q8<|Xz (some bV) (fun j=>[9].contains j) mixed ?_;intro w5 n;have e:=e.below n;have g:=g.below n;have k:=k.below n;have i:=i.below n;have q:=ktr q n;refine Yb z<|Yo 0 rfl (fun _=>X7 rfl)<|Yo 1 rfl (fun _=>Vd rfl X1i 0) ?_;refine Yw 2 rfl trivial (fun w1 D=>X09 (l:=[vi m.num.a,vi m.num.b,vi m.num.c,vi m.num.d]) rfl Xv (((g.only D (Blk.ne g e rfl)).at 0).take 4) rfl) ?_;refine Yo 5 rfl (fun _=>Vd rfl X12 4) ?_;refine Yw 6 rfl trivial (fun w1 D=>X0 rfl X9 ((g.only D (Blk.ne g e rfl)).at 4)) ?_;refine Yo 7 rfl (fun _=>X03 rfl rfl (by omega) (by omega))<|Y1 3 ?_;refine Yf rfl trivial (EfW.mono (Vc (Xv8 _ m.num) Xf6) (fun _ _ h=>⟨fun _=>by obtain ⟨rfl,n⟩:=h;exact Keep.of_below n,h⟩)) ?_;rintro _ w6 ⟨rfl,n⟩;have e:=e.below n;have g:=g.below n;have k:=k.below n;have i:=i.below n;have q:=ktr q n;refine Y1 4<|Yf rfl trivial (EfW.mono (Vc (Xoh _ bV H e (rRoot m.num)) Xdj) (fun _ _ h=>⟨fun _=>by obtain ⟨rfl,C,u⟩:=h;exact C.keep,h⟩)) ?_;rintro _ w7 ⟨rfl,C,u⟩;obtain ⟨wm,B,hm,n⟩:=C.mid;clear hm;have o:=e;have g:=g.only B (Blk.ne g o rfl);have k:=k.only B (Blk.ne k o rfl);have i:=i.only B (Blk.ne i o rfl);have q:=q.self B;have g:=g.below n;have k:=k.below n;have i:=i.below n;have q:=ktr q n
  clear o n B C;have e:=u;clear u;refine Yo 8 rfl (fun _=>Xg (ps:=[(0,.agg #[vi ((sRing (rRoot m.num)).a),vi ((sRing (rRoot m.num)).b),vi ((sRing (rRoot m.num)).c),vi ((sRing (rRoot m.num)).d)]),(1,vi (m.exp+1))]) (cs:=[vi ((sRing (rRoot m.num)).a),vi ((sRing (rRoot m.num)).b),vi ((sRing (rRoot m.num)).c),vi ((sRing (rRoot m.num)).d),vi (m.exp+1)]) rfl (fun _=>by first|rfl|kernel_rfl))<|Y1 9 ?_;refine Yh rfl trivial rfl (Vw [vi ((sRing (rRoot m.num)).a),vi ((sRing (rRoot m.num)).b),vi ((sRing (rRoot m.num)).c),vi ((sRing (rRoot m.num)).d),vi (m.exp+1)] Xd g) ?_;rintro _ w8 ⟨E,hb⟩;have o:=g;have e:=e.only E (Blk.ne e o rfl);have k:=k.only E (by omega);have i:=i.only E (by omega);have q:=Kept.only q E aC;have g:=hb;refine Yd fun a z=>?_;refine Xn<|Xo ?_;exact ⟨(H||!rOk (rRoot m.num),⟨sRing (rRoot m.num),m.exp+1⟩),⟨z.sb,(X8z I aA),(by dsimp only;omega),e,g,k,i,q⟩,(by first|omega|(dsimp only;omega))⟩
 have aF:=A;have A:=Q1 A;have aG:=X90 I A;refine Q9<|Xm<|Xm<|X08 ?_;refine aS _ _<|Q5 fun _ aW=>?_;refine Q8<|X07 (σ:=Bool×Dy) (fun (s:Bool×Dy) (a:Act) (w:World)=>match s with|(f2,p)=>Fr a 45 [(0,.pointer (some ⟨bV,0,none⟩)),(4,.pointer (some ⟨b2,0,none⟩)),(5,.pointer (some ⟨b3,0,none⟩)),(6,.pointer (some ⟨b4,0,none⟩))]∧(sRaiseN (m.exp-p.exp).toNat f2 p=sRaiseN (m.exp-y.exp).toNat H y)∧(0≤p.exp∧p.exp≤60)∧Blk w bV 97 [.bool f2]∧Blk w b2 53 [vi m.num.a,vi m.num.b,vi m.num.c,vi m.num.d,vi m.exp]∧Blk w b3 53 [vi p.num.a,vi p.num.b,vi p.num.c,vi p.num.d,vi p.exp]∧Blk w b4 53 [vi 0,vi 0,vi 0,vi 0,vi 0]∧Kept bV w0.heap.size w0 w) (fun (s:Bool×Dy)=>match s with|(f2,p)=>(m.exp-p.exp).toNat) (H,y) ?_ ?_
 ·exact ⟨z.sb,rfl,hy,e,g,k,i,q⟩
 rintro ⟨f2,p⟩ a w9 ⟨z,G,aZ,e,g,k,i,q⟩;refine Q5 fun _ aH=>?_;refine Zs z fun _ aI=>?_;refine Ze (Vd rfl X12 4)<|Ze (X0 rfl X9 (k.at 4))<|Ze (Vd rfl X12 4)<|Ze (X0 rfl X9 (g.at 4))<|Ze (X1h rfl rfl)<|Zt aI fun a z=>?_
 refine Xl z rfl (fun t=>?_) (fun t=>?_)
 ·have aB:=t;have t:=Q2 t
  have aA:p.exp<m.exp:=t
  refine Q7<|aH _ _<|Q8<|Xz (some bV) (fun j=>[9].contains j) mixed ?_;intro b0 n;have e:=e.below n;have g:=g.below n;have k:=k.below n;have i:=i.below n;have q:=ktr q n;refine Yb z<|Yo 0 rfl (fun _=>X7 rfl)<|Yo 1 rfl (fun _=>Vd rfl X1i 0) ?_;refine Yw 2 rfl trivial (fun w1 D=>X09 (l:=[vi p.num.a,vi p.num.b,vi p.num.c,vi p.num.d]) rfl Xv (((k.only D (Blk.ne k e rfl)).at 0).take 4) rfl) ?_;refine Yo 5 rfl (fun _=>Vd rfl X12 4) ?_;refine Yw 6 rfl trivial (fun w1 D=>X0 rfl X9 ((k.only D (Blk.ne k e rfl)).at 4)) ?_;refine Yo 7 rfl (fun _=>X03 rfl rfl (by omega) (by omega))<|Y1 3 ?_;refine Yf rfl trivial (EfW.mono (Vc (Xv8 _ p.num) Xf6) (fun _ _ h=>⟨fun _=>by obtain ⟨rfl,n⟩:=h;exact Keep.of_below n,h⟩)) ?_;rintro _ b1 ⟨rfl,n⟩;have e:=e.below n;have g:=g.below n;have k:=k.below n;have i:=i.below n;have q:=ktr q n;refine Y1 4<|Yf rfl trivial (EfW.mono (Vc (Xoh _ bV f2 e (rRoot p.num)) Xdj) (fun _ _ h=>⟨fun _=>by obtain ⟨rfl,C,u⟩:=h;exact C.keep,h⟩)) ?_;rintro _ b5 ⟨rfl,C,u⟩;obtain ⟨wm,B,hm,n⟩:=C.mid;clear hm;have o:=e;have g:=g.only B (Blk.ne g o rfl);have k:=k.only B (Blk.ne k o rfl);have i:=i.only B (Blk.ne i o rfl);have q:=q.self B;have g:=g.below n;have k:=k.below n;have i:=i.below n;have q:=ktr q n
  clear o n B C;have e:=u;clear u;refine Yo 8 rfl (fun _=>Xg (ps:=[(0,.agg #[vi ((sRing (rRoot p.num)).a),vi ((sRing (rRoot p.num)).b),vi ((sRing (rRoot p.num)).c),vi ((sRing (rRoot p.num)).d)]),(1,vi (p.exp+1))]) (cs:=[vi ((sRing (rRoot p.num)).a),vi ((sRing (rRoot p.num)).b),vi ((sRing (rRoot p.num)).c),vi ((sRing (rRoot p.num)).d),vi (p.exp+1)]) rfl (fun _=>by first|rfl|kernel_rfl))<|Y1 9 ?_;refine Yh rfl trivial rfl (Vw [vi ((sRing (rRoot p.num)).a),vi ((sRing (rRoot p.num)).b),vi ((sRing (rRoot p.num)).c),vi ((sRing (rRoot p.num)).d),vi (p.exp+1)] Xd k) ?_;rintro _ b6 ⟨E,hb⟩;have o:=k;have e:=e.only E (Blk.ne e o rfl);have g:=g.only E (by omega);have i:=i.only E (by omega);have q:=Kept.only q E aD;have k:=hb;refine Yd fun a z=>?_;refine Xn<|Xo ?_;exact ⟨(f2||!rOk (rRoot p.num),⟨sRing (rRoot p.num),p.exp+1⟩),⟨z.sb,(X8z G aA),(by dsimp only;omega),e,g,k,i,q⟩,(by first|omega|(dsimp only;omega))⟩
 have aB:=t;have t:=Q1 t;have aJ:=X90 G t;refine Q9<|Xm<|Xm<|X08 ?_;refine aW _ _<|Q5 fun _ aK=>?_;refine Xz (some bV) (fun j=>[10].contains j) mixed ?_;intro b7 n;have e:=e.below n;have g:=g.below n;have k:=k.below n;have i:=i.below n;have q:=ktr q n;refine Yb z<|Yo 0 rfl (fun _=>X7 rfl)<|Yo 1 rfl (fun _=>Vd rfl X1i 0) ?_;refine Yw 2 rfl trivial (fun w1 D=>X09 (l:=[vi m.num.a,vi m.num.b,vi m.num.c,vi m.num.d]) rfl Xv (((g.only D (Blk.ne g e rfl)).at 0).take 4) rfl) ?_;refine Yo 3 rfl (fun _=>Vd rfl X1i 0) ?_;refine Yw 4 rfl trivial (fun w1 D=>X09 (l:=[vi p.num.a,vi p.num.b,vi p.num.c,vi p.num.d]) rfl Xv (((k.only D (Blk.ne k e rfl)).at 0).take 4) rfl) ?_;refine Yo 7 rfl (fun _=>Vd rfl X12 4) ?_;refine Yw 8 rfl trivial (fun w1 D=>X0 rfl X9 ((g.only D (Blk.ne g e rfl)).at 4)) ?_;refine Y1 5<|Yf rfl trivial (EfW.mono (Vc (Y0r _ m.num p.num) Xtg) (fun _ _ h=>⟨fun _=>by obtain ⟨rfl,n⟩:=h;exact Keep.of_below n,h⟩)) ?_;rintro _ b8 ⟨rfl,n⟩;have e:=e.below n;have i:=i.below n;have q:=ktr q n;refine Y1 6<|Yf rfl trivial (EfW.mono (Vc (Xoh _ bV f2 e (rAdd m.num p.num)) Xdj) (fun _ _ h=>⟨fun _=>by obtain ⟨rfl,C,u⟩:=h;exact C.keep,h⟩)) ?_;rintro _ b9 ⟨rfl,C,u⟩;obtain ⟨wm,B,hm,n⟩:=C.mid;clear hm;have o:=e;have i:=i.only B (Blk.ne i o rfl);have q:=q.self B;have i:=i.below n;have q:=ktr q n
 clear o n B C;have e:=u;clear u;refine Y1 9<|Yf rfl trivial (EfW.mono (Vc (Xwd _ (sRing (rAdd m.num p.num)) m.exp (by omega)) Xla) (fun _ _ h=>⟨fun _=>by obtain ⟨rfl,n⟩:=h;exact Keep.of_below n,h⟩)) ?_;rintro _ bC ⟨rfl,n⟩;have e:=e.below n;have i:=i.below n;have q:=ktr q n;refine Y1 10<|Yh rfl trivial rfl (Vw [vi ((dLow (sRing (rAdd m.num p.num)) m.exp).num.a),vi ((dLow (sRing (rAdd m.num p.num)) m.exp).num.b),vi ((dLow (sRing (rAdd m.num p.num)) m.exp).num.c),vi ((dLow (sRing (rAdd m.num p.num)) m.exp).num.d),vi ((dLow (sRing (rAdd m.num p.num)) m.exp).exp)] Xd i) ?_;rintro _ bD ⟨E,hb⟩;have o:=i;have e:=e.only E (Blk.ne e o rfl);have q:=Kept.only q E aE;have i:=hb;refine Yd fun a z=>?_;refine aK _ _ ?_
 refine Q6 (X4 z (Xx z rfl (ResV.cellN (l:=[vi ((dLow (sRing (rAdd m.num p.num)) m.exp).num.a),vi ((dLow (sRing (rAdd m.num p.num)) m.exp).num.b),vi ((dLow (sRing (rAdd m.num p.num)) m.exp).num.c),vi ((dLow (sRing (rAdd m.num p.num)) m.exp).num.d),vi ((dLow (sRing (rAdd m.num p.num)) m.exp).exp)]) rfl X6 (i.at 0) rfl)) ?_)
 exact ⟨by rw [sAdd,aG];dsimp only;rw [aJ],q,by rw [sAdd,aG];dsimp only;rw [aJ];exact e⟩
theorem Xj6(w0:World)(n:Int)(s:Int)(q:Int)(h0:0≤q)(h1:q<n)(h2:n≤5) : Ret Tryz.prog 115 [vi n,vi s,vi q] w0 (fun v w=>v=vi (bitF n s q)∧w0=w):=by
 refine enter Tryz.func115 rfl 14 rfl rfl ?_;intro a hf
 have hW:=bz w0
 refine Zs hf fun _ aA=>?_;refine Za rfl<|Zx aA fun a hf _ aB=>?_;refine Zm rfl<|Zm rfl<|Ze (X1m rfl rfl (by omega) (by omega))<|Zm rfl<|Ze (X1m rfl rfl (by omega) (by omega))<|Ze (Xx0 (m:=(n-1-q).toNat) rfl rfl (by omega) (by omega))<|Ze (Xsh rfl rfl)<|Za rfl<|Zt aB fun a hf=>?_
 refine Q6 (X4 hf (Xx hf rfl rfl) ?_)
 exact ⟨rfl,rfl⟩
theorem Xqf(w0:World)(n:Int)(s:Int)(q:Int)(h0:0≤q)(h1:q<n)(h2:n≤5) : Ret Tryz.prog 116 [vi n,vi s,vi q] w0 (fun v w=>v=vi (flipF n s q)∧w0=w):=by
 refine enter Tryz.func116 rfl 14 rfl rfl ?_;intro a hf
 have hW:=bz w0
 refine Zs hf fun _ aA=>?_;refine Za rfl<|Zx aA fun a hf _ aB=>?_;refine Zm rfl<|Zm rfl<|Ze (X1m rfl rfl (by omega) (by omega))<|Zm rfl<|Ze (X1m rfl rfl (by omega) (by omega))<|Ze (Xfw (m:=(n-1-q).toNat) rfl rfl (by omega) (by omega))<|Ze (Xkf rfl rfl)<|Za rfl<|Zt aB fun a hf=>?_
 refine Q6 (X4 hf (Xx hf rfl rfl) ?_)
 exact ⟨rfl,rfl⟩
theorem Xf4(w0:World)(n:Int)(s:Int)(q:Int)(h0:0≤q)(h1:q<n)(h2:n≤5) : Ret Tryz.prog 153 [vi n,vi s,vi q] w0 (fun v w=>v=vi (bitF n s q)∧w0=w):=by
 refine enter Tryz.func153 rfl 15 rfl rfl ?_;intro a hf
 have hW:=bz w0
 refine Zs hf fun _ aA=>?_;refine Za rfl<|Zx aA fun a hf _ aB=>?_;refine Zm rfl<|Zm rfl<|Ze (X1m rfl rfl (by omega) (by omega))<|Zm rfl<|Ze (X1m rfl rfl (by omega) (by omega))<|Ze (Xea (m:=(n-1-q).toNat) Tryz.underlying3 Tryz.underlying100 rfl (by omega) (by omega))<|Ze (Xx0 (m:=(n-1-q).toNat) rfl rfl rfl (by omega))<|Ze (Xsh rfl rfl)<|Za rfl<|Zt aB fun a hf=>?_
 refine Q6 (X4 hf (Xx hf rfl rfl) ?_)
 exact ⟨rfl,rfl⟩
theorem Xxr(w0:World)(k:Int)(hk:1≤k∧k≤8) : Ret Tryz.prog 154 [vi k] w0 (fun v w=>∃ A c,v=.slice A (oneL k).length c∧Own w w0.heap.size 53 5 encD A c (oneL k)∧Below w0.heap.size w0 w):=by
 refine enter Tryz.func154 rfl 43 rfl rfl ?_;intro a j
 have i:=bz w0
 refine Zs j fun _ bJ=>?_;refine Za rfl<|Zx bJ fun a j _ bK=>?_;refine Zf (Vc (Xdn _ 0) X69) ?_;rintro _ w1 ⟨rfl,g⟩;have i:=btr i g;refine Ze (Xg (ps:=[]) (cs:=[vi 0,vi 0,vi 0,vi 0,vi 0]) rfl (fun _=>by first|rfl|kernel_rfl))<|Zf (X3 (zs:=[vi 0,vi 0,vi 0,vi 0,vi 0]) X0n rfl) ?_;rintro _ w2 ⟨b4,rfl,bL,g,e⟩;have aI:=Q0 i.size bL;have i:=btr i g;refine Zf (X3 (zs:=[vi 0,vi 0,vi 0,vi 0,vi 0]) X0n rfl) ?_;rintro _ w3 ⟨b5,rfl,bM,g,f⟩
 have bG:b4≠b5:=by have:=e.lt;omega
 have aJ:=Q0 i.size bM;have e:=e.below g;have i:=btr i g;refine Zo (Vw [vi ((dPow 0).num.a),vi ((dPow 0).num.b),vi ((dPow 0).num.c),vi ((dPow 0).num.d),vi ((dPow 0).exp)] Xd e) ?_;rintro _ w4 ⟨q,hb⟩;have x:=e;have f:=f.only q (by omega);have i:=Below.only i q aI;have e:=hb;refine Zo (Vw [vi 0,vi 0,vi 0,vi 0,vi 0] Xd f) ?_;rintro _ w5 ⟨q,hb⟩;have x:=f;have e:=e.only q (by omega);have i:=Below.only i q aJ;have f:=hb;refine Zx bK fun a j _ bN=>?_;refine Ze (Xg (ps:=[(0,vi 1)]) (cs:=[vi 1,vi 0,vi 0,vi 0]) rfl (fun _=>by first|rfl|kernel_rfl))<|Ze (Xg (ps:=[(0,.agg #[vi 1,vi 0,vi 0,vi 0]),(1,vi 1)]) (cs:=[vi 1,vi 0,vi 0,vi 0,vi 1]) rfl (fun _=>by first|rfl|kernel_rfl))<|Zf (X3 (zs:=[vi 0,vi 0,vi 0,vi 0,vi 0]) X0n rfl) ?_;rintro _ w6 ⟨b7,rfl,bO,g,m⟩
 have bH:b4≠b7:=by have:=e.lt;omega
 have bI:b5≠b7:=by have:=f.lt;omega
 have aK:=Q0 i.size bO;have e:=e.below g;have f:=f.below g;have i:=btr i g;refine Zo (Vw [vi 1,vi 0,vi 0,vi 0,vi 1] Xd m) ?_;rintro _ w7 ⟨q,hb⟩;have x:=m;have e:=e.only q (by omega);have f:=f.only q (by omega);have i:=Below.only i q aK;have m:=hb;refine ZX bN fun a j _ bP=>?_;refine Zs j fun _ bQ=>?_;refine Zm rfl<|Zt bQ fun a j=>?_;refine Q8<|Zs j fun _ aL=>?_;refine Ze (X1b rfl rfl)<|Za rfl<|Zt aL fun a j=>?_
 refine Xl j rfl (fun n=>?_) (fun n=>?_)
 ·have aA:=n
  have t:k=1:=by simpa using n
  refine Q5 fun _ aM=>?_;refine Xz none (fun _=>false) mixed ?_;intro w8 g;have e:=e.below g;have f:=f.below g;have m:=m.below g;have i:=btr i g;refine Yb j<|Ye 0 rfl (Vn X6 m)<|Ye 1 rfl (Vn X6 m)<|Ye 2 rfl (Vn X6 m)<|Ye 3 rfl (Vn X6 m)<|Y1 4 ?_;refine Yk rfl trivial (Vc (Xzy _ (⟨(⟨1,0,0,0⟩ : Rg),1⟩ : Dy)) Xsk) (fun _ _ ⟨_,g⟩=>g) ?_;rintro _ w9 ⟨rfl,g⟩;have e:=e.below g;have f:=f.below g;have m:=m.below g;have i:=btr i g;refine Y1 5<|Yk rfl trivial (Xb (k:=4) (vs:=[.agg #[vi 1,vi 0,vi 0,vi 0,vi 1],.agg #[vi 1,vi 0,vi 0,vi 0,vi 1],.agg #[vi 1,vi 0,vi 0,vi 0,vi 1],.agg #[vi ((dNeg (⟨(⟨1,0,0,0⟩ : Rg),1⟩ : Dy)).num.a),vi ((dNeg (⟨(⟨1,0,0,0⟩ : Rg),1⟩ : Dy)).num.b),vi ((dNeg (⟨(⟨1,0,0,0⟩ : Rg),1⟩ : Dy)).num.c),vi ((dNeg (⟨(⟨1,0,0,0⟩ : Rg),1⟩ : Dy)).num.d),vi ((dNeg (⟨(⟨1,0,0,0⟩ : Rg),1⟩ : Dy)).exp)]]) (zs:=[vi 1,vi 0,vi 0,vi 0,vi 1,vi 1,vi 0,vi 0,vi 0,vi 1,vi 1,vi 0,vi 0,vi 0,vi 1,vi ((dNeg (⟨(⟨1,0,0,0⟩ : Rg),1⟩ : Dy)).num.a),vi ((dNeg (⟨(⟨1,0,0,0⟩ : Rg),1⟩ : Dy)).num.b),vi ((dNeg (⟨(⟨1,0,0,0⟩ : Rg),1⟩ : Dy)).num.c),vi ((dNeg (⟨(⟨1,0,0,0⟩ : Rg),1⟩ : Dy)).num.d),vi ((dNeg (⟨(⟨1,0,0,0⟩ : Rg),1⟩ : Dy)).exp)]) rfl X01 X13 rfl rfl) (fun _ _ ⟨_,_,_,h,_⟩=>h) ?_;rintro _ bS ⟨b13,rfl,aN,g,aO⟩
  have aP:b4≠b13:=by have:=e.lt;omega
  have aQ:b5≠b13:=by have:=f.lt;omega
  have aR:b7≠b13:=by have:=m.lt;omega
  have aB:=Q0 i.size aN;have i:=btr i g;refine Yo 6 rfl (fun _=>X0i rfl) ?_;refine Yd fun a j=>?_;refine aM _ _<|Q6<|X05<|Xf ?_;refine X4 j (Xx j rfl rfl) ?_;exact ⟨(some ⟨b13,0,none⟩),4,by rw [oneL,Q4 t];rfl,by rw [oneL,Q4 t];exact (Own.of_blkL X06 aO aB rfl rfl (by decide)),i⟩
 have aA:=n
 have t:¬ k=1:=by simpa using n
 refine Zs j fun _ aS=>?_;refine Ze (X1b rfl rfl)<|Za rfl<|Zt aS fun a j=>?_
 refine Xl j rfl (fun o=>?_) (fun o=>?_)
 ·have aC:=o
  have e2:k=2:=by simpa using o
  refine Zs j fun _ aT=>?_;refine Ze (Vn X6 f)<|Ze (Vn X6 e)<|Ze (Vn X6 e)<|Ze (Vn X6 f)<|Zf (Xb (k:=4) (vs:=[.agg #[vi 0,vi 0,vi 0,vi 0,vi 0],.agg #[vi ((dPow 0).num.a),vi ((dPow 0).num.b),vi ((dPow 0).num.c),vi ((dPow 0).num.d),vi ((dPow 0).exp)],.agg #[vi ((dPow 0).num.a),vi ((dPow 0).num.b),vi ((dPow 0).num.c),vi ((dPow 0).num.d),vi ((dPow 0).exp)],.agg #[vi 0,vi 0,vi 0,vi 0,vi 0]]) (zs:=[vi 0,vi 0,vi 0,vi 0,vi 0,vi ((dPow 0).num.a),vi ((dPow 0).num.b),vi ((dPow 0).num.c),vi ((dPow 0).num.d),vi ((dPow 0).exp),vi ((dPow 0).num.a),vi ((dPow 0).num.b),vi ((dPow 0).num.c),vi ((dPow 0).num.d),vi ((dPow 0).exp),vi 0,vi 0,vi 0,vi 0,vi 0]) rfl X01 X13 rfl rfl) ?_;rintro _ bU ⟨b18,rfl,aU,g,aW⟩
  have aX:b4≠b18:=by have:=e.lt;omega
  have aY:b5≠b18:=by have:=f.lt;omega
  have aD:=Q0 i.size aU;have i:=btr i g;refine Za rfl<|Zt aT fun a j=>?_;refine Q6<|X05<|Xf<|X4 j (Xx j rfl rfl) ?_;exact ⟨(some ⟨b18,0,none⟩),4,by rw [oneL,Q3 t,Q4 e2];rfl,by rw [oneL,Q3 t,Q4 e2];exact (Own.of_blkL X06 aW aD rfl rfl (by decide)),i⟩
 have aC:=o
 have e2:¬ k=2:=by simpa using o
 refine Zs j fun _ aZ=>?_;refine Ze (X1b rfl rfl)<|Za rfl<|Zt aZ fun a j=>?_
 refine Xl j rfl (fun p=>?_) (fun p=>?_)
 ·have aE:=p
  have e3:k=3:=by simpa using p
  refine Q5 fun _ b0=>?_;refine Xz none (fun _=>false) mixed ?_;intro bW g;have e:=e.below g;have f:=f.below g;have i:=btr i g;refine Yb j<|Ye 0 rfl (Vn X6 f)<|Ye 3 rfl (Vn X6 f)<|Y1 1 ?_;refine Yk rfl trivial (Vc (Xdn _ 6) X69) (fun _ _ ⟨_,g⟩=>g) ?_;rintro _ bZ ⟨rfl,g⟩;have e:=e.below g;have f:=f.below g;have i:=btr i g;refine Y1 2<|Yk rfl trivial (Vc (Xdn _ 2) X69) (fun _ _ ⟨_,g⟩=>g) ?_;rintro _ cA ⟨rfl,g⟩;have e:=e.below g;have f:=f.below g;have i:=btr i g;refine Y1 4<|Yk rfl trivial (Xb (k:=4) (vs:=[.agg #[vi 0,vi 0,vi 0,vi 0,vi 0],.agg #[vi ((dPow 6).num.a),vi ((dPow 6).num.b),vi ((dPow 6).num.c),vi ((dPow 6).num.d),vi ((dPow 6).exp)],.agg #[vi ((dPow 2).num.a),vi ((dPow 2).num.b),vi ((dPow 2).num.c),vi ((dPow 2).num.d),vi ((dPow 2).exp)],.agg #[vi 0,vi 0,vi 0,vi 0,vi 0]]) (zs:=[vi 0,vi 0,vi 0,vi 0,vi 0,vi ((dPow 6).num.a),vi ((dPow 6).num.b),vi ((dPow 6).num.c),vi ((dPow 6).num.d),vi ((dPow 6).exp),vi ((dPow 2).num.a),vi ((dPow 2).num.b),vi ((dPow 2).num.c),vi ((dPow 2).num.d),vi ((dPow 2).exp),vi 0,vi 0,vi 0,vi 0,vi 0]) rfl X01 X13 rfl rfl) (fun _ _ ⟨_,_,_,h,_⟩=>h) ?_;rintro _ cB ⟨b23,rfl,b1,g,b2⟩
  have b3:b4≠b23:=by have:=e.lt;omega
  have b6:b5≠b23:=by have:=f.lt;omega
  have aF:=Q0 i.size b1;have i:=btr i g;refine Yo 5 rfl (fun _=>X0i rfl) ?_;refine Yd fun a j=>?_;refine b0 _ _<|Q6<|X05<|Xf ?_;refine X4 j (Xx j rfl rfl) ?_;exact ⟨(some ⟨b23,0,none⟩),4,by rw [oneL,Q3 t,Q3 e2,Q4 e3];rfl,by rw [oneL,Q3 t,Q3 e2,Q4 e3];exact (Own.of_blkL X06 b2 aF rfl rfl (by decide)),i⟩
 have aE:=p
 have e3:¬ k=3:=by simpa using p
 refine Q7<|Xn<|bP _ _<|Q5 fun _ b8=>?_;refine Xz none (fun _=>false) mixed ?_;intro cC g;have e:=e.below g;have f:=f.below g;have i:=btr i g;refine Yb j<|Ye 0 rfl (Vn X6 e)<|Ye 1 rfl (Vn X6 f)<|Ye 2 rfl (Vn X6 f)<|Yo 4 rfl (fun _=>X7 rfl)<|Yo 5 rfl (fun _=>X1m rfl rfl (by omega) (by omega))<|Y1 3 ?_;refine Yk rfl trivial (Xb (k:=5) (vs:=[vi 4,vi 2,vi 6,vi 1,vi 7]) (zs:=[vi 4,vi 2,vi 6,vi 1,vi 7]) rfl X6a Xbc rfl rfl) (fun _ _ ⟨_,_,_,h,_⟩=>h) ?_;rintro _ cD ⟨cE,rfl,b9,g,y⟩;have bR:=Q0 i.size b9;have e:=e.below g;have f:=f.below g;have i:=btr i g;refine Yi (k:=(k-4).toNat) (u:=(turnOf k)) (enc:=encI) (l:=[4,2,6,1,7]) 6 rfl trivial rfl rfl X6a X65 Xa0 (Rd.of_blk y rfl _ y.lt) (Xks (by omega) (by omega)) (by omega) ?_;intro cF aG;refine Ye 7 rfl (X0 rfl X9 aG)<|Y1 8 ?_;refine Yk rfl trivial (Vc (Xdn _ (turnOf k)) X69) (fun _ _ ⟨_,g⟩=>g) ?_;rintro _ cG ⟨rfl,g⟩;have e:=e.below g;have f:=f.below g;have i:=btr i g;refine Y1 9<|Yk rfl trivial (Xb (k:=4) (vs:=[.agg #[vi ((dPow 0).num.a),vi ((dPow 0).num.b),vi ((dPow 0).num.c),vi ((dPow 0).num.d),vi ((dPow 0).exp)],.agg #[vi 0,vi 0,vi 0,vi 0,vi 0],.agg #[vi 0,vi 0,vi 0,vi 0,vi 0],.agg #[vi ((dPow (turnOf k)).num.a),vi ((dPow (turnOf k)).num.b),vi ((dPow (turnOf k)).num.c),vi ((dPow (turnOf k)).num.d),vi ((dPow (turnOf k)).exp)]]) (zs:=[vi ((dPow 0).num.a),vi ((dPow 0).num.b),vi ((dPow 0).num.c),vi ((dPow 0).num.d),vi ((dPow 0).exp),vi 0,vi 0,vi 0,vi 0,vi 0,vi 0,vi 0,vi 0,vi 0,vi 0,vi ((dPow (turnOf k)).num.a),vi ((dPow (turnOf k)).num.b),vi ((dPow (turnOf k)).num.c),vi ((dPow (turnOf k)).num.d),vi ((dPow (turnOf k)).exp)]) rfl X01 X13 rfl rfl) (fun _ _ ⟨_,_,_,h,_⟩=>h) ?_;rintro _ cH ⟨b30,rfl,bC,g,bD⟩
 have bE:b4≠b30:=by have:=e.lt;omega
 have bF:b5≠b30:=by have:=f.lt;omega
 have aH:=Q0 i.size bC;have i:=btr i g;refine Yo 10 rfl (fun _=>X0i rfl) ?_;refine Yd fun a j=>?_;refine b8 _ _ ?_
 refine Q6 (X4 j (Xx j rfl rfl) ?_)
 exact ⟨(some ⟨b30,0,none⟩),4,by rw [oneL,Q3 t,Q3 e2,Q3 e3];rfl,by rw [oneL,Q3 t,Q3 e2,Q3 e3];exact (Own.of_blkL X06 bD aH rfl rfl (by decide)),i⟩
theorem Xzo(w0:World)(n:Int)(g:Gt)(row:Int)(col:Int)(hg:gOk n g=true) : Ret Tryz.prog 125 [vi n,.agg #[vi g.k,vi g.a,vi g.b],vi row,vi col] w0 (fun v w=>v=dV (cellS n g row col)∧Below w0.heap.size w0 w):=by
 have dD:=X28 hg;have dE:=X3j n row g.a;have dF:=X3j n col g.a;refine enter Tryz.func125 rfl 119 rfl rfl ?_;intro a f
 have o:=bz w0
 refine Zs f fun _ cV=>?_;refine Zf (X0j (zs:=[vi g.k,vi g.a,vi g.b]) rfl rfl) ?_;rintro _ w1 ⟨b2,rfl,cW,A,q⟩;have dC:=Q0 o.size cW;have o:=btr o A;refine Zf (X3 (zs:=[vi 0,vi 0,vi 0,vi 0,vi 0]) X0n rfl) ?_;rintro _ w2 ⟨b3,rfl,cX,A,e⟩;have z:=Q0 o.size cX;have q:=q.below A;have o:=btr o A;refine Zx cV fun a f _ d5=>?_;refine Zf (Vc (Xdn _ 0) X69) ?_;rintro _ w3 ⟨rfl,A⟩;have q:=q.below A;have e:=e.below A;have o:=btr o A;refine Ze (Xg (ps:=[]) (cs:=[vi 0,vi 0,vi 0,vi 0,vi 0]) rfl (fun _=>by first|rfl|kernel_rfl))<|Zf (X3 (zs:=[vi 0,vi 0,vi 0,vi 0,vi 0]) X0n rfl) ?_;rintro _ w4 ⟨b5,rfl,d6,A,x⟩
 have cR:b3≠b5:=by have:=e.lt;omega
 have aJ:=Q0 o.size d6;have q:=q.below A;have e:=e.below A;have o:=btr o A;refine Zf (X3 (zs:=[vi 0,vi 0,vi 0,vi 0,vi 0]) X0n rfl) ?_;rintro _ w5 ⟨b6,rfl,d7,A,y⟩
 have cS:b3≠b6:=by have:=e.lt;omega
 have cU:b5≠b6:=by have:=x.lt;omega
 have aY:=Q0 o.size d7;have q:=q.below A;have e:=e.below A;have x:=x.below A;have o:=btr o A;refine Zo (Vw [vi ((dPow 0).num.a),vi ((dPow 0).num.b),vi ((dPow 0).num.c),vi ((dPow 0).num.d),vi ((dPow 0).exp)] Xd x) ?_;rintro _ w6 ⟨h,B⟩;have p:=x;have q:=q.only h (Blk.ne q p rfl);have e:=e.only h (by omega);have y:=y.only h (by omega);have o:=Below.only o h aJ;have x:=B;refine Zo (Vw [vi 0,vi 0,vi 0,vi 0,vi 0] Xd y) ?_;rintro _ w7 ⟨h,B⟩;have p:=y;have q:=q.only h (Blk.ne q p rfl);have e:=e.only h (by omega);have x:=x.only h (by omega);have o:=Below.only o h aY;have y:=B;refine Zx d5 fun a f _ d8=>?_;refine Zm rfl<|Za rfl<|ZX d8 fun a f _ aI=>?_;refine Zs f fun _ d9=>?_;refine Ze (Vd rfl X2i 0)<|Ze (X0 rfl X9 (q.at 0))<|Zt d9 fun a f=>?_;refine Q8<|Zs f fun _ aZ=>?_;refine Ze (X1b rfl rfl)<|Za rfl<|Zt aZ fun a f=>?_
 refine Xl f rfl (fun J=>?_) (fun J=>?_)
 ·have D:=J;have hk:=eq_of_beq J
  have H:¬ g.k≤8:=by omega
  have C:toS n g col=col:=by simp [toS,hk]
  have hv:valS n g col=dPow 1:=by simp [valS,hk]
  refine Zr f<|Zf (Vc (Xdn _ 1) X69) ?_;rintro _ w8 ⟨rfl,A⟩;have e:=e.below A;have x:=x.below A;have y:=y.below A;have o:=btr o A;refine Zo (Vw [vi ((dPow 1).num.a),vi ((dPow 1).num.b),vi ((dPow 1).num.c),vi ((dPow 1).num.d),vi ((dPow 1).exp)] Xd x) ?_;rintro _ w9 ⟨h,B⟩;have p:=x;have e:=e.only h (by omega);have y:=y.only h (by omega);have o:=Below.only o h aJ;have x:=B;refine Zn fun a f=>?_;refine Xn<|aI _ _<|Q5 fun _ b0=>?_;refine Zs f fun _ b1=>?_;refine Zm rfl<|Zm rfl<|Ze (X1b rfl rfl)<|Zt b1 fun a f=>?_
  refine Xl f rfl (fun L=>?_) (fun L=>?_)
  ·have aK:=L
   have i:cellS n g row col=valS n g col:=by rw [cellS,Q3 H,Q4 ((eq_of_beq L).trans C.symm)]
   rw [hv] at i
   refine Zs f fun _ b4=>?_;refine Ze (Vn X6 x)<|Zo (Vw [vi ((dPow 1).num.a),vi ((dPow 1).num.b),vi ((dPow 1).num.c),vi ((dPow 1).num.d),vi ((dPow 1).exp)] Xd e) ?_;rintro _ dG ⟨h,B⟩;have p:=e;have o:=Below.only o h z;have e:=B;refine Zt b4 fun a f=>?_;refine Q6<|Xf<|X4 f (Xx f rfl (ResV.cellN (l:=[vi ((dPow 1).num.a),vi ((dPow 1).num.b),vi ((dPow 1).num.c),vi ((dPow 1).num.d),vi ((dPow 1).exp)]) rfl X6 (e.at 0) rfl)) ?_;exact ⟨(by rw [i];try rfl),o⟩
  have aK:=L
  have i:cellS n g row col=dZ:=by rw [cellS,Q3 H,Q3 (fun e9=>X19 L (e9.trans C))]
  refine Q7<|b0 _ _<|Zs f fun _ b7=>?_;refine Ze (Vn X6 y)<|Zo (Vw [vi 0,vi 0,vi 0,vi 0,vi 0] Xd e) ?_;rintro _ dH ⟨h,B⟩;have p:=e;have o:=Below.only o h z;have e:=B;refine Zt b7 fun a f=>?_
  refine Q6 (X4 f (Xx f rfl (ResV.cellN (l:=[vi 0,vi 0,vi 0,vi 0,vi 0]) rfl X6 (e.at 0) rfl)) ?_)
  exact ⟨(by rw [i];try rfl),o⟩
 have D:=J;have dI:=X19 J;refine Zs f fun _ b8=>?_;refine Ze (X1b rfl rfl)<|Za rfl<|Zt b8 fun a f=>?_
 refine Xl f rfl (fun M=>?_) (fun M=>?_)
 ·have E:=M;have hk:=eq_of_beq M
  have H:¬ g.k≤8:=by omega
  have hv:valS n g col=dPow 0:=by simp [valS,hk]
  refine Zs f fun _ b9=>?_;refine Zm rfl<|Zm rfl<|Ze (Vd rfl X1l 1)<|Ze (X0 rfl X9 (q.at 1))<|Zf (Vc (Xf4 _ n col g.a (by omega) (by omega) (by omega)) X70) ?_;rintro _ _ ⟨rfl,rfl⟩;refine Ze (X1b rfl rfl)<|Zt b9 fun a f=>?_
  refine Xl f rfl (fun N=>?_) (fun N=>?_)
  ·have aL:=N
   have C:toS n g col=flipF n col g.b:=by rw [toS,Q4 hk,Q4 (eq_of_beq N)]
   refine Zr f<|Zm rfl<|Zm rfl<|Ze (X1m rfl rfl (by omega) (by omega))<|Ze (Vd rfl X27 2)<|Ze (X0 rfl X9 (q.at 2))<|Ze (X1m rfl rfl (by omega) (by omega))<|Ze (Xea (m:=(n-1-g.b).toNat) Tryz.underlying3 Tryz.underlying100 rfl (by omega) (by omega))<|Ze (Xfw (m:=(n-1-g.b).toNat) rfl rfl rfl (by omega))<|Ze (Xkf rfl rfl)<|Za rfl ?_;refine Zn fun a f=>?_;refine Xn<|aI _ _<|Q5 fun _ bC=>?_;refine Zs f fun _ bD=>?_;refine Zm rfl<|Zm rfl<|Ze (X1b rfl rfl)<|Zt bD fun a f=>?_
   refine Xl f rfl (fun Q=>?_) (fun Q=>?_)
   ·have aM:=Q
    have i:cellS n g row col=valS n g col:=by rw [cellS,Q3 H,Q4 ((eq_of_beq Q).trans C.symm)]
    rw [hv] at i
    refine Zs f fun _ bE=>?_;refine Ze (Vn X6 x)<|Zo (Vw [vi ((dPow 0).num.a),vi ((dPow 0).num.b),vi ((dPow 0).num.c),vi ((dPow 0).num.d),vi ((dPow 0).exp)] Xd e) ?_;rintro _ dJ ⟨h,B⟩;have p:=e;have o:=Below.only o h z;have e:=B;refine Zt bE fun a f=>?_;refine Q6<|Xf<|X4 f (Xx f rfl (ResV.cellN (l:=[vi ((dPow 0).num.a),vi ((dPow 0).num.b),vi ((dPow 0).num.c),vi ((dPow 0).num.d),vi ((dPow 0).exp)]) rfl X6 (e.at 0) rfl)) ?_;exact ⟨(by rw [i];try rfl),o⟩
   have aM:=Q
   have i:cellS n g row col=dZ:=by rw [cellS,Q3 H,Q3 (fun e9=>X19 Q (e9.trans C))]
   refine Q7<|bC _ _<|Zs f fun _ bF=>?_;refine Ze (Vn X6 y)<|Zo (Vw [vi 0,vi 0,vi 0,vi 0,vi 0] Xd e) ?_;rintro _ dK ⟨h,B⟩;have p:=e;have o:=Below.only o h z;have e:=B;refine Zt bF fun a f=>?_
   refine Q6 (X4 f (Xx f rfl (ResV.cellN (l:=[vi 0,vi 0,vi 0,vi 0,vi 0]) rfl X6 (e.at 0) rfl)) ?_)
   exact ⟨(by rw [i];try rfl),o⟩
  have aL:=N
  have C:toS n g col=col:=by rw [toS,Q4 hk,Q3 (X19 N)]
  refine Q7<|Xn<|aI _ _<|Q5 fun _ bG=>?_;refine Zs f fun _ bH=>?_;refine Zm rfl<|Zm rfl<|Ze (X1b rfl rfl)<|Zt bH fun a f=>?_
  refine Xl f rfl (fun U=>?_) (fun U=>?_)
  ·have aN:=U
   have i:cellS n g row col=valS n g col:=by rw [cellS,Q3 H,Q4 ((eq_of_beq U).trans C.symm)]
   rw [hv] at i
   refine Zs f fun _ bI=>?_;refine Ze (Vn X6 x)<|Zo (Vw [vi ((dPow 0).num.a),vi ((dPow 0).num.b),vi ((dPow 0).num.c),vi ((dPow 0).num.d),vi ((dPow 0).exp)] Xd e) ?_;rintro _ dL ⟨h,B⟩;have p:=e;have o:=Below.only o h z;have e:=B;refine Zt bI fun a f=>?_;refine Q6<|Xf<|X4 f (Xx f rfl (ResV.cellN (l:=[vi ((dPow 0).num.a),vi ((dPow 0).num.b),vi ((dPow 0).num.c),vi ((dPow 0).num.d),vi ((dPow 0).exp)]) rfl X6 (e.at 0) rfl)) ?_;exact ⟨(by rw [i];try rfl),o⟩
  have aN:=U
  have i:cellS n g row col=dZ:=by rw [cellS,Q3 H,Q3 (fun e9=>X19 U (e9.trans C))]
  refine Q7<|bG _ _<|Zs f fun _ bJ=>?_;refine Ze (Vn X6 y)<|Zo (Vw [vi 0,vi 0,vi 0,vi 0,vi 0] Xd e) ?_;rintro _ dM ⟨h,B⟩;have p:=e;have o:=Below.only o h z;have e:=B;refine Zt bJ fun a f=>?_
  refine Q6 (X4 f (Xx f rfl (ResV.cellN (l:=[vi 0,vi 0,vi 0,vi 0,vi 0]) rfl X6 (e.at 0) rfl)) ?_)
  exact ⟨(by rw [i];try rfl),o⟩
 have E:=M;have h9:=X19 M;refine Zs f fun _ bK=>?_;refine Ze (X1b rfl rfl)<|Za rfl<|Zt bK fun a f=>?_
 refine Xl f rfl (fun W=>?_) (fun W=>?_)
 ·have G:=W;have hk:=eq_of_beq W
  have H:¬ g.k≤8:=by omega
  have C:toS n g col=col:=by simp [toS,hk]
  refine Q5 fun _ bL=>?_;refine X02 (fun a w=>Fr a 119 [(2,vi row),(8,.pointer (some ⟨b3,0,none⟩)),(9,.pointer (some ⟨b5,0,none⟩)),(10,.pointer (some ⟨b6,0,none⟩)),(11,vi col),(82,.bool (((bitF n col g.a)==1)&&((bitF n col g.b)==1)))]∧w7=w) ?_ ?_
  ·refine Zr f<|Zm rfl<|Zm rfl<|Ze (Vd rfl X1l 1)<|Ze (X0 rfl X9 (q.at 1))<|Zf (Vc (Xf4 _ n col g.a (by omega) (by omega) (by omega)) X70) ?_;rintro _ _ ⟨rfl,rfl⟩;refine Ze (X1b rfl rfl)<|Zm rfl ?_
   refine Zg 75 rfl (fun t=>?_) (fun t=>?_)
   ·refine Zv (gW t) (X7 rfl) ?_;refine Zv (gW t) (X7 rfl) ?_;refine Zv (gW t) (Vd rfl X27 2) ?_;refine Zv (gW t) (X0 rfl X9 (q.at 2)) ?_;refine Zk (gW t) (Vc (Xf4 _ n col g.b (by omega) (by omega) (by omega)) X70) ?_;rintro _ _ ⟨rfl,rfl⟩;refine Zv (gW t) (X1b rfl rfl) ?_;refine Ze (Xe rfl t rfl) ?_;refine Zn fun a f=>?_;exact ⟨f.sub ⟨rfl,rfl,rfl,rfl,rfl,X2 rfl (by first|rfl|(simp only [D,E,G,t,bs];done)|simp [D,E,G,t]),trivial⟩,rfl⟩
   refine Zp (gP t) ?_;refine Zp (gP t) ?_;refine Zp (gP t) ?_;refine Zp (gP t) ?_;refine Zp (gP t) ?_;refine Zp (gP t) ?_;refine Ze (Xc rfl t rfl) ?_;refine Zn fun a f=>?_;exact ⟨f.sub ⟨rfl,rfl,rfl,rfl,rfl,X2 rfl (by first|rfl|(simp only [D,E,G,t,bs];done)|simp [D,E,G,t]),trivial⟩,rfl⟩
  rintro a _ ⟨f,rfl⟩;refine bL _ _ ?_
  refine Xl f rfl (fun aA=>?_) (fun aA=>?_)
  ·have aO:=aA
   have hv:valS n g col=dPow 4:=by have h9:bitF n col g.a=1∧bitF n col g.b=1:=(by simpa using aA);simp [valS,hk,h9]
   refine Zr f<|Zf (Vc (Xdn _ 4) X69) ?_;rintro _ dN ⟨rfl,A⟩;have e:=e.below A;have x:=x.below A;have y:=y.below A;have o:=btr o A;refine Zo (Vw [vi ((dPow 4).num.a),vi ((dPow 4).num.b),vi ((dPow 4).num.c),vi ((dPow 4).num.d),vi ((dPow 4).exp)] Xd x) ?_;rintro _ dP ⟨h,B⟩;have p:=x;have e:=e.only h (by omega);have y:=y.only h (by omega);have o:=Below.only o h aJ;have x:=B;refine Zn fun a f=>?_;refine Xn<|aI _ _<|Q5 fun _ bM=>?_;refine Zs f fun _ bN=>?_;refine Zm rfl<|Zm rfl<|Ze (X1b rfl rfl)<|Zt bN fun a f=>?_
   refine Xl f rfl (fun aB=>?_) (fun aB=>?_)
   ·have aP:=aB
    have i:cellS n g row col=valS n g col:=by rw [cellS,Q3 H,Q4 ((eq_of_beq aB).trans C.symm)]
    rw [hv] at i
    refine Zs f fun _ bO=>?_;refine Ze (Vn X6 x)<|Zo (Vw [vi ((dPow 4).num.a),vi ((dPow 4).num.b),vi ((dPow 4).num.c),vi ((dPow 4).num.d),vi ((dPow 4).exp)] Xd e) ?_;rintro _ dQ ⟨h,B⟩;have p:=e;have o:=Below.only o h z;have e:=B;refine Zt bO fun a f=>?_;refine Q6<|Xf<|X4 f (Xx f rfl (ResV.cellN (l:=[vi ((dPow 4).num.a),vi ((dPow 4).num.b),vi ((dPow 4).num.c),vi ((dPow 4).num.d),vi ((dPow 4).exp)]) rfl X6 (e.at 0) rfl)) ?_;exact ⟨(by rw [i];try rfl),o⟩
   have aP:=aB
   have i:cellS n g row col=dZ:=by rw [cellS,Q3 H,Q3 (fun e9=>X19 aB (e9.trans C))]
   refine Q7<|bM _ _<|Zs f fun _ bP=>?_;refine Ze (Vn X6 y)<|Zo (Vw [vi 0,vi 0,vi 0,vi 0,vi 0] Xd e) ?_;rintro _ dR ⟨h,B⟩;have p:=e;have o:=Below.only o h z;have e:=B;refine Zt bP fun a f=>?_
   refine Q6 (X4 f (Xx f rfl (ResV.cellN (l:=[vi 0,vi 0,vi 0,vi 0,vi 0]) rfl X6 (e.at 0) rfl)) ?_)
   exact ⟨(by rw [i];try rfl),o⟩
  have aO:=aA
  have hv:valS n g col=dPow 0:=by have h9:¬ (bitF n col g.a=1∧bitF n col g.b=1):=(by simpa using aA);simp only [valS,hk,h9];simp
  refine Q7<|Xn<|aI _ _<|Q5 fun _ bQ=>?_;refine Zs f fun _ bR=>?_;refine Zm rfl<|Zm rfl<|Ze (X1b rfl rfl)<|Zt bR fun a f=>?_
  refine Xl f rfl (fun aC=>?_) (fun aC=>?_)
  ·have aQ:=aC
   have i:cellS n g row col=valS n g col:=by rw [cellS,Q3 H,Q4 ((eq_of_beq aC).trans C.symm)]
   rw [hv] at i
   refine Zs f fun _ bS=>?_;refine Ze (Vn X6 x)<|Zo (Vw [vi ((dPow 0).num.a),vi ((dPow 0).num.b),vi ((dPow 0).num.c),vi ((dPow 0).num.d),vi ((dPow 0).exp)] Xd e) ?_;rintro _ dS ⟨h,B⟩;have p:=e;have o:=Below.only o h z;have e:=B;refine Zt bS fun a f=>?_;refine Q6<|Xf<|X4 f (Xx f rfl (ResV.cellN (l:=[vi ((dPow 0).num.a),vi ((dPow 0).num.b),vi ((dPow 0).num.c),vi ((dPow 0).num.d),vi ((dPow 0).exp)]) rfl X6 (e.at 0) rfl)) ?_;exact ⟨(by rw [i];try rfl),o⟩
  have aQ:=aC
  have i:cellS n g row col=dZ:=by rw [cellS,Q3 H,Q3 (fun e9=>X19 aC (e9.trans C))]
  refine Q7<|bQ _ _<|Zs f fun _ bU=>?_;refine Ze (Vn X6 y)<|Zo (Vw [vi 0,vi 0,vi 0,vi 0,vi 0] Xd e) ?_;rintro _ dT ⟨h,B⟩;have p:=e;have o:=Below.only o h z;have e:=B;refine Zt bU fun a f=>?_
  refine Q6 (X4 f (Xx f rfl (ResV.cellN (l:=[vi 0,vi 0,vi 0,vi 0,vi 0]) rfl X6 (e.at 0) rfl)) ?_)
  exact ⟨(by rw [i];try rfl),o⟩
 have G:=W;have dU:=X19 W;refine Zs f fun _ bW=>?_;refine Ze (X1b rfl rfl)<|Za rfl<|Zt bW fun a f=>?_
 refine Xl f rfl (fun aD=>?_) (fun aD=>?_)
 ·have aR:=aD;have hk:=eq_of_beq aD
  have H:¬ g.k≤8:=by omega
  have hv:valS n g col=dPow 0:=by simp [valS,hk]
  refine Q5 fun _ bZ=>?_;refine Xz none (fun _=>false) mixed ?_;intro dW A;have q:=q.below A;have e:=e.below A;have x:=x.below A;have y:=y.below A;have o:=btr o A;refine Yb f<|Yo 0 rfl (fun _=>X7 rfl)<|Yo 1 rfl (fun _=>X7 rfl)<|Yo 2 rfl (fun _=>Vd rfl X1l 1)<|Ye 3 rfl (X0 rfl X9 (q.at 1))<|Yo 5 rfl (fun _=>X7 rfl)<|Yo 6 rfl (fun _=>X7 rfl)<|Yo 7 rfl (fun _=>Vd rfl X27 2)<|Ye 8 rfl (X0 rfl X9 (q.at 2))<|Y1 4 ?_;refine Yz rfl trivial (Vc (Xf4 _ n col g.a (by omega) (by omega) (by omega)) X70) ?_;refine Y1 9<|Yz rfl trivial (Vc (Xf4 _ n col g.b (by omega) (by omega) (by omega)) X70) ?_;refine Yo 10 rfl (fun _=>X4h rfl rfl) ?_;refine Yd fun a f=>?_;refine bZ _ _ ?_
  refine Xl f rfl (fun aE=>?_) (fun aE=>?_)
  ·have aS:=aE
   have C:toS n g col=flipF n (flipF n col g.a) g.b:=by have h9:bitF n col g.a≠bitF n col g.b:=(by simpa using aE);simp [toS,hk,h9]
   refine Zr f<|Zm rfl<|Zm rfl<|Ze (X1m rfl rfl (by omega) (by omega))<|Ze (Vd rfl X1l 1)<|Ze (X0 rfl X9 (q.at 1))<|Ze (X1m rfl rfl (by omega) (by omega))<|Ze (Xea (m:=(n-1-g.a).toNat) Tryz.underlying3 Tryz.underlying100 rfl (by omega) (by omega))<|Ze (Xfw (m:=(n-1-g.a).toNat) rfl rfl rfl (by omega))<|Ze (Xkf rfl rfl)<|Zm rfl ?_;refine Ze (X1m rfl rfl (by omega) (by omega))<|Ze (Vd rfl X27 2)<|Ze (X0 rfl X9 (q.at 2))<|Ze (X1m rfl rfl (by omega) (by omega))<|Ze (Xea (m:=(n-1-g.b).toNat) Tryz.underlying3 Tryz.underlying100 rfl (by omega) (by omega))<|Ze (Xfw (m:=(n-1-g.b).toNat) rfl rfl rfl (by omega))<|Ze (Xkf rfl rfl)<|Za rfl ?_;refine Zn fun a f=>?_;refine Xn<|aI _ _<|Q5 fun _ cA=>?_;refine Zs f fun _ cB=>?_;refine Zm rfl<|Zm rfl<|Ze (X1b rfl rfl)<|Zt cB fun a f=>?_
   refine Xl f rfl (fun aF=>?_) (fun aF=>?_)
   ·have aT:=aF
    have i:cellS n g row col=valS n g col:=by rw [cellS,Q3 H,Q4 ((eq_of_beq aF).trans C.symm)]
    rw [hv] at i
    refine Zs f fun _ cC=>?_;refine Ze (Vn X6 x)<|Zo (Vw [vi ((dPow 0).num.a),vi ((dPow 0).num.b),vi ((dPow 0).num.c),vi ((dPow 0).num.d),vi ((dPow 0).exp)] Xd e) ?_;rintro _ dX ⟨h,B⟩;have p:=e;have o:=Below.only o h z;have e:=B;refine Zt cC fun a f=>?_;refine Q6<|Xf<|X4 f (Xx f rfl (ResV.cellN (l:=[vi ((dPow 0).num.a),vi ((dPow 0).num.b),vi ((dPow 0).num.c),vi ((dPow 0).num.d),vi ((dPow 0).exp)]) rfl X6 (e.at 0) rfl)) ?_;exact ⟨(by rw [i];try rfl),o⟩
   have aT:=aF
   have i:cellS n g row col=dZ:=by rw [cellS,Q3 H,Q3 (fun e9=>X19 aF (e9.trans C))]
   refine Q7<|cA _ _<|Zs f fun _ cD=>?_;refine Ze (Vn X6 y)<|Zo (Vw [vi 0,vi 0,vi 0,vi 0,vi 0] Xd e) ?_;rintro _ dY ⟨h,B⟩;have p:=e;have o:=Below.only o h z;have e:=B;refine Zt cD fun a f=>?_
   refine Q6 (X4 f (Xx f rfl (ResV.cellN (l:=[vi 0,vi 0,vi 0,vi 0,vi 0]) rfl X6 (e.at 0) rfl)) ?_)
   exact ⟨(by rw [i];try rfl),o⟩
  have aS:=aE
  have C:toS n g col=col:=by have h9:bitF n col g.a=bitF n col g.b:=(by simpa using aE);simp [toS,hk,h9]
  refine Q7<|Xn<|aI _ _<|Q5 fun _ cE=>?_;refine Zs f fun _ cF=>?_;refine Zm rfl<|Zm rfl<|Ze (X1b rfl rfl)<|Zt cF fun a f=>?_
  refine Xl f rfl (fun aG=>?_) (fun aG=>?_)
  ·have aU:=aG
   have i:cellS n g row col=valS n g col:=by rw [cellS,Q3 H,Q4 ((eq_of_beq aG).trans C.symm)]
   rw [hv] at i
   refine Zs f fun _ cG=>?_;refine Ze (Vn X6 x)<|Zo (Vw [vi ((dPow 0).num.a),vi ((dPow 0).num.b),vi ((dPow 0).num.c),vi ((dPow 0).num.d),vi ((dPow 0).exp)] Xd e) ?_;rintro _ e7 ⟨h,B⟩;have p:=e;have o:=Below.only o h z;have e:=B;refine Zt cG fun a f=>?_;refine Q6<|Xf<|X4 f (Xx f rfl (ResV.cellN (l:=[vi ((dPow 0).num.a),vi ((dPow 0).num.b),vi ((dPow 0).num.c),vi ((dPow 0).num.d),vi ((dPow 0).exp)]) rfl X6 (e.at 0) rfl)) ?_;exact ⟨(by rw [i];try rfl),o⟩
  have aU:=aG
  have i:cellS n g row col=dZ:=by rw [cellS,Q3 H,Q3 (fun e9=>X19 aG (e9.trans C))]
  refine Q7<|cE _ _<|Zs f fun _ cH=>?_;refine Ze (Vn X6 y)<|Zo (Vw [vi 0,vi 0,vi 0,vi 0,vi 0] Xd e) ?_;rintro _ e8 ⟨h,B⟩;have p:=e;have o:=Below.only o h z;have e:=B;refine Zt cH fun a f=>?_
  refine Q6 (X4 f (Xx f rfl (ResV.cellN (l:=[vi 0,vi 0,vi 0,vi 0,vi 0]) rfl X6 (e.at 0) rfl)) ?_)
  exact ⟨(by rw [i];try rfl),o⟩
 have aR:=aD;have eA:=X19 aD
 have H:g.k≤8:=by omega
 refine Q5 fun _ cJ=>?_;refine Zs f fun _ cK=>?_;refine Zm rfl<|Zm rfl<|Ze (Xkf rfl rfl)<|Zm rfl<|Ze (X1m rfl rfl (by omega) (by omega))<|Ze (Vd rfl X1l 1)<|Ze (X0 rfl X9 (q.at 1))<|Ze (X1m rfl rfl (by omega) (by omega))<|Ze (Xea (m:=(n-1-g.a).toNat) Tryz.underlying3 Tryz.underlying100 rfl (by omega) (by omega))<|Ze (Xfw (m:=(n-1-g.a).toNat) rfl rfl rfl (by omega)) ?_;refine Ze (Xp6 rfl rfl)<|Ze (X4h rfl rfl)<|Zt cK fun a f=>?_
 refine Xl f rfl (fun aH=>?_) (fun aH=>?_)
 ·have aW:=aH
  have i:cellS n g row col=dZ:=by rw [cellS,Q4 H,Q4 (by simpa using aH)]
  refine Zs f fun _ cM=>?_;refine Ze (Vn X6 y)<|Zo (Vw [vi 0,vi 0,vi 0,vi 0,vi 0] Xd e) ?_;rintro _ eB ⟨h,B⟩;have p:=e;have o:=Below.only o h z;have e:=B;refine Zt cM fun a f=>?_;refine Q6<|Xf<|X05<|Xf ?_;refine X4 f (Xx f rfl (ResV.cellN (l:=[vi 0,vi 0,vi 0,vi 0,vi 0]) rfl X6 (e.at 0) rfl)) ?_;exact ⟨(by rw [i];try rfl),o⟩
 have aW:=aH
 have i:cellS n g row col=(oneL g.k).getD (2*bitF n row g.a+bitF n col g.a).toNat dZ:=by rw [cellS,Q4 H,Q3 (by simpa using aH)]
 refine Q7<|cJ _ _<|Q5 fun _ cO=>?_;refine Xz none (fun j=>[17].contains j) mixed ?_;intro eC A;have q:=q.below A;have e:=e.below A;have y:=y.below A;have o:=btr o A;refine Yb f<|Yo 0 rfl (fun _=>Vd rfl X2i 0)<|Ye 1 rfl (X0 rfl X9 (q.at 0))<|Yo 3 rfl (fun _=>X7 rfl)<|Yo 4 rfl (fun _=>X7 rfl)<|Yo 5 rfl (fun _=>Vd rfl X1l 1)<|Ye 6 rfl (X0 rfl X9 (q.at 1))<|Yo 9 rfl (fun _=>X7 rfl)<|Yo 10 rfl (fun _=>X7 rfl)<|Yo 11 rfl (fun _=>Vd rfl X1l 1)<|Ye 12 rfl (X0 rfl X9 (q.at 1)) ?_;refine Y1 2<|Yk rfl trivial (Vc (Xxr _ g.k (by omega)) Xn1) (fun _ _ ⟨dA,dB,_,I,A⟩=>A) ?_;rintro _ eD ⟨dA,dB,rfl,I,A⟩;have cP:=I.awayNew e.lt;have cQ:=I.awayNew y.lt;have I:=I.lower o.size;have e:=e.below A;have o:=btr o A;refine Y1 7<|Yz rfl trivial (Vc (Xf4 _ n row g.a (by omega) (by omega) (by omega)) X70) ?_;refine Yo 8 rfl (fun _=>X7x rfl rfl (by omega) (by omega))<|Y1 13 ?_;refine Yz rfl trivial (Vc (Xf4 _ n col g.a (by omega) (by omega) (by omega)) X70) ?_;refine Yo 14 rfl (fun _=>X03 rfl rfl (by omega) (by omega))<|Yi (k:=(2*bitF n row g.a+bitF n col g.a).toNat) (u:=((oneL g.k).getD (2*bitF n row g.a+bitF n col g.a).toNat dZ)) (enc:=encD) (l:=(oneL g.k)) 15 rfl trivial rfl rfl X01 Xd X06 I.rd (Xm2 (by omega)) (by omega) ?_;intro eE aX;refine Ye 16 rfl (X09 (l:=[vi (((oneL g.k).getD (2*bitF n row g.a+bitF n col g.a).toNat dZ).num.a),vi (((oneL g.k).getD (2*bitF n row g.a+bitF n col g.a).toNat dZ).num.b),vi (((oneL g.k).getD (2*bitF n row g.a+bitF n col g.a).toNat dZ).num.c),vi (((oneL g.k).getD (2*bitF n row g.a+bitF n col g.a).toNat dZ).num.d),vi (((oneL g.k).getD (2*bitF n row g.a+bitF n col g.a).toNat dZ).exp)]) rfl X6 aX rfl)<|Y1 17 ?_
 refine Yh rfl trivial rfl (Vw [vi (((oneL g.k).getD (2*bitF n row g.a+bitF n col g.a).toNat dZ).num.a),vi (((oneL g.k).getD (2*bitF n row g.a+bitF n col g.a).toNat dZ).num.b),vi (((oneL g.k).getD (2*bitF n row g.a+bitF n col g.a).toNat dZ).num.c),vi (((oneL g.k).getD (2*bitF n row g.a+bitF n col g.a).toNat dZ).num.d),vi (((oneL g.k).getD (2*bitF n row g.a+bitF n col g.a).toNat dZ).exp)] Xd e) ?_;rintro _ eF ⟨h,B⟩;have p:=e;have o:=Below.only o h z;have e:=B;refine Yd fun a f=>?_;refine cO _ _<|Q6<|X05<|Xf ?_;refine X4 f (Xx f rfl (ResV.cellN (l:=[vi (((oneL g.k).getD (2*bitF n row g.a+bitF n col g.a).toNat dZ).num.a),vi (((oneL g.k).getD (2*bitF n row g.a+bitF n col g.a).toNat dZ).num.b),vi (((oneL g.k).getD (2*bitF n row g.a+bitF n col g.a).toNat dZ).num.c),vi (((oneL g.k).getD (2*bitF n row g.a+bitF n col g.a).toNat dZ).num.d),vi (((oneL g.k).getD (2*bitF n row g.a+bitF n col g.a).toNat dZ).exp)]) rfl X6 (e.at 0) rfl)) ?_;exact ⟨(by rw [i];try rfl),o⟩
theorem Y0s(H:World)(n:Int)(g:Gt)(W:gOk n g=true) : Ret Tryz.prog 87 [vi n,.agg #[vi g.k,vi g.a,vi g.b]] H (fun v w=>∃ A c,v=mV A c (gateS n g)∧Own w H.heap.size 53 5 encD A c (gateS n g).cells∧Below H.heap.size H w):=by
 have aZ:=X28 W
 obtain ⟨d,hd⟩ : ∃ d:Nat,d=2^n.toNat:=⟨_,rfl⟩
 have aI:d≤32:=by rw [hd];exact X5v aZ.1.2
 refine enter Tryz.func87 rfl 36 rfl rfl ?_;intro a t
 have p:=bz H
 refine Zs t fun _ b0=>?_;refine Zf (X0j (zs:=[vi g.k,vi g.a,vi g.b]) rfl rfl) ?_;rintro _ w1 ⟨b2,rfl,J,y,e⟩;have b8:=Q0 p.size J;have p:=btr p y;refine Zf (X3 (zs:=[vi 0,vi 0,.slice none 0 0]) X0y rfl) ?_;rintro _ w2 ⟨b4,rfl,b1,y,f⟩;have aJ:=Q0 p.size b1;have e:=e.below y;have p:=btr p y;refine Zx b0 fun a t _ b3=>?_;refine Zm rfl<|Ze (Xea (m:=n.toNat) Tryz.underlying3 Tryz.underlying100 rfl (by omega) (by omega))<|Ze (Xet (m:=n.toNat) (D:=d) rfl rfl rfl ⟨hd,by omega⟩)<|Za rfl<|Zx b3 fun a t _ b5=>?_;refine Zm rfl<|Zm rfl<|Ze (Xg (ps:=[(0,vi (d:Int)),(1,vi (d:Int))]) (cs:=[vi (d:Int),vi (d:Int),.slice none 0 0]) rfl (fun _=>by first|rfl|kernel_rfl))<|Zf (X3 (zs:=[vi 0,vi 0,.slice none 0 0]) X0y rfl) ?_;rintro _ w3 ⟨b9,rfl,b6,y,o⟩
 have aY:b4≠b9:=by have:=f.lt;omega
 have aA:=Q0 p.size b6;have e:=e.below y;have f:=f.below y;have p:=btr p y;refine Zo (Vw [vi (d:Int),vi (d:Int),.slice none 0 0] X0b o) ?_;rintro _ w4 ⟨L,hb⟩;have z:=o;have e:=e.only L (Blk.ne e z rfl);have f:=f.only L (by omega);have p:=Below.only p L aA;have o:=hb;refine ZX b5 fun a t _ aK=>?_;refine Zs t fun _ aL=>?_;refine Za rfl<|Zt aL fun a t=>?_;refine Q8<|X07 (σ:=Nat×(List Dy)) (fun (s:Nat×(List Dy)) (a:Act) (w:World)=>match s with|(i,l)=>∃ C E,Fr a 36 [(0,vi n),(3,.pointer (some ⟨b2,0,none⟩)),(4,.pointer (some ⟨b4,0,none⟩)),(5,vi (d:Int)),(6,.pointer (some ⟨b9,0,none⟩)),(7,vi (i:Int))]∧(i≤d)∧(gridL (fun i j=>cellS n g (i:Int) (j:Int)) d (i*d)=l)∧Blk w b2 103 [vi g.k,vi g.a,vi g.b]∧Blk w b4 29 [vi 0,vi 0,.slice none 0 0]∧Blk w b9 29 [vi (d:Int),vi (d:Int),.slice C l.length E]∧Own w H.heap.size 53 5 encD C E l∧Below H.heap.size H w) (fun (s:Nat×(List Dy))=>match s with|(i,l)=>d-i) (0,[]) ?_ ?_
 ·exact ⟨none,0,t.sb,(Qf _),(by rw [Nat.zero_mul];rfl),e,f,o,(Own.nil _ _ _ _ _),p⟩
 rintro ⟨i,l⟩ a w5 ⟨C,E,t,bD,hl,e,f,o,G,p⟩;refine Q5 fun _ aM=>?_;refine Zs t fun _ aN=>?_;refine Zm rfl<|Zm rfl<|Ze (X1h rfl rfl)<|Zt aN fun a t=>?_
 refine Xl t rfl (fun u=>?_) (fun u=>?_)
 ·have aC:=u;have u:=Q2 u
  have aO:i<d:=by have:=u;omega
  have bE:i*d≤1024:=Q0 (Nat.mul_le_mul (show i≤32 by omega) aI) (by decide)
  refine Q7<|aM _ _<|Q5 fun _ aP=>?_;refine Q8<|Zs t fun _ aQ=>?_;refine Za rfl<|Zt aQ fun a t=>?_;refine Q8<|X07 (σ:=Nat×(List Dy)) (fun (s:Nat×(List Dy)) (a:Act) (w:World)=>match s with|(j,l2)=>∃ Q U,Fr a 36 [(0,vi n),(3,.pointer (some ⟨b2,0,none⟩)),(4,.pointer (some ⟨b4,0,none⟩)),(5,vi (d:Int)),(6,.pointer (some ⟨b9,0,none⟩)),(7,vi (i:Int)),(8,vi (j:Int))]∧(j≤d)∧(gridL (fun i j=>cellS n g (i:Int) (j:Int)) d (i*d+j)=l2)∧Blk w b2 103 [vi g.k,vi g.a,vi g.b]∧Blk w b4 29 [vi 0,vi 0,.slice none 0 0]∧Blk w b9 29 [vi (d:Int),vi (d:Int),.slice Q l2.length U]∧Own w H.heap.size 53 5 encD Q U l2∧Below H.heap.size H w) (fun (s:Nat×(List Dy))=>match s with|(j,l2)=>d-j) (0,l) ?_ ?_
  ·exact ⟨C,E,t.sb,(Qf _),hl,e,f,o,G,p⟩
  rintro ⟨j,l2⟩ a w6 ⟨Q,U,t,bF,J,e,f,o,q,p⟩;refine Q5 fun _ aR=>?_;refine Zs t fun _ aS=>?_;refine Zm rfl<|Zm rfl<|Ze (X1h rfl rfl)<|Zt aS fun a t=>?_
  refine Xl t rfl (fun x=>?_) (fun x=>?_)
  ·have aD:=x;have x:=Q2 x
   have aE:j<d:=by have:=x;omega
   have bC:l2.length=i*d+j:=by rw [← J,X2p]
   refine Q7<|aR _ _<|Q5 fun _ aT=>?_;refine Q8<|Xz none (fun j=>[8,10].contains j) mixed ?_;intro w7 y;have e:=e.below y;have f:=f.below y;have o:=o.below y;have q:=q.below y;have p:=btr p y;refine Yb t<|Yo 0 rfl (fun _=>Vd rfl X11 2)<|Ye 1 rfl (X0 rfl X0p (o.at 2))<|Yo 2 rfl (fun _=>X7 rfl)<|Ye 3 rfl (Vn X61 e)<|Yo 4 rfl (fun _=>X7 rfl)<|Yo 5 rfl (fun _=>X7 rfl)<|Y1 6 ?_;refine Yk rfl trivial (Vc (Xzo _ n g (i:Int) (j:Int) W) Xtr) (fun _ _ ⟨_,y⟩=>y) ?_;rintro _ w8 ⟨rfl,y⟩;have e:=e.below y;have f:=f.below y;have o:=o.below y;have q:=q.below y;have p:=btr p y;refine Y1 7<|Yk rfl trivial (Xb (k:=1) (vs:=[.agg #[vi ((cellS n g (i:Int) (j:Int)).num.a),vi ((cellS n g (i:Int) (j:Int)).num.b),vi ((cellS n g (i:Int) (j:Int)).num.c),vi ((cellS n g (i:Int) (j:Int)).num.d),vi ((cellS n g (i:Int) (j:Int)).exp)]]) (zs:=[vi ((cellS n g (i:Int) (j:Int)).num.a),vi ((cellS n g (i:Int) (j:Int)).num.b),vi ((cellS n g (i:Int) (j:Int)).num.c),vi ((cellS n g (i:Int) (j:Int)).num.d),vi ((cellS n g (i:Int) (j:Int)).exp)]) rfl X01 X13 rfl rfl) (fun _ _ ⟨_,_,_,h,_⟩=>h) ?_;rintro _ w9 ⟨bG,rfl,aB,y,M⟩;have b7:=Q0 p.size aB;have I:=q.away aB;have e:=e.below y;have f:=f.below y;have o:=o.below y;have q:=q.below y;have p:=btr p y;refine Y1 8<|Yt rfl trivial rfl (X0q (enc:=encD) (l:=(l2)) (l2:=([(cellS n g (i:Int) (j:Int))])) (B0:=H.heap.size) rfl rfl X01 X13 X06 X2h q (Rd.of_blk M rfl _ M.lt) (by simp only [maxLen];simp;omega) (by simp;omega) p.size) ?_;rintro _ bH ⟨aF,aG,rfl,N,W,aU⟩
   have B:Own _ H.heap.size 53 5 encD _ _ (l2):=q
   have aH:=aU _ M.lt I;clear aU;have e:=e.appT B W rfl;have f:=f.appT B W rfl;have o:=o.appT B W rfl;have p:=Below.app p B W (Qb _) p.size;clear B W;refine Yo 9 rfl (fun _=>Vd rfl X11 2)<|Y1 10 ?_;refine Yh rfl trivial rfl (Vu (vs:=[.slice aF (l2++([(cellS n g (i:Int) (j:Int))])).length aG]) (l':=[vi (d:Int),vi (d:Int),.slice aF (l2++([(cellS n g (i:Int) (j:Int))])).length aG]) rfl rfl X4a o) ?_;rintro _ bI ⟨L,hb⟩;have z:=o;have e:=e.only L (Blk.ne e z rfl);have f:=f.only L (by omega);have N:=N.onlyT L z rfl;have p:=Below.only p L aA;have o:=hb;refine Yd fun a t=>?_;refine Xn<|aT _ _<|Zr t<|Zm rfl<|Ze (X03 rfl rfl (by omega) (by omega))<|Za rfl ?_;refine Zn fun a t=>?_;refine Xo ?_;exact ⟨(j+1,l2++[(cellS n g (i:Int) (j:Int))]),⟨aF,aG,t.sb,(by omega),(by rw [X77 aE,J]),e,f,o,N,p⟩,(by first|omega|(dsimp only;omega))⟩
  have aD:=x;have x:=Q1 x
  have aE:j=d:=by have:=x;omega
  refine Q9<|Xm<|Xm<|X08 ?_;refine Xn<|aP _ _<|Zr t<|Zm rfl<|Ze (X03 rfl rfl (by omega) (by omega))<|Za rfl ?_;refine Zn fun a t=>?_;refine Xo ?_;exact ⟨(i+1,l2),⟨Q,U,t.sb,(by omega),(by rw [Wb,Nat.one_mul,← J,aE]),e,f,o,q,p⟩,(by first|omega|(dsimp only;omega))⟩
 have aC:=u;have u:=Q1 u
 have aO:i=d:=by have:=u;omega
 refine Q9<|Xm<|Xm<|X08 ?_;refine aK _ _<|Zs t fun _ aW=>?_;refine Ze (Vn Xr o)<|Zo (Vw [vi (d:Int),vi (d:Int),.slice C l.length E] X0b f) ?_;rintro _ bJ ⟨L,hb⟩;have z:=f;have G:=G.onlyT L z rfl;have p:=Below.only p L aJ;have f:=hb;refine Zt aW fun a t=>?_
 refine Q6 (X4 t (Xx t rfl (ResV.cellN (l:=[vi (d:Int),vi (d:Int),.slice C l.length E]) rfl Xr (f.at 0) rfl)) ?_)
 have aX:gateS n g=⟨(d:Int),(d:Int),l⟩:=by rw [gateS,← hl,aO,hd]
 rw [aX]
 exact ⟨C,E,rfl,G,p⟩
theorem Y0o(w0:World)(n:Int)(g:Gt)(s0:Int)(hg:gOk n g=true)(aF:9≤g.k∧g.k≤11) : Ret Tryz.prog 114 [vi n,.agg #[vi g.k,vi g.a,vi g.b],vi s0] w0 (fun v w=>v=vi (toS n g s0)∧Below w0.heap.size w0 w):=by
 have aB:=X28 hg
 have aO:=aB.2.2.1 (by omega)
 have aP:=aB.2.2.2 aF;refine enter Tryz.func114 rfl 51 rfl rfl ?_;intro a d
 have m:=bz w0
 refine Zs d fun _ aG=>?_;refine Zf (X0j (zs:=[vi g.k,vi g.a,vi g.b]) rfl rfl) ?_;rintro _ w1 ⟨b2,rfl,aH,hE,e⟩;have aN:=Q0 m.size aH;have m:=btr m hE;refine Za rfl<|ZX aG fun a d _ aI=>?_;refine Xz none (fun _=>false) mixed ?_;intro w2 hE;have e:=e.below hE;have m:=btr m hE;refine Yb d<|Yo 0 rfl (fun _=>X7 rfl)<|Yo 1 rfl (fun _=>X7 rfl)<|Yo 2 rfl (fun _=>Vd rfl X1l 1)<|Ye 3 rfl (X0 rfl X9 (e.at 1))<|Yo 5 rfl (fun _=>X7 rfl)<|Yo 6 rfl (fun _=>X7 rfl)<|Yo 7 rfl (fun _=>Vd rfl X27 2)<|Ye 8 rfl (X0 rfl X9 (e.at 2))<|Y1 4 ?_;refine Yz rfl trivial (Vc (Xj6 _ n s0 g.a (by omega) (by omega) (by omega)) X86) ?_;refine Y1 9<|Yz rfl trivial (Vc (Xj6 _ n s0 g.b (by omega) (by omega) (by omega)) X86) ?_;refine Yo 10 rfl (fun _=>X0i rfl)<|Yo 11 rfl (fun _=>X0i rfl) ?_;refine Yd fun a d=>?_;refine aI _ _<|Q5 fun _ aJ=>?_;refine Q8<|Q5 fun _ aK=>?_;refine X02 (fun a w=>Fr a 51 [(0,vi n),(2,vi s0),(4,.pointer (some ⟨b2,0,none⟩)),(7,vi (bitF n s0 g.a)),(8,vi (bitF n s0 g.b)),(19,.bool ((g.k==9)&&((bitF n s0 g.a)==1)))]∧w2=w) ?_ ?_
 ·refine Zr d<|Ze (Vd rfl X2i 0)<|Ze (X0 rfl X9 (e.at 0))<|Ze (X1b rfl rfl)<|Zm rfl ?_
  refine Zg 23 rfl (fun f=>?_) (fun f=>?_)
  ·refine Zv (gW f) (X7 rfl) ?_;refine Zv (gW f) (X1b rfl rfl) ?_;refine Ze (Xe rfl f rfl)<|Za rfl ?_;refine Zn fun a d=>?_;exact ⟨d.sub ⟨rfl,rfl,rfl,rfl,rfl,X2 rfl (by first|rfl|(simp only [f,bs];done)|simp [f]),trivial⟩,rfl⟩
  refine Zp (gP f) ?_;refine Zp (gP f) ?_;refine Ze (Xc rfl f rfl)<|Za rfl ?_;refine Zn fun a d=>?_;exact ⟨d.sub ⟨rfl,rfl,rfl,rfl,rfl,X2 rfl (by first|rfl|(simp only [f,bs];done)|simp [f]),trivial⟩,rfl⟩
 rintro a _ ⟨d,rfl⟩;refine aK _ _ ?_
 refine Xl d rfl (fun l=>?_) (fun l=>?_)
 ·have i:=l
  have h9:g.k=9∧bitF n s0 g.a=1:=by simpa using l
  refine Zs d fun _ aL=>?_;refine Zm rfl<|Zm rfl<|Ze (Vd rfl X27 2)<|Ze (X0 rfl X9 (e.at 2))<|Zf (Vc (Xqf _ n s0 g.b (by omega) (by omega) (by omega)) Xcm) ?_;rintro _ _ ⟨rfl,rfl⟩;refine Za rfl<|Zt aL fun a d=>?_;refine Q6<|X05<|Xf<|X4 d (Xx d rfl rfl) ?_;exact ⟨by rw [toS,Q4 h9.1,Q4 h9.2],m⟩
 have i:=l
 have h9:g.k=9→¬ bitF n s0 g.a=1:=by simpa using l
 refine Q5 fun _ aM=>?_;refine X02 (fun a w=>Fr a 51 [(0,vi n),(2,vi s0),(4,.pointer (some ⟨b2,0,none⟩)),(32,.bool ((g.k==11)&&((bitF n s0 g.a) != (bitF n s0 g.b))))]∧w2=w) ?_ ?_
 ·refine Zr d<|Ze (Vd rfl X2i 0)<|Ze (X0 rfl X9 (e.at 0))<|Ze (X1b rfl rfl)<|Zm rfl ?_
  refine Zg 36 rfl (fun c=>?_) (fun c=>?_)
  ·refine Zv (gW c) (X7 rfl) ?_;refine Zv (gW c) (X7 rfl) ?_;refine Zv (gW c) (X4h rfl rfl) ?_;refine Ze (Xe rfl c rfl)<|Za rfl ?_;refine Zn fun a d=>?_;exact ⟨d.sub ⟨rfl,rfl,rfl,X2 rfl (by first|rfl|(simp only [i,c,bs];done)|simp [i,c]),trivial⟩,rfl⟩
  refine Zp (gP c) ?_;refine Zp (gP c) ?_;refine Zp (gP c) ?_;refine Ze (Xc rfl c rfl)<|Za rfl ?_;refine Zn fun a d=>?_;exact ⟨d.sub ⟨rfl,rfl,rfl,X2 rfl (by first|rfl|(simp only [i,c,bs];done)|simp [i,c]),trivial⟩,rfl⟩
 rintro a _ ⟨d,rfl⟩;refine aM _ _ ?_
 refine Xl d rfl (fun j=>?_) (fun j=>?_)
 ·have aA:=j
  have o:g.k=11∧¬ bitF n s0 g.a=bitF n s0 g.b:=by simpa using j
  refine Q5 fun _ aC=>?_;refine Xz none (fun _=>false) mixed ?_;intro w3 hE;have e:=e.below hE;have m:=btr m hE;refine Yb d<|Yo 0 rfl (fun _=>X7 rfl)<|Yo 1 rfl (fun _=>X7 rfl)<|Yo 2 rfl (fun _=>X7 rfl)<|Yo 3 rfl (fun _=>Vd rfl X1l 1)<|Ye 4 rfl (X0 rfl X9 (e.at 1))<|Yo 6 rfl (fun _=>Vd rfl X27 2)<|Ye 7 rfl (X0 rfl X9 (e.at 2))<|Y1 5 ?_;refine Yz rfl trivial (Vc (Xqf _ n s0 g.a (by omega) (by omega) (by omega)) Xcm) ?_;refine Y1 8<|Yz rfl trivial (Vc (Xqf _ n (flipF n s0 g.a) g.b (by omega) (by omega) (by omega)) Xcm) ?_;refine Yo 9 rfl (fun _=>X0i rfl) ?_;refine Yd fun a d=>?_;refine aC _ _<|Q6<|X05<|Xf ?_;refine X4 d (Xx d rfl rfl) ?_;exact ⟨by rw [toS,Q3 (by omega),Q4 o.1,Q4 o.2],m⟩
 have aA:=j
 have o:g.k=11→bitF n s0 g.a=bitF n s0 g.b:=by simpa using j
 refine Q7<|Xn<|aJ _ _<|Zs d fun _ aD=>?_;refine Zm rfl<|Za rfl<|Zt aD fun a d=>?_
 refine Q6 (X4 d (Xx d rfl rfl) ?_)
 have aE:toS n g s0=s0:=by unfold toS;split;rw [Q3 (h9 (by assumption))];split;rw [Q3 (by simpa using o (by assumption))];rfl
 exact ⟨by rw [aE],m⟩
def entI(p:Int×Int×Nat) : MapEntry:={ key:=.int .i64 p.1,val:=.int .i64 p.2.1,born:=p.2.2 }
def MapI(w:World)(b:Nat)(l:List (Int×Int×Nat))(clock:Nat) : Prop:=w.heap[b]? = some (.map (l.map entI).toArray clock)
theorem X7j{k:IntKind}{x:Int} : ∀ (l:List (Int×Int×Nat)) (i:Nat),(l.all fun p=>p.1 != x)=true→Instr.findNow (.int k) (.int .i64 x) (l.map entI) i=some none
 | [],_,_=>rfl
 | p::l,i,h=>by
  simp only [List.all_cons,Qd,bne_iff_ne] at h
  have h1:(x==p.1)=false:=by simpa using Ne.symm h.1
  simp only [List.map_cons,Instr.findNow,entI,Instr.sameNow,if_true,h1]
  exact X7j l (i+1) h.2
theorem X82{k:IntKind}{x v:Int} : ∀ (l:List (Int×Int×Nat)) (i:Nat),(l.find? fun p=>p.1==x).map (fun p=>p.2.1)=some v→∃ j,Instr.findNow (.int k) (.int .i64 x) (l.map entI) i=some (some (j,.int .i64 v))
 | [],_,h=>by cases h
 | p::l,i,h=>by
  by_cases hx:p.1=x
  ·refine ⟨i,?_⟩
   have h1:(p.1==x)=true:=by simpa using hx
   simp only [List.find?_cons,h1,Option.map_some,Option.some.injEq] at h
   have h2:(x==p.1)=true:=by simpa using hx.symm
   simp only [List.map_cons,Instr.findNow,entI,Instr.sameNow,if_true,h2,h]
  ·have h1:(p.1==x)=false:=by simpa using hx
   simp only [List.find?_cons,h1] at h
   obtain ⟨j,hj⟩:=X82 (k:=k) l (i+1) h
   refine ⟨j,?_⟩
   have h2:(x==p.1)=false:=by simpa using fun e=>hx e.symm
   simp only [List.map_cons,Instr.findNow,entI,Instr.sameNow,if_true,h2]
   exact hj
theorem MapI.below{w w':World}{b clock:Nat}{l:List (Int×Int×Nat)}(h:MapI w b l clock)(hb:Below w.heap.size w w') : MapI w' b l clock:=by
 have hlt:b<w.heap.size:=by
  rcases W4 b w.heap.size with h'|h'
  ·exact h'
  ·simp [MapI,We h'] at h
 exact (hb.block b hlt).trans h
theorem MapI.only{w w':World}{b b' clock:Nat}{l:List (Int×Int×Nat)}(h:MapI w b l clock)(ho:Only b' w w')(hne:b≠b') : MapI w' b l clock:=(ho.block b hne).trans h
theorem MapI.ne{w:World}{b b' clock:Nat}{l:List (Int×Int×Nat)}{T:TypeId}{cs:List Value}(h:MapI w b l clock)(hb:Blk w b' T cs) : b≠b':=by
 rintro rfl
 unfold MapI at h
 unfold Blk at hb
 rw [h] at hb
 cases hb
section
variable {P : Program} {a : Act} {w : World} {n : Nat} {e : Env} {ty : TypeId} {pos : String} {af : Array Edge} {g : Option (Nat × Bool)} {d : Option Tmp}
theorem Xff{T:TypeId} : Ef P ⟨d,.makeMap T none,ty,pos,af,g⟩ a w (fun v w'=>∃ b,v=.map (some b)∧w.heap.size≤b∧Below w.heap.size w w'∧MapI w' b [] 0):=by
 refine (Ef.of_run (v:=.map (some w.heap.size)) (w':=w.alloc (.map #[] 0)) ?_).mono fun v w' ⟨e1,e2⟩=>?_
 ·rfl
 ·subst e1;subst e2
  exact ⟨_,rfl,Qb _,(Below.refl _ _).alloc (Qb _) _,heap_alloc_new w _⟩
theorem Xl3{n:Nat}{e:List (Nat×Value)}{T:TypeId} : EfW P ⟨d,.makeMap T none,ty,pos,af,g⟩ n e w (fun v w'=>∃ b,v=.map (some b)∧w.heap.size≤b∧Below w.heap.size w w'∧MapI w' b [] 0):=fun a _=>Xff
theorem Xie{T K E:TypeId}{m x y:Operand}{b clock:Nat}{l:List (Int×Int×Nat)}{i j:Int}(hf:Fr a n e)(hm:ev e m=some (.map (some b)))(hx:ev e x=some (.int .i64 i))(hy:ev e y=some (.int .i64 j))(hT:P.underlying T=some (.map K E))(hK:P.underlying K=some (.int .i64))(hM:MapI w b l clock)(hnew:(l.all fun p=>p.1 != i)=true) :
  Ef P ⟨d,.insert T m x y,ty,pos,af,g⟩ a w (fun _ w'=>Only b w w'∧MapI w' b (l++[(i,j,clock)]) (clock+1)):=by
 have hfind:=X7j (k:=.i64) l 0 hnew
 have hck:(Instr.checkKey false 10000 K (.int .i64 i)).run P w=.ok () w:=MapKept.run_checkKey hK (show MapKept.IsKey (.int .i64) (.int .i64 i) from rfl) false 9999
 have hlt:b<w.heap.size:=by
  rcases W4 b w.heap.size with h'|h'
  ·exact h'
  ·simp [MapI,We h'] at hM
 unfold MapI at hM
 refine (Ef.of_skip (w':={ w with heap:=w.heap.setIfInBounds b (.map ((l++[(i,j,clock)]).map entI).toArray (clock+1)) }) ?_).mono fun v w' ⟨_,e2⟩=>?_
 ·simp [execOp,Instr.mapUpdate,hf.ev hm,hf.ev hx,hf.ev hy,X0v hT,getObj,hM,hck,Instr.findKey,X0v hK,hfind,setObj,Sem.run,entI]
 ·subst e2
  refine ⟨⟨rfl,rfl,rfl,by simp,fun k hk=>?_⟩,?_⟩
  ·show (w.heap.setIfInBounds b _)[k]? = _
   rw [Wh (Ne.symm hk)]
  ·show (w.heap.setIfInBounds b _)[b]? = _
   simp [hlt]
theorem X84{T K E:TypeId}{m x y:Operand}{b clock:Nat}{l:List (Int×Int×Nat)}{i j:Int}(hm:ev e m=some (.map (some b)))(hx:ev e x=some (.int .i64 i))(hy:ev e y=some (.int .i64 j))(hT:P.underlying T=some (.map K E))(hK:P.underlying K=some (.int .i64))(hM:MapI w b l clock)(hnew:(l.all fun p=>p.1 != i)=true) : EfW P ⟨d,.insert T m x y,ty,pos,af,g⟩ n e w (fun _ w'=>Only b w w'∧MapI w' b (l++[(i,j,clock)]) (clock+1)):=fun a hf=>Xie hf hm hx hy hT hK hM hnew
theorem Xij{T K E:TypeId}{m x:Operand}{b clock:Nat}{l:List (Int×Int×Nat)}{i v:Int}(hf:Fr a n e)(hm:ev e m=some (.map (some b)))(hx:ev e x=some (.int .i64 i))(hT:P.underlying T=some (.map K E))(hK:P.underlying K=some (.int .i64))(hM:MapI w b l clock)(hv:(l.find? fun p=>p.1==i).map (fun p=>p.2.1)=some v) :
  Ev P ⟨d,.lookup T m x false,ty,pos,af,g⟩ a w (.int .i64 v):=fun w' hw=>by
 obtain ⟨j,hj⟩:=X82 (k:=.i64) l 0 hv
 have hM':=hM.below hw
 have hck:∀ em,(Instr.checkKey em 10000 K (.int .i64 i)).run P w'=.ok () w':=fun em=>MapKept.run_checkKey hK (show MapKept.IsKey (.int .i64) (.int .i64 i) from rfl) em 9999
 unfold MapI at hM'
 simp [execOp,Instr.lookup,hf.ev hm,hf.ev hx,X0v hT,getObj,Sem.run,hM',hck,Instr.findKey,X0v hK,hj]
theorem Xpp{T K E:TypeId}{m x:Operand}{b clock:Nat}{l:List (Int×Int×Nat)}{i v:Int}(hm:ev e m=some (.map (some b)))(hx:ev e x=some (.int .i64 i))(hT:P.underlying T=some (.map K E))(hK:P.underlying K=some (.int .i64))(hM:MapI w b l clock)(hv:(l.find? fun p=>p.1==i).map (fun p=>p.2.1)=some v) : EvW P ⟨d,.lookup T m x false,ty,pos,af,g⟩ n e w (.int .i64 v):=fun a hf=>Xij hf hm hx hT hK hM hv
end
theorem Xzt(w0:World)(k:Int)(i:Int)(j:Int)(hk:1≤k∧k≤8)(hj:j=0∨j=1) : Ret Tryz.prog 117 [vi k,vi i,vi j] w0 (fun v w=>v=dV (entryI k i j)∧Below w0.heap.size w0 w):=by
 refine enter Tryz.func117 rfl 67 rfl rfl ?_;intro a f
 have m:=bz w0
 refine Zs f fun _ aR=>?_;refine Zf (X3 (zs:=[vi 0,vi 0,vi 0,vi 0,vi 0]) X0n rfl) ?_;rintro _ w1 ⟨b2,rfl,aS,E,e⟩;have D:=Q0 m.size aS;have m:=btr m E;refine Zx aR fun a f _ aT=>?_;refine Ze (Xg (ps:=[(0,vi 1)]) (cs:=[vi 1,vi 0,vi 0,vi 0]) rfl (fun _=>by first|rfl|kernel_rfl))<|Ze (Xg (ps:=[(0,.agg #[vi 1,vi 0,vi 0,vi 0]),(1,vi 1)]) (cs:=[vi 1,vi 0,vi 0,vi 0,vi 1]) rfl (fun _=>by first|rfl|kernel_rfl))<|Zf (X3 (zs:=[vi 0,vi 0,vi 0,vi 0,vi 0]) X0n rfl) ?_;rintro _ w2 ⟨b4,rfl,aU,E,n⟩
 have aQ:b2≠b4:=by have:=e.lt;omega
 have U:=Q0 m.size aU;have e:=e.below E;have m:=btr m E;refine Zo (Vw [vi 1,vi 0,vi 0,vi 0,vi 1] Xd n) ?_;rintro _ w3 ⟨p,G⟩;have C:=n;have e:=e.only p (by omega);have m:=Below.only m p U;have n:=G;refine Zx aT fun a f _ aW=>?_;refine Zf (Xl3) ?_;rintro _ w4 ⟨b6,rfl,aX,E,t⟩;have H:=Q0 m.size aX;have e:=e.below E;have n:=n.below E;have m:=btr m E;refine Zo (X84 (l:=[]) (clock:=0) rfl rfl rfl Tryz.underlying181 Tryz.underlying3 t rfl) ?_;rintro _ w5 ⟨p,q⟩;have e:=e.only p (Ne.symm (t.ne e));have n:=n.only p (Ne.symm (t.ne n));have m:=Below.only m p H
 have t:=q;clear q p;refine Zo (X84 (l:=[(4,4,0)]) (clock:=1) rfl rfl rfl Tryz.underlying181 Tryz.underlying3 t rfl) ?_;rintro _ w6 ⟨p,q⟩;have e:=e.only p (Ne.symm (t.ne e));have n:=n.only p (Ne.symm (t.ne n));have m:=Below.only m p H
 have t:=q;clear q p;refine Zo (X84 (l:=[(4,4,0),(5,2,1)]) (clock:=2) rfl rfl rfl Tryz.underlying181 Tryz.underlying3 t rfl) ?_;rintro _ w7 ⟨p,q⟩;have e:=e.only p (Ne.symm (t.ne e));have n:=n.only p (Ne.symm (t.ne n));have m:=Below.only m p H
 have t:=q;clear q p;refine Zo (X84 (l:=[(4,4,0),(5,2,1),(6,6,2)]) (clock:=3) rfl rfl rfl Tryz.underlying181 Tryz.underlying3 t rfl) ?_;rintro _ w8 ⟨p,q⟩;have e:=e.only p (Ne.symm (t.ne e));have n:=n.only p (Ne.symm (t.ne n));have m:=Below.only m p H
 have t:=q;clear q p;refine Zo (X84 (l:=[(4,4,0),(5,2,1),(6,6,2),(7,1,3)]) (clock:=4) rfl rfl rfl Tryz.underlying181 Tryz.underlying3 t rfl) ?_;rintro _ w9 ⟨p,q⟩;have e:=e.only p (Ne.symm (t.ne e));have n:=n.only p (Ne.symm (t.ne n));have m:=Below.only m p H
 have t:=q;clear q p;refine Zm rfl<|Za rfl<|ZX aW fun a f _ aY=>?_;refine Q8<|Zs f fun _ aZ=>?_;refine Zm rfl<|Ze (X1b rfl rfl)<|Za rfl<|Zt aZ fun a f=>?_
 refine Xl f rfl (fun Q=>?_) (fun Q=>?_)
 ·have g:=Q
  have W:k=1:=by simpa using Q
  refine Q5 fun _ aA=>?_;refine Q5 fun _ aE=>?_;refine X02 (fun a w=>Fr a 67 [(6,.pointer (some ⟨b2,0,none⟩)),(7,.pointer (some ⟨b4,0,none⟩)),(21,.bool ((i==1)&&(j==1)))]∧w9=w) ?_ ?_
  ·refine Zr f<|Zm rfl<|Ze (X1b rfl rfl)<|Zm rfl ?_
   refine Zg 18 rfl (fun A=>?_) (fun A=>?_)
   ·refine Zv (gW A) (X7 rfl) ?_;refine Zv (gW A) (X1b rfl rfl) ?_;refine Ze (Xe rfl A rfl) ?_;refine Zn fun a f=>?_;exact ⟨f.sub ⟨rfl,rfl,X2 rfl (by first|rfl|(simp only [g,A,bs];done)|simp [g,A]),trivial⟩,rfl⟩
   refine Zp (gP A) ?_;refine Zp (gP A) ?_;refine Ze (Xc rfl A rfl) ?_;refine Zn fun a f=>?_;exact ⟨f.sub ⟨rfl,rfl,X2 rfl (by first|rfl|(simp only [g,A,bs];done)|simp [g,A]),trivial⟩,rfl⟩
  rintro a _ ⟨f,rfl⟩;refine aE _ _ ?_
  refine Xl f rfl (fun I=>?_) (fun I=>?_)
  ·have aB:=I
   have u:entryI k i j=⟨⟨-1,0,0,0⟩,1⟩:=by rw [entryI,Q4 W,Q4 (by simpa using I)]
   refine Zr f<|Ze (Vd rfl X1i 0)<|Ze (Vd rfl X0c 0)<|Zo (Vu (vs:=[vi (-1)]) (l':=[vi (-1),vi 0,vi 0,vi 0,vi 1]) rfl rfl X65 n) ?_;rintro _ b1 ⟨p,G⟩;have C:=n;have e:=e.only p (by omega);have m:=Below.only m p U;have n:=G;refine Zx aA fun a f _ aF=>?_;refine Ze (Vn X6 n)<|Zo (Vw [vi (-1),vi 0,vi 0,vi 0,vi 1] Xd e) ?_;rintro _ b3 ⟨p,G⟩;have C:=e;have m:=Below.only m p D;have e:=G;refine Zt aF fun a f=>?_;refine Q6<|X05<|Xf<|X4 f (Xx f rfl (ResV.cellN (l:=[vi (-1),vi 0,vi 0,vi 0,vi 1]) rfl X6 (e.at 0) rfl)) ?_;exact ⟨(by rw [u];try rfl),m⟩
  have aB:=I
  have u:entryI k i j=dHalf:=by rw [entryI,Q4 W,Q3 (by simpa using I)]
  refine Q7<|aA _ _<|Zs f fun _ aG=>?_;refine Ze (Vn X6 n)<|Zo (Vw [vi 1,vi 0,vi 0,vi 0,vi 1] Xd e) ?_;rintro _ b5 ⟨p,G⟩;have C:=e;have m:=Below.only m p D;have e:=G;refine Zt aG fun a f=>?_;refine Q6<|X05<|Xf<|X4 f (Xx f rfl (ResV.cellN (l:=[vi 1,vi 0,vi 0,vi 0,vi 1]) rfl X6 (e.at 0) rfl)) ?_;exact ⟨(by rw [u];try rfl),m⟩
 have g:=Q
 have W:¬ k=1:=by simpa using Q
 refine Q5 fun _ aH=>?_;refine X02 (fun a w=>Fr a 67 [(0,vi k),(1,vi i),(2,vi j),(6,.pointer (some ⟨b2,0,none⟩)),(8,.map (some b6)),(25,.bool ((k==2)&&(i != j)))]∧w9=w) ?_ ?_
 ·refine Zr f<|Zm rfl<|Ze (X1b rfl rfl)<|Zm rfl ?_
  refine Zg 28 rfl (fun x=>?_) (fun x=>?_)
  ·refine Zv (gW x) (X7 rfl) ?_;refine Zv (gW x) (X7 rfl) ?_;refine Zv (gW x) (X4h rfl rfl) ?_;refine Ze (Xe rfl x rfl)<|Za rfl ?_;refine Zn fun a f=>?_;exact ⟨f.sub ⟨rfl,rfl,rfl,rfl,rfl,X2 rfl (by first|rfl|(simp only [g,x,bs];done)|simp [g,x]),trivial⟩,rfl⟩
  refine Zp (gP x) ?_;refine Zp (gP x) ?_;refine Zp (gP x) ?_;refine Ze (Xc rfl x rfl)<|Za rfl ?_;refine Zn fun a f=>?_;exact ⟨f.sub ⟨rfl,rfl,rfl,rfl,rfl,X2 rfl (by first|rfl|(simp only [g,x,bs];done)|simp [g,x]),trivial⟩,rfl⟩
 rintro a _ ⟨f,rfl⟩;refine aH _ _ ?_
 refine Xl f rfl (fun J=>?_) (fun J=>?_)
 ·have o:=J
  have u:entryI k i j=⟨⟨1,0,0,0⟩,0⟩:=by rw [entryI,Q3 W,Q4 (by simpa using J)]
  refine Zs f fun _ aI=>?_;refine Zf (Vc (Xik _ 1) X87) ?_;rintro _ b7 ⟨rfl,E⟩;have e:=e.below E;have m:=btr m E;refine Zo (Vw [vi ((⟨⟨1,0,0,0⟩,0⟩ : Dy).num.a),vi ((⟨⟨1,0,0,0⟩,0⟩ : Dy).num.b),vi ((⟨⟨1,0,0,0⟩,0⟩ : Dy).num.c),vi ((⟨⟨1,0,0,0⟩,0⟩ : Dy).num.d),vi ((⟨⟨1,0,0,0⟩,0⟩ : Dy).exp)] Xd e) ?_;rintro _ b8 ⟨p,G⟩;have C:=e;have m:=Below.only m p D;have e:=G;refine Zt aI fun a f=>?_;refine Q6<|X05<|Xf<|X4 f (Xx f rfl (ResV.cellN (l:=[vi ((⟨⟨1,0,0,0⟩,0⟩ : Dy).num.a),vi ((⟨⟨1,0,0,0⟩,0⟩ : Dy).num.b),vi ((⟨⟨1,0,0,0⟩,0⟩ : Dy).num.c),vi ((⟨⟨1,0,0,0⟩,0⟩ : Dy).num.d),vi ((⟨⟨1,0,0,0⟩,0⟩ : Dy).exp)]) rfl X6 (e.at 0) rfl)) ?_;exact ⟨(by rw [u];try rfl),m⟩
 have o:=J
 have e2:¬ (k=2∧i≠j):=by simpa using J
 refine Q5 fun _ aJ=>?_;refine X02 (fun a w=>Fr a 67 [(0,vi k),(1,vi i),(2,vi j),(6,.pointer (some ⟨b2,0,none⟩)),(8,.map (some b6)),(34,.bool ((k==3)&&(i != j)))]∧w9=w) ?_ ?_
 ·refine Zr f<|Zm rfl<|Ze (X1b rfl rfl)<|Zm rfl ?_
  refine Zg 37 rfl (fun y=>?_) (fun y=>?_)
  ·refine Zv (gW y) (X7 rfl) ?_;refine Zv (gW y) (X7 rfl) ?_;refine Zv (gW y) (X4h rfl rfl) ?_;refine Ze (Xe rfl y rfl)<|Za rfl ?_;refine Zn fun a f=>?_;exact ⟨f.sub ⟨rfl,rfl,rfl,rfl,rfl,X2 rfl (by first|rfl|(simp only [g,o,y,bs];done)|simp [g,o,y]),trivial⟩,rfl⟩
  refine Zp (gP y) ?_;refine Zp (gP y) ?_;refine Zp (gP y) ?_;refine Ze (Xc rfl y rfl)<|Za rfl ?_;refine Zn fun a f=>?_;exact ⟨f.sub ⟨rfl,rfl,rfl,rfl,rfl,X2 rfl (by first|rfl|(simp only [g,o,y,bs];done)|simp [g,o,y]),trivial⟩,rfl⟩
 rintro a _ ⟨f,rfl⟩;refine aJ _ _ ?_
 refine Xl f rfl (fun L=>?_) (fun L=>?_)
 ·have B:=L
  have b0:k=3∧i≠j:=(by simpa using L)
  have u:entryI k i j=dPow (2+4*j):=by rw [entryI,Q3 W,Q3 e2,Q4 b0]
  refine Zs f fun _ aK=>?_;refine Zm rfl<|Ze (X7x rfl rfl (by omega) (by omega))<|Ze (X03 rfl rfl (by omega) (by omega))<|Zf (Vc (Xc2 _ (2+(4*j)) (X0g.2 ⟨by omega,by omega⟩)) X53) ?_;rintro _ b9 ⟨rfl,E⟩;have e:=e.below E;have m:=btr m E;refine Zo (Vw [vi ((dPow (2+(4*j))).num.a),vi ((dPow (2+(4*j))).num.b),vi ((dPow (2+(4*j))).num.c),vi ((dPow (2+(4*j))).num.d),vi ((dPow (2+(4*j))).exp)] Xd e) ?_;rintro _ bC ⟨p,G⟩;have C:=e;have m:=Below.only m p D;have e:=G;refine Zt aK fun a f=>?_;refine Q6<|X05<|Xf<|X4 f (Xx f rfl (ResV.cellN (l:=[vi ((dPow (2+(4*j))).num.a),vi ((dPow (2+(4*j))).num.b),vi ((dPow (2+(4*j))).num.c),vi ((dPow (2+(4*j))).num.d),vi ((dPow (2+(4*j))).exp)]) rfl X6 (e.at 0) rfl)) ?_;exact ⟨(by rw [u];try rfl),m⟩
 have B:=L
 have e3:¬ (k=3∧i≠j):=by simpa using L
 refine Q5 fun _ aL=>?_;refine X02 (fun a w=>Fr a 67 [(0,vi k),(1,vi i),(6,.pointer (some ⟨b2,0,none⟩)),(8,.map (some b6)),(46,.bool (((k==2)||(k==3))||(i != j)))]∧w9=w) ?_ ?_
 ·refine Zr f<|Zm rfl<|Ze (X1b rfl rfl)<|Zm rfl ?_
  refine Zg 49 rfl (fun z=>?_) (fun z=>?_)
  ·refine Zp (gP z) ?_;refine Zp (gP z) ?_;refine Ze (Xe rfl z rfl)<|Zm rfl<|Zp (gP rfl) ?_;refine Zp (gP rfl) ?_;refine Zp (gP rfl) ?_;refine Ze (Xe rfl rfl rfl)<|Za rfl ?_;refine Zn fun a f=>?_;exact ⟨f.sub ⟨rfl,rfl,rfl,rfl,X2 rfl (by first|rfl|(simp only [g,o,B,z,bs];done)|simp [g,o,B,z]),trivial⟩,rfl⟩
  refine Zv (gW z) (X7 rfl) ?_;refine Zv (gW z) (X1b rfl rfl) ?_;refine Ze (Xc rfl z rfl)<|Zm rfl ?_
  refine Zg 53 rfl (fun h=>?_) (fun h=>?_)
  ·refine Zp (gP h) ?_;refine Zp (gP h) ?_;refine Zp (gP h) ?_;refine Ze (Xe rfl h rfl)<|Za rfl ?_;refine Zn fun a f=>?_;exact ⟨f.sub ⟨rfl,rfl,rfl,rfl,X2 rfl (by first|rfl|(simp only [g,o,B,z,h,bs];done)|simp [g,o,B,z,h]),trivial⟩,rfl⟩
  refine Zv (gW h) (X7 rfl) ?_;refine Zv (gW h) (X7 rfl) ?_;refine Zv (gW h) (X4h rfl rfl) ?_;refine Ze (Xc rfl h rfl)<|Za rfl ?_;refine Zn fun a f=>?_;exact ⟨f.sub ⟨rfl,rfl,rfl,rfl,X2 rfl (by first|rfl|(simp only [g,o,B,z,h,bs];done)|simp [g,o,B,z,h]),trivial⟩,rfl⟩
 rintro a _ ⟨f,rfl⟩;refine aL _ _ ?_
 refine Xl f rfl (fun M=>?_) (fun M=>?_)
 ·have aC:=M
  have u:entryI k i j=dZ:=by rw [entryI,Q3 W,Q3 e2,Q3 e3,Q4 (by simpa [or_assoc] using M)]
  refine Zs f fun _ aM=>?_;refine Ze (Xg (ps:=[]) (cs:=[vi 0,vi 0,vi 0,vi 0,vi 0]) rfl (fun _=>by first|rfl|kernel_rfl))<|Zo (Vw [vi 0,vi 0,vi 0,vi 0,vi 0] Xd e) ?_;rintro _ bD ⟨p,G⟩;have C:=e;have m:=Below.only m p D;have e:=G;refine Zt aM fun a f=>?_;refine Q6<|X05<|Xf<|X4 f (Xx f rfl (ResV.cellN (l:=[vi 0,vi 0,vi 0,vi 0,vi 0]) rfl X6 (e.at 0) rfl)) ?_;exact ⟨(by rw [u];try rfl),m⟩
 have aC:=M
 have e4:¬ (k=2∨k=3∨i≠j):=by simpa [not_or,and_assoc] using M
 refine Zs f fun _ aN=>?_;refine Zm rfl<|Ze (X1b rfl rfl)<|Za rfl<|Zt aN fun a f=>?_
 refine Xl f rfl (fun N=>?_) (fun N=>?_)
 ·have aD:=N
  have u:entryI k i j=⟨⟨1,0,0,0⟩,0⟩:=by rw [entryI,Q3 W,Q3 e2,Q3 e3,Q3 e4,Q4 (by simpa using N)]
  refine Zs f fun _ aO=>?_;refine Zf (Vc (Xik _ 1) X87) ?_;rintro _ bE ⟨rfl,E⟩;have e:=e.below E;have m:=btr m E;refine Zo (Vw [vi ((⟨⟨1,0,0,0⟩,0⟩ : Dy).num.a),vi ((⟨⟨1,0,0,0⟩,0⟩ : Dy).num.b),vi ((⟨⟨1,0,0,0⟩,0⟩ : Dy).num.c),vi ((⟨⟨1,0,0,0⟩,0⟩ : Dy).num.d),vi ((⟨⟨1,0,0,0⟩,0⟩ : Dy).exp)] Xd e) ?_;rintro _ bF ⟨p,G⟩;have C:=e;have m:=Below.only m p D;have e:=G;refine Zt aO fun a f=>?_;refine Q6<|X05<|Xf<|X4 f (Xx f rfl (ResV.cellN (l:=[vi ((⟨⟨1,0,0,0⟩,0⟩ : Dy).num.a),vi ((⟨⟨1,0,0,0⟩,0⟩ : Dy).num.b),vi ((⟨⟨1,0,0,0⟩,0⟩ : Dy).num.c),vi ((⟨⟨1,0,0,0⟩,0⟩ : Dy).num.d),vi ((⟨⟨1,0,0,0⟩,0⟩ : Dy).exp)]) rfl X6 (e.at 0) rfl)) ?_;exact ⟨(by rw [u];try rfl),m⟩
 have aD:=N
 have u:entryI k i j=dPow (turnOf k):=by rw [entryI,Q3 W,Q3 e2,Q3 e3,Q3 e4,Q3 (by simpa using N)]
 refine Q7<|Xn<|aY _ _<|Zs f fun _ aP=>?_;refine Zm rfl<|Zm rfl<|Ze (Xpp (v:=(turnOf k)) rfl rfl Tryz.underlying181 Tryz.underlying3 t (Xil (by omega) (by omega)))<|Zf (Vc (Xc2 _ (turnOf k) (Xip k)) X53) ?_;rintro _ bG ⟨rfl,E⟩;have e:=e.below E;have m:=btr m E;refine Zo (Vw [vi ((dPow (turnOf k)).num.a),vi ((dPow (turnOf k)).num.b),vi ((dPow (turnOf k)).num.c),vi ((dPow (turnOf k)).num.d),vi ((dPow (turnOf k)).exp)] Xd e) ?_;rintro _ bH ⟨p,G⟩;have C:=e;have m:=Below.only m p D;have e:=G;refine Zt aP fun a f=>?_
 refine Q6 (X4 f (Xx f rfl (ResV.cellN (l:=[vi ((dPow (turnOf k)).num.a),vi ((dPow (turnOf k)).num.b),vi ((dPow (turnOf k)).num.c),vi ((dPow (turnOf k)).num.d),vi ((dPow (turnOf k)).exp)]) rfl X6 (e.at 0) rfl)) ?_)
 exact ⟨(by rw [u];try rfl),m⟩
theorem Y0p(U:World)(g:Gt)(n:Int)(ba bb:Nat)(f:Blk U ba 103 (encG g))(m:Blk U bb 3 [vi n])(hg:gOk n g=true)(i j:Int) : Ret Tryz.prog 113 [vi i,vi j,.pointer (some ⟨ba,0,none⟩),.pointer (some ⟨bb,0,none⟩)] U (fun v w=>v=.tuple #[dV (cellI n g i j),.bool true]∧Below U.heap.size U w):=by
 have aM:=f.lt;have aN:=m.lt
 unfold encG at f
 have aC:=X28 hg;have aD:=X3j n j g.a;refine enter Tryz.func113 rfl 75 rfl rfl ?_;intro a t
 have u:=bz U
 refine Zs t fun _ aO=>?_;refine Zf (X3 (zs:=[vi 0,vi 0,vi 0,vi 0,vi 0]) X0n rfl) ?_;rintro _ w1 ⟨b2,rfl,aP,y,e⟩;have B:=Q0 u.size aP;have f:=f.below y;have m:=m.below y;have u:=btr u y;refine Za rfl<|ZX aO fun a t _ aA=>?_;refine Q8<|Zs t fun _ aQ=>?_;refine Ze (Vd rfl X2i 0)<|Ze (X0 rfl X9 (f.at 0))<|Ze (X1b rfl rfl)<|Za rfl<|Zt aQ fun a t=>?_
 refine Xl t rfl (fun M=>?_) (fun M=>?_)
 ·have C:=M;have W:=eq_of_beq M;refine Zs t fun _ aR=>?_;refine Zm rfl<|Zm rfl<|Ze (X1b rfl rfl)<|Zt aR fun a t=>?_
  refine Xl t rfl (fun N=>?_) (fun N=>?_)
  ·have aE:=N
   have z:cellI n g i j=dPow 1:=by rw [cellI,Q4 W,Q4 (eq_of_beq N)]
   refine Zs t fun _ aS=>?_;refine Zf (Vc (Xc2 _ 1 (by rfl)) X53) ?_;rintro _ w2 ⟨rfl,y⟩;have e:=e.below y;have u:=btr u y;refine Zo (Vw [vi ((dPow 1).num.a),vi ((dPow 1).num.b),vi ((dPow 1).num.c),vi ((dPow 1).num.d),vi ((dPow 1).exp)] Xd e) ?_;rintro _ w3 ⟨D,L⟩;have x:=e;have u:=Below.only u D B;have e:=L;refine Za rfl<|Zt aS fun a t=>?_;refine Q6<|X05<|Xf<|X4 t (X0r t rfl (ResV.cellN (l:=[vi ((dPow 1).num.a),vi ((dPow 1).num.b),vi ((dPow 1).num.c),vi ((dPow 1).num.d),vi ((dPow 1).exp)]) rfl X6 (e.at 0) rfl) rfl) ?_;exact ⟨(by rw [z];try rfl),u⟩
  have aE:=N
  have z:cellI n g i j=dZ:=by rw [cellI,Q4 W,Q3 (X19 N)]
  refine Q7<|Xn<|aA _ _<|Zs t fun _ aT=>?_;refine Ze (Xg (ps:=[]) (cs:=[vi 0,vi 0,vi 0,vi 0,vi 0]) rfl (fun _=>by first|rfl|kernel_rfl))<|Zo (Vw [vi 0,vi 0,vi 0,vi 0,vi 0] Xd e) ?_;rintro _ w4 ⟨D,L⟩;have x:=e;have u:=Below.only u D B;have e:=L;refine Za rfl<|Zt aT fun a t=>?_
  refine Q6 (X4 t (X0r t rfl (ResV.cellN (l:=[vi 0,vi 0,vi 0,vi 0,vi 0]) rfl X6 (e.at 0) rfl) rfl) ?_)
  exact ⟨(by rw [z];try rfl),u⟩
 have C:=M;have W:=X19 M;have aW:=aC.2.2.1 W;refine Zs t fun _ aF=>?_;refine Ze (Vd rfl X2i 0)<|Ze (X0 rfl X9 (f.at 0))<|Zf (Vc (F99 _ g.k) Xrv) ?_;rintro _ _ ⟨rfl,rfl⟩;refine Za rfl<|Zt aF fun a t=>?_
 refine Xl t rfl (fun G=>?_) (fun G=>?_)
 ·have A:=G;have H:=G;have aX:=aC.2.2.2 (X0g.1 H);refine Zs t fun _ aG=>?_;refine Ze (X0 rfl X9 (m.at 0))<|Ze (X09 (l:=[vi g.k,vi g.a,vi g.b]) rfl X61 (f.at 0) rfl)<|Zm rfl<|Zf (Vc (Y0o _ n g i hg (X0g.1 H)) Xtu) ?_;rintro _ w5 ⟨rfl,y⟩;have f:=f.below y;have m:=m.below y;have e:=e.below y;have u:=btr u y;refine Zm rfl<|Ze (X1b rfl rfl)<|Zt aG fun a t=>?_
  refine Xl t rfl (fun I=>?_) (fun I=>?_)
  ·have E:=I
   have z:cellI n g i j=dPow (4*(if czI n g i=true then 1 else 0)):=by rw [cellI,Q3 W,Q4 H,Q4 (eq_of_beq I)]
   refine Q5 fun _ aH=>?_;refine X02 (fun a w=>Fr a 75 [(6,.pointer (some ⟨b2,0,none⟩)),(7,.bool true)]∧Blk w ba 103 [vi g.k,vi g.a,vi g.b]∧Blk w bb 3 [vi n]∧Blk w b2 53 [vi ((dPow (4*(if (((g.k==10)&&((bitF n i g.a)==1))&&((bitF n i g.b)==1))=true then 1 else 0))).num.a),vi ((dPow (4*(if (((g.k==10)&&((bitF n i g.a)==1))&&((bitF n i g.b)==1))=true then 1 else 0))).num.b),vi ((dPow (4*(if (((g.k==10)&&((bitF n i g.a)==1))&&((bitF n i g.b)==1))=true then 1 else 0))).num.c),vi ((dPow (4*(if (((g.k==10)&&((bitF n i g.a)==1))&&((bitF n i g.b)==1))=true then 1 else 0))).num.d),vi ((dPow (4*(if (((g.k==10)&&((bitF n i g.a)==1))&&((bitF n i g.b)==1))=true then 1 else 0))).exp)]∧Below U.heap.size U w) ?_ ?_
   ·refine Zr t<|Ze (Vd rfl X2i 0)<|Ze (X0 rfl X9 (f.at 0))<|Ze (X1b rfl rfl)<|Zm rfl ?_
    refine Zg 29 rfl (fun p=>?_) (fun p=>?_)
    ·refine Zv (gW p) (X0 rfl X9 (m.at 0)) ?_;refine Zv (gW p) (X7 rfl) ?_;refine Zv (gW p) (Vd rfl X1l 1) ?_;refine Zv (gW p) (X0 rfl X9 (f.at 1)) ?_;refine Zk (gW p) (Vc (Xj6 _ n i g.a (by omega) (by omega) (by omega)) X86) ?_;rintro _ _ ⟨rfl,rfl⟩;refine Zv (gW p) (X1b rfl rfl) ?_;refine Ze (Xe rfl p rfl)<|Zm rfl ?_
     refine Zg 37 rfl (fun q=>?_) (fun q=>?_)
     ·refine Zv (gW q) (X0 rfl X9 (m.at 0)) ?_;refine Zv (gW q) (X7 rfl) ?_;refine Zv (gW q) (Vd rfl X27 2) ?_;refine Zv (gW q) (X0 rfl X9 (f.at 2)) ?_;refine Zk (gW q) (Vc (Xj6 _ n i g.b (by omega) (by omega) (by omega)) X86) ?_;rintro _ _ ⟨rfl,rfl⟩;refine Zv (gW q) (X1b rfl rfl) ?_;refine Ze (Xe rfl q rfl)<|Zf (Vc (F59 _ ((bitF n i g.b)==1)) Xdt) ?_;rintro _ _ ⟨rfl,rfl⟩;refine Ze (X7x rfl rfl (by split<;>decide) (by split<;>decide))<|Zf (Vc (Xc2 _ (4*(if ((bitF n i g.b)==1)=true then 1 else 0)) (by split<;>rfl)) X53) ?_;rintro _ w6 ⟨rfl,y⟩;have f:=f.below y;have m:=m.below y;have e:=e.below y;have u:=btr u y;refine Zo (Vw [vi ((dPow (4*(if ((bitF n i g.b)==1)=true then 1 else 0))).num.a),vi ((dPow (4*(if ((bitF n i g.b)==1)=true then 1 else 0))).num.b),vi ((dPow (4*(if ((bitF n i g.b)==1)=true then 1 else 0))).num.c),vi ((dPow (4*(if ((bitF n i g.b)==1)=true then 1 else 0))).num.d),vi ((dPow (4*(if ((bitF n i g.b)==1)=true then 1 else 0))).exp)] Xd e) ?_;rintro _ w7 ⟨D,L⟩;have x:=e;have f:=f.only D (Blk.ne f x rfl);have m:=m.only D (Blk.ne m x rfl);have u:=Below.only u D B;have e:=L;refine Za rfl ?_;refine Zn fun a t=>?_
      have Q:(((g.k==10)&&((bitF n i g.a)==1))&&((bitF n i g.b)==1))=((bitF n i g.b)==1):=by simp [C,A,E,p,q]
      have e:Blk w7 b2 53 [vi ((dPow (4*(if (((g.k==10)&&((bitF n i g.a)==1))&&((bitF n i g.b)==1))=true then 1 else 0))).num.a),vi ((dPow (4*(if (((g.k==10)&&((bitF n i g.a)==1))&&((bitF n i g.b)==1))=true then 1 else 0))).num.b),vi ((dPow (4*(if (((g.k==10)&&((bitF n i g.a)==1))&&((bitF n i g.b)==1))=true then 1 else 0))).num.c),vi ((dPow (4*(if (((g.k==10)&&((bitF n i g.a)==1))&&((bitF n i g.b)==1))=true then 1 else 0))).num.d),vi ((dPow (4*(if (((g.k==10)&&((bitF n i g.a)==1))&&((bitF n i g.b)==1))=true then 1 else 0))).exp)]:=by rw [Q];exact e
      exact ⟨t.sb,f,m,e,u⟩
     refine Zp (gP q) ?_;refine Zp (gP q) ?_;refine Zp (gP q) ?_;refine Zp (gP q) ?_;refine Zp (gP q) ?_;refine Zp (gP q) ?_;refine Ze (Xc rfl q rfl)<|Zf (Vc (F59 _ false) Xdt) ?_;rintro _ _ ⟨rfl,rfl⟩;refine Ze (X7x rfl rfl (by split<;>decide) (by split<;>decide))<|Zf (Vc (Xc2 _ (4*(if false=true then 1 else 0)) (by split<;>rfl)) X53) ?_;rintro _ w8 ⟨rfl,y⟩;have f:=f.below y;have m:=m.below y;have e:=e.below y;have u:=btr u y;refine Zo (Vw [vi ((dPow (4*(if false=true then 1 else 0))).num.a),vi ((dPow (4*(if false=true then 1 else 0))).num.b),vi ((dPow (4*(if false=true then 1 else 0))).num.c),vi ((dPow (4*(if false=true then 1 else 0))).num.d),vi ((dPow (4*(if false=true then 1 else 0))).exp)] Xd e) ?_;rintro _ w9 ⟨D,L⟩;have x:=e;have f:=f.only D (Blk.ne f x rfl);have m:=m.only D (Blk.ne m x rfl);have u:=Below.only u D B;have e:=L;refine Za rfl ?_;refine Zn fun a t=>?_
     have Q:(((g.k==10)&&((bitF n i g.a)==1))&&((bitF n i g.b)==1))=(false):=by simp [C,A,E,p,q]
     have e:Blk w9 b2 53 [vi ((dPow (4*(if (((g.k==10)&&((bitF n i g.a)==1))&&((bitF n i g.b)==1))=true then 1 else 0))).num.a),vi ((dPow (4*(if (((g.k==10)&&((bitF n i g.a)==1))&&((bitF n i g.b)==1))=true then 1 else 0))).num.b),vi ((dPow (4*(if (((g.k==10)&&((bitF n i g.a)==1))&&((bitF n i g.b)==1))=true then 1 else 0))).num.c),vi ((dPow (4*(if (((g.k==10)&&((bitF n i g.a)==1))&&((bitF n i g.b)==1))=true then 1 else 0))).num.d),vi ((dPow (4*(if (((g.k==10)&&((bitF n i g.a)==1))&&((bitF n i g.b)==1))=true then 1 else 0))).exp)]:=by rw [Q];exact e
     exact ⟨t.sb,f,m,e,u⟩
    refine Zp (gP p) ?_;refine Zp (gP p) ?_;refine Zp (gP p) ?_;refine Zp (gP p) ?_;refine Zp (gP p) ?_;refine Zp (gP p) ?_;refine Ze (Xc rfl p rfl)<|Zm rfl<|Zp (gP rfl) ?_;refine Zp (gP rfl) ?_;refine Zp (gP rfl) ?_;refine Zp (gP rfl) ?_;refine Zp (gP rfl) ?_;refine Zp (gP rfl) ?_;refine Ze (Xc rfl rfl rfl)<|Zf (Vc (F59 _ false) Xdt) ?_;rintro _ _ ⟨rfl,rfl⟩;refine Ze (X7x rfl rfl (by split<;>decide) (by split<;>decide))<|Zf (Vc (Xc2 _ (4*(if false=true then 1 else 0)) (by split<;>rfl)) X53) ?_;rintro _ aY ⟨rfl,y⟩;have f:=f.below y;have m:=m.below y;have e:=e.below y;have u:=btr u y;refine Zo (Vw [vi ((dPow (4*(if false=true then 1 else 0))).num.a),vi ((dPow (4*(if false=true then 1 else 0))).num.b),vi ((dPow (4*(if false=true then 1 else 0))).num.c),vi ((dPow (4*(if false=true then 1 else 0))).num.d),vi ((dPow (4*(if false=true then 1 else 0))).exp)] Xd e) ?_;rintro _ aU ⟨D,L⟩;have x:=e;have f:=f.only D (Blk.ne f x rfl);have m:=m.only D (Blk.ne m x rfl);have u:=Below.only u D B;have e:=L;refine Za rfl ?_;refine Zn fun a t=>?_
    have Q:(((g.k==10)&&((bitF n i g.a)==1))&&((bitF n i g.b)==1))=(false):=by simp [C,A,E,p]
    have e:Blk aU b2 53 [vi ((dPow (4*(if (((g.k==10)&&((bitF n i g.a)==1))&&((bitF n i g.b)==1))=true then 1 else 0))).num.a),vi ((dPow (4*(if (((g.k==10)&&((bitF n i g.a)==1))&&((bitF n i g.b)==1))=true then 1 else 0))).num.b),vi ((dPow (4*(if (((g.k==10)&&((bitF n i g.a)==1))&&((bitF n i g.b)==1))=true then 1 else 0))).num.c),vi ((dPow (4*(if (((g.k==10)&&((bitF n i g.a)==1))&&((bitF n i g.b)==1))=true then 1 else 0))).num.d),vi ((dPow (4*(if (((g.k==10)&&((bitF n i g.a)==1))&&((bitF n i g.b)==1))=true then 1 else 0))).exp)]:=by rw [Q];exact e
    exact ⟨t.sb,f,m,e,u⟩
   rintro a aZ ⟨t,f,m,e,u⟩;refine aH _ _<|Q6<|X05<|Xf ?_;refine X4 t (X0r t rfl (ResV.cellN (l:=[vi ((dPow (4*(if (((g.k==10)&&((bitF n i g.a)==1))&&((bitF n i g.b)==1))=true then 1 else 0))).num.a),vi ((dPow (4*(if (((g.k==10)&&((bitF n i g.a)==1))&&((bitF n i g.b)==1))=true then 1 else 0))).num.b),vi ((dPow (4*(if (((g.k==10)&&((bitF n i g.a)==1))&&((bitF n i g.b)==1))=true then 1 else 0))).num.c),vi ((dPow (4*(if (((g.k==10)&&((bitF n i g.a)==1))&&((bitF n i g.b)==1))=true then 1 else 0))).num.d),vi ((dPow (4*(if (((g.k==10)&&((bitF n i g.a)==1))&&((bitF n i g.b)==1))=true then 1 else 0))).exp)]) rfl X6 (e.at 0) rfl) rfl) ?_;exact ⟨(by rw [z];try rfl),u⟩
  have E:=I
  have z:cellI n g i j=dZ:=by rw [cellI,Q3 W,Q4 H,Q3 (X19 I)]
  refine Q7<|Xn<|aA _ _<|Zs t fun _ aI=>?_;refine Ze (Xg (ps:=[]) (cs:=[vi 0,vi 0,vi 0,vi 0,vi 0]) rfl (fun _=>by first|rfl|kernel_rfl))<|Zo (Vw [vi 0,vi 0,vi 0,vi 0,vi 0] Xd e) ?_;rintro _ b0 ⟨D,L⟩;have x:=e;have u:=Below.only u D B;have e:=L;refine Za rfl<|Zt aI fun a t=>?_
  refine Q6 (X4 t (X0r t rfl (ResV.cellN (l:=[vi 0,vi 0,vi 0,vi 0,vi 0]) rfl X6 (e.at 0) rfl) rfl) ?_)
  exact ⟨(by rw [z];try rfl),u⟩
 have A:=G
 have H:¬ inR g.k 9 11=true:=by rw [G];simp
 have b1:g.k≤8:=by have h9:¬ (9≤g.k∧g.k≤11):=(fun h=>H (X0g.2 h));omega
 refine Q5 fun _ aJ=>?_;refine X02 (fun a w=>Fr a 75 [(0,vi i),(1,vi j),(2,.pointer (some ⟨ba,0,none⟩)),(3,.pointer (some ⟨bb,0,none⟩)),(6,.pointer (some ⟨b2,0,none⟩)),(48,.bool ((i==j)||((flipF n i g.a)==j)))]∧w1=w) ?_ ?_
 ·refine Zr t<|Zm rfl<|Zm rfl<|Ze (X1b rfl rfl)<|Zm rfl ?_
  refine Zg 52 rfl (fun o=>?_) (fun o=>?_)
  ·refine Zp (gP o) ?_;refine Zp (gP o) ?_;refine Zp (gP o) ?_;refine Zp (gP o) ?_;refine Zp (gP o) ?_;refine Zp (gP o) ?_;refine Zp (gP o) ?_;refine Ze (Xe rfl o rfl)<|Za rfl ?_;refine Zn fun a t=>?_;exact ⟨t.sub ⟨rfl,rfl,rfl,rfl,rfl,X2 rfl (by first|rfl|(simp only [C,A,o,bs];done)|simp [C,A,o]),trivial⟩,rfl⟩
  refine Zv (gW o) (X0 rfl X9 (m.at 0)) ?_;refine Zv (gW o) (X7 rfl) ?_;refine Zv (gW o) (Vd rfl X1l 1) ?_;refine Zv (gW o) (X0 rfl X9 (f.at 1)) ?_;refine Zk (gW o) (Vc (Xqf _ n i g.a (by omega) (by omega) (by omega)) Xcm) ?_;rintro _ _ ⟨rfl,rfl⟩;refine Zv (gW o) (X7 rfl) ?_;refine Zv (gW o) (X1b rfl rfl) ?_;refine Ze (Xc rfl o rfl)<|Za rfl ?_;refine Zn fun a t=>?_;exact ⟨t.sub ⟨rfl,rfl,rfl,rfl,rfl,X2 rfl (by first|rfl|(simp only [C,A,o,bs];done)|simp [C,A,o]),trivial⟩,rfl⟩
 rintro a _ ⟨t,rfl⟩;refine aJ _ _ ?_
 refine Xl t rfl (fun J=>?_) (fun J=>?_)
 ·have aB:=J
  have z:cellI n g i j=entryI g.k (bitF n i g.a) (bitF n j g.a):=by rw [cellI,Q3 W,Q3 H,Q4 (by simpa using J)]
  refine Q5 fun _ aK=>?_;refine Xz none (fun j=>[13].contains j) mixed ?_;intro b3 y;have f:=f.below y;have m:=m.below y;have e:=e.below y;have u:=btr u y;refine Yb t<|Yo 0 rfl (fun _=>Vd rfl X2i 0)<|Ye 1 rfl (X0 rfl X9 (f.at 0))<|Ye 2 rfl (X0 rfl X9 (m.at 0))<|Yo 3 rfl (fun _=>X7 rfl)<|Yo 4 rfl (fun _=>Vd rfl X1l 1)<|Ye 5 rfl (X0 rfl X9 (f.at 1))<|Ye 7 rfl (X0 rfl X9 (m.at 0))<|Yo 8 rfl (fun _=>X7 rfl)<|Yo 9 rfl (fun _=>Vd rfl X1l 1)<|Ye 10 rfl (X0 rfl X9 (f.at 1)) ?_;refine Y1 6<|Yz rfl trivial (Vc (Xj6 _ n i g.a (by omega) (by omega) (by omega)) X86) ?_;refine Y1 11<|Yz rfl trivial (Vc (Xj6 _ n j g.a (by omega) (by omega) (by omega)) X86) ?_;refine Y1 12<|Yk rfl trivial (Vc (Xzt _ g.k (bitF n i g.a) (bitF n j g.a) (by omega) aD) Xui) (fun _ _ ⟨_,y⟩=>y) ?_;rintro _ b4 ⟨rfl,y⟩;have e:=e.below y;have u:=btr u y;refine Y1 13<|Yh rfl trivial rfl (Vw [vi ((entryI g.k (bitF n i g.a) (bitF n j g.a)).num.a),vi ((entryI g.k (bitF n i g.a) (bitF n j g.a)).num.b),vi ((entryI g.k (bitF n i g.a) (bitF n j g.a)).num.c),vi ((entryI g.k (bitF n i g.a) (bitF n j g.a)).num.d),vi ((entryI g.k (bitF n i g.a) (bitF n j g.a)).exp)] Xd e) ?_;rintro _ b5 ⟨D,L⟩;have x:=e;have u:=Below.only u D B;have e:=L;refine Yo 14 rfl (fun _=>X0i rfl) ?_;refine Yd fun a t=>?_;refine aK _ _<|Q6<|X05<|Xf ?_;refine X4 t (X0r t rfl (ResV.cellN (l:=[vi ((entryI g.k (bitF n i g.a) (bitF n j g.a)).num.a),vi ((entryI g.k (bitF n i g.a) (bitF n j g.a)).num.b),vi ((entryI g.k (bitF n i g.a) (bitF n j g.a)).num.c),vi ((entryI g.k (bitF n i g.a) (bitF n j g.a)).num.d),vi ((entryI g.k (bitF n i g.a) (bitF n j g.a)).exp)]) rfl X6 (e.at 0) rfl) rfl) ?_
  exact ⟨(by rw [z];try rfl),u⟩
 have aB:=J
 have z:cellI n g i j=dZ:=by rw [cellI,Q3 W,Q3 H,Q3 (by simpa using J)]
 refine Q7<|Xn<|aA _ _<|Zs t fun _ aL=>?_;refine Ze (Xg (ps:=[]) (cs:=[vi 0,vi 0,vi 0,vi 0,vi 0]) rfl (fun _=>by first|rfl|kernel_rfl))<|Zo (Vw [vi 0,vi 0,vi 0,vi 0,vi 0] Xd e) ?_;rintro _ b6 ⟨D,L⟩;have x:=e;have u:=Below.only u D B;have e:=L;refine Za rfl<|Zt aL fun a t=>?_
 refine Q6 (X4 t (X0r t rfl (ResV.cellN (l:=[vi 0,vi 0,vi 0,vi 0,vi 0]) rfl X6 (e.at 0) rfl) rfl) ?_)
 exact ⟨(by rw [z];try rfl),u⟩
theorem Xk5(w0:World)(n:Int)(g:Gt) : Ret Tryz.prog 76 [vi n,.agg #[vi g.k,vi g.a,vi g.b]] w0 (fun v w=>∃ A c,v=.tuple #[mV A c ((gateI n g).getD mZ),.bool (gateI n g).isSome]∧Own w w0.heap.size 53 5 encD A c ((gateI n g).getD mZ).cells∧Below w0.heap.size w0 w):=by
 refine enter Tryz.func76 rfl 19 rfl rfl ?_;intro a u
 have p:=bz w0
 refine Zs u fun _ aD=>?_;refine Zf (X0j (zs:=[vi n]) rfl rfl) ?_;rintro _ w1 ⟨b2,rfl,aE,o,f⟩;have aK:=Q0 p.size aE;have p:=btr p o;refine Zf (X0j (zs:=[vi g.k,vi g.a,vi g.b]) rfl rfl) ?_;rintro _ w2 ⟨b3,rfl,aF,o,t⟩;have aL:=Q0 p.size aF;have f:=f.below o;have p:=btr p o;refine Zf (X3 (zs:=[vi 0,vi 0,.slice none 0 0]) X0y rfl) ?_;rintro _ w3 ⟨b5,rfl,aG,o,e⟩;have h:=Q0 p.size aG;have f:=f.below o;have t:=t.below o;have p:=btr p o;refine Za rfl<|ZX aD fun a u _ aH=>?_;refine Zs u fun _ aI=>?_;refine Ze (X0 rfl X9 (f.at 0))<|Ze (Vn X61 t)<|Zf (Vc (Xxd _ n g) Xmf) ?_;rintro _ w4 ⟨rfl,o⟩;have f:=f.below o;have t:=t.below o;have e:=e.below o;have p:=btr p o;refine Ze (X0o rfl)<|Zt aI fun a u=>?_
 refine Xl u rfl (fun z=>?_) (fun z=>?_)
 ·have aA:=z
  have hn:¬ gOk n g=true:=by revert z;cases gOk n g<;>simp
  refine Zs u fun _ aJ=>?_;refine Ze (Xg (ps:=[]) (cs:=[vi 0,vi 0,.slice none 0 0]) rfl (fun _=>by first|rfl|kernel_rfl))<|Zo (Vw [vi 0,vi 0,.slice none 0 0] X0b e) ?_;rintro _ w5 ⟨ho,hb⟩;have B:=e;have p:=Below.only p ho h;have e:=hb;refine Za rfl<|Zt aJ fun a u=>?_;refine Q6<|Xf<|X4 u (X0r u rfl (ResV.cellN (l:=[vi 0,vi 0,.slice none 0 0]) rfl Xr (e.at 0) rfl) rfl) ?_;exact ⟨none,0,by rw [gateI,Q3 hn];rfl,by rw [gateI,Q3 hn];exact (Own.nil _ _ _ _ _),p⟩
 have aA:=z
 have hg:gOk n g=true:=by revert z;cases gOk n g<;>simp
 have aM:=X28 hg
 obtain ⟨d,hd⟩ : ∃ d:Nat,d=2^n.toNat:=⟨_,rfl⟩
 refine Q7<|aH _ _<|Q5 fun _ aB=>?_;refine Xz none (fun j=>[8].contains j) mixed ?_;intro w6 o;have f:=f.below o;have t:=t.below o;have e:=e.below o;have p:=btr p o;refine Yb u<|Ye 0 rfl (X0 rfl X9 (f.at 0))<|Yo 1 rfl (fun _=>Xet (m:=n.toNat) (D:=d) rfl rfl (by omega) ⟨hd,by omega⟩)<|Ye 2 rfl (X0 rfl X9 (f.at 0))<|Yo 3 rfl (fun _=>Xet (m:=n.toNat) (D:=d) rfl rfl (by omega) ⟨hd,by omega⟩)<|Yo 4 rfl (fun _=>X3z (vs:=[.pointer (some ⟨b3,0,none⟩),.pointer (some ⟨b2,0,none⟩)]) rfl)<|Y1 5 ?_;refine Yk rfl trivial (Vc (Xj9 _ (d:Int) (d:Int) 113 [.pointer (some ⟨b3,0,none⟩),.pointer (some ⟨b2,0,none⟩)] Xsm (fun i j=>some (cellI n g i j)) (fun i j w' hi hj hE'=>Y0p w' g n _ _ (t.below hE') (f.below hE') hg i j)) X9t) (fun _ _ ⟨x,y,_,q,o⟩=>o) ?_;rintro _ w7 ⟨x,y,rfl,q,o⟩;have q:=q.lower p.size;have e:=e.below o;have p:=btr p o;refine Yo 6 rfl (fun _=>X1 (vs:=[.agg #[vi (((matOf (d:Int) (d:Int) (fun i j=>some (cellI n g i j))).getD mZ).rows),vi (((matOf (d:Int) (d:Int) (fun i j=>some (cellI n g i j))).getD mZ).cols),.slice x (((matOf (d:Int) (d:Int) (fun i j=>some (cellI n g i j))).getD mZ).cells).length y],.bool ((matOf (d:Int) (d:Int) (fun i j=>some (cellI n g i j))).isSome)]) rfl rfl)<|Yo 7 rfl (fun _=>X1 (vs:=[.agg #[vi (((matOf (d:Int) (d:Int) (fun i j=>some (cellI n g i j))).getD mZ).rows),vi (((matOf (d:Int) (d:Int) (fun i j=>some (cellI n g i j))).getD mZ).cols),.slice x (((matOf (d:Int) (d:Int) (fun i j=>some (cellI n g i j))).getD mZ).cells).length y],.bool ((matOf (d:Int) (d:Int) (fun i j=>some (cellI n g i j))).isSome)]) rfl rfl)<|Y1 8 ?_;refine Yh rfl trivial rfl (Vw [vi (((matOf (d:Int) (d:Int) (fun i j=>some (cellI n g i j))).getD mZ).rows),vi (((matOf (d:Int) (d:Int) (fun i j=>some (cellI n g i j))).getD mZ).cols),.slice x (((matOf (d:Int) (d:Int) (fun i j=>some (cellI n g i j))).getD mZ).cells).length y] X0b e) ?_;rintro _ w8 ⟨ho,hb⟩
 have B:=e;have q:=q.onlyT ho B rfl;have p:=Below.only p ho h;have e:=hb;refine Yo 9 rfl (fun _=>X0i rfl) ?_;refine Yd fun a u=>?_;refine aB _ _ ?_
 refine Q6 (X4 u (X0r u rfl (ResV.cellN (l:=[vi (((matOf (d:Int) (d:Int) (fun i j=>some (cellI n g i j))).getD mZ).rows),vi (((matOf (d:Int) (d:Int) (fun i j=>some (cellI n g i j))).getD mZ).cols),.slice x (((matOf (d:Int) (d:Int) (fun i j=>some (cellI n g i j))).getD mZ).cells).length y]) rfl Xr (e.at 0) rfl) rfl) ?_)
 have aC:gateI n g=matOf (d:Int) (d:Int) fun i j=>some (cellI n g i j):=by rw [gateI,Q4 hg,hd]
 rw [aC]
 exact ⟨x,y,rfl,q,p⟩
end Go.Proofs.YtckoekhjglafjaaGreatDoor
namespace Go.Proofs
open Go.Shelf
end Go.Proofs
namespace Go.Proofs.YtckoekhjglafjaaGreatDoor
open Go.RowKit
section
variable {α : Type}
theorem X8x{enc:α→List Value}{sz:Nat}(hsz:∀ x,(enc x).length=sz){l:List α}{j:Nat}(hj:j<l.length*sz) : ∃ x,l[j/sz]? = some x∧(l.flatMap enc)[j]? = (enc x)[j % sz]?:=by
 have h0:0<sz:=by
  rcases Nat.eq_zero_or_pos sz with h|h
  ·subst h;simp at hj
  ·exact h
 have hk:j/sz<l.length:=Nat.div_lt_of_lt_mul (by rw [Wi];exact hj)
 refine ⟨l[j/sz],Qc hk,?_⟩
 have hm:j % sz<(enc l[j/sz]).length:=by rw [hsz];exact Nat.mod_lt _ h0
 have h1:=X79 hsz l (j/sz) _ (Qc hk) (j % sz) _ (Qc hm)
 rw [show j/sz*sz+j % sz=j from by rw [Wi];exact Nat.div_add_mod j sz] at h1
 rw [h1,Qc hm]
theorem Xay{enc:α→List Value}{sz:Nat}(hsz:∀ x,(enc x).length=sz){z:Value}{z0:α}(hz:z.cells.toList=enc z0)(n:Nat) : madeCells z.cells (n*sz)=((List.replicate n z0).flatMap enc).toArray:=by
 have hs:z.cells.size=sz:=by rw [← hsz z0,← hz];simp
 apply Array.ext'
 apply List.ext_getElem?
 intro j
 by_cases hj:j<n*sz
 ·obtain ⟨x,hx,h1⟩:=X8x hsz (l:=List.replicate n z0) (j:=j) (by simpa using hj)
  obtain rfl:x=z0:=(List.eq_of_mem_replicate (Qe hx))
  have h0:0<sz:=by
   rcases Nat.eq_zero_or_pos sz with h|h
   ·subst h;simp at hj
   ·exact h
  have hm:j % sz<z.cells.size:=by rw [hs];exact Nat.mod_lt _ h0
  rw [List.toList_toArray,h1,← hz]
  simp only [madeCells,Array.getElem?_toList,Array.getElem?_map,Array.getElem?_range,hj,if_true,Option.map_some,hs]
  rw [getElem!_pos z.cells (j % sz) hm,Array.getElem?_eq_getElem hm]
 ·rw [List.getElem?_eq_none (by simp [madeCells];omega),List.toList_toArray,List.getElem?_eq_none (by rw [X0x hsz];simp;omega)]
theorem X92{enc:α→List Value}{sz:Nat}(hsz:∀ x,(enc x).length=sz) : ∀ (l:List α) (k:Nat) (x:α),k<l.length→splice (l.flatMap enc) (k*sz) (enc x)=(l.set k x).flatMap enc
 | [],k,x,h=>by simp at h
 | y::l,0,x,h=>by
  simp only [splice,Nat.zero_mul,List.take_zero,List.nil_append,Nat.zero_add,Wc,List.set_cons_zero]
  rw [hsz,← hsz y,List.drop_left]
 | y::l,k+1,x,h=>by
  have ih:=X92 hsz l k x (by simpa using h)
  unfold splice at ih ⊢
  have h1:(k+1)*sz=(enc y).length+k*sz:=by rw [hsz,Wb];omega
  rw [h1]
  simp only [Wc,List.set_cons_succ]
  rw [List.take_length_add_append,show (enc y).length+k*sz+(enc x).length=(enc y).length+(k*sz+(enc x).length) from by omega,List.drop_length_add_append,Qx,Qx]
  rw [← ih,Qx]
end
section
variable {α : Type} {P : Program} {a : Act} {w : World} {n : Nat} {e : Env} {ty : TypeId} {pos : String} {af : Array Edge} {g : Option (Nat × Bool)} {d : Option Tmp}
theorem Xcd{T E sz bytes m:Nat}{x y:Operand}{enc:α→List Value}{z:Value}{z0:α}(hf:Fr a n e)(hx:ev e x=some (.int .i64 (m:Int)))(hy:ev e y=some (.int .i64 (m:Int)))(hT:SliceT P T E)(hi:InfoT P E sz bytes)(hz:ZeroT P E z)(hz0:z.cells.toList=enc z0)(hsz:∀ x,(enc x).length=sz)(hb:bytes*m≤281474976710656)(hm:m≤4611686018427387904) :
  Ef P ⟨d,.makeSlice T x y,ty,pos,af,g⟩ a w (fun v w'=>∃ b,v=.slice (some ⟨b,0,none⟩) m m∧w.heap.size≤b∧Below w.heap.size w w'∧Blk w' b E ((List.replicate m z0).flatMap enc)):=by
 obtain ⟨i,z1,hi1,hi2,hi3,hi4,hi5,hi6⟩:=hi;obtain ⟨i',hi1',hz1⟩:=hz
 rw [hi1] at hi1'
 injection hi1' with hi1'
 subst hi1'
 rw [hi2] at hz1
 injection hz1 with hz1
 subst hz1
 have hb':(i.bytes:Int)*(m:Int)≤281474976710656:=by
  have h:((i.bytes*m:Nat) : Int)≤281474976710656:=by rw [hi4];omega
  rwa [Int.natCast_mul] at h
 have hr:=run_make (P:=P) w T E i z1 hT hi1 hi2 .i64 .i64 m m (by omega) (Int.le_refl _) hb' (by omega)
 refine (Ef.of_run (v:=.slice (some ⟨w.heap.size,0,none⟩) m m) (w':=w.alloc (.cells ((List.replicate m z0).flatMap enc).toArray E)) ?_).mono fun v w' ⟨e1,e2⟩=>?_
 ·rw [hi3,Qj,Xay hsz hz0] at hr
  simp [execOp,hf.ev hx,hf.ev hy,hr]
 ·subst e1;subst e2
  exact ⟨_,rfl,Qb _,(Below.refl _ _).alloc (Qb _) _,X4q w E _⟩
theorem Xf0{T E sz bytes m:Nat}{x y:Operand}{enc:α→List Value}{z:Value}{z0:α}(hx:ev e x=some (.int .i64 (m:Int)))(hy:ev e y=some (.int .i64 (m:Int)))(hT:SliceT P T E)(hi:InfoT P E sz bytes)(hz:ZeroT P E z)(hz0:z.cells.toList=enc z0)(hsz:∀ x,(enc x).length=sz)(hb:bytes*m≤281474976710656)(hm:m≤4611686018427387904) : EfW P ⟨d,.makeSlice T x y,ty,pos,af,g⟩ n e w (fun v w'=>∃ b,v=.slice (some ⟨b,0,none⟩) m m∧w.heap.size≤b∧Below w.heap.size w w'∧Blk w' b E ((List.replicate m z0).flatMap enc)):=fun a hf=>Xcd hf hx hy hT hi hz hz0 hsz hb hm
theorem Xj5{T E sz b m c k off:Nat}{x y:Operand}{i:Int}(hf:Fr a n e)(hx:ev e x=some (.slice (some ⟨b,0,none⟩) m c))(hy:ev e y=some (.int .i64 i))(hT:SliceT P T E)(hs:SizeT P E sz)(hi:i=(k:Int))(hk:k<m)(ho:k*sz=off) :
  Ev P ⟨d,.indexAddr T x y,ty,pos,af,g⟩ a w (.pointer (some ⟨b,off,none⟩)):=by
 have h:=X7k (P:=P) (w:=w) (d:=d) (ty:=ty) (pos:=pos) (af:=af) (g:=g) hf hx hy hT hs hi hk
 rwa [X1v,Nat.zero_add,ho] at h
theorem Xq4{T E sz b m c k off:Nat}{x y:Operand}{i:Int}(hx:ev e x=some (.slice (some ⟨b,0,none⟩) m c))(hy:ev e y=some (.int .i64 i))(hT:SliceT P T E)(hs:SizeT P E sz)(hi:i=(k:Int))(hk:k<m)(ho:k*sz=off) : EvW P ⟨d,.indexAddr T x y,ty,pos,af,g⟩ n e w (.pointer (some ⟨b,off,none⟩)):=fun a hf=>Xj5 hf hx hy hT hs hi hk ho
theorem Xis{t T b k sz:Nat}{x y:Operand}{v:Value}{enc:α→List Value}{l:List α}{u:α}(hf:Fr a n e)(hx:ev e x=some (.pointer (some ⟨b,k*sz,none⟩)))(hy:ev e y=some v)(hs:SizeT P t sz)(hb:Blk w b T (l.flatMap enc))(hsz:∀ x,(enc x).length=sz)(hone:∀ x,(enc x).all one=true)(hv:v.cells.toList=enc u)(hk:k<l.length) :
  Ef P ⟨d,.store t x y,ty,pos,af,g⟩ a w (Stored w b T ((l.set k u).flatMap enc)):=by
 have hl:k*sz+sz≤(l.flatMap enc).length:=by
  rw [X0x hsz]
  have:=Nat.mul_le_mul_right sz (show k+1≤l.length by omega)
  rwa [Wb,Nat.one_mul] at this
 exact Xdw (vs:=enc u) hf hx hy hs hb hv (by rw [hsz];simp) (hone u) (by rw [Nat.ble_eq];exact hl) (X92 hsz l k u hk)
theorem Xna{t T b k sz:Nat}{x y:Operand}{v:Value}{enc:α→List Value}{l:List α}{u:α}(hx:ev e x=some (.pointer (some ⟨b,k*sz,none⟩)))(hy:ev e y=some v)(hs:SizeT P t sz)(hb:Blk w b T (l.flatMap enc))(hsz:∀ x,(enc x).length=sz)(hone:∀ x,(enc x).all one=true)(hv:v.cells.toList=enc u)(hk:k<l.length) : EfW P ⟨d,.store t x y,ty,pos,af,g⟩ n e w (Stored w b T ((l.set k u).flatMap enc)):=fun a hf=>Xis hf hx hy hs hb hsz hone hv hk
end
section
variable {α : Type} {w : World} {B B0 : Nat} {E : TypeId} {sz : Nat} {enc : α → List Value} {A : Option Addr} {c : Nat} {l : List α}
theorem Own.cap(h:Own w B0 E sz enc A c l) : l.length≤c:=by
 rcases h.2 with ⟨h1,h2⟩|⟨g,cap,cur,h1,h2,h3,h4,h5,h6⟩
 ·omega
 ·injection h1 with _ _ h1
  omega
theorem Own.of_flat(hsz:∀ x,(enc x).length=sz){b m:Nat}(h:Blk w b E (l.flatMap enc))(hb:B0≤b)(hl:l.length=m)(hk:m≤maxLen) : Own w B0 E sz enc (some ⟨b,0,none⟩) m l:=Own.of_blkL hsz h hb rfl hl hk
end
theorem Kept.app{α:Type}{b B B0:Nat}{w0 w w':World}{E:TypeId}{sz:Nat}{enc:α→List Value}{A:Option Addr}{c:Nat}{l:List α}(h:Kept b B w0 w)(ho:Own w B0 E sz enc A c l)(hg:w.grownBy w' (Value.slice A l.length c).ownBlock)(hB:B≤B0)(hs:B≤w.heap.size) : Kept b B w0 w':=
 ⟨hg.os.trans h.os,hg.tape.trans h.tape,hg.output.trans h.output,Q0 h.size hg.size,fun k hk hne=>(hg.block k (by omega) fun hk'=>by have:=(ho.block hk'.symm).1;omega).trans (h.block k hk hne)⟩
end Go.Proofs.YtckoekhjglafjaaGreatDoor
namespace Go.Proofs.YtckoekhjglafjaaGreatDoor
open Go.RowKit Go.Sort
def sortI(l:List Int) : List Int:=l.mergeSort fun x y=>decide (x≤y)
end Go.Proofs.YtckoekhjglafjaaGreatDoor
namespace Go.Proofs.YtckoekhjglafjaaGreatDoor
open Go.RowKit
structure Sl where (A:Option Addr) (c:Nat) (l:List Int)
def encS(s:Sl) : List Value:=[.slice s.A s.l.length s.c]
structure Rp where (pos:Int) (old new:List Gt)
def unionI(p q:List Int) : List Int:=Lib.compact (sortI (p++(q++[])))
def qubI(g:Gt) : List Int:=if g.k=12 then [] else if inR g.k 9 11=true then [g.a,g.b] else [g.a]
def usedI(l:List Gt) : List Int:=unionI (l.flatMap qubI) []
def setAll:List Int→Nat→List Int→List Int
 | [],_,to=>to
 | q::l,i,to=>setAll l (i+1) (to.set q.toNat (i:Int))
def numbI(l:List Int) : List Int:=setAll l 0 [0,0,0,0,0]
def mapG(to:List Int)(g:Gt) : Gt:=⟨g.k,if g.k=12 then g.a else to.getD g.a.toNat 0,if inR g.k 9 11=true then to.getD g.b.toNat 0 else g.b⟩
def mapI(l:List Gt)(to:List Int) : List Gt:=l.map (mapG to)
def vrI(n:Int)(r:Rp) : Bool:=inR n 1 5&&inR r.pos 0 400&&decide ((r.old.length:Int)≤40)&&decide ((r.new.length:Int)≤40)&&!(r.old.any fun x=>!gOk n x)&&!(r.new.any fun x=>!gOk n x)
def oA(A:Option Addr)(m:Nat) : Addr:=match A with
 | some p=>⟨p.block,m,none⟩
 | none=>⟨0,m,none⟩
section
variable {P : Program} {a : Act} {w w' : World} {n : Nat} {e : Env} {ty : TypeId} {pos : String} {af : Array Edge} {g : Option (Nat × Bool)} {d : Option Tmp} {α : Type}
end
section
variable {P : Program} {ops : Array Oper} {a : Act} {w : World} {n d : Nat} {e : Env} {ty : TypeId} {pos : String} {af : Array Edge} {g : Option (Nat × Bool)} {α : Type}
end
def Apart(A A':Option Addr) : Prop:=∀ p q,A=some p→A'=some q→p.block≠q.block
section
variable {α β : Type} {w w' : World} {B B0 B1 : Nat} {E E' : TypeId} {sz sz' : Nat} {enc : α → List Value} {enc' : β → List Value} {A A' : Option Addr} {c c' : Nat} {l : List α} {l' : List β}
theorem Own.apart(h:Own w B E sz enc A c l)(h':Own w' B0 E' sz' enc' A' c' l')(hB:w.heap.size≤B0) : Apart A A':=fun p q hp hq=>by
 rcases h.2 with ⟨h1,_⟩|⟨g,cap,cur,h1,h2,h3,_⟩
 ·injection h1 with h1;rw [h1] at hp;cases hp
 ·rcases h'.2 with ⟨k1,_⟩|⟨g',cap',cur',k1,k2,k3,_⟩
  ·injection k1 with k1;rw [k1] at hq;cases hq
  ·injection h1 with h1
   injection k1 with k1
   rw [h1] at hp
   rw [k1] at hq
   injection hp with hp
   injection hq with hq
   subst hp;subst hq
   have:=(Qp.1 h3).1
   intro e
   simp only at e
   omega
theorem Own.appP(h:Own w B1 E' sz' enc' A' c' l')(hg:w.grownBy w' (Value.slice A l.length c).ownBlock)(ha:Apart A' A) : Own w' B1 E' sz' enc' A' c' l':=by
 refine ⟨h.1,?_⟩
 rcases h.2 with h1|⟨g,cap,cur,h1,h2,h3,h4⟩
 ·exact .inl h1
 ·refine .inr ⟨g,cap,cur,h1,h2,(hg.block g (Qp.1 h3).1 fun hk=>?_).trans h3,h4⟩
  injection h1 with h1
  cases A with
  | none=>simp [Value.ownBlock] at hk
  | some q=>
   simp only [Value.ownBlock,Option.some.injEq] at hk
   exact ha _ q h1 rfl hk
theorem Xcz(A:Option Addr)(n m c d:Nat) : (Value.slice A n c).ownBlock=(Value.slice A m d).ownBlock:=by cases A<;>rfl
theorem gtr{A:Option Addr}{n m c d:Nat}{w0 w w':World}(h:w0.grownBy w (Value.slice A n c).ownBlock)(k:w.grownBy w' (Value.slice A m d).ownBlock) : w0.grownBy w' (Value.slice A n c).ownBlock:=
 ⟨k.os.trans h.os,k.tape.trans h.tape,k.output.trans h.output,Q0 h.size k.size,fun q hq hn=>(k.block q (Nat.lt_of_lt_of_le hq h.size) (by rw [Xcz A m n d c];exact hn)).trans (h.block q hq hn)⟩
theorem Own.len{m:Nat}(h:Own w B E sz enc A c l)(hm:m=l.length) : Own w B E sz enc A c l∧Value.slice A m c=Value.slice A l.length c:=⟨h,by rw [hm]⟩
theorem Apart.symm(h:Apart A A') : Apart A' A:=fun p q hp hq e=>h q p hq hp e.symm
end
def DeepI(w:World)(B:Nat)(l:List Sl) : Prop:=∀ s ∈ l,Rd w B 3 encI s.A s.l
section
variable {w w' : World} {B : Nat} {l : List Sl}
theorem DeepI.below(h:DeepI w B l)(hb:Below w.heap.size w w') : DeepI w' B l:=fun s hs=>(h s hs).below hb
theorem DeepI.top(h:DeepI w B l) : DeepI w w.heap.size l:=fun s hs=>(h s hs).top
theorem DeepI.only{b:Nat}(h:DeepI w B l)(ho:Only b w w')(hB:B≤b) : DeepI w' B l:=fun s hs=>(h s hs).only ho hB
theorem DeepI.onlyT{b:Nat}{T:TypeId}{lc:List Value}(h:DeepI w B l)(ho:Only b w w')(hb:Blk w b T lc)(hT:Nat.beq 3 T=false) : DeepI w' B l:=fun s hs=>(h s hs).onlyT ho hb hT
theorem DeepI.appB{B0:Nat}{E':TypeId}{sz:Nat}{α:Type}{enc:α→List Value}{A:Option Addr}{c:Nat}{m:List α}(h:DeepI w B l)(ho:Own w B0 E' sz enc A c m)(hg:w.grownBy w' (Value.slice A m.length c).ownBlock)(hB:B≤B0) : DeepI w' B l:=fun s hs=>(h s hs).appB ho hg hB
theorem DeepI.appT{B0:Nat}{E':TypeId}{sz:Nat}{α:Type}{enc:α→List Value}{A:Option Addr}{c:Nat}{m:List α}(h:DeepI w B l)(ho:Own w B0 E' sz enc A c m)(hg:w.grownBy w' (Value.slice A m.length c).ownBlock)(hT:Nat.beq E' 3=false) : DeepI w' B l:=fun s hs=>(h s hs).appT ho hg hT
theorem DeepI.nil(w:World)(B:Nat) : DeepI w B []:=fun s hs=>by cases hs
theorem DeepI.snoc{s:Sl}(h:DeepI w B l)(hr:Rd w B 3 encI s.A s.l) : DeepI w B (l++[s]):=fun t ht=>by
 rcases Qu.1 ht with h1|h1
 ·exact h t h1
 ·rw [Qm] at h1;subst h1;exact hr
end
def LowI(B:Nat)(l:List Sl) : Prop:=∀ s ∈ l,∀ p,s.A=some p→B≤p.block
def Und(A:Option Addr)(B:Nat) : Prop:=∀ p,A=some p→p.block<B
theorem LowI.nil(B:Nat) : LowI B []:=fun s hs=>by cases hs
theorem LowI.snoc{B:Nat}{l:List Sl}{s:Sl}(h:LowI B l)(hs:∀ p,s.A=some p→B≤p.block) : LowI B (l++[s]):=fun t ht=>by
 rcases Qu.1 ht with h1|h1
 ·exact h t h1
 ·rw [Qm] at h1;subst h1;exact hs
section
variable {α : Type} {w w' : World} {B B1 : Nat} {E : TypeId} {sz : Nat} {enc : α → List Value} {A : Option Addr} {c : Nat} {l : List α} {m : List Sl}
end
theorem Apart.app{α:Type}{w:World}{B:Nat}{E:TypeId}{sz:Nat}{enc:α→List Value}{A A1 A2:Option Addr}{c:Nat}{l:List α}(h:Own w B E sz enc A c l)(ha:Apart A A1)(hat:∀ b,b<w.heap.size→Away A1 b→Away A2 b) : Apart A A2:=by
 intro p q hp hq
 rcases h.2 with ⟨h1,_⟩|⟨g,cap,cur,h1,_,h3,_⟩
 ·injection h1 with h1;rw [h1] at hp;cases hp
 ·injection h1 with h1
  rw [h1] at hp
  injection hp with hp
  have hlt:p.block<w.heap.size:=by rw [← hp];exact (Qp.1 h3).1
  have haw:Away A1 p.block:=fun r hr e=>ha p r (by rw [h1,hp]) hr e.symm
  exact fun e=>hat _ hlt haw q hq e.symm
section
variable {P : Program} {ops : Array Oper} {V : Option Nat} {tl : Nat → Bool} {Q : Act → World → Prop} {fuel : Nat} {done : List Nat} {w : World} {o : Oper} {op : Op} {ty : TypeId} {pos : String} {af : Array Edge} {g : Option (Nat × Bool)} {n d : Nat} {e : Env} {v : Value} {R : Value → World → Prop} {x : Operand}
end
def markI(k:Int)(n:Nat) : List Int:=(List.range n).map fun (j:Nat)=>k+(j:Int)
def markG(k:Int)(n:Nat) : List Gt:=(List.range n).map fun (j:Nat)=>⟨k+3*(j:Int),k+3*(j:Int)+1,k+3*(j:Int)+2⟩
def heldI:List Int→Int→Int
 | [],k=>k
 | x::l,k=>if x=k then heldI l (k+1) else -1
def heldG:List Gt→Int→Int
 | [],k=>k
 | x::l,k=>if x.k=k∧x.a=k+1∧x.b=k+2 then heldG l (k+3) else -1
theorem X1g{x:Dy} : dOk x=true↔rOk x.num=true∧(0≤x.exp∧x.exp≤60)∧(x.exp=0∨rEven x.num=false):=by
 simp only [dOk,Qd,X0g,Bool.or_eq_true,beq_iff_eq,Bool.not_eq_true',and_assoc]
theorem Xi8:∀ (m:Nat) (x:Rg),rOk x=true→m≤60→dOk (dLow x m)=true
 | 0,x,h,_=>by
  rw [X29 (by omega)]
  exact X1g.2 ⟨h,by simp,.inl rfl⟩
 | m+1,x,h,hm=>by
  by_cases he:rEven x=true
  ·rw [X4t (by omega) he,show ((m+1:Nat) : Int)-1=(m:Int) from by omega]
   exact Xi8 m _ (X7f h) (by omega)
  ·have he':rEven x=false:=by simpa using he
   rw [X29 fun _=>he']
   exact X1g.2 ⟨h,by dsimp only;omega,.inr he'⟩
theorem X7n{x:Rg}{e:Int}(h:rOk x=true)(h0:0≤e)(h1:e≤60) : dOk (dLow x e)=true:=by
 obtain ⟨m,rfl⟩ : ∃ m:Nat,e=m:=⟨e.toNat,by omega⟩
 exact Xi8 m x h (by omega)
def Agree(o:Option Dy)(p:Bool×Dy) : Prop:=(∀ z,o=some z→p=(false,z)∧dOk z=true)∧(o=none→p.1=true)
theorem X46{x y z:Rg}(hx:rOk x=true)(hy:rOk y=true) : rIf2 z [x,y]=rOk z:=by simp [rIf2,hx,hy]
theorem X8v{x z:Rg}(hx:rOk x=true) : rIf2 z [x]=rOk z:=by simp [rIf2,hx]
theorem X8a{x y:Dy}(hx:dOk x=true)(hy:dOk y=true) : Agree (dMulI x y) (sMul false x y):=by
 have kx:=X1g.1 hx
 have ky:=X1g.1 hy
 unfold dMulI sMul
 rw [hx,hy,X46 kx.1 ky.1,rIf1,X46 kx.1 ky.1,Qw,Qw]
 by_cases hr:rOk (rMul x.num y.num)=true
 ·rw [Q4 hr,Q4 hr]
  unfold dOf
  rw [hr,Qw]
  by_cases he:60<x.exp+y.exp
  ·have h1:¬ inR (x.exp+y.exp) 0 60=true:=fun h=>by have:=X0g.1 h;omega
   rw [Q3 h1,Q4 he]
   exact ⟨fun z h=>(by cases h),fun _=>rfl⟩
  ·have h1:inR (x.exp+y.exp) 0 60=true:=X0g.2 (by omega)
   rw [Q4 h1,Q3 he,sRing,Q4 hr]
   exact ⟨fun z h=>(by injection h with h;subst h;exact ⟨rfl,X7n hr (by omega) (by omega)⟩),fun h=>by cases h⟩
 ·have hr':rOk (rMul x.num y.num)=false:=by simpa using hr
  rw [Q3 hr]
  refine ⟨fun z h=>(by cases h),fun _=>?_⟩
  by_cases he:60<x.exp+y.exp
  ·rw [Q4 he]
  ·rw [Q3 he,hr'];rfl
theorem X5c:∀ (n:Nat) (f:Bool) (x:Dy),(sRaiseN n f x).2.exp=x.exp+n
 | 0,f,x=>by simp [sRaiseN]
 | n+1,f,x=>by rw [sRaiseN,X5c n];dsimp only;omega
theorem X49:∀ (n:Nat) (x:Dy),(sRaiseN n true x).1=true
 | 0,x=>rfl
 | n+1,x=>by rw [sRaiseN];exact X49 n _
theorem X5w:∀ (n:Nat) (x:Dy),rOk x.num=true→(raiseI n x.num).2=true→sRaiseN n false x=(false,⟨(raiseI n x.num).1,x.exp+n⟩)∧rOk (raiseI n x.num).1=true
 | 0,x,h,_=>⟨by simp [sRaiseN,raiseI],h⟩
 | n+1,x,h,hr=>by
  unfold raiseI at hr ⊢
  rw [X8v h] at hr ⊢
  by_cases h1:rOk (rRoot x.num)=true
  ·rw [Q4 h1] at hr ⊢
   rw [sRaiseN,h1,sRing,Q4 h1]
   have:=X5w n ⟨rRoot x.num,x.exp+1⟩ h1 hr
   refine ⟨?_,this.2⟩
   simp only [Bool.not_true,Bool.or_false]
   rw [this.1]
   dsimp only
   congr 2
   omega
  ·rw [Q3 h1] at hr
   cases hr
theorem X62:∀ (n:Nat) (x:Dy),rOk x.num=true→(raiseI n x.num).2=false→(sRaiseN n false x).1=true
 | 0,x,h,hr=>by cases hr
 | n+1,x,h,hr=>by
  unfold raiseI at hr
  rw [X8v h] at hr
  by_cases h1:rOk (rRoot x.num)=true
  ·rw [Q4 h1] at hr
   rw [sRaiseN,h1,sRing,Q4 h1]
   simp only [Bool.not_true,Bool.or_false]
   exact X62 n ⟨rRoot x.num,x.exp+1⟩ h1 hr
  ·have h2:rOk (rRoot x.num)=false:=by simpa using h1
   rw [sRaiseN,h2]
   exact X49 n _
theorem X8o{x y:Dy}(hx:dOk x=true)(hy:dOk y=true) : Agree (dAddI x y) (sAdd false x y):=by
 have kx:=X1g.1 hx
 have ky:=X1g.1 hy
 obtain ⟨m,hm⟩ : ∃ m,m=max x.exp y.exp:=⟨_,rfl⟩
 have e1:(m-x.exp).toNat=(y.exp-x.exp).toNat:=by omega
 have e3:x.exp+((y.exp-x.exp).toNat:Int)=m:=by omega
 have ed1:dRaise x m=raiseI (y.exp-x.exp).toNat x.num:=by rw [dRaise,e1]
 unfold dAddI sAdd
 rw [hx,hy,Bool.and_self,Q4 rfl,← hm,X5c,e3]
 cases h1:(dRaise x m).2 with
 | false=>
  have hb:=X62 _ x kx.1 (by rw [← ed1];exact h1)
  rw [hb,X49]
  simp only [Bool.false_and,Bool.false_eq_true,if_false,Bool.true_or]
  exact ⟨fun z h=>(by cases h),fun _=>rfl⟩
 | true=>
  obtain ⟨g1,g2⟩:=X5w _ x kx.1 (by rw [← ed1];exact h1)
  rw [g1]
  rw [← ed1] at g2 ⊢
  dsimp only
  have ed2:dRaise y m=raiseI (m-y.exp).toNat y.num:=rfl
  cases h2:(dRaise y m).2 with
  | false=>
   have hb:=X62 _ y ky.1 (by rw [← ed2];exact h2)
   rw [hb]
   simp only [Bool.and_false,Bool.false_and,Bool.false_eq_true,if_false,Bool.true_or]
   exact ⟨fun z h=>(by cases h),fun _=>rfl⟩
  | true=>
   obtain ⟨k1,k2⟩:=X5w _ y ky.1 (by rw [← ed2];exact h2)
   rw [k1]
   rw [← ed2] at k2 ⊢
   dsimp only
   rw [X46 g2 k2,rIf1,X46 g2 k2,Qw,Qw,Bool.false_or]
   by_cases hr:rOk (rAdd (dRaise x m).1 (dRaise y m).1)=true
   ·have h3:inR m 0 60=true:=X0g.2 (by omega)
    rw [Q4 hr,Q4 hr,dOf,hr,h3,sRing,Q4 hr]
    exact ⟨fun z h=>(by simp only [Bool.and_self,if_true] at h;injection h with h;subst h;exact ⟨rfl,X7n hr (by omega) (by omega)⟩),fun h=>by simp at h⟩
   ·have hr':rOk (rAdd (dRaise x m).1 (dRaise y m).1)=false:=by simpa using hr
    rw [Q3 hr,hr']
    exact ⟨fun z h=>(by cases h),fun _=>rfl⟩
def dotS(f:Bool)(a b:Mx)(i j:Nat) : Nat→Bool×Dy
 | 0=>(f,dZ)
 | n+1=>if (dotS f a b i j n).1=true then dotS f a b i j n else
   sAdd (sMul false (a.at i n) (b.at n j)).1 (dotS f a b i j n).2 (sMul false (a.at i n) (b.at n j)).2
theorem X9u{f:Bool}{a b:Mx}{i j n:Nat}(h:(dotS f a b i j n).1=true) : ∀ m,n≤m→dotS f a b i j m=dotS f a b i j n
 | 0,h'=>by
  obtain rfl:n=0:=by omega
  rfl
 | m+1,h'=>by
  by_cases hm:n=m+1
  ·subst hm;rfl
  ·rw [dotS,X9u h m (by omega),Q4 h]
theorem Xbb(a b:Mx)(i j n:Nat) : dotS true a b i j n=(true,dZ):=X9u (n:=0) rfl n (Qf _)
theorem X8y:dOk dZ=true:=by decide
theorem X5u(x y:Dy) : (sAdd true x y).1=true:=by
 unfold sAdd
 rw [show (sRaiseN (y.exp-x.exp).toNat true x).1=true from X49 _ _,X49]
 rfl
def AllOk(m:Mx) : Prop:=∀ x ∈ m.cells,dOk x=true
theorem Mx.at_ok{m:Mx}(h:AllOk m)(i j:Nat) : dOk (m.at i j)=true:=by
 unfold Mx.at
 rw [Qa]
 cases hx:m.cells[i*m.cols.toNat+j]? with
 | none=>exact X8y
 | some x=>exact h x (Qe hx)
theorem Xb6{a b:Mx}(ha:AllOk a)(hb:AllOk b)(i j:Nat) : ∀ n,Agree (dotI a b i j n) (dotS false a b i j n)
 | 0=>⟨fun z h=>(by injection h with h;subst h;exact ⟨rfl,X8y⟩),fun h=>by cases h⟩
 | n+1=>by
  have ih:=Xb6 ha hb i j n
  have hm:=X8a (Mx.at_ok ha i n) (Mx.at_ok hb n j)
  unfold dotI dotS
  cases h1:dotI a b i j n with
  | none=>
   have h2:=ih.2 h1
   rw [Q4 h2]
   exact ⟨fun z h=>(by cases h),fun _=>h2⟩
  | some s=>
   obtain ⟨h2,h3⟩:=ih.1 s h1
   rw [h2]
   simp only [Bool.false_eq_true,if_false,Qz]
   cases h4:dMulI (a.at i n) (b.at n j) with
   | none=>
    rw [hm.2 h4]
    exact ⟨fun z h=>(by cases h),fun _=>X5u _ _⟩
   | some x=>
    obtain ⟨h5,h6⟩:=hm.1 x h4
    rw [h5]
    exact X8o h3 h6
def timesL(f:Bool)(a b:Mx) : Nat→Bool×List Dy
 | 0=>(f,[])
 | n+1=>((dotS (timesL f a b n).1 a b (n/b.cols.toNat) (n % b.cols.toNat) a.cols.toNat).1,(timesL f a b n).2++[(dotS (timesL f a b n).1 a b (n/b.cols.toNat) (n % b.cols.toNat) a.cols.toNat).2])
def timesS(f:Bool)(a b:Mx) : Bool×Mx:=((timesL f a b (a.rows.toNat*b.cols.toNat)).1,⟨a.rows,b.cols,(timesL f a b (a.rows.toNat*b.cols.toNat)).2⟩)
theorem X78(f:Bool)(a b:Mx) : ∀ n,(timesL f a b n).2.length=n
 | 0=>rfl
 | n+1=>by simp [timesL,X78 f a b n]
theorem Xe4{f:Bool}{a b:Mx}{i j:Nat}(hj:j<b.cols.toNat) : timesL f a b (i*b.cols.toNat+(j+1))=((dotS (timesL f a b (i*b.cols.toNat+j)).1 a b i j a.cols.toNat).1,(timesL f a b (i*b.cols.toNat+j)).2++[(dotS (timesL f a b (i*b.cols.toNat+j)).1 a b i j a.cols.toNat).2]):=by
 have h1:(i*b.cols.toNat+j)/b.cols.toNat=i:=by rw [Wi,Nat.mul_add_div (by omega),Nat.div_eq_of_lt hj];omega
 have h2:(i*b.cols.toNat+j) % b.cols.toNat=j:=by rw [Wi,Nat.mul_add_mod,Nat.mod_eq_of_lt hj]
 rw [show i*b.cols.toNat+(j+1)=(i*b.cols.toNat+j)+1 from rfl,timesL,h1,h2]
theorem X94{a b:Mx}(ha:AllOk a)(hb:AllOk b) : ∀ n,(∀ l,seqO (gridG (fun i j=>dotI a b i j a.cols.toNat) b.cols.toNat) n=some l→timesL false a b n=(false,l)∧∀ x ∈ l,dOk x=true)∧
  (seqO (gridG (fun i j=>dotI a b i j a.cols.toNat) b.cols.toNat) n=none→(timesL false a b n).1=true)
 | 0=>⟨fun l h=>(by injection h with h;subst h;exact ⟨rfl,fun x hx=>by cases hx⟩),fun h=>by cases h⟩
 | n+1=>by
  have ih:=X94 ha hb n
  have hd:=Xb6 ha hb (n/b.cols.toNat) (n % b.cols.toNat) a.cols.toNat
  unfold seqO timesL
  cases h1:seqO (gridG (fun i j=>dotI a b i j a.cols.toNat) b.cols.toNat) n with
  | none=>
   rw [ih.2 h1,Xbb]
   exact ⟨fun l h=>(by cases h),fun _=>rfl⟩
  | some l=>
   obtain ⟨h2,h3⟩:=ih.1 l h1
   rw [h2]
   dsimp only
   rw [show gridG (fun i j=>dotI a b i j a.cols.toNat) b.cols.toNat n=dotI a b (n/b.cols.toNat) (n % b.cols.toNat) a.cols.toNat from rfl]
   cases h4:dotI a b (n/b.cols.toNat) (n % b.cols.toNat) a.cols.toNat with
   | none=>exact ⟨fun l h=>(by cases h),fun _=>hd.2 h4⟩
   | some x=>
    obtain ⟨h5,h6⟩:=hd.1 x h4
    rw [h5]
    refine ⟨fun l' h=>?_,fun h=>by cases h⟩
    injection h with h
    subst h
    exact ⟨rfl,fun y hy=>by
     rcases Qu.1 hy with hy|hy
     ·exact h3 y hy
     ·rw [Qm.1 hy];exact h6⟩
theorem X0s{m:Mx}(h:mOk m=true) : AllOk m:=by
 simp only [mOk,Qd,Bool.not_eq_true',W7] at h
 intro x hx
 have:=h.2 x hx
 simpa using this
theorem X1r{m:Mx}(h:mOk m=true) : isDimB m.rows=true∧isDimB m.cols=true:=by
 simp only [mOk,Qd] at h
 exact ⟨h.1.1.1,h.1.1.2⟩
theorem X6x{m:Mx}(hr:isDimB m.rows=true)(hc:isDimB m.cols=true)(hl:m.cells.length=m.rows.toNat*m.cols.toNat)(ha:AllOk m) : mOk m=true:=by
 have h1:=X24 hr;have h2:=X24 hc
 have h3:(m.cells.any fun x=>!dOk x)=false:=by
  rw [W7]
  intro x hx
  simp [ha x hx]
 have h4:wr (m.rows*m.cols)=(m.cells.length:Int):=by
  obtain ⟨r,hr⟩ : ∃ r:Nat,m.rows=r:=⟨m.rows.toNat,by omega⟩
  obtain ⟨c,hc⟩ : ∃ c:Nat,m.cols=c:=⟨m.cols.toNat,by omega⟩
  rw [hr] at h1
  rw [hc] at h2
  rw [hl,hr,hc]
  have h5:r*c≤32*32:=Nat.mul_le_mul (by omega) (by omega)
  rw [← Int.natCast_mul,X0h (by omega) (by omega)]
  simp
 unfold mOk
 rw [hr,hc,h3,h4]
 simp
theorem X33{n:Int}(h:1≤n∧n≤5) : isDimB ((2^n.toNat:Nat) : Int)=true:=by
 have:n=1∨n=2∨n=3∨n=4∨n=5:=by omega
 rcases this with rfl|rfl|rfl|rfl|rfl<;>decide
theorem X2m{a b:Mx}(ha:mOk a=true)(hb:mOk b=true)(hab:a.cols=b.rows) : (∀ m,mulI a b=some m→timesS false a b=(false,m)∧mOk m=true∧m.rows=a.rows∧m.cols=b.cols)∧(mulI a b=none→(timesS false a b).1=true):=by
 have hd1:=(X1r ha).1;have hd2:=(X1r hb).2;have h:=X94 (X0s ha) (X0s hb) (a.rows.toNat*b.cols.toNat)
 unfold mulI matOf timesS
 rw [ha,hb,hd1,hd2,Q4 (by simp [hab]),Q4 (show (true&&true)=true from rfl)]
 cases h1:seqO (gridG (fun i j=>dotI a b i j a.cols.toNat) b.cols.toNat) (a.rows.toNat*b.cols.toNat) with
 | none=>exact ⟨fun m h=>(by cases h),fun _=>h.2 h1⟩
 | some l=>
  obtain ⟨h2,h3⟩:=h.1 l h1
  rw [h2]
  refine ⟨fun m hm=>?_,fun hm=>by cases hm⟩
  injection hm with hm
  subst hm
  exact ⟨rfl,X6x hd1 hd2 (X35 h1) h3,rfl,rfl⟩
theorem Xc0{f:Nat→Dy} : ∀ n,seqO (fun m=>some (f m)) n=some ((List.range n).map f)
 | 0=>rfl
 | n+1=>by simp [seqO,Xc0 n,List.range_succ]
theorem X52{R C:Int}(hR:isDimB R=true)(hC:isDimB C=true)(f:Nat→Nat→Dy) : matOf R C (fun i j=>some (f i j))=some ⟨R,C,gridL f C.toNat (R.toNat*C.toNat)⟩:=by
 unfold matOf
 rw [hR,hC,Q4 (show (true&&true)=true from rfl)]
 have:gridG (fun i j=>some (f i j)) C.toNat=fun m=>some (gridF f C.toNat m):=rfl
 rw [this,Xc0]
 rfl
theorem Xer{f g:Nat→Nat→Dy}{R C:Nat}(h:∀ i j,i<R→j<C→f i j=g i j) : gridL f C (R*C)=gridL g C (R*C):=by
 unfold gridL
 refine List.map_congr_left fun m hm=>?_
 have hm':=W2.1 hm
 have hC:0<C:=by
  rcases Nat.eq_zero_or_pos C with h0|h0
  ·subst h0;simp at hm'
  ·exact h0
 exact h _ _ (Nat.div_lt_of_lt_mul (by rw [Wi];exact hm')) (Nat.mod_lt _ hC)
theorem X8s{f:Nat→Nat→Dy}{R C:Nat}{x:Dy}(h:x ∈ gridL f C (R*C)) : ∃ i j,i<R∧j<C∧x=f i j:=by
 unfold gridL at h
 obtain ⟨m,hm,rfl⟩:=W6.1 h
 have hm':=W2.1 hm
 have hC:0<C:=by
  rcases Nat.eq_zero_or_pos C with h0|h0
  ·subst h0;simp at hm'
  ·exact h0
 exact ⟨_,_,Nat.div_lt_of_lt_mul (by rw [Wi];exact hm'),Nat.mod_lt _ hC,rfl⟩
def unitS(d:Nat) : Mx:=⟨(d:Int),(d:Int),gridL (fun i j=>if i=j then dPow 0 else dZ) d (d*d)⟩
theorem X3k{d:Nat}(h:isDimB (d:Int)=true) : idI (d:Int)=some (unitS d)∧mOk (unitS d)=true:=by
 refine ⟨?_,?_⟩
 ·unfold idI
  rw [X52 h h (fun i j=>if i=j then ⟨⟨1,0,0,0⟩,0⟩ else dZ)]
  rfl
 ·refine X6x h h (by simp [unitS,X2p]) fun x hx=>?_;obtain ⟨i,j,_,_,rfl⟩:=X8s hx
  split
  ·rfl
  ·rfl
def bitT(p s:Nat) : Int:=bits .and .i64 ((s:Int)/2^p) 1
def flipT(p s:Nat) : Int:=bits .xor .i64 (s:Int) (wr (1*2^p))
def chkBits:Bool:=(List.range 5).all fun p=>(List.range 32).all fun s=>
 let f:=flipT p s
 Nat.blt f.toNat 32&&f==(f.toNat:Int)&&flipT p f.toNat==(s:Int)&&(bitT p f.toNat==1-bitT p s)&&(bitT p s==0||bitT p s==1) &&
 (List.range 5).all (fun q=>(q==p)||bitT q f.toNat==bitT q s) &&
 (List.range 5).all (fun q=>let g:=flipT q s;flipT p g.toNat==flipT q f.toNat) &&
 (List.range 32).all fun t=>(((t:Int)==s||f==(t:Int))==(bits .andNot .i64 (bits .xor .i64 (s:Int) (t:Int)) (wr (1*2^p))==0))
theorem Xcq:chkBits=true:=by kernel_rfl
def chkSmall:Bool:=(List.range 6).all fun n=>(List.range n).all fun q=>(List.range (2^n)).all fun s=>Nat.blt (flipT (n-1-q) s).toNat (2^n)
theorem Xaw:chkSmall=true:=by kernel_rfl
structure BitsOk (p s:Nat) : Prop where
 nat:flipT p s=((flipT p s).toNat:Int)
 lt:(flipT p s).toNat<32
 back:flipT p (flipT p s).toNat=(s:Int)
 bit:bitT p (flipT p s).toNat=1-bitT p s
 other:∀ q<5,q≠p→bitT q (flipT p s).toNat=bitT q s
 comm:∀ q<5,flipT p (flipT q s).toNat=flipT q (flipT p s).toNat
 sel:∀ t:Nat,t<32→(((t:Int)=s∨flipT p s=(t:Int))↔bits .andNot .i64 (bits .xor .i64 (s:Int) (t:Int)) (wr (1*2^p))=0)
theorem X51{p s:Nat}(hp:p<5)(hs:s<32) : BitsOk p s:=by
 have h:=Xcq
 simp only [chkBits,W1,W2] at h
 have h:=h p hp s hs
 simp only [Qd,W1,W2,beq_iff_eq,Bool.or_eq_true,Nat.blt_eq] at h
 obtain ⟨⟨⟨⟨⟨⟨⟨h1,h2⟩,h3⟩,h4⟩,_⟩,h6⟩,h7⟩,h8⟩:=h
 refine ⟨h2,h1,h3,h4,fun q hq hne=>(h6 q hq).resolve_left hne,h7,fun t ht=>?_⟩
 have h9:=h8 t ht
 rw [Bool.eq_iff_iff] at h9
 simpa using h9
theorem X59{n q s:Nat}(hn:n≤5)(hq:q<n)(hs:s<2^n) : (flipT (n-1-q) s).toNat<2^n:=by
 have h:=Xaw
 simp only [chkSmall,W1,W2] at h
 have h:=h n (by omega) q hq s hs
 simpa [Nat.blt_eq] using h
theorem Xga{n q:Int}(s:Nat) : bitF n (s:Int) q=bitT (n-1-q).toNat s:=rfl
theorem X6j{n q:Int}(s:Nat) : flipF n (s:Int) q=flipT (n-1-q).toNat s:=rfl
theorem Xbn{n q:Int}(hq:0≤q)(hqn:q<n) : (n-1-q).toNat=n.toNat-1-q.toNat:=by omega
theorem Xd5{n:Int}{g:Gt}(hg:gOk n g=true){s:Nat}(hs:s<2^n.toNat)(hk:9≤g.k∧g.k≤11) : ∃ t:Nat,t<2^n.toNat∧toS n g s=(t:Int)∧toS n g t=(s:Int)∧(g.k=10→t=s):=by
 obtain ⟨hn,hk0,ha,hb⟩:=X28 hg
 have ha:=ha (by omega)
 have hb:=hb hk
 have h32:2^n.toNat≤32:=X5v hn.2
 obtain ⟨p,hp⟩ : ∃ p,p=(n-1-g.a).toNat:=⟨_,rfl⟩
 obtain ⟨q,hq⟩ : ∃ q,q=(n-1-g.b).toNat:=⟨_,rfl⟩
 have hp5:p<5:=by omega
 have hq5:q<5:=by omega
 have hpq:p≠q:=by omega
 have hsm:∀ s,s<2^n.toNat→(flipT p s).toNat<2^n.toNat:=fun s hs=>by
  rw [hp,Xbn (by omega) (by omega)]
  exact X59 (by omega) (by omega) hs
 have hsm2:∀ s,s<2^n.toNat→(flipT q s).toNat<2^n.toNat:=fun s hs=>by
  rw [hq,Xbn (by omega) (by omega)]
  exact X59 (by omega) (by omega) hs
 unfold toS
 simp only [Xga,X6j,← hp,← hq]
 have Bp:=X51 (p:=p) (s:=s) hp5 (by omega)
 have Bq:=X51 (p:=q) (s:=s) hq5 (by omega)
 by_cases h9:g.k=9
 ·simp only [h9,if_true]
  by_cases hb1:bitT p s=1
  ·refine ⟨(flipT q s).toNat,hsm2 s hs,by rw [Q4 hb1];exact Bq.nat,?_,by omega⟩
   rw [Q4 (by rw [Bq.other p hp5 hpq];exact hb1)]
   exact Bq.back
  ·exact ⟨s,hs,by rw [Q3 hb1],by rw [Q3 hb1],by omega⟩
 ·simp only [h9,if_false]
  by_cases h11:g.k=11
  ·simp only [h11,if_true]
   by_cases hb1:bitT p s=bitT q s
   ·exact ⟨s,hs,by rw [Q3 (by simpa using hb1)],by rw [Q3 (by simpa using hb1)],by omega⟩
   ·have Bf:=X51 (p:=q) (s:=(flipT p s).toNat) hq5 Bp.lt
    have Bg:=X51 (p:=p) (s:=(flipT q (flipT p s).toNat).toNat) hp5 Bf.lt
    have e1:flipF n (flipT p s) g.b=flipT q (flipT p s).toNat:=by rw [Bp.nat,X6j,← hq,Qj]
    refine ⟨(flipT q (flipT p s).toNat).toNat,hsm2 _ (hsm _ hs),?_,?_,by omega⟩
    ·rw [Q4 hb1,e1];exact Bf.nat
    ·have e2:bitT p (flipT q (flipT p s).toNat).toNat=1-bitT p s:=by rw [Bf.other p hp5 hpq,Bp.bit]
     have e3:bitT q (flipT q (flipT p s).toNat).toNat=1-bitT q s:=by rw [Bf.bit,Bp.other q hq5 (Ne.symm hpq)]
     have e4:flipT p (flipT q (flipT p s).toNat).toNat=flipT q (flipT p (flipT p s).toNat).toNat:=(X51 (p:=p) (s:=(flipT p s).toNat) hp5 Bp.lt).comm q hq5
     rw [Q4 (by rw [e2,e3];omega),e4,Bp.back,Qj,Bq.nat,X6j,← hq,Bq.back]
  ·exact ⟨s,hs,by rw [Q3 h11],by rw [Q3 h11],fun _=>rfl⟩
theorem Xnl{k:Int}(h:1≤k∧k≤8){i j:Int}(hi:i=0∨i=1)(hj:j=0∨j=1) : (oneL k).getD (2*i+j).toNat dZ=entryI k i j:=by
 have:k=1∨k=2∨k=3∨k=4∨k=5∨k=6∨k=7∨k=8:=by omega
 rcases this with rfl|rfl|rfl|rfl|rfl|rfl|rfl|rfl<;>rcases hi with rfl|rfl<;>rcases hj with rfl|rfl<;>rfl
theorem Xo0{n:Int}{g:Gt}(hg:gOk n g=true){i j:Nat}(hi:i<2^n.toNat)(hj:j<2^n.toNat) : cellI n g i j=cellS n g i j:=by
 obtain ⟨hn,hk0,ha,hb⟩:=X28 hg
 have h32:2^n.toNat≤32:=X5v hn.2
 unfold cellI cellS
 by_cases h12:g.k=12
 ·rw [Q4 h12,Q3 (show ¬ g.k≤8 by omega)]
  have e1:toS n g j=j:=by unfold toS;rw [Q3 (show ¬ g.k=9 by omega),Q3 (show ¬ g.k=11 by omega)]
  rw [e1]
  by_cases hij:(i:Int)=j
  ·rw [Q4 hij,Q4 hij,valS,Q4 h12]
  ·rw [Q3 hij,Q3 hij]
 ·rw [Q3 h12]
  by_cases h2:9≤g.k∧g.k≤11
  ·rw [Q4 (X0g.2 h2),Q3 (show ¬ g.k≤8 by omega)]
   obtain ⟨t,ht,e1,e2,e3⟩:=Xd5 hg hi h2;obtain ⟨t',ht',e1',e2',e3'⟩:=Xd5 hg hj h2
   by_cases hij:toS n g i=j
   ·have hts:(i:Int)=toS n g j:=by rw [← e2,← e1,hij]
    rw [Q4 hij,Q4 hts,valS,Q3 h12]
    by_cases h10:g.k=10
    ·have hij2:i=j:=by rw [e1] at hij;have:=e3 h10;omega
     subst hij2
     by_cases hc:bitF n i g.a=1∧bitF n i g.b=1
     ·rw [Q4 (by simp [czI,h10,hc]),Q4 ⟨h10,hc⟩];rfl
     ·have hc':¬ czI n g i=true:=by simp only [czI,h10,Qd,beq_iff_eq,true_and,and_assoc];exact hc
      rw [Q3 hc',Q3 (fun h=>hc h.2)];rfl
    ·have hc':¬ czI n g i=true:=by simp [czI,h10]
     rw [Q3 hc',Q3 (fun h=>h10 h.1)];rfl
   ·have hts:¬ (i:Int)=toS n g j:=fun h=>by
     rw [e1'] at h
     have h:i=t':=by omega
     subst h
     exact hij e2'
    rw [Q3 hij,Q3 hts]
  ·have h8:g.k≤8:=by omega
   have ha:=ha h12
   rw [Q3 (fun h=>h2 (X0g.1 h)),Q4 h8]
   have B:=X51 (p:=(n-1-g.a).toNat) (s:=i) (by omega) (by omega)
   have hs:=B.sel j (by omega)
   rw [X6j]
   have e0:((i:Int)=j∨flipT (n-1-g.a).toNat i=(j:Int))↔((j:Int)=i∨flipT (n-1-g.a).toNat i=(j:Int)):=by
    constructor<;>rintro (h|h)<;>first|exact .inl h.symm|exact .inr h
   by_cases hz:bits .andNot .i64 (bits .xor .i64 (i:Int) (j:Int)) (wr (1*2^(n-1-g.a).toNat))=0
   ·rw [Q4 (e0.2 (hs.2 hz)),Q3 (fun h=>h hz)]
    exact (Xnl ⟨hk0.1,h8⟩ (X3j _ _ _) (X3j _ _ _)).symm
   ·rw [Q3 (fun h=>hz (hs.1 (e0.1 h))),Q4 hz]
theorem Xm4{k:Int}(h:1≤k∧k≤8){i j:Int}(hi:i=0∨i=1)(hj:j=0∨j=1) : dOk (entryI k i j)=true:=by
 have:k=1∨k=2∨k=3∨k=4∨k=5∨k=6∨k=7∨k=8:=by omega
 rcases this with rfl|rfl|rfl|rfl|rfl|rfl|rfl|rfl<;>rcases hi with rfl|rfl<;>rcases hj with rfl|rfl<;>rfl
theorem Xps{n:Int}{g:Gt}(hg:gOk n g=true)(i j:Int) : dOk (cellI n g i j)=true:=by
 obtain ⟨hn,hk0,ha,hb⟩:=X28 hg
 unfold cellI
 split
 ·split<;>rfl
 ·split
  ·split
   ·split<;>rfl
   ·rfl
  ·rename_i h1 h2
   split
   ·exact Xm4 (by have h3:¬ (9≤g.k∧g.k≤11):=fun h=>h2 (X0g.2 h);omega) (X3j _ _ _) (X3j _ _ _)
   ·rfl
theorem X4b{n:Int}{g:Gt}(hg:gOk n g=true) : gateI n g=some (gateS n g)∧mOk (gateS n g)=true:=by
 have hn:=(X28 hg).1;have hd:=X33 hn
 have he:gridL (fun i j=>cellI n g i j) (2^n.toNat) (2^n.toNat*2^n.toNat)=gridL (fun i j=>cellS n g i j) (2^n.toNat) (2^n.toNat*2^n.toNat):=Xer fun i j hi hj=>Xo0 hg hi hj
 refine ⟨?_,?_⟩
 ·unfold gateI
  rw [Q4 hg,X52 hd hd (fun i j=>cellI n g i j)]
  simp only [Qj]
  rw [he]
  rfl
 ·refine X6x hd hd (by simp only [gateS,X2p,Qj]) fun x hx=>?_
  simp only [gateS] at hx
  rw [← he] at hx
  obtain ⟨i,j,_,_,rfl⟩:=X8s hx;exact Xps hg _ _
def applI(n:Int) : List Gt→Mx→Option Mx
 | [],m=>some m
 | g::l,m=>(mulI ((gateI n g).getD mZ) m).bind (applI n l)
def runS(n:Int)(f:Bool) : List Gt→Mx→Bool×Mx
 | [],m=>(f,m)
 | g::l,m=>if f=true then (f,m) else runS n (timesS false (gateS n g) m).1 l (timesS false (gateS n g) m).2
theorem X8k(n:Int) : ∀ (l:List Gt) (m:Mx),runS n true l m=(true,m)
 | [],_=>rfl
 | _::_,_=>rfl
theorem Xbk{n:Int} : ∀ (l:List Gt) (m:Mx),(∀ g ∈ l,gOk n g=true)→mOk m=true→m.rows=((2^n.toNat:Nat) : Int)→
  (∀ m',applI n l m=some m'→runS n false l m=(false,m')∧mOk m'=true∧m'.rows=((2^n.toNat:Nat) : Int))∧(applI n l m=none→(runS n false l m).1=true)
 | [],m,_,hm,hr=>⟨fun m' h=>(by injection h with h;subst h;exact ⟨rfl,hm,hr⟩),fun h=>by cases h⟩
 | g::l,m,hg,hm,hr=>by
  obtain ⟨h1,h2⟩:=X4b (hg g (by simp))
  have h3:=X2m h2 hm (by rw [hr];rfl)
  unfold applI runS
  rw [h1,Qq,Q3 (by decide)]
  cases h4:mulI (gateS n g) m with
  | none=>
   rw [h3.2 h4,X8k]
   exact ⟨fun m' h=>(by cases h),fun _=>rfl⟩
  | some m1=>
   obtain ⟨h5,h6,h7,h8⟩:=h3.1 m1 h4
   rw [h5]
   exact Xbk l m1 (fun g hg'=>hg g (by simp [hg'])) h6 (by rw [h7];rfl)
def opI(c:Cx) : Option Mx:=if cOk c=true then (idI ((2^c.n.toNat:Nat) : Int)).bind (applI c.n c.gs) else none
def opS(c:Cx) : Option Mx:=if cOk c=true then (if (runS c.n false c.gs (unitS (2^c.n.toNat))).1=true then none else some (runS c.n false c.gs (unitS (2^c.n.toNat))).2) else none
theorem X3b{c:Cx}(h:cOk c=true) : (1≤c.n∧c.n≤5)∧c.gs.length≤400∧∀ g ∈ c.gs,gOk c.n g=true:=by
 simp only [cOk,Qd,X0g,Qr,Bool.not_eq_true',W7] at h
 exact ⟨h.1.1,by omega,fun g hg=>by simpa using h.2 g hg⟩
theorem Xh2(c:Cx) : opI c=opS c∧∀ m,opS c=some m→mOk m=true∧m.rows=((2^c.n.toNat:Nat) : Int):=by
 unfold opI opS
 by_cases hc:cOk c=true
 ·obtain ⟨hn,_,hg⟩:=X3b hc;obtain ⟨h1,h2⟩:=X3k (X33 hn);have h3:=Xbk c.gs _ hg h2 rfl
  rw [Q4 hc,Q4 hc,h1,Qz]
  cases h4:applI c.n c.gs (unitS (2^c.n.toNat)) with
  | none=>rw [h3.2 h4,Q4 rfl];exact ⟨rfl,fun m h=>by cases h⟩
  | some m'=>
   obtain ⟨h5,h6,h7⟩:=h3.1 m' h4
   rw [h5,Q3 (show ¬ (false=true) by decide)]
   exact ⟨rfl,fun m h=>(by injection h with h;subst h;exact ⟨h6,h7⟩)⟩
 ·rw [Q3 hc,Q3 hc]
  exact ⟨rfl,fun m h=>by cases h⟩
theorem Xto{x:Cx}{M:Mx}(hx:cOk x=true)(h:opI x=some M) : runS x.n false x.gs (unitS (2^x.n.toNat))=(false,M):=by
 rw [(Xh2 x).1,opS,Q4 hx] at h
 cases e:(runS x.n false x.gs (unitS (2^x.n.toNat))).1 with
 | true=>rw [Q4 e] at h;cases h
 | false=>
  rw [Q3 (by rw [e];decide)] at h
  injection h with h
  exact Prod.ext e h
theorem Xfo{x:Rg}(h:rOk x=true) : rOk (rOm x)=true∧rOm x=⟨-x.d,x.a,x.b,x.c⟩:=by
 rw [X1w] at h
 have e:rOm x=⟨-x.d,x.a,x.b,x.c⟩:=by unfold rOm;rw [X0h (by omega) (by omega)]
 refine ⟨?_,e⟩
 rw [e,X1w]
 dsimp only
 omega
theorem X3f{x:Rg}(h:rOk x=true) : rEven x=true↔(x.a+x.c) % 2=0∧(x.b+x.d) % 2=0:=by
 rw [X1w] at h
 unfold rEven
 rw [X0h (by omega) (by omega),X0h (by omega) (by omega)]
 simp only [Qd,beq_iff_eq]
 have key:∀ i:Int,i.tmod 2=0↔i % 2=0:=fun i=>by
  rw [← Int.dvd_iff_tmod_eq_zero,← Int.dvd_iff_emod_eq_zero]
 rw [key,key]
theorem Xkp{x:Rg}(h:rOk x=true) : rEven (rOm x)=rEven x:=by
 obtain ⟨h1,h2⟩:=Xfo h
 rw [Bool.eq_iff_iff,X3f h1,X3f h,h2]
 dsimp only
 omega
theorem Xb9:∀ (k:Nat) (x:Rg),rOk x=true→rOk (rTurnN k x)=true∧rEven (rTurnN k x)=rEven x
 | 0,_,h=>⟨h,rfl⟩
 | k+1,x,h=>by
  obtain ⟨h1,h2⟩:=Xb9 k (rOm x) (Xfo h).1;exact ⟨h1,h2.trans (Xkp h)⟩
theorem X7m{x:Rg}(h:rOk x=true)(k:Int) : rOk (rTurn x k)=true∧rEven (rTurn x k)=rEven x:=Xb9 _ _ h
theorem wr0:wr 0=0:=rfl
theorem Xkx{x:Rg}(h:rOk x=true){k:Nat}(hk:k<8) : rMul x (rTurn ⟨1,0,0,0⟩ k)=rTurn x k:=by
 have h':=X1w.1 h
 obtain ⟨a,b,c,d⟩:=x
 dsimp only at h'
 have wa:wr a=a:=X0h (by omega) (by omega)
 have wb:wr b=b:=X0h (by omega) (by omega)
 have wc:wr c=c:=X0h (by omega) (by omega)
 have wd:wr d=d:=X0h (by omega) (by omega)
 have na:wr (-a) = -a:=X0h (by omega) (by omega)
 have nb:wr (-b) = -b:=X0h (by omega) (by omega)
 have nc:wr (-c) = -c:=X0h (by omega) (by omega)
 have nd:wr (-d) = -d:=X0h (by omega) (by omega)
 have:k=0∨k=1∨k=2∨k=3∨k=4∨k=5∨k=6∨k=7:=by omega
 have s0:rTurn ⟨1,0,0,0⟩ ((0:Nat) : Int)=⟨1,0,0,0⟩:=by decide
 have s1:rTurn ⟨1,0,0,0⟩ ((1:Nat) : Int)=⟨0,1,0,0⟩:=by decide
 have s2:rTurn ⟨1,0,0,0⟩ ((2:Nat) : Int)=⟨0,0,1,0⟩:=by decide
 have s3:rTurn ⟨1,0,0,0⟩ ((3:Nat) : Int)=⟨0,0,0,1⟩:=by decide
 have s4:rTurn ⟨1,0,0,0⟩ ((4:Nat) : Int)=⟨-1,0,0,0⟩:=by decide
 have s5:rTurn ⟨1,0,0,0⟩ ((5:Nat) : Int)=⟨0,-1,0,0⟩:=by decide
 have s6:rTurn ⟨1,0,0,0⟩ ((6:Nat) : Int)=⟨0,0,-1,0⟩:=by decide
 have s7:rTurn ⟨1,0,0,0⟩ ((7:Nat) : Int)=⟨0,0,0,-1⟩:=by decide
 have T:∀ j:Nat,j<8→rTurn ⟨a,b,c,d⟩ (j:Int)=rTurnN j ⟨a,b,c,d⟩:=fun j hj=>by
  have:(turns (j:Int)).toNat=j:=by
   have:j=0∨j=1∨j=2∨j=3∨j=4∨j=5∨j=6∨j=7:=by omega
   rcases this with rfl|rfl|rfl|rfl|rfl|rfl|rfl|rfl<;>decide
  rw [rTurn,this]
 rcases this with rfl|rfl|rfl|rfl|rfl|rfl|rfl|rfl
 ·rw [T 0 (by omega),s0];simp [rMul,rTurnN,rOm,wr0,wa,wb,wc,wd,na,nb,nc,nd]
 ·rw [T 1 (by omega),s1];simp [rMul,rTurnN,rOm,wr0,wa,wb,wc,wd,na,nb,nc,nd]
 ·rw [T 2 (by omega),s2];simp [rMul,rTurnN,rOm,wr0,wa,wb,wc,wd,na,nb,nc,nd]
 ·rw [T 3 (by omega),s3];simp [rMul,rTurnN,rOm,wr0,wa,wb,wc,wd,na,nb,nc,nd]
 ·rw [T 4 (by omega),s4];simp [rMul,rTurnN,rOm,wr0,wa,wb,wc,wd,na,nb,nc,nd]
 ·rw [T 5 (by omega),s5];simp [rMul,rTurnN,rOm,wr0,wa,wb,wc,wd,na,nb,nc,nd]
 ·rw [T 6 (by omega),s6];simp [rMul,rTurnN,rOm,wr0,wa,wb,wc,wd,na,nb,nc,nd]
 ·rw [T 7 (by omega),s7];simp [rMul,rTurnN,rOm,wr0,wa,wb,wc,wd,na,nb,nc,nd]
theorem Xia{z:Dy}(h:dOk z=true){k:Nat}(hk:k<8) : dMulI z (dPow k)=some (dTurn k z):=by
 have hz:=X1g.1 h
 have h1:rOk (rTurn ⟨1,0,0,0⟩ k)=true:=(X7m (by decide) _).1
 have hp:dOk (dPow k)=true:=X1g.2 ⟨h1,by simp [dPow],.inl rfl⟩
 obtain ⟨h2,h3⟩:=X7m hz.1 (k:Int)
 unfold dMulI
 rw [h,hp,show (dPow k).num=rTurn ⟨1,0,0,0⟩ k from rfl,rIf1,X46 hz.1 h1,Xkx hz.1 hk,h2]
 simp only [Bool.and_self,if_true]
 unfold dOf
 rw [h2,show z.exp+(dPow k).exp=z.exp from by simp [dPow],X0g.2 hz.2.1]
 simp only [Bool.and_self,if_true]
 rw [X29 fun h0=>by rw [h3];rcases hz.2.2 with h4|h4;exact absurd h4 (by omega);exact h4]
 rfl
theorem X5a{q:Mx}(h:mOk q=true){k:Nat}(hk:k<8) : scaleI q (dPow k)=some ⟨q.rows,q.cols,q.cells.map (dTurn k)⟩:=by
 have h1:rOk (rTurn ⟨1,0,0,0⟩ k)=true:=(X7m (by decide) _).1
 have hp:dOk (dPow k)=true:=X1g.2 ⟨h1,by simp [dPow],.inl rfl⟩
 have hd:=X1r h;have hl:=X2q h;have ha:=X0s h
 have hf:(fun i j=>dMulI (q.at i j) (dPow k))=fun i j=>some (dTurn k (q.at i j)):=by
  funext i j
  exact Xia (Mx.at_ok ha i j) hk
 unfold scaleI
 rw [h,hp,Q4 (show (true&&true)=true from rfl),hf,X52 hd.1 hd.2 (fun i j=>dTurn k (q.at i j))]
 congr 2
 unfold gridL
 apply List.ext_getElem
 ·simp [hl.2.2]
 ·intro m h1 h2
  simp only [Qo,List.length_range] at h1
  simp only [List.getElem_map,List.getElem_range]
  unfold gridF Mx.at
  dsimp only
  have:m/q.cols.toNat*q.cols.toNat+m % q.cols.toNat=m:=by rw [Wi];exact Nat.div_add_mod m _
  rw [this,Qa,Qc (by rw [hl.2.2];exact h1)]
  rfl
theorem Xmq{p q:Mx}(h:mOk q=true) : eqPh p q=phaseS p q:=by
 unfold eqPh phaseS
 rw [Bool.eq_iff_iff,List.any_eq_true,List.any_eq_true]
 constructor
 ·rintro ⟨k,hk,h1⟩
  refine ⟨k,hk,?_⟩
  rw [eqPhT,X5a h (W2.1 hk)] at h1
  exact h1
 ·rintro ⟨k,hk,h1⟩
  refine ⟨k,hk,?_⟩
  rw [eqPhT,X5a h (W2.1 hk)]
  exact h1
def sameI(a b:Cx) : Bool×Bool:=
 if ((opI a).isSome&&(opI b).isSome&&a.n==b.n)=true then
  (mOk ((opI a).getD mZ)&&mOk ((opI b).getD mZ)&&eqPh ((opI a).getD mZ) ((opI b).getD mZ),mOk ((opI a).getD mZ)&&mOk ((opI b).getD mZ)) else (false,false)
def sameS(a b:Cx) : Bool×Bool:=
 if ((opS a).isSome&&(opS b).isSome&&a.n==b.n)=true then (phaseS ((opS a).getD mZ) ((opS b).getD mZ),true) else (false,false)
theorem Xdy{n:Int}(hn:1≤n∧n≤5){g:Gt} : (gateS n g).cells.length≤2305843009213693951:=by
 have h:=X5v hn.2
 have h2:2^n.toNat*2^n.toNat≤32*32:=Nat.mul_le_mul h h
 simp only [gateS,X2p]
 omega
theorem Xm7{m:Mx}(h:mOk m=true) : m.cells.length≤2305843009213693951:=by
 have h1:=X2q h
 have h2:m.rows.toNat*m.cols.toNat≤32*32:=Nat.mul_le_mul (by omega) (by omega)
 omega
theorem Xfa(a:Cx) : ((opI a).getD mZ).cells.length≤2305843009213693951:=by
 have h:=Xh2 a
 cases ha:opI a with
 | none=>exact Qf _
 | some m=>rw [h.1] at ha;exact Xm7 (h.2 m ha).1
theorem Xel{α:Type}{l:List α}{i:Nat}{u:α}(h:l[i]? = some u) : l.drop i=u::l.drop (i+1):=by
 obtain ⟨h1,h2⟩:=Qg.1 h
 rw [Qy h1,h2]
def unitP(d i:Nat) : List Dy:=(List.range (d*d)).map fun m=>if m/d=m % d∧m/d<i then dPow 0 else dZ
theorem Xbe(d i:Nat) : (unitP d i).length=d*d:=by simp [unitP]
theorem Xg9(d:Nat) : List.replicate (d*d) dZ=unitP d 0:=by
 unfold unitP
 apply List.ext_getElem
 ·simp
 ·intro k h1 h2
  simp
theorem Xfl{d i:Nat}(h:i<d) : (unitP d i).set (i*d+i) (dPow 0)=unitP d (i+1):=by
 have e1:(i*d+i)/d=i:=by rw [Wi,Nat.mul_add_div (by omega),Nat.div_eq_of_lt h];omega
 have e2:(i*d+i) % d=i:=by rw [Wi,Nat.mul_add_mod,Nat.mod_eq_of_lt h]
 unfold unitP
 apply List.ext_getElem
 ·simp
 ·intro k h1 h2
  simp only [List.length_set,Qo,List.length_range] at h1
  rw [List.getElem_set]
  split
  ·rename_i hk
   subst hk
   simp [e1,e2]
  ·rename_i hk
   simp only [List.getElem_map,List.getElem_range]
   have:(k/d=k % d∧k/d<i)↔(k/d=k % d∧k/d<i+1):=by
    constructor
    ·rintro ⟨h3,h4⟩;exact ⟨h3,by omega⟩
    ·rintro ⟨h3,h4⟩
     refine ⟨h3,?_⟩
     rcases W4 (k/d) i with h5|h5
     ·exact h5
     ·have h6:k/d=i:=by omega
      have h7:=Nat.div_add_mod k d
      rw [← h3,h6] at h7
      exact absurd (show i*d+i=k by rw [Wi i d];exact h7) hk
   by_cases hc:k/d=k % d∧k/d<i
   ·rw [Q4 hc,Q4 (this.1 hc)]
   ·rw [Q3 hc,Q3 (fun h=>hc (this.2 h))]
theorem Xft{d:Nat} : (unitS d).cells=unitP d d:=by
 unfold unitP unitS gridL
 refine List.map_congr_left fun m hm=>?_
 have hm':=W2.1 hm
 have h1:m/d<d:=Nat.div_lt_of_lt_mul hm'
 unfold gridF
 dsimp only
 by_cases hc:m/d=m % d
 ·rw [Q4 hc,Q4 ⟨hc,h1⟩]
 ·rw [Q3 hc,Q3 (fun h=>hc h.1)]
theorem Xeg:∀ (m:Nat) (x:Rg),0≤(dLow x m).exp∧(dLow x m).exp≤m
 | 0,x=>by rw [X29 (by omega)];simp
 | m+1,x=>by
  by_cases he:rEven x=true
  ·rw [X4t (by omega) he,show ((m+1:Nat) : Int)-1=(m:Int) from by omega]
   have:=Xeg m (rHalf x)
   omega
  ·rw [X29 fun _=>by simpa using he]
   dsimp only
   omega
theorem Xbf{x:Rg}{e:Int}(h0:0≤e) : 0≤(dLow x e).exp∧(dLow x e).exp≤e:=by
 obtain ⟨m,rfl⟩ : ∃ m:Nat,e=m:=⟨e.toNat,by omega⟩
 exact Xeg m x
theorem Xai{f:Bool}{x y:Dy}(hx:0≤x.exp∧x.exp≤60)(hy:0≤y.exp∧y.exp≤60) : 0≤(sMul f x y).2.exp∧(sMul f x y).2.exp≤60:=by
 unfold sMul
 split
 ·exact ⟨Int.le_refl _,by decide⟩
 ·have:=Xbf (x:=sRing (rMul x.num y.num)) (e:=x.exp+y.exp) (by omega)
  dsimp only
  omega
theorem Xdo{f:Bool}{x y:Dy}(hx:0≤x.exp∧x.exp≤60)(hy:0≤y.exp∧y.exp≤60) : 0≤(sAdd f x y).2.exp∧(sAdd f x y).2.exp≤60:=by
 unfold sAdd
 dsimp only
 rw [X5c]
 have:=fun z=>Xbf (x:=z) (e:=x.exp+((y.exp-x.exp).toNat:Int)) (by omega)
 have h:=this (sRing (rAdd (sRaiseN (y.exp-x.exp).toNat f x).2.num (sRaiseN (x.exp+((y.exp-x.exp).toNat:Int)-y.exp).toNat (sRaiseN (y.exp-x.exp).toNat f x).1 y).2.num))
 omega
theorem X83{a b:Mx}(ha:AllOk a)(hb:AllOk b)(f:Bool)(i j:Nat) : ∀ n,0≤(dotS f a b i j n).2.exp∧(dotS f a b i j n).2.exp≤60
 | 0=>⟨Int.le_refl _,show (0:Int)≤60 by decide⟩
 | n+1=>by
  rw [dotS]
  split
  ·exact X83 ha hb f i j n
  ·exact Xdo (X83 ha hb f i j n) (Xai (X26 (Mx.at_ok ha i n)) (X26 (Mx.at_ok hb n j)))
theorem Xq5{a b:Mx}{f f3:Bool}{i j k n:Nat}{s:Dy}(h:dotS f a b i j k=(f3,s))(hk:k≤n)(he:f3=true∨k=n) : dotS f a b i j n=(f3,s):=by
 rcases he with he|he
 ·subst he
  rw [X9u (n:=k) (by rw [h]) n hk,h]
 ·subst he;exact h
theorem Xki{a b:Mx}{f f3:Bool}{i j k:Nat}{s:Dy}(h:dotS f a b i j k=(f3,s))(hf:f3=false) :
  dotS f a b i j (k+1)=((sAdd (sMul f3 (a.at i k) (b.at k j)).1 s (sMul f3 (a.at i k) (b.at k j)).2).1,(sAdd (sMul f3 (a.at i k) (b.at k j)).1 s (sMul f3 (a.at i k) (b.at k j)).2).2):=by
 subst hf
 rw [dotS,h,Q3 (show ¬ (false=true) by decide)]
theorem X2r{a b:Nat}(ha:a≤32)(hb:b≤32) : a*b≤1024:=Q0 (Nat.mul_le_mul ha hb) (by decide)
def putI:List Int→Int→List Int
 | [],n=>[n]
 | x::l,n=>if x<n then x::putI l n else if x=n then x::l else n::x::l
def usedStep(m:List Int)(g:Gt) : List Int:=if g.k=12 then m else if inR g.k 9 11=true then putI (putI m g.a) g.b else putI m g.a
def usedS(l:List Gt) : List Int:=l.foldl usedStep []
def lastN(l:List Int)(q:Int) : Nat→Int
 | 0=>0
 | k+1=>if l.getD k 0=q then (k:Int) else lastN l q k
section
variable {us : List Int} {j : Nat} {v q x k : Int}
end
def smallG(used:List Int)(g:Gt) : Gt:=⟨g.k,if g.k=12 then 0 else lastN used g.a used.length,if inR g.k 9 11=true then lastN used g.b used.length else 0⟩
def validS(n:Int)(r:Rp) : Bool:=inR n 1 5&&inR r.pos 0 400&&(!(r.old.any fun x=>!gOk n x)&&decide ((r.old.length:Int)≤40))&&(!(r.new.any fun x=>!gOk n x)&&decide ((r.new.length:Int)≤40))
theorem Xkh(n:Int)(r:Rp) : validS n r=vrI n r:=by
 unfold validS vrI
 cases inR n 1 5<;>cases inR r.pos 0 400<;>cases (r.old.any fun x=>!gOk n x)<;>cases (r.new.any fun x=>!gOk n x)<;>cases decide ((r.old.length:Int)≤40)<;>cases decide ((r.new.length:Int)≤40)<;>rfl
abbrev Inc(l:List Int) : Prop:=l.Pairwise (· < ·)
structure GoodG (us:List Int) (n:Int) (g:Gt) : Prop where
 ok:gOk n g=true
 use:∀ x ∈ qubI g,x ∈ us
def smallC(l:List Gt)(us:List Int) : Cx:=⟨max 1 (us.length:Int),l.map (smallG us)⟩
def mapC(l:List Gt)(us:List Int) : Cx:=⟨max (us.length:Int) 1,mapI l (numbI us)⟩
def justS(r:Rp) : Bool×Bool:=sameS (smallC r.old (usedS (r.old++r.new))) (smallC r.new (usedS (r.old++r.new)))
def justI(r:Rp) : Bool×Bool:=sameI (mapC r.old (unionI (usedI r.old) (usedI r.new))) (mapC r.new (unionI (usedI r.old) (usedI r.new)))
theorem Xoo{n:Int}{r:Rp}(h:vrI n r=true) : (1≤n∧n≤5)∧(r.old.length≤40∧r.new.length≤40)∧(∀ g ∈ r.old,gOk n g=true)∧(∀ g ∈ r.new,gOk n g=true):=by
 simp only [vrI,Qd,X0g,Qr,Bool.not_eq_true',W7] at h
 refine ⟨h.1.1.1.1.1,by omega,fun g hg=>by simpa using h.1.2 g hg,fun g hg=>by simpa using h.2 g hg⟩
def implJ(n:Int)(r:Rp) : Bool×Bool:=if vrI n r=true then justI r else (false,false)
def specJ(n:Int)(r:Rp) : Bool×Bool:=if validS n r=true then justS r else (false,false)
def szG(l:List Gt)(left:Int) : Int:=if left-(l.length:Int)<0 then -1 else left-(l.length:Int)
def szR(r:Rp)(left:Int) : Int:=if szG r.old left<0 then -1 else if szG r.new (szG r.old left)<0 then -1 else szG r.new (szG r.old left)
structure Sr where (pos:Int) (A:Option Addr) (c:Nat) (old:List Gt) (B:Option Addr) (d:Nat) (new:List Gt)
def encSr(s:Sr) : List Value:=[.int .i64 s.pos,.slice s.A s.old.length s.c,.slice s.B s.new.length s.d]
abbrev Sr.rp(s:Sr) : Rp:=⟨s.pos,s.old,s.new⟩
def srZ:Sr:=⟨0,none,0,[],none,0,[]⟩
def DeepR(w:World)(B:Nat)(E:TypeId)(l:List Sr) : Prop:=∀ s ∈ l,Rd w B E encG s.A s.old∧Rd w B E encG s.B s.new
def DeepX(w:World)(B:Nat)(l:List Sr) : Prop:=∀ s ∈ l,(∃ E,Rd w B E encG s.A s.old)∧∃ E,Rd w B E encG s.B s.new
section
variable {w w' : World} {B : Nat} {E : TypeId} {l : List Sr}
theorem DeepR.below(h:DeepR w B E l)(hb:Below w.heap.size w w') : DeepR w' B E l:=fun s hs=>⟨(h s hs).1.below hb,(h s hs).2.below hb⟩
theorem DeepR.top(h:DeepR w B E l) : DeepR w w.heap.size E l:=fun s hs=>⟨(h s hs).1.top,(h s hs).2.top⟩
theorem DeepR.only{b:Nat}(h:DeepR w B E l)(ho:Only b w w')(hB:B≤b) : DeepR w' B E l:=fun s hs=>⟨(h s hs).1.only ho hB,(h s hs).2.only ho hB⟩
theorem DeepR.onlyT{b:Nat}{T:TypeId}{lc:List Value}(h:DeepR w B E l)(ho:Only b w w')(hb:Blk w b T lc)(hT:Nat.beq E T=false) : DeepR w' B E l:=fun s hs=>⟨(h s hs).1.onlyT ho hb hT,(h s hs).2.onlyT ho hb hT⟩
theorem DeepR.appB{B0:Nat}{E':TypeId}{sz:Nat}{α:Type}{enc:α→List Value}{A:Option Addr}{c:Nat}{m:List α}(h:DeepR w B E l)(ho:Own w B0 E' sz enc A c m)(hg:w.grownBy w' (Value.slice A m.length c).ownBlock)(hB:B≤B0) : DeepR w' B E l:=fun s hs=>⟨(h s hs).1.appB ho hg hB,(h s hs).2.appB ho hg hB⟩
theorem DeepR.appT{B0:Nat}{E':TypeId}{sz:Nat}{α:Type}{enc:α→List Value}{A:Option Addr}{c:Nat}{m:List α}(h:DeepR w B E l)(ho:Own w B0 E' sz enc A c m)(hg:w.grownBy w' (Value.slice A m.length c).ownBlock)(hT:Nat.beq E' E=false) : DeepR w' B E l:=fun s hs=>⟨(h s hs).1.appT ho hg hT,(h s hs).2.appT ho hg hT⟩
theorem DeepX.below(h:DeepX w B l)(hb:Below w.heap.size w w') : DeepX w' B l:=fun s hs=>⟨(h s hs).1.imp fun _ k=>k.below hb,(h s hs).2.imp fun _ k=>k.below hb⟩
theorem DeepX.top(h:DeepX w B l) : DeepX w w.heap.size l:=fun s hs=>⟨(h s hs).1.imp fun _ k=>k.top,(h s hs).2.imp fun _ k=>k.top⟩
theorem DeepX.only{b:Nat}(h:DeepX w B l)(ho:Only b w w')(hB:B≤b) : DeepX w' B l:=fun s hs=>⟨(h s hs).1.imp fun _ k=>k.only ho hB,(h s hs).2.imp fun _ k=>k.only ho hB⟩
theorem DeepX.appB{B0:Nat}{E':TypeId}{sz:Nat}{α:Type}{enc:α→List Value}{A:Option Addr}{c:Nat}{m:List α}(h:DeepX w B l)(ho:Own w B0 E' sz enc A c m)(hg:w.grownBy w' (Value.slice A m.length c).ownBlock)(hB:B≤B0) : DeepX w' B l:=fun s hs=>⟨(h s hs).1.imp fun _ k=>k.appB ho hg hB,(h s hs).2.imp fun _ k=>k.appB ho hg hB⟩
end
theorem DeepR.zero(w:World)(B:Nat)(E:TypeId)(n:Nat) : DeepR w B E (List.replicate n srZ):=fun s hs=>by
 obtain rfl:=List.eq_of_mem_replicate hs
 exact ⟨Rd.nil _ _ _ _ _,Rd.nil _ _ _ _ _⟩
theorem DeepR.set{w:World}{B:Nat}{E:TypeId}{l:List Sr}(h:DeepR w B E l){x:Sr}(h1:Rd w B E encG x.A x.old)(h2:Rd w B E encG x.B x.new)(k:Nat) : DeepR w B E (l.set k x):=fun s hs=>by
 rcases List.mem_or_eq_of_mem_set hs with hs|hs
 ·exact h s hs
 ·subst hs;exact ⟨h1,h2⟩
def cIf(c:Cx) : Option Cx:=if cOk c=true then some c else none
def midC(c:Cx)(r:Rp) : Cx:=⟨c.n,c.gs.take r.pos.toNat++(r.new++(c.gs.drop (r.pos.toNat+r.old.length)++[]))⟩
def fitI(c:Cx)(r:Rp) : Bool:=cOk c&&vrI c.n r&&decide (r.pos+(r.old.length:Int)≤(c.gs.length:Int))&&decide ((c.gs.take (r.pos.toNat+r.old.length)).drop r.pos.toNat=r.old)
def applyI(c:Cx)(r:Rp) : Option Cx:=if fitI c r=true then cIf (midC c r) else none
def fitS(c:Cx)(r:Rp) : Bool:=validS c.n r&&decide (r.pos+(r.old.length:Int)≤(c.gs.length:Int))&&decide ((c.gs.length:Int)-(r.old.length:Int)+(r.new.length:Int)≤400)
def applyS(c:Cx)(r:Rp) : Option Cx:=if fitS c r=true∧(c.gs.take (r.pos.toNat+r.old.length)).drop r.pos.toNat=r.old then some ⟨c.n,c.gs.take r.pos.toNat++r.new++c.gs.drop (r.pos.toNat+r.old.length)⟩ else none
def eqC(c d:Cx) : Bool:=c.n==d.n&&decide (c.gs=d.gs)
def checkLI(i:Nat)(c:Cx)(d:Cx) : List Rp→Int
 | []=>if eqC c d=true then 0 else (i:Int)+1
 | r::l=>if ((applyI c r).isSome&&(implJ c.n r).2&&(implJ c.n r).1)=true then checkLI (i+1) ((applyI c r).getD ⟨0,[]⟩) d l else (i:Int)+1
def checkLS(i:Nat)(c:Cx)(d:Cx) : List Rp→Int
 | []=>if eqC c d=true then 0 else (i:Int)+1
 | r::l=>if ((applyS c r).isSome&&(justS r).1&&(justS r).2)=true then checkLS (i+1) ((applyS c r).getD ⟨0,[]⟩) d l else (i:Int)+1
def checkI(c d:Cx)(l:List Rp) : Int×Bool:=if (cOk c&&decide ((l.length:Int)≤400))=true then (checkLI 0 c d l,true) else (0,false)
def checkS(c d:Cx)(l:List Rp) : Int×Bool:=if (cOk c&&decide ((l.length:Int)≤400))=true then (checkLS 0 c d l,true) else (0,false)
theorem Xn3{c:Cx}{r:Rp}(hc:cOk c=true) : applyI c r=applyS c r∧∀ c',applyS c r=some c'→cOk c'=true∧c'.n=c.n∧vrI c.n r=true:=by
 obtain ⟨hn,hl,hg⟩:=X3b hc
 unfold applyI applyS fitI fitS
 rw [hc,Xkh,Qw]
 by_cases hv:vrI c.n r=true
 ·obtain ⟨_,hl2,ho,hw⟩:=Xoo hv
  have hp:0≤r.pos:=by simp only [vrI,Qd,X0g] at hv;omega
  rw [hv,Qw]
  by_cases hle:r.pos+(r.old.length:Int)≤(c.gs.length:Int)
  ·rw [decide_eq_true hle,Qw,Qw]
   by_cases he:(c.gs.take (r.pos.toNat+r.old.length)).drop r.pos.toNat=r.old
   ·rw [decide_eq_true he,Q4 rfl]
    have hlen:(c.gs.take r.pos.toNat++r.new++c.gs.drop (r.pos.toNat+r.old.length)).length=c.gs.length-r.old.length+r.new.length:=by
     simp only [Qh,Qn,List.length_drop];omega
    have hall:∀ g ∈ c.gs.take r.pos.toNat++r.new++c.gs.drop (r.pos.toNat+r.old.length),gOk c.n g=true:=fun g h=>by
     rcases Qu.1 h with h|h
     ·rcases Qu.1 h with h|h
      ·exact hg g (Wd h)
      ·exact hw g h
     ·exact hg g (List.mem_of_mem_drop h)
    have hmid:midC c r=⟨c.n,c.gs.take r.pos.toNat++r.new++c.gs.drop (r.pos.toNat+r.old.length)⟩:=by unfold midC;simp
    by_cases h4:(c.gs.length:Int)-(r.old.length:Int)+(r.new.length:Int)≤400
    ·have hok:cOk (midC c r)=true:=by
      rw [hmid]
      have h5:((c.gs.take r.pos.toNat++r.new++c.gs.drop (r.pos.toNat+r.old.length)).any fun x=>!gOk c.n x)=false:=by
       rw [W7];intro x hx;simp [hall x hx]
      unfold cOk
      simp only
      rw [h5,X0g.2 hn,hlen,decide_eq_true (by omega)];rfl
     rw [cIf,Q4 hok,Q4 ⟨by simpa using h4,he⟩,hmid]
     refine ⟨rfl,fun c' h=>?_⟩
     injection h with h
     rw [← h]
     rw [hmid] at hok
     exact ⟨hok,rfl,rfl⟩
    ·have hok:¬ cOk (midC c r)=true:=fun h=>by
      obtain ⟨_,h6,_⟩:=X3b h
      rw [hmid] at h6
      simp only at h6
      rw [hlen] at h6
      omega
     rw [cIf,Q3 hok,Q3 (fun h=>h4 (by simpa using h.1))]
     exact ⟨rfl,fun c' h=>by cases h⟩
   ·rw [decide_eq_false he,Q3 (by decide),Q3 (fun h=>he h.2)]
    exact ⟨rfl,fun c' h=>by cases h⟩
  ·rw [decide_eq_false hle]
   exact ⟨rfl,fun c' h=>by simp at h⟩
 ·have hv':vrI c.n r=false:=by simpa using hv
  rw [hv']
  exact ⟨rfl,fun c' h=>by simp at h⟩
structure Sg where (A:Option Addr) (c:Nat) (l:List Gt)
def encSg(s:Sg) : List Value:=[.slice s.A s.l.length s.c]
abbrev cZ:Cx:=⟨0,[]⟩
def midS(c:Cx)(r:Rp) : Cx:=⟨c.n,c.gs.take r.pos.toNat++r.new++c.gs.drop (r.pos.toNat+r.old.length)⟩
theorem Xe9{c:Cx}{r:Rp}(h1:fitS c r=true)(h2:(c.gs.take (r.pos.toNat+r.old.length)).drop r.pos.toNat=r.old) : applyS c r=some (midS c r):=by
 unfold applyS midS
 rw [Q4 ⟨h1,h2⟩]
def szF:List Sr→Int→Int
 | [],t=>t
 | s::l,t=>if szR s.rp t<0 then -1 else szF l (szR s.rp t)
def szL(l:List Sr)(t:Int) : Int:=if t-(l.length:Int)<0 then -1 else szF l (t-(l.length:Int))
def szZ(c:Cx)(l:List Sr)(d:Cx)(t:Int) : Int:=if szG c.gs t<0 then -1 else if szL l (szG c.gs t)<0 then -1 else szG d.gs (szL l (szG c.gs t))
instance:DecidableEq Rp:=fun a b=>decidable_of_iff (a.pos=b.pos∧a.old=b.old∧a.new=b.new) (by cases a;cases b;simp)
theorem Xzg(W:World)(c:Cx)(Ac:Option Addr)(cc:Nat)(b8:Rd W W.heap.size 103 encG Ac c.gs)(m:Mx)(Am:Option Addr)(cm:Nat)(b9:Rd W W.heap.size 53 encD Am m.cells)(hc:cOk c=true)(hm:mOk m=true)(hr:m.rows=((2^c.n.toNat:Nat) : Int)) : Ret Tryz.prog 40 [.agg #[vi c.n,.slice Ac c.gs.length cc],.agg #[vi m.rows,vi m.cols,.slice Am m.cells.length cm],.bool true] W (fun v w=>∃ A c1,v=.tuple #[mV A c1 ((applI c.n c.gs m).getD mZ),.bool (applI c.n c.gs m).isSome]∧Rd w w.heap.size 53 encD A ((applI c.n c.gs m).getD mZ).cells∧Below W.heap.size W w):=by
 obtain ⟨hn,cE,bO⟩:=X3b hc;refine enter Tryz.func40 rfl 40 rfl rfl ?_;intro a y
 have f:=bz W
 refine Zs y fun _ bP=>?_;refine Zf (X0j (zs:=[vi c.n,.slice Ac c.gs.length cc]) rfl rfl) ?_;rintro _ w1 ⟨b4,rfl,bQ,d,g⟩;have cF:=Q0 f.size bQ;have f:=btr f d;refine Zf (X0j (zs:=[vi m.rows,vi m.cols,.slice Am m.cells.length cm]) rfl rfl) ?_;rintro _ w2 ⟨b5,rfl,bR,d,e⟩;have bC:=Q0 f.size bR;have g:=g.below d;have f:=btr f d;refine Zf (X3 (zs:=[vi 0,vi 0,.slice none 0 0]) X0y rfl) ?_;rintro _ w3 ⟨b7,rfl,bS,d,o⟩
 have bN:b5≠b7:=by have:=e.lt;omega
 have bD:=Q0 f.size bS;have g:=g.below d;have e:=e.below d;have f:=btr f d;refine Za rfl<|ZX bP fun a y _ bU=>?_;refine Zs y fun _ bW=>?_;refine Za rfl<|Zt bW fun a y=>?_;refine Q8<|X07 (σ:=Nat×Mx×Bool) (fun (s:Nat×Mx×Bool) (a:Act) (w:World)=>match s with|(i,x,b)=>∃ Q aB,Fr a 40 [(2,.bool b),(3,.pointer (some ⟨b4,0,none⟩)),(4,.pointer (some ⟨b5,0,none⟩)),(6,.pointer (some ⟨b7,0,none⟩)),(8,vi (i:Int))]∧((if b=true then applI c.n (c.gs.drop i) x else none)=(applI c.n c.gs m))∧(b=false→x=mZ)∧(b=true→mOk x=true∧x.rows=((2^c.n.toNat:Nat) : Int))∧(i≤c.gs.length)∧Blk w b4 48 [vi c.n,.slice Ac c.gs.length cc]∧Blk w b5 29 [vi x.rows,vi x.cols,.slice Q x.cells.length aB]∧Blk w b7 29 [vi 0,vi 0,.slice none 0 0]∧Rd w w.heap.size 53 encD Q x.cells∧Below W.heap.size W w) (fun (s:Nat×Mx×Bool)=>match s with|(i,x,b)=>c.gs.length-i) (0,m,true) ?_ ?_
 ·exact ⟨Am,cm,y.sb,rfl,(by simp),(fun _=>⟨hm,hr⟩),(Qf _),g,e,o,(b9.below' f).top,f⟩
 rintro ⟨i,x,b⟩ a w4 ⟨Q,aB,y,aQ,hz,aT,hi,g,e,o,D,f⟩;refine Q5 fun _ bE=>?_;refine Q5 fun _ bF=>?_;refine X02 (fun a w=>Fr a 40 [(2,.bool b),(3,.pointer (some ⟨b4,0,none⟩)),(4,.pointer (some ⟨b5,0,none⟩)),(6,.pointer (some ⟨b7,0,none⟩)),(8,vi (i:Int)),(18,.bool ((decide ((i:Int)<(c.gs.length:Int)))&&b))]∧w4=w) ?_ ?_
 ·refine Zr y<|Zm rfl<|Ze (Vd rfl X1x 1)<|Ze (X0 rfl X6b (g.at 1))<|Ze (X2k rfl X1p)<|Ze (X1h rfl rfl)<|Zm rfl ?_
  refine Zg 16 rfl (fun z=>?_) (fun z=>?_)
  ·refine Zv (gW z) (X7 rfl) ?_;refine Ze (Xe rfl z rfl) ?_;refine Zn fun a y=>?_;exact ⟨y.sub ⟨rfl,rfl,rfl,rfl,rfl,X2 rfl (by first|rfl|(simp only [z,bs];done)|simp [z]),trivial⟩,rfl⟩
  refine Zp (gP z) ?_;refine Ze (Xc rfl z rfl) ?_;refine Zn fun a y=>?_;exact ⟨y.sub ⟨rfl,rfl,rfl,rfl,rfl,X2 rfl (by first|rfl|(simp only [z,bs];done)|simp [z]),trivial⟩,rfl⟩
 rintro a _ ⟨y,rfl⟩;refine bF _ _ ?_
 refine Xl y rfl (fun I=>?_) (fun I=>?_)
 ·have aU:=I
  have bZ:(i:Int)<c.gs.length∧b=true:=by simpa using I
  have aJ:=bZ.2
  obtain ⟨u,hu⟩:=Xw (l:=c.gs) (k:=i) (by omega)
  have cA:=bO u (Qe hu);obtain ⟨bG,cB⟩:=X4b cA
  have bH:=X2m cB (aT aJ).1 (by rw [(aT aJ).2];rfl)
  have cC:=Xel hu;refine Q7<|bE _ _<|Q5 fun _ bI=>?_;refine Q8<|Q5 fun _ bJ=>?_;refine X02 (fun a w=>∃ q B C,Fr a 40 [(3,.pointer (some ⟨b4,0,none⟩)),(4,.pointer (some ⟨b5,0,none⟩)),(6,.pointer (some ⟨b7,0,none⟩)),(8,vi (i:Int)),(9,.pointer (some ⟨q,0,none⟩))]∧W.heap.size≤q∧Blk w q 29 [vi (((gateI c.n u).getD mZ).rows),vi (((gateI c.n u).getD mZ).cols),.slice B (((gateI c.n u).getD mZ).cells).length C]∧b5≠q∧b7≠q∧Own w W.heap.size 53 5 encD B C (((gateI c.n u).getD mZ).cells)∧Below w4.heap.size w4 w) ?_ ?_
  ·have p:Below w4.heap.size w4 w4:=Below.refl _ _
   refine Xz none (fun j=>[12].contains j) mixed ?_;intro w5 d;have g:=g.below d;have e:=e.below d;have o:=o.below d;have f:=btr f d;have p:=btr p d;refine Yb y<|Yo 0 rfl (fun _=>Vd rfl X6h 0)<|Ye 1 rfl (X0 rfl X9 (g.at 0))<|Yo 2 rfl (fun _=>Vd rfl X1x 1)<|Ye 3 rfl (X0 rfl X6b (g.at 1))<|Yo 4 rfl (fun _=>X7 rfl)<|Yi (k:=i) (u:=u) (enc:=encG) (l:=c.gs) 5 rfl trivial rfl rfl X1p Xdg X1a (b8.below' f) hu rfl ?_;intro cG aW;refine Ye 6 rfl (X09 (l:=[vi u.k,vi u.a,vi u.b]) rfl X61 aW rfl) ?_
   have t:Below w5.heap.size w5 w5:=Below.refl _ _
   refine Yc [0,1,2,3,4,5,6,7,8,9,10,11] 2 (fun a w=>∃ q B C,Fr a 40 [(3,.pointer (some ⟨b4,0,none⟩)),(4,.pointer (some ⟨b5,0,none⟩)),(6,.pointer (some ⟨b7,0,none⟩)),(8,vi (i:Int)),(9,.pointer (some ⟨q,0,none⟩)),(30,.agg #[vi (((gateI c.n u).getD mZ).rows),vi (((gateI c.n u).getD mZ).cols),.slice B (((gateI c.n u).getD mZ).cells).length C]),(31,.bool ((gateI c.n u).isSome))]∧W.heap.size≤q∧Blk w q 29 [vi 0,vi 0,.slice none 0 0]∧b5≠q∧b7≠q∧w5.heap.size≤q∧w4.heap.size≤q∧Own w W.heap.size 53 5 encD B C (((gateI c.n u).getD mZ).cells)∧Below w5.heap.size w5 w) ?_ ?_
   ·rintro a w6 ⟨q,B,C,y,U,E,J,L,aX,aY,M,d⟩;clear t;have t:=d;have f:=btr f d;have p:=btr p d;refine Yb y<|Y1 12<|Yh rfl trivial rfl (Vw [vi (((gateI c.n u).getD mZ).rows),vi (((gateI c.n u).getD mZ).cols),.slice B (((gateI c.n u).getD mZ).cells).length C] X0b E) ?_;rintro _ w7 ⟨ho,hb⟩;have G:=E;have M:=M.onlyT ho G rfl;have p:=Below.only p ho aY;have t:=Below.only t ho aX;have f:=Below.only f ho U;have E:=hb;refine Yo 13 rfl (fun _=>X0i rfl) ?_;refine Yd fun a y=>?_
    have cD:Below w4.heap.size w4 w7:=p
    exact ⟨q,B,C,y.sb,U,E,J,L,M,cD⟩
   intro aR;refine Y2 7 11 ?_ ?_
   ·refine Yk rfl trivial (Vc (Xk5 _ c.n u) X9s) (fun _ _ ⟨aK,aL,_,H,d⟩=>d) ?_;rintro _ w8 ⟨aK,aL,rfl,H,d⟩;have H:=H.lower f.size;have e:=e.below d;have o:=o.below d;have f:=btr f d;have p:=btr p d;have t:=btr t d;refine Yo 8 rfl (fun _=>X7 rfl)<|Yo 9 rfl (fun _=>X1 (vs:=[.agg #[vi (((gateI c.n u).getD mZ).rows),vi (((gateI c.n u).getD mZ).cols),.slice aK (((gateI c.n u).getD mZ).cells).length aL],.bool ((gateI c.n u).isSome)]) rfl rfl)<|Yo 10 rfl (fun _=>X1 (vs:=[.agg #[vi (((gateI c.n u).getD mZ).rows),vi (((gateI c.n u).getD mZ).cols),.slice aK (((gateI c.n u).getD mZ).cells).length aL],.bool ((gateI c.n u).isSome)]) rfl rfl)<|Y1 11 ?_;refine Yk rfl trivial (X3 (zs:=[vi 0,vi 0,.slice none 0 0]) X0y rfl) (fun _ _ ⟨_,_,_,h,_⟩=>h) ?_;rintro _ w9 ⟨b23,rfl,aC,d,bK⟩
    have aD:b5≠b23:=by have:=e.lt;omega
    have aE:b7≠b23:=by have:=o.lt;omega
    have aZ:=Q0 f.size aC;have b0:=Q0 p.size aC;have b1:=Q0 t.size aC;have H:=H.below d;have f:=btr f d;have p:=btr p d;have t:=btr t d;exact fun a y=>aR _ a _ rfl ⟨b23,aK,aL,y.sb,aZ,bK,aD,aE,b1,b0,H,t⟩
   refine Yk rfl trivial (X3 (zs:=[vi 0,vi 0,.slice none 0 0]) X0y rfl) (fun _ _ ⟨_,_,_,h,_⟩=>h) ?_;rintro _ cH ⟨b25,rfl,aF,d,aG⟩
   have aH:b5≠b25:=by have:=e.lt;omega
   have aI:b7≠b25:=by have:=o.lt;omega
   have b2:=Q0 f.size aF;have b3:=Q0 p.size aF;have b6:=Q0 t.size aF;have f:=btr f d;have p:=btr p d;have t:=btr t d;refine Y1 7<|Yk rfl trivial (Vc (Xk5 _ c.n u) X9s) (fun _ _ ⟨aM,aN,_,aA,d⟩=>d) ?_;rintro _ cJ ⟨aM,aN,rfl,aA,d⟩;have aA:=aA.lower f.size;have aG:=aG.below d;have f:=btr f d;have p:=btr p d;have t:=btr t d;refine Yo 8 rfl (fun _=>X7 rfl)<|Yo 9 rfl (fun _=>X1 (vs:=[.agg #[vi (((gateI c.n u).getD mZ).rows),vi (((gateI c.n u).getD mZ).cols),.slice aM (((gateI c.n u).getD mZ).cells).length aN],.bool ((gateI c.n u).isSome)]) rfl rfl)<|Yo 10 rfl (fun _=>X1 (vs:=[.agg #[vi (((gateI c.n u).getD mZ).rows),vi (((gateI c.n u).getD mZ).cols),.slice aM (((gateI c.n u).getD mZ).cells).length aN],.bool ((gateI c.n u).isSome)]) rfl rfl) ?_;exact fun a y=>aR _ a _ rfl ⟨b25,aM,aN,y.sb,b2,aG,aH,aI,b6,b3,aA,t⟩
  rintro a cK ⟨q,B,C,y,U,E,J,L,M,d⟩;have g:=g.below d;have e:=e.below d;have o:=o.below d;have D:=D.below d;have f:=btr f d;refine bJ _ _<|Zr y<|Ze (Vn Xr E)<|Ze (Vn Xr e)<|Zf (Vc (Xk6 _ ((gateI c.n u).getD mZ) B C M.rd.top x Q aB D.top (by rw [bG,Qq];exact Xdy hn) (Xm7 (aT aJ).1)) Xa3) ?_;rintro _ cM ⟨aO,aP,rfl,N,d⟩;have N:=N.lower f.size;have g:=g.below d;have e:=e.below d;have o:=o.below d;have f:=btr f d;refine Zm rfl<|Ze (X1 (vs:=[.agg #[vi (((mulI ((gateI c.n u).getD mZ) x).getD mZ).rows),vi (((mulI ((gateI c.n u).getD mZ) x).getD mZ).cols),.slice aO (((mulI ((gateI c.n u).getD mZ) x).getD mZ).cells).length aP],.bool ((mulI ((gateI c.n u).getD mZ) x).isSome)]) rfl rfl)<|Ze (X1 (vs:=[.agg #[vi (((mulI ((gateI c.n u).getD mZ) x).getD mZ).rows),vi (((mulI ((gateI c.n u).getD mZ) x).getD mZ).cols),.slice aO (((mulI ((gateI c.n u).getD mZ) x).getD mZ).cells).length aP],.bool ((mulI ((gateI c.n u).getD mZ) x).isSome)]) rfl rfl)<|Zo (Vw [vi (((mulI ((gateI c.n u).getD mZ) x).getD mZ).rows),vi (((mulI ((gateI c.n u).getD mZ) x).getD mZ).cols),.slice aO (((mulI ((gateI c.n u).getD mZ) x).getD mZ).cells).length aP] X0b e) ?_;rintro _ cO ⟨ho,hb⟩;have G:=e;have g:=g.only ho (Blk.ne g G rfl);have o:=o.only ho (by omega);have N:=N.onlyT ho G rfl;have f:=Below.only f ho bC;have e:=hb;refine Za rfl ?_;refine Zn fun a y=>?_;refine Xn<|bI _ _<|Zr y<|Zm rfl<|Ze (X03 rfl rfl (by omega) (by omega))<|Za rfl ?_;refine Zn fun a y=>?_;refine Xo ?_;exact ⟨(i+1,((mulI ((gateI c.n u).getD mZ) x).getD mZ),(mulI ((gateI c.n u).getD mZ) x).isSome),⟨aO,aP,y.sb,(by rw [← aQ,Q4 aJ,cC,applI];cases mulI ((gateI c.n u).getD mZ) x<;>rfl),(by cases mulI ((gateI c.n u).getD mZ) x<;>simp),(by rw [bG,Qq];intro h0;cases h1:mulI (gateS c.n u) x with|none=>rw [h1] at h0;cases h0|some x1=>exact ⟨(bH.1 x1 h1).2.1,by rw [Qq,(bH.1 x1 h1).2.2.1];rfl⟩),(by omega),g,e,o,N.rd,f⟩,(by first|omega|(dsimp only;omega))⟩
 have aU:=I
 have bL:b=true→¬ (i:Int)<c.gs.length:=by intro h0;subst h0;simpa using I
 refine Q9<|Xm<|Xm<|X08 ?_;refine bU _ _<|Zs y fun _ bM=>?_;refine Ze (Vn Xr e)<|Zm rfl<|Zo (Vw [vi x.rows,vi x.cols,.slice Q x.cells.length aB] X0b o) ?_;rintro _ cP ⟨ho,hb⟩;have G:=o;have D:=D.onlyT ho G rfl;have f:=Below.only f ho bD;have o:=hb;refine Za rfl<|Zt bM fun a y=>?_
 refine Q6 (X4 y (X0r y rfl (ResV.cellN (l:=[vi x.rows,vi x.cols,.slice Q x.cells.length aB]) rfl Xr (o.at 0) rfl) rfl) ?_)
 have aS:applI c.n c.gs m=if b=true then some x else none:=by rw [← aQ];cases b with|false=>rfl|true=>rw [Q4 rfl,Q4 rfl,W3 (by have:=bL rfl;omega)];rfl
 have h1:(applI c.n c.gs m).getD mZ=x:=by rw [aS];cases b with|false=>exact (hz rfl).symm|true=>rfl
 have h2:(applI c.n c.gs m).isSome=b:=by rw [aS];cases b<;>rfl
 rw [h1,h2]
 exact ⟨Q,aB,rfl,D.top,f⟩
theorem Xz2(w0:World)(d:Nat)(h:isDimB (d:Int)=true) : Ret Tryz.prog 39 [vi (d:Int)] w0 (fun v w=>∃ A c,v=.tuple #[mV A c (unitS d),.bool true]∧Own w w0.heap.size 53 5 encD A c (unitS d).cells∧Below w0.heap.size w0 w):=by
 have h1:=Xw7 w0 (d:Int)
 rw [(X3k h).1] at h1
 exact h1
theorem F97(w0:World)(c:Cx)(Ac:Option Addr)(cc:Nat)(B:Rd w0 w0.heap.size 103 encG Ac c.gs)(aG:c.gs.length≤2305843009213693951) : Ret Tryz.prog 17 [.agg #[vi c.n,.slice Ac c.gs.length cc]] w0 (fun v w=>∃ A c1,v=.tuple #[mV A c1 ((opI c).getD mZ),.bool (opI c).isSome]∧Rd w w.heap.size 53 encD A ((opI c).getD mZ).cells∧Below w0.heap.size w0 w):=by
 refine enter Tryz.func17 rfl 23 rfl rfl ?_;intro a k
 have f:=bz w0
 refine Zs k fun _ aH=>?_;refine Zf (X0j (zs:=[vi c.n,.slice Ac c.gs.length cc]) rfl rfl) ?_;rintro _ w1 ⟨b3,rfl,aI,i,e⟩;have aN:=Q0 f.size aI;have f:=btr f i;refine Zf (X3 (zs:=[vi 0,vi 0,.slice none 0 0]) X0y rfl) ?_;rintro _ w2 ⟨b5,rfl,aJ,i,b⟩;have C:=Q0 f.size aJ;have e:=e.below i;have f:=btr f i;refine Za rfl<|ZX aH fun a k _ aK=>?_;refine Zs k fun _ aL=>?_;refine Ze (Vn Xbq e)<|Zf (Vc (F55 _ c Ac cc (B.below' f).top aG) Xxy) ?_;rintro _ w3 ⟨rfl,i⟩;have e:=e.below i;have b:=b.below i;have f:=btr f i;refine Ze (X0o rfl)<|Zt aL fun a k=>?_
 refine Xl k rfl (fun p=>?_) (fun p=>?_)
 ·have aB:=p
  have hn:¬ cOk c=true:=by revert p;cases cOk c<;>simp
  refine Zs k fun _ aM=>?_;refine Ze (Xg (ps:=[]) (cs:=[vi 0,vi 0,.slice none 0 0]) rfl (fun _=>by first|rfl|kernel_rfl))<|Zo (Vw [vi 0,vi 0,.slice none 0 0] X0b b) ?_;rintro _ w4 ⟨y,hb⟩;have j:=b;have f:=Below.only f y C;have b:=hb;refine Za rfl<|Zt aM fun a k=>?_;refine Q6<|Xf<|X4 k (X0r k rfl (ResV.cellN (l:=[vi 0,vi 0,.slice none 0 0]) rfl Xr (b.at 0) rfl) rfl) ?_
  have q:opI c=none:=by rw [opI,Q3 hn]
  rw [q]
  exact ⟨none,0,rfl,(Rd.nil _ 0 _ _ _).top,f⟩
 have aB:=p
 have hc:cOk c=true:=by revert p;cases cOk c<;>simp
 obtain ⟨hn,aO,aP⟩:=X3b hc
 obtain ⟨d,hd⟩ : ∃ d:Nat,d=2^c.n.toNat:=⟨_,rfl⟩
 refine Q7<|aK _ _<|Zs k fun _ aC=>?_;refine Ze (Vd rfl X6h 0)<|Ze (X0 rfl X9 (e.at 0))<|Ze (Xet (m:=c.n.toNat) (D:=d) rfl rfl (by omega) ⟨hd,by omega⟩)<|Zf (Vc (Xz2 _ d (by rw [hd];exact X33 hn)) Xkw) ?_;rintro _ w5 ⟨z,h,rfl,g,i⟩;have g:=g.lower f.size;have e:=e.below i;have b:=b.below i;have f:=btr f i;refine Zm rfl<|Ze (X1 (vs:=[.agg #[vi ((unitS d).rows),vi ((unitS d).cols),.slice z ((unitS d).cells).length h],.bool true]) rfl rfl)<|Ze (X1 (vs:=[.agg #[vi ((unitS d).rows),vi ((unitS d).cols),.slice z ((unitS d).cells).length h],.bool true]) rfl rfl)<|Zf (X3 (zs:=[vi 0,vi 0,.slice none 0 0]) X0y rfl) ?_;rintro _ w6 ⟨b14,rfl,aD,i,o⟩
 have aE:b5≠b14:=by have:=b.lt;omega
 have aA:=Q0 f.size aD;have e:=e.below i;have b:=b.below i;have g:=g.below i;have f:=btr f i;refine Zo (Vw [vi ((unitS d).rows),vi ((unitS d).cols),.slice z ((unitS d).cells).length h] X0b o) ?_;rintro _ w7 ⟨y,hb⟩;have j:=o;have e:=e.only y (Blk.ne e j rfl);have b:=b.only y (by omega);have g:=g.onlyT y j rfl;have f:=Below.only f y aA;have o:=hb;refine Za rfl<|Zx aC fun a k _ aF=>?_;refine Ze (Vn Xbq e)<|Ze (Vn Xr o)<|Zm rfl<|Zf (Vc (Xzg _ c Ac cc (B.below' f).top (unitS d) z h g.rd.top hc (X3k (by rw [hd];exact X33 hn)).2 (by rw [← hd];rfl)) Xta) ?_;rintro _ w8 ⟨t,u,rfl,x,i⟩;have b:=b.below i;have f:=btr f i;refine Ze (X1 (vs:=[.agg #[vi (((applI c.n c.gs (unitS d)).getD mZ).rows),vi (((applI c.n c.gs (unitS d)).getD mZ).cols),.slice t (((applI c.n c.gs (unitS d)).getD mZ).cells).length u],.bool ((applI c.n c.gs (unitS d)).isSome)]) rfl rfl)<|Ze (X1 (vs:=[.agg #[vi (((applI c.n c.gs (unitS d)).getD mZ).rows),vi (((applI c.n c.gs (unitS d)).getD mZ).cols),.slice t (((applI c.n c.gs (unitS d)).getD mZ).cells).length u],.bool ((applI c.n c.gs (unitS d)).isSome)]) rfl rfl)<|Zo (Vw [vi (((applI c.n c.gs (unitS d)).getD mZ).rows),vi (((applI c.n c.gs (unitS d)).getD mZ).cols),.slice t (((applI c.n c.gs (unitS d)).getD mZ).cells).length u] X0b b) ?_;rintro _ w9 ⟨y,hb⟩;have j:=b;have x:=x.onlyT y j rfl;have f:=Below.only f y C;have b:=hb;refine Za rfl<|Zt aF fun a k=>?_
 refine Q6 (X4 k (X0r k rfl (ResV.cellN (l:=[vi (((applI c.n c.gs (unitS d)).getD mZ).rows),vi (((applI c.n c.gs (unitS d)).getD mZ).cols),.slice t (((applI c.n c.gs (unitS d)).getD mZ).cells).length u]) rfl Xr (b.at 0) rfl) rfl) ?_)
 have q:opI c=applI c.n c.gs (unitS d):=by rw [opI,Q4 hc,← hd,(X3k (by rw [hd];exact X33 hn)).1];rfl
 rw [q]
 exact ⟨t,u,rfl,x.top,f⟩
theorem Xzn(w0:World)(d:Nat)(hd:d≤32) : Ret Tryz.prog 52 [vi (d:Int)] w0 (fun v w=>∃ A c,v=mV A c (unitS d)∧Own w w0.heap.size 53 5 encD A c (unitS d).cells∧Below w0.heap.size w0 w):=by
 have aR:d*d≤1024:=X2r hd hd
 refine enter Tryz.func52 rfl 27 rfl rfl ?_;intro a q
 have n:=bz w0
 refine Zs q fun _ aM=>?_;refine Zf (X3 (zs:=[vi 0,vi 0,.slice none 0 0]) X0y rfl) ?_;rintro _ w1 ⟨b3,rfl,aN,o,b⟩;have aB:=Q0 n.size aN;have n:=btr n o;refine Zx aM fun a q _ aO=>?_;refine Zm rfl<|Zm rfl<|Zm rfl<|Zm rfl<|Ze (Xbx (m:=d) (k:=d) rfl rfl (by omega))<|Zf (Xf0 (m:=(d*d:Nat)) (enc:=encD) (z0:=dZ) rfl rfl X01 X13 X0n rfl X06 (by omega) (by omega)) ?_;rintro _ w2 ⟨y,rfl,aP,o,e⟩;have z:=Q0 n.size aP;have b:=b.below o;have n:=btr n o;refine Ze (Xg (ps:=[(0,vi (d:Int)),(1,vi (d:Int)),(2,.slice (some ⟨y,0,none⟩) (d*d:Nat) (d*d:Nat))]) (cs:=[vi (d:Int),vi (d:Int),.slice (some ⟨y,0,none⟩) (d*d:Nat) (d*d:Nat)]) rfl (fun _=>by first|rfl|kernel_rfl))<|Zf (X3 (zs:=[vi 0,vi 0,.slice none 0 0]) X0y rfl) ?_;rintro _ w3 ⟨b9,rfl,aQ,o,f⟩
 have aL:b3≠b9:=by have:=b.lt;omega
 have aC:=Q0 n.size aQ;have b:=b.below o;have e:=e.below o;have n:=btr n o;refine Zo (Vw [vi (d:Int),vi (d:Int),.slice (some ⟨y,0,none⟩) (d*d:Nat) (d*d:Nat)] X0b f) ?_;rintro _ w4 ⟨x,hb⟩;have p:=f;have b:=b.only x (by omega);have e:=e.only x (Blk.ne e p rfl);have n:=Below.only n x aC;have f:=hb;refine ZX aO fun a q _ aD=>?_;refine Zs q fun _ aE=>?_;refine Za rfl<|Zt aE fun a q=>?_;refine Q8<|X07 (σ:=Nat×(List Dy)) (fun (s:Nat×(List Dy)) (a:Act) (w:World)=>match s with|(i,l)=>Fr a 27 [(0,vi (d:Int)),(2,.pointer (some ⟨b3,0,none⟩)),(3,.pointer (some ⟨b9,0,none⟩)),(4,vi (i:Int))]∧(i≤d)∧(l=unitP d i)∧Blk w b3 29 [vi 0,vi 0,.slice none 0 0]∧Blk w y 53 (l.flatMap encD)∧Blk w b9 29 [vi (d:Int),vi (d:Int),.slice (some ⟨y,0,none⟩) (d*d:Nat) (d*d:Nat)]∧Below w0.heap.size w0 w) (fun (s:Nat×(List Dy))=>match s with|(i,l)=>d-i) (0,List.replicate (d*d) dZ) ?_ ?_
 ·exact ⟨q.sb,(Qf _),(Xg9 d),b,e,f,n⟩
 rintro ⟨i,l⟩ a w5 ⟨q,hi,hl,b,e,f,n⟩;refine Q5 fun _ aF=>?_;refine Zs q fun _ aG=>?_;refine Zm rfl<|Zm rfl<|Ze (X1h rfl rfl)<|Zt aG fun a q=>?_
 refine Xl q rfl (fun g=>?_) (fun g=>?_)
 ·have aA:=g;have g:=Q2 g
  have t:i<d:=by have:=g;omega
  have aS:=X2r (show i≤32 by omega) hd
  refine Q7<|aF _ _<|Q5 fun _ aH=>?_;refine Q8<|Xz none (fun j=>[9].contains j) mixed ?_;intro w6 o;have b:=b.below o;have e:=e.below o;have f:=f.below o;have n:=btr n o;refine Yb q<|Yo 0 rfl (fun _=>Vd rfl X11 2)<|Ye 1 rfl (X0 rfl X0p (f.at 2))<|Yo 2 rfl (fun _=>X7 rfl)<|Yo 3 rfl (fun _=>X7 rfl)<|Yo 4 rfl (fun _=>Xbx (m:=i) (k:=d) rfl rfl (by have:=X2r (show i≤32 by omega) hd;omega))<|Yo 5 rfl (fun _=>X7 rfl)<|Yo 6 rfl (fun _=>X03 rfl rfl (by omega) (by omega))<|Y1 7 ?_;refine Yk rfl trivial (Vc (Xdn _ 0) X69) (fun _ _ ⟨_,o⟩=>o) ?_;rintro _ w7 ⟨rfl,o⟩;have b:=b.below o;have e:=e.below o;have f:=f.below o;have n:=btr n o;refine Yo 8 rfl (fun _=>Xq4 (k:=(i*d+i)) (off:=(i*d+i)*5) rfl rfl X01 Xd (by omega) (X3u t t) rfl)<|Y1 9 ?_;refine Yh rfl trivial rfl (Xna (enc:=encD) (l:=l) (u:=(dPow 0)) (k:=(i*d+i)) rfl rfl Xd e X06 X2h rfl (by rw [hl,Xbe];exact X3u t t)) ?_;rintro _ w8 ⟨x,hb⟩;have p:=e;have b:=b.only x (Blk.ne b p rfl);have f:=f.only x (Blk.ne f p rfl);have n:=Below.only n x z;have e:=hb;refine Yd fun a q=>?_;refine Xn<|aH _ _<|Zr q<|Zm rfl<|Ze (X03 rfl rfl (by omega) (by omega))<|Za rfl ?_;refine Zn fun a q=>?_;refine Xo ?_;exact ⟨(i+1,(l.set (i*d+i) (dPow 0))),⟨q.sb,(by omega),(by rw [hl];exact Xfl t),b,e,f,n⟩,(by first|omega|(dsimp only;omega))⟩
 have aA:=g;have g:=Q1 g
 have t:i=d:=by have:=g;omega
 refine Q9<|Xm<|Xm<|X08 ?_;refine aD _ _<|Zs q fun _ aI=>?_;refine Ze (Vn Xr f)<|Zo (Vw [vi (d:Int),vi (d:Int),.slice (some ⟨y,0,none⟩) (d*d:Nat) (d*d:Nat)] X0b b) ?_;rintro _ w9 ⟨x,hb⟩;have p:=b;have e:=e.only x (Blk.ne e p rfl);have n:=Below.only n x aB;have b:=hb;refine Zt aI fun a q=>?_
 refine Q6 (X4 q (Xx q rfl (ResV.cellN (l:=[vi (d:Int),vi (d:Int),.slice (some ⟨y,0,none⟩) (d*d:Nat) (d*d:Nat)]) rfl Xr (b.at 0) rfl)) ?_)
 have aJ:l.length=d*d:=by rw [hl,Xbe]
 have aK:d*d≤maxLen:=by simp only [maxLen];omega
 have h:(unitS d).cells=l:=by rw [Xft,hl,t]
 exact ⟨(some ⟨y,0,none⟩),(d*d:Nat),by show _=Value.agg #[vi (d:Int),vi (d:Int),.slice _ (unitS d).cells.length _];rw [h,aJ],by rw [h];exact (Own.of_flat X06 e z aJ aK),n⟩
theorem X6q(w0:World)(bV:Nat)(f:Bool)(t:Blk w0 bV 97 [.bool f])(p:Mx)(Ap:Option Addr)(cp:Nat)(e:Rd w0 w0.heap.size 53 encD Ap p.cells)(q:Mx)(Aq:Option Addr)(cq:Nat)(g:Rd w0 w0.heap.size 53 encD Aq q.cells)(hp:mOk p=true)(hq:mOk q=true)(dE:p.cols=q.rows) : Ret Tryz.prog 86 [.pointer (some ⟨bV,0,none⟩),.agg #[vi p.rows,vi p.cols,.slice Ap p.cells.length cp],.agg #[vi q.rows,vi q.cols,.slice Aq q.cells.length cq]] w0 (fun v w=>∃ A c1,v=mV A c1 ((timesS f p q).2)∧Own w w0.heap.size 53 5 encD A c1 ((timesS f p q).2).cells∧Kept bV w0.heap.size w0 w∧Blk w bV 97 [.bool ((timesS f p q).1)]):=by
 have dA:=t.lt;have b9:=X2q hp;have bC:=X2q hq;have aT:=X0s hp;have aU:=X0s hq
 have dF:p.cells.length≤1024:=by rw [b9.2.2];exact X2r (by omega) (by omega)
 have dG:q.cells.length≤1024:=by rw [bC.2.2];exact X2r (by omega) (by omega)
 have cP:p.cols=(p.cols.toNat:Int):=by omega
 have cQ:q.cols=(q.cols.toNat:Int):=by omega
 suffices hgoal:Ret Tryz.prog 86 [.pointer (some ⟨bV,0,none⟩),.agg #[vi p.rows,vi (p.cols.toNat:Int),.slice Ap p.cells.length cp],.agg #[vi q.rows,vi (q.cols.toNat:Int),.slice Aq q.cells.length cq]] w0 (fun v w=>∃ A c1,v=.agg #[vi p.rows,vi (q.cols.toNat:Int),.slice A (timesS f p q).2.cells.length c1]∧Own w w0.heap.size 53 5 encD A c1 (timesS f p q).2.cells∧Kept bV w0.heap.size w0 w∧Blk w bV 97 [.bool (timesS f p q).1]) by rw [← cP,← cQ] at hgoal;exact hgoal
 refine enter Tryz.func86 rfl 75 rfl rfl ?_;intro a H
 have G:Kept bV w0.heap.size w0 w0:=Kept.refl _ _ _
 refine Zs H fun _ cR=>?_;refine Zf (X0j (zs:=[vi p.rows,vi (p.cols.toNat:Int),.slice Ap p.cells.length cp]) rfl rfl) ?_;rintro _ w1 ⟨b4,rfl,cS,D,x⟩;have dB:=Q0 G.size cS;have t:=t.below D;have e:=e.below D;have g:=g.below D;have G:=ktr G D;refine Zf (X0j (zs:=[vi q.rows,vi (q.cols.toNat:Int),.slice Aq q.cells.length cq]) rfl rfl) ?_;rintro _ w2 ⟨b5,rfl,cU,D,y⟩
 have cK:b4≠b5:=by have:=x.lt;omega
 have dC:=Q0 G.size cU;have t:=t.below D;have x:=x.below D;have e:=e.below D;have g:=g.below D;have G:=ktr G D;refine Zf (X3 (zs:=[vi 0,vi 0,.slice none 0 0]) X0y rfl) ?_;rintro _ w3 ⟨b7,rfl,cV,D,z⟩
 have cM:b4≠b7:=by have:=x.lt;omega
 have cO:b5≠b7:=by have:=y.lt;omega
 have bD:=Q0 G.size cV;have t:=t.below D;have x:=x.below D;have y:=y.below D;have e:=e.below D;have g:=g.below D;have G:=ktr G D;refine Zx cR fun a H _ cW=>?_;refine Ze (Vd rfl X1c 0)<|Ze (X0 rfl X9 (x.at 0))<|Ze (Vd rfl X14 1)<|Ze (X0 rfl X9 (y.at 1))<|Ze (Xg (ps:=[(0,vi p.rows),(1,vi (q.cols.toNat:Int))]) (cs:=[vi p.rows,vi (q.cols.toNat:Int),.slice none 0 0]) rfl (fun _=>by first|rfl|kernel_rfl))<|Zf (X3 (zs:=[vi 0,vi 0,.slice none 0 0]) X0y rfl) ?_;rintro _ w4 ⟨b11,rfl,bE,D,o⟩
 have bF:b4≠b11:=by have:=x.lt;omega
 have bG:b5≠b11:=by have:=y.lt;omega
 have bH:b7≠b11:=by have:=z.lt;omega
 have aL:=Q0 G.size bE;have t:=t.below D;have x:=x.below D;have y:=y.below D;have z:=z.below D;have e:=e.below D;have g:=g.below D;have G:=ktr G D;refine Zo (Vw [vi p.rows,vi (q.cols.toNat:Int),.slice none 0 0] X0b o) ?_;rintro _ w5 ⟨I,hb⟩;have n:=o;have t:=t.only I (Blk.ne t n rfl);have x:=x.only I (by omega);have y:=y.only I (by omega);have z:=z.only I (by omega);have e:=e.onlyT I n rfl;have g:=g.onlyT I n rfl;have G:=Kept.only G I aL;have o:=hb;refine ZX cW fun a H _ bI=>?_;refine Zs H fun _ bJ=>?_;refine Za rfl<|Zt bJ fun a H=>?_;refine Q8<|X07 (σ:=Nat×(List Dy)×Bool) (fun (s:Nat×(List Dy)×Bool) (a:Act) (w:World)=>match s with|(i,l,f1)=>∃ aC aD,Fr a 75 [(0,.pointer (some ⟨bV,0,none⟩)),(4,.pointer (some ⟨b4,0,none⟩)),(5,.pointer (some ⟨b5,0,none⟩)),(6,.pointer (some ⟨b7,0,none⟩)),(7,.pointer (some ⟨b11,0,none⟩)),(8,vi (i:Int))]∧((i:Int)≤p.rows)∧(timesL f p q (i*q.cols.toNat)=(f1,l))∧Blk w bV 97 [.bool f1]∧Blk w b4 29 [vi p.rows,vi (p.cols.toNat:Int),.slice Ap p.cells.length cp]∧Blk w b5 29 [vi q.rows,vi (q.cols.toNat:Int),.slice Aq q.cells.length cq]∧Blk w b7 29 [vi 0,vi 0,.slice none 0 0]∧Blk w b11 29 [vi p.rows,vi (q.cols.toNat:Int),.slice aC l.length aD]∧Rd w w0.heap.size 53 encD Ap p.cells∧Rd w w0.heap.size 53 encD Aq q.cells∧Own w w0.heap.size 53 5 encD aC aD l∧Kept bV w0.heap.size w0 w) (fun (s:Nat×(List Dy)×Bool)=>match s with|(i,l,f1)=>(p.rows-i).toNat) (0,[],f) ?_ ?_
 ·exact ⟨none,0,H.sb,(by omega),(by rw [Nat.zero_mul];rfl),t,x,y,z,o,e,g,(Own.nil _ _ _ _ _),G⟩
 rintro ⟨i,l,f1⟩ a w6 ⟨aC,aD,H,hi,hl,t,x,y,z,o,e,g,aF,G⟩;refine Q5 fun _ bK=>?_;refine Zs H fun _ bL=>?_;refine Zm rfl<|Ze (Vd rfl X1c 0)<|Ze (X0 rfl X9 (x.at 0))<|Ze (X1h rfl rfl)<|Zt bL fun a H=>?_
 refine Xl H rfl (fun J=>?_) (fun J=>?_)
 ·have W:=J;have J:=Q2 J
  have bM:(i:Int)<p.rows:=J
  refine Q7<|bK _ _<|Q5 fun _ bN=>?_;refine Q8<|Zs H fun _ bO=>?_;refine Za rfl<|Zt bO fun a H=>?_;refine Q8<|X07 (σ:=Nat×(List Dy)×Bool) (fun (s:Nat×(List Dy)×Bool) (a:Act) (w:World)=>match s with|(j,l2,f2)=>∃ aI aJ,Fr a 75 [(0,.pointer (some ⟨bV,0,none⟩)),(4,.pointer (some ⟨b4,0,none⟩)),(5,.pointer (some ⟨b5,0,none⟩)),(6,.pointer (some ⟨b7,0,none⟩)),(7,.pointer (some ⟨b11,0,none⟩)),(8,vi (i:Int)),(9,vi (j:Int))]∧(j≤q.cols.toNat)∧(timesL f p q (i*q.cols.toNat+j)=(f2,l2))∧Blk w bV 97 [.bool f2]∧Blk w b4 29 [vi p.rows,vi (p.cols.toNat:Int),.slice Ap p.cells.length cp]∧Blk w b5 29 [vi q.rows,vi (q.cols.toNat:Int),.slice Aq q.cells.length cq]∧Blk w b7 29 [vi 0,vi 0,.slice none 0 0]∧Blk w b11 29 [vi p.rows,vi (q.cols.toNat:Int),.slice aI l2.length aJ]∧Rd w w0.heap.size 53 encD Ap p.cells∧Rd w w0.heap.size 53 encD Aq q.cells∧Own w w0.heap.size 53 5 encD aI aJ l2∧Kept bV w0.heap.size w0 w) (fun (s:Nat×(List Dy)×Bool)=>match s with|(j,l2,f2)=>q.cols.toNat-j) (0,l,f1) ?_ ?_
  ·exact ⟨aC,aD,H.sb,(Qf _),hl,t,x,y,z,o,e,g,aF,G⟩
  rintro ⟨j,l2,f2⟩ a w7 ⟨aI,aJ,H,hj,aO,t,x,y,z,o,e,g,C,G⟩;refine Q5 fun _ bP=>?_;refine Zs H fun _ bQ=>?_;refine Zm rfl<|Ze (Vd rfl X14 1)<|Ze (X0 rfl X9 (y.at 1))<|Ze (X1h rfl rfl)<|Zt bQ fun a H=>?_
  refine Xl H rfl (fun L=>?_) (fun L=>?_)
  ·have aA:=L;have L:=Q2 L
   have aP:j<q.cols.toNat:=by have:=L;omega
   have dD:l2.length=i*q.cols.toNat+j:=by have:=X78 f p q (i*q.cols.toNat+j);rw [aO] at this;exact this
   have dH:=X2r (show i≤32 by omega) (show q.cols.toNat≤32 by omega)
   have aW:=Xe4 (f:=f) (a:=p) (b:=q) (i:=i) aP
   rw [aO] at aW
   refine Q7<|bP _ _<|Q5 fun _ bR=>?_;refine Q8<|Zs H fun _ bS=>?_;refine Ze (Xg (ps:=[]) (cs:=[vi 0,vi 0,vi 0,vi 0,vi 0]) rfl (fun _=>by first|rfl|kernel_rfl))<|Zf (X3 (zs:=[vi 0,vi 0,vi 0,vi 0,vi 0]) X0n rfl) ?_;rintro _ w8 ⟨aQ,rfl,aG,D,B⟩;have N:=Q0 G.size aG;have bU:=e.away aG;have bW:=g.away aG;have Q:=C.away aG;have t:=t.below D;have x:=x.below D;have y:=y.below D;have z:=z.below D;have o:=o.below D;have e:=e.below D;have g:=g.below D;have C:=C.below D;have G:=ktr G D;refine Zo (Vw [vi 0,vi 0,vi 0,vi 0,vi 0] Xd B) ?_;rintro _ w9 ⟨I,hb⟩;have n:=B;have t:=t.only I (Blk.ne t n rfl);have x:=x.only I (Blk.ne x n rfl);have y:=y.only I (Blk.ne y n rfl);have z:=z.only I (Blk.ne z n rfl);have o:=o.only I (Blk.ne o n rfl);have e:=e.only I N;have g:=g.only I N;have C:=C.onlyA I Q;have G:=Kept.only G I N;have B:=hb;refine ZX bS fun a H _ bZ=>?_;refine Zs H fun _ cA=>?_;refine Za rfl<|Zt cA fun a H=>?_;refine Q8<|X07 (σ:=Nat×Dy×Bool) (fun (s:Nat×Dy×Bool) (a:Act) (w:World)=>match s with|(k,sum,U)=>Fr a 75 [(0,.pointer (some ⟨bV,0,none⟩)),(4,.pointer (some ⟨b4,0,none⟩)),(5,.pointer (some ⟨b5,0,none⟩)),(6,.pointer (some ⟨b7,0,none⟩)),(7,.pointer (some ⟨b11,0,none⟩)),(8,vi (i:Int)),(9,vi (j:Int)),(10,.pointer (some ⟨aQ,0,none⟩)),(11,vi (k:Int))]∧(k≤p.cols.toNat)∧(dotS f2 p q i j k=(U,sum))∧Blk w bV 97 [.bool U]∧Blk w b4 29 [vi p.rows,vi (p.cols.toNat:Int),.slice Ap p.cells.length cp]∧Blk w b5 29 [vi q.rows,vi (q.cols.toNat:Int),.slice Aq q.cells.length cq]∧Blk w b7 29 [vi 0,vi 0,.slice none 0 0]∧Blk w b11 29 [vi p.rows,vi (q.cols.toNat:Int),.slice aI l2.length aJ]∧Blk w aQ 53 [vi sum.num.a,vi sum.num.b,vi sum.num.c,vi sum.num.d,vi sum.exp]∧Rd w w0.heap.size 53 encD Ap p.cells∧Rd w w0.heap.size 53 encD Aq q.cells∧Own w w0.heap.size 53 5 encD aI aJ l2∧Kept bV w0.heap.size w0 w) (fun (s:Nat×Dy×Bool)=>match s with|(k,sum,U)=>p.cols.toNat-k) (0,dZ,f2) ?_ ?_
   ·exact ⟨H.sb,(Qf _),rfl,t,x,y,z,o,B,e,g,C,G⟩
   rintro ⟨k,sum,U⟩ a cX ⟨H,hk,hs,t,x,y,z,o,B,e,g,C,G⟩
   have d5:0≤sum.exp∧sum.exp≤60:=by have:=X83 aT aU f2 i j k;rw [hs] at this;exact this
   refine Q5 fun _ cB=>?_;refine Q5 fun _ cC=>?_;refine X02 (fun a w=>Fr a 75 [(0,.pointer (some ⟨bV,0,none⟩)),(4,.pointer (some ⟨b4,0,none⟩)),(5,.pointer (some ⟨b5,0,none⟩)),(6,.pointer (some ⟨b7,0,none⟩)),(7,.pointer (some ⟨b11,0,none⟩)),(8,vi (i:Int)),(9,vi (j:Int)),(10,.pointer (some ⟨aQ,0,none⟩)),(11,vi (k:Int)),(40,.bool ((decide ((k:Int)<(p.cols.toNat:Int)))&&(!U)))]∧cX=w) ?_ ?_
   ·refine Zr H<|Zm rfl<|Ze (Vd rfl X14 1)<|Ze (X0 rfl X9 (x.at 1))<|Ze (X1h rfl rfl)<|Zm rfl ?_
    refine Zg 34 rfl (fun E=>?_) (fun E=>?_)
    ·refine Zv (gW E) (X7 rfl) ?_;refine Zv (gW E) (X48 rfl) ?_;refine Zv (gW E) (Vd rfl X5x 0) ?_;refine Zv (gW E) (X0 rfl Xtj (t.at 0)) ?_;refine Zv (gW E) (X0o rfl) ?_;refine Ze (Xe rfl E rfl) ?_;refine Zn fun a H=>?_;exact ⟨H.sub ⟨rfl,rfl,rfl,rfl,rfl,rfl,rfl,rfl,rfl,X2 rfl (by first|rfl|(simp only [W,aA,E,bs];done)|simp [W,aA,E]),trivial⟩,rfl⟩
    refine Zp (gP E) ?_;refine Zp (gP E) ?_;refine Zp (gP E) ?_;refine Zp (gP E) ?_;refine Zp (gP E) ?_;refine Ze (Xc rfl E rfl) ?_;refine Zn fun a H=>?_;exact ⟨H.sub ⟨rfl,rfl,rfl,rfl,rfl,rfl,rfl,rfl,rfl,X2 rfl (by first|rfl|(simp only [W,aA,E,bs];done)|simp [W,aA,E]),trivial⟩,rfl⟩
   rintro a _ ⟨H,rfl⟩;refine cC _ _ ?_
   refine Xl H rfl (fun aB=>?_) (fun aB=>?_)
   ·have aX:=aB
    have d6:(k:Int)<(p.cols.toNat:Int)∧U=false:=by simpa using aB
    have dI:k<p.cols.toNat:=by omega
    have dJ:=X2r (show i≤32 by omega) (show p.cols.toNat≤32 by omega)
    have dK:=X2r (show k≤32 by omega) (show q.cols.toNat≤32 by omega)
    have d7:=Xki hs d6.2;refine Q7<|cB _ _<|Q5 fun _ cD=>?_;refine Q8<|Xz (some bV) (fun j=>[25].contains j) mixed ?_;intro dL D;have t:=t.below D;have x:=x.below D;have y:=y.below D;have z:=z.below D;have o:=o.below D;have B:=B.below D;have e:=e.below D;have g:=g.below D;have C:=C.below D;have G:=ktr G D;refine Yb H<|Yo 0 rfl (fun _=>X7 rfl) ?_;refine Yw 1 rfl trivial (fun w1 h1=>X09 (l:=[vi sum.num.a,vi sum.num.b,vi sum.num.c,vi sum.num.d,vi sum.exp]) rfl X6 ((B.only h1 (Blk.ne B t rfl)).at 0) rfl) ?_;refine Yo 2 rfl (fun _=>X7 rfl)<|Yo 3 rfl (fun _=>Vd rfl X11 2) ?_;refine Yw 4 rfl trivial (fun w1 h1=>X0 rfl X0p ((x.only h1 (Blk.ne x t rfl)).at 2)) ?_;refine Yo 5 rfl (fun _=>X7 rfl)<|Yo 6 rfl (fun _=>Vd rfl X14 1) ?_;refine Yw 7 rfl trivial (fun w1 h1=>X0 rfl X9 ((x.only h1 (Blk.ne x t rfl)).at 1)) ?_;refine Yo 8 rfl (fun _=>Xbx (m:=i) (k:=p.cols.toNat) rfl rfl (by have:=X2r (show i≤32 by omega) (show p.cols.toNat≤32 by omega);omega))<|Yo 9 rfl (fun _=>X7 rfl)<|Yo 10 rfl (fun _=>X03 rfl rfl (by omega) (by omega)) ?_;refine Ya (k:=(i*p.cols.toNat+k)) (u:=(p.at i k)) (enc:=encD) (l:=p.cells) 11 rfl trivial t rfl rfl rfl X01 Xd X06 e (Mx.at_get (by rw [b9.2.2];exact X3u (by omega) (by omega))) (by omega) ?_;intro dM aY aR;refine Yw 12 rfl trivial (fun w1 h1=>X09 (l:=[vi ((p.at i k).num.a),vi ((p.at i k).num.b),vi ((p.at i k).num.c),vi ((p.at i k).num.d),vi ((p.at i k).exp)]) rfl X6 (aY.only h1 aR) rfl) ?_;refine Yo 13 rfl (fun _=>Vd rfl X11 2) ?_;refine Yw 14 rfl trivial (fun w1 h1=>X0 rfl X0p ((y.only h1 (Blk.ne y t rfl)).at 2)) ?_;refine Yo 15 rfl (fun _=>X7 rfl)<|Yo 16 rfl (fun _=>Vd rfl X14 1) ?_
    refine Yw 17 rfl trivial (fun w1 h1=>X0 rfl X9 ((y.only h1 (Blk.ne y t rfl)).at 1)) ?_;refine Yo 18 rfl (fun _=>Xbx (m:=k) (k:=q.cols.toNat) rfl rfl (by have:=X2r (show k≤32 by omega) (show q.cols.toNat≤32 by omega);omega))<|Yo 19 rfl (fun _=>X7 rfl)<|Yo 20 rfl (fun _=>X03 rfl rfl (by omega) (by omega)) ?_;refine Ya (k:=(k*q.cols.toNat+j)) (u:=(q.at k j)) (enc:=encD) (l:=q.cells) 21 rfl trivial t rfl rfl rfl X01 Xd X06 g (Mx.at_get (by rw [bC.2.2];exact X3u (by omega) (by omega))) (by omega) ?_;intro dN aZ aS;refine Yw 22 rfl trivial (fun w1 h1=>X09 (l:=[vi ((q.at k j).num.a),vi ((q.at k j).num.b),vi ((q.at k j).num.c),vi ((q.at k j).num.d),vi ((q.at k j).exp)]) rfl X6 (aZ.only h1 aS) rfl) ?_;refine Y1 23<|Yf rfl trivial (EfW.mono (Vc (Xwq _ bV U t (p.at i k) (q.at k j) (X26 (Mx.at_ok aT i k)) (X26 (Mx.at_ok aU k j))) Xlw) (fun _ _ h=>⟨fun _=>by obtain ⟨rfl,hK,aE⟩:=h;exact hK.keep,h⟩)) ?_;rintro _ dP ⟨rfl,hK,aE⟩;obtain ⟨wm,hO,hm,D⟩:=hK.mid;clear hm;have n:=t;have x:=x.only hO (Blk.ne x n rfl);have y:=y.only hO (Blk.ne y n rfl);have z:=z.only hO (Blk.ne z n rfl);have o:=o.only hO (Blk.ne o n rfl);have B:=B.only hO (Blk.ne B n rfl);have e:=e.onlyT hO n rfl;have g:=g.onlyT hO n rfl;have C:=C.onlyT hO n rfl;have G:=G.self hO;have x:=x.below D;have y:=y.below D;have z:=z.below D;have o:=o.below D;have B:=B.below D;have e:=e.below D;have g:=g.below D;have C:=C.below D;have G:=ktr G D
    clear n D hO hK;have t:=aE;clear aE;refine Y1 24<|Yf rfl trivial (EfW.mono (Vc (Xtk _ bV ((sMul U (p.at i k) (q.at k j)).1) t sum ((sMul U (p.at i k) (q.at k j)).2) d5 (Xai (X26 (Mx.at_ok aT i k)) (X26 (Mx.at_ok aU k j)))) Xg6) (fun _ _ h=>⟨fun _=>by obtain ⟨rfl,hK,aE⟩:=h;exact hK.keep,h⟩)) ?_;rintro _ dQ ⟨rfl,hK,aE⟩;obtain ⟨wm,hO,hm,D⟩:=hK.mid;clear hm;have n:=t;have x:=x.only hO (Blk.ne x n rfl);have y:=y.only hO (Blk.ne y n rfl);have z:=z.only hO (Blk.ne z n rfl);have o:=o.only hO (Blk.ne o n rfl);have B:=B.only hO (Blk.ne B n rfl);have e:=e.onlyT hO n rfl;have g:=g.onlyT hO n rfl;have C:=C.onlyT hO n rfl;have G:=G.self hO;have x:=x.below D;have y:=y.below D;have z:=z.below D;have o:=o.below D;have B:=B.below D;have e:=e.below D;have g:=g.below D;have C:=C.below D;have G:=ktr G D
    clear n D hO hK;have t:=aE;clear aE;refine Y1 25<|Yh rfl trivial rfl (Vw [vi (((sAdd ((sMul U (p.at i k) (q.at k j)).1) sum ((sMul U (p.at i k) (q.at k j)).2)).2).num.a),vi (((sAdd ((sMul U (p.at i k) (q.at k j)).1) sum ((sMul U (p.at i k) (q.at k j)).2)).2).num.b),vi (((sAdd ((sMul U (p.at i k) (q.at k j)).1) sum ((sMul U (p.at i k) (q.at k j)).2)).2).num.c),vi (((sAdd ((sMul U (p.at i k) (q.at k j)).1) sum ((sMul U (p.at i k) (q.at k j)).2)).2).num.d),vi (((sAdd ((sMul U (p.at i k) (q.at k j)).1) sum ((sMul U (p.at i k) (q.at k j)).2)).2).exp)] Xd B) ?_;rintro _ dR ⟨I,hb⟩;have n:=B;have t:=t.only I (Blk.ne t n rfl);have x:=x.only I (Blk.ne x n rfl);have y:=y.only I (Blk.ne y n rfl);have z:=z.only I (Blk.ne z n rfl);have o:=o.only I (Blk.ne o n rfl);have e:=e.only I N;have g:=g.only I N;have C:=C.onlyA I Q;have G:=Kept.only G I N;have B:=hb;refine Yd fun a H=>?_;refine Xn<|cD _ _<|Zr H<|Zm rfl<|Ze (X03 rfl rfl (by omega) (by omega))<|Za rfl ?_;refine Zn fun a H=>?_;refine Xo ?_;exact ⟨(k+1,(sAdd (sMul U (p.at i k) (q.at k j)).1 sum (sMul U (p.at i k) (q.at k j)).2).2,(sAdd (sMul U (p.at i k) (q.at k j)).1 sum (sMul U (p.at i k) (q.at k j)).2).1),⟨H.sb,(by omega),d7,t,x,y,z,o,B,e,g,C,G⟩,(by first|omega|(dsimp only;omega))⟩
   have aX:=aB
   have cE:U=true∨k=p.cols.toNat:=by (cases U with|true=>exact .inl rfl|false=>exact .inr (by have h9:¬ (k:Int)<(p.cols.toNat:Int):=(by simpa using aB);omega))
   have d8:=Xq5 hs hk cE
   rw [d8] at aW
   refine Q9<|Xm<|Xm<|X08 ?_;refine bZ _ _<|Zr H<|Ze (Vd rfl X11 2)<|Ze (X0 rfl X0p (o.at 2))<|Ze (Vn X6 B)<|Zf (Xb (k:=1) (vs:=[.agg #[vi sum.num.a,vi sum.num.b,vi sum.num.c,vi sum.num.d,vi sum.exp]]) (zs:=[vi sum.num.a,vi sum.num.b,vi sum.num.c,vi sum.num.d,vi sum.exp]) rfl X01 X13 rfl rfl) ?_;rintro _ dS ⟨b38,rfl,aH,D,aM⟩
   have b3:aQ≠b38:=by have:=B.lt;omega
   have d9:=Q0 G.size aH;have cF:=e.away aH;have cG:=g.away aH;have aK:=C.away aH;have t:=t.below D;have x:=x.below D;have y:=y.below D;have z:=z.below D;have o:=o.below D;have B:=B.below D;have e:=e.below D;have g:=g.below D;have C:=C.below D;have G:=ktr G D;refine Zf (X0q (enc:=encD) (l:=(l2)) (l2:=([sum])) (B0:=w0.heap.size) rfl rfl X01 X13 X06 X2h C (Rd.of_blk aM rfl _ aM.lt) (by simp only [maxLen];simp;omega) (by simp;omega) G.size) ?_;rintro _ dT ⟨b0,b1,rfl,aN,hg,b2⟩
   have M:Own _ w0.heap.size 53 5 encD _ _ (l2):=C
   have b6:=b2 _ B.lt Q;have b8:=b2 _ aM.lt aK;clear b2;have t:=t.appT M hg rfl;have x:=x.appT M hg rfl;have y:=y.appT M hg rfl;have z:=z.appT M hg rfl;have o:=o.appT M hg rfl;have e:=e.appB M hg (Qb _);have g:=g.appB M hg (Qb _);have G:=Kept.app G M hg (Qb _) G.size;clear M hg;refine Ze (Vd rfl X11 2)<|Zo (Vu (vs:=[.slice b0 (l2++([sum])).length b1]) (l':=[vi p.rows,vi (q.cols.toNat:Int),.slice b0 (l2++([sum])).length b1]) rfl rfl X4a o) ?_;rintro _ dU ⟨I,hb⟩;have n:=o;have t:=t.only I (Blk.ne t n rfl);have x:=x.only I (by omega);have y:=y.only I (by omega);have z:=z.only I (by omega);have e:=e.onlyT I n rfl;have g:=g.onlyT I n rfl;have aN:=aN.onlyT I n rfl;have G:=Kept.only G I aL;have o:=hb;refine Zn fun a H=>?_;refine Xn<|bR _ _<|Zr H<|Zm rfl<|Ze (X03 rfl rfl (by omega) (by omega))<|Za rfl ?_;refine Zn fun a H=>?_;refine Xo ?_;exact ⟨(j+1,l2++[sum],U),⟨b0,b1,H.sb,(by omega),aW,t,x,y,z,o,e,g,aN,G⟩,(by first|omega|(dsimp only;omega))⟩
  have aA:=L;have L:=Q1 L
  have aP:j=q.cols.toNat:=by have:=L;omega
  refine Q9<|Xm<|Xm<|X08 ?_;refine Xn<|bN _ _<|Zr H<|Zm rfl<|Ze (X03 rfl rfl (by omega) (by omega))<|Za rfl ?_;refine Zn fun a H=>?_;refine Xo ?_;exact ⟨(i+1,l2,f2),⟨aI,aJ,H.sb,(by omega),(by rw [Wb,Nat.one_mul,← aP];rw [← aP] at aO;exact aO),t,x,y,z,o,e,g,C,G⟩,(by first|omega|(dsimp only;omega))⟩
 have W:=J;have J:=Q1 J
 have bM:i=p.rows.toNat:=by have:=J;omega
 refine Q9<|Xm<|Xm<|X08 ?_;refine bI _ _<|Zs H fun _ cH=>?_;refine Ze (Vn Xr o)<|Zo (Vw [vi p.rows,vi (q.cols.toNat:Int),.slice aC l.length aD] X0b z) ?_;rintro _ dW ⟨I,hb⟩;have n:=z;have t:=t.only I (Blk.ne t n rfl);have aF:=aF.onlyT I n rfl;have G:=Kept.only G I bD;have z:=hb;refine Zt cH fun a H=>?_
 refine Q6 (X4 H (Xx H rfl (ResV.cellN (l:=[vi p.rows,vi (q.cols.toNat:Int),.slice aC l.length aD]) rfl Xr (z.at 0) rfl)) ?_)
 have cJ:timesS f p q=(f1,⟨p.rows,q.cols,l⟩):=by rw [timesS,← bM,hl]
 rw [cJ]
 exact ⟨aC,aD,rfl,aF,G,t⟩
theorem Y0f(w0:World)(bV:Nat)(f:Bool)(e:Blk w0 bV 97 [.bool f])(c:Cx)(Ac:Option Addr)(cc:Nat)(d:Rd w0 w0.heap.size 103 encG Ac c.gs)(m:Mx)(Am:Option Addr)(cm:Nat)(C:Rd w0 w0.heap.size 53 encD Am m.cells)(hc:cOk c=true)(hm:mOk m=true)(hr:m.rows=((2^c.n.toNat:Nat) : Int)) : Ret Tryz.prog 51 [.pointer (some ⟨bV,0,none⟩),.agg #[vi c.n,.slice Ac c.gs.length cc],.agg #[vi m.rows,vi m.cols,.slice Am m.cells.length cm]] w0 (fun v w=>∃ A c1,v=mV A c1 ((runS c.n f c.gs m).2)∧Rd w w.heap.size 53 encD A ((runS c.n f c.gs m).2).cells∧Kept bV w0.heap.size w0 w∧Blk w bV 97 [.bool ((runS c.n f c.gs m).1)]):=by
 have bF:=e.lt;obtain ⟨hn,bG,b2⟩:=X3b hc;refine enter Tryz.func51 rfl 30 rfl rfl ?_;intro a B
 have z:Kept bV w0.heap.size w0 w0:=Kept.refl _ _ _
 refine Zs B fun _ b3=>?_;refine Zf (X0j (zs:=[vi c.n,.slice Ac c.gs.length cc]) rfl rfl) ?_;rintro _ w1 ⟨b4,rfl,b6,p,i⟩;have bH:=Q0 z.size b6;have e:=e.below p;have d:=d.below p;have C:=C.below p;have z:=ktr z p;refine Zf (X0j (zs:=[vi m.rows,vi m.cols,.slice Am m.cells.length cm]) rfl rfl) ?_;rintro _ w2 ⟨b5,rfl,b8,p,o⟩;have aM:=Q0 z.size b8;have e:=e.below p;have i:=i.below p;have d:=d.below p;have C:=C.below p;have z:=ktr z p;refine Zf (X3 (zs:=[vi 0,vi 0,.slice none 0 0]) X0y rfl) ?_;rintro _ w3 ⟨b7,rfl,b9,p,q⟩
 have b1:b5≠b7:=by have:=o.lt;omega
 have aN:=Q0 z.size b9;have e:=e.below p;have i:=i.below p;have o:=o.below p;have d:=d.below p;have C:=C.below p;have z:=ktr z p;refine ZX b3 fun a B _ bC=>?_;refine Zs B fun _ bD=>?_;refine Ze (Vd rfl X1x 1)<|Ze (X0 rfl X6b (i.at 1))<|Ze (X2k rfl X1p)<|Zm rfl<|Zt bD fun a B=>?_;refine Q8<|X07 (σ:=Nat×Mx×Bool) (fun (s:Nat×Mx×Bool) (a:Act) (w:World)=>match s with|(k,x,G)=>∃ I M,Fr a 30 [(0,.pointer (some ⟨bV,0,none⟩)),(4,.pointer (some ⟨b4,0,none⟩)),(5,.pointer (some ⟨b5,0,none⟩)),(6,.pointer (some ⟨b7,0,none⟩)),(10,.slice Ac c.gs.length cc),(11,vi (c.gs.length:Int)),(12,vi (k:Int))]∧(runS c.n G (c.gs.drop k) x=runS c.n f c.gs m)∧(G=false→mOk x=true∧x.rows=((2^c.n.toNat:Nat) : Int))∧(k≤c.gs.length)∧Blk w bV 97 [.bool G]∧Blk w b4 48 [vi c.n,.slice Ac c.gs.length cc]∧Blk w b5 29 [vi x.rows,vi x.cols,.slice I x.cells.length M]∧Blk w b7 29 [vi 0,vi 0,.slice none 0 0]∧Rd w w0.heap.size 103 encG Ac c.gs∧Rd w w.heap.size 53 encD I x.cells∧Kept bV w0.heap.size w0 w) (fun (s:Nat×Mx×Bool)=>match s with|(k,x,G)=>c.gs.length-k) (0,m,f) ?_ ?_
 ·exact ⟨Am,cm,B.sb,rfl,(fun _=>⟨hm,hr⟩),(Qf _),e,i,o,q,d,C.top,z⟩
 rintro ⟨k,x,G⟩ a w4 ⟨I,M,B,U,aB,hk,e,i,o,q,d,y,z⟩;refine Zs B fun _ aO=>?_;refine Ze (X1h rfl rfl)<|ZX aO fun a B _ aP=>?_
 refine Xl B rfl (fun D=>?_) (fun D=>?_)
 ·have aF:=D;have D:=Q2 D
  obtain ⟨t,W⟩:=Xw (l:=c.gs) (k:=k) (by omega)
  have aQ:=b2 t (Qe W);obtain ⟨bI,aR⟩:=X4b aQ;have bE:=Xel W;refine Q7<|aP _ _<|Q5 fun _ aD=>?_;refine Q8<|Zs B fun _ aS=>?_;refine Zi (k:=k) (u:=t) (enc:=encG) (l:=c.gs) trivial rfl rfl X1p Xdg X1a d W rfl ?_;intro bJ aG;refine Ze (X09 (l:=[vi t.k,vi t.a,vi t.b]) rfl X61 aG rfl)<|Zf (X3 (zs:=[vi 0,vi 0,vi 0]) Xy1 rfl) ?_;rintro _ w5 ⟨bK,rfl,aE,p,E⟩;have aA:=Q0 z.size aE;have aT:=d.away aE;have e:=e.below p;have i:=i.below p;have o:=o.below p;have q:=q.below p;have d:=d.below p;have y:=y.below p;have z:=ktr z p;refine Zo (Vw [vi t.k,vi t.a,vi t.b] Xdg E) ?_;rintro _ w6 ⟨L,hb⟩;have g:=E;have e:=e.only L (Blk.ne e g rfl);have i:=i.only L (Blk.ne i g rfl);have o:=o.only L (Blk.ne o g rfl);have q:=q.only L (Blk.ne q g rfl);have d:=d.only L aA;have y:=y.onlyT L g rfl;have z:=Kept.only z L aA;have E:=hb;refine Zx aS fun a B _ aU=>?_;refine Zm rfl<|Ze (X48 rfl)<|Ze (Vd rfl X5x 0)<|Ze (X0 rfl Xtj (e.at 0))<|Ze (X0o rfl)<|Zt aU fun a B=>?_
  refine Xl B rfl (fun N=>?_) (fun N=>?_)
  ·have aH:=N
   have J:G=false:=by simpa using N
   have aC:=X2m aR (aB J).1 (by rw [(aB J).2];rfl)
   have aI:runS c.n G (c.gs.drop k) x=runS c.n (timesS G (gateS c.n t) x).1 (c.gs.drop (k+1)) (timesS G (gateS c.n t) x).2:=by rw [J,bE,runS,Q3 (by decide)]
   refine Xz (some bV) (fun j=>[7].contains j) mixed ?_;intro w7 p;have e:=e.below p;have i:=i.below p;have o:=o.below p;have q:=q.below p;have E:=E.below p;have d:=d.below p;have y:=y.below p;have z:=ktr z p;refine Yb B<|Yo 0 rfl (fun _=>X7 rfl)<|Yo 1 rfl (fun _=>Vd rfl X6h 0) ?_;refine Yw 2 rfl trivial (fun w1 h1=>X0 rfl X9 ((i.only h1 (Blk.ne i e rfl)).at 0)) ?_;refine Yw 3 rfl trivial (fun w1 h1=>X09 (l:=[vi t.k,vi t.a,vi t.b]) rfl X61 ((E.only h1 (Blk.ne E e rfl)).at 0) rfl) ?_;refine Yw 5 rfl trivial (fun w1 h1=>X09 (l:=[vi x.rows,vi x.cols,.slice I x.cells.length M]) rfl Xr ((o.only h1 (Blk.ne o e rfl)).at 0) rfl) ?_;refine Y1 4<|Yf rfl trivial (EfW.mono (Vc (Y0s _ c.n t aQ) Xvh) (fun _ _ h=>⟨fun _=>by obtain ⟨aW,aX,rfl,Q,p⟩:=h;exact Keep.of_below p,h⟩)) ?_;rintro _ w8 ⟨aW,aX,rfl,Q,p⟩;have Q:=Q.lower z.size;have e:=e.below p;have i:=i.below p;have o:=o.below p;have q:=q.below p;have d:=d.below p;have y:=y.below p;have z:=ktr z p;refine Y1 6<|Yf rfl trivial (EfW.mono (Vc (X6q _ bV G e (gateS c.n t) aW aX Q.rd.top x I M y.top aR (aB J).1 (by rw [(aB J).2];rfl)) X2w) (fun _ _ h=>⟨fun _=>by obtain ⟨aJ,aK,rfl,H,hK,aL⟩:=h;exact hK.keep,h⟩)) ?_;rintro _ w9 ⟨aJ,aK,rfl,H,hK,aL⟩;have aY:=z.size;obtain ⟨wm,hO,hm,p⟩:=hK.mid;clear hm;have g:=e;have i:=i.only hO (Blk.ne i g rfl);have o:=o.only hO (Blk.ne o g rfl);have q:=q.only hO (Blk.ne q g rfl);have d:=d.onlyT hO g rfl;have z:=z.self hO;have i:=i.below p;have o:=o.below p;have q:=q.below p;have d:=d.below p
   have z:=ktr z p
   clear g p hO hK;have e:=aL;clear aL
   have H:=H.lower aY;clear aY;refine Y1 7<|Yh rfl trivial rfl (Vw [vi (((timesS G (gateS c.n t) x).2).rows),vi (((timesS G (gateS c.n t) x).2).cols),.slice aJ (((timesS G (gateS c.n t) x).2).cells).length aK] X0b o) ?_;rintro _ bL ⟨L,hb⟩;have g:=o;have e:=e.only L (Blk.ne e g rfl);have i:=i.only L (Blk.ne i g rfl);have q:=q.only L (by omega);have d:=d.onlyT L g rfl;have H:=H.onlyT L g rfl;have z:=Kept.only z L aM;have o:=hb;refine Yd fun a B=>?_;refine Xn<|aD _ _<|Zr B<|Ze (X03 rfl rfl (by omega) (by omega))<|Zm rfl ?_;refine Zn fun a B=>?_;refine Xo ?_;exact ⟨(k+1,(timesS G (gateS c.n t) x).2,(timesS G (gateS c.n t) x).1),⟨aJ,aK,B.sb,(by rw [← U,aI]),(by rw [J];intro h0;cases h1:mulI (gateS c.n t) x with|none=>rw [aC.2 h1] at h0;cases h0|some x1=>rw [(aC.1 x1 h1).1];exact ⟨(aC.1 x1 h1).2.1,by rw [(aC.1 x1 h1).2.2.1];rfl⟩),(by omega),e,i,o,q,d,H.rd,z⟩,(by first|omega|(dsimp only;omega))⟩
  have aH:=N
  have J:G=true:=by simpa using N
  have aI:runS c.n G (c.gs.drop k) x=runS c.n G (c.gs.drop (k+1)) x:=by rw [J,X8k,X8k]
  refine Q7<|Xn<|aD _ _<|Zr B ?_;refine Ze (X03 rfl rfl (by omega) (by omega))<|Zm rfl ?_;refine Zn fun a B=>?_;refine Xo ?_;exact ⟨(k+1,x,G),⟨I,M,B.sb,(by rw [← U,aI]),(fun h0=>by rw [J] at h0;cases h0),(by omega),e,i,o,q,d,y.top,z⟩,(by first|omega|(dsimp only;omega))⟩
 have aF:=D;have D:=Q1 D;refine Q9<|Xm<|Xm<|X08 ?_;refine bC _ _<|Zs B fun _ aZ=>?_;refine Ze (Vn Xr o)<|Zo (Vw [vi x.rows,vi x.cols,.slice I x.cells.length M] X0b q) ?_;rintro _ bM ⟨L,hb⟩;have g:=q;have e:=e.only L (Blk.ne e g rfl);have y:=y.onlyT L g rfl;have z:=Kept.only z L aN;have q:=hb;refine Zt aZ fun a B=>?_
 refine Q6 (X4 B (Xx B rfl (ResV.cellN (l:=[vi x.rows,vi x.cols,.slice I x.cells.length M]) rfl Xr (q.at 0) rfl)) ?_)
 have b0:runS c.n f c.gs m=(G,x):=by rw [← U,W3 (by omega)];rfl
 rw [b0]
 exact ⟨I,M,rfl,y.top,z,e⟩
def comS(g h:Gt) : Bool:=(qubI g).any fun x=>(qubI h).any fun y=>y==x
def comI(g h:Gt) : Bool:=(qubI g).any fun x=>(qubI h).any fun y=>x==y
section
variable {p q : Mx}
theorem Xuh(h:(p.rows != q.rows||p.cols != q.cols||(p.cells.length:Int) != (q.cells.length:Int))=true) : (decide (p.rows=q.rows)&&decide (p.cols=q.cols)&&decide (p.cells=q.cells))=false:=by
 rw [Bool.eq_false_iff]
 intro h2
 simp only [Qd,Qr] at h2
 obtain ⟨⟨h3,h4⟩,h5⟩:=h2
 rw [h3,h4,h5] at h
 simp at h
theorem Xll(h:(p.rows != q.rows||p.cols != q.cols||(p.cells.length:Int) != (q.cells.length:Int))=false) : p.rows=q.rows∧p.cols=q.cols∧p.cells.length=q.cells.length:=by
 simp only [Bool.or_eq_false_iff,bne_eq_false_iff_eq] at h
 exact ⟨h.1.1,h.1.2,by omega⟩
theorem Xkd{k:Nat}{u v:Dy}(hu:p.cells[k]? = some u)(hv:q.cells[k]? = some v)(h:¬ u=v) : (decide (p.rows=q.rows)&&decide (p.cols=q.cols)&&decide (p.cells=q.cells))=false:=by
 rw [Bool.eq_false_iff]
 intro h2
 simp only [Qd,Qr] at h2
 rw [h2.2,hv] at hu
 injection hu with hu
 exact h hu.symm
end
def gZ:Gt:=⟨0,0,0⟩
def eqM(p q:Mx) : Bool:=decide (p.rows=q.rows)&&decide (p.cols=q.cols)&&decide (p.cells=q.cells)
def unionS(g h:Gt) : List Int:=(qubI g++qubI h).foldl putI []
structure PairOk (us:List Int) (g h:Gt) : Prop where
 inc:Inc us
 low:∀ x ∈ us,0≤x∧x≤4
 one:1≤us.length
 len:us.length≤5
 gk:¬ g.k=12
 hk:¬ h.k=12
 ga:g.a ∈ us
 ha:h.a ∈ us
 gb:inR g.k 9 11=true→g.b ∈ us
 hb:inR h.k 9 11=true→h.b ∈ us
 gs:gOk (us.length:Int) (smallG us g)=true
 hs:gOk (us.length:Int) (smallG us h)=true
def commS(g h:Gt) : Bool:=if comS g h=true then
  eqM (timesS false (gateS ((unionS g h).length:Int) (smallG (unionS g h) g)) (gateS ((unionS g h).length:Int) (smallG (unionS g h) h))).2
   (timesS (timesS false (gateS ((unionS g h).length:Int) (smallG (unionS g h) g)) (gateS ((unionS g h).length:Int) (smallG (unionS g h) h))).1 (gateS ((unionS g h).length:Int) (smallG (unionS g h) h)) (gateS ((unionS g h).length:Int) (smallG (unionS g h) g))).2
 else true
def commI(g h:Gt) : Bool:=if comI g h=true then
  eqM ((opI ⟨((unionI (qubI g) (qubI h)).length:Int),mapI [g,h] (numbI (unionI (qubI g) (qubI h)))⟩).getD mZ) ((opI ⟨((unionI (qubI g) (qubI h)).length:Int),[mapG (numbI (unionI (qubI g) (qubI h))) h,mapG (numbI (unionI (qubI g) (qubI h))) g]⟩).getD mZ)
 else true
section
variable (gs : List Gt) (s : List Int) (g : Gt) (x : Int)
def pA(j:Nat) : Bool:=decide (x≤s.getD j 0)&&!commS g (gs.getD j gZ)
def pB(j:Nat) : Bool:=s.getD j 0==x&&comS g (gs.getD j gZ)
def faultG(i:Nat) : Int:=if g.k=12 then (if x=0 then 0 else 1) else if inR x 1 400=true then (if (List.range i).any (pA gs s g x)=true then 2 else if (List.range i).any (pB gs s g x)=true then 3 else 0) else 1
def faultS(i:Nat) : Int:=faultG gs s (gs.getD i gZ) (s.getD i 0) i
def qA(j:Nat) : Bool:=!commI (gs.getD j gZ) g&&decide (x≤s.getD j 0)
def qB(j:Nat) : Bool:=s.getD j 0==x&&comI (gs.getD j gZ) g
def faultH(i:Nat) : Int:=if (g.k==12&&x != 0||g.k != 12&&!inR x 1 400)=true then 1 else if (List.range i).any (qA gs s g x)=true then 2 else if (List.range i).any (qB gs s g x)=true then 3 else 0
def faultI(i:Nat) : Int:=faultH gs s (gs.getD i gZ) (s.getD i 0) i
end
def firstF(f:Nat→Int) : Nat→Nat→Int×Int
 | 0,_=>(0,0)
 | n+1,i=>if f i=0 then firstF f n (i+1) else (f i,(i:Int))
def schedS(gs:List Gt)(s:List Int) : Int×Int:=if s.length=gs.length then firstF (faultS gs s) gs.length 0 else (1,0)
def schedI(gs:List Gt)(s:List Int) : Int×Int:=if s.length=gs.length then firstF (faultI gs s) gs.length 0 else (1,0)
def specC(c:Cx)(s:List Int) : Int×Int×Bool:=if cOk c=true then ((schedS c.gs s).1,(schedS c.gs s).2,true) else (0,0,false)
def implC(c:Cx)(s:List Int) : Int×Int×Bool:=if cOk c=true then ((schedI c.gs s).1,(schedI c.gs s).2,true) else (0,0,false)
section
variable {f : Nat → Int} {n i : Nat} {r : Int × Int} {x : Int}
end
section
variable {p : Nat → Bool} {i j : Nat}
end
section
variable {gs : List Gt} {s : List Int} {i : Nat} {g : Gt}
end
theorem Xzp(A:World)(p:Mx)(Ap:Option Addr)(cp:Nat)(aG:Rd A A.heap.size 53 encD Ap p.cells)(q:Mx)(Aq:Option Addr)(cq:Nat)(aH:Rd A A.heap.size 53 encD Aq q.cells)(b2:p.cells.length≤2305843009213693951) : Ret Tryz.prog 8 [.agg #[vi p.rows,vi p.cols,.slice Ap p.cells.length cp],.agg #[vi q.rows,vi q.cols,.slice Aq q.cells.length cq]] A (fun v w=>v=.bool (decide (p.rows=q.rows)&&decide (p.cols=q.cols)&&decide (p.cells=q.cells))∧Below A.heap.size A w):=by
 refine enter Tryz.func8 rfl 45 rfl rfl ?_;intro a g
 have x:=bz A
 refine Zs g fun _ aT=>?_;refine Zf (X0j (zs:=[vi p.rows,vi p.cols,.slice Ap p.cells.length cp]) rfl rfl) ?_;rintro _ w1 ⟨b4,rfl,aU,B,i⟩;have b0:=Q0 x.size aU;have x:=btr x B;refine Zf (X0j (zs:=[vi q.rows,vi q.cols,.slice Aq q.cells.length cq]) rfl rfl) ?_;rintro _ w2 ⟨b5,rfl,aW,B,m⟩
 have aS:b4≠b5:=by have:=i.lt;omega
 have b1:=Q0 x.size aW;have i:=i.below B;have x:=btr x B;refine Za rfl<|ZX aT fun a g _ aX=>?_;refine Q5 fun _ aY=>?_;refine X02 (fun a w=>Fr a 45 [(2,.pointer (some ⟨b4,0,none⟩)),(3,.pointer (some ⟨b5,0,none⟩)),(26,.bool (((p.rows != q.rows)||(p.cols != q.cols))||((p.cells.length:Int) != (q.cells.length:Int))))]∧w2=w) ?_ ?_
 ·refine Zr g<|Ze (Vd rfl X1c 0)<|Ze (X0 rfl X9 (i.at 0))<|Ze (Vd rfl X1c 0)<|Ze (X0 rfl X9 (m.at 0))<|Ze (X4h rfl rfl)<|Zm rfl ?_
  refine Zg 11 rfl (fun f=>?_) (fun f=>?_)
  ·refine Zp (gP f) ?_;refine Zp (gP f) ?_;refine Zp (gP f) ?_;refine Zp (gP f) ?_;refine Zp (gP f) ?_;refine Ze (Xe rfl f rfl)<|Zm rfl<|Zp (gP rfl) ?_;refine Zp (gP rfl) ?_;refine Zp (gP rfl) ?_;refine Zp (gP rfl) ?_;refine Zp (gP rfl) ?_;refine Zp (gP rfl) ?_;refine Zp (gP rfl) ?_;refine Ze (Xe rfl rfl rfl) ?_;refine Zn fun a g=>?_;exact ⟨g.sub ⟨rfl,rfl,X2 rfl (by first|rfl|(simp only [f,bs];done)|simp [f]),trivial⟩,rfl⟩
  refine Zv (gW f) (Vd rfl X14 1) ?_;refine Zv (gW f) (X0 rfl X9 (i.at 1)) ?_;refine Zv (gW f) (Vd rfl X14 1) ?_;refine Zv (gW f) (X0 rfl X9 (m.at 1)) ?_;refine Zv (gW f) (X4h rfl rfl) ?_;refine Ze (Xc rfl f rfl)<|Zm rfl ?_
  refine Zg 18 rfl (fun e=>?_) (fun e=>?_)
  ·refine Zp (gP e) ?_;refine Zp (gP e) ?_;refine Zp (gP e) ?_;refine Zp (gP e) ?_;refine Zp (gP e) ?_;refine Zp (gP e) ?_;refine Zp (gP e) ?_;refine Ze (Xe rfl e rfl) ?_;refine Zn fun a g=>?_;exact ⟨g.sub ⟨rfl,rfl,X2 rfl (by first|rfl|(simp only [f,e,bs];done)|simp [f,e]),trivial⟩,rfl⟩
  refine Zv (gW e) (Vd rfl X11 2) ?_;refine Zv (gW e) (X0 rfl X0p (i.at 2)) ?_;refine Zv (gW e) (X2k rfl X01) ?_;refine Zv (gW e) (Vd rfl X11 2) ?_;refine Zv (gW e) (X0 rfl X0p (m.at 2)) ?_;refine Zv (gW e) (X2k rfl X01) ?_;refine Zv (gW e) (X4h rfl rfl) ?_;refine Ze (Xc rfl e rfl) ?_;refine Zn fun a g=>?_;exact ⟨g.sub ⟨rfl,rfl,X2 rfl (by first|rfl|(simp only [f,e,bs];done)|simp [f,e]),trivial⟩,rfl⟩
 rintro a _ ⟨g,rfl⟩;refine aY _ _ ?_
 refine Xl g rfl (fun n=>?_) (fun n=>?_)
 ·have aA:=n
  have y:(decide (p.rows=q.rows)&&decide (p.cols=q.cols)&&decide (p.cells=q.cells))=false:=Xuh n
  refine Zs g fun _ aI=>?_;refine Za rfl<|Zt aI fun a g=>?_;refine Q6<|Xf<|X4 g (Xx g rfl rfl) ?_;exact ⟨by rw [y],x⟩
 have aA:=n;obtain ⟨e1,e2,e3⟩:=Xll n;refine Q7<|aX _ _<|Q5 fun _ aJ=>?_;refine Zs g fun _ aK=>?_;refine Ze (Vd rfl X11 2)<|Ze (X0 rfl X0p (i.at 2))<|Ze (X2k rfl X01)<|Zm rfl<|Zt aK fun a g=>?_;refine Q8<|X07 (σ:=Nat) (fun (k:Nat) (a:Act) (w:World)=>Fr a 45 [(2,.pointer (some ⟨b4,0,none⟩)),(3,.pointer (some ⟨b5,0,none⟩)),(29,vi (p.cells.length:Int)),(30,vi (k:Int))]∧(k≤p.cells.length)∧(p.cells.take k=q.cells.take k)∧Blk w b4 29 [vi p.rows,vi p.cols,.slice Ap p.cells.length cp]∧Blk w b5 29 [vi q.rows,vi q.cols,.slice Aq q.cells.length cq]∧Below A.heap.size A w) (fun (k:Nat)=>p.cells.length-k) 0 ?_ ?_
 ·exact ⟨g.sb,(Qf _),(by simp),i,m,x⟩
 rintro k a w3 ⟨g,hk,z,i,m,x⟩;refine Zs g fun _ aL=>?_;refine Ze (X1h rfl rfl)<|ZX aL fun a g _ aM=>?_
 refine Xl g rfl (fun j=>?_) (fun j=>?_)
 ·have aB:=j;have j:=Q2 j
  obtain ⟨o,h⟩:=Xw (l:=p.cells) (k:=k) (by omega)
  obtain ⟨v9,aC⟩:=Xw (l:=q.cells) (k:=k) (by omega)
  refine Q7<|aM _ _<|Q5 fun _ aN=>?_;refine Q8<|Zs g fun _ aO=>?_;refine Zm rfl<|Za rfl<|ZX aO fun a g _ aP=>?_;refine Xz none (fun _=>false) mixed ?_;intro w4 B;have i:=i.below B;have m:=m.below B;have x:=btr x B;refine Yb g<|Yo 0 rfl (fun _=>Vd rfl X11 2)<|Ye 1 rfl (X0 rfl X0p (i.at 2))<|Yo 2 rfl (fun _=>X7 rfl)<|Yi (k:=k) (u:=o) (enc:=encD) (l:=p.cells) 3 rfl trivial rfl rfl X01 Xd X06 (aG.below' x) h rfl ?_;intro b3 aD;refine Ye 4 rfl (X09 (l:=[vi o.num.a,vi o.num.b,vi o.num.c,vi o.num.d,vi o.exp]) rfl X6 aD rfl)<|Yo 5 rfl (fun _=>Vd rfl X11 2)<|Ye 6 rfl (X0 rfl X0p (m.at 2))<|Yo 7 rfl (fun _=>X7 rfl)<|Yi (k:=k) (u:=v9) (enc:=encD) (l:=q.cells) 8 rfl trivial rfl rfl X01 Xd X06 (aH.below' x) aC rfl ?_;intro b6 aE;refine Ye 9 rfl (X09 (l:=[vi v9.num.a,vi v9.num.b,vi v9.num.c,vi v9.num.d,vi v9.exp]) rfl X6 aE rfl)<|Yo 10 rfl (fun _=>X7w rfl rfl Xaa (fun w=>eqD 9997 o v9 w)) ?_;refine Yd fun a g=>?_;refine aP _ _ ?_
  refine Xl g rfl (fun t=>?_) (fun t=>?_)
  ·have aF:=t
   have y:(decide (p.rows=q.rows)&&decide (p.cols=q.cols)&&decide (p.cells=q.cells))=false:=Xkd h aC (by simpa using t)
   refine Zs g fun _ aQ=>?_;refine Za rfl<|Zt aQ fun a g=>?_;refine Q6<|X05<|Xf<|Xf ?_;refine X05<|Xf<|X4 g (Xx g rfl rfl) ?_;exact ⟨by rw [y],x⟩
  have aF:=t
  have aZ:o=v9:=by simpa using t
  refine Q7<|Xn<|aN _ _<|Zr g ?_;refine Ze (X03 rfl rfl (by omega) (by omega))<|Zm rfl ?_;refine Zn fun a g=>?_;refine Xo ?_;exact ⟨k+1,⟨g.sb,(by omega),(Xd3 z h aC aZ),i,m,x⟩,(by omega)⟩
 have aB:=j;have j:=Q1 j;refine Q9<|Xm<|Xm<|X08 ?_;refine aJ _ _<|Zs g fun _ aR=>?_;refine Za rfl<|Zt aR fun a g=>?_
 refine Q6 (X4 g (Xx g rfl rfl) ?_)
 have he:p.cells=q.cells:=by rw [Qi (by omega),Qi (by omega)] at z;exact z
 exact ⟨by simp [e1,e2,he],x⟩
def kV(x y:Gt) : Value:=.agg #[.int .i64 x.k,.int .i64 x.a,.int .i64 x.b,.int .i64 y.k,.int .i64 y.a,.int .i64 y.b]
structure Me where (x y:Gt) (v:Bool) (born:Nat)
def entM(m:Me) : MapEntry:={ key:=kV m.x m.y,val:=.bool m.v,born:=m.born }
def findM(l:List Me)(x y:Gt) : Option Bool:=(l.find? fun m=>decide (x=m.x)&&decide (y=m.y)).map Me.v
def GoodM(l:List Me) : Prop:=∀ m ∈ l,m.v = !commI m.x m.y
def MemoL(w:World)(b:Nat)(l:List Me)(clock:Nat) : Prop:=w.heap[b]? = some (.map (l.map entM).toArray clock)
def MemoG(w:World)(b:Nat) : Prop:=∃ l clock,MemoL w b l clock∧GoodM l
def MemoN(x y:Gt)(w:World)(b:Nat) : Prop:=∃ l clock,MemoL w b l clock∧GoodM l∧findM l x y=none
theorem MemoL.lt{w:World}{b clock:Nat}{l:List Me}(h:MemoL w b l clock) : b<w.heap.size:=by
 rcases W4 b w.heap.size with h'|h'
 ·exact h'
 ·simp [MemoL,We h'] at h
theorem MemoL.below{w w':World}{b clock:Nat}{l:List Me}(h:MemoL w b l clock)(hb:Below w.heap.size w w') : MemoL w' b l clock:=(hb.block b h.lt).trans h
theorem MemoL.only{w w':World}{b b' clock:Nat}{l:List Me}(h:MemoL w b l clock)(ho:Only b' w w')(hne:b≠b') : MemoL w' b l clock:=(ho.block b hne).trans h
theorem MemoL.ne{w:World}{b b' clock:Nat}{l:List Me}{T:TypeId}{cs:List Value}(h:MemoL w b l clock)(hb:Blk w b' T cs) : b≠b':=by
 rintro rfl
 unfold MemoL at h
 unfold Blk at hb
 rw [h] at hb
 cases hb
section
variable {w w' : World} {b b' : Nat} {x y : Gt}
theorem MemoG.lt(h:MemoG w b) : b<w.heap.size:=let ⟨_,_,h,_⟩:=h;h.lt
theorem MemoG.below(h:MemoG w b)(hb:Below w.heap.size w w') : MemoG w' b:=let ⟨l,c,h,g⟩:=h;⟨l,c,h.below hb,g⟩
theorem MemoG.only(h:MemoG w b)(ho:Only b' w w')(hne:b≠b') : MemoG w' b:=let ⟨l,c,h,g⟩:=h;⟨l,c,h.only ho hne,g⟩
theorem MemoG.ne{T:TypeId}{cs:List Value}(h:MemoG w b)(hb:Blk w b' T cs) : b≠b':=let ⟨_,_,h,_⟩:=h;h.ne hb
theorem MemoG.good(h:MemoG w b) : MemoG w b:=h
theorem MemoN.good(h:MemoN x y w b) : MemoG w b:=let ⟨l,c,h,g,_⟩:=h;⟨l,c,h,g⟩
theorem MemoN.lt(h:MemoN x y w b) : b<w.heap.size:=let ⟨_,_,h,_⟩:=h;h.lt
theorem MemoN.below(h:MemoN x y w b)(hb:Below w.heap.size w w') : MemoN x y w' b:=let ⟨l,c,h,g⟩:=h;⟨l,c,h.below hb,g⟩
theorem MemoN.only(h:MemoN x y w b)(ho:Only b' w w')(hne:b≠b') : MemoN x y w' b:=let ⟨l,c,h,g⟩:=h;⟨l,c,h.only ho hne,g⟩
theorem MemoN.ne{T:TypeId}{cs:List Value}(h:MemoN x y w b)(hb:Blk w b' T cs) : b≠b':=let ⟨_,_,h,_⟩:=h;h.ne hb
theorem Blk.onlyM{T:TypeId}{cs:List Value}(h:Blk w b' T cs)(ho:Only b w w')(hm:MemoG w b) : Blk w' b' T cs:=h.only ho (Ne.symm (hm.ne h))
theorem Rd.onlyM{α:Type}{B:Nat}{E:TypeId}{enc:α→List Value}{A:Option Addr}{l:List α}(h:Rd w B E enc A l)(ho:Only b w w')(hm:MemoG w b) : Rd w' B E enc A l:=h.chg fun k cs fz _ hk=>ho.block k fun e=>by
 obtain ⟨_,_,hL,_⟩:=hm
 unfold MemoL at hL
 rw [e,hL] at hk
 cases hk
end
theorem Xib{l:List Me}{x y:Gt}{v:Bool}(h:GoodM l)(hf:findM l x y=some v) : v = !commI x y:=by
 unfold findM at hf
 rw [Option.map_eq_some_iff] at hf
 obtain ⟨m,h1,h2⟩:=hf;have h3:=List.find?_some h1
 simp only [Qd,Qr] at h3
 rw [← h2,h m (List.mem_of_find?_eq_some h1),h3.1,h3.2]
def LookM(w:World)(b:Nat)(x y:Gt)(v k:Bool) : Prop:=∃ l clock,MemoL w b l clock∧((k=true∧findM l x y=some v)∨(k=false∧v=false∧findM l x y=none))
theorem MemoG.look{w:World}{b:Nat}(h:MemoG w b)(x y:Gt) : ∃ v k,LookM w b x y v k∧(k=true→v = !commI x y)∧(k=false→MemoN x y w b):=by
 obtain ⟨l,clock,hL,hg⟩:=h
 cases hf:findM l x y with
 | none=>exact ⟨false,false,⟨l,clock,hL,.inr ⟨rfl,rfl,hf⟩⟩,(fun h=>by cases h),fun _=>⟨l,clock,hL,hg,hf⟩⟩
 | some v=>exact ⟨v,true,⟨l,clock,hL,.inl ⟨rfl,hf⟩⟩,fun _=>Xib hg hf,(fun h=>by cases h)⟩
section
variable {a : Act} {w : World} {n : Nat} {e : Env} {ty : TypeId} {pos : String} {af : Array Edge} {g : Option (Nat × Bool)} {d : Option Tmp} {x y : Gt} {b : Nat}
end
section
variable {P : Program} {a : Act} {w : World} {n : Nat} {e : Env} {ty : TypeId} {pos : String} {af : Array Edge} {g : Option (Nat × Bool)} {d : Option Tmp}
theorem Xe1{T E:TypeId}{len sz b off m k:Nat}{x y:Operand}{i:Int}(hf:Fr a n e)(hx:ev e x=some (.pointer (some ⟨b,off,none⟩)))(hy:ev e y=some (.int .i64 i))(hT:P.underlying T=some (.array len E))(hs:SizeT P E sz)(hi:i=(k:Int))(hk:k<len)(hm:off+k*sz=m) :
  Ev P ⟨d,.indexAddr T x y,ty,pos,af,g⟩ a w (.pointer (some ⟨b,m,none⟩)):=fun w' _=>by
 subst hi hm
 have h1:=X0v (P:=P) hT w';have h2:=run_sizeOf' hs w'
 simp [execOp,Instr.indexAt,asIntOf,Instr.sureAddr,hf.ev hx,hf.ev hy,h1,h2,hk,X1v]
theorem Xbv{T E:TypeId}{len sz b off m k:Nat}{x y:Operand}{i:Int}(hx:ev e x=some (.pointer (some ⟨b,off,none⟩)))(hy:ev e y=some (.int .i64 i))(hT:P.underlying T=some (.array len E))(hs:SizeT P E sz)(hi:i=(k:Int))(hk:k<len)(hm:off+k*sz=m) : EvW P ⟨d,.indexAddr T x y,ty,pos,af,g⟩ n e w (.pointer (some ⟨b,m,none⟩)):=fun a hf=>Xe1 hf hx hy hT hs hi hk hm
end
section
variable {P : Program} {a : Act} {w : World} {n : Nat} {e : Env} {α : Type} {ops : Array Oper} {ty : TypeId} {pos : String} {af : Array Edge} {g : Option (Nat × Bool)} {d : Nat}
end
section
variable {gs : List Gt} {s : List Int} {i : Nat} {g : Gt}
end
theorem Xix{z:Dy}(h:dOk z=true) : dLow z.num z.exp=z:=by
 have hz:=X1g.1 h;exact X29 fun h0=>by rcases hz.2.2 with h4|h4;exact absurd h4 (by omega);exact h4
theorem Xag:∀ n:Nat,raiseI n ⟨0,0,0,0⟩=(⟨0,0,0,0⟩,true)
 | 0=>rfl
 | n+1=>by
  rw [raiseI,show rRoot ⟨0,0,0,0⟩=⟨0,0,0,0⟩ from rfl,Q4 (show rIf2 ⟨0,0,0,0⟩ [⟨0,0,0,0⟩]=true from rfl)]
  exact Xag n
theorem Xig{x:Rg}(h:rOk x=true) : rAdd ⟨0,0,0,0⟩ x=x∧rAdd x ⟨0,0,0,0⟩=x:=by
 have h1:=X1w.1 h;obtain ⟨a,b,c,d⟩:=x
 dsimp only at h1
 simp only [rAdd,Int.zero_add,Int.add_zero]
 rw [X0h (by omega) (by omega),X0h (by omega) (by omega),X0h (by omega) (by omega),X0h (by omega) (by omega)]
 exact ⟨rfl,rfl⟩
theorem Xj2{z:Dy}(h:dOk z=true) : dAddI dZ z=some z∧dAddI z dZ=some z:=by
 have hz:=X1g.1 h
 have e1:max dZ.exp z.exp=z.exp:=by simp only [dZ];omega
 have e2:max z.exp dZ.exp=z.exp:=by simp only [dZ];omega
 have r1:dRaise dZ z.exp=(⟨0,0,0,0⟩,true):=Xag _
 have r2:dRaise z z.exp=(z.num,true):=by unfold dRaise;rw [show (z.exp-z.exp).toNat=0 from by omega];rfl
 have a:=Xig hz.1
 have h0:rOk ⟨0,0,0,0⟩=true:=rfl
 have hof:dOf z.num z.exp=some z:=by
  unfold dOf
  rw [hz.1,X0g.2 hz.2.1]
  simp only [Bool.and_self,if_true]
  rw [Xix h]
 refine ⟨?_,?_⟩
 ·unfold dAddI
  rw [h,X8y,e1,r1,r2,rIf1,a.1,X46 h0 hz.1,hz.1]
  simp only [Bool.and_self,if_true]
  exact hof
 ·unfold dAddI
  rw [h,X8y,e2,r1,r2,rIf1,a.2,X46 hz.1 h0,hz.1]
  simp only [Bool.and_self,if_true]
  exact hof
def RB(k:Int)(x:Rg) : Prop:=(-k≤x.a∧x.a≤k)∧(-k≤x.b∧x.b≤k)∧(-k≤x.c∧x.c≤k)∧(-k≤x.d∧x.d≤k)
def SM(e:Int)(k:Int)(x:Dy) : Prop:=dOk x=true∧RB k x.num∧x.exp≤e
theorem RB.ok{k:Int}{x:Rg}(h:RB k x)(hk:k≤1000000000) : rOk x=true:=by
 unfold RB at h
 exact X1w.2 (by omega)
theorem RB.root{k:Int}{x:Rg}(h:RB k x)(hk:k≤1000000000) : RB (2*k) (rRoot x):=by
 unfold RB at *
 simp only [rRoot]
 rw [X0h (by omega) (by omega),X0h (by omega) (by omega),X0h (by omega) (by omega),X0h (by omega) (by omega)]
 omega
theorem RB.half{k:Int}{x:Rg}(h:RB k x)(h0:0≤k)(hk:k≤1000000000) : RB k (rHalf x):=by
 have h1:=h.root hk
 unfold RB at *
 simp only [rHalf]
 have hd:∀ i:Int,-(2*k)≤i→i≤2*k→-k≤wr (i.tdiv 2)∧wr (i.tdiv 2)≤k:=fun i a b=>by
  have:-k≤i.tdiv 2∧i.tdiv 2≤k:=by
   rcases Int.le_total 0 i with h|h
   ·rw [Int.tdiv_eq_ediv_of_nonneg h];omega
   ·have e:i.tdiv 2 = -((-i).tdiv 2):=by rw [Int.neg_tdiv,Int.neg_neg]
    rw [e,Int.tdiv_eq_ediv_of_nonneg (by omega)];omega
  rw [X0h (by omega) (by omega)]
  exact this
 exact ⟨hd _ h1.1.1 h1.1.2,hd _ h1.2.1.1 h1.2.1.2,hd _ h1.2.2.1.1 h1.2.2.1.2,hd _ h1.2.2.2.1 h1.2.2.2.2⟩
theorem RB.low{k:Int}(h0:0≤k)(hk:k≤1000000000) : ∀ (n:Nat) {x:Rg},RB k x→RB k (lowN n x).1
 | 0,_,h=>h
 | n+1,x,h=>by
  rw [lowN]
  split
  ·exact RB.low h0 hk n (h.half h0 hk)
  ·exact h
theorem one_mul{a b:Int}(ha:-1≤a∧a≤1)(hb:-1≤b∧b≤1) : -1≤a*b∧a*b≤1:=by
 have:a = -1∨a=0∨a=1:=by omega
 rcases this with rfl|rfl|rfl<;>omega
theorem w4:∀ p q r s:Int,(-1≤p∧p≤1)→(-1≤q∧q≤1)→(-1≤r∧r≤1)→(-1≤s∧s≤1)→(-4≤wr (wr (wr (wr p-wr q)-wr r)-wr s)∧wr (wr (wr (wr p-wr q)-wr r)-wr s)≤4)∧(-4≤wr (wr (wr (wr p+wr q)-wr r)-wr s)∧wr (wr (wr (wr p+wr q)-wr r)-wr s)≤4)∧(-4≤wr (wr (wr (wr p+wr q)+wr r)-wr s)∧wr (wr (wr (wr p+wr q)+wr r)-wr s)≤4)∧(-4≤wr (wr (wr (wr p+wr q)+wr r)+wr s)∧wr (wr (wr (wr p+wr q)+wr r)+wr s)≤4):=fun p q r s hp hq hr hs=>by
 have a1:wr p=p:=X0h (by omega) (by omega)
 have a2:wr q=q:=X0h (by omega) (by omega)
 have a3:wr r=r:=X0h (by omega) (by omega)
 have a4:wr s=s:=X0h (by omega) (by omega)
 have b1:wr (p-q)=p-q:=X0h (by omega) (by omega)
 have b2:wr (p+q)=p+q:=X0h (by omega) (by omega)
 have c1:wr (p-q-r)=p-q-r:=X0h (by omega) (by omega)
 have c2:wr (p+q-r)=p+q-r:=X0h (by omega) (by omega)
 have c3:wr (p+q+r)=p+q+r:=X0h (by omega) (by omega)
 have d1:wr (p-q-r-s)=p-q-r-s:=X0h (by omega) (by omega)
 have d2:wr (p+q-r-s)=p+q-r-s:=X0h (by omega) (by omega)
 have d3:wr (p+q+r-s)=p+q+r-s:=X0h (by omega) (by omega)
 have d4:wr (p+q+r+s)=p+q+r+s:=X0h (by omega) (by omega)
 rw [a1,a2,a3,a4,b1,b2,c1,c2,c3,d1,d2,d3,d4]
 refine ⟨⟨?_,?_⟩,⟨?_,?_⟩,⟨?_,?_⟩,?_,?_⟩<;>omega
def dotK:Nat→Int
 | 0=>0
 | n+1=>4*dotK n+16
def smB(z:Dy) : Bool:=dOk z&&inR z.num.a (-1) 1&&inR z.num.b (-1) 1&&inR z.num.c (-1) 1&&inR z.num.d (-1) 1&&decide (z.exp≤1)
end Go.Proofs.YtckoekhjglafjaaGreatDoor
